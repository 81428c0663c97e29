/- Part of the proof: QG. Conditions: as each statement tells. -/
import Derived.KernelRfl
import Derived.Test.YtbadoabamddpfaaGreatDoorME
noncomputable section
set_option linter.unusedSimpArgs false
set_option linter.unusedVariables false
open BitVec renaming ofInt→a04,ofInt_natCast→a27,toNat_ofNat→a33,toNat_ofInt→a48,toNat_or→a56,toNat_and→a94
open Bool renaming and_self→a03,not_false→a26,not_eq_true'→a35,true_and→a46,and_eq_true_iff→a73,or_eq_false_iff→a74,eq_false_iff→a91,or_eq_true→a99,eq_iff_iff→b00
open Int renaming eq_ofNat_of_zero_le→a01,natCast_dvd_natCast→a21,cast_ofNat_Int→a25,tmod→a29,toNat→a30,tmod_eq_emod_of_nonneg→a45,tdiv→a47,dvd_mul_of_dvd_left→a49,mul_nonneg→a50,tdiv_eq_ediv_of_nonneg→a58,mul_fdiv_cancel_left→a62,dvd_add_left→a64,toNat_of_nonneg→a76,fdiv→a77,natCast_nonneg→a80,dvd_zero→a85,emod_eq_of_lt→a88,natCast_add→b02
open List renaming replicate→a00,drop_eq_getElem_cons→a02,getElem_mem→a05,all_cons→a06,nil_append→a07,append_eq→a08,length_nil→a19,take_length→a20,drop_zero→a32,mem_of_mem_take→a36,mem_of_mem_drop→a37,take_succ_eq_append_getElem→a38,length→a39,length_eq_zero_iff→a40,append_nil→a42,cons_append→a51,eq_nil_or_concat→a52,length_drop→a53,replicate_succ'→a54,getElem?_append_right→a59,sum_cons→a60,flatMap_cons→a61,drop_length→a63,take_of_length_le→a68,length_singleton→a70,singleton_append→a71,set_cons_zero→a78,getD→a86,take→a90,length_take→a95,not_mem_nil→a97,mem_flatMap→a98,foldl_cons→b01,drop→b03
open Nat renaming pow_le_pow_right→a09,two_pow_pos→a18,le_refl→a23,mod_eq_of_lt→a24,mul_le_mul_right→a28,lt_trans→a31,div_le_self→a34,lt_of_le_of_lt→a41,mod_lt→a43,two_pow_add_eq_or_of_lt→a44,pow_dvd_pow→a55,testBit_two_pow_mul_add→a57,div_eq_of_lt→a65,mul_comm→a66,div_add_mod→a67,min_eq_left→a69,mul_le_mul→a72,div_mul_le_self→a75,one_le_two_pow→a79,sub_self→a81,le_of_lt→a82,add_zero→a83,pow_succ→a84,or_lt_two_pow→a87,add_mod_right→a89,mul_add→a92,mul_one→a93,lt_of_not_le→a96
open Option renaming bind_eq_some_iff→a16,map_eq_some_iff→a22
namespace Go.Ab
variable {L P R d ks l part r row t wm:List Int}{N a b i m o v w:Nat}{c:List (List Int)}{g k lag n sign warm x:Int}{zn:List Nat}{α:Type}
@[reducible] def Stg:Type:=Int×(Int×Unit)
variable {st:List Stg}
theorem a7W{l:List Int}(h:short l):a1d l=some l:=by
 have g:lim (0+l.length)=true:=a0U (by unfold short at h;omega);simp_all[a1d,x0a]
def b1q(s:Stg):Fil:=(s.2.1,a00 s.1.toNat 0,a00 s.1.toNat 0,())
theorem c5f{s:Stg}(h:stageB s=true):FilOk (b1q s):=by
 simp[stageB]at h;refine⟨by rfl,by simp[b1q];omega,by simp[b1q];omega,⟨h.2.2.1,h.2.2.2⟩,fun x g=>?_⟩;simp_all[b1q]
theorem b3N{s:Stg}(h:stageB s=true):a8W s=some (b1q s,0):=by
 have g:=h;simp[stageB]at g;unfold a8W;have f:decide ((0:Int)≤s.1)=true:=by grind
 have k:decide (s.1≤s.1)=true:=by simp
 have a:lim s.1.toNat=true:=a0U (by omega);simp only[b1o,h,oB,bT,cF,f,k,a,a03,cT];rfl
def stO:List Int→List Int→Fil→Option (List Int)
 | [],done,_=>some done
 |r::rs,done,f=>bif a0A (W (a1g f+r))then stO rs (done++[W (a1g f+r)]) (b3f f (W (a1g f+r)))else none
theorem b5Q:∀(l done:List Int)(f:Fil){r},stO l done f=some r→r.length=done.length+l.length
 | [],done,f,r,h=>by simp_all[stO]
 |x::l,done,f,r,h=>by
  simp[stO]at h;cases hw:a0A (W (a1g f+x))with
  |true=>rw[hw]at h;rw[b5Q l _ _ h];grind
  |false=>simp_all
theorem b4t{done:List Int}(g:done.length=i)(h:i<row.length):a86 (done++row.drop i) i 0=row[i]:=by
 grind
theorem c3k{done:List Int}(g:done.length=i)(h:i<row.length)(y:Int):(done++row.drop i).set i y=(done++[y])++row.drop (i+1):=by
 rw[List.set_append_right _ _ (by omega),g,a81,a02 h,a78,aA];rfl
theorem b4u{row b4:List Int}{b5:Int}(d:short row):∀(k i:Nat)(done:List Int)(f:Fil),i+k=row.length→done.length=i→FilOk f→
  ∃z,y0o a5n ((row.length:Int),(i:Int),b4,b5,done++row.drop i,f,())=some z∧
   match stO (row.drop i) done f with
   |some r=>z=.inl (b4,b5,r,())
   |none=>∃q,z=.inr (([]:List Int),(6:Int),q,())
 |0,i,done,f,h,hd,hf=>by
  obtain rfl:i=row.length:=by omega
  rw[a63,a42];exact⟨_,a0E (b:=Sum.inl (b4,b5,done,())) (by simp[a5n]),rfl⟩
 |k+1,i,done,f,h,hd,hf=>by
  have hi:i<row.length:=by omega
  have e:row.length<1000000:=d;have a:decide ((0:Int)≤(i:Int))=true:=by simp
  have j:(done++row.drop i).length=row.length:=by grind
  have c:decide ((i:Int)<(((done++row.drop i).length:Nat):Int))=true:=by simp_all
  have g:stO (row.drop i) done f=bif a0A (W (a1g f+row[i]))then stO (row.drop (i+1)) (done++[W (a1g f+row[i])]) (b3f f (W (a1g f+row[i])))else none:=by
   rw[a02 hi];rfl
  rw[g];cases hw:a0A (W (a1g f+row[i]))with
  |true=>
   rw[a0F (s':=((row.length:Int),((i+1:Nat):Int),b4,b5,(done++[W (a1g f+row[i])])++row.drop (i+1),b3f f (W (a1g f+row[i])),())) (by
    simp only[a5n,dlt hi,a,c,cT,a03,a6l hf,oB,tN,b4t hd hi,a5i,hw,bT,cF,b6F hf,c3k hd hi,a0B (show i<1000000 by omega)])]
   exact b4u d k (i+1) _ _ (by omega) (by simp_all) (c3j hf _)
  |false=>
   exact⟨_,a0E (b:=Sum.inr (([]:List Int),(6:Int),done++row.drop i,())) (by
    simp only[a5n,dlt hi,a,c,cT,a03,a6l hf,oB,tN,b4t hd hi,a5i,hw,a26]),_,rfl⟩
def lO:List Stg→List Int→Option (List Int)
 | [],row=>some row
 |s::r,row=>match stO row [] (b1q s)with
  |some row'=>lO r row'
  |none=>none
theorem c4E{s:Stg}{b4:List Int}(h:stageB s=true)(b:short row):
  ∃z,a7y k s (st,b4,(0:Int),row,())=some z∧match stO row [] (b1q s)with
   |some r=>z=.inl (st,b4,(0:Int),r,())
   |none=>∃q,z=.inr (.ret,st,([]:List Int),(6:Int),q,()):=by
 obtain⟨z,g,f⟩:=b4u (b4:=b4) (b5:=0) b row.length 0 [] (b1q s) (by omega) rfl (c5f h);simp at g f;unfold a7y;have a:((0:Int) != 0)=false:=rfl;simp[b3N h,g];cases hst:stO row [] (b1q s)with
 |some r=>
  simp_all
 |none=>
  grind
theorem b8o{st l:List Stg}{b4:List Int}(f:∀s∈l,stageB s=true):∀(n:Nat)(row:List Int),n≤l.length→short row→
  ∃z,l0b a7y l n (st,b4,(0:Int),row,())=some z∧match lO (l.take n).reverse row with
   |some r=>z=.inl (st,b4,(0:Int),r,())
   |none=>∃q,z=.inr (.ret,st,([]:List Int),(6:Int),q,())
 |0,row,_,_=>⟨_,rfl,rfl⟩
 |n+1,row,hn,hs=>by
  have h:n<l.length:=by omega
  obtain⟨z,a,g⟩:=c4E (st:=st) (k:=(n:Int)) (b4:=b4) (f _ (a05 h)) hs;have b:(l.take (n+1)).reverse=l[n]::(l.take n).reverse:=by simp
  simp[l0b,lG h,a,b,lO];cases hst:stO row [] (b1q l[n])with
  |some r=>
   rw[hst]at g;simp at g;subst g;exact b8o f n r (by omega) (by have:=b5Q _ _ _ hst;unfold short at hs⊢;simp_all)
  |none=>
   grind
def b2q(rest:List Int)(st:List Stg):Option (List Int):=bif rest.all a0A then lO st.reverse rest else none
theorem c2A{rest:List Int}(a:a9f st=true)(c:rest.length<100000):a9X (rest,st)=some (a5a (b2q rest st)):=by
 have f:=a;simp only[a9f,bA,dT]at f;have k:short st:=by unfold short;omega
 have h:short rest:=by unfold short;omega
 unfold a9X;simp only[b3K k,a,oB,bT,cF,b3J h,b2q];cases hw:rest.all a0A with
 |false=>rfl
 |true=>
  obtain⟨z,b,g⟩:=b8o (st:=st) (b4:=[]) (lA.1 f.2) st.length rest (a23 _) h;rw[a20]at g;simp[a7W h,a0U k,b];cases hst:lO st.reverse rest with
  |some r=>
   rw[hst]at g;simp at g;subst g;rfl
  |none=>
   rw[hst]at g;obtain⟨q,rfl⟩:=g;rfl
open IntKind(wrap)
def a6m(n warm:Int):Bool:=decide (1≤n)&&(decide (n≤4096)&&(decide (0≤warm)&&decide (warm≤n)))
theorem b3O(n warm:Int):a7l (n,warm)=some (a6m n warm):=by
 grind[a7l,a6m]
theorem d2v(h:o≤8):1≤2^o∧2^o≤256:=by
 have:o=0∨o=1∨o=2∨o=3∨o=4∨o=5∨o=6∨o=7∨o=8:=by omega
 grind
theorem c3l(h:o≤64):A0k .i64 (N:Int) (o:Int)=((N / 2^o:Nat):Int):=by
 unfold A0k;show a77 (N:Int) (2^(min (o:Int).toNat 64))=_
 grind
theorem b8S(h:o≤64)(g:N*2^o<9223372036854775808):A0j .i64 (N:Int) (o:Int)=((N*2^o:Nat):Int):=by
 unfold A0j;show wrap .i64 ((N:Int)*2^(min (o:Int).toNat 64))=_
 grind[a0C]
def b5t(o N:Nat)(warm:Int):List Int:=
 if N%2^o=0∧warm≤((N / 2^o:Nat):Int)then(((N / 2^o:Nat):Int)-warm)::a00 (2^o-1) ((N / 2^o:Nat):Int)else[]
def a1J(order n warm:Int):List Int:=bif a6m n warm&&(decide (0≤order)&&decide (order≤8))then b5t order.toNat n.toNat warm else[]
theorem a1Y(order n warm:Int):a2R (order,n,warm)=some (a1J order n warm):=by
 unfold a2R a1J;simp only[b3O,oB];cases hr:a6m n warm with
 |false=>rfl
 |true=>
  simp[a6m]at hr;simp only[bT,cF,a46]
  by_cases h1:order<0
  grind
  by_cases h2:order > 8
  grind
  obtain⟨o,rfl⟩:=a01 (show 0≤order by omega);obtain⟨N,rfl⟩:=a01 (show 0≤n by omega);have p:o≤8:=by omega
  have q:N≤4096:=by omega
  have hp:=d2v p;have m:N / 2^o*2^o≤N:=a75 N _;have l:(0:Int)≤(o:Int):=by omega
  have g8:(o:Int)≤8:=by omega
  simp only[h1,h2,l,g8,decide_true,decide_false,cF,cT,a03,oB,c3l (N:=N) (show o≤64 by omega),b8S (N:=N / 2^o) (show o≤64 by omega) (by omega),tN];have g:=a67 N (2^o);rw[a66]at g
  by_cases hm:N%2^o=0
  have k:(((N / 2^o*2^o:Nat):Int) != (N:Int))=false:=by simp_all
  by_cases hw:warm≤((N / 2^o:Nat):Int)
  have c:decide (((N / 2^o:Nat):Int)<warm)=false:=decide_eq_false (Int.not_lt.2 hw);have e:wrap .i64 (((N / 2^o:Nat):Int)-warm)=((N / 2^o:Nat):Int)-warm:=a0C (by have:=a34 N (2^o);omega);simp only[k,c,e,cF,oB,b5t,hm,hw,and_self,if_true];have d:A0j .i64 (1:Int) (o:Int)=((2^o:Nat):Int):=by have:=b8S (N:=1) (show o≤64 by omega) (by omega);simp_all
  have:=a1B (f:=a6w) (fun i=>((o:Int),((N / 2^o:Nat):Int),(((N / 2^o:Nat):Int)-warm)::a00 i ((N / 2^o:Nat):Int),())) (2^o-1)
   (b:=((((N / 2^o:Nat):Int)-warm)::a00 (2^o-1) ((N / 2^o:Nat):Int),())) (fun i hi=>by
    have a:decide ((((((N / 2^o:Nat):Int)-warm)::a00 i ((N / 2^o:Nat):Int)).length:Int)<((2^o:Nat):Int))=true:=by
     grind
    have h:lim (((((N / 2^o:Nat):Int)-warm)::a00 i ((N / 2^o:Nat):Int)).length+1)=true:=a0U (by grind);have j:a00 i ((N / 2^o:Nat):Int)++[((N / 2^o:Nat):Int)]=a00 (i+1) ((N / 2^o:Nat):Int):=by grind[a54]
    simp only[a6w,h1,decide_false,cF,d,a,cT,h,a08,a51,j])
   (by
    have a:decide ((((((N / 2^o:Nat):Int)-warm)::a00 (2^o-1) ((N / 2^o:Nat):Int)).length:Int)<((2^o:Nat):Int))=false:=by
     simp_all
    simp only[a6w,h1,decide_false,cF,d,a])
  simp_all;have c:decide (((N / 2^o:Nat):Int)<warm)=true:=decide_eq_true (Int.not_le.1 hw);simp_all[b5t];have k:(((N / 2^o*2^o:Nat):Int) != (N:Int))=true:=by grind
  simp only[k,cT,oB,b5t,hm,false_and,if_false]
@[reducible] def Prt:Type:=Int×((List Int)×Unit)
variable {p:Prt}
def kB(k:Int):Bool:=(decide (0≤k)&&decide (k≤25)) || (k==31)
def a5B(p:Prt)(n warm:Int):Bool:=!((a1J p.1 n warm).length==0)&&((a1J p.1 n warm).length==p.2.1.length&&p.2.1.all kB)
theorem b3P(g:short p.2.1):a8V (p,n,warm)=some (a5B p n warm):=by
 have:=a2i (f:=a4q) p.2.1 (fun i=>(p.2.1,(p.2.1.length:Int),(i:Int),())) kB (bt:=Sum.inl ()) (bf:=Sum.inr (false,()))
  (fun i h hp=>by
   simp[kB]at hp
   by_cases h1:p.2.1[i]<0
   omega
   by_cases h2:p.2.1[i] > 25
   have b:p.2.1[i]=31:=by omega
   have a:(p.2.1[i] != 31)=false:=by simp_all
   simp[a4q,a0D h,h,h1,h2,a,a0B (a31 h g)];simp[a4q,a0D h,h,h1,h2,a0B (a31 h g)])
  (fun i h hp=>by
   have hp:¬ (kB p.2.1[i]=true):=by simp_all
   simp only[kB,a99,bA,dT,beq_iff_eq]at hp
   grind[a4q,a0D])
  (by simp[a4q])
 simp at this;unfold a8V a5B;simp[a1Y]
 by_cases h0:(a1J p.1 n warm).length=0
 simp_all
 ·have e:((((a1J p.1 n warm).length:Nat):Int)==0)=false:=by simp_all
  have k:((a1J p.1 n warm).length==0)=false:=by simp_all
  simp[e,k]
  by_cases h1:(a1J p.1 n warm).length=p.2.1.length
  all_goals grind
@[reducible] def Sub:Type:=Int×(Int×(Int×(Int×(Int×((List Int)×((List Int)×((List Stg)×((List Int)×(Prt×((List Int)×Unit))))))))))
variable {s:Sub}
structure SmallS (s:Sub):Prop where
 coefs:s.2.2.2.2.2.1.length≤40
 taps:s.2.2.2.2.2.2.1.length=3
 stages:s.2.2.2.2.2.2.2.1.length≤6
 warm:s.2.2.2.2.2.2.2.2.1.length≤5000
 rest:s.2.2.2.2.2.2.2.2.2.2.1.length≤5000
 ks:s.2.2.2.2.2.2.2.2.2.1.2.1.length≤300
theorem b3Q(x y:List Int):eqT (.arr 3 (.int .i64)) x y=decide (x=y):=by
 show((List.zipWith (fun(a b:Int)=>a==b) x y).all id&&x.length==y.length)=_
 induction x generalizing y with
 |nil=>cases y<;>simp
 |cons a x ih=>
  cases y with
  |nil=>simp
  |cons b y=>
   grind[List.zipWith_cons_cons]
theorem b5R{l:List Int}(h:short l):a3L l=some l:=a7W h
theorem b8p{l:List Stg}(h:short l):a1m l=some l:=by
 have g:lim (0+l.length)=true:=a0U (by unfold short at h;omega);simp_all[a1m,x0a]
def a3R(k:Int)(s:Sub)(n:Int):Prop:=
 k=0∨k=1∨(k=2∧0≤s.2.2.1∧s.2.2.1≤4∧s.2.2.1≤n)∨(k=3∧a9C s.2.2.2.2.2.1 s.2.2.2.1=true∧(s.2.2.2.2.2.1.length:Int)≤n)∨
  (k=4∧a9C s.2.2.2.2.2.1 s.2.2.2.1=true∧(s.2.2.2.2.2.1.length:Int)≤n∧b2b s.2.2.2.2.1 s.2.2.2.2.2.2.1=true)∨
  (k=5∧0<s.2.2.2.2.2.2.2.1.length∧a9f s.2.2.2.2.2.2.2.1=true)
open Classical in
def b3R (k:Int) (s:Sub) (n:Int):Bool:=decide (a3R k s n)
theorem b5u{s:Sub}(h:SmallS s)(k n:Int):a7L (k,s,n)=some (b3R k s n):=by
 have a:short s.2.2.2.2.2.1:=by have:=h.coefs;unfold short;omega
 have b:short s.2.2.2.2.2.2.2.1:=by have:=h.stages;unfold short;omega
 unfold a7L b3R a3R
 by_cases k0:k=0
 simp_all
 by_cases k1:k=1
 simp_all;have g:(k==0)=false:=by grind
 have f:(k==1)=false:=by grind
 simp only[g,f,cF,oB]
 by_cases k2:k=2
 subst k2
 grind
 by_cases k3:k=3
 subst k3
 grind[a9u]
 by_cases k4:k=4
 subst k4;cases hl:a9C s.2.2.2.2.2.1 s.2.2.2.1<;>by_cases h2:(s.2.2.2.2.2.1.length:Int)≤n<;>simp[a9u a,b4V h.taps,hl,h2]
 by_cases k5:k=5
 ·subst k5
  by_cases h1:0<s.2.2.2.2.2.2.2.1.length
  all_goals simp_all[b3K]
 grind
def a2l(s:Sub)(n:Int):Int:=if s.1=0 then 1 else if s.1=1 then n else if s.1=2 then s.2.2.1 else if s.1=3∨s.1=4 then(s.2.2.2.2.2.1.length:Int)else 0
theorem b2r(s:Sub)(n:Int):a4A (s,n)=some (a2l s n):=by
 grind[a4A,a2l]
def b5v(s:Sub):Prop:=
 (s.1≠2→s.2.2.1=0)∧(s.1≠3∧s.1≠4→s.2.2.2.1=0)∧(s.1≠4→s.2.2.2.2.1=0)∧(s.1≠4→s.2.2.2.2.2.2.1=[0,0,0])∧(s.1≠3∧s.1≠4→s.2.2.2.2.2.1=[])∧(s.1≠5→s.2.2.2.2.2.2.2.1=[])
open Classical in
def b5w (s:Sub):Bool:=decide (b5v s)
theorem b1r{c x:Bool}:(bif c then some x else some false)=some (c&&x):=by grind
theorem d2w(l:List α):(((l.length:Nat):Int)==0)=decide (l=[]):=by
 cases l with
 |nil=>rfl
 |cons a l=>rfl
theorem c1o(x:Int):(x==0)=decide (x=0):=rfl
theorem c3m{s:Sub}(h:SmallS s):b1G s=some (b5w s):=by
 have e:short s.2.2.2.2.2.1:=by have:=h.coefs;unfold short;omega
 have g:short s.2.2.2.2.2.2.2.1:=by have:=h.stages;unfold short;omega
 obtain⟨k,w,o,sh,lag,c,t,st,j,p,r,u⟩:=s;simp only at e g;unfold b1G a5Z b5w b5v;have i:(a00 3 (0:Int))=[0,0,0]:=rfl
 by_cases k2:k=2
 simp_all[b3Q,b1r,c1o]
 by_cases k4:k=4
 simp_all[b3Q,b1r,c1o,b5R]
 by_cases k3:k=3
 simp_all[b3Q,b1r,c1o,b5R]
 by_cases k5:k=5
 simp_all[b3Q,b1r,c1o,b8p];have f:(k==2)=false:=by grind
 have a:(k==3)=false:=by grind
 have b:(k==4)=false:=by grind
 have d:(k==5)=false:=by grind
 simp[f,a,b,d,k2,k3,k4,k5,b3Q,i,b1r,d2w,c1o]
theorem a6s(k:Int):a5X k=some (decide (k≠0∧k≠1)):=by
 unfold a5X
 by_cases h0:k=0
 simp_all
 ·by_cases h1:k=1
  all_goals grind
def a1s(s:Sub)(n:Int):Prop:=
 1≤n∧n≤4096∧a3R s.1 s n∧b5v s∧0≤s.2.1∧s.2.1≤30∧(s.1=0→s.2.1=0)∧(s.2.2.2.2.2.2.2.2.1.length:Int)=a2l s n∧s.2.2.2.2.2.2.2.2.1.all a0A=true∧s.2.2.2.2.2.2.2.2.2.2.1.all a0A=true∧
  (s.1=0∨s.1=1→s.2.2.2.2.2.2.2.2.2.2.1=[]∧s.2.2.2.2.2.2.2.2.2.1.1=0∧s.2.2.2.2.2.2.2.2.2.1.2.1=[])∧
  (s.1≠0∧s.1≠1→(s.2.2.2.2.2.2.2.2.2.2.1.length:Int)=n-a2l s n∧a5B s.2.2.2.2.2.2.2.2.2.1 n (a2l s n)=true)
theorem c4F(h:SmallS s)(a:1≤n)(b:n≤4096)(f:a3R s.1 s n):0≤a2l s n∧a2l s n≤4096:=by
 have c:=h.coefs;unfold a2l;rcases f with k|k|⟨k,g⟩|⟨k,g⟩|⟨k,g⟩|⟨k,g⟩<;>simp[k]<;>omega
open Classical in
theorem c7m {s:Sub} (h:SmallS s) (n:Int):a9S (s,n)=some (decide (a1s s n)):=by
 have hw:short s.2.2.2.2.2.2.2.2.1:=by have:=h.warm;unfold short;omega
 have hr:short s.2.2.2.2.2.2.2.2.2.2.1:=by have:=h.rest;unfold short;omega
 have hk:short s.2.2.2.2.2.2.2.2.2.1.2.1:=by have:=h.ks;unfold short;omega
 unfold a9S
 by_cases h1:1≤n
 rotate_left
 ·have e1:decide (n<1)=true:=by simp_all
  have:¬ a1s s n:=fun hp=>h1 hp.1
  simp_all
 have e1:decide (n<1)=false:=by simp_all
 by_cases h2:n≤4096
 rotate_left
 ·have e2:decide (n > 4096)=true:=by simp_all
  have:¬ a1s s n:=fun hp=>h2 hp.2.1
  simp_all
 have e2:decide (n > 4096)=false:=by simp_all
 by_cases h3:a3R s.1 s n
 rotate_left
 ·have e3:b3R s.1 s n=false:=by simp[b3R,h3]
  have:¬ a1s s n:=fun hp=>h3 hp.2.2.1
  simp_all[b5u]
 have e3:b3R s.1 s n=true:=by simp[b3R,h3]
 by_cases h4:b5v s
 rotate_left
 ·have e4:b5w s=false:=by simp[b5w,h4]
  have:¬ a1s s n:=fun hp=>h4 hp.2.2.2.1
  simp_all[b5u,c3m]
 have e4:b5w s=true:=by simp[b5w,h4]
 simp only[e1,e2,b5u h,e3,c3m h,e4,cF,bT,oB]
 by_cases h5:0≤s.2.1
 rotate_left
 ·have e5:decide (s.2.1<0)=true:=by simp_all
  have:¬ a1s s n:=fun hp=>h5 hp.2.2.2.2.1
  simp_all
 have e5:decide (s.2.1<0)=false:=by simp_all
 by_cases h6:s.2.1≤30
 rotate_left
 ·have e6:decide (s.2.1 > 30)=true:=by simp_all
  have:¬ a1s s n:=fun hp=>h6 hp.2.2.2.2.2.1
  simp_all
 have e6:decide (s.2.1 > 30)=false:=by simp_all
 simp only[e5,e6,cF]
 by_cases h7:s.1=0→s.2.1=0
 rotate_left
 ·have h7a:s.1=0:=Classical.byContradiction fun hc=>h7 fun e=>absurd e hc
  have h7b:(s.2.1 != 0)=true:=by
   simp_all
  have e7:(s.1==0)=true:=by simp_all
  have:¬ a1s s n:=fun hp=>h7 hp.2.2.2.2.2.2.1
  grind
 have e7:(bif s.1==0 then some (n,(s.2.1 != 0,(s,())))else some (n,(false,(s,()))))=some (n,(false,(s,()))):=by
  grind
 simp only[e7,oB,cF,b2r]
 by_cases h8:(s.2.2.2.2.2.2.2.2.1.length:Int)=a2l s n
 rotate_left
 ·have e8:(((s.2.2.2.2.2.2.2.2.1.length:Nat):Int) != a2l s n)=true:=by simp_all
  have:¬ a1s s n:=fun hp=>h8 hp.2.2.2.2.2.2.2.1
  grind
 have e8:(((s.2.2.2.2.2.2.2.2.1.length:Nat):Int) != a2l s n)=false:=by simp_all
 simp only[e8,cF,a4x hw,a4x hr,oB]
 cases h9:s.2.2.2.2.2.2.2.2.1.all a0A with
 |false=>
  have:¬ a1s s n:=fun hp=>by rw[hp.2.2.2.2.2.2.2.2.1]at h9;grind
  simp_all
 |true=>
  cases h10:s.2.2.2.2.2.2.2.2.2.2.1.all a0A with
  |false=>
   have:¬ a1s s n:=fun hp=>by rw[hp.2.2.2.2.2.2.2.2.2.1]at h10;grind
   simp_all
  |true=>
   simp only[bT,cF,oB,a6s]
   have hwr:=c4F h h1 h2 h3
   by_cases k01:s.1≠0∧s.1≠1
   ·have e11:wrap .i64 (n-a2l s n)=n-a2l s n:=a0C (by omega)
    simp[k01,e11,b3P hk]
    by_cases h11:(s.2.2.2.2.2.2.2.2.2.2.1.length:Int)=n-a2l s n
    ·have e12:(((s.2.2.2.2.2.2.2.2.2.2.1.length:Nat):Int)==n-a2l s n)=true:=by simp_all
     simp only[e12,cT]
     congr 1
     rw[b00,dT]
     constructor
     ·intro hp
      exact⟨h1,h2,h3,h4,h5,h6,h7,h8,h9,h10,fun hc=>absurd hc (by omega),fun _=>⟨h11,hp⟩⟩
     ·intro hp;exact(hp.2.2.2.2.2.2.2.2.2.2.2 k01).2
    ·have e12:(((s.2.2.2.2.2.2.2.2.2.2.1.length:Nat):Int)==n-a2l s n)=false:=by simp_all
     have:¬ a1s s n:=fun hp=>h11 (hp.2.2.2.2.2.2.2.2.2.2.2 k01).1
     grind
   ·have k01':s.1=0∨s.1=1:=by omega
    simp[k01,d2w]
    simp only[c1o,b1r]
    congr 1
    rw[b00,dT]
    simp
    constructor
    ·rintro⟨g1,g2,g3⟩
     exact⟨h1,h2,h3,h4,h5,h6,h7,h8,h9,h10,fun _=>⟨g1,g2,g3⟩,fun hc=>absurd hc k01⟩
    ·intro hp;exact hp.2.2.2.2.2.2.2.2.2.2.1 k01'
theorem c7n(h:a3R k s n):k=0∨k=1∨k=2∨k=3∨k=4∨k=5:=by
 unfold a3R at h;omega
def b8T(warm rest:List Int)(o:Int):Option (List Int):=bif warm.all a0A&&rest.all a0A then a4e (a6k o.toNat) rest warm else none
def backP(s:Sub):Option (List Int):=
 if s.1=1 then some s.2.2.2.2.2.2.2.2.1
 else if s.1=2 then b8T s.2.2.2.2.2.2.2.2.1 s.2.2.2.2.2.2.2.2.2.2.1 s.2.2.1
 else if s.1=3 then b3L s.2.2.2.2.2.2.2.2.1 s.2.2.2.2.2.2.2.2.2.2.1 s.2.2.2.2.2.1 s.2.2.2.1
 else if s.1=4 then(b3L s.2.2.2.2.2.2.2.2.1 s.2.2.2.2.2.2.2.2.2.2.1 s.2.2.2.2.2.1 s.2.2.2.1).bind fun l=>b4s l s.2.2.2.2.1 s.2.2.2.2.2.2.1
 else b2q s.2.2.2.2.2.2.2.2.2.2.1 s.2.2.2.2.2.2.2.1
def c3n(s:Sub)(n:Int):Option (List Int):=
 if s.1=0 then some (a00 n.toNat (s.2.2.2.2.2.2.2.2.1.getD 0 0))else(backP s).bind (upO s.2.1)
theorem b4X{w r c:List Int}{s:Int}{l}(h:b3L w r c s=some l):l.length=w.length+r.length:=by
 unfold b3L at h;cases hc:(w.all a0A&&r.all a0A)with
 |false=>simp_all
 |true=>
  rw[hc]at h;exact(b3d _ r w l (a73.1 hc).1 h).2
theorem c4G{w r:List Int}{o:Int}{l}(h:b8T w r o=some l):l.length=w.length+r.length:=by
 unfold b8T at h;cases hc:(w.all a0A&&r.all a0A)with
 |false=>simp_all
 |true=>
  rw[hc]at h;exact(b3d _ r w l (a73.1 hc).1 h).2
theorem c3o{l}(h:b4s r lag t=some l):l.length=r.length:=by
 unfold b4s at h;cases hc:r.all a0A with
 |false=>simp_all
 |true=>
  rw[hc]at h
  have:=(b3d _ r [] l rfl h).2
  simp_all
theorem c1N:∀(st:List Stg)(r:List Int){l},lO st r=some l→l.length=r.length
 | [],r,l,h=>by simp_all[lO]
 |s::st,r,l,h=>by
  simp only[lO]at h
  split at h
  rename_i f g;rw[c1N st f h,b5Q _ _ _ g];simp;cases h
theorem c2B{r:List Int}{st:List Stg}{l}(h:b2q r st=some l):l.length=r.length:=by
 grind[b2q,c1N]
theorem c3p(h:SmallS s){l}(g:backP s=some l):l.length<100000:=by
 have b:=h.warm;have a:=h.rest;unfold backP at g
 split at g
 grind
 split at g
 grind[c4G]
 split at g
 grind[b4X]
 split at g
 obtain⟨c,f,k⟩:=a16.1 g;rw[c3o k,b4X f];omega
 grind[c2B]
theorem c7o(a:1≤n)(c:n≤4096)(d:s.2.2.2.2.2.2.2.2.1.length=1):
  y0o a6U (n,(0:Int),([]:List Int),s,())=some (a00 n.toNat (s.2.2.2.2.2.2.2.2.1.getD 0 0),()):=by
 obtain⟨N,rfl⟩:=a01 (show 0≤n by omega);have k:m0h s.2.2.2.2.2.2.2.2.1 (0:Int)=some (s.2.2.2.2.2.2.2.2.1.getD 0 0):=c3f (by omega) (by omega)
 have:=a1B (f:=a6U) (fun i=>((N:Int),(i:Int),a00 i (s.2.2.2.2.2.2.2.2.1.getD 0 0),s,())) N
  (b:=(a00 N (s.2.2.2.2.2.2.2.2.1.getD 0 0),())) (fun i hi=>by
   have h:lim ((a00 i (s.2.2.2.2.2.2.2.2.1.getD 0 0)).length+1)=true:=a0U (by grind);have g:a00 i (s.2.2.2.2.2.2.2.2.1.getD 0 0)++[s.2.2.2.2.2.2.2.2.1.getD 0 0]=a00 (i+1) (s.2.2.2.2.2.2.2.2.1.getD 0 0):=by grind[a54]
   simp only[a6U,dlt hi,cT,k,oB,h,a08,g,a0B (show i<1000000 by omega)])
  (by simp[a6U])
 simp_all
theorem c4H(h:SmallS s)(hp:a1s s n):b2T (s,n)=some (a5a (c3n s n)):=by
 have a:=fun l (d:backP s=some l)=>c3p h d;obtain⟨z,A,C,-,x,v,-,g,K,I,-⟩:=hp;have F:=h.rest;have G:=h.warm;have H:=h.taps;have D:=c7o (s:=s) z A;obtain⟨k,w,o,sh,lag,c,t,st,f,p,r,u⟩:=s;simp only at *;have L:∀l,l.length<100000→a8X (l,w)=some (a5a (upO w l)):=fun l d=>c3h x v d;unfold b2T c3n;rcases C with b|b|⟨b,j,m,y⟩|⟨b,j,m⟩|⟨b,j,m,y⟩|⟨b,j,m⟩
 grind[a2l,a5a]
 simp_all[backP]
 ·subst b;obtain⟨O,rfl⟩:=a01 j;have m:(O:Int)≤4:=m;simp only[a2l]at g;have q:f.length=O:=by grind
  have i:=c2y (warm:=f) (rest:=r) (o:=O) (by omega) q (by omega);simp only[backP]at a⊢;simp[i];have e:(bif f.all a0A&&r.all a0A then a4e (a6k O) r f else none)=b8T f r (O:Int):=rfl;rw[e];cases d:b8T f r (O:Int)with
  |none=>rfl
  |some l=>simp_all[a5a]
 ·subst b;simp only[a2l]at g;have q:f.length=c.length:=by grind
  have i:=b5s (rest:=r) j q (by omega);simp only[backP]at a⊢;simp[i];cases d:b3L f r c sh with
  |none=>rfl
  |some l=>simp_all[a5a]
 ·subst b;simp only[a2l]at g;have q:f.length=c.length:=by grind
  have i:=b5s (rest:=r) j q (by omega);simp only[backP]at a⊢;simp[i];cases d:b3L f r c sh with
  |none=>rfl
  |some l=>
   have E:=b4X d;have B:=c3g (rest:=l) y H (by omega);simp[a5a,B]
   grind[a5a]
 ·subst b;have i:=c2A (rest:=r) m (by omega);simp only[backP]at a⊢;simp[i];cases d:b2q r st with
  |none=>rfl
  |some l=>simp_all[a5a]
open Classical in
def a2j (s:Sub) (n:Int):Option (List Int):=if a1s s n then c3n s n else none
theorem b9I(h:SmallS s)(n:Int):b2k (s,n)=some (match a2j s n with|some r=>(r,0)|none=>([],1)):=by
 unfold b2k a2j;simp only[c7m h,oB]
 by_cases hp:a1s s n
 simp[hp,c4H h hp]
 grind[a5a]
 simp_all
theorem b9J(h:SmallS s)(n:Int):a9H (s,n)=some (a2j s n).isSome:=by
 unfold a9H;simp only[b9I h,oB];cases a2j s n<;>rfl
@[reducible] def Wr:Type:=(List Int)×(Int×Unit)
def c1p(w:Wr)(b:Int):Wr:=
 let bs:=if w.2.1%8=0 then w.1++[0]else w.1
 (bs.set (w.2.1 / 8).toNat (bits .u8 .or (bs.getD (w.2.1 / 8).toNat 0) (A0j .u8 b (7-w.2.1%8))),w.2.1+1,())
def wL(L:List Int):Wr:=L.foldl c1p ([],0,())
theorem c1q(L:List Int)(b:Int):wL (L++[b])=c1p (wL L) b:=by simp[wL]
theorem b9K:∀(n:Nat)(L:List Int),L.length=n→(wL L).2.1=L.length∧(wL L).1.length=(L.length+7) / 8
 |0,L,h=>by
  rw[a40.1 h];exact⟨rfl,rfl⟩
 |n+1,L,h=>by
  obtain⟨g,b,rfl⟩:∃g b,L=g++[b]:=by
   rcases a52 L with rfl|⟨g,b,e⟩
   all_goals simp_all
  obtain⟨f,k⟩:=b9K n g (by simp_all);rw[c1q];simp only[c1p,List.length_set,lN,a70,f]
  grind
theorem a5K(L:List Int):(wL L).2.1=L.length∧(wL L).1.length=(L.length+7) / 8:=b9K _ L rfl
theorem b9L{L:List Int}(l:L.length<1000000000)(b:Int):a2b (wL L,b)=some (wL (L++[b])):=by
 obtain⟨g,k⟩:=a5K L;have p:a29 ((L.length:Nat):Int) 8=((L.length:Nat):Int)%8:=a45 (by omega);have m:a47 ((L.length:Nat):Int) 8=((L.length:Nat):Int) / 8:=a58 (by omega);have c:wrap .i64 (((L.length:Nat):Int) / 8)=((L.length:Nat):Int) / 8:=a0C (by omega);have d:wrap .i64 (7-((L.length:Nat):Int)%8)=7-((L.length:Nat):Int)%8:=a0C (by omega);have e:wrap .i64 (((L.length:Nat):Int)+1)=((L.length:Nat):Int)+1:=a0C (by omega);have i:decide ((0:Int)≤((L.length:Nat):Int) / 8)=true:=by rfl
 have j:decide (7-((L.length:Nat):Int)%8<0)=false:=by grind
 rw[c1q];generalize wL L=wr at g k⊢;obtain⟨f,n,u⟩:=wr;have g:n=((L.length:Nat):Int):=g;have k:f.length=(L.length+7) / 8:=k;subst g;unfold a2b c1p
 by_cases h:((L.length:Nat):Int)%8=0
 have hb:(((L.length:Nat):Int)%8==0)=true:=by grind
 have o:lim (f.length+1)=true:=a0V (by omega);have a:decide (((L.length:Nat):Int) / 8<(((f++[0]).length:Nat):Int))=true:=by grind
 simp_all
 grind
def a6K(v:Int)(i:Nat):Int:=wrap .u8 (bits .u64 .and (A0k .u64 v (i:Int)) 1)
def pb(v:Int):Nat→List Int
 |0=>[]
 |i+1=>a6K v i::pb v i
theorem b4v(v:Int):∀n,(pb v n).length=n
 |0=>rfl
 |n+1=>by simp[pb,b4v v n]
def a0O(v:Int)(n:Nat)(L:List Int):List Int:=bif A0k .u64 v (n:Int) != 0 then L else L++pb v n
theorem a0W(v:Int)(n:Nat)(L:List Int):L.length≤(a0O v n L).length∧(a0O v n L).length≤L.length+n:=by
 grind[a0O,b4v]
def a7X(v:Int)(n:Nat):Int:=bif A0k .u64 v (n:Int) != 0 then 1 else 0
theorem c3q{v:Int}:∀(n:Nat)(L:List Int),L.length+n<1000000000→y0o a4b (v,(n:Int)-1,wL L,())=some (wL (L++pb v n),())
 |0,L,_=>by simp_all[a0E,a4b,pb]
 |n+1,L,h=>by
  have e:((n+1:Nat):Int)-1=(n:Int):=by omega
  have g:wrap .i64 ((n:Int)-1)=(n:Int)-1:=a0C (by omega);have f:decide ((n:Int)≥0)=true:=by simp
  have k:decide ((n:Int)<0)=false:=by simp
  rw[e,a0F (s':=(v,(n:Int)-1,wL (L++[a6K v n]),())) (by
   simp only[a4b,f,k,cT,cF,show wrap .u8 (bits .u64 .and (A0k .u64 v (n:Int)) 1)=a6K v n from rfl,b9L (show L.length<1000000000 by omega),oB,g])]
  rw[c3q n (L++[a6K v n]) (by simp;omega),pb]
  simp
theorem a3e{v:Int}{n:Nat}(a:n≤63)(k:L.length<999999000):a0G (wL L,v,(n:Int))=some (a7X v n,wL (a0O v n L)):=by
 unfold a0G a7X a0O;have g:decide ((n:Int)<0)=false:=by simp
 have f:decide ((n:Int) > 64)=false:=by grind
 have h:wrap .i64 ((n:Int)-1)=(n:Int)-1:=a0C (by omega);simp[g,f];cases (A0k .u64 v (n:Int) != 0)with
 |true=>rfl
 |false=>simp only[cF,h,c3q n L (by omega),oB]
def unL(n:Nat)(L:List Int):List Int:=L++a00 n 0++[1]
theorem c3r{n:Nat}(c:n≤4096)(a:L.length<999990000):a2o (wL L,(n:Int))=some (0,wL (unL n L)):=by
 unfold a2o unL;have g:decide ((n:Int)<0)=false:=by simp
 have k:decide ((n:Int) > 4096)=false:=by grind
 simp only[g,k,cF,oB]
 have:=a1B (f:=a3j) (fun i=>((n:Int),(i:Int),wL (L++a00 i 0),())) n (b:=(wL (L++a00 n 0),())) (fun i hi=>by
   have h:L++a00 i (0:Int)++[0]=L++a00 (i+1) 0:=by simp_all[a54]
   simp only[a3j,dlt hi,cT,b9L (show(L++a00 i (0:Int)).length<1000000000 by grind),oB,h,a0B (show i<1000000 by omega)])
  (by simp[a3j])
 grind[b9L]
theorem b0V(n:Nat)(L:List Int):(unL n L).length=L.length+n+1:=by simp[unL];rfl
def a0X(x:Int)(n:Nat):Int:=bits .u64 .and (wrap .u64 x) (wrap .u64 ((A0j .u64 1 (n:Int))-1))
def a1C(n:Nat)(l:List Int)(L:List Int):List Int:=l.foldl (fun L x=>a0O (a0X x n) n L) L
theorem a6n(n:Nat):∀(l L:List Int),L.length≤(a1C n l L).length∧(a1C n l L).length≤L.length+n*l.length
 | [],L=>by simp[a1C]
 |x::l,L=>by
  have h:=a0W (a0X x n) n L;have g:=a6n n l (a0O (a0X x n) n L);have e:a1C n (x::l) L=a1C n l (a0O (a0X x n) n L):=rfl;rw[e,lC,a92,a93];omega
theorem b3S{n:Nat}(f:n≤63)(g:L.length<999999000):a2H (wL L,x,(n:Int))=some (wL (a0O (a0X x n) n L)):=by
 unfold a2H;have h:decide ((n:Int)<0)=false:=by simp
 simp only[h,cF,show bits .u64 .and (wrap .u64 x) (wrap .u64 ((A0j .u64 1 (n:Int))-1))=a0X x n from rfl,a3e f g,oB]
def a1j(x w:Int):Bool:=decide (1≤w)&&(decide (w≤31)&&(decide (A0j .i64 (-1) (w-1)≤x)&&decide (x≤wrap .i64 (A0j .i64 1 (w-1)-1))))
theorem a6o(a:w≤32):a1S (x,(w:Int))=some (a1j x w):=by
 unfold a1S a1j b3t b2y
 by_cases h1:1≤(w:Int)
 by_cases h2:(w:Int)≤31
 have h:decide ((w:Int)<1)=false:=by simp_all
 have g:decide ((w:Int) > 31)=false:=by simp_all
 have e:wrap .i64 ((w:Int)-1)=(w:Int)-1:=a0C (by omega);have f:decide ((w:Int)-1<0)=false:=by simp_all
 have k:decide ((w:Int)≥1)=true:=by simp_all
 simp[h1,h2,h,g,f,e]
 grind
 grind
 grind
theorem c4I(b:w≤32):b2p (x,(w:Int))=some (a1j x w):=by
 unfold b2p a1j b8O b7j
 by_cases h1:1≤(w:Int)
 by_cases h2:(w:Int)≤31
 have f:decide ((w:Int)<1)=false:=by simp_all
 have k:decide ((w:Int) > 31)=false:=by simp_all
 have e:wrap .i64 ((w:Int)-1)=(w:Int)-1:=a0C (by omega);have g:wrap .u64 ((w:Int)-1)=(w:Int)-1:=a0K (by omega);have a:decide ((w:Int)-1<0)=false:=by simp_all
 have h:decide ((w:Int)≥1)=true:=by simp_all
 simp only[h,h1,h2,f,k,a,e,g,decide_true,cT,cF,oB,a46]
 grind
 grind
 grind
def a1K(x:Int):Nat→Nat→Nat
 |0,w=>w
 |k+1,w=>bif (x != 0)&&!a1j x w then a1K x k (w+1)else w
theorem b8U(x:Int):∀(k w:Nat),a1K x k w≤w+k
 |0,w=>a23 _
 |k+1,w=>by
  simp[a1K];cases (x != 0)&&!a1j x w with
  |true=>have:=b8U x k (w+1);grind
  |false=>simp
def a0I(l:List Int):Nat:=l.foldl (fun w x=>a1K x (32-w) w) 0
theorem b6G:∀(l:List Int)(w:Nat),w≤32→l.foldl (fun w x=>a1K x (32-w) w) w≤32
 | [],w,h=>h
 |x::l,w,h=>b6G l _ (show a1K x (32-w) w≤32 by grind[b8U])
theorem a6t(l:List Int):a0I l≤32:=b6G l 0 (by omega)
theorem c1O{x:Int}{l:List Int}{n i:Int}:∀(k w:Nat),w+k=32→y0o a2N ((w:Int),x,l,n,i,())=some (((a1K x k w:Nat):Int),l,n,i,())
 |0,w,h=>by
  obtain rfl:w=32:=by omega
  simp_all[a0E,a2N,a1K]
 |k+1,w,h=>by
  have g:decide ((w:Int)<32)=true:=by grind
  simp[a1K];cases hx:(x != 0)with
  |false=>simp_all[a0E,a2N]
  |true=>
   cases hf:a1j x w with
   |true=>exact a0E (by simp only[a2N,hx,g,a6o (show w≤32 by omega),hf,oB,cT,cF,bT,Bool.and_false])
   |false=>
    rw[a0F (s':=(((w+1:Nat):Int),x,l,n,i,())) (by simp only[a2N,hx,g,a6o (show w≤32 by omega),hf,oB,cT,a26,a0B (show w<1000000 by omega)])];exact c1O k (w+1) (by omega)
theorem a2m(c:short l):a1r l=some ((a0I l:Nat):Int):=by
 have c:l.length<1000000:=c
 have:=a1R (f:=a5N) l (fun i (w:Nat)=>((w:Int),l,(l.length:Int),(i:Int),())) (fun w x=>(.inl (a1K x (32-w) w):Nat ⊕ (Int×Unit))) (fun _ w=>w≤32) (fun w=>((w:Int),()))
  (fun i h w e=>⟨fun d k=>by
   simp at k;subst k;refine⟨?_,by grind[b8U]⟩;simp only[a5N,dlt h,cT,a0D h,oB,c1O (32-w) w (by omega),a0B (show i<1000000 by omega)],fun b hb=>(by grind)⟩)
  (fun w _=>by simp[a5N]) (a:=0) (by omega)
 simp at this;unfold a1r;rw[this];have g:∀(l:List Int)(w:Nat),a2K (fun w x=>(.inl (a1K x (32-w) w):Nat ⊕ (Int×Unit))) l w=.inl (l.foldl (fun w x=>a1K x (32-w) w) w):=by
  intro l
  induction l with
  |nil=>intro w;rfl
  |cons x l ih=>simp_all[a2K]
 rw[g];rfl
theorem b0W(x:Int):a7o x=some (a0A x):=by
 grind[a7o,a0A]
def a0R(x:Int):Nat:=if 0≤x then(2*x).toNat else(-2*x-1).toNat
theorem a9D(h:a0A x=true):a0R x<2147483648:=by
 grind[a1H,a0R]
theorem b0X(h:a0A x=true):a9a x=some ((a0R x:Nat):Int):=by
 have f:=a1H.1 h;unfold a9a a0R;simp only[b0W,h,oB,bT,cF]
 by_cases h0:0≤x
 have g:decide (x≥0)=true:=by simp_all
 simp only[g,cT,if_pos h0]
 grind[a0C,a0K]
 have g:decide (x≥0)=false:=by simp_all
 simp only[g,cF,if_neg h0]
 grind[a0C,a0K]
theorem a6u{N o:Nat}(h:o≤64):A0k .u64 (N:Int) (o:Int)=((N / 2^o:Nat):Int):=c3l h
theorem b2t(h:o≤64)(g:N*2^o<9223372036854775808):A0j .u64 (N:Int) (o:Int)=((N*2^o:Nat):Int):=by
 unfold A0j;show wrap .u64 ((N:Int)*2^(min (o:Int).toNat 64))=_
 grind[a0K]
theorem c3s{y k:Nat}(c:y<18446744073709551616)(f:k≤62):bits .u64 .and (y:Int) (wrap .u64 (A0j .u64 1 (k:Int)-1))=((y%2^k:Nat):Int):=by
 have hp:2^k≤2^62:=a09 (by simp) f;have a:1≤2^k:=a79;have b:(2:Nat)^62=4611686018427387904:=by rfl
 have h:A0j .u64 1 (k:Int)=((2^k:Nat):Int):=by have:=b2t (N:=1) (o:=k) (by omega) (by omega);simp_all
 have g:wrap .u64 (((2^k:Nat):Int)-1)=((2^k-1:Nat):Int):=by grind[a0K]
 rw[h,g];show wrap .u64 (((a04 64 (y:Int)) &&& (a04 64 ((2^k-1:Nat):Int))).toNat:Int)=_;rw[a27,a27,a94,a33,a33,a24 c,a24 (by omega),Nat.and_two_pow_sub_one_eq_mod]
 have:y%2^k<2^k:=a43 _ (by omega)
 exact a0K (by omega)
theorem b3T{q:Nat}(h:q<2147483648):wrap .i64 (q:Int)=(q:Int):=a0C (by omega)
def a6L(k:Nat)(x:Int)(L:List Int):List Int:=
 if a0R x / 2^k<32 then a0O ((a0R x%2^k:Nat):Int) k (unL (a0R x / 2^k) L)else a0O ((a0R x:Nat):Int) 32 (unL 32 L)
def a4M(k:Nat)(l:List Int)(L:List Int):List Int:=l.foldl (fun L x=>a6L k x L) L
theorem b7p{k:Nat}(h:k≤25)(x:Int)(L:List Int):L.length≤(a6L k x L).length∧(a6L k x L).length≤L.length+100:=by
 grind[a6L,a0W,b0V]
theorem b6H{k:Nat}(h:k≤25):∀(l L:List Int),L.length≤(a4M k l L).length∧(a4M k l L).length≤L.length+100*l.length
 | [],L=>by simp[a4M]
 |x::l,L=>by
  have g:=b7p h x L;have f:=b6H h l (a6L k x L);have e:a4M k (x::l) L=a4M k l (a6L k x L):=rfl
  grind
theorem a8S{k:Nat}(h:k≤25):a1P (k:Int)=some true:=by
 unfold a1P
 grind
theorem c4J{k:Nat}(x:k≤25)(D:l.length<10000)(t:l.all a0A=true)(C:L.length<900000000):b2V (wL L,(k:Int),l)=some (0,wL (a4M k l L)):=by
 have A:=a2i (f:=a9n) l (fun i=>((k:Int),l,l,(l.length:Int),(i:Int),wL L,())) (fun _=>true) (bt:=Sum.inl ((k:Int),l,wL L,())) (bf:=Sum.inl ((k:Int),l,wL L,()))
  (fun i h _=>by
   have:=lA.1 t _ (a05 h)
   simp only[a9n,dlt h,cT,a0D h,oB,b0W,this,bT,cF,a0B (show i<1000000 by omega)])
  (fun i h hp=>by simp_all) (by simp[a9n])
 have p:∀(j i:Nat)(g:List Int),i+j=l.length→g.length+100*j<999990000→y0o a6X ((k:Int),l,(l.length:Int),(i:Int),wL g,())=some (wL (a4M k (l.drop i) g),()):=by
  intro j
  induction j with
  |zero=>
   intro i g hi _;obtain rfl:i=l.length:=by omega
   simp_all[a0E,a6X,a4M]
  |succ j ih=>
   intro i g hi hb;have a:i<l.length:=by omega
   have c:=lA.1 t _ (a05 a);have z:=a9D c;have y:=b7p x l[i] g;have e:decide ((k:Int)<0)=false:=by simp
   have q:A0k .u64 ((a0R l[i]:Nat):Int) (k:Int)=((a0R l[i] / 2^k:Nat):Int):=a6u (by omega);have o:=a34 (a0R l[i]) (2^k);have r:=a67 (a0R l[i]) (2^k);have d:A0j .u64 ((a0R l[i] / 2^k:Nat):Int) (k:Int)=((a0R l[i] / 2^k*2^k:Nat):Int):=b2t (by omega) (by grind);have u:wrap .u64 (((a0R l[i]:Nat):Int)-((a0R l[i] / 2^k*2^k:Nat):Int))=((a0R l[i]%2^k:Nat):Int):=by
    rw[a66 (a0R l[i] / 2^k)]
    grind[a0K]
   have w:wrap .i64 ((a0R l[i] / 2^k:Nat):Int)=((a0R l[i] / 2^k:Nat):Int):=b3T (a41 o z);rw[a02 a,a0F (s':=((k:Int),l,(l.length:Int),((i+1:Nat):Int),wL (a6L k l[i] g),())) (by
    by_cases hq:a0R l[i] / 2^k<32
    have m:decide (((a0R l[i] / 2^k:Nat):Int)<32)=true:=decide_eq_true (by omega);have s:(unL (a0R l[i] / 2^k) g).length<999999000:=by
     rw[b0V];omega
    have b:=c3r (L:=g) (n:=a0R l[i] / 2^k) (a82 (a31 hq (by simp))) (by omega);have hp:=a3e (L:=unL (a0R l[i] / 2^k) g) (v:=((a0R l[i]%2^k:Nat):Int)) (n:=k) (by omega) s;simp only[a6X,dlt a,cT,a0D a,oB,b0X c,e,cF,q,m,w,b,d,u,hp,a6L,if_pos hq,a0B (show i<1000000 by omega)];have m:decide (((a0R l[i] / 2^k:Nat):Int)<32)=false:=decide_eq_false (by omega);have s:=b0V 32 g;have b:a2o (wL g,(32:Int))=some (0,wL (unL 32 g)):=c3r (L:=g) (n:=32) (by omega) (by omega);have hp:a0G (wL (unL 32 g),((a0R l[i]:Nat):Int),(32:Int))=some (a7X ((a0R l[i]:Nat):Int) 32,wL (a0O ((a0R l[i]:Nat):Int) 32 (unL 32 g))):=a3e (L:=unL 32 g) (v:=((a0R l[i]:Nat):Int)) (n:=32) (by omega) (by omega);simp only[a6X,dlt a,cT,a0D a,oB,b0X c,e,cF,q,m,b,hp,a6L,if_neg hq,a0B (show i<1000000 by omega)])]
   exact ih (i+1) _ (by omega) (by omega)
 have B:=p l.length 0 L (by omega) (by omega);simp_all[b2V,a8S]
def a1n(zn:List Nat):List Int:=zn.map fun(a:Nat)=>(a:Int)
theorem c2C(n M:Nat):(a00 n M).sum=n*M:=by
 simp
theorem b4Y{o n warm:Int}(h:(a1J o n warm).length≠0):∃zn:List Nat,a1J o n warm=a1n zn∧(zn.sum:Int)=n-warm∧zn.length≤256:=by
 unfold a1J at h⊢;cases hr:(a6m n warm&&(decide (0≤o)&&decide (o≤8)))with
 |false=>simp_all
 |true=>
  rw[hr]at h;simp only[cT]at h⊢;simp[a6m]at hr;unfold b5t at h⊢
  split at h
  rename_i g;rw[if_pos g];obtain⟨O,rfl⟩:=a01 hr.2.1;obtain⟨N,rfl⟩:=a01 (show 0≤n by omega);obtain⟨w,rfl⟩:=a01 (show 0≤warm by omega);simp only[tN]at g⊢;have hp:=d2v (o:=O) (by omega);have f:=a67 N (2^O);rw[g.1,a83]at f;have k:w≤N / 2^O:=by omega
  generalize N / 2^O=M at g k f⊢;generalize 2^O=P at hp f⊢;refine⟨(M-w)::a00 (P-1) M,?_,?_,?_⟩
  grind[a1n,List.map_replicate]
  rw[a60,c2C];obtain⟨q,rfl⟩:∃q,P=q+1:=⟨P-1,by omega⟩
  grind
  simp_all;simp_all
def a9w(k:Int)(part L:List Int):List Int:=
 if k=31 then a1C (a0I part) part (a0O ((a0I part:Nat):Int) 5 (a0O (wrap .u64 k) 5 L))else a4M k.toNat part (a0O (wrap .u64 k) 5 L)
def a4N:List Nat→List Int→List Int→List Int→List Int
 |z::zs,k::ks,l,L=>a4N zs ks (l.drop z) (a9w k (l.take z) L)
 |_,_,_,L=>L
theorem b7q(h:kB k=true)(part L:List Int):L.length≤(a9w k part L).length∧(a9w k part L).length≤L.length+10+100*part.length:=by
 unfold a9w;have a:=a0W (wrap .u64 k) 5 L;split;have b:=a0W ((a0I part:Nat):Int) 5 (a0O (wrap .u64 k) 5 L);have c:=a6n (a0I part) part (a0O ((a0I part:Nat):Int) 5 (a0O (wrap .u64 k) 5 L));have f:=a6t part
 have:a0I part*part.length≤32*part.length:=a28 _ f
 omega;rename_i g;simp[kB]at h
 grind[b6H]
theorem a7Y(h:i<zn.length):a86 (a1n zn) i 0=((zn[i]:Nat):Int):=by
 simp_all[a1n]
theorem a1u(h:List Nat):(a1n h).length=h.length:=by simp[a1n]
theorem b5S(h:i<zn.length):(zn.drop i).sum=zn[i]+(zn.drop (i+1)).sum:=by
 grind[a02]
theorem c3t{part rest:List Int}{wd:Nat}{a b:Int}{z:List Int}{p:Prt}(k:wd≤32)(hp:part.length<10000):∀(j i:Nat)(L:List Int),i+j=part.length→L.length+64*j<999990000→
  y0o a8m (rest,(wd:Int),a,b,part,(part.length:Int),(i:Int),z,wL L,p,())=some (rest,a,b,z,wL (a1C wd (part.drop i) L),p,())
 |0,i,L,hi,_=>by
  obtain rfl:i=part.length:=by omega
  simp_all[a0E,a8m,a1C]
 |j+1,i,L,hi,hb=>by
  have h:i<part.length:=by omega
  have g:decide ((wd:Int)<0)=false:=by simp
  have f:=a0W (a0X part[i] wd) wd L;rw[a02 h,a0F (s':=(rest,(wd:Int),a,b,part,(part.length:Int),((i+1:Nat):Int),z,wL (a0O (a0X part[i] wd) wd L),p,())) (by
   simp only[a8m,dlt h,cT,a0D h,oB,g,cF,show bits .u64 .and (wrap .u64 part[i]) (wrap .u64 ((A0j .u64 1 (wd:Int))-1))=a0X part[i] wd from rfl,a3e (show wd≤63 by omega) (show L.length<999999000 by omega),a0B (show i<1000000 by omega)])]
  exact c3t k hp j (i+1) _ (by omega) (by omega)
theorem b5x{zn:List Nat}{p:Prt}(N:p.2.1.length=zn.length)(c:p.2.1.all kB=true)(R:zn.length≤256):∀(j i:Nat)(l L:List Int),i+j=zn.length→(zn.drop i).sum=l.length→l.all a0A=true→l.length≤5000→L.length+10*j+100*l.length<800000000→
  y0o a4v (l,(zn.length:Int),(i:Int),a1n zn,wL L,p,())=some (wL (a4N (zn.drop i) (p.2.1.drop i) l L),())
 |0,i,l,L,hi,_,_,_,_=>by
  obtain rfl:i=zn.length:=by omega
  simp_all[a0E,a4v,a4N]
 |j+1,i,l,L,hi,hsum,hw,hl5,hb=>by
  have h:i<zn.length:=by omega
  have f:i<p.2.1.length:=by omega
  have s:=lA.1 c _ (a05 f);rw[b5S h]at hsum;have B:decide ((0:Int)≤(i:Int))=true:=by simp
  have C:decide ((i:Int)<(((a1n zn).length:Nat):Int))=true:=by simp_all[a1u]
  have D:decide ((0:Int)≤((zn[i]:Nat):Int))=true:=by simp
  have E:decide (((zn[i]:Nat):Int)≤((l.length:Nat):Int))=true:=by grind
  have t:(l.take zn[i]).length=zn[i]:=by simp_all
  have q:(l.drop zn[i]).length=(zn.drop (i+1)).sum:=by grind
  have w:(l.take zn[i]).all a0A=true:=lA.2 fun x A=>lA.1 hw x (a36 A);have y:(l.drop zn[i]).all a0A=true:=lA.2 fun x A=>lA.1 hw x (a37 A);have Q:=b7q s (l.take zn[i]) L;have O:=a0W (wrap .u64 p.2.1[i]) 5 L;have d:a0G (wL L,wrap .u64 p.2.1[i],(5:Int))=some (a7X (wrap .u64 p.2.1[i]) 5,wL (a0O (wrap .u64 p.2.1[i]) 5 L)):=a3e (n:=5) (by omega) (by omega);have G:zn.drop i=zn[i]::zn.drop (i+1):=a02 h;have H:p.2.1.drop i=p.2.1[i]::p.2.1.drop (i+1):=a02 f;rw[G,H,a4N];have r:a4v (l,(zn.length:Int),(i:Int),a1n zn,wL L,p,())=some (.inl (l.drop zn[i],(zn.length:Int),((i+1:Nat):Int),a1n zn,wL (a9w p.2.1[i] (l.take zn[i]) L),p,())):=by
   by_cases h31:p.2.1[i]=31
   have m:(p.2.1[i] != 31)=false:=by simp_all
   have v:=a6t (l.take zn[i]);have u:=a2m (l:=l.take zn[i]) (by unfold short;omega);have P:=a0W ((a0I (l.take zn[i]):Nat):Int) 5 (a0O (wrap .u64 p.2.1[i]) 5 L);have I:wrap .u64 ((a0I (l.take zn[i]):Nat):Int)=((a0I (l.take zn[i]):Nat):Int):=a0K (by omega);have o:a0G (wL (a0O (wrap .u64 p.2.1[i]) 5 L),((a0I (l.take zn[i]):Nat):Int),(5:Int))=some (a7X ((a0I (l.take zn[i]):Nat):Int) 5,wL (a0O ((a0I (l.take zn[i]):Nat):Int) 5 (a0O (wrap .u64 p.2.1[i]) 5 L))):=a3e (n:=5) (by omega) (by omega);have e:=c3t (part:=l.take zn[i]) (rest:=l.drop zn[i]) (a:=(zn.length:Int)) (b:=(i:Int)) (z:=a1n zn) (p:=p) v (by omega) (l.take zn[i]).length 0 (a0O ((a0I (l.take zn[i]):Nat):Int) 5 (a0O (wrap .u64 p.2.1[i]) 5 L)) (by omega) (by omega);simp only[nZ,a32]at e;simp only[a4v,dlt h,B,C,a7Y h,D,E,cT,a03,tN,a0D f,oB,d,m,cF,u,I,o,a20,e,a0B (show i<1000000 by omega),a9w,if_pos h31];have m:(p.2.1[i] != 31)=true:=by simp_all
   simp[kB]at s;obtain⟨K,M⟩:=a01 (show 0≤p.2.1[i]by omega);have g:=c4J (k:=K) (l:=l.take zn[i]) (L:=a0O (wrap .u64 p.2.1[i]) 5 L) (by omega) (by omega) w (by omega);rw[←M]at g;have F:K=p.2.1[i].toNat:=by omega
   simp only[a4v,dlt h,B,C,a7Y h,D,E,cT,a03,tN,a0D f,oB,d,m,g,a20,a0B (show i<1000000 by omega),a9w,if_neg h31,F]
  rw[a0F r];exact b5x N c R j (i+1) (l.drop zn[i]) _ (by omega) q.symm y (by omega) (by omega)
theorem c1r{k:Nat}(d:k≤25)(g:a0A x=true):∃c,a7p ((k:Int),x)=some c∧0≤c∧c≤65:=by
 have e:=a9D g;have f:A0k .u64 ((a0R x:Nat):Int) (k:Int)=((a0R x / 2^k:Nat):Int):=a6u (by omega);have a:wrap .i64 ((a0R x / 2^k:Nat):Int)=((a0R x / 2^k:Nat):Int):=b3T (a41 (a34 _ _) e);have h:decide ((k:Int)<0)=false:=by simp
 unfold a7p;simp only[a8S d,b0W,g,oB,bT,cF,b0X g,h,f,a];generalize a0R x / 2^k=q
 by_cases hq:q<32
 have b:decide ((q:Int)<32)=true:=decide_eq_true (by omega);refine⟨(q:Int)+1+k,?_,by omega,by omega⟩;simp only[b,cT]
 grind[a0C]
 grind
theorem c2D{k:Nat}(o:k≤25)(p:l.all a0A=true)(s:l.length<10000):∃c,a3i ((k:Int),l)=some c∧0≤c∧c≤65*l.length:=by
 have g:∀(j i:Nat)(c:Int),i+j=l.length→0≤c→c≤65*i→∃c',y0o a3N ((k:Int),c,l,(l.length:Int),(i:Int),())=some (c',())∧0≤c'∧c'≤65*l.length:=by
  intro j
  induction j with
  |zero=>
   intro i c hi a f;obtain rfl:i=l.length:=by omega
   simp_all[a0E,a3N]
  |succ j ih=>
   intro i c hi a f;have h:i<l.length:=by omega
   obtain⟨d,b,m,n⟩:=c1r o (lA.1 p _ (a05 h));have e:wrap .i64 (c+d)=c+d:=a0C (by omega);rw[a0F (s':=((k:Int),c+d,l,(l.length:Int),((i+1:Nat):Int),())) (by simp only[a3N,dlt h,cT,a0D h,oB,b,e,a0B (show i<1000000 by omega)])];exact ih (i+1) _ (by omega) (by omega) (by omega)
 obtain⟨c,f,q,r⟩:=g l.length 0 0 (by omega) (by omega) (by omega);simp_all[a3i]
theorem c7p{n:Nat}(g:w≤32)(f:n<10000):0≤(w:Int)*(n:Int)∧(w:Int)*(n:Int)≤32*n:=by
 have h:w*n≤32*n:=a28 _ g;omega
theorem c1s(h:l.length<10000):∃c,a5H l=some c∧0≤c∧c≤5+32*l.length:=by
 have g:=c7p (a6t l) h;refine⟨5+((a0I l:Nat):Int)*((l.length:Nat):Int),?_,by omega,by omega⟩;unfold a5H;simp only[a2m (show short l by unfold short;omega),oB]
 grind[a0C]
theorem b4w{zn:List Nat}{p:Prt}(H:p.2.1.length=zn.length)(g:p.2.1.all kB=true)(I:zn.length≤256):∀(j i:Nat)(l:List Int)(c:Int),i+j=zn.length→(zn.drop i).sum=l.length→l.all a0A=true→l.length≤5000→4≤c→c+10*j+65*l.length<1000000→
  ∃c',y0o a1t (l,c,(zn.length:Int),(i:Int),a1n zn,p,())=some (c',())∧4≤c'
 |0,i,l,c,hi,_,_,_,hc,_=>by
  obtain rfl:i=zn.length:=by omega
  simp_all[a0E,a1t]
 |j+1,i,l,c,hi,hsum,hw,hl5,hc,hb=>by
  have h:i<zn.length:=by omega
  have f:i<p.2.1.length:=by omega
  have q:=lA.1 g _ (a05 f);rw[b5S h]at hsum;have z:decide ((0:Int)≤(i:Int))=true:=by simp
  have A:decide ((i:Int)<(((a1n zn).length:Nat):Int))=true:=by simp_all[a1u]
  have B:decide ((0:Int)≤((zn[i]:Nat):Int))=true:=by simp
  have C:decide (((zn[i]:Nat):Int)≤((l.length:Nat):Int))=true:=by grind
  have s:(l.take zn[i]).length=zn[i]:=by simp_all
  have b:(l.drop zn[i]).length=(zn.drop (i+1)).sum:=by grind
  have v:(l.take zn[i]).all a0A=true:=lA.2 fun x y=>lA.1 hw x (a36 y);have w:(l.drop zn[i]).all a0A=true:=lA.2 fun x y=>lA.1 hw x (a37 y);have e:∃d,a1t (l,c,(zn.length:Int),(i:Int),a1n zn,p,())=some (.inl (l.drop zn[i],c+d,(zn.length:Int),((i+1:Nat):Int),a1n zn,p,()))∧0≤d∧d≤10+65*zn[i]:=by
   by_cases h31:p.2.1[i]=31
   have a:(p.2.1[i]==31)=true:=by simp_all
   obtain⟨r,m,t,u⟩:=c1s (l:=l.take zn[i]) (by omega);have n:wrap .i64 (5+r)=5+r:=a0C (by omega);have o:wrap .i64 (c+(5+r))=c+(5+r):=a0C (by omega);refine⟨5+r,?_,by omega,by omega⟩;simp only[a1t,dlt h,z,A,a7Y h,B,C,cT,a03,tN,a0D f,oB,a,m,n,o,a20,a0B (show i<1000000 by omega)];have a:(p.2.1[i]==31)=false:=by simp_all
   simp[kB]at q;obtain⟨K,D⟩:=a01 (show 0≤p.2.1[i]by omega);obtain⟨r,m,t,u⟩:=c2D (k:=K) (by omega) v (by omega);rw[←D]at m;have n:wrap .i64 (5+r)=5+r:=a0C (by omega);have o:wrap .i64 (c+(5+r))=c+(5+r):=a0C (by omega);refine⟨5+r,?_,by omega,by omega⟩;simp only[a1t,dlt h,z,A,a7Y h,B,C,cT,cF,a03,tN,a0D f,oB,a,m,n,o,a20,a0B (show i<1000000 by omega)]
  obtain⟨d,E,F,G⟩:=e;rw[a0F E];exact b4w H g I j (i+1) (l.drop zn[i]) _ (by omega) b.symm w (by omega) (by omega) (by omega)
structure PartsOk (p:Prt) (n warm:Int) (l:List Int) (zn:List Nat):Prop where
 may:a5B p n warm=true
 sizes:a1J p.1 n warm=a1n zn
 sum:zn.sum=l.length
 len:zn.length≤256
 ks:p.2.1.length=zn.length
 all:p.2.1.all kB=true
 wide:l.all a0A=true
 short:l.length≤5000
 row:a6m n warm=true
 rest:(l.length:Int)=n-warm
 order:0≤p.1∧p.1≤8
theorem PartsOk.of{p:Prt}{n warm:Int}{l:List Int}(h:a5B p n warm=true)(i:(l.length:Int)=n-warm)(j:l.all a0A=true)(e:l.length≤5000):∃g,PartsOk p n warm l g:=by
 have f:=h;simp only[a5B,bA,a35,beq_eq_false_iff_ne,ne_eq,beq_iff_eq]at f;obtain⟨c,o,d⟩:=f;obtain⟨g,a,m,b⟩:=b4Y c;have k:a6m n warm=true∧0≤p.1∧p.1≤8:=by
  grind[a1J]
 exact⟨g,h,a,by omega,b,by simp_all[a1u],d,j,e,k.1,i,k.2⟩
theorem b1s{n warm:Int}{l:List Int}(h:a6m n warm=true)(c:(l.length:Int)=n-warm)(d:l.all a0A=true)(a:l.length≤5000):a6W (n,warm,l)=some true:=by
 have e:wrap .i64 (n-warm)=n-warm:=by
  simp[a6m]at h;exact a0C (by omega)
 have k:(((l.length:Nat):Int) != n-warm)=false:=by simp_all
 have f:b3x=a2w:=rfl;have g:short l:=by unfold short;omega
 have b:=a4x g;simp_all[a2s,a6W,b3O]
theorem b9M(h:PartsOk p n warm l zn):∃c,a4D (p,n,warm,l)=some c∧4≤c:=by
 have k:Go.Ab.short p.2.1:=by have:=h.ks;have:=h.len;unfold Go.Ab.short;omega
 have a:=h.short;have b:=h.len;obtain⟨c,g,f⟩:=b4w h.ks h.all h.len zn.length 0 l 4 (by omega) (by rw[a32];exact h.sum) h.wide h.short (by omega) (by omega);simp at g;refine⟨c,?_,f⟩;unfold a4D;simp only[b3P k,h.may,b1s h.row h.rest h.wide h.short,oB,bT,cF,a1Y,h.sizes,a1u,g]
def a4n(p:Prt)(zn:List Nat)(l L:List Int):List Int:=a4N zn p.2.1 l (a0O (wrap .u64 p.1) 4 L)
theorem c3u(h:PartsOk p n warm l zn)(i:L.length<700000000):b1N (wL L,p,n,warm,l)=some (0,wL (a4n p zn l L)):=by
 have e:=h.short;have j:=h.len;obtain⟨c,a,b⟩:=b9M h;have k:(c==0)=false:=by grind
 have d:=a0W (wrap .u64 p.1) 4 L;have f:a0G (wL L,wrap .u64 p.1,(4:Int))=some (a7X (wrap .u64 p.1) 4,wL (a0O (wrap .u64 p.1) 4 L)):=a3e (n:=4) (by omega) (by omega);have g:=b5x h.ks h.all h.len zn.length 0 l (a0O (wrap .u64 p.1) 4 L) (by omega) (by rw[a32];exact h.sum) h.wide h.short (by omega);simp at g;unfold b1N;simp only[a,oB,k,cF,f,a1Y,h.sizes,a1u,g,a4n]
theorem b9N{c:List Int}{wd:Nat}(k:wd≤32)(g:c.length<10000):∀(j i:Nat)(L:List Int),i+j=c.length→L.length+64*j<999990000→
  y0o a5P ((wd:Int),c,(c.length:Int),(i:Int),wL L,())=some (wL (a1C wd (c.drop i) L),())
 |0,i,L,hi,_=>by
  obtain rfl:i=c.length:=by omega
  simp_all[a0E,a5P,a1C]
 |j+1,i,L,hi,hb=>by
  have h:i<c.length:=by omega
  have f:=a0W (a0X c[i] wd) wd L;rw[a02 h,a0F (s':=((wd:Int),c,(c.length:Int),((i+1:Nat):Int),wL (a0O (a0X c[i] wd) wd L),())) (by
   simp only[a5P,dlt h,cT,a0D h,oB,b3S (show wd≤63 by omega) (show L.length<999999000 by omega),a0B (show i<1000000 by omega)])]
  exact b9N k g j (i+1) _ (by omega) (by omega)
theorem c1P{t:List Int}{n wd:Int}{s:Sub}(a:t.length=3):∀(j i:Nat)(L:List Int),i+j=3→L.length+64*j<999990000→
  y0o a9Z (n,wd,t,(i:Int),wL L,s,())=some (n,wd,wL (a1C 8 (t.drop i) L),s,())
 |0,i,L,hi,_=>by
  obtain rfl:i=t.length:=by omega
  grind[a0E,a9Z,a1C]
 |j+1,i,L,hi,hb=>by
  have h:i<t.length:=by omega
  have f:decide ((i:Int)<3)=true:=by grind
  have k:=a0W (a0X t[i] 8) 8 L;have g:a2H (wL L,t[i],(8:Int))=some (wL (a0O (a0X t[i] 8) 8 L)):=b3S (n:=8) (by omega) (by omega);rw[a02 h,a0F (s':=(n,wd,t,((i+1:Nat):Int),wL (a0O (a0X t[i] 8) 8 L),s,())) (by
   simp only[a9Z,f,cT,a0D h,oB,g,a0B (show i<1000000 by omega)])]
  exact c1P a j (i+1) _ (by omega) (by omega)
theorem c1Q{l:List Int}{n:Int}{wd:Nat}{s:Sub}(k:wd≤32)(g:l.length<10000):∀(j i:Nat)(L:List Int),i+j=l.length→L.length+64*j<999990000→
  y0o b0B (n,(wd:Int),l,(l.length:Int),(i:Int),wL L,s,())=some (n,wL (a1C wd (l.drop i) L),s,())
 |0,i,L,hi,_=>by
  obtain rfl:i=l.length:=by omega
  simp_all[a0E,b0B,a1C]
 |j+1,i,L,hi,hb=>by
  have h:i<l.length:=by omega
  have f:=a0W (a0X l[i] wd) wd L;rw[a02 h,a0F (s':=(n,(wd:Int),l,(l.length:Int),((i+1:Nat):Int),wL (a0O (a0X l[i] wd) wd L),s,())) (by
   simp only[b0B,dlt h,cT,a0D h,oB,b3S (show wd≤63 by omega) (show L.length<999999000 by omega),a0B (show i<1000000 by omega)])]
  exact c1Q k g j (i+1) _ (by omega) (by omega)
def a6p(s:Stg)(L:List Int):List Int:=a0O (wrap .u64 s.2.1) 4 (a0O (wrap .u64 (wrap .i64 (s.1-1))) 5 L)
def a3h(st:List Stg)(L:List Int):List Int:=st.foldl (fun L s=>a6p s L) L
theorem b6I(s:Stg)(L:List Int):(a6p s L).length≤L.length+9:=by
 grind[a0W,a6p]
theorem b5y:∀(st:List Stg)(L:List Int),(a3h st L).length≤L.length+9*st.length
 | [],L=>by simp[a3h]
 |s::st,L=>by
  have h:=b6I s L;have g:=b5y st (a6p s L);have e:a3h (s::st) L=a3h st (a6p s L):=rfl
  grind
theorem b8q{st:List Stg}{n wd:Int}{s:Sub}(a:st.length<10000):∀(j i:Nat)(L:List Int),i+j=st.length→L.length+64*j<999990000→
  y0o b0A (n,wd,st,(st.length:Int),(i:Int),wL L,s,())=some (n,wd,wL (a3h (st.drop i) L),s,())
 |0,i,L,hi,_=>by
  obtain rfl:i=st.length:=by omega
  simp_all[a0E,b0A,a3h]
 |j+1,i,L,hi,hb=>by
  have h:i<st.length:=by omega
  have k:=a0W (wrap .u64 (wrap .i64 (st[i].1-1))) 5 L;have b:=b6I st[i] L;have g:a0G (wL L,wrap .u64 (wrap .i64 (st[i].1-1)),(5:Int))=some (a7X (wrap .u64 (wrap .i64 (st[i].1-1))) 5,wL (a0O (wrap .u64 (wrap .i64 (st[i].1-1))) 5 L)):=a3e (n:=5) (by omega) (by omega);have f:a0G (wL (a0O (wrap .u64 (wrap .i64 (st[i].1-1))) 5 L),wrap .u64 st[i].2.1,(4:Int))=some (a7X (wrap .u64 st[i].2.1) 4,wL (a6p st[i] L)):=a3e (n:=4) (by omega) (by omega);rw[a02 h,a0F (s':=(n,wd,st,(st.length:Int),((i+1:Nat):Int),wL (a6p st[i] L),s,())) (by
   simp only[b0A,dlt h,cT,a0D h,oB,g,f,a0B (show i<1000000 by omega)])]
  exact b8q a j (i+1) _ (by omega) (by omega)
def a6q(s:Sub)(L:List Int):List Int:=
 a1C (a0I s.2.2.2.2.2.1) s.2.2.2.2.2.1 (a0O ((a0I s.2.2.2.2.2.1:Nat):Int) 5 (a0O (wrap .u64 s.2.2.2.1) 4 (a0O (wrap .u64 (wrap .i64 (((s.2.2.2.2.2.1.length:Nat):Int)-1))) 5 L)))
theorem c2E{s:Sub}(h:s.2.2.2.2.2.1.length≤40)(L:List Int):(a6q s L).length≤L.length+2000:=by
 unfold a6q;have f:=a0W (wrap .u64 (wrap .i64 (((s.2.2.2.2.2.1.length:Nat):Int)-1))) 5 L;have k:=a0W (wrap .u64 s.2.2.2.1) 4 (a0O (wrap .u64 (wrap .i64 (((s.2.2.2.2.2.1.length:Nat):Int)-1))) 5 L);have a:=a0W ((a0I s.2.2.2.2.2.1:Nat):Int) 5 (a0O (wrap .u64 s.2.2.2.1) 4 (a0O (wrap .u64 (wrap .i64 (((s.2.2.2.2.2.1.length:Nat):Int)-1))) 5 L));have b:=a6n (a0I s.2.2.2.2.2.1) s.2.2.2.2.2.1 (a0O ((a0I s.2.2.2.2.2.1:Nat):Int) 5 (a0O (wrap .u64 s.2.2.2.1) 4 (a0O (wrap .u64 (wrap .i64 (((s.2.2.2.2.2.1.length:Nat):Int)-1))) 5 L)));have g:=a6t s.2.2.2.2.2.1
 have:a0I s.2.2.2.2.2.1*s.2.2.2.2.2.1.length≤32*40:=a72 g h
 omega
theorem b8r(h:s.2.2.2.2.2.1.length≤40)(l:L.length<900000000):a8l (wL L,s)=some (wL (a6q s L)):=by
 have e:=a0W (wrap .u64 (wrap .i64 (((s.2.2.2.2.2.1.length:Nat):Int)-1))) 5 L;have i:=a0W (wrap .u64 s.2.2.2.1) 4 (a0O (wrap .u64 (wrap .i64 (((s.2.2.2.2.2.1.length:Nat):Int)-1))) 5 L);have j:=a0W ((a0I s.2.2.2.2.2.1:Nat):Int) 5 (a0O (wrap .u64 s.2.2.2.1) 4 (a0O (wrap .u64 (wrap .i64 (((s.2.2.2.2.2.1.length:Nat):Int)-1))) 5 L));have k:=a6t s.2.2.2.2.2.1;have f:wrap .u64 ((a0I s.2.2.2.2.2.1:Nat):Int)=((a0I s.2.2.2.2.2.1:Nat):Int):=a0K (by omega);have a:a0G (wL L,wrap .u64 (wrap .i64 (((s.2.2.2.2.2.1.length:Nat):Int)-1)),(5:Int))=some (a7X (wrap .u64 (wrap .i64 (((s.2.2.2.2.2.1.length:Nat):Int)-1))) 5,wL (a0O (wrap .u64 (wrap .i64 (((s.2.2.2.2.2.1.length:Nat):Int)-1))) 5 L)):=a3e (n:=5) (by omega) (by omega);have b:a0G (wL (a0O (wrap .u64 (wrap .i64 (((s.2.2.2.2.2.1.length:Nat):Int)-1))) 5 L),wrap .u64 s.2.2.2.1,(4:Int))=some (a7X (wrap .u64 s.2.2.2.1) 4,wL (a0O (wrap .u64 s.2.2.2.1) 4 (a0O (wrap .u64 (wrap .i64 (((s.2.2.2.2.2.1.length:Nat):Int)-1))) 5 L))):=a3e (n:=4) (by omega) (by omega);have d:a0G (wL (a0O (wrap .u64 s.2.2.2.1) 4 (a0O (wrap .u64 (wrap .i64 (((s.2.2.2.2.2.1.length:Nat):Int)-1))) 5 L)),((a0I s.2.2.2.2.2.1:Nat):Int),(5:Int))=some (a7X ((a0I s.2.2.2.2.2.1:Nat):Int) 5,wL (a0O ((a0I s.2.2.2.2.2.1:Nat):Int) 5 (a0O (wrap .u64 s.2.2.2.1) 4 (a0O (wrap .u64 (wrap .i64 (((s.2.2.2.2.2.1.length:Nat):Int)-1))) 5 L)))):=a3e (n:=5) (by omega) (by omega);have g:=b9N (c:=s.2.2.2.2.2.1) k (by omega) s.2.2.2.2.2.1.length 0 (a0O ((a0I s.2.2.2.2.2.1:Nat):Int) 5 (a0O (wrap .u64 s.2.2.2.1) 4 (a0O (wrap .u64 (wrap .i64 (((s.2.2.2.2.2.1.length:Nat):Int)-1))) 5 L))) (by omega) (by omega);simp at g;unfold a8l;simp only[a,b,a2m (show short s.2.2.2.2.2.1 by unfold short;omega),f,d,g,oB,a6q]
def b2d(s:Sub)(L:List Int):List Int:=
 a0O ((a0I s.2.2.2.2.2.2.2.2.1:Nat):Int) 5 (a0O (wrap .u64 s.2.1) 5 (a0O (wrap .u64 s.1) 3 L))
def a2t(s:Sub)(L:List Int):List Int:=
 if s.1=2 then a0O (wrap .u64 s.2.2.1) 3 L
 else if s.1=3 then a6q s L
 else if s.1=4 then a6q s (a1C 8 s.2.2.2.2.2.2.1 (a0O (wrap .u64 (wrap .i64 (s.2.2.2.2.1-1))) 10 L))
 else if s.1=5 then a3h s.2.2.2.2.2.2.2.1 (a0O (wrap .u64 ((s.2.2.2.2.2.2.2.1.length:Nat):Int)) 2 L)
 else L
theorem c3v(h:SmallS s)(L:List Int):(a2t s L).length≤L.length+3000:=by
 have f:=h.coefs;have k:=h.taps;have g:=h.stages
 grind[a2t,a0W,c2E,a6n,b5y]
theorem b6J:∀(zs:List Nat)(ks l L:List Int),ks.all kB=true→(a4N zs ks l L).length≤L.length+10*zs.length+100*l.length
 |z::zs,k::ks,l,L,h=>by
  simp only[a06,bA]at h;have g:=b7q h.1 (l.take z) L;have f:=b6J zs ks (l.drop z) (a9w k (l.take z) L) h.2;rw[a95]at g;rw[a53]at f;simp only[a4N,lC];omega
 | [],_,_,_,_=>by simp_all[a4N]
 |_::_,[],_,_,_=>by grind[a4N]
def a5j(s:Sub)(zn:List Nat)(L:List Int):List Int:=
 if s.1=0∨s.1=1 then a1C (a0I s.2.2.2.2.2.2.2.2.1) s.2.2.2.2.2.2.2.2.1 (a2t s (b2d s L))
 else a4n s.2.2.2.2.2.2.2.2.2.1 zn s.2.2.2.2.2.2.2.2.2.2.1 (a1C (a0I s.2.2.2.2.2.2.2.2.1) s.2.2.2.2.2.2.2.2.1 (a2t s (b2d s L)))
theorem b5T(h:SmallS s)(R:L.length<100000000):
  ∃(e:Int)(L':List Int),a9I (wL L,s,n)=some (e,wL L')∧(e=0∨L'=L)∧L'.length≤L.length+700000∧
   ((a2j s n).isSome=true→e=0∧∃a,L'=a5j s a L∧(s.1≠0∧s.1≠1→PartsOk s.2.2.2.2.2.2.2.2.2.1 n ((s.2.2.2.2.2.2.2.2.1.length:Nat):Int) s.2.2.2.2.2.2.2.2.2.2.1 a))∧((a2j s n).isSome=false→e=1∧L'=L):=by
 unfold a9I;simp only[b9J h,oB];cases hs:(a2j s n).isSome with
 |false=>exact⟨1,L,rfl,.inr rfl,by omega,fun h=>(by grind),fun _=>⟨rfl,rfl⟩⟩
 |true=>
  have hp:a1s s n:=by
   grind[a2j]
  obtain⟨P,Q,z,-,-,-,-,u,D,A,-,o⟩:=hp;have b:=c7n z;have m:=a6t s.2.2.2.2.2.2.2.2.1;have r:short s.2.2.2.2.2.2.2.2.1:=by have:=h.warm;unfold short;omega
  have c:=h.warm;have q:=h.rest;have B:=h.stages;have C:=h.taps;have q1:=a0W (wrap .u64 s.1) 3 L;have S:=a0W (wrap .u64 s.2.1) 5 (a0O (wrap .u64 s.1) 3 L);have T:=a0W ((a0I s.2.2.2.2.2.2.2.2.1:Nat):Int) 5 (a0O (wrap .u64 s.2.1) 5 (a0O (wrap .u64 s.1) 3 L));have y:wrap .u64 ((a0I s.2.2.2.2.2.2.2.2.1:Nat):Int)=((a0I s.2.2.2.2.2.2.2.2.1:Nat):Int):=a0K (by omega);have H:a0G (wL L,wrap .u64 s.1,(3:Int))=some (a7X (wrap .u64 s.1) 3,wL (a0O (wrap .u64 s.1) 3 L)):=a3e (n:=3) (by omega) (by omega);have I:a0G (wL (a0O (wrap .u64 s.1) 3 L),wrap .u64 s.2.1,(5:Int))=some (a7X (wrap .u64 s.2.1) 5,wL (a0O (wrap .u64 s.2.1) 5 (a0O (wrap .u64 s.1) 3 L))):=a3e (n:=5) (by omega) (by omega);have v:a0G (wL (a0O (wrap .u64 s.2.1) 5 (a0O (wrap .u64 s.1) 3 L)),((a0I s.2.2.2.2.2.2.2.2.1:Nat):Int),(5:Int))=some (a7X ((a0I s.2.2.2.2.2.2.2.2.1:Nat):Int) 5,wL (b2d s L)):=a3e (n:=5) (by omega) (by omega);have K:(b2d s L).length≤L.length+13:=by unfold b2d;omega
  generalize hM:b2d s L=M at v K;have U:=c3v h M;have N:=a6n (a0I s.2.2.2.2.2.2.2.2.1) s.2.2.2.2.2.2.2.2.1 (a2t s M);have V:a0I s.2.2.2.2.2.2.2.2.1*s.2.2.2.2.2.2.2.2.1.length≤32*5000:=a72 m c;have g:=c1Q (l:=s.2.2.2.2.2.2.2.2.1) (n:=n) (s:=s) m (by omega) s.2.2.2.2.2.2.2.2.1.length 0 (a2t s M) (by omega) (by omega);simp at g

  have i:=b8q (st:=s.2.2.2.2.2.2.2.1) (n:=n) (wd:=((a0I s.2.2.2.2.2.2.2.2.1:Nat):Int)) (s:=s) (by omega) s.2.2.2.2.2.2.2.1.length 0 (a0O (wrap .u64 ((s.2.2.2.2.2.2.2.1.length:Nat):Int)) 2 M) (by omega) (by grind[a0W]);have X:=a0W (wrap .u64 (wrap .i64 (s.2.2.2.2.1-1))) 10 M;have Y:=a6n 8 s.2.2.2.2.2.2.1 (a0O (wrap .u64 (wrap .i64 (s.2.2.2.2.1-1))) 10 M);have j:=c1P (t:=s.2.2.2.2.2.2.1) (n:=n) (wd:=((a0I s.2.2.2.2.2.2.2.2.1:Nat):Int)) (s:=s) C 3 0 (a0O (wrap .u64 (wrap .i64 (s.2.2.2.2.1-1))) 10 M) (by rfl) (by omega);simp at i j;have E:a0G (wL M,wrap .u64 s.2.2.1,(3:Int))=some (a7X (wrap .u64 s.2.2.1) 3,wL (a0O (wrap .u64 s.2.2.1) 3 M)):=a3e (n:=3) (by omega) (by omega);have F:a0G (wL M,wrap .u64 (wrap .i64 (s.2.2.2.2.1-1)),(10:Int))=some (a7X (wrap .u64 (wrap .i64 (s.2.2.2.2.1-1))) 10,wL (a0O (wrap .u64 (wrap .i64 (s.2.2.2.2.1-1))) 10 M)):=a3e (n:=10) (by omega) (by omega);have G:a0G (wL M,wrap .u64 ((s.2.2.2.2.2.2.2.1.length:Nat):Int),(2:Int))=some (a7X (wrap .u64 ((s.2.2.2.2.2.2.2.1.length:Nat):Int)) 2,wL (a0O (wrap .u64 ((s.2.2.2.2.2.2.2.1.length:Nat):Int)) 2 M)):=a3e (n:=2) (by omega) (by omega);have w:=b8r (s:=s) h.coefs (L:=M) (by omega);have x:=b8r (s:=s) h.coefs (L:=a1C 8 s.2.2.2.2.2.2.1 (a0O (wrap .u64 (wrap .i64 (s.2.2.2.2.1-1))) 10 M)) (by omega);simp only[bT,cF,a2m r,oB,H,I,y,v];generalize hPM:a1C (a0I s.2.2.2.2.2.2.2.2.1) s.2.2.2.2.2.2.2.2.1 (a2t s M)=PM at g N

  have tail:∀(d:s.1≠0∧s.1≠1),∃a,PartsOk s.2.2.2.2.2.2.2.2.2.1 n ((s.2.2.2.2.2.2.2.2.1.length:Nat):Int) s.2.2.2.2.2.2.2.2.2.2.1 a:=fun d=>by
   simp_all[PartsOk.of]
  rcases b with k|k|k|k|k|k;have f:a2t s M=M:=by unfold a2t;grind
  rw[f]at g;refine⟨0,PM,?_,.inl rfl,by omega,fun _=>⟨rfl,[],by simp_all[a5j],fun h=>absurd k (by omega)⟩,fun h=>by grind⟩;simp only[k,show((0:Int)==2)=false from rfl,show((0:Int)==4)=false from rfl,show((0:Int)==3)=false from rfl,show((0:Int)==5)=false from rfl,cF,oB,g,a6s]
  simp
  have f:a2t s M=M:=by unfold a2t;grind
  rw[f]at g;refine⟨0,PM,?_,.inl rfl,by omega,fun _=>⟨rfl,[],by simp_all[a5j],fun h=>absurd k (by omega)⟩,fun h=>by grind⟩;simp only[k,show((1:Int)==2)=false from rfl,show((1:Int)==4)=false from rfl,show((1:Int)==3)=false from rfl,show((1:Int)==5)=false from rfl,cF,oB,g,a6s]
  simp
  all_goals
   obtain⟨a,p⟩:=tail (by omega);have Z:=c3u (L:=PM) p (by omega);have O:(a4n s.2.2.2.2.2.2.2.2.2.1 a s.2.2.2.2.2.2.2.2.2.2.1 PM).length≤L.length+700000:=by
    have z1:=a0W (wrap .u64 s.2.2.2.2.2.2.2.2.2.1.1) 4 PM;have z2:=b6J a s.2.2.2.2.2.2.2.2.2.1.2.1 s.2.2.2.2.2.2.2.2.2.2.1 (a0O (wrap .u64 s.2.2.2.2.2.2.2.2.2.1.1) 4 PM) p.all;have z3:=p.len
    grind[a4n]
   refine⟨0,a4n s.2.2.2.2.2.2.2.2.2.1 a s.2.2.2.2.2.2.2.2.2.2.1 PM,?_,.inl rfl,O,fun _=>⟨rfl,a,by simp_all[a5j],fun _=>p⟩,fun h=>by grind⟩
  have f:a2t s M=a0O (wrap .u64 s.2.2.1) 3 M:=by unfold a2t;grind
  rw[f]at g;simp only[k,show((2:Int)==2)=true from rfl,cT,E,oB,g,a6s]
  grind
  have f:a2t s M=a6q s M:=by unfold a2t;grind
  rw[f]at g;simp only[k,show((3:Int)==2)=false from rfl,show((3:Int)==4)=false from rfl,show((3:Int)==3)=true from rfl,cT,cF,w,oB,g,a6s]
  grind
  have f:a2t s M=a6q s (a1C 8 s.2.2.2.2.2.2.1 (a0O (wrap .u64 (wrap .i64 (s.2.2.2.2.1-1))) 10 M)):=by unfold a2t;grind
  rw[f]at g;simp only[k,show((4:Int)==2)=false from rfl,show((4:Int)==4)=true from rfl,cT,cF,F,j,x,oB,g,a6s]
  grind
  have f:a2t s M=a3h s.2.2.2.2.2.2.2.1 (a0O (wrap .u64 ((s.2.2.2.2.2.2.2.1.length:Nat):Int)) 2 M):=by unfold a2t;grind
  rw[f]at g;simp only[k,show((5:Int)==2)=false from rfl,show((5:Int)==4)=false from rfl,show((5:Int)==3)=false from rfl,show((5:Int)==5)=true from rfl,cT,cF,G,i,oB,g,a6s]
  grind
theorem b4Z(h:List Nat):(a1n h).map a30=h:=by
 unfold a1n;rw[List.map_map]
 have:a30∘(fun(a:Nat)=>(a:Int))=id:=by rfl
 simp_all
def a4Y(s:Sub)(n:Int):Int:=
 if(a2j s n).isSome=true then(((a5j s ((a1J s.2.2.2.2.2.2.2.2.2.1.1 n ((s.2.2.2.2.2.2.2.2.1.length:Nat):Int)).map a30) []).length:Nat):Int)else 0
theorem c1t(h:s.1≠0∧s.1≠1→PartsOk s.2.2.2.2.2.2.2.2.2.1 n ((s.2.2.2.2.2.2.2.2.1.length:Nat):Int) s.2.2.2.2.2.2.2.2.2.2.1 zn)(L:List Int):
  a5j s zn L=a5j s ((a1J s.2.2.2.2.2.2.2.2.2.1.1 n ((s.2.2.2.2.2.2.2.2.1.length:Nat):Int)).map a30) L:=by
 by_cases hk:s.1=0∨s.1=1
 simp_all[a5j];rw[(h (not_or.1 hk)).sizes,b4Z]
theorem c5g(h:SmallS s)(n:Int):a4c (s,n)=some (a4Y s n):=by
 obtain⟨e,f,g,-,-,k,c⟩:=b5T h (n:=n) (L:=[]) (by simp);have a:wL []=(([]:List Int),(0:Int),()):=rfl;rw[a]at g;obtain⟨d,-⟩:=a5K f;unfold a4c a4Y;simp[g,a8O];cases hs:(a2j s n).isSome with
 |false=>
  simp_all
 |true=>
  obtain⟨rfl,i,rfl,b⟩:=k hs;rw[if_pos rfl,←c1t b];simp_all
def dif:List Int→List Int
 |a::b::r=>W (b-a)::dif (b::r)
 |_=>[]
theorem a8D:∀l:List Int,(dif l).length=l.length-1
 | []=>rfl
 | [_]=>rfl
 |a::b::r=>by simp[dif,a8D (b::r)]
theorem c1u:∀(l:List Int)(i:Nat)(x y:Int),l[i]?=some x→l[i+1]?=some y→(dif l)[i]?=some (W (y-x))
 |a::b::r,0,x,y,h1,h2=>by simp at h1 h2;subst h1;subst h2;rfl
 |a::b::r,i+1,x,y,h1,h2=>by
  simp only[dif,List.getElem?_cons_succ]at h1 h2⊢;exact c1u (b::r) i x y h1 h2
 | [_],0,x,y,h1,h2=>by simp_all
 | [_],i+1,x,y,h1,h2=>by simp_all
 | [],i,x,y,h1,h2=>by simp_all
def a2k:Nat→List Int→List Int
 |0,l=>l
 |o+1,l=>dif (a2k o l)
theorem a5L(l:List Int):∀o,(a2k o l).length=l.length-o
 |0=>rfl
 |o+1=>by simp only[a2k,a8D,a5L l o];omega
theorem b5U{l:List Int}(h:short l)(o:Nat):short (a2k o l):=by
 have h:l.length<1000000:=h;show(a2k o l).length<1000000;rw[a5L];omega
def b1t(l:List Int)(i:Nat):List Int:=(dif l).take i++l.drop i
theorem b5a(h:i≤l.length-1):(b1t l i).length=l.length:=by
 grind[b1t,a8D]
theorem c1R{j:Nat}(h:i≤l.length-1)(g:i≤j):(b1t l i).getD j 0=l.getD j 0:=by
 simp_all[a8D,b1t,a59]
theorem c8D(h:i<l.length-1):(b1t l i).set i (W (l.getD (i+1) 0-l.getD i 0))=b1t l (i+1):=by
 have e:((dif l).take i).length=i:=by grind[a8D]
 have f:l[i]?=some l[i]:=lG (by omega);have k:l[i+1]?=some l[i+1]:=lG (by omega);have a:=c1u l i _ _ f k;have g:i<(dif l).length:=by grind
 simp only[b1t];rw[List.set_append,if_neg (by omega),e,a81,a02 (show i<l.length by omega),a78,a38 g,aA]
 grind
theorem c6k{l:List Int}{o k:Int}(g:short l)(h:1≤l.length):y0o a5q ((0:Int),o,k,l,())=some (o,k,b1t l (l.length-1),()):=by
 have g:l.length<1000000:=g;have r:b1t l 0=l:=by rfl
 have:=a1B (f:=a5q) (fun i:Nat=>((i:Int),o,k,b1t l i,())) (l.length-1) (b:=(o,k,b1t l (l.length-1),()))
  (fun i hi=>by
   have d:wrap .i64 ((i:Int)+1)=((i+1:Nat):Int):=a0B (by omega);have c:=b5a (l:=l) (i:=i) (by omega);have a:decide (((i+1:Nat):Int)<((l.length:Nat):Int))=true:=by grind
   have e:decide ((0:Int)≤((i+1:Nat):Int))=true:=by rfl
   have m:decide ((0:Int)≤(i:Int))=true:=by simp
   have n:decide ((i:Int)<((l.length:Nat):Int))=true:=by grind
   have s:a30 ((i+1:Nat):Int)=i+1:=by rfl
   have t:a30 (i:Int)=i:=by rfl
   have st:=c8D (l:=l) (i:=i) (by omega);have p:=c1R (l:=l) (i:=i) (j:=i+1) (by omega) (by omega);have q:=c1R (l:=l) (i:=i) (j:=i) (by omega) (by omega);simp_all[a5q])
  (by
   have c:=b5a (l:=l) (i:=l.length-1) (by omega);have d:wrap .i64 (((l.length-1:Nat):Int)+1)=((l.length:Nat):Int):=by grind[a0C]
   have a:decide (((l.length:Nat):Int)<((l.length:Nat):Int))=false:=by simp
   simp_all[a5q])
 simp_all
theorem c7q{l:List Int}:(b1t l (l.length-1)).take (l.length-1)=dif l:=by
 simp_all[a68,a8D,b1t]
theorem b6K(y:o≤4)(x:o≤l.length)(g:short l)(r:l.all a0A=true):
  a4F (l,(o:Int))=some (bif (a2k o l).all a0A then(a2k o l,0)else([],6)):=by
 have q:l.length<1000000:=g;have h:=a1B (f:=a7D) (fun k:Nat=>((o:Int),(k:Int),a2k k l,())) o (b:=(a2k o l,()))
  (fun k v=>by
   have n:1≤(a2k k l).length:=by rw[a5L];omega
   have p:(a2k k l).length<1000000:=b5U g k;have j:decide ((k:Int)<(o:Int))=true:=by simp_all
   have w:=b5a (l:=a2k k l) (i:=(a2k k l).length-1) (by omega);have z:wrap .i64 ((((a2k k l).length:Nat):Int)-1)=(((a2k k l).length-1:Nat):Int):=by grind[a0C]
   have w2:wrap .i64 ((k:Int)+1)=((k+1:Nat):Int):=a0B (by omega);have s:decide ((0:Int)≤(((a2k k l).length-1:Nat):Int))=true:=by simp
   have t:decide ((((a2k k l).length-1:Nat):Int)≤(((a2k k l).length:Nat):Int))=true:=by simp
   have u:decide ((a2k k l).length-1≤(a2k k l).length)=true:=by simp
   simp_all[a2k,a7D,c6k,b5U,c7q])
  (by
   have j:decide ((o:Int)<(o:Int))=false:=by simp
   simp_all[a7D])
 have a:decide ((o:Int)<0)=false:=by simp
 have c:decide ((o:Int) > 4)=false:=by grind
 have d:decide (((l.length:Nat):Int)<(o:Int))=false:=by simp_all
 have e:lim l.length=true:=a0V (by omega);simp at h;have m:a2k 0 l=l:=rfl;rw[m]at h;unfold a4F;simp only[a,c,d,e,cF,cT,oB,a7g g,r,bT,h,a7g (b5U g o)]
 grind
def ex:Nat→(Nat→Int)→Nat→Int
 |0,f,i=>f i
 |o+1,f,i=>ex o f (i+1)-ex o f i
theorem b8V{l:List Int}(g:l.all a0A=true):∀(o i:Nat),i+o<l.length→(a2k o l)[i]?=some (W (ex o (fun j=>l.getD j 0) i))
 |0,i,h=>by
  simp_all[a2k,ex,b7n]
 |o+1,i,h=>by
  have f:=b8V g o i (by omega);have k:=b8V g o (i+1) (by omega);simp_all[a2k,ex,c1u,a7V]
theorem c7r(e:l.all a0A=true){j:Nat}(d:o≤4)(h:o+j<l.length):W (W (ex o (fun j=>l.getD j 0) j)+a6k o (l.take (o+j)))=l.getD (o+j) 0:=by
 have f:a0A (l.getD (o+j) 0)=true:=by
  simp_all
 have g:∀i:Nat,1≤i→i≤o→atB (l.take (o+j)) i=l.getD (o+j-i) 0:=fun i b c=>by
  simp[atB,a69 (a82 h),List.getElem?_take]
  grind
 have a:ex o (fun j=>l.getD j 0) j+a6k o (l.take (o+j))=l.getD (o+j) 0:=by
  have k:o=0∨o=1∨o=2∨o=3∨o=4:=by omega
  rcases k with rfl|rfl|rfl|rfl|rfl;simp[ex,a6k]
  all_goals grind[ex,a6k]
 have:W (W (ex o (fun j=>l.getD j 0) j)+a6k o (l.take (o+j)))=W (ex o (fun j=>l.getD j 0) j+a6k o (l.take (o+j))):=by
  simp_all[a7V]
 simp_all[b7n]
theorem c3w{l:List Int}(f:l.all a0A=true){o:Nat}(b:o≤4):∀(k j:Nat),o+j+k=l.length→a4e (a6k o) ((a2k o l).drop j) (l.take (o+j))=some l
 |0,j,h=>by
  rw[List.drop_of_length_le (by rw[a5L];omega),a68 (by omega)];rfl
 |k+1,j,h=>by
  have g:j<(a2k o l).length:=by rw[a5L];omega
  have a:=b8V f o j (by omega);rw[lG g]at a;have e:=Option.some.inj a;have c:l.getD (o+j) 0=l[o+j]:=by grind
  have st:=c7r f b (show o+j<l.length by omega);rw[c]at st;rw[a02 g,e];simp only[a4e,st,lA.1 f _ (a05 (show o+j<l.length by omega)),cT];have d:l.take (o+j)++[l[o+j]]=l.take (o+(j+1)):=by
   rw[show o+(j+1)=(o+j)+1 by rfl]
   simp
  rw[d];exact c3w f b k (j+1) (by omega)
theorem a7r{σ β:Type}{f:σ→Option (σ ⊕ β)}(I:Nat→σ→Prop)(Q:β→Prop)(n:Nat)(g:∀i s,i<n→I i s→∃s',f s=some (.inl s')∧I (i+1) s')
  (a:∀s,I n s→∃b,f s=some (.inr b)∧Q b):∀(k i:Nat)(s:σ),i+k=n→I i s→∃b,y0o f s=some b∧Q b
 |0,i,s,h,hi=>by
  obtain rfl:i=n:=by omega
  grind[a0E]
 |k+1,i,s,h,hi=>by
  obtain⟨s',c,d⟩:=g i s (by omega) hi;rw[a0F c];exact a7r I Q n g a k (i+1) s' (by omega) d
theorem b8s(y:Int):0≤wrap .u64 y∧wrap .u64 y<18446744073709551616:=by
 grind[wrap,IntKind.bits,IntKind.signed]
def b2e(n:Int)(x:Int):Bool:=a0A x&&!(a29 x (A0j .i64 1 n) != 0)
def b5V{β:Type}(n:Int)(bad:β)(out:List Int)(x:Int):List Int ⊕ β:=bif b2e n x then .inl (out++[A0k .i64 x n])else .inr bad
def b0Y(n:Int)(l:List Int):Option (List Int):=bif l.all (b2e n)then some (l.map fun x=>A0k .i64 x n)else none
theorem b6L{β:Type}(n:Int)(h:β)(g:List Int→β):∀(l out:List Int),a8Q g (a2K (b5V n h) l out)=match b0Y n l with|some r=>g (out++r)|none=>h
 | [],out=>by grind[a2K,a8Q,b0Y]
 |x::l,out=>by
  simp only[a2K,b5V,b0Y,a06];cases hx:b2e n x with
  |true=>
   simp only[cT,a46];rw[b6L n h g l _];simp only[b0Y];cases l.all (b2e n)with
   |true=>simp
   |false=>rfl
  |false=>rfl
theorem c3x{o:Nat}(h:o≤30):A0j .i64 1 (o:Int)=((2^o:Nat):Int):=by
 have g:2^o≤2^30:=a09 (by omega) h
 have:=b8S (N:=1) (o:=o) (by omega) (by omega)
 simp_all
theorem b5z(d:o≤30)(m:l.length<100000):a7a (l,(o:Int))=some (a5a (b0Y (o:Int) l)):=by
 have e:short l:=by unfold short;omega
 have g:¬ (o:Int)<0:=by omega
 have b:¬ (o:Int) > 30:=by omega
 have c:(A0j .i64 (1:Int) (o:Int)==0)=false:=by
  rw[c3x d]
  have:0<2^o:=a18 o
  grind
 unfold a7a;simp[g,b]
 have:=a1R (f:=a6G) l (fun i out=>((o:Int),l,(l.length:Int),(i:Int),out,())) (b5V (o:Int) (Sum.inr ((6:Int),([]:List Int),())))
  (fun i out=>out.length=i) (fun out=>Sum.inl (out,()))
  (fun i h out j=>by
   have k:i<1000000:=by omega
   simp only[a6G,dlt h,cT,a0D h,oB,b5r,b5V,b2e,g,c,decide_false,cF];cases hb:a0A l[i]with
   |true=>
    cases hb2:(a29 l[i] (A0j .i64 1 (o:Int)) != 0)with
    |false=>
     simp only[cT,bT,cF,oB,g,decide_false,a0U (show out.length+1<1000000 by omega),a0B k,a03,a26,hb2];simp_all
    |true=>
     simp
   |false=>
    simp)
  (fun out _=>by simp[a6G]) (a:=[]) rfl
 simp[b6L]at this;rw[this];cases b0Y (o:Int) l<;>rfl
theorem b8W{o:Nat}(h:o≤30){x:Int}(k:b2e (o:Int) x=true):a0A (A0k .i64 x (o:Int))=true∧A0j .i64 (A0k .i64 x (o:Int)) (o:Int)=x∧a0A x=true:=by
 simp only[b2e,c3x h,bA,a35,bne_eq_false_iff_eq]at k;obtain⟨f,d⟩:=k;obtain⟨c,rfl⟩:=Int.dvd_of_tmod_eq_zero d;have g:=a1H.1 f;have e:min (a30 (o:Int)) (IntKind.bits .i64)=o:=by grind[IntKind.bits]
 have hp:(0:Int)<2^o:=Int.pow_pos (by omega);have b:((2^o:Nat):Int)=2^o:=by simp
 rw[b]at g f⊢;have a:A0k .i64 (2^o*c) (o:Int)=c:=by
  unfold A0k
  grind[a62]
 rw[a];refine⟨a1H.2 ?_,?_,f⟩;generalize (2:Int)^o=p at hp g;have i:p*c=(p-1)*c+c:=by grind
 by_cases hc:0≤c
 have:=a50 (show 0≤p-1 by omega) hc
 omega
 have:=a50 (show 0≤p-1 by omega) (show 0≤-c by omega)
 grind
 grind[A0j,a0C]
theorem d1i(h:o≤30)(f:b0Y (o:Int) l=some d):d.all a0A=true∧d.length=l.length∧upO (o:Int) d=some l:=by
 unfold b0Y at f;cases ha:l.all (b2e (o:Int))with
 |false=>simp_all
 |true=>
  rw[ha]at f;simp at f;subst f;have g:=lA.1 ha;refine⟨?_,by simp,?_⟩;simp_all[b8W];have a:(l.map fun x=>A0k .i64 x (o:Int)).all (fun x=>a0A x&&a0A (A0j .i64 x (o:Int)))=true:=by
   simp only[List.all_map];refine lA.2 fun x k=>?_
   obtain⟨c,e,i⟩:=b8W h (g x k);simp_all
  unfold upO;rw[a]
  simp
  have b:l.map ((fun x=>A0j .i64 x (o:Int))∘fun x=>A0k .i64 x (o:Int))=l.map id:=List.map_congr_left (fun x k=>(b8W h (g x k)).2.1);simp_all
theorem c6l{n warm:Int}(h:a6m n warm=true):(a1J 0 n warm).length≠0:=by
 have g:=h;simp[a6m]at g
 grind[a1J,b5t]
theorem c6m(h:-1048576≤x∧x≤1048575):v0o (v0n x (-1048576)) 1048575=x:=by
 unfold v0o v0n
 grind
theorem d4A(h:a0A x=true):-1048576≤A0k .i64 x ((10:Nat):Int)∧A0k .i64 x ((10:Nat):Int)≤1048575:=by
 have g:=a1H.1 h;have e:A0k .i64 x ((10:Nat):Int)=x / 1024:=by
  show a77 x 1024=_
  grind
 omega
theorem c1S{x:Int}(f:a0A x=true){a l:List Int}{n i:Int}:∀(k s:Nat),s+k=10→∃s':Nat,s'≤10∧y0o a3r (a,(s:Int),x,l,n,i,())=some (a,(s':Int),l,n,i,())
 |0,s,h=>by
  obtain rfl:s=10:=by omega
  have g:decide (((10:Nat):Int)<0)=false:=by rfl
  have d:=c6m (d4A f);refine⟨10,a23 _,a0E ?_⟩;simp_all[a3r,a2z]
 |k+1,s,h=>by
  have g:decide ((s:Int)<0)=false:=decide_eq_false (by omega);cases hc:(v0o (v0n (A0k .i64 x (s:Int)) (-1048576)) 1048575 != A0k .i64 x (s:Int))with
  |false=>exact⟨s,by omega,a0E (by simp only[a3r,g,cF,a2z,oB,hc])⟩
  |true=>
   obtain⟨s',b,c⟩:=c1S f (a:=a) (l:=l) (n:=n) (i:=i) k (s+1) (by omega);refine⟨s',b,?_⟩;rw[a0F (s':=(a,((s+1:Nat):Int),x,l,n,i,())) (by simp only[a3r,g,cF,a2z,oB,hc,cT,a0B (show s<1000000 by omega)])];omega
theorem c4K(v:l.all a0A=true)(z:l.length<100000):∃r,a7E l=some r∧r.length=l.length:=by
 obtain⟨b,x,s,y,u⟩:=a7r (f:=a5r) (fun i st=>∃s:Nat,s≤10∧st=(l,(s:Int),l,(l.length:Int),(i:Int),())) (fun b=>∃s:Nat,s≤10∧b=(l,(s:Int),())) l.length
  (fun i st hi h=>by
   obtain⟨s,p,rfl⟩:=h;obtain⟨s',g,e⟩:=c1S (lA.1 v _ (a05 hi)) (a:=l) (l:=l) (n:=(l.length:Int)) (i:=(i:Int)) (10-s) s (by omega);exact⟨_,by simp only[a5r,dlt hi,cT,a0D hi,oB,e,a0B (show i<1000000 by omega)]<;>rfl,s',g,rfl⟩)
  (fun st h=>by
   obtain⟨s,p,rfl⟩:=h;exact⟨_,by simp_all[a5r],s,p,rfl⟩) l.length 0 _ (by omega) ⟨0,by omega,rfl⟩
 subst u;obtain⟨c,w,o,q,t⟩:=a7r (f:=a5s) (fun i st=>∃o:List Int,st=((s:Int),l,(l.length:Int),(i:Int),o,())∧o.length=l.length) (fun b=>∃o:List Int,b=(o,())∧o.length=l.length) l.length
  (fun i st hi h=>by
   obtain⟨o,rfl,m⟩:=h;have k:decide ((s:Int)<0)=false:=decide_eq_false (by omega);have d:decide ((0:Int)≤(i:Int))=true:=by simp
   have j:decide ((i:Int)<((o.length:Nat):Int))=true:=decide_eq_true (by omega);exact⟨_,by simp only[a5s,dlt hi,cT,a0D hi,oB,k,cF,d,j,a03,a0B (show i<1000000 by omega)]<;>rfl,_,rfl,by grind⟩)
  (fun st h=>by
   obtain⟨o,rfl,m⟩:=h;exact⟨_,by simp_all[a5s],o,rfl,m⟩) l.length 0 _ (by omega) ⟨a00 l.length 0,rfl,by simp⟩
 subst q;refine⟨o,?_,t⟩;have k:decide ((0:Int)≤((l.length:Nat):Int))=true:=by simp
 have d:decide (((l.length:Nat):Int)≤((l.length:Nat):Int))=true:=by simp
 have j:lim l.length=true:=a0U (by omega);simp_all[a7E]
theorem b9O:∀(N:Nat)(num den:Int),den.toNat≤N→∃a b,y0o a3m (num,den,())=some (a,b,())
 |N,num,den,h=>by
  by_cases hd:den≥1099511627776
  ·have g:decide (den≥(1099511627776:Int))=true:=decide_eq_true hd;have e:A0k .i64 den 1=den / 2:=by
    show a77 den 2=_
    grind
   rw[a0F (s':=(A0k .i64 num 1,den / 2,())) (by simp_all[a3m])]
   match N with
   |0=>omega
   |N+1=>exact b9O N _ _ (by omega)
  have g:decide (den≥(1099511627776:Int))=false:=decide_eq_false hd;exact⟨num,den,a0E (by simp only[a3m,g,cF])⟩
theorem b9P{f g:List Int}(t:1≤m)(r:g.length=f.length)(s:f.length<100000)(q:m<1000):∃k,a4T (f,g,(m:Int))=some k:=by
 obtain⟨b,n,d,den,o⟩:=a7r (f:=a3l) (fun i st=>∃d den:Int,st=(f,g,d,den,((m+i:Nat):Int),())) (fun b=>∃d den:Int,b=(d,den,())) (f.length-m)
  (fun i st hi h=>by
   obtain⟨d,den,rfl⟩:=h;have j:m+i<f.length:=by omega
   have e:wrap .i64 (((m+i:Nat):Int)-1)=((m+i-1:Nat):Int):=by grind[a0C]
   exact⟨_,by simp only[a3l,dlt j,cT,a0D j,e,a0D (show m+i-1<g.length by omega),oB,a0B (show m+i<1000000 by omega)]<;>rfl,_,_,rfl⟩)
  (fun st h=>by
   obtain⟨d,den,rfl⟩:=h;have l:decide (((m+(f.length-m):Nat):Int)<((f.length:Nat):Int))=false:=decide_eq_false (by omega);exact⟨_,by simp only[a3l,l,cF]<;>rfl,_,_,rfl⟩) (f.length-m) 0 (f,g,0,0,(m:Int),()) (by omega) ⟨0,0,rfl⟩
 subst o;obtain⟨a,c,p⟩:=b9O den.toNat d den (a23 _);unfold a4T;simp[n,p];cases hc:(c==0)with
 |true=>simp
 |false=>
  simp
  cases decide ((A0j .i64 a 15).tmod c<0)<;>exact⟨_,rfl⟩
theorem c2F{f g:List Int}{order:Int}(x:1≤m)(r:g.length=f.length)(w:f.length<100000)(s:m<1000):
  ∃f' a:List Int,y0o a3b (order,(m:Int),k,((f.length:Nat):Int)-1,f,g,ks,())=some (order,(m:Int),f',a,ks,())∧f'.length=f.length∧a.length=f.length:=by
 obtain⟨b,t,f',a,u,v⟩:=a7r (f:=a3b) (fun i st=>∃f' a:List Int,st=(order,(m:Int),k,((f.length:Nat):Int)-1-(i:Int),f',a,ks,())∧f'.length=f.length∧a.length=f.length)
  (fun b=>∃f' a:List Int,b=(order,(m:Int),f',a,ks,())∧f'.length=f.length∧a.length=f.length) (f.length-m)
  (fun i st hi h=>by
   obtain⟨f',a,rfl,c,d⟩:=h;have j:decide (((f.length:Nat):Int)-1-(i:Int)≥(m:Int))=true:=decide_eq_true (by omega);have l:decide ((0:Int)≤((f.length:Nat):Int)-1-(i:Int))=true:=decide_eq_true (by omega);have n:decide (((f.length:Nat):Int)-1-(i:Int)<((f'.length:Nat):Int))=true:=decide_eq_true (by omega);have o:decide (((f.length:Nat):Int)-1-(i:Int)<((a.length:Nat):Int))=true:=decide_eq_true (by omega);have e:wrap .i64 (((f.length:Nat):Int)-1-(i:Int)-1)=((f.length:Nat):Int)-1-((i+1:Nat):Int):=by grind[a0C]
   have p:decide ((0:Int)≤((f.length:Nat):Int)-1-((i+1:Nat):Int))=true:=decide_eq_true (by omega);have q:decide (((f.length:Nat):Int)-1-((i+1:Nat):Int)<((a.length:Nat):Int))=true:=decide_eq_true (by omega);exact⟨_,by simp only[a3b,j,l,n,o,e,p,q,cT,a03,a2z,oB]<;>rfl,_,_,rfl,by simp_all,by simp_all⟩)
  (fun st h=>by
   obtain⟨f',a,rfl,c,d⟩:=h;have j:decide (((f.length:Nat):Int)-1-((f.length-m:Nat):Int)≥(m:Int))=false:=decide_eq_false (by omega);exact⟨_,by simp only[a3b,j,cF]<;>rfl,f',a,rfl,c,d⟩) (f.length-m) 0 _ (by omega) ⟨f,g,rfl,rfl,r⟩
 grind
theorem c3y{f g:List Int}(x:o≤32)(v:g.length=f.length)(w:f.length<100000):∃ks:List Int,y0o a3c ((o:Int),(1:Int),f,g,([]:List Int),())=some (ks,())∧ks.length=o:=by
 obtain⟨b,p,ks,t,u⟩:=a7r (f:=a3c) (fun i st=>∃f' a ks:List Int,st=((o:Int),((i+1:Nat):Int),f',a,ks,())∧f'.length=f.length∧a.length=f.length∧ks.length=i)
  (fun b=>∃ks:List Int,b=(ks,())∧ks.length=o) o
  (fun i st hi h=>by
   obtain⟨f',a,ks,rfl,j,l,q⟩:=h;have d:decide (((i+1:Nat):Int)≤(o:Int))=true:=decide_eq_true (by omega);obtain⟨k,n⟩:=b9P (f:=f') (g:=a) (m:=i+1) (by omega) (by omega) (by omega) (by omega);have e:wrap .i64 (((f'.length:Nat):Int)-1)=((f'.length:Nat):Int)-1:=a0C (by omega);obtain⟨r,s,p,t,u⟩:=c2F (f:=f') (g:=a) (ks:=ks++[k]) (m:=i+1) (order:=(o:Int)) (k:=k) (by omega) (by omega) (by omega) (by omega);have c:lim (ks.length+1)=true:=a0U (by omega);exact⟨_,by simp only[a3c,d,cT,n,oB,c,e,a08,p,a0B (show i+1<1000000 by omega)]<;>rfl,r,s,ks++[k],rfl,by omega,by omega,by grind⟩)
  (fun st h=>by
   obtain⟨f',a,ks,rfl,j,l,q⟩:=h;have d:decide (((o+1:Nat):Int)≤(o:Int))=false:=decide_eq_false (by omega);exact⟨_,by simp only[a3c,d,cF]<;>rfl,ks,rfl,q⟩) o 0 _ (by omega) ⟨f,g,[],rfl,rfl,v,rfl⟩
 simp_all
theorem c3z(h:l.all a0A=true)(t:l.length≤4096)(s:1≤o)(m:o≤32):∃ks:List Int,a6H (l,(o:Int))=some (ks,0)∧ks.length=o:=by
 have p:short l:=by unfold short;omega
 obtain⟨r,e,q⟩:=c4K h (by omega);have n:short r:=by unfold short;omega
 obtain⟨ks,i,j⟩:=c3y (f:=r) (g:=r) m rfl (by omega);have k:decide ((o:Int)<1)=false:=decide_eq_false (by omega);have a:decide ((o:Int) > 32)=false:=decide_eq_false (by omega);have b:decide (((l.length:Nat):Int) > 4096)=false:=decide_eq_false (by omega);have c:decide ((0:Int)≤(o:Int))=true:=by simp
 have d:lim o=true:=a0U (by omega);refine⟨ks,?_,j⟩;unfold a6H;simp only[k,a,b,c,d,cF,cT,oB,a5W p,h,bT,e,a7W n,tN,a03,i]
theorem b3U{σ β:Type}{f:σ→Option (σ ⊕ β)}(I:Nat→σ→Prop)(Q:β→Prop)(n:Nat)(g:∀i s,i<n→I i s→(∃s',f s=some (.inl s')∧I (i+1) s')∨(∃b,f s=some (.inr b)∧Q b))
  (a:∀s,I n s→∃b,f s=some (.inr b)∧Q b):∀(k i:Nat)(s:σ),i+k=n→I i s→∃b,y0o f s=some b∧Q b
 |0,i,s,h,hi=>by
  obtain rfl:i=n:=by omega
  grind[a0E]
 |k+1,i,s,h,hi=>by
  rcases g i s (by omega) hi with⟨s',c,d⟩|⟨b,c,d⟩;rw[a0F c];exact b3U I Q n g a k (i+1) s' (by omega) d;simp_all[a0E]
theorem c4L(g:ks.length≤32):∃b,y0o a2d (ks,ks,(ks.length:Int),(0:Int),())=some b∧(b=.inl (ks,())∨b=.inr (([]:List Int),(1:Int),())):=
 b3U (f:=a2d) (fun i s=>s=(ks,ks,(ks.length:Int),(i:Int),())) (fun b=>b=.inl (ks,())∨b=.inr (([]:List Int),(1:Int),())) ks.length
  (fun i s hi h=>by
   subst h;cases h1:decide (ks[i]<(-16383:Int))with
   |true=>exact Or.inr ⟨_,by simp_all[a2d,a0D],Or.inr rfl⟩
   |false=>
    cases h2:decide (ks[i] > (16383:Int))with
    |true=>exact Or.inr ⟨_,by simp_all[a2d,a0D],Or.inr rfl⟩
    |false=>exact Or.inl ⟨_,by simp only[a2d,dlt hi,cT,cF,a0D hi,oB,h1,h2,a0B (show i<1000000 by omega)]<;>rfl,rfl⟩)
  (fun s h=>by
   subst h;exact⟨_,by simp_all[a2d],Or.inl rfl⟩) ks.length 0 _ (by omega) rfl
theorem c4M{c a:List Int}(t:c.length=i)(hi:i≤32):
  ∃g:List Int,y0o a3W (c,(i:Int),k,a,n,(i:Int),c,(c.length:Int),(0:Int),([]:List Int),())=some (k,a,n,(i:Int),g,())∧g.length=i:=by
 obtain⟨b,p,g,q,r⟩:=a7r (f:=a3W) (fun j s=>∃g:List Int,s=(c,(i:Int),k,a,n,(i:Int),c,(c.length:Int),(j:Int),g,())∧g.length=j)
  (fun b=>∃g:List Int,b=(k,a,n,(i:Int),g,())∧g.length=c.length) c.length
  (fun j s e h=>by
   obtain⟨g,rfl,l⟩:=h;have m:wrap .i64 ((i:Int)-1)=(i:Int)-1:=a0C (by omega);have o:wrap .i64 ((i:Int)-1-(j:Int))=((i-1-j:Nat):Int):=by grind[a0C]
   have d:lim (g.length+1)=true:=a0U (by omega);exact⟨_,by simp only[a3W,dlt e,cT,a0D e,oB,m,o,a0D (show i-1-j<c.length by omega),d,a0B (show j<1000000 by omega),a08]<;>rfl,_,rfl,by grind⟩)
  (fun s h=>by
   obtain⟨g,rfl,l⟩:=h;exact⟨_,by simp_all[a3W],g,rfl,l⟩) c.length 0 _ (by omega) ⟨[],rfl,rfl⟩
 simp_all
theorem c6n(A:1≤ks.length)(v:ks.length≤32):∃c e,a8t ks=some (c,e)∧(e=0→c.length=ks.length):=by
 obtain⟨b,o,p⟩:=c4L v;have d:decide (((ks.length:Nat):Int)<1)=false:=decide_eq_false (by omega);have j:decide (((ks.length:Nat):Int) > 32)=false:=decide_eq_false (by omega);unfold a8t;simp[d,j,o];rcases p with rfl|rfl;obtain⟨r,q,c,t,u⟩:=a7r (f:=a5S) (fun i s=>∃c:List Int,s=(c,ks,(ks.length:Int),(i:Int),())∧c.length=i) (fun r=>∃c:List Int,r=(c,())∧c.length=ks.length) ks.length
  (fun i s hi h=>by
   obtain⟨c,rfl,g⟩:=h;have m:wrap .i64 ((i:Int)+1)=((i+1:Nat):Int):=a0B (by omega);have l:decide ((0:Int)≤((i+1:Nat):Int))=true:=by rfl
   have w:lim (i+1)=true:=a0U (by omega);obtain⟨z,y,B⟩:=c4M (c:=c) (a:=ks) (i:=i) (k:=ks[i]) (n:=(ks.length:Int)) g (by omega);have x:lim (z.length+1)=true:=a0U (by omega);exact⟨_,by simp only[a5S,dlt hi,cT,a0D hi,oB,m,l,tN,w,a03,y,x,a08]<;>rfl,_,rfl,by grind⟩)
  (fun s h=>by
   obtain⟨c,rfl,g⟩:=h;exact⟨_,by simp_all[a5S],c,rfl,g⟩) ks.length 0 _ (by omega) ⟨[],rfl,rfl⟩
 subst t;simp at q;exact⟨c,0,by simp_all,fun _=>u⟩
 grind
theorem c4N{c:List Int}{s:Nat}{half:Int}(m:c.length≤32)(d:w≤32):
  ∃out:List Int,y0o a2f (c,(w:Int),(s:Int),half,c,(c.length:Int),(0:Int),([]:List Int),())=some (c,(w:Int),(s:Int),out,()):=by
 obtain⟨b,i,out,l⟩:=b3U (f:=a2f) (fun j st=>∃out:List Int,st=(c,(w:Int),(s:Int),half,c,(c.length:Int),(j:Int),out,())∧out.length=j)
  (fun b=>∃out:List Int,b=(c,(w:Int),(s:Int),out,())) c.length
  (fun j st k h=>by
   obtain⟨out,rfl,e⟩:=h;have a:decide ((s:Int)<0)=false:=decide_eq_false (by omega);have g:lim (out.length+1)=true:=a0U (by omega);cases hf:a1j (A0k .i64 (wrap .i64 (c[j]+half)) (s:Int)) (w:Int)with
   |true=>exact Or.inl ⟨_,by simp only[a2f,dlt k,cT,a0D k,oB,a,cF,a6o d,hf,bT,g,a0B (show j<1000000 by omega),a08]<;>rfl,_,rfl,by grind⟩
   |false=>exact Or.inr ⟨_,by simp only[a2f,dlt k,cT,a0D k,oB,a,cF,a6o d,hf,a26]<;>rfl,out,rfl⟩)
  (fun st h=>by
   obtain⟨out,rfl,e⟩:=h;exact⟨_,by simp_all[a2f],out,rfl⟩) c.length 0 _ (by omega) ⟨[],rfl,rfl⟩
 simp_all
theorem c4O{c:List Int}{w:Int}(g:c.length≤32):∃b,y0o a2e (c,w,c,(c.length:Int),(0:Int),())=some b∧(b=.inl (c,w,())∨b=.inr ((0:Int),(1:Int),([]:List Int),())):=
 b3U (f:=a2e) (fun i s=>s=(c,w,c,(c.length:Int),(i:Int),())) (fun b=>b=.inl (c,w,())∨b=.inr ((0:Int),(1:Int),([]:List Int),())) c.length
  (fun i s hi h=>by
   subst h;cases h1:decide (c[i]<(-35184372088832:Int))with
   |true=>exact Or.inr ⟨_,by simp_all[a2e,a0D],Or.inr rfl⟩
   |false=>
    cases h2:decide (c[i] > (35184372088832:Int))with
    |true=>exact Or.inr ⟨_,by simp_all[a2e,a0D],Or.inr rfl⟩
    |false=>exact Or.inl ⟨_,by simp only[a2e,dlt hi,cT,cF,a0D hi,oB,h1,h2,a0B (show i<1000000 by omega)]<;>rfl,rfl⟩)
  (fun s h=>by
   subst h;exact⟨_,by simp_all[a2e],Or.inl rfl⟩) c.length 0 _ (by omega) rfl
theorem c6o{c:List Int}(A:1≤c.length)(p:c.length≤32)(C:2≤w∧w≤16):∃o sh e,a8u (c,(w:Int))=some (o,sh,e)∧(e=0→o.length=c.length):=by
 obtain⟨b,x,y⟩:=c4O (w:=(w:Int)) p;have q:decide (((c.length:Nat):Int)<1)=false:=decide_eq_false (by omega);have t:decide (((c.length:Nat):Int) > 32)=false:=decide_eq_false (by omega);have u:decide ((w:Int)<2)=false:=decide_eq_false (by omega);have v:decide ((w:Int) > 16)=false:=decide_eq_false (by omega);unfold a8u;simp[q,t,u,v,x];rcases y with rfl|rfl
 ·obtain⟨r,B,z⟩:=b3U (f:=a2P) (fun i s=>s=(c,(w:Int),(i:Int),())) (fun r=>r=.inl ()∨∃(sh:Int)(o:List Int),r=.inr (sh,(0:Int),o,())∧o.length=c.length) 15
   (fun i s hi h=>by
    subst h;have d:decide ((i:Int)≤14)=true:=decide_eq_true (by omega);have j:decide ((0:Int)≤((c.length:Nat):Int))=true:=by simp
    have l:lim c.length=true:=a0U (by omega);have k:∀g:Int,∃o:List Int,y0o a2f (c,(w:Int),(i:Int),g,c,(c.length:Int),(0:Int),([]:List Int),())=some (c,(w:Int),(i:Int),o,()):=fun g=>c4N p (by omega)
    by_cases hp:(i:Int) > 0
    ·have n:wrap .i64 ((i:Int)-1)=(i:Int)-1:=a0C (by omega);have m:decide ((i:Int)-1<0)=false:=decide_eq_false (by omega);obtain⟨o,a⟩:=k (A0j .i64 1 ((i:Int)-1));cases hc:((((o.length:Nat):Int))==((c.length:Nat):Int))with
     |true=>exact Or.inr ⟨_,by simp only[a2P,d,cT,hp,decide_true,n,m,cF,oB,j,tN,l,a03,a,hc]<;>rfl,Or.inr ⟨_,o,rfl,by grind⟩⟩
     |false=>exact Or.inl ⟨_,by simp only[a2P,d,cT,hp,decide_true,n,m,cF,oB,j,tN,l,a03,a,hc,a0B (show i<1000000 by omega)]<;>rfl,rfl⟩
    ·obtain⟨o,a⟩:=k 0;cases hc:((((o.length:Nat):Int))==((c.length:Nat):Int))with
     |true=>exact Or.inr ⟨_,by simp only[a2P,d,cT,hp,decide_false,cF,oB,j,tN,l,a03,a,hc]<;>rfl,Or.inr ⟨_,o,rfl,by grind⟩⟩
     |false=>exact Or.inl ⟨_,by simp only[a2P,d,cT,hp,decide_false,cF,oB,j,tN,l,a03,a,hc,a0B (show i<1000000 by omega)]<;>rfl,rfl⟩)
   (fun s h=>by
    subst h;have d:decide (((15:Nat):Int)≤14)=false:=by rfl
    exact⟨_,by rfl,Or.inl rfl⟩) 15 0 (c,(w:Int),(0:Int),()) (by rfl) rfl
  rcases z with rfl|⟨sh,o,rfl,a⟩;exact⟨[],0,6,by simp_all,fun h=>absurd h (by simp)⟩;exact⟨o,sh,0,by simp_all,fun _=>a⟩
 grind
theorem c7s(j:l.all a0A=true)(d:l.length≤4096)(k:1≤o)(a:o≤32)(b:2≤w∧w≤16):∃c sh e,a3Q (l,(o:Int),(w:Int))=some (c,sh,e)∧(e=0→c.length=o):=by
 obtain⟨ks,g,n⟩:=c3z j d k a;obtain⟨c,e,f,p⟩:=c6n (ks:=ks) (by omega) (by omega);unfold a3Q;simp[g,f]
 by_cases he:e=0
 subst he;obtain⟨s,sh,m,q,r⟩:=c6o (c:=c) (w:=w) (by omega) (by omega) b
 grind
 have i:(e != 0)=true:=by simp_all
 exact⟨[],0,e,by grind,fun h=>absurd h he⟩
theorem c6p(a:l.length<100000)(c:o≤4):∃v,a9r (l,(o:Int))=some v:=by
 obtain⟨b,g,v,k⟩:=a7r (f:=a4G) (fun i s=>∃v:Int,s=((o:Int),v,l,(l.length:Int),(i:Int),())) (fun b=>∃v:Int,b=(v,())) l.length
  (fun i s hi h=>by
   obtain⟨v,rfl⟩:=h;cases hc:decide (wrap .i64 ((i:Int)+(o:Int))≥4)with
   |true=>exact⟨_,by simp only[a4G,dlt hi,cT,a0D hi,oB,hc,a0B (show i<1000000 by omega)]<;>rfl,_,rfl⟩
   |false=>exact⟨_,by simp only[a4G,dlt hi,cT,cF,a0D hi,oB,hc,a0B (show i<1000000 by omega)]<;>rfl,_,rfl⟩)
  (fun s h=>by
   obtain⟨v,rfl⟩:=h;exact⟨_,by simp_all[a4G],v,rfl⟩) l.length 0 ((o:Int),(0:Int),l,(l.length:Int),(0:Int),()) (by omega) ⟨0,rfl⟩
 simp_all[a9r]
theorem b9Q(h:o≤4)(b:l.length<100000)(g:l.all a0A=true):∃r e,a4F (l,(o:Int))=some (r,e)∧r.length≤l.length:=by
 by_cases hn:o≤l.length
 ·rw[b6K h hn (by unfold short;omega) g];cases (a2k o l).all a0A with
  |true=>exact⟨_,_,rfl,by rw[a5L];omega⟩
  |false=>simp
 have f:decide ((o:Int)<0)=false:=decide_eq_false (by omega);have k:decide ((o:Int) > 4)=false:=decide_eq_false (by omega);have a:decide (((l.length:Nat):Int)<(o:Int))=true:=decide_eq_true (by omega);simp_all[a4F]
theorem b9R(d:l.length<100000)(j:l.all a0A=true):∃o:Nat,a6f l=some (o:Int)∧o≤4:=by
 obtain⟨b,n,o,p,q⟩:=a7r (f:=a3D) (fun i s=>∃(o:Nat)(v:Int),s=(l,(o:Int),v,(i:Int),())∧o≤4) (fun b=>∃o:Nat,b=((o:Int),())∧o≤4) 5
  (fun i s hi h=>by
   obtain⟨o,v,rfl,a⟩:=h;have g:decide ((i:Int)≤4)=true:=decide_eq_true (by omega);obtain⟨r,e,k,m⟩:=b9Q (o:=i) (by omega) d j;obtain⟨y,c⟩:=c6p (l:=r) (o:=i) (by omega) (by omega);cases hc:(e != 0)with
   |true=>exact⟨_,by simp only[a3D,g,cT,k,oB,hc,a0B (show i<1000000 by omega)]<;>rfl,o,v,rfl,a⟩
   |false=>
    cases h4:decide (v<0)with
    |true=>exact⟨_,by simp only[a3D,g,cT,cF,k,oB,hc,c,h4,a0B (show i<1000000 by omega)]<;>rfl,i,y,rfl,by omega⟩
    |false=>
     cases h5:decide (y<v)with
     |true=>exact⟨_,by simp only[a3D,g,cT,cF,k,oB,hc,c,h4,h5,a0B (show i<1000000 by omega)]<;>rfl,i,y,rfl,by omega⟩
     |false=>exact⟨_,by simp only[a3D,g,cT,cF,k,oB,hc,c,h4,h5,a0B (show i<1000000 by omega)]<;>rfl,o,v,rfl,a⟩)
  (fun s h=>by
   obtain⟨o,v,rfl,a⟩:=h;have g:decide (((5:Nat):Int)≤4)=false:=by rfl
   exact⟨_,by rfl,o,rfl,a⟩) 5 0 (l,(0:Int),(-1:Int),(0:Int),()) (by rfl) ⟨0,-1,rfl,by omega⟩
 grind[a6f]
def a9x(g:List Int→Int):List Int→List Int→List Int
 | [],_=>[]
 |x::r,done=>W (x-g done)::a9x g r (done++[x])
theorem b3V(g:List Int→Int):∀r done,(a9x g r done).length=r.length
 | [],_=>rfl
 |x::r,done=>by simp[a9x,b3V g r]
theorem c7t{x g:Int}(h:a0A x=true):W (W (x-g)+g)=x:=by
 have:=b7n h
 simp_all[a7V]
theorem b5W(g:List Int→Int):∀(r done:List Int),r.all a0A=true→a4e g (a9x g r done) done=some (done++r)
 | [],done,_=>by simp[a9x,a4e]
 |x::r,done,h=>by
  rw[a06,bA]at h;simp only[a9x,a4e,c7t h.1,h.1,cT,b5W g r (done++[x]) h.2,aA,a71]
def b2f(g:List Int→Int)(r done:List Int):Option (List Int):=bif (a9x g r done).all a0A then some (a9x g r done)else none
def b4x{β:Type}(g:List Int→Int)(bad:β)(a:List Int×List Int)(x:Int):(List Int×List Int) ⊕ β:=
 bif a0A (W (x-g a.1))then .inl (a.1++[x],a.2++[W (x-g a.1)])else .inr bad
theorem b5X{β:Type}(g:List Int→Int)(f:β)(k:List Int×List Int→β):∀(r done acc:List Int),
  a8Q k (a2K (b4x g f) r (done,acc))=match b2f g r done with|some e=>k (done++r,acc++e)|none=>f
 | [],done,acc=>by grind[a2K,a8Q,b2f,a9x]
 |x::r,done,acc=>by
  simp[a2K,b4x];cases h:a0A (W (x-g done))with
  |true=>
   simp
   rw[b5X g f k r];simp only[b2f,a9x,a06,h,a46]
   grind
  |false=>simp_all[a8Q,b2f,a9x]
theorem b9S{g:List Int→Int}{done e:List Int}(h:b2f g r done=some e):e=a9x g r done∧e.all a0A=true:=by
 unfold b2f at h
 grind
theorem c1T(h:i<l.length):l.take i++[l[i]]=l.take (i+1):=by simp
theorem b8X{l:List Int}{p:Int→Bool}(h:l.all p=true)(i:Nat):(l.take i).all p=true:=by
 grind
theorem c8E{p:Int→Bool}(h:l.all p=true)(i:Nat):(l.drop i).all p=true:=by
 grind
theorem c1U{σ β:Type}{f:σ→Option (σ ⊕ β)}(l:List Int)(k:Nat)(q:k≤l.length)(S:Nat→List Int→σ)(g:List Int×List Int→Int→(List Int×List Int) ⊕ β)(d:List Int→β)
  (j:∀i (h:i<l.length) c,k≤i→c.length=i-k→(∀a',g (l.take i,c) l[i]=.inl a'→f (S i c)=some (.inl (S (i+1) a'.2))∧a'.1=l.take (i+1)∧a'.2.length=i+1-k)∧(∀b,g (l.take i,c) l[i]=.inr b→f (S i c)=some (.inr b)))
  (e:∀c,c.length=l.length-k→f (S l.length c)=some (.inr (d c))):y0o f (S k [])=some (a8Q (fun a=>d a.2) (a2K g (l.drop k) (l.take k,[]))):=by
 have h:=a1R (f:=f) (l.drop k) (fun i a=>S (k+i) a.2) g (fun i a=>a.1=l.take (k+i)∧a.2.length=i) (fun a=>d a.2)
  (fun i hi a n=>by
   obtain⟨a1,c⟩:=a;obtain⟨m,o⟩:=n;simp only at m o;subst m;rw[a53]at hi;have p:k+i<l.length:=by omega
   grind)
  (fun a n=>by
   simp_all) (a:=(l.take k,[])) ⟨by simp,rfl⟩
 omega
def b5Y(l c:List Int)(s:Int):Option (List Int):=bif l.all a0A then b2f (b1p c s) (l.drop c.length) (l.take c.length)else none
theorem b5A{c:List Int}{s:Int}(v:a9C c s=true)(t:c.length≤l.length)(y:l.length<100000):
  a7b (l,c,s)=some (a5a (b5Y l c s)):=by
 have m:short l:=by unfold short;omega
 have k:short c:=by unfold short;omega
 have d:0≤s:=by simp_all[a9C]
 have o:decide (((l.length:Nat):Int)<((c.length:Nat):Int))=false:=by simp_all
 unfold a7b b5Y;simp only[a9u k,v,oB,bT,cF,o,a5W m];cases hw:l.all a0A with
 |false=>rfl
 |true=>
  have p:wrap .i64 (((l.length:Nat):Int)-((c.length:Nat):Int))=((l.length-c.length:Nat):Int):=by grind[a0C]
  have x:decide ((0:Int)≤((l.length-c.length:Nat):Int))=true:=by simp
  have q:lim (l.length-c.length)=true:=a0U (by omega);simp[p,q]
  have:=c1U (f:=a4H) l c.length t (fun i h=>(l,c,s,(i:Int),h,())) (b4x (b1p c s) (.inr ((6:Int),([]:List Int),()))) (fun h=>.inl (h,()))
   (fun i hi h u a=>by
    have n:short (l.take i):=by unfold short;grind
    have e:decide ((0:Int)≤(i:Int))=true:=by simp
    have j:decide ((i:Int)≤((l.length:Nat):Int))=true:=by grind
    have r:lim (h.length+1)=true:=a0U (by omega);constructor
    ·intro w g;unfold b4x at g;cases hq:a0A (W (l[i]-b1p c s (l.take i)))with
     |false=>simp_all
     |true=>
      simp only[hq,cT,Sum.inl.injEq]at g;subst g;refine⟨?_,c1T hi,by grind⟩;simp only[a4H,dlt hi,cT,a0D hi,oB,e,j,a03,tN,b5O n k d,a6j,hq,bT,cF,r,a0B (a31 hi m),a08]
    ·intro b hb;unfold b4x at hb;cases hq:a0A (W (l[i]-b1p c s (l.take i)))with
     |true=>simp_all
     |false=>
      simp[hq]at hb;subst hb;simp only[a4H,dlt hi,cT,a0D hi,oB,e,j,a03,tN,b5O n k d,a6j,hq,a26])
   (fun h a=>by simp[a4H])
  rw[this,b5X];cases b2f (b1p c s) (l.drop c.length) (l.take c.length)<;>rfl
theorem b5Z{c:List Int}{s:Int}(h:b5Y l c s=some r):b3L (l.take c.length) r c s=some l∧r.all a0A=true∧r.length=l.length-c.length:=by
 unfold b5Y at h;cases hw:l.all a0A with
 |false=>simp_all
 |true=>
  simp[hw]at h;obtain⟨e,g⟩:=b9S h;refine⟨?_,g,by simp_all[b3V]⟩;simp[b3L,b8X hw,g]
  grind[b5W,List.take_append_drop]
def b5B(l:List Int)(lag:Int)(t:List Int):Option (List Int):=bif l.all a0A then b2f (a9v lag t) l []else none
theorem c3A(o:b2b lag t=true)(c:t.length=3)(r:l.length<100000):
  a9d (l,lag,t)=some (a5a (b5B l lag t)):=by
 have a:short l:=by unfold short;omega
 obtain⟨e,j⟩:2≤lag∧lag≤1024:=by simp_all[b2b]
 unfold a9d b5B;simp only[b4V c,o,oB,bT,cF,b4p a];cases hw:l.all a0A with
 |false=>rfl
 |true=>
  have q:decide ((0:Int)≤((l.length:Nat):Int))=true:=by simp
  have d:lim l.length=true:=a0U (by omega);simp[d]
  have:=c1U (f:=a6g) l 0 (Nat.zero_le _) (fun i h=>(l,lag,l,(l.length:Int),(i:Int),h,t,())) (b4x (a9v lag t) (.inr ((6:Int),([]:List Int),()))) (fun h=>.inl (h,()))
   (fun i hi h n k=>by
    have m:lim (h.length+1)=true:=a0U (by omega);have hp:=b4r (lag:=lag) (t:=t) (a82 hi) a c e j;constructor
    ·intro p g;unfold b4x at g;cases hq:a0A (W (l[i]-a9v lag t (l.take i)))with
     |false=>simp_all
     |true=>
      simp only[hq,cT,Sum.inl.injEq]at g;subst g;refine⟨?_,c1T hi,by simp_all⟩;simp only[a6g,dlt hi,cT,a0D hi,oB,hp,a7U,hq,bT,cF,m,a0B (a31 hi a),a08]
    ·intro b hb;unfold b4x at hb;cases hq:a0A (W (l[i]-a9v lag t (l.take i)))with
     |true=>simp_all
     |false=>
      simp_all[a6g,a0D,a7U])
   (fun h k=>by simp[a6g])
  simp only[nZ]at this;rw[this,b5X,a32,List.take_zero];cases b2f (a9v lag t) l []<;>rfl
theorem b7r(h:b5B l lag t=some r):b4s r lag t=some l∧r.all a0A=true∧r.length=l.length:=by
 unfold b5B at h;cases hw:l.all a0A with
 |false=>simp_all
 |true=>
  simp[hw]at h;obtain⟨e,g⟩:=b9S h;refine⟨?_,g,by rw[e,b3V]⟩;simp[b4s,g];simp_all[b5W]
def rsG:List Int→Fil→List Int
 | [],_=>[]
 |x::r,f=>W (x-a1g f)::rsG r (b3f f x)
theorem b6a:∀r f,(rsG r f).length=r.length
 | [],_=>rfl
 |x::r,f=>by simp[rsG,b6a r]
def rsO:List Int→List Int→Fil→Option (List Int)
 | [],done,_=>some done
 |x::r,done,f=>bif a0A (W (x-a1g f))then rsO r (done++[W (x-a1g f)]) (b3f f x)else none
theorem c7u:∀(r done:List Int)(f:Fil),rsO r done f=bif (rsG r f).all a0A then some (done++rsG r f)else none
 | [],done,f=>by simp[rsO,rsG]
 |x::r,done,f=>by
  simp[rsO,rsG];cases a0A (W (x-a1g f))with
  |false=>rfl
  |true=>simp_all[c7u]
theorem c5h:∀(r z:List Int)(f:Fil),r.all a0A=true→stO (rsG r f) z f=some (z++r)
 | [],z,f,_=>by simp[rsG,stO]
 |x::r,z,f,h=>by
  rw[a06,bA]at h;have e:W (a1g f+W (x-a1g f))=x:=by grind[c7t]
  simp only[rsG,stO,e,h.1,cT,c5h r _ _ h.2,aA,a71]
theorem b4y{row:List Int}{a:List Stg}{b c:Int}(j:short row):∀(k i:Nat)(done:List Int)(f:Fil),i+k=row.length→done.length=i→FilOk f→
  y0o a5t (a,b,c,(row.length:Int),(i:Int),done++row.drop i,f,())=some (match rsO (row.drop i) done f with
   |some r=>.inl (a,b,c,r,())
   |none=>.inr ((6:Int),([]:List Int),()))
 |0,i,done,f,h,hd,hf=>by
  obtain rfl:i=row.length:=by omega
  rw[a63,a42];exact a0E (b:=Sum.inl (a,b,c,done,())) (by simp[a5t])
 |k+1,i,done,f,h,hd,hf=>by
  have hi:i<row.length:=by omega
  have l:row.length<1000000:=j;have d:decide ((0:Int)≤(i:Int))=true:=by simp
  have m:(done++row.drop i).length=row.length:=by grind
  have e:decide ((i:Int)<(((done++row.drop i).length:Nat):Int))=true:=by simp_all
  have g:rsO (row.drop i) done f=bif a0A (W (row[i]-a1g f))then rsO (row.drop (i+1)) (done++[W (row[i]-a1g f)]) (b3f f row[i])else none:=by
   rw[a02 hi];rfl
  rw[g];cases hw:a0A (W (row[i]-a1g f))with
  |true=>
   rw[a0F (s':=(a,b,c,(row.length:Int),((i+1:Nat):Int),(done++[W (row[i]-a1g f)])++row.drop (i+1),b3f f row[i],())) (by
    simp only[a5t,dlt hi,d,e,cT,a03,a6l hf,oB,tN,b4t hd hi,a5i,hw,bT,cF,b6F hf,c3k hd hi,a0B (show i<1000000 by omega)])]
   exact b4y j k (i+1) _ _ (by omega) (by simp_all) (c3j hf _)
  |false=>
   exact a0E (by
    simp only[a5t,dlt hi,d,e,cT,a03,a6l hf,oB,tN,b4t hd hi,a5i,hw,a26];rfl)
def lRO:List Stg→List Int→Option (List Int)
 | [],row=>some row
 |s::r,row=>match rsO row [] (b1q s)with
  |some row'=>lRO r row'
  |none=>none
theorem c3B{f:Fil}(h:rsO row [] f=some d):d=rsG row f∧d.all a0A=true:=by
 rw[c7u]at h
 grind
theorem c1V:∀(a b:List Stg)(row:List Int),lO (a++b) row=match lO a row with|some r=>lO b r|none=>none
 | [],b,row=>rfl
 |s::a,b,row=>by
  simp only[a51,lO];split;exact c1V a b _;rfl
theorem c3C:∀(st:List Stg)(row d:List Int),row.all a0A=true→lRO st row=some d→lO st.reverse d=some row∧d.all a0A=true∧d.length=row.length
 | [],row,d,hw,h=>by
  simp[lRO]at h;subst h;exact⟨rfl,hw,rfl⟩
 |s::st,row,d,hw,h=>by
  simp only[lRO]at h
  split at h
  rename_i g c;obtain⟨e,f⟩:=c3B c;obtain⟨k,a,b⟩:=c3C st g d f h;refine⟨?_,a,by rw[b,e,b6a]⟩;rw[List.reverse_cons,c1V,k];simp only[lO];rw[e,c5h row [] _ hw,a07];cases h
theorem b2Q{st:List Stg}(f:∀s∈st,stageB s=true)(l:st.length≤3):∀(j k:Nat)(row:List Int),k+j=st.length→short row→
  y0o a5u (st,(st.length:Int),(k:Int),row,())=some (match lRO (st.drop k) row with
   |some r=>.inl (r,())
   |none=>.inr ((6:Int),([]:List Int),()))
 |0,k,row,h,hs=>by
  obtain rfl:k=st.length:=by omega
  simp_all[a0E,a5u,lRO]
 |j+1,k,row,h,hs=>by
  have d:k<st.length:=by omega
  have g:=f _ (a05 d);have e:=b4y (a:=st) (b:=(st.length:Int)) (c:=(k:Int)) hs row.length 0 [] (b1q st[k]) (by omega) rfl (c5f g);simp at e;have i:((0:Int) != 0)=false:=rfl;rw[a02 d];simp[lRO];cases hr:rsO row [] (b1q st[k])with
  |some r=>
   rw[hr]at e;rw[a0F (s':=(st,(st.length:Int),((k+1:Nat):Int),r,())) (by simp only[a5u,dlt d,cT,a0D d,oB,b3N g,i,cF,e,a0B (show k<1000000 by omega)])];exact b2Q f l j (k+1) r (by omega) (by have:=(c3B hr).1;unfold short at hs⊢;simp_all[b6a])
  |none=>
   simp_all[a0E,a5u,a0D,b3N]
def b3l(l:List Int)(st:List Stg):Option (List Int):=bif l.all a0A then lRO st l else none
theorem c2G(k:a9f st=true)(a:l.length<100000):b0I (l,st)=some (a5a (b3l l st)):=by
 have h:=k;simp only[a9f,bA,dT]at h;have f:short st:=by unfold short;omega
 have g:short l:=by unfold short;omega
 unfold b0I b3l;simp only[b3K f,k,oB,bT,cF,b3J g];cases hw:l.all a0A with
 |false=>rfl
 |true=>
  have:=b2Q (lA.1 h.2) h.1 st.length 0 l (by omega) g
  simp at this;simp[a7W g,this];cases lRO st l<;>rfl
theorem b9T(h:b3l l st=some r):b2q r st=some l∧r.all a0A=true∧r.length=l.length:=by
 unfold b3l at h;cases hw:l.all a0A with
 |false=>simp_all
 |true=>
  simp[hw]at h;obtain⟨f,g,k⟩:=c3C st l r hw h;exact⟨by simp only[b2q,g,cT,f],g,k⟩
theorem p64{w:Nat}(h:w≤64):((2^w:Nat):Int) ∣ 18446744073709551616:=a21.2 (a55 2 h)
theorem d2x(n:Int):∃q,wrap .i64 n=n+18446744073709551616*q:=by
 rw[a7V,Int.bmod];split;exact⟨-(n / 18446744073709551616),by omega⟩;exact⟨-(n / 18446744073709551616)-1,by omega⟩
theorem c8F(h:w≤64)(n:Int):((2^w:Nat):Int) ∣ wrap .i64 n↔((2^w:Nat):Int) ∣ n:=by
 obtain⟨q,g⟩:=d2x n;rw[g]
 grind[a64,a49,p64]
theorem c1W(h:w≤64)(a:Int):2^w ∣ (a04 64 a).toNat↔((2^w:Nat):Int) ∣ a:=by
 have e:(((a04 64 a).toNat:Nat):Int)=a+18446744073709551616*-(a / 18446744073709551616):=by
  rw[a48];omega
 rw[←a21,e]
 grind[a64,a49,p64]
theorem c6q(w x y:Nat):2^w ∣ (x ||| y)↔2^w ∣ x∧2^w ∣ y:=by
 simp_all[Nat.dvd_iff_mod_eq_zero,Nat.or_mod_two_pow]
theorem d2y(h:w≤64)(a b:Int):((2^w:Nat):Int) ∣ bits .i64 .or a b↔((2^w:Nat):Int) ∣ a∧((2^w:Nat):Int) ∣ b:=by
 show((2^w:Nat):Int) ∣ wrap .i64 ((((a04 64 a) ||| (a04 64 b)).toNat:Nat):Int)↔_;rw[c8F h,a21,a56,c6q,c1W h,c1W h]
def orI(l:List Int)(a:Int):Int:=l.foldl (fun a x=>bits .i64 .or a x) a
theorem b5C{w:Nat}(h:w≤64):∀(l:List Int)(a:Int),((2^w:Nat):Int) ∣ orI l a↔((2^w:Nat):Int) ∣ a∧∀x∈l,((2^w:Nat):Int) ∣ x
 | [],a=>by simp[orI]
 |x::l,a=>by
  show((2^w:Nat):Int) ∣ orI l (bits .i64 .or a x)↔_;rw[b5C h l,d2y h];simp_all[and_assoc]
theorem c3D:∀(l:List Int),(∀x∈l,x=0)→orI l 0=0
 | [],_=>rfl
 |x::l,h=>by
  have g:=h x (List.mem_cons_self);subst g;show orI l (bits .i64 .or 0 0)=0;rw[show bits .i64 .or 0 0=0 from by rfl];simp_all[c3D]
theorem d2z(k:l.all a0A=true)(h:∃x∈l,x≠0):orI l 0≠0:=by
 intro e;obtain⟨x,g,f⟩:=h;have b:=((b5C (w:=62) (by omega) l 0).1 (by omega)).2 x g;have a:=a1H.1 (lA.1 k x g);omega
def a8E(l:List Int)(w:Nat):Prop:=
 ((∀x∈l,x=0)∧w=0)∨((∃x∈l,x≠0)∧w≤30∧(∀x∈l,((2^w:Nat):Int) ∣ x)∧(w=30∨∃x∈l,¬ ((2^(w+1):Nat):Int) ∣ x))
theorem c6r{v w:Nat}(h:v≤w){x:Int}(g:((2^w:Nat):Int) ∣ x):((2^v:Nat):Int) ∣ x:=
 Int.dvd_trans (a21.2 (a55 2 h)) g
theorem a8E.unique(hv:a8E l v)(g:a8E l w):v=w:=by
 have d:∀{v w:Nat},v≤30→w≤30→(∀x∈l,((2^w:Nat):Int) ∣ x)→(v=30∨∃x∈l,¬ ((2^(v+1):Nat):Int) ∣ x)→w≤v:=by
  grind[c6r]
 rcases hv with⟨f,hv⟩|⟨⟨x,c,h⟩,hv1,hv2,hv3⟩
 ·rcases g with⟨-,g⟩|⟨⟨x,c,h⟩,-⟩
  all_goals grind
 ·rcases g with⟨f,-⟩|⟨-,k,a,b⟩
  all_goals grind
theorem c3E:∀(n N:Nat),N≤n→0<N→∃k m,N=2^k*(2*m+1)
 |0,N,h,h0=>absurd h0 (by omega)
 |n+1,N,h,h0=>by
  by_cases he:N%2=0
  obtain⟨k,m,e⟩:=c3E n (N / 2) (by omega) (by omega);refine⟨k+1,m,?_⟩;rw[a84,a66 (2^k) 2,Nat.mul_assoc,←e];omega;exact⟨0,N / 2,by omega⟩
theorem d1j{k:Nat}(h:2^k*(2*m+1)<2^64):(2^k*(2*m+1)) &&& (2^64-2^k*(2*m+1))=2^k:=by
 have hp:1≤2^k:=a79;have n:k<64:=by
  refine a96 fun g=>?_
  have d:2^64≤2^k:=a09 (by simp) g
  grind
 have e:2^k*(2*m+1)=(2^k*(2*m)+(2^k-1))+1:=by grind
 have l:2^k*(2*m)+(2^k-1)<2^64:=by omega
 refine Nat.eq_of_testBit_eq fun i=>?_
 have a:(2^64-2^k*(2*m+1)).testBit i=(decide (i<64)&&!(2^k*(2*m)+(2^k-1)).testBit i):=by
  rw[e];exact Nat.testBit_two_pow_sub_succ l i
 have f:=a57 (2*m+1) (b:=0) (i:=k) (by omega) i;rw[a83]at f;have c:=a57 (2*m) (b:=2^k-1) (i:=k) (by omega) i;rw[Nat.testBit_and,a,f,c,Nat.testBit_two_pow]
 by_cases d:i<k
 grind
 by_cases h2:k=i
 simp_all;obtain⟨j,rfl⟩:∃j,i=k+(j+1):=⟨i-k-1,by omega⟩;have o:k+(j+1)-k=j+1:=by omega
 have p:(2*m+1) / 2=m:=by omega
 simp_all[Nat.testBit_succ]
theorem c8G:∀k:Nat,k<64→b1E[(2^k*285870213051353865)%18446744073709551616 / 288230376151711744]?=some (k:Int):=by
 have h:∀k:Fin 64,b1E[(2^k.val*285870213051353865)%18446744073709551616 / 288230376151711744]?=some (k.val:Int):=by decide
 exact fun k g=>h ⟨k,g⟩
theorem c4P{k:Nat}:¬ 2^(k+1) ∣ 2^k*(2*m+1):=by
 rintro⟨c,h⟩
 rw[a84,Nat.mul_assoc]at h
 grind[Nat.eq_of_mul_eq_mul_left]
theorem c8H(d:0<N)(h:N<18446744073709551616):∃k:Nat,a1x (N:Int)=some (k:Int)∧2^k ∣ N∧¬ 2^(k+1) ∣ N:=by
 obtain⟨k,m,e⟩:=c3E N N (a23 _) d;have n:2^k≤N:=by grind
 have i:k<64:=by
  refine a96 fun g=>?_
  have l:2^64≤2^k:=a09 (by simp) g;omega
 refine⟨k,?_,⟨_,e⟩,e▸c4P⟩;have hb:bits .u64 .and (N:Int) (wrap .u64 (0-(N:Int)))=((2^k:Nat):Int):=by
  have b:wrap .u64 (0-(N:Int))=((18446744073709551616-N:Nat):Int):=by
   grind[wrap,IntKind.bits,IntKind.signed]
  rw[b];show wrap .u64 (((a04 64 (N:Int)) &&& (a04 64 ((18446744073709551616-N:Nat):Int))).toNat:Int)=_;rw[a27,a27,a94,a33,a33,a24 h,a24 (by omega)]
  have:=d1j (k:=k) (m:=m) (by omega)
  rw[←e]at this;rw[show(18446744073709551616:Nat)=2^64 from rfl,this];exact a0K (by omega)
 have j:((N:Int)==0)=false:=by grind
 unfold a1x;rw[hb,j,cF];have f:wrap .u64 (((2^k:Nat):Int)*285870213051353865)=(((2^k*285870213051353865)%18446744073709551616:Nat):Int):=by
  rfl
 have a:=c8G k i;generalize (2^k*285870213051353865)%18446744073709551616=M at f a;have c:=a6u (N:=M) (o:=58) (by omega);rw[f,show(58:Int)=((58:Nat):Int)from rfl,c,show 2^58=288230376151711744 from rfl];generalize M / 288230376151711744=J at a
 grind[a0D,a0C]
theorem c8I{n:Nat}(g:n≤62)(c:Int):A0k .i64 (((2^n:Nat):Int)*c) (n:Int)=c:=by
 have hp:0<2^n:=a18 n;have e:min (a30 (n:Int)) (IntKind.bits .i64)=n:=by grind[IntKind.bits]
 have h:((2^n:Nat):Int)=2^n:=by simp
 unfold A0k
 grind[a62]
theorem c5i{l:List Int}(g:short l):∀(k i:Nat)(a:Int),i+k=l.length→y0o a5p (a,l,(l.length:Int),(i:Int),())=some (orI (l.drop i) a,())
 |0,i,a,h=>by
  obtain rfl:i=l.length:=by omega
  simp_all[a0E,a5p,orI]
 |k+1,i,a,h=>by
  have hi:i<l.length:=by omega
  have f:l.length<1000000:=g;rw[a02 hi,a0F (s':=(bits .i64 .or a l[i],l,(l.length:Int),((i+1:Nat):Int),())) (by
   simp only[a5p,dlt hi,cT,a0D hi,oB,a0B (show i<1000000 by omega)])]
  exact c5i g k (i+1) _ (by omega)
theorem c4Q{l:List Int}{r:Nat}(g:r≤30)(h:r=30∨¬ ((2^(r+1):Nat):Int) ∣ orI l 0):r=30∨∃x∈l,¬ ((2^(r+1):Nat):Int) ∣ x:=by
 grind[b5C,a85]
theorem b8Y{l:List Int}(y:short l)(j:l.all a0A=true):∃w:Nat,a3C l=some (w:Int)∧w≤30∧a8E l w:=by
 have a:=c5i y l.length 0 0 (by omega);simp at a;unfold a3C;simp[a]
 by_cases hz:∀x∈l,x=0
 have e:=c3D l hz;exact⟨0,by simp_all,by omega,.inl ⟨hz,rfl⟩⟩
 ·have g:∃x∈l,x≠0:=Classical.byContradiction fun m=>hz fun x g=>Classical.byContradiction fun s=>m ⟨x,g,s⟩;have t:=d2z j g;have n:(orI l 0==0)=false:=by simp_all
  obtain⟨q,u⟩:∃q,wrap .u64 (orI l 0)=orI l 0+18446744073709551616*q:=⟨-(orI l 0 / 18446744073709551616),by
   grind[wrap,IntKind.bits,IntKind.signed]⟩
  obtain⟨B,r2⟩:=b8s (orI l 0);obtain⟨N,d⟩:=a01 B;have b:∀v,v≤64→(2^v ∣ N↔((2^v:Nat):Int) ∣ orI l 0):=fun v hv=>by
   rw[←a21,←d,u]
   grind[a64,a49,p64]
  have h:0<N:=by
   refine Nat.pos_of_ne_zero fun C=>?_
   obtain⟨x,f,A⟩:=g;have E:=((b5C (w:=62) (by omega) l 0).1 ((b 62 (by omega)).1 (by omega))).2 x f;have z:=a1H.1 (lA.1 j x f);omega
  obtain⟨k,p,c,r⟩:=c8H h (by omega);have i:k≤63:=by
   refine Nat.le_of_not_lt fun o=>?_
   have a:2^64≤2^k:=a09 (by simp) (by omega)
   have:=Nat.le_of_dvd h c
   omega
  simp only[n,cF,d,p,oB];have D:v0o (k:Int) 30=((min k 30:Nat):Int):=by rw[b5p];omega
  refine⟨min k 30,by grind,by omega,.inr ⟨g,by omega,?_,?_⟩⟩
  all_goals grind[b5C,Nat.dvd_trans,a55,c4Q]
theorem d1k(g:w≤30)(d:l.all a0A=true)(h:a8E l w):b0Y (w:Int) l=some (l.map fun x=>A0k .i64 x (w:Int)):=by
 have f:∀x∈l,((2^w:Nat):Int) ∣ x:=by
  rcases h with⟨h,-⟩|⟨-,-,h,-⟩
  all_goals grind[a85]
 have:l.all (b2e (w:Int))=true:=by
  rw[lA];intro x k;obtain⟨c,a⟩:=f x k;have b:a29 x (A0j .i64 1 (w:Int))=0:=by simp_all[c3x]
  simp_all[b2e]
 simp only[b0Y,this,cT]
theorem b1u{N n:Nat}(g:n≤63)(h:N<2^n)(L:List Int):(a0O (N:Int) n L).length=L.length+n:=by
 grind[a0O,a6u,a65,b4v]
def a5C(k:Nat)(x:Int):Nat:=if a0R x / 2^k<32 then a0R x / 2^k+1+k else 65
theorem c3F{k:Nat}(h:k≤25)(x:Int):a5C k x≤65:=by
 grind[a5C]
theorem c7v{k:Nat}(a:k≤25)(g:a0A x=true)(L:List Int):(a6L k x L).length=L.length+a5C k x:=by
 unfold a6L a5C;have hp:0<2^k:=a18 k;have h:a0R x%2^k<2^k:=a43 _ hp;have f:=a9D g;split;rw[b1u (by omega) h,b0V];omega
 grind[b1u,b0V]
theorem b9U{k:Nat}(g:k≤25):∀(l L:List Int),l.all a0A=true→(a4M k l L).length=L.length+(l.map (a5C k)).sum
 | [],L,_=>by rfl
 |x::l,L,h=>by
  simp only[a06,bA]at h;have e:a4M k (x::l) L=a4M k l (a6L k x L):=rfl;rw[e,b9U g l _ h.2,c7v g h.1,List.map_cons,a60];omega
theorem c3G{k:Nat}(c:k≤25)(g:a0A x=true):a7p ((k:Int),x)=some ((a5C k x:Nat):Int):=by
 have d:=a9D g;have f:A0k .u64 ((a0R x:Nat):Int) (k:Int)=((a0R x / 2^k:Nat):Int):=a6u (by omega);have a:wrap .i64 ((a0R x / 2^k:Nat):Int)=((a0R x / 2^k:Nat):Int):=b3T (a41 (a34 _ _) d);have h:decide ((k:Int)<0)=false:=by simp
 unfold a7p a5C;simp only[a8S c,b0W,g,oB,bT,cF,b0X g,h,f,a];generalize a0R x / 2^k=q
 by_cases hq:q<32
 have b:decide ((q:Int)<32)=true:=decide_eq_true (by omega);simp only[b,cT,if_pos hq]
 grind[a0C]
 grind
theorem c3H{f:Int→Nat}{M:Nat}(h:∀x,f x≤M):∀l:List Int,(l.map f).sum≤M*l.length
 | []=>by simp
 |x::l=>by
  have:=h x
  have:=c3H h l
  rw[List.map_cons,a60,lC,a92,a93];omega
theorem c3I{f:Int→Nat}{l:List Int}{i:Nat}(h:i<l.length):((l.take (i+1)).map f).sum=((l.take i).map f).sum+f l[i]:=by
 rw[a38 h,pA,List.sum_append];rfl
theorem b8t{k:Nat}(g:k≤25)(c:l.all a0A=true)(d:l.length<10000):a3i ((k:Int),l)=some (((l.map (a5C k)).sum:Nat):Int):=by
 have:=a1B (f:=a3N) (fun i:Nat=>((k:Int),((((l.take i).map (a5C k)).sum:Nat):Int),l,(l.length:Int),(i:Int),())) l.length (b:=((((l.map (a5C k)).sum:Nat):Int),()))
  (fun i hi=>by
   have a:=c3G g (lA.1 c _ (a05 hi));have h:=c3H (c3F g) (l.take (i+1));rw[c3I hi]at h;rw[a95]at h;have e:wrap .i64 (((((l.take i).map (a5C k)).sum:Nat):Int)+((a5C k l[i]:Nat):Int))=((((l.take (i+1)).map (a5C k)).sum:Nat):Int):=by
    grind[c3I,a0C]
   simp only[a3N,dlt hi,cT,a0D hi,oB,a,e,a0B (show i<1000000 by omega)])
  (by simp_all[a3N])
 unfold a3i;simp_all
theorem c8J(x:Int){n:Nat}(f:n≤62):∃N:Nat,a0X x n=(N:Int)∧N<2^n:=by
 obtain⟨h,g⟩:=b8s x;obtain⟨y,k⟩:=a01 h;have hp:0<2^n:=a18 n;refine⟨y%2^n,?_,a43 _ hp⟩
 grind[a0X,c3s]
theorem b4z{n:Nat}(h:n≤62):∀(l L:List Int),(a1C n l L).length=L.length+n*l.length
 | [],L=>by rfl
 |x::l,L=>by
  have e:a1C n (x::l) L=a1C n l (a0O (a0X x n) n L):=rfl;obtain⟨N,g,f⟩:=c8J x h;rw[e,b4z h l,g,b1u (by omega) f,lC,a92,a93];omega
theorem d2A{x:Int}(h:a0A x=true):a1j x ((31:Nat):Int)=true:=by
 have:=a1H.1 h
 have g:A0j .i64 (-1) (((31:Nat):Int)-1)=-1073741824:=by rfl
 have f:wrap .i64 (A0j .i64 1 (((31:Nat):Int)-1)-1)=1073741823:=by rfl
 unfold a1j
 grind
theorem b9V{x:Int}(h:a0A x=true):∀(k w:Nat),w+k=32→1≤k→a1K x k w≤31
 |k+1,w,hk,_=>by
  simp[a1K]
  by_cases h31:w=31
  grind[d2A]
  ·cases (x != 0)&&!a1j x w with
   |true=>exact b9V h k (w+1) (by omega) (by omega)
   |false=>grind
theorem b4A:∀(l:List Int)(w:Nat),l.all a0A=true→w≤31→l.foldl (fun w x=>a1K x (32-w) w) w≤31
 | [],w,_,h=>h
 |x::l,w,hl,h=>by
  simp only[a06,bA]at hl;exact b4A l _ hl.2 (b9V hl.1 (32-w) w (by omega) (by omega))
theorem a1U{l:List Int}(h:l.all a0A=true):a0I l≤31:=b4A l 0 h (by omega)
theorem b3W(g:l.length<10000):a5H l=some (((5+a0I l*l.length:Nat)):Int):=by
 have h:=a6t l;have f:a0I l*l.length≤32*l.length:=a28 _ h;unfold a5H;simp only[a2m (show short l by unfold short;omega),oB]
 grind[a0C]
def b2g(k:Int)(part:List Int):Nat:=5+(if k=31 then 5+a0I part*part.length else(part.map (a5C k.toNat)).sum)
def a5D:List Nat→List Int→List Int→Nat
 |z::zs,k::ks,l=>b2g k (l.take z)+a5D zs ks (l.drop z)
 |_,_,_=>0
theorem a3v{q:Nat}(h:q<2147483648):wrap .u64 (q:Int)=(q:Int):=a0K (by omega)
theorem c7w(h:kB k=true)(g:part.all a0A=true)(L:List Int):(a9w k part L).length=L.length+b2g k part:=by
 simp[kB]at h;obtain⟨K,rfl⟩:=a01 (show 0≤k by omega)
 grind[b1u,a1U,a9w,b2g,a3v,b4z,b9U]
theorem b9W:∀(zs:List Nat)(ks l L:List Int),ks.all kB=true→l.all a0A=true→(a4N zs ks l L).length=L.length+a5D zs ks l
 |z::zs,k::ks,l,L,h,hw=>by
  simp only[a06,bA]at h;have g:(l.take z).all a0A=true:=lA.2 fun x a=>lA.1 hw x (a36 a);have f:(l.drop z).all a0A=true:=lA.2 fun x a=>lA.1 hw x (a37 a);simp only[a4N,a5D];rw[b9W zs ks _ _ h.2 f,c7w h.1 g];omega
 | [],_,_,_,_,_=>by rfl
 |_::_,[],_,_,_,_=>by rfl
theorem c8K(h:kB k=true)(part:List Int):b2g k part≤10+65*part.length:=by
 simp[kB]at h;unfold b2g;split;have g:a0I part*part.length≤32*part.length:=a28 _ (a6t part);omega
 have:=c3H (c3F (k:=k.toNat) (by omega)) part
 omega
theorem b3X{zn:List Nat}{p:Prt}(E:p.2.1.length=zn.length)(a:p.2.1.all kB=true)(F:zn.length≤256):∀(j i:Nat)(l:List Int)(c:Nat),i+j=zn.length→(zn.drop i).sum=l.length→l.all a0A=true→l.length≤5000→c+10*j+65*l.length<1000000→
  y0o a1t (l,(c:Int),(zn.length:Int),(i:Int),a1n zn,p,())=some (((c+a5D (zn.drop i) (p.2.1.drop i) l:Nat):Int),())
 |0,i,l,c,hi,_,_,_,_=>by
  obtain rfl:i=zn.length:=by omega
  grind[a0E,a1t,a5D]
 |j+1,i,l,c,hi,hsum,hw,hl5,hb=>by
  have h:i<zn.length:=by omega
  have f:i<p.2.1.length:=by omega
  have o:=lA.1 a _ (a05 f);rw[b5S h]at hsum;have z:decide ((0:Int)≤(i:Int))=true:=by simp
  have A:decide ((i:Int)<(((a1n zn).length:Nat):Int))=true:=by simp_all[a1u]
  have B:decide ((0:Int)≤((zn[i]:Nat):Int))=true:=by simp
  have C:decide (((zn[i]:Nat):Int)≤((l.length:Nat):Int))=true:=by grind
  have d:(l.take zn[i]).length=zn[i]:=by simp_all
  have e:(l.drop zn[i]).length=(zn.drop (i+1)).sum:=by grind
  have v:(l.take zn[i]).all a0A=true:=lA.2 fun x y=>lA.1 hw x (a36 y);have w:(l.drop zn[i]).all a0A=true:=lA.2 fun x y=>lA.1 hw x (a37 y);have g:=c8K o (l.take zn[i]);rw[d]at g;have n:a1t (l,(c:Int),(zn.length:Int),(i:Int),a1n zn,p,())=some (.inl (l.drop zn[i],((c+b2g p.2.1[i] (l.take zn[i]):Nat):Int),(zn.length:Int),((i+1:Nat):Int),a1n zn,p,())):=by
   by_cases h31:p.2.1[i]=31
   have b:(p.2.1[i]==31)=true:=by simp_all
   have m:=b3W (l:=l.take zn[i]) (by omega);have u:b2g p.2.1[i] (l.take zn[i])=5+(5+a0I (l.take zn[i])*(l.take zn[i]).length):=by simp_all[b2g]
   rw[u]at g⊢;generalize 5+a0I (l.take zn[i])*(l.take zn[i]).length=r at m g⊢;have s:wrap .i64 (5+(r:Int))=5+(r:Int):=a0C (by omega);have t:wrap .i64 ((c:Int)+(5+(r:Int)))=((c+(5+r):Nat):Int):=by grind[a0C]
   simp only[a1t,dlt h,z,A,a7Y h,B,C,cT,a03,tN,a0D f,oB,b,m,s,t,a20,a0B (show i<1000000 by omega)];have b:(p.2.1[i]==31)=false:=by simp_all
   have q:=o;simp[kB]at q;obtain⟨K,D⟩:=a01 (show 0≤p.2.1[i]by omega);have m:=b8t (k:=K) (by omega) v (by omega);have u:b2g p.2.1[i] (l.take zn[i])=5+((l.take zn[i]).map (a5C K)).sum:=by simp_all[b2g]
   rw[←D]at m;rw[u]at g⊢;generalize ((l.take zn[i]).map (a5C K)).sum=r at m g⊢;have s:wrap .i64 (5+(r:Int))=5+(r:Int):=a0C (by omega);have t:wrap .i64 ((c:Int)+(5+(r:Int)))=((c+(5+r):Nat):Int):=by grind[a0C]
   simp only[a1t,dlt h,z,A,a7Y h,B,C,cT,cF,a03,tN,a0D f,oB,b,m,s,t,a20,a0B (show i<1000000 by omega)]
  rw[a0F n,b3X E a F j (i+1) (l.drop zn[i]) _ (by omega) e.symm w (by omega) (by omega)];rw[a02 h,a02 f]
  grind[a5D]
theorem c2H(h:PartsOk p n warm l zn):a4D (p,n,warm,l)=some ((4+a5D zn p.2.1 l:Nat):Int):=by
 have f:Go.Ab.short p.2.1:=by have:=h.ks;have:=h.len;unfold Go.Ab.short;omega
 have k:=h.short;have a:=h.len;have g:=b3X h.ks h.all h.len zn.length 0 l 4 (by omega) (by rw[a32];exact h.sum) h.wide h.short (by omega);simp only[nZ,a25,a32]at g;unfold a4D;simp only[b3P f,h.may,b1s h.row h.rest h.wide h.short,oB,bT,cF,a1Y,h.sizes,a1u,g]
theorem c2I(h:PartsOk p n warm l zn)(L:List Int):(a4n p zn l L).length=L.length+(4+a5D zn p.2.1 l):=by
 obtain⟨o,g⟩:=a01 h.order.1;have f:=h.order.2;unfold a4n;rw[b9W _ _ _ _ h.all h.wide,g,a3v (by omega),b1u (by omega) (by omega)];omega
def a1Z(o:Int):Sub:=((0:Int),(0:Int),o,(0:Int),(0:Int),([]:List Int),a00 3 (0:Int),([]:List Stg),([]:List Int),((0:Int),([]:List Int),()),([]:List Int),())
theorem c4R(o:Int):SmallS (a1Z o):=⟨by simp[a1Z],by rfl,by simp[a1Z],by simp[a1Z],by simp[a1Z],by simp[a1Z]⟩
def b7s(k:Nat)(l:List Int):Nat:=(l.map (a5C k)).sum
def rbN(l:List Int):Nat→Nat
 |0=>0
 |i+1=>if b7s (i+1) l<b7s (rbN l i) l then i+1 else rbN l i
theorem c3J(l:List Int):∀i,rbN l i≤i
 |0=>a23 _
 |i+1=>by
  have:=c3J l i
  simp only[rbN]
  split<;>omega
theorem b6b{k:Nat}(h:k≤25)(f:l.all a0A=true)(g:l.length<10000):a3i ((k:Int),l)=some ((b7s k l:Nat):Int):=b8t h f g
theorem d2B(h:a<b):decide ((a:Int)<(b:Int))=true:=decide_eq_true (by omega)
theorem c6s(h:¬ a<b):decide ((a:Int)<(b:Int))=false:=decide_eq_false (by omega)
theorem b7t(g:l.all a0A=true)(h:l.length<10000):b1V l=some ((rbN l 25:Nat):Int):=by
 have:=a1B (f:=a8v) (fun i:Nat=>(l,((rbN l i:Nat):Int),((b7s (rbN l i) l:Nat):Int),((i+1:Nat):Int),())) 25 (b:=(((rbN l 25:Nat):Int),()))
  (fun i hi=>by
   have a:decide (((i+1:Nat):Int)≤25)=true:=decide_eq_true (by omega);have d:wrap .i64 (((i+1:Nat):Int)+1)=((i+1+1:Nat):Int):=a0B (by omega);have c:=b6b (k:=i+1) (by omega) g h
   by_cases hlt:b7s (i+1) l<b7s (rbN l i) l
   simp_all[a8v,rbN];simp only[a8v,a,cT,cF,c,oB,d,c6s hlt,rbN,hlt,if_false])
  (by
   rfl)
 have m:=b6b (k:=0) (by omega) g h;have j:((0+1:Nat):Int)=1:=rfl;have e:rbN l 0=0:=rfl;simp_all[b1V]
def b3m(l:List Int):Int:=if 5+a0I l*l.length<b7s (rbN l 25) l then 31 else((rbN l 25:Nat):Int)
theorem c6t(l:List Int):kB (b3m l)=true:=by
 have:=c3J l 25
 unfold b3m;split;rfl;simp only[kB,a99,bA,dT];omega
theorem b9X(g:l.all a0A=true)(h:l.length<10000):a8w l=some (b3m l):=by
 have a:=c3J l 25;have f:=b6b (k:=rbN l 25) a g h;unfold a8w b3m
 by_cases hlt:5+a0I l*l.length<b7s (rbN l 25) l
 simp only[b7t g h,b3W h,f,oB,d2B hlt,cT,hlt,if_true];simp only[b7t g h,b3W h,f,oB,c6s hlt,cF,hlt,if_false]
def a2B:List Nat→List Int→List Int
 | [],_=>[]
 |z::zs,l=>b3m (l.take z)::a2B zs (l.drop z)
theorem b5D:∀zs l,(a2B zs l).length=zs.length
 | [],_=>rfl
 |z::zs,l=>by simp[a2B,b5D zs]
theorem b9Y:∀zs l,(a2B zs l).all kB=true
 | [],_=>rfl
 |z::zs,l=>by simp[a2B,b9Y zs,c6t]
theorem b6M{zn:List Nat}{n warm most least order:Int}{L:List Int}{a b:Prt}(m:zn.length≤256):∀(j i:Nat)(rest ks:List Int),i+j=zn.length→(zn.drop i).sum=rest.length→rest.all a0A=true→rest.length≤5000→ks.length=i→
  y0o a7F (n,warm,most,L,least,order,rest,((zn.length:Nat):Int),(i:Int),a1n zn,a,b,(order,ks,()),())=some (n,warm,most,L,least,order,a,b,(order,ks++a2B (zn.drop i) rest,()),())
 |0,i,rest,ks,h,_,_,_,_=>by
  obtain rfl:i=zn.length:=by omega
  simp_all[a0E,a7F,a2B]
 |j+1,i,rest,ks,h,hr,hwr,hr5,hki=>by
  have g:i<zn.length:=by omega
  rw[b5S g]at hr;have k:decide ((0:Int)≤(i:Int))=true:=by simp
  have c:decide ((i:Int)<(((a1n zn).length:Nat):Int))=true:=by simp_all[a1u]
  have d:decide ((0:Int)≤((zn[i]:Nat):Int))=true:=by simp
  have e:decide (((zn[i]:Nat):Int)≤((rest.length:Nat):Int))=true:=by grind
  have l:=b9X (b8X hwr zn[i]) (by grind);have f:lim (ks.length+1)=true:=a0U (by omega);rw[a02 g,a0F (s':=(n,warm,most,L,least,order,rest.drop zn[i],((zn.length:Nat):Int),((i+1:Nat):Int),a1n zn,a,b,(order,ks++[b3m (rest.take zn[i])],()),())) (by
   simp only[a7F,dlt g,k,c,a7Y g,d,e,cT,a03,tN,l,oB,f,a20,a0B (show i<1000000 by omega),a08])]
  rw[b6M m j (i+1) _ _ (by omega) (by grind) (c8E hwr _) (by grind) (by simp_all)];simp_all[a2B]
def zsN(o n warm:Int):List Nat:=(a1J o n warm).map a30
def b3g(o n warm:Int)(l:List Int):Prt:=(o,a2B (zsN o n warm) l,())
def b9Z(o n warm:Int)(l:List Int):Nat:=4+a5D (zsN o n warm) (a2B (zsN o n warm) l) l
def a1z(n warm:Int)(l:List Int):Nat→Prt×Nat
 |0=>((0,[],()),0)
 |i+1=>if(a1J (i:Int) n warm).length=0 then a1z n warm l i else
   if(a1z n warm l i).2=0∨b9Z (i:Int) n warm l<(a1z n warm l i).2 then(b3g (i:Int) n warm l,b9Z (i:Int) n warm l)else a1z n warm l i
def b7J(n warm:Int)(l:List Int):Prt:=(a1z n warm l 7).1
theorem c5j(b:(a1J (o:Int) n warm).length≠0)(a:(l.length:Int)=n-warm)(c:l.all a0A=true)(k:l.length≤5000):
  ∃h,a1J (o:Int) n warm=a1n h∧zsN (o:Int) n warm=h∧h.length≤256∧h.sum=l.length∧a5B (b3g (o:Int) n warm l) n warm=true∧PartsOk (b3g (o:Int) n warm l) n warm l h:=by
 obtain⟨h,e,i,j⟩:=b4Y b;have d:zsN (o:Int) n warm=h:=by simp_all[zsN,b4Z]
 have hp:a5B (b3g (o:Int) n warm l) n warm=true:=by
  simp only[a5B,b3g,bA,a35,beq_eq_false_iff_ne,ne_eq,beq_iff_eq];simp_all[a1u,b5D,b9Y]
 obtain⟨f,g⟩:=PartsOk.of hp a c k
 have:f=h:=by
  have m:=g.sizes
  grind[b3g,b4Z]
 grind
theorem b6c{n warm:Int}{l:List Int}(b:a6m n warm=true)(f:(l.length:Int)=n-warm)(a:l.all a0A=true)(g:l.length≤5000):∀i,1≤i→(a1z n warm l i).2≠0∧a5B (a1z n warm l i).1 n warm=true
 |0,h=>absurd h (by omega)
 |i+1,_=>by
  by_cases hs:(a1J (i:Int) n warm).length=0
  ·simp only[a1z,hs,if_true];cases i with
   |zero=>grind[c6l]
   |succ i=>exact b6c b f a g (i+1) (by omega)
  ·obtain⟨c,-,-,-,-,hp,-⟩:=c5j hs f a g;simp only[a1z,hs,if_false];split;simp_all[b9Z]
   ·rename_i k;cases i with
    |zero=>exact absurd (Or.inl rfl) k
    |succ i=>exact b6c b f a g (i+1) (by omega)
theorem c8L(f:a6m n warm=true)(g:(l.length:Int)=n-warm)(k:l.all a0A=true)(h:l.length≤5000):a5B (b7J n warm l) n warm=true:=
 (b6c f g k h 7 (by omega)).2
theorem c2J(z:a6m n warm=true)(x:(l.length:Int)=n-warm)(t:l.all a0A=true)(s:l.length≤5000):
  b0J (n,warm,(6:Int),l)=some (b7J n warm l,0):=by
 have:=a1B (f:=a3E) (fun i:Nat=>(n,warm,(6:Int),l,(((a1z n warm l i).2:Nat):Int),(i:Int),((0:Int),([]:List Int),()),(a1z n warm l i).1,())) 7 (b:=(((0:Int),([]:List Int),()),b7J n warm l,()))
  (fun i hi=>by
   have j:decide ((i:Int)≤v0o (v0n 6 0) 8)=true:=decide_eq_true (by have:v0o (v0n 6 0) 8=6:=rfl;omega);have r:wrap .i64 ((i:Int)+1)=((i+1:Nat):Int):=a0B (by omega)
   by_cases hs:(a1J (i:Int) n warm).length=0
   simp_all[a1z,a3E,a1Y];have hb:((((a1J (i:Int) n warm).length:Nat):Int)==0)=false:=by simp_all
   obtain⟨h,p,o,w,y,-,q⟩:=c5j hs x t s;have d:=b6M (n:=n) (warm:=warm) (most:=6) (least:=(((a1z n warm l i).2:Nat):Int)) (order:=(i:Int)) (L:=l) (a:=((0:Int),([]:List Int),())) (b:=(a1z n warm l i).1) w h.length 0 l [] (by omega) (by simp_all) t s rfl;simp at d;have e:=c2H q;simp only[b3g,o]at e;have k:(((h.length:Nat):Int)==0)=false:=by simp_all[a1u]
   have m:(((a1n h).length:Nat):Int)=((h.length:Nat):Int):=by rw[a1u]
   have v:b3g (i:Int) n warm l=((i:Int),a2B h l,()):=by simp only[b3g,o]
   have u:b9Z (i:Int) n warm l=4+a5D h (a2B h l) l:=by simp only[b9Z,o]
   by_cases hz:(a1z n warm l i).2=0
   have g:((((a1z n warm l i).2:Nat):Int)==0)=true:=by simp_all
   have c:a1z n warm l (i+1)=(((i:Int),a2B h l,()),4+a5D h (a2B h l) l):=by simp_all[a1z]
   simp only[a3E,j,cT,a1Y,oB,p,m,k,cF,d,e,r,c,g];have g:((((a1z n warm l i).2:Nat):Int)==0)=false:=by simp_all
   by_cases hlt:4+a5D h (a2B h l) l<(a1z n warm l i).2
   have c:a1z n warm l (i+1)=(((i:Int),a2B h l,()),4+a5D h (a2B h l) l):=by simp_all[a1z]
   simp only[a3E,j,cT,a1Y,oB,p,m,k,cF,d,e,r,c,g,d2B hlt];have c:a1z n warm l (i+1)=a1z n warm l i:=by simp only[a1z,hs,if_false,hz,false_or,v,u,hlt]
   simp only[a3E,j,cT,a1Y,oB,p,m,k,cF,d,e,r,c,g,c6s hlt])
  (by
   rfl)
 simp_all[a1z,b0J,b1s]
def a0Z(k:Int)(s:Sub):Sub:=
 (k,(0:Int),(if k=2 then s.2.2.1 else 0),(if k=3∨k=4 then s.2.2.2.1 else 0),(if k=4 then s.2.2.2.2.1 else 0),(if k=3∨k=4 then s.2.2.2.2.2.1 else[]),
  ((if k=4 then s.2.2.2.2.2.2.1 else a00 3 (0:Int)),(if k=5 then s.2.2.2.2.2.2.2.1 else[]),([]:List Int),((0:Int),([]:List Int),()),([]:List Int),()))
def z0:Prt:=((0:Int),([]:List Int),())
def a1L(s:Sub)(w:Nat)(wm:List Int)(p:Prt)(r:List Int):Sub:=
 (s.1,(w:Int),s.2.2.1,s.2.2.2.1,s.2.2.2.2.1,s.2.2.2.2.2.1,s.2.2.2.2.2.2.1,s.2.2.2.2.2.2.2.1,wm,p,r,())
theorem c7x(h:SmallS s)(k:Int):a5Z (k,s)=some (a0Z k s):=by
 have f:short s.2.2.2.2.2.1:=by have:=h.coefs;unfold short;omega
 have g:short s.2.2.2.2.2.2.2.1:=by have:=h.stages;unfold short;omega
 grind[a5Z,a0Z,b5R,b8p]
theorem c3K(h:SmallS s)(k:Int):SmallS (a0Z k s):=by
 have g:=h.coefs;have f:=h.taps;have a:=h.stages;refine⟨?_,?_,?_,by simp[a0Z],by simp[a0Z],by simp[a0Z]⟩<;>simp only[a0Z]<;>split<;>first|omega|simp
theorem c6u:a3R (a0Z k s).1 (a0Z k s) n↔a3R k s n:=by
 unfold a3R a0Z
 grind
open Classical in
def a2V (l:List Int):Nat:=if h:∃w,a8E l w then h.choose else 0
theorem d1l{l:List Int}{w:Nat}(h:a8E l w):a2V l=w:=by
 unfold a2V;rw[dif_pos ⟨w,h⟩];exact(Classical.choose_spec (⟨w,h⟩:∃w,a8E l w)).unique h
def a1h(l:List Int):List Int:=l.map fun x=>A0k .i64 x (a2V l:Int)
theorem a9g(h:short l)(g:l.all a0A=true):a3C l=some ((a2V l:Nat):Int)∧a2V l≤30∧a8E l (a2V l):=by
 grind[b8Y,d1l]
theorem a6M(a:l.length≤4096)(f:l.all a0A=true):b0Y ((a2V l:Nat):Int) l=some (a1h l)∧(a1h l).all a0A=true∧(a1h l).length=l.length∧upO ((a2V l:Nat):Int) (a1h l)=some l:=by
 obtain⟨-,g,k⟩:=a9g (show short l by unfold short;omega) f;have h:=d1k g f k;exact⟨h,d1i g h⟩
def a5E(k:Int)(s:Sub)(d:List Int):Option (List Int×List Int):=
 if k=2 then(bif (a2k s.2.2.1.toNat d).all a0A then some (d.take s.2.2.1.toNat,a2k s.2.2.1.toNat d)else none)
 else if k=3 then(b5Y d s.2.2.2.2.2.1 s.2.2.2.1).map fun r=>(d.take s.2.2.2.2.2.1.length,r)
 else if k=4 then(b5B d s.2.2.2.2.1 s.2.2.2.2.2.2.1).bind fun x=>(b5Y x s.2.2.2.2.2.1 s.2.2.2.1).map fun r=>(x.take s.2.2.2.2.2.1.length,r)
 else(b3l d s.2.2.2.2.2.2.2.1).map fun r=>([],r)
theorem c3L(j:k=2∨k=3∨k=4∨k=5)(i:a3R k s (d.length:Int))(n:d.all a0A=true)(h:a5E k s d=some (wm,r)):
  wm.length≤d.length∧r.length=d.length-wm.length∧r.all a0A=true∧wm.all a0A=true:=by
 have f:=i;simp only[a3R]at f;rcases j with rfl|rfl|rfl|rfl
 ·have:0≤s.2.2.1∧s.2.2.1≤(d.length:Int):=by omega
  simp[a5E]at h;cases hq:(a2k s.2.2.1.toNat d).all a0A with
  |false=>simp_all
  |true=>
   simp[hq]at h;obtain⟨rfl,rfl⟩:=h;simp_all[a5L,b8X]
 have:(s.2.2.2.2.2.1.length:Int)≤(d.length:Int):=by omega
 simp only[a5E,show ¬ (3:Int)=2 by simp,if_false,if_true,a22,pJ]at h;obtain⟨c,g,rfl,rfl⟩:=h;obtain⟨-,a,b⟩:=b5Z g
 grind
 have:(s.2.2.2.2.2.1.length:Int)≤(d.length:Int):=by omega
 simp only[a5E,show ¬ (4:Int)=2 by simp,show ¬ (4:Int)=3 by simp,if_false,if_true,a16,a22,pJ]at h;obtain⟨x,e,c,g,rfl,rfl⟩:=h;obtain⟨-,l,m⟩:=b7r e;obtain⟨-,a,b⟩:=b5Z g
 grind
 simp only[a5E,show ¬ (5:Int)=2 by simp,show ¬ (5:Int)=3 by simp,show ¬ (5:Int)=4 by simp,if_false,a22,pJ]at h;obtain⟨c,g,rfl,rfl⟩:=h;obtain⟨-,a,b⟩:=b9T g;simp_all
theorem c8M(v:k=2∨k=3∨k=4∨k=5)(h:SmallS s)(q:a3R k s (d.length:Int))(D:d.length≤4096)(y:d.all a0A=true)(w:Nat):
  b1U (a1L (a0Z k s) w [] z0 [],d)=some (match a5E k s d with|none=>(6,a1L (a0Z k s) w [] z0 [])|some (wm,r)=>(0,a1L (a0Z k s) w wm z0 r)):=by
 have l:=h.taps;have g:=h.stages;have i:short d:=by unfold short;omega
 obtain⟨k',w',o,sh,lag,c,t,st,z,p,E,u⟩:=s;simp only[a3R]at q l g;unfold b1U;rcases v with rfl|rfl|rfl|rfl;obtain⟨n,C,e⟩:0≤o∧o≤4∧o≤(d.length:Int):=by omega
 obtain⟨O,rfl⟩:=a01 n;have g:short (d.take O):=by unfold short;grind
 have j:decide ((O:Int)≤((d.length:Nat):Int))=true:=by simp_all
 simp only[a1L,a0Z,a5E,if_true,show((2:Int)==2)=true from rfl,cT,b6K (show O≤4 by omega) (show O≤d.length by omega) i y,oB,tN]
 grind[b2r,a2l,a7W]
 ·obtain⟨f,e⟩:a9C c sh=true∧(c.length:Int)≤(d.length:Int):=by simp_all
  have g:short (d.take c.length):=by unfold short;grind
  have m:decide ((0:Int)≤((c.length:Nat):Int))=true:=by simp
  have j:decide (((c.length:Nat):Int)≤((d.length:Nat):Int))=true:=by simp_all
  simp only[a1L,a0Z,a5E,show((3:Int)==2)=false from rfl,show((3:Int)==3)=true from rfl,show ¬ (3:Int)=2 by simp,show ¬ (3:Int)=4 by simp,show ¬ (3:Int)=5 by simp,true_or,if_true,if_false,cT,cF,b5A f (show c.length≤d.length by omega) (show d.length<100000 by omega),oB];cases b5Y d c sh with
  |none=>rfl
  |some r=>simp_all[a5a,b2r,a2l,a7W]
 ·obtain⟨f,e,a⟩:a9C c sh=true∧(c.length:Int)≤(d.length:Int)∧b2b lag t=true:=by simp_all
  simp[a1L,a0Z,a5E,c3A a l (show d.length<100000 by omega)];cases hx:b5B d lag t with
  |none=>rfl
  |some x=>
   obtain⟨-,A,B⟩:=b7r hx;have g:short (x.take c.length):=by unfold short;grind
   have m:decide ((0:Int)≤((c.length:Nat):Int))=true:=by simp
   have j:decide (((c.length:Nat):Int)≤((x.length:Nat):Int))=true:=by simp_all
   simp[a5a,b5A f (show c.length≤x.length by omega) (show x.length<100000 by omega)]
   grind[b2r,a2l,a7W]
 ·obtain⟨e,b⟩:0<st.length∧a9f st=true:=by simp_all
  have g:short (d.take 0):=by simp[short]
  simp only[a1L,a0Z,a5E,show((5:Int)==2)=false from rfl,show((5:Int)==3)=false from rfl,show((5:Int)==4)=false from rfl,show((5:Int)==5)=true from rfl,show ¬ (5:Int)=2 by simp,show ¬ (5:Int)=3 by simp,show ¬ (5:Int)=4 by simp,or_self,if_true,if_false,cT,cF,c2G b (show d.length<100000 by omega),oB];cases b3l d st with
  |none=>rfl
  |some r=>
   rfl
open Classical in

def a1q (k:Int) (l:List Int) (s:Sub):Sub×Int:=
 if ¬ (1≤l.length∧l.length≤4096∧a3R k s (l.length:Int))then(a1Z 0,1)
 else if l.all a0A=false then(a1Z 0,6)
 else if k=0 then(bif l.all (fun x=>x==l.headD 0)then(a1L (a0Z 0 s) 0 [l.headD 0] z0 [],0)else(a1Z 0,7))
 else if k=1 then(a1L (a0Z 1 s) (a2V l) (a1h l) z0 [],0)
 else match a5E k s (a1h l)with
  |none=>(a1Z 0,6)
  |some (wm,r)=>(a1L (a0Z k s) (a2V l) wm (b7J (l.length:Int) (wm.length:Int) r) r,0)
theorem c6v(h:1≤l.length):m0h l 0=some (l.headD 0):=by
 cases l with
 |nil=>grind
 |cons a l=>rfl
theorem c3M(k:1≤l.length)(c:short l)(a b:Sub):
  y0o a5h (l,l,(l.length:Int),(0:Int),a,b,())=some (bif l.all (fun x=>x==l.headD 0)then .inl (l,a,b,())else .inr ((7:Int),a1Z 0,())):=by
 have:=a2i (f:=a5h) l (fun i=>(l,l,(l.length:Int),(i:Int),a,b,())) (fun x=>x==l.headD 0) (bt:=Sum.inl (l,a,b,())) (bf:=Sum.inr ((7:Int),a1Z 0,()))
  (fun i h hp=>by
   have g:(l[i] != l.headD 0)=false:=by simp_all
   simp only[a5h,dlt h,cT,a0D h,oB,c6v k,g,cF,a0B (a31 h c)])
  (fun i h hp=>by
   have g:(l[i] != l.headD 0)=true:=by simp_all
   simp only[a5h,dlt h,cT,a0D h,oB,c6v k,g];rfl)
  (by simp[a5h])
 omega
theorem b8u(h:a3R k s n)(g:k≠0)(f:k≠1):k=2∨k=3∨k=4∨k=5:=by
 rcases h with h|h|⟨h,-⟩|⟨h,-⟩|⟨h,-⟩|⟨h,-⟩;omega;omega
 all_goals omega
theorem d1m(h:SmallS s)(k:Int)(D:l.length≤100000):b2W (k,l,s)=some (a1q k l s):=by
 have j:short l:=by unfold short;omega
 unfold b2W a1q
 by_cases h1:1≤l.length
 rotate_left;have e:decide (((l.length:Nat):Int)<1)=true:=decide_eq_true (by omega);rw[if_pos (fun g=>h1 g.1)];simp only[e,cT,oB];rfl;have a:decide (((l.length:Nat):Int)<1)=false:=decide_eq_false (by omega)
 by_cases h2:l.length≤4096
 rotate_left;have e:decide (((l.length:Nat):Int) > 4096)=true:=decide_eq_true (by omega);rw[if_pos (fun g=>h2 g.2.1)];simp only[a,e,cT,cF,oB];rfl;have o:decide (((l.length:Nat):Int) > 4096)=false:=decide_eq_false (by omega)
 by_cases h3:a3R k s (l.length:Int)
 rotate_left;have b:b3R k s (l.length:Int)=false:=by simp[b3R,h3]
 rw[if_pos (fun g=>h3 g.2.2)];simp only[a,o,b5u h,b,cF,a26,cT,oB];rfl;have b:b3R k s (l.length:Int)=true:=by simp[b3R,h3]
 rw[if_neg (fun g=>g ⟨h1,h2,h3⟩)];simp only[a,o,b5u h,b,cF,bT,oB,a4x j];cases hw:l.all a0A with
 |false=>rfl
 |true=>
  simp only[bT,cF,c7x h,oB];rw[if_neg (by simp)]
  by_cases h0:k=0
  ·subst h0;have w:=c3M h1 j (a1Z 0) (a0Z 0 s);have v:a1Z 0=((0:Int),(0:Int),(0:Int),(0:Int),(0:Int),([]:(List Int)),a00 3 (0:Int),([]:(List (Int×Int×Unit))),([]:(List Int)),((0:Int),([]:(List Int)),()),([]:(List Int)),()):=rfl;rw[←v,if_pos rfl];simp only[show((0:Int)==0)=true from rfl,cT,w,oB];cases l.all (fun x=>x==l.headD 0)with
   |false=>rfl
   |true=>simp only[cT,c6v h1,oB];rfl
  ·obtain⟨z,A,-⟩:=a9g j hw;obtain⟨t,n,C,-⟩:=a6M h2 hw;have c:(k==0)=false:=by grind
   rw[if_neg h0];simp only[c,cF,z,oB,b5z A (show l.length<100000 by omega),t,a5a,show((0:Int) != 0)=false from rfl]
   by_cases hk1:k=1
   subst hk1;rfl
   ·have i:(k==1)=false:=by simp_all
    have p:=b8u h3 h0 hk1;rw[if_neg hk1];have m:=c8M p h (d:=a1h l) (by simp_all) (by omega) n (a2V l);have u:((a0Z k s).1,((a2V l:Nat):Int),(a0Z k s).2.2)=a1L (a0Z k s) (a2V l) [] z0 []:=rfl;simp only[i,cF,u,m,oB];cases hr:a5E k s (a1h l)with
    |none=>rfl
    |some q=>
     obtain⟨B,r⟩:=q;obtain⟨E,r2,y,-⟩:=c3L p (by simp_all) n hr;have f:a6m (l.length:Int) (B.length:Int)=true:=by simp_all[a6m]
     have hb:=c2J f (l:=r) (by omega) y (by omega);simp only[show((0:Int) != 0)=false from rfl,cF,a1L,hb,oB]
theorem c7y(h:a5B p n warm=true):p.2.1.length≤256:=by
 simp only[a5B,bA,a35,beq_eq_false_iff_ne,ne_eq,beq_iff_eq]at h
 grind[b4Y,a1u]
theorem b6d(h:SmallS s)(g:wm.length≤5000)(f:r.length≤5000)(k:p.2.1.length≤300):SmallS (a1L s w wm p r):=
 ⟨h.coefs,h.taps,h.stages,g,f,k⟩
theorem c6w(f:(a1q k l s).2=0):
  1≤l.length∧l.length≤4096∧a3R k s (l.length:Int)∧l.all a0A=true∧
   ((k=0∧l.all (fun x=>x==l.headD 0)=true∧(a1q k l s).1=a1L (a0Z 0 s) 0 [l.headD 0] z0 [])∨
    (k=1∧(a1q k l s).1=a1L (a0Z 1 s) (a2V l) (a1h l) z0 [])∨
     ((k=2∨k=3∨k=4∨k=5)∧∃wm r,a5E k s (a1h l)=some (wm,r)∧(a1q k l s).1=a1L (a0Z k s) (a2V l) wm (b7J (l.length:Int) (wm.length:Int) r) r)):=by
 unfold a1q at f⊢
 split at f
 omega;rename_i g;have g:1≤l.length∧l.length≤4096∧a3R k s (l.length:Int):=Classical.byContradiction g;refine⟨g.1,g.2.1,g.2.2,?_⟩;rw[if_neg (fun h=>h g)]
 split at f
 omega;rename_i d;have a:l.all a0A=true:=by simp_all
 refine⟨a,?_⟩;rw[if_neg d]
 split at f
 grind
 rename_i b;rw[if_neg b]
 split at f
 simp_all;rename_i c;rw[if_neg c];refine .inr (.inr ⟨b8u g.2.2 b c,?_⟩)
 grind
theorem b3Y:b5v (a1L (a0Z k s) w wm p r):=by
 unfold b5v a1L a0Z;simp_all
theorem b8Z(h:a3R k s n):a3R (a1L (a0Z k s) w wm p r).1 (a1L (a0Z k s) w wm p r) n:=c6u.2 h
theorem c8N{l:List Int}(h:l.all (fun x=>x==l.headD 0)=true):a00 l.length (l.headD 0)=l:=by
 refine(List.eq_replicate_iff.2 ⟨rfl,fun x g=>?_⟩).symm
 grind
theorem c1v(I:SmallS s)(G:(a1q k l s).2=0):
  SmallS (a1q k l s).1∧(a1q k l s).1.1=k∧a1s (a1q k l s).1 (l.length:Int)∧a2j (a1q k l s).1 (l.length:Int)=some l:=by
 obtain⟨S,H,u,A,K⟩:=c6w G;have M:short l:=by unfold short;omega
 obtain⟨-,Y,-⟩:=a9g M A;obtain⟨O,v,P,D⟩:=a6M H A;have d:∀m:Sub,a1s m (l.length:Int)→c3n m (l.length:Int)=some l→a2j m (l.length:Int)=some l:=fun m j n=>by simp_all[a2j]
 have b:=c3K I k;rcases K with⟨rfl,y,e⟩|⟨rfl,e⟩|⟨z,i,r,f,e⟩
 ·rw[e];have g:a1s (a1L (a0Z 0 s) 0 [l.headD 0] z0 []) (l.length:Int):=by
   have T:a0A (l.headD 0)=true:=by
    cases l with
    |nil=>rfl
    |cons a l=>simp_all
   exact⟨by omega,by omega,b8Z u,b3Y,Int.le_refl _,(by simp:(0:Int)≤30),fun _=>rfl,rfl,by simp_all[a1L],rfl,fun _=>⟨rfl,rfl,rfl⟩,fun h=>absurd rfl h.1⟩
  refine⟨b6d b (by simp) (by simp) (by simp[z0]),rfl,g,d _ g ?_⟩;show some (a00 (l.length:Int).toNat (l.headD 0))=some l
  grind[c8N]
 rw[e];have g:a1s (a1L (a0Z 1 s) (a2V l) (a1h l) z0 []) (l.length:Int):=
  ⟨by omega,by omega,b8Z u,b3Y,a80 _,(by show((a2V l:Nat):Int)≤30;omega),fun h=>absurd h (by simp:¬ (1:Int)=0),by show(((a1h l).length:Nat):Int)=(l.length:Int);omega,v,rfl,fun _=>⟨rfl,rfl,rfl⟩,fun h=>absurd rfl h.2⟩
 refine⟨b6d b (by omega) (by simp) (by simp[z0]),rfl,g,d _ g ?_⟩;show upO ((a2V l:Nat):Int) (a1h l)=some l;omega
 ·rw[e];obtain⟨X,r2,C,N⟩:=c3L z (by simp_all) v f;have q:a6m (l.length:Int) (i.length:Int)=true:=by simp only[a6m,bA,dT];omega
  have hp:=c8L q (l:=r) (by omega) C (by omega);generalize b7J (l.length:Int) (i.length:Int) r=p at hp;have L:=c7y hp

  have t:a2l (a1L (a0Z k s) (a2V l) i p r) (l.length:Int)=(i.length:Int)∧backP (a1L (a0Z k s) (a2V l) i p r)=some (a1h l):=by
   simp only[a3R]at u;rcases z with rfl|rfl|rfl|rfl
   ·obtain⟨U,V,B⟩:0≤s.2.2.1∧s.2.2.1≤4∧s.2.2.1≤(l.length:Int):=by omega
    simp[a5E]at f;cases hq:(a2k s.2.2.1.toNat (a1h l)).all a0A with
    |false=>simp_all
    |true=>
     simp[hq]at f;obtain⟨rfl,rfl⟩:=f;refine⟨?_,?_⟩;show s.2.2.1=_
     grind
     show b8T ((a1h l).take s.2.2.1.toNat) (a2k s.2.2.1.toNat (a1h l)) s.2.2.1=some (a1h l);have hb:=c3w v (o:=s.2.2.1.toNat) (by omega) ((a1h l).length-s.2.2.1.toNat) 0 (by omega);rw[a32,a83]at hb
     grind[b8T]
   have B:(s.2.2.2.2.2.1.length:Int)≤(l.length:Int):=by omega
   simp only[a5E,show ¬ (3:Int)=2 by simp,if_false,if_true,a22,pJ]at f;obtain⟨w,j,rfl,rfl⟩:=f;obtain⟨n,-,-⟩:=b5Z j;refine⟨?_,?_⟩;show((s.2.2.2.2.2.1.length:Nat):Int)=_;simp_all;exact n;have B:(s.2.2.2.2.2.1.length:Int)≤(l.length:Int):=by omega
   simp only[a5E,show ¬ (4:Int)=2 by simp,show ¬ (4:Int)=3 by simp,if_false,if_true,a16,a22,pJ]at f;obtain⟨x,F,w,j,rfl,rfl⟩:=f;obtain⟨Q,-,R⟩:=b7r F;obtain⟨n,-,-⟩:=b5Z j;refine⟨?_,?_⟩;show((s.2.2.2.2.2.1.length:Nat):Int)=_;simp_all;show(b3L (x.take s.2.2.2.2.2.1.length) w s.2.2.2.2.2.1 s.2.2.2.1).bind (fun l=>b4s l s.2.2.2.2.1 s.2.2.2.2.2.2.1)=_;simp_all;simp only[a5E,show ¬ (5:Int)=2 by simp,show ¬ (5:Int)=3 by simp,show ¬ (5:Int)=4 by simp,if_false,a22,pJ]at f;obtain⟨w,j,rfl,rfl⟩:=f;obtain⟨n,-,-⟩:=b9T j;exact⟨rfl,n⟩
  have c:¬ (k=0∨k=1):=by omega
  have g:a1s (a1L (a0Z k s) (a2V l) i p r) (l.length:Int):=by
   unfold a1s;rw[t.1];exact⟨by omega,by omega,b8Z u,b3Y,a80 _,(by show((a2V l:Nat):Int)≤30;omega),fun h=>absurd (.inl h) c,rfl,N,C,fun h=>absurd h c,fun _=>⟨(by show((r.length:Nat):Int)=_;omega),hp⟩⟩
  refine⟨b6d b (by omega) (by omega) (by omega),rfl,g,d _ g ?_⟩;have E:¬ (a1L (a0Z k s) (a2V l) i p r).1=0:=fun h=>c (.inl h);unfold c3n;rw[if_neg E,t.2];exact D
theorem c6x:SmallS (a1Z 0):=c4R 0
def cS(k o sh:Int)(c:List Int)(st:List Stg):Sub:=
 (k,(0:Int),o,sh,(0:Int),c,a00 3 (0:Int),st,([]:List Int),((0:Int),([]:List Int),()),([]:List Int),())
theorem b1v{k o sh:Int}{c:List Int}{st:List Stg}(h:c.length≤40)(g:st.length≤6):SmallS (cS k o sh c st):=
 ⟨h,rfl,g,by simp[cS],by simp[cS],by simp[cS]⟩
def b3h(d:List Int)(o w:Int):List Int×(Int×Int):=(a3Q (d,o,w)).getD ([],0,1)
def b1w(d:List Int)(o w:Int):List Sub:=bif (b3h d o w).2.2==0 then[cS 3 0 (b3h d o w).2.1 (b3h d o w).1 []]else[]
def c6y(d:List Int):Int:=(a6f d).getD 0
def b6e(d:List Int):Sub×Bool:=(a3s d).getD (a1Z 0,false)
def b9a(d:List Int):List Sub:=bif (b6e d).2 then[(b6e d).1]else[]
def b1x(i:Nat):List Sub:=(List.range i).map fun(j:Nat)=>cS 2 (j:Int) 0 [] []
def a2n(d:List Int):List Sub:=[cS 0 0 0 [] [],cS 1 0 0 [] [],cS 2 (c6y d) 0 [] []]
def a3H(d:List Int)(k:Int):List Sub:=if 1≤k then b1w d 4 12++b1w d 8 12 else[]
def b2h(d:List Int)(k:Int):List Sub:=if 2≤k then[cS 5 0 0 [] [((16:Int),(4:Int),())],cS 5 0 0 [] [((32:Int),(3:Int),()),((16:Int),(5:Int),())]]++b9a d else[]
def c2Q(d:List Int)(k:Int):List Sub:=if 3≤k then b1x 5++(b1w d 1 12++(b1w d 2 12++(b1w d 12 14++b1w d 16 14)))else[]
def a4f(d:List Int)(k:Int):List Sub:=a2n d++(a3H d k++(b2h d k++c2Q d k))
def c0A(d:List Int):Prop:=a3s d=some (b6e d)∧((b6e d).2=true→SmallS (b6e d).1)
theorem c3N(a:d.all a0A=true)(k:d.length≤4096)(h:1≤o)(g:o≤32)(f:2≤w∧w≤16):
  a3Q (d,(o:Int),(w:Int))=some (b3h d o w)∧((b3h d o w).2.2=0→(b3h d o w).1.length=o):=by
 obtain⟨c,sh,e,b,i⟩:=c7s a k h g f;unfold b3h;simp_all
theorem b1y(d:List Int)(o w:Int):(b1w d o w).length≤1:=by
 grind[b1w]
theorem b1z(c:d.all a0A=true)(b:d.length≤4096)(f:1≤o)(k:o≤32)(a:2≤w∧w≤16){L:List Sub}(e:L.length<1000):
  a0P ((o:Int),(w:Int),d,L)=some (d,L++b1w d o w):=by
 obtain⟨g,-⟩:=c3N c b f k a;have h:lim (L.length+1)=true:=a0U (by omega);unfold a0P b1w;simp only[g,oB];cases (b3h d o w).2.2==0 with
 |true=>simp only[cT,h];rfl
 |false=>simp
theorem c6z{L:List Sub}(k:L.length<1000):y0o a2p ((0:Int),L,d,())=some (L++b1x 5,d,()):=by
 have:=a1B (f:=a2p) (fun i:Nat=>((i:Int),L++b1x i,d,())) 5 (b:=(L++b1x 5,d,()))
  (fun i hi=>by
   have g:decide ((i:Int)<5)=true:=decide_eq_true (by omega);have h:lim ((L++b1x i).length+1)=true:=a0U (by simp[b1x];omega);have e:(L++b1x i)++[cS 2 (i:Int) 0 [] []]=L++b1x (i+1):=by simp[b1x,List.range_succ]
   rw[←e];simp only[a2p,g,cT,h,a0B (show i<1000000 by omega)];rfl)
  (by
   rfl)
 simp at this;rw[show b1x 0=[]from rfl,a42]at this;omega
theorem d1n(a:d.all a0A=true)(c:d.length≤4096)(l:c0A d)(k:Int):a6I (d,k)=some (a4f d k):=by
 obtain⟨o,E,F⟩:=b9R (show d.length<100000 by omega) a;have hb:c6y d=(o:Int):=by simp_all[c6y]
 have D:(b9a d).length≤1:=by grind[b9a]
 have O:=b1y d 4 12;have P:=b1y d 8 12;have M:=b1y d 1 12;have N:=b1y d 2 12;have G:=b1y d 12 14;have y:=fun L (hL:L.length<1000)=>b1z (L:=L) a c (o:=4) (w:=12) (by omega) (by omega) (by omega) hL;have z:=fun L (hL:L.length<1000)=>b1z (L:=L) a c (o:=8) (w:=12) (by omega) (by omega) (by omega) hL;have v:=fun L (hL:L.length<1000)=>b1z (L:=L) a c (o:=1) (w:=12) (by omega) (by omega) (by omega) hL;have x:=fun L (hL:L.length<1000)=>b1z (L:=L) a c (o:=2) (w:=12) (by omega) (by omega) (by omega) hL;have i:=fun L (hL:L.length<1000)=>b1z (L:=L) a c (o:=12) (w:=14) (by omega) (by omega) (by omega) hL;have j:=fun L (hL:L.length<1000)=>b1z (L:=L) a c (o:=16) (w:=14) (by omega) (by omega) (by omega) hL;simp at y z v x i j;have Q:(a2n d).length=3:=rfl;have R:(a3H d k).length≤2:=by unfold a3H;split<;>simp<;>omega
 have S:(b2h d k).length≤3:=by unfold b2h;split<;>simp<;>omega
 have T:(b1x 5).length=5:=rfl;have K:(bif decide (k≥1)then((a0P ((4:Int),(12:Int),d,a2n d)).bind fun n=>(a0P ((8:Int),(12:Int),n.1,n.2)).bind fun p=>some (k,p.1,p.2,()))else some (k,d,a2n d,()))=some (k,d,a2n d++a3H d k,()):=by
  unfold a3H
  by_cases h:1≤k
  have e:decide (k≥1)=true:=decide_eq_true h;simp only[e,cT,y (a2n d) (by omega),oB,z (a2n d++b1w d 4 12) (by grind),if_pos h,aA]
  grind
 have C:a6I (d,k)=(a6f d).bind fun A=>
   (show Option (Int×((List Int)×((List Sub)×Unit)))from bif decide (k≥1)then((a0P ((4:Int),(12:Int),d,[cS 0 0 0 [] [],cS 1 0 0 [] [],cS 2 A 0 [] []])).bind fun n=>(a0P ((8:Int),(12:Int),n.1,n.2)).bind fun p=>some (k,p.1,p.2,()))else some (k,d,[cS 0 0 0 [] [],cS 1 0 0 [] [],cS 2 A 0 [] []],())).bind fun g=>
   (show Option (Int×((List Sub)×((List Int)×Unit)))from bif decide (g.1≥2)then(bif lim (g.2.2.1.length+1)then(bif lim ((g.2.2.1++[cS 5 0 0 [] [((16:Int),(4:Int),())]]).length+1)then((a3s g.2.1).bind fun q=>
    bif q.2 then(bif lim ((g.2.2.1++[cS 5 0 0 [] [((16:Int),(4:Int),())]]++[cS 5 0 0 [] [((32:Int),(3:Int),()),((16:Int),(5:Int),())]]).length+1)then some (g.1,g.2.2.1++[cS 5 0 0 [] [((16:Int),(4:Int),())]]++[cS 5 0 0 [] [((32:Int),(3:Int),()),((16:Int),(5:Int),())]]++[q.1],g.2.1,())else none)
    else some (g.1,g.2.2.1++[cS 5 0 0 [] [((16:Int),(4:Int),())]]++[cS 5 0 0 [] [((32:Int),(3:Int),()),((16:Int),(5:Int),())]],g.2.1,()))else none)else none)else some (g.1,g.2.2.1,g.2.1,())).bind fun t=>
   (show Option ((List Sub)×Unit)from bif decide (t.1≥3)then((y0o a2p ((0:Int),t.2.1,t.2.2.1,())).bind fun m=>(a0P ((1:Int),(12:Int),m.2.1,m.1)).bind fun r=>(a0P ((2:Int),(12:Int),r.1,r.2)).bind fun s=>
    (a0P ((12:Int),(14:Int),s.1,s.2)).bind fun f=>(a0P ((16:Int),(14:Int),f.1,f.2)).bind fun b=>some (b.2,()))else some (t.2.1,())).bind fun u=>some u.1:=rfl
 have B:[cS 0 0 0 [] [],cS 1 0 0 [] [],cS 2 (o:Int) 0 [] []]=a2n d:=by unfold a2n;grind
 have U:(bif decide (k≥2)then(bif lim ((a2n d++a3H d k).length+1)then(bif lim ((a2n d++a3H d k++[cS 5 0 0 [] [((16:Int),(4:Int),())]]).length+1)then((a3s d).bind fun q=>
    bif q.2 then(bif lim ((a2n d++a3H d k++[cS 5 0 0 [] [((16:Int),(4:Int),())]]++[cS 5 0 0 [] [((32:Int),(3:Int),()),((16:Int),(5:Int),())]]).length+1)then some (k,a2n d++a3H d k++[cS 5 0 0 [] [((16:Int),(4:Int),())]]++[cS 5 0 0 [] [((32:Int),(3:Int),()),((16:Int),(5:Int),())]]++[q.1],d,())else none)
    else some (k,a2n d++a3H d k++[cS 5 0 0 [] [((16:Int),(4:Int),())]]++[cS 5 0 0 [] [((32:Int),(3:Int),()),((16:Int),(5:Int),())]],d,()))else none)else none)else some (k,a2n d++a3H d k,d,()):Option (Int×((List Sub)×((List Int)×Unit))))=some (k,a2n d++(a3H d k++b2h d k),d,()):=by
  unfold b2h
  by_cases h:2≤k
  have e:decide (k≥2)=true:=decide_eq_true h;have q1:lim ((a2n d++a3H d k).length+1)=true:=a0U (by grind);have H:lim ((a2n d++a3H d k++[cS 5 0 0 [] [((16:Int),(4:Int),())]]).length+1)=true:=a0U (by simp;omega);have I:lim ((a2n d++a3H d k++[cS 5 0 0 [] [((16:Int),(4:Int),())]]++[cS 5 0 0 [] [((32:Int),(3:Int),()),((16:Int),(5:Int),())]]).length+1)=true:=a0U (by simp;omega);simp only[e,q1,H,I,cT,l.1,oB,if_pos h,b9a];cases (b6e d).2<;>simp
  grind
 have V:(bif decide (k≥3)then((y0o a2p ((0:Int),a2n d++(a3H d k++b2h d k),d,())).bind fun m=>(a0P ((1:Int),(12:Int),m.2.1,m.1)).bind fun r=>(a0P ((2:Int),(12:Int),r.1,r.2)).bind fun s=>
    (a0P ((12:Int),(14:Int),s.1,s.2)).bind fun f=>(a0P ((16:Int),(14:Int),f.1,f.2)).bind fun b=>some (b.2,()))else some (a2n d++(a3H d k++b2h d k),()):Option ((List Sub)×Unit))=some (a4f d k,()):=by
  unfold a4f c2Q
  by_cases h:3≤k
  have e:decide (k≥3)=true:=decide_eq_true h;simp only[e,cT,c6z (L:=a2n d++(a3H d k++b2h d k)) (by simp;omega),oB,if_pos h];rw[v _ (by simp;omega)];simp only[oB];rw[x _ (by simp;omega)];simp only[oB];rw[i _ (by simp;omega)];simp only[oB];rw[j _ (by simp;omega)]
  simp
  grind
 rw[C,E,oB,B];simp only[];rw[K];simp only[oB];simp_all
theorem c0B(l:d.all a0A=true)(i:d.length≤4096)(f:c0A d)(k:Int):∀c∈a4f d k,SmallS c:=by
 have g:∀(o w:Nat),1≤o→o≤32→2≤w∧w≤16→∀c∈b1w d o w,SmallS c:=fun o w a b e c h=>by
  obtain⟨-,m⟩:=c3N l i a b e;unfold b1w at h;cases he:(b3h d o w).2.2==0 with
  |false=>simp_all
  |true=>
   rw[he]at h;simp at h
   grind[b1v]
 intro c h;simp[a4f]at h;rcases h with h|h|h|h;simp[a2n]at h;rcases h with rfl|rfl|rfl<;>exact b1v (by simp) (by simp);unfold a3H at h
 split at h
 simp at h;rcases h with h|h;exact g 4 12 (by omega) (by omega) (by omega) c h;exact g 8 12 (by omega) (by omega) (by omega) c h;simp_all
 ·unfold b2h at h
  split at h
  ·simp only[mA,mC,a97,or_false]at h;rcases h with(rfl|rfl)|h;simp_all[b1v];simp_all[b1v]
   ·unfold b9a at h;cases hg:(b6e d).2 with
    |false=>simp_all
    |true=>
     rw[hg]at h;simp at h;subst h;exact f.2 hg
  simp_all
 unfold c2Q at h
 split at h
 simp only[mA,b1x,List.mem_map]at h;rcases h with⟨j,-,rfl⟩|h|h|h|h;simp_all[b1v];exact g 1 12 (by omega) (by omega) (by omega) c h;exact g 2 12 (by omega) (by omega) (by omega) c h;exact g 12 14 (by omega) (by omega) (by omega) c h;exact g 16 14 (by omega) (by omega) (by omega) c h;simp_all
theorem c8O(g:d.length≤256):a3s d=some (a1Z 0,false):=by
 have h:b1T (d,(16:Int),(256:Int))=some (0,7):=by
  unfold b1T
  grind
 unfold a3s;simp only[h,oB,show((7:Int) != 0)=true from rfl,cT];rfl
theorem d2C{d:List Int}(g:d.length≤256):c0A d:=by
 have h:=c8O g
 have:b6e d=(a1Z 0,false):=by unfold b6e;simp_all
 exact⟨by simp_all,fun f=>by simp_all⟩
def b5E(l:List Int)(a:Int×(Bool×Sub))(c:Sub):Int×(Bool×Sub):=
 bif (a1q c.1 l c).2 != 0 then a else bif !a.2.1 || decide (a4Y (a1q c.1 l c).1 (l.length:Int)<a.1)then(a4Y (a1q c.1 l c).1 (l.length:Int),true,(a1q c.1 l c).1)else a
def b6f(l:List Int)(cs:List Sub):Int×(Bool×Sub):=cs.foldl (b5E l) (0,false,a1Z 0)
theorem b6g{α A β:Type}(g:A→α→A)(h:A→β):∀(l:List α)(a:A),a8Q h (a2K (fun a x=>.inl (g a x)) l a)=h (l.foldl g a)
 | [],_=>rfl
 |x::l,a=>b6g g h l (g a x)
theorem c4S(h:SmallS s):SmallS (a1q k l s).1:=by
 by_cases h0:(a1q k l s).2=0
 exact(c1v h h0).1
 have:(a1q k l s).1=a1Z 0:=by
  unfold a1q at h0⊢
  grind
 simp_all[c6x]
theorem c7z{cs:List Sub}(e:∀c∈cs,SmallS c)(o:l.length≤4096)(n:cs.length<1000):
  y0o a7c (l,(0:Int),false,cs,((cs.length:Nat):Int),(0:Int),a1Z 0,a1Z 0,())=some (a1Z 0,(b6f l cs).2.2,()):=by
 have:=a1R (f:=a7c) cs (fun i a=>(l,a.1,a.2.1,cs,((cs.length:Nat):Int),(i:Int),a1Z 0,a.2.2,())) (fun a x=>.inl (b5E l a x)) (fun _ _=>True) (fun a=>(a1Z 0,a.2.2,()))
  (fun i hi a _=>by
   refine⟨fun m h=>?_,fun b hb=>by grind⟩;simp at h;subst h;refine⟨?_,trivial⟩;have g:=e _ (a05 hi);have d:=c5g (c4S (k:=cs[i].1) (l:=l) g) (l.length:Int);unfold b5E;simp only[a7c,dlt hi,cT,a0D hi,oB,d1m g cs[i].1 (show l.length≤100000 by omega),d,a0B (show i<1000000 by omega)];cases (a1q cs[i].1 l cs[i]).2 != 0 with
   |true=>rfl
   |false=>
    have j:=a0B (show i<1000000 by omega)
    grind)
  (fun a _=>by simp_all[a7c]) (a:=((0:Int),false,a1Z 0)) trivial
 simp at this;rw[this,b6g];rfl
theorem d1o(v:1≤l.length)(c:l.length≤4096)(a:l.all a0A=true)(h:c0A (a1h l))(u:0≤k)(x:k≤3):
  a5v (l,k)=some ((b6f l (a4f (a1h l) k)).2.2,0):=by
 have d:short l:=by unfold short;omega
 obtain⟨r,s,-⟩:=a9g d a;obtain⟨e,b,t,-⟩:=a6M c a;have i:decide (((l.length:Nat):Int)<1)=false:=decide_eq_false (by omega);have j:decide (((l.length:Nat):Int) > 4096)=false:=decide_eq_false (by omega);have m:decide (k<0)=false:=decide_eq_false (by omega);have n:decide (k > 3)=false:=decide_eq_false (by omega);have f:(a4f (a1h l) k).length<1000:=by
  have g:=fun o w=>b1y (a1h l) o w;have q1:=g 4 12;have y:=g 8 12;have z:=g 1 12;have A:=g 2 12;have B:=g 12 14;have C:=g 16 14;have p:(b9a (a1h l)).length≤1:=by grind[b9a]
  simp only[a4f,a2n,a3H,b2h,c2Q,lN]
  grind[b1x]
 have hb:=c7z (l:=l) (c0B b (by omega) h k) c f;have q:a1Z 0=((0:Int),(0:Int),(0:Int),(0:Int),(0:Int),([]:(List Int)),a00 3 (0:Int),([]:(List (Int×Int×Unit))),([]:(List Int)),((0:Int),([]:(List Int)),()),([]:(List Int)),()):=rfl;unfold a5v;simp only[←q,i,j,m,n,cF,oB,a4x d,a,bT,r,b5z s (show l.length<100000 by omega),e,a5a,show((0:Int) != 0)=false from rfl,d1n b (show(a1h l).length≤4096 by omega) h,hb]
theorem b1A(v:Int)(n:Nat)(L:List Int):(a0O v n L).length=L.length+(a0O v n []).length:=by
 grind[a0O]
theorem b4B(n:Nat):∀(l L:List Int),(a1C n l L).length=L.length+(a1C n l []).length
 | [],L=>by rfl
 |x::l,L=>by
  show(a1C n l (a0O (a0X x n) n L)).length=L.length+(a1C n l (a0O (a0X x n) n [])).length;rw[b4B n l,b4B n l (a0O (a0X x n) n []),b1A];omega
theorem b5b:∀(st:List Stg)(L:List Int),(a3h st L).length=L.length+(a3h st []).length
 | [],L=>by rfl
 |s::st,L=>by
  show(a3h st (a6p s L)).length=L.length+(a3h st (a6p s [])).length;rw[b5b st,b5b st (a6p s [])];unfold a6p;rw[b1A,b1A _ 5 L,b1A _ 4 (a0O _ 5 [])];omega
theorem c6A(s:Sub)(L:List Int):(a6q s L).length=L.length+(a6q s []).length:=by
 grind[a6q,b4B,b1A]
theorem c1X(s:Sub)(L:List Int):(a2t s L).length=L.length+(a2t s []).length:=by
 grind[a2t,b1A,c6A,b4B,b5b]
theorem c8P(g:0≤s.1∧s.1≤5)(f:0≤s.2.1∧s.2.1≤30)(h:s.2.2.2.2.2.2.2.2.1.all a0A=true)(L:List Int):(b2d s L).length=L.length+13:=by
 grind[a01,a1U,b2d,a3v,b1u]
def c6B(s:Sub)(zn:List Nat):Nat:=
 13+(a2t s []).length+a0I s.2.2.2.2.2.2.2.2.1*s.2.2.2.2.2.2.2.2.1.length+if s.1=0∨s.1=1 then 0 else 4+a5D zn s.2.2.2.2.2.2.2.2.2.1.2.1 s.2.2.2.2.2.2.2.2.2.2.1
theorem b6h(h:a3R k s n):0≤k∧k≤5:=by
 rcases h with h|h|⟨h,-⟩|⟨h,-⟩|⟨h,-⟩|⟨h,-⟩<;>omega
theorem b5c(h:(a2j s n).isSome=true):a1s s n:=by
 grind[a2j]
theorem d1p(h:(a2j s n).isSome=true)(d:s.1≠0∧s.1≠1→PartsOk s.2.2.2.2.2.2.2.2.2.1 n ((s.2.2.2.2.2.2.2.2.1.length:Nat):Int) s.2.2.2.2.2.2.2.2.2.2.1 zn)(L:List Int):
  (a5j s zn L).length=L.length+c6B s zn:=by
 obtain⟨e,i,b,-,k,a,-,-,f,-⟩:=b5c h;have c:=a1U f;have g:=c8P (b6h b) ⟨k,a⟩ f L;unfold a5j c6B
 by_cases hk:s.1=0∨s.1=1
 rw[if_pos hk,if_pos hk,b4z (by omega),c1X,g];omega;rw[if_neg hk,if_neg hk,c2I (d (not_or.1 hk)),b4z (by omega),c1X,g];omega
theorem c8Q(h:SmallS s)(f:(a2j s n).isSome=true):∃g,a4Y s n=((c6B s g:Nat):Int)∧(s.1≠0∧s.1≠1→PartsOk s.2.2.2.2.2.2.2.2.2.1 n ((s.2.2.2.2.2.2.2.2.1.length:Nat):Int) s.2.2.2.2.2.2.2.2.2.2.1 g):=by
 obtain⟨e,b,-,-,-,a,-⟩:=b5T h (n:=n) (L:=[]) (by simp);obtain⟨-,g,-,k⟩:=a f;refine⟨g,?_,k⟩;unfold a4Y;rw[if_pos f,←c1t k,d1p f k]
 simp
structure Shifted (l m:List Int) (n:Nat):Prop where
 len:m.length=l.length
 wl:l.all a0A=true
 wm:m.all a0A=true
 down:a1h m=a1h l
 waste:a2V m=a2V l+n
 fl:l.all (fun x=>x==l.headD 0)=false
 fm:m.all (fun x=>x==m.headD 0)=false
structure BestIs (l:List Int) (cs:List Sub) (a:Int×(Bool×Sub)):Prop where
 one:a.2.1=true→∃c∈cs,(a1q c.1 l c).2=0∧a.2.2=(a1q c.1 l c).1∧a.1=a4Y a.2.2 (l.length:Int)
 least:∀c∈cs,(a1q c.1 l c).2=0→a.2.1=true∧a.1≤a4Y (a1q c.1 l c).1 (l.length:Int)
theorem b7u{l:List Int}:∀(cs ds:List Sub)(a:Int×(Bool×Sub)),BestIs l ds a→BestIs l (ds++cs) (cs.foldl (b5E l) a)
 | [],ds,a,h=>by simp_all
 |c::cs,ds,a,h=>by
  rw[b01,show ds++c::cs=(ds++[c])++cs by simp];refine b7u cs (ds++[c]) _ ?_
  unfold b5E
  by_cases h0:(a1q c.1 l c).2=0
  ·have e:((a1q c.1 l c).2 != 0)=false:=by simp_all
   rw[e,cF];cases hq:(!a.2.1 || decide (a4Y (a1q c.1 l c).1 (l.length:Int)<a.1))with
   |true=>
    refine⟨fun _=>⟨c,by simp,h0,rfl,rfl⟩,fun d f k=>⟨rfl,?_⟩⟩;rcases mA.1 f with f|f;obtain⟨i,j⟩:=h.least d f k
    grind
    simp_all
   |false=>
    simp only[a74,Bool.not_eq_false',decide_eq_false_iff_not]at hq;refine⟨fun b=>?_,fun d f k=>?_⟩;obtain⟨d,f,g⟩:=h.one b
    grind
    rcases mA.1 f with f|f;exact h.least d f k;simp_all
  have e:((a1q c.1 l c).2 != 0)=true:=by simp_all
  rw[e,cT];refine⟨fun b=>?_,fun d f k=>?_⟩;obtain⟨d,f,g⟩:=h.one b
  grind
  rcases mA.1 f with f|f;exact h.least d f k;simp_all
theorem c1w(l:List Int)(cs:List Sub):BestIs l cs (b6f l cs):=
 b7u cs [] _ ⟨fun h=>(by grind),fun _ h=>(by grind)⟩
theorem b6i(h:1≤l.length)(g:l.length≤4096)(f:l.all a0A=true):a1q 1 l (cS 1 0 0 [] [])=(a1L (a0Z 1 (cS 1 0 0 [] [])) (a2V l) (a1h l) z0 [],0):=by
 unfold a1q;rw[if_neg (fun q=>q ⟨h,g,.inr (.inl rfl)⟩),if_neg (by simp_all),if_neg (by simp),if_pos rfl]
theorem c6C(h:1≤l.length)(g:l.length≤4096)(f:l.all a0A=true)(d:List Int)(k:Int):(b6f l (a4f d k)).2.1=true:=
 ((c1w l (a4f d k)).least (cS 1 0 0 [] []) (by simp[a4f,a2n]) (by rw[show(cS 1 0 0 [] []).1=1 from rfl,b6i h g f])).1
def inW(x:Int)(v:Nat):Bool:=decide (x=0) || a1j x (v:Int)
theorem c8R{x:Int}{v:Nat}:a1j x (v:Int)=true↔1≤v∧v≤31∧-((2^(v-1):Nat):Int)≤x∧x≤((2^(v-1):Nat):Int)-1:=by
 by_cases hv:1≤v∧v≤31
 have e:((v:Int)-1)=((v-1:Nat):Int):=by omega
 have hp:2^(v-1)≤2^30:=a09 (by omega) (by omega);have a:=a18 (v-1);have g:A0j .i64 1 ((v-1:Nat):Int)=((2^(v-1):Nat):Int):=c3x (by omega);have f:A0j .i64 (-1) ((v-1:Nat):Int)=-((2^(v-1):Nat):Int):=by
  grind[IntKind.bits,A0j,a0C]
 have k:wrap .i64 (((2^(v-1):Nat):Int)-1)=((2^(v-1):Nat):Int)-1:=a0C (by omega);simp only[a1j,e,g,f,k,bA,dT];omega;constructor;intro h;simp[a1j]at h;omega;omega
theorem b7K:inW x v=true↔x=0∨(1≤v∧v≤31∧-((2^(v-1):Nat):Int)≤x∧x≤((2^(v-1):Nat):Int)-1):=by
 simp_all[inW,c8R]
theorem c8S{x:Int}{v w:Nat}(h:v≤w)(c:w≤31)(g:inW x v=true):inW x w=true:=by
 rw[b7K]at g⊢;rcases g with g|⟨f,k,a,b⟩;omega
 have:2^(v-1)≤2^(w-1):=a09 (by omega) (by omega)
 omega
theorem c8T{x:Int}(h:a0A x=true):inW x 31=true:=by
 have:=a1H.1 h
 rw[b7K];omega
theorem c1Y{x:Int}(j:a0A x=true):∀(k w:Nat),w+k=32→w≤31→w≤a1K x k w∧a1K x k w≤31∧inW x (a1K x k w)=true∧∀v,w≤v→inW x v=true→v≤31→a1K x k w≤v
 |0,w,h,g=>absurd g (by omega)
 |k+1,w,h,g=>by
  by_cases hin:inW x w=true
  ·have:a1K x (k+1) w=w:=by
    unfold a1K;cases a:(x != 0)&&!a1j x (w:Int)with
    |false=>rfl
    |true=>
     simp at a;simp_all[inW]
   simp_all
  have a:((x != 0)&&!a1j x (w:Int))=true:=by
   simp_all[inW]
  have i:w≠31:=fun e=>hin (by simp_all[c8T]);have e:a1K x (k+1) w=a1K x k (w+1):=by
   show(bif (x != 0)&&!a1j x (w:Int)then a1K x k (w+1)else w)=_
   grind
  obtain⟨l,b,c,d⟩:=c1Y j k (w+1) (by omega) (by omega);rw[e];refine⟨by omega,b,c,fun v hv f g=>d v ?_ f g⟩;rcases Nat.lt_or_ge w v with q|q;exact q
  have:v=w:=by omega
  exact absurd (this▸f) hin
theorem b0Z:∀(l:List Int)(w:Nat),l.all a0A=true→w≤31→
  w≤l.foldl (fun w x=>a1K x (32-w) w) w∧l.foldl (fun w x=>a1K x (32-w) w) w≤31∧(∀x∈l,inW x (l.foldl (fun w x=>a1K x (32-w) w) w)=true)∧∀v,w≤v→v≤31→(∀x∈l,inW x v=true)→l.foldl (fun w x=>a1K x (32-w) w) w≤v
 | [],w,_,h31=>⟨a23 _,h31,by simp,fun v hv _ _=>hv⟩
 |x::l,w,h,h31=>by
  rw[a06,bA]at h;obtain⟨i,b,j,m⟩:=c1Y h.1 (32-w) w (by omega) h31;obtain⟨c,a,d,e⟩:=b0Z l (a1K x (32-w) w) h.2 b;simp only[b01];refine⟨by omega,a,fun y k=>?_,fun v hv f g=>?_⟩
  ·rcases mC.1 k with rfl|k
   all_goals grind[c8S]
  simp_all
theorem c3O{l:List Int}(h:l.all a0A=true):∀x∈l,inW x (a0I l)=true:=(b0Z l 0 h (by omega)).2.2.1
theorem c4T(h:l.all a0A=true)(hv:v≤31)(g:∀x∈l,inW x v=true):a0I l≤v:=(b0Z l 0 h (by omega)).2.2.2 v (by omega) hv g
theorem c8U{x:Int}{w v:Nat}(e:w≤30)(k:((2^w:Nat):Int) ∣ x)(h:inW x v=true):inW (A0k .i64 x (w:Int)) v=true:=by
 obtain⟨c,rfl⟩:=k;rw[c8I (by omega)];rw[b7K]at h⊢;have hp:(1:Int)≤((2^w:Nat):Int):=by have:=a18 w;omega
 generalize ((2^w:Nat):Int)=p at h hp;rcases h with h|⟨g,f,b,d⟩
 grind[Int.mul_eq_zero]
 refine .inr ⟨g,f,?_,?_⟩
 by_cases hc:0≤c
 omega;have a:=a50 (show 0≤p-1 by omega) (show 0≤-c by omega)
 grind
 by_cases hc:0≤c
 have a:=a50 (show 0≤p-1 by omega) hc
 grind
 omega
theorem c6D(k:l.length≤4096)(h:l.all a0A=true):a0I (a1h l)≤a0I l:=by
 obtain⟨-,e,c⟩:=a9g (show short l by unfold short;omega) h;obtain⟨-,f,-,-⟩:=a6M k h;have a:∀x∈l,((2^a2V l:Nat):Int) ∣ x:=by
  rcases c with⟨g,-⟩|⟨-,-,g,-⟩
  all_goals grind[a85]
 refine c4T f (a1U h) fun y b=>?_
 obtain⟨x,d,rfl⟩:=List.mem_map.1 b
 grind[c8U,c3O]
theorem c6E(a:1≤l.length)(h:l.length≤4096)(g:l.all a0A=true):a4Y (a1q 1 l (cS 1 0 0 [] [])).1 (l.length:Int)=((13+a0I (a1h l)*l.length:Nat):Int):=by
 have b:SmallS (cS 1 0 0 [] []):=b1v (by simp) (by simp);have d:=b6i a h g;obtain⟨a1,-,-,f⟩:=c1v b (k:=1) (l:=l) (by grind);obtain⟨i,c,-⟩:=c8Q a1 (by rw[f];rfl);obtain⟨-,-,j,-⟩:=a6M h g;rw[c,d];have e:c6B (a1L (a0Z 1 (cS 1 0 0 [] [])) (a2V l) (a1h l) z0 []) i=13+0+a0I (a1h l)*(a1h l).length+0:=rfl;simp_all
theorem c6F{l:List Int}(b:1≤l.length)(f:l.length≤4096)(a:l.all a0A=true)(g:c0A (a1h l)){k:Int}(d:0≤k)(t:k≤3):
  ∃s,a5v (l,k)=some (s,0)∧SmallS s∧a2j s (l.length:Int)=some l∧s=(b6f l (a4f (a1h l) k)).2.2∧a4Y s (l.length:Int)=(b6f l (a4f (a1h l) k)).1∧a4Y s (l.length:Int)≤((13+a0I l*l.length:Nat):Int)∧
   (∀c∈a4f (a1h l) k,(a1q c.1 l c).2=0→a4Y s (l.length:Int)≤a4Y (a1q c.1 l c).1 (l.length:Int)):=by
 obtain⟨-,p,u,-⟩:=a6M f a;have hb:=d1o b f a g d t;have j:=c6C b f a (a1h l) k;obtain⟨c,i,q,r,o⟩:=(c1w l (a4f (a1h l) k)).one j;have e:=c0B p (by omega) g k c i;obtain⟨m,-,-,n⟩:=c1v e q;rw[←r]at m n;have h:∀c∈a4f (a1h l) k,(a1q c.1 l c).2=0→a4Y (b6f l (a4f (a1h l) k)).2.2 (l.length:Int)≤a4Y (a1q c.1 l c).1 (l.length:Int):=fun c i d=>by
  rw[←o];exact((c1w l (a4f (a1h l) k)).least c i d).2
 refine⟨_,hb,m,n,rfl,o.symm,?_,h⟩;have hp:=h (cS 1 0 0 [] []) (by simp[a4f,a2n]) (by rw[show(cS 1 0 0 [] []).1=1 from rfl,b6i b f a]);rw[show(cS 1 0 0 [] []).1=1 from rfl,c6E b f a]at hp
 have:=a28 l.length (c6D f a)
 omega
@[reducible] def Rd:Type:=(List Int)×(Int×(Int×Unit))
def a1v(L:List Int):Prop:=∀b∈L,b=0∨b=1
def b3n(bs:List Int)(i:Nat):Bool:=(bs.getD (i / 8) 0).toNat.testBit (7-i%8)
theorem or8{x y:Nat}(h:x<256)(g:y<256):bits .u8 .or (x:Int) (y:Int)=((x ||| y:Nat):Int):=by
 show wrap .u8 (((a04 8 (x:Int)) ||| (a04 8 (y:Int))).toNat:Int)=_;rw[a27,a27,a56,a33,a33,a24 h,a24 g,a7f]
 have:x ||| y<2^8:=a87 h g
 omega
theorem d8n{b:Int}(hb:b=0∨b=1){r:Nat}(g:r<8):A0j .u8 b (7-(r:Int))=((b.toNat*2^(7-r):Nat):Int):=by
 have h:∀r:Fin 8,A0j .u8 0 (7-(r.1:Int))=((0*2^(7-r.1):Nat):Int)∧A0j .u8 1 (7-(r.1:Int))=((1*2^(7-r.1):Nat):Int):=by decide +kernel
 rcases hb with rfl|rfl;exact(h ⟨r,g⟩).1;exact(h ⟨r,g⟩).2
theorem c8V{x:Nat}(h:x<256){r:Nat}(g:r<8):bits .u8 .and (A0k .u8 (x:Int) (7-(r:Int))) 1=if x.testBit (7-r)then 1 else 0:=by
 have e:A0k .u8 (x:Int) (7-(r:Int))=((x / 2^(7-r):Nat):Int):=by
  show a77 (x:Int) (2^(min (7-(r:Int)).toNat 8))=_
  grind
 rw[e];have f:x / 2^(7-r)<256:=a41 (a34 _ _) h;show wrap .u8 (((a04 8 ((x / 2^(7-r):Nat):Int)) &&& (a04 8 1)).toNat:Int)=_
 grind[a04,a7f]
theorem c7A(L:List Int)(b:Int)(i:Nat):(L++[b]).getD i 0=if i=L.length then b else L.getD i 0:=by
 grind
theorem c3P(h:List Int)(k:Nat)(y:Int)(g:k<h.length)(j:Nat):(h.set k y).getD j 0=if j=k then y else h.getD j 0:=by
 grind
theorem c1Z:∀(n:Nat)(L:List Int),L.length=n→a1v L→(∀j,0≤(wL L).1.getD j 0∧(wL L).1.getD j 0<256)∧∀i,b3n (wL L).1 i=decide (L.getD i 0=1)
 |0,L,h,_=>by
  simp_all[wL,b3n]
 |n+1,L,h,hL=>by
  obtain⟨g,b,rfl⟩:∃g b,L=g++[b]:=by
   rcases a52 L with rfl|⟨g,b,e⟩
   all_goals simp_all
  have hb:b=0∨b=1:=hL b (by simp);obtain⟨t,v⟩:=c1Z n g (by simp_all) fun c C=>hL c (by grind);obtain⟨o,p⟩:=a5K g;rw[c1q];generalize wL g=wr at o p t v⊢;obtain⟨d,m,u⟩:=wr;have o:m=(g.length:Int):=o;have p:d.length=(g.length+7) / 8:=p;subst o;have e8:((g.length:Int) / 8).toNat=g.length / 8:=by rfl
  have q:(g.length:Int)%8=((g.length%8:Nat):Int):=by rfl
  obtain⟨f,a,w,y⟩:∃f:List Int,(if(g.length:Int)%8=0 then d++[0]else d)=f∧g.length / 8<f.length∧∀j,f.getD j 0=d.getD j 0:=by
   grind
  rw[q]at a;have B:g.length%8<8:=a43 _ (by simp);obtain⟨x,r⟩:∃x:Nat,d.getD (g.length / 8) 0=(x:Int):=a01 (t _).1;have k:x<256:=by
   grind
  have s:b.toNat*2^(7-g.length%8)<256:=by
   have hp:2^(7-g.length%8)≤2^7:=a09 (by simp) (by omega)
   grind
  have A:x ||| b.toNat*2^(7-g.length%8)<2^8:=a87 k s;have l:(c1p (d,(g.length:Int),u) b).1=f.set (g.length / 8) ((x ||| b.toNat*2^(7-g.length%8):Nat):Int):=by
   unfold c1p;simp only[a,e8,q];rw[y,r,d8n hb B,or8 k s]
  rw[l];refine⟨fun j=>?_,fun i=>?_⟩
  grind[c3P]
  ·unfold b3n;rw[c3P _ _ _ w,c7A];have hi:=v i;unfold b3n at hi
   by_cases hk:i / 8=g.length / 8
   ·rw[if_pos hk,tN,Nat.testBit_or];rw[hk,r,tN]at hi;rw[hi];have z:(b.toNat*2^(7-g.length%8)).testBit (7-i%8)=(decide (b=1)&&decide (i=g.length)):=by
     rcases hb with rfl|rfl
     all_goals grind
    grind
   grind
theorem d1q(h:a1v L):(∀j,0≤(wL L).1.getD j 0∧(wL L).1.getD j 0<256)∧∀i,b3n (wL L).1 i=decide (L.getD i 0=1):=c1Z _ L rfl h
def rdr(P R:List Int):Rd:=((wL (P++R)).1,(P.length:Int),(0:Int),())
theorem c1x(k:a1v L)(n:L.length<1000000000)(hi:i<L.length)(t:Int×(Int×Unit)):
  a1y (((wL L).1,t),(i:Int))=some (L.getD i 0,(wL L).1,t):=by
 obtain⟨d,e⟩:=d1q k;obtain⟨-,m⟩:=a5K L;have l:a29 (i:Int) 8=((i%8:Nat):Int):=by rfl
 have j:a47 (i:Int) 8=((i / 8:Nat):Int):=by rfl
 have b:wrap .i64 ((i / 8:Nat):Int)=((i / 8:Nat):Int):=a0C (by omega);have c:wrap .i64 (7-((i%8:Nat):Int))=7-((i%8:Nat):Int):=a0C (by omega);have g:decide (7-((i%8:Nat):Int)<0)=false:=by grind
 have hb:i / 8<(wL L).1.length:=by omega
 have f:(wL L).1[i / 8]=(wL L).1.getD (i / 8) 0:=by grind
 unfold a1y;simp only[l,j,b,c,g,a0D hb,oB,cF];obtain⟨x,a⟩:∃x:Nat,(wL L).1.getD (i / 8) 0=(x:Int):=a01 (d _).1;have h:x<256:=by grind
 rw[f,a,c8V h (a43 _ (by simp))]
 have:=e i
 unfold b3n at this;rw[a,tN]at this;rw[this];have hv:L.getD i 0=0∨L.getD i 0=1:=by
  have:L.getD i 0=L[i]:=by simp_all
  rw[this];exact k _ (a05 hi)
 grind
theorem c7B(hv:v<18446744073709551616)(hi:i≤64):a6K (v:Int) i=((v / 2^i%2:Nat):Int):=by
 unfold a6K;rw[a6u hi];have h:v / 2^i<18446744073709551616:=a41 (a34 _ _) hv;show wrap .u8 (wrap .u64 (((a04 64 ((v / 2^i:Nat):Int)) &&& (a04 64 1)).toNat:Int))=_
 grind[a04,a0K,a7f]
theorem a1v.app{A B:List Int}(h:a1v A)(g:a1v B):a1v (A++B):=fun b hb=>(mA.1 hb).elim (h b) (g b)
theorem orU(k:a<18446744073709551616)(hb:b<2)(f:a%2=0):bits .u64 .or (a:Int) (b:Int)=((a+b:Nat):Int):=by
 show wrap .u64 (((a04 64 (a:Int) ||| a04 64 (b:Int)).toNat:Nat):Int)=_;have g:(a04 64 (a:Int)).toNat=a:=by simp_all
 have h:(a04 64 (b:Int)).toNat=b:=by grind
 rw[a56,g,h];have e:a ||| b=a+b:=by
  have:=a44 (i:=1) (b:=b) (by omega) (a / 2)
  grind
 grind[a0K]
theorem c3Q{v:Nat}(hv:v<9223372036854775808){n:Nat}(q:n≤62):∀(m:Nat)(P R:List Int),m≤n→a1v (P++(pb (v:Int) m++R))→(P++(pb (v:Int) m++R)).length<1000000000→
  y0o a4d (((v / 2^m:Nat):Int),(n:Int),((n-m:Nat):Int),rdr P (pb (v:Int) m++R),())=some ((v:Int),rdr (P++pb (v:Int) m) R,())
 |0,P,R,_,_,_=>by
  grind[a0E,a4d,pb]
 |m+1,P,R,hm,hok,hlen=>by
  have l:decide (((n-(m+1):Nat):Int)<(n:Int))=true:=by grind
  have a:a1y (rdr P (pb (v:Int) (m+1)++R),(P.length:Int))=some (a6K v m,rdr P (pb (v:Int) (m+1)++R)):=by
   have:=c1x hok hlen (i:=P.length) (by simp[pb]) ((P.length:Int),(0:Int),())
   rw[show(P++(pb (v:Int) (m+1)++R)).getD P.length 0=a6K v m from by simp_all[pb]]at this;exact this
  have g:=c7B (v:=v) (by omega) (i:=m) (by omega);have b:v / 2^m%2<2:=a43 _ (by simp);have f:v / 2^(m+1)=v / 2^m / 2:=by grind[Nat.div_div_eq_div_mul]
  have p:v / 2^m≤v:=a34 _ _;have d:A0j .u64 ((v / 2^(m+1):Nat):Int) 1=((v / 2^(m+1)*2^1:Nat):Int):=b2t (o:=1) (by omega) (by omega);have h:bits .u64 .or ((v / 2^(m+1)*2^1:Nat):Int) (wrap .u64 (a6K (v:Int) m))=((v / 2^m:Nat):Int):=by
   rw[g,a0K (by omega),orU (by omega) b (by omega),f];omega
  have e:wrap .i64 (((n-(m+1):Nat):Int)+1)=((n-m:Nat):Int):=by grind[a0C]
  have j:wrap .i64 ((P.length:Int)+1)=(((P++[a6K v m]).length:Nat):Int):=by
   grind[a0C]
  have k:P++(pb (v:Int) (m+1)++R)=(P++[a6K v m])++(pb (v:Int) m++R):=by simp[pb]
  have c:((rdr P (pb (v:Int) (m+1)++R)).1,(((P++[a6K v m]).length:Nat):Int),(rdr P (pb (v:Int) (m+1)++R)).2.2)=rdr (P++[a6K v m]) (pb (v:Int) m++R):=by
   unfold rdr;simp_all
  rw[a0F (s':=(((v / 2^m:Nat):Int),(n:Int),((n-m:Nat):Int),rdr (P++[a6K v m]) (pb (v:Int) m++R),())) (by
   simp only[a4d,l,cT];rw[show(rdr P (pb (v:Int) (m+1)++R)).2.1=(P.length:Int)from rfl,a];simp only[oB,d,h,e];rw[show(rdr P (pb (v:Int) (m+1)++R)).2.1=(P.length:Int)from rfl,j,c])]
  rw[c3Q hv q m _ _ (by omega) (by simp_all) (by simp_all)];simp[pb]
theorem c7C{n:Nat}(a:n≤62)(hv:v<2^n)(g:a1v (P++(pb (v:Int) n++R)))(k:(P++(pb (v:Int) n++R)).length<200000000):
  a0H (rdr P (pb (v:Int) n++R),(n:Int))=some ((v:Int),rdr (P++pb (v:Int) n) R):=by
 have h:v<9223372036854775808:=Nat.lt_of_lt_of_le hv (Nat.le_trans (a09 (by simp) a) (by simp));have f:=c3Q h a n P R (by omega) g (by omega);rw[a65 hv,a81]at f;simp at f;obtain⟨-,e⟩:=a5K (P++(pb (v:Int) n++R));have j:=b4v (v:Int) n;have i:(P++(pb (v:Int) n++R)).length=P.length+n+R.length:=by grind
 have e8:wrap .i64 ((8:Int)*(((wL (P++(pb (v:Int) n++R))).1.length:Nat):Int))=(8:Int)*(((wL (P++(pb (v:Int) n++R))).1.length:Nat):Int):=a0C (by omega);have d:wrap .i64 ((8:Int)*(((wL (P++(pb (v:Int) n++R))).1.length:Nat):Int)-(P.length:Int))=(8:Int)*(((wL (P++(pb (v:Int) n++R))).1.length:Nat):Int)-(P.length:Int):=a0C (by omega);have b:decide ((n:Int)<0)=false:=by simp
 have c:decide ((n:Int) > 64)=false:=by grind
 have l:decide ((n:Int) > (8:Int)*(((wL (P++(pb (v:Int) n++R))).1.length:Nat):Int)-(P.length:Int))=false:=by
  grind
 unfold a0H a2A;rw[show(rdr P (pb (v:Int) n++R)).2.2.1=0 from rfl];simp only[bne_self_eq_false,cF,b,c,oB];rw[show(rdr P (pb (v:Int) n++R)).1=(wL (P++(pb (v:Int) n++R))).1 from rfl,show(rdr P (pb (v:Int) n++R)).2.1=(P.length:Int)from rfl,e8,d]
 grind
def b5d(n:Nat)(x:Int):Prop:=-((2^n:Nat):Int)≤2*x∧2*x<((2^n:Nat):Int)
theorem c2a{n:Nat}(f:n≤62)(x:Int):∃v:Nat,a0X x n=(v:Int)∧v<2^n∧(v:Int)=x%((2^n:Nat):Int):=by
 have k:wrap .u64 x=x%18446744073709551616:=by rfl
 obtain⟨y,h⟩:∃y:Nat,x%18446744073709551616=(y:Int):=a01 (Int.emod_nonneg _ (by simp));have g:y<18446744073709551616:=by omega
 refine⟨y%2^n,?_,a43 _ (a18 n),?_⟩;simp_all[a0X,c3s];rw[Int.natCast_emod,←h];refine Int.emod_emod_of_dvd x ?_
 have:(2:Nat)^n ∣ 2^64:=a55 2 (by omega)
 exact a21.2 this
theorem c7D{n:Nat}(q:n≤62)(t:b5d n x)(c:a1v (P++(pb (a0X x n) n++R)))(g:(P++(pb (a0X x n) n++R)).length<200000000):
  a1b (rdr P (pb (a0X x n) n++R),(n:Int))=some (x,rdr (P++pb (a0X x n) n) R):=by
 obtain⟨v,hv,b,f⟩:=c2a q x;rw[hv]at c g⊢;have a:=c7C q b c g;obtain⟨i,j⟩:=t;have A:=a18 n;have o:(v:Int)=x∧0≤x∨(v:Int)=x+((2^n:Nat):Int)∧x<0:=by
  by_cases h0:0≤x
  exact .inl ⟨by rw[f];exact a88 h0 (by omega),h0⟩;refine .inr ⟨?_,by omega⟩;rw[f,←Int.add_emod_right];exact a88 (by omega) (by omega)
 unfold a1b;simp[a];rw[show(rdr (P++pb (v:Int) n) R).2.2.1=0 from rfl]
 simp
 cases n with
 |zero=>
  grind
 |succ k=>
  have l:(((k+1:Nat):Int)==0)=false:=by rfl
  have s:wrap .i64 ((64:Int)-((k+1:Nat):Int))=((64-(k+1):Nat):Int):=by grind[a0C]
  have r:decide (((64-(k+1):Nat):Int)<0)=false:=by simp
  simp only[l,cF,s,r];have p:64-(k+1)+(k+1)=64:=by omega
  generalize 64-(k+1)=m at p⊢;have u:2^m*2^(k+1)=18446744073709551616:=by rw[←Nat.pow_add,p]
  have d:((2^m:Nat):Int)*((2^(k+1):Nat):Int)=18446744073709551616:=by omega
  have hp:=a18 m;have w:A0j .u64 (v:Int) (m:Int)=(v:Int)*((2^m:Nat):Int):=by
   show wrap .u64 ((v:Int)*2^(min (m:Int).toNat 64))=_;rw[tN,a69 (by omega)];have e:(2:Int)^m=((2^m:Nat):Int):=by simp
   rw[e];refine a0K ⟨a50 (by omega) (by omega),?_⟩
   have:v*2^m<2^(k+1)*2^m:=Nat.mul_lt_mul_of_pos_right b hp
   grind
  have y:-9223372036854775808≤x*((2^m:Nat):Int):=by
   have:=Int.mul_le_mul_of_nonneg_right i (show(0:Int)≤((2^m:Nat):Int)by omega)
   grind
  have z:x*((2^m:Nat):Int)<9223372036854775808:=by
   have:=Int.mul_lt_mul_of_pos_right j (show(0:Int)<((2^m:Nat):Int)by omega)
   grind
  have C:wrap .i64 ((v:Int)*((2^m:Nat):Int))=x*((2^m:Nat):Int):=by
   rcases o with⟨h,-⟩|⟨h,-⟩
   grind[a0C]
   rw[h,Int.add_mul,Int.mul_comm ((2^(k+1):Nat):Int),d]
   grind[wrap,IntKind.bits,IntKind.signed]
  have B:A0k .i64 (x*((2^m:Nat):Int)) (m:Int)=x:=by
   show a77 (x*((2^m:Nat):Int)) (2^(min (m:Int).toNat 64))=x;rw[tN,a69 (by omega)]
   grind[Int.mul_ediv_cancel]
  simp_all
theorem c6G(P:List Int)(n:Nat)(R:List Int){c:Nat}(h:c<n):(P++(a00 n 0++1::R)).getD (P.length+c) 0=0:=by
 grind
theorem c8W(P:List Int)(n:Nat)(R:List Int):(P++(a00 n 0++1::R)).getD (P.length+n) 0=1:=by
 simp
theorem c7E{n lm:Nat}(x:n≤lm)(t:lm<1000000)(o:a1v (P++(a00 n 0++1::R)))(p:(P++(a00 n 0++1::R)).length<200000000):
  a3d (rdr P (a00 n 0++1::R),(lm:Int))=some ((n:Int),rdr (P++(a00 n 0++[1])) R):=by
 obtain⟨-,r⟩:=a5K (P++(a00 n 0++1::R));have s:(P++(a00 n 0++1::R)).length=P.length+n+1+R.length:=by grind
 have e8:wrap .i64 ((8:Int)*(((wL (P++(a00 n 0++1::R))).1.length:Nat):Int))=(8:Int)*(((wL (P++(a00 n 0++1::R))).1.length:Nat):Int):=a0C (by omega);have g:∀c,c≤n→a1y (rdr P (a00 n 0++1::R),((P.length:Int)+(c:Int)))=some (if c=n then 1 else 0,rdr P (a00 n 0++1::R)):=fun c l=>by
  have:=c1x o (by omega) (i:=P.length+c) (by omega) ((P.length:Int),(0:Int),())
  rw[b02]at this;refine this.trans ?_
  by_cases e:c=n
  subst e;rw[c8W,if_pos rfl];rfl;rw[c6G P n R (by omega),if_neg e];rfl
 have h:∀c:Nat,c≤n→(((P.length:Int)+(c:Int))==(8:Int)*(((wL (P++(a00 n 0++1::R))).1.length:Nat):Int))=false:=fun c l=>by
  grind
 have j:wrap .i64 ((P.length:Int)+(n:Int)+1)=(((P++(a00 n 0++[1])).length:Nat):Int):=by
  rw[a0C (by omega)];grind
 have a:P++(a00 n 0++1::R)=(P++(a00 n 0++[1]))++R:=by simp
 have v:((rdr P (a00 n 0++1::R)).1,(((P++(a00 n 0++[1])).length:Nat):Int),(rdr P (a00 n 0++1::R)).2.2)=rdr (P++(a00 n 0++[1])) R:=by
  unfold rdr;simp
 have k:(rdr P (a00 n 0++1::R)).1=(wL (P++(a00 n 0++1::R))).1:=rfl;have m:=a1B (f:=a3n) (fun c:Nat=>((lm:Int),(c:Int),(P.length:Int)+(c:Int),rdr P (a00 n 0++1::R),())) n (b:=((n:Int),rdr (P++(a00 n 0++[1])) R,()))
  (fun c l=>by
   have d:((0:Int)==1)=false:=rfl;have q:(((c:Nat):Int)==(lm:Int))=false:=by grind
   have w:wrap .i64 ((c:Int)+1)=((c+1:Nat):Int):=a0B (by omega);have w2:wrap .i64 ((P.length:Int)+(c:Int)+1)=(P.length:Int)+((c+1:Nat):Int):=by rw[a0C (by omega)];rfl
   simp only[a3n,k,e8,h c (by omega),cF,g c (by omega),oB,if_neg (Nat.ne_of_lt l),d,q,w,w2])
  (by
   have d:((1:Int)==1)=true:=rfl;simp only[a3n,k,e8,h n (a23 _),cF,g n (a23 _),oB,if_pos rfl,d,cT,j]
   grind)
 unfold a3d;rw[show(rdr P (a00 n 0++1::R)).2.2.1=0 from rfl,show(rdr P (a00 n 0++1::R)).2.1=(P.length:Int)from rfl];have u:v0n (lm:Int) 0=(lm:Int):=by
  rfl
 grind
def OkR(P R:List Int):Prop:=a1v (P++R)∧(P++R).length<200000000
theorem OkR.shift{A:List Int}(h:OkR P (A++R)):OkR (P++A) R:=by
 unfold OkR at h⊢;simp_all
theorem a3w{n:Nat}(g:n≤62)(hv:v<2^n)(h:OkR P (pb (v:Int) n++R)):a0H (rdr P (pb (v:Int) n++R),(n:Int))=some ((v:Int),rdr (P++pb (v:Int) n) R):=c7C g hv h.1 h.2
theorem a9K{n:Nat}(f:n≤62)(g:b5d n x)(h:OkR P (pb (a0X x n) n++R)):a1b (rdr P (pb (a0X x n) n++R),(n:Int))=some (x,rdr (P++pb (a0X x n) n) R):=c7D f g h.1 h.2
def unB(n:Nat):List Int:=a00 n 0++[1]
theorem c3R{n lm:Nat}(f:n≤lm)(g:lm<1000000)(h:OkR P (unB n++R)):a3d (rdr P (unB n++R),(lm:Int))=some ((n:Int),rdr (P++unB n) R):=by
 have e:unB n++R=a00 n 0++1::R:=by simp[unB]
 rw[e]at h⊢;exact c7E f g h.1 h.2
theorem a4O{v n:Nat}(h:n≤63)(hv:v<2^n)(L:List Int):a0O (v:Int) n L=L++pb (v:Int) n:=by
 grind[a0O,a6u,a65]
def a9y(k:Nat)(x:Int):List Int:=
 if a0R x / 2^k<32 then unB (a0R x / 2^k)++pb ((a0R x%2^k:Nat):Int) k else unB 32++pb ((a0R x:Nat):Int) 32
theorem c7F{k:Nat}(f:k≤25)(g:a0A x=true)(L:List Int):a6L k x L=L++a9y k x:=by
 have h:=a9D g;unfold a6L a9y;split;rw[a4O (by omega) (a43 _ (a18 k))];simp[unL,unB]
 grind[a4O,unL,unB]
theorem c7G(f:a0A x=true):a7d ((a0R x:Nat):Int)=some x:=by
 have b:=a9D f;have d:=a1H.1 f;have c:a29 ((a0R x:Nat):Int) 2=((a0R x:Nat):Int)%2:=a45 (by omega);have a:a47 ((a0R x:Nat):Int) 2=((a0R x:Nat):Int) / 2:=a58 (by omega);have k:decide (((a0R x:Nat):Int)≥2147483648)=false:=by grind
 unfold a7d;simp only[k,cF,c,a]
 by_cases h0:0≤x
 have e:((a0R x:Nat):Int)=2*x:=by unfold a0R;grind
 rw[e];have h:((2*x)%2==(0:Int))=true:=by simp
 have g:2*x / 2=x:=by omega
 simp only[h,cT,g]
 grind[a0K,a0C]
 have e:((a0R x:Nat):Int)=-2*x-1:=by unfold a0R;grind
 rw[e];have h:((-2*x-1)%2==(0:Int))=false:=by grind
 have g:(-2*x-1) / 2=-x-1:=by omega
 simp only[h,cF,g]
 grind[a0K,a0C]
theorem c4U{k:Nat}(r:k≤25)(c:a0A x=true)(h:OkR P (a9y k x++R)):b2Y (rdr P (a9y k x++R),(k:Int))=some (x,(0:Int),rdr (P++a9y k x) R):=by
 have m:=a9D c;have b:=c7G c;unfold b2Y a0N;unfold a9y at h⊢;have s:∀A B:List Int,(rdr A B).2.2.1=0:=fun _ _=>rfl;split;rename_i g;rw[if_pos g,aA]at h;have j:=c3R (n:=a0R x / 2^k) (lm:=32) (by omega) (by omega) h;have l:=a3w (n:=k) (v:=a0R x%2^k) (by omega) (a43 _ (a18 k)) h.shift;have i:wrap .u64 ((a0R x / 2^k:Nat):Int)=((a0R x / 2^k:Nat):Int):=a3v (by omega);have d:decide (((a0R x / 2^k:Nat):Int)<32)=true:=by grind
 have e:decide ((k:Int)<0)=false:=by simp
 have f:a0R x / 2^k*2^k≤a0R x:=a75 _ _;have o:A0j .u64 ((a0R x / 2^k:Nat):Int) (k:Int)=((a0R x / 2^k*2^k:Nat):Int):=b2t (by omega) (by omega);have a:wrap .u64 (((a0R x / 2^k*2^k:Nat):Int)+((a0R x%2^k:Nat):Int))=((a0R x:Nat):Int):=by
  rw[←b02,Nat.div_add_mod',a0K (by omega)]
 grind
 rename_i g;rw[if_neg g,aA]at h;have j:=c3R (n:=32) (lm:=32) (by omega) (by omega) h;have l:=a3w (n:=32) (v:=a0R x) (by omega) (by omega) h.shift;have i:wrap .u64 (32:Int)=32:=a0K (by omega);have d:decide ((32:Int)<32)=false:=by simp
 have e:decide ((k:Int)<0)=false:=by simp
 have q:decide (((a0R x:Nat):Int)≥2147483648)=false:=by grind
 have p:A0k .u64 ((a0R x:Nat):Int) (k:Int)=((a0R x / 2^k:Nat):Int):=a6u (by omega)
 grind
def a3x(k:Nat)(l:List Int):List Int:=l.flatMap (a9y k)
theorem c0C{k:Nat}(g:k≤25):∀(l L:List Int),l.all a0A=true→a4M k l L=L++a3x k l
 | [],L,_=>by simp[a4M,a3x]
 |x::l,L,h=>by
  simp only[a06,bA]at h;show a4M k l (a6L k x L)=_;rw[c0C g l _ h.2,c7F g h.1];simp[a3x]
theorem b6N{k:Nat}(g:k≤25){N:Nat}(f:N<1000000):∀(l done P R:List Int),l.all a0A=true→done.length+l.length=N→OkR P (a3x k l++R)→
  y0o a9t ((k:Int),(N:Int),(done.length:Int),done,rdr P (a3x k l++R),())=some (Sum.inl (done++l,rdr (P++a3x k l) R,()))
 | [],done,P,R,_,hl,_=>by
  have:done.length=N:=by omega
  subst this;have d:decide ((done.length:Int)<(done.length:Int))=false:=by simp
  simp_all[a0E,a9t,a3x]
 |x::l,done,P,R,h,hl,hok=>by
  simp only[a06,bA]at h;rw[lC]at hl;have e:a3x k (x::l)++R=a9y k x++(a3x k l++R):=by simp[a3x]
  rw[e]at hok⊢;have d:decide ((done.length:Int)<(N:Int))=true:=by grind
  have b:=c4U g h.1 hok;have a:lim (a39 done+1)=true:=a0V (by omega);have c:wrap .i64 ((done.length:Int)+1)=(((done++[x]).length:Nat):Int):=by grind[a0C]
  rw[a0F (s':=((k:Int),(N:Int),(((done++[x]).length:Nat):Int),done++[x],rdr (P++a9y k x) (a3x k l++R),())) (by
   simp_all[a9t])]
  rw[b6N g f l (done++[x]) (P++a9y k x) R h.2 (by grind) hok.shift];simp[a3x]
theorem c4V{k:Nat}(a:k≤25)(h:l.all a0A=true)(b:l.length<1000000)(f:OkR P (a3x k l++R)):
  b2Z (rdr P (a3x k l++R),(k:Int),((l.length:Nat):Int))=some (l,(0:Int),rdr (P++a3x k l) R):=by
 have hp:a1P (k:Int)=some true:=by
  grind[a1P]
 have c:decide (((l.length:Nat):Int)<0)=false:=by simp
 have d:decide (((l.length:Nat):Int) > 4194304)=false:=by grind
 have e:∀A B:List Int,(rdr A B).2.2.1=0:=fun _ _=>rfl;have g:=b6N a b l [] P R h (by simp) f;simp at g;unfold b2Z a0N
 grind
theorem c8X(h:inW x v=true):b5d v x:=by
 have hp:=a18 v;rcases b7K.1 h with rfl|⟨g,-,f,k⟩;exact⟨by omega,by omega⟩;have e:2^v=2^(v-1)*2:=by rw[←a84];simp_all
 unfold b5d;omega
theorem b6j(h:l.all a0A=true):∀x∈l,b5d (a0I l) x:=fun x g=>c8X (c3O h x g)
def sB(n:Nat)(l:List Int):List Int:=l.flatMap fun x=>pb (a0X x n) n
theorem a9L{n:Nat}(g:n≤62):∀(l L:List Int),a1C n l L=L++sB n l
 | [],L=>by simp[a1C,sB]
 |x::l,L=>by
  show a1C n l (a0O (a0X x n) n L)=_;obtain⟨v,hv,h,-⟩:=c2a g x;rw[a9L g l,hv,a4O (by omega) h,←hv];simp[sB]
theorem c1y(n:Nat)(x:Int)(l R:List Int):sB n (x::l)++R=pb (a0X x n) n++(sB n l++R):=by simp[sB]
theorem b5F{k:Int}{n:Nat}(g:n≤62){N:Nat}(f:N<1000000):∀(l done P R:List Int),(∀x∈l,b5d n x)→done.length+l.length=N→OkR P (sB n l++R)→
  y0o a8B (k,(n:Int),(N:Int),(done.length:Int),done,rdr P (sB n l++R),())=some (k,(n:Int),done++l,rdr (P++sB n l) R,())
 | [],done,P,R,_,hl,_=>by
  have:done.length=N:=by omega
  subst this;have d:decide ((done.length:Int)<(done.length:Int))=false:=by simp
  simp_all[a0E,a8B,sB]
 |x::l,done,P,R,h,hl,hok=>by
  rw[lC]at hl;rw[c1y]at hok⊢;have d:decide ((done.length:Int)<(N:Int))=true:=by grind
  have b:=a9K g (h x (by simp)) hok;have a:lim (a39 done+1)=true:=a0V (by omega);have c:wrap .i64 ((done.length:Int)+1)=(((done++[x]).length:Nat):Int):=by grind[a0C]
  rw[a0F (s':=(k,(n:Int),(N:Int),(((done++[x]).length:Nat):Int),done++[x],rdr (P++pb (a0X x n) n) (sB n l++R),())) (by
   simp_all[a8B])]
  rw[b5F g f l (done++[x]) _ R (fun y e=>h y (by grind)) (by grind) hok.shift];simp[sB]
def b1a(k:Int)(part:List Int):List Int:=if k=31 then pb 31 5++(pb ((a0I part:Nat):Int) 5++sB (a0I part) part)else pb k 5++a3x k.toNat part
theorem c7H(h:kB k=true)(g:part.all a0A=true)(L:List Int):a9w k part L=L++b1a k part:=by
 have f:=a1U g;simp[kB]at h;obtain⟨K,rfl⟩:=a01 (show 0≤k by omega)
 grind[a9w,b1a,a3v,a4O,a9L,c0C]
theorem c3S(o:kB k=true)(c:part.all a0A=true)(b:part.length<1000000)(h:OkR P (b1a k part++R)):
  b1Y (rdr P (b1a k part++R),((part.length:Nat):Int))=some (k,part,(0:Int),rdr (P++b1a k part) R):=by
 have p:=a1U c;have e:∀A B:List Int,(rdr A B).2.2.1=0:=fun _ _=>rfl;simp[kB]at o;obtain⟨K,rfl⟩:=a01 (show 0≤k by omega);unfold b1Y a0N;unfold b1a at h⊢;split;rename_i f;rw[if_pos f,aA,aA]at h;rw[aA,aA];obtain rfl:K=31:=by omega
 have d:a0H (rdr P (pb 31 5++(pb ((a0I part:Nat):Int) 5++(sB (a0I part) part++R))),(5:Int))=_:=a3w (v:=31) (n:=5) (by omega) (by omega) h;have g:=h.shift;have l:a0H (rdr (P++pb 31 5) (pb ((a0I part:Nat):Int) 5++(sB (a0I part) part++R)),(5:Int))=_:=a3w (v:=a0I part) (n:=5) (by omega) (by omega) g;have a:=b5F (k:=31) (n:=a0I part) (by omega) b part [] _ R (b6j c) (by simp) g.shift;simp only[a19,nZ,a07,a25]at a;have i:wrap .i64 ((31:Nat):Int)=31:=by rfl
 have w2:wrap .i64 ((a0I part:Nat):Int)=((a0I part:Nat):Int):=a0C (by omega);have j:decide ((31:Int)≤25)=false:=by rfl
 have q:((31:Int) != 31)=false:=by rfl
 rw[d];simp only[oB,e,bne_self_eq_false,cF,i,j]
 erw[l]
 simp only[oB,w2]
 erw[a]
 simp only[oB,e,bne_self_eq_false,cF,a2m (show short part from b)]
 simp
 rename_i f;rw[if_neg f,aA]at h;rw[aA];have m:K≤25:=by omega
 have d:a0H (rdr P (pb (K:Int) 5++(a3x ((K:Int).toNat) part++R)),(5:Int))=_:=a3w (v:=K) (n:=5) (by omega) (by omega) h;have r:=c4V m c b h.shift;have i:wrap .i64 (K:Int)=(K:Int):=a0C (by omega);simp_all
def a1N:List Nat→List Int→List Int→List Int
 |z::zs,k::ks,l=>b1a k (l.take z)++a1N zs ks (l.drop z)
 |_,_,_=>[]
theorem c2b(h:l.all a0A=true)(z:Nat):(l.take z).all a0A=true:=lA.2 fun x g=>lA.1 h x (a36 g)
theorem c2c(h:l.all a0A=true)(z:Nat):(l.drop z).all a0A=true:=lA.2 fun x g=>lA.1 h x (a37 g)
theorem c0D:∀(zs:List Nat)(ks l L:List Int),ks.all kB=true→l.all a0A=true→a4N zs ks l L=L++a1N zs ks l
 |z::zs,k::ks,l,L,hk,hw=>by
  simp only[a06,bA]at hk;simp only[a4N,a1N];rw[c0D zs ks _ _ hk.2 (c2c hw z),c7H hk.1 (c2b hw z)]
  simp
 | [],_,_,L,_,_=>by simp[a4N,a1N]
 |_::_,[],_,L,_,_=>by simp[a4N,a1N]
theorem c7I(h:List Nat)(z:Nat)(g:List Nat):(a1n (h++z::g)).getD h.length 0=(z:Int):=by
 simp_all[a1n]
theorem b5G{o:Int}{z0:Prt}:∀(zs:List Nat)(ks l dk acc P R:List Int)(dz:List Nat),ks.length=zs.length→ks.all kB=true→zs.sum=l.length→l.all a0A=true→
  dk.length=dz.length→(dz++zs).length≤256→acc.length+l.length≤10000→OkR P (a1N zs ks l++R)→
  y0o a8C (((a1n (dz++zs)).length:Int),(dz.length:Int),acc,a1n (dz++zs),rdr P (a1N zs ks l++R),z0,(o,dk,()),()) =
   some (Sum.inl (acc++l,z0,(o,dk++ks,()),rdr (P++a1N zs ks l) R,()))
 | [],ks,l,dk,acc,P,R,dz,hk,_,hs,_,_,_,_,_=>by
  obtain rfl:ks=[]:=a40.1 hk;obtain rfl:l=[]:=a40.1 (by simp_all);have d:decide ((dz.length:Int)<((a1n (dz++[])).length:Int))=false:=by simp[a1u]
  rw[a0E (b:=Sum.inl (acc,z0,(o,dk,()),rdr P R,())) (by simp only[a8C,d,cF];rfl)];simp[a1N]
 |z::zs,[],_,_,_,_,_,_,hk,_,_,_,_,_,_,_=>by simp_all
 |z::zs,k::ks,l,dk,acc,P,R,dz,hk,hkb,hs,hw,hd,h256,hacc,hok=>by
  simp only[a06,bA]at hkb;rw[a60]at hs;have p:z≤l.length:=by omega
  have a:(l.take z).length=z:=by simp_all
  have e:a1N (z::zs) (k::ks) l++R=b1a k (l.take z)++(a1N zs ks (l.drop z)++R):=by simp[a1N]
  rw[e]at hok⊢;have j:(a1n (dz++z::zs)).length=dz.length+1+zs.length:=by grind[a1u]
  have d:decide ((dz.length:Int)<((a1n (dz++z::zs)).length:Int))=true:=by grind
  have m:decide ((0:Int)≤(dz.length:Int))=true:=by simp
  have h:=c3S hkb.1 (c2b hw z) (by omega) hok;rw[a]at h;have i:((0:Int) != 0)=false:=rfl;rw[lN,lC]at h256;have g:lim (a39 dk+1)=true:=a0V (by omega);have f:lim (a39 acc+a39 (l.take z))=true:=a0V (by omega);have c:wrap .i64 ((dz.length:Int)+1)=(((dz++[z]).length:Nat):Int):=by grind[a0C]
  have n:dz++z::zs=(dz++[z])++zs:=by simp
  rw[a0F (s':=(((a1n ((dz++[z])++zs)).length:Int),(((dz++[z]).length:Nat):Int),acc++l.take z,a1n ((dz++[z])++zs),rdr (P++b1a k (l.take z)) (a1N zs ks (l.drop z)++R),z0,(o,dk++[k],()),())) (by
   simp only[a8C,d,m,a03,cT,tN,c7I,h,oB,i,cF,g,f,c,a08]
   simp)]
  rw[b5G zs ks (l.drop z) (dk++[k]) (acc++l.take z) _ R (dz++[z]) (by grind) hkb.2 (by grind) (c2c hw z) (by grind) (by grind) (by grind) hok.shift];simp[a1N]
def a6v(p:Prt)(zn:List Nat)(l:List Int):List Int:=pb p.1 4++a1N zn p.2.1 l
theorem c2K(h:PartsOk p n warm l zn)(L:List Int):a4n p zn l L=L++a6v p zn l:=by
 obtain⟨o,ks,u⟩:=p;have g:=h.order;simp only at g;obtain⟨O,rfl⟩:=a01 g.1;unfold a4n a6v;simp only;rw[a3v (by omega),a4O (n:=4) (by omega) (by omega),c0D _ _ _ _ h.all h.wide]
 simp
theorem c3T(h:PartsOk p n warm l zn)(g:OkR P (a6v p zn l++R)):
  b1Z (rdr P (a6v p zn l++R),n,warm)=some (p,l,(0:Int),rdr (P++a6v p zn l) R):=by
 obtain⟨o,ks,u⟩:=p;have c:=h.order;have m:=h.short;have b:=h.len;simp only at c;obtain⟨O,rfl⟩:=a01 c.1;have i:∀A B:List Int,(rdr A B).2.2.1=0:=fun _ _=>rfl;have f:=h.may;unfold a5B at f;simp only[bA,a35,beq_eq_false_iff_ne]at f;have d:=h.sizes;simp only at d;have a:(((a1n zn).length:Int)==0)=false:=by
  grind
 unfold a6v at g⊢;simp only at g⊢;rw[aA]at g⊢;have e:a0H (rdr P (pb (O:Int) 4++(a1N zn ks l++R)),(4:Int))=_:=a3w (v:=O) (n:=4) (by omega) (by omega) g;have j:wrap .i64 (O:Int)=(O:Int):=a0C (by omega);have k:=b5G (o:=(O:Int)) (z0:=((0:Int),([]:List Int),())) zn ks l [] [] _ R [] h.ks h.all h.sum h.wide rfl (by simp_all) (by grind) g.shift;simp only[a19,nZ,a07,a25]at k;unfold b1Z a0N;simp[b3O,h.row];rw[e];simp[i,j,a1Y,d,a];simp_all
def a7h(s:Sub):List Int:=
 pb ((s.2.2.2.2.2.1.length-1:Nat):Int) 5++(pb s.2.2.2.1 4++(pb ((a0I s.2.2.2.2.2.1:Nat):Int) 5++sB (a0I s.2.2.2.2.2.1) s.2.2.2.2.2.1))
theorem c2d{c:List Int}{t:Int}(h:a9C c t=true):1≤c.length∧c.length≤32∧0≤t∧t≤15∧c.all a0A=true:=by
 simp only[a9C,bA,dT]at h;obtain⟨g,f,k,a,b⟩:=h;refine⟨g,f,k,a,lA.2 fun x d=>?_⟩
 have:=lA.1 b x d
 simp[b9D]at this;rw[a1H];omega
theorem c0E{s:Sub}(h:a9C s.2.2.2.2.2.1 s.2.2.2.1=true)(L:List Int):a6q s L=L++a7h s:=by
 obtain⟨a,b,g,d,f⟩:=c2d h;have k:=a1U f;unfold a6q a7h;generalize s.2.2.2.2.2.1=c at *;generalize s.2.2.2.1=t at *;obtain⟨T,rfl⟩:=a01 g
 grind[a0C,a0K,a9L,a4O]
def b6k(s:Sub)(c:List Int):Sub:=(s.1,s.2.1,s.2.2.1,s.2.2.2.1,s.2.2.2.2.1,c,s.2.2.2.2.2.2)
def c1z(s:Sub)(t:Int):Sub:=(s.1,s.2.1,s.2.2.1,t,s.2.2.2.2)
theorem c0F{n:Nat}(g:n≤62){N:Nat}(f:N<1000000)(s:Sub):∀(l done P R:List Int),(∀x∈l,b5d n x)→done.length+l.length=N→OkR P (sB n l++R)→
  y0o a5V ((n:Int),(N:Int),(done.length:Int),rdr P (sB n l++R),b6k s done,())=some ((n:Int),b6k s (done++l),rdr (P++sB n l) R,())
 | [],done,P,R,_,hl,_=>by
  have:done.length=N:=by omega
  subst this;have d:decide ((done.length:Int)<(done.length:Int))=false:=by simp
  simp_all[a0E,a5V,sB]
 |x::l,done,P,R,h,hl,hok=>by
  rw[lC]at hl;rw[c1y]at hok⊢;have d:decide ((done.length:Int)<(N:Int))=true:=by grind
  have a:=a9K g (h x (by simp)) hok;have k:lim (a39 done+1)=true:=a0V (by omega);have b:wrap .i64 ((done.length:Int)+1)=(((done++[x]).length:Nat):Int):=by grind[a0C]
  rw[a0F (s':=((n:Int),(N:Int),(((done++[x]).length:Nat):Int),rdr (P++pb (a0X x n) n) (sB n l++R),b6k s (done++[x]),())) (by
   simp_all[a5V,b6k])]
  rw[c0F g f s l (done++[x]) _ R (fun y c=>h y (by grind)) (by grind) hok.shift];simp[sB]
theorem b8v{s0:Sub}(h:a9C s.2.2.2.2.2.1 s.2.2.2.1=true)(r:s0.2.2.2.2.2.1=[])(g:OkR P (a7h s++R)):
  a8A (rdr P (a7h s++R),s0)=some (true,rdr (P++a7h s) R,b6k (c1z s0 s.2.2.2.1) s.2.2.2.2.2.1):=by
 obtain⟨u,w,l,x,d⟩:=c2d h;have m:=a1U d;unfold a7h at g⊢;generalize s.2.2.2.2.2.1=c at *;generalize s.2.2.2.1=t at *;obtain⟨T,rfl⟩:=a01 l;simp at g⊢;have e:a0H (rdr P (pb ((c.length-1:Nat):Int) 5++(pb (T:Int) 4++(pb ((a0I c:Nat):Int) 5++(sB (a0I c) c++R)))),(5:Int))=_:=a3w (v:=c.length-1) (n:=5) (by omega) (by omega) g;have f:=g.shift;have i:a0H (rdr (P++pb ((c.length-1:Nat):Int) 5) (pb (T:Int) 4++(pb ((a0I c:Nat):Int) 5++(sB (a0I c) c++R))),(4:Int))=_:=a3w (v:=T) (n:=4) (by omega) (by omega) f;have k:=f.shift;have j:a0H (rdr (P++pb ((c.length-1:Nat):Int) 5++pb (T:Int) 4) (pb ((a0I c:Nat):Int) 5++(sB (a0I c) c++R)),(5:Int))=_:=a3w (v:=a0I c) (n:=5) (by omega) (by omega) k;have a:=c0F (n:=a0I c) (by omega) (N:=c.length) (by omega) (c1z s0 (T:Int)) c [] _ R (b6j d) (by simp) k.shift;simp only[a19,nZ,a07,a25]at a;have o:wrap .i64 ((c.length-1:Nat):Int)=((c.length-1:Nat):Int):=a0C (by omega);have w2:wrap .i64 (((c.length-1:Nat):Int)+1)=(c.length:Int):=by grind[a0C]
 have p:wrap .i64 (T:Int)=(T:Int):=a0C (by omega);have q:wrap .i64 ((a0I c:Nat):Int)=((a0I c:Nat):Int):=a0C (by omega);have b:((s0.1,s0.2.1,s0.2.2.1,(T:Int),s0.2.2.2.2):Sub)=b6k (c1z s0 (T:Int)) []:=by
  grind[b6k,c1z]
 unfold a8A;rw[e]
 simp
 rw[i];simp only[oB];rw[j];simp only[oB,o,w2,p,q]
 erw[b,a]
 simp only[oB];rw[show(b6k (c1z s0 (T:Int)) c).2.2.2.2.2.1=c from rfl,a2m (show short c by unfold short;omega)]
 simp
def a7Z(st:List Stg):List Int:=st.flatMap fun g=>pb (g.1-1) 5++pb g.2.1 4
theorem b8w{g:Stg}(h:Ab.stageB g=true):1≤g.1∧g.1≤32∧0≤g.2.1∧g.2.1≤8:=by
 simp_all[Ab.stageB]
theorem b8x:∀(st:List Stg)(L:List Int),st.all Ab.stageB=true→a3h st L=L++a7Z st
 | [],L,_=>by simp[a3h,a7Z]
 |g::st,L,h=>by
  simp only[a06,bA]at h;obtain⟨k,c,f,d⟩:=b8w h.1;show a3h st (a6p g L)=_;rw[b8x st _ h.2];obtain⟨a,b,u⟩:=g;simp only at k c f d;obtain⟨B,rfl⟩:=a01 f;obtain⟨A,e⟩:=a01 (show 0≤a-1 by omega)
  grind[a6p,b3T,a3v,a4O,a7Z]
def a4Z(s:Sub):List Int:=
 if s.1=2 then pb s.2.2.1 3
 else if s.1=3 then a7h s
 else if s.1=4 then pb (s.2.2.2.2.1-1) 10++(sB 8 s.2.2.2.2.2.2.1++a7h s)
 else if s.1=5 then pb ((s.2.2.2.2.2.2.2.1.length:Nat):Int) 2++a7Z s.2.2.2.2.2.2.2.1
 else[]
theorem c2e(h:a3R s.1 s n)(L:List Int):a2t s L=L++a4Z s:=by
 unfold a2t a4Z;rcases h with k|k|⟨k,g,f,-⟩|⟨k,g,-⟩|⟨k,g,-,a⟩|⟨k,g,f⟩
 grind
 grind
 rw[if_pos k,if_pos k]
 grind[a01,a3v,a4O]
 simp_all[c0E];rw[if_neg (by omega),if_neg (by omega),if_pos k,if_neg (by omega),if_neg (by omega),if_pos k,c0E g,a9L (by omega)];simp only[b2b,bA,dT]at a;obtain⟨A,b⟩:=a01 (show 0≤s.2.2.2.2.1-1 by omega)
 grind[b3T,a3v,a4O]
 rw[if_neg (by omega),if_neg (by omega),if_neg (by omega),if_pos k,if_neg (by omega),if_neg (by omega),if_neg (by omega),if_pos k];simp only[a9f,bA,dT]at f
 grind[b8x,a3v,a4O]
def b4C(s:Sub):List Int:=pb s.1 3++(pb s.2.1 5++pb ((a0I s.2.2.2.2.2.2.2.2.1:Nat):Int) 5)
theorem c7J(g:0≤s.1∧s.1≤5)(f:0≤s.2.1∧s.2.1≤30)(h:s.2.2.2.2.2.2.2.2.1.all a0A=true)(L:List Int):b2d s L=L++b4C s:=by
 grind[a01,a1U,b2d,b4C,a3v,a4O]
def a3S(s:Sub):Sub:=(s.1,s.2.1,s.2.2.1,s.2.2.2.1,s.2.2.2.2.1,s.2.2.2.2.2.1,s.2.2.2.2.2.2.1,s.2.2.2.2.2.2.2.1,[],(0,[],()),[],())
theorem b8y{wd N:Nat}{ok:Bool}(m:N<1000)(k w:Int):∀(st done:List Stg)(P R:List Int),st.all Ab.stageB=true→done.length+st.length=N→OkR P (a7Z st++R)→
  y0o a6J ((wd:Int),ok,(N:Int),(done.length:Int),rdr P (a7Z st++R),(k,w,0,0,0,[],[0,0,0],done,[],(0,[],()),[],()),()) =
   some ((wd:Int),ok,(k,w,0,0,0,[],[0,0,0],done++st,[],(0,[],()),[],()),rdr (P++a7Z st) R,())
 | [],done,P,R,_,hl,_=>by
  have:done.length=N:=by omega
  subst this;have d:decide ((done.length:Int)<(done.length:Int))=false:=by simp
  simp_all[a0E,a6J,a7Z]
 |g::st,done,P,R,h,hl,hok=>by
  simp only[a06,bA]at h;rw[lC]at hl;obtain⟨i,j,c,l⟩:=b8w h.1;obtain⟨a,b,u⟩:=g;simp only at i j c l;obtain⟨B,rfl⟩:=a01 c;obtain⟨A,r⟩:=a01 (show 0≤a-1 by omega);obtain rfl:a=(A:Int)+1:=by omega
  have e:a7Z (((A:Int)+1,(B:Int),u)::st)++R=pb (A:Int) 5++(pb (B:Int) 4++(a7Z st++R)):=by simp[a7Z]
  rw[e]at hok⊢;have d:decide ((done.length:Int)<(N:Int))=true:=by grind
  have p:a0H (rdr P (pb (A:Int) 5++(pb (B:Int) 4++(a7Z st++R))),(5:Int))=_:=a3w (v:=A) (n:=5) (by omega) (by omega) hok;have f:=hok.shift;have q:a0H (rdr (P++pb (A:Int) 5) (pb (B:Int) 4++(a7Z st++R)),(4:Int))=_:=a3w (v:=B) (n:=4) (by omega) (by omega) f;have o:lim (a39 done+1)=true:=a0V (by omega);have t:wrap .i64 (A:Int)=(A:Int):=a0C (by omega);have w2:wrap .i64 (B:Int)=(B:Int):=a0C (by omega);have x:wrap .i64 ((A:Int)+1)=(A:Int)+1:=a0C (by omega);have s:wrap .u64 ((done.length:Int)+1)=(((done++[((A:Int)+1,(B:Int),u)]).length:Nat):Int):=by grind[a0K]
  rw[a0F (s':=((wd:Int),ok,(N:Int),(((done++[((A:Int)+1,(B:Int),u)]).length:Nat):Int),rdr (P++pb (A:Int) 5++pb (B:Int) 4) (a7Z st++R),(k,w,0,0,0,[],[0,0,0],done++[((A:Int)+1,(B:Int),u)],[],(0,[],()),[],()),())) (by
    simp_all[a6J])]
  rw[b8y m k w st (done++[((A:Int)+1,(B:Int),u)]) _ R h.2 (by grind) f.shift];simp[a7Z]
theorem c1A(h:b5N x=true):b5d 8 x:=by
 simp[b5N]at h;unfold b5d;omega
theorem c7K{wd:Nat}{w:Int}{a b c:Int}(m:b5N a=true)(hb:b5N b=true)(o:b5N c=true)(f:OkR P (sB 8 [a,b,c]++R)):
  y0o a3g ((wd:Int),(0:Int),rdr P (sB 8 [a,b,c]++R),(k,w,0,0,g,[],[0,0,0],[],[],(0,[],()),[],()),()) =
   some ((wd:Int),rdr (P++sB 8 [a,b,c]) R,(k,w,0,0,g,[],[a,b,c],[],[],(0,[],()),[],()),()):=by
 have e:sB 8 [a,b,c]++R=pb (a0X a 8) 8++(pb (a0X b 8) 8++(pb (a0X c 8) 8++R)):=by rfl
 rw[e]at f⊢;have t:a1b (rdr P (pb (a0X a 8) 8++(pb (a0X b 8) 8++(pb (a0X c 8) 8++R))),(8:Int))=_:=a9K (n:=8) (by omega) (c1A m) f;have h:=f.shift;have u:a1b (rdr (P++pb (a0X a 8) 8) (pb (a0X b 8) 8++(pb (a0X c 8) 8++R)),(8:Int))=_:=a9K (n:=8) (by omega) (c1A hb) h;have d:=h.shift;have v:a1b (rdr (P++pb (a0X a 8) 8++pb (a0X b 8) 8) (pb (a0X c 8) 8++R),(8:Int))=_:=a9K (n:=8) (by omega) (c1A o) d;have x:wrap .i64 ((0:Int)+1)=1:=by rfl
 have y:wrap .i64 ((1:Int)+1)=2:=by rfl
 have w2:wrap .i64 ((2:Int)+1)=3:=by rfl
 have p:decide ((0:Int)<3)=true:=by rfl
 have i:decide ((0:Int)≤0)=true:=by rfl
 have q:decide ((1:Int)<3)=true:=by rfl
 have j:decide ((0:Int)≤1)=true:=by rfl
 have r:decide ((2:Int)<3)=true:=by rfl
 have l:decide ((0:Int)≤2)=true:=by rfl
 have s:decide ((3:Int)<3)=false:=by rfl
 rw[a0F (s':=((wd:Int),(1:Int),rdr (P++pb (a0X a 8) 8) (pb (a0X b 8) 8++(pb (a0X c 8) 8++R)),(k,w,0,0,g,[],[a,0,0],[],[],(0,[],()),[],()),())) (by
  simp_all[a3g])]
 rw[a0F (s':=((wd:Int),(2:Int),rdr (P++pb (a0X a 8) 8++pb (a0X b 8) 8) (pb (a0X c 8) 8++R),(k,w,0,0,g,[],[a,b,0],[],[],(0,[],()),[],()),())) (by
  simp_all[a3g])]
 rw[a0F (s':=((wd:Int),(3:Int),rdr (P++pb (a0X a 8) 8++pb (a0X b 8) 8++pb (a0X c 8) 8) R,(k,w,0,0,g,[],[a,b,c],[],[],(0,[],()),[],()),())) (by
  simp_all[a3g])]
 simp_all[a0E,a3g,sB]
theorem c6H{s:Sub}{n:Int}(hs:a1s s n)(ht:s.2.2.2.2.2.2.1.length=3){P R:List Int}(i:OkR P (b4C s++(a4Z s++R))):
  a9s (rdr P (b4C s++(a4Z s++R)))=some (a3S s,((a0I s.2.2.2.2.2.2.2.2.1:Nat):Int),true,rdr (P++(b4C s++a4Z s)) R):=by
 obtain⟨-,-,hf,ha,I,L,-,-,M,-⟩:=hs;obtain⟨k,w,o,sh,g,c,t,st,a,b,d,u⟩:=s;have hk:=b6h hf;simp only at hk I L M ht;have h0:=a1U M;obtain⟨K,rfl⟩:=a01 hk.1;obtain⟨W,rfl⟩:=a01 I;unfold b4C at i⊢;simp at i⊢;have Y:a0H (rdr P (pb (K:Int) 3++(pb (W:Int) 5++(pb ((a0I a:Nat):Int) 5++(a4Z ((K:Int),(W:Int),o,sh,g,c,t,st,a,b,d,u)++R)))),(3:Int))=_:=a3w (v:=K) (n:=3) (by omega) (by omega) i;have j:=i.shift;have Z:a0H (rdr (P++pb (K:Int) 3) (pb (W:Int) 5++(pb ((a0I a:Nat):Int) 5++(a4Z ((K:Int),(W:Int),o,sh,g,c,t,st,a,b,d,u)++R))),(5:Int))=_:=a3w (v:=W) (n:=5) (by omega) (by omega) j;have l:=j.shift;have g3:a0H (rdr (P++pb (K:Int) 3++pb (W:Int) 5) (pb ((a0I a:Nat):Int) 5++(a4Z ((K:Int),(W:Int),o,sh,g,c,t,st,a,b,d,u)++R)),(5:Int))=_:=a3w (v:=a0I a) (n:=5) (by omega) (by omega) l;have f:=l.shift;have wK:wrap .i64 (K:Int)=(K:Int):=a0C (by omega);have wW:wrap .i64 (W:Int)=(W:Int):=a0C (by omega);have wd:wrap .i64 ((a0I a:Nat):Int)=((a0I a:Nat):Int):=a0C (by omega);unfold a9s;rw[Y];simp only[oB];rw[Z];simp only[oB];rw[g3];simp only[oB,wK,wW,wd];generalize hX:P++pb (K:Int) 3++pb (W:Int) 5++pb ((a0I a:Nat):Int) 5=X at f⊢;have H:∀B:List Int,P++(pb (K:Int) 3++(pb (W:Int) 5++(pb ((a0I a:Nat):Int) 5++B)))=X++B:=fun B=>by grind
 rw[H];obtain⟨a1,D,q,r,E,C⟩:=ha;simp only at a1 D q r E C;clear Y Z g3 i j l hX H;rcases hf with h|h|⟨h,m,G,-⟩|⟨h,m,-⟩|⟨h,m,-,Q⟩|⟨h,m,G⟩
 
 simp only at h;obtain rfl:=a1 (by omega);obtain rfl:=D (by omega);obtain rfl:=q (by omega);obtain rfl:=r (by omega);obtain rfl:=E (by omega);obtain rfl:=C (by omega);rw[h];have hb:a4Z ((0:Int),(W:Int),0,0,0,[],[0,0,0],[],a,b,d,u)=[]:=rfl;rw[hb,a07,a42];rfl;simp only at h;obtain rfl:=a1 (by omega);obtain rfl:=D (by omega);obtain rfl:=q (by omega);obtain rfl:=r (by omega);obtain rfl:=E (by omega);obtain rfl:=C (by omega);rw[h];have hb:a4Z ((1:Int),(W:Int),0,0,0,[],[0,0,0],[],a,b,d,u)=[]:=rfl;rw[hb,a07,a42];rfl;simp only at h m G;obtain rfl:=D (by omega);obtain rfl:=q (by omega);obtain rfl:=r (by omega);obtain rfl:=E (by omega);obtain rfl:=C (by omega);rw[h]at f⊢;obtain⟨O,rfl⟩:=a01 m;have hb:a4Z ((2:Int),(W:Int),(O:Int),0,0,[],[0,0,0],[],a,b,d,u)=pb (O:Int) 3:=rfl;rw[hb]at f⊢;have e:((2:Int)==2)=true:=rfl;have F:a0H (rdr X (pb (O:Int) 3++R),(3:Int))=_:=a3w (v:=O) (n:=3) (by omega) (by omega) f;have wO:wrap .i64 (O:Int)=(O:Int):=a0C (by omega);simp only[e,cT,F,oB,wO];rfl;simp only at h m;obtain rfl:=a1 (by omega);obtain rfl:=q (by omega);obtain rfl:=r (by omega);obtain rfl:=C (by omega);rw[h]at f⊢;have hb:a4Z ((3:Int),(W:Int),0,sh,0,c,[0,0,0],[],a,b,d,u)=a7h ((3:Int),(W:Int),0,sh,0,c,[0,0,0],[],a,b,d,u):=rfl;rw[hb]at f⊢;have T:((3:Int)==2)=false:=rfl;have U:((3:Int)==4)=false:=rfl;have V:((3:Int)==3)=true:=rfl;have F:=b8v (s:=((3:Int),(W:Int),0,sh,0,c,[0,0,0],[],a,b,d,u)) (s0:=((3:Int),(W:Int),0,0,0,[],a00 3 0,[],[],(0,[],()),[],())) m rfl f;simp only[T,V,U,cT,cF,oB]
 erw[F]
 rfl
 ·simp only at h m Q;obtain rfl:=a1 (by omega);obtain rfl:=C (by omega);rw[h]at f⊢;simp only[b2b,bA,dT]at Q;obtain⟨Q,h5,S⟩:=Q;obtain⟨A,hA⟩:=a01 (show 0≤g-1 by omega);obtain rfl:g=(A:Int)+1:=by omega
  obtain⟨x,y,z,rfl⟩:∃x y z,t=[x,y,z]:=by
   match t,ht with
   | [x,y,z],_=>simp
  simp at S;have hb:a4Z ((4:Int),(W:Int),0,sh,(A:Int)+1,c,[x,y,z],[],a,b,d,u)=pb (A:Int) 10++(sB 8 [x,y,z]++a7h ((4:Int),(W:Int),0,sh,(A:Int)+1,c,[x,y,z],[],a,b,d,u)):=by
   show pb ((A:Int)+1-1) 10++_=_
   simp
  rw[hb]at f⊢;simp only[aA]at f⊢;have T:((4:Int)==2)=false:=rfl;have U:((4:Int)==4)=true:=rfl;have F:a0H (rdr X (pb (A:Int) 10++(sB 8 [x,y,z]++(a7h ((4:Int),(W:Int),0,sh,(A:Int)+1,c,[x,y,z],[],a,b,d,u)++R))),(10:Int))=_:=a3w (v:=A) (n:=10) (by omega) (by omega) f;have p:=f.shift;have wA:wrap .i64 (A:Int)=(A:Int):=a0C (by omega);have h4:wrap .i64 ((A:Int)+1)=(A:Int)+1:=a0C (by omega);have g5:=c7K (wd:=a0I a) (k:=4) (w:=(W:Int)) (g:=(A:Int)+1) S.1 S.2.1 S.2.2 p;have g6:=b8v (s:=((4:Int),(W:Int),0,sh,(A:Int)+1,c,[x,y,z],[],a,b,d,u)) (s0:=((4:Int),(W:Int),0,0,(A:Int)+1,[],[x,y,z],[],[],(0,[],()),[],())) m rfl p.shift;simp_all[a3S,b6k,c1z]
 simp only at h m G;obtain rfl:=a1 (by omega);obtain rfl:=D (by omega);obtain rfl:=q (by omega);obtain rfl:=r (by omega);obtain rfl:=E (by omega);rw[h]at f⊢;simp only[a9f,bA,dT]at G;have hb:a4Z ((5:Int),(W:Int),0,0,0,[],[0,0,0],st,a,b,d,u)=pb ((st.length:Nat):Int) 2++a7Z st:=rfl;rw[hb]at f⊢;simp only[aA]at f⊢;have T:((5:Int)==2)=false:=rfl;have U:((5:Int)==4)=false:=rfl;have V:((5:Int)==3)=false:=rfl;have e5:((5:Int)==5)=true:=rfl;have F:a0H (rdr X (pb ((st.length:Nat):Int) 2++(a7Z st++R)),(2:Int))=_:=a3w (v:=st.length) (n:=2) (by omega) (by omega) f;have g5:=b8y (wd:=a0I a) (ok:=true) (N:=st.length) (by omega) (5:Int) (W:Int) st [] _ R G.2 (by simp) f.shift;simp_all[a3S]
def a8a(s:Sub)(zn:List Nat):List Int:=
 (b4C s++a4Z s)++(sB (a0I s.2.2.2.2.2.2.2.2.1) s.2.2.2.2.2.2.2.2.1++if s.1=0∨s.1=1 then[]else a6v s.2.2.2.2.2.2.2.2.2.1 zn s.2.2.2.2.2.2.2.2.2.2.1)
theorem b8z(b:a1s s n)(d:s.1≠0∧s.1≠1→PartsOk s.2.2.2.2.2.2.2.2.2.1 n ((s.2.2.2.2.2.2.2.2.1.length:Nat):Int) s.2.2.2.2.2.2.2.2.2.2.1 zn)(L:List Int):
  a5j s zn L=L++a8a s zn:=by
 obtain⟨-,-,h,-,k,a,-,-,f,-⟩:=b;have c:=a1U f;have g:=c7J (b6h h) ⟨k,a⟩ f L;unfold a5j a8a
 by_cases hk:s.1=0∨s.1=1
 rw[if_pos hk,if_pos hk,a9L (by omega),c2e h,g]
 simp
 rw[if_neg hk,if_neg hk,c2K (d (not_or.1 hk)),a9L (by omega),c2e h,g]
 simp
def a8b(s:Sub)(l:List Int):Sub:=(s.1,s.2.1,s.2.2.1,s.2.2.2.1,s.2.2.2.2.1,s.2.2.2.2.2.1,s.2.2.2.2.2.2.1,s.2.2.2.2.2.2.2.1,l,s.2.2.2.2.2.2.2.2.2)
theorem c2f{wd:Nat}(g:wd≤62){N:Nat}(f:N<1000000)(n:Int)(ok:Bool)(z s:Sub):∀(l done P R:List Int),(∀x∈l,b5d wd x)→done.length+l.length=N→OkR P (sB wd l++R)→
  y0o b0M (n,(wd:Int),ok,(N:Int),(done.length:Int),rdr P (sB wd l++R),z,a8b s done,())=some (n,(wd:Int),ok,rdr (P++sB wd l) R,z,a8b s (done++l),())
 | [],done,P,R,_,hl,_=>by
  have:done.length=N:=by omega
  subst this;have d:decide ((done.length:Int)<(done.length:Int))=false:=by simp
  simp_all[a0E,b0M,sB]
 |x::l,done,P,R,h,hl,hok=>by
  rw[lC]at hl;rw[c1y]at hok⊢;have d:decide ((done.length:Int)<(N:Int))=true:=by grind
  have a:=a9K g (h x (by simp)) hok;have k:lim (a39 done+1)=true:=a0V (by omega);have b:wrap .i64 ((done.length:Int)+1)=(((done++[x]).length:Nat):Int):=by grind[a0C]
  rw[a0F (s':=(n,(wd:Int),ok,(N:Int),(((done++[x]).length:Nat):Int),rdr (P++pb (a0X x wd) wd) (sB wd l++R),z,a8b s (done++[x]),())) (by
   simp_all[b0M,a8b])]
  rw[c2f g f n ok z s l (done++[x]) _ R (fun y c=>h y (by grind)) (by grind) hok.shift];simp[sB]
theorem c6I(h:SmallS s):SmallS (a3S s) where
 coefs:=h.coefs
 taps:=h.taps
 stages:=h.stages
 warm:=by show([]:List Int).length≤5000;simp
 rest:=by show([]:List Int).length≤5000;simp
 ks:=by show([]:List Int).length≤_;simp
theorem d1r(h:SmallS s)(I:(a2j s n).isSome=true)(T:s.1≠0∧s.1≠1→PartsOk s.2.2.2.2.2.2.2.2.2.1 n ((s.2.2.2.2.2.2.2.2.1.length:Nat):Int) s.2.2.2.2.2.2.2.2.2.2.1 zn)(e:OkR P (a8a s zn++R)):b2o (rdr P (a8a s zn++R),n)=some (s,(0:Int),rdr (P++a8a s zn) R):=by
 have K:=b5c I;have d:=@c6H s n K h.taps P;have x:=K;obtain⟨U,V,O,-,-,-,-,S,r,-,v,-⟩:=x;have Q:=a1U r;have y:=h.warm;have L:decide (n<1)=false:=by simp_all
 have M:decide (n > 4096)=false:=by simp_all
 have j:∀A B:List Int,(rdr A B).2.2.1=0:=fun _ _=>rfl;have l:a7L ((a3S s).1,a3S s,n)=some true:=by
  rw[b5u (c6I h)];unfold b3R
  have:a3R (a3S s).1 (a3S s) n:=O
  simp_all
 have i:a4A (a3S s,n)=some ((s.2.2.2.2.2.2.2.2.1.length:Nat):Int):=by
  rw[b2r]
  have:a2l (a3S s) n=a2l s n:=rfl
  simp_all
 have p:=b9J h n;rw[I]at p;have f:a1r s.2.2.2.2.2.2.2.2.1=some ((a0I s.2.2.2.2.2.2.2.2.1:Nat):Int):=a2m (by unfold short;omega);unfold b2o a0N;unfold a8a at e⊢;simp only[aA]at e⊢;have a:OkR (P++(b4C s++a4Z s)) (sB (a0I s.2.2.2.2.2.2.2.2.1) s.2.2.2.2.2.2.2.2.1++((if s.1=0∨s.1=1 then[]else a6v s.2.2.2.2.2.2.2.2.2.1 zn s.2.2.2.2.2.2.2.2.2.2.1)++R)):=OkR.shift (by simp_all)
 have G:=fun(ok:Bool) (z:Sub)=>c2f (wd:=a0I s.2.2.2.2.2.2.2.2.1) (by omega) (N:=s.2.2.2.2.2.2.2.2.1.length) (by omega) n ok z (a3S s) s.2.2.2.2.2.2.2.2.1 [] _ _ (b6j r) (by simp) a;simp only[a19,nZ,a07,a25]at G;simp only[L,M,cF,j,bne_self_eq_false,oB];rw[d e];simp only[j,bne_self_eq_false,cF,oB,l,bT,i];rw[show((a3S s:Sub))=a8b (a3S s) []from rfl]
 erw[G]
 simp only[oB,j,bne_self_eq_false,cF];rw[show(a8b (a3S s) s.2.2.2.2.2.2.2.2.1).1=s.1 from rfl,a6s];simp only[oB]
 by_cases hk:s.1=0∨s.1=1
 have H:decide (s.1≠0∧s.1≠1)=false:=by grind
 have q:a8b (a3S s) s.2.2.2.2.2.2.2.2.1=s:=by
  obtain⟨D,E,F⟩:=v hk;obtain⟨k,w,o,sh,g,c,t,st,wm,⟨X,Y,Z⟩,re,u⟩:=s;simp only at D E F;subst D E F;rfl
 grind
 have H:decide (s.1≠0∧s.1≠1)=true:=by simp_all
 have hp:=T (not_or.1 hk);have b:=a.shift;rw[if_neg hk]at b;have m:=c3T hp b;simp only[H,cT,if_neg hk];rw[show(a8b (a3S s) s.2.2.2.2.2.2.2.2.1).2.2.2.2.2.2.2.2.1=s.2.2.2.2.2.2.2.2.1 from rfl]
 erw[m]
 have C:((0:Int) != 0)=false:=rfl;simp only[oB,C,cF,bT,f,bne_self_eq_false];have q:((a8b (a3S s) s.2.2.2.2.2.2.2.2.1).1,(a8b (a3S s) s.2.2.2.2.2.2.2.2.1).2.1,(a8b (a3S s) s.2.2.2.2.2.2.2.2.1).2.2.1,(a8b (a3S s) s.2.2.2.2.2.2.2.2.1).2.2.2.1,(a8b (a3S s) s.2.2.2.2.2.2.2.2.1).2.2.2.2.1,(a8b (a3S s) s.2.2.2.2.2.2.2.2.1).2.2.2.2.2.1,(a8b (a3S s) s.2.2.2.2.2.2.2.2.1).2.2.2.2.2.2.1,(a8b (a3S s) s.2.2.2.2.2.2.2.2.1).2.2.2.2.2.2.2.1,s.2.2.2.2.2.2.2.2.1,s.2.2.2.2.2.2.2.2.2.1,s.2.2.2.2.2.2.2.2.2.2.1,(a8b (a3S s) s.2.2.2.2.2.2.2.2.1).2.2.2.2.2.2.2.2.2.2.2)=s:=rfl
 grind
theorem d4B(y:Int):bits .u64 .and y 1=y%2:=by
 have h:((a04 64 y) &&& (a04 64 1)).toNat=(y%18446744073709551616).toNat%2:=by
  simp
 show wrap .u64 ((((a04 64 y) &&& (a04 64 1)).toNat:Nat):Int)=_
 grind[a0K]
theorem a2a(v:Int):∀n,a1v (pb v n)
 |0=>fun b hb=>by cases hb
 |n+1=>fun b hb=>by
  rcases mC.1 hb with rfl|hb
  grind[a6K,d4B,a7f]
  exact a2a v n b hb
theorem c5k(n:Nat):a1v (unB n):=fun b hb=>by
 rcases mA.1 hb with hb|hb
 all_goals simp_all
theorem b4D{f:α→List Int}{l:List α}(h:∀x,a1v (f x)):a1v (l.flatMap f):=fun b hb=>by
 obtain⟨x,-,g⟩:=a98.1 hb;exact h x b g
theorem c7L(k:Nat)(x:Int):a1v (a9y k x):=by
 unfold a9y;split;exact(c5k _).app (a2a _ _);exact(c5k _).app (a2a _ _)
theorem b7L(n:Nat)(l:List Int):a1v (sB n l):=b4D fun _=>a2a _ _
theorem c7M(k:Int)(l:List Int):a1v (b1a k l):=by
 unfold b1a;split;exact(a2a _ _).app ((a2a _ _).app (b7L _ _));exact(a2a _ _).app (b4D fun _=>c7L _ _)
theorem b6l:a1v []:=fun b hb=>by grind
theorem c0G:∀(zs:List Nat)(ks l:List Int),a1v (a1N zs ks l)
 |z::zs,k::ks,l=>by
  simp only[a1N];exact(c7M _ _).app (c0G zs ks _)
 | [],_,_=>by simp_all[a1N,b6l]
 |_::_,[],_=>by simp_all[a1N,b6l]
theorem c0H(s:Sub):a1v (a7h s):=(a2a _ _).app ((a2a _ _).app ((a2a _ _).app (b7L _ _)))
theorem c7N(s:Sub):a1v (a4Z s):=by
 unfold a4Z;split;exact a2a _ _;split;exact c0H s;split;exact(a2a _ _).app ((b7L _ _).app (c0H s));split;exact(a2a _ _).app (b4D fun _=>(a2a _ _).app (a2a _ _));exact b6l
theorem c8Y(s:Sub)(h:List Nat):a1v (a8a s h):=by
 refine(((a2a _ _).app ((a2a _ _).app (a2a _ _))).app (c7N s)).app ((b7L _ _).app ?_);split;exact b6l;exact(a2a _ _).app (c0G _ _ _)
theorem c8Z(h:SmallS s)(k:(a2j s n).isSome=true)(j:L.length<50000000):
  ∃g,a9I (wL L,s,n)=some (0,wL (L++a8a s g))∧a4c (s,n)=some (((a8a s g).length:Nat):Int)∧(a8a s g).length≤700000∧
   (s.1≠0∧s.1≠1→PartsOk s.2.2.2.2.2.2.2.2.2.1 n ((s.2.2.2.2.2.2.2.2.1.length:Nat):Int) s.2.2.2.2.2.2.2.2.2.2.1 g):=by
 obtain⟨e,i,a,-,c,d,-⟩:=b5T h (n:=n) (L:=L) (by omega);obtain⟨rfl,g,rfl,f⟩:=d k;have b:=b5c k;rw[b8z b f]at a c;refine⟨g,a,?_,by simp_all,f⟩;rw[c5g h];unfold a4Y;rw[if_pos k,←c1t f,b8z b f]
 simp
theorem d2D(g:L.length<1000000000):b2X (wL L).1=some (rdr [] L):=by
 obtain⟨-,h⟩:=a5K L;unfold b2X;rw[a0V (by omega)];rfl
theorem c9a(h:L.length<1000000000):a4S (wL L)=some ((wL L).1,wL L):=by
 grind[a5K,a4S,a0V]
def a0J(n:Nat):List Int:=if h:n<128 then[(n:Int)]else((n%128+128:Nat):Int)::a0J (n / 128)
termination_by n
decreasing_by omega
theorem b1B{n:Nat}(h:n<128):a0J n=[(n:Int)]:=by rw[a0J,dif_pos h]
theorem b3o{n:Nat}(h:¬ n<128):a0J n=((n%128+128:Nat):Int)::a0J (n / 128):=by rw[a0J,dif_neg h]
theorem b9b:∀(k n:Nat),n<128^(k+1)→1≤(a0J n).length∧(a0J n).length≤k+1
 |0,n,h=>by simp_all[b1B]
 |k+1,n,h=>by
  by_cases hn:n<128
  rw[b1B hn];simp;rw[b3o hn]
  have:=b9b k (n / 128) (by omega)
  simp_all
theorem c0I:∀(k n:Nat),n<128^(k+1)→∀b∈a0J n,0≤b∧b<256
 |0,n,h,b,hb=>by grind[b1B]
 |k+1,n,h,b,hb=>by
  by_cases hn:n<128
  grind[b1B]
  rw[b3o hn]at hb;rcases mC.1 hb with rfl|hb;omega;exact c0I k (n / 128) (by omega) b hb
theorem c5l:∀(k n:Nat)(a:List Int)(b c:Int)(out:List Int),n<128^(k+1)→k≤8→out.length+k<1000000→
  ∃r g,y0o a8n ((n:Int),a,b,c,out,())=some (((r:Nat):Int),a,b,c,out++g,())∧a0J n=g++[(r:Int)]∧r<128
 |k,n,a,b,c,out,h,hk,ho=>by
  by_cases hn:n<128
  refine⟨n,[],?_,by rw[b1B hn];rfl,hn⟩;rw[a0E (b:=((n:Int),a,b,c,out,())) (by
   have d:decide ((n:Int)≥128)=false:=by grind
   simp only[a8n,d,cF])]
  simp
  ·cases k with
   |zero=>omega
   |succ k=>
    have m:n / 128<128^(k+1):=by omega
    have f:n<18446744073709551616:=by
     have:128^(k+1+1)≤128^9:=a09 (by omega) (by omega)
     omega
    obtain⟨r,g,o,j,l⟩:=c5l k (n / 128) a b c (out++[((n%128+128:Nat):Int)]) m (by omega) (by grind);refine⟨r,((n%128+128:Nat):Int)::g,?_,by rw[b3o hn,j];rfl,l⟩;have d:decide ((n:Int)≥128)=true:=by grind
    have e:wrap .u64 (a47 (n:Int) 128)=((n / 128:Nat):Int):=by
     rw[show a47 (n:Int) 128=((n / 128:Nat):Int)from rfl];exact a0K (by omega)
    have i:wrap .u8 (wrap .u8 (a29 (n:Int) 128)+128)=((n%128+128:Nat):Int):=by
     rw[show a29 (n:Int) 128=((n%128:Nat):Int)from rfl,a7f,a7f];omega
    rw[a0F (s':=(((n / 128:Nat):Int),a,b,c,out++[((n%128+128:Nat):Int)],())) (by
     simp only[a8n,d,cT,a0V (show out.length+1<2147483648 by omega),e,i,a08])]
    simp_all
theorem b3Z{α β γ:Type}(f:α→List γ):∀(l:List α)(a:List γ),a2K (β:=β) (fun a x=>.inl (a++f x)) l a=.inl (a++l.flatMap f)
 | [],a=>by simp[a2K]
 |x::l,a=>by simp only[a2K];rw[b3Z f l];simp
def asI(ns:List Nat):List Int:=ns.map fun n:Nat=>(n:Int)
theorem b7v{ns:List Nat}(h:∀n∈ns,n<9223372036854775808)(t:ns.length≤1000):a9b (asI ns)=some (ns.flatMap a0J):=by
 have l:(asI ns).length=ns.length:=by simp[asI]
 have:=a1R (f:=a8o) (asI ns) (fun i (a:List Int)=>(asI ns,((asI ns).length:Int),(i:Int),a,())) (fun a x=>.inl (a++a0J x.toNat)) (fun i a=>a.length≤10*i) (fun a=>(a,()))
  (fun i hi a p=>⟨fun q g=>by
   have c:i<ns.length:=by omega
   have m:(asI ns)[i]=((ns[i]:Nat):Int):=by simp[asI]
   have hb:=h ns[i] (a05 c);have k:ns[i]<128^(8+1):=by omega
   obtain⟨r,d,o,j,s⟩:=c5l 8 ns[i] (asI ns) ((asI ns).length:Int) (i:Int) a k (a23 _) (by omega);have hv:=b9b 8 ns[i] k;rw[j]at hv;simp only[lN,lC,a19]at hv;simp[m,j]at g;subst g;have e:wrap .u8 (r:Int)=(r:Int):=by rw[a7f];omega
   refine⟨?_,by grind⟩;simp only[a8o,dlt hi,cT,a0D hi,m,oB,o,a0V (show(a++d).length+1<2147483648 by grind),a0B (show i<1000000 by omega),e,a08,aA],fun b hb=>by grind⟩)
  (fun a p=>by simp_all[a8o]) (a:=[]) (by simp)
 simp_all[a9b,b3Z,a8Q,asI,List.flatMap_map]
theorem orA{k:Nat}(f:a<2^k)(c:b*2^k+a<18446744073709551616):bits .u64 .or (a:Int) ((b*2^k:Nat):Int)=((a+b*2^k:Nat):Int):=by
 show wrap .u64 (((a04 64 (a:Int) ||| a04 64 ((b*2^k:Nat):Int)).toNat:Nat):Int)=_;have g:(a04 64 (a:Int)).toNat=a:=by grind
 have h:(a04 64 ((b*2^k:Nat):Int)).toNat=b*2^k:=by grind[a48]
 grind[a44,a66,a0K]
theorem b8A{rest:List Int}:∀(j m i acc:Nat)(P:List Int),m<128^(j+1)→P.length=i→(i=0∨1≤m)→acc<2^(7*i)→m*2^(7*i)+acc<9223372036854775808→(P++(a0J m++rest)).length<1000000000→
  y0o a5U ((acc:Int),P++(a0J m++rest),((P++(a0J m++rest)).length:Nat),(i:Int),())=some (.inr (((acc+m*2^(7*i):Nat):Int),((i+(a0J m).length:Nat):Int),(0:Int),()))
 |j,m,i,acc,P,hj,hP,hm,ha,hs,hl=>by
  have r:i≤8:=by
   rcases hm with l|h1;omega;apply Classical.byContradiction;intro hi;have y:2^(7*9)≤2^(7*i):=a09 (by omega) (by omega);have z:2^(7*i)≤m*2^(7*i):=Nat.le_mul_of_pos_left _ (by omega);omega
  have t:wrap .i64 ((7:Int)*(i:Int))=((7*i:Nat):Int):=by grind[a0C]
  have v:decide ((((7*i:Nat):Int))<0)=false:=by rfl
  have u:wrap .i64 ((i:Int)+1)=((i+1:Nat):Int):=a0B (by omega);have x:∀c:Nat,c<256→(i=9→False):=fun _ _ h=>by omega
  have n:((i:Int)==9)=false:=by grind
  have g:∀(c:Nat)(b:List Int),c<256→a0J m=(c:Int)::b→(i=0∨c≠0)→
    a5U ((acc:Int),P++(a0J m++rest),((P++(a0J m++rest)).length:Nat),(i:Int),()) =
     bif decide ((c:Int)<128)then some (.inr (Sum.inr (bits .u64 .or (acc:Int) (A0j .u64 (wrap .u64 (a29 (c:Int) 128)) ((7*i:Nat):Int)),((i+1:Nat):Int),(0:Int),())))
     else some (.inl (bits .u64 .or (acc:Int) (A0j .u64 (wrap .u64 (a29 (c:Int) 128)) ((7*i:Nat):Int)),P++(a0J m++rest),((P++(a0J m++rest)).length:Nat),((i+1:Nat):Int),())):=fun c b o hv l=>by
   have k:i<(P++(a0J m++rest)).length:=by simp_all
   have q:m0h (P++(a0J m++rest)) (i:Int)=some (c:Int):=by
    simp_all[a0D]
   have A:(decide ((i:Int) > 0)=true→((c:Int)==0)=false):=fun h=>by
    grind
   simp only[a5U,dlt k,cT,q,oB,n,cF]
   grind
  have f:∀c:Nat,c%128*2^(7*i)+acc<9223372036854775808→bits .u64 .or (acc:Int) (A0j .u64 (wrap .u64 (a29 (c:Int) 128)) ((7*i:Nat):Int))=((acc+c%128*2^(7*i):Nat):Int):=fun c o=>by
   rw[show a29 (c:Int) 128=((c%128:Nat):Int)from rfl,a0K (by omega),b2t (by omega) (by omega)];exact orA ha (by omega)
  by_cases hm128:m<128
  rw[a0E (g m [] (by omega) (b1B hm128) (by omega) |>.trans (by
   have d:decide ((m:Int)<128)=true:=by grind
   simp only[d,cT];rfl))]
  rw[f m (by simp_all[a24]),a24 hm128,b1B hm128];rfl
  ·cases j with
   |zero=>omega
   |succ j=>
    have p:m / 128<128^(j+1):=by omega
    have s:2^(7*(i+1))=128*2^(7*i):=by grind
    have a:m*2^(7*i)=m%128*2^(7*i)+m / 128*2^(7*(i+1)):=by
     grind
    have hb:m%128*2^(7*i)≤127*2^(7*i):=a28 _ (by omega);rw[a0F (g (m%128+128) (a0J (m / 128)) (by omega) (b3o hm128) (by omega) |>.trans (by
     have d:decide (((m%128+128:Nat):Int)<128)=false:=by grind
     simp only[d,cF];rfl))]
    rw[f (m%128+128) (by grind[a89,Nat.mod_mod]),a89,Nat.mod_mod];have e:P++(a0J m++rest)=(P++[((m%128+128:Nat):Int)])++(a0J (m / 128)++rest):=by rw[b3o hm128];simp
    rw[e]at hl⊢;have w:=b8A j (m / 128) (i+1) (acc+m%128*2^(7*i)) (P++[((m%128+128:Nat):Int)]) p (by simp[hP]) (.inr (by omega)) (by omega) (by omega) hl;rw[w,a,b3o hm128];congr 3;omega
    simp;omega
theorem c7O{n:Nat}(h:n<9223372036854775808){rest:List Int}(g:(a0J n++rest).length<1000000000):a8z (a0J n++rest)=some ((n:Int),(((a0J n).length:Nat):Int),(0:Int)):=by
 have:=b8A (rest:=rest) 8 n 0 0 [] (by omega) rfl (.inl rfl) (by simp) (by omega) g
 simp_all[a8z]
def ord(P R:List Int):List Int×(Int×Int×Unit):=(P++R,(P.length:Int),(0:Int),())
theorem a2Q{n:Nat}(c:n<9223372036854775808){most:Int}(e:(n:Int)≤most)(b:(P++(a0J n++R)).length<1000000000):
  a0S (ord P (a0J n++R),most)=some ((n:Int),ord (P++a0J n) R):=by
 have a:b03 (a30 (P.length:Int)) (a90 (P++(a0J n++R)).length (P++(a0J n++R)))=a0J n++R:=by
  grind[tN]
 have k:((0:Int) != 0)=false:=rfl;have g:decide ((0:Int)≤(P.length:Int))=true:=by simp
 have f:decide ((P.length:Int)≤((P++(a0J n++R)).length:Int))=true:=by grind
 have d:decide ((n:Int) > most)=false:=by simp_all
 have h:(a0J n++R).length<1000000000:=by grind
 have i:wrap .i64 ((P.length:Int)+((a0J n).length:Int))=(((P++a0J n).length:Nat):Int):=by
  rw[a0C (by simp at b;omega)];simp
 unfold a0S ord;simp only[k,cF,g,f,a03,cT];rw[a,c7O c h]
 grind
def a8T(g:Int):Nat:=if 0≤g then(2*g).toNat else(-2*g-1).toNat
theorem d2E(h:-100000≤g∧g≤100000):b1O g=some ((a8T g:Nat):Int):=by
 unfold b1O a8T
 by_cases hg:0≤g
 have d:decide (g≥0)=true:=by simp_all
 rw[d,cT,if_pos hg,a0K (n:=g) (by omega),a0K (by omega),a76 (by omega)];have d:decide (g≥0)=false:=by simp_all
 rw[d,cF,if_neg hg,a0C (n:=g+1) (by omega),a0C (by omega),a0K (n:=0-(g+1)) (by omega),a0K (n:=2*(0-(g+1))) (by omega),a0K (by omega),a76 (by omega)]
 grind
theorem c5m(h:-(m:Int)≤g∧g≤(m:Int)):a8T g≤2*m:=by
 grind[a8T]
theorem d2F(h:-100000≤g∧g≤100000):b1X ((a8T g:Nat):Int)=some g:=by
 unfold b1X;have f:a29 ((a8T g:Nat):Int) 2=((a8T g%2:Nat):Int):=rfl;have k:a47 ((a8T g:Nat):Int) 2=((a8T g / 2:Nat):Int):=rfl;rw[f,k];unfold a8T
 by_cases hg:0≤g
 rw[if_pos hg];have d:((((2*g).toNat%2:Nat):Int)==0)=true:=by grind
 rw[d,cT,a0K (by omega),a0C (by omega)]
 grind
 rw[if_neg hg];have d:((((-2*g-1).toNat%2:Nat):Int)==0)=false:=by grind
 rw[d,cF,a0K (by omega),a0C (n:=(((-2*g-1).toNat / 2:Nat):Int)) (by omega),a0C (n:=0-(((-2*g-1).toNat / 2:Nat):Int)) (by omega),a0C (by omega)]
 grind
def e8(s:Int):Int:=bif (A0k .u8 s 7)==(1:Int)then bits .u8 .xor (A0j .u8 s 1) 7 else A0j .u8 s 1
def e16(s:Int):Int:=bif (A0k .u16 s 15)==(1:Int)then bits .u16 .xor (A0j .u16 s 1) 32773 else A0j .u16 s 1
def rep{α:Type}(f:α→α):Nat→α→α
 |0,s=>s
 |n+1,s=>rep f n (f s)
def g8(s c:Int):Int:=rep e8 8 (bits .u8 .xor s c)
def g16(s c:Int):Int:=rep e16 8 (bits .u16 .xor s (A0j .u16 (wrap .u16 c) 8))
theorem c0J(l:List Int)(n i:Int):∀(j k:Nat)(s:Int),k+j=8→y0o b0C (s,l,n,i,(k:Int),())=some (rep e8 j s,l,n,i,())
 |0,k,s,h=>by
  obtain rfl:k=8:=by omega
  rfl
 |j+1,k,s,h=>by
  have d:decide ((k:Int)<8)=true:=by grind
  rw[a0F (s':=(e8 s,l,n,i,((k+1:Nat):Int),())) (by
   simp only[b0C,d,cT,a0B (show k<1000000 by omega),e8]
   grind)]
  exact c0J l n i j (k+1) (e8 s) (by omega)
theorem b7w(l:List Int)(n i:Int):∀(j k:Nat)(s:Int),k+j=8→y0o a8L (s,l,n,i,(k:Int),())=some (rep e16 j s,l,n,i,())
 |0,k,s,h=>by
  obtain rfl:k=8:=by omega
  rfl
 |j+1,k,s,h=>by
  have d:decide ((k:Int)<8)=true:=by grind
  rw[a0F (s':=(e16 s,l,n,i,((k+1:Nat):Int),())) (by
   simp only[a8L,d,cT,a0B (show k<1000000 by omega),e16]
   grind)]
  exact b7w l n i j (k+1) (e16 s) (by omega)
def b6m(l:List Int):Int:=l.foldl g8 0
def a4g(l:List Int):Int:=l.foldl g16 0
theorem c3U(h:short l):a7O l=some (b6m l):=by
 have:=a1R (f:=a7z) (β:=Int×Unit) l (fun i (a:Int)=>(a,l,(l.length:Int),(i:Int),())) (fun a x=>.inl (g8 a x)) (fun _ _=>True) (fun a=>(a,()))
  (fun i hi a _=>⟨fun k g=>by
   simp at g;subst g
   have:=c0J l (l.length:Int) (i:Int) 8 0 (bits .u8 .xor a l[i]) rfl
   simp at this;refine⟨?_,trivial⟩;simp only[a7z,dlt hi,cT,a0D hi,oB,this,a0B (a31 hi h),g8],fun b hb=>by grind⟩)
  (fun a c=>by simp_all[a7z]) (a:=0) trivial
 unfold a7O;simp at this;rw[this,b6g];rfl
theorem c0K(h:short l):a6c l=some (a4g l):=by
 have:=a1R (f:=a5Q) (β:=Int×Unit) l (fun i (a:Int)=>(a,l,(l.length:Int),(i:Int),())) (fun a x=>.inl (g16 a x)) (fun _ _=>True) (fun a=>(a,()))
  (fun i hi a _=>⟨fun k g=>by
   simp at g;subst g
   have:=b7w l (l.length:Int) (i:Int) 8 0 (bits .u16 .xor a (A0j .u16 (wrap .u16 l[i]) 8)) rfl
   simp at this;refine⟨?_,trivial⟩;simp only[a5Q,dlt hi,cT,a0D hi,oB,this,a0B (a31 hi h),g16],fun b hb=>by grind⟩)
  (fun a c=>by simp_all[a5Q]) (a:=0) trivial
 unfold a6c;simp at this;rw[this,b6g];rfl
theorem b3p(n:Int):wrap .u16 n=n%65536:=by rfl
theorem c7P(s:Int):0≤e16 s∧e16 s<65536:=by
 unfold e16;cases (A0k .u16 s 15==1:Bool);simp only[cF,A0j,b3p];omega;simp only[cT,bits,b3p];omega
theorem b8B(l:List Int):0≤a4g l∧a4g l<65536:=by
 unfold a4g;rcases a52 l with rfl|⟨L,b,rfl⟩
 simp
 rw[List.concat_eq_append,List.foldl_append];exact c7P _
theorem d8o{v:Int}(h:0≤v∧v<65536):a4l (v,2)=some [v / 256,v%256]:=by
 have g:wrap .u64 (a47 v 256)=v / 256:=by grind[a0K]
 have f:wrap .u8 (a29 v 256)=v%256:=by simp_all[a45,a7f]
 have k:wrap .u8 (a29 (v / 256) 256)=v / 256:=by grind[a7f]
 have s0:a1Q (v,(2:Int),(0:Int),([]:List Int),())=some (.inl (v / 256,(2:Int),(1:Int),[v%256],())):=by
  simp only[a1Q,show decide ((0:Int)<2)=true from rfl,cT,a0V (show([]:List Int).length+1<2147483648 by simp),g,f];rfl
 have a:a1Q (v / 256,(2:Int),(1:Int),[v%256],())=some (.inl (wrap .u64 (a47 (v / 256) 256),(2:Int),(2:Int),[v%256,v / 256],())):=by
  simp only[a1Q,show decide ((1:Int)<2)=true from rfl,cT,a0V (show([v%256]:List Int).length+1<2147483648 by simp),k];rfl
 have c:a5f (v,2)=some [v%256,v / 256]:=by
  unfold a5f a2S
  simp
  rw[show v0o (v0n (2:Int) 0) 8=2 from rfl,a0F s0,a0F a,a0E (b:=([v%256,v / 256],())) rfl];rfl
 simp_all[a4l,a1O]
@[reducible] def a0L:Type:=Int×(Int×(Int×Unit))
@[reducible] def a1o:Type:=Int×(Int×(a0L×(List a0L×(List Sub×Unit))))
variable {f:a1o}
@[reducible] def a1p:Type:=Int×(List (List Int)×Unit)
def a2u(n:Int)(s:a0L):Bool:=!(decide (s.1<0) || decide (s.1≥n) || decide (s.2.1<0) || decide (s.2.1≥n) || s.1==s.2.1)&&!(decide (s.2.2.1 < -1024) || decide (s.2.2.1 > 1024))
theorem a2T{n:Int}{s:a0L}:a2u n s=true↔0≤s.1∧s.1<n∧0≤s.2.1∧s.2.1<n∧s.1≠s.2.1∧-1024≤s.2.2.1∧s.2.2.1≤1024:=by
 simp only[a2u,bA,a35,a74,decide_eq_false_iff_not,beq_eq_false_iff_ne];omega
def a5b(l:List a0L)(n:Int):Prop:=1≤n∧n≤8∧l.length≤16∧l.all (a2u n)=true
instance (l:List a0L) (n:Int):Decidable (a5b l n):=by unfold a5b;infer_instance
theorem b5e(l:List a0L)(n:Int):a8g (l,n)=some (decide (a5b l n)):=by
 unfold a8g a5b
 by_cases h1:n<1
 grind
 by_cases h2:n > 8
 grind
 by_cases h3:((l.length:Nat):Int) > 16
 grind
 have g:=a2i (f:=a6P) (β:=Unit ⊕ (Bool×Unit)) l (fun i=>(n,l,(l.length:Int),(i:Int),())) (a2u n) (bt:=Sum.inl ()) (bf:=Sum.inr (false,()))
  (fun i h hp=>by
   obtain⟨a1,m,o,p,q,r,s⟩:=a2T.1 hp;have k:decide (l[i].1<0)=false:=by simp_all
   have a:decide (l[i].1≥n)=false:=by simp_all
   have b:decide (l[i].2.1<0)=false:=by simp_all
   have c:decide (l[i].2.1≥n)=false:=by simp_all
   have d:(l[i].1==l[i].2.1)=false:=by simp_all
   have e:decide (l[i].2.2.1 < -1024)=false:=by simp_all
   have j:decide (l[i].2.2.1 > 1024)=false:=by simp_all
   simp only[a6P,dlt h,cT,a0D h,oB,k,a,b,c,d,e,j,cF,a0B (show i<1000000 by omega)])
  (fun i h hp=>by
   simp only[a6P,dlt h,cT,a0D h,oB]
   grind[a2u])
  (by simp[a6P])
 grind
def a3y(f:a0L):Prop:=1≤f.1∧f.1≤1048576∧1≤f.2.1∧f.2.1≤8∧4≤f.2.2.1∧f.2.2.1≤24
instance (f:a0L):Decidable (a3y f):=by unfold a3y;infer_instance
theorem a4y(f:a0L):a1T f=some (decide (a3y f)):=by
 unfold a1T a6O a3y
 grind
def frP(f:a1o):Prop:=a3y f.2.2.1∧1≤f.2.1∧f.2.1≤4096∧0≤f.1∧f.1≤4194304-f.2.1∧a5b f.2.2.2.1 f.2.2.1.2.1
instance (f:a1o):Decidable (frP f):=by unfold frP;infer_instance
theorem b5H(f:a1o):a6Q f=some (decide (frP f)):=by
 unfold a6Q frP;rw[a4y,b5e]
 by_cases h1:a3y f.2.2.1<;>by_cases h2:1≤f.2.1<;>by_cases h3:f.2.1≤4096<;>by_cases h4:0≤f.1<;>simp[h1,h2,h3,h4]
 have h:wrap .i64 ((4194304:Int)-f.2.1)=4194304-f.2.1:=a0C (by omega);rw[h]
 grind
def a7i(s:a0L):List Nat:=[s.1.toNat,s.2.1.toNat,a8T s.2.2.1]
def a5F(s:a0L):List Int:=a0J s.1.toNat++(a0J s.2.1.toNat++a0J (a8T s.2.2.1))
def hb(f:a1o)(body:Nat):List Int:=
 [245,75]++(a0J f.1.toNat++(a0J f.2.1.toNat++(a0J f.2.2.1.1.toNat++(a0J f.2.2.1.2.1.toNat++(a0J f.2.2.1.2.2.1.toNat++(a0J f.2.2.2.1.length++(f.2.2.2.1.flatMap a5F++a0J body)))))))
def a1E(f:a1o)(body:Nat):List Int:=hb f body++[b6m (hb f body)]
theorem a8F{n:Nat}(h:n<9223372036854775808):1≤(a0J n).length∧(a0J n).length≤9:=b9b 8 n (by omega)
theorem c7Q(g:n≤8){s:a0L}(h:a2u n s=true):(a5F s).length≤27:=by
 grind[a2T,a8F,a8T,a5F]
theorem c2g{n:Int}(g:n≤8):∀(l:List a0L),l.all (a2u n)=true→(l.flatMap a5F).length≤27*l.length
 | [],_=>by simp
 |s::l,h=>by
  simp only[a06,bA]at h
  have:=c7Q g h.1
  have:=c2g g l h.2
  simp only[a61,lN,lC];omega
theorem c3V{f:a1o}(g:frP f){body:Nat}(h:body≤1048576):2≤(hb f body).length∧(hb f body).length≤600:=by
 obtain⟨⟨q,r2,k,a,b,c⟩,l1,l2,s1,s2,m1,m2,m3,m4⟩:=g;have d:=a8F (n:=f.1.toNat) (by omega);have e:=a8F (n:=f.2.1.toNat) (by omega);have i:=a8F (n:=f.2.2.1.1.toNat) (by omega);have j:=a8F (n:=f.2.2.1.2.1.toNat) (by omega);have l:=a8F (n:=f.2.2.1.2.2.1.toNat) (by omega);have m:=a8F (n:=f.2.2.2.1.length) (by omega);have o:=a8F (n:=body) (by omega);have p:=c2g m2 _ m4;simp only[hb,lN,lC,a19];omega
theorem c5n:∀l:List a0L,(l.flatMap a7i).length=3*l.length
 | []=>rfl
 |s::l=>by simp only[a61,lN,lC,c5n l];simp only[a7i,lC,a19];omega
theorem c6J(z:frP f){body:Nat}(q:body≤1048576):a7A (f,(body:Int))=some (a1E f body):=by
 have t:=z;obtain⟨⟨N,r2,I,K,L,M⟩,l1,l2,s1,s2,m1,m2,m3,m4⟩:=t;have k:∀s∈f.2.2.2.1,a2u f.2.2.1.2.1 s=true:=fun s v=>lA.1 m4 s v;have h:=a1R (f:=a5o) (β:=Int×(List Int×Unit)) f.2.2.2.1 (fun i (a:List Int)=>((body:Int),f.2.2.2.1,((f.2.2.2.1.length:Nat):Int),(i:Int),a,())) (fun a x=>.inl (a++asI (a7i x))) (fun i a=>a.length=6+3*i) (fun a=>((body:Int),a,()))
  (fun i hi a F=>⟨fun H j=>by
   simp at j;subst j;obtain⟨a1,B,C,D,E,w,y⟩:=a2T.1 (k _ (a05 hi));refine⟨?_,by grind[asI,a7i]⟩;simp only[a5o,dlt hi,cT,a0D hi,oB,d2E (g:=f.2.2.2.1[i].2.2.1) (by omega),a0V (show a.length+3<2147483648 by omega),a0B (show i<1000000 by omega),a08]
   grind[a0K,asI,a7i],fun b hb=>by grind⟩)
  (fun a F=>by simp_all[a5o]) (a:=asI [f.1.toNat,f.2.1.toNat,f.2.2.1.1.toNat,f.2.2.1.2.1.toNat,f.2.2.1.2.2.1.toNat,f.2.2.2.1.length]) (by rfl)
 rw[b3Z]at h;simp[a8Q]at h;have d:([wrap .u64 f.1,wrap .u64 f.2.1,wrap .u64 f.2.2.1.1,wrap .u64 f.2.2.1.2.1,wrap .u64 f.2.2.1.2.2.1,wrap .u64 ((f.2.2.2.1.length:Nat):Int)]:List Int)=asI [f.1.toNat,f.2.1.toNat,f.2.2.1.1.toNat,f.2.2.1.2.1.toNat,f.2.2.1.2.2.1.toNat,f.2.2.2.1.length]:=by
  grind[a0K,asI]
 have o:asI [f.1.toNat,f.2.1.toNat,f.2.2.1.1.toNat,f.2.2.1.2.1.toNat,f.2.2.1.2.2.1.toNat,f.2.2.2.1.length]++f.2.2.2.1.flatMap (fun x=>asI (a7i x))++[((body:Nat):Int)]=asI ([f.1.toNat,f.2.1.toNat,f.2.2.1.1.toNat,f.2.2.1.2.1.toNat,f.2.2.1.2.2.1.toNat,f.2.2.2.1.length]++f.2.2.2.1.flatMap a7i++[body]):=by
  simp_all[asI,List.map_flatMap]
 have u:∀n∈[f.1.toNat,f.2.1.toNat,f.2.2.1.1.toNat,f.2.2.1.2.1.toNat,f.2.2.1.2.2.1.toNat,f.2.2.2.1.length]++f.2.2.2.1.flatMap a7i++[body],n<9223372036854775808:=fun n e=>by
  simp only[mA,mC,a97,or_false,a98]at e;rcases e with(e|⟨s,v,e⟩)|e;omega;obtain⟨a1,B,C,D,E,w,y⟩:=a2T.1 (k _ v)
  have:=c5m (m:=1024) ⟨w,y⟩
  simp[a7i]at e;omega;omega
 have A:=c5n f.2.2.2.1;have p:=b7v u (by grind);have c:(([f.1.toNat,f.2.1.toNat,f.2.2.1.1.toNat,f.2.2.1.2.1.toNat,f.2.2.1.2.2.1.toNat,f.2.2.2.1.length]++f.2.2.2.1.flatMap a7i++[body]).flatMap a0J)=(hb f body).drop 2:=by
  simp only[hb,List.flatMap_append,a61,List.flatMap_nil,a42,aA,List.flatMap_assoc,a51,a07,List.drop_succ_cons,a32];congr 7;exact congrArg (fun g=>List.flatMap g f.2.2.2.1) (funext fun s=>by simp[a5F,a7i])
 have r:[245,75]++(hb f body).drop 2=hb f body:=by rfl
 have G:=c3V z q;unfold a7A;simp only[d];rw[h];simp only[oB,a08];have l:=congrArg a39 o;rw[show(asI ([f.1.toNat,f.2.1.toNat,f.2.2.1.1.toNat,f.2.2.1.2.1.toNat,f.2.2.1.2.2.1.toNat,f.2.2.2.1.length]++f.2.2.2.1.flatMap a7i++[body])).length=7+3*f.2.2.2.1.length from by grind[asI,lC]]at l;rw[lN,a70]at l;rw[a0K (n:=(body:Int)) (by omega),a0V (by omega),cT,o,p];simp only[oB,c,a08,r];rw[a0V (by grind),cT,c3U (show short (hb f body)by unfold short;omega)]
 simp
 rw[a0V (by omega),cT];rfl
def c6K(f:a1o):a1o:=(f.1,f.2.1,f.2.2.1,f.2.2.2.1,[],())
theorem a1A{A:List Int}{k:Nat}(h:(P++(A++R)).length<k):((P++A)++R).length<k:=by rw[aA];exact h
theorem c0L{x:List Int}{ch:Int}(c:ch≤8)(s l:Int)(fm:a0L)(u:List Sub×Unit){N:Nat}(o:N≤16){R:List Int}:∀(rest done:List a0L)(P:List Int),rest.all (a2u ch)=true→done.length+rest.length=N→
  (P++(rest.flatMap a5F++R)).length<1000000000→
  y0o a5z (x,(N:Int),(done.length:Int),(s,l,fm,done,u),ord P (rest.flatMap a5F++R),())=some (x,(s,l,fm,done++rest,u),ord (P++rest.flatMap a5F) R,())
 | [],done,P,_,hl,_=>by
  have e:done.length=N:=by simpa using hl
  rw[e,a0E (b:=(x,(s,l,fm,done,u),ord P R,())) (by simp only[a5z,dge,cF];rfl)]
  simp
 |g::rest,done,P,h,hl,hlen=>by
  simp only[a06,bA]at h;rw[lC]at hl;obtain⟨a1,y,z,A,B,d,i⟩:=a2T.1 h.1;have C:=c5m (m:=1024) ⟨d,i⟩;have j:(g::rest).flatMap a5F++R=a0J g.1.toNat++(a0J g.2.1.toNat++(a0J (a8T g.2.2.1)++(rest.flatMap a5F++R))):=by simp[a5F]
  rw[j]at hlen⊢;have r:=a2Q (n:=g.1.toNat) (most:=7) (by omega) (by omega) hlen;have f:=a1A hlen;have t:=a2Q (n:=g.2.1.toNat) (most:=7) (by omega) (by omega) f;have k:=a1A f;have v:=a2Q (n:=a8T g.2.2.1) (most:=2048) (by omega) (by omega) k;have a:=a1A k;have q:wrap .u64 ((done.length:Int)+1)=(((done++[g]).length:Nat):Int):=by rw[a0K (by omega)];simp
  have w:wrap .i64 ((g.1.toNat:Nat):Int)=g.1:=by rw[a0C (by omega)];omega
  have w2:wrap .i64 ((g.2.1.toNat:Nat):Int)=g.2.1:=by rw[a0C (by omega)];omega
  have p:decide ((done.length:Int)<(N:Int))=true:=by simp;omega
  rw[a0F (s':=(x,(N:Int),(((done++[g]).length:Nat):Int),(s,l,fm,done++[g],u),ord (P++a0J g.1.toNat++a0J g.2.1.toNat++a0J (a8T g.2.2.1)) (rest.flatMap a5F++R),())) (by
   simp only[a5z,p,cT,r,t,v,oB,d2F (g:=g.2.2.1) (by omega),a0V (show done.length+1<2147483648 by omega),w,w2,q,a08])]
  rw[c0L c s l fm u o rest (done++[g]) _ h.2 (by simp;omega) a];simp[a5F]
theorem c6L(p:frP f){body:Nat}(o:body≤1048576)(hl:(a1E f body++R).length<1000000000):
  a7H (a1E f body++R)=some (c6K f,((a1E f body).length:Int),(body:Int),(0:Int)):=by
 have q:=p;obtain⟨⟨r1,r2,c1,c2,d1,d2⟩,l1,l2,s1,s2,m1,m2,m3,m4⟩:=q;have X:=c3V p o

 have d:a1E f body++R=[245,75]++(a0J f.1.toNat++(a0J f.2.1.toNat++(a0J f.2.2.1.1.toNat++(a0J f.2.2.1.2.1.toNat++(a0J f.2.2.1.2.2.1.toNat++(a0J f.2.2.2.1.length++(f.2.2.2.1.flatMap a5F++(a0J body++([b6m (hb f body)]++R))))))))):=by
  simp[a1E,hb]
 generalize hx:a1E f body++R=x at *;have Y:2≤x.length:=by rw[d];simp
 have S:m0h x 0=some 245:=by rw[d];rfl
 have U:m0h x 1=some 75:=by rw[d];rfl
 have k:b03 2 (a90 x.length x)=a0J f.1.toNat++(a0J f.2.1.toNat++(a0J f.2.2.1.1.toNat++(a0J f.2.2.1.2.1.toNat++(a0J f.2.2.1.2.2.1.toNat++(a0J f.2.2.2.1.length++(f.2.2.2.1.flatMap a5F++(a0J body++([b6m (hb f body)]++R)))))))):=by
  rw[a20,d];rfl
 have h:([]++(a0J f.1.toNat++(a0J f.2.1.toNat++(a0J f.2.2.1.1.toNat++(a0J f.2.2.1.2.1.toNat++(a0J f.2.2.1.2.2.1.toNat++(a0J f.2.2.2.1.length++(f.2.2.2.1.flatMap a5F++(a0J body++([b6m (hb f body)]++R))))))))):List Int).length<1000000000:=by
  rw[←k];simp;omega
 have E:=a2Q (n:=f.1.toNat) (most:=4194304) (by omega) (by omega) h;have y:=a1A h;have F:=a2Q (n:=f.2.1.toNat) (most:=4096) (by omega) (by omega) y;have z:=a1A y;have G:=a2Q (n:=f.2.2.1.1.toNat) (most:=1048576) (by omega) (by omega) z;have A:=a1A z;have H:=a2Q (n:=f.2.2.1.2.1.toNat) (most:=8) (by omega) (by omega) A;have B:=a1A A;have I:=a2Q (n:=f.2.2.1.2.2.1.toNat) (most:=24) (by omega) (by omega) B;have C:=a1A B;have K:=a2Q (n:=f.2.2.2.1.length) (most:=16) (by omega) (by omega) C;have D:=a1A C;have a:=c0L (x:=x) m2 f.1 f.2.1 f.2.2.1 ([],()) m3 f.2.2.2.1 [] _ m4 (by simp) D;have V:=a1A D;have i:=a2Q (n:=body) (most:=1048576) (by omega) (by omega) V;simp only[a19,nZ,a07,a25]at E F G H I K i a;have w1:wrap .i64 ((f.1.toNat:Nat):Int)=f.1:=by rw[a0C (by omega)];omega
 have w2:wrap .i64 ((f.2.1.toNat:Nat):Int)=f.2.1:=by rw[a0C (by omega)];omega
 have w3:wrap .i64 ((f.2.2.1.1.toNat:Nat):Int)=f.2.2.1.1:=by rw[a0C (by omega)];omega
 have w4:wrap .i64 ((f.2.2.1.2.1.toNat:Nat):Int)=f.2.2.1.2.1:=by rw[a0C (by omega)];omega
 have w5:wrap .i64 ((f.2.2.1.2.2.1.toNat:Nat):Int)=f.2.2.1.2.2.1:=by rw[a0C (by omega)];omega
 have l:a0J f.1.toNat++a0J f.2.1.toNat++a0J f.2.2.1.1.toNat++a0J f.2.2.1.2.1.toNat++a0J f.2.2.1.2.2.1.toNat++a0J f.2.2.2.1.length++f.2.2.2.1.flatMap a5F++a0J body=(hb f body).drop 2:=by simp[hb]
 rw[l]at i;have u:ord ((hb f body).drop 2) ([b6m (hb f body)]++R)=(x.drop 2,(((hb f body).length-2:Nat):Int),(0:Int),()):=by
  unfold ord;rw[a53,←hx];congr 1;unfold a1E;rw[aA,List.drop_append_of_le_length (by omega)]
 rw[u]at i;have b:wrap .i64 (((x.drop 2).length:Int)-(((hb f body).length-2:Nat):Int))=((1+R.length:Nat):Int):=by
  have:x.length=(hb f body).length+(1+R.length):=by rw[←hx];simp[a1E];omega
  rw[a53,a0C (by omega)];omega
 have m:wrap .i64 ((2:Int)+(((hb f body).length-2:Nat):Int))=(((hb f body).length:Nat):Int):=by rw[a0C (by omega)];omega
 have t:(hb f body).length<x.length:=by rw[←hx];simp[a1E]
 have c:a90 (hb f body).length x=hb f body:=by rw[←hx];simp[a1E]
 have s:m0h x (((hb f body).length:Nat):Int)=some (b6m (hb f body)):=by rw[a0D t];congr 1;subst hx;simp[a1E]
 have Q:decide (((x.length:Nat):Int)<2)=false:=by simp;omega
 have j:decide ((2:Int)≤((x.length:Nat):Int))=true:=by simp;omega
 have L:((245:Int) != 245)=false:=rfl;have M:((75:Int) != 75)=false:=rfl;have e:∀T:List Int,T.length<1000000000→a5J T=some (ord [] T):=fun T d=>by unfold a5J;rw[a0V (by omega)];rfl
 have g:=h;rw[a07]at g;have z0:((0:Int) != 0)=false:=rfl;have N:decide (((1+R.length:Nat):Int)<1)=false:=by simp;omega
 have O:decide ((0:Int)≤(((hb f body).length:Nat):Int))=true:=by simp
 have P:decide ((((hb f body).length:Nat):Int)≤((x.length:Nat):Int))=true:=by simp;omega
 have Z:(b6m (hb f body) != b6m (hb f body))=false:=bne_self_eq_false _;have r:frP (f.1,f.2.1,f.2.2.1,f.2.2.2.1,([]:List Sub),()):=p;have w:wrap .i64 ((((hb f body).length:Nat):Int)+1)=(((a1E f body).length:Nat):Int):=by rw[a0C (by omega)];simp[a1E]
 have v:wrap .i64 ((body:Nat):Int)=(body:Int):=a0C (by omega);unfold a7H;simp only[Q,cF,S,U,oB,L,M,j,cT];rw[k,e _ g];simp only[oB,E,F,G,H,I,K,w1,w2,w3,w4,w5]
 erw[a]
 simp only[oB,i,a3t,z0,cF,a1I,a3Y,b,N,m,O,P,a03,cT,tN,c,c3U (show short (hb f body)by unfold short;omega),s,Z];rw[b5H,decide_eq_true r];simp only[oB,bT,cF,w,v];rfl
@[reducible] def PZ:Type:=Sub×List Nat
def c6M(n:Int)(p:PZ):Prop:=SmallS p.1∧(a2j p.1 n).isSome=true∧(p.1.1≠0∧p.1.1≠1→PartsOk p.1.2.2.2.2.2.2.2.2.2.1 n ((p.1.2.2.2.2.2.2.2.2.1.length:Nat):Int) p.1.2.2.2.2.2.2.2.2.2.2.1 p.2)
def a0M(l:List PZ):List Int:=l.flatMap fun p=>a8a p.1 p.2
theorem c2h(l:List PZ):a1v (a0M l):=b4D fun _=>c8Y _ _
theorem c2i(x:a1o)(all:List Sub)(l:all.length≤8):∀(rest done:List Sub)(L:List Int),done++rest=all→(∀s∈rest,SmallS s∧(a2j s x.2.1).isSome=true)→L.length+700000*rest.length<40000000→
  ∃zs:List PZ,zs.map (·.1)=rest∧(∀p∈zs,c6M x.2.1 p)∧(a0M zs).length≤700000*rest.length∧((∀s∈rest,∃c,a4c (s,x.2.1)=some (c:Int))∧some (((a0M zs).length:Nat):Int)=rest.foldr (fun s a=>a.bind fun a=>(a4c (s,x.2.1)).bind fun c=>some (c+a)) (some 0))∧
   y0o a8p (all,(all.length:Int),(done.length:Int),wL L,x,())=some (.inl (wL (L++a0M zs),x,()))
 | [],done,L,hd,_,_=>by
  have e:done=all:=by simp_all
  subst e;refine⟨[],rfl,by simp,by simp[a0M],⟨by simp,by rfl⟩,?_⟩;simp_all[a0E,a8p,a0M]
 |s::rest,done,L,hd,h,hL=>by
  obtain⟨b,k⟩:=h s (by simp);rw[lC]at hL;obtain⟨f,d,i,q,j⟩:=c8Z b k (L:=L) (by omega);obtain⟨zs,k1,k2,k3,⟨r,o⟩,k6⟩:=c2i x all l rest (done++[s]) (L++a8a s f) (by simp_all) (fun t n=>h t (by grind)) (by grind);have g:done.length<all.length:=by grind
  have m:m0h all (done.length:Int)=some s:=by grind[a0D]
  refine⟨(s,f)::zs,by grind,fun p hp=>?_,?_,⟨fun t n=>?_,?_⟩,?_⟩;rcases mC.1 hp with rfl|hp;exact⟨b,k,j⟩;simp_all
  grind[a0M]
  grind
  simp only[List.foldr_cons,←o,oB,i];simp[a0M];have z0:((0:Int) != 0)=false:=rfl;rw[a0F (s':=(all,(all.length:Int),(((done++[s]).length:Nat):Int),wL (L++a8a s f),x,())) (by
   simp only[a8p,dlt g,cT,m,oB,d,z0,cF,a0B (show done.length<1000000 by omega)]
   simp)]
  simp_all[a0M]
def a4P(k:Nat):Nat:=(8-k%8)%8
def a2C(L:List Int):List Int:=L++a00 (a4P L.length) 0
theorem c0M:∀(k:Nat)(L:List Int),a4P L.length=k→L.length+k<900000000→y0o a3k (wL L,())=some (wL (L++a00 k 0),())
 |k,L,hk,hL=>by
  have f:=(a5K L).1;have h:a29 (wL L).2.1 8=((L.length%8:Nat):Int):=by grind
  unfold a4P at hk;cases k with
  |zero=>
   grind[a0E,a3k]
  |succ k=>
   have hb:(((L.length%8:Nat):Int) != 0)=true:=by grind
   rw[a0F (s':=(wL (L++[0]),())) (by
    simp only[a3k,h,hb,cT,b9L (show L.length<1000000000 by omega),oB])]
   rw[c0M k (L++[0]) (by grind[a4P]) (by grind)]
   grind
theorem c9b(h:L.length<800000000):a4R (wL L)=some (wL (a2C L)):=by
 unfold a4R;rw[c0M _ L rfl (by unfold a4P;omega)];rfl
def a8G(L:List Int):List Int:=(wL (a2C L)).1
theorem b7x(L:List Int):(a8G L).length=(L.length+7) / 8∧8*(a8G L).length=(a2C L).length:=by
 grind[a5K,a2C,a8G,a4P]
def a8U(f:a1o)(L:List Int):List Int:=a1E f (a8G L).length++a8G L
def a3Z(f:a1o)(L:List Int):List Int:=a8U f L++[a4g (a8U f L) / 256,a4g (a8U f L)%256]
theorem b9c(g:frP f)(h:L.length≤5600000):(a8U f L).length≤700700∧(a8G L).length≤700000:=by
 grind[b7x,c3V,a8U,a1E]
theorem c3W(j:a4k f=some true)(d:frP f)(e:f.2.2.2.2.1.length≤8)(m:∀s∈f.2.2.2.2.1,SmallS s∧(a2j s f.2.1).isSome=true):
  ∃zs:List PZ,zs.map (·.1)=f.2.2.2.2.1∧(∀p∈zs,c6M f.2.1 p)∧(a0M zs).length≤5600000∧
   some (((a0M zs).length:Nat):Int)=f.2.2.2.2.1.foldr (fun s a=>a.bind fun a=>(a4c (s,f.2.1)).bind fun c=>some (c+a)) (some 0)∧a4m f=some (a3Z f (a0M zs),0):=by
 obtain⟨zs,k1,k2,k3,⟨-,n⟩,k6⟩:=c2i f f.2.2.2.2.1 e f.2.2.2.2.1 [] [] rfl m (by grind);have b:(a0M zs).length≤5600000:=by omega
 refine⟨zs,k1,k2,b,n,?_⟩;rw[a07,a19]at k6;have hp:=b9c d b;have k:wL []=(([]:List Int),(0:Int),()):=rfl;rw[k]at k6;have g:(a2C (a0M zs)).length<1000000000:=by
  grind[b7x]
 have l:=b8B (a8U f (a0M zs));have h:a1E f (a8G (a0M zs)).length++a8G (a0M zs)=a8U f (a0M zs):=rfl;have i:(a1E f (a8G (a0M zs)).length).length+(a8G (a0M zs)).length=(a8U f (a0M zs)).length:=by grind
 unfold a4m;simp only[j,oB,bT,cF]
 erw[k6]
 simp only[oB,c9b (show(a0M zs).length<800000000 by omega),c9a g]
 erw[c6J d (show(a8G (a0M zs)).length≤1048576 by omega)]
 simp only[oB,a08];rw[show(wL (a2C (a0M zs))).1=a8G (a0M zs)from rfl];rw[h,a0V (by omega),cT,c0K (show short (a8U f (a0M zs))by unfold short;omega)]
 simp
 rw[a0K (by omega),d8o l];simp only[oB];rw[a0V (by grind),cT];rfl
def a8H(f:a1o)(l:List Sub):a1o:=(f.1,f.2.1,f.2.2.1,f.2.2.2.1,l,())
theorem c6N(f:a1o):a8H f f.2.2.2.2.1=f:=rfl
theorem c0N(f g:a1o)(e:Int){N:Nat}(d:N≤8){Z:List Int}:∀(rest:List PZ)(done:List Sub)(P:List Int),done.length+rest.length=N→(∀p∈rest,c6M f.2.1 p)→OkR P (a0M rest++Z)→
  y0o a7I (e,(N:Int),(done.length:Int),g,a8H f done,rdr P (a0M rest++Z),())=some (.inl (e,g,a8H f (done++rest.map (·.1)),rdr (P++a0M rest) Z,()))
 | [],done,P,hl,_,_=>by
  have a:done.length=N:=by simpa using hl
  rw[a,a0E (b:=Sum.inl (e,g,a8H f done,rdr P Z,())) (by simp only[a7I,dge,cF];rfl)];simp[a0M]
 |p::rest,done,P,hl,h,hok=>by
  rw[lC]at hl;obtain⟨n,l,o⟩:=h p (by simp);have c:a0M (p::rest)++Z=a8a p.1 p.2++(a0M rest++Z):=by simp[a0M]
  rw[c]at hok⊢;have j:=d1r n l o hok;have i:decide ((done.length:Int)<(N:Int))=true:=by simp;omega
  have z0:((0:Int) != 0)=false:=rfl;rw[a0F (s':=(e,(N:Int),(((done++[p.1]).length:Nat):Int),g,a8H f (done++[p.1]),rdr (P++a8a p.1 p.2) (a0M rest++Z),())) (by
   have k:b2o (rdr P (a8a p.1 p.2++(a0M rest++Z)),(a8H f done).2.1)=some (p.1,(0:Int),rdr (P++a8a p.1 p.2) (a0M rest++Z)):=j;simp only[a7I,i,cT,k,oB,z0,cF];rw[show(a8H f done).2.2.2.2.1=done from rfl,a0V (show done.length+1<2147483648 by omega),cT,a0B (show done.length<1000000 by omega)];rw[show(((done++[p.1]).length:Nat):Int)=((done.length+1:Nat):Int)from by simp];rfl)]
  rw[c0N f g e d rest (done++[p.1]) _ (by simp;omega) (fun q m=>h q (by simp[m])) hok.shift];simp[a0M]
theorem b8C{L:List Int}(f:a1v L)(a:L.length<500000000)(t:Int×(Int×Unit)):∀(k i:Nat),i+k=L.length→(∀j,i≤j→L.getD j 0=0)→
  y0o a3o ((L.length:Int),(i:Int),((wL L).1,t),())=some (.inl ((L.length:Int),((wL L).1,t),()))
 |0,i,h,_=>by
  obtain rfl:i=L.length:=by omega
  exact a0E (by simp only[a3o,dge,cF])
 |k+1,i,h,h0=>by
  have g:i<L.length:=by omega
  have z:((0:Int)==1)=false:=rfl;have b:wrap .i64 ((i:Int)+1)=((i+1:Nat):Int):=by rw[a0C (by omega)];omega
  rw[a0F (s':=((L.length:Int),((i+1:Nat):Int),((wL L).1,t),())) (by
   simp only[a3o,dlt g,cT];rw[c1x f (by omega) g t,h0 i (a23 _)];simp only[oB,z,cF,b])]
  exact b8C f a t k (i+1) (by omega) (fun j c=>h0 j (by omega))
theorem c9c(L:List Int)(k j:Nat)(h:L.length≤j):(L++a00 k 0).getD j 0=0:=by
 rw[lD,a59 h,List.getElem?_replicate]
 split<;>rfl
theorem c2j(h:a1v L):a1v (a2C L):=h.app fun _ hb=>.inl (List.mem_replicate.1 hb).2
theorem c7R(f:a1v L)(c:L.length≤5600000):∃r,a4X (rdr L (a00 (a4P L.length) 0))=some r∧r.2.2.1=0:=by
 have hp:(a2C L).length=L.length+a4P L.length:=by simp[a2C]
 have a:a4P L.length<8:=by unfold a4P;omega
 have b:(a2C L).length%8=0:=by rw[hp];unfold a4P;omega
 have z0:((0:Int) != 0)=false:=rfl;have g:wrap .i64 (wrap .i64 (a47 (wrap .i64 ((L.length:Int)+7)) 8)*8)=((a2C L).length:Int):=by
  rw[a0C (n:=(L.length:Int)+7) (by omega),show a47 ((L.length:Int)+7) 8=(((L.length+7) / 8:Nat):Int)from by
   rw[show((L.length:Int)+7)=((L.length+7:Nat):Int)from by omega];rfl,a0C (n:=(((L.length+7) / 8:Nat):Int)) (by omega),a0C (by omega),hp]
  unfold a4P;omega
 have h:=b8C (c2j f) (by omega) ((L.length:Int),(0:Int),()) (a4P L.length) L.length (by omega) (fun j k=>c9c L _ j k);refine⟨((wL (a2C L)).1,((a2C L).length:Int),(0:Int),()),?_,rfl⟩;unfold a4X rdr;simp only[z0,cF,g];rw[show L++a00 (a4P L.length) 0=a2C L from rfl,h];rfl
theorem d8p{v:Int}(h:0≤v∧v<65536):bits .u16 .or (A0j .u16 (wrap .u16 (v / 256)) 8) (wrap .u16 (v%256))=v:=by
 rw[b3p,b3p];have e:A0j .u16 (v / 256%65536) 8=((v.toNat / 256*256:Nat):Int):=by
  show wrap .u16 (v / 256%65536*256)=_;rw[b3p];omega
 rw[e];have g:v%256%65536=((v.toNat%256:Nat):Int):=by omega
 rw[g];show wrap .u16 (((a04 16 ((v.toNat / 256*256:Nat):Int) ||| a04 16 ((v.toNat%256:Nat):Int)).toNat:Nat):Int)=_;have f:(a04 16 ((v.toNat / 256*256:Nat):Int)).toNat=v.toNat / 256*256:=by rw[a48];omega
 have k:(a04 16 ((v.toNat%256:Nat):Int)).toNat=v.toNat%256:=by rw[a48];omega
 rw[a56,f,k];have e:v.toNat / 256*256 ||| v.toNat%256=v.toNat / 256*256+v.toNat%256:=by
  have:=a44 (i:=8) (b:=v.toNat%256) (by omega) (v.toNat / 256)
  rw[show 2^8*(v.toNat / 256)=v.toNat / 256*256 from by omega]at this;exact this.symm
 rw[e,b3p];omega
theorem c2L(O:a4k f=some true)(u:frP f)(t:((f.2.2.2.2.1.length:Nat):Int)=f.2.2.1.2.1){zs:List PZ}(B:zs.map (·.1)=f.2.2.2.2.1)(hp:∀p∈zs,c6M f.2.1 p)(z:(a0M zs).length≤5600000)(V:R.length≤200000000):a6i (a3Z f (a0M zs)++R)=some (f,((a3Z f (a0M zs)).length:Int),(0:Int)):=by
 have P:=b9c u z;have Q:=b8B (a8U f (a0M zs));have L:f.2.2.2.2.1.length≤8:=by have:=u.1.2.2.2.1;omega
 have N:=b7x (a0M zs);generalize hbd:a8G (a0M zs)=body at *;have c:a3Z f (a0M zs)=a8U f (a0M zs)++[a4g (a8U f (a0M zs)) / 256,a4g (a8U f (a0M zs))%256]:=rfl;have g:a8U f (a0M zs)=a1E f body.length++body:=by unfold a8U;rw[hbd]
 generalize hpb:a8U f (a0M zs)=pre at *;have o:a3Z f (a0M zs)++R=a1E f body.length++(body++([a4g pre / 256,a4g pre%256]++R)):=by rw[c,g];simp
 have m:(a3Z f (a0M zs)).length=pre.length+2:=by rw[c];simp
 have A:pre.length=(a1E f body.length).length+body.length:=by rw[g];simp
 have y:(a3Z f (a0M zs)++R).length=pre.length+2+R.length:=by rw[lN,m]
 have k:=c6L u (body:=body.length) (by omega) (R:=body++([a4g pre / 256,a4g pre%256]++R)) (by rw[←o,y];omega);rw[←o]at k;generalize hx:a3Z f (a0M zs)++R=x at *;have z0:((0:Int) != 0)=false:=rfl;have T:wrap .i64 (((a1E f body.length).length:Int)+(body.length:Int))=(pre.length:Int):=by rw[a0C (by omega)];omega
 have w2:wrap .i64 ((pre.length:Int)+2)=((pre.length+2:Nat):Int):=by rw[a0C (by omega)];omega
 have U:wrap .i64 ((pre.length:Int)+1)=((pre.length+1:Nat):Int):=by rw[a0C (by omega)];omega
 have C:decide ((x.length:Int)<((pre.length+2:Nat):Int))=false:=by simp;omega
 have D:decide ((0:Int)≤(pre.length:Int))=true:=by simp
 have E:decide ((pre.length:Int)≤(x.length:Int))=true:=by simp;omega
 have F:decide ((0:Int)≤((a1E f body.length).length:Int))=true:=by simp
 have G:decide (((a1E f body.length).length:Int)≤(pre.length:Int))=true:=by simp;omega
 have j:x=pre++([a4g pre / 256,a4g pre%256]++R):=by rw[←hx,c];simp
 have i:a90 pre.length x=pre:=by rw[j];simp
 have b:b03 (a1E f body.length).length pre=body:=by rw[g];simp
 have I:m0h x (pre.length:Int)=some (a4g pre / 256):=by rw[a0D (by omega)];congr 1;subst j;simp
 have K:m0h x ((pre.length+1:Nat):Int)=some (a4g pre%256):=by rw[a0D (by omega)];congr 1;subst j;simp
 have S:(a4g pre != bits .u16 .or (A0j .u16 (wrap .u16 (a4g pre / 256)) 8) (wrap .u16 (a4g pre%256)))=false:=by rw[d8p Q];exact bne_self_eq_false _
 have e:(a2C (a0M zs)).length<1000000000:=by omega
 have a:=d2D e;rw[show(wL (a2C (a0M zs))).1=body from hbd]at a;have v:OkR [] (a0M zs++a00 (a4P (a0M zs).length) 0):=⟨by rw[a07];exact c2j (c2h zs),by
  rw[a07];show(a2C (a0M zs)).length<_;omega⟩
 have h:=c0N f ((0:Int),(0:Int),((0:Int),(0:Int),(0:Int),()),([]:List a0L),([]:List Sub),()) (pre.length:Int) L zs [] [] (by rw[←B];simp) hp v;simp only[a07,a19,B,c6N]at h;have w:rdr [] (a2C (a0M zs))=rdr [] (a0M zs++a00 (a4P (a0M zs).length) 0):=rfl;obtain⟨r,q,s⟩:=c7R (c2h zs) z;have d:a2A (rdr (a0M zs) (a00 (a4P (a0M zs).length) 0))=some ((a4P (a0M zs).length:Int),rdr (a0M zs) (a00 (a4P (a0M zs).length) 0)):=by
  unfold a2A rdr
  have:(wL (a0M zs++a00 (a4P (a0M zs).length) 0)).1=body:=hbd
  simp only[this];have hp:(a2C (a0M zs)).length=(a0M zs).length+a4P (a0M zs).length:=by simp[a2C]
  rw[a0C (n:=8*(body.length:Int)) (by omega),a0C (by omega)];congr 2;omega
 have H:decide (((a4P (a0M zs).length:Nat):Int)≥8)=false:=by unfold a4P;simp;omega
 have M:a8H f []=c6K f:=rfl;have l:f.2.2.1.2.1=((f.2.2.2.2.1.length:Nat):Int):=t.symm;unfold a6i;rw[k];simp only[oB,z0,cF,T,w2,C,D,E,F,a03,cT,tN,i,c0K (show short pre by unfold short;omega),I,U,K,S,G,b,a,w];rw[show(c6K f).2.2.1.2.1=((f.2.2.2.2.1.length:Nat):Int)from l]
 erw[h]
 simp only[oB,d,H,cF,q,a0N,s,z0,O,bT,w2,m]
theorem b4a(x:Int):a8Y x=some (a0A x):=by
 grind[a8Y,a0A]
def a2D(c:List (List Int)):Prop:=1≤c.length∧c.length≤8∧(c.headD []).length≤4096∧c.all (fun r=>decide (r.length=(c.headD []).length)&&r.all a0A)=true
instance (c:List (List Int)):Decidable (a2D c):=by unfold a2D;infer_instance
theorem c2k{l:List α}{d:α}(h:0<l.length):l[0]=l.headD d:=by
 cases l with
 |nil=>grind
 |cons a l=>rfl
theorem c1B(c:List (List Int)):a7n c=some (decide (a2D c)):=by
 unfold a7n
 by_cases h1:((c.length:Nat):Int)<1
 have:¬ a2D c:=fun h=>by have:=h.1;omega
 simp_all
 by_cases h2:((c.length:Nat):Int) > 8
 have:¬ a2D c:=fun h=>by have:=h.2.1;omega
 simp_all;have b:0<c.length:=by omega
 have a:m0h c 0=some (c.headD []):=by rw[show(0:Int)=((0:Nat):Int)from rfl,a0D b,c2k (d:=[]) b]
 have l:decide (((c.length:Nat):Int)<1)=false:=by simp_all
 have m:decide (((c.length:Nat):Int) > 8)=false:=by simp_all
 simp only[l,m,cF,a,oB]
 by_cases h3:(((c.headD []).length:Nat):Int) > 4096
 rw[decide_eq_true h3,decide_eq_false (show ¬ a2D c from fun h=>by have:=h.2.2.1;omega)];rfl;have n:decide ((((c.headD []).length:Nat):Int) > 4096)=false:=by simp_all
 simp only[n,cF];have g:∀(i:Nat)(r:List Int),short r→y0o a4t (c,c,(c.length:Int),(i:Int),r,(r.length:Int),(0:Int),())=some (bif r.all a0A then Sum.inl (c,c,(c.length:Int),(i:Int),())else Sum.inr (false,())):=fun i r s=>by
  have:=a2i (f:=a4t) r (fun j=>(c,c,(c.length:Int),(i:Int),r,(r.length:Int),(j:Int),())) a0A (bt:=Sum.inl (c,c,(c.length:Int),(i:Int),())) (bf:=Sum.inr (false,()))
   (fun j h hp=>by simp only[a4t,dlt h,cT,a0D h,oB,b4a,hp,bT,cF,a0B (a31 h s)])
   (fun j h hp=>by simp_all[a4t,a0D,b4a])
   (by simp_all[a4t])
  omega
 have k:=a2i (f:=a4u) c (fun i=>(c,c,(c.length:Int),(i:Int),())) (fun r=>decide (r.length=(c.headD []).length)&&r.all a0A) (bt:=Sum.inl ()) (bf:=Sum.inr (false,()))
  (fun i h hp=>by
   simp only[bA,dT]at hp;have e:((((c[i]).length:Nat):Int) != (((c.headD []).length:Nat):Int))=false:=by simp_all
   have hi:=g i c[i] (by unfold short;omega);rw[hp.2,cT]at hi;simp only[a4u,dlt h,cT,a0D h,oB,a,e,cF,hi,a0B (show i<1000000 by omega)])
  (fun i h hp=>by
   by_cases hl:(c[i]).length=(c.headD []).length
   have e:((((c[i]).length:Nat):Int) != (((c.headD []).length:Nat):Int))=false:=by simp_all
   have hi:=g i c[i] (by unfold short;omega);rw[decide_eq_true hl,a46]at hp;rw[hp,cF]at hi;simp_all[a4u,a0D];have e:((((c[i]).length:Nat):Int) != (((c.headD []).length:Nat):Int))=true:=by grind
   simp only[a4u,dlt h,cT,a0D h,oB,a,e])
  (by simp_all[a4u])
 simp only[nZ]at k;rw[k];have o:1≤c.length:=by omega
 have p:c.length≤8:=by omega
 have q:(c.headD []).length≤4096:=by omega
 by_cases hA:c.all (fun r=>decide (r.length=(c.headD []).length)&&r.all a0A)=true
 rw[hA,decide_eq_true (show a2D c from⟨o,p,q,hA⟩)];rfl;rw[a91.2 hA,decide_eq_false (show ¬ a2D c from fun h=>hA h.2.2.2)];rfl
def a3p(c:List (List Int))(n:Nat):Prop:=∀r∈c,r.length=n∧r.all a0A=true
theorem c5o(h:a2D c):a3p c (c.headD []).length:=fun r g=>by
 have:=lA.1 h.2.2.2 r g
 simp_all
theorem b9d{c:List (List Int)}{n:Nat}(h:a3p c n)(g:1≤c.length)(f:c.length≤8)(b:n≤4096):a2D c:=by
 have a:(c.headD []).length=n:=by
  rw[←c2k (d:=[]) (show 0<c.length by omega)];exact(h _ (a05 _)).1
 refine⟨g,f,by omega,lA.2 fun r k=>?_⟩
 have:=h r k
 simp_all
theorem c2l{n:Nat}(h:a3p c n)(l:n≤5000)(j:c.length≤100):a6V c=some c:=by
 have:=a1R (f:=a6z) (β:=List (List Int)×Unit) c (fun i (a:List (List Int))=>(c,(c.length:Int),(i:Int),a,())) (fun a x=>.inl (a++[x])) (fun i a=>a.length=i) (fun a=>(a,()))
  (fun i hi a k=>⟨fun e g=>by
   simp at g;subst g;have m:=(h _ (a05 hi)).1;have d:∀y:List Int,List.set ([([]:List Int)]:List (List Int)) 0 y=[y]:=fun _=>rfl;refine⟨?_,by grind⟩;simp only[a6z,dlt hi,cT,a0D hi,oB,a7W (show short c[i]by unfold short;omega),d];rw[a0V (by grind),cT,a0B (show i<1000000 by omega)];rfl,fun b hb=>by grind⟩)
  (fun a k=>by simp_all[a6z]) (a:=[]) rfl
 simp_all[b3Z,a6V,a8Q]
def a8I(sign g:Int)(x y:Int):Int:=y+sign*(g*x / 256)
def a9E(sign g:Int)(xs ys:List Int):List Int:=List.zipWith (a8I sign g) xs ys
theorem c9d(sign g:Int){xs ys:List Int}(h:xs.length=ys.length):(a9E sign g xs ys).length=ys.length:=by simp[a9E,h]
theorem c9e{y:Int}(b:sign=1∨sign=-1)(c:-1024≤g∧g≤1024)(k:a0A x=true)(a:a0A y=true):
  wrap .i64 (y+wrap .i64 (sign*A0k .i64 (wrap .i64 (g*x)) 8))=a8I sign g x y:=by
 have k:=a1H.1 k;have a:=a1H.1 a;have f:-1099511627776≤g*x∧g*x≤1099511627776:=by
  have f:g.natAbs≤1024:=by omega
  have h:x.natAbs≤1073741824:=by omega
  have:=a72 f h
  rw[←Int.natAbs_mul]at this;omega
 rw[a0C (n:=g*x) (by omega)];have h:A0k .i64 (g*x) 8=g*x / 256:=by
  unfold A0k;show(g*x).fdiv (2^8)=_
  grind
 rw[h];unfold a8I;rcases b with rfl|rfl
 all_goals grind[a0C]
theorem b2i(c:List α)(h:a≠b)(y d:α):(c.set b y).getD a d=c.getD a d:=by
 grind
theorem a7s(c:List α)(h:b<c.length)(y d:α):(c.set b y).getD b d=y:=by
 simp_all
theorem c0O{c:List (List Int)}{s:a0L}{sign:Int}(g:sign=1∨sign=-1)(b:-1024≤s.2.2.1∧s.2.2.1≤1024)(a0:0≤s.1)(i:0≤s.2.1)(f:s.1.toNat≠s.2.1.toNat)(hb:s.2.1.toNat<c.length)(k:s.2.1<(c.length:Int))
  {xs:List Int}(a:c.getD s.1.toNat []=xs)(w:xs.length≤5000):∀(sx suf px pre:List Int),px++sx=xs→px.length=pre.length→sx.length=suf.length→sx.all a0A=true→suf.all a0A=true→
  if(a9E sign s.2.2.1 sx suf).all a0A=true then
   y0o a3B (sign,(xs.length:Int),(pre.length:Int),c.set s.2.1.toNat (pre++suf),s,((s.1.toNat:Nat):Int),())=some (.inl (c.set s.2.1.toNat (pre++a9E sign s.2.2.1 sx suf),()))
  else ∃c',y0o a3B (sign,(xs.length:Int),(pre.length:Int),c.set s.2.1.toNat (pre++suf),s,((s.1.toNat:Nat):Int),())=some (.inr (false,c',()))
 | [],suf,px,pre,hx,hp,hl,_,_=>by
  have e:suf=[]:=a40.1 hl.symm;subst e;have p:pre.length=xs.length:=by simp_all
  rw[if_pos (by rfl),p];exact a0E (by simp only[a3B,dge,cF];rfl)
 |x::sx,[],px,pre,_,_,hl,_,_=>by simp_all
 |x::sx,y::suf,px,pre,hx,hp,hl,hwx,hwy=>by
  simp only[a06,bA]at hwx hwy;have v:pre.length<xs.length:=by grind
  have q:(c.set s.2.1.toNat (pre++y::suf)).getD (a30 ((s.1.toNat:Nat):Int)) []=xs:=by grind
  have r:(c.set s.2.1.toNat (pre++y::suf)).getD s.2.1.toNat []=pre++y::suf:=a7s _ hb _ _;have t:a86 xs (a30 (pre.length:Int)) 0=x:=by grind
  have u:a86 (pre++y::suf) (a30 (pre.length:Int)) 0=y:=by simp
  have j:decide ((0:Int)≤(pre.length:Int))=true:=by simp
  have l:decide ((pre.length:Int)<(xs.length:Int))=true:=by simp_all
  have m:decide ((0:Int)≤s.2.1)=true:=by simp_all
  have n:decide (s.2.1<(((c.set s.2.1.toNat (pre++y::suf)).length:Nat):Int))=true:=by simp_all
  have o:decide ((pre.length:Int)<(((pre++y::suf).length:Nat):Int))=true:=by grind
  have hv:=c9e g b hwx.1 hwy.1;have z:wrap .i64 ((pre.length:Int)+1)=((pre.length+1:Nat):Int):=a0B (by omega);have A:a9E sign s.2.2.1 (x::sx) (y::suf)=a8I sign s.2.2.1 x y::a9E sign s.2.2.1 sx suf:=rfl;have d:List.set (c.set s.2.1.toNat (pre++y::suf)) s.2.1.toNat (List.set (pre++y::suf) (a30 (pre.length:Int)) (a8I sign s.2.2.1 x y))=c.set s.2.1.toNat ((pre++[a8I sign s.2.2.1 x y])++suf):=by
   simp
  have h:a3B (sign,(xs.length:Int),(pre.length:Int),c.set s.2.1.toNat (pre++y::suf),s,((s.1.toNat:Nat):Int),()) =
    bif !(a0A (a8I sign s.2.2.1 x y))then some (.inr (Sum.inr (false,c.set s.2.1.toNat (pre++y::suf),())))
    else some (.inl (sign,(xs.length:Int),((pre.length+1:Nat):Int),c.set s.2.1.toNat ((pre++[a8I sign s.2.2.1 x y])++suf),s,((s.1.toNat:Nat):Int),())):=by
   simp only[a3B,l,cT,q,r,j,a03,m,n,o,t,u,b4a,hv,oB,z]
   simp
  cases hwv:a0A (a8I sign s.2.2.1 x y)with
  |false=>
   simp_all[a0E]
  |true=>
   rw[hwv]at h;have B:=c0O g b a0 i f hb k a w sx suf (px++[x]) (pre++[a8I sign s.2.2.1 x y]) (by simp_all) (by grind) (by simp_all) hwx.2 hwy.2;rw[a0F h,A];simp_all
def a3I(sign:Int)(s:a0L)(c:List (List Int)):Option (List (List Int)):=
 let r:=a9E sign s.2.2.1 (c.getD s.1.toNat []) (c.getD s.2.1.toNat [])
 if r.all a0A=true then some (c.set s.2.1.toNat r)else none
theorem a8c{c:List (List Int)}{n:Nat}(h:a3p c n){i:Nat}(hi:i<c.length):(c.getD i []).length=n∧(c.getD i []).all a0A=true:=by
 rw[lD,lG hi];exact h _ (a05 hi)
theorem c3X{n:Nat}(a:a3p c n)(w:n≤5000){s:a0L}(p:a2u (c.length:Int) s=true)(k:sign=1∨sign=-1):
  ∃b f,a7N (c,s,sign)=some (b,f)∧match a3I sign s c with|some r=>b=true∧f=r|none=>b=false:=by
 obtain⟨a1,u,d,e,v,j,l⟩:=a2T.1 p;have q:=a8c a (i:=s.1.toNat) (by omega);have t:=a8c a (i:=s.2.1.toNat) (by omega);have hb:s.2.1.toNat<c.length:=by omega
 have g:c.set s.2.1.toNat (c.getD s.2.1.toNat [])=c:=by
  simp_all
 have:=c0O k ⟨j,l⟩ a1 d (by omega) hb e (rfl:c.getD s.1.toNat []=_) (by omega) (c.getD s.1.toNat []) (c.getD s.2.1.toNat []) [] [] rfl rfl (by omega) q.2 t.2
 rw[a07,g]at this;simp only[a19,nZ,a07,a25]at this;have m:decide ((0:Int)≤s.1)=true:=by simp_all
 have o:decide (s.1<(c.length:Int))=true:=by simp_all
 unfold a7N a3I;simp only[m,o,a03,cT]
 by_cases hA:(a9E sign s.2.2.1 (c.getD s.1.toNat []) (c.getD s.2.1.toNat [])).all a0A=true
 simp_all;rw[if_neg hA]at this⊢;obtain⟨f,h⟩:=this;simp_all
theorem b3i{c':List (List Int)}{n:Nat}(g:a3p c n){s:a0L}(k:a2u (c.length:Int) s=true)(h:a3I sign s c=some c'):a3p c' n∧c'.length=c.length:=by
 obtain⟨a1,a,b,d,e,j,l⟩:=a2T.1 k;have o:=a8c g (i:=s.1.toNat) (by omega);have p:=a8c g (i:=s.2.1.toNat) (by omega);unfold a3I at h;simp only at h
 split at h
 rename_i m;cases h;refine⟨fun r f=>?_,by simp⟩;rcases List.mem_or_eq_of_mem_set f with f|rfl;exact g r f;simp_all[c9d];simp_all
theorem c3Y(g:Int):∀xs ys:List Int,xs.length=ys.length→a9E (-1) g xs (a9E 1 g xs ys)=ys
 | [],[],_=>rfl
 |x::xs,y::ys,h=>by
  have f:=c3Y g xs ys (by simpa using h);show a8I (-1) g x (a8I 1 g x y)::a9E (-1) g xs (a9E 1 g xs ys)=_;rw[f];unfold a8I;congr 1;omega
 | [],_::_,h=>by grind
 |_::_,[],h=>by rfl
theorem c7S{c':List (List Int)}{n:Nat}(g:a3p c n){s:a0L}(f:a2u (c.length:Int) s=true)(h:a3I 1 s c=some c'):a3I (-1) s c'=some c:=by
 obtain⟨a1,a,b,d,e,j,l⟩:=a2T.1 f;have m:=a8c g (i:=s.1.toNat) (by omega);have k:=a8c g (i:=s.2.1.toNat) (by omega);have hb:s.2.1.toNat<c.length:=by omega
 unfold a3I at h;simp only at h
 split at h
 cases h;unfold a3I;simp only;rw[b2i _ (show s.1.toNat≠s.2.1.toNat by omega),a7s _ hb,c3Y _ _ _ (by omega),if_pos k.2,List.set_set];simp_all;simp_all
def doO:List a0L→List (List Int)→Option (List (List Int))
 | [],c=>some c
 |s::l,c=>(a3I 1 s c).bind (doO l)
def b1b:List a0L→List (List Int)→Option (List (List Int))
 | [],c=>some c
 |s::l,c=>(b1b l c).bind (a3I (-1) s)
theorem b3q{n:Nat}{N:Nat}:∀(l:List a0L){c c':List (List Int)},a3p c n→c.length=N→l.all (a2u (N:Int))=true→doO l c=some c'→a3p c' n∧c'.length=N
 | [],c,c',hc,hl,_,h=>by cases h;simp_all
 |s::l,c,c',hc,hl,hs,h=>by
  simp only[a06,bA]at hs;simp[doO,a16]at h;obtain⟨d,g,f⟩:=h;obtain⟨k,a⟩:=b3i hc (by simp_all) g;exact b3q l k (by omega) hs.2 f
theorem c5p{n:Nat}{N:Nat}:∀(l:List a0L){c c':List (List Int)},a3p c n→c.length=N→l.all (a2u (N:Int))=true→doO l c=some c'→b1b l c'=some c
 | [],c,c',_,_,_,h=>by cases h;rfl
 |s::l,c,c',hc,hl,hs,h=>by
  simp only[a06,bA]at hs;simp only[doO,a16]at h;obtain⟨d,g,f⟩:=h;obtain⟨k,a⟩:=b3i hc (by rw[hl];exact hs.1) g;simp only[b1b];rw[c5p l k (by omega) hs.2 f];exact c7S hc (by rw[hl];exact hs.1) g
def b9e:Option (List (List Int))→List (List Int)×Int
 |some r=>(r,0)
 |none=>([],6)
theorem c5q{n N:Nat}(a:n≤5000){l:List a0L}(m:l.length≤16)(j:l.all (a2u (N:Int))=true):∀(k i:Nat)(c:List (List Int)),i+k=l.length→a3p c n→c.length=N→
  y0o a7Q (l,(l.length:Int),(i:Int),c,())=some (match doO (l.drop i) c with|some r=>Sum.inl (r,())|none=>Sum.inr ([],6,()))
 |0,i,c,h,_,_=>by
  obtain rfl:i=l.length:=by omega
  rw[a63];exact a0E (by simp only[a7Q,dge,cF];rfl)
 |k+1,i,c,h,hc,hcl=>by
  have hi:i<l.length:=by omega
  rw[a02 hi];have d:a2u (c.length:Int) l[i]=true:=by grind
  obtain⟨b,g,e,f⟩:=c3X hc a d (sign:=1) (.inl rfl);simp[doO];cases hst:a3I 1 l[i] c with
  |none=>
   simp_all[a0E,a7Q,a0D]
  |some r=>
   rw[hst]at f;obtain⟨rfl,rfl⟩:=f;obtain⟨o,p⟩:=b3i hc d hst;rw[a0F (s':=(l,(l.length:Int),((i+1:Nat):Int),g,())) (by
    simp only[a7Q,dlt hi,cT,a0D hi,oB,e,bT,cF,a0B (show i<1000000 by omega)])]
   rw[c5q a m j k (i+1) g (by omega) o (by omega)];rfl
theorem c2R(c:List (List Int))(l:List a0L):b2l (c,l)=some (if a2D c∧a5b l (c.length:Int)then b9e (doO l c)else([],1)):=by
 unfold b2l;simp only[c1B,oB]
 by_cases hq:a2D c
 have h:=c5o hq;simp only[hq,decide_true,bT,cF,b5e,oB,true_and]
 by_cases hm:a5b l (c.length:Int)
 simp[hm];rw[c2l h (by have:=hq.2.2.1;omega) (by have:=hq.2.1;omega)]
 have:=c5q (N:=c.length) (by have:=hq.2.2.1;omega:(c.headD []).length≤5000) hm.2.2.1 hm.2.2.2 l.length 0 c (by omega) h rfl
 simp at this
 simp
 erw[this]
 cases doO l c<;>rfl;simp_all;simp_all
theorem c0P(s:a0L):∀(l:List a0L)(c:List (List Int)),b1b (l++[s]) c=(a3I (-1) s c).bind (b1b l)
 | [],c=>by
  show a3I (-1) s c=_;cases a3I (-1) s c<;>rfl
 |t::l,c=>by
  simp only[a51,b1b,c0P s l];cases a3I (-1) s c<;>rfl
theorem c2m{n N:Nat}(g:n≤5000){l:List a0L}(i:l.all (a2u (N:Int))=true)(z:List (List Int))(e:Int):∀(k:Nat)(c:List (List Int)),k≤l.length→a3p c n→c.length=N→
  match b1b (l.take k) c with
  |some r=>l0b a6b l k (l,z,e,c,())=some (.inl (l,z,e,r,()))
  |none=>∃d,l0b a6b l k (l,z,e,c,())=some (.inr (.ret,l,[],6,d,()))
 |0,c,_,_,_=>rfl
 |k+1,c,hk,hc,hcl=>by
  have hi:k<l.length:=by omega
  have f:a2u (c.length:Int) l[k]=true:=by grind
  obtain⟨b,a,m,h⟩:=c3X hc g f (sign:=-1) (.inr rfl);rw[a38 hi,c0P];cases hst:a3I (-1) l[k] c with
  |none=>
   simp_all[l0b,a6b]
  |some r=>
   rw[hst]at h;obtain⟨rfl,rfl⟩:=h;obtain⟨j,p⟩:=b3i hc f hst;have o:=c2m g i z e k a (by omega) j (by omega);simp_all[l0b,a6b]
theorem d1s(c:List (List Int))(l:List a0L):b1L (c,l)=some (if a2D c∧a5b l (c.length:Int)then b9e (b1b l c)else([],1)):=by
 unfold b1L;simp only[c1B,oB]
 by_cases hq:a2D c
 ·have h:=c5o hq;simp only[hq,decide_true,bT,cF,b5e,oB,true_and]
  by_cases hm:a5b l (c.length:Int)
  ·simp[hm];rw[c2l h (by have:=hq.2.2.1;omega) (by have:=hq.2.1;omega)]
   have:=c2m (N:=c.length) (by have:=hq.2.2.1;omega:(c.headD []).length≤5000) hm.2.2.2 [] 0 l.length c (a23 _) h rfl
   rw[a20]at this;simp[a0V (show l.length<2147483648 by have:=hm.2.2.1;omega)];cases hu:b1b l c with
   |some r=>
    rw[hu]at this;simp only at this
    erw[this]
    rfl
   |none=>
    rw[hu]at this;obtain⟨d,g⟩:=this
    erw[g]
    rfl
  simp_all
 simp_all
def a0Y(b:a1p):Nat:=(b.2.1.headD []).length
theorem a6r(b:a1p):a4h b=some ((a0Y b:Nat):Int):=by
 unfold a4h a0Y;obtain⟨d,c,u⟩:=b;cases c with
 |nil=>rfl
 |cons r c=>
  rfl
def a3T(b:a1p):Prop:=4≤b.1∧b.1≤24∧1≤b.2.1.length∧b.2.1.length≤8∧1≤a0Y b∧a0Y b≤4096∧b.2.1.all (fun r=>decide (r.length=a0Y b)&&r.all fun x=>a1j x b.1)=true
instance (b:a1p):Decidable (a3T b):=by unfold a3T;infer_instance
theorem b4b{x w:Int}(h:4≤w∧w≤24):a1S (x,w)=some (a1j x w):=by
 have:=a6o (x:=x) (w:=w.toNat) (by omega)
 grind
theorem a8d(b:a1p):a4i b=some (decide (a3T b)):=by
 unfold a4i a6O
 by_cases h1:4≤b.1
 rotate_left;rw[decide_eq_false (show ¬ a3T b from fun h=>h1 h.1),decide_eq_false h1];rfl
 by_cases h2:b.1≤24
 rotate_left;rw[decide_eq_false (show ¬ a3T b from fun h=>h2 h.2.1),decide_eq_true h1,decide_eq_false h2];rfl
 by_cases h3:((b.2.1.length:Nat):Int)<1
 rw[decide_eq_false (show ¬ a3T b from fun h=>by have:=h.2.2.1;omega),decide_eq_true h1,decide_eq_true h2,decide_eq_true h3];rfl
 by_cases h4:((b.2.1.length:Nat):Int) > 8
 rw[decide_eq_false (show ¬ a3T b from fun h=>by have:=h.2.2.2.1;omega),decide_eq_true h1,decide_eq_true h2,decide_eq_false h3,decide_eq_true h4];rfl;have a:decide (((b.2.1.length:Nat):Int)<1)=false:=by simp_all
 have c:decide (((b.2.1.length:Nat):Int) > 8)=false:=by simp_all
 simp only[decide_eq_true h1,decide_eq_true h2,a,c,cT,cF,oB,bT,a6r]
 by_cases h5:((a0Y b:Nat):Int)<1
 rw[decide_eq_false (show ¬ a3T b from fun h=>by have:=h.2.2.2.2.1;omega),decide_eq_true h5];rfl
 by_cases h6:((a0Y b:Nat):Int) > 4096
 rw[decide_eq_false (show ¬ a3T b from fun h=>by have:=h.2.2.2.2.2.1;omega),decide_eq_false h5,decide_eq_true h6];rfl;have d:decide (((a0Y b:Nat):Int)<1)=false:=by simp_all
 have l:decide (((a0Y b:Nat):Int) > 4096)=false:=by simp_all
 simp[d,l];have g:∀(i:Nat)(r:List Int),short r→y0o a4o (b.2.1,(b.2.1.length:Int),(i:Int),r,(r.length:Int),(0:Int),b,())=some (bif r.all (fun x=>a1j x b.1)then Sum.inl (b.2.1,(b.2.1.length:Int),(i:Int),b,())else Sum.inr (false,())):=fun i r m=>by
  have:=a2i (f:=a4o) r (fun j=>(b.2.1,(b.2.1.length:Int),(i:Int),r,(r.length:Int),(j:Int),b,())) (fun x=>a1j x b.1) (bt:=Sum.inl (b.2.1,(b.2.1.length:Int),(i:Int),b,())) (bf:=Sum.inr (false,()))
   (fun j h hp=>by simp only[a4o,dlt h,cT,a0D h,oB,b4b ⟨h1,h2⟩,hp,bT,cF,a0B (a31 h m)])
   (fun j h hp=>by simp_all[a4o,a0D,b4b])
   (by simp_all[a4o])
  omega
 have k:=a2i (f:=a4p) b.2.1 (fun i=>(b.2.1,(b.2.1.length:Int),(i:Int),b,())) (fun r=>decide (r.length=a0Y b)&&r.all fun x=>a1j x b.1) (bt:=Sum.inl ()) (bf:=Sum.inr (false,()))
  (fun i h hp=>by
   simp only[bA,dT]at hp;have e:((((b.2.1[i]).length:Nat):Int) != ((a0Y b:Nat):Int))=false:=by simp_all
   have hi:=g i b.2.1[i] (by unfold short;omega);rw[hp.2,cT]at hi;simp only[a4p,dlt h,cT,a0D h,oB,a6r,e,cF,hi,a0B (show i<1000000 by omega)])
  (fun i h hp=>by
   by_cases hl:(b.2.1[i]).length=a0Y b
   have e:((((b.2.1[i]).length:Nat):Int) != ((a0Y b:Nat):Int))=false:=by simp_all
   have hi:=g i b.2.1[i] (by unfold short;omega);rw[decide_eq_true hl,a46]at hp;rw[hp,cF]at hi;simp_all[a4p,a0D,a6r];have e:((((b.2.1[i]).length:Nat):Int) != ((a0Y b:Nat):Int))=true:=by grind
   simp only[a4p,dlt h,cT,a0D h,oB,a6r,e])
  (by simp_all[a4p])
 simp at k;rw[k]
 by_cases hA:b.2.1.all (fun r=>decide (r.length=a0Y b)&&r.all fun x=>a1j x b.1)=true
 rw[hA,decide_eq_true (show a3T b from⟨h1,h2,by omega,by omega,by omega,by omega,hA⟩)];rfl;rw[a91.2 hA,decide_eq_false (show ¬ a3T b from fun h=>hA h.2.2.2.2.2.2)];rfl
def a7w{α β:Type}(g:α→Option β):List α→Option (List β)
 | []=>some []
 |a::l=>(g a).bind fun b=>(a7w g l).bind fun r=>some (b::r)
theorem b9f{α β:Type}{g:α→Option β}:∀{l:List α}{r:List β},a7w g l=some r→r.length=l.length
 | [],r,h=>by cases h;rfl
 |a::l,r,h=>by
  simp only[a7w,a16]at h;obtain⟨b,-,c,f,k⟩:=h;cases k;simp[b9f f]
theorem c2n{α β:Type}{g:α→Option β}:∀{l:List α}{r:List β},a7w g l=some r→∀a∈l,(g a).isSome=true
 | [],r,h,a,ha=>by cases ha
 |a::l,r,h,x,hx=>by
  simp only[a7w,a16]at h;obtain⟨b,f,d,k,c⟩:=h;rcases mC.1 hx with rfl|hx;rw[f];rfl;exact c2n k x hx
def a9h(f:a1o):Option a1p:=
 if frP f∧((f.2.2.2.2.1.length:Nat):Int)=f.2.2.1.2.1 then
  (a7w (fun s=>a2j s f.2.1) f.2.2.2.2.1).bind fun rs=>
   if a2D rs∧a5b f.2.2.2.1 (rs.length:Int)then
    (b1b f.2.2.2.1 rs).bind fun ch=>if a3T (f.2.2.1.2.2.1,ch,())then some (f.2.2.1.2.2.1,ch,())else none
   else none
 else none
def b2u:a1p:=(0,[],())
def d8q:Option a1p→a1p×Int
 |some b=>(b,0)
 |none=>(b2u,1)
theorem b8D(f:a1o)(all:List Sub)(i:all.length≤8):∀(rest done:List Sub)(rows:List (List Int)),done++rest=all→rows.length=done.length→(∀s∈rest,SmallS s)→
  y0o a4C (all,(all.length:Int),(done.length:Int),rows,b2u,f,())=some (match a7w (fun s=>a2j s f.2.1) rest with|some rs=>Sum.inl (rows++rs,b2u,f,())|none=>Sum.inr (1,b2u,()))
 | [],done,rows,hd,hr,_=>by
  have e:done=all:=by simpa using hd
  subst e;rw[a0E (b:=Sum.inl (rows,b2u,f,())) (by simp only[a4C,dge,cF])];simp[a7w]
 |s::rest,done,rows,hd,hr,h=>by
  have j:=h s (by simp);have k:done.length<all.length:=by rw[←hd];simp
  have a:m0h all (done.length:Int)=some s:=by rw[a0D k];subst hd;simp
  have g:=b9I j f.2.1;simp only[a7w];cases ho:a2j s f.2.1 with
  |none=>
   rw[ho]at g;have d:((1:Int) != 0)=true:=rfl;exact a0E (by simp only[a4C,dlt k,cT,a,oB,g,d];rfl)
  |some r=>
   rw[ho]at g;have c:((0:Int) != 0)=false:=rfl;rw[a0F (s':=(all,(all.length:Int),(((done++[s]).length:Nat):Int),rows++[r],b2u,f,())) (by
    simp only[a4C,dlt k,cT,a,oB,g,c,cF,a0V (show rows.length+1<2147483648 by omega),a0B (show done.length<1000000 by omega)]
    simp)]
   rw[b8D f all i rest (done++[s]) (rows++[r]) (by simpa using hd) (by simp[hr]) (fun t l=>h t (by simp[l]))];simp only[oB];cases a7w (fun s=>a2j s f.2.1) rest<;>simp
theorem c3Z(b:∀s∈f.2.2.2.2.1,SmallS s):a3M f=some (d8q (a9h f)):=by
 unfold a3M a9h;simp only[b5H,oB]
 by_cases hf:frP f
 rotate_left;simp only[hf,decide_false,a26,cT,oB,false_and,if_false];rfl
 by_cases hl:((f.2.2.2.2.1.length:Nat):Int)=f.2.2.1.2.1
 rotate_left;have e:(((f.2.2.2.2.1.length:Nat):Int) != f.2.2.1.2.1)=true:=by simpa using hl
 simp only[hf,decide_true,bT,cF,oB,e,cT,hl,and_false,if_false];rfl;have e:(((f.2.2.2.2.1.length:Nat):Int) != f.2.2.1.2.1)=false:=by simpa using hl
 have a:f.2.2.2.2.1.length≤8:=by have:=hf.1.2.2.2.1;omega
 have k:decide ((0:Int)≤((f.2.2.2.2.1.length:Nat):Int))=true:=by simp
 have h:=b8D f f.2.2.2.2.1 a f.2.2.2.2.1 [] [] rfl rfl b;rw[a19]at h;rw[if_pos ⟨hf,hl⟩];simp only[hf,decide_true,bT,cF,oB,e,k,tN,a0V (show f.2.2.2.2.1.length<2147483648 by omega),a03,cT]
 erw[h]
 cases hm:a7w (fun s=>a2j s f.2.1) f.2.2.2.2.1 with
 |none=>rfl
 |some rs=>
  simp only[oB,a07,d1s]
  by_cases hq:a2D rs∧a5b f.2.2.2.1 (rs.length:Int)
  ·simp only[if_pos hq];cases hu:b1b f.2.2.2.1 rs with
   |none=>rfl
   |some ch=>
    have g:((0:Int) != 0)=false:=rfl;simp only[b9e,g,cF,a8d,oB]
    by_cases hb:a3T (f.2.2.1.2.2.1,ch,())
    simp only[hb,decide_true,bT,cF,if_true];rfl;simp only[hb,decide_false,a26,cT,if_false];rfl
  simp only[if_neg hq];rfl
theorem d2G(h:∀s∈f.2.2.2.2.1,SmallS s):a4k f=some (a9h f).isSome:=by
 unfold a4k;rw[c3Z h];cases a9h f<;>rfl
theorem b7y{b:a1p}(h:a9h f=some b):frP f∧((f.2.2.2.2.1.length:Nat):Int)=f.2.2.1.2.1∧∀s∈f.2.2.2.2.1,(a2j s f.2.1).isSome=true:=by
 unfold a9h at h
 split at h
 rename_i g;simp only[a16]at h;obtain⟨a,k,-⟩:=h;exact⟨g.1,g.2,c2n k⟩;cases h
theorem c6O{b:a1p}(k:∀s∈f.2.2.2.2.1,SmallS s)(h:a9h f=some b):∃L,L.length≤5600000∧some ((L.length:Nat):Int)=f.2.2.2.2.1.foldr (fun s a=>a.bind fun a=>(a4c (s,f.2.1)).bind fun c=>some (c+a)) (some 0)∧
  a4m f=some (a3Z f L,0)∧(∀R:List Int,R.length≤200000000→a6i (a3Z f L++R)=some (f,((a3Z f L).length:Int),(0:Int))):=by
 obtain⟨g,j,l⟩:=b7y h;have d:a4k f=some true:=by rw[d2G k,h];rfl
 have m:f.2.2.2.2.1.length≤8:=by have:=g.1.2.2.2.1;omega
 obtain⟨t,o,p,i,q,r⟩:=c3W d g m (fun s e=>⟨k s e,l s e⟩);exact⟨a0M t,i,q,r,fun R n=>c2L d g j o p i n⟩
end Go.Ab
