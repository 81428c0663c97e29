/- Part of the proof: PA. Conditions: as each statement tells. -/
import Derived.KernelRfl
import Derived.Test.YtjoohiokfkdfpaaGreatDoorMF
noncomputable section
set_option linter.unusedSimpArgs false
set_option linter.unusedVariables false
open BitVec renaming ofInt→a04,ofInt_natCast→a23,toNat_ofNat→a29,toNat_or→a70,toNat_ofInt→a80,toNat_and→a92
open Bool renaming and_self→a03,not_false→a27,not_eq_true'→a33,true_and→a38,and_eq_true_iff→a74,or_eq_false_iff→a75,or_eq_true→a97,eq_iff_iff→a98
open Int renaming eq_ofNat_of_zero_le→a01,natCast_dvd_natCast→a19,tmod→a25,cast_ofNat_Int→a30,toNat→a41,tmod_eq_emod_of_nonneg→a42,dvd_mul_of_dvd_left→a45,mul_nonneg→a46,tdiv→a54,tdiv_eq_ediv_of_nonneg→a60,mul_fdiv_cancel_left→a63,dvd_add_left→a65,toNat_of_nonneg→a77,fdiv→a78,natCast_nonneg→a81,dvd_zero→a85,emod_eq_of_lt→a88,natCast_add→b00
open List renaming replicate→a00,drop_eq_getElem_cons→a02,getElem_mem→a05,append_eq→a06,all_cons→a07,nil_append→a16,take_length→a18,length_nil→a21,drop_zero→a28,zipWith→a31,mem_of_mem_take→a34,mem_of_mem_drop→a35,length→a36,append_nil→a39,length_eq_zero_iff→a44,take_of_length_le→a47,take_succ_eq_append_getElem→a48,drop_length→a49,getElem_zip→a50,eq_nil_or_concat→a51,length_drop→a52,replicate_succ'→a53,set_cons_zero→a59,sum_cons→a61,flatMap_cons→a62,cons_append→a64,set_append_right→a71,length_singleton→a72,singleton_append→a73,getD→a86,length_take→a93,not_mem_nil→a95,mem_flatMap→a96,foldl_cons→a99,take→b01
open Nat renaming pow_le_pow_right→a08,lt_trans→a09,two_pow_pos→a17,mod_eq_of_lt→a22,mul_le_mul_right→a24,le_refl→a26,div_le_self→a32,lt_of_le_of_lt→a37,mod_lt→a40,pow_dvd_pow→a55,sub_self→a56,testBit_two_pow_mul_add→a57,two_pow_add_eq_or_of_lt→a58,div_eq_of_lt→a66,mul_comm→a67,div_add_mod→a68,min_eq_left→a69,div_mul_le_self→a76,one_le_two_pow→a79,le_of_lt→a82,add_zero→a83,pow_succ→a84,or_lt_two_pow→a87,add_mod_right→a89,mul_add→a90,mul_one→a91,lt_of_not_le→a94
open Option renaming map_eq_some_iff→a20,bind_eq_some_iff→a43
namespace Go.Ab
variable {L P R c d g ks l part r row t wm:List Int}{N a b i j m o v w:Nat}{k lag n warm x:Int}{zn:List Nat}
open IntKind(wrap)
section
variable {σ β:Type} {f:σ→Option (σ ⊕ β)}
theorem b1S:∀(n m:Nat)(s:σ){b:β},j0z f n s=some b→j0z f (n+m) s=some b
 |0,_,s,b,h=>by simp[j0z]at h
 |n+1,m,s,b,h=>by
  rw[show n+1+m=n+m+1 from by omega];simp only[j0z]at h⊢
  split at h
  cases h;rename_i s' g;exact b1S n m s' h;exact h
theorem b6v{n:Nat}{s:σ}{b b':β}(h:j0z f n s=some b)(k:j0z f m s=some b'):b=b':=by
 have a:=b1S n m s h;have g:=b1S m n s k;rw[Nat.add_comm,a]at g;exact Option.some.inj g
theorem c4e{n:Nat}{s:σ}{b:β}(h:j0z f n s=some b):v0v f s=some b:=by
 unfold v0v;have g:∃n b,j0z f n s=some b:=⟨n,b,h⟩;rw[dif_pos g];exact congrArg some (b6v g.choose_spec.choose_spec h)
theorem b6b{n:Nat}{s:σ}{b:β}(h:j0z f n s=some b):y0s f s=some b:=by
 unfold y0s;split;rename_i g hb;rw[b6v hb h];exact c4e h
theorem b6w{s:σ}(h:∀n,j0z f n s=none):y0s f s=none:=by
 unfold y0s;rw[h 400];show v0v f s=none;unfold v0v;rw[dif_neg]
 rintro⟨n,b,g⟩
 rw[h n]at g;cases g
theorem a0H{s:σ}{b:β}(h:f s=some (.inr b)):y0s f s=some b:=b6b (n:=1) (by simp[j0z,h])
theorem a0I{s s':σ}(h:f s=some (.inl s')):y0s f s=y0s f s':=by
 by_cases hx:∃n b,j0z f n s'=some b
 obtain⟨n,b,hb⟩:=hx;rw[b6b hb];exact b6b (n:=n+1) (by simp[j0z,h,hb])
 ·have g:∀n,j0z f n s'=none:=fun n=>by
   cases hn:j0z f n s' with
   |none=>rfl
   |some b=>exact absurd ⟨n,b,hn⟩ hx
  rw[b6w g];refine b6w fun n=>?_
  cases n with
  |zero=>rfl
  |succ n=>simp[j0z,h,g n]
theorem c1a(S:Nat→σ)(n:Nat){b:β}(g:∀i,i<n→f (S i)=some (.inl (S (i+1))))(h:f (S n)=some (.inr b)):∀(k:Nat),k≤n→y0s f (S (n-k))=some b
 |0,_=>a0H h
 |k+1,hk=>by
  rw[a0I (g (n-(k+1)) (by omega)),show n-(k+1)+1=n-k from by omega];exact c1a S n g h k (by omega)
theorem a2m(S:Nat→σ)(n:Nat){b:β}(g:∀i,i<n→f (S i)=some (.inl (S (i+1))))(h:f (S n)=some (.inr b)):y0s f (S 0)=some b:=by
 have:=c1a S n g h n (a26 _)
 rwa [a56]at this
end
theorem a0D{n:Int}(h:-9223372036854775808≤n∧n≤9223372036854775807):wrap .i64 n=n:=by
 simp only[wrap,IntKind.bits,IntKind.signed]
 simp
 split<;>omega
theorem a0S{n:Int}(h:0≤n∧n<18446744073709551616):wrap .u64 n=n:=by
 simp only[wrap,IntKind.bits,IntKind.signed]
 simp
 omega
theorem a8k(n:Int):wrap .u8 n=n%256:=by
 simp[wrap,IntKind.bits,IntKind.signed]
theorem c1b(x y:Int):v0s x y=min x y:=by
 simp only[v0s,cond_eq_ite,dT]
 split<;>omega
theorem c5D(x y:Int):v0r x y=max x y:=by
 simp only[v0r,cond_eq_ite,dT]
 split<;>omega
theorem a1c{n:Nat}(h:n<2147483648):lim n=true:=by simp[lim,h]
section
variable {α A σ β:Type}
def a2n(g:A→α→A ⊕ β):List α→A→A ⊕ β
 | [],a=>.inl a
 |x::r,a=>match g a x with
  |.inl a'=>a2n g r a'
  |.inr b=>.inr b
def a7n(fin:A→β):A ⊕ β→β
 |.inl a=>fin a
 |.inr b=>b
theorem b1t{f:σ→Option (σ ⊕ β)}(l:List α)(S:Nat→A→σ)(g:A→α→A ⊕ β)(I:Nat→A→Prop)(e:A→β)
  (d:∀i (h:i<l.length) a,I i a→(∀a',g a l[i]=.inl a'→f (S i a)=some (.inl (S (i+1) a'))∧I (i+1) a')∧(∀b,g a l[i]=.inr b→f (S i a)=some (.inr b)))
  (c:∀a,I l.length a→f (S l.length a)=some (.inr (e a))):∀(k i:Nat)(a:A),i+k=l.length→I i a→y0s f (S i a)=some (a7n e (a2n g (l.drop i) a))
 |0,i,a,hi,ha=>by
  obtain rfl:i=l.length:=by omega
  rw[a49];exact a0H (c a ha)
 |k+1,i,a,hi,ha=>by
  have j:i<l.length:=by omega
  rw[a02 j];obtain⟨m,n⟩:=d i j a ha;simp[a2n];cases hg:g a l[i]with
  |inl a'=>
   obtain⟨o,p⟩:=m a' hg;rw[a0I o];exact b1t l S g I e d c k (i+1) a' (by omega) p
  |inr b=>exact a0H (n b hg)
theorem a1E{f:σ→Option (σ ⊕ β)}(l:List α)(S:Nat→A→σ)(g:A→α→A ⊕ β)(I:Nat→A→Prop)(k:A→β)
  (d:∀i (h:i<l.length) a,I i a→(∀a',g a l[i]=.inl a'→f (S i a)=some (.inl (S (i+1) a'))∧I (i+1) a')∧(∀b,g a l[i]=.inr b→f (S i a)=some (.inr b)))
  (c:∀a,I l.length a→f (S l.length a)=some (.inr (k a))){a:A}(e:I 0 a):y0s f (S 0 a)=some (a7n k (a2n g l a)):=by
 have:=b1t l S g I k d c l.length 0 a (by omega) e
 simp_all
theorem a1d{f:σ→Option (σ ⊕ β)}(l:List α)(S:Nat→σ)(p:α→Bool){bt bf:β}
  (k:∀i (h:i<l.length),p l[i]=true→f (S i)=some (.inl (S (i+1))))(b:∀i (h:i<l.length),p l[i]=false→f (S i)=some (.inr bf))
  (g:f (S l.length)=some (.inr bt)):y0s f (S 0)=some (bif l.all p then bt else bf):=by
 have h:=a1E (A:=Unit) l (fun i _=>S i) (fun _ x=>bif p x then .inl ()else .inr bf) (fun _ _=>True) (fun _=>bt) (fun i h a _=>?_) (fun _ _=>g) (a:=()) trivial
 ·rw[h];congr 1;clear h k b g
  induction l with
  |nil=>rfl
  |cons x l ih=>
   simp[a2n];cases p x with
   |true=>simp_all
   |false=>rfl
 grind
end
theorem a0B{α:Type}{l:List α}{i:Nat}(h:i<l.length):m0k l (i:Int)=some l[i]:=by
 simp_all[m0k]
def a0A(x:Int):Bool:=decide (-1073741824≤x)&&decide (x<1073741824)
theorem a1x{x:Int}:a0A x=true↔-1073741824≤x∧x<1073741824:=by simp[a0A]
def short{α:Type}(l:List α):Prop:=l.length<1000000
theorem a0C{i:Nat}(h:i<1000000):wrap .i64 ((i:Int)+1)=((i+1:Nat):Int):=by
 grind[a0D]
theorem dlt{n:Nat}(h:i<n):decide ((i:Int)<(n:Int))=true:=by simp_all
theorem dge(n:Nat):decide ((n:Int)<(n:Int))=false:=by simp
theorem a3F{l:List Int}(a:short l):a1Z l=some (l.all a0A):=by
 unfold a1Z
 have:=a1d (f:=a2d) l (fun i=>(l,(l.length:Int),(i:Int),())) a0A (bt:=Sum.inl ()) (bf:=Sum.inr (false,()))
  (fun i h hp=>by
   have hp:=a1x.1 hp;have g:decide (l[i] < -1073741824)=false:=by simp_all
   have k:decide (l[i]≥1073741824)=false:=by simp_all
   simp only[a2d,dlt h,cT,a0B h,oB,g,k,cF,a0C (a09 h a)])
  (fun i h hp=>by
   simp only[a2d,dlt h,cT,a0B h,oB]
   grind[a0A])
  (by simp[a2d])
 grind
set_option maxRecDepth 100000 in
theorem c5E:b1h ()=some true:=by kernel_rfl
theorem a5f(x:Int):a4e x=some (a0A x):=by
 grind[a4e,a0A]
theorem a6D(x:Int):a6a x=some (a0A x):=by
 grind[a6a,a0A]
theorem a4g(x:Int):a4V x=some (a0A x):=by
 grind[a4V,a0A]
theorem b1u(x:Int):a4d x=some (a0A x):=by
 grind[a4d,a0A]
theorem a4R(g:short l):a2e l=some (l.all a0A):=by
 unfold a2e
 have:=a1d (f:=a2z) l (fun i=>(l,(l.length:Int),(i:Int),())) a0A (bt:=Sum.inl ()) (bf:=Sum.inr (false,()))
  (fun i h hp=>by simp[a2z,a0B h,a5f,hp,a0C (a09 h g),h])
  (fun i h hp=>by simp_all[a2z,a0B,a5f])
  (by simp[a2z])
 grind
theorem b0Q(g:short l):a3x l=some (l.all a0A):=by
 unfold a3x
 have:=a1d (f:=a3l) l (fun i=>(l,(l.length:Int),(i:Int),())) a0A (bt:=Sum.inl ()) (bf:=Sum.inr (false,()))
  (fun i h hp=>by simp[a3l,a0B h,a6D,hp,a0C (a09 h g),h])
  (fun i h hp=>by simp_all[a3l,a0B,a6D])
  (by simp[a3l])
 grind
theorem a9T(g:short l):a4l l=some (l.all a0A):=by
 unfold a4l
 have:=a1d (f:=a2T) l (fun i=>(l,(l.length:Int),(i:Int),())) a0A (bt:=Sum.inl ()) (bf:=Sum.inr (false,()))
  (fun i h hp=>by simp[a2T,a0B h,a4g,hp,a0C (a09 h g),h])
  (fun i h hp=>by simp_all[a2T,a0B,a4g])
  (by simp[a2T])
 grind
theorem a5W(h:short l):a2k l=some (l.all a0A):=by
 have e:b0M=a2d:=rfl
 have:a2k l=a1Z l:=by rfl
 simp_all[a3F]
def b4L(x:Int):Bool:=decide (-32768≤x)&&decide (x<32768)
def a7M(c:List Int)(s:Int):Bool:=decide (1≤c.length)&&(decide (c.length≤32)&&(decide (0≤s)&&(decide (s≤15)&&c.all b4L)))
theorem a7F{c:List Int}{s:Int}(a:short c):a3G (c,s)=some (a7M c s):=by
 have:=a1d (f:=a4j) c (fun i=>(c,(c.length:Int),(i:Int),())) b4L (bt:=Sum.inl ()) (bf:=Sum.inr (false,()))
  (fun i h hp=>by
   simp[b4L]at hp;have g:¬ c[i] < -32768:=by omega
   have k:¬ c[i]≥32768:=by omega
   simp[a4j,a0B h,a0C (a09 h a),h,g,k])
  (fun i h hp=>by
   grind[b4L,a4j,a0B])
  (by simp[a4j])
 simp at this;unfold a3G a7M
 grind
def b1T(x:Int):Bool:=decide (-64≤x)&&decide (x≤64)
def a9a(lag:Int)(t:List Int):Bool:=decide (2≤lag)&&(decide (lag≤1024)&&t.all b1T)
theorem b1i(g:t.length=3):a6O (lag,t)=some (a9a lag t):=by
 have:=a1d (f:=a5F) t (fun i=>(t,(i:Int),())) b1T (bt:=Sum.inl ()) (bf:=Sum.inr (false,()))
  (fun i h hp=>by
   simp[b1T]at hp
   grind[a5F,a0B,a0C])
  (fun i h hp=>by
   grind[b1T,a5F,a0B])
  (by simp_all[a5F])
 simp at this;unfold a6O a9a
 grind
def stageB(s:Int×(Int×Unit)):Bool:=decide (1≤s.1)&&(decide (s.1≤32)&&(decide (0≤s.2.1)&&decide (s.2.1≤8)))
def a7w(l:List (Int×Int×Unit)):Bool:=decide (l.length≤3)&&l.all stageB
theorem a8v(s:Int×(Int×Unit)):a5G s=some (stageB s):=by
 grind[a5G,stageB]
theorem a9U{l:List (Int×Int×Unit)}(g:short l):a5Z l=some (a7w l):=by
 have:=a1d (f:=a4S) l (fun i=>(l,(l.length:Int),(i:Int),())) stageB (bt:=Sum.inl ()) (bf:=Sum.inr (false,()))
  (fun i h hp=>by simp[a4S,a0B h,a8v,hp,a0C (a09 h g),h])
  (fun i h hp=>by simp_all[a4S,a0B,a8v])
  (by simp[a4S])
 simp at this;unfold a5Z a7w
 grind
@[reducible] def W(n:Int):Int:=wrap .i64 n
theorem a6E(n:Int):wrap .i64 n=Int.bmod n 18446744073709551616:=by
 grind[wrap,IntKind.bits,IntKind.signed]
theorem b3d{n:Int}(h:a0A n=true):W n=n:=by
 grind[a1x,a0D]
def a3s(guess:List Int→Int):List Int→List Int→Option (List Int)
 | [],out=>some out
 |x::r,out=>bif a0A (W (x+guess out))then a3s guess r (out++[W (x+guess out)])else none
def b0R{β:Type}(guess:List Int→Int)(bad:β)(out:List Int)(x:Int):List Int ⊕ β:=bif a0A (W (x+guess out))then .inl (out++[W (x+guess out)])else .inr bad
theorem a9D{β:Type}(h:List Int→Int)(g:β)(f:List Int→β):∀(l out:List Int),a7n f (a2n (b0R h g) l out)=match a3s h l out with|some r=>f r|none=>g
 | [],out=>rfl
 |x::l,out=>by
  simp[a2n,b0R,a3s];cases a0A (W (x+h out))with
  |true=>simp_all[a9D]
  |false=>rfl
theorem a9E(g:List Int→Int):∀(l out r:List Int),out.all a0A=true→a3s g l out=some r→r.all a0A=true∧r.length=out.length+l.length
 | [],out,r,h,e=>by simp_all[a3s]
 |x::l,out,r,h,e=>by
  simp[a3s]at e;cases hw:a0A (W (x+g out))with
  |true=>
   rw[hw]at e;obtain⟨f,k⟩:=a9E g l _ r (by simp_all) e
   grind
  |false=>simp_all
def a4b:Option (List Int)→List Int×Int
 |some r=>(r,0)
 |none=>([],6)
def atB(out:List Int)(i:Nat):Int:=out.getD (out.length-i) 0
def a5g(o:Nat)(out:List Int):Int:=match o with
 | 1=>atB out 1
 | 2=>2*atB out 1-atB out 2
 | 3=>3*atB out 1-3*atB out 2+atB out 3
 | 4=>4*atB out 1-6*atB out 2+4*atB out 3-atB out 4
 |_=>0
theorem a9F{out:List Int}(f:1≤i)(h:i≤out.length)(g:short out):a1b ((i:Int),out)=some (atB out i,out):=by
 unfold a1b;have g:out.length<1000000:=g
 grind[a0D,a0B,atB]
theorem b6c{out:List Int}(e:o≤4)(h:o≤out.length)(a:short out):∃g,a7y (out,(o:Int))=some g∧∀x,W (x+g)=W (x+a5g o out):=by
 have f:=fun(h':1≤out.length)=>a9F (i:=1) (by omega) h' a;have k:=fun(h':2≤out.length)=>a9F (i:=2) (by omega) h' a;have b:=fun(h':3≤out.length)=>a9F (i:=3) (by omega) h' a;have c:=fun(h':4≤out.length)=>a9F (i:=4) (by omega) h' a;simp at f k b c;unfold a7y;have d:o=0∨o=1∨o=2∨o=3∨o=4:=by omega
 rcases d with rfl|rfl|rfl|rfl|rfl;exact⟨0,rfl,fun x=>rfl⟩;exact⟨_,by simp[f (by omega)];rfl,fun x=>rfl⟩;refine⟨_,by simp[f (by omega),k (by omega)];rfl,fun x=>?_⟩;simp_all[a6E,a5g];refine⟨_,by simp[f (by omega),k (by omega),b (by omega)];rfl,fun x=>?_⟩;simp_all[a6E,a5g];refine⟨_,by simp[f (by omega),k (by omega),b (by omega),c (by omega)];rfl,fun x=>?_⟩;simp_all[a6E,a5g]
theorem a0P{n:Nat}(h:n<1000000):lim n=true:=a1c (by omega)
theorem b7y{warm rest:List Int}(u:o≤4)(x:warm.length=o)(w:rest.length<100000):
  a8b (warm,rest,(o:Int))=some (a4b (bif warm.all a0A&&rest.all a0A then a3s (a5g o) rest warm else none)):=by
 have c:short warm:=by unfold short;omega
 have m:short rest:=by unfold short;omega
 unfold a8b;have p:¬ (o:Int)<0:=by omega
 have q:¬ (o:Int) > 4:=by omega
 have r:(((warm.length:Nat):Int) != (o:Int))=false:=by simp_all
 simp only[p,q,r,decide_false,cF,oB,a5W c,a5W m];cases hw1:warm.all a0A with
 |false=>rfl
 |true=>
  simp only[bT,cF,oB,a38];cases hw2:rest.all a0A with
  |false=>rfl
  |true=>
   simp[a0P c]
   have:=a1E (f:=a6p) rest (fun i out=>((o:Int),rest,(rest.length:Int),(i:Int),out,())) (b0R (a5g o) (Sum.inr ((6:Int),([]:List Int),())))
    (fun i out=>o≤out.length∧out.length≤o+i) (fun out=>Sum.inl (out,()))
    (fun i h out s=>by
     have j:i<1000000:=by omega
     have l:short out:=by unfold short;omega
     obtain⟨g,t,d⟩:=b6c u s.1 l;have e:wrap .i64 (rest[i]+g)=W (rest[i]+a5g o out):=d _;have k:a2k [W (rest[i]+a5g o out)]=some (a0A (W (rest[i]+a5g o out))):=by rw[a5W (by simp[short])];simp
     simp only[a6p,dlt h,cT,a0B h,oB,t,e,k,b0R];cases hb:a0A (W (rest[i]+a5g o out))with
     |true=>
      simp only[cT,bT,cF,a0P (show out.length+1<1000000 by omega),a0C j];refine⟨fun v n=>?_,fun b hb=>(by grind)⟩;simp at n;subst n;exact⟨rfl,by grind,by grind⟩
     |false=>
      simp)
    (fun out _=>by simp[a6p]) (a:=warm) ⟨by omega,by omega⟩
   simp[a9D]at this;rw[this];cases a3s (a5g o) rest warm<;>rfl
def b8u(out:List Int):List Int→Nat→Int→Int
 | [],_,acc=>acc
 |c::r,i,acc=>bif decide (i<out.length)then b8u out r (i+1) (W (acc+W (c*atB out (i+1))))else acc
def a8w(c:List Int)(s:Int)(out:List Int):Int:=A0o .i64 (b8u out c 0 0) s
theorem c6r{out:List Int}(h:i<out.length)(g:short out):m0k out (wrap .i64 (wrap .i64 (((out.length:Nat):Int)-1)-(i:Int)))=some (atB out (i+1)):=by
 have g:out.length<1000000:=g
 grind[a0D,a0B,atB]
theorem b3e{out c:List Int}{s:Int}(f:short out)(a:short c):∀(k i:Nat)(acc:Int),i+k=c.length→
  y0s a2A (out,s,acc,c,(c.length:Int),(i:Int),())=some (s,b8u out (c.drop i) i acc,())
 |0,i,acc,h=>by
  obtain rfl:i=c.length:=by omega
  simp_all[a0H,a2A,b8u]
 |k+1,i,acc,h=>by
  have g:i<c.length:=by omega
  have e:out.length<1000000:=f;have d:c.length<1000000:=a;rw[a02 g,b8u];have j:wrap .i64 (((out.length:Nat):Int)-1)=((out.length:Nat):Int)-1:=a0D (by omega);have l:wrap .i64 (((out.length:Nat):Int)-1-(i:Int))=((out.length:Nat):Int)-1-(i:Int):=a0D (by omega)
  by_cases hi:i<out.length
  have b:decide (wrap .i64 (wrap .i64 (((out.length:Nat):Int)-1)-(i:Int))<0)=false:=by grind
  simp[hi];rw[a0I (s':=(out,s,W (acc+W (c[i]*atB out (i+1))),c,(c.length:Int),((i+1:Nat):Int),())) (by
   simp only[a2A,dlt g,cT,a0B g,oB,b,cF,c6r hi f,a0C (show i<1000000 by omega)])]
  exact b3e f a k (i+1) _ (by omega);have b:decide (wrap .i64 (wrap .i64 (((out.length:Nat):Int)-1)-(i:Int))<0)=true:=by grind
  simp[hi];simp_all[a0H,a2A,a0B]
theorem b1U{out:List Int}{s:Int}(g:short out)(h:short c)(f:0≤s):a3J (out,c,s)=some (a8w c s out):=by
 have:=b3e (s:=s) g h c.length 0 0 (by omega)
 grind[a3J,a8w]
def a9V(warm rest c:List Int)(s:Int):Option (List Int):=bif warm.all a0A&&rest.all a0A then a3s (a8w c s) rest warm else none
theorem b1v{warm rest:List Int}{s:Int}(o:a7M c s=true)(w:warm.length=c.length)(v:rest.length<100000):
  a5J (warm,rest,c,s)=some (a4b (a9V warm rest c s)):=by
 have g:=o;simp only[a7M,bA,dT]at g;have k:short c:=by unfold short;omega
 have m:short warm:=by unfold short;omega
 have l:short rest:=by unfold short;omega
 unfold a5J;have q:(((warm.length:Nat):Int) != ((c.length:Nat):Int))=false:=by simp_all
 simp only[a7F k,o,oB,bT,cF,q,a4R m,a4R l,a9V];cases hw1:warm.all a0A with
 |false=>rfl
 |true=>
  simp only[bT,cF,oB,a38];cases hw2:rest.all a0A with
  |false=>rfl
  |true=>
   have p:wrap .i64 (((warm.length:Nat):Int)+((rest.length:Nat):Int))=((warm.length+rest.length:Nat):Int):=by grind[a0D]
   have r:(0:Int)≤((warm.length+rest.length:Nat):Int):=by omega
   simp only[bT,cF,cT,p,r,decide_true,tN,a0P (show warm.length+rest.length<1000000 by omega),a0P (show 0+warm.length<1000000 by omega),a03,a06,a16]
   have:=a1E (f:=a5t) rest (fun i out=>(c,s,rest,(rest.length:Int),(i:Int),out,())) (b0R (a8w c s) (Sum.inr ((6:Int),([]:List Int),())))
    (fun i out=>out.length≤warm.length+i) (fun out=>Sum.inl (out,()))
    (fun i h out u=>by
     have d:i<1000000:=by omega
     have j:short out:=by unfold short;omega
     have e:wrap .i64 (a8w c s out+rest[i])=W (rest[i]+a8w c s out):=by grind
     simp only[a5t,dlt h,cT,a0B h,oB,b1U j k g.2.2.1,e,a5f,b0R];cases hb:a0A (W (rest[i]+a8w c s out))with
     |true=>
      simp only[cT,bT,cF,a0P (show out.length+1<1000000 by omega),a0C d];refine⟨fun t n=>?_,fun b hb=>(by grind)⟩;simp at n;subst n;exact⟨rfl,by grind⟩
     |false=>
      simp)
    (fun out _=>by simp[a5t]) (a:=warm) (by omega)
   simp[a9D]at this;rw[this];cases a3s (a8w c s) rest warm<;>rfl
def b8v(out:List Int)(lag:Int):List Int→Nat→Int→Int
 | [],_,acc=>acc
 |t::r,i,acc=>b8v out lag r (i+1) (bif decide (0≤(out.length:Int)-lag-1+i)then W (acc+W (t*out.getD ((out.length:Int)-lag-1+i).toNat 0))else acc)
def a7G(lag:Int)(t:List Int)(out:List Int):Int:=A0o .i64 (b8v out lag t 0 0) 6
theorem b8w{out:List Int}{j:Int}(g:0≤j)(h:j<out.length):m0k out j=some (out.getD j.toNat 0):=by
 obtain⟨n,rfl⟩:=a01 g;simp_all[a0B]
theorem c5F{n:Nat}(h:2≤lag)(g:lag≤1024)(k:n<1000000)(f:i<3):
  wrap .i64 (wrap .i64 (wrap .i64 ((n:Int)-lag)-1)+(i:Int))=(n:Int)-lag-1+i:=by
 grind[a0D]
theorem c3e{n:Nat}(h:j<n):(l.take n).getD j 0=l.getD j 0:=by
 simp_all
theorem a7o{l t:List Int}{lag:Int}{n:Nat}(m:n≤l.length)(j:short l)(o:t.length=3)(a:2≤lag)(b:lag≤1024):∀(k i:Nat)(acc:Int),i+k=3→
  y0s a3m (l,(n:Int),lag,acc,t,(i:Int),())=some (b8v (l.take n) lag (t.drop i) i acc,())
 |0,i,acc,h=>by
  obtain rfl:i=t.length:=by omega
  grind[a0H,a3m,b8v]
 |k+1,i,acc,h=>by
  have g:i<t.length:=by omega
  have f:decide ((i:Int)<3)=true:=by grind
  have p:l.length<1000000:=j;have d:(l.take n).length=n:=by simp_all
  have e:=c5F (n:=n) (i:=i) a b (by omega) (by omega);rw[a02 g,b8v,d]
  by_cases hp:0≤(n:Int)-lag-1+i
  have c:decide ((n:Int)-lag-1+i≥0)=true:=by simp_all
  simp only[hp,decide_true,cT];rw[c3e (show((n:Int)-lag-1+i).toNat<n by omega),a0I (s':=(l,(n:Int),lag,W (acc+W (t[i]*l.getD ((n:Int)-lag-1+i).toNat 0)),t,((i+1:Nat):Int),())) (by
   simp only[a3m,f,cT,a0B g,oB,e,c,b8w hp (show(n:Int)-lag-1+(i:Int)<(l.length:Int)by omega),a0C (show i<1000000 by omega)])]
  exact a7o m j o a b k (i+1) _ (by omega);have c:decide ((n:Int)-lag-1+i≥0)=false:=by simp_all
  simp[hp];rw[a0I (s':=(l,(n:Int),lag,acc,t,((i+1:Nat):Int),())) (by
   simp only[a3m,f,cT,a0B g,oB,e,c,cF,a0C (show i<1000000 by omega)])]
  exact a7o m j o a b k (i+1) _ (by omega)
theorem b0S{l t:List Int}{lag:Int}{n:Nat}(f:n≤l.length)(k:short l)(a:t.length=3)(h:2≤lag)(g:lag≤1024):
  a3y (l,(n:Int),lag,t)=some (a7G lag t (l.take n)):=by
 have:=a7o (t:=t) f k a h g 3 0 0 (by rfl)
 simp_all[a3y,a7G]
theorem b4M{out:List Int}(f:short out)(k:t.length=3)(h:2≤lag)(g:lag≤1024):a3y (out,(out.length:Int),lag,t)=some (a7G lag t out):=by
 simp_all[b0S]
def b0T(rest:List Int)(lag:Int)(t:List Int):Option (List Int):=bif rest.all a0A then a3s (a7G lag t) rest []else none
theorem b8x{rest:List Int}(d:a9a lag t=true)(e:t.length=3)(m:rest.length<100000):a8M (rest,lag,t)=some (a4b (b0T rest lag t)):=by
 have g:=d;simp only[a9a,bA,dT]at g;have k:short rest:=by unfold short;omega
 unfold a8M;simp only[b1i e,d,oB,bT,cF,b0Q k,b0T];cases hw2:rest.all a0A with
 |false=>rfl
 |true=>
  have l:(0:Int)≤((rest.length:Nat):Int):=by omega
  simp[a0P k]
  have:=a1E (f:=a6R) rest (fun i out=>(lag,rest,(rest.length:Int),(i:Int),out,t,())) (b0R (a7G lag t) (Sum.inr ((6:Int),([]:List Int),())))
   (fun i out=>out.length=i) (fun out=>Sum.inl (out,()))
   (fun i h out j=>by
    have b:i<1000000:=by omega
    have c:short out:=by unfold short;omega
    have hp:=b4M (out:=out) (t:=t) (lag:=lag) c e g.1 g.2.1;rw[j]at hp;simp only[a6R,dlt h,cT,a0B h,oB,hp,a6D,b0R];cases hb:a0A (W (rest[i]+a7G lag t out))with
    |true=>
     simp only[cT,bT,cF,a0P (show out.length+1<1000000 by omega),a0C b];simp_all
    |false=>
     simp)
   (fun out _=>by simp[a6R]) (a:=[]) rfl
  simp[a9D]at this;rw[this];cases a3s (a7G lag t) rest []<;>rfl
def b4N{β:Type}(n:Int)(bad:β)(out:List Int)(x:Int):List Int ⊕ β:=bif a0A x&&a0A (A0n .i64 x n)then .inl (out++[A0n .i64 x n])else .inr bad
def upO(n:Int)(l:List Int):Option (List Int):=bif l.all (fun x=>a0A x&&a0A (A0n .i64 x n))then some (l.map fun x=>A0n .i64 x n)else none
theorem b3G{β:Type}(n:Int)(h:β)(g:List Int→β):∀(l out:List Int),a7n g (a2n (b4N n h) l out)=match upO n l with|some r=>g (out++r)|none=>h
 | [],out=>by simp[a2n,a7n,upO]
 |x::l,out=>by
  simp only[a2n,b4N,upO,a07];cases hx:(a0A x&&a0A (A0n .i64 x n))with
  |true=>
   simp only[cT,a38];rw[b3G n h g l _];simp only[upO];cases l.all (fun x=>a0A x&&a0A (A0n .i64 x n))with
   |true=>simp
   |false=>rfl
  |false=>rfl
theorem b8y(d:0≤n)(e:n≤30)(m:l.length<100000):a7u (l,n)=some (a4b (upO n l)):=by
 have c:short l:=by unfold short;omega
 have g:¬ n<0:=by omega
 have b:¬ n > 30:=by omega
 unfold a7u;simp[g,b]
 have:=a1E (f:=a6S) l (fun i out=>(n,l,(l.length:Int),(i:Int),out,())) (b4N n (Sum.inr ((6:Int),([]:List Int),())))
  (fun i out=>out.length=i) (fun out=>Sum.inl (out,()))
  (fun i h out j=>by
   have k:i<1000000:=by omega
   simp only[a6S,dlt h,cT,a0B h,oB,b1u,b4N,g,decide_false,cF];cases hb:a0A l[i]with
   |true=>
    cases hb2:a0A (A0n .i64 l[i] n)with
    |true=>
     simp only[cT,bT,cF,oB,g,decide_false,a0P (show out.length+1<1000000 by omega),a0C k,a03];simp_all
    |false=>
     simp
   |false=>
    simp)
  (fun out _=>by simp[a6S]) (a:=[]) rfl
 simp[b3G]at this;rw[this];cases upO n l<;>rfl
@[reducible] def Fil:Type:=Int×((List Int)×((List Int)×Unit))
def a1X(x:Int):Int:=v0s (v0r x (-1073741824)) 1073741823
def b4O(x:Int):Int:=v0s (v0r x (-1048576)) 1048576
theorem b8z(x:Int):-1048576≤b4O x∧b4O x≤1048576:=by
 grind[b4O,c1b,c5D]
def c2g:List Int→List Int→Int→Int
 |a::w,b::h,acc=>c2g w h (W (acc+W (a*b)))
 |_,_,acc=>acc
def a0Z(f:Fil):Int:=a1X (A0o .i64 (c2g f.2.1 f.2.2.1 0) 16)
structure FilOk (f:Fil):Prop where
 len:f.2.1.length=f.2.2.1.length
 pos:1≤f.2.1.length
 most:f.2.1.length≤32
 rate:0≤f.1∧f.1≤8
 small:∀x∈f.2.1,-1048576≤x∧x≤1048576
theorem b4f(h:i<l.length):a86 l i 0=l[i]:=by
 simp_all
theorem a9W{f:Fil}(c:FilOk f):∀(k i:Nat)(acc:Int),i+k=f.2.1.length→
  y0s a2y (acc,(f.2.1.length:Int),(i:Int),f,())=some (c2g (f.2.1.drop i) (f.2.2.1.drop i) acc,f,())
 |0,i,acc,h=>by
  obtain rfl:i=f.2.1.length:=by omega
  rw[a49,a0H (b:=(acc,f,())) (by simp[a2y])];rfl
 |k+1,i,acc,h=>by
  have g:i<f.2.1.length:=by omega
  have a:i<f.2.2.1.length:=by rw[←c.len];omega
  have e:=c.most;rw[a02 g,a02 a,c2g];have d:decide ((0:Int)≤(i:Int))=true:=by simp
  rw[a0I (s':=(W (acc+W (f.2.1[i]*f.2.2.1[i])),(f.2.1.length:Int),((i+1:Nat):Int),f,())) (by
   simp only[a2y,dlt g,dlt a,d,cT,a03,tN,b4f g,b4f a,a0C (show i<1000000 by omega)])]
  exact a9W c k (i+1) _ (by omega)
theorem a5h{f:Fil}(h:FilOk f):a1G f=some (a0Z f,f):=by
 have:=a9W h f.2.1.length 0 0 (by omega)
 simp at this;unfold a1G;simp only[this,oB,a4m];rfl
def b3q(x:Int):Int:=if 0<x then 1 else if x<0 then -1 else 0
def a9b(r:Int)(x g:Int):Int:=b3q (x-g)*2^r.toNat
def b1V(st:Int)(w h:Int):Int:=b4O (W (w+b3q h*st))
def a9G(f:Fil)(x:Int):Fil:=
 (f.1,a31 (b1V (a9b f.1 (a1X x) (a0Z f))) f.2.1 f.2.2.1,a1X x::f.2.2.1.take (f.2.2.1.length-1),f.2.2.2)
theorem b8A{f:Fil}(k:FilOk f)(x:Int):FilOk (a9G f x):=by
 obtain⟨a,b,c,g,d⟩:=k;have e:(a31 (b1V (a9b f.1 (a1X x) (a0Z f))) f.2.1 f.2.2.1).length=f.2.1.length:=by simp_all
 refine⟨?_,?_,?_,g,?_⟩;show(a31 _ _ _).length=(a1X x::f.2.2.1.take (f.2.2.1.length-1)).length;simp_all;show 1≤(a31 _ _ _).length;omega;show(a31 _ _ _).length≤32;omega;intro y h;have h:y∈a31 (b1V (a9b f.1 (a1X x) (a0Z f))) f.2.1 f.2.2.1:=h;obtain⟨i,j,rfl⟩:=List.mem_iff_getElem.1 h
 simp
 exact b8z _
theorem b1j(x:Int):(0<x∧b3q x=1)∨(x<0∧b3q x=-1)∨(x=0∧b3q x=0):=by
 unfold b3q;omega
theorem b4g{r:Int}(h:0≤r∧r≤8):(2:Int)^r.toNat≤256∧1≤(2:Int)^r.toNat:=by
 have:r.toNat=0∨r.toNat=1∨r.toNat=2∨r.toNat=3∨r.toNat=4∨r.toNat=5∨r.toNat=6∨r.toNat=7∨r.toNat=8:=by omega
 rcases this with e|e|e|e|e|e|e|e|e<;>rw[e]<;>decide
theorem c3f{r:Int}(h:0≤r∧r≤8)(g:-1≤x∧x≤1):A0n .i64 x r=x*2^r.toNat:=by
 have hp:=b4g h;have hb:min r.toNat 64=r.toNat:=by omega
 unfold A0n;show wrap .i64 (x*2^(min r.toNat 64))=_;rw[hb]
 have:x=-1∨x=0∨x=1:=by omega
 rcases this with rfl|rfl|rfl
 all_goals grind[a0D]
theorem b7z{f:Fil}(a:FilOk f)(x:Int):
  (bif decide (a1X x > a0Z f)then bif decide (f.1<0)then(none:Option (Int×Int×Fil×Unit))else some (a1X x,A0n .i64 (1:Int) f.1,f,())
   else bif decide (a1X x<a0Z f)then bif decide (f.1<0)then none else some (a1X x,wrap .i64 (0-(A0n .i64 (1:Int) f.1)),f,())
   else some (a1X x,(0:Int),f,()))=some (a1X x,a9b f.1 (a1X x) (a0Z f),f,()):=by
 have d:¬ f.1<0:=by have:=a.rate;omega
 have hp:=b4g a.rate;have b:=c3f a.rate (x:=1) (by omega);rw[Int.one_mul]at b;rcases b1j (a1X x-a0Z f)with⟨c,h⟩|⟨c,h⟩|⟨c,h⟩;have g:a1X x > a0Z f:=by omega
 simp only[g,d,decide_true,decide_false,cT,cF,a9b,h,Int.one_mul,b];have g:¬ a1X x > a0Z f:=by omega
 have k:a1X x<a0Z f:=by omega
 simp only[g,k,d,decide_true,decide_false,cT,cF,a9b,h,b]
 grind[a0D]
 have g:¬ a1X x > a0Z f:=by omega
 have k:¬ a1X x<a0Z f:=by omega
 simp only[g,k,decide_false,cF,a9b,h,Int.zero_mul]
theorem c4f{z:List Int}(f:i<l.length)(k:z.length=l.length):(z.take i++l.drop i).set i (z[i]'(by omega))=z.take (i+1)++l.drop (i+1):=by
 have h:(z.take i).length=i:=by grind
 have g:z.take (i+1)=z.take i++[z[i]'(by omega)]:=by simp
 rw[a71 _ _ (by omega),h,a56,a02 f,a59,g,aA];rfl
theorem c4g{z:List Int}(h:i<l.length)(g:z.length=l.length):a86 (z.take i++l.drop i) i 0=l[i]:=by
 grind
theorem c3g{f:Fil}(g:FilOk f)(h:i<f.2.1.length):-1048576≤f.2.1[i]∧f.2.1[i]≤1048576:=g.small _ (a05 h)
theorem b4P{f:Fil}(n:FilOk f){x1 st:Int}(u:-256≤st∧st≤256):
  y0s a1V (x1,st,(f.2.2.1.length:Int),(0:Int),f,())=some (x1,(f.1,a31 (b1V st) f.2.1 f.2.2.1,f.2.2),()):=by
 obtain⟨z,w⟩:∃z,a31 (b1V st) f.2.1 f.2.2.1=z:=⟨_,rfl⟩;have q:=n.len;have d:z.length=f.2.1.length:=by grind
 have v:=n.most
 have:=a2m (f:=a1V) (fun i=>(x1,st,(f.2.2.1.length:Int),(i:Int),(f.1,z.take i++f.2.1.drop i,f.2.2),()))
  f.2.2.1.length (b:=(x1,(f.1,z,f.2.2),())) (fun i p=>by
   have k:i<f.2.1.length:=by omega
   have j:decide ((0:Int)≤(i:Int))=true:=by simp
   have s:(z.take i++f.2.1.drop i).length=f.2.1.length:=by grind
   have g:decide ((i:Int)<((z.take i++f.2.1.drop i).length:Int))=true:=by simp_all
   have o:z[i]'(by omega)=b1V st f.2.1[i] f.2.2.1[i]:=by grind
   have t:=c3g n k;have h:=c4f k d;rw[o]at h;simp only[a1V,dlt p,j,g,cT,a03,tN,b4f p,c4g k d];rcases b1j f.2.2.1[i]with⟨m,a⟩|⟨m,a⟩|⟨m,a⟩;have c:f.2.2.1[i] > 0:=m;simp[b1V,a]at h;simp only[c,decide_true,cT,oB,j,g,a03,tN,a0C (show i<1000000 by omega)];exact congrArg (fun l=>some (Sum.inl (x1,st,(f.2.2.1.length:Int),((i+1:Nat):Int),(f.1,l,f.2.2),()))) h;have c:¬ f.2.2.1[i] > 0:=by omega
   have e:f.2.1[i]+-1*st=f.2.1[i]-st:=by omega
   simp only[b1V,a,e]at h;simp only[c,m,decide_true,decide_false,cT,cF,oB,j,g,a03,tN,a0C (show i<1000000 by omega)];exact congrArg (fun l=>some (Sum.inl (x1,st,(f.2.2.1.length:Int),((i+1:Nat):Int),(f.1,l,f.2.2),()))) h;have c:¬ f.2.2.1[i] > 0:=by omega
   have r:¬ f.2.2.1[i]<0:=by omega
   have e:W (f.2.1[i]+0*st)=f.2.1[i]:=by rw[Int.zero_mul,Int.add_zero];exact a0D (by omega)
   simp only[b1V,a,e]at h;simp only[c,r,decide_false,cF,oB,j,g,cT,a03,tN,a0C (show i<1000000 by omega)];exact congrArg (fun l=>some (Sum.inl (x1,st,(f.2.2.1.length:Int),((i+1:Nat):Int),(f.1,l,f.2.2),()))) h)
  (by
   simp_all[a47,a1V])
 simp_all
theorem c0E{f:Fil}(k:FilOk f)(x g:Int):-256≤a9b f.1 x g∧a9b f.1 x g≤256:=by
 have hp:=b4g k.rate;unfold a9b;rcases b1j (x-g)with⟨-,h⟩|⟨-,h⟩|⟨-,h⟩<;>rw[h]<;>omega
theorem b2z{f:Fil}(h:FilOk f)(x:Int):a2B (f,x)=some (a9G f x):=by
 unfold a2B;have d:=b7z h x;simp only[a4m,oB,a5h h];have g:(bif decide (v0s (v0r x (-1073741824)) 1073741823 > a0Z f)then bif decide (f.1<0)then(none:Option (Int×Int×Fil×Unit))else some (v0s (v0r x (-1073741824)) 1073741823,A0n .i64 (1:Int) f.1,f,())
   else bif decide (v0s (v0r x (-1073741824)) 1073741823<a0Z f)then bif decide (f.1<0)then none else some (v0s (v0r x (-1073741824)) 1073741823,wrap .i64 (0-(A0n .i64 (1:Int) f.1)),f,())
   else some (v0s (v0r x (-1073741824)) 1073741823,(0:Int),f,()))=_:=d
 rw[g];simp only[oB,b4P h (c0E h _ _)];have i:f.2.2.1.length≥1:=by have:=h.pos;have:=h.len;omega
 have b:decide ((1:Int)≤((f.2.2.1.length:Nat):Int))=true:=by grind
 have e:p0h f.2.2.1 1 (f.2.2.1.length-1) f.2.2.1=f.2.2.1.take 1++f.2.2.1.take (f.2.2.1.length-1):=by
  simp_all[p0h]
 have j:(f.2.2.1.take 1++f.2.2.1.take (f.2.2.1.length-1)).length=f.2.2.1.length:=by simp_all
 have c:decide ((0:Int)<(((f.2.2.1.take 1++f.2.2.1.take (f.2.2.1.length-1)).length:Nat):Int))=true:=by grind
 simp only[b,cT,e,c];congr 1;have k:(f.2.2.1.take 1++f.2.2.1.take (f.2.2.1.length-1)).set 0 (a1X x)=a1X x::f.2.2.1.take (f.2.2.1.length-1):=by
  cases hc:f.2.2.1 with
  |nil=>simp_all
  |cons a l=>simp
 rw[k];rfl
@[reducible] def Stg:Type:=Int×(Int×Unit)
variable {st:List Stg}
theorem a6F{l:List Int}(h:short l):a0X l=some l:=by
 have g:lim (0+l.length)=true:=a0P (by unfold short at h;omega);simp_all[a0X,x0e]
def a8x(s:Stg):Fil:=(s.2.1,a00 s.1.toNat 0,a00 s.1.toNat 0,())
theorem c1c{s:Stg}(h:stageB s=true):FilOk (a8x s):=by
 simp[stageB]at h;refine⟨by rfl,by simp[a8x];omega,by simp[a8x];omega,⟨h.2.2.1,h.2.2.2⟩,fun x g=>?_⟩;simp_all[a8x]
theorem a9X{s:Stg}(h:stageB s=true):a7r s=some (a8x s,0):=by
 have g:=h;simp[stageB]at g;unfold a7r;have f:decide ((0:Int)≤s.1)=true:=by grind
 have k:decide (s.1≤s.1)=true:=by simp
 have a:lim s.1.toNat=true:=a0P (by omega);simp only[a8v,h,oB,bT,cF,f,k,a,a03,cT];rfl
def stO:List Int→List Int→Fil→Option (List Int)
 | [],done,_=>some done
 |r::rs,done,f=>bif a0A (W (a0Z f+r))then stO rs (done++[W (a0Z f+r)]) (a9G f (W (a0Z f+r)))else none
theorem b1W:∀(l done:List Int)(f:Fil){r},stO l done f=some r→r.length=done.length+l.length
 | [],done,f,r,h=>by simp_all[stO]
 |x::l,done,f,r,h=>by
  simp[stO]at h;cases hw:a0A (W (a0Z f+x))with
  |true=>rw[hw]at h;rw[b1W l _ _ h];grind
  |false=>simp_all
theorem b0U{done:List Int}(g:done.length=i)(h:i<row.length):a86 (done++row.drop i) i 0=row[i]:=by
 grind
theorem b8B{done:List Int}(g:done.length=i)(h:i<row.length)(y:Int):(done++row.drop i).set i y=(done++[y])++row.drop (i+1):=by
 rw[a71 _ _ (by omega),g,a56,a02 h,a59,aA];rfl
theorem b0V{row b4:List Int}{b5:Int}(e:short row):∀(k i:Nat)(done:List Int)(f:Fil),i+k=row.length→done.length=i→FilOk f→
  ∃z,y0s a4p ((row.length:Int),(i:Int),b4,b5,done++row.drop i,f,())=some z∧
   match stO (row.drop i) done f with
   |some r=>z=.inl (b4,b5,r,())
   |none=>∃q,z=.inr (([]:List Int),(6:Int),q,())
 |0,i,done,f,h,hd,hf=>by
  obtain rfl:i=row.length:=by omega
  rw[a49,a39];exact⟨_,a0H (b:=Sum.inl (b4,b5,done,())) (by simp[a4p]),rfl⟩
 |k+1,i,done,f,h,hd,hf=>by
  have g:i<row.length:=by omega
  have j:row.length<1000000:=e;have c:decide ((0:Int)≤(i:Int))=true:=by simp
  have l:(done++row.drop i).length=row.length:=by grind
  have d:decide ((i:Int)<(((done++row.drop i).length:Nat):Int))=true:=by simp_all
  have a:stO (row.drop i) done f=bif a0A (W (a0Z f+row[i]))then stO (row.drop (i+1)) (done++[W (a0Z f+row[i])]) (a9G f (W (a0Z f+row[i])))else none:=by
   rw[a02 g];rfl
  rw[a];cases hw:a0A (W (a0Z f+row[i]))with
  |true=>
   rw[a0I (s':=((row.length:Int),((i+1:Nat):Int),b4,b5,(done++[W (a0Z f+row[i])])++row.drop (i+1),a9G f (W (a0Z f+row[i])),())) (by
    simp only[a4p,dlt g,c,d,cT,a03,a5h hf,oB,tN,b0U hd g,a4g,hw,bT,cF,b2z hf,b8B hd g,a0C (show i<1000000 by omega)])]
   exact b0V e k (i+1) _ _ (by omega) (by simp_all) (b8A hf _)
  |false=>
   exact⟨_,a0H (b:=Sum.inr (([]:List Int),(6:Int),done++row.drop i,())) (by
    simp only[a4p,dlt g,c,d,cT,a03,a5h hf,oB,tN,b0U hd g,a4g,hw,a27]),_,rfl⟩
def lO:List Stg→List Int→Option (List Int)
 | [],row=>some row
 |s::r,row=>match stO row [] (a8x s)with
  |some row'=>lO r row'
  |none=>none
theorem c0F{s:Stg}{b4:List Int}(h:stageB s=true)(b:short row):
  ∃z,a6q k s (st,b4,(0:Int),row,())=some z∧match stO row [] (a8x s)with
   |some r=>z=.inl (st,b4,(0:Int),r,())
   |none=>∃q,z=.inr (.ret,st,([]:List Int),(6:Int),q,()):=by
 obtain⟨z,g,f⟩:=b0V (b4:=b4) (b5:=0) b row.length 0 [] (a8x s) (by omega) rfl (c1c h);simp at g f;unfold a6q;have a:((0:Int) != 0)=false:=rfl;simp[a9X h,g];cases hst:stO row [] (a8x s)with
 |some r=>
  simp_all
 |none=>
  grind
theorem b3H{st l:List Stg}{b4:List Int}(f:∀s∈l,stageB s=true):∀(n:Nat)(row:List Int),n≤l.length→short row→
  ∃z,l0f a6q l n (st,b4,(0:Int),row,())=some z∧match lO (l.take n).reverse row with
   |some r=>z=.inl (st,b4,(0:Int),r,())
   |none=>∃q,z=.inr (.ret,st,([]:List Int),(6:Int),q,())
 |0,row,_,_=>⟨_,rfl,rfl⟩
 |n+1,row,hn,hs=>by
  have h:n<l.length:=by omega
  obtain⟨z,a,g⟩:=c0F (st:=st) (k:=(n:Int)) (b4:=b4) (f _ (a05 h)) hs;have b:(l.take (n+1)).reverse=l[n]::(l.take n).reverse:=by simp
  simp[l0f,lG h,a,b,lO];cases hst:stO row [] (a8x l[n])with
  |some r=>
   rw[hst]at g;simp at g;subst g;exact b3H f n r (by omega) (by have:=b1W _ _ _ hst;unfold short at hs⊢;simp_all)
  |none=>
   grind
def a9n(rest:List Int)(st:List Stg):Option (List Int):=bif rest.all a0A then lO st.reverse rest else none
theorem b7A{rest:List Int}(a:a7w st=true)(c:rest.length<100000):a8c (rest,st)=some (a4b (a9n rest st)):=by
 have f:=a;simp only[a7w,bA,dT]at f;have k:short st:=by unfold short;omega
 have h:short rest:=by unfold short;omega
 unfold a8c;simp only[a9U k,a,oB,bT,cF,a9T h,a9n];cases hw:rest.all a0A with
 |false=>rfl
 |true=>
  obtain⟨z,b,g⟩:=b3H (st:=st) (b4:=[]) (lA.1 f.2) st.length rest (a26 _) h;rw[a18]at g;simp[a6F h,a0P k,b];cases hst:lO st.reverse rest with
  |some r=>
   rw[hst]at g;simp at g;subst g;rfl
  |none=>
   rw[hst]at g;obtain⟨q,rfl⟩:=g;rfl
def a5i(n warm:Int):Bool:=decide (1≤n)&&(decide (n≤4096)&&(decide (0≤warm)&&decide (warm≤n)))
theorem a9Y(n warm:Int):a6c (n,warm)=some (a5i n warm):=by
 grind[a6c,a5i]
theorem c6s(h:o≤8):1≤2^o∧2^o≤256:=by
 have:o=0∨o=1∨o=2∨o=3∨o=4∨o=5∨o=6∨o=7∨o=8:=by omega
 grind
theorem b8C(h:o≤64):A0o .i64 (N:Int) (o:Int)=((N / 2^o:Nat):Int):=by
 unfold A0o;show a78 (N:Int) (2^(min (o:Int).toNat 64))=_
 grind
theorem b4h(h:o≤64)(g:N*2^o<9223372036854775808):A0n .i64 (N:Int) (o:Int)=((N*2^o:Nat):Int):=by
 unfold A0n;show wrap .i64 ((N:Int)*2^(min (o:Int).toNat 64))=_
 grind[a0D]
def b1w(o N:Nat)(warm:Int):List Int:=
 if N%2^o=0∧warm≤((N / 2^o:Nat):Int)then(((N / 2^o:Nat):Int)-warm)::a00 (2^o-1) ((N / 2^o:Nat):Int)else[]
def a1z(order n warm:Int):List Int:=bif a5i n warm&&(decide (0≤order)&&decide (order≤8))then b1w order.toNat n.toNat warm else[]
theorem a1H(order n warm:Int):a2s (order,n,warm)=some (a1z order n warm):=by
 unfold a2s a1z;simp only[a9Y,oB];cases hr:a5i n warm with
 |false=>rfl
 |true=>
  simp[a5i]at hr;simp only[bT,cF,a38]
  by_cases h1:order<0
  grind
  by_cases h2:order > 8
  grind
  obtain⟨o,rfl⟩:=a01 (show 0≤order by omega);obtain⟨N,rfl⟩:=a01 (show 0≤n by omega);have p:o≤8:=by omega
  have q:N≤4096:=by omega
  have hp:=c6s p;have m:N / 2^o*2^o≤N:=a76 N _;have l:(0:Int)≤(o:Int):=by omega
  have g8:(o:Int)≤8:=by omega
  simp only[h1,h2,l,g8,decide_true,decide_false,cF,cT,a03,oB,b8C (N:=N) (show o≤64 by omega),b4h (N:=N / 2^o) (show o≤64 by omega) (by omega),tN];have g:=a68 N (2^o);rw[a67]at g
  by_cases hm:N%2^o=0
  have k:(((N / 2^o*2^o:Nat):Int) != (N:Int))=false:=by simp_all
  by_cases hw:warm≤((N / 2^o:Nat):Int)
  have c:decide (((N / 2^o:Nat):Int)<warm)=false:=decide_eq_false (Int.not_lt.2 hw);have e:wrap .i64 (((N / 2^o:Nat):Int)-warm)=((N / 2^o:Nat):Int)-warm:=a0D (by have:=a32 N (2^o);omega);simp only[k,c,e,cF,oB,b1w,hm,hw,and_self,if_true];have d:A0n .i64 (1:Int) (o:Int)=((2^o:Nat):Int):=by have:=b4h (N:=1) (show o≤64 by omega) (by omega);simp_all
  have:=a2m (f:=a5s) (fun i=>((o:Int),((N / 2^o:Nat):Int),(((N / 2^o:Nat):Int)-warm)::a00 i ((N / 2^o:Nat):Int),())) (2^o-1)
   (b:=((((N / 2^o:Nat):Int)-warm)::a00 (2^o-1) ((N / 2^o:Nat):Int),())) (fun i r=>by
    have a:decide ((((((N / 2^o:Nat):Int)-warm)::a00 i ((N / 2^o:Nat):Int)).length:Int)<((2^o:Nat):Int))=true:=by
     grind
    have h:lim (((((N / 2^o:Nat):Int)-warm)::a00 i ((N / 2^o:Nat):Int)).length+1)=true:=a0P (by grind);have j:a00 i ((N / 2^o:Nat):Int)++[((N / 2^o:Nat):Int)]=a00 (i+1) ((N / 2^o:Nat):Int):=by grind[a53]
    simp only[a5s,h1,decide_false,cF,d,a,cT,h,a06,a64,j])
   (by
    have a:decide ((((((N / 2^o:Nat):Int)-warm)::a00 (2^o-1) ((N / 2^o:Nat):Int)).length:Int)<((2^o:Nat):Int))=false:=by
     simp_all
    simp only[a5s,h1,decide_false,cF,d,a])
  simp_all;have c:decide (((N / 2^o:Nat):Int)<warm)=true:=decide_eq_true (Int.not_le.1 hw);simp_all[b1w];have k:(((N / 2^o*2^o:Nat):Int) != (N:Int))=true:=by grind
  simp only[k,cT,oB,b1w,hm,false_and,if_false]
@[reducible] def Prt:Type:=Int×((List Int)×Unit)
variable {p:Prt}
def kB(k:Int):Bool:=(decide (0≤k)&&decide (k≤25)) || (k==31)
def a4A(p:Prt)(n warm:Int):Bool:=!((a1z p.1 n warm).length==0)&&((a1z p.1 n warm).length==p.2.1.length&&p.2.1.all kB)
theorem a9Z(g:short p.2.1):a7s (p,n,warm)=some (a4A p n warm):=by
 have:=a1d (f:=a3z) p.2.1 (fun i=>(p.2.1,(p.2.1.length:Int),(i:Int),())) kB (bt:=Sum.inl ()) (bf:=Sum.inr (false,()))
  (fun i h hp=>by
   simp[kB]at hp
   by_cases h1:p.2.1[i]<0
   omega
   by_cases h2:p.2.1[i] > 25
   have b:p.2.1[i]=31:=by omega
   have a:(p.2.1[i] != 31)=false:=by simp_all
   simp[a3z,a0B h,h,h1,h2,a,a0C (a09 h g)];simp[a3z,a0B h,h,h1,h2,a0C (a09 h g)])
  (fun i h hp=>by
   have hp:¬ (kB p.2.1[i]=true):=by simp_all
   simp only[kB,a97,bA,dT,beq_iff_eq]at hp
   grind[a3z,a0B])
  (by simp[a3z])
 simp at this;unfold a7s a4A;simp[a1H]
 by_cases h0:(a1z p.1 n warm).length=0
 simp_all
 ·have e:((((a1z p.1 n warm).length:Nat):Int)==0)=false:=by simp_all
  have k:((a1z p.1 n warm).length==0)=false:=by simp_all
  simp[e,k]
  by_cases h1:(a1z p.1 n warm).length=p.2.1.length
  all_goals grind
@[reducible] def Sub:Type:=Int×(Int×(Int×(Int×(Int×((List Int)×((List Int)×((List Stg)×((List Int)×(Prt×((List Int)×Unit))))))))))
variable {s:Sub}
structure SmallS (s:Sub):Prop where
 coefs:s.2.2.2.2.2.1.length≤40
 taps:s.2.2.2.2.2.2.1.length=3
 stages:s.2.2.2.2.2.2.2.1.length≤6
 warm:s.2.2.2.2.2.2.2.2.1.length≤5000
 rest:s.2.2.2.2.2.2.2.2.2.2.1.length≤5000
 ks:s.2.2.2.2.2.2.2.2.2.1.2.1.length≤300
theorem a8y(x y:List Int):eqT (.arr 3 (.int .i64)) x y=decide (x=y):=by
 show((a31 (fun(a b:Int)=>a==b) x y).all id&&x.length==y.length)=_
 induction x generalizing y with
 |nil=>cases y<;>simp
 |cons a x ih=>
  cases y with
  |nil=>simp
  |cons b y=>
   grind[List.zipWith_cons_cons]
theorem b1X{l:List Int}(h:short l):a3f l=some l:=a6F h
theorem b3I{l:List Stg}(h:short l):a1f l=some l:=by
 have g:lim (0+l.length)=true:=a0P (by unfold short at h;omega);simp_all[a1f,x0e]
def a3j(k:Int)(s:Sub)(n:Int):Prop:=
 k=0∨k=1∨(k=2∧0≤s.2.2.1∧s.2.2.1≤4∧s.2.2.1≤n)∨(k=3∧a7M s.2.2.2.2.2.1 s.2.2.2.1=true∧(s.2.2.2.2.2.1.length:Int)≤n)∨
  (k=4∧a7M s.2.2.2.2.2.1 s.2.2.2.1=true∧(s.2.2.2.2.2.1.length:Int)≤n∧a9a s.2.2.2.2.1 s.2.2.2.2.2.2.1=true)∨
  (k=5∧0<s.2.2.2.2.2.2.2.1.length∧a7w s.2.2.2.2.2.2.2.1=true)
open Classical in
def b0A (k:Int) (s:Sub) (n:Int):Bool:=decide (a3j k s n)
theorem b1x{s:Sub}(h:SmallS s)(k n:Int):a6w (k,s,n)=some (b0A k s n):=by
 have a:short s.2.2.2.2.2.1:=by have:=h.coefs;unfold short;omega
 have b:short s.2.2.2.2.2.2.2.1:=by have:=h.stages;unfold short;omega
 unfold a6w b0A a3j
 by_cases k0:k=0
 simp_all
 by_cases k1:k=1
 simp_all;have g:(k==0)=false:=by grind
 have f:(k==1)=false:=by grind
 simp only[g,f,cF,oB]
 by_cases k2:k=2
 subst k2
 grind
 by_cases k3:k=3
 subst k3
 grind[a7F]
 by_cases k4:k=4
 subst k4;cases hl:a7M s.2.2.2.2.2.1 s.2.2.2.1<;>by_cases h2:(s.2.2.2.2.2.1.length:Int)≤n<;>simp[a7F a,b1i h.taps,hl,h2]
 by_cases k5:k=5
 ·subst k5
  by_cases h1:0<s.2.2.2.2.2.2.2.1.length
  all_goals simp_all[a9U]
 grind
def a1Q(s:Sub)(n:Int):Int:=if s.1=0 then 1 else if s.1=1 then n else if s.1=2 then s.2.2.1 else if s.1=3∨s.1=4 then(s.2.2.2.2.2.1.length:Int)else 0
theorem a9o(s:Sub)(n:Int):a3H (s,n)=some (a1Q s n):=by
 grind[a3H,a1Q]
def b1y(s:Sub):Prop:=
 (s.1≠2→s.2.2.1=0)∧(s.1≠3∧s.1≠4→s.2.2.2.1=0)∧(s.1≠4→s.2.2.2.2.1=0)∧(s.1≠4→s.2.2.2.2.2.2.1=[0,0,0])∧(s.1≠3∧s.1≠4→s.2.2.2.2.2.1=[])∧(s.1≠5→s.2.2.2.2.2.2.2.1=[])
open Classical in
def b1z (s:Sub):Bool:=decide (b1y s)
theorem a7N{c x:Bool}:(bif c then some x else some false)=some (c&&x):=by grind
theorem c6t{α:Type}(l:List α):(((l.length:Nat):Int)==0)=decide (l=[]):=by
 cases l with
 |nil=>rfl
 |cons a l=>rfl
theorem b6d(x:Int):(x==0)=decide (x=0):=rfl
theorem b8D{s:Sub}(h:SmallS s):a8L s=some (b1z s):=by
 have e:short s.2.2.2.2.2.1:=by have:=h.coefs;unfold short;omega
 have g:short s.2.2.2.2.2.2.2.1:=by have:=h.stages;unfold short;omega
 obtain⟨k,w,o,sh,lag,c,t,st,j,p,r,u⟩:=s;simp only at e g;unfold a8L a4T b1z b1y;have i:(a00 3 (0:Int))=[0,0,0]:=rfl
 by_cases k2:k=2
 simp_all[a8y,a7N,b6d]
 by_cases k4:k=4
 simp_all[a8y,a7N,b6d,b1X]
 by_cases k3:k=3
 simp_all[a8y,a7N,b6d,b1X]
 by_cases k5:k=5
 simp_all[a8y,a7N,b6d,b3I];have f:(k==2)=false:=by grind
 have a:(k==3)=false:=by grind
 have b:(k==4)=false:=by grind
 have d:(k==5)=false:=by grind
 simp[f,a,b,d,k2,k3,k4,k5,a8y,i,a7N,c6t,b6d]
theorem a5n(k:Int):a4W k=some (decide (k≠0∧k≠1)):=by
 unfold a4W
 by_cases h0:k=0
 simp_all
 ·by_cases h1:k=1
  all_goals grind
def a1l(s:Sub)(n:Int):Prop:=
 1≤n∧n≤4096∧a3j s.1 s n∧b1y s∧0≤s.2.1∧s.2.1≤30∧(s.1=0→s.2.1=0)∧(s.2.2.2.2.2.2.2.2.1.length:Int)=a1Q s n∧s.2.2.2.2.2.2.2.2.1.all a0A=true∧s.2.2.2.2.2.2.2.2.2.2.1.all a0A=true∧
  (s.1=0∨s.1=1→s.2.2.2.2.2.2.2.2.2.2.1=[]∧s.2.2.2.2.2.2.2.2.2.1.1=0∧s.2.2.2.2.2.2.2.2.2.1.2.1=[])∧
  (s.1≠0∧s.1≠1→(s.2.2.2.2.2.2.2.2.2.2.1.length:Int)=n-a1Q s n∧a4A s.2.2.2.2.2.2.2.2.2.1 n (a1Q s n)=true)
theorem c0G(h:SmallS s)(a:1≤n)(b:n≤4096)(f:a3j s.1 s n):0≤a1Q s n∧a1Q s n≤4096:=by
 have c:=h.coefs;unfold a1Q;rcases f with k|k|⟨k,g⟩|⟨k,g⟩|⟨k,g⟩|⟨k,g⟩<;>simp[k]<;>omega
open Classical in
theorem c3h {s:Sub} (h:SmallS s) (n:Int):a8a (s,n)=some (decide (a1l s n)):=by
 have hw:short s.2.2.2.2.2.2.2.2.1:=by have:=h.warm;unfold short;omega
 have hr:short s.2.2.2.2.2.2.2.2.2.2.1:=by have:=h.rest;unfold short;omega
 have hk:short s.2.2.2.2.2.2.2.2.2.1.2.1:=by have:=h.ks;unfold short;omega
 unfold a8a
 by_cases h1:1≤n
 rotate_left
 ·have e1:decide (n<1)=true:=by simp_all
  have:¬ a1l s n:=fun hp=>h1 hp.1
  simp_all
 have e1:decide (n<1)=false:=by simp_all
 by_cases h2:n≤4096
 rotate_left
 ·have e2:decide (n > 4096)=true:=by simp_all
  have:¬ a1l s n:=fun hp=>h2 hp.2.1
  simp_all
 have e2:decide (n > 4096)=false:=by simp_all
 by_cases h3:a3j s.1 s n
 rotate_left
 ·have e3:b0A s.1 s n=false:=by simp[b0A,h3]
  have:¬ a1l s n:=fun hp=>h3 hp.2.2.1
  simp_all[b1x]
 have e3:b0A s.1 s n=true:=by simp[b0A,h3]
 by_cases h4:b1y s
 rotate_left
 ·have e4:b1z s=false:=by simp[b1z,h4]
  have:¬ a1l s n:=fun hp=>h4 hp.2.2.2.1
  simp_all[b1x,b8D]
 have e4:b1z s=true:=by simp[b1z,h4]
 simp only[e1,e2,b1x h,e3,b8D h,e4,cF,bT,oB]
 by_cases h5:0≤s.2.1
 rotate_left
 ·have e5:decide (s.2.1<0)=true:=by simp_all
  have:¬ a1l s n:=fun hp=>h5 hp.2.2.2.2.1
  simp_all
 have e5:decide (s.2.1<0)=false:=by simp_all
 by_cases h6:s.2.1≤30
 rotate_left
 ·have e6:decide (s.2.1 > 30)=true:=by simp_all
  have:¬ a1l s n:=fun hp=>h6 hp.2.2.2.2.2.1
  simp_all
 have e6:decide (s.2.1 > 30)=false:=by simp_all
 simp only[e5,e6,cF]
 by_cases h7:s.1=0→s.2.1=0
 rotate_left
 ·have h7a:s.1=0:=Classical.byContradiction fun hc=>h7 fun e=>absurd e hc
  have h7b:(s.2.1 != 0)=true:=by
   simp_all
  have e7:(s.1==0)=true:=by simp_all
  have:¬ a1l s n:=fun hp=>h7 hp.2.2.2.2.2.2.1
  grind
 have e7:(bif s.1==0 then some (n,(s.2.1 != 0,(s,())))else some (n,(false,(s,()))))=some (n,(false,(s,()))):=by
  grind
 simp only[e7,oB,cF,a9o]
 by_cases h8:(s.2.2.2.2.2.2.2.2.1.length:Int)=a1Q s n
 rotate_left
 ·have e8:(((s.2.2.2.2.2.2.2.2.1.length:Nat):Int) != a1Q s n)=true:=by simp_all
  have:¬ a1l s n:=fun hp=>h8 hp.2.2.2.2.2.2.2.1
  grind
 have e8:(((s.2.2.2.2.2.2.2.2.1.length:Nat):Int) != a1Q s n)=false:=by simp_all
 simp only[e8,cF,a3F hw,a3F hr,oB]
 cases h9:s.2.2.2.2.2.2.2.2.1.all a0A with
 |false=>
  have:¬ a1l s n:=fun hp=>by rw[hp.2.2.2.2.2.2.2.2.1]at h9;grind
  simp_all
 |true=>
  cases h10:s.2.2.2.2.2.2.2.2.2.2.1.all a0A with
  |false=>
   have:¬ a1l s n:=fun hp=>by rw[hp.2.2.2.2.2.2.2.2.2.1]at h10;grind
   simp_all
  |true=>
   simp only[bT,cF,oB,a5n]
   have hwr:=c0G h h1 h2 h3
   by_cases k01:s.1≠0∧s.1≠1
   ·have e11:wrap .i64 (n-a1Q s n)=n-a1Q s n:=a0D (by omega)
    simp[k01,e11,a9Z hk]
    by_cases h11:(s.2.2.2.2.2.2.2.2.2.2.1.length:Int)=n-a1Q s n
    ·have e12:(((s.2.2.2.2.2.2.2.2.2.2.1.length:Nat):Int)==n-a1Q s n)=true:=by simp_all
     simp only[e12,cT]
     congr 1
     rw[a98,dT]
     constructor
     ·intro hp
      exact⟨h1,h2,h3,h4,h5,h6,h7,h8,h9,h10,fun hc=>absurd hc (by omega),fun _=>⟨h11,hp⟩⟩
     ·intro hp;exact(hp.2.2.2.2.2.2.2.2.2.2.2 k01).2
    ·have e12:(((s.2.2.2.2.2.2.2.2.2.2.1.length:Nat):Int)==n-a1Q s n)=false:=by simp_all
     have:¬ a1l s n:=fun hp=>h11 (hp.2.2.2.2.2.2.2.2.2.2.2 k01).1
     grind
   ·have k01':s.1=0∨s.1=1:=by omega
    simp[k01,c6t]
    simp only[b6d,a7N]
    congr 1
    rw[a98,dT]
    simp
    constructor
    ·rintro⟨g1,g2,g3⟩
     exact⟨h1,h2,h3,h4,h5,h6,h7,h8,h9,h10,fun _=>⟨g1,g2,g3⟩,fun hc=>absurd hc k01⟩
    ·intro hp;exact hp.2.2.2.2.2.2.2.2.2.2.1 k01'
theorem b1Y{α:Type}[DecidableEq α](q:α→α→Bool)(g:∀a b,q a b=decide (a=b)):∀(x y:List α),x.length=y.length→((x.zip y).all fun p=>q p.1 p.2)=decide (x=y)
 | [],[],_=>by simp
 |a::x,b::y,h=>by
  have f:=b1Y q g x y (by simp_all);simp_all
theorem a9c{x y:List Int}(h:short x):a2t (x,y)=some (decide (x=y)):=by
 unfold a2t
 by_cases hl:x.length=y.length
 have e:(((x.length:Nat):Int) != ((y.length:Nat):Int))=false:=by simp_all
 have l:(x.zip y).length=x.length:=by simp_all
 have:=a1d (f:=a3P) (x.zip y) (fun i=>(x,y,(i:Int),())) (fun p=>p.1==p.2) (bt:=Sum.inl ()) (bf:=Sum.inr (false,()))
  (fun i d hp=>by
   have k:i<x.length:=by omega
   have c:i<y.length:=by omega
   rw[a50]at hp;have hp:x[i]=y[i]:=by simp_all
   have g:(x[i] != y[i])=false:=by simp_all
   simp only[a3P,dlt k,cT,a0B k,a0B c,oB,g,cF,a0C (a09 k h)])
  (fun i d hp=>by
   have k:i<x.length:=by omega
   have c:i<y.length:=by omega
   rw[a50]at hp;have g:(x[i] != y[i])=true:=by simp_all
   simp only[a3P,dlt k,cT,a0B k,a0B c,oB,g])
  (by simp_all[a3P])
 simp at this;simp only[e,cF,this,b1Y (fun(a b:Int)=>a==b) (fun _ _=>rfl) x y hl]
 grind
 have e:(((x.length:Nat):Int) != ((y.length:Nat):Int))=true:=by grind
 have:¬ x=y:=fun j=>hl (by grind)
 grind
theorem b7B{x y:List Stg}(h:short x):a5A (x,y)=some (decide (x=y)):=by
 have k:∀a b:Stg,eqT (.pair (.int .i64) (.pair (.int .i64) .unit)) a b=decide (a=b):=by
  rintro⟨a1,a2,⟨⟩⟩ ⟨b1,b2,⟨⟩⟩
  show((a1==b1)&&((a2==b2)&&true))=_
  grind
 unfold a5A
 by_cases hl:x.length=y.length
 have e:(((x.length:Nat):Int) != ((y.length:Nat):Int))=false:=by simp_all
 have l:(x.zip y).length=x.length:=by simp_all
 have:=a1d (f:=a2F) (x.zip y) (fun i=>(x,y,(i:Int),())) (fun p=>decide (p.1=p.2)) (bt:=Sum.inl ()) (bf:=Sum.inr (false,()))
  (fun i d hp=>by
   have g:i<x.length:=by omega
   have c:i<y.length:=by omega
   rw[a50]at hp;simp only[a2F,dlt g,cT,a0B g,a0B c,oB,k,hp,bT,cF,a0C (a09 g h)])
  (fun i d hp=>by
   have g:i<x.length:=by omega
   have c:i<y.length:=by omega
   rw[a50]at hp;simp only[a2F,dlt g,cT,a0B g,a0B c,oB,k,hp,a27])
  (by simp_all[a2F])
 simp at this;simp only[e,cF,this,b1Y (fun(a b:Stg)=>decide (a=b)) (fun _ _=>rfl) x y hl]
 grind
 have e:(((x.length:Nat):Int) != ((y.length:Nat):Int))=true:=by grind
 have:¬ x=y:=fun j=>hl (by grind)
 grind
open Classical in
theorem c2h {a b:Sub} (h:SmallS a):a7E (a,b)=some (decide (a=b)):=by
 have hc:short a.2.2.2.2.2.1:=by have:=h.coefs;unfold short;omega
 have hst:short a.2.2.2.2.2.2.2.1:=by have:=h.stages;unfold short;omega
 have hw:short a.2.2.2.2.2.2.2.2.1:=by have:=h.warm;unfold short;omega
 have hr:short a.2.2.2.2.2.2.2.2.2.2.1:=by have:=h.rest;unfold short;omega
 have hk:short a.2.2.2.2.2.2.2.2.2.1.2.1:=by have:=h.ks;unfold short;omega
 unfold a7E a8u
 simp only[a9c hc,a9c hw,a9c hr,a9c hk,b7B hst,a8y,oB,a7N]
 congr 1
 grind
theorem c3i(h:a3j k s n):k=0∨k=1∨k=2∨k=3∨k=4∨k=5:=by
 unfold a3j at h;omega
def b4i(warm rest:List Int)(o:Int):Option (List Int):=bif warm.all a0A&&rest.all a0A then a3s (a5g o.toNat) rest warm else none
def backP(s:Sub):Option (List Int):=
 if s.1=1 then some s.2.2.2.2.2.2.2.2.1
 else if s.1=2 then b4i s.2.2.2.2.2.2.2.2.1 s.2.2.2.2.2.2.2.2.2.2.1 s.2.2.1
 else if s.1=3 then a9V s.2.2.2.2.2.2.2.2.1 s.2.2.2.2.2.2.2.2.2.2.1 s.2.2.2.2.2.1 s.2.2.2.1
 else if s.1=4 then(a9V s.2.2.2.2.2.2.2.2.1 s.2.2.2.2.2.2.2.2.2.2.1 s.2.2.2.2.2.1 s.2.2.2.1).bind fun l=>b0T l s.2.2.2.2.1 s.2.2.2.2.2.2.1
 else a9n s.2.2.2.2.2.2.2.2.2.2.1 s.2.2.2.2.2.2.2.1
def b8E(s:Sub)(n:Int):Option (List Int):=
 if s.1=0 then some (a00 n.toNat (s.2.2.2.2.2.2.2.2.1.getD 0 0))else(backP s).bind (upO s.2.1)
theorem b1k{w r c:List Int}{s:Int}{l}(h:a9V w r c s=some l):l.length=w.length+r.length:=by
 unfold a9V at h;cases hc:(w.all a0A&&r.all a0A)with
 |false=>simp_all
 |true=>
  rw[hc]at h;exact(a9E _ r w l (a74.1 hc).1 h).2
theorem c0H{w r:List Int}{o:Int}{l}(h:b4i w r o=some l):l.length=w.length+r.length:=by
 unfold b4i at h;cases hc:(w.all a0A&&r.all a0A)with
 |false=>simp_all
 |true=>
  rw[hc]at h;exact(a9E _ r w l (a74.1 hc).1 h).2
theorem b8F{l}(h:b0T r lag t=some l):l.length=r.length:=by
 unfold b0T at h;cases hc:r.all a0A with
 |false=>simp_all
 |true=>
  rw[hc]at h
  have:=(a9E _ r [] l rfl h).2
  simp_all
theorem b6x:∀(st:List Stg)(r:List Int){l},lO st r=some l→l.length=r.length
 | [],r,l,h=>by simp_all[lO]
 |s::st,r,l,h=>by
  simp only[lO]at h
  split at h
  rename_i f g;rw[b6x st f h,b1W _ _ _ g];simp;cases h
theorem b7C{r:List Int}{st:List Stg}{l}(h:a9n r st=some l):l.length=r.length:=by
 grind[a9n,b6x]
theorem b8G(h:SmallS s){l}(g:backP s=some l):l.length<100000:=by
 have b:=h.warm;have a:=h.rest;unfold backP at g
 split at g
 grind
 split at g
 grind[c0H]
 split at g
 grind[b1k]
 split at g
 obtain⟨l1,f,k⟩:=a43.1 g;rw[b8F k,b1k f];omega
 grind[b7C]
theorem c3j(c:1≤n)(d:n≤4096)(e:s.2.2.2.2.2.2.2.2.1.length=1):
  y0s a5K (n,(0:Int),([]:List Int),s,())=some (a00 n.toNat (s.2.2.2.2.2.2.2.2.1.getD 0 0),()):=by
 obtain⟨N,rfl⟩:=a01 (show 0≤n by omega);have k:m0k s.2.2.2.2.2.2.2.2.1 (0:Int)=some (s.2.2.2.2.2.2.2.2.1.getD 0 0):=b8w (by omega) (by omega)
 have:=a2m (f:=a5K) (fun i=>((N:Int),(i:Int),a00 i (s.2.2.2.2.2.2.2.2.1.getD 0 0),s,())) N
  (b:=(a00 N (s.2.2.2.2.2.2.2.2.1.getD 0 0),())) (fun i a=>by
   have h:lim ((a00 i (s.2.2.2.2.2.2.2.2.1.getD 0 0)).length+1)=true:=a0P (by grind);have g:a00 i (s.2.2.2.2.2.2.2.2.1.getD 0 0)++[s.2.2.2.2.2.2.2.2.1.getD 0 0]=a00 (i+1) (s.2.2.2.2.2.2.2.2.1.getD 0 0):=by grind[a53]
   simp only[a5K,dlt a,cT,k,oB,h,a06,g,a0C (show i<1000000 by omega)])
  (by simp[a5K])
 simp_all
theorem c0I(h:SmallS s)(hp:a1l s n):a9x (s,n)=some (a4b (b8E s n)):=by
 have a:=fun l (d:backP s=some l)=>b8G h d;obtain⟨z,A,C,-,x,v,-,g,K,I,-⟩:=hp;have F:=h.rest;have G:=h.warm;have H:=h.taps;have D:=c3j (s:=s) z A;obtain⟨k,w,o,sh,lag,c,t,st,f,p,r,u⟩:=s;simp only at *;have L:∀l,l.length<100000→a7u (l,w)=some (a4b (upO w l)):=fun l d=>b8y x v d;unfold a9x b8E;rcases C with b|b|⟨b,j,m,y⟩|⟨b,j,m⟩|⟨b,j,m,y⟩|⟨b,j,m⟩
 grind[a1Q,a4b]
 simp_all[backP]
 ·subst b;obtain⟨O,rfl⟩:=a01 j;have m:(O:Int)≤4:=m;simp only[a1Q]at g;have q:f.length=O:=by grind
  have i:=b7y (warm:=f) (rest:=r) (o:=O) (by omega) q (by omega);simp only[backP]at a⊢;simp[i];have e:(bif f.all a0A&&r.all a0A then a3s (a5g O) r f else none)=b4i f r (O:Int):=rfl;rw[e];cases d:b4i f r (O:Int)with
  |none=>rfl
  |some l=>simp_all[a4b]
 ·subst b;simp only[a1Q]at g;have q:f.length=c.length:=by grind
  have i:=b1v (rest:=r) j q (by omega);simp only[backP]at a⊢;simp[i];cases d:a9V f r c sh with
  |none=>rfl
  |some l=>simp_all[a4b]
 ·subst b;simp only[a1Q]at g;have q:f.length=c.length:=by grind
  have i:=b1v (rest:=r) j q (by omega);simp only[backP]at a⊢;simp[i];cases d:a9V f r c sh with
  |none=>rfl
  |some l=>
   have E:=b1k d;have B:=b8x (rest:=l) y H (by omega);simp[a4b,B]
   grind[a4b]
 ·subst b;have i:=b7A (rest:=r) m (by omega);simp only[backP]at a⊢;simp[i];cases d:a9n r st with
  |none=>rfl
  |some l=>simp_all[a4b]
open Classical in
def a1O (s:Sub) (n:Int):Option (List Int):=if a1l s n then b8E s n else none
theorem b4Q(h:SmallS s)(n:Int):a9j (s,n)=some (match a1O s n with|some r=>(r,0)|none=>([],1)):=by
 unfold a9j a1O;simp only[c3h h,oB]
 by_cases hp:a1l s n
 simp[hp,c0I h hp]
 grind[a4b]
 simp_all
theorem b4R(h:SmallS s)(n:Int):a7R (s,n)=some (a1O s n).isSome:=by
 unfold a7R;simp only[b4Q h,oB];cases a1O s n<;>rfl
@[reducible] def Wr:Type:=(List Int)×(Int×Unit)
def b6e(w:Wr)(b:Int):Wr:=
 let bs:=if w.2.1%8=0 then w.1++[0]else w.1
 (bs.set (w.2.1 / 8).toNat (bits .u8 .or (bs.getD (w.2.1 / 8).toNat 0) (A0n .u8 b (7-w.2.1%8))),w.2.1+1,())
def wL(L:List Int):Wr:=L.foldl b6e ([],0,())
theorem b6f(L:List Int)(b:Int):wL (L++[b])=b6e (wL L) b:=by simp[wL]
theorem b4S:∀(n:Nat)(L:List Int),L.length=n→(wL L).2.1=L.length∧(wL L).1.length=(L.length+7) / 8
 |0,L,h=>by
  rw[a44.1 h];exact⟨rfl,rfl⟩
 |n+1,L,h=>by
  obtain⟨g,b,rfl⟩:∃g b,L=g++[b]:=by
   rcases a51 L with rfl|⟨g,b,e⟩
   all_goals simp_all
  obtain⟨f,k⟩:=b4S n g (by simp_all);rw[b6f];simp only[b6e,List.length_set,lN,a72,f]
  grind
theorem a4I(L:List Int):(wL L).2.1=L.length∧(wL L).1.length=(L.length+7) / 8:=b4S _ L rfl
theorem b4T{L:List Int}(l:L.length<1000000000)(b:Int):a1K (wL L,b)=some (wL (L++[b])):=by
 obtain⟨g,k⟩:=a4I L;have p:a25 ((L.length:Nat):Int) 8=((L.length:Nat):Int)%8:=a42 (by omega);have m:a54 ((L.length:Nat):Int) 8=((L.length:Nat):Int) / 8:=a60 (by omega);have c:wrap .i64 (((L.length:Nat):Int) / 8)=((L.length:Nat):Int) / 8:=a0D (by omega);have d:wrap .i64 (7-((L.length:Nat):Int)%8)=7-((L.length:Nat):Int)%8:=a0D (by omega);have e:wrap .i64 (((L.length:Nat):Int)+1)=((L.length:Nat):Int)+1:=a0D (by omega);have i:decide ((0:Int)≤((L.length:Nat):Int) / 8)=true:=by rfl
 have j:decide (7-((L.length:Nat):Int)%8<0)=false:=by grind
 rw[b6f];generalize wL L=wr at g k⊢;obtain⟨f,n,u⟩:=wr;have g:n=((L.length:Nat):Int):=g;have k:f.length=(L.length+7) / 8:=k;subst g;unfold a1K b6e
 by_cases h:((L.length:Nat):Int)%8=0
 have hb:(((L.length:Nat):Int)%8==0)=true:=by grind
 have o:lim (f.length+1)=true:=a1c (by omega);have a:decide (((L.length:Nat):Int) / 8<(((f++[0]).length:Nat):Int))=true:=by grind
 simp_all
 grind
def a5B(v:Int)(i:Nat):Int:=wrap .u8 (bits .u64 .and (A0o .u64 v (i:Int)) 1)
def pb(v:Int):Nat→List Int
 |0=>[]
 |i+1=>a5B v i::pb v i
theorem b0W(v:Int):∀n,(pb v n).length=n
 |0=>rfl
 |n+1=>by simp[pb,b0W v n]
def a0L(v:Int)(n:Nat)(L:List Int):List Int:=bif A0o .u64 v (n:Int) != 0 then L else L++pb v n
theorem a0Q(v:Int)(n:Nat)(L:List Int):L.length≤(a0L v n L).length∧(a0L v n L).length≤L.length+n:=by
 grind[a0L,b0W]
def a6G(v:Int)(n:Nat):Int:=bif A0o .u64 v (n:Int) != 0 then 1 else 0
theorem b8H{v:Int}:∀(n:Nat)(L:List Int),L.length+n<1000000000→y0s a3q (v,(n:Int)-1,wL L,())=some (wL (L++pb v n),())
 |0,L,_=>by simp_all[a0H,a3q,pb]
 |n+1,L,h=>by
  have e:((n+1:Nat):Int)-1=(n:Int):=by omega
  have g:wrap .i64 ((n:Int)-1)=(n:Int)-1:=a0D (by omega);have f:decide ((n:Int)≥0)=true:=by simp
  have k:decide ((n:Int)<0)=false:=by simp
  rw[e,a0I (s':=(v,(n:Int)-1,wL (L++[a5B v n]),())) (by
   simp only[a3q,f,k,cT,cF,show wrap .u8 (bits .u64 .and (A0o .u64 v (n:Int)) 1)=a5B v n from rfl,b4T (show L.length<1000000000 by omega),oB,g])]
  rw[b8H n (L++[a5B v n]) (by simp;omega),pb]
  simp
theorem a2G{v:Int}{n:Nat}(a:n≤63)(k:L.length<999999000):a0E (wL L,v,(n:Int))=some (a6G v n,wL (a0L v n L)):=by
 unfold a0E a6G a0L;have g:decide ((n:Int)<0)=false:=by simp
 have f:decide ((n:Int) > 64)=false:=by grind
 have h:wrap .i64 ((n:Int)-1)=(n:Int)-1:=a0D (by omega);simp[g,f];cases (A0o .u64 v (n:Int) != 0)with
 |true=>rfl
 |false=>simp only[cF,h,b8H n L (by omega),oB]
def unL(n:Nat)(L:List Int):List Int:=L++a00 n 0++[1]
theorem b8I{n:Nat}(d:n≤4096)(c:L.length<999990000):a1T (wL L,(n:Int))=some (0,wL (unL n L)):=by
 unfold a1T unL;have g:decide ((n:Int)<0)=false:=by simp
 have k:decide ((n:Int) > 4096)=false:=by grind
 simp only[g,k,cF,oB]
 have:=a2m (f:=a2K) (fun i=>((n:Int),(i:Int),wL (L++a00 i 0),())) n (b:=(wL (L++a00 n 0),())) (fun i a=>by
   have h:L++a00 i (0:Int)++[0]=L++a00 (i+1) 0:=by simp_all[a53]
   simp only[a2K,dlt a,cT,b4T (show(L++a00 i (0:Int)).length<1000000000 by grind),oB,h,a0C (show i<1000000 by omega)])
  (by simp[a2K])
 grind[b4T]
theorem a8l(n:Nat)(L:List Int):(unL n L).length=L.length+n+1:=by simp[unL];rfl
def a0R(x:Int)(n:Nat):Int:=bits .u64 .and (wrap .u64 x) (wrap .u64 ((A0n .u64 1 (n:Int))-1))
def a1v(n:Nat)(l:List Int)(L:List Int):List Int:=l.foldl (fun L x=>a0L (a0R x n) n L) L
theorem a5j(n:Nat):∀(l L:List Int),L.length≤(a1v n l L).length∧(a1v n l L).length≤L.length+n*l.length
 | [],L=>by simp[a1v]
 |x::l,L=>by
  have h:=a0Q (a0R x n) n L;have g:=a5j n l (a0L (a0R x n) n L);have e:a1v n (x::l) L=a1v n l (a0L (a0R x n) n L):=rfl;rw[e,lC,a90,a91];omega
theorem b0B{n:Nat}(f:n≤63)(g:L.length<999999000):a2l (wL L,x,(n:Int))=some (wL (a0L (a0R x n) n L)):=by
 unfold a2l;have h:decide ((n:Int)<0)=false:=by simp
 simp only[h,cF,show bits .u64 .and (wrap .u64 x) (wrap .u64 ((A0n .u64 1 (n:Int))-1))=a0R x n from rfl,a2G f g,oB]
def a1q(x w:Int):Bool:=decide (1≤w)&&(decide (w≤31)&&(decide (A0n .i64 (-1) (w-1)≤x)&&decide (x≤wrap .i64 (A0n .i64 1 (w-1)-1))))
theorem a5k(a:w≤32):a3g (x,(w:Int))=some (a1q x w):=by
 unfold a3g a1q a9S a9t
 by_cases h1:1≤(w:Int)
 by_cases h2:(w:Int)≤31
 have h:decide ((w:Int)<1)=false:=by simp_all
 have g:decide ((w:Int) > 31)=false:=by simp_all
 have e:wrap .i64 ((w:Int)-1)=(w:Int)-1:=a0D (by omega);have f:decide ((w:Int)-1<0)=false:=by simp_all
 have k:decide ((w:Int)≥1)=true:=by simp_all
 simp[h1,h2,h,g,f,e]
 grind
 grind
 grind
theorem c0J(b:w≤32):a9m (x,(w:Int))=some (a1q x w):=by
 unfold a9m a1q b4e b3b
 by_cases h1:1≤(w:Int)
 by_cases h2:(w:Int)≤31
 have f:decide ((w:Int)<1)=false:=by simp_all
 have k:decide ((w:Int) > 31)=false:=by simp_all
 have e:wrap .i64 ((w:Int)-1)=(w:Int)-1:=a0D (by omega);have g:wrap .u64 ((w:Int)-1)=(w:Int)-1:=a0S (by omega);have a:decide ((w:Int)-1<0)=false:=by simp_all
 have h:decide ((w:Int)≥1)=true:=by simp_all
 simp only[h,h1,h2,f,k,a,e,g,decide_true,cT,cF,oB,a38]
 grind
 grind
 grind
def a1A(x:Int):Nat→Nat→Nat
 |0,w=>w
 |k+1,w=>bif (x != 0)&&!a1q x w then a1A x k (w+1)else w
theorem b4j(x:Int):∀(k w:Nat),a1A x k w≤w+k
 |0,w=>a26 _
 |k+1,w=>by
  simp[a1A];cases (x != 0)&&!a1q x w with
  |true=>have:=b4j x k (w+1);grind
  |false=>simp
def a0G(l:List Int):Nat:=l.foldl (fun w x=>a1A x (32-w) w) 0
theorem b2A:∀(l:List Int)(w:Nat),w≤32→l.foldl (fun w x=>a1A x (32-w) w) w≤32
 | [],w,h=>h
 |x::l,w,h=>b2A l _ (show a1A x (32-w) w≤32 by grind[b4j])
theorem a5o(l:List Int):a0G l≤32:=b2A l 0 (by omega)
theorem b6y{x:Int}{l:List Int}{n i:Int}:∀(k w:Nat),w+k=32→y0s a2p ((w:Int),x,l,n,i,())=some (((a1A x k w:Nat):Int),l,n,i,())
 |0,w,h=>by
  obtain rfl:w=32:=by omega
  simp_all[a0H,a2p,a1A]
 |k+1,w,h=>by
  have g:decide ((w:Int)<32)=true:=by grind
  simp[a1A];cases hx:(x != 0)with
  |false=>simp_all[a0H,a2p]
  |true=>
   cases hf:a1q x w with
   |true=>exact a0H (by simp only[a2p,hx,g,a5k (show w≤32 by omega),hf,oB,cT,cF,bT,Bool.and_false])
   |false=>
    rw[a0I (s':=(((w+1:Nat):Int),x,l,n,i,())) (by simp only[a2p,hx,g,a5k (show w≤32 by omega),hf,oB,cT,a27,a0C (show w<1000000 by omega)])];exact b6y k (w+1) (by omega)
theorem a1R(c:short l):a1k l=some ((a0G l:Nat):Int):=by
 have c:l.length<1000000:=c
 have:=a1E (f:=a4L) l (fun i (w:Nat)=>((w:Int),l,(l.length:Int),(i:Int),())) (fun w x=>(.inl (a1A x (32-w) w):Nat ⊕ (Int×Unit))) (fun _ w=>w≤32) (fun w=>((w:Int),()))
  (fun i h w e=>⟨fun d k=>by
   simp at k;subst k;refine⟨?_,by grind[b4j]⟩;simp only[a4L,dlt h,cT,a0B h,oB,b6y (32-w) w (by omega),a0C (show i<1000000 by omega)],fun b hb=>(by grind)⟩)
  (fun w _=>by simp[a4L]) (a:=0) (by omega)
 simp at this;unfold a1k;rw[this];have g:∀(l:List Int)(w:Nat),a2n (fun w x=>(.inl (a1A x (32-w) w):Nat ⊕ (Int×Unit))) l w=.inl (l.foldl (fun w x=>a1A x (32-w) w) w):=by
  intro l
  induction l with
  |nil=>intro w;rfl
  |cons x l ih=>simp_all[a2n]
 rw[g];rfl
theorem a8m(x:Int):a6d x=some (a0A x):=by
 grind[a6d,a0A]
def a0N(x:Int):Nat:=if 0≤x then(2*x).toNat else(-2*x-1).toNat
theorem a7O(h:a0A x=true):a0N x<2147483648:=by
 grind[a1x,a0N]
theorem a8n(h:a0A x=true):a7t x=some ((a0N x:Nat):Int):=by
 have f:=a1x.1 h;unfold a7t a0N;simp only[a8m,h,oB,bT,cF]
 by_cases h0:0≤x
 have g:decide (x≥0)=true:=by simp_all
 simp only[g,cT,if_pos h0]
 grind[a0D,a0S]
 have g:decide (x≥0)=false:=by simp_all
 simp only[g,cF,if_neg h0]
 grind[a0D,a0S]
theorem a5p{N o:Nat}(h:o≤64):A0o .u64 (N:Int) (o:Int)=((N / 2^o:Nat):Int):=b8C h
theorem a9p(h:o≤64)(g:N*2^o<9223372036854775808):A0n .u64 (N:Int) (o:Int)=((N*2^o:Nat):Int):=by
 unfold A0n;show wrap .u64 ((N:Int)*2^(min (o:Int).toNat 64))=_
 grind[a0S]
theorem b8J{y k:Nat}(c:y<18446744073709551616)(f:k≤62):bits .u64 .and (y:Int) (wrap .u64 (A0n .u64 1 (k:Int)-1))=((y%2^k:Nat):Int):=by
 have hp:2^k≤2^62:=a08 (by simp) f;have a:1≤2^k:=a79;have b:(2:Nat)^62=4611686018427387904:=by rfl
 have h:A0n .u64 1 (k:Int)=((2^k:Nat):Int):=by have:=a9p (N:=1) (o:=k) (by omega) (by omega);simp_all
 have g:wrap .u64 (((2^k:Nat):Int)-1)=((2^k-1:Nat):Int):=by grind[a0S]
 rw[h,g];show wrap .u64 (((a04 64 (y:Int)) &&& (a04 64 ((2^k-1:Nat):Int))).toNat:Int)=_;rw[a23,a23,a92,a29,a29,a22 c,a22 (by omega),Nat.and_two_pow_sub_one_eq_mod]
 have:y%2^k<2^k:=a40 _ (by omega)
 exact a0S (by omega)
theorem b0C{q:Nat}(h:q<2147483648):wrap .i64 (q:Int)=(q:Int):=a0D (by omega)
def a5C(k:Nat)(x:Int)(L:List Int):List Int:=
 if a0N x / 2^k<32 then a0L ((a0N x%2^k:Nat):Int) k (unL (a0N x / 2^k) L)else a0L ((a0N x:Nat):Int) 32 (unL 32 L)
def a3Q(k:Nat)(l:List Int)(L:List Int):List Int:=l.foldl (fun L x=>a5C k x L) L
theorem b3f{k:Nat}(h:k≤25)(x:Int)(L:List Int):L.length≤(a5C k x L).length∧(a5C k x L).length≤L.length+100:=by
 grind[a5C,a0Q,a8l]
theorem b2B{k:Nat}(h:k≤25):∀(l L:List Int),L.length≤(a3Q k l L).length∧(a3Q k l L).length≤L.length+100*l.length
 | [],L=>by simp[a3Q]
 |x::l,L=>by
  have g:=b3f h x L;have f:=b2B h l (a5C k x L);have e:a3Q k (x::l) L=a3Q k l (a5C k x L):=rfl
  grind
theorem a7p{k:Nat}(h:k≤25):a1D (k:Int)=some true:=by
 unfold a1D
 grind
theorem c0K{k:Nat}(y:k≤25)(E:l.length<10000)(t:l.all a0A=true)(D:L.length<900000000):a9y (wL L,(k:Int),l)=some (0,wL (a3Q k l L)):=by
 have B:=a1d (f:=a7z) l (fun i=>((k:Int),l,l,(l.length:Int),(i:Int),wL L,())) (fun _=>true) (bt:=Sum.inl ((k:Int),l,wL L,())) (bf:=Sum.inl ((k:Int),l,wL L,()))
  (fun i h _=>by
   have:=lA.1 t _ (a05 h)
   simp only[a7z,dlt h,cT,a0B h,oB,a8m,this,bT,cF,a0C (show i<1000000 by omega)])
  (fun i h hp=>by simp_all) (by simp[a7z])
 have p:∀(j i:Nat)(g:List Int),i+j=l.length→g.length+100*j<999990000→y0s a5L ((k:Int),l,(l.length:Int),(i:Int),wL g,())=some (wL (a3Q k (l.drop i) g),()):=by
  intro j
  induction j with
  |zero=>
   intro i g x _;obtain rfl:i=l.length:=by omega
   simp_all[a0H,a5L,a3Q]
  |succ j ih=>
   intro i g x hb;have a:i<l.length:=by omega
   have c:=lA.1 t _ (a05 a);have A:=a7O c;have z:=b3f y l[i] g;have e:decide ((k:Int)<0)=false:=by simp
   have q:A0o .u64 ((a0N l[i]:Nat):Int) (k:Int)=((a0N l[i] / 2^k:Nat):Int):=a5p (by omega);have o:=a32 (a0N l[i]) (2^k);have r:=a68 (a0N l[i]) (2^k);have d:A0n .u64 ((a0N l[i] / 2^k:Nat):Int) (k:Int)=((a0N l[i] / 2^k*2^k:Nat):Int):=a9p (by omega) (by grind);have u:wrap .u64 (((a0N l[i]:Nat):Int)-((a0N l[i] / 2^k*2^k:Nat):Int))=((a0N l[i]%2^k:Nat):Int):=by
    rw[a67 (a0N l[i] / 2^k)]
    grind[a0S]
   have w:wrap .i64 ((a0N l[i] / 2^k:Nat):Int)=((a0N l[i] / 2^k:Nat):Int):=b0C (a37 o A);rw[a02 a,a0I (s':=((k:Int),l,(l.length:Int),((i+1:Nat):Int),wL (a5C k l[i] g),())) (by
    by_cases hq:a0N l[i] / 2^k<32
    have m:decide (((a0N l[i] / 2^k:Nat):Int)<32)=true:=decide_eq_true (by omega);have s:(unL (a0N l[i] / 2^k) g).length<999999000:=by
     rw[a8l];omega
    have b:=b8I (L:=g) (n:=a0N l[i] / 2^k) (a82 (a09 hq (by simp))) (by omega);have hp:=a2G (L:=unL (a0N l[i] / 2^k) g) (v:=((a0N l[i]%2^k:Nat):Int)) (n:=k) (by omega) s;simp only[a5L,dlt a,cT,a0B a,oB,a8n c,e,cF,q,m,w,b,d,u,hp,a5C,if_pos hq,a0C (show i<1000000 by omega)];have m:decide (((a0N l[i] / 2^k:Nat):Int)<32)=false:=decide_eq_false (by omega);have s:=a8l 32 g;have b:a1T (wL g,(32:Int))=some (0,wL (unL 32 g)):=b8I (L:=g) (n:=32) (by omega) (by omega);have hp:a0E (wL (unL 32 g),((a0N l[i]:Nat):Int),(32:Int))=some (a6G ((a0N l[i]:Nat):Int) 32,wL (a0L ((a0N l[i]:Nat):Int) 32 (unL 32 g))):=a2G (L:=unL 32 g) (v:=((a0N l[i]:Nat):Int)) (n:=32) (by omega) (by omega);simp only[a5L,dlt a,cT,a0B a,oB,a8n c,e,cF,q,m,b,hp,a5C,if_neg hq,a0C (show i<1000000 by omega)])]
   exact ih (i+1) _ (by omega) (by omega)
 have C:=p l.length 0 L (by omega) (by omega);simp_all[a9y,a7p]
def a1h(zn:List Nat):List Int:=zn.map fun(a:Nat)=>(a:Int)
theorem b7D(n M:Nat):(a00 n M).sum=n*M:=by
 simp
theorem b1l{o n warm:Int}(h:(a1z o n warm).length≠0):∃zn:List Nat,a1z o n warm=a1h zn∧(zn.sum:Int)=n-warm∧zn.length≤256:=by
 unfold a1z at h⊢;cases hr:(a5i n warm&&(decide (0≤o)&&decide (o≤8)))with
 |false=>simp_all
 |true=>
  rw[hr]at h;simp only[cT]at h⊢;simp[a5i]at hr;unfold b1w at h⊢
  split at h
  rename_i g;rw[if_pos g];obtain⟨O,rfl⟩:=a01 hr.2.1;obtain⟨N,rfl⟩:=a01 (show 0≤n by omega);obtain⟨w,rfl⟩:=a01 (show 0≤warm by omega);simp only[tN]at g⊢;have hp:=c6s (o:=O) (by omega);have f:=a68 N (2^O);rw[g.1,a83]at f;have k:w≤N / 2^O:=by omega
  generalize N / 2^O=M at g k f⊢;generalize 2^O=P at hp f⊢;refine⟨(M-w)::a00 (P-1) M,?_,?_,?_⟩
  grind[a1h,List.map_replicate]
  rw[a61,b7D];obtain⟨q,rfl⟩:∃q,P=q+1:=⟨P-1,by omega⟩
  grind
  simp_all;simp_all
def a7H(k:Int)(part L:List Int):List Int:=
 if k=31 then a1v (a0G part) part (a0L ((a0G part:Nat):Int) 5 (a0L (wrap .u64 k) 5 L))else a3Q k.toNat part (a0L (wrap .u64 k) 5 L)
def a3R:List Nat→List Int→List Int→List Int→List Int
 |z::zs,k::ks,l,L=>a3R zs ks (l.drop z) (a7H k (l.take z) L)
 |_,_,_,L=>L
theorem b3g(h:kB k=true)(part L:List Int):L.length≤(a7H k part L).length∧(a7H k part L).length≤L.length+10+100*part.length:=by
 unfold a7H;have a:=a0Q (wrap .u64 k) 5 L;split;have b:=a0Q ((a0G part:Nat):Int) 5 (a0L (wrap .u64 k) 5 L);have c:=a5j (a0G part) part (a0L ((a0G part:Nat):Int) 5 (a0L (wrap .u64 k) 5 L));have f:=a5o part
 have:a0G part*part.length≤32*part.length:=a24 _ f
 omega;rename_i g;simp[kB]at h
 grind[b2B]
theorem a6H(h:i<zn.length):a86 (a1h zn) i 0=((zn[i]:Nat):Int):=by
 simp_all[a1h]
theorem a1n(h:List Nat):(a1h h).length=h.length:=by simp[a1h]
theorem b1Z(h:i<zn.length):(zn.drop i).sum=zn[i]+(zn.drop (i+1)).sum:=by
 grind[a02]
theorem b8K{part rest:List Int}{wd:Nat}{a b:Int}{z:List Int}{p:Prt}(k:wd≤32)(hp:part.length<10000):∀(j i:Nat)(L:List Int),i+j=part.length→L.length+64*j<999990000→
  y0s a6U (rest,(wd:Int),a,b,part,(part.length:Int),(i:Int),z,wL L,p,())=some (rest,a,b,z,wL (a1v wd (part.drop i) L),p,())
 |0,i,L,hi,_=>by
  obtain rfl:i=part.length:=by omega
  simp_all[a0H,a6U,a1v]
 |j+1,i,L,hi,hb=>by
  have h:i<part.length:=by omega
  have g:decide ((wd:Int)<0)=false:=by simp
  have f:=a0Q (a0R part[i] wd) wd L;rw[a02 h,a0I (s':=(rest,(wd:Int),a,b,part,(part.length:Int),((i+1:Nat):Int),z,wL (a0L (a0R part[i] wd) wd L),p,())) (by
   simp only[a6U,dlt h,cT,a0B h,oB,g,cF,show bits .u64 .and (wrap .u64 part[i]) (wrap .u64 ((A0n .u64 1 (wd:Int))-1))=a0R part[i] wd from rfl,a2G (show wd≤63 by omega) (show L.length<999999000 by omega),a0C (show i<1000000 by omega)])]
  exact b8K k hp j (i+1) _ (by omega) (by omega)
theorem b1A{zn:List Nat}{p:Prt}(N:p.2.1.length=zn.length)(c:p.2.1.all kB=true)(R:zn.length≤256):∀(j i:Nat)(l L:List Int),i+j=zn.length→(zn.drop i).sum=l.length→l.all a0A=true→l.length≤5000→L.length+10*j+100*l.length<800000000→
  y0s a3A (l,(zn.length:Int),(i:Int),a1h zn,wL L,p,())=some (wL (a3R (zn.drop i) (p.2.1.drop i) l L),())
 |0,i,l,L,hi,_,_,_,_=>by
  obtain rfl:i=zn.length:=by omega
  simp_all[a0H,a3A,a3R]
 |j+1,i,l,L,hi,hsum,hw,hl5,hb=>by
  have h:i<zn.length:=by omega
  have f:i<p.2.1.length:=by omega
  have s:=lA.1 c _ (a05 f);rw[b1Z h]at hsum;have B:decide ((0:Int)≤(i:Int))=true:=by simp
  have C:decide ((i:Int)<(((a1h zn).length:Nat):Int))=true:=by simp_all[a1n]
  have D:decide ((0:Int)≤((zn[i]:Nat):Int))=true:=by simp
  have E:decide (((zn[i]:Nat):Int)≤((l.length:Nat):Int))=true:=by grind
  have t:(l.take zn[i]).length=zn[i]:=by simp_all
  have q:(l.drop zn[i]).length=(zn.drop (i+1)).sum:=by grind
  have w:(l.take zn[i]).all a0A=true:=lA.2 fun x A=>lA.1 hw x (a34 A);have y:(l.drop zn[i]).all a0A=true:=lA.2 fun x A=>lA.1 hw x (a35 A);have Q:=b3g s (l.take zn[i]) L;have O:=a0Q (wrap .u64 p.2.1[i]) 5 L;have d:a0E (wL L,wrap .u64 p.2.1[i],(5:Int))=some (a6G (wrap .u64 p.2.1[i]) 5,wL (a0L (wrap .u64 p.2.1[i]) 5 L)):=a2G (n:=5) (by omega) (by omega);have G:zn.drop i=zn[i]::zn.drop (i+1):=a02 h;have H:p.2.1.drop i=p.2.1[i]::p.2.1.drop (i+1):=a02 f;rw[G,H,a3R];have r:a3A (l,(zn.length:Int),(i:Int),a1h zn,wL L,p,())=some (.inl (l.drop zn[i],(zn.length:Int),((i+1:Nat):Int),a1h zn,wL (a7H p.2.1[i] (l.take zn[i]) L),p,())):=by
   by_cases h31:p.2.1[i]=31
   have m:(p.2.1[i] != 31)=false:=by simp_all
   have v:=a5o (l.take zn[i]);have u:=a1R (l:=l.take zn[i]) (by unfold short;omega);have P:=a0Q ((a0G (l.take zn[i]):Nat):Int) 5 (a0L (wrap .u64 p.2.1[i]) 5 L);have I:wrap .u64 ((a0G (l.take zn[i]):Nat):Int)=((a0G (l.take zn[i]):Nat):Int):=a0S (by omega);have o:a0E (wL (a0L (wrap .u64 p.2.1[i]) 5 L),((a0G (l.take zn[i]):Nat):Int),(5:Int))=some (a6G ((a0G (l.take zn[i]):Nat):Int) 5,wL (a0L ((a0G (l.take zn[i]):Nat):Int) 5 (a0L (wrap .u64 p.2.1[i]) 5 L))):=a2G (n:=5) (by omega) (by omega);have e:=b8K (part:=l.take zn[i]) (rest:=l.drop zn[i]) (a:=(zn.length:Int)) (b:=(i:Int)) (z:=a1h zn) (p:=p) v (by omega) (l.take zn[i]).length 0 (a0L ((a0G (l.take zn[i]):Nat):Int) 5 (a0L (wrap .u64 p.2.1[i]) 5 L)) (by omega) (by omega);simp only[nZ,a28]at e;simp only[a3A,dlt h,B,C,a6H h,D,E,cT,a03,tN,a0B f,oB,d,m,cF,u,I,o,a18,e,a0C (show i<1000000 by omega),a7H,if_pos h31];have m:(p.2.1[i] != 31)=true:=by simp_all
   simp[kB]at s;obtain⟨K,M⟩:=a01 (show 0≤p.2.1[i]by omega);have g:=c0K (k:=K) (l:=l.take zn[i]) (L:=a0L (wrap .u64 p.2.1[i]) 5 L) (by omega) (by omega) w (by omega);rw[←M]at g;have F:K=p.2.1[i].toNat:=by omega
   simp only[a3A,dlt h,B,C,a6H h,D,E,cT,a03,tN,a0B f,oB,d,m,g,a18,a0C (show i<1000000 by omega),a7H,if_neg h31,F]
  rw[a0I r];exact b1A N c R j (i+1) (l.drop zn[i]) _ (by omega) q.symm y (by omega) (by omega)
theorem b6g{k:Nat}(d:k≤25)(g:a0A x=true):∃c,a6e ((k:Int),x)=some c∧0≤c∧c≤65:=by
 have e:=a7O g;have f:A0o .u64 ((a0N x:Nat):Int) (k:Int)=((a0N x / 2^k:Nat):Int):=a5p (by omega);have a:wrap .i64 ((a0N x / 2^k:Nat):Int)=((a0N x / 2^k:Nat):Int):=b0C (a37 (a32 _ _) e);have h:decide ((k:Int)<0)=false:=by simp
 unfold a6e;simp only[a7p d,a8m,g,oB,bT,cF,a8n g,h,f,a];generalize a0N x / 2^k=q
 by_cases hq:q<32
 have b:decide ((q:Int)<32)=true:=decide_eq_true (by omega);refine⟨(q:Int)+1+k,?_,by omega,by omega⟩;simp only[b,cT]
 grind[a0D]
 grind
theorem b7E{k:Nat}(p:k≤25)(q:l.all a0A=true)(t:l.length<10000):∃c,a2J ((k:Int),l)=some c∧0≤c∧c≤65*l.length:=by
 have g:∀(j i:Nat)(c:Int),i+j=l.length→0≤c→c≤65*i→∃c',y0s a3h ((k:Int),c,l,(l.length:Int),(i:Int),())=some (c',())∧0≤c'∧c'≤65*l.length:=by
  intro j
  induction j with
  |zero=>
   intro i c o a f;obtain rfl:i=l.length:=by omega
   simp_all[a0H,a3h]
  |succ j ih=>
   intro i c o a f;have h:i<l.length:=by omega
   obtain⟨d,b,m,n⟩:=b6g p (lA.1 q _ (a05 h));have e:wrap .i64 (c+d)=c+d:=a0D (by omega);rw[a0I (s':=((k:Int),c+d,l,(l.length:Int),((i+1:Nat):Int),())) (by simp only[a3h,dlt h,cT,a0B h,oB,b,e,a0C (show i<1000000 by omega)])];exact ih (i+1) _ (by omega) (by omega) (by omega)
 obtain⟨c,f,r,s⟩:=g l.length 0 0 (by omega) (by omega) (by omega);simp_all[a2J]
theorem c3k{n:Nat}(g:w≤32)(f:n<10000):0≤(w:Int)*(n:Int)∧(w:Int)*(n:Int)≤32*n:=by
 have h:w*n≤32*n:=a24 _ g;omega
theorem b6h(h:l.length<10000):∃c,a4G l=some c∧0≤c∧c≤5+32*l.length:=by
 have g:=c3k (a5o l) h;refine⟨5+((a0G l:Nat):Int)*((l.length:Nat):Int),?_,by omega,by omega⟩;unfold a4G;simp only[a1R (show short l by unfold short;omega),oB]
 grind[a0D]
theorem b0X{zn:List Nat}{p:Prt}(H:p.2.1.length=zn.length)(g:p.2.1.all kB=true)(I:zn.length≤256):∀(j i:Nat)(l:List Int)(c:Int),i+j=zn.length→(zn.drop i).sum=l.length→l.all a0A=true→l.length≤5000→4≤c→c+10*j+65*l.length<1000000→
  ∃c',y0s a1m (l,c,(zn.length:Int),(i:Int),a1h zn,p,())=some (c',())∧4≤c'
 |0,i,l,c,hi,_,_,_,hc,_=>by
  obtain rfl:i=zn.length:=by omega
  simp_all[a0H,a1m]
 |j+1,i,l,c,hi,hsum,hw,hl5,hc,hb=>by
  have h:i<zn.length:=by omega
  have f:i<p.2.1.length:=by omega
  have q:=lA.1 g _ (a05 f);rw[b1Z h]at hsum;have z:decide ((0:Int)≤(i:Int))=true:=by simp
  have A:decide ((i:Int)<(((a1h zn).length:Nat):Int))=true:=by simp_all[a1n]
  have B:decide ((0:Int)≤((zn[i]:Nat):Int))=true:=by simp
  have C:decide (((zn[i]:Nat):Int)≤((l.length:Nat):Int))=true:=by grind
  have s:(l.take zn[i]).length=zn[i]:=by simp_all
  have b:(l.drop zn[i]).length=(zn.drop (i+1)).sum:=by grind
  have v:(l.take zn[i]).all a0A=true:=lA.2 fun x y=>lA.1 hw x (a34 y);have w:(l.drop zn[i]).all a0A=true:=lA.2 fun x y=>lA.1 hw x (a35 y);have e:∃d,a1m (l,c,(zn.length:Int),(i:Int),a1h zn,p,())=some (.inl (l.drop zn[i],c+d,(zn.length:Int),((i+1:Nat):Int),a1h zn,p,()))∧0≤d∧d≤10+65*zn[i]:=by
   by_cases h31:p.2.1[i]=31
   have a:(p.2.1[i]==31)=true:=by simp_all
   obtain⟨r,m,t,u⟩:=b6h (l:=l.take zn[i]) (by omega);have n:wrap .i64 (5+r)=5+r:=a0D (by omega);have o:wrap .i64 (c+(5+r))=c+(5+r):=a0D (by omega);refine⟨5+r,?_,by omega,by omega⟩;simp only[a1m,dlt h,z,A,a6H h,B,C,cT,a03,tN,a0B f,oB,a,m,n,o,a18,a0C (show i<1000000 by omega)];have a:(p.2.1[i]==31)=false:=by simp_all
   simp[kB]at q;obtain⟨K,D⟩:=a01 (show 0≤p.2.1[i]by omega);obtain⟨r,m,t,u⟩:=b7E (k:=K) (by omega) v (by omega);rw[←D]at m;have n:wrap .i64 (5+r)=5+r:=a0D (by omega);have o:wrap .i64 (c+(5+r))=c+(5+r):=a0D (by omega);refine⟨5+r,?_,by omega,by omega⟩;simp only[a1m,dlt h,z,A,a6H h,B,C,cT,cF,a03,tN,a0B f,oB,a,m,n,o,a18,a0C (show i<1000000 by omega)]
  obtain⟨d,E,F,G⟩:=e;rw[a0I E];exact b0X H g I j (i+1) (l.drop zn[i]) _ (by omega) b.symm w (by omega) (by omega) (by omega)
structure PartsOk (p:Prt) (n warm:Int) (l:List Int) (zn:List Nat):Prop where
 may:a4A p n warm=true
 sizes:a1z p.1 n warm=a1h zn
 sum:zn.sum=l.length
 len:zn.length≤256
 ks:p.2.1.length=zn.length
 all:p.2.1.all kB=true
 wide:l.all a0A=true
 short:l.length≤5000
 row:a5i n warm=true
 rest:(l.length:Int)=n-warm
 order:0≤p.1∧p.1≤8
theorem PartsOk.of{p:Prt}{n warm:Int}{l:List Int}(h:a4A p n warm=true)(i:(l.length:Int)=n-warm)(j:l.all a0A=true)(e:l.length≤5000):∃g,PartsOk p n warm l g:=by
 have f:=h;simp only[a4A,bA,a33,beq_eq_false_iff_ne,ne_eq,beq_iff_eq]at f;obtain⟨c,o,d⟩:=f;obtain⟨g,a,m,b⟩:=b1l c;have k:a5i n warm=true∧0≤p.1∧p.1≤8:=by
  grind[a1z]
 exact⟨g,h,a,by omega,b,by simp_all[a1n],d,j,e,k.1,i,k.2⟩
theorem a8z{n warm:Int}{l:List Int}(h:a5i n warm=true)(c:(l.length:Int)=n-warm)(d:l.all a0A=true)(a:l.length≤5000):a5I (n,warm,l)=some true:=by
 have e:wrap .i64 (n-warm)=n-warm:=by
  simp[a5i]at h;exact a0D (by omega)
 have k:(((l.length:Nat):Int) != n-warm)=false:=by simp_all
 have f:a9R=a2d:=rfl;have g:short l:=by unfold short;omega
 have b:=a3F g;simp_all[a1Z,a5I,a9Y]
theorem b4U(h:PartsOk p n warm l zn):∃c,a3L (p,n,warm,l)=some c∧4≤c:=by
 have k:Go.Ab.short p.2.1:=by have:=h.ks;have:=h.len;unfold Go.Ab.short;omega
 have a:=h.short;have b:=h.len;obtain⟨c,g,f⟩:=b0X h.ks h.all h.len zn.length 0 l 4 (by omega) (by rw[a28];exact h.sum) h.wide h.short (by omega) (by omega);simp at g;refine⟨c,?_,f⟩;unfold a3L;simp only[a9Z k,h.may,a8z h.row h.rest h.wide h.short,oB,bT,cF,a1H,h.sizes,a1n,g]
def a3v(p:Prt)(zn:List Nat)(l L:List Int):List Int:=a3R zn p.2.1 l (a0L (wrap .u64 p.1) 4 L)
theorem b8L(h:PartsOk p n warm l zn)(i:L.length<700000000):a8N (wL L,p,n,warm,l)=some (0,wL (a3v p zn l L)):=by
 have e:=h.short;have j:=h.len;obtain⟨c,a,b⟩:=b4U h;have k:(c==0)=false:=by grind
 have d:=a0Q (wrap .u64 p.1) 4 L;have f:a0E (wL L,wrap .u64 p.1,(4:Int))=some (a6G (wrap .u64 p.1) 4,wL (a0L (wrap .u64 p.1) 4 L)):=a2G (n:=4) (by omega) (by omega);have g:=b1A h.ks h.all h.len zn.length 0 l (a0L (wrap .u64 p.1) 4 L) (by omega) (by rw[a28];exact h.sum) h.wide h.short (by omega);simp at g;unfold a8N;simp only[a,oB,k,cF,f,a1H,h.sizes,a1n,g,a3v]
theorem b4V{c:List Int}{wd:Nat}(k:wd≤32)(g:c.length<10000):∀(j i:Nat)(L:List Int),i+j=c.length→L.length+64*j<999990000→
  y0s a4M ((wd:Int),c,(c.length:Int),(i:Int),wL L,())=some (wL (a1v wd (c.drop i) L),())
 |0,i,L,hi,_=>by
  obtain rfl:i=c.length:=by omega
  simp_all[a0H,a4M,a1v]
 |j+1,i,L,hi,hb=>by
  have h:i<c.length:=by omega
  have f:=a0Q (a0R c[i] wd) wd L;rw[a02 h,a0I (s':=((wd:Int),c,(c.length:Int),((i+1:Nat):Int),wL (a0L (a0R c[i] wd) wd L),())) (by
   simp only[a4M,dlt h,cT,a0B h,oB,b0B (show wd≤63 by omega) (show L.length<999999000 by omega),a0C (show i<1000000 by omega)])]
  exact b4V k g j (i+1) _ (by omega) (by omega)
theorem b6z{t:List Int}{n wd:Int}{s:Sub}(a:t.length=3):∀(j i:Nat)(L:List Int),i+j=3→L.length+64*j<999990000→
  y0s a8e (n,wd,t,(i:Int),wL L,s,())=some (n,wd,wL (a1v 8 (t.drop i) L),s,())
 |0,i,L,hi,_=>by
  obtain rfl:i=t.length:=by omega
  grind[a0H,a8e,a1v]
 |j+1,i,L,hi,hb=>by
  have h:i<t.length:=by omega
  have f:decide ((i:Int)<3)=true:=by grind
  have k:=a0Q (a0R t[i] 8) 8 L;have g:a2l (wL L,t[i],(8:Int))=some (wL (a0L (a0R t[i] 8) 8 L)):=b0B (n:=8) (by omega) (by omega);rw[a02 h,a0I (s':=(n,wd,t,((i+1:Nat):Int),wL (a0L (a0R t[i] 8) 8 L),s,())) (by
   simp only[a8e,f,cT,a0B h,oB,g,a0C (show i<1000000 by omega)])]
  exact b6z a j (i+1) _ (by omega) (by omega)
theorem b6A{l:List Int}{n:Int}{wd:Nat}{s:Sub}(k:wd≤32)(g:l.length<10000):∀(j i:Nat)(L:List Int),i+j=l.length→L.length+64*j<999990000→
  y0s a8g (n,(wd:Int),l,(l.length:Int),(i:Int),wL L,s,())=some (n,wL (a1v wd (l.drop i) L),s,())
 |0,i,L,hi,_=>by
  obtain rfl:i=l.length:=by omega
  simp_all[a0H,a8g,a1v]
 |j+1,i,L,hi,hb=>by
  have h:i<l.length:=by omega
  have f:=a0Q (a0R l[i] wd) wd L;rw[a02 h,a0I (s':=(n,(wd:Int),l,(l.length:Int),((i+1:Nat):Int),wL (a0L (a0R l[i] wd) wd L),s,())) (by
   simp only[a8g,dlt h,cT,a0B h,oB,b0B (show wd≤63 by omega) (show L.length<999999000 by omega),a0C (show i<1000000 by omega)])]
  exact b6A k g j (i+1) _ (by omega) (by omega)
def a5l(s:Stg)(L:List Int):List Int:=a0L (wrap .u64 s.2.1) 4 (a0L (wrap .u64 (wrap .i64 (s.1-1))) 5 L)
def a2I(st:List Stg)(L:List Int):List Int:=st.foldl (fun L s=>a5l s L) L
theorem b2C(s:Stg)(L:List Int):(a5l s L).length≤L.length+9:=by
 grind[a0Q,a5l]
theorem b1B:∀(st:List Stg)(L:List Int),(a2I st L).length≤L.length+9*st.length
 | [],L=>by simp[a2I]
 |s::st,L=>by
  have h:=b2C s L;have g:=b1B st (a5l s L);have e:a2I (s::st) L=a2I st (a5l s L):=rfl
  grind
theorem b3J{st:List Stg}{n wd:Int}{s:Sub}(a:st.length<10000):∀(j i:Nat)(L:List Int),i+j=st.length→L.length+64*j<999990000→
  y0s a8f (n,wd,st,(st.length:Int),(i:Int),wL L,s,())=some (n,wd,wL (a2I (st.drop i) L),s,())
 |0,i,L,hi,_=>by
  obtain rfl:i=st.length:=by omega
  simp_all[a0H,a8f,a2I]
 |j+1,i,L,hi,hb=>by
  have h:i<st.length:=by omega
  have k:=a0Q (wrap .u64 (wrap .i64 (st[i].1-1))) 5 L;have b:=b2C st[i] L;have g:a0E (wL L,wrap .u64 (wrap .i64 (st[i].1-1)),(5:Int))=some (a6G (wrap .u64 (wrap .i64 (st[i].1-1))) 5,wL (a0L (wrap .u64 (wrap .i64 (st[i].1-1))) 5 L)):=a2G (n:=5) (by omega) (by omega);have f:a0E (wL (a0L (wrap .u64 (wrap .i64 (st[i].1-1))) 5 L),wrap .u64 st[i].2.1,(4:Int))=some (a6G (wrap .u64 st[i].2.1) 4,wL (a5l st[i] L)):=a2G (n:=4) (by omega) (by omega);rw[a02 h,a0I (s':=(n,wd,st,(st.length:Int),((i+1:Nat):Int),wL (a5l st[i] L),s,())) (by
   simp only[a8f,dlt h,cT,a0B h,oB,g,f,a0C (show i<1000000 by omega)])]
  exact b3J a j (i+1) _ (by omega) (by omega)
def a5m(s:Sub)(L:List Int):List Int:=
 a1v (a0G s.2.2.2.2.2.1) s.2.2.2.2.2.1 (a0L ((a0G s.2.2.2.2.2.1:Nat):Int) 5 (a0L (wrap .u64 s.2.2.2.1) 4 (a0L (wrap .u64 (wrap .i64 (((s.2.2.2.2.2.1.length:Nat):Int)-1))) 5 L)))
theorem b7F{s:Sub}(h:s.2.2.2.2.2.1.length≤40)(L:List Int):(a5m s L).length≤L.length+2000:=by
 unfold a5m;have f:=a0Q (wrap .u64 (wrap .i64 (((s.2.2.2.2.2.1.length:Nat):Int)-1))) 5 L;have k:=a0Q (wrap .u64 s.2.2.2.1) 4 (a0L (wrap .u64 (wrap .i64 (((s.2.2.2.2.2.1.length:Nat):Int)-1))) 5 L);have a:=a0Q ((a0G s.2.2.2.2.2.1:Nat):Int) 5 (a0L (wrap .u64 s.2.2.2.1) 4 (a0L (wrap .u64 (wrap .i64 (((s.2.2.2.2.2.1.length:Nat):Int)-1))) 5 L));have b:=a5j (a0G s.2.2.2.2.2.1) s.2.2.2.2.2.1 (a0L ((a0G s.2.2.2.2.2.1:Nat):Int) 5 (a0L (wrap .u64 s.2.2.2.1) 4 (a0L (wrap .u64 (wrap .i64 (((s.2.2.2.2.2.1.length:Nat):Int)-1))) 5 L)));have g:=a5o s.2.2.2.2.2.1
 have:a0G s.2.2.2.2.2.1*s.2.2.2.2.2.1.length≤32*40:=Nat.mul_le_mul g h
 omega
theorem b3K(h:s.2.2.2.2.2.1.length≤40)(l:L.length<900000000):a6T (wL L,s)=some (wL (a5m s L)):=by
 have e:=a0Q (wrap .u64 (wrap .i64 (((s.2.2.2.2.2.1.length:Nat):Int)-1))) 5 L;have i:=a0Q (wrap .u64 s.2.2.2.1) 4 (a0L (wrap .u64 (wrap .i64 (((s.2.2.2.2.2.1.length:Nat):Int)-1))) 5 L);have j:=a0Q ((a0G s.2.2.2.2.2.1:Nat):Int) 5 (a0L (wrap .u64 s.2.2.2.1) 4 (a0L (wrap .u64 (wrap .i64 (((s.2.2.2.2.2.1.length:Nat):Int)-1))) 5 L));have k:=a5o s.2.2.2.2.2.1;have f:wrap .u64 ((a0G s.2.2.2.2.2.1:Nat):Int)=((a0G s.2.2.2.2.2.1:Nat):Int):=a0S (by omega);have a:a0E (wL L,wrap .u64 (wrap .i64 (((s.2.2.2.2.2.1.length:Nat):Int)-1)),(5:Int))=some (a6G (wrap .u64 (wrap .i64 (((s.2.2.2.2.2.1.length:Nat):Int)-1))) 5,wL (a0L (wrap .u64 (wrap .i64 (((s.2.2.2.2.2.1.length:Nat):Int)-1))) 5 L)):=a2G (n:=5) (by omega) (by omega);have b:a0E (wL (a0L (wrap .u64 (wrap .i64 (((s.2.2.2.2.2.1.length:Nat):Int)-1))) 5 L),wrap .u64 s.2.2.2.1,(4:Int))=some (a6G (wrap .u64 s.2.2.2.1) 4,wL (a0L (wrap .u64 s.2.2.2.1) 4 (a0L (wrap .u64 (wrap .i64 (((s.2.2.2.2.2.1.length:Nat):Int)-1))) 5 L))):=a2G (n:=4) (by omega) (by omega);have d:a0E (wL (a0L (wrap .u64 s.2.2.2.1) 4 (a0L (wrap .u64 (wrap .i64 (((s.2.2.2.2.2.1.length:Nat):Int)-1))) 5 L)),((a0G s.2.2.2.2.2.1:Nat):Int),(5:Int))=some (a6G ((a0G s.2.2.2.2.2.1:Nat):Int) 5,wL (a0L ((a0G s.2.2.2.2.2.1:Nat):Int) 5 (a0L (wrap .u64 s.2.2.2.1) 4 (a0L (wrap .u64 (wrap .i64 (((s.2.2.2.2.2.1.length:Nat):Int)-1))) 5 L)))):=a2G (n:=5) (by omega) (by omega);have g:=b4V (c:=s.2.2.2.2.2.1) k (by omega) s.2.2.2.2.2.1.length 0 (a0L ((a0G s.2.2.2.2.2.1:Nat):Int) 5 (a0L (wrap .u64 s.2.2.2.1) 4 (a0L (wrap .u64 (wrap .i64 (((s.2.2.2.2.2.1.length:Nat):Int)-1))) 5 L))) (by omega) (by omega);simp at g;unfold a6T;simp only[a,b,a1R (show short s.2.2.2.2.2.1 by unfold short;omega),f,d,g,oB,a5m]
def a9d(s:Sub)(L:List Int):List Int:=
 a0L ((a0G s.2.2.2.2.2.2.2.2.1:Nat):Int) 5 (a0L (wrap .u64 s.2.1) 5 (a0L (wrap .u64 s.1) 3 L))
def a2b(s:Sub)(L:List Int):List Int:=
 if s.1=2 then a0L (wrap .u64 s.2.2.1) 3 L
 else if s.1=3 then a5m s L
 else if s.1=4 then a5m s (a1v 8 s.2.2.2.2.2.2.1 (a0L (wrap .u64 (wrap .i64 (s.2.2.2.2.1-1))) 10 L))
 else if s.1=5 then a2I s.2.2.2.2.2.2.2.1 (a0L (wrap .u64 ((s.2.2.2.2.2.2.2.1.length:Nat):Int)) 2 L)
 else L
theorem b8M(h:SmallS s)(L:List Int):(a2b s L).length≤L.length+3000:=by
 have f:=h.coefs;have k:=h.taps;have g:=h.stages
 grind[a2b,a0Q,b7F,a5j,b1B]
theorem b2D:∀(zs:List Nat)(ks l L:List Int),ks.all kB=true→(a3R zs ks l L).length≤L.length+10*zs.length+100*l.length
 |z::zs,k::ks,l,L,h=>by
  simp only[a07,bA]at h;have g:=b3g h.1 (l.take z) L;have f:=b2D zs ks (l.drop z) (a7H k (l.take z) L) h.2;rw[a93]at g;rw[a52]at f;simp only[a3R,lC];omega
 | [],_,_,_,_=>by simp_all[a3R]
 |_::_,[],_,_,_=>by grind[a3R]
def a4h(s:Sub)(zn:List Nat)(L:List Int):List Int:=
 if s.1=0∨s.1=1 then a1v (a0G s.2.2.2.2.2.2.2.2.1) s.2.2.2.2.2.2.2.2.1 (a2b s (a9d s L))
 else a3v s.2.2.2.2.2.2.2.2.2.1 zn s.2.2.2.2.2.2.2.2.2.2.1 (a1v (a0G s.2.2.2.2.2.2.2.2.1) s.2.2.2.2.2.2.2.2.1 (a2b s (a9d s L)))
theorem b2a(h:SmallS s)(S:L.length<100000000):
  ∃(e:Int)(L':List Int),a7S (wL L,s,n)=some (e,wL L')∧(e=0∨L'=L)∧L'.length≤L.length+700000∧
   ((a1O s n).isSome=true→e=0∧∃a,L'=a4h s a L∧(s.1≠0∧s.1≠1→PartsOk s.2.2.2.2.2.2.2.2.2.1 n ((s.2.2.2.2.2.2.2.2.1.length:Nat):Int) s.2.2.2.2.2.2.2.2.2.2.1 a))∧((a1O s n).isSome=false→e=1∧L'=L):=by
 unfold a7S;simp only[b4R h,oB];cases hs:(a1O s n).isSome with
 |false=>exact⟨1,L,rfl,.inr rfl,by omega,fun h=>(by grind),fun _=>⟨rfl,rfl⟩⟩
 |true=>
  have hp:a1l s n:=by
   grind[a1O]
  obtain⟨Q,R,A,-,-,-,-,v,E,B,-,p⟩:=hp;have b:=c3i A;have m:=a5o s.2.2.2.2.2.2.2.2.1;have u:short s.2.2.2.2.2.2.2.2.1:=by have:=h.warm;unfold short;omega
  have c:=h.warm;have r:=h.rest;have C:=h.stages;have D:=h.taps;have T:=a0Q (wrap .u64 s.1) 3 L;have U:=a0Q (wrap .u64 s.2.1) 5 (a0L (wrap .u64 s.1) 3 L);have V:=a0Q ((a0G s.2.2.2.2.2.2.2.2.1:Nat):Int) 5 (a0L (wrap .u64 s.2.1) 5 (a0L (wrap .u64 s.1) 3 L));have z:wrap .u64 ((a0G s.2.2.2.2.2.2.2.2.1:Nat):Int)=((a0G s.2.2.2.2.2.2.2.2.1:Nat):Int):=a0S (by omega);have I:a0E (wL L,wrap .u64 s.1,(3:Int))=some (a6G (wrap .u64 s.1) 3,wL (a0L (wrap .u64 s.1) 3 L)):=a2G (n:=3) (by omega) (by omega);have K:a0E (wL (a0L (wrap .u64 s.1) 3 L),wrap .u64 s.2.1,(5:Int))=some (a6G (wrap .u64 s.2.1) 5,wL (a0L (wrap .u64 s.2.1) 5 (a0L (wrap .u64 s.1) 3 L))):=a2G (n:=5) (by omega) (by omega);have w:a0E (wL (a0L (wrap .u64 s.2.1) 5 (a0L (wrap .u64 s.1) 3 L)),((a0G s.2.2.2.2.2.2.2.2.1:Nat):Int),(5:Int))=some (a6G ((a0G s.2.2.2.2.2.2.2.2.1:Nat):Int) 5,wL (a9d s L)):=a2G (n:=5) (by omega) (by omega);have N:(a9d s L).length≤L.length+13:=by unfold a9d;omega
  generalize hM:a9d s L=M at w N;have X:=b8M h M;have O:=a5j (a0G s.2.2.2.2.2.2.2.2.1) s.2.2.2.2.2.2.2.2.1 (a2b s M);have Y:a0G s.2.2.2.2.2.2.2.2.1*s.2.2.2.2.2.2.2.2.1.length≤32*5000:=Nat.mul_le_mul m c;have g:=b6A (l:=s.2.2.2.2.2.2.2.2.1) (n:=n) (s:=s) m (by omega) s.2.2.2.2.2.2.2.2.1.length 0 (a2b s M) (by omega) (by omega);simp at g

  have i:=b3J (st:=s.2.2.2.2.2.2.2.1) (n:=n) (wd:=((a0G s.2.2.2.2.2.2.2.2.1:Nat):Int)) (s:=s) (by omega) s.2.2.2.2.2.2.2.1.length 0 (a0L (wrap .u64 ((s.2.2.2.2.2.2.2.1.length:Nat):Int)) 2 M) (by omega) (by grind[a0Q]);have Z:=a0Q (wrap .u64 (wrap .i64 (s.2.2.2.2.1-1))) 10 M;have q9:=a5j 8 s.2.2.2.2.2.2.1 (a0L (wrap .u64 (wrap .i64 (s.2.2.2.2.1-1))) 10 M);have j:=b6z (t:=s.2.2.2.2.2.2.1) (n:=n) (wd:=((a0G s.2.2.2.2.2.2.2.2.1:Nat):Int)) (s:=s) D 3 0 (a0L (wrap .u64 (wrap .i64 (s.2.2.2.2.1-1))) 10 M) (by rfl) (by omega);simp at i j;have F:a0E (wL M,wrap .u64 s.2.2.1,(3:Int))=some (a6G (wrap .u64 s.2.2.1) 3,wL (a0L (wrap .u64 s.2.2.1) 3 M)):=a2G (n:=3) (by omega) (by omega);have G:a0E (wL M,wrap .u64 (wrap .i64 (s.2.2.2.2.1-1)),(10:Int))=some (a6G (wrap .u64 (wrap .i64 (s.2.2.2.2.1-1))) 10,wL (a0L (wrap .u64 (wrap .i64 (s.2.2.2.2.1-1))) 10 M)):=a2G (n:=10) (by omega) (by omega);have H:a0E (wL M,wrap .u64 ((s.2.2.2.2.2.2.2.1.length:Nat):Int),(2:Int))=some (a6G (wrap .u64 ((s.2.2.2.2.2.2.2.1.length:Nat):Int)) 2,wL (a0L (wrap .u64 ((s.2.2.2.2.2.2.2.1.length:Nat):Int)) 2 M)):=a2G (n:=2) (by omega) (by omega);have x:=b3K (s:=s) h.coefs (L:=M) (by omega);have y:=b3K (s:=s) h.coefs (L:=a1v 8 s.2.2.2.2.2.2.1 (a0L (wrap .u64 (wrap .i64 (s.2.2.2.2.1-1))) 10 M)) (by omega);simp only[bT,cF,a1R u,oB,I,K,z,w];generalize hPM:a1v (a0G s.2.2.2.2.2.2.2.2.1) s.2.2.2.2.2.2.2.2.1 (a2b s M)=PM at g O

  have o:∀(d:s.1≠0∧s.1≠1),∃a,PartsOk s.2.2.2.2.2.2.2.2.2.1 n ((s.2.2.2.2.2.2.2.2.1.length:Nat):Int) s.2.2.2.2.2.2.2.2.2.2.1 a:=fun d=>by
   simp_all[PartsOk.of]
  rcases b with k|k|k|k|k|k;have f:a2b s M=M:=by unfold a2b;grind
  rw[f]at g;refine⟨0,PM,?_,.inl rfl,by omega,fun _=>⟨rfl,[],by simp_all[a4h],fun h=>absurd k (by omega)⟩,fun h=>by grind⟩;simp only[k,show((0:Int)==2)=false from rfl,show((0:Int)==4)=false from rfl,show((0:Int)==3)=false from rfl,show((0:Int)==5)=false from rfl,cF,oB,g,a5n]
  simp
  have f:a2b s M=M:=by unfold a2b;grind
  rw[f]at g;refine⟨0,PM,?_,.inl rfl,by omega,fun _=>⟨rfl,[],by simp_all[a4h],fun h=>absurd k (by omega)⟩,fun h=>by grind⟩;simp only[k,show((1:Int)==2)=false from rfl,show((1:Int)==4)=false from rfl,show((1:Int)==3)=false from rfl,show((1:Int)==5)=false from rfl,cF,oB,g,a5n]
  simp
  all_goals
   obtain⟨a,q⟩:=o (by omega);have t1:=b8L (L:=PM) q (by omega);have P:(a3v s.2.2.2.2.2.2.2.2.2.1 a s.2.2.2.2.2.2.2.2.2.2.1 PM).length≤L.length+700000:=by
    have z1:=a0Q (wrap .u64 s.2.2.2.2.2.2.2.2.2.1.1) 4 PM;have z2:=b2D a s.2.2.2.2.2.2.2.2.2.1.2.1 s.2.2.2.2.2.2.2.2.2.2.1 (a0L (wrap .u64 s.2.2.2.2.2.2.2.2.2.1.1) 4 PM) q.all;have z3:=q.len
    grind[a3v]
   refine⟨0,a3v s.2.2.2.2.2.2.2.2.2.1 a s.2.2.2.2.2.2.2.2.2.2.1 PM,?_,.inl rfl,P,fun _=>⟨rfl,a,by simp_all[a4h],fun _=>q⟩,fun h=>by grind⟩
  have f:a2b s M=a0L (wrap .u64 s.2.2.1) 3 M:=by unfold a2b;grind
  rw[f]at g;simp only[k,show((2:Int)==2)=true from rfl,cT,F,oB,g,a5n]
  grind
  have f:a2b s M=a5m s M:=by unfold a2b;grind
  rw[f]at g;simp only[k,show((3:Int)==2)=false from rfl,show((3:Int)==4)=false from rfl,show((3:Int)==3)=true from rfl,cT,cF,x,oB,g,a5n]
  grind
  have f:a2b s M=a5m s (a1v 8 s.2.2.2.2.2.2.1 (a0L (wrap .u64 (wrap .i64 (s.2.2.2.2.1-1))) 10 M)):=by unfold a2b;grind
  rw[f]at g;simp only[k,show((4:Int)==2)=false from rfl,show((4:Int)==4)=true from rfl,cT,cF,G,j,y,oB,g,a5n]
  grind
  have f:a2b s M=a2I s.2.2.2.2.2.2.2.1 (a0L (wrap .u64 ((s.2.2.2.2.2.2.2.1.length:Nat):Int)) 2 M):=by unfold a2b;grind
  rw[f]at g;simp only[k,show((5:Int)==2)=false from rfl,show((5:Int)==4)=false from rfl,show((5:Int)==3)=false from rfl,show((5:Int)==5)=true from rfl,cT,cF,H,i,oB,g,a5n]
  grind
theorem b1m(h:List Nat):(a1h h).map a41=h:=by
 unfold a1h;rw[List.map_map]
 have:a41∘(fun(a:Nat)=>(a:Int))=id:=by rfl
 simp_all
def a3Z(s:Sub)(n:Int):Int:=
 if(a1O s n).isSome=true then(((a4h s ((a1z s.2.2.2.2.2.2.2.2.2.1.1 n ((s.2.2.2.2.2.2.2.2.1.length:Nat):Int)).map a41) []).length:Nat):Int)else 0
theorem b6i(h:s.1≠0∧s.1≠1→PartsOk s.2.2.2.2.2.2.2.2.2.1 n ((s.2.2.2.2.2.2.2.2.1.length:Nat):Int) s.2.2.2.2.2.2.2.2.2.2.1 zn)(L:List Int):
  a4h s zn L=a4h s ((a1z s.2.2.2.2.2.2.2.2.2.1.1 n ((s.2.2.2.2.2.2.2.2.1.length:Nat):Int)).map a41) L:=by
 by_cases hk:s.1=0∨s.1=1
 simp_all[a4h];rw[(h (not_or.1 hk)).sizes,b1m]
theorem c1d(h:SmallS s)(n:Int):a2L (s,n)=some (a3Z s n):=by
 obtain⟨e,f,g,-,-,k,c⟩:=b2a h (n:=n) (L:=[]) (by simp);have a:wL []=(([]:List Int),(0:Int),()):=rfl;rw[a]at g;obtain⟨d,-⟩:=a4I f;unfold a2L a3Z;simp[g,a7k];cases hs:(a1O s n).isSome with
 |false=>
  simp_all
 |true=>
  obtain⟨rfl,i,rfl,b⟩:=k hs;rw[if_pos rfl,←b6i b];simp_all
def dif:List Int→List Int
 |a::b::r=>W (b-a)::dif (b::r)
 |_=>[]
theorem a7g:∀l:List Int,(dif l).length=l.length-1
 | []=>rfl
 | [_]=>rfl
 |a::b::r=>by simp[dif,a7g (b::r)]
theorem b6j:∀(l:List Int)(i:Nat)(x y:Int),l[i]?=some x→l[i+1]?=some y→(dif l)[i]?=some (W (y-x))
 |a::b::r,0,x,y,h1,h2=>by simp at h1 h2;subst h1;subst h2;rfl
 |a::b::r,i+1,x,y,h1,h2=>by
  simp only[dif,List.getElem?_cons_succ]at h1 h2⊢;exact b6j (b::r) i x y h1 h2
 | [_],0,x,y,h1,h2=>by simp_all
 | [_],i+1,x,y,h1,h2=>by simp_all
 | [],i,x,y,h1,h2=>by simp_all
def a1P:Nat→List Int→List Int
 |0,l=>l
 |o+1,l=>dif (a1P o l)
theorem a4J(l:List Int):∀o,(a1P o l).length=l.length-o
 |0=>rfl
 |o+1=>by simp only[a1P,a7g,a4J l o];omega
theorem b2b{l:List Int}(h:short l)(o:Nat):short (a1P o l):=by
 have h:l.length<1000000:=h;show(a1P o l).length<1000000;rw[a4J];omega
def a8A(l:List Int)(i:Nat):List Int:=(dif l).take i++l.drop i
theorem b1n(h:i≤l.length-1):(a8A l i).length=l.length:=by
 grind[a8A,a7g]
theorem b6B(h:i≤l.length-1)(g:i≤j):(a8A l i).getD j 0=l.getD j 0:=by
 simp_all[a7g,a8A,List.getElem?_append_right]
theorem c4h(h:i<l.length-1):(a8A l i).set i (W (l.getD (i+1) 0-l.getD i 0))=a8A l (i+1):=by
 have e:((dif l).take i).length=i:=by grind[a7g]
 have f:l[i]?=some l[i]:=lG (by omega);have k:l[i+1]?=some l[i+1]:=lG (by omega);have a:=b6j l i _ _ f k;have g:i<(dif l).length:=by grind
 simp only[a8A];rw[List.set_append,if_neg (by omega),e,a56,a02 (show i<l.length by omega),a59,a48 g,aA]
 grind
theorem c2i{l:List Int}{o k:Int}(g:short l)(h:1≤l.length):y0s a4k ((0:Int),o,k,l,())=some (o,k,a8A l (l.length-1),()):=by
 have g:l.length<1000000:=g;have r:a8A l 0=l:=by rfl
 have:=a2m (f:=a4k) (fun i:Nat=>((i:Int),o,k,a8A l i,())) (l.length-1) (b:=(o,k,a8A l (l.length-1),()))
  (fun i s=>by
   have d:wrap .i64 ((i:Int)+1)=((i+1:Nat):Int):=a0C (by omega);have c:=b1n (l:=l) (i:=i) (by omega);have a:decide (((i+1:Nat):Int)<((l.length:Nat):Int))=true:=by grind
   have e:decide ((0:Int)≤((i+1:Nat):Int))=true:=by rfl
   have m:decide ((0:Int)≤(i:Int))=true:=by simp
   have n:decide ((i:Int)<((l.length:Nat):Int))=true:=by grind
   have n1:a41 ((i+1:Nat):Int)=i+1:=by rfl
   have n2:a41 (i:Int)=i:=by rfl
   have st:=c4h (l:=l) (i:=i) (by omega);have p:=b6B (l:=l) (i:=i) (j:=i+1) (by omega) (by omega);have q:=b6B (l:=l) (i:=i) (j:=i) (by omega) (by omega);simp_all[a4k])
  (by
   have c:=b1n (l:=l) (i:=l.length-1) (by omega);have d:wrap .i64 (((l.length-1:Nat):Int)+1)=((l.length:Nat):Int):=by grind[a0D]
   have a:decide (((l.length:Nat):Int)<((l.length:Nat):Int))=false:=by simp
   simp_all[a4k])
 simp_all
theorem c3l{l:List Int}:(a8A l (l.length-1)).take (l.length-1)=dif l:=by
 simp_all[a47,a7g,a8A]
theorem b2E(y:o≤4)(x:o≤l.length)(g:short l)(r:l.all a0A=true):
  a3I (l,(o:Int))=some (bif (a1P o l).all a0A then(a1P o l,0)else([],6)):=by
 have q:l.length<1000000:=g;have h:=a2m (f:=a6n) (fun k:Nat=>((o:Int),(k:Int),a1P k l,())) o (b:=(a1P o l,()))
  (fun k v=>by
   have n:1≤(a1P k l).length:=by rw[a4J];omega
   have p:(a1P k l).length<1000000:=b2b g k;have j:decide ((k:Int)<(o:Int))=true:=by simp_all
   have w:=b1n (l:=a1P k l) (i:=(a1P k l).length-1) (by omega);have z:wrap .i64 ((((a1P k l).length:Nat):Int)-1)=(((a1P k l).length-1:Nat):Int):=by grind[a0D]
   have w2:wrap .i64 ((k:Int)+1)=((k+1:Nat):Int):=a0C (by omega);have s:decide ((0:Int)≤(((a1P k l).length-1:Nat):Int))=true:=by simp
   have t:decide ((((a1P k l).length-1:Nat):Int)≤(((a1P k l).length:Nat):Int))=true:=by simp
   have u:decide ((a1P k l).length-1≤(a1P k l).length)=true:=by simp
   simp_all[a1P,a6n,c2i,b2b,c3l])
  (by
   have j:decide ((o:Int)<(o:Int))=false:=by simp
   simp_all[a6n])
 have a:decide ((o:Int)<0)=false:=by simp
 have c:decide ((o:Int) > 4)=false:=by grind
 have d:decide (((l.length:Nat):Int)<(o:Int))=false:=by simp_all
 have e:lim l.length=true:=a1c (by omega);simp at h;have m:a1P 0 l=l:=rfl;rw[m]at h;unfold a3I;simp only[a,c,d,e,cF,cT,oB,a5W g,r,bT,h,a5W (b2b g o)]
 grind
def ex:Nat→(Nat→Int)→Nat→Int
 |0,f,i=>f i
 |o+1,f,i=>ex o f (i+1)-ex o f i
theorem b4k{l:List Int}(g:l.all a0A=true):∀(o i:Nat),i+o<l.length→(a1P o l)[i]?=some (W (ex o (fun j=>l.getD j 0) i))
 |0,i,h=>by
  simp_all[a1P,ex,b3d]
 |o+1,i,h=>by
  have f:=b4k g o i (by omega);have k:=b4k g o (i+1) (by omega);simp_all[a1P,ex,b6j,a6E]
theorem c3m(e:l.all a0A=true)(d:o≤4)(h:o+j<l.length):W (W (ex o (fun j=>l.getD j 0) j)+a5g o (l.take (o+j)))=l.getD (o+j) 0:=by
 have f:a0A (l.getD (o+j) 0)=true:=by
  simp_all
 have g:∀i:Nat,1≤i→i≤o→atB (l.take (o+j)) i=l.getD (o+j-i) 0:=fun i b c=>by
  simp[atB,a69 (a82 h),List.getElem?_take]
  grind
 have a:ex o (fun j=>l.getD j 0) j+a5g o (l.take (o+j))=l.getD (o+j) 0:=by
  have k:o=0∨o=1∨o=2∨o=3∨o=4:=by omega
  rcases k with rfl|rfl|rfl|rfl|rfl;simp[ex,a5g]
  all_goals grind[ex,a5g]
 have:W (W (ex o (fun j=>l.getD j 0) j)+a5g o (l.take (o+j)))=W (ex o (fun j=>l.getD j 0) j+a5g o (l.take (o+j))):=by
  simp_all[a6E]
 simp_all[b3d]
theorem b8N{l:List Int}(f:l.all a0A=true){o:Nat}(b:o≤4):∀(k j:Nat),o+j+k=l.length→a3s (a5g o) ((a1P o l).drop j) (l.take (o+j))=some l
 |0,j,h=>by
  rw[List.drop_of_length_le (by rw[a4J];omega),a47 (by omega)];rfl
 |k+1,j,h=>by
  have g:j<(a1P o l).length:=by rw[a4J];omega
  have a:=b4k f o j (by omega);rw[lG g]at a;have e:=Option.some.inj a;have c:l.getD (o+j) 0=l[o+j]:=by grind
  have st:=c3m f b (show o+j<l.length by omega);rw[c]at st;rw[a02 g,e];simp only[a3s,st,lA.1 f _ (a05 (show o+j<l.length by omega)),cT];have d:l.take (o+j)++[l[o+j]]=l.take (o+(j+1)):=by
   rw[show o+(j+1)=(o+j)+1 by rfl]
   simp
  rw[d];exact b8N f b k (j+1) (by omega)
theorem a6i{σ β:Type}{f:σ→Option (σ ⊕ β)}(I:Nat→σ→Prop)(Q:β→Prop)(n:Nat)(g:∀i s,i<n→I i s→∃s',f s=some (.inl s')∧I (i+1) s')
  (a:∀s,I n s→∃b,f s=some (.inr b)∧Q b):∀(k i:Nat)(s:σ),i+k=n→I i s→∃b,y0s f s=some b∧Q b
 |0,i,s,h,hi=>by
  obtain rfl:i=n:=by omega
  grind[a0H]
 |k+1,i,s,h,hi=>by
  obtain⟨s',c,d⟩:=g i s (by omega) hi;rw[a0I c];exact a6i I Q n g a k (i+1) s' (by omega) d
theorem b3L(y:Int):0≤wrap .u64 y∧wrap .u64 y<18446744073709551616:=by
 grind[wrap,IntKind.bits,IntKind.signed]
def a9e(n:Int)(x:Int):Bool:=a0A x&&!(a25 x (A0n .i64 1 n) != 0)
def b2c{β:Type}(n:Int)(bad:β)(out:List Int)(x:Int):List Int ⊕ β:=bif a9e n x then .inl (out++[A0o .i64 x n])else .inr bad
def a8o(n:Int)(l:List Int):Option (List Int):=bif l.all (a9e n)then some (l.map fun x=>A0o .i64 x n)else none
theorem b2F{β:Type}(n:Int)(h:β)(g:List Int→β):∀(l out:List Int),a7n g (a2n (b2c n h) l out)=match a8o n l with|some r=>g (out++r)|none=>h
 | [],out=>by grind[a2n,a7n,a8o]
 |x::l,out=>by
  simp only[a2n,b2c,a8o,a07];cases hx:a9e n x with
  |true=>
   simp only[cT,a38];rw[b2F n h g l _];simp only[a8o];cases l.all (a9e n)with
   |true=>simp
   |false=>rfl
  |false=>rfl
theorem b8O{o:Nat}(h:o≤30):A0n .i64 1 (o:Int)=((2^o:Nat):Int):=by
 have g:2^o≤2^30:=a08 (by omega) h
 have:=b4h (N:=1) (o:=o) (by omega) (by omega)
 simp_all
theorem b1C(d:o≤30)(m:l.length<100000):a5E (l,(o:Int))=some (a4b (a8o (o:Int) l)):=by
 have e:short l:=by unfold short;omega
 have g:¬ (o:Int)<0:=by omega
 have b:¬ (o:Int) > 30:=by omega
 have c:(A0n .i64 (1:Int) (o:Int)==0)=false:=by
  rw[b8O d]
  have:0<2^o:=a17 o
  grind
 unfold a5E;simp[g,b]
 have:=a1E (f:=a5r) l (fun i out=>((o:Int),l,(l.length:Int),(i:Int),out,())) (b2c (o:Int) (Sum.inr ((6:Int),([]:List Int),())))
  (fun i out=>out.length=i) (fun out=>Sum.inl (out,()))
  (fun i h out j=>by
   have k:i<1000000:=by omega
   simp only[a5r,dlt h,cT,a0B h,oB,b1u,b2c,a9e,g,c,decide_false,cF];cases hb:a0A l[i]with
   |true=>
    cases hb2:(a25 l[i] (A0n .i64 1 (o:Int)) != 0)with
    |false=>
     simp only[cT,bT,cF,oB,g,decide_false,a0P (show out.length+1<1000000 by omega),a0C k,a03,a27,hb2];simp_all
    |true=>
     simp
   |false=>
    simp)
  (fun out _=>by simp[a5r]) (a:=[]) rfl
 simp[b2F]at this;rw[this];cases a8o (o:Int) l<;>rfl
theorem b4l{o:Nat}(h:o≤30){x:Int}(k:a9e (o:Int) x=true):a0A (A0o .i64 x (o:Int))=true∧A0n .i64 (A0o .i64 x (o:Int)) (o:Int)=x∧a0A x=true:=by
 simp only[a9e,b8O h,bA,a33,bne_eq_false_iff_eq]at k;obtain⟨f,d⟩:=k;obtain⟨c,rfl⟩:=Int.dvd_of_tmod_eq_zero d;have g:=a1x.1 f;have e:min (a41 (o:Int)) (IntKind.bits .i64)=o:=by grind[IntKind.bits]
 have hp:(0:Int)<2^o:=Int.pow_pos (by omega);have b:((2^o:Nat):Int)=2^o:=by simp
 rw[b]at g f⊢;have a:A0o .i64 (2^o*c) (o:Int)=c:=by
  unfold A0o
  grind[a63]
 rw[a];refine⟨a1x.2 ?_,?_,f⟩;generalize (2:Int)^o=p at hp g;have i:p*c=(p-1)*c+c:=by grind
 by_cases hc:0≤c
 have:=a46 (show 0≤p-1 by omega) hc
 omega
 have:=a46 (show 0≤p-1 by omega) (show 0≤-c by omega)
 grind
 grind[A0n,a0D]
theorem c5G(h:o≤30)(f:a8o (o:Int) l=some d):d.all a0A=true∧d.length=l.length∧upO (o:Int) d=some l:=by
 unfold a8o at f;cases ha:l.all (a9e (o:Int))with
 |false=>simp_all
 |true=>
  rw[ha]at f;simp at f;subst f;have g:=lA.1 ha;refine⟨?_,by simp,?_⟩;simp_all[b4l];have a:(l.map fun x=>A0o .i64 x (o:Int)).all (fun x=>a0A x&&a0A (A0n .i64 x (o:Int)))=true:=by
   simp only[List.all_map];refine lA.2 fun x k=>?_
   obtain⟨c,e,i⟩:=b4l h (g x k);simp_all
  unfold upO;rw[a]
  simp
  have b:l.map ((fun x=>A0n .i64 x (o:Int))∘fun x=>A0o .i64 x (o:Int))=l.map id:=List.map_congr_left (fun x k=>(b4l h (g x k)).2.1);simp_all
theorem c2j{n warm:Int}(h:a5i n warm=true):(a1z 0 n warm).length≠0:=by
 have g:=h;simp[a5i]at g
 grind[a1z,b1w]
theorem c2k(h:-1048576≤x∧x≤1048575):v0s (v0r x (-1048576)) 1048575=x:=by
 unfold v0s v0r
 grind
theorem c7Q(h:a0A x=true):-1048576≤A0o .i64 x ((10:Nat):Int)∧A0o .i64 x ((10:Nat):Int)≤1048575:=by
 have g:=a1x.1 h;have e:A0o .i64 x ((10:Nat):Int)=x / 1024:=by
  show a78 x 1024=_
  grind
 omega
theorem b6C{x:Int}(f:a0A x=true){a l:List Int}{n i:Int}:∀(k s:Nat),s+k=10→∃s':Nat,s'≤10∧y0s a2U (a,(s:Int),x,l,n,i,())=some (a,(s':Int),l,n,i,())
 |0,s,h=>by
  obtain rfl:s=10:=by omega
  have g:decide (((10:Nat):Int)<0)=false:=by rfl
  have d:=c2k (c7Q f);refine⟨10,a26 _,a0H ?_⟩;simp_all[a2U,a2f]
 |k+1,s,h=>by
  have g:decide ((s:Int)<0)=false:=decide_eq_false (by omega);cases hc:(v0s (v0r (A0o .i64 x (s:Int)) (-1048576)) 1048575 != A0o .i64 x (s:Int))with
  |false=>exact⟨s,by omega,a0H (by simp only[a2U,g,cF,a2f,oB,hc])⟩
  |true=>
   obtain⟨s',b,c⟩:=b6C f (a:=a) (l:=l) (n:=n) (i:=i) k (s+1) (by omega);refine⟨s',b,?_⟩;rw[a0I (s':=(a,((s+1:Nat):Int),x,l,n,i,())) (by simp only[a2U,g,cF,a2f,oB,hc,cT,a0C (show s<1000000 by omega)])];omega
theorem c0L(w:l.all a0A=true)(A:l.length<100000):∃r,a6r l=some r∧r.length=l.length:=by
 obtain⟨b,y,s,z,v⟩:=a6i (f:=a4q) (fun i st=>∃s:Nat,s≤10∧st=(l,(s:Int),l,(l.length:Int),(i:Int),())) (fun b=>∃s:Nat,s≤10∧b=(l,(s:Int),())) l.length
  (fun i st g h=>by
   obtain⟨s,q,rfl⟩:=h;obtain⟨s',k,e⟩:=b6C (lA.1 w _ (a05 g)) (a:=l) (l:=l) (n:=(l.length:Int)) (i:=(i:Int)) (10-s) s (by omega);exact⟨_,by simp only[a4q,dlt g,cT,a0B g,oB,e,a0C (show i<1000000 by omega)]<;>rfl,s',k,rfl⟩)
  (fun st h=>by
   obtain⟨s,q,rfl⟩:=h;exact⟨_,by simp_all[a4q],s,q,rfl⟩) l.length 0 _ (by omega) ⟨0,by omega,rfl⟩
 subst v;obtain⟨c,x,o,t,u⟩:=a6i (f:=a4r) (fun i st=>∃o:List Int,st=((s:Int),l,(l.length:Int),(i:Int),o,())∧o.length=l.length) (fun b=>∃o:List Int,b=(o,())∧o.length=l.length) l.length
  (fun i st g h=>by
   obtain⟨o,rfl,p⟩:=h;have d:decide ((s:Int)<0)=false:=decide_eq_false (by omega);have j:decide ((0:Int)≤(i:Int))=true:=by simp
   have m:decide ((i:Int)<((o.length:Nat):Int))=true:=decide_eq_true (by omega);exact⟨_,by simp only[a4r,dlt g,cT,a0B g,oB,d,cF,j,m,a03,a0C (show i<1000000 by omega)]<;>rfl,_,rfl,by grind⟩)
  (fun st h=>by
   obtain⟨o,rfl,p⟩:=h;exact⟨_,by simp_all[a4r],o,rfl,p⟩) l.length 0 _ (by omega) ⟨a00 l.length 0,rfl,by simp⟩
 subst t;refine⟨o,?_,u⟩;have d:decide ((0:Int)≤((l.length:Nat):Int))=true:=by simp
 have j:decide (((l.length:Nat):Int)≤((l.length:Nat):Int))=true:=by simp
 have m:lim l.length=true:=a0P (by omega);simp_all[a6r]
theorem b4W:∀(N:Nat)(num den:Int),den.toNat≤N→∃a b,y0s a2N (num,den,())=some (a,b,())
 |N,num,den,h=>by
  by_cases hd:den≥1099511627776
  ·have g:decide (den≥(1099511627776:Int))=true:=decide_eq_true hd;have e:A0o .i64 den 1=den / 2:=by
    show a78 den 2=_
    grind
   rw[a0I (s':=(A0o .i64 num 1,den / 2,())) (by simp_all[a2N])]
   match N with
   |0=>omega
   |N+1=>exact b4W N _ _ (by omega)
  have g:decide (den≥(1099511627776:Int))=false:=decide_eq_false hd;exact⟨num,den,a0H (by simp only[a2N,g,cF])⟩
theorem b4X{f:List Int}(u:1≤m)(r:g.length=f.length)(t:f.length<100000)(q:m<1000):∃k,a3V (f,g,(m:Int))=some k:=by
 obtain⟨b,n,d,den,o⟩:=a6i (f:=a2M) (fun i st=>∃d den:Int,st=(f,g,d,den,((m+i:Nat):Int),())) (fun b=>∃d den:Int,b=(d,den,())) (f.length-m)
  (fun i st s h=>by
   obtain⟨d,den,rfl⟩:=h;have j:m+i<f.length:=by omega
   have e:wrap .i64 (((m+i:Nat):Int)-1)=((m+i-1:Nat):Int):=by grind[a0D]
   exact⟨_,by simp only[a2M,dlt j,cT,a0B j,e,a0B (show m+i-1<g.length by omega),oB,a0C (show m+i<1000000 by omega)]<;>rfl,_,_,rfl⟩)
  (fun st h=>by
   obtain⟨d,den,rfl⟩:=h;have l:decide (((m+(f.length-m):Nat):Int)<((f.length:Nat):Int))=false:=decide_eq_false (by omega);exact⟨_,by simp only[a2M,l,cF]<;>rfl,_,_,rfl⟩) (f.length-m) 0 (f,g,0,0,(m:Int),()) (by omega) ⟨0,0,rfl⟩
 subst o;obtain⟨a,c,p⟩:=b4W den.toNat d den (a26 _);unfold a3V;simp[n,p];cases hc:(c==0)with
 |true=>simp
 |false=>
  simp
  cases decide ((A0n .i64 a 15).tmod c<0)<;>exact⟨_,rfl⟩
theorem b7G{f:List Int}{order:Int}(y:1≤m)(r:g.length=f.length)(x:f.length<100000)(s:m<1000):
  ∃f' a:List Int,y0s a2C (order,(m:Int),k,((f.length:Nat):Int)-1,f,g,ks,())=some (order,(m:Int),f',a,ks,())∧f'.length=f.length∧a.length=f.length:=by
 obtain⟨b,t,f',a,u,v⟩:=a6i (f:=a2C) (fun i st=>∃f' a:List Int,st=(order,(m:Int),k,((f.length:Nat):Int)-1-(i:Int),f',a,ks,())∧f'.length=f.length∧a.length=f.length)
  (fun b=>∃f' a:List Int,b=(order,(m:Int),f',a,ks,())∧f'.length=f.length∧a.length=f.length) (f.length-m)
  (fun i st w h=>by
   obtain⟨f',a,rfl,c,d⟩:=h;have j:decide (((f.length:Nat):Int)-1-(i:Int)≥(m:Int))=true:=decide_eq_true (by omega);have l:decide ((0:Int)≤((f.length:Nat):Int)-1-(i:Int))=true:=decide_eq_true (by omega);have n:decide (((f.length:Nat):Int)-1-(i:Int)<((f'.length:Nat):Int))=true:=decide_eq_true (by omega);have o:decide (((f.length:Nat):Int)-1-(i:Int)<((a.length:Nat):Int))=true:=decide_eq_true (by omega);have e:wrap .i64 (((f.length:Nat):Int)-1-(i:Int)-1)=((f.length:Nat):Int)-1-((i+1:Nat):Int):=by grind[a0D]
   have p:decide ((0:Int)≤((f.length:Nat):Int)-1-((i+1:Nat):Int))=true:=decide_eq_true (by omega);have q:decide (((f.length:Nat):Int)-1-((i+1:Nat):Int)<((a.length:Nat):Int))=true:=decide_eq_true (by omega);exact⟨_,by simp only[a2C,j,l,n,o,e,p,q,cT,a03,a2f,oB]<;>rfl,_,_,rfl,by simp_all,by simp_all⟩)
  (fun st h=>by
   obtain⟨f',a,rfl,c,d⟩:=h;have j:decide (((f.length:Nat):Int)-1-((f.length-m:Nat):Int)≥(m:Int))=false:=decide_eq_false (by omega);exact⟨_,by simp only[a2C,j,cF]<;>rfl,f',a,rfl,c,d⟩) (f.length-m) 0 _ (by omega) ⟨f,g,rfl,rfl,r⟩
 grind
theorem b8P{f:List Int}(y:o≤32)(v:g.length=f.length)(x:f.length<100000):∃ks:List Int,y0s a2D ((o:Int),(1:Int),f,g,([]:List Int),())=some (ks,())∧ks.length=o:=by
 obtain⟨b,p,ks,t,u⟩:=a6i (f:=a2D) (fun i st=>∃f' a ks:List Int,st=((o:Int),((i+1:Nat):Int),f',a,ks,())∧f'.length=f.length∧a.length=f.length∧ks.length=i)
  (fun b=>∃ks:List Int,b=(ks,())∧ks.length=o) o
  (fun i st w h=>by
   obtain⟨f',a,ks,rfl,j,l,q⟩:=h;have d:decide (((i+1:Nat):Int)≤(o:Int))=true:=decide_eq_true (by omega);obtain⟨k,n⟩:=b4X (f:=f') (g:=a) (m:=i+1) (by omega) (by omega) (by omega) (by omega);have e:wrap .i64 (((f'.length:Nat):Int)-1)=((f'.length:Nat):Int)-1:=a0D (by omega);obtain⟨r,s,p,t,u⟩:=b7G (f:=f') (g:=a) (ks:=ks++[k]) (m:=i+1) (order:=(o:Int)) (k:=k) (by omega) (by omega) (by omega) (by omega);have c:lim (ks.length+1)=true:=a0P (by omega);exact⟨_,by simp only[a2D,d,cT,n,oB,c,e,a06,p,a0C (show i+1<1000000 by omega)]<;>rfl,r,s,ks++[k],rfl,by omega,by omega,by grind⟩)
  (fun st h=>by
   obtain⟨f',a,ks,rfl,j,l,q⟩:=h;have d:decide (((o+1:Nat):Int)≤(o:Int))=false:=decide_eq_false (by omega);exact⟨_,by simp only[a2D,d,cF]<;>rfl,ks,rfl,q⟩) o 0 _ (by omega) ⟨f,g,[],rfl,rfl,v,rfl⟩
 simp_all
theorem b8Q(h:l.all a0A=true)(t:l.length≤4096)(s:1≤o)(m:o≤32):∃ks:List Int,a5u (l,(o:Int))=some (ks,0)∧ks.length=o:=by
 have p:short l:=by unfold short;omega
 obtain⟨r,e,q⟩:=c0L h (by omega);have n:short r:=by unfold short;omega
 obtain⟨ks,i,j⟩:=b8P (f:=r) (g:=r) m rfl (by omega);have k:decide ((o:Int)<1)=false:=decide_eq_false (by omega);have a:decide ((o:Int) > 32)=false:=decide_eq_false (by omega);have b:decide (((l.length:Nat):Int) > 4096)=false:=decide_eq_false (by omega);have c:decide ((0:Int)≤(o:Int))=true:=by simp
 have d:lim o=true:=a0P (by omega);refine⟨ks,?_,j⟩;unfold a5u;simp only[k,a,b,c,d,cF,cT,oB,a4R p,h,bT,e,a6F n,tN,a03,i]
theorem b0D{σ β:Type}{f:σ→Option (σ ⊕ β)}(I:Nat→σ→Prop)(Q:β→Prop)(n:Nat)(g:∀i s,i<n→I i s→(∃s',f s=some (.inl s')∧I (i+1) s')∨(∃b,f s=some (.inr b)∧Q b))
  (a:∀s,I n s→∃b,f s=some (.inr b)∧Q b):∀(k i:Nat)(s:σ),i+k=n→I i s→∃b,y0s f s=some b∧Q b
 |0,i,s,h,hi=>by
  obtain rfl:i=n:=by omega
  grind[a0H]
 |k+1,i,s,h,hi=>by
  rcases g i s (by omega) hi with⟨s',c,d⟩|⟨b,c,d⟩;rw[a0I c];exact b0D I Q n g a k (i+1) s' (by omega) d;simp_all[a0H]
theorem c0M(k:ks.length≤32):∃b,y0s a1L (ks,ks,(ks.length:Int),(0:Int),())=some b∧(b=.inl (ks,())∨b=.inr (([]:List Int),(1:Int),())):=
 b0D (f:=a1L) (fun i s=>s=(ks,ks,(ks.length:Int),(i:Int),())) (fun b=>b=.inl (ks,())∨b=.inr (([]:List Int),(1:Int),())) ks.length
  (fun i s g h=>by
   subst h;cases h1:decide (ks[i]<(-16383:Int))with
   |true=>exact Or.inr ⟨_,by simp_all[a1L,a0B],Or.inr rfl⟩
   |false=>
    cases h2:decide (ks[i] > (16383:Int))with
    |true=>exact Or.inr ⟨_,by simp_all[a1L,a0B],Or.inr rfl⟩
    |false=>exact Or.inl ⟨_,by simp only[a1L,dlt g,cT,cF,a0B g,oB,h1,h2,a0C (show i<1000000 by omega)]<;>rfl,rfl⟩)
  (fun s h=>by
   subst h;exact⟨_,by simp_all[a1L],Or.inl rfl⟩) ks.length 0 _ (by omega) rfl
theorem c0N{a:List Int}(t:c.length=i)(u:i≤32):
  ∃g:List Int,y0s a3n (c,(i:Int),k,a,n,(i:Int),c,(c.length:Int),(0:Int),([]:List Int),())=some (k,a,n,(i:Int),g,())∧g.length=i:=by
 obtain⟨b,p,g,q,r⟩:=a6i (f:=a3n) (fun j s=>∃g:List Int,s=(c,(i:Int),k,a,n,(i:Int),c,(c.length:Int),(j:Int),g,())∧g.length=j)
  (fun b=>∃g:List Int,b=(k,a,n,(i:Int),g,())∧g.length=c.length) c.length
  (fun j s e h=>by
   obtain⟨g,rfl,l⟩:=h;have m:wrap .i64 ((i:Int)-1)=(i:Int)-1:=a0D (by omega);have o:wrap .i64 ((i:Int)-1-(j:Int))=((i-1-j:Nat):Int):=by grind[a0D]
   have d:lim (g.length+1)=true:=a0P (by omega);exact⟨_,by simp only[a3n,dlt e,cT,a0B e,oB,m,o,a0B (show i-1-j<c.length by omega),d,a0C (show j<1000000 by omega),a06]<;>rfl,_,rfl,by grind⟩)
  (fun s h=>by
   obtain⟨g,rfl,l⟩:=h;exact⟨_,by simp_all[a3n],g,rfl,l⟩) c.length 0 _ (by omega) ⟨[],rfl,rfl⟩
 simp_all
theorem c2l(y:1≤ks.length)(w:ks.length≤32):∃c e,a6V ks=some (c,e)∧(e=0→c.length=ks.length):=by
 obtain⟨b,p,q⟩:=c0M w;have j:decide (((ks.length:Nat):Int)<1)=false:=decide_eq_false (by omega);have l:decide (((ks.length:Nat):Int) > 32)=false:=decide_eq_false (by omega);unfold a6V;simp[j,l,p];rcases q with rfl|rfl;obtain⟨r,t,c,u,v⟩:=a6i (f:=a4N) (fun i s=>∃c:List Int,s=(c,ks,(ks.length:Int),(i:Int),())∧c.length=i) (fun r=>∃c:List Int,r=(c,())∧c.length=ks.length) ks.length
  (fun i s d h=>by
   obtain⟨c,rfl,g⟩:=h;have o:wrap .i64 ((i:Int)+1)=((i+1:Nat):Int):=a0C (by omega);have m:decide ((0:Int)≤((i+1:Nat):Int))=true:=by rfl
   have l1:lim (i+1)=true:=a0P (by omega);obtain⟨x,n1,n2⟩:=c0N (c:=c) (a:=ks) (i:=i) (k:=ks[i]) (n:=(ks.length:Int)) g (by omega);have l2:lim (x.length+1)=true:=a0P (by omega);exact⟨_,by simp only[a4N,dlt d,cT,a0B d,oB,o,m,tN,l1,a03,n1,l2,a06]<;>rfl,_,rfl,by grind⟩)
  (fun s h=>by
   obtain⟨c,rfl,g⟩:=h;exact⟨_,by simp_all[a4N],c,rfl,g⟩) ks.length 0 _ (by omega) ⟨[],rfl,rfl⟩
 subst u;simp at t;exact⟨c,0,by simp_all,fun _=>v⟩
 grind
theorem c0O{s:Nat}{half:Int}(m:c.length≤32)(d:w≤32):
  ∃out:List Int,y0s a1N (c,(w:Int),(s:Int),half,c,(c.length:Int),(0:Int),([]:List Int),())=some (c,(w:Int),(s:Int),out,()):=by
 obtain⟨b,i,out,l⟩:=b0D (f:=a1N) (fun j st=>∃out:List Int,st=(c,(w:Int),(s:Int),half,c,(c.length:Int),(j:Int),out,())∧out.length=j)
  (fun b=>∃out:List Int,b=(c,(w:Int),(s:Int),out,())) c.length
  (fun j st k h=>by
   obtain⟨out,rfl,e⟩:=h;have a:decide ((s:Int)<0)=false:=decide_eq_false (by omega);have g:lim (out.length+1)=true:=a0P (by omega);cases hf:a1q (A0o .i64 (wrap .i64 (c[j]+half)) (s:Int)) (w:Int)with
   |true=>exact Or.inl ⟨_,by simp only[a1N,dlt k,cT,a0B k,oB,a,cF,a5k d,hf,bT,g,a0C (show j<1000000 by omega),a06]<;>rfl,_,rfl,by grind⟩
   |false=>exact Or.inr ⟨_,by simp only[a1N,dlt k,cT,a0B k,oB,a,cF,a5k d,hf,a27]<;>rfl,out,rfl⟩)
  (fun st h=>by
   obtain⟨out,rfl,e⟩:=h;exact⟨_,by simp_all[a1N],out,rfl⟩) c.length 0 _ (by omega) ⟨[],rfl,rfl⟩
 simp_all
theorem c0P{w:Int}(k:c.length≤32):∃b,y0s a1M (c,w,c,(c.length:Int),(0:Int),())=some b∧(b=.inl (c,w,())∨b=.inr ((0:Int),(1:Int),([]:List Int),())):=
 b0D (f:=a1M) (fun i s=>s=(c,w,c,(c.length:Int),(i:Int),())) (fun b=>b=.inl (c,w,())∨b=.inr ((0:Int),(1:Int),([]:List Int),())) c.length
  (fun i s g h=>by
   subst h;cases h1:decide (c[i]<(-35184372088832:Int))with
   |true=>exact Or.inr ⟨_,by simp_all[a1M,a0B],Or.inr rfl⟩
   |false=>
    cases h2:decide (c[i] > (35184372088832:Int))with
    |true=>exact Or.inr ⟨_,by simp_all[a1M,a0B],Or.inr rfl⟩
    |false=>exact Or.inl ⟨_,by simp only[a1M,dlt g,cT,cF,a0B g,oB,h1,h2,a0C (show i<1000000 by omega)]<;>rfl,rfl⟩)
  (fun s h=>by
   subst h;exact⟨_,by simp_all[a1M],Or.inl rfl⟩) c.length 0 _ (by omega) rfl
theorem c2m(z:1≤c.length)(n:c.length≤32)(C:2≤w∧w≤16):∃o sh e,a6W (c,(w:Int))=some (o,sh,e)∧(e=0→o.length=c.length):=by
 obtain⟨b,v,x⟩:=c0P (w:=(w:Int)) n;have p:decide (((c.length:Nat):Int)<1)=false:=decide_eq_false (by omega);have q:decide (((c.length:Nat):Int) > 32)=false:=decide_eq_false (by omega);have t:decide ((w:Int)<2)=false:=decide_eq_false (by omega);have u:decide ((w:Int) > 16)=false:=decide_eq_false (by omega);unfold a6W;simp[p,q,t,u,v];rcases x with rfl|rfl
 ·obtain⟨r,A,y⟩:=b0D (f:=a2q) (fun i s=>s=(c,(w:Int),(i:Int),())) (fun r=>r=.inl ()∨∃(sh:Int)(o:List Int),r=.inr (sh,(0:Int),o,())∧o.length=c.length) 15
   (fun i s B h=>by
    subst h;have d:decide ((i:Int)≤14)=true:=decide_eq_true (by omega);have j:decide ((0:Int)≤((c.length:Nat):Int))=true:=by simp
    have l1:lim c.length=true:=a0P (by omega);have k:∀g:Int,∃o:List Int,y0s a1N (c,(w:Int),(i:Int),g,c,(c.length:Int),(0:Int),([]:List Int),())=some (c,(w:Int),(i:Int),o,()):=fun g=>c0O n (by omega)
    by_cases hp:(i:Int) > 0
    ·have m:wrap .i64 ((i:Int)-1)=(i:Int)-1:=a0D (by omega);have l:decide ((i:Int)-1<0)=false:=decide_eq_false (by omega);obtain⟨o,a⟩:=k (A0n .i64 1 ((i:Int)-1));cases hc:((((o.length:Nat):Int))==((c.length:Nat):Int))with
     |true=>exact Or.inr ⟨_,by simp only[a2q,d,cT,hp,decide_true,m,l,cF,oB,j,tN,l1,a03,a,hc]<;>rfl,Or.inr ⟨_,o,rfl,by grind⟩⟩
     |false=>exact Or.inl ⟨_,by simp only[a2q,d,cT,hp,decide_true,m,l,cF,oB,j,tN,l1,a03,a,hc,a0C (show i<1000000 by omega)]<;>rfl,rfl⟩
    ·obtain⟨o,a⟩:=k 0;cases hc:((((o.length:Nat):Int))==((c.length:Nat):Int))with
     |true=>exact Or.inr ⟨_,by simp only[a2q,d,cT,hp,decide_false,cF,oB,j,tN,l1,a03,a,hc]<;>rfl,Or.inr ⟨_,o,rfl,by grind⟩⟩
     |false=>exact Or.inl ⟨_,by simp only[a2q,d,cT,hp,decide_false,cF,oB,j,tN,l1,a03,a,hc,a0C (show i<1000000 by omega)]<;>rfl,rfl⟩)
   (fun s h=>by
    subst h;have d:decide (((15:Nat):Int)≤14)=false:=by rfl
    exact⟨_,by rfl,Or.inl rfl⟩) 15 0 (c,(w:Int),(0:Int),()) (by rfl) rfl
  rcases y with rfl|⟨sh,o,rfl,a⟩;exact⟨[],0,6,by simp_all,fun h=>absurd h (by simp)⟩;exact⟨o,sh,0,by simp_all,fun _=>a⟩
 grind
theorem c3n(j:l.all a0A=true)(d:l.length≤4096)(k:1≤o)(a:o≤32)(b:2≤w∧w≤16):∃c sh e,a3i (l,(o:Int),(w:Int))=some (c,sh,e)∧(e=0→c.length=o):=by
 obtain⟨ks,g,n⟩:=b8Q j d k a;obtain⟨c,e,f,p⟩:=c2l (ks:=ks) (by omega) (by omega);unfold a3i;simp[g,f]
 by_cases he:e=0
 subst he;obtain⟨s,sh,m,q,r⟩:=c2m (c:=c) (w:=w) (by omega) (by omega) b
 grind
 have i:(e != 0)=true:=by simp_all
 exact⟨[],0,e,by grind,fun h=>absurd h he⟩
theorem c2n(c:l.length<100000)(d:o≤4):∃v,a7A (l,(o:Int))=some v:=by
 obtain⟨b,k,v,a⟩:=a6i (f:=a3M) (fun i s=>∃v:Int,s=((o:Int),v,l,(l.length:Int),(i:Int),())) (fun b=>∃v:Int,b=(v,())) l.length
  (fun i s g h=>by
   obtain⟨v,rfl⟩:=h;cases hc:decide (wrap .i64 ((i:Int)+(o:Int))≥4)with
   |true=>exact⟨_,by simp only[a3M,dlt g,cT,a0B g,oB,hc,a0C (show i<1000000 by omega)]<;>rfl,_,rfl⟩
   |false=>exact⟨_,by simp only[a3M,dlt g,cT,cF,a0B g,oB,hc,a0C (show i<1000000 by omega)]<;>rfl,_,rfl⟩)
  (fun s h=>by
   obtain⟨v,rfl⟩:=h;exact⟨_,by simp_all[a3M],v,rfl⟩) l.length 0 ((o:Int),(0:Int),l,(l.length:Int),(0:Int),()) (by omega) ⟨0,rfl⟩
 simp_all[a7A]
theorem b4Y(h:o≤4)(b:l.length<100000)(g:l.all a0A=true):∃r e,a3I (l,(o:Int))=some (r,e)∧r.length≤l.length:=by
 by_cases hn:o≤l.length
 ·rw[b2E h hn (by unfold short;omega) g];cases (a1P o l).all a0A with
  |true=>exact⟨_,_,rfl,by rw[a4J];omega⟩
  |false=>simp
 have f:decide ((o:Int)<0)=false:=decide_eq_false (by omega);have k:decide ((o:Int) > 4)=false:=decide_eq_false (by omega);have a:decide (((l.length:Nat):Int)<(o:Int))=true:=decide_eq_true (by omega);simp_all[a3I]
theorem b4Z(d:l.length<100000)(j:l.all a0A=true):∃o:Nat,a4X l=some (o:Int)∧o≤4:=by
 obtain⟨b,n,o,p,q⟩:=a6i (f:=a3b) (fun i s=>∃(o:Nat)(v:Int),s=(l,(o:Int),v,(i:Int),())∧o≤4) (fun b=>∃o:Nat,b=((o:Int),())∧o≤4) 5
  (fun i s t h=>by
   obtain⟨o,v,rfl,a⟩:=h;have g:decide ((i:Int)≤4)=true:=decide_eq_true (by omega);obtain⟨r,e,k,m⟩:=b4Y (o:=i) (by omega) d j;obtain⟨y,c⟩:=c2n (l:=r) (o:=i) (by omega) (by omega);cases hc:(e != 0)with
   |true=>exact⟨_,by simp only[a3b,g,cT,k,oB,hc,a0C (show i<1000000 by omega)]<;>rfl,o,v,rfl,a⟩
   |false=>
    cases h4:decide (v<0)with
    |true=>exact⟨_,by simp only[a3b,g,cT,cF,k,oB,hc,c,h4,a0C (show i<1000000 by omega)]<;>rfl,i,y,rfl,by omega⟩
    |false=>
     cases h5:decide (y<v)with
     |true=>exact⟨_,by simp only[a3b,g,cT,cF,k,oB,hc,c,h4,h5,a0C (show i<1000000 by omega)]<;>rfl,i,y,rfl,by omega⟩
     |false=>exact⟨_,by simp only[a3b,g,cT,cF,k,oB,hc,c,h4,h5,a0C (show i<1000000 by omega)]<;>rfl,o,v,rfl,a⟩)
  (fun s h=>by
   obtain⟨o,v,rfl,a⟩:=h;have g:decide (((5:Nat):Int)≤4)=false:=by rfl
   exact⟨_,by rfl,o,rfl,a⟩) 5 0 (l,(0:Int),(-1:Int),(0:Int),()) (by rfl) ⟨0,-1,rfl,by omega⟩
 grind[a4X]
def a7I(g:List Int→Int):List Int→List Int→List Int
 | [],_=>[]
 |x::r,done=>W (x-g done)::a7I g r (done++[x])
theorem b0E(g:List Int→Int):∀r done,(a7I g r done).length=r.length
 | [],_=>rfl
 |x::r,done=>by simp[a7I,b0E g r]
theorem c3o{x g:Int}(h:a0A x=true):W (W (x-g)+g)=x:=by
 have:=b3d h
 simp_all[a6E]
theorem b2d(g:List Int→Int):∀(r done:List Int),r.all a0A=true→a3s g (a7I g r done) done=some (done++r)
 | [],done,_=>by simp[a7I,a3s]
 |x::r,done,h=>by
  rw[a07,bA]at h;simp only[a7I,a3s,c3o h.1,h.1,cT,b2d g r (done++[x]) h.2,aA,a73]
def a9f(g:List Int→Int)(r done:List Int):Option (List Int):=bif (a7I g r done).all a0A then some (a7I g r done)else none
def b0Y{β:Type}(g:List Int→Int)(bad:β)(a:List Int×List Int)(x:Int):(List Int×List Int) ⊕ β:=
 bif a0A (W (x-g a.1))then .inl (a.1++[x],a.2++[W (x-g a.1)])else .inr bad
theorem b2e{β:Type}(g:List Int→Int)(f:β)(k:List Int×List Int→β):∀(r done acc:List Int),
  a7n k (a2n (b0Y g f) r (done,acc))=match a9f g r done with|some e=>k (done++r,acc++e)|none=>f
 | [],done,acc=>by grind[a2n,a7n,a9f,a7I]
 |x::r,done,acc=>by
  simp[a2n,b0Y];cases h:a0A (W (x-g done))with
  |true=>
   simp
   rw[b2e g f k r];simp only[a9f,a7I,a07,h,a38]
   grind
  |false=>simp_all[a7n,a9f,a7I]
theorem b5a{g:List Int→Int}{done e:List Int}(h:a9f g r done=some e):e=a7I g r done∧e.all a0A=true:=by
 unfold a9f at h
 grind
theorem b6D(h:i<l.length):l.take i++[l[i]]=l.take (i+1):=by simp
theorem b4m{l:List Int}{p:Int→Bool}(h:l.all p=true)(i:Nat):(l.take i).all p=true:=by
 grind
theorem c4i{p:Int→Bool}(h:l.all p=true)(i:Nat):(l.drop i).all p=true:=by
 grind
theorem b6E{σ β:Type}{f:σ→Option (σ ⊕ β)}(l:List Int)(k:Nat)(r:k≤l.length)(S:Nat→List Int→σ)(g:List Int×List Int→Int→(List Int×List Int) ⊕ β)(d:List Int→β)
  (j:∀i (h:i<l.length) c,k≤i→c.length=i-k→(∀a',g (l.take i,c) l[i]=.inl a'→f (S i c)=some (.inl (S (i+1) a'.2))∧a'.1=l.take (i+1)∧a'.2.length=i+1-k)∧(∀b,g (l.take i,c) l[i]=.inr b→f (S i c)=some (.inr b)))
  (e:∀c,c.length=l.length-k→f (S l.length c)=some (.inr (d c))):y0s f (S k [])=some (a7n (fun a=>d a.2) (a2n g (l.drop k) (l.take k,[]))):=by
 have h:=a1E (f:=f) (l.drop k) (fun i a=>S (k+i) a.2) g (fun i a=>a.1=l.take (k+i)∧a.2.length=i) (fun a=>d a.2)
  (fun i p a n=>by
   obtain⟨a1,c⟩:=a;obtain⟨m,o⟩:=n;simp only at m o;subst m;rw[a52]at p;have q:k+i<l.length:=by omega
   grind)
  (fun a n=>by
   simp_all) (a:=(l.take k,[])) ⟨by simp,rfl⟩
 omega
def b2f(l c:List Int)(s:Int):Option (List Int):=bif l.all a0A then a9f (a8w c s) (l.drop c.length) (l.take c.length)else none
theorem b1D{s:Int}(w:a7M c s=true)(u:c.length≤l.length)(z:l.length<100000):
  a5H (l,c,s)=some (a4b (b2f l c s)):=by
 have n:short l:=by unfold short;omega
 have k:short c:=by unfold short;omega
 have e:0≤s:=by simp_all[a7M]
 have p:decide (((l.length:Nat):Int)<((c.length:Nat):Int))=false:=by simp_all
 unfold a5H b2f;simp only[a7F k,w,oB,bT,cF,p,a4R n];cases hw:l.all a0A with
 |false=>rfl
 |true=>
  have q:wrap .i64 (((l.length:Nat):Int)-((c.length:Nat):Int))=((l.length-c.length:Nat):Int):=by grind[a0D]
  have y:decide ((0:Int)≤((l.length-c.length:Nat):Int))=true:=by simp
  have r:lim (l.length-c.length)=true:=a0P (by omega);simp[q,r]
  have:=b6E (f:=a3K) l c.length u (fun i h=>(l,c,s,(i:Int),h,())) (b0Y (a8w c s) (.inr ((6:Int),([]:List Int),()))) (fun h=>.inl (h,()))
   (fun i a h v d=>by
    have o:short (l.take i):=by unfold short;grind
    have j:decide ((0:Int)≤(i:Int))=true:=by simp
    have m:decide ((i:Int)≤((l.length:Nat):Int))=true:=by grind
    have t:lim (h.length+1)=true:=a0P (by omega);constructor
    ·intro x g;unfold b0Y at g;cases hq:a0A (W (l[i]-a8w c s (l.take i)))with
     |false=>simp_all
     |true=>
      simp only[hq,cT,Sum.inl.injEq]at g;subst g;refine⟨?_,b6D a,by grind⟩;simp only[a3K,dlt a,cT,a0B a,oB,j,m,a03,tN,b1U o k e,a5f,hq,bT,cF,t,a0C (a09 a n),a06]
    ·intro b hb;unfold b0Y at hb;cases hq:a0A (W (l[i]-a8w c s (l.take i)))with
     |true=>simp_all
     |false=>
      simp[hq]at hb;subst hb;simp only[a3K,dlt a,cT,a0B a,oB,j,m,a03,tN,b1U o k e,a5f,hq,a27])
   (fun h d=>by simp[a3K])
  rw[this,b2e];cases a9f (a8w c s) (l.drop c.length) (l.take c.length)<;>rfl
theorem b2g{s:Int}(h:b2f l c s=some r):a9V (l.take c.length) r c s=some l∧r.all a0A=true∧r.length=l.length-c.length:=by
 unfold b2f at h;cases hw:l.all a0A with
 |false=>simp_all
 |true=>
  simp[hw]at h;obtain⟨e,g⟩:=b5a h;refine⟨?_,g,by simp_all[b0E]⟩;simp[a9V,b4m hw,g]
  grind[b2d,List.take_append_drop]
def b1E(l:List Int)(lag:Int)(t:List Int):Option (List Int):=bif l.all a0A then a9f (a7G lag t) l []else none
theorem b8R(p:a9a lag t=true)(d:t.length=3)(s:l.length<100000):
  a6b (l,lag,t)=some (a4b (b1E l lag t)):=by
 have c:short l:=by unfold short;omega
 obtain⟨j,m⟩:2≤lag∧lag≤1024:=by simp_all[a9a]
 unfold a6b b1E;simp only[b1i d,p,oB,bT,cF,b0Q c];cases hw:l.all a0A with
 |false=>rfl
 |true=>
  have r:decide ((0:Int)≤((l.length:Nat):Int))=true:=by simp
  have e:lim l.length=true:=a0P (by omega);simp[e]
  have:=b6E (f:=a4U) l 0 (Nat.zero_le _) (fun i h=>(l,lag,l,(l.length:Int),(i:Int),h,t,())) (b0Y (a7G lag t) (.inr ((6:Int),([]:List Int),()))) (fun h=>.inl (h,()))
   (fun i a h o k=>by
    have n:lim (h.length+1)=true:=a0P (by omega);have hp:=b0S (lag:=lag) (t:=t) (a82 a) c d j m;constructor
    ·intro q g;unfold b0Y at g;cases hq:a0A (W (l[i]-a7G lag t (l.take i)))with
     |false=>simp_all
     |true=>
      simp only[hq,cT,Sum.inl.injEq]at g;subst g;refine⟨?_,b6D a,by simp_all⟩;simp only[a4U,dlt a,cT,a0B a,oB,hp,a6D,hq,bT,cF,n,a0C (a09 a c),a06]
    ·intro b hb;unfold b0Y at hb;cases hq:a0A (W (l[i]-a7G lag t (l.take i)))with
     |true=>simp_all
     |false=>
      simp_all[a4U,a0B,a6D])
   (fun h k=>by simp[a4U])
  simp only[nZ]at this;rw[this,b2e,a28,List.take_zero];cases a9f (a7G lag t) l []<;>rfl
theorem b3h(h:b1E l lag t=some r):b0T r lag t=some l∧r.all a0A=true∧r.length=l.length:=by
 unfold b1E at h;cases hw:l.all a0A with
 |false=>simp_all
 |true=>
  simp[hw]at h;obtain⟨e,g⟩:=b5a h;refine⟨?_,g,by rw[e,b0E]⟩;simp[b0T,g];simp_all[b2d]
def rsG:List Int→Fil→List Int
 | [],_=>[]
 |x::r,f=>W (x-a0Z f)::rsG r (a9G f x)
theorem b2h:∀r f,(rsG r f).length=r.length
 | [],_=>rfl
 |x::r,f=>by simp[rsG,b2h r]
def rsO:List Int→List Int→Fil→Option (List Int)
 | [],done,_=>some done
 |x::r,done,f=>bif a0A (W (x-a0Z f))then rsO r (done++[W (x-a0Z f)]) (a9G f x)else none
theorem c3p:∀(r done:List Int)(f:Fil),rsO r done f=bif (rsG r f).all a0A then some (done++rsG r f)else none
 | [],done,f=>by simp[rsO,rsG]
 |x::r,done,f=>by
  simp[rsO,rsG];cases a0A (W (x-a0Z f))with
  |false=>rfl
  |true=>simp_all[c3p]
theorem c1e:∀(r z:List Int)(f:Fil),r.all a0A=true→stO (rsG r f) z f=some (z++r)
 | [],z,f,_=>by simp[rsG,stO]
 |x::r,z,f,h=>by
  rw[a07,bA]at h;have e:W (a0Z f+W (x-a0Z f))=x:=by grind[c3o]
  simp only[rsG,stO,e,h.1,cT,c1e r _ _ h.2,aA,a73]
theorem b0Z{row:List Int}{a:List Stg}{b c:Int}(l:short row):∀(k i:Nat)(done:List Int)(f:Fil),i+k=row.length→done.length=i→FilOk f→
  y0s a4n (a,b,c,(row.length:Int),(i:Int),done++row.drop i,f,())=some (match rsO (row.drop i) done f with
   |some r=>.inl (a,b,c,r,())
   |none=>.inr ((6:Int),([]:List Int),()))
 |0,i,done,f,h,hd,hf=>by
  obtain rfl:i=row.length:=by omega
  rw[a49,a39];exact a0H (b:=Sum.inl (a,b,c,done,())) (by simp[a4n])
 |k+1,i,done,f,h,hd,hf=>by
  have g:i<row.length:=by omega
  have m:row.length<1000000:=l;have e:decide ((0:Int)≤(i:Int))=true:=by simp
  have n:(done++row.drop i).length=row.length:=by grind
  have j:decide ((i:Int)<(((done++row.drop i).length:Nat):Int))=true:=by simp_all
  have d:rsO (row.drop i) done f=bif a0A (W (row[i]-a0Z f))then rsO (row.drop (i+1)) (done++[W (row[i]-a0Z f)]) (a9G f row[i])else none:=by
   rw[a02 g];rfl
  rw[d];cases hw:a0A (W (row[i]-a0Z f))with
  |true=>
   rw[a0I (s':=(a,b,c,(row.length:Int),((i+1:Nat):Int),(done++[W (row[i]-a0Z f)])++row.drop (i+1),a9G f row[i],())) (by
    simp only[a4n,dlt g,e,j,cT,a03,a5h hf,oB,tN,b0U hd g,a4g,hw,bT,cF,b2z hf,b8B hd g,a0C (show i<1000000 by omega)])]
   exact b0Z l k (i+1) _ _ (by omega) (by simp_all) (b8A hf _)
  |false=>
   exact a0H (by
    simp only[a4n,dlt g,e,j,cT,a03,a5h hf,oB,tN,b0U hd g,a4g,hw,a27];rfl)
def lRO:List Stg→List Int→Option (List Int)
 | [],row=>some row
 |s::r,row=>match rsO row [] (a8x s)with
  |some row'=>lRO r row'
  |none=>none
theorem b8S{f:Fil}(h:rsO row [] f=some d):d=rsG row f∧d.all a0A=true:=by
 rw[c3p]at h
 grind
theorem b6F:∀(a b:List Stg)(row:List Int),lO (a++b) row=match lO a row with|some r=>lO b r|none=>none
 | [],b,row=>rfl
 |s::a,b,row=>by
  simp only[a64,lO];split;exact b6F a b _;rfl
theorem b8T:∀(st:List Stg)(row d:List Int),row.all a0A=true→lRO st row=some d→lO st.reverse d=some row∧d.all a0A=true∧d.length=row.length
 | [],row,d,hw,h=>by
  simp[lRO]at h;subst h;exact⟨rfl,hw,rfl⟩
 |s::st,row,d,hw,h=>by
  simp only[lRO]at h
  split at h
  rename_i g c;obtain⟨e,f⟩:=b8S c;obtain⟨k,a,b⟩:=b8T st g d f h;refine⟨?_,a,by rw[b,e,b2h]⟩;rw[List.reverse_cons,b6F,k];simp only[lO];rw[e,c1e row [] _ hw,a16];cases h
theorem a9v{st:List Stg}(f:∀s∈st,stageB s=true)(l:st.length≤3):∀(j k:Nat)(row:List Int),k+j=st.length→short row→
  y0s a4o (st,(st.length:Int),(k:Int),row,())=some (match lRO (st.drop k) row with
   |some r=>.inl (r,())
   |none=>.inr ((6:Int),([]:List Int),()))
 |0,k,row,h,hs=>by
  obtain rfl:k=st.length:=by omega
  simp_all[a0H,a4o,lRO]
 |j+1,k,row,h,hs=>by
  have d:k<st.length:=by omega
  have g:=f _ (a05 d);have e:=b0Z (a:=st) (b:=(st.length:Int)) (c:=(k:Int)) hs row.length 0 [] (a8x st[k]) (by omega) rfl (c1c g);simp at e;have i:((0:Int) != 0)=false:=rfl;rw[a02 d];simp[lRO];cases hr:rsO row [] (a8x st[k])with
  |some r=>
   rw[hr]at e;rw[a0I (s':=(st,(st.length:Int),((k+1:Nat):Int),r,())) (by simp only[a4o,dlt d,cT,a0B d,oB,a9X g,i,cF,e,a0C (show k<1000000 by omega)])];exact a9v f l j (k+1) r (by omega) (by have:=(b8S hr).1;unfold short at hs⊢;simp_all[b2h])
  |none=>
   simp_all[a0H,a4o,a0B,a9X]
def a9K(l:List Int)(st:List Stg):Option (List Int):=bif l.all a0A then lRO st l else none
theorem b7H(k:a7w st=true)(a:l.length<100000):a7Y (l,st)=some (a4b (a9K l st)):=by
 have h:=k;simp only[a7w,bA,dT]at h;have f:short st:=by unfold short;omega
 have g:short l:=by unfold short;omega
 unfold a7Y a9K;simp only[a9U f,k,oB,bT,cF,a9T g];cases hw:l.all a0A with
 |false=>rfl
 |true=>
  have:=a9v (lA.1 h.2) h.1 st.length 0 l (by omega) g
  simp at this;simp[a6F g,this];cases lRO st l<;>rfl
theorem b5b(h:a9K l st=some r):a9n r st=some l∧r.all a0A=true∧r.length=l.length:=by
 unfold a9K at h;cases hw:l.all a0A with
 |false=>simp_all
 |true=>
  simp[hw]at h;obtain⟨f,g,k⟩:=b8T st l r hw h;exact⟨by simp only[a9n,g,cT,f],g,k⟩
theorem p64{w:Nat}(h:w≤64):((2^w:Nat):Int) ∣ 18446744073709551616:=a19.2 (a55 2 h)
theorem c6u(n:Int):∃q,wrap .i64 n=n+18446744073709551616*q:=by
 rw[a6E,Int.bmod];split;exact⟨-(n / 18446744073709551616),by omega⟩;exact⟨-(n / 18446744073709551616)-1,by omega⟩
theorem c4j(h:w≤64)(n:Int):((2^w:Nat):Int) ∣ wrap .i64 n↔((2^w:Nat):Int) ∣ n:=by
 obtain⟨q,g⟩:=c6u n;rw[g]
 grind[a65,a45,p64]
theorem b6G(h:w≤64)(a:Int):2^w ∣ (a04 64 a).toNat↔((2^w:Nat):Int) ∣ a:=by
 have e:(((a04 64 a).toNat:Nat):Int)=a+18446744073709551616*-(a / 18446744073709551616):=by
  rw[a80];omega
 rw[←a19,e]
 grind[a65,a45,p64]
theorem c2o(w x y:Nat):2^w ∣ (x ||| y)↔2^w ∣ x∧2^w ∣ y:=by
 simp_all[Nat.dvd_iff_mod_eq_zero,Nat.or_mod_two_pow]
theorem c6v(h:w≤64)(a b:Int):((2^w:Nat):Int) ∣ bits .i64 .or a b↔((2^w:Nat):Int) ∣ a∧((2^w:Nat):Int) ∣ b:=by
 show((2^w:Nat):Int) ∣ wrap .i64 ((((a04 64 a) ||| (a04 64 b)).toNat:Nat):Int)↔_;rw[c4j h,a19,a70,c2o,b6G h,b6G h]
def orI(l:List Int)(a:Int):Int:=l.foldl (fun a x=>bits .i64 .or a x) a
theorem b1F{w:Nat}(h:w≤64):∀(l:List Int)(a:Int),((2^w:Nat):Int) ∣ orI l a↔((2^w:Nat):Int) ∣ a∧∀x∈l,((2^w:Nat):Int) ∣ x
 | [],a=>by simp[orI]
 |x::l,a=>by
  show((2^w:Nat):Int) ∣ orI l (bits .i64 .or a x)↔_;rw[b1F h l,c6v h];simp_all[and_assoc]
theorem b8U:∀(l:List Int),(∀x∈l,x=0)→orI l 0=0
 | [],_=>rfl
 |x::l,h=>by
  have g:=h x (List.mem_cons_self);subst g;show orI l (bits .i64 .or 0 0)=0;rw[show bits .i64 .or 0 0=0 from by rfl];simp_all[b8U]
theorem c6w(k:l.all a0A=true)(h:∃x∈l,x≠0):orI l 0≠0:=by
 intro e;obtain⟨x,g,f⟩:=h;have b:=((b1F (w:=62) (by omega) l 0).1 (by omega)).2 x g;have a:=a1x.1 (lA.1 k x g);omega
def a7h(l:List Int)(w:Nat):Prop:=
 ((∀x∈l,x=0)∧w=0)∨((∃x∈l,x≠0)∧w≤30∧(∀x∈l,((2^w:Nat):Int) ∣ x)∧(w=30∨∃x∈l,¬ ((2^(w+1):Nat):Int) ∣ x))
theorem c2p{v w:Nat}(h:v≤w){x:Int}(g:((2^w:Nat):Int) ∣ x):((2^v:Nat):Int) ∣ x:=
 Int.dvd_trans (a19.2 (a55 2 h)) g
theorem a7h.unique(hv:a7h l v)(g:a7h l w):v=w:=by
 have d:∀{v w:Nat},v≤30→w≤30→(∀x∈l,((2^w:Nat):Int) ∣ x)→(v=30∨∃x∈l,¬ ((2^(v+1):Nat):Int) ∣ x)→w≤v:=by
  grind[c2p]
 rcases hv with⟨f,hv⟩|⟨⟨x,c,h⟩,hv1,hv2,hv3⟩
 ·rcases g with⟨-,g⟩|⟨⟨x,c,h⟩,-⟩
  all_goals grind
 ·rcases g with⟨f,-⟩|⟨-,k,a,b⟩
  all_goals grind
theorem b8V:∀(n N:Nat),N≤n→0<N→∃k m,N=2^k*(2*m+1)
 |0,N,h,h0=>absurd h0 (by omega)
 |n+1,N,h,h0=>by
  by_cases he:N%2=0
  obtain⟨k,m,e⟩:=b8V n (N / 2) (by omega) (by omega);refine⟨k+1,m,?_⟩;rw[a84,a67 (2^k) 2,Nat.mul_assoc,←e];omega;exact⟨0,N / 2,by omega⟩
theorem c5H{k:Nat}(h:2^k*(2*m+1)<2^64):(2^k*(2*m+1)) &&& (2^64-2^k*(2*m+1))=2^k:=by
 have hp:1≤2^k:=a79;have n:k<64:=by
  refine a94 fun g=>?_
  have d:2^64≤2^k:=a08 (by simp) g
  grind
 have e:2^k*(2*m+1)=(2^k*(2*m)+(2^k-1))+1:=by grind
 have l:2^k*(2*m)+(2^k-1)<2^64:=by omega
 refine Nat.eq_of_testBit_eq fun i=>?_
 have a:(2^64-2^k*(2*m+1)).testBit i=(decide (i<64)&&!(2^k*(2*m)+(2^k-1)).testBit i):=by
  rw[e];exact Nat.testBit_two_pow_sub_succ l i
 have f:=a57 (2*m+1) (b:=0) (i:=k) (by omega) i;rw[a83]at f;have c:=a57 (2*m) (b:=2^k-1) (i:=k) (by omega) i;rw[Nat.testBit_and,a,f,c,Nat.testBit_two_pow]
 by_cases d:i<k
 grind
 by_cases h2:k=i
 simp_all;obtain⟨j,rfl⟩:∃j,i=k+(j+1):=⟨i-k-1,by omega⟩;have o:k+(j+1)-k=j+1:=by omega
 have p:(2*m+1) / 2=m:=by omega
 simp_all[Nat.testBit_succ]
theorem c4k:∀k:Nat,k<64→a8I[(2^k*285870213051353865)%18446744073709551616 / 288230376151711744]?=some (k:Int):=by
 have h:∀k:Fin 64,a8I[(2^k.val*285870213051353865)%18446744073709551616 / 288230376151711744]?=some (k.val:Int):=by decide
 exact fun k g=>h ⟨k,g⟩
theorem c0Q{k:Nat}:¬ 2^(k+1) ∣ 2^k*(2*m+1):=by
 rintro⟨c,h⟩
 rw[a84,Nat.mul_assoc]at h
 grind[Nat.eq_of_mul_eq_mul_left]
theorem c4l(d:0<N)(h:N<18446744073709551616):∃k:Nat,a1r (N:Int)=some (k:Int)∧2^k ∣ N∧¬ 2^(k+1) ∣ N:=by
 obtain⟨k,m,e⟩:=b8V N N (a26 _) d;have n:2^k≤N:=by grind
 have i:k<64:=by
  refine a94 fun g=>?_
  have l:2^64≤2^k:=a08 (by simp) g;omega
 refine⟨k,?_,⟨_,e⟩,e▸c0Q⟩;have hb:bits .u64 .and (N:Int) (wrap .u64 (0-(N:Int)))=((2^k:Nat):Int):=by
  have b:wrap .u64 (0-(N:Int))=((18446744073709551616-N:Nat):Int):=by
   grind[wrap,IntKind.bits,IntKind.signed]
  rw[b];show wrap .u64 (((a04 64 (N:Int)) &&& (a04 64 ((18446744073709551616-N:Nat):Int))).toNat:Int)=_;rw[a23,a23,a92,a29,a29,a22 h,a22 (by omega)]
  have:=c5H (k:=k) (m:=m) (by omega)
  rw[←e]at this;rw[show(18446744073709551616:Nat)=2^64 from rfl,this];exact a0S (by omega)
 have j:((N:Int)==0)=false:=by grind
 unfold a1r;rw[hb,j,cF];have f:wrap .u64 (((2^k:Nat):Int)*285870213051353865)=(((2^k*285870213051353865)%18446744073709551616:Nat):Int):=by
  rfl
 have a:=c4k k i;generalize (2^k*285870213051353865)%18446744073709551616=M at f a;have c:=a5p (N:=M) (o:=58) (by omega);rw[f,show(58:Int)=((58:Nat):Int)from rfl,c,show 2^58=288230376151711744 from rfl];generalize M / 288230376151711744=J at a
 grind[a0B,a0D]
theorem c4m{n:Nat}(g:n≤62)(c:Int):A0o .i64 (((2^n:Nat):Int)*c) (n:Int)=c:=by
 have hp:0<2^n:=a17 n;have e:min (a41 (n:Int)) (IntKind.bits .i64)=n:=by grind[IntKind.bits]
 have h:((2^n:Nat):Int)=2^n:=by simp
 unfold A0o
 grind[a63]
theorem c1f{l:List Int}(f:short l):∀(k i:Nat)(a:Int),i+k=l.length→y0s a4i (a,l,(l.length:Int),(i:Int),())=some (orI (l.drop i) a,())
 |0,i,a,h=>by
  obtain rfl:i=l.length:=by omega
  simp_all[a0H,a4i,orI]
 |k+1,i,a,h=>by
  have g:i<l.length:=by omega
  have b:l.length<1000000:=f;rw[a02 g,a0I (s':=(bits .i64 .or a l[i],l,(l.length:Int),((i+1:Nat):Int),())) (by
   simp only[a4i,dlt g,cT,a0B g,oB,a0C (show i<1000000 by omega)])]
  exact c1f f k (i+1) _ (by omega)
theorem c0R{l:List Int}{r:Nat}(g:r≤30)(h:r=30∨¬ ((2^(r+1):Nat):Int) ∣ orI l 0):r=30∨∃x∈l,¬ ((2^(r+1):Nat):Int) ∣ x:=by
 grind[b1F,a85]
theorem b4n{l:List Int}(y:short l)(j:l.all a0A=true):∃w:Nat,a2Z l=some (w:Int)∧w≤30∧a7h l w:=by
 have a:=c1f y l.length 0 0 (by omega);simp at a;unfold a2Z;simp[a]
 by_cases hz:∀x∈l,x=0
 have e:=b8U l hz;exact⟨0,by simp_all,by omega,.inl ⟨hz,rfl⟩⟩
 ·have g:∃x∈l,x≠0:=Classical.byContradiction fun m=>hz fun x g=>Classical.byContradiction fun s=>m ⟨x,g,s⟩;have t:=c6w j g;have n:(orI l 0==0)=false:=by simp_all
  obtain⟨q,u⟩:∃q,wrap .u64 (orI l 0)=orI l 0+18446744073709551616*q:=⟨-(orI l 0 / 18446744073709551616),by
   grind[wrap,IntKind.bits,IntKind.signed]⟩
  obtain⟨B,r2⟩:=b3L (orI l 0);obtain⟨N,d⟩:=a01 B;have b:∀v,v≤64→(2^v ∣ N↔((2^v:Nat):Int) ∣ orI l 0):=fun v hv=>by
   rw[←a19,←d,u]
   grind[a65,a45,p64]
  have h:0<N:=by
   refine Nat.pos_of_ne_zero fun C=>?_
   obtain⟨x,f,A⟩:=g;have E:=((b1F (w:=62) (by omega) l 0).1 ((b 62 (by omega)).1 (by omega))).2 x f;have z:=a1x.1 (lA.1 j x f);omega
  obtain⟨k,p,c,r⟩:=c4l h (by omega);have i:k≤63:=by
   refine Nat.le_of_not_lt fun o=>?_
   have a:2^64≤2^k:=a08 (by simp) (by omega)
   have:=Nat.le_of_dvd h c
   omega
  simp only[n,cF,d,p,oB];have D:v0s (k:Int) 30=((min k 30:Nat):Int):=by rw[c1b];omega
  refine⟨min k 30,by grind,by omega,.inr ⟨g,by omega,?_,?_⟩⟩
  all_goals grind[b1F,Nat.dvd_trans,a55,c0R]
theorem c5I(g:w≤30)(d:l.all a0A=true)(h:a7h l w):a8o (w:Int) l=some (l.map fun x=>A0o .i64 x (w:Int)):=by
 have f:∀x∈l,((2^w:Nat):Int) ∣ x:=by
  rcases h with⟨h,-⟩|⟨-,-,h,-⟩
  all_goals grind[a85]
 have:l.all (a9e (w:Int))=true:=by
  rw[lA];intro x k;obtain⟨c,a⟩:=f x k;have b:a25 x (A0n .i64 1 (w:Int))=0:=by simp_all[b8O]
  simp_all[a9e]
 simp only[a8o,this,cT]
theorem a8B{N n:Nat}(g:n≤63)(h:N<2^n)(L:List Int):(a0L (N:Int) n L).length=L.length+n:=by
 grind[a0L,a5p,a66,b0W]
def a4B(k:Nat)(x:Int):Nat:=if a0N x / 2^k<32 then a0N x / 2^k+1+k else 65
theorem b8W{k:Nat}(h:k≤25)(x:Int):a4B k x≤65:=by
 grind[a4B]
theorem c3q{k:Nat}(a:k≤25)(g:a0A x=true)(L:List Int):(a5C k x L).length=L.length+a4B k x:=by
 unfold a5C a4B;have hp:0<2^k:=a17 k;have h:a0N x%2^k<2^k:=a40 _ hp;have f:=a7O g;split;rw[a8B (by omega) h,a8l];omega
 grind[a8B,a8l]
theorem b5c{k:Nat}(g:k≤25):∀(l L:List Int),l.all a0A=true→(a3Q k l L).length=L.length+(l.map (a4B k)).sum
 | [],L,_=>by rfl
 |x::l,L,h=>by
  simp only[a07,bA]at h;have e:a3Q k (x::l) L=a3Q k l (a5C k x L):=rfl;rw[e,b5c g l _ h.2,c3q g h.1,List.map_cons,a61];omega
theorem b8X{k:Nat}(c:k≤25)(g:a0A x=true):a6e ((k:Int),x)=some ((a4B k x:Nat):Int):=by
 have d:=a7O g;have f:A0o .u64 ((a0N x:Nat):Int) (k:Int)=((a0N x / 2^k:Nat):Int):=a5p (by omega);have a:wrap .i64 ((a0N x / 2^k:Nat):Int)=((a0N x / 2^k:Nat):Int):=b0C (a37 (a32 _ _) d);have h:decide ((k:Int)<0)=false:=by simp
 unfold a6e a4B;simp only[a7p c,a8m,g,oB,bT,cF,a8n g,h,f,a];generalize a0N x / 2^k=q
 by_cases hq:q<32
 have b:decide ((q:Int)<32)=true:=decide_eq_true (by omega);simp only[b,cT,if_pos hq]
 grind[a0D]
 grind
theorem b8Y{f:Int→Nat}{M:Nat}(h:∀x,f x≤M):∀l:List Int,(l.map f).sum≤M*l.length
 | []=>by simp
 |x::l=>by
  have:=h x
  have:=b8Y h l
  rw[List.map_cons,a61,lC,a90,a91];omega
theorem b8Z{f:Int→Nat}{l:List Int}{i:Nat}(h:i<l.length):((l.take (i+1)).map f).sum=((l.take i).map f).sum+f l[i]:=by
 rw[a48 h,pA,List.sum_append];rfl
theorem b3M{k:Nat}(a:k≤25)(d:l.all a0A=true)(j:l.length<10000):a2J ((k:Int),l)=some (((l.map (a4B k)).sum:Nat):Int):=by
 have:=a2m (f:=a3h) (fun i:Nat=>((k:Int),((((l.take i).map (a4B k)).sum:Nat):Int),l,(l.length:Int),(i:Int),())) l.length (b:=((((l.map (a4B k)).sum:Nat):Int),()))
  (fun i h=>by
   have c:=b8X a (lA.1 d _ (a05 h));have g:=b8Y (b8W a) (l.take (i+1));rw[b8Z h]at g;rw[a93]at g;have e:wrap .i64 (((((l.take i).map (a4B k)).sum:Nat):Int)+((a4B k l[i]:Nat):Int))=((((l.take (i+1)).map (a4B k)).sum:Nat):Int):=by
    grind[b8Z,a0D]
   simp only[a3h,dlt h,cT,a0B h,oB,c,e,a0C (show i<1000000 by omega)])
  (by simp_all[a3h])
 unfold a2J;simp_all
theorem c4n(x:Int){n:Nat}(f:n≤62):∃N:Nat,a0R x n=(N:Int)∧N<2^n:=by
 obtain⟨h,g⟩:=b3L x;obtain⟨y,k⟩:=a01 h;have hp:0<2^n:=a17 n;refine⟨y%2^n,?_,a40 _ hp⟩
 grind[a0R,b8J]
theorem b1a{n:Nat}(h:n≤62):∀(l L:List Int),(a1v n l L).length=L.length+n*l.length
 | [],L=>by rfl
 |x::l,L=>by
  have e:a1v n (x::l) L=a1v n l (a0L (a0R x n) n L):=rfl;obtain⟨N,g,f⟩:=c4n x h;rw[e,b1a h l,g,a8B (by omega) f,lC,a90,a91];omega
theorem c6x{x:Int}(h:a0A x=true):a1q x ((31:Nat):Int)=true:=by
 have:=a1x.1 h
 have g:A0n .i64 (-1) (((31:Nat):Int)-1)=-1073741824:=by rfl
 have f:wrap .i64 (A0n .i64 1 (((31:Nat):Int)-1)-1)=1073741823:=by rfl
 unfold a1q
 grind
theorem b5d{x:Int}(h:a0A x=true):∀(k w:Nat),w+k=32→1≤k→a1A x k w≤31
 |k+1,w,hk,_=>by
  simp[a1A]
  by_cases h31:w=31
  grind[c6x]
  ·cases (x != 0)&&!a1q x w with
   |true=>exact b5d h k (w+1) (by omega) (by omega)
   |false=>grind
theorem b1b:∀(l:List Int)(w:Nat),l.all a0A=true→w≤31→l.foldl (fun w x=>a1A x (32-w) w) w≤31
 | [],w,_,h=>h
 |x::l,w,hl,h=>by
  simp only[a07,bA]at hl;exact b1b l _ hl.2 (b5d hl.1 (32-w) w (by omega) (by omega))
theorem a1F{l:List Int}(h:l.all a0A=true):a0G l≤31:=b1b l 0 h (by omega)
theorem b0F(g:l.length<10000):a4G l=some (((5+a0G l*l.length:Nat)):Int):=by
 have h:=a5o l;have f:a0G l*l.length≤32*l.length:=a24 _ h;unfold a4G;simp only[a1R (show short l by unfold short;omega),oB]
 grind[a0D]
def a9g(k:Int)(part:List Int):Nat:=5+(if k=31 then 5+a0G part*part.length else(part.map (a4B k.toNat)).sum)
def a4C:List Nat→List Int→List Int→Nat
 |z::zs,k::ks,l=>a9g k (l.take z)+a4C zs ks (l.drop z)
 |_,_,_=>0
theorem a2W{q:Nat}(h:q<2147483648):wrap .u64 (q:Int)=(q:Int):=a0S (by omega)
theorem c3r(h:kB k=true)(g:part.all a0A=true)(L:List Int):(a7H k part L).length=L.length+a9g k part:=by
 simp[kB]at h;obtain⟨K,rfl⟩:=a01 (show 0≤k by omega)
 grind[a8B,a1F,a7H,a9g,a2W,b1a,b5c]
theorem b5e:∀(zs:List Nat)(ks l L:List Int),ks.all kB=true→l.all a0A=true→(a3R zs ks l L).length=L.length+a4C zs ks l
 |z::zs,k::ks,l,L,h,hw=>by
  simp only[a07,bA]at h;have g:(l.take z).all a0A=true:=lA.2 fun x a=>lA.1 hw x (a34 a);have f:(l.drop z).all a0A=true:=lA.2 fun x a=>lA.1 hw x (a35 a);simp only[a3R,a4C];rw[b5e zs ks _ _ h.2 f,c3r h.1 g];omega
 | [],_,_,_,_,_=>by rfl
 |_::_,[],_,_,_,_=>by rfl
theorem c4o(h:kB k=true)(part:List Int):a9g k part≤10+65*part.length:=by
 simp[kB]at h;unfold a9g;split;have g:a0G part*part.length≤32*part.length:=a24 _ (a5o part);omega
 have:=b8Y (b8W (k:=k.toNat) (by omega)) part
 omega
theorem b0G{zn:List Nat}{p:Prt}(E:p.2.1.length=zn.length)(a:p.2.1.all kB=true)(F:zn.length≤256):∀(j i:Nat)(l:List Int)(c:Nat),i+j=zn.length→(zn.drop i).sum=l.length→l.all a0A=true→l.length≤5000→c+10*j+65*l.length<1000000→
  y0s a1m (l,(c:Int),(zn.length:Int),(i:Int),a1h zn,p,())=some (((c+a4C (zn.drop i) (p.2.1.drop i) l:Nat):Int),())
 |0,i,l,c,hi,_,_,_,_=>by
  obtain rfl:i=zn.length:=by omega
  grind[a0H,a1m,a4C]
 |j+1,i,l,c,hi,hsum,hw,hl5,hb=>by
  have h:i<zn.length:=by omega
  have f:i<p.2.1.length:=by omega
  have o:=lA.1 a _ (a05 f);rw[b1Z h]at hsum;have z:decide ((0:Int)≤(i:Int))=true:=by simp
  have A:decide ((i:Int)<(((a1h zn).length:Nat):Int))=true:=by simp_all[a1n]
  have B:decide ((0:Int)≤((zn[i]:Nat):Int))=true:=by simp
  have C:decide (((zn[i]:Nat):Int)≤((l.length:Nat):Int))=true:=by grind
  have d:(l.take zn[i]).length=zn[i]:=by simp_all
  have e:(l.drop zn[i]).length=(zn.drop (i+1)).sum:=by grind
  have v:(l.take zn[i]).all a0A=true:=lA.2 fun x y=>lA.1 hw x (a34 y);have w:(l.drop zn[i]).all a0A=true:=lA.2 fun x y=>lA.1 hw x (a35 y);have g:=c4o o (l.take zn[i]);rw[d]at g;have n:a1m (l,(c:Int),(zn.length:Int),(i:Int),a1h zn,p,())=some (.inl (l.drop zn[i],((c+a9g p.2.1[i] (l.take zn[i]):Nat):Int),(zn.length:Int),((i+1:Nat):Int),a1h zn,p,())):=by
   by_cases h31:p.2.1[i]=31
   have b:(p.2.1[i]==31)=true:=by simp_all
   have m:=b0F (l:=l.take zn[i]) (by omega);have u:a9g p.2.1[i] (l.take zn[i])=5+(5+a0G (l.take zn[i])*(l.take zn[i]).length):=by simp_all[a9g]
   rw[u]at g⊢;generalize 5+a0G (l.take zn[i])*(l.take zn[i]).length=r at m g⊢;have s:wrap .i64 (5+(r:Int))=5+(r:Int):=a0D (by omega);have t:wrap .i64 ((c:Int)+(5+(r:Int)))=((c+(5+r):Nat):Int):=by grind[a0D]
   simp only[a1m,dlt h,z,A,a6H h,B,C,cT,a03,tN,a0B f,oB,b,m,s,t,a18,a0C (show i<1000000 by omega)];have b:(p.2.1[i]==31)=false:=by simp_all
   have q:=o;simp[kB]at q;obtain⟨K,D⟩:=a01 (show 0≤p.2.1[i]by omega);have m:=b3M (k:=K) (by omega) v (by omega);have u:a9g p.2.1[i] (l.take zn[i])=5+((l.take zn[i]).map (a4B K)).sum:=by simp_all[a9g]
   rw[←D]at m;rw[u]at g⊢;generalize ((l.take zn[i]).map (a4B K)).sum=r at m g⊢;have s:wrap .i64 (5+(r:Int))=5+(r:Int):=a0D (by omega);have t:wrap .i64 ((c:Int)+(5+(r:Int)))=((c+(5+r):Nat):Int):=by grind[a0D]
   simp only[a1m,dlt h,z,A,a6H h,B,C,cT,cF,a03,tN,a0B f,oB,b,m,s,t,a18,a0C (show i<1000000 by omega)]
  rw[a0I n,b0G E a F j (i+1) (l.drop zn[i]) _ (by omega) e.symm w (by omega) (by omega)];rw[a02 h,a02 f]
  grind[a4C]
theorem b7I(h:PartsOk p n warm l zn):a3L (p,n,warm,l)=some ((4+a4C zn p.2.1 l:Nat):Int):=by
 have f:Go.Ab.short p.2.1:=by have:=h.ks;have:=h.len;unfold Go.Ab.short;omega
 have k:=h.short;have a:=h.len;have g:=b0G h.ks h.all h.len zn.length 0 l 4 (by omega) (by rw[a28];exact h.sum) h.wide h.short (by omega);simp only[nZ,a30,a28]at g;unfold a3L;simp only[a9Z f,h.may,a8z h.row h.rest h.wide h.short,oB,bT,cF,a1H,h.sizes,a1n,g]
theorem b7J(h:PartsOk p n warm l zn)(L:List Int):(a3v p zn l L).length=L.length+(4+a4C zn p.2.1 l):=by
 obtain⟨o,g⟩:=a01 h.order.1;have f:=h.order.2;unfold a3v;rw[b5e _ _ _ _ h.all h.wide,g,a2W (by omega),a8B (by omega) (by omega)];omega
def a1I(o:Int):Sub:=((0:Int),(0:Int),o,(0:Int),(0:Int),([]:List Int),a00 3 (0:Int),([]:List Stg),([]:List Int),((0:Int),([]:List Int),()),([]:List Int),())
theorem c0S(o:Int):SmallS (a1I o):=⟨by simp[a1I],by rfl,by simp[a1I],by simp[a1I],by simp[a1I],by simp[a1I]⟩
def b3i(k:Nat)(l:List Int):Nat:=(l.map (a4B k)).sum
def rbN(l:List Int):Nat→Nat
 |0=>0
 |i+1=>if b3i (i+1) l<b3i (rbN l i) l then i+1 else rbN l i
theorem b9a(l:List Int):∀i,rbN l i≤i
 |0=>a26 _
 |i+1=>by
  have:=b9a l i
  simp only[rbN]
  split<;>omega
theorem b2i{k:Nat}(h:k≤25)(f:l.all a0A=true)(g:l.length<10000):a2J ((k:Int),l)=some ((b3i k l:Nat):Int):=b3M h f g
theorem c6y(h:a<b):decide ((a:Int)<(b:Int))=true:=decide_eq_true (by omega)
theorem c2q(h:¬ a<b):decide ((a:Int)<(b:Int))=false:=decide_eq_false (by omega)
theorem b3j(g:l.all a0A=true)(h:l.length<10000):a8K l=some ((rbN l 25:Nat):Int):=by
 have:=a2m (f:=a6P) (fun i:Nat=>(l,((rbN l i:Nat):Int),((b3i (rbN l i) l:Nat):Int),((i+1:Nat):Int),())) 25 (b:=(((rbN l 25:Nat):Int),()))
  (fun i n=>by
   have a:decide (((i+1:Nat):Int)≤25)=true:=decide_eq_true (by omega);have d:wrap .i64 (((i+1:Nat):Int)+1)=((i+1+1:Nat):Int):=a0C (by omega);have c:=b2i (k:=i+1) (by omega) g h
   by_cases hlt:b3i (i+1) l<b3i (rbN l i) l
   simp_all[a6P,rbN];simp only[a6P,a,cT,cF,c,oB,d,c2q hlt,rbN,hlt,if_false])
  (by
   rfl)
 have m:=b2i (k:=0) (by omega) g h;have j:((0+1:Nat):Int)=1:=rfl;have e:rbN l 0=0:=rfl;simp_all[a8K]
def a9L(l:List Int):Int:=if 5+a0G l*l.length<b3i (rbN l 25) l then 31 else((rbN l 25:Nat):Int)
theorem c2r(l:List Int):kB (a9L l)=true:=by
 have:=b9a l 25
 unfold a9L;split;rfl;simp only[kB,a97,bA,dT];omega
theorem b5f(g:l.all a0A=true)(h:l.length<10000):a6Q l=some (a9L l):=by
 have a:=b9a l 25;have f:=b2i (k:=rbN l 25) a g h;unfold a6Q a9L
 by_cases hlt:5+a0G l*l.length<b3i (rbN l 25) l
 simp only[b3j g h,b0F h,f,oB,c6y hlt,cT,hlt,if_true];simp only[b3j g h,b0F h,f,oB,c2q hlt,cF,hlt,if_false]
def a2h:List Nat→List Int→List Int
 | [],_=>[]
 |z::zs,l=>a9L (l.take z)::a2h zs (l.drop z)
theorem b1G:∀zs l,(a2h zs l).length=zs.length
 | [],_=>rfl
 |z::zs,l=>by simp[a2h,b1G zs]
theorem b5g:∀zs l,(a2h zs l).all kB=true
 | [],_=>rfl
 |z::zs,l=>by simp[a2h,b5g zs,c2r]
theorem b2G{zn:List Nat}{n warm most least order:Int}{L:List Int}{a b:Prt}(m:zn.length≤256):∀(j i:Nat)(rest ks:List Int),i+j=zn.length→(zn.drop i).sum=rest.length→rest.all a0A=true→rest.length≤5000→ks.length=i→
  y0s a6o (n,warm,most,L,least,order,rest,((zn.length:Nat):Int),(i:Int),a1h zn,a,b,(order,ks,()),())=some (n,warm,most,L,least,order,a,b,(order,ks++a2h (zn.drop i) rest,()),())
 |0,i,rest,ks,h,_,_,_,_=>by
  obtain rfl:i=zn.length:=by omega
  simp_all[a0H,a6o,a2h]
 |j+1,i,rest,ks,h,hr,hwr,hr5,hki=>by
  have g:i<zn.length:=by omega
  rw[b1Z g]at hr;have k:decide ((0:Int)≤(i:Int))=true:=by simp
  have c:decide ((i:Int)<(((a1h zn).length:Nat):Int))=true:=by simp_all[a1n]
  have d:decide ((0:Int)≤((zn[i]:Nat):Int))=true:=by simp
  have e:decide (((zn[i]:Nat):Int)≤((rest.length:Nat):Int))=true:=by grind
  have l:=b5f (b4m hwr zn[i]) (by grind);have f:lim (ks.length+1)=true:=a0P (by omega);rw[a02 g,a0I (s':=(n,warm,most,L,least,order,rest.drop zn[i],((zn.length:Nat):Int),((i+1:Nat):Int),a1h zn,a,b,(order,ks++[a9L (rest.take zn[i])],()),())) (by
   simp only[a6o,dlt g,k,c,a6H g,d,e,cT,a03,tN,l,oB,f,a18,a0C (show i<1000000 by omega),a06])]
  rw[b2G m j (i+1) _ _ (by omega) (by grind) (c4i hwr _) (by grind) (by simp_all)];simp_all[a2h]
def zsN(o n warm:Int):List Nat:=(a1z o n warm).map a41
def a9H(o n warm:Int)(l:List Int):Prt:=(o,a2h (zsN o n warm) l,())
def b5h(o n warm:Int)(l:List Int):Nat:=4+a4C (zsN o n warm) (a2h (zsN o n warm) l) l
def a1t(n warm:Int)(l:List Int):Nat→Prt×Nat
 |0=>((0,[],()),0)
 |i+1=>if(a1z (i:Int) n warm).length=0 then a1t n warm l i else
   if(a1t n warm l i).2=0∨b5h (i:Int) n warm l<(a1t n warm l i).2 then(a9H (i:Int) n warm l,b5h (i:Int) n warm l)else a1t n warm l i
def b3r(n warm:Int)(l:List Int):Prt:=(a1t n warm l 7).1
theorem c1g(b:(a1z (o:Int) n warm).length≠0)(a:(l.length:Int)=n-warm)(c:l.all a0A=true)(k:l.length≤5000):
  ∃h,a1z (o:Int) n warm=a1h h∧zsN (o:Int) n warm=h∧h.length≤256∧h.sum=l.length∧a4A (a9H (o:Int) n warm l) n warm=true∧PartsOk (a9H (o:Int) n warm l) n warm l h:=by
 obtain⟨h,e,i,j⟩:=b1l b;have d:zsN (o:Int) n warm=h:=by simp_all[zsN,b1m]
 have hp:a4A (a9H (o:Int) n warm l) n warm=true:=by
  simp only[a4A,a9H,bA,a33,beq_eq_false_iff_ne,ne_eq,beq_iff_eq];simp_all[a1n,b1G,b5g]
 obtain⟨f,g⟩:=PartsOk.of hp a c k
 have:f=h:=by
  have m:=g.sizes
  grind[a9H,b1m]
 grind
theorem b2j{n warm:Int}{l:List Int}(b:a5i n warm=true)(f:(l.length:Int)=n-warm)(a:l.all a0A=true)(g:l.length≤5000):∀i,1≤i→(a1t n warm l i).2≠0∧a4A (a1t n warm l i).1 n warm=true
 |0,h=>absurd h (by omega)
 |i+1,_=>by
  by_cases hs:(a1z (i:Int) n warm).length=0
  ·simp only[a1t,hs,if_true];cases i with
   |zero=>grind[c2j]
   |succ i=>exact b2j b f a g (i+1) (by omega)
  ·obtain⟨c,-,-,-,-,hp,-⟩:=c1g hs f a g;simp only[a1t,hs,if_false];split;simp_all[b5h]
   ·rename_i k;cases i with
    |zero=>exact absurd (Or.inl rfl) k
    |succ i=>exact b2j b f a g (i+1) (by omega)
theorem c4p(f:a5i n warm=true)(g:(l.length:Int)=n-warm)(k:l.all a0A=true)(h:l.length≤5000):a4A (b3r n warm l) n warm=true:=
 (b2j f g k h 7 (by omega)).2
theorem b7K(A:a5i n warm=true)(x:(l.length:Int)=n-warm)(t:l.all a0A=true)(s:l.length≤5000):
  a7Z (n,warm,(6:Int),l)=some (b3r n warm l,0):=by
 have:=a2m (f:=a3a) (fun i:Nat=>(n,warm,(6:Int),l,(((a1t n warm l i).2:Nat):Int),(i:Int),((0:Int),([]:List Int),()),(a1t n warm l i).1,())) 7 (b:=(((0:Int),([]:List Int),()),b3r n warm l,()))
  (fun i z=>by
   have j:decide ((i:Int)≤v0s (v0r 6 0) 8)=true:=decide_eq_true (by have:v0s (v0r 6 0) 8=6:=rfl;omega);have r:wrap .i64 ((i:Int)+1)=((i+1:Nat):Int):=a0C (by omega)
   by_cases hs:(a1z (i:Int) n warm).length=0
   simp_all[a1t,a3a,a1H];have hb:((((a1z (i:Int) n warm).length:Nat):Int)==0)=false:=by simp_all
   obtain⟨h,p,o,w,y,-,q⟩:=c1g hs x t s;have d:=b2G (n:=n) (warm:=warm) (most:=6) (least:=(((a1t n warm l i).2:Nat):Int)) (order:=(i:Int)) (L:=l) (a:=((0:Int),([]:List Int),())) (b:=(a1t n warm l i).1) w h.length 0 l [] (by omega) (by simp_all) t s rfl;simp at d;have e:=b7I q;simp only[a9H,o]at e;have k:(((h.length:Nat):Int)==0)=false:=by simp_all[a1n]
   have m:(((a1h h).length:Nat):Int)=((h.length:Nat):Int):=by rw[a1n]
   have v:a9H (i:Int) n warm l=((i:Int),a2h h l,()):=by simp only[a9H,o]
   have u:b5h (i:Int) n warm l=4+a4C h (a2h h l) l:=by simp only[b5h,o]
   by_cases hz:(a1t n warm l i).2=0
   have g:((((a1t n warm l i).2:Nat):Int)==0)=true:=by simp_all
   have c:a1t n warm l (i+1)=(((i:Int),a2h h l,()),4+a4C h (a2h h l) l):=by simp_all[a1t]
   simp only[a3a,j,cT,a1H,oB,p,m,k,cF,d,e,r,c,g];have g:((((a1t n warm l i).2:Nat):Int)==0)=false:=by simp_all
   by_cases hlt:4+a4C h (a2h h l) l<(a1t n warm l i).2
   have c:a1t n warm l (i+1)=(((i:Int),a2h h l,()),4+a4C h (a2h h l) l):=by simp_all[a1t]
   simp only[a3a,j,cT,a1H,oB,p,m,k,cF,d,e,r,c,g,c6y hlt];have c:a1t n warm l (i+1)=a1t n warm l i:=by simp only[a1t,hs,if_false,hz,false_or,v,u,hlt]
   simp only[a3a,j,cT,a1H,oB,p,m,k,cF,d,e,r,c,g,c2q hlt])
  (by
   rfl)
 simp_all[a1t,a7Z,a8z]
def a0T(k:Int)(s:Sub):Sub:=
 (k,(0:Int),(if k=2 then s.2.2.1 else 0),(if k=3∨k=4 then s.2.2.2.1 else 0),(if k=4 then s.2.2.2.2.1 else 0),(if k=3∨k=4 then s.2.2.2.2.2.1 else[]),
  ((if k=4 then s.2.2.2.2.2.2.1 else a00 3 (0:Int)),(if k=5 then s.2.2.2.2.2.2.2.1 else[]),([]:List Int),((0:Int),([]:List Int),()),([]:List Int),()))
def z0:Prt:=((0:Int),([]:List Int),())
def a1B(s:Sub)(w:Nat)(wm:List Int)(p:Prt)(r:List Int):Sub:=
 (s.1,(w:Int),s.2.2.1,s.2.2.2.1,s.2.2.2.2.1,s.2.2.2.2.2.1,s.2.2.2.2.2.2.1,s.2.2.2.2.2.2.2.1,wm,p,r,())
theorem c3s(h:SmallS s)(k:Int):a4T (k,s)=some (a0T k s):=by
 have f:short s.2.2.2.2.2.1:=by have:=h.coefs;unfold short;omega
 have g:short s.2.2.2.2.2.2.2.1:=by have:=h.stages;unfold short;omega
 grind[a4T,a0T,b1X,b3I]
theorem b9b(h:SmallS s)(k:Int):SmallS (a0T k s):=by
 have g:=h.coefs;have f:=h.taps;have a:=h.stages;refine⟨?_,?_,?_,by simp[a0T],by simp[a0T],by simp[a0T]⟩<;>simp only[a0T]<;>split<;>first|omega|simp
theorem c2s:a3j (a0T k s).1 (a0T k s) n↔a3j k s n:=by
 unfold a3j a0T
 grind
open Classical in
def a2w (l:List Int):Nat:=if h:∃w,a7h l w then h.choose else 0
theorem c5J{l:List Int}{w:Nat}(h:a7h l w):a2w l=w:=by
 unfold a2w;rw[dif_pos ⟨w,h⟩];exact(Classical.choose_spec (⟨w,h⟩:∃w,a7h l w)).unique h
def a1a(l:List Int):List Int:=l.map fun x=>A0o .i64 x (a2w l:Int)
theorem a7x(h:short l)(g:l.all a0A=true):a2Z l=some ((a2w l:Nat):Int)∧a2w l≤30∧a7h l (a2w l):=by
 grind[b4n,c5J]
theorem a5D(a:l.length≤4096)(f:l.all a0A=true):a8o ((a2w l:Nat):Int) l=some (a1a l)∧(a1a l).all a0A=true∧(a1a l).length=l.length∧upO ((a2w l:Nat):Int) (a1a l)=some l:=by
 obtain⟨-,g,k⟩:=a7x (show short l by unfold short;omega) f;have h:=c5I g f k;exact⟨h,c5G g h⟩
def a4D(k:Int)(s:Sub)(d:List Int):Option (List Int×List Int):=
 if k=2 then(bif (a1P s.2.2.1.toNat d).all a0A then some (d.take s.2.2.1.toNat,a1P s.2.2.1.toNat d)else none)
 else if k=3 then(b2f d s.2.2.2.2.2.1 s.2.2.2.1).map fun r=>(d.take s.2.2.2.2.2.1.length,r)
 else if k=4 then(b1E d s.2.2.2.2.1 s.2.2.2.2.2.2.1).bind fun x=>(b2f x s.2.2.2.2.2.1 s.2.2.2.1).map fun r=>(x.take s.2.2.2.2.2.1.length,r)
 else(a9K d s.2.2.2.2.2.2.2.1).map fun r=>([],r)
theorem b9c(j:k=2∨k=3∨k=4∨k=5)(i:a3j k s (d.length:Int))(n:d.all a0A=true)(h:a4D k s d=some (wm,r)):
  wm.length≤d.length∧r.length=d.length-wm.length∧r.all a0A=true∧wm.all a0A=true:=by
 have f:=i;simp only[a3j]at f;rcases j with rfl|rfl|rfl|rfl
 ·have:0≤s.2.2.1∧s.2.2.1≤(d.length:Int):=by omega
  simp[a4D]at h;cases hq:(a1P s.2.2.1.toNat d).all a0A with
  |false=>simp_all
  |true=>
   simp[hq]at h;obtain⟨rfl,rfl⟩:=h;simp_all[a4J,b4m]
 have:(s.2.2.2.2.2.1.length:Int)≤(d.length:Int):=by omega
 simp only[a4D,show ¬ (3:Int)=2 by simp,if_false,if_true,a20,pJ]at h;obtain⟨c,g,rfl,rfl⟩:=h;obtain⟨-,a,b⟩:=b2g g
 grind
 have:(s.2.2.2.2.2.1.length:Int)≤(d.length:Int):=by omega
 simp only[a4D,show ¬ (4:Int)=2 by simp,show ¬ (4:Int)=3 by simp,if_false,if_true,a43,a20,pJ]at h;obtain⟨x,e,c,g,rfl,rfl⟩:=h;obtain⟨-,l,m⟩:=b3h e;obtain⟨-,a,b⟩:=b2g g
 grind
 simp only[a4D,show ¬ (5:Int)=2 by simp,show ¬ (5:Int)=3 by simp,show ¬ (5:Int)=4 by simp,if_false,a20,pJ]at h;obtain⟨c,g,rfl,rfl⟩:=h;obtain⟨-,a,b⟩:=b5b g;simp_all
theorem c4q(v:k=2∨k=3∨k=4∨k=5)(h:SmallS s)(q:a3j k s (d.length:Int))(D:d.length≤4096)(y:d.all a0A=true)(w:Nat):
  a8J (a1B (a0T k s) w [] z0 [],d)=some (match a4D k s d with|none=>(6,a1B (a0T k s) w [] z0 [])|some (wm,r)=>(0,a1B (a0T k s) w wm z0 r)):=by
 have l:=h.taps;have g:=h.stages;have i:short d:=by unfold short;omega
 obtain⟨k',w',o,sh,lag,c,t,st,z,p,E,u⟩:=s;simp only[a3j]at q l g;unfold a8J;rcases v with rfl|rfl|rfl|rfl;obtain⟨n,C,e⟩:0≤o∧o≤4∧o≤(d.length:Int):=by omega
 obtain⟨O,rfl⟩:=a01 n;have g:short (d.take O):=by unfold short;grind
 have j:decide ((O:Int)≤((d.length:Nat):Int))=true:=by simp_all
 simp only[a1B,a0T,a4D,if_true,show((2:Int)==2)=true from rfl,cT,b2E (show O≤4 by omega) (show O≤d.length by omega) i y,oB,tN]
 grind[a9o,a1Q,a6F]
 ·obtain⟨f,e⟩:a7M c sh=true∧(c.length:Int)≤(d.length:Int):=by simp_all
  have g:short (d.take c.length):=by unfold short;grind
  have m:decide ((0:Int)≤((c.length:Nat):Int))=true:=by simp
  have j:decide (((c.length:Nat):Int)≤((d.length:Nat):Int))=true:=by simp_all
  simp only[a1B,a0T,a4D,show((3:Int)==2)=false from rfl,show((3:Int)==3)=true from rfl,show ¬ (3:Int)=2 by simp,show ¬ (3:Int)=4 by simp,show ¬ (3:Int)=5 by simp,true_or,if_true,if_false,cT,cF,b1D f (show c.length≤d.length by omega) (show d.length<100000 by omega),oB];cases b2f d c sh with
  |none=>rfl
  |some r=>simp_all[a4b,a9o,a1Q,a6F]
 ·obtain⟨f,e,a⟩:a7M c sh=true∧(c.length:Int)≤(d.length:Int)∧a9a lag t=true:=by simp_all
  simp[a1B,a0T,a4D,b8R a l (show d.length<100000 by omega)];cases hx:b1E d lag t with
  |none=>rfl
  |some x=>
   obtain⟨-,A,B⟩:=b3h hx;have g:short (x.take c.length):=by unfold short;grind
   have m:decide ((0:Int)≤((c.length:Nat):Int))=true:=by simp
   have j:decide (((c.length:Nat):Int)≤((x.length:Nat):Int))=true:=by simp_all
   simp[a4b,b1D f (show c.length≤x.length by omega) (show x.length<100000 by omega)]
   grind[a9o,a1Q,a6F]
 ·obtain⟨e,b⟩:0<st.length∧a7w st=true:=by simp_all
  have g:short (d.take 0):=by simp[short]
  simp only[a1B,a0T,a4D,show((5:Int)==2)=false from rfl,show((5:Int)==3)=false from rfl,show((5:Int)==4)=false from rfl,show((5:Int)==5)=true from rfl,show ¬ (5:Int)=2 by simp,show ¬ (5:Int)=3 by simp,show ¬ (5:Int)=4 by simp,or_self,if_true,if_false,cT,cF,b7H b (show d.length<100000 by omega),oB];cases a9K d st with
  |none=>rfl
  |some r=>
   rfl
open Classical in

def a1j (k:Int) (l:List Int) (s:Sub):Sub×Int:=
 if ¬ (1≤l.length∧l.length≤4096∧a3j k s (l.length:Int))then(a1I 0,1)
 else if l.all a0A=false then(a1I 0,6)
 else if k=0 then(bif l.all (fun x=>x==l.headD 0)then(a1B (a0T 0 s) 0 [l.headD 0] z0 [],0)else(a1I 0,7))
 else if k=1 then(a1B (a0T 1 s) (a2w l) (a1a l) z0 [],0)
 else match a4D k s (a1a l)with
  |none=>(a1I 0,6)
  |some (wm,r)=>(a1B (a0T k s) (a2w l) wm (b3r (l.length:Int) (wm.length:Int) r) r,0)
theorem c2t(h:1≤l.length):m0k l 0=some (l.headD 0):=by
 cases l with
 |nil=>grind
 |cons a l=>rfl
theorem b9d(k:1≤l.length)(c:short l)(a b:Sub):
  y0s a4f (l,l,(l.length:Int),(0:Int),a,b,())=some (bif l.all (fun x=>x==l.headD 0)then .inl (l,a,b,())else .inr ((7:Int),a1I 0,())):=by
 have:=a1d (f:=a4f) l (fun i=>(l,l,(l.length:Int),(i:Int),a,b,())) (fun x=>x==l.headD 0) (bt:=Sum.inl (l,a,b,())) (bf:=Sum.inr ((7:Int),a1I 0,()))
  (fun i h hp=>by
   have g:(l[i] != l.headD 0)=false:=by simp_all
   simp only[a4f,dlt h,cT,a0B h,oB,c2t k,g,cF,a0C (a09 h c)])
  (fun i h hp=>by
   have g:(l[i] != l.headD 0)=true:=by simp_all
   simp only[a4f,dlt h,cT,a0B h,oB,c2t k,g];rfl)
  (by simp[a4f])
 omega
theorem b3N(h:a3j k s n)(g:k≠0)(f:k≠1):k=2∨k=3∨k=4∨k=5:=by
 rcases h with h|h|⟨h,-⟩|⟨h,-⟩|⟨h,-⟩|⟨h,-⟩;omega;omega
 all_goals omega
theorem c5K(h:SmallS s)(k:Int)(D:l.length≤100000):a9w (k,l,s)=some (a1j k l s):=by
 have j:short l:=by unfold short;omega
 unfold a9w a1j
 by_cases h1:1≤l.length
 rotate_left;have e:decide (((l.length:Nat):Int)<1)=true:=decide_eq_true (by omega);rw[if_pos (fun g=>h1 g.1)];simp only[e,cT,oB];rfl;have a:decide (((l.length:Nat):Int)<1)=false:=decide_eq_false (by omega)
 by_cases h2:l.length≤4096
 rotate_left;have e:decide (((l.length:Nat):Int) > 4096)=true:=decide_eq_true (by omega);rw[if_pos (fun g=>h2 g.2.1)];simp only[a,e,cT,cF,oB];rfl;have o:decide (((l.length:Nat):Int) > 4096)=false:=decide_eq_false (by omega)
 by_cases h3:a3j k s (l.length:Int)
 rotate_left;have b:b0A k s (l.length:Int)=false:=by simp[b0A,h3]
 rw[if_pos (fun g=>h3 g.2.2)];simp only[a,o,b1x h,b,cF,a27,cT,oB];rfl;have b:b0A k s (l.length:Int)=true:=by simp[b0A,h3]
 rw[if_neg (fun g=>g ⟨h1,h2,h3⟩)];simp only[a,o,b1x h,b,cF,bT,oB,a3F j];cases hw:l.all a0A with
 |false=>rfl
 |true=>
  simp only[bT,cF,c3s h,oB];rw[if_neg (by simp)]
  by_cases h0:k=0
  ·subst h0;have w:=b9d h1 j (a1I 0) (a0T 0 s);have v:a1I 0=((0:Int),(0:Int),(0:Int),(0:Int),(0:Int),([]:(List Int)),a00 3 (0:Int),([]:(List (Int×Int×Unit))),([]:(List Int)),((0:Int),([]:(List Int)),()),([]:(List Int)),()):=rfl;rw[←v,if_pos rfl];simp only[show((0:Int)==0)=true from rfl,cT,w,oB];cases l.all (fun x=>x==l.headD 0)with
   |false=>rfl
   |true=>simp only[cT,c2t h1,oB];rfl
  ·obtain⟨z,A,-⟩:=a7x j hw;obtain⟨t,n,C,-⟩:=a5D h2 hw;have c:(k==0)=false:=by grind
   rw[if_neg h0];simp only[c,cF,z,oB,b1C A (show l.length<100000 by omega),t,a4b,show((0:Int) != 0)=false from rfl]
   by_cases hk1:k=1
   subst hk1;rfl
   ·have i:(k==1)=false:=by simp_all
    have p:=b3N h3 h0 hk1;rw[if_neg hk1];have m:=c4q p h (d:=a1a l) (by simp_all) (by omega) n (a2w l);have u:((a0T k s).1,((a2w l:Nat):Int),(a0T k s).2.2)=a1B (a0T k s) (a2w l) [] z0 []:=rfl;simp only[i,cF,u,m,oB];cases hr:a4D k s (a1a l)with
    |none=>rfl
    |some q=>
     obtain⟨B,r⟩:=q;obtain⟨E,r2,y,-⟩:=b9c p (by simp_all) n hr;have f:a5i (l.length:Int) (B.length:Int)=true:=by simp_all[a5i]
     have hb:=b7K f (l:=r) (by omega) y (by omega);simp only[show((0:Int) != 0)=false from rfl,cF,a1B,hb,oB]
theorem c3t(h:a4A p n warm=true):p.2.1.length≤256:=by
 simp only[a4A,bA,a33,beq_eq_false_iff_ne,ne_eq,beq_iff_eq]at h
 grind[b1l,a1n]
theorem b2k(h:SmallS s)(g:wm.length≤5000)(f:r.length≤5000)(k:p.2.1.length≤300):SmallS (a1B s w wm p r):=
 ⟨h.coefs,h.taps,h.stages,g,f,k⟩
theorem c2u(f:(a1j k l s).2=0):
  1≤l.length∧l.length≤4096∧a3j k s (l.length:Int)∧l.all a0A=true∧
   ((k=0∧l.all (fun x=>x==l.headD 0)=true∧(a1j k l s).1=a1B (a0T 0 s) 0 [l.headD 0] z0 [])∨
    (k=1∧(a1j k l s).1=a1B (a0T 1 s) (a2w l) (a1a l) z0 [])∨
     ((k=2∨k=3∨k=4∨k=5)∧∃wm r,a4D k s (a1a l)=some (wm,r)∧(a1j k l s).1=a1B (a0T k s) (a2w l) wm (b3r (l.length:Int) (wm.length:Int) r) r)):=by
 unfold a1j at f⊢
 split at f
 omega;rename_i g;have g:1≤l.length∧l.length≤4096∧a3j k s (l.length:Int):=Classical.byContradiction g;refine⟨g.1,g.2.1,g.2.2,?_⟩;rw[if_neg (fun h=>h g)]
 split at f
 omega;rename_i d;have a:l.all a0A=true:=by simp_all
 refine⟨a,?_⟩;rw[if_neg d]
 split at f
 grind
 rename_i b;rw[if_neg b]
 split at f
 simp_all;rename_i c;rw[if_neg c];refine .inr (.inr ⟨b3N g.2.2 b c,?_⟩)
 grind
theorem b0H:b1y (a1B (a0T k s) w wm p r):=by
 unfold b1y a1B a0T;simp_all
theorem b4o(h:a3j k s n):a3j (a1B (a0T k s) w wm p r).1 (a1B (a0T k s) w wm p r) n:=c2s.2 h
theorem c4r{l:List Int}(h:l.all (fun x=>x==l.headD 0)=true):a00 l.length (l.headD 0)=l:=by
 refine(List.eq_replicate_iff.2 ⟨rfl,fun x g=>?_⟩).symm
 grind
theorem b6k(I:SmallS s)(G:(a1j k l s).2=0):
  SmallS (a1j k l s).1∧(a1j k l s).1.1=k∧a1l (a1j k l s).1 (l.length:Int)∧a1O (a1j k l s).1 (l.length:Int)=some l:=by
 obtain⟨S,H,u,A,K⟩:=c2u G;have M:short l:=by unfold short;omega
 obtain⟨-,Y,-⟩:=a7x M A;obtain⟨O,v,P,D⟩:=a5D H A;have d:∀m:Sub,a1l m (l.length:Int)→b8E m (l.length:Int)=some l→a1O m (l.length:Int)=some l:=fun m j n=>by simp_all[a1O]
 have b:=b9b I k;rcases K with⟨rfl,y,e⟩|⟨rfl,e⟩|⟨z,i,r,f,e⟩
 ·rw[e];have g:a1l (a1B (a0T 0 s) 0 [l.headD 0] z0 []) (l.length:Int):=by
   have T:a0A (l.headD 0)=true:=by
    cases l with
    |nil=>rfl
    |cons a l=>simp_all
   exact⟨by omega,by omega,b4o u,b0H,Int.le_refl _,(by simp:(0:Int)≤30),fun _=>rfl,rfl,by simp_all[a1B],rfl,fun _=>⟨rfl,rfl,rfl⟩,fun h=>absurd rfl h.1⟩
  refine⟨b2k b (by simp) (by simp) (by simp[z0]),rfl,g,d _ g ?_⟩;show some (a00 (l.length:Int).toNat (l.headD 0))=some l
  grind[c4r]
 rw[e];have g:a1l (a1B (a0T 1 s) (a2w l) (a1a l) z0 []) (l.length:Int):=
  ⟨by omega,by omega,b4o u,b0H,a81 _,(by show((a2w l:Nat):Int)≤30;omega),fun h=>absurd h (by simp:¬ (1:Int)=0),by show(((a1a l).length:Nat):Int)=(l.length:Int);omega,v,rfl,fun _=>⟨rfl,rfl,rfl⟩,fun h=>absurd rfl h.2⟩
 refine⟨b2k b (by omega) (by simp) (by simp[z0]),rfl,g,d _ g ?_⟩;show upO ((a2w l:Nat):Int) (a1a l)=some l;omega
 ·rw[e];obtain⟨X,r2,C,N⟩:=b9c z (by simp_all) v f;have q:a5i (l.length:Int) (i.length:Int)=true:=by simp only[a5i,bA,dT];omega
  have hp:=c4p q (l:=r) (by omega) C (by omega);generalize b3r (l.length:Int) (i.length:Int) r=p at hp;have L:=c3t hp

  have t:a1Q (a1B (a0T k s) (a2w l) i p r) (l.length:Int)=(i.length:Int)∧backP (a1B (a0T k s) (a2w l) i p r)=some (a1a l):=by
   simp only[a3j]at u;rcases z with rfl|rfl|rfl|rfl
   ·obtain⟨U,V,B⟩:0≤s.2.2.1∧s.2.2.1≤4∧s.2.2.1≤(l.length:Int):=by omega
    simp[a4D]at f;cases hq:(a1P s.2.2.1.toNat (a1a l)).all a0A with
    |false=>simp_all
    |true=>
     simp[hq]at f;obtain⟨rfl,rfl⟩:=f;refine⟨?_,?_⟩;show s.2.2.1=_
     grind
     show b4i ((a1a l).take s.2.2.1.toNat) (a1P s.2.2.1.toNat (a1a l)) s.2.2.1=some (a1a l);have hb:=b8N v (o:=s.2.2.1.toNat) (by omega) ((a1a l).length-s.2.2.1.toNat) 0 (by omega);rw[a28,a83]at hb
     grind[b4i]
   have B:(s.2.2.2.2.2.1.length:Int)≤(l.length:Int):=by omega
   simp only[a4D,show ¬ (3:Int)=2 by simp,if_false,if_true,a20,pJ]at f;obtain⟨w,j,rfl,rfl⟩:=f;obtain⟨n,-,-⟩:=b2g j;refine⟨?_,?_⟩;show((s.2.2.2.2.2.1.length:Nat):Int)=_;simp_all;exact n;have B:(s.2.2.2.2.2.1.length:Int)≤(l.length:Int):=by omega
   simp only[a4D,show ¬ (4:Int)=2 by simp,show ¬ (4:Int)=3 by simp,if_false,if_true,a43,a20,pJ]at f;obtain⟨x,F,w,j,rfl,rfl⟩:=f;obtain⟨Q,-,R⟩:=b3h F;obtain⟨n,-,-⟩:=b2g j;refine⟨?_,?_⟩;show((s.2.2.2.2.2.1.length:Nat):Int)=_;simp_all;show(a9V (x.take s.2.2.2.2.2.1.length) w s.2.2.2.2.2.1 s.2.2.2.1).bind (fun l=>b0T l s.2.2.2.2.1 s.2.2.2.2.2.2.1)=_;simp_all;simp only[a4D,show ¬ (5:Int)=2 by simp,show ¬ (5:Int)=3 by simp,show ¬ (5:Int)=4 by simp,if_false,a20,pJ]at f;obtain⟨w,j,rfl,rfl⟩:=f;obtain⟨n,-,-⟩:=b5b j;exact⟨rfl,n⟩
  have c:¬ (k=0∨k=1):=by omega
  have g:a1l (a1B (a0T k s) (a2w l) i p r) (l.length:Int):=by
   unfold a1l;rw[t.1];exact⟨by omega,by omega,b4o u,b0H,a81 _,(by show((a2w l:Nat):Int)≤30;omega),fun h=>absurd (.inl h) c,rfl,N,C,fun h=>absurd h c,fun _=>⟨(by show((r.length:Nat):Int)=_;omega),hp⟩⟩
  refine⟨b2k b (by omega) (by omega) (by omega),rfl,g,d _ g ?_⟩;have E:¬ (a1B (a0T k s) (a2w l) i p r).1=0:=fun h=>c (.inl h);unfold b8E;rw[if_neg E,t.2];exact D
theorem c2v:SmallS (a1I 0):=c0S 0
def cS(k o sh:Int)(c:List Int)(st:List Stg):Sub:=
 (k,(0:Int),o,sh,(0:Int),c,a00 3 (0:Int),st,([]:List Int),((0:Int),([]:List Int),()),([]:List Int),())
theorem a8C{k o sh:Int}{c:List Int}{st:List Stg}(h:c.length≤40)(g:st.length≤6):SmallS (cS k o sh c st):=
 ⟨h,rfl,g,by simp[cS],by simp[cS],by simp[cS]⟩
def a9I(d:List Int)(o w:Int):List Int×(Int×Int):=(a3i (d,o,w)).getD ([],0,1)
def a8D(d:List Int)(o w:Int):List Sub:=bif (a9I d o w).2.2==0 then[cS 3 0 (a9I d o w).2.1 (a9I d o w).1 []]else[]
def c2w(d:List Int):Int:=(a4X d).getD 0
def b2l(d:List Int):Sub×Bool:=(a2V d).getD (a1I 0,false)
def b4p(d:List Int):List Sub:=bif (b2l d).2 then[(b2l d).1]else[]
def a8E(i:Nat):List Sub:=(List.range i).map fun(j:Nat)=>cS 2 (j:Int) 0 [] []
def a1S(d:List Int):List Sub:=[cS 0 0 0 [] [],cS 1 0 0 [] [],cS 2 (c2w d) 0 [] []]
def a3d(d:List Int)(k:Int):List Sub:=if 1≤k then a8D d 4 12++a8D d 8 12 else[]
def a9h(d:List Int)(k:Int):List Sub:=if 2≤k then[cS 5 0 0 [] [((16:Int),(4:Int),())],cS 5 0 0 [] [((32:Int),(3:Int),()),((16:Int),(5:Int),())]]++b4p d else[]
def b7R(d:List Int)(k:Int):List Sub:=if 3≤k then a8E 5++(a8D d 1 12++(a8D d 2 12++(a8D d 12 14++a8D d 16 14)))else[]
def a3t(d:List Int)(k:Int):List Sub:=a1S d++(a3d d k++(a9h d k++b7R d k))
def b5i(d:List Int):Prop:=a2V d=some (b2l d)∧((b2l d).2=true→SmallS (b2l d).1)
theorem b9e(a:d.all a0A=true)(k:d.length≤4096)(h:1≤o)(g:o≤32)(f:2≤w∧w≤16):
  a3i (d,(o:Int),(w:Int))=some (a9I d o w)∧((a9I d o w).2.2=0→(a9I d o w).1.length=o):=by
 obtain⟨c,sh,e,b,i⟩:=c3n a k h g f;unfold a9I;simp_all
theorem a8F(d:List Int)(o w:Int):(a8D d o w).length≤1:=by
 grind[a8D]
theorem a8G(c:d.all a0A=true)(b:d.length≤4096)(f:1≤o)(k:o≤32)(a:2≤w∧w≤16){L:List Sub}(e:L.length<1000):
  a0M ((o:Int),(w:Int),d,L)=some (d,L++a8D d o w):=by
 obtain⟨g,-⟩:=b9e c b f k a;have h:lim (L.length+1)=true:=a0P (by omega);unfold a0M a8D;simp only[g,oB];cases (a9I d o w).2.2==0 with
 |true=>simp only[cT,h];rfl
 |false=>simp
theorem c2x{L:List Sub}(k:L.length<1000):y0s a1U ((0:Int),L,d,())=some (L++a8E 5,d,()):=by
 have:=a2m (f:=a1U) (fun i:Nat=>((i:Int),L++a8E i,d,())) 5 (b:=(L++a8E 5,d,()))
  (fun i a=>by
   have g:decide ((i:Int)<5)=true:=decide_eq_true (by omega);have h:lim ((L++a8E i).length+1)=true:=a0P (by simp[a8E];omega);have e:(L++a8E i)++[cS 2 (i:Int) 0 [] []]=L++a8E (i+1):=by simp[a8E,List.range_succ]
   rw[←e];simp only[a1U,g,cT,h,a0C (show i<1000000 by omega)];rfl)
  (by
   rfl)
 simp at this;rw[show a8E 0=[]from rfl,a39]at this;omega
theorem c5L(a:d.all a0A=true)(c:d.length≤4096)(l:b5i d)(k:Int):a5v (d,k)=some (a3t d k):=by
 obtain⟨o,E,F⟩:=b4Z (show d.length<100000 by omega) a;have hb:c2w d=(o:Int):=by simp_all[c2w]
 have D:(b4p d).length≤1:=by grind[b4p]
 have N:=a8F d 4 12;have O:=a8F d 8 12;have l1:=a8F d 1 12;have l2:=a8F d 2 12;have G:=a8F d 12 14;have y:=fun L (hL:L.length<1000)=>a8G (L:=L) a c (o:=4) (w:=12) (by omega) (by omega) (by omega) hL;have z:=fun L (hL:L.length<1000)=>a8G (L:=L) a c (o:=8) (w:=12) (by omega) (by omega) (by omega) hL;have v:=fun L (hL:L.length<1000)=>a8G (L:=L) a c (o:=1) (w:=12) (by omega) (by omega) (by omega) hL;have x:=fun L (hL:L.length<1000)=>a8G (L:=L) a c (o:=2) (w:=12) (by omega) (by omega) (by omega) hL;have i:=fun L (hL:L.length<1000)=>a8G (L:=L) a c (o:=12) (w:=14) (by omega) (by omega) (by omega) hL;have j:=fun L (hL:L.length<1000)=>a8G (L:=L) a c (o:=16) (w:=14) (by omega) (by omega) (by omega) hL;simp at y z v x i j;have P:(a1S d).length=3:=rfl;have n1:(a3d d k).length≤2:=by unfold a3d;split<;>simp<;>omega
 have n2:(a9h d k).length≤3:=by unfold a9h;split<;>simp<;>omega
 have Q:(a8E 5).length=5:=rfl;have M:(bif decide (k≥1)then((a0M ((4:Int),(12:Int),d,a1S d)).bind fun n=>(a0M ((8:Int),(12:Int),n.1,n.2)).bind fun p=>some (k,p.1,p.2,()))else some (k,d,a1S d,()))=some (k,d,a1S d++a3d d k,()):=by
  unfold a3d
  by_cases h:1≤k
  have e:decide (k≥1)=true:=decide_eq_true h;simp only[e,cT,y (a1S d) (by omega),oB,z (a1S d++a8D d 4 12) (by grind),if_pos h,aA]
  grind
 have C:a5v (d,k)=(a4X d).bind fun A=>
   (show Option (Int×((List Int)×((List Sub)×Unit)))from bif decide (k≥1)then((a0M ((4:Int),(12:Int),d,[cS 0 0 0 [] [],cS 1 0 0 [] [],cS 2 A 0 [] []])).bind fun n=>(a0M ((8:Int),(12:Int),n.1,n.2)).bind fun p=>some (k,p.1,p.2,()))else some (k,d,[cS 0 0 0 [] [],cS 1 0 0 [] [],cS 2 A 0 [] []],())).bind fun g=>
   (show Option (Int×((List Sub)×((List Int)×Unit)))from bif decide (g.1≥2)then(bif lim (g.2.2.1.length+1)then(bif lim ((g.2.2.1++[cS 5 0 0 [] [((16:Int),(4:Int),())]]).length+1)then((a2V g.2.1).bind fun q=>
    bif q.2 then(bif lim ((g.2.2.1++[cS 5 0 0 [] [((16:Int),(4:Int),())]]++[cS 5 0 0 [] [((32:Int),(3:Int),()),((16:Int),(5:Int),())]]).length+1)then some (g.1,g.2.2.1++[cS 5 0 0 [] [((16:Int),(4:Int),())]]++[cS 5 0 0 [] [((32:Int),(3:Int),()),((16:Int),(5:Int),())]]++[q.1],g.2.1,())else none)
    else some (g.1,g.2.2.1++[cS 5 0 0 [] [((16:Int),(4:Int),())]]++[cS 5 0 0 [] [((32:Int),(3:Int),()),((16:Int),(5:Int),())]],g.2.1,()))else none)else none)else some (g.1,g.2.2.1,g.2.1,())).bind fun t=>
   (show Option ((List Sub)×Unit)from bif decide (t.1≥3)then((y0s a1U ((0:Int),t.2.1,t.2.2.1,())).bind fun m=>(a0M ((1:Int),(12:Int),m.2.1,m.1)).bind fun r=>(a0M ((2:Int),(12:Int),r.1,r.2)).bind fun s=>
    (a0M ((12:Int),(14:Int),s.1,s.2)).bind fun f=>(a0M ((16:Int),(14:Int),f.1,f.2)).bind fun b=>some (b.2,()))else some (t.2.1,())).bind fun u=>some u.1:=rfl
 have B:[cS 0 0 0 [] [],cS 1 0 0 [] [],cS 2 (o:Int) 0 [] []]=a1S d:=by unfold a1S;grind
 have R:(bif decide (k≥2)then(bif lim ((a1S d++a3d d k).length+1)then(bif lim ((a1S d++a3d d k++[cS 5 0 0 [] [((16:Int),(4:Int),())]]).length+1)then((a2V d).bind fun q=>
    bif q.2 then(bif lim ((a1S d++a3d d k++[cS 5 0 0 [] [((16:Int),(4:Int),())]]++[cS 5 0 0 [] [((32:Int),(3:Int),()),((16:Int),(5:Int),())]]).length+1)then some (k,a1S d++a3d d k++[cS 5 0 0 [] [((16:Int),(4:Int),())]]++[cS 5 0 0 [] [((32:Int),(3:Int),()),((16:Int),(5:Int),())]]++[q.1],d,())else none)
    else some (k,a1S d++a3d d k++[cS 5 0 0 [] [((16:Int),(4:Int),())]]++[cS 5 0 0 [] [((32:Int),(3:Int),()),((16:Int),(5:Int),())]],d,()))else none)else none)else some (k,a1S d++a3d d k,d,()):Option (Int×((List Sub)×((List Int)×Unit))))=some (k,a1S d++(a3d d k++a9h d k),d,()):=by
  unfold a9h
  by_cases h:2≤k
  have e:decide (k≥2)=true:=decide_eq_true h;have H:lim ((a1S d++a3d d k).length+1)=true:=a0P (by grind);have I:lim ((a1S d++a3d d k++[cS 5 0 0 [] [((16:Int),(4:Int),())]]).length+1)=true:=a0P (by simp;omega);have K:lim ((a1S d++a3d d k++[cS 5 0 0 [] [((16:Int),(4:Int),())]]++[cS 5 0 0 [] [((32:Int),(3:Int),()),((16:Int),(5:Int),())]]).length+1)=true:=a0P (by simp;omega);simp only[e,H,I,K,cT,l.1,oB,if_pos h,b4p];cases (b2l d).2<;>simp
  grind
 have S:(bif decide (k≥3)then((y0s a1U ((0:Int),a1S d++(a3d d k++a9h d k),d,())).bind fun m=>(a0M ((1:Int),(12:Int),m.2.1,m.1)).bind fun r=>(a0M ((2:Int),(12:Int),r.1,r.2)).bind fun s=>
    (a0M ((12:Int),(14:Int),s.1,s.2)).bind fun f=>(a0M ((16:Int),(14:Int),f.1,f.2)).bind fun b=>some (b.2,()))else some (a1S d++(a3d d k++a9h d k),()):Option ((List Sub)×Unit))=some (a3t d k,()):=by
  unfold a3t b7R
  by_cases h:3≤k
  have e:decide (k≥3)=true:=decide_eq_true h;simp only[e,cT,c2x (L:=a1S d++(a3d d k++a9h d k)) (by simp;omega),oB,if_pos h];rw[v _ (by simp;omega)];simp only[oB];rw[x _ (by simp;omega)];simp only[oB];rw[i _ (by simp;omega)];simp only[oB];rw[j _ (by simp;omega)]
  simp
  grind
 rw[C,E,oB,B];simp only[];rw[M];simp only[oB];simp_all
theorem b5j(l:d.all a0A=true)(i:d.length≤4096)(f:b5i d)(k:Int):∀c∈a3t d k,SmallS c:=by
 have g:∀(o w:Nat),1≤o→o≤32→2≤w∧w≤16→∀c∈a8D d o w,SmallS c:=fun o w a b e c h=>by
  obtain⟨-,m⟩:=b9e l i a b e;unfold a8D at h;cases he:(a9I d o w).2.2==0 with
  |false=>simp_all
  |true=>
   rw[he]at h;simp at h
   grind[a8C]
 intro c h;simp[a3t]at h;rcases h with h|h|h|h;simp[a1S]at h;rcases h with rfl|rfl|rfl<;>exact a8C (by simp) (by simp);unfold a3d at h
 split at h
 simp at h;rcases h with h|h;exact g 4 12 (by omega) (by omega) (by omega) c h;exact g 8 12 (by omega) (by omega) (by omega) c h;simp_all
 ·unfold a9h at h
  split at h
  ·simp only[mA,mC,a95,or_false]at h;rcases h with(rfl|rfl)|h;simp_all[a8C];simp_all[a8C]
   ·unfold b4p at h;cases hg:(b2l d).2 with
    |false=>simp_all
    |true=>
     rw[hg]at h;simp at h;subst h;exact f.2 hg
  simp_all
 unfold b7R at h
 split at h
 simp only[mA,a8E,List.mem_map]at h;rcases h with⟨j,-,rfl⟩|h|h|h|h;simp_all[a8C];exact g 1 12 (by omega) (by omega) (by omega) c h;exact g 2 12 (by omega) (by omega) (by omega) c h;exact g 12 14 (by omega) (by omega) (by omega) c h;exact g 16 14 (by omega) (by omega) (by omega) c h;simp_all
theorem c4s(g:d.length≤256):a2V d=some (a1I 0,false):=by
 have h:a8O (d,(16:Int),(256:Int))=some (0,7):=by
  unfold a8O
  grind
 unfold a2V;simp only[h,oB,show((7:Int) != 0)=true from rfl,cT];rfl
theorem c6z{d:List Int}(g:d.length≤256):b5i d:=by
 have h:=c4s g
 have:b2l d=(a1I 0,false):=by unfold b2l;simp_all
 exact⟨by simp_all,fun f=>by simp_all⟩
def b1H(l:List Int)(a:Int×(Bool×Sub))(c:Sub):Int×(Bool×Sub):=
 bif (a1j c.1 l c).2 != 0 then a else bif !a.2.1 || decide (a3Z (a1j c.1 l c).1 (l.length:Int)<a.1)then(a3Z (a1j c.1 l c).1 (l.length:Int),true,(a1j c.1 l c).1)else a
def b2m(l:List Int)(cs:List Sub):Int×(Bool×Sub):=cs.foldl (b1H l) (0,false,a1I 0)
theorem b2n{α A β:Type}(g:A→α→A)(h:A→β):∀(l:List α)(a:A),a7n h (a2n (fun a x=>.inl (g a x)) l a)=h (l.foldl g a)
 | [],_=>rfl
 |x::l,a=>b2n g h l (g a x)
theorem c0T(h:SmallS s):SmallS (a1j k l s).1:=by
 by_cases h0:(a1j k l s).2=0
 exact(b6k h h0).1
 have:(a1j k l s).1=a1I 0:=by
  unfold a1j at h0⊢
  grind
 simp_all[c2v]
theorem c3u{cs:List Sub}(j:∀c∈cs,SmallS c)(p:l.length≤4096)(o:cs.length<1000):
  y0s a5M (l,(0:Int),false,cs,((cs.length:Nat):Int),(0:Int),a1I 0,a1I 0,())=some (a1I 0,(b2m l cs).2.2,()):=by
 have:=a1E (f:=a5M) cs (fun i a=>(l,a.1,a.2.1,cs,((cs.length:Nat):Int),(i:Int),a1I 0,a.2.2,())) (fun a x=>.inl (b1H l a x)) (fun _ _=>True) (fun a=>(a1I 0,a.2.2,()))
  (fun i g a _=>by
   refine⟨fun n h=>?_,fun b hb=>by grind⟩;simp at h;subst h;refine⟨?_,trivial⟩;have d:=j _ (a05 g);have e:=c1d (c0T (k:=cs[i].1) (l:=l) d) (l.length:Int);unfold b1H;simp only[a5M,dlt g,cT,a0B g,oB,c5K d cs[i].1 (show l.length≤100000 by omega),e,a0C (show i<1000000 by omega)];cases (a1j cs[i].1 l cs[i]).2 != 0 with
   |true=>rfl
   |false=>
    have m:=a0C (show i<1000000 by omega)
    grind)
  (fun a _=>by simp_all[a5M]) (a:=((0:Int),false,a1I 0)) trivial
 simp at this;rw[this,b2n];rfl
theorem c5M(v:1≤l.length)(c:l.length≤4096)(a:l.all a0A=true)(h:b5i (a1a l))(u:0≤k)(x:k≤3):
  a4s (l,k)=some ((b2m l (a3t (a1a l) k)).2.2,0):=by
 have d:short l:=by unfold short;omega
 obtain⟨r,s,-⟩:=a7x d a;obtain⟨e,b,t,-⟩:=a5D c a;have i:decide (((l.length:Nat):Int)<1)=false:=decide_eq_false (by omega);have j:decide (((l.length:Nat):Int) > 4096)=false:=decide_eq_false (by omega);have m:decide (k<0)=false:=decide_eq_false (by omega);have n:decide (k > 3)=false:=decide_eq_false (by omega);have f:(a3t (a1a l) k).length<1000:=by
  have g:=fun o w=>a8F (a1a l) o w;have y:=g 4 12;have z:=g 8 12;have A:=g 1 12;have B:=g 2 12;have C:=g 12 14;have D:=g 16 14;have p:(b4p (a1a l)).length≤1:=by grind[b4p]
  simp only[a3t,a1S,a3d,a9h,b7R,lN]
  grind[a8E]
 have hb:=c3u (l:=l) (b5j b (by omega) h k) c f;have q:a1I 0=((0:Int),(0:Int),(0:Int),(0:Int),(0:Int),([]:(List Int)),a00 3 (0:Int),([]:(List (Int×Int×Unit))),([]:(List Int)),((0:Int),([]:(List Int)),()),([]:(List Int)),()):=rfl;unfold a4s;simp only[←q,i,j,m,n,cF,oB,a3F d,a,bT,r,b1C s (show l.length<100000 by omega),e,a4b,show((0:Int) != 0)=false from rfl,c5L b (show(a1a l).length≤4096 by omega) h,hb]
theorem a8H(v:Int)(n:Nat)(L:List Int):(a0L v n L).length=L.length+(a0L v n []).length:=by
 grind[a0L]
theorem b1c(n:Nat):∀(l L:List Int),(a1v n l L).length=L.length+(a1v n l []).length
 | [],L=>by rfl
 |x::l,L=>by
  show(a1v n l (a0L (a0R x n) n L)).length=L.length+(a1v n l (a0L (a0R x n) n [])).length;rw[b1c n l,b1c n l (a0L (a0R x n) n []),a8H];omega
theorem b1o:∀(st:List Stg)(L:List Int),(a2I st L).length=L.length+(a2I st []).length
 | [],L=>by rfl
 |s::st,L=>by
  show(a2I st (a5l s L)).length=L.length+(a2I st (a5l s [])).length;rw[b1o st,b1o st (a5l s [])];unfold a5l;rw[a8H,a8H _ 5 L,a8H _ 4 (a0L _ 5 [])];omega
theorem c2y(s:Sub)(L:List Int):(a5m s L).length=L.length+(a5m s []).length:=by
 grind[a5m,b1c,a8H]
theorem b6H(s:Sub)(L:List Int):(a2b s L).length=L.length+(a2b s []).length:=by
 grind[a2b,a8H,c2y,b1c,b1o]
theorem c4t(g:0≤s.1∧s.1≤5)(f:0≤s.2.1∧s.2.1≤30)(h:s.2.2.2.2.2.2.2.2.1.all a0A=true)(L:List Int):(a9d s L).length=L.length+13:=by
 grind[a01,a1F,a9d,a2W,a8B]
def c2z(s:Sub)(zn:List Nat):Nat:=
 13+(a2b s []).length+a0G s.2.2.2.2.2.2.2.2.1*s.2.2.2.2.2.2.2.2.1.length+if s.1=0∨s.1=1 then 0 else 4+a4C zn s.2.2.2.2.2.2.2.2.2.1.2.1 s.2.2.2.2.2.2.2.2.2.2.1
theorem b2o(h:a3j k s n):0≤k∧k≤5:=by
 rcases h with h|h|⟨h,-⟩|⟨h,-⟩|⟨h,-⟩|⟨h,-⟩<;>omega
theorem b1p(h:(a1O s n).isSome=true):a1l s n:=by
 grind[a1O]
theorem c5N(h:(a1O s n).isSome=true)(d:s.1≠0∧s.1≠1→PartsOk s.2.2.2.2.2.2.2.2.2.1 n ((s.2.2.2.2.2.2.2.2.1.length:Nat):Int) s.2.2.2.2.2.2.2.2.2.2.1 zn)(L:List Int):
  (a4h s zn L).length=L.length+c2z s zn:=by
 obtain⟨e,i,b,-,k,a,-,-,f,-⟩:=b1p h;have c:=a1F f;have g:=c4t (b2o b) ⟨k,a⟩ f L;unfold a4h c2z
 by_cases hk:s.1=0∨s.1=1
 rw[if_pos hk,if_pos hk,b1a (by omega),b6H,g];omega;rw[if_neg hk,if_neg hk,b7J (d (not_or.1 hk)),b1a (by omega),b6H,g];omega
theorem c4u(h:SmallS s)(f:(a1O s n).isSome=true):∃g,a3Z s n=((c2z s g:Nat):Int)∧(s.1≠0∧s.1≠1→PartsOk s.2.2.2.2.2.2.2.2.2.1 n ((s.2.2.2.2.2.2.2.2.1.length:Nat):Int) s.2.2.2.2.2.2.2.2.2.2.1 g):=by
 obtain⟨e,b,-,-,-,a,-⟩:=b2a h (n:=n) (L:=[]) (by simp);obtain⟨-,g,-,k⟩:=a f;refine⟨g,?_,k⟩;unfold a3Z;rw[if_pos f,←b6i k,c5N f k]
 simp
structure Shifted (l m:List Int) (n:Nat):Prop where
 len:m.length=l.length
 wl:l.all a0A=true
 wm:m.all a0A=true
 down:a1a m=a1a l
 waste:a2w m=a2w l+n
 fl:l.all (fun x=>x==l.headD 0)=false
 fm:m.all (fun x=>x==m.headD 0)=false
structure BestIs (l:List Int) (cs:List Sub) (a:Int×(Bool×Sub)):Prop where
 one:a.2.1=true→∃c∈cs,(a1j c.1 l c).2=0∧a.2.2=(a1j c.1 l c).1∧a.1=a3Z a.2.2 (l.length:Int)
 least:∀c∈cs,(a1j c.1 l c).2=0→a.2.1=true∧a.1≤a3Z (a1j c.1 l c).1 (l.length:Int)
theorem b3k{l:List Int}:∀(cs ds:List Sub)(a:Int×(Bool×Sub)),BestIs l ds a→BestIs l (ds++cs) (cs.foldl (b1H l) a)
 | [],ds,a,h=>by simp_all
 |c::cs,ds,a,h=>by
  rw[a99,show ds++c::cs=(ds++[c])++cs by simp];refine b3k cs (ds++[c]) _ ?_
  unfold b1H
  by_cases h0:(a1j c.1 l c).2=0
  ·have n1:((a1j c.1 l c).2 != 0)=false:=by simp_all
   rw[n1,cF];cases hq:(!a.2.1 || decide (a3Z (a1j c.1 l c).1 (l.length:Int)<a.1))with
   |true=>
    refine⟨fun _=>⟨c,by simp,h0,rfl,rfl⟩,fun d f k=>⟨rfl,?_⟩⟩;rcases mA.1 f with f|f;obtain⟨e,i⟩:=h.least d f k
    grind
    simp_all
   |false=>
    simp only[a75,Bool.not_eq_false',decide_eq_false_iff_not]at hq;refine⟨fun b=>?_,fun d f k=>?_⟩;obtain⟨d,f,g⟩:=h.one b
    grind
    rcases mA.1 f with f|f;exact h.least d f k;simp_all
  have n1:((a1j c.1 l c).2 != 0)=true:=by simp_all
  rw[n1,cT];refine⟨fun b=>?_,fun d f k=>?_⟩;obtain⟨d,f,g⟩:=h.one b
  grind
  rcases mA.1 f with f|f;exact h.least d f k;simp_all
theorem b6l(l:List Int)(cs:List Sub):BestIs l cs (b2m l cs):=
 b3k cs [] _ ⟨fun h=>(by grind),fun _ h=>(by grind)⟩
theorem b2p(h:1≤l.length)(g:l.length≤4096)(f:l.all a0A=true):a1j 1 l (cS 1 0 0 [] [])=(a1B (a0T 1 (cS 1 0 0 [] [])) (a2w l) (a1a l) z0 [],0):=by
 unfold a1j;rw[if_neg (fun q=>q ⟨h,g,.inr (.inl rfl)⟩),if_neg (by simp_all),if_neg (by simp),if_pos rfl]
theorem c2A(h:1≤l.length)(g:l.length≤4096)(f:l.all a0A=true)(d:List Int)(k:Int):(b2m l (a3t d k)).2.1=true:=
 ((b6l l (a3t d k)).least (cS 1 0 0 [] []) (by simp[a3t,a1S]) (by rw[show(cS 1 0 0 [] []).1=1 from rfl,b2p h g f])).1
def inW(x:Int)(v:Nat):Bool:=decide (x=0) || a1q x (v:Int)
theorem c4v{x:Int}{v:Nat}:a1q x (v:Int)=true↔1≤v∧v≤31∧-((2^(v-1):Nat):Int)≤x∧x≤((2^(v-1):Nat):Int)-1:=by
 by_cases hv:1≤v∧v≤31
 have e:((v:Int)-1)=((v-1:Nat):Int):=by omega
 have hp:2^(v-1)≤2^30:=a08 (by omega) (by omega);have a:=a17 (v-1);have g:A0n .i64 1 ((v-1:Nat):Int)=((2^(v-1):Nat):Int):=b8O (by omega);have f:A0n .i64 (-1) ((v-1:Nat):Int)=-((2^(v-1):Nat):Int):=by
  grind[IntKind.bits,A0n,a0D]
 have k:wrap .i64 (((2^(v-1):Nat):Int)-1)=((2^(v-1):Nat):Int)-1:=a0D (by omega);simp only[a1q,e,g,f,k,bA,dT];omega;constructor;intro h;simp[a1q]at h;omega;omega
theorem b3s:inW x v=true↔x=0∨(1≤v∧v≤31∧-((2^(v-1):Nat):Int)≤x∧x≤((2^(v-1):Nat):Int)-1):=by
 simp_all[inW,c4v]
theorem c4w{x:Int}{v w:Nat}(h:v≤w)(c:w≤31)(g:inW x v=true):inW x w=true:=by
 rw[b3s]at g⊢;rcases g with g|⟨f,k,a,b⟩;omega
 have:2^(v-1)≤2^(w-1):=a08 (by omega) (by omega)
 omega
theorem c4x{x:Int}(h:a0A x=true):inW x 31=true:=by
 have:=a1x.1 h
 rw[b3s];omega
theorem b6I{x:Int}(j:a0A x=true):∀(k w:Nat),w+k=32→w≤31→w≤a1A x k w∧a1A x k w≤31∧inW x (a1A x k w)=true∧∀v,w≤v→inW x v=true→v≤31→a1A x k w≤v
 |0,w,h,g=>absurd g (by omega)
 |k+1,w,h,g=>by
  by_cases hin:inW x w=true
  ·have:a1A x (k+1) w=w:=by
    unfold a1A;cases a:(x != 0)&&!a1q x (w:Int)with
    |false=>rfl
    |true=>
     simp at a;simp_all[inW]
   simp_all
  have a:((x != 0)&&!a1q x (w:Int))=true:=by
   simp_all[inW]
  have i:w≠31:=fun e=>hin (by simp_all[c4x]);have e:a1A x (k+1) w=a1A x k (w+1):=by
   show(bif (x != 0)&&!a1q x (w:Int)then a1A x k (w+1)else w)=_
   grind
  obtain⟨l,b,c,d⟩:=b6I j k (w+1) (by omega) (by omega);rw[e];refine⟨by omega,b,c,fun v hv f g=>d v ?_ f g⟩;rcases Nat.lt_or_ge w v with q|q;exact q
  have:v=w:=by omega
  exact absurd (this▸f) hin
theorem a8p:∀(l:List Int)(w:Nat),l.all a0A=true→w≤31→
  w≤l.foldl (fun w x=>a1A x (32-w) w) w∧l.foldl (fun w x=>a1A x (32-w) w) w≤31∧(∀x∈l,inW x (l.foldl (fun w x=>a1A x (32-w) w) w)=true)∧∀v,w≤v→v≤31→(∀x∈l,inW x v=true)→l.foldl (fun w x=>a1A x (32-w) w) w≤v
 | [],w,_,h31=>⟨a26 _,h31,by simp,fun v hv _ _=>hv⟩
 |x::l,w,h,h31=>by
  rw[a07,bA]at h;obtain⟨i,b,j,m⟩:=b6I h.1 (32-w) w (by omega) h31;obtain⟨c,a,d,e⟩:=a8p l (a1A x (32-w) w) h.2 b;simp only[a99];refine⟨by omega,a,fun y k=>?_,fun v hv f g=>?_⟩
  ·rcases mC.1 k with rfl|k
   all_goals grind[c4w]
  simp_all
theorem b9f{l:List Int}(h:l.all a0A=true):∀x∈l,inW x (a0G l)=true:=(a8p l 0 h (by omega)).2.2.1
theorem c0U(h:l.all a0A=true)(hv:v≤31)(g:∀x∈l,inW x v=true):a0G l≤v:=(a8p l 0 h (by omega)).2.2.2 v (by omega) hv g
theorem c4y{x:Int}{w v:Nat}(e:w≤30)(k:((2^w:Nat):Int) ∣ x)(h:inW x v=true):inW (A0o .i64 x (w:Int)) v=true:=by
 obtain⟨c,rfl⟩:=k;rw[c4m (by omega)];rw[b3s]at h⊢;have hp:(1:Int)≤((2^w:Nat):Int):=by have:=a17 w;omega
 generalize ((2^w:Nat):Int)=p at h hp;rcases h with h|⟨g,f,b,d⟩
 grind[Int.mul_eq_zero]
 refine .inr ⟨g,f,?_,?_⟩
 by_cases hc:0≤c
 omega;have a:=a46 (show 0≤p-1 by omega) (show 0≤-c by omega)
 grind
 by_cases hc:0≤c
 have a:=a46 (show 0≤p-1 by omega) hc
 grind
 omega
theorem c2B(k:l.length≤4096)(h:l.all a0A=true):a0G (a1a l)≤a0G l:=by
 obtain⟨-,e,c⟩:=a7x (show short l by unfold short;omega) h;obtain⟨-,f,-,-⟩:=a5D k h;have a:∀x∈l,((2^a2w l:Nat):Int) ∣ x:=by
  rcases c with⟨g,-⟩|⟨-,-,g,-⟩
  all_goals grind[a85]
 refine c0U f (a1F h) fun y b=>?_
 obtain⟨x,d,rfl⟩:=List.mem_map.1 b
 grind[c4y,b9f]
theorem c2C(a:1≤l.length)(h:l.length≤4096)(g:l.all a0A=true):a3Z (a1j 1 l (cS 1 0 0 [] [])).1 (l.length:Int)=((13+a0G (a1a l)*l.length:Nat):Int):=by
 have b:SmallS (cS 1 0 0 [] []):=a8C (by simp) (by simp);have d:=b2p a h g;obtain⟨a1,-,-,f⟩:=b6k b (k:=1) (l:=l) (by grind);obtain⟨i,c,-⟩:=c4u a1 (by rw[f];rfl);obtain⟨-,-,j,-⟩:=a5D h g;rw[c,d];have e:c2z (a1B (a0T 1 (cS 1 0 0 [] [])) (a2w l) (a1a l) z0 []) i=13+0+a0G (a1a l)*(a1a l).length+0:=rfl;simp_all
theorem c2D{l:List Int}(b:1≤l.length)(f:l.length≤4096)(a:l.all a0A=true)(g:b5i (a1a l)){k:Int}(d:0≤k)(t:k≤3):
  ∃s,a4s (l,k)=some (s,0)∧SmallS s∧a1O s (l.length:Int)=some l∧s=(b2m l (a3t (a1a l) k)).2.2∧a3Z s (l.length:Int)=(b2m l (a3t (a1a l) k)).1∧a3Z s (l.length:Int)≤((13+a0G l*l.length:Nat):Int)∧
   (∀c∈a3t (a1a l) k,(a1j c.1 l c).2=0→a3Z s (l.length:Int)≤a3Z (a1j c.1 l c).1 (l.length:Int)):=by
 obtain⟨-,p,u,-⟩:=a5D f a;have hb:=c5M b f a g d t;have j:=c2A b f a (a1a l) k;obtain⟨c,i,q,r,o⟩:=(b6l l (a3t (a1a l) k)).one j;have e:=b5j p (by omega) g k c i;obtain⟨m,-,-,n⟩:=b6k e q;rw[←r]at m n;have h:∀c∈a3t (a1a l) k,(a1j c.1 l c).2=0→a3Z (b2m l (a3t (a1a l) k)).2.2 (l.length:Int)≤a3Z (a1j c.1 l c).1 (l.length:Int):=fun c i d=>by
  rw[←o];exact((b6l l (a3t (a1a l) k)).least c i d).2
 refine⟨_,hb,m,n,rfl,o.symm,?_,h⟩;have hp:=h (cS 1 0 0 [] []) (by simp[a3t,a1S]) (by rw[show(cS 1 0 0 [] []).1=1 from rfl,b2p b f a]);rw[show(cS 1 0 0 [] []).1=1 from rfl,c2C b f a]at hp
 have:=a24 l.length (c2B f a)
 omega
@[reducible] def Rd:Type:=(List Int)×(Int×(Int×Unit))
def a1o(L:List Int):Prop:=∀b∈L,b=0∨b=1
def a9M(bs:List Int)(i:Nat):Bool:=(bs.getD (i / 8) 0).toNat.testBit (7-i%8)
theorem or8{x y:Nat}(h:x<256)(g:y<256):bits .u8 .or (x:Int) (y:Int)=((x ||| y:Nat):Int):=by
 show wrap .u8 (((a04 8 (x:Int)) ||| (a04 8 (y:Int))).toNat:Int)=_;rw[a23,a23,a70,a29,a29,a22 h,a22 g,a8k]
 have:x ||| y<2^8:=a87 h g
 omega
theorem d0F{b:Int}(hb:b=0∨b=1){r:Nat}(g:r<8):A0n .u8 b (7-(r:Int))=((b.toNat*2^(7-r):Nat):Int):=by
 have h:∀r:Fin 8,A0n .u8 0 (7-(r.1:Int))=((0*2^(7-r.1):Nat):Int)∧A0n .u8 1 (7-(r.1:Int))=((1*2^(7-r.1):Nat):Int):=by decide +kernel
 rcases hb with rfl|rfl;exact(h ⟨r,g⟩).1;exact(h ⟨r,g⟩).2
theorem c4z{x:Nat}(h:x<256){r:Nat}(g:r<8):bits .u8 .and (A0o .u8 (x:Int) (7-(r:Int))) 1=if x.testBit (7-r)then 1 else 0:=by
 have e:A0o .u8 (x:Int) (7-(r:Int))=((x / 2^(7-r):Nat):Int):=by
  show a78 (x:Int) (2^(min (7-(r:Int)).toNat 8))=_
  grind
 rw[e];have f:x / 2^(7-r)<256:=a37 (a32 _ _) h;show wrap .u8 (((a04 8 ((x / 2^(7-r):Nat):Int)) &&& (a04 8 1)).toNat:Int)=_
 grind[a04,a8k]
theorem c3v(L:List Int)(b:Int)(i:Nat):(L++[b]).getD i 0=if i=L.length then b else L.getD i 0:=by
 grind
theorem b9g(h:List Int)(k:Nat)(y:Int)(g:k<h.length)(j:Nat):(h.set k y).getD j 0=if j=k then y else h.getD j 0:=by
 grind
theorem b6J:∀(n:Nat)(L:List Int),L.length=n→a1o L→(∀j,0≤(wL L).1.getD j 0∧(wL L).1.getD j 0<256)∧∀i,a9M (wL L).1 i=decide (L.getD i 0=1)
 |0,L,h,_=>by
  simp_all[wL,a9M]
 |n+1,L,h,hL=>by
  obtain⟨g,b,rfl⟩:∃g b,L=g++[b]:=by
   rcases a51 L with rfl|⟨g,b,e⟩
   all_goals simp_all
  have hb:b=0∨b=1:=hL b (by simp);obtain⟨v,w⟩:=b6J n g (by simp_all) fun c D=>hL c (by grind);obtain⟨o,p⟩:=a4I g;rw[b6f];generalize wL g=wr at o p v w⊢;obtain⟨d,m,u⟩:=wr;have o:m=(g.length:Int):=o;have p:d.length=(g.length+7) / 8:=p;subst o;have e8:((g.length:Int) / 8).toNat=g.length / 8:=by rfl
  have r:(g.length:Int)%8=((g.length%8:Nat):Int):=by rfl
  obtain⟨f,a,y,z⟩:∃f:List Int,(if(g.length:Int)%8=0 then d++[0]else d)=f∧g.length / 8<f.length∧∀j,f.getD j 0=d.getD j 0:=by
   grind
  rw[r]at a;have C:g.length%8<8:=a40 _ (by simp);obtain⟨x,s⟩:∃x:Nat,d.getD (g.length / 8) 0=(x:Int):=a01 (v _).1;have k:x<256:=by
   grind
  have t:b.toNat*2^(7-g.length%8)<256:=by
   have hp:2^(7-g.length%8)≤2^7:=a08 (by simp) (by omega)
   grind
  have B:x ||| b.toNat*2^(7-g.length%8)<2^8:=a87 k t;have l:(b6e (d,(g.length:Int),u) b).1=f.set (g.length / 8) ((x ||| b.toNat*2^(7-g.length%8):Nat):Int):=by
   unfold b6e;simp only[a,e8,r];rw[z,s,d0F hb C,or8 k t]
  rw[l];refine⟨fun j=>?_,fun i=>?_⟩
  grind[b9g]
  ·unfold a9M;rw[b9g _ _ _ y,c3v];have q:=w i;unfold a9M at q
   by_cases hk:i / 8=g.length / 8
   ·rw[if_pos hk,tN,Nat.testBit_or];rw[hk,s,tN]at q;rw[q];have A:(b.toNat*2^(7-g.length%8)).testBit (7-i%8)=(decide (b=1)&&decide (i=g.length)):=by
     rcases hb with rfl|rfl
     all_goals grind
    grind
   grind
theorem c5O(h:a1o L):(∀j,0≤(wL L).1.getD j 0∧(wL L).1.getD j 0<256)∧∀i,a9M (wL L).1 i=decide (L.getD i 0=1):=b6J _ L rfl h
def rdr(P R:List Int):Rd:=((wL (P++R)).1,(P.length:Int),(0:Int),())
theorem b6m(k:a1o L)(o:L.length<1000000000)(l:i<L.length)(t:Int×(Int×Unit)):
  a1s (((wL L).1,t),(i:Int))=some (L.getD i 0,(wL L).1,t):=by
 obtain⟨d,e⟩:=c5O k;obtain⟨-,n⟩:=a4I L;have m:a25 (i:Int) 8=((i%8:Nat):Int):=by rfl
 have j:a54 (i:Int) 8=((i / 8:Nat):Int):=by rfl
 have b:wrap .i64 ((i / 8:Nat):Int)=((i / 8:Nat):Int):=a0D (by omega);have c:wrap .i64 (7-((i%8:Nat):Int))=7-((i%8:Nat):Int):=a0D (by omega);have g:decide (7-((i%8:Nat):Int)<0)=false:=by grind
 have hb:i / 8<(wL L).1.length:=by omega
 have f:(wL L).1[i / 8]=(wL L).1.getD (i / 8) 0:=by grind
 unfold a1s;simp only[m,j,b,c,g,a0B hb,oB,cF];obtain⟨x,a⟩:∃x:Nat,(wL L).1.getD (i / 8) 0=(x:Int):=a01 (d _).1;have h:x<256:=by grind
 rw[f,a,c4z h (a40 _ (by simp))]
 have:=e i
 unfold a9M at this;rw[a,tN]at this;rw[this];have hv:L.getD i 0=0∨L.getD i 0=1:=by
  have:L.getD i 0=L[i]:=by simp_all
  rw[this];exact k _ (a05 l)
 grind
theorem c3w(hv:v<18446744073709551616)(h:i≤64):a5B (v:Int) i=((v / 2^i%2:Nat):Int):=by
 unfold a5B;rw[a5p h];have g:v / 2^i<18446744073709551616:=a37 (a32 _ _) hv;show wrap .u8 (wrap .u64 (((a04 64 ((v / 2^i:Nat):Int)) &&& (a04 64 1)).toNat:Int))=_
 grind[a04,a0S,a8k]
theorem a1o.app{A B:List Int}(h:a1o A)(g:a1o B):a1o (A++B):=fun b hb=>(mA.1 hb).elim (h b) (g b)
theorem orU(k:a<18446744073709551616)(hb:b<2)(f:a%2=0):bits .u64 .or (a:Int) (b:Int)=((a+b:Nat):Int):=by
 show wrap .u64 (((a04 64 (a:Int) ||| a04 64 (b:Int)).toNat:Nat):Int)=_;have g:(a04 64 (a:Int)).toNat=a:=by simp_all
 have h:(a04 64 (b:Int)).toNat=b:=by grind
 rw[a70,g,h];have e:a ||| b=a+b:=by
  have:=a58 (i:=1) (b:=b) (by omega) (a / 2)
  grind
 grind[a0S]
theorem b9h{v:Nat}(hv:v<9223372036854775808){n:Nat}(q:n≤62):∀(m:Nat)(P R:List Int),m≤n→a1o (P++(pb (v:Int) m++R))→(P++(pb (v:Int) m++R)).length<1000000000→
  y0s a3r (((v / 2^m:Nat):Int),(n:Int),((n-m:Nat):Int),rdr P (pb (v:Int) m++R),())=some ((v:Int),rdr (P++pb (v:Int) m) R,())
 |0,P,R,_,_,_=>by
  grind[a0H,a3r,pb]
 |m+1,P,R,hm,hok,hlen=>by
  have l:decide (((n-(m+1):Nat):Int)<(n:Int))=true:=by grind
  have a:a1s (rdr P (pb (v:Int) (m+1)++R),(P.length:Int))=some (a5B v m,rdr P (pb (v:Int) (m+1)++R)):=by
   have:=b6m hok hlen (i:=P.length) (by simp[pb]) ((P.length:Int),(0:Int),())
   rw[show(P++(pb (v:Int) (m+1)++R)).getD P.length 0=a5B v m from by simp_all[pb]]at this;exact this
  have g:=c3w (v:=v) (by omega) (i:=m) (by omega);have b:v / 2^m%2<2:=a40 _ (by simp);have f:v / 2^(m+1)=v / 2^m / 2:=by grind[Nat.div_div_eq_div_mul]
  have p:v / 2^m≤v:=a32 _ _;have d:A0n .u64 ((v / 2^(m+1):Nat):Int) 1=((v / 2^(m+1)*2^1:Nat):Int):=a9p (o:=1) (by omega) (by omega);have h:bits .u64 .or ((v / 2^(m+1)*2^1:Nat):Int) (wrap .u64 (a5B (v:Int) m))=((v / 2^m:Nat):Int):=by
   rw[g,a0S (by omega),orU (by omega) b (by omega),f];omega
  have e:wrap .i64 (((n-(m+1):Nat):Int)+1)=((n-m:Nat):Int):=by grind[a0D]
  have j:wrap .i64 ((P.length:Int)+1)=(((P++[a5B v m]).length:Nat):Int):=by
   grind[a0D]
  have k:P++(pb (v:Int) (m+1)++R)=(P++[a5B v m])++(pb (v:Int) m++R):=by simp[pb]
  have c:((rdr P (pb (v:Int) (m+1)++R)).1,(((P++[a5B v m]).length:Nat):Int),(rdr P (pb (v:Int) (m+1)++R)).2.2)=rdr (P++[a5B v m]) (pb (v:Int) m++R):=by
   unfold rdr;simp_all
  rw[a0I (s':=(((v / 2^m:Nat):Int),(n:Int),((n-m:Nat):Int),rdr (P++[a5B v m]) (pb (v:Int) m++R),())) (by
   simp only[a3r,l,cT];rw[show(rdr P (pb (v:Int) (m+1)++R)).2.1=(P.length:Int)from rfl,a];simp only[oB,d,h,e];rw[show(rdr P (pb (v:Int) (m+1)++R)).2.1=(P.length:Int)from rfl,j,c])]
  rw[b9h hv q m _ _ (by omega) (by simp_all) (by simp_all)];simp[pb]
theorem c3x{n:Nat}(a:n≤62)(hv:v<2^n)(g:a1o (P++(pb (v:Int) n++R)))(k:(P++(pb (v:Int) n++R)).length<200000000):
  a0F (rdr P (pb (v:Int) n++R),(n:Int))=some ((v:Int),rdr (P++pb (v:Int) n) R):=by
 have h:v<9223372036854775808:=Nat.lt_of_lt_of_le hv (Nat.le_trans (a08 (by simp) a) (by simp));have f:=b9h h a n P R (by omega) g (by omega);rw[a66 hv,a56]at f;simp at f;obtain⟨-,e⟩:=a4I (P++(pb (v:Int) n++R));have j:=b0W (v:Int) n;have i:(P++(pb (v:Int) n++R)).length=P.length+n+R.length:=by grind
 have e8:wrap .i64 ((8:Int)*(((wL (P++(pb (v:Int) n++R))).1.length:Nat):Int))=(8:Int)*(((wL (P++(pb (v:Int) n++R))).1.length:Nat):Int):=a0D (by omega);have d:wrap .i64 ((8:Int)*(((wL (P++(pb (v:Int) n++R))).1.length:Nat):Int)-(P.length:Int))=(8:Int)*(((wL (P++(pb (v:Int) n++R))).1.length:Nat):Int)-(P.length:Int):=a0D (by omega);have b:decide ((n:Int)<0)=false:=by simp
 have c:decide ((n:Int) > 64)=false:=by grind
 have l:decide ((n:Int) > (8:Int)*(((wL (P++(pb (v:Int) n++R))).1.length:Nat):Int)-(P.length:Int))=false:=by
  grind
 unfold a0F a2g;rw[show(rdr P (pb (v:Int) n++R)).2.2.1=0 from rfl];simp only[bne_self_eq_false,cF,b,c,oB];rw[show(rdr P (pb (v:Int) n++R)).1=(wL (P++(pb (v:Int) n++R))).1 from rfl,show(rdr P (pb (v:Int) n++R)).2.1=(P.length:Int)from rfl,e8,d]
 grind
def b1q(n:Nat)(x:Int):Prop:=-((2^n:Nat):Int)≤2*x∧2*x<((2^n:Nat):Int)
theorem b6K{n:Nat}(f:n≤62)(x:Int):∃v:Nat,a0R x n=(v:Int)∧v<2^n∧(v:Int)=x%((2^n:Nat):Int):=by
 have k:wrap .u64 x=x%18446744073709551616:=by rfl
 obtain⟨y,h⟩:∃y:Nat,x%18446744073709551616=(y:Int):=a01 (Int.emod_nonneg _ (by simp));have g:y<18446744073709551616:=by omega
 refine⟨y%2^n,?_,a40 _ (a17 n),?_⟩;simp_all[a0R,b8J];rw[Int.natCast_emod,←h];refine Int.emod_emod_of_dvd x ?_
 have:(2:Nat)^n ∣ 2^64:=a55 2 (by omega)
 exact a19.2 this
theorem c3y{n:Nat}(q:n≤62)(t:b1q n x)(c:a1o (P++(pb (a0R x n) n++R)))(g:(P++(pb (a0R x n) n++R)).length<200000000):
  a0W (rdr P (pb (a0R x n) n++R),(n:Int))=some (x,rdr (P++pb (a0R x n) n) R):=by
 obtain⟨v,hv,b,f⟩:=b6K q x;rw[hv]at c g⊢;have a:=c3x q b c g;obtain⟨i,j⟩:=t;have y:=a17 n;have o:(v:Int)=x∧0≤x∨(v:Int)=x+((2^n:Nat):Int)∧x<0:=by
  by_cases h0:0≤x
  exact .inl ⟨by rw[f];exact a88 h0 (by omega),h0⟩;refine .inr ⟨?_,by omega⟩;rw[f,←Int.add_emod_right];exact a88 (by omega) (by omega)
 unfold a0W;simp[a];rw[show(rdr (P++pb (v:Int) n) R).2.2.1=0 from rfl]
 simp
 cases n with
 |zero=>
  grind
 |succ k=>
  have l:(((k+1:Nat):Int)==0)=false:=by rfl
  have s:wrap .i64 ((64:Int)-((k+1:Nat):Int))=((64-(k+1):Nat):Int):=by grind[a0D]
  have r:decide (((64-(k+1):Nat):Int)<0)=false:=by simp
  simp only[l,cF,s,r];have p:64-(k+1)+(k+1)=64:=by omega
  generalize 64-(k+1)=m at p⊢;have u:2^m*2^(k+1)=18446744073709551616:=by rw[←Nat.pow_add,p]
  have d:((2^m:Nat):Int)*((2^(k+1):Nat):Int)=18446744073709551616:=by omega
  have hp:=a17 m;have w:A0n .u64 (v:Int) (m:Int)=(v:Int)*((2^m:Nat):Int):=by
   show wrap .u64 ((v:Int)*2^(min (m:Int).toNat 64))=_;rw[tN,a69 (by omega)];have e:(2:Int)^m=((2^m:Nat):Int):=by simp
   rw[e];refine a0S ⟨a46 (by omega) (by omega),?_⟩
   have:v*2^m<2^(k+1)*2^m:=Nat.mul_lt_mul_of_pos_right b hp
   grind
  have b1:-9223372036854775808≤x*((2^m:Nat):Int):=by
   have:=Int.mul_le_mul_of_nonneg_right i (show(0:Int)≤((2^m:Nat):Int)by omega)
   grind
  have b2:x*((2^m:Nat):Int)<9223372036854775808:=by
   have:=Int.mul_lt_mul_of_pos_right j (show(0:Int)<((2^m:Nat):Int)by omega)
   grind
  have A:wrap .i64 ((v:Int)*((2^m:Nat):Int))=x*((2^m:Nat):Int):=by
   rcases o with⟨h,-⟩|⟨h,-⟩
   grind[a0D]
   rw[h,Int.add_mul,Int.mul_comm ((2^(k+1):Nat):Int),d]
   grind[wrap,IntKind.bits,IntKind.signed]
  have z:A0o .i64 (x*((2^m:Nat):Int)) (m:Int)=x:=by
   show a78 (x*((2^m:Nat):Int)) (2^(min (m:Int).toNat 64))=x;rw[tN,a69 (by omega)]
   grind[Int.mul_ediv_cancel]
  simp_all
theorem c2E(P:List Int)(n:Nat)(R:List Int){c:Nat}(h:c<n):(P++(a00 n 0++1::R)).getD (P.length+c) 0=0:=by
 grind
theorem c4A(P:List Int)(n:Nat)(R:List Int):(P++(a00 n 0++1::R)).getD (P.length+n) 0=1:=by
 simp
theorem c3z{n lm:Nat}(x:n≤lm)(t:lm<1000000)(o:a1o (P++(a00 n 0++1::R)))(p:(P++(a00 n 0++1::R)).length<200000000):
  a2E (rdr P (a00 n 0++1::R),(lm:Int))=some ((n:Int),rdr (P++(a00 n 0++[1])) R):=by
 obtain⟨-,r⟩:=a4I (P++(a00 n 0++1::R));have s:(P++(a00 n 0++1::R)).length=P.length+n+1+R.length:=by grind
 have e8:wrap .i64 ((8:Int)*(((wL (P++(a00 n 0++1::R))).1.length:Nat):Int))=(8:Int)*(((wL (P++(a00 n 0++1::R))).1.length:Nat):Int):=a0D (by omega);have g:∀c,c≤n→a1s (rdr P (a00 n 0++1::R),((P.length:Int)+(c:Int)))=some (if c=n then 1 else 0,rdr P (a00 n 0++1::R)):=fun c l=>by
  have:=b6m o (by omega) (i:=P.length+c) (by omega) ((P.length:Int),(0:Int),())
  rw[b00]at this;refine this.trans ?_
  by_cases e:c=n
  subst e;rw[c4A,if_pos rfl];rfl;rw[c2E P n R (by omega),if_neg e];rfl
 have h:∀c:Nat,c≤n→(((P.length:Int)+(c:Int))==(8:Int)*(((wL (P++(a00 n 0++1::R))).1.length:Nat):Int))=false:=fun c l=>by
  grind
 have j:wrap .i64 ((P.length:Int)+(n:Int)+1)=(((P++(a00 n 0++[1])).length:Nat):Int):=by
  rw[a0D (by omega)];grind
 have a:P++(a00 n 0++1::R)=(P++(a00 n 0++[1]))++R:=by simp
 have v:((rdr P (a00 n 0++1::R)).1,(((P++(a00 n 0++[1])).length:Nat):Int),(rdr P (a00 n 0++1::R)).2.2)=rdr (P++(a00 n 0++[1])) R:=by
  unfold rdr;simp
 have k:(rdr P (a00 n 0++1::R)).1=(wL (P++(a00 n 0++1::R))).1:=rfl;have m:=a2m (f:=a2Q) (fun c:Nat=>((lm:Int),(c:Int),(P.length:Int)+(c:Int),rdr P (a00 n 0++1::R),())) n (b:=((n:Int),rdr (P++(a00 n 0++[1])) R,()))
  (fun c l=>by
   have d:((0:Int)==1)=false:=rfl;have q:(((c:Nat):Int)==(lm:Int))=false:=by grind
   have w:wrap .i64 ((c:Int)+1)=((c+1:Nat):Int):=a0C (by omega);have w2:wrap .i64 ((P.length:Int)+(c:Int)+1)=(P.length:Int)+((c+1:Nat):Int):=by rw[a0D (by omega)];rfl
   simp only[a2Q,k,e8,h c (by omega),cF,g c (by omega),oB,if_neg (Nat.ne_of_lt l),d,q,w,w2])
  (by
   have d:((1:Int)==1)=true:=rfl;simp only[a2Q,k,e8,h n (a26 _),cF,g n (a26 _),oB,if_pos rfl,d,cT,j]
   grind)
 unfold a2E;rw[show(rdr P (a00 n 0++1::R)).2.2.1=0 from rfl,show(rdr P (a00 n 0++1::R)).2.1=(P.length:Int)from rfl];have u:v0r (lm:Int) 0=(lm:Int):=by
  rfl
 grind
def OkR(P R:List Int):Prop:=a1o (P++R)∧(P++R).length<200000000
theorem OkR.shift{A:List Int}(h:OkR P (A++R)):OkR (P++A) R:=by
 unfold OkR at h⊢;simp_all
theorem a2X{n:Nat}(g:n≤62)(hv:v<2^n)(h:OkR P (pb (v:Int) n++R)):a0F (rdr P (pb (v:Int) n++R),(n:Int))=some ((v:Int),rdr (P++pb (v:Int) n) R):=c3x g hv h.1 h.2
theorem a7T{n:Nat}(f:n≤62)(g:b1q n x)(h:OkR P (pb (a0R x n) n++R)):a0W (rdr P (pb (a0R x n) n++R),(n:Int))=some (x,rdr (P++pb (a0R x n) n) R):=c3y f g h.1 h.2
def unB(n:Nat):List Int:=a00 n 0++[1]
theorem b9i{n lm:Nat}(f:n≤lm)(g:lm<1000000)(h:OkR P (unB n++R)):a2E (rdr P (unB n++R),(lm:Int))=some ((n:Int),rdr (P++unB n) R):=by
 have e:unB n++R=a00 n 0++1::R:=by simp[unB]
 rw[e]at h⊢;exact c3z f g h.1 h.2
theorem a3S{v n:Nat}(h:n≤63)(hv:v<2^n)(L:List Int):a0L (v:Int) n L=L++pb (v:Int) n:=by
 grind[a0L,a5p,a66]
def a7J(k:Nat)(x:Int):List Int:=
 if a0N x / 2^k<32 then unB (a0N x / 2^k)++pb ((a0N x%2^k:Nat):Int) k else unB 32++pb ((a0N x:Nat):Int) 32
theorem c3A{k:Nat}(f:k≤25)(g:a0A x=true)(L:List Int):a5C k x L=L++a7J k x:=by
 have h:=a7O g;unfold a5C a7J;split;rw[a3S (by omega) (a40 _ (a17 k))];simp[unL,unB]
 grind[a3S,unL,unB]
theorem c3B(f:a0A x=true):a5U ((a0N x:Nat):Int)=some x:=by
 have b:=a7O f;have d:=a1x.1 f;have c:a25 ((a0N x:Nat):Int) 2=((a0N x:Nat):Int)%2:=a42 (by omega);have a:a54 ((a0N x:Nat):Int) 2=((a0N x:Nat):Int) / 2:=a60 (by omega);have k:decide (((a0N x:Nat):Int)≥2147483648)=false:=by grind
 unfold a5U;simp only[k,cF,c,a]
 by_cases h0:0≤x
 have e:((a0N x:Nat):Int)=2*x:=by unfold a0N;grind
 rw[e];have h:((2*x)%2==(0:Int))=true:=by simp
 have g:2*x / 2=x:=by omega
 simp only[h,cT,g]
 grind[a0S,a0D]
 have e:((a0N x:Nat):Int)=-2*x-1:=by unfold a0N;grind
 rw[e];have h:((-2*x-1)%2==(0:Int))=false:=by grind
 have g:(-2*x-1) / 2=-x-1:=by omega
 simp only[h,cF,g]
 grind[a0S,a0D]
theorem c0V{k:Nat}(r:k≤25)(c:a0A x=true)(h:OkR P (a7J k x++R)):a9A (rdr P (a7J k x++R),(k:Int))=some (x,(0:Int),rdr (P++a7J k x) R):=by
 have m:=a7O c;have b:=c3B c;unfold a9A a0K;unfold a7J at h⊢;have s:∀A B:List Int,(rdr A B).2.2.1=0:=fun _ _=>rfl;split;rename_i g;rw[if_pos g,aA]at h;have j:=b9i (n:=a0N x / 2^k) (lm:=32) (by omega) (by omega) h;have l:=a2X (n:=k) (v:=a0N x%2^k) (by omega) (a40 _ (a17 k)) h.shift;have i:wrap .u64 ((a0N x / 2^k:Nat):Int)=((a0N x / 2^k:Nat):Int):=a2W (by omega);have d:decide (((a0N x / 2^k:Nat):Int)<32)=true:=by grind
 have e:decide ((k:Int)<0)=false:=by simp
 have f:a0N x / 2^k*2^k≤a0N x:=a76 _ _;have o:A0n .u64 ((a0N x / 2^k:Nat):Int) (k:Int)=((a0N x / 2^k*2^k:Nat):Int):=a9p (by omega) (by omega);have a:wrap .u64 (((a0N x / 2^k*2^k:Nat):Int)+((a0N x%2^k:Nat):Int))=((a0N x:Nat):Int):=by
  rw[←b00,Nat.div_add_mod',a0S (by omega)]
 grind
 rename_i g;rw[if_neg g,aA]at h;have j:=b9i (n:=32) (lm:=32) (by omega) (by omega) h;have l:=a2X (n:=32) (v:=a0N x) (by omega) (by omega) h.shift;have i:wrap .u64 (32:Int)=32:=a0S (by omega);have d:decide ((32:Int)<32)=false:=by simp
 have e:decide ((k:Int)<0)=false:=by simp
 have q:decide (((a0N x:Nat):Int)≥2147483648)=false:=by grind
 have p:A0o .u64 ((a0N x:Nat):Int) (k:Int)=((a0N x / 2^k:Nat):Int):=a5p (by omega)
 grind
def a2Y(k:Nat)(l:List Int):List Int:=l.flatMap (a7J k)
theorem b5k{k:Nat}(g:k≤25):∀(l L:List Int),l.all a0A=true→a3Q k l L=L++a2Y k l
 | [],L,_=>by simp[a3Q,a2Y]
 |x::l,L,h=>by
  simp only[a07,bA]at h;show a3Q k l (a5C k x L)=_;rw[b5k g l _ h.2,c3A g h.1];simp[a2Y]
theorem b2H{k:Nat}(g:k≤25){N:Nat}(f:N<1000000):∀(l done P R:List Int),l.all a0A=true→done.length+l.length=N→OkR P (a2Y k l++R)→
  y0s a7D ((k:Int),(N:Int),(done.length:Int),done,rdr P (a2Y k l++R),())=some (Sum.inl (done++l,rdr (P++a2Y k l) R,()))
 | [],done,P,R,_,hl,_=>by
  have:done.length=N:=by omega
  subst this;have d:decide ((done.length:Int)<(done.length:Int))=false:=by simp
  simp_all[a0H,a7D,a2Y]
 |x::l,done,P,R,h,hl,hok=>by
  simp only[a07,bA]at h;rw[lC]at hl;have e:a2Y k (x::l)++R=a7J k x++(a2Y k l++R):=by simp[a2Y]
  rw[e]at hok⊢;have d:decide ((done.length:Int)<(N:Int))=true:=by grind
  have b:=c0V g h.1 hok;have a:lim (a36 done+1)=true:=a1c (by omega);have c:wrap .i64 ((done.length:Int)+1)=(((done++[x]).length:Nat):Int):=by grind[a0D]
  rw[a0I (s':=((k:Int),(N:Int),(((done++[x]).length:Nat):Int),done++[x],rdr (P++a7J k x) (a2Y k l++R),())) (by
   simp_all[a7D])]
  rw[b2H g f l (done++[x]) (P++a7J k x) R h.2 (by grind) hok.shift];simp[a2Y]
theorem c0W{k:Nat}(a:k≤25)(h:l.all a0A=true)(b:l.length<1000000)(f:OkR P (a2Y k l++R)):
  a9B (rdr P (a2Y k l++R),(k:Int),((l.length:Nat):Int))=some (l,(0:Int),rdr (P++a2Y k l) R):=by
 have hp:a1D (k:Int)=some true:=by
  grind[a1D]
 have c:decide (((l.length:Nat):Int)<0)=false:=by simp
 have d:decide (((l.length:Nat):Int) > 4194304)=false:=by grind
 have e:∀A B:List Int,(rdr A B).2.2.1=0:=fun _ _=>rfl;have g:=b2H a b l [] P R h (by simp) f;simp at g;unfold a9B a0K
 grind
theorem c4B(h:inW x v=true):b1q v x:=by
 have hp:=a17 v;rcases b3s.1 h with rfl|⟨g,-,f,k⟩;exact⟨by omega,by omega⟩;have e:2^v=2^(v-1)*2:=by rw[←a84];simp_all
 unfold b1q;omega
theorem b2q(h:l.all a0A=true):∀x∈l,b1q (a0G l) x:=fun x g=>c4B (b9f h x g)
def sB(n:Nat)(l:List Int):List Int:=l.flatMap fun x=>pb (a0R x n) n
theorem a7U{n:Nat}(g:n≤62):∀(l L:List Int),a1v n l L=L++sB n l
 | [],L=>by simp[a1v,sB]
 |x::l,L=>by
  show a1v n l (a0L (a0R x n) n L)=_;obtain⟨v,hv,h,-⟩:=b6K g x;rw[a7U g l,hv,a3S (by omega) h,←hv];simp[sB]
theorem b6n(n:Nat)(x:Int)(l R:List Int):sB n (x::l)++R=pb (a0R x n) n++(sB n l++R):=by simp[sB]
theorem b1I{k:Int}{n:Nat}(g:n≤62){N:Nat}(f:N<1000000):∀(l done P R:List Int),(∀x∈l,b1q n x)→done.length+l.length=N→OkR P (sB n l++R)→
  y0s a7e (k,(n:Int),(N:Int),(done.length:Int),done,rdr P (sB n l++R),())=some (k,(n:Int),done++l,rdr (P++sB n l) R,())
 | [],done,P,R,_,hl,_=>by
  have:done.length=N:=by omega
  subst this;have d:decide ((done.length:Int)<(done.length:Int))=false:=by simp
  simp_all[a0H,a7e,sB]
 |x::l,done,P,R,h,hl,hok=>by
  rw[lC]at hl;rw[b6n]at hok⊢;have d:decide ((done.length:Int)<(N:Int))=true:=by grind
  have b:=a7T g (h x (by simp)) hok;have a:lim (a36 done+1)=true:=a1c (by omega);have c:wrap .i64 ((done.length:Int)+1)=(((done++[x]).length:Nat):Int):=by grind[a0D]
  rw[a0I (s':=(k,(n:Int),(N:Int),(((done++[x]).length:Nat):Int),done++[x],rdr (P++pb (a0R x n) n) (sB n l++R),())) (by
   simp_all[a7e])]
  rw[b1I g f l (done++[x]) _ R (fun y e=>h y (by grind)) (by grind) hok.shift];simp[sB]
def a8q(k:Int)(part:List Int):List Int:=if k=31 then pb 31 5++(pb ((a0G part:Nat):Int) 5++sB (a0G part) part)else pb k 5++a2Y k.toNat part
theorem c3C(h:kB k=true)(g:part.all a0A=true)(L:List Int):a7H k part L=L++a8q k part:=by
 have f:=a1F g;simp[kB]at h;obtain⟨K,rfl⟩:=a01 (show 0≤k by omega)
 grind[a7H,a8q,a2W,a3S,a7U,b5k]
theorem b9j(o:kB k=true)(c:part.all a0A=true)(b:part.length<1000000)(h:OkR P (a8q k part++R)):
  a8X (rdr P (a8q k part++R),((part.length:Nat):Int))=some (k,part,(0:Int),rdr (P++a8q k part) R):=by
 have p:=a1F c;have e:∀A B:List Int,(rdr A B).2.2.1=0:=fun _ _=>rfl;simp[kB]at o;obtain⟨K,rfl⟩:=a01 (show 0≤k by omega);unfold a8X a0K;unfold a8q at h⊢;split;rename_i f;rw[if_pos f,aA,aA]at h;rw[aA,aA];obtain rfl:K=31:=by omega
 have d:a0F (rdr P (pb 31 5++(pb ((a0G part:Nat):Int) 5++(sB (a0G part) part++R))),(5:Int))=_:=a2X (v:=31) (n:=5) (by omega) (by omega) h;have g:=h.shift;have l:a0F (rdr (P++pb 31 5) (pb ((a0G part:Nat):Int) 5++(sB (a0G part) part++R)),(5:Int))=_:=a2X (v:=a0G part) (n:=5) (by omega) (by omega) g;have a:=b1I (k:=31) (n:=a0G part) (by omega) b part [] _ R (b2q c) (by simp) g.shift;simp only[a21,nZ,a16,a30]at a;have i:wrap .i64 ((31:Nat):Int)=31:=by rfl
 have w2:wrap .i64 ((a0G part:Nat):Int)=((a0G part:Nat):Int):=a0D (by omega);have j:decide ((31:Int)≤25)=false:=by rfl
 have q:((31:Int) != 31)=false:=by rfl
 rw[d];simp only[oB,e,bne_self_eq_false,cF,i,j]
 erw[l]
 simp only[oB,w2]
 erw[a]
 simp only[oB,e,bne_self_eq_false,cF,a1R (show short part from b)]
 simp
 rename_i f;rw[if_neg f,aA]at h;rw[aA];have m:K≤25:=by omega
 have d:a0F (rdr P (pb (K:Int) 5++(a2Y ((K:Int).toNat) part++R)),(5:Int))=_:=a2X (v:=K) (n:=5) (by omega) (by omega) h;have r:=c0W m c b h.shift;have i:wrap .i64 (K:Int)=(K:Int):=a0D (by omega);simp_all
def a1C:List Nat→List Int→List Int→List Int
 |z::zs,k::ks,l=>a8q k (l.take z)++a1C zs ks (l.drop z)
 |_,_,_=>[]
theorem b6L(h:l.all a0A=true)(z:Nat):(l.take z).all a0A=true:=lA.2 fun x g=>lA.1 h x (a34 g)
theorem b6M(h:l.all a0A=true)(z:Nat):(l.drop z).all a0A=true:=lA.2 fun x g=>lA.1 h x (a35 g)
theorem b5l:∀(zs:List Nat)(ks l L:List Int),ks.all kB=true→l.all a0A=true→a3R zs ks l L=L++a1C zs ks l
 |z::zs,k::ks,l,L,hk,hw=>by
  simp only[a07,bA]at hk;simp only[a3R,a1C];rw[b5l zs ks _ _ hk.2 (b6M hw z),c3C hk.1 (b6L hw z)]
  simp
 | [],_,_,L,_,_=>by simp[a3R,a1C]
 |_::_,[],_,L,_,_=>by simp[a3R,a1C]
theorem c3D(h:List Nat)(z:Nat)(g:List Nat):(a1h (h++z::g)).getD h.length 0=(z:Int):=by
 simp_all[a1h]
theorem b1J{o:Int}{z0:Prt}:∀(zs:List Nat)(ks l dk acc P R:List Int)(dz:List Nat),ks.length=zs.length→ks.all kB=true→zs.sum=l.length→l.all a0A=true→
  dk.length=dz.length→(dz++zs).length≤256→acc.length+l.length≤10000→OkR P (a1C zs ks l++R)→
  y0s a7f (((a1h (dz++zs)).length:Int),(dz.length:Int),acc,a1h (dz++zs),rdr P (a1C zs ks l++R),z0,(o,dk,()),()) =
   some (Sum.inl (acc++l,z0,(o,dk++ks,()),rdr (P++a1C zs ks l) R,()))
 | [],ks,l,dk,acc,P,R,dz,hk,_,hs,_,_,_,_,_=>by
  obtain rfl:ks=[]:=a44.1 hk;obtain rfl:l=[]:=a44.1 (by simp_all);have d:decide ((dz.length:Int)<((a1h (dz++[])).length:Int))=false:=by simp[a1n]
  rw[a0H (b:=Sum.inl (acc,z0,(o,dk,()),rdr P R,())) (by simp only[a7f,d,cF];rfl)];simp[a1C]
 |z::zs,[],_,_,_,_,_,_,hk,_,_,_,_,_,_,_=>by simp_all
 |z::zs,k::ks,l,dk,acc,P,R,dz,hk,hkb,hs,hw,hd,h256,hacc,hok=>by
  simp only[a07,bA]at hkb;rw[a61]at hs;have p:z≤l.length:=by omega
  have a:(l.take z).length=z:=by simp_all
  have e:a1C (z::zs) (k::ks) l++R=a8q k (l.take z)++(a1C zs ks (l.drop z)++R):=by simp[a1C]
  rw[e]at hok⊢;have j:(a1h (dz++z::zs)).length=dz.length+1+zs.length:=by grind[a1n]
  have d:decide ((dz.length:Int)<((a1h (dz++z::zs)).length:Int))=true:=by grind
  have m:decide ((0:Int)≤(dz.length:Int))=true:=by simp
  have h:=b9j hkb.1 (b6L hw z) (by omega) hok;rw[a]at h;have i:((0:Int) != 0)=false:=rfl;rw[lN,lC]at h256;have g:lim (a36 dk+1)=true:=a1c (by omega);have f:lim (a36 acc+a36 (l.take z))=true:=a1c (by omega);have c:wrap .i64 ((dz.length:Int)+1)=(((dz++[z]).length:Nat):Int):=by grind[a0D]
  have n:dz++z::zs=(dz++[z])++zs:=by simp
  rw[a0I (s':=(((a1h ((dz++[z])++zs)).length:Int),(((dz++[z]).length:Nat):Int),acc++l.take z,a1h ((dz++[z])++zs),rdr (P++a8q k (l.take z)) (a1C zs ks (l.drop z)++R),z0,(o,dk++[k],()),())) (by
   simp only[a7f,d,m,a03,cT,tN,c3D,h,oB,i,cF,g,f,c,a06]
   simp)]
  rw[b1J zs ks (l.drop z) (dk++[k]) (acc++l.take z) _ R (dz++[z]) (by grind) hkb.2 (by grind) (b6M hw z) (by grind) (by grind) (by grind) hok.shift];simp[a1C]
def a5q(p:Prt)(zn:List Nat)(l:List Int):List Int:=pb p.1 4++a1C zn p.2.1 l
theorem b7L(h:PartsOk p n warm l zn)(L:List Int):a3v p zn l L=L++a5q p zn l:=by
 obtain⟨o,ks,u⟩:=p;have g:=h.order;simp only at g;obtain⟨O,rfl⟩:=a01 g.1;unfold a3v a5q;simp only;rw[a2W (by omega),a3S (n:=4) (by omega) (by omega),b5l _ _ _ _ h.all h.wide]
 simp
theorem b9k(h:PartsOk p n warm l zn)(g:OkR P (a5q p zn l++R)):
  a8Y (rdr P (a5q p zn l++R),n,warm)=some (p,l,(0:Int),rdr (P++a5q p zn l) R):=by
 obtain⟨o,ks,u⟩:=p;have c:=h.order;have m:=h.short;have b:=h.len;simp only at c;obtain⟨O,rfl⟩:=a01 c.1;have i:∀A B:List Int,(rdr A B).2.2.1=0:=fun _ _=>rfl;have f:=h.may;unfold a4A at f;simp only[bA,a33,beq_eq_false_iff_ne]at f;have d:=h.sizes;simp only at d;have a:(((a1h zn).length:Int)==0)=false:=by
  grind
 unfold a5q at g⊢;simp only at g⊢;rw[aA]at g⊢;have e:a0F (rdr P (pb (O:Int) 4++(a1C zn ks l++R)),(4:Int))=_:=a2X (v:=O) (n:=4) (by omega) (by omega) g;have j:wrap .i64 (O:Int)=(O:Int):=a0D (by omega);have k:=b1J (o:=(O:Int)) (z0:=((0:Int),([]:List Int),())) zn ks l [] [] _ R [] h.ks h.all h.sum h.wide rfl (by simp_all) (by grind) g.shift;simp only[a21,nZ,a16,a30]at k;unfold a8Y a0K;simp[a9Y,h.row];rw[e];simp[i,j,a1H,d,a];simp_all
def a5X(s:Sub):List Int:=
 pb ((s.2.2.2.2.2.1.length-1:Nat):Int) 5++(pb s.2.2.2.1 4++(pb ((a0G s.2.2.2.2.2.1:Nat):Int) 5++sB (a0G s.2.2.2.2.2.1) s.2.2.2.2.2.1))
theorem b6N{t:Int}(h:a7M c t=true):1≤c.length∧c.length≤32∧0≤t∧t≤15∧c.all a0A=true:=by
 simp only[a7M,bA,dT]at h;obtain⟨g,f,k,a,b⟩:=h;refine⟨g,f,k,a,lA.2 fun x d=>?_⟩
 have:=lA.1 b x d
 simp[b4L]at this;rw[a1x];omega
theorem b5m{s:Sub}(h:a7M s.2.2.2.2.2.1 s.2.2.2.1=true)(L:List Int):a5m s L=L++a5X s:=by
 obtain⟨a,b,g,d,f⟩:=b6N h;have k:=a1F f;unfold a5m a5X;generalize s.2.2.2.2.2.1=c at *;generalize s.2.2.2.1=t at *;obtain⟨T,rfl⟩:=a01 g
 grind[a0D,a0S,a7U,a3S]
def b2r(s:Sub)(c:List Int):Sub:=(s.1,s.2.1,s.2.2.1,s.2.2.2.1,s.2.2.2.2.1,c,s.2.2.2.2.2.2)
def b6o(s:Sub)(t:Int):Sub:=(s.1,s.2.1,s.2.2.1,t,s.2.2.2.2)
theorem b5n{n:Nat}(g:n≤62){N:Nat}(f:N<1000000)(s:Sub):∀(l done P R:List Int),(∀x∈l,b1q n x)→done.length+l.length=N→OkR P (sB n l++R)→
  y0s a4Q ((n:Int),(N:Int),(done.length:Int),rdr P (sB n l++R),b2r s done,())=some ((n:Int),b2r s (done++l),rdr (P++sB n l) R,())
 | [],done,P,R,_,hl,_=>by
  have:done.length=N:=by omega
  subst this;have d:decide ((done.length:Int)<(done.length:Int))=false:=by simp
  simp_all[a0H,a4Q,sB]
 |x::l,done,P,R,h,hl,hok=>by
  rw[lC]at hl;rw[b6n]at hok⊢;have d:decide ((done.length:Int)<(N:Int))=true:=by grind
  have a:=a7T g (h x (by simp)) hok;have k:lim (a36 done+1)=true:=a1c (by omega);have b:wrap .i64 ((done.length:Int)+1)=(((done++[x]).length:Nat):Int):=by grind[a0D]
  rw[a0I (s':=((n:Int),(N:Int),(((done++[x]).length:Nat):Int),rdr (P++pb (a0R x n) n) (sB n l++R),b2r s (done++[x]),())) (by
   simp_all[a4Q,b2r])]
  rw[b5n g f s l (done++[x]) _ R (fun y c=>h y (by grind)) (by grind) hok.shift];simp[sB]
theorem b3O{s0:Sub}(h:a7M s.2.2.2.2.2.1 s.2.2.2.1=true)(r:s0.2.2.2.2.2.1=[])(g:OkR P (a5X s++R)):
  a7d (rdr P (a5X s++R),s0)=some (true,rdr (P++a5X s) R,b2r (b6o s0 s.2.2.2.1) s.2.2.2.2.2.1):=by
 obtain⟨u,w,l,x,d⟩:=b6N h;have m:=a1F d;unfold a5X at g⊢;generalize s.2.2.2.2.2.1=c at *;generalize s.2.2.2.1=t at *;obtain⟨T,rfl⟩:=a01 l;simp at g⊢;have e:a0F (rdr P (pb ((c.length-1:Nat):Int) 5++(pb (T:Int) 4++(pb ((a0G c:Nat):Int) 5++(sB (a0G c) c++R)))),(5:Int))=_:=a2X (v:=c.length-1) (n:=5) (by omega) (by omega) g;have f:=g.shift;have i:a0F (rdr (P++pb ((c.length-1:Nat):Int) 5) (pb (T:Int) 4++(pb ((a0G c:Nat):Int) 5++(sB (a0G c) c++R))),(4:Int))=_:=a2X (v:=T) (n:=4) (by omega) (by omega) f;have k:=f.shift;have j:a0F (rdr (P++pb ((c.length-1:Nat):Int) 5++pb (T:Int) 4) (pb ((a0G c:Nat):Int) 5++(sB (a0G c) c++R)),(5:Int))=_:=a2X (v:=a0G c) (n:=5) (by omega) (by omega) k;have a:=b5n (n:=a0G c) (by omega) (N:=c.length) (by omega) (b6o s0 (T:Int)) c [] _ R (b2q d) (by simp) k.shift;simp only[a21,nZ,a16,a30]at a;have o:wrap .i64 ((c.length-1:Nat):Int)=((c.length-1:Nat):Int):=a0D (by omega);have w2:wrap .i64 (((c.length-1:Nat):Int)+1)=(c.length:Int):=by grind[a0D]
 have p:wrap .i64 (T:Int)=(T:Int):=a0D (by omega);have q:wrap .i64 ((a0G c:Nat):Int)=((a0G c:Nat):Int):=a0D (by omega);have b:((s0.1,s0.2.1,s0.2.2.1,(T:Int),s0.2.2.2.2):Sub)=b2r (b6o s0 (T:Int)) []:=by
  grind[b2r,b6o]
 unfold a7d;rw[e]
 simp
 rw[i];simp only[oB];rw[j];simp only[oB,o,w2,p,q]
 erw[b,a]
 simp only[oB];rw[show(b2r (b6o s0 (T:Int)) c).2.2.2.2.2.1=c from rfl,a1R (show short c by unfold short;omega)]
 simp
def a6I(st:List Stg):List Int:=st.flatMap fun g=>pb (g.1-1) 5++pb g.2.1 4
theorem b3P{g:Stg}(h:Ab.stageB g=true):1≤g.1∧g.1≤32∧0≤g.2.1∧g.2.1≤8:=by
 simp_all[Ab.stageB]
theorem b3Q:∀(st:List Stg)(L:List Int),st.all Ab.stageB=true→a2I st L=L++a6I st
 | [],L,_=>by simp[a2I,a6I]
 |g::st,L,h=>by
  simp only[a07,bA]at h;obtain⟨k,c,f,d⟩:=b3P h.1;show a2I st (a5l g L)=_;rw[b3Q st _ h.2];obtain⟨a,b,u⟩:=g;simp only at k c f d;obtain⟨B,rfl⟩:=a01 f;obtain⟨A,e⟩:=a01 (show 0≤a-1 by omega)
  grind[a5l,b0C,a2W,a3S,a6I]
def a4a(s:Sub):List Int:=
 if s.1=2 then pb s.2.2.1 3
 else if s.1=3 then a5X s
 else if s.1=4 then pb (s.2.2.2.2.1-1) 10++(sB 8 s.2.2.2.2.2.2.1++a5X s)
 else if s.1=5 then pb ((s.2.2.2.2.2.2.2.1.length:Nat):Int) 2++a6I s.2.2.2.2.2.2.2.1
 else[]
theorem b6O(h:a3j s.1 s n)(L:List Int):a2b s L=L++a4a s:=by
 unfold a2b a4a;rcases h with k|k|⟨k,g,f,-⟩|⟨k,g,-⟩|⟨k,g,-,a⟩|⟨k,g,f⟩
 grind
 grind
 rw[if_pos k,if_pos k]
 grind[a01,a2W,a3S]
 simp_all[b5m];rw[if_neg (by omega),if_neg (by omega),if_pos k,if_neg (by omega),if_neg (by omega),if_pos k,b5m g,a7U (by omega)];simp only[a9a,bA,dT]at a;obtain⟨A,b⟩:=a01 (show 0≤s.2.2.2.2.1-1 by omega)
 grind[b0C,a2W,a3S]
 rw[if_neg (by omega),if_neg (by omega),if_neg (by omega),if_pos k,if_neg (by omega),if_neg (by omega),if_neg (by omega),if_pos k];simp only[a7w,bA,dT]at f
 grind[b3Q,a2W,a3S]
def b1d(s:Sub):List Int:=pb s.1 3++(pb s.2.1 5++pb ((a0G s.2.2.2.2.2.2.2.2.1:Nat):Int) 5)
theorem c3E(g:0≤s.1∧s.1≤5)(f:0≤s.2.1∧s.2.1≤30)(h:s.2.2.2.2.2.2.2.2.1.all a0A=true)(L:List Int):a9d s L=L++b1d s:=by
 grind[a01,a1F,a9d,b1d,a2W,a3S]
def a3k(s:Sub):Sub:=(s.1,s.2.1,s.2.2.1,s.2.2.2.1,s.2.2.2.2.1,s.2.2.2.2.2.1,s.2.2.2.2.2.2.1,s.2.2.2.2.2.2.2.1,[],(0,[],()),[],())
theorem b3R{wd N:Nat}{ok:Bool}(m:N<1000)(k w:Int):∀(st done:List Stg)(P R:List Int),st.all Ab.stageB=true→done.length+st.length=N→OkR P (a6I st++R)→
  y0s a5z ((wd:Int),ok,(N:Int),(done.length:Int),rdr P (a6I st++R),(k,w,0,0,0,[],[0,0,0],done,[],(0,[],()),[],()),()) =
   some ((wd:Int),ok,(k,w,0,0,0,[],[0,0,0],done++st,[],(0,[],()),[],()),rdr (P++a6I st) R,())
 | [],done,P,R,_,hl,_=>by
  have:done.length=N:=by omega
  subst this;have d:decide ((done.length:Int)<(done.length:Int))=false:=by simp
  simp_all[a0H,a5z,a6I]
 |g::st,done,P,R,h,hl,hok=>by
  simp only[a07,bA]at h;rw[lC]at hl;obtain⟨i,j,c,l⟩:=b3P h.1;obtain⟨a,b,u⟩:=g;simp only at i j c l;obtain⟨B,rfl⟩:=a01 c;obtain⟨A,r⟩:=a01 (show 0≤a-1 by omega);obtain rfl:a=(A:Int)+1:=by omega
  have e:a6I (((A:Int)+1,(B:Int),u)::st)++R=pb (A:Int) 5++(pb (B:Int) 4++(a6I st++R)):=by simp[a6I]
  rw[e]at hok⊢;have d:decide ((done.length:Int)<(N:Int))=true:=by grind
  have p:a0F (rdr P (pb (A:Int) 5++(pb (B:Int) 4++(a6I st++R))),(5:Int))=_:=a2X (v:=A) (n:=5) (by omega) (by omega) hok;have f:=hok.shift;have q:a0F (rdr (P++pb (A:Int) 5) (pb (B:Int) 4++(a6I st++R)),(4:Int))=_:=a2X (v:=B) (n:=4) (by omega) (by omega) f;have o:lim (a36 done+1)=true:=a1c (by omega);have t:wrap .i64 (A:Int)=(A:Int):=a0D (by omega);have w2:wrap .i64 (B:Int)=(B:Int):=a0D (by omega);have x:wrap .i64 ((A:Int)+1)=(A:Int)+1:=a0D (by omega);have s:wrap .u64 ((done.length:Int)+1)=(((done++[((A:Int)+1,(B:Int),u)]).length:Nat):Int):=by grind[a0S]
  rw[a0I (s':=((wd:Int),ok,(N:Int),(((done++[((A:Int)+1,(B:Int),u)]).length:Nat):Int),rdr (P++pb (A:Int) 5++pb (B:Int) 4) (a6I st++R),(k,w,0,0,0,[],[0,0,0],done++[((A:Int)+1,(B:Int),u)],[],(0,[],()),[],()),())) (by
    simp_all[a5z])]
  rw[b3R m k w st (done++[((A:Int)+1,(B:Int),u)]) _ R h.2 (by grind) f.shift];simp[a6I]
theorem b6p(h:b1T x=true):b1q 8 x:=by
 simp[b1T]at h;unfold b1q;omega
theorem c3F{wd:Nat}{w g:Int}{a b c:Int}(m:b1T a=true)(hb:b1T b=true)(o:b1T c=true)(f:OkR P (sB 8 [a,b,c]++R)):
  y0s a2H ((wd:Int),(0:Int),rdr P (sB 8 [a,b,c]++R),(k,w,0,0,g,[],[0,0,0],[],[],(0,[],()),[],()),()) =
   some ((wd:Int),rdr (P++sB 8 [a,b,c]) R,(k,w,0,0,g,[],[a,b,c],[],[],(0,[],()),[],()),()):=by
 have e:sB 8 [a,b,c]++R=pb (a0R a 8) 8++(pb (a0R b 8) 8++(pb (a0R c 8) 8++R)):=by rfl
 rw[e]at f⊢;have t:a0W (rdr P (pb (a0R a 8) 8++(pb (a0R b 8) 8++(pb (a0R c 8) 8++R))),(8:Int))=_:=a7T (n:=8) (by omega) (b6p m) f;have h:=f.shift;have u:a0W (rdr (P++pb (a0R a 8) 8) (pb (a0R b 8) 8++(pb (a0R c 8) 8++R)),(8:Int))=_:=a7T (n:=8) (by omega) (b6p hb) h;have d:=h.shift;have v:a0W (rdr (P++pb (a0R a 8) 8++pb (a0R b 8) 8) (pb (a0R c 8) 8++R),(8:Int))=_:=a7T (n:=8) (by omega) (b6p o) d;have x:wrap .i64 ((0:Int)+1)=1:=by rfl
 have y:wrap .i64 ((1:Int)+1)=2:=by rfl
 have w2:wrap .i64 ((2:Int)+1)=3:=by rfl
 have p:decide ((0:Int)<3)=true:=by rfl
 have i:decide ((0:Int)≤0)=true:=by rfl
 have q:decide ((1:Int)<3)=true:=by rfl
 have j:decide ((0:Int)≤1)=true:=by rfl
 have r:decide ((2:Int)<3)=true:=by rfl
 have l:decide ((0:Int)≤2)=true:=by rfl
 have s:decide ((3:Int)<3)=false:=by rfl
 rw[a0I (s':=((wd:Int),(1:Int),rdr (P++pb (a0R a 8) 8) (pb (a0R b 8) 8++(pb (a0R c 8) 8++R)),(k,w,0,0,g,[],[a,0,0],[],[],(0,[],()),[],()),())) (by
  simp_all[a2H])]
 rw[a0I (s':=((wd:Int),(2:Int),rdr (P++pb (a0R a 8) 8++pb (a0R b 8) 8) (pb (a0R c 8) 8++R),(k,w,0,0,g,[],[a,b,0],[],[],(0,[],()),[],()),())) (by
  simp_all[a2H])]
 rw[a0I (s':=((wd:Int),(3:Int),rdr (P++pb (a0R a 8) 8++pb (a0R b 8) 8++pb (a0R c 8) 8) R,(k,w,0,0,g,[],[a,b,c],[],[],(0,[],()),[],()),())) (by
  simp_all[a2H])]
 simp_all[a0H,a2H,sB]
theorem c2F{s:Sub}{n:Int}(hs:a1l s n)(ht:s.2.2.2.2.2.2.1.length=3){P R:List Int}(i:OkR P (b1d s++(a4a s++R))):
  a7C (rdr P (b1d s++(a4a s++R)))=some (a3k s,((a0G s.2.2.2.2.2.2.2.2.1:Nat):Int),true,rdr (P++(b1d s++a4a s)) R):=by
 obtain⟨-,-,hf,ha,I,L,-,-,M,-⟩:=hs;obtain⟨k,w,o,sh,g,c,t,st,a,b,d,u⟩:=s;have hk:=b2o hf;simp only at hk I L M ht;have h0:=a1F M;obtain⟨K,rfl⟩:=a01 hk.1;obtain⟨W,rfl⟩:=a01 I;unfold b1d at i⊢;simp at i⊢;have Y:a0F (rdr P (pb (K:Int) 3++(pb (W:Int) 5++(pb ((a0G a:Nat):Int) 5++(a4a ((K:Int),(W:Int),o,sh,g,c,t,st,a,b,d,u)++R)))),(3:Int))=_:=a2X (v:=K) (n:=3) (by omega) (by omega) i;have j:=i.shift;have Z:a0F (rdr (P++pb (K:Int) 3) (pb (W:Int) 5++(pb ((a0G a:Nat):Int) 5++(a4a ((K:Int),(W:Int),o,sh,g,c,t,st,a,b,d,u)++R))),(5:Int))=_:=a2X (v:=W) (n:=5) (by omega) (by omega) j;have l:=j.shift;have g3:a0F (rdr (P++pb (K:Int) 3++pb (W:Int) 5) (pb ((a0G a:Nat):Int) 5++(a4a ((K:Int),(W:Int),o,sh,g,c,t,st,a,b,d,u)++R)),(5:Int))=_:=a2X (v:=a0G a) (n:=5) (by omega) (by omega) l;have f:=l.shift;have wK:wrap .i64 (K:Int)=(K:Int):=a0D (by omega);have wW:wrap .i64 (W:Int)=(W:Int):=a0D (by omega);have wd:wrap .i64 ((a0G a:Nat):Int)=((a0G a:Nat):Int):=a0D (by omega);unfold a7C;rw[Y];simp only[oB];rw[Z];simp only[oB];rw[g3];simp only[oB,wK,wW,wd];generalize hX:P++pb (K:Int) 3++pb (W:Int) 5++pb ((a0G a:Nat):Int) 5=X at f⊢;have H:∀B:List Int,P++(pb (K:Int) 3++(pb (W:Int) 5++(pb ((a0G a:Nat):Int) 5++B)))=X++B:=fun B=>by grind
 rw[H];obtain⟨a1,D,q,r,E,C⟩:=ha;simp only at a1 D q r E C;clear Y Z g3 i j l hX H;rcases hf with h|h|⟨h,m,G,-⟩|⟨h,m,-⟩|⟨h,m,-,Q⟩|⟨h,m,G⟩
 
 simp only at h;obtain rfl:=a1 (by omega);obtain rfl:=D (by omega);obtain rfl:=q (by omega);obtain rfl:=r (by omega);obtain rfl:=E (by omega);obtain rfl:=C (by omega);rw[h];have hb:a4a ((0:Int),(W:Int),0,0,0,[],[0,0,0],[],a,b,d,u)=[]:=rfl;rw[hb,a16,a39];rfl;simp only at h;obtain rfl:=a1 (by omega);obtain rfl:=D (by omega);obtain rfl:=q (by omega);obtain rfl:=r (by omega);obtain rfl:=E (by omega);obtain rfl:=C (by omega);rw[h];have hb:a4a ((1:Int),(W:Int),0,0,0,[],[0,0,0],[],a,b,d,u)=[]:=rfl;rw[hb,a16,a39];rfl;simp only at h m G;obtain rfl:=D (by omega);obtain rfl:=q (by omega);obtain rfl:=r (by omega);obtain rfl:=E (by omega);obtain rfl:=C (by omega);rw[h]at f⊢;obtain⟨O,rfl⟩:=a01 m;have hb:a4a ((2:Int),(W:Int),(O:Int),0,0,[],[0,0,0],[],a,b,d,u)=pb (O:Int) 3:=rfl;rw[hb]at f⊢;have e:((2:Int)==2)=true:=rfl;have F:a0F (rdr X (pb (O:Int) 3++R),(3:Int))=_:=a2X (v:=O) (n:=3) (by omega) (by omega) f;have wO:wrap .i64 (O:Int)=(O:Int):=a0D (by omega);simp only[e,cT,F,oB,wO];rfl;simp only at h m;obtain rfl:=a1 (by omega);obtain rfl:=q (by omega);obtain rfl:=r (by omega);obtain rfl:=C (by omega);rw[h]at f⊢;have hb:a4a ((3:Int),(W:Int),0,sh,0,c,[0,0,0],[],a,b,d,u)=a5X ((3:Int),(W:Int),0,sh,0,c,[0,0,0],[],a,b,d,u):=rfl;rw[hb]at f⊢;have T:((3:Int)==2)=false:=rfl;have U:((3:Int)==4)=false:=rfl;have V:((3:Int)==3)=true:=rfl;have F:=b3O (s:=((3:Int),(W:Int),0,sh,0,c,[0,0,0],[],a,b,d,u)) (s0:=((3:Int),(W:Int),0,0,0,[],a00 3 0,[],[],(0,[],()),[],())) m rfl f;simp only[T,V,U,cT,cF,oB]
 erw[F]
 rfl
 ·simp only at h m Q;obtain rfl:=a1 (by omega);obtain rfl:=C (by omega);rw[h]at f⊢;simp only[a9a,bA,dT]at Q;obtain⟨Q,h5,S⟩:=Q;obtain⟨A,hA⟩:=a01 (show 0≤g-1 by omega);obtain rfl:g=(A:Int)+1:=by omega
  obtain⟨x,y,z,rfl⟩:∃x y z,t=[x,y,z]:=by
   match t,ht with
   | [x,y,z],_=>simp
  simp at S;have hb:a4a ((4:Int),(W:Int),0,sh,(A:Int)+1,c,[x,y,z],[],a,b,d,u)=pb (A:Int) 10++(sB 8 [x,y,z]++a5X ((4:Int),(W:Int),0,sh,(A:Int)+1,c,[x,y,z],[],a,b,d,u)):=by
   show pb ((A:Int)+1-1) 10++_=_
   simp
  rw[hb]at f⊢;simp only[aA]at f⊢;have T:((4:Int)==2)=false:=rfl;have U:((4:Int)==4)=true:=rfl;have F:a0F (rdr X (pb (A:Int) 10++(sB 8 [x,y,z]++(a5X ((4:Int),(W:Int),0,sh,(A:Int)+1,c,[x,y,z],[],a,b,d,u)++R))),(10:Int))=_:=a2X (v:=A) (n:=10) (by omega) (by omega) f;have p:=f.shift;have wA:wrap .i64 (A:Int)=(A:Int):=a0D (by omega);have h4:wrap .i64 ((A:Int)+1)=(A:Int)+1:=a0D (by omega);have g5:=c3F (wd:=a0G a) (k:=4) (w:=(W:Int)) (g:=(A:Int)+1) S.1 S.2.1 S.2.2 p;have g6:=b3O (s:=((4:Int),(W:Int),0,sh,(A:Int)+1,c,[x,y,z],[],a,b,d,u)) (s0:=((4:Int),(W:Int),0,0,(A:Int)+1,[],[x,y,z],[],[],(0,[],()),[],())) m rfl p.shift;simp_all[a3k,b2r,b6o]
 simp only at h m G;obtain rfl:=a1 (by omega);obtain rfl:=D (by omega);obtain rfl:=q (by omega);obtain rfl:=r (by omega);obtain rfl:=E (by omega);rw[h]at f⊢;simp only[a7w,bA,dT]at G;have hb:a4a ((5:Int),(W:Int),0,0,0,[],[0,0,0],st,a,b,d,u)=pb ((st.length:Nat):Int) 2++a6I st:=rfl;rw[hb]at f⊢;simp only[aA]at f⊢;have T:((5:Int)==2)=false:=rfl;have U:((5:Int)==4)=false:=rfl;have V:((5:Int)==3)=false:=rfl;have e5:((5:Int)==5)=true:=rfl;have F:a0F (rdr X (pb ((st.length:Nat):Int) 2++(a6I st++R)),(2:Int))=_:=a2X (v:=st.length) (n:=2) (by omega) (by omega) f;have g5:=b3R (wd:=a0G a) (ok:=true) (N:=st.length) (by omega) (5:Int) (W:Int) st [] _ R G.2 (by simp) f.shift;simp_all[a3k]
def a6J(s:Sub)(zn:List Nat):List Int:=
 (b1d s++a4a s)++(sB (a0G s.2.2.2.2.2.2.2.2.1) s.2.2.2.2.2.2.2.2.1++if s.1=0∨s.1=1 then[]else a5q s.2.2.2.2.2.2.2.2.2.1 zn s.2.2.2.2.2.2.2.2.2.2.1)
theorem b3S(b:a1l s n)(d:s.1≠0∧s.1≠1→PartsOk s.2.2.2.2.2.2.2.2.2.1 n ((s.2.2.2.2.2.2.2.2.1.length:Nat):Int) s.2.2.2.2.2.2.2.2.2.2.1 zn)(L:List Int):
  a4h s zn L=L++a6J s zn:=by
 obtain⟨-,-,h,-,k,a,-,-,f,-⟩:=b;have c:=a1F f;have g:=c3E (b2o h) ⟨k,a⟩ f L;unfold a4h a6J
 by_cases hk:s.1=0∨s.1=1
 rw[if_pos hk,if_pos hk,a7U (by omega),b6O h,g]
 simp
 rw[if_neg hk,if_neg hk,b7L (d (not_or.1 hk)),a7U (by omega),b6O h,g]
 simp
def a6K(s:Sub)(l:List Int):Sub:=(s.1,s.2.1,s.2.2.1,s.2.2.2.1,s.2.2.2.2.1,s.2.2.2.2.2.1,s.2.2.2.2.2.2.1,s.2.2.2.2.2.2.2.1,l,s.2.2.2.2.2.2.2.2.2)
theorem b6P{wd:Nat}(g:wd≤62){N:Nat}(f:N<1000000)(n:Int)(ok:Bool)(z s:Sub):∀(l done P R:List Int),(∀x∈l,b1q wd x)→done.length+l.length=N→OkR P (sB wd l++R)→
  y0s a8j (n,(wd:Int),ok,(N:Int),(done.length:Int),rdr P (sB wd l++R),z,a6K s done,())=some (n,(wd:Int),ok,rdr (P++sB wd l) R,z,a6K s (done++l),())
 | [],done,P,R,_,hl,_=>by
  have:done.length=N:=by omega
  subst this;have d:decide ((done.length:Int)<(done.length:Int))=false:=by simp
  simp_all[a0H,a8j,sB]
 |x::l,done,P,R,h,hl,hok=>by
  rw[lC]at hl;rw[b6n]at hok⊢;have d:decide ((done.length:Int)<(N:Int))=true:=by grind
  have a:=a7T g (h x (by simp)) hok;have k:lim (a36 done+1)=true:=a1c (by omega);have b:wrap .i64 ((done.length:Int)+1)=(((done++[x]).length:Nat):Int):=by grind[a0D]
  rw[a0I (s':=(n,(wd:Int),ok,(N:Int),(((done++[x]).length:Nat):Int),rdr (P++pb (a0R x wd) wd) (sB wd l++R),z,a6K s (done++[x]),())) (by
   simp_all[a8j,a6K])]
  rw[b6P g f n ok z s l (done++[x]) _ R (fun y c=>h y (by grind)) (by grind) hok.shift];simp[sB]
theorem c2G(h:SmallS s):SmallS (a3k s) where
 coefs:=h.coefs
 taps:=h.taps
 stages:=h.stages
 warm:=by show([]:List Int).length≤5000;simp
 rest:=by show([]:List Int).length≤5000;simp
 ks:=by show([]:List Int).length≤_;simp
theorem c5P(h:SmallS s)(I:(a1O s n).isSome=true)(T:s.1≠0∧s.1≠1→PartsOk s.2.2.2.2.2.2.2.2.2.1 n ((s.2.2.2.2.2.2.2.2.1.length:Nat):Int) s.2.2.2.2.2.2.2.2.2.2.1 zn)(e:OkR P (a6J s zn++R)):a9l (rdr P (a6J s zn++R),n)=some (s,(0:Int),rdr (P++a6J s zn) R):=by
 have K:=b1p I;have d:=@c2F s n K h.taps P;have x:=K;obtain⟨U,V,O,-,-,-,-,S,r,-,v,-⟩:=x;have Q:=a1F r;have y:=h.warm;have L:decide (n<1)=false:=by simp_all
 have M:decide (n > 4096)=false:=by simp_all
 have j:∀A B:List Int,(rdr A B).2.2.1=0:=fun _ _=>rfl;have l:a6w ((a3k s).1,a3k s,n)=some true:=by
  rw[b1x (c2G h)];unfold b0A
  have:a3j (a3k s).1 (a3k s) n:=O
  simp_all
 have i:a3H (a3k s,n)=some ((s.2.2.2.2.2.2.2.2.1.length:Nat):Int):=by
  rw[a9o]
  have:a1Q (a3k s) n=a1Q s n:=rfl
  simp_all
 have p:=b4R h n;rw[I]at p;have f:a1k s.2.2.2.2.2.2.2.2.1=some ((a0G s.2.2.2.2.2.2.2.2.1:Nat):Int):=a1R (by unfold short;omega);unfold a9l a0K;unfold a6J at e⊢;simp only[aA]at e⊢;have a:OkR (P++(b1d s++a4a s)) (sB (a0G s.2.2.2.2.2.2.2.2.1) s.2.2.2.2.2.2.2.2.1++((if s.1=0∨s.1=1 then[]else a5q s.2.2.2.2.2.2.2.2.2.1 zn s.2.2.2.2.2.2.2.2.2.2.1)++R)):=OkR.shift (by simp_all)
 have G:=fun(ok:Bool) (z:Sub)=>b6P (wd:=a0G s.2.2.2.2.2.2.2.2.1) (by omega) (N:=s.2.2.2.2.2.2.2.2.1.length) (by omega) n ok z (a3k s) s.2.2.2.2.2.2.2.2.1 [] _ _ (b2q r) (by simp) a;simp only[a21,nZ,a16,a30]at G;simp only[L,M,cF,j,bne_self_eq_false,oB];rw[d e];simp only[j,bne_self_eq_false,cF,oB,l,bT,i];rw[show((a3k s:Sub))=a6K (a3k s) []from rfl]
 erw[G]
 simp only[oB,j,bne_self_eq_false,cF];rw[show(a6K (a3k s) s.2.2.2.2.2.2.2.2.1).1=s.1 from rfl,a5n];simp only[oB]
 by_cases hk:s.1=0∨s.1=1
 have H:decide (s.1≠0∧s.1≠1)=false:=by grind
 have q:a6K (a3k s) s.2.2.2.2.2.2.2.2.1=s:=by
  obtain⟨D,E,F⟩:=v hk;obtain⟨k,w,o,sh,g,c,t,st,wm,⟨X,Y,Z⟩,re,u⟩:=s;simp only at D E F;subst D E F;rfl
 grind
 have H:decide (s.1≠0∧s.1≠1)=true:=by simp_all
 have hp:=T (not_or.1 hk);have b:=a.shift;rw[if_neg hk]at b;have m:=b9k hp b;simp only[H,cT,if_neg hk];rw[show(a6K (a3k s) s.2.2.2.2.2.2.2.2.1).2.2.2.2.2.2.2.2.1=s.2.2.2.2.2.2.2.2.1 from rfl]
 erw[m]
 have C:((0:Int) != 0)=false:=rfl;simp only[oB,C,cF,bT,f,bne_self_eq_false];have q:((a6K (a3k s) s.2.2.2.2.2.2.2.2.1).1,(a6K (a3k s) s.2.2.2.2.2.2.2.2.1).2.1,(a6K (a3k s) s.2.2.2.2.2.2.2.2.1).2.2.1,(a6K (a3k s) s.2.2.2.2.2.2.2.2.1).2.2.2.1,(a6K (a3k s) s.2.2.2.2.2.2.2.2.1).2.2.2.2.1,(a6K (a3k s) s.2.2.2.2.2.2.2.2.1).2.2.2.2.2.1,(a6K (a3k s) s.2.2.2.2.2.2.2.2.1).2.2.2.2.2.2.1,(a6K (a3k s) s.2.2.2.2.2.2.2.2.1).2.2.2.2.2.2.2.1,s.2.2.2.2.2.2.2.2.1,s.2.2.2.2.2.2.2.2.2.1,s.2.2.2.2.2.2.2.2.2.2.1,(a6K (a3k s) s.2.2.2.2.2.2.2.2.1).2.2.2.2.2.2.2.2.2.2.2)=s:=rfl
 grind
theorem c7R(y:Int):bits .u64 .and y 1=y%2:=by
 have h:((a04 64 y) &&& (a04 64 1)).toNat=(y%18446744073709551616).toNat%2:=by
  simp
 show wrap .u64 ((((a04 64 y) &&& (a04 64 1)).toNat:Nat):Int)=_
 grind[a0S]
theorem a1J(v:Int):∀n,a1o (pb v n)
 |0=>fun b hb=>by cases hb
 |n+1=>fun b hb=>by
  rcases mC.1 hb with rfl|hb
  grind[a5B,c7R,a8k]
  exact a1J v n b hb
theorem c1h(n:Nat):a1o (unB n):=fun b hb=>by
 rcases mA.1 hb with hb|hb
 all_goals simp_all
theorem b1e{α:Type}{f:α→List Int}{l:List α}(h:∀x,a1o (f x)):a1o (l.flatMap f):=fun b hb=>by
 obtain⟨x,-,g⟩:=a96.1 hb;exact h x b g
theorem c3G(k:Nat)(x:Int):a1o (a7J k x):=by
 unfold a7J;split;exact(c1h _).app (a1J _ _);exact(c1h _).app (a1J _ _)
theorem b3t(n:Nat)(l:List Int):a1o (sB n l):=b1e fun _=>a1J _ _
theorem c3H(k:Int)(l:List Int):a1o (a8q k l):=by
 unfold a8q;split;exact(a1J _ _).app ((a1J _ _).app (b3t _ _));exact(a1J _ _).app (b1e fun _=>c3G _ _)
theorem b2t:a1o []:=fun b hb=>by grind
theorem b5o:∀(zs:List Nat)(ks l:List Int),a1o (a1C zs ks l)
 |z::zs,k::ks,l=>by
  simp only[a1C];exact(c3H _ _).app (b5o zs ks _)
 | [],_,_=>by simp_all[a1C,b2t]
 |_::_,[],_=>by simp_all[a1C,b2t]
theorem b5p(s:Sub):a1o (a5X s):=(a1J _ _).app ((a1J _ _).app ((a1J _ _).app (b3t _ _)))
theorem c3I(s:Sub):a1o (a4a s):=by
 unfold a4a;split;exact a1J _ _;split;exact b5p s;split;exact(a1J _ _).app ((b3t _ _).app (b5p s));split;exact(a1J _ _).app (b1e fun _=>(a1J _ _).app (a1J _ _));exact b2t
theorem c4C(s:Sub)(h:List Nat):a1o (a6J s h):=by
 refine(((a1J _ _).app ((a1J _ _).app (a1J _ _))).app (c3I s)).app ((b3t _ _).app ?_);split;exact b2t;exact(a1J _ _).app (b5o _ _ _)
theorem c4D(h:SmallS s)(k:(a1O s n).isSome=true)(j:L.length<50000000):
  ∃g,a7S (wL L,s,n)=some (0,wL (L++a6J s g))∧a2L (s,n)=some (((a6J s g).length:Nat):Int)∧(a6J s g).length≤700000∧
   (s.1≠0∧s.1≠1→PartsOk s.2.2.2.2.2.2.2.2.2.1 n ((s.2.2.2.2.2.2.2.2.1.length:Nat):Int) s.2.2.2.2.2.2.2.2.2.2.1 g):=by
 obtain⟨e,i,a,-,c,d,-⟩:=b2a h (n:=n) (L:=L) (by omega);obtain⟨rfl,g,rfl,f⟩:=d k;have b:=b1p k;rw[b3S b f]at a c;refine⟨g,a,?_,by simp_all,f⟩;rw[c1d h];unfold a3Z;rw[if_pos k,←b6i f,b3S b f]
 simp
theorem c6A(g:L.length<1000000000):a9z (wL L).1=some (rdr [] L):=by
 obtain⟨-,h⟩:=a4I L;unfold a9z;rw[a1c (by omega)];rfl
theorem c4E(h:L.length<1000000000):a3X (wL L)=some ((wL L).1,wL L):=by
 grind[a4I,a3X,a1c]
def a0O(n:Nat):List Int:=if h:n<128 then[(n:Int)]else((n%128+128:Nat):Int)::a0O (n / 128)
termination_by n
decreasing_by omega
theorem b1K{n:Nat}(h:n<128):a0O n=[(n:Int)]:=by rw[a0O,dif_pos h]
theorem b1L{n:Nat}(h:¬ n<128):a0O n=((n%128+128:Nat):Int)::a0O (n / 128):=by rw[a0O,dif_neg h]
theorem b4q:∀(k n:Nat),n<128^(k+1)→1≤(a0O n).length∧(a0O n).length≤k+1
 |0,n,h=>by simp_all[b1K]
 |k+1,n,h=>by
  by_cases hn:n<128
  rw[b1K hn];simp;rw[b1L hn]
  have:=b4q k (n / 128) (by omega)
  simp_all
theorem c1i:∀(k n:Nat)(a:List Int)(b c:Int)(out:List Int),n<128^(k+1)→k≤8→out.length+k<1000000→
  ∃r g,y0s a6Z ((n:Int),a,b,c,out,())=some (((r:Nat):Int),a,b,c,out++g,())∧a0O n=g++[(r:Int)]∧r<128
 |k,n,a,b,c,out,h,hk,ho=>by
  by_cases hn:n<128
  refine⟨n,[],?_,by rw[b1K hn];rfl,hn⟩;rw[a0H (b:=((n:Int),a,b,c,out,())) (by
   have d:decide ((n:Int)≥128)=false:=by grind
   simp only[a6Z,d,cF])]
  simp
  ·cases k with
   |zero=>omega
   |succ k=>
    have m:n / 128<128^(k+1):=by omega
    have f:n<18446744073709551616:=by
     have:128^(k+1+1)≤128^9:=a08 (by omega) (by omega)
     omega
    obtain⟨r,g,o,j,l⟩:=c1i k (n / 128) a b c (out++[((n%128+128:Nat):Int)]) m (by omega) (by grind);refine⟨r,((n%128+128:Nat):Int)::g,?_,by rw[b1L hn,j];rfl,l⟩;have d:decide ((n:Int)≥128)=true:=by grind
    have e:wrap .u64 (a54 (n:Int) 128)=((n / 128:Nat):Int):=by
     rw[show a54 (n:Int) 128=((n / 128:Nat):Int)from rfl];exact a0S (by omega)
    have i:wrap .u8 (wrap .u8 (a25 (n:Int) 128)+128)=((n%128+128:Nat):Int):=by
     rw[show a25 (n:Int) 128=((n%128:Nat):Int)from rfl,a8k,a8k];omega
    rw[a0I (s':=(((n / 128:Nat):Int),a,b,c,out++[((n%128+128:Nat):Int)],())) (by
     simp only[a6Z,d,cT,a1c (show out.length+1<2147483648 by omega),e,i,a06])]
    simp_all
theorem b0I{α β γ:Type}(f:α→List γ):∀(l:List α)(a:List γ),a2n (β:=β) (fun a x=>.inl (a++f x)) l a=.inl (a++l.flatMap f)
 | [],a=>by simp[a2n]
 |x::l,a=>by simp only[a2n];rw[b0I f l];simp
def asI(ns:List Nat):List Int:=ns.map fun n:Nat=>(n:Int)
theorem b9l{ns:List Nat}(h:∀n∈ns,n<9223372036854775808)(u:ns.length≤1000):a8T (asI ns)=some (ns.flatMap a0O):=by
 have m:(asI ns).length=ns.length:=by simp[asI]
 have:=a1E (f:=a7a) (asI ns) (fun i (a:List Int)=>(asI ns,((asI ns).length:Int),(i:Int),a,())) (fun a x=>.inl (a++a0O x.toNat)) (fun i a=>a.length≤10*i) (fun a=>(a,()))
  (fun i l a q=>⟨fun s g=>by
   have c:i<ns.length:=by omega
   have o:(asI ns)[i]=((ns[i]:Nat):Int):=by simp[asI]
   have hb:=h ns[i] (a05 c);have k:ns[i]<128^(8+1):=by omega
   obtain⟨r,d,p,j,t⟩:=c1i 8 ns[i] (asI ns) ((asI ns).length:Int) (i:Int) a k (a26 _) (by omega);have hv:=b4q 8 ns[i] k;rw[j]at hv;simp only[lN,lC,a21]at hv;simp[o,j]at g;subst g;have e:wrap .u8 (r:Int)=(r:Int):=by rw[a8k];omega
   refine⟨?_,by grind⟩;simp only[a7a,dlt l,cT,a0B l,o,oB,p,a1c (show(a++d).length+1<2147483648 by grind),a0C (show i<1000000 by omega),e,a06,aA],fun b hb=>by grind⟩)
  (fun a q=>by simp_all[a7a]) (a:=[]) (by simp)
 simp_all[a8T,b0I,a7n,asI,List.flatMap_map]
theorem orA{k:Nat}(f:a<2^k)(c:b*2^k+a<18446744073709551616):bits .u64 .or (a:Int) ((b*2^k:Nat):Int)=((a+b*2^k:Nat):Int):=by
 show wrap .u64 (((a04 64 (a:Int) ||| a04 64 ((b*2^k:Nat):Int)).toNat:Nat):Int)=_;have g:(a04 64 (a:Int)).toNat=a:=by grind
 have h:(a04 64 ((b*2^k:Nat):Int)).toNat=b*2^k:=by grind[a80]
 grind[a58,a67,a0S]
theorem b3T{rest:List Int}:∀(j m i acc:Nat)(P:List Int),m<128^(j+1)→P.length=i→(i=0∨1≤m)→acc<2^(7*i)→m*2^(7*i)+acc<9223372036854775808→(P++(a0O m++rest)).length<1000000000→
  y0s a4P ((acc:Int),P++(a0O m++rest),((P++(a0O m++rest)).length:Nat),(i:Int),())=some (.inr (((acc+m*2^(7*i):Nat):Int),((i+(a0O m).length:Nat):Int),(0:Int),()))
 |j,m,i,acc,P,hj,hP,hm,ha,hs,hl=>by
  have r:i≤8:=by
   rcases hm with l|h1;omega;apply Classical.byContradiction;intro A;have y:2^(7*9)≤2^(7*i):=a08 (by omega) (by omega);have z:2^(7*i)≤m*2^(7*i):=Nat.le_mul_of_pos_left _ (by omega);omega
  have t:wrap .i64 ((7:Int)*(i:Int))=((7*i:Nat):Int):=by grind[a0D]
  have v:decide ((((7*i:Nat):Int))<0)=false:=by rfl
  have u:wrap .i64 ((i:Int)+1)=((i+1:Nat):Int):=a0C (by omega);have x:∀c:Nat,c<256→(i=9→False):=fun _ _ h=>by omega
  have n:((i:Int)==9)=false:=by grind
  have g:∀(c:Nat)(b:List Int),c<256→a0O m=(c:Int)::b→(i=0∨c≠0)→
    a4P ((acc:Int),P++(a0O m++rest),((P++(a0O m++rest)).length:Nat),(i:Int),()) =
     bif decide ((c:Int)<128)then some (.inr (Sum.inr (bits .u64 .or (acc:Int) (A0n .u64 (wrap .u64 (a25 (c:Int) 128)) ((7*i:Nat):Int)),((i+1:Nat):Int),(0:Int),())))
     else some (.inl (bits .u64 .or (acc:Int) (A0n .u64 (wrap .u64 (a25 (c:Int) 128)) ((7*i:Nat):Int)),P++(a0O m++rest),((P++(a0O m++rest)).length:Nat),((i+1:Nat):Int),())):=fun c b o hv l=>by
   have k:i<(P++(a0O m++rest)).length:=by simp_all
   have q:m0k (P++(a0O m++rest)) (i:Int)=some (c:Int):=by
    simp_all[a0B]
   have B:(decide ((i:Int) > 0)=true→((c:Int)==0)=false):=fun h=>by
    grind
   simp only[a4P,dlt k,cT,q,oB,n,cF]
   grind
  have f:∀c:Nat,c%128*2^(7*i)+acc<9223372036854775808→bits .u64 .or (acc:Int) (A0n .u64 (wrap .u64 (a25 (c:Int) 128)) ((7*i:Nat):Int))=((acc+c%128*2^(7*i):Nat):Int):=fun c o=>by
   rw[show a25 (c:Int) 128=((c%128:Nat):Int)from rfl,a0S (by omega),a9p (by omega) (by omega)];exact orA ha (by omega)
  by_cases hm128:m<128
  rw[a0H (g m [] (by omega) (b1K hm128) (by omega) |>.trans (by
   have d:decide ((m:Int)<128)=true:=by grind
   simp only[d,cT];rfl))]
  rw[f m (by simp_all[a22]),a22 hm128,b1K hm128];rfl
  ·cases j with
   |zero=>omega
   |succ j=>
    have p:m / 128<128^(j+1):=by omega
    have s:2^(7*(i+1))=128*2^(7*i):=by grind
    have a:m*2^(7*i)=m%128*2^(7*i)+m / 128*2^(7*(i+1)):=by
     grind
    have hb:m%128*2^(7*i)≤127*2^(7*i):=a24 _ (by omega);rw[a0I (g (m%128+128) (a0O (m / 128)) (by omega) (b1L hm128) (by omega) |>.trans (by
     have d:decide (((m%128+128:Nat):Int)<128)=false:=by grind
     simp only[d,cF];rfl))]
    rw[f (m%128+128) (by grind[a89,Nat.mod_mod]),a89,Nat.mod_mod];have e:P++(a0O m++rest)=(P++[((m%128+128:Nat):Int)])++(a0O (m / 128)++rest):=by rw[b1L hm128];simp
    rw[e]at hl⊢;have w:=b3T j (m / 128) (i+1) (acc+m%128*2^(7*i)) (P++[((m%128+128:Nat):Int)]) p (by simp[hP]) (.inr (by omega)) (by omega) (by omega) hl;rw[w,a,b1L hm128];congr 3;omega
    simp;omega
theorem c3J{n:Nat}(h:n<9223372036854775808){rest:List Int}(g:(a0O n++rest).length<1000000000):a7c (a0O n++rest)=some ((n:Int),(((a0O n).length:Nat):Int),(0:Int)):=by
 have:=b3T (rest:=rest) 8 n 0 0 [] (by omega) rfl (.inl rfl) (by simp) (by omega) g
 simp_all[a7c]
def ord(P R:List Int):List Int×(Int×Int×Unit):=(P++R,(P.length:Int),(0:Int),())
theorem a6j{n:Nat}(c:n<9223372036854775808){most:Int}(e:(n:Int)≤most)(b:(P++(a0O n++R)).length<1000000000):
  a0V (ord P (a0O n++R),most)=some ((n:Int),ord (P++a0O n) R):=by
 have a:List.drop (a41 (P.length:Int)) (b01 (P++(a0O n++R)).length (P++(a0O n++R)))=a0O n++R:=by
  grind[tN]
 have k:((0:Int) != 0)=false:=rfl;have g:decide ((0:Int)≤(P.length:Int))=true:=by simp
 have f:decide ((P.length:Int)≤((P++(a0O n++R)).length:Int))=true:=by grind
 have d:decide ((n:Int) > most)=false:=by simp_all
 have h:(a0O n++R).length<1000000000:=by grind
 have i:wrap .i64 ((P.length:Int)+((a0O n).length:Int))=(((P++a0O n).length:Nat):Int):=by
  rw[a0D (by simp at b;omega)];simp
 unfold a0V ord;simp only[k,cF,g,f,a03,cT];rw[a,c3J c h]
 grind
def a7q(g:Int):Nat:=if 0≤g then(2*g).toNat else(-2*g-1).toNat
theorem c6B{g:Int}(h:-100000≤g∧g≤100000):a8S g=some ((a7q g:Nat):Int):=by
 unfold a8S a7q
 by_cases hg:0≤g
 have d:decide (g≥0)=true:=by simp_all
 rw[d,cT,if_pos hg,a0S (n:=g) (by omega),a0S (by omega),a77 (by omega)];have d:decide (g≥0)=false:=by simp_all
 rw[d,cF,if_neg hg,a0D (n:=g+1) (by omega),a0D (by omega),a0S (n:=0-(g+1)) (by omega),a0S (n:=2*(0-(g+1))) (by omega),a0S (by omega),a77 (by omega)]
 grind
theorem c1j{g:Int}(h:-(m:Int)≤g∧g≤(m:Int)):a7q g≤2*m:=by
 grind[a7q]
theorem c6C{g:Int}(h:-100000≤g∧g≤100000):a8W ((a7q g:Nat):Int)=some g:=by
 unfold a8W;have f:a25 ((a7q g:Nat):Int) 2=((a7q g%2:Nat):Int):=rfl;have k:a54 ((a7q g:Nat):Int) 2=((a7q g / 2:Nat):Int):=rfl;rw[f,k];unfold a7q
 by_cases hg:0≤g
 rw[if_pos hg];have d:((((2*g).toNat%2:Nat):Int)==0)=true:=by grind
 rw[d,cT,a0S (by omega),a0D (by omega)]
 grind
 rw[if_neg hg];have d:((((-2*g-1).toNat%2:Nat):Int)==0)=false:=by grind
 rw[d,cF,a0S (by omega),a0D (n:=(((-2*g-1).toNat / 2:Nat):Int)) (by omega),a0D (n:=0-(((-2*g-1).toNat / 2:Nat):Int)) (by omega),a0D (by omega)]
 grind
def e8(s:Int):Int:=bif (A0o .u8 s 7)==(1:Int)then bits .u8 .xor (A0n .u8 s 1) 7 else A0n .u8 s 1
def e16(s:Int):Int:=bif (A0o .u16 s 15)==(1:Int)then bits .u16 .xor (A0n .u16 s 1) 32773 else A0n .u16 s 1
def rep{α:Type}(f:α→α):Nat→α→α
 |0,s=>s
 |n+1,s=>rep f n (f s)
def g8(s c:Int):Int:=rep e8 8 (bits .u8 .xor s c)
def g16(s c:Int):Int:=rep e16 8 (bits .u16 .xor s (A0n .u16 (wrap .u16 c) 8))
theorem b5q(l:List Int)(n i:Int):∀(j k:Nat)(s:Int),k+j=8→y0s a8i (s,l,n,i,(k:Int),())=some (rep e8 j s,l,n,i,())
 |0,k,s,h=>by
  obtain rfl:k=8:=by omega
  rfl
 |j+1,k,s,h=>by
  have d:decide ((k:Int)<8)=true:=by grind
  rw[a0I (s':=(e8 s,l,n,i,((k+1:Nat):Int),())) (by
   simp only[a8i,d,cT,a0C (show k<1000000 by omega),e8]
   grind)]
  exact b5q l n i j (k+1) (e8 s) (by omega)
theorem b3l(l:List Int)(n i:Int):∀(j k:Nat)(s:Int),k+j=8→y0s a7l (s,l,n,i,(k:Int),())=some (rep e16 j s,l,n,i,())
 |0,k,s,h=>by
  obtain rfl:k=8:=by omega
  rfl
 |j+1,k,s,h=>by
  have d:decide ((k:Int)<8)=true:=by grind
  rw[a0I (s':=(e16 s,l,n,i,((k+1:Nat):Int),())) (by
   simp only[a7l,d,cT,a0C (show k<1000000 by omega),e16]
   grind)]
  exact b3l l n i j (k+1) (e16 s) (by omega)
def b2u(l:List Int):Int:=l.foldl g8 0
def a2o(l:List Int):Int:=l.foldl g16 0
theorem b9m(h:short l):a6z l=some (b2u l):=by
 have:=a1E (f:=a6s) (β:=Int×Unit) l (fun i (a:Int)=>(a,l,(l.length:Int),(i:Int),())) (fun a x=>.inl (g8 a x)) (fun _ _=>True) (fun a=>(a,()))
  (fun i k a _=>⟨fun c g=>by
   simp at g;subst g
   have:=b5q l (l.length:Int) (i:Int) 8 0 (bits .u8 .xor a l[i]) rfl
   simp at this;refine⟨?_,trivial⟩;simp only[a6s,dlt k,cT,a0B k,oB,this,a0C (a09 k h),g8],fun b hb=>by grind⟩)
  (fun a d=>by simp_all[a6s]) (a:=0) trivial
 unfold a6z;simp at this;rw[this,b2n];rfl
theorem b5r(h:short l):a5c l=some (a2o l):=by
 have:=a1E (f:=a4O) (β:=Int×Unit) l (fun i (a:Int)=>(a,l,(l.length:Int),(i:Int),())) (fun a x=>.inl (g16 a x)) (fun _ _=>True) (fun a=>(a,()))
  (fun i k a _=>⟨fun c g=>by
   simp at g;subst g
   have:=b3l l (l.length:Int) (i:Int) 8 0 (bits .u16 .xor a (A0n .u16 (wrap .u16 l[i]) 8)) rfl
   simp at this;refine⟨?_,trivial⟩;simp only[a4O,dlt k,cT,a0B k,oB,this,a0C (a09 k h),g16],fun b hb=>by grind⟩)
  (fun a d=>by simp_all[a4O]) (a:=0) trivial
 unfold a5c;simp at this;rw[this,b2n];rfl
theorem a9N(n:Int):wrap .u16 n=n%65536:=by rfl
theorem c3K(s:Int):0≤e16 s∧e16 s<65536:=by
 unfold e16;cases (A0o .u16 s 15==1:Bool);simp only[cF,A0n,a9N];omega;simp only[cT,bits,a9N];omega
theorem b3U(l:List Int):0≤a2o l∧a2o l<65536:=by
 unfold a2o;rcases a51 l with rfl|⟨L,b,rfl⟩
 simp
 rw[List.concat_eq_append,List.foldl_append];exact c3K _
theorem d0G{v:Int}(h:0≤v∧v<65536):a8U (v,2)=some [v / 256,v%256]:=by
 have g:wrap .u64 (a54 v 256)=v / 256:=by grind[a0S]
 have f:wrap .u8 (a25 v 256)=v%256:=by simp_all[a42,a8k]
 have k:wrap .u8 (a25 (v / 256) 256)=v / 256:=by grind[a8k]
 have s0:a3O (v,(2:Int),(0:Int),([]:List Int),())=some (.inl (v / 256,(2:Int),(1:Int),[v%256],())):=by
  simp only[a3O,show decide ((0:Int)<2)=true from rfl,cT,a1c (show([]:List Int).length+1<2147483648 by simp),g,f];rfl
 have a:a3O (v / 256,(2:Int),(1:Int),[v%256],())=some (.inl (wrap .u64 (a54 (v / 256) 256),(2:Int),(2:Int),[v%256,v / 256],())):=by
  simp only[a3O,show decide ((1:Int)<2)=true from rfl,cT,a1c (show([v%256]:List Int).length+1<2147483648 by simp),k];rfl
 have c:a7B (v,2)=some [v%256,v / 256]:=by
  unfold a7B a9u
  simp
  rw[show v0s (v0r (2:Int) 0) 8=2 from rfl,a0I s0,a0I a,a0H (b:=([v%256,v / 256],())) rfl];rfl
 simp_all[a8U,a2v]
@[reducible] def a0U:Type:=Int×(Int×(Int×Unit))
@[reducible] def a1e:Type:=Int×(Int×(a0U×(List a0U×(List Sub×Unit))))
@[reducible] def a1p:Type:=Int×(List (List Int)×Unit)
def a2c(n:Int)(s:a0U):Bool:=!(decide (s.1<0) || decide (s.1≥n) || decide (s.2.1<0) || decide (s.2.1≥n) || s.1==s.2.1)&&!(decide (s.2.2.1 < -1024) || decide (s.2.2.1 > 1024))
theorem a2u{n:Int}{s:a0U}:a2c n s=true↔0≤s.1∧s.1<n∧0≤s.2.1∧s.2.1<n∧s.1≠s.2.1∧-1024≤s.2.2.1∧s.2.2.1≤1024:=by
 simp only[a2c,bA,a33,a75,decide_eq_false_iff_not,beq_eq_false_iff_ne];omega
def a4c(l:List a0U)(n:Int):Prop:=1≤n∧n≤8∧l.length≤16∧l.all (a2c n)=true
instance (l:List a0U) (n:Int):Decidable (a4c l n):=by unfold a4c;infer_instance
theorem b1r(l:List a0U)(n:Int):a6X (l,n)=some (decide (a4c l n)):=by
 unfold a6X a4c
 by_cases h1:n<1
 grind
 by_cases h2:n > 8
 grind
 by_cases h3:((l.length:Nat):Int) > 16
 grind
 have g:=a1d (f:=a5P) (β:=Unit ⊕ (Bool×Unit)) l (fun i=>(n,l,(l.length:Int),(i:Int),())) (a2c n) (bt:=Sum.inl ()) (bf:=Sum.inr (false,()))
  (fun i h hp=>by
   obtain⟨a1,m,o,p,q,r,s⟩:=a2u.1 hp;have k:decide (l[i].1<0)=false:=by simp_all
   have a:decide (l[i].1≥n)=false:=by simp_all
   have b:decide (l[i].2.1<0)=false:=by simp_all
   have c:decide (l[i].2.1≥n)=false:=by simp_all
   have d:(l[i].1==l[i].2.1)=false:=by simp_all
   have e:decide (l[i].2.2.1 < -1024)=false:=by simp_all
   have j:decide (l[i].2.2.1 > 1024)=false:=by simp_all
   simp only[a5P,dlt h,cT,a0B h,oB,k,a,b,c,d,e,j,cF,a0C (show i<1000000 by omega)])
  (fun i h hp=>by
   simp only[a5P,dlt h,cT,a0B h,oB]
   grind[a2c])
  (by simp[a5P])
 grind
def b4r(f:a0U):Prop:=1≤f.1∧f.1≤1048576∧1≤f.2.1∧f.2.1≤8∧4≤f.2.2.1∧f.2.2.1≤24
instance (f:a0U):Decidable (b4r f):=by unfold b4r;infer_instance
theorem b1M(f:a0U):a5O f=some (decide (b4r f)):=by
 unfold a5O a5N b4r
 grind
def frP(f:a1e):Prop:=b4r f.2.2.1∧1≤f.2.1∧f.2.1≤4096∧0≤f.1∧f.1≤4194304-f.2.1∧a4c f.2.2.2.1 f.2.2.1.2.1
instance (f:a1e):Decidable (frP f):=by unfold frP;infer_instance
theorem b1N(f:a1e):a5S f=some (decide (frP f)):=by
 unfold a5S frP;rw[b1M,b1r]
 by_cases h1:b4r f.2.2.1<;>by_cases h2:1≤f.2.1<;>by_cases h3:f.2.1≤4096<;>by_cases h4:0≤f.1<;>simp[h1,h2,h3,h4]
 have h:wrap .i64 ((4194304:Int)-f.2.1)=4194304-f.2.1:=a0D (by omega);rw[h]
 grind
def a5Y(s:a0U):List Nat:=[s.1.toNat,s.2.1.toNat,a7q s.2.2.1]
def a4E(s:a0U):List Int:=a0O s.1.toNat++(a0O s.2.1.toNat++a0O (a7q s.2.2.1))
def hb(f:a1e)(body:Nat):List Int:=
 [245,75]++(a0O f.1.toNat++(a0O f.2.1.toNat++(a0O f.2.2.1.1.toNat++(a0O f.2.2.1.2.1.toNat++(a0O f.2.2.1.2.2.1.toNat++(a0O f.2.2.2.1.length++(f.2.2.2.1.flatMap a4E++a0O body)))))))
def a1u(f:a1e)(body:Nat):List Int:=hb f body++[b2u (hb f body)]
theorem a7V{n:Nat}(h:n<9223372036854775808):1≤(a0O n).length∧(a0O n).length≤9:=b4q 8 n (by omega)
theorem c3L(g:n≤8){s:a0U}(h:a2c n s=true):(a4E s).length≤27:=by
 grind[a2u,a7V,a7q,a4E]
theorem b6Q{n:Int}(g:n≤8):∀(l:List a0U),l.all (a2c n)=true→(l.flatMap a4E).length≤27*l.length
 | [],_=>by simp
 |s::l,h=>by
  simp only[a07,bA]at h
  have:=c3L g h.1
  have:=b6Q g l h.2
  simp only[a62,lN,lC];omega
theorem b9n{f:a1e}(g:frP f){body:Nat}(h:body≤1048576):2≤(hb f body).length∧(hb f body).length≤600:=by
 obtain⟨⟨q,r2,k,a,b,c⟩,l1,l2,s1,s2,m1,m2,m3,m4⟩:=g;have d:=a7V (n:=f.1.toNat) (by omega);have e:=a7V (n:=f.2.1.toNat) (by omega);have i:=a7V (n:=f.2.2.1.1.toNat) (by omega);have j:=a7V (n:=f.2.2.1.2.1.toNat) (by omega);have l:=a7V (n:=f.2.2.1.2.2.1.toNat) (by omega);have m:=a7V (n:=f.2.2.2.1.length) (by omega);have o:=a7V (n:=body) (by omega);have p:=b6Q m2 _ m4;simp only[hb,lN,lC,a21];omega
theorem c1k:∀l:List a0U,(l.flatMap a5Y).length=3*l.length
 | []=>rfl
 |s::l=>by simp only[a62,lN,lC,c1k l];simp only[a5Y,lC,a21];omega
theorem c2H{f:a1e}(A:frP f){body:Nat}(q:body≤1048576):a6t (f,(body:Int))=some (a1u f body):=by
 have t:=A;obtain⟨⟨O,r2,K,L,M,N⟩,l1,l2,s1,s2,m1,m2,m3,m4⟩:=t;have k:∀s∈f.2.2.2.1,a2c f.2.2.1.2.1 s=true:=fun s w=>lA.1 m4 s w;have h:=a1E (f:=a4u) (β:=Int×(List Int×Unit)) f.2.2.2.1 (fun i (a:List Int)=>((body:Int),f.2.2.2.1,((f.2.2.2.1.length:Nat):Int),(i:Int),a,())) (fun a x=>.inl (a++asI (a5Y x))) (fun i a=>a.length=6+3*i) (fun a=>((body:Int),a,()))
  (fun i u a G=>⟨fun I j=>by
   simp at j;subst j;obtain⟨a1,C,D,E,F,y,z⟩:=a2u.1 (k _ (a05 u));refine⟨?_,by grind[asI,a5Y]⟩;simp only[a4u,dlt u,cT,a0B u,oB,c6B (g:=f.2.2.2.1[i].2.2.1) (by omega),a1c (show a.length+3<2147483648 by omega),a0C (show i<1000000 by omega),a06]
   grind[a0S,asI,a5Y],fun b hb=>by grind⟩)
  (fun a G=>by simp_all[a4u]) (a:=asI [f.1.toNat,f.2.1.toNat,f.2.2.1.1.toNat,f.2.2.1.2.1.toNat,f.2.2.1.2.2.1.toNat,f.2.2.2.1.length]) (by rfl)
 rw[b0I]at h;simp[a7n]at h;have d:([wrap .u64 f.1,wrap .u64 f.2.1,wrap .u64 f.2.2.1.1,wrap .u64 f.2.2.1.2.1,wrap .u64 f.2.2.1.2.2.1,wrap .u64 ((f.2.2.2.1.length:Nat):Int)]:List Int)=asI [f.1.toNat,f.2.1.toNat,f.2.2.1.1.toNat,f.2.2.1.2.1.toNat,f.2.2.1.2.2.1.toNat,f.2.2.2.1.length]:=by
  grind[a0S,asI]
 have o:asI [f.1.toNat,f.2.1.toNat,f.2.2.1.1.toNat,f.2.2.1.2.1.toNat,f.2.2.1.2.2.1.toNat,f.2.2.2.1.length]++f.2.2.2.1.flatMap (fun x=>asI (a5Y x))++[((body:Nat):Int)]=asI ([f.1.toNat,f.2.1.toNat,f.2.2.1.1.toNat,f.2.2.1.2.1.toNat,f.2.2.1.2.2.1.toNat,f.2.2.2.1.length]++f.2.2.2.1.flatMap a5Y++[body]):=by
  simp_all[asI,List.map_flatMap]
 have v:∀n∈[f.1.toNat,f.2.1.toNat,f.2.2.1.1.toNat,f.2.2.1.2.1.toNat,f.2.2.1.2.2.1.toNat,f.2.2.2.1.length]++f.2.2.2.1.flatMap a5Y++[body],n<9223372036854775808:=fun n e=>by
  simp only[mA,mC,a95,or_false,a96]at e;rcases e with(e|⟨s,w,e⟩)|e;omega;obtain⟨a1,C,D,E,F,y,z⟩:=a2u.1 (k _ w)
  have:=c1j (m:=1024) ⟨y,z⟩
  simp[a5Y]at e;omega;omega
 have B:=c1k f.2.2.2.1;have p:=b9l v (by grind);have c:(([f.1.toNat,f.2.1.toNat,f.2.2.1.1.toNat,f.2.2.1.2.1.toNat,f.2.2.1.2.2.1.toNat,f.2.2.2.1.length]++f.2.2.2.1.flatMap a5Y++[body]).flatMap a0O)=(hb f body).drop 2:=by
  simp only[hb,List.flatMap_append,a62,List.flatMap_nil,a39,aA,List.flatMap_assoc,a64,a16,List.drop_succ_cons,a28];congr 7;exact congrArg (fun g=>List.flatMap g f.2.2.2.1) (funext fun s=>by simp[a4E,a5Y])
 have r:[245,75]++(hb f body).drop 2=hb f body:=by rfl
 have H:=b9n A q;unfold a6t;simp only[d];rw[h];simp only[oB,a06];have l:=congrArg a36 o;rw[show(asI ([f.1.toNat,f.2.1.toNat,f.2.2.1.1.toNat,f.2.2.1.2.1.toNat,f.2.2.1.2.2.1.toNat,f.2.2.2.1.length]++f.2.2.2.1.flatMap a5Y++[body])).length=7+3*f.2.2.2.1.length from by grind[asI,lC]]at l;rw[lN,a72]at l;rw[a0S (n:=(body:Int)) (by omega),a1c (by omega),cT,o,p];simp only[oB,c,a06,r];rw[a1c (by grind),cT,b9m (show short (hb f body)by unfold short;omega)]
 simp
 rw[a1c (by omega),cT];rfl
def c2I(f:a1e):a1e:=(f.1,f.2.1,f.2.2.1,f.2.2.2.1,[],())
theorem a3w{A:List Int}{k:Nat}(h:(P++(A++R)).length<k):((P++A)++R).length<k:=by rw[aA];exact h
theorem b5s{x:List Int}{ch:Int}(d:ch≤8)(s l:Int)(c:a0U)(u:List Sub×Unit){N:Nat}(p:N≤16){R:List Int}:∀(rest done:List a0U)(P:List Int),rest.all (a2c ch)=true→done.length+rest.length=N→
  (P++(rest.flatMap a4E++R)).length<1000000000→
  y0s a4v (x,(N:Int),(done.length:Int),(s,l,c,done,u),ord P (rest.flatMap a4E++R),())=some (x,(s,l,c,done++rest,u),ord (P++rest.flatMap a4E) R,())
 | [],done,P,_,hl,_=>by
  have e:done.length=N:=by simpa using hl
  rw[e,a0H (b:=(x,(s,l,c,done,u),ord P R,())) (by simp only[a4v,dge,cF];rfl)]
  simp
 |g::rest,done,P,h,hl,hlen=>by
  simp only[a07,bA]at h;rw[lC]at hl;obtain⟨a1,w,y,z,A,i,j⟩:=a2u.1 h.1;have B:=c1j (m:=1024) ⟨i,j⟩;have o:(g::rest).flatMap a4E++R=a0O g.1.toNat++(a0O g.2.1.toNat++(a0O (a7q g.2.2.1)++(rest.flatMap a4E++R))):=by simp[a4E]
  rw[o]at hlen⊢;have n1:=a6j (n:=g.1.toNat) (most:=7) (by omega) (by omega) hlen;have f:=a3w hlen;have n2:=a6j (n:=g.2.1.toNat) (most:=7) (by omega) (by omega) f;have k:=a3w f;have t:=a6j (n:=a7q g.2.2.1) (most:=2048) (by omega) (by omega) k;have a:=a3w k;have r:wrap .u64 ((done.length:Int)+1)=(((done++[g]).length:Nat):Int):=by rw[a0S (by omega)];simp
  have v:wrap .i64 ((g.1.toNat:Nat):Int)=g.1:=by rw[a0D (by omega)];omega
  have w2:wrap .i64 ((g.2.1.toNat:Nat):Int)=g.2.1:=by rw[a0D (by omega)];omega
  have q:decide ((done.length:Int)<(N:Int))=true:=by simp;omega
  rw[a0I (s':=(x,(N:Int),(((done++[g]).length:Nat):Int),(s,l,c,done++[g],u),ord (P++a0O g.1.toNat++a0O g.2.1.toNat++a0O (a7q g.2.2.1)) (rest.flatMap a4E++R),())) (by
   simp only[a4v,q,cT,n1,n2,t,oB,c6C (g:=g.2.2.1) (by omega),a1c (show done.length+1<2147483648 by omega),v,w2,r,a06])]
  rw[b5s d s l c u p rest (done++[g]) _ h.2 (by simp;omega) a];simp[a4E]
theorem b5t{f:a1e}(p:frP f){body:Nat}(o:body≤1048576)(hl:(a1u f body++R).length<1000000000):
  a4w (a1u f body++R)=some (c2I f,((a1u f body).length:Int),(body:Int),(0:Int)):=by
 have q:=p;obtain⟨⟨r1,r2,c1,c2,d1,d2⟩,l1,l2,s1,s2,m1,m2,m3,m4⟩:=q;have S:=b9n p o

 have d:a1u f body++R=[245,75]++(a0O f.1.toNat++(a0O f.2.1.toNat++(a0O f.2.2.1.1.toNat++(a0O f.2.2.1.2.1.toNat++(a0O f.2.2.1.2.2.1.toNat++(a0O f.2.2.2.1.length++(f.2.2.2.1.flatMap a4E++(a0O body++([b2u (hb f body)]++R))))))))):=by
  simp[a1u,hb]
 generalize hx:a1u f body++R=x at *;have U:2≤x.length:=by rw[d];simp
 have O:m0k x 0=some 245:=by rw[d];rfl
 have P:m0k x 1=some 75:=by rw[d];rfl
 have k:List.drop 2 (b01 x.length x)=a0O f.1.toNat++(a0O f.2.1.toNat++(a0O f.2.2.1.1.toNat++(a0O f.2.2.1.2.1.toNat++(a0O f.2.2.1.2.2.1.toNat++(a0O f.2.2.2.1.length++(f.2.2.2.1.flatMap a4E++(a0O body++([b2u (hb f body)]++R)))))))):=by
  rw[a18,d];rfl
 have h:([]++(a0O f.1.toNat++(a0O f.2.1.toNat++(a0O f.2.2.1.1.toNat++(a0O f.2.2.1.2.1.toNat++(a0O f.2.2.1.2.2.1.toNat++(a0O f.2.2.2.1.length++(f.2.2.2.1.flatMap a4E++(a0O body++([b2u (hb f body)]++R))))))))):List Int).length<1000000000:=by
  rw[←k];simp;omega
 have n1:=a6j (n:=f.1.toNat) (most:=4194304) (by omega) (by omega) h;have y:=a3w h;have n2:=a6j (n:=f.2.1.toNat) (most:=4096) (by omega) (by omega) y;have z:=a3w y;have E:=a6j (n:=f.2.2.1.1.toNat) (most:=1048576) (by omega) (by omega) z;have A:=a3w z;have F:=a6j (n:=f.2.2.1.2.1.toNat) (most:=8) (by omega) (by omega) A;have B:=a3w A;have G:=a6j (n:=f.2.2.1.2.2.1.toNat) (most:=24) (by omega) (by omega) B;have C:=a3w B;have H:=a6j (n:=f.2.2.2.1.length) (most:=16) (by omega) (by omega) C;have D:=a3w C;have a:=b5s (x:=x) m2 f.1 f.2.1 f.2.2.1 ([],()) m3 f.2.2.2.1 [] _ m4 (by simp) D;have Q:=a3w D;have i:=a6j (n:=body) (most:=1048576) (by omega) (by omega) Q;simp only[a21,nZ,a16,a30]at n1 n2 E F G H i a;have X:wrap .i64 ((f.1.toNat:Nat):Int)=f.1:=by rw[a0D (by omega)];omega
 have w2:wrap .i64 ((f.2.1.toNat:Nat):Int)=f.2.1:=by rw[a0D (by omega)];omega
 have Y:wrap .i64 ((f.2.2.1.1.toNat:Nat):Int)=f.2.2.1.1:=by rw[a0D (by omega)];omega
 have Z:wrap .i64 ((f.2.2.1.2.1.toNat:Nat):Int)=f.2.2.1.2.1:=by rw[a0D (by omega)];omega
 have w5:wrap .i64 ((f.2.2.1.2.2.1.toNat:Nat):Int)=f.2.2.1.2.2.1:=by rw[a0D (by omega)];omega
 have l:a0O f.1.toNat++a0O f.2.1.toNat++a0O f.2.2.1.1.toNat++a0O f.2.2.1.2.1.toNat++a0O f.2.2.1.2.2.1.toNat++a0O f.2.2.2.1.length++f.2.2.2.1.flatMap a4E++a0O body=(hb f body).drop 2:=by simp[hb]
 rw[l]at i;have u:ord ((hb f body).drop 2) ([b2u (hb f body)]++R)=(x.drop 2,(((hb f body).length-2:Nat):Int),(0:Int),()):=by
  unfold ord;rw[a52,←hx];congr 1;unfold a1u;rw[aA,List.drop_append_of_le_length (by omega)]
 rw[u]at i;have b:wrap .i64 (((x.drop 2).length:Int)-(((hb f body).length-2:Nat):Int))=((1+R.length:Nat):Int):=by
  have:x.length=(hb f body).length+(1+R.length):=by rw[←hx];simp[a1u];omega
  rw[a52,a0D (by omega)];omega
 have m:wrap .i64 ((2:Int)+(((hb f body).length-2:Nat):Int))=(((hb f body).length:Nat):Int):=by rw[a0D (by omega)];omega
 have t:(hb f body).length<x.length:=by rw[←hx];simp[a1u]
 have c:b01 (hb f body).length x=hb f body:=by rw[←hx];simp[a1u]
 have s:m0k x (((hb f body).length:Nat):Int)=some (b2u (hb f body)):=by rw[a0B t];congr 1;subst hx;simp[a1u]
 have N:decide (((x.length:Nat):Int)<2)=false:=by simp;omega
 have j:decide ((2:Int)≤((x.length:Nat):Int))=true:=by simp;omega
 have I:((245:Int) != 245)=false:=rfl;have b1:((75:Int) != 75)=false:=rfl;have e:∀T:List Int,T.length<1000000000→a8V T=some (ord [] T):=fun T d=>by unfold a8V;rw[a1c (by omega)];rfl
 have g:=h;rw[a16]at g;have z0:((0:Int) != 0)=false:=rfl;have K:decide (((1+R.length:Nat):Int)<1)=false:=by simp;omega
 have L:decide ((0:Int)≤(((hb f body).length:Nat):Int))=true:=by simp
 have M:decide ((((hb f body).length:Nat):Int)≤((x.length:Nat):Int))=true:=by simp;omega
 have V:(b2u (hb f body) != b2u (hb f body))=false:=bne_self_eq_false _;have r:frP (f.1,f.2.1,f.2.2.1,f.2.2.2.1,([]:List Sub),()):=p;have w:wrap .i64 ((((hb f body).length:Nat):Int)+1)=(((a1u f body).length:Nat):Int):=by rw[a0D (by omega)];simp[a1u]
 have v:wrap .i64 ((body:Nat):Int)=(body:Int):=a0D (by omega);unfold a4w;simp only[N,cF,O,P,oB,I,b1,j,cT];rw[k,e _ g];simp only[oB,n1,n2,E,F,G,H,X,w2,Y,Z,w5]
 erw[a]
 simp only[oB,i,a6A,z0,cF,a6l,a7m,b,K,m,L,M,a03,cT,tN,c,b9m (show short (hb f body)by unfold short;omega),s,V];rw[b1N,decide_eq_true r];simp only[oB,bT,cF,w,v];rfl
@[reducible] def PZ:Type:=Sub×List Nat
def c2J(n:Int)(p:PZ):Prop:=SmallS p.1∧(a1O p.1 n).isSome=true∧(p.1.1≠0∧p.1.1≠1→PartsOk p.1.2.2.2.2.2.2.2.2.2.1 n ((p.1.2.2.2.2.2.2.2.2.1.length:Nat):Int) p.1.2.2.2.2.2.2.2.2.2.2.1 p.2)
def a0J(l:List PZ):List Int:=l.flatMap fun p=>a6J p.1 p.2
theorem b6R(l:List PZ):a1o (a0J l):=b1e fun _=>c4C _ _
theorem b6S(x:a1e)(all:List Sub)(l:all.length≤8):∀(rest done:List Sub)(L:List Int),done++rest=all→(∀s∈rest,SmallS s∧(a1O s x.2.1).isSome=true)→L.length+700000*rest.length<40000000→
  ∃zs:List PZ,zs.map (·.1)=rest∧(∀p∈zs,c2J x.2.1 p)∧(a0J zs).length≤700000*rest.length∧((∀s∈rest,∃c,a2L (s,x.2.1)=some (c:Int))∧some (((a0J zs).length:Nat):Int)=rest.foldr (fun s a=>a.bind fun a=>(a2L (s,x.2.1)).bind fun c=>some (c+a)) (some 0))∧
   y0s a7b (all,(all.length:Int),(done.length:Int),wL L,x,())=some (.inl (wL (L++a0J zs),x,()))
 | [],done,L,hd,_,_=>by
  have e:done=all:=by simp_all
  subst e;refine⟨[],rfl,by simp,by simp[a0J],⟨by simp,by rfl⟩,?_⟩;simp_all[a0H,a7b,a0J]
 |s::rest,done,L,hd,h,hL=>by
  obtain⟨b,k⟩:=h s (by simp);rw[lC]at hL;obtain⟨f,d,i,q,j⟩:=c4D b k (L:=L) (by omega);obtain⟨zs,k1,k2,k3,⟨r,o⟩,k6⟩:=b6S x all l rest (done++[s]) (L++a6J s f) (by simp_all) (fun t n=>h t (by grind)) (by grind);have g:done.length<all.length:=by grind
  have m:m0k all (done.length:Int)=some s:=by grind[a0B]
  refine⟨(s,f)::zs,by grind,fun p hp=>?_,?_,⟨fun t n=>?_,?_⟩,?_⟩;rcases mC.1 hp with rfl|hp;exact⟨b,k,j⟩;simp_all
  grind[a0J]
  grind
  simp only[List.foldr_cons,←o,oB,i];simp[a0J];have z0:((0:Int) != 0)=false:=rfl;rw[a0I (s':=(all,(all.length:Int),(((done++[s]).length:Nat):Int),wL (L++a6J s f),x,())) (by
   simp only[a7b,dlt g,cT,m,oB,d,z0,cF,a0C (show done.length<1000000 by omega)]
   simp)]
  simp_all[a0J]
def a3T(k:Nat):Nat:=(8-k%8)%8
def a2i(L:List Int):List Int:=L++a00 (a3T L.length) 0
theorem b5u:∀(k:Nat)(L:List Int),a3T L.length=k→L.length+k<900000000→y0s a2O (wL L,())=some (wL (L++a00 k 0),())
 |k,L,hk,hL=>by
  have f:=(a4I L).1;have h:a25 (wL L).2.1 8=((L.length%8:Nat):Int):=by grind
  unfold a3T at hk;cases k with
  |zero=>
   grind[a0H,a2O]
  |succ k=>
   have hb:(((L.length%8:Nat):Int) != 0)=true:=by grind
   rw[a0I (s':=(wL (L++[0]),())) (by
    simp only[a2O,h,hb,cT,b4T (show L.length<1000000000 by omega),oB])]
   rw[b5u k (L++[0]) (by grind[a3T]) (by grind)]
   grind
theorem c4F(h:L.length<800000000):a3W (wL L)=some (wL (a2i L)):=by
 unfold a3W;rw[b5u _ L rfl (by unfold a3T;omega)];rfl
def a4F(L:List Int):List Int:=(wL (a2i L)).1
theorem b3m(L:List Int):(a4F L).length=(L.length+7) / 8∧8*(a4F L).length=(a2i L).length:=by
 grind[a4I,a2i,a4F,a3T]
def a4K(f:a1e)(L:List Int):List Int:=a1u f (a4F L).length++a4F L
def a1Y(f:a1e)(L:List Int):List Int:=a4K f L++[a2o (a4K f L) / 256,a2o (a4K f L)%256]
theorem b2v{f:a1e}(g:frP f)(h:L.length≤5600000):(a4K f L).length≤700700∧(a4F L).length≤700000:=by
 grind[b3m,b9n,a4K,a1u]
theorem b9o{f:a1e}(j:a3u f=some true)(d:frP f)(e:f.2.2.2.2.1.length≤8)(m:∀s∈f.2.2.2.2.1,SmallS s∧(a1O s f.2.1).isSome=true):
  ∃zs:List PZ,zs.map (·.1)=f.2.2.2.2.1∧(∀p∈zs,c2J f.2.1 p)∧(a0J zs).length≤5600000∧
   some (((a0J zs).length:Nat):Int)=f.2.2.2.2.1.foldr (fun s a=>a.bind fun a=>(a2L (s,f.2.1)).bind fun c=>some (c+a)) (some 0)∧a2P f=some (a1Y f (a0J zs),0):=by
 obtain⟨zs,k1,k2,k3,⟨-,n⟩,k6⟩:=b6S f f.2.2.2.2.1 e f.2.2.2.2.1 [] [] rfl m (by grind);have b:(a0J zs).length≤5600000:=by omega
 refine⟨zs,k1,k2,b,n,?_⟩;rw[a16,a21]at k6;have hp:=b2v d b;have k:wL []=(([]:List Int),(0:Int),()):=rfl;rw[k]at k6;have g:(a2i (a0J zs)).length<1000000000:=by
  grind[b3m]
 have l:=b3U (a4K f (a0J zs));have h:a1u f (a4F (a0J zs)).length++a4F (a0J zs)=a4K f (a0J zs):=rfl;have i:(a1u f (a4F (a0J zs)).length).length+(a4F (a0J zs)).length=(a4K f (a0J zs)).length:=by grind
 unfold a2P;simp only[j,oB,bT,cF]
 erw[k6]
 simp only[oB,c4F (show(a0J zs).length<800000000 by omega),c4E g]
 erw[c2H d (show(a4F (a0J zs)).length≤1048576 by omega)]
 simp only[oB,a06];rw[show(wL (a2i (a0J zs))).1=a4F (a0J zs)from rfl];rw[h,a1c (by omega),cT,b5r (show short (a4K f (a0J zs))by unfold short;omega)]
 simp
 rw[a0S (by omega),d0G l];simp only[oB];rw[a1c (by grind),cT];rfl
end Go.Ab
