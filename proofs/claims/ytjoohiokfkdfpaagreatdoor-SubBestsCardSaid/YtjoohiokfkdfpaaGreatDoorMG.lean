/- Part of the proof: PA. Conditions: as each statement tells. -/
import Derived.KernelRfl
import Derived.Test.YtjoohiokfkdfpaaGreatDoorMF
noncomputable section
set_option linter.unusedSimpArgs false
set_option linter.unusedVariables false
open BitVec renaming ofInt→a07,ofInt_natCast→a29,toNat_ofNat→a33,toNat_and→a73
open Bool renaming and_self→a02,not_false→a16,true_and→a21,not_eq_true'→a41,or_eq_true→a55,and_eq_true_iff→a60,eq_iff_iff→a75,and_false→a77
open Int renaming eq_ofNat_of_zero_le→a03,natCast_dvd_natCast→a25,toNat→a38,dvd_mul_of_dvd_left→a40,mul_fdiv_cancel_left→a49,dvd_add_left→a50,tmod→a62,cast_ofNat_Int→a64,natCast_nonneg→a65
open List renaming drop_eq_getElem_cons→a00,replicate→a01,getElem_mem→a04,append_eq→a05,drop_zero→a08,take_of_length_le→a09,nil_append→a17,take_length→a18,zipWith→a20,mem_of_mem_take→a22,mem_of_mem_drop→a23,all_cons→a26,replicate_succ'→a28,drop_length→a31,length_take→a32,length_drop→a37,take_succ_eq_append_getElem→a42,getElem_zip→a43,append_nil→a44,set_cons_zero→a47,take→a48,length_eq_zero_iff→a52,set_append_right→a57,singleton_append→a58,sum_cons→a61,getD→a68,drop→a69,cons_append→a70,take_zero→a78
open Nat renaming lt_trans→a06,div_le_self→a24,lt_of_le_of_lt→a27,pow_le_pow_right→a30,le_refl→a34,mul_le_mul_right→a35,mod_eq_of_lt→a36,two_pow_pos→a45,testBit_two_pow_mul_add→a46,sub_self→a51,le_of_lt→a53,div_add_mod→a54,pow_dvd_pow→a56,mul_le_mul→a59,one_le_two_pow→a63,mul_comm→a66,add_zero→a67,mul_add→a71,mul_one→a72,lt_of_not_le→a74,mod_lt→a76
open Option renaming map_eq_some_iff→a19,bind_eq_some_iff→a39
namespace Go.Ab
variable {L c d g ks l r row t wm:List Int}{N i j m o w:Nat}{k lag n warm x:Int}{zn:List Nat}
open IntKind(wrap)
section
variable {σ β:Type} {f:σ→Option (σ ⊕ β)}
theorem b2z:∀(n m:Nat)(s:σ){b:β},j0z f n s=some b→j0z f (n+m) s=some b
 |0,_,s,b,h=>by simp[j0z]at h
 |n+1,m,s,b,h=>by
  rw[show n+1+m=n+m+1 from by omega];simp only[j0z]at h⊢
  split at h
  cases h;rename_i s' g;exact b2z n m s' h;exact h
theorem b7r{n:Nat}{s:σ}{b b':β}(h:j0z f n s=some b)(k:j0z f m s=some b'):b=b':=by
 have a:=b2z n m s h;have g:=b2z m n s k;rw[Nat.add_comm,a]at g;exact Option.some.inj g
theorem c4j{n:Nat}{s:σ}{b:β}(h:j0z f n s=some b):v0v f s=some b:=by
 unfold v0v;have g:∃n b,j0z f n s=some b:=⟨n,b,h⟩;rw[dif_pos g];exact congrArg some (b7r g.choose_spec.choose_spec h)
theorem b7b{n:Nat}{s:σ}{b:β}(h:j0z f n s=some b):y0s f s=some b:=by
 unfold y0s;split;rename_i k g;rw[b7r g h];exact c4j h
theorem b7s{s:σ}(h:∀n,j0z f n s=none):y0s f s=none:=by
 unfold y0s;rw[h 400];show v0v f s=none;unfold v0v;rw[dif_neg]
 rintro⟨n,b,g⟩
 rw[h n]at g;cases g
theorem a0D{s:σ}{b:β}(h:f s=some (.inr b)):y0s f s=some b:=b7b (n:=1) (by simp[j0z,h])
theorem a0H{s s':σ}(h:f s=some (.inl s')):y0s f s=y0s f s':=by
 by_cases hx:∃n b,j0z f n s'=some b
 obtain⟨n,b,k⟩:=hx;rw[b7b k];exact b7b (n:=n+1) (by simp[j0z,h,k])
 ·have g:∀n,j0z f n s'=none:=fun n=>by
   cases hn:j0z f n s' with
   |none=>rfl
   |some b=>exact absurd ⟨n,b,hn⟩ hx
  rw[b7s g];refine b7s fun n=>?_
  cases n with
  |zero=>rfl
  |succ n=>simp[j0z,h,g n]
theorem c1z(S:Nat→σ)(n:Nat){b:β}(g:∀i,i<n→f (S i)=some (.inl (S (i+1))))(h:f (S n)=some (.inr b)):∀(k:Nat),k≤n→y0s f (S (n-k))=some b
 |0,_=>a0D h
 |k+1,hk=>by
  rw[a0H (g (n-(k+1)) (by omega)),show n-(k+1)+1=n-k from by omega];exact c1z S n g h k (by omega)
theorem a0R(S:Nat→σ)(n:Nat){b:β}(g:∀i,i<n→f (S i)=some (.inl (S (i+1))))(h:f (S n)=some (.inr b)):y0s f (S 0)=some b:=by
 have:=c1z S n g h n (a34 _)
 rwa [a51]at this
end
theorem a0I{n:Int}(h:-9223372036854775808≤n∧n≤9223372036854775807):wrap .i64 n=n:=by
 simp only[wrap,IntKind.bits,IntKind.signed]
 simp
 split<;>omega
theorem a1c{n:Int}(h:0≤n∧n<18446744073709551616):wrap .u64 n=n:=by
 simp only[wrap,IntKind.bits,IntKind.signed]
 simp
 omega
theorem b7c(x y:Int):v0s x y=min x y:=by
 simp only[v0s,cond_eq_ite,dT]
 split<;>omega
theorem c1A(x y:Int):v0r x y=max x y:=by
 simp only[v0r,cond_eq_ite,dT]
 split<;>omega
theorem a7R{n:Nat}(h:n<2147483648):lim n=true:=by simp[lim,h]
section
variable {α A σ β:Type}
def a2q(g:A→α→A ⊕ β):List α→A→A ⊕ β
 | [],a=>.inl a
 |x::r,a=>match g a x with
  |.inl a'=>a2q g r a'
  |.inr b=>.inr b
def a8L(fin:A→β):A ⊕ β→β
 |.inl a=>fin a
 |.inr b=>b
theorem b2h{f:σ→Option (σ ⊕ β)}(l:List α)(S:Nat→A→σ)(g:A→α→A ⊕ β)(I:Nat→A→Prop)(e:A→β)
  (d:∀i (h:i<l.length) a,I i a→(∀a',g a l[i]=.inl a'→f (S i a)=some (.inl (S (i+1) a'))∧I (i+1) a')∧(∀b,g a l[i]=.inr b→f (S i a)=some (.inr b)))
  (c:∀a,I l.length a→f (S l.length a)=some (.inr (e a))):∀(k i:Nat)(a:A),i+k=l.length→I i a→y0s f (S i a)=some (a8L e (a2q g (l.drop i) a))
 |0,i,a,hi,ha=>by
  obtain rfl:i=l.length:=by omega
  rw[a31];exact a0D (c a ha)
 |k+1,i,a,hi,ha=>by
  have j:i<l.length:=by omega
  rw[a00 j];obtain⟨m,n⟩:=d i j a ha;simp[a2q];cases hg:g a l[i]with
  |inl a'=>
   obtain⟨o,p⟩:=m a' hg;rw[a0H o];exact b2h l S g I e d c k (i+1) a' (by omega) p
  |inr b=>exact a0D (n b hg)
theorem a1U{f:σ→Option (σ ⊕ β)}(l:List α)(S:Nat→A→σ)(g:A→α→A ⊕ β)(I:Nat→A→Prop)(k:A→β)
  (d:∀i (h:i<l.length) a,I i a→(∀a',g a l[i]=.inl a'→f (S i a)=some (.inl (S (i+1) a'))∧I (i+1) a')∧(∀b,g a l[i]=.inr b→f (S i a)=some (.inr b)))
  (c:∀a,I l.length a→f (S l.length a)=some (.inr (k a))){a:A}(e:I 0 a):y0s f (S 0 a)=some (a8L k (a2q g l a)):=by
 have:=b2h l S g I k d c l.length 0 a (by omega) e
 simp_all
theorem a1w{f:σ→Option (σ ⊕ β)}(l:List α)(S:Nat→σ)(p:α→Bool){bt bf:β}
  (k:∀i (h:i<l.length),p l[i]=true→f (S i)=some (.inl (S (i+1))))(b:∀i (h:i<l.length),p l[i]=false→f (S i)=some (.inr bf))
  (g:f (S l.length)=some (.inr bt)):y0s f (S 0)=some (bif l.all p then bt else bf):=by
 have h:=a1U (A:=Unit) l (fun i _=>S i) (fun _ x=>bif p x then .inl ()else .inr bf) (fun _ _=>True) (fun _=>bt) (fun i h a _=>?_) (fun _ _=>g) (a:=()) trivial
 ·rw[h];congr 1;clear h k b g
  induction l with
  |nil=>rfl
  |cons x l ih=>
   simp[a2q];cases p x with
   |true=>simp_all
   |false=>rfl
 grind
end
theorem a0C{α:Type}{l:List α}{i:Nat}(h:i<l.length):m0k l (i:Int)=some l[i]:=by
 simp_all[m0k]
def a0A(x:Int):Bool:=decide (-1073741824≤x)&&decide (x<1073741824)
theorem a2D{x:Int}:a0A x=true↔-1073741824≤x∧x<1073741824:=by simp[a0A]
def short{α:Type}(l:List α):Prop:=l.length<1000000
theorem a0B{i:Nat}(h:i<1000000):wrap .i64 ((i:Int)+1)=((i+1:Nat):Int):=by
 grind[a0I]
theorem dlt{n:Nat}(h:i<n):decide ((i:Int)<(n:Int))=true:=by simp_all
theorem a3s{l:List Int}(a:short l):a2l l=some (l.all a0A):=by
 unfold a2l
 have:=a1w (f:=a2u) l (fun i=>(l,(l.length:Int),(i:Int),())) a0A (bt:=Sum.inl ()) (bf:=Sum.inr (false,()))
  (fun i h hp=>by
   have hp:=a2D.1 hp;have g:decide (l[i] < -1073741824)=false:=by simp_all
   have k:decide (l[i]≥1073741824)=false:=by simp_all
   simp only[a2u,dlt h,cT,a0C h,oB,g,k,cF,a0B (a06 h a)])
  (fun i h hp=>by
   simp only[a2u,dlt h,cT,a0C h,oB]
   grind[a0A])
  (by simp[a2u])
 grind
theorem a5Q(x:Int):a4N x=some (a0A x):=by
 grind[a4N,a0A]
theorem a7d(x:Int):a6E x=some (a0A x):=by
 grind[a6E,a0A]
theorem a4U(x:Int):a5M x=some (a0A x):=by
 grind[a5M,a0A]
theorem a1X(x:Int):a2y x=some (a0A x):=by
 grind[a2y,a0A]
theorem b2i(x:Int):a4M x=some (a0A x):=by
 grind[a4M,a0A]
theorem a4c(g:short l):a2v l=some (l.all a0A):=by
 unfold a2v
 have:=a1w (f:=a3j) l (fun i=>(l,(l.length:Int),(i:Int),())) a0A (bt:=Sum.inl ()) (bf:=Sum.inr (false,()))
  (fun i h hp=>by simp[a3j,a0C h,a5Q,hp,a0B (a06 h g),h])
  (fun i h hp=>by simp_all[a3j,a0C,a5Q])
  (by simp[a3j])
 grind
theorem b1x(g:short l):a4k l=some (l.all a0A):=by
 unfold a4k
 have:=a1w (f:=a3V) l (fun i=>(l,(l.length:Int),(i:Int),())) a0A (bt:=Sum.inl ()) (bf:=Sum.inr (false,()))
  (fun i h hp=>by simp[a3V,a0C h,a7d,hp,a0B (a06 h g),h])
  (fun i h hp=>by simp_all[a3V,a0C,a7d])
  (by simp[a3V])
 grind
theorem b0Z(g:short l):a4Z l=some (l.all a0A):=by
 unfold a4Z
 have:=a1w (f:=a3z) l (fun i=>(l,(l.length:Int),(i:Int),())) a0A (bt:=Sum.inl ()) (bf:=Sum.inr (false,()))
  (fun i h hp=>by simp[a3z,a0C h,a4U,hp,a0B (a06 h g),h])
  (fun i h hp=>by simp_all[a3z,a0C,a4U])
  (by simp[a3z])
 grind
theorem a0N(g:short l):a0Q l=some (l.all a0A):=by
 unfold a0Q
 have:=a1w (f:=a5e) l (fun i=>(l,(i:Int),())) a0A (bt:=Sum.inl ()) (bf:=Sum.inr (false,()))
  (fun i h hp=>by simp[a5e,a0C h,a1X,hp,a0B (a06 h g),h])
  (fun i h hp=>by simp_all[a5e,a0C,a1X])
  (by simp[a5e])
 grind
theorem a6C(h:short l):a2M l=some (l.all a0A):=by
 have e:b1r=a2u:=rfl
 have:a2M l=a2l l:=by rfl
 simp_all[a3s]
def b2A(x:Int):Bool:=decide (-32768≤x)&&decide (x<32768)
def a5R(c:List Int)(s:Int):Bool:=decide (1≤c.length)&&(decide (c.length≤32)&&(decide (0≤s)&&(decide (s≤15)&&c.all b2A)))
theorem a8b{c:List Int}{s:Int}(a:short c):a4u (c,s)=some (a5R c s):=by
 have:=a1w (f:=a4X) c (fun i=>(c,(c.length:Int),(i:Int),())) b2A (bt:=Sum.inl ()) (bf:=Sum.inr (false,()))
  (fun i h hp=>by
   simp[b2A]at hp;have g:¬ c[i] < -32768:=by omega
   have k:¬ c[i]≥32768:=by omega
   simp[a4X,a0C h,a0B (a06 h a),h,g,k])
  (fun i h hp=>by
   grind[b2A,a4X,a0C])
  (by simp[a4X])
 simp at this;unfold a4u a5R
 grind
theorem a4E{c:List Int}{s:Int}(a:short c):a2T (c,s)=some (a5R c s):=by
 have:=a1w (f:=a3E) c (fun i=>(c,s,(i:Int),())) b2A (bt:=Sum.inl (c,s,())) (bf:=Sum.inr (false,()))
  (fun i h hp=>by
   simp[b2A]at hp;have g:¬ c[i] < -32768:=by omega
   have k:¬ c[i]≥32768:=by omega
   simp[a3E,a0C h,a0B (a06 h a),h,g,k])
  (fun i h hp=>by
   grind[b2A,a3E,a0C])
  (by simp[a3E])
 simp at this;unfold a2T a5R
 grind
def b4W(x:Int):Bool:=decide (-64≤x)&&decide (x≤64)
def a6i(lag:Int)(t:List Int):Bool:=decide (2≤lag)&&(decide (lag≤1024)&&t.all b4W)
theorem b1V(g:t.length=3):a7l (lag,t)=some (a6i lag t):=by
 have:=a1w (f:=a6s) t (fun i=>(t,(i:Int),())) b4W (bt:=Sum.inl ()) (bf:=Sum.inr (false,()))
  (fun i h hp=>by
   simp[b4W]at hp
   grind[a6s,a0C,a0B])
  (fun i h hp=>by
   grind[b4W,a6s,a0C])
  (by simp_all[a6s])
 simp at this;unfold a7l a6i
 grind
theorem a9h{t:List Int}{lag:Int}(g:t.length=3):a4R (lag,t)=some (a6i lag t):=by
 have:=a1w (f:=a4B) t (fun i=>(lag,(i:Int),t,())) b4W (bt:=Sum.inl (lag,())) (bf:=Sum.inr (false,()))
  (fun i h hp=>by
   simp[b4W]at hp
   grind[a4B,a0C,a0B])
  (fun i h hp=>by
   grind[b4W,a4B,a0C])
  (by simp_all[a4B])
 simp at this;unfold a4R a6i
 grind
def a2Z(s:Int×(Int×Unit)):Bool:=decide (1≤s.1)&&(decide (s.1≤32)&&(decide (0≤s.2.1)&&decide (s.2.1≤8)))
def a4F(l:List (Int×Int×Unit)):Bool:=decide (l.length≤3)&&l.all a2Z
theorem a9i(s:Int×(Int×Unit)):a6t s=some (a2Z s):=by
 grind[a6t,a2Z]
theorem a8M(s:Int×(Int×Unit)):a5P s=some (a2Z s):=by
 grind[a5P,a2Z]
theorem b1a{l:List (Int×Int×Unit)}(g:short l):a6D l=some (a4F l):=by
 have:=a1w (f:=a5J) l (fun i=>(l,(l.length:Int),(i:Int),())) a2Z (bt:=Sum.inl ()) (bf:=Sum.inr (false,()))
  (fun i h hp=>by simp[a5J,a0C h,a9i,hp,a0B (a06 h g),h])
  (fun i h hp=>by simp_all[a5J,a0C,a9i])
  (by simp[a5J])
 simp at this;unfold a6D a4F
 grind
theorem a8N{l:List (Int×Int×Unit)}(g:short l):a4s l=some (a4F l):=by
 have:=a1w (f:=a3Y) l (fun i=>(l,(i:Int),())) a2Z (bt:=Sum.inl (l,())) (bf:=Sum.inr (false,()))
  (fun i h hp=>by simp[a3Y,a0C h,a8M,hp,a0B (a06 h g),h])
  (fun i h hp=>by simp_all[a3Y,a0C,a8M])
  (by simp[a3Y])
 simp at this;unfold a4s a4F;rw[this];cases l.all a2Z with
 |false=>simp
 |true=>
  by_cases h:l.length≤3
  all_goals grind
@[reducible] def W(n:Int):Int:=wrap .i64 n
theorem a5X(n:Int):wrap .i64 n=Int.bmod n 18446744073709551616:=by
 grind[wrap,IntKind.bits,IntKind.signed]
theorem b1y{n:Int}(h:a0A n=true):W n=n:=by
 grind[a2D,a0I]
def a3a(guess:List Int→Int):List Int→List Int→Option (List Int)
 | [],out=>some out
 |x::r,out=>bif a0A (W (x+guess out))then a3a guess r (out++[W (x+guess out)])else none
def a6W{β:Type}(guess:List Int→Int)(bad:β)(out:List Int)(x:Int):List Int ⊕ β:=bif a0A (W (x+guess out))then .inl (out++[W (x+guess out)])else .inr bad
theorem a6j{β:Type}(h:List Int→Int)(g:β)(f:List Int→β):∀(l out:List Int),a8L f (a2q (a6W h g) l out)=match a3a h l out with|some r=>f r|none=>g
 | [],out=>rfl
 |x::l,out=>by
  simp[a2q,a6W,a3a];cases a0A (W (x+h out))with
  |true=>simp_all[a6j]
  |false=>rfl
theorem b0N(g:List Int→Int):∀(l out r:List Int),out.all a0A=true→a3a g l out=some r→r.all a0A=true∧r.length=out.length+l.length
 | [],out,r,h,e=>by simp_all[a3a]
 |x::l,out,r,h,e=>by
  simp[a3a]at e;cases hw:a0A (W (x+g out))with
  |true=>
   rw[hw]at e;obtain⟨f,k⟩:=b0N g l _ r (by simp_all) e
   grind
  |false=>simp_all
def a1V:Option (List Int)→List Int×Int
 |some r=>(r,0)
 |none=>([],6)
def atB(out:List Int)(i:Nat):Int:=out.getD (out.length-i) 0
def a3g(o:Nat)(out:List Int):Int:=match o with
 | 1=>atB out 1
 | 2=>2*atB out 1-atB out 2
 | 3=>3*atB out 1-3*atB out 2+atB out 3
 | 4=>4*atB out 1-6*atB out 2+4*atB out 3-atB out 4
 |_=>0
theorem b0O{out:List Int}(f:1≤i)(h:i≤out.length)(g:short out):a1f ((i:Int),out)=some (atB out i,out):=by
 unfold a1f;have g:out.length<1000000:=g
 grind[a0I,a0C,atB]
theorem b7d{out:List Int}(e:o≤4)(h:o≤out.length)(a:short out):∃g,a7U (out,(o:Int))=some g∧∀x,W (x+g)=W (x+a3g o out):=by
 have f:=fun(h':1≤out.length)=>b0O (i:=1) (by omega) h' a;have k:=fun(h':2≤out.length)=>b0O (i:=2) (by omega) h' a;have b:=fun(h':3≤out.length)=>b0O (i:=3) (by omega) h' a;have c:=fun(h':4≤out.length)=>b0O (i:=4) (by omega) h' a;simp at f k b c;unfold a7U;have d:o=0∨o=1∨o=2∨o=3∨o=4:=by omega
 rcases d with rfl|rfl|rfl|rfl|rfl;exact⟨0,rfl,fun x=>rfl⟩;exact⟨_,by simp[f (by omega)];rfl,fun x=>rfl⟩;refine⟨_,by simp[f (by omega),k (by omega)];rfl,fun x=>?_⟩;simp_all[a5X,a3g];refine⟨_,by simp[f (by omega),k (by omega),b (by omega)];rfl,fun x=>?_⟩;simp_all[a5X,a3g];refine⟨_,by simp[f (by omega),k (by omega),b (by omega),c (by omega)];rfl,fun x=>?_⟩;simp_all[a5X,a3g]
theorem a0G{n:Nat}(h:n<1000000):lim n=true:=a7R (by omega)
theorem b8h{warm rest:List Int}(v:o≤4)(y:warm.length=o)(x:rest.length<100000):
  a8v (warm,rest,(o:Int))=some (a1V (bif warm.all a0A&&rest.all a0A then a3a (a3g o) rest warm else none)):=by
 have c:short warm:=by unfold short;omega
 have m:short rest:=by unfold short;omega
 unfold a8v;have p:¬ (o:Int)<0:=by omega
 have q:¬ (o:Int) > 4:=by omega
 have r:(((warm.length:Nat):Int) != (o:Int))=false:=by simp_all
 simp only[p,q,r,decide_false,cF,oB,a6C c,a6C m];cases hw1:warm.all a0A with
 |false=>rfl
 |true=>
  simp only[bT,cF,oB,a21];cases hw2:rest.all a0A with
  |false=>rfl
  |true=>
   simp[a0G c]
   have:=a1U (f:=a6Q) rest (fun i out=>((o:Int),rest,(rest.length:Int),(i:Int),out,())) (a6W (a3g o) (Sum.inr ((6:Int),([]:List Int),())))
    (fun i out=>o≤out.length∧out.length≤o+i) (fun out=>Sum.inl (out,()))
    (fun i h out s=>by
     have j:i<1000000:=by omega
     have l:short out:=by unfold short;omega
     obtain⟨g,u,d⟩:=b7d v s.1 l;have e:wrap .i64 (rest[i]+g)=W (rest[i]+a3g o out):=d _;have k:a2M [W (rest[i]+a3g o out)]=some (a0A (W (rest[i]+a3g o out))):=by rw[a6C (by simp[short])];simp
     simp only[a6Q,dlt h,cT,a0C h,oB,u,e,k,a6W];cases t:a0A (W (rest[i]+a3g o out))with
     |true=>
      simp only[cT,bT,cF,a0G (show out.length+1<1000000 by omega),a0B j];refine⟨fun w n=>?_,fun b t=>(by grind)⟩;simp at n;subst n;exact⟨rfl,by grind,by grind⟩
     |false=>
      simp)
    (fun out _=>by simp[a6Q]) (a:=warm) ⟨by omega,by omega⟩
   simp[a6j]at this;rw[this];cases a3a (a3g o) rest warm<;>rfl
def a9W(o:Nat):List Int:=match o with
 | 1=>[1]
 | 2=>[2,-1]
 | 3=>[3,-3,1]
 | 4=>[4,-6,4,-1]
 |_=>[]
theorem c3C(g:o≤4):b0Y (o:Int)=some (a9W o):=by
 have h:o=0∨o=1∨o=2∨o=3∨o=4:=by omega
 rcases h with rfl|rfl|rfl|rfl|rfl<;>rfl
theorem c1a{o:Nat}(g:o≤4):(a9W o).length=o:=by
 have h:o=0∨o=1∨o=2∨o=3∨o=4:=by omega
 rcases h with rfl|rfl|rfl|rfl|rfl<;>rfl
def b3t(o:Nat)(out:List Int)(x:Int):Nat→Int
 |0=>x
 |k+1=>W (b3t o out x k+W ((a9W o).getD k 0*atB out (k+1)))
theorem b5P{rest out:List Int}{i:Int}(q:o≤4)(h:o≤out.length)(g:short out)(r:a0A x=true):
  y0s a3G (rest,(o:Int),a9W o,i,x,(0:Int),out,())=some (rest,(o:Int),a9W o,i,W (x+a3g o out),out,()):=by
 have g:out.length<1000000:=g
 have:=a0R (f:=a3G) (fun k=>(rest,(o:Int),a9W o,i,b3t o out x k,(k:Int),out,()))
  o (b:=(rest,(o:Int),a9W o,i,b3t o out x o,out,())) (fun k n=>by
   have a:wrap .i64 (((out.length:Nat):Int)-1)=((out.length-1:Nat):Int):=by grind[a0I]
   have c:wrap .i64 (((out.length-1:Nat):Int)-(k:Int))=((out.length-(k+1):Nat):Int):=by grind[a0I]
   have d:(0:Int)≤((out.length-(k+1):Nat):Int):=by omega
   have e:((out.length-(k+1):Nat):Int)<((out.length:Nat):Int):=by omega
   have j:k<(a9W o).length:=by simp_all[c1a]
   have l:(a9W o)[k]=(a9W o).getD k 0:=by simp_all
   simp only[a3G,dlt n,cT,a0C j,oB,a,c,d,e,decide_true,a02,tN,a0B (show k<1000000 by omega),b3t,atB,l])
  (by simp[a3G])
 simp[b3t]at this;rw[this];have p:b3t o out x o=W (x+a3g o out):=by
  have m:o=0∨o=1∨o=2∨o=3∨o=4:=by omega
  rcases m with rfl|rfl|rfl|rfl|rfl;simp_all[b3t,a3g,b1y]
  all_goals
   simp only[b3t,a9W,a3g,List.getD_cons_zero,List.getD_cons_succ,Nat.zero_add,Nat.reduceAdd,W,a5X,Int.add_bmod_bmod,Int.bmod_add_bmod]
   grind
 grind
theorem b4X{warm rest:List Int}{o:Nat}(m:o≤4)(v:warm.length=o)(u:rest.length<100000):
  a6T (warm,rest,(o:Int))=some (a1V (bif warm.all a0A&&rest.all a0A then a3a (a3g o) rest warm else none)):=by
 have e:short warm:=by unfold short;omega
 have d:short rest:=by unfold short;omega
 unfold a6T;have n:¬ (o:Int)<0:=by omega
 have p:¬ (o:Int) > 4:=by omega
 have q:(((warm.length:Nat):Int) != (o:Int))=false:=by simp_all
 simp only[n,p,q,decide_false,cF,oB,a0N e,a0N d];cases hw1:warm.all a0A with
 |false=>rfl
 |true=>
  simp only[bT,cF,oB,a21];cases hw2:rest.all a0A with
  |false=>rfl
  |true=>
   have k:lim (0+warm.length)=true:=a0G (by omega);simp only[bT,cF,cT,k,c3C m,oB,a05,a17]
   have:=a1U (f:=a5n) rest (fun i out=>(rest,(o:Int),a9W o,(i:Int),out,())) (a6W (a3g o) (Sum.inr ((6:Int),([]:List Int),())))
    (fun i out=>o≤out.length∧out.length≤o+i) (fun out=>Sum.inl (out,()))
    (fun i h out r=>by
     have g:i<1000000:=by omega
     have c:short out:=by unfold short;omega
     have j:a0A rest[i]=true:=lA.1 hw2 _ (a04 h);simp only[a5n,dlt h,cT,a0C h,oB,b5P m r.1 c j,a1X,a6W];cases s:a0A (W (rest[i]+a3g o out))with
     |true=>
      simp only[cT,bT,cF,a0G (show out.length+1<1000000 by omega),a0B g];refine⟨fun t l=>?_,fun b s=>(by grind)⟩;simp at l;subst l;exact⟨rfl,by grind,by grind⟩
     |false=>
      simp)
    (fun out _=>by simp[a5n]) (a:=warm) ⟨by omega,by omega⟩
   simp[a6j]at this;rw[this];cases a3a (a3g o) rest warm<;>rfl
def b3u(out:List Int):List Int→Nat→Int→Int
 | [],_,acc=>acc
 |c::r,i,acc=>bif decide (i<out.length)then b3u out r (i+1) (W (acc+W (c*atB out (i+1))))else acc
def a5z(c:List Int)(s:Int)(out:List Int):Int:=A0o .i64 (b3u out c 0 0) s
theorem c3D{out:List Int}(h:i<out.length)(g:short out):m0k out (wrap .i64 (wrap .i64 (((out.length:Nat):Int)-1)-(i:Int)))=some (atB out (i+1)):=by
 have g:out.length<1000000:=g
 grind[a0I,a0C,atB]
theorem c4k{out:List Int}(h:i<out.length)(g:out.all a0A=true):a0A (atB out (i+1))=true:=by
 grind[atB]
theorem b3v{out c:List Int}{s:Int}(f:short out)(a:short c):∀(k i:Nat)(acc:Int),i+k=c.length→
  y0s a3k (out,s,acc,c,(c.length:Int),(i:Int),())=some (s,b3u out (c.drop i) i acc,())
 |0,i,acc,h=>by
  obtain rfl:i=c.length:=by omega
  simp_all[a0D,a3k,b3u]
 |k+1,i,acc,h=>by
  have g:i<c.length:=by omega
  have e:out.length<1000000:=f;have d:c.length<1000000:=a;rw[a00 g,b3u];have j:wrap .i64 (((out.length:Nat):Int)-1)=((out.length:Nat):Int)-1:=a0I (by omega);have l:wrap .i64 (((out.length:Nat):Int)-1-(i:Int))=((out.length:Nat):Int)-1-(i:Int):=a0I (by omega)
  by_cases hi:i<out.length
  have b:decide (wrap .i64 (wrap .i64 (((out.length:Nat):Int)-1)-(i:Int))<0)=false:=by grind
  simp[hi];rw[a0H (s':=(out,s,W (acc+W (c[i]*atB out (i+1))),c,(c.length:Int),((i+1:Nat):Int),())) (by
   simp only[a3k,dlt g,cT,a0C g,oB,b,cF,c3D hi f,a0B (show i<1000000 by omega)])]
  exact b3v f a k (i+1) _ (by omega);have b:decide (wrap .i64 (wrap .i64 (((out.length:Nat):Int)-1)-(i:Int))<0)=true:=by grind
  simp[hi];simp_all[a0D,a3k,a0C]
theorem b2B{out:List Int}{s:Int}(g:short out)(h:short c)(f:0≤s):a4v (out,c,s)=some (a5z c s out):=by
 have:=b3v (s:=s) g h c.length 0 0 (by omega)
 grind[a4v,a5z]
theorem b5Q{out c:List Int}{s:Int}(f:short out)(a:short c)(b:out.all a0A=true):∀(k i:Nat)(acc:Int),i+k=c.length→
  y0s a2U (out,c,s,acc,(i:Int),())=some (Sum.inl (s,b3u out (c.drop i) i acc,()))
 |0,i,acc,h=>by
  obtain rfl:i=c.length:=by omega
  simp_all[a0D,a2U,b3u]
 |k+1,i,acc,h=>by
  have g:i<c.length:=by omega
  have j:out.length<1000000:=f;have d:c.length<1000000:=a;rw[a00 g,b3u]
  by_cases hi:i<out.length
  simp[hi];rw[a0H (s':=(out,c,s,W (acc+W (c[i]*atB out (i+1))),((i+1:Nat):Int),())) (by
   simp only[a2U,dlt g,dlt hi,cT,c3D hi f,oB,a1X,c4k hi b,bT,cF,a0C g,a0B (show i<1000000 by omega)])]
  exact b5Q f a b k (i+1) _ (by omega);have e:decide ((i:Int)<((out.length:Nat):Int))=false:=by simp_all
  simp[hi];exact a0D (by simp only[a2U,dlt g,cT,e,cF])
theorem b4v{s:Int}(h:0≤s)(g:s≤64):wrap .u64 s=s:=a1c (by omega)
theorem a9Q{out:List Int}{s:Int}(f:short out)(h:short c)(k:out.all a0A=true)(g:a5R c s=true):a3Z (out,c,s)=some (a5z c s out):=by
 have:=b5Q (s:=s) f h k c.length 0 0 (by omega)
 simp at this;unfold a3Z;simp[a4E h,g,this];simp only[a5R,bA,dT]at g
 grind[b4v,a5z]
def a8O(warm rest c:List Int)(s:Int):Option (List Int):=bif warm.all a0A&&rest.all a0A then a3a (a5z c s) rest warm else none
theorem b2j{warm rest:List Int}{s:Int}(o:a5R c s=true)(x:warm.length=c.length)(w:rest.length<100000):
  a6w (warm,rest,c,s)=some (a1V (a8O warm rest c s)):=by
 have g:=o;simp only[a5R,bA,dT]at g;have k:short c:=by unfold short;omega
 have m:short warm:=by unfold short;omega
 have l:short rest:=by unfold short;omega
 unfold a6w;have q:(((warm.length:Nat):Int) != ((c.length:Nat):Int))=false:=by simp_all
 simp only[a8b k,o,oB,bT,cF,q,a4c m,a4c l,a8O];cases hw1:warm.all a0A with
 |false=>rfl
 |true=>
  simp only[bT,cF,oB,a21];cases hw2:rest.all a0A with
  |false=>rfl
  |true=>
   have p:wrap .i64 (((warm.length:Nat):Int)+((rest.length:Nat):Int))=((warm.length+rest.length:Nat):Int):=by grind[a0I]
   have r:(0:Int)≤((warm.length+rest.length:Nat):Int):=by omega
   simp only[bT,cF,cT,p,r,decide_true,tN,a0G (show warm.length+rest.length<1000000 by omega),a0G (show 0+warm.length<1000000 by omega),a02,a05,a17]
   have:=a1U (f:=a6b) rest (fun i out=>(c,s,rest,(rest.length:Int),(i:Int),out,())) (a6W (a5z c s) (Sum.inr ((6:Int),([]:List Int),())))
    (fun i out=>out.length≤warm.length+i) (fun out=>Sum.inl (out,()))
    (fun i h out v=>by
     have d:i<1000000:=by omega
     have j:short out:=by unfold short;omega
     have e:wrap .i64 (a5z c s out+rest[i])=W (rest[i]+a5z c s out):=by grind
     simp only[a6b,dlt h,cT,a0C h,oB,b2B j k g.2.2.1,e,a5Q,a6W];cases t:a0A (W (rest[i]+a5z c s out))with
     |true=>
      simp only[cT,bT,cF,a0G (show out.length+1<1000000 by omega),a0B d];refine⟨fun u n=>?_,fun b t=>(by grind)⟩;simp at n;subst n;exact⟨rfl,by grind⟩
     |false=>
      simp)
    (fun out _=>by simp[a6b]) (a:=warm) (by omega)
   simp[a6j]at this;rw[this];cases a3a (a5z c s) rest warm<;>rfl
theorem b0D{warm rest c:List Int}{s:Int}(k:a5R c s=true)(u:warm.length=c.length)(t:rest.length<100000):
  a4C (warm,rest,c,s)=some (a1V (a8O warm rest c s)):=by
 have d:=k;simp only[a5R,bA,dT]at d;have g:short c:=by unfold short;omega
 have m:short warm:=by unfold short;omega
 have l:short rest:=by unfold short;omega
 unfold a4C;have o:(((warm.length:Nat):Int) != ((c.length:Nat):Int))=false:=by simp_all
 simp only[a4E g,k,oB,bT,cF,o,a0N m,a0N l,a8O];cases hw1:warm.all a0A with
 |false=>rfl
 |true=>
  simp only[bT,cF,oB,a21];cases hw2:rest.all a0A with
  |false=>rfl
  |true=>
   simp only[bT,cF,cT,a0G (show 0+warm.length<1000000 by omega),a05,a17]
   have:=a1U (f:=a4K) rest (fun i out=>(rest,c,s,(i:Int),out,())) (a6W (a5z c s) (Sum.inr ((6:Int),([]:List Int),())))
    (fun i out=>out.length≤warm.length+i∧out.all a0A=true) (fun out=>Sum.inl (out,()))
    (fun i h out p=>by
     have e:i<1000000:=by omega
     have j:short out:=by unfold short;omega
     simp only[a4K,dlt h,cT,a0C h,oB,a9Q j g p.2 k,a1X,a6W];cases q:a0A (W (rest[i]+a5z c s out))with
     |true=>
      simp only[cT,bT,cF,a0G (show out.length+1<1000000 by omega),a0B e];refine⟨fun r n=>?_,fun b q=>(by grind)⟩;simp at n;subst n;exact⟨rfl,by grind,by simp_all⟩
     |false=>
      simp)
    (fun out _=>by simp[a4K]) (a:=warm) ⟨by omega,hw1⟩
   simp[a6j]at this;rw[this];cases a3a (a5z c s) rest warm<;>rfl
def b3w(out:List Int)(lag:Int):List Int→Nat→Int→Int
 | [],_,acc=>acc
 |t::r,i,acc=>b3w out lag r (i+1) (bif decide (0≤(out.length:Int)-lag-1+i)then W (acc+W (t*out.getD ((out.length:Int)-lag-1+i).toNat 0))else acc)
def a3N(lag:Int)(t:List Int)(out:List Int):Int:=A0o .i64 (b3w out lag t 0 0) 6
theorem b2C{out:List Int}{j:Int}(g:0≤j)(h:j<out.length):m0k out j=some (out.getD j.toNat 0):=by
 obtain⟨n,rfl⟩:=a03 g;simp_all[a0C]
theorem c1B{n:Nat}(h:2≤lag)(g:lag≤1024)(k:n<1000000)(f:i<3):
  wrap .i64 (wrap .i64 (wrap .i64 ((n:Int)-lag)-1)+(i:Int))=(n:Int)-lag-1+i:=by
 grind[a0I]
theorem c3E{n:Nat}(h:j<n):(l.take n).getD j 0=l.getD j 0:=by
 simp_all
theorem a7H{l t:List Int}{lag:Int}{n:Nat}(m:n≤l.length)(j:short l)(o:t.length=3)(a:2≤lag)(b:lag≤1024):∀(k i:Nat)(acc:Int),i+k=3→
  y0s a3W (l,(n:Int),lag,acc,t,(i:Int),())=some (b3w (l.take n) lag (t.drop i) i acc,())
 |0,i,acc,h=>by
  obtain rfl:i=t.length:=by omega
  grind[a0D,a3W,b3w]
 |k+1,i,acc,h=>by
  have g:i<t.length:=by omega
  have f:decide ((i:Int)<3)=true:=by grind
  have p:l.length<1000000:=j;have d:(l.take n).length=n:=by simp_all
  have e:=c1B (n:=n) (i:=i) a b (by omega) (by omega);rw[a00 g,b3w,d]
  by_cases hp:0≤(n:Int)-lag-1+i
  have c:decide ((n:Int)-lag-1+i≥0)=true:=by simp_all
  simp only[hp,decide_true,cT];rw[c3E (show((n:Int)-lag-1+i).toNat<n by omega),a0H (s':=(l,(n:Int),lag,W (acc+W (t[i]*l.getD ((n:Int)-lag-1+i).toNat 0)),t,((i+1:Nat):Int),())) (by
   simp only[a3W,f,cT,a0C g,oB,e,c,b2C hp (show(n:Int)-lag-1+(i:Int)<(l.length:Int)by omega),a0B (show i<1000000 by omega)])]
  exact a7H m j o a b k (i+1) _ (by omega);have c:decide ((n:Int)-lag-1+i≥0)=false:=by simp_all
  simp[hp];rw[a0H (s':=(l,(n:Int),lag,acc,t,((i+1:Nat):Int),())) (by
   simp only[a3W,f,cT,a0C g,oB,e,c,cF,a0B (show i<1000000 by omega)])]
  exact a7H m j o a b k (i+1) _ (by omega)
theorem b1z{l t:List Int}{lag:Int}{n:Nat}(f:n≤l.length)(k:short l)(a:t.length=3)(h:2≤lag)(g:lag≤1024):
  a4l (l,(n:Int),lag,t)=some (a3N lag t (l.take n)):=by
 have:=a7H (t:=t) f k a h g 3 0 0 (by rfl)
 simp_all[a4l,a3N]
theorem b5R{out:List Int}(f:short out)(k:t.length=3)(h:2≤lag)(g:lag≤1024):a4l (out,(out.length:Int),lag,t)=some (a3N lag t out):=by
 simp_all[b1z]
theorem a7e{out t:List Int}{lag:Int}(d:short out)(l:t.length=3)(a:2≤lag)(b:lag≤1024):∀(k i:Nat)(acc:Int),i+k=3→
  y0s a3D (out,lag,acc,(i:Int),t,())=some (b3w out lag (t.drop i) i acc,())
 |0,i,acc,h=>by
  obtain rfl:i=t.length:=by omega
  grind[a0D,a3D,b3w]
 |k+1,i,acc,h=>by
  have f:i<t.length:=by omega
  have g:decide ((i:Int)<3)=true:=by grind
  have j:out.length<1000000:=d;have e:=c1B (i:=i) a b j (by omega);rw[a00 f,b3w]
  by_cases hp:0≤(out.length:Int)-lag-1+i
  have c:decide ((out.length:Int)-lag-1+i≥0)=true:=by simp_all
  simp only[hp,decide_true,cT];rw[a0H (s':=(out,lag,W (acc+W (t[i]*out.getD ((out.length:Int)-lag-1+i).toNat 0)),((i+1:Nat):Int),t,())) (by
   simp only[a3D,g,cT,a0C f,oB,e,c,b2C hp (show(out.length:Int)-lag-1+(i:Int)<(out.length:Int)by omega),a0B (show i<1000000 by omega)])]
  exact a7e d l a b k (i+1) _ (by omega);have c:decide ((out.length:Int)-lag-1+i≥0)=false:=by simp_all
  simp[hp];rw[a0H (s':=(out,lag,acc,((i+1:Nat):Int),t,())) (by
   simp only[a3D,g,cT,e,c,cF,a0B (show i<1000000 by omega)])]
  exact a7e d l a b k (i+1) _ (by omega)
theorem b1b{out:List Int}(f:short out)(k:t.length=3)(h:2≤lag)(g:lag≤1024):a5j (out,lag,t)=some (a3N lag t out):=by
 have:=a7e (out:=out) (t:=t) f k h g 3 0 0 (by rfl)
 simp_all[a5j,a3N]
def a9E(rest:List Int)(lag:Int)(t:List Int):Option (List Int):=bif rest.all a0A then a3a (a3N lag t) rest []else none
theorem b9q{rest:List Int}(d:a6i lag t=true)(e:t.length=3)(m:rest.length<100000):a9y (rest,lag,t)=some (a1V (a9E rest lag t)):=by
 have g:=d;simp only[a6i,bA,dT]at g;have k:short rest:=by unfold short;omega
 unfold a9y;simp only[b1V e,d,oB,bT,cF,b1x k,a9E];cases hw2:rest.all a0A with
 |false=>rfl
 |true=>
  have l:(0:Int)≤((rest.length:Nat):Int):=by omega
  simp[a0G k]
  have:=a1U (f:=a7o) rest (fun i out=>(lag,rest,(rest.length:Int),(i:Int),out,t,())) (a6W (a3N lag t) (Sum.inr ((6:Int),([]:List Int),())))
   (fun i out=>out.length=i) (fun out=>Sum.inl (out,()))
   (fun i h out j=>by
    have b:i<1000000:=by omega
    have c:short out:=by unfold short;omega
    have hp:=b5R (out:=out) (t:=t) (lag:=lag) c e g.1 g.2.1;rw[j]at hp;simp only[a7o,dlt h,cT,a0C h,oB,hp,a7d,a6W];cases hb:a0A (W (rest[i]+a3N lag t out))with
    |true=>
     simp only[cT,bT,cF,a0G (show out.length+1<1000000 by omega),a0B b];simp_all
    |false=>
     simp)
   (fun out _=>by simp[a7o]) (a:=[]) rfl
  simp[a6j]at this;rw[this];cases a3a (a3N lag t) rest []<;>rfl
theorem b5S{rest t:List Int}{lag:Int}(d:a6i lag t=true)(e:t.length=3)(l:rest.length<100000):a7x (rest,lag,t)=some (a1V (a9E rest lag t)):=by
 have g:=d;simp only[a6i,bA,dT]at g;have c:short rest:=by unfold short;omega
 unfold a7x;simp only[a9h e,d,oB,bT,cF,a0N c,a9E];cases hw2:rest.all a0A with
 |false=>rfl
 |true=>
  simp
  have:=a1U (f:=a5G) rest (fun i out=>(rest,lag,(i:Int),out,t,())) (a6W (a3N lag t) (Sum.inr ((6:Int),([]:List Int),())))
   (fun i out=>out.length=i) (fun out=>Sum.inl (out,()))
   (fun i h out j=>by
    have k:i<1000000:=by omega
    have b:short out:=by unfold short;omega
    simp only[a5G,dlt h,cT,a0C h,oB,b1b b e g.1 g.2.1,a1X,a6W];cases hb:a0A (W (rest[i]+a3N lag t out))with
    |true=>
     simp only[cT,bT,cF,a0G (show out.length+1<1000000 by omega),a0B k];simp_all
    |false=>
     simp)
   (fun out _=>by simp[a5G]) (a:=[]) rfl
  simp[a6j]at this;rw[this];cases a3a (a3N lag t) rest []<;>rfl
def b2k{β:Type}(n:Int)(bad:β)(out:List Int)(x:Int):List Int ⊕ β:=bif a0A x&&a0A (A0n .i64 x n)then .inl (out++[A0n .i64 x n])else .inr bad
def upO(n:Int)(l:List Int):Option (List Int):=bif l.all (fun x=>a0A x&&a0A (A0n .i64 x n))then some (l.map fun x=>A0n .i64 x n)else none
theorem b1W{β:Type}(n:Int)(h:β)(g:List Int→β):∀(l out:List Int),a8L g (a2q (b2k n h) l out)=match upO n l with|some r=>g (out++r)|none=>h
 | [],out=>by simp[a2q,a8L,upO]
 |x::l,out=>by
  simp only[a2q,b2k,upO,a26];cases hx:(a0A x&&a0A (A0n .i64 x n))with
  |true=>
   simp only[cT,a21];rw[b1W n h g l _];simp only[upO];cases l.all (fun x=>a0A x&&a0A (A0n .i64 x n))with
   |true=>simp
   |false=>rfl
  |false=>rfl
theorem b9r(d:0≤n)(e:n≤30)(m:l.length<100000):a7O (l,n)=some (a1V (upO n l)):=by
 have c:short l:=by unfold short;omega
 have g:¬ n<0:=by omega
 have b:¬ n > 30:=by omega
 unfold a7O;simp[g,b]
 have:=a1U (f:=a7p) l (fun i out=>(n,l,(l.length:Int),(i:Int),out,())) (b2k n (Sum.inr ((6:Int),([]:List Int),())))
  (fun i out=>out.length=i) (fun out=>Sum.inl (out,()))
  (fun i h out j=>by
   have k:i<1000000:=by omega
   simp only[a7p,dlt h,cT,a0C h,oB,b2i,b2k,g,decide_false,cF];cases hb:a0A l[i]with
   |true=>
    cases hb2:a0A (A0n .i64 l[i] n)with
    |true=>
     simp only[cT,bT,cF,oB,g,decide_false,a0G (show out.length+1<1000000 by omega),a0B k,a02];simp_all
    |false=>
     simp
   |false=>
    simp)
  (fun out _=>by simp[a7p]) (a:=[]) rfl
 simp[b1W]at this;rw[this];cases upO n l<;>rfl
theorem c3F(d:0≤n)(j:n≤30)(o:l.length<100000):b3U (l,n)=some (a1V (upO n l)):=by
 have e:short l:=by unfold short;omega
 have g:¬ n<0:=by omega
 have c:¬ n > 30:=by omega
 have b:=b4v d (by omega);unfold b3U;simp[g,c]
 have:=a1U (f:=b0L) l (fun i out=>(l,n,(i:Int),out,())) (b2k n (Sum.inr ((6:Int),([]:List Int),())))
  (fun i out=>out.length=i) (fun out=>Sum.inl (out,()))
  (fun i h out m=>by
   have k:i<1000000:=by omega
   simp only[b0L,dlt h,cT,a0C h,oB,a1X,b2k,b,g,decide_false,cF];cases hb:a0A l[i]with
   |true=>
    cases hb2:a0A (A0n .i64 l[i] n)with
    |true=>
     simp only[cT,bT,cF,oB,b,g,decide_false,a0C h,a0G (show out.length+1<1000000 by omega),a0B k,a02];simp_all
    |false=>
     simp
   |false=>
    simp)
  (fun out _=>by simp[b0L]) (a:=[]) rfl
 simp[b1W]at this;rw[this];cases upO n l<;>rfl
@[reducible] def Fil:Type:=Int×((List Int)×((List Int)×Unit))
variable {f:Fil}
def a1p(x:Int):Int:=v0s (v0r x (-1073741824)) 1073741823
def b5T(x:Int):Int:=v0s (v0r x (-1048576)) 1048576
theorem b3x(x:Int):-1073741824≤a1p x∧a1p x≤1073741823:=by
 grind[a1p,b7c,c1A]
theorem b9s(x:Int):-1048576≤b5T x∧b5T x≤1048576:=by
 grind[b5T,b7c,c1A]
def b7e:List Int→List Int→Int→Int
 |a::w,b::h,acc=>b7e w h (W (acc+W (a*b)))
 |_,_,acc=>acc
def a0S(f:Fil):Int:=a1p (A0o .i64 (b7e f.2.1 f.2.2.1 0) 16)
structure FilOk (f:Fil):Prop where
 len:f.2.1.length=f.2.2.1.length
 pos:1≤f.2.1.length
 most:f.2.1.length≤32
 rate:0≤f.1∧f.1≤8
 small:∀x∈f.2.1,-1048576≤x∧x≤1048576
theorem a8g(h:i<l.length):a68 l i 0=l[i]:=by
 simp_all
theorem b1c{f:Fil}(c:FilOk f):∀(k i:Nat)(acc:Int),i+k=f.2.1.length→
  y0s a3i (acc,(f.2.1.length:Int),(i:Int),f,())=some (b7e (f.2.1.drop i) (f.2.2.1.drop i) acc,f,())
 |0,i,acc,h=>by
  obtain rfl:i=f.2.1.length:=by omega
  rw[a31,a0D (b:=(acc,f,())) (by simp[a3i])];rfl
 |k+1,i,acc,h=>by
  have g:i<f.2.1.length:=by omega
  have a:i<f.2.2.1.length:=by rw[←c.len];omega
  have e:=c.most;rw[a00 g,a00 a,b7e];have d:decide ((0:Int)≤(i:Int))=true:=by simp
  rw[a0H (s':=(W (acc+W (f.2.1[i]*f.2.2.1[i])),(f.2.1.length:Int),((i+1:Nat):Int),f,())) (by
   simp only[a3i,dlt g,dlt a,d,cT,a02,tN,a8g g,a8g a,a0B (show i<1000000 by omega)])]
  exact b1c c k (i+1) _ (by omega)
theorem a5S(h:FilOk f):a1Y f=some (a0S f,f):=by
 have:=b1c h f.2.1.length 0 0 (by omega)
 simp at this;unfold a1Y;simp only[this,oB,a5a];rfl
theorem b2l{f:Fil}(c:FilOk f):∀(k i:Nat)(acc:Int),i+k=f.2.1.length→
  y0s a3M (acc,(i:Int),f,())=some (b7e (f.2.1.drop i) (f.2.2.1.drop i) acc,f,())
 |0,i,acc,h=>by
  obtain rfl:i=f.2.1.length:=by omega
  rw[a31,a0D (b:=(acc,f,())) (by simp[a3M])];rfl
 |k+1,i,acc,h=>by
  have g:i<f.2.1.length:=by omega
  have a:i<f.2.2.1.length:=by rw[←c.len];omega
  have e:=c.most;rw[a00 g,a00 a,b7e];have d:decide ((0:Int)≤(i:Int))=true:=by simp
  rw[a0H (s':=(W (acc+W (f.2.1[i]*f.2.2.1[i])),((i+1:Nat):Int),f,())) (by
   simp only[a3M,dlt g,dlt a,d,cT,a02,tN,a8g g,a8g a,a0B (show i<1000000 by omega)])]
  exact b2l c k (i+1) _ (by omega)
theorem a8P{f:Fil}(h:FilOk f):a2A f=some (a0S f,f):=by
 have:=b2l h f.2.1.length 0 0 (by omega)
 simp at this;unfold a2A;simp only[this,oB,a8D];rfl
def a5I(x:Int):Int:=if 0<x then 1 else if x<0 then -1 else 0
def a9F(r:Int)(x g:Int):Int:=a5I (x-g)*2^r.toNat
def a9X(st:Int)(w h:Int):Int:=b5T (W (w+a5I h*st))
def a7y(f:Fil)(x:Int):Fil:=
 (f.1,a20 (a9X (a9F f.1 (a1p x) (a0S f))) f.2.1 f.2.2.1,a1p x::f.2.2.1.take (f.2.2.1.length-1),f.2.2.2)
theorem b2D(k:FilOk f)(x:Int):FilOk (a7y f x):=by
 obtain⟨a,b,c,g,d⟩:=k;have e:(a20 (a9X (a9F f.1 (a1p x) (a0S f))) f.2.1 f.2.2.1).length=f.2.1.length:=by simp_all
 refine⟨?_,?_,?_,g,?_⟩;show(a20 _ _ _).length=(a1p x::f.2.2.1.take (f.2.2.1.length-1)).length;simp_all;show 1≤(a20 _ _ _).length;omega;show(a20 _ _ _).length≤32;omega;intro y h;have h:y∈a20 (a9X (a9F f.1 (a1p x) (a0S f))) f.2.1 f.2.2.1:=h;obtain⟨i,j,rfl⟩:=List.mem_iff_getElem.1 h
 simp
 exact b9s _
theorem a6I(x:Int):(0<x∧a5I x=1)∨(x<0∧a5I x=-1)∨(x=0∧a5I x=0):=by
 unfold a5I;omega
theorem b4Y{r:Int}(h:0≤r∧r≤8):(2:Int)^r.toNat≤256∧1≤(2:Int)^r.toNat:=by
 have:r.toNat=0∨r.toNat=1∨r.toNat=2∨r.toNat=3∨r.toNat=4∨r.toNat=5∨r.toNat=6∨r.toNat=7∨r.toNat=8:=by omega
 rcases this with e|e|e|e|e|e|e|e|e<;>rw[e]<;>decide
theorem b7t{r:Int}(h:0≤r∧r≤8)(f:-1≤x∧x≤1):A0n .i64 x r=x*2^r.toNat:=by
 have hp:=b4Y h;have g:min r.toNat 64=r.toNat:=by omega
 unfold A0n;show wrap .i64 (x*2^(min r.toNat 64))=_;rw[g]
 have:x=-1∨x=0∨x=1:=by omega
 rcases this with rfl|rfl|rfl
 all_goals grind[a0I]
theorem b8i(a:FilOk f)(x:Int):
  (bif decide (a1p x > a0S f)then bif decide (f.1<0)then(none:Option (Int×Int×Fil×Unit))else some (a1p x,A0n .i64 (1:Int) f.1,f,())
   else bif decide (a1p x<a0S f)then bif decide (f.1<0)then none else some (a1p x,wrap .i64 (0-(A0n .i64 (1:Int) f.1)),f,())
   else some (a1p x,(0:Int),f,()))=some (a1p x,a9F f.1 (a1p x) (a0S f),f,()):=by
 have d:¬ f.1<0:=by have:=a.rate;omega
 have hp:=b4Y a.rate;have b:=b7t a.rate (x:=1) (by omega);rw[Int.one_mul]at b;rcases a6I (a1p x-a0S f)with⟨c,h⟩|⟨c,h⟩|⟨c,h⟩;have g:a1p x > a0S f:=by omega
 simp only[g,d,decide_true,decide_false,cT,cF,a9F,h,Int.one_mul,b];have g:¬ a1p x > a0S f:=by omega
 have k:a1p x<a0S f:=by omega
 simp only[g,k,d,decide_true,decide_false,cT,cF,a9F,h,b]
 grind[a0I]
 have g:¬ a1p x > a0S f:=by omega
 have k:¬ a1p x<a0S f:=by omega
 simp only[g,k,decide_false,cF,a9F,h,Int.zero_mul]
theorem b9t{z:List Int}(f:i<l.length)(k:z.length=l.length):(z.take i++l.drop i).set i (z[i]'(by omega))=z.take (i+1)++l.drop (i+1):=by
 have h:(z.take i).length=i:=by grind
 have g:z.take (i+1)=z.take i++[z[i]'(by omega)]:=by simp
 rw[a57 _ _ (by omega),h,a51,a00 f,a47,g,aA];rfl
theorem c4l{z:List Int}(h:i<l.length)(g:z.length=l.length):a68 (z.take i++l.drop i) i 0=l[i]:=by
 grind
theorem c3G(g:FilOk f)(h:i<f.2.1.length):-1048576≤f.2.1[i]∧f.2.1[i]≤1048576:=g.small _ (a04 h)
theorem b5U(n:FilOk f){x1 st:Int}(u:-256≤st∧st≤256):
  y0s a2j (x1,st,(f.2.2.1.length:Int),(0:Int),f,())=some (x1,(f.1,a20 (a9X st) f.2.1 f.2.2.1,f.2.2),()):=by
 obtain⟨z,w⟩:∃z,a20 (a9X st) f.2.1 f.2.2.1=z:=⟨_,rfl⟩;have q:=n.len;have d:z.length=f.2.1.length:=by grind
 have v:=n.most
 have:=a0R (f:=a2j) (fun i=>(x1,st,(f.2.2.1.length:Int),(i:Int),(f.1,z.take i++f.2.1.drop i,f.2.2),()))
  f.2.2.1.length (b:=(x1,(f.1,z,f.2.2),())) (fun i p=>by
   have k:i<f.2.1.length:=by omega
   have j:decide ((0:Int)≤(i:Int))=true:=by simp
   have s:(z.take i++f.2.1.drop i).length=f.2.1.length:=by grind
   have g:decide ((i:Int)<((z.take i++f.2.1.drop i).length:Int))=true:=by simp_all
   have o:z[i]'(by omega)=a9X st f.2.1[i] f.2.2.1[i]:=by grind
   have t:=c3G n k;have h:=b9t k d;rw[o]at h;simp only[a2j,dlt p,j,g,cT,a02,tN,a8g p,c4l k d];rcases a6I f.2.2.1[i]with⟨m,a⟩|⟨m,a⟩|⟨m,a⟩;have c:f.2.2.1[i] > 0:=m;simp[a9X,a]at h;simp only[c,decide_true,cT,oB,j,g,a02,tN,a0B (show i<1000000 by omega)];exact congrArg (fun l=>some (Sum.inl (x1,st,(f.2.2.1.length:Int),((i+1:Nat):Int),(f.1,l,f.2.2),()))) h;have c:¬ f.2.2.1[i] > 0:=by omega
   have e:f.2.1[i]+-1*st=f.2.1[i]-st:=by omega
   simp only[a9X,a,e]at h;simp only[c,m,decide_true,decide_false,cT,cF,oB,j,g,a02,tN,a0B (show i<1000000 by omega)];exact congrArg (fun l=>some (Sum.inl (x1,st,(f.2.2.1.length:Int),((i+1:Nat):Int),(f.1,l,f.2.2),()))) h;have c:¬ f.2.2.1[i] > 0:=by omega
   have r:¬ f.2.2.1[i]<0:=by omega
   have e:W (f.2.1[i]+0*st)=f.2.1[i]:=by rw[Int.zero_mul,Int.add_zero];exact a0I (by omega)
   simp only[a9X,a,e]at h;simp only[c,r,decide_false,cF,oB,j,g,cT,a02,tN,a0B (show i<1000000 by omega)];exact congrArg (fun l=>some (Sum.inl (x1,st,(f.2.2.1.length:Int),((i+1:Nat):Int),(f.1,l,f.2.2),()))) h)
  (by
   simp_all[a09,a2j])
 simp_all
theorem c1b(k:FilOk f)(x g:Int):-256≤a9F f.1 x g∧a9F f.1 x g≤256:=by
 have hp:=b4Y k.rate;unfold a9F;rcases a6I (x-g)with⟨-,h⟩|⟨-,h⟩|⟨-,h⟩<;>rw[h]<;>omega
theorem b2Z(h:FilOk f)(x:Int):a3l (f,x)=some (a7y f x):=by
 unfold a3l;have d:=b8i h x;simp only[a5a,oB,a5S h];have g:(bif decide (v0s (v0r x (-1073741824)) 1073741823 > a0S f)then bif decide (f.1<0)then(none:Option (Int×Int×Fil×Unit))else some (v0s (v0r x (-1073741824)) 1073741823,A0n .i64 (1:Int) f.1,f,())
   else bif decide (v0s (v0r x (-1073741824)) 1073741823<a0S f)then bif decide (f.1<0)then none else some (v0s (v0r x (-1073741824)) 1073741823,wrap .i64 (0-(A0n .i64 (1:Int) f.1)),f,())
   else some (v0s (v0r x (-1073741824)) 1073741823,(0:Int),f,()))=_:=d
 rw[g];simp only[oB,b5U h (c1b h _ _)];have i:f.2.2.1.length≥1:=by have:=h.pos;have:=h.len;omega
 have b:decide ((1:Int)≤((f.2.2.1.length:Nat):Int))=true:=by grind
 have e:p0h f.2.2.1 1 (f.2.2.1.length-1) f.2.2.1=f.2.2.1.take 1++f.2.2.1.take (f.2.2.1.length-1):=by
  simp_all[p0h]
 have j:(f.2.2.1.take 1++f.2.2.1.take (f.2.2.1.length-1)).length=f.2.2.1.length:=by simp_all
 have c:decide ((0:Int)<(((f.2.2.1.take 1++f.2.2.1.take (f.2.2.1.length-1)).length:Nat):Int))=true:=by grind
 simp only[b,cT,e,c];congr 1;have k:(f.2.2.1.take 1++f.2.2.1.take (f.2.2.1.length-1)).set 0 (a1p x)=a1p x::f.2.2.1.take (f.2.2.1.length-1):=by
  cases hc:f.2.2.1 with
  |nil=>simp_all
  |cons a l=>simp
 rw[k];rfl
theorem b4w(x:Int):a8E x=some (a5I x):=by
 grind[a8E,a6I]
theorem b8j(k:FilOk f){x1 s:Int}(w:-1≤s∧s≤1):
  y0s a2V (x1,s,(0:Int),([]:List Int),([]:List Int),f,())=some (x1,a20 (a9X (s*2^f.1.toNat)) f.2.1 f.2.2.1,([]:List Int),f,()):=by
 obtain⟨z,x⟩:∃z,a20 (a9X (s*2^f.1.toNat)) f.2.1 f.2.2.1=z:=⟨_,rfl⟩;have j:=k.len;have u:z.length=f.2.1.length:=by grind
 have v:=k.most;have r:=k.rate;have t:wrap .u64 f.1=f.1:=a1c (by omega);have a:¬ f.1<0:=by omega
 have:=a0R (f:=a2V) (fun i=>(x1,s,(i:Int),z.take i,([]:List Int),f,()))
  f.2.1.length (b:=(x1,z,([]:List Int),f,())) (fun i e=>by
   have h:i<f.2.2.1.length:=by omega
   have p:decide ((0:Int)≤(i:Int))=true:=by simp
   have d:z[i]'(by omega)=a9X (s*2^f.1.toNat) f.2.1[i] f.2.2.1[i]:=by grind
   have c:-1≤s*a5I f.2.2.1[i]∧s*a5I f.2.2.1[i]≤1:=by
    rcases a6I f.2.2.1[i]with⟨-,g⟩|⟨-,g⟩|⟨-,g⟩<;>rw[g]<;>omega
   have l:wrap .i64 (s*a5I f.2.2.1[i])=s*a5I f.2.2.1[i]:=a0I (by omega);have m:=b7t r c;have n:v0s (v0r (wrap .i64 (f.2.1[i]+s*a5I f.2.2.1[i]*2^f.1.toNat)) (-1048576)) 1048576=z[i]'(by omega):=by
    rw[d,show s*a5I f.2.2.1[i]*2^f.1.toNat=a5I f.2.2.1[i]*(s*2^f.1.toNat)by grind];rfl
   have o:z.take i++[z[i]'(by omega)]=z.take (i+1):=by simp
   have q:(z.take i).length+1<1000000:=by grind
   simp only[a2V,dlt e,dlt h,p,cT,a02,tN,a8g e,a8g h,b4w,oB,t,a,decide_false,cF,a0G q,l,m,n,a05,o,a0B (show i<1000000 by omega)])
  (by
   simp_all[a09,a2V])
 simp_all
theorem b9u(f:Fil):-1073741824≤a0S f∧a0S f≤1073741823:=b3x _
theorem b4x(h:FilOk f)(x:Int):a4a (f,x)=some (a7y f x):=by
 unfold a4a;have m:=b3x x;have n:=b9u f;have b:wrap .i64 (a1p x-a0S f)=a1p x-a0S f:=a0I (by omega);have l:-1≤a5I (a1p x-a0S f)∧a5I (a1p x-a0S f)≤1:=by
  rcases a6I (a1p x-a0S f)with⟨-,g⟩|⟨-,g⟩|⟨-,g⟩<;>rw[g]<;>omega
 have d:a8D x=some (a1p x):=rfl;have o:=h.most;have k:=h.len;have a:=h.pos;have c:wrap .i64 (((f.2.2.1.length:Nat):Int)-1)=((f.2.2.1.length-1:Nat):Int):=by grind[a0I]
 have e:decide ((0:Int)≤((f.2.2.1.length-1:Nat):Int))=true:=by simp
 have i:decide (((f.2.2.1.length-1:Nat):Int)≤((f.2.2.1.length:Nat):Int))=true:=by simp
 have j:([a1p x]:List Int).length+(f.2.2.1.take (f.2.2.1.length-1)).length<1000000:=by grind
 simp only[d,oB,a8P h,b,b4w,b8j h l,List.length_nil,a0G (show 0+1<1000000 by omega),cT,c,e,i,a02,tN,a08,a05,a17,a0G j];rfl
@[reducible] def Stg:Type:=Int×(Int×Unit)
variable {st:List Stg}
theorem a7f{l:List Int}(h:short l):a1m l=some l:=by
 have g:lim (0+l.length)=true:=a0G (by unfold short at h;omega);simp_all[a1m,x0e]
def a5T(s:Stg):Fil:=(s.2.1,a01 s.1.toNat 0,a01 s.1.toNat 0,())
theorem b3W{s:Stg}(h:a2Z s=true):FilOk (a5T s):=by
 simp[a2Z]at h;refine⟨by rfl,by simp[a5T];omega,by simp[a5T];omega,⟨h.2.2.1,h.2.2.2⟩,fun x g=>?_⟩;simp_all[a5T]
theorem b1d{s:Stg}(h:a2Z s=true):a7K s=some (a5T s,0):=by
 have g:=h;simp[a2Z]at g;unfold a7K;have f:decide ((0:Int)≤s.1)=true:=by grind
 have k:decide (s.1≤s.1)=true:=by simp
 have a:lim s.1.toNat=true:=a0G (by omega);simp only[a9i,h,oB,bT,cF,f,k,a,a02,cT];rfl
theorem a6k{s:Stg}(h:a2Z s=true):a5k s=some (a5T s,0):=by
 have g:=h;simp[a2Z]at g;unfold a5k;have f:decide ((0:Int)≤s.1)=true:=by grind
 have k:decide (s.1≤s.1)=true:=by simp
 have a:lim s.1.toNat=true:=a0G (by omega);simp only[a8M,h,oB,bT,cF,f,k,a,a02,cT];rfl
def stO:List Int→List Int→Fil→Option (List Int)
 | [],done,_=>some done
 |r::rs,done,f=>bif a0A (W (a0S f+r))then stO rs (done++[W (a0S f+r)]) (a7y f (W (a0S f+r)))else none
theorem b0P:∀(l done:List Int)(f:Fil){r},stO l done f=some r→r.length=done.length+l.length
 | [],done,f,r,h=>by simp_all[stO]
 |x::l,done,f,r,h=>by
  simp[stO]at h;cases hw:a0A (W (a0S f+x))with
  |true=>rw[hw]at h;rw[b0P l _ _ h];grind
  |false=>simp_all
theorem a8n{done:List Int}(g:done.length=i)(h:i<row.length):a68 (done++row.drop i) i 0=row[i]:=by
 grind
theorem b2E{done:List Int}(g:done.length=i)(h:i<row.length)(y:Int):(done++row.drop i).set i y=(done++[y])++row.drop (i+1):=by
 rw[a57 _ _ (by omega),g,a51,a00 h,a47,aA];rfl
theorem b1A{row b4:List Int}{b5:Int}(e:short row):∀(k i:Nat)(done:List Int)(f:Fil),i+k=row.length→done.length=i→FilOk f→
  ∃z,y0s a5d ((row.length:Int),(i:Int),b4,b5,done++row.drop i,f,())=some z∧
   match stO (row.drop i) done f with
   |some r=>z=.inl (b4,b5,r,())
   |none=>∃q,z=.inr (([]:List Int),(6:Int),q,())
 |0,i,done,f,h,hd,hf=>by
  obtain rfl:i=row.length:=by omega
  rw[a31,a44];exact⟨_,a0D (b:=Sum.inl (b4,b5,done,())) (by simp[a5d]),rfl⟩
 |k+1,i,done,f,h,hd,hf=>by
  have g:i<row.length:=by omega
  have j:row.length<1000000:=e;have c:decide ((0:Int)≤(i:Int))=true:=by simp
  have l:(done++row.drop i).length=row.length:=by grind
  have d:decide ((i:Int)<(((done++row.drop i).length:Nat):Int))=true:=by simp_all
  have a:stO (row.drop i) done f=bif a0A (W (a0S f+row[i]))then stO (row.drop (i+1)) (done++[W (a0S f+row[i])]) (a7y f (W (a0S f+row[i])))else none:=by
   rw[a00 g];rfl
  rw[a];cases hw:a0A (W (a0S f+row[i]))with
  |true=>
   rw[a0H (s':=((row.length:Int),((i+1:Nat):Int),b4,b5,(done++[W (a0S f+row[i])])++row.drop (i+1),a7y f (W (a0S f+row[i])),())) (by
    simp only[a5d,dlt g,c,d,cT,a02,a5S hf,oB,tN,a8n hd g,a4U,hw,bT,cF,b2Z hf,b2E hd g,a0B (show i<1000000 by omega)])]
   exact b1A e k (i+1) _ _ (by omega) (by simp_all) (b2D hf _)
  |false=>
   exact⟨_,a0D (b:=Sum.inr (([]:List Int),(6:Int),done++row.drop i,())) (by
    simp only[a5d,dlt g,c,d,cT,a02,a5S hf,oB,tN,a8n hd g,a4U,hw,a16]),_,rfl⟩
theorem b3a{row:List Int}{st:List Stg}{n:Int}(c:short row):∀(k i:Nat)(done:List Int)(f:Fil),i+k=row.length→done.length=i→FilOk f→
  y0s a3H (st,n,(i:Int),done++row.drop i,f,())=some (match stO (row.drop i) done f with
   |some r=>.inl (st,n,r,())
   |none=>.inr ((6:Int),([]:List Int),()))
 |0,i,done,f,h,hd,hf=>by
  obtain rfl:i=row.length:=by omega
  rw[a31,a44];have l:done.length=row.length:=hd;exact a0D (b:=Sum.inl (st,n,done,())) (by simp_all[a3H])
 |k+1,i,done,f,h,hd,hf=>by
  have g:i<row.length:=by omega
  have m:row.length<1000000:=c;have d:decide ((0:Int)≤(i:Int))=true:=by simp
  have l:(done++row.drop i).length=row.length:=by grind
  have e:decide ((i:Int)<(((done++row.drop i).length:Nat):Int))=true:=by simp_all
  have a:stO (row.drop i) done f=bif a0A (W (a0S f+row[i]))then stO (row.drop (i+1)) (done++[W (a0S f+row[i])]) (a7y f (W (a0S f+row[i])))else none:=by
   rw[a00 g];rfl
  have j:wrap .i64 (row[i]+a0S f)=W (a0S f+row[i]):=by grind
  rw[a];cases hw:a0A (W (a0S f+row[i]))with
  |true=>
   rw[a0H (s':=(st,n,((i+1:Nat):Int),(done++[W (a0S f+row[i])])++row.drop (i+1),a7y f (W (a0S f+row[i])),())) (by
    simp only[a3H,d,e,cT,a02,a8P hf,oB,tN,a8n hd g,j,a1X,hw,bT,cF,b4x hf,b2E hd g,a0B (show i<1000000 by omega)])]
   exact b3a c k (i+1) _ _ (by omega) (by simp_all) (b2D hf _)
  |false=>
   exact a0D (by
    simp_all[a3H,a8P,a1X])
def lO:List Stg→List Int→Option (List Int)
 | [],row=>some row
 |s::r,row=>match stO row [] (a5T s)with
  |some row'=>lO r row'
  |none=>none
theorem c1c{s:Stg}{b4:List Int}(h:a2Z s=true)(b:short row):
  ∃z,a6R k s (st,b4,(0:Int),row,())=some z∧match stO row [] (a5T s)with
   |some r=>z=.inl (st,b4,(0:Int),r,())
   |none=>∃q,z=.inr (.ret,st,([]:List Int),(6:Int),q,()):=by
 obtain⟨z,g,f⟩:=b1A (b4:=b4) (b5:=0) b row.length 0 [] (a5T s) (by omega) rfl (b3W h);simp at g f;unfold a6R;have a:((0:Int) != 0)=false:=rfl;simp[b1d h,g];cases hst:stO row [] (a5T s)with
 |some r=>
  simp_all
 |none=>
  grind
theorem b4y{st l:List Stg}{b4:List Int}(f:∀s∈l,a2Z s=true):∀(n:Nat)(row:List Int),n≤l.length→short row→
  ∃z,l0f a6R l n (st,b4,(0:Int),row,())=some z∧match lO (l.take n).reverse row with
   |some r=>z=.inl (st,b4,(0:Int),r,())
   |none=>∃q,z=.inr (.ret,st,([]:List Int),(6:Int),q,())
 |0,row,_,_=>⟨_,rfl,rfl⟩
 |n+1,row,hn,hs=>by
  have h:n<l.length:=by omega
  obtain⟨z,a,g⟩:=c1c (st:=st) (k:=(n:Int)) (b4:=b4) (f _ (a04 h)) hs;have b:(l.take (n+1)).reverse=l[n]::(l.take n).reverse:=by simp
  simp[l0f,lG h,a,b,lO];cases hst:stO row [] (a5T l[n])with
  |some r=>
   rw[hst]at g;simp at g;subst g;exact b4y f n r (by omega) (by have:=b0P _ _ _ hst;unfold short at hs⊢;simp_all)
  |none=>
   grind
def a7S(rest:List Int)(st:List Stg):Option (List Int):=bif rest.all a0A then lO st.reverse rest else none
theorem b8k{rest:List Int}(a:a4F st=true)(c:rest.length<100000):a8w (rest,st)=some (a1V (a7S rest st)):=by
 have f:=a;simp only[a4F,bA,dT]at f;have k:short st:=by unfold short;omega
 have h:short rest:=by unfold short;omega
 unfold a8w;simp only[b1a k,a,oB,bT,cF,b0Z h,a7S];cases hw:rest.all a0A with
 |false=>rfl
 |true=>
  obtain⟨z,b,g⟩:=b4y (st:=st) (b4:=[]) (lA.1 f.2) st.length rest (a34 _) h;rw[a18]at g;simp[a7f h,a0G k,b];cases hst:lO st.reverse rest with
  |some r=>
   rw[hst]at g;simp at g;subst g;rfl
  |none=>
   rw[hst]at g;obtain⟨q,rfl⟩:=g;rfl
theorem b5V{l:List Stg}(a:∀s∈l,a2Z s=true)(g:l.length≤3):∀(n:Nat)(row:List Int),n≤l.length→short row→
  y0s a5o (l,(n:Int)-1,row,())=some (match lO (l.take n).reverse row with
   |some r=>.inl (r,())
   |none=>.inr ((6:Int),([]:List Int),()))
 |0,row,_,_=>a0D (by rfl)
 |n+1,row,hn,hs=>by
  have f:n<l.length:=by omega
  have h:=a _ (a04 f);have k:=b3a (st:=l) (n:=(n:Int)) hs row.length 0 [] (a5T l[n]) (by omega) rfl (b3W h);simp at k;have c:(l.take (n+1)).reverse=l[n]::(l.take n).reverse:=by simp
  have b:((n+1:Nat):Int)-1=(n:Int):=by omega
  have e:decide ((n:Int)≥0)=true:=by simp
  have d:wrap .i64 ((n:Int)-1)=(n:Int)-1:=a0I (by omega);rw[c,b];simp[lO];cases hst:stO row [] (a5T l[n])with
  |some r=>
   rw[hst]at k;rw[a0H (s':=(l,(n:Int)-1,r,())) (by simp_all[a5o,a0C,a6k])];exact b5V a g n r (by omega) (by have:=b0P _ _ _ hst;unfold short at hs⊢;simp_all)
  |none=>
   simp_all[a0D,a5o,a0C,a6k]
theorem b4Z{rest:List Int}{st:List Stg}(a:a4F st=true)(c:rest.length<100000):a6U (rest,st)=some (a1V (a7S rest st)):=by
 have h:=a;simp only[a4F,bA,dT]at h;have f:short st:=by unfold short;omega
 have g:short rest:=by unfold short;omega
 unfold a6U;simp only[a8N f,a,oB,bT,cF,a0N g,a7S];cases hw:rest.all a0A with
 |false=>rfl
 |true=>
  have k:=b5V (lA.1 h.2) h.1 st.length rest (a34 _) g;rw[a18]at k;have b:wrap .i64 (((st.length:Nat):Int)-1)=((st.length:Nat):Int)-1:=a0I (by omega);simp only[bT,cF,cT,a0G (show 0+rest.length<1000000 by omega),b,a05,a17,k,oB];cases lO st.reverse rest<;>rfl
def a2K(n warm:Int):Bool:=decide (1≤n)&&(decide (n≤4096)&&(decide (0≤warm)&&decide (warm≤n)))
theorem b3y(n warm:Int):a7L (n,warm)=some (a2K n warm):=by
 grind[a7L,a2K]
theorem b5W(n warm:Int):b0X (n,warm)=some (a2K n warm):=by
 grind[b0X,a2K]
theorem c4m(h:o≤8):1≤2^o∧2^o≤256:=by
 have:o=0∨o=1∨o=2∨o=3∨o=4∨o=5∨o=6∨o=7∨o=8:=by omega
 grind
theorem b2F(h:o≤64):A0o .i64 (N:Int) (o:Int)=((N / 2^o:Nat):Int):=by
 unfold A0o;show Int.fdiv (N:Int) (2^(min (o:Int).toNat 64))=_
 grind
theorem b2G(h:o≤64)(g:N*2^o<9223372036854775808):A0n .i64 (N:Int) (o:Int)=((N*2^o:Nat):Int):=by
 unfold A0n;show wrap .i64 ((N:Int)*2^(min (o:Int).toNat 64))=_
 grind[a0I]
def a8Q(o N:Nat)(warm:Int):List Int:=
 if N%2^o=0∧warm≤((N / 2^o:Nat):Int)then(((N / 2^o:Nat):Int)-warm)::a01 (2^o-1) ((N / 2^o:Nat):Int)else[]
def a1k(order n warm:Int):List Int:=bif a2K n warm&&(decide (0≤order)&&decide (order≤8))then a8Q order.toNat n.toNat warm else[]
theorem a2E(order n warm:Int):a3R (order,n,warm)=some (a1k order n warm):=by
 unfold a3R a1k;simp only[b3y,oB];cases hr:a2K n warm with
 |false=>rfl
 |true=>
  simp[a2K]at hr;simp only[bT,cF,a21]
  by_cases h1:order<0
  grind
  by_cases h2:order > 8
  grind
  obtain⟨o,rfl⟩:=a03 (show 0≤order by omega);obtain⟨N,rfl⟩:=a03 (show 0≤n by omega);have q:o≤8:=by omega
  have r:N≤4096:=by omega
  have hp:=c4m q;have p:N / 2^o*2^o≤N:=Nat.div_mul_le_self N _;have l:(0:Int)≤(o:Int):=by omega
  have m:(o:Int)≤8:=by omega
  simp only[h1,h2,l,m,decide_true,decide_false,cF,cT,a02,oB,b2F (N:=N) (show o≤64 by omega),b2G (N:=N / 2^o) (show o≤64 by omega) (by omega),tN];have g:=a54 N (2^o);rw[a66]at g
  by_cases hm:N%2^o=0
  have k:(((N / 2^o*2^o:Nat):Int) != (N:Int))=false:=by simp_all
  by_cases hw:warm≤((N / 2^o:Nat):Int)
  have c:decide (((N / 2^o:Nat):Int)<warm)=false:=decide_eq_false (Int.not_lt.2 hw);have e:wrap .i64 (((N / 2^o:Nat):Int)-warm)=((N / 2^o:Nat):Int)-warm:=a0I (by have:=a24 N (2^o);omega);simp only[k,c,e,cF,oB,a8Q,hm,hw,and_self,if_true];have d:A0n .i64 (1:Int) (o:Int)=((2^o:Nat):Int):=by have:=b2G (N:=1) (show o≤64 by omega) (by omega);simp_all
  have:=a0R (f:=a6a) (fun i=>((o:Int),((N / 2^o:Nat):Int),(((N / 2^o:Nat):Int)-warm)::a01 i ((N / 2^o:Nat):Int),())) (2^o-1)
   (b:=((((N / 2^o:Nat):Int)-warm)::a01 (2^o-1) ((N / 2^o:Nat):Int),())) (fun i s=>by
    have a:decide ((((((N / 2^o:Nat):Int)-warm)::a01 i ((N / 2^o:Nat):Int)).length:Int)<((2^o:Nat):Int))=true:=by
     grind
    have h:lim (((((N / 2^o:Nat):Int)-warm)::a01 i ((N / 2^o:Nat):Int)).length+1)=true:=a0G (by grind);have j:a01 i ((N / 2^o:Nat):Int)++[((N / 2^o:Nat):Int)]=a01 (i+1) ((N / 2^o:Nat):Int):=by grind[a28]
    simp only[a6a,h1,decide_false,cF,d,a,cT,h,a05,a70,j])
   (by
    have a:decide ((((((N / 2^o:Nat):Int)-warm)::a01 (2^o-1) ((N / 2^o:Nat):Int)).length:Int)<((2^o:Nat):Int))=false:=by
     simp_all
    simp only[a6a,h1,decide_false,cF,d,a])
  simp_all;have c:decide (((N / 2^o:Nat):Int)<warm)=true:=decide_eq_true (Int.not_le.1 hw);simp_all[a8Q];have k:(((N / 2^o*2^o:Nat):Int) != (N:Int))=true:=by grind
  simp only[k,cT,oB,a8Q,hm,false_and,if_false]
theorem a1P(order n warm:Int):a2W (order,n,warm)=some (a1k order n warm):=by
 unfold a2W a1k;simp only[b5W,oB];cases hr:a2K n warm with
 |false=>rfl
 |true=>
  simp[a2K]at hr;simp only[bT,cF,a21]
  by_cases h1:order<0
  grind
  by_cases h2:order > 8
  grind
  obtain⟨o,rfl⟩:=a03 (show 0≤order by omega);obtain⟨N,rfl⟩:=a03 (show 0≤n by omega);have m:o≤8:=by omega
  have t:N≤4096:=by omega
  have hp:=c4m m;have j:(0:Int)≤(o:Int):=by omega
  have l:(o:Int)≤8:=by omega
  have c:wrap .u64 (o:Int)=(o:Int):=a1c (by omega);have a:A0n .i64 (1:Int) (o:Int)=((2^o:Nat):Int):=by have:=b2G (N:=1) (show o≤64 by omega) (by omega);simp_all
  have r:(((2^o:Nat):Int)==0)=false:=by grind
  have p:a62 (N:Int) ((2^o:Nat):Int)=((N%2^o:Nat):Int):=by rfl
  simp only[h1,h2,j,l,decide_true,decide_false,cF,cT,a02,c,a,r,p,b2F (N:=N) (show o≤64 by omega),tN]
  by_cases hm:N%2^o=0
  have g:(((0:Nat):Int) != 0)=false:=rfl
  by_cases hw:warm≤((N / 2^o:Nat):Int)
  have d:decide (((N / 2^o:Nat):Int)<warm)=false:=decide_eq_false (Int.not_lt.2 hw);have s:wrap .i64 (((N / 2^o:Nat):Int)-warm)=((N / 2^o:Nat):Int)-warm:=a0I (by have:=a24 N (2^o);omega);simp only[g,d,cF,oB,a8Q,hm,hw,and_self,if_true]
  have:=a0R (f:=a5m) (fun i=>((o:Int),(N:Int),warm,(i:Int),a01 i ((N / 2^o:Nat):Int),())) (2^o)
   (b:=(warm,a01 (2^o) ((N / 2^o:Nat):Int),())) (fun i u=>by
    have k:decide ((i:Int)<((2^o:Nat):Int))=true:=by grind
    have h:lim ((a01 i ((N / 2^o:Nat):Int)).length+1)=true:=a0G (by grind);have e:a01 i ((N / 2^o:Nat):Int)++[((N / 2^o:Nat):Int)]=a01 (i+1) ((N / 2^o:Nat):Int):=by grind[a28]
    simp only[a5m,c,h1,decide_false,cF,a,k,cT,h,b2F (N:=N) (show o≤64 by omega),a05,e,a0B (show i<1000000 by omega)])
   (by
    have k:decide (((2^o:Nat):Int)<((2^o:Nat):Int))=false:=by simp
    simp only[a5m,c,h1,decide_false,cF,a,k])
  simp only[nZ,List.replicate_zero]at this;have v:decide ((0:Int)<(((a01 (2^o) ((N / 2^o:Nat):Int)).length:Nat):Int))=true:=by grind
  obtain⟨q,w⟩:∃q,2^o=q+1:=⟨2^o-1,by omega⟩
  grind
  have d:decide (((N / 2^o:Nat):Int)<warm)=true:=decide_eq_true (Int.not_le.1 hw);simp_all[a8Q];have g:(((N%2^o:Nat):Int) != 0)=true:=by grind
  simp only[g,cT,oB,a8Q,hm,false_and,if_false]
@[reducible] def Prt:Type:=Int×((List Int)×Unit)
variable {p:Prt}
def kB(k:Int):Bool:=(decide (0≤k)&&decide (k≤25)) || (k==31)
def a2F(p:Prt)(n warm:Int):Bool:=!((a1k p.1 n warm).length==0)&&((a1k p.1 n warm).length==p.2.1.length&&p.2.1.all kB)
theorem a8R(g:short p.2.1):a7M (p,n,warm)=some (a2F p n warm):=by
 have:=a1w (f:=a4m) p.2.1 (fun i=>(p.2.1,(p.2.1.length:Int),(i:Int),())) kB (bt:=Sum.inl ()) (bf:=Sum.inr (false,()))
  (fun i h hp=>by
   simp[kB]at hp
   by_cases h1:p.2.1[i]<0
   omega
   by_cases h2:p.2.1[i] > 25
   have b:p.2.1[i]=31:=by omega
   have a:(p.2.1[i] != 31)=false:=by simp_all
   simp[a4m,a0C h,h,h1,h2,a,a0B (a06 h g)];simp[a4m,a0C h,h,h1,h2,a0B (a06 h g)])
  (fun i h hp=>by
   have hp:¬ (kB p.2.1[i]=true):=by simp_all
   simp only[kB,a55,bA,dT,beq_iff_eq]at hp
   grind[a4m,a0C])
  (by simp[a4m])
 simp at this;unfold a7M a2F;simp[a2E]
 by_cases h0:(a1k p.1 n warm).length=0
 simp_all
 ·have e:((((a1k p.1 n warm).length:Nat):Int)==0)=false:=by simp_all
  have k:((a1k p.1 n warm).length==0)=false:=by simp_all
  simp[e,k]
  by_cases h1:(a1k p.1 n warm).length=p.2.1.length
  all_goals grind
theorem a5t(a:short p.2.1):a4T (p,n,warm)=some (a2F p n warm):=by
 have g:∀k:Int,a2B k=some (decide (0≤k)&&decide (k≤25)):=fun k=>by
  grind[a2B]
 have:=a1w (f:=a3q) p.2.1 (fun i=>((i:Int),p,())) kB (bt:=Sum.inl ()) (bf:=Sum.inr (false,()))
  (fun i h hp=>by
   simp only[kB,a55]at hp;cases hc:(decide (0≤p.2.1[i])&&decide (p.2.1[i]≤25))with
   |true=>simp[a3q,a0C h,h,g,hc,a0B (a06 h a)]
   |false=>
    have d:p.2.1[i]=31:=by simp_all
    have c:(p.2.1[i] != 31)=false:=by simp_all
    simp[a3q,a0C h,h,g,hc,c,a0B (a06 h a)])
  (fun i h hp=>by
   grind[kB,a3q,a0C])
  (by simp[a3q])
 simp at this;unfold a4T a2F;simp[a1P]
 by_cases h0:(a1k p.1 n warm).length=0
 simp_all
 ·have e:((((a1k p.1 n warm).length:Nat):Int)==0)=false:=by simp_all
  have b:((a1k p.1 n warm).length==0)=false:=by simp_all
  simp[e,b]
  by_cases h1:(a1k p.1 n warm).length=p.2.1.length
  all_goals grind
@[reducible] def Sub:Type:=Int×(Int×(Int×(Int×(Int×((List Int)×((List Int)×((List Stg)×((List Int)×(Prt×((List Int)×Unit))))))))))
variable {s:Sub}
structure SmallS (s:Sub):Prop where
 coefs:s.2.2.2.2.2.1.length≤40
 taps:s.2.2.2.2.2.2.1.length=3
 stages:s.2.2.2.2.2.2.2.1.length≤6
 warm:s.2.2.2.2.2.2.2.2.1.length≤5000
 rest:s.2.2.2.2.2.2.2.2.2.2.1.length≤5000
 ks:s.2.2.2.2.2.2.2.2.2.1.2.1.length≤300
theorem a9j(x y:List Int):eqT (.arr 3 (.int .i64)) x y=decide (x=y):=by
 show((a20 (fun(a b:Int)=>a==b) x y).all id&&x.length==y.length)=_
 induction x generalizing y with
 |nil=>cases y<;>simp
 |cons a x ih=>
  cases y with
  |nil=>simp
  |cons b y=>
   grind[List.zipWith_cons_cons]
theorem b2H{l:List Int}(h:short l):a3Q l=some l:=a7f h
theorem b4z{l:List Stg}(h:short l):a1q l=some l:=by
 have g:lim (0+l.length)=true:=a0G (by unfold short at h;omega);simp_all[a1q,x0e]
def a2x(k:Int)(s:Sub)(n:Int):Prop:=
 k=0∨k=1∨(k=2∧0≤s.2.2.1∧s.2.2.1≤4∧s.2.2.1≤n)∨(k=3∧a5R s.2.2.2.2.2.1 s.2.2.2.1=true∧(s.2.2.2.2.2.1.length:Int)≤n)∨
  (k=4∧a5R s.2.2.2.2.2.1 s.2.2.2.1=true∧(s.2.2.2.2.2.1.length:Int)≤n∧a6i s.2.2.2.2.1 s.2.2.2.2.2.2.1=true)∨
  (k=5∧0<s.2.2.2.2.2.2.2.1.length∧a4F s.2.2.2.2.2.2.2.1=true)
open Classical in
def b1X (k:Int) (s:Sub) (n:Int):Bool:=decide (a2x k s n)
theorem b3z{s:Sub}(h:SmallS s)(k n:Int):a9M (k,s,n)=some (b1X k s n):=by
 have a:short s.2.2.2.2.2.1:=by have:=h.coefs;unfold short;omega
 have b:short s.2.2.2.2.2.2.2.1:=by have:=h.stages;unfold short;omega
 unfold a9M b1X a2x
 by_cases k0:k=0
 simp_all
 by_cases k1:k=1
 simp_all;have g:(k==0)=false:=by grind
 have f:(k==1)=false:=by grind
 simp only[g,f,cF,oB]
 by_cases k2:k=2
 subst k2
 grind
 by_cases k3:k=3
 subst k3
 grind[a8b]
 by_cases k4:k=4
 subst k4;cases hl:a5R s.2.2.2.2.2.1 s.2.2.2.1<;>by_cases h2:(s.2.2.2.2.2.1.length:Int)≤n<;>simp[a8b a,b1V h.taps,hl,h2]
 by_cases k5:k=5
 ·subst k5
  by_cases h1:0<s.2.2.2.2.2.2.2.1.length
  all_goals simp_all[b1a]
 grind
def a0W(s:Sub)(n:Int):Int:=if s.1=0 then 1 else if s.1=1 then n else if s.1=2 then s.2.2.1 else if s.1=3∨s.1=4 then(s.2.2.2.2.2.1.length:Int)else 0
theorem b1B(s:Sub)(n:Int):a6Z (s,n)=some (a0W s n):=by
 grind[a6Z,a0W]
def a9R(s:Sub):Prop:=
 (s.1≠2→s.2.2.1=0)∧(s.1≠3∧s.1≠4→s.2.2.2.1=0)∧(s.1≠4→s.2.2.2.2.1=0)∧(s.1≠4→s.2.2.2.2.2.2.1=[0,0,0])∧(s.1≠3∧s.1≠4→s.2.2.2.2.2.1=[])∧(s.1≠5→s.2.2.2.2.2.2.2.1=[])
open Classical in
def b2m (s:Sub):Bool:=decide (a9R s)
theorem a8h{c x:Bool}:(bif c then some x else some false)=some (c&&x):=by grind
theorem c6o{α:Type}(l:List α):(((l.length:Nat):Int)==0)=decide (l=[]):=by
 cases l with
 |nil=>rfl
 |cons a l=>rfl
theorem b7f(x:Int):(x==0)=decide (x=0):=rfl
theorem b9v{s:Sub}(h:SmallS s):a9x s=some (b2m s):=by
 have e:short s.2.2.2.2.2.1:=by have:=h.coefs;unfold short;omega
 have g:short s.2.2.2.2.2.2.2.1:=by have:=h.stages;unfold short;omega
 obtain⟨k,w,o,sh,lag,c,t,st,j,p,r,u⟩:=s;simp only at e g;unfold a9x a5K b2m a9R;have i:(a01 3 (0:Int))=[0,0,0]:=rfl
 by_cases k2:k=2
 simp_all[a9j,a8h,b7f]
 by_cases k4:k=4
 simp_all[a9j,a8h,b7f,b2H]
 by_cases k3:k=3
 simp_all[a9j,a8h,b7f,b2H]
 by_cases k5:k=5
 simp_all[a9j,a8h,b7f,b4z];have f:(k==2)=false:=by grind
 have a:(k==3)=false:=by grind
 have b:(k==4)=false:=by grind
 have d:(k==5)=false:=by grind
 simp[f,a,b,d,k2,k3,k4,k5,a9j,i,a8h,c6o,b7f]
theorem a7g(k:Int):a7a k=some (decide (k≠0∧k≠1)):=by
 unfold a7a
 by_cases h0:k=0
 simp_all
 ·by_cases h1:k=1
  all_goals grind
def a1n(s:Sub)(n:Int):Prop:=
 1≤n∧n≤4096∧a2x s.1 s n∧a9R s∧0≤s.2.1∧s.2.1≤30∧(s.1=0→s.2.1=0)∧(s.2.2.2.2.2.2.2.2.1.length:Int)=a0W s n∧s.2.2.2.2.2.2.2.2.1.all a0A=true∧s.2.2.2.2.2.2.2.2.2.2.1.all a0A=true∧
  (s.1=0∨s.1=1→s.2.2.2.2.2.2.2.2.2.2.1=[]∧s.2.2.2.2.2.2.2.2.2.1.1=0∧s.2.2.2.2.2.2.2.2.2.1.2.1=[])∧
  (s.1≠0∧s.1≠1→(s.2.2.2.2.2.2.2.2.2.2.1.length:Int)=n-a0W s n∧a2F s.2.2.2.2.2.2.2.2.2.1 n (a0W s n)=true)
theorem b1Y{s:Sub}(h:SmallS s){n:Int}(a:1≤n)(b:n≤4096)(f:a2x s.1 s n):0≤a0W s n∧a0W s n≤4096:=by
 have c:=h.coefs;unfold a0W;rcases f with k|k|⟨k,g⟩|⟨k,g⟩|⟨k,g⟩|⟨k,g⟩<;>simp[k]<;>omega
open Classical in
theorem c3H {s:Sub} (h:SmallS s) (n:Int):a8u (s,n)=some (decide (a1n s n)):=by
 have hw:short s.2.2.2.2.2.2.2.2.1:=by have:=h.warm;unfold short;omega
 have hr:short s.2.2.2.2.2.2.2.2.2.2.1:=by have:=h.rest;unfold short;omega
 have hk:short s.2.2.2.2.2.2.2.2.2.1.2.1:=by have:=h.ks;unfold short;omega
 unfold a8u
 by_cases h1:1≤n
 rotate_left
 ·have e1:decide (n<1)=true:=by simp_all
  have:¬ a1n s n:=fun hp=>h1 hp.1
  simp_all
 have e1:decide (n<1)=false:=by simp_all
 by_cases h2:n≤4096
 rotate_left
 ·have e2:decide (n > 4096)=true:=by simp_all
  have:¬ a1n s n:=fun hp=>h2 hp.2.1
  simp_all
 have e2:decide (n > 4096)=false:=by simp_all
 by_cases h3:a2x s.1 s n
 rotate_left
 ·have e3:b1X s.1 s n=false:=by simp[b1X,h3]
  have:¬ a1n s n:=fun hp=>h3 hp.2.2.1
  simp_all[b3z]
 have e3:b1X s.1 s n=true:=by simp[b1X,h3]
 by_cases h4:a9R s
 rotate_left
 ·have e4:b2m s=false:=by simp[b2m,h4]
  have:¬ a1n s n:=fun hp=>h4 hp.2.2.2.1
  simp_all[b3z,b9v]
 have e4:b2m s=true:=by simp[b2m,h4]
 simp only[e1,e2,b3z h,e3,b9v h,e4,cF,bT,oB]
 by_cases h5:0≤s.2.1
 rotate_left
 ·have e5:decide (s.2.1<0)=true:=by simp_all
  have:¬ a1n s n:=fun hp=>h5 hp.2.2.2.2.1
  simp_all
 have e5:decide (s.2.1<0)=false:=by simp_all
 by_cases h6:s.2.1≤30
 rotate_left
 ·have e6:decide (s.2.1 > 30)=true:=by simp_all
  have:¬ a1n s n:=fun hp=>h6 hp.2.2.2.2.2.1
  simp_all
 have e6:decide (s.2.1 > 30)=false:=by simp_all
 simp only[e5,e6,cF]
 by_cases h7:s.1=0→s.2.1=0
 rotate_left
 ·have h7a:s.1=0:=Classical.byContradiction fun hc=>h7 fun e=>absurd e hc
  have h7b:(s.2.1 != 0)=true:=by
   simp_all
  have e7:(s.1==0)=true:=by simp_all
  have:¬ a1n s n:=fun hp=>h7 hp.2.2.2.2.2.2.1
  grind
 have e7:(bif s.1==0 then some (n,(s.2.1 != 0,(s,())))else some (n,(false,(s,()))))=some (n,(false,(s,()))):=by
  grind
 simp only[e7,oB,cF,b1B]
 by_cases h8:(s.2.2.2.2.2.2.2.2.1.length:Int)=a0W s n
 rotate_left
 ·have e8:(((s.2.2.2.2.2.2.2.2.1.length:Nat):Int) != a0W s n)=true:=by simp_all
  have:¬ a1n s n:=fun hp=>h8 hp.2.2.2.2.2.2.2.1
  grind
 have e8:(((s.2.2.2.2.2.2.2.2.1.length:Nat):Int) != a0W s n)=false:=by simp_all
 simp only[e8,cF,a3s hw,a3s hr,oB]
 cases h9:s.2.2.2.2.2.2.2.2.1.all a0A with
 |false=>
  have:¬ a1n s n:=fun hp=>by rw[hp.2.2.2.2.2.2.2.2.1]at h9;grind
  simp_all
 |true=>
  cases h10:s.2.2.2.2.2.2.2.2.2.2.1.all a0A with
  |false=>
   have:¬ a1n s n:=fun hp=>by rw[hp.2.2.2.2.2.2.2.2.2.1]at h10;grind
   simp_all
  |true=>
   simp only[bT,cF,oB,a7g]
   have hwr:=b1Y h h1 h2 h3
   by_cases k01:s.1≠0∧s.1≠1
   ·have e11:wrap .i64 (n-a0W s n)=n-a0W s n:=a0I (by omega)
    simp[k01,e11,a8R hk]
    by_cases h11:(s.2.2.2.2.2.2.2.2.2.2.1.length:Int)=n-a0W s n
    ·have e12:(((s.2.2.2.2.2.2.2.2.2.2.1.length:Nat):Int)==n-a0W s n)=true:=by simp_all
     simp only[e12,cT]
     congr 1
     rw[a75,dT]
     constructor
     ·intro hp
      exact⟨h1,h2,h3,h4,h5,h6,h7,h8,h9,h10,fun hc=>absurd hc (by omega),fun _=>⟨h11,hp⟩⟩
     ·intro hp;exact(hp.2.2.2.2.2.2.2.2.2.2.2 k01).2
    ·have e12:(((s.2.2.2.2.2.2.2.2.2.2.1.length:Nat):Int)==n-a0W s n)=false:=by simp_all
     have:¬ a1n s n:=fun hp=>h11 (hp.2.2.2.2.2.2.2.2.2.2.2 k01).1
     grind
   ·have k01':s.1=0∨s.1=1:=by omega
    simp[k01,c6o]
    simp only[b7f,a8h]
    congr 1
    rw[a75,dT]
    simp
    constructor
    ·rintro⟨g1,g2,g3⟩
     exact⟨h1,h2,h3,h4,h5,h6,h7,h8,h9,h10,fun _=>⟨g1,g2,g3⟩,fun hc=>absurd hc k01⟩
    ·intro hp;exact hp.2.2.2.2.2.2.2.2.2.2.1 k01'
theorem b2I{α:Type}[DecidableEq α](q:α→α→Bool)(g:∀a b,q a b=decide (a=b)):∀(x y:List α),x.length=y.length→((x.zip y).all fun p=>q p.1 p.2)=decide (x=y)
 | [],[],_=>by simp
 |a::x,b::y,h=>by
  have f:=b2I q g x y (by simp_all);simp_all
theorem a9G{x y:List Int}(h:short x):a1M (x,y)=some (decide (x=y)):=by
 unfold a1M
 by_cases hl:x.length=y.length
 have e:(((x.length:Nat):Int) != ((y.length:Nat):Int))=false:=by simp_all
 have l:(x.zip y).length=x.length:=by simp_all
 have:=a1w (f:=a4z) (x.zip y) (fun i=>(x,y,(i:Int),())) (fun p=>p.1==p.2) (bt:=Sum.inl ()) (bf:=Sum.inr (false,()))
  (fun i d hp=>by
   have k:i<x.length:=by omega
   have c:i<y.length:=by omega
   rw[a43]at hp;have hp:x[i]=y[i]:=by simp_all
   have g:(x[i] != y[i])=false:=by simp_all
   simp only[a4z,dlt k,cT,a0C k,a0C c,oB,g,cF,a0B (a06 k h)])
  (fun i d hp=>by
   have k:i<x.length:=by omega
   have c:i<y.length:=by omega
   rw[a43]at hp;have g:(x[i] != y[i])=true:=by simp_all
   simp only[a4z,dlt k,cT,a0C k,a0C c,oB,g])
  (by simp_all[a4z])
 simp at this;simp only[e,cF,this,b2I (fun(a b:Int)=>a==b) (fun _ _=>rfl) x y hl]
 grind
 have e:(((x.length:Nat):Int) != ((y.length:Nat):Int))=true:=by grind
 have:¬ x=y:=fun j=>hl (by grind)
 grind
theorem b8l{x y:List Stg}(h:short x):a6h (x,y)=some (decide (x=y)):=by
 have k:∀a b:Stg,eqT (.pair (.int .i64) (.pair (.int .i64) .unit)) a b=decide (a=b):=by
  rintro⟨a1,a2,⟨⟩⟩ ⟨b1,b2,⟨⟩⟩
  show((a1==b1)&&((a2==b2)&&true))=_
  grind
 unfold a6h
 by_cases hl:x.length=y.length
 have e:(((x.length:Nat):Int) != ((y.length:Nat):Int))=false:=by simp_all
 have l:(x.zip y).length=x.length:=by simp_all
 have:=a1w (f:=a3m) (x.zip y) (fun i=>(x,y,(i:Int),())) (fun p=>decide (p.1=p.2)) (bt:=Sum.inl ()) (bf:=Sum.inr (false,()))
  (fun i d hp=>by
   have g:i<x.length:=by omega
   have c:i<y.length:=by omega
   rw[a43]at hp;simp only[a3m,dlt g,cT,a0C g,a0C c,oB,k,hp,bT,cF,a0B (a06 g h)])
  (fun i d hp=>by
   have g:i<x.length:=by omega
   have c:i<y.length:=by omega
   rw[a43]at hp;simp only[a3m,dlt g,cT,a0C g,a0C c,oB,k,hp,a16])
  (by simp_all[a3m])
 simp at this;simp only[e,cF,this,b2I (fun(a b:Stg)=>decide (a=b)) (fun _ _=>rfl) x y hl]
 grind
 have e:(((x.length:Nat):Int) != ((y.length:Nat):Int))=true:=by grind
 have:¬ x=y:=fun j=>hl (by grind)
 grind
open Classical in
theorem b5X {a b:Sub} (h:SmallS a):a6B (a,b)=some (decide (a=b)):=by
 have hc:short a.2.2.2.2.2.1:=by have:=h.coefs;unfold short;omega
 have hst:short a.2.2.2.2.2.2.2.1:=by have:=h.stages;unfold short;omega
 have hw:short a.2.2.2.2.2.2.2.2.1:=by have:=h.warm;unfold short;omega
 have hr:short a.2.2.2.2.2.2.2.2.2.2.1:=by have:=h.rest;unfold short;omega
 have hk:short a.2.2.2.2.2.2.2.2.2.1.2.1:=by have:=h.ks;unfold short;omega
 unfold a6B a9e
 simp only[a9G hc,a9G hw,a9G hr,a9G hk,b8l hst,a9j,oB,a8h]
 congr 1
 grind
def b1e(s:Sub):Sub:=
 let z:List Int:=a01 3 0
 if s.1=0 then(0,0,0,0,0,[],z,[],s.2.2.2.2.2.2.2.2.1,(0,[],()),[],())
 else if s.1=1 then(1,s.2.1,0,0,0,[],z,[],s.2.2.2.2.2.2.2.2.1,(0,[],()),[],())
 else if s.1=2 then(2,s.2.1,s.2.2.1,0,0,[],z,[],s.2.2.2.2.2.2.2.2.1,s.2.2.2.2.2.2.2.2.2.1,s.2.2.2.2.2.2.2.2.2.2.1,())
 else if s.1=3 then(3,s.2.1,0,s.2.2.2.1,0,s.2.2.2.2.2.1,z,[],s.2.2.2.2.2.2.2.2.1,s.2.2.2.2.2.2.2.2.2.1,s.2.2.2.2.2.2.2.2.2.2.1,())
 else if s.1=4 then(4,s.2.1,0,s.2.2.2.1,s.2.2.2.2.1,s.2.2.2.2.2.1,s.2.2.2.2.2.2.1,[],s.2.2.2.2.2.2.2.2.1,s.2.2.2.2.2.2.2.2.2.1,s.2.2.2.2.2.2.2.2.2.2.1,())
 else if s.1=5 then(5,s.2.1,0,0,0,[],z,s.2.2.2.2.2.2.2.1,[],s.2.2.2.2.2.2.2.2.2.1,s.2.2.2.2.2.2.2.2.2.2.1,())
 else(s.1,s.2.1,0,0,0,[],z,[],s.2.2.2.2.2.2.2.2.1,s.2.2.2.2.2.2.2.2.2.1,s.2.2.2.2.2.2.2.2.2.2.1,())
theorem c4n(s:Sub):a9D s=some (b1e s):=by
 obtain⟨k,w,o,sh,lag,c,t,st,h,p,r,u⟩:=s;unfold a9D b1e
 grind
open Classical in
def a7T (s:Sub) (n:Int):Int:=if a2x s.1 s n then a0W s n else -1
theorem b5a{s:Sub}(h:SmallS s)(n:Int):a7Q (s,n)=some (a7T s n):=by
 have f:short s.2.2.2.2.2.1:=by have:=h.coefs;unfold short;omega
 have g:short s.2.2.2.2.2.2.2.1:=by have:=h.stages;unfold short;omega
 have a:=h.taps;obtain⟨k,w,o,sh,lag,c,t,st,b,p,r,u⟩:=s;simp only at f g a;unfold a7Q a7T a0W a2x
 by_cases k0:k=0
 simp_all
 by_cases k1:k=1
 simp_all
 by_cases k2:k=2
 grind
 by_cases k3:k=3
 grind[a4E]
 by_cases k4:k=4
 grind[a4E,a9h]
 grind[a8N]
theorem a5u(k:Int):a3T k=some (decide (2≤k∧k≤5)):=by
 grind[a3T]
def c2H(s:Sub)(n:Int):Prop:=
 1≤n∧n≤4096∧0≤s.1∧s.1≤5∧s=b1e s∧0≤s.2.1∧s.2.1≤30∧a2x s.1 s n∧(s.2.2.2.2.2.2.2.2.1.length:Int)=a0W s n∧s.2.2.2.2.2.2.2.2.1.all a0A=true∧s.2.2.2.2.2.2.2.2.2.2.1.all a0A=true∧
  (2≤s.1∧s.1≤5→(s.2.2.2.2.2.2.2.2.2.2.1.length:Int)=n-a0W s n∧a2F s.2.2.2.2.2.2.2.2.2.1 n (a0W s n)=true)
theorem b1C{k:Int}{s:Sub}{n:Int}(h:a2x k s n):k=0∨k=1∨k=2∨k=3∨k=4∨k=5:=by
 unfold a2x at h;omega
theorem c1d(s:Sub)(n:Int):a1n s n↔c2H s n:=by
 have f:a2x s.1 s n→((a9R s∧(s.1=0→s.2.1=0)∧(s.2.2.2.2.2.2.2.2.1.length:Int)=a0W s n∧(s.1=0∨s.1=1→s.2.2.2.2.2.2.2.2.2.2.1=[]∧s.2.2.2.2.2.2.2.2.2.1.1=0∧s.2.2.2.2.2.2.2.2.2.1.2.1=[]))↔
   (s=b1e s∧(s.2.2.2.2.2.2.2.2.1.length:Int)=a0W s n)):=by
  intro h;have g:(a01 3 (0:Int))=[0,0,0]:=rfl;obtain⟨k,w,o,sh,lag,c,t,st,wm,⟨po,ks,⟨⟩⟩,r,⟨⟩⟩:=s;rcases b1C h with k0|k0|k0|k0|k0|k0<;>simp only at k0<;>subst k0<;>simp[a9R,b1e,a0W,g]<;>(try constructor)<;>(try intros)<;>(try simp_all)<;>(try exact and_left_comm)<;>(grind)
 unfold a1n c2H
 grind[b1C]
def b3A(warm rest:List Int)(o:Int):Option (List Int):=bif warm.all a0A&&rest.all a0A then a3a (a3g o.toNat) rest warm else none
def backP(s:Sub):Option (List Int):=
 if s.1=1 then some s.2.2.2.2.2.2.2.2.1
 else if s.1=2 then b3A s.2.2.2.2.2.2.2.2.1 s.2.2.2.2.2.2.2.2.2.2.1 s.2.2.1
 else if s.1=3 then a8O s.2.2.2.2.2.2.2.2.1 s.2.2.2.2.2.2.2.2.2.2.1 s.2.2.2.2.2.1 s.2.2.2.1
 else if s.1=4 then(a8O s.2.2.2.2.2.2.2.2.1 s.2.2.2.2.2.2.2.2.2.2.1 s.2.2.2.2.2.1 s.2.2.2.1).bind fun l=>a9E l s.2.2.2.2.1 s.2.2.2.2.2.2.1
 else a7S s.2.2.2.2.2.2.2.2.2.2.1 s.2.2.2.2.2.2.2.1
def b5b(s:Sub)(n:Int):Option (List Int):=
 if s.1=0 then some (a01 n.toNat (s.2.2.2.2.2.2.2.2.1.getD 0 0))else(backP s).bind (upO s.2.1)
theorem a9H{w r c:List Int}{s:Int}{l}(h:a8O w r c s=some l):l.length=w.length+r.length:=by
 unfold a8O at h;cases hc:(w.all a0A&&r.all a0A)with
 |false=>simp_all
 |true=>
  rw[hc]at h;exact(b0N _ r w l (a60.1 hc).1 h).2
theorem c1e{w r:List Int}{o:Int}{l}(h:b3A w r o=some l):l.length=w.length+r.length:=by
 unfold b3A at h;cases hc:(w.all a0A&&r.all a0A)with
 |false=>simp_all
 |true=>
  rw[hc]at h;exact(b0N _ r w l (a60.1 hc).1 h).2
theorem b9w{l}(h:a9E r lag t=some l):l.length=r.length:=by
 unfold a9E at h;cases hc:r.all a0A with
 |false=>simp_all
 |true=>
  rw[hc]at h
  have:=(b0N _ r [] l rfl h).2
  simp_all
theorem b7u:∀(st:List Stg)(r:List Int){l},lO st r=some l→l.length=r.length
 | [],r,l,h=>by simp_all[lO]
 |s::st,r,l,h=>by
  simp only[lO]at h
  split at h
  rename_i f g;rw[b7u st f h,b0P _ _ _ g];simp;cases h
theorem b8m{r:List Int}{st:List Stg}{l}(h:a7S r st=some l):l.length=r.length:=by
 grind[a7S,b7u]
theorem b3B(h:SmallS s){l}(g:backP s=some l):l.length<100000:=by
 have b:=h.warm;have a:=h.rest;unfold backP at g
 split at g
 grind
 split at g
 grind[c1e]
 split at g
 grind[a9H]
 split at g
 obtain⟨l1,f,k⟩:=a39.1 g;rw[b9w k,a9H f];omega
 grind[b8m]
theorem c3I(c:1≤n)(d:n≤4096)(e:s.2.2.2.2.2.2.2.2.1.length=1):
  y0s a6x (n,(0:Int),([]:List Int),s,())=some (a01 n.toNat (s.2.2.2.2.2.2.2.2.1.getD 0 0),()):=by
 obtain⟨N,rfl⟩:=a03 (show 0≤n by omega);have k:m0k s.2.2.2.2.2.2.2.2.1 (0:Int)=some (s.2.2.2.2.2.2.2.2.1.getD 0 0):=b2C (by omega) (by omega)
 have:=a0R (f:=a6x) (fun i=>((N:Int),(i:Int),a01 i (s.2.2.2.2.2.2.2.2.1.getD 0 0),s,())) N
  (b:=(a01 N (s.2.2.2.2.2.2.2.2.1.getD 0 0),())) (fun i a=>by
   have h:lim ((a01 i (s.2.2.2.2.2.2.2.2.1.getD 0 0)).length+1)=true:=a0G (by grind);have g:a01 i (s.2.2.2.2.2.2.2.2.1.getD 0 0)++[s.2.2.2.2.2.2.2.2.1.getD 0 0]=a01 (i+1) (s.2.2.2.2.2.2.2.2.1.getD 0 0):=by grind[a28]
   simp only[a6x,dlt a,cT,k,oB,h,a05,g,a0B (show i<1000000 by omega)])
  (by simp[a6x])
 simp_all
theorem b8n(m:1≤n)(o:n≤4096)(q:s.2.2.2.2.2.2.2.2.1.length=1):
  y0s a5p (n,(0:Int),a01 n.toNat (0:Int),s,())=some (a01 n.toNat (s.2.2.2.2.2.2.2.2.1.getD 0 0),()):=by
 obtain⟨N,rfl⟩:=a03 (show 0≤n by omega);have j:m0k s.2.2.2.2.2.2.2.2.1 (0:Int)=some (s.2.2.2.2.2.2.2.2.1.getD 0 0):=b2C (by omega) (by omega);obtain⟨z,r⟩:∃z,a01 N (s.2.2.2.2.2.2.2.2.1.getD 0 0)=z:=⟨_,rfl⟩;have k:z.length=(a01 N (0:Int)).length:=by grind
 have d:(a01 N (0:Int)).length=N:=by simp
 have:=a0R (f:=a5p) (fun i=>((N:Int),(i:Int),z.take i++(a01 N (0:Int)).drop i,s,())) N
  (b:=(z,())) (fun i l=>by
   have h:i<(a01 N (0:Int)).length:=by omega
   have p:(z.take i++(a01 N (0:Int)).drop i).length=N:=by grind
   have e:decide ((i:Int)<(((z.take i++(a01 N (0:Int)).drop i).length:Nat):Int))=true:=by simp_all
   have c:decide ((0:Int)≤(i:Int))=true:=by simp
   have a:=b9t h k;have g:z[i]'(by omega)=s.2.2.2.2.2.2.2.2.1.getD 0 0:=by grind
   rw[g]at a;simp only[a5p,dlt l,cT,j,oB,c,e,a02,tN,a,a0B (show i<1000000 by omega)])
  (by
   simp_all[a09,a5p])
 simp_all
theorem c1f(h:SmallS s)(hp:a1n s n)(x:s.1≠0):b0K s=some (a1V (backP s)):=by
 obtain⟨y,z,m,-,-,-,-,a,C,A,-⟩:=hp;have q:=h.rest;have v:=h.warm;have B:=h.taps;obtain⟨k,w,o,sh,lag,c,t,st,d,p,r,u⟩:=s;simp only at *;unfold b0K backP;rcases m with g|g|⟨g,f,b,e⟩|⟨g,f,b⟩|⟨g,f,b,e⟩|⟨g,f,b⟩;omega;subst g;rfl;subst g;obtain⟨O,rfl⟩:=a03 f
 grind[a0W,b4X,b3A]
 grind[a0W,b0D]
 ·subst g;simp only[a0W]at a;have j:d.length=c.length:=by grind
  have i:=b0D (rest:=r) f j (by omega);simp only[show((4:Int)==2)=false from rfl,show((4:Int)==3)=false from rfl,show((4:Int)==4)=true from rfl,cT,cF,i,oB];cases hl:a8O d r c sh with
  |none=>rfl
  |some l=>
   grind[a9H,b5S,a1V]
 grind[b4Z]
theorem c1g(h:SmallS s)(hp:a1n s n):b0H (s,n)=some (a1V (b5b s n)):=by
 have a:=fun l (d:backP s=some l)=>b3B h d;obtain⟨z,A,C,-,x,v,-,g,K,I,-⟩:=hp;have F:=h.rest;have G:=h.warm;have H:=h.taps;have D:=c3I (s:=s) z A;obtain⟨k,w,o,sh,lag,c,t,st,f,p,r,u⟩:=s;simp only at *;have L:∀l,l.length<100000→a7O (l,w)=some (a1V (upO w l)):=fun l d=>b9r x v d;unfold b0H b5b;rcases C with b|b|⟨b,j,m,y⟩|⟨b,j,m⟩|⟨b,j,m,y⟩|⟨b,j,m⟩
 grind[a0W,a1V]
 simp_all[backP]
 ·subst b;obtain⟨O,rfl⟩:=a03 j;have m:(O:Int)≤4:=m;simp only[a0W]at g;have q:f.length=O:=by grind
  have i:=b8h (warm:=f) (rest:=r) (o:=O) (by omega) q (by omega);simp only[backP]at a⊢;simp[i];have e:(bif f.all a0A&&r.all a0A then a3a (a3g O) r f else none)=b3A f r (O:Int):=rfl;rw[e];cases d:b3A f r (O:Int)with
  |none=>rfl
  |some l=>simp_all[a1V]
 ·subst b;simp only[a0W]at g;have q:f.length=c.length:=by grind
  have i:=b2j (rest:=r) j q (by omega);simp only[backP]at a⊢;simp[i];cases d:a8O f r c sh with
  |none=>rfl
  |some l=>simp_all[a1V]
 ·subst b;simp only[a0W]at g;have q:f.length=c.length:=by grind
  have i:=b2j (rest:=r) j q (by omega);simp only[backP]at a⊢;simp[i];cases d:a8O f r c sh with
  |none=>rfl
  |some l=>
   have E:=a9H d;have B:=b9q (rest:=l) y H (by omega);simp[a1V,B]
   grind[a1V]
 ·subst b;have i:=b8k (rest:=r) m (by omega);simp only[backP]at a⊢;simp[i];cases d:a7S r st with
  |none=>rfl
  |some l=>simp_all[a1V]
open Classical in
def a2L (s:Sub) (n:Int):Option (List Int):=if a1n s n then b5b s n else none
theorem c2I(h:SmallS s)(n:Int):a9N (s,n)=some (match a2L s n with|some r=>(r,0)|none=>([],1)):=by
 unfold a9N a2L;simp only[c3H h,oB]
 by_cases hp:a1n s n
 simp[hp,c1g h hp]
 grind[a1V]
 simp_all
theorem c2J(h:SmallS s)(n:Int):b1t (s,n)=some (a2L s n).isSome:=by
 unfold b1t;simp only[c2I h,oB];cases a2L s n<;>rfl
open Classical in
theorem b8o {s:Sub} (h:SmallS s) (n:Int):a8G (s,n)=some (match a2L s n with|some r=>(r,true)|none=>([],false)):=by
 have hw:short s.2.2.2.2.2.2.2.2.1:=by have:=h.warm;unfold short;omega
 have hr:short s.2.2.2.2.2.2.2.2.2.2.1:=by have:=h.rest;unfold short;omega
 have hk:short s.2.2.2.2.2.2.2.2.2.1.2.1:=by have:=h.ks;unfold short;omega
 have hiff:=c1d s n
 unfold a8G
 have no:¬ c2H s n→a2L s n=none:=fun hc=>by
  simp_all[a2L]
 by_cases h1:1≤n
 rotate_left
 ·have e1:decide (n<1)=true:=by simp_all
  rw[no fun hp=>h1 hp.1]
  simp_all
 have e1:decide (n<1)=false:=by simp_all
 by_cases h2:n≤4096
 rotate_left
 ·have e2:decide (n > 4096)=true:=by simp_all
  rw[no fun hp=>h2 hp.2.1]
  simp_all
 have e2:decide (n > 4096)=false:=by simp_all
 by_cases h3:0≤s.1
 rotate_left
 ·have e3:decide (s.1<0)=true:=by simp_all
  rw[no fun hp=>h3 hp.2.2.1]
  simp_all
 have e3:decide (s.1<0)=false:=by simp_all
 by_cases h4:s.1≤5
 rotate_left
 ·have e4:decide (s.1 > 5)=true:=by simp_all
  rw[no fun hp=>h4 hp.2.2.2.1]
  simp_all
 have e4:decide (s.1 > 5)=false:=by simp_all
 simp only[e1,e2,e3,e4,cF,c4n,b5X h,oB]
 by_cases h5:s=b1e s
 rotate_left
 ·rw[no fun hp=>h5 hp.2.2.2.2.1]
  simp_all
 have e5:decide (s=b1e s)=true:=decide_eq_true h5
 simp only[e5,bT,cF]
 by_cases h6:0≤s.2.1
 rotate_left
 ·have e6:decide (s.2.1<0)=true:=by grind
  rw[no fun hp=>h6 hp.2.2.2.2.2.1]
  grind
 have e6:decide (s.2.1<0)=false:=by grind
 by_cases h7:s.2.1≤30
 rotate_left
 ·have e7:decide (s.2.1 > 30)=true:=by grind
  rw[no fun hp=>h7 hp.2.2.2.2.2.2.1]
  grind
 have e7:decide (s.2.1 > 30)=false:=by grind
 simp only[e6,e7,cF,oB,b5a h]
 by_cases h8:a2x s.1 s n
 rotate_left
 ·have e8:decide (a7T s n<0)=true:=by simp[a7T,h8]
  rw[no fun hp=>h8 hp.2.2.2.2.2.2.2.1]
  grind
 have hwr:=b1Y h h1 h2 h8
 have e8':a7T s n=a0W s n:=by simp[a7T,h8]
 have e8:decide (a0W s n<0)=false:=by grind
 simp only[e8',e8,cF]
 by_cases h9:(s.2.2.2.2.2.2.2.2.1.length:Int)=a0W s n
 rotate_left
 ·have e9:(((s.2.2.2.2.2.2.2.2.1.length:Nat):Int) != a0W s n)=true:=by grind
  rw[no fun hp=>h9 hp.2.2.2.2.2.2.2.2.1]
  grind
 have e9:(((s.2.2.2.2.2.2.2.2.1.length:Nat):Int) != a0W s n)=false:=by grind
 simp only[e9,cF,a0N hw,a0N hr,oB]
 cases h10:s.2.2.2.2.2.2.2.2.1.all a0A with
 |false=>
  rw[no fun hp=>by rw[hp.2.2.2.2.2.2.2.2.2.1]at h10;grind]
  rfl
 |true=>
  cases h11:s.2.2.2.2.2.2.2.2.2.2.1.all a0A with
  |false=>
   rw[no fun hp=>by rw[hp.2.2.2.2.2.2.2.2.2.2.1]at h11;grind]
   rfl
  |true=>
   simp only[bT,cF,oB,a5u]
   have e11:wrap .i64 (n-a0W s n)=n-a0W s n:=a0I (by omega)
   by_cases h12:2≤s.1∧s.1≤5→(s.2.2.2.2.2.2.2.2.2.2.1.length:Int)=n-a0W s n∧a2F s.2.2.2.2.2.2.2.2.2.1 n (a0W s n)=true
   rotate_left
   ·have hg:2≤s.1∧s.1≤5:=Classical.byContradiction fun hc=>h12 fun e=>absurd e hc
    have hn:¬ ((s.2.2.2.2.2.2.2.2.2.2.1.length:Int)=n-a0W s n∧a2F s.2.2.2.2.2.2.2.2.2.1 n (a0W s n)=true):=fun hc=>h12 fun _=>hc
    rw[no fun hp=>h12 hp.2.2.2.2.2.2.2.2.2.2.2]
    simp only[hg,and_self,decide_true,cT,e11,a8R hk,a5t hk,oB]
    grind
   have hrp:c2H s n:=⟨h1,h2,h3,h4,h5,h6,h7,h8,h9,h10,h11,h12⟩
   have hsp:=hiff.2 hrp
   have e12:(bif decide (2≤s.1∧s.1≤5)then bif (((s.2.2.2.2.2.2.2.2.2.2.1.length:Nat):Int) != wrap .i64 (n-a0W s n))then some (n,(true,(s,())))else(a4T (s.2.2.2.2.2.2.2.2.2.1,(n,a0W s n))).bind fun y9=>some (n,(!y9,(s,())))
     else some (n,(false,(s,()))))=some (n,(false,(s,()))):=by
    by_cases hg:2≤s.1∧s.1≤5
    ·obtain⟨g1,g2⟩:=h12 hg
     have e13:(((s.2.2.2.2.2.2.2.2.2.2.1.length:Nat):Int) != n-a0W s n)=false:=by grind
     simp only[hg,and_self,decide_true,cT,e11,e13,cF,a5t hk,g2,oB,bT]
    grind
   simp only[e12,oB,cF]
   have hsub:a2L s n=b5b s n:=by unfold a2L;grind
   rw[hsub]
   unfold b5b
   by_cases k0:s.1=0
   ·have ek:(s.1==0)=true:=by grind
    have hl1:s.2.2.2.2.2.2.2.2.1.length=1:=by
     have:=h9;unfold a0W at this;omega
    have g1:decide ((0:Int)≤n)=true:=by grind
    have g2:decide (n≤n)=true:=by simp
    have g3:lim n.toNat=true:=a0G (by omega)
    simp only[ek,cT,g1,g2,g3,a02,b8n h1 h2 hl1,oB,k0,if_true]
    rfl
   ·have ek:(s.1==0)=false:=by grind
    simp[ek,c1f h hsp k0,k0]
    cases hb:backP s with
    |none=>rfl
    |some l=>
     have hll:=b3B h hb
     simp only[a1V,c3F h6 h7 hll,oB]
     cases upO s.2.1 l<;>simp[a1V]
theorem b8p(h:SmallS s)(n:Int):a8H (s,n)=some (a2L s n).isSome:=by
 grind[a8H,b8o]
@[reducible] def Wr:Type:=(List Int)×(Int×Unit)
def c2K(w:Wr)(b:Int):Wr:=
 let bs:=if w.2.1%8=0 then w.1++[0]else w.1
 (bs.set (w.2.1 / 8).toNat (bits .u8 .or (bs.getD (w.2.1 / 8).toNat 0) (A0n .u8 b (7-w.2.1%8))),w.2.1+1,())
def wL(L:List Int):Wr:=L.foldl c2K ([],0,())
theorem c1C(L:List Int)(b:Int):wL (L++[b])=c2K (wL L) b:=by simp[wL]
theorem b5Y:∀(n:Nat)(L:List Int),L.length=n→(wL L).2.1=L.length∧(wL L).1.length=(L.length+7) / 8
 |0,L,h=>by
  rw[a52.1 h];exact⟨rfl,rfl⟩
 |n+1,L,h=>by
  obtain⟨g,b,rfl⟩:∃g b,L=g++[b]:=by
   rcases List.eq_nil_or_concat L with rfl|⟨g,b,e⟩
   all_goals simp_all
  obtain⟨f,k⟩:=b5Y n g (by simp_all);rw[c1C];simp only[c2K,List.length_set,lN,List.length_singleton,f]
  grind
theorem b9x(L:List Int):(wL L).2.1=L.length∧(wL L).1.length=(L.length+7) / 8:=b5Y _ L rfl
theorem b9y{L:List Int}(l:L.length<1000000000)(b:Int):a3c (wL L,b)=some (wL (L++[b])):=by
 obtain⟨g,k⟩:=b9x L;have q:a62 ((L.length:Nat):Int) 8=((L.length:Nat):Int)%8:=Int.tmod_eq_emod_of_nonneg (by omega);have o:Int.tdiv ((L.length:Nat):Int) 8=((L.length:Nat):Int) / 8:=Int.tdiv_eq_ediv_of_nonneg (by omega);have c:wrap .i64 (((L.length:Nat):Int) / 8)=((L.length:Nat):Int) / 8:=a0I (by omega);have d:wrap .i64 (7-((L.length:Nat):Int)%8)=7-((L.length:Nat):Int)%8:=a0I (by omega);have e:wrap .i64 (((L.length:Nat):Int)+1)=((L.length:Nat):Int)+1:=a0I (by omega);have i:decide ((0:Int)≤((L.length:Nat):Int) / 8)=true:=by rfl
 have j:decide (7-((L.length:Nat):Int)%8<0)=false:=by grind
 rw[c1C];generalize wL L=wr at g k⊢;obtain⟨f,n,u⟩:=wr;have g:n=((L.length:Nat):Int):=g;have k:f.length=(L.length+7) / 8:=k;subst g;unfold a3c c2K
 by_cases h:((L.length:Nat):Int)%8=0
 have m:(((L.length:Nat):Int)%8==0)=true:=by grind
 have p:lim (f.length+1)=true:=a7R (by omega);have a:decide (((L.length:Nat):Int) / 8<(((f++[0]).length:Nat):Int))=true:=by grind
 simp_all
 grind
def b2J(v:Int)(i:Nat):Int:=wrap .u8 (bits .u64 .and (A0o .u64 v (i:Int)) 1)
def pb(v:Int):Nat→List Int
 |0=>[]
 |i+1=>b2J v i::pb v i
theorem b3C(v:Int):∀n,(pb v n).length=n
 |0=>rfl
 |n+1=>by simp[pb,b3C v n]
def a0F(v:Int)(n:Nat)(L:List Int):List Int:=bif A0o .u64 v (n:Int) != 0 then L else L++pb v n
theorem a0L(v:Int)(n:Nat)(L:List Int):L.length≤(a0F v n L).length∧(a0F v n L).length≤L.length+n:=by
 grind[a0F,b3C]
def a2b(v:Int)(n:Nat):Int:=bif A0o .u64 v (n:Int) != 0 then 1 else 0
theorem b9z{v:Int}:∀(n:Nat)(L:List Int),L.length+n<1000000000→y0s a4d (v,(n:Int)-1,wL L,())=some (wL (L++pb v n),())
 |0,L,_=>by simp_all[a0D,a4d,pb]
 |n+1,L,h=>by
  have e:((n+1:Nat):Int)-1=(n:Int):=by omega
  have g:wrap .i64 ((n:Int)-1)=(n:Int)-1:=a0I (by omega);have f:decide ((n:Int)≥0)=true:=by simp
  have k:decide ((n:Int)<0)=false:=by simp
  rw[e,a0H (s':=(v,(n:Int)-1,wL (L++[b2J v n]),())) (by
   simp only[a4d,f,k,cT,cF,show wrap .u8 (bits .u64 .and (A0o .u64 v (n:Int)) 1)=b2J v n from rfl,b9y (show L.length<1000000000 by omega),oB,g])]
  rw[b9z n (L++[b2J v n]) (by simp;omega),pb]
  simp
theorem a3n{v:Int}{n:Nat}(a:n≤63)(k:L.length<999999000):a0E (wL L,v,(n:Int))=some (a2b v n,wL (a0F v n L)):=by
 unfold a0E a2b a0F;have g:decide ((n:Int)<0)=false:=by simp
 have f:decide ((n:Int) > 64)=false:=by grind
 have h:wrap .i64 ((n:Int)-1)=(n:Int)-1:=a0I (by omega);simp[g,f];cases (A0o .u64 v (n:Int) != 0)with
 |true=>rfl
 |false=>simp only[cF,h,b9z n L (by omega),oB]
theorem b3D{v:Int}:∀(n:Nat)(L:List Int),n≤64→L.length+n<1000000000→y0s a5q (v,(n:Int)-1,(L,()),())=some ((L++pb v n,()),())
 |0,L,_,_=>by simp_all[a0D,a5q,pb]
 |n+1,L,h64,h=>by
  have e:((n+1:Nat):Int)-1=(n:Int):=by omega
  have g:wrap .i64 ((n:Int)-1)=(n:Int)-1:=a0I (by omega);have f:wrap .u64 (n:Int)=(n:Int):=a1c (by omega);have k:decide ((n:Int)≥0)=true:=by simp
  have a:decide ((n:Int)<0)=false:=by simp
  have b:lim (L.length+1)=true:=a7R (by omega);rw[e,a0H (s':=(v,(n:Int)-1,(L++[b2J v n],()),())) (by
   simp only[a5q,k,a,f,b,cT,cF,show wrap .u8 (bits .u64 .and (A0o .u64 v (n:Int)) 1)=b2J v n from rfl,a05,g])]
  rw[b3D n (L++[b2J v n]) (by omega) (by simp;omega),pb]
  simp
theorem a1z{v:Int}{n:Nat}(c:n≤63)(b:L.length<999999000):a0K ((L,()),v,(n:Int))=some (a2b v n,a0F v n L,()):=by
 unfold a0K a2b a0F;have f:decide ((n:Int)<0)=false:=by simp
 have k:decide ((n:Int) > 64)=false:=by grind
 have a:decide ((n:Int)<64)=true:=by grind
 have h:wrap .i64 ((n:Int)-1)=(n:Int)-1:=a0I (by omega);have g:wrap .u64 (n:Int)=(n:Int):=a1c (by omega);simp[f,k,a,g];cases (A0o .u64 v (n:Int) != 0)with
 |true=>rfl
 |false=>simp only[cF,h,b3D n L (by omega) (by omega),oB]
def unL(n:Nat)(L:List Int):List Int:=L++a01 n 0++[1]
theorem b9A{n:Nat}(d:n≤4096)(c:L.length<999990000):a2g (wL L,(n:Int))=some (0,wL (unL n L)):=by
 unfold a2g unL;have g:decide ((n:Int)<0)=false:=by simp
 have k:decide ((n:Int) > 4096)=false:=by grind
 simp only[g,k,cF,oB]
 have:=a0R (f:=a3w) (fun i=>((n:Int),(i:Int),wL (L++a01 i 0),())) n (b:=(wL (L++a01 n 0),())) (fun i a=>by
   have h:L++a01 i (0:Int)++[0]=L++a01 (i+1) 0:=by simp_all[a28]
   simp only[a3w,dlt a,cT,b9y (show(L++a01 i (0:Int)).length<1000000000 by grind),oB,h,a0B (show i<1000000 by omega)])
  (by simp[a3w])
 grind[b9y]
theorem b3E{n:Nat}(e:n≤4096)(d:L.length<999990000):a3e ((L,()),(n:Int))=some (0,unL n L,()):=by
 unfold a3e unL;have k:decide ((n:Int)<0)=false:=by simp
 have a:decide ((n:Int) > 4096)=false:=by grind
 simp only[k,a,cF,oB]
 have:=a0R (f:=a4f) (fun i=>((n:Int),(i:Int),(L++a01 i 0,()),())) n (b:=((L++a01 n 0,()),())) (fun i c=>by
   have g:L++a01 i (0:Int)++[0]=L++a01 (i+1) 0:=by simp_all[a28]
   have h:lim ((L++a01 i (0:Int)).length+1)=true:=a7R (by grind);simp only[a4f,dlt c,cT,h,a05,g,a0B (show i<1000000 by omega)])
  (by simp[a4f])
 have h:lim ((L++a01 n (0:Int)).length+1)=true:=a7R (by grind);simp_all
theorem a6l(n:Nat)(L:List Int):(unL n L).length=L.length+n+1:=by simp[unL];rfl
def a2r(x:Int)(n:Nat):Int:=bits .u64 .and (wrap .u64 x) (wrap .u64 ((A0n .u64 1 (n:Int))-1))
def a1A(n:Nat)(l:List Int)(L:List Int):List Int:=l.foldl (fun L x=>a0F (a2r x n) n L) L
theorem a3I(n:Nat):∀(l L:List Int),L.length≤(a1A n l L).length∧(a1A n l L).length≤L.length+n*l.length
 | [],L=>by simp[a1A]
 |x::l,L=>by
  have h:=a0L (a2r x n) n L;have g:=a3I n l (a0F (a2r x n) n L);have e:a1A n (x::l) L=a1A n l (a0F (a2r x n) n L):=rfl;rw[e,lC,a71,a72];omega
theorem b1f{n:Nat}(f:n≤63)(g:L.length<999999000):a2O (wL L,x,(n:Int))=some (wL (a0F (a2r x n) n L)):=by
 unfold a2O;have h:decide ((n:Int)<0)=false:=by simp
 simp only[h,cF,show bits .u64 .and (wrap .u64 x) (wrap .u64 ((A0n .u64 1 (n:Int))-1))=a2r x n from rfl,a3n f g,oB]
theorem a6m{n:Nat}(d:n≤63)(m:l.length<10000)(e:L.length<900000000):a2C ((L,()),l,(n:Int))=some (a1A n l L,()):=by
 have a:wrap .u64 (n:Int)=(n:Int):=a1c (by omega);have b:decide ((n:Int)<0)=false:=by simp
 have f:∀(k i:Nat)(h:List Int),i+k=l.length→h.length+64*k<999990000→y0s a5H (l,(n:Int),(i:Int),(h,()),())=some ((a1A n (l.drop i) h,()),()):=by
  intro k
  induction k with
  |zero=>
   intro i h c _;obtain rfl:i=l.length:=by omega
   simp_all[a0D,a5H,a1A]
  |succ k ih=>
   intro i h c j;have g:i<l.length:=by omega
   have hp:=a0L (a2r l[i] n) n h;rw[a00 g,a0H (s':=(l,(n:Int),((i+1:Nat):Int),(a0F (a2r l[i] n) n h,()),())) (by
    simp only[a5H,dlt g,cT,a0C g,oB,a,b,cF,show bits .u64 .and (wrap .u64 l[i]) (wrap .u64 ((A0n .u64 1 (n:Int))-1))=a2r l[i] n from rfl,a1z d (show h.length<999999000 by omega),a0B (show i<1000000 by omega)])]
   exact ih (i+1) _ (by omega) (by omega)
 have:=f l.length 0 L (by omega) (by omega)
 simp_all[a2C]
def a1R(x w:Int):Bool:=decide (1≤w)&&(decide (w≤31)&&(decide (A0n .i64 (-1) (w-1)≤x)&&decide (x≤wrap .i64 (A0n .i64 1 (w-1)-1))))
theorem a5U(a:w≤32):a4O (x,(w:Int))=some (a1R x w):=by
 unfold a4O a1R b0W a9V
 by_cases h1:1≤(w:Int)
 by_cases h2:(w:Int)≤31
 have h:decide ((w:Int)<1)=false:=by simp_all
 have g:decide ((w:Int) > 31)=false:=by simp_all
 have e:wrap .i64 ((w:Int)-1)=(w:Int)-1:=a0I (by omega);have f:decide ((w:Int)-1<0)=false:=by simp_all
 have k:decide ((w:Int)≥1)=true:=by simp_all
 simp[h1,h2,h,g,f,e]
 grind
 grind
 grind
theorem b1Z(b:w≤32):a8m (x,(w:Int))=some (a1R x w):=by
 unfold a8m a1R b4Q b3r
 by_cases h1:1≤(w:Int)
 by_cases h2:(w:Int)≤31
 have f:decide ((w:Int)<1)=false:=by simp_all
 have k:decide ((w:Int) > 31)=false:=by simp_all
 have e:wrap .i64 ((w:Int)-1)=(w:Int)-1:=a0I (by omega);have g:wrap .u64 ((w:Int)-1)=(w:Int)-1:=a1c (by omega);have a:decide ((w:Int)-1<0)=false:=by simp_all
 have h:decide ((w:Int)≥1)=true:=by simp_all
 simp only[h,h1,h2,f,k,a,e,g,decide_true,cT,cF,oB,a21]
 grind
 grind
 grind
def a1C(x:Int):Nat→Nat→Nat
 |0,w=>w
 |k+1,w=>bif (x != 0)&&!a1R x w then a1C x k (w+1)else w
theorem b2K(x:Int):∀(k w:Nat),a1C x k w≤w+k
 |0,w=>a34 _
 |k+1,w=>by
  simp[a1C];cases (x != 0)&&!a1R x w with
  |true=>have:=b2K x k (w+1);grind
  |false=>simp
def a0J(l:List Int):Nat:=l.foldl (fun w x=>a1C x (32-w) w) 0
theorem b3b:∀(l:List Int)(w:Nat),w≤32→l.foldl (fun w x=>a1C x (32-w) w) w≤32
 | [],w,h=>h
 |x::l,w,h=>b3b l _ (show a1C x (32-w) w≤32 by grind[b2K])
theorem a2G(l:List Int):a0J l≤32:=b3b l 0 (by omega)
theorem b7v{x:Int}{l:List Int}{n i:Int}:∀(k w:Nat),w+k=32→y0s a3b ((w:Int),x,l,n,i,())=some (((a1C x k w:Nat):Int),l,n,i,())
 |0,w,h=>by
  obtain rfl:w=32:=by omega
  simp_all[a0D,a3b,a1C]
 |k+1,w,h=>by
  have g:decide ((w:Int)<32)=true:=by grind
  simp[a1C];cases hx:(x != 0)with
  |false=>simp_all[a0D,a3b]
  |true=>
   cases hf:a1R x w with
   |true=>exact a0D (by simp only[a3b,hx,g,a5U (show w≤32 by omega),hf,oB,cT,cF,bT,a77])
   |false=>
    rw[a0H (s':=(((w+1:Nat):Int),x,l,n,i,())) (by simp only[a3b,hx,g,a5U (show w≤32 by omega),hf,oB,cT,a16,a0B (show w<1000000 by omega)])];exact b7v k (w+1) (by omega)
theorem a5v(c:short l):a3o l=some ((a0J l:Nat):Int):=by
 have c:l.length<1000000:=c
 have:=a1U (f:=a5B) l (fun i (w:Nat)=>((w:Int),l,(l.length:Int),(i:Int),())) (fun w x=>(.inl (a1C x (32-w) w):Nat ⊕ (Int×Unit))) (fun _ w=>w≤32) (fun w=>((w:Int),()))
  (fun i h w j=>⟨fun d k=>by
   simp at k;subst k;refine⟨?_,by grind[b2K]⟩;simp only[a5B,dlt h,cT,a0C h,oB,b7v (32-w) w (by omega),a0B (show i<1000000 by omega)],fun b e=>(by grind)⟩)
  (fun w _=>by simp[a5B]) (a:=0) (by omega)
 simp at this;unfold a3o;rw[this];have g:∀(l:List Int)(w:Nat),a2q (fun w x=>(.inl (a1C x (32-w) w):Nat ⊕ (Int×Unit))) l w=.inl (l.foldl (fun w x=>a1C x (32-w) w) w):=by
  intro l
  induction l with
  |nil=>intro w;rfl
  |cons x l ih=>simp_all[a2q]
 rw[g];rfl
theorem b3c{l:List Int}{i:Nat}(g:i<l.length):∀(k w:Nat),w+k=32→y0s a6A (l,(w:Int),(i:Int),())=some (l,((a1C l[i] k w:Nat):Int),(i:Int),())
 |0,w,h=>by
  obtain rfl:w=32:=by omega
  rfl
 |k+1,w,h=>by
  have f:decide ((w:Int)<32)=true:=by grind
  simp[a1C];cases hx:(l[i] != 0)with
  |false=>simp_all[a0D,a6A,a0C]
  |true=>
   cases hf:a1R l[i] w with
   |true=>exact a0D (by simp only[a6A,a0C g,hx,f,b1Z (show w≤32 by omega),hf,oB,cT,cF,bT,a77])
   |false=>
    rw[a0H (s':=(l,((w+1:Nat):Int),(i:Int),())) (by simp only[a6A,a0C g,hx,f,b1Z (show w≤32 by omega),hf,oB,cT,a16,a0B (show w<1000000 by omega)])];exact b3c g k (w+1) (by omega)
theorem a7h(c:short l):a6g l=some ((a0J l:Nat):Int):=by
 have c:l.length<1000000:=c
 have:=a1U (f:=a7X) l (fun i (w:Nat)=>(l,(w:Int),(i:Int),())) (fun w x=>(.inl (a1C x (32-w) w):Nat ⊕ (Int×Unit))) (fun _ w=>w≤32) (fun w=>((w:Int),()))
  (fun i h w j=>⟨fun d k=>by
   simp at k;subst k;refine⟨?_,by grind[b2K]⟩;simp only[a7X,dlt h,cT,oB,b3c h (32-w) w (by omega),a0B (show i<1000000 by omega)],fun b e=>(by grind)⟩)
  (fun w _=>by simp[a7X]) (a:=0) (by omega)
 simp at this;unfold a6g;rw[this];have g:∀(l:List Int)(w:Nat),a2q (fun w x=>(.inl (a1C x (32-w) w):Nat ⊕ (Int×Unit))) l w=.inl (l.foldl (fun w x=>a1C x (32-w) w) w):=by
  intro l
  induction l with
  |nil=>intro w;rfl
  |cons x l ih=>simp_all[a2q]
 rw[g];rfl
theorem a8S(x:Int):a6G x=some (a0A x):=by
 grind[a6G,a0A]
def a0P(x:Int):Nat:=if 0≤x then(2*x).toNat else(-2*x-1).toNat
theorem a8i(h:a0A x=true):a0P x<2147483648:=by
 grind[a2D,a0P]
theorem a8T(h:a0A x=true):a7N x=some ((a0P x:Nat):Int):=by
 have f:=a2D.1 h;unfold a7N a0P;simp only[a8S,h,oB,bT,cF]
 by_cases h0:0≤x
 have g:decide (x≥0)=true:=by simp_all
 simp only[g,cT,if_pos h0]
 grind[a0I,a1c]
 have g:decide (x≥0)=false:=by simp_all
 simp only[g,cF,if_neg h0]
 grind[a0I,a1c]
theorem c5L{y:Nat}(h:y<18446744073709551616):bits .u64 .xor (IntKind.max .u64) (y:Int)=((18446744073709551615-y:Nat):Int):=by
 show wrap .u64 (((a07 64 (IntKind.max .u64)) ^^^ (a07 64 (y:Int))).toNat:Int)=_;have g:a07 64 (IntKind.max .u64)=BitVec.allOnes 64:=by rfl
 have f:a07 64 (y:Int)=BitVec.ofNat 64 y:=a29 64 y;rw[g,f,BitVec.allOnes_xor,BitVec.toNat_not,a33,a36 h];rw[a1c (by omega)]
theorem a9I(h:a0A x=true):a9P x=some ((a0P x:Nat):Int):=by
 have k:=a2D.1 h;unfold a9P b4T a0P;simp only[a1X,h,oB,bT,cF];have f:∀y:Int,A0n .u64 y 1=wrap .u64 (y*2):=fun y=>rfl
 by_cases h0:0≤x
 have g:decide (x<0)=false:=by simp_all
 simp only[g,cF,oB,if_pos h0,f]
 grind[a1c]
 have g:decide (x<0)=true:=by simp_all
 simp only[g,cT,oB,if_neg h0,f]
 grind[wrap,IntKind.bits,IntKind.signed,c5L]
theorem a5Y{N o:Nat}(h:o≤64):A0o .u64 (N:Int) (o:Int)=((N / 2^o:Nat):Int):=b2F h
theorem b7w(h:o≤64)(g:N*2^o<9223372036854775808):A0n .u64 (N:Int) (o:Int)=((N*2^o:Nat):Int):=by
 unfold A0n;show wrap .u64 ((N:Int)*2^(min (o:Int).toNat 64))=_
 grind[a1c]
theorem b9B{y k:Nat}(c:y<18446744073709551616)(f:k≤62):bits .u64 .and (y:Int) (wrap .u64 (A0n .u64 1 (k:Int)-1))=((y%2^k:Nat):Int):=by
 have hp:2^k≤2^62:=a30 (by simp) f;have a:1≤2^k:=a63;have b:(2:Nat)^62=4611686018427387904:=by rfl
 have h:A0n .u64 1 (k:Int)=((2^k:Nat):Int):=by have:=b7w (N:=1) (o:=k) (by omega) (by omega);simp_all
 have g:wrap .u64 (((2^k:Nat):Int)-1)=((2^k-1:Nat):Int):=by grind[a1c]
 rw[h,g];show wrap .u64 (((a07 64 (y:Int)) &&& (a07 64 ((2^k-1:Nat):Int))).toNat:Int)=_;rw[a29,a29,a73,a33,a33,a36 c,a36 (by omega),Nat.and_two_pow_sub_one_eq_mod]
 have:y%2^k<2^k:=a76 _ (by omega)
 exact a1c (by omega)
theorem a9k{q:Nat}(h:q<2147483648):wrap .i64 (q:Int)=(q:Int):=a0I (by omega)
def a6n(k:Nat)(x:Int)(L:List Int):List Int:=
 if a0P x / 2^k<32 then a0F ((a0P x%2^k:Nat):Int) k (unL (a0P x / 2^k) L)else a0F ((a0P x:Nat):Int) 32 (unL 32 L)
def a4G(k:Nat)(l:List Int)(L:List Int):List Int:=l.foldl (fun L x=>a6n k x L) L
theorem b1g{k:Nat}(h:k≤25)(x:Int)(L:List Int):L.length≤(a6n k x L).length∧(a6n k x L).length≤L.length+100:=by
 grind[a6n,a0L,a6l]
theorem b3d{k:Nat}(h:k≤25):∀(l L:List Int),L.length≤(a4G k l L).length∧(a4G k l L).length≤L.length+100*l.length
 | [],L=>by simp[a4G]
 |x::l,L=>by
  have g:=b1g h x L;have f:=b3d h l (a6n k x L);have e:a4G k (x::l) L=a4G k l (a6n k x L):=rfl
  grind
theorem a7I{k:Nat}(h:k≤25):a4x (k:Int)=some true:=by
 unfold a4x
 grind
theorem a8j{k:Nat}(h:k≤25):a2B (k:Int)=some true:=by
 unfold a2B
 grind
theorem c1h{k:Nat}(y:k≤25)(F:l.length<10000)(t:l.all a0A=true)(D:L.length<900000000):b0I (wL L,(k:Int),l)=some (0,wL (a4G k l L)):=by
 have B:=a1w (f:=a7V) l (fun i=>((k:Int),l,l,(l.length:Int),(i:Int),wL L,())) (fun _=>true) (bt:=Sum.inl ((k:Int),l,wL L,())) (bf:=Sum.inl ((k:Int),l,wL L,()))
  (fun i h _=>by
   have:=lA.1 t _ (a04 h)
   simp only[a7V,dlt h,cT,a0C h,oB,a8S,this,bT,cF,a0B (show i<1000000 by omega)])
  (fun i h hp=>by simp_all) (by simp[a7V])
 have p:∀(j i:Nat)(g:List Int),i+j=l.length→g.length+100*j<999990000→y0s a6y ((k:Int),l,(l.length:Int),(i:Int),wL g,())=some (wL (a4G k (l.drop i) g),()):=by
  intro j
  induction j with
  |zero=>
   intro i g x _;obtain rfl:i=l.length:=by omega
   simp_all[a0D,a6y,a4G]
  |succ j ih=>
   intro i g x E;have a:i<l.length:=by omega
   have c:=lA.1 t _ (a04 a);have A:=a8i c;have z:=b1g y l[i] g;have e:decide ((k:Int)<0)=false:=by simp
   have q:A0o .u64 ((a0P l[i]:Nat):Int) (k:Int)=((a0P l[i] / 2^k:Nat):Int):=a5Y (by omega);have o:=a24 (a0P l[i]) (2^k);have r:=a54 (a0P l[i]) (2^k);have d:A0n .u64 ((a0P l[i] / 2^k:Nat):Int) (k:Int)=((a0P l[i] / 2^k*2^k:Nat):Int):=b7w (by omega) (by grind);have u:wrap .u64 (((a0P l[i]:Nat):Int)-((a0P l[i] / 2^k*2^k:Nat):Int))=((a0P l[i]%2^k:Nat):Int):=by
    rw[a66 (a0P l[i] / 2^k)]
    grind[a1c]
   have w:wrap .i64 ((a0P l[i] / 2^k:Nat):Int)=((a0P l[i] / 2^k:Nat):Int):=a9k (a27 o A);rw[a00 a,a0H (s':=((k:Int),l,(l.length:Int),((i+1:Nat):Int),wL (a6n k l[i] g),())) (by
    by_cases hq:a0P l[i] / 2^k<32
    have m:decide (((a0P l[i] / 2^k:Nat):Int)<32)=true:=decide_eq_true (by omega);have s:(unL (a0P l[i] / 2^k) g).length<999999000:=by
     rw[a6l];omega
    have b:=b9A (L:=g) (n:=a0P l[i] / 2^k) (a53 (a06 hq (by simp))) (by omega);have hp:=a3n (L:=unL (a0P l[i] / 2^k) g) (v:=((a0P l[i]%2^k:Nat):Int)) (n:=k) (by omega) s;simp only[a6y,dlt a,cT,a0C a,oB,a8T c,e,cF,q,m,w,b,d,u,hp,a6n,if_pos hq,a0B (show i<1000000 by omega)];have m:decide (((a0P l[i] / 2^k:Nat):Int)<32)=false:=decide_eq_false (by omega);have s:=a6l 32 g;have b:a2g (wL g,(32:Int))=some (0,wL (unL 32 g)):=b9A (L:=g) (n:=32) (by omega) (by omega);have hp:a0E (wL (unL 32 g),((a0P l[i]:Nat):Int),(32:Int))=some (a2b ((a0P l[i]:Nat):Int) 32,wL (a0F ((a0P l[i]:Nat):Int) 32 (unL 32 g))):=a3n (L:=unL 32 g) (v:=((a0P l[i]:Nat):Int)) (n:=32) (by omega) (by omega);simp only[a6y,dlt a,cT,a0C a,oB,a8T c,e,cF,q,m,b,hp,a6n,if_neg hq,a0B (show i<1000000 by omega)])]
   exact ih (i+1) _ (by omega) (by omega)
 have C:=p l.length 0 L (by omega) (by omega);simp_all[b0I,a7I]
theorem b7g{k:Nat}(r:k≤25)(D:l.length<10000)(t:l.all a0A=true)(B:L.length<900000000):a8I ((L,()),(k:Int),l)=some (0,a4G k l L,()):=by
 have o:wrap .u64 (k:Int)=(k:Int):=a1c (by omega);have e:∀(j i:Nat)(h:List Int),i+j=l.length→h.length+100*j<999990000→y0s a5s ((k:Int),l,(i:Int),(h,()),())=some ((a4G k (l.drop i) h,()),()):=by
  intro j
  induction j with
  |zero=>
   intro i h w _;obtain rfl:i=l.length:=by omega
   simp_all[a0D,a5s,a4G]
  |succ j ih=>
   intro i h w C;have g:i<l.length:=by omega
   have a:=lA.1 t _ (a04 g);have A:=a8i a;have x:=b1g r l[i] h;have b:decide ((k:Int)<0)=false:=by simp
   have m:A0o .u64 ((a0P l[i]:Nat):Int) (k:Int)=((a0P l[i] / 2^k:Nat):Int):=a5Y (by omega);have d:=a24 (a0P l[i]) (2^k);have u:=b9B (y:=a0P l[i]) (k:=k) (by omega) (by omega);have p:wrap .i64 ((a0P l[i] / 2^k:Nat):Int)=((a0P l[i] / 2^k:Nat):Int):=a9k (a27 d A);rw[a00 g,a0H (s':=((k:Int),l,((i+1:Nat):Int),(a6n k l[i] h,()),())) (by
    by_cases hq:a0P l[i] / 2^k<32
    have c:decide (((a0P l[i] / 2^k:Nat):Int)<32)=true:=decide_eq_true (by omega);have s:(unL (a0P l[i] / 2^k) h).length<999999000:=by
     rw[a6l];omega
    have f:=b3E (L:=h) (n:=a0P l[i] / 2^k) (a53 (a06 hq (by simp))) (by omega);have hp:=a1z (L:=unL (a0P l[i] / 2^k) h) (v:=((a0P l[i]%2^k:Nat):Int)) (n:=k) (by omega) s;simp only[a5s,dlt g,cT,a0C g,oB,a9I a,o,b,cF,m,c,p,f,u,hp,a6n,if_pos hq,a0B (show i<1000000 by omega)];have c:decide (((a0P l[i] / 2^k:Nat):Int)<32)=false:=decide_eq_false (by omega);have s:=a6l 32 h;have f:a3e ((h,()),(32:Int))=some (0,unL 32 h,()):=b3E (L:=h) (n:=32) (by omega) (by omega);have hp:a0K ((unL 32 h,()),((a0P l[i]:Nat):Int),(32:Int))=some (a2b ((a0P l[i]:Nat):Int) 32,a0F ((a0P l[i]:Nat):Int) 32 (unL 32 h),()):=a1z (L:=unL 32 h) (v:=((a0P l[i]:Nat):Int)) (n:=32) (by omega) (by omega);simp only[a5s,dlt g,cT,a0C g,oB,a9I a,o,b,cF,m,c,p,f,hp,a6n,if_neg hq,a0B (show i<1000000 by omega)])]
   exact ih (i+1) _ (by omega) (by omega)
 have q:=e l.length 0 L (by omega) (by omega);simp at q;have z:short l:=by unfold short;omega
 unfold a8I;simp only[a8j r,oB,bT,cF,a0N z,t,q]
def a1i(zn:List Nat):List Int:=zn.map fun(a:Nat)=>(a:Int)
theorem b8q(n M:Nat):(a01 n M).sum=n*M:=by
 simp
theorem b2a{o n warm:Int}(h:(a1k o n warm).length≠0):∃zn:List Nat,a1k o n warm=a1i zn∧(zn.sum:Int)=n-warm∧zn.length≤256:=by
 unfold a1k at h⊢;cases hr:(a2K n warm&&(decide (0≤o)&&decide (o≤8)))with
 |false=>simp_all
 |true=>
  rw[hr]at h;simp only[cT]at h⊢;simp[a2K]at hr;unfold a8Q at h⊢
  split at h
  rename_i g;rw[if_pos g];obtain⟨O,rfl⟩:=a03 hr.2.1;obtain⟨N,rfl⟩:=a03 (show 0≤n by omega);obtain⟨w,rfl⟩:=a03 (show 0≤warm by omega);simp only[tN]at g⊢;have hp:=c4m (o:=O) (by omega);have f:=a54 N (2^O);rw[g.1,a67]at f;have k:w≤N / 2^O:=by omega
  generalize N / 2^O=M at g k f⊢;generalize 2^O=P at hp f⊢;refine⟨(M-w)::a01 (P-1) M,?_,?_,?_⟩
  grind[a1i,List.map_replicate]
  rw[a61,b8q];obtain⟨q,rfl⟩:∃q,P=q+1:=⟨P-1,by omega⟩
  grind
  simp_all;simp_all
def a7z(k:Int)(part L:List Int):List Int:=
 if k=31 then a1A (a0J part) part (a0F ((a0J part:Nat):Int) 5 (a0F (wrap .u64 k) 5 L))else a4G k.toNat part (a0F (wrap .u64 k) 5 L)
def a5w:List Nat→List Int→List Int→List Int→List Int
 |z::zs,k::ks,l,L=>a5w zs ks (l.drop z) (a7z k (l.take z) L)
 |_,_,_,L=>L
theorem b1h(h:kB k=true)(part L:List Int):L.length≤(a7z k part L).length∧(a7z k part L).length≤L.length+10+100*part.length:=by
 unfold a7z;have a:=a0L (wrap .u64 k) 5 L;split;have b:=a0L ((a0J part:Nat):Int) 5 (a0F (wrap .u64 k) 5 L);have c:=a3I (a0J part) part (a0F ((a0J part:Nat):Int) 5 (a0F (wrap .u64 k) 5 L));have f:=a2G part
 have:a0J part*part.length≤32*part.length:=a35 _ f
 omega;rename_i g;simp[kB]at h
 grind[b3d]
theorem a3f(h:i<zn.length):a68 (a1i zn) i 0=((zn[i]:Nat):Int):=by
 simp_all[a1i]
theorem a0X(h:List Nat):(a1i h).length=h.length:=by simp[a1i]
theorem a7i(h:i<zn.length):(zn.drop i).sum=zn[i]+(zn.drop (i+1)).sum:=by
 grind[a00]
theorem b9C{part rest:List Int}{wd:Nat}{a b:Int}{z:List Int}{p:Prt}(k:wd≤32)(hp:part.length<10000):∀(j i:Nat)(L:List Int),i+j=part.length→L.length+64*j<999990000→
  y0s a7r (rest,(wd:Int),a,b,part,(part.length:Int),(i:Int),z,wL L,p,())=some (rest,a,b,z,wL (a1A wd (part.drop i) L),p,())
 |0,i,L,hi,_=>by
  obtain rfl:i=part.length:=by omega
  simp_all[a0D,a7r,a1A]
 |j+1,i,L,hi,hb=>by
  have h:i<part.length:=by omega
  have g:decide ((wd:Int)<0)=false:=by simp
  have f:=a0L (a2r part[i] wd) wd L;rw[a00 h,a0H (s':=(rest,(wd:Int),a,b,part,(part.length:Int),((i+1:Nat):Int),z,wL (a0F (a2r part[i] wd) wd L),p,())) (by
   simp only[a7r,dlt h,cT,a0C h,oB,g,cF,show bits .u64 .and (wrap .u64 part[i]) (wrap .u64 ((A0n .u64 1 (wd:Int))-1))=a2r part[i] wd from rfl,a3n (show wd≤63 by omega) (show L.length<999999000 by omega),a0B (show i<1000000 by omega)])]
  exact b9C k hp j (i+1) _ (by omega) (by omega)
theorem b2n{zn:List Nat}{p:Prt}(N:p.2.1.length=zn.length)(c:p.2.1.all kB=true)(R:zn.length≤256):∀(j i:Nat)(l L:List Int),i+j=zn.length→(zn.drop i).sum=l.length→l.all a0A=true→l.length≤5000→L.length+10*j+100*l.length<800000000→
  y0s a4n (l,(zn.length:Int),(i:Int),a1i zn,wL L,p,())=some (wL (a5w (zn.drop i) (p.2.1.drop i) l L),())
 |0,i,l,L,hi,_,_,_,_=>by
  obtain rfl:i=zn.length:=by omega
  simp_all[a0D,a4n,a5w]
 |j+1,i,l,L,hi,hsum,hw,hl5,hb=>by
  have h:i<zn.length:=by omega
  have f:i<p.2.1.length:=by omega
  have s:=lA.1 c _ (a04 f);rw[a7i h]at hsum;have B:decide ((0:Int)≤(i:Int))=true:=by simp
  have C:decide ((i:Int)<(((a1i zn).length:Nat):Int))=true:=by simp_all[a0X]
  have D:decide ((0:Int)≤((zn[i]:Nat):Int))=true:=by simp
  have E:decide (((zn[i]:Nat):Int)≤((l.length:Nat):Int))=true:=by grind
  have t:(l.take zn[i]).length=zn[i]:=by simp_all
  have q:(l.drop zn[i]).length=(zn.drop (i+1)).sum:=by grind
  have w:(l.take zn[i]).all a0A=true:=lA.2 fun x A=>lA.1 hw x (a22 A);have y:(l.drop zn[i]).all a0A=true:=lA.2 fun x A=>lA.1 hw x (a23 A);have Q:=b1h s (l.take zn[i]) L;have O:=a0L (wrap .u64 p.2.1[i]) 5 L;have d:a0E (wL L,wrap .u64 p.2.1[i],(5:Int))=some (a2b (wrap .u64 p.2.1[i]) 5,wL (a0F (wrap .u64 p.2.1[i]) 5 L)):=a3n (n:=5) (by omega) (by omega);have G:zn.drop i=zn[i]::zn.drop (i+1):=a00 h;have H:p.2.1.drop i=p.2.1[i]::p.2.1.drop (i+1):=a00 f;rw[G,H,a5w];have r:a4n (l,(zn.length:Int),(i:Int),a1i zn,wL L,p,())=some (.inl (l.drop zn[i],(zn.length:Int),((i+1:Nat):Int),a1i zn,wL (a7z p.2.1[i] (l.take zn[i]) L),p,())):=by
   by_cases h31:p.2.1[i]=31
   have m:(p.2.1[i] != 31)=false:=by simp_all
   have v:=a2G (l.take zn[i]);have u:=a5v (l:=l.take zn[i]) (by unfold short;omega);have P:=a0L ((a0J (l.take zn[i]):Nat):Int) 5 (a0F (wrap .u64 p.2.1[i]) 5 L);have I:wrap .u64 ((a0J (l.take zn[i]):Nat):Int)=((a0J (l.take zn[i]):Nat):Int):=a1c (by omega);have o:a0E (wL (a0F (wrap .u64 p.2.1[i]) 5 L),((a0J (l.take zn[i]):Nat):Int),(5:Int))=some (a2b ((a0J (l.take zn[i]):Nat):Int) 5,wL (a0F ((a0J (l.take zn[i]):Nat):Int) 5 (a0F (wrap .u64 p.2.1[i]) 5 L))):=a3n (n:=5) (by omega) (by omega);have e:=b9C (part:=l.take zn[i]) (rest:=l.drop zn[i]) (a:=(zn.length:Int)) (b:=(i:Int)) (z:=a1i zn) (p:=p) v (by omega) (l.take zn[i]).length 0 (a0F ((a0J (l.take zn[i]):Nat):Int) 5 (a0F (wrap .u64 p.2.1[i]) 5 L)) (by omega) (by omega);simp only[nZ,a08]at e;simp only[a4n,dlt h,B,C,a3f h,D,E,cT,a02,tN,a0C f,oB,d,m,cF,u,I,o,a18,e,a0B (show i<1000000 by omega),a7z,if_pos h31];have m:(p.2.1[i] != 31)=true:=by simp_all
   simp[kB]at s;obtain⟨K,M⟩:=a03 (show 0≤p.2.1[i]by omega);have g:=c1h (k:=K) (l:=l.take zn[i]) (L:=a0F (wrap .u64 p.2.1[i]) 5 L) (by omega) (by omega) w (by omega);rw[←M]at g;have F:K=p.2.1[i].toNat:=by omega
   simp only[a4n,dlt h,B,C,a3f h,D,E,cT,a02,tN,a0C f,oB,d,m,g,a18,a0B (show i<1000000 by omega),a7z,if_neg h31,F]
  rw[a0H r];exact b2n N c R j (i+1) (l.drop zn[i]) _ (by omega) q.symm y (by omega) (by omega)
theorem a9S{zn:List Nat}{p:Prt}{l:List Int}(N:p.2.1.length=zn.length)(b:p.2.1.all kB=true)(T:zn.length≤256)(E:l.all a0A=true)(s:l.length≤5000):∀(j i off:Nat)(L:List Int),i+j=zn.length→off+(zn.drop i).sum=l.length→L.length+10*j+100*(l.length-off)<800000000→
  y0s a3r (l,(off:Int),(i:Int),a1i zn,(L,()),p,())=some ((a5w (zn.drop i) (p.2.1.drop i) (l.drop off) L,()),())
 |0,i,off,L,hi,_,_=>by
  obtain rfl:i=zn.length:=by omega
  simp_all[a0D,a3r,a5w,a0X]
 |j+1,i,off,L,hi,hsum,hb=>by
  have a:i<zn.length:=by omega
  have f:i<p.2.1.length:=by omega
  have q:=lA.1 b _ (a04 f);rw[a7i a]at hsum;have y:decide ((0:Int)≤(i:Int))=true:=by simp
  have z:decide ((i:Int)<(((a1i zn).length:Nat):Int))=true:=by simp_all[a0X]
  have w:wrap .i64 ((off:Int)+((zn[i]:Nat):Int))=((off+zn[i]:Nat):Int):=by grind[a0I]
  have A:decide ((0:Int)≤((off+zn[i]:Nat):Int))=true:=by rfl
  have B:decide (((off+zn[i]:Nat):Int)≤((l.length:Nat):Int))=true:=by grind
  have C:decide ((0:Int)≤(off:Int))=true:=by simp
  have D:decide ((off:Int)≤((off+zn[i]:Nat):Int))=true:=by grind
  have h:a69 off (a48 (off+zn[i]) l)=(l.drop off).take zn[i]:=by grind
  have d:(l.drop off).drop zn[i]=l.drop (off+zn[i]):=by simp
  have t:((l.drop off).take zn[i]).length=zn[i]:=by rw[a32,a37];omega
  have v:((l.drop off).take zn[i]).all a0A=true:=lA.2 fun x S=>lA.1 E x (a23 (a22 S));have Q:=b1h q ((l.drop off).take zn[i]) L;have O:=a0L (wrap .u64 p.2.1[i]) 5 L;have c:a0K ((L,()),wrap .u64 p.2.1[i],(5:Int))=some (a2b (wrap .u64 p.2.1[i]) 5,a0F (wrap .u64 p.2.1[i]) 5 L,()):=a1z (n:=5) (by omega) (by omega);have G:zn.drop i=zn[i]::zn.drop (i+1):=a00 a;have H:p.2.1.drop i=p.2.1[i]::p.2.1.drop (i+1):=a00 f;rw[G,H,a5w,d];have o:a3r (l,(off:Int),(i:Int),a1i zn,(L,()),p,())=some (.inl (l,((off+zn[i]:Nat):Int),((i+1:Nat):Int),a1i zn,(a7z p.2.1[i] ((l.drop off).take zn[i]) L,()),p,())):=by
   by_cases h31:p.2.1[i]=31
   have e:(p.2.1[i]==31)=true:=by simp_all
   have R:=a2G ((l.drop off).take zn[i]);have u:=a7h (l:=(l.drop off).take zn[i]) (by unfold short;omega);have P:=a0L ((a0J ((l.drop off).take zn[i]):Nat):Int) 5 (a0F (wrap .u64 p.2.1[i]) 5 L);have I:wrap .u64 ((a0J ((l.drop off).take zn[i]):Nat):Int)=((a0J ((l.drop off).take zn[i]):Nat):Int):=a1c (by omega);have m:a0K ((a0F (wrap .u64 p.2.1[i]) 5 L,()),((a0J ((l.drop off).take zn[i]):Nat):Int),(5:Int))=some (a2b ((a0J ((l.drop off).take zn[i]):Nat):Int) 5,a0F ((a0J ((l.drop off).take zn[i]):Nat):Int) 5 (a0F (wrap .u64 p.2.1[i]) 5 L),()):=a1z (n:=5) (by omega) (by omega);have r:=a6m (l:=(l.drop off).take zn[i]) (L:=a0F ((a0J ((l.drop off).take zn[i]):Nat):Int) 5 (a0F (wrap .u64 p.2.1[i]) 5 L)) (n:=a0J ((l.drop off).take zn[i])) (by omega) (by omega) (by omega);simp only[a3r,y,z,a3f a,w,A,B,C,D,cT,a02,tN,a0C f,oB,c,e,h,u,I,m,r,a0B (show i<1000000 by omega),a7z,if_pos h31];have e:(p.2.1[i]==31)=false:=by simp_all
   simp[kB]at q;obtain⟨K,M⟩:=a03 (show 0≤p.2.1[i]by omega);have g:=b7g (k:=K) (l:=(l.drop off).take zn[i]) (L:=a0F (wrap .u64 p.2.1[i]) 5 L) (by omega) (by omega) v (by omega);rw[←M]at g;have F:K=p.2.1[i].toNat:=by omega
   simp only[a3r,y,z,a3f a,w,A,B,C,D,cT,cF,a02,tN,a0C f,oB,c,e,h,g,a0B (show i<1000000 by omega),a7z,if_neg h31,F]
  rw[a0H o];exact a9S N b T E s j (i+1) (off+zn[i]) _ (by omega) (by omega) (by omega)
theorem b7h{k:Nat}(d:k≤25)(g:a0A x=true):∃c,a6H ((k:Int),x)=some c∧0≤c∧c≤65:=by
 have e:=a8i g;have f:A0o .u64 ((a0P x:Nat):Int) (k:Int)=((a0P x / 2^k:Nat):Int):=a5Y (by omega);have a:wrap .i64 ((a0P x / 2^k:Nat):Int)=((a0P x / 2^k:Nat):Int):=a9k (a27 (a24 _ _) e);have h:decide ((k:Int)<0)=false:=by simp
 unfold a6H;simp only[a7I d,a8S,g,oB,bT,cF,a8T g,h,f,a];generalize a0P x / 2^k=q
 by_cases hq:q<32
 have b:decide ((q:Int)<32)=true:=decide_eq_true (by omega);refine⟨(q:Int)+1+k,?_,by omega,by omega⟩;simp only[b,cT]
 grind[a0I]
 grind
theorem b4q{k:Nat}(e:k≤25)(g:a0A x=true):∃c,a4S ((k:Int),x)=some c∧0≤c∧c≤65:=by
 have i:=a8i g;have f:A0o .u64 ((a0P x:Nat):Int) (k:Int)=((a0P x / 2^k:Nat):Int):=a5Y (by omega);have b:wrap .i64 ((a0P x / 2^k:Nat):Int)=((a0P x / 2^k:Nat):Int):=a9k (a27 (a24 _ _) i);have a:wrap .u64 (k:Int)=(k:Int):=a1c (by omega);have h:decide ((k:Int)<0)=false:=by simp
 unfold a4S;simp only[a8j e,a1X,g,oB,bT,cF,a9I g,a,h,f,b];generalize a0P x / 2^k=q
 by_cases hq:q<32
 have d:decide ((q:Int)<32)=true:=decide_eq_true (by omega);refine⟨(q:Int)+1+k,?_,by omega,by omega⟩;simp only[d,cT]
 grind[a0I]
 grind
theorem b8r{k:Nat}(p:k≤25)(q:l.all a0A=true)(t:l.length<10000):∃c,a3v ((k:Int),l)=some c∧0≤c∧c≤65*l.length:=by
 have g:∀(j i:Nat)(c:Int),i+j=l.length→0≤c→c≤65*i→∃c',y0s a3S ((k:Int),c,l,(l.length:Int),(i:Int),())=some (c',())∧0≤c'∧c'≤65*l.length:=by
  intro j
  induction j with
  |zero=>
   intro i c o a f;obtain rfl:i=l.length:=by omega
   simp_all[a0D,a3S]
  |succ j ih=>
   intro i c o a f;have h:i<l.length:=by omega
   obtain⟨d,b,m,n⟩:=b7h p (lA.1 q _ (a04 h));have e:wrap .i64 (c+d)=c+d:=a0I (by omega);rw[a0H (s':=((k:Int),c+d,l,(l.length:Int),((i+1:Nat):Int),())) (by simp only[a3S,dlt h,cT,a0C h,oB,b,e,a0B (show i<1000000 by omega)])];exact ih (i+1) _ (by omega) (by omega) (by omega)
 obtain⟨c,f,r,s⟩:=g l.length 0 0 (by omega) (by omega) (by omega);simp_all[a3v]
theorem b5c{k:Nat}(p:k≤25)(q:l.all a0A=true)(t:l.length<10000):∃c,a2Y ((k:Int),l)=some c∧0≤c∧c≤65*l.length:=by
 have g:∀(j i:Nat)(c:Int),i+j=l.length→0≤c→c≤65*i→∃c',y0s a2X ((k:Int),l,c,(i:Int),())=some (c',())∧0≤c'∧c'≤65*l.length:=by
  intro j
  induction j with
  |zero=>
   intro i c o a f;obtain rfl:i=l.length:=by omega
   simp_all[a0D,a2X]
  |succ j ih=>
   intro i c o a f;have h:i<l.length:=by omega
   obtain⟨d,b,m,n⟩:=b4q p (lA.1 q _ (a04 h));have e:wrap .i64 (c+d)=c+d:=a0I (by omega);rw[a0H (s':=((k:Int),l,c+d,((i+1:Nat):Int),())) (by simp only[a2X,dlt h,cT,a0C h,oB,b,e,a0B (show i<1000000 by omega)])];exact ih (i+1) _ (by omega) (by omega) (by omega)
 obtain⟨c,f,r,s⟩:=g l.length 0 0 (by omega) (by omega) (by omega);simp_all[a2Y]
theorem b3F{n:Nat}(g:w≤32)(f:n<10000):0≤(w:Int)*(n:Int)∧(w:Int)*(n:Int)≤32*n:=by
 have h:w*n≤32*n:=a35 _ g;omega
theorem b7i(h:l.length<10000):∃c,a5x l=some c∧0≤c∧c≤5+32*l.length:=by
 have g:=b3F (a2G l) h;refine⟨5+((a0J l:Nat):Int)*((l.length:Nat):Int),?_,by omega,by omega⟩;unfold a5x;simp only[a5v (show short l by unfold short;omega),oB]
 grind[a0I]
theorem b1D{zn:List Nat}{p:Prt}(H:p.2.1.length=zn.length)(g:p.2.1.all kB=true)(I:zn.length≤256):∀(j i:Nat)(l:List Int)(c:Int),i+j=zn.length→(zn.drop i).sum=l.length→l.all a0A=true→l.length≤5000→4≤c→c+10*j+65*l.length<1000000→
  ∃c',y0s a1x (l,c,(zn.length:Int),(i:Int),a1i zn,p,())=some (c',())∧4≤c'
 |0,i,l,c,hi,_,_,_,hc,_=>by
  obtain rfl:i=zn.length:=by omega
  simp_all[a0D,a1x]
 |j+1,i,l,c,hi,hsum,hw,hl5,hc,hb=>by
  have h:i<zn.length:=by omega
  have f:i<p.2.1.length:=by omega
  have q:=lA.1 g _ (a04 f);rw[a7i h]at hsum;have z:decide ((0:Int)≤(i:Int))=true:=by simp
  have A:decide ((i:Int)<(((a1i zn).length:Nat):Int))=true:=by simp_all[a0X]
  have B:decide ((0:Int)≤((zn[i]:Nat):Int))=true:=by simp
  have C:decide (((zn[i]:Nat):Int)≤((l.length:Nat):Int))=true:=by grind
  have s:(l.take zn[i]).length=zn[i]:=by simp_all
  have b:(l.drop zn[i]).length=(zn.drop (i+1)).sum:=by grind
  have v:(l.take zn[i]).all a0A=true:=lA.2 fun x y=>lA.1 hw x (a22 y);have w:(l.drop zn[i]).all a0A=true:=lA.2 fun x y=>lA.1 hw x (a23 y);have e:∃d,a1x (l,c,(zn.length:Int),(i:Int),a1i zn,p,())=some (.inl (l.drop zn[i],c+d,(zn.length:Int),((i+1:Nat):Int),a1i zn,p,()))∧0≤d∧d≤10+65*zn[i]:=by
   by_cases h31:p.2.1[i]=31
   have a:(p.2.1[i]==31)=true:=by simp_all
   obtain⟨r,m,t,u⟩:=b7i (l:=l.take zn[i]) (by omega);have n:wrap .i64 (5+r)=5+r:=a0I (by omega);have o:wrap .i64 (c+(5+r))=c+(5+r):=a0I (by omega);refine⟨5+r,?_,by omega,by omega⟩;simp only[a1x,dlt h,z,A,a3f h,B,C,cT,a02,tN,a0C f,oB,a,m,n,o,a18,a0B (show i<1000000 by omega)];have a:(p.2.1[i]==31)=false:=by simp_all
   simp[kB]at q;obtain⟨K,D⟩:=a03 (show 0≤p.2.1[i]by omega);obtain⟨r,m,t,u⟩:=b8r (k:=K) (by omega) v (by omega);rw[←D]at m;have n:wrap .i64 (5+r)=5+r:=a0I (by omega);have o:wrap .i64 (c+(5+r))=c+(5+r):=a0I (by omega);refine⟨5+r,?_,by omega,by omega⟩;simp only[a1x,dlt h,z,A,a3f h,B,C,cT,cF,a02,tN,a0C f,oB,a,m,n,o,a18,a0B (show i<1000000 by omega)]
  obtain⟨d,E,F,G⟩:=e;rw[a0H E];exact b1D H g I j (i+1) (l.drop zn[i]) _ (by omega) b.symm w (by omega) (by omega) (by omega)
theorem a9c{zn:List Nat}{p:Prt}{l:List Int}(H:p.2.1.length=zn.length)(h:p.2.1.all kB=true)(N:zn.length≤256)(t:l.all a0A=true)(o:l.length≤5000):∀(j i off:Nat)(c:Int),i+j=zn.length→off+(zn.drop i).sum=l.length→4≤c→c+10*j+65*(l.length-off:Nat)<1000000→
  ∃c',y0s a2e (l,c,(off:Int),(i:Int),a1i zn,p,())=some (c',())∧4≤c'
 |0,i,off,c,hi,_,hc,_=>by
  obtain rfl:i=zn.length:=by omega
  simp_all[a0D,a2e,a0X]
 |j+1,i,off,c,hi,hsum,hc,hb=>by
  have b:i<zn.length:=by omega
  have a:i<p.2.1.length:=by omega
  have m:=lA.1 h _ (a04 a);rw[a7i b]at hsum;have y:decide ((0:Int)≤(i:Int))=true:=by simp
  have z:decide ((i:Int)<(((a1i zn).length:Nat):Int))=true:=by simp_all[a0X]
  have w:wrap .i64 ((off:Int)+((zn[i]:Nat):Int))=((off+zn[i]:Nat):Int):=by grind[a0I]
  have A:decide ((0:Int)≤((off+zn[i]:Nat):Int))=true:=by rfl
  have B:decide (((off+zn[i]:Nat):Int)≤((l.length:Nat):Int))=true:=by grind
  have C:decide ((0:Int)≤(off:Int))=true:=by simp
  have D:decide ((off:Int)≤((off+zn[i]:Nat):Int))=true:=by grind
  have g:a69 off (a48 (off+zn[i]) l)=(l.drop off).take zn[i]:=by grind
  have q:((l.drop off).take zn[i]).length=zn[i]:=by rw[a32,a37];omega
  have s:((l.drop off).take zn[i]).all a0A=true:=lA.2 fun x M=>lA.1 t x (a23 (a22 M));have f:∃d,a2o (p.2.1[i],(l.drop off).take zn[i])=some d∧0≤d∧d≤5+65*zn[i]:=by
   unfold a2o
   by_cases h31:p.2.1[i]=31
   have e:(p.2.1[i]==31)=true:=by simp_all
   have P:=b3F (a2G ((l.drop off).take zn[i])) (show((l.drop off).take zn[i]).length<10000 by omega);refine⟨5+((a0J ((l.drop off).take zn[i]):Nat):Int)*((((l.drop off).take zn[i]).length:Nat):Int),?_,by omega,by omega⟩;simp only[e,cT,a7h (show short ((l.drop off).take zn[i])by unfold short;omega),oB];rw[Int.mul_comm (((((l.drop off).take zn[i]).length:Nat):Int)),a0I (n:=((a0J ((l.drop off).take zn[i]):Nat):Int)*((((l.drop off).take zn[i]).length:Nat):Int)) (by omega),a0I (by omega)];have e:(p.2.1[i]==31)=false:=by simp_all
   simp[kB]at m;obtain⟨K,O⟩:=a03 (show 0≤p.2.1[i]by omega);obtain⟨r,Q,I,L⟩:=b5c (k:=K) (by omega) s (by omega)
   grind
  obtain⟨d,E,F,G⟩:=f;have u:wrap .i64 (c+5)=c+5:=a0I (by omega);have v:wrap .i64 (c+5+d)=c+5+d:=a0I (by omega);rw[a0H (s':=(l,c+5+d,((off+zn[i]:Nat):Int),((i+1:Nat):Int),a1i zn,p,())) (by
   simp only[a2e,y,z,a3f b,w,A,B,C,D,cT,a02,tN,a0C a,oB,g,E,u,v,a0B (show i<1000000 by omega)])]
  exact a9c H h N t o j (i+1) (off+zn[i]) _ (by omega) (by omega) (by omega) (by omega)
structure PartsOk (p:Prt) (n warm:Int) (l:List Int) (zn:List Nat):Prop where
 may:a2F p n warm=true
 sizes:a1k p.1 n warm=a1i zn
 sum:zn.sum=l.length
 len:zn.length≤256
 ks:p.2.1.length=zn.length
 all:p.2.1.all kB=true
 wide:l.all a0A=true
 short:l.length≤5000
 row:a2K n warm=true
 rest:(l.length:Int)=n-warm
 order:0≤p.1∧p.1≤8
theorem PartsOk.of{p:Prt}{n warm:Int}{l:List Int}(h:a2F p n warm=true)(i:(l.length:Int)=n-warm)(j:l.all a0A=true)(e:l.length≤5000):∃g,PartsOk p n warm l g:=by
 have f:=h;simp only[a2F,bA,a41,beq_eq_false_iff_ne,ne_eq,beq_iff_eq]at f;obtain⟨c,o,d⟩:=f;obtain⟨g,a,m,b⟩:=b2a c;have k:a2K n warm=true∧0≤p.1∧p.1≤8:=by
  grind[a1k]
 exact⟨g,h,a,by omega,b,by simp_all[a0X],d,j,e,k.1,i,k.2⟩
theorem a9l{n warm:Int}{l:List Int}(h:a2K n warm=true)(c:(l.length:Int)=n-warm)(d:l.all a0A=true)(a:l.length≤5000):a6v (n,warm,l)=some true:=by
 have e:wrap .i64 (n-warm)=n-warm:=by
  simp[a2K]at h;exact a0I (by omega)
 have k:(((l.length:Nat):Int) != n-warm)=false:=by simp_all
 have f:b0V=a2u:=rfl;have g:short l:=by unfold short;omega
 have b:=a3s g;simp_all[a2l,a6v,b3y]
theorem b5Z(h:PartsOk p n warm l zn):∃c,a4y (p,n,warm,l)=some c∧4≤c:=by
 have k:Go.Ab.short p.2.1:=by have:=h.ks;have:=h.len;unfold Go.Ab.short;omega
 have a:=h.short;have b:=h.len;obtain⟨c,g,f⟩:=b1D h.ks h.all h.len zn.length 0 l 4 (by omega) (by rw[a08];exact h.sum) h.wide h.short (by omega) (by omega);simp at g;refine⟨c,?_,f⟩;unfold a4y;simp only[a8R k,h.may,a9l h.row h.rest h.wide h.short,oB,bT,cF,a2E,h.sizes,a0X,g]
theorem b3G(h:PartsOk p n warm l zn):∃c,a2a (p,n,warm,l)=some c∧4≤c:=by
 have a:Go.Ab.short p.2.1:=by have:=h.ks;have:=h.len;unfold Go.Ab.short;omega
 have d:Go.Ab.short l:=by have:=h.short;unfold Go.Ab.short;omega
 have i:=h.short;have j:=h.len;have b:=h.row;simp[a2K]at b;have e:wrap .i64 (n-warm)=n-warm:=a0I (by omega);have k:(((l.length:Nat):Int) != n-warm)=false:=by rw[h.rest];simp
 obtain⟨c,g,f⟩:=a9c h.ks h.all h.len h.wide h.short zn.length 0 0 4 (by omega) (by rw[a08,h.sum];omega) (by omega) (by omega);simp at g;refine⟨c,?_,f⟩;unfold a2a;simp only[a5t a,h.may,oB,bT,cF,e,k,a0N d,h.wide,a1P,h.sizes,g]
def a2H(p:Prt)(zn:List Nat)(l L:List Int):List Int:=a5w zn p.2.1 l (a0F (wrap .u64 p.1) 4 L)
theorem b9D(h:PartsOk p n warm l zn)(i:L.length<700000000):a9z (wL L,p,n,warm,l)=some (0,wL (a2H p zn l L)):=by
 have e:=h.short;have j:=h.len;obtain⟨c,a,b⟩:=b5Z h;have k:(c==0)=false:=by grind
 have d:=a0L (wrap .u64 p.1) 4 L;have f:a0E (wL L,wrap .u64 p.1,(4:Int))=some (a2b (wrap .u64 p.1) 4,wL (a0F (wrap .u64 p.1) 4 L)):=a3n (n:=4) (by omega) (by omega);have g:=b2n h.ks h.all h.len zn.length 0 l (a0F (wrap .u64 p.1) 4 L) (by omega) (by rw[a08];exact h.sum) h.wide h.short (by omega);simp at g;unfold a9z;simp only[a,oB,k,cF,f,a2E,h.sizes,a0X,g,a2H]
theorem b6a(h:PartsOk p n warm l zn)(i:L.length<700000000):a7Z ((L,()),p,n,warm,l)=some (0,a2H p zn l L,()):=by
 have e:=h.short;have j:=h.len;obtain⟨c,a,b⟩:=b3G h;have k:(c==0)=false:=by grind
 have d:=a0L (wrap .u64 p.1) 4 L;have f:a0K ((L,()),wrap .u64 p.1,(4:Int))=some (a2b (wrap .u64 p.1) 4,a0F (wrap .u64 p.1) 4 L,()):=a1z (n:=4) (by omega) (by omega);have g:=a9S h.ks h.all h.len h.wide h.short zn.length 0 0 (a0F (wrap .u64 p.1) 4 L) (by omega) (by rw[a08,h.sum];omega) (by omega);simp at g;unfold a7Z;simp only[a,oB,k,cF,f,a1P,h.sizes,g,a2H]
theorem b6b{c:List Int}{wd:Nat}(k:wd≤32)(g:c.length<10000):∀(j i:Nat)(L:List Int),i+j=c.length→L.length+64*j<999990000→
  y0s a5C ((wd:Int),c,(c.length:Int),(i:Int),wL L,())=some (wL (a1A wd (c.drop i) L),())
 |0,i,L,hi,_=>by
  obtain rfl:i=c.length:=by omega
  simp_all[a0D,a5C,a1A]
 |j+1,i,L,hi,hb=>by
  have h:i<c.length:=by omega
  have f:=a0L (a2r c[i] wd) wd L;rw[a00 h,a0H (s':=((wd:Int),c,(c.length:Int),((i+1:Nat):Int),wL (a0F (a2r c[i] wd) wd L),())) (by
   simp only[a5C,dlt h,cT,a0C h,oB,b1f (show wd≤63 by omega) (show L.length<999999000 by omega),a0B (show i<1000000 by omega)])]
  exact b6b k g j (i+1) _ (by omega) (by omega)
theorem b7x{t:List Int}{n wd:Int}{s:Sub}(a:t.length=3):∀(j i:Nat)(L:List Int),i+j=3→L.length+64*j<999990000→
  y0s a8y (n,wd,t,(i:Int),wL L,s,())=some (n,wd,wL (a1A 8 (t.drop i) L),s,())
 |0,i,L,hi,_=>by
  obtain rfl:i=t.length:=by omega
  grind[a0D,a8y,a1A]
 |j+1,i,L,hi,hb=>by
  have h:i<t.length:=by omega
  have f:decide ((i:Int)<3)=true:=by grind
  have k:=a0L (a2r t[i] 8) 8 L;have g:a2O (wL L,t[i],(8:Int))=some (wL (a0F (a2r t[i] 8) 8 L)):=b1f (n:=8) (by omega) (by omega);rw[a00 h,a0H (s':=(n,wd,t,((i+1:Nat):Int),wL (a0F (a2r t[i] 8) 8 L),s,())) (by
   simp only[a8y,f,cT,a0C h,oB,g,a0B (show i<1000000 by omega)])]
  exact b7x a j (i+1) _ (by omega) (by omega)
theorem b7y{l:List Int}{n:Int}{wd:Nat}{s:Sub}(k:wd≤32)(g:l.length<10000):∀(j i:Nat)(L:List Int),i+j=l.length→L.length+64*j<999990000→
  y0s a8A (n,(wd:Int),l,(l.length:Int),(i:Int),wL L,s,())=some (n,wL (a1A wd (l.drop i) L),s,())
 |0,i,L,hi,_=>by
  obtain rfl:i=l.length:=by omega
  simp_all[a0D,a8A,a1A]
 |j+1,i,L,hi,hb=>by
  have h:i<l.length:=by omega
  have f:=a0L (a2r l[i] wd) wd L;rw[a00 h,a0H (s':=(n,(wd:Int),l,(l.length:Int),((i+1:Nat):Int),wL (a0F (a2r l[i] wd) wd L),s,())) (by
   simp only[a8A,dlt h,cT,a0C h,oB,b1f (show wd≤63 by omega) (show L.length<999999000 by omega),a0B (show i<1000000 by omega)])]
  exact b7y k g j (i+1) _ (by omega) (by omega)
def a5V(s:Stg)(L:List Int):List Int:=a0F (wrap .u64 s.2.1) 4 (a0F (wrap .u64 (wrap .i64 (s.1-1))) 5 L)
def a3t(st:List Stg)(L:List Int):List Int:=st.foldl (fun L s=>a5V s L) L
theorem a9Y(s:Stg)(L:List Int):(a5V s L).length≤L.length+9:=by
 grind[a0L,a5V]
theorem b2o:∀(st:List Stg)(L:List Int),(a3t st L).length≤L.length+9*st.length
 | [],L=>by simp[a3t]
 |s::st,L=>by
  have h:=a9Y s L;have g:=b2o st (a5V s L);have e:a3t (s::st) L=a3t st (a5V s L):=rfl
  grind
theorem b4A{st:List Stg}{n wd:Int}{s:Sub}(a:st.length<10000):∀(j i:Nat)(L:List Int),i+j=st.length→L.length+64*j<999990000→
  y0s a8z (n,wd,st,(st.length:Int),(i:Int),wL L,s,())=some (n,wd,wL (a3t (st.drop i) L),s,())
 |0,i,L,hi,_=>by
  obtain rfl:i=st.length:=by omega
  simp_all[a0D,a8z,a3t]
 |j+1,i,L,hi,hb=>by
  have h:i<st.length:=by omega
  have k:=a0L (wrap .u64 (wrap .i64 (st[i].1-1))) 5 L;have b:=a9Y st[i] L;have g:a0E (wL L,wrap .u64 (wrap .i64 (st[i].1-1)),(5:Int))=some (a2b (wrap .u64 (wrap .i64 (st[i].1-1))) 5,wL (a0F (wrap .u64 (wrap .i64 (st[i].1-1))) 5 L)):=a3n (n:=5) (by omega) (by omega);have f:a0E (wL (a0F (wrap .u64 (wrap .i64 (st[i].1-1))) 5 L),wrap .u64 st[i].2.1,(4:Int))=some (a2b (wrap .u64 st[i].2.1) 4,wL (a5V st[i] L)):=a3n (n:=4) (by omega) (by omega);rw[a00 h,a0H (s':=(n,wd,st,(st.length:Int),((i+1:Nat):Int),wL (a5V st[i] L),s,())) (by
   simp only[a8z,dlt h,cT,a0C h,oB,g,f,a0B (show i<1000000 by omega)])]
  exact b4A a j (i+1) _ (by omega) (by omega)
theorem b1E{n wd:Int}{s:Sub}(a:s.2.2.2.2.2.2.2.1.length<10000):∀(j i:Nat)(L:List Int),i+j=s.2.2.2.2.2.2.2.1.length→L.length+64*j<999990000→
  y0s a6V (n,wd,(i:Int),(L,()),s,())=some (n,wd,(a3t (s.2.2.2.2.2.2.2.1.drop i) L,()),s,())
 |0,i,L,hi,_=>by
  obtain rfl:i=s.2.2.2.2.2.2.2.1.length:=by omega
  simp_all[a0D,a6V,a3t]
 |j+1,i,L,hi,hb=>by
  have h:i<s.2.2.2.2.2.2.2.1.length:=by omega
  have k:=a0L (wrap .u64 (wrap .i64 (s.2.2.2.2.2.2.2.1[i].1-1))) 5 L;have b:=a9Y s.2.2.2.2.2.2.2.1[i] L;have g:a0K ((L,()),wrap .u64 (wrap .i64 (s.2.2.2.2.2.2.2.1[i].1-1)),(5:Int))=some (a2b (wrap .u64 (wrap .i64 (s.2.2.2.2.2.2.2.1[i].1-1))) 5,a0F (wrap .u64 (wrap .i64 (s.2.2.2.2.2.2.2.1[i].1-1))) 5 L,()):=a1z (n:=5) (by omega) (by omega);have f:a0K ((a0F (wrap .u64 (wrap .i64 (s.2.2.2.2.2.2.2.1[i].1-1))) 5 L,()),wrap .u64 s.2.2.2.2.2.2.2.1[i].2.1,(4:Int))=some (a2b (wrap .u64 s.2.2.2.2.2.2.2.1[i].2.1) 4,a5V s.2.2.2.2.2.2.2.1[i] L,()):=a1z (n:=4) (by omega) (by omega);rw[a00 h,a0H (s':=(n,wd,((i+1:Nat):Int),(a5V s.2.2.2.2.2.2.2.1[i] L,()),s,())) (by
   simp only[a6V,dlt h,cT,a0C h,oB,g,f,a0B (show i<1000000 by omega)])]
  exact b1E a j (i+1) _ (by omega) (by omega)
def a4H(s:Sub)(L:List Int):List Int:=
 a1A (a0J s.2.2.2.2.2.1) s.2.2.2.2.2.1 (a0F ((a0J s.2.2.2.2.2.1:Nat):Int) 5 (a0F (wrap .u64 s.2.2.2.1) 4 (a0F (wrap .u64 (wrap .i64 (((s.2.2.2.2.2.1.length:Nat):Int)-1))) 5 L)))
theorem b8s{s:Sub}(h:s.2.2.2.2.2.1.length≤40)(L:List Int):(a4H s L).length≤L.length+2000:=by
 unfold a4H;have f:=a0L (wrap .u64 (wrap .i64 (((s.2.2.2.2.2.1.length:Nat):Int)-1))) 5 L;have k:=a0L (wrap .u64 s.2.2.2.1) 4 (a0F (wrap .u64 (wrap .i64 (((s.2.2.2.2.2.1.length:Nat):Int)-1))) 5 L);have a:=a0L ((a0J s.2.2.2.2.2.1:Nat):Int) 5 (a0F (wrap .u64 s.2.2.2.1) 4 (a0F (wrap .u64 (wrap .i64 (((s.2.2.2.2.2.1.length:Nat):Int)-1))) 5 L));have b:=a3I (a0J s.2.2.2.2.2.1) s.2.2.2.2.2.1 (a0F ((a0J s.2.2.2.2.2.1:Nat):Int) 5 (a0F (wrap .u64 s.2.2.2.1) 4 (a0F (wrap .u64 (wrap .i64 (((s.2.2.2.2.2.1.length:Nat):Int)-1))) 5 L)));have g:=a2G s.2.2.2.2.2.1
 have:a0J s.2.2.2.2.2.1*s.2.2.2.2.2.1.length≤32*40:=a59 g h
 omega
theorem b4B(h:s.2.2.2.2.2.1.length≤40)(l:L.length<900000000):a7q (wL L,s)=some (wL (a4H s L)):=by
 have e:=a0L (wrap .u64 (wrap .i64 (((s.2.2.2.2.2.1.length:Nat):Int)-1))) 5 L;have i:=a0L (wrap .u64 s.2.2.2.1) 4 (a0F (wrap .u64 (wrap .i64 (((s.2.2.2.2.2.1.length:Nat):Int)-1))) 5 L);have j:=a0L ((a0J s.2.2.2.2.2.1:Nat):Int) 5 (a0F (wrap .u64 s.2.2.2.1) 4 (a0F (wrap .u64 (wrap .i64 (((s.2.2.2.2.2.1.length:Nat):Int)-1))) 5 L));have k:=a2G s.2.2.2.2.2.1;have f:wrap .u64 ((a0J s.2.2.2.2.2.1:Nat):Int)=((a0J s.2.2.2.2.2.1:Nat):Int):=a1c (by omega);have a:a0E (wL L,wrap .u64 (wrap .i64 (((s.2.2.2.2.2.1.length:Nat):Int)-1)),(5:Int))=some (a2b (wrap .u64 (wrap .i64 (((s.2.2.2.2.2.1.length:Nat):Int)-1))) 5,wL (a0F (wrap .u64 (wrap .i64 (((s.2.2.2.2.2.1.length:Nat):Int)-1))) 5 L)):=a3n (n:=5) (by omega) (by omega);have b:a0E (wL (a0F (wrap .u64 (wrap .i64 (((s.2.2.2.2.2.1.length:Nat):Int)-1))) 5 L),wrap .u64 s.2.2.2.1,(4:Int))=some (a2b (wrap .u64 s.2.2.2.1) 4,wL (a0F (wrap .u64 s.2.2.2.1) 4 (a0F (wrap .u64 (wrap .i64 (((s.2.2.2.2.2.1.length:Nat):Int)-1))) 5 L))):=a3n (n:=4) (by omega) (by omega);have d:a0E (wL (a0F (wrap .u64 s.2.2.2.1) 4 (a0F (wrap .u64 (wrap .i64 (((s.2.2.2.2.2.1.length:Nat):Int)-1))) 5 L)),((a0J s.2.2.2.2.2.1:Nat):Int),(5:Int))=some (a2b ((a0J s.2.2.2.2.2.1:Nat):Int) 5,wL (a0F ((a0J s.2.2.2.2.2.1:Nat):Int) 5 (a0F (wrap .u64 s.2.2.2.1) 4 (a0F (wrap .u64 (wrap .i64 (((s.2.2.2.2.2.1.length:Nat):Int)-1))) 5 L)))):=a3n (n:=5) (by omega) (by omega);have g:=b6b (c:=s.2.2.2.2.2.1) k (by omega) s.2.2.2.2.2.1.length 0 (a0F ((a0J s.2.2.2.2.2.1:Nat):Int) 5 (a0F (wrap .u64 s.2.2.2.1) 4 (a0F (wrap .u64 (wrap .i64 (((s.2.2.2.2.2.1.length:Nat):Int)-1))) 5 L))) (by omega) (by omega);simp at g;unfold a7q;simp only[a,b,a5v (show short s.2.2.2.2.2.1 by unfold short;omega),f,d,g,oB,a4H]
theorem b1i(h:s.2.2.2.2.2.1.length≤40)(i:L.length<800000000):a5r ((L,()),s)=some (a4H s L,()):=by
 have c:=a0L (wrap .u64 (wrap .i64 (((s.2.2.2.2.2.1.length:Nat):Int)-1))) 5 L;have d:=a0L (wrap .u64 s.2.2.2.1) 4 (a0F (wrap .u64 (wrap .i64 (((s.2.2.2.2.2.1.length:Nat):Int)-1))) 5 L);have e:=a0L ((a0J s.2.2.2.2.2.1:Nat):Int) 5 (a0F (wrap .u64 s.2.2.2.1) 4 (a0F (wrap .u64 (wrap .i64 (((s.2.2.2.2.2.1.length:Nat):Int)-1))) 5 L));have j:=a2G s.2.2.2.2.2.1;have f:wrap .u64 ((a0J s.2.2.2.2.2.1:Nat):Int)=((a0J s.2.2.2.2.2.1:Nat):Int):=a1c (by omega);have k:a0K ((L,()),wrap .u64 (wrap .i64 (((s.2.2.2.2.2.1.length:Nat):Int)-1)),(5:Int))=some (a2b (wrap .u64 (wrap .i64 (((s.2.2.2.2.2.1.length:Nat):Int)-1))) 5,a0F (wrap .u64 (wrap .i64 (((s.2.2.2.2.2.1.length:Nat):Int)-1))) 5 L,()):=a1z (n:=5) (by omega) (by omega);have a:a0K ((a0F (wrap .u64 (wrap .i64 (((s.2.2.2.2.2.1.length:Nat):Int)-1))) 5 L,()),wrap .u64 s.2.2.2.1,(4:Int))=some (a2b (wrap .u64 s.2.2.2.1) 4,a0F (wrap .u64 s.2.2.2.1) 4 (a0F (wrap .u64 (wrap .i64 (((s.2.2.2.2.2.1.length:Nat):Int)-1))) 5 L),()):=a1z (n:=4) (by omega) (by omega);have b:a0K ((a0F (wrap .u64 s.2.2.2.1) 4 (a0F (wrap .u64 (wrap .i64 (((s.2.2.2.2.2.1.length:Nat):Int)-1))) 5 L),()),((a0J s.2.2.2.2.2.1:Nat):Int),(5:Int))=some (a2b ((a0J s.2.2.2.2.2.1:Nat):Int) 5,a0F ((a0J s.2.2.2.2.2.1:Nat):Int) 5 (a0F (wrap .u64 s.2.2.2.1) 4 (a0F (wrap .u64 (wrap .i64 (((s.2.2.2.2.2.1.length:Nat):Int)-1))) 5 L)),()):=a1z (n:=5) (by omega) (by omega);have g:=a6m (l:=s.2.2.2.2.2.1) (n:=a0J s.2.2.2.2.2.1) (L:=a0F ((a0J s.2.2.2.2.2.1:Nat):Int) 5 (a0F (wrap .u64 s.2.2.2.1) 4 (a0F (wrap .u64 (wrap .i64 (((s.2.2.2.2.2.1.length:Nat):Int)-1))) 5 L))) (by omega) (by omega) (by omega);unfold a5r;simp only[k,a,a7h (show short s.2.2.2.2.2.1 by unfold short;omega),f,b,g,oB,a4H]
def a8c(s:Sub)(L:List Int):List Int:=
 a0F ((a0J s.2.2.2.2.2.2.2.2.1:Nat):Int) 5 (a0F (wrap .u64 s.2.1) 5 (a0F (wrap .u64 s.1) 3 L))
def a1o(s:Sub)(L:List Int):List Int:=
 if s.1=2 then a0F (wrap .u64 s.2.2.1) 3 L
 else if s.1=3 then a4H s L
 else if s.1=4 then a4H s (a1A 8 s.2.2.2.2.2.2.1 (a0F (wrap .u64 (wrap .i64 (s.2.2.2.2.1-1))) 10 L))
 else if s.1=5 then a3t s.2.2.2.2.2.2.2.1 (a0F (wrap .u64 ((s.2.2.2.2.2.2.2.1.length:Nat):Int)) 2 L)
 else L
theorem b3H(h:SmallS s)(L:List Int):(a1o s L).length≤L.length+3000:=by
 have f:=h.coefs;have k:=h.taps;have g:=h.stages
 grind[a1o,a0L,b8s,a3I,b2o]
theorem a9Z:∀(zs:List Nat)(ks l L:List Int),ks.all kB=true→(a5w zs ks l L).length≤L.length+10*zs.length+100*l.length
 |z::zs,k::ks,l,L,h=>by
  simp only[a26,bA]at h;have g:=b1h h.1 (l.take z) L;have f:=a9Z zs ks (l.drop z) (a7z k (l.take z) L) h.2;rw[a32]at g;rw[a37]at f;simp only[a5w,lC];omega
 | [],_,_,_,_=>by simp_all[a5w]
 |_::_,[],_,_,_=>by grind[a5w]
def a3O(s:Sub)(zn:List Nat)(L:List Int):List Int:=
 if s.1=0∨s.1=1 then a1A (a0J s.2.2.2.2.2.2.2.2.1) s.2.2.2.2.2.2.2.2.1 (a1o s (a8c s L))
 else a2H s.2.2.2.2.2.2.2.2.2.1 zn s.2.2.2.2.2.2.2.2.2.2.1 (a1A (a0J s.2.2.2.2.2.2.2.2.1) s.2.2.2.2.2.2.2.2.1 (a1o s (a8c s L)))
theorem b6c(h:SmallS s)(S:L.length<100000000):
  ∃(e:Int)(L':List Int),b1u (wL L,s,n)=some (e,wL L')∧(e=0∨L'=L)∧L'.length≤L.length+700000∧
   ((a2L s n).isSome=true→e=0∧∃a,L'=a3O s a L∧(s.1≠0∧s.1≠1→PartsOk s.2.2.2.2.2.2.2.2.2.1 n ((s.2.2.2.2.2.2.2.2.1.length:Nat):Int) s.2.2.2.2.2.2.2.2.2.2.1 a))∧((a2L s n).isSome=false→e=1∧L'=L):=by
 unfold b1u;simp only[c2J h,oB];cases hs:(a2L s n).isSome with
 |false=>exact⟨1,L,rfl,.inr rfl,by omega,fun h=>(by grind),fun _=>⟨rfl,rfl⟩⟩
 |true=>
  have hp:a1n s n:=by
   grind[a2L]
  obtain⟨Q,R,A,-,-,-,-,v,E,B,-,p⟩:=hp;have b:=b1C A;have m:=a2G s.2.2.2.2.2.2.2.2.1;have u:short s.2.2.2.2.2.2.2.2.1:=by have:=h.warm;unfold short;omega
  have c:=h.warm;have r:=h.rest;have C:=h.stages;have D:=h.taps;have T:=a0L (wrap .u64 s.1) 3 L;have U:=a0L (wrap .u64 s.2.1) 5 (a0F (wrap .u64 s.1) 3 L);have V:=a0L ((a0J s.2.2.2.2.2.2.2.2.1:Nat):Int) 5 (a0F (wrap .u64 s.2.1) 5 (a0F (wrap .u64 s.1) 3 L));have z:wrap .u64 ((a0J s.2.2.2.2.2.2.2.2.1:Nat):Int)=((a0J s.2.2.2.2.2.2.2.2.1:Nat):Int):=a1c (by omega);have I:a0E (wL L,wrap .u64 s.1,(3:Int))=some (a2b (wrap .u64 s.1) 3,wL (a0F (wrap .u64 s.1) 3 L)):=a3n (n:=3) (by omega) (by omega);have K:a0E (wL (a0F (wrap .u64 s.1) 3 L),wrap .u64 s.2.1,(5:Int))=some (a2b (wrap .u64 s.2.1) 5,wL (a0F (wrap .u64 s.2.1) 5 (a0F (wrap .u64 s.1) 3 L))):=a3n (n:=5) (by omega) (by omega);have w:a0E (wL (a0F (wrap .u64 s.2.1) 5 (a0F (wrap .u64 s.1) 3 L)),((a0J s.2.2.2.2.2.2.2.2.1:Nat):Int),(5:Int))=some (a2b ((a0J s.2.2.2.2.2.2.2.2.1:Nat):Int) 5,wL (a8c s L)):=a3n (n:=5) (by omega) (by omega);have N:(a8c s L).length≤L.length+13:=by unfold a8c;omega
  generalize hM:a8c s L=M at w N;have X:=b3H h M;have O:=a3I (a0J s.2.2.2.2.2.2.2.2.1) s.2.2.2.2.2.2.2.2.1 (a1o s M);have Y:a0J s.2.2.2.2.2.2.2.2.1*s.2.2.2.2.2.2.2.2.1.length≤32*5000:=a59 m c;have g:=b7y (l:=s.2.2.2.2.2.2.2.2.1) (n:=n) (s:=s) m (by omega) s.2.2.2.2.2.2.2.2.1.length 0 (a1o s M) (by omega) (by omega);simp at g

  have i:=b4A (st:=s.2.2.2.2.2.2.2.1) (n:=n) (wd:=((a0J s.2.2.2.2.2.2.2.2.1:Nat):Int)) (s:=s) (by omega) s.2.2.2.2.2.2.2.1.length 0 (a0F (wrap .u64 ((s.2.2.2.2.2.2.2.1.length:Nat):Int)) 2 M) (by omega) (by grind[a0L]);have Z:=a0L (wrap .u64 (wrap .i64 (s.2.2.2.2.1-1))) 10 M;have q9:=a3I 8 s.2.2.2.2.2.2.1 (a0F (wrap .u64 (wrap .i64 (s.2.2.2.2.1-1))) 10 M);have j:=b7x (t:=s.2.2.2.2.2.2.1) (n:=n) (wd:=((a0J s.2.2.2.2.2.2.2.2.1:Nat):Int)) (s:=s) D 3 0 (a0F (wrap .u64 (wrap .i64 (s.2.2.2.2.1-1))) 10 M) (by rfl) (by omega);simp at i j;have F:a0E (wL M,wrap .u64 s.2.2.1,(3:Int))=some (a2b (wrap .u64 s.2.2.1) 3,wL (a0F (wrap .u64 s.2.2.1) 3 M)):=a3n (n:=3) (by omega) (by omega);have G:a0E (wL M,wrap .u64 (wrap .i64 (s.2.2.2.2.1-1)),(10:Int))=some (a2b (wrap .u64 (wrap .i64 (s.2.2.2.2.1-1))) 10,wL (a0F (wrap .u64 (wrap .i64 (s.2.2.2.2.1-1))) 10 M)):=a3n (n:=10) (by omega) (by omega);have H:a0E (wL M,wrap .u64 ((s.2.2.2.2.2.2.2.1.length:Nat):Int),(2:Int))=some (a2b (wrap .u64 ((s.2.2.2.2.2.2.2.1.length:Nat):Int)) 2,wL (a0F (wrap .u64 ((s.2.2.2.2.2.2.2.1.length:Nat):Int)) 2 M)):=a3n (n:=2) (by omega) (by omega);have x:=b4B (s:=s) h.coefs (L:=M) (by omega);have y:=b4B (s:=s) h.coefs (L:=a1A 8 s.2.2.2.2.2.2.1 (a0F (wrap .u64 (wrap .i64 (s.2.2.2.2.1-1))) 10 M)) (by omega);simp only[bT,cF,a5v u,oB,I,K,z,w];generalize hPM:a1A (a0J s.2.2.2.2.2.2.2.2.1) s.2.2.2.2.2.2.2.2.1 (a1o s M)=PM at g O

  have o:∀(d:s.1≠0∧s.1≠1),∃a,PartsOk s.2.2.2.2.2.2.2.2.2.1 n ((s.2.2.2.2.2.2.2.2.1.length:Nat):Int) s.2.2.2.2.2.2.2.2.2.2.1 a:=fun d=>by
   simp_all[PartsOk.of]
  rcases b with k|k|k|k|k|k;have f:a1o s M=M:=by unfold a1o;grind
  rw[f]at g;refine⟨0,PM,?_,.inl rfl,by omega,fun _=>⟨rfl,[],by simp_all[a3O],fun h=>absurd k (by omega)⟩,fun h=>by grind⟩;simp only[k,show((0:Int)==2)=false from rfl,show((0:Int)==4)=false from rfl,show((0:Int)==3)=false from rfl,show((0:Int)==5)=false from rfl,cF,oB,g,a7g]
  simp
  have f:a1o s M=M:=by unfold a1o;grind
  rw[f]at g;refine⟨0,PM,?_,.inl rfl,by omega,fun _=>⟨rfl,[],by simp_all[a3O],fun h=>absurd k (by omega)⟩,fun h=>by grind⟩;simp only[k,show((1:Int)==2)=false from rfl,show((1:Int)==4)=false from rfl,show((1:Int)==3)=false from rfl,show((1:Int)==5)=false from rfl,cF,oB,g,a7g]
  simp
  all_goals
   obtain⟨a,q⟩:=o (by omega);have t1:=b9D (L:=PM) q (by omega);have P:(a2H s.2.2.2.2.2.2.2.2.2.1 a s.2.2.2.2.2.2.2.2.2.2.1 PM).length≤L.length+700000:=by
    have z1:=a0L (wrap .u64 s.2.2.2.2.2.2.2.2.2.1.1) 4 PM;have z2:=a9Z a s.2.2.2.2.2.2.2.2.2.1.2.1 s.2.2.2.2.2.2.2.2.2.2.1 (a0F (wrap .u64 s.2.2.2.2.2.2.2.2.2.1.1) 4 PM) q.all;have z3:=q.len
    grind[a2H]
   refine⟨0,a2H s.2.2.2.2.2.2.2.2.2.1 a s.2.2.2.2.2.2.2.2.2.2.1 PM,?_,.inl rfl,P,fun _=>⟨rfl,a,by simp_all[a3O],fun _=>q⟩,fun h=>by grind⟩
  have f:a1o s M=a0F (wrap .u64 s.2.2.1) 3 M:=by unfold a1o;grind
  rw[f]at g;simp only[k,show((2:Int)==2)=true from rfl,cT,F,oB,g,a7g]
  grind
  have f:a1o s M=a4H s M:=by unfold a1o;grind
  rw[f]at g;simp only[k,show((3:Int)==2)=false from rfl,show((3:Int)==4)=false from rfl,show((3:Int)==3)=true from rfl,cT,cF,x,oB,g,a7g]
  grind
  have f:a1o s M=a4H s (a1A 8 s.2.2.2.2.2.2.1 (a0F (wrap .u64 (wrap .i64 (s.2.2.2.2.1-1))) 10 M)):=by unfold a1o;grind
  rw[f]at g;simp only[k,show((4:Int)==2)=false from rfl,show((4:Int)==4)=true from rfl,cT,cF,G,j,y,oB,g,a7g]
  grind
  have f:a1o s M=a3t s.2.2.2.2.2.2.2.1 (a0F (wrap .u64 ((s.2.2.2.2.2.2.2.1.length:Nat):Int)) 2 M):=by unfold a1o;grind
  rw[f]at g;simp only[k,show((5:Int)==2)=false from rfl,show((5:Int)==4)=false from rfl,show((5:Int)==3)=false from rfl,show((5:Int)==5)=true from rfl,cT,cF,H,i,oB,g,a7g]
  grind
theorem c2L(h:SmallS s)(Q:L.length<100000000):
  ∃(e:Int)(L':List Int),a8J ((L,()),s,n)=some (e,L',())∧(e=0∨L'=L)∧L'.length≤L.length+700000∧
   ((a2L s n).isSome=true→e=0∧∃a,L'=a3O s a L∧(s.1≠0∧s.1≠1→PartsOk s.2.2.2.2.2.2.2.2.2.1 n ((s.2.2.2.2.2.2.2.2.1.length:Nat):Int) s.2.2.2.2.2.2.2.2.2.2.1 a))∧((a2L s n).isSome=false→e=1∧L'=L):=by
 unfold a8J;simp only[b8p h,oB];cases hs:(a2L s n).isSome with
 |false=>grind
 |true=>
  have hp:a1n s n:=by
   grind[a2L]
  obtain⟨O,P,D,-,-,-,-,A,G,E,-,o⟩:=hp;have c:=b1C D;have w:=a2G s.2.2.2.2.2.2.2.2.1;have v:short s.2.2.2.2.2.2.2.2.1:=by have:=h.warm;unfold short;omega
  have d:=h.warm;have u:=h.rest;have F:=h.stages;have R:=h.taps;have S:=a0L (wrap .u64 s.1) 3 L;have T:=a0L (wrap .u64 s.2.1) 5 (a0F (wrap .u64 s.1) 3 L);have U:=a0L ((a0J s.2.2.2.2.2.2.2.2.1:Nat):Int) 5 (a0F (wrap .u64 s.2.1) 5 (a0F (wrap .u64 s.1) 3 L));have C:wrap .u64 ((a0J s.2.2.2.2.2.2.2.2.1:Nat):Int)=((a0J s.2.2.2.2.2.2.2.2.1:Nat):Int):=a1c (by omega);have K:a0K ((L,()),wrap .u64 s.1,(3:Int))=some (a2b (wrap .u64 s.1) 3,a0F (wrap .u64 s.1) 3 L,()):=a1z (n:=3) (by omega) (by omega);have r2:a0K ((a0F (wrap .u64 s.1) 3 L,()),wrap .u64 s.2.1,(5:Int))=some (a2b (wrap .u64 s.2.1) 5,a0F (wrap .u64 s.2.1) 5 (a0F (wrap .u64 s.1) 3 L),()):=a1z (n:=5) (by omega) (by omega);have B:a0K ((a0F (wrap .u64 s.2.1) 5 (a0F (wrap .u64 s.1) 3 L),()),((a0J s.2.2.2.2.2.2.2.2.1:Nat):Int),(5:Int))=some (a2b ((a0J s.2.2.2.2.2.2.2.2.1:Nat):Int) 5,a8c s L,()):=a1z (n:=5) (by omega) (by omega);have H:(a8c s L).length≤L.length+13:=by unfold a8c;omega
  generalize hM:a8c s L=M at B H;have V:=b3H h M;have I:=a3I (a0J s.2.2.2.2.2.2.2.2.1) s.2.2.2.2.2.2.2.2.1 (a1o s M);have X:a0J s.2.2.2.2.2.2.2.2.1*s.2.2.2.2.2.2.2.2.1.length≤32*5000:=a59 w d;have g:=a6m (l:=s.2.2.2.2.2.2.2.2.1) (n:=a0J s.2.2.2.2.2.2.2.2.1) (L:=a1o s M) (by omega) (by omega) (by omega)

  have b:=b1E (n:=n) (wd:=((a0J s.2.2.2.2.2.2.2.2.1:Nat):Int)) (s:=s) (by omega) s.2.2.2.2.2.2.2.1.length 0 (a0F (wrap .u64 ((s.2.2.2.2.2.2.2.1.length:Nat):Int)) 2 M) (by omega) (by grind[a0L]);have Y:=a0L (wrap .u64 (wrap .i64 (s.2.2.2.2.1-1))) 10 M;have Z:=a3I 8 s.2.2.2.2.2.2.1 (a0F (wrap .u64 (wrap .i64 (s.2.2.2.2.1-1))) 10 M);have j:a2C ((a0F (wrap .u64 (wrap .i64 (s.2.2.2.2.1-1))) 10 M,()),s.2.2.2.2.2.2.1,(8:Int))=some (a1A 8 s.2.2.2.2.2.2.1 (a0F (wrap .u64 (wrap .i64 (s.2.2.2.2.1-1))) 10 M),()):=a6m (n:=8) (by omega) (by omega) (by omega);have t:a48 3 s.2.2.2.2.2.2.1=s.2.2.2.2.2.2.1:=a09 (by omega);simp at b;have x:a0K ((M,()),wrap .u64 s.2.2.1,(3:Int))=some (a2b (wrap .u64 s.2.2.1) 3,a0F (wrap .u64 s.2.2.1) 3 M,()):=a1z (n:=3) (by omega) (by omega);have y:a0K ((M,()),wrap .u64 (wrap .i64 (s.2.2.2.2.1-1)),(10:Int))=some (a2b (wrap .u64 (wrap .i64 (s.2.2.2.2.1-1))) 10,a0F (wrap .u64 (wrap .i64 (s.2.2.2.2.1-1))) 10 M,()):=a1z (n:=10) (by omega) (by omega);have z:a0K ((M,()),wrap .u64 ((s.2.2.2.2.2.2.2.1.length:Nat):Int),(2:Int))=some (a2b (wrap .u64 ((s.2.2.2.2.2.2.2.1.length:Nat):Int)) 2,a0F (wrap .u64 ((s.2.2.2.2.2.2.2.1.length:Nat):Int)) 2 M,()):=a1z (n:=2) (by omega) (by omega);have q:=b1i (s:=s) h.coefs (L:=M) (by omega);have r:=b1i (s:=s) h.coefs (L:=a1A 8 s.2.2.2.2.2.2.1 (a0F (wrap .u64 (wrap .i64 (s.2.2.2.2.1-1))) 10 M)) (by omega);simp only[bT,cF,a7h v,oB,K,r2,C,B];generalize hPM:a1A (a0J s.2.2.2.2.2.2.2.2.1) s.2.2.2.2.2.2.2.2.1 (a1o s M)=PM at g I

  have m:∀(i:s.1≠0∧s.1≠1),∃a,PartsOk s.2.2.2.2.2.2.2.2.2.1 n ((s.2.2.2.2.2.2.2.2.1.length:Nat):Int) s.2.2.2.2.2.2.2.2.2.2.1 a:=fun i=>by
   simp_all[PartsOk.of]
  rcases c with k|k|k|k|k|k;have f:a1o s M=M:=by unfold a1o;grind
  rw[f]at g;refine⟨0,PM,?_,.inl rfl,by omega,fun _=>⟨rfl,[],by simp_all[a3O],fun h=>absurd k (by omega)⟩,fun h=>by grind⟩;simp only[k,show((0:Int)==2)=false from rfl,show((0:Int)==4)=false from rfl,show((0:Int)==3)=false from rfl,show((0:Int)==5)=false from rfl,cF,oB,g,a5u]
  simp
  have f:a1o s M=M:=by unfold a1o;grind
  rw[f]at g;refine⟨0,PM,?_,.inl rfl,by omega,fun _=>⟨rfl,[],by simp_all[a3O],fun h=>absurd k (by omega)⟩,fun h=>by grind⟩;simp only[k,show((1:Int)==2)=false from rfl,show((1:Int)==4)=false from rfl,show((1:Int)==3)=false from rfl,show((1:Int)==5)=false from rfl,cF,oB,g,a5u]
  simp
  all_goals
   obtain⟨a,p⟩:=m (by omega);have t2:=b6a (L:=PM) p (by omega);have N:(a2H s.2.2.2.2.2.2.2.2.2.1 a s.2.2.2.2.2.2.2.2.2.2.1 PM).length≤L.length+700000:=by
    have z1:=a0L (wrap .u64 s.2.2.2.2.2.2.2.2.2.1.1) 4 PM;have z2:=a9Z a s.2.2.2.2.2.2.2.2.2.1.2.1 s.2.2.2.2.2.2.2.2.2.2.1 (a0F (wrap .u64 s.2.2.2.2.2.2.2.2.2.1.1) 4 PM) p.all;have z3:=p.len
    grind[a2H]
   refine⟨0,a2H s.2.2.2.2.2.2.2.2.2.1 a s.2.2.2.2.2.2.2.2.2.2.1 PM,?_,.inl rfl,N,fun _=>⟨rfl,a,by simp_all[a3O],fun _=>p⟩,fun h=>by grind⟩
  have f:a1o s M=a0F (wrap .u64 s.2.2.1) 3 M:=by unfold a1o;grind
  rw[f]at g;simp only[k,show((2:Int)==2)=true from rfl,cT,x,oB,g,a5u]
  grind
  have f:a1o s M=a4H s M:=by unfold a1o;grind
  rw[f]at g;simp only[k,show((3:Int)==2)=false from rfl,show((3:Int)==3)=true from rfl,cT,cF,q,oB,g,a5u]
  grind
  have f:a1o s M=a4H s (a1A 8 s.2.2.2.2.2.2.1 (a0F (wrap .u64 (wrap .i64 (s.2.2.2.2.1-1))) 10 M)):=by unfold a1o;grind
  rw[f]at g;simp only[k,show((4:Int)==2)=false from rfl,show((4:Int)==3)=false from rfl,show((4:Int)==4)=true from rfl,cT,cF,y,t,j,r,oB,g,a5u]
  grind
  have f:a1o s M=a3t s.2.2.2.2.2.2.2.1 (a0F (wrap .u64 ((s.2.2.2.2.2.2.2.1.length:Nat):Int)) 2 M):=by unfold a1o;grind
  rw[f]at g;simp only[k,show((5:Int)==2)=false from rfl,show((5:Int)==4)=false from rfl,show((5:Int)==3)=false from rfl,show((5:Int)==5)=true from rfl,cT,cF,z,b,oB,g,a5u]
  grind
theorem b2b(h:List Nat):(a1i h).map a38=h:=by
 unfold a1i;rw[List.map_map]
 have:a38∘(fun(a:Nat)=>(a:Int))=id:=by rfl
 simp_all
set_option maxRecDepth 100000 in
theorem c2M:b1U ()=some true:=by kernel_rfl
def a3P(s:Sub)(n:Int):Int:=
 if(a2L s n).isSome=true then(((a3O s ((a1k s.2.2.2.2.2.2.2.2.2.1.1 n ((s.2.2.2.2.2.2.2.2.1.length:Nat):Int)).map a38) []).length:Nat):Int)else 0
theorem b7j(h:s.1≠0∧s.1≠1→PartsOk s.2.2.2.2.2.2.2.2.2.1 n ((s.2.2.2.2.2.2.2.2.1.length:Nat):Int) s.2.2.2.2.2.2.2.2.2.2.1 zn)(L:List Int):
  a3O s zn L=a3O s ((a1k s.2.2.2.2.2.2.2.2.2.1.1 n ((s.2.2.2.2.2.2.2.2.1.length:Nat):Int)).map a38) L:=by
 by_cases hk:s.1=0∨s.1=1
 simp_all[a3O];rw[(h (not_or.1 hk)).sizes,b2b]
theorem c5M(h:SmallS s)(n:Int):a8B (s,n)=some (a3P s n):=by
 obtain⟨e,f,g,-,-,k,c⟩:=b6c h (n:=n) (L:=[]) (by simp);have a:wL []=(([]:List Int),(0:Int),()):=rfl;rw[a]at g;obtain⟨d,-⟩:=b9x f;unfold a8B a3P;simp[g,a7G];cases hs:(a2L s n).isSome with
 |false=>
  simp_all
 |true=>
  obtain⟨rfl,i,rfl,b⟩:=k hs;rw[if_pos rfl,←b7j b];simp_all
theorem c1i(h:SmallS s)(n:Int):a8a (s,n)=some (a3P s n):=by
 obtain⟨e,a,g,-,-,f,b⟩:=c2L h (n:=n) (L:=[]) (by simp);unfold a8a a3P;simp only[g,oB,a8K];cases hs:(a2L s n).isSome with
 |false=>
  simp_all
 |true=>
  obtain⟨rfl,c,rfl,k⟩:=f hs;rw[if_pos rfl,←b7j k]
def dif:List Int→List Int
 |a::b::r=>W (b-a)::dif (b::r)
 |_=>[]
theorem a6o:∀l:List Int,(dif l).length=l.length-1
 | []=>rfl
 | [_]=>rfl
 |a::b::r=>by simp[dif,a6o (b::r)]
theorem b3X:∀(l:List Int)(i:Nat)(x y:Int),l[i]?=some x→l[i+1]?=some y→(dif l)[i]?=some (W (y-x))
 |a::b::r,0,x,y,h1,h2=>by simp at h1 h2;subst h1;subst h2;rfl
 |a::b::r,i+1,x,y,h1,h2=>by
  simp only[dif,List.getElem?_cons_succ]at h1 h2⊢;exact b3X (b::r) i x y h1 h2
 | [_],0,x,y,h1,h2=>by simp_all
 | [_],i+1,x,y,h1,h2=>by simp_all
 | [],i,x,y,h1,h2=>by simp_all
def a1B:Nat→List Int→List Int
 |0,l=>l
 |o+1,l=>dif (a1B o l)
theorem a4j(l:List Int):∀o,(a1B o l).length=l.length-o
 |0=>rfl
 |o+1=>by simp only[a1B,a6o,a4j l o];omega
theorem a8U{l:List Int}(h:short l)(o:Nat):short (a1B o l):=by
 have h:l.length<1000000:=h;show(a1B o l).length<1000000;rw[a4j];omega
def a9m(l:List Int)(i:Nat):List Int:=(dif l).take i++l.drop i
theorem b2c(h:i≤l.length-1):(a9m l i).length=l.length:=by
 grind[a9m,a6o]
theorem b7z(h:i≤l.length-1)(g:i≤j):(a9m l i).getD j 0=l.getD j 0:=by
 simp_all[a6o,a9m,List.getElem?_append_right]
theorem c4o(h:i<l.length-1):(a9m l i).set i (W (l.getD (i+1) 0-l.getD i 0))=a9m l (i+1):=by
 have e:((dif l).take i).length=i:=by grind[a6o]
 have f:l[i]?=some l[i]:=lG (by omega);have k:l[i+1]?=some l[i+1]:=lG (by omega);have a:=b3X l i _ _ f k;have g:i<(dif l).length:=by grind
 simp only[a9m];rw[List.set_append,if_neg (by omega),e,a51,a00 (show i<l.length by omega),a47,a42 g,aA]
 grind
theorem c2N{l:List Int}{o k:Int}(g:short l)(h:1≤l.length):y0s a4Y ((0:Int),o,k,l,())=some (o,k,a9m l (l.length-1),()):=by
 have g:l.length<1000000:=g;have r:a9m l 0=l:=by rfl
 have:=a0R (f:=a4Y) (fun i:Nat=>((i:Int),o,k,a9m l i,())) (l.length-1) (b:=(o,k,a9m l (l.length-1),()))
  (fun i s=>by
   have d:wrap .i64 ((i:Int)+1)=((i+1:Nat):Int):=a0B (by omega);have c:=b2c (l:=l) (i:=i) (by omega);have a:decide (((i+1:Nat):Int)<((l.length:Nat):Int))=true:=by grind
   have e:decide ((0:Int)≤((i+1:Nat):Int))=true:=by rfl
   have m:decide ((0:Int)≤(i:Int))=true:=by simp
   have n:decide ((i:Int)<((l.length:Nat):Int))=true:=by grind
   have n1:a38 ((i+1:Nat):Int)=i+1:=by rfl
   have n2:a38 (i:Int)=i:=by rfl
   have st:=c4o (l:=l) (i:=i) (by omega);have p:=b7z (l:=l) (i:=i) (j:=i+1) (by omega) (by omega);have q:=b7z (l:=l) (i:=i) (j:=i) (by omega) (by omega);simp_all[a4Y])
  (by
   have c:=b2c (l:=l) (i:=l.length-1) (by omega);have d:wrap .i64 (((l.length-1:Nat):Int)+1)=((l.length:Nat):Int):=by grind[a0I]
   have a:decide (((l.length:Nat):Int)<((l.length:Nat):Int))=false:=by simp
   simp_all[a4Y])
 simp_all
theorem c3J{l:List Int}:(a9m l (l.length-1)).take (l.length-1)=dif l:=by
 simp_all[a09,a6o,a9m]
theorem b0A(y:o≤4)(x:o≤l.length)(g:short l)(r:l.all a0A=true):
  a2N (l,(o:Int))=some (bif (a1B o l).all a0A then(a1B o l,0)else([],6)):=by
 have q:l.length<1000000:=g;have h:=a0R (f:=a6O) (fun k:Nat=>((o:Int),(k:Int),a1B k l,())) o (b:=(a1B o l,()))
  (fun k v=>by
   have n:1≤(a1B k l).length:=by rw[a4j];omega
   have p:(a1B k l).length<1000000:=a8U g k;have j:decide ((k:Int)<(o:Int))=true:=by simp_all
   have w:=b2c (l:=a1B k l) (i:=(a1B k l).length-1) (by omega);have z:wrap .i64 ((((a1B k l).length:Nat):Int)-1)=(((a1B k l).length-1:Nat):Int):=by grind[a0I]
   have w2:wrap .i64 ((k:Int)+1)=((k+1:Nat):Int):=a0B (by omega);have s:decide ((0:Int)≤(((a1B k l).length-1:Nat):Int))=true:=by simp
   have t:decide ((((a1B k l).length-1:Nat):Int)≤(((a1B k l).length:Nat):Int))=true:=by simp
   have u:decide ((a1B k l).length-1≤(a1B k l).length)=true:=by simp
   simp_all[a1B,a6O,c2N,a8U,c3J])
  (by
   have j:decide ((o:Int)<(o:Int))=false:=by simp
   simp_all[a6O])
 have a:decide ((o:Int)<0)=false:=by simp
 have c:decide ((o:Int) > 4)=false:=by grind
 have d:decide (((l.length:Nat):Int)<(o:Int))=false:=by simp_all
 have e:lim l.length=true:=a7R (by omega);simp at h;have m:a1B 0 l=l:=rfl;rw[m]at h;unfold a2N;simp only[a,c,d,e,cF,cT,oB,a6C g,r,bT,h,a6C (a8U g o)]
 grind
def ex:Nat→(Nat→Int)→Nat→Int
 |0,f,i=>f i
 |o+1,f,i=>ex o f (i+1)-ex o f i
theorem b5d{l:List Int}(g:l.all a0A=true):∀(o i:Nat),i+o<l.length→(a1B o l)[i]?=some (W (ex o (fun j=>l.getD j 0) i))
 |0,i,h=>by
  simp_all[a1B,ex,b1y]
 |o+1,i,h=>by
  have f:=b5d g o i (by omega);have k:=b5d g o (i+1) (by omega);simp_all[a1B,ex,b3X,a5X]
theorem c3K(e:l.all a0A=true)(d:o≤4)(h:o+j<l.length):W (W (ex o (fun j=>l.getD j 0) j)+a3g o (l.take (o+j)))=l.getD (o+j) 0:=by
 have f:a0A (l.getD (o+j) 0)=true:=by
  simp_all
 have g:∀i:Nat,1≤i→i≤o→atB (l.take (o+j)) i=l.getD (o+j-i) 0:=fun i b c=>by
  simp[atB,Nat.min_eq_left (a53 h),List.getElem?_take]
  grind
 have a:ex o (fun j=>l.getD j 0) j+a3g o (l.take (o+j))=l.getD (o+j) 0:=by
  have k:o=0∨o=1∨o=2∨o=3∨o=4:=by omega
  rcases k with rfl|rfl|rfl|rfl|rfl;simp[ex,a3g]
  all_goals grind[ex,a3g]
 have:W (W (ex o (fun j=>l.getD j 0) j)+a3g o (l.take (o+j)))=W (ex o (fun j=>l.getD j 0) j+a3g o (l.take (o+j))):=by
  simp_all[a5X]
 simp_all[b1y]
theorem b9E{l:List Int}(f:l.all a0A=true){o:Nat}(b:o≤4):∀(k j:Nat),o+j+k=l.length→a3a (a3g o) ((a1B o l).drop j) (l.take (o+j))=some l
 |0,j,h=>by
  rw[List.drop_of_length_le (by rw[a4j];omega),a09 (by omega)];rfl
 |k+1,j,h=>by
  have g:j<(a1B o l).length:=by rw[a4j];omega
  have a:=b5d f o j (by omega);rw[lG g]at a;have e:=Option.some.inj a;have c:l.getD (o+j) 0=l[o+j]:=by grind
  have st:=c3K f b (show o+j<l.length by omega);rw[c]at st;rw[a00 g,e];simp only[a3a,st,lA.1 f _ (a04 (show o+j<l.length by omega)),cT];have d:l.take (o+j)++[l[o+j]]=l.take (o+(j+1)):=by
   rw[show o+(j+1)=(o+j)+1 by rfl]
   simp
  rw[d];exact b9E f b k (j+1) (by omega)
theorem a6J{σ β:Type}{f:σ→Option (σ ⊕ β)}(I:Nat→σ→Prop)(Q:β→Prop)(n:Nat)(g:∀i s,i<n→I i s→∃s',f s=some (.inl s')∧I (i+1) s')
  (a:∀s,I n s→∃b,f s=some (.inr b)∧Q b):∀(k i:Nat)(s:σ),i+k=n→I i s→∃b,y0s f s=some b∧Q b
 |0,i,s,h,hi=>by
  obtain rfl:i=n:=by omega
  grind[a0D]
 |k+1,i,s,h,hi=>by
  obtain⟨s',c,d⟩:=g i s (by omega) hi;rw[a0H c];exact a6J I Q n g a k (i+1) s' (by omega) d
theorem b4C(y:Int):0≤wrap .u64 y∧wrap .u64 y<18446744073709551616:=by
 grind[wrap,IntKind.bits,IntKind.signed]
def a9J(n:Int)(x:Int):Bool:=a0A x&&!(a62 x (A0n .i64 1 n) != 0)
def b2L{β:Type}(n:Int)(bad:β)(out:List Int)(x:Int):List Int ⊕ β:=bif a9J n x then .inl (out++[A0o .i64 x n])else .inr bad
def a8V(n:Int)(l:List Int):Option (List Int):=bif l.all (a9J n)then some (l.map fun x=>A0o .i64 x n)else none
theorem b3e{β:Type}(n:Int)(h:β)(g:List Int→β):∀(l out:List Int),a8L g (a2q (b2L n h) l out)=match a8V n l with|some r=>g (out++r)|none=>h
 | [],out=>by grind[a2q,a8L,a8V]
 |x::l,out=>by
  simp only[a2q,b2L,a8V,a26];cases hx:a9J n x with
  |true=>
   simp only[cT,a21];rw[b3e n h g l _];simp only[a8V];cases l.all (a9J n)with
   |true=>simp
   |false=>rfl
  |false=>rfl
theorem c2O{o:Nat}(h:o≤30):A0n .i64 1 (o:Int)=((2^o:Nat):Int):=by
 have g:2^o≤2^30:=a30 (by omega) h
 have:=b2G (N:=1) (o:=o) (by omega) (by omega)
 simp_all
theorem b2p(d:o≤30)(m:l.length<100000):a6r (l,(o:Int))=some (a1V (a8V (o:Int) l)):=by
 have e:short l:=by unfold short;omega
 have g:¬ (o:Int)<0:=by omega
 have b:¬ (o:Int) > 30:=by omega
 have c:(A0n .i64 (1:Int) (o:Int)==0)=false:=by
  rw[c2O d]
  have:0<2^o:=a45 o
  grind
 unfold a6r;simp[g,b]
 have:=a1U (f:=a5Z) l (fun i out=>((o:Int),l,(l.length:Int),(i:Int),out,())) (b2L (o:Int) (Sum.inr ((6:Int),([]:List Int),())))
  (fun i out=>out.length=i) (fun out=>Sum.inl (out,()))
  (fun i h out j=>by
   have k:i<1000000:=by omega
   simp only[a5Z,dlt h,cT,a0C h,oB,b2i,b2L,a9J,g,c,decide_false,cF];cases hb:a0A l[i]with
   |true=>
    cases hb2:(a62 l[i] (A0n .i64 1 (o:Int)) != 0)with
    |false=>
     simp only[cT,bT,cF,oB,g,decide_false,a0G (show out.length+1<1000000 by omega),a0B k,a02,a16,hb2];simp_all
    |true=>
     simp
   |false=>
    simp)
  (fun out _=>by simp[a5Z]) (a:=[]) rfl
 simp[b3e]at this;rw[this];cases a8V (o:Int) l<;>rfl
theorem b5e{o:Nat}(h:o≤30){x:Int}(k:a9J (o:Int) x=true):a0A (A0o .i64 x (o:Int))=true∧A0n .i64 (A0o .i64 x (o:Int)) (o:Int)=x∧a0A x=true:=by
 simp only[a9J,c2O h,bA,a41,bne_eq_false_iff_eq]at k;obtain⟨f,d⟩:=k;obtain⟨c,rfl⟩:=Int.dvd_of_tmod_eq_zero d;have g:=a2D.1 f;have e:min (a38 (o:Int)) (IntKind.bits .i64)=o:=by grind[IntKind.bits]
 have hp:(0:Int)<2^o:=Int.pow_pos (by omega);have b:((2^o:Nat):Int)=2^o:=by simp
 rw[b]at g f⊢;have a:A0o .i64 (2^o*c) (o:Int)=c:=by
  unfold A0o
  grind[a49]
 rw[a];refine⟨a2D.2 ?_,?_,f⟩;generalize (2:Int)^o=p at hp g;have i:p*c=(p-1)*c+c:=by grind
 by_cases hc:0≤c
 have:=Int.mul_nonneg (show 0≤p-1 by omega) hc
 omega
 have:=Int.mul_nonneg (show 0≤p-1 by omega) (show 0≤-c by omega)
 grind
 grind[A0n,a0I]
theorem c5N(h:o≤30)(f:a8V (o:Int) l=some d):d.all a0A=true∧d.length=l.length∧upO (o:Int) d=some l:=by
 unfold a8V at f;cases ha:l.all (a9J (o:Int))with
 |false=>simp_all
 |true=>
  rw[ha]at f;simp at f;subst f;have g:=lA.1 ha;refine⟨?_,by simp,?_⟩;simp_all[b5e];have a:(l.map fun x=>A0o .i64 x (o:Int)).all (fun x=>a0A x&&a0A (A0n .i64 x (o:Int)))=true:=by
   simp only[List.all_map];refine lA.2 fun x k=>?_
   obtain⟨c,e,i⟩:=b5e h (g x k);simp_all
  unfold upO;rw[a]
  simp
  have b:l.map ((fun x=>A0n .i64 x (o:Int))∘fun x=>A0o .i64 x (o:Int))=l.map id:=List.map_congr_left (fun x k=>(b5e h (g x k)).2.1);simp_all
theorem c2P{n warm:Int}(h:a2K n warm=true):(a1k 0 n warm).length≠0:=by
 have g:=h;simp[a2K]at g
 grind[a1k,a8Q]
theorem c2Q(h:-1048576≤x∧x≤1048575):v0s (v0r x (-1048576)) 1048575=x:=by
 unfold v0s v0r
 grind
theorem b8M(h:a0A x=true):-1048576≤A0o .i64 x ((10:Nat):Int)∧A0o .i64 x ((10:Nat):Int)≤1048575:=by
 have g:=a2D.1 h;have e:A0o .i64 x ((10:Nat):Int)=x / 1024:=by
  show Int.fdiv x 1024=_
  grind
 omega
theorem b7A{x:Int}(f:a0A x=true){a l:List Int}{n i:Int}:∀(k s:Nat),s+k=10→∃s':Nat,s'≤10∧y0s a1I (a,(s:Int),x,l,n,i,())=some (a,(s':Int),l,n,i,())
 |0,s,h=>by
  obtain rfl:s=10:=by omega
  have g:decide (((10:Nat):Int)<0)=false:=by rfl
  have d:=c2Q (b8M f);refine⟨10,a34 _,a0D ?_⟩;simp_all[a1I,a1F]
 |k+1,s,h=>by
  have g:decide ((s:Int)<0)=false:=decide_eq_false (by omega);cases hc:(v0s (v0r (A0o .i64 x (s:Int)) (-1048576)) 1048575 != A0o .i64 x (s:Int))with
  |false=>exact⟨s,by omega,a0D (by simp only[a1I,g,cF,a1F,oB,hc])⟩
  |true=>
   obtain⟨s',b,c⟩:=b7A f (a:=a) (l:=l) (n:=n) (i:=i) k (s+1) (by omega);refine⟨s',b,?_⟩;rw[a0H (s':=(a,((s+1:Nat):Int),x,l,n,i,())) (by simp only[a1I,g,cF,a1F,oB,hc,cT,a0B (show s<1000000 by omega)])];omega
theorem c1j(w:l.all a0A=true)(A:l.length<100000):∃r,a2P l=some r∧r.length=l.length:=by
 obtain⟨b,y,s,z,v⟩:=a6J (f:=a1S) (fun i st=>∃s:Nat,s≤10∧st=(l,(s:Int),l,(l.length:Int),(i:Int),())) (fun b=>∃s:Nat,s≤10∧b=(l,(s:Int),())) l.length
  (fun i st g h=>by
   obtain⟨s,q,rfl⟩:=h;obtain⟨s',k,e⟩:=b7A (lA.1 w _ (a04 g)) (a:=l) (l:=l) (n:=(l.length:Int)) (i:=(i:Int)) (10-s) s (by omega);exact⟨_,by simp only[a1S,dlt g,cT,a0C g,oB,e,a0B (show i<1000000 by omega)]<;>rfl,s',k,rfl⟩)
  (fun st h=>by
   obtain⟨s,q,rfl⟩:=h;exact⟨_,by simp_all[a1S],s,q,rfl⟩) l.length 0 _ (by omega) ⟨0,by omega,rfl⟩
 subst v;obtain⟨c,x,o,t,u⟩:=a6J (f:=a1T) (fun i st=>∃o:List Int,st=((s:Int),l,(l.length:Int),(i:Int),o,())∧o.length=l.length) (fun b=>∃o:List Int,b=(o,())∧o.length=l.length) l.length
  (fun i st g h=>by
   obtain⟨o,rfl,p⟩:=h;have d:decide ((s:Int)<0)=false:=decide_eq_false (by omega);have j:decide ((0:Int)≤(i:Int))=true:=by simp
   have m:decide ((i:Int)<((o.length:Nat):Int))=true:=decide_eq_true (by omega);exact⟨_,by simp only[a1T,dlt g,cT,a0C g,oB,d,cF,j,m,a02,a0B (show i<1000000 by omega)]<;>rfl,_,rfl,by grind⟩)
  (fun st h=>by
   obtain⟨o,rfl,p⟩:=h;exact⟨_,by simp_all[a1T],o,rfl,p⟩) l.length 0 _ (by omega) ⟨a01 l.length 0,rfl,by simp⟩
 subst t;refine⟨o,?_,u⟩;have d:decide ((0:Int)≤((l.length:Nat):Int))=true:=by simp
 have j:decide (((l.length:Nat):Int)≤((l.length:Nat):Int))=true:=by simp
 have m:lim l.length=true:=a0G (by omega);simp_all[a2P]
theorem b6d:∀(N:Nat)(num den:Int),den.toNat≤N→∃a b,y0s a2k (num,den,())=some (a,b,())
 |N,num,den,h=>by
  by_cases hd:den≥1099511627776
  ·have g:decide (den≥(1099511627776:Int))=true:=decide_eq_true hd;have e:A0o .i64 den 1=den / 2:=by
    show Int.fdiv den 2=_
    grind
   rw[a0H (s':=(A0o .i64 num 1,den / 2,())) (by simp_all[a2k])]
   match N with
   |0=>omega
   |N+1=>exact b6d N _ _ (by omega)
  have g:decide (den≥(1099511627776:Int))=false:=decide_eq_false hd;exact⟨num,den,a0D (by simp only[a2k,g,cF])⟩
theorem b1F{f:List Int}(u:1≤m)(r:g.length=f.length)(t:f.length<100000)(q:m<1000):∃k,a2h (f,g,(m:Int))=some k:=by
 obtain⟨b,n,d,den,o⟩:=a6J (f:=a1N) (fun i st=>∃d den:Int,st=(f,g,d,den,((m+i:Nat):Int),())) (fun b=>∃d den:Int,b=(d,den,())) (f.length-m)
  (fun i st s h=>by
   obtain⟨d,den,rfl⟩:=h;have j:m+i<f.length:=by omega
   have e:wrap .i64 (((m+i:Nat):Int)-1)=((m+i-1:Nat):Int):=by grind[a0I]
   exact⟨_,by simp only[a1N,dlt j,cT,a0C j,e,a0C (show m+i-1<g.length by omega),oB,a0B (show m+i<1000000 by omega)]<;>rfl,_,_,rfl⟩)
  (fun st h=>by
   obtain⟨d,den,rfl⟩:=h;have l:decide (((m+(f.length-m):Nat):Int)<((f.length:Nat):Int))=false:=decide_eq_false (by omega);exact⟨_,by simp only[a1N,l,cF]<;>rfl,_,_,rfl⟩) (f.length-m) 0 (f,g,0,0,(m:Int),()) (by omega) ⟨0,0,rfl⟩
 subst o;obtain⟨a,c,p⟩:=b6d den.toNat d den (a34 _);unfold a2h;simp[n,p];cases hc:(c==0)with
 |true=>simp
 |false=>
  simp
  cases decide ((A0n .i64 a 15).tmod c<0)<;>exact⟨_,rfl⟩
theorem b8t{f:List Int}{order:Int}(y:1≤m)(r:g.length=f.length)(x:f.length<100000)(s:m<1000):
  ∃f' a:List Int,y0s a1g (order,(m:Int),k,((f.length:Nat):Int)-1,f,g,ks,())=some (order,(m:Int),f',a,ks,())∧f'.length=f.length∧a.length=f.length:=by
 obtain⟨b,t,f',a,u,v⟩:=a6J (f:=a1g) (fun i st=>∃f' a:List Int,st=(order,(m:Int),k,((f.length:Nat):Int)-1-(i:Int),f',a,ks,())∧f'.length=f.length∧a.length=f.length)
  (fun b=>∃f' a:List Int,b=(order,(m:Int),f',a,ks,())∧f'.length=f.length∧a.length=f.length) (f.length-m)
  (fun i st w h=>by
   obtain⟨f',a,rfl,c,d⟩:=h;have j:decide (((f.length:Nat):Int)-1-(i:Int)≥(m:Int))=true:=decide_eq_true (by omega);have l:decide ((0:Int)≤((f.length:Nat):Int)-1-(i:Int))=true:=decide_eq_true (by omega);have n:decide (((f.length:Nat):Int)-1-(i:Int)<((f'.length:Nat):Int))=true:=decide_eq_true (by omega);have o:decide (((f.length:Nat):Int)-1-(i:Int)<((a.length:Nat):Int))=true:=decide_eq_true (by omega);have e:wrap .i64 (((f.length:Nat):Int)-1-(i:Int)-1)=((f.length:Nat):Int)-1-((i+1:Nat):Int):=by grind[a0I]
   have p:decide ((0:Int)≤((f.length:Nat):Int)-1-((i+1:Nat):Int))=true:=decide_eq_true (by omega);have q:decide (((f.length:Nat):Int)-1-((i+1:Nat):Int)<((a.length:Nat):Int))=true:=decide_eq_true (by omega);exact⟨_,by simp only[a1g,j,l,n,o,e,p,q,cT,a02,a1F,oB]<;>rfl,_,_,rfl,by simp_all,by simp_all⟩)
  (fun st h=>by
   obtain⟨f',a,rfl,c,d⟩:=h;have j:decide (((f.length:Nat):Int)-1-((f.length-m:Nat):Int)≥(m:Int))=false:=decide_eq_false (by omega);exact⟨_,by simp only[a1g,j,cF]<;>rfl,f',a,rfl,c,d⟩) (f.length-m) 0 _ (by omega) ⟨f,g,rfl,rfl,r⟩
 grind
theorem b9F{f:List Int}(y:o≤32)(v:g.length=f.length)(x:f.length<100000):∃ks:List Int,y0s a1D ((o:Int),(1:Int),f,g,([]:List Int),())=some (ks,())∧ks.length=o:=by
 obtain⟨b,p,ks,t,u⟩:=a6J (f:=a1D) (fun i st=>∃f' a ks:List Int,st=((o:Int),((i+1:Nat):Int),f',a,ks,())∧f'.length=f.length∧a.length=f.length∧ks.length=i)
  (fun b=>∃ks:List Int,b=(ks,())∧ks.length=o) o
  (fun i st w h=>by
   obtain⟨f',a,ks,rfl,j,l,q⟩:=h;have d:decide (((i+1:Nat):Int)≤(o:Int))=true:=decide_eq_true (by omega);obtain⟨k,n⟩:=b1F (f:=f') (g:=a) (m:=i+1) (by omega) (by omega) (by omega) (by omega);have e:wrap .i64 (((f'.length:Nat):Int)-1)=((f'.length:Nat):Int)-1:=a0I (by omega);obtain⟨r,s,p,t,u⟩:=b8t (f:=f') (g:=a) (ks:=ks++[k]) (m:=i+1) (order:=(o:Int)) (k:=k) (by omega) (by omega) (by omega) (by omega);have c:lim (ks.length+1)=true:=a0G (by omega);exact⟨_,by simp only[a1D,d,cT,n,oB,c,e,a05,p,a0B (show i+1<1000000 by omega)]<;>rfl,r,s,ks++[k],rfl,by omega,by omega,by grind⟩)
  (fun st h=>by
   obtain⟨f',a,ks,rfl,j,l,q⟩:=h;have d:decide (((o+1:Nat):Int)≤(o:Int))=false:=decide_eq_false (by omega);exact⟨_,by simp only[a1D,d,cF]<;>rfl,ks,rfl,q⟩) o 0 _ (by omega) ⟨f,g,[],rfl,rfl,v,rfl⟩
 simp_all
theorem b3I(h:l.all a0A=true)(t:l.length≤4096)(s:1≤o)(m:o≤32):∃ks:List Int,a2w (l,(o:Int))=some (ks,0)∧ks.length=o:=by
 have p:short l:=by unfold short;omega
 obtain⟨r,e,q⟩:=c1j h (by omega);have n:short r:=by unfold short;omega
 obtain⟨ks,i,j⟩:=b9F (f:=r) (g:=r) m rfl (by omega);have k:decide ((o:Int)<1)=false:=decide_eq_false (by omega);have a:decide ((o:Int) > 32)=false:=decide_eq_false (by omega);have b:decide (((l.length:Nat):Int) > 4096)=false:=decide_eq_false (by omega);have c:decide ((0:Int)≤(o:Int))=true:=by simp
 have d:lim o=true:=a0G (by omega);refine⟨ks,?_,j⟩;unfold a2w;simp only[k,a,b,c,d,cF,cT,oB,a4c p,h,bT,e,a7f n,tN,a02,i]
theorem b1j{σ β:Type}{f:σ→Option (σ ⊕ β)}(I:Nat→σ→Prop)(Q:β→Prop)(n:Nat)(g:∀i s,i<n→I i s→(∃s',f s=some (.inl s')∧I (i+1) s')∨(∃b,f s=some (.inr b)∧Q b))
  (a:∀s,I n s→∃b,f s=some (.inr b)∧Q b):∀(k i:Nat)(s:σ),i+k=n→I i s→∃b,y0s f s=some b∧Q b
 |0,i,s,h,hi=>by
  obtain rfl:i=n:=by omega
  grind[a0D]
 |k+1,i,s,h,hi=>by
  rcases g i s (by omega) hi with⟨s',c,d⟩|⟨b,c,d⟩;rw[a0H c];exact b1j I Q n g a k (i+1) s' (by omega) d;simp_all[a0D]
theorem c1k(k:ks.length≤32):∃b,y0s a0Y (ks,ks,(ks.length:Int),(0:Int),())=some b∧(b=.inl (ks,())∨b=.inr (([]:List Int),(1:Int),())):=
 b1j (f:=a0Y) (fun i s=>s=(ks,ks,(ks.length:Int),(i:Int),())) (fun b=>b=.inl (ks,())∨b=.inr (([]:List Int),(1:Int),())) ks.length
  (fun i s g h=>by
   subst h;cases h1:decide (ks[i]<(-16383:Int))with
   |true=>exact Or.inr ⟨_,by simp_all[a0Y,a0C],Or.inr rfl⟩
   |false=>
    cases h2:decide (ks[i] > (16383:Int))with
    |true=>exact Or.inr ⟨_,by simp_all[a0Y,a0C],Or.inr rfl⟩
    |false=>exact Or.inl ⟨_,by simp only[a0Y,dlt g,cT,cF,a0C g,oB,h1,h2,a0B (show i<1000000 by omega)]<;>rfl,rfl⟩)
  (fun s h=>by
   subst h;exact⟨_,by simp_all[a0Y],Or.inl rfl⟩) ks.length 0 _ (by omega) rfl
theorem c1l{a:List Int}(t:c.length=i)(u:i≤32):
  ∃g:List Int,y0s a1E (c,(i:Int),k,a,n,(i:Int),c,(c.length:Int),(0:Int),([]:List Int),())=some (k,a,n,(i:Int),g,())∧g.length=i:=by
 obtain⟨b,p,g,q,r⟩:=a6J (f:=a1E) (fun j s=>∃g:List Int,s=(c,(i:Int),k,a,n,(i:Int),c,(c.length:Int),(j:Int),g,())∧g.length=j)
  (fun b=>∃g:List Int,b=(k,a,n,(i:Int),g,())∧g.length=c.length) c.length
  (fun j s e h=>by
   obtain⟨g,rfl,l⟩:=h;have m:wrap .i64 ((i:Int)-1)=(i:Int)-1:=a0I (by omega);have o:wrap .i64 ((i:Int)-1-(j:Int))=((i-1-j:Nat):Int):=by grind[a0I]
   have d:lim (g.length+1)=true:=a0G (by omega);exact⟨_,by simp only[a1E,dlt e,cT,a0C e,oB,m,o,a0C (show i-1-j<c.length by omega),d,a0B (show j<1000000 by omega),a05]<;>rfl,_,rfl,by grind⟩)
  (fun s h=>by
   obtain⟨g,rfl,l⟩:=h;exact⟨_,by simp_all[a1E],g,rfl,l⟩) c.length 0 _ (by omega) ⟨[],rfl,rfl⟩
 simp_all
theorem b6e(y:1≤ks.length)(w:ks.length≤32):∃c e,a3p ks=some (c,e)∧(e=0→c.length=ks.length):=by
 obtain⟨b,p,q⟩:=c1k w;have j:decide (((ks.length:Nat):Int)<1)=false:=decide_eq_false (by omega);have l:decide (((ks.length:Nat):Int) > 32)=false:=decide_eq_false (by omega);unfold a3p;simp[j,l,p];rcases q with rfl|rfl;obtain⟨r,t,c,u,v⟩:=a6J (f:=a2d) (fun i s=>∃c:List Int,s=(c,ks,(ks.length:Int),(i:Int),())∧c.length=i) (fun r=>∃c:List Int,r=(c,())∧c.length=ks.length) ks.length
  (fun i s d h=>by
   obtain⟨c,rfl,g⟩:=h;have o:wrap .i64 ((i:Int)+1)=((i+1:Nat):Int):=a0B (by omega);have m:decide ((0:Int)≤((i+1:Nat):Int))=true:=by rfl
   have l1:lim (i+1)=true:=a0G (by omega);obtain⟨x,n1,n2⟩:=c1l (c:=c) (a:=ks) (i:=i) (k:=ks[i]) (n:=(ks.length:Int)) g (by omega);have l2:lim (x.length+1)=true:=a0G (by omega);exact⟨_,by simp only[a2d,dlt d,cT,a0C d,oB,o,m,tN,l1,a02,n1,l2,a05]<;>rfl,_,rfl,by grind⟩)
  (fun s h=>by
   obtain⟨c,rfl,g⟩:=h;exact⟨_,by simp_all[a2d],c,rfl,g⟩) ks.length 0 _ (by omega) ⟨[],rfl,rfl⟩
 subst u;simp at t;exact⟨c,0,by simp_all,fun _=>v⟩
 grind
theorem c1m{s:Nat}{half:Int}(m:c.length≤32)(d:w≤32):
  ∃out:List Int,y0s a1j (c,(w:Int),(s:Int),half,c,(c.length:Int),(0:Int),([]:List Int),())=some (c,(w:Int),(s:Int),out,()):=by
 obtain⟨b,i,out,l⟩:=b1j (f:=a1j) (fun j st=>∃out:List Int,st=(c,(w:Int),(s:Int),half,c,(c.length:Int),(j:Int),out,())∧out.length=j)
  (fun b=>∃out:List Int,b=(c,(w:Int),(s:Int),out,())) c.length
  (fun j st k h=>by
   obtain⟨out,rfl,e⟩:=h;have a:decide ((s:Int)<0)=false:=decide_eq_false (by omega);have g:lim (out.length+1)=true:=a0G (by omega);cases hf:a1R (A0o .i64 (wrap .i64 (c[j]+half)) (s:Int)) (w:Int)with
   |true=>exact Or.inl ⟨_,by simp only[a1j,dlt k,cT,a0C k,oB,a,cF,a5U d,hf,bT,g,a0B (show j<1000000 by omega),a05]<;>rfl,_,rfl,by grind⟩
   |false=>exact Or.inr ⟨_,by simp only[a1j,dlt k,cT,a0C k,oB,a,cF,a5U d,hf,a16]<;>rfl,out,rfl⟩)
  (fun st h=>by
   obtain⟨out,rfl,e⟩:=h;exact⟨_,by simp_all[a1j],out,rfl⟩) c.length 0 _ (by omega) ⟨[],rfl,rfl⟩
 simp_all
theorem c1n{w:Int}(k:c.length≤32):∃b,y0s a0Z (c,w,c,(c.length:Int),(0:Int),())=some b∧(b=.inl (c,w,())∨b=.inr ((0:Int),(1:Int),([]:List Int),())):=
 b1j (f:=a0Z) (fun i s=>s=(c,w,c,(c.length:Int),(i:Int),())) (fun b=>b=.inl (c,w,())∨b=.inr ((0:Int),(1:Int),([]:List Int),())) c.length
  (fun i s g h=>by
   subst h;cases h1:decide (c[i]<(-35184372088832:Int))with
   |true=>exact Or.inr ⟨_,by simp_all[a0Z,a0C],Or.inr rfl⟩
   |false=>
    cases h2:decide (c[i] > (35184372088832:Int))with
    |true=>exact Or.inr ⟨_,by simp_all[a0Z,a0C],Or.inr rfl⟩
    |false=>exact Or.inl ⟨_,by simp only[a0Z,dlt g,cT,cF,a0C g,oB,h1,h2,a0B (show i<1000000 by omega)]<;>rfl,rfl⟩)
  (fun s h=>by
   subst h;exact⟨_,by simp_all[a0Z],Or.inl rfl⟩) c.length 0 _ (by omega) rfl
theorem c2R(y:1≤c.length)(m:c.length≤32)(B:2≤w∧w≤16):∃o sh e,a4o (c,(w:Int))=some (o,sh,e)∧(e=0→o.length=c.length):=by
 obtain⟨b,u,v⟩:=c1n (w:=(w:Int)) m;have n:decide (((c.length:Nat):Int)<1)=false:=decide_eq_false (by omega);have p:decide (((c.length:Nat):Int) > 32)=false:=decide_eq_false (by omega);have q:decide ((w:Int)<2)=false:=decide_eq_false (by omega);have t:decide ((w:Int) > 16)=false:=decide_eq_false (by omega);unfold a4o;simp[n,p,q,t,u];rcases v with rfl|rfl
 ·obtain⟨r,z,x⟩:=b1j (f:=a1t) (fun i s=>s=(c,(w:Int),(i:Int),())) (fun r=>r=.inl ()∨∃(sh:Int)(o:List Int),r=.inr (sh,(0:Int),o,())∧o.length=c.length) 15
   (fun i s A h=>by
    subst h;have a:decide ((i:Int)≤14)=true:=decide_eq_true (by omega);have d:decide ((0:Int)≤((c.length:Nat):Int))=true:=by simp
    have l1:lim c.length=true:=a0G (by omega);have g:∀half:Int,∃o:List Int,y0s a1j (c,(w:Int),(i:Int),half,c,(c.length:Int),(0:Int),([]:List Int),())=some (c,(w:Int),(i:Int),o,()):=fun half=>c1m m (by omega)
    by_cases hp:(i:Int) > 0
    ·have l:wrap .i64 ((i:Int)-1)=(i:Int)-1:=a0I (by omega);have j:decide ((i:Int)-1<0)=false:=decide_eq_false (by omega);obtain⟨o,k⟩:=g (A0n .i64 1 ((i:Int)-1));cases hc:((((o.length:Nat):Int))==((c.length:Nat):Int))with
     |true=>exact Or.inr ⟨_,by simp only[a1t,a,cT,hp,decide_true,l,j,cF,oB,d,tN,l1,a02,k,hc]<;>rfl,Or.inr ⟨_,o,rfl,by grind⟩⟩
     |false=>exact Or.inl ⟨_,by simp only[a1t,a,cT,hp,decide_true,l,j,cF,oB,d,tN,l1,a02,k,hc,a0B (show i<1000000 by omega)]<;>rfl,rfl⟩
    ·obtain⟨o,k⟩:=g 0;cases hc:((((o.length:Nat):Int))==((c.length:Nat):Int))with
     |true=>exact Or.inr ⟨_,by simp only[a1t,a,cT,hp,decide_false,cF,oB,d,tN,l1,a02,k,hc]<;>rfl,Or.inr ⟨_,o,rfl,by grind⟩⟩
     |false=>exact Or.inl ⟨_,by simp only[a1t,a,cT,hp,decide_false,cF,oB,d,tN,l1,a02,k,hc,a0B (show i<1000000 by omega)]<;>rfl,rfl⟩)
   (fun s h=>by
    subst h;have a:decide (((15:Nat):Int)≤14)=false:=by rfl
    exact⟨_,by rfl,Or.inl rfl⟩) 15 0 (c,(w:Int),(0:Int),()) (by rfl) rfl
  rcases x with rfl|⟨sh,o,rfl,k⟩;exact⟨[],0,6,by simp_all,fun h=>absurd h (by simp)⟩;exact⟨o,sh,0,by simp_all,fun _=>k⟩
 grind
theorem b7B(j:l.all a0A=true)(d:l.length≤4096)(k:1≤o)(a:o≤32)(b:2≤w∧w≤16):∃c sh e,a2n (l,(o:Int),(w:Int))=some (c,sh,e)∧(e=0→c.length=o):=by
 obtain⟨ks,g,n⟩:=b3I j d k a;obtain⟨c,e,f,p⟩:=b6e (ks:=ks) (by omega) (by omega);unfold a2n;simp[g,f]
 by_cases he:e=0
 subst he;obtain⟨s,sh,m,q,r⟩:=c2R (c:=c) (w:=w) (by omega) (by omega) b
 grind
 have i:(e != 0)=true:=by simp_all
 exact⟨[],0,e,by grind,fun h=>absurd h he⟩
theorem c2S(c:l.length<100000)(d:o≤4):∃v,a4Q (l,(o:Int))=some v:=by
 obtain⟨b,k,v,a⟩:=a6J (f:=a1J) (fun i s=>∃v:Int,s=((o:Int),v,l,(l.length:Int),(i:Int),())) (fun b=>∃v:Int,b=(v,())) l.length
  (fun i s g h=>by
   obtain⟨v,rfl⟩:=h;cases hc:decide (wrap .i64 ((i:Int)+(o:Int))≥4)with
   |true=>exact⟨_,by simp only[a1J,dlt g,cT,a0C g,oB,hc,a0B (show i<1000000 by omega)]<;>rfl,_,rfl⟩
   |false=>exact⟨_,by simp only[a1J,dlt g,cT,cF,a0C g,oB,hc,a0B (show i<1000000 by omega)]<;>rfl,_,rfl⟩)
  (fun s h=>by
   obtain⟨v,rfl⟩:=h;exact⟨_,by simp_all[a1J],v,rfl⟩) l.length 0 ((o:Int),(0:Int),l,(l.length:Int),(0:Int),()) (by omega) ⟨0,rfl⟩
 simp_all[a4Q]
theorem b6f(h:o≤4)(b:l.length<100000)(g:l.all a0A=true):∃r e,a2N (l,(o:Int))=some (r,e)∧r.length≤l.length:=by
 by_cases hn:o≤l.length
 ·rw[b0A h hn (by unfold short;omega) g];cases (a1B o l).all a0A with
  |true=>exact⟨_,_,rfl,by rw[a4j];omega⟩
  |false=>simp
 have f:decide ((o:Int)<0)=false:=decide_eq_false (by omega);have k:decide ((o:Int) > 4)=false:=decide_eq_false (by omega);have a:decide (((l.length:Nat):Int)<(o:Int))=true:=decide_eq_true (by omega);simp_all[a2N]
theorem b6g(d:l.length<100000)(j:l.all a0A=true):∃o:Nat,a3A l=some (o:Int)∧o≤4:=by
 obtain⟨b,n,o,p,q⟩:=a6J (f:=a1y) (fun i s=>∃(o:Nat)(v:Int),s=(l,(o:Int),v,(i:Int),())∧o≤4) (fun b=>∃o:Nat,b=((o:Int),())∧o≤4) 5
  (fun i s t h=>by
   obtain⟨o,v,rfl,a⟩:=h;have g:decide ((i:Int)≤4)=true:=decide_eq_true (by omega);obtain⟨r,e,k,m⟩:=b6f (o:=i) (by omega) d j;obtain⟨y,c⟩:=c2S (l:=r) (o:=i) (by omega) (by omega);cases hc:(e != 0)with
   |true=>exact⟨_,by simp only[a1y,g,cT,k,oB,hc,a0B (show i<1000000 by omega)]<;>rfl,o,v,rfl,a⟩
   |false=>
    cases h4:decide (v<0)with
    |true=>exact⟨_,by simp only[a1y,g,cT,cF,k,oB,hc,c,h4,a0B (show i<1000000 by omega)]<;>rfl,i,y,rfl,by omega⟩
    |false=>
     cases h5:decide (y<v)with
     |true=>exact⟨_,by simp only[a1y,g,cT,cF,k,oB,hc,c,h4,h5,a0B (show i<1000000 by omega)]<;>rfl,i,y,rfl,by omega⟩
     |false=>exact⟨_,by simp only[a1y,g,cT,cF,k,oB,hc,c,h4,h5,a0B (show i<1000000 by omega)]<;>rfl,o,v,rfl,a⟩)
  (fun s h=>by
   obtain⟨o,v,rfl,a⟩:=h;have g:decide (((5:Nat):Int)≤4)=false:=by rfl
   exact⟨_,by rfl,o,rfl,a⟩) 5 0 (l,(0:Int),(-1:Int),(0:Int),()) (by rfl) ⟨0,-1,rfl,by omega⟩
 grind[a3A]
def a4g(g:List Int→Int):List Int→List Int→List Int
 | [],_=>[]
 |x::r,done=>W (x-g done)::a4g g r (done++[x])
theorem a7j(g:List Int→Int):∀r done,(a4g g r done).length=r.length
 | [],_=>rfl
 |x::r,done=>by simp[a4g,a7j g r]
theorem c3L{x g:Int}(h:a0A x=true):W (W (x-g)+g)=x:=by
 have:=b1y h
 simp_all[a5X]
theorem b2M(g:List Int→Int):∀(r done:List Int),r.all a0A=true→a3a g (a4g g r done) done=some (done++r)
 | [],done,_=>by simp[a4g,a3a]
 |x::r,done,h=>by
  rw[a26,bA]at h;simp only[a4g,a3a,c3L h.1,h.1,cT,b2M g r (done++[x]) h.2,aA,a58]
def a8d(g:List Int→Int)(r done:List Int):Option (List Int):=bif (a4g g r done).all a0A then some (a4g g r done)else none
def b1G{β:Type}(g:List Int→Int)(bad:β)(a:List Int×List Int)(x:Int):(List Int×List Int) ⊕ β:=
 bif a0A (W (x-g a.1))then .inl (a.1++[x],a.2++[W (x-g a.1)])else .inr bad
theorem b2N{β:Type}(g:List Int→Int)(f:β)(k:List Int×List Int→β):∀(r done acc:List Int),
  a8L k (a2q (b1G g f) r (done,acc))=match a8d g r done with|some e=>k (done++r,acc++e)|none=>f
 | [],done,acc=>by grind[a2q,a8L,a8d,a4g]
 |x::r,done,acc=>by
  simp[a2q,b1G];cases h:a0A (W (x-g done))with
  |true=>
   simp
   rw[b2N g f k r];simp only[a8d,a4g,a26,h,a21]
   grind
  |false=>simp_all[a8L,a8d,a4g]
def b3Y(g:List Int→Int)(a:List Int×List Int)(x:Int):(List Int×List Int) ⊕ (List Int×Unit):=.inl (a.1++[x],a.2++[W (x-g a.1)])
theorem b2O(g:List Int→Int)(h:List Int×List Int→List Int×Unit):∀(r done acc:List Int),
  a8L h (a2q (b3Y g) r (done,acc))=h (done++r,acc++a4g g r done)
 | [],done,acc=>by grind[a2q,a8L,a4g]
 |x::r,done,acc=>by
  simp only[a2q,b3Y];rw[b2O g h r];simp[a4g]
theorem b6h{g:List Int→Int}{done e:List Int}(h:a8d g r done=some e):e=a4g g r done∧e.all a0A=true:=by
 unfold a8d at h
 grind
theorem a8o{l:List Int}{i:Nat}(h:i<l.length):l.take i++[l[i]]=l.take (i+1):=by simp
theorem a9n{l:List Int}{p:Int→Bool}(h:l.all p=true)(i:Nat):(l.take i).all p=true:=by
 grind
theorem b5f{p:Int→Bool}(h:l.all p=true)(i:Nat):(l.drop i).all p=true:=by
 grind
theorem b1H{σ β:Type}{f:σ→Option (σ ⊕ β)}(l:List Int)(k:Nat)(r:k≤l.length)(S:Nat→List Int→σ)(g:List Int×List Int→Int→(List Int×List Int) ⊕ β)(d:List Int→β)
  (j:∀i (h:i<l.length) c,k≤i→c.length=i-k→(∀a',g (l.take i,c) l[i]=.inl a'→f (S i c)=some (.inl (S (i+1) a'.2))∧a'.1=l.take (i+1)∧a'.2.length=i+1-k)∧(∀b,g (l.take i,c) l[i]=.inr b→f (S i c)=some (.inr b)))
  (e:∀c,c.length=l.length-k→f (S l.length c)=some (.inr (d c))):y0s f (S k [])=some (a8L (fun a=>d a.2) (a2q g (l.drop k) (l.take k,[]))):=by
 have h:=a1U (f:=f) (l.drop k) (fun i a=>S (k+i) a.2) g (fun i a=>a.1=l.take (k+i)∧a.2.length=i) (fun a=>d a.2)
  (fun i p a n=>by
   obtain⟨a1,c⟩:=a;obtain⟨m,o⟩:=n;simp only at m o;subst m;rw[a37]at p;have q:k+i<l.length:=by omega
   grind)
  (fun a n=>by
   simp_all) (a:=(l.take k,[])) ⟨by simp,rfl⟩
 omega
def a9K(l c:List Int)(s:Int):Option (List Int):=bif l.all a0A then a8d (a5z c s) (l.drop c.length) (l.take c.length)else none
theorem b2q{s:Int}(x:a5R c s=true)(v:c.length≤l.length)(A:l.length<100000):
  a6u (l,c,s)=some (a1V (a9K l c s)):=by
 have o:short l:=by unfold short;omega
 have k:short c:=by unfold short;omega
 have j:0≤s:=by simp_all[a5R]
 have q:decide (((l.length:Nat):Int)<((c.length:Nat):Int))=false:=by simp_all
 unfold a6u a9K;simp only[a8b k,x,oB,bT,cF,q,a4c o];cases hw:l.all a0A with
 |false=>rfl
 |true=>
  have r:wrap .i64 (((l.length:Nat):Int)-((c.length:Nat):Int))=((l.length-c.length:Nat):Int):=by grind[a0I]
  have z:decide ((0:Int)≤((l.length-c.length:Nat):Int))=true:=by simp
  have t:lim (l.length-c.length)=true:=a0G (by omega);simp[r,t]
  have:=b1H (f:=a4w) l c.length v (fun i h=>(l,c,s,(i:Int),h,())) (b1G (a5z c s) (.inr ((6:Int),([]:List Int),()))) (fun h=>.inl (h,()))
   (fun i a h w d=>by
    have p:short (l.take i):=by unfold short;grind
    have m:decide ((0:Int)≤(i:Int))=true:=by simp
    have n:decide ((i:Int)≤((l.length:Nat):Int))=true:=by grind
    have u:lim (h.length+1)=true:=a0G (by omega);constructor
    ·intro y g;unfold b1G at g;cases hq:a0A (W (l[i]-a5z c s (l.take i)))with
     |false=>simp_all
     |true=>
      simp only[hq,cT,Sum.inl.injEq]at g;subst g;refine⟨?_,a8o a,by grind⟩;simp only[a4w,dlt a,cT,a0C a,oB,m,n,a02,tN,b2B p k j,a5Q,hq,bT,cF,u,a0B (a06 a o),a05]
    ·intro b e;unfold b1G at e;cases hq:a0A (W (l[i]-a5z c s (l.take i)))with
     |true=>simp_all
     |false=>
      simp[hq]at e;subst e;simp only[a4w,dlt a,cT,a0C a,oB,m,n,a02,tN,b2B p k j,a5Q,hq,a16])
   (fun h d=>by simp[a4w])
  rw[this,b2N];cases a8d (a5z c s) (l.drop c.length) (l.take c.length)<;>rfl
theorem b0E{s:Int}(j:a5R c s=true)(t:c.length≤l.length)(x:l.length<100000):
  a6e (l,c,s)=some (a1V (a9K l c s)):=by
 have m:short l:=by unfold short;omega
 have a:short c:=by unfold short;omega
 have n:decide (((l.length:Nat):Int)<((c.length:Nat):Int))=false:=by simp_all
 unfold a6e a9K;simp only[a4E a,j,oB,bT,cF,n,a0N m];cases hw:l.all a0A with
 |false=>rfl
 |true=>
  simp only[bT,cF,cT]
  have:=b1H (f:=a4J) l c.length t (fun i h=>(l,c,s,(i:Int),h,())) (b3Y (a5z c s)) (fun h=>(h,()))
   (fun i d h u k=>by
    have v:short (l.take i):=by unfold short;grind
    have o:decide ((0:Int)≤(i:Int))=true:=by simp
    have p:decide ((i:Int)≤((l.length:Nat):Int))=true:=by grind
    have q:lim (h.length+1)=true:=a0G (by omega);refine⟨fun w g=>?_,fun b r=>by cases r⟩;simp only[b3Y,Sum.inl.injEq]at g;subst g;refine⟨?_,a8o d,by grind⟩;simp only[a4J,dlt d,cT,a0C d,oB,o,p,a02,tN,a9Q v a (a9n hw i) j,q,a0B (a06 d m),a05])
   (fun h k=>by simp[a4J])
  rw[this,b2O];have e:short (a4g (a5z c s) (l.drop c.length) (l.take c.length)):=by unfold short;grind[a7j]
  simp only[oB,a17,a0N e,a8d];cases (a4g (a5z c s) (l.drop c.length) (l.take c.length)).all a0A<;>rfl
theorem b2P{s:Int}(h:a9K l c s=some r):a8O (l.take c.length) r c s=some l∧r.all a0A=true∧r.length=l.length-c.length:=by
 unfold a9K at h;cases hw:l.all a0A with
 |false=>simp_all
 |true=>
  simp[hw]at h;obtain⟨e,g⟩:=b6h h;refine⟨?_,g,by simp_all[a7j]⟩;simp[a8O,a9n hw,g]
  grind[b2M,List.take_append_drop]
def a8W(l:List Int)(lag:Int)(t:List Int):Option (List Int):=bif l.all a0A then a8d (a3N lag t) l []else none
theorem b9G(q:a6i lag t=true)(d:t.length=3)(u:l.length<100000):
  a6F (l,lag,t)=some (a1V (a8W l lag t)):=by
 have c:short l:=by unfold short;omega
 obtain⟨j,m⟩:2≤lag∧lag≤1024:=by simp_all[a6i]
 unfold a6F a8W;simp only[b1V d,q,oB,bT,cF,b1x c];cases hw:l.all a0A with
 |false=>rfl
 |true=>
  have s:decide ((0:Int)≤((l.length:Nat):Int))=true:=by simp
  have e:lim l.length=true:=a0G (by omega);simp[e]
  have:=b1H (f:=a5L) l 0 (Nat.zero_le _) (fun i h=>(l,lag,l,(l.length:Int),(i:Int),h,t,())) (b1G (a3N lag t) (.inr ((6:Int),([]:List Int),()))) (fun h=>.inl (h,()))
   (fun i a h p k=>by
    have n:lim (h.length+1)=true:=a0G (by omega);have hp:=b1z (lag:=lag) (t:=t) (a53 a) c d j m;constructor
    ·intro r g;unfold b1G at g;cases hq:a0A (W (l[i]-a3N lag t (l.take i)))with
     |false=>simp_all
     |true=>
      simp only[hq,cT,Sum.inl.injEq]at g;subst g;refine⟨?_,a8o a,by simp_all⟩;simp only[a5L,dlt a,cT,a0C a,oB,hp,a7d,hq,bT,cF,n,a0B (a06 a c),a05]
    ·intro b o;unfold b1G at o;cases hq:a0A (W (l[i]-a3N lag t (l.take i)))with
     |true=>simp_all
     |false=>
      simp_all[a5L,a0C,a7d])
   (fun h k=>by simp[a5L])
  simp only[nZ]at this;rw[this,b2N,a08,a78];cases a8d (a3N lag t) l []<;>rfl
theorem b6i(u:a6i lag t=true)(j:t.length=3)(w:l.length<100000):
  a4q (l,lag,t)=some (a1V (a8W l lag t)):=by
 have e:short l:=by unfold short;omega
 obtain⟨m,n⟩:2≤lag∧lag≤1024:=by simp_all[a6i]
 unfold a4q a8W;simp only[a9h j,u,oB,bT,cF,a0N e];cases hw:l.all a0A with
 |false=>rfl
 |true=>
  simp only[bT,cF,cT]
  have:=b1H (f:=a5F) l 0 (Nat.zero_le _) (fun i h=>(l,lag,(i:Int),h,t,())) (b3Y (a3N lag t)) (fun h=>(h,()))
   (fun i a h s k=>by
    have d:short (l.take i):=by unfold short;grind
    have hp:=b1b (out:=l.take i) (lag:=lag) (t:=t) d j m n;have p:decide ((0:Int)≤(i:Int))=true:=by simp
    have q:decide ((i:Int)≤((l.length:Nat):Int))=true:=by grind
    have o:lim (h.length+1)=true:=a0G (by omega);refine⟨fun v g=>?_,fun b r=>by cases r⟩;simp only[b3Y,Sum.inl.injEq]at g;subst g;refine⟨?_,a8o a,by simp_all⟩;simp only[a5F,dlt a,cT,a0C a,oB,p,q,a02,tN,hp,o,a0B (a06 a e),a05])
   (fun h k=>by simp[a5F])
  simp only[nZ]at this;rw[this,b2O,a08,a78];have c:short (a4g (a3N lag t) l []):=by unfold short;rw[a7j];omega
  simp only[oB,a17,a0N c,a8d];cases (a4g (a3N lag t) l []).all a0A<;>rfl
theorem b1I(h:a8W l lag t=some r):a9E r lag t=some l∧r.all a0A=true∧r.length=l.length:=by
 unfold a8W at h;cases hw:l.all a0A with
 |false=>simp_all
 |true=>
  simp[hw]at h;obtain⟨e,g⟩:=b6h h;refine⟨?_,g,by rw[e,a7j]⟩;simp[a9E,g];simp_all[b2M]
def rsG:List Int→Fil→List Int
 | [],_=>[]
 |x::r,f=>W (x-a0S f)::rsG r (a7y f x)
theorem b0Q:∀r f,(rsG r f).length=r.length
 | [],_=>rfl
 |x::r,f=>by simp[rsG,b0Q r]
def rsO:List Int→List Int→Fil→Option (List Int)
 | [],done,_=>some done
 |x::r,done,f=>bif a0A (W (x-a0S f))then rsO r (done++[W (x-a0S f)]) (a7y f x)else none
theorem b9H:∀(r done:List Int)(f:Fil),rsO r done f=bif (rsG r f).all a0A then some (done++rsG r f)else none
 | [],done,f=>by simp[rsO,rsG]
 |x::r,done,f=>by
  simp[rsO,rsG];cases a0A (W (x-a0S f))with
  |false=>rfl
  |true=>simp_all[b9H]
theorem c1D:∀(r z:List Int)(f:Fil),r.all a0A=true→stO (rsG r f) z f=some (z++r)
 | [],z,f,_=>by simp[rsG,stO]
 |x::r,z,f,h=>by
  rw[a26,bA]at h;have e:W (a0S f+W (x-a0S f))=x:=by grind[c3L]
  simp only[rsG,stO,e,h.1,cT,c1D r _ _ h.2,aA,a58]
theorem b1J{row:List Int}{a:List Stg}{b c:Int}(l:short row):∀(k i:Nat)(done:List Int)(f:Fil),i+k=row.length→done.length=i→FilOk f→
  y0s a5b (a,b,c,(row.length:Int),(i:Int),done++row.drop i,f,())=some (match rsO (row.drop i) done f with
   |some r=>.inl (a,b,c,r,())
   |none=>.inr ((6:Int),([]:List Int),()))
 |0,i,done,f,h,hd,hf=>by
  obtain rfl:i=row.length:=by omega
  rw[a31,a44];exact a0D (b:=Sum.inl (a,b,c,done,())) (by simp[a5b])
 |k+1,i,done,f,h,hd,hf=>by
  have g:i<row.length:=by omega
  have m:row.length<1000000:=l;have e:decide ((0:Int)≤(i:Int))=true:=by simp
  have n:(done++row.drop i).length=row.length:=by grind
  have j:decide ((i:Int)<(((done++row.drop i).length:Nat):Int))=true:=by simp_all
  have d:rsO (row.drop i) done f=bif a0A (W (row[i]-a0S f))then rsO (row.drop (i+1)) (done++[W (row[i]-a0S f)]) (a7y f row[i])else none:=by
   rw[a00 g];rfl
  rw[d];cases hw:a0A (W (row[i]-a0S f))with
  |true=>
   rw[a0H (s':=(a,b,c,(row.length:Int),((i+1:Nat):Int),(done++[W (row[i]-a0S f)])++row.drop (i+1),a7y f row[i],())) (by
    simp only[a5b,dlt g,e,j,cT,a02,a5S hf,oB,tN,a8n hd g,a4U,hw,bT,cF,b2Z hf,b2E hd g,a0B (show i<1000000 by omega)])]
   exact b1J l k (i+1) _ _ (by omega) (by simp_all) (b2D hf _)
  |false=>
   exact a0D (by
    simp only[a5b,dlt g,e,j,cT,a02,a5S hf,oB,tN,a8n hd g,a4U,hw,a16];rfl)
theorem b3f{row:List Int}{a:List Stg}{b:Int}(c:short row):∀(k i:Nat)(done:List Int)(f:Fil),i+k=row.length→done.length=i→FilOk f→
  y0s a5l (a,b,(i:Int),done++row.drop i,f,())=some (a,b,done++rsG (row.drop i) f,())
 |0,i,done,f,h,hd,hf=>by
  obtain rfl:i=row.length:=by omega
  simp_all[a0D,a5l,rsG]
 |k+1,i,done,f,h,hd,hf=>by
  have g:i<row.length:=by omega
  have j:row.length<1000000:=c;have d:decide ((0:Int)≤(i:Int))=true:=by simp
  have l:(done++row.drop i).length=row.length:=by grind
  have e:decide ((i:Int)<(((done++row.drop i).length:Nat):Int))=true:=by simp_all
  rw[a0H (s':=(a,b,((i+1:Nat):Int),(done++[W (row[i]-a0S f)])++row.drop (i+1),a7y f row[i],())) (by
    simp only[a5l,d,e,cT,a02,a8P hf,oB,tN,a8n hd g,b4x hf,b2E hd g,a0B (show i<1000000 by omega)]),
   b3f c k (i+1) _ _ (by omega) (by simp_all) (b2D hf _),a00 g]
  simp_all[rsG]
def lRO:List Stg→List Int→Option (List Int)
 | [],row=>some row
 |s::r,row=>match rsO row [] (a5T s)with
  |some row'=>lRO r row'
  |none=>none
theorem b9I(h:rsO row [] f=some d):d=rsG row f∧d.all a0A=true:=by
 rw[b9H]at h
 grind
theorem b7C:∀(a b:List Stg)(row:List Int),lO (a++b) row=match lO a row with|some r=>lO b r|none=>none
 | [],b,row=>rfl
 |s::a,b,row=>by
  simp only[a70,lO];split;exact b7C a b _;rfl
theorem b9J:∀(st:List Stg)(row d:List Int),row.all a0A=true→lRO st row=some d→lO st.reverse d=some row∧d.all a0A=true∧d.length=row.length
 | [],row,d,hw,h=>by
  simp[lRO]at h;subst h;exact⟨rfl,hw,rfl⟩
 |s::st,row,d,hw,h=>by
  simp only[lRO]at h
  split at h
  rename_i g c;obtain⟨e,f⟩:=b9I c;obtain⟨k,a,b⟩:=b9J st g d f h;refine⟨?_,a,by rw[b,e,b0Q]⟩;rw[List.reverse_cons,b7C,k];simp only[lO];rw[e,c1D row [] _ hw,a17];cases h
theorem b0F{st:List Stg}(f:∀s∈st,a2Z s=true)(l:st.length≤3):∀(j k:Nat)(row:List Int),k+j=st.length→short row→
  y0s a5c (st,(st.length:Int),(k:Int),row,())=some (match lRO (st.drop k) row with
   |some r=>.inl (r,())
   |none=>.inr ((6:Int),([]:List Int),()))
 |0,k,row,h,hs=>by
  obtain rfl:k=st.length:=by omega
  simp_all[a0D,a5c,lRO]
 |j+1,k,row,h,hs=>by
  have d:k<st.length:=by omega
  have g:=f _ (a04 d);have e:=b1J (a:=st) (b:=(st.length:Int)) (c:=(k:Int)) hs row.length 0 [] (a5T st[k]) (by omega) rfl (b3W g);simp at e;have i:((0:Int) != 0)=false:=rfl;rw[a00 d];simp[lRO];cases hr:rsO row [] (a5T st[k])with
  |some r=>
   rw[hr]at e;rw[a0H (s':=(st,(st.length:Int),((k+1:Nat):Int),r,())) (by simp only[a5c,dlt d,cT,a0C d,oB,b1d g,i,cF,e,a0B (show k<1000000 by omega)])];exact b0F f l j (k+1) r (by omega) (by have:=(b9I hr).1;unfold short at hs⊢;simp_all[b0Q])
  |none=>
   simp_all[a0D,a5c,a0C,b1d]
theorem b1K{st:List Stg}(d:∀s∈st,a2Z s=true)(i:st.length≤3):∀(j k:Nat)(row:List Int),k+j=st.length→short row→
  y0s a3F (st,(k:Int),row,())=some (match lRO (st.drop k) row with
   |some r=>.inl (r,())
   |none=>.inr ((6:Int),([]:List Int),()))
 |0,k,row,h,hs=>by
  obtain rfl:k=st.length:=by omega
  simp_all[a0D,a3F,lRO]
 |j+1,k,row,h,hs=>by
  have c:k<st.length:=by omega
  have g:=d _ (a04 c);have e:=b3f (a:=st) (b:=(k:Int)) hs row.length 0 [] (a5T st[k]) (by omega) rfl (b3W g);simp at e;have f:short (rsG row (a5T st[k])):=by unfold short;rw[b0Q];exact hs
  rw[a00 c];simp[lRO,b9H];cases hr:(rsG row (a5T st[k])).all a0A with
  |true=>
   rw[a0H (s':=(st,((k+1:Nat):Int),rsG row (a5T st[k]),())) (by simp only[a3F,dlt c,cT,a0C c,oB,a6k g,e,a0N f,hr,bT,cF,a0B (show k<1000000 by omega)])];exact b1K d i j (k+1) _ (by omega) f
  |false=>
   exact a0D (by simp only[a3F,dlt c,cT,a0C c,oB,a6k g,e,a0N f,hr,a16];rfl)
def a7A(l:List Int)(st:List Stg):Option (List Int):=bif l.all a0A then lRO st l else none
theorem b8u(k:a4F st=true)(a:l.length<100000):a8r (l,st)=some (a1V (a7A l st)):=by
 have h:=k;simp only[a4F,bA,dT]at h;have f:short st:=by unfold short;omega
 have g:short l:=by unfold short;omega
 unfold a8r a7A;simp only[b1a f,k,oB,bT,cF,b0Z g];cases hw:l.all a0A with
 |false=>rfl
 |true=>
  have:=b0F (lA.1 h.2) h.1 st.length 0 l (by omega) g
  simp at this;simp[a7f g,this];cases lRO st l<;>rfl
theorem b5g(a:a4F st=true)(b:l.length<100000):a6S (l,st)=some (a1V (a7A l st)):=by
 have h:=a;simp only[a4F,bA,dT]at h;have k:short st:=by unfold short;omega
 have g:short l:=by unfold short;omega
 have f:lim (0+l.length)=true:=a0G (by omega);unfold a6S a7A;simp only[a8N k,a,oB,bT,cF,a0N g];cases hw:l.all a0A with
 |false=>rfl
 |true=>
  have:=b1K (lA.1 h.2) h.1 st.length 0 l (by omega) g
  simp at this;simp only[bT,cF,cT,f,oB,a05,a17,this];cases lRO st l<;>rfl
theorem b6j(h:a7A l st=some r):a7S r st=some l∧r.all a0A=true∧r.length=l.length:=by
 unfold a7A at h;cases hw:l.all a0A with
 |false=>simp_all
 |true=>
  simp[hw]at h;obtain⟨f,g,k⟩:=b9J st l r hw h;exact⟨by simp only[a7S,g,cT,f],g,k⟩
theorem p64{w:Nat}(h:w≤64):((2^w:Nat):Int) ∣ 18446744073709551616:=a25.2 (a56 2 h)
theorem c6p(n:Int):∃q,wrap .i64 n=n+18446744073709551616*q:=by
 rw[a5X,Int.bmod];split;exact⟨-(n / 18446744073709551616),by omega⟩;exact⟨-(n / 18446744073709551616)-1,by omega⟩
theorem c4p(h:w≤64)(n:Int):((2^w:Nat):Int) ∣ wrap .i64 n↔((2^w:Nat):Int) ∣ n:=by
 obtain⟨q,g⟩:=c6p n;rw[g]
 grind[a50,a40,p64]
theorem b7D(h:w≤64)(a:Int):2^w ∣ (a07 64 a).toNat↔((2^w:Nat):Int) ∣ a:=by
 have e:(((a07 64 a).toNat:Nat):Int)=a+18446744073709551616*-(a / 18446744073709551616):=by
  rw[BitVec.toNat_ofInt];omega
 rw[←a25,e]
 grind[a50,a40,p64]
theorem c2T(w x y:Nat):2^w ∣ (x ||| y)↔2^w ∣ x∧2^w ∣ y:=by
 simp_all[Nat.dvd_iff_mod_eq_zero,Nat.or_mod_two_pow]
theorem c6q(h:w≤64)(a b:Int):((2^w:Nat):Int) ∣ bits .i64 .or a b↔((2^w:Nat):Int) ∣ a∧((2^w:Nat):Int) ∣ b:=by
 show((2^w:Nat):Int) ∣ wrap .i64 ((((a07 64 a) ||| (a07 64 b)).toNat:Nat):Int)↔_;rw[c4p h,a25,BitVec.toNat_or,c2T,b7D h,b7D h]
def orI(l:List Int)(a:Int):Int:=l.foldl (fun a x=>bits .i64 .or a x) a
theorem b0S{w:Nat}(h:w≤64):∀(l:List Int)(a:Int),((2^w:Nat):Int) ∣ orI l a↔((2^w:Nat):Int) ∣ a∧∀x∈l,((2^w:Nat):Int) ∣ x
 | [],a=>by simp[orI]
 |x::l,a=>by
  show((2^w:Nat):Int) ∣ orI l (bits .i64 .or a x)↔_;rw[b0S h l,c6q h];simp_all[and_assoc]
theorem b5h:∀(l:List Int),(∀x∈l,x=0)→orI l 0=0
 | [],_=>rfl
 |x::l,h=>by
  have g:=h x (List.mem_cons_self);subst g;show orI l (bits .i64 .or 0 0)=0;rw[show bits .i64 .or 0 0=0 from by rfl];simp_all[b5h]
theorem c3M(k:l.all a0A=true)(h:∃x∈l,x≠0):orI l 0≠0:=by
 intro e;obtain⟨x,g,f⟩:=h;have b:=((b0S (w:=62) (by omega) l 0).1 (by omega)).2 x g;have a:=a2D.1 (lA.1 k x g);omega
def a6K(l:List Int)(w:Nat):Prop:=
 ((∀x∈l,x=0)∧w=0)∨((∃x∈l,x≠0)∧w≤30∧(∀x∈l,((2^w:Nat):Int) ∣ x)∧(w=30∨∃x∈l,¬ ((2^(w+1):Nat):Int) ∣ x))
theorem c2U{v w:Nat}(h:v≤w){x:Int}(g:((2^w:Nat):Int) ∣ x):((2^v:Nat):Int) ∣ x:=
 Int.dvd_trans (a25.2 (a56 2 h)) g
theorem a6K.unique{v:Nat}(hv:a6K l v)(g:a6K l w):v=w:=by
 have d:∀{v w:Nat},v≤30→w≤30→(∀x∈l,((2^w:Nat):Int) ∣ x)→(v=30∨∃x∈l,¬ ((2^(v+1):Nat):Int) ∣ x)→w≤v:=by
  grind[c2U]
 rcases hv with⟨f,hv⟩|⟨⟨x,c,h⟩,hv1,hv2,hv3⟩
 ·rcases g with⟨-,g⟩|⟨⟨x,c,h⟩,-⟩
  all_goals grind
 ·rcases g with⟨f,-⟩|⟨-,k,a,b⟩
  all_goals grind
theorem b9K:∀(n N:Nat),N≤n→0<N→∃k m,N=2^k*(2*m+1)
 |0,N,h,h0=>absurd h0 (by omega)
 |n+1,N,h,h0=>by
  by_cases he:N%2=0
  obtain⟨k,m,e⟩:=b9K n (N / 2) (by omega) (by omega);refine⟨k+1,m,?_⟩;rw[Nat.pow_succ,a66 (2^k) 2,Nat.mul_assoc,←e];omega;exact⟨0,N / 2,by omega⟩
theorem c5O{k:Nat}(h:2^k*(2*m+1)<2^64):(2^k*(2*m+1)) &&& (2^64-2^k*(2*m+1))=2^k:=by
 have hp:1≤2^k:=a63;have n:k<64:=by
  refine a74 fun g=>?_
  have d:2^64≤2^k:=a30 (by simp) g
  grind
 have e:2^k*(2*m+1)=(2^k*(2*m)+(2^k-1))+1:=by grind
 have l:2^k*(2*m)+(2^k-1)<2^64:=by omega
 refine Nat.eq_of_testBit_eq fun i=>?_
 have a:(2^64-2^k*(2*m+1)).testBit i=(decide (i<64)&&!(2^k*(2*m)+(2^k-1)).testBit i):=by
  rw[e];exact Nat.testBit_two_pow_sub_succ l i
 have f:=a46 (2*m+1) (b:=0) (i:=k) (by omega) i;rw[a67]at f;have c:=a46 (2*m) (b:=2^k-1) (i:=k) (by omega) i;rw[Nat.testBit_and,a,f,c,Nat.testBit_two_pow]
 by_cases d:i<k
 grind
 by_cases h2:k=i
 simp_all;obtain⟨j,rfl⟩:∃j,i=k+(j+1):=⟨i-k-1,by omega⟩;have o:k+(j+1)-k=j+1:=by omega
 have p:(2*m+1) / 2=m:=by omega
 simp_all[Nat.testBit_succ]
theorem c4q:∀k:Nat,k<64→a9u[(2^k*285870213051353865)%18446744073709551616 / 288230376151711744]?=some (k:Int):=by
 have h:∀k:Fin 64,a9u[(2^k.val*285870213051353865)%18446744073709551616 / 288230376151711744]?=some (k.val:Int):=by decide
 exact fun k g=>h ⟨k,g⟩
theorem c1o{k:Nat}:¬ 2^(k+1) ∣ 2^k*(2*m+1):=by
 rintro⟨c,h⟩
 rw[Nat.pow_succ,Nat.mul_assoc]at h
 grind[Nat.eq_of_mul_eq_mul_left]
theorem c4s(d:0<N)(h:N<18446744073709551616):∃k:Nat,a1H (N:Int)=some (k:Int)∧2^k ∣ N∧¬ 2^(k+1) ∣ N:=by
 obtain⟨k,m,e⟩:=b9K N N (a34 _) d;have p:2^k≤N:=by grind
 have j:k<64:=by
  refine a74 fun g=>?_
  have n:2^64≤2^k:=a30 (by simp) g;omega
 refine⟨k,?_,⟨_,e⟩,e▸c1o⟩;have i:bits .u64 .and (N:Int) (wrap .u64 (0-(N:Int)))=((2^k:Nat):Int):=by
  have b:wrap .u64 (0-(N:Int))=((18446744073709551616-N:Nat):Int):=by
   grind[wrap,IntKind.bits,IntKind.signed]
  rw[b];show wrap .u64 (((a07 64 (N:Int)) &&& (a07 64 ((18446744073709551616-N:Nat):Int))).toNat:Int)=_;rw[a29,a29,a73,a33,a33,a36 h,a36 (by omega)]
  have:=c5O (k:=k) (m:=m) (by omega)
  rw[←e]at this;rw[show(18446744073709551616:Nat)=2^64 from rfl,this];exact a1c (by omega)
 have l:((N:Int)==0)=false:=by grind
 unfold a1H;rw[i,l,cF];have f:wrap .u64 (((2^k:Nat):Int)*285870213051353865)=(((2^k*285870213051353865)%18446744073709551616:Nat):Int):=by
  rfl
 have a:=c4q k j;generalize (2^k*285870213051353865)%18446744073709551616=M at f a;have c:=a5Y (N:=M) (o:=58) (by omega);rw[f,show(58:Int)=((58:Nat):Int)from rfl,c,show 2^58=288230376151711744 from rfl];generalize M / 288230376151711744=J at a
 grind[a0C,a0I]
theorem c6r(y:Int):bits .i64 .and y 1=y%2:=by
 have h:((a07 64 y) &&& (a07 64 1)).toNat=(y%18446744073709551616).toNat%2:=by
  simp
 show wrap .i64 ((((a07 64 y) &&& (a07 64 1)).toNat:Nat):Int)=_
 grind[a0I]
theorem b9L{n:Nat}(g:n≤62)(c:Int):A0o .i64 (((2^n:Nat):Int)*c) (n:Int)=c:=by
 have hp:0<2^n:=a45 n;have e:min (a38 (n:Int)) (IntKind.bits .i64)=n:=by grind[IntKind.bits]
 have h:((2^n:Nat):Int)=2^n:=by simp
 unfold A0o
 grind[a49]
theorem b1L{a:Int}(p:a≠0):∀(k n:Nat),n+k=30→((2^n:Nat):Int) ∣ a→
  ∃r:Nat,y0s a4p (a,(n:Int),())=some ((r:Int),())∧r≤30∧((2^r:Nat):Int) ∣ a∧(r=30∨¬ ((2^(r+1):Nat):Int) ∣ a)
 |0,n,h,hd=>by
  obtain rfl:n=30:=by omega
  exact⟨30,a0D (by grind[a4p]),by omega,hd,.inl rfl⟩
 |k+1,n,h,hd=>by
  have f:(a != 0)=true:=by grind
  have b:decide ((n:Int)<30)=true:=by grind
  have e:wrap .u64 (n:Int)=(n:Int):=a1c (by omega);have d:decide ((n:Int)<0)=false:=by simp
  have j:wrap .i64 ((n:Int)+1)=((n+1:Nat):Int):=a0B (by omega);obtain⟨c,l⟩:=hd;have m:A0o .i64 a (n:Int)=c:=by grind[b9L]
  have g:((2^(n+1):Nat):Int) ∣ a↔c%2=0:=by
   have o:((2^(n+1):Nat):Int)=((2^n:Nat):Int)*2:=by rfl
   rw[o,l]
   grind[Int.mul_dvd_mul_iff_left]
  by_cases h2:c%2=0
  have i:(bits .i64 .and c 1==0)=true:=by rw[c6r,h2];rfl
  obtain⟨r,t,q⟩:=b1L p k (n+1) (by omega) (g.2 h2);refine⟨r,?_,q⟩;rw[a0H (s':=(a,((n+1:Nat):Int),())) (by simp only[a4p,f,cT,b,e,d,cF,m,i,j])];omega;have i:(bits .i64 .and c 1==0)=false:=by simp_all[c6r]
  exact⟨n,a0D (by simp only[a4p,f,cT,b,e,d,cF,m,i]),by omega,⟨c,l⟩,.inr fun s=>h2 (g.1 s)⟩
theorem c1E{l:List Int}(f:short l):∀(k i:Nat)(a:Int),i+k=l.length→y0s a4W (a,l,(l.length:Int),(i:Int),())=some (orI (l.drop i) a,())
 |0,i,a,h=>by
  obtain rfl:i=l.length:=by omega
  simp_all[a0D,a4W,orI]
 |k+1,i,a,h=>by
  have g:i<l.length:=by omega
  have b:l.length<1000000:=f;rw[a00 g,a0H (s':=(bits .i64 .or a l[i],l,(l.length:Int),((i+1:Nat):Int),())) (by
   simp only[a4W,dlt g,cT,a0C g,oB,a0B (show i<1000000 by omega)])]
  exact c1E f k (i+1) _ (by omega)
theorem b4D{l:List Int}(f:short l):∀(k i:Nat)(a:Int),i+k=l.length→y0s a7s (l,a,(i:Int),())=some (orI (l.drop i) a,())
 |0,i,a,h=>by
  obtain rfl:i=l.length:=by omega
  simp_all[a0D,a7s,orI]
 |k+1,i,a,h=>by
  have g:i<l.length:=by omega
  have b:l.length<1000000:=f;rw[a00 g,a0H (s':=(l,bits .i64 .or a l[i],((i+1:Nat):Int),())) (by
   simp only[a7s,dlt g,cT,a0C g,oB,a0B (show i<1000000 by omega)])]
  exact b4D f k (i+1) _ (by omega)
theorem b4E{l:List Int}{r:Nat}(g:r≤30)(h:r=30∨¬ ((2^(r+1):Nat):Int) ∣ orI l 0):r=30∨∃x∈l,¬ ((2^(r+1):Nat):Int) ∣ x:=by
 grind[b0S,Int.dvd_zero]
theorem b8v{l:List Int}(i:short l)(j:l.all a0A=true):∃w:Nat,a5y l=some (w:Int)∧w≤30∧a6K l w:=by
 have f:=b4D i l.length 0 0 (by omega);simp at f;unfold a5y;simp[f]
 by_cases hz:∀x∈l,x=0
 have e:=b5h l hz;exact⟨0,by simp_all[a0D,a4p],by omega,.inl ⟨hz,rfl⟩⟩;have h:∃x∈l,x≠0:=Classical.byContradiction fun c=>hz fun x h=>Classical.byContradiction fun d=>c ⟨x,h,d⟩;obtain⟨r,k,g,a,b⟩:=b1L (c3M j h) 30 0 (by rfl) (by simp);rw[nZ]at k;exact⟨r,by simp_all,g,.inr ⟨h,g,((b0S (by omega) l 0).1 a).2,b4E g b⟩⟩
theorem b5i{l:List Int}(y:short l)(j:l.all a0A=true):∃w:Nat,a3J l=some (w:Int)∧w≤30∧a6K l w:=by
 have a:=c1E y l.length 0 0 (by omega);simp at a;unfold a3J;simp[a]
 by_cases hz:∀x∈l,x=0
 have e:=b5h l hz;exact⟨0,by simp_all,by omega,.inl ⟨hz,rfl⟩⟩
 ·have g:∃x∈l,x≠0:=Classical.byContradiction fun m=>hz fun x g=>Classical.byContradiction fun s=>m ⟨x,g,s⟩;have t:=c3M j g;have n:(orI l 0==0)=false:=by simp_all
  obtain⟨q,u⟩:∃q,wrap .u64 (orI l 0)=orI l 0+18446744073709551616*q:=⟨-(orI l 0 / 18446744073709551616),by
   grind[wrap,IntKind.bits,IntKind.signed]⟩
  obtain⟨B,r2⟩:=b4C (orI l 0);obtain⟨N,d⟩:=a03 B;have b:∀v,v≤64→(2^v ∣ N↔((2^v:Nat):Int) ∣ orI l 0):=fun v hv=>by
   rw[←a25,←d,u]
   grind[a50,a40,p64]
  have h:0<N:=by
   refine Nat.pos_of_ne_zero fun C=>?_
   obtain⟨x,f,A⟩:=g;have E:=((b0S (w:=62) (by omega) l 0).1 ((b 62 (by omega)).1 (by omega))).2 x f;have z:=a2D.1 (lA.1 j x f);omega
  obtain⟨k,p,c,r⟩:=c4s h (by omega);have i:k≤63:=by
   refine Nat.le_of_not_lt fun o=>?_
   have a:2^64≤2^k:=a30 (by simp) (by omega)
   have:=Nat.le_of_dvd h c
   omega
  simp only[n,cF,d,p,oB];have D:v0s (k:Int) 30=((min k 30:Nat):Int):=by rw[b7c];omega
  refine⟨min k 30,by grind,by omega,.inr ⟨g,by omega,?_,?_⟩⟩
  all_goals grind[b0S,Nat.dvd_trans,a56,b4E]
theorem c5P(g:w≤30)(d:l.all a0A=true)(h:a6K l w):a8V (w:Int) l=some (l.map fun x=>A0o .i64 x (w:Int)):=by
 have f:∀x∈l,((2^w:Nat):Int) ∣ x:=by
  rcases h with⟨h,-⟩|⟨-,-,h,-⟩
  all_goals grind[Int.dvd_zero]
 have:l.all (a9J (w:Int))=true:=by
  rw[lA];intro x k;obtain⟨c,a⟩:=f x k;have b:a62 x (A0n .i64 1 (w:Int))=0:=by simp_all[c2O]
  simp_all[a9J]
 simp only[a8V,this,cT]
theorem a9o{N n:Nat}(g:n≤63)(h:N<2^n)(L:List Int):(a0F (N:Int) n L).length=L.length+n:=by
 grind[a0F,a5Y,Nat.div_eq_of_lt,b3C]
def a2s(k:Nat)(x:Int):Nat:=if a0P x / 2^k<32 then a0P x / 2^k+1+k else 65
theorem b5j{k:Nat}(h:k≤25)(x:Int):a2s k x≤65:=by
 grind[a2s]
theorem c3N{k:Nat}(a:k≤25)(g:a0A x=true)(L:List Int):(a6n k x L).length=L.length+a2s k x:=by
 unfold a6n a2s;have hp:0<2^k:=a45 k;have h:a0P x%2^k<2^k:=a76 _ hp;have f:=a8i g;split;rw[a9o (by omega) h,a6l];omega
 grind[a9o,a6l]
theorem b6k{k:Nat}(g:k≤25):∀(l L:List Int),l.all a0A=true→(a4G k l L).length=L.length+(l.map (a2s k)).sum
 | [],L,_=>by rfl
 |x::l,L,h=>by
  simp only[a26,bA]at h;have e:a4G k (x::l) L=a4G k l (a6n k x L):=rfl;rw[e,b6k g l _ h.2,c3N g h.1,List.map_cons,a61];omega
theorem b9M{k:Nat}(c:k≤25)(g:a0A x=true):a6H ((k:Int),x)=some ((a2s k x:Nat):Int):=by
 have d:=a8i g;have f:A0o .u64 ((a0P x:Nat):Int) (k:Int)=((a0P x / 2^k:Nat):Int):=a5Y (by omega);have a:wrap .i64 ((a0P x / 2^k:Nat):Int)=((a0P x / 2^k:Nat):Int):=a9k (a27 (a24 _ _) d);have h:decide ((k:Int)<0)=false:=by simp
 unfold a6H a2s;simp only[a7I c,a8S,g,oB,bT,cF,a8T g,h,f,a];generalize a0P x / 2^k=q
 by_cases hq:q<32
 have b:decide ((q:Int)<32)=true:=decide_eq_true (by omega);simp only[b,cT,if_pos hq]
 grind[a0I]
 grind
theorem b6l{f:Int→Nat}{M:Nat}(h:∀x,f x≤M):∀l:List Int,(l.map f).sum≤M*l.length
 | []=>by simp
 |x::l=>by
  have:=h x
  have:=b6l h l
  rw[List.map_cons,a61,lC,a71,a72];omega
theorem b2Q{f:Int→Nat}{l:List Int}{i:Nat}(h:i<l.length):((l.take (i+1)).map f).sum=((l.take i).map f).sum+f l[i]:=by
 rw[a42 h,pA,List.sum_append];rfl
theorem b4F{k:Nat}(a:k≤25)(d:l.all a0A=true)(j:l.length<10000):a3v ((k:Int),l)=some (((l.map (a2s k)).sum:Nat):Int):=by
 have:=a0R (f:=a3S) (fun i:Nat=>((k:Int),((((l.take i).map (a2s k)).sum:Nat):Int),l,(l.length:Int),(i:Int),())) l.length (b:=((((l.map (a2s k)).sum:Nat):Int),()))
  (fun i h=>by
   have c:=b9M a (lA.1 d _ (a04 h));have g:=b6l (b5j a) (l.take (i+1));rw[b2Q h]at g;rw[a32]at g;have e:wrap .i64 (((((l.take i).map (a2s k)).sum:Nat):Int)+((a2s k l[i]:Nat):Int))=((((l.take (i+1)).map (a2s k)).sum:Nat):Int):=by
    grind[b2Q,a0I]
   simp only[a3S,dlt h,cT,a0C h,oB,c,e,a0B (show i<1000000 by omega)])
  (by simp_all[a3S])
 unfold a3v;simp_all
theorem c4t(x:Int){n:Nat}(f:n≤62):∃N:Nat,a2r x n=(N:Int)∧N<2^n:=by
 obtain⟨h,g⟩:=b4C x;obtain⟨y,k⟩:=a03 h;have hp:0<2^n:=a45 n;refine⟨y%2^n,?_,a76 _ hp⟩
 grind[a2r,b9B]
theorem b1M{n:Nat}(h:n≤62):∀(l L:List Int),(a1A n l L).length=L.length+n*l.length
 | [],L=>by rfl
 |x::l,L=>by
  have e:a1A n (x::l) L=a1A n l (a0F (a2r x n) n L):=rfl;obtain⟨N,g,f⟩:=c4t x h;rw[e,b1M h l,g,a9o (by omega) f,lC,a71,a72];omega
theorem c6s{x:Int}(h:a0A x=true):a1R x ((31:Nat):Int)=true:=by
 have:=a2D.1 h
 have g:A0n .i64 (-1) (((31:Nat):Int)-1)=-1073741824:=by rfl
 have f:wrap .i64 (A0n .i64 1 (((31:Nat):Int)-1)-1)=1073741823:=by rfl
 unfold a1R
 grind
theorem b6m{x:Int}(h:a0A x=true):∀(k w:Nat),w+k=32→1≤k→a1C x k w≤31
 |k+1,w,hk,_=>by
  simp[a1C]
  by_cases h31:w=31
  grind[c6s]
  ·cases (x != 0)&&!a1R x w with
   |true=>exact b6m h k (w+1) (by omega) (by omega)
   |false=>grind
theorem b1N:∀(l:List Int)(w:Nat),l.all a0A=true→w≤31→l.foldl (fun w x=>a1C x (32-w) w) w≤31
 | [],w,_,h=>h
 |x::l,w,hl,h=>by
  simp only[a26,bA]at hl;exact b1N l _ hl.2 (b6m hl.1 (32-w) w (by omega) (by omega))
theorem a9L{l:List Int}(h:l.all a0A=true):a0J l≤31:=b1N l 0 h (by omega)
theorem b1k(g:l.length<10000):a5x l=some (((5+a0J l*l.length:Nat)):Int):=by
 have h:=a2G l;have f:a0J l*l.length≤32*l.length:=a35 _ h;unfold a5x;simp only[a5v (show short l by unfold short;omega),oB]
 grind[a0I]
def a8e(k:Int)(part:List Int):Nat:=5+(if k=31 then 5+a0J part*part.length else(part.map (a2s k.toNat)).sum)
def a1W:List Nat→List Int→List Int→Nat
 |z::zs,k::ks,l=>a8e k (l.take z)+a1W zs ks (l.drop z)
 |_,_,_=>0
theorem b3J{q:Nat}(h:q<2147483648):wrap .u64 (q:Int)=(q:Int):=a1c (by omega)
theorem c3O(h:kB k=true){part:List Int}(g:part.all a0A=true)(L:List Int):(a7z k part L).length=L.length+a8e k part:=by
 simp[kB]at h;obtain⟨K,rfl⟩:=a03 (show 0≤k by omega)
 grind[a9o,a9L,a7z,a8e,b3J,b1M,b6k]
theorem b6n:∀(zs:List Nat)(ks l L:List Int),ks.all kB=true→l.all a0A=true→(a5w zs ks l L).length=L.length+a1W zs ks l
 |z::zs,k::ks,l,L,h,hw=>by
  simp only[a26,bA]at h;have g:(l.take z).all a0A=true:=lA.2 fun x a=>lA.1 hw x (a22 a);have f:(l.drop z).all a0A=true:=lA.2 fun x a=>lA.1 hw x (a23 a);simp only[a5w,a1W];rw[b6n zs ks _ _ h.2 f,c3O h.1 g];omega
 | [],_,_,_,_,_=>by rfl
 |_::_,[],_,_,_,_=>by rfl
theorem b9N(h:kB k=true)(part:List Int):a8e k part≤10+65*part.length:=by
 simp[kB]at h;unfold a8e;split;have g:a0J part*part.length≤32*part.length:=a35 _ (a2G part);omega
 have:=b6l (b5j (k:=k.toNat) (by omega)) part
 omega
theorem b1l{zn:List Nat}{p:Prt}(E:p.2.1.length=zn.length)(a:p.2.1.all kB=true)(F:zn.length≤256):∀(j i:Nat)(l:List Int)(c:Nat),i+j=zn.length→(zn.drop i).sum=l.length→l.all a0A=true→l.length≤5000→c+10*j+65*l.length<1000000→
  y0s a1x (l,(c:Int),(zn.length:Int),(i:Int),a1i zn,p,())=some (((c+a1W (zn.drop i) (p.2.1.drop i) l:Nat):Int),())
 |0,i,l,c,hi,_,_,_,_=>by
  obtain rfl:i=zn.length:=by omega
  grind[a0D,a1x,a1W]
 |j+1,i,l,c,hi,hsum,hw,hl5,hb=>by
  have h:i<zn.length:=by omega
  have f:i<p.2.1.length:=by omega
  have o:=lA.1 a _ (a04 f);rw[a7i h]at hsum;have z:decide ((0:Int)≤(i:Int))=true:=by simp
  have A:decide ((i:Int)<(((a1i zn).length:Nat):Int))=true:=by simp_all[a0X]
  have B:decide ((0:Int)≤((zn[i]:Nat):Int))=true:=by simp
  have C:decide (((zn[i]:Nat):Int)≤((l.length:Nat):Int))=true:=by grind
  have d:(l.take zn[i]).length=zn[i]:=by simp_all
  have e:(l.drop zn[i]).length=(zn.drop (i+1)).sum:=by grind
  have v:(l.take zn[i]).all a0A=true:=lA.2 fun x y=>lA.1 hw x (a22 y);have w:(l.drop zn[i]).all a0A=true:=lA.2 fun x y=>lA.1 hw x (a23 y);have g:=b9N o (l.take zn[i]);rw[d]at g;have n:a1x (l,(c:Int),(zn.length:Int),(i:Int),a1i zn,p,())=some (.inl (l.drop zn[i],((c+a8e p.2.1[i] (l.take zn[i]):Nat):Int),(zn.length:Int),((i+1:Nat):Int),a1i zn,p,())):=by
   by_cases h31:p.2.1[i]=31
   have b:(p.2.1[i]==31)=true:=by simp_all
   have m:=b1k (l:=l.take zn[i]) (by omega);have u:a8e p.2.1[i] (l.take zn[i])=5+(5+a0J (l.take zn[i])*(l.take zn[i]).length):=by simp_all[a8e]
   rw[u]at g⊢;generalize 5+a0J (l.take zn[i])*(l.take zn[i]).length=r at m g⊢;have s:wrap .i64 (5+(r:Int))=5+(r:Int):=a0I (by omega);have t:wrap .i64 ((c:Int)+(5+(r:Int)))=((c+(5+r):Nat):Int):=by grind[a0I]
   simp only[a1x,dlt h,z,A,a3f h,B,C,cT,a02,tN,a0C f,oB,b,m,s,t,a18,a0B (show i<1000000 by omega)];have b:(p.2.1[i]==31)=false:=by simp_all
   have q:=o;simp[kB]at q;obtain⟨K,D⟩:=a03 (show 0≤p.2.1[i]by omega);have m:=b4F (k:=K) (by omega) v (by omega);have u:a8e p.2.1[i] (l.take zn[i])=5+((l.take zn[i]).map (a2s K)).sum:=by simp_all[a8e]
   rw[←D]at m;rw[u]at g⊢;generalize ((l.take zn[i]).map (a2s K)).sum=r at m g⊢;have s:wrap .i64 (5+(r:Int))=5+(r:Int):=a0I (by omega);have t:wrap .i64 ((c:Int)+(5+(r:Int)))=((c+(5+r):Nat):Int):=by grind[a0I]
   simp only[a1x,dlt h,z,A,a3f h,B,C,cT,cF,a02,tN,a0C f,oB,b,m,s,t,a18,a0B (show i<1000000 by omega)]
  rw[a0H n,b1l E a F j (i+1) (l.drop zn[i]) _ (by omega) e.symm w (by omega) (by omega)];rw[a00 h,a00 f]
  grind[a1W]
theorem b8w(h:PartsOk p n warm l zn):a4y (p,n,warm,l)=some ((4+a1W zn p.2.1 l:Nat):Int):=by
 have f:Go.Ab.short p.2.1:=by have:=h.ks;have:=h.len;unfold Go.Ab.short;omega
 have k:=h.short;have a:=h.len;have g:=b1l h.ks h.all h.len zn.length 0 l 4 (by omega) (by rw[a08];exact h.sum) h.wide h.short (by omega);simp only[nZ,a64,a08]at g;unfold a4y;simp only[a8R f,h.may,a9l h.row h.rest h.wide h.short,oB,bT,cF,a2E,h.sizes,a0X,g]
theorem b8x(h:PartsOk p n warm l zn)(L:List Int):(a2H p zn l L).length=L.length+(4+a1W zn p.2.1 l):=by
 obtain⟨o,g⟩:=a03 h.order.1;have f:=h.order.2;unfold a2H;rw[b6n _ _ _ _ h.all h.wide,g,b3J (by omega),a9o (by omega) (by omega)];omega
def a0V(o:Int):Sub:=((0:Int),(0:Int),o,(0:Int),(0:Int),([]:List Int),a01 3 (0:Int),([]:List Stg),([]:List Int),((0:Int),([]:List Int),()),([]:List Int),())
theorem c1p(o:Int):SmallS (a0V o):=⟨by simp[a0V],by rfl,by simp[a0V],by simp[a0V],by simp[a0V],by simp[a0V]⟩
theorem b6o{k:Nat}(d:k≤25)(g:a0A x=true):a4S ((k:Int),x)=some ((a2s k x:Nat):Int):=by
 have e:=a8i g;have f:A0o .u64 ((a0P x:Nat):Int) (k:Int)=((a0P x / 2^k:Nat):Int):=a5Y (by omega);have b:wrap .i64 ((a0P x / 2^k:Nat):Int)=((a0P x / 2^k:Nat):Int):=a9k (a27 (a24 _ _) e);have a:wrap .u64 (k:Int)=(k:Int):=a1c (by omega);have h:decide ((k:Int)<0)=false:=by simp
 unfold a4S a2s;simp only[a8j d,a1X,g,oB,bT,cF,a9I g,a,h,f,b];generalize a0P x / 2^k=q
 by_cases hq:q<32
 have c:decide ((q:Int)<32)=true:=decide_eq_true (by omega);simp only[c,cT,if_pos hq]
 grind[a0I]
 grind
def a8X(k:Nat)(l:List Int):Nat:=(l.map (a2s k)).sum
theorem a7B{k:Nat}(a:k≤25)(d:l.all a0A=true)(m:l.length<10000):a2Y ((k:Int),l)=some ((a8X k l:Nat):Int):=by
 have:=a0R (f:=a2X) (fun i:Nat=>((k:Int),l,((((l.take i).map (a2s k)).sum:Nat):Int),(i:Int),())) l.length (b:=((((l.map (a2s k)).sum:Nat):Int),()))
  (fun i h=>by
   have c:=b6o a (lA.1 d _ (a04 h));have g:=b6l (b5j a) (l.take (i+1));rw[b2Q h]at g;rw[a32]at g;have e:wrap .i64 (((((l.take i).map (a2s k)).sum:Nat):Int)+((a2s k l[i]:Nat):Int))=((((l.take (i+1)).map (a2s k)).sum:Nat):Int):=by
    grind[b2Q,a0I]
   simp only[a2X,dlt h,cT,a0C h,oB,c,e,a0B (show i<1000000 by omega)])
  (by simp_all[a2X])
 unfold a2Y;have j:(((l.take 0).map (a2s k)).sum:Nat)=0:=rfl;simp_all[a8X]
def rbN(l:List Int):Nat→Nat
 |0=>0
 |i+1=>if a8X (i+1) l<a8X (rbN l i) l then i+1 else rbN l i
theorem b3K(l:List Int):∀i,rbN l i≤i
 |0=>a34 _
 |i+1=>by
  have:=b3K l i
  simp only[rbN]
  split<;>omega
theorem b2R{k:Nat}(h:k≤25)(f:l.all a0A=true)(g:l.length<10000):a3v ((k:Int),l)=some ((a8X k l:Nat):Int):=b4F h f g
theorem c2V{a b:Nat}(h:a<b):decide ((a:Int)<(b:Int))=true:=decide_eq_true (by omega)
theorem b3Z{a b:Nat}(h:¬ a<b):decide ((a:Int)<(b:Int))=false:=decide_eq_false (by omega)
theorem b3L(g:l.all a0A=true)(h:l.length<10000):a9w l=some ((rbN l 25:Nat):Int):=by
 have:=a0R (f:=a7m) (fun i:Nat=>(l,((rbN l i:Nat):Int),((a8X (rbN l i) l:Nat):Int),((i+1:Nat):Int),())) 25 (b:=(((rbN l 25:Nat):Int),()))
  (fun i n=>by
   have a:decide (((i+1:Nat):Int)≤25)=true:=decide_eq_true (by omega);have d:wrap .i64 (((i+1:Nat):Int)+1)=((i+1+1:Nat):Int):=a0B (by omega);have c:=b2R (k:=i+1) (by omega) g h
   by_cases hlt:a8X (i+1) l<a8X (rbN l i) l
   simp_all[a7m,rbN];simp only[a7m,a,cT,cF,c,oB,d,b3Z hlt,rbN,hlt,if_false])
  (by
   rfl)
 have m:=b2R (k:=0) (by omega) g h;have j:((0+1:Nat):Int)=1:=rfl;have e:rbN l 0=0:=rfl;simp_all[a9w]
theorem b1O(a:l.all a0A=true)(g:l.length<10000):a7W l=some ((rbN l 25:Nat):Int):=by
 have:=a0R (f:=a6f) (fun i:Nat=>(l,((rbN l i:Nat):Int),((i+1:Nat):Int),())) 25 (b:=(((rbN l 25:Nat):Int),()))
  (fun i n=>by
   have c:decide (((i+1:Nat):Int)≤25)=true:=decide_eq_true (by omega);have e:wrap .i64 (((i+1:Nat):Int)+1)=((i+1+1:Nat):Int):=a0B (by omega);have d:=a7B (k:=i+1) (by omega) a g;have h:=a7B (k:=rbN l i) (by grind[b3K]) a g
   by_cases hlt:a8X (i+1) l<a8X (rbN l i) l
   simp_all[a6f,rbN];simp only[a6f,c,cT,cF,d,h,oB,e,b3Z hlt,rbN,hlt,if_false])
  (by
   rfl)
 have m:((0+1:Nat):Int)=1:=rfl;have j:rbN l 0=0:=rfl;simp_all[a7W]
def a7C(l:List Int):Int:=if 5+a0J l*l.length<a8X (rbN l 25) l then 31 else((rbN l 25:Nat):Int)
theorem c2W(l:List Int):kB (a7C l)=true:=by
 have:=b3K l 25
 unfold a7C;split;rfl;simp only[kB,a55,bA,dT];omega
theorem b6p(g:l.all a0A=true)(h:l.length<10000):a7n l=some (a7C l):=by
 have a:=b3K l 25;have f:=b2R (k:=rbN l 25) a g h;unfold a7n a7C
 by_cases hlt:5+a0J l*l.length<a8X (rbN l 25) l
 simp only[b3L g h,b1k h,f,oB,c2V hlt,cT,hlt,if_true];simp only[b3L g h,b1k h,f,oB,b3Z hlt,cF,hlt,if_false]
theorem b2S(g:l.length<10000):a2o ((31:Int),l)=some ((5+a0J l*l.length:Nat):Int):=by
 have f:=b3F (a2G l) g;have h:((31:Int)==31)=true:=rfl;unfold a2o;simp only[h,cT,a7h (show short l by unfold short;omega),oB]
 grind[a0I]
theorem b9O(g:l.all a0A=true)(h:l.length<10000):b0J l=some (a7C l):=by
 have a:=b3K l 25;have f:=a7B (k:=rbN l 25) a g h;unfold b0J a7C
 by_cases hlt:5+a0J l*l.length<a8X (rbN l 25) l
 simp only[b1O g h,b2S h,f,oB,c2V hlt,cT,hlt,if_true];simp only[b1O g h,b2S h,f,oB,b3Z hlt,cF,hlt,if_false]
def a1l:List Nat→List Int→List Int
 | [],_=>[]
 |z::zs,l=>a7C (l.take z)::a1l zs (l.drop z)
theorem b2r:∀zs l,(a1l zs l).length=zs.length
 | [],_=>rfl
 |z::zs,l=>by simp[a1l,b2r zs]
theorem b6q:∀zs l,(a1l zs l).all kB=true
 | [],_=>rfl
 |z::zs,l=>by simp[a1l,b6q zs,c2W]
theorem b3g{zn:List Nat}{n warm most least order:Int}{L:List Int}{a b:Prt}(m:zn.length≤256):∀(j i:Nat)(rest ks:List Int),i+j=zn.length→(zn.drop i).sum=rest.length→rest.all a0A=true→rest.length≤5000→ks.length=i→
  y0s a6P (n,warm,most,L,least,order,rest,((zn.length:Nat):Int),(i:Int),a1i zn,a,b,(order,ks,()),())=some (n,warm,most,L,least,order,a,b,(order,ks++a1l (zn.drop i) rest,()),())
 |0,i,rest,ks,h,_,_,_,_=>by
  obtain rfl:i=zn.length:=by omega
  simp_all[a0D,a6P,a1l]
 |j+1,i,rest,ks,h,hr,hwr,hr5,hki=>by
  have g:i<zn.length:=by omega
  rw[a7i g]at hr;have k:decide ((0:Int)≤(i:Int))=true:=by simp
  have c:decide ((i:Int)<(((a1i zn).length:Nat):Int))=true:=by simp_all[a0X]
  have d:decide ((0:Int)≤((zn[i]:Nat):Int))=true:=by simp
  have e:decide (((zn[i]:Nat):Int)≤((rest.length:Nat):Int))=true:=by grind
  have l:=b6p (a9n hwr zn[i]) (by grind);have f:lim (ks.length+1)=true:=a0G (by omega);rw[a00 g,a0H (s':=(n,warm,most,L,least,order,rest.drop zn[i],((zn.length:Nat):Int),((i+1:Nat):Int),a1i zn,a,b,(order,ks++[a7C (rest.take zn[i])],()),())) (by
   simp only[a6P,dlt g,k,c,a3f g,d,e,cT,a02,tN,l,oB,f,a18,a0B (show i<1000000 by omega),a05])]
  rw[b3g m j (i+1) _ _ (by omega) (by grind) (b5f hwr _) (by grind) (by simp_all)];simp_all[a1l]
theorem b0G{zn:List Nat}{n warm most least order:Int}{l:List Int}{a b:Prt}(u:zn.length≤256)(c:l.all a0A=true)(r:l.length≤5000):∀(j i off:Nat)(ks:List Int),i+j=zn.length→off+(zn.drop i).sum=l.length→ks.length=i→
  y0s a4b (n,warm,most,l,least,order,(off:Int),(i:Int),a1i zn,a,b,(order,ks,()),())=some (n,warm,most,l,least,order,a,b,(order,ks++a1l (zn.drop i) (l.drop off),()),())
 |0,i,off,ks,h,_,_=>by
  obtain rfl:i=zn.length:=by omega
  simp_all[a0D,a4b,a0X,a1l]
 |j+1,i,off,ks,h,hr,hki=>by
  have f:i<zn.length:=by omega
  rw[a7i f]at hr;have e:decide ((0:Int)≤(i:Int))=true:=by simp
  have m:decide ((i:Int)<(((a1i zn).length:Nat):Int))=true:=by simp_all[a0X]
  have d:wrap .i64 ((off:Int)+((zn[i]:Nat):Int))=((off+zn[i]:Nat):Int):=by grind[a0I]
  have o:decide ((0:Int)≤((off+zn[i]:Nat):Int))=true:=by rfl
  have p:decide (((off+zn[i]:Nat):Int)≤((l.length:Nat):Int))=true:=by grind
  have q:decide ((0:Int)≤(off:Int))=true:=by simp
  have s:decide ((off:Int)≤((off+zn[i]:Nat):Int))=true:=by grind
  have g:a69 off (a48 (off+zn[i]) l)=(l.drop off).take zn[i]:=by grind
  have t:=b9O (a9n (b5f c off) zn[i]) (by grind);have k:lim (ks.length+1)=true:=a0G (by omega);rw[a00 f,a0H (s':=(n,warm,most,l,least,order,((off+zn[i]:Nat):Int),((i+1:Nat):Int),a1i zn,a,b,(order,ks++[a7C ((l.drop off).take zn[i])],()),())) (by
   simp only[a4b,e,m,a3f f,d,o,p,q,s,cT,a02,tN,g,t,oB,k,a0B (show i<1000000 by omega),a05])]
  rw[b0G u c r j (i+1) _ _ (by omega) (by omega) (by simp_all)];simp_all[a1l]
theorem b6r(g:kB k=true)(a:l.all a0A=true)(h:l.length<10000):∃d:Nat,a2o (k,l)=some (d:Int)∧a8e k l=5+d:=by
 by_cases h31:k=31
 subst h31;exact⟨_,b2S h,by rfl⟩;have f:(k==31)=false:=by simp_all
 simp[kB]at g;obtain⟨K,rfl⟩:=a03 (show 0≤k by omega);have b:=a7B (k:=K) (by omega) a h;exact⟨a8X K l,by unfold a2o;grind,by unfold a8e;rw[if_neg h31];rfl⟩
theorem a8Y{zn:List Nat}{p:Prt}{l:List Int}(z:p.2.1.length=zn.length)(h:p.2.1.all kB=true)(B:zn.length≤256)(m:l.all a0A=true)(b:l.length≤5000):∀(j i off:Nat)(c:Nat),i+j=zn.length→off+(zn.drop i).sum=l.length→c+10*j+65*(l.length-off)<1000000→
  y0s a2e (l,(c:Int),(off:Int),(i:Int),a1i zn,p,())=some (((c+a1W (zn.drop i) (p.2.1.drop i) (l.drop off):Nat):Int),())
 |0,i,off,c,hi,_,_=>by
  obtain rfl:i=zn.length:=by omega
  simp_all[a0D,a2e,a0X,a1W]
 |j+1,i,off,c,hi,hsum,hb=>by
  have k:i<zn.length:=by omega
  have f:i<p.2.1.length:=by omega
  have a:=lA.1 h _ (a04 f);rw[a7i k]at hsum;have r:decide ((0:Int)≤(i:Int))=true:=by simp
  have s:decide ((i:Int)<(((a1i zn).length:Nat):Int))=true:=by simp_all[a0X]
  have q:wrap .i64 ((off:Int)+((zn[i]:Nat):Int))=((off+zn[i]:Nat):Int):=by grind[a0I]
  have t:decide ((0:Int)≤((off+zn[i]:Nat):Int))=true:=by rfl
  have u:decide (((off+zn[i]:Nat):Int)≤((l.length:Nat):Int))=true:=by grind
  have v:decide ((0:Int)≤(off:Int))=true:=by simp
  have w:decide ((off:Int)≤((off+zn[i]:Nat):Int))=true:=by grind
  have g:a69 off (a48 (off+zn[i]) l)=(l.drop off).take zn[i]:=by grind
  have e:((l.drop off).take zn[i]).length=zn[i]:=by rw[a32,a37];omega
  obtain⟨d,x,y⟩:=b6r a (a9n (b5f m off) zn[i]) (by omega);have A:=b9N a ((l.drop off).take zn[i]);have n:wrap .i64 ((c:Int)+5)=((c+5:Nat):Int):=by rw[a0I (by omega)];rfl
  have o:wrap .i64 (((c+5:Nat):Int)+(d:Int))=((c+5+d:Nat):Int):=by rw[a0I (by omega)];rfl
  rw[a0H (s':=(l,((c+5+d:Nat):Int),((off+zn[i]:Nat):Int),((i+1:Nat):Int),a1i zn,p,())) (by
   simp only[a2e,r,s,a3f k,q,t,u,v,w,cT,a02,tN,a0C f,oB,g,x,n,o,a0B (show i<1000000 by omega)]),
   a8Y z h B m b j (i+1) (off+zn[i]) _ (by omega) (by omega) (by omega),
   a00 k,a00 f]
  simp only[a1W,List.drop_drop];congr 3;omega
theorem b5k(h:PartsOk p n warm l zn):a2a (p,n,warm,l)=some ((4+a1W zn p.2.1 l:Nat):Int):=by
 have k:Go.Ab.short p.2.1:=by have:=h.ks;have:=h.len;unfold Go.Ab.short;omega
 have b:Go.Ab.short l:=by have:=h.short;unfold Go.Ab.short;omega
 have c:=h.short;have d:=h.len;have a:=h.row;simp[a2K]at a;have e:wrap .i64 (n-warm)=n-warm:=a0I (by omega);have f:(((l.length:Nat):Int) != n-warm)=false:=by rw[h.rest];simp
 have g:=a8Y h.ks h.all h.len h.wide h.short zn.length 0 0 4 (by omega) (by rw[a08,h.sum];omega) (by omega);simp only[nZ,a64,a08]at g;unfold a2a;simp only[a5t k,h.may,oB,bT,cF,e,f,a0N b,h.wide,a1P,h.sizes,g]
theorem b3M{o:Int}(h:(a1k o n warm).length=0):a2a ((o,([]:List Int),()),n,warm,l)=some 0:=by
 have g:a2F (o,([]:List Int),()) n warm=false:=by simp[a2F,h]
 unfold a2a;simp only[a5t (p:=(o,([]:List Int),())) (by simp[short]),g,oB,a16,cT]
def zsN(o n warm:Int):List Nat:=(a1k o n warm).map a38
def a8f(o n warm:Int)(l:List Int):Prt:=(o,a1l (zsN o n warm) l,())
def b2T(o n warm:Int)(l:List Int):Nat:=4+a1W (zsN o n warm) (a1l (zsN o n warm) l) l
def a0U(n warm:Int)(l:List Int):Nat→Prt×Nat
 |0=>((0,[],()),0)
 |i+1=>if(a1k (i:Int) n warm).length=0 then a0U n warm l i else
   if(a0U n warm l i).2=0∨b2T (i:Int) n warm l<(a0U n warm l i).2 then(a8f (i:Int) n warm l,b2T (i:Int) n warm l)else a0U n warm l i
def b1P(n warm:Int)(l:List Int):Prt:=(a0U n warm l 7).1
theorem b7k(b:(a1k (o:Int) n warm).length≠0)(a:(l.length:Int)=n-warm)(c:l.all a0A=true)(k:l.length≤5000):
  ∃h,a1k (o:Int) n warm=a1i h∧zsN (o:Int) n warm=h∧h.length≤256∧h.sum=l.length∧a2F (a8f (o:Int) n warm l) n warm=true∧PartsOk (a8f (o:Int) n warm l) n warm l h:=by
 obtain⟨h,e,i,j⟩:=b2a b;have d:zsN (o:Int) n warm=h:=by simp_all[zsN,b2b]
 have hp:a2F (a8f (o:Int) n warm l) n warm=true:=by
  simp only[a2F,a8f,bA,a41,beq_eq_false_iff_ne,ne_eq,beq_iff_eq];simp_all[a0X,b2r,b6q]
 obtain⟨f,g⟩:=PartsOk.of hp a c k
 have:f=h:=by
  have m:=g.sizes
  grind[a8f,b2b]
 grind
theorem b2U{n warm:Int}{l:List Int}(b:a2K n warm=true)(f:(l.length:Int)=n-warm)(a:l.all a0A=true)(g:l.length≤5000):∀i,1≤i→(a0U n warm l i).2≠0∧a2F (a0U n warm l i).1 n warm=true
 |0,h=>absurd h (by omega)
 |i+1,_=>by
  by_cases hs:(a1k (i:Int) n warm).length=0
  ·simp only[a0U,hs,if_true];cases i with
   |zero=>grind[c2P]
   |succ i=>exact b2U b f a g (i+1) (by omega)
  ·obtain⟨c,-,-,-,-,hp,-⟩:=b7k hs f a g;simp only[a0U,hs,if_false];split;simp_all[b2T]
   ·rename_i k;cases i with
    |zero=>exact absurd (Or.inl rfl) k
    |succ i=>exact b2U b f a g (i+1) (by omega)
theorem c4u(f:a2K n warm=true)(g:(l.length:Int)=n-warm)(k:l.all a0A=true)(h:l.length≤5000):a2F (b1P n warm l) n warm=true:=
 (b2U f g k h 7 (by omega)).2
theorem b8y(B:a2K n warm=true)(x:(l.length:Int)=n-warm)(t:l.all a0A=true)(s:l.length≤5000):
  a8s (n,warm,(6:Int),l)=some (b1P n warm l,0):=by
 have:=a0R (f:=a3K) (fun i:Nat=>(n,warm,(6:Int),l,(((a0U n warm l i).2:Nat):Int),(i:Int),((0:Int),([]:List Int),()),(a0U n warm l i).1,())) 7 (b:=(((0:Int),([]:List Int),()),b1P n warm l,()))
  (fun i A=>by
   have j:decide ((i:Int)≤v0s (v0r 6 0) 8)=true:=decide_eq_true (by have:v0s (v0r 6 0) 8=6:=rfl;omega);have r:wrap .i64 ((i:Int)+1)=((i+1:Nat):Int):=a0B (by omega)
   by_cases hs:(a1k (i:Int) n warm).length=0
   simp_all[a0U,a3K,a2E];have z:((((a1k (i:Int) n warm).length:Nat):Int)==0)=false:=by simp_all
   obtain⟨h,p,o,w,y,-,q⟩:=b7k hs x t s;have d:=b3g (n:=n) (warm:=warm) (most:=6) (least:=(((a0U n warm l i).2:Nat):Int)) (order:=(i:Int)) (L:=l) (a:=((0:Int),([]:List Int),())) (b:=(a0U n warm l i).1) w h.length 0 l [] (by omega) (by simp_all) t s rfl;simp at d;have e:=b8w q;simp only[a8f,o]at e;have k:(((h.length:Nat):Int)==0)=false:=by simp_all[a0X]
   have m:(((a1i h).length:Nat):Int)=((h.length:Nat):Int):=by rw[a0X]
   have v:a8f (i:Int) n warm l=((i:Int),a1l h l,()):=by simp only[a8f,o]
   have u:b2T (i:Int) n warm l=4+a1W h (a1l h l) l:=by simp only[b2T,o]
   by_cases hz:(a0U n warm l i).2=0
   have g:((((a0U n warm l i).2:Nat):Int)==0)=true:=by simp_all
   have c:a0U n warm l (i+1)=(((i:Int),a1l h l,()),4+a1W h (a1l h l) l):=by simp_all[a0U]
   simp only[a3K,j,cT,a2E,oB,p,m,k,cF,d,e,r,c,g];have g:((((a0U n warm l i).2:Nat):Int)==0)=false:=by simp_all
   by_cases hlt:4+a1W h (a1l h l) l<(a0U n warm l i).2
   have c:a0U n warm l (i+1)=(((i:Int),a1l h l,()),4+a1W h (a1l h l) l):=by simp_all[a0U]
   simp only[a3K,j,cT,a2E,oB,p,m,k,cF,d,e,r,c,g,c2V hlt];have c:a0U n warm l (i+1)=a0U n warm l i:=by simp only[a0U,hs,if_false,hz,false_or,v,u,hlt]
   simp only[a3K,j,cT,a2E,oB,p,m,k,cF,d,e,r,c,g,b3Z hlt])
  (by
   rfl)
 simp_all[a0U,a8s,a9l]
theorem b5l(t:a2K n warm=true)(z:(l.length:Int)=n-warm)(p:l.all a0A=true)(s:l.length≤5000):
  a7w (n,warm,(6:Int),l)=some (b1P n warm l,0):=by
 have:=a0R (f:=a3d) (fun i:Nat=>(n,warm,(6:Int),l,(((a0U n warm l i).2:Nat):Int),(i:Int),((0:Int),([]:List Int),()),(a0U n warm l i).1,())) 7 (b:=(((0:Int),([]:List Int),()),b1P n warm l,()))
  (fun i D=>by
   have q:decide ((i:Int)≤v0s (v0r 6 0) 8)=true:=decide_eq_true (by have:v0s (v0r 6 0) 8=6:=rfl;omega);have u:wrap .i64 ((i:Int)+1)=((i+1:Nat):Int):=a0B (by omega)
   by_cases hs:(a1k (i:Int) n warm).length=0
   have A:a1k (i:Int) n warm=[]:=a52.1 hs;have c:y0s a4b (n,warm,(6:Int),l,(((a0U n warm l i).2:Nat):Int),(i:Int),(0:Int),(0:Int),([]:List Int),((0:Int),([]:List Int),()),(a0U n warm l i).1,((i:Int),([]:List Int),()),())=some (n,warm,(6:Int),l,(((a0U n warm l i).2:Nat):Int),(i:Int),((0:Int),([]:List Int),()),(a0U n warm l i).1,((i:Int),([]:List Int),()),()):=a0D (by rfl);have d:=b3M (l:=l) hs;have C:decide ((0:Int) > 0)=false:=rfl;simp_all[a0U,a3d,a1P];obtain⟨h,r,j,x,B,-,m⟩:=b7k hs z p s;have c:=b0G (n:=n) (warm:=warm) (most:=6) (least:=(((a0U n warm l i).2:Nat):Int)) (order:=(i:Int)) (a:=((0:Int),([]:List Int),())) (b:=(a0U n warm l i).1) x p s h.length 0 0 [] (by omega) (by simp_all) rfl;simp at c;have d:=b5k m;simp only[a8f,j]at d;have hp:decide (((4+a1W h (a1l h l) l:Nat):Int) > 0)=true:=decide_eq_true (by omega);have w:a8f (i:Int) n warm l=((i:Int),a1l h l,()):=by simp only[a8f,j]
   have v:b2T (i:Int) n warm l=4+a1W h (a1l h l) l:=by simp only[b2T,j]
   by_cases hz:(a0U n warm l i).2=0
   have g:((((a0U n warm l i).2:Nat):Int)==0)=true:=by simp_all
   have k:a0U n warm l (i+1)=(((i:Int),a1l h l,()),4+a1W h (a1l h l) l):=by simp_all[a0U]
   simp_all[a3d,a1P];have g:((((a0U n warm l i).2:Nat):Int)==0)=false:=by simp_all
   by_cases hlt:4+a1W h (a1l h l) l<(a0U n warm l i).2
   have k:a0U n warm l (i+1)=(((i:Int),a1l h l,()),4+a1W h (a1l h l) l):=by simp_all[a0U]
   simp only[a3d,q,cT,a1P,oB,r,cF,c,d,hp,u,k,g,c2V hlt];have k:a0U n warm l (i+1)=a0U n warm l i:=by simp only[a0U,hs,if_false,hz,false_or,w,v,hlt]
   simp only[a3d,q,cT,a1P,oB,r,cF,c,d,hp,u,k,g,b3Z hlt])
  (by
   rfl)
 have o:=t;simp[a2K]at o;have e:wrap .i64 (n-warm)=n-warm:=a0I (by omega);have y:(((l.length:Nat):Int) != n-warm)=false:=by simp_all
 simp[a0U]at this;unfold a7w;simp only[b5W,t,oB,bT,cF,e,y,a0N (show short l by unfold short;omega),p,this]
def a0O(k:Int)(s:Sub):Sub:=
 (k,(0:Int),(if k=2 then s.2.2.1 else 0),(if k=3∨k=4 then s.2.2.2.1 else 0),(if k=4 then s.2.2.2.2.1 else 0),(if k=3∨k=4 then s.2.2.2.2.2.1 else[]),
  ((if k=4 then s.2.2.2.2.2.2.1 else a01 3 (0:Int)),(if k=5 then s.2.2.2.2.2.2.2.1 else[]),([]:List Int),((0:Int),([]:List Int),()),([]:List Int),()))
def z0:Prt:=((0:Int),([]:List Int),())
def a1u(s:Sub)(w:Nat)(wm:List Int)(p:Prt)(r:List Int):Sub:=
 (s.1,(w:Int),s.2.2.1,s.2.2.2.1,s.2.2.2.2.1,s.2.2.2.2.2.1,s.2.2.2.2.2.2.1,s.2.2.2.2.2.2.2.1,wm,p,r,())
theorem c3P(h:SmallS s)(k:Int):a5K (k,s)=some (a0O k s):=by
 have f:short s.2.2.2.2.2.1:=by have:=h.coefs;unfold short;omega
 have g:short s.2.2.2.2.2.2.2.1:=by have:=h.stages;unfold short;omega
 grind[a5K,a0O,b2H,b4z]
theorem b3N(h:SmallS s)(k:Int):SmallS (a0O k s):=by
 have g:=h.coefs;have f:=h.taps;have a:=h.stages;refine⟨?_,?_,?_,by simp[a0O],by simp[a0O],by simp[a0O]⟩<;>simp only[a0O]<;>split<;>first|omega|simp
theorem b2V{s:Sub}{k n:Int}:a2x (a0O k s).1 (a0O k s) n↔a2x k s n:=by
 unfold a2x a0O
 grind
open Classical in
def a1G (l:List Int):Nat:=if h:∃w,a6K l w then h.choose else 0
theorem c1F{l:List Int}{w:Nat}(h:a6K l w):a1G l=w:=by
 unfold a1G;rw[dif_pos ⟨w,h⟩];exact(Classical.choose_spec (⟨w,h⟩:∃w,a6K l w)).unique h
def a0T(l:List Int):List Int:=l.map fun x=>A0o .i64 x (a1G l:Int)
theorem a6L(h:short l)(g:l.all a0A=true):a3J l=some ((a1G l:Nat):Int)∧a1G l≤30∧a6K l (a1G l):=by
 grind[b5i,c1F]
theorem b3O(h:short l)(g:l.all a0A=true):a5y l=some ((a1G l:Nat):Int):=by
 grind[b8v,c1F]
theorem a4h(a:l.length≤4096)(f:l.all a0A=true):a8V ((a1G l:Nat):Int) l=some (a0T l)∧(a0T l).all a0A=true∧(a0T l).length=l.length∧upO ((a1G l:Nat):Int) (a0T l)=some l:=by
 obtain⟨-,g,k⟩:=a6L (show short l by unfold short;omega) f;have h:=c5P g f k;exact⟨h,c5N g h⟩
theorem b4G(q:l.length≤4096)(g:l.all a0A=true):a9O (l,((a1G l:Nat):Int))=some (a0T l,0):=by
 have h:short l:=by unfold short;omega
 have n:=b3O h g;obtain⟨-,p,-⟩:=a6L h g;have k:decide (((a1G l:Nat):Int)<0)=false:=by simp
 have j:decide (((a1G l:Nat):Int) > 30)=false:=by grind
 have m:decide (((a1G l:Nat):Int)<((a1G l:Nat):Int))=false:=by simp
 have d:wrap .u64 ((a1G l:Nat):Int)=((a1G l:Nat):Int):=a1c (by omega)
 have:=a0R (f:=a8C) (fun i:Nat=>(l,((a1G l:Nat):Int),(i:Int),(a0T l).take i,())) l.length (b:=(a0T l,()))
  (fun i a=>by
   have c:(a0T l).length=l.length:=by simp[a0T]
   have o:lim (((a0T l).take i).length+1)=true:=a0G (by grind);have e:(a0T l).take i++[A0o .i64 l[i] ((a1G l:Nat):Int)]=(a0T l).take (i+1):=by
    grind[a8o,a0T]
   simp only[a8C,dlt a,cT,a0C a,oB,d,k,cF,o,a05,e,a0B (show i<1000000 by omega)])
  (by simp_all[a8C,a09,a0T])
 simp at this;unfold a9O;simp only[k,j,cF,oB,a0N h,g,bT,n,m,this]
theorem b8z{o:Int}(n:short d):y0s a3C (l,o,d,k,(1:Int),([]:List Int),())=some (l,o,k,dif d,()):=by
 have p:d.length<1000000:=n
 have:=a0R (f:=a3C) (fun i:Nat=>(l,o,d,k,((i+1:Nat):Int),(dif d).take i,())) (d.length-1) (b:=(l,o,k,dif d,()))
  (fun i r=>by
   have h:i+1<d.length:=by omega
   have g:i<d.length:=by omega
   have j:lim (((dif d).take i).length+1)=true:=a0G (by grind);have c:wrap .i64 (((i+1:Nat):Int)-1)=(i:Int):=by grind[a0I]
   have q:=b3X d i _ _ (lG g) (lG h);have m:i<(dif d).length:=by grind
   have e:(dif d).take i++[wrap .i64 (d[i+1]-d[i])]=(dif d).take (i+1):=by
    grind[a8o]
   simp only[a3C,dlt h,cT,a0C h,c,a0C g,oB,j,a05,e,a0B (show i+1<1000000 by omega)])
  (by
   have a:decide (((d.length-1+1:Nat):Int)<((d.length:Nat):Int))=false:=decide_eq_false (by omega);simp only[a3C,a,cF];simp_all[a09,a6o])
 simp_all
theorem b1m(r:o≤4)(q:o≤l.length)(g:short l)(n:l.all a0A=true):
  a2f (l,(o:Int))=some (bif (a1B o l).all a0A then(a1B o l,0)else([],6)):=by
 have m:l.length<1000000:=g;have h:=a0R (f:=a5f) (fun k:Nat=>(l,(o:Int),a1B k l,(k:Int),())) o (b:=(l,a1B o l,()))
  (fun k p=>by
   have a:decide ((k:Int)<(o:Int))=true:=by simp_all
   simp only[a5f,a,cT,b8z (a8U g k),oB,a0B (show k<1000000 by omega),a1B])
  (by
   have a:decide ((o:Int)<(o:Int))=false:=by simp
   simp_all[a5f])
 have c:decide ((o:Int)<0)=false:=by simp
 have d:decide ((o:Int) > 4)=false:=by grind
 have e:decide (((l.length:Nat):Int)<(o:Int))=false:=by simp_all
 have i:lim (0+l.length)=true:=a7R (by omega);simp at h;have j:a1B 0 l=l:=rfl;rw[j]at h;unfold a2f;simp only[c,d,e,i,cF,cT,oB,a05,a17,h,a0N g,n,bT,a0N (a8U g o)]
 grind
def a2J(k:Int)(s:Sub)(d:List Int):Option (List Int×List Int):=
 if k=2 then(bif (a1B s.2.2.1.toNat d).all a0A then some (d.take s.2.2.1.toNat,a1B s.2.2.1.toNat d)else none)
 else if k=3 then(a9K d s.2.2.2.2.2.1 s.2.2.2.1).map fun r=>(d.take s.2.2.2.2.2.1.length,r)
 else if k=4 then(a8W d s.2.2.2.2.1 s.2.2.2.2.2.2.1).bind fun x=>(a9K x s.2.2.2.2.2.1 s.2.2.2.1).map fun r=>(x.take s.2.2.2.2.2.1.length,r)
 else(a7A d s.2.2.2.2.2.2.2.1).map fun r=>([],r)
theorem b5m(j:k=2∨k=3∨k=4∨k=5)(i:a2x k s (d.length:Int))(n:d.all a0A=true)(h:a2J k s d=some (wm,r)):
  wm.length≤d.length∧r.length=d.length-wm.length∧r.all a0A=true∧wm.all a0A=true:=by
 have f:=i;simp only[a2x]at f;rcases j with rfl|rfl|rfl|rfl
 ·have:0≤s.2.2.1∧s.2.2.1≤(d.length:Int):=by omega
  simp[a2J]at h;cases hq:(a1B s.2.2.1.toNat d).all a0A with
  |false=>simp_all
  |true=>
   simp[hq]at h;obtain⟨rfl,rfl⟩:=h;simp_all[a4j,a9n]
 have:(s.2.2.2.2.2.1.length:Int)≤(d.length:Int):=by omega
 simp only[a2J,show ¬ (3:Int)=2 by simp,if_false,if_true,a19,pJ]at h;obtain⟨c,g,rfl,rfl⟩:=h;obtain⟨-,a,b⟩:=b2P g
 grind
 have:(s.2.2.2.2.2.1.length:Int)≤(d.length:Int):=by omega
 simp only[a2J,show ¬ (4:Int)=2 by simp,show ¬ (4:Int)=3 by simp,if_false,if_true,a39,a19,pJ]at h;obtain⟨x,e,c,g,rfl,rfl⟩:=h;obtain⟨-,l,m⟩:=b1I e;obtain⟨-,a,b⟩:=b2P g
 grind
 simp only[a2J,show ¬ (5:Int)=2 by simp,show ¬ (5:Int)=3 by simp,show ¬ (5:Int)=4 by simp,if_false,a19,pJ]at h;obtain⟨c,g,rfl,rfl⟩:=h;obtain⟨-,a,b⟩:=b6j g;simp_all
theorem c4v(v:k=2∨k=3∨k=4∨k=5)(h:SmallS s)(q:a2x k s (d.length:Int))(D:d.length≤4096)(y:d.all a0A=true)(w:Nat):
  a9v (a1u (a0O k s) w [] z0 [],d)=some (match a2J k s d with|none=>(6,a1u (a0O k s) w [] z0 [])|some (wm,r)=>(0,a1u (a0O k s) w wm z0 r)):=by
 have l:=h.taps;have g:=h.stages;have i:short d:=by unfold short;omega
 obtain⟨k',w',o,sh,lag,c,t,st,z,p,E,u⟩:=s;simp only[a2x]at q l g;unfold a9v;rcases v with rfl|rfl|rfl|rfl;obtain⟨n,C,e⟩:0≤o∧o≤4∧o≤(d.length:Int):=by omega
 obtain⟨O,rfl⟩:=a03 n;have g:short (d.take O):=by unfold short;grind
 have j:decide ((O:Int)≤((d.length:Nat):Int))=true:=by simp_all
 simp only[a1u,a0O,a2J,if_true,show((2:Int)==2)=true from rfl,cT,b0A (show O≤4 by omega) (show O≤d.length by omega) i y,oB,tN]
 grind[b1B,a0W,a7f]
 ·obtain⟨f,e⟩:a5R c sh=true∧(c.length:Int)≤(d.length:Int):=by simp_all
  have g:short (d.take c.length):=by unfold short;grind
  have m:decide ((0:Int)≤((c.length:Nat):Int))=true:=by simp
  have j:decide (((c.length:Nat):Int)≤((d.length:Nat):Int))=true:=by simp_all
  simp only[a1u,a0O,a2J,show((3:Int)==2)=false from rfl,show((3:Int)==3)=true from rfl,show ¬ (3:Int)=2 by simp,show ¬ (3:Int)=4 by simp,show ¬ (3:Int)=5 by simp,true_or,if_true,if_false,cT,cF,b2q f (show c.length≤d.length by omega) (show d.length<100000 by omega),oB];cases a9K d c sh with
  |none=>rfl
  |some r=>simp_all[a1V,b1B,a0W,a7f]
 ·obtain⟨f,e,a⟩:a5R c sh=true∧(c.length:Int)≤(d.length:Int)∧a6i lag t=true:=by simp_all
  simp[a1u,a0O,a2J,b9G a l (show d.length<100000 by omega)];cases hx:a8W d lag t with
  |none=>rfl
  |some x=>
   obtain⟨-,A,B⟩:=b1I hx;have g:short (x.take c.length):=by unfold short;grind
   have m:decide ((0:Int)≤((c.length:Nat):Int))=true:=by simp
   have j:decide (((c.length:Nat):Int)≤((x.length:Nat):Int))=true:=by simp_all
   simp[a1V,b2q f (show c.length≤x.length by omega) (show x.length<100000 by omega)]
   grind[b1B,a0W,a7f]
 ·obtain⟨e,b⟩:0<st.length∧a4F st=true:=by simp_all
  have g:short (d.take 0):=by simp[short]
  simp only[a1u,a0O,a2J,show((5:Int)==2)=false from rfl,show((5:Int)==3)=false from rfl,show((5:Int)==4)=false from rfl,show((5:Int)==5)=true from rfl,show ¬ (5:Int)=2 by simp,show ¬ (5:Int)=3 by simp,show ¬ (5:Int)=4 by simp,or_self,if_true,if_false,cT,cF,b8u b (show d.length<100000 by omega),oB];cases a7A d st with
  |none=>rfl
  |some r=>
   rfl
theorem c5Q(A:k=2∨k=3∨k=4∨k=5)(h:SmallS s)(z:a2x k s (d.length:Int))(G:d.length≤4096)(B:d.all a0A=true)(w:Nat):
  (a2J k s d=none→∃a b,a8F (a1u (a0O k s) w [] z0 [],d)=some (a,b,6))∧
   (∀e r,a2J k s d=some (e,r)→a8F (a1u (a0O k s) w [] z0 [],d)=some (e,r,0)):=by
 have v:=h.taps;have q:=h.stages;have n:short d:=by unfold short;omega
 obtain⟨k',w',o,sh,lag,c,t,st,C,p,H,u⟩:=s;simp only[a2x]at z v q;unfold a8F;rcases A with rfl|rfl|rfl|rfl
 ·obtain⟨y,F,m⟩:0≤o∧o≤4∧o≤(d.length:Int):=by omega
  obtain⟨O,rfl⟩:=a03 y;have g:decide ((0:Int)≤(O:Int))=true:=by simp
  have f:decide ((O:Int)≤((d.length:Nat):Int))=true:=by simp_all
  simp only[a1u,a0O,a2J,if_true,show((2:Int)==2)=true from rfl,cT,b1m (show O≤4 by omega) (show O≤d.length by omega) n B,oB,tN,g,f,a02];cases (a1B O d).all a0A with
  |false=>simp
  |true=>simp
 ·obtain⟨i,m⟩:a5R c sh=true∧(c.length:Int)≤(d.length:Int):=by simp_all
  have g:decide ((0:Int)≤((c.length:Nat):Int))=true:=by simp
  have f:decide (((c.length:Nat):Int)≤((d.length:Nat):Int))=true:=by simp_all
  simp only[a1u,a0O,a2J,show((3:Int)==2)=false from rfl,show((3:Int)==3)=true from rfl,show((3:Int)==4)=false from rfl,show ¬ (3:Int)=2 by simp,show ¬ (3:Int)=4 by simp,show ¬ (3:Int)=5 by simp,true_or,if_true,if_false,cT,cF,oB,b0E i (show c.length≤d.length by omega) (show d.length<100000 by omega),g,f,a02,tN];cases a9K d c sh with
  |none=>exact⟨fun _=>⟨_,_,rfl⟩,fun _ _ h=>by grind⟩
  |some r=>exact⟨fun h=>(by grind),fun e r h=>by cases h;rfl⟩
 ·obtain⟨i,m,j⟩:a5R c sh=true∧(c.length:Int)≤(d.length:Int)∧a6i lag t=true:=by simp_all
  simp only[a1u,a0O,a2J,show((4:Int)==2)=false from rfl,show((4:Int)==3)=false from rfl,show((4:Int)==4)=true from rfl,show ¬ (4:Int)=2 by simp,show ¬ (4:Int)=3 by simp,show ¬ (4:Int)=5 by simp,or_true,if_true,if_false,cT,cF,oB,b6i j v (show d.length<100000 by omega)];cases hx:a8W d lag t with
  |none=>exact⟨fun _=>⟨_,_,rfl⟩,fun _ _ h=>by grind⟩
  |some x=>
   obtain⟨-,D,E⟩:=b1I hx;have g:decide ((0:Int)≤((c.length:Nat):Int))=true:=by simp
   have f:decide (((c.length:Nat):Int)≤((x.length:Nat):Int))=true:=by simp_all
   simp only[a1V,show((0:Int) != 0)=false from rfl,cF,oB,b0E i (show c.length≤x.length by omega) (show x.length<100000 by omega),g,f,a02,cT,tN];simp_all
 ·obtain⟨m,l⟩:0<st.length∧a4F st=true:=by simp_all
  simp only[a1u,a0O,a2J,show((5:Int)==2)=false from rfl,show((5:Int)==3)=false from rfl,show((5:Int)==4)=false from rfl,show((5:Int)==5)=true from rfl,show ¬ (5:Int)=2 by simp,show ¬ (5:Int)=3 by simp,show ¬ (5:Int)=4 by simp,or_self,if_true,if_false,cT,cF,oB,b5g l (show d.length<100000 by omega)];cases a7A d st with
  |none=>exact⟨fun _=>⟨_,_,rfl⟩,fun _ _ h=>by grind⟩
  |some r=>exact⟨fun h=>(by grind),fun e r h=>by cases h;rfl⟩
open Classical in

def a1e (k:Int) (l:List Int) (s:Sub):Sub×Int:=
 if ¬ (1≤l.length∧l.length≤4096∧a2x k s (l.length:Int))then(a0V 0,1)
 else if l.all a0A=false then(a0V 0,6)
 else if k=0 then(bif l.all (fun x=>x==l.headD 0)then(a1u (a0O 0 s) 0 [l.headD 0] z0 [],0)else(a0V 0,7))
 else if k=1 then(a1u (a0O 1 s) (a1G l) (a0T l) z0 [],0)
 else match a2J k s (a0T l)with
  |none=>(a0V 0,6)
  |some (wm,r)=>(a1u (a0O k s) (a1G l) wm (b1P (l.length:Int) (wm.length:Int) r) r,0)
theorem b6s(h:1≤l.length):m0k l 0=some (l.headD 0):=by
 cases l with
 |nil=>grind
 |cons a l=>rfl
theorem b9P(k:1≤l.length)(c:short l)(a b:Sub):
  y0s a4P (l,l,(l.length:Int),(0:Int),a,b,())=some (bif l.all (fun x=>x==l.headD 0)then .inl (l,a,b,())else .inr ((7:Int),a0V 0,())):=by
 have:=a1w (f:=a4P) l (fun i=>(l,l,(l.length:Int),(i:Int),a,b,())) (fun x=>x==l.headD 0) (bt:=Sum.inl (l,a,b,())) (bf:=Sum.inr ((7:Int),a0V 0,()))
  (fun i h hp=>by
   have g:(l[i] != l.headD 0)=false:=by simp_all
   simp only[a4P,dlt h,cT,a0C h,oB,b6s k,g,cF,a0B (a06 h c)])
  (fun i h hp=>by
   have g:(l[i] != l.headD 0)=true:=by simp_all
   simp only[a4P,dlt h,cT,a0C h,oB,b6s k,g];rfl)
  (by simp[a4P])
 omega
theorem b9Q(k:1≤l.length)(c:short l):a9C l=some (l.all (fun x=>x==l.headD 0)):=by
 have b:∀i (h:i<l.length),(l[i]==l.headD 0)=true→a4t (l,(i:Int),())=some (.inl (l,((i+1:Nat):Int),())):=fun i h hp=>by
  have g:(l[i] != l.headD 0)=false:=by simp_all
  simp only[a4t,dlt h,cT,a0C h,oB,b6s k,g,cF,a0B (a06 h c)]
 have:=a1w (f:=a4t) l (fun i=>(l,(i:Int),())) (fun x=>x==l.headD 0) (bt:=Sum.inl ()) (bf:=Sum.inr (false,())) b
  (fun i h hp=>by
   have g:(l[i] != l.headD 0)=true:=by simp_all
   simp only[a4t,dlt h,cT,a0C h,oB,b6s k,g])
  (by simp[a4t])
 rw[a0H (b 0 k (by cases l with|nil=>grind|cons a l=>simp))]at this;unfold a9C
 grind
theorem b2d(h:a2x k s n)(g:k≠0)(f:k≠1):k=2∨k=3∨k=4∨k=5:=by
 rcases h with h|h|⟨h,-⟩|⟨h,-⟩|⟨h,-⟩|⟨h,-⟩;omega;omega
 all_goals omega
theorem c5R(h:SmallS s)(k:Int)(E:l.length≤100000):a8t (k,l,s)=some (a1e k l s):=by
 have j:short l:=by unfold short;omega
 unfold a8t a1e
 by_cases h1:1≤l.length
 rotate_left;have e:decide (((l.length:Nat):Int)<1)=true:=decide_eq_true (by omega);rw[if_pos (fun g=>h1 g.1)];simp only[e,cT,oB];rfl;have a:decide (((l.length:Nat):Int)<1)=false:=decide_eq_false (by omega)
 by_cases h2:l.length≤4096
 rotate_left;have e:decide (((l.length:Nat):Int) > 4096)=true:=decide_eq_true (by omega);rw[if_pos (fun g=>h2 g.2.1)];simp only[a,e,cT,cF,oB];rfl;have o:decide (((l.length:Nat):Int) > 4096)=false:=decide_eq_false (by omega)
 by_cases h3:a2x k s (l.length:Int)
 rotate_left;have b:b1X k s (l.length:Int)=false:=by simp[b1X,h3]
 rw[if_pos (fun g=>h3 g.2.2)];simp only[a,o,b3z h,b,cF,a16,cT,oB];rfl;have b:b1X k s (l.length:Int)=true:=by simp[b1X,h3]
 rw[if_neg (fun g=>g ⟨h1,h2,h3⟩)];simp only[a,o,b3z h,b,cF,bT,oB,a3s j];cases hw:l.all a0A with
 |false=>rfl
 |true=>
  simp only[bT,cF,c3P h,oB];rw[if_neg (by simp)]
  by_cases h0:k=0
  ·subst h0;have y:=b9P h1 j (a0V 0) (a0O 0 s);have v:a0V 0=((0:Int),(0:Int),(0:Int),(0:Int),(0:Int),([]:(List Int)),a01 3 (0:Int),([]:(List (Int×Int×Unit))),([]:(List Int)),((0:Int),([]:(List Int)),()),([]:(List Int)),()):=rfl;rw[←v,if_pos rfl];simp only[show((0:Int)==0)=true from rfl,cT,y,oB];cases l.all (fun x=>x==l.headD 0)with
   |false=>rfl
   |true=>simp only[cT,b6s h1,oB];rfl
  ·obtain⟨A,B,-⟩:=a6L j hw;obtain⟨t,n,D,-⟩:=a4h h2 hw;have c:(k==0)=false:=by grind
   rw[if_neg h0];simp only[c,cF,A,oB,b2p B (show l.length<100000 by omega),t,a1V,show((0:Int) != 0)=false from rfl]
   by_cases hk1:k=1
   subst hk1;rfl
   ·have i:(k==1)=false:=by simp_all
    have p:=b2d h3 h0 hk1;rw[if_neg hk1];have m:=c4v p h (d:=a0T l) (by simp_all) (by omega) n (a1G l);have u:((a0O k s).1,((a1G l:Nat):Int),(a0O k s).2.2)=a1u (a0O k s) (a1G l) [] z0 []:=rfl;simp only[i,cF,u,m,oB];cases hr:a2J k s (a0T l)with
    |none=>rfl
    |some q=>
     obtain⟨C,r⟩:=q;obtain⟨F,r2,z,-⟩:=b5m p (by simp_all) n hr;have f:a2K (l.length:Int) (C.length:Int)=true:=by simp_all[a2K]
     have w:=b8y f (l:=r) (by omega) z (by omega);simp only[show((0:Int) != 0)=false from rfl,cF,a1u,w,oB]
theorem c1q(h:SmallS s)(k:Int)(F:l.length≤100000):a7Y (k,l,s)=some (a1e k l s):=by
 have i:short l:=by unfold short;omega
 have z:a0V 0=((0:Int),(0:Int),(0:Int),(0:Int),(0:Int),([]:(List Int)),a01 3 (0:Int),([]:(List (Int×Int×Unit))),([]:(List Int)),((0:Int),([]:(List Int)),()),([]:(List Int)),()):=rfl;have g:(show Option (Int×(List Int×(Int×Sub×Sub×Unit)))from
   bif k==(2:Int)then some (k,l,((l.length:Nat):Int),a0V 0,(k,(0:Int),s.2.2.1,(0:Int),(0:Int),([]:(List Int)),a01 3 (0:Int),([]:List Stg),([]:(List Int)),((0:Int),([]:(List Int)),()),([]:(List Int)),()),())
   else(bif k==(3:Int)then some (k,l,((l.length:Nat):Int),a0V 0,(k,(0:Int),(0:Int),s.2.2.2.1,(0:Int),s.2.2.2.2.2.1,a01 3 (0:Int),([]:List Stg),([]:(List Int)),((0:Int),([]:(List Int)),()),([]:(List Int)),()),())
   else(bif k==(4:Int)then some (k,l,((l.length:Nat):Int),a0V 0,(k,(0:Int),(0:Int),s.2.2.2.1,s.2.2.2.2.1,s.2.2.2.2.2.1,s.2.2.2.2.2.2.1,([]:List Stg),([]:(List Int)),((0:Int),([]:(List Int)),()),([]:(List Int)),()),())
   else(bif k==(5:Int)then some (k,l,((l.length:Nat):Int),a0V 0,(k,(0:Int),(0:Int),(0:Int),(0:Int),([]:(List Int)),a01 3 (0:Int),s.2.2.2.2.2.2.2.1,([]:(List Int)),((0:Int),([]:(List Int)),()),([]:(List Int)),()),())
   else some (k,l,((l.length:Nat):Int),a0V 0,(k,(0:Int),(0:Int),(0:Int),(0:Int),([]:(List Int)),a01 3 (0:Int),([]:List Stg),([]:(List Int)),((0:Int),([]:(List Int)),()),([]:(List Int)),()),())))))=some (k,l,((l.length:Nat):Int),a0V 0,a0O k s,()):=by
  grind[a0O]
 unfold a7Y a1e;simp only[←z];simp only[]at g;rw[g];simp only[oB]
 by_cases h1:1≤l.length
 rotate_left;simp_all;have p:decide (((l.length:Nat):Int)<1)=false:=decide_eq_false (by omega)
 by_cases h2:l.length≤4096
 rotate_left
 grind
 have t:decide (((l.length:Nat):Int) > 4096)=false:=decide_eq_false (by omega);have c:=b3N h k
 by_cases h3:a2x k s (l.length:Int)
 rotate_left;have m:decide (a7T (a0O k s) (l.length:Int)<0)=true:=by simp_all[a7T,b2V]
 simp_all[b5a];have m:decide (a7T (a0O k s) (l.length:Int)<0)=false:=by
  simp_all[b1Y,b2V,a7T]
 rw[if_neg (fun w=>w ⟨h1,h2,h3⟩)];simp only[p,t,b5a c,m,cF,oB,a0N i];cases hw:l.all a0A with
 |false=>rfl
 |true=>
  simp only[bT,cF,oB];rw[if_neg (by simp)]
  by_cases h0:k=0
  ·subst h0;rw[if_pos rfl];simp only[show((0:Int)==0)=true from rfl,cT,b9Q h1 i,oB];cases l.all (fun x=>x==l.headD 0)with
   |false=>rfl
   |true=>
    have b:decide ((1:Int)≤((l.length:Nat):Int))=true:=decide_eq_true (by omega);have u:a48 1 l=[l.headD 0]:=by cases l with|nil=>simp_all|cons a l=>rfl
    simp only[bT,cF,b,cT,u];rfl
  ·have C:=b3O i hw;obtain⟨D,j,E,-⟩:=a4h h2 hw;have e:(k==0)=false:=by grind
   rw[if_neg h0];have b:((a0O k s).1,((a1G l:Nat):Int),(a0O k s).2.2)=a1u (a0O k s) (a1G l) [] z0 []:=rfl;simp[e,C,b4G h2 hw,b]
   by_cases hk1:k=1
   subst hk1;rfl
   ·have n:=b2d h3 h0 hk1;rw[if_neg hk1];obtain⟨G,A⟩:=c5Q n h (d:=a0T l) (by simp_all) (by omega) j (a1G l);cases hr:a2J k s (a0T l)with
    |none=>
     grind
    |some q=>
     obtain⟨o,r⟩:=q;obtain⟨H,r2,B,-⟩:=b5m n (by simp_all) j hr;have f:a2K (l.length:Int) (o.length:Int)=true:=by simp_all[a2K]
     have v:=b5l f (l:=r) (by omega) B (by omega);have y:a3T k=some true:=by rw[a5u];congr 1;grind
     simp only[A o r hr,oB,show((0:Int) != 0)=false from rfl,cF,y,cT,v];rfl
theorem c3Q(h:a2F p n warm=true):p.2.1.length≤256:=by
 simp only[a2F,bA,a41,beq_eq_false_iff_ne,ne_eq,beq_iff_eq]at h
 grind[b2a,a0X]
theorem b2W(h:SmallS s)(g:wm.length≤5000)(f:r.length≤5000)(k:p.2.1.length≤300):SmallS (a1u s w wm p r):=
 ⟨h.coefs,h.taps,h.stages,g,f,k⟩
theorem c2X(f:(a1e k l s).2=0):
  1≤l.length∧l.length≤4096∧a2x k s (l.length:Int)∧l.all a0A=true∧
   ((k=0∧l.all (fun x=>x==l.headD 0)=true∧(a1e k l s).1=a1u (a0O 0 s) 0 [l.headD 0] z0 [])∨
    (k=1∧(a1e k l s).1=a1u (a0O 1 s) (a1G l) (a0T l) z0 [])∨
     ((k=2∨k=3∨k=4∨k=5)∧∃wm r,a2J k s (a0T l)=some (wm,r)∧(a1e k l s).1=a1u (a0O k s) (a1G l) wm (b1P (l.length:Int) (wm.length:Int) r) r)):=by
 unfold a1e at f⊢
 split at f
 omega;rename_i g;have g:1≤l.length∧l.length≤4096∧a2x k s (l.length:Int):=Classical.byContradiction g;refine⟨g.1,g.2.1,g.2.2,?_⟩;rw[if_neg (fun h=>h g)]
 split at f
 omega;rename_i d;have a:l.all a0A=true:=by simp_all
 refine⟨a,?_⟩;rw[if_neg d]
 split at f
 grind
 rename_i b;rw[if_neg b]
 split at f
 simp_all;rename_i c;rw[if_neg c];refine .inr (.inr ⟨b2d g.2.2 b c,?_⟩)
 grind
theorem b1n:a9R (a1u (a0O k s) w wm p r):=by
 unfold a9R a1u a0O;simp_all
theorem b5n(h:a2x k s n):a2x (a1u (a0O k s) w wm p r).1 (a1u (a0O k s) w wm p r) n:=b2V.2 h
theorem c4w{l:List Int}(h:l.all (fun x=>x==l.headD 0)=true):a01 l.length (l.headD 0)=l:=by
 refine(List.eq_replicate_iff.2 ⟨rfl,fun x g=>?_⟩).symm
 grind
theorem b4a(I:SmallS s)(G:(a1e k l s).2=0):
  SmallS (a1e k l s).1∧(a1e k l s).1.1=k∧a1n (a1e k l s).1 (l.length:Int)∧a2L (a1e k l s).1 (l.length:Int)=some l:=by
 obtain⟨T,H,u,A,L⟩:=c2X G;have N:short l:=by unfold short;omega
 obtain⟨-,Z,-⟩:=a6L N A;obtain⟨P,v,Q,D⟩:=a4h H A;have d:∀m:Sub,a1n m (l.length:Int)→b5b m (l.length:Int)=some l→a2L m (l.length:Int)=some l:=fun m j n=>by simp_all[a2L]
 have b:=b3N I k;rcases L with⟨rfl,y,e⟩|⟨rfl,e⟩|⟨z,i,r,f,e⟩
 ·rw[e];have g:a1n (a1u (a0O 0 s) 0 [l.headD 0] z0 []) (l.length:Int):=by
   have U:a0A (l.headD 0)=true:=by
    cases l with
    |nil=>rfl
    |cons a l=>simp_all
   exact⟨by omega,by omega,b5n u,b1n,Int.le_refl _,(by simp:(0:Int)≤30),fun _=>rfl,rfl,by simp_all[a1u],rfl,fun _=>⟨rfl,rfl,rfl⟩,fun h=>absurd rfl h.1⟩
  refine⟨b2W b (by simp) (by simp) (by simp[z0]),rfl,g,d _ g ?_⟩;show some (a01 (l.length:Int).toNat (l.headD 0))=some l
  grind[c4w]
 rw[e];have g:a1n (a1u (a0O 1 s) (a1G l) (a0T l) z0 []) (l.length:Int):=
  ⟨by omega,by omega,b5n u,b1n,a65 _,(by show((a1G l:Nat):Int)≤30;omega),fun h=>absurd h (by simp:¬ (1:Int)=0),by show(((a0T l).length:Nat):Int)=(l.length:Int);omega,v,rfl,fun _=>⟨rfl,rfl,rfl⟩,fun h=>absurd rfl h.2⟩
 refine⟨b2W b (by omega) (by simp) (by simp[z0]),rfl,g,d _ g ?_⟩;show upO ((a1G l:Nat):Int) (a0T l)=some l;omega
 ·rw[e];obtain⟨Y,r2,C,O⟩:=b5m z (by simp_all) v f;have q:a2K (l.length:Int) (i.length:Int)=true:=by simp only[a2K,bA,dT];omega
  have hp:=c4u q (l:=r) (by omega) C (by omega);generalize b1P (l.length:Int) (i.length:Int) r=p at hp;have M:=c3Q hp

  have t:a0W (a1u (a0O k s) (a1G l) i p r) (l.length:Int)=(i.length:Int)∧backP (a1u (a0O k s) (a1G l) i p r)=some (a0T l):=by
   simp only[a2x]at u;rcases z with rfl|rfl|rfl|rfl
   ·obtain⟨V,X,B⟩:0≤s.2.2.1∧s.2.2.1≤4∧s.2.2.1≤(l.length:Int):=by omega
    simp[a2J]at f;cases hq:(a1B s.2.2.1.toNat (a0T l)).all a0A with
    |false=>simp_all
    |true=>
     simp[hq]at f;obtain⟨rfl,rfl⟩:=f;refine⟨?_,?_⟩;show s.2.2.1=_
     grind
     show b3A ((a0T l).take s.2.2.1.toNat) (a1B s.2.2.1.toNat (a0T l)) s.2.2.1=some (a0T l);have K:=b9E v (o:=s.2.2.1.toNat) (by omega) ((a0T l).length-s.2.2.1.toNat) 0 (by omega);rw[a08,a67]at K
     grind[b3A]
   have B:(s.2.2.2.2.2.1.length:Int)≤(l.length:Int):=by omega
   simp only[a2J,show ¬ (3:Int)=2 by simp,if_false,if_true,a19,pJ]at f;obtain⟨w,j,rfl,rfl⟩:=f;obtain⟨n,-,-⟩:=b2P j;refine⟨?_,?_⟩;show((s.2.2.2.2.2.1.length:Nat):Int)=_;simp_all;exact n;have B:(s.2.2.2.2.2.1.length:Int)≤(l.length:Int):=by omega
   simp only[a2J,show ¬ (4:Int)=2 by simp,show ¬ (4:Int)=3 by simp,if_false,if_true,a39,a19,pJ]at f;obtain⟨x,F,w,j,rfl,rfl⟩:=f;obtain⟨R,-,S⟩:=b1I F;obtain⟨n,-,-⟩:=b2P j;refine⟨?_,?_⟩;show((s.2.2.2.2.2.1.length:Nat):Int)=_;simp_all;show(a8O (x.take s.2.2.2.2.2.1.length) w s.2.2.2.2.2.1 s.2.2.2.1).bind (fun l=>a9E l s.2.2.2.2.1 s.2.2.2.2.2.2.1)=_;simp_all;simp only[a2J,show ¬ (5:Int)=2 by simp,show ¬ (5:Int)=3 by simp,show ¬ (5:Int)=4 by simp,if_false,a19,pJ]at f;obtain⟨w,j,rfl,rfl⟩:=f;obtain⟨n,-,-⟩:=b6j j;exact⟨rfl,n⟩
  have c:¬ (k=0∨k=1):=by omega
  have g:a1n (a1u (a0O k s) (a1G l) i p r) (l.length:Int):=by
   unfold a1n;rw[t.1];exact⟨by omega,by omega,b5n u,b1n,a65 _,(by show((a1G l:Nat):Int)≤30;omega),fun h=>absurd (.inl h) c,rfl,O,C,fun h=>absurd h c,fun _=>⟨(by show((r.length:Nat):Int)=_;omega),hp⟩⟩
  refine⟨b2W b (by omega) (by omega) (by omega),rfl,g,d _ g ?_⟩;have E:¬ (a1u (a0O k s) (a1G l) i p r).1=0:=fun h=>c (.inl h);unfold b5b;rw[if_neg E,t.2];exact D
theorem b6t:SmallS (a0V 0):=c1p 0
def cS(k o sh:Int)(c:List Int)(st:List Stg):Sub:=
 (k,(0:Int),o,sh,(0:Int),c,a01 3 (0:Int),st,([]:List Int),((0:Int),([]:List Int),()),([]:List Int),())
theorem a9p{k o sh:Int}{c:List Int}{st:List Stg}(h:c.length≤40)(g:st.length≤6):SmallS (cS k o sh c st):=
 ⟨h,rfl,g,by simp[cS],by simp[cS],by simp[cS]⟩
def a6p(d:List Int)(o w:Int):List Int×(Int×Int):=(a2n (d,o,w)).getD ([],0,1)
def a7J(d:List Int)(o w:Int):List Sub:=bif (a6p d o w).2.2==0 then[cS 3 0 (a6p d o w).2.1 (a6p d o w).1 []]else[]
def b6u(d:List Int):Int:=(a3A d).getD 0
def a9q(d:List Int):Sub×Bool:=(a3B d).getD (a0V 0,false)
def b0B(d:List Int):List Sub:=bif (a9q d).2 then[(a9q d).1]else[]
def a4i(i:Nat):List Sub:=(List.range i).map fun(j:Nat)=>cS 2 (j:Int) 0 [] []
def a1a(d:List Int):List Sub:=[cS 0 0 0 [] [],cS 1 0 0 [] [],cS 2 (b6u d) 0 [] []]
def a1v(d:List Int)(k:Int):List Sub:=if 1≤k then a7J d 4 12++a7J d 8 12 else[]
def a4L(d:List Int)(k:Int):List Sub:=if 2≤k then[cS 5 0 0 [] [((16:Int),(4:Int),())],cS 5 0 0 [] [((32:Int),(3:Int),()),((16:Int),(5:Int),())]]++b0B d else[]
def b4b(d:List Int)(k:Int):List Sub:=if 3≤k then a4i 5++(a7J d 1 12++(a7J d 2 12++(a7J d 12 14++a7J d 16 14)))else[]
def a2t(d:List Int)(k:Int):List Sub:=a1a d++(a1v d k++(a4L d k++b4b d k))
def b4c(d:List Int):Prop:=a3B d=some (a9q d)∧((a9q d).2=true→SmallS (a9q d).1)
theorem b9R(a:d.all a0A=true)(k:d.length≤4096)(h:1≤o)(g:o≤32)(f:2≤w∧w≤16):
  a2n (d,(o:Int),(w:Int))=some (a6p d o w)∧((a6p d o w).2.2=0→(a6p d o w).1.length=o):=by
 obtain⟨c,sh,e,b,i⟩:=b7B a k h g f;unfold a6p;simp_all
theorem a3U(d:List Int)(o w:Int):(a7J d o w).length≤1:=by
 grind[a7J]
theorem a9r(c:d.all a0A=true)(b:d.length≤4096)(f:1≤o)(k:o≤32)(a:2≤w∧w≤16){L:List Sub}(e:L.length<1000):
  a0M ((o:Int),(w:Int),d,L)=some (d,L++a7J d o w):=by
 obtain⟨g,-⟩:=b9R c b f k a;have h:lim (L.length+1)=true:=a0G (by omega);unfold a0M a7J;simp only[g,oB];cases (a6p d o w).2.2==0 with
 |true=>simp only[cT,h];rfl
 |false=>simp
theorem c2Y{L:List Sub}(k:L.length<1000):y0s a2i ((0:Int),L,d,())=some (L++a4i 5,d,()):=by
 have:=a0R (f:=a2i) (fun i:Nat=>((i:Int),L++a4i i,d,())) 5 (b:=(L++a4i 5,d,()))
  (fun i a=>by
   have g:decide ((i:Int)<5)=true:=decide_eq_true (by omega);have h:lim ((L++a4i i).length+1)=true:=a0G (by simp[a4i];omega);have e:(L++a4i i)++[cS 2 (i:Int) 0 [] []]=L++a4i (i+1):=by simp[a4i,List.range_succ]
   rw[←e];simp only[a2i,g,cT,h,a0B (show i<1000000 by omega)];rfl)
  (by
   rfl)
 simp at this;rw[show a4i 0=[]from rfl,a44]at this;omega
theorem c5S(a:d.all a0A=true)(c:d.length≤4096)(l:b4c d)(k:Int):a6c (d,k)=some (a2t d k):=by
 obtain⟨o,E,F⟩:=b6g (show d.length<100000 by omega) a;have N:b6u d=(o:Int):=by simp_all[b6u]
 have D:(b0B d).length≤1:=by grind[b0B]
 have O:=a3U d 4 12;have P:=a3U d 8 12;have l1:=a3U d 1 12;have l2:=a3U d 2 12;have G:=a3U d 12 14;have y:=fun L (hL:L.length<1000)=>a9r (L:=L) a c (o:=4) (w:=12) (by omega) (by omega) (by omega) hL;have z:=fun L (hL:L.length<1000)=>a9r (L:=L) a c (o:=8) (w:=12) (by omega) (by omega) (by omega) hL;have v:=fun L (hL:L.length<1000)=>a9r (L:=L) a c (o:=1) (w:=12) (by omega) (by omega) (by omega) hL;have x:=fun L (hL:L.length<1000)=>a9r (L:=L) a c (o:=2) (w:=12) (by omega) (by omega) (by omega) hL;have i:=fun L (hL:L.length<1000)=>a9r (L:=L) a c (o:=12) (w:=14) (by omega) (by omega) (by omega) hL;have j:=fun L (hL:L.length<1000)=>a9r (L:=L) a c (o:=16) (w:=14) (by omega) (by omega) (by omega) hL;simp at y z v x i j;have Q:(a1a d).length=3:=rfl;have n1:(a1v d k).length≤2:=by unfold a1v;split<;>simp<;>omega
 have n2:(a4L d k).length≤3:=by unfold a4L;split<;>simp<;>omega
 have R:(a4i 5).length=5:=rfl;have M:(bif decide (k≥1)then((a0M ((4:Int),(12:Int),d,a1a d)).bind fun n=>(a0M ((8:Int),(12:Int),n.1,n.2)).bind fun p=>some (k,p.1,p.2,()))else some (k,d,a1a d,()))=some (k,d,a1a d++a1v d k,()):=by
  unfold a1v
  by_cases h:1≤k
  have e:decide (k≥1)=true:=decide_eq_true h;simp only[e,cT,y (a1a d) (by omega),oB,z (a1a d++a7J d 4 12) (by grind),if_pos h,aA]
  grind
 have C:a6c (d,k)=(a3A d).bind fun A=>
   (show Option (Int×((List Int)×((List Sub)×Unit)))from bif decide (k≥1)then((a0M ((4:Int),(12:Int),d,[cS 0 0 0 [] [],cS 1 0 0 [] [],cS 2 A 0 [] []])).bind fun n=>(a0M ((8:Int),(12:Int),n.1,n.2)).bind fun p=>some (k,p.1,p.2,()))else some (k,d,[cS 0 0 0 [] [],cS 1 0 0 [] [],cS 2 A 0 [] []],())).bind fun g=>
   (show Option (Int×((List Sub)×((List Int)×Unit)))from bif decide (g.1≥2)then(bif lim (g.2.2.1.length+1)then(bif lim ((g.2.2.1++[cS 5 0 0 [] [((16:Int),(4:Int),())]]).length+1)then((a3B g.2.1).bind fun q=>
    bif q.2 then(bif lim ((g.2.2.1++[cS 5 0 0 [] [((16:Int),(4:Int),())]]++[cS 5 0 0 [] [((32:Int),(3:Int),()),((16:Int),(5:Int),())]]).length+1)then some (g.1,g.2.2.1++[cS 5 0 0 [] [((16:Int),(4:Int),())]]++[cS 5 0 0 [] [((32:Int),(3:Int),()),((16:Int),(5:Int),())]]++[q.1],g.2.1,())else none)
    else some (g.1,g.2.2.1++[cS 5 0 0 [] [((16:Int),(4:Int),())]]++[cS 5 0 0 [] [((32:Int),(3:Int),()),((16:Int),(5:Int),())]],g.2.1,()))else none)else none)else some (g.1,g.2.2.1,g.2.1,())).bind fun t=>
   (show Option ((List Sub)×Unit)from bif decide (t.1≥3)then((y0s a2i ((0:Int),t.2.1,t.2.2.1,())).bind fun m=>(a0M ((1:Int),(12:Int),m.2.1,m.1)).bind fun r=>(a0M ((2:Int),(12:Int),r.1,r.2)).bind fun s=>
    (a0M ((12:Int),(14:Int),s.1,s.2)).bind fun f=>(a0M ((16:Int),(14:Int),f.1,f.2)).bind fun b=>some (b.2,()))else some (t.2.1,())).bind fun u=>some u.1:=rfl
 have B:[cS 0 0 0 [] [],cS 1 0 0 [] [],cS 2 (o:Int) 0 [] []]=a1a d:=by unfold a1a;grind
 have S:(bif decide (k≥2)then(bif lim ((a1a d++a1v d k).length+1)then(bif lim ((a1a d++a1v d k++[cS 5 0 0 [] [((16:Int),(4:Int),())]]).length+1)then((a3B d).bind fun q=>
    bif q.2 then(bif lim ((a1a d++a1v d k++[cS 5 0 0 [] [((16:Int),(4:Int),())]]++[cS 5 0 0 [] [((32:Int),(3:Int),()),((16:Int),(5:Int),())]]).length+1)then some (k,a1a d++a1v d k++[cS 5 0 0 [] [((16:Int),(4:Int),())]]++[cS 5 0 0 [] [((32:Int),(3:Int),()),((16:Int),(5:Int),())]]++[q.1],d,())else none)
    else some (k,a1a d++a1v d k++[cS 5 0 0 [] [((16:Int),(4:Int),())]]++[cS 5 0 0 [] [((32:Int),(3:Int),()),((16:Int),(5:Int),())]],d,()))else none)else none)else some (k,a1a d++a1v d k,d,()):Option (Int×((List Sub)×((List Int)×Unit))))=some (k,a1a d++(a1v d k++a4L d k),d,()):=by
  unfold a4L
  by_cases h:2≤k
  have e:decide (k≥2)=true:=decide_eq_true h;have H:lim ((a1a d++a1v d k).length+1)=true:=a0G (by grind);have I:lim ((a1a d++a1v d k++[cS 5 0 0 [] [((16:Int),(4:Int),())]]).length+1)=true:=a0G (by simp;omega);have K:lim ((a1a d++a1v d k++[cS 5 0 0 [] [((16:Int),(4:Int),())]]++[cS 5 0 0 [] [((32:Int),(3:Int),()),((16:Int),(5:Int),())]]).length+1)=true:=a0G (by simp;omega);simp only[e,H,I,K,cT,l.1,oB,if_pos h,b0B];cases (a9q d).2<;>simp
  grind
 have T:(bif decide (k≥3)then((y0s a2i ((0:Int),a1a d++(a1v d k++a4L d k),d,())).bind fun m=>(a0M ((1:Int),(12:Int),m.2.1,m.1)).bind fun r=>(a0M ((2:Int),(12:Int),r.1,r.2)).bind fun s=>
    (a0M ((12:Int),(14:Int),s.1,s.2)).bind fun f=>(a0M ((16:Int),(14:Int),f.1,f.2)).bind fun b=>some (b.2,()))else some (a1a d++(a1v d k++a4L d k),()):Option ((List Sub)×Unit))=some (a2t d k,()):=by
  unfold a2t b4b
  by_cases h:3≤k
  have e:decide (k≥3)=true:=decide_eq_true h;simp only[e,cT,c2Y (L:=a1a d++(a1v d k++a4L d k)) (by simp;omega),oB,if_pos h];rw[v _ (by simp;omega)];simp only[oB];rw[x _ (by simp;omega)];simp only[oB];rw[i _ (by simp;omega)];simp only[oB];rw[j _ (by simp;omega)]
  simp
  grind
 rw[C,E,oB,B];simp only[];rw[M];simp only[oB];simp_all
theorem b2X(l:d.all a0A=true)(i:d.length≤4096)(f:b4c d)(k:Int):∀c∈a2t d k,SmallS c:=by
 have g:∀(o w:Nat),1≤o→o≤32→2≤w∧w≤16→∀c∈a7J d o w,SmallS c:=fun o w a b e c h=>by
  obtain⟨-,m⟩:=b9R l i a b e;unfold a7J at h;cases he:(a6p d o w).2.2==0 with
  |false=>simp_all
  |true=>
   rw[he]at h;simp at h
   grind[a9p]
 intro c h;simp[a2t]at h;rcases h with h|h|h|h;simp[a1a]at h;rcases h with rfl|rfl|rfl<;>exact a9p (by simp) (by simp);unfold a1v at h
 split at h
 simp at h;rcases h with h|h;exact g 4 12 (by omega) (by omega) (by omega) c h;exact g 8 12 (by omega) (by omega) (by omega) c h;simp_all
 ·unfold a4L at h
  split at h
  ·simp only[mA,mC,List.not_mem_nil,or_false]at h;rcases h with(rfl|rfl)|h;simp_all[a9p];simp_all[a9p]
   ·unfold b0B at h;cases hg:(a9q d).2 with
    |false=>simp_all
    |true=>
     rw[hg]at h;simp at h;subst h;exact f.2 hg
  simp_all
 unfold b4b at h
 split at h
 simp only[mA,a4i,List.mem_map]at h;rcases h with⟨j,-,rfl⟩|h|h|h|h;simp_all[a9p];exact g 1 12 (by omega) (by omega) (by omega) c h;exact g 2 12 (by omega) (by omega) (by omega) c h;exact g 12 14 (by omega) (by omega) (by omega) c h;exact g 16 14 (by omega) (by omega) (by omega) c h;simp_all
theorem b9S(g:d.length≤256):a3B d=some (a0V 0,false):=by
 have h:a9A (d,(16:Int),(256:Int))=some (0,7):=by
  unfold a9A
  grind
 unfold a3B;simp only[h,oB,show((7:Int) != 0)=true from rfl,cT];rfl
theorem c6t(g:d.length≤256):b4c d:=by
 have h:=b9S g
 have:a9q d=(a0V 0,false):=by unfold a9q;simp_all
 exact⟨by simp_all,fun f=>by simp_all⟩
def a7D(l:List Int)(a:Int×(Bool×Sub))(c:Sub):Int×(Bool×Sub):=
 bif (a1e c.1 l c).2 != 0 then a else bif !a.2.1 || decide (a3P (a1e c.1 l c).1 (l.length:Int)<a.1)then(a3P (a1e c.1 l c).1 (l.length:Int),true,(a1e c.1 l c).1)else a
def b0R(l:List Int)(cs:List Sub):Int×(Bool×Sub):=cs.foldl (a7D l) (0,false,a0V 0)
theorem b5o{α A β:Type}(g:A→α→A)(h:A→β):∀(l:List α)(a:A),a8L h (a2q (fun a x=>.inl (g a x)) l a)=h (l.foldl g a)
 | [],_=>rfl
 |x::l,a=>b5o g h l (g a x)
theorem b4H(h:SmallS s):SmallS (a1e k l s).1:=by
 by_cases h0:(a1e k l s).2=0
 exact(b4a h h0).1
 have:(a1e k l s).1=a0V 0:=by
  unfold a1e at h0⊢
  grind
 simp_all[b6t]
theorem c3R{cs:List Sub}(j:∀c∈cs,SmallS c)(q:l.length≤4096)(p:cs.length<1000):
  y0s a6z (l,(0:Int),false,cs,((cs.length:Nat):Int),(0:Int),a0V 0,a0V 0,())=some (a0V 0,(b0R l cs).2.2,()):=by
 have:=a1U (f:=a6z) cs (fun i a=>(l,a.1,a.2.1,cs,((cs.length:Nat):Int),(i:Int),a0V 0,a.2.2,())) (fun a x=>.inl (a7D l a x)) (fun _ _=>True) (fun a=>(a0V 0,a.2.2,()))
  (fun i g a _=>by
   refine⟨fun n h=>?_,fun b o=>by grind⟩;simp at h;subst h;refine⟨?_,trivial⟩;have d:=j _ (a04 g);have e:=c5M (b4H (k:=cs[i].1) (l:=l) d) (l.length:Int);unfold a7D;simp only[a6z,dlt g,cT,a0C g,oB,c5R d cs[i].1 (show l.length≤100000 by omega),e,a0B (show i<1000000 by omega)];cases (a1e cs[i].1 l cs[i]).2 != 0 with
   |true=>rfl
   |false=>
    have m:=a0B (show i<1000000 by omega)
    grind)
  (fun a _=>by simp_all[a6z]) (a:=((0:Int),false,a0V 0)) trivial
 simp at this;rw[this,b5o];rfl
theorem c5T(x:1≤l.length)(c:l.length≤4096)(a:l.all a0A=true)(h:b4c (a0T l))(v:0≤k)(y:k≤3):
  a2Q (l,k)=some ((b0R l (a2t (a0T l) k)).2.2,0):=by
 have d:short l:=by unfold short;omega
 obtain⟨s,t,-⟩:=a6L d a;obtain⟨e,b,u,-⟩:=a4h c a;have i:decide (((l.length:Nat):Int)<1)=false:=decide_eq_false (by omega);have j:decide (((l.length:Nat):Int) > 4096)=false:=decide_eq_false (by omega);have m:decide (k<0)=false:=decide_eq_false (by omega);have n:decide (k > 3)=false:=decide_eq_false (by omega);have f:(a2t (a0T l) k).length<1000:=by
  have g:=fun o w=>a3U (a0T l) o w;have z:=g 4 12;have A:=g 8 12;have B:=g 1 12;have C:=g 2 12;have D:=g 12 14;have E:=g 16 14;have q:(b0B (a0T l)).length≤1:=by grind[b0B]
  simp only[a2t,a1a,a1v,a4L,b4b,lN]
  grind[a4i]
 have p:=c3R (l:=l) (b2X b (by omega) h k) c f;have r:a0V 0=((0:Int),(0:Int),(0:Int),(0:Int),(0:Int),([]:(List Int)),a01 3 (0:Int),([]:(List (Int×Int×Unit))),([]:(List Int)),((0:Int),([]:(List Int)),()),([]:(List Int)),()):=rfl;unfold a2Q;simp only[←r,i,j,m,n,cF,oB,a3s d,a,bT,s,b2p t (show l.length<100000 by omega),e,a1V,show((0:Int) != 0)=false from rfl,c5S b (show(a0T l).length≤4096 by omega) h,p]
theorem a9s(v:Int)(n:Nat)(L:List Int):(a0F v n L).length=L.length+(a0F v n []).length:=by
 grind[a0F]
theorem b1Q(n:Nat):∀(l L:List Int),(a1A n l L).length=L.length+(a1A n l []).length
 | [],L=>by rfl
 |x::l,L=>by
  show(a1A n l (a0F (a2r x n) n L)).length=L.length+(a1A n l (a0F (a2r x n) n [])).length;rw[b1Q n l,b1Q n l (a0F (a2r x n) n []),a9s];omega
theorem b2e:∀(st:List Stg)(L:List Int),(a3t st L).length=L.length+(a3t st []).length
 | [],L=>by rfl
 |s::st,L=>by
  show(a3t st (a5V s L)).length=L.length+(a3t st (a5V s [])).length;rw[b2e st,b2e st (a5V s [])];unfold a5V;rw[a9s,a9s _ 5 L,a9s _ 4 (a0F _ 5 [])];omega
theorem c2Z(s:Sub)(L:List Int):(a4H s L).length=L.length+(a4H s []).length:=by
 grind[a4H,b1Q,a9s]
theorem b7E(s:Sub)(L:List Int):(a1o s L).length=L.length+(a1o s []).length:=by
 grind[a1o,a9s,c2Z,b1Q,b2e]
theorem c4x(g:0≤s.1∧s.1≤5)(f:0≤s.2.1∧s.2.1≤30)(h:s.2.2.2.2.2.2.2.2.1.all a0A=true)(L:List Int):(a8c s L).length=L.length+13:=by
 grind[a03,a9L,a8c,b3J,a9o]
def b9T(s:Sub)(zn:List Nat):Nat:=
 13+(a1o s []).length+a0J s.2.2.2.2.2.2.2.2.1*s.2.2.2.2.2.2.2.2.1.length+if s.1=0∨s.1=1 then 0 else 4+a1W zn s.2.2.2.2.2.2.2.2.2.1.2.1 s.2.2.2.2.2.2.2.2.2.2.1
theorem c3a(h:a2x k s n):0≤k∧k≤5:=by
 rcases h with h|h|⟨h,-⟩|⟨h,-⟩|⟨h,-⟩|⟨h,-⟩<;>omega
theorem c1r(h:(a2L s n).isSome=true):a1n s n:=by
 grind[a2L]
theorem c5U(h:(a2L s n).isSome=true)(d:s.1≠0∧s.1≠1→PartsOk s.2.2.2.2.2.2.2.2.2.1 n ((s.2.2.2.2.2.2.2.2.1.length:Nat):Int) s.2.2.2.2.2.2.2.2.2.2.1 zn)(L:List Int):
  (a3O s zn L).length=L.length+b9T s zn:=by
 obtain⟨e,i,b,-,k,a,-,-,f,-⟩:=c1r h;have c:=a9L f;have g:=c4x (c3a b) ⟨k,a⟩ f L;unfold a3O b9T
 by_cases hk:s.1=0∨s.1=1
 rw[if_pos hk,if_pos hk,b1M (by omega),b7E,g];omega;rw[if_neg hk,if_neg hk,b8x (d (not_or.1 hk)),b1M (by omega),b7E,g];omega
theorem b9U{s:Sub}(h:SmallS s){n:Int}(f:(a2L s n).isSome=true):∃g,a3P s n=((b9T s g:Nat):Int)∧(s.1≠0∧s.1≠1→PartsOk s.2.2.2.2.2.2.2.2.2.1 n ((s.2.2.2.2.2.2.2.2.1.length:Nat):Int) s.2.2.2.2.2.2.2.2.2.2.1 g):=by
 obtain⟨e,b,-,-,-,a,-⟩:=b6c h (n:=n) (L:=[]) (by simp);obtain⟨-,g,-,k⟩:=a f;refine⟨g,?_,k⟩;unfold a3P;rw[if_pos f,←b7j k,c5U f k]
 simp
theorem c3S(h:SmallS s)(g:(a2L s n).isSome=true):13≤a3P s n:=by
 grind[b9U,b9T]
structure Shifted (l m:List Int) (n:Nat):Prop where
 len:m.length=l.length
 wl:l.all a0A=true
 wm:m.all a0A=true
 down:a0T m=a0T l
 waste:a1G m=a1G l+n
 fl:l.all (fun x=>x==l.headD 0)=false
 fm:m.all (fun x=>x==m.headD 0)=false
structure BestIs (l:List Int) (cs:List Sub) (a:Int×(Bool×Sub)):Prop where
 one:a.2.1=true→∃c∈cs,(a1e c.1 l c).2=0∧a.2.2=(a1e c.1 l c).1∧a.1=a3P a.2.2 (l.length:Int)
 least:∀c∈cs,(a1e c.1 l c).2=0→a.2.1=true∧a.1≤a3P (a1e c.1 l c).1 (l.length:Int)
theorem b3P{l:List Int}:∀(cs ds:List Sub)(a:Int×(Bool×Sub)),BestIs l ds a→BestIs l (ds++cs) (cs.foldl (a7D l) a)
 | [],ds,a,h=>by simp_all
 |c::cs,ds,a,h=>by
  rw[List.foldl_cons,show ds++c::cs=(ds++[c])++cs by simp];refine b3P cs (ds++[c]) _ ?_
  unfold a7D
  by_cases h0:(a1e c.1 l c).2=0
  ·have n1:((a1e c.1 l c).2 != 0)=false:=by simp_all
   rw[n1,cF];cases hq:(!a.2.1 || decide (a3P (a1e c.1 l c).1 (l.length:Int)<a.1))with
   |true=>
    refine⟨fun _=>⟨c,by simp,h0,rfl,rfl⟩,fun d f k=>⟨rfl,?_⟩⟩;rcases mA.1 f with f|f;obtain⟨e,i⟩:=h.least d f k
    grind
    simp_all
   |false=>
    simp only[Bool.or_eq_false_iff,Bool.not_eq_false',decide_eq_false_iff_not]at hq;refine⟨fun b=>?_,fun d f k=>?_⟩;obtain⟨d,f,g⟩:=h.one b
    grind
    rcases mA.1 f with f|f;exact h.least d f k;simp_all
  have n1:((a1e c.1 l c).2 != 0)=true:=by simp_all
  rw[n1,cT];refine⟨fun b=>?_,fun d f k=>?_⟩;obtain⟨d,f,g⟩:=h.one b
  grind
  rcases mA.1 f with f|f;exact h.least d f k;simp_all
theorem b7l(l:List Int)(cs:List Sub):BestIs l cs (b0R l cs):=
 b3P cs [] _ ⟨fun h=>(by grind),fun _ h=>(by grind)⟩
theorem b2Y(h:1≤l.length)(g:l.length≤4096)(f:l.all a0A=true):a1e 1 l (cS 1 0 0 [] [])=(a1u (a0O 1 (cS 1 0 0 [] [])) (a1G l) (a0T l) z0 [],0):=by
 unfold a1e;rw[if_neg (fun q=>q ⟨h,g,.inr (.inl rfl)⟩),if_neg (by simp_all),if_neg (by simp),if_pos rfl]
theorem c3b(h:1≤l.length)(g:l.length≤4096)(f:l.all a0A=true)(d:List Int)(k:Int):(b0R l (a2t d k)).2.1=true:=
 ((b7l l (a2t d k)).least (cS 1 0 0 [] []) (by simp[a2t,a1a]) (by rw[show(cS 1 0 0 [] []).1=1 from rfl,b2Y h g f])).1
end Go.Ab
