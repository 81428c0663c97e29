/- Part of the proof: PA. Conditions: as each statement tells. -/
import Derived.KernelRfl
import Derived.Test.YtjoohiokfkdfpaaGreatDoorMF
noncomputable section
set_option linter.unusedSimpArgs false
set_option linter.unusedVariables false
open BitVec renaming ofInt→a07,ofInt_natCast→a29,toNat_ofNat→a33,toNat_and→a73
open Bool renaming and_self→a02,not_false→a16,true_and→a21,not_eq_true'→a41,or_eq_true→a55,and_eq_true_iff→a60,eq_iff_iff→a75,and_false→a77
open Int renaming eq_ofNat_of_zero_le→a03,natCast_dvd_natCast→a25,toNat→a38,dvd_mul_of_dvd_left→a40,mul_fdiv_cancel_left→a49,dvd_add_left→a50,tmod→a62,cast_ofNat_Int→a64,natCast_nonneg→a65
open List renaming drop_eq_getElem_cons→a00,replicate→a01,getElem_mem→a04,append_eq→a05,drop_zero→a08,take_of_length_le→a09,nil_append→a17,take_length→a18,zipWith→a20,mem_of_mem_take→a22,mem_of_mem_drop→a23,all_cons→a26,replicate_succ'→a28,drop_length→a31,length_take→a32,length_drop→a37,take_succ_eq_append_getElem→a42,getElem_zip→a43,append_nil→a44,set_cons_zero→a47,take→a48,length_eq_zero_iff→a52,set_append_right→a57,singleton_append→a58,sum_cons→a61,getD→a68,drop→a69,cons_append→a70,take_zero→a78
open Nat renaming lt_trans→a06,div_le_self→a24,lt_of_le_of_lt→a27,pow_le_pow_right→a30,le_refl→a34,mul_le_mul_right→a35,mod_eq_of_lt→a36,two_pow_pos→a45,testBit_two_pow_mul_add→a46,sub_self→a51,le_of_lt→a53,div_add_mod→a54,pow_dvd_pow→a56,mul_le_mul→a59,one_le_two_pow→a63,mul_comm→a66,add_zero→a67,mul_add→a71,mul_one→a72,lt_of_not_le→a74,mod_lt→a76
open Option renaming map_eq_some_iff→a19,bind_eq_some_iff→a39
namespace Go.Ab
variable {L c d g ks l r row t wm:List Int}{N i j m o w:Nat}{k lag n warm x:Int}{zn:List Nat}
open IntKind(wrap)
section
variable {σ β:Type} {f:σ→Option (σ ⊕ β)}
theorem b2T:∀(n m:Nat)(s:σ){b:β},j0z f n s=some b→j0z f (n+m) s=some b
 |0,_,s,b,h=>by simp[j0z]at h
 |n+1,m,s,b,h=>by
  rw[show n+1+m=n+m+1 from by omega];simp only[j0z]at h⊢
  split at h
  cases h;rename_i s' g;exact b2T n m s' h;exact h
theorem b7F{n:Nat}{s:σ}{b b':β}(h:j0z f n s=some b)(k:j0z f m s=some b'):b=b':=by
 have a:=b2T n m s h;have g:=b2T m n s k;rw[Nat.add_comm,a]at g;exact Option.some.inj g
theorem c4D{n:Nat}{s:σ}{b:β}(h:j0z f n s=some b):v0v f s=some b:=by
 unfold v0v;have g:∃n b,j0z f n s=some b:=⟨n,b,h⟩;rw[dif_pos g];exact congrArg some (b7F g.choose_spec.choose_spec h)
theorem b7q{n:Nat}{s:σ}{b:β}(h:j0z f n s=some b):y0s f s=some b:=by
 unfold y0s;split;rename_i g hb;rw[b7F hb h];exact c4D h
theorem b7G{s:σ}(h:∀n,j0z f n s=none):y0s f s=none:=by
 unfold y0s;rw[h 400];show v0v f s=none;unfold v0v;rw[dif_neg]
 rintro⟨n,b,g⟩
 rw[h n]at g;cases g
theorem a0D{s:σ}{b:β}(h:f s=some (.inr b)):y0s f s=some b:=b7q (n:=1) (by simp[j0z,h])
theorem a0E{s s':σ}(h:f s=some (.inl s')):y0s f s=y0s f s':=by
 by_cases hx:∃n b,j0z f n s'=some b
 obtain⟨n,b,hb⟩:=hx;rw[b7q hb];exact b7q (n:=n+1) (by simp[j0z,h,hb])
 ·have g:∀n,j0z f n s'=none:=fun n=>by
   cases hn:j0z f n s' with
   |none=>rfl
   |some b=>exact absurd ⟨n,b,hn⟩ hx
  rw[b7G g];refine b7G fun n=>?_
  cases n with
  |zero=>rfl
  |succ n=>simp[j0z,h,g n]
theorem c1Q(S:Nat→σ)(n:Nat){b:β}(g:∀i,i<n→f (S i)=some (.inl (S (i+1))))(h:f (S n)=some (.inr b)):∀(k:Nat),k≤n→y0s f (S (n-k))=some b
 |0,_=>a0D h
 |k+1,hk=>by
  rw[a0E (g (n-(k+1)) (by omega)),show n-(k+1)+1=n-k from by omega];exact c1Q S n g h k (by omega)
theorem a0Q(S:Nat→σ)(n:Nat){b:β}(g:∀i,i<n→f (S i)=some (.inl (S (i+1))))(h:f (S n)=some (.inr b)):y0s f (S 0)=some b:=by
 have:=c1Q S n g h n (a34 _)
 rwa [a51]at this
end
theorem a0G{n:Int}(h:-9223372036854775808≤n∧n≤9223372036854775807):wrap .i64 n=n:=by
 simp only[wrap,IntKind.bits,IntKind.signed]
 simp
 split<;>omega
theorem a1c{n:Int}(h:0≤n∧n<18446744073709551616):wrap .u64 n=n:=by
 simp only[wrap,IntKind.bits,IntKind.signed]
 simp
 omega
theorem b7r(x y:Int):v0s x y=min x y:=by
 simp only[v0s,cond_eq_ite,dT]
 split<;>omega
theorem c1R(x y:Int):v0r x y=max x y:=by
 simp only[v0r,cond_eq_ite,dT]
 split<;>omega
theorem a7o{n:Nat}(h:n<2147483648):lim n=true:=by simp[lim,h]
section
variable {α A σ β:Type}
def a2s(g:A→α→A ⊕ β):List α→A→A ⊕ β
 | [],a=>.inl a
 |x::r,a=>match g a x with
  |.inl a'=>a2s g r a'
  |.inr b=>.inr b
def a9e(fin:A→β):A ⊕ β→β
 |.inl a=>fin a
 |.inr b=>b
theorem b2B{f:σ→Option (σ ⊕ β)}(l:List α)(S:Nat→A→σ)(g:A→α→A ⊕ β)(I:Nat→A→Prop)(e:A→β)
  (d:∀i (h:i<l.length) a,I i a→(∀a',g a l[i]=.inl a'→f (S i a)=some (.inl (S (i+1) a'))∧I (i+1) a')∧(∀b,g a l[i]=.inr b→f (S i a)=some (.inr b)))
  (c:∀a,I l.length a→f (S l.length a)=some (.inr (e a))):∀(k i:Nat)(a:A),i+k=l.length→I i a→y0s f (S i a)=some (a9e e (a2s g (l.drop i) a))
 |0,i,a,hi,ha=>by
  obtain rfl:i=l.length:=by omega
  rw[a31];exact a0D (c a ha)
 |k+1,i,a,hi,ha=>by
  have j:i<l.length:=by omega
  rw[a00 j];obtain⟨m,n⟩:=d i j a ha;simp[a2s];cases hg:g a l[i]with
  |inl a'=>
   obtain⟨o,p⟩:=m a' hg;rw[a0E o];exact b2B l S g I e d c k (i+1) a' (by omega) p
  |inr b=>exact a0D (n b hg)
theorem a1S{f:σ→Option (σ ⊕ β)}(l:List α)(S:Nat→A→σ)(g:A→α→A ⊕ β)(I:Nat→A→Prop)(k:A→β)
  (d:∀i (h:i<l.length) a,I i a→(∀a',g a l[i]=.inl a'→f (S i a)=some (.inl (S (i+1) a'))∧I (i+1) a')∧(∀b,g a l[i]=.inr b→f (S i a)=some (.inr b)))
  (c:∀a,I l.length a→f (S l.length a)=some (.inr (k a))){a:A}(e:I 0 a):y0s f (S 0 a)=some (a9e k (a2s g l a)):=by
 have:=b2B l S g I k d c l.length 0 a (by omega) e
 simp_all
theorem a1y{f:σ→Option (σ ⊕ β)}(l:List α)(S:Nat→σ)(p:α→Bool){bt bf:β}
  (k:∀i (h:i<l.length),p l[i]=true→f (S i)=some (.inl (S (i+1))))(b:∀i (h:i<l.length),p l[i]=false→f (S i)=some (.inr bf))
  (g:f (S l.length)=some (.inr bt)):y0s f (S 0)=some (bif l.all p then bt else bf):=by
 have h:=a1S (A:=Unit) l (fun i _=>S i) (fun _ x=>bif p x then .inl ()else .inr bf) (fun _ _=>True) (fun _=>bt) (fun i h a _=>?_) (fun _ _=>g) (a:=()) trivial
 ·rw[h];congr 1;clear h k b g
  induction l with
  |nil=>rfl
  |cons x l ih=>
   simp[a2s];cases p x with
   |true=>simp_all
   |false=>rfl
 grind
end
theorem a0C{α:Type}{l:List α}{i:Nat}(h:i<l.length):m0k l (i:Int)=some l[i]:=by
 simp_all[m0k]
def a0A(x:Int):Bool:=decide (-1073741824≤x)&&decide (x<1073741824)
theorem a2i{x:Int}:a0A x=true↔-1073741824≤x∧x<1073741824:=by simp[a0A]
def short{α:Type}(l:List α):Prop:=l.length<1000000
theorem a0B{i:Nat}(h:i<1000000):wrap .i64 ((i:Int)+1)=((i+1:Nat):Int):=by
 grind[a0G]
theorem dlt{n:Nat}(h:i<n):decide ((i:Int)<(n:Int))=true:=by simp_all
theorem dge(n:Nat):decide ((n:Int)<(n:Int))=false:=by simp
theorem a4w{l:List Int}(a:short l):a2o l=some (l.all a0A):=by
 unfold a2o
 have:=a1y (f:=a2w) l (fun i=>(l,(l.length:Int),(i:Int),())) a0A (bt:=Sum.inl ()) (bf:=Sum.inr (false,()))
  (fun i h hp=>by
   have hp:=a2i.1 hp;have g:decide (l[i] < -1073741824)=false:=by simp_all
   have k:decide (l[i]≥1073741824)=false:=by simp_all
   simp only[a2w,dlt h,cT,a0C h,oB,g,k,cF,a0B (a06 h a)])
  (fun i h hp=>by
   simp only[a2w,dlt h,cT,a0C h,oB]
   grind[a0A])
  (by simp[a2w])
 grind
theorem a6c(x:Int):a4S x=some (a0A x):=by
 grind[a4S,a0A]
theorem a7p(x:Int):a6O x=some (a0A x):=by
 grind[a6O,a0A]
theorem a4Z(x:Int):a5V x=some (a0A x):=by
 grind[a5V,a0A]
theorem a1Y(x:Int):a2A x=some (a0A x):=by
 grind[a2A,a0A]
theorem b2C(x:Int):a4R x=some (a0A x):=by
 grind[a4R,a0A]
theorem a4d(g:short l):a2x l=some (l.all a0A):=by
 unfold a2x
 have:=a1y (f:=a3j) l (fun i=>(l,(l.length:Int),(i:Int),())) a0A (bt:=Sum.inl ()) (bf:=Sum.inr (false,()))
  (fun i h hp=>by simp[a3j,a0C h,a6c,hp,a0B (a06 h g),h])
  (fun i h hp=>by simp_all[a3j,a0C,a6c])
  (by simp[a3j])
 grind
theorem a9f(g:short l):a4l l=some (l.all a0A):=by
 unfold a4l
 have:=a1y (f:=a3U) l (fun i=>(l,(l.length:Int),(i:Int),())) a0A (bt:=Sum.inl ()) (bf:=Sum.inr (false,()))
  (fun i h hp=>by simp[a3U,a0C h,a7p,hp,a0B (a06 h g),h])
  (fun i h hp=>by simp_all[a3U,a0C,a7p])
  (by simp[a3U])
 grind
theorem b1r(g:short l):a5e l=some (l.all a0A):=by
 unfold a5e
 have:=a1y (f:=a3y) l (fun i=>(l,(l.length:Int),(i:Int),())) a0A (bt:=Sum.inl ()) (bf:=Sum.inr (false,()))
  (fun i h hp=>by simp[a3y,a0C h,a4Z,hp,a0B (a06 h g),h])
  (fun i h hp=>by simp_all[a3y,a0C,a4Z])
  (by simp[a3y])
 grind
theorem a0N(g:short l):a0R l=some (l.all a0A):=by
 unfold a0R
 have:=a1y (f:=a5j) l (fun i=>(l,(i:Int),())) a0A (bt:=Sum.inl ()) (bf:=Sum.inr (false,()))
  (fun i h hp=>by simp[a5j,a0C h,a1Y,hp,a0B (a06 h g),h])
  (fun i h hp=>by simp_all[a5j,a0C,a1Y])
  (by simp[a5j])
 grind
theorem a6M(h:short l):a2N l=some (l.all a0A):=by
 have e:b1N=a2w:=rfl
 have:a2N l=a2o l:=by rfl
 simp_all[a4w]
def b2U(x:Int):Bool:=decide (-32768≤x)&&decide (x<32768)
def a6d(c:List Int)(s:Int):Bool:=decide (1≤c.length)&&(decide (c.length≤32)&&(decide (0≤s)&&(decide (s≤15)&&c.all b2U)))
theorem a8r{c:List Int}{s:Int}(a:short c):a4x (c,s)=some (a6d c s):=by
 have:=a1y (f:=a5c) c (fun i=>(c,(c.length:Int),(i:Int),())) b2U (bt:=Sum.inl ()) (bf:=Sum.inr (false,()))
  (fun i h hp=>by
   simp[b2U]at hp;have g:¬ c[i] < -32768:=by omega
   have k:¬ c[i]≥32768:=by omega
   simp[a5c,a0C h,a0B (a06 h a),h,g,k])
  (fun i h hp=>by
   grind[b2U,a5c,a0C])
  (by simp[a5c])
 simp at this;unfold a4x a6d
 grind
theorem a4H{c:List Int}{s:Int}(a:short c):a2T (c,s)=some (a6d c s):=by
 have:=a1y (f:=a3C) c (fun i=>(c,s,(i:Int),())) b2U (bt:=Sum.inl (c,s,())) (bf:=Sum.inr (false,()))
  (fun i h hp=>by
   simp[b2U]at hp;have g:¬ c[i] < -32768:=by omega
   have k:¬ c[i]≥32768:=by omega
   simp[a3C,a0C h,a0B (a06 h a),h,g,k])
  (fun i h hp=>by
   grind[b2U,a3C,a0C])
  (by simp[a3C])
 simp at this;unfold a2T a6d
 grind
def b3P(x:Int):Bool:=decide (-64≤x)&&decide (x≤64)
def a4P(lag:Int)(t:List Int):Bool:=decide (2≤lag)&&(decide (lag≤1024)&&t.all b3P)
theorem b2p(g:t.length=3):a7y (lag,t)=some (a4P lag t):=by
 have:=a1y (f:=a6C) t (fun i=>(t,(i:Int),())) b3P (bt:=Sum.inl ()) (bf:=Sum.inr (false,()))
  (fun i h hp=>by
   simp[b3P]at hp
   grind[a6C,a0C,a0B])
  (fun i h hp=>by
   grind[b3P,a6C,a0C])
  (by simp_all[a6C])
 simp at this;unfold a7y a4P
 grind
theorem a9B{t:List Int}{lag:Int}(g:t.length=3):a4W (lag,t)=some (a4P lag t):=by
 have:=a1y (f:=a4E) t (fun i=>(lag,(i:Int),t,())) b3P (bt:=Sum.inl (lag,())) (bf:=Sum.inr (false,()))
  (fun i h hp=>by
   simp[b3P]at hp
   grind[a4E,a0C,a0B])
  (fun i h hp=>by
   grind[b3P,a4E,a0C])
  (by simp_all[a4E])
 simp at this;unfold a4W a4P
 grind
def a2Z(s:Int×(Int×Unit)):Bool:=decide (1≤s.1)&&(decide (s.1≤32)&&(decide (0≤s.2.1)&&decide (s.2.1≤8)))
def a4I(l:List (Int×Int×Unit)):Bool:=decide (l.length≤3)&&l.all a2Z
theorem a9C(s:Int×(Int×Unit)):a6D s=some (a2Z s):=by
 grind[a6D,a2Z]
theorem a9g(s:Int×(Int×Unit)):a6b s=some (a2Z s):=by
 grind[a6b,a2Z]
theorem b1s{l:List (Int×Int×Unit)}(g:short l):a6N l=some (a4I l):=by
 have:=a1y (f:=a5S) l (fun i=>(l,(l.length:Int),(i:Int),())) a2Z (bt:=Sum.inl ()) (bf:=Sum.inr (false,()))
  (fun i h hp=>by simp[a5S,a0C h,a9C,hp,a0B (a06 h g),h])
  (fun i h hp=>by simp_all[a5S,a0C,a9C])
  (by simp[a5S])
 simp at this;unfold a6N a4I
 grind
theorem a9h{l:List (Int×Int×Unit)}(g:short l):a4u l=some (a4I l):=by
 have:=a1y (f:=a3Y) l (fun i=>(l,(i:Int),())) a2Z (bt:=Sum.inl (l,())) (bf:=Sum.inr (false,()))
  (fun i h hp=>by simp[a3Y,a0C h,a9g,hp,a0B (a06 h g),h])
  (fun i h hp=>by simp_all[a3Y,a0C,a9g])
  (by simp[a3Y])
 simp at this;unfold a4u a4I;rw[this];cases l.all a2Z with
 |false=>simp
 |true=>
  by_cases h:l.length≤3
  all_goals grind
@[reducible] def W(n:Int):Int:=wrap .i64 n
theorem a6j(n:Int):wrap .i64 n=Int.bmod n 18446744073709551616:=by
 grind[wrap,IntKind.bits,IntKind.signed]
theorem b1R{n:Int}(h:a0A n=true):W n=n:=by
 grind[a2i,a0G]
def a3a(guess:List Int→Int):List Int→List Int→Option (List Int)
 | [],out=>some out
 |x::r,out=>bif a0A (W (x+guess out))then a3a guess r (out++[W (x+guess out)])else none
def a7h{β:Type}(guess:List Int→Int)(bad:β)(out:List Int)(x:Int):List Int ⊕ β:=bif a0A (W (x+guess out))then .inl (out++[W (x+guess out)])else .inr bad
theorem a6u{β:Type}(h:List Int→Int)(g:β)(f:List Int→β):∀(l out:List Int),a9e f (a2s (a7h h g) l out)=match a3a h l out with|some r=>f r|none=>g
 | [],out=>rfl
 |x::l,out=>by
  simp[a2s,a7h,a3a];cases a0A (W (x+h out))with
  |true=>simp_all[a6u]
  |false=>rfl
theorem b1e(g:List Int→Int):∀(l out r:List Int),out.all a0A=true→a3a g l out=some r→r.all a0A=true∧r.length=out.length+l.length
 | [],out,r,h,e=>by simp_all[a3a]
 |x::l,out,r,h,e=>by
  simp[a3a]at e;cases hw:a0A (W (x+g out))with
  |true=>
   rw[hw]at e;obtain⟨f,k⟩:=b1e g l _ r (by simp_all) e
   grind
  |false=>simp_all
def a1q:Option (List Int)→List Int×Int
 |some r=>(r,0)
 |none=>([],6)
def atB(out:List Int)(i:Nat):Int:=out.getD (out.length-i) 0
def a3g(o:Nat)(out:List Int):Int:=match o with
 | 1=>atB out 1
 | 2=>2*atB out 1-atB out 2
 | 3=>3*atB out 1-3*atB out 2+atB out 3
 | 4=>4*atB out 1-6*atB out 2+4*atB out 3-atB out 4
 |_=>0
theorem b1f{out:List Int}(f:1≤i)(h:i≤out.length)(g:short out):a1f ((i:Int),out)=some (atB out i,out):=by
 unfold a1f;have g:out.length<1000000:=g
 grind[a0G,a0C,atB]
theorem b7s{out:List Int}(e:o≤4)(h:o≤out.length)(a:short out):∃g,a8j (out,(o:Int))=some g∧∀x,W (x+g)=W (x+a3g o out):=by
 have f:=fun(h':1≤out.length)=>b1f (i:=1) (by omega) h' a;have k:=fun(h':2≤out.length)=>b1f (i:=2) (by omega) h' a;have b:=fun(h':3≤out.length)=>b1f (i:=3) (by omega) h' a;have c:=fun(h':4≤out.length)=>b1f (i:=4) (by omega) h' a;simp at f k b c;unfold a8j;have d:o=0∨o=1∨o=2∨o=3∨o=4:=by omega
 rcases d with rfl|rfl|rfl|rfl|rfl;exact⟨0,rfl,fun x=>rfl⟩;exact⟨_,by simp[f (by omega)];rfl,fun x=>rfl⟩;refine⟨_,by simp[f (by omega),k (by omega)];rfl,fun x=>?_⟩;simp_all[a6j,a3g];refine⟨_,by simp[f (by omega),k (by omega),b (by omega)];rfl,fun x=>?_⟩;simp_all[a6j,a3g];refine⟨_,by simp[f (by omega),k (by omega),b (by omega),c (by omega)];rfl,fun x=>?_⟩;simp_all[a6j,a3g]
theorem a0I{n:Nat}(h:n<1000000):lim n=true:=a7o (by omega)
theorem b8x{warm rest:List Int}(u:o≤4)(x:warm.length=o)(w:rest.length<100000):
  a8N (warm,rest,(o:Int))=some (a1q (bif warm.all a0A&&rest.all a0A then a3a (a3g o) rest warm else none)):=by
 have c:short warm:=by unfold short;omega
 have m:short rest:=by unfold short;omega
 unfold a8N;have p:¬ (o:Int)<0:=by omega
 have q:¬ (o:Int) > 4:=by omega
 have r:(((warm.length:Nat):Int) != (o:Int))=false:=by simp_all
 simp only[p,q,r,decide_false,cF,oB,a6M c,a6M m];cases hw1:warm.all a0A with
 |false=>rfl
 |true=>
  simp only[bT,cF,oB,a21];cases hw2:rest.all a0A with
  |false=>rfl
  |true=>
   simp[a0I c]
   have:=a1S (f:=a7b) rest (fun i out=>((o:Int),rest,(rest.length:Int),(i:Int),out,())) (a7h (a3g o) (Sum.inr ((6:Int),([]:List Int),())))
    (fun i out=>o≤out.length∧out.length≤o+i) (fun out=>Sum.inl (out,()))
    (fun i h out s=>by
     have j:i<1000000:=by omega
     have l:short out:=by unfold short;omega
     obtain⟨g,t,d⟩:=b7s u s.1 l;have e:wrap .i64 (rest[i]+g)=W (rest[i]+a3g o out):=d _;have k:a2N [W (rest[i]+a3g o out)]=some (a0A (W (rest[i]+a3g o out))):=by rw[a6M (by simp[short])];simp
     simp only[a7b,dlt h,cT,a0C h,oB,t,e,k,a7h];cases hb:a0A (W (rest[i]+a3g o out))with
     |true=>
      simp only[cT,bT,cF,a0I (show out.length+1<1000000 by omega),a0B j];refine⟨fun v n=>?_,fun b hb=>(by grind)⟩;simp at n;subst n;exact⟨rfl,by grind,by grind⟩
     |false=>
      simp)
    (fun out _=>by simp[a7b]) (a:=warm) ⟨by omega,by omega⟩
   simp[a6u]at this;rw[this];cases a3a (a3g o) rest warm<;>rfl
def b0N(o:Nat):List Int:=match o with
 | 1=>[1]
 | 2=>[2,-1]
 | 3=>[3,-3,1]
 | 4=>[4,-6,4,-1]
 |_=>[]
theorem c3W(g:o≤4):b1q (o:Int)=some (b0N o):=by
 have h:o=0∨o=1∨o=2∨o=3∨o=4:=by omega
 rcases h with rfl|rfl|rfl|rfl|rfl<;>rfl
theorem c1r{o:Nat}(g:o≤4):(b0N o).length=o:=by
 have h:o=0∨o=1∨o=2∨o=3∨o=4:=by omega
 rcases h with rfl|rfl|rfl|rfl|rfl<;>rfl
def b3Q(o:Nat)(out:List Int)(x:Int):Nat→Int
 |0=>x
 |k+1=>W (b3Q o out x k+W ((b0N o).getD k 0*atB out (k+1)))
theorem b6i{rest out:List Int}{i:Int}(q:o≤4)(h:o≤out.length)(g:short out)(r:a0A x=true):
  y0s a3E (rest,(o:Int),b0N o,i,x,(0:Int),out,())=some (rest,(o:Int),b0N o,i,W (x+a3g o out),out,()):=by
 have g:out.length<1000000:=g
 have:=a0Q (f:=a3E) (fun k=>(rest,(o:Int),b0N o,i,b3Q o out x k,(k:Int),out,()))
  o (b:=(rest,(o:Int),b0N o,i,b3Q o out x o,out,())) (fun k n=>by
   have a:wrap .i64 (((out.length:Nat):Int)-1)=((out.length-1:Nat):Int):=by grind[a0G]
   have c:wrap .i64 (((out.length-1:Nat):Int)-(k:Int))=((out.length-(k+1):Nat):Int):=by grind[a0G]
   have d:(0:Int)≤((out.length-(k+1):Nat):Int):=by omega
   have e:((out.length-(k+1):Nat):Int)<((out.length:Nat):Int):=by omega
   have j:k<(b0N o).length:=by simp_all[c1r]
   have l:(b0N o)[k]=(b0N o).getD k 0:=by simp_all
   simp only[a3E,dlt n,cT,a0C j,oB,a,c,d,e,decide_true,a02,tN,a0B (show k<1000000 by omega),b3Q,atB,l])
  (by simp[a3E])
 simp[b3Q]at this;rw[this];have p:b3Q o out x o=W (x+a3g o out):=by
  have m:o=0∨o=1∨o=2∨o=3∨o=4:=by omega
  rcases m with rfl|rfl|rfl|rfl|rfl;simp_all[b3Q,a3g,b1R]
  all_goals
   simp only[b3Q,b0N,a3g,List.getD_cons_zero,List.getD_cons_succ,Nat.zero_add,Nat.reduceAdd,W,a6j,Int.add_bmod_bmod,Int.bmod_add_bmod]
   grind
 grind
theorem b5q{warm rest:List Int}{o:Nat}(m:o≤4)(u:warm.length=o)(t:rest.length<100000):
  a7e (warm,rest,(o:Int))=some (a1q (bif warm.all a0A&&rest.all a0A then a3a (a3g o) rest warm else none)):=by
 have e:short warm:=by unfold short;omega
 have d:short rest:=by unfold short;omega
 unfold a7e;have n:¬ (o:Int)<0:=by omega
 have p:¬ (o:Int) > 4:=by omega
 have q:(((warm.length:Nat):Int) != (o:Int))=false:=by simp_all
 simp only[n,p,q,decide_false,cF,oB,a0N e,a0N d];cases hw1:warm.all a0A with
 |false=>rfl
 |true=>
  simp only[bT,cF,oB,a21];cases hw2:rest.all a0A with
  |false=>rfl
  |true=>
   have k:lim (0+warm.length)=true:=a0I (by omega);simp only[bT,cF,cT,k,c3W m,oB,a05,a17]
   have:=a1S (f:=a5s) rest (fun i out=>(rest,(o:Int),b0N o,(i:Int),out,())) (a7h (a3g o) (Sum.inr ((6:Int),([]:List Int),())))
    (fun i out=>o≤out.length∧out.length≤o+i) (fun out=>Sum.inl (out,()))
    (fun i h out r=>by
     have g:i<1000000:=by omega
     have c:short out:=by unfold short;omega
     have j:a0A rest[i]=true:=lA.1 hw2 _ (a04 h);simp only[a5s,dlt h,cT,a0C h,oB,b6i m r.1 c j,a1Y,a7h];cases hb:a0A (W (rest[i]+a3g o out))with
     |true=>
      simp only[cT,bT,cF,a0I (show out.length+1<1000000 by omega),a0B g];refine⟨fun s l=>?_,fun b hb=>(by grind)⟩;simp at l;subst l;exact⟨rfl,by grind,by grind⟩
     |false=>
      simp)
    (fun out _=>by simp[a5s]) (a:=warm) ⟨by omega,by omega⟩
   simp[a6u]at this;rw[this];cases a3a (a3g o) rest warm<;>rfl
def b3R(out:List Int):List Int→Nat→Int→Int
 | [],_,acc=>acc
 |c::r,i,acc=>bif decide (i<out.length)then b3R out r (i+1) (W (acc+W (c*atB out (i+1))))else acc
def a5F(c:List Int)(s:Int)(out:List Int):Int:=A0o .i64 (b3R out c 0 0) s
theorem c3X{out:List Int}(h:i<out.length)(g:short out):m0k out (wrap .i64 (wrap .i64 (((out.length:Nat):Int)-1)-(i:Int)))=some (atB out (i+1)):=by
 have g:out.length<1000000:=g
 grind[a0G,a0C,atB]
theorem c4E{out:List Int}(h:i<out.length)(g:out.all a0A=true):a0A (atB out (i+1))=true:=by
 grind[atB]
theorem b3S{out c:List Int}{s:Int}(f:short out)(a:short c):∀(k i:Nat)(acc:Int),i+k=c.length→
  y0s a3k (out,s,acc,c,(c.length:Int),(i:Int),())=some (s,b3R out (c.drop i) i acc,())
 |0,i,acc,h=>by
  obtain rfl:i=c.length:=by omega
  simp_all[a0D,a3k,b3R]
 |k+1,i,acc,h=>by
  have g:i<c.length:=by omega
  have e:out.length<1000000:=f;have d:c.length<1000000:=a;rw[a00 g,b3R];have j:wrap .i64 (((out.length:Nat):Int)-1)=((out.length:Nat):Int)-1:=a0G (by omega);have l:wrap .i64 (((out.length:Nat):Int)-1-(i:Int))=((out.length:Nat):Int)-1-(i:Int):=a0G (by omega)
  by_cases hi:i<out.length
  have b:decide (wrap .i64 (wrap .i64 (((out.length:Nat):Int)-1)-(i:Int))<0)=false:=by grind
  simp[hi];rw[a0E (s':=(out,s,W (acc+W (c[i]*atB out (i+1))),c,(c.length:Int),((i+1:Nat):Int),())) (by
   simp only[a3k,dlt g,cT,a0C g,oB,b,cF,c3X hi f,a0B (show i<1000000 by omega)])]
  exact b3S f a k (i+1) _ (by omega);have b:decide (wrap .i64 (wrap .i64 (((out.length:Nat):Int)-1)-(i:Int))<0)=true:=by grind
  simp[hi];simp_all[a0D,a3k,a0C]
theorem b2V{out:List Int}{s:Int}(g:short out)(h:short c)(f:0≤s):a4y (out,c,s)=some (a5F c s out):=by
 have:=b3S (s:=s) g h c.length 0 0 (by omega)
 grind[a4y,a5F]
theorem b6j{out c:List Int}{s:Int}(f:short out)(a:short c)(b:out.all a0A=true):∀(k i:Nat)(acc:Int),i+k=c.length→
  y0s a2U (out,c,s,acc,(i:Int),())=some (Sum.inl (s,b3R out (c.drop i) i acc,()))
 |0,i,acc,h=>by
  obtain rfl:i=c.length:=by omega
  simp_all[a0D,a2U,b3R]
 |k+1,i,acc,h=>by
  have g:i<c.length:=by omega
  have j:out.length<1000000:=f;have d:c.length<1000000:=a;rw[a00 g,b3R]
  by_cases hi:i<out.length
  simp[hi];rw[a0E (s':=(out,c,s,W (acc+W (c[i]*atB out (i+1))),((i+1:Nat):Int),())) (by
   simp only[a2U,dlt g,dlt hi,cT,c3X hi f,oB,a1Y,c4E hi b,bT,cF,a0C g,a0B (show i<1000000 by omega)])]
  exact b6j f a b k (i+1) _ (by omega);have e:decide ((i:Int)<((out.length:Nat):Int))=false:=by simp_all
  simp[hi];exact a0D (by simp only[a2U,dlt g,cT,e,cF])
theorem b4N{s:Int}(h:0≤s)(g:s≤64):wrap .u64 s=s:=a1c (by omega)
theorem b0H{out:List Int}{s:Int}(f:short out)(h:short c)(k:out.all a0A=true)(g:a6d c s=true):a3Z (out,c,s)=some (a5F c s out):=by
 have:=b6j (s:=s) f h k c.length 0 0 (by omega)
 simp at this;unfold a3Z;simp[a4H h,g,this];simp only[a6d,bA,dT]at g
 grind[b4N,a5F]
def a9i(warm rest c:List Int)(s:Int):Option (List Int):=bif warm.all a0A&&rest.all a0A then a3a (a5F c s) rest warm else none
theorem b2D{warm rest:List Int}{s:Int}(o:a6d c s=true)(w:warm.length=c.length)(v:rest.length<100000):
  a6G (warm,rest,c,s)=some (a1q (a9i warm rest c s)):=by
 have g:=o;simp only[a6d,bA,dT]at g;have k:short c:=by unfold short;omega
 have m:short warm:=by unfold short;omega
 have l:short rest:=by unfold short;omega
 unfold a6G;have q:(((warm.length:Nat):Int) != ((c.length:Nat):Int))=false:=by simp_all
 simp only[a8r k,o,oB,bT,cF,q,a4d m,a4d l,a9i];cases hw1:warm.all a0A with
 |false=>rfl
 |true=>
  simp only[bT,cF,oB,a21];cases hw2:rest.all a0A with
  |false=>rfl
  |true=>
   have p:wrap .i64 (((warm.length:Nat):Int)+((rest.length:Nat):Int))=((warm.length+rest.length:Nat):Int):=by grind[a0G]
   have r:(0:Int)≤((warm.length+rest.length:Nat):Int):=by omega
   simp only[bT,cF,cT,p,r,decide_true,tN,a0I (show warm.length+rest.length<1000000 by omega),a0I (show 0+warm.length<1000000 by omega),a02,a05,a17]
   have:=a1S (f:=a6n) rest (fun i out=>(c,s,rest,(rest.length:Int),(i:Int),out,())) (a7h (a5F c s) (Sum.inr ((6:Int),([]:List Int),())))
    (fun i out=>out.length≤warm.length+i) (fun out=>Sum.inl (out,()))
    (fun i h out u=>by
     have d:i<1000000:=by omega
     have j:short out:=by unfold short;omega
     have e:wrap .i64 (a5F c s out+rest[i])=W (rest[i]+a5F c s out):=by grind
     simp only[a6n,dlt h,cT,a0C h,oB,b2V j k g.2.2.1,e,a6c,a7h];cases hb:a0A (W (rest[i]+a5F c s out))with
     |true=>
      simp only[cT,bT,cF,a0I (show out.length+1<1000000 by omega),a0B d];refine⟨fun t n=>?_,fun b hb=>(by grind)⟩;simp at n;subst n;exact⟨rfl,by grind⟩
     |false=>
      simp)
    (fun out _=>by simp[a6n]) (a:=warm) (by omega)
   simp[a6u]at this;rw[this];cases a3a (a5F c s) rest warm<;>rfl
theorem b0U{warm rest c:List Int}{s:Int}(k:a6d c s=true)(t:warm.length=c.length)(r:rest.length<100000):
  a4F (warm,rest,c,s)=some (a1q (a9i warm rest c s)):=by
 have d:=k;simp only[a6d,bA,dT]at d;have g:short c:=by unfold short;omega
 have m:short warm:=by unfold short;omega
 have l:short rest:=by unfold short;omega
 unfold a4F;have o:(((warm.length:Nat):Int) != ((c.length:Nat):Int))=false:=by simp_all
 simp only[a4H g,k,oB,bT,cF,o,a0N m,a0N l,a9i];cases hw1:warm.all a0A with
 |false=>rfl
 |true=>
  simp only[bT,cF,oB,a21];cases hw2:rest.all a0A with
  |false=>rfl
  |true=>
   simp only[bT,cF,cT,a0I (show 0+warm.length<1000000 by omega),a05,a17]
   have:=a1S (f:=a4O) rest (fun i out=>(rest,c,s,(i:Int),out,())) (a7h (a5F c s) (Sum.inr ((6:Int),([]:List Int),())))
    (fun i out=>out.length≤warm.length+i∧out.all a0A=true) (fun out=>Sum.inl (out,()))
    (fun i h out p=>by
     have e:i<1000000:=by omega
     have j:short out:=by unfold short;omega
     simp only[a4O,dlt h,cT,a0C h,oB,b0H j g p.2 k,a1Y,a7h];cases hb:a0A (W (rest[i]+a5F c s out))with
     |true=>
      simp only[cT,bT,cF,a0I (show out.length+1<1000000 by omega),a0B e];refine⟨fun q n=>?_,fun b hb=>(by grind)⟩;simp at n;subst n;exact⟨rfl,by grind,by simp_all⟩
     |false=>
      simp)
    (fun out _=>by simp[a4O]) (a:=warm) ⟨by omega,hw1⟩
   simp[a6u]at this;rw[this];cases a3a (a5F c s) rest warm<;>rfl
def b3T(out:List Int)(lag:Int):List Int→Nat→Int→Int
 | [],_,acc=>acc
 |t::r,i,acc=>b3T out lag r (i+1) (bif decide (0≤(out.length:Int)-lag-1+i)then W (acc+W (t*out.getD ((out.length:Int)-lag-1+i).toNat 0))else acc)
def a3M(lag:Int)(t:List Int)(out:List Int):Int:=A0o .i64 (b3T out lag t 0 0) 6
theorem b2W{out:List Int}{j:Int}(g:0≤j)(h:j<out.length):m0k out j=some (out.getD j.toNat 0):=by
 obtain⟨n,rfl⟩:=a03 g;simp_all[a0C]
theorem c1S{n:Nat}(h:2≤lag)(g:lag≤1024)(k:n<1000000)(f:i<3):
  wrap .i64 (wrap .i64 (wrap .i64 ((n:Int)-lag)-1)+(i:Int))=(n:Int)-lag-1+i:=by
 grind[a0G]
theorem c3Y{n:Nat}(h:j<n):(l.take n).getD j 0=l.getD j 0:=by
 simp_all
theorem a7V{l t:List Int}{lag:Int}{n:Nat}(m:n≤l.length)(j:short l)(o:t.length=3)(a:2≤lag)(b:lag≤1024):∀(k i:Nat)(acc:Int),i+k=3→
  y0s a3V (l,(n:Int),lag,acc,t,(i:Int),())=some (b3T (l.take n) lag (t.drop i) i acc,())
 |0,i,acc,h=>by
  obtain rfl:i=t.length:=by omega
  grind[a0D,a3V,b3T]
 |k+1,i,acc,h=>by
  have g:i<t.length:=by omega
  have f:decide ((i:Int)<3)=true:=by grind
  have p:l.length<1000000:=j;have d:(l.take n).length=n:=by simp_all
  have e:=c1S (n:=n) (i:=i) a b (by omega) (by omega);rw[a00 g,b3T,d]
  by_cases hp:0≤(n:Int)-lag-1+i
  have c:decide ((n:Int)-lag-1+i≥0)=true:=by simp_all
  simp only[hp,decide_true,cT];rw[c3Y (show((n:Int)-lag-1+i).toNat<n by omega),a0E (s':=(l,(n:Int),lag,W (acc+W (t[i]*l.getD ((n:Int)-lag-1+i).toNat 0)),t,((i+1:Nat):Int),())) (by
   simp only[a3V,f,cT,a0C g,oB,e,c,b2W hp (show(n:Int)-lag-1+(i:Int)<(l.length:Int)by omega),a0B (show i<1000000 by omega)])]
  exact a7V m j o a b k (i+1) _ (by omega);have c:decide ((n:Int)-lag-1+i≥0)=false:=by simp_all
  simp[hp];rw[a0E (s':=(l,(n:Int),lag,acc,t,((i+1:Nat):Int),())) (by
   simp only[a3V,f,cT,a0C g,oB,e,c,cF,a0B (show i<1000000 by omega)])]
  exact a7V m j o a b k (i+1) _ (by omega)
theorem b1S{l t:List Int}{lag:Int}{n:Nat}(f:n≤l.length)(k:short l)(a:t.length=3)(h:2≤lag)(g:lag≤1024):
  a4m (l,(n:Int),lag,t)=some (a3M lag t (l.take n)):=by
 have:=a7V (t:=t) f k a h g 3 0 0 (by rfl)
 simp_all[a4m,a3M]
theorem b6k{out:List Int}(f:short out)(k:t.length=3)(h:2≤lag)(g:lag≤1024):a4m (out,(out.length:Int),lag,t)=some (a3M lag t out):=by
 simp_all[b1S]
theorem a7q{out t:List Int}{lag:Int}(d:short out)(l:t.length=3)(a:2≤lag)(b:lag≤1024):∀(k i:Nat)(acc:Int),i+k=3→
  y0s a3B (out,lag,acc,(i:Int),t,())=some (b3T out lag (t.drop i) i acc,())
 |0,i,acc,h=>by
  obtain rfl:i=t.length:=by omega
  grind[a0D,a3B,b3T]
 |k+1,i,acc,h=>by
  have f:i<t.length:=by omega
  have g:decide ((i:Int)<3)=true:=by grind
  have j:out.length<1000000:=d;have e:=c1S (i:=i) a b j (by omega);rw[a00 f,b3T]
  by_cases hp:0≤(out.length:Int)-lag-1+i
  have c:decide ((out.length:Int)-lag-1+i≥0)=true:=by simp_all
  simp only[hp,decide_true,cT];rw[a0E (s':=(out,lag,W (acc+W (t[i]*out.getD ((out.length:Int)-lag-1+i).toNat 0)),((i+1:Nat):Int),t,())) (by
   simp only[a3B,g,cT,a0C f,oB,e,c,b2W hp (show(out.length:Int)-lag-1+(i:Int)<(out.length:Int)by omega),a0B (show i<1000000 by omega)])]
  exact a7q d l a b k (i+1) _ (by omega);have c:decide ((out.length:Int)-lag-1+i≥0)=false:=by simp_all
  simp[hp];rw[a0E (s':=(out,lag,acc,((i+1:Nat):Int),t,())) (by
   simp only[a3B,g,cT,e,c,cF,a0B (show i<1000000 by omega)])]
  exact a7q d l a b k (i+1) _ (by omega)
theorem b1t{out:List Int}(f:short out)(k:t.length=3)(h:2≤lag)(g:lag≤1024):a5o (out,lag,t)=some (a3M lag t out):=by
 have:=a7q (out:=out) (t:=t) f k h g 3 0 0 (by rfl)
 simp_all[a5o,a3M]
def a9W(rest:List Int)(lag:Int)(t:List Int):Option (List Int):=bif rest.all a0A then a3a (a3M lag t) rest []else none
theorem b9G{rest:List Int}(d:a4P lag t=true)(e:t.length=3)(m:rest.length<100000):a9R (rest,lag,t)=some (a1q (a9W rest lag t)):=by
 have g:=d;simp only[a4P,bA,dT]at g;have k:short rest:=by unfold short;omega
 unfold a9R;simp only[b2p e,d,oB,bT,cF,a9f k,a9W];cases hw2:rest.all a0A with
 |false=>rfl
 |true=>
  have l:(0:Int)≤((rest.length:Nat):Int):=by omega
  simp[a0I k]
  have:=a1S (f:=a7B) rest (fun i out=>(lag,rest,(rest.length:Int),(i:Int),out,t,())) (a7h (a3M lag t) (Sum.inr ((6:Int),([]:List Int),())))
   (fun i out=>out.length=i) (fun out=>Sum.inl (out,()))
   (fun i h out j=>by
    have b:i<1000000:=by omega
    have c:short out:=by unfold short;omega
    have hp:=b6k (out:=out) (t:=t) (lag:=lag) c e g.1 g.2.1;rw[j]at hp;simp only[a7B,dlt h,cT,a0C h,oB,hp,a7p,a7h];cases hb:a0A (W (rest[i]+a3M lag t out))with
    |true=>
     simp only[cT,bT,cF,a0I (show out.length+1<1000000 by omega),a0B b];simp_all
    |false=>
     simp)
   (fun out _=>by simp[a7B]) (a:=[]) rfl
  simp[a6u]at this;rw[this];cases a3a (a3M lag t) rest []<;>rfl
theorem b6l{rest t:List Int}{lag:Int}(d:a4P lag t=true)(e:t.length=3)(l:rest.length<100000):a7L (rest,lag,t)=some (a1q (a9W rest lag t)):=by
 have g:=d;simp only[a4P,bA,dT]at g;have c:short rest:=by unfold short;omega
 unfold a7L;simp only[a9B e,d,oB,bT,cF,a0N c,a9W];cases hw2:rest.all a0A with
 |false=>rfl
 |true=>
  simp
  have:=a1S (f:=a5P) rest (fun i out=>(rest,lag,(i:Int),out,t,())) (a7h (a3M lag t) (Sum.inr ((6:Int),([]:List Int),())))
   (fun i out=>out.length=i) (fun out=>Sum.inl (out,()))
   (fun i h out j=>by
    have k:i<1000000:=by omega
    have b:short out:=by unfold short;omega
    simp only[a5P,dlt h,cT,a0C h,oB,b1t b e g.1 g.2.1,a1Y,a7h];cases hb:a0A (W (rest[i]+a3M lag t out))with
    |true=>
     simp only[cT,bT,cF,a0I (show out.length+1<1000000 by omega),a0B k];simp_all
    |false=>
     simp)
   (fun out _=>by simp[a5P]) (a:=[]) rfl
  simp[a6u]at this;rw[this];cases a3a (a3M lag t) rest []<;>rfl
def b2E{β:Type}(n:Int)(bad:β)(out:List Int)(x:Int):List Int ⊕ β:=bif a0A x&&a0A (A0n .i64 x n)then .inl (out++[A0n .i64 x n])else .inr bad
def upO(n:Int)(l:List Int):Option (List Int):=bif l.all (fun x=>a0A x&&a0A (A0n .i64 x n))then some (l.map fun x=>A0n .i64 x n)else none
theorem b2q{β:Type}(n:Int)(h:β)(g:List Int→β):∀(l out:List Int),a9e g (a2s (b2E n h) l out)=match upO n l with|some r=>g (out++r)|none=>h
 | [],out=>by simp[a2s,a9e,upO]
 |x::l,out=>by
  simp only[a2s,b2E,upO,a26];cases hx:(a0A x&&a0A (A0n .i64 x n))with
  |true=>
   simp only[cT,a21];rw[b2q n h g l _];simp only[upO];cases l.all (fun x=>a0A x&&a0A (A0n .i64 x n))with
   |true=>simp
   |false=>rfl
  |false=>rfl
theorem b9H(d:0≤n)(e:n≤30)(m:l.length<100000):a8c (l,n)=some (a1q (upO n l)):=by
 have c:short l:=by unfold short;omega
 have g:¬ n<0:=by omega
 have b:¬ n > 30:=by omega
 unfold a8c;simp[g,b]
 have:=a1S (f:=a7C) l (fun i out=>(n,l,(l.length:Int),(i:Int),out,())) (b2E n (Sum.inr ((6:Int),([]:List Int),())))
  (fun i out=>out.length=i) (fun out=>Sum.inl (out,()))
  (fun i h out j=>by
   have k:i<1000000:=by omega
   simp only[a7C,dlt h,cT,a0C h,oB,b2C,b2E,g,decide_false,cF];cases hb:a0A l[i]with
   |true=>
    cases hb2:a0A (A0n .i64 l[i] n)with
    |true=>
     simp only[cT,bT,cF,oB,g,decide_false,a0I (show out.length+1<1000000 by omega),a0B k,a02];simp_all
    |false=>
     simp
   |false=>
    simp)
  (fun out _=>by simp[a7C]) (a:=[]) rfl
 simp[b2q]at this;rw[this];cases upO n l<;>rfl
theorem c3Z(d:0≤n)(j:n≤30)(o:l.length<100000):b4r (l,n)=some (a1q (upO n l)):=by
 have e:short l:=by unfold short;omega
 have g:¬ n<0:=by omega
 have c:¬ n > 30:=by omega
 have b:=b4N d (by omega);unfold b4r;simp[g,c]
 have:=a1S (f:=b1c) l (fun i out=>(l,n,(i:Int),out,())) (b2E n (Sum.inr ((6:Int),([]:List Int),())))
  (fun i out=>out.length=i) (fun out=>Sum.inl (out,()))
  (fun i h out m=>by
   have k:i<1000000:=by omega
   simp only[b1c,dlt h,cT,a0C h,oB,a1Y,b2E,b,g,decide_false,cF];cases hb:a0A l[i]with
   |true=>
    cases hb2:a0A (A0n .i64 l[i] n)with
    |true=>
     simp only[cT,bT,cF,oB,b,g,decide_false,a0C h,a0I (show out.length+1<1000000 by omega),a0B k,a02];simp_all
    |false=>
     simp
   |false=>
    simp)
  (fun out _=>by simp[b1c]) (a:=[]) rfl
 simp[b2q]at this;rw[this];cases upO n l<;>rfl
@[reducible] def Fil:Type:=Int×((List Int)×((List Int)×Unit))
variable {f:Fil}
def a1r(x:Int):Int:=v0s (v0r x (-1073741824)) 1073741823
def b6m(x:Int):Int:=v0s (v0r x (-1048576)) 1048576
theorem b3U(x:Int):-1073741824≤a1r x∧a1r x≤1073741823:=by
 grind[a1r,b7r,c1R]
theorem b9I(x:Int):-1048576≤b6m x∧b6m x≤1048576:=by
 grind[b6m,b7r,c1R]
def b7t:List Int→List Int→Int→Int
 |a::w,b::h,acc=>b7t w h (W (acc+W (a*b)))
 |_,_,acc=>acc
def a0S(f:Fil):Int:=a1r (A0o .i64 (b7t f.2.1 f.2.2.1 0) 16)
structure FilOk (f:Fil):Prop where
 len:f.2.1.length=f.2.2.1.length
 pos:1≤f.2.1.length
 most:f.2.1.length≤32
 rate:0≤f.1∧f.1≤8
 small:∀x∈f.2.1,-1048576≤x∧x≤1048576
theorem a8w(h:i<l.length):a68 l i 0=l[i]:=by
 simp_all
theorem b1u{f:Fil}(c:FilOk f):∀(k i:Nat)(acc:Int),i+k=f.2.1.length→
  y0s a3i (acc,(f.2.1.length:Int),(i:Int),f,())=some (b7t (f.2.1.drop i) (f.2.2.1.drop i) acc,f,())
 |0,i,acc,h=>by
  obtain rfl:i=f.2.1.length:=by omega
  rw[a31,a0D (b:=(acc,f,())) (by simp[a3i])];rfl
 |k+1,i,acc,h=>by
  have g:i<f.2.1.length:=by omega
  have a:i<f.2.2.1.length:=by rw[←c.len];omega
  have e:=c.most;rw[a00 g,a00 a,b7t];have d:decide ((0:Int)≤(i:Int))=true:=by simp
  rw[a0E (s':=(W (acc+W (f.2.1[i]*f.2.2.1[i])),(f.2.1.length:Int),((i+1:Nat):Int),f,())) (by
   simp only[a3i,dlt g,dlt a,d,cT,a02,tN,a8w g,a8w a,a0B (show i<1000000 by omega)])]
  exact b1u c k (i+1) _ (by omega)
theorem a6e(h:FilOk f):a1Z f=some (a0S f,f):=by
 have:=b1u h f.2.1.length 0 0 (by omega)
 simp at this;unfold a1Z;simp only[this,oB,a5f];rfl
theorem b2F{f:Fil}(c:FilOk f):∀(k i:Nat)(acc:Int),i+k=f.2.1.length→
  y0s a3L (acc,(i:Int),f,())=some (b7t (f.2.1.drop i) (f.2.2.1.drop i) acc,f,())
 |0,i,acc,h=>by
  obtain rfl:i=f.2.1.length:=by omega
  rw[a31,a0D (b:=(acc,f,())) (by simp[a3L])];rfl
 |k+1,i,acc,h=>by
  have g:i<f.2.1.length:=by omega
  have a:i<f.2.2.1.length:=by rw[←c.len];omega
  have e:=c.most;rw[a00 g,a00 a,b7t];have d:decide ((0:Int)≤(i:Int))=true:=by simp
  rw[a0E (s':=(W (acc+W (f.2.1[i]*f.2.2.1[i])),((i+1:Nat):Int),f,())) (by
   simp only[a3L,dlt g,dlt a,d,cT,a02,tN,a8w g,a8w a,a0B (show i<1000000 by omega)])]
  exact b2F c k (i+1) _ (by omega)
theorem a9j{f:Fil}(h:FilOk f):a2C f=some (a0S f,f):=by
 have:=b2F h f.2.1.length 0 0 (by omega)
 simp at this;unfold a2C;simp only[this,oB,a8W];rfl
def a5R(x:Int):Int:=if 0<x then 1 else if x<0 then -1 else 0
def a9X(r:Int)(x g:Int):Int:=a5R (x-g)*2^r.toNat
def b0O(st:Int)(w h:Int):Int:=b6m (W (w+a5R h*st))
def a7M(f:Fil)(x:Int):Fil:=
 (f.1,a20 (b0O (a9X f.1 (a1r x) (a0S f))) f.2.1 f.2.2.1,a1r x::f.2.2.1.take (f.2.2.1.length-1),f.2.2.2)
theorem b2X(k:FilOk f)(x:Int):FilOk (a7M f x):=by
 obtain⟨a,b,c,g,d⟩:=k;have e:(a20 (b0O (a9X f.1 (a1r x) (a0S f))) f.2.1 f.2.2.1).length=f.2.1.length:=by simp_all
 refine⟨?_,?_,?_,g,?_⟩;show(a20 _ _ _).length=(a1r x::f.2.2.1.take (f.2.2.1.length-1)).length;simp_all;show 1≤(a20 _ _ _).length;omega;show(a20 _ _ _).length≤32;omega;intro y h;have h:y∈a20 (b0O (a9X f.1 (a1r x) (a0S f))) f.2.1 f.2.2.1:=h;obtain⟨i,j,rfl⟩:=List.mem_iff_getElem.1 h
 simp
 exact b9I _
theorem a6U(x:Int):(0<x∧a5R x=1)∨(x<0∧a5R x=-1)∨(x=0∧a5R x=0):=by
 unfold a5R;omega
theorem b5r{r:Int}(h:0≤r∧r≤8):(2:Int)^r.toNat≤256∧1≤(2:Int)^r.toNat:=by
 have:r.toNat=0∨r.toNat=1∨r.toNat=2∨r.toNat=3∨r.toNat=4∨r.toNat=5∨r.toNat=6∨r.toNat=7∨r.toNat=8:=by omega
 rcases this with e|e|e|e|e|e|e|e|e<;>rw[e]<;>decide
theorem b7H{r:Int}(h:0≤r∧r≤8)(g:-1≤x∧x≤1):A0n .i64 x r=x*2^r.toNat:=by
 have hp:=b5r h;have hb:min r.toNat 64=r.toNat:=by omega
 unfold A0n;show wrap .i64 (x*2^(min r.toNat 64))=_;rw[hb]
 have:x=-1∨x=0∨x=1:=by omega
 rcases this with rfl|rfl|rfl
 all_goals grind[a0G]
theorem b8y(a:FilOk f)(x:Int):
  (bif decide (a1r x > a0S f)then bif decide (f.1<0)then(none:Option (Int×Int×Fil×Unit))else some (a1r x,A0n .i64 (1:Int) f.1,f,())
   else bif decide (a1r x<a0S f)then bif decide (f.1<0)then none else some (a1r x,wrap .i64 (0-(A0n .i64 (1:Int) f.1)),f,())
   else some (a1r x,(0:Int),f,()))=some (a1r x,a9X f.1 (a1r x) (a0S f),f,()):=by
 have d:¬ f.1<0:=by have:=a.rate;omega
 have hp:=b5r a.rate;have b:=b7H a.rate (x:=1) (by omega);rw[Int.one_mul]at b;rcases a6U (a1r x-a0S f)with⟨c,h⟩|⟨c,h⟩|⟨c,h⟩;have g:a1r x > a0S f:=by omega
 simp only[g,d,decide_true,decide_false,cT,cF,a9X,h,Int.one_mul,b];have g:¬ a1r x > a0S f:=by omega
 have k:a1r x<a0S f:=by omega
 simp only[g,k,d,decide_true,decide_false,cT,cF,a9X,h,b]
 grind[a0G]
 have g:¬ a1r x > a0S f:=by omega
 have k:¬ a1r x<a0S f:=by omega
 simp only[g,k,decide_false,cF,a9X,h,Int.zero_mul]
theorem b9J{z:List Int}(f:i<l.length)(k:z.length=l.length):(z.take i++l.drop i).set i (z[i]'(by omega))=z.take (i+1)++l.drop (i+1):=by
 have h:(z.take i).length=i:=by grind
 have g:z.take (i+1)=z.take i++[z[i]'(by omega)]:=by simp
 rw[a57 _ _ (by omega),h,a51,a00 f,a47,g,aA];rfl
theorem c4F{z:List Int}(h:i<l.length)(g:z.length=l.length):a68 (z.take i++l.drop i) i 0=l[i]:=by
 grind
theorem c4a(g:FilOk f)(h:i<f.2.1.length):-1048576≤f.2.1[i]∧f.2.1[i]≤1048576:=g.small _ (a04 h)
theorem b6n(n:FilOk f){x1 st:Int}(u:-256≤st∧st≤256):
  y0s a2m (x1,st,(f.2.2.1.length:Int),(0:Int),f,())=some (x1,(f.1,a20 (b0O st) f.2.1 f.2.2.1,f.2.2),()):=by
 obtain⟨z,w⟩:∃z,a20 (b0O st) f.2.1 f.2.2.1=z:=⟨_,rfl⟩;have q:=n.len;have d:z.length=f.2.1.length:=by grind
 have v:=n.most
 have:=a0Q (f:=a2m) (fun i=>(x1,st,(f.2.2.1.length:Int),(i:Int),(f.1,z.take i++f.2.1.drop i,f.2.2),()))
  f.2.2.1.length (b:=(x1,(f.1,z,f.2.2),())) (fun i p=>by
   have k:i<f.2.1.length:=by omega
   have j:decide ((0:Int)≤(i:Int))=true:=by simp
   have s:(z.take i++f.2.1.drop i).length=f.2.1.length:=by grind
   have g:decide ((i:Int)<((z.take i++f.2.1.drop i).length:Int))=true:=by simp_all
   have o:z[i]'(by omega)=b0O st f.2.1[i] f.2.2.1[i]:=by grind
   have t:=c4a n k;have h:=b9J k d;rw[o]at h;simp only[a2m,dlt p,j,g,cT,a02,tN,a8w p,c4F k d];rcases a6U f.2.2.1[i]with⟨m,a⟩|⟨m,a⟩|⟨m,a⟩;have c:f.2.2.1[i] > 0:=m;simp[b0O,a]at h;simp only[c,decide_true,cT,oB,j,g,a02,tN,a0B (show i<1000000 by omega)];exact congrArg (fun l=>some (Sum.inl (x1,st,(f.2.2.1.length:Int),((i+1:Nat):Int),(f.1,l,f.2.2),()))) h;have c:¬ f.2.2.1[i] > 0:=by omega
   have e:f.2.1[i]+-1*st=f.2.1[i]-st:=by omega
   simp only[b0O,a,e]at h;simp only[c,m,decide_true,decide_false,cT,cF,oB,j,g,a02,tN,a0B (show i<1000000 by omega)];exact congrArg (fun l=>some (Sum.inl (x1,st,(f.2.2.1.length:Int),((i+1:Nat):Int),(f.1,l,f.2.2),()))) h;have c:¬ f.2.2.1[i] > 0:=by omega
   have r:¬ f.2.2.1[i]<0:=by omega
   have e:W (f.2.1[i]+0*st)=f.2.1[i]:=by rw[Int.zero_mul,Int.add_zero];exact a0G (by omega)
   simp only[b0O,a,e]at h;simp only[c,r,decide_false,cF,oB,j,g,cT,a02,tN,a0B (show i<1000000 by omega)];exact congrArg (fun l=>some (Sum.inl (x1,st,(f.2.2.1.length:Int),((i+1:Nat):Int),(f.1,l,f.2.2),()))) h)
  (by
   simp_all[a09,a2m])
 simp_all
theorem c1s(k:FilOk f)(x g:Int):-256≤a9X f.1 x g∧a9X f.1 x g≤256:=by
 have hp:=b5r k.rate;unfold a9X;rcases a6U (x-g)with⟨-,h⟩|⟨-,h⟩|⟨-,h⟩<;>rw[h]<;>omega
theorem b3v(h:FilOk f)(x:Int):a3l (f,x)=some (a7M f x):=by
 unfold a3l;have d:=b8y h x;simp only[a5f,oB,a6e h];have g:(bif decide (v0s (v0r x (-1073741824)) 1073741823 > a0S f)then bif decide (f.1<0)then(none:Option (Int×Int×Fil×Unit))else some (v0s (v0r x (-1073741824)) 1073741823,A0n .i64 (1:Int) f.1,f,())
   else bif decide (v0s (v0r x (-1073741824)) 1073741823<a0S f)then bif decide (f.1<0)then none else some (v0s (v0r x (-1073741824)) 1073741823,wrap .i64 (0-(A0n .i64 (1:Int) f.1)),f,())
   else some (v0s (v0r x (-1073741824)) 1073741823,(0:Int),f,()))=_:=d
 rw[g];simp only[oB,b6n h (c1s h _ _)];have i:f.2.2.1.length≥1:=by have:=h.pos;have:=h.len;omega
 have b:decide ((1:Int)≤((f.2.2.1.length:Nat):Int))=true:=by grind
 have e:p0h f.2.2.1 1 (f.2.2.1.length-1) f.2.2.1=f.2.2.1.take 1++f.2.2.1.take (f.2.2.1.length-1):=by
  simp_all[p0h]
 have j:(f.2.2.1.take 1++f.2.2.1.take (f.2.2.1.length-1)).length=f.2.2.1.length:=by simp_all
 have c:decide ((0:Int)<(((f.2.2.1.take 1++f.2.2.1.take (f.2.2.1.length-1)).length:Nat):Int))=true:=by grind
 simp only[b,cT,e,c];congr 1;have k:(f.2.2.1.take 1++f.2.2.1.take (f.2.2.1.length-1)).set 0 (a1r x)=a1r x::f.2.2.1.take (f.2.2.1.length-1):=by
  cases hc:f.2.2.1 with
  |nil=>simp_all
  |cons a l=>simp
 rw[k];rfl
theorem b4O(x:Int):a8X x=some (a5R x):=by
 grind[a8X,a6U]
theorem b8z(k:FilOk f){x1 s:Int}(w:-1≤s∧s≤1):
  y0s a2V (x1,s,(0:Int),([]:List Int),([]:List Int),f,())=some (x1,a20 (b0O (s*2^f.1.toNat)) f.2.1 f.2.2.1,([]:List Int),f,()):=by
 obtain⟨z,x⟩:∃z,a20 (b0O (s*2^f.1.toNat)) f.2.1 f.2.2.1=z:=⟨_,rfl⟩;have j:=k.len;have u:z.length=f.2.1.length:=by grind
 have v:=k.most;have r:=k.rate;have t:wrap .u64 f.1=f.1:=a1c (by omega);have a:¬ f.1<0:=by omega
 have:=a0Q (f:=a2V) (fun i=>(x1,s,(i:Int),z.take i,([]:List Int),f,()))
  f.2.1.length (b:=(x1,z,([]:List Int),f,())) (fun i e=>by
   have h:i<f.2.2.1.length:=by omega
   have p:decide ((0:Int)≤(i:Int))=true:=by simp
   have d:z[i]'(by omega)=b0O (s*2^f.1.toNat) f.2.1[i] f.2.2.1[i]:=by grind
   have c:-1≤s*a5R f.2.2.1[i]∧s*a5R f.2.2.1[i]≤1:=by
    rcases a6U f.2.2.1[i]with⟨-,g⟩|⟨-,g⟩|⟨-,g⟩<;>rw[g]<;>omega
   have l:wrap .i64 (s*a5R f.2.2.1[i])=s*a5R f.2.2.1[i]:=a0G (by omega);have m:=b7H r c;have n:v0s (v0r (wrap .i64 (f.2.1[i]+s*a5R f.2.2.1[i]*2^f.1.toNat)) (-1048576)) 1048576=z[i]'(by omega):=by
    rw[d,show s*a5R f.2.2.1[i]*2^f.1.toNat=a5R f.2.2.1[i]*(s*2^f.1.toNat)by grind];rfl
   have o:z.take i++[z[i]'(by omega)]=z.take (i+1):=by simp
   have q:(z.take i).length+1<1000000:=by grind
   simp only[a2V,dlt e,dlt h,p,cT,a02,tN,a8w e,a8w h,b4O,oB,t,a,decide_false,cF,a0I q,l,m,n,a05,o,a0B (show i<1000000 by omega)])
  (by
   simp_all[a09,a2V])
 simp_all
theorem b9K(f:Fil):-1073741824≤a0S f∧a0S f≤1073741823:=b3U _
theorem b4P(h:FilOk f)(x:Int):a4a (f,x)=some (a7M f x):=by
 unfold a4a;have m:=b3U x;have n:=b9K f;have b:wrap .i64 (a1r x-a0S f)=a1r x-a0S f:=a0G (by omega);have l:-1≤a5R (a1r x-a0S f)∧a5R (a1r x-a0S f)≤1:=by
  rcases a6U (a1r x-a0S f)with⟨-,g⟩|⟨-,g⟩|⟨-,g⟩<;>rw[g]<;>omega
 have d:a8W x=some (a1r x):=rfl;have o:=h.most;have k:=h.len;have a:=h.pos;have c:wrap .i64 (((f.2.2.1.length:Nat):Int)-1)=((f.2.2.1.length-1:Nat):Int):=by grind[a0G]
 have e:decide ((0:Int)≤((f.2.2.1.length-1:Nat):Int))=true:=by simp
 have i:decide (((f.2.2.1.length-1:Nat):Int)≤((f.2.2.1.length:Nat):Int))=true:=by simp
 have j:([a1r x]:List Int).length+(f.2.2.1.take (f.2.2.1.length-1)).length<1000000:=by grind
 simp only[d,oB,a9j h,b,b4O,b8z h l,List.length_nil,a0I (show 0+1<1000000 by omega),cT,c,e,i,a02,tN,a08,a05,a17,a0I j];rfl
@[reducible] def Stg:Type:=Int×(Int×Unit)
variable {st:List Stg}
theorem a7r{l:List Int}(h:short l):a1n l=some l:=by
 have g:lim (0+l.length)=true:=a0I (by unfold short at h;omega);simp_all[a1n,x0e]
def a6f(s:Stg):Fil:=(s.2.1,a01 s.1.toNat 0,a01 s.1.toNat 0,())
theorem b4t{s:Stg}(h:a2Z s=true):FilOk (a6f s):=by
 simp[a2Z]at h;refine⟨by rfl,by simp[a6f];omega,by simp[a6f];omega,⟨h.2.2.1,h.2.2.2⟩,fun x g=>?_⟩;simp_all[a6f]
theorem b1v{s:Stg}(h:a2Z s=true):a7Y s=some (a6f s,0):=by
 have g:=h;simp[a2Z]at g;unfold a7Y;have f:decide ((0:Int)≤s.1)=true:=by grind
 have k:decide (s.1≤s.1)=true:=by simp
 have a:lim s.1.toNat=true:=a0I (by omega);simp only[a9C,h,oB,bT,cF,f,k,a,a02,cT];rfl
theorem a6v{s:Stg}(h:a2Z s=true):a5p s=some (a6f s,0):=by
 have g:=h;simp[a2Z]at g;unfold a5p;have f:decide ((0:Int)≤s.1)=true:=by grind
 have k:decide (s.1≤s.1)=true:=by simp
 have a:lim s.1.toNat=true:=a0I (by omega);simp only[a9g,h,oB,bT,cF,f,k,a,a02,cT];rfl
def stO:List Int→List Int→Fil→Option (List Int)
 | [],done,_=>some done
 |r::rs,done,f=>bif a0A (W (a0S f+r))then stO rs (done++[W (a0S f+r)]) (a7M f (W (a0S f+r)))else none
theorem b1g:∀(l done:List Int)(f:Fil){r},stO l done f=some r→r.length=done.length+l.length
 | [],done,f,r,h=>by simp_all[stO]
 |x::l,done,f,r,h=>by
  simp[stO]at h;cases hw:a0A (W (a0S f+x))with
  |true=>rw[hw]at h;rw[b1g l _ _ h];grind
  |false=>simp_all
theorem a8E{done:List Int}(g:done.length=i)(h:i<row.length):a68 (done++row.drop i) i 0=row[i]:=by
 grind
theorem b2Y{done:List Int}(g:done.length=i)(h:i<row.length)(y:Int):(done++row.drop i).set i y=(done++[y])++row.drop (i+1):=by
 rw[a57 _ _ (by omega),g,a51,a00 h,a47,aA];rfl
theorem b1T{row b4:List Int}{b5:Int}(e:short row):∀(k i:Nat)(done:List Int)(f:Fil),i+k=row.length→done.length=i→FilOk f→
  ∃z,y0s a5i ((row.length:Int),(i:Int),b4,b5,done++row.drop i,f,())=some z∧
   match stO (row.drop i) done f with
   |some r=>z=.inl (b4,b5,r,())
   |none=>∃q,z=.inr (([]:List Int),(6:Int),q,())
 |0,i,done,f,h,hd,hf=>by
  obtain rfl:i=row.length:=by omega
  rw[a31,a44];exact⟨_,a0D (b:=Sum.inl (b4,b5,done,())) (by simp[a5i]),rfl⟩
 |k+1,i,done,f,h,hd,hf=>by
  have g:i<row.length:=by omega
  have j:row.length<1000000:=e;have c:decide ((0:Int)≤(i:Int))=true:=by simp
  have l:(done++row.drop i).length=row.length:=by grind
  have d:decide ((i:Int)<(((done++row.drop i).length:Nat):Int))=true:=by simp_all
  have a:stO (row.drop i) done f=bif a0A (W (a0S f+row[i]))then stO (row.drop (i+1)) (done++[W (a0S f+row[i])]) (a7M f (W (a0S f+row[i])))else none:=by
   rw[a00 g];rfl
  rw[a];cases hw:a0A (W (a0S f+row[i]))with
  |true=>
   rw[a0E (s':=((row.length:Int),((i+1:Nat):Int),b4,b5,(done++[W (a0S f+row[i])])++row.drop (i+1),a7M f (W (a0S f+row[i])),())) (by
    simp only[a5i,dlt g,c,d,cT,a02,a6e hf,oB,tN,a8E hd g,a4Z,hw,bT,cF,b3v hf,b2Y hd g,a0B (show i<1000000 by omega)])]
   exact b1T e k (i+1) _ _ (by omega) (by simp_all) (b2X hf _)
  |false=>
   exact⟨_,a0D (b:=Sum.inr (([]:List Int),(6:Int),done++row.drop i,())) (by
    simp only[a5i,dlt g,c,d,cT,a02,a6e hf,oB,tN,a8E hd g,a4Z,hw,a16]),_,rfl⟩
theorem b3w{row:List Int}{st:List Stg}{n:Int}(c:short row):∀(k i:Nat)(done:List Int)(f:Fil),i+k=row.length→done.length=i→FilOk f→
  y0s a3F (st,n,(i:Int),done++row.drop i,f,())=some (match stO (row.drop i) done f with
   |some r=>.inl (st,n,r,())
   |none=>.inr ((6:Int),([]:List Int),()))
 |0,i,done,f,h,hd,hf=>by
  obtain rfl:i=row.length:=by omega
  rw[a31,a44];have l:done.length=row.length:=hd;exact a0D (b:=Sum.inl (st,n,done,())) (by simp_all[a3F])
 |k+1,i,done,f,h,hd,hf=>by
  have g:i<row.length:=by omega
  have m:row.length<1000000:=c;have d:decide ((0:Int)≤(i:Int))=true:=by simp
  have l:(done++row.drop i).length=row.length:=by grind
  have e:decide ((i:Int)<(((done++row.drop i).length:Nat):Int))=true:=by simp_all
  have a:stO (row.drop i) done f=bif a0A (W (a0S f+row[i]))then stO (row.drop (i+1)) (done++[W (a0S f+row[i])]) (a7M f (W (a0S f+row[i])))else none:=by
   rw[a00 g];rfl
  have j:wrap .i64 (row[i]+a0S f)=W (a0S f+row[i]):=by grind
  rw[a];cases hw:a0A (W (a0S f+row[i]))with
  |true=>
   rw[a0E (s':=(st,n,((i+1:Nat):Int),(done++[W (a0S f+row[i])])++row.drop (i+1),a7M f (W (a0S f+row[i])),())) (by
    simp only[a3F,d,e,cT,a02,a9j hf,oB,tN,a8E hd g,j,a1Y,hw,bT,cF,b4P hf,b2Y hd g,a0B (show i<1000000 by omega)])]
   exact b3w c k (i+1) _ _ (by omega) (by simp_all) (b2X hf _)
  |false=>
   exact a0D (by
    simp_all[a3F,a9j,a1Y])
def lO:List Stg→List Int→Option (List Int)
 | [],row=>some row
 |s::r,row=>match stO row [] (a6f s)with
  |some row'=>lO r row'
  |none=>none
theorem c1t{s:Stg}{b4:List Int}(h:a2Z s=true)(b:short row):
  ∃z,a7c k s (st,b4,(0:Int),row,())=some z∧match stO row [] (a6f s)with
   |some r=>z=.inl (st,b4,(0:Int),r,())
   |none=>∃q,z=.inr (.ret,st,([]:List Int),(6:Int),q,()):=by
 obtain⟨z,g,f⟩:=b1T (b4:=b4) (b5:=0) b row.length 0 [] (a6f s) (by omega) rfl (b4t h);simp at g f;unfold a7c;have a:((0:Int) != 0)=false:=rfl;simp[b1v h,g];cases hst:stO row [] (a6f s)with
 |some r=>
  simp_all
 |none=>
  grind
theorem b4Q{st l:List Stg}{b4:List Int}(f:∀s∈l,a2Z s=true):∀(n:Nat)(row:List Int),n≤l.length→short row→
  ∃z,l0f a7c l n (st,b4,(0:Int),row,())=some z∧match lO (l.take n).reverse row with
   |some r=>z=.inl (st,b4,(0:Int),r,())
   |none=>∃q,z=.inr (.ret,st,([]:List Int),(6:Int),q,())
 |0,row,_,_=>⟨_,rfl,rfl⟩
 |n+1,row,hn,hs=>by
  have h:n<l.length:=by omega
  obtain⟨z,a,g⟩:=c1t (st:=st) (k:=(n:Int)) (b4:=b4) (f _ (a04 h)) hs;have b:(l.take (n+1)).reverse=l[n]::(l.take n).reverse:=by simp
  simp[l0f,lG h,a,b,lO];cases hst:stO row [] (a6f l[n])with
  |some r=>
   rw[hst]at g;simp at g;subst g;exact b4Q f n r (by omega) (by have:=b1g _ _ _ hst;unfold short at hs⊢;simp_all)
  |none=>
   grind
def a8f(rest:List Int)(st:List Stg):Option (List Int):=bif rest.all a0A then lO st.reverse rest else none
theorem b8A{rest:List Int}(a:a4I st=true)(c:rest.length<100000):a8O (rest,st)=some (a1q (a8f rest st)):=by
 have f:=a;simp only[a4I,bA,dT]at f;have k:short st:=by unfold short;omega
 have h:short rest:=by unfold short;omega
 unfold a8O;simp only[b1s k,a,oB,bT,cF,b1r h,a8f];cases hw:rest.all a0A with
 |false=>rfl
 |true=>
  obtain⟨z,b,g⟩:=b4Q (st:=st) (b4:=[]) (lA.1 f.2) st.length rest (a34 _) h;rw[a18]at g;simp[a7r h,a0I k,b];cases hst:lO st.reverse rest with
  |some r=>
   rw[hst]at g;simp at g;subst g;rfl
  |none=>
   rw[hst]at g;obtain⟨q,rfl⟩:=g;rfl
theorem b6o{l:List Stg}(a:∀s∈l,a2Z s=true)(g:l.length≤3):∀(n:Nat)(row:List Int),n≤l.length→short row→
  y0s a5t (l,(n:Int)-1,row,())=some (match lO (l.take n).reverse row with
   |some r=>.inl (r,())
   |none=>.inr ((6:Int),([]:List Int),()))
 |0,row,_,_=>a0D (by rfl)
 |n+1,row,hn,hs=>by
  have f:n<l.length:=by omega
  have h:=a _ (a04 f);have k:=b3w (st:=l) (n:=(n:Int)) hs row.length 0 [] (a6f l[n]) (by omega) rfl (b4t h);simp at k;have c:(l.take (n+1)).reverse=l[n]::(l.take n).reverse:=by simp
  have b:((n+1:Nat):Int)-1=(n:Int):=by omega
  have e:decide ((n:Int)≥0)=true:=by simp
  have d:wrap .i64 ((n:Int)-1)=(n:Int)-1:=a0G (by omega);rw[c,b];simp[lO];cases hst:stO row [] (a6f l[n])with
  |some r=>
   rw[hst]at k;rw[a0E (s':=(l,(n:Int)-1,r,())) (by simp_all[a5t,a0C,a6v])];exact b6o a g n r (by omega) (by have:=b1g _ _ _ hst;unfold short at hs⊢;simp_all)
  |none=>
   simp_all[a0D,a5t,a0C,a6v]
theorem b5s{rest:List Int}{st:List Stg}(a:a4I st=true)(c:rest.length<100000):a7f (rest,st)=some (a1q (a8f rest st)):=by
 have h:=a;simp only[a4I,bA,dT]at h;have f:short st:=by unfold short;omega
 have g:short rest:=by unfold short;omega
 unfold a7f;simp only[a9h f,a,oB,bT,cF,a0N g,a8f];cases hw:rest.all a0A with
 |false=>rfl
 |true=>
  have k:=b6o (lA.1 h.2) h.1 st.length rest (a34 _) g;rw[a18]at k;have b:wrap .i64 (((st.length:Nat):Int)-1)=((st.length:Nat):Int)-1:=a0G (by omega);simp only[bT,cF,cT,a0I (show 0+rest.length<1000000 by omega),b,a05,a17,k,oB];cases lO st.reverse rest<;>rfl
def a2L(n warm:Int):Bool:=decide (1≤n)&&(decide (n≤4096)&&(decide (0≤warm)&&decide (warm≤n)))
theorem b3V(n warm:Int):a7Z (n,warm)=some (a2L n warm):=by
 grind[a7Z,a2L]
theorem b6p(n warm:Int):b1p (n,warm)=some (a2L n warm):=by
 grind[b1p,a2L]
theorem c4G(h:o≤8):1≤2^o∧2^o≤256:=by
 have:o=0∨o=1∨o=2∨o=3∨o=4∨o=5∨o=6∨o=7∨o=8:=by omega
 grind
theorem b2Z(h:o≤64):A0o .i64 (N:Int) (o:Int)=((N / 2^o:Nat):Int):=by
 unfold A0o;show Int.fdiv (N:Int) (2^(min (o:Int).toNat 64))=_
 grind
theorem b3a(h:o≤64)(g:N*2^o<9223372036854775808):A0n .i64 (N:Int) (o:Int)=((N*2^o:Nat):Int):=by
 unfold A0n;show wrap .i64 ((N:Int)*2^(min (o:Int).toNat 64))=_
 grind[a0G]
def a9k(o N:Nat)(warm:Int):List Int:=
 if N%2^o=0∧warm≤((N / 2^o:Nat):Int)then(((N / 2^o:Nat):Int)-warm)::a01 (2^o-1) ((N / 2^o:Nat):Int)else[]
def a1l(order n warm:Int):List Int:=bif a2L n warm&&(decide (0≤order)&&decide (order≤8))then a9k order.toNat n.toNat warm else[]
theorem a2F(order n warm:Int):a3Q (order,n,warm)=some (a1l order n warm):=by
 unfold a3Q a1l;simp only[b3V,oB];cases hr:a2L n warm with
 |false=>rfl
 |true=>
  simp[a2L]at hr;simp only[bT,cF,a21]
  by_cases h1:order<0
  grind
  by_cases h2:order > 8
  grind
  obtain⟨o,rfl⟩:=a03 (show 0≤order by omega);obtain⟨N,rfl⟩:=a03 (show 0≤n by omega);have p:o≤8:=by omega
  have q:N≤4096:=by omega
  have hp:=c4G p;have m:N / 2^o*2^o≤N:=Nat.div_mul_le_self N _;have l:(0:Int)≤(o:Int):=by omega
  have g8:(o:Int)≤8:=by omega
  simp only[h1,h2,l,g8,decide_true,decide_false,cF,cT,a02,oB,b2Z (N:=N) (show o≤64 by omega),b3a (N:=N / 2^o) (show o≤64 by omega) (by omega),tN];have g:=a54 N (2^o);rw[a66]at g
  by_cases hm:N%2^o=0
  have k:(((N / 2^o*2^o:Nat):Int) != (N:Int))=false:=by simp_all
  by_cases hw:warm≤((N / 2^o:Nat):Int)
  have c:decide (((N / 2^o:Nat):Int)<warm)=false:=decide_eq_false (Int.not_lt.2 hw);have e:wrap .i64 (((N / 2^o:Nat):Int)-warm)=((N / 2^o:Nat):Int)-warm:=a0G (by have:=a24 N (2^o);omega);simp only[k,c,e,cF,oB,a9k,hm,hw,and_self,if_true];have d:A0n .i64 (1:Int) (o:Int)=((2^o:Nat):Int):=by have:=b3a (N:=1) (show o≤64 by omega) (by omega);simp_all
  have:=a0Q (f:=a6m) (fun i=>((o:Int),((N / 2^o:Nat):Int),(((N / 2^o:Nat):Int)-warm)::a01 i ((N / 2^o:Nat):Int),())) (2^o-1)
   (b:=((((N / 2^o:Nat):Int)-warm)::a01 (2^o-1) ((N / 2^o:Nat):Int),())) (fun i r=>by
    have a:decide ((((((N / 2^o:Nat):Int)-warm)::a01 i ((N / 2^o:Nat):Int)).length:Int)<((2^o:Nat):Int))=true:=by
     grind
    have h:lim (((((N / 2^o:Nat):Int)-warm)::a01 i ((N / 2^o:Nat):Int)).length+1)=true:=a0I (by grind);have j:a01 i ((N / 2^o:Nat):Int)++[((N / 2^o:Nat):Int)]=a01 (i+1) ((N / 2^o:Nat):Int):=by grind[a28]
    simp only[a6m,h1,decide_false,cF,d,a,cT,h,a05,a70,j])
   (by
    have a:decide ((((((N / 2^o:Nat):Int)-warm)::a01 (2^o-1) ((N / 2^o:Nat):Int)).length:Int)<((2^o:Nat):Int))=false:=by
     simp_all
    simp only[a6m,h1,decide_false,cF,d,a])
  simp_all;have c:decide (((N / 2^o:Nat):Int)<warm)=true:=decide_eq_true (Int.not_le.1 hw);simp_all[a9k];have k:(((N / 2^o*2^o:Nat):Int) != (N:Int))=true:=by grind
  simp only[k,cT,oB,a9k,hm,false_and,if_false]
theorem a1T(order n warm:Int):a2W (order,n,warm)=some (a1l order n warm):=by
 unfold a2W a1l;simp only[b6p,oB];cases hr:a2L n warm with
 |false=>rfl
 |true=>
  simp[a2L]at hr;simp only[bT,cF,a21]
  by_cases h1:order<0
  grind
  by_cases h2:order > 8
  grind
  obtain⟨o,rfl⟩:=a03 (show 0≤order by omega);obtain⟨N,rfl⟩:=a03 (show 0≤n by omega);have l:o≤8:=by omega
  have s:N≤4096:=by omega
  have hp:=c4G l;have j:(0:Int)≤(o:Int):=by omega
  have g8:(o:Int)≤8:=by omega
  have c:wrap .u64 (o:Int)=(o:Int):=a1c (by omega);have a:A0n .i64 (1:Int) (o:Int)=((2^o:Nat):Int):=by have:=b3a (N:=1) (show o≤64 by omega) (by omega);simp_all
  have p:(((2^o:Nat):Int)==0)=false:=by grind
  have m:a62 (N:Int) ((2^o:Nat):Int)=((N%2^o:Nat):Int):=by rfl
  simp only[h1,h2,j,g8,decide_true,decide_false,cF,cT,a02,c,a,p,m,b2Z (N:=N) (show o≤64 by omega),tN]
  by_cases hm:N%2^o=0
  have g:(((0:Nat):Int) != 0)=false:=rfl
  by_cases hw:warm≤((N / 2^o:Nat):Int)
  have d:decide (((N / 2^o:Nat):Int)<warm)=false:=decide_eq_false (Int.not_lt.2 hw);have r:wrap .i64 (((N / 2^o:Nat):Int)-warm)=((N / 2^o:Nat):Int)-warm:=a0G (by have:=a24 N (2^o);omega);simp only[g,d,cF,oB,a9k,hm,hw,and_self,if_true]
  have:=a0Q (f:=a5r) (fun i=>((o:Int),(N:Int),warm,(i:Int),a01 i ((N / 2^o:Nat):Int),())) (2^o)
   (b:=(warm,a01 (2^o) ((N / 2^o:Nat):Int),())) (fun i t=>by
    have k:decide ((i:Int)<((2^o:Nat):Int))=true:=by grind
    have h:lim ((a01 i ((N / 2^o:Nat):Int)).length+1)=true:=a0I (by grind);have e:a01 i ((N / 2^o:Nat):Int)++[((N / 2^o:Nat):Int)]=a01 (i+1) ((N / 2^o:Nat):Int):=by grind[a28]
    simp only[a5r,c,h1,decide_false,cF,a,k,cT,h,b2Z (N:=N) (show o≤64 by omega),a05,e,a0B (show i<1000000 by omega)])
   (by
    have k:decide (((2^o:Nat):Int)<((2^o:Nat):Int))=false:=by simp
    simp only[a5r,c,h1,decide_false,cF,a,k])
  simp only[nZ,List.replicate_zero]at this;have u:decide ((0:Int)<(((a01 (2^o) ((N / 2^o:Nat):Int)).length:Nat):Int))=true:=by grind
  obtain⟨q,v⟩:∃q,2^o=q+1:=⟨2^o-1,by omega⟩
  grind
  have d:decide (((N / 2^o:Nat):Int)<warm)=true:=decide_eq_true (Int.not_le.1 hw);simp_all[a9k];have g:(((N%2^o:Nat):Int) != 0)=true:=by grind
  simp only[g,cT,oB,a9k,hm,false_and,if_false]
@[reducible] def Prt:Type:=Int×((List Int)×Unit)
variable {p:Prt}
def kB(k:Int):Bool:=(decide (0≤k)&&decide (k≤25)) || (k==31)
def a2G(p:Prt)(n warm:Int):Bool:=!((a1l p.1 n warm).length==0)&&((a1l p.1 n warm).length==p.2.1.length&&p.2.1.all kB)
theorem a9l(g:short p.2.1):a8a (p,n,warm)=some (a2G p n warm):=by
 have:=a1y (f:=a4n) p.2.1 (fun i=>(p.2.1,(p.2.1.length:Int),(i:Int),())) kB (bt:=Sum.inl ()) (bf:=Sum.inr (false,()))
  (fun i h hp=>by
   simp[kB]at hp
   by_cases h1:p.2.1[i]<0
   omega
   by_cases h2:p.2.1[i] > 25
   have b:p.2.1[i]=31:=by omega
   have a:(p.2.1[i] != 31)=false:=by simp_all
   simp[a4n,a0C h,h,h1,h2,a,a0B (a06 h g)];simp[a4n,a0C h,h,h1,h2,a0B (a06 h g)])
  (fun i h hp=>by
   have hp:¬ (kB p.2.1[i]=true):=by simp_all
   simp only[kB,a55,bA,dT,beq_iff_eq]at hp
   grind[a4n,a0C])
  (by simp[a4n])
 simp at this;unfold a8a a2G;simp[a2F]
 by_cases h0:(a1l p.1 n warm).length=0
 simp_all
 ·have e:((((a1l p.1 n warm).length:Nat):Int)==0)=false:=by simp_all
  have k:((a1l p.1 n warm).length==0)=false:=by simp_all
  simp[e,k]
  by_cases h1:(a1l p.1 n warm).length=p.2.1.length
  all_goals grind
theorem a5y(a:short p.2.1):a4Y (p,n,warm)=some (a2G p n warm):=by
 have g:∀k:Int,a2D k=some (decide (0≤k)&&decide (k≤25)):=fun k=>by
  grind[a2D]
 have:=a1y (f:=a3q) p.2.1 (fun i=>((i:Int),p,())) kB (bt:=Sum.inl ()) (bf:=Sum.inr (false,()))
  (fun i h hp=>by
   simp only[kB,a55]at hp;cases hc:(decide (0≤p.2.1[i])&&decide (p.2.1[i]≤25))with
   |true=>simp[a3q,a0C h,h,g,hc,a0B (a06 h a)]
   |false=>
    have d:p.2.1[i]=31:=by simp_all
    have c:(p.2.1[i] != 31)=false:=by simp_all
    simp[a3q,a0C h,h,g,hc,c,a0B (a06 h a)])
  (fun i h hp=>by
   grind[kB,a3q,a0C])
  (by simp[a3q])
 simp at this;unfold a4Y a2G;simp[a1T]
 by_cases h0:(a1l p.1 n warm).length=0
 simp_all
 ·have e:((((a1l p.1 n warm).length:Nat):Int)==0)=false:=by simp_all
  have b:((a1l p.1 n warm).length==0)=false:=by simp_all
  simp[e,b]
  by_cases h1:(a1l p.1 n warm).length=p.2.1.length
  all_goals grind
@[reducible] def Sub:Type:=Int×(Int×(Int×(Int×(Int×((List Int)×((List Int)×((List Stg)×((List Int)×(Prt×((List Int)×Unit))))))))))
variable {s:Sub}
structure SmallS (s:Sub):Prop where
 coefs:s.2.2.2.2.2.1.length≤40
 taps:s.2.2.2.2.2.2.1.length=3
 stages:s.2.2.2.2.2.2.2.1.length≤6
 warm:s.2.2.2.2.2.2.2.2.1.length≤5000
 rest:s.2.2.2.2.2.2.2.2.2.2.1.length≤5000
 ks:s.2.2.2.2.2.2.2.2.2.1.2.1.length≤300
theorem a9D(x y:List Int):eqT (.arr 3 (.int .i64)) x y=decide (x=y):=by
 show((a20 (fun(a b:Int)=>a==b) x y).all id&&x.length==y.length)=_
 induction x generalizing y with
 |nil=>cases y<;>simp
 |cons a x ih=>
  cases y with
  |nil=>simp
  |cons b y=>
   grind[List.zipWith_cons_cons]
theorem b3b{l:List Int}(h:short l):a3P l=some l:=a7r h
theorem b4R{l:List Stg}(h:short l):a1s l=some l:=by
 have g:lim (0+l.length)=true:=a0I (by unfold short at h;omega);simp_all[a1s,x0e]
def a2z(k:Int)(s:Sub)(n:Int):Prop:=
 k=0∨k=1∨(k=2∧0≤s.2.2.1∧s.2.2.1≤4∧s.2.2.1≤n)∨(k=3∧a6d s.2.2.2.2.2.1 s.2.2.2.1=true∧(s.2.2.2.2.2.1.length:Int)≤n)∨
  (k=4∧a6d s.2.2.2.2.2.1 s.2.2.2.1=true∧(s.2.2.2.2.2.1.length:Int)≤n∧a4P s.2.2.2.2.1 s.2.2.2.2.2.2.1=true)∨
  (k=5∧0<s.2.2.2.2.2.2.2.1.length∧a4I s.2.2.2.2.2.2.2.1=true)
open Classical in
def b2r (k:Int) (s:Sub) (n:Int):Bool:=decide (a2z k s n)
theorem b3W{s:Sub}(h:SmallS s)(k n:Int):b0D (k,s,n)=some (b2r k s n):=by
 have a:short s.2.2.2.2.2.1:=by have:=h.coefs;unfold short;omega
 have b:short s.2.2.2.2.2.2.2.1:=by have:=h.stages;unfold short;omega
 unfold b0D b2r a2z
 by_cases k0:k=0
 simp_all
 by_cases k1:k=1
 simp_all;have g:(k==0)=false:=by grind
 have f:(k==1)=false:=by grind
 simp only[g,f,cF,oB]
 by_cases k2:k=2
 subst k2
 grind
 by_cases k3:k=3
 subst k3
 grind[a8r]
 by_cases k4:k=4
 subst k4;cases hl:a6d s.2.2.2.2.2.1 s.2.2.2.1<;>by_cases h2:(s.2.2.2.2.2.1.length:Int)≤n<;>simp[a8r a,b2p h.taps,hl,h2]
 by_cases k5:k=5
 ·subst k5
  by_cases h1:0<s.2.2.2.2.2.2.2.1.length
  all_goals simp_all[b1s]
 grind
def a0W(s:Sub)(n:Int):Int:=if s.1=0 then 1 else if s.1=1 then n else if s.1=2 then s.2.2.1 else if s.1=3∨s.1=4 then(s.2.2.2.2.2.1.length:Int)else 0
theorem b1U(s:Sub)(n:Int):a7k (s,n)=some (a0W s n):=by
 grind[a7k,a0W]
def b0I(s:Sub):Prop:=
 (s.1≠2→s.2.2.1=0)∧(s.1≠3∧s.1≠4→s.2.2.2.1=0)∧(s.1≠4→s.2.2.2.2.1=0)∧(s.1≠4→s.2.2.2.2.2.2.1=[0,0,0])∧(s.1≠3∧s.1≠4→s.2.2.2.2.2.1=[])∧(s.1≠5→s.2.2.2.2.2.2.2.1=[])
open Classical in
def b2G (s:Sub):Bool:=decide (b0I s)
theorem a8x{c x:Bool}:(bif c then some x else some false)=some (c&&x):=by grind
theorem c6L{α:Type}(l:List α):(((l.length:Nat):Int)==0)=decide (l=[]):=by
 cases l with
 |nil=>rfl
 |cons a l=>rfl
theorem b7u(x:Int):(x==0)=decide (x=0):=rfl
theorem b9L{s:Sub}(h:SmallS s):a9Q s=some (b2G s):=by
 have e:short s.2.2.2.2.2.1:=by have:=h.coefs;unfold short;omega
 have g:short s.2.2.2.2.2.2.2.1:=by have:=h.stages;unfold short;omega
 obtain⟨k,w,o,sh,lag,c,t,st,j,p,r,u⟩:=s;simp only at e g;unfold a9Q a5T b2G b0I;have i:(a01 3 (0:Int))=[0,0,0]:=rfl
 by_cases k2:k=2
 simp_all[a9D,a8x,b7u]
 by_cases k4:k=4
 simp_all[a9D,a8x,b7u,b3b]
 by_cases k3:k=3
 simp_all[a9D,a8x,b7u,b3b]
 by_cases k5:k=5
 simp_all[a9D,a8x,b7u,b4R];have f:(k==2)=false:=by grind
 have a:(k==3)=false:=by grind
 have b:(k==4)=false:=by grind
 have d:(k==5)=false:=by grind
 simp[f,a,b,d,k2,k3,k4,k5,a9D,i,a8x,c6L,b7u]
theorem a7s(k:Int):a7l k=some (decide (k≠0∧k≠1)):=by
 unfold a7l
 by_cases h0:k=0
 simp_all
 ·by_cases h1:k=1
  all_goals grind
def a1o(s:Sub)(n:Int):Prop:=
 1≤n∧n≤4096∧a2z s.1 s n∧b0I s∧0≤s.2.1∧s.2.1≤30∧(s.1=0→s.2.1=0)∧(s.2.2.2.2.2.2.2.2.1.length:Int)=a0W s n∧s.2.2.2.2.2.2.2.2.1.all a0A=true∧s.2.2.2.2.2.2.2.2.2.2.1.all a0A=true∧
  (s.1=0∨s.1=1→s.2.2.2.2.2.2.2.2.2.2.1=[]∧s.2.2.2.2.2.2.2.2.2.1.1=0∧s.2.2.2.2.2.2.2.2.2.1.2.1=[])∧
  (s.1≠0∧s.1≠1→(s.2.2.2.2.2.2.2.2.2.2.1.length:Int)=n-a0W s n∧a2G s.2.2.2.2.2.2.2.2.2.1 n (a0W s n)=true)
theorem b2t{s:Sub}(h:SmallS s){n:Int}(a:1≤n)(b:n≤4096)(f:a2z s.1 s n):0≤a0W s n∧a0W s n≤4096:=by
 have c:=h.coefs;unfold a0W;rcases f with k|k|⟨k,g⟩|⟨k,g⟩|⟨k,g⟩|⟨k,g⟩<;>simp[k]<;>omega
open Classical in
theorem c4b {s:Sub} (h:SmallS s) (n:Int):a8M (s,n)=some (decide (a1o s n)):=by
 have hw:short s.2.2.2.2.2.2.2.2.1:=by have:=h.warm;unfold short;omega
 have hr:short s.2.2.2.2.2.2.2.2.2.2.1:=by have:=h.rest;unfold short;omega
 have hk:short s.2.2.2.2.2.2.2.2.2.1.2.1:=by have:=h.ks;unfold short;omega
 unfold a8M
 by_cases h1:1≤n
 rotate_left
 ·have e1:decide (n<1)=true:=by simp_all
  have:¬ a1o s n:=fun hp=>h1 hp.1
  simp_all
 have e1:decide (n<1)=false:=by simp_all
 by_cases h2:n≤4096
 rotate_left
 ·have e2:decide (n > 4096)=true:=by simp_all
  have:¬ a1o s n:=fun hp=>h2 hp.2.1
  simp_all
 have e2:decide (n > 4096)=false:=by simp_all
 by_cases h3:a2z s.1 s n
 rotate_left
 ·have e3:b2r s.1 s n=false:=by simp[b2r,h3]
  have:¬ a1o s n:=fun hp=>h3 hp.2.2.1
  simp_all[b3W]
 have e3:b2r s.1 s n=true:=by simp[b2r,h3]
 by_cases h4:b0I s
 rotate_left
 ·have e4:b2G s=false:=by simp[b2G,h4]
  have:¬ a1o s n:=fun hp=>h4 hp.2.2.2.1
  simp_all[b3W,b9L]
 have e4:b2G s=true:=by simp[b2G,h4]
 simp only[e1,e2,b3W h,e3,b9L h,e4,cF,bT,oB]
 by_cases h5:0≤s.2.1
 rotate_left
 ·have e5:decide (s.2.1<0)=true:=by simp_all
  have:¬ a1o s n:=fun hp=>h5 hp.2.2.2.2.1
  simp_all
 have e5:decide (s.2.1<0)=false:=by simp_all
 by_cases h6:s.2.1≤30
 rotate_left
 ·have e6:decide (s.2.1 > 30)=true:=by simp_all
  have:¬ a1o s n:=fun hp=>h6 hp.2.2.2.2.2.1
  simp_all
 have e6:decide (s.2.1 > 30)=false:=by simp_all
 simp only[e5,e6,cF]
 by_cases h7:s.1=0→s.2.1=0
 rotate_left
 ·have h7a:s.1=0:=Classical.byContradiction fun hc=>h7 fun e=>absurd e hc
  have h7b:(s.2.1 != 0)=true:=by
   simp_all
  have e7:(s.1==0)=true:=by simp_all
  have:¬ a1o s n:=fun hp=>h7 hp.2.2.2.2.2.2.1
  grind
 have e7:(bif s.1==0 then some (n,(s.2.1 != 0,(s,())))else some (n,(false,(s,()))))=some (n,(false,(s,()))):=by
  grind
 simp only[e7,oB,cF,b1U]
 by_cases h8:(s.2.2.2.2.2.2.2.2.1.length:Int)=a0W s n
 rotate_left
 ·have e8:(((s.2.2.2.2.2.2.2.2.1.length:Nat):Int) != a0W s n)=true:=by simp_all
  have:¬ a1o s n:=fun hp=>h8 hp.2.2.2.2.2.2.2.1
  grind
 have e8:(((s.2.2.2.2.2.2.2.2.1.length:Nat):Int) != a0W s n)=false:=by simp_all
 simp only[e8,cF,a4w hw,a4w hr,oB]
 cases h9:s.2.2.2.2.2.2.2.2.1.all a0A with
 |false=>
  have:¬ a1o s n:=fun hp=>by rw[hp.2.2.2.2.2.2.2.2.1]at h9;grind
  simp_all
 |true=>
  cases h10:s.2.2.2.2.2.2.2.2.2.2.1.all a0A with
  |false=>
   have:¬ a1o s n:=fun hp=>by rw[hp.2.2.2.2.2.2.2.2.2.1]at h10;grind
   simp_all
  |true=>
   simp only[bT,cF,oB,a7s]
   have hwr:=b2t h h1 h2 h3
   by_cases k01:s.1≠0∧s.1≠1
   ·have e11:wrap .i64 (n-a0W s n)=n-a0W s n:=a0G (by omega)
    simp[k01,e11,a9l hk]
    by_cases h11:(s.2.2.2.2.2.2.2.2.2.2.1.length:Int)=n-a0W s n
    ·have e12:(((s.2.2.2.2.2.2.2.2.2.2.1.length:Nat):Int)==n-a0W s n)=true:=by simp_all
     simp only[e12,cT]
     congr 1
     rw[a75,dT]
     constructor
     ·intro hp
      exact⟨h1,h2,h3,h4,h5,h6,h7,h8,h9,h10,fun hc=>absurd hc (by omega),fun _=>⟨h11,hp⟩⟩
     ·intro hp;exact(hp.2.2.2.2.2.2.2.2.2.2.2 k01).2
    ·have e12:(((s.2.2.2.2.2.2.2.2.2.2.1.length:Nat):Int)==n-a0W s n)=false:=by simp_all
     have:¬ a1o s n:=fun hp=>h11 (hp.2.2.2.2.2.2.2.2.2.2.2 k01).1
     grind
   ·have k01':s.1=0∨s.1=1:=by omega
    simp[k01,c6L]
    simp only[b7u,a8x]
    congr 1
    rw[a75,dT]
    simp
    constructor
    ·rintro⟨g1,g2,g3⟩
     exact⟨h1,h2,h3,h4,h5,h6,h7,h8,h9,h10,fun _=>⟨g1,g2,g3⟩,fun hc=>absurd hc k01⟩
    ·intro hp;exact hp.2.2.2.2.2.2.2.2.2.2.1 k01'
theorem b3c{α:Type}[DecidableEq α](q:α→α→Bool)(g:∀a b,q a b=decide (a=b)):∀(x y:List α),x.length=y.length→((x.zip y).all fun p=>q p.1 p.2)=decide (x=y)
 | [],[],_=>by simp
 |a::x,b::y,h=>by
  have f:=b3c q g x y (by simp_all);simp_all
theorem a8g{x y:List Int}(h:short x):a1H (x,y)=some (decide (x=y)):=by
 unfold a1H
 by_cases hl:x.length=y.length
 have e:(((x.length:Nat):Int) != ((y.length:Nat):Int))=false:=by simp_all
 have l:(x.zip y).length=x.length:=by simp_all
 have:=a1y (f:=a4C) (x.zip y) (fun i=>(x,y,(i:Int),())) (fun p=>p.1==p.2) (bt:=Sum.inl ()) (bf:=Sum.inr (false,()))
  (fun i d hp=>by
   have k:i<x.length:=by omega
   have c:i<y.length:=by omega
   rw[a43]at hp;have hp:x[i]=y[i]:=by simp_all
   have g:(x[i] != y[i])=false:=by simp_all
   simp only[a4C,dlt k,cT,a0C k,a0C c,oB,g,cF,a0B (a06 k h)])
  (fun i d hp=>by
   have k:i<x.length:=by omega
   have c:i<y.length:=by omega
   rw[a43]at hp;have g:(x[i] != y[i])=true:=by simp_all
   simp only[a4C,dlt k,cT,a0C k,a0C c,oB,g])
  (by simp_all[a4C])
 simp at this;simp only[e,cF,this,b3c (fun(a b:Int)=>a==b) (fun _ _=>rfl) x y hl]
 grind
 have e:(((x.length:Nat):Int) != ((y.length:Nat):Int))=true:=by grind
 have:¬ x=y:=fun j=>hl (by grind)
 grind
theorem b8B{x y:List Stg}(h:short x):a6t (x,y)=some (decide (x=y)):=by
 have k:∀a b:Stg,eqT (.pair (.int .i64) (.pair (.int .i64) .unit)) a b=decide (a=b):=by
  rintro⟨a1,a2,⟨⟩⟩ ⟨b1,b2,⟨⟩⟩
  show((a1==b1)&&((a2==b2)&&true))=_
  grind
 unfold a6t
 by_cases hl:x.length=y.length
 have e:(((x.length:Nat):Int) != ((y.length:Nat):Int))=false:=by simp_all
 have l:(x.zip y).length=x.length:=by simp_all
 have:=a1y (f:=a3m) (x.zip y) (fun i=>(x,y,(i:Int),())) (fun p=>decide (p.1=p.2)) (bt:=Sum.inl ()) (bf:=Sum.inr (false,()))
  (fun i d hp=>by
   have g:i<x.length:=by omega
   have c:i<y.length:=by omega
   rw[a43]at hp;simp only[a3m,dlt g,cT,a0C g,a0C c,oB,k,hp,bT,cF,a0B (a06 g h)])
  (fun i d hp=>by
   have g:i<x.length:=by omega
   have c:i<y.length:=by omega
   rw[a43]at hp;simp only[a3m,dlt g,cT,a0C g,a0C c,oB,k,hp,a16])
  (by simp_all[a3m])
 simp at this;simp only[e,cF,this,b3c (fun(a b:Stg)=>decide (a=b)) (fun _ _=>rfl) x y hl]
 grind
 have e:(((x.length:Nat):Int) != ((y.length:Nat):Int))=true:=by grind
 have:¬ x=y:=fun j=>hl (by grind)
 grind
open Classical in
theorem b6q {a b:Sub} (h:SmallS a):a6L (a,b)=some (decide (a=b)):=by
 have hc:short a.2.2.2.2.2.1:=by have:=h.coefs;unfold short;omega
 have hst:short a.2.2.2.2.2.2.2.1:=by have:=h.stages;unfold short;omega
 have hw:short a.2.2.2.2.2.2.2.2.1:=by have:=h.warm;unfold short;omega
 have hr:short a.2.2.2.2.2.2.2.2.2.2.1:=by have:=h.rest;unfold short;omega
 have hk:short a.2.2.2.2.2.2.2.2.2.1.2.1:=by have:=h.ks;unfold short;omega
 unfold a6L a9y
 simp only[a8g hc,a8g hw,a8g hr,a8g hk,b8B hst,a9D,oB,a8x]
 congr 1
 grind
def b1w(s:Sub):Sub:=
 let z:List Int:=a01 3 0
 if s.1=0 then(0,0,0,0,0,[],z,[],s.2.2.2.2.2.2.2.2.1,(0,[],()),[],())
 else if s.1=1 then(1,s.2.1,0,0,0,[],z,[],s.2.2.2.2.2.2.2.2.1,(0,[],()),[],())
 else if s.1=2 then(2,s.2.1,s.2.2.1,0,0,[],z,[],s.2.2.2.2.2.2.2.2.1,s.2.2.2.2.2.2.2.2.2.1,s.2.2.2.2.2.2.2.2.2.2.1,())
 else if s.1=3 then(3,s.2.1,0,s.2.2.2.1,0,s.2.2.2.2.2.1,z,[],s.2.2.2.2.2.2.2.2.1,s.2.2.2.2.2.2.2.2.2.1,s.2.2.2.2.2.2.2.2.2.2.1,())
 else if s.1=4 then(4,s.2.1,0,s.2.2.2.1,s.2.2.2.2.1,s.2.2.2.2.2.1,s.2.2.2.2.2.2.1,[],s.2.2.2.2.2.2.2.2.1,s.2.2.2.2.2.2.2.2.2.1,s.2.2.2.2.2.2.2.2.2.2.1,())
 else if s.1=5 then(5,s.2.1,0,0,0,[],z,s.2.2.2.2.2.2.2.1,[],s.2.2.2.2.2.2.2.2.2.1,s.2.2.2.2.2.2.2.2.2.2.1,())
 else(s.1,s.2.1,0,0,0,[],z,[],s.2.2.2.2.2.2.2.2.1,s.2.2.2.2.2.2.2.2.2.1,s.2.2.2.2.2.2.2.2.2.2.1,())
theorem c4H(s:Sub):a9V s=some (b1w s):=by
 obtain⟨k,w,o,sh,lag,c,t,st,h,p,r,u⟩:=s;unfold a9V b1w
 grind
open Classical in
def a8h (s:Sub) (n:Int):Int:=if a2z s.1 s n then a0W s n else -1
theorem b5t{s:Sub}(h:SmallS s)(n:Int):a8e (s,n)=some (a8h s n):=by
 have f:short s.2.2.2.2.2.1:=by have:=h.coefs;unfold short;omega
 have g:short s.2.2.2.2.2.2.2.1:=by have:=h.stages;unfold short;omega
 have a:=h.taps;obtain⟨k,w,o,sh,lag,c,t,st,b,p,r,u⟩:=s;simp only at f g a;unfold a8e a8h a0W a2z
 by_cases k0:k=0
 simp_all
 by_cases k1:k=1
 simp_all
 by_cases k2:k=2
 grind
 by_cases k3:k=3
 grind[a4H]
 by_cases k4:k=4
 grind[a4H,a9B]
 grind[a9h]
theorem a5z(k:Int):a3S k=some (decide (2≤k∧k≤5)):=by
 grind[a3S]
def c3b(s:Sub)(n:Int):Prop:=
 1≤n∧n≤4096∧0≤s.1∧s.1≤5∧s=b1w s∧0≤s.2.1∧s.2.1≤30∧a2z s.1 s n∧(s.2.2.2.2.2.2.2.2.1.length:Int)=a0W s n∧s.2.2.2.2.2.2.2.2.1.all a0A=true∧s.2.2.2.2.2.2.2.2.2.2.1.all a0A=true∧
  (2≤s.1∧s.1≤5→(s.2.2.2.2.2.2.2.2.2.2.1.length:Int)=n-a0W s n∧a2G s.2.2.2.2.2.2.2.2.2.1 n (a0W s n)=true)
theorem b1V{k:Int}{s:Sub}{n:Int}(h:a2z k s n):k=0∨k=1∨k=2∨k=3∨k=4∨k=5:=by
 unfold a2z at h;omega
theorem c1u(s:Sub)(n:Int):a1o s n↔c3b s n:=by
 have f:a2z s.1 s n→((b0I s∧(s.1=0→s.2.1=0)∧(s.2.2.2.2.2.2.2.2.1.length:Int)=a0W s n∧(s.1=0∨s.1=1→s.2.2.2.2.2.2.2.2.2.2.1=[]∧s.2.2.2.2.2.2.2.2.2.1.1=0∧s.2.2.2.2.2.2.2.2.2.1.2.1=[]))↔
   (s=b1w s∧(s.2.2.2.2.2.2.2.2.1.length:Int)=a0W s n)):=by
  intro h;have g:(a01 3 (0:Int))=[0,0,0]:=rfl;obtain⟨k,w,o,sh,lag,c,t,st,wm,⟨po,ks,⟨⟩⟩,r,⟨⟩⟩:=s;rcases b1V h with k0|k0|k0|k0|k0|k0<;>simp only at k0<;>subst k0<;>simp[b0I,b1w,a0W,g]<;>(try constructor)<;>(try intros)<;>(try simp_all)<;>(try exact and_left_comm)<;>(grind)
 unfold a1o c3b
 grind[b1V]
def b3X(warm rest:List Int)(o:Int):Option (List Int):=bif warm.all a0A&&rest.all a0A then a3a (a3g o.toNat) rest warm else none
def backP(s:Sub):Option (List Int):=
 if s.1=1 then some s.2.2.2.2.2.2.2.2.1
 else if s.1=2 then b3X s.2.2.2.2.2.2.2.2.1 s.2.2.2.2.2.2.2.2.2.2.1 s.2.2.1
 else if s.1=3 then a9i s.2.2.2.2.2.2.2.2.1 s.2.2.2.2.2.2.2.2.2.2.1 s.2.2.2.2.2.1 s.2.2.2.1
 else if s.1=4 then(a9i s.2.2.2.2.2.2.2.2.1 s.2.2.2.2.2.2.2.2.2.2.1 s.2.2.2.2.2.1 s.2.2.2.1).bind fun l=>a9W l s.2.2.2.2.1 s.2.2.2.2.2.2.1
 else a8f s.2.2.2.2.2.2.2.2.2.2.1 s.2.2.2.2.2.2.2.1
def b5u(s:Sub)(n:Int):Option (List Int):=
 if s.1=0 then some (a01 n.toNat (s.2.2.2.2.2.2.2.2.1.getD 0 0))else(backP s).bind (upO s.2.1)
theorem a9Y{w r c:List Int}{s:Int}{l}(h:a9i w r c s=some l):l.length=w.length+r.length:=by
 unfold a9i at h;cases hc:(w.all a0A&&r.all a0A)with
 |false=>simp_all
 |true=>
  rw[hc]at h;exact(b1e _ r w l (a60.1 hc).1 h).2
theorem c1v{w r:List Int}{o:Int}{l}(h:b3X w r o=some l):l.length=w.length+r.length:=by
 unfold b3X at h;cases hc:(w.all a0A&&r.all a0A)with
 |false=>simp_all
 |true=>
  rw[hc]at h;exact(b1e _ r w l (a60.1 hc).1 h).2
theorem b9M{l}(h:a9W r lag t=some l):l.length=r.length:=by
 unfold a9W at h;cases hc:r.all a0A with
 |false=>simp_all
 |true=>
  rw[hc]at h
  have:=(b1e _ r [] l rfl h).2
  simp_all
theorem b7I:∀(st:List Stg)(r:List Int){l},lO st r=some l→l.length=r.length
 | [],r,l,h=>by simp_all[lO]
 |s::st,r,l,h=>by
  simp only[lO]at h
  split at h
  rename_i f g;rw[b7I st f h,b1g _ _ _ g];simp;cases h
theorem b8C{r:List Int}{st:List Stg}{l}(h:a8f r st=some l):l.length=r.length:=by
 grind[a8f,b7I]
theorem b3Y(h:SmallS s){l}(g:backP s=some l):l.length<100000:=by
 have b:=h.warm;have a:=h.rest;unfold backP at g
 split at g
 grind
 split at g
 grind[c1v]
 split at g
 grind[a9Y]
 split at g
 obtain⟨l1,f,k⟩:=a39.1 g;rw[b9M k,a9Y f];omega
 grind[b8C]
theorem c4c(c:1≤n)(d:n≤4096)(e:s.2.2.2.2.2.2.2.2.1.length=1):
  y0s a6H (n,(0:Int),([]:List Int),s,())=some (a01 n.toNat (s.2.2.2.2.2.2.2.2.1.getD 0 0),()):=by
 obtain⟨N,rfl⟩:=a03 (show 0≤n by omega);have k:m0k s.2.2.2.2.2.2.2.2.1 (0:Int)=some (s.2.2.2.2.2.2.2.2.1.getD 0 0):=b2W (by omega) (by omega)
 have:=a0Q (f:=a6H) (fun i=>((N:Int),(i:Int),a01 i (s.2.2.2.2.2.2.2.2.1.getD 0 0),s,())) N
  (b:=(a01 N (s.2.2.2.2.2.2.2.2.1.getD 0 0),())) (fun i a=>by
   have h:lim ((a01 i (s.2.2.2.2.2.2.2.2.1.getD 0 0)).length+1)=true:=a0I (by grind);have g:a01 i (s.2.2.2.2.2.2.2.2.1.getD 0 0)++[s.2.2.2.2.2.2.2.2.1.getD 0 0]=a01 (i+1) (s.2.2.2.2.2.2.2.2.1.getD 0 0):=by grind[a28]
   simp only[a6H,dlt a,cT,k,oB,h,a05,g,a0B (show i<1000000 by omega)])
  (by simp[a6H])
 simp_all
theorem b8D(m:1≤n)(o:n≤4096)(q:s.2.2.2.2.2.2.2.2.1.length=1):
  y0s a5u (n,(0:Int),a01 n.toNat (0:Int),s,())=some (a01 n.toNat (s.2.2.2.2.2.2.2.2.1.getD 0 0),()):=by
 obtain⟨N,rfl⟩:=a03 (show 0≤n by omega);have j:m0k s.2.2.2.2.2.2.2.2.1 (0:Int)=some (s.2.2.2.2.2.2.2.2.1.getD 0 0):=b2W (by omega) (by omega);obtain⟨z,r⟩:∃z,a01 N (s.2.2.2.2.2.2.2.2.1.getD 0 0)=z:=⟨_,rfl⟩;have k:z.length=(a01 N (0:Int)).length:=by grind
 have d:(a01 N (0:Int)).length=N:=by simp
 have:=a0Q (f:=a5u) (fun i=>((N:Int),(i:Int),z.take i++(a01 N (0:Int)).drop i,s,())) N
  (b:=(z,())) (fun i l=>by
   have h:i<(a01 N (0:Int)).length:=by omega
   have p:(z.take i++(a01 N (0:Int)).drop i).length=N:=by grind
   have e:decide ((i:Int)<(((z.take i++(a01 N (0:Int)).drop i).length:Nat):Int))=true:=by simp_all
   have c:decide ((0:Int)≤(i:Int))=true:=by simp
   have a:=b9J h k;have g:z[i]'(by omega)=s.2.2.2.2.2.2.2.2.1.getD 0 0:=by grind
   rw[g]at a;simp only[a5u,dlt l,cT,j,oB,c,e,a02,tN,a,a0B (show i<1000000 by omega)])
  (by
   simp_all[a09,a5u])
 simp_all
theorem c1w(h:SmallS s)(hp:a1o s n)(x:s.1≠0):b1b s=some (a1q (backP s)):=by
 obtain⟨y,z,m,-,-,-,-,a,C,A,-⟩:=hp;have q:=h.rest;have v:=h.warm;have B:=h.taps;obtain⟨k,w,o,sh,lag,c,t,st,d,p,r,u⟩:=s;simp only at *;unfold b1b backP;rcases m with g|g|⟨g,f,b,e⟩|⟨g,f,b⟩|⟨g,f,b,e⟩|⟨g,f,b⟩;omega;subst g;rfl;subst g;obtain⟨O,rfl⟩:=a03 f
 grind[a0W,b5q,b3X]
 grind[a0W,b0U]
 ·subst g;simp only[a0W]at a;have j:d.length=c.length:=by grind
  have i:=b0U (rest:=r) f j (by omega);simp only[show((4:Int)==2)=false from rfl,show((4:Int)==3)=false from rfl,show((4:Int)==4)=true from rfl,cT,cF,i,oB];cases hl:a9i d r c sh with
  |none=>rfl
  |some l=>
   grind[a9Y,b6l,a1q]
 grind[b5s]
theorem c1x(h:SmallS s)(hp:a1o s n):b0Y (s,n)=some (a1q (b5u s n)):=by
 have a:=fun l (d:backP s=some l)=>b3Y h d;obtain⟨z,A,C,-,x,v,-,g,K,I,-⟩:=hp;have F:=h.rest;have G:=h.warm;have H:=h.taps;have D:=c4c (s:=s) z A;obtain⟨k,w,o,sh,lag,c,t,st,f,p,r,u⟩:=s;simp only at *;have L:∀l,l.length<100000→a8c (l,w)=some (a1q (upO w l)):=fun l d=>b9H x v d;unfold b0Y b5u;rcases C with b|b|⟨b,j,m,y⟩|⟨b,j,m⟩|⟨b,j,m,y⟩|⟨b,j,m⟩
 grind[a0W,a1q]
 simp_all[backP]
 ·subst b;obtain⟨O,rfl⟩:=a03 j;have m:(O:Int)≤4:=m;simp only[a0W]at g;have q:f.length=O:=by grind
  have i:=b8x (warm:=f) (rest:=r) (o:=O) (by omega) q (by omega);simp only[backP]at a⊢;simp[i];have e:(bif f.all a0A&&r.all a0A then a3a (a3g O) r f else none)=b3X f r (O:Int):=rfl;rw[e];cases d:b3X f r (O:Int)with
  |none=>rfl
  |some l=>simp_all[a1q]
 ·subst b;simp only[a0W]at g;have q:f.length=c.length:=by grind
  have i:=b2D (rest:=r) j q (by omega);simp only[backP]at a⊢;simp[i];cases d:a9i f r c sh with
  |none=>rfl
  |some l=>simp_all[a1q]
 ·subst b;simp only[a0W]at g;have q:f.length=c.length:=by grind
  have i:=b2D (rest:=r) j q (by omega);simp only[backP]at a⊢;simp[i];cases d:a9i f r c sh with
  |none=>rfl
  |some l=>
   have E:=a9Y d;have B:=b9G (rest:=l) y H (by omega);simp[a1q,B]
   grind[a1q]
 ·subst b;have i:=b8A (rest:=r) m (by omega);simp only[backP]at a⊢;simp[i];cases d:a8f r st with
  |none=>rfl
  |some l=>simp_all[a1q]
open Classical in
def a2M (s:Sub) (n:Int):Option (List Int):=if a1o s n then b5u s n else none
theorem b6r(h:SmallS s)(n:Int):a8C (s,n)=some (match a2M s n with|some r=>(r,0)|none=>([],1)):=by
 unfold a8C a2M;simp only[c4b h,oB]
 by_cases hp:a1o s n
 simp[hp,c1x h hp]
 grind[a1q]
 simp_all
theorem c3c(h:SmallS s)(n:Int):b1P (s,n)=some (a2M s n).isSome:=by
 unfold b1P;simp only[b6r h,oB];cases a2M s n<;>rfl
open Classical in
theorem b8E {s:Sub} (h:SmallS s) (n:Int):a8Z (s,n)=some (match a2M s n with|some r=>(r,true)|none=>([],false)):=by
 have hw:short s.2.2.2.2.2.2.2.2.1:=by have:=h.warm;unfold short;omega
 have hr:short s.2.2.2.2.2.2.2.2.2.2.1:=by have:=h.rest;unfold short;omega
 have hk:short s.2.2.2.2.2.2.2.2.2.1.2.1:=by have:=h.ks;unfold short;omega
 have hiff:=c1u s n
 unfold a8Z
 have no:¬ c3b s n→a2M s n=none:=fun hc=>by
  simp_all[a2M]
 by_cases h1:1≤n
 rotate_left
 ·have e1:decide (n<1)=true:=by simp_all
  rw[no fun hp=>h1 hp.1]
  simp_all
 have e1:decide (n<1)=false:=by simp_all
 by_cases h2:n≤4096
 rotate_left
 ·have e2:decide (n > 4096)=true:=by simp_all
  rw[no fun hp=>h2 hp.2.1]
  simp_all
 have e2:decide (n > 4096)=false:=by simp_all
 by_cases h3:0≤s.1
 rotate_left
 ·have e3:decide (s.1<0)=true:=by simp_all
  rw[no fun hp=>h3 hp.2.2.1]
  simp_all
 have e3:decide (s.1<0)=false:=by simp_all
 by_cases h4:s.1≤5
 rotate_left
 ·have e4:decide (s.1 > 5)=true:=by simp_all
  rw[no fun hp=>h4 hp.2.2.2.1]
  simp_all
 have e4:decide (s.1 > 5)=false:=by simp_all
 simp only[e1,e2,e3,e4,cF,c4H,b6q h,oB]
 by_cases h5:s=b1w s
 rotate_left
 ·rw[no fun hp=>h5 hp.2.2.2.2.1]
  simp_all
 have e5:decide (s=b1w s)=true:=decide_eq_true h5
 simp only[e5,bT,cF]
 by_cases h6:0≤s.2.1
 rotate_left
 ·have e6:decide (s.2.1<0)=true:=by grind
  rw[no fun hp=>h6 hp.2.2.2.2.2.1]
  grind
 have e6:decide (s.2.1<0)=false:=by grind
 by_cases h7:s.2.1≤30
 rotate_left
 ·have e7:decide (s.2.1 > 30)=true:=by grind
  rw[no fun hp=>h7 hp.2.2.2.2.2.2.1]
  grind
 have e7:decide (s.2.1 > 30)=false:=by grind
 simp only[e6,e7,cF,oB,b5t h]
 by_cases h8:a2z s.1 s n
 rotate_left
 ·have e8:decide (a8h s n<0)=true:=by simp[a8h,h8]
  rw[no fun hp=>h8 hp.2.2.2.2.2.2.2.1]
  grind
 have hwr:=b2t h h1 h2 h8
 have e8':a8h s n=a0W s n:=by simp[a8h,h8]
 have e8:decide (a0W s n<0)=false:=by grind
 simp only[e8',e8,cF]
 by_cases h9:(s.2.2.2.2.2.2.2.2.1.length:Int)=a0W s n
 rotate_left
 ·have e9:(((s.2.2.2.2.2.2.2.2.1.length:Nat):Int) != a0W s n)=true:=by grind
  rw[no fun hp=>h9 hp.2.2.2.2.2.2.2.2.1]
  grind
 have e9:(((s.2.2.2.2.2.2.2.2.1.length:Nat):Int) != a0W s n)=false:=by grind
 simp only[e9,cF,a0N hw,a0N hr,oB]
 cases h10:s.2.2.2.2.2.2.2.2.1.all a0A with
 |false=>
  rw[no fun hp=>by rw[hp.2.2.2.2.2.2.2.2.2.1]at h10;grind]
  rfl
 |true=>
  cases h11:s.2.2.2.2.2.2.2.2.2.2.1.all a0A with
  |false=>
   rw[no fun hp=>by rw[hp.2.2.2.2.2.2.2.2.2.2.1]at h11;grind]
   rfl
  |true=>
   simp only[bT,cF,oB,a5z]
   have e11:wrap .i64 (n-a0W s n)=n-a0W s n:=a0G (by omega)
   by_cases h12:2≤s.1∧s.1≤5→(s.2.2.2.2.2.2.2.2.2.2.1.length:Int)=n-a0W s n∧a2G s.2.2.2.2.2.2.2.2.2.1 n (a0W s n)=true
   rotate_left
   ·have hg:2≤s.1∧s.1≤5:=Classical.byContradiction fun hc=>h12 fun e=>absurd e hc
    have hn:¬ ((s.2.2.2.2.2.2.2.2.2.2.1.length:Int)=n-a0W s n∧a2G s.2.2.2.2.2.2.2.2.2.1 n (a0W s n)=true):=fun hc=>h12 fun _=>hc
    rw[no fun hp=>h12 hp.2.2.2.2.2.2.2.2.2.2.2]
    simp only[hg,and_self,decide_true,cT,e11,a9l hk,a5y hk,oB]
    grind
   have hrp:c3b s n:=⟨h1,h2,h3,h4,h5,h6,h7,h8,h9,h10,h11,h12⟩
   have hsp:=hiff.2 hrp
   have e12:(bif decide (2≤s.1∧s.1≤5)then bif (((s.2.2.2.2.2.2.2.2.2.2.1.length:Nat):Int) != wrap .i64 (n-a0W s n))then some (n,(true,(s,())))else(a4Y (s.2.2.2.2.2.2.2.2.2.1,(n,a0W s n))).bind fun y9=>some (n,(!y9,(s,())))
     else some (n,(false,(s,()))))=some (n,(false,(s,()))):=by
    by_cases hg:2≤s.1∧s.1≤5
    ·obtain⟨g1,g2⟩:=h12 hg
     have e13:(((s.2.2.2.2.2.2.2.2.2.2.1.length:Nat):Int) != n-a0W s n)=false:=by grind
     simp only[hg,and_self,decide_true,cT,e11,e13,cF,a5y hk,g2,oB,bT]
    grind
   simp only[e12,oB,cF]
   have hsub:a2M s n=b5u s n:=by unfold a2M;grind
   rw[hsub]
   unfold b5u
   by_cases k0:s.1=0
   ·have ek:(s.1==0)=true:=by grind
    have hl1:s.2.2.2.2.2.2.2.2.1.length=1:=by
     have:=h9;unfold a0W at this;omega
    have g1:decide ((0:Int)≤n)=true:=by grind
    have g2:decide (n≤n)=true:=by simp
    have g3:lim n.toNat=true:=a0I (by omega)
    simp only[ek,cT,g1,g2,g3,a02,b8D h1 h2 hl1,oB,k0,if_true]
    rfl
   ·have ek:(s.1==0)=false:=by grind
    simp[ek,c1w h hsp k0,k0]
    cases hb:backP s with
    |none=>rfl
    |some l=>
     have hll:=b3Y h hb
     simp only[a1q,c3Z h6 h7 hll,oB]
     cases upO s.2.1 l<;>simp[a1q]
theorem b8F(h:SmallS s)(n:Int):a9a (s,n)=some (a2M s n).isSome:=by
 grind[a9a,b8E]
@[reducible] def Wr:Type:=(List Int)×(Int×Unit)
def c3d(w:Wr)(b:Int):Wr:=
 let bs:=if w.2.1%8=0 then w.1++[0]else w.1
 (bs.set (w.2.1 / 8).toNat (bits .u8 .or (bs.getD (w.2.1 / 8).toNat 0) (A0n .u8 b (7-w.2.1%8))),w.2.1+1,())
def wL(L:List Int):Wr:=L.foldl c3d ([],0,())
theorem c1T(L:List Int)(b:Int):wL (L++[b])=c3d (wL L) b:=by simp[wL]
theorem b6s:∀(n:Nat)(L:List Int),L.length=n→(wL L).2.1=L.length∧(wL L).1.length=(L.length+7) / 8
 |0,L,h=>by
  rw[a52.1 h];exact⟨rfl,rfl⟩
 |n+1,L,h=>by
  obtain⟨g,b,rfl⟩:∃g b,L=g++[b]:=by
   rcases List.eq_nil_or_concat L with rfl|⟨g,b,e⟩
   all_goals simp_all
  obtain⟨f,k⟩:=b6s n g (by simp_all);rw[c1T];simp only[c3d,List.length_set,lN,List.length_singleton,f]
  grind
theorem b9N(L:List Int):(wL L).2.1=L.length∧(wL L).1.length=(L.length+7) / 8:=b6s _ L rfl
theorem b9O{L:List Int}(l:L.length<1000000000)(b:Int):a3c (wL L,b)=some (wL (L++[b])):=by
 obtain⟨g,k⟩:=b9N L;have p:a62 ((L.length:Nat):Int) 8=((L.length:Nat):Int)%8:=Int.tmod_eq_emod_of_nonneg (by omega);have m:Int.tdiv ((L.length:Nat):Int) 8=((L.length:Nat):Int) / 8:=Int.tdiv_eq_ediv_of_nonneg (by omega);have c:wrap .i64 (((L.length:Nat):Int) / 8)=((L.length:Nat):Int) / 8:=a0G (by omega);have d:wrap .i64 (7-((L.length:Nat):Int)%8)=7-((L.length:Nat):Int)%8:=a0G (by omega);have e:wrap .i64 (((L.length:Nat):Int)+1)=((L.length:Nat):Int)+1:=a0G (by omega);have i:decide ((0:Int)≤((L.length:Nat):Int) / 8)=true:=by rfl
 have j:decide (7-((L.length:Nat):Int)%8<0)=false:=by grind
 rw[c1T];generalize wL L=wr at g k⊢;obtain⟨f,n,u⟩:=wr;have g:n=((L.length:Nat):Int):=g;have k:f.length=(L.length+7) / 8:=k;subst g;unfold a3c c3d
 by_cases h:((L.length:Nat):Int)%8=0
 have hb:(((L.length:Nat):Int)%8==0)=true:=by grind
 have o:lim (f.length+1)=true:=a7o (by omega);have a:decide (((L.length:Nat):Int) / 8<(((f++[0]).length:Nat):Int))=true:=by grind
 simp_all
 grind
def b3d(v:Int)(i:Nat):Int:=wrap .u8 (bits .u64 .and (A0o .u64 v (i:Int)) 1)
def pb(v:Int):Nat→List Int
 |0=>[]
 |i+1=>b3d v i::pb v i
theorem b3Z(v:Int):∀n,(pb v n).length=n
 |0=>rfl
 |n+1=>by simp[pb,b3Z v n]
def a0H(v:Int)(n:Nat)(L:List Int):List Int:=bif A0o .u64 v (n:Int) != 0 then L else L++pb v n
theorem a0L(v:Int)(n:Nat)(L:List Int):L.length≤(a0H v n L).length∧(a0H v n L).length≤L.length+n:=by
 grind[a0H,b3Z]
def a2d(v:Int)(n:Nat):Int:=bif A0o .u64 v (n:Int) != 0 then 1 else 0
theorem b9P{v:Int}:∀(n:Nat)(L:List Int),L.length+n<1000000000→y0s a4e (v,(n:Int)-1,wL L,())=some (wL (L++pb v n),())
 |0,L,_=>by simp_all[a0D,a4e,pb]
 |n+1,L,h=>by
  have e:((n+1:Nat):Int)-1=(n:Int):=by omega
  have g:wrap .i64 ((n:Int)-1)=(n:Int)-1:=a0G (by omega);have f:decide ((n:Int)≥0)=true:=by simp
  have k:decide ((n:Int)<0)=false:=by simp
  rw[e,a0E (s':=(v,(n:Int)-1,wL (L++[b3d v n]),())) (by
   simp only[a4e,f,k,cT,cF,show wrap .u8 (bits .u64 .and (A0o .u64 v (n:Int)) 1)=b3d v n from rfl,b9O (show L.length<1000000000 by omega),oB,g])]
  rw[b9P n (L++[b3d v n]) (by simp;omega),pb]
  simp
theorem a3n{v:Int}{n:Nat}(a:n≤63)(k:L.length<999999000):a0F (wL L,v,(n:Int))=some (a2d v n,wL (a0H v n L)):=by
 unfold a0F a2d a0H;have g:decide ((n:Int)<0)=false:=by simp
 have f:decide ((n:Int) > 64)=false:=by grind
 have h:wrap .i64 ((n:Int)-1)=(n:Int)-1:=a0G (by omega);simp[g,f];cases (A0o .u64 v (n:Int) != 0)with
 |true=>rfl
 |false=>simp only[cF,h,b9P n L (by omega),oB]
theorem b4a{v:Int}:∀(n:Nat)(L:List Int),n≤64→L.length+n<1000000000→y0s a5v (v,(n:Int)-1,(L,()),())=some ((L++pb v n,()),())
 |0,L,_,_=>by simp_all[a0D,a5v,pb]
 |n+1,L,h64,h=>by
  have e:((n+1:Nat):Int)-1=(n:Int):=by omega
  have g:wrap .i64 ((n:Int)-1)=(n:Int)-1:=a0G (by omega);have f:wrap .u64 (n:Int)=(n:Int):=a1c (by omega);have k:decide ((n:Int)≥0)=true:=by simp
  have a:decide ((n:Int)<0)=false:=by simp
  have b:lim (L.length+1)=true:=a7o (by omega);rw[e,a0E (s':=(v,(n:Int)-1,(L++[b3d v n],()),())) (by
   simp only[a5v,k,a,f,b,cT,cF,show wrap .u8 (bits .u64 .and (A0o .u64 v (n:Int)) 1)=b3d v n from rfl,a05,g])]
  rw[b4a n (L++[b3d v n]) (by omega) (by simp;omega),pb]
  simp
theorem a1B{v:Int}{n:Nat}(c:n≤63)(b:L.length<999999000):a0K ((L,()),v,(n:Int))=some (a2d v n,a0H v n L,()):=by
 unfold a0K a2d a0H;have f:decide ((n:Int)<0)=false:=by simp
 have k:decide ((n:Int) > 64)=false:=by grind
 have a:decide ((n:Int)<64)=true:=by grind
 have h:wrap .i64 ((n:Int)-1)=(n:Int)-1:=a0G (by omega);have g:wrap .u64 (n:Int)=(n:Int):=a1c (by omega);simp[f,k,a,g];cases (A0o .u64 v (n:Int) != 0)with
 |true=>rfl
 |false=>simp only[cF,h,b4a n L (by omega) (by omega),oB]
def unL(n:Nat)(L:List Int):List Int:=L++a01 n 0++[1]
theorem b9Q{n:Nat}(d:n≤4096)(c:L.length<999990000):a2j (wL L,(n:Int))=some (0,wL (unL n L)):=by
 unfold a2j unL;have g:decide ((n:Int)<0)=false:=by simp
 have k:decide ((n:Int) > 4096)=false:=by grind
 simp only[g,k,cF,oB]
 have:=a0Q (f:=a3v) (fun i=>((n:Int),(i:Int),wL (L++a01 i 0),())) n (b:=(wL (L++a01 n 0),())) (fun i a=>by
   have h:L++a01 i (0:Int)++[0]=L++a01 (i+1) 0:=by simp_all[a28]
   simp only[a3v,dlt a,cT,b9O (show(L++a01 i (0:Int)).length<1000000000 by grind),oB,h,a0B (show i<1000000 by omega)])
  (by simp[a3v])
 grind[b9O]
theorem b4b{n:Nat}(e:n≤4096)(d:L.length<999990000):a3e ((L,()),(n:Int))=some (0,unL n L,()):=by
 unfold a3e unL;have k:decide ((n:Int)<0)=false:=by simp
 have a:decide ((n:Int) > 4096)=false:=by grind
 simp only[k,a,cF,oB]
 have:=a0Q (f:=a4g) (fun i=>((n:Int),(i:Int),(L++a01 i 0,()),())) n (b:=((L++a01 n 0,()),())) (fun i c=>by
   have g:L++a01 i (0:Int)++[0]=L++a01 (i+1) 0:=by simp_all[a28]
   have h:lim ((L++a01 i (0:Int)).length+1)=true:=a7o (by grind);simp only[a4g,dlt c,cT,h,a05,g,a0B (show i<1000000 by omega)])
  (by simp[a4g])
 have h:lim ((L++a01 n (0:Int)).length+1)=true:=a7o (by grind);simp_all
theorem a6w(n:Nat)(L:List Int):(unL n L).length=L.length+n+1:=by simp[unL];rfl
def a2t(x:Int)(n:Nat):Int:=bits .u64 .and (wrap .u64 x) (wrap .u64 ((A0n .u64 1 (n:Int))-1))
def a1C(n:Nat)(l:List Int)(L:List Int):List Int:=l.foldl (fun L x=>a0H (a2t x n) n L) L
theorem a3G(n:Nat):∀(l L:List Int),L.length≤(a1C n l L).length∧(a1C n l L).length≤L.length+n*l.length
 | [],L=>by simp[a1C]
 |x::l,L=>by
  have h:=a0L (a2t x n) n L;have g:=a3G n l (a0H (a2t x n) n L);have e:a1C n (x::l) L=a1C n l (a0H (a2t x n) n L):=rfl;rw[e,lC,a71,a72];omega
theorem b1x{n:Nat}(f:n≤63)(g:L.length<999999000):a2P (wL L,x,(n:Int))=some (wL (a0H (a2t x n) n L)):=by
 unfold a2P;have h:decide ((n:Int)<0)=false:=by simp
 simp only[h,cF,show bits .u64 .and (wrap .u64 x) (wrap .u64 ((A0n .u64 1 (n:Int))-1))=a2t x n from rfl,a3n f g,oB]
theorem a6x{n:Nat}(d:n≤63)(j:l.length<10000)(e:L.length<900000000):a2E ((L,()),l,(n:Int))=some (a1C n l L,()):=by
 have a:wrap .u64 (n:Int)=(n:Int):=a1c (by omega);have b:decide ((n:Int)<0)=false:=by simp
 have f:∀(k i:Nat)(h:List Int),i+k=l.length→h.length+64*k<999990000→y0s a5Q (l,(n:Int),(i:Int),(h,()),())=some ((a1C n (l.drop i) h,()),()):=by
  intro k
  induction k with
  |zero=>
   intro i h c _;obtain rfl:i=l.length:=by omega
   simp_all[a0D,a5Q,a1C]
  |succ k ih=>
   intro i h c hb;have g:i<l.length:=by omega
   have hp:=a0L (a2t l[i] n) n h;rw[a00 g,a0E (s':=(l,(n:Int),((i+1:Nat):Int),(a0H (a2t l[i] n) n h,()),())) (by
    simp only[a5Q,dlt g,cT,a0C g,oB,a,b,cF,show bits .u64 .and (wrap .u64 l[i]) (wrap .u64 ((A0n .u64 1 (n:Int))-1))=a2t l[i] n from rfl,a1B d (show h.length<999999000 by omega),a0B (show i<1000000 by omega)])]
   exact ih (i+1) _ (by omega) (by omega)
 have:=f l.length 0 L (by omega) (by omega)
 simp_all[a2E]
def a1P(x w:Int):Bool:=decide (1≤w)&&(decide (w≤31)&&(decide (A0n .i64 (-1) (w-1)≤x)&&decide (x≤wrap .i64 (A0n .i64 1 (w-1)-1))))
theorem a6g(a:w≤32):a4T (x,(w:Int))=some (a1P x w):=by
 unfold a4T a1P b1n b0M
 by_cases h1:1≤(w:Int)
 by_cases h2:(w:Int)≤31
 have h:decide ((w:Int)<1)=false:=by simp_all
 have g:decide ((w:Int) > 31)=false:=by simp_all
 have e:wrap .i64 ((w:Int)-1)=(w:Int)-1:=a0G (by omega);have f:decide ((w:Int)-1<0)=false:=by simp_all
 have k:decide ((w:Int)≥1)=true:=by simp_all
 simp[h1,h2,h,g,f,e]
 grind
 grind
 grind
theorem b2u(b:w≤32):a8D (x,(w:Int))=some (a1P x w):=by
 unfold a8D a1P b5k b3N
 by_cases h1:1≤(w:Int)
 by_cases h2:(w:Int)≤31
 have f:decide ((w:Int)<1)=false:=by simp_all
 have k:decide ((w:Int) > 31)=false:=by simp_all
 have e:wrap .i64 ((w:Int)-1)=(w:Int)-1:=a0G (by omega);have g:wrap .u64 ((w:Int)-1)=(w:Int)-1:=a1c (by omega);have a:decide ((w:Int)-1<0)=false:=by simp_all
 have h:decide ((w:Int)≥1)=true:=by simp_all
 simp only[h,h1,h2,f,k,a,e,g,decide_true,cT,cF,oB,a21]
 grind
 grind
 grind
def a1E(x:Int):Nat→Nat→Nat
 |0,w=>w
 |k+1,w=>bif (x != 0)&&!a1P x w then a1E x k (w+1)else w
theorem b3e(x:Int):∀(k w:Nat),a1E x k w≤w+k
 |0,w=>a34 _
 |k+1,w=>by
  simp[a1E];cases (x != 0)&&!a1P x w with
  |true=>have:=b3e x k (w+1);grind
  |false=>simp
def a0J(l:List Int):Nat:=l.foldl (fun w x=>a1E x (32-w) w) 0
theorem b3x:∀(l:List Int)(w:Nat),w≤32→l.foldl (fun w x=>a1E x (32-w) w) w≤32
 | [],w,h=>h
 |x::l,w,h=>b3x l _ (show a1E x (32-w) w≤32 by grind[b3e])
theorem a2H(l:List Int):a0J l≤32:=b3x l 0 (by omega)
theorem b7J{x:Int}{l:List Int}{n i:Int}:∀(k w:Nat),w+k=32→y0s a3b ((w:Int),x,l,n,i,())=some (((a1E x k w:Nat):Int),l,n,i,())
 |0,w,h=>by
  obtain rfl:w=32:=by omega
  simp_all[a0D,a3b,a1E]
 |k+1,w,h=>by
  have g:decide ((w:Int)<32)=true:=by grind
  simp[a1E];cases hx:(x != 0)with
  |false=>simp_all[a0D,a3b]
  |true=>
   cases hf:a1P x w with
   |true=>exact a0D (by simp only[a3b,hx,g,a6g (show w≤32 by omega),hf,oB,cT,cF,bT,a77])
   |false=>
    rw[a0E (s':=(((w+1:Nat):Int),x,l,n,i,())) (by simp only[a3b,hx,g,a6g (show w≤32 by omega),hf,oB,cT,a16,a0B (show w<1000000 by omega)])];exact b7J k (w+1) (by omega)
theorem a5A(c:short l):a3o l=some ((a0J l:Nat):Int):=by
 have c:l.length<1000000:=c
 have:=a1S (f:=a5I) l (fun i (w:Nat)=>((w:Int),l,(l.length:Int),(i:Int),())) (fun w x=>(.inl (a1E x (32-w) w):Nat ⊕ (Int×Unit))) (fun _ w=>w≤32) (fun w=>((w:Int),()))
  (fun i h w e=>⟨fun d k=>by
   simp at k;subst k;refine⟨?_,by grind[b3e]⟩;simp only[a5I,dlt h,cT,a0C h,oB,b7J (32-w) w (by omega),a0B (show i<1000000 by omega)],fun b hb=>(by grind)⟩)
  (fun w _=>by simp[a5I]) (a:=0) (by omega)
 simp at this;unfold a3o;rw[this];have g:∀(l:List Int)(w:Nat),a2s (fun w x=>(.inl (a1E x (32-w) w):Nat ⊕ (Int×Unit))) l w=.inl (l.foldl (fun w x=>a1E x (32-w) w) w):=by
  intro l
  induction l with
  |nil=>intro w;rfl
  |cons x l ih=>simp_all[a2s]
 rw[g];rfl
theorem b3y{l:List Int}{i:Nat}(g:i<l.length):∀(k w:Nat),w+k=32→y0s a6K (l,(w:Int),(i:Int),())=some (l,((a1E l[i] k w:Nat):Int),(i:Int),())
 |0,w,h=>by
  obtain rfl:w=32:=by omega
  rfl
 |k+1,w,h=>by
  have f:decide ((w:Int)<32)=true:=by grind
  simp[a1E];cases hx:(l[i] != 0)with
  |false=>simp_all[a0D,a6K,a0C]
  |true=>
   cases hf:a1P l[i] w with
   |true=>exact a0D (by simp only[a6K,a0C g,hx,f,b2u (show w≤32 by omega),hf,oB,cT,cF,bT,a77])
   |false=>
    rw[a0E (s':=(l,((w+1:Nat):Int),(i:Int),())) (by simp only[a6K,a0C g,hx,f,b2u (show w≤32 by omega),hf,oB,cT,a16,a0B (show w<1000000 by omega)])];exact b3y g k (w+1) (by omega)
theorem a7t(c:short l):a6s l=some ((a0J l:Nat):Int):=by
 have c:l.length<1000000:=c
 have:=a1S (f:=a8m) l (fun i (w:Nat)=>(l,(w:Int),(i:Int),())) (fun w x=>(.inl (a1E x (32-w) w):Nat ⊕ (Int×Unit))) (fun _ w=>w≤32) (fun w=>((w:Int),()))
  (fun i h w e=>⟨fun d k=>by
   simp at k;subst k;refine⟨?_,by grind[b3e]⟩;simp only[a8m,dlt h,cT,oB,b3y h (32-w) w (by omega),a0B (show i<1000000 by omega)],fun b hb=>(by grind)⟩)
  (fun w _=>by simp[a8m]) (a:=0) (by omega)
 simp at this;unfold a6s;rw[this];have g:∀(l:List Int)(w:Nat),a2s (fun w x=>(.inl (a1E x (32-w) w):Nat ⊕ (Int×Unit))) l w=.inl (l.foldl (fun w x=>a1E x (32-w) w) w):=by
  intro l
  induction l with
  |nil=>intro w;rfl
  |cons x l ih=>simp_all[a2s]
 rw[g];rfl
theorem a9m(x:Int):a6Q x=some (a0A x):=by
 grind[a6Q,a0A]
def a0P(x:Int):Nat:=if 0≤x then(2*x).toNat else(-2*x-1).toNat
theorem a8y(h:a0A x=true):a0P x<2147483648:=by
 grind[a2i,a0P]
theorem a9n(h:a0A x=true):a8b x=some ((a0P x:Nat):Int):=by
 have f:=a2i.1 h;unfold a8b a0P;simp only[a9m,h,oB,bT,cF]
 by_cases h0:0≤x
 have g:decide (x≥0)=true:=by simp_all
 simp only[g,cT,if_pos h0]
 grind[a0G,a1c]
 have g:decide (x≥0)=false:=by simp_all
 simp only[g,cF,if_neg h0]
 grind[a0G,a1c]
theorem c6i{y:Nat}(h:y<18446744073709551616):bits .u64 .xor (IntKind.max .u64) (y:Int)=((18446744073709551615-y:Nat):Int):=by
 show wrap .u64 (((a07 64 (IntKind.max .u64)) ^^^ (a07 64 (y:Int))).toNat:Int)=_;have g:a07 64 (IntKind.max .u64)=BitVec.allOnes 64:=by rfl
 have f:a07 64 (y:Int)=BitVec.ofNat 64 y:=a29 64 y;rw[g,f,BitVec.allOnes_xor,BitVec.toNat_not,a33,a36 h];rw[a1c (by omega)]
theorem a9Z(h:a0A x=true):b0G x=some ((a0P x:Nat):Int):=by
 have k:=a2i.1 h;unfold b0G b5n a0P;simp only[a1Y,h,oB,bT,cF];have f:∀y:Int,A0n .u64 y 1=wrap .u64 (y*2):=fun y=>rfl
 by_cases h0:0≤x
 have g:decide (x<0)=false:=by simp_all
 simp only[g,cF,oB,if_pos h0,f]
 grind[a1c]
 have g:decide (x<0)=true:=by simp_all
 simp only[g,cT,oB,if_neg h0,f]
 grind[wrap,IntKind.bits,IntKind.signed,c6i]
theorem a6k{N o:Nat}(h:o≤64):A0o .u64 (N:Int) (o:Int)=((N / 2^o:Nat):Int):=b2Z h
theorem b7K(h:o≤64)(g:N*2^o<9223372036854775808):A0n .u64 (N:Int) (o:Int)=((N*2^o:Nat):Int):=by
 unfold A0n;show wrap .u64 ((N:Int)*2^(min (o:Int).toNat 64))=_
 grind[a1c]
theorem b9R{y k:Nat}(c:y<18446744073709551616)(f:k≤62):bits .u64 .and (y:Int) (wrap .u64 (A0n .u64 1 (k:Int)-1))=((y%2^k:Nat):Int):=by
 have hp:2^k≤2^62:=a30 (by simp) f;have a:1≤2^k:=a63;have b:(2:Nat)^62=4611686018427387904:=by rfl
 have h:A0n .u64 1 (k:Int)=((2^k:Nat):Int):=by have:=b7K (N:=1) (o:=k) (by omega) (by omega);simp_all
 have g:wrap .u64 (((2^k:Nat):Int)-1)=((2^k-1:Nat):Int):=by grind[a1c]
 rw[h,g];show wrap .u64 (((a07 64 (y:Int)) &&& (a07 64 ((2^k-1:Nat):Int))).toNat:Int)=_;rw[a29,a29,a73,a33,a33,a36 c,a36 (by omega),Nat.and_two_pow_sub_one_eq_mod]
 have:y%2^k<2^k:=a76 _ (by omega)
 exact a1c (by omega)
theorem a9E{q:Nat}(h:q<2147483648):wrap .i64 (q:Int)=(q:Int):=a0G (by omega)
def a6y(k:Nat)(x:Int)(L:List Int):List Int:=
 if a0P x / 2^k<32 then a0H ((a0P x%2^k:Nat):Int) k (unL (a0P x / 2^k) L)else a0H ((a0P x:Nat):Int) 32 (unL 32 L)
def a4J(k:Nat)(l:List Int)(L:List Int):List Int:=l.foldl (fun L x=>a6y k x L) L
theorem b1y{k:Nat}(h:k≤25)(x:Int)(L:List Int):L.length≤(a6y k x L).length∧(a6y k x L).length≤L.length+100:=by
 grind[a6y,a0L,a6w]
theorem b3z{k:Nat}(h:k≤25):∀(l L:List Int),L.length≤(a4J k l L).length∧(a4J k l L).length≤L.length+100*l.length
 | [],L=>by simp[a4J]
 |x::l,L=>by
  have g:=b1y h x L;have f:=b3z h l (a6y k x L);have e:a4J k (x::l) L=a4J k l (a6y k x L):=rfl
  grind
theorem a7W{k:Nat}(h:k≤25):a4A (k:Int)=some true:=by
 unfold a4A
 grind
theorem a8z{k:Nat}(h:k≤25):a2D (k:Int)=some true:=by
 unfold a2D
 grind
theorem c1y{k:Nat}(y:k≤25)(E:l.length<10000)(t:l.all a0A=true)(D:L.length<900000000):b0Z (wL L,(k:Int),l)=some (0,wL (a4J k l L)):=by
 have B:=a1y (f:=a8k) l (fun i=>((k:Int),l,l,(l.length:Int),(i:Int),wL L,())) (fun _=>true) (bt:=Sum.inl ((k:Int),l,wL L,())) (bf:=Sum.inl ((k:Int),l,wL L,()))
  (fun i h _=>by
   have:=lA.1 t _ (a04 h)
   simp only[a8k,dlt h,cT,a0C h,oB,a9m,this,bT,cF,a0B (show i<1000000 by omega)])
  (fun i h hp=>by simp_all) (by simp[a8k])
 have p:∀(j i:Nat)(g:List Int),i+j=l.length→g.length+100*j<999990000→y0s a6I ((k:Int),l,(l.length:Int),(i:Int),wL g,())=some (wL (a4J k (l.drop i) g),()):=by
  intro j
  induction j with
  |zero=>
   intro i g x _;obtain rfl:i=l.length:=by omega
   simp_all[a0D,a6I,a4J]
  |succ j ih=>
   intro i g x hb;have a:i<l.length:=by omega
   have c:=lA.1 t _ (a04 a);have A:=a8y c;have z:=b1y y l[i] g;have e:decide ((k:Int)<0)=false:=by simp
   have q:A0o .u64 ((a0P l[i]:Nat):Int) (k:Int)=((a0P l[i] / 2^k:Nat):Int):=a6k (by omega);have o:=a24 (a0P l[i]) (2^k);have r:=a54 (a0P l[i]) (2^k);have d:A0n .u64 ((a0P l[i] / 2^k:Nat):Int) (k:Int)=((a0P l[i] / 2^k*2^k:Nat):Int):=b7K (by omega) (by grind);have u:wrap .u64 (((a0P l[i]:Nat):Int)-((a0P l[i] / 2^k*2^k:Nat):Int))=((a0P l[i]%2^k:Nat):Int):=by
    rw[a66 (a0P l[i] / 2^k)]
    grind[a1c]
   have w:wrap .i64 ((a0P l[i] / 2^k:Nat):Int)=((a0P l[i] / 2^k:Nat):Int):=a9E (a27 o A);rw[a00 a,a0E (s':=((k:Int),l,(l.length:Int),((i+1:Nat):Int),wL (a6y k l[i] g),())) (by
    by_cases hq:a0P l[i] / 2^k<32
    have m:decide (((a0P l[i] / 2^k:Nat):Int)<32)=true:=decide_eq_true (by omega);have s:(unL (a0P l[i] / 2^k) g).length<999999000:=by
     rw[a6w];omega
    have b:=b9Q (L:=g) (n:=a0P l[i] / 2^k) (a53 (a06 hq (by simp))) (by omega);have hp:=a3n (L:=unL (a0P l[i] / 2^k) g) (v:=((a0P l[i]%2^k:Nat):Int)) (n:=k) (by omega) s;simp only[a6I,dlt a,cT,a0C a,oB,a9n c,e,cF,q,m,w,b,d,u,hp,a6y,if_pos hq,a0B (show i<1000000 by omega)];have m:decide (((a0P l[i] / 2^k:Nat):Int)<32)=false:=decide_eq_false (by omega);have s:=a6w 32 g;have b:a2j (wL g,(32:Int))=some (0,wL (unL 32 g)):=b9Q (L:=g) (n:=32) (by omega) (by omega);have hp:a0F (wL (unL 32 g),((a0P l[i]:Nat):Int),(32:Int))=some (a2d ((a0P l[i]:Nat):Int) 32,wL (a0H ((a0P l[i]:Nat):Int) 32 (unL 32 g))):=a3n (L:=unL 32 g) (v:=((a0P l[i]:Nat):Int)) (n:=32) (by omega) (by omega);simp only[a6I,dlt a,cT,a0C a,oB,a9n c,e,cF,q,m,b,hp,a6y,if_neg hq,a0B (show i<1000000 by omega)])]
   exact ih (i+1) _ (by omega) (by omega)
 have C:=p l.length 0 L (by omega) (by omega);simp_all[b0Z,a7W]
theorem b7v{k:Nat}(r:k≤25)(C:l.length<10000)(t:l.all a0A=true)(B:L.length<900000000):a9b ((L,()),(k:Int),l)=some (0,a4J k l L,()):=by
 have o:wrap .u64 (k:Int)=(k:Int):=a1c (by omega);have e:∀(j i:Nat)(h:List Int),i+j=l.length→h.length+100*j<999990000→y0s a5x ((k:Int),l,(i:Int),(h,()),())=some ((a4J k (l.drop i) h,()),()):=by
  intro j
  induction j with
  |zero=>
   intro i h w _;obtain rfl:i=l.length:=by omega
   simp_all[a0D,a5x,a4J]
  |succ j ih=>
   intro i h w hb;have g:i<l.length:=by omega
   have a:=lA.1 t _ (a04 g);have A:=a8y a;have x:=b1y r l[i] h;have b:decide ((k:Int)<0)=false:=by simp
   have m:A0o .u64 ((a0P l[i]:Nat):Int) (k:Int)=((a0P l[i] / 2^k:Nat):Int):=a6k (by omega);have d:=a24 (a0P l[i]) (2^k);have u:=b9R (y:=a0P l[i]) (k:=k) (by omega) (by omega);have p:wrap .i64 ((a0P l[i] / 2^k:Nat):Int)=((a0P l[i] / 2^k:Nat):Int):=a9E (a27 d A);rw[a00 g,a0E (s':=((k:Int),l,((i+1:Nat):Int),(a6y k l[i] h,()),())) (by
    by_cases hq:a0P l[i] / 2^k<32
    have c:decide (((a0P l[i] / 2^k:Nat):Int)<32)=true:=decide_eq_true (by omega);have s:(unL (a0P l[i] / 2^k) h).length<999999000:=by
     rw[a6w];omega
    have f:=b4b (L:=h) (n:=a0P l[i] / 2^k) (a53 (a06 hq (by simp))) (by omega);have hp:=a1B (L:=unL (a0P l[i] / 2^k) h) (v:=((a0P l[i]%2^k:Nat):Int)) (n:=k) (by omega) s;simp only[a5x,dlt g,cT,a0C g,oB,a9Z a,o,b,cF,m,c,p,f,u,hp,a6y,if_pos hq,a0B (show i<1000000 by omega)];have c:decide (((a0P l[i] / 2^k:Nat):Int)<32)=false:=decide_eq_false (by omega);have s:=a6w 32 h;have f:a3e ((h,()),(32:Int))=some (0,unL 32 h,()):=b4b (L:=h) (n:=32) (by omega) (by omega);have hp:a0K ((unL 32 h,()),((a0P l[i]:Nat):Int),(32:Int))=some (a2d ((a0P l[i]:Nat):Int) 32,a0H ((a0P l[i]:Nat):Int) 32 (unL 32 h),()):=a1B (L:=unL 32 h) (v:=((a0P l[i]:Nat):Int)) (n:=32) (by omega) (by omega);simp only[a5x,dlt g,cT,a0C g,oB,a9Z a,o,b,cF,m,c,p,f,hp,a6y,if_neg hq,a0B (show i<1000000 by omega)])]
   exact ih (i+1) _ (by omega) (by omega)
 have q:=e l.length 0 L (by omega) (by omega);simp at q;have z:short l:=by unfold short;omega
 unfold a9b;simp only[a8z r,oB,bT,cF,a0N z,t,q]
def a1i(zn:List Nat):List Int:=zn.map fun(a:Nat)=>(a:Int)
theorem b8G(n M:Nat):(a01 n M).sum=n*M:=by
 simp
theorem b2v{o n warm:Int}(h:(a1l o n warm).length≠0):∃zn:List Nat,a1l o n warm=a1i zn∧(zn.sum:Int)=n-warm∧zn.length≤256:=by
 unfold a1l at h⊢;cases hr:(a2L n warm&&(decide (0≤o)&&decide (o≤8)))with
 |false=>simp_all
 |true=>
  rw[hr]at h;simp only[cT]at h⊢;simp[a2L]at hr;unfold a9k at h⊢
  split at h
  rename_i g;rw[if_pos g];obtain⟨O,rfl⟩:=a03 hr.2.1;obtain⟨N,rfl⟩:=a03 (show 0≤n by omega);obtain⟨w,rfl⟩:=a03 (show 0≤warm by omega);simp only[tN]at g⊢;have hp:=c4G (o:=O) (by omega);have f:=a54 N (2^O);rw[g.1,a67]at f;have k:w≤N / 2^O:=by omega
  generalize N / 2^O=M at g k f⊢;generalize 2^O=P at hp f⊢;refine⟨(M-w)::a01 (P-1) M,?_,?_,?_⟩
  grind[a1i,List.map_replicate]
  rw[a61,b8G];obtain⟨q,rfl⟩:∃q,P=q+1:=⟨P-1,by omega⟩
  grind
  simp_all;simp_all
def a7N(k:Int)(part L:List Int):List Int:=
 if k=31 then a1C (a0J part) part (a0H ((a0J part:Nat):Int) 5 (a0H (wrap .u64 k) 5 L))else a4J k.toNat part (a0H (wrap .u64 k) 5 L)
def a5B:List Nat→List Int→List Int→List Int→List Int
 |z::zs,k::ks,l,L=>a5B zs ks (l.drop z) (a7N k (l.take z) L)
 |_,_,_,L=>L
theorem b1z(h:kB k=true)(part L:List Int):L.length≤(a7N k part L).length∧(a7N k part L).length≤L.length+10+100*part.length:=by
 unfold a7N;have a:=a0L (wrap .u64 k) 5 L;split;have b:=a0L ((a0J part:Nat):Int) 5 (a0H (wrap .u64 k) 5 L);have c:=a3G (a0J part) part (a0H ((a0J part:Nat):Int) 5 (a0H (wrap .u64 k) 5 L));have f:=a2H part
 have:a0J part*part.length≤32*part.length:=a35 _ f
 omega;rename_i g;simp[kB]at h
 grind[b3z]
theorem a3f(h:i<zn.length):a68 (a1i zn) i 0=((zn[i]:Nat):Int):=by
 simp_all[a1i]
theorem a0X(h:List Nat):(a1i h).length=h.length:=by simp[a1i]
theorem a7u(h:i<zn.length):(zn.drop i).sum=zn[i]+(zn.drop (i+1)).sum:=by
 grind[a00]
theorem b9S{part rest:List Int}{wd:Nat}{a b:Int}{z:List Int}{p:Prt}(k:wd≤32)(hp:part.length<10000):∀(j i:Nat)(L:List Int),i+j=part.length→L.length+64*j<999990000→
  y0s a7E (rest,(wd:Int),a,b,part,(part.length:Int),(i:Int),z,wL L,p,())=some (rest,a,b,z,wL (a1C wd (part.drop i) L),p,())
 |0,i,L,hi,_=>by
  obtain rfl:i=part.length:=by omega
  simp_all[a0D,a7E,a1C]
 |j+1,i,L,hi,hb=>by
  have h:i<part.length:=by omega
  have g:decide ((wd:Int)<0)=false:=by simp
  have f:=a0L (a2t part[i] wd) wd L;rw[a00 h,a0E (s':=(rest,(wd:Int),a,b,part,(part.length:Int),((i+1:Nat):Int),z,wL (a0H (a2t part[i] wd) wd L),p,())) (by
   simp only[a7E,dlt h,cT,a0C h,oB,g,cF,show bits .u64 .and (wrap .u64 part[i]) (wrap .u64 ((A0n .u64 1 (wd:Int))-1))=a2t part[i] wd from rfl,a3n (show wd≤63 by omega) (show L.length<999999000 by omega),a0B (show i<1000000 by omega)])]
  exact b9S k hp j (i+1) _ (by omega) (by omega)
theorem b2H{zn:List Nat}{p:Prt}(N:p.2.1.length=zn.length)(c:p.2.1.all kB=true)(R:zn.length≤256):∀(j i:Nat)(l L:List Int),i+j=zn.length→(zn.drop i).sum=l.length→l.all a0A=true→l.length≤5000→L.length+10*j+100*l.length<800000000→
  y0s a4o (l,(zn.length:Int),(i:Int),a1i zn,wL L,p,())=some (wL (a5B (zn.drop i) (p.2.1.drop i) l L),())
 |0,i,l,L,hi,_,_,_,_=>by
  obtain rfl:i=zn.length:=by omega
  simp_all[a0D,a4o,a5B]
 |j+1,i,l,L,hi,hsum,hw,hl5,hb=>by
  have h:i<zn.length:=by omega
  have f:i<p.2.1.length:=by omega
  have s:=lA.1 c _ (a04 f);rw[a7u h]at hsum;have B:decide ((0:Int)≤(i:Int))=true:=by simp
  have C:decide ((i:Int)<(((a1i zn).length:Nat):Int))=true:=by simp_all[a0X]
  have D:decide ((0:Int)≤((zn[i]:Nat):Int))=true:=by simp
  have E:decide (((zn[i]:Nat):Int)≤((l.length:Nat):Int))=true:=by grind
  have t:(l.take zn[i]).length=zn[i]:=by simp_all
  have q:(l.drop zn[i]).length=(zn.drop (i+1)).sum:=by grind
  have w:(l.take zn[i]).all a0A=true:=lA.2 fun x A=>lA.1 hw x (a22 A);have y:(l.drop zn[i]).all a0A=true:=lA.2 fun x A=>lA.1 hw x (a23 A);have Q:=b1z s (l.take zn[i]) L;have O:=a0L (wrap .u64 p.2.1[i]) 5 L;have d:a0F (wL L,wrap .u64 p.2.1[i],(5:Int))=some (a2d (wrap .u64 p.2.1[i]) 5,wL (a0H (wrap .u64 p.2.1[i]) 5 L)):=a3n (n:=5) (by omega) (by omega);have G:zn.drop i=zn[i]::zn.drop (i+1):=a00 h;have H:p.2.1.drop i=p.2.1[i]::p.2.1.drop (i+1):=a00 f;rw[G,H,a5B];have r:a4o (l,(zn.length:Int),(i:Int),a1i zn,wL L,p,())=some (.inl (l.drop zn[i],(zn.length:Int),((i+1:Nat):Int),a1i zn,wL (a7N p.2.1[i] (l.take zn[i]) L),p,())):=by
   by_cases h31:p.2.1[i]=31
   have m:(p.2.1[i] != 31)=false:=by simp_all
   have v:=a2H (l.take zn[i]);have u:=a5A (l:=l.take zn[i]) (by unfold short;omega);have P:=a0L ((a0J (l.take zn[i]):Nat):Int) 5 (a0H (wrap .u64 p.2.1[i]) 5 L);have I:wrap .u64 ((a0J (l.take zn[i]):Nat):Int)=((a0J (l.take zn[i]):Nat):Int):=a1c (by omega);have o:a0F (wL (a0H (wrap .u64 p.2.1[i]) 5 L),((a0J (l.take zn[i]):Nat):Int),(5:Int))=some (a2d ((a0J (l.take zn[i]):Nat):Int) 5,wL (a0H ((a0J (l.take zn[i]):Nat):Int) 5 (a0H (wrap .u64 p.2.1[i]) 5 L))):=a3n (n:=5) (by omega) (by omega);have e:=b9S (part:=l.take zn[i]) (rest:=l.drop zn[i]) (a:=(zn.length:Int)) (b:=(i:Int)) (z:=a1i zn) (p:=p) v (by omega) (l.take zn[i]).length 0 (a0H ((a0J (l.take zn[i]):Nat):Int) 5 (a0H (wrap .u64 p.2.1[i]) 5 L)) (by omega) (by omega);simp only[nZ,a08]at e;simp only[a4o,dlt h,B,C,a3f h,D,E,cT,a02,tN,a0C f,oB,d,m,cF,u,I,o,a18,e,a0B (show i<1000000 by omega),a7N,if_pos h31];have m:(p.2.1[i] != 31)=true:=by simp_all
   simp[kB]at s;obtain⟨K,M⟩:=a03 (show 0≤p.2.1[i]by omega);have g:=c1y (k:=K) (l:=l.take zn[i]) (L:=a0H (wrap .u64 p.2.1[i]) 5 L) (by omega) (by omega) w (by omega);rw[←M]at g;have F:K=p.2.1[i].toNat:=by omega
   simp only[a4o,dlt h,B,C,a3f h,D,E,cT,a02,tN,a0C f,oB,d,m,g,a18,a0B (show i<1000000 by omega),a7N,if_neg h31,F]
  rw[a0E r];exact b2H N c R j (i+1) (l.drop zn[i]) _ (by omega) q.symm y (by omega) (by omega)
theorem b0J{zn:List Nat}{p:Prt}{l:List Int}(N:p.2.1.length=zn.length)(b:p.2.1.all kB=true)(T:zn.length≤256)(E:l.all a0A=true)(s:l.length≤5000):∀(j i off:Nat)(L:List Int),i+j=zn.length→off+(zn.drop i).sum=l.length→L.length+10*j+100*(l.length-off)<800000000→
  y0s a3r (l,(off:Int),(i:Int),a1i zn,(L,()),p,())=some ((a5B (zn.drop i) (p.2.1.drop i) (l.drop off) L,()),())
 |0,i,off,L,hi,_,_=>by
  obtain rfl:i=zn.length:=by omega
  simp_all[a0D,a3r,a5B,a0X]
 |j+1,i,off,L,hi,hsum,hb=>by
  have a:i<zn.length:=by omega
  have f:i<p.2.1.length:=by omega
  have q:=lA.1 b _ (a04 f);rw[a7u a]at hsum;have y:decide ((0:Int)≤(i:Int))=true:=by simp
  have z:decide ((i:Int)<(((a1i zn).length:Nat):Int))=true:=by simp_all[a0X]
  have w:wrap .i64 ((off:Int)+((zn[i]:Nat):Int))=((off+zn[i]:Nat):Int):=by grind[a0G]
  have A:decide ((0:Int)≤((off+zn[i]:Nat):Int))=true:=by rfl
  have B:decide (((off+zn[i]:Nat):Int)≤((l.length:Nat):Int))=true:=by grind
  have C:decide ((0:Int)≤(off:Int))=true:=by simp
  have D:decide ((off:Int)≤((off+zn[i]:Nat):Int))=true:=by grind
  have h:a69 off (a48 (off+zn[i]) l)=(l.drop off).take zn[i]:=by grind
  have d:(l.drop off).drop zn[i]=l.drop (off+zn[i]):=by simp
  have t:((l.drop off).take zn[i]).length=zn[i]:=by rw[a32,a37];omega
  have v:((l.drop off).take zn[i]).all a0A=true:=lA.2 fun x S=>lA.1 E x (a23 (a22 S));have Q:=b1z q ((l.drop off).take zn[i]) L;have O:=a0L (wrap .u64 p.2.1[i]) 5 L;have c:a0K ((L,()),wrap .u64 p.2.1[i],(5:Int))=some (a2d (wrap .u64 p.2.1[i]) 5,a0H (wrap .u64 p.2.1[i]) 5 L,()):=a1B (n:=5) (by omega) (by omega);have G:zn.drop i=zn[i]::zn.drop (i+1):=a00 a;have H:p.2.1.drop i=p.2.1[i]::p.2.1.drop (i+1):=a00 f;rw[G,H,a5B,d];have o:a3r (l,(off:Int),(i:Int),a1i zn,(L,()),p,())=some (.inl (l,((off+zn[i]:Nat):Int),((i+1:Nat):Int),a1i zn,(a7N p.2.1[i] ((l.drop off).take zn[i]) L,()),p,())):=by
   by_cases h31:p.2.1[i]=31
   have e:(p.2.1[i]==31)=true:=by simp_all
   have R:=a2H ((l.drop off).take zn[i]);have u:=a7t (l:=(l.drop off).take zn[i]) (by unfold short;omega);have P:=a0L ((a0J ((l.drop off).take zn[i]):Nat):Int) 5 (a0H (wrap .u64 p.2.1[i]) 5 L);have I:wrap .u64 ((a0J ((l.drop off).take zn[i]):Nat):Int)=((a0J ((l.drop off).take zn[i]):Nat):Int):=a1c (by omega);have m:a0K ((a0H (wrap .u64 p.2.1[i]) 5 L,()),((a0J ((l.drop off).take zn[i]):Nat):Int),(5:Int))=some (a2d ((a0J ((l.drop off).take zn[i]):Nat):Int) 5,a0H ((a0J ((l.drop off).take zn[i]):Nat):Int) 5 (a0H (wrap .u64 p.2.1[i]) 5 L),()):=a1B (n:=5) (by omega) (by omega);have r:=a6x (l:=(l.drop off).take zn[i]) (L:=a0H ((a0J ((l.drop off).take zn[i]):Nat):Int) 5 (a0H (wrap .u64 p.2.1[i]) 5 L)) (n:=a0J ((l.drop off).take zn[i])) (by omega) (by omega) (by omega);simp only[a3r,y,z,a3f a,w,A,B,C,D,cT,a02,tN,a0C f,oB,c,e,h,u,I,m,r,a0B (show i<1000000 by omega),a7N,if_pos h31];have e:(p.2.1[i]==31)=false:=by simp_all
   simp[kB]at q;obtain⟨K,M⟩:=a03 (show 0≤p.2.1[i]by omega);have g:=b7v (k:=K) (l:=(l.drop off).take zn[i]) (L:=a0H (wrap .u64 p.2.1[i]) 5 L) (by omega) (by omega) v (by omega);rw[←M]at g;have F:K=p.2.1[i].toNat:=by omega
   simp only[a3r,y,z,a3f a,w,A,B,C,D,cT,cF,a02,tN,a0C f,oB,c,e,h,g,a0B (show i<1000000 by omega),a7N,if_neg h31,F]
  rw[a0E o];exact b0J N b T E s j (i+1) (off+zn[i]) _ (by omega) (by omega) (by omega)
theorem b7w{k:Nat}(d:k≤25)(g:a0A x=true):∃c,a6R ((k:Int),x)=some c∧0≤c∧c≤65:=by
 have e:=a8y g;have f:A0o .u64 ((a0P x:Nat):Int) (k:Int)=((a0P x / 2^k:Nat):Int):=a6k (by omega);have a:wrap .i64 ((a0P x / 2^k:Nat):Int)=((a0P x / 2^k:Nat):Int):=a9E (a27 (a24 _ _) e);have h:decide ((k:Int)<0)=false:=by simp
 unfold a6R;simp only[a7W d,a9m,g,oB,bT,cF,a9n g,h,f,a];generalize a0P x / 2^k=q
 by_cases hq:q<32
 have b:decide ((q:Int)<32)=true:=decide_eq_true (by omega);refine⟨(q:Int)+1+k,?_,by omega,by omega⟩;simp only[b,cT]
 grind[a0G]
 grind
theorem b4J{k:Nat}(e:k≤25)(g:a0A x=true):∃c,a4X ((k:Int),x)=some c∧0≤c∧c≤65:=by
 have i:=a8y g;have f:A0o .u64 ((a0P x:Nat):Int) (k:Int)=((a0P x / 2^k:Nat):Int):=a6k (by omega);have b:wrap .i64 ((a0P x / 2^k:Nat):Int)=((a0P x / 2^k:Nat):Int):=a9E (a27 (a24 _ _) i);have a:wrap .u64 (k:Int)=(k:Int):=a1c (by omega);have h:decide ((k:Int)<0)=false:=by simp
 unfold a4X;simp only[a8z e,a1Y,g,oB,bT,cF,a9Z g,a,h,f,b];generalize a0P x / 2^k=q
 by_cases hq:q<32
 have d:decide ((q:Int)<32)=true:=decide_eq_true (by omega);refine⟨(q:Int)+1+k,?_,by omega,by omega⟩;simp only[d,cT]
 grind[a0G]
 grind
theorem b8H{k:Nat}(p:k≤25)(q:l.all a0A=true)(t:l.length<10000):∃c,a3u ((k:Int),l)=some c∧0≤c∧c≤65*l.length:=by
 have g:∀(j i:Nat)(c:Int),i+j=l.length→0≤c→c≤65*i→∃c',y0s a3R ((k:Int),c,l,(l.length:Int),(i:Int),())=some (c',())∧0≤c'∧c'≤65*l.length:=by
  intro j
  induction j with
  |zero=>
   intro i c o a f;obtain rfl:i=l.length:=by omega
   simp_all[a0D,a3R]
  |succ j ih=>
   intro i c o a f;have h:i<l.length:=by omega
   obtain⟨d,b,m,n⟩:=b7w p (lA.1 q _ (a04 h));have e:wrap .i64 (c+d)=c+d:=a0G (by omega);rw[a0E (s':=((k:Int),c+d,l,(l.length:Int),((i+1:Nat):Int),())) (by simp only[a3R,dlt h,cT,a0C h,oB,b,e,a0B (show i<1000000 by omega)])];exact ih (i+1) _ (by omega) (by omega) (by omega)
 obtain⟨c,f,r,s⟩:=g l.length 0 0 (by omega) (by omega) (by omega);simp_all[a3u]
theorem b5v{k:Nat}(p:k≤25)(q:l.all a0A=true)(t:l.length<10000):∃c,a2Y ((k:Int),l)=some c∧0≤c∧c≤65*l.length:=by
 have g:∀(j i:Nat)(c:Int),i+j=l.length→0≤c→c≤65*i→∃c',y0s a2X ((k:Int),l,c,(i:Int),())=some (c',())∧0≤c'∧c'≤65*l.length:=by
  intro j
  induction j with
  |zero=>
   intro i c o a f;obtain rfl:i=l.length:=by omega
   simp_all[a0D,a2X]
  |succ j ih=>
   intro i c o a f;have h:i<l.length:=by omega
   obtain⟨d,b,m,n⟩:=b4J p (lA.1 q _ (a04 h));have e:wrap .i64 (c+d)=c+d:=a0G (by omega);rw[a0E (s':=((k:Int),l,c+d,((i+1:Nat):Int),())) (by simp only[a2X,dlt h,cT,a0C h,oB,b,e,a0B (show i<1000000 by omega)])];exact ih (i+1) _ (by omega) (by omega) (by omega)
 obtain⟨c,f,r,s⟩:=g l.length 0 0 (by omega) (by omega) (by omega);simp_all[a2Y]
theorem b4c{n:Nat}(g:w≤32)(f:n<10000):0≤(w:Int)*(n:Int)∧(w:Int)*(n:Int)≤32*n:=by
 have h:w*n≤32*n:=a35 _ g;omega
theorem b7x(h:l.length<10000):∃c,a5D l=some c∧0≤c∧c≤5+32*l.length:=by
 have g:=b4c (a2H l) h;refine⟨5+((a0J l:Nat):Int)*((l.length:Nat):Int),?_,by omega,by omega⟩;unfold a5D;simp only[a5A (show short l by unfold short;omega),oB]
 grind[a0G]
theorem b1W{zn:List Nat}{p:Prt}(H:p.2.1.length=zn.length)(g:p.2.1.all kB=true)(I:zn.length≤256):∀(j i:Nat)(l:List Int)(c:Int),i+j=zn.length→(zn.drop i).sum=l.length→l.all a0A=true→l.length≤5000→4≤c→c+10*j+65*l.length<1000000→
  ∃c',y0s a1z (l,c,(zn.length:Int),(i:Int),a1i zn,p,())=some (c',())∧4≤c'
 |0,i,l,c,hi,_,_,_,hc,_=>by
  obtain rfl:i=zn.length:=by omega
  simp_all[a0D,a1z]
 |j+1,i,l,c,hi,hsum,hw,hl5,hc,hb=>by
  have h:i<zn.length:=by omega
  have f:i<p.2.1.length:=by omega
  have q:=lA.1 g _ (a04 f);rw[a7u h]at hsum;have z:decide ((0:Int)≤(i:Int))=true:=by simp
  have A:decide ((i:Int)<(((a1i zn).length:Nat):Int))=true:=by simp_all[a0X]
  have B:decide ((0:Int)≤((zn[i]:Nat):Int))=true:=by simp
  have C:decide (((zn[i]:Nat):Int)≤((l.length:Nat):Int))=true:=by grind
  have s:(l.take zn[i]).length=zn[i]:=by simp_all
  have b:(l.drop zn[i]).length=(zn.drop (i+1)).sum:=by grind
  have v:(l.take zn[i]).all a0A=true:=lA.2 fun x y=>lA.1 hw x (a22 y);have w:(l.drop zn[i]).all a0A=true:=lA.2 fun x y=>lA.1 hw x (a23 y);have e:∃d,a1z (l,c,(zn.length:Int),(i:Int),a1i zn,p,())=some (.inl (l.drop zn[i],c+d,(zn.length:Int),((i+1:Nat):Int),a1i zn,p,()))∧0≤d∧d≤10+65*zn[i]:=by
   by_cases h31:p.2.1[i]=31
   have a:(p.2.1[i]==31)=true:=by simp_all
   obtain⟨r,m,t,u⟩:=b7x (l:=l.take zn[i]) (by omega);have n:wrap .i64 (5+r)=5+r:=a0G (by omega);have o:wrap .i64 (c+(5+r))=c+(5+r):=a0G (by omega);refine⟨5+r,?_,by omega,by omega⟩;simp only[a1z,dlt h,z,A,a3f h,B,C,cT,a02,tN,a0C f,oB,a,m,n,o,a18,a0B (show i<1000000 by omega)];have a:(p.2.1[i]==31)=false:=by simp_all
   simp[kB]at q;obtain⟨K,D⟩:=a03 (show 0≤p.2.1[i]by omega);obtain⟨r,m,t,u⟩:=b8H (k:=K) (by omega) v (by omega);rw[←D]at m;have n:wrap .i64 (5+r)=5+r:=a0G (by omega);have o:wrap .i64 (c+(5+r))=c+(5+r):=a0G (by omega);refine⟨5+r,?_,by omega,by omega⟩;simp only[a1z,dlt h,z,A,a3f h,B,C,cT,cF,a02,tN,a0C f,oB,a,m,n,o,a18,a0B (show i<1000000 by omega)]
  obtain⟨d,E,F,G⟩:=e;rw[a0E E];exact b1W H g I j (i+1) (l.drop zn[i]) _ (by omega) b.symm w (by omega) (by omega) (by omega)
theorem a9w{zn:List Nat}{p:Prt}{l:List Int}(H:p.2.1.length=zn.length)(h:p.2.1.all kB=true)(N:zn.length≤256)(t:l.all a0A=true)(o:l.length≤5000):∀(j i off:Nat)(c:Int),i+j=zn.length→off+(zn.drop i).sum=l.length→4≤c→c+10*j+65*(l.length-off:Nat)<1000000→
  ∃c',y0s a2g (l,c,(off:Int),(i:Int),a1i zn,p,())=some (c',())∧4≤c'
 |0,i,off,c,hi,_,hc,_=>by
  obtain rfl:i=zn.length:=by omega
  simp_all[a0D,a2g,a0X]
 |j+1,i,off,c,hi,hsum,hc,hb=>by
  have b:i<zn.length:=by omega
  have a:i<p.2.1.length:=by omega
  have m:=lA.1 h _ (a04 a);rw[a7u b]at hsum;have y:decide ((0:Int)≤(i:Int))=true:=by simp
  have z:decide ((i:Int)<(((a1i zn).length:Nat):Int))=true:=by simp_all[a0X]
  have w:wrap .i64 ((off:Int)+((zn[i]:Nat):Int))=((off+zn[i]:Nat):Int):=by grind[a0G]
  have A:decide ((0:Int)≤((off+zn[i]:Nat):Int))=true:=by rfl
  have B:decide (((off+zn[i]:Nat):Int)≤((l.length:Nat):Int))=true:=by grind
  have C:decide ((0:Int)≤(off:Int))=true:=by simp
  have D:decide ((off:Int)≤((off+zn[i]:Nat):Int))=true:=by grind
  have g:a69 off (a48 (off+zn[i]) l)=(l.drop off).take zn[i]:=by grind
  have q:((l.drop off).take zn[i]).length=zn[i]:=by rw[a32,a37];omega
  have s:((l.drop off).take zn[i]).all a0A=true:=lA.2 fun x M=>lA.1 t x (a23 (a22 M));have f:∃d,a2r (p.2.1[i],(l.drop off).take zn[i])=some d∧0≤d∧d≤5+65*zn[i]:=by
   unfold a2r
   by_cases h31:p.2.1[i]=31
   have e:(p.2.1[i]==31)=true:=by simp_all
   have P:=b4c (a2H ((l.drop off).take zn[i])) (show((l.drop off).take zn[i]).length<10000 by omega);refine⟨5+((a0J ((l.drop off).take zn[i]):Nat):Int)*((((l.drop off).take zn[i]).length:Nat):Int),?_,by omega,by omega⟩;simp only[e,cT,a7t (show short ((l.drop off).take zn[i])by unfold short;omega),oB];rw[Int.mul_comm (((((l.drop off).take zn[i]).length:Nat):Int)),a0G (n:=((a0J ((l.drop off).take zn[i]):Nat):Int)*((((l.drop off).take zn[i]).length:Nat):Int)) (by omega),a0G (by omega)];have e:(p.2.1[i]==31)=false:=by simp_all
   simp[kB]at m;obtain⟨K,O⟩:=a03 (show 0≤p.2.1[i]by omega);obtain⟨r,Q,I,L⟩:=b5v (k:=K) (by omega) s (by omega)
   grind
  obtain⟨d,E,F,G⟩:=f;have u:wrap .i64 (c+5)=c+5:=a0G (by omega);have v:wrap .i64 (c+5+d)=c+5+d:=a0G (by omega);rw[a0E (s':=(l,c+5+d,((off+zn[i]:Nat):Int),((i+1:Nat):Int),a1i zn,p,())) (by
   simp only[a2g,y,z,a3f b,w,A,B,C,D,cT,a02,tN,a0C a,oB,g,E,u,v,a0B (show i<1000000 by omega)])]
  exact a9w H h N t o j (i+1) (off+zn[i]) _ (by omega) (by omega) (by omega) (by omega)
structure PartsOk (p:Prt) (n warm:Int) (l:List Int) (zn:List Nat):Prop where
 may:a2G p n warm=true
 sizes:a1l p.1 n warm=a1i zn
 sum:zn.sum=l.length
 len:zn.length≤256
 ks:p.2.1.length=zn.length
 all:p.2.1.all kB=true
 wide:l.all a0A=true
 short:l.length≤5000
 row:a2L n warm=true
 rest:(l.length:Int)=n-warm
 order:0≤p.1∧p.1≤8
theorem PartsOk.of{p:Prt}{n warm:Int}{l:List Int}(h:a2G p n warm=true)(i:(l.length:Int)=n-warm)(j:l.all a0A=true)(e:l.length≤5000):∃g,PartsOk p n warm l g:=by
 have f:=h;simp only[a2G,bA,a41,beq_eq_false_iff_ne,ne_eq,beq_iff_eq]at f;obtain⟨c,o,d⟩:=f;obtain⟨g,a,m,b⟩:=b2v c;have k:a2L n warm=true∧0≤p.1∧p.1≤8:=by
  grind[a1l]
 exact⟨g,h,a,by omega,b,by simp_all[a0X],d,j,e,k.1,i,k.2⟩
theorem a9F{n warm:Int}{l:List Int}(h:a2L n warm=true)(c:(l.length:Int)=n-warm)(d:l.all a0A=true)(a:l.length≤5000):a6F (n,warm,l)=some true:=by
 have e:wrap .i64 (n-warm)=n-warm:=by
  simp[a2L]at h;exact a0G (by omega)
 have k:(((l.length:Nat):Int) != n-warm)=false:=by simp_all
 have f:b1m=a2w:=rfl;have g:short l:=by unfold short;omega
 have b:=a4w g;simp_all[a2o,a6F,b3V]
theorem b6t(h:PartsOk p n warm l zn):∃c,a4B (p,n,warm,l)=some c∧4≤c:=by
 have k:Go.Ab.short p.2.1:=by have:=h.ks;have:=h.len;unfold Go.Ab.short;omega
 have a:=h.short;have b:=h.len;obtain⟨c,g,f⟩:=b1W h.ks h.all h.len zn.length 0 l 4 (by omega) (by rw[a08];exact h.sum) h.wide h.short (by omega) (by omega);simp at g;refine⟨c,?_,f⟩;unfold a4B;simp only[a9l k,h.may,a9F h.row h.rest h.wide h.short,oB,bT,cF,a2F,h.sizes,a0X,g]
theorem b4d(h:PartsOk p n warm l zn):∃c,a2c (p,n,warm,l)=some c∧4≤c:=by
 have a:Go.Ab.short p.2.1:=by have:=h.ks;have:=h.len;unfold Go.Ab.short;omega
 have d:Go.Ab.short l:=by have:=h.short;unfold Go.Ab.short;omega
 have i:=h.short;have j:=h.len;have b:=h.row;simp[a2L]at b;have e:wrap .i64 (n-warm)=n-warm:=a0G (by omega);have k:(((l.length:Nat):Int) != n-warm)=false:=by rw[h.rest];simp
 obtain⟨c,g,f⟩:=a9w h.ks h.all h.len h.wide h.short zn.length 0 0 4 (by omega) (by rw[a08,h.sum];omega) (by omega) (by omega);simp at g;refine⟨c,?_,f⟩;unfold a2c;simp only[a5y a,h.may,oB,bT,cF,e,k,a0N d,h.wide,a1T,h.sizes,g]
def a2I(p:Prt)(zn:List Nat)(l L:List Int):List Int:=a5B zn p.2.1 l (a0H (wrap .u64 p.1) 4 L)
theorem b9T(h:PartsOk p n warm l zn)(i:L.length<700000000):a9S (wL L,p,n,warm,l)=some (0,wL (a2I p zn l L)):=by
 have e:=h.short;have j:=h.len;obtain⟨c,a,b⟩:=b6t h;have k:(c==0)=false:=by grind
 have d:=a0L (wrap .u64 p.1) 4 L;have f:a0F (wL L,wrap .u64 p.1,(4:Int))=some (a2d (wrap .u64 p.1) 4,wL (a0H (wrap .u64 p.1) 4 L)):=a3n (n:=4) (by omega) (by omega);have g:=b2H h.ks h.all h.len zn.length 0 l (a0H (wrap .u64 p.1) 4 L) (by omega) (by rw[a08];exact h.sum) h.wide h.short (by omega);simp at g;unfold a9S;simp only[a,oB,k,cF,f,a2F,h.sizes,a0X,g,a2I]
theorem b6u(h:PartsOk p n warm l zn)(i:L.length<700000000):a8o ((L,()),p,n,warm,l)=some (0,a2I p zn l L,()):=by
 have e:=h.short;have j:=h.len;obtain⟨c,a,b⟩:=b4d h;have k:(c==0)=false:=by grind
 have d:=a0L (wrap .u64 p.1) 4 L;have f:a0K ((L,()),wrap .u64 p.1,(4:Int))=some (a2d (wrap .u64 p.1) 4,a0H (wrap .u64 p.1) 4 L,()):=a1B (n:=4) (by omega) (by omega);have g:=b0J h.ks h.all h.len h.wide h.short zn.length 0 0 (a0H (wrap .u64 p.1) 4 L) (by omega) (by rw[a08,h.sum];omega) (by omega);simp at g;unfold a8o;simp only[a,oB,k,cF,f,a1T,h.sizes,g,a2I]
theorem b6v{c:List Int}{wd:Nat}(k:wd≤32)(g:c.length<10000):∀(j i:Nat)(L:List Int),i+j=c.length→L.length+64*j<999990000→
  y0s a5J ((wd:Int),c,(c.length:Int),(i:Int),wL L,())=some (wL (a1C wd (c.drop i) L),())
 |0,i,L,hi,_=>by
  obtain rfl:i=c.length:=by omega
  simp_all[a0D,a5J,a1C]
 |j+1,i,L,hi,hb=>by
  have h:i<c.length:=by omega
  have f:=a0L (a2t c[i] wd) wd L;rw[a00 h,a0E (s':=((wd:Int),c,(c.length:Int),((i+1:Nat):Int),wL (a0H (a2t c[i] wd) wd L),())) (by
   simp only[a5J,dlt h,cT,a0C h,oB,b1x (show wd≤63 by omega) (show L.length<999999000 by omega),a0B (show i<1000000 by omega)])]
  exact b6v k g j (i+1) _ (by omega) (by omega)
theorem b7L{t:List Int}{n wd:Int}{s:Sub}(a:t.length=3):∀(j i:Nat)(L:List Int),i+j=3→L.length+64*j<999990000→
  y0s a8Q (n,wd,t,(i:Int),wL L,s,())=some (n,wd,wL (a1C 8 (t.drop i) L),s,())
 |0,i,L,hi,_=>by
  obtain rfl:i=t.length:=by omega
  grind[a0D,a8Q,a1C]
 |j+1,i,L,hi,hb=>by
  have h:i<t.length:=by omega
  have f:decide ((i:Int)<3)=true:=by grind
  have k:=a0L (a2t t[i] 8) 8 L;have g:a2P (wL L,t[i],(8:Int))=some (wL (a0H (a2t t[i] 8) 8 L)):=b1x (n:=8) (by omega) (by omega);rw[a00 h,a0E (s':=(n,wd,t,((i+1:Nat):Int),wL (a0H (a2t t[i] 8) 8 L),s,())) (by
   simp only[a8Q,f,cT,a0C h,oB,g,a0B (show i<1000000 by omega)])]
  exact b7L a j (i+1) _ (by omega) (by omega)
theorem b7M{l:List Int}{n:Int}{wd:Nat}{s:Sub}(k:wd≤32)(g:l.length<10000):∀(j i:Nat)(L:List Int),i+j=l.length→L.length+64*j<999990000→
  y0s a8S (n,(wd:Int),l,(l.length:Int),(i:Int),wL L,s,())=some (n,wL (a1C wd (l.drop i) L),s,())
 |0,i,L,hi,_=>by
  obtain rfl:i=l.length:=by omega
  simp_all[a0D,a8S,a1C]
 |j+1,i,L,hi,hb=>by
  have h:i<l.length:=by omega
  have f:=a0L (a2t l[i] wd) wd L;rw[a00 h,a0E (s':=(n,(wd:Int),l,(l.length:Int),((i+1:Nat):Int),wL (a0H (a2t l[i] wd) wd L),s,())) (by
   simp only[a8S,dlt h,cT,a0C h,oB,b1x (show wd≤63 by omega) (show L.length<999999000 by omega),a0B (show i<1000000 by omega)])]
  exact b7M k g j (i+1) _ (by omega) (by omega)
def a6h(s:Stg)(L:List Int):List Int:=a0H (wrap .u64 s.2.1) 4 (a0H (wrap .u64 (wrap .i64 (s.1-1))) 5 L)
def a3s(st:List Stg)(L:List Int):List Int:=st.foldl (fun L s=>a6h s L) L
theorem b0P(s:Stg)(L:List Int):(a6h s L).length≤L.length+9:=by
 grind[a0L,a6h]
theorem b2I:∀(st:List Stg)(L:List Int),(a3s st L).length≤L.length+9*st.length
 | [],L=>by simp[a3s]
 |s::st,L=>by
  have h:=b0P s L;have g:=b2I st (a6h s L);have e:a3s (s::st) L=a3s st (a6h s L):=rfl
  grind
theorem b4S{st:List Stg}{n wd:Int}{s:Sub}(a:st.length<10000):∀(j i:Nat)(L:List Int),i+j=st.length→L.length+64*j<999990000→
  y0s a8R (n,wd,st,(st.length:Int),(i:Int),wL L,s,())=some (n,wd,wL (a3s (st.drop i) L),s,())
 |0,i,L,hi,_=>by
  obtain rfl:i=st.length:=by omega
  simp_all[a0D,a8R,a3s]
 |j+1,i,L,hi,hb=>by
  have h:i<st.length:=by omega
  have k:=a0L (wrap .u64 (wrap .i64 (st[i].1-1))) 5 L;have b:=b0P st[i] L;have g:a0F (wL L,wrap .u64 (wrap .i64 (st[i].1-1)),(5:Int))=some (a2d (wrap .u64 (wrap .i64 (st[i].1-1))) 5,wL (a0H (wrap .u64 (wrap .i64 (st[i].1-1))) 5 L)):=a3n (n:=5) (by omega) (by omega);have f:a0F (wL (a0H (wrap .u64 (wrap .i64 (st[i].1-1))) 5 L),wrap .u64 st[i].2.1,(4:Int))=some (a2d (wrap .u64 st[i].2.1) 4,wL (a6h st[i] L)):=a3n (n:=4) (by omega) (by omega);rw[a00 h,a0E (s':=(n,wd,st,(st.length:Int),((i+1:Nat):Int),wL (a6h st[i] L),s,())) (by
   simp only[a8R,dlt h,cT,a0C h,oB,g,f,a0B (show i<1000000 by omega)])]
  exact b4S a j (i+1) _ (by omega) (by omega)
theorem b1X{n wd:Int}{s:Sub}(a:s.2.2.2.2.2.2.2.1.length<10000):∀(j i:Nat)(L:List Int),i+j=s.2.2.2.2.2.2.2.1.length→L.length+64*j<999990000→
  y0s a7g (n,wd,(i:Int),(L,()),s,())=some (n,wd,(a3s (s.2.2.2.2.2.2.2.1.drop i) L,()),s,())
 |0,i,L,hi,_=>by
  obtain rfl:i=s.2.2.2.2.2.2.2.1.length:=by omega
  simp_all[a0D,a7g,a3s]
 |j+1,i,L,hi,hb=>by
  have h:i<s.2.2.2.2.2.2.2.1.length:=by omega
  have k:=a0L (wrap .u64 (wrap .i64 (s.2.2.2.2.2.2.2.1[i].1-1))) 5 L;have b:=b0P s.2.2.2.2.2.2.2.1[i] L;have g:a0K ((L,()),wrap .u64 (wrap .i64 (s.2.2.2.2.2.2.2.1[i].1-1)),(5:Int))=some (a2d (wrap .u64 (wrap .i64 (s.2.2.2.2.2.2.2.1[i].1-1))) 5,a0H (wrap .u64 (wrap .i64 (s.2.2.2.2.2.2.2.1[i].1-1))) 5 L,()):=a1B (n:=5) (by omega) (by omega);have f:a0K ((a0H (wrap .u64 (wrap .i64 (s.2.2.2.2.2.2.2.1[i].1-1))) 5 L,()),wrap .u64 s.2.2.2.2.2.2.2.1[i].2.1,(4:Int))=some (a2d (wrap .u64 s.2.2.2.2.2.2.2.1[i].2.1) 4,a6h s.2.2.2.2.2.2.2.1[i] L,()):=a1B (n:=4) (by omega) (by omega);rw[a00 h,a0E (s':=(n,wd,((i+1:Nat):Int),(a6h s.2.2.2.2.2.2.2.1[i] L,()),s,())) (by
   simp only[a7g,dlt h,cT,a0C h,oB,g,f,a0B (show i<1000000 by omega)])]
  exact b1X a j (i+1) _ (by omega) (by omega)
def a4K(s:Sub)(L:List Int):List Int:=
 a1C (a0J s.2.2.2.2.2.1) s.2.2.2.2.2.1 (a0H ((a0J s.2.2.2.2.2.1:Nat):Int) 5 (a0H (wrap .u64 s.2.2.2.1) 4 (a0H (wrap .u64 (wrap .i64 (((s.2.2.2.2.2.1.length:Nat):Int)-1))) 5 L)))
theorem b8I{s:Sub}(h:s.2.2.2.2.2.1.length≤40)(L:List Int):(a4K s L).length≤L.length+2000:=by
 unfold a4K;have f:=a0L (wrap .u64 (wrap .i64 (((s.2.2.2.2.2.1.length:Nat):Int)-1))) 5 L;have k:=a0L (wrap .u64 s.2.2.2.1) 4 (a0H (wrap .u64 (wrap .i64 (((s.2.2.2.2.2.1.length:Nat):Int)-1))) 5 L);have a:=a0L ((a0J s.2.2.2.2.2.1:Nat):Int) 5 (a0H (wrap .u64 s.2.2.2.1) 4 (a0H (wrap .u64 (wrap .i64 (((s.2.2.2.2.2.1.length:Nat):Int)-1))) 5 L));have b:=a3G (a0J s.2.2.2.2.2.1) s.2.2.2.2.2.1 (a0H ((a0J s.2.2.2.2.2.1:Nat):Int) 5 (a0H (wrap .u64 s.2.2.2.1) 4 (a0H (wrap .u64 (wrap .i64 (((s.2.2.2.2.2.1.length:Nat):Int)-1))) 5 L)));have g:=a2H s.2.2.2.2.2.1
 have:a0J s.2.2.2.2.2.1*s.2.2.2.2.2.1.length≤32*40:=a59 g h
 omega
theorem b4T(h:s.2.2.2.2.2.1.length≤40)(l:L.length<900000000):a7D (wL L,s)=some (wL (a4K s L)):=by
 have e:=a0L (wrap .u64 (wrap .i64 (((s.2.2.2.2.2.1.length:Nat):Int)-1))) 5 L;have i:=a0L (wrap .u64 s.2.2.2.1) 4 (a0H (wrap .u64 (wrap .i64 (((s.2.2.2.2.2.1.length:Nat):Int)-1))) 5 L);have j:=a0L ((a0J s.2.2.2.2.2.1:Nat):Int) 5 (a0H (wrap .u64 s.2.2.2.1) 4 (a0H (wrap .u64 (wrap .i64 (((s.2.2.2.2.2.1.length:Nat):Int)-1))) 5 L));have k:=a2H s.2.2.2.2.2.1;have f:wrap .u64 ((a0J s.2.2.2.2.2.1:Nat):Int)=((a0J s.2.2.2.2.2.1:Nat):Int):=a1c (by omega);have a:a0F (wL L,wrap .u64 (wrap .i64 (((s.2.2.2.2.2.1.length:Nat):Int)-1)),(5:Int))=some (a2d (wrap .u64 (wrap .i64 (((s.2.2.2.2.2.1.length:Nat):Int)-1))) 5,wL (a0H (wrap .u64 (wrap .i64 (((s.2.2.2.2.2.1.length:Nat):Int)-1))) 5 L)):=a3n (n:=5) (by omega) (by omega);have b:a0F (wL (a0H (wrap .u64 (wrap .i64 (((s.2.2.2.2.2.1.length:Nat):Int)-1))) 5 L),wrap .u64 s.2.2.2.1,(4:Int))=some (a2d (wrap .u64 s.2.2.2.1) 4,wL (a0H (wrap .u64 s.2.2.2.1) 4 (a0H (wrap .u64 (wrap .i64 (((s.2.2.2.2.2.1.length:Nat):Int)-1))) 5 L))):=a3n (n:=4) (by omega) (by omega);have d:a0F (wL (a0H (wrap .u64 s.2.2.2.1) 4 (a0H (wrap .u64 (wrap .i64 (((s.2.2.2.2.2.1.length:Nat):Int)-1))) 5 L)),((a0J s.2.2.2.2.2.1:Nat):Int),(5:Int))=some (a2d ((a0J s.2.2.2.2.2.1:Nat):Int) 5,wL (a0H ((a0J s.2.2.2.2.2.1:Nat):Int) 5 (a0H (wrap .u64 s.2.2.2.1) 4 (a0H (wrap .u64 (wrap .i64 (((s.2.2.2.2.2.1.length:Nat):Int)-1))) 5 L)))):=a3n (n:=5) (by omega) (by omega);have g:=b6v (c:=s.2.2.2.2.2.1) k (by omega) s.2.2.2.2.2.1.length 0 (a0H ((a0J s.2.2.2.2.2.1:Nat):Int) 5 (a0H (wrap .u64 s.2.2.2.1) 4 (a0H (wrap .u64 (wrap .i64 (((s.2.2.2.2.2.1.length:Nat):Int)-1))) 5 L))) (by omega) (by omega);simp at g;unfold a7D;simp only[a,b,a5A (show short s.2.2.2.2.2.1 by unfold short;omega),f,d,g,oB,a4K]
theorem b1A(h:s.2.2.2.2.2.1.length≤40)(i:L.length<800000000):a5w ((L,()),s)=some (a4K s L,()):=by
 have c:=a0L (wrap .u64 (wrap .i64 (((s.2.2.2.2.2.1.length:Nat):Int)-1))) 5 L;have d:=a0L (wrap .u64 s.2.2.2.1) 4 (a0H (wrap .u64 (wrap .i64 (((s.2.2.2.2.2.1.length:Nat):Int)-1))) 5 L);have e:=a0L ((a0J s.2.2.2.2.2.1:Nat):Int) 5 (a0H (wrap .u64 s.2.2.2.1) 4 (a0H (wrap .u64 (wrap .i64 (((s.2.2.2.2.2.1.length:Nat):Int)-1))) 5 L));have j:=a2H s.2.2.2.2.2.1;have f:wrap .u64 ((a0J s.2.2.2.2.2.1:Nat):Int)=((a0J s.2.2.2.2.2.1:Nat):Int):=a1c (by omega);have k:a0K ((L,()),wrap .u64 (wrap .i64 (((s.2.2.2.2.2.1.length:Nat):Int)-1)),(5:Int))=some (a2d (wrap .u64 (wrap .i64 (((s.2.2.2.2.2.1.length:Nat):Int)-1))) 5,a0H (wrap .u64 (wrap .i64 (((s.2.2.2.2.2.1.length:Nat):Int)-1))) 5 L,()):=a1B (n:=5) (by omega) (by omega);have a:a0K ((a0H (wrap .u64 (wrap .i64 (((s.2.2.2.2.2.1.length:Nat):Int)-1))) 5 L,()),wrap .u64 s.2.2.2.1,(4:Int))=some (a2d (wrap .u64 s.2.2.2.1) 4,a0H (wrap .u64 s.2.2.2.1) 4 (a0H (wrap .u64 (wrap .i64 (((s.2.2.2.2.2.1.length:Nat):Int)-1))) 5 L),()):=a1B (n:=4) (by omega) (by omega);have b:a0K ((a0H (wrap .u64 s.2.2.2.1) 4 (a0H (wrap .u64 (wrap .i64 (((s.2.2.2.2.2.1.length:Nat):Int)-1))) 5 L),()),((a0J s.2.2.2.2.2.1:Nat):Int),(5:Int))=some (a2d ((a0J s.2.2.2.2.2.1:Nat):Int) 5,a0H ((a0J s.2.2.2.2.2.1:Nat):Int) 5 (a0H (wrap .u64 s.2.2.2.1) 4 (a0H (wrap .u64 (wrap .i64 (((s.2.2.2.2.2.1.length:Nat):Int)-1))) 5 L)),()):=a1B (n:=5) (by omega) (by omega);have g:=a6x (l:=s.2.2.2.2.2.1) (n:=a0J s.2.2.2.2.2.1) (L:=a0H ((a0J s.2.2.2.2.2.1:Nat):Int) 5 (a0H (wrap .u64 s.2.2.2.1) 4 (a0H (wrap .u64 (wrap .i64 (((s.2.2.2.2.2.1.length:Nat):Int)-1))) 5 L))) (by omega) (by omega) (by omega);unfold a5w;simp only[k,a,a7t (show short s.2.2.2.2.2.1 by unfold short;omega),f,b,g,oB,a4K]
def a8s(s:Sub)(L:List Int):List Int:=
 a0H ((a0J s.2.2.2.2.2.2.2.2.1:Nat):Int) 5 (a0H (wrap .u64 s.2.1) 5 (a0H (wrap .u64 s.1) 3 L))
def a1p(s:Sub)(L:List Int):List Int:=
 if s.1=2 then a0H (wrap .u64 s.2.2.1) 3 L
 else if s.1=3 then a4K s L
 else if s.1=4 then a4K s (a1C 8 s.2.2.2.2.2.2.1 (a0H (wrap .u64 (wrap .i64 (s.2.2.2.2.1-1))) 10 L))
 else if s.1=5 then a3s s.2.2.2.2.2.2.2.1 (a0H (wrap .u64 ((s.2.2.2.2.2.2.2.1.length:Nat):Int)) 2 L)
 else L
theorem b4e(h:SmallS s)(L:List Int):(a1p s L).length≤L.length+3000:=by
 have f:=h.coefs;have k:=h.taps;have g:=h.stages
 grind[a1p,a0L,b8I,a3G,b2I]
theorem b0Q:∀(zs:List Nat)(ks l L:List Int),ks.all kB=true→(a5B zs ks l L).length≤L.length+10*zs.length+100*l.length
 |z::zs,k::ks,l,L,h=>by
  simp only[a26,bA]at h;have g:=b1z h.1 (l.take z) L;have f:=b0Q zs ks (l.drop z) (a7N k (l.take z) L) h.2;rw[a32]at g;rw[a37]at f;simp only[a5B,lC];omega
 | [],_,_,_,_=>by simp_all[a5B]
 |_::_,[],_,_,_=>by grind[a5B]
def a3N(s:Sub)(zn:List Nat)(L:List Int):List Int:=
 if s.1=0∨s.1=1 then a1C (a0J s.2.2.2.2.2.2.2.2.1) s.2.2.2.2.2.2.2.2.1 (a1p s (a8s s L))
 else a2I s.2.2.2.2.2.2.2.2.2.1 zn s.2.2.2.2.2.2.2.2.2.2.1 (a1C (a0J s.2.2.2.2.2.2.2.2.1) s.2.2.2.2.2.2.2.2.1 (a1p s (a8s s L)))
theorem b6w(h:SmallS s)(S:L.length<100000000):
  ∃(e:Int)(L':List Int),b1Q (wL L,s,n)=some (e,wL L')∧(e=0∨L'=L)∧L'.length≤L.length+700000∧
   ((a2M s n).isSome=true→e=0∧∃a,L'=a3N s a L∧(s.1≠0∧s.1≠1→PartsOk s.2.2.2.2.2.2.2.2.2.1 n ((s.2.2.2.2.2.2.2.2.1.length:Nat):Int) s.2.2.2.2.2.2.2.2.2.2.1 a))∧((a2M s n).isSome=false→e=1∧L'=L):=by
 unfold b1Q;simp only[c3c h,oB];cases hs:(a2M s n).isSome with
 |false=>exact⟨1,L,rfl,.inr rfl,by omega,fun h=>(by grind),fun _=>⟨rfl,rfl⟩⟩
 |true=>
  have hp:a1o s n:=by
   grind[a2M]
  obtain⟨Q,R,A,-,-,-,-,v,E,B,-,p⟩:=hp;have b:=b1V A;have m:=a2H s.2.2.2.2.2.2.2.2.1;have u:short s.2.2.2.2.2.2.2.2.1:=by have:=h.warm;unfold short;omega
  have c:=h.warm;have r:=h.rest;have C:=h.stages;have D:=h.taps;have T:=a0L (wrap .u64 s.1) 3 L;have U:=a0L (wrap .u64 s.2.1) 5 (a0H (wrap .u64 s.1) 3 L);have V:=a0L ((a0J s.2.2.2.2.2.2.2.2.1:Nat):Int) 5 (a0H (wrap .u64 s.2.1) 5 (a0H (wrap .u64 s.1) 3 L));have z:wrap .u64 ((a0J s.2.2.2.2.2.2.2.2.1:Nat):Int)=((a0J s.2.2.2.2.2.2.2.2.1:Nat):Int):=a1c (by omega);have I:a0F (wL L,wrap .u64 s.1,(3:Int))=some (a2d (wrap .u64 s.1) 3,wL (a0H (wrap .u64 s.1) 3 L)):=a3n (n:=3) (by omega) (by omega);have K:a0F (wL (a0H (wrap .u64 s.1) 3 L),wrap .u64 s.2.1,(5:Int))=some (a2d (wrap .u64 s.2.1) 5,wL (a0H (wrap .u64 s.2.1) 5 (a0H (wrap .u64 s.1) 3 L))):=a3n (n:=5) (by omega) (by omega);have w:a0F (wL (a0H (wrap .u64 s.2.1) 5 (a0H (wrap .u64 s.1) 3 L)),((a0J s.2.2.2.2.2.2.2.2.1:Nat):Int),(5:Int))=some (a2d ((a0J s.2.2.2.2.2.2.2.2.1:Nat):Int) 5,wL (a8s s L)):=a3n (n:=5) (by omega) (by omega);have N:(a8s s L).length≤L.length+13:=by unfold a8s;omega
  generalize hM:a8s s L=M at w N;have X:=b4e h M;have O:=a3G (a0J s.2.2.2.2.2.2.2.2.1) s.2.2.2.2.2.2.2.2.1 (a1p s M);have Y:a0J s.2.2.2.2.2.2.2.2.1*s.2.2.2.2.2.2.2.2.1.length≤32*5000:=a59 m c;have g:=b7M (l:=s.2.2.2.2.2.2.2.2.1) (n:=n) (s:=s) m (by omega) s.2.2.2.2.2.2.2.2.1.length 0 (a1p s M) (by omega) (by omega);simp at g

  have i:=b4S (st:=s.2.2.2.2.2.2.2.1) (n:=n) (wd:=((a0J s.2.2.2.2.2.2.2.2.1:Nat):Int)) (s:=s) (by omega) s.2.2.2.2.2.2.2.1.length 0 (a0H (wrap .u64 ((s.2.2.2.2.2.2.2.1.length:Nat):Int)) 2 M) (by omega) (by grind[a0L]);have Z:=a0L (wrap .u64 (wrap .i64 (s.2.2.2.2.1-1))) 10 M;have q9:=a3G 8 s.2.2.2.2.2.2.1 (a0H (wrap .u64 (wrap .i64 (s.2.2.2.2.1-1))) 10 M);have j:=b7L (t:=s.2.2.2.2.2.2.1) (n:=n) (wd:=((a0J s.2.2.2.2.2.2.2.2.1:Nat):Int)) (s:=s) D 3 0 (a0H (wrap .u64 (wrap .i64 (s.2.2.2.2.1-1))) 10 M) (by rfl) (by omega);simp at i j;have F:a0F (wL M,wrap .u64 s.2.2.1,(3:Int))=some (a2d (wrap .u64 s.2.2.1) 3,wL (a0H (wrap .u64 s.2.2.1) 3 M)):=a3n (n:=3) (by omega) (by omega);have G:a0F (wL M,wrap .u64 (wrap .i64 (s.2.2.2.2.1-1)),(10:Int))=some (a2d (wrap .u64 (wrap .i64 (s.2.2.2.2.1-1))) 10,wL (a0H (wrap .u64 (wrap .i64 (s.2.2.2.2.1-1))) 10 M)):=a3n (n:=10) (by omega) (by omega);have H:a0F (wL M,wrap .u64 ((s.2.2.2.2.2.2.2.1.length:Nat):Int),(2:Int))=some (a2d (wrap .u64 ((s.2.2.2.2.2.2.2.1.length:Nat):Int)) 2,wL (a0H (wrap .u64 ((s.2.2.2.2.2.2.2.1.length:Nat):Int)) 2 M)):=a3n (n:=2) (by omega) (by omega);have x:=b4T (s:=s) h.coefs (L:=M) (by omega);have y:=b4T (s:=s) h.coefs (L:=a1C 8 s.2.2.2.2.2.2.1 (a0H (wrap .u64 (wrap .i64 (s.2.2.2.2.1-1))) 10 M)) (by omega);simp only[bT,cF,a5A u,oB,I,K,z,w];generalize hPM:a1C (a0J s.2.2.2.2.2.2.2.2.1) s.2.2.2.2.2.2.2.2.1 (a1p s M)=PM at g O

  have o:∀(d:s.1≠0∧s.1≠1),∃a,PartsOk s.2.2.2.2.2.2.2.2.2.1 n ((s.2.2.2.2.2.2.2.2.1.length:Nat):Int) s.2.2.2.2.2.2.2.2.2.2.1 a:=fun d=>by
   simp_all[PartsOk.of]
  rcases b with k|k|k|k|k|k;have f:a1p s M=M:=by unfold a1p;grind
  rw[f]at g;refine⟨0,PM,?_,.inl rfl,by omega,fun _=>⟨rfl,[],by simp_all[a3N],fun h=>absurd k (by omega)⟩,fun h=>by grind⟩;simp only[k,show((0:Int)==2)=false from rfl,show((0:Int)==4)=false from rfl,show((0:Int)==3)=false from rfl,show((0:Int)==5)=false from rfl,cF,oB,g,a7s]
  simp
  have f:a1p s M=M:=by unfold a1p;grind
  rw[f]at g;refine⟨0,PM,?_,.inl rfl,by omega,fun _=>⟨rfl,[],by simp_all[a3N],fun h=>absurd k (by omega)⟩,fun h=>by grind⟩;simp only[k,show((1:Int)==2)=false from rfl,show((1:Int)==4)=false from rfl,show((1:Int)==3)=false from rfl,show((1:Int)==5)=false from rfl,cF,oB,g,a7s]
  simp
  all_goals
   obtain⟨a,q⟩:=o (by omega);have t1:=b9T (L:=PM) q (by omega);have P:(a2I s.2.2.2.2.2.2.2.2.2.1 a s.2.2.2.2.2.2.2.2.2.2.1 PM).length≤L.length+700000:=by
    have z1:=a0L (wrap .u64 s.2.2.2.2.2.2.2.2.2.1.1) 4 PM;have z2:=b0Q a s.2.2.2.2.2.2.2.2.2.1.2.1 s.2.2.2.2.2.2.2.2.2.2.1 (a0H (wrap .u64 s.2.2.2.2.2.2.2.2.2.1.1) 4 PM) q.all;have z3:=q.len
    grind[a2I]
   refine⟨0,a2I s.2.2.2.2.2.2.2.2.2.1 a s.2.2.2.2.2.2.2.2.2.2.1 PM,?_,.inl rfl,P,fun _=>⟨rfl,a,by simp_all[a3N],fun _=>q⟩,fun h=>by grind⟩
  have f:a1p s M=a0H (wrap .u64 s.2.2.1) 3 M:=by unfold a1p;grind
  rw[f]at g;simp only[k,show((2:Int)==2)=true from rfl,cT,F,oB,g,a7s]
  grind
  have f:a1p s M=a4K s M:=by unfold a1p;grind
  rw[f]at g;simp only[k,show((3:Int)==2)=false from rfl,show((3:Int)==4)=false from rfl,show((3:Int)==3)=true from rfl,cT,cF,x,oB,g,a7s]
  grind
  have f:a1p s M=a4K s (a1C 8 s.2.2.2.2.2.2.1 (a0H (wrap .u64 (wrap .i64 (s.2.2.2.2.1-1))) 10 M)):=by unfold a1p;grind
  rw[f]at g;simp only[k,show((4:Int)==2)=false from rfl,show((4:Int)==4)=true from rfl,cT,cF,G,j,y,oB,g,a7s]
  grind
  have f:a1p s M=a3s s.2.2.2.2.2.2.2.1 (a0H (wrap .u64 ((s.2.2.2.2.2.2.2.1.length:Nat):Int)) 2 M):=by unfold a1p;grind
  rw[f]at g;simp only[k,show((5:Int)==2)=false from rfl,show((5:Int)==4)=false from rfl,show((5:Int)==3)=false from rfl,show((5:Int)==5)=true from rfl,cT,cF,H,i,oB,g,a7s]
  grind
theorem c3e(h:SmallS s)(Q:L.length<100000000):
  ∃(e:Int)(L':List Int),a9c ((L,()),s,n)=some (e,L',())∧(e=0∨L'=L)∧L'.length≤L.length+700000∧
   ((a2M s n).isSome=true→e=0∧∃a,L'=a3N s a L∧(s.1≠0∧s.1≠1→PartsOk s.2.2.2.2.2.2.2.2.2.1 n ((s.2.2.2.2.2.2.2.2.1.length:Nat):Int) s.2.2.2.2.2.2.2.2.2.2.1 a))∧((a2M s n).isSome=false→e=1∧L'=L):=by
 unfold a9c;simp only[b8F h,oB];cases hs:(a2M s n).isSome with
 |false=>grind
 |true=>
  have hp:a1o s n:=by
   grind[a2M]
  obtain⟨O,P,D,-,-,-,-,A,G,E,-,o⟩:=hp;have c:=b1V D;have w:=a2H s.2.2.2.2.2.2.2.2.1;have v:short s.2.2.2.2.2.2.2.2.1:=by have:=h.warm;unfold short;omega
  have d:=h.warm;have u:=h.rest;have F:=h.stages;have R:=h.taps;have S:=a0L (wrap .u64 s.1) 3 L;have T:=a0L (wrap .u64 s.2.1) 5 (a0H (wrap .u64 s.1) 3 L);have U:=a0L ((a0J s.2.2.2.2.2.2.2.2.1:Nat):Int) 5 (a0H (wrap .u64 s.2.1) 5 (a0H (wrap .u64 s.1) 3 L));have C:wrap .u64 ((a0J s.2.2.2.2.2.2.2.2.1:Nat):Int)=((a0J s.2.2.2.2.2.2.2.2.1:Nat):Int):=a1c (by omega);have K:a0K ((L,()),wrap .u64 s.1,(3:Int))=some (a2d (wrap .u64 s.1) 3,a0H (wrap .u64 s.1) 3 L,()):=a1B (n:=3) (by omega) (by omega);have r2:a0K ((a0H (wrap .u64 s.1) 3 L,()),wrap .u64 s.2.1,(5:Int))=some (a2d (wrap .u64 s.2.1) 5,a0H (wrap .u64 s.2.1) 5 (a0H (wrap .u64 s.1) 3 L),()):=a1B (n:=5) (by omega) (by omega);have B:a0K ((a0H (wrap .u64 s.2.1) 5 (a0H (wrap .u64 s.1) 3 L),()),((a0J s.2.2.2.2.2.2.2.2.1:Nat):Int),(5:Int))=some (a2d ((a0J s.2.2.2.2.2.2.2.2.1:Nat):Int) 5,a8s s L,()):=a1B (n:=5) (by omega) (by omega);have H:(a8s s L).length≤L.length+13:=by unfold a8s;omega
  generalize hM:a8s s L=M at B H;have V:=b4e h M;have I:=a3G (a0J s.2.2.2.2.2.2.2.2.1) s.2.2.2.2.2.2.2.2.1 (a1p s M);have X:a0J s.2.2.2.2.2.2.2.2.1*s.2.2.2.2.2.2.2.2.1.length≤32*5000:=a59 w d;have g:=a6x (l:=s.2.2.2.2.2.2.2.2.1) (n:=a0J s.2.2.2.2.2.2.2.2.1) (L:=a1p s M) (by omega) (by omega) (by omega)

  have b:=b1X (n:=n) (wd:=((a0J s.2.2.2.2.2.2.2.2.1:Nat):Int)) (s:=s) (by omega) s.2.2.2.2.2.2.2.1.length 0 (a0H (wrap .u64 ((s.2.2.2.2.2.2.2.1.length:Nat):Int)) 2 M) (by omega) (by grind[a0L]);have Y:=a0L (wrap .u64 (wrap .i64 (s.2.2.2.2.1-1))) 10 M;have Z:=a3G 8 s.2.2.2.2.2.2.1 (a0H (wrap .u64 (wrap .i64 (s.2.2.2.2.1-1))) 10 M);have j:a2E ((a0H (wrap .u64 (wrap .i64 (s.2.2.2.2.1-1))) 10 M,()),s.2.2.2.2.2.2.1,(8:Int))=some (a1C 8 s.2.2.2.2.2.2.1 (a0H (wrap .u64 (wrap .i64 (s.2.2.2.2.1-1))) 10 M),()):=a6x (n:=8) (by omega) (by omega) (by omega);have t:a48 3 s.2.2.2.2.2.2.1=s.2.2.2.2.2.2.1:=a09 (by omega);simp at b;have x:a0K ((M,()),wrap .u64 s.2.2.1,(3:Int))=some (a2d (wrap .u64 s.2.2.1) 3,a0H (wrap .u64 s.2.2.1) 3 M,()):=a1B (n:=3) (by omega) (by omega);have y:a0K ((M,()),wrap .u64 (wrap .i64 (s.2.2.2.2.1-1)),(10:Int))=some (a2d (wrap .u64 (wrap .i64 (s.2.2.2.2.1-1))) 10,a0H (wrap .u64 (wrap .i64 (s.2.2.2.2.1-1))) 10 M,()):=a1B (n:=10) (by omega) (by omega);have z:a0K ((M,()),wrap .u64 ((s.2.2.2.2.2.2.2.1.length:Nat):Int),(2:Int))=some (a2d (wrap .u64 ((s.2.2.2.2.2.2.2.1.length:Nat):Int)) 2,a0H (wrap .u64 ((s.2.2.2.2.2.2.2.1.length:Nat):Int)) 2 M,()):=a1B (n:=2) (by omega) (by omega);have q:=b1A (s:=s) h.coefs (L:=M) (by omega);have r:=b1A (s:=s) h.coefs (L:=a1C 8 s.2.2.2.2.2.2.1 (a0H (wrap .u64 (wrap .i64 (s.2.2.2.2.1-1))) 10 M)) (by omega);simp only[bT,cF,a7t v,oB,K,r2,C,B];generalize hPM:a1C (a0J s.2.2.2.2.2.2.2.2.1) s.2.2.2.2.2.2.2.2.1 (a1p s M)=PM at g I

  have m:∀(i:s.1≠0∧s.1≠1),∃a,PartsOk s.2.2.2.2.2.2.2.2.2.1 n ((s.2.2.2.2.2.2.2.2.1.length:Nat):Int) s.2.2.2.2.2.2.2.2.2.2.1 a:=fun i=>by
   simp_all[PartsOk.of]
  rcases c with k|k|k|k|k|k;have f:a1p s M=M:=by unfold a1p;grind
  rw[f]at g;refine⟨0,PM,?_,.inl rfl,by omega,fun _=>⟨rfl,[],by simp_all[a3N],fun h=>absurd k (by omega)⟩,fun h=>by grind⟩;simp only[k,show((0:Int)==2)=false from rfl,show((0:Int)==4)=false from rfl,show((0:Int)==3)=false from rfl,show((0:Int)==5)=false from rfl,cF,oB,g,a5z]
  simp
  have f:a1p s M=M:=by unfold a1p;grind
  rw[f]at g;refine⟨0,PM,?_,.inl rfl,by omega,fun _=>⟨rfl,[],by simp_all[a3N],fun h=>absurd k (by omega)⟩,fun h=>by grind⟩;simp only[k,show((1:Int)==2)=false from rfl,show((1:Int)==4)=false from rfl,show((1:Int)==3)=false from rfl,show((1:Int)==5)=false from rfl,cF,oB,g,a5z]
  simp
  all_goals
   obtain⟨a,p⟩:=m (by omega);have t2:=b6u (L:=PM) p (by omega);have N:(a2I s.2.2.2.2.2.2.2.2.2.1 a s.2.2.2.2.2.2.2.2.2.2.1 PM).length≤L.length+700000:=by
    have z1:=a0L (wrap .u64 s.2.2.2.2.2.2.2.2.2.1.1) 4 PM;have z2:=b0Q a s.2.2.2.2.2.2.2.2.2.1.2.1 s.2.2.2.2.2.2.2.2.2.2.1 (a0H (wrap .u64 s.2.2.2.2.2.2.2.2.2.1.1) 4 PM) p.all;have z3:=p.len
    grind[a2I]
   refine⟨0,a2I s.2.2.2.2.2.2.2.2.2.1 a s.2.2.2.2.2.2.2.2.2.2.1 PM,?_,.inl rfl,N,fun _=>⟨rfl,a,by simp_all[a3N],fun _=>p⟩,fun h=>by grind⟩
  have f:a1p s M=a0H (wrap .u64 s.2.2.1) 3 M:=by unfold a1p;grind
  rw[f]at g;simp only[k,show((2:Int)==2)=true from rfl,cT,x,oB,g,a5z]
  grind
  have f:a1p s M=a4K s M:=by unfold a1p;grind
  rw[f]at g;simp only[k,show((3:Int)==2)=false from rfl,show((3:Int)==3)=true from rfl,cT,cF,q,oB,g,a5z]
  grind
  have f:a1p s M=a4K s (a1C 8 s.2.2.2.2.2.2.1 (a0H (wrap .u64 (wrap .i64 (s.2.2.2.2.1-1))) 10 M)):=by unfold a1p;grind
  rw[f]at g;simp only[k,show((4:Int)==2)=false from rfl,show((4:Int)==3)=false from rfl,show((4:Int)==4)=true from rfl,cT,cF,y,t,j,r,oB,g,a5z]
  grind
  have f:a1p s M=a3s s.2.2.2.2.2.2.2.1 (a0H (wrap .u64 ((s.2.2.2.2.2.2.2.1.length:Nat):Int)) 2 M):=by unfold a1p;grind
  rw[f]at g;simp only[k,show((5:Int)==2)=false from rfl,show((5:Int)==4)=false from rfl,show((5:Int)==3)=false from rfl,show((5:Int)==5)=true from rfl,cT,cF,z,b,oB,g,a5z]
  grind
theorem b2w(h:List Nat):(a1i h).map a38=h:=by
 unfold a1i;rw[List.map_map]
 have:a38∘(fun(a:Nat)=>(a:Int))=id:=by rfl
 simp_all
set_option maxRecDepth 100000 in
theorem c3f:b2o ()=some true:=by kernel_rfl
def a3O(s:Sub)(n:Int):Int:=
 if(a2M s n).isSome=true then(((a3N s ((a1l s.2.2.2.2.2.2.2.2.2.1.1 n ((s.2.2.2.2.2.2.2.2.1.length:Nat):Int)).map a38) []).length:Nat):Int)else 0
theorem b7y(h:s.1≠0∧s.1≠1→PartsOk s.2.2.2.2.2.2.2.2.2.1 n ((s.2.2.2.2.2.2.2.2.1.length:Nat):Int) s.2.2.2.2.2.2.2.2.2.2.1 zn)(L:List Int):
  a3N s zn L=a3N s ((a1l s.2.2.2.2.2.2.2.2.2.1.1 n ((s.2.2.2.2.2.2.2.2.1.length:Nat):Int)).map a38) L:=by
 by_cases hk:s.1=0∨s.1=1
 simp_all[a3N];rw[(h (not_or.1 hk)).sizes,b2w]
theorem c6j(h:SmallS s)(n:Int):a8T (s,n)=some (a3O s n):=by
 obtain⟨e,f,g,-,-,k,c⟩:=b6w h (n:=n) (L:=[]) (by simp);have a:wL []=(([]:List Int),(0:Int),()):=rfl;rw[a]at g;obtain⟨d,-⟩:=b9N f;unfold a8T a3O;simp[g,a7U];cases hs:(a2M s n).isSome with
 |false=>
  simp_all
 |true=>
  obtain⟨rfl,i,rfl,b⟩:=k hs;rw[if_pos rfl,←b7y b];simp_all
theorem c1z(h:SmallS s)(n:Int):a8p (s,n)=some (a3O s n):=by
 obtain⟨e,a,g,-,-,f,b⟩:=c3e h (n:=n) (L:=[]) (by simp);unfold a8p a3O;simp only[g,oB,a9d];cases hs:(a2M s n).isSome with
 |false=>
  simp_all
 |true=>
  obtain⟨rfl,c,rfl,k⟩:=f hs;rw[if_pos rfl,←b7y k]
def dif:List Int→List Int
 |a::b::r=>W (b-a)::dif (b::r)
 |_=>[]
theorem a6z:∀l:List Int,(dif l).length=l.length-1
 | []=>rfl
 | [_]=>rfl
 |a::b::r=>by simp[dif,a6z (b::r)]
theorem b4u:∀(l:List Int)(i:Nat)(x y:Int),l[i]?=some x→l[i+1]?=some y→(dif l)[i]?=some (W (y-x))
 |a::b::r,0,x,y,h1,h2=>by simp at h1 h2;subst h1;subst h2;rfl
 |a::b::r,i+1,x,y,h1,h2=>by
  simp only[dif,List.getElem?_cons_succ]at h1 h2⊢;exact b4u (b::r) i x y h1 h2
 | [_],0,x,y,h1,h2=>by simp_all
 | [_],i+1,x,y,h1,h2=>by simp_all
 | [],i,x,y,h1,h2=>by simp_all
def a1D:Nat→List Int→List Int
 |0,l=>l
 |o+1,l=>dif (a1D o l)
theorem a4k(l:List Int):∀o,(a1D o l).length=l.length-o
 |0=>rfl
 |o+1=>by simp only[a1D,a6z,a4k l o];omega
theorem a9o{l:List Int}(h:short l)(o:Nat):short (a1D o l):=by
 have h:l.length<1000000:=h;show(a1D o l).length<1000000;rw[a4k];omega
def a9G(l:List Int)(i:Nat):List Int:=(dif l).take i++l.drop i
theorem b2x(h:i≤l.length-1):(a9G l i).length=l.length:=by
 grind[a9G,a6z]
theorem b7N(h:i≤l.length-1)(g:i≤j):(a9G l i).getD j 0=l.getD j 0:=by
 simp_all[a6z,a9G,List.getElem?_append_right]
theorem c4I(h:i<l.length-1):(a9G l i).set i (W (l.getD (i+1) 0-l.getD i 0))=a9G l (i+1):=by
 have e:((dif l).take i).length=i:=by grind[a6z]
 have f:l[i]?=some l[i]:=lG (by omega);have k:l[i+1]?=some l[i+1]:=lG (by omega);have a:=b4u l i _ _ f k;have g:i<(dif l).length:=by grind
 simp only[a9G];rw[List.set_append,if_neg (by omega),e,a51,a00 (show i<l.length by omega),a47,a42 g,aA]
 grind
theorem c3g{l:List Int}{o k:Int}(g:short l)(h:1≤l.length):y0s a5d ((0:Int),o,k,l,())=some (o,k,a9G l (l.length-1),()):=by
 have g:l.length<1000000:=g;have r:a9G l 0=l:=by rfl
 have:=a0Q (f:=a5d) (fun i:Nat=>((i:Int),o,k,a9G l i,())) (l.length-1) (b:=(o,k,a9G l (l.length-1),()))
  (fun i s=>by
   have d:wrap .i64 ((i:Int)+1)=((i+1:Nat):Int):=a0B (by omega);have c:=b2x (l:=l) (i:=i) (by omega);have a:decide (((i+1:Nat):Int)<((l.length:Nat):Int))=true:=by grind
   have e:decide ((0:Int)≤((i+1:Nat):Int))=true:=by rfl
   have m:decide ((0:Int)≤(i:Int))=true:=by simp
   have n:decide ((i:Int)<((l.length:Nat):Int))=true:=by grind
   have n1:a38 ((i+1:Nat):Int)=i+1:=by rfl
   have n2:a38 (i:Int)=i:=by rfl
   have st:=c4I (l:=l) (i:=i) (by omega);have p:=b7N (l:=l) (i:=i) (j:=i+1) (by omega) (by omega);have q:=b7N (l:=l) (i:=i) (j:=i) (by omega) (by omega);simp_all[a5d])
  (by
   have c:=b2x (l:=l) (i:=l.length-1) (by omega);have d:wrap .i64 (((l.length-1:Nat):Int)+1)=((l.length:Nat):Int):=by grind[a0G]
   have a:decide (((l.length:Nat):Int)<((l.length:Nat):Int))=false:=by simp
   simp_all[a5d])
 simp_all
theorem c4d{l:List Int}:(a9G l (l.length-1)).take (l.length-1)=dif l:=by
 simp_all[a09,a6z,a9G]
theorem b0R(y:o≤4)(x:o≤l.length)(g:short l)(r:l.all a0A=true):
  a2O (l,(o:Int))=some (bif (a1D o l).all a0A then(a1D o l,0)else([],6)):=by
 have q:l.length<1000000:=g;have h:=a0Q (f:=a6Z) (fun k:Nat=>((o:Int),(k:Int),a1D k l,())) o (b:=(a1D o l,()))
  (fun k v=>by
   have n:1≤(a1D k l).length:=by rw[a4k];omega
   have p:(a1D k l).length<1000000:=a9o g k;have j:decide ((k:Int)<(o:Int))=true:=by simp_all
   have w:=b2x (l:=a1D k l) (i:=(a1D k l).length-1) (by omega);have z:wrap .i64 ((((a1D k l).length:Nat):Int)-1)=(((a1D k l).length-1:Nat):Int):=by grind[a0G]
   have w2:wrap .i64 ((k:Int)+1)=((k+1:Nat):Int):=a0B (by omega);have s:decide ((0:Int)≤(((a1D k l).length-1:Nat):Int))=true:=by simp
   have t:decide ((((a1D k l).length-1:Nat):Int)≤(((a1D k l).length:Nat):Int))=true:=by simp
   have u:decide ((a1D k l).length-1≤(a1D k l).length)=true:=by simp
   simp_all[a1D,a6Z,c3g,a9o,c4d])
  (by
   have j:decide ((o:Int)<(o:Int))=false:=by simp
   simp_all[a6Z])
 have a:decide ((o:Int)<0)=false:=by simp
 have c:decide ((o:Int) > 4)=false:=by grind
 have d:decide (((l.length:Nat):Int)<(o:Int))=false:=by simp_all
 have e:lim l.length=true:=a7o (by omega);simp at h;have m:a1D 0 l=l:=rfl;rw[m]at h;unfold a2O;simp only[a,c,d,e,cF,cT,oB,a6M g,r,bT,h,a6M (a9o g o)]
 grind
def ex:Nat→(Nat→Int)→Nat→Int
 |0,f,i=>f i
 |o+1,f,i=>ex o f (i+1)-ex o f i
theorem b5w{l:List Int}(g:l.all a0A=true):∀(o i:Nat),i+o<l.length→(a1D o l)[i]?=some (W (ex o (fun j=>l.getD j 0) i))
 |0,i,h=>by
  simp_all[a1D,ex,b1R]
 |o+1,i,h=>by
  have f:=b5w g o i (by omega);have k:=b5w g o (i+1) (by omega);simp_all[a1D,ex,b4u,a6j]
theorem c4e(e:l.all a0A=true)(d:o≤4)(h:o+j<l.length):W (W (ex o (fun j=>l.getD j 0) j)+a3g o (l.take (o+j)))=l.getD (o+j) 0:=by
 have f:a0A (l.getD (o+j) 0)=true:=by
  simp_all
 have g:∀i:Nat,1≤i→i≤o→atB (l.take (o+j)) i=l.getD (o+j-i) 0:=fun i b c=>by
  simp[atB,Nat.min_eq_left (a53 h),List.getElem?_take]
  grind
 have a:ex o (fun j=>l.getD j 0) j+a3g o (l.take (o+j))=l.getD (o+j) 0:=by
  have k:o=0∨o=1∨o=2∨o=3∨o=4:=by omega
  rcases k with rfl|rfl|rfl|rfl|rfl;simp[ex,a3g]
  all_goals grind[ex,a3g]
 have:W (W (ex o (fun j=>l.getD j 0) j)+a3g o (l.take (o+j)))=W (ex o (fun j=>l.getD j 0) j+a3g o (l.take (o+j))):=by
  simp_all[a6j]
 simp_all[b1R]
theorem b9U{l:List Int}(f:l.all a0A=true){o:Nat}(b:o≤4):∀(k j:Nat),o+j+k=l.length→a3a (a3g o) ((a1D o l).drop j) (l.take (o+j))=some l
 |0,j,h=>by
  rw[List.drop_of_length_le (by rw[a4k];omega),a09 (by omega)];rfl
 |k+1,j,h=>by
  have g:j<(a1D o l).length:=by rw[a4k];omega
  have a:=b5w f o j (by omega);rw[lG g]at a;have e:=Option.some.inj a;have c:l.getD (o+j) 0=l[o+j]:=by grind
  have st:=c4e f b (show o+j<l.length by omega);rw[c]at st;rw[a00 g,e];simp only[a3a,st,lA.1 f _ (a04 (show o+j<l.length by omega)),cT];have d:l.take (o+j)++[l[o+j]]=l.take (o+(j+1)):=by
   rw[show o+(j+1)=(o+j)+1 by rfl]
   simp
  rw[d];exact b9U f b k (j+1) (by omega)
theorem a6V{σ β:Type}{f:σ→Option (σ ⊕ β)}(I:Nat→σ→Prop)(Q:β→Prop)(n:Nat)(g:∀i s,i<n→I i s→∃s',f s=some (.inl s')∧I (i+1) s')
  (a:∀s,I n s→∃b,f s=some (.inr b)∧Q b):∀(k i:Nat)(s:σ),i+k=n→I i s→∃b,y0s f s=some b∧Q b
 |0,i,s,h,hi=>by
  obtain rfl:i=n:=by omega
  grind[a0D]
 |k+1,i,s,h,hi=>by
  obtain⟨s',c,d⟩:=g i s (by omega) hi;rw[a0E c];exact a6V I Q n g a k (i+1) s' (by omega) d
theorem b4U(y:Int):0≤wrap .u64 y∧wrap .u64 y<18446744073709551616:=by
 grind[wrap,IntKind.bits,IntKind.signed]
def b0A(n:Int)(x:Int):Bool:=a0A x&&!(a62 x (A0n .i64 1 n) != 0)
def b3f{β:Type}(n:Int)(bad:β)(out:List Int)(x:Int):List Int ⊕ β:=bif b0A n x then .inl (out++[A0o .i64 x n])else .inr bad
def a9p(n:Int)(l:List Int):Option (List Int):=bif l.all (b0A n)then some (l.map fun x=>A0o .i64 x n)else none
theorem b3A{β:Type}(n:Int)(h:β)(g:List Int→β):∀(l out:List Int),a9e g (a2s (b3f n h) l out)=match a9p n l with|some r=>g (out++r)|none=>h
 | [],out=>by grind[a2s,a9e,a9p]
 |x::l,out=>by
  simp only[a2s,b3f,a9p,a26];cases hx:b0A n x with
  |true=>
   simp only[cT,a21];rw[b3A n h g l _];simp only[a9p];cases l.all (b0A n)with
   |true=>simp
   |false=>rfl
  |false=>rfl
theorem c3h{o:Nat}(h:o≤30):A0n .i64 1 (o:Int)=((2^o:Nat):Int):=by
 have g:2^o≤2^30:=a30 (by omega) h
 have:=b3a (N:=1) (o:=o) (by omega) (by omega)
 simp_all
theorem b2J(d:o≤30)(m:l.length<100000):a6B (l,(o:Int))=some (a1q (a9p (o:Int) l)):=by
 have e:short l:=by unfold short;omega
 have g:¬ (o:Int)<0:=by omega
 have b:¬ (o:Int) > 30:=by omega
 have c:(A0n .i64 (1:Int) (o:Int)==0)=false:=by
  rw[c3h d]
  have:0<2^o:=a45 o
  grind
 unfold a6B;simp[g,b]
 have:=a1S (f:=a6l) l (fun i out=>((o:Int),l,(l.length:Int),(i:Int),out,())) (b3f (o:Int) (Sum.inr ((6:Int),([]:List Int),())))
  (fun i out=>out.length=i) (fun out=>Sum.inl (out,()))
  (fun i h out j=>by
   have k:i<1000000:=by omega
   simp only[a6l,dlt h,cT,a0C h,oB,b2C,b3f,b0A,g,c,decide_false,cF];cases hb:a0A l[i]with
   |true=>
    cases hb2:(a62 l[i] (A0n .i64 1 (o:Int)) != 0)with
    |false=>
     simp only[cT,bT,cF,oB,g,decide_false,a0I (show out.length+1<1000000 by omega),a0B k,a02,a16,hb2];simp_all
    |true=>
     simp
   |false=>
    simp)
  (fun out _=>by simp[a6l]) (a:=[]) rfl
 simp[b3A]at this;rw[this];cases a9p (o:Int) l<;>rfl
theorem b5x{o:Nat}(h:o≤30){x:Int}(k:b0A (o:Int) x=true):a0A (A0o .i64 x (o:Int))=true∧A0n .i64 (A0o .i64 x (o:Int)) (o:Int)=x∧a0A x=true:=by
 simp only[b0A,c3h h,bA,a41,bne_eq_false_iff_eq]at k;obtain⟨f,d⟩:=k;obtain⟨c,rfl⟩:=Int.dvd_of_tmod_eq_zero d;have g:=a2i.1 f;have e:min (a38 (o:Int)) (IntKind.bits .i64)=o:=by grind[IntKind.bits]
 have hp:(0:Int)<2^o:=Int.pow_pos (by omega);have b:((2^o:Nat):Int)=2^o:=by simp
 rw[b]at g f⊢;have a:A0o .i64 (2^o*c) (o:Int)=c:=by
  unfold A0o
  grind[a49]
 rw[a];refine⟨a2i.2 ?_,?_,f⟩;generalize (2:Int)^o=p at hp g;have i:p*c=(p-1)*c+c:=by grind
 by_cases hc:0≤c
 have:=Int.mul_nonneg (show 0≤p-1 by omega) hc
 omega
 have:=Int.mul_nonneg (show 0≤p-1 by omega) (show 0≤-c by omega)
 grind
 grind[A0n,a0G]
theorem c6k(h:o≤30)(f:a9p (o:Int) l=some d):d.all a0A=true∧d.length=l.length∧upO (o:Int) d=some l:=by
 unfold a9p at f;cases ha:l.all (b0A (o:Int))with
 |false=>simp_all
 |true=>
  rw[ha]at f;simp at f;subst f;have g:=lA.1 ha;refine⟨?_,by simp,?_⟩;simp_all[b5x];have a:(l.map fun x=>A0o .i64 x (o:Int)).all (fun x=>a0A x&&a0A (A0n .i64 x (o:Int)))=true:=by
   simp only[List.all_map];refine lA.2 fun x k=>?_
   obtain⟨c,e,i⟩:=b5x h (g x k);simp_all
  unfold upO;rw[a]
  simp
  have b:l.map ((fun x=>A0n .i64 x (o:Int))∘fun x=>A0o .i64 x (o:Int))=l.map id:=List.map_congr_left (fun x k=>(b5x h (g x k)).2.1);simp_all
theorem c3i{n warm:Int}(h:a2L n warm=true):(a1l 0 n warm).length≠0:=by
 have g:=h;simp[a2L]at g
 grind[a1l,a9k]
theorem c3j(h:-1048576≤x∧x≤1048575):v0s (v0r x (-1048576)) 1048575=x:=by
 unfold v0s v0r
 grind
theorem b9c(h:a0A x=true):-1048576≤A0o .i64 x ((10:Nat):Int)∧A0o .i64 x ((10:Nat):Int)≤1048575:=by
 have g:=a2i.1 h;have e:A0o .i64 x ((10:Nat):Int)=x / 1024:=by
  show Int.fdiv x 1024=_
  grind
 omega
theorem b7O{x:Int}(f:a0A x=true){a l:List Int}{n i:Int}:∀(k s:Nat),s+k=10→∃s':Nat,s'≤10∧y0s a1L (a,(s:Int),x,l,n,i,())=some (a,(s':Int),l,n,i,())
 |0,s,h=>by
  obtain rfl:s=10:=by omega
  have g:decide (((10:Nat):Int)<0)=false:=by rfl
  have d:=c3j (b9c f);refine⟨10,a34 _,a0D ?_⟩;simp_all[a1L,a1I]
 |k+1,s,h=>by
  have g:decide ((s:Int)<0)=false:=decide_eq_false (by omega);cases hc:(v0s (v0r (A0o .i64 x (s:Int)) (-1048576)) 1048575 != A0o .i64 x (s:Int))with
  |false=>exact⟨s,by omega,a0D (by simp only[a1L,g,cF,a1I,oB,hc])⟩
  |true=>
   obtain⟨s',b,c⟩:=b7O f (a:=a) (l:=l) (n:=n) (i:=i) k (s+1) (by omega);refine⟨s',b,?_⟩;rw[a0E (s':=(a,((s+1:Nat):Int),x,l,n,i,())) (by simp only[a1L,g,cF,a1I,oB,hc,cT,a0B (show s<1000000 by omega)])];omega
theorem c1A(w:l.all a0A=true)(A:l.length<100000):∃r,a2Q l=some r∧r.length=l.length:=by
 obtain⟨b,y,s,z,v⟩:=a6V (f:=a1V) (fun i st=>∃s:Nat,s≤10∧st=(l,(s:Int),l,(l.length:Int),(i:Int),())) (fun b=>∃s:Nat,s≤10∧b=(l,(s:Int),())) l.length
  (fun i st g h=>by
   obtain⟨s,q,rfl⟩:=h;obtain⟨s',k,e⟩:=b7O (lA.1 w _ (a04 g)) (a:=l) (l:=l) (n:=(l.length:Int)) (i:=(i:Int)) (10-s) s (by omega);exact⟨_,by simp only[a1V,dlt g,cT,a0C g,oB,e,a0B (show i<1000000 by omega)]<;>rfl,s',k,rfl⟩)
  (fun st h=>by
   obtain⟨s,q,rfl⟩:=h;exact⟨_,by simp_all[a1V],s,q,rfl⟩) l.length 0 _ (by omega) ⟨0,by omega,rfl⟩
 subst v;obtain⟨c,x,o,t,u⟩:=a6V (f:=a1W) (fun i st=>∃o:List Int,st=((s:Int),l,(l.length:Int),(i:Int),o,())∧o.length=l.length) (fun b=>∃o:List Int,b=(o,())∧o.length=l.length) l.length
  (fun i st g h=>by
   obtain⟨o,rfl,p⟩:=h;have d:decide ((s:Int)<0)=false:=decide_eq_false (by omega);have j:decide ((0:Int)≤(i:Int))=true:=by simp
   have m:decide ((i:Int)<((o.length:Nat):Int))=true:=decide_eq_true (by omega);exact⟨_,by simp only[a1W,dlt g,cT,a0C g,oB,d,cF,j,m,a02,a0B (show i<1000000 by omega)]<;>rfl,_,rfl,by grind⟩)
  (fun st h=>by
   obtain⟨o,rfl,p⟩:=h;exact⟨_,by simp_all[a1W],o,rfl,p⟩) l.length 0 _ (by omega) ⟨a01 l.length 0,rfl,by simp⟩
 subst t;refine⟨o,?_,u⟩;have d:decide ((0:Int)≤((l.length:Nat):Int))=true:=by simp
 have j:decide (((l.length:Nat):Int)≤((l.length:Nat):Int))=true:=by simp
 have m:lim l.length=true:=a0I (by omega);simp_all[a2Q]
theorem b6x:∀(N:Nat)(num den:Int),den.toNat≤N→∃a b,y0s a2n (num,den,())=some (a,b,())
 |N,num,den,h=>by
  by_cases hd:den≥1099511627776
  ·have g:decide (den≥(1099511627776:Int))=true:=decide_eq_true hd;have e:A0o .i64 den 1=den / 2:=by
    show Int.fdiv den 2=_
    grind
   rw[a0E (s':=(A0o .i64 num 1,den / 2,())) (by simp_all[a2n])]
   match N with
   |0=>omega
   |N+1=>exact b6x N _ _ (by omega)
  have g:decide (den≥(1099511627776:Int))=false:=decide_eq_false hd;exact⟨num,den,a0D (by simp only[a2n,g,cF])⟩
theorem b1Y{f:List Int}(u:1≤m)(r:g.length=f.length)(t:f.length<100000)(q:m<1000):∃k,a2k (f,g,(m:Int))=some k:=by
 obtain⟨b,n,d,den,o⟩:=a6V (f:=a1Q) (fun i st=>∃d den:Int,st=(f,g,d,den,((m+i:Nat):Int),())) (fun b=>∃d den:Int,b=(d,den,())) (f.length-m)
  (fun i st s h=>by
   obtain⟨d,den,rfl⟩:=h;have j:m+i<f.length:=by omega
   have e:wrap .i64 (((m+i:Nat):Int)-1)=((m+i-1:Nat):Int):=by grind[a0G]
   exact⟨_,by simp only[a1Q,dlt j,cT,a0C j,e,a0C (show m+i-1<g.length by omega),oB,a0B (show m+i<1000000 by omega)]<;>rfl,_,_,rfl⟩)
  (fun st h=>by
   obtain⟨d,den,rfl⟩:=h;have l:decide (((m+(f.length-m):Nat):Int)<((f.length:Nat):Int))=false:=decide_eq_false (by omega);exact⟨_,by simp only[a1Q,l,cF]<;>rfl,_,_,rfl⟩) (f.length-m) 0 (f,g,0,0,(m:Int),()) (by omega) ⟨0,0,rfl⟩
 subst o;obtain⟨a,c,p⟩:=b6x den.toNat d den (a34 _);unfold a2k;simp[n,p];cases hc:(c==0)with
 |true=>simp
 |false=>
  simp
  cases decide ((A0n .i64 a 15).tmod c<0)<;>exact⟨_,rfl⟩
theorem b8J{f:List Int}{order:Int}(y:1≤m)(r:g.length=f.length)(x:f.length<100000)(s:m<1000):
  ∃f' a:List Int,y0s a1g (order,(m:Int),k,((f.length:Nat):Int)-1,f,g,ks,())=some (order,(m:Int),f',a,ks,())∧f'.length=f.length∧a.length=f.length:=by
 obtain⟨b,t,f',a,u,v⟩:=a6V (f:=a1g) (fun i st=>∃f' a:List Int,st=(order,(m:Int),k,((f.length:Nat):Int)-1-(i:Int),f',a,ks,())∧f'.length=f.length∧a.length=f.length)
  (fun b=>∃f' a:List Int,b=(order,(m:Int),f',a,ks,())∧f'.length=f.length∧a.length=f.length) (f.length-m)
  (fun i st w h=>by
   obtain⟨f',a,rfl,c,d⟩:=h;have j:decide (((f.length:Nat):Int)-1-(i:Int)≥(m:Int))=true:=decide_eq_true (by omega);have l:decide ((0:Int)≤((f.length:Nat):Int)-1-(i:Int))=true:=decide_eq_true (by omega);have n:decide (((f.length:Nat):Int)-1-(i:Int)<((f'.length:Nat):Int))=true:=decide_eq_true (by omega);have o:decide (((f.length:Nat):Int)-1-(i:Int)<((a.length:Nat):Int))=true:=decide_eq_true (by omega);have e:wrap .i64 (((f.length:Nat):Int)-1-(i:Int)-1)=((f.length:Nat):Int)-1-((i+1:Nat):Int):=by grind[a0G]
   have p:decide ((0:Int)≤((f.length:Nat):Int)-1-((i+1:Nat):Int))=true:=decide_eq_true (by omega);have q:decide (((f.length:Nat):Int)-1-((i+1:Nat):Int)<((a.length:Nat):Int))=true:=decide_eq_true (by omega);exact⟨_,by simp only[a1g,j,l,n,o,e,p,q,cT,a02,a1I,oB]<;>rfl,_,_,rfl,by simp_all,by simp_all⟩)
  (fun st h=>by
   obtain⟨f',a,rfl,c,d⟩:=h;have j:decide (((f.length:Nat):Int)-1-((f.length-m:Nat):Int)≥(m:Int))=false:=decide_eq_false (by omega);exact⟨_,by simp only[a1g,j,cF]<;>rfl,f',a,rfl,c,d⟩) (f.length-m) 0 _ (by omega) ⟨f,g,rfl,rfl,r⟩
 grind
theorem b9V{f:List Int}(y:o≤32)(v:g.length=f.length)(x:f.length<100000):∃ks:List Int,y0s a1F ((o:Int),(1:Int),f,g,([]:List Int),())=some (ks,())∧ks.length=o:=by
 obtain⟨b,p,ks,t,u⟩:=a6V (f:=a1F) (fun i st=>∃f' a ks:List Int,st=((o:Int),((i+1:Nat):Int),f',a,ks,())∧f'.length=f.length∧a.length=f.length∧ks.length=i)
  (fun b=>∃ks:List Int,b=(ks,())∧ks.length=o) o
  (fun i st w h=>by
   obtain⟨f',a,ks,rfl,j,l,q⟩:=h;have d:decide (((i+1:Nat):Int)≤(o:Int))=true:=decide_eq_true (by omega);obtain⟨k,n⟩:=b1Y (f:=f') (g:=a) (m:=i+1) (by omega) (by omega) (by omega) (by omega);have e:wrap .i64 (((f'.length:Nat):Int)-1)=((f'.length:Nat):Int)-1:=a0G (by omega);obtain⟨r,s,p,t,u⟩:=b8J (f:=f') (g:=a) (ks:=ks++[k]) (m:=i+1) (order:=(o:Int)) (k:=k) (by omega) (by omega) (by omega) (by omega);have c:lim (ks.length+1)=true:=a0I (by omega);exact⟨_,by simp only[a1F,d,cT,n,oB,c,e,a05,p,a0B (show i+1<1000000 by omega)]<;>rfl,r,s,ks++[k],rfl,by omega,by omega,by grind⟩)
  (fun st h=>by
   obtain⟨f',a,ks,rfl,j,l,q⟩:=h;have d:decide (((o+1:Nat):Int)≤(o:Int))=false:=decide_eq_false (by omega);exact⟨_,by simp only[a1F,d,cF]<;>rfl,ks,rfl,q⟩) o 0 _ (by omega) ⟨f,g,[],rfl,rfl,v,rfl⟩
 simp_all
theorem b4f(h:l.all a0A=true)(t:l.length≤4096)(s:1≤o)(m:o≤32):∃ks:List Int,a2y (l,(o:Int))=some (ks,0)∧ks.length=o:=by
 have p:short l:=by unfold short;omega
 obtain⟨r,e,q⟩:=c1A h (by omega);have n:short r:=by unfold short;omega
 obtain⟨ks,i,j⟩:=b9V (f:=r) (g:=r) m rfl (by omega);have k:decide ((o:Int)<1)=false:=decide_eq_false (by omega);have a:decide ((o:Int) > 32)=false:=decide_eq_false (by omega);have b:decide (((l.length:Nat):Int) > 4096)=false:=decide_eq_false (by omega);have c:decide ((0:Int)≤(o:Int))=true:=by simp
 have d:lim o=true:=a0I (by omega);refine⟨ks,?_,j⟩;unfold a2y;simp only[k,a,b,c,d,cF,cT,oB,a4d p,h,bT,e,a7r n,tN,a02,i]
theorem b1B{σ β:Type}{f:σ→Option (σ ⊕ β)}(I:Nat→σ→Prop)(Q:β→Prop)(n:Nat)(g:∀i s,i<n→I i s→(∃s',f s=some (.inl s')∧I (i+1) s')∨(∃b,f s=some (.inr b)∧Q b))
  (a:∀s,I n s→∃b,f s=some (.inr b)∧Q b):∀(k i:Nat)(s:σ),i+k=n→I i s→∃b,y0s f s=some b∧Q b
 |0,i,s,h,hi=>by
  obtain rfl:i=n:=by omega
  grind[a0D]
 |k+1,i,s,h,hi=>by
  rcases g i s (by omega) hi with⟨s',c,d⟩|⟨b,c,d⟩;rw[a0E c];exact b1B I Q n g a k (i+1) s' (by omega) d;simp_all[a0D]
theorem c1B(k:ks.length≤32):∃b,y0s a0Y (ks,ks,(ks.length:Int),(0:Int),())=some b∧(b=.inl (ks,())∨b=.inr (([]:List Int),(1:Int),())):=
 b1B (f:=a0Y) (fun i s=>s=(ks,ks,(ks.length:Int),(i:Int),())) (fun b=>b=.inl (ks,())∨b=.inr (([]:List Int),(1:Int),())) ks.length
  (fun i s g h=>by
   subst h;cases h1:decide (ks[i]<(-16383:Int))with
   |true=>exact Or.inr ⟨_,by simp_all[a0Y,a0C],Or.inr rfl⟩
   |false=>
    cases h2:decide (ks[i] > (16383:Int))with
    |true=>exact Or.inr ⟨_,by simp_all[a0Y,a0C],Or.inr rfl⟩
    |false=>exact Or.inl ⟨_,by simp only[a0Y,dlt g,cT,cF,a0C g,oB,h1,h2,a0B (show i<1000000 by omega)]<;>rfl,rfl⟩)
  (fun s h=>by
   subst h;exact⟨_,by simp_all[a0Y],Or.inl rfl⟩) ks.length 0 _ (by omega) rfl
theorem c1C{a:List Int}(t:c.length=i)(u:i≤32):
  ∃g:List Int,y0s a1G (c,(i:Int),k,a,n,(i:Int),c,(c.length:Int),(0:Int),([]:List Int),())=some (k,a,n,(i:Int),g,())∧g.length=i:=by
 obtain⟨b,p,g,q,r⟩:=a6V (f:=a1G) (fun j s=>∃g:List Int,s=(c,(i:Int),k,a,n,(i:Int),c,(c.length:Int),(j:Int),g,())∧g.length=j)
  (fun b=>∃g:List Int,b=(k,a,n,(i:Int),g,())∧g.length=c.length) c.length
  (fun j s e h=>by
   obtain⟨g,rfl,l⟩:=h;have m:wrap .i64 ((i:Int)-1)=(i:Int)-1:=a0G (by omega);have o:wrap .i64 ((i:Int)-1-(j:Int))=((i-1-j:Nat):Int):=by grind[a0G]
   have d:lim (g.length+1)=true:=a0I (by omega);exact⟨_,by simp only[a1G,dlt e,cT,a0C e,oB,m,o,a0C (show i-1-j<c.length by omega),d,a0B (show j<1000000 by omega),a05]<;>rfl,_,rfl,by grind⟩)
  (fun s h=>by
   obtain⟨g,rfl,l⟩:=h;exact⟨_,by simp_all[a1G],g,rfl,l⟩) c.length 0 _ (by omega) ⟨[],rfl,rfl⟩
 simp_all
theorem b6y(y:1≤ks.length)(w:ks.length≤32):∃c e,a3p ks=some (c,e)∧(e=0→c.length=ks.length):=by
 obtain⟨b,p,q⟩:=c1B w;have j:decide (((ks.length:Nat):Int)<1)=false:=decide_eq_false (by omega);have l:decide (((ks.length:Nat):Int) > 32)=false:=decide_eq_false (by omega);unfold a3p;simp[j,l,p];rcases q with rfl|rfl;obtain⟨r,t,c,u,v⟩:=a6V (f:=a2f) (fun i s=>∃c:List Int,s=(c,ks,(ks.length:Int),(i:Int),())∧c.length=i) (fun r=>∃c:List Int,r=(c,())∧c.length=ks.length) ks.length
  (fun i s d h=>by
   obtain⟨c,rfl,g⟩:=h;have o:wrap .i64 ((i:Int)+1)=((i+1:Nat):Int):=a0B (by omega);have m:decide ((0:Int)≤((i+1:Nat):Int))=true:=by rfl
   have l1:lim (i+1)=true:=a0I (by omega);obtain⟨x,n1,n2⟩:=c1C (c:=c) (a:=ks) (i:=i) (k:=ks[i]) (n:=(ks.length:Int)) g (by omega);have l2:lim (x.length+1)=true:=a0I (by omega);exact⟨_,by simp only[a2f,dlt d,cT,a0C d,oB,o,m,tN,l1,a02,n1,l2,a05]<;>rfl,_,rfl,by grind⟩)
  (fun s h=>by
   obtain⟨c,rfl,g⟩:=h;exact⟨_,by simp_all[a2f],c,rfl,g⟩) ks.length 0 _ (by omega) ⟨[],rfl,rfl⟩
 subst u;simp at t;exact⟨c,0,by simp_all,fun _=>v⟩
 grind
theorem c1D{s:Nat}{half:Int}(m:c.length≤32)(d:w≤32):
  ∃out:List Int,y0s a1j (c,(w:Int),(s:Int),half,c,(c.length:Int),(0:Int),([]:List Int),())=some (c,(w:Int),(s:Int),out,()):=by
 obtain⟨b,i,out,l⟩:=b1B (f:=a1j) (fun j st=>∃out:List Int,st=(c,(w:Int),(s:Int),half,c,(c.length:Int),(j:Int),out,())∧out.length=j)
  (fun b=>∃out:List Int,b=(c,(w:Int),(s:Int),out,())) c.length
  (fun j st k h=>by
   obtain⟨out,rfl,e⟩:=h;have a:decide ((s:Int)<0)=false:=decide_eq_false (by omega);have g:lim (out.length+1)=true:=a0I (by omega);cases hf:a1P (A0o .i64 (wrap .i64 (c[j]+half)) (s:Int)) (w:Int)with
   |true=>exact Or.inl ⟨_,by simp only[a1j,dlt k,cT,a0C k,oB,a,cF,a6g d,hf,bT,g,a0B (show j<1000000 by omega),a05]<;>rfl,_,rfl,by grind⟩
   |false=>exact Or.inr ⟨_,by simp only[a1j,dlt k,cT,a0C k,oB,a,cF,a6g d,hf,a16]<;>rfl,out,rfl⟩)
  (fun st h=>by
   obtain⟨out,rfl,e⟩:=h;exact⟨_,by simp_all[a1j],out,rfl⟩) c.length 0 _ (by omega) ⟨[],rfl,rfl⟩
 simp_all
theorem c1E{w:Int}(k:c.length≤32):∃b,y0s a0Z (c,w,c,(c.length:Int),(0:Int),())=some b∧(b=.inl (c,w,())∨b=.inr ((0:Int),(1:Int),([]:List Int),())):=
 b1B (f:=a0Z) (fun i s=>s=(c,w,c,(c.length:Int),(i:Int),())) (fun b=>b=.inl (c,w,())∨b=.inr ((0:Int),(1:Int),([]:List Int),())) c.length
  (fun i s g h=>by
   subst h;cases h1:decide (c[i]<(-35184372088832:Int))with
   |true=>exact Or.inr ⟨_,by simp_all[a0Z,a0C],Or.inr rfl⟩
   |false=>
    cases h2:decide (c[i] > (35184372088832:Int))with
    |true=>exact Or.inr ⟨_,by simp_all[a0Z,a0C],Or.inr rfl⟩
    |false=>exact Or.inl ⟨_,by simp only[a0Z,dlt g,cT,cF,a0C g,oB,h1,h2,a0B (show i<1000000 by omega)]<;>rfl,rfl⟩)
  (fun s h=>by
   subst h;exact⟨_,by simp_all[a0Z],Or.inl rfl⟩) c.length 0 _ (by omega) rfl
theorem c3k(y:1≤c.length)(m:c.length≤32)(B:2≤w∧w≤16):∃o sh e,a4p (c,(w:Int))=some (o,sh,e)∧(e=0→o.length=c.length):=by
 obtain⟨b,u,v⟩:=c1E (w:=(w:Int)) m;have n:decide (((c.length:Nat):Int)<1)=false:=decide_eq_false (by omega);have p:decide (((c.length:Nat):Int) > 32)=false:=decide_eq_false (by omega);have q:decide ((w:Int)<2)=false:=decide_eq_false (by omega);have t:decide ((w:Int) > 16)=false:=decide_eq_false (by omega);unfold a4p;simp[n,p,q,t,u];rcases v with rfl|rfl
 ·obtain⟨r,z,x⟩:=b1B (f:=a1v) (fun i s=>s=(c,(w:Int),(i:Int),())) (fun r=>r=.inl ()∨∃(sh:Int)(o:List Int),r=.inr (sh,(0:Int),o,())∧o.length=c.length) 15
   (fun i s A h=>by
    subst h;have a:decide ((i:Int)≤14)=true:=decide_eq_true (by omega);have d:decide ((0:Int)≤((c.length:Nat):Int))=true:=by simp
    have l1:lim c.length=true:=a0I (by omega);have g:∀half:Int,∃o:List Int,y0s a1j (c,(w:Int),(i:Int),half,c,(c.length:Int),(0:Int),([]:List Int),())=some (c,(w:Int),(i:Int),o,()):=fun half=>c1D m (by omega)
    by_cases hp:(i:Int) > 0
    ·have l:wrap .i64 ((i:Int)-1)=(i:Int)-1:=a0G (by omega);have j:decide ((i:Int)-1<0)=false:=decide_eq_false (by omega);obtain⟨o,k⟩:=g (A0n .i64 1 ((i:Int)-1));cases hc:((((o.length:Nat):Int))==((c.length:Nat):Int))with
     |true=>exact Or.inr ⟨_,by simp only[a1v,a,cT,hp,decide_true,l,j,cF,oB,d,tN,l1,a02,k,hc]<;>rfl,Or.inr ⟨_,o,rfl,by grind⟩⟩
     |false=>exact Or.inl ⟨_,by simp only[a1v,a,cT,hp,decide_true,l,j,cF,oB,d,tN,l1,a02,k,hc,a0B (show i<1000000 by omega)]<;>rfl,rfl⟩
    ·obtain⟨o,k⟩:=g 0;cases hc:((((o.length:Nat):Int))==((c.length:Nat):Int))with
     |true=>exact Or.inr ⟨_,by simp only[a1v,a,cT,hp,decide_false,cF,oB,d,tN,l1,a02,k,hc]<;>rfl,Or.inr ⟨_,o,rfl,by grind⟩⟩
     |false=>exact Or.inl ⟨_,by simp only[a1v,a,cT,hp,decide_false,cF,oB,d,tN,l1,a02,k,hc,a0B (show i<1000000 by omega)]<;>rfl,rfl⟩)
   (fun s h=>by
    subst h;have a:decide (((15:Nat):Int)≤14)=false:=by rfl
    exact⟨_,by rfl,Or.inl rfl⟩) 15 0 (c,(w:Int),(0:Int),()) (by rfl) rfl
  rcases x with rfl|⟨sh,o,rfl,k⟩;exact⟨[],0,6,by simp_all,fun h=>absurd h (by simp)⟩;exact⟨o,sh,0,by simp_all,fun _=>k⟩
 grind
theorem b7P(j:l.all a0A=true)(d:l.length≤4096)(k:1≤o)(a:o≤32)(b:2≤w∧w≤16):∃c sh e,a2q (l,(o:Int),(w:Int))=some (c,sh,e)∧(e=0→c.length=o):=by
 obtain⟨ks,g,n⟩:=b4f j d k a;obtain⟨c,e,f,p⟩:=b6y (ks:=ks) (by omega) (by omega);unfold a2q;simp[g,f]
 by_cases he:e=0
 subst he;obtain⟨s,sh,m,q,r⟩:=c3k (c:=c) (w:=w) (by omega) (by omega) b
 grind
 have i:(e != 0)=true:=by simp_all
 exact⟨[],0,e,by grind,fun h=>absurd h he⟩
theorem c3l(c:l.length<100000)(d:o≤4):∃v,a4V (l,(o:Int))=some v:=by
 obtain⟨b,k,v,a⟩:=a6V (f:=a1M) (fun i s=>∃v:Int,s=((o:Int),v,l,(l.length:Int),(i:Int),())) (fun b=>∃v:Int,b=(v,())) l.length
  (fun i s g h=>by
   obtain⟨v,rfl⟩:=h;cases hc:decide (wrap .i64 ((i:Int)+(o:Int))≥4)with
   |true=>exact⟨_,by simp only[a1M,dlt g,cT,a0C g,oB,hc,a0B (show i<1000000 by omega)]<;>rfl,_,rfl⟩
   |false=>exact⟨_,by simp only[a1M,dlt g,cT,cF,a0C g,oB,hc,a0B (show i<1000000 by omega)]<;>rfl,_,rfl⟩)
  (fun s h=>by
   obtain⟨v,rfl⟩:=h;exact⟨_,by simp_all[a1M],v,rfl⟩) l.length 0 ((o:Int),(0:Int),l,(l.length:Int),(0:Int),()) (by omega) ⟨0,rfl⟩
 simp_all[a4V]
theorem b6z(h:o≤4)(b:l.length<100000)(g:l.all a0A=true):∃r e,a2O (l,(o:Int))=some (r,e)∧r.length≤l.length:=by
 by_cases hn:o≤l.length
 ·rw[b0R h hn (by unfold short;omega) g];cases (a1D o l).all a0A with
  |true=>exact⟨_,_,rfl,by rw[a4k];omega⟩
  |false=>simp
 have f:decide ((o:Int)<0)=false:=decide_eq_false (by omega);have k:decide ((o:Int) > 4)=false:=decide_eq_false (by omega);have a:decide (((l.length:Nat):Int)<(o:Int))=true:=decide_eq_true (by omega);simp_all[a2O]
theorem b6A(d:l.length<100000)(j:l.all a0A=true):∃o:Nat,a3z l=some (o:Int)∧o≤4:=by
 obtain⟨b,n,o,p,q⟩:=a6V (f:=a1A) (fun i s=>∃(o:Nat)(v:Int),s=(l,(o:Int),v,(i:Int),())∧o≤4) (fun b=>∃o:Nat,b=((o:Int),())∧o≤4) 5
  (fun i s t h=>by
   obtain⟨o,v,rfl,a⟩:=h;have g:decide ((i:Int)≤4)=true:=decide_eq_true (by omega);obtain⟨r,e,k,m⟩:=b6z (o:=i) (by omega) d j;obtain⟨y,c⟩:=c3l (l:=r) (o:=i) (by omega) (by omega);cases hc:(e != 0)with
   |true=>exact⟨_,by simp only[a1A,g,cT,k,oB,hc,a0B (show i<1000000 by omega)]<;>rfl,o,v,rfl,a⟩
   |false=>
    cases h4:decide (v<0)with
    |true=>exact⟨_,by simp only[a1A,g,cT,cF,k,oB,hc,c,h4,a0B (show i<1000000 by omega)]<;>rfl,i,y,rfl,by omega⟩
    |false=>
     cases h5:decide (y<v)with
     |true=>exact⟨_,by simp only[a1A,g,cT,cF,k,oB,hc,c,h4,h5,a0B (show i<1000000 by omega)]<;>rfl,i,y,rfl,by omega⟩
     |false=>exact⟨_,by simp only[a1A,g,cT,cF,k,oB,hc,c,h4,h5,a0B (show i<1000000 by omega)]<;>rfl,o,v,rfl,a⟩)
  (fun s h=>by
   obtain⟨o,v,rfl,a⟩:=h;have g:decide (((5:Nat):Int)≤4)=false:=by rfl
   exact⟨_,by rfl,o,rfl,a⟩) 5 0 (l,(0:Int),(-1:Int),(0:Int),()) (by rfl) ⟨0,-1,rfl,by omega⟩
 grind[a3z]
def a4h(g:List Int→Int):List Int→List Int→List Int
 | [],_=>[]
 |x::r,done=>W (x-g done)::a4h g r (done++[x])
theorem a7v(g:List Int→Int):∀r done,(a4h g r done).length=r.length
 | [],_=>rfl
 |x::r,done=>by simp[a4h,a7v g r]
theorem c4f{x g:Int}(h:a0A x=true):W (W (x-g)+g)=x:=by
 have:=b1R h
 simp_all[a6j]
theorem b3g(g:List Int→Int):∀(r done:List Int),r.all a0A=true→a3a g (a4h g r done) done=some (done++r)
 | [],done,_=>by simp[a4h,a3a]
 |x::r,done,h=>by
  rw[a26,bA]at h;simp only[a4h,a3a,c4f h.1,h.1,cT,b3g g r (done++[x]) h.2,aA,a58]
def a8t(g:List Int→Int)(r done:List Int):Option (List Int):=bif (a4h g r done).all a0A then some (a4h g r done)else none
def b1Z{β:Type}(g:List Int→Int)(bad:β)(a:List Int×List Int)(x:Int):(List Int×List Int) ⊕ β:=
 bif a0A (W (x-g a.1))then .inl (a.1++[x],a.2++[W (x-g a.1)])else .inr bad
theorem b3h{β:Type}(g:List Int→Int)(f:β)(k:List Int×List Int→β):∀(r done acc:List Int),
  a9e k (a2s (b1Z g f) r (done,acc))=match a8t g r done with|some e=>k (done++r,acc++e)|none=>f
 | [],done,acc=>by grind[a2s,a9e,a8t,a4h]
 |x::r,done,acc=>by
  simp[a2s,b1Z];cases h:a0A (W (x-g done))with
  |true=>
   simp
   rw[b3h g f k r];simp only[a8t,a4h,a26,h,a21]
   grind
  |false=>simp_all[a9e,a8t,a4h]
def b4v(g:List Int→Int)(a:List Int×List Int)(x:Int):(List Int×List Int) ⊕ (List Int×Unit):=.inl (a.1++[x],a.2++[W (x-g a.1)])
theorem b3i(g:List Int→Int)(h:List Int×List Int→List Int×Unit):∀(r done acc:List Int),
  a9e h (a2s (b4v g) r (done,acc))=h (done++r,acc++a4h g r done)
 | [],done,acc=>by grind[a2s,a9e,a4h]
 |x::r,done,acc=>by
  simp only[a2s,b4v];rw[b3i g h r];simp[a4h]
theorem b6B{g:List Int→Int}{done e:List Int}(h:a8t g r done=some e):e=a4h g r done∧e.all a0A=true:=by
 unfold a8t at h
 grind
theorem a8F{l:List Int}{i:Nat}(h:i<l.length):l.take i++[l[i]]=l.take (i+1):=by simp
theorem a9H{l:List Int}{p:Int→Bool}(h:l.all p=true)(i:Nat):(l.take i).all p=true:=by
 grind
theorem b5y{p:Int→Bool}(h:l.all p=true)(i:Nat):(l.drop i).all p=true:=by
 grind
theorem b2a{σ β:Type}{f:σ→Option (σ ⊕ β)}(l:List Int)(k:Nat)(r:k≤l.length)(S:Nat→List Int→σ)(g:List Int×List Int→Int→(List Int×List Int) ⊕ β)(d:List Int→β)
  (j:∀i (h:i<l.length) c,k≤i→c.length=i-k→(∀a',g (l.take i,c) l[i]=.inl a'→f (S i c)=some (.inl (S (i+1) a'.2))∧a'.1=l.take (i+1)∧a'.2.length=i+1-k)∧(∀b,g (l.take i,c) l[i]=.inr b→f (S i c)=some (.inr b)))
  (e:∀c,c.length=l.length-k→f (S l.length c)=some (.inr (d c))):y0s f (S k [])=some (a9e (fun a=>d a.2) (a2s g (l.drop k) (l.take k,[]))):=by
 have h:=a1S (f:=f) (l.drop k) (fun i a=>S (k+i) a.2) g (fun i a=>a.1=l.take (k+i)∧a.2.length=i) (fun a=>d a.2)
  (fun i p a n=>by
   obtain⟨a1,c⟩:=a;obtain⟨m,o⟩:=n;simp only at m o;subst m;rw[a37]at p;have q:k+i<l.length:=by omega
   grind)
  (fun a n=>by
   simp_all) (a:=(l.take k,[])) ⟨by simp,rfl⟩
 omega
def b0B(l c:List Int)(s:Int):Option (List Int):=bif l.all a0A then a8t (a5F c s) (l.drop c.length) (l.take c.length)else none
theorem b2K{s:Int}(w:a6d c s=true)(u:c.length≤l.length)(z:l.length<100000):
  a6E (l,c,s)=some (a1q (b0B l c s)):=by
 have n:short l:=by unfold short;omega
 have k:short c:=by unfold short;omega
 have e:0≤s:=by simp_all[a6d]
 have p:decide (((l.length:Nat):Int)<((c.length:Nat):Int))=false:=by simp_all
 unfold a6E b0B;simp only[a8r k,w,oB,bT,cF,p,a4d n];cases hw:l.all a0A with
 |false=>rfl
 |true=>
  have q:wrap .i64 (((l.length:Nat):Int)-((c.length:Nat):Int))=((l.length-c.length:Nat):Int):=by grind[a0G]
  have y:decide ((0:Int)≤((l.length-c.length:Nat):Int))=true:=by simp
  have r:lim (l.length-c.length)=true:=a0I (by omega);simp[q,r]
  have:=b2a (f:=a4z) l c.length u (fun i h=>(l,c,s,(i:Int),h,())) (b1Z (a5F c s) (.inr ((6:Int),([]:List Int),()))) (fun h=>.inl (h,()))
   (fun i a h v d=>by
    have o:short (l.take i):=by unfold short;grind
    have j:decide ((0:Int)≤(i:Int))=true:=by simp
    have m:decide ((i:Int)≤((l.length:Nat):Int))=true:=by grind
    have t:lim (h.length+1)=true:=a0I (by omega);constructor
    ·intro x g;unfold b1Z at g;cases hq:a0A (W (l[i]-a5F c s (l.take i)))with
     |false=>simp_all
     |true=>
      simp only[hq,cT,Sum.inl.injEq]at g;subst g;refine⟨?_,a8F a,by grind⟩;simp only[a4z,dlt a,cT,a0C a,oB,j,m,a02,tN,b2V o k e,a6c,hq,bT,cF,t,a0B (a06 a n),a05]
    ·intro b hb;unfold b1Z at hb;cases hq:a0A (W (l[i]-a5F c s (l.take i)))with
     |true=>simp_all
     |false=>
      simp[hq]at hb;subst hb;simp only[a4z,dlt a,cT,a0C a,oB,j,m,a02,tN,b2V o k e,a6c,hq,a16])
   (fun h d=>by simp[a4z])
  rw[this,b3h];cases a8t (a5F c s) (l.drop c.length) (l.take c.length)<;>rfl
theorem b0V{s:Int}(j:a6d c s=true)(r:c.length≤l.length)(w:l.length<100000):
  a6q (l,c,s)=some (a1q (b0B l c s)):=by
 have m:short l:=by unfold short;omega
 have a:short c:=by unfold short;omega
 have n:decide (((l.length:Nat):Int)<((c.length:Nat):Int))=false:=by simp_all
 unfold a6q b0B;simp only[a4H a,j,oB,bT,cF,n,a0N m];cases hw:l.all a0A with
 |false=>rfl
 |true=>
  simp only[bT,cF,cT]
  have:=b2a (f:=a4N) l c.length r (fun i h=>(l,c,s,(i:Int),h,())) (b4v (a5F c s)) (fun h=>(h,()))
   (fun i d h t k=>by
    have u:short (l.take i):=by unfold short;grind
    have o:decide ((0:Int)≤(i:Int))=true:=by simp
    have p:decide ((i:Int)≤((l.length:Nat):Int))=true:=by grind
    have q:lim (h.length+1)=true:=a0I (by omega);refine⟨fun v g=>?_,fun b hb=>by cases hb⟩;simp only[b4v,Sum.inl.injEq]at g;subst g;refine⟨?_,a8F d,by grind⟩;simp only[a4N,dlt d,cT,a0C d,oB,o,p,a02,tN,b0H u a (a9H hw i) j,q,a0B (a06 d m),a05])
   (fun h k=>by simp[a4N])
  rw[this,b3i];have e:short (a4h (a5F c s) (l.drop c.length) (l.take c.length)):=by unfold short;grind[a7v]
  simp only[oB,a17,a0N e,a8t];cases (a4h (a5F c s) (l.drop c.length) (l.take c.length)).all a0A<;>rfl
theorem b3j{s:Int}(h:b0B l c s=some r):a9i (l.take c.length) r c s=some l∧r.all a0A=true∧r.length=l.length-c.length:=by
 unfold b0B at h;cases hw:l.all a0A with
 |false=>simp_all
 |true=>
  simp[hw]at h;obtain⟨e,g⟩:=b6B h;refine⟨?_,g,by simp_all[a7v]⟩;simp[a9i,a9H hw,g]
  grind[b3g,List.take_append_drop]
def a7w(l:List Int)(lag:Int)(t:List Int):Option (List Int):=bif l.all a0A then a8t (a3M lag t) l []else none
theorem b1C(p:a4P lag t=true)(d:t.length=3)(s:l.length<100000):
  a6P (l,lag,t)=some (a1q (a7w l lag t)):=by
 have c:short l:=by unfold short;omega
 obtain⟨j,m⟩:2≤lag∧lag≤1024:=by simp_all[a4P]
 unfold a6P a7w;simp only[b2p d,p,oB,bT,cF,a9f c];cases hw:l.all a0A with
 |false=>rfl
 |true=>
  have r:decide ((0:Int)≤((l.length:Nat):Int))=true:=by simp
  have e:lim l.length=true:=a0I (by omega);simp[e]
  have:=b2a (f:=a5U) l 0 (Nat.zero_le _) (fun i h=>(l,lag,l,(l.length:Int),(i:Int),h,t,())) (b1Z (a3M lag t) (.inr ((6:Int),([]:List Int),()))) (fun h=>.inl (h,()))
   (fun i a h o k=>by
    have n:lim (h.length+1)=true:=a0I (by omega);have hp:=b1S (lag:=lag) (t:=t) (a53 a) c d j m;constructor
    ·intro q g;unfold b1Z at g;cases hq:a0A (W (l[i]-a3M lag t (l.take i)))with
     |false=>simp_all
     |true=>
      simp only[hq,cT,Sum.inl.injEq]at g;subst g;refine⟨?_,a8F a,by simp_all⟩;simp only[a5U,dlt a,cT,a0C a,oB,hp,a7p,hq,bT,cF,n,a0B (a06 a c),a05]
    ·intro b hb;unfold b1Z at hb;cases hq:a0A (W (l[i]-a3M lag t (l.take i)))with
     |true=>simp_all
     |false=>
      simp_all[a5U,a0C,a7p])
   (fun h k=>by simp[a5U])
  simp only[nZ]at this;rw[this,b3h,a08,a78];cases a8t (a3M lag t) l []<;>rfl
theorem a9q(s:a4P lag t=true)(j:t.length=3)(v:l.length<100000):
  a4s (l,lag,t)=some (a1q (a7w l lag t)):=by
 have e:short l:=by unfold short;omega
 obtain⟨m,n⟩:2≤lag∧lag≤1024:=by simp_all[a4P]
 unfold a4s a7w;simp only[a9B j,s,oB,bT,cF,a0N e];cases hw:l.all a0A with
 |false=>rfl
 |true=>
  simp only[bT,cF,cT]
  have:=b2a (f:=a5O) l 0 (Nat.zero_le _) (fun i h=>(l,lag,(i:Int),h,t,())) (b4v (a3M lag t)) (fun h=>(h,()))
   (fun i a h r k=>by
    have d:short (l.take i):=by unfold short;grind
    have hp:=b1t (out:=l.take i) (lag:=lag) (t:=t) d j m n;have p:decide ((0:Int)≤(i:Int))=true:=by simp
    have q:decide ((i:Int)≤((l.length:Nat):Int))=true:=by grind
    have o:lim (h.length+1)=true:=a0I (by omega);refine⟨fun u g=>?_,fun b hb=>by cases hb⟩;simp only[b4v,Sum.inl.injEq]at g;subst g;refine⟨?_,a8F a,by simp_all⟩;simp only[a5O,dlt a,cT,a0C a,oB,p,q,a02,tN,hp,o,a0B (a06 a e),a05])
   (fun h k=>by simp[a5O])
  simp only[nZ]at this;rw[this,b3i,a08,a78];have c:short (a4h (a3M lag t) l []):=by unfold short;rw[a7v];omega
  simp only[oB,a17,a0N c,a8t];cases (a4h (a3M lag t) l []).all a0A<;>rfl
theorem a8G(h:a7w l lag t=some r):a9W r lag t=some l∧r.all a0A=true∧r.length=l.length:=by
 unfold a7w at h;cases hw:l.all a0A with
 |false=>simp_all
 |true=>
  simp[hw]at h;obtain⟨e,g⟩:=b6B h;refine⟨?_,g,by rw[e,a7v]⟩;simp[a9W,g];simp_all[b3g]
def rsG:List Int→Fil→List Int
 | [],_=>[]
 |x::r,f=>W (x-a0S f)::rsG r (a7M f x)
theorem b1h:∀r f,(rsG r f).length=r.length
 | [],_=>rfl
 |x::r,f=>by simp[rsG,b1h r]
def rsO:List Int→List Int→Fil→Option (List Int)
 | [],done,_=>some done
 |x::r,done,f=>bif a0A (W (x-a0S f))then rsO r (done++[W (x-a0S f)]) (a7M f x)else none
theorem b9W:∀(r done:List Int)(f:Fil),rsO r done f=bif (rsG r f).all a0A then some (done++rsG r f)else none
 | [],done,f=>by simp[rsO,rsG]
 |x::r,done,f=>by
  simp[rsO,rsG];cases a0A (W (x-a0S f))with
  |false=>rfl
  |true=>simp_all[b9W]
theorem c1U:∀(r z:List Int)(f:Fil),r.all a0A=true→stO (rsG r f) z f=some (z++r)
 | [],z,f,_=>by simp[rsG,stO]
 |x::r,z,f,h=>by
  rw[a26,bA]at h;have e:W (a0S f+W (x-a0S f))=x:=by grind[c4f]
  simp only[rsG,stO,e,h.1,cT,c1U r _ _ h.2,aA,a58]
theorem b2b{row:List Int}{a:List Stg}{b c:Int}(l:short row):∀(k i:Nat)(done:List Int)(f:Fil),i+k=row.length→done.length=i→FilOk f→
  y0s a5g (a,b,c,(row.length:Int),(i:Int),done++row.drop i,f,())=some (match rsO (row.drop i) done f with
   |some r=>.inl (a,b,c,r,())
   |none=>.inr ((6:Int),([]:List Int),()))
 |0,i,done,f,h,hd,hf=>by
  obtain rfl:i=row.length:=by omega
  rw[a31,a44];exact a0D (b:=Sum.inl (a,b,c,done,())) (by simp[a5g])
 |k+1,i,done,f,h,hd,hf=>by
  have g:i<row.length:=by omega
  have m:row.length<1000000:=l;have e:decide ((0:Int)≤(i:Int))=true:=by simp
  have n:(done++row.drop i).length=row.length:=by grind
  have j:decide ((i:Int)<(((done++row.drop i).length:Nat):Int))=true:=by simp_all
  have d:rsO (row.drop i) done f=bif a0A (W (row[i]-a0S f))then rsO (row.drop (i+1)) (done++[W (row[i]-a0S f)]) (a7M f row[i])else none:=by
   rw[a00 g];rfl
  rw[d];cases hw:a0A (W (row[i]-a0S f))with
  |true=>
   rw[a0E (s':=(a,b,c,(row.length:Int),((i+1:Nat):Int),(done++[W (row[i]-a0S f)])++row.drop (i+1),a7M f row[i],())) (by
    simp only[a5g,dlt g,e,j,cT,a02,a6e hf,oB,tN,a8E hd g,a4Z,hw,bT,cF,b3v hf,b2Y hd g,a0B (show i<1000000 by omega)])]
   exact b2b l k (i+1) _ _ (by omega) (by simp_all) (b2X hf _)
  |false=>
   exact a0D (by
    simp only[a5g,dlt g,e,j,cT,a02,a6e hf,oB,tN,a8E hd g,a4Z,hw,a16];rfl)
theorem b3B{row:List Int}{a:List Stg}{b:Int}(c:short row):∀(k i:Nat)(done:List Int)(f:Fil),i+k=row.length→done.length=i→FilOk f→
  y0s a5q (a,b,(i:Int),done++row.drop i,f,())=some (a,b,done++rsG (row.drop i) f,())
 |0,i,done,f,h,hd,hf=>by
  obtain rfl:i=row.length:=by omega
  simp_all[a0D,a5q,rsG]
 |k+1,i,done,f,h,hd,hf=>by
  have g:i<row.length:=by omega
  have j:row.length<1000000:=c;have d:decide ((0:Int)≤(i:Int))=true:=by simp
  have l:(done++row.drop i).length=row.length:=by grind
  have e:decide ((i:Int)<(((done++row.drop i).length:Nat):Int))=true:=by simp_all
  rw[a0E (s':=(a,b,((i+1:Nat):Int),(done++[W (row[i]-a0S f)])++row.drop (i+1),a7M f row[i],())) (by
    simp only[a5q,d,e,cT,a02,a9j hf,oB,tN,a8E hd g,b4P hf,b2Y hd g,a0B (show i<1000000 by omega)]),
   b3B c k (i+1) _ _ (by omega) (by simp_all) (b2X hf _),a00 g]
  simp_all[rsG]
def lRO:List Stg→List Int→Option (List Int)
 | [],row=>some row
 |s::r,row=>match rsO row [] (a6f s)with
  |some row'=>lRO r row'
  |none=>none
theorem b9X(h:rsO row [] f=some d):d=rsG row f∧d.all a0A=true:=by
 rw[b9W]at h
 grind
theorem b7Q:∀(a b:List Stg)(row:List Int),lO (a++b) row=match lO a row with|some r=>lO b r|none=>none
 | [],b,row=>rfl
 |s::a,b,row=>by
  simp only[a70,lO];split;exact b7Q a b _;rfl
theorem b9Y:∀(st:List Stg)(row d:List Int),row.all a0A=true→lRO st row=some d→lO st.reverse d=some row∧d.all a0A=true∧d.length=row.length
 | [],row,d,hw,h=>by
  simp[lRO]at h;subst h;exact⟨rfl,hw,rfl⟩
 |s::st,row,d,hw,h=>by
  simp only[lRO]at h
  split at h
  rename_i g c;obtain⟨e,f⟩:=b9X c;obtain⟨k,a,b⟩:=b9Y st g d f h;refine⟨?_,a,by rw[b,e,b1h]⟩;rw[List.reverse_cons,b7Q,k];simp only[lO];rw[e,c1U row [] _ hw,a17];cases h
theorem b0W{st:List Stg}(f:∀s∈st,a2Z s=true)(l:st.length≤3):∀(j k:Nat)(row:List Int),k+j=st.length→short row→
  y0s a5h (st,(st.length:Int),(k:Int),row,())=some (match lRO (st.drop k) row with
   |some r=>.inl (r,())
   |none=>.inr ((6:Int),([]:List Int),()))
 |0,k,row,h,hs=>by
  obtain rfl:k=st.length:=by omega
  simp_all[a0D,a5h,lRO]
 |j+1,k,row,h,hs=>by
  have d:k<st.length:=by omega
  have g:=f _ (a04 d);have e:=b2b (a:=st) (b:=(st.length:Int)) (c:=(k:Int)) hs row.length 0 [] (a6f st[k]) (by omega) rfl (b4t g);simp at e;have i:((0:Int) != 0)=false:=rfl;rw[a00 d];simp[lRO];cases hr:rsO row [] (a6f st[k])with
  |some r=>
   rw[hr]at e;rw[a0E (s':=(st,(st.length:Int),((k+1:Nat):Int),r,())) (by simp only[a5h,dlt d,cT,a0C d,oB,b1v g,i,cF,e,a0B (show k<1000000 by omega)])];exact b0W f l j (k+1) r (by omega) (by have:=(b9X hr).1;unfold short at hs⊢;simp_all[b1h])
  |none=>
   simp_all[a0D,a5h,a0C,b1v]
theorem b2c{st:List Stg}(d:∀s∈st,a2Z s=true)(i:st.length≤3):∀(j k:Nat)(row:List Int),k+j=st.length→short row→
  y0s a3D (st,(k:Int),row,())=some (match lRO (st.drop k) row with
   |some r=>.inl (r,())
   |none=>.inr ((6:Int),([]:List Int),()))
 |0,k,row,h,hs=>by
  obtain rfl:k=st.length:=by omega
  simp_all[a0D,a3D,lRO]
 |j+1,k,row,h,hs=>by
  have c:k<st.length:=by omega
  have g:=d _ (a04 c);have e:=b3B (a:=st) (b:=(k:Int)) hs row.length 0 [] (a6f st[k]) (by omega) rfl (b4t g);simp at e;have f:short (rsG row (a6f st[k])):=by unfold short;rw[b1h];exact hs
  rw[a00 c];simp[lRO,b9W];cases hr:(rsG row (a6f st[k])).all a0A with
  |true=>
   rw[a0E (s':=(st,((k+1:Nat):Int),rsG row (a6f st[k]),())) (by simp only[a3D,dlt c,cT,a0C c,oB,a6v g,e,a0N f,hr,bT,cF,a0B (show k<1000000 by omega)])];exact b2c d i j (k+1) _ (by omega) f
  |false=>
   exact a0D (by simp only[a3D,dlt c,cT,a0C c,oB,a6v g,e,a0N f,hr,a16];rfl)
def a7O(l:List Int)(st:List Stg):Option (List Int):=bif l.all a0A then lRO st l else none
theorem b8K(k:a4I st=true)(a:l.length<100000):a8J (l,st)=some (a1q (a7O l st)):=by
 have h:=k;simp only[a4I,bA,dT]at h;have f:short st:=by unfold short;omega
 have g:short l:=by unfold short;omega
 unfold a8J a7O;simp only[b1s f,k,oB,bT,cF,b1r g];cases hw:l.all a0A with
 |false=>rfl
 |true=>
  have:=b0W (lA.1 h.2) h.1 st.length 0 l (by omega) g
  simp at this;simp[a7r g,this];cases lRO st l<;>rfl
theorem b5z(a:a4I st=true)(b:l.length<100000):a7d (l,st)=some (a1q (a7O l st)):=by
 have h:=a;simp only[a4I,bA,dT]at h;have k:short st:=by unfold short;omega
 have g:short l:=by unfold short;omega
 have f:lim (0+l.length)=true:=a0I (by omega);unfold a7d a7O;simp only[a9h k,a,oB,bT,cF,a0N g];cases hw:l.all a0A with
 |false=>rfl
 |true=>
  have:=b2c (lA.1 h.2) h.1 st.length 0 l (by omega) g
  simp at this;simp only[bT,cF,cT,f,oB,a05,a17,this];cases lRO st l<;>rfl
theorem b6C(h:a7O l st=some r):a8f r st=some l∧r.all a0A=true∧r.length=l.length:=by
 unfold a7O at h;cases hw:l.all a0A with
 |false=>simp_all
 |true=>
  simp[hw]at h;obtain⟨f,g,k⟩:=b9Y st l r hw h;exact⟨by simp only[a8f,g,cT,f],g,k⟩
theorem p64{w:Nat}(h:w≤64):((2^w:Nat):Int) ∣ 18446744073709551616:=a25.2 (a56 2 h)
theorem c6M(n:Int):∃q,wrap .i64 n=n+18446744073709551616*q:=by
 rw[a6j,Int.bmod];split;exact⟨-(n / 18446744073709551616),by omega⟩;exact⟨-(n / 18446744073709551616)-1,by omega⟩
theorem c4J(h:w≤64)(n:Int):((2^w:Nat):Int) ∣ wrap .i64 n↔((2^w:Nat):Int) ∣ n:=by
 obtain⟨q,g⟩:=c6M n;rw[g]
 grind[a50,a40,p64]
theorem b7R(h:w≤64)(a:Int):2^w ∣ (a07 64 a).toNat↔((2^w:Nat):Int) ∣ a:=by
 have e:(((a07 64 a).toNat:Nat):Int)=a+18446744073709551616*-(a / 18446744073709551616):=by
  rw[BitVec.toNat_ofInt];omega
 rw[←a25,e]
 grind[a50,a40,p64]
theorem c3m(w x y:Nat):2^w ∣ (x ||| y)↔2^w ∣ x∧2^w ∣ y:=by
 simp_all[Nat.dvd_iff_mod_eq_zero,Nat.or_mod_two_pow]
theorem c6N(h:w≤64)(a b:Int):((2^w:Nat):Int) ∣ bits .i64 .or a b↔((2^w:Nat):Int) ∣ a∧((2^w:Nat):Int) ∣ b:=by
 show((2^w:Nat):Int) ∣ wrap .i64 ((((a07 64 a) ||| (a07 64 b)).toNat:Nat):Int)↔_;rw[c4J h,a25,BitVec.toNat_or,c3m,b7R h,b7R h]
def orI(l:List Int)(a:Int):Int:=l.foldl (fun a x=>bits .i64 .or a x) a
theorem b1j{w:Nat}(h:w≤64):∀(l:List Int)(a:Int),((2^w:Nat):Int) ∣ orI l a↔((2^w:Nat):Int) ∣ a∧∀x∈l,((2^w:Nat):Int) ∣ x
 | [],a=>by simp[orI]
 |x::l,a=>by
  show((2^w:Nat):Int) ∣ orI l (bits .i64 .or a x)↔_;rw[b1j h l,c6N h];simp_all[and_assoc]
theorem b5A:∀(l:List Int),(∀x∈l,x=0)→orI l 0=0
 | [],_=>rfl
 |x::l,h=>by
  have g:=h x (List.mem_cons_self);subst g;show orI l (bits .i64 .or 0 0)=0;rw[show bits .i64 .or 0 0=0 from by rfl];simp_all[b5A]
theorem c4g(k:l.all a0A=true)(h:∃x∈l,x≠0):orI l 0≠0:=by
 intro e;obtain⟨x,g,f⟩:=h;have b:=((b1j (w:=62) (by omega) l 0).1 (by omega)).2 x g;have a:=a2i.1 (lA.1 k x g);omega
def a6W(l:List Int)(w:Nat):Prop:=
 ((∀x∈l,x=0)∧w=0)∨((∃x∈l,x≠0)∧w≤30∧(∀x∈l,((2^w:Nat):Int) ∣ x)∧(w=30∨∃x∈l,¬ ((2^(w+1):Nat):Int) ∣ x))
theorem c3n{v w:Nat}(h:v≤w){x:Int}(g:((2^w:Nat):Int) ∣ x):((2^v:Nat):Int) ∣ x:=
 Int.dvd_trans (a25.2 (a56 2 h)) g
theorem a6W.unique{v:Nat}(hv:a6W l v)(g:a6W l w):v=w:=by
 have d:∀{v w:Nat},v≤30→w≤30→(∀x∈l,((2^w:Nat):Int) ∣ x)→(v=30∨∃x∈l,¬ ((2^(v+1):Nat):Int) ∣ x)→w≤v:=by
  grind[c3n]
 rcases hv with⟨f,hv⟩|⟨⟨x,c,h⟩,hv1,hv2,hv3⟩
 ·rcases g with⟨-,g⟩|⟨⟨x,c,h⟩,-⟩
  all_goals grind
 ·rcases g with⟨f,-⟩|⟨-,k,a,b⟩
  all_goals grind
theorem b9Z:∀(n N:Nat),N≤n→0<N→∃k m,N=2^k*(2*m+1)
 |0,N,h,h0=>absurd h0 (by omega)
 |n+1,N,h,h0=>by
  by_cases he:N%2=0
  obtain⟨k,m,e⟩:=b9Z n (N / 2) (by omega) (by omega);refine⟨k+1,m,?_⟩;rw[Nat.pow_succ,a66 (2^k) 2,Nat.mul_assoc,←e];omega;exact⟨0,N / 2,by omega⟩
theorem c6l{k:Nat}(h:2^k*(2*m+1)<2^64):(2^k*(2*m+1)) &&& (2^64-2^k*(2*m+1))=2^k:=by
 have hp:1≤2^k:=a63;have n:k<64:=by
  refine a74 fun g=>?_
  have d:2^64≤2^k:=a30 (by simp) g
  grind
 have e:2^k*(2*m+1)=(2^k*(2*m)+(2^k-1))+1:=by grind
 have l:2^k*(2*m)+(2^k-1)<2^64:=by omega
 refine Nat.eq_of_testBit_eq fun i=>?_
 have a:(2^64-2^k*(2*m+1)).testBit i=(decide (i<64)&&!(2^k*(2*m)+(2^k-1)).testBit i):=by
  rw[e];exact Nat.testBit_two_pow_sub_succ l i
 have f:=a46 (2*m+1) (b:=0) (i:=k) (by omega) i;rw[a67]at f;have c:=a46 (2*m) (b:=2^k-1) (i:=k) (by omega) i;rw[Nat.testBit_and,a,f,c,Nat.testBit_two_pow]
 by_cases d:i<k
 grind
 by_cases h2:k=i
 simp_all;obtain⟨j,rfl⟩:∃j,i=k+(j+1):=⟨i-k-1,by omega⟩;have o:k+(j+1)-k=j+1:=by omega
 have p:(2*m+1) / 2=m:=by omega
 simp_all[Nat.testBit_succ]
theorem c4K:∀k:Nat,k<64→a9N[(2^k*285870213051353865)%18446744073709551616 / 288230376151711744]?=some (k:Int):=by
 have h:∀k:Fin 64,a9N[(2^k.val*285870213051353865)%18446744073709551616 / 288230376151711744]?=some (k.val:Int):=by decide
 exact fun k g=>h ⟨k,g⟩
theorem c1F{k:Nat}:¬ 2^(k+1) ∣ 2^k*(2*m+1):=by
 rintro⟨c,h⟩
 rw[Nat.pow_succ,Nat.mul_assoc]at h
 grind[Nat.eq_of_mul_eq_mul_left]
theorem c4L(d:0<N)(h:N<18446744073709551616):∃k:Nat,a1K (N:Int)=some (k:Int)∧2^k ∣ N∧¬ 2^(k+1) ∣ N:=by
 obtain⟨k,m,e⟩:=b9Z N N (a34 _) d;have n:2^k≤N:=by grind
 have i:k<64:=by
  refine a74 fun g=>?_
  have l:2^64≤2^k:=a30 (by simp) g;omega
 refine⟨k,?_,⟨_,e⟩,e▸c1F⟩;have hb:bits .u64 .and (N:Int) (wrap .u64 (0-(N:Int)))=((2^k:Nat):Int):=by
  have b:wrap .u64 (0-(N:Int))=((18446744073709551616-N:Nat):Int):=by
   grind[wrap,IntKind.bits,IntKind.signed]
  rw[b];show wrap .u64 (((a07 64 (N:Int)) &&& (a07 64 ((18446744073709551616-N:Nat):Int))).toNat:Int)=_;rw[a29,a29,a73,a33,a33,a36 h,a36 (by omega)]
  have:=c6l (k:=k) (m:=m) (by omega)
  rw[←e]at this;rw[show(18446744073709551616:Nat)=2^64 from rfl,this];exact a1c (by omega)
 have j:((N:Int)==0)=false:=by grind
 unfold a1K;rw[hb,j,cF];have f:wrap .u64 (((2^k:Nat):Int)*285870213051353865)=(((2^k*285870213051353865)%18446744073709551616:Nat):Int):=by
  rfl
 have a:=c4K k i;generalize (2^k*285870213051353865)%18446744073709551616=M at f a;have c:=a6k (N:=M) (o:=58) (by omega);rw[f,show(58:Int)=((58:Nat):Int)from rfl,c,show 2^58=288230376151711744 from rfl];generalize M / 288230376151711744=J at a
 grind[a0C,a0G]
theorem c6O(y:Int):bits .i64 .and y 1=y%2:=by
 have h:((a07 64 y) &&& (a07 64 1)).toNat=(y%18446744073709551616).toNat%2:=by
  simp
 show wrap .i64 ((((a07 64 y) &&& (a07 64 1)).toNat:Nat):Int)=_
 grind[a0G]
theorem c0A{n:Nat}(g:n≤62)(c:Int):A0o .i64 (((2^n:Nat):Int)*c) (n:Int)=c:=by
 have hp:0<2^n:=a45 n;have e:min (a38 (n:Int)) (IntKind.bits .i64)=n:=by grind[IntKind.bits]
 have h:((2^n:Nat):Int)=2^n:=by simp
 unfold A0o
 grind[a49]
theorem b2d{a:Int}(o:a≠0):∀(k n:Nat),n+k=30→((2^n:Nat):Int) ∣ a→
  ∃r:Nat,y0s a4q (a,(n:Int),())=some ((r:Int),())∧r≤30∧((2^r:Nat):Int) ∣ a∧(r=30∨¬ ((2^(r+1):Nat):Int) ∣ a)
 |0,n,h,hd=>by
  obtain rfl:n=30:=by omega
  exact⟨30,a0D (by grind[a4q]),by omega,hd,.inl rfl⟩
 |k+1,n,h,hd=>by
  have f:(a != 0)=true:=by grind
  have b:decide ((n:Int)<30)=true:=by grind
  have e:wrap .u64 (n:Int)=(n:Int):=a1c (by omega);have d:decide ((n:Int)<0)=false:=by simp
  have i:wrap .i64 ((n:Int)+1)=((n+1:Nat):Int):=a0B (by omega);obtain⟨c,j⟩:=hd;have l:A0o .i64 a (n:Int)=c:=by grind[c0A]
  have g:((2^(n+1):Nat):Int) ∣ a↔c%2=0:=by
   have m:((2^(n+1):Nat):Int)=((2^n:Nat):Int)*2:=by rfl
   rw[m,j]
   grind[Int.mul_dvd_mul_iff_left]
  by_cases h2:c%2=0
  have hb:(bits .i64 .and c 1==0)=true:=by rw[c6O,h2];rfl
  obtain⟨r,s,p⟩:=b2d o k (n+1) (by omega) (g.2 h2);refine⟨r,?_,p⟩;rw[a0E (s':=(a,((n+1:Nat):Int),())) (by simp only[a4q,f,cT,b,e,d,cF,l,hb,i])];omega;have hb:(bits .i64 .and c 1==0)=false:=by simp_all[c6O]
  exact⟨n,a0D (by simp only[a4q,f,cT,b,e,d,cF,l,hb]),by omega,⟨c,j⟩,.inr fun q=>h2 (g.1 q)⟩
theorem c1V{l:List Int}(f:short l):∀(k i:Nat)(a:Int),i+k=l.length→y0s a5b (a,l,(l.length:Int),(i:Int),())=some (orI (l.drop i) a,())
 |0,i,a,h=>by
  obtain rfl:i=l.length:=by omega
  simp_all[a0D,a5b,orI]
 |k+1,i,a,h=>by
  have g:i<l.length:=by omega
  have b:l.length<1000000:=f;rw[a00 g,a0E (s':=(bits .i64 .or a l[i],l,(l.length:Int),((i+1:Nat):Int),())) (by
   simp only[a5b,dlt g,cT,a0C g,oB,a0B (show i<1000000 by omega)])]
  exact c1V f k (i+1) _ (by omega)
theorem b4V{l:List Int}(f:short l):∀(k i:Nat)(a:Int),i+k=l.length→y0s a7I (l,a,(i:Int),())=some (orI (l.drop i) a,())
 |0,i,a,h=>by
  obtain rfl:i=l.length:=by omega
  simp_all[a0D,a7I,orI]
 |k+1,i,a,h=>by
  have g:i<l.length:=by omega
  have b:l.length<1000000:=f;rw[a00 g,a0E (s':=(l,bits .i64 .or a l[i],((i+1:Nat):Int),())) (by
   simp only[a7I,dlt g,cT,a0C g,oB,a0B (show i<1000000 by omega)])]
  exact b4V f k (i+1) _ (by omega)
theorem b4W{l:List Int}{r:Nat}(g:r≤30)(h:r=30∨¬ ((2^(r+1):Nat):Int) ∣ orI l 0):r=30∨∃x∈l,¬ ((2^(r+1):Nat):Int) ∣ x:=by
 grind[b1j,Int.dvd_zero]
theorem b8L{l:List Int}(i:short l)(j:l.all a0A=true):∃w:Nat,a5E l=some (w:Int)∧w≤30∧a6W l w:=by
 have f:=b4V i l.length 0 0 (by omega);simp at f;unfold a5E;simp[f]
 by_cases hz:∀x∈l,x=0
 have e:=b5A l hz;exact⟨0,by simp_all[a0D,a4q],by omega,.inl ⟨hz,rfl⟩⟩;have h:∃x∈l,x≠0:=Classical.byContradiction fun c=>hz fun x h=>Classical.byContradiction fun d=>c ⟨x,h,d⟩;obtain⟨r,k,g,a,b⟩:=b2d (c4g j h) 30 0 (by rfl) (by simp);rw[nZ]at k;exact⟨r,by simp_all,g,.inr ⟨h,g,((b1j (by omega) l 0).1 a).2,b4W g b⟩⟩
theorem b5B{l:List Int}(y:short l)(j:l.all a0A=true):∃w:Nat,a3I l=some (w:Int)∧w≤30∧a6W l w:=by
 have a:=c1V y l.length 0 0 (by omega);simp at a;unfold a3I;simp[a]
 by_cases hz:∀x∈l,x=0
 have e:=b5A l hz;exact⟨0,by simp_all,by omega,.inl ⟨hz,rfl⟩⟩
 ·have g:∃x∈l,x≠0:=Classical.byContradiction fun m=>hz fun x g=>Classical.byContradiction fun s=>m ⟨x,g,s⟩;have t:=c4g j g;have n:(orI l 0==0)=false:=by simp_all
  obtain⟨q,u⟩:∃q,wrap .u64 (orI l 0)=orI l 0+18446744073709551616*q:=⟨-(orI l 0 / 18446744073709551616),by
   grind[wrap,IntKind.bits,IntKind.signed]⟩
  obtain⟨B,r2⟩:=b4U (orI l 0);obtain⟨N,d⟩:=a03 B;have b:∀v,v≤64→(2^v ∣ N↔((2^v:Nat):Int) ∣ orI l 0):=fun v hv=>by
   rw[←a25,←d,u]
   grind[a50,a40,p64]
  have h:0<N:=by
   refine Nat.pos_of_ne_zero fun C=>?_
   obtain⟨x,f,A⟩:=g;have E:=((b1j (w:=62) (by omega) l 0).1 ((b 62 (by omega)).1 (by omega))).2 x f;have z:=a2i.1 (lA.1 j x f);omega
  obtain⟨k,p,c,r⟩:=c4L h (by omega);have i:k≤63:=by
   refine Nat.le_of_not_lt fun o=>?_
   have a:2^64≤2^k:=a30 (by simp) (by omega)
   have:=Nat.le_of_dvd h c
   omega
  simp only[n,cF,d,p,oB];have D:v0s (k:Int) 30=((min k 30:Nat):Int):=by rw[b7r];omega
  refine⟨min k 30,by grind,by omega,.inr ⟨g,by omega,?_,?_⟩⟩
  all_goals grind[b1j,Nat.dvd_trans,a56,b4W]
theorem c6m(g:w≤30)(d:l.all a0A=true)(h:a6W l w):a9p (w:Int) l=some (l.map fun x=>A0o .i64 x (w:Int)):=by
 have f:∀x∈l,((2^w:Nat):Int) ∣ x:=by
  rcases h with⟨h,-⟩|⟨-,-,h,-⟩
  all_goals grind[Int.dvd_zero]
 have:l.all (b0A (w:Int))=true:=by
  rw[lA];intro x k;obtain⟨c,a⟩:=f x k;have b:a62 x (A0n .i64 1 (w:Int))=0:=by simp_all[c3h]
  simp_all[b0A]
 simp only[a9p,this,cT]
theorem a9I{N n:Nat}(g:n≤63)(h:N<2^n)(L:List Int):(a0H (N:Int) n L).length=L.length+n:=by
 grind[a0H,a6k,Nat.div_eq_of_lt,b3Z]
def a2u(k:Nat)(x:Int):Nat:=if a0P x / 2^k<32 then a0P x / 2^k+1+k else 65
theorem b5C{k:Nat}(h:k≤25)(x:Int):a2u k x≤65:=by
 grind[a2u]
theorem c4h{k:Nat}(a:k≤25)(g:a0A x=true)(L:List Int):(a6y k x L).length=L.length+a2u k x:=by
 unfold a6y a2u;have hp:0<2^k:=a45 k;have h:a0P x%2^k<2^k:=a76 _ hp;have f:=a8y g;split;rw[a9I (by omega) h,a6w];omega
 grind[a9I,a6w]
theorem b6D{k:Nat}(g:k≤25):∀(l L:List Int),l.all a0A=true→(a4J k l L).length=L.length+(l.map (a2u k)).sum
 | [],L,_=>by rfl
 |x::l,L,h=>by
  simp only[a26,bA]at h;have e:a4J k (x::l) L=a4J k l (a6y k x L):=rfl;rw[e,b6D g l _ h.2,c4h g h.1,List.map_cons,a61];omega
theorem c0B{k:Nat}(c:k≤25)(g:a0A x=true):a6R ((k:Int),x)=some ((a2u k x:Nat):Int):=by
 have d:=a8y g;have f:A0o .u64 ((a0P x:Nat):Int) (k:Int)=((a0P x / 2^k:Nat):Int):=a6k (by omega);have a:wrap .i64 ((a0P x / 2^k:Nat):Int)=((a0P x / 2^k:Nat):Int):=a9E (a27 (a24 _ _) d);have h:decide ((k:Int)<0)=false:=by simp
 unfold a6R a2u;simp only[a7W c,a9m,g,oB,bT,cF,a9n g,h,f,a];generalize a0P x / 2^k=q
 by_cases hq:q<32
 have b:decide ((q:Int)<32)=true:=decide_eq_true (by omega);simp only[b,cT,if_pos hq]
 grind[a0G]
 grind
theorem b6E{f:Int→Nat}{M:Nat}(h:∀x,f x≤M):∀l:List Int,(l.map f).sum≤M*l.length
 | []=>by simp
 |x::l=>by
  have:=h x
  have:=b6E h l
  rw[List.map_cons,a61,lC,a71,a72];omega
theorem b3k{f:Int→Nat}{l:List Int}{i:Nat}(h:i<l.length):((l.take (i+1)).map f).sum=((l.take i).map f).sum+f l[i]:=by
 rw[a42 h,pA,List.sum_append];rfl
theorem b4X{k:Nat}(a:k≤25)(d:l.all a0A=true)(j:l.length<10000):a3u ((k:Int),l)=some (((l.map (a2u k)).sum:Nat):Int):=by
 have:=a0Q (f:=a3R) (fun i:Nat=>((k:Int),((((l.take i).map (a2u k)).sum:Nat):Int),l,(l.length:Int),(i:Int),())) l.length (b:=((((l.map (a2u k)).sum:Nat):Int),()))
  (fun i h=>by
   have c:=c0B a (lA.1 d _ (a04 h));have g:=b6E (b5C a) (l.take (i+1));rw[b3k h]at g;rw[a32]at g;have e:wrap .i64 (((((l.take i).map (a2u k)).sum:Nat):Int)+((a2u k l[i]:Nat):Int))=((((l.take (i+1)).map (a2u k)).sum:Nat):Int):=by
    grind[b3k,a0G]
   simp only[a3R,dlt h,cT,a0C h,oB,c,e,a0B (show i<1000000 by omega)])
  (by simp_all[a3R])
 unfold a3u;simp_all
theorem c4M(x:Int){n:Nat}(f:n≤62):∃N:Nat,a2t x n=(N:Int)∧N<2^n:=by
 obtain⟨h,g⟩:=b4U x;obtain⟨y,k⟩:=a03 h;have hp:0<2^n:=a45 n;refine⟨y%2^n,?_,a76 _ hp⟩
 grind[a2t,b9R]
theorem b2e{n:Nat}(h:n≤62):∀(l L:List Int),(a1C n l L).length=L.length+n*l.length
 | [],L=>by rfl
 |x::l,L=>by
  have e:a1C n (x::l) L=a1C n l (a0H (a2t x n) n L):=rfl;obtain⟨N,g,f⟩:=c4M x h;rw[e,b2e h l,g,a9I (by omega) f,lC,a71,a72];omega
theorem c6P{x:Int}(h:a0A x=true):a1P x ((31:Nat):Int)=true:=by
 have:=a2i.1 h
 have g:A0n .i64 (-1) (((31:Nat):Int)-1)=-1073741824:=by rfl
 have f:wrap .i64 (A0n .i64 1 (((31:Nat):Int)-1)-1)=1073741823:=by rfl
 unfold a1P
 grind
theorem b6F{x:Int}(h:a0A x=true):∀(k w:Nat),w+k=32→1≤k→a1E x k w≤31
 |k+1,w,hk,_=>by
  simp[a1E]
  by_cases h31:w=31
  grind[c6P]
  ·cases (x != 0)&&!a1P x w with
   |true=>exact b6F h k (w+1) (by omega) (by omega)
   |false=>grind
theorem b2f:∀(l:List Int)(w:Nat),l.all a0A=true→w≤31→l.foldl (fun w x=>a1E x (32-w) w) w≤31
 | [],w,_,h=>h
 |x::l,w,hl,h=>by
  simp only[a26,bA]at hl;exact b2f l _ hl.2 (b6F hl.1 (32-w) w (by omega) (by omega))
theorem b0C{l:List Int}(h:l.all a0A=true):a0J l≤31:=b2f l 0 h (by omega)
theorem b1D(g:l.length<10000):a5D l=some (((5+a0J l*l.length:Nat)):Int):=by
 have h:=a2H l;have f:a0J l*l.length≤32*l.length:=a35 _ h;unfold a5D;simp only[a5A (show short l by unfold short;omega),oB]
 grind[a0G]
def a8u(k:Int)(part:List Int):Nat:=5+(if k=31 then 5+a0J part*part.length else(part.map (a2u k.toNat)).sum)
def a1X:List Nat→List Int→List Int→Nat
 |z::zs,k::ks,l=>a8u k (l.take z)+a1X zs ks (l.drop z)
 |_,_,_=>0
theorem b4g{q:Nat}(h:q<2147483648):wrap .u64 (q:Int)=(q:Int):=a1c (by omega)
theorem c4i(h:kB k=true){part:List Int}(g:part.all a0A=true)(L:List Int):(a7N k part L).length=L.length+a8u k part:=by
 simp[kB]at h;obtain⟨K,rfl⟩:=a03 (show 0≤k by omega)
 grind[a9I,b0C,a7N,a8u,b4g,b2e,b6D]
theorem b6G:∀(zs:List Nat)(ks l L:List Int),ks.all kB=true→l.all a0A=true→(a5B zs ks l L).length=L.length+a1X zs ks l
 |z::zs,k::ks,l,L,h,hw=>by
  simp only[a26,bA]at h;have g:(l.take z).all a0A=true:=lA.2 fun x a=>lA.1 hw x (a22 a);have f:(l.drop z).all a0A=true:=lA.2 fun x a=>lA.1 hw x (a23 a);simp only[a5B,a1X];rw[b6G zs ks _ _ h.2 f,c4i h.1 g];omega
 | [],_,_,_,_,_=>by rfl
 |_::_,[],_,_,_,_=>by rfl
theorem c0C(h:kB k=true)(part:List Int):a8u k part≤10+65*part.length:=by
 simp[kB]at h;unfold a8u;split;have g:a0J part*part.length≤32*part.length:=a35 _ (a2H part);omega
 have:=b6E (b5C (k:=k.toNat) (by omega)) part
 omega
theorem b1E{zn:List Nat}{p:Prt}(E:p.2.1.length=zn.length)(a:p.2.1.all kB=true)(F:zn.length≤256):∀(j i:Nat)(l:List Int)(c:Nat),i+j=zn.length→(zn.drop i).sum=l.length→l.all a0A=true→l.length≤5000→c+10*j+65*l.length<1000000→
  y0s a1z (l,(c:Int),(zn.length:Int),(i:Int),a1i zn,p,())=some (((c+a1X (zn.drop i) (p.2.1.drop i) l:Nat):Int),())
 |0,i,l,c,hi,_,_,_,_=>by
  obtain rfl:i=zn.length:=by omega
  grind[a0D,a1z,a1X]
 |j+1,i,l,c,hi,hsum,hw,hl5,hb=>by
  have h:i<zn.length:=by omega
  have f:i<p.2.1.length:=by omega
  have o:=lA.1 a _ (a04 f);rw[a7u h]at hsum;have z:decide ((0:Int)≤(i:Int))=true:=by simp
  have A:decide ((i:Int)<(((a1i zn).length:Nat):Int))=true:=by simp_all[a0X]
  have B:decide ((0:Int)≤((zn[i]:Nat):Int))=true:=by simp
  have C:decide (((zn[i]:Nat):Int)≤((l.length:Nat):Int))=true:=by grind
  have d:(l.take zn[i]).length=zn[i]:=by simp_all
  have e:(l.drop zn[i]).length=(zn.drop (i+1)).sum:=by grind
  have v:(l.take zn[i]).all a0A=true:=lA.2 fun x y=>lA.1 hw x (a22 y);have w:(l.drop zn[i]).all a0A=true:=lA.2 fun x y=>lA.1 hw x (a23 y);have g:=c0C o (l.take zn[i]);rw[d]at g;have n:a1z (l,(c:Int),(zn.length:Int),(i:Int),a1i zn,p,())=some (.inl (l.drop zn[i],((c+a8u p.2.1[i] (l.take zn[i]):Nat):Int),(zn.length:Int),((i+1:Nat):Int),a1i zn,p,())):=by
   by_cases h31:p.2.1[i]=31
   have b:(p.2.1[i]==31)=true:=by simp_all
   have m:=b1D (l:=l.take zn[i]) (by omega);have u:a8u p.2.1[i] (l.take zn[i])=5+(5+a0J (l.take zn[i])*(l.take zn[i]).length):=by simp_all[a8u]
   rw[u]at g⊢;generalize 5+a0J (l.take zn[i])*(l.take zn[i]).length=r at m g⊢;have s:wrap .i64 (5+(r:Int))=5+(r:Int):=a0G (by omega);have t:wrap .i64 ((c:Int)+(5+(r:Int)))=((c+(5+r):Nat):Int):=by grind[a0G]
   simp only[a1z,dlt h,z,A,a3f h,B,C,cT,a02,tN,a0C f,oB,b,m,s,t,a18,a0B (show i<1000000 by omega)];have b:(p.2.1[i]==31)=false:=by simp_all
   have q:=o;simp[kB]at q;obtain⟨K,D⟩:=a03 (show 0≤p.2.1[i]by omega);have m:=b4X (k:=K) (by omega) v (by omega);have u:a8u p.2.1[i] (l.take zn[i])=5+((l.take zn[i]).map (a2u K)).sum:=by simp_all[a8u]
   rw[←D]at m;rw[u]at g⊢;generalize ((l.take zn[i]).map (a2u K)).sum=r at m g⊢;have s:wrap .i64 (5+(r:Int))=5+(r:Int):=a0G (by omega);have t:wrap .i64 ((c:Int)+(5+(r:Int)))=((c+(5+r):Nat):Int):=by grind[a0G]
   simp only[a1z,dlt h,z,A,a3f h,B,C,cT,cF,a02,tN,a0C f,oB,b,m,s,t,a18,a0B (show i<1000000 by omega)]
  rw[a0E n,b1E E a F j (i+1) (l.drop zn[i]) _ (by omega) e.symm w (by omega) (by omega)];rw[a00 h,a00 f]
  grind[a1X]
theorem b8M(h:PartsOk p n warm l zn):a4B (p,n,warm,l)=some ((4+a1X zn p.2.1 l:Nat):Int):=by
 have f:Go.Ab.short p.2.1:=by have:=h.ks;have:=h.len;unfold Go.Ab.short;omega
 have k:=h.short;have a:=h.len;have g:=b1E h.ks h.all h.len zn.length 0 l 4 (by omega) (by rw[a08];exact h.sum) h.wide h.short (by omega);simp only[nZ,a64,a08]at g;unfold a4B;simp only[a9l f,h.may,a9F h.row h.rest h.wide h.short,oB,bT,cF,a2F,h.sizes,a0X,g]
theorem b8N(h:PartsOk p n warm l zn)(L:List Int):(a2I p zn l L).length=L.length+(4+a1X zn p.2.1 l):=by
 obtain⟨o,g⟩:=a03 h.order.1;have f:=h.order.2;unfold a2I;rw[b6G _ _ _ _ h.all h.wide,g,b4g (by omega),a9I (by omega) (by omega)];omega
def a0V(o:Int):Sub:=((0:Int),(0:Int),o,(0:Int),(0:Int),([]:List Int),a01 3 (0:Int),([]:List Stg),([]:List Int),((0:Int),([]:List Int),()),([]:List Int),())
theorem c1G(o:Int):SmallS (a0V o):=⟨by simp[a0V],by rfl,by simp[a0V],by simp[a0V],by simp[a0V],by simp[a0V]⟩
theorem b6H{k:Nat}(d:k≤25)(g:a0A x=true):a4X ((k:Int),x)=some ((a2u k x:Nat):Int):=by
 have e:=a8y g;have f:A0o .u64 ((a0P x:Nat):Int) (k:Int)=((a0P x / 2^k:Nat):Int):=a6k (by omega);have b:wrap .i64 ((a0P x / 2^k:Nat):Int)=((a0P x / 2^k:Nat):Int):=a9E (a27 (a24 _ _) e);have a:wrap .u64 (k:Int)=(k:Int):=a1c (by omega);have h:decide ((k:Int)<0)=false:=by simp
 unfold a4X a2u;simp only[a8z d,a1Y,g,oB,bT,cF,a9Z g,a,h,f,b];generalize a0P x / 2^k=q
 by_cases hq:q<32
 have c:decide ((q:Int)<32)=true:=decide_eq_true (by omega);simp only[c,cT,if_pos hq]
 grind[a0G]
 grind
def a9r(k:Nat)(l:List Int):Nat:=(l.map (a2u k)).sum
theorem a7P{k:Nat}(a:k≤25)(d:l.all a0A=true)(m:l.length<10000):a2Y ((k:Int),l)=some ((a9r k l:Nat):Int):=by
 have:=a0Q (f:=a2X) (fun i:Nat=>((k:Int),l,((((l.take i).map (a2u k)).sum:Nat):Int),(i:Int),())) l.length (b:=((((l.map (a2u k)).sum:Nat):Int),()))
  (fun i h=>by
   have c:=b6H a (lA.1 d _ (a04 h));have g:=b6E (b5C a) (l.take (i+1));rw[b3k h]at g;rw[a32]at g;have e:wrap .i64 (((((l.take i).map (a2u k)).sum:Nat):Int)+((a2u k l[i]:Nat):Int))=((((l.take (i+1)).map (a2u k)).sum:Nat):Int):=by
    grind[b3k,a0G]
   simp only[a2X,dlt h,cT,a0C h,oB,c,e,a0B (show i<1000000 by omega)])
  (by simp_all[a2X])
 unfold a2Y;have j:(((l.take 0).map (a2u k)).sum:Nat)=0:=rfl;simp_all[a9r]
def rbN(l:List Int):Nat→Nat
 |0=>0
 |i+1=>if a9r (i+1) l<a9r (rbN l i) l then i+1 else rbN l i
theorem b4h(l:List Int):∀i,rbN l i≤i
 |0=>a34 _
 |i+1=>by
  have:=b4h l i
  simp only[rbN]
  split<;>omega
theorem b3l{k:Nat}(h:k≤25)(f:l.all a0A=true)(g:l.length<10000):a3u ((k:Int),l)=some ((a9r k l:Nat):Int):=b4X h f g
theorem c3o{a b:Nat}(h:a<b):decide ((a:Int)<(b:Int))=true:=decide_eq_true (by omega)
theorem b4w{a b:Nat}(h:¬ a<b):decide ((a:Int)<(b:Int))=false:=decide_eq_false (by omega)
theorem b4i(g:l.all a0A=true)(h:l.length<10000):a9P l=some ((rbN l 25:Nat):Int):=by
 have:=a0Q (f:=a7z) (fun i:Nat=>(l,((rbN l i:Nat):Int),((a9r (rbN l i) l:Nat):Int),((i+1:Nat):Int),())) 25 (b:=(((rbN l 25:Nat):Int),()))
  (fun i n=>by
   have a:decide (((i+1:Nat):Int)≤25)=true:=decide_eq_true (by omega);have d:wrap .i64 (((i+1:Nat):Int)+1)=((i+1+1:Nat):Int):=a0B (by omega);have c:=b3l (k:=i+1) (by omega) g h
   by_cases hlt:a9r (i+1) l<a9r (rbN l i) l
   simp_all[a7z,rbN];simp only[a7z,a,cT,cF,c,oB,d,b4w hlt,rbN,hlt,if_false])
  (by
   rfl)
 have m:=b3l (k:=0) (by omega) g h;have j:((0+1:Nat):Int)=1:=rfl;have e:rbN l 0=0:=rfl;simp_all[a9P]
theorem b2g(a:l.all a0A=true)(g:l.length<10000):a8l l=some ((rbN l 25:Nat):Int):=by
 have:=a0Q (f:=a6r) (fun i:Nat=>(l,((rbN l i:Nat):Int),((i+1:Nat):Int),())) 25 (b:=(((rbN l 25:Nat):Int),()))
  (fun i n=>by
   have c:decide (((i+1:Nat):Int)≤25)=true:=decide_eq_true (by omega);have e:wrap .i64 (((i+1:Nat):Int)+1)=((i+1+1:Nat):Int):=a0B (by omega);have d:=a7P (k:=i+1) (by omega) a g;have h:=a7P (k:=rbN l i) (by grind[b4h]) a g
   by_cases hlt:a9r (i+1) l<a9r (rbN l i) l
   simp_all[a6r,rbN];simp only[a6r,c,cT,cF,d,h,oB,e,b4w hlt,rbN,hlt,if_false])
  (by
   rfl)
 have m:((0+1:Nat):Int)=1:=rfl;have j:rbN l 0=0:=rfl;simp_all[a8l]
def a7Q(l:List Int):Int:=if 5+a0J l*l.length<a9r (rbN l 25) l then 31 else((rbN l 25:Nat):Int)
theorem c3p(l:List Int):kB (a7Q l)=true:=by
 have:=b4h l 25
 unfold a7Q;split;rfl;simp only[kB,a55,bA,dT];omega
theorem b6I(g:l.all a0A=true)(h:l.length<10000):a7A l=some (a7Q l):=by
 have a:=b4h l 25;have f:=b3l (k:=rbN l 25) a g h;unfold a7A a7Q
 by_cases hlt:5+a0J l*l.length<a9r (rbN l 25) l
 simp only[b4i g h,b1D h,f,oB,c3o hlt,cT,hlt,if_true];simp only[b4i g h,b1D h,f,oB,b4w hlt,cF,hlt,if_false]
theorem b3m(g:l.length<10000):a2r ((31:Int),l)=some ((5+a0J l*l.length:Nat):Int):=by
 have f:=b4c (a2H l) g;have h:((31:Int)==31)=true:=rfl;unfold a2r;simp only[h,cT,a7t (show short l by unfold short;omega),oB]
 grind[a0G]
theorem c0D(g:l.all a0A=true)(h:l.length<10000):b1a l=some (a7Q l):=by
 have a:=b4h l 25;have f:=a7P (k:=rbN l 25) a g h;unfold b1a a7Q
 by_cases hlt:5+a0J l*l.length<a9r (rbN l 25) l
 simp only[b2g g h,b3m h,f,oB,c3o hlt,cT,hlt,if_true];simp only[b2g g h,b3m h,f,oB,b4w hlt,cF,hlt,if_false]
def a1m:List Nat→List Int→List Int
 | [],_=>[]
 |z::zs,l=>a7Q (l.take z)::a1m zs (l.drop z)
theorem b2L:∀zs l,(a1m zs l).length=zs.length
 | [],_=>rfl
 |z::zs,l=>by simp[a1m,b2L zs]
theorem b6J:∀zs l,(a1m zs l).all kB=true
 | [],_=>rfl
 |z::zs,l=>by simp[a1m,b6J zs,c3p]
theorem b3C{zn:List Nat}{n warm most least order:Int}{L:List Int}{a b:Prt}(m:zn.length≤256):∀(j i:Nat)(rest ks:List Int),i+j=zn.length→(zn.drop i).sum=rest.length→rest.all a0A=true→rest.length≤5000→ks.length=i→
  y0s a7a (n,warm,most,L,least,order,rest,((zn.length:Nat):Int),(i:Int),a1i zn,a,b,(order,ks,()),())=some (n,warm,most,L,least,order,a,b,(order,ks++a1m (zn.drop i) rest,()),())
 |0,i,rest,ks,h,_,_,_,_=>by
  obtain rfl:i=zn.length:=by omega
  simp_all[a0D,a7a,a1m]
 |j+1,i,rest,ks,h,hr,hwr,hr5,hki=>by
  have g:i<zn.length:=by omega
  rw[a7u g]at hr;have k:decide ((0:Int)≤(i:Int))=true:=by simp
  have c:decide ((i:Int)<(((a1i zn).length:Nat):Int))=true:=by simp_all[a0X]
  have d:decide ((0:Int)≤((zn[i]:Nat):Int))=true:=by simp
  have e:decide (((zn[i]:Nat):Int)≤((rest.length:Nat):Int))=true:=by grind
  have l:=b6I (a9H hwr zn[i]) (by grind);have f:lim (ks.length+1)=true:=a0I (by omega);rw[a00 g,a0E (s':=(n,warm,most,L,least,order,rest.drop zn[i],((zn.length:Nat):Int),((i+1:Nat):Int),a1i zn,a,b,(order,ks++[a7Q (rest.take zn[i])],()),())) (by
   simp only[a7a,dlt g,k,c,a3f g,d,e,cT,a02,tN,l,oB,f,a18,a0B (show i<1000000 by omega),a05])]
  rw[b3C m j (i+1) _ _ (by omega) (by grind) (b5y hwr _) (by grind) (by simp_all)];simp_all[a1m]
theorem b0X{zn:List Nat}{n warm most least order:Int}{l:List Int}{a b:Prt}(u:zn.length≤256)(c:l.all a0A=true)(r:l.length≤5000):∀(j i off:Nat)(ks:List Int),i+j=zn.length→off+(zn.drop i).sum=l.length→ks.length=i→
  y0s a4b (n,warm,most,l,least,order,(off:Int),(i:Int),a1i zn,a,b,(order,ks,()),())=some (n,warm,most,l,least,order,a,b,(order,ks++a1m (zn.drop i) (l.drop off),()),())
 |0,i,off,ks,h,_,_=>by
  obtain rfl:i=zn.length:=by omega
  simp_all[a0D,a4b,a0X,a1m]
 |j+1,i,off,ks,h,hr,hki=>by
  have f:i<zn.length:=by omega
  rw[a7u f]at hr;have e:decide ((0:Int)≤(i:Int))=true:=by simp
  have m:decide ((i:Int)<(((a1i zn).length:Nat):Int))=true:=by simp_all[a0X]
  have d:wrap .i64 ((off:Int)+((zn[i]:Nat):Int))=((off+zn[i]:Nat):Int):=by grind[a0G]
  have o:decide ((0:Int)≤((off+zn[i]:Nat):Int))=true:=by rfl
  have p:decide (((off+zn[i]:Nat):Int)≤((l.length:Nat):Int))=true:=by grind
  have q:decide ((0:Int)≤(off:Int))=true:=by simp
  have s:decide ((off:Int)≤((off+zn[i]:Nat):Int))=true:=by grind
  have g:a69 off (a48 (off+zn[i]) l)=(l.drop off).take zn[i]:=by grind
  have t:=c0D (a9H (b5y c off) zn[i]) (by grind);have k:lim (ks.length+1)=true:=a0I (by omega);rw[a00 f,a0E (s':=(n,warm,most,l,least,order,((off+zn[i]:Nat):Int),((i+1:Nat):Int),a1i zn,a,b,(order,ks++[a7Q ((l.drop off).take zn[i])],()),())) (by
   simp only[a4b,e,m,a3f f,d,o,p,q,s,cT,a02,tN,g,t,oB,k,a0B (show i<1000000 by omega),a05])]
  rw[b0X u c r j (i+1) _ _ (by omega) (by omega) (by simp_all)];simp_all[a1m]
theorem b6K(g:kB k=true)(a:l.all a0A=true)(h:l.length<10000):∃d:Nat,a2r (k,l)=some (d:Int)∧a8u k l=5+d:=by
 by_cases h31:k=31
 subst h31;exact⟨_,b3m h,by rfl⟩;have f:(k==31)=false:=by simp_all
 simp[kB]at g;obtain⟨K,rfl⟩:=a03 (show 0≤k by omega);have b:=a7P (k:=K) (by omega) a h;exact⟨a9r K l,by unfold a2r;grind,by unfold a8u;rw[if_neg h31];rfl⟩
theorem a9s{zn:List Nat}{p:Prt}{l:List Int}(z:p.2.1.length=zn.length)(h:p.2.1.all kB=true)(B:zn.length≤256)(m:l.all a0A=true)(b:l.length≤5000):∀(j i off:Nat)(c:Nat),i+j=zn.length→off+(zn.drop i).sum=l.length→c+10*j+65*(l.length-off)<1000000→
  y0s a2g (l,(c:Int),(off:Int),(i:Int),a1i zn,p,())=some (((c+a1X (zn.drop i) (p.2.1.drop i) (l.drop off):Nat):Int),())
 |0,i,off,c,hi,_,_=>by
  obtain rfl:i=zn.length:=by omega
  simp_all[a0D,a2g,a0X,a1X]
 |j+1,i,off,c,hi,hsum,hb=>by
  have k:i<zn.length:=by omega
  have f:i<p.2.1.length:=by omega
  have a:=lA.1 h _ (a04 f);rw[a7u k]at hsum;have r:decide ((0:Int)≤(i:Int))=true:=by simp
  have s:decide ((i:Int)<(((a1i zn).length:Nat):Int))=true:=by simp_all[a0X]
  have q:wrap .i64 ((off:Int)+((zn[i]:Nat):Int))=((off+zn[i]:Nat):Int):=by grind[a0G]
  have t:decide ((0:Int)≤((off+zn[i]:Nat):Int))=true:=by rfl
  have u:decide (((off+zn[i]:Nat):Int)≤((l.length:Nat):Int))=true:=by grind
  have v:decide ((0:Int)≤(off:Int))=true:=by simp
  have w:decide ((off:Int)≤((off+zn[i]:Nat):Int))=true:=by grind
  have g:a69 off (a48 (off+zn[i]) l)=(l.drop off).take zn[i]:=by grind
  have e:((l.drop off).take zn[i]).length=zn[i]:=by rw[a32,a37];omega
  obtain⟨d,x,y⟩:=b6K a (a9H (b5y m off) zn[i]) (by omega);have A:=c0C a ((l.drop off).take zn[i]);have n:wrap .i64 ((c:Int)+5)=((c+5:Nat):Int):=by rw[a0G (by omega)];rfl
  have o:wrap .i64 (((c+5:Nat):Int)+(d:Int))=((c+5+d:Nat):Int):=by rw[a0G (by omega)];rfl
  rw[a0E (s':=(l,((c+5+d:Nat):Int),((off+zn[i]:Nat):Int),((i+1:Nat):Int),a1i zn,p,())) (by
   simp only[a2g,r,s,a3f k,q,t,u,v,w,cT,a02,tN,a0C f,oB,g,x,n,o,a0B (show i<1000000 by omega)]),
   a9s z h B m b j (i+1) (off+zn[i]) _ (by omega) (by omega) (by omega),
   a00 k,a00 f]
  simp only[a1X,List.drop_drop];congr 3;omega
theorem b5D(h:PartsOk p n warm l zn):a2c (p,n,warm,l)=some ((4+a1X zn p.2.1 l:Nat):Int):=by
 have k:Go.Ab.short p.2.1:=by have:=h.ks;have:=h.len;unfold Go.Ab.short;omega
 have b:Go.Ab.short l:=by have:=h.short;unfold Go.Ab.short;omega
 have c:=h.short;have d:=h.len;have a:=h.row;simp[a2L]at a;have e:wrap .i64 (n-warm)=n-warm:=a0G (by omega);have f:(((l.length:Nat):Int) != n-warm)=false:=by rw[h.rest];simp
 have g:=a9s h.ks h.all h.len h.wide h.short zn.length 0 0 4 (by omega) (by rw[a08,h.sum];omega) (by omega);simp only[nZ,a64,a08]at g;unfold a2c;simp only[a5y k,h.may,oB,bT,cF,e,f,a0N b,h.wide,a1T,h.sizes,g]
theorem b4j{o:Int}(h:(a1l o n warm).length=0):a2c ((o,([]:List Int),()),n,warm,l)=some 0:=by
 have g:a2G (o,([]:List Int),()) n warm=false:=by simp[a2G,h]
 unfold a2c;simp only[a5y (p:=(o,([]:List Int),())) (by simp[short]),g,oB,a16,cT]
def zsN(o n warm:Int):List Nat:=(a1l o n warm).map a38
def a8v(o n warm:Int)(l:List Int):Prt:=(o,a1m (zsN o n warm) l,())
def b3n(o n warm:Int)(l:List Int):Nat:=4+a1X (zsN o n warm) (a1m (zsN o n warm) l) l
def a0U(n warm:Int)(l:List Int):Nat→Prt×Nat
 |0=>((0,[],()),0)
 |i+1=>if(a1l (i:Int) n warm).length=0 then a0U n warm l i else
   if(a0U n warm l i).2=0∨b3n (i:Int) n warm l<(a0U n warm l i).2 then(a8v (i:Int) n warm l,b3n (i:Int) n warm l)else a0U n warm l i
def b2h(n warm:Int)(l:List Int):Prt:=(a0U n warm l 7).1
theorem b7z(b:(a1l (o:Int) n warm).length≠0)(a:(l.length:Int)=n-warm)(c:l.all a0A=true)(k:l.length≤5000):
  ∃h,a1l (o:Int) n warm=a1i h∧zsN (o:Int) n warm=h∧h.length≤256∧h.sum=l.length∧a2G (a8v (o:Int) n warm l) n warm=true∧PartsOk (a8v (o:Int) n warm l) n warm l h:=by
 obtain⟨h,e,i,j⟩:=b2v b;have d:zsN (o:Int) n warm=h:=by simp_all[zsN,b2w]
 have hp:a2G (a8v (o:Int) n warm l) n warm=true:=by
  simp only[a2G,a8v,bA,a41,beq_eq_false_iff_ne,ne_eq,beq_iff_eq];simp_all[a0X,b2L,b6J]
 obtain⟨f,g⟩:=PartsOk.of hp a c k
 have:f=h:=by
  have m:=g.sizes
  grind[a8v,b2w]
 grind
theorem b3o{n warm:Int}{l:List Int}(b:a2L n warm=true)(f:(l.length:Int)=n-warm)(a:l.all a0A=true)(g:l.length≤5000):∀i,1≤i→(a0U n warm l i).2≠0∧a2G (a0U n warm l i).1 n warm=true
 |0,h=>absurd h (by omega)
 |i+1,_=>by
  by_cases hs:(a1l (i:Int) n warm).length=0
  ·simp only[a0U,hs,if_true];cases i with
   |zero=>grind[c3i]
   |succ i=>exact b3o b f a g (i+1) (by omega)
  ·obtain⟨c,-,-,-,-,hp,-⟩:=b7z hs f a g;simp only[a0U,hs,if_false];split;simp_all[b3n]
   ·rename_i k;cases i with
    |zero=>exact absurd (Or.inl rfl) k
    |succ i=>exact b3o b f a g (i+1) (by omega)
theorem c4N(f:a2L n warm=true)(g:(l.length:Int)=n-warm)(k:l.all a0A=true)(h:l.length≤5000):a2G (b2h n warm l) n warm=true:=
 (b3o f g k h 7 (by omega)).2
theorem b8O(A:a2L n warm=true)(x:(l.length:Int)=n-warm)(t:l.all a0A=true)(s:l.length≤5000):
  a8K (n,warm,(6:Int),l)=some (b2h n warm l,0):=by
 have:=a0Q (f:=a3J) (fun i:Nat=>(n,warm,(6:Int),l,(((a0U n warm l i).2:Nat):Int),(i:Int),((0:Int),([]:List Int),()),(a0U n warm l i).1,())) 7 (b:=(((0:Int),([]:List Int),()),b2h n warm l,()))
  (fun i z=>by
   have j:decide ((i:Int)≤v0s (v0r 6 0) 8)=true:=decide_eq_true (by have:v0s (v0r 6 0) 8=6:=rfl;omega);have r:wrap .i64 ((i:Int)+1)=((i+1:Nat):Int):=a0B (by omega)
   by_cases hs:(a1l (i:Int) n warm).length=0
   simp_all[a0U,a3J,a2F];have hb:((((a1l (i:Int) n warm).length:Nat):Int)==0)=false:=by simp_all
   obtain⟨h,p,o,w,y,-,q⟩:=b7z hs x t s;have d:=b3C (n:=n) (warm:=warm) (most:=6) (least:=(((a0U n warm l i).2:Nat):Int)) (order:=(i:Int)) (L:=l) (a:=((0:Int),([]:List Int),())) (b:=(a0U n warm l i).1) w h.length 0 l [] (by omega) (by simp_all) t s rfl;simp at d;have e:=b8M q;simp only[a8v,o]at e;have k:(((h.length:Nat):Int)==0)=false:=by simp_all[a0X]
   have m:(((a1i h).length:Nat):Int)=((h.length:Nat):Int):=by rw[a0X]
   have v:a8v (i:Int) n warm l=((i:Int),a1m h l,()):=by simp only[a8v,o]
   have u:b3n (i:Int) n warm l=4+a1X h (a1m h l) l:=by simp only[b3n,o]
   by_cases hz:(a0U n warm l i).2=0
   have g:((((a0U n warm l i).2:Nat):Int)==0)=true:=by simp_all
   have c:a0U n warm l (i+1)=(((i:Int),a1m h l,()),4+a1X h (a1m h l) l):=by simp_all[a0U]
   simp only[a3J,j,cT,a2F,oB,p,m,k,cF,d,e,r,c,g];have g:((((a0U n warm l i).2:Nat):Int)==0)=false:=by simp_all
   by_cases hlt:4+a1X h (a1m h l) l<(a0U n warm l i).2
   have c:a0U n warm l (i+1)=(((i:Int),a1m h l,()),4+a1X h (a1m h l) l):=by simp_all[a0U]
   simp only[a3J,j,cT,a2F,oB,p,m,k,cF,d,e,r,c,g,c3o hlt];have c:a0U n warm l (i+1)=a0U n warm l i:=by simp only[a0U,hs,if_false,hz,false_or,v,u,hlt]
   simp only[a3J,j,cT,a2F,oB,p,m,k,cF,d,e,r,c,g,b4w hlt])
  (by
   rfl)
 simp_all[a0U,a8K,a9F]
theorem b5E(t:a2L n warm=true)(z:(l.length:Int)=n-warm)(p:l.all a0A=true)(s:l.length≤5000):
  a7K (n,warm,(6:Int),l)=some (b2h n warm l,0):=by
 have:=a0Q (f:=a3d) (fun i:Nat=>(n,warm,(6:Int),l,(((a0U n warm l i).2:Nat):Int),(i:Int),((0:Int),([]:List Int),()),(a0U n warm l i).1,())) 7 (b:=(((0:Int),([]:List Int),()),b2h n warm l,()))
  (fun i D=>by
   have q:decide ((i:Int)≤v0s (v0r 6 0) 8)=true:=decide_eq_true (by have:v0s (v0r 6 0) 8=6:=rfl;omega);have u:wrap .i64 ((i:Int)+1)=((i+1:Nat):Int):=a0B (by omega)
   by_cases hs:(a1l (i:Int) n warm).length=0
   have A:a1l (i:Int) n warm=[]:=a52.1 hs;have c:y0s a4b (n,warm,(6:Int),l,(((a0U n warm l i).2:Nat):Int),(i:Int),(0:Int),(0:Int),([]:List Int),((0:Int),([]:List Int),()),(a0U n warm l i).1,((i:Int),([]:List Int),()),())=some (n,warm,(6:Int),l,(((a0U n warm l i).2:Nat):Int),(i:Int),((0:Int),([]:List Int),()),(a0U n warm l i).1,((i:Int),([]:List Int),()),()):=a0D (by rfl);have d:=b4j (l:=l) hs;have C:decide ((0:Int) > 0)=false:=rfl;simp_all[a0U,a3d,a1T];obtain⟨h,r,j,x,B,-,m⟩:=b7z hs z p s;have c:=b0X (n:=n) (warm:=warm) (most:=6) (least:=(((a0U n warm l i).2:Nat):Int)) (order:=(i:Int)) (a:=((0:Int),([]:List Int),())) (b:=(a0U n warm l i).1) x p s h.length 0 0 [] (by omega) (by simp_all) rfl;simp at c;have d:=b5D m;simp only[a8v,j]at d;have hp:decide (((4+a1X h (a1m h l) l:Nat):Int) > 0)=true:=decide_eq_true (by omega);have w:a8v (i:Int) n warm l=((i:Int),a1m h l,()):=by simp only[a8v,j]
   have v:b3n (i:Int) n warm l=4+a1X h (a1m h l) l:=by simp only[b3n,j]
   by_cases hz:(a0U n warm l i).2=0
   have g:((((a0U n warm l i).2:Nat):Int)==0)=true:=by simp_all
   have k:a0U n warm l (i+1)=(((i:Int),a1m h l,()),4+a1X h (a1m h l) l):=by simp_all[a0U]
   simp_all[a3d,a1T];have g:((((a0U n warm l i).2:Nat):Int)==0)=false:=by simp_all
   by_cases hlt:4+a1X h (a1m h l) l<(a0U n warm l i).2
   have k:a0U n warm l (i+1)=(((i:Int),a1m h l,()),4+a1X h (a1m h l) l):=by simp_all[a0U]
   simp only[a3d,q,cT,a1T,oB,r,cF,c,d,hp,u,k,g,c3o hlt];have k:a0U n warm l (i+1)=a0U n warm l i:=by simp only[a0U,hs,if_false,hz,false_or,w,v,hlt]
   simp only[a3d,q,cT,a1T,oB,r,cF,c,d,hp,u,k,g,b4w hlt])
  (by
   rfl)
 have o:=t;simp[a2L]at o;have e:wrap .i64 (n-warm)=n-warm:=a0G (by omega);have y:(((l.length:Nat):Int) != n-warm)=false:=by simp_all
 simp[a0U]at this;unfold a7K;simp only[b6p,t,oB,bT,cF,e,y,a0N (show short l by unfold short;omega),p,this]
def a0O(k:Int)(s:Sub):Sub:=
 (k,(0:Int),(if k=2 then s.2.2.1 else 0),(if k=3∨k=4 then s.2.2.2.1 else 0),(if k=4 then s.2.2.2.2.1 else 0),(if k=3∨k=4 then s.2.2.2.2.2.1 else[]),
  ((if k=4 then s.2.2.2.2.2.2.1 else a01 3 (0:Int)),(if k=5 then s.2.2.2.2.2.2.2.1 else[]),([]:List Int),((0:Int),([]:List Int),()),([]:List Int),()))
def z0:Prt:=((0:Int),([]:List Int),())
def a1w(s:Sub)(w:Nat)(wm:List Int)(p:Prt)(r:List Int):Sub:=
 (s.1,(w:Int),s.2.2.1,s.2.2.2.1,s.2.2.2.2.1,s.2.2.2.2.2.1,s.2.2.2.2.2.2.1,s.2.2.2.2.2.2.2.1,wm,p,r,())
theorem c4j(h:SmallS s)(k:Int):a5T (k,s)=some (a0O k s):=by
 have f:short s.2.2.2.2.2.1:=by have:=h.coefs;unfold short;omega
 have g:short s.2.2.2.2.2.2.2.1:=by have:=h.stages;unfold short;omega
 grind[a5T,a0O,b3b,b4R]
theorem b4k(h:SmallS s)(k:Int):SmallS (a0O k s):=by
 have g:=h.coefs;have f:=h.taps;have a:=h.stages;refine⟨?_,?_,?_,by simp[a0O],by simp[a0O],by simp[a0O]⟩<;>simp only[a0O]<;>split<;>first|omega|simp
theorem b3p{s:Sub}{k n:Int}:a2z (a0O k s).1 (a0O k s) n↔a2z k s n:=by
 unfold a2z a0O
 grind
open Classical in
def a1J (l:List Int):Nat:=if h:∃w,a6W l w then h.choose else 0
theorem c1W{l:List Int}{w:Nat}(h:a6W l w):a1J l=w:=by
 unfold a1J;rw[dif_pos ⟨w,h⟩];exact(Classical.choose_spec (⟨w,h⟩:∃w,a6W l w)).unique h
def a0T(l:List Int):List Int:=l.map fun x=>A0o .i64 x (a1J l:Int)
theorem a6X(h:short l)(g:l.all a0A=true):a3I l=some ((a1J l:Nat):Int)∧a1J l≤30∧a6W l (a1J l):=by
 grind[b5B,c1W]
theorem b4l(h:short l)(g:l.all a0A=true):a5E l=some ((a1J l:Nat):Int):=by
 grind[b8L,c1W]
theorem a4i(a:l.length≤4096)(f:l.all a0A=true):a9p ((a1J l:Nat):Int) l=some (a0T l)∧(a0T l).all a0A=true∧(a0T l).length=l.length∧upO ((a1J l:Nat):Int) (a0T l)=some l:=by
 obtain⟨-,g,k⟩:=a6X (show short l by unfold short;omega) f;have h:=c6m g f k;exact⟨h,c6k g h⟩
theorem b4Y(q:l.length≤4096)(g:l.all a0A=true):b0E (l,((a1J l:Nat):Int))=some (a0T l,0):=by
 have h:short l:=by unfold short;omega
 have n:=b4l h g;obtain⟨-,p,-⟩:=a6X h g;have k:decide (((a1J l:Nat):Int)<0)=false:=by simp
 have j:decide (((a1J l:Nat):Int) > 30)=false:=by grind
 have m:decide (((a1J l:Nat):Int)<((a1J l:Nat):Int))=false:=by simp
 have d:wrap .u64 ((a1J l:Nat):Int)=((a1J l:Nat):Int):=a1c (by omega)
 have:=a0Q (f:=a8U) (fun i:Nat=>(l,((a1J l:Nat):Int),(i:Int),(a0T l).take i,())) l.length (b:=(a0T l,()))
  (fun i a=>by
   have c:(a0T l).length=l.length:=by simp[a0T]
   have o:lim (((a0T l).take i).length+1)=true:=a0I (by grind);have e:(a0T l).take i++[A0o .i64 l[i] ((a1J l:Nat):Int)]=(a0T l).take (i+1):=by
    grind[a8F,a0T]
   simp only[a8U,dlt a,cT,a0C a,oB,d,k,cF,o,a05,e,a0B (show i<1000000 by omega)])
  (by simp_all[a8U,a09,a0T])
 simp at this;unfold b0E;simp only[k,j,cF,oB,a0N h,g,bT,n,m,this]
theorem b8P{o:Int}(n:short d):y0s a3A (l,o,d,k,(1:Int),([]:List Int),())=some (l,o,k,dif d,()):=by
 have p:d.length<1000000:=n
 have:=a0Q (f:=a3A) (fun i:Nat=>(l,o,d,k,((i+1:Nat):Int),(dif d).take i,())) (d.length-1) (b:=(l,o,k,dif d,()))
  (fun i r=>by
   have h:i+1<d.length:=by omega
   have g:i<d.length:=by omega
   have j:lim (((dif d).take i).length+1)=true:=a0I (by grind);have c:wrap .i64 (((i+1:Nat):Int)-1)=(i:Int):=by grind[a0G]
   have q:=b4u d i _ _ (lG g) (lG h);have m:i<(dif d).length:=by grind
   have e:(dif d).take i++[wrap .i64 (d[i+1]-d[i])]=(dif d).take (i+1):=by
    grind[a8F]
   simp only[a3A,dlt h,cT,a0C h,c,a0C g,oB,j,a05,e,a0B (show i+1<1000000 by omega)])
  (by
   have a:decide (((d.length-1+1:Nat):Int)<((d.length:Nat):Int))=false:=decide_eq_false (by omega);simp only[a3A,a,cF];simp_all[a09,a6z])
 simp_all
theorem b1F(r:o≤4)(q:o≤l.length)(g:short l)(n:l.all a0A=true):
  a2h (l,(o:Int))=some (bif (a1D o l).all a0A then(a1D o l,0)else([],6)):=by
 have m:l.length<1000000:=g;have h:=a0Q (f:=a5k) (fun k:Nat=>(l,(o:Int),a1D k l,(k:Int),())) o (b:=(l,a1D o l,()))
  (fun k p=>by
   have a:decide ((k:Int)<(o:Int))=true:=by simp_all
   simp only[a5k,a,cT,b8P (a9o g k),oB,a0B (show k<1000000 by omega),a1D])
  (by
   have a:decide ((o:Int)<(o:Int))=false:=by simp
   simp_all[a5k])
 have c:decide ((o:Int)<0)=false:=by simp
 have d:decide ((o:Int) > 4)=false:=by grind
 have e:decide (((l.length:Nat):Int)<(o:Int))=false:=by simp_all
 have i:lim (0+l.length)=true:=a7o (by omega);simp at h;have j:a1D 0 l=l:=rfl;rw[j]at h;unfold a2h;simp only[c,d,e,i,cF,cT,oB,a05,a17,h,a0N g,n,bT,a0N (a9o g o)]
 grind
def a2K(k:Int)(s:Sub)(d:List Int):Option (List Int×List Int):=
 if k=2 then(bif (a1D s.2.2.1.toNat d).all a0A then some (d.take s.2.2.1.toNat,a1D s.2.2.1.toNat d)else none)
 else if k=3 then(b0B d s.2.2.2.2.2.1 s.2.2.2.1).map fun r=>(d.take s.2.2.2.2.2.1.length,r)
 else if k=4 then(a7w d s.2.2.2.2.1 s.2.2.2.2.2.2.1).bind fun x=>(b0B x s.2.2.2.2.2.1 s.2.2.2.1).map fun r=>(x.take s.2.2.2.2.2.1.length,r)
 else(a7O d s.2.2.2.2.2.2.2.1).map fun r=>([],r)
theorem b5F(j:k=2∨k=3∨k=4∨k=5)(i:a2z k s (d.length:Int))(n:d.all a0A=true)(h:a2K k s d=some (wm,r)):
  wm.length≤d.length∧r.length=d.length-wm.length∧r.all a0A=true∧wm.all a0A=true:=by
 have f:=i;simp only[a2z]at f;rcases j with rfl|rfl|rfl|rfl
 ·have:0≤s.2.2.1∧s.2.2.1≤(d.length:Int):=by omega
  simp[a2K]at h;cases hq:(a1D s.2.2.1.toNat d).all a0A with
  |false=>simp_all
  |true=>
   simp[hq]at h;obtain⟨rfl,rfl⟩:=h;simp_all[a4k,a9H]
 have:(s.2.2.2.2.2.1.length:Int)≤(d.length:Int):=by omega
 simp only[a2K,show ¬ (3:Int)=2 by simp,if_false,if_true,a19,pJ]at h;obtain⟨c,g,rfl,rfl⟩:=h;obtain⟨-,a,b⟩:=b3j g
 grind
 have:(s.2.2.2.2.2.1.length:Int)≤(d.length:Int):=by omega
 simp only[a2K,show ¬ (4:Int)=2 by simp,show ¬ (4:Int)=3 by simp,if_false,if_true,a39,a19,pJ]at h;obtain⟨x,e,c,g,rfl,rfl⟩:=h;obtain⟨-,l,m⟩:=a8G e;obtain⟨-,a,b⟩:=b3j g
 grind
 simp only[a2K,show ¬ (5:Int)=2 by simp,show ¬ (5:Int)=3 by simp,show ¬ (5:Int)=4 by simp,if_false,a19,pJ]at h;obtain⟨c,g,rfl,rfl⟩:=h;obtain⟨-,a,b⟩:=b6C g;simp_all
theorem c4O(v:k=2∨k=3∨k=4∨k=5)(h:SmallS s)(q:a2z k s (d.length:Int))(D:d.length≤4096)(y:d.all a0A=true)(w:Nat):
  a9O (a1w (a0O k s) w [] z0 [],d)=some (match a2K k s d with|none=>(6,a1w (a0O k s) w [] z0 [])|some (wm,r)=>(0,a1w (a0O k s) w wm z0 r)):=by
 have l:=h.taps;have g:=h.stages;have i:short d:=by unfold short;omega
 obtain⟨k',w',o,sh,lag,c,t,st,z,p,E,u⟩:=s;simp only[a2z]at q l g;unfold a9O;rcases v with rfl|rfl|rfl|rfl;obtain⟨n,C,e⟩:0≤o∧o≤4∧o≤(d.length:Int):=by omega
 obtain⟨O,rfl⟩:=a03 n;have g:short (d.take O):=by unfold short;grind
 have j:decide ((O:Int)≤((d.length:Nat):Int))=true:=by simp_all
 simp only[a1w,a0O,a2K,if_true,show((2:Int)==2)=true from rfl,cT,b0R (show O≤4 by omega) (show O≤d.length by omega) i y,oB,tN]
 grind[b1U,a0W,a7r]
 ·obtain⟨f,e⟩:a6d c sh=true∧(c.length:Int)≤(d.length:Int):=by simp_all
  have g:short (d.take c.length):=by unfold short;grind
  have m:decide ((0:Int)≤((c.length:Nat):Int))=true:=by simp
  have j:decide (((c.length:Nat):Int)≤((d.length:Nat):Int))=true:=by simp_all
  simp only[a1w,a0O,a2K,show((3:Int)==2)=false from rfl,show((3:Int)==3)=true from rfl,show ¬ (3:Int)=2 by simp,show ¬ (3:Int)=4 by simp,show ¬ (3:Int)=5 by simp,true_or,if_true,if_false,cT,cF,b2K f (show c.length≤d.length by omega) (show d.length<100000 by omega),oB];cases b0B d c sh with
  |none=>rfl
  |some r=>simp_all[a1q,b1U,a0W,a7r]
 ·obtain⟨f,e,a⟩:a6d c sh=true∧(c.length:Int)≤(d.length:Int)∧a4P lag t=true:=by simp_all
  simp[a1w,a0O,a2K,b1C a l (show d.length<100000 by omega)];cases hx:a7w d lag t with
  |none=>rfl
  |some x=>
   obtain⟨-,A,B⟩:=a8G hx;have g:short (x.take c.length):=by unfold short;grind
   have m:decide ((0:Int)≤((c.length:Nat):Int))=true:=by simp
   have j:decide (((c.length:Nat):Int)≤((x.length:Nat):Int))=true:=by simp_all
   simp[a1q,b2K f (show c.length≤x.length by omega) (show x.length<100000 by omega)]
   grind[b1U,a0W,a7r]
 ·obtain⟨e,b⟩:0<st.length∧a4I st=true:=by simp_all
  have g:short (d.take 0):=by simp[short]
  simp only[a1w,a0O,a2K,show((5:Int)==2)=false from rfl,show((5:Int)==3)=false from rfl,show((5:Int)==4)=false from rfl,show((5:Int)==5)=true from rfl,show ¬ (5:Int)=2 by simp,show ¬ (5:Int)=3 by simp,show ¬ (5:Int)=4 by simp,or_self,if_true,if_false,cT,cF,b8K b (show d.length<100000 by omega),oB];cases a7O d st with
  |none=>rfl
  |some r=>
   rfl
theorem c6n(A:k=2∨k=3∨k=4∨k=5)(h:SmallS s)(z:a2z k s (d.length:Int))(G:d.length≤4096)(B:d.all a0A=true)(w:Nat):
  (a2K k s d=none→∃a b,a8Y (a1w (a0O k s) w [] z0 [],d)=some (a,b,6))∧
   (∀e r,a2K k s d=some (e,r)→a8Y (a1w (a0O k s) w [] z0 [],d)=some (e,r,0)):=by
 have v:=h.taps;have q:=h.stages;have n:short d:=by unfold short;omega
 obtain⟨k',w',o,sh,lag,c,t,st,C,p,H,u⟩:=s;simp only[a2z]at z v q;unfold a8Y;rcases A with rfl|rfl|rfl|rfl
 ·obtain⟨y,F,m⟩:0≤o∧o≤4∧o≤(d.length:Int):=by omega
  obtain⟨O,rfl⟩:=a03 y;have g:decide ((0:Int)≤(O:Int))=true:=by simp
  have f:decide ((O:Int)≤((d.length:Nat):Int))=true:=by simp_all
  simp only[a1w,a0O,a2K,if_true,show((2:Int)==2)=true from rfl,cT,b1F (show O≤4 by omega) (show O≤d.length by omega) n B,oB,tN,g,f,a02];cases (a1D O d).all a0A with
  |false=>simp
  |true=>simp
 ·obtain⟨i,m⟩:a6d c sh=true∧(c.length:Int)≤(d.length:Int):=by simp_all
  have g:decide ((0:Int)≤((c.length:Nat):Int))=true:=by simp
  have f:decide (((c.length:Nat):Int)≤((d.length:Nat):Int))=true:=by simp_all
  simp only[a1w,a0O,a2K,show((3:Int)==2)=false from rfl,show((3:Int)==3)=true from rfl,show((3:Int)==4)=false from rfl,show ¬ (3:Int)=2 by simp,show ¬ (3:Int)=4 by simp,show ¬ (3:Int)=5 by simp,true_or,if_true,if_false,cT,cF,oB,b0V i (show c.length≤d.length by omega) (show d.length<100000 by omega),g,f,a02,tN];cases b0B d c sh with
  |none=>exact⟨fun _=>⟨_,_,rfl⟩,fun _ _ h=>by grind⟩
  |some r=>exact⟨fun h=>(by grind),fun e r h=>by cases h;rfl⟩
 ·obtain⟨i,m,j⟩:a6d c sh=true∧(c.length:Int)≤(d.length:Int)∧a4P lag t=true:=by simp_all
  simp only[a1w,a0O,a2K,show((4:Int)==2)=false from rfl,show((4:Int)==3)=false from rfl,show((4:Int)==4)=true from rfl,show ¬ (4:Int)=2 by simp,show ¬ (4:Int)=3 by simp,show ¬ (4:Int)=5 by simp,or_true,if_true,if_false,cT,cF,oB,a9q j v (show d.length<100000 by omega)];cases hx:a7w d lag t with
  |none=>exact⟨fun _=>⟨_,_,rfl⟩,fun _ _ h=>by grind⟩
  |some x=>
   obtain⟨-,D,E⟩:=a8G hx;have g:decide ((0:Int)≤((c.length:Nat):Int))=true:=by simp
   have f:decide (((c.length:Nat):Int)≤((x.length:Nat):Int))=true:=by simp_all
   simp only[a1q,show((0:Int) != 0)=false from rfl,cF,oB,b0V i (show c.length≤x.length by omega) (show x.length<100000 by omega),g,f,a02,cT,tN];simp_all
 ·obtain⟨m,l⟩:0<st.length∧a4I st=true:=by simp_all
  simp only[a1w,a0O,a2K,show((5:Int)==2)=false from rfl,show((5:Int)==3)=false from rfl,show((5:Int)==4)=false from rfl,show((5:Int)==5)=true from rfl,show ¬ (5:Int)=2 by simp,show ¬ (5:Int)=3 by simp,show ¬ (5:Int)=4 by simp,or_self,if_true,if_false,cT,cF,oB,b5z l (show d.length<100000 by omega)];cases a7O d st with
  |none=>exact⟨fun _=>⟨_,_,rfl⟩,fun _ _ h=>by grind⟩
  |some r=>exact⟨fun h=>(by grind),fun e r h=>by cases h;rfl⟩
open Classical in

def a1e (k:Int) (l:List Int) (s:Sub):Sub×Int:=
 if ¬ (1≤l.length∧l.length≤4096∧a2z k s (l.length:Int))then(a0V 0,1)
 else if l.all a0A=false then(a0V 0,6)
 else if k=0 then(bif l.all (fun x=>x==l.headD 0)then(a1w (a0O 0 s) 0 [l.headD 0] z0 [],0)else(a0V 0,7))
 else if k=1 then(a1w (a0O 1 s) (a1J l) (a0T l) z0 [],0)
 else match a2K k s (a0T l)with
  |none=>(a0V 0,6)
  |some (wm,r)=>(a1w (a0O k s) (a1J l) wm (b2h (l.length:Int) (wm.length:Int) r) r,0)
theorem b6L(h:1≤l.length):m0k l 0=some (l.headD 0):=by
 cases l with
 |nil=>grind
 |cons a l=>rfl
theorem c0E(k:1≤l.length)(c:short l)(a b:Sub):
  y0s a4U (l,l,(l.length:Int),(0:Int),a,b,())=some (bif l.all (fun x=>x==l.headD 0)then .inl (l,a,b,())else .inr ((7:Int),a0V 0,())):=by
 have:=a1y (f:=a4U) l (fun i=>(l,l,(l.length:Int),(i:Int),a,b,())) (fun x=>x==l.headD 0) (bt:=Sum.inl (l,a,b,())) (bf:=Sum.inr ((7:Int),a0V 0,()))
  (fun i h hp=>by
   have g:(l[i] != l.headD 0)=false:=by simp_all
   simp only[a4U,dlt h,cT,a0C h,oB,b6L k,g,cF,a0B (a06 h c)])
  (fun i h hp=>by
   have g:(l[i] != l.headD 0)=true:=by simp_all
   simp only[a4U,dlt h,cT,a0C h,oB,b6L k,g];rfl)
  (by simp[a4U])
 omega
theorem c0F(k:1≤l.length)(c:short l):a9U l=some (l.all (fun x=>x==l.headD 0)):=by
 have b:∀i (h:i<l.length),(l[i]==l.headD 0)=true→a4v (l,(i:Int),())=some (.inl (l,((i+1:Nat):Int),())):=fun i h hp=>by
  have g:(l[i] != l.headD 0)=false:=by simp_all
  simp only[a4v,dlt h,cT,a0C h,oB,b6L k,g,cF,a0B (a06 h c)]
 have:=a1y (f:=a4v) l (fun i=>(l,(i:Int),())) (fun x=>x==l.headD 0) (bt:=Sum.inl ()) (bf:=Sum.inr (false,())) b
  (fun i h hp=>by
   have g:(l[i] != l.headD 0)=true:=by simp_all
   simp only[a4v,dlt h,cT,a0C h,oB,b6L k,g])
  (by simp[a4v])
 rw[a0E (b 0 k (by cases l with|nil=>grind|cons a l=>simp))]at this;unfold a9U
 grind
theorem b2y(h:a2z k s n)(g:k≠0)(f:k≠1):k=2∨k=3∨k=4∨k=5:=by
 rcases h with h|h|⟨h,-⟩|⟨h,-⟩|⟨h,-⟩|⟨h,-⟩;omega;omega
 all_goals omega
theorem c6o(h:SmallS s)(k:Int)(D:l.length≤100000):a8L (k,l,s)=some (a1e k l s):=by
 have j:short l:=by unfold short;omega
 unfold a8L a1e
 by_cases h1:1≤l.length
 rotate_left;have e:decide (((l.length:Nat):Int)<1)=true:=decide_eq_true (by omega);rw[if_pos (fun g=>h1 g.1)];simp only[e,cT,oB];rfl;have a:decide (((l.length:Nat):Int)<1)=false:=decide_eq_false (by omega)
 by_cases h2:l.length≤4096
 rotate_left;have e:decide (((l.length:Nat):Int) > 4096)=true:=decide_eq_true (by omega);rw[if_pos (fun g=>h2 g.2.1)];simp only[a,e,cT,cF,oB];rfl;have o:decide (((l.length:Nat):Int) > 4096)=false:=decide_eq_false (by omega)
 by_cases h3:a2z k s (l.length:Int)
 rotate_left;have b:b2r k s (l.length:Int)=false:=by simp[b2r,h3]
 rw[if_pos (fun g=>h3 g.2.2)];simp only[a,o,b3W h,b,cF,a16,cT,oB];rfl;have b:b2r k s (l.length:Int)=true:=by simp[b2r,h3]
 rw[if_neg (fun g=>g ⟨h1,h2,h3⟩)];simp only[a,o,b3W h,b,cF,bT,oB,a4w j];cases hw:l.all a0A with
 |false=>rfl
 |true=>
  simp only[bT,cF,c4j h,oB];rw[if_neg (by simp)]
  by_cases h0:k=0
  ·subst h0;have w:=c0E h1 j (a0V 0) (a0O 0 s);have v:a0V 0=((0:Int),(0:Int),(0:Int),(0:Int),(0:Int),([]:(List Int)),a01 3 (0:Int),([]:(List (Int×Int×Unit))),([]:(List Int)),((0:Int),([]:(List Int)),()),([]:(List Int)),()):=rfl;rw[←v,if_pos rfl];simp only[show((0:Int)==0)=true from rfl,cT,w,oB];cases l.all (fun x=>x==l.headD 0)with
   |false=>rfl
   |true=>simp only[cT,b6L h1,oB];rfl
  ·obtain⟨z,A,-⟩:=a6X j hw;obtain⟨t,n,C,-⟩:=a4i h2 hw;have c:(k==0)=false:=by grind
   rw[if_neg h0];simp only[c,cF,z,oB,b2J A (show l.length<100000 by omega),t,a1q,show((0:Int) != 0)=false from rfl]
   by_cases hk1:k=1
   subst hk1;rfl
   ·have i:(k==1)=false:=by simp_all
    have p:=b2y h3 h0 hk1;rw[if_neg hk1];have m:=c4O p h (d:=a0T l) (by simp_all) (by omega) n (a1J l);have u:((a0O k s).1,((a1J l:Nat):Int),(a0O k s).2.2)=a1w (a0O k s) (a1J l) [] z0 []:=rfl;simp only[i,cF,u,m,oB];cases hr:a2K k s (a0T l)with
    |none=>rfl
    |some q=>
     obtain⟨B,r⟩:=q;obtain⟨E,r2,y,-⟩:=b5F p (by simp_all) n hr;have f:a2L (l.length:Int) (B.length:Int)=true:=by simp_all[a2L]
     have hb:=b8O f (l:=r) (by omega) y (by omega);simp only[show((0:Int) != 0)=false from rfl,cF,a1w,hb,oB]
theorem c1H(h:SmallS s)(k:Int)(E:l.length≤100000):a8n (k,l,s)=some (a1e k l s):=by
 have i:short l:=by unfold short;omega
 have y:a0V 0=((0:Int),(0:Int),(0:Int),(0:Int),(0:Int),([]:(List Int)),a01 3 (0:Int),([]:(List (Int×Int×Unit))),([]:(List Int)),((0:Int),([]:(List Int)),()),([]:(List Int)),()):=rfl;have g:(show Option (Int×(List Int×(Int×Sub×Sub×Unit)))from
   bif k==(2:Int)then some (k,l,((l.length:Nat):Int),a0V 0,(k,(0:Int),s.2.2.1,(0:Int),(0:Int),([]:(List Int)),a01 3 (0:Int),([]:List Stg),([]:(List Int)),((0:Int),([]:(List Int)),()),([]:(List Int)),()),())
   else(bif k==(3:Int)then some (k,l,((l.length:Nat):Int),a0V 0,(k,(0:Int),(0:Int),s.2.2.2.1,(0:Int),s.2.2.2.2.2.1,a01 3 (0:Int),([]:List Stg),([]:(List Int)),((0:Int),([]:(List Int)),()),([]:(List Int)),()),())
   else(bif k==(4:Int)then some (k,l,((l.length:Nat):Int),a0V 0,(k,(0:Int),(0:Int),s.2.2.2.1,s.2.2.2.2.1,s.2.2.2.2.2.1,s.2.2.2.2.2.2.1,([]:List Stg),([]:(List Int)),((0:Int),([]:(List Int)),()),([]:(List Int)),()),())
   else(bif k==(5:Int)then some (k,l,((l.length:Nat):Int),a0V 0,(k,(0:Int),(0:Int),(0:Int),(0:Int),([]:(List Int)),a01 3 (0:Int),s.2.2.2.2.2.2.2.1,([]:(List Int)),((0:Int),([]:(List Int)),()),([]:(List Int)),()),())
   else some (k,l,((l.length:Nat):Int),a0V 0,(k,(0:Int),(0:Int),(0:Int),(0:Int),([]:(List Int)),a01 3 (0:Int),([]:List Stg),([]:(List Int)),((0:Int),([]:(List Int)),()),([]:(List Int)),()),())))))=some (k,l,((l.length:Nat):Int),a0V 0,a0O k s,()):=by
  grind[a0O]
 unfold a8n a1e;simp only[←y];simp only[]at g;rw[g];simp only[oB]
 by_cases h1:1≤l.length
 rotate_left;simp_all;have p:decide (((l.length:Nat):Int)<1)=false:=decide_eq_false (by omega)
 by_cases h2:l.length≤4096
 rotate_left
 grind
 have t:decide (((l.length:Nat):Int) > 4096)=false:=decide_eq_false (by omega);have c:=b4k h k
 by_cases h3:a2z k s (l.length:Int)
 rotate_left;have m:decide (a8h (a0O k s) (l.length:Int)<0)=true:=by simp_all[a8h,b3p]
 simp_all[b5t];have m:decide (a8h (a0O k s) (l.length:Int)<0)=false:=by
  simp_all[b2t,b3p,a8h]
 rw[if_neg (fun v=>v ⟨h1,h2,h3⟩)];simp only[p,t,b5t c,m,cF,oB,a0N i];cases hw:l.all a0A with
 |false=>rfl
 |true=>
  simp only[bT,cF,oB];rw[if_neg (by simp)]
  by_cases h0:k=0
  ·subst h0;rw[if_pos rfl];simp only[show((0:Int)==0)=true from rfl,cT,c0F h1 i,oB];cases l.all (fun x=>x==l.headD 0)with
   |false=>rfl
   |true=>
    have b:decide ((1:Int)≤((l.length:Nat):Int))=true:=decide_eq_true (by omega);have u:a48 1 l=[l.headD 0]:=by cases l with|nil=>simp_all|cons a l=>rfl
    simp only[bT,cF,b,cT,u];rfl
  ·have B:=b4l i hw;obtain⟨C,j,D,-⟩:=a4i h2 hw;have e:(k==0)=false:=by grind
   rw[if_neg h0];have b:((a0O k s).1,((a1J l:Nat):Int),(a0O k s).2.2)=a1w (a0O k s) (a1J l) [] z0 []:=rfl;simp[e,B,b4Y h2 hw,b]
   by_cases hk1:k=1
   subst hk1;rfl
   ·have n:=b2y h3 h0 hk1;rw[if_neg hk1];obtain⟨F,z⟩:=c6n n h (d:=a0T l) (by simp_all) (by omega) j (a1J l);cases hr:a2K k s (a0T l)with
    |none=>
     grind
    |some q=>
     obtain⟨o,r⟩:=q;obtain⟨G,r2,A,-⟩:=b5F n (by simp_all) j hr;have f:a2L (l.length:Int) (o.length:Int)=true:=by simp_all[a2L]
     have hb:=b5E f (l:=r) (by omega) A (by omega);have w:a3S k=some true:=by rw[a5z];congr 1;grind
     simp only[z o r hr,oB,show((0:Int) != 0)=false from rfl,cF,w,cT,hb];rfl
theorem c4k(h:a2G p n warm=true):p.2.1.length≤256:=by
 simp only[a2G,bA,a41,beq_eq_false_iff_ne,ne_eq,beq_iff_eq]at h
 grind[b2v,a0X]
theorem b3q(h:SmallS s)(g:wm.length≤5000)(f:r.length≤5000)(k:p.2.1.length≤300):SmallS (a1w s w wm p r):=
 ⟨h.coefs,h.taps,h.stages,g,f,k⟩
theorem c3q(f:(a1e k l s).2=0):
  1≤l.length∧l.length≤4096∧a2z k s (l.length:Int)∧l.all a0A=true∧
   ((k=0∧l.all (fun x=>x==l.headD 0)=true∧(a1e k l s).1=a1w (a0O 0 s) 0 [l.headD 0] z0 [])∨
    (k=1∧(a1e k l s).1=a1w (a0O 1 s) (a1J l) (a0T l) z0 [])∨
     ((k=2∨k=3∨k=4∨k=5)∧∃wm r,a2K k s (a0T l)=some (wm,r)∧(a1e k l s).1=a1w (a0O k s) (a1J l) wm (b2h (l.length:Int) (wm.length:Int) r) r)):=by
 unfold a1e at f⊢
 split at f
 omega;rename_i g;have g:1≤l.length∧l.length≤4096∧a2z k s (l.length:Int):=Classical.byContradiction g;refine⟨g.1,g.2.1,g.2.2,?_⟩;rw[if_neg (fun h=>h g)]
 split at f
 omega;rename_i d;have a:l.all a0A=true:=by simp_all
 refine⟨a,?_⟩;rw[if_neg d]
 split at f
 grind
 rename_i b;rw[if_neg b]
 split at f
 simp_all;rename_i c;rw[if_neg c];refine .inr (.inr ⟨b2y g.2.2 b c,?_⟩)
 grind
theorem b1G:b0I (a1w (a0O k s) w wm p r):=by
 unfold b0I a1w a0O;simp_all
theorem b5G(h:a2z k s n):a2z (a1w (a0O k s) w wm p r).1 (a1w (a0O k s) w wm p r) n:=b3p.2 h
theorem c4P{l:List Int}(h:l.all (fun x=>x==l.headD 0)=true):a01 l.length (l.headD 0)=l:=by
 refine(List.eq_replicate_iff.2 ⟨rfl,fun x g=>?_⟩).symm
 grind
theorem b4x(I:SmallS s)(G:(a1e k l s).2=0):
  SmallS (a1e k l s).1∧(a1e k l s).1.1=k∧a1o (a1e k l s).1 (l.length:Int)∧a2M (a1e k l s).1 (l.length:Int)=some l:=by
 obtain⟨S,H,u,A,K⟩:=c3q G;have M:short l:=by unfold short;omega
 obtain⟨-,Y,-⟩:=a6X M A;obtain⟨O,v,P,D⟩:=a4i H A;have d:∀m:Sub,a1o m (l.length:Int)→b5u m (l.length:Int)=some l→a2M m (l.length:Int)=some l:=fun m j n=>by simp_all[a2M]
 have b:=b4k I k;rcases K with⟨rfl,y,e⟩|⟨rfl,e⟩|⟨z,i,r,f,e⟩
 ·rw[e];have g:a1o (a1w (a0O 0 s) 0 [l.headD 0] z0 []) (l.length:Int):=by
   have T:a0A (l.headD 0)=true:=by
    cases l with
    |nil=>rfl
    |cons a l=>simp_all
   exact⟨by omega,by omega,b5G u,b1G,Int.le_refl _,(by simp:(0:Int)≤30),fun _=>rfl,rfl,by simp_all[a1w],rfl,fun _=>⟨rfl,rfl,rfl⟩,fun h=>absurd rfl h.1⟩
  refine⟨b3q b (by simp) (by simp) (by simp[z0]),rfl,g,d _ g ?_⟩;show some (a01 (l.length:Int).toNat (l.headD 0))=some l
  grind[c4P]
 rw[e];have g:a1o (a1w (a0O 1 s) (a1J l) (a0T l) z0 []) (l.length:Int):=
  ⟨by omega,by omega,b5G u,b1G,a65 _,(by show((a1J l:Nat):Int)≤30;omega),fun h=>absurd h (by simp:¬ (1:Int)=0),by show(((a0T l).length:Nat):Int)=(l.length:Int);omega,v,rfl,fun _=>⟨rfl,rfl,rfl⟩,fun h=>absurd rfl h.2⟩
 refine⟨b3q b (by omega) (by simp) (by simp[z0]),rfl,g,d _ g ?_⟩;show upO ((a1J l:Nat):Int) (a0T l)=some l;omega
 ·rw[e];obtain⟨X,r2,C,N⟩:=b5F z (by simp_all) v f;have q:a2L (l.length:Int) (i.length:Int)=true:=by simp only[a2L,bA,dT];omega
  have hp:=c4N q (l:=r) (by omega) C (by omega);generalize b2h (l.length:Int) (i.length:Int) r=p at hp;have L:=c4k hp

  have t:a0W (a1w (a0O k s) (a1J l) i p r) (l.length:Int)=(i.length:Int)∧backP (a1w (a0O k s) (a1J l) i p r)=some (a0T l):=by
   simp only[a2z]at u;rcases z with rfl|rfl|rfl|rfl
   ·obtain⟨U,V,B⟩:0≤s.2.2.1∧s.2.2.1≤4∧s.2.2.1≤(l.length:Int):=by omega
    simp[a2K]at f;cases hq:(a1D s.2.2.1.toNat (a0T l)).all a0A with
    |false=>simp_all
    |true=>
     simp[hq]at f;obtain⟨rfl,rfl⟩:=f;refine⟨?_,?_⟩;show s.2.2.1=_
     grind
     show b3X ((a0T l).take s.2.2.1.toNat) (a1D s.2.2.1.toNat (a0T l)) s.2.2.1=some (a0T l);have hb:=b9U v (o:=s.2.2.1.toNat) (by omega) ((a0T l).length-s.2.2.1.toNat) 0 (by omega);rw[a08,a67]at hb
     grind[b3X]
   have B:(s.2.2.2.2.2.1.length:Int)≤(l.length:Int):=by omega
   simp only[a2K,show ¬ (3:Int)=2 by simp,if_false,if_true,a19,pJ]at f;obtain⟨w,j,rfl,rfl⟩:=f;obtain⟨n,-,-⟩:=b3j j;refine⟨?_,?_⟩;show((s.2.2.2.2.2.1.length:Nat):Int)=_;simp_all;exact n;have B:(s.2.2.2.2.2.1.length:Int)≤(l.length:Int):=by omega
   simp only[a2K,show ¬ (4:Int)=2 by simp,show ¬ (4:Int)=3 by simp,if_false,if_true,a39,a19,pJ]at f;obtain⟨x,F,w,j,rfl,rfl⟩:=f;obtain⟨Q,-,R⟩:=a8G F;obtain⟨n,-,-⟩:=b3j j;refine⟨?_,?_⟩;show((s.2.2.2.2.2.1.length:Nat):Int)=_;simp_all;show(a9i (x.take s.2.2.2.2.2.1.length) w s.2.2.2.2.2.1 s.2.2.2.1).bind (fun l=>a9W l s.2.2.2.2.1 s.2.2.2.2.2.2.1)=_;simp_all;simp only[a2K,show ¬ (5:Int)=2 by simp,show ¬ (5:Int)=3 by simp,show ¬ (5:Int)=4 by simp,if_false,a19,pJ]at f;obtain⟨w,j,rfl,rfl⟩:=f;obtain⟨n,-,-⟩:=b6C j;exact⟨rfl,n⟩
  have c:¬ (k=0∨k=1):=by omega
  have g:a1o (a1w (a0O k s) (a1J l) i p r) (l.length:Int):=by
   unfold a1o;rw[t.1];exact⟨by omega,by omega,b5G u,b1G,a65 _,(by show((a1J l:Nat):Int)≤30;omega),fun h=>absurd (.inl h) c,rfl,N,C,fun h=>absurd h c,fun _=>⟨(by show((r.length:Nat):Int)=_;omega),hp⟩⟩
  refine⟨b3q b (by omega) (by omega) (by omega),rfl,g,d _ g ?_⟩;have E:¬ (a1w (a0O k s) (a1J l) i p r).1=0:=fun h=>c (.inl h);unfold b5u;rw[if_neg E,t.2];exact D
theorem b6M:SmallS (a0V 0):=c1G 0
def cS(k o sh:Int)(c:List Int)(st:List Stg):Sub:=
 (k,(0:Int),o,sh,(0:Int),c,a01 3 (0:Int),st,([]:List Int),((0:Int),([]:List Int),()),([]:List Int),())
theorem a9J{k o sh:Int}{c:List Int}{st:List Stg}(h:c.length≤40)(g:st.length≤6):SmallS (cS k o sh c st):=
 ⟨h,rfl,g,by simp[cS],by simp[cS],by simp[cS]⟩
def a5C(d:List Int)(o w:Int):List Int×(Int×Int):=(a2q (d,o,w)).getD ([],0,1)
def a7X(d:List Int)(o w:Int):List Sub:=bif (a5C d o w).2.2==0 then[cS 3 0 (a5C d o w).2.1 (a5C d o w).1 []]else[]
def b6N(d:List Int):Int:=(a3z d).getD 0
def a5G(d:List Int):Sub×Bool:=(a1k d).getD (a0V 0,false)
def b0S(d:List Int):List Sub:=bif (a5G d).2 then[(a5G d).1]else[]
def a4j(i:Nat):List Sub:=(List.range i).map fun(j:Nat)=>cS 2 (j:Int) 0 [] []
def a1a(d:List Int):List Sub:=[cS 0 0 0 [] [],cS 1 0 0 [] [],cS 2 (b6N d) 0 [] []]
def a1x(d:List Int)(k:Int):List Sub:=if 1≤k then a7X d 4 12++a7X d 8 12 else[]
def a4Q(d:List Int)(k:Int):List Sub:=if 2≤k then[cS 5 0 0 [] [((16:Int),(4:Int),())],cS 5 0 0 [] [((32:Int),(3:Int),()),((16:Int),(5:Int),())]]++b0S d else[]
def b4y(d:List Int)(k:Int):List Sub:=if 3≤k then a4j 5++(a7X d 1 12++(a7X d 2 12++(a7X d 12 14++a7X d 16 14)))else[]
def a2v(d:List Int)(k:Int):List Sub:=a1a d++(a1x d k++(a4Q d k++b4y d k))
def b3r(d:List Int):Prop:=a1k d=some (a5G d)∧((a5G d).2=true→SmallS (a5G d).1)
theorem c0G(a:d.all a0A=true)(k:d.length≤4096)(h:1≤o)(g:o≤32)(f:2≤w∧w≤16):
  a2q (d,(o:Int),(w:Int))=some (a5C d o w)∧((a5C d o w).2.2=0→(a5C d o w).1.length=o):=by
 obtain⟨c,sh,e,b,i⟩:=b7P a k h g f;unfold a5C;simp_all
theorem a3T(d:List Int)(o w:Int):(a7X d o w).length≤1:=by
 grind[a7X]
theorem a9K(c:d.all a0A=true)(b:d.length≤4096)(f:1≤o)(k:o≤32)(a:2≤w∧w≤16){L:List Sub}(e:L.length<1000):
  a0M ((o:Int),(w:Int),d,L)=some (d,L++a7X d o w):=by
 obtain⟨g,-⟩:=c0G c b f k a;have h:lim (L.length+1)=true:=a0I (by omega);unfold a0M a7X;simp only[g,oB];cases (a5C d o w).2.2==0 with
 |true=>simp only[cT,h];rfl
 |false=>simp
theorem c3s{L:List Sub}(k:L.length<1000):y0s a2l ((0:Int),L,d,())=some (L++a4j 5,d,()):=by
 have:=a0Q (f:=a2l) (fun i:Nat=>((i:Int),L++a4j i,d,())) 5 (b:=(L++a4j 5,d,()))
  (fun i a=>by
   have g:decide ((i:Int)<5)=true:=decide_eq_true (by omega);have h:lim ((L++a4j i).length+1)=true:=a0I (by simp[a4j];omega);have e:(L++a4j i)++[cS 2 (i:Int) 0 [] []]=L++a4j (i+1):=by simp[a4j,List.range_succ]
   rw[←e];simp only[a2l,g,cT,h,a0B (show i<1000000 by omega)];rfl)
  (by
   rfl)
 simp at this;rw[show a4j 0=[]from rfl,a44]at this;omega
theorem c6p(a:d.all a0A=true)(c:d.length≤4096)(l:b3r d)(k:Int):a6o (d,k)=some (a2v d k):=by
 obtain⟨o,E,F⟩:=b6A (show d.length<100000 by omega) a;have hb:b6N d=(o:Int):=by simp_all[b6N]
 have D:(b0S d).length≤1:=by grind[b0S]
 have N:=a3T d 4 12;have O:=a3T d 8 12;have l1:=a3T d 1 12;have l2:=a3T d 2 12;have G:=a3T d 12 14;have y:=fun L (hL:L.length<1000)=>a9K (L:=L) a c (o:=4) (w:=12) (by omega) (by omega) (by omega) hL;have z:=fun L (hL:L.length<1000)=>a9K (L:=L) a c (o:=8) (w:=12) (by omega) (by omega) (by omega) hL;have v:=fun L (hL:L.length<1000)=>a9K (L:=L) a c (o:=1) (w:=12) (by omega) (by omega) (by omega) hL;have x:=fun L (hL:L.length<1000)=>a9K (L:=L) a c (o:=2) (w:=12) (by omega) (by omega) (by omega) hL;have i:=fun L (hL:L.length<1000)=>a9K (L:=L) a c (o:=12) (w:=14) (by omega) (by omega) (by omega) hL;have j:=fun L (hL:L.length<1000)=>a9K (L:=L) a c (o:=16) (w:=14) (by omega) (by omega) (by omega) hL;simp at y z v x i j;have P:(a1a d).length=3:=rfl;have n1:(a1x d k).length≤2:=by unfold a1x;split<;>simp<;>omega
 have n2:(a4Q d k).length≤3:=by unfold a4Q;split<;>simp<;>omega
 have Q:(a4j 5).length=5:=rfl;have M:(bif decide (k≥1)then((a0M ((4:Int),(12:Int),d,a1a d)).bind fun n=>(a0M ((8:Int),(12:Int),n.1,n.2)).bind fun p=>some (k,p.1,p.2,()))else some (k,d,a1a d,()))=some (k,d,a1a d++a1x d k,()):=by
  unfold a1x
  by_cases h:1≤k
  have e:decide (k≥1)=true:=decide_eq_true h;simp only[e,cT,y (a1a d) (by omega),oB,z (a1a d++a7X d 4 12) (by grind),if_pos h,aA]
  grind
 have C:a6o (d,k)=(a3z d).bind fun A=>
   (show Option (Int×((List Int)×((List Sub)×Unit)))from bif decide (k≥1)then((a0M ((4:Int),(12:Int),d,[cS 0 0 0 [] [],cS 1 0 0 [] [],cS 2 A 0 [] []])).bind fun n=>(a0M ((8:Int),(12:Int),n.1,n.2)).bind fun p=>some (k,p.1,p.2,()))else some (k,d,[cS 0 0 0 [] [],cS 1 0 0 [] [],cS 2 A 0 [] []],())).bind fun g=>
   (show Option (Int×((List Sub)×((List Int)×Unit)))from bif decide (g.1≥2)then(bif lim (g.2.2.1.length+1)then(bif lim ((g.2.2.1++[cS 5 0 0 [] [((16:Int),(4:Int),())]]).length+1)then((a1k g.2.1).bind fun q=>
    bif q.2 then(bif lim ((g.2.2.1++[cS 5 0 0 [] [((16:Int),(4:Int),())]]++[cS 5 0 0 [] [((32:Int),(3:Int),()),((16:Int),(5:Int),())]]).length+1)then some (g.1,g.2.2.1++[cS 5 0 0 [] [((16:Int),(4:Int),())]]++[cS 5 0 0 [] [((32:Int),(3:Int),()),((16:Int),(5:Int),())]]++[q.1],g.2.1,())else none)
    else some (g.1,g.2.2.1++[cS 5 0 0 [] [((16:Int),(4:Int),())]]++[cS 5 0 0 [] [((32:Int),(3:Int),()),((16:Int),(5:Int),())]],g.2.1,()))else none)else none)else some (g.1,g.2.2.1,g.2.1,())).bind fun t=>
   (show Option ((List Sub)×Unit)from bif decide (t.1≥3)then((y0s a2l ((0:Int),t.2.1,t.2.2.1,())).bind fun m=>(a0M ((1:Int),(12:Int),m.2.1,m.1)).bind fun r=>(a0M ((2:Int),(12:Int),r.1,r.2)).bind fun s=>
    (a0M ((12:Int),(14:Int),s.1,s.2)).bind fun f=>(a0M ((16:Int),(14:Int),f.1,f.2)).bind fun b=>some (b.2,()))else some (t.2.1,())).bind fun u=>some u.1:=rfl
 have B:[cS 0 0 0 [] [],cS 1 0 0 [] [],cS 2 (o:Int) 0 [] []]=a1a d:=by unfold a1a;grind
 have R:(bif decide (k≥2)then(bif lim ((a1a d++a1x d k).length+1)then(bif lim ((a1a d++a1x d k++[cS 5 0 0 [] [((16:Int),(4:Int),())]]).length+1)then((a1k d).bind fun q=>
    bif q.2 then(bif lim ((a1a d++a1x d k++[cS 5 0 0 [] [((16:Int),(4:Int),())]]++[cS 5 0 0 [] [((32:Int),(3:Int),()),((16:Int),(5:Int),())]]).length+1)then some (k,a1a d++a1x d k++[cS 5 0 0 [] [((16:Int),(4:Int),())]]++[cS 5 0 0 [] [((32:Int),(3:Int),()),((16:Int),(5:Int),())]]++[q.1],d,())else none)
    else some (k,a1a d++a1x d k++[cS 5 0 0 [] [((16:Int),(4:Int),())]]++[cS 5 0 0 [] [((32:Int),(3:Int),()),((16:Int),(5:Int),())]],d,()))else none)else none)else some (k,a1a d++a1x d k,d,()):Option (Int×((List Sub)×((List Int)×Unit))))=some (k,a1a d++(a1x d k++a4Q d k),d,()):=by
  unfold a4Q
  by_cases h:2≤k
  have e:decide (k≥2)=true:=decide_eq_true h;have H:lim ((a1a d++a1x d k).length+1)=true:=a0I (by grind);have I:lim ((a1a d++a1x d k++[cS 5 0 0 [] [((16:Int),(4:Int),())]]).length+1)=true:=a0I (by simp;omega);have K:lim ((a1a d++a1x d k++[cS 5 0 0 [] [((16:Int),(4:Int),())]]++[cS 5 0 0 [] [((32:Int),(3:Int),()),((16:Int),(5:Int),())]]).length+1)=true:=a0I (by simp;omega);simp only[e,H,I,K,cT,l.1,oB,if_pos h,b0S];cases (a5G d).2<;>simp
  grind
 have S:(bif decide (k≥3)then((y0s a2l ((0:Int),a1a d++(a1x d k++a4Q d k),d,())).bind fun m=>(a0M ((1:Int),(12:Int),m.2.1,m.1)).bind fun r=>(a0M ((2:Int),(12:Int),r.1,r.2)).bind fun s=>
    (a0M ((12:Int),(14:Int),s.1,s.2)).bind fun f=>(a0M ((16:Int),(14:Int),f.1,f.2)).bind fun b=>some (b.2,()))else some (a1a d++(a1x d k++a4Q d k),()):Option ((List Sub)×Unit))=some (a2v d k,()):=by
  unfold a2v b4y
  by_cases h:3≤k
  have e:decide (k≥3)=true:=decide_eq_true h;simp only[e,cT,c3s (L:=a1a d++(a1x d k++a4Q d k)) (by simp;omega),oB,if_pos h];rw[v _ (by simp;omega)];simp only[oB];rw[x _ (by simp;omega)];simp only[oB];rw[i _ (by simp;omega)];simp only[oB];rw[j _ (by simp;omega)]
  simp
  grind
 rw[C,E,oB,B];simp only[];rw[M];simp only[oB];simp_all
theorem b3s(l:d.all a0A=true)(i:d.length≤4096)(f:b3r d)(k:Int):∀c∈a2v d k,SmallS c:=by
 have g:∀(o w:Nat),1≤o→o≤32→2≤w∧w≤16→∀c∈a7X d o w,SmallS c:=fun o w a b e c h=>by
  obtain⟨-,m⟩:=c0G l i a b e;unfold a7X at h;cases he:(a5C d o w).2.2==0 with
  |false=>simp_all
  |true=>
   rw[he]at h;simp at h
   grind[a9J]
 intro c h;simp[a2v]at h;rcases h with h|h|h|h;simp[a1a]at h;rcases h with rfl|rfl|rfl<;>exact a9J (by simp) (by simp);unfold a1x at h
 split at h
 simp at h;rcases h with h|h;exact g 4 12 (by omega) (by omega) (by omega) c h;exact g 8 12 (by omega) (by omega) (by omega) c h;simp_all
 ·unfold a4Q at h
  split at h
  ·simp only[mA,mC,List.not_mem_nil,or_false]at h;rcases h with(rfl|rfl)|h;simp_all[a9J];simp_all[a9J]
   ·unfold b0S at h;cases hg:(a5G d).2 with
    |false=>simp_all
    |true=>
     rw[hg]at h;simp at h;subst h;exact f.2 hg
  simp_all
 unfold b4y at h
 split at h
 simp only[mA,a4j,List.mem_map]at h;rcases h with⟨j,-,rfl⟩|h|h|h|h;simp_all[a9J];exact g 1 12 (by omega) (by omega) (by omega) c h;exact g 2 12 (by omega) (by omega) (by omega) c h;exact g 12 14 (by omega) (by omega) (by omega) c h;exact g 16 14 (by omega) (by omega) (by omega) c h;simp_all
theorem c0H(g:d.length≤256):a1k d=some (a0V 0,false):=by
 have h:a6S (d,(16:Int),(256:Int))=some (0,7):=by
  unfold a6S
  grind
 unfold a1k;simp only[h,oB,show((7:Int) != 0)=true from rfl,cT];rfl
theorem c6Q(g:d.length≤256):b3r d:=by
 have h:=c0H g
 have:a5G d=(a0V 0,false):=by unfold a5G;simp_all
 exact⟨by simp_all,fun f=>by simp_all⟩
def a7R(l:List Int)(a:Int×(Bool×Sub))(c:Sub):Int×(Bool×Sub):=
 bif (a1e c.1 l c).2 != 0 then a else bif !a.2.1 || decide (a3O (a1e c.1 l c).1 (l.length:Int)<a.1)then(a3O (a1e c.1 l c).1 (l.length:Int),true,(a1e c.1 l c).1)else a
def b1i(l:List Int)(cs:List Sub):Int×(Bool×Sub):=cs.foldl (a7R l) (0,false,a0V 0)
theorem b3t{α A β:Type}(g:A→α→A)(h:A→β):∀(l:List α)(a:A),a9e h (a2s (fun a x=>.inl (g a x)) l a)=h (l.foldl g a)
 | [],_=>rfl
 |x::l,a=>b3t g h l (g a x)
theorem b4Z(h:SmallS s):SmallS (a1e k l s).1:=by
 by_cases h0:(a1e k l s).2=0
 exact(b4x h h0).1
 have:(a1e k l s).1=a0V 0:=by
  unfold a1e at h0⊢
  grind
 simp_all[b6M]
theorem c4l{cs:List Sub}(j:∀c∈cs,SmallS c)(p:l.length≤4096)(o:cs.length<1000):
  y0s a6J (l,(0:Int),false,cs,((cs.length:Nat):Int),(0:Int),a0V 0,a0V 0,())=some (a0V 0,(b1i l cs).2.2,()):=by
 have:=a1S (f:=a6J) cs (fun i a=>(l,a.1,a.2.1,cs,((cs.length:Nat):Int),(i:Int),a0V 0,a.2.2,())) (fun a x=>.inl (a7R l a x)) (fun _ _=>True) (fun a=>(a0V 0,a.2.2,()))
  (fun i g a _=>by
   refine⟨fun n h=>?_,fun b hb=>by grind⟩;simp at h;subst h;refine⟨?_,trivial⟩;have d:=j _ (a04 g);have e:=c6j (b4Z (k:=cs[i].1) (l:=l) d) (l.length:Int);unfold a7R;simp only[a6J,dlt g,cT,a0C g,oB,c6o d cs[i].1 (show l.length≤100000 by omega),e,a0B (show i<1000000 by omega)];cases (a1e cs[i].1 l cs[i]).2 != 0 with
   |true=>rfl
   |false=>
    have m:=a0B (show i<1000000 by omega)
    grind)
  (fun a _=>by simp_all[a6J]) (a:=((0:Int),false,a0V 0)) trivial
 simp at this;rw[this,b3t];rfl
theorem c6q(v:1≤l.length)(c:l.length≤4096)(a:l.all a0A=true)(h:b3r (a0T l))(u:0≤k)(x:k≤3):
  a7H (l,k)=some ((b1i l (a2v (a0T l) k)).2.2,0):=by
 have d:short l:=by unfold short;omega
 obtain⟨r,s,-⟩:=a6X d a;obtain⟨e,b,t,-⟩:=a4i c a;have i:decide (((l.length:Nat):Int)<1)=false:=decide_eq_false (by omega);have j:decide (((l.length:Nat):Int) > 4096)=false:=decide_eq_false (by omega);have m:decide (k<0)=false:=decide_eq_false (by omega);have n:decide (k > 3)=false:=decide_eq_false (by omega);have f:(a2v (a0T l) k).length<1000:=by
  have g:=fun o w=>a3T (a0T l) o w;have y:=g 4 12;have z:=g 8 12;have A:=g 1 12;have B:=g 2 12;have C:=g 12 14;have D:=g 16 14;have p:(b0S (a0T l)).length≤1:=by grind[b0S]
  simp only[a2v,a1a,a1x,a4Q,b4y,lN]
  grind[a4j]
 have hb:=c4l (l:=l) (b3s b (by omega) h k) c f;have q:a0V 0=((0:Int),(0:Int),(0:Int),(0:Int),(0:Int),([]:(List Int)),a01 3 (0:Int),([]:(List (Int×Int×Unit))),([]:(List Int)),((0:Int),([]:(List Int)),()),([]:(List Int)),()):=rfl;unfold a7H;simp only[←q,i,j,m,n,cF,oB,a4w d,a,bT,r,b2J s (show l.length<100000 by omega),e,a1q,show((0:Int) != 0)=false from rfl,c6p b (show(a0T l).length≤4096 by omega) h,hb]
theorem a9L(v:Int)(n:Nat)(L:List Int):(a0H v n L).length=L.length+(a0H v n []).length:=by
 grind[a0H]
theorem b2i(n:Nat):∀(l L:List Int),(a1C n l L).length=L.length+(a1C n l []).length
 | [],L=>by rfl
 |x::l,L=>by
  show(a1C n l (a0H (a2t x n) n L)).length=L.length+(a1C n l (a0H (a2t x n) n [])).length;rw[b2i n l,b2i n l (a0H (a2t x n) n []),a9L];omega
theorem b2z:∀(st:List Stg)(L:List Int),(a3s st L).length=L.length+(a3s st []).length
 | [],L=>by rfl
 |s::st,L=>by
  show(a3s st (a6h s L)).length=L.length+(a3s st (a6h s [])).length;rw[b2z st,b2z st (a6h s [])];unfold a6h;rw[a9L,a9L _ 5 L,a9L _ 4 (a0H _ 5 [])];omega
theorem c3t(s:Sub)(L:List Int):(a4K s L).length=L.length+(a4K s []).length:=by
 grind[a4K,b2i,a9L]
theorem b7S(s:Sub)(L:List Int):(a1p s L).length=L.length+(a1p s []).length:=by
 grind[a1p,a9L,c3t,b2i,b2z]
theorem c4Q(g:0≤s.1∧s.1≤5)(f:0≤s.2.1∧s.2.1≤30)(h:s.2.2.2.2.2.2.2.2.1.all a0A=true)(L:List Int):(a8s s L).length=L.length+13:=by
 grind[a03,b0C,a8s,b4g,a9I]
def c0I(s:Sub)(zn:List Nat):Nat:=
 13+(a1p s []).length+a0J s.2.2.2.2.2.2.2.2.1*s.2.2.2.2.2.2.2.2.1.length+if s.1=0∨s.1=1 then 0 else 4+a1X zn s.2.2.2.2.2.2.2.2.2.1.2.1 s.2.2.2.2.2.2.2.2.2.2.1
theorem c3u(h:a2z k s n):0≤k∧k≤5:=by
 rcases h with h|h|⟨h,-⟩|⟨h,-⟩|⟨h,-⟩|⟨h,-⟩<;>omega
theorem c1I(h:(a2M s n).isSome=true):a1o s n:=by
 grind[a2M]
theorem c6r(h:(a2M s n).isSome=true)(d:s.1≠0∧s.1≠1→PartsOk s.2.2.2.2.2.2.2.2.2.1 n ((s.2.2.2.2.2.2.2.2.1.length:Nat):Int) s.2.2.2.2.2.2.2.2.2.2.1 zn)(L:List Int):
  (a3N s zn L).length=L.length+c0I s zn:=by
 obtain⟨e,i,b,-,k,a,-,-,f,-⟩:=c1I h;have c:=b0C f;have g:=c4Q (c3u b) ⟨k,a⟩ f L;unfold a3N c0I
 by_cases hk:s.1=0∨s.1=1
 rw[if_pos hk,if_pos hk,b2e (by omega),b7S,g];omega;rw[if_neg hk,if_neg hk,b8N (d (not_or.1 hk)),b2e (by omega),b7S,g];omega
theorem c0J{s:Sub}(h:SmallS s){n:Int}(f:(a2M s n).isSome=true):∃g,a3O s n=((c0I s g:Nat):Int)∧(s.1≠0∧s.1≠1→PartsOk s.2.2.2.2.2.2.2.2.2.1 n ((s.2.2.2.2.2.2.2.2.1.length:Nat):Int) s.2.2.2.2.2.2.2.2.2.2.1 g):=by
 obtain⟨e,b,-,-,-,a,-⟩:=b6w h (n:=n) (L:=[]) (by simp);obtain⟨-,g,-,k⟩:=a f;refine⟨g,?_,k⟩;unfold a3O;rw[if_pos f,←b7y k,c6r f k]
 simp
theorem c4m(h:SmallS s)(g:(a2M s n).isSome=true):13≤a3O s n:=by
 grind[c0J,c0I]
structure Shifted (l m:List Int) (n:Nat):Prop where
 len:m.length=l.length
 wl:l.all a0A=true
 wm:m.all a0A=true
 down:a0T m=a0T l
 waste:a1J m=a1J l+n
 fl:l.all (fun x=>x==l.headD 0)=false
 fm:m.all (fun x=>x==m.headD 0)=false
structure BestIs (l:List Int) (cs:List Sub) (a:Int×(Bool×Sub)):Prop where
 one:a.2.1=true→∃c∈cs,(a1e c.1 l c).2=0∧a.2.2=(a1e c.1 l c).1∧a.1=a3O a.2.2 (l.length:Int)
 least:∀c∈cs,(a1e c.1 l c).2=0→a.2.1=true∧a.1≤a3O (a1e c.1 l c).1 (l.length:Int)
theorem b4m{l:List Int}:∀(cs ds:List Sub)(a:Int×(Bool×Sub)),BestIs l ds a→BestIs l (ds++cs) (cs.foldl (a7R l) a)
 | [],ds,a,h=>by simp_all
 |c::cs,ds,a,h=>by
  rw[List.foldl_cons,show ds++c::cs=(ds++[c])++cs by simp];refine b4m cs (ds++[c]) _ ?_
  unfold a7R
  by_cases h0:(a1e c.1 l c).2=0
  ·have n1:((a1e c.1 l c).2 != 0)=false:=by simp_all
   rw[n1,cF];cases hq:(!a.2.1 || decide (a3O (a1e c.1 l c).1 (l.length:Int)<a.1))with
   |true=>
    refine⟨fun _=>⟨c,by simp,h0,rfl,rfl⟩,fun d f k=>⟨rfl,?_⟩⟩;rcases mA.1 f with f|f;obtain⟨e,i⟩:=h.least d f k
    grind
    simp_all
   |false=>
    simp only[Bool.or_eq_false_iff,Bool.not_eq_false',decide_eq_false_iff_not]at hq;refine⟨fun b=>?_,fun d f k=>?_⟩;obtain⟨d,f,g⟩:=h.one b
    grind
    rcases mA.1 f with f|f;exact h.least d f k;simp_all
  have n1:((a1e c.1 l c).2 != 0)=true:=by simp_all
  rw[n1,cT];refine⟨fun b=>?_,fun d f k=>?_⟩;obtain⟨d,f,g⟩:=h.one b
  grind
  rcases mA.1 f with f|f;exact h.least d f k;simp_all
theorem b7A(l:List Int)(cs:List Sub):BestIs l cs (b1i l cs):=
 b4m cs [] _ ⟨fun h=>(by grind),fun _ h=>(by grind)⟩
theorem b3u(h:1≤l.length)(g:l.length≤4096)(f:l.all a0A=true):a1e 1 l (cS 1 0 0 [] [])=(a1w (a0O 1 (cS 1 0 0 [] [])) (a1J l) (a0T l) z0 [],0):=by
 unfold a1e;rw[if_neg (fun q=>q ⟨h,g,.inr (.inl rfl)⟩),if_neg (by simp_all),if_neg (by simp),if_pos rfl]
theorem c3v(h:1≤l.length)(g:l.length≤4096)(f:l.all a0A=true)(d:List Int)(k:Int):(b1i l (a2v d k)).2.1=true:=
 ((b7A l (a2v d k)).least (cS 1 0 0 [] []) (by simp[a2v,a1a]) (by rw[show(cS 1 0 0 [] []).1=1 from rfl,b3u h g f])).1
end Go.Ab
