/- Part of the proof: PA. Conditions: as each statement tells. -/
import Derived.KernelRfl
import Derived.Test.YtjoohiokfkdfpabGreatDoorMG
noncomputable section
set_option linter.unusedSimpArgs false
set_option linter.unusedVariables false
open BitVec renaming ofInt→a04,xor_assoc→a24,ofInt_natCast→a25,toNat_ofNat→a30,getLsbD_ushiftRight→a49,toNat_ofInt→a65,msb_eq_getLsbD_last→a66,eq_of_getLsbD_eq→a72,toNat_or→a74,xor_comm→a77,allOnes_xor→a96,toNat_not→b04,toNat_and→b05,xor_zero→b09,allOnes→b17,getLsbD→b19,ofNat→b21
open Bool renaming and_self→a02,not_false→a19,true_and→a26,eq_iff_iff→a39,and_false→a51,eq_false_iff→a54,or_eq_true→a73,and_eq_true_iff→a87,and_true→a92,not_eq_true'→b02
open Int renaming eq_ofNat_of_zero_le→a01,cast_ofNat_Int→a16,tmod_eq_emod_of_nonneg→a28,toNat→a35,tmod→a42,emod_eq_of_lt→a53,fdiv→a93,tdiv→a94
open List renaming replicate→a00,drop_eq_getElem_cons→a03,append_eq→a05,getElem_mem→a06,append_nil→a07,nil_append→a09,length_nil→a18,append_inj→a20,zipWith→a27,all_cons→a33,length_drop→a34,length_eq_zero_iff→a37,take_of_length_le→a38,getD→a40,replicate_succ'→a43,mem_of_mem_drop→a44,mem_of_mem_take→a45,drop_length→a46,take_length→a47,take_succ_eq_append_getElem→a56,getElem_zip→a57,eq_nil_or_concat→a58,length_singleton→a59,length_take→a60,map_map→a63,getD_cons_succ→a64,getElem?_append_right→a67,foldl_append→a68,getElem?_append_left→a69,cons_append→a70,range→a71,set→a76,foldl_cons→a78,set_append_right→a79,eq_replicate_iff→a80,mem_append_right→a82,drop_zero→a84,range_add→a85,mem_iff_getElem→a86,sum_cons→a89,replicate_succ→a90,map_congr_left→a91,set_cons_zero→a95,mem_map→a99,take→b01,length_set→b07,drop→b20
open Nat renaming lt_trans→a08,two_pow_pos→a22,pow_le_pow_right→a23,mod_eq_of_lt→a29,div_le_self→a31,le_refl→a32,two_pow_add_eq_or_of_lt→a41,div_eq_of_lt→a48,lt_of_le_of_lt→a50,mul_le_mul→a52,mod_lt→a55,sub_self→a61,mul_comm→a62,div_div_eq_div_mul→a75,add_mul_div_right→a81,zero_le→a83,mul_le_mul_right→a88,lt_of_lt_of_le→a97,le_trans→a98,pow_succ→b00,or_lt_two_pow→b03,div_add_mod→b06,min_eq_left→b08
open Option renaming bind_eq_some_iff→a36
namespace Go.Ab
variable {A L P R l row t:List Int}{N a b i k m n o u v w:Nat}{c:List (List Int)}{lag sign warm x:Int}{zn:List Nat}{α:Type}
open IntKind(wrap)
section
variable {σ β:Type} {f:σ→Option (σ ⊕ β)}
theorem b2H:∀(n m:Nat)(s:σ){b:β},j0z f n s=some b→j0z f (n+m) s=some b
 |0,_,s,b,h=>by simp[j0z]at h
 |n+1,m,s,b,h=>by
  rw[show n+1+m=n+m+1 from by omega];simp only[j0z]at h⊢
  split at h
  cases h;rename_i s' g;exact b2H n m s' h;exact h
theorem b9K{s:σ}{b b':β}(h:j0z f n s=some b)(k:j0z f m s=some b'):b=b':=by
 have a:=b2H n m s h;have g:=b2H m n s k;rw[Nat.add_comm,a]at g;exact Option.some.inj g
theorem c8E{s:σ}{b:β}(h:j0z f n s=some b):v0v f s=some b:=by
 unfold v0v;have g:∃n b,j0z f n s=some b:=⟨n,b,h⟩;rw[dif_pos g];exact congrArg some (b9K g.choose_spec.choose_spec h)
theorem b9t{s:σ}{b:β}(h:j0z f n s=some b):y0s f s=some b:=by
 unfold y0s;split;rename_i g hb;rw[b9K hb h];exact c8E h
theorem b9L{s:σ}(h:∀n,j0z f n s=none):y0s f s=none:=by
 unfold y0s;rw[h 400];show v0v f s=none;unfold v0v;rw[dif_neg]
 rintro⟨n,b,g⟩
 rw[h n]at g;cases g
theorem a0E{s:σ}{b:β}(h:f s=some (.inr b)):y0s f s=some b:=b9t (n:=1) (by simp[j0z,h])
theorem a0G{s s':σ}(h:f s=some (.inl s')):y0s f s=y0s f s':=by
 by_cases hx:∃n b,j0z f n s'=some b
 obtain⟨n,b,hb⟩:=hx;rw[b9t hb];exact b9t (n:=n+1) (by simp[j0z,h,hb])
 ·have g:∀n,j0z f n s'=none:=fun n=>by
   cases hn:j0z f n s' with
   |none=>rfl
   |some b=>exact absurd ⟨n,b,hn⟩ hx
  rw[b9L g];refine b9L fun n=>?_
  cases n with
  |zero=>rfl
  |succ n=>simp[j0z,h,g n]
theorem c4U(S:Nat→σ)(n:Nat){b:β}(g:∀i,i<n→f (S i)=some (.inl (S (i+1))))(h:f (S n)=some (.inr b)):∀(k:Nat),k≤n→y0s f (S (n-k))=some b
 |0,_=>a0E h
 |k+1,hk=>by
  rw[a0G (g (n-(k+1)) (by omega)),show n-(k+1)+1=n-k from by omega];exact c4U S n g h k (by omega)
theorem a1o(S:Nat→σ)(n:Nat){b:β}(g:∀i,i<n→f (S i)=some (.inl (S (i+1))))(h:f (S n)=some (.inr b)):y0s f (S 0)=some b:=by
 have:=c4U S n g h n (a32 _)
 rwa [a61]at this
end
theorem a0D{n:Int}(h:-9223372036854775808≤n∧n≤9223372036854775807):wrap .i64 n=n:=by
 simp only[wrap,IntKind.bits,IntKind.signed]
 simp
 split<;>omega
theorem a0P{n:Int}(h:0≤n∧n<18446744073709551616):wrap .u64 n=n:=by
 simp only[wrap,IntKind.bits,IntKind.signed]
 simp
 omega
theorem a8p(n:Int):wrap .u8 n=n%256:=by
 simp[wrap,IntKind.bits,IntKind.signed]
theorem c4V(x y:Int):v0s x y=min x y:=by
 simp only[v0s,cond_eq_ite,dT]
 split<;>omega
theorem b9u(x y:Int):v0r x y=max x y:=by
 simp only[v0r,cond_eq_ite,dT]
 split<;>omega
theorem a1h(h:n<2147483648):lim n=true:=by simp[lim,h]
section
variable {α A σ β:Type}
def a4c(g:A→α→A ⊕ β):List α→A→A ⊕ β
 | [],a=>.inl a
 |x::r,a=>match g a x with
  |.inl a'=>a4c g r a'
  |.inr b=>.inr b
def b4i(fin:A→β):A ⊕ β→β
 |.inl a=>fin a
 |.inr b=>b
theorem b2g{f:σ→Option (σ ⊕ β)}(l:List α)(S:Nat→A→σ)(g:A→α→A ⊕ β)(I:Nat→A→Prop)(e:A→β)
  (d:∀i (h:i<l.length) a,I i a→(∀a',g a l[i]=.inl a'→f (S i a)=some (.inl (S (i+1) a'))∧I (i+1) a')∧(∀b,g a l[i]=.inr b→f (S i a)=some (.inr b)))
  (c:∀a,I l.length a→f (S l.length a)=some (.inr (e a))):∀(k i:Nat)(a:A),i+k=l.length→I i a→y0s f (S i a)=some (b4i e (a4c g (l.drop i) a))
 |0,i,a,hi,ha=>by
  obtain rfl:i=l.length:=by omega
  rw[a46];exact a0E (c a ha)
 |k+1,i,a,hi,ha=>by
  have j:i<l.length:=by omega
  rw[a03 j];obtain⟨m,n⟩:=d i j a ha;simp[a4c];cases hg:g a l[i]with
  |inl a'=>
   obtain⟨o,p⟩:=m a' hg;rw[a0G o];exact b2g l S g I e d c k (i+1) a' (by omega) p
  |inr b=>exact a0E (n b hg)
theorem a1E{f:σ→Option (σ ⊕ β)}(l:List α)(S:Nat→A→σ)(g:A→α→A ⊕ β)(I:Nat→A→Prop)(k:A→β)
  (d:∀i (h:i<l.length) a,I i a→(∀a',g a l[i]=.inl a'→f (S i a)=some (.inl (S (i+1) a'))∧I (i+1) a')∧(∀b,g a l[i]=.inr b→f (S i a)=some (.inr b)))
  (c:∀a,I l.length a→f (S l.length a)=some (.inr (k a))){a:A}(e:I 0 a):y0s f (S 0 a)=some (b4i k (a4c g l a)):=by
 have:=b2g l S g I k d c l.length 0 a (by omega) e
 simp_all
theorem a1d{f:σ→Option (σ ⊕ β)}(l:List α)(S:Nat→σ)(p:α→Bool){bt bf:β}
  (k:∀i (h:i<l.length),p l[i]=true→f (S i)=some (.inl (S (i+1))))(b:∀i (h:i<l.length),p l[i]=false→f (S i)=some (.inr bf))
  (g:f (S l.length)=some (.inr bt)):y0s f (S 0)=some (bif l.all p then bt else bf):=by
 have h:=a1E (A:=Unit) l (fun i _=>S i) (fun _ x=>bif p x then .inl ()else .inr bf) (fun _ _=>True) (fun _=>bt) (fun i h a _=>?_) (fun _ _=>g) (a:=()) trivial
 ·rw[h];congr 1;clear h k b g
  induction l with
  |nil=>rfl
  |cons x l ih=>
   simp[a4c];cases p x with
   |true=>simp_all
   |false=>rfl
 grind
end
theorem a0A{α:Type}{l:List α}{i:Nat}(h:i<l.length):m0k l (i:Int)=some l[i]:=by
 simp_all[m0k]
def a0C(x:Int):Bool:=decide (-1073741824≤x)&&decide (x<1073741824)
theorem a2H{x:Int}:a0C x=true↔-1073741824≤x∧x<1073741824:=by simp[a0C]
def short{α:Type}(l:List α):Prop:=l.length<1000000
theorem a0B{i:Nat}(h:i<1000000):wrap .i64 ((i:Int)+1)=((i+1:Nat):Int):=by
 grind[a0D]
theorem dlt(h:i<n):decide ((i:Int)<(n:Int))=true:=by simp_all
theorem dge(n:Nat):decide ((n:Int)<(n:Int))=false:=by simp
theorem a8H{l:List Int}(a:short l):a2D l=some (l.all a0C):=by
 unfold a2D
 have:=a1d (f:=a2S) l (fun i=>(l,(l.length:Int),(i:Int),())) a0C (bt:=Sum.inl ()) (bf:=Sum.inr (false,()))
  (fun i h hp=>by
   have hp:=a2H.1 hp;have g:decide (l[i] < -1073741824)=false:=by simp_all
   have k:decide (l[i]≥1073741824)=false:=by simp_all
   simp only[a2S,dlt h,cT,a0A h,oB,g,k,cF,a0B (a08 h a)])
  (fun i h hp=>by
   simp only[a2S,dlt h,cT,a0A h,oB]
   grind[a0C])
  (by simp[a2S])
 grind
theorem a8I(x:Int):a4e x=some (a0C x):=by
 grind[a4e,a0C]
theorem b0S(x:Int):a5V x=some (a0C x):=by
 grind[a5V,a0C]
theorem a7F(x:Int):a4Y x=some (a0C x):=by
 grind[a4Y,a0C]
theorem a1W(x:Int):a2b x=some (a0C x):=by
 grind[a2b,a0C]
theorem b9v(x:Int):a4f x=some (a0C x):=by
 grind[a4f,a0C]
theorem a9N(g:short l):a2l l=some (l.all a0C):=by
 unfold a2l
 have:=a1d (f:=a2L) l (fun i=>(l,(l.length:Int),(i:Int),())) a0C (bt:=Sum.inl ()) (bf:=Sum.inr (false,()))
  (fun i h hp=>by simp[a2L,a0A h,a8I,hp,a0B (a08 h g),h])
  (fun i h hp=>by simp_all[a2L,a0A,a8I])
  (by simp[a2L])
 grind
theorem b7O(g:short l):a3N l=some (l.all a0C):=by
 unfold a3N
 have:=a1d (f:=a3y) l (fun i=>(l,(l.length:Int),(i:Int),())) a0C (bt:=Sum.inl ()) (bf:=Sum.inr (false,()))
  (fun i h hp=>by simp[a3y,a0A h,b0S,hp,a0B (a08 h g),h])
  (fun i h hp=>by simp_all[a3y,a0A,b0S])
  (by simp[a3y])
 grind
theorem b6x(g:short l):a4j l=some (l.all a0C):=by
 unfold a4j
 have:=a1d (f:=a3f) l (fun i=>(l,(l.length:Int),(i:Int),())) a0C (bt:=Sum.inl ()) (bf:=Sum.inr (false,()))
  (fun i h hp=>by simp[a3f,a0A h,a7F,hp,a0B (a08 h g),h])
  (fun i h hp=>by simp_all[a3f,a0A,a7F])
  (by simp[a3f])
 grind
theorem a1t(g:short l):a1u l=some (l.all a0C):=by
 unfold a1u
 have:=a1d (f:=a4o) l (fun i=>(l,(i:Int),())) a0C (bt:=Sum.inl ()) (bf:=Sum.inr (false,()))
  (fun i h hp=>by simp[a4o,a0A h,a1W,hp,a0B (a08 h g),h])
  (fun i h hp=>by simp_all[a4o,a0A,a1W])
  (by simp[a4o])
 grind
theorem a9D(h:short l):a2r l=some (l.all a0C):=by
 have e:b1j=a2S:=rfl
 have:a2r l=a2D l:=by rfl
 simp_all[a8H]
def b1s(x:Int):Bool:=decide (-32768≤x)&&decide (x<32768)
def a6B(c:List Int)(s:Int):Bool:=decide (1≤c.length)&&(decide (c.length≤32)&&(decide (0≤s)&&(decide (s≤15)&&c.all b1s)))
theorem a9E{c:List Int}{s:Int}(a:short c):a3S (c,s)=some (a6B c s):=by
 have:=a1d (f:=a4i) c (fun i=>(c,(c.length:Int),(i:Int),())) b1s (bt:=Sum.inl ()) (bf:=Sum.inr (false,()))
  (fun i h hp=>by
   simp[b1s]at hp;have g:¬ c[i] < -32768:=by omega
   have k:¬ c[i]≥32768:=by omega
   simp[a4i,a0A h,a0B (a08 h a),h,g,k])
  (fun i h hp=>by
   grind[b1s,a4i,a0A])
  (by simp[a4i])
 simp at this;unfold a3S a6B
 grind
theorem a5w{c:List Int}{s:Int}(a:short c):a3p (c,s)=some (a6B c s):=by
 have:=a1d (f:=a3i) c (fun i=>(c,s,(i:Int),())) b1s (bt:=Sum.inl (c,s,())) (bf:=Sum.inr (false,()))
  (fun i h hp=>by
   simp[b1s]at hp;have g:¬ c[i] < -32768:=by omega
   have k:¬ c[i]≥32768:=by omega
   simp[a3i,a0A h,a0B (a08 h a),h,g,k])
  (fun i h hp=>by
   grind[b1s,a3i,a0A])
  (by simp[a3i])
 simp at this;unfold a3p a6B
 grind
def b6y(x:Int):Bool:=decide (-64≤x)&&decide (x≤64)
def a9e(lag:Int)(t:List Int):Bool:=decide (2≤lag)&&(decide (lag≤1024)&&t.all b6y)
theorem b5L(g:t.length=3):a6L (lag,t)=some (a9e lag t):=by
 have:=a1d (f:=a5G) t (fun i=>(t,(i:Int),())) b6y (bt:=Sum.inl ()) (bf:=Sum.inr (false,()))
  (fun i h hp=>by
   simp[b6y]at hp
   grind[a5G,a0A,a0B])
  (fun i h hp=>by
   grind[b6y,a5G,a0A])
  (by simp_all[a5G])
 simp at this;unfold a6L a9e
 grind
theorem b2h{t:List Int}{lag:Int}(g:t.length=3):a5O (lag,t)=some (a9e lag t):=by
 have:=a1d (f:=a3W) t (fun i=>(lag,(i:Int),t,())) b6y (bt:=Sum.inl (lag,())) (bf:=Sum.inr (false,()))
  (fun i h hp=>by
   simp[b6y]at hp
   grind[a3W,a0A,a0B])
  (fun i h hp=>by
   grind[b6y,a3W,a0A])
  (by simp_all[a3W])
 simp at this;unfold a5O a9e
 grind
def stageB(s:Int×(Int×Unit)):Bool:=decide (1≤s.1)&&(decide (s.1≤32)&&(decide (0≤s.2.1)&&decide (s.2.1≤8)))
def a7u(l:List (Int×Int×Unit)):Bool:=decide (l.length≤3)&&l.all stageB
theorem a8J(s:Int×(Int×Unit)):a5H s=some (stageB s):=by
 grind[a5H,stageB]
theorem a8q(s:Int×(Int×Unit)):a5d s=some (stageB s):=by
 grind[a5d,stageB]
theorem b4j{l:List (Int×Int×Unit)}(g:short l):a5T l=some (a7u l):=by
 have:=a1d (f:=a4W) l (fun i=>(l,(l.length:Int),(i:Int),())) stageB (bt:=Sum.inl ()) (bf:=Sum.inr (false,()))
  (fun i h hp=>by simp[a4W,a0A h,a8J,hp,a0B (a08 h g),h])
  (fun i h hp=>by simp_all[a4W,a0A,a8J])
  (by simp[a4W])
 simp at this;unfold a5T a7u
 grind
theorem b1t{l:List (Int×Int×Unit)}(g:short l):a5e l=some (a7u l):=by
 have:=a1d (f:=a3C) l (fun i=>(l,(i:Int),())) stageB (bt:=Sum.inl (l,())) (bf:=Sum.inr (false,()))
  (fun i h hp=>by simp[a3C,a0A h,a8q,hp,a0B (a08 h g),h])
  (fun i h hp=>by simp_all[a3C,a0A,a8q])
  (by simp[a3C])
 simp at this;unfold a5e a7u;rw[this];cases l.all stageB with
 |false=>simp
 |true=>
  by_cases h:l.length≤3
  all_goals grind
@[reducible] def W(n:Int):Int:=wrap .i64 n
theorem b1u(n:Int):wrap .i64 n=Int.bmod n 18446744073709551616:=by
 grind[wrap,IntKind.bits,IntKind.signed]
theorem c7A{n:Int}(h:a0C n=true):W n=n:=by
 grind[a2H,a0D]
def a4d(guess:List Int→Int):List Int→List Int→Option (List Int)
 | [],out=>some out
 |x::r,out=>bif a0C (W (x+guess out))then a4d guess r (out++[W (x+guess out)])else none
def a6t{β:Type}(guess:List Int→Int)(bad:β)(out:List Int)(x:Int):List Int ⊕ β:=bif a0C (W (x+guess out))then .inl (out++[W (x+guess out)])else .inr bad
theorem a5x{β:Type}(h:List Int→Int)(g:β)(f:List Int→β):∀(l out:List Int),b4i f (a4c (a6t h g) l out)=match a4d h l out with|some r=>f r|none=>g
 | [],out=>rfl
 |x::l,out=>by
  simp[a4c,a6t,a4d];cases a0C (W (x+h out))with
  |true=>simp_all[a5x]
  |false=>rfl
theorem a9W(g:List Int→Int):∀(l out r:List Int),out.all a0C=true→a4d g l out=some r→r.all a0C=true∧r.length=out.length+l.length
 | [],out,r,h,e=>by simp_all[a4d]
 |x::l,out,r,h,e=>by
  simp[a4d]at e;cases hw:a0C (W (x+g out))with
  |true=>
   rw[hw]at e;obtain⟨f,k⟩:=a9W g l _ r (by simp_all) e
   grind
  |false=>simp_all
def a3Z:Option (List Int)→List Int×Int
 |some r=>(r,0)
 |none=>([],6)
def atB(out:List Int)(i:Nat):Int:=out.getD (out.length-i) 0
def a4G(o:Nat)(out:List Int):Int:=match o with
 | 1=>atB out 1
 | 2=>2*atB out 1-atB out 2
 | 3=>3*atB out 1-3*atB out 2+atB out 3
 | 4=>4*atB out 1-6*atB out 2+4*atB out 3-atB out 4
 |_=>0
theorem a9X{out:List Int}(f:1≤i)(h:i≤out.length)(g:short out):a1a ((i:Int),out)=some (atB out i,out):=by
 unfold a1a;have g:out.length<1000000:=g
 grind[a0D,a0A,atB]
theorem b9w{out:List Int}(e:o≤4)(h:o≤out.length)(a:short out):∃g,a7x (out,(o:Int))=some g∧∀x,W (x+g)=W (x+a4G o out):=by
 have f:=fun(h':1≤out.length)=>a9X (i:=1) (by omega) h' a;have k:=fun(h':2≤out.length)=>a9X (i:=2) (by omega) h' a;have b:=fun(h':3≤out.length)=>a9X (i:=3) (by omega) h' a;have c:=fun(h':4≤out.length)=>a9X (i:=4) (by omega) h' a;simp at f k b c;unfold a7x;have d:o=0∨o=1∨o=2∨o=3∨o=4:=by omega
 rcases d with rfl|rfl|rfl|rfl|rfl;exact⟨0,rfl,fun x=>rfl⟩;exact⟨_,by simp[f (by omega)];rfl,fun x=>rfl⟩;refine⟨_,by simp[f (by omega),k (by omega)];rfl,fun x=>?_⟩;simp_all[b1u,a4G];refine⟨_,by simp[f (by omega),k (by omega),b (by omega)];rfl,fun x=>?_⟩;simp_all[b1u,a4G];refine⟨_,by simp[f (by omega),k (by omega),b (by omega),c (by omega)];rfl,fun x=>?_⟩;simp_all[b1u,a4G]
theorem a0T(h:n<1000000):lim n=true:=a1h (by omega)
theorem c1z{warm rest:List Int}(u:o≤4)(x:warm.length=o)(w:rest.length<100000):
  a7V (warm,rest,(o:Int))=some (a3Z (bif warm.all a0C&&rest.all a0C then a4d (a4G o) rest warm else none)):=by
 have c:short warm:=by unfold short;omega
 have m:short rest:=by unfold short;omega
 unfold a7V;have p:¬ (o:Int)<0:=by omega
 have q:¬ (o:Int) > 4:=by omega
 have r:(((warm.length:Nat):Int) != (o:Int))=false:=by simp_all
 simp only[p,q,r,decide_false,cF,oB,a9D c,a9D m];cases hw1:warm.all a0C with
 |false=>rfl
 |true=>
  simp only[bT,cF,oB,a26];cases hw2:rest.all a0C with
  |false=>rfl
  |true=>
   simp[a0T c]
   have:=a1E (f:=a6e) rest (fun i out=>((o:Int),rest,(rest.length:Int),(i:Int),out,())) (a6t (a4G o) (Sum.inr ((6:Int),([]:List Int),())))
    (fun i out=>o≤out.length∧out.length≤o+i) (fun out=>Sum.inl (out,()))
    (fun i h out s=>by
     have j:i<1000000:=by omega
     have l:short out:=by unfold short;omega
     obtain⟨g,t,d⟩:=b9w u s.1 l;have e:wrap .i64 (rest[i]+g)=W (rest[i]+a4G o out):=d _;have k:a2r [W (rest[i]+a4G o out)]=some (a0C (W (rest[i]+a4G o out))):=by rw[a9D (by simp[short])];simp
     simp only[a6e,dlt h,cT,a0A h,oB,t,e,k,a6t];cases hb:a0C (W (rest[i]+a4G o out))with
     |true=>
      simp only[cT,bT,cF,a0T (show out.length+1<1000000 by omega),a0B j];refine⟨fun v n=>?_,fun b hb=>(by grind)⟩;simp at n;subst n;exact⟨rfl,by grind,by grind⟩
     |false=>
      simp)
    (fun out _=>by simp[a6e]) (a:=warm) ⟨by omega,by omega⟩
   simp[a5x]at this;rw[this];cases a4d (a4G o) rest warm<;>rfl
def a9F(o:Nat):List Int:=match o with
 | 1=>[1]
 | 2=>[2,-1]
 | 3=>[3,-3,1]
 | 4=>[4,-6,4,-1]
 |_=>[]
theorem c7B(g:o≤4):b0Q (o:Int)=some (a9F o):=by
 have h:o=0∨o=1∨o=2∨o=3∨o=4:=by omega
 rcases h with rfl|rfl|rfl|rfl|rfl<;>rfl
theorem c4x{o:Nat}(g:o≤4):(a9F o).length=o:=by
 have h:o=0∨o=1∨o=2∨o=3∨o=4:=by omega
 rcases h with rfl|rfl|rfl|rfl|rfl<;>rfl
def b4k(o:Nat)(out:List Int)(x:Int):Nat→Int
 |0=>x
 |k+1=>W (b4k o out x k+W ((a9F o).getD k 0*atB out (k+1)))
theorem b7P{rest out:List Int}{i:Int}(q:o≤4)(h:o≤out.length)(g:short out)(r:a0C x=true):
  y0s a3j (rest,(o:Int),a9F o,i,x,(0:Int),out,())=some (rest,(o:Int),a9F o,i,W (x+a4G o out),out,()):=by
 have g:out.length<1000000:=g
 have:=a1o (f:=a3j) (fun k=>(rest,(o:Int),a9F o,i,b4k o out x k,(k:Int),out,()))
  o (b:=(rest,(o:Int),a9F o,i,b4k o out x o,out,())) (fun k n=>by
   have a:wrap .i64 (((out.length:Nat):Int)-1)=((out.length-1:Nat):Int):=by grind[a0D]
   have c:wrap .i64 (((out.length-1:Nat):Int)-(k:Int))=((out.length-(k+1):Nat):Int):=by grind[a0D]
   have d:(0:Int)≤((out.length-(k+1):Nat):Int):=by omega
   have e:((out.length-(k+1):Nat):Int)<((out.length:Nat):Int):=by omega
   have j:k<(a9F o).length:=by simp_all[c4x]
   have l:(a9F o)[k]=(a9F o).getD k 0:=by simp_all
   simp only[a3j,dlt n,cT,a0A j,oB,a,c,d,e,decide_true,a02,tN,a0B (show k<1000000 by omega),b4k,atB,l])
  (by simp[a3j])
 simp[b4k]at this;rw[this];have p:b4k o out x o=W (x+a4G o out):=by
  have m:o=0∨o=1∨o=2∨o=3∨o=4:=by omega
  rcases m with rfl|rfl|rfl|rfl|rfl;simp_all[b4k,a4G,c7A]
  all_goals
   simp only[b4k,a9F,a4G,List.getD_cons_zero,a64,Nat.zero_add,Nat.reduceAdd,W,b1u,Int.add_bmod_bmod,Int.bmod_add_bmod]
   grind
 grind
theorem b6z{warm rest:List Int}{o:Nat}(m:o≤4)(u:warm.length=o)(t:rest.length<100000):
  a6j (warm,rest,(o:Int))=some (a3Z (bif warm.all a0C&&rest.all a0C then a4d (a4G o) rest warm else none)):=by
 have e:short warm:=by unfold short;omega
 have d:short rest:=by unfold short;omega
 unfold a6j;have n:¬ (o:Int)<0:=by omega
 have p:¬ (o:Int) > 4:=by omega
 have q:(((warm.length:Nat):Int) != (o:Int))=false:=by simp_all
 simp only[n,p,q,decide_false,cF,oB,a1t e,a1t d];cases hw1:warm.all a0C with
 |false=>rfl
 |true=>
  simp only[bT,cF,oB,a26];cases hw2:rest.all a0C with
  |false=>rfl
  |true=>
   have k:lim (0+warm.length)=true:=a0T (by omega);simp only[bT,cF,cT,k,c7B m,oB,a05,a09]
   have:=a1E (f:=a4q) rest (fun i out=>(rest,(o:Int),a9F o,(i:Int),out,())) (a6t (a4G o) (Sum.inr ((6:Int),([]:List Int),())))
    (fun i out=>o≤out.length∧out.length≤o+i) (fun out=>Sum.inl (out,()))
    (fun i h out r=>by
     have g:i<1000000:=by omega
     have c:short out:=by unfold short;omega
     have j:a0C rest[i]=true:=lA.1 hw2 _ (a06 h);simp only[a4q,dlt h,cT,a0A h,oB,b7P m r.1 c j,a1W,a6t];cases hb:a0C (W (rest[i]+a4G o out))with
     |true=>
      simp only[cT,bT,cF,a0T (show out.length+1<1000000 by omega),a0B g];refine⟨fun s l=>?_,fun b hb=>(by grind)⟩;simp at l;subst l;exact⟨rfl,by grind,by grind⟩
     |false=>
      simp)
    (fun out _=>by simp[a4q]) (a:=warm) ⟨by omega,by omega⟩
   simp[a5x]at this;rw[this];cases a4d (a4G o) rest warm<;>rfl
def b4l(out:List Int):List Int→Nat→Int→Int
 | [],_,acc=>acc
 |c::r,i,acc=>bif decide (i<out.length)then b4l out r (i+1) (W (acc+W (c*atB out (i+1))))else acc
def a8r(c:List Int)(s:Int)(out:List Int):Int:=A0o .i64 (b4l out c 0 0) s
theorem c7C{out:List Int}(h:i<out.length)(g:short out):m0k out (wrap .i64 (wrap .i64 (((out.length:Nat):Int)-1)-(i:Int)))=some (atB out (i+1)):=by
 have g:out.length<1000000:=g
 grind[a0D,a0A,atB]
theorem c8F{out:List Int}(h:i<out.length)(g:out.all a0C=true):a0C (atB out (i+1))=true:=by
 grind[atB]
theorem b4m{out c:List Int}{s:Int}(f:short out)(a:short c):∀(k i:Nat)(acc:Int),i+k=c.length→
  y0s a2M (out,s,acc,c,(c.length:Int),(i:Int),())=some (s,b4l out (c.drop i) i acc,())
 |0,i,acc,h=>by
  obtain rfl:i=c.length:=by omega
  simp_all[a0E,a2M,b4l]
 |k+1,i,acc,h=>by
  have g:i<c.length:=by omega
  have e:out.length<1000000:=f;have d:c.length<1000000:=a;rw[a03 g,b4l];have j:wrap .i64 (((out.length:Nat):Int)-1)=((out.length:Nat):Int)-1:=a0D (by omega);have l:wrap .i64 (((out.length:Nat):Int)-1-(i:Int))=((out.length:Nat):Int)-1-(i:Int):=a0D (by omega)
  by_cases hi:i<out.length
  have b:decide (wrap .i64 (wrap .i64 (((out.length:Nat):Int)-1)-(i:Int))<0)=false:=by grind
  simp[hi];rw[a0G (s':=(out,s,W (acc+W (c[i]*atB out (i+1))),c,(c.length:Int),((i+1:Nat):Int),())) (by
   simp only[a2M,dlt g,cT,a0A g,oB,b,cF,c7C hi f,a0B (show i<1000000 by omega)])]
  exact b4m f a k (i+1) _ (by omega);have b:decide (wrap .i64 (wrap .i64 (((out.length:Nat):Int)-1)-(i:Int))<0)=true:=by grind
  simp[hi];simp_all[a0E,a2M,a0A]
theorem c6K{out c:List Int}{s:Int}(g:short out)(h:short c)(f:0≤s):a3T (out,c,s)=some (a8r c s out):=by
 have:=b4m (s:=s) g h c.length 0 0 (by omega)
 grind[a3T,a8r]
theorem b7Q{out c:List Int}{s:Int}(f:short out)(a:short c)(b:out.all a0C=true):∀(k i:Nat)(acc:Int),i+k=c.length→
  y0s a2v (out,c,s,acc,(i:Int),())=some (Sum.inl (s,b4l out (c.drop i) i acc,()))
 |0,i,acc,h=>by
  obtain rfl:i=c.length:=by omega
  simp_all[a0E,a2v,b4l]
 |k+1,i,acc,h=>by
  have g:i<c.length:=by omega
  have j:out.length<1000000:=f;have d:c.length<1000000:=a;rw[a03 g,b4l]
  by_cases hi:i<out.length
  simp[hi];rw[a0G (s':=(out,c,s,W (acc+W (c[i]*atB out (i+1))),((i+1:Nat):Int),())) (by
   simp only[a2v,dlt g,dlt hi,cT,c7C hi f,oB,a1W,c8F hi b,bT,cF,a0A g,a0B (show i<1000000 by omega)])]
  exact b7Q f a b k (i+1) _ (by omega);have e:decide ((i:Int)<((out.length:Nat):Int))=false:=by simp_all
  simp[hi];exact a0E (by simp only[a2v,dlt g,cT,e,cF])
theorem b5M{s:Int}(h:0≤s)(g:s≤64):wrap .u64 s=s:=a0P (by omega)
theorem b4n{out c:List Int}{s:Int}(f:short out)(h:short c)(k:out.all a0C=true)(g:a6B c s=true):a4N (out,c,s)=some (a8r c s out):=by
 have:=b7Q (s:=s) f h k c.length 0 0 (by omega)
 simp at this;unfold a4N;simp[a5w h,g,this];simp only[a6B,bA,dT]at g
 grind[b5M,a8r]
def b0T(warm rest c:List Int)(s:Int):Option (List Int):=bif warm.all a0C&&rest.all a0C then a4d (a8r c s) rest warm else none
theorem b2i{warm rest c:List Int}{s:Int}(o:a6B c s=true)(w:warm.length=c.length)(v:rest.length<100000):
  a5I (warm,rest,c,s)=some (a3Z (b0T warm rest c s)):=by
 have g:=o;simp only[a6B,bA,dT]at g;have k:short c:=by unfold short;omega
 have m:short warm:=by unfold short;omega
 have l:short rest:=by unfold short;omega
 unfold a5I;have q:(((warm.length:Nat):Int) != ((c.length:Nat):Int))=false:=by simp_all
 simp only[a9E k,o,oB,bT,cF,q,a9N m,a9N l,b0T];cases hw1:warm.all a0C with
 |false=>rfl
 |true=>
  simp only[bT,cF,oB,a26];cases hw2:rest.all a0C with
  |false=>rfl
  |true=>
   have p:wrap .i64 (((warm.length:Nat):Int)+((rest.length:Nat):Int))=((warm.length+rest.length:Nat):Int):=by grind[a0D]
   have r:(0:Int)≤((warm.length+rest.length:Nat):Int):=by omega
   simp only[bT,cF,cT,p,r,decide_true,tN,a0T (show warm.length+rest.length<1000000 by omega),a0T (show 0+warm.length<1000000 by omega),a02,a05,a09]
   have:=a1E (f:=a5q) rest (fun i out=>(c,s,rest,(rest.length:Int),(i:Int),out,())) (a6t (a8r c s) (Sum.inr ((6:Int),([]:List Int),())))
    (fun i out=>out.length≤warm.length+i) (fun out=>Sum.inl (out,()))
    (fun i h out u=>by
     have d:i<1000000:=by omega
     have j:short out:=by unfold short;omega
     have e:wrap .i64 (a8r c s out+rest[i])=W (rest[i]+a8r c s out):=by grind
     simp only[a5q,dlt h,cT,a0A h,oB,c6K j k g.2.2.1,e,a8I,a6t];cases hb:a0C (W (rest[i]+a8r c s out))with
     |true=>
      simp only[cT,bT,cF,a0T (show out.length+1<1000000 by omega),a0B d];refine⟨fun t n=>?_,fun b hb=>(by grind)⟩;simp at n;subst n;exact⟨rfl,by grind⟩
     |false=>
      simp)
    (fun out _=>by simp[a5q]) (a:=warm) (by omega)
   simp[a5x]at this;rw[this];cases a4d (a8r c s) rest warm<;>rfl
theorem a9O{warm rest c:List Int}{s:Int}(k:a6B c s=true)(t:warm.length=c.length)(r:rest.length<100000):
  a3X (warm,rest,c,s)=some (a3Z (b0T warm rest c s)):=by
 have d:=k;simp only[a6B,bA,dT]at d;have g:short c:=by unfold short;omega
 have m:short warm:=by unfold short;omega
 have l:short rest:=by unfold short;omega
 unfold a3X;have o:(((warm.length:Nat):Int) != ((c.length:Nat):Int))=false:=by simp_all
 simp only[a5w g,k,oB,bT,cF,o,a1t m,a1t l,b0T];cases hw1:warm.all a0C with
 |false=>rfl
 |true=>
  simp only[bT,cF,oB,a26];cases hw2:rest.all a0C with
  |false=>rfl
  |true=>
   simp only[bT,cF,cT,a0T (show 0+warm.length<1000000 by omega),a05,a09]
   have:=a1E (f:=a4b) rest (fun i out=>(rest,c,s,(i:Int),out,())) (a6t (a8r c s) (Sum.inr ((6:Int),([]:List Int),())))
    (fun i out=>out.length≤warm.length+i∧out.all a0C=true) (fun out=>Sum.inl (out,()))
    (fun i h out p=>by
     have e:i<1000000:=by omega
     have j:short out:=by unfold short;omega
     simp only[a4b,dlt h,cT,a0A h,oB,b4n j g p.2 k,a1W,a6t];cases hb:a0C (W (rest[i]+a8r c s out))with
     |true=>
      simp only[cT,bT,cF,a0T (show out.length+1<1000000 by omega),a0B e];refine⟨fun q n=>?_,fun b hb=>(by grind)⟩;simp at n;subst n;exact⟨rfl,by grind,by simp_all⟩
     |false=>
      simp)
    (fun out _=>by simp[a4b]) (a:=warm) ⟨by omega,hw1⟩
   simp[a5x]at this;rw[this];cases a4d (a8r c s) rest warm<;>rfl
def b4o(out:List Int)(lag:Int):List Int→Nat→Int→Int
 | [],_,acc=>acc
 |t::r,i,acc=>b4o out lag r (i+1) (bif decide (0≤(out.length:Int)-lag-1+i)then W (acc+W (t*out.getD ((out.length:Int)-lag-1+i).toNat 0))else acc)
def a7a(lag:Int)(t:List Int)(out:List Int):Int:=A0o .i64 (b4o out lag t 0 0) 6
theorem b2I{out:List Int}{j:Int}(g:0≤j)(h:j<out.length):m0k out j=some (out.getD j.toNat 0):=by
 obtain⟨n,rfl⟩:=a01 g;simp_all[a0A]
theorem c4W(h:2≤lag)(g:lag≤1024)(k:n<1000000)(f:i<3):
  wrap .i64 (wrap .i64 (wrap .i64 ((n:Int)-lag)-1)+(i:Int))=(n:Int)-lag-1+i:=by
 grind[a0D]
theorem c7D{j:Nat}(h:j<n):(l.take n).getD j 0=l.getD j 0:=by
 simp_all
theorem a7h{l t:List Int}{lag:Int}{n:Nat}(m:n≤l.length)(j:short l)(o:t.length=3)(a:2≤lag)(b:lag≤1024):∀(k i:Nat)(acc:Int),i+k=3→
  y0s a3z (l,(n:Int),lag,acc,t,(i:Int),())=some (b4o (l.take n) lag (t.drop i) i acc,())
 |0,i,acc,h=>by
  obtain rfl:i=t.length:=by omega
  grind[a0E,a3z,b4o]
 |k+1,i,acc,h=>by
  have g:i<t.length:=by omega
  have f:decide ((i:Int)<3)=true:=by grind
  have p:l.length<1000000:=j;have d:(l.take n).length=n:=by simp_all
  have e:=c4W (n:=n) (i:=i) a b (by omega) (by omega);rw[a03 g,b4o,d]
  by_cases hp:0≤(n:Int)-lag-1+i
  have c:decide ((n:Int)-lag-1+i≥0)=true:=by simp_all
  simp only[hp,decide_true,cT];rw[c7D (show((n:Int)-lag-1+i).toNat<n by omega),a0G (s':=(l,(n:Int),lag,W (acc+W (t[i]*l.getD ((n:Int)-lag-1+i).toNat 0)),t,((i+1:Nat):Int),())) (by
   simp only[a3z,f,cT,a0A g,oB,e,c,b2I hp (show(n:Int)-lag-1+(i:Int)<(l.length:Int)by omega),a0B (show i<1000000 by omega)])]
  exact a7h m j o a b k (i+1) _ (by omega);have c:decide ((n:Int)-lag-1+i≥0)=false:=by simp_all
  simp[hp];rw[a0G (s':=(l,(n:Int),lag,acc,t,((i+1:Nat):Int),())) (by
   simp only[a3z,f,cT,a0A g,oB,e,c,cF,a0B (show i<1000000 by omega)])]
  exact a7h m j o a b k (i+1) _ (by omega)
theorem b7R{l t:List Int}{lag:Int}{n:Nat}(f:n≤l.length)(k:short l)(a:t.length=3)(h:2≤lag)(g:lag≤1024):
  a3O (l,(n:Int),lag,t)=some (a7a lag t (l.take n)):=by
 have:=a7h (t:=t) f k a h g 3 0 0 (by rfl)
 simp_all[a3O,a7a]
theorem b7S{out:List Int}(f:short out)(k:t.length=3)(h:2≤lag)(g:lag≤1024):a3O (out,(out.length:Int),lag,t)=some (a7a lag t out):=by
 simp_all[b7R]
theorem a6C{out t:List Int}{lag:Int}(d:short out)(l:t.length=3)(a:2≤lag)(b:lag≤1024):∀(k i:Nat)(acc:Int),i+k=3→
  y0s a3k (out,lag,acc,(i:Int),t,())=some (b4o out lag (t.drop i) i acc,())
 |0,i,acc,h=>by
  obtain rfl:i=t.length:=by omega
  grind[a0E,a3k,b4o]
 |k+1,i,acc,h=>by
  have f:i<t.length:=by omega
  have g:decide ((i:Int)<3)=true:=by grind
  have j:out.length<1000000:=d;have e:=c4W (i:=i) a b j (by omega);rw[a03 f,b4o]
  by_cases hp:0≤(out.length:Int)-lag-1+i
  have c:decide ((out.length:Int)-lag-1+i≥0)=true:=by simp_all
  simp only[hp,decide_true,cT];rw[a0G (s':=(out,lag,W (acc+W (t[i]*out.getD ((out.length:Int)-lag-1+i).toNat 0)),((i+1:Nat):Int),t,())) (by
   simp only[a3k,g,cT,a0A f,oB,e,c,b2I hp (show(out.length:Int)-lag-1+(i:Int)<(out.length:Int)by omega),a0B (show i<1000000 by omega)])]
  exact a6C d l a b k (i+1) _ (by omega);have c:decide ((out.length:Int)-lag-1+i≥0)=false:=by simp_all
  simp[hp];rw[a0G (s':=(out,lag,acc,((i+1:Nat):Int),t,())) (by
   simp only[a3k,g,cT,e,c,cF,a0B (show i<1000000 by omega)])]
  exact a6C d l a b k (i+1) _ (by omega)
theorem b6A{out:List Int}(f:short out)(k:t.length=3)(h:2≤lag)(g:lag≤1024):a6k (out,lag,t)=some (a7a lag t out):=by
 have:=a6C (out:=out) (t:=t) f k h g 3 0 0 (by rfl)
 simp_all[a6k,a7a]
def b2J(rest:List Int)(lag:Int)(t:List Int):Option (List Int):=bif rest.all a0C then a4d (a7a lag t) rest []else none
theorem c2U{rest:List Int}(d:a9e lag t=true)(e:t.length=3)(m:rest.length<100000):a8T (rest,lag,t)=some (a3Z (b2J rest lag t)):=by
 have g:=d;simp only[a9e,bA,dT]at g;have k:short rest:=by unfold short;omega
 unfold a8T;simp only[b5L e,d,oB,bT,cF,b7O k,b2J];cases hw2:rest.all a0C with
 |false=>rfl
 |true=>
  have l:(0:Int)≤((rest.length:Nat):Int):=by omega
  simp[a0T k]
  have:=a1E (f:=a6M) rest (fun i out=>(lag,rest,(rest.length:Int),(i:Int),out,t,())) (a6t (a7a lag t) (Sum.inr ((6:Int),([]:List Int),())))
   (fun i out=>out.length=i) (fun out=>Sum.inl (out,()))
   (fun i h out j=>by
    have b:i<1000000:=by omega
    have c:short out:=by unfold short;omega
    have hp:=b7S (out:=out) (t:=t) (lag:=lag) c e g.1 g.2.1;rw[j]at hp;simp only[a6M,dlt h,cT,a0A h,oB,hp,b0S,a6t];cases hb:a0C (W (rest[i]+a7a lag t out))with
    |true=>
     simp only[cT,bT,cF,a0T (show out.length+1<1000000 by omega),a0B b];simp_all
    |false=>
     simp)
   (fun out _=>by simp[a6M]) (a:=[]) rfl
  simp[a5x]at this;rw[this];cases a4d (a7a lag t) rest []<;>rfl
theorem b7T{rest t:List Int}{lag:Int}(d:a9e lag t=true)(e:t.length=3)(l:rest.length<100000):a6T (rest,lag,t)=some (a3Z (b2J rest lag t)):=by
 have g:=d;simp only[a9e,bA,dT]at g;have c:short rest:=by unfold short;omega
 unfold a6T;simp only[b2h e,d,oB,bT,cF,a1t c,b2J];cases hw2:rest.all a0C with
 |false=>rfl
 |true=>
  simp
  have:=a1E (f:=a4O) rest (fun i out=>(rest,lag,(i:Int),out,t,())) (a6t (a7a lag t) (Sum.inr ((6:Int),([]:List Int),())))
   (fun i out=>out.length=i) (fun out=>Sum.inl (out,()))
   (fun i h out j=>by
    have k:i<1000000:=by omega
    have b:short out:=by unfold short;omega
    simp only[a4O,dlt h,cT,a0A h,oB,b6A b e g.1 g.2.1,a1W,a6t];cases hb:a0C (W (rest[i]+a7a lag t out))with
    |true=>
     simp only[cT,bT,cF,a0T (show out.length+1<1000000 by omega),a0B k];simp_all
    |false=>
     simp)
   (fun out _=>by simp[a4O]) (a:=[]) rfl
  simp[a5x]at this;rw[this];cases a4d (a7a lag t) rest []<;>rfl
def b2j{β:Type}(n:Int)(bad:β)(out:List Int)(x:Int):List Int ⊕ β:=bif a0C x&&a0C (A0n .i64 x n)then .inl (out++[A0n .i64 x n])else .inr bad
def upO(n:Int)(l:List Int):Option (List Int):=bif l.all (fun x=>a0C x&&a0C (A0n .i64 x n))then some (l.map fun x=>A0n .i64 x n)else none
theorem b1R{β:Type}(n:Int)(h:β)(g:List Int→β):∀(l out:List Int),b4i g (a4c (b2j n h) l out)=match upO n l with|some r=>g (out++r)|none=>h
 | [],out=>by simp[a4c,b4i,upO]
 |x::l,out=>by
  simp only[a4c,b2j,upO,a33];cases hx:(a0C x&&a0C (A0n .i64 x n))with
  |true=>
   simp only[cT,a26];rw[b1R n h g l _];simp only[upO];cases l.all (fun x=>a0C x&&a0C (A0n .i64 x n))with
   |true=>simp
   |false=>rfl
  |false=>rfl
theorem c2V{n:Int}(d:0≤n)(e:n≤30)(m:l.length<100000):a7n (l,n)=some (a3Z (upO n l)):=by
 have c:short l:=by unfold short;omega
 have g:¬ n<0:=by omega
 have b:¬ n > 30:=by omega
 unfold a7n;simp[g,b]
 have:=a1E (f:=a6N) l (fun i out=>(n,l,(l.length:Int),(i:Int),out,())) (b2j n (Sum.inr ((6:Int),([]:List Int),())))
  (fun i out=>out.length=i) (fun out=>Sum.inl (out,()))
  (fun i h out j=>by
   have k:i<1000000:=by omega
   simp only[a6N,dlt h,cT,a0A h,oB,b9v,b2j,g,decide_false,cF];cases hb:a0C l[i]with
   |true=>
    cases hb2:a0C (A0n .i64 l[i] n)with
    |true=>
     simp only[cT,bT,cF,oB,g,decide_false,a0T (show out.length+1<1000000 by omega),a0B k,a02];simp_all
    |false=>
     simp
   |false=>
    simp)
  (fun out _=>by simp[a6N]) (a:=[]) rfl
 simp[b1R]at this;rw[this];cases upO n l<;>rfl
theorem c7E{n:Int}(d:0≤n)(j:n≤30)(o:l.length<100000):b4O (l,n)=some (a3Z (upO n l)):=by
 have e:short l:=by unfold short;omega
 have g:¬ n<0:=by omega
 have c:¬ n > 30:=by omega
 have b:=b5M d (by omega);unfold b4O;simp[g,c]
 have:=a1E (f:=a9S) l (fun i out=>(l,n,(i:Int),out,())) (b2j n (Sum.inr ((6:Int),([]:List Int),())))
  (fun i out=>out.length=i) (fun out=>Sum.inl (out,()))
  (fun i h out m=>by
   have k:i<1000000:=by omega
   simp only[a9S,dlt h,cT,a0A h,oB,a1W,b2j,b,g,decide_false,cF];cases hb:a0C l[i]with
   |true=>
    cases hb2:a0C (A0n .i64 l[i] n)with
    |true=>
     simp only[cT,bT,cF,oB,b,g,decide_false,a0A h,a0T (show out.length+1<1000000 by omega),a0B k,a02];simp_all
    |false=>
     simp
   |false=>
    simp)
  (fun out _=>by simp[a9S]) (a:=[]) rfl
 simp[b1R]at this;rw[this];cases upO n l<;>rfl
@[reducible] def Fil:Type:=Int×((List Int)×((List Int)×Unit))
variable {f:Fil}
def a1l(x:Int):Int:=v0s (v0r x (-1073741824)) 1073741823
def b7U(x:Int):Int:=v0s (v0r x (-1048576)) 1048576
theorem b4p(x:Int):-1073741824≤a1l x∧a1l x≤1073741823:=by
 grind[a1l,c4V,b9u]
theorem c2W(x:Int):-1048576≤b7U x∧b7U x≤1048576:=by
 grind[b7U,c4V,b9u]
def b9x:List Int→List Int→Int→Int
 |a::w,b::h,acc=>b9x w h (W (acc+W (a*b)))
 |_,_,acc=>acc
def a0Q(f:Fil):Int:=a1l (A0o .i64 (b9x f.2.1 f.2.2.1 0) 16)
structure FilOk (f:Fil):Prop where
 len:f.2.1.length=f.2.2.1.length
 pos:1≤f.2.1.length
 most:f.2.1.length≤32
 rate:0≤f.1∧f.1≤8
 small:∀x∈f.2.1,-1048576≤x∧x≤1048576
theorem a7L(h:i<l.length):a40 l i 0=l[i]:=by
 simp_all
theorem b0U{f:Fil}(c:FilOk f):∀(k i:Nat)(acc:Int),i+k=f.2.1.length→
  y0s a2I (acc,(f.2.1.length:Int),(i:Int),f,())=some (b9x (f.2.1.drop i) (f.2.2.1.drop i) acc,f,())
 |0,i,acc,h=>by
  obtain rfl:i=f.2.1.length:=by omega
  rw[a46,a0E (b:=(acc,f,())) (by simp[a2I])];rfl
 |k+1,i,acc,h=>by
  have g:i<f.2.1.length:=by omega
  have a:i<f.2.2.1.length:=by rw[←c.len];omega
  have e:=c.most;rw[a03 g,a03 a,b9x];have d:decide ((0:Int)≤(i:Int))=true:=by simp
  rw[a0G (s':=(W (acc+W (f.2.1[i]*f.2.2.1[i])),(f.2.1.length:Int),((i+1:Nat):Int),f,())) (by
   simp only[a2I,dlt g,dlt a,d,cT,a02,tN,a7L g,a7L a,a0B (show i<1000000 by omega)])]
  exact b0U c k (i+1) _ (by omega)
theorem a8K(h:FilOk f):a1X f=some (a0Q f,f):=by
 have:=b0U h f.2.1.length 0 0 (by omega)
 simp at this;unfold a1X;simp only[this,oB,a4k];rfl
theorem b2k{f:Fil}(c:FilOk f):∀(k i:Nat)(acc:Int),i+k=f.2.1.length→
  y0s a3q (acc,(i:Int),f,())=some (b9x (f.2.1.drop i) (f.2.2.1.drop i) acc,f,())
 |0,i,acc,h=>by
  obtain rfl:i=f.2.1.length:=by omega
  rw[a46,a0E (b:=(acc,f,())) (by simp[a3q])];rfl
 |k+1,i,acc,h=>by
  have g:i<f.2.1.length:=by omega
  have a:i<f.2.2.1.length:=by rw[←c.len];omega
  have e:=c.most;rw[a03 g,a03 a,b9x];have d:decide ((0:Int)≤(i:Int))=true:=by simp
  rw[a0G (s':=(W (acc+W (f.2.1[i]*f.2.2.1[i])),((i+1:Nat):Int),f,())) (by
   simp only[a3q,dlt g,dlt a,d,cT,a02,tN,a7L g,a7L a,a0B (show i<1000000 by omega)])]
  exact b2k c k (i+1) _ (by omega)
theorem b0V{f:Fil}(h:FilOk f):a3l f=some (a0Q f,f):=by
 have:=b2k h f.2.1.length 0 0 (by omega)
 simp at this;unfold a3l;simp only[this,oB,a8f];rfl
def a4T(x:Int):Int:=if 0<x then 1 else if x<0 then -1 else 0
def a9f(r:Int)(x g:Int):Int:=a4T (x-g)*2^r.toNat
def a9G(st:Int)(w h:Int):Int:=b7U (W (w+a4T h*st))
def a9Y(f:Fil)(x:Int):Fil:=
 (f.1,a27 (a9G (a9f f.1 (a1l x) (a0Q f))) f.2.1 f.2.2.1,a1l x::f.2.2.1.take (f.2.2.1.length-1),f.2.2.2)
theorem c2X(k:FilOk f)(x:Int):FilOk (a9Y f x):=by
 obtain⟨a,b,c,g,d⟩:=k;have e:(a27 (a9G (a9f f.1 (a1l x) (a0Q f))) f.2.1 f.2.2.1).length=f.2.1.length:=by simp_all
 refine⟨?_,?_,?_,g,?_⟩;show(a27 _ _ _).length=(a1l x::f.2.2.1.take (f.2.2.1.length-1)).length;simp_all;show 1≤(a27 _ _ _).length;omega;show(a27 _ _ _).length≤32;omega;intro y h;have h:y∈a27 (a9G (a9f f.1 (a1l x) (a0Q f))) f.2.1 f.2.2.1:=h;obtain⟨i,j,rfl⟩:=a86.1 h
 simp
 exact c2W _
theorem a5Z(x:Int):(0<x∧a4T x=1)∨(x<0∧a4T x=-1)∨(x=0∧a4T x=0):=by
 unfold a4T;omega
theorem b6B{r:Int}(h:0≤r∧r≤8):(2:Int)^r.toNat≤256∧1≤(2:Int)^r.toNat:=by
 have:r.toNat=0∨r.toNat=1∨r.toNat=2∨r.toNat=3∨r.toNat=4∨r.toNat=5∨r.toNat=6∨r.toNat=7∨r.toNat=8:=by omega
 rcases this with e|e|e|e|e|e|e|e|e<;>rw[e]<;>decide
theorem b9M{r:Int}(h:0≤r∧r≤8)(g:-1≤x∧x≤1):A0n .i64 x r=x*2^r.toNat:=by
 have hp:=b6B h;have hb:min r.toNat 64=r.toNat:=by omega
 unfold A0n;show wrap .i64 (x*2^(min r.toNat 64))=_;rw[hb]
 have:x=-1∨x=0∨x=1:=by omega
 rcases this with rfl|rfl|rfl
 all_goals grind[a0D]
theorem c1A(a:FilOk f)(x:Int):
  (bif decide (a1l x > a0Q f)then bif decide (f.1<0)then(none:Option (Int×Int×Fil×Unit))else some (a1l x,A0n .i64 (1:Int) f.1,f,())
   else bif decide (a1l x<a0Q f)then bif decide (f.1<0)then none else some (a1l x,wrap .i64 (0-(A0n .i64 (1:Int) f.1)),f,())
   else some (a1l x,(0:Int),f,()))=some (a1l x,a9f f.1 (a1l x) (a0Q f),f,()):=by
 have d:¬ f.1<0:=by have:=a.rate;omega
 have hp:=b6B a.rate;have b:=b9M a.rate (x:=1) (by omega);rw[Int.one_mul]at b;rcases a5Z (a1l x-a0Q f)with⟨c,h⟩|⟨c,h⟩|⟨c,h⟩;have g:a1l x > a0Q f:=by omega
 simp only[g,d,decide_true,decide_false,cT,cF,a9f,h,Int.one_mul,b];have g:¬ a1l x > a0Q f:=by omega
 have k:a1l x<a0Q f:=by omega
 simp only[g,k,d,decide_true,decide_false,cT,cF,a9f,h,b]
 grind[a0D]
 have g:¬ a1l x > a0Q f:=by omega
 have k:¬ a1l x<a0Q f:=by omega
 simp only[g,k,decide_false,cF,a9f,h,Int.zero_mul]
theorem c2Y{z:List Int}(f:i<l.length)(k:z.length=l.length):(z.take i++l.drop i).set i (z[i]'(by omega))=z.take (i+1)++l.drop (i+1):=by
 have h:(z.take i).length=i:=by grind
 have g:z.take (i+1)=z.take i++[z[i]'(by omega)]:=by simp
 rw[a79 _ _ (by omega),h,a61,a03 f,a95,g,aA];rfl
theorem c8G{z:List Int}(h:i<l.length)(g:z.length=l.length):a40 (z.take i++l.drop i) i 0=l[i]:=by
 grind
theorem c7F(g:FilOk f)(h:i<f.2.1.length):-1048576≤f.2.1[i]∧f.2.1[i]≤1048576:=g.small _ (a06 h)
theorem b7V(n:FilOk f){x1 st:Int}(u:-256≤st∧st≤256):
  y0s a2e (x1,st,(f.2.2.1.length:Int),(0:Int),f,())=some (x1,(f.1,a27 (a9G st) f.2.1 f.2.2.1,f.2.2),()):=by
 obtain⟨z,w⟩:∃z,a27 (a9G st) f.2.1 f.2.2.1=z:=⟨_,rfl⟩;have q:=n.len;have d:z.length=f.2.1.length:=by grind
 have v:=n.most
 have:=a1o (f:=a2e) (fun i=>(x1,st,(f.2.2.1.length:Int),(i:Int),(f.1,z.take i++f.2.1.drop i,f.2.2),()))
  f.2.2.1.length (b:=(x1,(f.1,z,f.2.2),())) (fun i p=>by
   have k:i<f.2.1.length:=by omega
   have j:decide ((0:Int)≤(i:Int))=true:=by simp
   have s:(z.take i++f.2.1.drop i).length=f.2.1.length:=by grind
   have g:decide ((i:Int)<((z.take i++f.2.1.drop i).length:Int))=true:=by simp_all
   have o:z[i]'(by omega)=a9G st f.2.1[i] f.2.2.1[i]:=by grind
   have t:=c7F n k;have h:=c2Y k d;rw[o]at h;simp only[a2e,dlt p,j,g,cT,a02,tN,a7L p,c8G k d];rcases a5Z f.2.2.1[i]with⟨m,a⟩|⟨m,a⟩|⟨m,a⟩;have c:f.2.2.1[i] > 0:=m;simp[a9G,a]at h;simp only[c,decide_true,cT,oB,j,g,a02,tN,a0B (show i<1000000 by omega)];exact congrArg (fun l=>some (Sum.inl (x1,st,(f.2.2.1.length:Int),((i+1:Nat):Int),(f.1,l,f.2.2),()))) h;have c:¬ f.2.2.1[i] > 0:=by omega
   have e:f.2.1[i]+-1*st=f.2.1[i]-st:=by omega
   simp only[a9G,a,e]at h;simp only[c,m,decide_true,decide_false,cT,cF,oB,j,g,a02,tN,a0B (show i<1000000 by omega)];exact congrArg (fun l=>some (Sum.inl (x1,st,(f.2.2.1.length:Int),((i+1:Nat):Int),(f.1,l,f.2.2),()))) h;have c:¬ f.2.2.1[i] > 0:=by omega
   have r:¬ f.2.2.1[i]<0:=by omega
   have e:W (f.2.1[i]+0*st)=f.2.1[i]:=by rw[Int.zero_mul,Int.add_zero];exact a0D (by omega)
   simp only[a9G,a,e]at h;simp only[c,r,decide_false,cF,oB,j,g,cT,a02,tN,a0B (show i<1000000 by omega)];exact congrArg (fun l=>some (Sum.inl (x1,st,(f.2.2.1.length:Int),((i+1:Nat):Int),(f.1,l,f.2.2),()))) h)
  (by
   simp_all[a38,a2e])
 simp_all
theorem c4y(k:FilOk f)(x g:Int):-256≤a9f f.1 x g∧a9f f.1 x g≤256:=by
 have hp:=b6B k.rate;unfold a9f;rcases a5Z (x-g)with⟨-,h⟩|⟨-,h⟩|⟨-,h⟩<;>rw[h]<;>omega
theorem c1B(h:FilOk f)(x:Int):a2N (f,x)=some (a9Y f x):=by
 unfold a2N;have d:=c1A h x;simp only[a4k,oB,a8K h];have g:(bif decide (v0s (v0r x (-1073741824)) 1073741823 > a0Q f)then bif decide (f.1<0)then(none:Option (Int×Int×Fil×Unit))else some (v0s (v0r x (-1073741824)) 1073741823,A0n .i64 (1:Int) f.1,f,())
   else bif decide (v0s (v0r x (-1073741824)) 1073741823<a0Q f)then bif decide (f.1<0)then none else some (v0s (v0r x (-1073741824)) 1073741823,wrap .i64 (0-(A0n .i64 (1:Int) f.1)),f,())
   else some (v0s (v0r x (-1073741824)) 1073741823,(0:Int),f,()))=_:=d
 rw[g];simp only[oB,b7V h (c4y h _ _)];have i:f.2.2.1.length≥1:=by have:=h.pos;have:=h.len;omega
 have b:decide ((1:Int)≤((f.2.2.1.length:Nat):Int))=true:=by grind
 have e:p0h f.2.2.1 1 (f.2.2.1.length-1) f.2.2.1=f.2.2.1.take 1++f.2.2.1.take (f.2.2.1.length-1):=by
  simp_all[p0h]
 have j:(f.2.2.1.take 1++f.2.2.1.take (f.2.2.1.length-1)).length=f.2.2.1.length:=by simp_all
 have c:decide ((0:Int)<(((f.2.2.1.take 1++f.2.2.1.take (f.2.2.1.length-1)).length:Nat):Int))=true:=by grind
 simp only[b,cT,e,c];congr 1;have k:(f.2.2.1.take 1++f.2.2.1.take (f.2.2.1.length-1)).set 0 (a1l x)=a1l x::f.2.2.1.take (f.2.2.1.length-1):=by
  cases hc:f.2.2.1 with
  |nil=>simp_all
  |cons a l=>simp
 rw[k];rfl
theorem b5N(x:Int):a8g x=some (a4T x):=by
 grind[a8g,a5Z]
theorem c1C(k:FilOk f){x1 s:Int}(w:-1≤s∧s≤1):
  y0s a2w (x1,s,(0:Int),([]:List Int),([]:List Int),f,())=some (x1,a27 (a9G (s*2^f.1.toNat)) f.2.1 f.2.2.1,([]:List Int),f,()):=by
 obtain⟨z,x⟩:∃z,a27 (a9G (s*2^f.1.toNat)) f.2.1 f.2.2.1=z:=⟨_,rfl⟩;have j:=k.len;have u:z.length=f.2.1.length:=by grind
 have v:=k.most;have r:=k.rate;have t:wrap .u64 f.1=f.1:=a0P (by omega);have a:¬ f.1<0:=by omega
 have:=a1o (f:=a2w) (fun i=>(x1,s,(i:Int),z.take i,([]:List Int),f,()))
  f.2.1.length (b:=(x1,z,([]:List Int),f,())) (fun i e=>by
   have h:i<f.2.2.1.length:=by omega
   have p:decide ((0:Int)≤(i:Int))=true:=by simp
   have d:z[i]'(by omega)=a9G (s*2^f.1.toNat) f.2.1[i] f.2.2.1[i]:=by grind
   have c:-1≤s*a4T f.2.2.1[i]∧s*a4T f.2.2.1[i]≤1:=by
    rcases a5Z f.2.2.1[i]with⟨-,g⟩|⟨-,g⟩|⟨-,g⟩<;>rw[g]<;>omega
   have l:wrap .i64 (s*a4T f.2.2.1[i])=s*a4T f.2.2.1[i]:=a0D (by omega);have m:=b9M r c;have n:v0s (v0r (wrap .i64 (f.2.1[i]+s*a4T f.2.2.1[i]*2^f.1.toNat)) (-1048576)) 1048576=z[i]'(by omega):=by
    rw[d,show s*a4T f.2.2.1[i]*2^f.1.toNat=a4T f.2.2.1[i]*(s*2^f.1.toNat)by grind];rfl
   have o:z.take i++[z[i]'(by omega)]=z.take (i+1):=by simp
   have q:(z.take i).length+1<1000000:=by grind
   simp only[a2w,dlt e,dlt h,p,cT,a02,tN,a7L e,a7L h,b5N,oB,t,a,decide_false,cF,a0T q,l,m,n,a05,o,a0B (show i<1000000 by omega)])
  (by
   simp_all[a38,a2w])
 simp_all
theorem c2Z(f:Fil):-1073741824≤a0Q f∧a0Q f≤1073741823:=b4p _
theorem c4z(h:FilOk f)(x:Int):a4P (f,x)=some (a9Y f x):=by
 unfold a4P;have m:=b4p x;have n:=c2Z f;have b:wrap .i64 (a1l x-a0Q f)=a1l x-a0Q f:=a0D (by omega);have l:-1≤a4T (a1l x-a0Q f)∧a4T (a1l x-a0Q f)≤1:=by
  rcases a5Z (a1l x-a0Q f)with⟨-,g⟩|⟨-,g⟩|⟨-,g⟩<;>rw[g]<;>omega
 have d:a8f x=some (a1l x):=rfl;have o:=h.most;have k:=h.len;have a:=h.pos;have c:wrap .i64 (((f.2.2.1.length:Nat):Int)-1)=((f.2.2.1.length-1:Nat):Int):=by grind[a0D]
 have e:decide ((0:Int)≤((f.2.2.1.length-1:Nat):Int))=true:=by simp
 have i:decide (((f.2.2.1.length-1:Nat):Int)≤((f.2.2.1.length:Nat):Int))=true:=by simp
 have j:([a1l x]:List Int).length+(f.2.2.1.take (f.2.2.1.length-1)).length<1000000:=by grind
 simp only[d,oB,b0V h,b,b5N,c1C h l,a18,a0T (show 0+1<1000000 by omega),cT,c,e,i,a02,tN,a84,a05,a09,a0T j];rfl
@[reducible] def Stg:Type:=Int×(Int×Unit)
theorem b6C(h:short l):a0X l=some l:=by
 have g:lim (0+l.length)=true:=a0T (by unfold short at h;omega);simp_all[a0X,x0e]
def a8s(s:Stg):Fil:=(s.2.1,a00 s.1.toNat 0,a00 s.1.toNat 0,())
theorem c4X{s:Stg}(h:stageB s=true):FilOk (a8s s):=by
 simp[stageB]at h;refine⟨by rfl,by simp[a8s];omega,by simp[a8s];omega,⟨h.2.2.1,h.2.2.2⟩,fun x g=>?_⟩;simp_all[a8s]
theorem c3a{s:Stg}(h:stageB s=true):a7m s=some (a8s s,0):=by
 have g:=h;simp[stageB]at g;unfold a7m;have f:decide ((0:Int)≤s.1)=true:=by grind
 have k:decide (s.1≤s.1)=true:=by simp
 have a:lim s.1.toNat=true:=a0T (by omega);simp only[a8J,h,oB,bT,cF,f,k,a,a02,cT];rfl
theorem b0W{s:Stg}(h:stageB s=true):a6l s=some (a8s s,0):=by
 have g:=h;simp[stageB]at g;unfold a6l;have f:decide ((0:Int)≤s.1)=true:=by grind
 have k:decide (s.1≤s.1)=true:=by simp
 have a:lim s.1.toNat=true:=a0T (by omega);simp only[a8q,h,oB,bT,cF,f,k,a,a02,cT];rfl
def stO:List Int→List Int→Fil→Option (List Int)
 | [],done,_=>some done
 |r::rs,done,f=>bif a0C (W (a0Q f+r))then stO rs (done++[W (a0Q f+r)]) (a9Y f (W (a0Q f+r)))else none
theorem a9Z:∀(l done:List Int)(f:Fil){r},stO l done f=some r→r.length=done.length+l.length
 | [],done,f,r,h=>by simp_all[stO]
 |x::l,done,f,r,h=>by
  simp[stO]at h;cases hw:a0C (W (a0Q f+x))with
  |true=>rw[hw]at h;rw[a9Z l _ _ h];grind
  |false=>simp_all
theorem b4q{done:List Int}(g:done.length=i)(h:i<row.length):a40 (done++row.drop i) i 0=row[i]:=by
 grind
theorem c3b{done:List Int}(g:done.length=i)(h:i<row.length)(y:Int):(done++row.drop i).set i y=(done++[y])++row.drop (i+1):=by
 rw[a79 _ _ (by omega),g,a61,a03 h,a95,aA];rfl
theorem b1v{row b4:List Int}{b5:Int}(e:short row):∀(k i:Nat)(done:List Int)(f:Fil),i+k=row.length→done.length=i→FilOk f→
  ∃z,y0s a4l ((row.length:Int),(i:Int),b4,b5,done++row.drop i,f,())=some z∧
   match stO (row.drop i) done f with
   |some r=>z=.inl (b4,b5,r,())
   |none=>∃q,z=.inr (([]:List Int),(6:Int),q,())
 |0,i,done,f,h,hd,hf=>by
  obtain rfl:i=row.length:=by omega
  rw[a46,a07];exact⟨_,a0E (b:=Sum.inl (b4,b5,done,())) (by simp[a4l]),rfl⟩
 |k+1,i,done,f,h,hd,hf=>by
  have g:i<row.length:=by omega
  have j:row.length<1000000:=e;have c:decide ((0:Int)≤(i:Int))=true:=by simp
  have l:(done++row.drop i).length=row.length:=by grind
  have d:decide ((i:Int)<(((done++row.drop i).length:Nat):Int))=true:=by simp_all
  have a:stO (row.drop i) done f=bif a0C (W (a0Q f+row[i]))then stO (row.drop (i+1)) (done++[W (a0Q f+row[i])]) (a9Y f (W (a0Q f+row[i])))else none:=by
   rw[a03 g];rfl
  rw[a];cases hw:a0C (W (a0Q f+row[i]))with
  |true=>
   rw[a0G (s':=((row.length:Int),((i+1:Nat):Int),b4,b5,(done++[W (a0Q f+row[i])])++row.drop (i+1),a9Y f (W (a0Q f+row[i])),())) (by
    simp only[a4l,dlt g,c,d,cT,a02,a8K hf,oB,tN,b4q hd g,a7F,hw,bT,cF,c1B hf,c3b hd g,a0B (show i<1000000 by omega)])]
   exact b1v e k (i+1) _ _ (by omega) (by simp_all) (c2X hf _)
  |false=>
   exact⟨_,a0E (b:=Sum.inr (([]:List Int),(6:Int),done++row.drop i,())) (by
    simp only[a4l,dlt g,c,d,cT,a02,a8K hf,oB,tN,b4q hd g,a7F,hw,a19]),_,rfl⟩
theorem b3c{row:List Int}{st:List Stg}{n:Int}(c:short row):∀(k i:Nat)(done:List Int)(f:Fil),i+k=row.length→done.length=i→FilOk f→
  y0s a3m (st,n,(i:Int),done++row.drop i,f,())=some (match stO (row.drop i) done f with
   |some r=>.inl (st,n,r,())
   |none=>.inr ((6:Int),([]:List Int),()))
 |0,i,done,f,h,hd,hf=>by
  obtain rfl:i=row.length:=by omega
  rw[a46,a07];have l:done.length=row.length:=hd;exact a0E (b:=Sum.inl (st,n,done,())) (by simp_all[a3m])
 |k+1,i,done,f,h,hd,hf=>by
  have g:i<row.length:=by omega
  have m:row.length<1000000:=c;have d:decide ((0:Int)≤(i:Int))=true:=by simp
  have l:(done++row.drop i).length=row.length:=by grind
  have e:decide ((i:Int)<(((done++row.drop i).length:Nat):Int))=true:=by simp_all
  have a:stO (row.drop i) done f=bif a0C (W (a0Q f+row[i]))then stO (row.drop (i+1)) (done++[W (a0Q f+row[i])]) (a9Y f (W (a0Q f+row[i])))else none:=by
   rw[a03 g];rfl
  have j:wrap .i64 (row[i]+a0Q f)=W (a0Q f+row[i]):=by grind
  rw[a];cases hw:a0C (W (a0Q f+row[i]))with
  |true=>
   rw[a0G (s':=(st,n,((i+1:Nat):Int),(done++[W (a0Q f+row[i])])++row.drop (i+1),a9Y f (W (a0Q f+row[i])),())) (by
    simp only[a3m,d,e,cT,a02,b0V hf,oB,tN,b4q hd g,j,a1W,hw,bT,cF,c4z hf,c3b hd g,a0B (show i<1000000 by omega)])]
   exact b3c c k (i+1) _ _ (by omega) (by simp_all) (c2X hf _)
  |false=>
   exact a0E (by
    simp_all[a3m,b0V,a1W])
def lO:List Stg→List Int→Option (List Int)
 | [],row=>some row
 |s::r,row=>match stO row [] (a8s s)with
  |some row'=>lO r row'
  |none=>none
theorem c4A{st:List Stg}{s:Stg}{k:Int}{b4:List Int}(h:stageB s=true)(b:short row):
  ∃z,a6f k s (st,b4,(0:Int),row,())=some z∧match stO row [] (a8s s)with
   |some r=>z=.inl (st,b4,(0:Int),r,())
   |none=>∃q,z=.inr (.ret,st,([]:List Int),(6:Int),q,()):=by
 obtain⟨z,g,f⟩:=b1v (b4:=b4) (b5:=0) b row.length 0 [] (a8s s) (by omega) rfl (c4X h);simp at g f;unfold a6f;have a:((0:Int) != 0)=false:=rfl;simp[c3a h,g];cases hst:stO row [] (a8s s)with
 |some r=>
  simp_all
 |none=>
  grind
theorem b5O{st l:List Stg}{b4:List Int}(f:∀s∈l,stageB s=true):∀(n:Nat)(row:List Int),n≤l.length→short row→
  ∃z,l0f a6f l n (st,b4,(0:Int),row,())=some z∧match lO (l.take n).reverse row with
   |some r=>z=.inl (st,b4,(0:Int),r,())
   |none=>∃q,z=.inr (.ret,st,([]:List Int),(6:Int),q,())
 |0,row,_,_=>⟨_,rfl,rfl⟩
 |n+1,row,hn,hs=>by
  have h:n<l.length:=by omega
  obtain⟨z,a,g⟩:=c4A (st:=st) (k:=(n:Int)) (b4:=b4) (f _ (a06 h)) hs;have b:(l.take (n+1)).reverse=l[n]::(l.take n).reverse:=by simp
  simp[l0f,lG h,a,b,lO];cases hst:stO row [] (a8s l[n])with
  |some r=>
   rw[hst]at g;simp at g;subst g;exact b5O f n r (by omega) (by have:=a9Z _ _ _ hst;unfold short at hs⊢;simp_all)
  |none=>
   grind
def a9o(rest:List Int)(st:List Stg):Option (List Int):=bif rest.all a0C then lO st.reverse rest else none
theorem c1D{rest:List Int}{st:List Stg}(a:a7u st=true)(c:rest.length<100000):a7X (rest,st)=some (a3Z (a9o rest st)):=by
 have f:=a;simp only[a7u,bA,dT]at f;have k:short st:=by unfold short;omega
 have h:short rest:=by unfold short;omega
 unfold a7X;simp only[b4j k,a,oB,bT,cF,b6x h,a9o];cases hw:rest.all a0C with
 |false=>rfl
 |true=>
  obtain⟨z,b,g⟩:=b5O (st:=st) (b4:=[]) (lA.1 f.2) st.length rest (a32 _) h;rw[a47]at g;simp[b6C h,a0T k,b];cases hst:lO st.reverse rest with
  |some r=>
   rw[hst]at g;simp at g;subst g;rfl
  |none=>
   rw[hst]at g;obtain⟨q,rfl⟩:=g;rfl
theorem b7W{l:List Stg}(a:∀s∈l,stageB s=true)(g:l.length≤3):∀(n:Nat)(row:List Int),n≤l.length→short row→
  y0s a4r (l,(n:Int)-1,row,())=some (match lO (l.take n).reverse row with
   |some r=>.inl (r,())
   |none=>.inr ((6:Int),([]:List Int),()))
 |0,row,_,_=>a0E (by rfl)
 |n+1,row,hn,hs=>by
  have f:n<l.length:=by omega
  have h:=a _ (a06 f);have k:=b3c (st:=l) (n:=(n:Int)) hs row.length 0 [] (a8s l[n]) (by omega) rfl (c4X h);simp at k;have c:(l.take (n+1)).reverse=l[n]::(l.take n).reverse:=by simp
  have b:((n+1:Nat):Int)-1=(n:Int):=by omega
  have e:decide ((n:Int)≥0)=true:=by simp
  have d:wrap .i64 ((n:Int)-1)=(n:Int)-1:=a0D (by omega);rw[c,b];simp[lO];cases hst:stO row [] (a8s l[n])with
  |some r=>
   rw[hst]at k;rw[a0G (s':=(l,(n:Int)-1,r,())) (by simp_all[a4r,a0A,b0W])];exact b7W a g n r (by omega) (by have:=a9Z _ _ _ hst;unfold short at hs⊢;simp_all)
  |none=>
   simp_all[a0E,a4r,a0A,b0W]
theorem b6D{rest:List Int}{st:List Stg}(a:a7u st=true)(c:rest.length<100000):a6m (rest,st)=some (a3Z (a9o rest st)):=by
 have h:=a;simp only[a7u,bA,dT]at h;have f:short st:=by unfold short;omega
 have g:short rest:=by unfold short;omega
 unfold a6m;simp only[b1t f,a,oB,bT,cF,a1t g,a9o];cases hw:rest.all a0C with
 |false=>rfl
 |true=>
  have k:=b7W (lA.1 h.2) h.1 st.length rest (a32 _) g;rw[a47]at k;have b:wrap .i64 (((st.length:Nat):Int)-1)=((st.length:Nat):Int)-1:=a0D (by omega);simp only[bT,cF,cT,a0T (show 0+rest.length<1000000 by omega),b,a05,a09,k,oB];cases lO st.reverse rest<;>rfl
def a6d(n warm:Int):Bool:=decide (1≤n)&&(decide (n≤4096)&&(decide (0≤warm)&&decide (warm≤n)))
theorem b4r(n warm:Int):a5U (n,warm)=some (a6d n warm):=by
 grind[a5U,a6d]
theorem b7X(n warm:Int):b0P (n,warm)=some (a6d n warm):=by
 grind[b0P,a6d]
theorem c8H(h:o≤8):1≤2^o∧2^o≤256:=by
 have:o=0∨o=1∨o=2∨o=3∨o=4∨o=5∨o=6∨o=7∨o=8:=by omega
 grind
theorem b2K(h:o≤64):A0o .i64 (N:Int) (o:Int)=((N / 2^o:Nat):Int):=by
 unfold A0o;show a93 (N:Int) (2^(min (o:Int).toNat 64))=_
 grind
theorem b6E(h:o≤64)(g:N*2^o<9223372036854775808):A0n .i64 (N:Int) (o:Int)=((N*2^o:Nat):Int):=by
 unfold A0n;show wrap .i64 ((N:Int)*2^(min (o:Int).toNat 64))=_
 grind[a0D]
def a9p(o N:Nat)(warm:Int):List Int:=
 if N%2^o=0∧warm≤((N / 2^o:Nat):Int)then(((N / 2^o:Nat):Int)-warm)::a00 (2^o-1) ((N / 2^o:Nat):Int)else[]
def a1H(order n warm:Int):List Int:=bif a6d n warm&&(decide (0≤order)&&decide (order≤8))then a9p order.toNat n.toNat warm else[]
theorem b2l(h n warm:Int):a2E (h,n,warm)=some (a1H h n warm):=by
 unfold a2E a1H;simp only[b4r,oB];cases hr:a6d n warm with
 |false=>rfl
 |true=>
  simp[a6d]at hr;simp only[bT,cF,a26]
  by_cases h1:h<0
  grind
  by_cases h2:h > 8
  grind
  obtain⟨o,rfl⟩:=a01 (show 0≤h by omega);obtain⟨N,rfl⟩:=a01 (show 0≤n by omega);have q:o≤8:=by omega
  have r:N≤4096:=by omega
  have hp:=c8H q;have p:N / 2^o*2^o≤N:=Nat.div_mul_le_self N _;have m:(0:Int)≤(o:Int):=by omega
  have g8:(o:Int)≤8:=by omega
  simp only[h1,h2,m,g8,decide_true,decide_false,cF,cT,a02,oB,b2K (N:=N) (show o≤64 by omega),b6E (N:=N / 2^o) (show o≤64 by omega) (by omega),tN];have k:=b06 N (2^o);rw[a62]at k
  by_cases hm:N%2^o=0
  have a:(((N / 2^o*2^o:Nat):Int) != (N:Int))=false:=by simp_all
  by_cases hw:warm≤((N / 2^o:Nat):Int)
  have d:decide (((N / 2^o:Nat):Int)<warm)=false:=decide_eq_false (Int.not_lt.2 hw);have j:wrap .i64 (((N / 2^o:Nat):Int)-warm)=((N / 2^o:Nat):Int)-warm:=a0D (by have:=a31 N (2^o);omega);simp only[a,d,j,cF,oB,a9p,hm,hw,and_self,if_true];have e:A0n .i64 (1:Int) (o:Int)=((2^o:Nat):Int):=by have:=b6E (N:=1) (show o≤64 by omega) (by omega);simp_all
  have:=a1o (f:=a5p) (fun i=>((o:Int),((N / 2^o:Nat):Int),(((N / 2^o:Nat):Int)-warm)::a00 i ((N / 2^o:Nat):Int),())) (2^o-1)
   (b:=((((N / 2^o:Nat):Int)-warm)::a00 (2^o-1) ((N / 2^o:Nat):Int),())) (fun i s=>by
    have c:decide ((((((N / 2^o:Nat):Int)-warm)::a00 i ((N / 2^o:Nat):Int)).length:Int)<((2^o:Nat):Int))=true:=by
     grind
    have g:lim (((((N / 2^o:Nat):Int)-warm)::a00 i ((N / 2^o:Nat):Int)).length+1)=true:=a0T (by grind);have l:a00 i ((N / 2^o:Nat):Int)++[((N / 2^o:Nat):Int)]=a00 (i+1) ((N / 2^o:Nat):Int):=by grind[a43]
    simp only[a5p,h1,decide_false,cF,e,c,cT,g,a05,a70,l])
   (by
    have c:decide ((((((N / 2^o:Nat):Int)-warm)::a00 (2^o-1) ((N / 2^o:Nat):Int)).length:Int)<((2^o:Nat):Int))=false:=by
     simp_all
    simp only[a5p,h1,decide_false,cF,e,c])
  simp_all;have d:decide (((N / 2^o:Nat):Int)<warm)=true:=decide_eq_true (Int.not_le.1 hw);simp_all[a9p];have a:(((N / 2^o*2^o:Nat):Int) != (N:Int))=true:=by grind
  simp only[a,cT,oB,a9p,hm,false_and,if_false]
theorem a4U(h n warm:Int):a2u (h,n,warm)=some (a1H h n warm):=by
 unfold a2u a1H;simp only[b7X,oB];cases hr:a6d n warm with
 |false=>rfl
 |true=>
  simp[a6d]at hr;simp only[bT,cF,a26]
  by_cases h1:h<0
  grind
  by_cases h2:h > 8
  grind
  obtain⟨o,rfl⟩:=a01 (show 0≤h by omega);obtain⟨N,rfl⟩:=a01 (show 0≤n by omega);have m:o≤8:=by omega
  have t:N≤4096:=by omega
  have hp:=c8H m;have l:(0:Int)≤(o:Int):=by omega
  have g8:(o:Int)≤8:=by omega
  have d:wrap .u64 (o:Int)=(o:Int):=a0P (by omega);have c:A0n .i64 (1:Int) (o:Int)=((2^o:Nat):Int):=by have:=b6E (N:=1) (show o≤64 by omega) (by omega);simp_all
  have r:(((2^o:Nat):Int)==0)=false:=by grind
  have p:a42 (N:Int) ((2^o:Nat):Int)=((N%2^o:Nat):Int):=by rfl
  simp only[h1,h2,l,g8,decide_true,decide_false,cF,cT,a02,d,c,r,p,b2K (N:=N) (show o≤64 by omega),tN]
  by_cases hm:N%2^o=0
  have k:(((0:Nat):Int) != 0)=false:=rfl
  by_cases hw:warm≤((N / 2^o:Nat):Int)
  have e:decide (((N / 2^o:Nat):Int)<warm)=false:=decide_eq_false (Int.not_lt.2 hw);have s:wrap .i64 (((N / 2^o:Nat):Int)-warm)=((N / 2^o:Nat):Int)-warm:=a0D (by have:=a31 N (2^o);omega);simp only[k,e,cF,oB,a9p,hm,hw,and_self,if_true]
  have:=a1o (f:=a4p) (fun i=>((o:Int),(N:Int),warm,(i:Int),a00 i ((N / 2^o:Nat):Int),())) (2^o)
   (b:=(warm,a00 (2^o) ((N / 2^o:Nat):Int),())) (fun i u=>by
    have a:decide ((i:Int)<((2^o:Nat):Int))=true:=by grind
    have g:lim ((a00 i ((N / 2^o:Nat):Int)).length+1)=true:=a0T (by grind);have j:a00 i ((N / 2^o:Nat):Int)++[((N / 2^o:Nat):Int)]=a00 (i+1) ((N / 2^o:Nat):Int):=by grind[a43]
    simp only[a4p,d,h1,decide_false,cF,c,a,cT,g,b2K (N:=N) (show o≤64 by omega),a05,j,a0B (show i<1000000 by omega)])
   (by
    have a:decide (((2^o:Nat):Int)<((2^o:Nat):Int))=false:=by simp
    simp only[a4p,d,h1,decide_false,cF,c,a])
  simp only[nZ,List.replicate_zero]at this;have v:decide ((0:Int)<(((a00 (2^o) ((N / 2^o:Nat):Int)).length:Nat):Int))=true:=by grind
  obtain⟨q,w⟩:∃q,2^o=q+1:=⟨2^o-1,by omega⟩
  grind
  have e:decide (((N / 2^o:Nat):Int)<warm)=true:=decide_eq_true (Int.not_le.1 hw);simp_all[a9p];have k:(((N%2^o:Nat):Int) != 0)=true:=by grind
  simp only[k,cT,oB,a9p,hm,false_and,if_false]
@[reducible] def Prt:Type:=Int×((List Int)×Unit)
variable {p:Prt}
def kB(k:Int):Bool:=(decide (0≤k)&&decide (k≤25)) || (k==31)
def a5i(p:Prt)(n warm:Int):Bool:=!((a1H p.1 n warm).length==0)&&((a1H p.1 n warm).length==p.2.1.length&&p.2.1.all kB)
theorem b4s{n:Int}(g:short p.2.1):a7l (p,n,warm)=some (a5i p n warm):=by
 have:=a1d (f:=a3M) p.2.1 (fun i=>(p.2.1,(p.2.1.length:Int),(i:Int),())) kB (bt:=Sum.inl ()) (bf:=Sum.inr (false,()))
  (fun i h hp=>by
   simp[kB]at hp
   by_cases h1:p.2.1[i]<0
   omega
   by_cases h2:p.2.1[i] > 25
   have b:p.2.1[i]=31:=by omega
   have a:(p.2.1[i] != 31)=false:=by simp_all
   simp[a3M,a0A h,h,h1,h2,a,a0B (a08 h g)];simp[a3M,a0A h,h,h1,h2,a0B (a08 h g)])
  (fun i h hp=>by
   have hp:¬ (kB p.2.1[i]=true):=by simp_all
   simp only[kB,a73,bA,dT,beq_iff_eq]at hp
   grind[a3M,a0A])
  (by simp[a3M])
 simp at this;unfold a7l a5i;simp[b2l]
 by_cases h0:(a1H p.1 n warm).length=0
 simp_all
 ·have e:((((a1H p.1 n warm).length:Nat):Int)==0)=false:=by simp_all
  have k:((a1H p.1 n warm).length==0)=false:=by simp_all
  simp[e,k]
  by_cases h1:(a1H p.1 n warm).length=p.2.1.length
  all_goals grind
theorem a8t{n:Int}(a:short p.2.1):a4g (p,n,warm)=some (a5i p n warm):=by
 have g:∀k:Int,a1b k=some (decide (0≤k)&&decide (k≤25)):=fun k=>by
  grind[a1b]
 have:=a1d (f:=a2V) p.2.1 (fun i=>((i:Int),p,())) kB (bt:=Sum.inl ()) (bf:=Sum.inr (false,()))
  (fun i h hp=>by
   simp only[kB,a73]at hp;cases hc:(decide (0≤p.2.1[i])&&decide (p.2.1[i]≤25))with
   |true=>simp[a2V,a0A h,h,g,hc,a0B (a08 h a)]
   |false=>
    have d:p.2.1[i]=31:=by simp_all
    have c:(p.2.1[i] != 31)=false:=by simp_all
    simp[a2V,a0A h,h,g,hc,c,a0B (a08 h a)])
  (fun i h hp=>by
   grind[kB,a2V,a0A])
  (by simp[a2V])
 simp at this;unfold a4g a5i;simp[a4U]
 by_cases h0:(a1H p.1 n warm).length=0
 simp_all
 ·have e:((((a1H p.1 n warm).length:Nat):Int)==0)=false:=by simp_all
  have b:((a1H p.1 n warm).length==0)=false:=by simp_all
  simp[e,b]
  by_cases h1:(a1H p.1 n warm).length=p.2.1.length
  all_goals grind
@[reducible] def Sub:Type:=Int×(Int×(Int×(Int×(Int×((List Int)×((List Int)×((List Stg)×((List Int)×(Prt×((List Int)×Unit))))))))))
variable {s:Sub}
structure SmallS (s:Sub):Prop where
 coefs:s.2.2.2.2.2.1.length≤40
 taps:s.2.2.2.2.2.2.1.length=3
 stages:s.2.2.2.2.2.2.2.1.length≤6
 warm:s.2.2.2.2.2.2.2.2.1.length≤5000
 rest:s.2.2.2.2.2.2.2.2.2.2.1.length≤5000
 ks:s.2.2.2.2.2.2.2.2.2.1.2.1.length≤300
theorem a8L(x y:List Int):eqT (.arr 3 (.int .i64)) x y=decide (x=y):=by
 show((a27 (fun(a b:Int)=>a==b) x y).all id&&x.length==y.length)=_
 induction x generalizing y with
 |nil=>cases y<;>simp
 |cons a x ih=>
  cases y with
  |nil=>simp
  |cons b y=>
   grind[List.zipWith_cons_cons]
theorem b7Y{l:List Int}(h:short l):a2j l=some l:=b6C h
theorem c4B{l:List Stg}(h:short l):a1m l=some l:=by
 have g:lim (0+l.length)=true:=a0T (by unfold short at h;omega);simp_all[a1m,x0e]
def a7i(k:Int)(s:Sub)(n:Int):Prop:=
 k=0∨k=1∨(k=2∧0≤s.2.2.1∧s.2.2.1≤4∧s.2.2.1≤n)∨(k=3∧a6B s.2.2.2.2.2.1 s.2.2.2.1=true∧(s.2.2.2.2.2.1.length:Int)≤n)∨
  (k=4∧a6B s.2.2.2.2.2.1 s.2.2.2.1=true∧(s.2.2.2.2.2.1.length:Int)≤n∧a9e s.2.2.2.2.1 s.2.2.2.2.2.2.1=true)∨
  (k=5∧0<s.2.2.2.2.2.2.2.1.length∧a7u s.2.2.2.2.2.2.2.1=true)
open Classical in
def b6F (k:Int) (s:Sub) (n:Int):Bool:=decide (a7i k s n)
theorem b7Z{s:Sub}(h:SmallS s)(k n:Int):a7N (k,s,n)=some (b6F k s n):=by
 have a:short s.2.2.2.2.2.1:=by have:=h.coefs;unfold short;omega
 have b:short s.2.2.2.2.2.2.2.1:=by have:=h.stages;unfold short;omega
 unfold a7N b6F a7i
 by_cases k0:k=0
 simp_all
 by_cases k1:k=1
 simp_all;have g:(k==0)=false:=by grind
 have f:(k==1)=false:=by grind
 simp only[g,f,cF,oB]
 by_cases k2:k=2
 subst k2
 grind
 by_cases k3:k=3
 subst k3
 grind[a9E]
 by_cases k4:k=4
 subst k4;cases hl:a6B s.2.2.2.2.2.1 s.2.2.2.1<;>by_cases h2:(s.2.2.2.2.2.1.length:Int)≤n<;>simp[a9E a,b5L h.taps,hl,h2]
 by_cases k5:k=5
 ·subst k5
  by_cases h1:0<s.2.2.2.2.2.2.2.1.length
  all_goals simp_all[b4j]
 grind
def a0U(s:Sub)(n:Int):Int:=if s.1=0 then 1 else if s.1=1 then n else if s.1=2 then s.2.2.1 else if s.1=3∨s.1=4 then(s.2.2.2.2.2.1.length:Int)else 0
theorem b9N(s:Sub)(n:Int):a4X (s,n)=some (a0U s n):=by
 grind[a4X,a0U]
def b2m(s:Sub):Prop:=
 (s.1≠2→s.2.2.1=0)∧(s.1≠3∧s.1≠4→s.2.2.2.1=0)∧(s.1≠4→s.2.2.2.2.1=0)∧(s.1≠4→s.2.2.2.2.2.2.1=[0,0,0])∧(s.1≠3∧s.1≠4→s.2.2.2.2.2.1=[])∧(s.1≠5→s.2.2.2.2.2.2.2.1=[])
open Classical in
def b2n (s:Sub):Bool:=decide (b2m s)
theorem a7M{c x:Bool}:(bif c then some x else some false)=some (c&&x):=by grind
theorem d1T(l:List α):(((l.length:Nat):Int)==0)=decide (l=[]):=by
 cases l with
 |nil=>rfl
 |cons a l=>rfl
theorem b9y(x:Int):(x==0)=decide (x=0):=rfl
theorem c3c{s:Sub}(h:SmallS s):a8S s=some (b2n s):=by
 have e:short s.2.2.2.2.2.1:=by have:=h.coefs;unfold short;omega
 have g:short s.2.2.2.2.2.2.2.1:=by have:=h.stages;unfold short;omega
 obtain⟨k,w,o,sh,lag,c,t,st,j,p,r,u⟩:=s;simp only at e g;unfold a8S a7T b2n b2m;have i:(a00 3 (0:Int))=[0,0,0]:=rfl
 by_cases k2:k=2
 simp_all[a8L,a7M,b9y]
 by_cases k4:k=4
 simp_all[a8L,a7M,b9y,b7Y]
 by_cases k3:k=3
 simp_all[a8L,a7M,b9y,b7Y]
 by_cases k5:k=5
 simp_all[a8L,a7M,b9y,c4B];have f:(k==2)=false:=by grind
 have a:(k==3)=false:=by grind
 have b:(k==4)=false:=by grind
 have d:(k==5)=false:=by grind
 simp[f,a,b,d,k2,k3,k4,k5,a8L,i,a7M,d1T,b9y]
theorem b9O(k:Int):a4V k=some (decide (k≠0∧k≠1)):=by
 unfold a4V
 by_cases h0:k=0
 simp_all
 ·by_cases h1:k=1
  all_goals grind
def a1I(s:Sub)(n:Int):Prop:=
 1≤n∧n≤4096∧a7i s.1 s n∧b2m s∧0≤s.2.1∧s.2.1≤30∧(s.1=0→s.2.1=0)∧(s.2.2.2.2.2.2.2.2.1.length:Int)=a0U s n∧s.2.2.2.2.2.2.2.2.1.all a0C=true∧s.2.2.2.2.2.2.2.2.2.2.1.all a0C=true∧
  (s.1=0∨s.1=1→s.2.2.2.2.2.2.2.2.2.2.1=[]∧s.2.2.2.2.2.2.2.2.2.1.1=0∧s.2.2.2.2.2.2.2.2.2.1.2.1=[])∧
  (s.1≠0∧s.1≠1→(s.2.2.2.2.2.2.2.2.2.2.1.length:Int)=n-a0U s n∧a5i s.2.2.2.2.2.2.2.2.2.1 n (a0U s n)=true)
theorem b1S(h:SmallS s){n:Int}(a:1≤n)(b:n≤4096)(f:a7i s.1 s n):0≤a0U s n∧a0U s n≤4096:=by
 have c:=h.coefs;unfold a0U;rcases f with k|k|⟨k,g⟩|⟨k,g⟩|⟨k,g⟩|⟨k,g⟩<;>simp[k]<;>omega
open Classical in
theorem c7G {s:Sub} (h:SmallS s) (n:Int):a7U (s,n)=some (decide (a1I s n)):=by
 have hw:short s.2.2.2.2.2.2.2.2.1:=by have:=h.warm;unfold short;omega
 have hr:short s.2.2.2.2.2.2.2.2.2.2.1:=by have:=h.rest;unfold short;omega
 have hk:short s.2.2.2.2.2.2.2.2.2.1.2.1:=by have:=h.ks;unfold short;omega
 unfold a7U
 by_cases h1:1≤n
 rotate_left
 ·have e1:decide (n<1)=true:=by simp_all
  have:¬ a1I s n:=fun hp=>h1 hp.1
  simp_all
 have e1:decide (n<1)=false:=by simp_all
 by_cases h2:n≤4096
 rotate_left
 ·have e2:decide (n > 4096)=true:=by simp_all
  have:¬ a1I s n:=fun hp=>h2 hp.2.1
  simp_all
 have e2:decide (n > 4096)=false:=by simp_all
 by_cases h3:a7i s.1 s n
 rotate_left
 ·have e3:b6F s.1 s n=false:=by simp[b6F,h3]
  have:¬ a1I s n:=fun hp=>h3 hp.2.2.1
  simp_all[b7Z]
 have e3:b6F s.1 s n=true:=by simp[b6F,h3]
 by_cases h4:b2m s
 rotate_left
 ·have e4:b2n s=false:=by simp[b2n,h4]
  have:¬ a1I s n:=fun hp=>h4 hp.2.2.2.1
  simp_all[b7Z,c3c]
 have e4:b2n s=true:=by simp[b2n,h4]
 simp only[e1,e2,b7Z h,e3,c3c h,e4,cF,bT,oB]
 by_cases h5:0≤s.2.1
 rotate_left
 ·have e5:decide (s.2.1<0)=true:=by simp_all
  have:¬ a1I s n:=fun hp=>h5 hp.2.2.2.2.1
  simp_all
 have e5:decide (s.2.1<0)=false:=by simp_all
 by_cases h6:s.2.1≤30
 rotate_left
 ·have e6:decide (s.2.1 > 30)=true:=by simp_all
  have:¬ a1I s n:=fun hp=>h6 hp.2.2.2.2.2.1
  simp_all
 have e6:decide (s.2.1 > 30)=false:=by simp_all
 simp only[e5,e6,cF]
 by_cases h7:s.1=0→s.2.1=0
 rotate_left
 ·have h7a:s.1=0:=Classical.byContradiction fun hc=>h7 fun e=>absurd e hc
  have h7b:(s.2.1 != 0)=true:=by
   simp_all
  have e7:(s.1==0)=true:=by simp_all
  have:¬ a1I s n:=fun hp=>h7 hp.2.2.2.2.2.2.1
  grind
 have e7:(bif s.1==0 then some (n,(s.2.1 != 0,(s,())))else some (n,(false,(s,()))))=some (n,(false,(s,()))):=by
  grind
 simp only[e7,oB,cF,b9N]
 by_cases h8:(s.2.2.2.2.2.2.2.2.1.length:Int)=a0U s n
 rotate_left
 ·have e8:(((s.2.2.2.2.2.2.2.2.1.length:Nat):Int) != a0U s n)=true:=by simp_all
  have:¬ a1I s n:=fun hp=>h8 hp.2.2.2.2.2.2.2.1
  grind
 have e8:(((s.2.2.2.2.2.2.2.2.1.length:Nat):Int) != a0U s n)=false:=by simp_all
 simp only[e8,cF,a8H hw,a8H hr,oB]
 cases h9:s.2.2.2.2.2.2.2.2.1.all a0C with
 |false=>
  have:¬ a1I s n:=fun hp=>by rw[hp.2.2.2.2.2.2.2.2.1]at h9;grind
  simp_all
 |true=>
  cases h10:s.2.2.2.2.2.2.2.2.2.2.1.all a0C with
  |false=>
   have:¬ a1I s n:=fun hp=>by rw[hp.2.2.2.2.2.2.2.2.2.1]at h10;grind
   simp_all
  |true=>
   simp only[bT,cF,oB,b9O]
   have hwr:=b1S h h1 h2 h3
   by_cases k01:s.1≠0∧s.1≠1
   ·have e11:wrap .i64 (n-a0U s n)=n-a0U s n:=a0D (by omega)
    simp[k01,e11,b4s hk]
    by_cases h11:(s.2.2.2.2.2.2.2.2.2.2.1.length:Int)=n-a0U s n
    ·have e12:(((s.2.2.2.2.2.2.2.2.2.2.1.length:Nat):Int)==n-a0U s n)=true:=by simp_all
     simp only[e12,cT]
     congr 1
     rw[a39,dT]
     constructor
     ·intro hp
      exact⟨h1,h2,h3,h4,h5,h6,h7,h8,h9,h10,fun hc=>absurd hc (by omega),fun _=>⟨h11,hp⟩⟩
     ·intro hp;exact(hp.2.2.2.2.2.2.2.2.2.2.2 k01).2
    ·have e12:(((s.2.2.2.2.2.2.2.2.2.2.1.length:Nat):Int)==n-a0U s n)=false:=by simp_all
     have:¬ a1I s n:=fun hp=>h11 (hp.2.2.2.2.2.2.2.2.2.2.2 k01).1
     grind
   ·have k01':s.1=0∨s.1=1:=by omega
    simp[k01,d1T]
    simp only[b9y,a7M]
    congr 1
    rw[a39,dT]
    simp
    constructor
    ·rintro⟨g1,g2,g3⟩
     exact⟨h1,h2,h3,h4,h5,h6,h7,h8,h9,h10,fun _=>⟨g1,g2,g3⟩,fun hc=>absurd hc k01⟩
    ·intro hp;exact hp.2.2.2.2.2.2.2.2.2.2.1 k01'
theorem b2L{α:Type}[DecidableEq α](q:α→α→Bool)(g:∀a b,q a b=decide (a=b)):∀(x y:List α),x.length=y.length→((x.zip y).all fun p=>q p.1 p.2)=decide (x=y)
 | [],[],_=>by simp
 |a::x,b::y,h=>by
  have f:=b2L q g x y (by simp_all);simp_all
theorem a9g{x y:List Int}(h:short x):a1A (x,y)=some (decide (x=y)):=by
 unfold a1A
 by_cases hl:x.length=y.length
 have e:(((x.length:Nat):Int) != ((y.length:Nat):Int))=false:=by simp_all
 have l:(x.zip y).length=x.length:=by simp_all
 have:=a1d (f:=a1M) (x.zip y) (fun i=>(x,y,(i:Int),())) (fun p=>p.1==p.2) (bt:=Sum.inl ()) (bf:=Sum.inr (false,()))
  (fun i d hp=>by
   have k:i<x.length:=by omega
   have c:i<y.length:=by omega
   rw[a57]at hp;have hp:x[i]=y[i]:=by simp_all
   have g:(x[i] != y[i])=false:=by simp_all
   simp only[a1M,dlt k,cT,a0A k,a0A c,oB,g,cF,a0B (a08 k h)])
  (fun i d hp=>by
   have k:i<x.length:=by omega
   have c:i<y.length:=by omega
   rw[a57]at hp;have g:(x[i] != y[i])=true:=by simp_all
   simp only[a1M,dlt k,cT,a0A k,a0A c,oB,g])
  (by simp_all[a1M])
 simp at this;simp only[e,cF,this,b2L (fun(a b:Int)=>a==b) (fun _ _=>rfl) x y hl]
 grind
 have e:(((x.length:Nat):Int) != ((y.length:Nat):Int))=true:=by grind
 have:¬ x=y:=fun j=>hl (by grind)
 grind
theorem c1E{x y:List Stg}(h:short x):a5v (x,y)=some (decide (x=y)):=by
 have k:∀a b:Stg,eqT (.pair (.int .i64) (.pair (.int .i64) .unit)) a b=decide (a=b):=by
  rintro⟨a1,a2,⟨⟩⟩ ⟨b1,b2,⟨⟩⟩
  show((a1==b1)&&((a2==b2)&&true))=_
  grind
 unfold a5v
 by_cases hl:x.length=y.length
 have e:(((x.length:Nat):Int) != ((y.length:Nat):Int))=false:=by simp_all
 have l:(x.zip y).length=x.length:=by simp_all
 have:=a1d (f:=a2Q) (x.zip y) (fun i=>(x,y,(i:Int),())) (fun p=>decide (p.1=p.2)) (bt:=Sum.inl ()) (bf:=Sum.inr (false,()))
  (fun i d hp=>by
   have g:i<x.length:=by omega
   have c:i<y.length:=by omega
   rw[a57]at hp;simp only[a2Q,dlt g,cT,a0A g,a0A c,oB,k,hp,bT,cF,a0B (a08 g h)])
  (fun i d hp=>by
   have g:i<x.length:=by omega
   have c:i<y.length:=by omega
   rw[a57]at hp;simp only[a2Q,dlt g,cT,a0A g,a0A c,oB,k,hp,a19])
  (by simp_all[a2Q])
 simp at this;simp only[e,cF,this,b2L (fun(a b:Stg)=>decide (a=b)) (fun _ _=>rfl) x y hl]
 grind
 have e:(((x.length:Nat):Int) != ((y.length:Nat):Int))=true:=by grind
 have:¬ x=y:=fun j=>hl (by grind)
 grind
open Classical in
theorem c6L {a b:Sub} (h:SmallS a):a7y (a,b)=some (decide (a=b)):=by
 have hc:short a.2.2.2.2.2.1:=by have:=h.coefs;unfold short;omega
 have hst:short a.2.2.2.2.2.2.2.1:=by have:=h.stages;unfold short;omega
 have hw:short a.2.2.2.2.2.2.2.2.1:=by have:=h.warm;unfold short;omega
 have hr:short a.2.2.2.2.2.2.2.2.2.2.1:=by have:=h.rest;unfold short;omega
 have hk:short a.2.2.2.2.2.2.2.2.2.1.2.1:=by have:=h.ks;unfold short;omega
 unfold a7y a8F
 simp only[a9g hc,a9g hw,a9g hr,a9g hk,c1E hst,a8L,oB,a7M]
 congr 1
 grind
def b0X(s:Sub):Sub:=
 let z:List Int:=a00 3 0
 if s.1=0 then(0,0,0,0,0,[],z,[],s.2.2.2.2.2.2.2.2.1,(0,[],()),[],())
 else if s.1=1 then(1,s.2.1,0,0,0,[],z,[],s.2.2.2.2.2.2.2.2.1,(0,[],()),[],())
 else if s.1=2 then(2,s.2.1,s.2.2.1,0,0,[],z,[],s.2.2.2.2.2.2.2.2.1,s.2.2.2.2.2.2.2.2.2.1,s.2.2.2.2.2.2.2.2.2.2.1,())
 else if s.1=3 then(3,s.2.1,0,s.2.2.2.1,0,s.2.2.2.2.2.1,z,[],s.2.2.2.2.2.2.2.2.1,s.2.2.2.2.2.2.2.2.2.1,s.2.2.2.2.2.2.2.2.2.2.1,())
 else if s.1=4 then(4,s.2.1,0,s.2.2.2.1,s.2.2.2.2.1,s.2.2.2.2.2.1,s.2.2.2.2.2.2.1,[],s.2.2.2.2.2.2.2.2.1,s.2.2.2.2.2.2.2.2.2.1,s.2.2.2.2.2.2.2.2.2.2.1,())
 else if s.1=5 then(5,s.2.1,0,0,0,[],z,s.2.2.2.2.2.2.2.1,[],s.2.2.2.2.2.2.2.2.2.1,s.2.2.2.2.2.2.2.2.2.2.1,())
 else(s.1,s.2.1,0,0,0,[],z,[],s.2.2.2.2.2.2.2.2.1,s.2.2.2.2.2.2.2.2.2.1,s.2.2.2.2.2.2.2.2.2.2.1,())
theorem c8I(s:Sub):a9a s=some (b0X s):=by
 obtain⟨k,w,o,sh,lag,c,t,st,h,p,r,u⟩:=s;unfold a9a b0X
 grind
open Classical in
def b0Y (s:Sub) (n:Int):Int:=if a7i s.1 s n then a0U s n else -1
theorem c3d(h:SmallS s)(n:Int):a5Y (s,n)=some (b0Y s n):=by
 have f:short s.2.2.2.2.2.1:=by have:=h.coefs;unfold short;omega
 have g:short s.2.2.2.2.2.2.2.1:=by have:=h.stages;unfold short;omega
 have a:=h.taps;obtain⟨k,w,o,sh,lag,c,t,st,b,p,r,u⟩:=s;simp only at f g a;unfold a5Y b0Y a0U a7i
 by_cases k0:k=0
 simp_all
 by_cases k1:k=1
 simp_all
 by_cases k2:k=2
 grind
 by_cases k3:k=3
 grind[a5w]
 by_cases k4:k=4
 grind[a5w,b2h]
 grind[b1t]
theorem a4A(k:Int):a3x k=some (decide (2≤k∧k≤5)):=by
 grind[a3x]
def c6M(s:Sub)(n:Int):Prop:=
 1≤n∧n≤4096∧0≤s.1∧s.1≤5∧s=b0X s∧0≤s.2.1∧s.2.1≤30∧a7i s.1 s n∧(s.2.2.2.2.2.2.2.2.1.length:Int)=a0U s n∧s.2.2.2.2.2.2.2.2.1.all a0C=true∧s.2.2.2.2.2.2.2.2.2.2.1.all a0C=true∧
  (2≤s.1∧s.1≤5→(s.2.2.2.2.2.2.2.2.2.2.1.length:Int)=n-a0U s n∧a5i s.2.2.2.2.2.2.2.2.2.1 n (a0U s n)=true)
theorem b4t{k:Int}{s:Sub}{n:Int}(h:a7i k s n):k=0∨k=1∨k=2∨k=3∨k=4∨k=5:=by
 unfold a7i at h;omega
theorem c4C(s:Sub)(n:Int):a1I s n↔c6M s n:=by
 have f:a7i s.1 s n→((b2m s∧(s.1=0→s.2.1=0)∧(s.2.2.2.2.2.2.2.2.1.length:Int)=a0U s n∧(s.1=0∨s.1=1→s.2.2.2.2.2.2.2.2.2.2.1=[]∧s.2.2.2.2.2.2.2.2.2.1.1=0∧s.2.2.2.2.2.2.2.2.2.1.2.1=[]))↔
   (s=b0X s∧(s.2.2.2.2.2.2.2.2.1.length:Int)=a0U s n)):=by
  intro h;have g:(a00 3 (0:Int))=[0,0,0]:=rfl;obtain⟨k,w,o,sh,lag,c,t,st,wm,⟨po,ks,⟨⟩⟩,r,⟨⟩⟩:=s;rcases b4t h with k0|k0|k0|k0|k0|k0<;>simp only at k0<;>subst k0<;>simp[b2m,b0X,a0U,g]<;>(try constructor)<;>(try intros)<;>(try simp_all)<;>(try exact and_left_comm)<;>(grind)
 unfold a1I c6M
 grind[b4t]
def b9z(warm rest:List Int)(o:Int):Option (List Int):=bif warm.all a0C&&rest.all a0C then a4d (a4G o.toNat) rest warm else none
def backP(s:Sub):Option (List Int):=
 if s.1=1 then some s.2.2.2.2.2.2.2.2.1
 else if s.1=2 then b9z s.2.2.2.2.2.2.2.2.1 s.2.2.2.2.2.2.2.2.2.2.1 s.2.2.1
 else if s.1=3 then b0T s.2.2.2.2.2.2.2.2.1 s.2.2.2.2.2.2.2.2.2.2.1 s.2.2.2.2.2.1 s.2.2.2.1
 else if s.1=4 then(b0T s.2.2.2.2.2.2.2.2.1 s.2.2.2.2.2.2.2.2.2.2.1 s.2.2.2.2.2.1 s.2.2.2.1).bind fun l=>b2J l s.2.2.2.2.1 s.2.2.2.2.2.2.1
 else a9o s.2.2.2.2.2.2.2.2.2.2.1 s.2.2.2.2.2.2.2.1
def b9A(s:Sub)(n:Int):Option (List Int):=
 if s.1=0 then some (a00 n.toNat (s.2.2.2.2.2.2.2.2.1.getD 0 0))else(backP s).bind (upO s.2.1)
theorem a6a{w r c:List Int}{s:Int}{l}(h:b0T w r c s=some l):l.length=w.length+r.length:=by
 unfold b0T at h;cases hc:(w.all a0C&&r.all a0C)with
 |false=>simp_all
 |true=>
  rw[hc]at h;exact(a9W _ r w l (a87.1 hc).1 h).2
theorem b5P{w r:List Int}{o:Int}{l}(h:b9z w r o=some l):l.length=w.length+r.length:=by
 unfold b9z at h;cases hc:(w.all a0C&&r.all a0C)with
 |false=>simp_all
 |true=>
  rw[hc]at h;exact(a9W _ r w l (a87.1 hc).1 h).2
theorem b4u{r:List Int}{l}(h:b2J r lag t=some l):l.length=r.length:=by
 unfold b2J at h;cases hc:r.all a0C with
 |false=>simp_all
 |true=>
  rw[hc]at h
  have:=(a9W _ r [] l rfl h).2
  simp_all
theorem b9P:∀(st:List Stg)(r:List Int){l},lO st r=some l→l.length=r.length
 | [],r,l,h=>by simp_all[lO]
 |s::st,r,l,h=>by
  simp only[lO]at h
  split at h
  rename_i f g;rw[b9P st f h,a9Z _ _ _ g];simp;cases h
theorem b3d{r:List Int}{st:List Stg}{l}(h:a9o r st=some l):l.length=r.length:=by
 grind[a9o,b9P]
theorem b4v(h:SmallS s){l}(g:backP s=some l):l.length<100000:=by
 have b:=h.warm;have a:=h.rest;unfold backP at g
 split at g
 grind
 split at g
 grind[b5P]
 split at g
 grind[a6a]
 split at g
 obtain⟨l1,f,k⟩:=a36.1 g;rw[b4u k,a6a f];omega
 grind[b3d]
theorem c7H{n:Int}(c:1≤n)(d:n≤4096)(e:s.2.2.2.2.2.2.2.2.1.length=1):
  y0s a5J (n,(0:Int),([]:List Int),s,())=some (a00 n.toNat (s.2.2.2.2.2.2.2.2.1.getD 0 0),()):=by
 obtain⟨N,rfl⟩:=a01 (show 0≤n by omega);have k:m0k s.2.2.2.2.2.2.2.2.1 (0:Int)=some (s.2.2.2.2.2.2.2.2.1.getD 0 0):=b2I (by omega) (by omega)
 have:=a1o (f:=a5J) (fun i=>((N:Int),(i:Int),a00 i (s.2.2.2.2.2.2.2.2.1.getD 0 0),s,())) N
  (b:=(a00 N (s.2.2.2.2.2.2.2.2.1.getD 0 0),())) (fun i a=>by
   have h:lim ((a00 i (s.2.2.2.2.2.2.2.2.1.getD 0 0)).length+1)=true:=a0T (by grind);have g:a00 i (s.2.2.2.2.2.2.2.2.1.getD 0 0)++[s.2.2.2.2.2.2.2.2.1.getD 0 0]=a00 (i+1) (s.2.2.2.2.2.2.2.2.1.getD 0 0):=by grind[a43]
   simp only[a5J,dlt a,cT,k,oB,h,a05,g,a0B (show i<1000000 by omega)])
  (by simp[a5J])
 simp_all
theorem c1F{n:Int}(m:1≤n)(o:n≤4096)(q:s.2.2.2.2.2.2.2.2.1.length=1):
  y0s a4s (n,(0:Int),a00 n.toNat (0:Int),s,())=some (a00 n.toNat (s.2.2.2.2.2.2.2.2.1.getD 0 0),()):=by
 obtain⟨N,rfl⟩:=a01 (show 0≤n by omega);have j:m0k s.2.2.2.2.2.2.2.2.1 (0:Int)=some (s.2.2.2.2.2.2.2.2.1.getD 0 0):=b2I (by omega) (by omega);obtain⟨z,r⟩:∃z,a00 N (s.2.2.2.2.2.2.2.2.1.getD 0 0)=z:=⟨_,rfl⟩;have k:z.length=(a00 N (0:Int)).length:=by grind
 have d:(a00 N (0:Int)).length=N:=by simp
 have:=a1o (f:=a4s) (fun i=>((N:Int),(i:Int),z.take i++(a00 N (0:Int)).drop i,s,())) N
  (b:=(z,())) (fun i l=>by
   have h:i<(a00 N (0:Int)).length:=by omega
   have p:(z.take i++(a00 N (0:Int)).drop i).length=N:=by grind
   have e:decide ((i:Int)<(((z.take i++(a00 N (0:Int)).drop i).length:Nat):Int))=true:=by simp_all
   have c:decide ((0:Int)≤(i:Int))=true:=by simp
   have a:=c2Y h k;have g:z[i]'(by omega)=s.2.2.2.2.2.2.2.2.1.getD 0 0:=by grind
   rw[g]at a;simp only[a4s,dlt l,cT,j,oB,c,e,a02,tN,a,a0B (show i<1000000 by omega)])
  (by
   simp_all[a38,a4s])
 simp_all
theorem c4D(h:SmallS s){n:Int}(hp:a1I s n)(x:s.1≠0):a9R s=some (a3Z (backP s)):=by
 obtain⟨y,z,m,-,-,-,-,a,C,A,-⟩:=hp;have q:=h.rest;have v:=h.warm;have B:=h.taps;obtain⟨k,w,o,sh,lag,c,t,st,d,p,r,u⟩:=s;simp only at *;unfold a9R backP;rcases m with g|g|⟨g,f,b,e⟩|⟨g,f,b⟩|⟨g,f,b,e⟩|⟨g,f,b⟩;omega;subst g;rfl;subst g;obtain⟨O,rfl⟩:=a01 f
 grind[a0U,b6z,b9z]
 grind[a0U,a9O]
 ·subst g;simp only[a0U]at a;have j:d.length=c.length:=by grind
  have i:=a9O (rest:=r) f j (by omega);simp only[show((4:Int)==2)=false from rfl,show((4:Int)==3)=false from rfl,show((4:Int)==4)=true from rfl,cT,cF,i,oB];cases hl:b0T d r c sh with
  |none=>rfl
  |some l=>
   grind[a6a,b7T,a3Z]
 grind[b6D]
theorem c4E(h:SmallS s){n:Int}(hp:a1I s n):a9P (s,n)=some (a3Z (b9A s n)):=by
 have a:=fun l (d:backP s=some l)=>b4v h d;obtain⟨z,A,C,-,x,v,-,g,K,I,-⟩:=hp;have F:=h.rest;have G:=h.warm;have H:=h.taps;have D:=c7H (s:=s) z A;obtain⟨k,w,o,sh,lag,c,t,st,f,p,r,u⟩:=s;simp only at *;have L:∀l,l.length<100000→a7n (l,w)=some (a3Z (upO w l)):=fun l d=>c2V x v d;unfold a9P b9A;rcases C with b|b|⟨b,j,m,y⟩|⟨b,j,m⟩|⟨b,j,m,y⟩|⟨b,j,m⟩
 grind[a0U,a3Z]
 simp_all[backP]
 ·subst b;obtain⟨O,rfl⟩:=a01 j;have m:(O:Int)≤4:=m;simp only[a0U]at g;have q:f.length=O:=by grind
  have i:=c1z (warm:=f) (rest:=r) (o:=O) (by omega) q (by omega);simp only[backP]at a⊢;simp[i];have e:(bif f.all a0C&&r.all a0C then a4d (a4G O) r f else none)=b9z f r (O:Int):=rfl;rw[e];cases d:b9z f r (O:Int)with
  |none=>rfl
  |some l=>simp_all[a3Z]
 ·subst b;simp only[a0U]at g;have q:f.length=c.length:=by grind
  have i:=b2i (rest:=r) j q (by omega);simp only[backP]at a⊢;simp[i];cases d:b0T f r c sh with
  |none=>rfl
  |some l=>simp_all[a3Z]
 ·subst b;simp only[a0U]at g;have q:f.length=c.length:=by grind
  have i:=b2i (rest:=r) j q (by omega);simp only[backP]at a⊢;simp[i];cases d:b0T f r c sh with
  |none=>rfl
  |some l=>
   have E:=a6a d;have B:=c2U (rest:=l) y H (by omega);simp[a3Z,B]
   grind[a3Z]
 ·subst b;have i:=c1D (rest:=r) m (by omega);simp only[backP]at a⊢;simp[i];cases d:a9o r st with
  |none=>rfl
  |some l=>simp_all[a3Z]
open Classical in
def a1R (s:Sub) (n:Int):Option (List Int):=if a1I s n then b9A s n else none
theorem b8a(h:SmallS s)(n:Int):a9l (s,n)=some (match a1R s n with|some r=>(r,0)|none=>([],1)):=by
 unfold a9l a1R;simp only[c7G h,oB]
 by_cases hp:a1I s n
 simp[hp,c4E h hp]
 grind[a3Z]
 simp_all
theorem b8b(h:SmallS s)(n:Int):a6w (s,n)=some (a1R s n).isSome:=by
 unfold a6w;simp only[b8a h,oB];cases a1R s n<;>rfl
open Classical in
theorem b3e {s:Sub} (h:SmallS s) (n:Int):a6A (s,n)=some (match a1R s n with|some r=>(r,true)|none=>([],false)):=by
 have hw:short s.2.2.2.2.2.2.2.2.1:=by have:=h.warm;unfold short;omega
 have hr:short s.2.2.2.2.2.2.2.2.2.2.1:=by have:=h.rest;unfold short;omega
 have hk:short s.2.2.2.2.2.2.2.2.2.1.2.1:=by have:=h.ks;unfold short;omega
 have hiff:=c4C s n
 unfold a6A
 have no:¬ c6M s n→a1R s n=none:=fun hc=>by
  simp_all[a1R]
 by_cases h1:1≤n
 rotate_left
 ·have e1:decide (n<1)=true:=by simp_all
  rw[no fun hp=>h1 hp.1]
  simp_all
 have e1:decide (n<1)=false:=by simp_all
 by_cases h2:n≤4096
 rotate_left
 ·have e2:decide (n > 4096)=true:=by simp_all
  rw[no fun hp=>h2 hp.2.1]
  simp_all
 have e2:decide (n > 4096)=false:=by simp_all
 by_cases h3:0≤s.1
 rotate_left
 ·have e3:decide (s.1<0)=true:=by simp_all
  rw[no fun hp=>h3 hp.2.2.1]
  simp_all
 have e3:decide (s.1<0)=false:=by simp_all
 by_cases h4:s.1≤5
 rotate_left
 ·have e4:decide (s.1 > 5)=true:=by simp_all
  rw[no fun hp=>h4 hp.2.2.2.1]
  simp_all
 have e4:decide (s.1 > 5)=false:=by simp_all
 simp only[e1,e2,e3,e4,cF,c8I,c6L h,oB]
 by_cases h5:s=b0X s
 rotate_left
 ·rw[no fun hp=>h5 hp.2.2.2.2.1]
  simp_all
 have e5:decide (s=b0X s)=true:=decide_eq_true h5
 simp only[e5,bT,cF]
 by_cases h6:0≤s.2.1
 rotate_left
 ·have e6:decide (s.2.1<0)=true:=by grind
  rw[no fun hp=>h6 hp.2.2.2.2.2.1]
  grind
 have e6:decide (s.2.1<0)=false:=by grind
 by_cases h7:s.2.1≤30
 rotate_left
 ·have e7:decide (s.2.1 > 30)=true:=by grind
  rw[no fun hp=>h7 hp.2.2.2.2.2.2.1]
  grind
 have e7:decide (s.2.1 > 30)=false:=by grind
 simp only[e6,e7,cF,oB,c3d h]
 by_cases h8:a7i s.1 s n
 rotate_left
 ·have e8:decide (b0Y s n<0)=true:=by simp[b0Y,h8]
  rw[no fun hp=>h8 hp.2.2.2.2.2.2.2.1]
  grind
 have hwr:=b1S h h1 h2 h8
 have e8':b0Y s n=a0U s n:=by simp[b0Y,h8]
 have e8:decide (a0U s n<0)=false:=by grind
 simp only[e8',e8,cF]
 by_cases h9:(s.2.2.2.2.2.2.2.2.1.length:Int)=a0U s n
 rotate_left
 ·have e9:(((s.2.2.2.2.2.2.2.2.1.length:Nat):Int) != a0U s n)=true:=by grind
  rw[no fun hp=>h9 hp.2.2.2.2.2.2.2.2.1]
  grind
 have e9:(((s.2.2.2.2.2.2.2.2.1.length:Nat):Int) != a0U s n)=false:=by grind
 simp only[e9,cF,a1t hw,a1t hr,oB]
 cases h10:s.2.2.2.2.2.2.2.2.1.all a0C with
 |false=>
  rw[no fun hp=>by rw[hp.2.2.2.2.2.2.2.2.2.1]at h10;grind]
  rfl
 |true=>
  cases h11:s.2.2.2.2.2.2.2.2.2.2.1.all a0C with
  |false=>
   rw[no fun hp=>by rw[hp.2.2.2.2.2.2.2.2.2.2.1]at h11;grind]
   rfl
  |true=>
   simp only[bT,cF,oB,a4A]
   have e11:wrap .i64 (n-a0U s n)=n-a0U s n:=a0D (by omega)
   by_cases h12:2≤s.1∧s.1≤5→(s.2.2.2.2.2.2.2.2.2.2.1.length:Int)=n-a0U s n∧a5i s.2.2.2.2.2.2.2.2.2.1 n (a0U s n)=true
   rotate_left
   ·have hg:2≤s.1∧s.1≤5:=Classical.byContradiction fun hc=>h12 fun e=>absurd e hc
    have hn:¬ ((s.2.2.2.2.2.2.2.2.2.2.1.length:Int)=n-a0U s n∧a5i s.2.2.2.2.2.2.2.2.2.1 n (a0U s n)=true):=fun hc=>h12 fun _=>hc
    rw[no fun hp=>h12 hp.2.2.2.2.2.2.2.2.2.2.2]
    simp only[hg,and_self,decide_true,cT,e11,b4s hk,a8t hk,oB]
    grind
   have hrp:c6M s n:=⟨h1,h2,h3,h4,h5,h6,h7,h8,h9,h10,h11,h12⟩
   have hsp:=hiff.2 hrp
   have e12:(bif decide (2≤s.1∧s.1≤5)then bif (((s.2.2.2.2.2.2.2.2.2.2.1.length:Nat):Int) != wrap .i64 (n-a0U s n))then some (n,(true,(s,())))else(a4g (s.2.2.2.2.2.2.2.2.2.1,(n,a0U s n))).bind fun y9=>some (n,(!y9,(s,())))
     else some (n,(false,(s,()))))=some (n,(false,(s,()))):=by
    by_cases hg:2≤s.1∧s.1≤5
    ·obtain⟨g1,g2⟩:=h12 hg
     have e13:(((s.2.2.2.2.2.2.2.2.2.2.1.length:Nat):Int) != n-a0U s n)=false:=by grind
     simp only[hg,and_self,decide_true,cT,e11,e13,cF,a8t hk,g2,oB,bT]
    grind
   simp only[e12,oB,cF]
   have hsub:a1R s n=b9A s n:=by unfold a1R;grind
   rw[hsub]
   unfold b9A
   by_cases k0:s.1=0
   ·have ek:(s.1==0)=true:=by grind
    have hl1:s.2.2.2.2.2.2.2.2.1.length=1:=by
     have:=h9;unfold a0U at this;omega
    have g1:decide ((0:Int)≤n)=true:=by grind
    have g2:decide (n≤n)=true:=by simp
    have g3:lim n.toNat=true:=a0T (by omega)
    simp only[ek,cT,g1,g2,g3,a02,c1F h1 h2 hl1,oB,k0,if_true]
    rfl
   ·have ek:(s.1==0)=false:=by grind
    simp[ek,c4D h hsp k0,k0]
    cases hb:backP s with
    |none=>rfl
    |some l=>
     have hll:=b4v h hb
     simp only[a3Z,c7E h6 h7 hll,oB]
     cases upO s.2.1 l<;>simp[a3Z]
theorem c1G(h:SmallS s)(n:Int):a8k (s,n)=some (a1R s n).isSome:=by
 grind[a8k,b3e]
@[reducible] def Wr:Type:=(List Int)×(Int×Unit)
def c3e(w:Wr)(b:Int):Wr:=
 let bs:=if w.2.1%8=0 then w.1++[0]else w.1
 (bs.set (w.2.1 / 8).toNat (bits .u8 .or (bs.getD (w.2.1 / 8).toNat 0) (A0n .u8 b (7-w.2.1%8))),w.2.1+1,())
def wL(L:List Int):Wr:=L.foldl c3e ([],0,())
theorem c4Y(L:List Int)(b:Int):wL (L++[b])=c3e (wL L) b:=by simp[wL]
theorem b8c:∀(n:Nat)(L:List Int),L.length=n→(wL L).2.1=L.length∧(wL L).1.length=(L.length+7) / 8
 |0,L,h=>by
  rw[a37.1 h];exact⟨rfl,rfl⟩
 |n+1,L,h=>by
  obtain⟨g,b,rfl⟩:∃g b,L=g++[b]:=by
   rcases a58 L with rfl|⟨g,b,e⟩
   all_goals simp_all
  obtain⟨f,k⟩:=b8c n g (by simp_all);rw[c4Y];simp only[c3e,b07,lN,a59,f]
  grind
theorem a8M(L:List Int):(wL L).2.1=L.length∧(wL L).1.length=(L.length+7) / 8:=b8c _ L rfl
def a2J(v:Int)(i:Nat):Int:=wrap .u8 (bits .u64 .and (A0o .u64 v (i:Int)) 1)
def pb(v:Int):Nat→List Int
 |0=>[]
 |i+1=>a2J v i::pb v i
theorem a1J(v:Int):∀n,(pb v n).length=n
 |0=>rfl
 |n+1=>by simp[pb,a1J v n]
def a0M(v:Int)(n:Nat)(L:List Int):List Int:=bif A0o .u64 v (n:Int) != 0 then L else L++pb v n
theorem a0R(v:Int)(n:Nat)(L:List Int):L.length≤(a0M v n L).length∧(a0M v n L).length≤L.length+n:=by
 grind[a0M,a1J]
def a6D(v:Int)(n:Nat):Int:=bif A0o .u64 v (n:Int) != 0 then 1 else 0
theorem b4w{v:Int}:∀(n:Nat)(L:List Int),n≤64→L.length+n<1000000000→y0s a4u (v,(n:Int)-1,(L,()),())=some ((L++pb v n,()),())
 |0,L,_,_=>by simp_all[a0E,a4u,pb]
 |n+1,L,h64,h=>by
  have e:((n+1:Nat):Int)-1=(n:Int):=by omega
  have g:wrap .i64 ((n:Int)-1)=(n:Int)-1:=a0D (by omega);have f:wrap .u64 (n:Int)=(n:Int):=a0P (by omega);have k:decide ((n:Int)≥0)=true:=by simp
  have a:decide ((n:Int)<0)=false:=by simp
  have b:lim (L.length+1)=true:=a1h (by omega);rw[e,a0G (s':=(v,(n:Int)-1,(L++[a2J v n],()),())) (by
   simp only[a4u,k,a,f,b,cT,cF,show wrap .u8 (bits .u64 .and (A0o .u64 v (n:Int)) 1)=a2J v n from rfl,a05,g])]
  rw[b4w n (L++[a2J v n]) (by omega) (by simp;omega),pb]
  simp
theorem a1w{v:Int}(c:n≤63)(b:L.length<999999000):a0I ((L,()),v,(n:Int))=some (a6D v n,a0M v n L,()):=by
 unfold a0I a6D a0M;have f:decide ((n:Int)<0)=false:=by simp
 have k:decide ((n:Int) > 64)=false:=by grind
 have a:decide ((n:Int)<64)=true:=by grind
 have h:wrap .i64 ((n:Int)-1)=(n:Int)-1:=a0D (by omega);have g:wrap .u64 (n:Int)=(n:Int):=a0P (by omega);simp[f,k,a,g];cases (A0o .u64 v (n:Int) != 0)with
 |true=>rfl
 |false=>simp only[cF,h,b4w n L (by omega) (by omega),oB]
def unL(n:Nat)(L:List Int):List Int:=L++a00 n 0++[1]
theorem b4x(e:n≤4096)(d:L.length<999990000):a2B ((L,()),(n:Int))=some (0,unL n L,()):=by
 unfold a2B unL;have k:decide ((n:Int)<0)=false:=by simp
 have a:decide ((n:Int) > 4096)=false:=by grind
 simp only[k,a,cF,oB]
 have:=a1o (f:=a3I) (fun i=>((n:Int),(i:Int),(L++a00 i 0,()),())) n (b:=((L++a00 n 0,()),())) (fun i c=>by
   have g:L++a00 i (0:Int)++[0]=L++a00 (i+1) 0:=by simp_all[a43]
   have h:lim ((L++a00 i (0:Int)).length+1)=true:=a1h (by grind);simp only[a3I,dlt c,cT,h,a05,g,a0B (show i<1000000 by omega)])
  (by simp[a3I])
 have h:lim ((L++a00 n (0:Int)).length+1)=true:=a1h (by grind);simp_all
theorem b2M(n:Nat)(L:List Int):(unL n L).length=L.length+n+1:=by simp[unL];rfl
def a3s(x:Int)(n:Nat):Int:=bits .u64 .and (wrap .u64 x) (wrap .u64 ((A0n .u64 1 (n:Int))-1))
def a3t(n:Nat)(l:List Int)(L:List Int):List Int:=l.foldl (fun L x=>a0M (a3s x n) n L) L
theorem a5j(n:Nat):∀(l L:List Int),L.length≤(a3t n l L).length∧(a3t n l L).length≤L.length+n*l.length
 | [],L=>by simp[a3t]
 |x::l,L=>by
  have h:=a0R (a3s x n) n L;have g:=a5j n l (a0M (a3s x n) n L);have e:a3t n (x::l) L=a3t n l (a0M (a3s x n) n L):=rfl;rw[e,lC,Nat.mul_add,Nat.mul_one];omega
theorem a5y(d:n≤63)(j:l.length<10000)(e:L.length<900000000):a2o ((L,()),l,(n:Int))=some (a3t n l L,()):=by
 have a:wrap .u64 (n:Int)=(n:Int):=a0P (by omega);have b:decide ((n:Int)<0)=false:=by simp
 have f:∀(k i:Nat)(h:List Int),i+k=l.length→h.length+64*k<999990000→y0s a4R (l,(n:Int),(i:Int),(h,()),())=some ((a3t n (l.drop i) h,()),()):=by
  intro k
  induction k with
  |zero=>
   intro i h c _;obtain rfl:i=l.length:=by omega
   simp_all[a0E,a4R,a3t]
  |succ k ih=>
   intro i h c hb;have g:i<l.length:=by omega
   have hp:=a0R (a3s l[i] n) n h;rw[a03 g,a0G (s':=(l,(n:Int),((i+1:Nat):Int),(a0M (a3s l[i] n) n h,()),())) (by
    simp only[a4R,dlt g,cT,a0A g,oB,a,b,cF,show bits .u64 .and (wrap .u64 l[i]) (wrap .u64 ((A0n .u64 1 (n:Int))-1))=a3s l[i] n from rfl,a1w d (show h.length<999999000 by omega),a0B (show i<1000000 by omega)])]
   exact ih (i+1) _ (by omega) (by omega)
 have:=f l.length 0 L (by omega) (by omega)
 simp_all[a2o]
def a2K(x w:Int):Bool:=decide (1≤w)&&(decide (w≤31)&&(decide (A0n .i64 (-1) (w-1)≤x)&&decide (x≤wrap .i64 (A0n .i64 1 (w-1)-1))))
theorem a8N(a:w≤32):a1V (x,(w:Int))=some (a2K x w):=by
 unfold a1V a2K b0G a9u
 by_cases h1:1≤(w:Int)
 by_cases h2:(w:Int)≤31
 have h:decide ((w:Int)<1)=false:=by simp_all
 have g:decide ((w:Int) > 31)=false:=by simp_all
 have e:wrap .i64 ((w:Int)-1)=(w:Int)-1:=a0D (by omega);have f:decide ((w:Int)-1<0)=false:=by simp_all
 have k:decide ((w:Int)≥1)=true:=by simp_all
 simp[h1,h2,h,g,f,e]
 grind
 grind
 grind
theorem b1T(b:w≤32):a7P (x,(w:Int))=some (a2K x w):=by
 unfold a7P a2K b6p b4f
 by_cases h1:1≤(w:Int)
 by_cases h2:(w:Int)≤31
 have f:decide ((w:Int)<1)=false:=by simp_all
 have k:decide ((w:Int) > 31)=false:=by simp_all
 have e:wrap .i64 ((w:Int)-1)=(w:Int)-1:=a0D (by omega);have g:wrap .u64 ((w:Int)-1)=(w:Int)-1:=a0P (by omega);have a:decide ((w:Int)-1<0)=false:=by simp_all
 have h:decide ((w:Int)≥1)=true:=by simp_all
 simp only[h,h1,h2,f,k,a,e,g,decide_true,cT,cF,oB,a26]
 grind
 grind
 grind
def a3u(x:Int):Nat→Nat→Nat
 |0,w=>w
 |k+1,w=>bif (x != 0)&&!a2K x w then a3u x k (w+1)else w
theorem b2N(x:Int):∀(k w:Nat),a3u x k w≤w+k
 |0,w=>a32 _
 |k+1,w=>by
  simp[a3u];cases (x != 0)&&!a2K x w with
  |true=>have:=b2N x k (w+1);grind
  |false=>simp
def a0H(l:List Int):Nat:=l.foldl (fun w x=>a3u x (32-w) w) 0
theorem b3f:∀(l:List Int)(w:Nat),w≤32→l.foldl (fun w x=>a3u x (32-w) w) w≤32
 | [],w,h=>h
 |x::l,w,h=>b3f l _ (show a3u x (32-w) w≤32 by grind[b2N])
theorem a6E(l:List Int):a0H l≤32:=b3f l 0 (by omega)
theorem b9Q{x:Int}{l:List Int}{n i:Int}:∀(k w:Nat),w+k=32→y0s a2z ((w:Int),x,l,n,i,())=some (((a3u x k w:Nat):Int),l,n,i,())
 |0,w,h=>by
  obtain rfl:w=32:=by omega
  simp_all[a0E,a2z,a3u]
 |k+1,w,h=>by
  have g:decide ((w:Int)<32)=true:=by grind
  simp[a3u];cases hx:(x != 0)with
  |false=>simp_all[a0E,a2z]
  |true=>
   cases hf:a2K x w with
   |true=>exact a0E (by simp only[a2z,hx,g,a8N (show w≤32 by omega),hf,oB,cT,cF,bT,a51])
   |false=>
    rw[a0G (s':=(((w+1:Nat):Int),x,l,n,i,())) (by simp only[a2z,hx,g,a8N (show w≤32 by omega),hf,oB,cT,a19,a0B (show w<1000000 by omega)])];exact b9Q k (w+1) (by omega)
theorem a4B(c:short l):a1B l=some ((a0H l:Nat):Int):=by
 have c:l.length<1000000:=c
 have:=a1E (f:=a4J) l (fun i (w:Nat)=>((w:Int),l,(l.length:Int),(i:Int),())) (fun w x=>(.inl (a3u x (32-w) w):Nat ⊕ (Int×Unit))) (fun _ w=>w≤32) (fun w=>((w:Int),()))
  (fun i h w e=>⟨fun d k=>by
   simp at k;subst k;refine⟨?_,by grind[b2N]⟩;simp only[a4J,dlt h,cT,a0A h,oB,b9Q (32-w) w (by omega),a0B (show i<1000000 by omega)],fun b hb=>(by grind)⟩)
  (fun w _=>by simp[a4J]) (a:=0) (by omega)
 simp at this;unfold a1B;rw[this];have g:∀(l:List Int)(w:Nat),a4c (fun w x=>(.inl (a3u x (32-w) w):Nat ⊕ (Int×Unit))) l w=.inl (l.foldl (fun w x=>a3u x (32-w) w) w):=by
  intro l
  induction l with
  |nil=>intro w;rfl
  |cons x l ih=>simp_all[a4c]
 rw[g];rfl
theorem b3g{l:List Int}{i:Nat}(g:i<l.length):∀(k w:Nat),w+k=32→y0s a5Q (l,(w:Int),(i:Int),())=some (l,((a3u l[i] k w:Nat):Int),(i:Int),())
 |0,w,h=>by
  obtain rfl:w=32:=by omega
  rfl
 |k+1,w,h=>by
  have f:decide ((w:Int)<32)=true:=by grind
  simp[a3u];cases hx:(l[i] != 0)with
  |false=>simp_all[a0E,a5Q,a0A]
  |true=>
   cases hf:a2K l[i] w with
   |true=>exact a0E (by simp only[a5Q,a0A g,hx,f,b1T (show w≤32 by omega),hf,oB,cT,cF,bT,a51])
   |false=>
    rw[a0G (s':=(l,((w+1:Nat):Int),(i:Int),())) (by simp only[a5Q,a0A g,hx,f,b1T (show w≤32 by omega),hf,oB,cT,a19,a0B (show w<1000000 by omega)])];exact b3g g k (w+1) (by omega)
theorem a5k(c:short l):a4t l=some ((a0H l:Nat):Int):=by
 have c:l.length<1000000:=c
 have:=a1E (f:=a7B) l (fun i (w:Nat)=>(l,(w:Int),(i:Int),())) (fun w x=>(.inl (a3u x (32-w) w):Nat ⊕ (Int×Unit))) (fun _ w=>w≤32) (fun w=>((w:Int),()))
  (fun i h w e=>⟨fun d k=>by
   simp at k;subst k;refine⟨?_,by grind[b2N]⟩;simp only[a7B,dlt h,cT,oB,b3g h (32-w) w (by omega),a0B (show i<1000000 by omega)],fun b hb=>(by grind)⟩)
  (fun w _=>by simp[a7B]) (a:=0) (by omega)
 simp at this;unfold a4t;rw[this];have g:∀(l:List Int)(w:Nat),a4c (fun w x=>(.inl (a3u x (32-w) w):Nat ⊕ (Int×Unit))) l w=.inl (l.foldl (fun w x=>a3u x (32-w) w) w):=by
  intro l
  induction l with
  |nil=>intro w;rfl
  |cons x l ih=>simp_all[a4c]
 rw[g];rfl
def a0S(x:Int):Nat:=if 0≤x then(2*x).toNat else(-2*x-1).toNat
theorem b2O(h:a0C x=true):a0S x<2147483648:=by
 grind[a2H,a0S]
theorem d1e{y:Nat}(h:y<18446744073709551616):bits .u64 .xor (IntKind.max .u64) (y:Int)=((18446744073709551615-y:Nat):Int):=by
 show wrap .u64 (((a04 64 (IntKind.max .u64)) ^^^ (a04 64 (y:Int))).toNat:Int)=_;have g:a04 64 (IntKind.max .u64)=b17 64:=by rfl
 have f:a04 64 (y:Int)=b21 64 y:=a25 64 y;rw[g,f,a96,b04,a30,a29 h];rw[a0P (by omega)]
theorem b1U(h:a0C x=true):a9n x=some ((a0S x:Nat):Int):=by
 have k:=a2H.1 h;unfold a9n b6v a0S;simp only[a1W,h,oB,bT,cF];have f:∀y:Int,A0n .u64 y 1=wrap .u64 (y*2):=fun y=>rfl
 by_cases h0:0≤x
 have g:decide (x<0)=false:=by simp_all
 simp only[g,cF,oB,if_pos h0,f]
 grind[a0P]
 have g:decide (x<0)=true:=by simp_all
 simp only[g,cT,oB,if_neg h0,f]
 grind[wrap,IntKind.bits,IntKind.signed,d1e]
theorem a6F{N o:Nat}(h:o≤64):A0o .u64 (N:Int) (o:Int)=((N / 2^o:Nat):Int):=b2K h
theorem b1w(h:o≤64)(g:N*2^o<9223372036854775808):A0n .u64 (N:Int) (o:Int)=((N*2^o:Nat):Int):=by
 unfold A0n;show wrap .u64 ((N:Int)*2^(min (o:Int).toNat 64))=_
 grind[a0P]
theorem c3f{y k:Nat}(c:y<18446744073709551616)(f:k≤62):bits .u64 .and (y:Int) (wrap .u64 (A0n .u64 1 (k:Int)-1))=((y%2^k:Nat):Int):=by
 have hp:2^k≤2^62:=a23 (by simp) f;have a:1≤2^k:=Nat.one_le_two_pow;have b:(2:Nat)^62=4611686018427387904:=by rfl
 have h:A0n .u64 1 (k:Int)=((2^k:Nat):Int):=by have:=b1w (N:=1) (o:=k) (by omega) (by omega);simp_all
 have g:wrap .u64 (((2^k:Nat):Int)-1)=((2^k-1:Nat):Int):=by grind[a0P]
 rw[h,g];show wrap .u64 (((a04 64 (y:Int)) &&& (a04 64 ((2^k-1:Nat):Int))).toNat:Int)=_;rw[a25,a25,b05,a30,a30,a29 c,a29 (by omega),Nat.and_two_pow_sub_one_eq_mod]
 have:y%2^k<2^k:=a55 _ (by omega)
 exact a0P (by omega)
theorem b2P{q:Nat}(h:q<2147483648):wrap .i64 (q:Int)=(q:Int):=a0D (by omega)
def a7G(k:Nat)(x:Int)(L:List Int):List Int:=
 if a0S x / 2^k<32 then a0M ((a0S x%2^k:Nat):Int) k (unL (a0S x / 2^k) L)else a0M ((a0S x:Nat):Int) 32 (unL 32 L)
def a5R(k:Nat)(l:List Int)(L:List Int):List Int:=l.foldl (fun L x=>a7G k x L) L
theorem b4y(h:k≤25)(x:Int)(L:List Int):L.length≤(a7G k x L).length∧(a7G k x L).length≤L.length+100:=by
 grind[a7G,a0R,b2M]
theorem b3h{k:Nat}(h:k≤25):∀(l L:List Int),L.length≤(a5R k l L).length∧(a5R k l L).length≤L.length+100*l.length
 | [],L=>by simp[a5R]
 |x::l,L=>by
  have g:=b4y h x L;have f:=b3h h l (a7G k x L);have e:a5R k (x::l) L=a5R k l (a7G k x L):=rfl
  grind
theorem b0Z(h:k≤25):a1b (k:Int)=some true:=by
 unfold a1b
 grind
theorem b9B(r:k≤25)(C:l.length<10000)(t:l.all a0C=true)(B:L.length<900000000):a8m ((L,()),(k:Int),l)=some (0,a5R k l L,()):=by
 have o:wrap .u64 (k:Int)=(k:Int):=a0P (by omega);have e:∀(j i:Nat)(h:List Int),i+j=l.length→h.length+100*j<999990000→y0s a4w ((k:Int),l,(i:Int),(h,()),())=some ((a5R k (l.drop i) h,()),()):=by
  intro j
  induction j with
  |zero=>
   intro i h w _;obtain rfl:i=l.length:=by omega
   simp_all[a0E,a4w,a5R]
  |succ j ih=>
   intro i h w hb;have g:i<l.length:=by omega
   have a:=lA.1 t _ (a06 g);have A:=b2O a;have x:=b4y r l[i] h;have b:decide ((k:Int)<0)=false:=by simp
   have m:A0o .u64 ((a0S l[i]:Nat):Int) (k:Int)=((a0S l[i] / 2^k:Nat):Int):=a6F (by omega);have d:=a31 (a0S l[i]) (2^k);have u:=c3f (y:=a0S l[i]) (k:=k) (by omega) (by omega);have p:wrap .i64 ((a0S l[i] / 2^k:Nat):Int)=((a0S l[i] / 2^k:Nat):Int):=b2P (a50 d A);rw[a03 g,a0G (s':=((k:Int),l,((i+1:Nat):Int),(a7G k l[i] h,()),())) (by
    by_cases hq:a0S l[i] / 2^k<32
    have c:decide (((a0S l[i] / 2^k:Nat):Int)<32)=true:=decide_eq_true (by omega);have s:(unL (a0S l[i] / 2^k) h).length<999999000:=by
     rw[b2M];omega
    have f:=b4x (L:=h) (n:=a0S l[i] / 2^k) (Nat.le_of_lt (a08 hq (by simp))) (by omega);have hp:=a1w (L:=unL (a0S l[i] / 2^k) h) (v:=((a0S l[i]%2^k:Nat):Int)) (n:=k) (by omega) s;simp only[a4w,dlt g,cT,a0A g,oB,b1U a,o,b,cF,m,c,p,f,u,hp,a7G,if_pos hq,a0B (show i<1000000 by omega)];have c:decide (((a0S l[i] / 2^k:Nat):Int)<32)=false:=decide_eq_false (by omega);have s:=b2M 32 h;have f:a2B ((h,()),(32:Int))=some (0,unL 32 h,()):=b4x (L:=h) (n:=32) (by omega) (by omega);have hp:a0I ((unL 32 h,()),((a0S l[i]:Nat):Int),(32:Int))=some (a6D ((a0S l[i]:Nat):Int) 32,a0M ((a0S l[i]:Nat):Int) 32 (unL 32 h),()):=a1w (L:=unL 32 h) (v:=((a0S l[i]:Nat):Int)) (n:=32) (by omega) (by omega);simp only[a4w,dlt g,cT,a0A g,oB,b1U a,o,b,cF,m,c,p,f,hp,a7G,if_neg hq,a0B (show i<1000000 by omega)])]
   exact ih (i+1) _ (by omega) (by omega)
 have q:=e l.length 0 L (by omega) (by omega);simp at q;have z:short l:=by unfold short;omega
 unfold a8m;simp only[b0Z r,oB,bT,cF,a1t z,t,q]
def a1z(zn:List Nat):List Int:=zn.map fun(a:Nat)=>(a:Int)
theorem c1H(n M:Nat):(a00 n M).sum=n*M:=by
 simp
theorem b5Q{o n:Int}(h:(a1H o n warm).length≠0):∃zn:List Nat,a1H o n warm=a1z zn∧(zn.sum:Int)=n-warm∧zn.length≤256:=by
 unfold a1H at h⊢;cases hr:(a6d n warm&&(decide (0≤o)&&decide (o≤8)))with
 |false=>simp_all
 |true=>
  rw[hr]at h;simp only[cT]at h⊢;simp[a6d]at hr;unfold a9p at h⊢
  split at h
  rename_i g;rw[if_pos g];obtain⟨O,rfl⟩:=a01 hr.2.1;obtain⟨N,rfl⟩:=a01 (show 0≤n by omega);obtain⟨w,rfl⟩:=a01 (show 0≤warm by omega);simp only[tN]at g⊢;have hp:=c8H (o:=O) (by omega);have f:=b06 N (2^O);rw[g.1,Nat.add_zero]at f;have k:w≤N / 2^O:=by omega
  generalize N / 2^O=M at g k f⊢;generalize 2^O=P at hp f⊢;refine⟨(M-w)::a00 (P-1) M,?_,?_,?_⟩
  grind[a1z,List.map_replicate]
  rw[a89,c1H];obtain⟨q,rfl⟩:∃q,P=q+1:=⟨P-1,by omega⟩
  grind
  simp_all;simp_all
def a9h(k:Int)(part L:List Int):List Int:=
 if k=31 then a3t (a0H part) part (a0M ((a0H part:Nat):Int) 5 (a0M (wrap .u64 k) 5 L))else a5R k.toNat part (a0M (wrap .u64 k) 5 L)
def a5l:List Nat→List Int→List Int→List Int→List Int
 |z::zs,k::ks,l,L=>a5l zs ks (l.drop z) (a9h k (l.take z) L)
 |_,_,_,L=>L
theorem b4z{k:Int}(g:kB k=true)(h L:List Int):L.length≤(a9h k h L).length∧(a9h k h L).length≤L.length+10+100*h.length:=by
 unfold a9h;have b:=a0R (wrap .u64 k) 5 L;split;have c:=a0R ((a0H h:Nat):Int) 5 (a0M (wrap .u64 k) 5 L);have d:=a5j (a0H h) h (a0M ((a0H h:Nat):Int) 5 (a0M (wrap .u64 k) 5 L));have a:=a6E h
 have:a0H h*h.length≤32*h.length:=a88 _ a
 omega;rename_i f;simp[kB]at g
 grind[b3h]
theorem b4A(h:i<zn.length):a40 (a1z zn) i 0=((zn[i]:Nat):Int):=by
 simp_all[a1z]
theorem a2y(h:List Nat):(a1z h).length=h.length:=by simp[a1z]
theorem c3g(h:i<zn.length):(zn.drop i).sum=zn[i]+(zn.drop (i+1)).sum:=by
 grind[a03]
theorem a9q{zn:List Nat}{p:Prt}{l:List Int}(N:p.2.1.length=zn.length)(b:p.2.1.all kB=true)(T:zn.length≤256)(E:l.all a0C=true)(s:l.length≤5000):∀(j i off:Nat)(L:List Int),i+j=zn.length→off+(zn.drop i).sum=l.length→L.length+10*j+100*(l.length-off)<800000000→
  y0s a2X (l,(off:Int),(i:Int),a1z zn,(L,()),p,())=some ((a5l (zn.drop i) (p.2.1.drop i) (l.drop off) L,()),())
 |0,i,off,L,hi,_,_=>by
  obtain rfl:i=zn.length:=by omega
  simp_all[a0E,a2X,a5l,a2y]
 |j+1,i,off,L,hi,hsum,hb=>by
  have a:i<zn.length:=by omega
  have f:i<p.2.1.length:=by omega
  have q:=lA.1 b _ (a06 f);rw[c3g a]at hsum;have y:decide ((0:Int)≤(i:Int))=true:=by simp
  have z:decide ((i:Int)<(((a1z zn).length:Nat):Int))=true:=by simp_all[a2y]
  have w:wrap .i64 ((off:Int)+((zn[i]:Nat):Int))=((off+zn[i]:Nat):Int):=by grind[a0D]
  have A:decide ((0:Int)≤((off+zn[i]:Nat):Int))=true:=by rfl
  have B:decide (((off+zn[i]:Nat):Int)≤((l.length:Nat):Int))=true:=by grind
  have C:decide ((0:Int)≤(off:Int))=true:=by simp
  have D:decide ((off:Int)≤((off+zn[i]:Nat):Int))=true:=by grind
  have h:b20 off (b01 (off+zn[i]) l)=(l.drop off).take zn[i]:=by grind
  have d:(l.drop off).drop zn[i]=l.drop (off+zn[i]):=by simp
  have t:((l.drop off).take zn[i]).length=zn[i]:=by rw[a60,a34];omega
  have v:((l.drop off).take zn[i]).all a0C=true:=lA.2 fun x S=>lA.1 E x (a44 (a45 S));have Q:=b4z q ((l.drop off).take zn[i]) L;have O:=a0R (wrap .u64 p.2.1[i]) 5 L;have c:a0I ((L,()),wrap .u64 p.2.1[i],(5:Int))=some (a6D (wrap .u64 p.2.1[i]) 5,a0M (wrap .u64 p.2.1[i]) 5 L,()):=a1w (n:=5) (by omega) (by omega);have G:zn.drop i=zn[i]::zn.drop (i+1):=a03 a;have H:p.2.1.drop i=p.2.1[i]::p.2.1.drop (i+1):=a03 f;rw[G,H,a5l,d];have o:a2X (l,(off:Int),(i:Int),a1z zn,(L,()),p,())=some (.inl (l,((off+zn[i]:Nat):Int),((i+1:Nat):Int),a1z zn,(a9h p.2.1[i] ((l.drop off).take zn[i]) L,()),p,())):=by
   by_cases h31:p.2.1[i]=31
   have e:(p.2.1[i]==31)=true:=by simp_all
   have R:=a6E ((l.drop off).take zn[i]);have u:=a5k (l:=(l.drop off).take zn[i]) (by unfold short;omega);have P:=a0R ((a0H ((l.drop off).take zn[i]):Nat):Int) 5 (a0M (wrap .u64 p.2.1[i]) 5 L);have I:wrap .u64 ((a0H ((l.drop off).take zn[i]):Nat):Int)=((a0H ((l.drop off).take zn[i]):Nat):Int):=a0P (by omega);have m:a0I ((a0M (wrap .u64 p.2.1[i]) 5 L,()),((a0H ((l.drop off).take zn[i]):Nat):Int),(5:Int))=some (a6D ((a0H ((l.drop off).take zn[i]):Nat):Int) 5,a0M ((a0H ((l.drop off).take zn[i]):Nat):Int) 5 (a0M (wrap .u64 p.2.1[i]) 5 L),()):=a1w (n:=5) (by omega) (by omega);have r:=a5y (l:=(l.drop off).take zn[i]) (L:=a0M ((a0H ((l.drop off).take zn[i]):Nat):Int) 5 (a0M (wrap .u64 p.2.1[i]) 5 L)) (n:=a0H ((l.drop off).take zn[i])) (by omega) (by omega) (by omega);simp only[a2X,y,z,b4A a,w,A,B,C,D,cT,a02,tN,a0A f,oB,c,e,h,u,I,m,r,a0B (show i<1000000 by omega),a9h,if_pos h31];have e:(p.2.1[i]==31)=false:=by simp_all
   simp[kB]at q;obtain⟨K,M⟩:=a01 (show 0≤p.2.1[i]by omega);have g:=b9B (k:=K) (l:=(l.drop off).take zn[i]) (L:=a0M (wrap .u64 p.2.1[i]) 5 L) (by omega) (by omega) v (by omega);rw[←M]at g;have F:K=p.2.1[i].toNat:=by omega
   simp only[a2X,y,z,b4A a,w,A,B,C,D,cT,cF,a02,tN,a0A f,oB,c,e,h,g,a0B (show i<1000000 by omega),a9h,if_neg h31,F]
  rw[a0G o];exact a9q N b T E s j (i+1) (off+zn[i]) _ (by omega) (by omega) (by omega)
theorem b5u(e:k≤25)(g:a0C x=true):∃c,a7C ((k:Int),x)=some c∧0≤c∧c≤65:=by
 have i:=b2O g;have f:A0o .u64 ((a0S x:Nat):Int) (k:Int)=((a0S x / 2^k:Nat):Int):=a6F (by omega);have b:wrap .i64 ((a0S x / 2^k:Nat):Int)=((a0S x / 2^k:Nat):Int):=b2P (a50 (a31 _ _) i);have a:wrap .u64 (k:Int)=(k:Int):=a0P (by omega);have h:decide ((k:Int)<0)=false:=by simp
 unfold a7C;simp only[b0Z e,a1W,g,oB,bT,cF,b1U g,a,h,f,b];generalize a0S x / 2^k=q
 by_cases hq:q<32
 have d:decide ((q:Int)<32)=true:=decide_eq_true (by omega);refine⟨(q:Int)+1+k,?_,by omega,by omega⟩;simp only[d,cT]
 grind[a0D]
 grind
theorem b6G(p:k≤25)(q:l.all a0C=true)(t:l.length<10000):∃c,a8l ((k:Int),l)=some c∧0≤c∧c≤65*l.length:=by
 have g:∀(j i:Nat)(c:Int),i+j=l.length→0≤c→c≤65*i→∃c',y0s a6p ((k:Int),l,c,(i:Int),())=some (c',())∧0≤c'∧c'≤65*l.length:=by
  intro j
  induction j with
  |zero=>
   intro i c o a f;obtain rfl:i=l.length:=by omega
   simp_all[a0E,a6p]
  |succ j ih=>
   intro i c o a f;have h:i<l.length:=by omega
   obtain⟨d,b,m,n⟩:=b5u p (lA.1 q _ (a06 h));have e:wrap .i64 (c+d)=c+d:=a0D (by omega);rw[a0G (s':=((k:Int),l,c+d,((i+1:Nat):Int),())) (by simp only[a6p,dlt h,cT,a0A h,oB,b,e,a0B (show i<1000000 by omega)])];exact ih (i+1) _ (by omega) (by omega) (by omega)
 obtain⟨c,f,r,s⟩:=g l.length 0 0 (by omega) (by omega) (by omega);simp_all[a8l]
theorem c7I(g:w≤32)(f:n<10000):0≤(w:Int)*(n:Int)∧(w:Int)*(n:Int)≤32*n:=by
 have h:w*n≤32*n:=a88 _ g;omega
theorem a8C{zn:List Nat}{p:Prt}{l:List Int}(H:p.2.1.length=zn.length)(h:p.2.1.all kB=true)(N:zn.length≤256)(t:l.all a0C=true)(o:l.length≤5000):∀(j i off:Nat)(c:Int),i+j=zn.length→off+(zn.drop i).sum=l.length→4≤c→c+10*j+65*(l.length-off:Nat)<1000000→
  ∃c',y0s a4S (l,c,(off:Int),(i:Int),a1z zn,p,())=some (c',())∧4≤c'
 |0,i,off,c,hi,_,hc,_=>by
  obtain rfl:i=zn.length:=by omega
  simp_all[a0E,a4S,a2y]
 |j+1,i,off,c,hi,hsum,hc,hb=>by
  have b:i<zn.length:=by omega
  have a:i<p.2.1.length:=by omega
  have m:=lA.1 h _ (a06 a);rw[c3g b]at hsum;have y:decide ((0:Int)≤(i:Int))=true:=by simp
  have z:decide ((i:Int)<(((a1z zn).length:Nat):Int))=true:=by simp_all[a2y]
  have w:wrap .i64 ((off:Int)+((zn[i]:Nat):Int))=((off+zn[i]:Nat):Int):=by grind[a0D]
  have A:decide ((0:Int)≤((off+zn[i]:Nat):Int))=true:=by rfl
  have B:decide (((off+zn[i]:Nat):Int)≤((l.length:Nat):Int))=true:=by grind
  have C:decide ((0:Int)≤(off:Int))=true:=by simp
  have D:decide ((off:Int)≤((off+zn[i]:Nat):Int))=true:=by grind
  have g:b20 off (b01 (off+zn[i]) l)=(l.drop off).take zn[i]:=by grind
  have q:((l.drop off).take zn[i]).length=zn[i]:=by rw[a60,a34];omega
  have s:((l.drop off).take zn[i]).all a0C=true:=lA.2 fun x M=>lA.1 t x (a44 (a45 M));have f:∃d,a7D (p.2.1[i],(l.drop off).take zn[i])=some d∧0≤d∧d≤5+65*zn[i]:=by
   unfold a7D
   by_cases h31:p.2.1[i]=31
   have e:(p.2.1[i]==31)=true:=by simp_all
   have P:=c7I (a6E ((l.drop off).take zn[i])) (show((l.drop off).take zn[i]).length<10000 by omega);refine⟨5+((a0H ((l.drop off).take zn[i]):Nat):Int)*((((l.drop off).take zn[i]).length:Nat):Int),?_,by omega,by omega⟩;simp only[e,cT,a5k (show short ((l.drop off).take zn[i])by unfold short;omega),oB];rw[Int.mul_comm (((((l.drop off).take zn[i]).length:Nat):Int)),a0D (n:=((a0H ((l.drop off).take zn[i]):Nat):Int)*((((l.drop off).take zn[i]).length:Nat):Int)) (by omega),a0D (by omega)];have e:(p.2.1[i]==31)=false:=by simp_all
   simp[kB]at m;obtain⟨K,O⟩:=a01 (show 0≤p.2.1[i]by omega);obtain⟨r,Q,I,L⟩:=b6G (k:=K) (by omega) s (by omega)
   grind
  obtain⟨d,E,F,G⟩:=f;have u:wrap .i64 (c+5)=c+5:=a0D (by omega);have v:wrap .i64 (c+5+d)=c+5+d:=a0D (by omega);rw[a0G (s':=(l,c+5+d,((off+zn[i]:Nat):Int),((i+1:Nat):Int),a1z zn,p,())) (by
   simp only[a4S,y,z,b4A b,w,A,B,C,D,cT,a02,tN,a0A a,oB,g,E,u,v,a0B (show i<1000000 by omega)])]
  exact a8C H h N t o j (i+1) (off+zn[i]) _ (by omega) (by omega) (by omega) (by omega)
structure PartsOk (p:Prt) (n warm:Int) (l:List Int) (zn:List Nat):Prop where
 may:a5i p n warm=true
 sizes:a1H p.1 n warm=a1z zn
 sum:zn.sum=l.length
 len:zn.length≤256
 ks:p.2.1.length=zn.length
 all:p.2.1.all kB=true
 wide:l.all a0C=true
 short:l.length≤5000
 row:a6d n warm=true
 rest:(l.length:Int)=n-warm
 order:0≤p.1∧p.1≤8
theorem PartsOk.of{p:Prt}{n warm:Int}{l:List Int}(h:a5i p n warm=true)(i:(l.length:Int)=n-warm)(j:l.all a0C=true)(e:l.length≤5000):∃g,PartsOk p n warm l g:=by
 have f:=h;simp only[a5i,bA,b02,beq_eq_false_iff_ne,ne_eq,beq_iff_eq]at f;obtain⟨c,o,d⟩:=f;obtain⟨g,a,m,b⟩:=b5Q c;have k:a6d n warm=true∧0≤p.1∧p.1≤8:=by
  grind[a1H]
 exact⟨g,h,a,by omega,b,by simp_all[a2y],d,j,e,k.1,i,k.2⟩
theorem b4B{n:Int}(h:PartsOk p n warm l zn):∃c,a6Z (p,n,warm,l)=some c∧4≤c:=by
 have a:Go.Ab.short p.2.1:=by have:=h.ks;have:=h.len;unfold Go.Ab.short;omega
 have d:Go.Ab.short l:=by have:=h.short;unfold Go.Ab.short;omega
 have i:=h.short;have j:=h.len;have b:=h.row;simp[a6d]at b;have e:wrap .i64 (n-warm)=n-warm:=a0D (by omega);have k:(((l.length:Nat):Int) != n-warm)=false:=by rw[h.rest];simp
 obtain⟨c,g,f⟩:=a8C h.ks h.all h.len h.wide h.short zn.length 0 0 4 (by omega) (by rw[a84,h.sum];omega) (by omega) (by omega);simp at g;refine⟨c,?_,f⟩;unfold a6Z;simp only[a8t a,h.may,oB,bT,cF,e,k,a1t d,h.wide,a4U,h.sizes,g]
def a5o(p:Prt)(zn:List Nat)(l L:List Int):List Int:=a5l zn p.2.1 l (a0M (wrap .u64 p.1) 4 L)
theorem b8d{n:Int}(h:PartsOk p n warm l zn)(i:L.length<700000000):a7E ((L,()),p,n,warm,l)=some (0,a5o p zn l L,()):=by
 have e:=h.short;have j:=h.len;obtain⟨c,a,b⟩:=b4B h;have k:(c==0)=false:=by grind
 have d:=a0R (wrap .u64 p.1) 4 L;have f:a0I ((L,()),wrap .u64 p.1,(4:Int))=some (a6D (wrap .u64 p.1) 4,a0M (wrap .u64 p.1) 4 L,()):=a1w (n:=4) (by omega) (by omega);have g:=a9q h.ks h.all h.len h.wide h.short zn.length 0 0 (a0M (wrap .u64 p.1) 4 L) (by omega) (by rw[a84,h.sum];omega) (by omega);simp at g;unfold a7E;simp only[a,oB,k,cF,f,a4U,h.sizes,g,a5o]
def a8u(s:Stg)(L:List Int):List Int:=a0M (wrap .u64 s.2.1) 4 (a0M (wrap .u64 (wrap .i64 (s.1-1))) 5 L)
def a5m(st:List Stg)(L:List Int):List Int:=st.foldl (fun L s=>a8u s L) L
theorem b3i(s:Stg)(L:List Int):(a8u s L).length≤L.length+9:=by
 grind[a0R,a8u]
theorem b2o:∀(st:List Stg)(L:List Int),(a5m st L).length≤L.length+9*st.length
 | [],L=>by simp[a5m]
 |s::st,L=>by
  have h:=b3i s L;have g:=b2o st (a8u s L);have e:a5m (s::st) L=a5m st (a8u s L):=rfl
  grind
theorem b1x{n wd:Int}{s:Sub}(a:s.2.2.2.2.2.2.2.1.length<10000):∀(j i:Nat)(L:List Int),i+j=s.2.2.2.2.2.2.2.1.length→L.length+64*j<999990000→
  y0s a6q (n,wd,(i:Int),(L,()),s,())=some (n,wd,(a5m (s.2.2.2.2.2.2.2.1.drop i) L,()),s,())
 |0,i,L,hi,_=>by
  obtain rfl:i=s.2.2.2.2.2.2.2.1.length:=by omega
  simp_all[a0E,a6q,a5m]
 |j+1,i,L,hi,hb=>by
  have h:i<s.2.2.2.2.2.2.2.1.length:=by omega
  have k:=a0R (wrap .u64 (wrap .i64 (s.2.2.2.2.2.2.2.1[i].1-1))) 5 L;have b:=b3i s.2.2.2.2.2.2.2.1[i] L;have g:a0I ((L,()),wrap .u64 (wrap .i64 (s.2.2.2.2.2.2.2.1[i].1-1)),(5:Int))=some (a6D (wrap .u64 (wrap .i64 (s.2.2.2.2.2.2.2.1[i].1-1))) 5,a0M (wrap .u64 (wrap .i64 (s.2.2.2.2.2.2.2.1[i].1-1))) 5 L,()):=a1w (n:=5) (by omega) (by omega);have f:a0I ((a0M (wrap .u64 (wrap .i64 (s.2.2.2.2.2.2.2.1[i].1-1))) 5 L,()),wrap .u64 s.2.2.2.2.2.2.2.1[i].2.1,(4:Int))=some (a6D (wrap .u64 s.2.2.2.2.2.2.2.1[i].2.1) 4,a8u s.2.2.2.2.2.2.2.1[i] L,()):=a1w (n:=4) (by omega) (by omega);rw[a03 h,a0G (s':=(n,wd,((i+1:Nat):Int),(a8u s.2.2.2.2.2.2.2.1[i] L,()),s,())) (by
   simp only[a6q,dlt h,cT,a0A h,oB,g,f,a0B (show i<1000000 by omega)])]
  exact b1x a j (i+1) _ (by omega) (by omega)
def a7v(s:Sub)(L:List Int):List Int:=
 a3t (a0H s.2.2.2.2.2.1) s.2.2.2.2.2.1 (a0M ((a0H s.2.2.2.2.2.1:Nat):Int) 5 (a0M (wrap .u64 s.2.2.2.1) 4 (a0M (wrap .u64 (wrap .i64 (((s.2.2.2.2.2.1.length:Nat):Int)-1))) 5 L)))
theorem c1I{s:Sub}(h:s.2.2.2.2.2.1.length≤40)(L:List Int):(a7v s L).length≤L.length+2000:=by
 unfold a7v;have f:=a0R (wrap .u64 (wrap .i64 (((s.2.2.2.2.2.1.length:Nat):Int)-1))) 5 L;have k:=a0R (wrap .u64 s.2.2.2.1) 4 (a0M (wrap .u64 (wrap .i64 (((s.2.2.2.2.2.1.length:Nat):Int)-1))) 5 L);have a:=a0R ((a0H s.2.2.2.2.2.1:Nat):Int) 5 (a0M (wrap .u64 s.2.2.2.1) 4 (a0M (wrap .u64 (wrap .i64 (((s.2.2.2.2.2.1.length:Nat):Int)-1))) 5 L));have b:=a5j (a0H s.2.2.2.2.2.1) s.2.2.2.2.2.1 (a0M ((a0H s.2.2.2.2.2.1:Nat):Int) 5 (a0M (wrap .u64 s.2.2.2.1) 4 (a0M (wrap .u64 (wrap .i64 (((s.2.2.2.2.2.1.length:Nat):Int)-1))) 5 L)));have g:=a6E s.2.2.2.2.2.1
 have:a0H s.2.2.2.2.2.1*s.2.2.2.2.2.1.length≤32*40:=a52 g h
 omega
theorem b1a(h:s.2.2.2.2.2.1.length≤40)(i:L.length<800000000):a4v ((L,()),s)=some (a7v s L,()):=by
 have c:=a0R (wrap .u64 (wrap .i64 (((s.2.2.2.2.2.1.length:Nat):Int)-1))) 5 L;have d:=a0R (wrap .u64 s.2.2.2.1) 4 (a0M (wrap .u64 (wrap .i64 (((s.2.2.2.2.2.1.length:Nat):Int)-1))) 5 L);have e:=a0R ((a0H s.2.2.2.2.2.1:Nat):Int) 5 (a0M (wrap .u64 s.2.2.2.1) 4 (a0M (wrap .u64 (wrap .i64 (((s.2.2.2.2.2.1.length:Nat):Int)-1))) 5 L));have j:=a6E s.2.2.2.2.2.1;have f:wrap .u64 ((a0H s.2.2.2.2.2.1:Nat):Int)=((a0H s.2.2.2.2.2.1:Nat):Int):=a0P (by omega);have k:a0I ((L,()),wrap .u64 (wrap .i64 (((s.2.2.2.2.2.1.length:Nat):Int)-1)),(5:Int))=some (a6D (wrap .u64 (wrap .i64 (((s.2.2.2.2.2.1.length:Nat):Int)-1))) 5,a0M (wrap .u64 (wrap .i64 (((s.2.2.2.2.2.1.length:Nat):Int)-1))) 5 L,()):=a1w (n:=5) (by omega) (by omega);have a:a0I ((a0M (wrap .u64 (wrap .i64 (((s.2.2.2.2.2.1.length:Nat):Int)-1))) 5 L,()),wrap .u64 s.2.2.2.1,(4:Int))=some (a6D (wrap .u64 s.2.2.2.1) 4,a0M (wrap .u64 s.2.2.2.1) 4 (a0M (wrap .u64 (wrap .i64 (((s.2.2.2.2.2.1.length:Nat):Int)-1))) 5 L),()):=a1w (n:=4) (by omega) (by omega);have b:a0I ((a0M (wrap .u64 s.2.2.2.1) 4 (a0M (wrap .u64 (wrap .i64 (((s.2.2.2.2.2.1.length:Nat):Int)-1))) 5 L),()),((a0H s.2.2.2.2.2.1:Nat):Int),(5:Int))=some (a6D ((a0H s.2.2.2.2.2.1:Nat):Int) 5,a0M ((a0H s.2.2.2.2.2.1:Nat):Int) 5 (a0M (wrap .u64 s.2.2.2.1) 4 (a0M (wrap .u64 (wrap .i64 (((s.2.2.2.2.2.1.length:Nat):Int)-1))) 5 L)),()):=a1w (n:=5) (by omega) (by omega);have g:=a5y (l:=s.2.2.2.2.2.1) (n:=a0H s.2.2.2.2.2.1) (L:=a0M ((a0H s.2.2.2.2.2.1:Nat):Int) 5 (a0M (wrap .u64 s.2.2.2.1) 4 (a0M (wrap .u64 (wrap .i64 (((s.2.2.2.2.2.1.length:Nat):Int)-1))) 5 L))) (by omega) (by omega) (by omega);unfold a4v;simp only[k,a,a5k (show short s.2.2.2.2.2.1 by unfold short;omega),f,b,g,oB,a7v]
def b1y(s:Sub)(L:List Int):List Int:=
 a0M ((a0H s.2.2.2.2.2.2.2.2.1:Nat):Int) 5 (a0M (wrap .u64 s.2.1) 5 (a0M (wrap .u64 s.1) 3 L))
def a3b(s:Sub)(L:List Int):List Int:=
 if s.1=2 then a0M (wrap .u64 s.2.2.1) 3 L
 else if s.1=3 then a7v s L
 else if s.1=4 then a7v s (a3t 8 s.2.2.2.2.2.2.1 (a0M (wrap .u64 (wrap .i64 (s.2.2.2.2.1-1))) 10 L))
 else if s.1=5 then a5m s.2.2.2.2.2.2.2.1 (a0M (wrap .u64 ((s.2.2.2.2.2.2.2.1.length:Nat):Int)) 2 L)
 else L
theorem c3h(h:SmallS s)(L:List Int):(a3b s L).length≤L.length+3000:=by
 have f:=h.coefs;have k:=h.taps;have g:=h.stages
 grind[a3b,a0R,c1I,a5j,b2o]
theorem b3j:∀(zs:List Nat)(ks l L:List Int),ks.all kB=true→(a5l zs ks l L).length≤L.length+10*zs.length+100*l.length
 |z::zs,k::ks,l,L,h=>by
  simp only[a33,bA]at h;have g:=b4z h.1 (l.take z) L;have f:=b3j zs ks (l.drop z) (a9h k (l.take z) L) h.2;rw[a60]at g;rw[a34]at f;simp only[a5l,lC];omega
 | [],_,_,_,_=>by simp_all[a5l]
 |_::_,[],_,_,_=>by grind[a5l]
def a8O(s:Sub)(zn:List Nat)(L:List Int):List Int:=
 if s.1=0∨s.1=1 then a3t (a0H s.2.2.2.2.2.2.2.2.1) s.2.2.2.2.2.2.2.2.1 (a3b s (b1y s L))
 else a5o s.2.2.2.2.2.2.2.2.2.1 zn s.2.2.2.2.2.2.2.2.2.2.1 (a3t (a0H s.2.2.2.2.2.2.2.2.1) s.2.2.2.2.2.2.2.2.1 (a3b s (b1y s L)))
theorem c6N(h:SmallS s){n:Int}(Q:L.length<100000000):
  ∃(e:Int)(L':List Int),a3n ((L,()),s,n)=some (e,L',())∧(e=0∨L'=L)∧L'.length≤L.length+700000∧
   ((a1R s n).isSome=true→e=0∧∃a,L'=a8O s a L∧(s.1≠0∧s.1≠1→PartsOk s.2.2.2.2.2.2.2.2.2.1 n ((s.2.2.2.2.2.2.2.2.1.length:Nat):Int) s.2.2.2.2.2.2.2.2.2.2.1 a))∧((a1R s n).isSome=false→e=1∧L'=L):=by
 unfold a3n;simp only[c1G h,oB];cases hs:(a1R s n).isSome with
 |false=>grind
 |true=>
  have hp:a1I s n:=by
   grind[a1R]
  obtain⟨O,P,D,-,-,-,-,A,G,E,-,o⟩:=hp;have c:=b4t D;have w:=a6E s.2.2.2.2.2.2.2.2.1;have v:short s.2.2.2.2.2.2.2.2.1:=by have:=h.warm;unfold short;omega
  have d:=h.warm;have u:=h.rest;have F:=h.stages;have R:=h.taps;have S:=a0R (wrap .u64 s.1) 3 L;have T:=a0R (wrap .u64 s.2.1) 5 (a0M (wrap .u64 s.1) 3 L);have U:=a0R ((a0H s.2.2.2.2.2.2.2.2.1:Nat):Int) 5 (a0M (wrap .u64 s.2.1) 5 (a0M (wrap .u64 s.1) 3 L));have C:wrap .u64 ((a0H s.2.2.2.2.2.2.2.2.1:Nat):Int)=((a0H s.2.2.2.2.2.2.2.2.1:Nat):Int):=a0P (by omega);have K:a0I ((L,()),wrap .u64 s.1,(3:Int))=some (a6D (wrap .u64 s.1) 3,a0M (wrap .u64 s.1) 3 L,()):=a1w (n:=3) (by omega) (by omega);have r2:a0I ((a0M (wrap .u64 s.1) 3 L,()),wrap .u64 s.2.1,(5:Int))=some (a6D (wrap .u64 s.2.1) 5,a0M (wrap .u64 s.2.1) 5 (a0M (wrap .u64 s.1) 3 L),()):=a1w (n:=5) (by omega) (by omega);have B:a0I ((a0M (wrap .u64 s.2.1) 5 (a0M (wrap .u64 s.1) 3 L),()),((a0H s.2.2.2.2.2.2.2.2.1:Nat):Int),(5:Int))=some (a6D ((a0H s.2.2.2.2.2.2.2.2.1:Nat):Int) 5,b1y s L,()):=a1w (n:=5) (by omega) (by omega);have H:(b1y s L).length≤L.length+13:=by unfold b1y;omega
  generalize hM:b1y s L=M at B H;have V:=c3h h M;have I:=a5j (a0H s.2.2.2.2.2.2.2.2.1) s.2.2.2.2.2.2.2.2.1 (a3b s M);have X:a0H s.2.2.2.2.2.2.2.2.1*s.2.2.2.2.2.2.2.2.1.length≤32*5000:=a52 w d;have g:=a5y (l:=s.2.2.2.2.2.2.2.2.1) (n:=a0H s.2.2.2.2.2.2.2.2.1) (L:=a3b s M) (by omega) (by omega) (by omega)

  have b:=b1x (n:=n) (wd:=((a0H s.2.2.2.2.2.2.2.2.1:Nat):Int)) (s:=s) (by omega) s.2.2.2.2.2.2.2.1.length 0 (a0M (wrap .u64 ((s.2.2.2.2.2.2.2.1.length:Nat):Int)) 2 M) (by omega) (by grind[a0R]);have Y:=a0R (wrap .u64 (wrap .i64 (s.2.2.2.2.1-1))) 10 M;have Z:=a5j 8 s.2.2.2.2.2.2.1 (a0M (wrap .u64 (wrap .i64 (s.2.2.2.2.1-1))) 10 M);have j:a2o ((a0M (wrap .u64 (wrap .i64 (s.2.2.2.2.1-1))) 10 M,()),s.2.2.2.2.2.2.1,(8:Int))=some (a3t 8 s.2.2.2.2.2.2.1 (a0M (wrap .u64 (wrap .i64 (s.2.2.2.2.1-1))) 10 M),()):=a5y (n:=8) (by omega) (by omega) (by omega);have t:b01 3 s.2.2.2.2.2.2.1=s.2.2.2.2.2.2.1:=a38 (by omega);simp at b;have x:a0I ((M,()),wrap .u64 s.2.2.1,(3:Int))=some (a6D (wrap .u64 s.2.2.1) 3,a0M (wrap .u64 s.2.2.1) 3 M,()):=a1w (n:=3) (by omega) (by omega);have y:a0I ((M,()),wrap .u64 (wrap .i64 (s.2.2.2.2.1-1)),(10:Int))=some (a6D (wrap .u64 (wrap .i64 (s.2.2.2.2.1-1))) 10,a0M (wrap .u64 (wrap .i64 (s.2.2.2.2.1-1))) 10 M,()):=a1w (n:=10) (by omega) (by omega);have z:a0I ((M,()),wrap .u64 ((s.2.2.2.2.2.2.2.1.length:Nat):Int),(2:Int))=some (a6D (wrap .u64 ((s.2.2.2.2.2.2.2.1.length:Nat):Int)) 2,a0M (wrap .u64 ((s.2.2.2.2.2.2.2.1.length:Nat):Int)) 2 M,()):=a1w (n:=2) (by omega) (by omega);have q:=b1a (s:=s) h.coefs (L:=M) (by omega);have r:=b1a (s:=s) h.coefs (L:=a3t 8 s.2.2.2.2.2.2.1 (a0M (wrap .u64 (wrap .i64 (s.2.2.2.2.1-1))) 10 M)) (by omega);simp only[bT,cF,a5k v,oB,K,r2,C,B];generalize hPM:a3t (a0H s.2.2.2.2.2.2.2.2.1) s.2.2.2.2.2.2.2.2.1 (a3b s M)=PM at g I

  have m:∀(i:s.1≠0∧s.1≠1),∃a,PartsOk s.2.2.2.2.2.2.2.2.2.1 n ((s.2.2.2.2.2.2.2.2.1.length:Nat):Int) s.2.2.2.2.2.2.2.2.2.2.1 a:=fun i=>by
   simp_all[PartsOk.of]
  rcases c with k|k|k|k|k|k;have f:a3b s M=M:=by unfold a3b;grind
  rw[f]at g;refine⟨0,PM,?_,.inl rfl,by omega,fun _=>⟨rfl,[],by simp_all[a8O],fun h=>absurd k (by omega)⟩,fun h=>by grind⟩;simp only[k,show((0:Int)==2)=false from rfl,show((0:Int)==4)=false from rfl,show((0:Int)==3)=false from rfl,show((0:Int)==5)=false from rfl,cF,oB,g,a4A]
  simp
  have f:a3b s M=M:=by unfold a3b;grind
  rw[f]at g;refine⟨0,PM,?_,.inl rfl,by omega,fun _=>⟨rfl,[],by simp_all[a8O],fun h=>absurd k (by omega)⟩,fun h=>by grind⟩;simp only[k,show((1:Int)==2)=false from rfl,show((1:Int)==4)=false from rfl,show((1:Int)==3)=false from rfl,show((1:Int)==5)=false from rfl,cF,oB,g,a4A]
  simp
  all_goals
   obtain⟨a,p⟩:=m (by omega);have t2:=b8d (L:=PM) p (by omega);have N:(a5o s.2.2.2.2.2.2.2.2.2.1 a s.2.2.2.2.2.2.2.2.2.2.1 PM).length≤L.length+700000:=by
    have z1:=a0R (wrap .u64 s.2.2.2.2.2.2.2.2.2.1.1) 4 PM;have z2:=b3j a s.2.2.2.2.2.2.2.2.2.1.2.1 s.2.2.2.2.2.2.2.2.2.2.1 (a0M (wrap .u64 s.2.2.2.2.2.2.2.2.2.1.1) 4 PM) p.all;have z3:=p.len
    grind[a5o]
   refine⟨0,a5o s.2.2.2.2.2.2.2.2.2.1 a s.2.2.2.2.2.2.2.2.2.2.1 PM,?_,.inl rfl,N,fun _=>⟨rfl,a,by simp_all[a8O],fun _=>p⟩,fun h=>by grind⟩
  have f:a3b s M=a0M (wrap .u64 s.2.2.1) 3 M:=by unfold a3b;grind
  rw[f]at g;simp only[k,show((2:Int)==2)=true from rfl,cT,x,oB,g,a4A]
  grind
  have f:a3b s M=a7v s M:=by unfold a3b;grind
  rw[f]at g;simp only[k,show((3:Int)==2)=false from rfl,show((3:Int)==3)=true from rfl,cT,cF,q,oB,g,a4A]
  grind
  have f:a3b s M=a7v s (a3t 8 s.2.2.2.2.2.2.1 (a0M (wrap .u64 (wrap .i64 (s.2.2.2.2.1-1))) 10 M)):=by unfold a3b;grind
  rw[f]at g;simp only[k,show((4:Int)==2)=false from rfl,show((4:Int)==3)=false from rfl,show((4:Int)==4)=true from rfl,cT,cF,y,t,j,r,oB,g,a4A]
  grind
  have f:a3b s M=a5m s.2.2.2.2.2.2.2.1 (a0M (wrap .u64 ((s.2.2.2.2.2.2.2.1.length:Nat):Int)) 2 M):=by unfold a3b;grind
  rw[f]at g;simp only[k,show((5:Int)==2)=false from rfl,show((5:Int)==4)=false from rfl,show((5:Int)==3)=false from rfl,show((5:Int)==5)=true from rfl,cT,cF,z,b,oB,g,a4A]
  grind
theorem a9i(h:List Nat):(a1z h).map a35=h:=by
 unfold a1z;rw[a63]
 have:a35∘(fun(a:Nat)=>(a:Int))=id:=by rfl
 simp_all
theorem c7J{n:Int}{z z':List Nat}(h:PartsOk p n warm l z)(g:PartsOk p n warm l z'):z=z':=by
 rw[←a9i z,←h.sizes,g.sizes,a9i]
def d0I(s:Sub)(n:Int):Int:=
 if(a1R s n).isSome=true then(((a8O s ((a1H s.2.2.2.2.2.2.2.2.2.1.1 n ((s.2.2.2.2.2.2.2.2.1.length:Nat):Int)).map a35) []).length:Nat):Int)else 0
def dif:List Int→List Int
 |a::b::r=>W (b-a)::dif (b::r)
 |_=>[]
def c8J:Nat→List Int→List Int
 |0,l=>l
 |o+1,l=>dif (c8J o l)
def c6O(g:List Int→Int):List Int→List Int→List Int
 | [],_=>[]
 |x::r,done=>W (x-g done)::c6O g r (done++[x])
def d0J(g:List Int→Int)(r done:List Int):Option (List Int):=bif (c6O g r done).all a0C then some (c6O g r done)else none
def d0K(l c:List Int)(s:Int):Option (List Int):=bif l.all a0C then d0J (a8r c s) (l.drop c.length) (l.take c.length)else none
def d1U(l:List Int)(lag:Int)(t:List Int):Option (List Int):=bif l.all a0C then d0J (a7a lag t) l []else none
def rsO:List Int→List Int→Fil→Option (List Int)
 | [],done,_=>some done
 |x::r,done,f=>bif a0C (W (x-a0Q f))then rsO r (done++[W (x-a0Q f)]) (a9Y f x)else none
def lRO:List Stg→List Int→Option (List Int)
 | [],row=>some row
 |s::r,row=>match rsO row [] (a8s s)with
  |some row'=>lRO r row'
  |none=>none
def d1f(l:List Int)(st:List Stg):Option (List Int):=bif l.all a0C then lRO st l else none
def d1g(l:List Int)(w:Nat):Prop:=
 ((∀x∈l,x=0)∧w=0)∨((∃x∈l,x≠0)∧w≤30∧(∀x∈l,((2^w:Nat):Int) ∣ x)∧(w=30∨∃x∈l,¬ ((2^(w+1):Nat):Int) ∣ x))
def d0L(k:Nat)(x:Int):Nat:=if a0S x / 2^k<32 then a0S x / 2^k+1+k else 65
theorem d1V{x:Int}(h:a0C x=true):a2K x ((31:Nat):Int)=true:=by
 have:=a2H.1 h
 have g:A0n .i64 (-1) (((31:Nat):Int)-1)=-1073741824:=by rfl
 have f:wrap .i64 (A0n .i64 1 (((31:Nat):Int)-1)-1)=1073741823:=by rfl
 unfold a2K
 grind
theorem b8e{x:Int}(h:a0C x=true):∀(k w:Nat),w+k=32→1≤k→a3u x k w≤31
 |k+1,w,hk,_=>by
  simp[a3u]
  by_cases h31:w=31
  grind[d1V]
  ·cases (x != 0)&&!a2K x w with
   |true=>exact b8e h k (w+1) (by omega) (by omega)
   |false=>grind
theorem b1z:∀(l:List Int)(w:Nat),l.all a0C=true→w≤31→l.foldl (fun w x=>a3u x (32-w) w) w≤31
 | [],w,_,h=>h
 |x::l,w,hl,h=>by
  simp only[a33,bA]at hl;exact b1z l _ hl.2 (b8e hl.1 (32-w) w (by omega) (by omega))
theorem a7w{l:List Int}(h:l.all a0C=true):a0H l≤31:=b1z l 0 h (by omega)
def d4A(k:Int)(part:List Int):Nat:=5+(if k=31 then 5+a0H part*part.length else(part.map (d0L k.toNat)).sum)
def c7K:List Nat→List Int→List Int→Nat
 |z::zs,k::ks,l=>d4A k (l.take z)+c7K zs ks (l.drop z)
 |_,_,_=>0
theorem a6G{q:Nat}(h:q<2147483648):wrap .u64 (q:Int)=(q:Int):=a0P (by omega)
def a7b(o:Int):Sub:=((0:Int),(0:Int),o,(0:Int),(0:Int),([]:List Int),a00 3 (0:Int),([]:List Stg),([]:List Int),((0:Int),([]:List Int),()),([]:List Int),())
def c8K(k:Nat)(l:List Int):Nat:=(l.map (d0L k)).sum
def rbN(l:List Int):Nat→Nat
 |0=>0
 |i+1=>if c8K (i+1) l<c8K (rbN l i) l then i+1 else rbN l i
def d1h(l:List Int):Int:=if 5+a0H l*l.length<c8K (rbN l 25) l then 31 else((rbN l 25:Nat):Int)
def b9C:List Nat→List Int→List Int
 | [],_=>[]
 |z::zs,l=>d1h (l.take z)::b9C zs (l.drop z)
def zsN(o n warm:Int):List Nat:=(a1H o n warm).map a35
def d4B(o n warm:Int)(l:List Int):Prt:=(o,b9C (zsN o n warm) l,())
def d0M(o n warm:Int)(l:List Int):Nat:=4+c7K (zsN o n warm) (b9C (zsN o n warm) l) l
def b4C(n warm:Int)(l:List Int):Nat→Prt×Nat
 |0=>((0,[],()),0)
 |i+1=>if(a1H (i:Int) n warm).length=0 then b4C n warm l i else
   if(b4C n warm l i).2=0∨d0M (i:Int) n warm l<(b4C n warm l i).2 then(d4B (i:Int) n warm l,d0M (i:Int) n warm l)else b4C n warm l i
def d4C(n warm:Int)(l:List Int):Prt:=(b4C n warm l 7).1
def b9D(k:Int)(s:Sub):Sub:=
 (k,(0:Int),(if k=2 then s.2.2.1 else 0),(if k=3∨k=4 then s.2.2.2.1 else 0),(if k=4 then s.2.2.2.2.1 else 0),(if k=3∨k=4 then s.2.2.2.2.2.1 else[]),
  ((if k=4 then s.2.2.2.2.2.2.1 else a00 3 (0:Int)),(if k=5 then s.2.2.2.2.2.2.2.1 else[]),([]:List Int),((0:Int),([]:List Int),()),([]:List Int),()))
def z0:Prt:=((0:Int),([]:List Int),())
def c6P(s:Sub)(w:Nat)(wm:List Int)(p:Prt)(r:List Int):Sub:=
 (s.1,(w:Int),s.2.2.1,s.2.2.2.1,s.2.2.2.2.1,s.2.2.2.2.2.1,s.2.2.2.2.2.2.1,s.2.2.2.2.2.2.2.1,wm,p,r,())
open Classical in
def c3i (l:List Int):Nat:=if h:∃w,d1g l w then h.choose else 0
def c1Q(l:List Int):List Int:=l.map fun x=>A0o .i64 x (c3i l:Int)
def d4D(k:Int)(s:Sub)(d:List Int):Option (List Int×List Int):=
 if k=2 then(bif (c8J s.2.2.1.toNat d).all a0C then some (d.take s.2.2.1.toNat,c8J s.2.2.1.toNat d)else none)
 else if k=3 then(d0K d s.2.2.2.2.2.1 s.2.2.2.1).map fun r=>(d.take s.2.2.2.2.2.1.length,r)
 else if k=4 then(d1U d s.2.2.2.2.1 s.2.2.2.2.2.2.1).bind fun x=>(d0K x s.2.2.2.2.2.1 s.2.2.2.1).map fun r=>(x.take s.2.2.2.2.2.1.length,r)
 else(d1f d s.2.2.2.2.2.2.2.1).map fun r=>([],r)
open Classical in

def c1R (k:Int) (l:List Int) (s:Sub):Sub×Int:=
 if ¬ (1≤l.length∧l.length≤4096∧a7i k s (l.length:Int))then(a7b 0,1)
 else if l.all a0C=false then(a7b 0,6)
 else if k=0 then(bif l.all (fun x=>x==l.headD 0)then(c6P (b9D 0 s) 0 [l.headD 0] z0 [],0)else(a7b 0,7))
 else if k=1 then(c6P (b9D 1 s) (c3i l) (c1Q l) z0 [],0)
 else match d4D k s (c1Q l)with
  |none=>(a7b 0,6)
  |some (wm,r)=>(c6P (b9D k s) (c3i l) wm (d4C (l.length:Int) (wm.length:Int) r) r,0)
theorem b1b{α A β:Type}(g:A→α→A)(h:A→β):∀(l:List α)(a:A),b4i h (a4c (fun a x=>.inl (g a x)) l a)=h (l.foldl g a)
 | [],_=>rfl
 |x::l,a=>b1b g h l (g a x)
theorem b8f{k n:Int}(h:a7i k s n):0≤k∧k≤5:=by
 rcases h with h|h|⟨h,-⟩|⟨h,-⟩|⟨h,-⟩|⟨h,-⟩<;>omega
theorem c4F{n:Int}(h:(a1R s n).isSome=true):a1I s n:=by
 grind[a1R]
structure Shifted (l m:List Int) (n:Nat):Prop where
 len:m.length=l.length
 wl:l.all a0C=true
 wm:m.all a0C=true
 down:c1Q m=c1Q l
 waste:c3i m=c3i l+n
 fl:l.all (fun x=>x==l.headD 0)=false
 fm:m.all (fun x=>x==m.headD 0)=false
structure BestIs (l:List Int) (cs:List Sub) (a:Int×(Bool×Sub)):Prop where
 one:a.2.1=true→∃c∈cs,(c1R c.1 l c).2=0∧a.2.2=(c1R c.1 l c).1∧a.1=d0I a.2.2 (l.length:Int)
 least:∀c∈cs,(c1R c.1 l c).2=0→a.2.1=true∧a.1≤d0I (c1R c.1 l c).1 (l.length:Int)
@[reducible] def Rd:Type:=(List Int)×(Int×(Int×Unit))
variable {r r':Rd}
def a2q(L:List Int):Prop:=∀b∈L,b=0∨b=1
def a8P(bs:List Int)(i:Nat):Bool:=(bs.getD (i / 8) 0).toNat.testBit (7-i%8)
theorem or8{x y:Nat}(h:x<256)(g:y<256):bits .u8 .or (x:Int) (y:Int)=((x ||| y:Nat):Int):=by
 show wrap .u8 (((a04 8 (x:Int)) ||| (a04 8 (y:Int))).toNat:Int)=_;rw[a25,a25,a74,a30,a30,a29 h,a29 g,a8p]
 have:x ||| y<2^8:=b03 h g
 omega
theorem d8R{b:Int}(hb:b=0∨b=1){r:Nat}(g:r<8):A0n .u8 b (7-(r:Int))=((b.toNat*2^(7-r):Nat):Int):=by
 have h:∀r:Fin 8,A0n .u8 0 (7-(r.1:Int))=((0*2^(7-r.1):Nat):Int)∧A0n .u8 1 (7-(r.1:Int))=((1*2^(7-r.1):Nat):Int):=by decide +kernel
 rcases hb with rfl|rfl;exact(h ⟨r,g⟩).1;exact(h ⟨r,g⟩).2
theorem c8L{x:Nat}(h:x<256){r:Nat}(g:r<8):bits .u8 .and (A0o .u8 (x:Int) (7-(r:Int))) 1=if x.testBit (7-r)then 1 else 0:=by
 have e:A0o .u8 (x:Int) (7-(r:Int))=((x / 2^(7-r):Nat):Int):=by
  show a93 (x:Int) (2^(min (7-(r:Int)).toNat 8))=_
  grind
 rw[e];have f:x / 2^(7-r)<256:=a50 (a31 _ _) h;show wrap .u8 (((a04 8 ((x / 2^(7-r):Nat):Int)) &&& (a04 8 1)).toNat:Int)=_
 grind[a04,a8p]
theorem c7L(L:List Int)(b:Int)(i:Nat):(L++[b]).getD i 0=if i=L.length then b else L.getD i 0:=by
 grind
theorem c3j(h:List Int)(k:Nat)(y:Int)(g:k<h.length)(j:Nat):(h.set k y).getD j 0=if j=k then y else h.getD j 0:=by
 grind
theorem b9R:∀(n:Nat)(L:List Int),L.length=n→a2q L→(∀j,0≤(wL L).1.getD j 0∧(wL L).1.getD j 0<256)∧∀i,a8P (wL L).1 i=decide (L.getD i 0=1)
 |0,L,h,_=>by
  simp_all[wL,a8P]
 |n+1,L,h,hL=>by
  obtain⟨g,b,rfl⟩:∃g b,L=g++[b]:=by
   rcases a58 L with rfl|⟨g,b,e⟩
   all_goals simp_all
  have hb:b=0∨b=1:=hL b (by simp);obtain⟨v,w⟩:=b9R n g (by simp_all) fun c D=>hL c (by grind);obtain⟨o,p⟩:=a8M g;rw[c4Y];generalize wL g=wr at o p v w⊢;obtain⟨d,m,u⟩:=wr;have o:m=(g.length:Int):=o;have p:d.length=(g.length+7) / 8:=p;subst o;have e8:((g.length:Int) / 8).toNat=g.length / 8:=by rfl
  have r:(g.length:Int)%8=((g.length%8:Nat):Int):=by rfl
  obtain⟨f,a,y,z⟩:∃f:List Int,(if(g.length:Int)%8=0 then d++[0]else d)=f∧g.length / 8<f.length∧∀j,f.getD j 0=d.getD j 0:=by
   grind
  rw[r]at a;have C:g.length%8<8:=a55 _ (by simp);obtain⟨x,s⟩:∃x:Nat,d.getD (g.length / 8) 0=(x:Int):=a01 (v _).1;have k:x<256:=by
   grind
  have t:b.toNat*2^(7-g.length%8)<256:=by
   have hp:2^(7-g.length%8)≤2^7:=a23 (by simp) (by omega)
   grind
  have B:x ||| b.toNat*2^(7-g.length%8)<2^8:=b03 k t;have l:(c3e (d,(g.length:Int),u) b).1=f.set (g.length / 8) ((x ||| b.toNat*2^(7-g.length%8):Nat):Int):=by
   unfold c3e;simp only[a,e8,r];rw[z,s,d8R hb C,or8 k t]
  rw[l];refine⟨fun j=>?_,fun i=>?_⟩
  grind[c3j]
  ·unfold a8P;rw[c3j _ _ _ y,c7L];have q:=w i;unfold a8P at q
   by_cases hk:i / 8=g.length / 8
   ·rw[if_pos hk,tN,Nat.testBit_or];rw[hk,s,tN]at q;rw[q];have A:(b.toNat*2^(7-g.length%8)).testBit (7-i%8)=(decide (b=1)&&decide (i=g.length)):=by
     rcases hb with rfl|rfl
     all_goals grind
    grind
   grind
theorem c4Z(h:a2q L):(∀j,0≤(wL L).1.getD j 0∧(wL L).1.getD j 0<256)∧∀i,a8P (wL L).1 i=decide (L.getD i 0=1):=b9R _ L rfl h
def rdr(P R:List Int):Rd:=((wL (P++R)).1,(P.length:Int),(0:Int),())
theorem b2p(k:a2q L)(o:L.length<1000000000)(l:i<L.length)(t:Int×(Int×Unit)):
  a0V (((wL L).1,t),(i:Int))=some (L.getD i 0,(wL L).1,t):=by
 obtain⟨d,e⟩:=c4Z k;obtain⟨-,n⟩:=a8M L;have m:a42 (i:Int) 8=((i%8:Nat):Int):=by rfl
 have j:a94 (i:Int) 8=((i / 8:Nat):Int):=by rfl
 have b:wrap .i64 ((i / 8:Nat):Int)=((i / 8:Nat):Int):=a0D (by omega);have c:wrap .i64 (7-((i%8:Nat):Int))=7-((i%8:Nat):Int):=a0D (by omega);have g:decide (7-((i%8:Nat):Int)<0)=false:=by grind
 have hb:i / 8<(wL L).1.length:=by omega
 have f:(wL L).1[i / 8]=(wL L).1.getD (i / 8) 0:=by grind
 unfold a0V;simp only[m,j,b,c,g,a0A hb,oB,cF];obtain⟨x,a⟩:∃x:Nat,(wL L).1.getD (i / 8) 0=(x:Int):=a01 (d _).1;have h:x<256:=by grind
 rw[f,a,c8L h (a55 _ (by simp))]
 have:=e i
 unfold a8P at this;rw[a,tN]at this;rw[this];have hv:L.getD i 0=0∨L.getD i 0=1:=by
  have:L.getD i 0=L[i]:=by simp_all
  rw[this];exact k _ (a06 l)
 grind
theorem a6H{v:Nat}(hv:v<18446744073709551616){i:Nat}(h:i≤64):a2J (v:Int) i=((v / 2^i%2:Nat):Int):=by
 unfold a2J;rw[a6F h];have g:v / 2^i<18446744073709551616:=a50 (a31 _ _) hv;show wrap .u8 (wrap .u64 (((a04 64 ((v / 2^i:Nat):Int)) &&& (a04 64 1)).toNat:Int))=_
 grind[a04,a0P,a8p]
theorem c6Q{v:Nat}(hv:v<18446744073709551616):∀n,n≤64→a2q (pb (v:Int) n)
 |0,_=>fun b hb=>by cases hb
 |n+1,h=>fun b hb=>by
  rcases mC.1 hb with rfl|hb
  grind[a6H]
  exact c6Q hv n (by omega) b hb
theorem a2q.app{A B:List Int}(h:a2q A)(g:a2q B):a2q (A++B):=fun b hb=>(mA.1 hb).elim (h b) (g b)
theorem orU(k:a<18446744073709551616)(hb:b<2)(f:a%2=0):bits .u64 .or (a:Int) (b:Int)=((a+b:Nat):Int):=by
 show wrap .u64 (((a04 64 (a:Int) ||| a04 64 (b:Int)).toNat:Nat):Int)=_;have g:(a04 64 (a:Int)).toNat=a:=by simp_all
 have h:(a04 64 (b:Int)).toNat=b:=by grind
 rw[a74,g,h];have e:a ||| b=a+b:=by
  have:=a41 (i:=1) (b:=b) (by omega) (a / 2)
  grind
 grind[a0P]
theorem d1i(P:List Int)(b:Int)(R:List Int):(P++b::R).getD P.length 0=b:=by
 simp
theorem c3k{v:Nat}(hv:v<9223372036854775808){n:Nat}(q:n≤62):∀(m:Nat)(P R:List Int),m≤n→a2q (P++(pb (v:Int) m++R))→(P++(pb (v:Int) m++R)).length<1000000000→
  y0s a3G (((v / 2^m:Nat):Int),(n:Int),((n-m:Nat):Int),rdr P (pb (v:Int) m++R),())=some ((v:Int),rdr (P++pb (v:Int) m) R,())
 |0,P,R,_,_,_=>by
  grind[a0E,a3G,pb]
 |m+1,P,R,hm,hok,hlen=>by
  have l:decide (((n-(m+1):Nat):Int)<(n:Int))=true:=by grind
  have a:a0V (rdr P (pb (v:Int) (m+1)++R),(P.length:Int))=some (a2J v m,rdr P (pb (v:Int) (m+1)++R)):=by
   have:=b2p hok hlen (i:=P.length) (by simp[pb]) ((P.length:Int),(0:Int),())
   rw[show(P++(pb (v:Int) (m+1)++R)).getD P.length 0=a2J v m from by simp_all[pb]]at this;exact this
  have g:=a6H (v:=v) (by omega) (i:=m) (by omega);have b:v / 2^m%2<2:=a55 _ (by simp);have f:v / 2^(m+1)=v / 2^m / 2:=by grind[a75]
  have p:v / 2^m≤v:=a31 _ _;have d:A0n .u64 ((v / 2^(m+1):Nat):Int) 1=((v / 2^(m+1)*2^1:Nat):Int):=b1w (o:=1) (by omega) (by omega);have h:bits .u64 .or ((v / 2^(m+1)*2^1:Nat):Int) (wrap .u64 (a2J (v:Int) m))=((v / 2^m:Nat):Int):=by
   rw[g,a0P (by omega),orU (by omega) b (by omega),f];omega
  have e:wrap .i64 (((n-(m+1):Nat):Int)+1)=((n-m:Nat):Int):=by grind[a0D]
  have j:wrap .i64 ((P.length:Int)+1)=(((P++[a2J v m]).length:Nat):Int):=by
   grind[a0D]
  have k:P++(pb (v:Int) (m+1)++R)=(P++[a2J v m])++(pb (v:Int) m++R):=by simp[pb]
  have c:((rdr P (pb (v:Int) (m+1)++R)).1,(((P++[a2J v m]).length:Nat):Int),(rdr P (pb (v:Int) (m+1)++R)).2.2)=rdr (P++[a2J v m]) (pb (v:Int) m++R):=by
   unfold rdr;simp_all
  rw[a0G (s':=(((v / 2^m:Nat):Int),(n:Int),((n-m:Nat):Int),rdr (P++[a2J v m]) (pb (v:Int) m++R),())) (by
   simp only[a3G,l,cT];rw[show(rdr P (pb (v:Int) (m+1)++R)).2.1=(P.length:Int)from rfl,a];simp only[oB,d,h,e];rw[show(rdr P (pb (v:Int) (m+1)++R)).2.1=(P.length:Int)from rfl,j,c])]
  rw[c3k hv q m _ _ (by omega) (by simp_all) (by simp_all)];simp[pb]
theorem c7M(a:n≤62)(hv:v<2^n)(g:a2q (P++(pb (v:Int) n++R)))(k:(P++(pb (v:Int) n++R)).length<200000000):
  a0J (rdr P (pb (v:Int) n++R),(n:Int))=some ((v:Int),rdr (P++pb (v:Int) n) R):=by
 have h:v<9223372036854775808:=a97 hv (a98 (a23 (by simp) a) (by simp));have f:=c3k h a n P R (by omega) g (by omega);rw[a48 hv,a61]at f;simp at f;obtain⟨-,e⟩:=a8M (P++(pb (v:Int) n++R));have j:=a1J (v:Int) n;have i:(P++(pb (v:Int) n++R)).length=P.length+n+R.length:=by grind
 have e8:wrap .i64 ((8:Int)*(((wL (P++(pb (v:Int) n++R))).1.length:Nat):Int))=(8:Int)*(((wL (P++(pb (v:Int) n++R))).1.length:Nat):Int):=a0D (by omega);have d:wrap .i64 ((8:Int)*(((wL (P++(pb (v:Int) n++R))).1.length:Nat):Int)-(P.length:Int))=(8:Int)*(((wL (P++(pb (v:Int) n++R))).1.length:Nat):Int)-(P.length:Int):=a0D (by omega);have b:decide ((n:Int)<0)=false:=by simp
 have c:decide ((n:Int) > 64)=false:=by grind
 have l:decide ((n:Int) > (8:Int)*(((wL (P++(pb (v:Int) n++R))).1.length:Nat):Int)-(P.length:Int))=false:=by
  grind
 unfold a0J a2m;rw[show(rdr P (pb (v:Int) n++R)).2.2.1=0 from rfl];simp only[bne_self_eq_false,cF,b,c,oB];rw[show(rdr P (pb (v:Int) n++R)).1=(wL (P++(pb (v:Int) n++R))).1 from rfl,show(rdr P (pb (v:Int) n++R)).2.1=(P.length:Int)from rfl,e8,d]
 grind
def b4D(n:Nat)(x:Int):Prop:=-((2^n:Nat):Int)≤2*x∧2*x<((2^n:Nat):Int)
theorem b1A(f:n≤62)(x:Int):∃v:Nat,a3s x n=(v:Int)∧v<2^n∧(v:Int)=x%((2^n:Nat):Int):=by
 have k:wrap .u64 x=x%18446744073709551616:=by rfl
 obtain⟨y,h⟩:∃y:Nat,x%18446744073709551616=(y:Int):=a01 (Int.emod_nonneg _ (by simp));have g:y<18446744073709551616:=by omega
 refine⟨y%2^n,?_,a55 _ (a22 n),?_⟩;simp_all[a3s,c3f];rw[Int.natCast_emod,←h];refine Int.emod_emod_of_dvd x ?_
 have:(2:Nat)^n ∣ 2^64:=Nat.pow_dvd_pow 2 (by omega)
 exact Int.natCast_dvd_natCast.2 this
theorem c7N(q:n≤62)(t:b4D n x)(c:a2q (P++(pb (a3s x n) n++R)))(g:(P++(pb (a3s x n) n++R)).length<200000000):
  a0O (rdr P (pb (a3s x n) n++R),(n:Int))=some (x,rdr (P++pb (a3s x n) n) R):=by
 obtain⟨v,hv,b,f⟩:=b1A q x;rw[hv]at c g⊢;have a:=c7M q b c g;obtain⟨i,j⟩:=t;have y:=a22 n;have o:(v:Int)=x∧0≤x∨(v:Int)=x+((2^n:Nat):Int)∧x<0:=by
  by_cases h0:0≤x
  exact .inl ⟨by rw[f];exact a53 h0 (by omega),h0⟩;refine .inr ⟨?_,by omega⟩;rw[f,←Int.add_emod_right];exact a53 (by omega) (by omega)
 unfold a0O;simp[a];rw[show(rdr (P++pb (v:Int) n) R).2.2.1=0 from rfl]
 simp
 cases n with
 |zero=>
  grind
 |succ k=>
  have l:(((k+1:Nat):Int)==0)=false:=by rfl
  have s:wrap .i64 ((64:Int)-((k+1:Nat):Int))=((64-(k+1):Nat):Int):=by grind[a0D]
  have r:decide (((64-(k+1):Nat):Int)<0)=false:=by simp
  simp only[l,cF,s,r];have p:64-(k+1)+(k+1)=64:=by omega
  generalize 64-(k+1)=m at p⊢;have u:2^m*2^(k+1)=18446744073709551616:=by rw[←Nat.pow_add,p]
  have d:((2^m:Nat):Int)*((2^(k+1):Nat):Int)=18446744073709551616:=by omega
  have hp:=a22 m;have w:A0n .u64 (v:Int) (m:Int)=(v:Int)*((2^m:Nat):Int):=by
   show wrap .u64 ((v:Int)*2^(min (m:Int).toNat 64))=_;rw[tN,b08 (by omega)];have e:(2:Int)^m=((2^m:Nat):Int):=by simp
   rw[e];refine a0P ⟨Int.mul_nonneg (by omega) (by omega),?_⟩
   have:v*2^m<2^(k+1)*2^m:=Nat.mul_lt_mul_of_pos_right b hp
   grind
  have b1:-9223372036854775808≤x*((2^m:Nat):Int):=by
   have:=Int.mul_le_mul_of_nonneg_right i (show(0:Int)≤((2^m:Nat):Int)by omega)
   grind
  have b2:x*((2^m:Nat):Int)<9223372036854775808:=by
   have:=Int.mul_lt_mul_of_pos_right j (show(0:Int)<((2^m:Nat):Int)by omega)
   grind
  have A:wrap .i64 ((v:Int)*((2^m:Nat):Int))=x*((2^m:Nat):Int):=by
   rcases o with⟨h,-⟩|⟨h,-⟩
   grind[a0D]
   rw[h,Int.add_mul,Int.mul_comm ((2^(k+1):Nat):Int),d]
   grind[wrap,IntKind.bits,IntKind.signed]
  have z:A0o .i64 (x*((2^m:Nat):Int)) (m:Int)=x:=by
   show a93 (x*((2^m:Nat):Int)) (2^(min (m:Int).toNat 64))=x;rw[tN,b08 (by omega)]
   grind[Int.mul_ediv_cancel]
  simp_all
def OkR(P R:List Int):Prop:=a2q (P++R)∧(P++R).length<200000000
theorem OkR.shift(h:OkR P (A++R)):OkR (P++A) R:=by
 unfold OkR at h⊢;simp_all
theorem c3l(g:n≤62)(hv:v<2^n)(h:OkR P (pb (v:Int) n++R)):a0J (rdr P (pb (v:Int) n++R),(n:Int))=some ((v:Int),rdr (P++pb (v:Int) n) R):=c7M g hv h.1 h.2
theorem c7O(f:n≤62)(g:b4D n x)(h:OkR P (pb (a3s x n) n++R)):a0O (rdr P (pb (a3s x n) n++R),(n:Int))=some (x,rdr (P++pb (a3s x n) n) R):=c7N f g h.1 h.2
def unB(n:Nat):List Int:=a00 n 0++[1]
theorem a4a{v n:Nat}(h:n≤63)(hv:v<2^n)(L:List Int):a0M (v:Int) n L=L++pb (v:Int) n:=by
 grind[a0M,a6F,a48]
def b1B(k:Nat)(x:Int):List Int:=
 if a0S x / 2^k<32 then unB (a0S x / 2^k)++pb ((a0S x%2^k:Nat):Int) k else unB 32++pb ((a0S x:Nat):Int) 32
theorem c7P(f:k≤25)(g:a0C x=true)(L:List Int):a7G k x L=L++b1B k x:=by
 have h:=b2O g;unfold a7G b1B;split;rw[a4a (by omega) (a55 _ (a22 k))];simp[unL,unB]
 grind[a4a,unL,unB]
theorem b9S(f:a0C x=true):a3w ((a0S x:Nat):Int)=some x:=by
 have b:=b2O f;have d:=a2H.1 f;have c:a42 ((a0S x:Nat):Int) 2=((a0S x:Nat):Int)%2:=a28 (by omega);have a:a94 ((a0S x:Nat):Int) 2=((a0S x:Nat):Int) / 2:=Int.tdiv_eq_ediv_of_nonneg (by omega);have k:decide (((a0S x:Nat):Int)≥2147483648)=false:=by grind
 unfold a3w;simp only[k,cF,c,a]
 by_cases h0:0≤x
 have e:((a0S x:Nat):Int)=2*x:=by unfold a0S;grind
 rw[e];have h:((2*x)%2==(0:Int))=true:=by simp
 have g:2*x / 2=x:=by omega
 simp only[h,cT,g]
 grind[a0P,a0D]
 have e:((a0S x:Nat):Int)=-2*x-1:=by unfold a0S;grind
 rw[e];have h:((-2*x-1)%2==(0:Int))=false:=by grind
 have g:(-2*x-1) / 2=-x-1:=by omega
 simp only[h,cF,g]
 grind[a0P,a0D]
def b2q(k:Nat)(l:List Int):List Int:=l.flatMap (b1B k)
theorem b8g{k:Nat}(g:k≤25):∀(l L:List Int),l.all a0C=true→a5R k l L=L++b2q k l
 | [],L,_=>by simp[a5R,b2q]
 |x::l,L,h=>by
  simp only[a33,bA]at h;show a5R k l (a7G k x L)=_;rw[b8g g l _ h.2,c7P g h.1];simp[b2q]
def sB(n:Nat)(l:List Int):List Int:=l.flatMap fun x=>pb (a3s x n) n
theorem a7Q{n:Nat}(g:n≤62):∀(l L:List Int),a3t n l L=L++sB n l
 | [],L=>by simp[a3t,sB]
 |x::l,L=>by
  show a3t n l (a0M (a3s x n) n L)=_;obtain⟨v,hv,h,-⟩:=b1A g x;rw[a7Q g l,hv,a4a (by omega) h,←hv];simp[sB]
def b2Q(k:Int)(part:List Int):List Int:=if k=31 then pb 31 5++(pb ((a0H part:Nat):Int) 5++sB (a0H part) part)else pb k 5++b2q k.toNat part
theorem c7Q{k:Int}(h:kB k=true){part:List Int}(g:part.all a0C=true)(L:List Int):a9h k part L=L++b2Q k part:=by
 have f:=a7w g;simp[kB]at h;obtain⟨K,rfl⟩:=a01 (show 0≤k by omega)
 grind[a9h,b2Q,a6G,a4a,a7Q,b8g]
def a6b:List Nat→List Int→List Int→List Int
 |z::zs,k::ks,l=>b2Q k (l.take z)++a6b zs ks (l.drop z)
 |_,_,_=>[]
theorem c7R(h:l.all a0C=true)(z:Nat):(l.take z).all a0C=true:=lA.2 fun x g=>lA.1 h x (a45 g)
theorem c7S(h:l.all a0C=true)(z:Nat):(l.drop z).all a0C=true:=lA.2 fun x g=>lA.1 h x (a44 g)
theorem b8h:∀(zs:List Nat)(ks l L:List Int),ks.all kB=true→l.all a0C=true→a5l zs ks l L=L++a6b zs ks l
 |z::zs,k::ks,l,L,hk,hw=>by
  simp only[a33,bA]at hk;simp only[a5l,a6b];rw[b8h zs ks _ _ hk.2 (c7S hw z),c7Q hk.1 (c7R hw z)]
  simp
 | [],_,_,L,_,_=>by simp[a5l,a6b]
 |_::_,[],_,L,_,_=>by simp[a5l,a6b]
theorem c7T(h:List Nat)(z:Nat)(g:List Nat):(a1z (h++z::g)).getD h.length 0=(z:Int):=by
 simp_all[a1z]
def a4C(p:Prt)(zn:List Nat)(l:List Int):List Int:=pb p.1 4++a6b zn p.2.1 l
theorem c1J{n:Int}(h:PartsOk p n warm l zn)(L:List Int):a5o p zn l L=L++a4C p zn l:=by
 obtain⟨o,f,u⟩:=p;have g:=h.order;simp only at g;obtain⟨O,rfl⟩:=a01 g.1;unfold a5o a4C;simp only;rw[a6G (by omega),a4a (n:=4) (by omega) (by omega),b8h _ _ _ _ h.all h.wide]
 simp
def b1c(s:Sub):List Int:=
 pb ((s.2.2.2.2.2.1.length-1:Nat):Int) 5++(pb s.2.2.2.1 4++(pb ((a0H s.2.2.2.2.2.1:Nat):Int) 5++sB (a0H s.2.2.2.2.2.1) s.2.2.2.2.2.1))
theorem b9T{c:List Int}{t:Int}(h:a6B c t=true):1≤c.length∧c.length≤32∧0≤t∧t≤15∧c.all a0C=true:=by
 simp only[a6B,bA,dT]at h;obtain⟨g,f,k,a,b⟩:=h;refine⟨g,f,k,a,lA.2 fun x d=>?_⟩
 have:=lA.1 b x d
 simp[b1s]at this;rw[a2H];omega
theorem b8i{s:Sub}(h:a6B s.2.2.2.2.2.1 s.2.2.2.1=true)(L:List Int):a7v s L=L++b1c s:=by
 obtain⟨a,b,g,d,f⟩:=b9T h;have k:=a7w f;unfold a7v b1c;generalize s.2.2.2.2.2.1=c at *;generalize s.2.2.2.1=t at *;obtain⟨T,rfl⟩:=a01 g
 grind[a0D,a0P,a7Q,a4a]
def b1V(s:Sub)(c:List Int):Sub:=(s.1,s.2.1,s.2.2.1,s.2.2.2.1,s.2.2.2.2.1,c,s.2.2.2.2.2.2)
def b6H(s:Sub)(t:Int):Sub:=(s.1,s.2.1,s.2.2.1,t,s.2.2.2.2)
def b1W(st:List Stg):List Int:=st.flatMap fun g=>pb (g.1-1) 5++pb g.2.1 4
theorem c4G{g:Stg}(h:Ab.stageB g=true):1≤g.1∧g.1≤32∧0≤g.2.1∧g.2.1≤8:=by
 simp_all[Ab.stageB]
theorem b5R:∀(st:List Stg)(L:List Int),st.all Ab.stageB=true→a5m st L=L++b1W st
 | [],L,_=>by simp[a5m,b1W]
 |g::st,L,h=>by
  simp only[a33,bA]at h;obtain⟨k,c,f,d⟩:=c4G h.1;show a5m st (a8u g L)=_;rw[b5R st _ h.2];obtain⟨a,b,u⟩:=g;simp only at k c f d;obtain⟨B,rfl⟩:=a01 f;obtain⟨A,e⟩:=a01 (show 0≤a-1 by omega)
  grind[a8u,b2P,a6G,a4a,b1W]
def a9j(s:Sub):List Int:=
 if s.1=2 then pb s.2.2.1 3
 else if s.1=3 then b1c s
 else if s.1=4 then pb (s.2.2.2.2.1-1) 10++(sB 8 s.2.2.2.2.2.2.1++b1c s)
 else if s.1=5 then pb ((s.2.2.2.2.2.2.2.1.length:Nat):Int) 2++b1W s.2.2.2.2.2.2.2.1
 else[]
theorem b9U{n:Int}(h:a7i s.1 s n)(L:List Int):a3b s L=L++a9j s:=by
 unfold a3b a9j;rcases h with k|k|⟨k,g,f,-⟩|⟨k,g,-⟩|⟨k,g,-,a⟩|⟨k,g,f⟩
 grind
 grind
 rw[if_pos k,if_pos k]
 grind[a01,a6G,a4a]
 simp_all[b8i];rw[if_neg (by omega),if_neg (by omega),if_pos k,if_neg (by omega),if_neg (by omega),if_pos k,b8i g,a7Q (by omega)];simp only[a9e,bA,dT]at a;obtain⟨A,b⟩:=a01 (show 0≤s.2.2.2.2.1-1 by omega)
 grind[b2P,a6G,a4a]
 rw[if_neg (by omega),if_neg (by omega),if_neg (by omega),if_pos k,if_neg (by omega),if_neg (by omega),if_neg (by omega),if_pos k];simp only[a7u,bA,dT]at f
 grind[b5R,a6G,a4a]
def b1C(s:Sub):List Int:=pb s.1 3++(pb s.2.1 5++pb ((a0H s.2.2.2.2.2.2.2.2.1:Nat):Int) 5)
theorem c7U(g:0≤s.1∧s.1≤5)(f:0≤s.2.1∧s.2.1≤30)(h:s.2.2.2.2.2.2.2.2.1.all a0C=true)(L:List Int):b1y s L=L++b1C s:=by
 grind[a01,a7w,b1y,b1C,a6G,a4a]
def bare(s:Sub):Sub:=(s.1,s.2.1,s.2.2.1,s.2.2.2.1,s.2.2.2.2.1,s.2.2.2.2.2.1,s.2.2.2.2.2.2.1,s.2.2.2.2.2.2.2.1,[],(0,[],()),[],())
def a5n(s:Sub)(zn:List Nat):List Int:=
 (b1C s++a9j s)++(sB (a0H s.2.2.2.2.2.2.2.2.1) s.2.2.2.2.2.2.2.2.1++if s.1=0∨s.1=1 then[]else a4C s.2.2.2.2.2.2.2.2.2.1 zn s.2.2.2.2.2.2.2.2.2.2.1)
theorem c4H{n:Int}(b:a1I s n)(d:s.1≠0∧s.1≠1→PartsOk s.2.2.2.2.2.2.2.2.2.1 n ((s.2.2.2.2.2.2.2.2.1.length:Nat):Int) s.2.2.2.2.2.2.2.2.2.2.1 zn)(L:List Int):
  a8O s zn L=L++a5n s zn:=by
 obtain⟨-,-,h,-,k,a,-,-,f,-⟩:=b;have c:=a7w f;have g:=c7U (b8f h) ⟨k,a⟩ f L;unfold a8O a5n
 by_cases hk:s.1=0∨s.1=1
 rw[if_pos hk,if_pos hk,a7Q (by omega),b9U h,g]
 simp
 rw[if_neg hk,if_neg hk,c1J (d (not_or.1 hk)),a7Q (by omega),b9U h,g]
 simp
def a1e(s:Sub)(l:List Int):Sub:=(s.1,s.2.1,s.2.2.1,s.2.2.2.1,s.2.2.2.2.1,s.2.2.2.2.2.1,s.2.2.2.2.2.2.1,s.2.2.2.2.2.2.2.1,l,s.2.2.2.2.2.2.2.2.2)
def b1d(n:Nat):List Int:=if h:n<128 then[(n:Int)]else((n%128+128:Nat):Int)::b1d (n / 128)
termination_by n
decreasing_by omega
theorem b6I{α β γ:Type}(f:α→List γ):∀(l:List α)(a:List γ),a4c (β:=β) (fun a x=>.inl (a++f x)) l a=.inl (a++l.flatMap f)
 | [],a=>by simp[a4c]
 |x::l,a=>by simp only[a4c];rw[b6I f l];simp
theorem orA(f:a<2^k)(c:b*2^k+a<18446744073709551616):bits .u64 .or (a:Int) ((b*2^k:Nat):Int)=((a+b*2^k:Nat):Int):=by
 show wrap .u64 (((a04 64 (a:Int) ||| a04 64 ((b*2^k:Nat):Int)).toNat:Nat):Int)=_;have g:(a04 64 (a:Int)).toNat=a:=by grind
 have h:(a04 64 ((b*2^k:Nat):Int)).toNat=b*2^k:=by grind[a65]
 grind[a41,a62,a0P]
def d8S(g:Int):Nat:=if 0≤g then(2*g).toNat else(-2*g-1).toNat
def e8(s:Int):Int:=bif (A0o .u8 s 7)==(1:Int)then bits .u8 .xor (A0n .u8 s 1) 7 else A0n .u8 s 1
def e16(s:Int):Int:=bif (A0o .u16 s 15)==(1:Int)then bits .u16 .xor (A0n .u16 s 1) 32773 else A0n .u16 s 1
def rep{α:Type}(f:α→α):Nat→α→α
 |0,s=>s
 |n+1,s=>rep f n (f s)
def g8(s c:Int):Int:=rep e8 8 (bits .u8 .xor s c)
def g16(s c:Int):Int:=rep e16 8 (bits .u16 .xor s (A0n .u16 (wrap .u16 c) 8))
theorem b8j(l:List Int)(n i:Int):∀(j k:Nat)(s:Int),k+j=8→y0s a8a (s,l,n,i,(k:Int),())=some (rep e8 j s,l,n,i,())
 |0,k,s,h=>by
  obtain rfl:k=8:=by omega
  rfl
 |j+1,k,s,h=>by
  have d:decide ((k:Int)<8)=true:=by grind
  rw[a0G (s':=(e8 s,l,n,i,((k+1:Nat):Int),())) (by
   simp only[a8a,d,cT,a0B (show k<1000000 by omega),e8]
   grind)]
  exact b8j l n i j (k+1) (e8 s) (by omega)
theorem b4E(l:List Int)(n i:Int):∀(j k:Nat)(s:Int),k+j=8→y0s a7g (s,l,n,i,(k:Int),())=some (rep e16 j s,l,n,i,())
 |0,k,s,h=>by
  obtain rfl:k=8:=by omega
  rfl
 |j+1,k,s,h=>by
  have d:decide ((k:Int)<8)=true:=by grind
  rw[a0G (s':=(e16 s,l,n,i,((k+1:Nat):Int),())) (by
   simp only[a7g,d,cT,a0B (show k<1000000 by omega),e16]
   grind)]
  exact b4E l n i j (k+1) (e16 s) (by omega)
def b6J(l:List Int):Int:=l.foldl g8 0
def b0A(l:List Int):Int:=l.foldl g16 0
theorem c8M(h:short l):a6x l=some (b6J l):=by
 have:=a1E (f:=a6h) (β:=Int×Unit) l (fun i (a:Int)=>(a,l,(l.length:Int),(i:Int),())) (fun a x=>.inl (g8 a x)) (fun _ _=>True) (fun a=>(a,()))
  (fun i k a _=>⟨fun c g=>by
   simp at g;subst g
   have:=b8j l (l.length:Int) (i:Int) 8 0 (bits .u8 .xor a l[i]) rfl
   simp at this;refine⟨?_,trivial⟩;simp only[a6h,dlt k,cT,a0A k,oB,this,a0B (a08 k h),g8],fun b hb=>by grind⟩)
  (fun a d=>by simp_all[a6h]) (a:=0) trivial
 unfold a6x;simp at this;rw[this,b1b];rfl
theorem c6R(h:short l):a5a l=some (b0A l):=by
 have:=a1E (f:=a4K) (β:=Int×Unit) l (fun i (a:Int)=>(a,l,(l.length:Int),(i:Int),())) (fun a x=>.inl (g16 a x)) (fun _ _=>True) (fun a=>(a,()))
  (fun i k a _=>⟨fun c g=>by
   simp at g;subst g
   have:=b4E l (l.length:Int) (i:Int) 8 0 (bits .u16 .xor a (A0n .u16 (wrap .u16 l[i]) 8)) rfl
   simp at this;refine⟨?_,trivial⟩;simp only[a4K,dlt k,cT,a0A k,oB,this,a0B (a08 k h),g16],fun b hb=>by grind⟩)
  (fun a d=>by simp_all[a4K]) (a:=0) trivial
 unfold a5a;simp at this;rw[this,b1b];rfl
theorem a8Q(n:Int):wrap .u16 n=n%65536:=by rfl
theorem c8N(s:Int):0≤e8 s∧e8 s<256:=by
 unfold e8;cases (A0o .u8 s 7==1:Bool);simp only[cF,A0n,a8p];omega;simp only[cT,bits,a8p];omega
theorem b9V(s:Int):0≤e16 s∧e16 s<65536:=by
 unfold e16;cases (A0o .u16 s 15==1:Bool);simp only[cF,A0n,a8Q];omega;simp only[cT,bits,a8Q];omega
theorem c4I(l:List Int):0≤b0A l∧b0A l<65536:=by
 unfold b0A;rcases a58 l with rfl|⟨L,b,rfl⟩
 simp
 rw[List.concat_eq_append,a68];exact b9V _
@[reducible] def a1r:Type:=Int×(Int×(Int×Unit))
@[reducible] def a1F:Type:=Int×(Int×(a1r×(List a1r×(List Sub×Unit))))
@[reducible] def a1S:Type:=Int×(List (List Int)×Unit)
def a5z(n:Int)(s:a1r):Bool:=!(decide (s.1<0) || decide (s.1≥n) || decide (s.2.1<0) || decide (s.2.1≥n) || s.1==s.2.1)&&!(decide (s.2.2.1 < -1024) || decide (s.2.2.1 > 1024))
theorem a9r{n:Int}{s:a1r}:a5z n s=true↔0≤s.1∧s.1<n∧0≤s.2.1∧s.2.1<n∧s.1≠s.2.1∧-1024≤s.2.2.1∧s.2.2.1≤1024:=by
 simp only[a5z,bA,b02,Bool.or_eq_false_iff,decide_eq_false_iff_not,beq_eq_false_iff_ne];omega
def a7j(l:List a1r)(n:Int):Prop:=1≤n∧n≤8∧l.length≤16∧l.all (a5z n)=true
instance (l:List a1r) (n:Int):Decidable (a7j l n):=by unfold a7j;infer_instance
theorem b5S(l:List a1r)(n:Int):a6K (l,n)=some (decide (a7j l n)):=by
 unfold a6K a7j
 by_cases h1:n<1
 grind
 by_cases h2:n > 8
 grind
 by_cases h3:((l.length:Nat):Int) > 16
 grind
 have g:=a1d (f:=a5E) (β:=Unit ⊕ (Bool×Unit)) l (fun i=>(n,l,(l.length:Int),(i:Int),())) (a5z n) (bt:=Sum.inl ()) (bf:=Sum.inr (false,()))
  (fun i h hp=>by
   obtain⟨a1,m,o,p,q,r,s⟩:=a9r.1 hp;have k:decide (l[i].1<0)=false:=by simp_all
   have a:decide (l[i].1≥n)=false:=by simp_all
   have b:decide (l[i].2.1<0)=false:=by simp_all
   have c:decide (l[i].2.1≥n)=false:=by simp_all
   have d:(l[i].1==l[i].2.1)=false:=by simp_all
   have e:decide (l[i].2.2.1 < -1024)=false:=by simp_all
   have j:decide (l[i].2.2.1 > 1024)=false:=by simp_all
   simp only[a5E,dlt h,cT,a0A h,oB,k,a,b,c,d,e,j,cF,a0B (show i<1000000 by omega)])
  (fun i h hp=>by
   simp only[a5E,dlt h,cT,a0A h,oB]
   grind[a5z])
  (by simp[a5E])
 grind
def b2R(f:a1r):Prop:=1≤f.1∧f.1≤1048576∧1≤f.2.1∧f.2.1≤8∧4≤f.2.2.1∧f.2.2.1≤24
instance (f:a1r):Decidable (b2R f):=by unfold b2R;infer_instance
theorem b9E(f:a1r):a2i f=some (decide (b2R f)):=by
 unfold a2i a5D b2R
 grind
def frP(f:a1F):Prop:=b2R f.2.2.1∧1≤f.2.1∧f.2.1≤4096∧0≤f.1∧f.1≤4194304-f.2.1∧a7j f.2.2.2.1 f.2.2.1.2.1
instance (f:a1F):Decidable (frP f):=by unfold frP;infer_instance
theorem b2r(f:a1F):a5F f=some (decide (frP f)):=by
 unfold a5F frP;rw[b9E,b5S]
 by_cases h1:b2R f.2.2.1<;>by_cases h2:1≤f.2.1<;>by_cases h3:f.2.1≤4096<;>by_cases h4:0≤f.1<;>simp[h1,h2,h3,h4]
 have h:wrap .i64 ((4194304:Int)-f.2.1)=4194304-f.2.1:=a0D (by omega);rw[h]
 grind
def d4E(s:a1r):List Int:=b1d s.1.toNat++(b1d s.2.1.toNat++b1d (d8S s.2.2.1))
def hb(f:a1F)(body:Nat):List Int:=
 [245,75]++(b1d f.1.toNat++(b1d f.2.1.toNat++(b1d f.2.2.1.1.toNat++(b1d f.2.2.1.2.1.toNat++(b1d f.2.2.1.2.2.1.toNat++(b1d f.2.2.2.1.length++(f.2.2.2.1.flatMap d4E++b1d body)))))))
def a3c(f:a1F)(l:List Sub):a1F:=(f.1,f.2.1,f.2.2.1,f.2.2.2.1,l,())
theorem d8T{v:Int}(h:0≤v∧v<65536):bits .u16 .or (A0n .u16 (wrap .u16 (v / 256)) 8) (wrap .u16 (v%256))=v:=by
 rw[a8Q,a8Q];have e:A0n .u16 (v / 256%65536) 8=((v.toNat / 256*256:Nat):Int):=by
  show wrap .u16 (v / 256%65536*256)=_;rw[a8Q];omega
 rw[e];have g:v%256%65536=((v.toNat%256:Nat):Int):=by omega
 rw[g];show wrap .u16 (((a04 16 ((v.toNat / 256*256:Nat):Int) ||| a04 16 ((v.toNat%256:Nat):Int)).toNat:Nat):Int)=_;have f:(a04 16 ((v.toNat / 256*256:Nat):Int)).toNat=v.toNat / 256*256:=by rw[a65];omega
 have k:(a04 16 ((v.toNat%256:Nat):Int)).toNat=v.toNat%256:=by rw[a65];omega
 rw[a74,f,k];have e:v.toNat / 256*256 ||| v.toNat%256=v.toNat / 256*256+v.toNat%256:=by
  have:=a41 (i:=8) (b:=v.toNat%256) (by omega) (v.toNat / 256)
  rw[show 2^8*(v.toNat / 256)=v.toNat / 256*256 from by omega]at this;exact this.symm
 rw[e,a8Q];omega
theorem b1e(x:Int):a7o x=some (a0C x):=by
 grind[a7o,a0C]
def a3d(c:List (List Int)):Prop:=1≤c.length∧c.length≤8∧(c.headD []).length≤4096∧c.all (fun r=>decide (r.length=(c.headD []).length)&&r.all a0C)=true
instance (c:List (List Int)):Decidable (a3d c):=by unfold a3d;infer_instance
theorem b1D{l:List α}{d:α}(h:0<l.length):l[0]=l.headD d:=by
 cases l with
 |nil=>grind
 |cons a l=>rfl
theorem d1j(c:List (List Int)):a5W c=some (decide (a3d c)):=by
 unfold a5W
 by_cases h1:((c.length:Nat):Int)<1
 have:¬ a3d c:=fun h=>by have:=h.1;omega
 simp_all
 by_cases h2:((c.length:Nat):Int) > 8
 have:¬ a3d c:=fun h=>by have:=h.2.1;omega
 simp_all;have l:0<c.length:=by omega
 have b:m0k c 0=some (c.headD []):=by rw[show(0:Int)=((0:Nat):Int)from rfl,a0A l,b1D (d:=[]) l]
 have m:decide (((c.length:Nat):Int)<1)=false:=by simp_all
 have n:decide (((c.length:Nat):Int) > 8)=false:=by simp_all
 simp only[m,n,cF,b,oB]
 by_cases h3:(((c.headD []).length:Nat):Int) > 4096
 rw[decide_eq_true h3,decide_eq_false (show ¬ a3d c from fun h=>by have:=h.2.2.1;omega)];rfl;have o:decide ((((c.headD []).length:Nat):Int) > 4096)=false:=by simp_all
 simp only[o,cF];have g:∀(i:Nat)(r:List Int),short r→y0s a3P (c,c,(c.length:Int),(i:Int),r,(r.length:Int),(0:Int),())=some (bif r.all a0C then Sum.inl (c,c,(c.length:Int),(i:Int),())else Sum.inr (false,())):=fun i r t=>by
  have:=a1d (f:=a3P) r (fun j=>(c,c,(c.length:Int),(i:Int),r,(r.length:Int),(j:Int),())) a0C (bt:=Sum.inl (c,c,(c.length:Int),(i:Int),())) (bf:=Sum.inr (false,()))
   (fun j h hp=>by simp only[a3P,dlt h,cT,a0A h,oB,b1e,hp,bT,cF,a0B (a08 h t)])
   (fun j h hp=>by simp_all[a3P,a0A,b1e])
   (by simp_all[a3P])
  omega
 have k:=a1d (f:=a3Q) c (fun i=>(c,c,(c.length:Int),(i:Int),())) (fun r=>decide (r.length=(c.headD []).length)&&r.all a0C) (bt:=Sum.inl ()) (bf:=Sum.inr (false,()))
  (fun i h hp=>by
   simp only[bA,dT]at hp;have e:((((c[i]).length:Nat):Int) != (((c.headD []).length:Nat):Int))=false:=by simp_all
   have a:=g i c[i] (by unfold short;omega);rw[hp.2,cT]at a;simp only[a3Q,dlt h,cT,a0A h,oB,b,e,cF,a,a0B (show i<1000000 by omega)])
  (fun i h hp=>by
   by_cases hl:(c[i]).length=(c.headD []).length
   have e:((((c[i]).length:Nat):Int) != (((c.headD []).length:Nat):Int))=false:=by simp_all
   have a:=g i c[i] (by unfold short;omega);rw[decide_eq_true hl,a26]at hp;rw[hp,cF]at a;simp_all[a3Q,a0A];have e:((((c[i]).length:Nat):Int) != (((c.headD []).length:Nat):Int))=true:=by grind
   simp only[a3Q,dlt h,cT,a0A h,oB,b,e])
  (by simp_all[a3Q])
 simp only[nZ]at k;rw[k];have p:1≤c.length:=by omega
 have q:c.length≤8:=by omega
 have s:(c.headD []).length≤4096:=by omega
 by_cases hA:c.all (fun r=>decide (r.length=(c.headD []).length)&&r.all a0C)=true
 rw[hA,decide_eq_true (show a3d c from⟨p,q,s,hA⟩)];rfl;rw[a54.2 hA,decide_eq_false (show ¬ a3d c from fun h=>hA h.2.2.2)];rfl
def a7c(c:List (List Int))(n:Nat):Prop:=∀r∈c,r.length=n∧r.all a0C=true
theorem b9F(h:a3d c):a7c c (c.headD []).length:=fun r g=>by
 have:=lA.1 h.2.2.2 r g
 simp_all
theorem c7V(h:a7c c n)(m:n≤5000)(l:c.length≤100):a5K c=some c:=by
 have:=a1E (f:=a5r) (β:=List (List Int)×Unit) c (fun i (a:List (List Int))=>(c,(c.length:Int),(i:Int),a,())) (fun a x=>.inl (a++[x])) (fun i a=>a.length=i) (fun a=>(a,()))
  (fun i k a d=>⟨fun j g=>by
   simp at g;subst g;have o:=(h _ (a06 k)).1;have e:∀y:List Int,a76 ([([]:List Int)]:List (List Int)) 0 y=[y]:=fun _=>rfl;refine⟨?_,by grind⟩;simp only[a5r,dlt k,cT,a0A k,oB,b6C (show short c[i]by unfold short;omega),e];rw[a1h (by grind),cT,a0B (show i<1000000 by omega)];rfl,fun b hb=>by grind⟩)
  (fun a d=>by simp_all[a5r]) (a:=[]) rfl
 simp_all[b6I,a5K,b4i]
def a3e(sign g:Int)(x y:Int):Int:=y+sign*(g*x / 256)
def a8R(sign g:Int)(xs ys:List Int):List Int:=a27 (a3e sign g) xs ys
theorem c8O(sign g:Int){xs ys:List Int}(h:xs.length=ys.length):(a8R sign g xs ys).length=ys.length:=by simp[a8R,h]
theorem c3m{g y:Int}(b:sign=1∨sign=-1)(c:-1024≤g∧g≤1024)(k:a0C x=true)(a:a0C y=true):
  wrap .i64 (y+wrap .i64 (sign*A0o .i64 (wrap .i64 (g*x)) 8))=a3e sign g x y:=by
 have k:=a2H.1 k;have a:=a2H.1 a;have f:-1099511627776≤g*x∧g*x≤1099511627776:=by
  have f:g.natAbs≤1024:=by omega
  have h:x.natAbs≤1073741824:=by omega
  have:=a52 f h
  rw[←Int.natAbs_mul]at this;omega
 rw[a0D (n:=g*x) (by omega)];have h:A0o .i64 (g*x) 8=g*x / 256:=by
  unfold A0o;show(g*x).fdiv (2^8)=_
  grind
 rw[h];unfold a3e;rcases b with rfl|rfl
 all_goals grind[a0D]
theorem c4J(c:List α)(h:a≠b)(y d:α):(c.set b y).getD a d=c.getD a d:=by
 grind
theorem b5T(c:List α)(h:b<c.length)(y d:α):(c.set b y).getD b d=y:=by
 simp_all
theorem b8k{c:List (List Int)}{s:a1r}{sign:Int}(g:sign=1∨sign=-1)(b:-1024≤s.2.2.1∧s.2.2.1≤1024)(a0:0≤s.1)(i:0≤s.2.1)(f:s.1.toNat≠s.2.1.toNat)(hb:s.2.1.toNat<c.length)(k:s.2.1<(c.length:Int))
  {xs:List Int}(a:c.getD s.1.toNat []=xs)(w:xs.length≤5000):∀(sx suf px pre:List Int),px++sx=xs→px.length=pre.length→sx.length=suf.length→sx.all a0C=true→suf.all a0C=true→
  if(a8R sign s.2.2.1 sx suf).all a0C=true then
   y0s a3o (sign,(xs.length:Int),(pre.length:Int),c.set s.2.1.toNat (pre++suf),s,((s.1.toNat:Nat):Int),())=some (.inl (c.set s.2.1.toNat (pre++a8R sign s.2.2.1 sx suf),()))
  else ∃c',y0s a3o (sign,(xs.length:Int),(pre.length:Int),c.set s.2.1.toNat (pre++suf),s,((s.1.toNat:Nat):Int),())=some (.inr (false,c',()))
 | [],suf,px,pre,hx,hp,hl,_,_=>by
  have e:suf=[]:=a37.1 hl.symm;subst e;have p:pre.length=xs.length:=by simp_all
  rw[if_pos (by rfl),p];exact a0E (by simp only[a3o,dge,cF];rfl)
 |x::sx,[],px,pre,_,_,hl,_,_=>by simp_all
 |x::sx,y::suf,px,pre,hx,hp,hl,hwx,hwy=>by
  simp only[a33,bA]at hwx hwy;have v:pre.length<xs.length:=by grind
  have q:(c.set s.2.1.toNat (pre++y::suf)).getD (a35 ((s.1.toNat:Nat):Int)) []=xs:=by grind
  have r:(c.set s.2.1.toNat (pre++y::suf)).getD s.2.1.toNat []=pre++y::suf:=b5T _ hb _ _;have t:a40 xs (a35 (pre.length:Int)) 0=x:=by grind
  have u:a40 (pre++y::suf) (a35 (pre.length:Int)) 0=y:=by simp
  have j:decide ((0:Int)≤(pre.length:Int))=true:=by simp
  have l:decide ((pre.length:Int)<(xs.length:Int))=true:=by simp_all
  have m:decide ((0:Int)≤s.2.1)=true:=by simp_all
  have n:decide (s.2.1<(((c.set s.2.1.toNat (pre++y::suf)).length:Nat):Int))=true:=by simp_all
  have o:decide ((pre.length:Int)<(((pre++y::suf).length:Nat):Int))=true:=by grind
  have hv:=c3m g b hwx.1 hwy.1;have z:wrap .i64 ((pre.length:Int)+1)=((pre.length+1:Nat):Int):=a0B (by omega);have A:a8R sign s.2.2.1 (x::sx) (y::suf)=a3e sign s.2.2.1 x y::a8R sign s.2.2.1 sx suf:=rfl;have d:a76 (c.set s.2.1.toNat (pre++y::suf)) s.2.1.toNat (a76 (pre++y::suf) (a35 (pre.length:Int)) (a3e sign s.2.2.1 x y))=c.set s.2.1.toNat ((pre++[a3e sign s.2.2.1 x y])++suf):=by
   simp
  have h:a3o (sign,(xs.length:Int),(pre.length:Int),c.set s.2.1.toNat (pre++y::suf),s,((s.1.toNat:Nat):Int),()) =
    bif !(a0C (a3e sign s.2.2.1 x y))then some (.inr (Sum.inr (false,c.set s.2.1.toNat (pre++y::suf),())))
    else some (.inl (sign,(xs.length:Int),((pre.length+1:Nat):Int),c.set s.2.1.toNat ((pre++[a3e sign s.2.2.1 x y])++suf),s,((s.1.toNat:Nat):Int),())):=by
   simp only[a3o,l,cT,q,r,j,a02,m,n,o,t,u,b1e,hv,oB,z]
   simp
  cases hwv:a0C (a3e sign s.2.2.1 x y)with
  |false=>
   simp_all[a0E]
  |true=>
   rw[hwv]at h;have B:=b8k g b a0 i f hb k a w sx suf (px++[x]) (pre++[a3e sign s.2.2.1 x y]) (by simp_all) (by grind) (by simp_all) hwx.2 hwy.2;rw[a0G h,A];simp_all
def a7d(sign:Int)(s:a1r)(c:List (List Int)):Option (List (List Int)):=
 let r:=a8R sign s.2.2.1 (c.getD s.1.toNat []) (c.getD s.2.1.toNat [])
 if r.all a0C=true then some (c.set s.2.1.toNat r)else none
theorem a6I{c:List (List Int)}{n:Nat}(h:a7c c n){i:Nat}(g:i<c.length):(c.getD i []).length=n∧(c.getD i []).all a0C=true:=by
 rw[lD,lG g];exact h _ (a06 g)
theorem c8P(a:a7c c n)(w:n≤5000){s:a1r}(p:a5z (c.length:Int) s=true)(k:sign=1∨sign=-1):
  ∃b f,a6v (c,s,sign)=some (b,f)∧match a7d sign s c with|some r=>b=true∧f=r|none=>b=false:=by
 obtain⟨a1,u,d,e,v,j,l⟩:=a9r.1 p;have q:=a6I a (i:=s.1.toNat) (by omega);have t:=a6I a (i:=s.2.1.toNat) (by omega);have hb:s.2.1.toNat<c.length:=by omega
 have g:c.set s.2.1.toNat (c.getD s.2.1.toNat [])=c:=by
  simp_all
 have:=b8k k ⟨j,l⟩ a1 d (by omega) hb e (rfl:c.getD s.1.toNat []=_) (by omega) (c.getD s.1.toNat []) (c.getD s.2.1.toNat []) [] [] rfl rfl (by omega) q.2 t.2
 rw[a09,g]at this;simp only[a18,nZ,a09,a16]at this;have m:decide ((0:Int)≤s.1)=true:=by simp_all
 have o:decide (s.1<(c.length:Int))=true:=by simp_all
 unfold a6v a7d;simp only[m,o,a02,cT]
 by_cases hA:(a8R sign s.2.2.1 (c.getD s.1.toNat []) (c.getD s.2.1.toNat [])).all a0C=true
 simp_all;rw[if_neg hA]at this⊢;obtain⟨f,h⟩:=this;simp_all
theorem b2S{c c':List (List Int)}{n:Nat}(g:a7c c n){s:a1r}(k:a5z (c.length:Int) s=true){sign:Int}(h:a7d sign s c=some c'):a7c c' n∧c'.length=c.length:=by
 obtain⟨a1,a,b,d,e,j,l⟩:=a9r.1 k;have o:=a6I g (i:=s.1.toNat) (by omega);have p:=a6I g (i:=s.2.1.toNat) (by omega);unfold a7d at h;simp only at h
 split at h
 rename_i m;cases h;refine⟨fun r f=>?_,by simp⟩;rcases List.mem_or_eq_of_mem_set f with f|rfl;exact g r f;simp_all[c8O];simp_all
def a5A:List a1r→List (List Int)→Option (List (List Int))
 | [],c=>some c
 |s::l,c=>(a5A l c).bind (a7d (-1) s)
theorem b9W{n:Nat}{N:Nat}:∀(l:List a1r){c c':List (List Int)},a7c c n→c.length=N→l.all (a5z (N:Int))=true→a5A l c=some c'→a7c c' n∧c'.length=N
 | [],c,c',hc,hl,_,h=>by cases h;simp_all
 |s::l,c,c',hc,hl,hs,h=>by
  simp only[a33,bA]at hs;simp[a5A,a36]at h;obtain⟨d,g,f⟩:=h;obtain⟨k,a⟩:=b9W l hc hl hs.2 g
  grind[b2S]
def c6S:Option (List (List Int))→List (List Int)×Int
 |some r=>(r,0)
 |none=>([],6)
theorem b2T(s:a1r):∀(l:List a1r)(c:List (List Int)),a5A (l++[s]) c=(a7d (-1) s c).bind (a5A l)
 | [],c=>by
  show a7d (-1) s c=_;cases a7d (-1) s c<;>rfl
 |t::l,c=>by
  simp only[a70,a5A,b2T s l];cases a7d (-1) s c<;>rfl
theorem b9X{n N:Nat}(g:n≤5000){l:List a1r}(i:l.all (a5z (N:Int))=true)(z:List (List Int))(e:Int):∀(k:Nat)(c:List (List Int)),k≤l.length→a7c c n→c.length=N→
  match a5A (l.take k) c with
  |some r=>l0f a4Z l k (l,z,e,c,())=some (.inl (l,z,e,r,()))
  |none=>∃d,l0f a4Z l k (l,z,e,c,())=some (.inr (.ret,l,[],6,d,()))
 |0,c,_,_,_=>rfl
 |k+1,c,hk,hc,hcl=>by
  have j:k<l.length:=by omega
  have f:a5z (c.length:Int) l[k]=true:=by grind
  obtain⟨b,a,o,h⟩:=c8P hc g f (sign:=-1) (.inr rfl);rw[a56 j,b2T];cases hst:a7d (-1) l[k] c with
  |none=>
   simp_all[l0f,a4Z]
  |some r=>
   rw[hst]at h;obtain⟨rfl,rfl⟩:=h;obtain⟨m,q⟩:=b2S hc f hst;have p:=b9X g i z e k a (by omega) m (by omega);simp_all[l0f,a4Z]
theorem d1k(c:List (List Int))(l:List a1r):a8U (c,l)=some (if a3d c∧a7j l (c.length:Int)then c6S (a5A l c)else([],1)):=by
 unfold a8U;simp only[d1j,oB]
 by_cases hq:a3d c
 ·have h:=b9F hq;simp only[hq,decide_true,bT,cF,b5S,oB,true_and]
  by_cases hm:a7j l (c.length:Int)
  ·simp[hm];rw[c7V h (by have:=hq.2.2.1;omega) (by have:=hq.2.1;omega)]
   have:=b9X (N:=c.length) (by have:=hq.2.2.1;omega:(c.headD []).length≤5000) hm.2.2.2 [] 0 l.length c (a32 _) h rfl
   rw[a47]at this;simp[a1h (show l.length<2147483648 by have:=hm.2.2.1;omega)];cases hu:a5A l c with
   |some r=>
    rw[hu]at this;simp only at this
    erw[this]
    rfl
   |none=>
    rw[hu]at this;obtain⟨d,g⟩:=this
    erw[g]
    rfl
  simp_all
 simp_all
def a2a(b:a1S):Nat:=(b.2.1.headD []).length
theorem a6J(b:a1S):a2Z b=some ((a2a b:Nat):Int):=by
 unfold a2Z a2a;obtain⟨d,c,u⟩:=b;cases c with
 |nil=>rfl
 |cons r c=>
  rfl
def a2Y(b:a1S):Prop:=4≤b.1∧b.1≤24∧1≤b.2.1.length∧b.2.1.length≤8∧1≤a2a b∧a2a b≤4096∧b.2.1.all (fun r=>decide (r.length=a2a b)&&r.all fun x=>a2K x b.1)=true
instance (b:a1S):Decidable (a2Y b):=by unfold a2Y;infer_instance
theorem c3n{x w:Int}(h:4≤w∧w≤24):a1V (x,w)=some (a2K x w):=by
 have:=a8N (x:=x) (w:=w.toNat) (by omega)
 grind
theorem b4F(b:a1S):a3a b=some (decide (a2Y b)):=by
 unfold a3a a5D
 by_cases h1:4≤b.1
 rotate_left;rw[decide_eq_false (show ¬ a2Y b from fun h=>h1 h.1),decide_eq_false h1];rfl
 by_cases h2:b.1≤24
 rotate_left;rw[decide_eq_false (show ¬ a2Y b from fun h=>h2 h.2.1),decide_eq_true h1,decide_eq_false h2];rfl
 by_cases h3:((b.2.1.length:Nat):Int)<1
 rw[decide_eq_false (show ¬ a2Y b from fun h=>by have:=h.2.2.1;omega),decide_eq_true h1,decide_eq_true h2,decide_eq_true h3];rfl
 by_cases h4:((b.2.1.length:Nat):Int) > 8
 rw[decide_eq_false (show ¬ a2Y b from fun h=>by have:=h.2.2.2.1;omega),decide_eq_true h1,decide_eq_true h2,decide_eq_false h3,decide_eq_true h4];rfl;have c:decide (((b.2.1.length:Nat):Int)<1)=false:=by simp_all
 have d:decide (((b.2.1.length:Nat):Int) > 8)=false:=by simp_all
 simp only[decide_eq_true h1,decide_eq_true h2,c,d,cT,cF,oB,bT,a6J]
 by_cases h5:((a2a b:Nat):Int)<1
 rw[decide_eq_false (show ¬ a2Y b from fun h=>by have:=h.2.2.2.2.1;omega),decide_eq_true h5];rfl
 by_cases h6:((a2a b:Nat):Int) > 4096
 rw[decide_eq_false (show ¬ a2Y b from fun h=>by have:=h.2.2.2.2.2.1;omega),decide_eq_false h5,decide_eq_true h6];rfl;have l:decide (((a2a b:Nat):Int)<1)=false:=by simp_all
 have m:decide (((a2a b:Nat):Int) > 4096)=false:=by simp_all
 simp[l,m];have g:∀(i:Nat)(r:List Int),short r→y0s a3K (b.2.1,(b.2.1.length:Int),(i:Int),r,(r.length:Int),(0:Int),b,())=some (bif r.all (fun x=>a2K x b.1)then Sum.inl (b.2.1,(b.2.1.length:Int),(i:Int),b,())else Sum.inr (false,())):=fun i r n=>by
  have:=a1d (f:=a3K) r (fun j=>(b.2.1,(b.2.1.length:Int),(i:Int),r,(r.length:Int),(j:Int),b,())) (fun x=>a2K x b.1) (bt:=Sum.inl (b.2.1,(b.2.1.length:Int),(i:Int),b,())) (bf:=Sum.inr (false,()))
   (fun j h hp=>by simp only[a3K,dlt h,cT,a0A h,oB,c3n ⟨h1,h2⟩,hp,bT,cF,a0B (a08 h n)])
   (fun j h hp=>by simp_all[a3K,a0A,c3n])
   (by simp_all[a3K])
  omega
 have k:=a1d (f:=a3L) b.2.1 (fun i=>(b.2.1,(b.2.1.length:Int),(i:Int),b,())) (fun r=>decide (r.length=a2a b)&&r.all fun x=>a2K x b.1) (bt:=Sum.inl ()) (bf:=Sum.inr (false,()))
  (fun i h hp=>by
   simp only[bA,dT]at hp;have e:((((b.2.1[i]).length:Nat):Int) != ((a2a b:Nat):Int))=false:=by simp_all
   have a:=g i b.2.1[i] (by unfold short;omega);rw[hp.2,cT]at a;simp only[a3L,dlt h,cT,a0A h,oB,a6J,e,cF,a,a0B (show i<1000000 by omega)])
  (fun i h hp=>by
   by_cases hl:(b.2.1[i]).length=a2a b
   have e:((((b.2.1[i]).length:Nat):Int) != ((a2a b:Nat):Int))=false:=by simp_all
   have a:=g i b.2.1[i] (by unfold short;omega);rw[decide_eq_true hl,a26]at hp;rw[hp,cF]at a;simp_all[a3L,a0A,a6J];have e:((((b.2.1[i]).length:Nat):Int) != ((a2a b:Nat):Int))=true:=by grind
   simp only[a3L,dlt h,cT,a0A h,oB,a6J,e])
  (by simp_all[a3L])
 simp at k;rw[k]
 by_cases hA:b.2.1.all (fun r=>decide (r.length=a2a b)&&r.all fun x=>a2K x b.1)=true
 rw[hA,decide_eq_true (show a2Y b from⟨h1,h2,by omega,by omega,by omega,by omega,hA⟩)];rfl;rw[a54.2 hA,decide_eq_false (show ¬ a2Y b from fun h=>hA h.2.2.2.2.2.2)];rfl
def a7k{α β:Type}(g:α→Option β):List α→Option (List β)
 | []=>some []
 |a::l=>(g a).bind fun b=>(a7k g l).bind fun r=>some (b::r)
theorem b9Y{α β:Type}{g:α→Option β}:∀{l:List α}{r:List β},a7k g l=some r→∀a∈l,(g a).isSome=true
 | [],r,h,a,ha=>by cases ha
 |a::l,r,h,x,hx=>by
  simp only[a7k,a36]at h;obtain⟨b,f,d,k,c⟩:=h;rcases mC.1 hx with rfl|hx;rw[f];rfl;exact b9Y k x hx
def a3F(f:a1F):Option a1S:=
 if frP f∧((f.2.2.2.2.1.length:Nat):Int)=f.2.2.1.2.1 then
  (a7k (fun s=>a1R s f.2.1) f.2.2.2.2.1).bind fun rs=>
   if a3d rs∧a7j f.2.2.2.1 (rs.length:Int)then
    (a5A f.2.2.2.1 rs).bind fun ch=>if a2Y (f.2.2.1.2.2.1,ch,())then some (f.2.2.1.2.2.1,ch,())else none
   else none
 else none
def a5S:a1S:=(0,[],())
def d8U:Option a1S→a1S×Int
 |some b=>(b,0)
 |none=>(a5S,1)
theorem b5U(f:a1F)(all:List Sub)(d:all.length≤8):∀(rest done:List Sub)(rows:List (List Int)),done++rest=all→rows.length=done.length→(∀s∈rest,SmallS s)→
  y0s a3U (all,(all.length:Int),(done.length:Int),rows,a5S,f,())=some (match a7k (fun s=>a1R s f.2.1) rest with|some rs=>Sum.inl (rows++rs,a5S,f,())|none=>Sum.inr (1,a5S,()))
 | [],done,rows,hd,hr,_=>by
  have e:done=all:=by simpa using hd
  subst e;rw[a0E (b:=Sum.inl (rows,a5S,f,())) (by simp only[a3U,dge,cF])];simp[a7k]
 |s::rest,done,rows,hd,hr,h=>by
  have i:=h s (by simp);have k:done.length<all.length:=by rw[←hd];simp
  have a:m0k all (done.length:Int)=some s:=by rw[a0A k];subst hd;simp
  have g:=b8a i f.2.1;simp only[a7k];cases ho:a1R s f.2.1 with
  |none=>
   rw[ho]at g;have b1:((1:Int) != 0)=true:=rfl;exact a0E (by simp only[a3U,dlt k,cT,a,oB,g,b1];rfl)
  |some r=>
   rw[ho]at g;have c:((0:Int) != 0)=false:=rfl;rw[a0G (s':=(all,(all.length:Int),(((done++[s]).length:Nat):Int),rows++[r],a5S,f,())) (by
    simp only[a3U,dlt k,cT,a,oB,g,c,cF,a1h (show rows.length+1<2147483648 by omega),a0B (show done.length<1000000 by omega)]
    simp)]
   rw[b5U f all d rest (done++[s]) (rows++[r]) (by simpa using hd) (by simp[hr]) (fun t j=>h t (by simp[j]))];simp only[oB];cases a7k (fun s=>a1R s f.2.1) rest<;>simp
theorem c3o{f:a1F}(b:∀s∈f.2.2.2.2.1,SmallS s):a2F f=some (d8U (a3F f)):=by
 unfold a2F a3F;simp only[b2r,oB]
 by_cases hf:frP f
 rotate_left;simp only[hf,decide_false,a19,cT,oB,false_and,if_false];rfl
 by_cases hl:((f.2.2.2.2.1.length:Nat):Int)=f.2.2.1.2.1
 rotate_left;have e:(((f.2.2.2.2.1.length:Nat):Int) != f.2.2.1.2.1)=true:=by simpa using hl
 simp only[hf,decide_true,bT,cF,oB,e,cT,hl,and_false,if_false];rfl;have e:(((f.2.2.2.2.1.length:Nat):Int) != f.2.2.1.2.1)=false:=by simpa using hl
 have a:f.2.2.2.2.1.length≤8:=by have:=hf.1.2.2.2.1;omega
 have k:decide ((0:Int)≤((f.2.2.2.2.1.length:Nat):Int))=true:=by simp
 have h:=b5U f f.2.2.2.2.1 a f.2.2.2.2.1 [] [] rfl rfl b;rw[a18]at h;rw[if_pos ⟨hf,hl⟩];simp only[hf,decide_true,bT,cF,oB,e,k,tN,a1h (show f.2.2.2.2.1.length<2147483648 by omega),a02,cT]
 erw[h]
 cases hm:a7k (fun s=>a1R s f.2.1) f.2.2.2.2.1 with
 |none=>rfl
 |some rs=>
  simp only[oB,a09,d1k]
  by_cases hq:a3d rs∧a7j f.2.2.2.1 (rs.length:Int)
  ·simp only[if_pos hq];cases hu:a5A f.2.2.2.1 rs with
   |none=>rfl
   |some ch=>
    have g:((0:Int) != 0)=false:=rfl;simp only[c6S,g,cF,b4F,oB]
    by_cases hb:a2Y (f.2.2.1.2.2.1,ch,())
    simp only[hb,decide_true,bT,cF,if_true];rfl;simp only[hb,decide_false,a19,cT,if_false];rfl
  simp only[if_neg hq];rfl
theorem d1W{f:a1F}(h:∀s∈f.2.2.2.2.1,SmallS s):a5X f=some (a3F f).isSome:=by
 unfold a5X;rw[c3o h];cases a3F f<;>rfl
theorem c3p{f:a1F}{b:a1S}(h:a3F f=some b):frP f∧((f.2.2.2.2.1.length:Nat):Int)=f.2.2.1.2.1∧∀s∈f.2.2.2.2.1,(a1R s f.2.1).isSome=true:=by
 unfold a3F at h
 split at h
 rename_i g;simp only[a36]at h;obtain⟨a,k,-⟩:=h;exact⟨g.1,g.2,b9Y k⟩;cases h
theorem c8Q(x:a1r):eqT (.pair (.int .i64) (.pair (.int .i64) (.pair (.int .i64) .unit))) x x=true:=by
 show((x.1==x.1)&&((x.2.1==x.2.1)&&((x.2.2.1==x.2.2.1)&&true)))=true
 simp
theorem c3q:a7s c=some (decide (1≤c.length∧c.length≤8∧c.all (fun r=>decide (r.length=(c.headD []).length))=true)):=by
 unfold a7s
 by_cases h1:((c.length:Nat):Int)<1
 grind
 by_cases h2:((c.length:Nat):Int) > 8
 grind
 have g:0<c.length:=by omega
 have k:m0k c 0=some (c.headD []):=by rw[show(0:Int)=((0:Nat):Int)from rfl,a0A g,b1D (d:=[]) g]
 have:=a1d (f:=a5b) (β:=Unit ⊕ (Bool×Unit)) c (fun i=>(c,(i:Int),())) (fun r=>decide (r.length=(c.headD []).length)) (bt:=Sum.inl ()) (bf:=Sum.inr (false,()))
  (fun i h hp=>by
   simp only[dT]at hp;have e:((((c[i]).length:Nat):Int) != (((c.headD []).length:Nat):Int))=false:=by simp_all
   simp only[a5b,dlt h,cT,a0A h,oB,k,e,cF,a0B (show i<1000000 by omega)])
  (fun i h hp=>by
   simp only[decide_eq_false_iff_not]at hp;have e:((((c[i]).length:Nat):Int) != (((c.headD []).length:Nat):Int))=true:=by grind
   simp only[a5b,dlt h,cT,a0A h,oB,k,e]) (by simp_all[a5b])
 grind
theorem b4G{w:Int}(h:4≤w∧w≤24):a7P (x,w)=some (a2K x w):=by
 have:=b1T (x:=x) (w:=w.toNat) (by omega)
 grind
theorem b1E(b:a1S):a5c b=some (decide (a2Y b)):=by
 unfold a5c
 by_cases h1:b.1<4
 rw[decide_eq_true h1,decide_eq_false (fun h:a2Y b=>by have:=h.1;omega)];rfl
 by_cases h2:b.1 > 24
 rw[decide_eq_false h1,decide_eq_true h2,decide_eq_false (fun h:a2Y b=>by have:=h.2.1;omega)];rfl;simp only[decide_eq_false h1,decide_eq_false h2,cF,c3q,oB]
 by_cases h3:1≤b.2.1.length∧b.2.1.length≤8∧b.2.1.all (fun r=>decide (r.length=(b.2.1.headD []).length))=true
 rotate_left;rw[decide_eq_false h3,decide_eq_false (fun h:a2Y b=>h3 ⟨h.2.2.1,h.2.2.2.1,lA.2 fun r c=>by
  have:=lA.1 h.2.2.2.2.2.2 r c
  simp only[bA]at this;exact this.1⟩)];rfl
 have e:0<b.2.1.length:=by omega
 have l:m0k b.2.1 0=some (b.2.1.headD []):=by rw[show(0:Int)=((0:Nat):Int)from rfl,a0A e,b1D (d:=[]) e]
 simp only[decide_eq_true h3,bT,cF,l,oB]
 by_cases h4:(((b.2.1.headD []).length:Nat):Int)<1
 rw[decide_eq_true h4,decide_eq_false (fun h:a2Y b=>by have:=h.2.2.2.2.1;grind[a2a])];rfl
 by_cases h5:(((b.2.1.headD []).length:Nat):Int) > 4096
 rw[decide_eq_false h4,decide_eq_true h5,decide_eq_false (fun h:a2Y b=>by have:=h.2.2.2.2.2.1;grind[a2a])];rfl;simp only[decide_eq_false h4,decide_eq_false h5,cF,oB];have hb:4≤b.1∧b.1≤24:=by omega
 have g:∀(i:Nat)(a:i<b.2.1.length),y0s a2A ((i:Int),(0:Int),b,())=some (bif (b.2.1[i]).all (fun x=>a2K x b.1)then Sum.inl ((i:Int),b,())else Sum.inr (false,())):=fun i a=>by
  have o:(b.2.1[i]).length=(b.2.1.headD []).length:=by simp_all
  have:=a1d (f:=a2A) (β:=(Int×a1S×Unit) ⊕ (Bool×Unit)) b.2.1[i] (fun j=>((i:Int),(j:Int),b,())) (fun x=>a2K x b.1) (bt:=Sum.inl ((i:Int),b,())) (bf:=Sum.inr (false,()))
   (fun j h hp=>by simp only[a2A,a0A a,oB,dlt h,cT,a0A h,b4G hb,hp,bT,cF,a0B (show j<1000000 by omega)])
   (fun j h hp=>by simp only[a2A,a0A a,oB,dlt h,cT,a0A h,b4G hb,hp,a19])
   (by simp_all[a2A,a0A])
  omega
 have k:=a1d (f:=a3B) (β:=Unit ⊕ (Bool×Unit)) b.2.1 (fun i=>((i:Int),b,())) (fun r=>r.all fun x=>a2K x b.1) (bt:=Sum.inl ()) (bf:=Sum.inr (false,()))
  (fun i h hp=>by
   have a:=g i h;rw[hp,cT]at a;simp only[a3B,dlt h,cT]
   grind[a0B])
  (fun i h hp=>by
   have a:=g i h;rw[hp,cF]at a;simp_all[a3B])
  (by simp_all[a3B])
 simp at k;rw[k]
 by_cases hA:b.2.1.all (fun r=>r.all fun x=>a2K x b.1)=true
 rw[hA,decide_eq_true (p:=a2Y b) (⟨hb.1,hb.2,h3.1,h3.2.1,by unfold a2a;omega,by unfold a2a;omega,lA.2 fun r c=>by
  have m:=lA.1 h3.2.2 r c;have n:=lA.1 hA r c;simp_all[a2a]⟩:a2Y b)]
 rfl;rw[a54.2 hA,decide_eq_false (p:=a2Y b) (fun h=>hA (lA.2 fun r c=>by
  have:=lA.1 h.2.2.2.2.2.2 r c
  simp_all))]
 rfl
theorem c3s(f:a1r):a8Z f=some (decide (b2R f)):=by
 unfold a8Z b2R
 grind
theorem b2t(l:List a1r)(n:Int):a5M (l,n)=some (decide (a7j l n)):=by
 unfold a5M a7j
 by_cases h1:n<1
 grind
 by_cases h2:n > 8
 grind
 by_cases h3:((l.length:Nat):Int) > 16
 grind
 have g:=a1d (f:=a3V) (β:=Unit ⊕ (Bool×Unit)) l (fun i=>(l,n,(i:Int),())) (a5z n) (bt:=Sum.inl ()) (bf:=Sum.inr (false,()))
  (fun i h hp=>by
   obtain⟨a1,m,o,p,q,r,s⟩:=a9r.1 hp;have k:decide (l[i].1<0)=false:=by simp_all
   have a:decide (l[i].1≥n)=false:=by simp_all
   have b:decide (l[i].2.1<0)=false:=by simp_all
   have c:decide (l[i].2.1≥n)=false:=by simp_all
   have d:(l[i].1==l[i].2.1)=false:=by simp_all
   have e:decide (l[i].2.2.1 < -1024)=false:=by simp_all
   have j:decide (l[i].2.2.1 > 1024)=false:=by simp_all
   simp only[a3V,dlt h,cT,a0A h,oB,k,a,b,c,d,e,j,cF,a0B (show i<1000000 by omega)])
  (fun i h hp=>by
   simp only[a3V,dlt h,cT,a0A h,oB]
   grind[a5z])
  (by simp[a3V])
 grind
theorem c4K(c:List (List Int))(l:List a1r):a9T (c,l)=some (decide (a3d c∧a7j l (c.length:Int))):=by
 unfold a9T;simp only[c3q,oB]
 by_cases hl:1≤c.length∧c.length≤8∧c.all (fun r=>decide (r.length=(c.headD []).length))=true
 rotate_left;rw[decide_eq_false hl,decide_eq_false (fun h:a3d c∧_=>hl ⟨h.1.1,h.1.2.1,lA.2 fun r a=>by
  have:=lA.1 h.1.2.2.2 r a
  simp_all⟩)]
 rfl;have b:m0k c 0=some (c.headD []):=by rw[show(0:Int)=((0:Nat):Int)from rfl,a0A (show 0<c.length by omega),b1D (d:=[]) (by omega)]
 rw[decide_eq_true hl];simp only[bT,cF,b,oB]
 by_cases h3:(((c.headD []).length:Nat):Int) > 4096
 rw[decide_eq_true h3,decide_eq_false (fun h:a3d c∧_=>by have:=h.1.2.2.1;omega)];rfl;rw[decide_eq_false h3];simp only[cF,b2t,oB]
 by_cases hm:a7j l (c.length:Int)
 rotate_left;simp_all;rw[decide_eq_true hm];simp only[bT,cF];have k:∀r∈c,r.length=(c.headD []).length:=fun r a=>by simp_all
 have g:=a1d (f:=a5P) c (fun i=>(c,(i:Int),())) (fun r=>r.all a0C) (bt:=Sum.inl ()) (bf:=Sum.inr (false,()))
  (fun i h hp=>by
   have:=k c[i] (a06 h)
   simp only[a5P,dlt h,cT,a0A h,oB,a1t (show short c[i]by unfold short;omega),hp,bT,cF,a0B (show i<1000000 by omega)])
  (fun i h hp=>by
   have:=k c[i] (a06 h)
   simp only[a5P,dlt h,cT,a0A h,oB,a1t (show short c[i]by unfold short;omega),hp,a19])
  (by simp_all[a5P])
 simp at g;rw[g]
 by_cases hA:c.all (fun r=>r.all a0C)=true
 rw[hA,decide_eq_true (⟨⟨hl.1,hl.2.1,by omega,lA.2 fun r a=>by grind⟩,hm⟩:a3d c∧_)];rfl;rw[a54.2 hA,decide_eq_false (fun h:a3d c∧_=>hA (lA.2 fun r a=>by
  have:=lA.1 h.1.2.2.2 r a
  simp_all))];rfl
theorem c1K(h:a7c c n)(m:n≤5000)(l:c.length≤100):a8h c=some c:=by
 have:=a1E (f:=a6n) (β:=List (List Int)×Unit) c (fun i (a:List (List Int))=>(c,(i:Int),a,())) (fun a x=>.inl (a++[x])) (fun i a=>a.length=i) (fun a=>(a,()))
  (fun i k a d=>⟨fun j g=>by
   simp at g;subst g;have o:=(h _ (a06 k)).1;have e:∀y:List Int,a76 ([([]:List Int)]:List (List Int)) 0 y=[y]:=fun _=>rfl;refine⟨?_,by grind⟩;simp only[a6n,dlt k,cT,a0A k,oB,e,a05,a09,a59];rw[a1h (by omega),cT,a1h (by omega),cT,a0B (show i<1000000 by omega)],fun b hb=>by grind⟩)
  (fun a d=>by simp_all[a6n]) (a:=[]) rfl
 simp_all[b6I,a8h,b4i]
theorem c8R(S:a7c c n)(T:n≤5000){s:a1r}(p:sign=1∨sign=-1)(D:-1024≤s.2.2.1∧s.2.2.1≤1024)(a0:0≤s.1)(a1:s.1<(c.length:Int))(K:0≤s.2.1)(b1:s.2.1<(c.length:Int))(C:s.1.toNat≠s.2.1.toNat){xs:List Int}(H:c.getD s.1.toNat []=xs)(G:xs.length=n):∀(k g j h:List Int),j++k=xs→j.length=h.length→k.length=g.length→k.all a0C=true→g.all a0C=true→
  if(a8R sign s.2.2.1 k g).all a0C=true then
   y0s a5f (sign,(h.length:Int),c.set s.2.1.toNat (h++g),s,())=some (.inl (c.set s.2.1.toNat (h++a8R sign s.2.2.1 k g),()))
  else ∃c',y0s a5f (sign,(h.length:Int),c.set s.2.1.toNat (h++g),s,())=some (.inr (false,c',())):=by
 have hb:s.2.1.toNat<c.length:=by omega
 have F:∀r,(c.set s.2.1.toNat r).getD s.2.1.toNat []=r:=fun r=>b5T _ hb _ _;have E:∀r,(c.set s.2.1.toNat r).getD s.1.toNat []=xs:=fun r=>by grind
 have d:∀r,r.length=n→((c.set s.2.1.toNat r).getD 0 []).length=n:=fun r U=>by
  by_cases l:s.2.1.toNat=0
  grind
  rw[c4J _ (Ne.symm l)]
  grind[a6I]
 have w:decide ((0:Int)<(c.length:Int))=true:=by grind
 have N:decide ((0:Int)≤s.1)=true:=by simp_all
 have z:decide (s.1<(c.length:Int))=true:=by simp_all
 have O:decide ((0:Int)≤s.2.1)=true:=by simp_all
 have A:decide (s.2.1<(c.length:Int))=true:=by simp_all
 intro k
 induction k with
 |nil=>
  intro g j h u hp q _ _;have e:g=[]:=a37.1 q.symm;subst e;have B:h.length=n:=by simp_all
  have l:=d (h++[]) (by simp_all);rw[if_pos (by rfl)];refine a0E ?_
  simp only[a5f,b07,w,cT,l,B,dge,cF];rfl
 |cons x k v=>
  intro g j h u hp q a b;cases g with
  |nil=>simp_all
  |cons y g=>
   simp only[a33,bA]at a b;have i:(h++y::g).length=n:=by grind
   have o:h.length<n:=by grind
   have P:a40 xs (a35 (h.length:Int)) 0=x:=by rw[tN,←hp,←u];simp
   have Q:a40 (h++y::g) (a35 (h.length:Int)) 0=y:=by simp
   have L:decide ((0:Int)≤(h.length:Int))=true:=by simp
   have M:decide ((h.length:Int)<(n:Int))=true:=dlt o;have l:=d _ i;have hv:=c3m p D a.1 b.1;have V:wrap .i64 ((h.length:Int)+1)=((h.length+1:Nat):Int):=a0B (by omega);have I:a8R sign s.2.2.1 (x::k) (y::g)=a3e sign s.2.2.1 x y::a8R sign s.2.2.1 k g:=rfl;have t:a76 (c.set s.2.1.toNat (h++y::g)) s.2.1.toNat (a76 (h++y::g) (a35 (h.length:Int)) (a3e sign s.2.2.1 x y))=c.set s.2.1.toNat (h++a3e sign s.2.2.1 x y::g):=by
    simp
   have m:(h++a3e sign s.2.2.1 x y::g).length=n:=by simp_all
   have R:a40 (h++a3e sign s.2.2.1 x y::g) (a35 (h.length:Int)) 0=a3e sign s.2.2.1 x y:=by simp
   have f:a5f (sign,(h.length:Int),c.set s.2.1.toNat (h++y::g),s,()) =
     bif !(a0C (a3e sign s.2.2.1 x y))then some (.inr (Sum.inr (false,c.set s.2.1.toNat (h++a3e sign s.2.2.1 x y::g),())))
     else some (.inl (sign,((h.length+1:Nat):Int),c.set s.2.1.toNat (h++a3e sign s.2.2.1 x y::g),s,())):=by
    simp_all[a5f,a1W]
   cases hwv:a0C (a3e sign s.2.2.1 x y)with
   |false=>
    simp_all[a0E]
   |true=>
    rw[hwv]at f;have v:=v g (j++[x]) (h++[a3e sign s.2.2.1 x y]) (by simp_all) (by simp[hp]) (by simp_all) a.2 b.2;rw[a0G f,I];simp_all
theorem c6T(k:a7c c n)(p:n≤5000){s:a1r}(q:a5z (c.length:Int) s=true)(a:sign=1∨sign=-1):
  ∃b f,b1o (c,s,sign)=some (b,f)∧match a7d sign s c with|some r=>b=true∧f=r|none=>b=false:=by
 obtain⟨a1,e,j,l,u,m,o⟩:=a9r.1 q;have d:=a6I k (i:=s.1.toNat) (by omega);have t:=a6I k (i:=s.2.1.toNat) (by omega);have hb:s.2.1.toNat<c.length:=by omega
 have g:c.set s.2.1.toNat (c.getD s.2.1.toNat [])=c:=by
  simp_all
 have:=c8R k p a ⟨m,o⟩ a1 e j l (by omega) (rfl:c.getD s.1.toNat []=_) d.1 (c.getD s.1.toNat []) (c.getD s.2.1.toNat []) [] [] rfl rfl (by omega) d.2 t.2
 rw[a09,g]at this;simp only[a18,nZ,a09,a16]at this;unfold b1o a7d
 by_cases hA:(a8R sign s.2.2.1 (c.getD s.1.toNat []) (c.getD s.2.1.toNat [])).all a0C=true
 simp_all;rw[if_neg hA]at this⊢;obtain⟨f,h⟩:=this;simp_all
theorem b4H{n N:Nat}(f:n≤5000){l:List a1r}(j:l.length≤16)(e:l.all (a5z (N:Int))=true):∀(k:Nat)(c:List (List Int)),k≤l.length→a7c c n→c.length=N→
  y0s a4Q (l,(k:Int)-1,c,())=some (match a5A (l.take k) c with|some r=>Sum.inl (r,())|none=>Sum.inr ([],6,()))
 |0,c,_,_,_=>a0E rfl
 |k+1,c,hk,hc,hcl=>by
  have i:k<l.length:=by omega
  have a:a5z (c.length:Int) l[k]=true:=by grind
  obtain⟨b,h,o,g⟩:=c6T hc f a (sign:=-1) (.inr rfl);rw[a56 i,b2T];rw[show((k+1:Nat):Int)-1=((k:Nat):Int)from by omega];have d:decide (((k:Nat):Int)≥0)=true:=by simp
  have w:wrap .i64 (((k:Nat):Int)-1)=((k:Nat):Int)-1:=a0D (by omega);cases hst:a7d (-1) l[k] c with
  |none=>
   simp_all[a0E,a4Q,a0A]
  |some r=>
   rw[hst]at g;obtain⟨rfl,rfl⟩:=g;obtain⟨m,p⟩:=b2S hc a hst;rw[a0G (s':=(l,((k:Nat):Int)-1,h,())) (by
    simp_all[a4Q,a0A])]
   rw[b4H f j e k h (by omega) m (by omega)];rfl
theorem b8l(c:List (List Int))(l:List a1r):a6U (c,l)=some (if a3d c∧a7j l (c.length:Int)then c6S (a5A l c)else([],1)):=by
 unfold a6U;simp only[c4K,oB]
 by_cases hq:a3d c∧a7j l (c.length:Int)
 have g:=b9F hq.1;have h:=hq.2;rw[decide_eq_true hq,if_pos hq]
 simp
 rw[c1K g (by have:=hq.1.2.2.1;omega) (by have:=hq.1.2.1;omega)]
 have:=b4H (N:=c.length) (by have:=hq.1.2.2.1;omega:(c.headD []).length≤5000) h.2.2.1 h.2.2.2 l.length c (a32 _) g rfl
 rw[a47]at this
 simp
 rw[a0D (n:=((l.length:Nat):Int)-1) (by have:=h.2.2.1;omega),this];cases a5A l c<;>rfl
 grind
theorem b2u(f:a1F):a5N f=some (decide (frP f)):=by
 unfold a5N;simp only[c3s,b2t,oB]
 by_cases h0:b2R f.2.2.1
 rotate_left;rw[decide_eq_false h0,decide_eq_false (fun h:frP f=>h0 h.1)];rfl
 by_cases h1:1≤f.2.1
 rotate_left;rw[decide_eq_true h0,decide_eq_false (fun h:f.2.1≥1=>h1 h),decide_eq_false (fun h:frP f=>h1 h.2.1)];rfl
 by_cases h2:f.2.1≤4096
 rotate_left;rw[decide_eq_true h0,decide_eq_true (show f.2.1≥1 from h1),decide_eq_false h2,decide_eq_false (fun h:frP f=>h2 h.2.2.1)];rfl
 by_cases h3:0≤f.1
 rotate_left;rw[decide_eq_true h0,decide_eq_true (show f.2.1≥1 from h1),decide_eq_true h2,decide_eq_false (fun h:f.1≥0=>h3 h),decide_eq_false (fun h:frP f=>h3 h.2.2.2.1)];rfl;rw[a0D (n:=4194304-f.2.1) (by omega)]
 by_cases h4:f.1≤4194304-f.2.1
 rotate_left;rw[decide_eq_true h0,decide_eq_true (show f.2.1≥1 from h1),decide_eq_true h2,decide_eq_true (show f.1≥0 from h3),decide_eq_false h4,decide_eq_false (fun h:frP f=>h4 h.2.2.2.2.1)];rfl;rw[decide_eq_true h0,decide_eq_true (show f.2.1≥1 from h1),decide_eq_true h2,decide_eq_true (show f.1≥0 from h3),decide_eq_true h4];simp only[cT];congr 1;exact decide_eq_decide.2 ⟨fun h=>⟨h0,h1,h2,h3,h4,h⟩,fun h=>h.2.2.2.2.2⟩
theorem b2v(f:a1F)(c:f.2.2.2.2.1.length≤8):∀(rest done:List Sub)(rows:List (List Int)),done++rest=f.2.2.2.2.1→rows.length=done.length→(∀s∈rest,SmallS s)→
  y0s a2R ((done.length:Int),rows,a5S,f,())=some (match a7k (fun s=>a1R s f.2.1) rest with|some rs=>Sum.inl (rows++rs,a5S,f,())|none=>Sum.inr (false,a5S,()))
 | [],done,rows,hd,hr,_=>by
  have e:f.2.2.2.2.1.length=done.length:=by rw[←hd];simp
  rw[a0E (b:=Sum.inl (rows,a5S,f,())) (by simp only[a2R,e,dge,cF])];simp[a7k]
 |s::rest,done,rows,hd,hr,h=>by
  have d:=h s (by simp);have k:done.length<f.2.2.2.2.1.length:=by rw[←hd];simp
  have a:m0k f.2.2.2.2.1 (done.length:Int)=some s:=by rw[a0A k];congr 1;simp[←hd]
  have g:=b3e d f.2.1;simp only[a7k];cases ho:a1R s f.2.1 with
  |none=>
   rw[ho]at g;exact a0E (by simp only[a2R,dlt k,cT,a,oB,g,a19];rfl)
  |some r=>
   rw[ho]at g;rw[a0G (s':=((((done++[s]).length:Nat):Int),rows++[r],a5S,f,())) (by
    simp only[a2R,dlt k,cT,a,oB,g,bT,cF,a1h (show rows.length+1<2147483648 by omega),a0B (show done.length<1000000 by omega)]
    simp)]
   rw[b2v f c rest (done++[s]) (rows++[r]) (by simpa using hd) (by simp[hr]) (fun t i=>h t (by simp[i]))];simp only[oB];cases a7k (fun s=>a1R s f.2.1) rest<;>simp
def d4F:Option a1S→a1S×Bool
 |some b=>(b,true)
 |none=>(a5S,false)
theorem b4I{f:a1F}(a:∀s∈f.2.2.2.2.1,SmallS s):a2W f=some (d4F (a3F f)):=by
 unfold a2W a3F;simp only[b2u,oB]
 by_cases hf:frP f
 rotate_left;simp only[hf,decide_false,a19,cT,oB,false_and,if_false];rfl
 by_cases hl:((f.2.2.2.2.1.length:Nat):Int)=f.2.2.1.2.1
 rotate_left;have e:(((f.2.2.2.2.1.length:Nat):Int) != f.2.2.1.2.1)=true:=by simpa using hl
 simp only[hf,decide_true,bT,cF,oB,e,cT,hl,and_false,if_false];rfl;have e:(((f.2.2.2.2.1.length:Nat):Int) != f.2.2.1.2.1)=false:=by simpa using hl
 have k:f.2.2.2.2.1.length≤8:=by have:=hf.1.2.2.2.1;omega
 have h:=b2v f k f.2.2.2.2.1 [] [] rfl rfl a;rw[a18]at h;rw[if_pos ⟨hf,hl⟩];simp only[hf,decide_true,bT,cF,oB,e]
 erw[h]
 cases hm:a7k (fun s=>a1R s f.2.1) f.2.2.2.2.1 with
 |none=>rfl
 |some rs=>
  simp only[oB,a09,b8l]
  by_cases hq:a3d rs∧a7j f.2.2.2.1 (rs.length:Int)
  ·simp only[if_pos hq];cases hu:a5A f.2.2.2.1 rs with
   |none=>rfl
   |some ch=>
    have g:((0:Int) != 0)=false:=rfl;simp only[c6S,g,cF,b1E,oB]
    by_cases hb:a2Y (f.2.2.1.2.2.1,ch,())
    simp only[hb,decide_true,bT,cF,if_true];rfl;simp only[hb,decide_false,a19,cT,if_false];rfl
  simp only[if_neg hq];rfl
theorem c6U{f:a1F}(h:∀s∈f.2.2.2.2.1,SmallS s):a5h f=some (a3F f).isSome:=by
 unfold a5h;rw[b4I h];cases a3F f<;>rfl
def crE(s:BitVec 16):BitVec 16:=bif s.msb then(s <<< 1) ^^^ 32773#16 else s <<< 1
theorem c5a(s t:BitVec 16):crE (s ^^^ t)=crE s ^^^ crE t:=by
 unfold crE;rw[BitVec.msb_xor,BitVec.shiftLeft_xor_distrib];cases s.msb<;>cases t.msb<;>simp only[cT,cF,Bool.xor_true,Bool.xor_false,bT,a19];rw[a24];rw[a24,a24,a77 (t <<< 1)];rw[a24,a77 32773#16,a24,BitVec.xor_self,b09]
theorem c8S{s:BitVec 16}(h:crE s=0):s=0:=by
 unfold crE at h;cases hm:s.msb with
 |true=>
  rw[hm,cT]at h
  have:=congrArg (fun x=>b19 x 0) h
  simp at this
 |false=>
  rw[hm,cF]at h;refine a72 fun i g=>?_
  by_cases h15:i=15
  subst h15;rw[a66]at hm;simpa using hm
  have:=congrArg (fun x=>b19 x (i+1)) h
  simp at this;simpa using this (by omega)
theorem d4G:crE 0=0:=by decide
theorem b6K{s:BitVec 16}:∀{n:Nat},rep crE n s=0→s=0
 |0,h=>h
 |n+1,h=>c8S (b6K (n:=n) h)
theorem d0N:∀n:Nat,rep crE n 0=0
 |0=>rfl
 |n+1=>by
  show rep crE n (crE 0)=0;rw[d4G,d0N n]
def crB(b:Bool):BitVec 16:=bif b then 32768#16 else 0#16
def crS(s:BitVec 16)(b:Bool):BitVec 16:=crE (s ^^^ crB b)
def crT:List Bool→BitVec 16
 | []=>0#16
 |b::w=>crB b ^^^ (crT w >>> 1)
theorem d1l(b:Bool)(j:Nat):(crB b).getLsbD j=(b&&decide (j=15)):=by
 cases b with
 |false=>simp[crB]
 |true=>
  simp only[crB,cT,a26];rw[show(32768#16)=b21 16 (2^15)from rfl,BitVec.getLsbD_ofNat,Nat.testBit_two_pow]
  by_cases h:j=15
  subst h;rfl;rw[decide_eq_false (by omega:¬ (15=j)),decide_eq_false h,a51]
theorem b4S:∀(w:List Bool)(j:Nat),(crT w).getLsbD j=(decide (j<16)&&w.getD (15-j) false)
 | [],j=>by simp[crT]
 |b::w,j=>by
  rw[crT,BitVec.getLsbD_xor,d1l,a49,b4S w]
  by_cases h:j=15
  subst h;simp
  by_cases h2:j<16
  rw[show 15-j=(15-(1+j))+1 from by omega,a64];simp[h,h2,show 1+j<16 from by omega];simp[h,h2,show ¬ (1+j<16)from by omega]
theorem c8T{w:List Bool}(h:w.length≤15):crE (crT w >>> 1)=crT w:=by
 have k:(crT w >>> 1).msb=false:=by
  rw[a66,a49,b4S];simp
 unfold crE;rw[k,cF];refine a72 fun i f=>?_
 rw[BitVec.getLsbD_shiftLeft,a49];cases i with
 |zero=>
  have g:(crT w).getLsbD 0=false:=by
   rw[b4S,lD,List.getElem?_eq_none (by omega)];rfl
  rw[g];simp
 |succ i=>rw[show 1+(i+1-1)=i+1 from by omega];simp[f]
theorem d1X:∀(w:List Bool)(s:BitVec 16),w.length≤16→w.foldl crS s=rep crE w.length (s ^^^ crT w)
 | [],s,_=>by simp[crT,rep]
 |b::w,s,h=>by
  rw[lC]at h;rw[a78,d1X w _ (by omega),crT,←a24];show _=rep crE w.length (crE (s ^^^ crB b ^^^ (crT w >>> 1)));rw[c5a,c8T (by omega)];rfl
theorem c3t{α:Type}(f g:α→Bool):∀(L:List α)(s t:BitVec 16),(L.map fun j=>xor (f j) (g j)).foldl crS (s ^^^ t)=(L.map f).foldl crS s ^^^ (L.map g).foldl crS t
 | [],_,_=>rfl
 |a::L,s,t=>by
  simp only[List.map_cons,a78];rw[←c3t f g L];congr 1;unfold crS;rw[←c5a];congr 1
  have:crB (xor (f a) (g a))=crB (f a) ^^^ crB (g a):=by cases f a<;>cases g a<;>rfl
  rw[this];simp only[a24];rw[←a24 t,a77 t,a24]
theorem b2U:∀(n:Nat)(s:BitVec 16),(a00 n false).foldl crS s=rep crE n s
 |0,_=>rfl
 |n+1,s=>by
  rw[a90,a78,b2U n];show rep crE n (crE (s ^^^ 0#16))=rep crE n (crE s);rw[b09]
theorem d4H{w:List Bool}(h:w.length≤16)(a:true∈w)(k m:Nat):(a00 k false++(w++a00 m false)).foldl crS 0≠0:=by
 rw[a68,a68,b2U,b2U,d0N,d1X w _ h];intro e;have e:=b6K (b6K e);have e:crT w=0:=by simpa using e
 obtain⟨i,f,g⟩:=a86.1 a
 have:=b4S w (15-i)
 rw[e,show 15-(15-i)=i from by omega,lD,lG f,g]at this;simp at this;omega
def byb(c:Int):List Bool:=[7,6,5,4,3,2,1,0].map fun i=>c.toNat.testBit i
theorem c3u(a b:Int):0≤bits .u16 .xor a b∧bits .u16 .xor a b<65536:=by
 simp only[bits,a8Q];omega
def b4T(p:List Int):List Bool:=p.flatMap byb
def a1Y:a1F:=(0,0,(0,0,0,()),[],[],())
def d1Y(c:Int):Prop:=0≤c∧c<256
def a7R(p:List Int)(j:Nat):Bool:=(p.getD (j / 8) 0).toNat.testBit (7-j%8)
theorem b6L:∀p:List Int,b4T p=(a71 (8*p.length)).map (a7R p)
 | []=>rfl
 |c::p=>by
  have e:b4T (c::p)=byb c++b4T p:=rfl;rw[e,b6L p,lC,show 8*(p.length+1)=8+8*p.length from by omega,a85,pA,a63];congr 1;refine a91 fun j _=>?_
  show a7R p j=a7R (c::p) (8+j);unfold a7R;rw[show(8+j) / 8=j / 8+1 from by omega,a64,show(8+j)%8=j%8 from by omega]
structure Turn (b k i:Nat) (p0 p:List Int) (sm:Bool):Prop where
 len:p.length=p0.length
 ok:∀c∈p,d1Y c
 bit:∀j,a7R p j=xor (a7R p0 j) (decide (k≤j∧j<k+i)&&b.testBit (j-k))
 smk:sm=true↔∃t,t<i∧b.testBit t=true
 pre:p.take (k / 8)=p0.take (k / 8)
 same:sm=false→p=p0
theorem turned{p0 q:List Int}{s:Bool}(w:k<8*p0.length)(i:(b4T p0).foldl crS 0=0)(g:Turn b k (min 16 (8*p0.length-k)) p0 q s)(u:s=true):(b4T q).foldl crS 0≠0:=by
 obtain⟨n,r⟩:∃n,min 16 (8*p0.length-k)=n:=⟨_,rfl⟩;rw[r]at g;have e:b4T q=(a71 (8*p0.length)).map fun j=>xor (a7R p0 j) (decide (k≤j∧j<k+n)&&b.testBit (j-k)):=by
  rw[b6L,g.len];exact a91 fun j _=>g.bit j
 have h:=c3t (a7R p0) (fun j=>decide (k≤j∧j<k+n)&&b.testBit (j-k)) (a71 (8*p0.length)) 0 0;have a:∀x:BitVec 16,(0:BitVec 16) ^^^ x=x:=fun _=>BitVec.zero_xor;rw[a,←e,←b6L,i,a]at h;rw[h];obtain⟨m,p⟩:∃m,8*p0.length=k+(n+m):=⟨8*p0.length-k-n,by omega⟩;rw[p,a85,a85,pA,pA,pA,a63,a63,a63];have c:(a71 k).map (fun j=>decide (k≤j∧j<k+n)&&b.testBit (j-k))=a00 k false:=by
  rw[a80];refine⟨by simp,fun x f=>?_⟩;obtain⟨j,o,rfl⟩:=a99.1 f
  grind
 have d:(a71 m).map (((fun j=>decide (k≤j∧j<k+n)&&b.testBit (j-k))∘(k+·))∘(n+·))=a00 m false:=by
  rw[a80];refine⟨by simp,fun x f=>?_⟩;obtain⟨j,o,rfl⟩:=a99.1 f
  grind
 rw[c,d];refine d4H (by simp;omega) ?_ k m;obtain⟨t,l,v⟩:=g.smk.1 u;refine a99.2 ⟨t,List.mem_range.2 l,?_⟩;simp_all
theorem b2w(l:List Int)(i:Int):∀(j k:Nat)(s:Int),k+j=8→0≤s∧s<256→y0s a9C (l,s,i,(k:Int),())=some (l,rep e8 j s,i,())
 |0,k,s,h,_=>by
  obtain rfl:k=8:=by omega
  rfl
 |j+1,k,s,h,hs=>by
  have d:decide ((k:Int)<8)=true:=by grind
  have e:decide (s≥128)=(A0o .u8 s 7==(1:Int)):=by
   obtain⟨n,rfl⟩:=a01 hs.1;have e:A0o .u8 (n:Int) 7=((n / 128:Nat):Int):=by
    show a93 (n:Int) ((128:Nat):Int)=_
    grind
   grind
  rw[a0G (s':=(l,e8 s,i,((k+1:Nat):Int),())) (by
   simp only[a9C,d,cT,a0B (show k<1000000 by omega),e8,e]
   grind)]
  exact b2w l i j (k+1) (e8 s) (by omega) (c8N s)
theorem b1f(l:List Int)(i:Int):∀(j k:Nat)(s:Int),k+j=8→0≤s∧s<65536→y0s a8i (l,s,i,(k:Int),())=some (l,rep e16 j s,i,())
 |0,k,s,h,_=>by
  obtain rfl:k=8:=by omega
  rfl
 |j+1,k,s,h,hs=>by
  have d:decide ((k:Int)<8)=true:=by grind
  have e:decide (s≥32768)=(A0o .u16 s 15==(1:Int)):=by
   obtain⟨n,rfl⟩:=a01 hs.1;have e:A0o .u16 (n:Int) 15=((n / 32768:Nat):Int):=by
    show a93 (n:Int) ((32768:Nat):Int)=_
    grind
   grind
  rw[a0G (s':=(l,e16 s,i,((k+1:Nat):Int),())) (by
   simp only[a8i,d,cT,a0B (show k<1000000 by omega),e16,e]
   grind)]
  exact b1f l i j (k+1) (e16 s) (by omega) (b9V s)
theorem c4L(a b:Int):0≤bits .u8 .xor a b∧bits .u8 .xor a b<256:=by
 grind[bits,a8p]
theorem c3v(h:short l):a9U l=some (b6J l):=by
 have:=a1E (f:=a7z) (β:=Int×Unit) l (fun i (a:Int)=>(l,a,(i:Int),())) (fun a x=>.inl (g8 a x)) (fun _ _=>True) (fun a=>(a,()))
  (fun i k a _=>⟨fun c g=>by
   simp at g;subst g
   have:=b2w l (i:Int) 8 0 (bits .u8 .xor a l[i]) rfl (c4L _ _)
   simp at this;refine⟨?_,trivial⟩;simp only[a7z,dlt k,cT,a0A k,oB,this,a0B (a08 k h),g8],fun b hb=>by grind⟩)
  (fun a d=>by simp_all[a7z]) (a:=0) trivial
 unfold a9U;simp at this;rw[this,b1b];rfl
theorem b9G(h:short l):a8j l=some (b0A l):=by
 have:=a1E (f:=a6o) (β:=Int×Unit) l (fun i (a:Int)=>(l,a,(i:Int),())) (fun a x=>.inl (g16 a x)) (fun _ _=>True) (fun a=>(a,()))
  (fun i k a _=>⟨fun c g=>by
   simp at g;subst g
   have:=b1f l (i:Int) 8 0 (bits .u16 .xor a (A0n .u16 (wrap .u16 l[i]) 8)) rfl (c3u _ _)
   simp at this;refine⟨?_,trivial⟩;simp only[a6o,dlt k,cT,a0A k,oB,this,a0B (a08 k h),g16],fun b hb=>by grind⟩)
  (fun a d=>by simp_all[a6o]) (a:=0) trivial
 unfold a8j;simp at this;rw[this,b1b];rfl
theorem c8U{v:Int}(h:0≤v∧v<65536):b2F (v,2)=some [v / 256,v%256]:=by
 obtain⟨n,rfl⟩:=a01 h.1;have g:wrap .u8 (A0o .u64 (n:Int) 8)=(n:Int) / 256:=by
  grind[A0o,a6F,a8p]
 have f:wrap .u8 (A0o .u64 (n:Int) 0)=(n:Int)%256:=by
  simp_all[A0o,a8p]
 have k:a7t ((n:Int),(1:Int),([]:List Int),())=some (.inl ((n:Int),(0:Int),[(n:Int) / 256],())):=by
  simp only[a7t,show decide ((1:Int)≥0)=true from rfl,cT,show wrap .u64 (wrap .i64 (8*1))=8 from rfl,show decide ((8:Int)<0)=false from rfl,cF,a1h (show([]:List Int).length+1<2147483648 by simp),g];rfl
 have a:a7t ((n:Int),(0:Int),[(n:Int) / 256],())=some (.inl ((n:Int),(-1:Int),[(n:Int) / 256,(n:Int)%256],())):=by
  simp only[a7t,show decide ((0:Int)≥0)=true from rfl,cT,show wrap .u64 (wrap .i64 (8*0))=0 from rfl,show decide ((0:Int)<0)=false from rfl,cF,a1h (show([(n:Int) / 256]:List Int).length+1<2147483648 by simp),f];rfl
 unfold b2F;rw[show wrap .i64 (v0r (v0s (2:Int) 8) 0-1)=1 from rfl,a0G k,a0G a,a0E (b:=([(n:Int) / 256,(n:Int)%256],())) rfl];rfl
theorem c7W(c:Nat)(g:i<m)(h:v+c*2^m<18446744073709551616)(f:m≤63):a2J ((v+c*2^m:Nat):Int) i=a2J (v:Int) i:=by
 rw[a6H h (by omega),a6H (by omega) (by omega)];have e:c*2^m=(c*2^(m-i-1)*2)*2^i:=by
  rw[Nat.mul_assoc,Nat.mul_assoc,a62 2,←b00,←Nat.pow_add];congr 2;omega
 rw[e,a81 _ _ (a22 i),Nat.add_mul_mod_self_right]
theorem c7X{v m:Nat}(c:Nat)(h:v+c*2^m<18446744073709551616)(g:m≤63):∀k,k≤m→pb ((v+c*2^m:Nat):Int) k=pb (v:Int) k
 |0,_=>rfl
 |k+1,hk=>by simp only[pb];rw[c7W c (by omega) h g,c7X c h g k (by omega)]
theorem c7Y:∀(n:Nat)(B:List Int),a2q B→B.length=n→n≤62→∃v:Nat,v<2^n∧B=pb (v:Int) n
 |0,B,_,h,_=>⟨0,by decide,by rw[a37.1 h];rfl⟩
 |n+1,[],_,h,_=>by simp at h
 |n+1,b::B,hb,h,hn=>by
  obtain⟨v,hv,e⟩:=c7Y n B (fun x j=>hb x (by simp[j])) (by simpa using h) (by omega);have g:b=0∨b=1:=hb b (by simp);have hp:2^(n+1)≤2^62:=a23 (by decide) hn;have i:2^(n+1)=2^n+2^n:=by rw[b00];omega
  obtain⟨c,k,a⟩:∃c:Nat,b=(c:Int)∧c≤1:=by
   rcases g with rfl|rfl;exact⟨0,rfl,by decide⟩;exact⟨1,rfl,by decide⟩
  have d:c*2^n≤2^n:=by
   have:c=0∨c=1:=by omega
   rcases this with rfl|rfl<;>simp
  refine⟨v+c*2^n,by omega,?_⟩;have f:v+c*2^n<18446744073709551616:=by omega
  simp only[pb];rw[c7X c f (by omega) n (a32 _),←e,a6H f (by omega),a81 _ _ (a22 n),a48 hv,k];congr 1;omega
structure OkL (L:List Int):Prop where
 bits:a2q L
 len:L.length<1000000
 eight:L.length%8=0
def St(L:List Int)(r:Rd):Prop:=r.2.2.1≠0∨∃P R,P++R=L∧r=rdr P R
def Stp(L:List Int)(r r':Rd)(A:List Int):Prop:=r'.2.2.1=0→∃P R,P++(A++R)=L∧r=rdr P (A++R)∧r'=rdr (P++A) R
theorem b9H{P' R':List Int}(h:P++R=P'++R')(e:rdr P R=rdr P' R'):P=P'∧R=R':=by
 have:P.length=P'.length:=by
  have:=congrArg (fun x:Rd=>x.2.1) e
  simp only[rdr]at this;omega
 exact a20 h this
theorem Stp.trans{r'':Rd}{B:List Int}(h:Stp L r r' A)(d:Stp L r' r'' B):Stp L r r'' (A++B):=fun e=>by
 obtain⟨i,R1,a,g,b⟩:=d e;obtain⟨P,R,f,c,k⟩:=h (by rw[g];rfl);rw[g]at k;obtain⟨rfl,rfl⟩:=b9H (by rw[a,←f];simp) k;exact⟨P,R1,by rw[←f];simp,by rw[c];simp,by rw[b];simp⟩
theorem Stp.ok(h:Stp L r r' A)(g:r'.2.2.1=0):r.2.2.1=0:=by
 obtain⟨P,R,-,e,-⟩:=h g;rw[e];rfl
theorem Stp.refl(h:St L r):Stp L r r []:=fun g=>by
 rcases h with h|⟨P,R,e,rfl⟩;exact absurd g h;exact⟨P,R,by simpa using e,rfl,by simp⟩
theorem OkL.okr(h:OkL L)(e:P++R=L):OkR P R:=⟨by rw[e];exact h.bits,by rw[e];have:=h.len;omega⟩
theorem OkL.left(h:OkL L)(e:P++R=L):(wL (P++R)).1.length*8=P.length+R.length:=by
 obtain⟨-,f⟩:=a8M (P++R);have g:=h.eight;rw[←e]at g;rw[f];simp only[lN]at g⊢;omega
theorem a2h(h:r.2.2.1≠0):(r.2.2.1 != (0:Int))=true:=by simpa using h
theorem c5b(h:r.2.2.1≠0)(n:Int):a0J (r,n)=some (0,r):=by
 unfold a0J;simp only[a2h h,cT]
theorem b6M(h:r.2.2.1≠0)(n:Int):a0K (r,n)=some (0,r):=by
 unfold a0K;simp only[a2h h,cT]
theorem c4M(x y:Int):wrap .u64 (bits .u8 .and x y)=bits .u8 .and x y:=by
 show wrap .u64 (wrap .u8 _)=wrap .u8 _;rw[a8p];exact a0P (by omega)
theorem b0B(r:Rd)(i:Nat):a3r (r,(i:Int))=a0V (r,(i:Int)):=by
 unfold a3r a0V;have f:a42 (i:Int) 8=((i%8:Nat):Int):=by rw[a28 (by omega)];omega
 have h:wrap .i64 (7-((i%8:Nat):Int))=7-((i%8:Nat):Int):=a0D (by omega);have g:wrap .u64 (7-((i%8:Nat):Int))=7-((i%8:Nat):Int):=a0P (by omega);simp only[f,h,g,c4M]
theorem b9Z{v:Nat}(hv:v<9223372036854775808){n:Nat}(p:n≤62){p0:Nat}:∀(m:Nat)(P R:List Int),m≤n→p0+(n-m)=P.length→a2q (P++(pb (v:Int) m++R))→(P++(pb (v:Int) m++R)).length<1000000000→
  y0s a4x ((n:Int),((v / 2^m:Nat):Int),((n-m:Nat):Int),((wL (P++(pb (v:Int) m++R))).1,(p0:Int),(0:Int),()),())=some ((n:Int),(v:Int),((wL (P++(pb (v:Int) m++R))).1,(p0:Int),(0:Int),()),())
 |0,P,R,_,_,_,_=>by
  refine a0E ?_
  simp[a4x]
 |m+1,P,R,hm,hp,hok,hlen=>by
  have j:decide (((n-(m+1):Nat):Int)<(n:Int))=true:=by simp;omega
  have a:=b2p hok hlen (i:=P.length) (by simp[pb]) ((p0:Int),(0:Int),());rw[show(P++(pb (v:Int) (m+1)++R)).getD P.length 0=a2J v m from by simp only[pb,a70];exact d1i _ _ _]at a;have b:wrap .i64 ((p0:Int)+((n-(m+1):Nat):Int))=(P.length:Int):=by rw[a0D (by simp at hlen;omega)];omega
  have k:=a6H (v:=v) (by omega) (i:=m) (by omega);have c:v / 2^m%2<2:=a55 _ (by decide);have g:v / 2^(m+1)=v / 2^m / 2:=by rw[b00,a75]
  have l:v / 2^m≤v:=a31 _ _;have d:A0n .u64 ((v / 2^(m+1):Nat):Int) 1=((v / 2^(m+1)*2^1:Nat):Int):=b1w (o:=1) (by omega) (by rw[g];omega);have f:bits .u64 .or ((v / 2^(m+1)*2^1:Nat):Int) (a2J (v:Int) m)=((v / 2^m:Nat):Int):=by
   rw[k,orU (by rw[g];omega) c (by omega),g];congr 1;omega
  have e:wrap .i64 (((n-(m+1):Nat):Int)+1)=((n-m:Nat):Int):=by rw[a0D (by omega)];omega
  have h:P++(pb (v:Int) (m+1)++R)=(P++[a2J v m])++(pb (v:Int) m++R):=by simp[pb]
  rw[a0G (s':=((n:Int),((v / 2^m:Nat):Int),((n-m:Nat):Int),((wL (P++(pb (v:Int) (m+1)++R))).1,(p0:Int),(0:Int),()),())) (by
   simp only[a4x,j,cT,b,b0B];rw[a];simp only[oB,d,f,e])]
  rw[h];rw[b9Z hv p m (P++[a2J v m]) R (by omega) (by simp;omega) (by rw[←h];exact hok) (by rw[←h];exact hlen)]
theorem d1m(b:n≤62)(hv:v<2^n)(h:OkR P (pb (v:Int) n++R)):a0K (rdr P (pb (v:Int) n++R),(n:Int))=some ((v:Int),rdr (P++pb (v:Int) n) R):=by
 obtain⟨k,a⟩:=h;have g:v<9223372036854775808:=a97 hv (a98 (a23 (by decide) b) (by decide));have f:=b9Z g b (p0:=P.length) n P R (by omega) (by omega) k (by omega);rw[a48 hv,a61]at f;simp only[nZ,a16]at f;obtain⟨-,j⟩:=a8M (P++(pb (v:Int) n++R));have l:(P++(pb (v:Int) n++R)).length=P.length+n+R.length:=by simp[a1J];omega
 have i:wrap .i64 (wrap .i64 ((8:Int)*(((wL (P++(pb (v:Int) n++R))).1.length:Nat):Int))-(P.length:Int))=(8:Int)*(((wL (P++(pb (v:Int) n++R))).1.length:Nat):Int)-(P.length:Int):=by
  rw[a0D (n:=(8:Int)*_) (by omega),a0D (by omega)]
 have c:decide ((n:Int)<0)=false:=by simp
 have d:decide ((n:Int) > 64)=false:=by simp;omega
 have e:decide ((n:Int) > (8:Int)*(((wL (P++(pb (v:Int) n++R))).1.length:Nat):Int)-(P.length:Int))=false:=by
  simp only[decide_eq_false_iff_not];omega
 have m:wrap .i64 ((P.length:Int)+(n:Int))=(((P++pb (v:Int) n).length:Nat):Int):=by rw[a0D (by omega)];simp[a1J]
 unfold a0K a1k;simp only[rdr,bne_self_eq_false,cF,c,d,oB,i,e]
 erw[f]
 simp only[oB,m,aA]
theorem c7Z(d:n≤62)(b:OkL L)(e:P++R=L)(i:R.length<n):
  a0J (rdr P R,(n:Int))=some (0,(wL (P++R)).1,(P.length:Int),(3:Int),())∧a0K (rdr P R,(n:Int))=some (0,(wL (P++R)).1,(P.length:Int),(3:Int),()):=by
 have c:=b.left e;have a:=b.len;rw[←e]at a;simp only[lN]at a;have k:wrap .i64 (wrap .i64 ((8:Int)*(((wL (P++R)).1.length:Nat):Int))-(P.length:Int))=(R.length:Int):=by
  rw[a0D (n:=(8:Int)*_) (by omega),a0D (by omega)];omega
 have h:decide ((n:Int)<0)=false:=by simp
 have g:decide ((n:Int) > 64)=false:=by simp;omega
 have f:decide ((n:Int) > (R.length:Int))=true:=by simp;omega
 constructor;unfold a0J a2m;simp only[rdr,bne_self_eq_false,cF,h,g,oB,k,f,cT];unfold a0K a1k;simp only[rdr,bne_self_eq_false,cF,h,g,oB,k,f,cT]
theorem a1T(c:OkL L)(g:St L r)(k:n≤62):
  ∃(v:Nat)(r':Rd),v<2^n∧a0J (r,(n:Int))=some ((v:Int),r')∧a0K (r,(n:Int))=some ((v:Int),r')∧St L r'∧Stp L r r' (pb (v:Int) n):=by
 rcases g with g|⟨P,R,e,rfl⟩;exact⟨0,r,a22 n,c5b g _,b6M g _,.inl g,fun a=>absurd a g⟩
 by_cases h:n≤R.length
 have hb:a2q (R.take n):=fun b hb=>c.bits b (by rw[←e];exact a82 _ (a45 hb));obtain⟨v,hv,hp⟩:=c7Y n (R.take n) hb (by rw[a60];omega) k;have d:R=pb (v:Int) n++R.drop n:=by rw[←hp,List.take_append_drop]
 have f:=c.okr e;generalize R.drop n=R' at d;subst d;exact⟨v,_,hv,c3l k hv f,d1m k hv f,.inr ⟨_,_,by rw[←e];simp,rfl⟩,fun _=>⟨P,R',e,rfl,rfl⟩⟩;obtain⟨i,j⟩:=c7Z k c e (by omega:R.length<n);exact⟨0,_,a22 n,i,j,.inl (show(3:Int)≠0 by decide),fun a=>by cases a⟩
theorem d1n(hv:v<2^n)(k:n≤62):∃x,b4D n x∧a3s x n=(v:Int):=by
 have hp:=a22 n
 by_cases h:2*v<2^n
 refine⟨(v:Int),⟨by omega,by omega⟩,?_⟩;obtain⟨w,g,a,f⟩:=b1A k (v:Int);rw[g,f,a53 (by omega) (by omega)];refine⟨(v:Int)-((2^n:Nat):Int),⟨by omega,by omega⟩,?_⟩;obtain⟨w,g,a,f⟩:=b1A k ((v:Int)-((2^n:Nat):Int));rw[g,f,Int.sub_emod_right,a53 (by omega) (by omega)]
theorem c6V(a:n≤62){v:Int}(f:a0J (r,(n:Int))=some (v,r'))(k:a0K (r,(n:Int))=some (v,r')):a2p (r,(n:Int))=a0O (r,(n:Int)):=by
 have h:wrap .i64 (64-(n:Int))=64-(n:Int):=a0D (by omega);have g:wrap .u64 (64-(n:Int))=64-(n:Int):=a0P (by omega);unfold a2p a0O;simp only[f,k,oB];cases (r'.2.2.1 != (0:Int));simp only[cF,oB,h,g];simp only[cT,oB]
theorem c6W(h:r.2.2.1≠0)(n:Int):a0O (r,n)=some (0,r):=by
 unfold a0O;simp only[c5b h,oB,a2h h,cT]
theorem c4N(i:OkL L)(p:St L r)(f:n≤62):
  ∃(x:Int)(g:Rd),b4D n x∧a0O (r,(n:Int))=some (x,g)∧a2p (r,(n:Int))=some (x,g)∧St L g∧Stp L r g (pb (a3s x n) n):=by
 obtain⟨v,g,hv,d,l,e,k⟩:=a1T i p f;have m:=c6V f d l;have z0:b4D n 0:=by have:=a22 n;exact⟨by omega,by omega⟩
 rw[m]
 by_cases h0:g.2.2.1=0
 obtain⟨P,R,a,b,c⟩:=k h0;obtain⟨x,j,o⟩:=d1n hv f;rw[←o]at a b c k
 have:=c7O f j (i.okr a)
 rw[←b,←c]at this;exact⟨x,g,j,this,this,e,k⟩
 have:a0O (r,(n:Int))=some (0,g):=by
  unfold a0O;simp only[d,oB,a2h h0,cT]
 exact⟨0,g,z0,this,this,e,fun h=>absurd h h0⟩
theorem b1X:∀(R:List Int),a2q R→∃c R2,R=a00 c 0++R2∧(R2=[]∨∃R3,R2=1::R3)
 | [],_=>⟨0,[],rfl,.inl rfl⟩
 |b::R,h=>by
  rcases h b (by simp)with rfl|rfl;obtain⟨c,R2,e,g⟩:=b1X R fun x f=>h x (by simp[f]);exact⟨c+1,R2,by rw[e,a90];rfl,g⟩;exact⟨0,_,rfl,.inr ⟨R,rfl⟩⟩
theorem b4J(P R:List Int)(i:Nat):(P++R).getD (P.length+i) 0=R.getD i 0:=by
 simp only[lD];rw[a67 (by omega),Nat.add_sub_cancel_left]
theorem b2V{c:Nat}(h:i<c)(R:List Int):(a00 c (0:Int)++R).getD i 0=0:=by
 simp only[lD];rw[a69 (by simpa using h)];simp[h]
theorem c0A(c:Nat)(R:List Int):(a00 c (0:Int)++1::R).getD c 0=1:=by
 simp only[lD];rw[a67 (by simp)]
 simp
theorem c6X(E:OkL L)(x:St L r):
  ∃(v:Nat)(k:Rd),v≤32∧a2d (r,(32:Int))=some ((v:Int),k)∧a2C (r,(32:Int))=some ((v:Int),k)∧St L k∧Stp L r k (unB v)∧(k.2.2.1≠0→v=0):=by
 rcases x with x|⟨P,R,e,rfl⟩;refine⟨0,r,by decide,?_,?_,.inl x,fun l=>absurd l x,fun _=>rfl⟩;unfold a2d;simp only[a2h x,cT];rfl;unfold a2C;simp only[a2h x,cT];rfl
 ·have X:=E.left e;have H:=E.len;obtain⟨z,I⟩:=E.okr e;rw[←e]at H;simp only[lN]at H;obtain⟨c,R2,n,F⟩:=b1X R fun b hb=>z b (a82 _ hb);have y:R.length=c+R2.length:=by rw[n];simp
  have g:∀i,i<R.length→∀t,a0V (((wL (P++R)).1,t),((P.length+i:Nat):Int))=some (R.getD i 0,(wL (P++R)).1,t):=fun i u t=>by
   rw[←b4J P R i];exact b2p z (by omega) (by simp;omega) t
  have e8:wrap .i64 ((8:Int)*(((wL (P++R)).1.length:Nat):Int))=((P.length+R.length:Nat):Int):=by rw[a0D (by omega)];omega
  have A:wrap .i64 (((P.length+R.length:Nat):Int)-(P.length:Int))=(R.length:Int):=by rw[a0D (by omega)];omega
  have M:v0r (32:Int) (0:Int)=32:=rfl

  have U:∀i,i<c→i<32→a1f ((32:Int),(i:Int),((P.length+i:Nat):Int),rdr P R,())=some (.inl ((32:Int),((i+1:Nat):Int),((P.length+(i+1):Nat):Int),rdr P R,())):=fun i u D=>by
   have n1:(((P.length+i:Nat):Int)==((P.length+R.length:Nat):Int))=false:=by rw[beq_eq_false_iff_ne];omega
   have n2:((i:Int)==32)=false:=by rw[beq_eq_false_iff_ne];omega
   have s:R.getD i 0=0:=by rw[n];exact b2V u _
   have G:wrap .i64 ((i:Int)+1)=((i+1:Nat):Int):=a0B (by omega);have w2:wrap .i64 (((P.length+i:Nat):Int)+1)=((P.length+(i+1):Nat):Int):=by rw[a0D (by omega)];omega
   simp only[a1f,rdr,e8,n1,cF];rw[g i (by omega)];simp only[oB,s,n2,G,w2];rfl
  have V:∀i,i<c→i<32→a1v ((32:Int),(i:Int),rdr P R,())=some (.inl ((32:Int),((i+1:Nat):Int),rdr P R,())):=fun i u D=>by
   have n1:decide ((i:Int)<(R.length:Int))=true:=by simp;omega
   have n2:decide ((i:Int)≥32)=false:=by simp;omega
   have s:R.getD i 0=0:=by rw[n];exact b2V u _
   have G:wrap .i64 ((i:Int)+1)=((i+1:Nat):Int):=a0B (by omega);have w2:wrap .i64 ((P.length:Int)+(i:Int))=((P.length+i:Nat):Int):=by rw[a0D (by omega)];omega
   simp only[a1v,a1k,rdr,e8,A,n1,cT,oB,w2,b0B];rw[g i (by omega)];simp only[oB,s,n2,G];rfl
  have Q:(P.length:Int)=((P.length+0:Nat):Int):=rfl;have j:∀(m:Nat)(v:Int)(k:Rd)(w:(Rd×Unit) ⊕ (Int×Rd×Unit)),m≤c→m≤32→
    a1f ((32:Int),(m:Int),((P.length+m:Nat):Int),rdr P R,())=some (.inr (v,k,()))→
    a1v ((32:Int),(m:Int),rdr P R,())=some (.inr w)→
    (match w with|.inl a=>(0,a.1.1,a.1.2.1,(3:Int),a.1.2.2.2)|.inr b=>(b.1,b.2.1))=(v,k)→
    a2d (rdr P R,(32:Int))=some (v,k)∧a2C (rdr P R,(32:Int))=some (v,k):=fun m v k w Y N hp O K=>by
   have S:=a1o (f:=a1f) (fun i=>((32:Int),(i:Int),((P.length+i:Nat):Int),rdr P R,())) m (fun i u=>U i (by omega) (by omega)) hp;have T:=a1o (f:=a1v) (fun i=>((32:Int),(i:Int),rdr P R,())) m (fun i u=>V i (by omega) (by omega)) O;constructor;unfold a2d;simp only[show(rdr P R).2.2.1=0 from rfl,bne_self_eq_false,cF,M]
   erw[S]
   rfl
   ·unfold a2C;simp only[show(rdr P R).2.2.1=0 from rfl,bne_self_eq_false,cF,M]
    erw[T]
    simp only[oB];cases w with
    |inl a=>exact congrArg some K
    |inr b=>exact congrArg some K
  by_cases hc:c≤32
  rcases F with rfl|⟨q,rfl⟩
  
  have o:R.length=c:=by simpa using y
  have h:=j c 0 ((wL (P++R)).1,(P.length:Int),(3:Int),()) (.inl (rdr P R,())) (a32 _) hc
   (by
    have n1:(((P.length+c:Nat):Int)==((P.length+R.length:Nat):Int))=true:=by rw[beq_iff_eq];omega
    simp only[a1f,rdr,e8,n1,cT])
   (by
    have n1:decide ((c:Int)<(R.length:Int))=false:=by simp;omega
    simp only[a1v,a1k,rdr,e8,A,n1,cF,oB])
   rfl
  exact⟨0,_,by decide,h.1,h.2,.inl (show(3:Int)≠0 by decide),(fun l=>by cases l),fun _=>rfl⟩;have o:c<R.length:=by rw[y];simp
  have b1:R.getD c 0=1:=by rw[n];exact c0A _ _
  have n1:(((P.length+c:Nat):Int)==((P.length+R.length:Nat):Int))=false:=by rw[beq_eq_false_iff_ne];omega
  have p:decide ((c:Int)<(R.length:Int))=true:=by simp;omega
  have w2:wrap .i64 (((P.length+c:Nat):Int)+1)=((P.length+c+1:Nat):Int):=by rw[a0D (by omega)];omega
  have B:wrap .i64 ((P.length:Int)+(c:Int))=((P.length+c:Nat):Int):=by rw[a0D (by omega)];omega
  have d:((wL (P++R)).1,((P.length+c+1:Nat):Int),(0:Int),())=rdr (P++unB c) q:=by
   unfold rdr unB;rw[n]
   simp
   omega
  have h:=j c (c:Int) (rdr (P++unB c) q) (.inr ((c:Int),rdr (P++unB c) q,())) (a32 _) hc
   (by
    rw[←d];simp only[a1f,rdr,e8,n1,cF];rw[g c o];simp only[oB,b1,w2];rfl)
   (by
    rw[←d];simp only[a1v,a1k,rdr,e8,A,p,cT,oB,B,b0B];rw[g c o];simp only[oB,b1,B,w2];rfl)
   rfl
  have C:R=unB c++q:=by rw[n];simp[unB]
  refine⟨c,_,hc,h.1,h.2,.inr ⟨P++unB c,q,by rw[←e,C];simp,rfl⟩,fun _=>⟨P,q,by rw[←C];exact e,by rw[←C],rfl⟩,fun l=>absurd rfl l⟩;have s:R.getD 32 0=0:=by rw[n];exact b2V (by omega) _
  have n1:(((P.length+32:Nat):Int)==((P.length+R.length:Nat):Int))=false:=by rw[beq_eq_false_iff_ne];omega
  have p:decide (((32:Nat):Int)<(R.length:Int))=true:=by simp;omega
  have B:wrap .i64 ((P.length:Int)+((32:Nat):Int))=((P.length+32:Nat):Int):=by rw[a0D (by omega)];omega
  have h:=j 32 0 ((wL (P++R)).1,(P.length:Int),(2:Int),()) (.inr (0,((wL (P++R)).1,(P.length:Int),(2:Int),()),())) (by omega) (a32 _)
   (by
    simp only[a1f,rdr,e8,n1,cF];rw[g 32 (by omega)];simp only[oB,s];rfl)
   (by
    simp only[a1v,a1k,rdr,e8,A,p,cT,oB,B,b0B];rw[g 32 (by omega)];simp only[oB,s];rfl)
   rfl
  exact⟨0,_,by decide,h.1,h.2,.inl (show(2:Int)≠0 by decide),(fun l=>by cases l),fun _=>rfl⟩
inductive Rds (n:Nat):Rd→List Int→Rd→Prop
 |nil (r:Rd):Rds n r [] r
 |cons {r r1 r2:Rd} {x:Int} {l:List Int} (h1:a0O (r,(n:Int))=some (x,r1)) (h2:r.2.2.1=0→a2p (r,(n:Int))=some (x,r1)) (h:Rds n r1 l r2):Rds n r (x::l) r2
theorem b4K{L:List Int}(f:OkL L){n:Nat}(k:n≤62):∀(m:Nat){r:Rd},St L r→∃l h,Rds n r l h∧l.length=m∧(∀x∈l,b4D n x)∧St L h∧Stp L r h (sB n l)
 |0,r,hr=>⟨[],r,.nil r,rfl,by simp,hr,Stp.refl hr⟩
 |m+1,r,hr=>by
  obtain⟨x,s,e,a,b,c,d⟩:=c4N f hr k;obtain⟨l,h,i,j,o,p,q⟩:=b4K f k m c;refine⟨x::l,h,.cons a (fun _=>b) i,by simp[j],fun y g=>?_,p,?_⟩;rcases mC.1 g with rfl|g;exact e;exact o y g;exact Stp.trans d q
theorem c5c(h:Rds n r l r')(g:r.2.2.1≠0):r'=r:=by
 induction h with
 |nil=>rfl
 |cons h1 _ _ ih=>
  rw[c6W g]at h1;simp only[sj,pJ]at h1;obtain⟨-,rfl⟩:=h1;exact ih g
theorem c8a(c:N<1000000)(h:Rds n r l r'):∀(d:List Int),d.length+l.length=N→
  ∃l',y0s a1q ((N:Int),(n:Int),(d.length:Int),d,r,())=some (d++l',r',())∧(r'.2.2.1=0→l'=l):=by
 induction h with
 |nil r=>
  intro d f
  have:d.length=N:=by simpa using f
  refine⟨[],?_,fun _=>rfl⟩;rw[a07];exact a0E (by simp only[a1q,this,dge,cF])
 | @cons r r1 r2 x l h1 h2 h ih=>
  intro d f;rw[lC]at f
  by_cases h0:r.2.2.1=0
  obtain⟨l',a,b⟩:=ih (d++[x]) (by simp;omega);refine⟨x::l',?_,fun k=>by rw[b k]⟩;have g:(r.2.2.1==(0:Int))=true:=by simpa using h0
  rw[a0G (s':=((N:Int),(n:Int),(((d++[x]).length:Nat):Int),d++[x],r1,())) (by
   simp only[a1q,dlt (show d.length<N by omega),cT,g,h2 h0,oB,a1h (show d.length+1<2147483648 by omega),a0B (show d.length<1000000 by omega)]
   simp)]
  rw[a]
  simp
  have hb:=c5c (Rds.cons h1 h2 h) h0;refine⟨[],?_,fun k=>absurd k (by rw[hb];exact h0)⟩;have g:(r.2.2.1==(0:Int))=false:=by simpa using h0
  rw[hb,a07];exact a0E (by simp only[a1q,dlt (show d.length<N by omega),cT,g,cF])
theorem b4U(k:l.length<1000000)(h:Rds n r l r'):∃l',a1i (r,(l.length:Int),(n:Int))=some (l',r')∧(r'.2.2.1=0→l'=l):=by
 obtain⟨l',g,f⟩:=c8a k h [] (by simp);refine⟨l',?_,f⟩;unfold a1i;simp only[a18,nZ,a16]at g
 erw[g]
 rfl
theorem d4I(u:Nat)(h:u<18446744073709551616):bits .u64 .and (u:Int) 1=((u%2:Nat):Int):=by
 show wrap .u64 (((a04 64 (u:Int)) &&& (a04 64 1)).toNat:Int)=_;rw[a25,b05,a30,a29 h,show(a04 64 1).toNat=1 from by decide,Nat.and_one_is_mod];exact a0P (by omega)
theorem d8V{y:Nat}(g:y<9223372036854775808):bits .i64 .xor (-1) (y:Int)=-(y:Int)-1:=by
 show wrap .i64 (((a04 64 (-1)) ^^^ (a04 64 (y:Int))).toNat:Int)=_;have h:((a04 64 (-1)) ^^^ (a04 64 (y:Int))).toNat=18446744073709551615-y:=by
  rw[show a04 64 (-1)=b17 64 from by decide,a96,b04,a25,a30,a29 (by omega)]
 rw[h];simp only[wrap,IntKind.bits,IntKind.signed]
 simp
 omega
theorem c5d(b:u<18446744073709551616):b0R (u:Int)=a4F (u:Int):=by
 have a:a42 (u:Int) 2=((u%2:Nat):Int):=rfl;have f:a94 (u:Int) 2=((u / 2:Nat):Int):=rfl;have k:A0o .u64 (u:Int) 1=((u / 2:Nat):Int):=a6F (N:=u) (o:=1) (by omega);have c:wrap .u64 ((u / 2:Nat):Int)=((u / 2:Nat):Int):=a0P (by omega);have w2:wrap .i64 ((u / 2:Nat):Int)=((u / 2:Nat):Int):=a0D (by omega);unfold b0R a4F;simp only[a,f,k,c,w2,d4I u b];have g:u%2=0∨u%2=1:=by omega
 rcases g with h|h;rw[h];rfl;rw[h,d8V (by omega),a0D (n:=0-((u / 2:Nat):Int)) (by omega),a0D (n:=0-((u / 2:Nat):Int)-1) (by omega)];show some _=some _;congr 1;omega
theorem b8m(h:u<18446744073709551616):a9c (u:Int)=a3w (u:Int):=by
 unfold a9c a3w;rw[c5d h];unfold a4F;cases decide ((u:Int)≥2147483648)<;>simp only[cT,cF];cases (a42 (u:Int) 2==0)<;>simp only[cT,cF,oB]
theorem c0B(g:u<2147483648):∃x,a0C x=true∧a0S x=u:=by
 by_cases h:u%2=0
 refine⟨((u / 2:Nat):Int),a2H.2 (by omega),?_⟩;unfold a0S;rw[if_pos (by omega)];omega;refine⟨-((u / 2:Nat):Int)-1,a2H.2 (by omega),?_⟩;unfold a0S;rw[if_neg (by omega)];omega
theorem c8b(T:OkL L)(hr:St L r)(hk:k≤25)(hi:i<N)(hN:N<1000000){acc:List Int}(ha:acc.length<1000000):
  (∃x r',a0C x=true∧r'.2.2.1=0∧St L r'∧Stp L r r' (b1B k x)∧
   a1s ((k:Int),(N:Int),(i:Int),acc,r,())=some (.inl ((k:Int),(N:Int),((i+1:Nat):Int),acc++[x],r',()))∧
   a1c ((k:Int),(N:Int),(i:Int),acc,r,())=some (.inl ((k:Int),(N:Int),((i+1:Nat):Int),acc++[x],r',())))∨
  ∃(e:Int)(r':Rd),e≠0∧a1s ((k:Int),(N:Int),(i:Int),acc,r,())=some (.inr (.inr (e,[],r',())))∧
   a1c ((k:Int),(N:Int),(i:Int),acc,r,())=some (.inr (.inr (e,[],r',()))):=by
 obtain⟨q,Q,hq,F,G,Y,Z,h5⟩:=c6X T hr;have C:2^k≤33554432:=a98 (a23 (by decide) hk) (by decide);have U:=a22 k;have E:wrap .u64 (q:Int)=(q:Int):=a0P (by omega);have P:wrap .u64 (k:Int)=(k:Int):=a0P (by omega);have s:decide ((k:Int)<0)=false:=by simp
 have h:=dlt hi;have t:=a1h (show acc.length+1<2147483648 by omega);have z:=a0B (show i<1000000 by omega)
 by_cases e1:Q.2.2.1=0
 rotate_left
 
 have q0:=h5 e1;subst q0;refine .inr ⟨Q.2.2.1,Q,e1,?_,?_⟩;simp only[a1s,a3H,a0F,h,cT,F,oB,a2h e1];have d:decide (((0:Nat):Int)<32)=true:=by decide
 simp only[a1c,h,cT,G,d,P,s,cF,b6M e1,oB,a2h e1];have m:(Q.2.2.1 != (0:Int))=false:=by simpa using e1
 have h0:∀(c:Nat)(n:Nat),c≤62→(c:Int)=(n:Int)→c=n:=by omega
 by_cases hq32:q<32
 have d:decide ((q:Int)<32)=true:=by simp;omega
 obtain⟨v,r2,hv,A,B,R,S⟩:=a1T T Y (n:=k) (by omega);have w:A0n .u64 (q:Int) (k:Int)=((q*2^k:Nat):Int):=b1w (by omega) (by
  have:q*2^k≤31*33554432:=a52 (by omega) C
  omega)
 have h6:q*2^k≤31*33554432:=a52 (by omega) C;have D:wrap .u64 (((q*2^k:Nat):Int)+(v:Int))=((q*2^k+v:Nat):Int):=by rw[a0P (by omega)];omega
 have M:bits .u64 .or ((q*2^k:Nat):Int) (v:Int)=((q*2^k+v:Nat):Int):=by
  have:=orA (a:=v) (b:=q) (k:=k) hv (by omega)
  rw[Nat.add_comm,←this];show wrap .u64 (((a04 64 _ ||| a04 64 _).toNat:Nat):Int)=wrap .u64 (((a04 64 _ ||| a04 64 _).toNat:Nat):Int);rw[BitVec.or_comm]
 have V:q*2^k+v<2147483648:=by omega
 obtain⟨x,O,o⟩:=c0B V;have j:=b9S O;rw[o]at j;have f:=b8m (u:=q*2^k+v) (by omega);rw[j]at f
 by_cases e2:r2.2.2.1=0
 have l:(r2.2.2.1 != (0:Int))=false:=by simpa using e2
 refine .inl ⟨x,r2,O,e2,R,?_,?_,?_⟩;have hb:b1B k x=unB q++pb (v:Int) k:=by
  have I:a0S x / 2^k=q:=by rw[o,a62,Nat.mul_add_div U,a48 hv];omega
  have K:a0S x%2^k=v:=by rw[o,a62,Nat.mul_add_mod,a29 hv]
  unfold b1B;rw[I,if_pos hq32,K]
 rw[hb];exact Stp.trans Z S;simp only[a1s,a3H,a0F,h,cT,F,oB,m,cF,E,d,A,s,w,D,j,l,t,z,a05];simp only[a1c,h,cT,G,d,P,E,s,cF,B,oB,w,M,l,f,t,z,a05];refine .inr ⟨r2.2.2.1,r2,e2,?_,?_⟩;simp only[a1s,a3H,a0F,h,cT,F,oB,m,cF,E,d,A,s,w,D,j,a2h e2];simp only[a1c,h,cT,G,d,P,E,s,cF,B,oB,w,M,a2h e2]
 ·have X:q=32:=by omega
  subst X;have d:decide (((32:Nat):Int)<32)=false:=by decide
  obtain⟨v,r2,hv,A,B,R,S⟩:=a1T T Y (n:=32) (by omega);rw[show((32:Nat):Int)=32 from rfl]at A B
  by_cases e2:r2.2.2.1=0
  rotate_left;have g:(r2.2.2.1==(0:Int))=false:=by simpa using e2
  refine .inr ⟨r2.2.2.1,r2,e2,?_,?_⟩;simp only[a1s,a3H,a0F,h,cT,F,oB,m,cF,E,d,A,a2h e2];simp only[a1c,h,cT,G,d,cF,B,oB,g,a2h e2];have l:(r2.2.2.1 != (0:Int))=false:=by simpa using e2
  have g:(r2.2.2.1==(0:Int))=true:=by simpa using e2
  have y:A0o .u64 (v:Int) (k:Int)=((v / 2^k:Nat):Int):=a6F (by omega);have h7:v<4294967296:=hv
  by_cases hbig:v<2147483648∧32≤v / 2^k
  have p:decide ((v:Int)≥2147483648)=false:=by simp;omega
  have H:decide (((v / 2^k:Nat):Int)<32)=false:=by rw[decide_eq_false_iff_not];omega
  obtain⟨x,O,o⟩:=c0B hbig.1;have j:=b9S O;rw[o]at j;have f:=b8m (u:=v) (by omega);rw[j]at f;refine .inl ⟨x,r2,O,e2,R,?_,?_,?_⟩;have hb:b1B k x=unB 32++pb (v:Int) 32:=by
   unfold b1B;rw[o,if_neg (by omega)]
  rw[hb];exact Stp.trans Z S;simp only[a1s,a3H,a0F,h,cT,F,oB,m,cF,E,d,A,l,p,s,y,H,j,t,z,a05]
  simp
  simp only[a1c,h,cT,G,d,P,cF,B,oB,g,p,s,y,H,l,f,t,z,a05];refine .inr ⟨2,r2,by decide,?_,?_⟩
  by_cases hb1:v<2147483648
  have p:decide ((v:Int)≥2147483648)=false:=by simp;omega
  have H:decide (((v / 2^k:Nat):Int)<32)=true:=by rw[dT];omega
  simp only[a1s,a3H,a0F,h,cT,F,oB,m,cF,E,d,A,l,p,s,y,H]
  simp
  have p:decide ((v:Int)≥2147483648)=true:=by simp;omega
  simp only[a1s,a3H,a0F,h,cT,F,oB,m,cF,E,d,A,l,p]
  simp
  by_cases hb1:v<2147483648
  have p:decide ((v:Int)≥2147483648)=false:=by simp;omega
  have H:decide (((v / 2^k:Nat):Int)<32)=true:=by rw[dT];omega
  simp only[a1c,h,cT,G,d,P,cF,B,oB,g,p,s,y,H];have p:decide ((v:Int)≥2147483648)=true:=by simp;omega
  simp only[a1c,h,cT,G,d,cF,B,oB,g,p]
theorem c0C{L:List Int}(b:OkL L){k:Nat}(d:k≤25){N:Nat}(c:N<1000000):∀(m:Nat)(acc:List Int)(r:Rd),acc.length+m=N→St L r→r.2.2.1=0→
  (∃l h,l.length=m∧l.all a0C=true∧h.2.2.1=0∧St L h∧Stp L r h (b2q k l)∧
   y0s a1s ((k:Int),(N:Int),(acc.length:Int),acc,r,())=some (.inl (acc++l,h,()))∧
   y0s a1c ((k:Int),(N:Int),(acc.length:Int),acc,r,())=some (.inl (acc++l,h,())))∨
  ∃(e:Int)(h:Rd),e≠0∧y0s a1s ((k:Int),(N:Int),(acc.length:Int),acc,r,())=some (.inr (e,[],h,()))∧
   y0s a1c ((k:Int),(N:Int),(acc.length:Int),acc,r,())=some (.inr (e,[],h,()))
 |0,acc,r,hm,hr,h0=>by
  have:acc.length=N:=by omega
  refine .inl ⟨[],r,rfl,rfl,h0,hr,Stp.refl hr,?_,?_⟩;rw[a07];exact a0E (by simp only[a1s,this,dge,cF]);rw[a07];exact a0E (by simp only[a1c,this,dge,cF])
 |m+1,acc,r,hm,hr,h0=>by
  rcases c8b b hr d (N:=N) (i:=acc.length) (by omega) c (acc:=acc) (by omega)with⟨x,y,o,j,z,A,p,q⟩|⟨e,h,g,p,q⟩;have n:(acc++[x]).length=acc.length+1:=by simp
  rw[a0G p,a0G q,←n];rcases c0C b d c m (acc++[x]) y (by omega) z j with⟨l,h,s,t,u,v,w,f,a⟩|⟨e,h,g,f,a⟩;refine .inl ⟨x::l,h,by simp[s],by simp[o,t],u,v,?_,?_,?_⟩;exact Stp.trans A w;rw[f];simp;rw[a];simp;exact .inr ⟨e,h,g,f,a⟩;exact .inr ⟨e,h,g,a0E p,a0E q⟩
theorem c8c(j:OkL L)(o:k≤25)(p:m<1000000)(q:St L r)(d:r.2.2.1=0):
  (∃l h,l.length=m∧l.all a0C=true∧h.2.2.1=0∧St L h∧Stp L r h (b2q k l)∧a6R (r,(k:Int),(m:Int))=some (l,0,h)∧a5g (r,(k:Int),(m:Int))=some (l,0,h))∨
  ∃(e:Int)(h:Rd),e≠0∧a6R (r,(k:Int),(m:Int))=some ([],e,h)∧a5g (r,(k:Int),(m:Int))=some ([],e,h):=by
 have hp:a2T (k:Int)=some true:=by
  unfold a2T;rw[decide_eq_true (show(0:Int)≤k by omega),decide_eq_true (show(k:Int)≤25 by omega)];rfl
 have i:a1b (k:Int)=some true:=by
  unfold a1b;rw[decide_eq_true (show(k:Int)≥0 by omega),decide_eq_true (show(k:Int)≤25 by omega)];rfl
 have a:decide ((m:Int)<0)=false:=by simp
 have b:decide ((m:Int) > 4194304)=false:=by simp;omega
 have c:(r.2.2.1 != (0:Int))=false:=by simpa using d
 rcases c0C j o p m [] r (by simp) q d with⟨l,h,s,t,u,v,w,g,f⟩|⟨e,h,n,g,f⟩;simp only[a18,nZ,a16]at g f;refine .inl ⟨l,h,s,t,u,v,w,?_,?_⟩;unfold a6R a0F;simp only[hp,oB,bT,cF,a,b,c]
 erw[g]
 rfl;unfold a5g;simp only[i,oB,bT,cF,a,b,c]
 erw[f]
 rfl;simp only[a18,nZ,a16]at g f;refine .inr ⟨e,h,n,?_,?_⟩;unfold a6R a0F;simp only[hp,oB,bT,cF,a,b,c]
 erw[g]
 rfl;unfold a5g;simp only[i,oB,bT,cF,a,b,c]
 erw[f]
 rfl
def a4D(x:List Int):Prop:=∀b∈x,0≤b∧b<256
theorem d1Z{c:Int}(h:0≤c∧c<256):bits .u8 .and c 127=c%128:=by
 have g:∀k:Fin 256,bits .u8 .and (k.1:Int) 127=((k.1%128:Nat):Int):=by decide +kernel
 obtain⟨n,rfl⟩:=a01 h.1
 have:=g ⟨n,by omega⟩
 simp only at this;rw[this];omega
def b1g(n c:Int)(i:Nat):Int:=bits .u64 .or n (A0n .u64 (c%128) ((7*i:Nat):Int))
def b6N(c:Int)(i:Nat):Bool:=(decide (i=9)&&decide (c > 1)) || (decide (0<i)&&decide (c=0))
theorem d2a(hb:a4D t)(m:t.length<1000000000)(h:i<t.length)(l:i≤9)(n:Int):
  a1Z (n,t,(t.length:Int),(i:Int),())=bif b6N t[i] i then some (.inr (.inr (0,0,2,())))else
   bif decide (t[i]<128)then some (.inr (.inr (b1g n t[i] i,((i+1:Nat):Int),0,())))else some (.inl (b1g n t[i] i,t,(t.length:Int),((i+1:Nat):Int),())):=by
 have f:=hb t[i] (a06 h);have j:wrap .i64 (7*(i:Int))=((7*i:Nat):Int):=by rw[a0D (by omega)];omega
 have a:decide (((7*i:Nat):Int)<0)=false:=decide_eq_false (by omega);have tm:a42 t[i] 128=t[i]%128:=a28 f.1;have k:wrap .u64 (t[i]%128)=t[i]%128:=a0P (by omega);have g:=a0B (show i<1000000 by omega);simp only[a1Z,dlt h,cT,a0A h,oB];generalize t[i]=c at f tm k⊢;have b:((i:Int)==9)=decide (i=9):=by rw[a39,beq_iff_eq,dT];omega
 have d:decide ((i:Int) > 0)=decide (0<i):=by rw[a39,dT,dT];omega
 have e:(c==0)=decide (c=0):=rfl;simp only[b,d,e,b6N];generalize decide (i=9)=b1;generalize decide (c > 1)=b2;generalize decide (0<i)=b3;generalize decide (c=0)=b4;cases b1<;>cases b2<;>cases b3<;>cases b4 <;>
  simp only[cT,cF,a92,a51,Bool.or_true,Bool.or_false,oB,j,a,tm,k,g,b1g]
theorem d1o{x:List Int}(hb:a4D x)(u:x.length<1000000000){p:Nat}(k:p+i<x.length)(t:i≤9)(g n:Int):
  a1N (g,n,(i:Int),(x,(p:Int),(0:Int),()),())=bif b6N x[p+i] i then some (.inr (.inr (0,(x,(p:Int),(2:Int),()),())))else
   bif decide (x[p+i]<128)then(bif decide (b1g n x[p+i] i > g)then some (.inr (.inr (0,(x,(p:Int),(4:Int),()),())))else some (.inr (.inr (b1g n x[p+i] i,(x,((p+(i+1):Nat):Int),(0:Int),()),()))))
   else some (.inl (g,b1g n x[p+i] i,((i+1:Nat):Int),(x,(p:Int),(0:Int),()),())):=by
 have e:=hb x[p+i] (a06 k);have wp:wrap .i64 ((p:Int)+(i:Int))=((p+i:Nat):Int):=by rw[a0D (by omega)];omega
 have s:wrap .i64 (7*(i:Int))=((7*i:Nat):Int):=by rw[a0D (by omega)];omega
 have d:wrap .u64 ((7*i:Nat):Int)=((7*i:Nat):Int):=a0P (by omega);have m:decide (((7*i:Nat):Int)<0)=false:=decide_eq_false (by omega);have j:=d1Z e;have l:wrap .u64 (x[p+i]%128)=x[p+i]%128:=a0P (by omega);have b:=a0B (show i<1000000 by omega);have a:wrap .i64 (((p+i:Nat):Int)+1)=((p+(i+1):Nat):Int):=by rw[a0D (by omega)];omega
 simp only[a1N,wp,dlt k,cT,a0A k,oB];generalize x[p+i]=c at e j l⊢;have f:decide (c≥128)=!decide (c<128):=by
  by_cases h:c<128
  rw[decide_eq_true h,decide_eq_false (by omega)];rfl;rw[decide_eq_false h,decide_eq_true (by omega)];rfl
 have o:((i:Int)==9)=decide (i=9):=by rw[a39,beq_iff_eq,dT];omega
 have q:decide ((i:Int) > 0)=decide (0<i):=by rw[a39,dT,dT];omega
 have r:(c==0)=decide (c=0):=rfl;simp only[o,q,r,b6N];generalize decide (i=9)=b1;generalize decide (c > 1)=b2;generalize decide (0<i)=b3;generalize decide (c=0)=b4;cases b1<;>cases b2<;>cases b3<;>cases b4 <;>
  simp only[cT,cF,a92,a51,Bool.or_true,Bool.or_false,oB,wp,s,d,m,j,l,b,a,f,b1g] <;>
  (try (cases decide (c<128)<;>(try simp only[bT,a19,cT,cF])<;>rfl))
theorem c4O(n c:Int)(i:Nat):0≤b1g n c i:=by
 show 0≤wrap .u64 _;simp only[wrap,IntKind.bits,IntKind.signed]
 simp
 omega
theorem c0D{x:List Int}(hb:a4D x)(d:x.length<1000000000){p:Nat}(hp:p≤x.length)(g:Int):∀(m i:Nat)(n:Int),p+i+m=x.length→i≤9→
  (y0s a1Z (n,x.drop p,((x.drop p).length:Int),(i:Int),())=some (.inl ())∧
   y0s a1N (g,n,(i:Int),(x,(p:Int),(0:Int),()),())=some (.inl ((x,(p:Int),(0:Int),()),())))∨
  (y0s a1Z (n,x.drop p,((x.drop p).length:Int),(i:Int),())=some (.inr (0,0,2,()))∧
   y0s a1N (g,n,(i:Int),(x,(p:Int),(0:Int),()),())=some (.inr (0,(x,(p:Int),(2:Int),()),())))∨
  ∃(v:Int)(z:Nat),0≤v∧p+z≤x.length∧y0s a1Z (n,x.drop p,((x.drop p).length:Int),(i:Int),())=some (.inr (v,(z:Int),0,()))∧
   y0s a1N (g,n,(i:Int),(x,(p:Int),(0:Int),()),())=bif decide (v > g)then some (.inr (0,(x,(p:Int),(4:Int),()),()))else some (.inr (v,(x,((p+z:Nat):Int),(0:Int),()),()))
 |0,i,n,hm,h9=>by
  have e:(x.drop p).length=i:=by rw[a34];omega
  have wp:wrap .i64 ((p:Int)+(i:Int))=(x.length:Int):=by rw[a0D (by omega)];omega
  refine .inl ⟨a0E ?_,a0E ?_⟩;simp only[a1Z,e,dge,cF];simp only[a1N,wp,dge,cF]
 |m+1,i,n,hm,h9=>by
  have c:p+i<x.length:=by omega
  have a:i<(x.drop p).length:=by rw[a34];omega
  have k:a4D (x.drop p):=fun b h=>hb b (a44 h);have l:(x.drop p)[i]=x[p+i]:=by rw[List.getElem_drop]
  have f:=d2a k (by rw[a34];omega) a h9 n;have r2:=d1o hb d c h9 g n;rw[l]at f;have o:=hb x[p+i] (a06 c);cases hv:b6N x[p+i] i with
  |true=>
   rw[hv]at f r2;exact .inr (.inl ⟨a0E f,a0E r2⟩)
  |false=>
   rw[hv]at f r2;simp only[cF]at f r2
   by_cases h128:x[p+i]<128
   rw[decide_eq_true h128]at f r2;simp only[cT]at f r2;refine .inr (.inr ⟨b1g n x[p+i] i,i+1,c4O _ _ _,by omega,a0E f,?_⟩)
   by_cases hgt:b1g n x[p+i] i > g
   rw[decide_eq_true hgt]at r2⊢;exact a0E r2;rw[decide_eq_false hgt]at r2⊢;exact a0E r2;rw[decide_eq_false h128]at f r2;simp only[cF]at f r2;have j:i≠9:=fun h=>by
    subst h
    have:b6N x[p+9] 9=true:=by
     unfold b6N;rw[decide_eq_true (show x[p+9] > 1 by omega)];rfl
    rw[this]at hv;cases hv
   rw[a0G f,a0G r2];exact c0D hb d hp g m (i+1) (b1g n x[p+i] i) (by omega) (by omega)
@[reducible] def oP(x:List Int)(k p:Nat)(e:Int):Rd:=(x.drop k,((p:Int),(e,())))
@[reducible] def oR(x:List Int)(k p:Nat)(e:Int):Rd:=(x,(((p+k:Nat):Int),(e,())))
theorem a4H{x:List Int}(hb:a4D x)(i:x.length<1000000000){p:Nat}(hp:p+k≤x.length)(e:Int)(h:Nat):
  ∃(v p':Nat)(e':Int),v≤h∧p'+k≤x.length∧a0L (oP x k p e,(h:Int))=some ((v:Int),oP x k p' e')∧a0Y (oR x k p e,(h:Int))=some ((v:Int),oR x k p' e'):=by
 by_cases he:e=0
 rotate_left;have hb:(e != (0:Int))=true:=by simpa using he
 refine⟨0,p,e,a83 _,hp,?_,?_⟩;unfold a0L oP;simp only[hb,cT];rfl;unfold a0Y oR;simp only[hb,cT];rfl;subst he;have c:decide ((0:Int)≤(p:Int))=true:=by simp
 have d:decide ((p:Int)≤((x.drop k).length:Int))=true:=by rw[a34];simp;omega
 have a:b20 (a35 (p:Int)) (b01 (x.drop k).length (x.drop k))=x.drop (p+k):=by
  rw[a47,tN,List.drop_drop];congr 1;omega
 have z0:((0:Int) != 0)=false:=rfl;unfold a0L a0Y oP oR a8E;simp only[z0,cF,c,d,a02,cT,a];have b:=c0D hb i (p:=p+k) (by omega) (h:Int) (x.length-(p+k)) 0 0 (by omega) (by omega);simp only[nZ]at b;rcases b with⟨g,f⟩|⟨g,f⟩|⟨v,z,hv,j,g,f⟩
 erw[g,f]
 exact⟨0,p,3,a83 _,hp,rfl,rfl⟩
 erw[g,f]
 exact⟨0,p,2,a83 _,hp,rfl,rfl⟩
 erw[g,f]
 obtain⟨u,rfl⟩:=a01 hv
 by_cases hgt:(u:Int) > (h:Int)
 simp only[decide_eq_true hgt,cT];exact⟨0,p,4,a83 _,hp,by simp[hgt],rfl⟩;simp only[decide_eq_false hgt,cF];refine⟨u,p+z,0,by omega,by omega,?_,?_⟩;have w:wrap .i64 ((p:Int)+(z:Int))=((p+z:Nat):Int):=by rw[a0D (by omega)];omega
 simp[hgt,w]
 have:p+k+z=p+z+k:=by omega
 simp[this]
theorem c8V{k:Int}(f:N<1000000)(h:Rds n r l r'):∀(d:List Int),d.length+l.length=N→
  y0s a6S (k,(n:Int),(N:Int),(d.length:Int),d,r,())=some (k,(n:Int),d++l,r',()):=by
 induction h with
 |nil r=>
  intro d g
  have:d.length=N:=by simpa using g
  rw[a07];exact a0E (by simp only[a6S,this,dge,cF])
 | @cons r r1 r2 x l h1 h2 h ih=>
  intro d g;rw[lC]at g;rw[a0G (s':=(k,(n:Int),(N:Int),(((d++[x]).length:Nat):Int),d++[x],r1,())) (by
   simp only[a6S,dlt (show d.length<N by omega),cT,h1,oB,a1h (show d.length+1<2147483648 by omega),a0B (show d.length<1000000 by omega)]
   simp)]
  rw[ih (d++[x]) (by simp;omega)]
  simp
theorem c0E(g:n≤31)(h:∀x∈l,b4D n x):l.all a0C=true:=lA.2 fun x f=>by
 have hp:2^n≤2^31:=a23 (by decide) g
 have:=h x f
 unfold b4D at this;exact a2H.2 (by omega)
theorem c8W(B:OkL L)(S:St L r)(Y:m≤5000):
  (∃(k:Nat)(l:List Int)(c:Rd),kB (k:Int)=true∧l.length=m∧l.all a0C=true∧c.2.2.1=0∧St L c∧Stp L r c (b2Q (k:Int) l)∧a2f (r,(m:Int))=some ((k:Int),l,0,c)∧
   ∃g,a0K (r,(5:Int))=some ((k:Int),g)∧g.2.2.1=0∧a3J (g,(k:Int),(m:Int))=some (l,0,c))∨
  ∃(e:Int)(c:Rd)(k0:Int)(l0:List Int)(v:Nat)(g:Rd),e≠0∧v<32∧a2f (r,(m:Int))=some (k0,l0,e,c)∧a0K (r,(5:Int))=some ((v:Int),g)∧
   (g.2.2.1≠0∨(g.2.2.1=0∧∃(l1:List Int)(a:Int)(r2:Rd),a≠0∧a3J (g,(v:Int),(m:Int))=some (l1,a,r2))):=by
 obtain⟨k,g,t,o,p,M,I⟩:=a1T B S (n:=5) (by omega);have t:k<32:=t;rw[show((5:Nat):Int)=5 from rfl]at o p
 by_cases a:g.2.2.1=0
 rotate_left;refine .inr ⟨g.2.2.1,g,0,[],k,g,a,t,?_,p,.inl a⟩;simp only[a2f,a0F,o,oB,a2h a,cT];have b:(g.2.2.1 != (0:Int))=false:=by simpa using a
 have u:wrap .i64 (k:Int)=(k:Int):=a0D (by omega);have f:a1b (k:Int)=some (decide ((k:Int)≤25)):=by
  unfold a1b;rw[decide_eq_true (show(k:Int)≥0 by omega)];rfl
 by_cases hk25:k≤25
 have i:decide ((k:Int)≤25)=true:=by simp;omega
 have h:((k:Int) != 31)=true:=by simp;omega
 rw[i]at f;rcases c8c B hk25 (show m<1000000 by omega) M a with⟨l,c,x,y,E,F,R,G,H⟩|⟨e,c,O,G,H⟩;refine .inl ⟨k,l,c,?_,x,y,E,F,?_,?_,g,p,a,?_⟩;simp[kB];omega;unfold b2Q;rw[if_neg (by omega),tN];exact Stp.trans I R;simp only[a2f,a0F,o,oB,b,cF,u,i,cT,G];simp only[a3J,h,cT,f,oB,bT,cF,H];refine .inr ⟨e,c,(k:Int),[],k,g,O,t,?_,p,.inr ⟨a,[],e,c,O,?_⟩⟩;simp only[a2f,a0F,o,oB,b,cF,u,i,cT,G];simp only[a3J,h,cT,f,oB,bT,cF,H];have i:decide ((k:Int)≤25)=false:=by simp;omega
 rw[i]at f
 by_cases hk31:k=31
 rotate_left;have h:((k:Int) != 31)=true:=by simp;omega
 refine .inr ⟨2,g,0,[],k,g,by decide,t,?_,p,.inr ⟨a,[],2,g,by decide,?_⟩⟩;simp only[a2f,a0F,o,oB,b,cF,u,i,h,cT];simp only[a3J,h,cT,f,oB,a19];subst hk31;have d:((31:Nat):Int)=31:=rfl;rw[d]at o p I u i f;have h:((31:Int) != 31)=false:=by decide
 obtain⟨w,r2,P,x,y,E,F⟩:=a1T B M (n:=5) (by omega);have P:w<32:=P;rw[show((5:Nat):Int)=5 from rfl]at x y;have z:wrap .i64 (w:Int)=(w:Int):=a0D (by omega);obtain⟨l,s,Q,K,T,U,V⟩:=b4K B (n:=w) (by omega) m E;have C:=c8V (k:=(31:Int)) (N:=m) (by omega) Q [] (by simpa using K);obtain⟨l',D,X⟩:=b4U (by omega) Q;simp only[a18,nZ,a16,a09]at C;rw[K]at D;have q:short l:=by unfold short;omega
 by_cases e3:s.2.2.1=0
 rotate_left;refine .inr ⟨s.2.2.1,s,0,[],31,g,e3,t,?_,p,.inr ⟨a,[],s.2.2.1,s,e3,?_⟩⟩;simp only[a2f,a0F,o,oB,b,cF,u,i,h,x,z]
 erw[C]
 simp only[oB,a2h e3,cT];rw[d];simp only[a3J,h,cF,y,z,oB,D,a2h e3,cT];have j:(s.2.2.1 != (0:Int))=false:=by simpa using e3
 obtain rfl:=X e3
 by_cases hwd:a0H l'=w
 have A:(((a0H l':Nat):Int) != (w:Int))=false:=by simp;omega
 refine .inl ⟨31,l',s,by decide,K,c0E (by omega) T,e3,U,?_,?_,g,p,a,?_⟩;unfold b2Q;rw[if_pos (show((31:Nat):Int)=31 from rfl),hwd];exact Stp.trans I (Stp.trans F V);rw[d];simp only[a2f,a0F,o,oB,b,cF,u,i,h,x,z]
 erw[C]
 simp only[oB,j,cF,a4B q,A];rw[d];simp only[a3J,h,cF,y,z,oB,D,j,a5k q,A];have A:(((a0H l':Nat):Int) != (w:Int))=true:=by simp;omega
 refine .inr ⟨2,s,0,[],31,g,by decide,t,?_,p,.inr ⟨a,[],2,s,by decide,?_⟩⟩;simp only[a2f,a0F,o,oB,b,cF,u,i,h,x,z]
 erw[C]
 simp only[oB,j,cF,a4B q,A,cT];rw[d];simp only[a3J,h,cF,y,z,oB,D,j,a5k q,A,cT]
def b2x:Prt:=(0,[],())
theorem b1F{L:List Int}(G:OkL L){o:Int}{z0:Prt}{all:List Nat}(j:all.length≤256):∀(zs dz:List Nat)(dk acc:List Int)(r:Rd),dz++zs=all→dk.length=dz.length→acc.length+zs.sum≤5000→St L r→r.2.2.1=0→
  (∃(a l:List Int)(h:Rd),a.length=zs.length∧a.all kB=true∧l.length=zs.sum∧l.all a0C=true∧h.2.2.1=0∧St L h∧Stp L r h (a6b zs a l)∧
   y0s a2n (((a1z all).length:Int),(dz.length:Int),acc,a1z all,r,z0,(o,dk,()),())=some (.inl (acc++l,z0,(o,dk++a,()),h,()))∧
   y0s a1O ((dz.length:Int),a1z all,acc,r,z0,(o,dk,()),())=some (.inl (acc++l,z0,(o,dk++a,()),h,())))∨
  ∃(e y:Int)(h d:Rd),e≠0∧y≠0∧
   y0s a2n (((a1z all).length:Int),(dz.length:Int),acc,a1z all,r,z0,(o,dk,()),())=some (.inr (e,[],b2x,h,()))∧
   y0s a1O ((dz.length:Int),a1z all,acc,r,z0,(o,dk,()),())=some (.inr (y,[],b2x,d,()))
 | [],dz,dk,acc,r,hd,hk,hs,hr,h0=>by
  have H:(a1z all).length=dz.length:=by rw[a2y,←hd];simp
  refine .inl ⟨[],[],r,rfl,rfl,rfl,rfl,h0,hr,Stp.refl hr,?_,?_⟩;rw[a07,a07];exact a0E (by simp only[a2n,H,dge,cF]);rw[a07,a07];exact a0E (by simp only[a1O,H,dge,cF])
 |z::zs,dz,dk,acc,r,hd,hk,hs,hr,h0=>by
  rw[a89]at hs;have U:(a1z all).length=all.length:=a2y all;have S:all.length=dz.length+1+zs.length:=by rw[←hd];simp;omega
  have g:dz.length<(a1z all).length:=by omega
  have x:decide ((0:Int)≤(dz.length:Int))=true:=by simp
  have B:a40 (a1z all) dz.length 0=(z:Int):=by rw[←hd];exact c7T dz z zs
  have c:lim (dk.length+1)=true:=a1h (by omega);have u:wrap .i64 ((dz.length:Int)+1)=(((dz++[z]).length:Nat):Int):=by rw[a0D (by omega)];simp
  rcases c8W G hr (m:=z) (by omega)with⟨k,l,i,I,K,X,Y,Z,k6,p,ra,qa,qb,qc⟩|⟨e,h,k0,l0,v,i,n,hv,p,q,T⟩;have wk:wrap .i64 (k:Int)=(k:Int):=by
   have:(k:Int)≤31:=by
    simp only[kB,a73,bA,dT,beq_iff_eq]at I;omega
   exact a0D (by omega)
  have w:lim (acc.length+l.length)=true:=a1h (by omega);have E:(ra.2.2.1 != (0:Int))=false:=by simpa using qb
  rw[a0G (f:=a2n) (s':=(((a1z all).length:Int),(((dz++[z]).length:Nat):Int),acc++l,a1z all,i,z0,(o,dk++[(k:Int)],()),())) (by
   simp only[a2n,dlt g,x,a02,cT,tN,B,p,oB,bne_self_eq_false,cF,c,w,u,a05])]
  rw[a0G (f:=a1O) (s':=((((dz++[z]).length:Nat):Int),a1z all,acc++l,i,z0,(o,dk++[(k:Int)],()),())) (by
   simp only[a1O,dlt g,x,a02,cT,tN,B,qa,oB,E,wk,qc,bne_self_eq_false,cF,c,w,u,a05])]
  rcases b1F G (o:=o) (z0:=z0) j zs (dz++[z]) (dk++[(k:Int)]) (acc++l) i (by simpa using hd) (by simp[hk]) (by simp only[lN];omega) Z Y with⟨a,l2,h,M,N,g3,O,P,Q,R,g8,C⟩|⟨e,y,h,d,n,b,g8,C⟩;refine .inl ⟨(k:Int)::a,l++l2,h,by simp[M],by simp[I,N],by rw[lN,a89];omega,by rw[List.all_append,X,O];rfl,P,Q,?_,?_,?_⟩;have e:a6b (z::zs) ((k:Int)::a) (l++l2)=b2Q (k:Int) l++a6b zs a l2:=by
   simp only[a6b];rw[List.take_left' K,List.drop_left' K]
  rw[e];exact Stp.trans k6 R;rw[g8];simp;rw[C];simp;exact .inr ⟨e,y,h,d,n,b,g8,C⟩;have wv:wrap .i64 (v:Int)=(v:Int):=a0D (by omega);have b:(e != (0:Int))=true:=by simpa using n
  have hp:y0s a2n (((a1z all).length:Int),(dz.length:Int),acc,a1z all,r,z0,(o,dk,()),())=some (.inr (e,[],b2x,h,())):=
   a0E (by simp only[a2n,dlt g,x,a02,cT,tN,B,p,oB,b];rfl)
  rcases T with A|⟨A,l1,F,r2,s,V⟩;exact .inr ⟨e,i.2.2.1,h,i,n,A,hp,a0E (by simp only[a1O,dlt g,cT,q,oB,a2h A];rfl)⟩;have D:(i.2.2.1 != (0:Int))=false:=by simpa using A
  have t:(F != (0:Int))=true:=by simpa using s
  exact .inr ⟨e,F,h,r2,n,s,hp,a0E (by simp only[a1O,dlt g,x,a02,cT,tN,B,q,oB,D,wv,cF,c,V,t];rfl)⟩
theorem c6Y(x:OkL L)(E:St L r){n:Int}(g:a6d n warm=true):
  (∃(p:Prt)(l:List Int)(j:List Nat)(h:Rd),PartsOk p n warm l j∧h.2.2.1=0∧St L h∧Stp L r h (a4C p j l)∧
   a7r (r,n,warm)=some (p,l,0,h)∧a4h (r,n,warm)=some (p,l,0,h))∨
  ∃(e m:Int)(p p':Prt)(l l':List Int)(h a:Rd),e≠0∧m≠0∧a7r (r,n,warm)=some (p,l,e,h)∧a4h (r,n,warm)=some (p',l',m,a):=by
 obtain⟨o,u,y,v,w,B,C⟩:=a1T x E (n:=4) (by omega);have y:o<16:=y;rw[show((4:Nat):Int)=4 from rfl]at v w;have N:wrap .i64 (o:Int)=(o:Int):=a0D (by omega);unfold a7r a4h a0F;simp only[b4r,b7X,g,oB,bT,cF,v,w,N,b2l,a4U]
 by_cases e1:u.2.2.1=0
 rotate_left;simp only[a2h e1,cT];exact .inr ⟨_,_,_,_,_,_,_,_,e1,e1,rfl,rfl⟩;have s:(u.2.2.1 != (0:Int))=false:=by simpa using e1
 simp only[s,cF]
 by_cases hz:(a1H (o:Int) n warm).length=0
 have k:((((a1H (o:Int) n warm).length:Nat):Int)==0)=true:=by simp[hz]
 simp only[k,cT];exact .inr ⟨_,_,_,_,_,_,_,_,by decide,by decide,rfl,rfl⟩;have k:((((a1H (o:Int) n warm).length:Nat):Int)==0)=false:=by rw[beq_eq_false_iff_ne];omega
 simp only[k,cF];obtain⟨j,q,O,A⟩:=b5Q hz;have f:=g;simp only[a6d,bA,dT]at f;rw[q];rcases b1F x (o:=(o:Int)) (z0:=b2x) A j [] [] [] u rfl rfl (by simp;omega) B e1 with⟨z,l,h,F,G,P,H,I,K,M,d,i⟩|⟨e,m,h,a,D,t,d,i⟩;simp only[a18,nZ,a16,a09]at d i;have hb:a5i ((o:Int),z,()) n warm=true:=by
  unfold a5i;simp only[q,a2y,F,G,beq_self_eq_true,a02,a92];rw[q,a2y]at hz;simp[hz]
 obtain⟨b,c⟩:=PartsOk.of (p:=((o:Int),z,())) (n:=n) (warm:=warm) (l:=l) hb (by omega) H (by omega);have e:b=j:=by
  have:=c.sizes
  simp only[q]at this;rw[←a9i b,←this,a9i]
 subst e;refine .inl ⟨_,l,b,h,c,I,K,?_,?_,?_⟩;unfold a4C;exact Stp.trans C M
 erw[d]
 rfl
 erw[i]
 rfl;simp only[a18,nZ,a16]at d i;refine .inr ⟨e,m,b2x,b2x,[],[],h,a,D,t,?_,?_⟩
 erw[d]
 rfl
 erw[i]
 rfl
theorem c8X(a:N<1000000)(h:Rds n r l r'):∀(d:List Int),d.length+l.length=N→
  ∃l',y0s a1q ((N:Int),(n:Int),(d.length:Int),d,r,())=some (d++l',r',())∧l'.length≤l.length:=by
 induction h with
 |nil r=>
  intro d f
  have:d.length=N:=by simpa using f
  refine⟨[],?_,a32 _⟩;rw[a07];exact a0E (by simp only[a1q,this,dge,cF])
 | @cons r r1 r2 x l h1 h2 h ih=>
  intro d f;rw[lC]at f
  by_cases h0:r.2.2.1=0
  obtain⟨l',k,b⟩:=ih (d++[x]) (by simp;omega);refine⟨x::l',?_,by simp;omega⟩;have g:(r.2.2.1==(0:Int))=true:=by simpa using h0
  rw[a0G (s':=((N:Int),(n:Int),(((d++[x]).length:Nat):Int),d++[x],r1,())) (by
   simp only[a1q,dlt (show d.length<N by omega),cT,g,h2 h0,oB,a1h (show d.length+1<2147483648 by omega),a0B (show d.length<1000000 by omega)]
   simp)]
  rw[k]
  simp
  have hb:=c5c (Rds.cons h1 h2 h) h0;refine⟨[],?_,by simp⟩;have g:(r.2.2.1==(0:Int))=false:=by simpa using h0
  rw[hb,a07];exact a0E (by simp only[a1q,dlt (show d.length<N by omega),cT,g,cF])
theorem c8d(k:l.length<1000000)(h:Rds n r l r'):∃l',a1i (r,(l.length:Int),(n:Int))=some (l',r')∧(r'.2.2.1=0→l'=l)∧l'.length≤l.length:=by
 obtain⟨l',g,b⟩:=b4U k h;obtain⟨l2,f,a⟩:=c8X k h [] (by simp);refine⟨l',g,b,?_⟩
 have:l'=l2:=by
  unfold a1i at g;simp only[a18,nZ,a16,a09]at f
  erw[f]at g
  simp only[oB,sj,pJ]at g;exact g.1.symm
 rw[this];exact a
theorem c8e(f:N<1000000)(s:Sub)(h:Rds n r l r'):∀(d:List Int),d.length+l.length=N→
  y0s a4M ((n:Int),(N:Int),(d.length:Int),r,b1V s d,())=some ((n:Int),b1V s (d++l),r',()):=by
 induction h with
 |nil r=>
  intro d g
  have:d.length=N:=by simpa using g
  rw[a07];exact a0E (by simp only[a4M,this,dge,cF])
 | @cons r r1 r2 x l h1 h2 h ih=>
  intro d g;rw[lC]at g;rw[a0G (s':=((n:Int),(N:Int),(((d++[x]).length:Nat):Int),r1,b1V s (d++[x]),())) (by
   simp only[a4M,dlt (show d.length<N by omega),cT,h1,oB,b1V,a1h (show d.length+1<2147483648 by omega),a0B (show d.length<1000000 by omega)]
   simp)]
  rw[ih (d++[x]) (by simp;omega)]
  simp
def a9s(v:Nat)(c:List Int)(t:Int):List Int:=pb ((c.length-1:Nat):Int) 5++(pb t 4++(pb (v:Int) 5++sB v c))
theorem b2W(b:OkL L)(F:St L r)(s:Sub)(G:s.2.2.2.2.2.1=[]):
  ∃(c:List Int)(t v:Nat)(h:Rd),1≤c.length∧c.length≤32∧t<16∧v<32∧St L h∧Stp L r h (a9s v c (t:Int))∧a6Q (r,s)=some ((((a0H c:Nat):Int)==(v:Int)),h,b1V (b6H s (t:Int)) c)∧
   ∃k,a2c (r,s)=some (h,b1V (b6H s (t:Int)) k)∧(h.2.2.1=0→k=c):=by
 obtain⟨a,Q,o,l,m,D,E⟩:=a1T b F (n:=5) (by omega);obtain⟨t,r2,d,i,j,B,C⟩:=a1T b D (n:=4) (by omega);obtain⟨v,R,hv,p,q,H,I⟩:=a1T b B (n:=5) (by omega);have o:a<32:=o;have d:t<16:=d;have hv:v<32:=hv;rw[show((5:Nat):Int)=5 from rfl]at l m p q;rw[show((4:Nat):Int)=4 from rfl]at i j;obtain⟨c,h,u,w,P,K,M⟩:=b4K b (n:=v) (by omega) (a+1) H;have z:wrap .i64 (a:Int)=(a:Int):=a0D (by omega);have f:wrap .i64 ((a:Int)+1)=((a+1:Nat):Int):=a0B (by omega);have A:wrap .i64 (t:Int)=(t:Int):=a0D (by omega);have wv:wrap .i64 (v:Int)=(v:Int):=a0D (by omega);have x:=c8e (N:=a+1) (by omega) (b6H s (t:Int)) u [] (by simpa using w);obtain⟨k,y,O⟩:=b4U (by omega) u;rw[w]at y;simp only[a18,nZ,a16,a09]at x;have g:((s.1,s.2.1,s.2.2.1,(t:Int),s.2.2.2.2):Sub)=b1V (b6H s (t:Int)) []:=by
  unfold b1V b6H;rw[←G]
 refine⟨c,t,v,h,by omega,by omega,d,hv,K,?_,?_,k,?_,O⟩;have e:c.length-1=a:=by omega
 unfold a9s;rw[e];exact Stp.trans E (Stp.trans C (Stp.trans I M));simp only[a6Q,l,i,p,oB,z,f,A,wv]
 erw[g,x]
 simp only[oB];rw[show(b1V (b6H s (t:Int)) c).2.2.2.2.2.1=c from rfl,a4B (show short c by unfold short;omega)];rfl;simp only[a2c,m,j,q,oB,z,f,A,wv,y];rfl
def a5B(s:Sub)(t:List Int):Sub:=(s.1,s.2.1,s.2.2.1,s.2.2.2.1,s.2.2.2.2.1,s.2.2.2.2.2.1,t,s.2.2.2.2.2.2.2)
theorem c8Y(I:OkL L)(K:St L r)(w:Int)(s:Sub)(o:s.2.2.2.2.2.2.1=[0,0,0])(n f b:Int)(z:Sub):
  ∃(a c d:Int)(g:Rd),St L g∧Stp L r g (sB 8 [a,c,d])∧y0s a2U (w,(0:Int),r,s,())=some (w,g,a5B s [a,c,d],())∧
   ∃(l:List Int),a1i (r,(3:Int),(8:Int))=some (l,g)∧∃t,t.length=3∧y0s a1D (n,f,b,(0:Int),l,g,z,s,())=some (n,f,b,g,z,a5B s t,())∧(g.2.2.1=0→t=[a,c,d]):=by
 obtain⟨l,g,e,E,O,M,N⟩:=b4K I (n:=8) (by omega) 3 K;obtain⟨l',F,v,G⟩:=c8d (by omega) e;rw[E]at F G
 match l,E with
 | [a,c,d],_=>
  have A:wrap .i64 ((0:Int)+1)=1:=by decide
  have C:wrap .i64 ((1:Int)+1)=2:=by decide
  have w2:wrap .i64 ((2:Int)+1)=3:=by decide
  have q:decide ((0:Int)<3)=true:=by decide
  have k:decide ((0:Int)≤0)=true:=by decide
  have B:decide ((1:Int)<3)=true:=by decide
  have i:decide ((0:Int)≤1)=true:=by decide
  have D:decide ((2:Int)<3)=true:=by decide
  have m:decide ((0:Int)≤2)=true:=by decide
  have H:decide ((3:Int)<3)=false:=by decide
  refine⟨a,c,d,g,M,N,?_,l',F,?_⟩
  ·cases e with
   |cons p1 _ e=>cases e with
    |cons p2 _ e=>cases e with
     |cons p3 _ e=>
      cases e;rw[show((8:Nat):Int)=8 from rfl]at p1 p2 p3;rw[a0G (s':=(w,(1:Int),_,a5B s [a,0,0],())) (by
       simp only[a2U,q,k,a02,cT,p1,oB,A,o];rfl)]
      rw[a0G (s':=(w,(2:Int),_,a5B s [a,c,0],())) (by
       simp only[a2U,B,i,a02,cT,p2,oB,C];rfl)]
      rw[a0G (s':=(w,(3:Int),_,a5B s [a,c,d],())) (by
       simp only[a2U,D,m,a02,cT,p3,oB,w2];rfl)]
      exact a0E (by simp only[a2U,H,cF])
  ·have done:∀(t:List Int),y0s a1D (n,f,b,(l'.length:Int),l',g,z,a5B s t,())=some (n,f,b,g,z,a5B s t,()):=fun t=>
    a0E (by simp only[a1D,dge,cF])
   have p:s=a5B s [0,0,0]:=by unfold a5B;rw[←o]
   have z0:decide ((0:Int)<0)=false:=by decide
   match l',G with
   | [],_=>exact⟨[0,0,0],rfl,by rw[←p];have:=done [0,0,0];rw[←p]at this;exact this,fun h=>by cases v h⟩
   | [x],_=>
    refine⟨[x,0,0],rfl,?_,fun h=>by cases v h⟩;rw[a0G (s':=(n,f,b,(1:Int),[x],g,z,a5B s [x,0,0],()))
     (by simp only[a1D,a59,Int.natCast_one,show decide ((0:Int)<1)=true from rfl,q,k,a02,cT,A,o];rfl)]
    exact done _
   | [x,y],_=>
    refine⟨[x,y,0],rfl,?_,fun h=>by cases v h⟩;have j:((([x,y]:List Int).length:Nat):Int)=2:=rfl;rw[a0G (s':=(n,f,b,(1:Int),[x,y],g,z,a5B s [x,0,0],()))
     (by simp only[a1D,j,show decide ((0:Int)<2)=true from rfl,q,k,a02,cT,A,o];rfl)]
    rw[a0G (s':=(n,f,b,(2:Int),[x,y],g,z,a5B s [x,y,0],()))
     (by simp only[a1D,j,show decide ((1:Int)<2)=true from rfl,B,i,a02,cT,C];rfl)]
    exact done _
   | [x,y,u],_=>
    refine⟨[x,y,u],rfl,?_,fun h=>v h⟩;have j:((([x,y,u]:List Int).length:Nat):Int)=3:=rfl;rw[a0G (s':=(n,f,b,(1:Int),[x,y,u],g,z,a5B s [x,0,0],()))
     (by simp only[a1D,j,q,k,a02,cT,A,o];rfl)]
    rw[a0G (s':=(n,f,b,(2:Int),[x,y,u],g,z,a5B s [x,y,0],()))
     (by simp only[a1D,j,B,i,a02,cT,C];rfl)]
    rw[a0G (s':=(n,f,b,(3:Int),[x,y,u],g,z,a5B s [x,y,u],()))
     (by simp only[a1D,j,D,m,a02,cT,w2];rfl)]
    exact done _
   |_::_::_::_::_,h=>simp at h
def b4L(s:Sub)(g:List Stg):Sub:=(s.1,s.2.1,s.2.2.1,s.2.2.2.1,s.2.2.2.2.1,s.2.2.2.2.2.1,s.2.2.2.2.2.2.1,g,s.2.2.2.2.2.2.2.2)
theorem b8n{L:List Int}(l:OkL L)(w:Int)(ok:Bool)(s:Sub)(n j b:Int)(z:Sub){N:Nat}(G:N<1000):∀(m:Nat)(d:List Stg)(r:Rd),d.length+m=N→St L r→
  ∃(g:List Stg)(h:Rd),g.length=m∧St L h∧Stp L r h (b1W g)∧
   y0s a5u (w,ok,(N:Int),(d.length:Int),r,b4L s d,())=some (w,ok,b4L s (d++g),h,())∧
   y0s a6r (n,j,b,(N:Int),(d.length:Int),r,z,b4L s d,())=some (n,j,b,h,z,b4L s (d++g),())
 |0,d,r,hm,hr=>by
  have:d.length=N:=by omega
  refine⟨[],r,rfl,hr,Stp.refl hr,?_,?_⟩;rw[a07];exact a0E (by simp only[a5u,this,dge,cF]);rw[a07];exact a0E (by simp only[a6r,this,dge,cF])
 |m+1,d,r,hm,hr=>by
  obtain⟨a,P,x,u,v,E,F⟩:=a1T l hr (n:=5) (by omega);obtain⟨t,r2,y,p,q,C,D⟩:=a1T l E (n:=4) (by omega);have x:a<32:=x;have y:t<16:=y;rw[show((5:Nat):Int)=5 from rfl]at u v;rw[show((4:Nat):Int)=4 from rfl]at p q;have A:wrap .i64 (a:Int)=(a:Int):=a0D (by omega);have i:wrap .i64 ((a:Int)+1)=(a:Int)+1:=a0D (by omega);have B:wrap .i64 (t:Int)=(t:Int):=a0D (by omega);have k:=dlt (show d.length<N by omega);have f:=a1h (show d.length+1<2147483648 by omega);have o:wrap .i64 ((d.length:Int)+1)=(((d++[((a:Int)+1,(t:Int),())]).length:Nat):Int):=by rw[a0D (by omega)];simp
  have c:wrap .u64 ((d.length:Int)+1)=(((d++[((a:Int)+1,(t:Int),())]).length:Nat):Int):=by rw[a0P (by omega)];simp
  obtain⟨g,h,H,I,K,M,O⟩:=b8n l w ok s n j b z G m (d++[((a:Int)+1,(t:Int),())]) r2 (by simp;omega) C;refine⟨((a:Int)+1,(t:Int),())::g,h,by simp[H],I,?_,?_,?_⟩;have e:b1W (((a:Int)+1,(t:Int),())::g)=pb (a:Int) 5++(pb (t:Int) 4++b1W g):=by simp[b1W]
  rw[e];exact Stp.trans F (Stp.trans D K);rw[a0G (s':=(w,ok,(N:Int),(((d++[((a:Int)+1,(t:Int),())]).length:Nat):Int),r2,b4L s (d++[((a:Int)+1,(t:Int),())]),())) (by
   simp only[a5u,k,cT,u,oB,p,b4L,f,A,i,B,c,a05])]
  rw[M]
  simp
  rw[a0G (s':=(n,j,b,(N:Int),(((d++[((a:Int)+1,(t:Int),())]).length:Nat):Int),r2,z,b4L s (d++[((a:Int)+1,(t:Int),())]),())) (by
   simp only[a6r,k,cT,v,oB,q,b4L,f,A,i,B,o,a05])]
  rw[O]
  simp
def c5e(z15:Int×(Int×Int×Rd×Sub×Sub×Unit)):Option (Sub×Int×Rd):=
 bif z15.2.2.2.1.2.2.1 != (0:Int)then some ((a7b 0),z15.2.2.2.1.2.2.1,z15.2.2.2.1)
 else(
 (a5Y (z15.2.2.2.2.2.1,z15.1)).bind fun y16=>
 bif decide (y16<(0:Int))then some ((a7b 0),(2:Int),z15.2.2.2.1)
 else(
 (a1i (z15.2.2.2.1,y16,z15.2.2.1)).bind fun y17=>
 bif y17.2.2.2.1 != (0:Int)then some ((a7b 0),y17.2.2.2.1,y17.2)
 else(
 (show Option ((Int×Int×Rd×Sub×Sub×Unit) ⊕ (Int×Sub×Rd×Unit))from
 (a3x z15.2.2.2.2.2.1.1).bind fun y18=>
 bif y18 then(
 (a4h (y17.2,z15.1,y16)).bind fun y19=>
 bif y19.2.2.1 != (0:Int)then some (Sum.inr ((y19.2.2.1,(a7b 0),y19.2.2.2,())))
 else some (Sum.inl (z15.1,z15.2.1,y19.2.2.2,z15.2.2.2.2.1,(z15.2.2.2.2.2.1.1,z15.2.2.2.2.2.1.2.1,z15.2.2.2.2.2.1.2.2.1,z15.2.2.2.2.2.1.2.2.2.1,z15.2.2.2.2.2.1.2.2.2.2.1,z15.2.2.2.2.2.1.2.2.2.2.2.1,z15.2.2.2.2.2.1.2.2.2.2.2.2.1,z15.2.2.2.2.2.1.2.2.2.2.2.2.2.1,y17.1,y19.1,y19.2.1,z15.2.2.2.2.2.1.2.2.2.2.2.2.2.2.2.2.2),())))
 else some (Sum.inl (z15.1,z15.2.1,y17.2,z15.2.2.2.2.1,(z15.2.2.2.2.2.1.1,z15.2.2.2.2.2.1.2.1,z15.2.2.2.2.2.1.2.2.1,z15.2.2.2.2.2.1.2.2.2.1,z15.2.2.2.2.2.1.2.2.2.2.1,z15.2.2.2.2.2.1.2.2.2.2.2.1,z15.2.2.2.2.2.1.2.2.2.2.2.2.1,z15.2.2.2.2.2.1.2.2.2.2.2.2.2.1,y17.1,z15.2.2.2.2.2.1.2.2.2.2.2.2.2.2.2),()))).bind fun z20=>
 match z20 with
 |.inl a21=>(
 (show Option (Bool×Sub×Sub×Rd×Unit)from
 (a3n ((([]:(List Int)),()),a21.2.2.2.2.1,a21.1)).bind fun y23=>
 bif y23.1 != (0:Int)then some (true,a21.2.2.2.1,a21.2.2.2.2.1,a21.2.2.1,())
 else(
 (a3R (y23.2,a21.2.2.1,a21.2.1)).bind fun y24=>
 some (!y24.1,a21.2.2.2.1,a21.2.2.2.2.1,y24.2.2,()))).bind fun z25=>
 bif z25.1 then some ((a7b 0),(2:Int),z25.2.2.2.1)
 else some (z25.2.2.1,(0:Int),z25.2.2.2.1))
 |.inr b22=>some (b22.2.1,b22.1,b22.2.2.1))))
def mkS(k w o t g:Int)(c p:List Int)(st:List Stg):Sub:=(k,w,o,t,g,c,p,st,[],(0,[],()),[],())
def a6u(v:Nat)(s:Sub):List Int:=
 if s.1=2 then pb s.2.2.1 3
 else if s.1=3 then a9s v s.2.2.2.2.2.1 s.2.2.2.1
 else if s.1=4 then pb (s.2.2.2.2.1-1) 10++(sB 8 s.2.2.2.2.2.2.1++a9s v s.2.2.2.2.2.1 s.2.2.2.1)
 else if s.1=5 then pb ((s.2.2.2.2.2.2.2.1.length:Nat):Int) 2++b1W s.2.2.2.2.2.2.2.1
 else[]
structure HeadOk (s:Sub) (w v:Nat):Prop where
 width:w<32
 cw:v<32
 same:s.1≠3∧s.1≠4→v=a0H s.2.2.2.2.2.1
 bare:s=Ab.bare s
 small:SmallS s
 coefs:s.2.2.2.2.2.1.length≤32
theorem c8f(a:OkL L)(hr:St L r){n:Int}(n1:1≤n)(n2:n≤4096):
  ∃(s s':Sub)(w v:Nat)(k:Rd),HeadOk s w v∧St L k∧Stp L r k (pb s.1 3++(pb s.2.1 5++(pb (w:Int) 5++a6u v s)))∧
   a2G r=some (s,(w:Int),(((a0H s.2.2.2.2.2.1:Nat):Int)==(v:Int)),k)∧
   a2g (r,n)=c5e (n,r.2.1,(w:Int),k,a7b 0,s',())∧(k.2.2.1=0→s'=s):=by
 obtain⟨K,r1,hK,a1,D,a3,G⟩:=a1T a hr (n:=3) (by omega);obtain⟨W,r2,hW,b1,b2,b3,b4⟩:=a1T a a3 (n:=5) (by omega);obtain⟨B,r3,C,E,F,H,I⟩:=a1T a b3 (n:=5) (by omega);have hK:K<8:=hK;have hW:W<32:=hW;have C:B<32:=C;rw[show((3:Nat):Int)=3 from rfl]at a1 D;rw[show((5:Nat):Int)=5 from rfl]at b1 b2 E F;have m:wrap .i64 (K:Int)=(K:Int):=a0D (by omega);have o:wrap .i64 (W:Int)=(W:Int):=a0D (by omega);have j:wrap .i64 (B:Int)=(B:Int):=a0D (by omega);have M:decide (n<1)=false:=by simp;omega
 have P:decide (n > 4096)=false:=by simp;omega
 have hk:K=2∨K=3∨K=4∨K=5∨(K≠2∧K≠3∧K≠4∧K≠5):=by omega
 rcases hk with rfl|rfl|rfl|rfl|⟨k2,k3,k4,k5⟩;obtain⟨O,X,hO,p,q,R,S⟩:=a1T a H (n:=3) (by omega);have hO:O<8:=hO;rw[show((3:Nat):Int)=3 from rfl]at p q;have wO:wrap .i64 (O:Int)=(O:Int):=a0D (by omega);have f:(((2:Nat):Int)==2)=true:=rfl;refine⟨mkS 2 (W:Int) (O:Int) 0 0 [] [0,0,0] [],_,B,0,X,⟨C,by decide,fun _=>rfl,rfl,⟨by simp[mkS],rfl,by simp[mkS],by simp[mkS],by simp[mkS],by simp[mkS]⟩,by simp[mkS]⟩,R,?_,?_,?_,fun _=>rfl⟩;exact Stp.trans G (Stp.trans b4 (Stp.trans I S));simp only[a2G,a1,b1,E,oB,m,o,j,f,cT,p,wO];rfl;simp only[a2g,M,P,cF,D,b2,F,oB,m,o,j,f,cT,q,wO];rfl;have f:(((3:Nat):Int)==2)=false:=rfl;have d:(((3:Nat):Int)==3)=true:=rfl;have i:(((3:Nat):Int)==4)=false:=rfl;obtain⟨c,t,v,k,q1,q2,q3,q4,q5,q6,q7,c',V,q9⟩:=b2W a H (mkS ((3:Nat):Int) (W:Int) 0 0 0 [] [0,0,0] []) rfl;refine⟨mkS 3 (W:Int) 0 (t:Int) 0 c [0,0,0] [],mkS 3 (W:Int) 0 (t:Int) 0 c' [0,0,0] [],B,v,k,⟨C,q4,fun h=>absurd rfl h.1,rfl,⟨by simp[mkS];omega,rfl,by simp[mkS],by simp[mkS],by simp[mkS],by simp[mkS]⟩,q2⟩,q5,?_,?_,?_,fun h=>by rw[q9 h]⟩;exact Stp.trans G (Stp.trans b4 (Stp.trans I q6));simp only[a2G,a1,b1,E,oB,m,o,j,f,d,i,cT,cF]
 erw[q7]
 rfl;simp only[a2g,M,P,cF,D,b2,F,oB,m,o,j,f,d,cT]
 erw[V]
 rfl;have f:(((4:Nat):Int)==2)=false:=rfl;have d:(((4:Nat):Int)==3)=false:=rfl;have i:(((4:Nat):Int)==4)=true:=rfl;obtain⟨A,X,hA,p,q,R,S⟩:=a1T a H (n:=10) (by omega);have hA:A<1024:=hA;rw[show((10:Nat):Int)=10 from rfl]at p q;have wA:wrap .i64 (A:Int)=(A:Int):=a0D (by omega);have U:wrap .i64 ((A:Int)+1)=(A:Int)+1:=a0D (by omega);obtain⟨x,y,z,u,Y,t2,t3,l,Z,tl,t5,t6,t7⟩:=c8Y a R (B:Int) (mkS ((4:Nat):Int) (W:Int) 0 0 ((A:Int)+1) [] [0,0,0] []) rfl n r.2.1 (B:Int) (a7b 0);obtain⟨c,t,v,k,q1,q2,q3,q4,q5,q6,q7,c',V,q9⟩:=b2W a Y (mkS ((4:Nat):Int) (W:Int) 0 0 ((A:Int)+1) [] [x,y,z] []) rfl;obtain⟨c0,t0,v0,r0,u1,u2,u3,u4,u5,u6,u7,u8,u9,h4⟩:=b2W a Y (mkS ((4:Nat):Int) (W:Int) 0 0 ((A:Int)+1) [] tl []) rfl;have T:∃s',a2c (u,mkS ((4:Nat):Int) (W:Int) 0 0 ((A:Int)+1) [] tl [])=some (k,s')∧(k.2.2.1=0→s'=mkS 4 (W:Int) 0 (t:Int) ((A:Int)+1) c [x,y,z] []):=by
  by_cases h0:u.2.2.1=0
  rw[t7 h0];exact⟨_,V,fun h=>by rw[q9 h];rfl⟩;have hb:∀s0:Sub,a2c (u,s0)=some (u,b1V (b6H s0 0) []):=fun s0=>by
   have h1:a1i (u,wrap .i64 (wrap .i64 0+1),wrap .i64 0)=some ([],u):=by
    have e0:(u.2.2.1==(0:Int))=false:=by simpa using h0
    unfold a1i;rw[a0E (b:=([],u,())) (by
     simp only[a1q,show decide ((0:Int)<wrap .i64 (wrap .i64 0+1))=true from by decide,cT,e0,cF])]
    rfl
   simp only[a2c,b6M h0,oB,h1];rfl
  have e:=V;rw[hb]at e;simp only[sj,pJ]at e;obtain⟨rfl,-⟩:=e;exact⟨_,hb _,fun h=>absurd h h0⟩
 obtain⟨s',h2,h3⟩:=T;refine⟨mkS 4 (W:Int) 0 (t:Int) ((A:Int)+1) c [x,y,z] [],s',B,v,k,⟨C,q4,fun h=>absurd rfl h.2,rfl,⟨by simp[mkS];omega,rfl,by simp[mkS],by simp[mkS],by simp[mkS],by simp[mkS]⟩,q2⟩,q5,?_,?_,?_,h3⟩;have e:a6u v (mkS 4 (W:Int) 0 (t:Int) ((A:Int)+1) c [x,y,z] [])=pb (A:Int) 10++(sB 8 [x,y,z]++a9s v c (t:Int)):=by
  show pb ((A:Int)+1-1) 10++_=_;rw[show(A:Int)+1-1=(A:Int)from by omega];rfl
 rw[e];exact Stp.trans G (Stp.trans b4 (Stp.trans I (Stp.trans S (Stp.trans t2 q6))));simp only[a2G,a1,b1,E,oB,m,o,j,f,i,cT,cF,p,wA,U]
 erw[t3]
 simp only[oB]
 erw[q7]
 rfl;simp only[a2g,M,P,cF,D,b2,F,oB,m,o,j,f,d,i,cT,q,wA,U,Z]
 erw[t6]
 simp only[oB]
 erw[h2]
 rfl;have f:(((5:Nat):Int)==2)=false:=rfl;have d:(((5:Nat):Int)==3)=false:=rfl;have i:(((5:Nat):Int)==4)=false:=rfl;have Q:(((5:Nat):Int)==5)=true:=rfl;obtain⟨N,X,hN,p,q,R,S⟩:=a1T a H (n:=2) (by omega);have hN:N<4:=hN;rw[show((2:Nat):Int)=2 from rfl]at p q;have wN:wrap .i64 (N:Int)=(N:Int):=a0D (by omega);obtain⟨g,k,Y,t2,t3,Z,t5⟩:=b8n a (B:Int) true (mkS ((5:Nat):Int) (W:Int) 0 0 0 [] [0,0,0] []) n r.2.1 (B:Int) (a7b 0) (N:=N) (by omega) N [] X (by simp) R;simp only[a18,nZ,a16,a09]at Z t5;refine⟨mkS 5 (W:Int) 0 0 0 [] [0,0,0] g,_,B,0,k,⟨C,by decide,fun _=>rfl,rfl,⟨by simp[mkS],rfl,by simp[mkS];omega,by simp[mkS],by simp[mkS],by simp[mkS]⟩,by simp[mkS]⟩,t2,?_,?_,?_,fun _=>rfl⟩;have e:a6u 0 (mkS 5 (W:Int) 0 0 0 [] [0,0,0] g)=pb (N:Int) 2++b1W g:=by
  show pb ((g.length:Nat):Int) 2++_=_;rw[Y];rfl
 rw[e];exact Stp.trans G (Stp.trans b4 (Stp.trans I (Stp.trans S t3)));simp only[a2G,a1,b1,E,oB,m,o,j,f,d,i,Q,cT,cF,p]
 erw[Z]
 rfl;simp only[a2g,M,P,cF,D,b2,F,oB,m,o,j,f,d,i,Q,cT,q,wN]
 erw[t5]
 rfl;have f:((K:Int)==2)=false:=by rw[beq_eq_false_iff_ne];omega
 have d:((K:Int)==3)=false:=by rw[beq_eq_false_iff_ne];omega
 have i:((K:Int)==4)=false:=by rw[beq_eq_false_iff_ne];omega
 have Q:((K:Int)==5)=false:=by rw[beq_eq_false_iff_ne];omega
 refine⟨mkS (K:Int) (W:Int) 0 0 0 [] [0,0,0] [],_,B,0,r3,⟨C,by decide,fun _=>rfl,rfl,⟨by simp[mkS],rfl,by simp[mkS],by simp[mkS],by simp[mkS],by simp[mkS]⟩,by simp[mkS]⟩,H,?_,?_,?_,fun _=>rfl⟩;have e:a6u 0 (mkS (K:Int) (W:Int) 0 0 0 [] [0,0,0] [])=[]:=by
  unfold a6u mkS;simp only;rw[if_neg (by omega),if_neg (by omega),if_neg (by omega),if_neg (by omega)]
 rw[e,a07];exact Stp.trans G (Stp.trans b4 I);simp only[a2G,a1,b1,E,oB,m,o,j,f,d,i,Q,cF];rfl;simp only[a2g,M,P,cF,D,b2,F,oB,m,o,j,f,d,i,Q];rfl
theorem c3w(g:n≤62)(hv:v<2^n)(k:w<2^n)(h:pb (v:Int) n=pb (w:Int) n):v=w:=by
 have hp:2^n≤2^62:=a23 (by decide) g;have ok:∀u:Nat,u<2^n→OkR [] (pb (u:Int) n++[]):=fun u b=>⟨by simpa using c6Q (v:=u) (by omega) n (by omega),by simp[a1J];omega⟩;have f:=c3l g hv (ok v hv);have a:=c3l g k (ok w k);rw[h,a]at f;simp only[sj,pJ]at f;omega
theorem d0O(i:w<32)(hv:v<32)(f:a0H s.2.2.2.2.2.2.2.2.1<32)(g:a0H s.2.2.2.2.2.1<32)(d:s.1≠3∧s.1≠4→v=a0H s.2.2.2.2.2.1)(X:List Int):
  ((b1C s++a9j s)++(sB (a0H s.2.2.2.2.2.2.2.2.1) s.2.2.2.2.2.2.2.2.1++X)=(pb s.1 3++(pb s.2.1 5++(pb (w:Int) 5++a6u v s)))++(sB w s.2.2.2.2.2.2.2.2.1++X))↔(a0H s.2.2.2.2.2.2.2.2.1=w∧a0H s.2.2.2.2.2.1=v):=by
 have c:∀u,a0H s.2.2.2.2.2.1=u→a6u u s=a9j s:=fun u e=>by
  unfold a6u a9j b1c a9s;rw[e]
 constructor;intro h;unfold b1C at h;simp only[aA]at h;obtain⟨-,h⟩:=a20 h rfl;obtain⟨-,h⟩:=a20 h rfl;obtain⟨hp,h⟩:=a20 h (by rw[a1J,a1J]);have k:=c3w (n:=5) (by omega) f i hp;refine⟨k,?_⟩
 by_cases h3:s.1=3
 unfold a9j a6u b1c a9s at h;rw[if_neg (by omega),if_pos h3,if_neg (by omega),if_pos h3]at h;simp only[aA]at h;obtain⟨-,h⟩:=a20 h rfl;obtain⟨-,h⟩:=a20 h rfl;obtain⟨hp,h⟩:=a20 h (by rw[a1J,a1J]);exact c3w (n:=5) (by omega) g hv hp
 by_cases h4:s.1=4
 unfold a9j a6u b1c a9s at h;rw[if_neg (by omega),if_neg (by omega),if_pos h4,if_neg (by omega),if_neg (by omega),if_pos h4]at h;simp only[aA]at h;obtain⟨-,h⟩:=a20 h rfl;obtain⟨-,h⟩:=a20 h rfl;obtain⟨-,h⟩:=a20 h rfl;obtain⟨-,h⟩:=a20 h rfl;obtain⟨hp,h⟩:=a20 h (by rw[a1J,a1J]);exact c3w (n:=5) (by omega) g hv hp;exact(d ⟨h3,h4⟩).symm
 rintro⟨a,b⟩
 rw[c v b,←a];unfold b1C;simp only[aA]
theorem d1p(f:a2q L)(a:L.length<1000000000)(k:i<L.length):∃x,m0k (wL L).1 (wrap .i64 (a94 (i:Int) 8))=some x∧bits .u8 .and (A0o .u8 x (wrap .i64 (7-a42 (i:Int) 8))) 1=L.getD i 0:=by
 have h:=b2p f a k ((0:Int),(0:Int),());have b:a42 (i:Int) 8=((i%8:Nat):Int):=by rw[a28 (by omega)];omega
 have g:decide (wrap .i64 (7-a42 (i:Int) 8)<0)=false:=by rw[b,a0D (by omega)];simp;omega
 unfold a0V at h;simp only[g,cF]at h;cases hx:m0k (wL L).1 (wrap .i64 (a94 (i:Int) 8))with
 |none=>rw[hx]at h;cases h
 |some x=>
  rw[hx]at h;simp only[oB,sj,pJ]at h;exact⟨x,rfl,h.1⟩
theorem b3k{L P A R B:List Int}(d:OkL L)(e:P++(A++R)=L)(s:B.length=A.length)(k:Rd)(t:k=rdr (P++A) R):∀(m i:Nat),i+m=B.length→(∀j,j<i→B.getD j 0=A.getD j 0)→
  y0s a3D ((P.length:Int),(i:Int),(B,()),k,())=some (if B=A then .inl ((B,()),k,())else .inr (false,(B,()),k,()))
 |0,i,hm,hj=>by
  have C:i=B.length:=by omega
  subst C;have e:B=A:=by
   apply List.ext_getElem s;intro j r y
   have:=hj j r
   simpa[lD,r,y]using this
  rw[if_pos e];exact a0E (by simp only[a3D,dge,cF])
 |m+1,i,hm,hj=>by
  have l:i<B.length:=by omega
  have v:decide ((0:Int)≤(i:Int))=true:=by simp
  have E:=d.len;have b:P.length+i<L.length:=by rw[←e];simp;omega
  have D:wrap .i64 ((P.length:Int)+(i:Int))=((P.length+i:Nat):Int):=by rw[a0D (by omega)];omega
  obtain⟨x,p,c⟩:=d1p d.bits (by omega) b;have n:k.1=(wL L).1:=by rw[t,←e];simp[rdr]
  have u:a42 ((P.length+i:Nat):Int) 8=(((P.length+i)%8:Nat):Int):=by rw[a28 (by omega)];omega
  have q:wrap .i64 (7-(((P.length+i)%8:Nat):Int))=7-(((P.length+i)%8:Nat):Int):=a0D (by omega);have w:wrap .u64 (7-(((P.length+i)%8:Nat):Int))=7-(((P.length+i)%8:Nat):Int):=a0P (by omega);have g:decide (7-(((P.length+i)%8:Nat):Int)<0)=false:=by simp;omega
  have z:L.getD (P.length+i) 0=A.getD i 0:=by
   rw[←e,b4J];simp only[lD];rw[a69 (by omega)]
  rw[u,q,z]at c;have f:a3D ((P.length:Int),(i:Int),(B,()),k,())=bif (B.getD i 0 != A.getD i 0)then some (.inr (.inr (false,(B,()),k,())))else some (.inl ((P.length:Int),((i+1:Nat):Int),(B,()),k,())):=by
   have o:wrap .i64 ((i:Int)+1)=((i+1:Nat):Int):=by rw[a0D (by omega)];omega
   simp only[a3D,dlt l,v,a02,cT,D,n,p,oB,u,q,w,g,cF,tN,c,o]
  by_cases hb:B.getD i 0=A.getD i 0
  have a:(B.getD i 0 != A.getD i 0)=false:=by simpa using hb
  rw[a]at f;rw[a0G f];exact b3k d e s k t m (i+1) (by omega) fun j h=>by
   by_cases hji:j=i
   rw[hji];exact hb;exact hj j (by omega)
  have a:(B.getD i 0 != A.getD i 0)=true:=by simpa using hb
  rw[a]at f
  have:B≠A:=fun h=>hb (by rw[h])
  rw[if_neg this];exact a0E f
theorem c4P{B:List Int}(k:OkL L)(e:P++(A++R)=L)(b:B.length<1000000000):a3R ((B,()),rdr (P++A) R,(P.length:Int))=some (decide (B=A),(B,()),rdr (P++A) R):=by
 have d:=k.len;have a:P.length+A.length≤L.length:=by rw[←e];simp only[lN];omega
 have c:wrap .i64 ((rdr (P++A) R).2.1-(P.length:Int))=(A.length:Int):=by
  show wrap .i64 (((P++A).length:Int)-(P.length:Int))=_;rw[lN,a0D (by omega)];omega
 unfold a3R a8n;simp only[oB,c]
 by_cases hB:B.length=A.length
 have g:(((B.length:Nat):Int) != (A.length:Int))=false:=by simp;omega
 have f:=b3k k e hB _ rfl B.length 0 (by omega) (fun j h=>by omega);simp only[nZ]at f;simp only[g,cF]
 erw[f]
 by_cases hBA:B=A
 rw[if_pos hBA,decide_eq_true hBA];rfl;rw[if_neg hBA,decide_eq_false hBA];rfl;have g:(((B.length:Nat):Int) != (A.length:Int))=true:=by simp;omega
 have:B≠A:=fun h=>hB (by rw[h])
 simp only[g,cT,decide_eq_false this]
theorem c8Z{wd:Nat}(f:N<1000000)(n:Int)(ok:Bool)(z s:Sub)(h:Rds wd r l r'):∀(d:List Int),d.length+l.length=N→
  y0s a8e (n,(wd:Int),ok,(N:Int),(d.length:Int),r,z,a1e s d,())=some (n,(wd:Int),ok,r',z,a1e s (d++l),()):=by
 induction h with
 |nil r=>
  intro d g
  have:d.length=N:=by simpa using g
  rw[a07];exact a0E (by simp only[a8e,this,dge,cF])
 | @cons r r1 r2 x l h1 h2 h ih=>
  intro d g;rw[lC]at g;rw[a0G (s':=(n,(wd:Int),ok,(N:Int),(((d++[x]).length:Nat):Int),r1,z,a1e s (d++[x]),())) (by
   simp only[a8e,dlt (show d.length<N by omega),cT,h1,oB,a1e,a1h (show d.length+1<2147483648 by omega),a0B (show d.length<1000000 by omega)]
   simp)]
  rw[ih (d++[x]) (by simp;omega)]
  simp
def a5C(s:Sub)(p:Prt)(l:List Int):Sub:=(s.1,s.2.1,s.2.2.1,s.2.2.2.1,s.2.2.2.2.1,s.2.2.2.2.2.1,s.2.2.2.2.2.2.1,s.2.2.2.2.2.2.2.1,s.2.2.2.2.2.2.2.2.1,p,l,s.2.2.2.2.2.2.2.2.2.2.2)
theorem c0F(j:OkL L)(e:P++(A++R)=L)(h:SmallS s)(n:Int)(m:s.1≠0∧s.1≠1→PartsOk s.2.2.2.2.2.2.2.2.2.1 n ((s.2.2.2.2.2.2.2.2.1.length:Nat):Int) s.2.2.2.2.2.2.2.2.2.2.1 zn):
  ∃(q:Int)(B:List Int),a3n ((([]:List Int),()),s,n)=some (q,B,())∧((a1R s n).isSome=false→q=1)∧
   ((a1R s n).isSome=true→q=0∧a3R ((B,()),rdr (P++A) R,(P.length:Int))=some (decide (a5n s zn=A),(B,()),rdr (P++A) R)):=by
 obtain⟨q,B,a,p,b,c,d⟩:=c6N h (n:=n) (L:=[]) (by simp);refine⟨q,B,a,fun h=>(d h).1,fun f=>?_⟩;obtain⟨rfl,o,i,g⟩:=c f;have l:=c4F f;have k:B=a5n s zn:=by
  rw[i,c4H l g]
  by_cases hk:s.1=0∨s.1=1
  unfold a5n;rw[if_pos hk,if_pos hk];rfl;rw[c7J (g (not_or.1 hk)) (m (not_or.1 hk))];rfl
 refine⟨rfl,?_⟩;rw[c4P j e (by simp at b;omega),k]
end Go.Ab
