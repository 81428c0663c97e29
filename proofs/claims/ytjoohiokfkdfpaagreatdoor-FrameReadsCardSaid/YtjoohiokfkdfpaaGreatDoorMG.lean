/- Part of the proof: PA. Conditions: as each statement tells. -/
import Derived.KernelRfl
import Derived.Test.YtjoohiokfkdfpaaGreatDoorMF
noncomputable section
set_option linter.unusedSimpArgs false
set_option linter.unusedVariables false
open BitVec renaming ofInt→a04,xor_assoc→a23,ofInt_natCast→a24,toNat_ofNat→a29,getLsbD_ushiftRight→a47,toNat_ofInt→a63,msb_eq_getLsbD_last→a64,eq_of_getLsbD_eq→a70,toNat_or→a72,xor_comm→a75,allOnes_xor→a94,toNat_not→b02,toNat_and→b03,xor_zero→b07,allOnes→b08,getLsbD→b09,ofNat→b18
open Bool renaming and_self→a02,not_false→a18,true_and→a25,eq_iff_iff→a37,and_false→a49,eq_false_iff→a52,or_eq_true→a71,and_eq_true_iff→a85,and_true→a90,not_eq_true'→b00
open Int renaming eq_ofNat_of_zero_le→a01,cast_ofNat_Int→a16,tmod_eq_emod_of_nonneg→a27,toNat→a33,tmod→a40,emod_eq_of_lt→a51,fdiv→a91,tdiv→a92
open List renaming replicate→a00,drop_eq_getElem_cons→a03,getElem_mem→a05,append_eq→a06,append_nil→a07,nil_append→a09,length_nil→a17,append_inj→a19,zipWith→a26,length_drop→a32,all_cons→a34,length_eq_zero_iff→a35,take_of_length_le→a36,getD→a38,replicate_succ'→a41,mem_of_mem_drop→a42,mem_of_mem_take→a43,drop_length→a44,take_length→a45,take_succ_eq_append_getElem→a54,getElem_zip→a55,eq_nil_or_concat→a56,length_singleton→a57,length_take→a58,map_map→a61,getD_cons_succ→a62,getElem?_append_right→a65,foldl_append→a66,getElem?_append_left→a67,cons_append→a68,range→a69,set→a74,foldl_cons→a76,set_append_right→a77,eq_replicate_iff→a78,mem_append_right→a80,drop_zero→a82,range_add→a83,mem_iff_getElem→a84,sum_cons→a87,replicate_succ→a88,map_congr_left→a89,set_cons_zero→a93,mem_map→a97,take→a99,length_set→b05,drop→b17
open Nat renaming lt_trans→a08,two_pow_pos→a20,pow_le_pow_right→a22,mod_eq_of_lt→a28,div_le_self→a30,le_refl→a31,two_pow_add_eq_or_of_lt→a39,div_eq_of_lt→a46,lt_of_le_of_lt→a48,mul_le_mul→a50,mod_lt→a53,sub_self→a59,mul_comm→a60,div_div_eq_div_mul→a73,add_mul_div_right→a79,zero_le→a81,mul_le_mul_right→a86,lt_of_lt_of_le→a95,le_trans→a96,pow_succ→a98,or_lt_two_pow→b01,div_add_mod→b04,min_eq_left→b06
namespace Go.Ab
variable {A L P R l row t:List Int}{N a b i k m n o u v w:Nat}{c:List (List Int)}{lag sign warm x:Int}{zn:List Nat}{α:Type}
open IntKind(wrap)
section
variable {σ β:Type} {f:σ→Option (σ ⊕ β)}
theorem b1Q:∀(n m:Nat)(s:σ){b:β},j0z f n s=some b→j0z f (n+m) s=some b
 |0,_,s,b,h=>by simp[j0z]at h
 |n+1,m,s,b,h=>by
  rw[show n+1+m=n+m+1 from by omega];simp only[j0z]at h⊢
  split at h
  cases h;rename_i s' g;exact b1Q n m s' h;exact h
theorem b8e{s:σ}{b b':β}(h:j0z f n s=some b)(k:j0z f m s=some b'):b=b':=by
 have a:=b1Q n m s h;have g:=b1Q m n s k;rw[Nat.add_comm,a]at g;exact Option.some.inj g
theorem c6c{s:σ}{b:β}(h:j0z f n s=some b):v0v f s=some b:=by
 unfold v0v;have g:∃n b,j0z f n s=some b:=⟨n,b,h⟩;rw[dif_pos g];exact congrArg some (b8e g.choose_spec.choose_spec h)
theorem b7O{s:σ}{b:β}(h:j0z f n s=some b):y0s f s=some b:=by
 unfold y0s;split;rename_i g hb;rw[b8e hb h];exact c6c h
theorem b8f{s:σ}(h:∀n,j0z f n s=none):y0s f s=none:=by
 unfold y0s;rw[h 400];show v0v f s=none;unfold v0v;rw[dif_neg]
 rintro⟨n,b,g⟩
 rw[h n]at g;cases g
theorem a0E{s:σ}{b:β}(h:f s=some (.inr b)):y0s f s=some b:=b7O (n:=1) (by simp[j0z,h])
theorem a0G{s s':σ}(h:f s=some (.inl s')):y0s f s=y0s f s':=by
 by_cases hx:∃n b,j0z f n s'=some b
 obtain⟨n,b,hb⟩:=hx;rw[b7O hb];exact b7O (n:=n+1) (by simp[j0z,h,hb])
 ·have g:∀n,j0z f n s'=none:=fun n=>by
   cases hn:j0z f n s' with
   |none=>rfl
   |some b=>exact absurd ⟨n,b,hn⟩ hx
  rw[b8f g];refine b8f fun n=>?_
  cases n with
  |zero=>rfl
  |succ n=>simp[j0z,h,g n]
theorem c2L(S:Nat→σ)(n:Nat){b:β}(g:∀i,i<n→f (S i)=some (.inl (S (i+1))))(h:f (S n)=some (.inr b)):∀(k:Nat),k≤n→y0s f (S (n-k))=some b
 |0,_=>a0E h
 |k+1,hk=>by
  rw[a0G (g (n-(k+1)) (by omega)),show n-(k+1)+1=n-k from by omega];exact c2L S n g h k (by omega)
theorem a1F(S:Nat→σ)(n:Nat){b:β}(g:∀i,i<n→f (S i)=some (.inl (S (i+1))))(h:f (S n)=some (.inr b)):y0s f (S 0)=some b:=by
 have:=c2L S n g h n (a31 _)
 rwa [a59]at this
end
theorem a0D{n:Int}(h:-9223372036854775808≤n∧n≤9223372036854775807):wrap .i64 n=n:=by
 simp only[wrap,IntKind.bits,IntKind.signed]
 simp
 split<;>omega
theorem a0O{n:Int}(h:0≤n∧n<18446744073709551616):wrap .u64 n=n:=by
 simp only[wrap,IntKind.bits,IntKind.signed]
 simp
 omega
theorem a7S(n:Int):wrap .u8 n=n%256:=by
 simp[wrap,IntKind.bits,IntKind.signed]
theorem c2M(x y:Int):v0s x y=min x y:=by
 simp only[v0s,cond_eq_ite,dT]
 split<;>omega
theorem c2N(x y:Int):v0r x y=max x y:=by
 simp only[v0r,cond_eq_ite,dT]
 split<;>omega
theorem a1u(h:n<2147483648):lim n=true:=by simp[lim,h]
section
variable {α A σ β:Type}
def a3M(g:A→α→A ⊕ β):List α→A→A ⊕ β
 | [],a=>.inl a
 |x::r,a=>match g a x with
  |.inl a'=>a3M g r a'
  |.inr b=>.inr b
def b3f(fin:A→β):A ⊕ β→β
 |.inl a=>fin a
 |.inr b=>b
theorem b1s{f:σ→Option (σ ⊕ β)}(l:List α)(S:Nat→A→σ)(g:A→α→A ⊕ β)(I:Nat→A→Prop)(e:A→β)
  (d:∀i (h:i<l.length) a,I i a→(∀a',g a l[i]=.inl a'→f (S i a)=some (.inl (S (i+1) a'))∧I (i+1) a')∧(∀b,g a l[i]=.inr b→f (S i a)=some (.inr b)))
  (c:∀a,I l.length a→f (S l.length a)=some (.inr (e a))):∀(k i:Nat)(a:A),i+k=l.length→I i a→y0s f (S i a)=some (b3f e (a3M g (l.drop i) a))
 |0,i,a,hi,ha=>by
  obtain rfl:i=l.length:=by omega
  rw[a44];exact a0E (c a ha)
 |k+1,i,a,hi,ha=>by
  have j:i<l.length:=by omega
  rw[a03 j];obtain⟨m,n⟩:=d i j a ha;simp[a3M];cases hg:g a l[i]with
  |inl a'=>
   obtain⟨o,p⟩:=m a' hg;rw[a0G o];exact b1s l S g I e d c k (i+1) a' (by omega) p
  |inr b=>exact a0E (n b hg)
theorem a1z{f:σ→Option (σ ⊕ β)}(l:List α)(S:Nat→A→σ)(g:A→α→A ⊕ β)(I:Nat→A→Prop)(k:A→β)
  (d:∀i (h:i<l.length) a,I i a→(∀a',g a l[i]=.inl a'→f (S i a)=some (.inl (S (i+1) a'))∧I (i+1) a')∧(∀b,g a l[i]=.inr b→f (S i a)=some (.inr b)))
  (c:∀a,I l.length a→f (S l.length a)=some (.inr (k a))){a:A}(e:I 0 a):y0s f (S 0 a)=some (b3f k (a3M g l a)):=by
 have:=b1s l S g I k d c l.length 0 a (by omega) e
 simp_all
theorem a0Z{f:σ→Option (σ ⊕ β)}(l:List α)(S:Nat→σ)(p:α→Bool){bt bf:β}
  (k:∀i (h:i<l.length),p l[i]=true→f (S i)=some (.inl (S (i+1))))(b:∀i (h:i<l.length),p l[i]=false→f (S i)=some (.inr bf))
  (g:f (S l.length)=some (.inr bt)):y0s f (S 0)=some (bif l.all p then bt else bf):=by
 have h:=a1z (A:=Unit) l (fun i _=>S i) (fun _ x=>bif p x then .inl ()else .inr bf) (fun _ _=>True) (fun _=>bt) (fun i h a _=>?_) (fun _ _=>g) (a:=()) trivial
 ·rw[h];congr 1;clear h k b g
  induction l with
  |nil=>rfl
  |cons x l ih=>
   simp[a3M];cases p x with
   |true=>simp_all
   |false=>rfl
 grind
end
theorem a0A{α:Type}{l:List α}{i:Nat}(h:i<l.length):m0k l (i:Int)=some l[i]:=by
 simp_all[m0k]
def a0B(x:Int):Bool:=decide (-1073741824≤x)&&decide (x<1073741824)
theorem a2v{x:Int}:a0B x=true↔-1073741824≤x∧x<1073741824:=by simp[a0B]
def short{α:Type}(l:List α):Prop:=l.length<1000000
theorem a0C{i:Nat}(h:i<1000000):wrap .i64 ((i:Int)+1)=((i+1:Nat):Int):=by
 grind[a0D]
theorem dlt(h:i<n):decide ((i:Int)<(n:Int))=true:=by simp_all
theorem dge(n:Nat):decide ((n:Int)<(n:Int))=false:=by simp
theorem a8m{l:List Int}(a:short l):a2r l=some (l.all a0B):=by
 unfold a2r
 have:=a0Z (f:=a2F) l (fun i=>(l,(l.length:Int),(i:Int),())) a0B (bt:=Sum.inl ()) (bf:=Sum.inr (false,()))
  (fun i h hp=>by
   have hp:=a2v.1 hp;have g:decide (l[i] < -1073741824)=false:=by simp_all
   have k:decide (l[i]≥1073741824)=false:=by simp_all
   simp only[a2F,dlt h,cT,a0A h,oB,g,k,cF,a0C (a08 h a)])
  (fun i h hp=>by
   simp only[a2F,dlt h,cT,a0A h,oB]
   grind[a0B])
  (by simp[a2F])
 grind
theorem a8n(x:Int):a3P x=some (a0B x):=by
 grind[a3P,a0B]
theorem a9K(x:Int):a5F x=some (a0B x):=by
 grind[a5F,a0B]
theorem a7k(x:Int):a4G x=some (a0B x):=by
 grind[a4G,a0B]
theorem a1N(x:Int):a1S x=some (a0B x):=by
 grind[a1S,a0B]
theorem b7P(x:Int):a3O x=some (a0B x):=by
 grind[a3O,a0B]
theorem a9k(g:short l):a2b l=some (l.all a0B):=by
 unfold a2b
 have:=a0Z (f:=a2z) l (fun i=>(l,(l.length:Int),(i:Int),())) a0B (bt:=Sum.inl ()) (bf:=Sum.inr (false,()))
  (fun i h hp=>by simp[a2z,a0A h,a8n,hp,a0C (a08 h g),h])
  (fun i h hp=>by simp_all[a2z,a0A,a8n])
  (by simp[a2z])
 grind
theorem b6o(g:short l):a3s l=some (l.all a0B):=by
 unfold a3s
 have:=a0Z (f:=a3h) l (fun i=>(l,(l.length:Int),(i:Int),())) a0B (bt:=Sum.inl ()) (bf:=Sum.inr (false,()))
  (fun i h hp=>by simp[a3h,a0A h,a9K,hp,a0C (a08 h g),h])
  (fun i h hp=>by simp_all[a3h,a0A,a9K])
  (by simp[a3h])
 grind
theorem b5c(g:short l):a3T l=some (l.all a0B):=by
 unfold a3T
 have:=a0Z (f:=a2P) l (fun i=>(l,(l.length:Int),(i:Int),())) a0B (bt:=Sum.inl ()) (bf:=Sum.inr (false,()))
  (fun i h hp=>by simp[a2P,a0A h,a7k,hp,a0C (a08 h g),h])
  (fun i h hp=>by simp_all[a2P,a0A,a7k])
  (by simp[a2P])
 grind
theorem a1p(g:short l):a1q l=some (l.all a0B):=by
 unfold a1q
 have:=a0Z (f:=a4b) l (fun i=>(l,(i:Int),())) a0B (bt:=Sum.inl ()) (bf:=Sum.inr (false,()))
  (fun i h hp=>by simp[a4b,a0A h,a1N,hp,a0C (a08 h g),h])
  (fun i h hp=>by simp_all[a4b,a0A,a1N])
  (by simp[a4b])
 grind
theorem a9e(h:short l):a2h l=some (l.all a0B):=by
 have e:b0B=a2F:=rfl
 have:a2h l=a2r l:=by rfl
 simp_all[a8m]
def b0J(x:Int):Bool:=decide (-32768≤x)&&decide (x<32768)
def a6p(c:List Int)(s:Int):Bool:=decide (1≤c.length)&&(decide (c.length≤32)&&(decide (0≤s)&&(decide (s≤15)&&c.all b0J)))
theorem a9f{c:List Int}{s:Int}(a:short c):a3A (c,s)=some (a6p c s):=by
 have:=a0Z (f:=a3S) c (fun i=>(c,(c.length:Int),(i:Int),())) b0J (bt:=Sum.inl ()) (bf:=Sum.inr (false,()))
  (fun i h hp=>by
   simp[b0J]at hp;have g:¬ c[i] < -32768:=by omega
   have k:¬ c[i]≥32768:=by omega
   simp[a3S,a0A h,a0C (a08 h a),h,g,k])
  (fun i h hp=>by
   grind[b0J,a3S,a0A])
  (by simp[a3S])
 simp at this;unfold a3A a6p
 grind
theorem a5g{c:List Int}{s:Int}(a:short c):a2X (c,s)=some (a6p c s):=by
 have:=a0Z (f:=a2Q) c (fun i=>(c,s,(i:Int),())) b0J (bt:=Sum.inl (c,s,())) (bf:=Sum.inr (false,()))
  (fun i h hp=>by
   simp[b0J]at hp;have g:¬ c[i] < -32768:=by omega
   have k:¬ c[i]≥32768:=by omega
   simp[a2Q,a0A h,a0C (a08 h a),h,g,k])
  (fun i h hp=>by
   grind[b0J,a2Q,a0A])
  (by simp[a2Q])
 simp at this;unfold a2X a6p
 grind
def b5d(x:Int):Bool:=decide (-64≤x)&&decide (x≤64)
def a8I(lag:Int)(t:List Int):Bool:=decide (2≤lag)&&(decide (lag≤1024)&&t.all b5d)
theorem b4x(g:t.length=3):a6x (lag,t)=some (a8I lag t):=by
 have:=a0Z (f:=a5l) t (fun i=>(t,(i:Int),())) b5d (bt:=Sum.inl ()) (bf:=Sum.inr (false,()))
  (fun i h hp=>by
   simp[b5d]at hp
   grind[a5l,a0A,a0C])
  (fun i h hp=>by
   grind[b5d,a5l,a0A])
  (by simp_all[a5l])
 simp at this;unfold a6x a8I
 grind
theorem b1t{t:List Int}{lag:Int}(g:t.length=3):a5y (lag,t)=some (a8I lag t):=by
 have:=a0Z (f:=a3G) t (fun i=>(lag,(i:Int),t,())) b5d (bt:=Sum.inl (lag,())) (bf:=Sum.inr (false,()))
  (fun i h hp=>by
   simp[b5d]at hp
   grind[a3G,a0A,a0C])
  (fun i h hp=>by
   grind[b5d,a3G,a0A])
  (by simp_all[a3G])
 simp at this;unfold a5y a8I
 grind
def stageB(s:Int×(Int×Unit)):Bool:=decide (1≤s.1)&&(decide (s.1≤32)&&(decide (0≤s.2.1)&&decide (s.2.1≤8)))
def a7a(l:List (Int×Int×Unit)):Bool:=decide (l.length≤3)&&l.all stageB
theorem a8o(s:Int×(Int×Unit)):a5m s=some (stageB s):=by
 grind[a5m,stageB]
theorem a7T(s:Int×(Int×Unit)):a4L s=some (stageB s):=by
 grind[a4L,stageB]
theorem b3g{l:List (Int×Int×Unit)}(g:short l):a5E l=some (a7a l):=by
 have:=a0Z (f:=a4E) l (fun i=>(l,(l.length:Int),(i:Int),())) stageB (bt:=Sum.inl ()) (bf:=Sum.inr (false,()))
  (fun i h hp=>by simp[a4E,a0A h,a8o,hp,a0C (a08 h g),h])
  (fun i h hp=>by simp_all[a4E,a0A,a8o])
  (by simp[a4E])
 simp at this;unfold a5E a7a
 grind
theorem b0K{l:List (Int×Int×Unit)}(g:short l):a4M l=some (a7a l):=by
 have:=a0Z (f:=a3k) l (fun i=>(l,(i:Int),())) stageB (bt:=Sum.inl (l,())) (bf:=Sum.inr (false,()))
  (fun i h hp=>by simp[a3k,a0A h,a7T,hp,a0C (a08 h g),h])
  (fun i h hp=>by simp_all[a3k,a0A,a7T])
  (by simp[a3k])
 simp at this;unfold a4M a7a;rw[this];cases l.all stageB with
 |false=>simp
 |true=>
  by_cases h:l.length≤3
  all_goals grind
@[reducible] def W(n:Int):Int:=wrap .i64 n
theorem b0L(n:Int):wrap .i64 n=Int.bmod n 18446744073709551616:=by
 grind[wrap,IntKind.bits,IntKind.signed]
theorem c4Y{n:Int}(h:a0B n=true):W n=n:=by
 grind[a2v,a0D]
def a3N(guess:List Int→Int):List Int→List Int→Option (List Int)
 | [],out=>some out
 |x::r,out=>bif a0B (W (x+guess out))then a3N guess r (out++[W (x+guess out)])else none
def a6g{β:Type}(guess:List Int→Int)(bad:β)(out:List Int)(x:Int):List Int ⊕ β:=bif a0B (W (x+guess out))then .inl (out++[W (x+guess out)])else .inr bad
theorem a5h{β:Type}(h:List Int→Int)(g:β)(f:List Int→β):∀(l out:List Int),b3f f (a3M (a6g h g) l out)=match a3N h l out with|some r=>f r|none=>g
 | [],out=>rfl
 |x::l,out=>by
  simp[a3M,a6g,a3N];cases a0B (W (x+h out))with
  |true=>simp_all[a5h]
  |false=>rfl
theorem a9s(g:List Int→Int):∀(l out r:List Int),out.all a0B=true→a3N g l out=some r→r.all a0B=true∧r.length=out.length+l.length
 | [],out,r,h,e=>by simp_all[a3N]
 |x::l,out,r,h,e=>by
  simp[a3N]at e;cases hw:a0B (W (x+g out))with
  |true=>
   rw[hw]at e;obtain⟨f,k⟩:=a9s g l _ r (by simp_all) e
   grind
  |false=>simp_all
def a3I:Option (List Int)→List Int×Int
 |some r=>(r,0)
 |none=>([],6)
def atB(out:List Int)(i:Nat):Int:=out.getD (out.length-i) 0
def a4q(o:Nat)(out:List Int):Int:=match o with
 | 1=>atB out 1
 | 2=>2*atB out 1-atB out 2
 | 3=>3*atB out 1-3*atB out 2+atB out 3
 | 4=>4*atB out 1-6*atB out 2+4*atB out 3-atB out 4
 |_=>0
theorem a9t{out:List Int}(f:1≤i)(h:i≤out.length)(g:short out):a1b ((i:Int),out)=some (atB out i,out):=by
 unfold a1b;have g:out.length<1000000:=g
 grind[a0D,a0A,atB]
theorem b7Q{out:List Int}(e:o≤4)(h:o≤out.length)(a:short out):∃g,a7d (out,(o:Int))=some g∧∀x,W (x+g)=W (x+a4q o out):=by
 have f:=fun(h':1≤out.length)=>a9t (i:=1) (by omega) h' a;have k:=fun(h':2≤out.length)=>a9t (i:=2) (by omega) h' a;have b:=fun(h':3≤out.length)=>a9t (i:=3) (by omega) h' a;have c:=fun(h':4≤out.length)=>a9t (i:=4) (by omega) h' a;simp at f k b c;unfold a7d;have d:o=0∨o=1∨o=2∨o=3∨o=4:=by omega
 rcases d with rfl|rfl|rfl|rfl|rfl;exact⟨0,rfl,fun x=>rfl⟩;exact⟨_,by simp[f (by omega)];rfl,fun x=>rfl⟩;refine⟨_,by simp[f (by omega),k (by omega)];rfl,fun x=>?_⟩;simp_all[b0L,a4q];refine⟨_,by simp[f (by omega),k (by omega),b (by omega)];rfl,fun x=>?_⟩;simp_all[b0L,a4q];refine⟨_,by simp[f (by omega),k (by omega),b (by omega),c (by omega)];rfl,fun x=>?_⟩;simp_all[b0L,a4q]
theorem a0T(h:n<1000000):lim n=true:=a1u (by omega)
theorem b9m{warm rest:List Int}(u:o≤4)(x:warm.length=o)(w:rest.length<100000):
  a7D (warm,rest,(o:Int))=some (a3I (bif warm.all a0B&&rest.all a0B then a3N (a4q o) rest warm else none)):=by
 have c:short warm:=by unfold short;omega
 have m:short rest:=by unfold short;omega
 unfold a7D;have p:¬ (o:Int)<0:=by omega
 have q:¬ (o:Int) > 4:=by omega
 have r:(((warm.length:Nat):Int) != (o:Int))=false:=by simp_all
 simp only[p,q,r,decide_false,cF,oB,a9e c,a9e m];cases hw1:warm.all a0B with
 |false=>rfl
 |true=>
  simp only[bT,cF,oB,a25];cases hw2:rest.all a0B with
  |false=>rfl
  |true=>
   simp[a0T c]
   have:=a1z (f:=a5Q) rest (fun i out=>((o:Int),rest,(rest.length:Int),(i:Int),out,())) (a6g (a4q o) (Sum.inr ((6:Int),([]:List Int),())))
    (fun i out=>o≤out.length∧out.length≤o+i) (fun out=>Sum.inl (out,()))
    (fun i h out s=>by
     have j:i<1000000:=by omega
     have l:short out:=by unfold short;omega
     obtain⟨g,t,d⟩:=b7Q u s.1 l;have e:wrap .i64 (rest[i]+g)=W (rest[i]+a4q o out):=d _;have k:a2h [W (rest[i]+a4q o out)]=some (a0B (W (rest[i]+a4q o out))):=by rw[a9e (by simp[short])];simp
     simp only[a5Q,dlt h,cT,a0A h,oB,t,e,k,a6g];cases hb:a0B (W (rest[i]+a4q o out))with
     |true=>
      simp only[cT,bT,cF,a0T (show out.length+1<1000000 by omega),a0C j];refine⟨fun v n=>?_,fun b hb=>(by grind)⟩;simp at n;subst n;exact⟨rfl,by grind,by grind⟩
     |false=>
      simp)
    (fun out _=>by simp[a5Q]) (a:=warm) ⟨by omega,by omega⟩
   simp[a5h]at this;rw[this];cases a3N (a4q o) rest warm<;>rfl
def a9g(o:Nat):List Int:=match o with
 | 1=>[1]
 | 2=>[2,-1]
 | 3=>[3,-3,1]
 | 4=>[4,-6,4,-1]
 |_=>[]
theorem c4Z(g:o≤4):a9J (o:Int)=some (a9g o):=by
 have h:o=0∨o=1∨o=2∨o=3∨o=4:=by omega
 rcases h with rfl|rfl|rfl|rfl|rfl<;>rfl
theorem c2p{o:Nat}(g:o≤4):(a9g o).length=o:=by
 have h:o=0∨o=1∨o=2∨o=3∨o=4:=by omega
 rcases h with rfl|rfl|rfl|rfl|rfl<;>rfl
def b3h(o:Nat)(out:List Int)(x:Int):Nat→Int
 |0=>x
 |k+1=>W (b3h o out x k+W ((a9g o).getD k 0*atB out (k+1)))
theorem b6p{rest out:List Int}{i:Int}(q:o≤4)(h:o≤out.length)(g:short out)(r:a0B x=true):
  y0s a2R (rest,(o:Int),a9g o,i,x,(0:Int),out,())=some (rest,(o:Int),a9g o,i,W (x+a4q o out),out,()):=by
 have g:out.length<1000000:=g
 have:=a1F (f:=a2R) (fun k=>(rest,(o:Int),a9g o,i,b3h o out x k,(k:Int),out,()))
  o (b:=(rest,(o:Int),a9g o,i,b3h o out x o,out,())) (fun k n=>by
   have a:wrap .i64 (((out.length:Nat):Int)-1)=((out.length-1:Nat):Int):=by grind[a0D]
   have c:wrap .i64 (((out.length-1:Nat):Int)-(k:Int))=((out.length-(k+1):Nat):Int):=by grind[a0D]
   have d:(0:Int)≤((out.length-(k+1):Nat):Int):=by omega
   have e:((out.length-(k+1):Nat):Int)<((out.length:Nat):Int):=by omega
   have j:k<(a9g o).length:=by simp_all[c2p]
   have l:(a9g o)[k]=(a9g o).getD k 0:=by simp_all
   simp only[a2R,dlt n,cT,a0A j,oB,a,c,d,e,decide_true,a02,tN,a0C (show k<1000000 by omega),b3h,atB,l])
  (by simp[a2R])
 simp[b3h]at this;rw[this];have p:b3h o out x o=W (x+a4q o out):=by
  have m:o=0∨o=1∨o=2∨o=3∨o=4:=by omega
  rcases m with rfl|rfl|rfl|rfl|rfl;simp_all[b3h,a4q,c4Y]
  all_goals
   simp only[b3h,a9g,a4q,List.getD_cons_zero,a62,Nat.zero_add,Nat.reduceAdd,W,b0L,Int.add_bmod_bmod,Int.bmod_add_bmod]
   grind
 grind
theorem b5e{warm rest:List Int}{o:Nat}(m:o≤4)(u:warm.length=o)(t:rest.length<100000):
  a5W (warm,rest,(o:Int))=some (a3I (bif warm.all a0B&&rest.all a0B then a3N (a4q o) rest warm else none)):=by
 have e:short warm:=by unfold short;omega
 have d:short rest:=by unfold short;omega
 unfold a5W;have n:¬ (o:Int)<0:=by omega
 have p:¬ (o:Int) > 4:=by omega
 have q:(((warm.length:Nat):Int) != (o:Int))=false:=by simp_all
 simp only[n,p,q,decide_false,cF,oB,a1p e,a1p d];cases hw1:warm.all a0B with
 |false=>rfl
 |true=>
  simp only[bT,cF,oB,a25];cases hw2:rest.all a0B with
  |false=>rfl
  |true=>
   have k:lim (0+warm.length)=true:=a0T (by omega);simp only[bT,cF,cT,k,c4Z m,oB,a06,a09]
   have:=a1z (f:=a4d) rest (fun i out=>(rest,(o:Int),a9g o,(i:Int),out,())) (a6g (a4q o) (Sum.inr ((6:Int),([]:List Int),())))
    (fun i out=>o≤out.length∧out.length≤o+i) (fun out=>Sum.inl (out,()))
    (fun i h out r=>by
     have g:i<1000000:=by omega
     have c:short out:=by unfold short;omega
     have j:a0B rest[i]=true:=lA.1 hw2 _ (a05 h);simp only[a4d,dlt h,cT,a0A h,oB,b6p m r.1 c j,a1N,a6g];cases hb:a0B (W (rest[i]+a4q o out))with
     |true=>
      simp only[cT,bT,cF,a0T (show out.length+1<1000000 by omega),a0C g];refine⟨fun s l=>?_,fun b hb=>(by grind)⟩;simp at l;subst l;exact⟨rfl,by grind,by grind⟩
     |false=>
      simp)
    (fun out _=>by simp[a4d]) (a:=warm) ⟨by omega,by omega⟩
   simp[a5h]at this;rw[this];cases a3N (a4q o) rest warm<;>rfl
def b3i(out:List Int):List Int→Nat→Int→Int
 | [],_,acc=>acc
 |c::r,i,acc=>bif decide (i<out.length)then b3i out r (i+1) (W (acc+W (c*atB out (i+1))))else acc
def a7U(c:List Int)(s:Int)(out:List Int):Int:=A0o .i64 (b3i out c 0 0) s
theorem c5a{out:List Int}(h:i<out.length)(g:short out):m0k out (wrap .i64 (wrap .i64 (((out.length:Nat):Int)-1)-(i:Int)))=some (atB out (i+1)):=by
 have g:out.length<1000000:=g
 grind[a0D,a0A,atB]
theorem c6d{out:List Int}(h:i<out.length)(g:out.all a0B=true):a0B (atB out (i+1))=true:=by
 grind[atB]
theorem b3j{out c:List Int}{s:Int}(f:short out)(a:short c):∀(k i:Nat)(acc:Int),i+k=c.length→
  y0s a2A (out,s,acc,c,(c.length:Int),(i:Int),())=some (s,b3i out (c.drop i) i acc,())
 |0,i,acc,h=>by
  obtain rfl:i=c.length:=by omega
  simp_all[a0E,a2A,b3i]
 |k+1,i,acc,h=>by
  have g:i<c.length:=by omega
  have e:out.length<1000000:=f;have d:c.length<1000000:=a;rw[a03 g,b3i];have j:wrap .i64 (((out.length:Nat):Int)-1)=((out.length:Nat):Int)-1:=a0D (by omega);have l:wrap .i64 (((out.length:Nat):Int)-1-(i:Int))=((out.length:Nat):Int)-1-(i:Int):=a0D (by omega)
  by_cases hi:i<out.length
  have b:decide (wrap .i64 (wrap .i64 (((out.length:Nat):Int)-1)-(i:Int))<0)=false:=by grind
  simp[hi];rw[a0G (s':=(out,s,W (acc+W (c[i]*atB out (i+1))),c,(c.length:Int),((i+1:Nat):Int),())) (by
   simp only[a2A,dlt g,cT,a0A g,oB,b,cF,c5a hi f,a0C (show i<1000000 by omega)])]
  exact b3j f a k (i+1) _ (by omega);have b:decide (wrap .i64 (wrap .i64 (((out.length:Nat):Int)-1)-(i:Int))<0)=true:=by grind
  simp[hi];simp_all[a0E,a2A,a0A]
theorem c4p{out c:List Int}{s:Int}(g:short out)(h:short c)(f:0≤s):a3B (out,c,s)=some (a7U c s out):=by
 have:=b3j (s:=s) g h c.length 0 0 (by omega)
 grind[a3B,a7U]
theorem b6q{out c:List Int}{s:Int}(f:short out)(a:short c)(b:out.all a0B=true):∀(k i:Nat)(acc:Int),i+k=c.length→
  y0s a2k (out,c,s,acc,(i:Int),())=some (Sum.inl (s,b3i out (c.drop i) i acc,()))
 |0,i,acc,h=>by
  obtain rfl:i=c.length:=by omega
  simp_all[a0E,a2k,b3i]
 |k+1,i,acc,h=>by
  have g:i<c.length:=by omega
  have j:out.length<1000000:=f;have d:c.length<1000000:=a;rw[a03 g,b3i]
  by_cases hi:i<out.length
  simp[hi];rw[a0G (s':=(out,c,s,W (acc+W (c[i]*atB out (i+1))),((i+1:Nat):Int),())) (by
   simp only[a2k,dlt g,dlt hi,cT,c5a hi f,oB,a1N,c6d hi b,bT,cF,a0A g,a0C (show i<1000000 by omega)])]
  exact b6q f a b k (i+1) _ (by omega);have e:decide ((i:Int)<((out.length:Nat):Int))=false:=by simp_all
  simp[hi];exact a0E (by simp only[a2k,dlt g,cT,e,cF])
theorem b4y{s:Int}(h:0≤s)(g:s≤64):wrap .u64 s=s:=a0O (by omega)
theorem b3k{out c:List Int}{s:Int}(f:short out)(h:short c)(k:out.all a0B=true)(g:a6p c s=true):a4w (out,c,s)=some (a7U c s out):=by
 have:=b6q (s:=s) f h k c.length 0 0 (by omega)
 simp at this;unfold a4w;simp[a5g h,g,this];simp only[a6p,bA,dT]at g
 grind[b4y,a7U]
def a9L(warm rest c:List Int)(s:Int):Option (List Int):=bif warm.all a0B&&rest.all a0B then a3N (a7U c s) rest warm else none
theorem b1u{warm rest c:List Int}{s:Int}(o:a6p c s=true)(w:warm.length=c.length)(v:rest.length<100000):
  a5n (warm,rest,c,s)=some (a3I (a9L warm rest c s)):=by
 have g:=o;simp only[a6p,bA,dT]at g;have k:short c:=by unfold short;omega
 have m:short warm:=by unfold short;omega
 have l:short rest:=by unfold short;omega
 unfold a5n;have q:(((warm.length:Nat):Int) != ((c.length:Nat):Int))=false:=by simp_all
 simp only[a9f k,o,oB,bT,cF,q,a9k m,a9k l,a9L];cases hw1:warm.all a0B with
 |false=>rfl
 |true=>
  simp only[bT,cF,oB,a25];cases hw2:rest.all a0B with
  |false=>rfl
  |true=>
   have p:wrap .i64 (((warm.length:Nat):Int)+((rest.length:Nat):Int))=((warm.length+rest.length:Nat):Int):=by grind[a0D]
   have r:(0:Int)≤((warm.length+rest.length:Nat):Int):=by omega
   simp only[bT,cF,cT,p,r,decide_true,tN,a0T (show warm.length+rest.length<1000000 by omega),a0T (show 0+warm.length<1000000 by omega),a02,a06,a09]
   have:=a1z (f:=a5b) rest (fun i out=>(c,s,rest,(rest.length:Int),(i:Int),out,())) (a6g (a7U c s) (Sum.inr ((6:Int),([]:List Int),())))
    (fun i out=>out.length≤warm.length+i) (fun out=>Sum.inl (out,()))
    (fun i h out u=>by
     have d:i<1000000:=by omega
     have j:short out:=by unfold short;omega
     have e:wrap .i64 (a7U c s out+rest[i])=W (rest[i]+a7U c s out):=by grind
     simp only[a5b,dlt h,cT,a0A h,oB,c4p j k g.2.2.1,e,a8n,a6g];cases hb:a0B (W (rest[i]+a7U c s out))with
     |true=>
      simp only[cT,bT,cF,a0T (show out.length+1<1000000 by omega),a0C d];refine⟨fun t n=>?_,fun b hb=>(by grind)⟩;simp at n;subst n;exact⟨rfl,by grind⟩
     |false=>
      simp)
    (fun out _=>by simp[a5b]) (a:=warm) (by omega)
   simp[a5h]at this;rw[this];cases a3N (a7U c s) rest warm<;>rfl
theorem a9l{warm rest c:List Int}{s:Int}(k:a6p c s=true)(t:warm.length=c.length)(r:rest.length<100000):
  a3H (warm,rest,c,s)=some (a3I (a9L warm rest c s)):=by
 have d:=k;simp only[a6p,bA,dT]at d;have g:short c:=by unfold short;omega
 have m:short warm:=by unfold short;omega
 have l:short rest:=by unfold short;omega
 unfold a3H;have o:(((warm.length:Nat):Int) != ((c.length:Nat):Int))=false:=by simp_all
 simp only[a5g g,k,oB,bT,cF,o,a1p m,a1p l,a9L];cases hw1:warm.all a0B with
 |false=>rfl
 |true=>
  simp only[bT,cF,oB,a25];cases hw2:rest.all a0B with
  |false=>rfl
  |true=>
   simp only[bT,cF,cT,a0T (show 0+warm.length<1000000 by omega),a06,a09]
   have:=a1z (f:=a3L) rest (fun i out=>(rest,c,s,(i:Int),out,())) (a6g (a7U c s) (Sum.inr ((6:Int),([]:List Int),())))
    (fun i out=>out.length≤warm.length+i∧out.all a0B=true) (fun out=>Sum.inl (out,()))
    (fun i h out p=>by
     have e:i<1000000:=by omega
     have j:short out:=by unfold short;omega
     simp only[a3L,dlt h,cT,a0A h,oB,b3k j g p.2 k,a1N,a6g];cases hb:a0B (W (rest[i]+a7U c s out))with
     |true=>
      simp only[cT,bT,cF,a0T (show out.length+1<1000000 by omega),a0C e];refine⟨fun q n=>?_,fun b hb=>(by grind)⟩;simp at n;subst n;exact⟨rfl,by grind,by simp_all⟩
     |false=>
      simp)
    (fun out _=>by simp[a3L]) (a:=warm) ⟨by omega,hw1⟩
   simp[a5h]at this;rw[this];cases a3N (a7U c s) rest warm<;>rfl
def b3l(out:List Int)(lag:Int):List Int→Nat→Int→Int
 | [],_,acc=>acc
 |t::r,i,acc=>b3l out lag r (i+1) (bif decide (0≤(out.length:Int)-lag-1+i)then W (acc+W (t*out.getD ((out.length:Int)-lag-1+i).toNat 0))else acc)
def a6K(lag:Int)(t:List Int)(out:List Int):Int:=A0o .i64 (b3l out lag t 0 0) 6
theorem b1R{out:List Int}{j:Int}(g:0≤j)(h:j<out.length):m0k out j=some (out.getD j.toNat 0):=by
 obtain⟨n,rfl⟩:=a01 g;simp_all[a0A]
theorem c2O(h:2≤lag)(g:lag≤1024)(k:n<1000000)(f:i<3):
  wrap .i64 (wrap .i64 (wrap .i64 ((n:Int)-lag)-1)+(i:Int))=(n:Int)-lag-1+i:=by
 grind[a0D]
theorem c5b{j:Nat}(h:j<n):(l.take n).getD j 0=l.getD j 0:=by
 simp_all
theorem a6Q{l t:List Int}{lag:Int}{n:Nat}(m:n≤l.length)(j:short l)(o:t.length=3)(a:2≤lag)(b:lag≤1024):∀(k i:Nat)(acc:Int),i+k=3→
  y0s a3i (l,(n:Int),lag,acc,t,(i:Int),())=some (b3l (l.take n) lag (t.drop i) i acc,())
 |0,i,acc,h=>by
  obtain rfl:i=t.length:=by omega
  grind[a0E,a3i,b3l]
 |k+1,i,acc,h=>by
  have g:i<t.length:=by omega
  have f:decide ((i:Int)<3)=true:=by grind
  have p:l.length<1000000:=j;have d:(l.take n).length=n:=by simp_all
  have e:=c2O (n:=n) (i:=i) a b (by omega) (by omega);rw[a03 g,b3l,d]
  by_cases hp:0≤(n:Int)-lag-1+i
  have c:decide ((n:Int)-lag-1+i≥0)=true:=by simp_all
  simp only[hp,decide_true,cT];rw[c5b (show((n:Int)-lag-1+i).toNat<n by omega),a0G (s':=(l,(n:Int),lag,W (acc+W (t[i]*l.getD ((n:Int)-lag-1+i).toNat 0)),t,((i+1:Nat):Int),())) (by
   simp only[a3i,f,cT,a0A g,oB,e,c,b1R hp (show(n:Int)-lag-1+(i:Int)<(l.length:Int)by omega),a0C (show i<1000000 by omega)])]
  exact a6Q m j o a b k (i+1) _ (by omega);have c:decide ((n:Int)-lag-1+i≥0)=false:=by simp_all
  simp[hp];rw[a0G (s':=(l,(n:Int),lag,acc,t,((i+1:Nat):Int),())) (by
   simp only[a3i,f,cT,a0A g,oB,e,c,cF,a0C (show i<1000000 by omega)])]
  exact a6Q m j o a b k (i+1) _ (by omega)
theorem b6r{l t:List Int}{lag:Int}{n:Nat}(f:n≤l.length)(k:short l)(a:t.length=3)(h:2≤lag)(g:lag≤1024):
  a3t (l,(n:Int),lag,t)=some (a6K lag t (l.take n)):=by
 have:=a6Q (t:=t) f k a h g 3 0 0 (by rfl)
 simp_all[a3t,a6K]
theorem b6s{out:List Int}(f:short out)(k:t.length=3)(h:2≤lag)(g:lag≤1024):a3t (out,(out.length:Int),lag,t)=some (a6K lag t out):=by
 simp_all[b6r]
theorem a6q{out t:List Int}{lag:Int}(d:short out)(l:t.length=3)(a:2≤lag)(b:lag≤1024):∀(k i:Nat)(acc:Int),i+k=3→
  y0s a2S (out,lag,acc,(i:Int),t,())=some (b3l out lag (t.drop i) i acc,())
 |0,i,acc,h=>by
  obtain rfl:i=t.length:=by omega
  grind[a0E,a2S,b3l]
 |k+1,i,acc,h=>by
  have f:i<t.length:=by omega
  have g:decide ((i:Int)<3)=true:=by grind
  have j:out.length<1000000:=d;have e:=c2O (i:=i) a b j (by omega);rw[a03 f,b3l]
  by_cases hp:0≤(out.length:Int)-lag-1+i
  have c:decide ((out.length:Int)-lag-1+i≥0)=true:=by simp_all
  simp only[hp,decide_true,cT];rw[a0G (s':=(out,lag,W (acc+W (t[i]*out.getD ((out.length:Int)-lag-1+i).toNat 0)),((i+1:Nat):Int),t,())) (by
   simp only[a2S,g,cT,a0A f,oB,e,c,b1R hp (show(out.length:Int)-lag-1+(i:Int)<(out.length:Int)by omega),a0C (show i<1000000 by omega)])]
  exact a6q d l a b k (i+1) _ (by omega);have c:decide ((out.length:Int)-lag-1+i≥0)=false:=by simp_all
  simp[hp];rw[a0G (s':=(out,lag,acc,((i+1:Nat):Int),t,())) (by
   simp only[a2S,g,cT,e,c,cF,a0C (show i<1000000 by omega)])]
  exact a6q d l a b k (i+1) _ (by omega)
theorem b5f{out:List Int}(f:short out)(k:t.length=3)(h:2≤lag)(g:lag≤1024):a5X (out,lag,t)=some (a6K lag t out):=by
 have:=a6q (out:=out) (t:=t) f k h g 3 0 0 (by rfl)
 simp_all[a5X,a6K]
def b1S(rest:List Int)(lag:Int)(t:List Int):Option (List Int):=bif rest.all a0B then a3N (a6K lag t) rest []else none
theorem c0X{rest:List Int}(d:a8I lag t=true)(e:t.length=3)(m:rest.length<100000):a8A (rest,lag,t)=some (a3I (b1S rest lag t)):=by
 have g:=d;simp only[a8I,bA,dT]at g;have k:short rest:=by unfold short;omega
 unfold a8A;simp only[b4x e,d,oB,bT,cF,b6o k,b1S];cases hw2:rest.all a0B with
 |false=>rfl
 |true=>
  have l:(0:Int)≤((rest.length:Nat):Int):=by omega
  simp[a0T k]
  have:=a1z (f:=a6y) rest (fun i out=>(lag,rest,(rest.length:Int),(i:Int),out,t,())) (a6g (a6K lag t) (Sum.inr ((6:Int),([]:List Int),())))
   (fun i out=>out.length=i) (fun out=>Sum.inl (out,()))
   (fun i h out j=>by
    have b:i<1000000:=by omega
    have c:short out:=by unfold short;omega
    have hp:=b6s (out:=out) (t:=t) (lag:=lag) c e g.1 g.2.1;rw[j]at hp;simp only[a6y,dlt h,cT,a0A h,oB,hp,a9K,a6g];cases hb:a0B (W (rest[i]+a6K lag t out))with
    |true=>
     simp only[cT,bT,cF,a0T (show out.length+1<1000000 by omega),a0C b];simp_all
    |false=>
     simp)
   (fun out _=>by simp[a6y]) (a:=[]) rfl
  simp[a5h]at this;rw[this];cases a3N (a6K lag t) rest []<;>rfl
theorem b6t{rest t:List Int}{lag:Int}(d:a8I lag t=true)(e:t.length=3)(l:rest.length<100000):a6G (rest,lag,t)=some (a3I (b1S rest lag t)):=by
 have g:=d;simp only[a8I,bA,dT]at g;have c:short rest:=by unfold short;omega
 unfold a6G;simp only[b1t e,d,oB,bT,cF,a1p c,b1S];cases hw2:rest.all a0B with
 |false=>rfl
 |true=>
  simp
  have:=a1z (f:=a4x) rest (fun i out=>(rest,lag,(i:Int),out,t,())) (a6g (a6K lag t) (Sum.inr ((6:Int),([]:List Int),())))
   (fun i out=>out.length=i) (fun out=>Sum.inl (out,()))
   (fun i h out j=>by
    have k:i<1000000:=by omega
    have b:short out:=by unfold short;omega
    simp only[a4x,dlt h,cT,a0A h,oB,b5f b e g.1 g.2.1,a1N,a6g];cases hb:a0B (W (rest[i]+a6K lag t out))with
    |true=>
     simp only[cT,bT,cF,a0T (show out.length+1<1000000 by omega),a0C k];simp_all
    |false=>
     simp)
   (fun out _=>by simp[a4x]) (a:=[]) rfl
  simp[a5h]at this;rw[this];cases a3N (a6K lag t) rest []<;>rfl
def b1v{β:Type}(n:Int)(bad:β)(out:List Int)(x:Int):List Int ⊕ β:=bif a0B x&&a0B (A0n .i64 x n)then .inl (out++[A0n .i64 x n])else .inr bad
def upO(n:Int)(l:List Int):Option (List Int):=bif l.all (fun x=>a0B x&&a0B (A0n .i64 x n))then some (l.map fun x=>A0n .i64 x n)else none
theorem b1e{β:Type}(n:Int)(h:β)(g:List Int→β):∀(l out:List Int),b3f g (a3M (b1v n h) l out)=match upO n l with|some r=>g (out++r)|none=>h
 | [],out=>by simp[a3M,b3f,upO]
 |x::l,out=>by
  simp only[a3M,b1v,upO,a34];cases hx:(a0B x&&a0B (A0n .i64 x n))with
  |true=>
   simp only[cT,a25];rw[b1e n h g l _];simp only[upO];cases l.all (fun x=>a0B x&&a0B (A0n .i64 x n))with
   |true=>simp
   |false=>rfl
  |false=>rfl
theorem c0Y{n:Int}(d:0≤n)(e:n≤30)(m:l.length<100000):a6V (l,n)=some (a3I (upO n l)):=by
 have c:short l:=by unfold short;omega
 have g:¬ n<0:=by omega
 have b:¬ n > 30:=by omega
 unfold a6V;simp[g,b]
 have:=a1z (f:=a6z) l (fun i out=>(n,l,(l.length:Int),(i:Int),out,())) (b1v n (Sum.inr ((6:Int),([]:List Int),())))
  (fun i out=>out.length=i) (fun out=>Sum.inl (out,()))
  (fun i h out j=>by
   have k:i<1000000:=by omega
   simp only[a6z,dlt h,cT,a0A h,oB,b7P,b1v,g,decide_false,cF];cases hb:a0B l[i]with
   |true=>
    cases hb2:a0B (A0n .i64 l[i] n)with
    |true=>
     simp only[cT,bT,cF,oB,g,decide_false,a0T (show out.length+1<1000000 by omega),a0C k,a02];simp_all
    |false=>
     simp
   |false=>
    simp)
  (fun out _=>by simp[a6z]) (a:=[]) rfl
 simp[b1e]at this;rw[this];cases upO n l<;>rfl
theorem c5c{n:Int}(d:0≤n)(j:n≤30)(o:l.length<100000):b3H (l,n)=some (a3I (upO n l)):=by
 have e:short l:=by unfold short;omega
 have g:¬ n<0:=by omega
 have c:¬ n > 30:=by omega
 have b:=b4y d (by omega);unfold b3H;simp[g,c]
 have:=a1z (f:=a9q) l (fun i out=>(l,n,(i:Int),out,())) (b1v n (Sum.inr ((6:Int),([]:List Int),())))
  (fun i out=>out.length=i) (fun out=>Sum.inl (out,()))
  (fun i h out m=>by
   have k:i<1000000:=by omega
   simp only[a9q,dlt h,cT,a0A h,oB,a1N,b1v,b,g,decide_false,cF];cases hb:a0B l[i]with
   |true=>
    cases hb2:a0B (A0n .i64 l[i] n)with
    |true=>
     simp only[cT,bT,cF,oB,b,g,decide_false,a0A h,a0T (show out.length+1<1000000 by omega),a0C k,a02];simp_all
    |false=>
     simp
   |false=>
    simp)
  (fun out _=>by simp[a9q]) (a:=[]) rfl
 simp[b1e]at this;rw[this];cases upO n l<;>rfl
@[reducible] def Fil:Type:=Int×((List Int)×((List Int)×Unit))
variable {f:Fil}
def a1j(x:Int):Int:=v0s (v0r x (-1073741824)) 1073741823
def b6u(x:Int):Int:=v0s (v0r x (-1048576)) 1048576
theorem b3m(x:Int):-1073741824≤a1j x∧a1j x≤1073741823:=by
 grind[a1j,c2M,c2N]
theorem c0Z(x:Int):-1048576≤b6u x∧b6u x≤1048576:=by
 grind[b6u,c2M,c2N]
def b7R:List Int→List Int→Int→Int
 |a::w,b::h,acc=>b7R w h (W (acc+W (a*b)))
 |_,_,acc=>acc
def a0Q(f:Fil):Int:=a1j (A0o .i64 (b7R f.2.1 f.2.2.1 0) 16)
structure FilOk (f:Fil):Prop where
 len:f.2.1.length=f.2.2.1.length
 pos:1≤f.2.1.length
 most:f.2.1.length≤32
 rate:0≤f.1∧f.1≤8
 small:∀x∈f.2.1,-1048576≤x∧x≤1048576
theorem a7p(h:i<l.length):a38 l i 0=l[i]:=by
 simp_all
theorem a9M{f:Fil}(c:FilOk f):∀(k i:Nat)(acc:Int),i+k=f.2.1.length→
  y0s a2w (acc,(f.2.1.length:Int),(i:Int),f,())=some (b7R (f.2.1.drop i) (f.2.2.1.drop i) acc,f,())
 |0,i,acc,h=>by
  obtain rfl:i=f.2.1.length:=by omega
  rw[a44,a0E (b:=(acc,f,())) (by simp[a2w])];rfl
 |k+1,i,acc,h=>by
  have g:i<f.2.1.length:=by omega
  have a:i<f.2.2.1.length:=by rw[←c.len];omega
  have e:=c.most;rw[a03 g,a03 a,b7R];have d:decide ((0:Int)≤(i:Int))=true:=by simp
  rw[a0G (s':=(W (acc+W (f.2.1[i]*f.2.2.1[i])),(f.2.1.length:Int),((i+1:Nat):Int),f,())) (by
   simp only[a2w,dlt g,dlt a,d,cT,a02,tN,a7p g,a7p a,a0C (show i<1000000 by omega)])]
  exact a9M c k (i+1) _ (by omega)
theorem a8p(h:FilOk f):a1P f=some (a0Q f,f):=by
 have:=a9M h f.2.1.length 0 0 (by omega)
 simp at this;unfold a1P;simp only[this,oB,a3U];rfl
theorem b1w{f:Fil}(c:FilOk f):∀(k i:Nat)(acc:Int),i+k=f.2.1.length→
  y0s a2Y (acc,(i:Int),f,())=some (b7R (f.2.1.drop i) (f.2.2.1.drop i) acc,f,())
 |0,i,acc,h=>by
  obtain rfl:i=f.2.1.length:=by omega
  rw[a44,a0E (b:=(acc,f,())) (by simp[a2Y])];rfl
 |k+1,i,acc,h=>by
  have g:i<f.2.1.length:=by omega
  have a:i<f.2.2.1.length:=by rw[←c.len];omega
  have e:=c.most;rw[a03 g,a03 a,b7R];have d:decide ((0:Int)≤(i:Int))=true:=by simp
  rw[a0G (s':=(W (acc+W (f.2.1[i]*f.2.2.1[i])),((i+1:Nat):Int),f,())) (by
   simp only[a2Y,dlt g,dlt a,d,cT,a02,tN,a7p g,a7p a,a0C (show i<1000000 by omega)])]
  exact b1w c k (i+1) _ (by omega)
theorem a9N{f:Fil}(h:FilOk f):a2T f=some (a0Q f,f):=by
 have:=b1w h f.2.1.length 0 0 (by omega)
 simp at this;unfold a2T;simp only[this,oB,a7L];rfl
def a4C(x:Int):Int:=if 0<x then 1 else if x<0 then -1 else 0
def a8J(r:Int)(x g:Int):Int:=a4C (x-g)*2^r.toNat
def a9h(st:Int)(w h:Int):Int:=b6u (W (w+a4C h*st))
def a9u(f:Fil)(x:Int):Fil:=
 (f.1,a26 (a9h (a8J f.1 (a1j x) (a0Q f))) f.2.1 f.2.2.1,a1j x::f.2.2.1.take (f.2.2.1.length-1),f.2.2.2)
theorem c1a(k:FilOk f)(x:Int):FilOk (a9u f x):=by
 obtain⟨a,b,c,g,d⟩:=k;have e:(a26 (a9h (a8J f.1 (a1j x) (a0Q f))) f.2.1 f.2.2.1).length=f.2.1.length:=by simp_all
 refine⟨?_,?_,?_,g,?_⟩;show(a26 _ _ _).length=(a1j x::f.2.2.1.take (f.2.2.1.length-1)).length;simp_all;show 1≤(a26 _ _ _).length;omega;show(a26 _ _ _).length≤32;omega;intro y h;have h:y∈a26 (a9h (a8J f.1 (a1j x) (a0Q f))) f.2.1 f.2.2.1:=h;obtain⟨i,j,rfl⟩:=a84.1 h
 simp
 exact c0Z _
theorem a5L(x:Int):(0<x∧a4C x=1)∨(x<0∧a4C x=-1)∨(x=0∧a4C x=0):=by
 unfold a4C;omega
theorem b5g{r:Int}(h:0≤r∧r≤8):(2:Int)^r.toNat≤256∧1≤(2:Int)^r.toNat:=by
 have:r.toNat=0∨r.toNat=1∨r.toNat=2∨r.toNat=3∨r.toNat=4∨r.toNat=5∨r.toNat=6∨r.toNat=7∨r.toNat=8:=by omega
 rcases this with e|e|e|e|e|e|e|e|e<;>rw[e]<;>decide
theorem b8g{r:Int}(h:0≤r∧r≤8)(g:-1≤x∧x≤1):A0n .i64 x r=x*2^r.toNat:=by
 have hp:=b5g h;have hb:min r.toNat 64=r.toNat:=by omega
 unfold A0n;show wrap .i64 (x*2^(min r.toNat 64))=_;rw[hb]
 have:x=-1∨x=0∨x=1:=by omega
 rcases this with rfl|rfl|rfl
 all_goals grind[a0D]
theorem b9n(a:FilOk f)(x:Int):
  (bif decide (a1j x > a0Q f)then bif decide (f.1<0)then(none:Option (Int×Int×Fil×Unit))else some (a1j x,A0n .i64 (1:Int) f.1,f,())
   else bif decide (a1j x<a0Q f)then bif decide (f.1<0)then none else some (a1j x,wrap .i64 (0-(A0n .i64 (1:Int) f.1)),f,())
   else some (a1j x,(0:Int),f,()))=some (a1j x,a8J f.1 (a1j x) (a0Q f),f,()):=by
 have d:¬ f.1<0:=by have:=a.rate;omega
 have hp:=b5g a.rate;have b:=b8g a.rate (x:=1) (by omega);rw[Int.one_mul]at b;rcases a5L (a1j x-a0Q f)with⟨c,h⟩|⟨c,h⟩|⟨c,h⟩;have g:a1j x > a0Q f:=by omega
 simp only[g,d,decide_true,decide_false,cT,cF,a8J,h,Int.one_mul,b];have g:¬ a1j x > a0Q f:=by omega
 have k:a1j x<a0Q f:=by omega
 simp only[g,k,d,decide_true,decide_false,cT,cF,a8J,h,b]
 grind[a0D]
 have g:¬ a1j x > a0Q f:=by omega
 have k:¬ a1j x<a0Q f:=by omega
 simp only[g,k,decide_false,cF,a8J,h,Int.zero_mul]
theorem c1b{z:List Int}(f:i<l.length)(k:z.length=l.length):(z.take i++l.drop i).set i (z[i]'(by omega))=z.take (i+1)++l.drop (i+1):=by
 have h:(z.take i).length=i:=by grind
 have g:z.take (i+1)=z.take i++[z[i]'(by omega)]:=by simp
 rw[a77 _ _ (by omega),h,a59,a03 f,a93,g,aA];rfl
theorem c6e{z:List Int}(h:i<l.length)(g:z.length=l.length):a38 (z.take i++l.drop i) i 0=l[i]:=by
 grind
theorem c5d(g:FilOk f)(h:i<f.2.1.length):-1048576≤f.2.1[i]∧f.2.1[i]≤1048576:=g.small _ (a05 h)
theorem b6v(n:FilOk f){x1 st:Int}(u:-256≤st∧st≤256):
  y0s a1V (x1,st,(f.2.2.1.length:Int),(0:Int),f,())=some (x1,(f.1,a26 (a9h st) f.2.1 f.2.2.1,f.2.2),()):=by
 obtain⟨z,w⟩:∃z,a26 (a9h st) f.2.1 f.2.2.1=z:=⟨_,rfl⟩;have q:=n.len;have d:z.length=f.2.1.length:=by grind
 have v:=n.most
 have:=a1F (f:=a1V) (fun i=>(x1,st,(f.2.2.1.length:Int),(i:Int),(f.1,z.take i++f.2.1.drop i,f.2.2),()))
  f.2.2.1.length (b:=(x1,(f.1,z,f.2.2),())) (fun i p=>by
   have k:i<f.2.1.length:=by omega
   have j:decide ((0:Int)≤(i:Int))=true:=by simp
   have s:(z.take i++f.2.1.drop i).length=f.2.1.length:=by grind
   have g:decide ((i:Int)<((z.take i++f.2.1.drop i).length:Int))=true:=by simp_all
   have o:z[i]'(by omega)=a9h st f.2.1[i] f.2.2.1[i]:=by grind
   have t:=c5d n k;have h:=c1b k d;rw[o]at h;simp only[a1V,dlt p,j,g,cT,a02,tN,a7p p,c6e k d];rcases a5L f.2.2.1[i]with⟨m,a⟩|⟨m,a⟩|⟨m,a⟩;have c:f.2.2.1[i] > 0:=m;simp[a9h,a]at h;simp only[c,decide_true,cT,oB,j,g,a02,tN,a0C (show i<1000000 by omega)];exact congrArg (fun l=>some (Sum.inl (x1,st,(f.2.2.1.length:Int),((i+1:Nat):Int),(f.1,l,f.2.2),()))) h;have c:¬ f.2.2.1[i] > 0:=by omega
   have e:f.2.1[i]+-1*st=f.2.1[i]-st:=by omega
   simp only[a9h,a,e]at h;simp only[c,m,decide_true,decide_false,cT,cF,oB,j,g,a02,tN,a0C (show i<1000000 by omega)];exact congrArg (fun l=>some (Sum.inl (x1,st,(f.2.2.1.length:Int),((i+1:Nat):Int),(f.1,l,f.2.2),()))) h;have c:¬ f.2.2.1[i] > 0:=by omega
   have r:¬ f.2.2.1[i]<0:=by omega
   have e:W (f.2.1[i]+0*st)=f.2.1[i]:=by rw[Int.zero_mul,Int.add_zero];exact a0D (by omega)
   simp only[a9h,a,e]at h;simp only[c,r,decide_false,cF,oB,j,g,cT,a02,tN,a0C (show i<1000000 by omega)];exact congrArg (fun l=>some (Sum.inl (x1,st,(f.2.2.1.length:Int),((i+1:Nat):Int),(f.1,l,f.2.2),()))) h)
  (by
   simp_all[a36,a1V])
 simp_all
theorem c2q(k:FilOk f)(x g:Int):-256≤a8J f.1 x g∧a8J f.1 x g≤256:=by
 have hp:=b5g k.rate;unfold a8J;rcases a5L (x-g)with⟨-,h⟩|⟨-,h⟩|⟨-,h⟩<;>rw[h]<;>omega
theorem b9o(h:FilOk f)(x:Int):a2B (f,x)=some (a9u f x):=by
 unfold a2B;have d:=b9n h x;simp only[a3U,oB,a8p h];have g:(bif decide (v0s (v0r x (-1073741824)) 1073741823 > a0Q f)then bif decide (f.1<0)then(none:Option (Int×Int×Fil×Unit))else some (v0s (v0r x (-1073741824)) 1073741823,A0n .i64 (1:Int) f.1,f,())
   else bif decide (v0s (v0r x (-1073741824)) 1073741823<a0Q f)then bif decide (f.1<0)then none else some (v0s (v0r x (-1073741824)) 1073741823,wrap .i64 (0-(A0n .i64 (1:Int) f.1)),f,())
   else some (v0s (v0r x (-1073741824)) 1073741823,(0:Int),f,()))=_:=d
 rw[g];simp only[oB,b6v h (c2q h _ _)];have i:f.2.2.1.length≥1:=by have:=h.pos;have:=h.len;omega
 have b:decide ((1:Int)≤((f.2.2.1.length:Nat):Int))=true:=by grind
 have e:p0h f.2.2.1 1 (f.2.2.1.length-1) f.2.2.1=f.2.2.1.take 1++f.2.2.1.take (f.2.2.1.length-1):=by
  simp_all[p0h]
 have j:(f.2.2.1.take 1++f.2.2.1.take (f.2.2.1.length-1)).length=f.2.2.1.length:=by simp_all
 have c:decide ((0:Int)<(((f.2.2.1.take 1++f.2.2.1.take (f.2.2.1.length-1)).length:Nat):Int))=true:=by grind
 simp only[b,cT,e,c];congr 1;have k:(f.2.2.1.take 1++f.2.2.1.take (f.2.2.1.length-1)).set 0 (a1j x)=a1j x::f.2.2.1.take (f.2.2.1.length-1):=by
  cases hc:f.2.2.1 with
  |nil=>simp_all
  |cons a l=>simp
 rw[k];rfl
theorem b4z(x:Int):a7M x=some (a4C x):=by
 grind[a7M,a5L]
theorem b9p(k:FilOk f){x1 s:Int}(w:-1≤s∧s≤1):
  y0s a2l (x1,s,(0:Int),([]:List Int),([]:List Int),f,())=some (x1,a26 (a9h (s*2^f.1.toNat)) f.2.1 f.2.2.1,([]:List Int),f,()):=by
 obtain⟨z,x⟩:∃z,a26 (a9h (s*2^f.1.toNat)) f.2.1 f.2.2.1=z:=⟨_,rfl⟩;have j:=k.len;have u:z.length=f.2.1.length:=by grind
 have v:=k.most;have r:=k.rate;have t:wrap .u64 f.1=f.1:=a0O (by omega);have a:¬ f.1<0:=by omega
 have:=a1F (f:=a2l) (fun i=>(x1,s,(i:Int),z.take i,([]:List Int),f,()))
  f.2.1.length (b:=(x1,z,([]:List Int),f,())) (fun i e=>by
   have h:i<f.2.2.1.length:=by omega
   have p:decide ((0:Int)≤(i:Int))=true:=by simp
   have d:z[i]'(by omega)=a9h (s*2^f.1.toNat) f.2.1[i] f.2.2.1[i]:=by grind
   have c:-1≤s*a4C f.2.2.1[i]∧s*a4C f.2.2.1[i]≤1:=by
    rcases a5L f.2.2.1[i]with⟨-,g⟩|⟨-,g⟩|⟨-,g⟩<;>rw[g]<;>omega
   have l:wrap .i64 (s*a4C f.2.2.1[i])=s*a4C f.2.2.1[i]:=a0D (by omega);have m:=b8g r c;have n:v0s (v0r (wrap .i64 (f.2.1[i]+s*a4C f.2.2.1[i]*2^f.1.toNat)) (-1048576)) 1048576=z[i]'(by omega):=by
    rw[d,show s*a4C f.2.2.1[i]*2^f.1.toNat=a4C f.2.2.1[i]*(s*2^f.1.toNat)by grind];rfl
   have o:z.take i++[z[i]'(by omega)]=z.take (i+1):=by simp
   have q:(z.take i).length+1<1000000:=by grind
   simp only[a2l,dlt e,dlt h,p,cT,a02,tN,a7p e,a7p h,b4z,oB,t,a,decide_false,cF,a0T q,l,m,n,a06,o,a0C (show i<1000000 by omega)])
  (by
   simp_all[a36,a2l])
 simp_all
theorem c1c(f:Fil):-1073741824≤a0Q f∧a0Q f≤1073741823:=b3m _
theorem c2r(h:FilOk f)(x:Int):a4y (f,x)=some (a9u f x):=by
 unfold a4y;have m:=b3m x;have n:=c1c f;have b:wrap .i64 (a1j x-a0Q f)=a1j x-a0Q f:=a0D (by omega);have l:-1≤a4C (a1j x-a0Q f)∧a4C (a1j x-a0Q f)≤1:=by
  rcases a5L (a1j x-a0Q f)with⟨-,g⟩|⟨-,g⟩|⟨-,g⟩<;>rw[g]<;>omega
 have d:a7L x=some (a1j x):=rfl;have o:=h.most;have k:=h.len;have a:=h.pos;have c:wrap .i64 (((f.2.2.1.length:Nat):Int)-1)=((f.2.2.1.length-1:Nat):Int):=by grind[a0D]
 have e:decide ((0:Int)≤((f.2.2.1.length-1:Nat):Int))=true:=by simp
 have i:decide (((f.2.2.1.length-1:Nat):Int)≤((f.2.2.1.length:Nat):Int))=true:=by simp
 have j:([a1j x]:List Int).length+(f.2.2.1.take (f.2.2.1.length-1)).length<1000000:=by grind
 simp only[d,oB,a9N h,b,b4z,b9p h l,a17,a0T (show 0+1<1000000 by omega),cT,c,e,i,a02,tN,a82,a06,a09,a0T j];rfl
@[reducible] def Stg:Type:=Int×(Int×Unit)
theorem b5h(h:short l):a0X l=some l:=by
 have g:lim (0+l.length)=true:=a0T (by unfold short at h;omega);simp_all[a0X,x0e]
def a7V(s:Stg):Fil:=(s.2.1,a00 s.1.toNat 0,a00 s.1.toNat 0,())
theorem c2P{s:Stg}(h:stageB s=true):FilOk (a7V s):=by
 simp[stageB]at h;refine⟨by rfl,by simp[a7V];omega,by simp[a7V];omega,⟨h.2.2.1,h.2.2.2⟩,fun x g=>?_⟩;simp_all[a7V]
theorem c1d{s:Stg}(h:stageB s=true):a6T s=some (a7V s,0):=by
 have g:=h;simp[stageB]at g;unfold a6T;have f:decide ((0:Int)≤s.1)=true:=by grind
 have k:decide (s.1≤s.1)=true:=by simp
 have a:lim s.1.toNat=true:=a0T (by omega);simp only[a8o,h,oB,bT,cF,f,k,a,a02,cT];rfl
theorem a9O{s:Stg}(h:stageB s=true):a5Y s=some (a7V s,0):=by
 have g:=h;simp[stageB]at g;unfold a5Y;have f:decide ((0:Int)≤s.1)=true:=by grind
 have k:decide (s.1≤s.1)=true:=by simp
 have a:lim s.1.toNat=true:=a0T (by omega);simp only[a7T,h,oB,bT,cF,f,k,a,a02,cT];rfl
def stO:List Int→List Int→Fil→Option (List Int)
 | [],done,_=>some done
 |r::rs,done,f=>bif a0B (W (a0Q f+r))then stO rs (done++[W (a0Q f+r)]) (a9u f (W (a0Q f+r)))else none
theorem a9v:∀(l done:List Int)(f:Fil){r},stO l done f=some r→r.length=done.length+l.length
 | [],done,f,r,h=>by simp_all[stO]
 |x::l,done,f,r,h=>by
  simp[stO]at h;cases hw:a0B (W (a0Q f+x))with
  |true=>rw[hw]at h;rw[a9v l _ _ h];grind
  |false=>simp_all
theorem b3n{done:List Int}(g:done.length=i)(h:i<row.length):a38 (done++row.drop i) i 0=row[i]:=by
 grind
theorem c1e{done:List Int}(g:done.length=i)(h:i<row.length)(y:Int):(done++row.drop i).set i y=(done++[y])++row.drop (i+1):=by
 rw[a77 _ _ (by omega),g,a59,a03 h,a93,aA];rfl
theorem b0M{row b4:List Int}{b5:Int}(e:short row):∀(k i:Nat)(done:List Int)(f:Fil),i+k=row.length→done.length=i→FilOk f→
  ∃z,y0s a3V ((row.length:Int),(i:Int),b4,b5,done++row.drop i,f,())=some z∧
   match stO (row.drop i) done f with
   |some r=>z=.inl (b4,b5,r,())
   |none=>∃q,z=.inr (([]:List Int),(6:Int),q,())
 |0,i,done,f,h,hd,hf=>by
  obtain rfl:i=row.length:=by omega
  rw[a44,a07];exact⟨_,a0E (b:=Sum.inl (b4,b5,done,())) (by simp[a3V]),rfl⟩
 |k+1,i,done,f,h,hd,hf=>by
  have g:i<row.length:=by omega
  have j:row.length<1000000:=e;have c:decide ((0:Int)≤(i:Int))=true:=by simp
  have l:(done++row.drop i).length=row.length:=by grind
  have d:decide ((i:Int)<(((done++row.drop i).length:Nat):Int))=true:=by simp_all
  have a:stO (row.drop i) done f=bif a0B (W (a0Q f+row[i]))then stO (row.drop (i+1)) (done++[W (a0Q f+row[i])]) (a9u f (W (a0Q f+row[i])))else none:=by
   rw[a03 g];rfl
  rw[a];cases hw:a0B (W (a0Q f+row[i]))with
  |true=>
   rw[a0G (s':=((row.length:Int),((i+1:Nat):Int),b4,b5,(done++[W (a0Q f+row[i])])++row.drop (i+1),a9u f (W (a0Q f+row[i])),())) (by
    simp only[a3V,dlt g,c,d,cT,a02,a8p hf,oB,tN,b3n hd g,a7k,hw,bT,cF,b9o hf,c1e hd g,a0C (show i<1000000 by omega)])]
   exact b0M e k (i+1) _ _ (by omega) (by simp_all) (c1a hf _)
  |false=>
   exact⟨_,a0E (b:=Sum.inr (([]:List Int),(6:Int),done++row.drop i,())) (by
    simp only[a3V,dlt g,c,d,cT,a02,a8p hf,oB,tN,b3n hd g,a7k,hw,a18]),_,rfl⟩
theorem b2k{row:List Int}{st:List Stg}{n:Int}(c:short row):∀(k i:Nat)(done:List Int)(f:Fil),i+k=row.length→done.length=i→FilOk f→
  y0s a2U (st,n,(i:Int),done++row.drop i,f,())=some (match stO (row.drop i) done f with
   |some r=>.inl (st,n,r,())
   |none=>.inr ((6:Int),([]:List Int),()))
 |0,i,done,f,h,hd,hf=>by
  obtain rfl:i=row.length:=by omega
  rw[a44,a07];have l:done.length=row.length:=hd;exact a0E (b:=Sum.inl (st,n,done,())) (by simp_all[a2U])
 |k+1,i,done,f,h,hd,hf=>by
  have g:i<row.length:=by omega
  have m:row.length<1000000:=c;have d:decide ((0:Int)≤(i:Int))=true:=by simp
  have l:(done++row.drop i).length=row.length:=by grind
  have e:decide ((i:Int)<(((done++row.drop i).length:Nat):Int))=true:=by simp_all
  have a:stO (row.drop i) done f=bif a0B (W (a0Q f+row[i]))then stO (row.drop (i+1)) (done++[W (a0Q f+row[i])]) (a9u f (W (a0Q f+row[i])))else none:=by
   rw[a03 g];rfl
  have j:wrap .i64 (row[i]+a0Q f)=W (a0Q f+row[i]):=by grind
  rw[a];cases hw:a0B (W (a0Q f+row[i]))with
  |true=>
   rw[a0G (s':=(st,n,((i+1:Nat):Int),(done++[W (a0Q f+row[i])])++row.drop (i+1),a9u f (W (a0Q f+row[i])),())) (by
    simp only[a2U,d,e,cT,a02,a9N hf,oB,tN,b3n hd g,j,a1N,hw,bT,cF,c2r hf,c1e hd g,a0C (show i<1000000 by omega)])]
   exact b2k c k (i+1) _ _ (by omega) (by simp_all) (c1a hf _)
  |false=>
   exact a0E (by
    simp_all[a2U,a9N,a1N])
def lO:List Stg→List Int→Option (List Int)
 | [],row=>some row
 |s::r,row=>match stO row [] (a7V s)with
  |some row'=>lO r row'
  |none=>none
theorem c2s{st:List Stg}{s:Stg}{k:Int}{b4:List Int}(h:stageB s=true)(b:short row):
  ∃z,a5R k s (st,b4,(0:Int),row,())=some z∧match stO row [] (a7V s)with
   |some r=>z=.inl (st,b4,(0:Int),r,())
   |none=>∃q,z=.inr (.ret,st,([]:List Int),(6:Int),q,()):=by
 obtain⟨z,g,f⟩:=b0M (b4:=b4) (b5:=0) b row.length 0 [] (a7V s) (by omega) rfl (c2P h);simp at g f;unfold a5R;have a:((0:Int) != 0)=false:=rfl;simp[c1d h,g];cases hst:stO row [] (a7V s)with
 |some r=>
  simp_all
 |none=>
  grind
theorem b4A{st l:List Stg}{b4:List Int}(f:∀s∈l,stageB s=true):∀(n:Nat)(row:List Int),n≤l.length→short row→
  ∃z,l0f a5R l n (st,b4,(0:Int),row,())=some z∧match lO (l.take n).reverse row with
   |some r=>z=.inl (st,b4,(0:Int),r,())
   |none=>∃q,z=.inr (.ret,st,([]:List Int),(6:Int),q,())
 |0,row,_,_=>⟨_,rfl,rfl⟩
 |n+1,row,hn,hs=>by
  have h:n<l.length:=by omega
  obtain⟨z,a,g⟩:=c2s (st:=st) (k:=(n:Int)) (b4:=b4) (f _ (a05 h)) hs;have b:(l.take (n+1)).reverse=l[n]::(l.take n).reverse:=by simp
  simp[l0f,lG h,a,b,lO];cases hst:stO row [] (a7V l[n])with
  |some r=>
   rw[hst]at g;simp at g;subst g;exact b4A f n r (by omega) (by have:=a9v _ _ _ hst;unfold short at hs⊢;simp_all)
  |none=>
   grind
def a8S(rest:List Int)(st:List Stg):Option (List Int):=bif rest.all a0B then lO st.reverse rest else none
theorem b9q{rest:List Int}{st:List Stg}(a:a7a st=true)(c:rest.length<100000):a7E (rest,st)=some (a3I (a8S rest st)):=by
 have f:=a;simp only[a7a,bA,dT]at f;have k:short st:=by unfold short;omega
 have h:short rest:=by unfold short;omega
 unfold a7E;simp only[b3g k,a,oB,bT,cF,b5c h,a8S];cases hw:rest.all a0B with
 |false=>rfl
 |true=>
  obtain⟨z,b,g⟩:=b4A (st:=st) (b4:=[]) (lA.1 f.2) st.length rest (a31 _) h;rw[a45]at g;simp[b5h h,a0T k,b];cases hst:lO st.reverse rest with
  |some r=>
   rw[hst]at g;simp at g;subst g;rfl
  |none=>
   rw[hst]at g;obtain⟨q,rfl⟩:=g;rfl
theorem b6w{l:List Stg}(a:∀s∈l,stageB s=true)(g:l.length≤3):∀(n:Nat)(row:List Int),n≤l.length→short row→
  y0s a4e (l,(n:Int)-1,row,())=some (match lO (l.take n).reverse row with
   |some r=>.inl (r,())
   |none=>.inr ((6:Int),([]:List Int),()))
 |0,row,_,_=>a0E (by rfl)
 |n+1,row,hn,hs=>by
  have f:n<l.length:=by omega
  have h:=a _ (a05 f);have k:=b2k (st:=l) (n:=(n:Int)) hs row.length 0 [] (a7V l[n]) (by omega) rfl (c2P h);simp at k;have c:(l.take (n+1)).reverse=l[n]::(l.take n).reverse:=by simp
  have b:((n+1:Nat):Int)-1=(n:Int):=by omega
  have e:decide ((n:Int)≥0)=true:=by simp
  have d:wrap .i64 ((n:Int)-1)=(n:Int)-1:=a0D (by omega);rw[c,b];simp[lO];cases hst:stO row [] (a7V l[n])with
  |some r=>
   rw[hst]at k;rw[a0G (s':=(l,(n:Int)-1,r,())) (by simp_all[a4e,a0A,a9O])];exact b6w a g n r (by omega) (by have:=a9v _ _ _ hst;unfold short at hs⊢;simp_all)
  |none=>
   simp_all[a0E,a4e,a0A,a9O]
theorem b5i{rest:List Int}{st:List Stg}(a:a7a st=true)(c:rest.length<100000):a5Z (rest,st)=some (a3I (a8S rest st)):=by
 have h:=a;simp only[a7a,bA,dT]at h;have f:short st:=by unfold short;omega
 have g:short rest:=by unfold short;omega
 unfold a5Z;simp only[b0K f,a,oB,bT,cF,a1p g,a8S];cases hw:rest.all a0B with
 |false=>rfl
 |true=>
  have k:=b6w (lA.1 h.2) h.1 st.length rest (a31 _) g;rw[a45]at k;have b:wrap .i64 (((st.length:Nat):Int)-1)=((st.length:Nat):Int)-1:=a0D (by omega);simp only[bT,cF,cT,a0T (show 0+rest.length<1000000 by omega),b,a06,a09,k,oB];cases lO st.reverse rest<;>rfl
def a5P(n warm:Int):Bool:=decide (1≤n)&&(decide (n≤4096)&&(decide (0≤warm)&&decide (warm≤n)))
theorem b3o(n warm:Int):a5G (n,warm)=some (a5P n warm):=by
 grind[a5G,a5P]
theorem b6x(n warm:Int):a9I (n,warm)=some (a5P n warm):=by
 grind[a9I,a5P]
theorem c6f(h:o≤8):1≤2^o∧2^o≤256:=by
 have:o=0∨o=1∨o=2∨o=3∨o=4∨o=5∨o=6∨o=7∨o=8:=by omega
 grind
theorem b1T(h:o≤64):A0o .i64 (N:Int) (o:Int)=((N / 2^o:Nat):Int):=by
 unfold A0o;show a91 (N:Int) (2^(min (o:Int).toNat 64))=_
 grind
theorem b5j(h:o≤64)(g:N*2^o<9223372036854775808):A0n .i64 (N:Int) (o:Int)=((N*2^o:Nat):Int):=by
 unfold A0n;show wrap .i64 ((N:Int)*2^(min (o:Int).toNat 64))=_
 grind[a0D]
def a8T(o N:Nat)(warm:Int):List Int:=
 if N%2^o=0∧warm≤((N / 2^o:Nat):Int)then(((N / 2^o:Nat):Int)-warm)::a00 (2^o-1) ((N / 2^o:Nat):Int)else[]
def a1B(order n warm:Int):List Int:=bif a5P n warm&&(decide (0≤order)&&decide (order≤8))then a8T order.toNat n.toNat warm else[]
theorem b1x(h n warm:Int):a2s (h,n,warm)=some (a1B h n warm):=by
 unfold a2s a1B;simp only[b3o,oB];cases hr:a5P n warm with
 |false=>rfl
 |true=>
  simp[a5P]at hr;simp only[bT,cF,a25]
  by_cases h1:h<0
  grind
  by_cases h2:h > 8
  grind
  obtain⟨o,rfl⟩:=a01 (show 0≤h by omega);obtain⟨N,rfl⟩:=a01 (show 0≤n by omega);have q:o≤8:=by omega
  have r:N≤4096:=by omega
  have hp:=c6f q;have p:N / 2^o*2^o≤N:=Nat.div_mul_le_self N _;have m:(0:Int)≤(o:Int):=by omega
  have g8:(o:Int)≤8:=by omega
  simp only[h1,h2,m,g8,decide_true,decide_false,cF,cT,a02,oB,b1T (N:=N) (show o≤64 by omega),b5j (N:=N / 2^o) (show o≤64 by omega) (by omega),tN];have k:=b04 N (2^o);rw[a60]at k
  by_cases hm:N%2^o=0
  have a:(((N / 2^o*2^o:Nat):Int) != (N:Int))=false:=by simp_all
  by_cases hw:warm≤((N / 2^o:Nat):Int)
  have d:decide (((N / 2^o:Nat):Int)<warm)=false:=decide_eq_false (Int.not_lt.2 hw);have j:wrap .i64 (((N / 2^o:Nat):Int)-warm)=((N / 2^o:Nat):Int)-warm:=a0D (by have:=a30 N (2^o);omega);simp only[a,d,j,cF,oB,a8T,hm,hw,and_self,if_true];have e:A0n .i64 (1:Int) (o:Int)=((2^o:Nat):Int):=by have:=b5j (N:=1) (show o≤64 by omega) (by omega);simp_all
  have:=a1F (f:=a5a) (fun i=>((o:Int),((N / 2^o:Nat):Int),(((N / 2^o:Nat):Int)-warm)::a00 i ((N / 2^o:Nat):Int),())) (2^o-1)
   (b:=((((N / 2^o:Nat):Int)-warm)::a00 (2^o-1) ((N / 2^o:Nat):Int),())) (fun i s=>by
    have c:decide ((((((N / 2^o:Nat):Int)-warm)::a00 i ((N / 2^o:Nat):Int)).length:Int)<((2^o:Nat):Int))=true:=by
     grind
    have g:lim (((((N / 2^o:Nat):Int)-warm)::a00 i ((N / 2^o:Nat):Int)).length+1)=true:=a0T (by grind);have l:a00 i ((N / 2^o:Nat):Int)++[((N / 2^o:Nat):Int)]=a00 (i+1) ((N / 2^o:Nat):Int):=by grind[a41]
    simp only[a5a,h1,decide_false,cF,e,c,cT,g,a06,a68,l])
   (by
    have c:decide ((((((N / 2^o:Nat):Int)-warm)::a00 (2^o-1) ((N / 2^o:Nat):Int)).length:Int)<((2^o:Nat):Int))=false:=by
     simp_all
    simp only[a5a,h1,decide_false,cF,e,c])
  simp_all;have d:decide (((N / 2^o:Nat):Int)<warm)=true:=decide_eq_true (Int.not_le.1 hw);simp_all[a8T];have a:(((N / 2^o*2^o:Nat):Int) != (N:Int))=true:=by grind
  simp only[a,cT,oB,a8T,hm,false_and,if_false]
theorem a4D(h n warm:Int):a2j (h,n,warm)=some (a1B h n warm):=by
 unfold a2j a1B;simp only[b6x,oB];cases hr:a5P n warm with
 |false=>rfl
 |true=>
  simp[a5P]at hr;simp only[bT,cF,a25]
  by_cases h1:h<0
  grind
  by_cases h2:h > 8
  grind
  obtain⟨o,rfl⟩:=a01 (show 0≤h by omega);obtain⟨N,rfl⟩:=a01 (show 0≤n by omega);have m:o≤8:=by omega
  have t:N≤4096:=by omega
  have hp:=c6f m;have l:(0:Int)≤(o:Int):=by omega
  have g8:(o:Int)≤8:=by omega
  have d:wrap .u64 (o:Int)=(o:Int):=a0O (by omega);have c:A0n .i64 (1:Int) (o:Int)=((2^o:Nat):Int):=by have:=b5j (N:=1) (show o≤64 by omega) (by omega);simp_all
  have r:(((2^o:Nat):Int)==0)=false:=by grind
  have p:a40 (N:Int) ((2^o:Nat):Int)=((N%2^o:Nat):Int):=by rfl
  simp only[h1,h2,l,g8,decide_true,decide_false,cF,cT,a02,d,c,r,p,b1T (N:=N) (show o≤64 by omega),tN]
  by_cases hm:N%2^o=0
  have k:(((0:Nat):Int) != 0)=false:=rfl
  by_cases hw:warm≤((N / 2^o:Nat):Int)
  have e:decide (((N / 2^o:Nat):Int)<warm)=false:=decide_eq_false (Int.not_lt.2 hw);have s:wrap .i64 (((N / 2^o:Nat):Int)-warm)=((N / 2^o:Nat):Int)-warm:=a0D (by have:=a30 N (2^o);omega);simp only[k,e,cF,oB,a8T,hm,hw,and_self,if_true]
  have:=a1F (f:=a4c) (fun i=>((o:Int),(N:Int),warm,(i:Int),a00 i ((N / 2^o:Nat):Int),())) (2^o)
   (b:=(warm,a00 (2^o) ((N / 2^o:Nat):Int),())) (fun i u=>by
    have a:decide ((i:Int)<((2^o:Nat):Int))=true:=by grind
    have g:lim ((a00 i ((N / 2^o:Nat):Int)).length+1)=true:=a0T (by grind);have j:a00 i ((N / 2^o:Nat):Int)++[((N / 2^o:Nat):Int)]=a00 (i+1) ((N / 2^o:Nat):Int):=by grind[a41]
    simp only[a4c,d,h1,decide_false,cF,c,a,cT,g,b1T (N:=N) (show o≤64 by omega),a06,j,a0C (show i<1000000 by omega)])
   (by
    have a:decide (((2^o:Nat):Int)<((2^o:Nat):Int))=false:=by simp
    simp only[a4c,d,h1,decide_false,cF,c,a])
  simp only[nZ,List.replicate_zero]at this;have v:decide ((0:Int)<(((a00 (2^o) ((N / 2^o:Nat):Int)).length:Nat):Int))=true:=by grind
  obtain⟨q,w⟩:∃q,2^o=q+1:=⟨2^o-1,by omega⟩
  grind
  have e:decide (((N / 2^o:Nat):Int)<warm)=true:=decide_eq_true (Int.not_le.1 hw);simp_all[a8T];have k:(((N%2^o:Nat):Int) != 0)=true:=by grind
  simp only[k,cT,oB,a8T,hm,false_and,if_false]
@[reducible] def Prt:Type:=Int×((List Int)×Unit)
variable {p:Prt}
def kB(k:Int):Bool:=(decide (0≤k)&&decide (k≤25)) || (k==31)
def a4R(p:Prt)(n warm:Int):Bool:=!((a1B p.1 n warm).length==0)&&((a1B p.1 n warm).length==p.2.1.length&&p.2.1.all kB)
theorem b3p{n:Int}(g:short p.2.1):a6U (p,n,warm)=some (a4R p n warm):=by
 have:=a0Z (f:=a3u) p.2.1 (fun i=>(p.2.1,(p.2.1.length:Int),(i:Int),())) kB (bt:=Sum.inl ()) (bf:=Sum.inr (false,()))
  (fun i h hp=>by
   simp[kB]at hp
   by_cases h1:p.2.1[i]<0
   omega
   by_cases h2:p.2.1[i] > 25
   have b:p.2.1[i]=31:=by omega
   have a:(p.2.1[i] != 31)=false:=by simp_all
   simp[a3u,a0A h,h,h1,h2,a,a0C (a08 h g)];simp[a3u,a0A h,h,h1,h2,a0C (a08 h g)])
  (fun i h hp=>by
   have hp:¬ (kB p.2.1[i]=true):=by simp_all
   simp only[kB,a71,bA,dT,beq_iff_eq]at hp
   grind[a3u,a0A])
  (by simp[a3u])
 simp at this;unfold a6U a4R;simp[b1x]
 by_cases h0:(a1B p.1 n warm).length=0
 simp_all
 ·have e:((((a1B p.1 n warm).length:Nat):Int)==0)=false:=by simp_all
  have k:((a1B p.1 n warm).length==0)=false:=by simp_all
  simp[e,k]
  by_cases h1:(a1B p.1 n warm).length=p.2.1.length
  all_goals grind
theorem a7W{n:Int}(a:short p.2.1):a3Q (p,n,warm)=some (a4R p n warm):=by
 have g:∀k:Int,a1c k=some (decide (0≤k)&&decide (k≤25)):=fun k=>by
  grind[a1c]
 have:=a0Z (f:=a2I) p.2.1 (fun i=>((i:Int),p,())) kB (bt:=Sum.inl ()) (bf:=Sum.inr (false,()))
  (fun i h hp=>by
   simp only[kB,a71]at hp;cases hc:(decide (0≤p.2.1[i])&&decide (p.2.1[i]≤25))with
   |true=>simp[a2I,a0A h,h,g,hc,a0C (a08 h a)]
   |false=>
    have d:p.2.1[i]=31:=by simp_all
    have c:(p.2.1[i] != 31)=false:=by simp_all
    simp[a2I,a0A h,h,g,hc,c,a0C (a08 h a)])
  (fun i h hp=>by
   grind[kB,a2I,a0A])
  (by simp[a2I])
 simp at this;unfold a3Q a4R;simp[a4D]
 by_cases h0:(a1B p.1 n warm).length=0
 simp_all
 ·have e:((((a1B p.1 n warm).length:Nat):Int)==0)=false:=by simp_all
  have b:((a1B p.1 n warm).length==0)=false:=by simp_all
  simp[e,b]
  by_cases h1:(a1B p.1 n warm).length=p.2.1.length
  all_goals grind
@[reducible] def Sub:Type:=Int×(Int×(Int×(Int×(Int×((List Int)×((List Int)×((List Stg)×((List Int)×(Prt×((List Int)×Unit))))))))))
variable {s:Sub}
structure SmallS (s:Sub):Prop where
 coefs:s.2.2.2.2.2.1.length≤40
 taps:s.2.2.2.2.2.2.1.length=3
 stages:s.2.2.2.2.2.2.2.1.length≤6
 warm:s.2.2.2.2.2.2.2.2.1.length≤5000
 rest:s.2.2.2.2.2.2.2.2.2.2.1.length≤5000
 ks:s.2.2.2.2.2.2.2.2.2.1.2.1.length≤300
theorem a8q(x y:List Int):eqT (.arr 3 (.int .i64)) x y=decide (x=y):=by
 show((a26 (fun(a b:Int)=>a==b) x y).all id&&x.length==y.length)=_
 induction x generalizing y with
 |nil=>cases y<;>simp
 |cons a x ih=>
  cases y with
  |nil=>simp
  |cons b y=>
   grind[List.zipWith_cons_cons]
theorem b6y{l:List Int}(h:short l):a3d l=some l:=b5h h
theorem c2t{l:List Stg}(h:short l):a1k l=some l:=by
 have g:lim (0+l.length)=true:=a0T (by unfold short at h;omega);simp_all[a1k,x0e]
def a6R(k:Int)(s:Sub)(n:Int):Prop:=
 k=0∨k=1∨(k=2∧0≤s.2.2.1∧s.2.2.1≤4∧s.2.2.1≤n)∨(k=3∧a6p s.2.2.2.2.2.1 s.2.2.2.1=true∧(s.2.2.2.2.2.1.length:Int)≤n)∨
  (k=4∧a6p s.2.2.2.2.2.1 s.2.2.2.1=true∧(s.2.2.2.2.2.1.length:Int)≤n∧a8I s.2.2.2.2.1 s.2.2.2.2.2.2.1=true)∨
  (k=5∧0<s.2.2.2.2.2.2.2.1.length∧a7a s.2.2.2.2.2.2.2.1=true)
open Classical in
def b5k (k:Int) (s:Sub) (n:Int):Bool:=decide (a6R k s n)
theorem b6z{s:Sub}(h:SmallS s)(k n:Int):a7s (k,s,n)=some (b5k k s n):=by
 have a:short s.2.2.2.2.2.1:=by have:=h.coefs;unfold short;omega
 have b:short s.2.2.2.2.2.2.2.1:=by have:=h.stages;unfold short;omega
 unfold a7s b5k a6R
 by_cases k0:k=0
 simp_all
 by_cases k1:k=1
 simp_all;have g:(k==0)=false:=by grind
 have f:(k==1)=false:=by grind
 simp only[g,f,cF,oB]
 by_cases k2:k=2
 subst k2
 grind
 by_cases k3:k=3
 subst k3
 grind[a9f]
 by_cases k4:k=4
 subst k4;cases hl:a6p s.2.2.2.2.2.1 s.2.2.2.1<;>by_cases h2:(s.2.2.2.2.2.1.length:Int)≤n<;>simp[a9f a,b4x h.taps,hl,h2]
 by_cases k5:k=5
 ·subst k5
  by_cases h1:0<s.2.2.2.2.2.2.2.1.length
  all_goals simp_all[b3g]
 grind
def a0U(s:Sub)(n:Int):Int:=if s.1=0 then 1 else if s.1=1 then n else if s.1=2 then s.2.2.1 else if s.1=3∨s.1=4 then(s.2.2.2.2.2.1.length:Int)else 0
theorem b8h(s:Sub)(n:Int):a4F (s,n)=some (a0U s n):=by
 grind[a4F,a0U]
def b1y(s:Sub):Prop:=
 (s.1≠2→s.2.2.1=0)∧(s.1≠3∧s.1≠4→s.2.2.2.1=0)∧(s.1≠4→s.2.2.2.2.1=0)∧(s.1≠4→s.2.2.2.2.2.2.1=[0,0,0])∧(s.1≠3∧s.1≠4→s.2.2.2.2.2.1=[])∧(s.1≠5→s.2.2.2.2.2.2.2.1=[])
open Classical in
def b1z (s:Sub):Bool:=decide (b1y s)
theorem a7q{c x:Bool}:(bif c then some x else some false)=some (c&&x):=by grind
theorem c8D(l:List α):(((l.length:Nat):Int)==0)=decide (l=[]):=by
 cases l with
 |nil=>rfl
 |cons a l=>rfl
theorem b7S(x:Int):(x==0)=decide (x=0):=rfl
theorem c1f{s:Sub}(h:SmallS s):a8z s=some (b1z s):=by
 have e:short s.2.2.2.2.2.1:=by have:=h.coefs;unfold short;omega
 have g:short s.2.2.2.2.2.2.2.1:=by have:=h.stages;unfold short;omega
 obtain⟨k,w,o,sh,lag,c,t,st,j,p,r,u⟩:=s;simp only at e g;unfold a8z a7z b1z b1y;have i:(a00 3 (0:Int))=[0,0,0]:=rfl
 by_cases k2:k=2
 simp_all[a8q,a7q,b7S]
 by_cases k4:k=4
 simp_all[a8q,a7q,b7S,b6y]
 by_cases k3:k=3
 simp_all[a8q,a7q,b7S,b6y]
 by_cases k5:k=5
 simp_all[a8q,a7q,b7S,c2t];have f:(k==2)=false:=by grind
 have a:(k==3)=false:=by grind
 have b:(k==4)=false:=by grind
 have d:(k==5)=false:=by grind
 simp[f,a,b,d,k2,k3,k4,k5,a8q,i,a7q,c8D,b7S]
theorem b8i(k:Int):a4H k=some (decide (k≠0∧k≠1)):=by
 unfold a4H
 by_cases h0:k=0
 simp_all
 ·by_cases h1:k=1
  all_goals grind
def a1C(s:Sub)(n:Int):Prop:=
 1≤n∧n≤4096∧a6R s.1 s n∧b1y s∧0≤s.2.1∧s.2.1≤30∧(s.1=0→s.2.1=0)∧(s.2.2.2.2.2.2.2.2.1.length:Int)=a0U s n∧s.2.2.2.2.2.2.2.2.1.all a0B=true∧s.2.2.2.2.2.2.2.2.2.2.1.all a0B=true∧
  (s.1=0∨s.1=1→s.2.2.2.2.2.2.2.2.2.2.1=[]∧s.2.2.2.2.2.2.2.2.2.1.1=0∧s.2.2.2.2.2.2.2.2.2.1.2.1=[])∧
  (s.1≠0∧s.1≠1→(s.2.2.2.2.2.2.2.2.2.2.1.length:Int)=n-a0U s n∧a4R s.2.2.2.2.2.2.2.2.2.1 n (a0U s n)=true)
theorem b1f(h:SmallS s){n:Int}(a:1≤n)(b:n≤4096)(f:a6R s.1 s n):0≤a0U s n∧a0U s n≤4096:=by
 have c:=h.coefs;unfold a0U;rcases f with k|k|⟨k,g⟩|⟨k,g⟩|⟨k,g⟩|⟨k,g⟩<;>simp[k]<;>omega
open Classical in
theorem c5e {s:Sub} (h:SmallS s) (n:Int):a7C (s,n)=some (decide (a1C s n)):=by
 have hw:short s.2.2.2.2.2.2.2.2.1:=by have:=h.warm;unfold short;omega
 have hr:short s.2.2.2.2.2.2.2.2.2.2.1:=by have:=h.rest;unfold short;omega
 have hk:short s.2.2.2.2.2.2.2.2.2.1.2.1:=by have:=h.ks;unfold short;omega
 unfold a7C
 by_cases h1:1≤n
 rotate_left
 ·have e1:decide (n<1)=true:=by simp_all
  have:¬ a1C s n:=fun hp=>h1 hp.1
  simp_all
 have e1:decide (n<1)=false:=by simp_all
 by_cases h2:n≤4096
 rotate_left
 ·have e2:decide (n > 4096)=true:=by simp_all
  have:¬ a1C s n:=fun hp=>h2 hp.2.1
  simp_all
 have e2:decide (n > 4096)=false:=by simp_all
 by_cases h3:a6R s.1 s n
 rotate_left
 ·have e3:b5k s.1 s n=false:=by simp[b5k,h3]
  have:¬ a1C s n:=fun hp=>h3 hp.2.2.1
  simp_all[b6z]
 have e3:b5k s.1 s n=true:=by simp[b5k,h3]
 by_cases h4:b1y s
 rotate_left
 ·have e4:b1z s=false:=by simp[b1z,h4]
  have:¬ a1C s n:=fun hp=>h4 hp.2.2.2.1
  simp_all[b6z,c1f]
 have e4:b1z s=true:=by simp[b1z,h4]
 simp only[e1,e2,b6z h,e3,c1f h,e4,cF,bT,oB]
 by_cases h5:0≤s.2.1
 rotate_left
 ·have e5:decide (s.2.1<0)=true:=by simp_all
  have:¬ a1C s n:=fun hp=>h5 hp.2.2.2.2.1
  simp_all
 have e5:decide (s.2.1<0)=false:=by simp_all
 by_cases h6:s.2.1≤30
 rotate_left
 ·have e6:decide (s.2.1 > 30)=true:=by simp_all
  have:¬ a1C s n:=fun hp=>h6 hp.2.2.2.2.2.1
  simp_all
 have e6:decide (s.2.1 > 30)=false:=by simp_all
 simp only[e5,e6,cF]
 by_cases h7:s.1=0→s.2.1=0
 rotate_left
 ·have h7a:s.1=0:=Classical.byContradiction fun hc=>h7 fun e=>absurd e hc
  have h7b:(s.2.1 != 0)=true:=by
   simp_all
  have e7:(s.1==0)=true:=by simp_all
  have:¬ a1C s n:=fun hp=>h7 hp.2.2.2.2.2.2.1
  grind
 have e7:(bif s.1==0 then some (n,(s.2.1 != 0,(s,())))else some (n,(false,(s,()))))=some (n,(false,(s,()))):=by
  grind
 simp only[e7,oB,cF,b8h]
 by_cases h8:(s.2.2.2.2.2.2.2.2.1.length:Int)=a0U s n
 rotate_left
 ·have e8:(((s.2.2.2.2.2.2.2.2.1.length:Nat):Int) != a0U s n)=true:=by simp_all
  have:¬ a1C s n:=fun hp=>h8 hp.2.2.2.2.2.2.2.1
  grind
 have e8:(((s.2.2.2.2.2.2.2.2.1.length:Nat):Int) != a0U s n)=false:=by simp_all
 simp only[e8,cF,a8m hw,a8m hr,oB]
 cases h9:s.2.2.2.2.2.2.2.2.1.all a0B with
 |false=>
  have:¬ a1C s n:=fun hp=>by rw[hp.2.2.2.2.2.2.2.2.1]at h9;grind
  simp_all
 |true=>
  cases h10:s.2.2.2.2.2.2.2.2.2.2.1.all a0B with
  |false=>
   have:¬ a1C s n:=fun hp=>by rw[hp.2.2.2.2.2.2.2.2.2.1]at h10;grind
   simp_all
  |true=>
   simp only[bT,cF,oB,b8i]
   have hwr:=b1f h h1 h2 h3
   by_cases k01:s.1≠0∧s.1≠1
   ·have e11:wrap .i64 (n-a0U s n)=n-a0U s n:=a0D (by omega)
    simp[k01,e11,b3p hk]
    by_cases h11:(s.2.2.2.2.2.2.2.2.2.2.1.length:Int)=n-a0U s n
    ·have e12:(((s.2.2.2.2.2.2.2.2.2.2.1.length:Nat):Int)==n-a0U s n)=true:=by simp_all
     simp only[e12,cT]
     congr 1
     rw[a37,dT]
     constructor
     ·intro hp
      exact⟨h1,h2,h3,h4,h5,h6,h7,h8,h9,h10,fun hc=>absurd hc (by omega),fun _=>⟨h11,hp⟩⟩
     ·intro hp;exact(hp.2.2.2.2.2.2.2.2.2.2.2 k01).2
    ·have e12:(((s.2.2.2.2.2.2.2.2.2.2.1.length:Nat):Int)==n-a0U s n)=false:=by simp_all
     have:¬ a1C s n:=fun hp=>h11 (hp.2.2.2.2.2.2.2.2.2.2.2 k01).1
     grind
   ·have k01':s.1=0∨s.1=1:=by omega
    simp[k01,c8D]
    simp only[b7S,a7q]
    congr 1
    rw[a37,dT]
    simp
    constructor
    ·rintro⟨g1,g2,g3⟩
     exact⟨h1,h2,h3,h4,h5,h6,h7,h8,h9,h10,fun _=>⟨g1,g2,g3⟩,fun hc=>absurd hc k01⟩
    ·intro hp;exact hp.2.2.2.2.2.2.2.2.2.2.1 k01'
theorem b1U{α:Type}[DecidableEq α](q:α→α→Bool)(g:∀a b,q a b=decide (a=b)):∀(x y:List α),x.length=y.length→((x.zip y).all fun p=>q p.1 p.2)=decide (x=y)
 | [],[],_=>by simp
 |a::x,b::y,h=>by
  have f:=b1U q g x y (by simp_all);simp_all
theorem a8K{x y:List Int}(h:short x):a2u (x,y)=some (decide (x=y)):=by
 unfold a2u
 by_cases hl:x.length=y.length
 have e:(((x.length:Nat):Int) != ((y.length:Nat):Int))=false:=by simp_all
 have l:(x.zip y).length=x.length:=by simp_all
 have:=a0Z (f:=a3D) (x.zip y) (fun i=>(x,y,(i:Int),())) (fun p=>p.1==p.2) (bt:=Sum.inl ()) (bf:=Sum.inr (false,()))
  (fun i d hp=>by
   have k:i<x.length:=by omega
   have c:i<y.length:=by omega
   rw[a55]at hp;have hp:x[i]=y[i]:=by simp_all
   have g:(x[i] != y[i])=false:=by simp_all
   simp only[a3D,dlt k,cT,a0A k,a0A c,oB,g,cF,a0C (a08 k h)])
  (fun i d hp=>by
   have k:i<x.length:=by omega
   have c:i<y.length:=by omega
   rw[a55]at hp;have g:(x[i] != y[i])=true:=by simp_all
   simp only[a3D,dlt k,cT,a0A k,a0A c,oB,g])
  (by simp_all[a3D])
 simp at this;simp only[e,cF,this,b1U (fun(a b:Int)=>a==b) (fun _ _=>rfl) x y hl]
 grind
 have e:(((x.length:Nat):Int) != ((y.length:Nat):Int))=true:=by grind
 have:¬ x=y:=fun j=>hl (by grind)
 grind
theorem b9r{x y:List Stg}(h:short x):a5e (x,y)=some (decide (x=y)):=by
 have k:∀a b:Stg,eqT (.pair (.int .i64) (.pair (.int .i64) .unit)) a b=decide (a=b):=by
  rintro⟨a1,a2,⟨⟩⟩ ⟨b1,b2,⟨⟩⟩
  show((a1==b1)&&((a2==b2)&&true))=_
  grind
 unfold a5e
 by_cases hl:x.length=y.length
 have e:(((x.length:Nat):Int) != ((y.length:Nat):Int))=false:=by simp_all
 have l:(x.zip y).length=x.length:=by simp_all
 have:=a0Z (f:=a2D) (x.zip y) (fun i=>(x,y,(i:Int),())) (fun p=>decide (p.1=p.2)) (bt:=Sum.inl ()) (bf:=Sum.inr (false,()))
  (fun i d hp=>by
   have g:i<x.length:=by omega
   have c:i<y.length:=by omega
   rw[a55]at hp;simp only[a2D,dlt g,cT,a0A g,a0A c,oB,k,hp,bT,cF,a0C (a08 g h)])
  (fun i d hp=>by
   have g:i<x.length:=by omega
   have c:i<y.length:=by omega
   rw[a55]at hp;simp only[a2D,dlt g,cT,a0A g,a0A c,oB,k,hp,a18])
  (by simp_all[a2D])
 simp at this;simp only[e,cF,this,b1U (fun(a b:Stg)=>decide (a=b)) (fun _ _=>rfl) x y hl]
 grind
 have e:(((x.length:Nat):Int) != ((y.length:Nat):Int))=true:=by grind
 have:¬ x=y:=fun j=>hl (by grind)
 grind
open Classical in
theorem b6A {a b:Sub} (h:SmallS a):a5v (a,b)=some (decide (a=b)):=by
 have hc:short a.2.2.2.2.2.1:=by have:=h.coefs;unfold short;omega
 have hst:short a.2.2.2.2.2.2.2.1:=by have:=h.stages;unfold short;omega
 have hw:short a.2.2.2.2.2.2.2.2.1:=by have:=h.warm;unfold short;omega
 have hr:short a.2.2.2.2.2.2.2.2.2.2.1:=by have:=h.rest;unfold short;omega
 have hk:short a.2.2.2.2.2.2.2.2.2.1.2.1:=by have:=h.ks;unfold short;omega
 unfold a5v a8k
 simp only[a8K hc,a8K hw,a8K hr,a8K hk,b9r hst,a8q,oB,a7q]
 congr 1
 grind
def a9P(s:Sub):Sub:=
 let z:List Int:=a00 3 0
 if s.1=0 then(0,0,0,0,0,[],z,[],s.2.2.2.2.2.2.2.2.1,(0,[],()),[],())
 else if s.1=1 then(1,s.2.1,0,0,0,[],z,[],s.2.2.2.2.2.2.2.2.1,(0,[],()),[],())
 else if s.1=2 then(2,s.2.1,s.2.2.1,0,0,[],z,[],s.2.2.2.2.2.2.2.2.1,s.2.2.2.2.2.2.2.2.2.1,s.2.2.2.2.2.2.2.2.2.2.1,())
 else if s.1=3 then(3,s.2.1,0,s.2.2.2.1,0,s.2.2.2.2.2.1,z,[],s.2.2.2.2.2.2.2.2.1,s.2.2.2.2.2.2.2.2.2.1,s.2.2.2.2.2.2.2.2.2.2.1,())
 else if s.1=4 then(4,s.2.1,0,s.2.2.2.1,s.2.2.2.2.1,s.2.2.2.2.2.1,s.2.2.2.2.2.2.1,[],s.2.2.2.2.2.2.2.2.1,s.2.2.2.2.2.2.2.2.2.1,s.2.2.2.2.2.2.2.2.2.2.1,())
 else if s.1=5 then(5,s.2.1,0,0,0,[],z,s.2.2.2.2.2.2.2.1,[],s.2.2.2.2.2.2.2.2.2.1,s.2.2.2.2.2.2.2.2.2.2.1,())
 else(s.1,s.2.1,0,0,0,[],z,[],s.2.2.2.2.2.2.2.2.1,s.2.2.2.2.2.2.2.2.2.1,s.2.2.2.2.2.2.2.2.2.2.1,())
theorem c6g(s:Sub):a8F s=some (a9P s):=by
 obtain⟨k,w,o,sh,lag,c,t,st,h,p,r,u⟩:=s;unfold a8F a9P
 grind
open Classical in
def a9Q (s:Sub) (n:Int):Int:=if a6R s.1 s n then a0U s n else -1
theorem c1g(h:SmallS s)(n:Int):a5K (s,n)=some (a9Q s n):=by
 have f:short s.2.2.2.2.2.1:=by have:=h.coefs;unfold short;omega
 have g:short s.2.2.2.2.2.2.2.1:=by have:=h.stages;unfold short;omega
 have a:=h.taps;obtain⟨k,w,o,sh,lag,c,t,st,b,p,r,u⟩:=s;simp only at f g a;unfold a5K a9Q a0U a6R
 by_cases k0:k=0
 simp_all
 by_cases k1:k=1
 simp_all
 by_cases k2:k=2
 grind
 by_cases k3:k=3
 grind[a5g]
 by_cases k4:k=4
 grind[a5g,b1t]
 grind[b0K]
theorem a4l(k:Int):a3g k=some (decide (2≤k∧k≤5)):=by
 grind[a3g]
def c4q(s:Sub)(n:Int):Prop:=
 1≤n∧n≤4096∧0≤s.1∧s.1≤5∧s=a9P s∧0≤s.2.1∧s.2.1≤30∧a6R s.1 s n∧(s.2.2.2.2.2.2.2.2.1.length:Int)=a0U s n∧s.2.2.2.2.2.2.2.2.1.all a0B=true∧s.2.2.2.2.2.2.2.2.2.2.1.all a0B=true∧
  (2≤s.1∧s.1≤5→(s.2.2.2.2.2.2.2.2.2.2.1.length:Int)=n-a0U s n∧a4R s.2.2.2.2.2.2.2.2.2.1 n (a0U s n)=true)
theorem b3q{k:Int}{s:Sub}{n:Int}(h:a6R k s n):k=0∨k=1∨k=2∨k=3∨k=4∨k=5:=by
 unfold a6R at h;omega
theorem c2u(s:Sub)(n:Int):a1C s n↔c4q s n:=by
 have f:a6R s.1 s n→((b1y s∧(s.1=0→s.2.1=0)∧(s.2.2.2.2.2.2.2.2.1.length:Int)=a0U s n∧(s.1=0∨s.1=1→s.2.2.2.2.2.2.2.2.2.2.1=[]∧s.2.2.2.2.2.2.2.2.2.1.1=0∧s.2.2.2.2.2.2.2.2.2.1.2.1=[]))↔
   (s=a9P s∧(s.2.2.2.2.2.2.2.2.1.length:Int)=a0U s n)):=by
  intro h;have g:(a00 3 (0:Int))=[0,0,0]:=rfl;obtain⟨k,w,o,sh,lag,c,t,st,wm,⟨po,ks,⟨⟩⟩,r,⟨⟩⟩:=s;rcases b3q h with k0|k0|k0|k0|k0|k0<;>simp only at k0<;>subst k0<;>simp[b1y,a9P,a0U,g]<;>(try constructor)<;>(try intros)<;>(try simp_all)<;>(try exact and_left_comm)<;>(grind)
 unfold a1C c4q
 grind[b3q]
def b7T(warm rest:List Int)(o:Int):Option (List Int):=bif warm.all a0B&&rest.all a0B then a3N (a4q o.toNat) rest warm else none
def backP(s:Sub):Option (List Int):=
 if s.1=1 then some s.2.2.2.2.2.2.2.2.1
 else if s.1=2 then b7T s.2.2.2.2.2.2.2.2.1 s.2.2.2.2.2.2.2.2.2.2.1 s.2.2.1
 else if s.1=3 then a9L s.2.2.2.2.2.2.2.2.1 s.2.2.2.2.2.2.2.2.2.2.1 s.2.2.2.2.2.1 s.2.2.2.1
 else if s.1=4 then(a9L s.2.2.2.2.2.2.2.2.1 s.2.2.2.2.2.2.2.2.2.2.1 s.2.2.2.2.2.1 s.2.2.2.1).bind fun l=>b1S l s.2.2.2.2.1 s.2.2.2.2.2.2.1
 else a8S s.2.2.2.2.2.2.2.2.2.2.1 s.2.2.2.2.2.2.2.1
def c1h(s:Sub)(n:Int):Option (List Int):=
 if s.1=0 then some (a00 n.toNat (s.2.2.2.2.2.2.2.2.1.getD 0 0))else(backP s).bind (upO s.2.1)
theorem a8L{w r c:List Int}{s:Int}{l}(h:a9L w r c s=some l):l.length=w.length+r.length:=by
 unfold a9L at h;cases hc:(w.all a0B&&r.all a0B)with
 |false=>simp_all
 |true=>
  rw[hc]at h;exact(a9s _ r w l (a85.1 hc).1 h).2
theorem c2v{w r:List Int}{o:Int}{l}(h:b7T w r o=some l):l.length=w.length+r.length:=by
 unfold b7T at h;cases hc:(w.all a0B&&r.all a0B)with
 |false=>simp_all
 |true=>
  rw[hc]at h;exact(a9s _ r w l (a85.1 hc).1 h).2
theorem c1i{r:List Int}{l}(h:b1S r lag t=some l):l.length=r.length:=by
 unfold b1S at h;cases hc:r.all a0B with
 |false=>simp_all
 |true=>
  rw[hc]at h
  have:=(a9s _ r [] l rfl h).2
  simp_all
theorem b8j:∀(st:List Stg)(r:List Int){l},lO st r=some l→l.length=r.length
 | [],r,l,h=>by simp_all[lO]
 |s::st,r,l,h=>by
  simp only[lO]at h
  split at h
  rename_i f g;rw[b8j st f h,a9v _ _ _ g];simp;cases h
theorem b9s{r:List Int}{st:List Stg}{l}(h:a8S r st=some l):l.length=r.length:=by
 grind[a8S,b8j]
theorem b3r(h:SmallS s){l}(g:backP s=some l):l.length<100000:=by
 have b:=h.warm;have a:=h.rest;unfold backP at g
 split at g
 grind
 split at g
 grind[c2v]
 split at g
 grind[a8L]
 split at g
 obtain⟨l1,f,k⟩:=Option.bind_eq_some_iff.1 g;rw[c1i k,a8L f];omega
 grind[b9s]
theorem c5f{n:Int}(c:1≤n)(d:n≤4096)(e:s.2.2.2.2.2.2.2.2.1.length=1):
  y0s a5o (n,(0:Int),([]:List Int),s,())=some (a00 n.toNat (s.2.2.2.2.2.2.2.2.1.getD 0 0),()):=by
 obtain⟨N,rfl⟩:=a01 (show 0≤n by omega);have k:m0k s.2.2.2.2.2.2.2.2.1 (0:Int)=some (s.2.2.2.2.2.2.2.2.1.getD 0 0):=b1R (by omega) (by omega)
 have:=a1F (f:=a5o) (fun i=>((N:Int),(i:Int),a00 i (s.2.2.2.2.2.2.2.2.1.getD 0 0),s,())) N
  (b:=(a00 N (s.2.2.2.2.2.2.2.2.1.getD 0 0),())) (fun i a=>by
   have h:lim ((a00 i (s.2.2.2.2.2.2.2.2.1.getD 0 0)).length+1)=true:=a0T (by grind);have g:a00 i (s.2.2.2.2.2.2.2.2.1.getD 0 0)++[s.2.2.2.2.2.2.2.2.1.getD 0 0]=a00 (i+1) (s.2.2.2.2.2.2.2.2.1.getD 0 0):=by grind[a41]
   simp only[a5o,dlt a,cT,k,oB,h,a06,g,a0C (show i<1000000 by omega)])
  (by simp[a5o])
 simp_all
theorem b9t{n:Int}(m:1≤n)(o:n≤4096)(q:s.2.2.2.2.2.2.2.2.1.length=1):
  y0s a4f (n,(0:Int),a00 n.toNat (0:Int),s,())=some (a00 n.toNat (s.2.2.2.2.2.2.2.2.1.getD 0 0),()):=by
 obtain⟨N,rfl⟩:=a01 (show 0≤n by omega);have j:m0k s.2.2.2.2.2.2.2.2.1 (0:Int)=some (s.2.2.2.2.2.2.2.2.1.getD 0 0):=b1R (by omega) (by omega);obtain⟨z,r⟩:∃z,a00 N (s.2.2.2.2.2.2.2.2.1.getD 0 0)=z:=⟨_,rfl⟩;have k:z.length=(a00 N (0:Int)).length:=by grind
 have d:(a00 N (0:Int)).length=N:=by simp
 have:=a1F (f:=a4f) (fun i=>((N:Int),(i:Int),z.take i++(a00 N (0:Int)).drop i,s,())) N
  (b:=(z,())) (fun i l=>by
   have h:i<(a00 N (0:Int)).length:=by omega
   have p:(z.take i++(a00 N (0:Int)).drop i).length=N:=by grind
   have e:decide ((i:Int)<(((z.take i++(a00 N (0:Int)).drop i).length:Nat):Int))=true:=by simp_all
   have c:decide ((0:Int)≤(i:Int))=true:=by simp
   have a:=c1b h k;have g:z[i]'(by omega)=s.2.2.2.2.2.2.2.2.1.getD 0 0:=by grind
   rw[g]at a;simp only[a4f,dlt l,cT,j,oB,c,e,a02,tN,a,a0C (show i<1000000 by omega)])
  (by
   simp_all[a36,a4f])
 simp_all
theorem c2w(h:SmallS s){n:Int}(hp:a1C s n)(x:s.1≠0):a9p s=some (a3I (backP s)):=by
 obtain⟨y,z,m,-,-,-,-,a,C,A,-⟩:=hp;have q:=h.rest;have v:=h.warm;have B:=h.taps;obtain⟨k,w,o,sh,lag,c,t,st,d,p,r,u⟩:=s;simp only at *;unfold a9p backP;rcases m with g|g|⟨g,f,b,e⟩|⟨g,f,b⟩|⟨g,f,b,e⟩|⟨g,f,b⟩;omega;subst g;rfl;subst g;obtain⟨O,rfl⟩:=a01 f
 grind[a0U,b5e,b7T]
 grind[a0U,a9l]
 ·subst g;simp only[a0U]at a;have j:d.length=c.length:=by grind
  have i:=a9l (rest:=r) f j (by omega);simp only[show((4:Int)==2)=false from rfl,show((4:Int)==3)=false from rfl,show((4:Int)==4)=true from rfl,cT,cF,i,oB];cases hl:a9L d r c sh with
  |none=>rfl
  |some l=>
   grind[a8L,b6t,a3I]
 grind[b5i]
theorem c2x(h:SmallS s){n:Int}(hp:a1C s n):a9m (s,n)=some (a3I (c1h s n)):=by
 have a:=fun l (d:backP s=some l)=>b3r h d;obtain⟨z,A,C,-,x,v,-,g,K,I,-⟩:=hp;have F:=h.rest;have G:=h.warm;have H:=h.taps;have D:=c5f (s:=s) z A;obtain⟨k,w,o,sh,lag,c,t,st,f,p,r,u⟩:=s;simp only at *;have L:∀l,l.length<100000→a6V (l,w)=some (a3I (upO w l)):=fun l d=>c0Y x v d;unfold a9m c1h;rcases C with b|b|⟨b,j,m,y⟩|⟨b,j,m⟩|⟨b,j,m,y⟩|⟨b,j,m⟩
 grind[a0U,a3I]
 simp_all[backP]
 ·subst b;obtain⟨O,rfl⟩:=a01 j;have m:(O:Int)≤4:=m;simp only[a0U]at g;have q:f.length=O:=by grind
  have i:=b9m (warm:=f) (rest:=r) (o:=O) (by omega) q (by omega);simp only[backP]at a⊢;simp[i];have e:(bif f.all a0B&&r.all a0B then a3N (a4q O) r f else none)=b7T f r (O:Int):=rfl;rw[e];cases d:b7T f r (O:Int)with
  |none=>rfl
  |some l=>simp_all[a3I]
 ·subst b;simp only[a0U]at g;have q:f.length=c.length:=by grind
  have i:=b1u (rest:=r) j q (by omega);simp only[backP]at a⊢;simp[i];cases d:a9L f r c sh with
  |none=>rfl
  |some l=>simp_all[a3I]
 ·subst b;simp only[a0U]at g;have q:f.length=c.length:=by grind
  have i:=b1u (rest:=r) j q (by omega);simp only[backP]at a⊢;simp[i];cases d:a9L f r c sh with
  |none=>rfl
  |some l=>
   have E:=a8L d;have B:=c0X (rest:=l) y H (by omega);simp[a3I,B]
   grind[a3I]
 ·subst b;have i:=b9q (rest:=r) m (by omega);simp only[backP]at a⊢;simp[i];cases d:a8S r st with
  |none=>rfl
  |some l=>simp_all[a3I]
open Classical in
def a1Y (s:Sub) (n:Int):Option (List Int):=if a1C s n then c1h s n else none
theorem b6B(h:SmallS s)(n:Int):a8P (s,n)=some (match a1Y s n with|some r=>(r,0)|none=>([],1)):=by
 unfold a8P a1Y;simp only[c5e h,oB]
 by_cases hp:a1C s n
 simp[hp,c2x h hp]
 grind[a3I]
 simp_all
theorem b6C(h:SmallS s)(n:Int):a6j (s,n)=some (a1Y s n).isSome:=by
 unfold a6j;simp only[b6B h,oB];cases a1Y s n<;>rfl
open Classical in
theorem b2l {s:Sub} (h:SmallS s) (n:Int):a6o (s,n)=some (match a1Y s n with|some r=>(r,true)|none=>([],false)):=by
 have hw:short s.2.2.2.2.2.2.2.2.1:=by have:=h.warm;unfold short;omega
 have hr:short s.2.2.2.2.2.2.2.2.2.2.1:=by have:=h.rest;unfold short;omega
 have hk:short s.2.2.2.2.2.2.2.2.2.1.2.1:=by have:=h.ks;unfold short;omega
 have hiff:=c2u s n
 unfold a6o
 have no:¬ c4q s n→a1Y s n=none:=fun hc=>by
  simp_all[a1Y]
 by_cases h1:1≤n
 rotate_left
 ·have e1:decide (n<1)=true:=by simp_all
  rw[no fun hp=>h1 hp.1]
  simp_all
 have e1:decide (n<1)=false:=by simp_all
 by_cases h2:n≤4096
 rotate_left
 ·have e2:decide (n > 4096)=true:=by simp_all
  rw[no fun hp=>h2 hp.2.1]
  simp_all
 have e2:decide (n > 4096)=false:=by simp_all
 by_cases h3:0≤s.1
 rotate_left
 ·have e3:decide (s.1<0)=true:=by simp_all
  rw[no fun hp=>h3 hp.2.2.1]
  simp_all
 have e3:decide (s.1<0)=false:=by simp_all
 by_cases h4:s.1≤5
 rotate_left
 ·have e4:decide (s.1 > 5)=true:=by simp_all
  rw[no fun hp=>h4 hp.2.2.2.1]
  simp_all
 have e4:decide (s.1 > 5)=false:=by simp_all
 simp only[e1,e2,e3,e4,cF,c6g,b6A h,oB]
 by_cases h5:s=a9P s
 rotate_left
 ·rw[no fun hp=>h5 hp.2.2.2.2.1]
  simp_all
 have e5:decide (s=a9P s)=true:=decide_eq_true h5
 simp only[e5,bT,cF]
 by_cases h6:0≤s.2.1
 rotate_left
 ·have e6:decide (s.2.1<0)=true:=by grind
  rw[no fun hp=>h6 hp.2.2.2.2.2.1]
  grind
 have e6:decide (s.2.1<0)=false:=by grind
 by_cases h7:s.2.1≤30
 rotate_left
 ·have e7:decide (s.2.1 > 30)=true:=by grind
  rw[no fun hp=>h7 hp.2.2.2.2.2.2.1]
  grind
 have e7:decide (s.2.1 > 30)=false:=by grind
 simp only[e6,e7,cF,oB,c1g h]
 by_cases h8:a6R s.1 s n
 rotate_left
 ·have e8:decide (a9Q s n<0)=true:=by simp[a9Q,h8]
  rw[no fun hp=>h8 hp.2.2.2.2.2.2.2.1]
  grind
 have hwr:=b1f h h1 h2 h8
 have e8':a9Q s n=a0U s n:=by simp[a9Q,h8]
 have e8:decide (a0U s n<0)=false:=by grind
 simp only[e8',e8,cF]
 by_cases h9:(s.2.2.2.2.2.2.2.2.1.length:Int)=a0U s n
 rotate_left
 ·have e9:(((s.2.2.2.2.2.2.2.2.1.length:Nat):Int) != a0U s n)=true:=by grind
  rw[no fun hp=>h9 hp.2.2.2.2.2.2.2.2.1]
  grind
 have e9:(((s.2.2.2.2.2.2.2.2.1.length:Nat):Int) != a0U s n)=false:=by grind
 simp only[e9,cF,a1p hw,a1p hr,oB]
 cases h10:s.2.2.2.2.2.2.2.2.1.all a0B with
 |false=>
  rw[no fun hp=>by rw[hp.2.2.2.2.2.2.2.2.2.1]at h10;grind]
  rfl
 |true=>
  cases h11:s.2.2.2.2.2.2.2.2.2.2.1.all a0B with
  |false=>
   rw[no fun hp=>by rw[hp.2.2.2.2.2.2.2.2.2.2.1]at h11;grind]
   rfl
  |true=>
   simp only[bT,cF,oB,a4l]
   have e11:wrap .i64 (n-a0U s n)=n-a0U s n:=a0D (by omega)
   by_cases h12:2≤s.1∧s.1≤5→(s.2.2.2.2.2.2.2.2.2.2.1.length:Int)=n-a0U s n∧a4R s.2.2.2.2.2.2.2.2.2.1 n (a0U s n)=true
   rotate_left
   ·have hg:2≤s.1∧s.1≤5:=Classical.byContradiction fun hc=>h12 fun e=>absurd e hc
    have hn:¬ ((s.2.2.2.2.2.2.2.2.2.2.1.length:Int)=n-a0U s n∧a4R s.2.2.2.2.2.2.2.2.2.1 n (a0U s n)=true):=fun hc=>h12 fun _=>hc
    rw[no fun hp=>h12 hp.2.2.2.2.2.2.2.2.2.2.2]
    simp only[hg,and_self,decide_true,cT,e11,b3p hk,a7W hk,oB]
    grind
   have hrp:c4q s n:=⟨h1,h2,h3,h4,h5,h6,h7,h8,h9,h10,h11,h12⟩
   have hsp:=hiff.2 hrp
   have e12:(bif decide (2≤s.1∧s.1≤5)then bif (((s.2.2.2.2.2.2.2.2.2.2.1.length:Nat):Int) != wrap .i64 (n-a0U s n))then some (n,(true,(s,())))else(a3Q (s.2.2.2.2.2.2.2.2.2.1,(n,a0U s n))).bind fun y9=>some (n,(!y9,(s,())))
     else some (n,(false,(s,()))))=some (n,(false,(s,()))):=by
    by_cases hg:2≤s.1∧s.1≤5
    ·obtain⟨g1,g2⟩:=h12 hg
     have e13:(((s.2.2.2.2.2.2.2.2.2.2.1.length:Nat):Int) != n-a0U s n)=false:=by grind
     simp only[hg,and_self,decide_true,cT,e11,e13,cF,a7W hk,g2,oB,bT]
    grind
   simp only[e12,oB,cF]
   have hsub:a1Y s n=c1h s n:=by unfold a1Y;grind
   rw[hsub]
   unfold c1h
   by_cases k0:s.1=0
   ·have ek:(s.1==0)=true:=by grind
    have hl1:s.2.2.2.2.2.2.2.2.1.length=1:=by
     have:=h9;unfold a0U at this;omega
    have g1:decide ((0:Int)≤n)=true:=by grind
    have g2:decide (n≤n)=true:=by simp
    have g3:lim n.toNat=true:=a0T (by omega)
    simp only[ek,cT,g1,g2,g3,a02,b9t h1 h2 hl1,oB,k0,if_true]
    rfl
   ·have ek:(s.1==0)=false:=by grind
    simp[ek,c2w h hsp k0,k0]
    cases hb:backP s with
    |none=>rfl
    |some l=>
     have hll:=b3r h hb
     simp only[a3I,c5c h6 h7 hll,oB]
     cases upO s.2.1 l<;>simp[a3I]
theorem b9u(h:SmallS s)(n:Int):a7N (s,n)=some (a1Y s n).isSome:=by
 grind[a7N,b2l]
@[reducible] def Wr:Type:=(List Int)×(Int×Unit)
def c1j(w:Wr)(b:Int):Wr:=
 let bs:=if w.2.1%8=0 then w.1++[0]else w.1
 (bs.set (w.2.1 / 8).toNat (bits .u8 .or (bs.getD (w.2.1 / 8).toNat 0) (A0n .u8 b (7-w.2.1%8))),w.2.1+1,())
def wL(L:List Int):Wr:=L.foldl c1j ([],0,())
theorem c2Q(L:List Int)(b:Int):wL (L++[b])=c1j (wL L) b:=by simp[wL]
theorem b6D:∀(n:Nat)(L:List Int),L.length=n→(wL L).2.1=L.length∧(wL L).1.length=(L.length+7) / 8
 |0,L,h=>by
  rw[a35.1 h];exact⟨rfl,rfl⟩
 |n+1,L,h=>by
  obtain⟨g,b,rfl⟩:∃g b,L=g++[b]:=by
   rcases a56 L with rfl|⟨g,b,e⟩
   all_goals simp_all
  obtain⟨f,k⟩:=b6D n g (by simp_all);rw[c2Q];simp only[c1j,b05,lN,a57,f]
  grind
theorem a8r(L:List Int):(wL L).2.1=L.length∧(wL L).1.length=(L.length+7) / 8:=b6D _ L rfl
def a2x(v:Int)(i:Nat):Int:=wrap .u8 (bits .u64 .and (A0o .u64 v (i:Int)) 1)
def pb(v:Int):Nat→List Int
 |0=>[]
 |i+1=>a2x v i::pb v i
theorem a1D(v:Int):∀n,(pb v n).length=n
 |0=>rfl
 |n+1=>by simp[pb,a1D v n]
def a0L(v:Int)(n:Nat)(L:List Int):List Int:=bif A0o .u64 v (n:Int) != 0 then L else L++pb v n
theorem a0R(v:Int)(n:Nat)(L:List Int):L.length≤(a0L v n L).length∧(a0L v n L).length≤L.length+n:=by
 grind[a0L,a1D]
def a6r(v:Int)(n:Nat):Int:=bif A0o .u64 v (n:Int) != 0 then 1 else 0
theorem b3s{v:Int}:∀(n:Nat)(L:List Int),n≤64→L.length+n<1000000000→y0s a4h (v,(n:Int)-1,(L,()),())=some ((L++pb v n,()),())
 |0,L,_,_=>by simp_all[a0E,a4h,pb]
 |n+1,L,h64,h=>by
  have e:((n+1:Nat):Int)-1=(n:Int):=by omega
  have g:wrap .i64 ((n:Int)-1)=(n:Int)-1:=a0D (by omega);have f:wrap .u64 (n:Int)=(n:Int):=a0O (by omega);have k:decide ((n:Int)≥0)=true:=by simp
  have a:decide ((n:Int)<0)=false:=by simp
  have b:lim (L.length+1)=true:=a1u (by omega);rw[e,a0G (s':=(v,(n:Int)-1,(L++[a2x v n],()),())) (by
   simp only[a4h,k,a,f,b,cT,cF,show wrap .u8 (bits .u64 .and (A0o .u64 v (n:Int)) 1)=a2x v n from rfl,a06,g])]
  rw[b3s n (L++[a2x v n]) (by omega) (by simp;omega),pb]
  simp
theorem a1s{v:Int}(c:n≤63)(b:L.length<999999000):a0I ((L,()),v,(n:Int))=some (a6r v n,a0L v n L,()):=by
 unfold a0I a6r a0L;have f:decide ((n:Int)<0)=false:=by simp
 have k:decide ((n:Int) > 64)=false:=by grind
 have a:decide ((n:Int)<64)=true:=by grind
 have h:wrap .i64 ((n:Int)-1)=(n:Int)-1:=a0D (by omega);have g:wrap .u64 (n:Int)=(n:Int):=a0O (by omega);simp[f,k,a,g];cases (A0o .u64 v (n:Int) != 0)with
 |true=>rfl
 |false=>simp only[cF,h,b3s n L (by omega) (by omega),oB]
def unL(n:Nat)(L:List Int):List Int:=L++a00 n 0++[1]
theorem b3t(e:n≤4096)(d:L.length<999990000):a2o ((L,()),(n:Int))=some (0,unL n L,()):=by
 unfold a2o unL;have k:decide ((n:Int)<0)=false:=by simp
 have a:decide ((n:Int) > 4096)=false:=by grind
 simp only[k,a,cF,oB]
 have:=a1F (f:=a3q) (fun i=>((n:Int),(i:Int),(L++a00 i 0,()),())) n (b:=((L++a00 n 0,()),())) (fun i c=>by
   have g:L++a00 i (0:Int)++[0]=L++a00 (i+1) 0:=by simp_all[a41]
   have h:lim ((L++a00 i (0:Int)).length+1)=true:=a1u (by grind);simp only[a3q,dlt c,cT,h,a06,g,a0C (show i<1000000 by omega)])
  (by simp[a3q])
 have h:lim ((L++a00 n (0:Int)).length+1)=true:=a1u (by grind);simp_all
theorem b1V(n:Nat)(L:List Int):(unL n L).length=L.length+n+1:=by simp[unL];rfl
def a3a(x:Int)(n:Nat):Int:=bits .u64 .and (wrap .u64 x) (wrap .u64 ((A0n .u64 1 (n:Int))-1))
def a3b(n:Nat)(l:List Int)(L:List Int):List Int:=l.foldl (fun L x=>a0L (a3a x n) n L) L
theorem a4S(n:Nat):∀(l L:List Int),L.length≤(a3b n l L).length∧(a3b n l L).length≤L.length+n*l.length
 | [],L=>by simp[a3b]
 |x::l,L=>by
  have h:=a0R (a3a x n) n L;have g:=a4S n l (a0L (a3a x n) n L);have e:a3b n (x::l) L=a3b n l (a0L (a3a x n) n L):=rfl;rw[e,lC,Nat.mul_add,Nat.mul_one];omega
theorem a5i(d:n≤63)(j:l.length<10000)(e:L.length<900000000):a2e ((L,()),l,(n:Int))=some (a3b n l L,()):=by
 have a:wrap .u64 (n:Int)=(n:Int):=a0O (by omega);have b:decide ((n:Int)<0)=false:=by simp
 have f:∀(k i:Nat)(h:List Int),i+k=l.length→h.length+64*k<999990000→y0s a4z (l,(n:Int),(i:Int),(h,()),())=some ((a3b n (l.drop i) h,()),()):=by
  intro k
  induction k with
  |zero=>
   intro i h c _;obtain rfl:i=l.length:=by omega
   simp_all[a0E,a4z,a3b]
  |succ k ih=>
   intro i h c hb;have g:i<l.length:=by omega
   have hp:=a0R (a3a l[i] n) n h;rw[a03 g,a0G (s':=(l,(n:Int),((i+1:Nat):Int),(a0L (a3a l[i] n) n h,()),())) (by
    simp only[a4z,dlt g,cT,a0A g,oB,a,b,cF,show bits .u64 .and (wrap .u64 l[i]) (wrap .u64 ((A0n .u64 1 (n:Int))-1))=a3a l[i] n from rfl,a1s d (show h.length<999999000 by omega),a0C (show i<1000000 by omega)])]
   exact ih (i+1) _ (by omega) (by omega)
 have:=f l.length 0 L (by omega) (by omega)
 simp_all[a2e]
def a2y(x w:Int):Bool:=decide (1≤w)&&(decide (w≤31)&&(decide (A0n .i64 (-1) (w-1)≤x)&&decide (x≤wrap .i64 (A0n .i64 1 (w-1)-1))))
theorem a8s(a:w≤32):a3e (x,(w:Int))=some (a2y x w):=by
 unfold a3e a2y a9C a9a
 by_cases h1:1≤(w:Int)
 by_cases h2:(w:Int)≤31
 have h:decide ((w:Int)<1)=false:=by simp_all
 have g:decide ((w:Int) > 31)=false:=by simp_all
 have e:wrap .i64 ((w:Int)-1)=(w:Int)-1:=a0D (by omega);have f:decide ((w:Int)-1<0)=false:=by simp_all
 have k:decide ((w:Int)≥1)=true:=by simp_all
 simp[h1,h2,h,g,f,e]
 grind
 grind
 grind
theorem b1g(b:w≤32):a7t (x,(w:Int))=some (a2y x w):=by
 unfold a7t a2y b4Y b3c
 by_cases h1:1≤(w:Int)
 by_cases h2:(w:Int)≤31
 have f:decide ((w:Int)<1)=false:=by simp_all
 have k:decide ((w:Int) > 31)=false:=by simp_all
 have e:wrap .i64 ((w:Int)-1)=(w:Int)-1:=a0D (by omega);have g:wrap .u64 ((w:Int)-1)=(w:Int)-1:=a0O (by omega);have a:decide ((w:Int)-1<0)=false:=by simp_all
 have h:decide ((w:Int)≥1)=true:=by simp_all
 simp only[h,h1,h2,f,k,a,e,g,decide_true,cT,cF,oB,a25]
 grind
 grind
 grind
def a3c(x:Int):Nat→Nat→Nat
 |0,w=>w
 |k+1,w=>bif (x != 0)&&!a2y x w then a3c x k (w+1)else w
theorem b1W(x:Int):∀(k w:Nat),a3c x k w≤w+k
 |0,w=>a31 _
 |k+1,w=>by
  simp[a3c];cases (x != 0)&&!a2y x w with
  |true=>have:=b1W x k (w+1);grind
  |false=>simp
def a0H(l:List Int):Nat:=l.foldl (fun w x=>a3c x (32-w) w) 0
theorem b2m:∀(l:List Int)(w:Nat),w≤32→l.foldl (fun w x=>a3c x (32-w) w) w≤32
 | [],w,h=>h
 |x::l,w,h=>b2m l _ (show a3c x (32-w) w≤32 by grind[b1W])
theorem a6s(l:List Int):a0H l≤32:=b2m l 0 (by omega)
theorem b8k{x:Int}{l:List Int}{n i:Int}:∀(k w:Nat),w+k=32→y0s a2n ((w:Int),x,l,n,i,())=some (((a3c x k w:Nat):Int),l,n,i,())
 |0,w,h=>by
  obtain rfl:w=32:=by omega
  simp_all[a0E,a2n,a3c]
 |k+1,w,h=>by
  have g:decide ((w:Int)<32)=true:=by grind
  simp[a3c];cases hx:(x != 0)with
  |false=>simp_all[a0E,a2n]
  |true=>
   cases hf:a2y x w with
   |true=>exact a0E (by simp only[a2n,hx,g,a8s (show w≤32 by omega),hf,oB,cT,cF,bT,a49])
   |false=>
    rw[a0G (s':=(((w+1:Nat):Int),x,l,n,i,())) (by simp only[a2n,hx,g,a8s (show w≤32 by omega),hf,oB,cT,a18,a0C (show w<1000000 by omega)])];exact b8k k (w+1) (by omega)
theorem a4m(c:short l):a1w l=some ((a0H l:Nat):Int):=by
 have c:l.length<1000000:=c
 have:=a1z (f:=a4t) l (fun i (w:Nat)=>((w:Int),l,(l.length:Int),(i:Int),())) (fun w x=>(.inl (a3c x (32-w) w):Nat ⊕ (Int×Unit))) (fun _ w=>w≤32) (fun w=>((w:Int),()))
  (fun i h w e=>⟨fun d k=>by
   simp at k;subst k;refine⟨?_,by grind[b1W]⟩;simp only[a4t,dlt h,cT,a0A h,oB,b8k (32-w) w (by omega),a0C (show i<1000000 by omega)],fun b hb=>(by grind)⟩)
  (fun w _=>by simp[a4t]) (a:=0) (by omega)
 simp at this;unfold a1w;rw[this];have g:∀(l:List Int)(w:Nat),a3M (fun w x=>(.inl (a3c x (32-w) w):Nat ⊕ (Int×Unit))) l w=.inl (l.foldl (fun w x=>a3c x (32-w) w) w):=by
  intro l
  induction l with
  |nil=>intro w;rfl
  |cons x l ih=>simp_all[a3M]
 rw[g];rfl
theorem b2n{l:List Int}{i:Nat}(g:i<l.length):∀(k w:Nat),w+k=32→y0s a5z (l,(w:Int),(i:Int),())=some (l,((a3c l[i] k w:Nat):Int),(i:Int),())
 |0,w,h=>by
  obtain rfl:w=32:=by omega
  rfl
 |k+1,w,h=>by
  have f:decide ((w:Int)<32)=true:=by grind
  simp[a3c];cases hx:(l[i] != 0)with
  |false=>simp_all[a0E,a5z,a0A]
  |true=>
   cases hf:a2y l[i] w with
   |true=>exact a0E (by simp only[a5z,a0A g,hx,f,b1g (show w≤32 by omega),hf,oB,cT,cF,bT,a49])
   |false=>
    rw[a0G (s':=(l,((w+1:Nat):Int),(i:Int),())) (by simp only[a5z,a0A g,hx,f,b1g (show w≤32 by omega),hf,oB,cT,a18,a0C (show w<1000000 by omega)])];exact b2n g k (w+1) (by omega)
theorem a4T(c:short l):a4g l=some ((a0H l:Nat):Int):=by
 have c:l.length<1000000:=c
 have:=a1z (f:=a7g) l (fun i (w:Nat)=>(l,(w:Int),(i:Int),())) (fun w x=>(.inl (a3c x (32-w) w):Nat ⊕ (Int×Unit))) (fun _ w=>w≤32) (fun w=>((w:Int),()))
  (fun i h w e=>⟨fun d k=>by
   simp at k;subst k;refine⟨?_,by grind[b1W]⟩;simp only[a7g,dlt h,cT,oB,b2n h (32-w) w (by omega),a0C (show i<1000000 by omega)],fun b hb=>(by grind)⟩)
  (fun w _=>by simp[a7g]) (a:=0) (by omega)
 simp at this;unfold a4g;rw[this];have g:∀(l:List Int)(w:Nat),a3M (fun w x=>(.inl (a3c x (32-w) w):Nat ⊕ (Int×Unit))) l w=.inl (l.foldl (fun w x=>a3c x (32-w) w) w):=by
  intro l
  induction l with
  |nil=>intro w;rfl
  |cons x l ih=>simp_all[a3M]
 rw[g];rfl
def a0S(x:Int):Nat:=if 0≤x then(2*x).toNat else(-2*x-1).toNat
theorem b1X(h:a0B x=true):a0S x<2147483648:=by
 grind[a2v,a0S]
theorem c7M{y:Nat}(h:y<18446744073709551616):bits .u64 .xor (IntKind.max .u64) (y:Int)=((18446744073709551615-y:Nat):Int):=by
 show wrap .u64 (((a04 64 (IntKind.max .u64)) ^^^ (a04 64 (y:Int))).toNat:Int)=_;have g:a04 64 (IntKind.max .u64)=b08 64:=by rfl
 have f:a04 64 (y:Int)=b18 64 y:=a24 64 y;rw[g,f,a94,b02,a29,a28 h];rw[a0O (by omega)]
theorem b1h(h:a0B x=true):a8R x=some ((a0S x:Nat):Int):=by
 have k:=a2v.1 h;unfold a8R b4Z a0S;simp only[a1N,h,oB,bT,cF];have f:∀y:Int,A0n .u64 y 1=wrap .u64 (y*2):=fun y=>rfl
 by_cases h0:0≤x
 have g:decide (x<0)=false:=by simp_all
 simp only[g,cF,oB,if_pos h0,f]
 grind[a0O]
 have g:decide (x<0)=true:=by simp_all
 simp only[g,cT,oB,if_neg h0,f]
 grind[wrap,IntKind.bits,IntKind.signed,c7M]
theorem a6t{N o:Nat}(h:o≤64):A0o .u64 (N:Int) (o:Int)=((N / 2^o:Nat):Int):=b1T h
theorem b0N(h:o≤64)(g:N*2^o<9223372036854775808):A0n .u64 (N:Int) (o:Int)=((N*2^o:Nat):Int):=by
 unfold A0n;show wrap .u64 ((N:Int)*2^(min (o:Int).toNat 64))=_
 grind[a0O]
theorem c1k{y k:Nat}(c:y<18446744073709551616)(f:k≤62):bits .u64 .and (y:Int) (wrap .u64 (A0n .u64 1 (k:Int)-1))=((y%2^k:Nat):Int):=by
 have hp:2^k≤2^62:=a22 (by simp) f;have a:1≤2^k:=Nat.one_le_two_pow;have b:(2:Nat)^62=4611686018427387904:=by rfl
 have h:A0n .u64 1 (k:Int)=((2^k:Nat):Int):=by have:=b0N (N:=1) (o:=k) (by omega) (by omega);simp_all
 have g:wrap .u64 (((2^k:Nat):Int)-1)=((2^k-1:Nat):Int):=by grind[a0O]
 rw[h,g];show wrap .u64 (((a04 64 (y:Int)) &&& (a04 64 ((2^k-1:Nat):Int))).toNat:Int)=_;rw[a24,a24,b03,a29,a29,a28 c,a28 (by omega),Nat.and_two_pow_sub_one_eq_mod]
 have:y%2^k<2^k:=a53 _ (by omega)
 exact a0O (by omega)
theorem b1Y{q:Nat}(h:q<2147483648):wrap .i64 (q:Int)=(q:Int):=a0D (by omega)
def a7l(k:Nat)(x:Int)(L:List Int):List Int:=
 if a0S x / 2^k<32 then a0L ((a0S x%2^k:Nat):Int) k (unL (a0S x / 2^k) L)else a0L ((a0S x:Nat):Int) 32 (unL 32 L)
def a5B(k:Nat)(l:List Int)(L:List Int):List Int:=l.foldl (fun L x=>a7l k x L) L
theorem b3u(h:k≤25)(x:Int)(L:List Int):L.length≤(a7l k x L).length∧(a7l k x L).length≤L.length+100:=by
 grind[a7l,a0R,b1V]
theorem b2o{k:Nat}(h:k≤25):∀(l L:List Int),L.length≤(a5B k l L).length∧(a5B k l L).length≤L.length+100*l.length
 | [],L=>by simp[a5B]
 |x::l,L=>by
  have g:=b3u h x L;have f:=b2o h l (a7l k x L);have e:a5B k (x::l) L=a5B k l (a7l k x L):=rfl
  grind
theorem a9R(h:k≤25):a1c (k:Int)=some true:=by
 unfold a1c
 grind
theorem b7U(r:k≤25)(C:l.length<10000)(t:l.all a0B=true)(B:L.length<900000000):a7P ((L,()),(k:Int),l)=some (0,a5B k l L,()):=by
 have o:wrap .u64 (k:Int)=(k:Int):=a0O (by omega);have e:∀(j i:Nat)(h:List Int),i+j=l.length→h.length+100*j<999990000→y0s a4j ((k:Int),l,(i:Int),(h,()),())=some ((a5B k (l.drop i) h,()),()):=by
  intro j
  induction j with
  |zero=>
   intro i h w _;obtain rfl:i=l.length:=by omega
   simp_all[a0E,a4j,a5B]
  |succ j ih=>
   intro i h w hb;have g:i<l.length:=by omega
   have a:=lA.1 t _ (a05 g);have A:=b1X a;have x:=b3u r l[i] h;have b:decide ((k:Int)<0)=false:=by simp
   have m:A0o .u64 ((a0S l[i]:Nat):Int) (k:Int)=((a0S l[i] / 2^k:Nat):Int):=a6t (by omega);have d:=a30 (a0S l[i]) (2^k);have u:=c1k (y:=a0S l[i]) (k:=k) (by omega) (by omega);have p:wrap .i64 ((a0S l[i] / 2^k:Nat):Int)=((a0S l[i] / 2^k:Nat):Int):=b1Y (a48 d A);rw[a03 g,a0G (s':=((k:Int),l,((i+1:Nat):Int),(a7l k l[i] h,()),())) (by
    by_cases hq:a0S l[i] / 2^k<32
    have c:decide (((a0S l[i] / 2^k:Nat):Int)<32)=true:=decide_eq_true (by omega);have s:(unL (a0S l[i] / 2^k) h).length<999999000:=by
     rw[b1V];omega
    have f:=b3t (L:=h) (n:=a0S l[i] / 2^k) (Nat.le_of_lt (a08 hq (by simp))) (by omega);have hp:=a1s (L:=unL (a0S l[i] / 2^k) h) (v:=((a0S l[i]%2^k:Nat):Int)) (n:=k) (by omega) s;simp only[a4j,dlt g,cT,a0A g,oB,b1h a,o,b,cF,m,c,p,f,u,hp,a7l,if_pos hq,a0C (show i<1000000 by omega)];have c:decide (((a0S l[i] / 2^k:Nat):Int)<32)=false:=decide_eq_false (by omega);have s:=b1V 32 h;have f:a2o ((h,()),(32:Int))=some (0,unL 32 h,()):=b3t (L:=h) (n:=32) (by omega) (by omega);have hp:a0I ((unL 32 h,()),((a0S l[i]:Nat):Int),(32:Int))=some (a6r ((a0S l[i]:Nat):Int) 32,a0L ((a0S l[i]:Nat):Int) 32 (unL 32 h),()):=a1s (L:=unL 32 h) (v:=((a0S l[i]:Nat):Int)) (n:=32) (by omega) (by omega);simp only[a4j,dlt g,cT,a0A g,oB,b1h a,o,b,cF,m,c,p,f,hp,a7l,if_neg hq,a0C (show i<1000000 by omega)])]
   exact ih (i+1) _ (by omega) (by omega)
 have q:=e l.length 0 L (by omega) (by omega);simp at q;have z:short l:=by unfold short;omega
 unfold a7P;simp only[a9R r,oB,bT,cF,a1p z,t,q]
def a1v(zn:List Nat):List Int:=zn.map fun(a:Nat)=>(a:Int)
theorem b9v(n M:Nat):(a00 n M).sum=n*M:=by
 simp
theorem b4B{o n:Int}(h:(a1B o n warm).length≠0):∃zn:List Nat,a1B o n warm=a1v zn∧(zn.sum:Int)=n-warm∧zn.length≤256:=by
 unfold a1B at h⊢;cases hr:(a5P n warm&&(decide (0≤o)&&decide (o≤8)))with
 |false=>simp_all
 |true=>
  rw[hr]at h;simp only[cT]at h⊢;simp[a5P]at hr;unfold a8T at h⊢
  split at h
  rename_i g;rw[if_pos g];obtain⟨O,rfl⟩:=a01 hr.2.1;obtain⟨N,rfl⟩:=a01 (show 0≤n by omega);obtain⟨w,rfl⟩:=a01 (show 0≤warm by omega);simp only[tN]at g⊢;have hp:=c6f (o:=O) (by omega);have f:=b04 N (2^O);rw[g.1,Nat.add_zero]at f;have k:w≤N / 2^O:=by omega
  generalize N / 2^O=M at g k f⊢;generalize 2^O=P at hp f⊢;refine⟨(M-w)::a00 (P-1) M,?_,?_,?_⟩
  grind[a1v,List.map_replicate]
  rw[a87,b9v];obtain⟨q,rfl⟩:∃q,P=q+1:=⟨P-1,by omega⟩
  grind
  simp_all;simp_all
def a8M(k:Int)(part L:List Int):List Int:=
 if k=31 then a3b (a0H part) part (a0L ((a0H part:Nat):Int) 5 (a0L (wrap .u64 k) 5 L))else a5B k.toNat part (a0L (wrap .u64 k) 5 L)
def a4U:List Nat→List Int→List Int→List Int→List Int
 |z::zs,k::ks,l,L=>a4U zs ks (l.drop z) (a8M k (l.take z) L)
 |_,_,_,L=>L
theorem b3v{k:Int}(g:kB k=true)(h L:List Int):L.length≤(a8M k h L).length∧(a8M k h L).length≤L.length+10+100*h.length:=by
 unfold a8M;have b:=a0R (wrap .u64 k) 5 L;split;have c:=a0R ((a0H h:Nat):Int) 5 (a0L (wrap .u64 k) 5 L);have d:=a4S (a0H h) h (a0L ((a0H h:Nat):Int) 5 (a0L (wrap .u64 k) 5 L));have a:=a6s h
 have:a0H h*h.length≤32*h.length:=a86 _ a
 omega;rename_i f;simp[kB]at g
 grind[b2o]
theorem b3w(h:i<zn.length):a38 (a1v zn) i 0=((zn[i]:Nat):Int):=by
 simp_all[a1v]
theorem a2m(h:List Nat):(a1v h).length=h.length:=by simp[a1v]
theorem c1l(h:i<zn.length):(zn.drop i).sum=zn[i]+(zn.drop (i+1)).sum:=by
 grind[a03]
theorem a8U{zn:List Nat}{p:Prt}{l:List Int}(N:p.2.1.length=zn.length)(b:p.2.1.all kB=true)(T:zn.length≤256)(E:l.all a0B=true)(s:l.length≤5000):∀(j i off:Nat)(L:List Int),i+j=zn.length→off+(zn.drop i).sum=l.length→L.length+10*j+100*(l.length-off)<800000000→
  y0s a2J (l,(off:Int),(i:Int),a1v zn,(L,()),p,())=some ((a4U (zn.drop i) (p.2.1.drop i) (l.drop off) L,()),())
 |0,i,off,L,hi,_,_=>by
  obtain rfl:i=zn.length:=by omega
  simp_all[a0E,a2J,a4U,a2m]
 |j+1,i,off,L,hi,hsum,hb=>by
  have a:i<zn.length:=by omega
  have f:i<p.2.1.length:=by omega
  have q:=lA.1 b _ (a05 f);rw[c1l a]at hsum;have y:decide ((0:Int)≤(i:Int))=true:=by simp
  have z:decide ((i:Int)<(((a1v zn).length:Nat):Int))=true:=by simp_all[a2m]
  have w:wrap .i64 ((off:Int)+((zn[i]:Nat):Int))=((off+zn[i]:Nat):Int):=by grind[a0D]
  have A:decide ((0:Int)≤((off+zn[i]:Nat):Int))=true:=by rfl
  have B:decide (((off+zn[i]:Nat):Int)≤((l.length:Nat):Int))=true:=by grind
  have C:decide ((0:Int)≤(off:Int))=true:=by simp
  have D:decide ((off:Int)≤((off+zn[i]:Nat):Int))=true:=by grind
  have h:b17 off (a99 (off+zn[i]) l)=(l.drop off).take zn[i]:=by grind
  have d:(l.drop off).drop zn[i]=l.drop (off+zn[i]):=by simp
  have t:((l.drop off).take zn[i]).length=zn[i]:=by rw[a58,a32];omega
  have v:((l.drop off).take zn[i]).all a0B=true:=lA.2 fun x S=>lA.1 E x (a42 (a43 S));have Q:=b3v q ((l.drop off).take zn[i]) L;have O:=a0R (wrap .u64 p.2.1[i]) 5 L;have c:a0I ((L,()),wrap .u64 p.2.1[i],(5:Int))=some (a6r (wrap .u64 p.2.1[i]) 5,a0L (wrap .u64 p.2.1[i]) 5 L,()):=a1s (n:=5) (by omega) (by omega);have G:zn.drop i=zn[i]::zn.drop (i+1):=a03 a;have H:p.2.1.drop i=p.2.1[i]::p.2.1.drop (i+1):=a03 f;rw[G,H,a4U,d];have o:a2J (l,(off:Int),(i:Int),a1v zn,(L,()),p,())=some (.inl (l,((off+zn[i]:Nat):Int),((i+1:Nat):Int),a1v zn,(a8M p.2.1[i] ((l.drop off).take zn[i]) L,()),p,())):=by
   by_cases h31:p.2.1[i]=31
   have e:(p.2.1[i]==31)=true:=by simp_all
   have R:=a6s ((l.drop off).take zn[i]);have u:=a4T (l:=(l.drop off).take zn[i]) (by unfold short;omega);have P:=a0R ((a0H ((l.drop off).take zn[i]):Nat):Int) 5 (a0L (wrap .u64 p.2.1[i]) 5 L);have I:wrap .u64 ((a0H ((l.drop off).take zn[i]):Nat):Int)=((a0H ((l.drop off).take zn[i]):Nat):Int):=a0O (by omega);have m:a0I ((a0L (wrap .u64 p.2.1[i]) 5 L,()),((a0H ((l.drop off).take zn[i]):Nat):Int),(5:Int))=some (a6r ((a0H ((l.drop off).take zn[i]):Nat):Int) 5,a0L ((a0H ((l.drop off).take zn[i]):Nat):Int) 5 (a0L (wrap .u64 p.2.1[i]) 5 L),()):=a1s (n:=5) (by omega) (by omega);have r:=a5i (l:=(l.drop off).take zn[i]) (L:=a0L ((a0H ((l.drop off).take zn[i]):Nat):Int) 5 (a0L (wrap .u64 p.2.1[i]) 5 L)) (n:=a0H ((l.drop off).take zn[i])) (by omega) (by omega) (by omega);simp only[a2J,y,z,b3w a,w,A,B,C,D,cT,a02,tN,a0A f,oB,c,e,h,u,I,m,r,a0C (show i<1000000 by omega),a8M,if_pos h31];have e:(p.2.1[i]==31)=false:=by simp_all
   simp[kB]at q;obtain⟨K,M⟩:=a01 (show 0≤p.2.1[i]by omega);have g:=b7U (k:=K) (l:=(l.drop off).take zn[i]) (L:=a0L (wrap .u64 p.2.1[i]) 5 L) (by omega) (by omega) v (by omega);rw[←M]at g;have F:K=p.2.1[i].toNat:=by omega
   simp only[a2J,y,z,b3w a,w,A,B,C,D,cT,cF,a02,tN,a0A f,oB,c,e,h,g,a0C (show i<1000000 by omega),a8M,if_neg h31,F]
  rw[a0G o];exact a8U N b T E s j (i+1) (off+zn[i]) _ (by omega) (by omega) (by omega)
theorem b4g(e:k≤25)(g:a0B x=true):∃c,a7h ((k:Int),x)=some c∧0≤c∧c≤65:=by
 have i:=b1X g;have f:A0o .u64 ((a0S x:Nat):Int) (k:Int)=((a0S x / 2^k:Nat):Int):=a6t (by omega);have b:wrap .i64 ((a0S x / 2^k:Nat):Int)=((a0S x / 2^k:Nat):Int):=b1Y (a48 (a30 _ _) i);have a:wrap .u64 (k:Int)=(k:Int):=a0O (by omega);have h:decide ((k:Int)<0)=false:=by simp
 unfold a7h;simp only[a9R e,a1N,g,oB,bT,cF,b1h g,a,h,f,b];generalize a0S x / 2^k=q
 by_cases hq:q<32
 have d:decide ((q:Int)<32)=true:=decide_eq_true (by omega);refine⟨(q:Int)+1+k,?_,by omega,by omega⟩;simp only[d,cT]
 grind[a0D]
 grind
theorem b5l(p:k≤25)(q:l.all a0B=true)(t:l.length<10000):∃c,a7O ((k:Int),l)=some c∧0≤c∧c≤65*l.length:=by
 have g:∀(j i:Nat)(c:Int),i+j=l.length→0≤c→c≤65*i→∃c',y0s a6a ((k:Int),l,c,(i:Int),())=some (c',())∧0≤c'∧c'≤65*l.length:=by
  intro j
  induction j with
  |zero=>
   intro i c o a f;obtain rfl:i=l.length:=by omega
   simp_all[a0E,a6a]
  |succ j ih=>
   intro i c o a f;have h:i<l.length:=by omega
   obtain⟨d,b,m,n⟩:=b4g p (lA.1 q _ (a05 h));have e:wrap .i64 (c+d)=c+d:=a0D (by omega);rw[a0G (s':=((k:Int),l,c+d,((i+1:Nat):Int),())) (by simp only[a6a,dlt h,cT,a0A h,oB,b,e,a0C (show i<1000000 by omega)])];exact ih (i+1) _ (by omega) (by omega) (by omega)
 obtain⟨c,f,r,s⟩:=g l.length 0 0 (by omega) (by omega) (by omega);simp_all[a7O]
theorem c5g(g:w≤32)(f:n<10000):0≤(w:Int)*(n:Int)∧(w:Int)*(n:Int)≤32*n:=by
 have h:w*n≤32*n:=a86 _ g;omega
theorem a8g{zn:List Nat}{p:Prt}{l:List Int}(H:p.2.1.length=zn.length)(h:p.2.1.all kB=true)(N:zn.length≤256)(t:l.all a0B=true)(o:l.length≤5000):∀(j i off:Nat)(c:Int),i+j=zn.length→off+(zn.drop i).sum=l.length→4≤c→c+10*j+65*(l.length-off:Nat)<1000000→
  ∃c',y0s a4A (l,c,(off:Int),(i:Int),a1v zn,p,())=some (c',())∧4≤c'
 |0,i,off,c,hi,_,hc,_=>by
  obtain rfl:i=zn.length:=by omega
  simp_all[a0E,a4A,a2m]
 |j+1,i,off,c,hi,hsum,hc,hb=>by
  have b:i<zn.length:=by omega
  have a:i<p.2.1.length:=by omega
  have m:=lA.1 h _ (a05 a);rw[c1l b]at hsum;have y:decide ((0:Int)≤(i:Int))=true:=by simp
  have z:decide ((i:Int)<(((a1v zn).length:Nat):Int))=true:=by simp_all[a2m]
  have w:wrap .i64 ((off:Int)+((zn[i]:Nat):Int))=((off+zn[i]:Nat):Int):=by grind[a0D]
  have A:decide ((0:Int)≤((off+zn[i]:Nat):Int))=true:=by rfl
  have B:decide (((off+zn[i]:Nat):Int)≤((l.length:Nat):Int))=true:=by grind
  have C:decide ((0:Int)≤(off:Int))=true:=by simp
  have D:decide ((off:Int)≤((off+zn[i]:Nat):Int))=true:=by grind
  have g:b17 off (a99 (off+zn[i]) l)=(l.drop off).take zn[i]:=by grind
  have q:((l.drop off).take zn[i]).length=zn[i]:=by rw[a58,a32];omega
  have s:((l.drop off).take zn[i]).all a0B=true:=lA.2 fun x M=>lA.1 t x (a42 (a43 M));have f:∃d,a7i (p.2.1[i],(l.drop off).take zn[i])=some d∧0≤d∧d≤5+65*zn[i]:=by
   unfold a7i
   by_cases h31:p.2.1[i]=31
   have e:(p.2.1[i]==31)=true:=by simp_all
   have P:=c5g (a6s ((l.drop off).take zn[i])) (show((l.drop off).take zn[i]).length<10000 by omega);refine⟨5+((a0H ((l.drop off).take zn[i]):Nat):Int)*((((l.drop off).take zn[i]).length:Nat):Int),?_,by omega,by omega⟩;simp only[e,cT,a4T (show short ((l.drop off).take zn[i])by unfold short;omega),oB];rw[Int.mul_comm (((((l.drop off).take zn[i]).length:Nat):Int)),a0D (n:=((a0H ((l.drop off).take zn[i]):Nat):Int)*((((l.drop off).take zn[i]).length:Nat):Int)) (by omega),a0D (by omega)];have e:(p.2.1[i]==31)=false:=by simp_all
   simp[kB]at m;obtain⟨K,O⟩:=a01 (show 0≤p.2.1[i]by omega);obtain⟨r,Q,I,L⟩:=b5l (k:=K) (by omega) s (by omega)
   grind
  obtain⟨d,E,F,G⟩:=f;have u:wrap .i64 (c+5)=c+5:=a0D (by omega);have v:wrap .i64 (c+5+d)=c+5+d:=a0D (by omega);rw[a0G (s':=(l,c+5+d,((off+zn[i]:Nat):Int),((i+1:Nat):Int),a1v zn,p,())) (by
   simp only[a4A,y,z,b3w b,w,A,B,C,D,cT,a02,tN,a0A a,oB,g,E,u,v,a0C (show i<1000000 by omega)])]
  exact a8g H h N t o j (i+1) (off+zn[i]) _ (by omega) (by omega) (by omega) (by omega)
structure PartsOk (p:Prt) (n warm:Int) (l:List Int) (zn:List Nat):Prop where
 may:a4R p n warm=true
 sizes:a1B p.1 n warm=a1v zn
 sum:zn.sum=l.length
 len:zn.length≤256
 ks:p.2.1.length=zn.length
 all:p.2.1.all kB=true
 wide:l.all a0B=true
 short:l.length≤5000
 row:a5P n warm=true
 rest:(l.length:Int)=n-warm
 order:0≤p.1∧p.1≤8
theorem PartsOk.of{p:Prt}{n warm:Int}{l:List Int}(h:a4R p n warm=true)(i:(l.length:Int)=n-warm)(j:l.all a0B=true)(e:l.length≤5000):∃g,PartsOk p n warm l g:=by
 have f:=h;simp only[a4R,bA,b00,beq_eq_false_iff_ne,ne_eq,beq_iff_eq]at f;obtain⟨c,o,d⟩:=f;obtain⟨g,a,m,b⟩:=b4B c;have k:a5P n warm=true∧0≤p.1∧p.1≤8:=by
  grind[a1B]
 exact⟨g,h,a,by omega,b,by simp_all[a2m],d,j,e,k.1,i,k.2⟩
theorem b3x{n:Int}(h:PartsOk p n warm l zn):∃c,a6H (p,n,warm,l)=some c∧4≤c:=by
 have a:Go.Ab.short p.2.1:=by have:=h.ks;have:=h.len;unfold Go.Ab.short;omega
 have d:Go.Ab.short l:=by have:=h.short;unfold Go.Ab.short;omega
 have i:=h.short;have j:=h.len;have b:=h.row;simp[a5P]at b;have e:wrap .i64 (n-warm)=n-warm:=a0D (by omega);have k:(((l.length:Nat):Int) != n-warm)=false:=by rw[h.rest];simp
 obtain⟨c,g,f⟩:=a8g h.ks h.all h.len h.wide h.short zn.length 0 0 4 (by omega) (by rw[a82,h.sum];omega) (by omega) (by omega);simp at g;refine⟨c,?_,f⟩;unfold a6H;simp only[a7W a,h.may,oB,bT,cF,e,k,a1p d,h.wide,a4D,h.sizes,g]
def a4Z(p:Prt)(zn:List Nat)(l L:List Int):List Int:=a4U zn p.2.1 l (a0L (wrap .u64 p.1) 4 L)
theorem b6E{n:Int}(h:PartsOk p n warm l zn)(i:L.length<700000000):a7j ((L,()),p,n,warm,l)=some (0,a4Z p zn l L,()):=by
 have e:=h.short;have j:=h.len;obtain⟨c,a,b⟩:=b3x h;have k:(c==0)=false:=by grind
 have d:=a0R (wrap .u64 p.1) 4 L;have f:a0I ((L,()),wrap .u64 p.1,(4:Int))=some (a6r (wrap .u64 p.1) 4,a0L (wrap .u64 p.1) 4 L,()):=a1s (n:=4) (by omega) (by omega);have g:=a8U h.ks h.all h.len h.wide h.short zn.length 0 0 (a0L (wrap .u64 p.1) 4 L) (by omega) (by rw[a82,h.sum];omega) (by omega);simp at g;unfold a7j;simp only[a,oB,k,cF,f,a4D,h.sizes,g,a4Z]
def a7X(s:Stg)(L:List Int):List Int:=a0L (wrap .u64 s.2.1) 4 (a0L (wrap .u64 (wrap .i64 (s.1-1))) 5 L)
def a4V(st:List Stg)(L:List Int):List Int:=st.foldl (fun L s=>a7X s L) L
theorem b2p(s:Stg)(L:List Int):(a7X s L).length≤L.length+9:=by
 grind[a0R,a7X]
theorem b1A:∀(st:List Stg)(L:List Int),(a4V st L).length≤L.length+9*st.length
 | [],L=>by simp[a4V]
 |s::st,L=>by
  have h:=b2p s L;have g:=b1A st (a7X s L);have e:a4V (s::st) L=a4V st (a7X s L):=rfl
  grind
theorem b0O{n wd:Int}{s:Sub}(a:s.2.2.2.2.2.2.2.1.length<10000):∀(j i:Nat)(L:List Int),i+j=s.2.2.2.2.2.2.2.1.length→L.length+64*j<999990000→
  y0s a6b (n,wd,(i:Int),(L,()),s,())=some (n,wd,(a4V (s.2.2.2.2.2.2.2.1.drop i) L,()),s,())
 |0,i,L,hi,_=>by
  obtain rfl:i=s.2.2.2.2.2.2.2.1.length:=by omega
  simp_all[a0E,a6b,a4V]
 |j+1,i,L,hi,hb=>by
  have h:i<s.2.2.2.2.2.2.2.1.length:=by omega
  have k:=a0R (wrap .u64 (wrap .i64 (s.2.2.2.2.2.2.2.1[i].1-1))) 5 L;have b:=b2p s.2.2.2.2.2.2.2.1[i] L;have g:a0I ((L,()),wrap .u64 (wrap .i64 (s.2.2.2.2.2.2.2.1[i].1-1)),(5:Int))=some (a6r (wrap .u64 (wrap .i64 (s.2.2.2.2.2.2.2.1[i].1-1))) 5,a0L (wrap .u64 (wrap .i64 (s.2.2.2.2.2.2.2.1[i].1-1))) 5 L,()):=a1s (n:=5) (by omega) (by omega);have f:a0I ((a0L (wrap .u64 (wrap .i64 (s.2.2.2.2.2.2.2.1[i].1-1))) 5 L,()),wrap .u64 s.2.2.2.2.2.2.2.1[i].2.1,(4:Int))=some (a6r (wrap .u64 s.2.2.2.2.2.2.2.1[i].2.1) 4,a7X s.2.2.2.2.2.2.2.1[i] L,()):=a1s (n:=4) (by omega) (by omega);rw[a03 h,a0G (s':=(n,wd,((i+1:Nat):Int),(a7X s.2.2.2.2.2.2.2.1[i] L,()),s,())) (by
   simp only[a6b,dlt h,cT,a0A h,oB,g,f,a0C (show i<1000000 by omega)])]
  exact b0O a j (i+1) _ (by omega) (by omega)
def a7b(s:Sub)(L:List Int):List Int:=
 a3b (a0H s.2.2.2.2.2.1) s.2.2.2.2.2.1 (a0L ((a0H s.2.2.2.2.2.1:Nat):Int) 5 (a0L (wrap .u64 s.2.2.2.1) 4 (a0L (wrap .u64 (wrap .i64 (((s.2.2.2.2.2.1.length:Nat):Int)-1))) 5 L)))
theorem b9w{s:Sub}(h:s.2.2.2.2.2.1.length≤40)(L:List Int):(a7b s L).length≤L.length+2000:=by
 unfold a7b;have f:=a0R (wrap .u64 (wrap .i64 (((s.2.2.2.2.2.1.length:Nat):Int)-1))) 5 L;have k:=a0R (wrap .u64 s.2.2.2.1) 4 (a0L (wrap .u64 (wrap .i64 (((s.2.2.2.2.2.1.length:Nat):Int)-1))) 5 L);have a:=a0R ((a0H s.2.2.2.2.2.1:Nat):Int) 5 (a0L (wrap .u64 s.2.2.2.1) 4 (a0L (wrap .u64 (wrap .i64 (((s.2.2.2.2.2.1.length:Nat):Int)-1))) 5 L));have b:=a4S (a0H s.2.2.2.2.2.1) s.2.2.2.2.2.1 (a0L ((a0H s.2.2.2.2.2.1:Nat):Int) 5 (a0L (wrap .u64 s.2.2.2.1) 4 (a0L (wrap .u64 (wrap .i64 (((s.2.2.2.2.2.1.length:Nat):Int)-1))) 5 L)));have g:=a6s s.2.2.2.2.2.1
 have:a0H s.2.2.2.2.2.1*s.2.2.2.2.2.1.length≤32*40:=a50 g h
 omega
theorem a9S(h:s.2.2.2.2.2.1.length≤40)(i:L.length<800000000):a4i ((L,()),s)=some (a7b s L,()):=by
 have c:=a0R (wrap .u64 (wrap .i64 (((s.2.2.2.2.2.1.length:Nat):Int)-1))) 5 L;have d:=a0R (wrap .u64 s.2.2.2.1) 4 (a0L (wrap .u64 (wrap .i64 (((s.2.2.2.2.2.1.length:Nat):Int)-1))) 5 L);have e:=a0R ((a0H s.2.2.2.2.2.1:Nat):Int) 5 (a0L (wrap .u64 s.2.2.2.1) 4 (a0L (wrap .u64 (wrap .i64 (((s.2.2.2.2.2.1.length:Nat):Int)-1))) 5 L));have j:=a6s s.2.2.2.2.2.1;have f:wrap .u64 ((a0H s.2.2.2.2.2.1:Nat):Int)=((a0H s.2.2.2.2.2.1:Nat):Int):=a0O (by omega);have k:a0I ((L,()),wrap .u64 (wrap .i64 (((s.2.2.2.2.2.1.length:Nat):Int)-1)),(5:Int))=some (a6r (wrap .u64 (wrap .i64 (((s.2.2.2.2.2.1.length:Nat):Int)-1))) 5,a0L (wrap .u64 (wrap .i64 (((s.2.2.2.2.2.1.length:Nat):Int)-1))) 5 L,()):=a1s (n:=5) (by omega) (by omega);have a:a0I ((a0L (wrap .u64 (wrap .i64 (((s.2.2.2.2.2.1.length:Nat):Int)-1))) 5 L,()),wrap .u64 s.2.2.2.1,(4:Int))=some (a6r (wrap .u64 s.2.2.2.1) 4,a0L (wrap .u64 s.2.2.2.1) 4 (a0L (wrap .u64 (wrap .i64 (((s.2.2.2.2.2.1.length:Nat):Int)-1))) 5 L),()):=a1s (n:=4) (by omega) (by omega);have b:a0I ((a0L (wrap .u64 s.2.2.2.1) 4 (a0L (wrap .u64 (wrap .i64 (((s.2.2.2.2.2.1.length:Nat):Int)-1))) 5 L),()),((a0H s.2.2.2.2.2.1:Nat):Int),(5:Int))=some (a6r ((a0H s.2.2.2.2.2.1:Nat):Int) 5,a0L ((a0H s.2.2.2.2.2.1:Nat):Int) 5 (a0L (wrap .u64 s.2.2.2.1) 4 (a0L (wrap .u64 (wrap .i64 (((s.2.2.2.2.2.1.length:Nat):Int)-1))) 5 L)),()):=a1s (n:=5) (by omega) (by omega);have g:=a5i (l:=s.2.2.2.2.2.1) (n:=a0H s.2.2.2.2.2.1) (L:=a0L ((a0H s.2.2.2.2.2.1:Nat):Int) 5 (a0L (wrap .u64 s.2.2.2.1) 4 (a0L (wrap .u64 (wrap .i64 (((s.2.2.2.2.2.1.length:Nat):Int)-1))) 5 L))) (by omega) (by omega) (by omega);unfold a4i;simp only[k,a,a4T (show short s.2.2.2.2.2.1 by unfold short;omega),f,b,g,oB,a7b]
def b0P(s:Sub)(L:List Int):List Int:=
 a0L ((a0H s.2.2.2.2.2.2.2.2.1:Nat):Int) 5 (a0L (wrap .u64 s.2.1) 5 (a0L (wrap .u64 s.1) 3 L))
def a2K(s:Sub)(L:List Int):List Int:=
 if s.1=2 then a0L (wrap .u64 s.2.2.1) 3 L
 else if s.1=3 then a7b s L
 else if s.1=4 then a7b s (a3b 8 s.2.2.2.2.2.2.1 (a0L (wrap .u64 (wrap .i64 (s.2.2.2.2.1-1))) 10 L))
 else if s.1=5 then a4V s.2.2.2.2.2.2.2.1 (a0L (wrap .u64 ((s.2.2.2.2.2.2.2.1.length:Nat):Int)) 2 L)
 else L
theorem c1m(h:SmallS s)(L:List Int):(a2K s L).length≤L.length+3000:=by
 have f:=h.coefs;have k:=h.taps;have g:=h.stages
 grind[a2K,a0R,b9w,a4S,b1A]
theorem b2q:∀(zs:List Nat)(ks l L:List Int),ks.all kB=true→(a4U zs ks l L).length≤L.length+10*zs.length+100*l.length
 |z::zs,k::ks,l,L,h=>by
  simp only[a34,bA]at h;have g:=b3v h.1 (l.take z) L;have f:=b2q zs ks (l.drop z) (a8M k (l.take z) L) h.2;rw[a58]at g;rw[a32]at f;simp only[a4U,lC];omega
 | [],_,_,_,_=>by simp_all[a4U]
 |_::_,[],_,_,_=>by grind[a4U]
def a8t(s:Sub)(zn:List Nat)(L:List Int):List Int:=
 if s.1=0∨s.1=1 then a3b (a0H s.2.2.2.2.2.2.2.2.1) s.2.2.2.2.2.2.2.2.1 (a2K s (b0P s L))
 else a4Z s.2.2.2.2.2.2.2.2.2.1 zn s.2.2.2.2.2.2.2.2.2.2.1 (a3b (a0H s.2.2.2.2.2.2.2.2.1) s.2.2.2.2.2.2.2.2.1 (a2K s (b0P s L)))
theorem c4s(h:SmallS s){n:Int}(Q:L.length<100000000):
  ∃(e:Int)(L':List Int),a2V ((L,()),s,n)=some (e,L',())∧(e=0∨L'=L)∧L'.length≤L.length+700000∧
   ((a1Y s n).isSome=true→e=0∧∃a,L'=a8t s a L∧(s.1≠0∧s.1≠1→PartsOk s.2.2.2.2.2.2.2.2.2.1 n ((s.2.2.2.2.2.2.2.2.1.length:Nat):Int) s.2.2.2.2.2.2.2.2.2.2.1 a))∧((a1Y s n).isSome=false→e=1∧L'=L):=by
 unfold a2V;simp only[b9u h,oB];cases hs:(a1Y s n).isSome with
 |false=>grind
 |true=>
  have hp:a1C s n:=by
   grind[a1Y]
  obtain⟨O,P,D,-,-,-,-,A,G,E,-,o⟩:=hp;have c:=b3q D;have w:=a6s s.2.2.2.2.2.2.2.2.1;have v:short s.2.2.2.2.2.2.2.2.1:=by have:=h.warm;unfold short;omega
  have d:=h.warm;have u:=h.rest;have F:=h.stages;have R:=h.taps;have S:=a0R (wrap .u64 s.1) 3 L;have T:=a0R (wrap .u64 s.2.1) 5 (a0L (wrap .u64 s.1) 3 L);have U:=a0R ((a0H s.2.2.2.2.2.2.2.2.1:Nat):Int) 5 (a0L (wrap .u64 s.2.1) 5 (a0L (wrap .u64 s.1) 3 L));have C:wrap .u64 ((a0H s.2.2.2.2.2.2.2.2.1:Nat):Int)=((a0H s.2.2.2.2.2.2.2.2.1:Nat):Int):=a0O (by omega);have K:a0I ((L,()),wrap .u64 s.1,(3:Int))=some (a6r (wrap .u64 s.1) 3,a0L (wrap .u64 s.1) 3 L,()):=a1s (n:=3) (by omega) (by omega);have r2:a0I ((a0L (wrap .u64 s.1) 3 L,()),wrap .u64 s.2.1,(5:Int))=some (a6r (wrap .u64 s.2.1) 5,a0L (wrap .u64 s.2.1) 5 (a0L (wrap .u64 s.1) 3 L),()):=a1s (n:=5) (by omega) (by omega);have B:a0I ((a0L (wrap .u64 s.2.1) 5 (a0L (wrap .u64 s.1) 3 L),()),((a0H s.2.2.2.2.2.2.2.2.1:Nat):Int),(5:Int))=some (a6r ((a0H s.2.2.2.2.2.2.2.2.1:Nat):Int) 5,b0P s L,()):=a1s (n:=5) (by omega) (by omega);have H:(b0P s L).length≤L.length+13:=by unfold b0P;omega
  generalize hM:b0P s L=M at B H;have V:=c1m h M;have I:=a4S (a0H s.2.2.2.2.2.2.2.2.1) s.2.2.2.2.2.2.2.2.1 (a2K s M);have X:a0H s.2.2.2.2.2.2.2.2.1*s.2.2.2.2.2.2.2.2.1.length≤32*5000:=a50 w d;have g:=a5i (l:=s.2.2.2.2.2.2.2.2.1) (n:=a0H s.2.2.2.2.2.2.2.2.1) (L:=a2K s M) (by omega) (by omega) (by omega)

  have b:=b0O (n:=n) (wd:=((a0H s.2.2.2.2.2.2.2.2.1:Nat):Int)) (s:=s) (by omega) s.2.2.2.2.2.2.2.1.length 0 (a0L (wrap .u64 ((s.2.2.2.2.2.2.2.1.length:Nat):Int)) 2 M) (by omega) (by grind[a0R]);have Y:=a0R (wrap .u64 (wrap .i64 (s.2.2.2.2.1-1))) 10 M;have Z:=a4S 8 s.2.2.2.2.2.2.1 (a0L (wrap .u64 (wrap .i64 (s.2.2.2.2.1-1))) 10 M);have j:a2e ((a0L (wrap .u64 (wrap .i64 (s.2.2.2.2.1-1))) 10 M,()),s.2.2.2.2.2.2.1,(8:Int))=some (a3b 8 s.2.2.2.2.2.2.1 (a0L (wrap .u64 (wrap .i64 (s.2.2.2.2.1-1))) 10 M),()):=a5i (n:=8) (by omega) (by omega) (by omega);have t:a99 3 s.2.2.2.2.2.2.1=s.2.2.2.2.2.2.1:=a36 (by omega);simp at b;have x:a0I ((M,()),wrap .u64 s.2.2.1,(3:Int))=some (a6r (wrap .u64 s.2.2.1) 3,a0L (wrap .u64 s.2.2.1) 3 M,()):=a1s (n:=3) (by omega) (by omega);have y:a0I ((M,()),wrap .u64 (wrap .i64 (s.2.2.2.2.1-1)),(10:Int))=some (a6r (wrap .u64 (wrap .i64 (s.2.2.2.2.1-1))) 10,a0L (wrap .u64 (wrap .i64 (s.2.2.2.2.1-1))) 10 M,()):=a1s (n:=10) (by omega) (by omega);have z:a0I ((M,()),wrap .u64 ((s.2.2.2.2.2.2.2.1.length:Nat):Int),(2:Int))=some (a6r (wrap .u64 ((s.2.2.2.2.2.2.2.1.length:Nat):Int)) 2,a0L (wrap .u64 ((s.2.2.2.2.2.2.2.1.length:Nat):Int)) 2 M,()):=a1s (n:=2) (by omega) (by omega);have q:=a9S (s:=s) h.coefs (L:=M) (by omega);have r:=a9S (s:=s) h.coefs (L:=a3b 8 s.2.2.2.2.2.2.1 (a0L (wrap .u64 (wrap .i64 (s.2.2.2.2.1-1))) 10 M)) (by omega);simp only[bT,cF,a4T v,oB,K,r2,C,B];generalize hPM:a3b (a0H s.2.2.2.2.2.2.2.2.1) s.2.2.2.2.2.2.2.2.1 (a2K s M)=PM at g I

  have m:∀(i:s.1≠0∧s.1≠1),∃a,PartsOk s.2.2.2.2.2.2.2.2.2.1 n ((s.2.2.2.2.2.2.2.2.1.length:Nat):Int) s.2.2.2.2.2.2.2.2.2.2.1 a:=fun i=>by
   simp_all[PartsOk.of]
  rcases c with k|k|k|k|k|k;have f:a2K s M=M:=by unfold a2K;grind
  rw[f]at g;refine⟨0,PM,?_,.inl rfl,by omega,fun _=>⟨rfl,[],by simp_all[a8t],fun h=>absurd k (by omega)⟩,fun h=>by grind⟩;simp only[k,show((0:Int)==2)=false from rfl,show((0:Int)==4)=false from rfl,show((0:Int)==3)=false from rfl,show((0:Int)==5)=false from rfl,cF,oB,g,a4l]
  simp
  have f:a2K s M=M:=by unfold a2K;grind
  rw[f]at g;refine⟨0,PM,?_,.inl rfl,by omega,fun _=>⟨rfl,[],by simp_all[a8t],fun h=>absurd k (by omega)⟩,fun h=>by grind⟩;simp only[k,show((1:Int)==2)=false from rfl,show((1:Int)==4)=false from rfl,show((1:Int)==3)=false from rfl,show((1:Int)==5)=false from rfl,cF,oB,g,a4l]
  simp
  all_goals
   obtain⟨a,p⟩:=m (by omega);have t2:=b6E (L:=PM) p (by omega);have N:(a4Z s.2.2.2.2.2.2.2.2.2.1 a s.2.2.2.2.2.2.2.2.2.2.1 PM).length≤L.length+700000:=by
    have z1:=a0R (wrap .u64 s.2.2.2.2.2.2.2.2.2.1.1) 4 PM;have z2:=b2q a s.2.2.2.2.2.2.2.2.2.1.2.1 s.2.2.2.2.2.2.2.2.2.2.1 (a0L (wrap .u64 s.2.2.2.2.2.2.2.2.2.1.1) 4 PM) p.all;have z3:=p.len
    grind[a4Z]
   refine⟨0,a4Z s.2.2.2.2.2.2.2.2.2.1 a s.2.2.2.2.2.2.2.2.2.2.1 PM,?_,.inl rfl,N,fun _=>⟨rfl,a,by simp_all[a8t],fun _=>p⟩,fun h=>by grind⟩
  have f:a2K s M=a0L (wrap .u64 s.2.2.1) 3 M:=by unfold a2K;grind
  rw[f]at g;simp only[k,show((2:Int)==2)=true from rfl,cT,x,oB,g,a4l]
  grind
  have f:a2K s M=a7b s M:=by unfold a2K;grind
  rw[f]at g;simp only[k,show((3:Int)==2)=false from rfl,show((3:Int)==3)=true from rfl,cT,cF,q,oB,g,a4l]
  grind
  have f:a2K s M=a7b s (a3b 8 s.2.2.2.2.2.2.1 (a0L (wrap .u64 (wrap .i64 (s.2.2.2.2.1-1))) 10 M)):=by unfold a2K;grind
  rw[f]at g;simp only[k,show((4:Int)==2)=false from rfl,show((4:Int)==3)=false from rfl,show((4:Int)==4)=true from rfl,cT,cF,y,t,j,r,oB,g,a4l]
  grind
  have f:a2K s M=a4V s.2.2.2.2.2.2.2.1 (a0L (wrap .u64 ((s.2.2.2.2.2.2.2.1.length:Nat):Int)) 2 M):=by unfold a2K;grind
  rw[f]at g;simp only[k,show((5:Int)==2)=false from rfl,show((5:Int)==4)=false from rfl,show((5:Int)==3)=false from rfl,show((5:Int)==5)=true from rfl,cT,cF,z,b,oB,g,a4l]
  grind
theorem a8N(h:List Nat):(a1v h).map a33=h:=by
 unfold a1v;rw[a61]
 have:a33∘(fun(a:Nat)=>(a:Int))=id:=by rfl
 simp_all
theorem c5h{n:Int}{z z':List Nat}(h:PartsOk p n warm l z)(g:PartsOk p n warm l z'):z=z':=by
 rw[←a8N z,←h.sizes,g.sizes,a8N]
def c7s(s:Sub)(n:Int):Int:=
 if(a1Y s n).isSome=true then(((a8t s ((a1B s.2.2.2.2.2.2.2.2.2.1.1 n ((s.2.2.2.2.2.2.2.2.1.length:Nat):Int)).map a33) []).length:Nat):Int)else 0
def dif:List Int→List Int
 |a::b::r=>W (b-a)::dif (b::r)
 |_=>[]
def c6h:Nat→List Int→List Int
 |0,l=>l
 |o+1,l=>dif (c6h o l)
def c4t(g:List Int→Int):List Int→List Int→List Int
 | [],_=>[]
 |x::r,done=>W (x-g done)::c4t g r (done++[x])
def c7t(g:List Int→Int)(r done:List Int):Option (List Int):=bif (c4t g r done).all a0B then some (c4t g r done)else none
def c7u(l c:List Int)(s:Int):Option (List Int):=bif l.all a0B then c7t (a7U c s) (l.drop c.length) (l.take c.length)else none
def c8E(l:List Int)(lag:Int)(t:List Int):Option (List Int):=bif l.all a0B then c7t (a6K lag t) l []else none
def rsO:List Int→List Int→Fil→Option (List Int)
 | [],done,_=>some done
 |x::r,done,f=>bif a0B (W (x-a0Q f))then rsO r (done++[W (x-a0Q f)]) (a9u f x)else none
def lRO:List Stg→List Int→Option (List Int)
 | [],row=>some row
 |s::r,row=>match rsO row [] (a7V s)with
  |some row'=>lRO r row'
  |none=>none
def c7N(l:List Int)(st:List Stg):Option (List Int):=bif l.all a0B then lRO st l else none
def c7O(l:List Int)(w:Nat):Prop:=
 ((∀x∈l,x=0)∧w=0)∨((∃x∈l,x≠0)∧w≤30∧(∀x∈l,((2^w:Nat):Int) ∣ x)∧(w=30∨∃x∈l,¬ ((2^(w+1):Nat):Int) ∣ x))
def c7v(k:Nat)(x:Int):Nat:=if a0S x / 2^k<32 then a0S x / 2^k+1+k else 65
theorem c8F{x:Int}(h:a0B x=true):a2y x ((31:Nat):Int)=true:=by
 have:=a2v.1 h
 have g:A0n .i64 (-1) (((31:Nat):Int)-1)=-1073741824:=by rfl
 have f:wrap .i64 (A0n .i64 1 (((31:Nat):Int)-1)-1)=1073741823:=by rfl
 unfold a2y
 grind
theorem b6F{x:Int}(h:a0B x=true):∀(k w:Nat),w+k=32→1≤k→a3c x k w≤31
 |k+1,w,hk,_=>by
  simp[a3c]
  by_cases h31:w=31
  grind[c8F]
  ·cases (x != 0)&&!a2y x w with
   |true=>exact b6F h k (w+1) (by omega) (by omega)
   |false=>grind
theorem b0Q:∀(l:List Int)(w:Nat),l.all a0B=true→w≤31→l.foldl (fun w x=>a3c x (32-w) w) w≤31
 | [],w,_,h=>h
 |x::l,w,hl,h=>by
  simp only[a34,bA]at hl;exact b0Q l _ hl.2 (b6F hl.1 (32-w) w (by omega) (by omega))
theorem a7c{l:List Int}(h:l.all a0B=true):a0H l≤31:=b0Q l 0 h (by omega)
def d1p(k:Int)(part:List Int):Nat:=5+(if k=31 then 5+a0H part*part.length else(part.map (c7v k.toNat)).sum)
def c5i:List Nat→List Int→List Int→Nat
 |z::zs,k::ks,l=>d1p k (l.take z)+c5i zs ks (l.drop z)
 |_,_,_=>0
theorem a6u{q:Nat}(h:q<2147483648):wrap .u64 (q:Int)=(q:Int):=a0O (by omega)
def a6L(o:Int):Sub:=((0:Int),(0:Int),o,(0:Int),(0:Int),([]:List Int),a00 3 (0:Int),([]:List Stg),([]:List Int),((0:Int),([]:List Int),()),([]:List Int),())
def c6i(k:Nat)(l:List Int):Nat:=(l.map (c7v k)).sum
def rbN(l:List Int):Nat→Nat
 |0=>0
 |i+1=>if c6i (i+1) l<c6i (rbN l i) l then i+1 else rbN l i
def c7P(l:List Int):Int:=if 5+a0H l*l.length<c6i (rbN l 25) l then 31 else((rbN l 25:Nat):Int)
def b7V:List Nat→List Int→List Int
 | [],_=>[]
 |z::zs,l=>c7P (l.take z)::b7V zs (l.drop z)
def zsN(o n warm:Int):List Nat:=(a1B o n warm).map a33
def d1q(o n warm:Int)(l:List Int):Prt:=(o,b7V (zsN o n warm) l,())
def c7w(o n warm:Int)(l:List Int):Nat:=4+c5i (zsN o n warm) (b7V (zsN o n warm) l) l
def b3y(n warm:Int)(l:List Int):Nat→Prt×Nat
 |0=>((0,[],()),0)
 |i+1=>if(a1B (i:Int) n warm).length=0 then b3y n warm l i else
   if(b3y n warm l i).2=0∨c7w (i:Int) n warm l<(b3y n warm l i).2 then(d1q (i:Int) n warm l,c7w (i:Int) n warm l)else b3y n warm l i
def d1r(n warm:Int)(l:List Int):Prt:=(b3y n warm l 7).1
def b7W(k:Int)(s:Sub):Sub:=
 (k,(0:Int),(if k=2 then s.2.2.1 else 0),(if k=3∨k=4 then s.2.2.2.1 else 0),(if k=4 then s.2.2.2.2.1 else 0),(if k=3∨k=4 then s.2.2.2.2.2.1 else[]),
  ((if k=4 then s.2.2.2.2.2.2.1 else a00 3 (0:Int)),(if k=5 then s.2.2.2.2.2.2.2.1 else[]),([]:List Int),((0:Int),([]:List Int),()),([]:List Int),()))
def z0:Prt:=((0:Int),([]:List Int),())
def c4u(s:Sub)(w:Nat)(wm:List Int)(p:Prt)(r:List Int):Sub:=
 (s.1,(w:Int),s.2.2.1,s.2.2.2.1,s.2.2.2.2.1,s.2.2.2.2.2.1,s.2.2.2.2.2.2.1,s.2.2.2.2.2.2.2.1,wm,p,r,())
open Classical in
def c1n (l:List Int):Nat:=if h:∃w,c7O l w then h.choose else 0
def b9D(l:List Int):List Int:=l.map fun x=>A0o .i64 x (c1n l:Int)
def d1s(k:Int)(s:Sub)(d:List Int):Option (List Int×List Int):=
 if k=2 then(bif (c6h s.2.2.1.toNat d).all a0B then some (d.take s.2.2.1.toNat,c6h s.2.2.1.toNat d)else none)
 else if k=3 then(c7u d s.2.2.2.2.2.1 s.2.2.2.1).map fun r=>(d.take s.2.2.2.2.2.1.length,r)
 else if k=4 then(c8E d s.2.2.2.2.1 s.2.2.2.2.2.2.1).bind fun x=>(c7u x s.2.2.2.2.2.1 s.2.2.2.1).map fun r=>(x.take s.2.2.2.2.2.1.length,r)
 else(c7N d s.2.2.2.2.2.2.2.1).map fun r=>([],r)
open Classical in

def b9E (k:Int) (l:List Int) (s:Sub):Sub×Int:=
 if ¬ (1≤l.length∧l.length≤4096∧a6R k s (l.length:Int))then(a6L 0,1)
 else if l.all a0B=false then(a6L 0,6)
 else if k=0 then(bif l.all (fun x=>x==l.headD 0)then(c4u (b7W 0 s) 0 [l.headD 0] z0 [],0)else(a6L 0,7))
 else if k=1 then(c4u (b7W 1 s) (c1n l) (b9D l) z0 [],0)
 else match d1s k s (b9D l)with
  |none=>(a6L 0,6)
  |some (wm,r)=>(c4u (b7W k s) (c1n l) wm (d1r (l.length:Int) (wm.length:Int) r) r,0)
theorem a9T{α A β:Type}(g:A→α→A)(h:A→β):∀(l:List α)(a:A),b3f h (a3M (fun a x=>.inl (g a x)) l a)=h (l.foldl g a)
 | [],_=>rfl
 |x::l,a=>a9T g h l (g a x)
theorem b6G{k n:Int}(h:a6R k s n):0≤k∧k≤5:=by
 rcases h with h|h|⟨h,-⟩|⟨h,-⟩|⟨h,-⟩|⟨h,-⟩<;>omega
theorem c2y{n:Int}(h:(a1Y s n).isSome=true):a1C s n:=by
 grind[a1Y]
structure Shifted (l m:List Int) (n:Nat):Prop where
 len:m.length=l.length
 wl:l.all a0B=true
 wm:m.all a0B=true
 down:b9D m=b9D l
 waste:c1n m=c1n l+n
 fl:l.all (fun x=>x==l.headD 0)=false
 fm:m.all (fun x=>x==m.headD 0)=false
structure BestIs (l:List Int) (cs:List Sub) (a:Int×(Bool×Sub)):Prop where
 one:a.2.1=true→∃c∈cs,(b9E c.1 l c).2=0∧a.2.2=(b9E c.1 l c).1∧a.1=c7s a.2.2 (l.length:Int)
 least:∀c∈cs,(b9E c.1 l c).2=0→a.2.1=true∧a.1≤c7s (b9E c.1 l c).1 (l.length:Int)
@[reducible] def Rd:Type:=(List Int)×(Int×(Int×Unit))
variable {r r':Rd}
def a2g(L:List Int):Prop:=∀b∈L,b=0∨b=1
def a8u(bs:List Int)(i:Nat):Bool:=(bs.getD (i / 8) 0).toNat.testBit (7-i%8)
theorem or8{x y:Nat}(h:x<256)(g:y<256):bits .u8 .or (x:Int) (y:Int)=((x ||| y:Nat):Int):=by
 show wrap .u8 (((a04 8 (x:Int)) ||| (a04 8 (y:Int))).toNat:Int)=_;rw[a24,a24,a72,a29,a29,a28 h,a28 g,a7S]
 have:x ||| y<2^8:=b01 h g
 omega
theorem d5e{b:Int}(hb:b=0∨b=1){r:Nat}(g:r<8):A0n .u8 b (7-(r:Int))=((b.toNat*2^(7-r):Nat):Int):=by
 have h:∀r:Fin 8,A0n .u8 0 (7-(r.1:Int))=((0*2^(7-r.1):Nat):Int)∧A0n .u8 1 (7-(r.1:Int))=((1*2^(7-r.1):Nat):Int):=by decide +kernel
 rcases hb with rfl|rfl;exact(h ⟨r,g⟩).1;exact(h ⟨r,g⟩).2
theorem c6j{x:Nat}(h:x<256){r:Nat}(g:r<8):bits .u8 .and (A0o .u8 (x:Int) (7-(r:Int))) 1=if x.testBit (7-r)then 1 else 0:=by
 have e:A0o .u8 (x:Int) (7-(r:Int))=((x / 2^(7-r):Nat):Int):=by
  show a91 (x:Int) (2^(min (7-(r:Int)).toNat 8))=_
  grind
 rw[e];have f:x / 2^(7-r)<256:=a48 (a30 _ _) h;show wrap .u8 (((a04 8 ((x / 2^(7-r):Nat):Int)) &&& (a04 8 1)).toNat:Int)=_
 grind[a04,a7S]
theorem c5j(L:List Int)(b:Int)(i:Nat):(L++[b]).getD i 0=if i=L.length then b else L.getD i 0:=by
 grind
theorem c1o(h:List Int)(k:Nat)(y:Int)(g:k<h.length)(j:Nat):(h.set k y).getD j 0=if j=k then y else h.getD j 0:=by
 grind
theorem b8l:∀(n:Nat)(L:List Int),L.length=n→a2g L→(∀j,0≤(wL L).1.getD j 0∧(wL L).1.getD j 0<256)∧∀i,a8u (wL L).1 i=decide (L.getD i 0=1)
 |0,L,h,_=>by
  simp_all[wL,a8u]
 |n+1,L,h,hL=>by
  obtain⟨g,b,rfl⟩:∃g b,L=g++[b]:=by
   rcases a56 L with rfl|⟨g,b,e⟩
   all_goals simp_all
  have hb:b=0∨b=1:=hL b (by simp);obtain⟨v,w⟩:=b8l n g (by simp_all) fun c D=>hL c (by grind);obtain⟨o,p⟩:=a8r g;rw[c2Q];generalize wL g=wr at o p v w⊢;obtain⟨d,m,u⟩:=wr;have o:m=(g.length:Int):=o;have p:d.length=(g.length+7) / 8:=p;subst o;have e8:((g.length:Int) / 8).toNat=g.length / 8:=by rfl
  have r:(g.length:Int)%8=((g.length%8:Nat):Int):=by rfl
  obtain⟨f,a,y,z⟩:∃f:List Int,(if(g.length:Int)%8=0 then d++[0]else d)=f∧g.length / 8<f.length∧∀j,f.getD j 0=d.getD j 0:=by
   grind
  rw[r]at a;have C:g.length%8<8:=a53 _ (by simp);obtain⟨x,s⟩:∃x:Nat,d.getD (g.length / 8) 0=(x:Int):=a01 (v _).1;have k:x<256:=by
   grind
  have t:b.toNat*2^(7-g.length%8)<256:=by
   have hp:2^(7-g.length%8)≤2^7:=a22 (by simp) (by omega)
   grind
  have B:x ||| b.toNat*2^(7-g.length%8)<2^8:=b01 k t;have l:(c1j (d,(g.length:Int),u) b).1=f.set (g.length / 8) ((x ||| b.toNat*2^(7-g.length%8):Nat):Int):=by
   unfold c1j;simp only[a,e8,r];rw[z,s,d5e hb C,or8 k t]
  rw[l];refine⟨fun j=>?_,fun i=>?_⟩
  grind[c1o]
  ·unfold a8u;rw[c1o _ _ _ y,c5j];have q:=w i;unfold a8u at q
   by_cases hk:i / 8=g.length / 8
   ·rw[if_pos hk,tN,Nat.testBit_or];rw[hk,s,tN]at q;rw[q];have A:(b.toNat*2^(7-g.length%8)).testBit (7-i%8)=(decide (b=1)&&decide (i=g.length)):=by
     rcases hb with rfl|rfl
     all_goals grind
    grind
   grind
theorem c2R(h:a2g L):(∀j,0≤(wL L).1.getD j 0∧(wL L).1.getD j 0<256)∧∀i,a8u (wL L).1 i=decide (L.getD i 0=1):=b8l _ L rfl h
def rdr(P R:List Int):Rd:=((wL (P++R)).1,(P.length:Int),(0:Int),())
theorem b1B(k:a2g L)(o:L.length<1000000000)(l:i<L.length)(t:Int×(Int×Unit)):
  a0V (((wL L).1,t),(i:Int))=some (L.getD i 0,(wL L).1,t):=by
 obtain⟨d,e⟩:=c2R k;obtain⟨-,n⟩:=a8r L;have m:a40 (i:Int) 8=((i%8:Nat):Int):=by rfl
 have j:a92 (i:Int) 8=((i / 8:Nat):Int):=by rfl
 have b:wrap .i64 ((i / 8:Nat):Int)=((i / 8:Nat):Int):=a0D (by omega);have c:wrap .i64 (7-((i%8:Nat):Int))=7-((i%8:Nat):Int):=a0D (by omega);have g:decide (7-((i%8:Nat):Int)<0)=false:=by grind
 have hb:i / 8<(wL L).1.length:=by omega
 have f:(wL L).1[i / 8]=(wL L).1.getD (i / 8) 0:=by grind
 unfold a0V;simp only[m,j,b,c,g,a0A hb,oB,cF];obtain⟨x,a⟩:∃x:Nat,(wL L).1.getD (i / 8) 0=(x:Int):=a01 (d _).1;have h:x<256:=by grind
 rw[f,a,c6j h (a53 _ (by simp))]
 have:=e i
 unfold a8u at this;rw[a,tN]at this;rw[this];have hv:L.getD i 0=0∨L.getD i 0=1:=by
  have:L.getD i 0=L[i]:=by simp_all
  rw[this];exact k _ (a05 l)
 grind
theorem a6v{v:Nat}(hv:v<18446744073709551616){i:Nat}(h:i≤64):a2x (v:Int) i=((v / 2^i%2:Nat):Int):=by
 unfold a2x;rw[a6t h];have g:v / 2^i<18446744073709551616:=a48 (a30 _ _) hv;show wrap .u8 (wrap .u64 (((a04 64 ((v / 2^i:Nat):Int)) &&& (a04 64 1)).toNat:Int))=_
 grind[a04,a0O,a7S]
theorem c4v{v:Nat}(hv:v<18446744073709551616):∀n,n≤64→a2g (pb (v:Int) n)
 |0,_=>fun b hb=>by cases hb
 |n+1,h=>fun b hb=>by
  rcases mC.1 hb with rfl|hb
  grind[a6v]
  exact c4v hv n (by omega) b hb
theorem a2g.app{A B:List Int}(h:a2g A)(g:a2g B):a2g (A++B):=fun b hb=>(mA.1 hb).elim (h b) (g b)
theorem orU(k:a<18446744073709551616)(hb:b<2)(f:a%2=0):bits .u64 .or (a:Int) (b:Int)=((a+b:Nat):Int):=by
 show wrap .u64 (((a04 64 (a:Int) ||| a04 64 (b:Int)).toNat:Nat):Int)=_;have g:(a04 64 (a:Int)).toNat=a:=by simp_all
 have h:(a04 64 (b:Int)).toNat=b:=by grind
 rw[a72,g,h];have e:a ||| b=a+b:=by
  have:=a39 (i:=1) (b:=b) (by omega) (a / 2)
  grind
 grind[a0O]
theorem c7Q(P:List Int)(b:Int)(R:List Int):(P++b::R).getD P.length 0=b:=by
 simp
theorem c1p{v:Nat}(hv:v<9223372036854775808){n:Nat}(q:n≤62):∀(m:Nat)(P R:List Int),m≤n→a2g (P++(pb (v:Int) m++R))→(P++(pb (v:Int) m++R)).length<1000000000→
  y0s a3o (((v / 2^m:Nat):Int),(n:Int),((n-m:Nat):Int),rdr P (pb (v:Int) m++R),())=some ((v:Int),rdr (P++pb (v:Int) m) R,())
 |0,P,R,_,_,_=>by
  grind[a0E,a3o,pb]
 |m+1,P,R,hm,hok,hlen=>by
  have l:decide (((n-(m+1):Nat):Int)<(n:Int))=true:=by grind
  have a:a0V (rdr P (pb (v:Int) (m+1)++R),(P.length:Int))=some (a2x v m,rdr P (pb (v:Int) (m+1)++R)):=by
   have:=b1B hok hlen (i:=P.length) (by simp[pb]) ((P.length:Int),(0:Int),())
   rw[show(P++(pb (v:Int) (m+1)++R)).getD P.length 0=a2x v m from by simp_all[pb]]at this;exact this
  have g:=a6v (v:=v) (by omega) (i:=m) (by omega);have b:v / 2^m%2<2:=a53 _ (by simp);have f:v / 2^(m+1)=v / 2^m / 2:=by grind[a73]
  have p:v / 2^m≤v:=a30 _ _;have d:A0n .u64 ((v / 2^(m+1):Nat):Int) 1=((v / 2^(m+1)*2^1:Nat):Int):=b0N (o:=1) (by omega) (by omega);have h:bits .u64 .or ((v / 2^(m+1)*2^1:Nat):Int) (wrap .u64 (a2x (v:Int) m))=((v / 2^m:Nat):Int):=by
   rw[g,a0O (by omega),orU (by omega) b (by omega),f];omega
  have e:wrap .i64 (((n-(m+1):Nat):Int)+1)=((n-m:Nat):Int):=by grind[a0D]
  have j:wrap .i64 ((P.length:Int)+1)=(((P++[a2x v m]).length:Nat):Int):=by
   grind[a0D]
  have k:P++(pb (v:Int) (m+1)++R)=(P++[a2x v m])++(pb (v:Int) m++R):=by simp[pb]
  have c:((rdr P (pb (v:Int) (m+1)++R)).1,(((P++[a2x v m]).length:Nat):Int),(rdr P (pb (v:Int) (m+1)++R)).2.2)=rdr (P++[a2x v m]) (pb (v:Int) m++R):=by
   unfold rdr;simp_all
  rw[a0G (s':=(((v / 2^m:Nat):Int),(n:Int),((n-m:Nat):Int),rdr (P++[a2x v m]) (pb (v:Int) m++R),())) (by
   simp only[a3o,l,cT];rw[show(rdr P (pb (v:Int) (m+1)++R)).2.1=(P.length:Int)from rfl,a];simp only[oB,d,h,e];rw[show(rdr P (pb (v:Int) (m+1)++R)).2.1=(P.length:Int)from rfl,j,c])]
  rw[c1p hv q m _ _ (by omega) (by simp_all) (by simp_all)];simp[pb]
theorem c5k(a:n≤62)(hv:v<2^n)(g:a2g (P++(pb (v:Int) n++R)))(k:(P++(pb (v:Int) n++R)).length<200000000):
  a0J (rdr P (pb (v:Int) n++R),(n:Int))=some ((v:Int),rdr (P++pb (v:Int) n) R):=by
 have h:v<9223372036854775808:=a95 hv (a96 (a22 (by simp) a) (by simp));have f:=c1p h a n P R (by omega) g (by omega);rw[a46 hv,a59]at f;simp at f;obtain⟨-,e⟩:=a8r (P++(pb (v:Int) n++R));have j:=a1D (v:Int) n;have i:(P++(pb (v:Int) n++R)).length=P.length+n+R.length:=by grind
 have e8:wrap .i64 ((8:Int)*(((wL (P++(pb (v:Int) n++R))).1.length:Nat):Int))=(8:Int)*(((wL (P++(pb (v:Int) n++R))).1.length:Nat):Int):=a0D (by omega);have d:wrap .i64 ((8:Int)*(((wL (P++(pb (v:Int) n++R))).1.length:Nat):Int)-(P.length:Int))=(8:Int)*(((wL (P++(pb (v:Int) n++R))).1.length:Nat):Int)-(P.length:Int):=a0D (by omega);have b:decide ((n:Int)<0)=false:=by simp
 have c:decide ((n:Int) > 64)=false:=by grind
 have l:decide ((n:Int) > (8:Int)*(((wL (P++(pb (v:Int) n++R))).1.length:Nat):Int)-(P.length:Int))=false:=by
  grind
 unfold a0J a2c;rw[show(rdr P (pb (v:Int) n++R)).2.2.1=0 from rfl];simp only[bne_self_eq_false,cF,b,c,oB];rw[show(rdr P (pb (v:Int) n++R)).1=(wL (P++(pb (v:Int) n++R))).1 from rfl,show(rdr P (pb (v:Int) n++R)).2.1=(P.length:Int)from rfl,e8,d]
 grind
def b3z(n:Nat)(x:Int):Prop:=-((2^n:Nat):Int)≤2*x∧2*x<((2^n:Nat):Int)
theorem b0R(f:n≤62)(x:Int):∃v:Nat,a3a x n=(v:Int)∧v<2^n∧(v:Int)=x%((2^n:Nat):Int):=by
 have k:wrap .u64 x=x%18446744073709551616:=by rfl
 obtain⟨y,h⟩:∃y:Nat,x%18446744073709551616=(y:Int):=a01 (Int.emod_nonneg _ (by simp));have g:y<18446744073709551616:=by omega
 refine⟨y%2^n,?_,a53 _ (a20 n),?_⟩;simp_all[a3a,c1k];rw[Int.natCast_emod,←h];refine Int.emod_emod_of_dvd x ?_
 have:(2:Nat)^n ∣ 2^64:=Nat.pow_dvd_pow 2 (by omega)
 exact Int.natCast_dvd_natCast.2 this
theorem c5l(q:n≤62)(t:b3z n x)(c:a2g (P++(pb (a3a x n) n++R)))(g:(P++(pb (a3a x n) n++R)).length<200000000):
  a0N (rdr P (pb (a3a x n) n++R),(n:Int))=some (x,rdr (P++pb (a3a x n) n) R):=by
 obtain⟨v,hv,b,f⟩:=b0R q x;rw[hv]at c g⊢;have a:=c5k q b c g;obtain⟨i,j⟩:=t;have y:=a20 n;have o:(v:Int)=x∧0≤x∨(v:Int)=x+((2^n:Nat):Int)∧x<0:=by
  by_cases h0:0≤x
  exact .inl ⟨by rw[f];exact a51 h0 (by omega),h0⟩;refine .inr ⟨?_,by omega⟩;rw[f,←Int.add_emod_right];exact a51 (by omega) (by omega)
 unfold a0N;simp[a];rw[show(rdr (P++pb (v:Int) n) R).2.2.1=0 from rfl]
 simp
 cases n with
 |zero=>
  grind
 |succ k=>
  have l:(((k+1:Nat):Int)==0)=false:=by rfl
  have s:wrap .i64 ((64:Int)-((k+1:Nat):Int))=((64-(k+1):Nat):Int):=by grind[a0D]
  have r:decide (((64-(k+1):Nat):Int)<0)=false:=by simp
  simp only[l,cF,s,r];have p:64-(k+1)+(k+1)=64:=by omega
  generalize 64-(k+1)=m at p⊢;have u:2^m*2^(k+1)=18446744073709551616:=by rw[←Nat.pow_add,p]
  have d:((2^m:Nat):Int)*((2^(k+1):Nat):Int)=18446744073709551616:=by omega
  have hp:=a20 m;have w:A0n .u64 (v:Int) (m:Int)=(v:Int)*((2^m:Nat):Int):=by
   show wrap .u64 ((v:Int)*2^(min (m:Int).toNat 64))=_;rw[tN,b06 (by omega)];have e:(2:Int)^m=((2^m:Nat):Int):=by simp
   rw[e];refine a0O ⟨Int.mul_nonneg (by omega) (by omega),?_⟩
   have:v*2^m<2^(k+1)*2^m:=Nat.mul_lt_mul_of_pos_right b hp
   grind
  have b1:-9223372036854775808≤x*((2^m:Nat):Int):=by
   have:=Int.mul_le_mul_of_nonneg_right i (show(0:Int)≤((2^m:Nat):Int)by omega)
   grind
  have b2:x*((2^m:Nat):Int)<9223372036854775808:=by
   have:=Int.mul_lt_mul_of_pos_right j (show(0:Int)<((2^m:Nat):Int)by omega)
   grind
  have A:wrap .i64 ((v:Int)*((2^m:Nat):Int))=x*((2^m:Nat):Int):=by
   rcases o with⟨h,-⟩|⟨h,-⟩
   grind[a0D]
   rw[h,Int.add_mul,Int.mul_comm ((2^(k+1):Nat):Int),d]
   grind[wrap,IntKind.bits,IntKind.signed]
  have z:A0o .i64 (x*((2^m:Nat):Int)) (m:Int)=x:=by
   show a91 (x*((2^m:Nat):Int)) (2^(min (m:Int).toNat 64))=x;rw[tN,b06 (by omega)]
   grind[Int.mul_ediv_cancel]
  simp_all
def OkR(P R:List Int):Prop:=a2g (P++R)∧(P++R).length<200000000
theorem OkR.shift(h:OkR P (A++R)):OkR (P++A) R:=by
 unfold OkR at h⊢;simp_all
theorem c1q(g:n≤62)(hv:v<2^n)(h:OkR P (pb (v:Int) n++R)):a0J (rdr P (pb (v:Int) n++R),(n:Int))=some ((v:Int),rdr (P++pb (v:Int) n) R):=c5k g hv h.1 h.2
theorem c5m(f:n≤62)(g:b3z n x)(h:OkR P (pb (a3a x n) n++R)):a0N (rdr P (pb (a3a x n) n++R),(n:Int))=some (x,rdr (P++pb (a3a x n) n) R):=c5l f g h.1 h.2
def unB(n:Nat):List Int:=a00 n 0++[1]
theorem a3J{v n:Nat}(h:n≤63)(hv:v<2^n)(L:List Int):a0L (v:Int) n L=L++pb (v:Int) n:=by
 grind[a0L,a6t,a46]
def b0S(k:Nat)(x:Int):List Int:=
 if a0S x / 2^k<32 then unB (a0S x / 2^k)++pb ((a0S x%2^k:Nat):Int) k else unB 32++pb ((a0S x:Nat):Int) 32
theorem c5n(f:k≤25)(g:a0B x=true)(L:List Int):a7l k x L=L++b0S k x:=by
 have h:=b1X g;unfold a7l b0S;split;rw[a3J (by omega) (a53 _ (a20 k))];simp[unL,unB]
 grind[a3J,unL,unB]
theorem b8m(f:a0B x=true):a3f ((a0S x:Nat):Int)=some x:=by
 have b:=b1X f;have d:=a2v.1 f;have c:a40 ((a0S x:Nat):Int) 2=((a0S x:Nat):Int)%2:=a27 (by omega);have a:a92 ((a0S x:Nat):Int) 2=((a0S x:Nat):Int) / 2:=Int.tdiv_eq_ediv_of_nonneg (by omega);have k:decide (((a0S x:Nat):Int)≥2147483648)=false:=by grind
 unfold a3f;simp only[k,cF,c,a]
 by_cases h0:0≤x
 have e:((a0S x:Nat):Int)=2*x:=by unfold a0S;grind
 rw[e];have h:((2*x)%2==(0:Int))=true:=by simp
 have g:2*x / 2=x:=by omega
 simp only[h,cT,g]
 grind[a0O,a0D]
 have e:((a0S x:Nat):Int)=-2*x-1:=by unfold a0S;grind
 rw[e];have h:((-2*x-1)%2==(0:Int))=false:=by grind
 have g:(-2*x-1) / 2=-x-1:=by omega
 simp only[h,cF,g]
 grind[a0O,a0D]
def b1C(k:Nat)(l:List Int):List Int:=l.flatMap (b0S k)
theorem b6H{k:Nat}(g:k≤25):∀(l L:List Int),l.all a0B=true→a5B k l L=L++b1C k l
 | [],L,_=>by simp[a5B,b1C]
 |x::l,L,h=>by
  simp only[a34,bA]at h;show a5B k l (a7l k x L)=_;rw[b6H g l _ h.2,c5n g h.1];simp[b1C]
def sB(n:Nat)(l:List Int):List Int:=l.flatMap fun x=>pb (a3a x n) n
theorem a7u{n:Nat}(g:n≤62):∀(l L:List Int),a3b n l L=L++sB n l
 | [],L=>by simp[a3b,sB]
 |x::l,L=>by
  show a3b n l (a0L (a3a x n) n L)=_;obtain⟨v,hv,h,-⟩:=b0R g x;rw[a7u g l,hv,a3J (by omega) h,←hv];simp[sB]
def b1Z(k:Int)(part:List Int):List Int:=if k=31 then pb 31 5++(pb ((a0H part:Nat):Int) 5++sB (a0H part) part)else pb k 5++b1C k.toNat part
theorem c5o{k:Int}(h:kB k=true){part:List Int}(g:part.all a0B=true)(L:List Int):a8M k part L=L++b1Z k part:=by
 have f:=a7c g;simp[kB]at h;obtain⟨K,rfl⟩:=a01 (show 0≤k by omega)
 grind[a8M,b1Z,a6u,a3J,a7u,b6H]
def a5M:List Nat→List Int→List Int→List Int
 |z::zs,k::ks,l=>b1Z k (l.take z)++a5M zs ks (l.drop z)
 |_,_,_=>[]
theorem c5p(h:l.all a0B=true)(z:Nat):(l.take z).all a0B=true:=lA.2 fun x g=>lA.1 h x (a43 g)
theorem c5q(h:l.all a0B=true)(z:Nat):(l.drop z).all a0B=true:=lA.2 fun x g=>lA.1 h x (a42 g)
theorem b6I:∀(zs:List Nat)(ks l L:List Int),ks.all kB=true→l.all a0B=true→a4U zs ks l L=L++a5M zs ks l
 |z::zs,k::ks,l,L,hk,hw=>by
  simp only[a34,bA]at hk;simp only[a4U,a5M];rw[b6I zs ks _ _ hk.2 (c5q hw z),c5o hk.1 (c5p hw z)]
  simp
 | [],_,_,L,_,_=>by simp[a4U,a5M]
 |_::_,[],_,L,_,_=>by simp[a4U,a5M]
theorem c5r(h:List Nat)(z:Nat)(g:List Nat):(a1v (h++z::g)).getD h.length 0=(z:Int):=by
 simp_all[a1v]
def a4n(p:Prt)(zn:List Nat)(l:List Int):List Int:=pb p.1 4++a5M zn p.2.1 l
theorem b9x{n:Int}(h:PartsOk p n warm l zn)(L:List Int):a4Z p zn l L=L++a4n p zn l:=by
 obtain⟨o,f,u⟩:=p;have g:=h.order;simp only at g;obtain⟨O,rfl⟩:=a01 g.1;unfold a4Z a4n;simp only;rw[a6u (by omega),a3J (n:=4) (by omega) (by omega),b6I _ _ _ _ h.all h.wide]
 simp
def a9U(s:Sub):List Int:=
 pb ((s.2.2.2.2.2.1.length-1:Nat):Int) 5++(pb s.2.2.2.1 4++(pb ((a0H s.2.2.2.2.2.1:Nat):Int) 5++sB (a0H s.2.2.2.2.2.1) s.2.2.2.2.2.1))
theorem b8n{c:List Int}{t:Int}(h:a6p c t=true):1≤c.length∧c.length≤32∧0≤t∧t≤15∧c.all a0B=true:=by
 simp only[a6p,bA,dT]at h;obtain⟨g,f,k,a,b⟩:=h;refine⟨g,f,k,a,lA.2 fun x d=>?_⟩
 have:=lA.1 b x d
 simp[b0J]at this;rw[a2v];omega
theorem b6J{s:Sub}(h:a6p s.2.2.2.2.2.1 s.2.2.2.1=true)(L:List Int):a7b s L=L++a9U s:=by
 obtain⟨a,b,g,d,f⟩:=b8n h;have k:=a7c f;unfold a7b a9U;generalize s.2.2.2.2.2.1=c at *;generalize s.2.2.2.1=t at *;obtain⟨T,rfl⟩:=a01 g
 grind[a0D,a0O,a7u,a3J]
def b1i(s:Sub)(c:List Int):Sub:=(s.1,s.2.1,s.2.2.1,s.2.2.2.1,s.2.2.2.2.1,c,s.2.2.2.2.2.2)
def b5m(s:Sub)(t:Int):Sub:=(s.1,s.2.1,s.2.2.1,t,s.2.2.2.2)
def b1j(st:List Stg):List Int:=st.flatMap fun g=>pb (g.1-1) 5++pb g.2.1 4
theorem c2z{g:Stg}(h:Ab.stageB g=true):1≤g.1∧g.1≤32∧0≤g.2.1∧g.2.1≤8:=by
 simp_all[Ab.stageB]
theorem b4C:∀(st:List Stg)(L:List Int),st.all Ab.stageB=true→a4V st L=L++b1j st
 | [],L,_=>by simp[a4V,b1j]
 |g::st,L,h=>by
  simp only[a34,bA]at h;obtain⟨k,c,f,d⟩:=c2z h.1;show a4V st (a7X g L)=_;rw[b4C st _ h.2];obtain⟨a,b,u⟩:=g;simp only at k c f d;obtain⟨B,rfl⟩:=a01 f;obtain⟨A,e⟩:=a01 (show 0≤a-1 by omega)
  grind[a7X,b1Y,a6u,a3J,b1j]
def a8O(s:Sub):List Int:=
 if s.1=2 then pb s.2.2.1 3
 else if s.1=3 then a9U s
 else if s.1=4 then pb (s.2.2.2.2.1-1) 10++(sB 8 s.2.2.2.2.2.2.1++a9U s)
 else if s.1=5 then pb ((s.2.2.2.2.2.2.2.1.length:Nat):Int) 2++b1j s.2.2.2.2.2.2.2.1
 else[]
theorem b8o{n:Int}(h:a6R s.1 s n)(L:List Int):a2K s L=L++a8O s:=by
 unfold a2K a8O;rcases h with k|k|⟨k,g,f,-⟩|⟨k,g,-⟩|⟨k,g,-,a⟩|⟨k,g,f⟩
 grind
 grind
 rw[if_pos k,if_pos k]
 grind[a01,a6u,a3J]
 simp_all[b6J];rw[if_neg (by omega),if_neg (by omega),if_pos k,if_neg (by omega),if_neg (by omega),if_pos k,b6J g,a7u (by omega)];simp only[a8I,bA,dT]at a;obtain⟨A,b⟩:=a01 (show 0≤s.2.2.2.2.1-1 by omega)
 grind[b1Y,a6u,a3J]
 rw[if_neg (by omega),if_neg (by omega),if_neg (by omega),if_pos k,if_neg (by omega),if_neg (by omega),if_neg (by omega),if_pos k];simp only[a7a,bA,dT]at f
 grind[b4C,a6u,a3J]
def b0T(s:Sub):List Int:=pb s.1 3++(pb s.2.1 5++pb ((a0H s.2.2.2.2.2.2.2.2.1:Nat):Int) 5)
theorem c5s(g:0≤s.1∧s.1≤5)(f:0≤s.2.1∧s.2.1≤30)(h:s.2.2.2.2.2.2.2.2.1.all a0B=true)(L:List Int):b0P s L=L++b0T s:=by
 grind[a01,a7c,b0P,b0T,a6u,a3J]
def bare(s:Sub):Sub:=(s.1,s.2.1,s.2.2.1,s.2.2.2.1,s.2.2.2.2.1,s.2.2.2.2.2.1,s.2.2.2.2.2.2.1,s.2.2.2.2.2.2.2.1,[],(0,[],()),[],())
def a4W(s:Sub)(zn:List Nat):List Int:=
 (b0T s++a8O s)++(sB (a0H s.2.2.2.2.2.2.2.2.1) s.2.2.2.2.2.2.2.2.1++if s.1=0∨s.1=1 then[]else a4n s.2.2.2.2.2.2.2.2.2.1 zn s.2.2.2.2.2.2.2.2.2.2.1)
theorem c2A{n:Int}(b:a1C s n)(d:s.1≠0∧s.1≠1→PartsOk s.2.2.2.2.2.2.2.2.2.1 n ((s.2.2.2.2.2.2.2.2.1.length:Nat):Int) s.2.2.2.2.2.2.2.2.2.2.1 zn)(L:List Int):
  a8t s zn L=L++a4W s zn:=by
 obtain⟨-,-,h,-,k,a,-,-,f,-⟩:=b;have c:=a7c f;have g:=c5s (b6G h) ⟨k,a⟩ f L;unfold a8t a4W
 by_cases hk:s.1=0∨s.1=1
 rw[if_pos hk,if_pos hk,a7u (by omega),b8o h,g]
 simp
 rw[if_neg hk,if_neg hk,b9x (d (not_or.1 hk)),a7u (by omega),b8o h,g]
 simp
def a1e(s:Sub)(l:List Int):Sub:=(s.1,s.2.1,s.2.2.1,s.2.2.2.1,s.2.2.2.2.1,s.2.2.2.2.2.1,s.2.2.2.2.2.2.1,s.2.2.2.2.2.2.2.1,l,s.2.2.2.2.2.2.2.2.2)
def a9V(n:Nat):List Int:=if h:n<128 then[(n:Int)]else((n%128+128:Nat):Int)::a9V (n / 128)
termination_by n
decreasing_by omega
theorem b5n{α β γ:Type}(f:α→List γ):∀(l:List α)(a:List γ),a3M (β:=β) (fun a x=>.inl (a++f x)) l a=.inl (a++l.flatMap f)
 | [],a=>by simp[a3M]
 |x::l,a=>by simp only[a3M];rw[b5n f l];simp
theorem orA(f:a<2^k)(c:b*2^k+a<18446744073709551616):bits .u64 .or (a:Int) ((b*2^k:Nat):Int)=((a+b*2^k:Nat):Int):=by
 show wrap .u64 (((a04 64 (a:Int) ||| a04 64 ((b*2^k:Nat):Int)).toNat:Nat):Int)=_;have g:(a04 64 (a:Int)).toNat=a:=by grind
 have h:(a04 64 ((b*2^k:Nat):Int)).toNat=b*2^k:=by grind[a63]
 grind[a39,a60,a0O]
def d5f(g:Int):Nat:=if 0≤g then(2*g).toNat else(-2*g-1).toNat
def e8(s:Int):Int:=bif (A0o .u8 s 7)==(1:Int)then bits .u8 .xor (A0n .u8 s 1) 7 else A0n .u8 s 1
def e16(s:Int):Int:=bif (A0o .u16 s 15)==(1:Int)then bits .u16 .xor (A0n .u16 s 1) 32773 else A0n .u16 s 1
def rep{α:Type}(f:α→α):Nat→α→α
 |0,s=>s
 |n+1,s=>rep f n (f s)
def g8(s c:Int):Int:=rep e8 8 (bits .u8 .xor s c)
def g16(s c:Int):Int:=rep e16 8 (bits .u16 .xor s (A0n .u16 (wrap .u16 c) 8))
theorem b6K(l:List Int)(n i:Int):∀(j k:Nat)(s:Int),k+j=8→y0s a7G (s,l,n,i,(k:Int),())=some (rep e8 j s,l,n,i,())
 |0,k,s,h=>by
  obtain rfl:k=8:=by omega
  rfl
 |j+1,k,s,h=>by
  have d:decide ((k:Int)<8)=true:=by grind
  rw[a0G (s':=(e8 s,l,n,i,((k+1:Nat):Int),())) (by
   simp only[a7G,d,cT,a0C (show k<1000000 by omega),e8]
   grind)]
  exact b6K l n i j (k+1) (e8 s) (by omega)
theorem b3A(l:List Int)(n i:Int):∀(j k:Nat)(s:Int),k+j=8→y0s a6O (s,l,n,i,(k:Int),())=some (rep e16 j s,l,n,i,())
 |0,k,s,h=>by
  obtain rfl:k=8:=by omega
  rfl
 |j+1,k,s,h=>by
  have d:decide ((k:Int)<8)=true:=by grind
  rw[a0G (s':=(e16 s,l,n,i,((k+1:Nat):Int),())) (by
   simp only[a6O,d,cT,a0C (show k<1000000 by omega),e16]
   grind)]
  exact b3A l n i j (k+1) (e16 s) (by omega)
def b5o(l:List Int):Int:=l.foldl g8 0
def a9w(l:List Int):Int:=l.foldl g16 0
theorem c6k(h:short l):a6l l=some (b5o l):=by
 have:=a1z (f:=a5T) (β:=Int×Unit) l (fun i (a:Int)=>(a,l,(l.length:Int),(i:Int),())) (fun a x=>.inl (g8 a x)) (fun _ _=>True) (fun a=>(a,()))
  (fun i k a _=>⟨fun c g=>by
   simp at g;subst g
   have:=b6K l (l.length:Int) (i:Int) 8 0 (bits .u8 .xor a l[i]) rfl
   simp at this;refine⟨?_,trivial⟩;simp only[a5T,dlt k,cT,a0A k,oB,this,a0C (a08 k h),g8],fun b hb=>by grind⟩)
  (fun a d=>by simp_all[a5T]) (a:=0) trivial
 unfold a6l;simp at this;rw[this,a9T];rfl
theorem c4w(h:short l):a4J l=some (a9w l):=by
 have:=a1z (f:=a4u) (β:=Int×Unit) l (fun i (a:Int)=>(a,l,(l.length:Int),(i:Int),())) (fun a x=>.inl (g16 a x)) (fun _ _=>True) (fun a=>(a,()))
  (fun i k a _=>⟨fun c g=>by
   simp at g;subst g
   have:=b3A l (l.length:Int) (i:Int) 8 0 (bits .u16 .xor a (A0n .u16 (wrap .u16 l[i]) 8)) rfl
   simp at this;refine⟨?_,trivial⟩;simp only[a4u,dlt k,cT,a0A k,oB,this,a0C (a08 k h),g16],fun b hb=>by grind⟩)
  (fun a d=>by simp_all[a4u]) (a:=0) trivial
 unfold a4J;simp at this;rw[this,a9T];rfl
theorem a8v(n:Int):wrap .u16 n=n%65536:=by rfl
theorem c6l(s:Int):0≤e8 s∧e8 s<256:=by
 unfold e8;cases (A0o .u8 s 7==1:Bool);simp only[cF,A0n,a7S];omega;simp only[cT,bits,a7S];omega
theorem b8p(s:Int):0≤e16 s∧e16 s<65536:=by
 unfold e16;cases (A0o .u16 s 15==1:Bool);simp only[cF,A0n,a8v];omega;simp only[cT,bits,a8v];omega
theorem c2B(l:List Int):0≤a9w l∧a9w l<65536:=by
 unfold a9w;rcases a56 l with rfl|⟨L,b,rfl⟩
 simp
 rw[List.concat_eq_append,a66];exact b8p _
@[reducible] def a1y:Type:=Int×(Int×(Int×Unit))
@[reducible] def a1K:Type:=Int×(Int×(a1y×(List a1y×(List Sub×Unit))))
@[reducible] def a4X:Type:=Int×(List (List Int)×Unit)
def a6h(n:Int)(s:a1y):Bool:=!(decide (s.1<0) || decide (s.1≥n) || decide (s.2.1<0) || decide (s.2.1≥n) || s.1==s.2.1)&&!(decide (s.2.2.1 < -1024) || decide (s.2.2.1 > 1024))
theorem a8V{n:Int}{s:a1y}:a6h n s=true↔0≤s.1∧s.1<n∧0≤s.2.1∧s.2.1<n∧s.1≠s.2.1∧-1024≤s.2.2.1∧s.2.2.1≤1024:=by
 simp only[a6h,bA,b00,Bool.or_eq_false_iff,decide_eq_false_iff_not,beq_eq_false_iff_ne];omega
def a6S(l:List a1y)(n:Int):Prop:=1≤n∧n≤8∧l.length≤16∧l.all (a6h n)=true
instance (l:List a1y) (n:Int):Decidable (a6S l n):=by unfold a6S;infer_instance
theorem b4D(l:List a1y)(n:Int):a6B (l,n)=some (decide (a6S l n)):=by
 unfold a6B a6S
 by_cases h1:n<1
 grind
 by_cases h2:n > 8
 grind
 by_cases h3:((l.length:Nat):Int) > 16
 grind
 have g:=a0Z (f:=a5r) (β:=Unit ⊕ (Bool×Unit)) l (fun i=>(n,l,(l.length:Int),(i:Int),())) (a6h n) (bt:=Sum.inl ()) (bf:=Sum.inr (false,()))
  (fun i h hp=>by
   obtain⟨a1,m,o,p,q,r,s⟩:=a8V.1 hp;have k:decide (l[i].1<0)=false:=by simp_all
   have a:decide (l[i].1≥n)=false:=by simp_all
   have b:decide (l[i].2.1<0)=false:=by simp_all
   have c:decide (l[i].2.1≥n)=false:=by simp_all
   have d:(l[i].1==l[i].2.1)=false:=by simp_all
   have e:decide (l[i].2.2.1 < -1024)=false:=by simp_all
   have j:decide (l[i].2.2.1 > 1024)=false:=by simp_all
   simp only[a5r,dlt h,cT,a0A h,oB,k,a,b,c,d,e,j,cF,a0C (show i<1000000 by omega)])
  (fun i h hp=>by
   simp only[a5r,dlt h,cT,a0A h,oB]
   grind[a6h])
  (by simp[a5r])
 grind
def b2a(f:a1y):Prop:=1≤f.1∧f.1≤1048576∧1≤f.2.1∧f.2.1≤8∧4≤f.2.2.1∧f.2.2.1≤24
instance (f:a1y):Decidable (b2a f):=by unfold b2a;infer_instance
theorem b7X(f:a1y):a5q f=some (decide (b2a f)):=by
 unfold a5q a5p b2a
 grind
def frP(f:a1K):Prop:=b2a f.2.2.1∧1≤f.2.1∧f.2.1≤4096∧0≤f.1∧f.1≤4194304-f.2.1∧a6S f.2.2.2.1 f.2.2.1.2.1
instance (f:a1K):Decidable (frP f):=by unfold frP;infer_instance
theorem b1D(f:a1K):a5t f=some (decide (frP f)):=by
 unfold a5t frP;rw[b7X,b4D]
 by_cases h1:b2a f.2.2.1<;>by_cases h2:1≤f.2.1<;>by_cases h3:f.2.1≤4096<;>by_cases h4:0≤f.1<;>simp[h1,h2,h3,h4]
 have h:wrap .i64 ((4194304:Int)-f.2.1)=4194304-f.2.1:=a0D (by omega);rw[h]
 grind
def d1t(s:a1y):List Int:=a9V s.1.toNat++(a9V s.2.1.toNat++a9V (d5f s.2.2.1))
def hb(f:a1K)(body:Nat):List Int:=
 [245,75]++(a9V f.1.toNat++(a9V f.2.1.toNat++(a9V f.2.2.1.1.toNat++(a9V f.2.2.1.2.1.toNat++(a9V f.2.2.1.2.2.1.toNat++(a9V f.2.2.2.1.length++(f.2.2.2.1.flatMap d1t++a9V body)))))))
def a2L(f:a1K)(l:List Sub):a1K:=(f.1,f.2.1,f.2.2.1,f.2.2.2.1,l,())
theorem d5g{v:Int}(h:0≤v∧v<65536):bits .u16 .or (A0n .u16 (wrap .u16 (v / 256)) 8) (wrap .u16 (v%256))=v:=by
 rw[a8v,a8v];have e:A0n .u16 (v / 256%65536) 8=((v.toNat / 256*256:Nat):Int):=by
  show wrap .u16 (v / 256%65536*256)=_;rw[a8v];omega
 rw[e];have g:v%256%65536=((v.toNat%256:Nat):Int):=by omega
 rw[g];show wrap .u16 (((a04 16 ((v.toNat / 256*256:Nat):Int) ||| a04 16 ((v.toNat%256:Nat):Int)).toNat:Nat):Int)=_;have f:(a04 16 ((v.toNat / 256*256:Nat):Int)).toNat=v.toNat / 256*256:=by rw[a63];omega
 have k:(a04 16 ((v.toNat%256:Nat):Int)).toNat=v.toNat%256:=by rw[a63];omega
 rw[a72,f,k];have e:v.toNat / 256*256 ||| v.toNat%256=v.toNat / 256*256+v.toNat%256:=by
  have:=a39 (i:=8) (b:=v.toNat%256) (by omega) (v.toNat / 256)
  rw[show 2^8*(v.toNat / 256)=v.toNat / 256*256 from by omega]at this;exact this.symm
 rw[e,a8v];omega
theorem a9W(x:Int):a6W x=some (a0B x):=by
 grind[a6W,a0B]
def a2M(c:List (List Int)):Prop:=1≤c.length∧c.length≤8∧(c.headD []).length≤4096∧c.all (fun r=>decide (r.length=(c.headD []).length)&&r.all a0B)=true
instance (c:List (List Int)):Decidable (a2M c):=by unfold a2M;infer_instance
theorem b0U{l:List α}{d:α}(h:0<l.length):l[0]=l.headD d:=by
 cases l with
 |nil=>grind
 |cons a l=>rfl
theorem c7R(c:List (List Int)):a5I c=some (decide (a2M c)):=by
 unfold a5I
 by_cases h1:((c.length:Nat):Int)<1
 have:¬ a2M c:=fun h=>by have:=h.1;omega
 simp_all
 by_cases h2:((c.length:Nat):Int) > 8
 have:¬ a2M c:=fun h=>by have:=h.2.1;omega
 simp_all;have l:0<c.length:=by omega
 have b:m0k c 0=some (c.headD []):=by rw[show(0:Int)=((0:Nat):Int)from rfl,a0A l,b0U (d:=[]) l]
 have m:decide (((c.length:Nat):Int)<1)=false:=by simp_all
 have n:decide (((c.length:Nat):Int) > 8)=false:=by simp_all
 simp only[m,n,cF,b,oB]
 by_cases h3:(((c.headD []).length:Nat):Int) > 4096
 rw[decide_eq_true h3,decide_eq_false (show ¬ a2M c from fun h=>by have:=h.2.2.1;omega)];rfl;have o:decide ((((c.headD []).length:Nat):Int) > 4096)=false:=by simp_all
 simp only[o,cF];have g:∀(i:Nat)(r:List Int),short r→y0s a3x (c,c,(c.length:Int),(i:Int),r,(r.length:Int),(0:Int),())=some (bif r.all a0B then Sum.inl (c,c,(c.length:Int),(i:Int),())else Sum.inr (false,())):=fun i r t=>by
  have:=a0Z (f:=a3x) r (fun j=>(c,c,(c.length:Int),(i:Int),r,(r.length:Int),(j:Int),())) a0B (bt:=Sum.inl (c,c,(c.length:Int),(i:Int),())) (bf:=Sum.inr (false,()))
   (fun j h hp=>by simp only[a3x,dlt h,cT,a0A h,oB,a9W,hp,bT,cF,a0C (a08 h t)])
   (fun j h hp=>by simp_all[a3x,a0A,a9W])
   (by simp_all[a3x])
  omega
 have k:=a0Z (f:=a3y) c (fun i=>(c,c,(c.length:Int),(i:Int),())) (fun r=>decide (r.length=(c.headD []).length)&&r.all a0B) (bt:=Sum.inl ()) (bf:=Sum.inr (false,()))
  (fun i h hp=>by
   simp only[bA,dT]at hp;have e:((((c[i]).length:Nat):Int) != (((c.headD []).length:Nat):Int))=false:=by simp_all
   have a:=g i c[i] (by unfold short;omega);rw[hp.2,cT]at a;simp only[a3y,dlt h,cT,a0A h,oB,b,e,cF,a,a0C (show i<1000000 by omega)])
  (fun i h hp=>by
   by_cases hl:(c[i]).length=(c.headD []).length
   have e:((((c[i]).length:Nat):Int) != (((c.headD []).length:Nat):Int))=false:=by simp_all
   have a:=g i c[i] (by unfold short;omega);rw[decide_eq_true hl,a25]at hp;rw[hp,cF]at a;simp_all[a3y,a0A];have e:((((c[i]).length:Nat):Int) != (((c.headD []).length:Nat):Int))=true:=by grind
   simp only[a3y,dlt h,cT,a0A h,oB,b,e])
  (by simp_all[a3y])
 simp only[nZ]at k;rw[k];have p:1≤c.length:=by omega
 have q:c.length≤8:=by omega
 have s:(c.headD []).length≤4096:=by omega
 by_cases hA:c.all (fun r=>decide (r.length=(c.headD []).length)&&r.all a0B)=true
 rw[hA,decide_eq_true (show a2M c from⟨p,q,s,hA⟩)];rfl;rw[a52.2 hA,decide_eq_false (show ¬ a2M c from fun h=>hA h.2.2.2)];rfl
def a7Y(c:List (List Int))(n:Nat):Prop:=∀r∈c,r.length=n∧r.all a0B=true
theorem c2S(h:a2M c):a7Y c (c.headD []).length:=fun r g=>by
 have:=lA.1 h.2.2.2 r g
 simp_all
theorem c5t(h:a7Y c n)(m:n≤5000)(l:c.length≤100):a5s c=some c:=by
 have:=a1z (f:=a5c) (β:=List (List Int)×Unit) c (fun i (a:List (List Int))=>(c,(c.length:Int),(i:Int),a,())) (fun a x=>.inl (a++[x])) (fun i a=>a.length=i) (fun a=>(a,()))
  (fun i k a d=>⟨fun j g=>by
   simp at g;subst g;have o:=(h _ (a05 k)).1;have e:∀y:List Int,a74 ([([]:List Int)]:List (List Int)) 0 y=[y]:=fun _=>rfl;refine⟨?_,by grind⟩;simp only[a5c,dlt k,cT,a0A k,oB,b5h (show short c[i]by unfold short;omega),e];rw[a1u (by grind),cT,a0C (show i<1000000 by omega)];rfl,fun b hb=>by grind⟩)
  (fun a d=>by simp_all[a5c]) (a:=[]) rfl
 simp_all[b5n,a5s,b3f]
def a2N(sign g:Int)(x y:Int):Int:=y+sign*(g*x / 256)
def a8w(sign g:Int)(xs ys:List Int):List Int:=a26 (a2N sign g) xs ys
theorem c6m(sign g:Int){xs ys:List Int}(h:xs.length=ys.length):(a8w sign g xs ys).length=ys.length:=by simp[a8w,h]
theorem c1r{g y:Int}(b:sign=1∨sign=-1)(c:-1024≤g∧g≤1024)(k:a0B x=true)(a:a0B y=true):
  wrap .i64 (y+wrap .i64 (sign*A0o .i64 (wrap .i64 (g*x)) 8))=a2N sign g x y:=by
 have k:=a2v.1 k;have a:=a2v.1 a;have f:-1099511627776≤g*x∧g*x≤1099511627776:=by
  have f:g.natAbs≤1024:=by omega
  have h:x.natAbs≤1073741824:=by omega
  have:=a50 f h
  rw[←Int.natAbs_mul]at this;omega
 rw[a0D (n:=g*x) (by omega)];have h:A0o .i64 (g*x) 8=g*x / 256:=by
  unfold A0o;show(g*x).fdiv (2^8)=_
  grind
 rw[h];unfold a2N;rcases b with rfl|rfl
 all_goals grind[a0D]
theorem c2C(c:List α)(h:a≠b)(y d:α):(c.set b y).getD a d=c.getD a d:=by
 grind
theorem b4E(c:List α)(h:b<c.length)(y d:α):(c.set b y).getD b d=y:=by
 simp_all
theorem b6L{c:List (List Int)}{s:a1y}{sign:Int}(g:sign=1∨sign=-1)(b:-1024≤s.2.2.1∧s.2.2.1≤1024)(a0:0≤s.1)(i:0≤s.2.1)(f:s.1.toNat≠s.2.1.toNat)(hb:s.2.1.toNat<c.length)(k:s.2.1<(c.length:Int))
  {xs:List Int}(a:c.getD s.1.toNat []=xs)(w:xs.length≤5000):∀(sx suf px pre:List Int),px++sx=xs→px.length=pre.length→sx.length=suf.length→sx.all a0B=true→suf.all a0B=true→
  if(a8w sign s.2.2.1 sx suf).all a0B=true then
   y0s a2W (sign,(xs.length:Int),(pre.length:Int),c.set s.2.1.toNat (pre++suf),s,((s.1.toNat:Nat):Int),())=some (.inl (c.set s.2.1.toNat (pre++a8w sign s.2.2.1 sx suf),()))
  else ∃c',y0s a2W (sign,(xs.length:Int),(pre.length:Int),c.set s.2.1.toNat (pre++suf),s,((s.1.toNat:Nat):Int),())=some (.inr (false,c',()))
 | [],suf,px,pre,hx,hp,hl,_,_=>by
  have e:suf=[]:=a35.1 hl.symm;subst e;have p:pre.length=xs.length:=by simp_all
  rw[if_pos (by rfl),p];exact a0E (by simp only[a2W,dge,cF];rfl)
 |x::sx,[],px,pre,_,_,hl,_,_=>by simp_all
 |x::sx,y::suf,px,pre,hx,hp,hl,hwx,hwy=>by
  simp only[a34,bA]at hwx hwy;have v:pre.length<xs.length:=by grind
  have q:(c.set s.2.1.toNat (pre++y::suf)).getD (a33 ((s.1.toNat:Nat):Int)) []=xs:=by grind
  have r:(c.set s.2.1.toNat (pre++y::suf)).getD s.2.1.toNat []=pre++y::suf:=b4E _ hb _ _;have t:a38 xs (a33 (pre.length:Int)) 0=x:=by grind
  have u:a38 (pre++y::suf) (a33 (pre.length:Int)) 0=y:=by simp
  have j:decide ((0:Int)≤(pre.length:Int))=true:=by simp
  have l:decide ((pre.length:Int)<(xs.length:Int))=true:=by simp_all
  have m:decide ((0:Int)≤s.2.1)=true:=by simp_all
  have n:decide (s.2.1<(((c.set s.2.1.toNat (pre++y::suf)).length:Nat):Int))=true:=by simp_all
  have o:decide ((pre.length:Int)<(((pre++y::suf).length:Nat):Int))=true:=by grind
  have hv:=c1r g b hwx.1 hwy.1;have z:wrap .i64 ((pre.length:Int)+1)=((pre.length+1:Nat):Int):=a0C (by omega);have A:a8w sign s.2.2.1 (x::sx) (y::suf)=a2N sign s.2.2.1 x y::a8w sign s.2.2.1 sx suf:=rfl;have d:a74 (c.set s.2.1.toNat (pre++y::suf)) s.2.1.toNat (a74 (pre++y::suf) (a33 (pre.length:Int)) (a2N sign s.2.2.1 x y))=c.set s.2.1.toNat ((pre++[a2N sign s.2.2.1 x y])++suf):=by
   simp
  have h:a2W (sign,(xs.length:Int),(pre.length:Int),c.set s.2.1.toNat (pre++y::suf),s,((s.1.toNat:Nat):Int),()) =
    bif !(a0B (a2N sign s.2.2.1 x y))then some (.inr (Sum.inr (false,c.set s.2.1.toNat (pre++y::suf),())))
    else some (.inl (sign,(xs.length:Int),((pre.length+1:Nat):Int),c.set s.2.1.toNat ((pre++[a2N sign s.2.2.1 x y])++suf),s,((s.1.toNat:Nat):Int),())):=by
   simp only[a2W,l,cT,q,r,j,a02,m,n,o,t,u,a9W,hv,oB,z]
   simp
  cases hwv:a0B (a2N sign s.2.2.1 x y)with
  |false=>
   simp_all[a0E]
  |true=>
   rw[hwv]at h;have B:=b6L g b a0 i f hb k a w sx suf (px++[x]) (pre++[a2N sign s.2.2.1 x y]) (by simp_all) (by grind) (by simp_all) hwx.2 hwy.2;rw[a0G h,A];simp_all
def a6M(sign:Int)(s:a1y)(c:List (List Int)):Option (List (List Int)):=
 let r:=a8w sign s.2.2.1 (c.getD s.1.toNat []) (c.getD s.2.1.toNat [])
 if r.all a0B=true then some (c.set s.2.1.toNat r)else none
theorem a6w{c:List (List Int)}{n:Nat}(h:a7Y c n){i:Nat}(g:i<c.length):(c.getD i []).length=n∧(c.getD i []).all a0B=true:=by
 rw[lD,lG g];exact h _ (a05 g)
theorem c6n(a:a7Y c n)(w:n≤5000){s:a1y}(p:a6h (c.length:Int) s=true)(k:sign=1∨sign=-1):
  ∃b f,a6k (c,s,sign)=some (b,f)∧match a6M sign s c with|some r=>b=true∧f=r|none=>b=false:=by
 obtain⟨a1,u,d,e,v,j,l⟩:=a8V.1 p;have q:=a6w a (i:=s.1.toNat) (by omega);have t:=a6w a (i:=s.2.1.toNat) (by omega);have hb:s.2.1.toNat<c.length:=by omega
 have g:c.set s.2.1.toNat (c.getD s.2.1.toNat [])=c:=by
  simp_all
 have:=b6L k ⟨j,l⟩ a1 d (by omega) hb e (rfl:c.getD s.1.toNat []=_) (by omega) (c.getD s.1.toNat []) (c.getD s.2.1.toNat []) [] [] rfl rfl (by omega) q.2 t.2
 rw[a09,g]at this;simp only[a17,nZ,a09,a16]at this;have m:decide ((0:Int)≤s.1)=true:=by simp_all
 have o:decide (s.1<(c.length:Int))=true:=by simp_all
 unfold a6k a6M;simp only[m,o,a02,cT]
 by_cases hA:(a8w sign s.2.2.1 (c.getD s.1.toNat []) (c.getD s.2.1.toNat [])).all a0B=true
 simp_all;rw[if_neg hA]at this⊢;obtain⟨f,h⟩:=this;simp_all
theorem b6M{c':List (List Int)}(g:a7Y c n){s:a1y}(k:a6h (c.length:Int) s=true)(h:a6M sign s c=some c'):a7Y c' n∧c'.length=c.length:=by
 obtain⟨a1,a,b,d,e,j,l⟩:=a8V.1 k;have o:=a6w g (i:=s.1.toNat) (by omega);have p:=a6w g (i:=s.2.1.toNat) (by omega);unfold a6M at h;simp only at h
 split at h
 rename_i m;cases h;refine⟨fun r f=>?_,by simp⟩;rcases List.mem_or_eq_of_mem_set f with f|rfl;exact g r f;simp_all[c6m];simp_all
def a6N:List a1y→List (List Int)→Option (List (List Int))
 | [],c=>some c
 |s::l,c=>(a6N l c).bind (a6M (-1) s)
def c4x:Option (List (List Int))→List (List Int)×Int
 |some r=>(r,0)
 |none=>([],6)
theorem b2b(s:a1y):∀(l:List a1y)(c:List (List Int)),a6N (l++[s]) c=(a6M (-1) s c).bind (a6N l)
 | [],c=>by
  show a6M (-1) s c=_;cases a6M (-1) s c<;>rfl
 |t::l,c=>by
  simp only[a68,a6N,b2b s l];cases a6M (-1) s c<;>rfl
theorem b8q{n N:Nat}(g:n≤5000){l:List a1y}(i:l.all (a6h (N:Int))=true)(z:List (List Int))(e:Int):∀(k:Nat)(c:List (List Int)),k≤l.length→a7Y c n→c.length=N→
  match a6N (l.take k) c with
  |some r=>l0f a4I l k (l,z,e,c,())=some (.inl (l,z,e,r,()))
  |none=>∃d,l0f a4I l k (l,z,e,c,())=some (.inr (.ret,l,[],6,d,()))
 |0,c,_,_,_=>rfl
 |k+1,c,hk,hc,hcl=>by
  have j:k<l.length:=by omega
  have f:a6h (c.length:Int) l[k]=true:=by grind
  obtain⟨b,a,o,h⟩:=c6n hc g f (sign:=-1) (.inr rfl);rw[a54 j,b2b];cases hst:a6M (-1) l[k] c with
  |none=>
   simp_all[l0f,a4I]
  |some r=>
   rw[hst]at h;obtain⟨rfl,rfl⟩:=h;obtain⟨m,q⟩:=b6M hc f hst;have p:=b8q g i z e k a (by omega) m (by omega);simp_all[l0f,a4I]
theorem c7S(c:List (List Int))(l:List a1y):a8B (c,l)=some (if a2M c∧a6S l (c.length:Int)then c4x (a6N l c)else([],1)):=by
 unfold a8B;simp only[c7R,oB]
 by_cases hq:a2M c
 ·have h:=c2S hq;simp only[hq,decide_true,bT,cF,b4D,oB,true_and]
  by_cases hm:a6S l (c.length:Int)
  ·simp[hm];rw[c5t h (by have:=hq.2.2.1;omega) (by have:=hq.2.1;omega)]
   have:=b8q (N:=c.length) (by have:=hq.2.2.1;omega:(c.headD []).length≤5000) hm.2.2.2 [] 0 l.length c (a31 _) h rfl
   rw[a45]at this;simp[a1u (show l.length<2147483648 by have:=hm.2.2.1;omega)];cases hu:a6N l c with
   |some r=>
    rw[hu]at this;simp only at this
    erw[this]
    rfl
   |none=>
    rw[hu]at this;obtain⟨d,g⟩:=this
    erw[g]
    rfl
  simp_all
 simp_all
def a4Y(b:a4X):Nat:=(b.2.1.headD []).length
theorem a7Z(b:a4X):a4o b=some ((a4Y b:Nat):Int):=by
 unfold a4o a4Y;obtain⟨d,c,u⟩:=b;cases c with
 |nil=>rfl
 |cons r c=>
  rfl
def a3K(b:a4X):Prop:=4≤b.1∧b.1≤24∧1≤b.2.1.length∧b.2.1.length≤8∧1≤a4Y b∧a4Y b≤4096∧b.2.1.all (fun r=>decide (r.length=a4Y b)&&r.all fun x=>a2y x b.1)=true
instance (b:a4X):Decidable (a3K b):=by unfold a3K;infer_instance
theorem c1s{x w:Int}(h:4≤w∧w≤24):a3e (x,w)=some (a2y x w):=by
 have:=a8s (x:=x) (w:=w.toNat) (by omega)
 grind
theorem c1t(b:a4X):a5H b=some (decide (a3K b)):=by
 unfold a5H a5p
 by_cases h1:4≤b.1
 rotate_left;rw[decide_eq_false (show ¬ a3K b from fun h=>h1 h.1),decide_eq_false h1];rfl
 by_cases h2:b.1≤24
 rotate_left;rw[decide_eq_false (show ¬ a3K b from fun h=>h2 h.2.1),decide_eq_true h1,decide_eq_false h2];rfl
 by_cases h3:((b.2.1.length:Nat):Int)<1
 rw[decide_eq_false (show ¬ a3K b from fun h=>by have:=h.2.2.1;omega),decide_eq_true h1,decide_eq_true h2,decide_eq_true h3];rfl
 by_cases h4:((b.2.1.length:Nat):Int) > 8
 rw[decide_eq_false (show ¬ a3K b from fun h=>by have:=h.2.2.2.1;omega),decide_eq_true h1,decide_eq_true h2,decide_eq_false h3,decide_eq_true h4];rfl;have c:decide (((b.2.1.length:Nat):Int)<1)=false:=by simp_all
 have d:decide (((b.2.1.length:Nat):Int) > 8)=false:=by simp_all
 simp only[decide_eq_true h1,decide_eq_true h2,c,d,cT,cF,oB,bT,a7Z]
 by_cases h5:((a4Y b:Nat):Int)<1
 rw[decide_eq_false (show ¬ a3K b from fun h=>by have:=h.2.2.2.2.1;omega),decide_eq_true h5];rfl
 by_cases h6:((a4Y b:Nat):Int) > 4096
 rw[decide_eq_false (show ¬ a3K b from fun h=>by have:=h.2.2.2.2.2.1;omega),decide_eq_false h5,decide_eq_true h6];rfl;have l:decide (((a4Y b:Nat):Int)<1)=false:=by simp_all
 have m:decide (((a4Y b:Nat):Int) > 4096)=false:=by simp_all
 simp[l,m];have g:∀(i:Nat)(r:List Int),short r→y0s a3v (b.2.1,(b.2.1.length:Int),(i:Int),r,(r.length:Int),(0:Int),b,())=some (bif r.all (fun x=>a2y x b.1)then Sum.inl (b.2.1,(b.2.1.length:Int),(i:Int),b,())else Sum.inr (false,())):=fun i r n=>by
  have:=a0Z (f:=a3v) r (fun j=>(b.2.1,(b.2.1.length:Int),(i:Int),r,(r.length:Int),(j:Int),b,())) (fun x=>a2y x b.1) (bt:=Sum.inl (b.2.1,(b.2.1.length:Int),(i:Int),b,())) (bf:=Sum.inr (false,()))
   (fun j h hp=>by simp only[a3v,dlt h,cT,a0A h,oB,c1s ⟨h1,h2⟩,hp,bT,cF,a0C (a08 h n)])
   (fun j h hp=>by simp_all[a3v,a0A,c1s])
   (by simp_all[a3v])
  omega
 have k:=a0Z (f:=a3w) b.2.1 (fun i=>(b.2.1,(b.2.1.length:Int),(i:Int),b,())) (fun r=>decide (r.length=a4Y b)&&r.all fun x=>a2y x b.1) (bt:=Sum.inl ()) (bf:=Sum.inr (false,()))
  (fun i h hp=>by
   simp only[bA,dT]at hp;have e:((((b.2.1[i]).length:Nat):Int) != ((a4Y b:Nat):Int))=false:=by simp_all
   have a:=g i b.2.1[i] (by unfold short;omega);rw[hp.2,cT]at a;simp only[a3w,dlt h,cT,a0A h,oB,a7Z,e,cF,a,a0C (show i<1000000 by omega)])
  (fun i h hp=>by
   by_cases hl:(b.2.1[i]).length=a4Y b
   have e:((((b.2.1[i]).length:Nat):Int) != ((a4Y b:Nat):Int))=false:=by simp_all
   have a:=g i b.2.1[i] (by unfold short;omega);rw[decide_eq_true hl,a25]at hp;rw[hp,cF]at a;simp_all[a3w,a0A,a7Z];have e:((((b.2.1[i]).length:Nat):Int) != ((a4Y b:Nat):Int))=true:=by grind
   simp only[a3w,dlt h,cT,a0A h,oB,a7Z,e])
  (by simp_all[a3w])
 simp at k;rw[k]
 by_cases hA:b.2.1.all (fun r=>decide (r.length=a4Y b)&&r.all fun x=>a2y x b.1)=true
 rw[hA,decide_eq_true (show a3K b from⟨h1,h2,by omega,by omega,by omega,by omega,hA⟩)];rfl;rw[a52.2 hA,decide_eq_false (show ¬ a3K b from fun h=>hA h.2.2.2.2.2.2)];rfl
def a9i{α β:Type}(g:α→Option β):List α→Option (List β)
 | []=>some []
 |a::l=>(g a).bind fun b=>(a9i g l).bind fun r=>some (b::r)
def a5C(f:a1K):Option a4X:=
 if frP f∧((f.2.2.2.2.1.length:Nat):Int)=f.2.2.1.2.1 then
  (a9i (fun s=>a1Y s f.2.1) f.2.2.2.2.1).bind fun rs=>
   if a2M rs∧a6S f.2.2.2.1 (rs.length:Int)then
    (a6N f.2.2.2.1 rs).bind fun ch=>if a3K (f.2.2.1.2.2.1,ch,())then some (f.2.2.1.2.2.1,ch,())else none
   else none
 else none
def a5D:a4X:=(0,[],())
def d5h:Option a4X→a4X×Int
 |some b=>(b,0)
 |none=>(a5D,1)
theorem b4F(f:a1K)(all:List Sub)(d:all.length≤8):∀(rest done:List Sub)(rows:List (List Int)),done++rest=all→rows.length=done.length→(∀s∈rest,SmallS s)→
  y0s a3C (all,(all.length:Int),(done.length:Int),rows,a5D,f,())=some (match a9i (fun s=>a1Y s f.2.1) rest with|some rs=>Sum.inl (rows++rs,a5D,f,())|none=>Sum.inr (1,a5D,()))
 | [],done,rows,hd,hr,_=>by
  have e:done=all:=by simpa using hd
  subst e;rw[a0E (b:=Sum.inl (rows,a5D,f,())) (by simp only[a3C,dge,cF])];simp[a9i]
 |s::rest,done,rows,hd,hr,h=>by
  have i:=h s (by simp);have k:done.length<all.length:=by rw[←hd];simp
  have a:m0k all (done.length:Int)=some s:=by rw[a0A k];subst hd;simp
  have g:=b6B i f.2.1;simp only[a9i];cases ho:a1Y s f.2.1 with
  |none=>
   rw[ho]at g;have b1:((1:Int) != 0)=true:=rfl;exact a0E (by simp only[a3C,dlt k,cT,a,oB,g,b1];rfl)
  |some r=>
   rw[ho]at g;have c:((0:Int) != 0)=false:=rfl;rw[a0G (s':=(all,(all.length:Int),(((done++[s]).length:Nat):Int),rows++[r],a5D,f,())) (by
    simp only[a3C,dlt k,cT,a,oB,g,c,cF,a1u (show rows.length+1<2147483648 by omega),a0C (show done.length<1000000 by omega)]
    simp)]
   rw[b4F f all d rest (done++[s]) (rows++[r]) (by simpa using hd) (by simp[hr]) (fun t j=>h t (by simp[j]))];simp only[oB];cases a9i (fun s=>a1Y s f.2.1) rest<;>simp
theorem c6o{f:a1K}(b:∀s∈f.2.2.2.2.1,SmallS s):a5u f=some (d5h (a5C f)):=by
 unfold a5u a5C;simp only[b1D,oB]
 by_cases hf:frP f
 rotate_left;simp only[hf,decide_false,a18,cT,oB,false_and,if_false];rfl
 by_cases hl:((f.2.2.2.2.1.length:Nat):Int)=f.2.2.1.2.1
 rotate_left;have e:(((f.2.2.2.2.1.length:Nat):Int) != f.2.2.1.2.1)=true:=by simpa using hl
 simp only[hf,decide_true,bT,cF,oB,e,cT,hl,and_false,if_false];rfl;have e:(((f.2.2.2.2.1.length:Nat):Int) != f.2.2.1.2.1)=false:=by simpa using hl
 have a:f.2.2.2.2.1.length≤8:=by have:=hf.1.2.2.2.1;omega
 have k:decide ((0:Int)≤((f.2.2.2.2.1.length:Nat):Int))=true:=by simp
 have h:=b4F f f.2.2.2.2.1 a f.2.2.2.2.1 [] [] rfl rfl b;rw[a17]at h;rw[if_pos ⟨hf,hl⟩];simp only[hf,decide_true,bT,cF,oB,e,k,tN,a1u (show f.2.2.2.2.1.length<2147483648 by omega),a02,cT]
 erw[h]
 cases hm:a9i (fun s=>a1Y s f.2.1) f.2.2.2.2.1 with
 |none=>rfl
 |some rs=>
  simp only[oB,a09,c7S]
  by_cases hq:a2M rs∧a6S f.2.2.2.1 (rs.length:Int)
  ·simp only[if_pos hq];cases hu:a6N f.2.2.2.1 rs with
   |none=>rfl
   |some ch=>
    have g:((0:Int) != 0)=false:=rfl;simp only[c4x,g,cF,c1t,oB]
    by_cases hb:a3K (f.2.2.1.2.2.1,ch,())
    simp only[hb,decide_true,bT,cF,if_true];rfl;simp only[hb,decide_false,a18,cT,if_false];rfl
  simp only[if_neg hq];rfl
theorem c8G{f:a1K}(h:∀s∈f.2.2.2.2.1,SmallS s):a5J f=some (a5C f).isSome:=by
 unfold a5J;rw[c6o h];cases a5C f<;>rfl
theorem b5p(x:a1y):eqT (.pair (.int .i64) (.pair (.int .i64) (.pair (.int .i64) .unit))) x x=true:=by
 show((x.1==x.1)&&((x.2.1==x.2.1)&&((x.2.2.1==x.2.2.1)&&true)))=true
 simp
theorem b7Y{x:List a1y}(g:x.length<1000000):a5U (x,x)=some true:=by
 unfold a5U
 have:=a0Z (f:=a3Y) (β:=Unit ⊕ (Bool×Unit)) x (fun i=>(x,x,(i:Int),())) (fun _=>true) (bt:=Sum.inl ()) (bf:=Sum.inr (false,()))
  (fun i h _=>by simp only[a3Y,dlt h,cT,a0A h,oB,b5p,bT,cF,a0C (show i<1000000 by omega)])
  (fun i h hp=>by grind) (by simp_all[a3Y])
 grind
theorem b7Z{f:a1K}(k:∀s∈f.2.2.2.2.1,SmallS s)(g:f.2.2.2.1.length<1000000)(a:f.2.2.2.2.1.length<1000000):a4a (f,f)=some true:=by
 unfold a4a
 have:=a0Z (f:=a3Z) (β:=Unit ⊕ (Bool×Unit)) f.2.2.2.2.1 (fun i=>((i:Int),f,f,())) (fun _=>true) (bt:=Sum.inl ()) (bf:=Sum.inr (false,()))
  (fun i h _=>by simp only[a3Z,dlt h,cT,a0A h,oB,b6A (k _ (a05 h)),decide_true,bT,cF,a0C (show i<1000000 by omega)])
  (fun i h hp=>by grind) (by simp_all[a3Z])
 simp at this;simp[b5p,b7Y g]
 grind
theorem c1u:a6Z c=some (decide (1≤c.length∧c.length≤8∧c.all (fun r=>decide (r.length=(c.headD []).length))=true)):=by
 unfold a6Z
 by_cases h1:((c.length:Nat):Int)<1
 grind
 by_cases h2:((c.length:Nat):Int) > 8
 grind
 have g:0<c.length:=by omega
 have k:m0k c 0=some (c.headD []):=by rw[show(0:Int)=((0:Nat):Int)from rfl,a0A g,b0U (d:=[]) g]
 have:=a0Z (f:=a4O) (β:=Unit ⊕ (Bool×Unit)) c (fun i=>(c,(i:Int),())) (fun r=>decide (r.length=(c.headD []).length)) (bt:=Sum.inl ()) (bf:=Sum.inr (false,()))
  (fun i h hp=>by
   simp only[dT]at hp;have e:((((c[i]).length:Nat):Int) != (((c.headD []).length:Nat):Int))=false:=by simp_all
   simp only[a4O,dlt h,cT,a0A h,oB,k,e,cF,a0C (show i<1000000 by omega)])
  (fun i h hp=>by
   simp only[decide_eq_false_iff_not]at hp;have e:((((c[i]).length:Nat):Int) != (((c.headD []).length:Nat):Int))=true:=by grind
   simp only[a4O,dlt h,cT,a0A h,oB,k,e]) (by simp_all[a4O])
 grind
theorem b3B{w:Int}(h:4≤w∧w≤24):a7t (x,w)=some (a2y x w):=by
 have:=b1g (x:=x) (w:=w.toNat) (by omega)
 grind
theorem b6N(b:a4X):a6I b=some (decide (a3K b)):=by
 unfold a6I
 by_cases h1:b.1<4
 rw[decide_eq_true h1,decide_eq_false (fun h:a3K b=>by have:=h.1;omega)];rfl
 by_cases h2:b.1 > 24
 rw[decide_eq_false h1,decide_eq_true h2,decide_eq_false (fun h:a3K b=>by have:=h.2.1;omega)];rfl;simp only[decide_eq_false h1,decide_eq_false h2,cF,c1u,oB]
 by_cases h3:1≤b.2.1.length∧b.2.1.length≤8∧b.2.1.all (fun r=>decide (r.length=(b.2.1.headD []).length))=true
 rotate_left;rw[decide_eq_false h3,decide_eq_false (fun h:a3K b=>h3 ⟨h.2.2.1,h.2.2.2.1,lA.2 fun r c=>by
  have:=lA.1 h.2.2.2.2.2.2 r c
  simp only[bA]at this;exact this.1⟩)];rfl
 have e:0<b.2.1.length:=by omega
 have l:m0k b.2.1 0=some (b.2.1.headD []):=by rw[show(0:Int)=((0:Nat):Int)from rfl,a0A e,b0U (d:=[]) e]
 simp only[decide_eq_true h3,bT,cF,l,oB]
 by_cases h4:(((b.2.1.headD []).length:Nat):Int)<1
 rw[decide_eq_true h4,decide_eq_false (fun h:a3K b=>by have:=h.2.2.2.2.1;grind[a4Y])];rfl
 by_cases h5:(((b.2.1.headD []).length:Nat):Int) > 4096
 rw[decide_eq_false h4,decide_eq_true h5,decide_eq_false (fun h:a3K b=>by have:=h.2.2.2.2.2.1;grind[a4Y])];rfl;simp only[decide_eq_false h4,decide_eq_false h5,cF,oB];have hb:4≤b.1∧b.1≤24:=by omega
 have g:∀(i:Nat)(a:i<b.2.1.length),y0s a2q ((i:Int),(0:Int),b,())=some (bif (b.2.1[i]).all (fun x=>a2y x b.1)then Sum.inl ((i:Int),b,())else Sum.inr (false,())):=fun i a=>by
  have o:(b.2.1[i]).length=(b.2.1.headD []).length:=by simp_all
  have:=a0Z (f:=a2q) (β:=(Int×a4X×Unit) ⊕ (Bool×Unit)) b.2.1[i] (fun j=>((i:Int),(j:Int),b,())) (fun x=>a2y x b.1) (bt:=Sum.inl ((i:Int),b,())) (bf:=Sum.inr (false,()))
   (fun j h hp=>by simp only[a2q,a0A a,oB,dlt h,cT,a0A h,b3B hb,hp,bT,cF,a0C (show j<1000000 by omega)])
   (fun j h hp=>by simp only[a2q,a0A a,oB,dlt h,cT,a0A h,b3B hb,hp,a18])
   (by simp_all[a2q,a0A])
  omega
 have k:=a0Z (f:=a3n) (β:=Unit ⊕ (Bool×Unit)) b.2.1 (fun i=>((i:Int),b,())) (fun r=>r.all fun x=>a2y x b.1) (bt:=Sum.inl ()) (bf:=Sum.inr (false,()))
  (fun i h hp=>by
   have a:=g i h;rw[hp,cT]at a;simp only[a3n,dlt h,cT]
   grind[a0C])
  (fun i h hp=>by
   have a:=g i h;rw[hp,cF]at a;simp_all[a3n])
  (by simp_all[a3n])
 simp at k;rw[k]
 by_cases hA:b.2.1.all (fun r=>r.all fun x=>a2y x b.1)=true
 rw[hA,decide_eq_true (p:=a3K b) (⟨hb.1,hb.2,h3.1,h3.2.1,by unfold a4Y;omega,by unfold a4Y;omega,lA.2 fun r c=>by
  have m:=lA.1 h3.2.2 r c;have n:=lA.1 hA r c;simp_all[a4Y]⟩:a3K b)]
 rfl;rw[a52.2 hA,decide_eq_false (p:=a3K b) (fun h=>hA (lA.2 fun r c=>by
  have:=lA.1 h.2.2.2.2.2.2 r c
  simp_all))]
 rfl
theorem c1v(f:a1y):a8E f=some (decide (b2a f)):=by
 unfold a8E b2a
 grind
theorem b1E(l:List a1y)(n:Int):a5w (l,n)=some (decide (a6S l n)):=by
 unfold a5w a6S
 by_cases h1:n<1
 grind
 by_cases h2:n > 8
 grind
 by_cases h3:((l.length:Nat):Int) > 16
 grind
 have g:=a0Z (f:=a3F) (β:=Unit ⊕ (Bool×Unit)) l (fun i=>(l,n,(i:Int),())) (a6h n) (bt:=Sum.inl ()) (bf:=Sum.inr (false,()))
  (fun i h hp=>by
   obtain⟨a1,m,o,p,q,r,s⟩:=a8V.1 hp;have k:decide (l[i].1<0)=false:=by simp_all
   have a:decide (l[i].1≥n)=false:=by simp_all
   have b:decide (l[i].2.1<0)=false:=by simp_all
   have c:decide (l[i].2.1≥n)=false:=by simp_all
   have d:(l[i].1==l[i].2.1)=false:=by simp_all
   have e:decide (l[i].2.2.1 < -1024)=false:=by simp_all
   have j:decide (l[i].2.2.1 > 1024)=false:=by simp_all
   simp only[a3F,dlt h,cT,a0A h,oB,k,a,b,c,d,e,j,cF,a0C (show i<1000000 by omega)])
  (fun i h hp=>by
   simp only[a3F,dlt h,cT,a0A h,oB]
   grind[a6h])
  (by simp[a3F])
 grind
theorem c2D(c:List (List Int))(l:List a1y):a9r (c,l)=some (decide (a2M c∧a6S l (c.length:Int))):=by
 unfold a9r;simp only[c1u,oB]
 by_cases hl:1≤c.length∧c.length≤8∧c.all (fun r=>decide (r.length=(c.headD []).length))=true
 rotate_left;rw[decide_eq_false hl,decide_eq_false (fun h:a2M c∧_=>hl ⟨h.1.1,h.1.2.1,lA.2 fun r a=>by
  have:=lA.1 h.1.2.2.2 r a
  simp_all⟩)]
 rfl;have b:m0k c 0=some (c.headD []):=by rw[show(0:Int)=((0:Nat):Int)from rfl,a0A (show 0<c.length by omega),b0U (d:=[]) (by omega)]
 rw[decide_eq_true hl];simp only[bT,cF,b,oB]
 by_cases h3:(((c.headD []).length:Nat):Int) > 4096
 rw[decide_eq_true h3,decide_eq_false (fun h:a2M c∧_=>by have:=h.1.2.2.1;omega)];rfl;rw[decide_eq_false h3];simp only[cF,b1E,oB]
 by_cases hm:a6S l (c.length:Int)
 rotate_left;simp_all;rw[decide_eq_true hm];simp only[bT,cF];have k:∀r∈c,r.length=(c.headD []).length:=fun r a=>by simp_all
 have g:=a0Z (f:=a5A) c (fun i=>(c,(i:Int),())) (fun r=>r.all a0B) (bt:=Sum.inl ()) (bf:=Sum.inr (false,()))
  (fun i h hp=>by
   have:=k c[i] (a05 h)
   simp only[a5A,dlt h,cT,a0A h,oB,a1p (show short c[i]by unfold short;omega),hp,bT,cF,a0C (show i<1000000 by omega)])
  (fun i h hp=>by
   have:=k c[i] (a05 h)
   simp only[a5A,dlt h,cT,a0A h,oB,a1p (show short c[i]by unfold short;omega),hp,a18])
  (by simp_all[a5A])
 simp at g;rw[g]
 by_cases hA:c.all (fun r=>r.all a0B)=true
 rw[hA,decide_eq_true (⟨⟨hl.1,hl.2.1,by omega,lA.2 fun r a=>by grind⟩,hm⟩:a2M c∧_)];rfl;rw[a52.2 hA,decide_eq_false (fun h:a2M c∧_=>hA (lA.2 fun r a=>by
  have:=lA.1 h.1.2.2.2 r a
  simp_all))];rfl
theorem b9y(h:a7Y c n)(m:n≤5000)(l:c.length≤100):a7R c=some c:=by
 have:=a1z (f:=a6d) (β:=List (List Int)×Unit) c (fun i (a:List (List Int))=>(c,(i:Int),a,())) (fun a x=>.inl (a++[x])) (fun i a=>a.length=i) (fun a=>(a,()))
  (fun i k a d=>⟨fun j g=>by
   simp at g;subst g;have o:=(h _ (a05 k)).1;have e:∀y:List Int,a74 ([([]:List Int)]:List (List Int)) 0 y=[y]:=fun _=>rfl;refine⟨?_,by grind⟩;simp only[a6d,dlt k,cT,a0A k,oB,e,a06,a09,a57];rw[a1u (by omega),cT,a1u (by omega),cT,a0C (show i<1000000 by omega)],fun b hb=>by grind⟩)
  (fun a d=>by simp_all[a6d]) (a:=[]) rfl
 simp_all[b5n,a7R,b3f]
theorem c6p(S:a7Y c n)(T:n≤5000){s:a1y}(p:sign=1∨sign=-1)(D:-1024≤s.2.2.1∧s.2.2.1≤1024)(a0:0≤s.1)(a1:s.1<(c.length:Int))(K:0≤s.2.1)(b1:s.2.1<(c.length:Int))(C:s.1.toNat≠s.2.1.toNat){xs:List Int}(H:c.getD s.1.toNat []=xs)(G:xs.length=n):∀(k g j h:List Int),j++k=xs→j.length=h.length→k.length=g.length→k.all a0B=true→g.all a0B=true→
  if(a8w sign s.2.2.1 k g).all a0B=true then
   y0s a4P (sign,(h.length:Int),c.set s.2.1.toNat (h++g),s,())=some (.inl (c.set s.2.1.toNat (h++a8w sign s.2.2.1 k g),()))
  else ∃c',y0s a4P (sign,(h.length:Int),c.set s.2.1.toNat (h++g),s,())=some (.inr (false,c',())):=by
 have hb:s.2.1.toNat<c.length:=by omega
 have F:∀r,(c.set s.2.1.toNat r).getD s.2.1.toNat []=r:=fun r=>b4E _ hb _ _;have E:∀r,(c.set s.2.1.toNat r).getD s.1.toNat []=xs:=fun r=>by grind
 have d:∀r,r.length=n→((c.set s.2.1.toNat r).getD 0 []).length=n:=fun r U=>by
  by_cases l:s.2.1.toNat=0
  grind
  rw[c2C _ (Ne.symm l)]
  grind[a6w]
 have w:decide ((0:Int)<(c.length:Int))=true:=by grind
 have N:decide ((0:Int)≤s.1)=true:=by simp_all
 have z:decide (s.1<(c.length:Int))=true:=by simp_all
 have O:decide ((0:Int)≤s.2.1)=true:=by simp_all
 have A:decide (s.2.1<(c.length:Int))=true:=by simp_all
 intro k
 induction k with
 |nil=>
  intro g j h u hp q _ _;have e:g=[]:=a35.1 q.symm;subst e;have B:h.length=n:=by simp_all
  have l:=d (h++[]) (by simp_all);rw[if_pos (by rfl)];refine a0E ?_
  simp only[a4P,b05,w,cT,l,B,dge,cF];rfl
 |cons x k v=>
  intro g j h u hp q a b;cases g with
  |nil=>simp_all
  |cons y g=>
   simp only[a34,bA]at a b;have i:(h++y::g).length=n:=by grind
   have o:h.length<n:=by grind
   have P:a38 xs (a33 (h.length:Int)) 0=x:=by rw[tN,←hp,←u];simp
   have Q:a38 (h++y::g) (a33 (h.length:Int)) 0=y:=by simp
   have L:decide ((0:Int)≤(h.length:Int))=true:=by simp
   have M:decide ((h.length:Int)<(n:Int))=true:=dlt o;have l:=d _ i;have hv:=c1r p D a.1 b.1;have V:wrap .i64 ((h.length:Int)+1)=((h.length+1:Nat):Int):=a0C (by omega);have I:a8w sign s.2.2.1 (x::k) (y::g)=a2N sign s.2.2.1 x y::a8w sign s.2.2.1 k g:=rfl;have t:a74 (c.set s.2.1.toNat (h++y::g)) s.2.1.toNat (a74 (h++y::g) (a33 (h.length:Int)) (a2N sign s.2.2.1 x y))=c.set s.2.1.toNat (h++a2N sign s.2.2.1 x y::g):=by
    simp
   have m:(h++a2N sign s.2.2.1 x y::g).length=n:=by simp_all
   have R:a38 (h++a2N sign s.2.2.1 x y::g) (a33 (h.length:Int)) 0=a2N sign s.2.2.1 x y:=by simp
   have f:a4P (sign,(h.length:Int),c.set s.2.1.toNat (h++y::g),s,()) =
     bif !(a0B (a2N sign s.2.2.1 x y))then some (.inr (Sum.inr (false,c.set s.2.1.toNat (h++a2N sign s.2.2.1 x y::g),())))
     else some (.inl (sign,((h.length+1:Nat):Int),c.set s.2.1.toNat (h++a2N sign s.2.2.1 x y::g),s,())):=by
    simp_all[a4P,a1N]
   cases hwv:a0B (a2N sign s.2.2.1 x y)with
   |false=>
    simp_all[a0E]
   |true=>
    rw[hwv]at f;have v:=v g (j++[x]) (h++[a2N sign s.2.2.1 x y]) (by simp_all) (by simp[hp]) (by simp_all) a.2 b.2;rw[a0G f,I];simp_all
theorem c4y(k:a7Y c n)(p:n≤5000){s:a1y}(q:a6h (c.length:Int) s=true)(a:sign=1∨sign=-1):
  ∃b f,b0H (c,s,sign)=some (b,f)∧match a6M sign s c with|some r=>b=true∧f=r|none=>b=false:=by
 obtain⟨a1,e,j,l,u,m,o⟩:=a8V.1 q;have d:=a6w k (i:=s.1.toNat) (by omega);have t:=a6w k (i:=s.2.1.toNat) (by omega);have hb:s.2.1.toNat<c.length:=by omega
 have g:c.set s.2.1.toNat (c.getD s.2.1.toNat [])=c:=by
  simp_all
 have:=c6p k p a ⟨m,o⟩ a1 e j l (by omega) (rfl:c.getD s.1.toNat []=_) d.1 (c.getD s.1.toNat []) (c.getD s.2.1.toNat []) [] [] rfl rfl (by omega) d.2 t.2
 rw[a09,g]at this;simp only[a17,nZ,a09,a16]at this;unfold b0H a6M
 by_cases hA:(a8w sign s.2.2.1 (c.getD s.1.toNat []) (c.getD s.2.1.toNat [])).all a0B=true
 simp_all;rw[if_neg hA]at this⊢;obtain⟨f,h⟩:=this;simp_all
theorem b3C{n N:Nat}(f:n≤5000){l:List a1y}(j:l.length≤16)(e:l.all (a6h (N:Int))=true):∀(k:Nat)(c:List (List Int)),k≤l.length→a7Y c n→c.length=N→
  y0s a4B (l,(k:Int)-1,c,())=some (match a6N (l.take k) c with|some r=>Sum.inl (r,())|none=>Sum.inr ([],6,()))
 |0,c,_,_,_=>a0E rfl
 |k+1,c,hk,hc,hcl=>by
  have i:k<l.length:=by omega
  have a:a6h (c.length:Int) l[k]=true:=by grind
  obtain⟨b,h,o,g⟩:=c4y hc f a (sign:=-1) (.inr rfl);rw[a54 i,b2b];rw[show((k+1:Nat):Int)-1=((k:Nat):Int)from by omega];have d:decide (((k:Nat):Int)≥0)=true:=by simp
  have w:wrap .i64 (((k:Nat):Int)-1)=((k:Nat):Int)-1:=a0D (by omega);cases hst:a6M (-1) l[k] c with
  |none=>
   simp_all[a0E,a4B,a0A]
  |some r=>
   rw[hst]at g;obtain⟨rfl,rfl⟩:=g;obtain⟨m,p⟩:=b6M hc a hst;rw[a0G (s':=(l,((k:Nat):Int)-1,h,())) (by
    simp_all[a4B,a0A])]
   rw[b3C f j e k h (by omega) m (by omega)];rfl
theorem b6O(c:List (List Int))(l:List a1y):a6J (c,l)=some (if a2M c∧a6S l (c.length:Int)then c4x (a6N l c)else([],1)):=by
 unfold a6J;simp only[c2D,oB]
 by_cases hq:a2M c∧a6S l (c.length:Int)
 have g:=c2S hq.1;have h:=hq.2;rw[decide_eq_true hq,if_pos hq]
 simp
 rw[b9y g (by have:=hq.1.2.2.1;omega) (by have:=hq.1.2.1;omega)]
 have:=b3C (N:=c.length) (by have:=hq.1.2.2.1;omega:(c.headD []).length≤5000) h.2.2.1 h.2.2.2 l.length c (a31 _) g rfl
 rw[a45]at this
 simp
 rw[a0D (n:=((l.length:Nat):Int)-1) (by have:=h.2.2.1;omega),this];cases a6N l c<;>rfl
 grind
theorem b1F(f:a1K):a5x f=some (decide (frP f)):=by
 unfold a5x;simp only[c1v,b1E,oB]
 by_cases h0:b2a f.2.2.1
 rotate_left;rw[decide_eq_false h0,decide_eq_false (fun h:frP f=>h0 h.1)];rfl
 by_cases h1:1≤f.2.1
 rotate_left;rw[decide_eq_true h0,decide_eq_false (fun h:f.2.1≥1=>h1 h),decide_eq_false (fun h:frP f=>h1 h.2.1)];rfl
 by_cases h2:f.2.1≤4096
 rotate_left;rw[decide_eq_true h0,decide_eq_true (show f.2.1≥1 from h1),decide_eq_false h2,decide_eq_false (fun h:frP f=>h2 h.2.2.1)];rfl
 by_cases h3:0≤f.1
 rotate_left;rw[decide_eq_true h0,decide_eq_true (show f.2.1≥1 from h1),decide_eq_true h2,decide_eq_false (fun h:f.1≥0=>h3 h),decide_eq_false (fun h:frP f=>h3 h.2.2.2.1)];rfl;rw[a0D (n:=4194304-f.2.1) (by omega)]
 by_cases h4:f.1≤4194304-f.2.1
 rotate_left;rw[decide_eq_true h0,decide_eq_true (show f.2.1≥1 from h1),decide_eq_true h2,decide_eq_true (show f.1≥0 from h3),decide_eq_false h4,decide_eq_false (fun h:frP f=>h4 h.2.2.2.2.1)];rfl;rw[decide_eq_true h0,decide_eq_true (show f.2.1≥1 from h1),decide_eq_true h2,decide_eq_true (show f.1≥0 from h3),decide_eq_true h4];simp only[cT];congr 1;exact decide_eq_decide.2 ⟨fun h=>⟨h0,h1,h2,h3,h4,h⟩,fun h=>h.2.2.2.2.2⟩
theorem b1G(f:a1K)(c:f.2.2.2.2.1.length≤8):∀(rest done:List Sub)(rows:List (List Int)),done++rest=f.2.2.2.2.1→rows.length=done.length→(∀s∈rest,SmallS s)→
  y0s a2E ((done.length:Int),rows,a5D,f,())=some (match a9i (fun s=>a1Y s f.2.1) rest with|some rs=>Sum.inl (rows++rs,a5D,f,())|none=>Sum.inr (false,a5D,()))
 | [],done,rows,hd,hr,_=>by
  have e:f.2.2.2.2.1.length=done.length:=by rw[←hd];simp
  rw[a0E (b:=Sum.inl (rows,a5D,f,())) (by simp only[a2E,e,dge,cF])];simp[a9i]
 |s::rest,done,rows,hd,hr,h=>by
  have d:=h s (by simp);have k:done.length<f.2.2.2.2.1.length:=by rw[←hd];simp
  have a:m0k f.2.2.2.2.1 (done.length:Int)=some s:=by rw[a0A k];congr 1;simp[←hd]
  have g:=b2l d f.2.1;simp only[a9i];cases ho:a1Y s f.2.1 with
  |none=>
   rw[ho]at g;exact a0E (by simp only[a2E,dlt k,cT,a,oB,g,a18];rfl)
  |some r=>
   rw[ho]at g;rw[a0G (s':=((((done++[s]).length:Nat):Int),rows++[r],a5D,f,())) (by
    simp only[a2E,dlt k,cT,a,oB,g,bT,cF,a1u (show rows.length+1<2147483648 by omega),a0C (show done.length<1000000 by omega)]
    simp)]
   rw[b1G f c rest (done++[s]) (rows++[r]) (by simpa using hd) (by simp[hr]) (fun t i=>h t (by simp[i]))];simp only[oB];cases a9i (fun s=>a1Y s f.2.1) rest<;>simp
def d1u:Option a4X→a4X×Bool
 |some b=>(b,true)
 |none=>(a5D,false)
theorem c1w{f:a1K}(a:∀s∈f.2.2.2.2.1,SmallS s):a5f f=some (d1u (a5C f)):=by
 unfold a5f a5C;simp only[b1F,oB]
 by_cases hf:frP f
 rotate_left;simp only[hf,decide_false,a18,cT,oB,false_and,if_false];rfl
 by_cases hl:((f.2.2.2.2.1.length:Nat):Int)=f.2.2.1.2.1
 rotate_left;have e:(((f.2.2.2.2.1.length:Nat):Int) != f.2.2.1.2.1)=true:=by simpa using hl
 simp only[hf,decide_true,bT,cF,oB,e,cT,hl,and_false,if_false];rfl;have e:(((f.2.2.2.2.1.length:Nat):Int) != f.2.2.1.2.1)=false:=by simpa using hl
 have k:f.2.2.2.2.1.length≤8:=by have:=hf.1.2.2.2.1;omega
 have h:=b1G f k f.2.2.2.2.1 [] [] rfl rfl a;rw[a17]at h;rw[if_pos ⟨hf,hl⟩];simp only[hf,decide_true,bT,cF,oB,e]
 erw[h]
 cases hm:a9i (fun s=>a1Y s f.2.1) f.2.2.2.2.1 with
 |none=>rfl
 |some rs=>
  simp only[oB,a09,b6O]
  by_cases hq:a2M rs∧a6S f.2.2.2.1 (rs.length:Int)
  ·simp only[if_pos hq];cases hu:a6N f.2.2.2.1 rs with
   |none=>rfl
   |some ch=>
    have g:((0:Int) != 0)=false:=rfl;simp only[c4x,g,cF,b6N,oB]
    by_cases hb:a3K (f.2.2.1.2.2.1,ch,())
    simp only[hb,decide_true,bT,cF,if_true];rfl;simp only[hb,decide_false,a18,cT,if_false];rfl
  simp only[if_neg hq];rfl
theorem c4z{f:a1K}(h:∀s∈f.2.2.2.2.1,SmallS s):a4Q f=some (a5C f).isSome:=by
 unfold a4Q;rw[c1w h];cases a5C f<;>rfl
def crE(s:BitVec 16):BitVec 16:=bif s.msb then(s <<< 1) ^^^ 32773#16 else s <<< 1
theorem c2T(s t:BitVec 16):crE (s ^^^ t)=crE s ^^^ crE t:=by
 unfold crE;rw[BitVec.msb_xor,BitVec.shiftLeft_xor_distrib];cases s.msb<;>cases t.msb<;>simp only[cT,cF,Bool.xor_true,Bool.xor_false,bT,a18];rw[a23];rw[a23,a23,a75 (t <<< 1)];rw[a23,a75 32773#16,a23,BitVec.xor_self,b07]
theorem c6q{s:BitVec 16}(h:crE s=0):s=0:=by
 unfold crE at h;cases hm:s.msb with
 |true=>
  rw[hm,cT]at h
  have:=congrArg (fun x=>b09 x 0) h
  simp at this
 |false=>
  rw[hm,cF]at h;refine a70 fun i g=>?_
  by_cases h15:i=15
  subst h15;rw[a64]at hm;simpa using hm
  have:=congrArg (fun x=>b09 x (i+1)) h
  simp at this;simpa using this (by omega)
theorem d1v:crE 0=0:=by decide
theorem b5q{s:BitVec 16}:∀{n:Nat},rep crE n s=0→s=0
 |0,h=>h
 |n+1,h=>c6q (b5q (n:=n) h)
theorem c7x:∀n:Nat,rep crE n 0=0
 |0=>rfl
 |n+1=>by
  show rep crE n (crE 0)=0;rw[d1v,c7x n]
def crB(b:Bool):BitVec 16:=bif b then 32768#16 else 0#16
def crS(s:BitVec 16)(b:Bool):BitVec 16:=crE (s ^^^ crB b)
def crT:List Bool→BitVec 16
 | []=>0#16
 |b::w=>crB b ^^^ (crT w >>> 1)
theorem c7T(b:Bool)(j:Nat):(crB b).getLsbD j=(b&&decide (j=15)):=by
 cases b with
 |false=>simp[crB]
 |true=>
  simp only[crB,cT,a25];rw[show(32768#16)=b18 16 (2^15)from rfl,BitVec.getLsbD_ofNat,Nat.testBit_two_pow]
  by_cases h:j=15
  subst h;rfl;rw[decide_eq_false (by omega:¬ (15=j)),decide_eq_false h,a49]
theorem b3K:∀(w:List Bool)(j:Nat),(crT w).getLsbD j=(decide (j<16)&&w.getD (15-j) false)
 | [],j=>by simp[crT]
 |b::w,j=>by
  rw[crT,BitVec.getLsbD_xor,c7T,a47,b3K w]
  by_cases h:j=15
  subst h;simp
  by_cases h2:j<16
  rw[show 15-j=(15-(1+j))+1 from by omega,a62];simp[h,h2,show 1+j<16 from by omega];simp[h,h2,show ¬ (1+j<16)from by omega]
theorem c6r{w:List Bool}(h:w.length≤15):crE (crT w >>> 1)=crT w:=by
 have k:(crT w >>> 1).msb=false:=by
  rw[a64,a47,b3K];simp
 unfold crE;rw[k,cF];refine a70 fun i f=>?_
 rw[BitVec.getLsbD_shiftLeft,a47];cases i with
 |zero=>
  have g:(crT w).getLsbD 0=false:=by
   rw[b3K,lD,List.getElem?_eq_none (by omega)];rfl
  rw[g];simp
 |succ i=>rw[show 1+(i+1-1)=i+1 from by omega];simp[f]
theorem c8H:∀(w:List Bool)(s:BitVec 16),w.length≤16→w.foldl crS s=rep crE w.length (s ^^^ crT w)
 | [],s,_=>by simp[crT,rep]
 |b::w,s,h=>by
  rw[lC]at h;rw[a76,c8H w _ (by omega),crT,←a23];show _=rep crE w.length (crE (s ^^^ crB b ^^^ (crT w >>> 1)));rw[c2T,c6r (by omega)];rfl
theorem c1x{α:Type}(f g:α→Bool):∀(L:List α)(s t:BitVec 16),(L.map fun j=>xor (f j) (g j)).foldl crS (s ^^^ t)=(L.map f).foldl crS s ^^^ (L.map g).foldl crS t
 | [],_,_=>rfl
 |a::L,s,t=>by
  simp only[List.map_cons,a76];rw[←c1x f g L];congr 1;unfold crS;rw[←c2T];congr 1
  have:crB (xor (f a) (g a))=crB (f a) ^^^ crB (g a):=by cases f a<;>cases g a<;>rfl
  rw[this];simp only[a23];rw[←a23 t,a75 t,a23]
theorem b2c:∀(n:Nat)(s:BitVec 16),(a00 n false).foldl crS s=rep crE n s
 |0,_=>rfl
 |n+1,s=>by
  rw[a88,a76,b2c n];show rep crE n (crE (s ^^^ 0#16))=rep crE n (crE s);rw[b07]
theorem d1w{w:List Bool}(h:w.length≤16)(a:true∈w)(k m:Nat):(a00 k false++(w++a00 m false)).foldl crS 0≠0:=by
 rw[a66,a66,b2c,b2c,c7x,c8H w _ h];intro e;have e:=b5q (b5q e);have e:crT w=0:=by simpa using e
 obtain⟨i,f,g⟩:=a84.1 a
 have:=b3K w (15-i)
 rw[e,show 15-(15-i)=i from by omega,lD,lG f,g]at this;simp at this;omega
def byb(c:Int):List Bool:=[7,6,5,4,3,2,1,0].map fun i=>c.toNat.testBit i
theorem c1y(a b:Int):0≤bits .u16 .xor a b∧bits .u16 .xor a b<65536:=by
 simp only[bits,a8v];omega
def b3L(p:List Int):List Bool:=p.flatMap byb
set_option maxRecDepth 100000 in
theorem c7U:b1d ()=some true:=by kernel_rfl
def a1Q:a1K:=(0,0,(0,0,0,()),[],[],())
def c8I(c:Int):Prop:=0≤c∧c<256
def a7v(p:List Int)(j:Nat):Bool:=(p.getD (j / 8) 0).toNat.testBit (7-j%8)
theorem b5r:∀p:List Int,b3L p=(a69 (8*p.length)).map (a7v p)
 | []=>rfl
 |c::p=>by
  have e:b3L (c::p)=byb c++b3L p:=rfl;rw[e,b5r p,lC,show 8*(p.length+1)=8+8*p.length from by omega,a83,pA,a61];congr 1;refine a89 fun j _=>?_
  show a7v p j=a7v (c::p) (8+j);unfold a7v;rw[show(8+j) / 8=j / 8+1 from by omega,a62,show(8+j)%8=j%8 from by omega]
structure Turn (b k i:Nat) (p0 p:List Int) (sm:Bool):Prop where
 len:p.length=p0.length
 ok:∀c∈p,c8I c
 bit:∀j,a7v p j=xor (a7v p0 j) (decide (k≤j∧j<k+i)&&b.testBit (j-k))
 smk:sm=true↔∃t,t<i∧b.testBit t=true
 pre:p.take (k / 8)=p0.take (k / 8)
 same:sm=false→p=p0
theorem turned{p0 q:List Int}{s:Bool}(w:k<8*p0.length)(i:(b3L p0).foldl crS 0=0)(g:Turn b k (min 16 (8*p0.length-k)) p0 q s)(u:s=true):(b3L q).foldl crS 0≠0:=by
 obtain⟨n,r⟩:∃n,min 16 (8*p0.length-k)=n:=⟨_,rfl⟩;rw[r]at g;have e:b3L q=(a69 (8*p0.length)).map fun j=>xor (a7v p0 j) (decide (k≤j∧j<k+n)&&b.testBit (j-k)):=by
  rw[b5r,g.len];exact a89 fun j _=>g.bit j
 have h:=c1x (a7v p0) (fun j=>decide (k≤j∧j<k+n)&&b.testBit (j-k)) (a69 (8*p0.length)) 0 0;have a:∀x:BitVec 16,(0:BitVec 16) ^^^ x=x:=fun _=>BitVec.zero_xor;rw[a,←e,←b5r,i,a]at h;rw[h];obtain⟨m,p⟩:∃m,8*p0.length=k+(n+m):=⟨8*p0.length-k-n,by omega⟩;rw[p,a83,a83,pA,pA,pA,a61,a61,a61];have c:(a69 k).map (fun j=>decide (k≤j∧j<k+n)&&b.testBit (j-k))=a00 k false:=by
  rw[a78];refine⟨by simp,fun x f=>?_⟩;obtain⟨j,o,rfl⟩:=a97.1 f
  grind
 have d:(a69 m).map (((fun j=>decide (k≤j∧j<k+n)&&b.testBit (j-k))∘(k+·))∘(n+·))=a00 m false:=by
  rw[a78];refine⟨by simp,fun x f=>?_⟩;obtain⟨j,o,rfl⟩:=a97.1 f
  grind
 rw[c,d];refine d1w (by simp;omega) ?_ k m;obtain⟨t,l,v⟩:=g.smk.1 u;refine a97.2 ⟨t,List.mem_range.2 l,?_⟩;simp_all
theorem b1H(l:List Int)(i:Int):∀(j k:Nat)(s:Int),k+j=8→0≤s∧s<256→y0s a9d (l,s,i,(k:Int),())=some (l,rep e8 j s,i,())
 |0,k,s,h,_=>by
  obtain rfl:k=8:=by omega
  rfl
 |j+1,k,s,h,hs=>by
  have d:decide ((k:Int)<8)=true:=by grind
  have e:decide (s≥128)=(A0o .u8 s 7==(1:Int)):=by
   obtain⟨n,rfl⟩:=a01 hs.1;have e:A0o .u8 (n:Int) 7=((n / 128:Nat):Int):=by
    show a91 (n:Int) ((128:Nat):Int)=_
    grind
   grind
  rw[a0G (s':=(l,e8 s,i,((k+1:Nat):Int),())) (by
   simp only[a9d,d,cT,a0C (show k<1000000 by omega),e8,e]
   grind)]
  exact b1H l i j (k+1) (e8 s) (by omega) (c6l s)
theorem a9X(l:List Int)(i:Int):∀(j k:Nat)(s:Int),k+j=8→0≤s∧s<65536→y0s a7J (l,s,i,(k:Int),())=some (l,rep e16 j s,i,())
 |0,k,s,h,_=>by
  obtain rfl:k=8:=by omega
  rfl
 |j+1,k,s,h,hs=>by
  have d:decide ((k:Int)<8)=true:=by grind
  have e:decide (s≥32768)=(A0o .u16 s 15==(1:Int)):=by
   obtain⟨n,rfl⟩:=a01 hs.1;have e:A0o .u16 (n:Int) 15=((n / 32768:Nat):Int):=by
    show a91 (n:Int) ((32768:Nat):Int)=_
    grind
   grind
  rw[a0G (s':=(l,e16 s,i,((k+1:Nat):Int),())) (by
   simp only[a7J,d,cT,a0C (show k<1000000 by omega),e16,e]
   grind)]
  exact a9X l i j (k+1) (e16 s) (by omega) (b8p s)
theorem c2E(a b:Int):0≤bits .u8 .xor a b∧bits .u8 .xor a b<256:=by
 grind[bits,a7S]
theorem c1z(h:short l):a9o l=some (b5o l):=by
 have:=a1z (f:=a7e) (β:=Int×Unit) l (fun i (a:Int)=>(l,a,(i:Int),())) (fun a x=>.inl (g8 a x)) (fun _ _=>True) (fun a=>(a,()))
  (fun i k a _=>⟨fun c g=>by
   simp at g;subst g
   have:=b1H l (i:Int) 8 0 (bits .u8 .xor a l[i]) rfl (c2E _ _)
   simp at this;refine⟨?_,trivial⟩;simp only[a7e,dlt k,cT,a0A k,oB,this,a0C (a08 k h),g8],fun b hb=>by grind⟩)
  (fun a d=>by simp_all[a7e]) (a:=0) trivial
 unfold a9o;simp at this;rw[this,a9T];rfl
theorem b8a(h:short l):a7K l=some (a9w l):=by
 have:=a1z (f:=a5V) (β:=Int×Unit) l (fun i (a:Int)=>(l,a,(i:Int),())) (fun a x=>.inl (g16 a x)) (fun _ _=>True) (fun a=>(a,()))
  (fun i k a _=>⟨fun c g=>by
   simp at g;subst g
   have:=a9X l (i:Int) 8 0 (bits .u16 .xor a (A0n .u16 (wrap .u16 l[i]) 8)) rfl (c1y _ _)
   simp at this;refine⟨?_,trivial⟩;simp only[a5V,dlt k,cT,a0A k,oB,this,a0C (a08 k h),g16],fun b hb=>by grind⟩)
  (fun a d=>by simp_all[a5V]) (a:=0) trivial
 unfold a7K;simp at this;rw[this,a9T];rfl
theorem c6s{v:Int}(h:0≤v∧v<65536):b1O (v,2)=some [v / 256,v%256]:=by
 obtain⟨n,rfl⟩:=a01 h.1;have g:wrap .u8 (A0o .u64 (n:Int) 8)=(n:Int) / 256:=by
  grind[A0o,a6t,a7S]
 have f:wrap .u8 (A0o .u64 (n:Int) 0)=(n:Int)%256:=by
  simp_all[A0o,a7S]
 have k:a6Y ((n:Int),(1:Int),([]:List Int),())=some (.inl ((n:Int),(0:Int),[(n:Int) / 256],())):=by
  simp only[a6Y,show decide ((1:Int)≥0)=true from rfl,cT,show wrap .u64 (wrap .i64 (8*1))=8 from rfl,show decide ((8:Int)<0)=false from rfl,cF,a1u (show([]:List Int).length+1<2147483648 by simp),g];rfl
 have a:a6Y ((n:Int),(0:Int),[(n:Int) / 256],())=some (.inl ((n:Int),(-1:Int),[(n:Int) / 256,(n:Int)%256],())):=by
  simp only[a6Y,show decide ((0:Int)≥0)=true from rfl,cT,show wrap .u64 (wrap .i64 (8*0))=0 from rfl,show decide ((0:Int)<0)=false from rfl,cF,a1u (show([(n:Int) / 256]:List Int).length+1<2147483648 by simp),f];rfl
 unfold b1O;rw[show wrap .i64 (v0r (v0s (2:Int) 8) 0-1)=1 from rfl,a0G k,a0G a,a0E (b:=([(n:Int) / 256,(n:Int)%256],())) rfl];rfl
theorem c5u(c:Nat)(g:i<m)(h:v+c*2^m<18446744073709551616)(f:m≤63):a2x ((v+c*2^m:Nat):Int) i=a2x (v:Int) i:=by
 rw[a6v h (by omega),a6v (by omega) (by omega)];have e:c*2^m=(c*2^(m-i-1)*2)*2^i:=by
  rw[Nat.mul_assoc,Nat.mul_assoc,a60 2,←a98,←Nat.pow_add];congr 2;omega
 rw[e,a79 _ _ (a20 i),Nat.add_mul_mod_self_right]
theorem c5v{v m:Nat}(c:Nat)(h:v+c*2^m<18446744073709551616)(g:m≤63):∀k,k≤m→pb ((v+c*2^m:Nat):Int) k=pb (v:Int) k
 |0,_=>rfl
 |k+1,hk=>by simp only[pb];rw[c5u c (by omega) h g,c5v c h g k (by omega)]
theorem c5w:∀(n:Nat)(B:List Int),a2g B→B.length=n→n≤62→∃v:Nat,v<2^n∧B=pb (v:Int) n
 |0,B,_,h,_=>⟨0,by decide,by rw[a35.1 h];rfl⟩
 |n+1,[],_,h,_=>by simp at h
 |n+1,b::B,hb,h,hn=>by
  obtain⟨v,hv,e⟩:=c5w n B (fun x j=>hb x (by simp[j])) (by simpa using h) (by omega);have g:b=0∨b=1:=hb b (by simp);have hp:2^(n+1)≤2^62:=a22 (by decide) hn;have i:2^(n+1)=2^n+2^n:=by rw[a98];omega
  obtain⟨c,k,a⟩:∃c:Nat,b=(c:Int)∧c≤1:=by
   rcases g with rfl|rfl;exact⟨0,rfl,by decide⟩;exact⟨1,rfl,by decide⟩
  have d:c*2^n≤2^n:=by
   have:c=0∨c=1:=by omega
   rcases this with rfl|rfl<;>simp
  refine⟨v+c*2^n,by omega,?_⟩;have f:v+c*2^n<18446744073709551616:=by omega
  simp only[pb];rw[c5v c f (by omega) n (a31 _),←e,a6v f (by omega),a79 _ _ (a20 n),a46 hv,k];congr 1;omega
structure OkL (L:List Int):Prop where
 bits:a2g L
 len:L.length<1000000
 eight:L.length%8=0
def St(L:List Int)(r:Rd):Prop:=r.2.2.1≠0∨∃P R,P++R=L∧r=rdr P R
def Stp(L:List Int)(r r':Rd)(A:List Int):Prop:=r'.2.2.1=0→∃P R,P++(A++R)=L∧r=rdr P (A++R)∧r'=rdr (P++A) R
theorem b8b{P' R':List Int}(h:P++R=P'++R')(e:rdr P R=rdr P' R'):P=P'∧R=R':=by
 have:P.length=P'.length:=by
  have:=congrArg (fun x:Rd=>x.2.1) e
  simp only[rdr]at this;omega
 exact a19 h this
theorem Stp.trans{r'':Rd}{B:List Int}(h:Stp L r r' A)(d:Stp L r' r'' B):Stp L r r'' (A++B):=fun e=>by
 obtain⟨i,R1,a,g,b⟩:=d e;obtain⟨P,R,f,c,k⟩:=h (by rw[g];rfl);rw[g]at k;obtain⟨rfl,rfl⟩:=b8b (by rw[a,←f];simp) k;exact⟨P,R1,by rw[←f];simp,by rw[c];simp,by rw[b];simp⟩
theorem Stp.ok(h:Stp L r r' A)(g:r'.2.2.1=0):r.2.2.1=0:=by
 obtain⟨P,R,-,e,-⟩:=h g;rw[e];rfl
theorem Stp.refl(h:St L r):Stp L r r []:=fun g=>by
 rcases h with h|⟨P,R,e,rfl⟩;exact absurd g h;exact⟨P,R,by simpa using e,rfl,by simp⟩
theorem OkL.okr(h:OkL L)(e:P++R=L):OkR P R:=⟨by rw[e];exact h.bits,by rw[e];have:=h.len;omega⟩
theorem OkL.left(h:OkL L)(e:P++R=L):(wL (P++R)).1.length*8=P.length+R.length:=by
 obtain⟨-,f⟩:=a8r (P++R);have g:=h.eight;rw[←e]at g;rw[f];simp only[lN]at g⊢;omega
theorem a1Z(h:r.2.2.1≠0):(r.2.2.1 != (0:Int))=true:=by simpa using h
theorem c2U(h:r.2.2.1≠0)(n:Int):a0J (r,n)=some (0,r):=by
 unfold a0J;simp only[a1Z h,cT]
theorem b5s(h:r.2.2.1≠0)(n:Int):a0K (r,n)=some (0,r):=by
 unfold a0K;simp only[a1Z h,cT]
theorem c2F(x y:Int):wrap .u64 (bits .u8 .and x y)=bits .u8 .and x y:=by
 show wrap .u64 (wrap .u8 _)=wrap .u8 _;rw[a7S];exact a0O (by omega)
theorem a9x(r:Rd)(i:Nat):a2Z (r,(i:Int))=a0V (r,(i:Int)):=by
 unfold a2Z a0V;have f:a40 (i:Int) 8=((i%8:Nat):Int):=by rw[a27 (by omega)];omega
 have h:wrap .i64 (7-((i%8:Nat):Int))=7-((i%8:Nat):Int):=a0D (by omega);have g:wrap .u64 (7-((i%8:Nat):Int))=7-((i%8:Nat):Int):=a0O (by omega);simp only[f,h,g,c2F]
theorem b8r{v:Nat}(hv:v<9223372036854775808){n:Nat}(p:n≤62){p0:Nat}:∀(m:Nat)(P R:List Int),m≤n→p0+(n-m)=P.length→a2g (P++(pb (v:Int) m++R))→(P++(pb (v:Int) m++R)).length<1000000000→
  y0s a4k ((n:Int),((v / 2^m:Nat):Int),((n-m:Nat):Int),((wL (P++(pb (v:Int) m++R))).1,(p0:Int),(0:Int),()),())=some ((n:Int),(v:Int),((wL (P++(pb (v:Int) m++R))).1,(p0:Int),(0:Int),()),())
 |0,P,R,_,_,_,_=>by
  refine a0E ?_
  simp[a4k]
 |m+1,P,R,hm,hp,hok,hlen=>by
  have j:decide (((n-(m+1):Nat):Int)<(n:Int))=true:=by simp;omega
  have a:=b1B hok hlen (i:=P.length) (by simp[pb]) ((p0:Int),(0:Int),());rw[show(P++(pb (v:Int) (m+1)++R)).getD P.length 0=a2x v m from by simp only[pb,a68];exact c7Q _ _ _]at a;have b:wrap .i64 ((p0:Int)+((n-(m+1):Nat):Int))=(P.length:Int):=by rw[a0D (by simp at hlen;omega)];omega
  have k:=a6v (v:=v) (by omega) (i:=m) (by omega);have c:v / 2^m%2<2:=a53 _ (by decide);have g:v / 2^(m+1)=v / 2^m / 2:=by rw[a98,a73]
  have l:v / 2^m≤v:=a30 _ _;have d:A0n .u64 ((v / 2^(m+1):Nat):Int) 1=((v / 2^(m+1)*2^1:Nat):Int):=b0N (o:=1) (by omega) (by rw[g];omega);have f:bits .u64 .or ((v / 2^(m+1)*2^1:Nat):Int) (a2x (v:Int) m)=((v / 2^m:Nat):Int):=by
   rw[k,orU (by rw[g];omega) c (by omega),g];congr 1;omega
  have e:wrap .i64 (((n-(m+1):Nat):Int)+1)=((n-m:Nat):Int):=by rw[a0D (by omega)];omega
  have h:P++(pb (v:Int) (m+1)++R)=(P++[a2x v m])++(pb (v:Int) m++R):=by simp[pb]
  rw[a0G (s':=((n:Int),((v / 2^m:Nat):Int),((n-m:Nat):Int),((wL (P++(pb (v:Int) (m+1)++R))).1,(p0:Int),(0:Int),()),())) (by
   simp only[a4k,j,cT,b,a9x];rw[a];simp only[oB,d,f,e])]
  rw[h];rw[b8r hv p m (P++[a2x v m]) R (by omega) (by simp;omega) (by rw[←h];exact hok) (by rw[←h];exact hlen)]
theorem c7V(b:n≤62)(hv:v<2^n)(h:OkR P (pb (v:Int) n++R)):a0K (rdr P (pb (v:Int) n++R),(n:Int))=some ((v:Int),rdr (P++pb (v:Int) n) R):=by
 obtain⟨k,a⟩:=h;have g:v<9223372036854775808:=a95 hv (a96 (a22 (by decide) b) (by decide));have f:=b8r g b (p0:=P.length) n P R (by omega) (by omega) k (by omega);rw[a46 hv,a59]at f;simp only[nZ,a16]at f;obtain⟨-,j⟩:=a8r (P++(pb (v:Int) n++R));have l:(P++(pb (v:Int) n++R)).length=P.length+n+R.length:=by simp[a1D];omega
 have i:wrap .i64 (wrap .i64 ((8:Int)*(((wL (P++(pb (v:Int) n++R))).1.length:Nat):Int))-(P.length:Int))=(8:Int)*(((wL (P++(pb (v:Int) n++R))).1.length:Nat):Int)-(P.length:Int):=by
  rw[a0D (n:=(8:Int)*_) (by omega),a0D (by omega)]
 have c:decide ((n:Int)<0)=false:=by simp
 have d:decide ((n:Int) > 64)=false:=by simp;omega
 have e:decide ((n:Int) > (8:Int)*(((wL (P++(pb (v:Int) n++R))).1.length:Nat):Int)-(P.length:Int))=false:=by
  simp only[decide_eq_false_iff_not];omega
 have m:wrap .i64 ((P.length:Int)+(n:Int))=(((P++pb (v:Int) n).length:Nat):Int):=by rw[a0D (by omega)];simp[a1D]
 unfold a0K a1i;simp only[rdr,bne_self_eq_false,cF,c,d,oB,i,e]
 erw[f]
 simp only[oB,m,aA]
theorem c5x(d:n≤62)(b:OkL L)(e:P++R=L)(i:R.length<n):
  a0J (rdr P R,(n:Int))=some (0,(wL (P++R)).1,(P.length:Int),(3:Int),())∧a0K (rdr P R,(n:Int))=some (0,(wL (P++R)).1,(P.length:Int),(3:Int),()):=by
 have c:=b.left e;have a:=b.len;rw[←e]at a;simp only[lN]at a;have k:wrap .i64 (wrap .i64 ((8:Int)*(((wL (P++R)).1.length:Nat):Int))-(P.length:Int))=(R.length:Int):=by
  rw[a0D (n:=(8:Int)*_) (by omega),a0D (by omega)];omega
 have h:decide ((n:Int)<0)=false:=by simp
 have g:decide ((n:Int) > 64)=false:=by simp;omega
 have f:decide ((n:Int) > (R.length:Int))=true:=by simp;omega
 constructor;unfold a0J a2c;simp only[rdr,bne_self_eq_false,cF,h,g,oB,k,f,cT];unfold a0K a1i;simp only[rdr,bne_self_eq_false,cF,h,g,oB,k,f,cT]
theorem a1L(c:OkL L)(g:St L r)(k:n≤62):
  ∃(v:Nat)(r':Rd),v<2^n∧a0J (r,(n:Int))=some ((v:Int),r')∧a0K (r,(n:Int))=some ((v:Int),r')∧St L r'∧Stp L r r' (pb (v:Int) n):=by
 rcases g with g|⟨P,R,e,rfl⟩;exact⟨0,r,a20 n,c2U g _,b5s g _,.inl g,fun a=>absurd a g⟩
 by_cases h:n≤R.length
 have hb:a2g (R.take n):=fun b hb=>c.bits b (by rw[←e];exact a80 _ (a43 hb));obtain⟨v,hv,hp⟩:=c5w n (R.take n) hb (by rw[a58];omega) k;have d:R=pb (v:Int) n++R.drop n:=by rw[←hp,List.take_append_drop]
 have f:=c.okr e;generalize R.drop n=R' at d;subst d;exact⟨v,_,hv,c1q k hv f,c7V k hv f,.inr ⟨_,_,by rw[←e];simp,rfl⟩,fun _=>⟨P,R',e,rfl,rfl⟩⟩;obtain⟨i,j⟩:=c5x k c e (by omega:R.length<n);exact⟨0,_,a20 n,i,j,.inl (show(3:Int)≠0 by decide),fun a=>by cases a⟩
theorem c7W(hv:v<2^n)(k:n≤62):∃x,b3z n x∧a3a x n=(v:Int):=by
 have hp:=a20 n
 by_cases h:2*v<2^n
 refine⟨(v:Int),⟨by omega,by omega⟩,?_⟩;obtain⟨w,g,a,f⟩:=b0R k (v:Int);rw[g,f,a51 (by omega) (by omega)];refine⟨(v:Int)-((2^n:Nat):Int),⟨by omega,by omega⟩,?_⟩;obtain⟨w,g,a,f⟩:=b0R k ((v:Int)-((2^n:Nat):Int));rw[g,f,Int.sub_emod_right,a51 (by omega) (by omega)]
theorem c4A(a:n≤62){v:Int}(f:a0J (r,(n:Int))=some (v,r'))(k:a0K (r,(n:Int))=some (v,r')):a2f (r,(n:Int))=a0N (r,(n:Int)):=by
 have h:wrap .i64 (64-(n:Int))=64-(n:Int):=a0D (by omega);have g:wrap .u64 (64-(n:Int))=64-(n:Int):=a0O (by omega);unfold a2f a0N;simp only[f,k,oB];cases (r'.2.2.1 != (0:Int));simp only[cF,oB,h,g];simp only[cT,oB]
theorem c4B(h:r.2.2.1≠0)(n:Int):a0N (r,n)=some (0,r):=by
 unfold a0N;simp only[c2U h,oB,a1Z h,cT]
theorem c2G(i:OkL L)(p:St L r)(f:n≤62):
  ∃(x:Int)(g:Rd),b3z n x∧a0N (r,(n:Int))=some (x,g)∧a2f (r,(n:Int))=some (x,g)∧St L g∧Stp L r g (pb (a3a x n) n):=by
 obtain⟨v,g,hv,d,l,e,k⟩:=a1L i p f;have m:=c4A f d l;have z0:b3z n 0:=by have:=a20 n;exact⟨by omega,by omega⟩
 rw[m]
 by_cases h0:g.2.2.1=0
 obtain⟨P,R,a,b,c⟩:=k h0;obtain⟨x,j,o⟩:=c7W hv f;rw[←o]at a b c k
 have:=c5m f j (i.okr a)
 rw[←b,←c]at this;exact⟨x,g,j,this,this,e,k⟩
 have:a0N (r,(n:Int))=some (0,g):=by
  unfold a0N;simp only[d,oB,a1Z h0,cT]
 exact⟨0,g,z0,this,this,e,fun h=>absurd h h0⟩
theorem b1k:∀(R:List Int),a2g R→∃c R2,R=a00 c 0++R2∧(R2=[]∨∃R3,R2=1::R3)
 | [],_=>⟨0,[],rfl,.inl rfl⟩
 |b::R,h=>by
  rcases h b (by simp)with rfl|rfl;obtain⟨c,R2,e,g⟩:=b1k R fun x f=>h x (by simp[f]);exact⟨c+1,R2,by rw[e,a88];rfl,g⟩;exact⟨0,_,rfl,.inr ⟨R,rfl⟩⟩
theorem b3D(P R:List Int)(i:Nat):(P++R).getD (P.length+i) 0=R.getD i 0:=by
 simp only[lD];rw[a65 (by omega),Nat.add_sub_cancel_left]
theorem b2d{c:Nat}(h:i<c)(R:List Int):(a00 c (0:Int)++R).getD i 0=0:=by
 simp only[lD];rw[a67 (by simpa using h)];simp[h]
theorem b8s(c:Nat)(R:List Int):(a00 c (0:Int)++1::R).getD c 0=1:=by
 simp only[lD];rw[a65 (by simp)]
 simp
theorem c4C(E:OkL L)(x:St L r):
  ∃(v:Nat)(k:Rd),v≤32∧a1U (r,(32:Int))=some ((v:Int),k)∧a2p (r,(32:Int))=some ((v:Int),k)∧St L k∧Stp L r k (unB v)∧(k.2.2.1≠0→v=0):=by
 rcases x with x|⟨P,R,e,rfl⟩;refine⟨0,r,by decide,?_,?_,.inl x,fun l=>absurd l x,fun _=>rfl⟩;unfold a1U;simp only[a1Z x,cT];rfl;unfold a2p;simp only[a1Z x,cT];rfl
 ·have X:=E.left e;have H:=E.len;obtain⟨z,I⟩:=E.okr e;rw[←e]at H;simp only[lN]at H;obtain⟨c,R2,n,F⟩:=b1k R fun b hb=>z b (a80 _ hb);have y:R.length=c+R2.length:=by rw[n];simp
  have g:∀i,i<R.length→∀t,a0V (((wL (P++R)).1,t),((P.length+i:Nat):Int))=some (R.getD i 0,(wL (P++R)).1,t):=fun i u t=>by
   rw[←b3D P R i];exact b1B z (by omega) (by simp;omega) t
  have e8:wrap .i64 ((8:Int)*(((wL (P++R)).1.length:Nat):Int))=((P.length+R.length:Nat):Int):=by rw[a0D (by omega)];omega
  have A:wrap .i64 (((P.length+R.length:Nat):Int)-(P.length:Int))=(R.length:Int):=by rw[a0D (by omega)];omega
  have M:v0r (32:Int) (0:Int)=32:=rfl

  have U:∀i,i<c→i<32→a1f ((32:Int),(i:Int),((P.length+i:Nat):Int),rdr P R,())=some (.inl ((32:Int),((i+1:Nat):Int),((P.length+(i+1):Nat):Int),rdr P R,())):=fun i u D=>by
   have n1:(((P.length+i:Nat):Int)==((P.length+R.length:Nat):Int))=false:=by rw[beq_eq_false_iff_ne];omega
   have n2:((i:Int)==32)=false:=by rw[beq_eq_false_iff_ne];omega
   have s:R.getD i 0=0:=by rw[n];exact b2d u _
   have G:wrap .i64 ((i:Int)+1)=((i+1:Nat):Int):=a0C (by omega);have w2:wrap .i64 (((P.length+i:Nat):Int)+1)=((P.length+(i+1):Nat):Int):=by rw[a0D (by omega)];omega
   simp only[a1f,rdr,e8,n1,cF];rw[g i (by omega)];simp only[oB,s,n2,G,w2];rfl
  have V:∀i,i<c→i<32→a1r ((32:Int),(i:Int),rdr P R,())=some (.inl ((32:Int),((i+1:Nat):Int),rdr P R,())):=fun i u D=>by
   have n1:decide ((i:Int)<(R.length:Int))=true:=by simp;omega
   have n2:decide ((i:Int)≥32)=false:=by simp;omega
   have s:R.getD i 0=0:=by rw[n];exact b2d u _
   have G:wrap .i64 ((i:Int)+1)=((i+1:Nat):Int):=a0C (by omega);have w2:wrap .i64 ((P.length:Int)+(i:Int))=((P.length+i:Nat):Int):=by rw[a0D (by omega)];omega
   simp only[a1r,a1i,rdr,e8,A,n1,cT,oB,w2,a9x];rw[g i (by omega)];simp only[oB,s,n2,G];rfl
  have Q:(P.length:Int)=((P.length+0:Nat):Int):=rfl;have j:∀(m:Nat)(v:Int)(k:Rd)(w:(Rd×Unit) ⊕ (Int×Rd×Unit)),m≤c→m≤32→
    a1f ((32:Int),(m:Int),((P.length+m:Nat):Int),rdr P R,())=some (.inr (v,k,()))→
    a1r ((32:Int),(m:Int),rdr P R,())=some (.inr w)→
    (match w with|.inl a=>(0,a.1.1,a.1.2.1,(3:Int),a.1.2.2.2)|.inr b=>(b.1,b.2.1))=(v,k)→
    a1U (rdr P R,(32:Int))=some (v,k)∧a2p (rdr P R,(32:Int))=some (v,k):=fun m v k w Y N hp O K=>by
   have S:=a1F (f:=a1f) (fun i=>((32:Int),(i:Int),((P.length+i:Nat):Int),rdr P R,())) m (fun i u=>U i (by omega) (by omega)) hp;have T:=a1F (f:=a1r) (fun i=>((32:Int),(i:Int),rdr P R,())) m (fun i u=>V i (by omega) (by omega)) O;constructor;unfold a1U;simp only[show(rdr P R).2.2.1=0 from rfl,bne_self_eq_false,cF,M]
   erw[S]
   rfl
   ·unfold a2p;simp only[show(rdr P R).2.2.1=0 from rfl,bne_self_eq_false,cF,M]
    erw[T]
    simp only[oB];cases w with
    |inl a=>exact congrArg some K
    |inr b=>exact congrArg some K
  by_cases hc:c≤32
  rcases F with rfl|⟨q,rfl⟩
  
  have o:R.length=c:=by simpa using y
  have h:=j c 0 ((wL (P++R)).1,(P.length:Int),(3:Int),()) (.inl (rdr P R,())) (a31 _) hc
   (by
    have n1:(((P.length+c:Nat):Int)==((P.length+R.length:Nat):Int))=true:=by rw[beq_iff_eq];omega
    simp only[a1f,rdr,e8,n1,cT])
   (by
    have n1:decide ((c:Int)<(R.length:Int))=false:=by simp;omega
    simp only[a1r,a1i,rdr,e8,A,n1,cF,oB])
   rfl
  exact⟨0,_,by decide,h.1,h.2,.inl (show(3:Int)≠0 by decide),(fun l=>by cases l),fun _=>rfl⟩;have o:c<R.length:=by rw[y];simp
  have b1:R.getD c 0=1:=by rw[n];exact b8s _ _
  have n1:(((P.length+c:Nat):Int)==((P.length+R.length:Nat):Int))=false:=by rw[beq_eq_false_iff_ne];omega
  have p:decide ((c:Int)<(R.length:Int))=true:=by simp;omega
  have w2:wrap .i64 (((P.length+c:Nat):Int)+1)=((P.length+c+1:Nat):Int):=by rw[a0D (by omega)];omega
  have B:wrap .i64 ((P.length:Int)+(c:Int))=((P.length+c:Nat):Int):=by rw[a0D (by omega)];omega
  have d:((wL (P++R)).1,((P.length+c+1:Nat):Int),(0:Int),())=rdr (P++unB c) q:=by
   unfold rdr unB;rw[n]
   simp
   omega
  have h:=j c (c:Int) (rdr (P++unB c) q) (.inr ((c:Int),rdr (P++unB c) q,())) (a31 _) hc
   (by
    rw[←d];simp only[a1f,rdr,e8,n1,cF];rw[g c o];simp only[oB,b1,w2];rfl)
   (by
    rw[←d];simp only[a1r,a1i,rdr,e8,A,p,cT,oB,B,a9x];rw[g c o];simp only[oB,b1,B,w2];rfl)
   rfl
  have C:R=unB c++q:=by rw[n];simp[unB]
  refine⟨c,_,hc,h.1,h.2,.inr ⟨P++unB c,q,by rw[←e,C];simp,rfl⟩,fun _=>⟨P,q,by rw[←C];exact e,by rw[←C],rfl⟩,fun l=>absurd rfl l⟩;have s:R.getD 32 0=0:=by rw[n];exact b2d (by omega) _
  have n1:(((P.length+32:Nat):Int)==((P.length+R.length:Nat):Int))=false:=by rw[beq_eq_false_iff_ne];omega
  have p:decide (((32:Nat):Int)<(R.length:Int))=true:=by simp;omega
  have B:wrap .i64 ((P.length:Int)+((32:Nat):Int))=((P.length+32:Nat):Int):=by rw[a0D (by omega)];omega
  have h:=j 32 0 ((wL (P++R)).1,(P.length:Int),(2:Int),()) (.inr (0,((wL (P++R)).1,(P.length:Int),(2:Int),()),())) (by omega) (a31 _)
   (by
    simp only[a1f,rdr,e8,n1,cF];rw[g 32 (by omega)];simp only[oB,s];rfl)
   (by
    simp only[a1r,a1i,rdr,e8,A,p,cT,oB,B,a9x];rw[g 32 (by omega)];simp only[oB,s];rfl)
   rfl
  exact⟨0,_,by decide,h.1,h.2,.inl (show(2:Int)≠0 by decide),(fun l=>by cases l),fun _=>rfl⟩
inductive Rds (n:Nat):Rd→List Int→Rd→Prop
 |nil (r:Rd):Rds n r [] r
 |cons {r r1 r2:Rd} {x:Int} {l:List Int} (h1:a0N (r,(n:Int))=some (x,r1)) (h2:r.2.2.1=0→a2f (r,(n:Int))=some (x,r1)) (h:Rds n r1 l r2):Rds n r (x::l) r2
theorem b3E{L:List Int}(f:OkL L){n:Nat}(k:n≤62):∀(m:Nat){r:Rd},St L r→∃l h,Rds n r l h∧l.length=m∧(∀x∈l,b3z n x)∧St L h∧Stp L r h (sB n l)
 |0,r,hr=>⟨[],r,.nil r,rfl,by simp,hr,Stp.refl hr⟩
 |m+1,r,hr=>by
  obtain⟨x,s,e,a,b,c,d⟩:=c2G f hr k;obtain⟨l,h,i,j,o,p,q⟩:=b3E f k m c;refine⟨x::l,h,.cons a (fun _=>b) i,by simp[j],fun y g=>?_,p,?_⟩;rcases mC.1 g with rfl|g;exact e;exact o y g;exact Stp.trans d q
theorem c2V(h:Rds n r l r')(g:r.2.2.1≠0):r'=r:=by
 induction h with
 |nil=>rfl
 |cons h1 _ _ ih=>
  rw[c4B g]at h1;simp only[sj,pJ]at h1;obtain⟨-,rfl⟩:=h1;exact ih g
theorem c5y(c:N<1000000)(h:Rds n r l r'):∀(d:List Int),d.length+l.length=N→
  ∃l',y0s a1n ((N:Int),(n:Int),(d.length:Int),d,r,())=some (d++l',r',())∧(r'.2.2.1=0→l'=l):=by
 induction h with
 |nil r=>
  intro d f
  have:d.length=N:=by simpa using f
  refine⟨[],?_,fun _=>rfl⟩;rw[a07];exact a0E (by simp only[a1n,this,dge,cF])
 | @cons r r1 r2 x l h1 h2 h ih=>
  intro d f;rw[lC]at f
  by_cases h0:r.2.2.1=0
  obtain⟨l',a,b⟩:=ih (d++[x]) (by simp;omega);refine⟨x::l',?_,fun k=>by rw[b k]⟩;have g:(r.2.2.1==(0:Int))=true:=by simpa using h0
  rw[a0G (s':=((N:Int),(n:Int),(((d++[x]).length:Nat):Int),d++[x],r1,())) (by
   simp only[a1n,dlt (show d.length<N by omega),cT,g,h2 h0,oB,a1u (show d.length+1<2147483648 by omega),a0C (show d.length<1000000 by omega)]
   simp)]
  rw[a]
  simp
  have hb:=c2V (Rds.cons h1 h2 h) h0;refine⟨[],?_,fun k=>absurd k (by rw[hb];exact h0)⟩;have g:(r.2.2.1==(0:Int))=false:=by simpa using h0
  rw[hb,a07];exact a0E (by simp only[a1n,dlt (show d.length<N by omega),cT,g,cF])
theorem b3M(k:l.length<1000000)(h:Rds n r l r'):∃l',a1g (r,(l.length:Int),(n:Int))=some (l',r')∧(r'.2.2.1=0→l'=l):=by
 obtain⟨l',g,f⟩:=c5y k h [] (by simp);refine⟨l',?_,f⟩;unfold a1g;simp only[a17,nZ,a16]at g
 erw[g]
 rfl
theorem d1x(u:Nat)(h:u<18446744073709551616):bits .u64 .and (u:Int) 1=((u%2:Nat):Int):=by
 show wrap .u64 (((a04 64 (u:Int)) &&& (a04 64 1)).toNat:Int)=_;rw[a24,b03,a29,a28 h,show(a04 64 1).toNat=1 from by decide,Nat.and_one_is_mod];exact a0O (by omega)
theorem d5i{y:Nat}(g:y<9223372036854775808):bits .i64 .xor (-1) (y:Int)=-(y:Int)-1:=by
 show wrap .i64 (((a04 64 (-1)) ^^^ (a04 64 (y:Int))).toNat:Int)=_;have h:((a04 64 (-1)) ^^^ (a04 64 (y:Int))).toNat=18446744073709551615-y:=by
  rw[show a04 64 (-1)=b08 64 from by decide,a94,b02,a24,a29,a28 (by omega)]
 rw[h];simp only[wrap,IntKind.bits,IntKind.signed]
 simp
 omega
theorem c2W(b:u<18446744073709551616):a9H (u:Int)=a4p (u:Int):=by
 have a:a40 (u:Int) 2=((u%2:Nat):Int):=rfl;have f:a92 (u:Int) 2=((u / 2:Nat):Int):=rfl;have k:A0o .u64 (u:Int) 1=((u / 2:Nat):Int):=a6t (N:=u) (o:=1) (by omega);have c:wrap .u64 ((u / 2:Nat):Int)=((u / 2:Nat):Int):=a0O (by omega);have w2:wrap .i64 ((u / 2:Nat):Int)=((u / 2:Nat):Int):=a0D (by omega);unfold a9H a4p;simp only[a,f,k,c,w2,d1x u b];have g:u%2=0∨u%2=1:=by omega
 rcases g with h|h;rw[h];rfl;rw[h,d5i (by omega),a0D (n:=0-((u / 2:Nat):Int)) (by omega),a0D (n:=0-((u / 2:Nat):Int)-1) (by omega)];show some _=some _;congr 1;omega
theorem b6P(h:u<18446744073709551616):a8G (u:Int)=a3f (u:Int):=by
 unfold a8G a3f;rw[c2W h];unfold a4p;cases decide ((u:Int)≥2147483648)<;>simp only[cT,cF];cases (a40 (u:Int) 2==0)<;>simp only[cT,cF,oB]
theorem b8t(g:u<2147483648):∃x,a0B x=true∧a0S x=u:=by
 by_cases h:u%2=0
 refine⟨((u / 2:Nat):Int),a2v.2 (by omega),?_⟩;unfold a0S;rw[if_pos (by omega)];omega;refine⟨-((u / 2:Nat):Int)-1,a2v.2 (by omega),?_⟩;unfold a0S;rw[if_neg (by omega)];omega
theorem c5z(T:OkL L)(hr:St L r)(hk:k≤25)(hi:i<N)(hN:N<1000000){acc:List Int}(ha:acc.length<1000000):
  (∃x r',a0B x=true∧r'.2.2.1=0∧St L r'∧Stp L r r' (b0S k x)∧
   a1o ((k:Int),(N:Int),(i:Int),acc,r,())=some (.inl ((k:Int),(N:Int),((i+1:Nat):Int),acc++[x],r',()))∧
   a1d ((k:Int),(N:Int),(i:Int),acc,r,())=some (.inl ((k:Int),(N:Int),((i+1:Nat):Int),acc++[x],r',())))∨
  ∃(e:Int)(r':Rd),e≠0∧a1o ((k:Int),(N:Int),(i:Int),acc,r,())=some (.inr (.inr (e,[],r',())))∧
   a1d ((k:Int),(N:Int),(i:Int),acc,r,())=some (.inr (.inr (e,[],r',()))):=by
 obtain⟨q,Q,hq,F,G,Y,Z,h5⟩:=c4C T hr;have C:2^k≤33554432:=a96 (a22 (by decide) hk) (by decide);have U:=a20 k;have E:wrap .u64 (q:Int)=(q:Int):=a0O (by omega);have P:wrap .u64 (k:Int)=(k:Int):=a0O (by omega);have s:decide ((k:Int)<0)=false:=by simp
 have h:=dlt hi;have t:=a1u (show acc.length+1<2147483648 by omega);have z:=a0C (show i<1000000 by omega)
 by_cases e1:Q.2.2.1=0
 rotate_left
 
 have q0:=h5 e1;subst q0;refine .inr ⟨Q.2.2.1,Q,e1,?_,?_⟩;simp only[a1o,a3p,a0F,h,cT,F,oB,a1Z e1];have d:decide (((0:Nat):Int)<32)=true:=by decide
 simp only[a1d,h,cT,G,d,P,s,cF,b5s e1,oB,a1Z e1];have m:(Q.2.2.1 != (0:Int))=false:=by simpa using e1
 have h0:∀(c:Nat)(n:Nat),c≤62→(c:Int)=(n:Int)→c=n:=by omega
 by_cases hq32:q<32
 have d:decide ((q:Int)<32)=true:=by simp;omega
 obtain⟨v,r2,hv,A,B,R,S⟩:=a1L T Y (n:=k) (by omega);have w:A0n .u64 (q:Int) (k:Int)=((q*2^k:Nat):Int):=b0N (by omega) (by
  have:q*2^k≤31*33554432:=a50 (by omega) C
  omega)
 have h6:q*2^k≤31*33554432:=a50 (by omega) C;have D:wrap .u64 (((q*2^k:Nat):Int)+(v:Int))=((q*2^k+v:Nat):Int):=by rw[a0O (by omega)];omega
 have M:bits .u64 .or ((q*2^k:Nat):Int) (v:Int)=((q*2^k+v:Nat):Int):=by
  have:=orA (a:=v) (b:=q) (k:=k) hv (by omega)
  rw[Nat.add_comm,←this];show wrap .u64 (((a04 64 _ ||| a04 64 _).toNat:Nat):Int)=wrap .u64 (((a04 64 _ ||| a04 64 _).toNat:Nat):Int);rw[BitVec.or_comm]
 have V:q*2^k+v<2147483648:=by omega
 obtain⟨x,O,o⟩:=b8t V;have j:=b8m O;rw[o]at j;have f:=b6P (u:=q*2^k+v) (by omega);rw[j]at f
 by_cases e2:r2.2.2.1=0
 have l:(r2.2.2.1 != (0:Int))=false:=by simpa using e2
 refine .inl ⟨x,r2,O,e2,R,?_,?_,?_⟩;have hb:b0S k x=unB q++pb (v:Int) k:=by
  have I:a0S x / 2^k=q:=by rw[o,a60,Nat.mul_add_div U,a46 hv];omega
  have K:a0S x%2^k=v:=by rw[o,a60,Nat.mul_add_mod,a28 hv]
  unfold b0S;rw[I,if_pos hq32,K]
 rw[hb];exact Stp.trans Z S;simp only[a1o,a3p,a0F,h,cT,F,oB,m,cF,E,d,A,s,w,D,j,l,t,z,a06];simp only[a1d,h,cT,G,d,P,E,s,cF,B,oB,w,M,l,f,t,z,a06];refine .inr ⟨r2.2.2.1,r2,e2,?_,?_⟩;simp only[a1o,a3p,a0F,h,cT,F,oB,m,cF,E,d,A,s,w,D,j,a1Z e2];simp only[a1d,h,cT,G,d,P,E,s,cF,B,oB,w,M,a1Z e2]
 ·have X:q=32:=by omega
  subst X;have d:decide (((32:Nat):Int)<32)=false:=by decide
  obtain⟨v,r2,hv,A,B,R,S⟩:=a1L T Y (n:=32) (by omega);rw[show((32:Nat):Int)=32 from rfl]at A B
  by_cases e2:r2.2.2.1=0
  rotate_left;have g:(r2.2.2.1==(0:Int))=false:=by simpa using e2
  refine .inr ⟨r2.2.2.1,r2,e2,?_,?_⟩;simp only[a1o,a3p,a0F,h,cT,F,oB,m,cF,E,d,A,a1Z e2];simp only[a1d,h,cT,G,d,cF,B,oB,g,a1Z e2];have l:(r2.2.2.1 != (0:Int))=false:=by simpa using e2
  have g:(r2.2.2.1==(0:Int))=true:=by simpa using e2
  have y:A0o .u64 (v:Int) (k:Int)=((v / 2^k:Nat):Int):=a6t (by omega);have h7:v<4294967296:=hv
  by_cases hbig:v<2147483648∧32≤v / 2^k
  have p:decide ((v:Int)≥2147483648)=false:=by simp;omega
  have H:decide (((v / 2^k:Nat):Int)<32)=false:=by rw[decide_eq_false_iff_not];omega
  obtain⟨x,O,o⟩:=b8t hbig.1;have j:=b8m O;rw[o]at j;have f:=b6P (u:=v) (by omega);rw[j]at f;refine .inl ⟨x,r2,O,e2,R,?_,?_,?_⟩;have hb:b0S k x=unB 32++pb (v:Int) 32:=by
   unfold b0S;rw[o,if_neg (by omega)]
  rw[hb];exact Stp.trans Z S;simp only[a1o,a3p,a0F,h,cT,F,oB,m,cF,E,d,A,l,p,s,y,H,j,t,z,a06]
  simp
  simp only[a1d,h,cT,G,d,P,cF,B,oB,g,p,s,y,H,l,f,t,z,a06];refine .inr ⟨2,r2,by decide,?_,?_⟩
  by_cases hb1:v<2147483648
  have p:decide ((v:Int)≥2147483648)=false:=by simp;omega
  have H:decide (((v / 2^k:Nat):Int)<32)=true:=by rw[dT];omega
  simp only[a1o,a3p,a0F,h,cT,F,oB,m,cF,E,d,A,l,p,s,y,H]
  simp
  have p:decide ((v:Int)≥2147483648)=true:=by simp;omega
  simp only[a1o,a3p,a0F,h,cT,F,oB,m,cF,E,d,A,l,p]
  simp
  by_cases hb1:v<2147483648
  have p:decide ((v:Int)≥2147483648)=false:=by simp;omega
  have H:decide (((v / 2^k:Nat):Int)<32)=true:=by rw[dT];omega
  simp only[a1d,h,cT,G,d,P,cF,B,oB,g,p,s,y,H];have p:decide ((v:Int)≥2147483648)=true:=by simp;omega
  simp only[a1d,h,cT,G,d,cF,B,oB,g,p]
theorem b8u{L:List Int}(b:OkL L){k:Nat}(d:k≤25){N:Nat}(c:N<1000000):∀(m:Nat)(acc:List Int)(r:Rd),acc.length+m=N→St L r→r.2.2.1=0→
  (∃l h,l.length=m∧l.all a0B=true∧h.2.2.1=0∧St L h∧Stp L r h (b1C k l)∧
   y0s a1o ((k:Int),(N:Int),(acc.length:Int),acc,r,())=some (.inl (acc++l,h,()))∧
   y0s a1d ((k:Int),(N:Int),(acc.length:Int),acc,r,())=some (.inl (acc++l,h,())))∨
  ∃(e:Int)(h:Rd),e≠0∧y0s a1o ((k:Int),(N:Int),(acc.length:Int),acc,r,())=some (.inr (e,[],h,()))∧
   y0s a1d ((k:Int),(N:Int),(acc.length:Int),acc,r,())=some (.inr (e,[],h,()))
 |0,acc,r,hm,hr,h0=>by
  have:acc.length=N:=by omega
  refine .inl ⟨[],r,rfl,rfl,h0,hr,Stp.refl hr,?_,?_⟩;rw[a07];exact a0E (by simp only[a1o,this,dge,cF]);rw[a07];exact a0E (by simp only[a1d,this,dge,cF])
 |m+1,acc,r,hm,hr,h0=>by
  rcases c5z b hr d (N:=N) (i:=acc.length) (by omega) c (acc:=acc) (by omega)with⟨x,y,o,j,z,A,p,q⟩|⟨e,h,g,p,q⟩;have n:(acc++[x]).length=acc.length+1:=by simp
  rw[a0G p,a0G q,←n];rcases b8u b d c m (acc++[x]) y (by omega) z j with⟨l,h,s,t,u,v,w,f,a⟩|⟨e,h,g,f,a⟩;refine .inl ⟨x::l,h,by simp[s],by simp[o,t],u,v,?_,?_,?_⟩;exact Stp.trans A w;rw[f];simp;rw[a];simp;exact .inr ⟨e,h,g,f,a⟩;exact .inr ⟨e,h,g,a0E p,a0E q⟩
theorem c5A(j:OkL L)(o:k≤25)(p:m<1000000)(q:St L r)(d:r.2.2.1=0):
  (∃l h,l.length=m∧l.all a0B=true∧h.2.2.1=0∧St L h∧Stp L r h (b1C k l)∧a6D (r,(k:Int),(m:Int))=some (l,0,h)∧a4N (r,(k:Int),(m:Int))=some (l,0,h))∨
  ∃(e:Int)(h:Rd),e≠0∧a6D (r,(k:Int),(m:Int))=some ([],e,h)∧a4N (r,(k:Int),(m:Int))=some ([],e,h):=by
 have hp:a2G (k:Int)=some true:=by
  unfold a2G;rw[decide_eq_true (show(0:Int)≤k by omega),decide_eq_true (show(k:Int)≤25 by omega)];rfl
 have i:a1c (k:Int)=some true:=by
  unfold a1c;rw[decide_eq_true (show(k:Int)≥0 by omega),decide_eq_true (show(k:Int)≤25 by omega)];rfl
 have a:decide ((m:Int)<0)=false:=by simp
 have b:decide ((m:Int) > 4194304)=false:=by simp;omega
 have c:(r.2.2.1 != (0:Int))=false:=by simpa using d
 rcases b8u j o p m [] r (by simp) q d with⟨l,h,s,t,u,v,w,g,f⟩|⟨e,h,n,g,f⟩;simp only[a17,nZ,a16]at g f;refine .inl ⟨l,h,s,t,u,v,w,?_,?_⟩;unfold a6D a0F;simp only[hp,oB,bT,cF,a,b,c]
 erw[g]
 rfl;unfold a4N;simp only[i,oB,bT,cF,a,b,c]
 erw[f]
 rfl;simp only[a17,nZ,a16]at g f;refine .inr ⟨e,h,n,?_,?_⟩;unfold a6D a0F;simp only[hp,oB,bT,cF,a,b,c]
 erw[g]
 rfl;unfold a4N;simp only[i,oB,bT,cF,a,b,c]
 erw[f]
 rfl
def a7m(x:List Int):Prop:=∀b∈x,0≤b∧b<256
theorem c8J{c:Int}(h:0≤c∧c<256):bits .u8 .and c 127=c%128:=by
 have g:∀k:Fin 256,bits .u8 .and (k.1:Int) 127=((k.1%128:Nat):Int):=by decide +kernel
 obtain⟨n,rfl⟩:=a01 h.1
 have:=g ⟨n,by omega⟩
 simp only at this;rw[this];omega
def a9Y(n c:Int)(i:Nat):Int:=bits .u64 .or n (A0n .u64 (c%128) ((7*i:Nat):Int))
def b5t(c:Int)(i:Nat):Bool:=(decide (i=9)&&decide (c > 1)) || (decide (0<i)&&decide (c=0))
theorem c8K(hb:a7m t)(m:t.length<1000000000)(h:i<t.length)(l:i≤9)(n:Int):
  a1R (n,t,(t.length:Int),(i:Int),())=bif b5t t[i] i then some (.inr (.inr (0,0,2,())))else
   bif decide (t[i]<128)then some (.inr (.inr (a9Y n t[i] i,((i+1:Nat):Int),0,())))else some (.inl (a9Y n t[i] i,t,(t.length:Int),((i+1:Nat):Int),())):=by
 have f:=hb t[i] (a05 h);have j:wrap .i64 (7*(i:Int))=((7*i:Nat):Int):=by rw[a0D (by omega)];omega
 have a:decide (((7*i:Nat):Int)<0)=false:=decide_eq_false (by omega);have tm:a40 t[i] 128=t[i]%128:=a27 f.1;have k:wrap .u64 (t[i]%128)=t[i]%128:=a0O (by omega);have g:=a0C (show i<1000000 by omega);simp only[a1R,dlt h,cT,a0A h,oB];generalize t[i]=c at f tm k⊢;have b:((i:Int)==9)=decide (i=9):=by rw[a37,beq_iff_eq,dT];omega
 have d:decide ((i:Int) > 0)=decide (0<i):=by rw[a37,dT,dT];omega
 have e:(c==0)=decide (c=0):=rfl;simp only[b,d,e,b5t];generalize decide (i=9)=b1;generalize decide (c > 1)=b2;generalize decide (0<i)=b3;generalize decide (c=0)=b4;cases b1<;>cases b2<;>cases b3<;>cases b4 <;>
  simp only[cT,cF,a90,a49,Bool.or_true,Bool.or_false,oB,j,a,tm,k,g,a9Y]
theorem c7X{x:List Int}(hb:a7m x)(u:x.length<1000000000){p:Nat}(k:p+i<x.length)(t:i≤9)(g n:Int):
  a1H (g,n,(i:Int),(x,(p:Int),(0:Int),()),())=bif b5t x[p+i] i then some (.inr (.inr (0,(x,(p:Int),(2:Int),()),())))else
   bif decide (x[p+i]<128)then(bif decide (a9Y n x[p+i] i > g)then some (.inr (.inr (0,(x,(p:Int),(4:Int),()),())))else some (.inr (.inr (a9Y n x[p+i] i,(x,((p+(i+1):Nat):Int),(0:Int),()),()))))
   else some (.inl (g,a9Y n x[p+i] i,((i+1:Nat):Int),(x,(p:Int),(0:Int),()),())):=by
 have e:=hb x[p+i] (a05 k);have wp:wrap .i64 ((p:Int)+(i:Int))=((p+i:Nat):Int):=by rw[a0D (by omega)];omega
 have s:wrap .i64 (7*(i:Int))=((7*i:Nat):Int):=by rw[a0D (by omega)];omega
 have d:wrap .u64 ((7*i:Nat):Int)=((7*i:Nat):Int):=a0O (by omega);have m:decide (((7*i:Nat):Int)<0)=false:=decide_eq_false (by omega);have j:=c8J e;have l:wrap .u64 (x[p+i]%128)=x[p+i]%128:=a0O (by omega);have b:=a0C (show i<1000000 by omega);have a:wrap .i64 (((p+i:Nat):Int)+1)=((p+(i+1):Nat):Int):=by rw[a0D (by omega)];omega
 simp only[a1H,wp,dlt k,cT,a0A k,oB];generalize x[p+i]=c at e j l⊢;have f:decide (c≥128)=!decide (c<128):=by
  by_cases h:c<128
  rw[decide_eq_true h,decide_eq_false (by omega)];rfl;rw[decide_eq_false h,decide_eq_true (by omega)];rfl
 have o:((i:Int)==9)=decide (i=9):=by rw[a37,beq_iff_eq,dT];omega
 have q:decide ((i:Int) > 0)=decide (0<i):=by rw[a37,dT,dT];omega
 have r:(c==0)=decide (c=0):=rfl;simp only[o,q,r,b5t];generalize decide (i=9)=b1;generalize decide (c > 1)=b2;generalize decide (0<i)=b3;generalize decide (c=0)=b4;cases b1<;>cases b2<;>cases b3<;>cases b4 <;>
  simp only[cT,cF,a90,a49,Bool.or_true,Bool.or_false,oB,wp,s,d,m,j,l,b,a,f,a9Y] <;>
  (try (cases decide (c<128)<;>(try simp only[bT,a18,cT,cF])<;>rfl))
theorem c2H(n c:Int)(i:Nat):0≤a9Y n c i:=by
 show 0≤wrap .u64 _;simp only[wrap,IntKind.bits,IntKind.signed]
 simp
 omega
theorem b8v{x:List Int}(hb:a7m x)(d:x.length<1000000000){p:Nat}(hp:p≤x.length)(g:Int):∀(m i:Nat)(n:Int),p+i+m=x.length→i≤9→
  (y0s a1R (n,x.drop p,((x.drop p).length:Int),(i:Int),())=some (.inl ())∧
   y0s a1H (g,n,(i:Int),(x,(p:Int),(0:Int),()),())=some (.inl ((x,(p:Int),(0:Int),()),())))∨
  (y0s a1R (n,x.drop p,((x.drop p).length:Int),(i:Int),())=some (.inr (0,0,2,()))∧
   y0s a1H (g,n,(i:Int),(x,(p:Int),(0:Int),()),())=some (.inr (0,(x,(p:Int),(2:Int),()),())))∨
  ∃(v:Int)(z:Nat),0≤v∧p+z≤x.length∧y0s a1R (n,x.drop p,((x.drop p).length:Int),(i:Int),())=some (.inr (v,(z:Int),0,()))∧
   y0s a1H (g,n,(i:Int),(x,(p:Int),(0:Int),()),())=bif decide (v > g)then some (.inr (0,(x,(p:Int),(4:Int),()),()))else some (.inr (v,(x,((p+z:Nat):Int),(0:Int),()),()))
 |0,i,n,hm,h9=>by
  have e:(x.drop p).length=i:=by rw[a32];omega
  have wp:wrap .i64 ((p:Int)+(i:Int))=(x.length:Int):=by rw[a0D (by omega)];omega
  refine .inl ⟨a0E ?_,a0E ?_⟩;simp only[a1R,e,dge,cF];simp only[a1H,wp,dge,cF]
 |m+1,i,n,hm,h9=>by
  have c:p+i<x.length:=by omega
  have a:i<(x.drop p).length:=by rw[a32];omega
  have k:a7m (x.drop p):=fun b h=>hb b (a42 h);have l:(x.drop p)[i]=x[p+i]:=by rw[List.getElem_drop]
  have f:=c8K k (by rw[a32];omega) a h9 n;have r2:=c7X hb d c h9 g n;rw[l]at f;have o:=hb x[p+i] (a05 c);cases hv:b5t x[p+i] i with
  |true=>
   rw[hv]at f r2;exact .inr (.inl ⟨a0E f,a0E r2⟩)
  |false=>
   rw[hv]at f r2;simp only[cF]at f r2
   by_cases h128:x[p+i]<128
   rw[decide_eq_true h128]at f r2;simp only[cT]at f r2;refine .inr (.inr ⟨a9Y n x[p+i] i,i+1,c2H _ _ _,by omega,a0E f,?_⟩)
   by_cases hgt:a9Y n x[p+i] i > g
   rw[decide_eq_true hgt]at r2⊢;exact a0E r2;rw[decide_eq_false hgt]at r2⊢;exact a0E r2;rw[decide_eq_false h128]at f r2;simp only[cF]at f r2;have j:i≠9:=fun h=>by
    subst h
    have:b5t x[p+9] 9=true:=by
     unfold b5t;rw[decide_eq_true (show x[p+9] > 1 by omega)];rfl
    rw[this]at hv;cases hv
   rw[a0G f,a0G r2];exact b8v hb d hp g m (i+1) (a9Y n x[p+i] i) (by omega) (by omega)
@[reducible] def oP(x:List Int)(k p:Nat)(e:Int):Rd:=(x.drop k,((p:Int),(e,())))
@[reducible] def oR(x:List Int)(k p:Nat)(e:Int):Rd:=(x,(((p+k:Nat):Int),(e,())))
theorem a4r{x:List Int}(hb:a7m x)(i:x.length<1000000000){p:Nat}(hp:p+k≤x.length)(e:Int)(h:Nat):
  ∃(v p':Nat)(e':Int),v≤h∧p'+k≤x.length∧a0P (oP x k p e,(h:Int))=some ((v:Int),oP x k p' e')∧a0Y (oR x k p e,(h:Int))=some ((v:Int),oR x k p' e'):=by
 by_cases he:e=0
 rotate_left;have hb:(e != (0:Int))=true:=by simpa using he
 refine⟨0,p,e,a81 _,hp,?_,?_⟩;unfold a0P oP;simp only[hb,cT];rfl;unfold a0Y oR;simp only[hb,cT];rfl;subst he;have c:decide ((0:Int)≤(p:Int))=true:=by simp
 have d:decide ((p:Int)≤((x.drop k).length:Int))=true:=by rw[a32];simp;omega
 have a:b17 (a33 (p:Int)) (a99 (x.drop k).length (x.drop k))=x.drop (p+k):=by
  rw[a45,tN,List.drop_drop];congr 1;omega
 have z0:((0:Int) != 0)=false:=rfl;unfold a0P a0Y oP oR a8j;simp only[z0,cF,c,d,a02,cT,a];have b:=b8v hb i (p:=p+k) (by omega) (h:Int) (x.length-(p+k)) 0 0 (by omega) (by omega);simp only[nZ]at b;rcases b with⟨g,f⟩|⟨g,f⟩|⟨v,z,hv,j,g,f⟩
 erw[g,f]
 exact⟨0,p,3,a81 _,hp,rfl,rfl⟩
 erw[g,f]
 exact⟨0,p,2,a81 _,hp,rfl,rfl⟩
 erw[g,f]
 obtain⟨u,rfl⟩:=a01 hv
 by_cases hgt:(u:Int) > (h:Int)
 simp only[decide_eq_true hgt,cT];exact⟨0,p,4,a81 _,hp,by simp[hgt],rfl⟩;simp only[decide_eq_false hgt,cF];refine⟨u,p+z,0,by omega,by omega,?_,?_⟩;have w:wrap .i64 ((p:Int)+(z:Int))=((p+z:Nat):Int):=by rw[a0D (by omega)];omega
 simp[hgt,w]
 have:p+k+z=p+z+k:=by omega
 simp[this]
theorem c6t{k:Int}(f:N<1000000)(h:Rds n r l r'):∀(d:List Int),d.length+l.length=N→
  y0s a6E (k,(n:Int),(N:Int),(d.length:Int),d,r,())=some (k,(n:Int),d++l,r',()):=by
 induction h with
 |nil r=>
  intro d g
  have:d.length=N:=by simpa using g
  rw[a07];exact a0E (by simp only[a6E,this,dge,cF])
 | @cons r r1 r2 x l h1 h2 h ih=>
  intro d g;rw[lC]at g;rw[a0G (s':=(k,(n:Int),(N:Int),(((d++[x]).length:Nat):Int),d++[x],r1,())) (by
   simp only[a6E,dlt (show d.length<N by omega),cT,h1,oB,a1u (show d.length+1<2147483648 by omega),a0C (show d.length<1000000 by omega)]
   simp)]
  rw[ih (d++[x]) (by simp;omega)]
  simp
theorem b8w(g:n≤31)(h:∀x∈l,b3z n x):l.all a0B=true:=lA.2 fun x f=>by
 have hp:2^n≤2^31:=a22 (by decide) g
 have:=h x f
 unfold b3z at this;exact a2v.2 (by omega)
theorem c6u(B:OkL L)(S:St L r)(Y:m≤5000):
  (∃(k:Nat)(l:List Int)(c:Rd),kB (k:Int)=true∧l.length=m∧l.all a0B=true∧c.2.2.1=0∧St L c∧Stp L r c (b1Z (k:Int) l)∧a1W (r,(m:Int))=some ((k:Int),l,0,c)∧
   ∃g,a0K (r,(5:Int))=some ((k:Int),g)∧g.2.2.1=0∧a3r (g,(k:Int),(m:Int))=some (l,0,c))∨
  ∃(e:Int)(c:Rd)(k0:Int)(l0:List Int)(v:Nat)(g:Rd),e≠0∧v<32∧a1W (r,(m:Int))=some (k0,l0,e,c)∧a0K (r,(5:Int))=some ((v:Int),g)∧
   (g.2.2.1≠0∨(g.2.2.1=0∧∃(l1:List Int)(a:Int)(r2:Rd),a≠0∧a3r (g,(v:Int),(m:Int))=some (l1,a,r2))):=by
 obtain⟨k,g,t,o,p,M,I⟩:=a1L B S (n:=5) (by omega);have t:k<32:=t;rw[show((5:Nat):Int)=5 from rfl]at o p
 by_cases a:g.2.2.1=0
 rotate_left;refine .inr ⟨g.2.2.1,g,0,[],k,g,a,t,?_,p,.inl a⟩;simp only[a1W,a0F,o,oB,a1Z a,cT];have b:(g.2.2.1 != (0:Int))=false:=by simpa using a
 have u:wrap .i64 (k:Int)=(k:Int):=a0D (by omega);have f:a1c (k:Int)=some (decide ((k:Int)≤25)):=by
  unfold a1c;rw[decide_eq_true (show(k:Int)≥0 by omega)];rfl
 by_cases hk25:k≤25
 have i:decide ((k:Int)≤25)=true:=by simp;omega
 have h:((k:Int) != 31)=true:=by simp;omega
 rw[i]at f;rcases c5A B hk25 (show m<1000000 by omega) M a with⟨l,c,x,y,E,F,R,G,H⟩|⟨e,c,O,G,H⟩;refine .inl ⟨k,l,c,?_,x,y,E,F,?_,?_,g,p,a,?_⟩;simp[kB];omega;unfold b1Z;rw[if_neg (by omega),tN];exact Stp.trans I R;simp only[a1W,a0F,o,oB,b,cF,u,i,cT,G];simp only[a3r,h,cT,f,oB,bT,cF,H];refine .inr ⟨e,c,(k:Int),[],k,g,O,t,?_,p,.inr ⟨a,[],e,c,O,?_⟩⟩;simp only[a1W,a0F,o,oB,b,cF,u,i,cT,G];simp only[a3r,h,cT,f,oB,bT,cF,H];have i:decide ((k:Int)≤25)=false:=by simp;omega
 rw[i]at f
 by_cases hk31:k=31
 rotate_left;have h:((k:Int) != 31)=true:=by simp;omega
 refine .inr ⟨2,g,0,[],k,g,by decide,t,?_,p,.inr ⟨a,[],2,g,by decide,?_⟩⟩;simp only[a1W,a0F,o,oB,b,cF,u,i,h,cT];simp only[a3r,h,cT,f,oB,a18];subst hk31;have d:((31:Nat):Int)=31:=rfl;rw[d]at o p I u i f;have h:((31:Int) != 31)=false:=by decide
 obtain⟨w,r2,P,x,y,E,F⟩:=a1L B M (n:=5) (by omega);have P:w<32:=P;rw[show((5:Nat):Int)=5 from rfl]at x y;have z:wrap .i64 (w:Int)=(w:Int):=a0D (by omega);obtain⟨l,s,Q,K,T,U,V⟩:=b3E B (n:=w) (by omega) m E;have C:=c6t (k:=(31:Int)) (N:=m) (by omega) Q [] (by simpa using K);obtain⟨l',D,X⟩:=b3M (by omega) Q;simp only[a17,nZ,a16,a09]at C;rw[K]at D;have q:short l:=by unfold short;omega
 by_cases e3:s.2.2.1=0
 rotate_left;refine .inr ⟨s.2.2.1,s,0,[],31,g,e3,t,?_,p,.inr ⟨a,[],s.2.2.1,s,e3,?_⟩⟩;simp only[a1W,a0F,o,oB,b,cF,u,i,h,x,z]
 erw[C]
 simp only[oB,a1Z e3,cT];rw[d];simp only[a3r,h,cF,y,z,oB,D,a1Z e3,cT];have j:(s.2.2.1 != (0:Int))=false:=by simpa using e3
 obtain rfl:=X e3
 by_cases hwd:a0H l'=w
 have A:(((a0H l':Nat):Int) != (w:Int))=false:=by simp;omega
 refine .inl ⟨31,l',s,by decide,K,b8w (by omega) T,e3,U,?_,?_,g,p,a,?_⟩;unfold b1Z;rw[if_pos (show((31:Nat):Int)=31 from rfl),hwd];exact Stp.trans I (Stp.trans F V);rw[d];simp only[a1W,a0F,o,oB,b,cF,u,i,h,x,z]
 erw[C]
 simp only[oB,j,cF,a4m q,A];rw[d];simp only[a3r,h,cF,y,z,oB,D,j,a4T q,A];have A:(((a0H l':Nat):Int) != (w:Int))=true:=by simp;omega
 refine .inr ⟨2,s,0,[],31,g,by decide,t,?_,p,.inr ⟨a,[],2,s,by decide,?_⟩⟩;simp only[a1W,a0F,o,oB,b,cF,u,i,h,x,z]
 erw[C]
 simp only[oB,j,cF,a4m q,A,cT];rw[d];simp only[a3r,h,cF,y,z,oB,D,j,a4T q,A,cT]
def b1I:Prt:=(0,[],())
theorem b0V{L:List Int}(G:OkL L){o:Int}{z0:Prt}{all:List Nat}(j:all.length≤256):∀(zs dz:List Nat)(dk acc:List Int)(r:Rd),dz++zs=all→dk.length=dz.length→acc.length+zs.sum≤5000→St L r→r.2.2.1=0→
  (∃(a l:List Int)(h:Rd),a.length=zs.length∧a.all kB=true∧l.length=zs.sum∧l.all a0B=true∧h.2.2.1=0∧St L h∧Stp L r h (a5M zs a l)∧
   y0s a2d (((a1v all).length:Int),(dz.length:Int),acc,a1v all,r,z0,(o,dk,()),())=some (.inl (acc++l,z0,(o,dk++a,()),h,()))∧
   y0s a1I ((dz.length:Int),a1v all,acc,r,z0,(o,dk,()),())=some (.inl (acc++l,z0,(o,dk++a,()),h,())))∨
  ∃(e y:Int)(h d:Rd),e≠0∧y≠0∧
   y0s a2d (((a1v all).length:Int),(dz.length:Int),acc,a1v all,r,z0,(o,dk,()),())=some (.inr (e,[],b1I,h,()))∧
   y0s a1I ((dz.length:Int),a1v all,acc,r,z0,(o,dk,()),())=some (.inr (y,[],b1I,d,()))
 | [],dz,dk,acc,r,hd,hk,hs,hr,h0=>by
  have H:(a1v all).length=dz.length:=by rw[a2m,←hd];simp
  refine .inl ⟨[],[],r,rfl,rfl,rfl,rfl,h0,hr,Stp.refl hr,?_,?_⟩;rw[a07,a07];exact a0E (by simp only[a2d,H,dge,cF]);rw[a07,a07];exact a0E (by simp only[a1I,H,dge,cF])
 |z::zs,dz,dk,acc,r,hd,hk,hs,hr,h0=>by
  rw[a87]at hs;have U:(a1v all).length=all.length:=a2m all;have S:all.length=dz.length+1+zs.length:=by rw[←hd];simp;omega
  have g:dz.length<(a1v all).length:=by omega
  have x:decide ((0:Int)≤(dz.length:Int))=true:=by simp
  have B:a38 (a1v all) dz.length 0=(z:Int):=by rw[←hd];exact c5r dz z zs
  have c:lim (dk.length+1)=true:=a1u (by omega);have u:wrap .i64 ((dz.length:Int)+1)=(((dz++[z]).length:Nat):Int):=by rw[a0D (by omega)];simp
  rcases c6u G hr (m:=z) (by omega)with⟨k,l,i,I,K,X,Y,Z,k6,p,ra,qa,qb,qc⟩|⟨e,h,k0,l0,v,i,n,hv,p,q,T⟩;have wk:wrap .i64 (k:Int)=(k:Int):=by
   have:(k:Int)≤31:=by
    simp only[kB,a71,bA,dT,beq_iff_eq]at I;omega
   exact a0D (by omega)
  have w:lim (acc.length+l.length)=true:=a1u (by omega);have E:(ra.2.2.1 != (0:Int))=false:=by simpa using qb
  rw[a0G (f:=a2d) (s':=(((a1v all).length:Int),(((dz++[z]).length:Nat):Int),acc++l,a1v all,i,z0,(o,dk++[(k:Int)],()),())) (by
   simp only[a2d,dlt g,x,a02,cT,tN,B,p,oB,bne_self_eq_false,cF,c,w,u,a06])]
  rw[a0G (f:=a1I) (s':=((((dz++[z]).length:Nat):Int),a1v all,acc++l,i,z0,(o,dk++[(k:Int)],()),())) (by
   simp only[a1I,dlt g,x,a02,cT,tN,B,qa,oB,E,wk,qc,bne_self_eq_false,cF,c,w,u,a06])]
  rcases b0V G (o:=o) (z0:=z0) j zs (dz++[z]) (dk++[(k:Int)]) (acc++l) i (by simpa using hd) (by simp[hk]) (by simp only[lN];omega) Z Y with⟨a,l2,h,M,N,g3,O,P,Q,R,g8,C⟩|⟨e,y,h,d,n,b,g8,C⟩;refine .inl ⟨(k:Int)::a,l++l2,h,by simp[M],by simp[I,N],by rw[lN,a87];omega,by rw[List.all_append,X,O];rfl,P,Q,?_,?_,?_⟩;have e:a5M (z::zs) ((k:Int)::a) (l++l2)=b1Z (k:Int) l++a5M zs a l2:=by
   simp only[a5M];rw[List.take_left' K,List.drop_left' K]
  rw[e];exact Stp.trans k6 R;rw[g8];simp;rw[C];simp;exact .inr ⟨e,y,h,d,n,b,g8,C⟩;have wv:wrap .i64 (v:Int)=(v:Int):=a0D (by omega);have b:(e != (0:Int))=true:=by simpa using n
  have hp:y0s a2d (((a1v all).length:Int),(dz.length:Int),acc,a1v all,r,z0,(o,dk,()),())=some (.inr (e,[],b1I,h,())):=
   a0E (by simp only[a2d,dlt g,x,a02,cT,tN,B,p,oB,b];rfl)
  rcases T with A|⟨A,l1,F,r2,s,V⟩;exact .inr ⟨e,i.2.2.1,h,i,n,A,hp,a0E (by simp only[a1I,dlt g,cT,q,oB,a1Z A];rfl)⟩;have D:(i.2.2.1 != (0:Int))=false:=by simpa using A
  have t:(F != (0:Int))=true:=by simpa using s
  exact .inr ⟨e,F,h,r2,n,s,hp,a0E (by simp only[a1I,dlt g,x,a02,cT,tN,B,q,oB,D,wv,cF,c,V,t];rfl)⟩
theorem c4D(x:OkL L)(E:St L r){n:Int}(g:a5P n warm=true):
  (∃(p:Prt)(l:List Int)(j:List Nat)(h:Rd),PartsOk p n warm l j∧h.2.2.1=0∧St L h∧Stp L r h (a4n p j l)∧
   a6X (r,n,warm)=some (p,l,0,h)∧a3R (r,n,warm)=some (p,l,0,h))∨
  ∃(e m:Int)(p p':Prt)(l l':List Int)(h a:Rd),e≠0∧m≠0∧a6X (r,n,warm)=some (p,l,e,h)∧a3R (r,n,warm)=some (p',l',m,a):=by
 obtain⟨o,u,y,v,w,B,C⟩:=a1L x E (n:=4) (by omega);have y:o<16:=y;rw[show((4:Nat):Int)=4 from rfl]at v w;have N:wrap .i64 (o:Int)=(o:Int):=a0D (by omega);unfold a6X a3R a0F;simp only[b3o,b6x,g,oB,bT,cF,v,w,N,b1x,a4D]
 by_cases e1:u.2.2.1=0
 rotate_left;simp only[a1Z e1,cT];exact .inr ⟨_,_,_,_,_,_,_,_,e1,e1,rfl,rfl⟩;have s:(u.2.2.1 != (0:Int))=false:=by simpa using e1
 simp only[s,cF]
 by_cases hz:(a1B (o:Int) n warm).length=0
 have k:((((a1B (o:Int) n warm).length:Nat):Int)==0)=true:=by simp[hz]
 simp only[k,cT];exact .inr ⟨_,_,_,_,_,_,_,_,by decide,by decide,rfl,rfl⟩;have k:((((a1B (o:Int) n warm).length:Nat):Int)==0)=false:=by rw[beq_eq_false_iff_ne];omega
 simp only[k,cF];obtain⟨j,q,O,A⟩:=b4B hz;have f:=g;simp only[a5P,bA,dT]at f;rw[q];rcases b0V x (o:=(o:Int)) (z0:=b1I) A j [] [] [] u rfl rfl (by simp;omega) B e1 with⟨z,l,h,F,G,P,H,I,K,M,d,i⟩|⟨e,m,h,a,D,t,d,i⟩;simp only[a17,nZ,a16,a09]at d i;have hb:a4R ((o:Int),z,()) n warm=true:=by
  unfold a4R;simp only[q,a2m,F,G,beq_self_eq_true,a02,a90];rw[q,a2m]at hz;simp[hz]
 obtain⟨b,c⟩:=PartsOk.of (p:=((o:Int),z,())) (n:=n) (warm:=warm) (l:=l) hb (by omega) H (by omega);have e:b=j:=by
  have:=c.sizes
  simp only[q]at this;rw[←a8N b,←this,a8N]
 subst e;refine .inl ⟨_,l,b,h,c,I,K,?_,?_,?_⟩;unfold a4n;exact Stp.trans C M
 erw[d]
 rfl
 erw[i]
 rfl;simp only[a17,nZ,a16]at d i;refine .inr ⟨e,m,b1I,b1I,[],[],h,a,D,t,?_,?_⟩
 erw[d]
 rfl
 erw[i]
 rfl
theorem c6v(a:N<1000000)(h:Rds n r l r'):∀(d:List Int),d.length+l.length=N→
  ∃l',y0s a1n ((N:Int),(n:Int),(d.length:Int),d,r,())=some (d++l',r',())∧l'.length≤l.length:=by
 induction h with
 |nil r=>
  intro d f
  have:d.length=N:=by simpa using f
  refine⟨[],?_,a31 _⟩;rw[a07];exact a0E (by simp only[a1n,this,dge,cF])
 | @cons r r1 r2 x l h1 h2 h ih=>
  intro d f;rw[lC]at f
  by_cases h0:r.2.2.1=0
  obtain⟨l',k,b⟩:=ih (d++[x]) (by simp;omega);refine⟨x::l',?_,by simp;omega⟩;have g:(r.2.2.1==(0:Int))=true:=by simpa using h0
  rw[a0G (s':=((N:Int),(n:Int),(((d++[x]).length:Nat):Int),d++[x],r1,())) (by
   simp only[a1n,dlt (show d.length<N by omega),cT,g,h2 h0,oB,a1u (show d.length+1<2147483648 by omega),a0C (show d.length<1000000 by omega)]
   simp)]
  rw[k]
  simp
  have hb:=c2V (Rds.cons h1 h2 h) h0;refine⟨[],?_,by simp⟩;have g:(r.2.2.1==(0:Int))=false:=by simpa using h0
  rw[hb,a07];exact a0E (by simp only[a1n,dlt (show d.length<N by omega),cT,g,cF])
theorem c5B(k:l.length<1000000)(h:Rds n r l r'):∃l',a1g (r,(l.length:Int),(n:Int))=some (l',r')∧(r'.2.2.1=0→l'=l)∧l'.length≤l.length:=by
 obtain⟨l',g,b⟩:=b3M k h;obtain⟨l2,f,a⟩:=c6v k h [] (by simp);refine⟨l',g,b,?_⟩
 have:l'=l2:=by
  unfold a1g at g;simp only[a17,nZ,a16,a09]at f
  erw[f]at g
  simp only[oB,sj,pJ]at g;exact g.1.symm
 rw[this];exact a
theorem c5C(f:N<1000000)(s:Sub)(h:Rds n r l r'):∀(d:List Int),d.length+l.length=N→
  y0s a4v ((n:Int),(N:Int),(d.length:Int),r,b1i s d,())=some ((n:Int),b1i s (d++l),r',()):=by
 induction h with
 |nil r=>
  intro d g
  have:d.length=N:=by simpa using g
  rw[a07];exact a0E (by simp only[a4v,this,dge,cF])
 | @cons r r1 r2 x l h1 h2 h ih=>
  intro d g;rw[lC]at g;rw[a0G (s':=((n:Int),(N:Int),(((d++[x]).length:Nat):Int),r1,b1i s (d++[x]),())) (by
   simp only[a4v,dlt (show d.length<N by omega),cT,h1,oB,b1i,a1u (show d.length+1<2147483648 by omega),a0C (show d.length<1000000 by omega)]
   simp)]
  rw[ih (d++[x]) (by simp;omega)]
  simp
def a8W(v:Nat)(c:List Int)(t:Int):List Int:=pb ((c.length-1:Nat):Int) 5++(pb t 4++(pb (v:Int) 5++sB v c))
theorem b2e(b:OkL L)(G:St L r)(s:Sub)(H:s.2.2.2.2.2.1=[]):
  ∃(c:List Int)(t v:Nat)(h:Rd),1≤c.length∧c.length≤32∧t<16∧v<32∧St L h∧Stp L r h (a8W v c (t:Int))∧a6C (r,s)=some ((((a0H c:Nat):Int)==(v:Int)),h,b1i (b5m s (t:Int)) c)∧
   ∃k,a1T (r,s)=some (h,b1i (b5m s (t:Int)) k)∧(h.2.2.1=0→k=c):=by
 obtain⟨a,R,o,l,m,E,F⟩:=a1L b G (n:=5) (by omega);obtain⟨t,r2,d,i,j,C,D⟩:=a1L b E (n:=4) (by omega);obtain⟨v,S,hv,p,q,I,K⟩:=a1L b C (n:=5) (by omega);have o:a<32:=o;have d:t<16:=d;have hv:v<32:=hv;rw[show((5:Nat):Int)=5 from rfl]at l m p q;rw[show((4:Nat):Int)=4 from rfl]at i j;obtain⟨c,h,u,w,Q,M,O⟩:=b3E b (n:=v) (by omega) (a+1) I;have z:wrap .i64 (a:Int)=(a:Int):=a0D (by omega);have f:wrap .i64 ((a:Int)+1)=((a+1:Nat):Int):=a0C (by omega);have A:wrap .i64 (t:Int)=(t:Int):=a0D (by omega);have B:wrap .i64 (v:Int)=(v:Int):=a0D (by omega);have x:=c5C (N:=a+1) (by omega) (b5m s (t:Int)) u [] (by simpa using w);obtain⟨k,y,P⟩:=b3M (by omega) u;rw[w]at y;simp only[a17,nZ,a16,a09]at x;have g:((s.1,s.2.1,s.2.2.1,(t:Int),s.2.2.2.2):Sub)=b1i (b5m s (t:Int)) []:=by
  unfold b1i b5m;rw[←H]
 refine⟨c,t,v,h,by omega,by omega,d,hv,M,?_,?_,k,?_,P⟩;have e:c.length-1=a:=by omega
 unfold a8W;rw[e];exact Stp.trans F (Stp.trans D (Stp.trans K O));simp only[a6C,l,i,p,oB,z,f,A,B]
 erw[g,x]
 simp only[oB];rw[show(b1i (b5m s (t:Int)) c).2.2.2.2.2.1=c from rfl,a4m (show short c by unfold short;omega)];rfl;simp only[a1T,m,j,q,oB,z,f,A,B,y];rfl
def a5j(s:Sub)(t:List Int):Sub:=(s.1,s.2.1,s.2.2.1,s.2.2.2.1,s.2.2.2.2.1,s.2.2.2.2.2.1,t,s.2.2.2.2.2.2.2)
theorem c6w(I:OkL L)(K:St L r)(w:Int)(s:Sub)(o:s.2.2.2.2.2.2.1=[0,0,0])(n f b:Int)(z:Sub):
  ∃(a c d:Int)(g:Rd),St L g∧Stp L r g (sB 8 [a,c,d])∧y0s a2H (w,(0:Int),r,s,())=some (w,g,a5j s [a,c,d],())∧
   ∃(l:List Int),a1g (r,(3:Int),(8:Int))=some (l,g)∧∃t,t.length=3∧y0s a1x (n,f,b,(0:Int),l,g,z,s,())=some (n,f,b,g,z,a5j s t,())∧(g.2.2.1=0→t=[a,c,d]):=by
 obtain⟨l,g,e,E,O,M,N⟩:=b3E I (n:=8) (by omega) 3 K;obtain⟨l',F,v,G⟩:=c5B (by omega) e;rw[E]at F G
 match l,E with
 | [a,c,d],_=>
  have A:wrap .i64 ((0:Int)+1)=1:=by decide
  have C:wrap .i64 ((1:Int)+1)=2:=by decide
  have w2:wrap .i64 ((2:Int)+1)=3:=by decide
  have q:decide ((0:Int)<3)=true:=by decide
  have k:decide ((0:Int)≤0)=true:=by decide
  have B:decide ((1:Int)<3)=true:=by decide
  have i:decide ((0:Int)≤1)=true:=by decide
  have D:decide ((2:Int)<3)=true:=by decide
  have m:decide ((0:Int)≤2)=true:=by decide
  have H:decide ((3:Int)<3)=false:=by decide
  refine⟨a,c,d,g,M,N,?_,l',F,?_⟩
  ·cases e with
   |cons p1 _ e=>cases e with
    |cons p2 _ e=>cases e with
     |cons p3 _ e=>
      cases e;rw[show((8:Nat):Int)=8 from rfl]at p1 p2 p3;rw[a0G (s':=(w,(1:Int),_,a5j s [a,0,0],())) (by
       simp only[a2H,q,k,a02,cT,p1,oB,A,o];rfl)]
      rw[a0G (s':=(w,(2:Int),_,a5j s [a,c,0],())) (by
       simp only[a2H,B,i,a02,cT,p2,oB,C];rfl)]
      rw[a0G (s':=(w,(3:Int),_,a5j s [a,c,d],())) (by
       simp only[a2H,D,m,a02,cT,p3,oB,w2];rfl)]
      exact a0E (by simp only[a2H,H,cF])
  ·have done:∀(t:List Int),y0s a1x (n,f,b,(l'.length:Int),l',g,z,a5j s t,())=some (n,f,b,g,z,a5j s t,()):=fun t=>
    a0E (by simp only[a1x,dge,cF])
   have p:s=a5j s [0,0,0]:=by unfold a5j;rw[←o]
   have z0:decide ((0:Int)<0)=false:=by decide
   match l',G with
   | [],_=>exact⟨[0,0,0],rfl,by rw[←p];have:=done [0,0,0];rw[←p]at this;exact this,fun h=>by cases v h⟩
   | [x],_=>
    refine⟨[x,0,0],rfl,?_,fun h=>by cases v h⟩;rw[a0G (s':=(n,f,b,(1:Int),[x],g,z,a5j s [x,0,0],()))
     (by simp only[a1x,a57,Int.natCast_one,show decide ((0:Int)<1)=true from rfl,q,k,a02,cT,A,o];rfl)]
    exact done _
   | [x,y],_=>
    refine⟨[x,y,0],rfl,?_,fun h=>by cases v h⟩;have j:((([x,y]:List Int).length:Nat):Int)=2:=rfl;rw[a0G (s':=(n,f,b,(1:Int),[x,y],g,z,a5j s [x,0,0],()))
     (by simp only[a1x,j,show decide ((0:Int)<2)=true from rfl,q,k,a02,cT,A,o];rfl)]
    rw[a0G (s':=(n,f,b,(2:Int),[x,y],g,z,a5j s [x,y,0],()))
     (by simp only[a1x,j,show decide ((1:Int)<2)=true from rfl,B,i,a02,cT,C];rfl)]
    exact done _
   | [x,y,u],_=>
    refine⟨[x,y,u],rfl,?_,fun h=>v h⟩;have j:((([x,y,u]:List Int).length:Nat):Int)=3:=rfl;rw[a0G (s':=(n,f,b,(1:Int),[x,y,u],g,z,a5j s [x,0,0],()))
     (by simp only[a1x,j,q,k,a02,cT,A,o];rfl)]
    rw[a0G (s':=(n,f,b,(2:Int),[x,y,u],g,z,a5j s [x,y,0],()))
     (by simp only[a1x,j,B,i,a02,cT,C];rfl)]
    rw[a0G (s':=(n,f,b,(3:Int),[x,y,u],g,z,a5j s [x,y,u],()))
     (by simp only[a1x,j,D,m,a02,cT,w2];rfl)]
    exact done _
   |_::_::_::_::_,h=>simp at h
def b3F(s:Sub)(g:List Stg):Sub:=(s.1,s.2.1,s.2.2.1,s.2.2.2.1,s.2.2.2.2.1,s.2.2.2.2.2.1,s.2.2.2.2.2.2.1,g,s.2.2.2.2.2.2.2.2)
theorem b6Q{L:List Int}(l:OkL L)(w:Int)(ok:Bool)(s:Sub)(n j b:Int)(z:Sub){N:Nat}(G:N<1000):∀(m:Nat)(d:List Stg)(r:Rd),d.length+m=N→St L r→
  ∃(g:List Stg)(h:Rd),g.length=m∧St L h∧Stp L r h (b1j g)∧
   y0s a5d (w,ok,(N:Int),(d.length:Int),r,b3F s d,())=some (w,ok,b3F s (d++g),h,())∧
   y0s a6c (n,j,b,(N:Int),(d.length:Int),r,z,b3F s d,())=some (n,j,b,h,z,b3F s (d++g),())
 |0,d,r,hm,hr=>by
  have:d.length=N:=by omega
  refine⟨[],r,rfl,hr,Stp.refl hr,?_,?_⟩;rw[a07];exact a0E (by simp only[a5d,this,dge,cF]);rw[a07];exact a0E (by simp only[a6c,this,dge,cF])
 |m+1,d,r,hm,hr=>by
  obtain⟨a,P,x,u,v,E,F⟩:=a1L l hr (n:=5) (by omega);obtain⟨t,r2,y,p,q,C,D⟩:=a1L l E (n:=4) (by omega);have x:a<32:=x;have y:t<16:=y;rw[show((5:Nat):Int)=5 from rfl]at u v;rw[show((4:Nat):Int)=4 from rfl]at p q;have A:wrap .i64 (a:Int)=(a:Int):=a0D (by omega);have i:wrap .i64 ((a:Int)+1)=(a:Int)+1:=a0D (by omega);have B:wrap .i64 (t:Int)=(t:Int):=a0D (by omega);have k:=dlt (show d.length<N by omega);have f:=a1u (show d.length+1<2147483648 by omega);have o:wrap .i64 ((d.length:Int)+1)=(((d++[((a:Int)+1,(t:Int),())]).length:Nat):Int):=by rw[a0D (by omega)];simp
  have c:wrap .u64 ((d.length:Int)+1)=(((d++[((a:Int)+1,(t:Int),())]).length:Nat):Int):=by rw[a0O (by omega)];simp
  obtain⟨g,h,H,I,K,M,O⟩:=b6Q l w ok s n j b z G m (d++[((a:Int)+1,(t:Int),())]) r2 (by simp;omega) C;refine⟨((a:Int)+1,(t:Int),())::g,h,by simp[H],I,?_,?_,?_⟩;have e:b1j (((a:Int)+1,(t:Int),())::g)=pb (a:Int) 5++(pb (t:Int) 4++b1j g):=by simp[b1j]
  rw[e];exact Stp.trans F (Stp.trans D K);rw[a0G (s':=(w,ok,(N:Int),(((d++[((a:Int)+1,(t:Int),())]).length:Nat):Int),r2,b3F s (d++[((a:Int)+1,(t:Int),())]),())) (by
   simp only[a5d,k,cT,u,oB,p,b3F,f,A,i,B,c,a06])]
  rw[M]
  simp
  rw[a0G (s':=(n,j,b,(N:Int),(((d++[((a:Int)+1,(t:Int),())]).length:Nat):Int),r2,z,b3F s (d++[((a:Int)+1,(t:Int),())]),())) (by
   simp only[a6c,k,cT,v,oB,q,b3F,f,A,i,B,o,a06])]
  rw[O]
  simp
def c2X(z15:Int×(Int×Int×Rd×Sub×Sub×Unit)):Option (Sub×Int×Rd):=
 bif z15.2.2.2.1.2.2.1 != (0:Int)then some ((a6L 0),z15.2.2.2.1.2.2.1,z15.2.2.2.1)
 else(
 (a5K (z15.2.2.2.2.2.1,z15.1)).bind fun y16=>
 bif decide (y16<(0:Int))then some ((a6L 0),(2:Int),z15.2.2.2.1)
 else(
 (a1g (z15.2.2.2.1,y16,z15.2.2.1)).bind fun y17=>
 bif y17.2.2.2.1 != (0:Int)then some ((a6L 0),y17.2.2.2.1,y17.2)
 else(
 (show Option ((Int×Int×Rd×Sub×Sub×Unit) ⊕ (Int×Sub×Rd×Unit))from
 (a3g z15.2.2.2.2.2.1.1).bind fun y18=>
 bif y18 then(
 (a3R (y17.2,z15.1,y16)).bind fun y19=>
 bif y19.2.2.1 != (0:Int)then some (Sum.inr ((y19.2.2.1,(a6L 0),y19.2.2.2,())))
 else some (Sum.inl (z15.1,z15.2.1,y19.2.2.2,z15.2.2.2.2.1,(z15.2.2.2.2.2.1.1,z15.2.2.2.2.2.1.2.1,z15.2.2.2.2.2.1.2.2.1,z15.2.2.2.2.2.1.2.2.2.1,z15.2.2.2.2.2.1.2.2.2.2.1,z15.2.2.2.2.2.1.2.2.2.2.2.1,z15.2.2.2.2.2.1.2.2.2.2.2.2.1,z15.2.2.2.2.2.1.2.2.2.2.2.2.2.1,y17.1,y19.1,y19.2.1,z15.2.2.2.2.2.1.2.2.2.2.2.2.2.2.2.2.2),())))
 else some (Sum.inl (z15.1,z15.2.1,y17.2,z15.2.2.2.2.1,(z15.2.2.2.2.2.1.1,z15.2.2.2.2.2.1.2.1,z15.2.2.2.2.2.1.2.2.1,z15.2.2.2.2.2.1.2.2.2.1,z15.2.2.2.2.2.1.2.2.2.2.1,z15.2.2.2.2.2.1.2.2.2.2.2.1,z15.2.2.2.2.2.1.2.2.2.2.2.2.1,z15.2.2.2.2.2.1.2.2.2.2.2.2.2.1,y17.1,z15.2.2.2.2.2.1.2.2.2.2.2.2.2.2.2),()))).bind fun z20=>
 match z20 with
 |.inl a21=>(
 (show Option (Bool×Sub×Sub×Rd×Unit)from
 (a2V ((([]:(List Int)),()),a21.2.2.2.2.1,a21.1)).bind fun y23=>
 bif y23.1 != (0:Int)then some (true,a21.2.2.2.1,a21.2.2.2.2.1,a21.2.2.1,())
 else(
 (a3z (y23.2,a21.2.2.1,a21.2.1)).bind fun y24=>
 some (!y24.1,a21.2.2.2.1,a21.2.2.2.2.1,y24.2.2,()))).bind fun z25=>
 bif z25.1 then some ((a6L 0),(2:Int),z25.2.2.2.1)
 else some (z25.2.2.1,(0:Int),z25.2.2.2.1))
 |.inr b22=>some (b22.2.1,b22.1,b22.2.2.1))))
def mkS(k w o t g:Int)(c p:List Int)(st:List Stg):Sub:=(k,w,o,t,g,c,p,st,[],(0,[],()),[],())
def a6i(v:Nat)(s:Sub):List Int:=
 if s.1=2 then pb s.2.2.1 3
 else if s.1=3 then a8W v s.2.2.2.2.2.1 s.2.2.2.1
 else if s.1=4 then pb (s.2.2.2.2.1-1) 10++(sB 8 s.2.2.2.2.2.2.1++a8W v s.2.2.2.2.2.1 s.2.2.2.1)
 else if s.1=5 then pb ((s.2.2.2.2.2.2.2.1.length:Nat):Int) 2++b1j s.2.2.2.2.2.2.2.1
 else[]
structure HeadOk (s:Sub) (w v:Nat):Prop where
 width:w<32
 cw:v<32
 same:s.1≠3∧s.1≠4→v=a0H s.2.2.2.2.2.1
 bare:s=Ab.bare s
 small:SmallS s
 coefs:s.2.2.2.2.2.1.length≤32
theorem c5D(a:OkL L)(hr:St L r){n:Int}(n1:1≤n)(n2:n≤4096):
  ∃(s s':Sub)(w v:Nat)(k:Rd),HeadOk s w v∧St L k∧Stp L r k (pb s.1 3++(pb s.2.1 5++(pb (w:Int) 5++a6i v s)))∧
   a2t r=some (s,(w:Int),(((a0H s.2.2.2.2.2.1:Nat):Int)==(v:Int)),k)∧
   a1X (r,n)=c2X (n,r.2.1,(w:Int),k,a6L 0,s',())∧(k.2.2.1=0→s'=s):=by
 obtain⟨K,r1,hK,a1,D,a3,G⟩:=a1L a hr (n:=3) (by omega);obtain⟨W,r2,hW,b1,b2,b3,b4⟩:=a1L a a3 (n:=5) (by omega);obtain⟨B,r3,C,E,F,H,I⟩:=a1L a b3 (n:=5) (by omega);have hK:K<8:=hK;have hW:W<32:=hW;have C:B<32:=C;rw[show((3:Nat):Int)=3 from rfl]at a1 D;rw[show((5:Nat):Int)=5 from rfl]at b1 b2 E F;have m:wrap .i64 (K:Int)=(K:Int):=a0D (by omega);have o:wrap .i64 (W:Int)=(W:Int):=a0D (by omega);have j:wrap .i64 (B:Int)=(B:Int):=a0D (by omega);have M:decide (n<1)=false:=by simp;omega
 have P:decide (n > 4096)=false:=by simp;omega
 have hk:K=2∨K=3∨K=4∨K=5∨(K≠2∧K≠3∧K≠4∧K≠5):=by omega
 rcases hk with rfl|rfl|rfl|rfl|⟨k2,k3,k4,k5⟩;obtain⟨O,X,hO,p,q,R,S⟩:=a1L a H (n:=3) (by omega);have hO:O<8:=hO;rw[show((3:Nat):Int)=3 from rfl]at p q;have wO:wrap .i64 (O:Int)=(O:Int):=a0D (by omega);have f:(((2:Nat):Int)==2)=true:=rfl;refine⟨mkS 2 (W:Int) (O:Int) 0 0 [] [0,0,0] [],_,B,0,X,⟨C,by decide,fun _=>rfl,rfl,⟨by simp[mkS],rfl,by simp[mkS],by simp[mkS],by simp[mkS],by simp[mkS]⟩,by simp[mkS]⟩,R,?_,?_,?_,fun _=>rfl⟩;exact Stp.trans G (Stp.trans b4 (Stp.trans I S));simp only[a2t,a1,b1,E,oB,m,o,j,f,cT,p,wO];rfl;simp only[a1X,M,P,cF,D,b2,F,oB,m,o,j,f,cT,q,wO];rfl;have f:(((3:Nat):Int)==2)=false:=rfl;have d:(((3:Nat):Int)==3)=true:=rfl;have i:(((3:Nat):Int)==4)=false:=rfl;obtain⟨c,t,v,k,q1,q2,q3,q4,q5,q6,q7,c',V,q9⟩:=b2e a H (mkS ((3:Nat):Int) (W:Int) 0 0 0 [] [0,0,0] []) rfl;refine⟨mkS 3 (W:Int) 0 (t:Int) 0 c [0,0,0] [],mkS 3 (W:Int) 0 (t:Int) 0 c' [0,0,0] [],B,v,k,⟨C,q4,fun h=>absurd rfl h.1,rfl,⟨by simp[mkS];omega,rfl,by simp[mkS],by simp[mkS],by simp[mkS],by simp[mkS]⟩,q2⟩,q5,?_,?_,?_,fun h=>by rw[q9 h]⟩;exact Stp.trans G (Stp.trans b4 (Stp.trans I q6));simp only[a2t,a1,b1,E,oB,m,o,j,f,d,i,cT,cF]
 erw[q7]
 rfl;simp only[a1X,M,P,cF,D,b2,F,oB,m,o,j,f,d,cT]
 erw[V]
 rfl;have f:(((4:Nat):Int)==2)=false:=rfl;have d:(((4:Nat):Int)==3)=false:=rfl;have i:(((4:Nat):Int)==4)=true:=rfl;obtain⟨A,X,hA,p,q,R,S⟩:=a1L a H (n:=10) (by omega);have hA:A<1024:=hA;rw[show((10:Nat):Int)=10 from rfl]at p q;have wA:wrap .i64 (A:Int)=(A:Int):=a0D (by omega);have U:wrap .i64 ((A:Int)+1)=(A:Int)+1:=a0D (by omega);obtain⟨x,y,z,u,Y,t2,t3,l,Z,tl,t5,t6,t7⟩:=c6w a R (B:Int) (mkS ((4:Nat):Int) (W:Int) 0 0 ((A:Int)+1) [] [0,0,0] []) rfl n r.2.1 (B:Int) (a6L 0);obtain⟨c,t,v,k,q1,q2,q3,q4,q5,q6,q7,c',V,q9⟩:=b2e a Y (mkS ((4:Nat):Int) (W:Int) 0 0 ((A:Int)+1) [] [x,y,z] []) rfl;obtain⟨c0,t0,v0,r0,u1,u2,u3,u4,u5,u6,u7,u8,u9,h4⟩:=b2e a Y (mkS ((4:Nat):Int) (W:Int) 0 0 ((A:Int)+1) [] tl []) rfl;have T:∃s',a1T (u,mkS ((4:Nat):Int) (W:Int) 0 0 ((A:Int)+1) [] tl [])=some (k,s')∧(k.2.2.1=0→s'=mkS 4 (W:Int) 0 (t:Int) ((A:Int)+1) c [x,y,z] []):=by
  by_cases h0:u.2.2.1=0
  rw[t7 h0];exact⟨_,V,fun h=>by rw[q9 h];rfl⟩;have hb:∀s0:Sub,a1T (u,s0)=some (u,b1i (b5m s0 0) []):=fun s0=>by
   have h1:a1g (u,wrap .i64 (wrap .i64 0+1),wrap .i64 0)=some ([],u):=by
    have e0:(u.2.2.1==(0:Int))=false:=by simpa using h0
    unfold a1g;rw[a0E (b:=([],u,())) (by
     simp only[a1n,show decide ((0:Int)<wrap .i64 (wrap .i64 0+1))=true from by decide,cT,e0,cF])]
    rfl
   simp only[a1T,b5s h0,oB,h1];rfl
  have e:=V;rw[hb]at e;simp only[sj,pJ]at e;obtain⟨rfl,-⟩:=e;exact⟨_,hb _,fun h=>absurd h h0⟩
 obtain⟨s',h2,h3⟩:=T;refine⟨mkS 4 (W:Int) 0 (t:Int) ((A:Int)+1) c [x,y,z] [],s',B,v,k,⟨C,q4,fun h=>absurd rfl h.2,rfl,⟨by simp[mkS];omega,rfl,by simp[mkS],by simp[mkS],by simp[mkS],by simp[mkS]⟩,q2⟩,q5,?_,?_,?_,h3⟩;have e:a6i v (mkS 4 (W:Int) 0 (t:Int) ((A:Int)+1) c [x,y,z] [])=pb (A:Int) 10++(sB 8 [x,y,z]++a8W v c (t:Int)):=by
  show pb ((A:Int)+1-1) 10++_=_;rw[show(A:Int)+1-1=(A:Int)from by omega];rfl
 rw[e];exact Stp.trans G (Stp.trans b4 (Stp.trans I (Stp.trans S (Stp.trans t2 q6))));simp only[a2t,a1,b1,E,oB,m,o,j,f,i,cT,cF,p,wA,U]
 erw[t3]
 simp only[oB]
 erw[q7]
 rfl;simp only[a1X,M,P,cF,D,b2,F,oB,m,o,j,f,d,i,cT,q,wA,U,Z]
 erw[t6]
 simp only[oB]
 erw[h2]
 rfl;have f:(((5:Nat):Int)==2)=false:=rfl;have d:(((5:Nat):Int)==3)=false:=rfl;have i:(((5:Nat):Int)==4)=false:=rfl;have Q:(((5:Nat):Int)==5)=true:=rfl;obtain⟨N,X,hN,p,q,R,S⟩:=a1L a H (n:=2) (by omega);have hN:N<4:=hN;rw[show((2:Nat):Int)=2 from rfl]at p q;have wN:wrap .i64 (N:Int)=(N:Int):=a0D (by omega);obtain⟨g,k,Y,t2,t3,Z,t5⟩:=b6Q a (B:Int) true (mkS ((5:Nat):Int) (W:Int) 0 0 0 [] [0,0,0] []) n r.2.1 (B:Int) (a6L 0) (N:=N) (by omega) N [] X (by simp) R;simp only[a17,nZ,a16,a09]at Z t5;refine⟨mkS 5 (W:Int) 0 0 0 [] [0,0,0] g,_,B,0,k,⟨C,by decide,fun _=>rfl,rfl,⟨by simp[mkS],rfl,by simp[mkS];omega,by simp[mkS],by simp[mkS],by simp[mkS]⟩,by simp[mkS]⟩,t2,?_,?_,?_,fun _=>rfl⟩;have e:a6i 0 (mkS 5 (W:Int) 0 0 0 [] [0,0,0] g)=pb (N:Int) 2++b1j g:=by
  show pb ((g.length:Nat):Int) 2++_=_;rw[Y];rfl
 rw[e];exact Stp.trans G (Stp.trans b4 (Stp.trans I (Stp.trans S t3)));simp only[a2t,a1,b1,E,oB,m,o,j,f,d,i,Q,cT,cF,p]
 erw[Z]
 rfl;simp only[a1X,M,P,cF,D,b2,F,oB,m,o,j,f,d,i,Q,cT,q,wN]
 erw[t5]
 rfl;have f:((K:Int)==2)=false:=by rw[beq_eq_false_iff_ne];omega
 have d:((K:Int)==3)=false:=by rw[beq_eq_false_iff_ne];omega
 have i:((K:Int)==4)=false:=by rw[beq_eq_false_iff_ne];omega
 have Q:((K:Int)==5)=false:=by rw[beq_eq_false_iff_ne];omega
 refine⟨mkS (K:Int) (W:Int) 0 0 0 [] [0,0,0] [],_,B,0,r3,⟨C,by decide,fun _=>rfl,rfl,⟨by simp[mkS],rfl,by simp[mkS],by simp[mkS],by simp[mkS],by simp[mkS]⟩,by simp[mkS]⟩,H,?_,?_,?_,fun _=>rfl⟩;have e:a6i 0 (mkS (K:Int) (W:Int) 0 0 0 [] [0,0,0] [])=[]:=by
  unfold a6i mkS;simp only;rw[if_neg (by omega),if_neg (by omega),if_neg (by omega),if_neg (by omega)]
 rw[e,a07];exact Stp.trans G (Stp.trans b4 I);simp only[a2t,a1,b1,E,oB,m,o,j,f,d,i,Q,cF];rfl;simp only[a1X,M,P,cF,D,b2,F,oB,m,o,j,f,d,i,Q];rfl
theorem c1A(g:n≤62)(hv:v<2^n)(k:w<2^n)(h:pb (v:Int) n=pb (w:Int) n):v=w:=by
 have hp:2^n≤2^62:=a22 (by decide) g;have ok:∀u:Nat,u<2^n→OkR [] (pb (u:Int) n++[]):=fun u b=>⟨by simpa using c4v (v:=u) (by omega) n (by omega),by simp[a1D];omega⟩;have f:=c1q g hv (ok v hv);have a:=c1q g k (ok w k);rw[h,a]at f;simp only[sj,pJ]at f;omega
theorem c7y(i:w<32)(hv:v<32)(f:a0H s.2.2.2.2.2.2.2.2.1<32)(g:a0H s.2.2.2.2.2.1<32)(d:s.1≠3∧s.1≠4→v=a0H s.2.2.2.2.2.1)(X:List Int):
  ((b0T s++a8O s)++(sB (a0H s.2.2.2.2.2.2.2.2.1) s.2.2.2.2.2.2.2.2.1++X)=(pb s.1 3++(pb s.2.1 5++(pb (w:Int) 5++a6i v s)))++(sB w s.2.2.2.2.2.2.2.2.1++X))↔(a0H s.2.2.2.2.2.2.2.2.1=w∧a0H s.2.2.2.2.2.1=v):=by
 have c:∀u,a0H s.2.2.2.2.2.1=u→a6i u s=a8O s:=fun u e=>by
  unfold a6i a8O a9U a8W;rw[e]
 constructor;intro h;unfold b0T at h;simp only[aA]at h;obtain⟨-,h⟩:=a19 h rfl;obtain⟨-,h⟩:=a19 h rfl;obtain⟨hp,h⟩:=a19 h (by rw[a1D,a1D]);have k:=c1A (n:=5) (by omega) f i hp;refine⟨k,?_⟩
 by_cases h3:s.1=3
 unfold a8O a6i a9U a8W at h;rw[if_neg (by omega),if_pos h3,if_neg (by omega),if_pos h3]at h;simp only[aA]at h;obtain⟨-,h⟩:=a19 h rfl;obtain⟨-,h⟩:=a19 h rfl;obtain⟨hp,h⟩:=a19 h (by rw[a1D,a1D]);exact c1A (n:=5) (by omega) g hv hp
 by_cases h4:s.1=4
 unfold a8O a6i a9U a8W at h;rw[if_neg (by omega),if_neg (by omega),if_pos h4,if_neg (by omega),if_neg (by omega),if_pos h4]at h;simp only[aA]at h;obtain⟨-,h⟩:=a19 h rfl;obtain⟨-,h⟩:=a19 h rfl;obtain⟨-,h⟩:=a19 h rfl;obtain⟨-,h⟩:=a19 h rfl;obtain⟨hp,h⟩:=a19 h (by rw[a1D,a1D]);exact c1A (n:=5) (by omega) g hv hp;exact(d ⟨h3,h4⟩).symm
 rintro⟨a,b⟩
 rw[c v b,←a];unfold b0T;simp only[aA]
theorem c7Y(f:a2g L)(a:L.length<1000000000)(k:i<L.length):∃x,m0k (wL L).1 (wrap .i64 (a92 (i:Int) 8))=some x∧bits .u8 .and (A0o .u8 x (wrap .i64 (7-a40 (i:Int) 8))) 1=L.getD i 0:=by
 have h:=b1B f a k ((0:Int),(0:Int),());have b:a40 (i:Int) 8=((i%8:Nat):Int):=by rw[a27 (by omega)];omega
 have g:decide (wrap .i64 (7-a40 (i:Int) 8)<0)=false:=by rw[b,a0D (by omega)];simp;omega
 unfold a0V at h;simp only[g,cF]at h;cases hx:m0k (wL L).1 (wrap .i64 (a92 (i:Int) 8))with
 |none=>rw[hx]at h;cases h
 |some x=>
  rw[hx]at h;simp only[oB,sj,pJ]at h;exact⟨x,rfl,h.1⟩
theorem b2r{L P A R B:List Int}(d:OkL L)(e:P++(A++R)=L)(s:B.length=A.length)(k:Rd)(t:k=rdr (P++A) R):∀(m i:Nat),i+m=B.length→(∀j,j<i→B.getD j 0=A.getD j 0)→
  y0s a3l ((P.length:Int),(i:Int),(B,()),k,())=some (if B=A then .inl ((B,()),k,())else .inr (false,(B,()),k,()))
 |0,i,hm,hj=>by
  have C:i=B.length:=by omega
  subst C;have e:B=A:=by
   apply List.ext_getElem s;intro j r y
   have:=hj j r
   simpa[lD,r,y]using this
  rw[if_pos e];exact a0E (by simp only[a3l,dge,cF])
 |m+1,i,hm,hj=>by
  have l:i<B.length:=by omega
  have v:decide ((0:Int)≤(i:Int))=true:=by simp
  have E:=d.len;have b:P.length+i<L.length:=by rw[←e];simp;omega
  have D:wrap .i64 ((P.length:Int)+(i:Int))=((P.length+i:Nat):Int):=by rw[a0D (by omega)];omega
  obtain⟨x,p,c⟩:=c7Y d.bits (by omega) b;have n:k.1=(wL L).1:=by rw[t,←e];simp[rdr]
  have u:a40 ((P.length+i:Nat):Int) 8=(((P.length+i)%8:Nat):Int):=by rw[a27 (by omega)];omega
  have q:wrap .i64 (7-(((P.length+i)%8:Nat):Int))=7-(((P.length+i)%8:Nat):Int):=a0D (by omega);have w:wrap .u64 (7-(((P.length+i)%8:Nat):Int))=7-(((P.length+i)%8:Nat):Int):=a0O (by omega);have g:decide (7-(((P.length+i)%8:Nat):Int)<0)=false:=by simp;omega
  have z:L.getD (P.length+i) 0=A.getD i 0:=by
   rw[←e,b3D];simp only[lD];rw[a67 (by omega)]
  rw[u,q,z]at c;have f:a3l ((P.length:Int),(i:Int),(B,()),k,())=bif (B.getD i 0 != A.getD i 0)then some (.inr (.inr (false,(B,()),k,())))else some (.inl ((P.length:Int),((i+1:Nat):Int),(B,()),k,())):=by
   have o:wrap .i64 ((i:Int)+1)=((i+1:Nat):Int):=by rw[a0D (by omega)];omega
   simp only[a3l,dlt l,v,a02,cT,D,n,p,oB,u,q,w,g,cF,tN,c,o]
  by_cases hb:B.getD i 0=A.getD i 0
  have a:(B.getD i 0 != A.getD i 0)=false:=by simpa using hb
  rw[a]at f;rw[a0G f];exact b2r d e s k t m (i+1) (by omega) fun j h=>by
   by_cases hji:j=i
   rw[hji];exact hb;exact hj j (by omega)
  have a:(B.getD i 0 != A.getD i 0)=true:=by simpa using hb
  rw[a]at f
  have:B≠A:=fun h=>hb (by rw[h])
  rw[if_neg this];exact a0E f
theorem c2I{B:List Int}(k:OkL L)(e:P++(A++R)=L)(b:B.length<1000000000):a3z ((B,()),rdr (P++A) R,(P.length:Int))=some (decide (B=A),(B,()),rdr (P++A) R):=by
 have d:=k.len;have a:P.length+A.length≤L.length:=by rw[←e];simp only[lN];omega
 have c:wrap .i64 ((rdr (P++A) R).2.1-(P.length:Int))=(A.length:Int):=by
  show wrap .i64 (((P++A).length:Int)-(P.length:Int))=_;rw[lN,a0D (by omega)];omega
 unfold a3z a7Q;simp only[oB,c]
 by_cases hB:B.length=A.length
 have g:(((B.length:Nat):Int) != (A.length:Int))=false:=by simp;omega
 have f:=b2r k e hB _ rfl B.length 0 (by omega) (fun j h=>by omega);simp only[nZ]at f;simp only[g,cF]
 erw[f]
 by_cases hBA:B=A
 rw[if_pos hBA,decide_eq_true hBA];rfl;rw[if_neg hBA,decide_eq_false hBA];rfl;have g:(((B.length:Nat):Int) != (A.length:Int))=true:=by simp;omega
 have:B≠A:=fun h=>hB (by rw[h])
 simp only[g,cT,decide_eq_false this]
theorem c6x{wd:Nat}(f:N<1000000)(n:Int)(ok:Bool)(z s:Sub)(h:Rds wd r l r'):∀(d:List Int),d.length+l.length=N→
  y0s a7H (n,(wd:Int),ok,(N:Int),(d.length:Int),r,z,a1e s d,())=some (n,(wd:Int),ok,r',z,a1e s (d++l),()):=by
 induction h with
 |nil r=>
  intro d g
  have:d.length=N:=by simpa using g
  rw[a07];exact a0E (by simp only[a7H,this,dge,cF])
 | @cons r r1 r2 x l h1 h2 h ih=>
  intro d g;rw[lC]at g;rw[a0G (s':=(n,(wd:Int),ok,(N:Int),(((d++[x]).length:Nat):Int),r1,z,a1e s (d++[x]),())) (by
   simp only[a7H,dlt (show d.length<N by omega),cT,h1,oB,a1e,a1u (show d.length+1<2147483648 by omega),a0C (show d.length<1000000 by omega)]
   simp)]
  rw[ih (d++[x]) (by simp;omega)]
  simp
def a5k(s:Sub)(p:Prt)(l:List Int):Sub:=(s.1,s.2.1,s.2.2.1,s.2.2.2.1,s.2.2.2.2.1,s.2.2.2.2.2.1,s.2.2.2.2.2.2.1,s.2.2.2.2.2.2.2.1,s.2.2.2.2.2.2.2.2.1,p,l,s.2.2.2.2.2.2.2.2.2.2.2)
theorem b8x(j:OkL L)(e:P++(A++R)=L)(h:SmallS s)(n:Int)(m:s.1≠0∧s.1≠1→PartsOk s.2.2.2.2.2.2.2.2.2.1 n ((s.2.2.2.2.2.2.2.2.1.length:Nat):Int) s.2.2.2.2.2.2.2.2.2.2.1 zn):
  ∃(q:Int)(B:List Int),a2V ((([]:List Int),()),s,n)=some (q,B,())∧((a1Y s n).isSome=false→q=1)∧
   ((a1Y s n).isSome=true→q=0∧a3z ((B,()),rdr (P++A) R,(P.length:Int))=some (decide (a4W s zn=A),(B,()),rdr (P++A) R)):=by
 obtain⟨q,B,a,p,b,c,d⟩:=c4s h (n:=n) (L:=[]) (by simp);refine⟨q,B,a,fun h=>(d h).1,fun f=>?_⟩;obtain⟨rfl,o,i,g⟩:=c f;have l:=c2y f;have k:B=a4W s zn:=by
  rw[i,c2A l g]
  by_cases hk:s.1=0∨s.1=1
  unfold a4W;rw[if_pos hk,if_pos hk];rfl;rw[c5h (g (not_or.1 hk)) (m (not_or.1 hk))];rfl
 refine⟨rfl,?_⟩;rw[c2I j e (by simp at b;omega),k]
end Go.Ab
