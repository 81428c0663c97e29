/- Part of the proof: PA. Conditions: as each statement tells. -/
import Derived.KernelRfl
import Derived.Test.YtbadoabamddpfaaGreatDoorMF
noncomputable section
set_option linter.unusedSimpArgs false
set_option linter.unusedVariables false
open BitVec renaming ofInt→a03,xor_assoc→a21,ofInt_natCast→a30,toNat_ofNat→a36,getLsbD_ushiftRight→a48,toNat_and→a59,toNat_ofInt→a67,msb_eq_getLsbD_last→a68,eq_of_getLsbD_eq→a75,xor_comm→a80,getLsbD→a86,toNat_or→b07,xor_zero→b09,ofNat→b19
open Bool renaming and_self→a04,not_false→a19,true_and→a22,eq_false_iff→a55,and_false→a85,and_eq_true_iff→a88,not_eq_true'→b01,or_eq_true→b04,eq_iff_iff→b05
open Int renaming eq_ofNat_of_zero_le→a01,toNat_of_nonneg→a09,toNat→a18,tdiv_eq_ediv_of_nonneg→a27,tmod_eq_emod_of_nonneg→a47,fdiv_eq_ediv_of_nonneg→a49,tmod→a51,tdiv→a52,emod_emod_of_dvd→a89,cast_ofNat_Int→a96,zero_mul→a99
open List renaming replicate→a00,drop_eq_getElem_cons→a02,getElem_mem→a05,append_eq→a06,nil_append→a08,length_nil→a16,all_cons→a20,zipWith→a23,take_length→a24,replicate_succ'→a29,mem_of_mem_take→a31,mem_of_mem_drop→a32,drop_zero→a33,take_of_length_le→a38,length_singleton→a41,flatMap_cons→a42,drop_length→a46,getD→a50,length_eq_zero_iff→a53,foldl_append→a54,take_succ_eq_append_getElem→a56,getElem_zip→a57,eq_nil_or_concat→a58,length_take→a60,mem_iff_getElem→a61,map_map→a63,getD_cons_succ→a64,range→a65,cons_append→a70,length_drop→a71,mem_flatMap→a72,not_mem_nil→a73,append_nil→a77,set→a79,foldl_cons→a81,set_append_right→a82,eq_replicate_iff→a83,range_add→a87,flatMap_append→a91,map_cons→a92,replicate_succ→a93,map_congr_left→a94,set_cons_zero→a95,mem_map→b00,flatMap_map→b03,length_set→b06,take→b17
open Nat renaming lt_trans→a07,mod_eq_of_lt→a25,mul_le_mul→a26,div_le_self→a28,and_two_pow_sub_one_eq_mod→a35,lt_of_le_of_lt→a37,mod_lt→a39,le_refl→a40,mul_comm→a43,le_of_lt→a44,pow_le_pow_right→a45,mul_le_mul_right→a62,two_pow_add_eq_or_of_lt→a66,mul_mod→a69,pow_succ→a74,div_div_eq_div_mul→a76,div_add_mod→a78,div_lt_iff_lt_mul→a84,le_sub_one_of_lt→a90,pos_of_ne_zero→a97,sub_self→a98,or_lt_two_pow→b02,two_pow_pos→b08
open Option renaming bind_eq_some_iff→a34
namespace Go.Ab
variable {L l row t:List Int}{N a b d i k m o q r u:Nat}{c:List (List Int)}{g lag n sign v w warm x:Int}{zn:List Nat}{α:Type}
open IntKind(wrap)
section
variable {σ β:Type} {f:σ→Option (σ ⊕ β)}
theorem b3P:∀(n m:Nat)(s:σ){b:β},j0z f n s=some b→j0z f (n+m) s=some b
 |0,_,s,b,h=>by simp[j0z]at h
 |n+1,m,s,b,h=>by
  rw[show n+1+m=n+m+1 from by omega];simp only[j0z]at h⊢
  split at h
  cases h;rename_i s' g;exact b3P n m s' h;exact h
theorem c2d{n:Nat}{s:σ}{b b':β}(h:j0z f n s=some b)(k:j0z f m s=some b'):b=b':=by
 have a:=b3P n m s h;have g:=b3P m n s k;rw[Nat.add_comm,a]at g;exact Option.some.inj g
theorem d1r{n:Nat}{s:σ}{b:β}(h:j0z f n s=some b):v0v f s=some b:=by
 unfold v0v;have g:∃n b,j0z f n s=some b:=⟨n,b,h⟩;rw[dif_pos g];exact congrArg some (c2d g.choose_spec.choose_spec h)
theorem c1z{n:Nat}{s:σ}{b:β}(h:j0z f n s=some b):y0s f s=some b:=by
 unfold y0s;split;rename_i g hb;rw[c2d hb h];exact d1r h
theorem c2e{s:σ}(h:∀n,j0z f n s=none):y0s f s=none:=by
 unfold y0s;rw[h 400];show v0v f s=none;unfold v0v;rw[dif_neg]
 rintro⟨n,b,g⟩
 rw[h n]at g;cases g
theorem a0C{s:σ}{b:β}(h:f s=some (.inr b)):y0s f s=some b:=c1z (n:=1) (by simp[j0z,h])
theorem a0E{s s':σ}(h:f s=some (.inl s')):y0s f s=y0s f s':=by
 by_cases hx:∃n b,j0z f n s'=some b
 obtain⟨n,b,hb⟩:=hx;rw[c1z hb];exact c1z (n:=n+1) (by simp[j0z,h,hb])
 ·have g:∀n,j0z f n s'=none:=fun n=>by
   cases hn:j0z f n s' with
   |none=>rfl
   |some b=>exact absurd ⟨n,b,hn⟩ hx
  rw[c2e g];refine c2e fun n=>?_
  cases n with
  |zero=>rfl
  |succ n=>simp[j0z,h,g n]
theorem c6T(S:Nat→σ)(n:Nat){b:β}(g:∀i,i<n→f (S i)=some (.inl (S (i+1))))(h:f (S n)=some (.inr b)):∀(k:Nat),k≤n→y0s f (S (n-k))=some b
 |0,_=>a0C h
 |k+1,hk=>by
  rw[a0E (g (n-(k+1)) (by omega)),show n-(k+1)+1=n-k from by omega];exact c6T S n g h k (by omega)
theorem a1t(S:Nat→σ)(n:Nat){b:β}(g:∀i,i<n→f (S i)=some (.inl (S (i+1))))(h:f (S n)=some (.inr b)):y0s f (S 0)=some b:=by
 have:=c6T S n g h n (a40 _)
 rwa [a98]at this
end
theorem a0J{n:Int}(h:-9223372036854775808≤n∧n≤9223372036854775807):wrap .i64 n=n:=by
 simp only[wrap,IntKind.bits,IntKind.signed]
 simp
 split<;>omega
theorem a0G{n:Int}(h:0≤n∧n<18446744073709551616):wrap .u64 n=n:=by
 simp only[wrap,IntKind.bits,IntKind.signed]
 simp
 omega
theorem a2L(n:Int):wrap .u8 n=n%256:=by
 simp[wrap,IntKind.bits,IntKind.signed]
def leB:Nat→Nat→List Int
 |0,_=>[]
 |k+1,n=>((n%256:Nat):Int)::leB k (n / 256)
theorem a7G:∀k n,(leB k n).length=k
 |0,_=>rfl
 |k+1,n=>by simp[leB,a7G k]
theorem b1R:∀(k n:Nat),leB (k+1) n=leB k n++[((n / 256^k%256:Nat):Int)]
 |0,n=>by simp[leB]
 |k+1,n=>by
  rw[leB,b1R k (n / 256),leB,a76,a74,a43 (256^k)];rfl
theorem c1A(x y:Int):v0s x y=min x y:=by
 simp only[v0s,cond_eq_ite,dT]
 split<;>omega
theorem c1B(x y:Int):v0r x y=max x y:=by
 simp only[v0r,cond_eq_ite,dT]
 split<;>omega
theorem a0N{n:Nat}(h:n<2147483648):lim n=true:=by simp[lim,h]
section
variable {α A σ β:Type}
def a4k(g:A→α→A ⊕ β):List α→A→A ⊕ β
 | [],a=>.inl a
 |x::r,a=>match g a x with
  |.inl a'=>a4k g r a'
  |.inr b=>.inr b
def b1i(fin:A→β):A ⊕ β→β
 |.inl a=>fin a
 |.inr b=>b
theorem b3n{f:σ→Option (σ ⊕ β)}(l:List α)(S:Nat→A→σ)(g:A→α→A ⊕ β)(I:Nat→A→Prop)(e:A→β)
  (d:∀i (h:i<l.length) a,I i a→(∀a',g a l[i]=.inl a'→f (S i a)=some (.inl (S (i+1) a'))∧I (i+1) a')∧(∀b,g a l[i]=.inr b→f (S i a)=some (.inr b)))
  (c:∀a,I l.length a→f (S l.length a)=some (.inr (e a))):∀(k i:Nat)(a:A),i+k=l.length→I i a→y0s f (S i a)=some (b1i e (a4k g (l.drop i) a))
 |0,i,a,hi,ha=>by
  obtain rfl:i=l.length:=by omega
  rw[a46];exact a0C (c a ha)
 |k+1,i,a,hi,ha=>by
  have j:i<l.length:=by omega
  rw[a02 j];obtain⟨m,n⟩:=d i j a ha;simp[a4k];cases hg:g a l[i]with
  |inl a'=>
   obtain⟨o,p⟩:=m a' hg;rw[a0E o];exact b3n l S g I e d c k (i+1) a' (by omega) p
  |inr b=>exact a0C (n b hg)
theorem a1d{f:σ→Option (σ ⊕ β)}(l:List α)(S:Nat→A→σ)(g:A→α→A ⊕ β)(I:Nat→A→Prop)(k:A→β)
  (d:∀i (h:i<l.length) a,I i a→(∀a',g a l[i]=.inl a'→f (S i a)=some (.inl (S (i+1) a'))∧I (i+1) a')∧(∀b,g a l[i]=.inr b→f (S i a)=some (.inr b)))
  (c:∀a,I l.length a→f (S l.length a)=some (.inr (k a))){a:A}(e:I 0 a):y0s f (S 0 a)=some (b1i k (a4k g l a)):=by
 have:=b3n l S g I k d c l.length 0 a (by omega) e
 simp_all
theorem a0X{f:σ→Option (σ ⊕ β)}(l:List α)(S:Nat→σ)(p:α→Bool){bt bf:β}
  (k:∀i (h:i<l.length),p l[i]=true→f (S i)=some (.inl (S (i+1))))(b:∀i (h:i<l.length),p l[i]=false→f (S i)=some (.inr bf))
  (g:f (S l.length)=some (.inr bt)):y0s f (S 0)=some (bif l.all p then bt else bf):=by
 have h:=a1d (A:=Unit) l (fun i _=>S i) (fun _ x=>bif p x then .inl ()else .inr bf) (fun _ _=>True) (fun _=>bt) (fun i h a _=>?_) (fun _ _=>g) (a:=()) trivial
 ·rw[h];congr 1;clear h k b g
  induction l with
  |nil=>rfl
  |cons x l ih=>
   simp[a4k];cases p x with
   |true=>simp_all
   |false=>rfl
 grind
end
theorem a0B{α:Type}{l:List α}{i:Nat}(h:i<l.length):m0k l (i:Int)=some l[i]:=by
 simp_all[m0k]
def a0D(x:Int):Bool:=decide (-1073741824≤x)&&decide (x<1073741824)
theorem a4O{x:Int}:a0D x=true↔-1073741824≤x∧x<1073741824:=by simp[a0D]
def short{α:Type}(l:List α):Prop:=l.length<1000000
theorem a0A{i:Nat}(h:i<1000000):wrap .i64 ((i:Int)+1)=((i+1:Nat):Int):=by
 grind[a0J]
theorem dlt{n:Nat}(h:i<n):decide ((i:Int)<(n:Int))=true:=by simp_all
theorem dge(n:Nat):decide ((n:Int)<(n:Int))=false:=by simp
theorem a7H{l:List Int}(a:short l):a2a l=some (l.all a0D):=by
 unfold a2a
 have:=a0X (f:=a2f) l (fun i=>(l,(l.length:Int),(i:Int),())) a0D (bt:=Sum.inl ()) (bf:=Sum.inr (false,()))
  (fun i h hp=>by
   have hp:=a4O.1 hp;have g:decide (l[i] < -1073741824)=false:=by simp_all
   have k:decide (l[i]≥1073741824)=false:=by simp_all
   simp only[a2f,dlt h,cT,a0B h,oB,g,k,cF,a0A (a07 h a)])
  (fun i h hp=>by
   simp only[a2f,dlt h,cT,a0B h,oB]
   grind[a0D])
  (by simp[a2f])
 grind
theorem a9N(x:Int):a4p x=some (a0D x):=by
 grind[a4p,a0D]
theorem b1S(x:Int):a6m x=some (a0D x):=by
 grind[a6m,a0D]
theorem a8A(x:Int):a5s x=some (a0D x):=by
 grind[a5s,a0D]
theorem a1M(x:Int):a1V x=some (a0D x):=by
 grind[a1V,a0D]
theorem c1C(x:Int):a4q x=some (a0D x):=by
 grind[a4q,a0D]
theorem b1q(g:short l):a2g l=some (l.all a0D):=by
 unfold a2g
 have:=a0X (f:=a2G) l (fun i=>(l,(l.length:Int),(i:Int),())) a0D (bt:=Sum.inl ()) (bf:=Sum.inr (false,()))
  (fun i h hp=>by simp[a2G,a0B h,a9N,hp,a0A (a07 h g),h])
  (fun i h hp=>by simp_all[a2G,a0B,a9N])
  (by simp[a2G])
 grind
theorem b9b(g:short l):a3K l=some (l.all a0D):=by
 unfold a3K
 have:=a0X (f:=a3t) l (fun i=>(l,(l.length:Int),(i:Int),())) a0D (bt:=Sum.inl ()) (bf:=Sum.inr (false,()))
  (fun i h hp=>by simp[a3t,a0B h,b1S,hp,a0A (a07 h g),h])
  (fun i h hp=>by simp_all[a3t,a0B,b1S])
  (by simp[a3t])
 grind
theorem b7S(g:short l):a4w l=some (l.all a0D):=by
 unfold a4w
 have:=a0X (f:=a2Z) l (fun i=>(l,(l.length:Int),(i:Int),())) a0D (bt:=Sum.inl ()) (bf:=Sum.inr (false,()))
  (fun i h hp=>by simp[a2Z,a0B h,a8A,hp,a0A (a07 h g),h])
  (fun i h hp=>by simp_all[a2Z,a0B,a8A])
  (by simp[a2Z])
 grind
theorem a1m(g:short l):a1n l=some (l.all a0D):=by
 unfold a1n
 have:=a0X (f:=a4F) l (fun i=>(l,(i:Int),())) a0D (bt:=Sum.inl ()) (bf:=Sum.inr (false,()))
  (fun i h hp=>by simp[a4F,a0B h,a1M,hp,a0A (a07 h g),h])
  (fun i h hp=>by simp_all[a4F,a0B,a1M])
  (by simp[a4F])
 grind
theorem b1j(h:short l):a2q l=some (l.all a0D):=by
 have e:b2t=a2f:=rfl
 have:a2q l=a2a l:=by rfl
 simp_all[a7H]
def b2E(x:Int):Bool:=decide (-32768≤x)&&decide (x<32768)
def a7T(c:List Int)(s:Int):Bool:=decide (1≤c.length)&&(decide (c.length≤32)&&(decide (0≤s)&&(decide (s≤15)&&c.all b2E)))
theorem b1k{c:List Int}{s:Int}(a:short c):a3R (c,s)=some (a7T c s):=by
 have:=a0X (f:=a4v) c (fun i=>(c,(c.length:Int),(i:Int),())) b2E (bt:=Sum.inl ()) (bf:=Sum.inr (false,()))
  (fun i h hp=>by
   simp[b2E]at hp;have g:¬ c[i] < -32768:=by omega
   have k:¬ c[i]≥32768:=by omega
   simp[a4v,a0B h,a0A (a07 h a),h,g,k])
  (fun i h hp=>by
   grind[b2E,a4v,a0B])
  (by simp[a4v])
 simp at this;unfold a3R a7T
 grind
theorem a5M{c:List Int}{s:Int}(a:short c):a3m (c,s)=some (a7T c s):=by
 have:=a0X (f:=a3d) c (fun i=>(c,s,(i:Int),())) b2E (bt:=Sum.inl (c,s,())) (bf:=Sum.inr (false,()))
  (fun i h hp=>by
   simp[b2E]at hp;have g:¬ c[i] < -32768:=by omega
   have k:¬ c[i]≥32768:=by omega
   simp[a3d,a0B h,a0A (a07 h a),h,g,k])
  (fun i h hp=>by
   grind[b2E,a3d,a0B])
  (by simp[a3d])
 simp at this;unfold a3m a7T
 grind
def b7T(x:Int):Bool:=decide (-64≤x)&&decide (x≤64)
def b0Q(lag:Int)(t:List Int):Bool:=decide (2≤lag)&&(decide (lag≤1024)&&t.all b7T)
theorem b6X(g:t.length=3):a7l (lag,t)=some (b0Q lag t):=by
 have:=a0X (f:=a5X) t (fun i=>(t,(i:Int),())) b7T (bt:=Sum.inl ()) (bf:=Sum.inr (false,()))
  (fun i h hp=>by
   simp[b7T]at hp
   grind[a5X,a0B,a0A])
  (fun i h hp=>by
   grind[b7T,a5X,a0B])
  (by simp_all[a5X])
 simp at this;unfold a7l b0Q
 grind
theorem b3o{t:List Int}{lag:Int}(g:t.length=3):a6g (lag,t)=some (b0Q lag t):=by
 have:=a0X (f:=a3X) t (fun i=>(lag,(i:Int),t,())) b7T (bt:=Sum.inl (lag,())) (bf:=Sum.inr (false,()))
  (fun i h hp=>by
   simp[b7T]at hp
   grind[a3X,a0B,a0A])
  (fun i h hp=>by
   grind[b7T,a3X,a0B])
  (by simp_all[a3X])
 simp at this;unfold a6g b0Q
 grind
def stageB(s:Int×(Int×Unit)):Bool:=decide (1≤s.1)&&(decide (s.1≤32)&&(decide (0≤s.2.1)&&decide (s.2.1≤8)))
def a8j(l:List (Int×Int×Unit)):Bool:=decide (l.length≤3)&&l.all stageB
theorem a9O(s:Int×(Int×Unit)):a5Y s=some (stageB s):=by
 grind[a5Y,stageB]
theorem a9s(s:Int×(Int×Unit)):a5x s=some (stageB s):=by
 grind[a5x,stageB]
theorem b5l{l:List (Int×Int×Unit)}(g:short l):a6k l=some (a8j l):=by
 have:=a0X (f:=a5q) l (fun i=>(l,(l.length:Int),(i:Int),())) stageB (bt:=Sum.inl ()) (bf:=Sum.inr (false,()))
  (fun i h hp=>by simp[a5q,a0B h,a9O,hp,a0A (a07 h g),h])
  (fun i h hp=>by simp_all[a5q,a0B,a9O])
  (by simp[a5q])
 simp at this;unfold a6k a8j
 grind
theorem b2F{l:List (Int×Int×Unit)}(g:short l):a5y l=some (a8j l):=by
 have:=a0X (f:=a3w) l (fun i=>(l,(i:Int),())) stageB (bt:=Sum.inl (l,())) (bf:=Sum.inr (false,()))
  (fun i h hp=>by simp[a3w,a0B h,a9s,hp,a0A (a07 h g),h])
  (fun i h hp=>by simp_all[a3w,a0B,a9s])
  (by simp[a3w])
 simp at this;unfold a5y a8j;rw[this];cases l.all stageB with
 |false=>simp
 |true=>
  by_cases h:l.length≤3
  all_goals grind
@[reducible] def W(n:Int):Int:=wrap .i64 n
theorem b2G(n:Int):wrap .i64 n=Int.bmod n 18446744073709551616:=by
 grind[wrap,IntKind.bits,IntKind.signed]
theorem c9I{n:Int}(h:a0D n=true):W n=n:=by
 grind[a4O,a0J]
def a4l(guess:List Int→Int):List Int→List Int→Option (List Int)
 | [],out=>some out
 |x::r,out=>bif a0D (W (x+guess out))then a4l guess r (out++[W (x+guess out)])else none
def a6M{β:Type}(guess:List Int→Int)(bad:β)(out:List Int)(x:Int):List Int ⊕ β:=bif a0D (W (x+guess out))then .inl (out++[W (x+guess out)])else .inr bad
theorem a5N{β:Type}(h:List Int→Int)(g:β)(f:List Int→β):∀(l out:List Int),b1i f (a4k (a6M h g) l out)=match a4l h l out with|some r=>f r|none=>g
 | [],out=>rfl
 |x::l,out=>by
  simp[a4k,a6M,a4l];cases a0D (W (x+h out))with
  |true=>simp_all[a5N]
  |false=>rfl
theorem b1C(g:List Int→Int):∀(l out r:List Int),out.all a0D=true→a4l g l out=some r→r.all a0D=true∧r.length=out.length+l.length
 | [],out,r,h,e=>by simp_all[a4l]
 |x::l,out,r,h,e=>by
  simp[a4l]at e;cases hw:a0D (W (x+g out))with
  |true=>
   rw[hw]at e;obtain⟨f,k⟩:=b1C g l _ r (by simp_all) e
   grind
  |false=>simp_all
def a4a:Option (List Int)→List Int×Int
 |some r=>(r,0)
 |none=>([],6)
def atB(out:List Int)(i:Nat):Int:=out.getD (out.length-i) 0
def a4Y(o:Nat)(out:List Int):Int:=match o with
 | 1=>atB out 1
 | 2=>2*atB out 1-atB out 2
 | 3=>3*atB out 1-3*atB out 2+atB out 3
 | 4=>4*atB out 1-6*atB out 2+4*atB out 3-atB out 4
 |_=>0
theorem b1D{out:List Int}(hi:1≤i)(h:i≤out.length)(g:short out):a1c ((i:Int),out)=some (atB out i,out):=by
 unfold a1c;have g:out.length<1000000:=g
 grind[a0J,a0B,atB]
theorem c1D{out:List Int}(e:o≤4)(h:o≤out.length)(a:short out):∃g,a8m (out,(o:Int))=some g∧∀x,W (x+g)=W (x+a4Y o out):=by
 have f:=fun(h':1≤out.length)=>b1D (i:=1) (by omega) h' a;have k:=fun(h':2≤out.length)=>b1D (i:=2) (by omega) h' a;have b:=fun(h':3≤out.length)=>b1D (i:=3) (by omega) h' a;have c:=fun(h':4≤out.length)=>b1D (i:=4) (by omega) h' a;simp at f k b c;unfold a8m;have d:o=0∨o=1∨o=2∨o=3∨o=4:=by omega
 rcases d with rfl|rfl|rfl|rfl|rfl;exact⟨0,rfl,fun x=>rfl⟩;exact⟨_,by simp[f (by omega)];rfl,fun x=>rfl⟩;refine⟨_,by simp[f (by omega),k (by omega)];rfl,fun x=>?_⟩;simp_all[b2G,a4Y];refine⟨_,by simp[f (by omega),k (by omega),b (by omega)];rfl,fun x=>?_⟩;simp_all[b2G,a4Y];refine⟨_,by simp[f (by omega),k (by omega),b (by omega),c (by omega)];rfl,fun x=>?_⟩;simp_all[b2G,a4Y]
theorem a0V{n:Nat}(h:n<1000000):lim n=true:=a0N (by omega)
theorem c3t{warm rest:List Int}(u:o≤4)(x:warm.length=o)(w:rest.length<100000):
  a8V (warm,rest,(o:Int))=some (a4a (bif warm.all a0D&&rest.all a0D then a4l (a4Y o) rest warm else none)):=by
 have c:short warm:=by unfold short;omega
 have m:short rest:=by unfold short;omega
 unfold a8V;have p:¬ (o:Int)<0:=by omega
 have q:¬ (o:Int) > 4:=by omega
 have r:(((warm.length:Nat):Int) != (o:Int))=false:=by simp_all
 simp only[p,q,r,decide_false,cF,oB,b1j c,b1j m];cases hw1:warm.all a0D with
 |false=>rfl
 |true=>
  simp only[bT,cF,oB,a22];cases hw2:rest.all a0D with
  |false=>rfl
  |true=>
   simp[a0V c]
   have:=a1d (f:=a6u) rest (fun i out=>((o:Int),rest,(rest.length:Int),(i:Int),out,())) (a6M (a4Y o) (Sum.inr ((6:Int),([]:List Int),())))
    (fun i out=>o≤out.length∧out.length≤o+i) (fun out=>Sum.inl (out,()))
    (fun i h out s=>by
     have j:i<1000000:=by omega
     have l:short out:=by unfold short;omega
     obtain⟨g,t,d⟩:=c1D u s.1 l;have e:wrap .i64 (rest[i]+g)=W (rest[i]+a4Y o out):=d _;have k:a2q [W (rest[i]+a4Y o out)]=some (a0D (W (rest[i]+a4Y o out))):=by rw[b1j (by simp[short])];simp
     simp only[a6u,dlt h,cT,a0B h,oB,t,e,k,a6M];cases hb:a0D (W (rest[i]+a4Y o out))with
     |true=>
      simp only[cT,bT,cF,a0V (show out.length+1<1000000 by omega),a0A j];refine⟨fun v n=>?_,fun b hb=>(by grind)⟩;simp at n;subst n;exact⟨rfl,by grind,by grind⟩
     |false=>
      simp)
    (fun out _=>by simp[a6u]) (a:=warm) ⟨by omega,by omega⟩
   simp[a5N]at this;rw[this];cases a4l (a4Y o) rest warm<;>rfl
def b1l(o:Nat):List Int:=match o with
 | 1=>[1]
 | 2=>[2,-1]
 | 3=>[3,-3,1]
 | 4=>[4,-6,4,-1]
 |_=>[]
theorem c9J(g:o≤4):b1Q (o:Int)=some (b1l o):=by
 have h:o=0∨o=1∨o=2∨o=3∨o=4:=by omega
 rcases h with rfl|rfl|rfl|rfl|rfl<;>rfl
theorem c6v{o:Nat}(g:o≤4):(b1l o).length=o:=by
 have h:o=0∨o=1∨o=2∨o=3∨o=4:=by omega
 rcases h with rfl|rfl|rfl|rfl|rfl<;>rfl
def b5m(o:Nat)(out:List Int)(x:Int):Nat→Int
 |0=>x
 |k+1=>W (b5m o out x k+W ((b1l o).getD k 0*atB out (k+1)))
theorem b9c{rest out:List Int}{i:Int}(q:o≤4)(h:o≤out.length)(g:short out)(r:a0D x=true):
  y0s a3e (rest,(o:Int),b1l o,i,x,(0:Int),out,())=some (rest,(o:Int),b1l o,i,W (x+a4Y o out),out,()):=by
 have g:out.length<1000000:=g
 have:=a1t (f:=a3e) (fun k=>(rest,(o:Int),b1l o,i,b5m o out x k,(k:Int),out,()))
  o (b:=(rest,(o:Int),b1l o,i,b5m o out x o,out,())) (fun k n=>by
   have a:wrap .i64 (((out.length:Nat):Int)-1)=((out.length-1:Nat):Int):=by grind[a0J]
   have c:wrap .i64 (((out.length-1:Nat):Int)-(k:Int))=((out.length-(k+1):Nat):Int):=by grind[a0J]
   have d:(0:Int)≤((out.length-(k+1):Nat):Int):=by omega
   have e:((out.length-(k+1):Nat):Int)<((out.length:Nat):Int):=by omega
   have j:k<(b1l o).length:=by simp_all[c6v]
   have l:(b1l o)[k]=(b1l o).getD k 0:=by simp_all
   simp only[a3e,dlt n,cT,a0B j,oB,a,c,d,e,decide_true,a04,tN,a0A (show k<1000000 by omega),b5m,atB,l])
  (by simp[a3e])
 simp[b5m]at this;rw[this];have p:b5m o out x o=W (x+a4Y o out):=by
  have m:o=0∨o=1∨o=2∨o=3∨o=4:=by omega
  rcases m with rfl|rfl|rfl|rfl|rfl;simp_all[b5m,a4Y,c9I]
  all_goals
   simp only[b5m,b1l,a4Y,List.getD_cons_zero,a64,Nat.zero_add,Nat.reduceAdd,W,b2G,Int.add_bmod_bmod,Int.bmod_add_bmod]
   grind
 grind
theorem b7U{warm rest:List Int}{o:Nat}(m:o≤4)(u:warm.length=o)(t:rest.length<100000):
  a6D (warm,rest,(o:Int))=some (a4a (bif warm.all a0D&&rest.all a0D then a4l (a4Y o) rest warm else none)):=by
 have e:short warm:=by unfold short;omega
 have d:short rest:=by unfold short;omega
 unfold a6D;have n:¬ (o:Int)<0:=by omega
 have p:¬ (o:Int) > 4:=by omega
 have q:(((warm.length:Nat):Int) != (o:Int))=false:=by simp_all
 simp only[n,p,q,decide_false,cF,oB,a1m e,a1m d];cases hw1:warm.all a0D with
 |false=>rfl
 |true=>
  simp only[bT,cF,oB,a22];cases hw2:rest.all a0D with
  |false=>rfl
  |true=>
   have k:lim (0+warm.length)=true:=a0V (by omega);simp only[bT,cF,cT,k,c9J m,oB,a06,a08]
   have:=a1d (f:=a4H) rest (fun i out=>(rest,(o:Int),b1l o,(i:Int),out,())) (a6M (a4Y o) (Sum.inr ((6:Int),([]:List Int),())))
    (fun i out=>o≤out.length∧out.length≤o+i) (fun out=>Sum.inl (out,()))
    (fun i h out r=>by
     have g:i<1000000:=by omega
     have c:short out:=by unfold short;omega
     have j:a0D rest[i]=true:=lA.1 hw2 _ (a05 h);simp only[a4H,dlt h,cT,a0B h,oB,b9c m r.1 c j,a1M,a6M];cases hb:a0D (W (rest[i]+a4Y o out))with
     |true=>
      simp only[cT,bT,cF,a0V (show out.length+1<1000000 by omega),a0A g];refine⟨fun s l=>?_,fun b hb=>(by grind)⟩;simp at l;subst l;exact⟨rfl,by grind,by grind⟩
     |false=>
      simp)
    (fun out _=>by simp[a4H]) (a:=warm) ⟨by omega,by omega⟩
   simp[a5N]at this;rw[this];cases a4l (a4Y o) rest warm<;>rfl
def b5n(out:List Int):List Int→Nat→Int→Int
 | [],_,acc=>acc
 |c::r,i,acc=>bif decide (i<out.length)then b5n out r (i+1) (W (acc+W (c*atB out (i+1))))else acc
def a9t(c:List Int)(s:Int)(out:List Int):Int:=A0o .i64 (b5n out c 0 0) s
theorem c9K{out:List Int}(h:i<out.length)(g:short out):m0k out (wrap .i64 (wrap .i64 (((out.length:Nat):Int)-1)-(i:Int)))=some (atB out (i+1)):=by
 have g:out.length<1000000:=g
 grind[a0J,a0B,atB]
theorem d1s{out:List Int}(h:i<out.length)(g:out.all a0D=true):a0D (atB out (i+1))=true:=by
 grind[atB]
theorem b5o{out c:List Int}{s:Int}(f:short out)(a:short c):∀(k i:Nat)(acc:Int),i+k=c.length→
  y0s a2H (out,s,acc,c,(c.length:Int),(i:Int),())=some (s,b5n out (c.drop i) i acc,())
 |0,i,acc,h=>by
  obtain rfl:i=c.length:=by omega
  simp_all[a0C,a2H,b5n]
 |k+1,i,acc,h=>by
  have g:i<c.length:=by omega
  have e:out.length<1000000:=f;have d:c.length<1000000:=a;rw[a02 g,b5n];have j:wrap .i64 (((out.length:Nat):Int)-1)=((out.length:Nat):Int)-1:=a0J (by omega);have l:wrap .i64 (((out.length:Nat):Int)-1-(i:Int))=((out.length:Nat):Int)-1-(i:Int):=a0J (by omega)
  by_cases hi:i<out.length
  have b:decide (wrap .i64 (wrap .i64 (((out.length:Nat):Int)-1)-(i:Int))<0)=false:=by grind
  simp[hi];rw[a0E (s':=(out,s,W (acc+W (c[i]*atB out (i+1))),c,(c.length:Int),((i+1:Nat):Int),())) (by
   simp only[a2H,dlt g,cT,a0B g,oB,b,cF,c9K hi f,a0A (show i<1000000 by omega)])]
  exact b5o f a k (i+1) _ (by omega);have b:decide (wrap .i64 (wrap .i64 (((out.length:Nat):Int)-1)-(i:Int))<0)=true:=by grind
  simp[hi];simp_all[a0C,a2H,a0B]
theorem c8K{out c:List Int}{s:Int}(g:short out)(h:short c)(f:0≤s):a3S (out,c,s)=some (a9t c s out):=by
 have:=b5o (s:=s) g h c.length 0 0 (by omega)
 grind[a3S,a9t]
theorem b9d{out c:List Int}{s:Int}(f:short out)(a:short c)(b:out.all a0D=true):∀(k i:Nat)(acc:Int),i+k=c.length→
  y0s a2v (out,c,s,acc,(i:Int),())=some (Sum.inl (s,b5n out (c.drop i) i acc,()))
 |0,i,acc,h=>by
  obtain rfl:i=c.length:=by omega
  simp_all[a0C,a2v,b5n]
 |k+1,i,acc,h=>by
  have g:i<c.length:=by omega
  have j:out.length<1000000:=f;have d:c.length<1000000:=a;rw[a02 g,b5n]
  by_cases hi:i<out.length
  simp[hi];rw[a0E (s':=(out,c,s,W (acc+W (c[i]*atB out (i+1))),((i+1:Nat):Int),())) (by
   simp only[a2v,dlt g,dlt hi,cT,c9K hi f,oB,a1M,d1s hi b,bT,cF,a0B g,a0A (show i<1000000 by omega)])]
  exact b9d f a b k (i+1) _ (by omega);have e:decide ((i:Int)<((out.length:Nat):Int))=false:=by simp_all
  simp[hi];exact a0C (by simp only[a2v,dlt g,cT,e,cF])
theorem b6Y{s:Int}(h:0≤s)(g:s≤64):wrap .u64 s=s:=a0G (by omega)
theorem b5p{out c:List Int}{s:Int}(f:short out)(h:short c)(k:out.all a0D=true)(g:a7T c s=true):a5e (out,c,s)=some (a9t c s out):=by
 have:=b9d (s:=s) f h k c.length 0 0 (by omega)
 simp at this;unfold a5e;simp[a5M h,g,this];simp only[a7T,bA,dT]at g
 grind[b6Y,a9t]
def b1T(warm rest c:List Int)(s:Int):Option (List Int):=bif warm.all a0D&&rest.all a0D then a4l (a9t c s) rest warm else none
theorem b3p{warm rest c:List Int}{s:Int}(o:a7T c s=true)(w:warm.length=c.length)(v:rest.length<100000):
  a5Z (warm,rest,c,s)=some (a4a (b1T warm rest c s)):=by
 have g:=o;simp only[a7T,bA,dT]at g;have k:short c:=by unfold short;omega
 have m:short warm:=by unfold short;omega
 have l:short rest:=by unfold short;omega
 unfold a5Z;have q:(((warm.length:Nat):Int) != ((c.length:Nat):Int))=false:=by simp_all
 simp only[b1k k,o,oB,bT,cF,q,b1q m,b1q l,b1T];cases hw1:warm.all a0D with
 |false=>rfl
 |true=>
  simp only[bT,cF,oB,a22];cases hw2:rest.all a0D with
  |false=>rfl
  |true=>
   have p:wrap .i64 (((warm.length:Nat):Int)+((rest.length:Nat):Int))=((warm.length+rest.length:Nat):Int):=by grind[a0J]
   have r:(0:Int)≤((warm.length+rest.length:Nat):Int):=by omega
   simp only[bT,cF,cT,p,r,decide_true,tN,a0V (show warm.length+rest.length<1000000 by omega),a0V (show 0+warm.length<1000000 by omega),a04,a06,a08]
   have:=a1d (f:=a5C) rest (fun i out=>(c,s,rest,(rest.length:Int),(i:Int),out,())) (a6M (a9t c s) (Sum.inr ((6:Int),([]:List Int),())))
    (fun i out=>out.length≤warm.length+i) (fun out=>Sum.inl (out,()))
    (fun i h out u=>by
     have d:i<1000000:=by omega
     have j:short out:=by unfold short;omega
     have e:wrap .i64 (a9t c s out+rest[i])=W (rest[i]+a9t c s out):=by grind
     simp only[a5C,dlt h,cT,a0B h,oB,c8K j k g.2.2.1,e,a9N,a6M];cases hb:a0D (W (rest[i]+a9t c s out))with
     |true=>
      simp only[cT,bT,cF,a0V (show out.length+1<1000000 by omega),a0A d];refine⟨fun t n=>?_,fun b hb=>(by grind)⟩;simp at n;subst n;exact⟨rfl,by grind⟩
     |false=>
      simp)
    (fun out _=>by simp[a5C]) (a:=warm) (by omega)
   simp[a5N]at this;rw[this];cases a4l (a9t c s) rest warm<;>rfl
theorem b1r{warm rest c:List Int}{s:Int}(k:a7T c s=true)(t:warm.length=c.length)(r:rest.length<100000):
  a3Y (warm,rest,c,s)=some (a4a (b1T warm rest c s)):=by
 have d:=k;simp only[a7T,bA,dT]at d;have g:short c:=by unfold short;omega
 have m:short warm:=by unfold short;omega
 have l:short rest:=by unfold short;omega
 unfold a3Y;have o:(((warm.length:Nat):Int) != ((c.length:Nat):Int))=false:=by simp_all
 simp only[a5M g,k,oB,bT,cF,o,a1m m,a1m l,b1T];cases hw1:warm.all a0D with
 |false=>rfl
 |true=>
  simp only[bT,cF,oB,a22];cases hw2:rest.all a0D with
  |false=>rfl
  |true=>
   simp only[bT,cF,cT,a0V (show 0+warm.length<1000000 by omega),a06,a08]
   have:=a1d (f:=a4j) rest (fun i out=>(rest,c,s,(i:Int),out,())) (a6M (a9t c s) (Sum.inr ((6:Int),([]:List Int),())))
    (fun i out=>out.length≤warm.length+i∧out.all a0D=true) (fun out=>Sum.inl (out,()))
    (fun i h out p=>by
     have e:i<1000000:=by omega
     have j:short out:=by unfold short;omega
     simp only[a4j,dlt h,cT,a0B h,oB,b5p j g p.2 k,a1M,a6M];cases hb:a0D (W (rest[i]+a9t c s out))with
     |true=>
      simp only[cT,bT,cF,a0V (show out.length+1<1000000 by omega),a0A e];refine⟨fun q n=>?_,fun b hb=>(by grind)⟩;simp at n;subst n;exact⟨rfl,by grind,by simp_all⟩
     |false=>
      simp)
    (fun out _=>by simp[a4j]) (a:=warm) ⟨by omega,hw1⟩
   simp[a5N]at this;rw[this];cases a4l (a9t c s) rest warm<;>rfl
def b5q(out:List Int)(lag:Int):List Int→Nat→Int→Int
 | [],_,acc=>acc
 |t::r,i,acc=>b5q out lag r (i+1) (bif decide (0≤(out.length:Int)-lag-1+i)then W (acc+W (t*out.getD ((out.length:Int)-lag-1+i).toNat 0))else acc)
def a7I(lag:Int)(t:List Int)(out:List Int):Int:=A0o .i64 (b5q out lag t 0 0) 6
theorem b3Q{out:List Int}{j:Int}(g:0≤j)(h:j<out.length):m0k out j=some (out.getD j.toNat 0):=by
 obtain⟨n,rfl⟩:=a01 g;simp_all[a0B]
theorem c6U{n:Nat}(h:2≤lag)(g:lag≤1024)(f:n<1000000)(hi:i<3):
  wrap .i64 (wrap .i64 (wrap .i64 ((n:Int)-lag)-1)+(i:Int))=(n:Int)-lag-1+i:=by
 grind[a0J]
theorem c9L{n j:Nat}(h:j<n):(l.take n).getD j 0=l.getD j 0:=by
 simp_all
theorem a7U{l t:List Int}{lag:Int}{n:Nat}(m:n≤l.length)(j:short l)(o:t.length=3)(a:2≤lag)(b:lag≤1024):∀(k i:Nat)(acc:Int),i+k=3→
  y0s a3u (l,(n:Int),lag,acc,t,(i:Int),())=some (b5q (l.take n) lag (t.drop i) i acc,())
 |0,i,acc,h=>by
  obtain rfl:i=t.length:=by omega
  grind[a0C,a3u,b5q]
 |k+1,i,acc,h=>by
  have g:i<t.length:=by omega
  have f:decide ((i:Int)<3)=true:=by grind
  have p:l.length<1000000:=j;have d:(l.take n).length=n:=by simp_all
  have e:=c6U (n:=n) (i:=i) a b (by omega) (by omega);rw[a02 g,b5q,d]
  by_cases hp:0≤(n:Int)-lag-1+i
  have c:decide ((n:Int)-lag-1+i≥0)=true:=by simp_all
  simp only[hp,decide_true,cT];rw[c9L (show((n:Int)-lag-1+i).toNat<n by omega),a0E (s':=(l,(n:Int),lag,W (acc+W (t[i]*l.getD ((n:Int)-lag-1+i).toNat 0)),t,((i+1:Nat):Int),())) (by
   simp only[a3u,f,cT,a0B g,oB,e,c,b3Q hp (show(n:Int)-lag-1+(i:Int)<(l.length:Int)by omega),a0A (show i<1000000 by omega)])]
  exact a7U m j o a b k (i+1) _ (by omega);have c:decide ((n:Int)-lag-1+i≥0)=false:=by simp_all
  simp[hp];rw[a0E (s':=(l,(n:Int),lag,acc,t,((i+1:Nat):Int),())) (by
   simp only[a3u,f,cT,a0B g,oB,e,c,cF,a0A (show i<1000000 by omega)])]
  exact a7U m j o a b k (i+1) _ (by omega)
theorem b9e{l t:List Int}{lag:Int}{n:Nat}(f:n≤l.length)(k:short l)(a:t.length=3)(h:2≤lag)(g:lag≤1024):
  a3L (l,(n:Int),lag,t)=some (a7I lag t (l.take n)):=by
 have:=a7U (t:=t) f k a h g 3 0 0 (by rfl)
 simp_all[a3L,a7I]
theorem b9f{out:List Int}(f:short out)(k:t.length=3)(h:2≤lag)(g:lag≤1024):a3L (out,(out.length:Int),lag,t)=some (a7I lag t out):=by
 simp_all[b9e]
theorem a6Z{out t:List Int}{lag:Int}(d:short out)(l:t.length=3)(a:2≤lag)(b:lag≤1024):∀(k i:Nat)(acc:Int),i+k=3→
  y0s a3f (out,lag,acc,(i:Int),t,())=some (b5q out lag (t.drop i) i acc,())
 |0,i,acc,h=>by
  obtain rfl:i=t.length:=by omega
  grind[a0C,a3f,b5q]
 |k+1,i,acc,h=>by
  have f:i<t.length:=by omega
  have g:decide ((i:Int)<3)=true:=by grind
  have j:out.length<1000000:=d;have e:=c6U (i:=i) a b j (by omega);rw[a02 f,b5q]
  by_cases hp:0≤(out.length:Int)-lag-1+i
  have c:decide ((out.length:Int)-lag-1+i≥0)=true:=by simp_all
  simp only[hp,decide_true,cT];rw[a0E (s':=(out,lag,W (acc+W (t[i]*out.getD ((out.length:Int)-lag-1+i).toNat 0)),((i+1:Nat):Int),t,())) (by
   simp only[a3f,g,cT,a0B f,oB,e,c,b3Q hp (show(out.length:Int)-lag-1+(i:Int)<(out.length:Int)by omega),a0A (show i<1000000 by omega)])]
  exact a6Z d l a b k (i+1) _ (by omega);have c:decide ((out.length:Int)-lag-1+i≥0)=false:=by simp_all
  simp[hp];rw[a0E (s':=(out,lag,acc,((i+1:Nat):Int),t,())) (by
   simp only[a3f,g,cT,e,c,cF,a0A (show i<1000000 by omega)])]
  exact a6Z d l a b k (i+1) _ (by omega)
theorem b7V{out:List Int}(f:short out)(k:t.length=3)(h:2≤lag)(g:lag≤1024):a6E (out,lag,t)=some (a7I lag t out):=by
 have:=a6Z (out:=out) (t:=t) f k h g 3 0 0 (by rfl)
 simp_all[a6E,a7I]
def b3R(rest:List Int)(lag:Int)(t:List Int):Option (List Int):=bif rest.all a0D then a4l (a7I lag t) rest []else none
theorem c4I{rest:List Int}(d:b0Q lag t=true)(e:t.length=3)(m:rest.length<100000):b0A (rest,lag,t)=some (a4a (b3R rest lag t)):=by
 have g:=d;simp only[b0Q,bA,dT]at g;have k:short rest:=by unfold short;omega
 unfold b0A;simp only[b6X e,d,oB,bT,cF,b9b k,b3R];cases hw2:rest.all a0D with
 |false=>rfl
 |true=>
  have l:(0:Int)≤((rest.length:Nat):Int):=by omega
  simp[a0V k]
  have:=a1d (f:=a7m) rest (fun i out=>(lag,rest,(rest.length:Int),(i:Int),out,t,())) (a6M (a7I lag t) (Sum.inr ((6:Int),([]:List Int),())))
   (fun i out=>out.length=i) (fun out=>Sum.inl (out,()))
   (fun i h out j=>by
    have b:i<1000000:=by omega
    have c:short out:=by unfold short;omega
    have hp:=b9f (out:=out) (t:=t) (lag:=lag) c e g.1 g.2.1;rw[j]at hp;simp only[a7m,dlt h,cT,a0B h,oB,hp,b1S,a6M];cases hb:a0D (W (rest[i]+a7I lag t out))with
    |true=>
     simp only[cT,bT,cF,a0V (show out.length+1<1000000 by omega),a0A b];simp_all
    |false=>
     simp)
   (fun out _=>by simp[a7m]) (a:=[]) rfl
  simp[a5N]at this;rw[this];cases a4l (a7I lag t) rest []<;>rfl
theorem b9g{rest t:List Int}{lag:Int}(d:b0Q lag t=true)(e:t.length=3)(l:rest.length<100000):a7w (rest,lag,t)=some (a4a (b3R rest lag t)):=by
 have g:=d;simp only[b0Q,bA,dT]at g;have c:short rest:=by unfold short;omega
 unfold a7w;simp only[b3o e,d,oB,bT,cF,a1m c,b3R];cases hw2:rest.all a0D with
 |false=>rfl
 |true=>
  simp
  have:=a1d (f:=a5f) rest (fun i out=>(rest,lag,(i:Int),out,t,())) (a6M (a7I lag t) (Sum.inr ((6:Int),([]:List Int),())))
   (fun i out=>out.length=i) (fun out=>Sum.inl (out,()))
   (fun i h out j=>by
    have k:i<1000000:=by omega
    have b:short out:=by unfold short;omega
    simp only[a5f,dlt h,cT,a0B h,oB,b7V b e g.1 g.2.1,a1M,a6M];cases hb:a0D (W (rest[i]+a7I lag t out))with
    |true=>
     simp only[cT,bT,cF,a0V (show out.length+1<1000000 by omega),a0A k];simp_all
    |false=>
     simp)
   (fun out _=>by simp[a5f]) (a:=[]) rfl
  simp[a5N]at this;rw[this];cases a4l (a7I lag t) rest []<;>rfl
def b3q{β:Type}(n:Int)(bad:β)(out:List Int)(x:Int):List Int ⊕ β:=bif a0D x&&a0D (A0n .i64 x n)then .inl (out++[A0n .i64 x n])else .inr bad
def upO(n:Int)(l:List Int):Option (List Int):=bif l.all (fun x=>a0D x&&a0D (A0n .i64 x n))then some (l.map fun x=>A0n .i64 x n)else none
theorem b2Z{β:Type}(n:Int)(h:β)(g:List Int→β):∀(l out:List Int),b1i g (a4k (b3q n h) l out)=match upO n l with|some r=>g (out++r)|none=>h
 | [],out=>by simp[a4k,b1i,upO]
 |x::l,out=>by
  simp only[a4k,b3q,upO,a20];cases hx:(a0D x&&a0D (A0n .i64 x n))with
  |true=>
   simp only[cT,a22];rw[b2Z n h g l _];simp only[upO];cases l.all (fun x=>a0D x&&a0D (A0n .i64 x n))with
   |true=>simp
   |false=>rfl
  |false=>rfl
theorem c4J(d:0≤n)(e:n≤30)(m:l.length<100000):a8b (l,n)=some (a4a (upO n l)):=by
 have c:short l:=by unfold short;omega
 have g:¬ n<0:=by omega
 have b:¬ n > 30:=by omega
 unfold a8b;simp[g,b]
 have:=a1d (f:=a7n) l (fun i out=>(n,l,(l.length:Int),(i:Int),out,())) (b3q n (Sum.inr ((6:Int),([]:List Int),())))
  (fun i out=>out.length=i) (fun out=>Sum.inl (out,()))
  (fun i h out j=>by
   have k:i<1000000:=by omega
   simp only[a7n,dlt h,cT,a0B h,oB,c1C,b3q,g,decide_false,cF];cases hb:a0D l[i]with
   |true=>
    cases hb2:a0D (A0n .i64 l[i] n)with
    |true=>
     simp only[cT,bT,cF,oB,g,decide_false,a0V (show out.length+1<1000000 by omega),a0A k,a04];simp_all
    |false=>
     simp
   |false=>
    simp)
  (fun out _=>by simp[a7n]) (a:=[]) rfl
 simp[b2Z]at this;rw[this];cases upO n l<;>rfl
theorem c9M(d:0≤n)(j:n≤30)(o:l.length<100000):b6b (l,n)=some (a4a (upO n l)):=by
 have e:short l:=by unfold short;omega
 have g:¬ n<0:=by omega
 have c:¬ n > 30:=by omega
 have b:=b6Y d (by omega);unfold b6b;simp[g,c]
 have:=a1d (f:=b1w) l (fun i out=>(l,n,(i:Int),out,())) (b3q n (Sum.inr ((6:Int),([]:List Int),())))
  (fun i out=>out.length=i) (fun out=>Sum.inl (out,()))
  (fun i h out m=>by
   have k:i<1000000:=by omega
   simp only[b1w,dlt h,cT,a0B h,oB,a1M,b3q,b,g,decide_false,cF];cases hb:a0D l[i]with
   |true=>
    cases hb2:a0D (A0n .i64 l[i] n)with
    |true=>
     simp only[cT,bT,cF,oB,b,g,decide_false,a0B h,a0V (show out.length+1<1000000 by omega),a0A k,a04];simp_all
    |false=>
     simp
   |false=>
    simp)
  (fun out _=>by simp[b1w]) (a:=[]) rfl
 simp[b2Z]at this;rw[this];cases upO n l<;>rfl
@[reducible] def Fil:Type:=Int×((List Int)×((List Int)×Unit))
def a1g(x:Int):Int:=v0s (v0r x (-1073741824)) 1073741823
def b9h(x:Int):Int:=v0s (v0r x (-1048576)) 1048576
theorem b5r(x:Int):-1073741824≤a1g x∧a1g x≤1073741823:=by
 grind[a1g,c1A,c1B]
theorem c4K(x:Int):-1048576≤b9h x∧b9h x≤1048576:=by
 grind[b9h,c1A,c1B]
def c1E:List Int→List Int→Int→Int
 |a::w,b::h,acc=>c1E w h (W (acc+W (a*b)))
 |_,_,acc=>acc
def a0U(f:Fil):Int:=a1g (A0o .i64 (c1E f.2.1 f.2.2.1 0) 16)
structure FilOk (f:Fil):Prop where
 len:f.2.1.length=f.2.2.1.length
 pos:1≤f.2.1.length
 most:f.2.1.length≤32
 rate:0≤f.1∧f.1≤8
 small:∀x∈f.2.1,-1048576≤x∧x≤1048576
theorem a8G(h:i<l.length):a50 l i 0=l[i]:=by
 simp_all
theorem b1U{f:Fil}(c:FilOk f):∀(k i:Nat)(acc:Int),i+k=f.2.1.length→
  y0s a2F (acc,(f.2.1.length:Int),(i:Int),f,())=some (c1E (f.2.1.drop i) (f.2.2.1.drop i) acc,f,())
 |0,i,acc,h=>by
  obtain rfl:i=f.2.1.length:=by omega
  rw[a46,a0C (b:=(acc,f,())) (by simp[a2F])];rfl
 |k+1,i,acc,h=>by
  have g:i<f.2.1.length:=by omega
  have a:i<f.2.2.1.length:=by rw[←c.len];omega
  have e:=c.most;rw[a02 g,a02 a,c1E];have d:decide ((0:Int)≤(i:Int))=true:=by simp
  rw[a0E (s':=(W (acc+W (f.2.1[i]*f.2.2.1[i])),(f.2.1.length:Int),((i+1:Nat):Int),f,())) (by
   simp only[a2F,dlt g,dlt a,d,cT,a04,tN,a8G g,a8G a,a0A (show i<1000000 by omega)])]
  exact b1U c k (i+1) _ (by omega)
theorem a9P{f:Fil}(h:FilOk f):a1N f=some (a0U f,f):=by
 have:=b1U h f.2.1.length 0 0 (by omega)
 simp at this;unfold a1N;simp only[this,oB,a4x];rfl
theorem b3r{f:Fil}(c:FilOk f):∀(k i:Nat)(acc:Int),i+k=f.2.1.length→
  y0s a3o (acc,(i:Int),f,())=some (c1E (f.2.1.drop i) (f.2.2.1.drop i) acc,f,())
 |0,i,acc,h=>by
  obtain rfl:i=f.2.1.length:=by omega
  rw[a46,a0C (b:=(acc,f,())) (by simp[a3o])];rfl
 |k+1,i,acc,h=>by
  have g:i<f.2.1.length:=by omega
  have a:i<f.2.2.1.length:=by rw[←c.len];omega
  have e:=c.most;rw[a02 g,a02 a,c1E];have d:decide ((0:Int)≤(i:Int))=true:=by simp
  rw[a0E (s':=(W (acc+W (f.2.1[i]*f.2.2.1[i])),((i+1:Nat):Int),f,())) (by
   simp only[a3o,dlt g,dlt a,d,cT,a04,tN,a8G g,a8G a,a0A (show i<1000000 by omega)])]
  exact b3r c k (i+1) _ (by omega)
theorem b1V{f:Fil}(h:FilOk f):a3g f=some (a0U f,f):=by
 have:=b3r h f.2.1.length 0 0 (by omega)
 simp at this;unfold a3g;simp only[this,oB,a9i];rfl
def a5o(x:Int):Int:=if 0<x then 1 else if x<0 then -1 else 0
def b0R(r:Int)(x g:Int):Int:=a5o (x-g)*2^r.toNat
def b1m(st:Int)(w h:Int):Int:=b9h (W (w+a5o h*st))
def b1E(f:Fil)(x:Int):Fil:=
 (f.1,a23 (b1m (b0R f.1 (a1g x) (a0U f))) f.2.1 f.2.2.1,a1g x::f.2.2.1.take (f.2.2.1.length-1),f.2.2.2)
theorem c4L{f:Fil}(k:FilOk f)(x:Int):FilOk (b1E f x):=by
 obtain⟨a,b,c,g,d⟩:=k;have e:(a23 (b1m (b0R f.1 (a1g x) (a0U f))) f.2.1 f.2.2.1).length=f.2.1.length:=by simp_all
 refine⟨?_,?_,?_,g,?_⟩;show(a23 _ _ _).length=(a1g x::f.2.2.1.take (f.2.2.1.length-1)).length;simp_all;show 1≤(a23 _ _ _).length;omega;show(a23 _ _ _).length≤32;omega;intro y h;have h:y∈a23 (b1m (b0R f.1 (a1g x) (a0U f))) f.2.1 f.2.2.1:=h;obtain⟨i,hi,rfl⟩:=a61.1 h
 simp
 exact c4K _
theorem a6p(x:Int):(0<x∧a5o x=1)∨(x<0∧a5o x=-1)∨(x=0∧a5o x=0):=by
 unfold a5o;omega
theorem b7W{r:Int}(h:0≤r∧r≤8):(2:Int)^r.toNat≤256∧1≤(2:Int)^r.toNat:=by
 have:r.toNat=0∨r.toNat=1∨r.toNat=2∨r.toNat=3∨r.toNat=4∨r.toNat=5∨r.toNat=6∨r.toNat=7∨r.toNat=8:=by omega
 rcases this with e|e|e|e|e|e|e|e|e<;>rw[e]<;>decide
theorem c2f{r:Int}(h:0≤r∧r≤8)(g:-1≤x∧x≤1):A0n .i64 x r=x*2^r.toNat:=by
 have hp:=b7W h;have hb:min r.toNat 64=r.toNat:=by omega
 unfold A0n;show wrap .i64 (x*2^(min r.toNat 64))=_;rw[hb]
 have:x=-1∨x=0∨x=1:=by omega
 rcases this with rfl|rfl|rfl
 all_goals grind[a0J]
theorem c3u{f:Fil}(a:FilOk f)(x:Int):
  (bif decide (a1g x > a0U f)then bif decide (f.1<0)then(none:Option (Int×Int×Fil×Unit))else some (a1g x,A0n .i64 (1:Int) f.1,f,())
   else bif decide (a1g x<a0U f)then bif decide (f.1<0)then none else some (a1g x,wrap .i64 (0-(A0n .i64 (1:Int) f.1)),f,())
   else some (a1g x,(0:Int),f,()))=some (a1g x,b0R f.1 (a1g x) (a0U f),f,()):=by
 have d:¬ f.1<0:=by have:=a.rate;omega
 have hp:=b7W a.rate;have b:=c2f a.rate (x:=1) (by omega);rw[Int.one_mul]at b;rcases a6p (a1g x-a0U f)with⟨c,h⟩|⟨c,h⟩|⟨c,h⟩;have g:a1g x > a0U f:=by omega
 simp only[g,d,decide_true,decide_false,cT,cF,b0R,h,Int.one_mul,b];have g:¬ a1g x > a0U f:=by omega
 have k:a1g x<a0U f:=by omega
 simp only[g,k,d,decide_true,decide_false,cT,cF,b0R,h,b]
 grind[a0J]
 have g:¬ a1g x > a0U f:=by omega
 have k:¬ a1g x<a0U f:=by omega
 simp only[g,k,decide_false,cF,b0R,h,a99]
theorem c4M{z:List Int}(hi:i<l.length)(f:z.length=l.length):(z.take i++l.drop i).set i (z[i]'(by omega))=z.take (i+1)++l.drop (i+1):=by
 have h:(z.take i).length=i:=by grind
 have g:z.take (i+1)=z.take i++[z[i]'(by omega)]:=by simp
 rw[a82 _ _ (by omega),h,a98,a02 hi,a95,g,aA];rfl
theorem d1t{z:List Int}(hi:i<l.length)(h:z.length=l.length):a50 (z.take i++l.drop i) i 0=l[i]:=by
 grind
theorem c9N{f:Fil}(g:FilOk f)(h:i<f.2.1.length):-1048576≤f.2.1[i]∧f.2.1[i]≤1048576:=g.small _ (a05 h)
theorem b9i{f:Fil}(n:FilOk f){x1 st:Int}(t:-256≤st∧st≤256):
  y0s a1Y (x1,st,(f.2.2.1.length:Int),(0:Int),f,())=some (x1,(f.1,a23 (b1m st) f.2.1 f.2.2.1,f.2.2),()):=by
 obtain⟨z,v⟩:∃z,a23 (b1m st) f.2.1 f.2.2.1=z:=⟨_,rfl⟩;have p:=n.len;have d:z.length=f.2.1.length:=by grind
 have u:=n.most
 have:=a1t (f:=a1Y) (fun i=>(x1,st,(f.2.2.1.length:Int),(i:Int),(f.1,z.take i++f.2.1.drop i,f.2.2),()))
  f.2.2.1.length (b:=(x1,(f.1,z,f.2.2),())) (fun i hi=>by
   have k:i<f.2.1.length:=by omega
   have j:decide ((0:Int)≤(i:Int))=true:=by simp
   have r:(z.take i++f.2.1.drop i).length=f.2.1.length:=by grind
   have g:decide ((i:Int)<((z.take i++f.2.1.drop i).length:Int))=true:=by simp_all
   have o:z[i]'(by omega)=b1m st f.2.1[i] f.2.2.1[i]:=by grind
   have s:=c9N n k;have h:=c4M k d;rw[o]at h;simp only[a1Y,dlt hi,j,g,cT,a04,tN,a8G hi,d1t k d];rcases a6p f.2.2.1[i]with⟨m,a⟩|⟨m,a⟩|⟨m,a⟩;have c:f.2.2.1[i] > 0:=m;simp[b1m,a]at h;simp only[c,decide_true,cT,oB,j,g,a04,tN,a0A (show i<1000000 by omega)];exact congrArg (fun l=>some (Sum.inl (x1,st,(f.2.2.1.length:Int),((i+1:Nat):Int),(f.1,l,f.2.2),()))) h;have c:¬ f.2.2.1[i] > 0:=by omega
   have e:f.2.1[i]+-1*st=f.2.1[i]-st:=by omega
   simp only[b1m,a,e]at h;simp only[c,m,decide_true,decide_false,cT,cF,oB,j,g,a04,tN,a0A (show i<1000000 by omega)];exact congrArg (fun l=>some (Sum.inl (x1,st,(f.2.2.1.length:Int),((i+1:Nat):Int),(f.1,l,f.2.2),()))) h;have c:¬ f.2.2.1[i] > 0:=by omega
   have q:¬ f.2.2.1[i]<0:=by omega
   have e:W (f.2.1[i]+0*st)=f.2.1[i]:=by rw[a99,Int.add_zero];exact a0J (by omega)
   simp only[b1m,a,e]at h;simp only[c,q,decide_false,cF,oB,j,g,cT,a04,tN,a0A (show i<1000000 by omega)];exact congrArg (fun l=>some (Sum.inl (x1,st,(f.2.2.1.length:Int),((i+1:Nat):Int),(f.1,l,f.2.2),()))) h)
  (by
   simp_all[a38,a1Y])
 simp_all
theorem c6w{f:Fil}(k:FilOk f)(x g:Int):-256≤b0R f.1 x g∧b0R f.1 x g≤256:=by
 have hp:=b7W k.rate;unfold b0R;rcases a6p (x-g)with⟨-,h⟩|⟨-,h⟩|⟨-,h⟩<;>rw[h]<;>omega
theorem c3v{f:Fil}(h:FilOk f)(x:Int):a2I (f,x)=some (b1E f x):=by
 unfold a2I;have d:=c3u h x;simp only[a4x,oB,a9P h];have g:(bif decide (v0s (v0r x (-1073741824)) 1073741823 > a0U f)then bif decide (f.1<0)then(none:Option (Int×Int×Fil×Unit))else some (v0s (v0r x (-1073741824)) 1073741823,A0n .i64 (1:Int) f.1,f,())
   else bif decide (v0s (v0r x (-1073741824)) 1073741823<a0U f)then bif decide (f.1<0)then none else some (v0s (v0r x (-1073741824)) 1073741823,wrap .i64 (0-(A0n .i64 (1:Int) f.1)),f,())
   else some (v0s (v0r x (-1073741824)) 1073741823,(0:Int),f,()))=_:=d
 rw[g];simp only[oB,b9i h (c6w h _ _)];have i:f.2.2.1.length≥1:=by have:=h.pos;have:=h.len;omega
 have b:decide ((1:Int)≤((f.2.2.1.length:Nat):Int))=true:=by grind
 have e:p0h f.2.2.1 1 (f.2.2.1.length-1) f.2.2.1=f.2.2.1.take 1++f.2.2.1.take (f.2.2.1.length-1):=by
  simp_all[p0h]
 have j:(f.2.2.1.take 1++f.2.2.1.take (f.2.2.1.length-1)).length=f.2.2.1.length:=by simp_all
 have c:decide ((0:Int)<(((f.2.2.1.take 1++f.2.2.1.take (f.2.2.1.length-1)).length:Nat):Int))=true:=by grind
 simp only[b,cT,e,c];congr 1;have k:(f.2.2.1.take 1++f.2.2.1.take (f.2.2.1.length-1)).set 0 (a1g x)=a1g x::f.2.2.1.take (f.2.2.1.length-1):=by
  cases hc:f.2.2.1 with
  |nil=>simp_all
  |cons a l=>simp
 rw[k];rfl
theorem b6Z(x:Int):a9j x=some (a5o x):=by
 grind[a9j,a6p]
theorem c3w{f:Fil}(k:FilOk f){x1 s:Int}(v:-1≤s∧s≤1):
  y0s a2w (x1,s,(0:Int),([]:List Int),([]:List Int),f,())=some (x1,a23 (b1m (s*2^f.1.toNat)) f.2.1 f.2.2.1,([]:List Int),f,()):=by
 obtain⟨z,w⟩:∃z,a23 (b1m (s*2^f.1.toNat)) f.2.1 f.2.2.1=z:=⟨_,rfl⟩;have e:=k.len;have t:z.length=f.2.1.length:=by grind
 have u:=k.most;have q:=k.rate;have r:wrap .u64 f.1=f.1:=a0G (by omega);have a:¬ f.1<0:=by omega
 have:=a1t (f:=a2w) (fun i=>(x1,s,(i:Int),z.take i,([]:List Int),f,()))
  f.2.1.length (b:=(x1,z,([]:List Int),f,())) (fun i hi=>by
   have h:i<f.2.2.1.length:=by omega
   have o:decide ((0:Int)≤(i:Int))=true:=by simp
   have d:z[i]'(by omega)=b1m (s*2^f.1.toNat) f.2.1[i] f.2.2.1[i]:=by grind
   have c:-1≤s*a5o f.2.2.1[i]∧s*a5o f.2.2.1[i]≤1:=by
    rcases a6p f.2.2.1[i]with⟨-,g⟩|⟨-,g⟩|⟨-,g⟩<;>rw[g]<;>omega
   have j:wrap .i64 (s*a5o f.2.2.1[i])=s*a5o f.2.2.1[i]:=a0J (by omega);have l:=c2f q c;have m:v0s (v0r (wrap .i64 (f.2.1[i]+s*a5o f.2.2.1[i]*2^f.1.toNat)) (-1048576)) 1048576=z[i]'(by omega):=by
    rw[d,show s*a5o f.2.2.1[i]*2^f.1.toNat=a5o f.2.2.1[i]*(s*2^f.1.toNat)by grind];rfl
   have n:z.take i++[z[i]'(by omega)]=z.take (i+1):=by simp
   have p:(z.take i).length+1<1000000:=by grind
   simp only[a2w,dlt hi,dlt h,o,cT,a04,tN,a8G hi,a8G h,b6Z,oB,r,a,decide_false,cF,a0V p,j,l,m,a06,n,a0A (show i<1000000 by omega)])
  (by
   simp_all[a38,a2w])
 simp_all
theorem c4N(f:Fil):-1073741824≤a0U f∧a0U f≤1073741823:=b5r _
theorem c6x{f:Fil}(h:FilOk f)(x:Int):a5g (f,x)=some (b1E f x):=by
 unfold a5g;have m:=b5r x;have n:=c4N f;have b:wrap .i64 (a1g x-a0U f)=a1g x-a0U f:=a0J (by omega);have l:-1≤a5o (a1g x-a0U f)∧a5o (a1g x-a0U f)≤1:=by
  rcases a6p (a1g x-a0U f)with⟨-,g⟩|⟨-,g⟩|⟨-,g⟩<;>rw[g]<;>omega
 have d:a9i x=some (a1g x):=rfl;have o:=h.most;have k:=h.len;have a:=h.pos;have c:wrap .i64 (((f.2.2.1.length:Nat):Int)-1)=((f.2.2.1.length-1:Nat):Int):=by grind[a0J]
 have e:decide ((0:Int)≤((f.2.2.1.length-1:Nat):Int))=true:=by simp
 have i:decide (((f.2.2.1.length-1:Nat):Int)≤((f.2.2.1.length:Nat):Int))=true:=by simp
 have j:([a1g x]:List Int).length+(f.2.2.1.take (f.2.2.1.length-1)).length<1000000:=by grind
 simp only[d,oB,b1V h,b,b6Z,c3w h l,a16,a0V (show 0+1<1000000 by omega),cT,c,e,i,a04,tN,a33,a06,a08,a0V j];rfl
@[reducible] def Stg:Type:=Int×(Int×Unit)
theorem b7X(h:short l):a0Z l=some l:=by
 have g:lim (0+l.length)=true:=a0V (by unfold short at h;omega);simp_all[a0Z,x0e]
def a9u(s:Stg):Fil:=(s.2.1,a00 s.1.toNat 0,a00 s.1.toNat 0,())
theorem c6V{s:Stg}(h:stageB s=true):FilOk (a9u s):=by
 simp[stageB]at h;refine⟨by rfl,by simp[a9u];omega,by simp[a9u];omega,⟨h.2.2.1,h.2.2.2⟩,fun x g=>?_⟩;simp_all[a9u]
theorem c4O{s:Stg}(h:stageB s=true):a8a s=some (a9u s,0):=by
 have g:=h;simp[stageB]at g;unfold a8a;have f:decide ((0:Int)≤s.1)=true:=by grind
 have k:decide (s.1≤s.1)=true:=by simp
 have a:lim s.1.toNat=true:=a0V (by omega);simp only[a9O,h,oB,bT,cF,f,k,a,a04,cT];rfl
theorem b1W{s:Stg}(h:stageB s=true):a6F s=some (a9u s,0):=by
 have g:=h;simp[stageB]at g;unfold a6F;have f:decide ((0:Int)≤s.1)=true:=by grind
 have k:decide (s.1≤s.1)=true:=by simp
 have a:lim s.1.toNat=true:=a0V (by omega);simp only[a9s,h,oB,bT,cF,f,k,a,a04,cT];rfl
def stO:List Int→List Int→Fil→Option (List Int)
 | [],done,_=>some done
 |r::rs,done,f=>bif a0D (W (a0U f+r))then stO rs (done++[W (a0U f+r)]) (b1E f (W (a0U f+r)))else none
theorem b1F:∀(l done:List Int)(f:Fil){r},stO l done f=some r→r.length=done.length+l.length
 | [],done,f,r,h=>by simp_all[stO]
 |x::l,done,f,r,h=>by
  simp[stO]at h;cases hw:a0D (W (a0U f+x))with
  |true=>rw[hw]at h;rw[b1F l _ _ h];grind
  |false=>simp_all
theorem b5s{done:List Int}(g:done.length=i)(h:i<row.length):a50 (done++row.drop i) i 0=row[i]:=by
 grind
theorem c4P{done:List Int}(g:done.length=i)(h:i<row.length)(y:Int):(done++row.drop i).set i y=(done++[y])++row.drop (i+1):=by
 rw[a82 _ _ (by omega),g,a98,a02 h,a95,aA];rfl
theorem b2H{row b4:List Int}{b5:Int}(d:short row):∀(k i:Nat)(done:List Int)(f:Fil),i+k=row.length→done.length=i→FilOk f→
  ∃z,y0s a4y ((row.length:Int),(i:Int),b4,b5,done++row.drop i,f,())=some z∧
   match stO (row.drop i) done f with
   |some r=>z=.inl (b4,b5,r,())
   |none=>∃q,z=.inr (([]:List Int),(6:Int),q,())
 |0,i,done,f,h,hd,hf=>by
  obtain rfl:i=row.length:=by omega
  rw[a46,a77];exact⟨_,a0C (b:=Sum.inl (b4,b5,done,())) (by simp[a4y]),rfl⟩
 |k+1,i,done,f,h,hd,hf=>by
  have hi:i<row.length:=by omega
  have e:row.length<1000000:=d;have a:decide ((0:Int)≤(i:Int))=true:=by simp
  have j:(done++row.drop i).length=row.length:=by grind
  have c:decide ((i:Int)<(((done++row.drop i).length:Nat):Int))=true:=by simp_all
  have g:stO (row.drop i) done f=bif a0D (W (a0U f+row[i]))then stO (row.drop (i+1)) (done++[W (a0U f+row[i])]) (b1E f (W (a0U f+row[i])))else none:=by
   rw[a02 hi];rfl
  rw[g];cases hw:a0D (W (a0U f+row[i]))with
  |true=>
   rw[a0E (s':=((row.length:Int),((i+1:Nat):Int),b4,b5,(done++[W (a0U f+row[i])])++row.drop (i+1),b1E f (W (a0U f+row[i])),())) (by
    simp only[a4y,dlt hi,a,c,cT,a04,a9P hf,oB,tN,b5s hd hi,a8A,hw,bT,cF,c3v hf,c4P hd hi,a0A (show i<1000000 by omega)])]
   exact b2H d k (i+1) _ _ (by omega) (by simp_all) (c4L hf _)
  |false=>
   exact⟨_,a0C (b:=Sum.inr (([]:List Int),(6:Int),done++row.drop i,())) (by
    simp only[a4y,dlt hi,a,c,cT,a04,a9P hf,oB,tN,b5s hd hi,a8A,hw,a19]),_,rfl⟩
theorem b4l{row:List Int}{st:List Stg}{n:Int}(a:short row):∀(k i:Nat)(done:List Int)(f:Fil),i+k=row.length→done.length=i→FilOk f→
  y0s a3h (st,n,(i:Int),done++row.drop i,f,())=some (match stO (row.drop i) done f with
   |some r=>.inl (st,n,r,())
   |none=>.inr ((6:Int),([]:List Int),()))
 |0,i,done,f,h,hd,hf=>by
  obtain rfl:i=row.length:=by omega
  rw[a46,a77];have j:done.length=row.length:=hd;exact a0C (b:=Sum.inl (st,n,done,())) (by simp_all[a3h])
 |k+1,i,done,f,h,hd,hf=>by
  have hi:i<row.length:=by omega
  have l:row.length<1000000:=a;have c:decide ((0:Int)≤(i:Int))=true:=by simp
  have j:(done++row.drop i).length=row.length:=by grind
  have d:decide ((i:Int)<(((done++row.drop i).length:Nat):Int))=true:=by simp_all
  have g:stO (row.drop i) done f=bif a0D (W (a0U f+row[i]))then stO (row.drop (i+1)) (done++[W (a0U f+row[i])]) (b1E f (W (a0U f+row[i])))else none:=by
   rw[a02 hi];rfl
  have e:wrap .i64 (row[i]+a0U f)=W (a0U f+row[i]):=by grind
  rw[g];cases hw:a0D (W (a0U f+row[i]))with
  |true=>
   rw[a0E (s':=(st,n,((i+1:Nat):Int),(done++[W (a0U f+row[i])])++row.drop (i+1),b1E f (W (a0U f+row[i])),())) (by
    simp only[a3h,c,d,cT,a04,b1V hf,oB,tN,b5s hd hi,e,a1M,hw,bT,cF,c6x hf,c4P hd hi,a0A (show i<1000000 by omega)])]
   exact b4l a k (i+1) _ _ (by omega) (by simp_all) (c4L hf _)
  |false=>
   exact a0C (by
    simp_all[a3h,b1V,a1M])
def lO:List Stg→List Int→Option (List Int)
 | [],row=>some row
 |s::r,row=>match stO row [] (a9u s)with
  |some row'=>lO r row'
  |none=>none
theorem c6y{st:List Stg}{s:Stg}{k:Int}{b4:List Int}(h:stageB s=true)(b:short row):
  ∃z,a6v k s (st,b4,(0:Int),row,())=some z∧match stO row [] (a9u s)with
   |some r=>z=.inl (st,b4,(0:Int),r,())
   |none=>∃q,z=.inr (.ret,st,([]:List Int),(6:Int),q,()):=by
 obtain⟨z,g,f⟩:=b2H (b4:=b4) (b5:=0) b row.length 0 [] (a9u s) (by omega) rfl (c6V h);simp at g f;unfold a6v;have a:((0:Int) != 0)=false:=rfl;simp[c4O h,g];cases hst:stO row [] (a9u s)with
 |some r=>
  simp_all
 |none=>
  grind
theorem b7a{st l:List Stg}{b4:List Int}(f:∀s∈l,stageB s=true):∀(n:Nat)(row:List Int),n≤l.length→short row→
  ∃z,l0f a6v l n (st,b4,(0:Int),row,())=some z∧match lO (l.take n).reverse row with
   |some r=>z=.inl (st,b4,(0:Int),r,())
   |none=>∃q,z=.inr (.ret,st,([]:List Int),(6:Int),q,())
 |0,row,_,_=>⟨_,rfl,rfl⟩
 |n+1,row,hn,hs=>by
  have h:n<l.length:=by omega
  obtain⟨z,a,g⟩:=c6y (st:=st) (k:=(n:Int)) (b4:=b4) (f _ (a05 h)) hs;have b:(l.take (n+1)).reverse=l[n]::(l.take n).reverse:=by simp
  simp[l0f,lG h,a,b,lO];cases hst:stO row [] (a9u l[n])with
  |some r=>
   rw[hst]at g;simp at g;subst g;exact b7a f n r (by omega) (by have:=b1F _ _ _ hst;unfold short at hs⊢;simp_all)
  |none=>
   grind
def b0W(rest:List Int)(st:List Stg):Option (List Int):=bif rest.all a0D then lO st.reverse rest else none
theorem c3x{rest:List Int}{st:List Stg}(a:a8j st=true)(c:rest.length<100000):a8X (rest,st)=some (a4a (b0W rest st)):=by
 have f:=a;simp only[a8j,bA,dT]at f;have k:short st:=by unfold short;omega
 have h:short rest:=by unfold short;omega
 unfold a8X;simp only[b5l k,a,oB,bT,cF,b7S h,b0W];cases hw:rest.all a0D with
 |false=>rfl
 |true=>
  obtain⟨z,b,g⟩:=b7a (st:=st) (b4:=[]) (lA.1 f.2) st.length rest (a40 _) h;rw[a24]at g;simp[b7X h,a0V k,b];cases hst:lO st.reverse rest with
  |some r=>
   rw[hst]at g;simp at g;subst g;rfl
  |none=>
   rw[hst]at g;obtain⟨q,rfl⟩:=g;rfl
theorem b9j{l:List Stg}(a:∀s∈l,stageB s=true)(g:l.length≤3):∀(n:Nat)(row:List Int),n≤l.length→short row→
  y0s a4I (l,(n:Int)-1,row,())=some (match lO (l.take n).reverse row with
   |some r=>.inl (r,())
   |none=>.inr ((6:Int),([]:List Int),()))
 |0,row,_,_=>a0C (by rfl)
 |n+1,row,hn,hs=>by
  have f:n<l.length:=by omega
  have h:=a _ (a05 f);have k:=b4l (st:=l) (n:=(n:Int)) hs row.length 0 [] (a9u l[n]) (by omega) rfl (c6V h);simp at k;have c:(l.take (n+1)).reverse=l[n]::(l.take n).reverse:=by simp
  have b:((n+1:Nat):Int)-1=(n:Int):=by omega
  have e:decide ((n:Int)≥0)=true:=by simp
  have d:wrap .i64 ((n:Int)-1)=(n:Int)-1:=a0J (by omega);rw[c,b];simp[lO];cases hst:stO row [] (a9u l[n])with
  |some r=>
   rw[hst]at k;rw[a0E (s':=(l,(n:Int)-1,r,())) (by simp_all[a4I,a0B,b1W])];exact b9j a g n r (by omega) (by have:=b1F _ _ _ hst;unfold short at hs⊢;simp_all)
  |none=>
   simp_all[a0C,a4I,a0B,b1W]
theorem b7Y{rest:List Int}{st:List Stg}(a:a8j st=true)(c:rest.length<100000):a6G (rest,st)=some (a4a (b0W rest st)):=by
 have h:=a;simp only[a8j,bA,dT]at h;have f:short st:=by unfold short;omega
 have g:short rest:=by unfold short;omega
 unfold a6G;simp only[b2F f,a,oB,bT,cF,a1m g,b0W];cases hw:rest.all a0D with
 |false=>rfl
 |true=>
  have k:=b9j (lA.1 h.2) h.1 st.length rest (a40 _) g;rw[a24]at k;have b:wrap .i64 (((st.length:Nat):Int)-1)=((st.length:Nat):Int)-1:=a0J (by omega);simp only[bT,cF,cT,a0V (show 0+rest.length<1000000 by omega),b,a06,a08,k,oB];cases lO st.reverse rest<;>rfl
def a7V(n warm:Int):Bool:=decide (1≤n)&&(decide (n≤4096)&&(decide (0≤warm)&&decide (warm≤n)))
theorem b5t(n warm:Int):a6l (n,warm)=some (a7V n warm):=by
 grind[a6l,a7V]
theorem c8L(n warm:Int):b3N (n,warm)=some (a7V n warm):=by
 grind[b3N,a7V]
theorem d1u(h:o≤8):1≤2^o∧2^o≤256:=by
 have:o=0∨o=1∨o=2∨o=3∨o=4∨o=5∨o=6∨o=7∨o=8:=by omega
 grind
theorem b3S(h:o≤64):A0o .i64 (N:Int) (o:Int)=((N / 2^o:Nat):Int):=by
 unfold A0o;show Int.fdiv (N:Int) (2^(min (o:Int).toNat 64))=_
 grind
theorem b7Z(h:o≤64)(g:N*2^o<9223372036854775808):A0n .i64 (N:Int) (o:Int)=((N*2^o:Nat):Int):=by
 unfold A0n;show wrap .i64 ((N:Int)*2^(min (o:Int).toNat 64))=_
 grind[a0J]
def b0X(o N:Nat)(warm:Int):List Int:=
 if N%2^o=0∧warm≤((N / 2^o:Nat):Int)then(((N / 2^o:Nat):Int)-warm)::a00 (2^o-1) ((N / 2^o:Nat):Int)else[]
def a1I(order n warm:Int):List Int:=bif a7V n warm&&(decide (0≤order)&&decide (order≤8))then b0X order.toNat n.toNat warm else[]
theorem a9Q(h n warm:Int):a2E (h,n,warm)=some (a1I h n warm):=by
 unfold a2E a1I;simp only[b5t,oB];cases hr:a7V n warm with
 |false=>rfl
 |true=>
  simp[a7V]at hr;simp only[bT,cF,a22]
  by_cases h1:h<0
  grind
  by_cases h2:h > 8
  grind
  obtain⟨o,rfl⟩:=a01 (show 0≤h by omega);obtain⟨N,rfl⟩:=a01 (show 0≤n by omega);have q:o≤8:=by omega
  have r:N≤4096:=by omega
  have hp:=d1u q;have p:N / 2^o*2^o≤N:=Nat.div_mul_le_self N _;have m:(0:Int)≤(o:Int):=by omega
  have g8:(o:Int)≤8:=by omega
  simp only[h1,h2,m,g8,decide_true,decide_false,cF,cT,a04,oB,b3S (N:=N) (show o≤64 by omega),b7Z (N:=N / 2^o) (show o≤64 by omega) (by omega),tN];have k:=a78 N (2^o);rw[a43]at k
  by_cases hm:N%2^o=0
  have a:(((N / 2^o*2^o:Nat):Int) != (N:Int))=false:=by simp_all
  by_cases hw:warm≤((N / 2^o:Nat):Int)
  have d:decide (((N / 2^o:Nat):Int)<warm)=false:=decide_eq_false (Int.not_lt.2 hw);have j:wrap .i64 (((N / 2^o:Nat):Int)-warm)=((N / 2^o:Nat):Int)-warm:=a0J (by have:=a28 N (2^o);omega);simp only[a,d,j,cF,oB,b0X,hm,hw,and_self,if_true];have e:A0n .i64 (1:Int) (o:Int)=((2^o:Nat):Int):=by have:=b7Z (N:=1) (show o≤64 by omega) (by omega);simp_all
  have:=a1t (f:=a5B) (fun i=>((o:Int),((N / 2^o:Nat):Int),(((N / 2^o:Nat):Int)-warm)::a00 i ((N / 2^o:Nat):Int),())) (2^o-1)
   (b:=((((N / 2^o:Nat):Int)-warm)::a00 (2^o-1) ((N / 2^o:Nat):Int),())) (fun i hi=>by
    have c:decide ((((((N / 2^o:Nat):Int)-warm)::a00 i ((N / 2^o:Nat):Int)).length:Int)<((2^o:Nat):Int))=true:=by
     grind
    have g:lim (((((N / 2^o:Nat):Int)-warm)::a00 i ((N / 2^o:Nat):Int)).length+1)=true:=a0V (by grind);have l:a00 i ((N / 2^o:Nat):Int)++[((N / 2^o:Nat):Int)]=a00 (i+1) ((N / 2^o:Nat):Int):=by grind[a29]
    simp only[a5B,h1,decide_false,cF,e,c,cT,g,a06,a70,l])
   (by
    have c:decide ((((((N / 2^o:Nat):Int)-warm)::a00 (2^o-1) ((N / 2^o:Nat):Int)).length:Int)<((2^o:Nat):Int))=false:=by
     simp_all
    simp only[a5B,h1,decide_false,cF,e,c])
  simp_all;have d:decide (((N / 2^o:Nat):Int)<warm)=true:=decide_eq_true (Int.not_le.1 hw);simp_all[b0X];have a:(((N / 2^o*2^o:Nat):Int) != (N:Int))=true:=by grind
  simp only[a,cT,oB,b0X,hm,false_and,if_false]
theorem a7W(h n warm:Int):a3n (h,n,warm)=some (a1I h n warm):=by
 unfold a3n a1I;simp only[c8L,oB];cases hr:a7V n warm with
 |false=>rfl
 |true=>
  simp[a7V]at hr;simp only[bT,cF,a22]
  by_cases h1:h<0
  grind
  by_cases h2:h > 8
  grind
  obtain⟨o,rfl⟩:=a01 (show 0≤h by omega);obtain⟨N,rfl⟩:=a01 (show 0≤n by omega);have m:o≤8:=by omega
  have t:N≤4096:=by omega
  have hp:=d1u m;have l:(0:Int)≤(o:Int):=by omega
  have g8:(o:Int)≤8:=by omega
  have d:wrap .u64 (o:Int)=(o:Int):=a0G (by omega);have c:A0n .i64 (1:Int) (o:Int)=((2^o:Nat):Int):=by have:=b7Z (N:=1) (show o≤64 by omega) (by omega);simp_all
  have r:(((2^o:Nat):Int)==0)=false:=by grind
  have p:a51 (N:Int) ((2^o:Nat):Int)=((N%2^o:Nat):Int):=by rfl
  simp only[h1,h2,l,g8,decide_true,decide_false,cF,cT,a04,d,c,r,p,b3S (N:=N) (show o≤64 by omega),tN]
  by_cases hm:N%2^o=0
  have k:(((0:Nat):Int) != 0)=false:=rfl
  by_cases hw:warm≤((N / 2^o:Nat):Int)
  have e:decide (((N / 2^o:Nat):Int)<warm)=false:=decide_eq_false (Int.not_lt.2 hw);have s:wrap .i64 (((N / 2^o:Nat):Int)-warm)=((N / 2^o:Nat):Int)-warm:=a0J (by have:=a28 N (2^o);omega);simp only[k,e,cF,oB,b0X,hm,hw,and_self,if_true]
  have:=a1t (f:=a4G) (fun i=>((o:Int),(N:Int),warm,(i:Int),a00 i ((N / 2^o:Nat):Int),())) (2^o)
   (b:=(warm,a00 (2^o) ((N / 2^o:Nat):Int),())) (fun i hi=>by
    have a:decide ((i:Int)<((2^o:Nat):Int))=true:=by grind
    have g:lim ((a00 i ((N / 2^o:Nat):Int)).length+1)=true:=a0V (by grind);have j:a00 i ((N / 2^o:Nat):Int)++[((N / 2^o:Nat):Int)]=a00 (i+1) ((N / 2^o:Nat):Int):=by grind[a29]
    simp only[a4G,d,h1,decide_false,cF,c,a,cT,g,b3S (N:=N) (show o≤64 by omega),a06,j,a0A (show i<1000000 by omega)])
   (by
    have a:decide (((2^o:Nat):Int)<((2^o:Nat):Int))=false:=by simp
    simp only[a4G,d,h1,decide_false,cF,c,a])
  simp only[nZ,List.replicate_zero]at this;have u:decide ((0:Int)<(((a00 (2^o) ((N / 2^o:Nat):Int)).length:Nat):Int))=true:=by grind
  obtain⟨q,v⟩:∃q,2^o=q+1:=⟨2^o-1,by omega⟩
  grind
  have e:decide (((N / 2^o:Nat):Int)<warm)=true:=decide_eq_true (Int.not_le.1 hw);simp_all[b0X];have k:(((N%2^o:Nat):Int) != 0)=true:=by grind
  simp only[k,cT,oB,b0X,hm,false_and,if_false]
@[reducible] def Prt:Type:=Int×((List Int)×Unit)
variable {p:Prt}
def kB(k:Int):Bool:=(decide (0≤k)&&decide (k≤25)) || (k==31)
def a7a(p:Prt)(n warm:Int):Bool:=!((a1I p.1 n warm).length==0)&&((a1I p.1 n warm).length==p.2.1.length&&p.2.1.all kB)
theorem b1X(g:short p.2.1):a7Z (p,n,warm)=some (a7a p n warm):=by
 have:=a0X (f:=a3J) p.2.1 (fun i=>(p.2.1,(p.2.1.length:Int),(i:Int),())) kB (bt:=Sum.inl ()) (bf:=Sum.inr (false,()))
  (fun i h hp=>by
   simp[kB]at hp
   by_cases h1:p.2.1[i]<0
   omega
   by_cases h2:p.2.1[i] > 25
   have b:p.2.1[i]=31:=by omega
   have a:(p.2.1[i] != 31)=false:=by simp_all
   simp[a3J,a0B h,h,h1,h2,a,a0A (a07 h g)];simp[a3J,a0B h,h,h1,h2,a0A (a07 h g)])
  (fun i h hp=>by
   have hp:¬ (kB p.2.1[i]=true):=by simp_all
   simp only[kB,b04,bA,dT,beq_iff_eq]at hp
   grind[a3J,a0B])
  (by simp[a3J])
 simp at this;unfold a7Z a7a;simp[a9Q]
 by_cases h0:(a1I p.1 n warm).length=0
 simp_all
 ·have e:((((a1I p.1 n warm).length:Nat):Int)==0)=false:=by simp_all
  have k:((a1I p.1 n warm).length==0)=false:=by simp_all
  simp[e,k]
  by_cases h1:(a1I p.1 n warm).length=p.2.1.length
  all_goals grind
theorem a9v(a:short p.2.1):a4u (p,n,warm)=some (a7a p n warm):=by
 have g:∀k:Int,a2i k=some (decide (0≤k)&&decide (k≤25)):=fun k=>by
  grind[a2i]
 have:=a0X (f:=a2P) p.2.1 (fun i=>((i:Int),p,())) kB (bt:=Sum.inl ()) (bf:=Sum.inr (false,()))
  (fun i h hp=>by
   simp only[kB,b04]at hp;cases hc:(decide (0≤p.2.1[i])&&decide (p.2.1[i]≤25))with
   |true=>simp[a2P,a0B h,h,g,hc,a0A (a07 h a)]
   |false=>
    have d:p.2.1[i]=31:=by simp_all
    have c:(p.2.1[i] != 31)=false:=by simp_all
    simp[a2P,a0B h,h,g,hc,c,a0A (a07 h a)])
  (fun i h hp=>by
   grind[kB,a2P,a0B])
  (by simp[a2P])
 simp at this;unfold a4u a7a;simp[a7W]
 by_cases h0:(a1I p.1 n warm).length=0
 simp_all
 ·have e:((((a1I p.1 n warm).length:Nat):Int)==0)=false:=by simp_all
  have b:((a1I p.1 n warm).length==0)=false:=by simp_all
  simp[e,b]
  by_cases h1:(a1I p.1 n warm).length=p.2.1.length
  all_goals grind
@[reducible] def Sub:Type:=Int×(Int×(Int×(Int×(Int×((List Int)×((List Int)×((List Stg)×((List Int)×(Prt×((List Int)×Unit))))))))))
variable {s:Sub}
structure SmallS (s:Sub):Prop where
 coefs:s.2.2.2.2.2.1.length≤40
 taps:s.2.2.2.2.2.2.1.length=3
 stages:s.2.2.2.2.2.2.2.1.length≤6
 warm:s.2.2.2.2.2.2.2.2.1.length≤5000
 rest:s.2.2.2.2.2.2.2.2.2.2.1.length≤5000
 ks:s.2.2.2.2.2.2.2.2.2.1.2.1.length≤300
theorem a9R(x y:List Int):eqT (.arr 3 (.int .i64)) x y=decide (x=y):=by
 show((a23 (fun(a b:Int)=>a==b) x y).all id&&x.length==y.length)=_
 induction x generalizing y with
 |nil=>cases y<;>simp
 |cons a x ih=>
  cases y with
  |nil=>simp
  |cons b y=>
   grind[List.zipWith_cons_cons]
theorem b9k{l:List Int}(h:short l):a2b l=some l:=b7X h
theorem c6z{l:List Stg}(h:short l):a1h l=some l:=by
 have g:lim (0+l.length)=true:=a0V (by unfold short at h;omega);simp_all[a1h,x0e]
def a8H(k:Int)(s:Sub)(n:Int):Prop:=
 k=0∨k=1∨(k=2∧0≤s.2.2.1∧s.2.2.1≤4∧s.2.2.1≤n)∨(k=3∧a7T s.2.2.2.2.2.1 s.2.2.2.1=true∧(s.2.2.2.2.2.1.length:Int)≤n)∨
  (k=4∧a7T s.2.2.2.2.2.1 s.2.2.2.1=true∧(s.2.2.2.2.2.1.length:Int)≤n∧b0Q s.2.2.2.2.1 s.2.2.2.2.2.2.1=true)∨
  (k=5∧0<s.2.2.2.2.2.2.2.1.length∧a8j s.2.2.2.2.2.2.2.1=true)
open Classical in
def c1F (k:Int) (s:Sub) (n:Int):Bool:=decide (a8H k s n)
theorem c4Q{s:Sub}(h:SmallS s)(k n:Int):a8L (k,s,n)=some (c1F k s n):=by
 have a:short s.2.2.2.2.2.1:=by have:=h.coefs;unfold short;omega
 have b:short s.2.2.2.2.2.2.2.1:=by have:=h.stages;unfold short;omega
 unfold a8L c1F a8H
 by_cases k0:k=0
 simp_all
 by_cases k1:k=1
 simp_all;have g:(k==0)=false:=by grind
 have f:(k==1)=false:=by grind
 simp only[g,f,cF,oB]
 by_cases k2:k=2
 subst k2
 grind
 by_cases k3:k=3
 subst k3
 grind[b1k]
 by_cases k4:k=4
 subst k4;cases hl:a7T s.2.2.2.2.2.1 s.2.2.2.1<;>by_cases h2:(s.2.2.2.2.2.1.length:Int)≤n<;>simp[b1k a,b6X h.taps,hl,h2]
 by_cases k5:k=5
 ·subst k5
  by_cases h1:0<s.2.2.2.2.2.2.2.1.length
  all_goals simp_all[b5l]
 grind
def a0Y(s:Sub)(n:Int):Int:=if s.1=0 then 1 else if s.1=1 then n else if s.1=2 then s.2.2.1 else if s.1=3∨s.1=4 then(s.2.2.2.2.2.1.length:Int)else 0
theorem c9O(s:Sub)(n:Int):a5r (s,n)=some (a0Y s n):=by
 grind[a5r,a0Y]
def b3s(s:Sub):Prop:=
 (s.1≠2→s.2.2.1=0)∧(s.1≠3∧s.1≠4→s.2.2.2.1=0)∧(s.1≠4→s.2.2.2.2.1=0)∧(s.1≠4→s.2.2.2.2.2.2.1=[0,0,0])∧(s.1≠3∧s.1≠4→s.2.2.2.2.2.1=[])∧(s.1≠5→s.2.2.2.2.2.2.2.1=[])
open Classical in
def b3t (s:Sub):Bool:=decide (b3s s)
theorem a8I{c x:Bool}:(bif c then some x else some false)=some (c&&x):=by grind
theorem d4E(l:List α):(((l.length:Nat):Int)==0)=decide (l=[]):=by
 cases l with
 |nil=>rfl
 |cons a l=>rfl
theorem c1G(x:Int):(x==0)=decide (x=0):=rfl
theorem c4R{s:Sub}(h:SmallS s):a9Z s=some (b3t s):=by
 have e:short s.2.2.2.2.2.1:=by have:=h.coefs;unfold short;omega
 have g:short s.2.2.2.2.2.2.2.1:=by have:=h.stages;unfold short;omega
 obtain⟨k,w,o,sh,lag,c,t,st,j,p,r,u⟩:=s;simp only at e g;unfold a9Z a8T b3t b3s;have i:(a00 3 (0:Int))=[0,0,0]:=rfl
 by_cases k2:k=2
 simp_all[a9R,a8I,c1G]
 by_cases k4:k=4
 simp_all[a9R,a8I,c1G,b9k]
 by_cases k3:k=3
 simp_all[a9R,a8I,c1G,b9k]
 by_cases k5:k=5
 simp_all[a9R,a8I,c1G,c6z];have f:(k==2)=false:=by grind
 have a:(k==3)=false:=by grind
 have b:(k==4)=false:=by grind
 have d:(k==5)=false:=by grind
 simp[f,a,b,d,k2,k3,k4,k5,a9R,i,a8I,d4E,c1G]
theorem a7b(k:Int):a5p k=some (decide (k≠0∧k≠1)):=by
 unfold a5p
 by_cases h0:k=0
 simp_all
 ·by_cases h1:k=1
  all_goals grind
def a1s(s:Sub)(n:Int):Prop:=
 1≤n∧n≤4096∧a8H s.1 s n∧b3s s∧0≤s.2.1∧s.2.1≤30∧(s.1=0→s.2.1=0)∧(s.2.2.2.2.2.2.2.2.1.length:Int)=a0Y s n∧s.2.2.2.2.2.2.2.2.1.all a0D=true∧s.2.2.2.2.2.2.2.2.2.2.1.all a0D=true∧
  (s.1=0∨s.1=1→s.2.2.2.2.2.2.2.2.2.2.1=[]∧s.2.2.2.2.2.2.2.2.2.1.1=0∧s.2.2.2.2.2.2.2.2.2.1.2.1=[])∧
  (s.1≠0∧s.1≠1→(s.2.2.2.2.2.2.2.2.2.2.1.length:Int)=n-a0Y s n∧a7a s.2.2.2.2.2.2.2.2.2.1 n (a0Y s n)=true)
theorem b7b(h:SmallS s)(a:1≤n)(b:n≤4096)(f:a8H s.1 s n):0≤a0Y s n∧a0Y s n≤4096:=by
 have c:=h.coefs;unfold a0Y;rcases f with k|k|⟨k,g⟩|⟨k,g⟩|⟨k,g⟩|⟨k,g⟩<;>simp[k]<;>omega
open Classical in
theorem c9P {s:Sub} (h:SmallS s) (n:Int):a8U (s,n)=some (decide (a1s s n)):=by
 have hw:short s.2.2.2.2.2.2.2.2.1:=by have:=h.warm;unfold short;omega
 have hr:short s.2.2.2.2.2.2.2.2.2.2.1:=by have:=h.rest;unfold short;omega
 have hk:short s.2.2.2.2.2.2.2.2.2.1.2.1:=by have:=h.ks;unfold short;omega
 unfold a8U
 by_cases h1:1≤n
 rotate_left
 ·have e1:decide (n<1)=true:=by simp_all
  have:¬ a1s s n:=fun hp=>h1 hp.1
  simp_all
 have e1:decide (n<1)=false:=by simp_all
 by_cases h2:n≤4096
 rotate_left
 ·have e2:decide (n > 4096)=true:=by simp_all
  have:¬ a1s s n:=fun hp=>h2 hp.2.1
  simp_all
 have e2:decide (n > 4096)=false:=by simp_all
 by_cases h3:a8H s.1 s n
 rotate_left
 ·have e3:c1F s.1 s n=false:=by simp[c1F,h3]
  have:¬ a1s s n:=fun hp=>h3 hp.2.2.1
  simp_all[c4Q]
 have e3:c1F s.1 s n=true:=by simp[c1F,h3]
 by_cases h4:b3s s
 rotate_left
 ·have e4:b3t s=false:=by simp[b3t,h4]
  have:¬ a1s s n:=fun hp=>h4 hp.2.2.2.1
  simp_all[c4Q,c4R]
 have e4:b3t s=true:=by simp[b3t,h4]
 simp only[e1,e2,c4Q h,e3,c4R h,e4,cF,bT,oB]
 by_cases h5:0≤s.2.1
 rotate_left
 ·have e5:decide (s.2.1<0)=true:=by simp_all
  have:¬ a1s s n:=fun hp=>h5 hp.2.2.2.2.1
  simp_all
 have e5:decide (s.2.1<0)=false:=by simp_all
 by_cases h6:s.2.1≤30
 rotate_left
 ·have e6:decide (s.2.1 > 30)=true:=by simp_all
  have:¬ a1s s n:=fun hp=>h6 hp.2.2.2.2.2.1
  simp_all
 have e6:decide (s.2.1 > 30)=false:=by simp_all
 simp only[e5,e6,cF]
 by_cases h7:s.1=0→s.2.1=0
 rotate_left
 ·have h7a:s.1=0:=Classical.byContradiction fun hc=>h7 fun e=>absurd e hc
  have h7b:(s.2.1 != 0)=true:=by
   simp_all
  have e7:(s.1==0)=true:=by simp_all
  have:¬ a1s s n:=fun hp=>h7 hp.2.2.2.2.2.2.1
  grind
 have e7:(bif s.1==0 then some (n,(s.2.1 != 0,(s,())))else some (n,(false,(s,()))))=some (n,(false,(s,()))):=by
  grind
 simp only[e7,oB,cF,c9O]
 by_cases h8:(s.2.2.2.2.2.2.2.2.1.length:Int)=a0Y s n
 rotate_left
 ·have e8:(((s.2.2.2.2.2.2.2.2.1.length:Nat):Int) != a0Y s n)=true:=by simp_all
  have:¬ a1s s n:=fun hp=>h8 hp.2.2.2.2.2.2.2.1
  grind
 have e8:(((s.2.2.2.2.2.2.2.2.1.length:Nat):Int) != a0Y s n)=false:=by simp_all
 simp only[e8,cF,a7H hw,a7H hr,oB]
 cases h9:s.2.2.2.2.2.2.2.2.1.all a0D with
 |false=>
  have:¬ a1s s n:=fun hp=>by rw[hp.2.2.2.2.2.2.2.2.1]at h9;grind
  simp_all
 |true=>
  cases h10:s.2.2.2.2.2.2.2.2.2.2.1.all a0D with
  |false=>
   have:¬ a1s s n:=fun hp=>by rw[hp.2.2.2.2.2.2.2.2.2.1]at h10;grind
   simp_all
  |true=>
   simp only[bT,cF,oB,a7b]
   have hwr:=b7b h h1 h2 h3
   by_cases k01:s.1≠0∧s.1≠1
   ·have e11:wrap .i64 (n-a0Y s n)=n-a0Y s n:=a0J (by omega)
    simp[k01,e11,b1X hk]
    by_cases h11:(s.2.2.2.2.2.2.2.2.2.2.1.length:Int)=n-a0Y s n
    ·have e12:(((s.2.2.2.2.2.2.2.2.2.2.1.length:Nat):Int)==n-a0Y s n)=true:=by simp_all
     simp only[e12,cT]
     congr 1
     rw[b05,dT]
     constructor
     ·intro hp
      exact⟨h1,h2,h3,h4,h5,h6,h7,h8,h9,h10,fun hc=>absurd hc (by omega),fun _=>⟨h11,hp⟩⟩
     ·intro hp;exact(hp.2.2.2.2.2.2.2.2.2.2.2 k01).2
    ·have e12:(((s.2.2.2.2.2.2.2.2.2.2.1.length:Nat):Int)==n-a0Y s n)=false:=by simp_all
     have:¬ a1s s n:=fun hp=>h11 (hp.2.2.2.2.2.2.2.2.2.2.2 k01).1
     grind
   ·have k01':s.1=0∨s.1=1:=by omega
    simp[k01,d4E]
    simp only[c1G,a8I]
    congr 1
    rw[b05,dT]
    simp
    constructor
    ·rintro⟨g1,g2,g3⟩
     exact⟨h1,h2,h3,h4,h5,h6,h7,h8,h9,h10,fun _=>⟨g1,g2,g3⟩,fun hc=>absurd hc k01⟩
    ·intro hp;exact hp.2.2.2.2.2.2.2.2.2.2.1 k01'
theorem b3T{α:Type}[DecidableEq α](q:α→α→Bool)(g:∀a b,q a b=decide (a=b)):∀(x y:List α),x.length=y.length→((x.zip y).all fun p=>q p.1 p.2)=decide (x=y)
 | [],[],_=>by simp
 |a::x,b::y,h=>by
  have f:=b3T q g x y (by simp_all);simp_all
theorem a8k{x y:List Int}(h:short x):a1L (x,y)=some (decide (x=y)):=by
 unfold a1L
 by_cases hl:x.length=y.length
 have e:(((x.length:Nat):Int) != ((y.length:Nat):Int))=false:=by simp_all
 have j:(x.zip y).length=x.length:=by simp_all
 have:=a0X (f:=a3V) (x.zip y) (fun i=>(x,y,(i:Int),())) (fun p=>p.1==p.2) (bt:=Sum.inl ()) (bf:=Sum.inr (false,()))
  (fun i hi hp=>by
   have k:i<x.length:=by omega
   have c:i<y.length:=by omega
   rw[a57]at hp;have hp:x[i]=y[i]:=by simp_all
   have g:(x[i] != y[i])=false:=by simp_all
   simp only[a3V,dlt k,cT,a0B k,a0B c,oB,g,cF,a0A (a07 k h)])
  (fun i hi hp=>by
   have k:i<x.length:=by omega
   have c:i<y.length:=by omega
   rw[a57]at hp;have g:(x[i] != y[i])=true:=by simp_all
   simp only[a3V,dlt k,cT,a0B k,a0B c,oB,g])
  (by simp_all[a3V])
 simp at this;simp only[e,cF,this,b3T (fun(a b:Int)=>a==b) (fun _ _=>rfl) x y hl]
 grind
 have e:(((x.length:Nat):Int) != ((y.length:Nat):Int))=true:=by grind
 have:¬ x=y:=fun d=>hl (by grind)
 grind
theorem c3y{x y:List Stg}(h:short x):a5I (x,y)=some (decide (x=y)):=by
 have k:∀a b:Stg,eqT (.pair (.int .i64) (.pair (.int .i64) .unit)) a b=decide (a=b):=by
  rintro⟨a1,a2,⟨⟩⟩ ⟨b1,b2,⟨⟩⟩
  show((a1==b1)&&((a2==b2)&&true))=_
  grind
 unfold a5I
 by_cases hl:x.length=y.length
 have e:(((x.length:Nat):Int) != ((y.length:Nat):Int))=false:=by simp_all
 have j:(x.zip y).length=x.length:=by simp_all
 have:=a0X (f:=a2J) (x.zip y) (fun i=>(x,y,(i:Int),())) (fun p=>decide (p.1=p.2)) (bt:=Sum.inl ()) (bf:=Sum.inr (false,()))
  (fun i hi hp=>by
   have g:i<x.length:=by omega
   have c:i<y.length:=by omega
   rw[a57]at hp;simp only[a2J,dlt g,cT,a0B g,a0B c,oB,k,hp,bT,cF,a0A (a07 g h)])
  (fun i hi hp=>by
   have g:i<x.length:=by omega
   have c:i<y.length:=by omega
   rw[a57]at hp;simp only[a2J,dlt g,cT,a0B g,a0B c,oB,k,hp,a19])
  (by simp_all[a2J])
 simp at this;simp only[e,cF,this,b3T (fun(a b:Stg)=>decide (a=b)) (fun _ _=>rfl) x y hl]
 grind
 have e:(((x.length:Nat):Int) != ((y.length:Nat):Int))=true:=by grind
 have:¬ x=y:=fun d=>hl (by grind)
 grind
open Classical in
theorem b9l {a b:Sub} (h:SmallS a):a6e (a,b)=some (decide (a=b)):=by
 have hc:short a.2.2.2.2.2.1:=by have:=h.coefs;unfold short;omega
 have hst:short a.2.2.2.2.2.2.2.1:=by have:=h.stages;unfold short;omega
 have hw:short a.2.2.2.2.2.2.2.2.1:=by have:=h.warm;unfold short;omega
 have hr:short a.2.2.2.2.2.2.2.2.2.2.1:=by have:=h.rest;unfold short;omega
 have hk:short a.2.2.2.2.2.2.2.2.2.1.2.1:=by have:=h.ks;unfold short;omega
 unfold a6e a9L
 simp only[a8k hc,a8k hw,a8k hr,a8k hk,c3y hst,a9R,oB,a8I]
 congr 1
 grind
def b1Y(s:Sub):Sub:=
 let z:List Int:=a00 3 0
 if s.1=0 then(0,0,0,0,0,[],z,[],s.2.2.2.2.2.2.2.2.1,(0,[],()),[],())
 else if s.1=1 then(1,s.2.1,0,0,0,[],z,[],s.2.2.2.2.2.2.2.2.1,(0,[],()),[],())
 else if s.1=2 then(2,s.2.1,s.2.2.1,0,0,[],z,[],s.2.2.2.2.2.2.2.2.1,s.2.2.2.2.2.2.2.2.2.1,s.2.2.2.2.2.2.2.2.2.2.1,())
 else if s.1=3 then(3,s.2.1,0,s.2.2.2.1,0,s.2.2.2.2.2.1,z,[],s.2.2.2.2.2.2.2.2.1,s.2.2.2.2.2.2.2.2.2.1,s.2.2.2.2.2.2.2.2.2.2.1,())
 else if s.1=4 then(4,s.2.1,0,s.2.2.2.1,s.2.2.2.2.1,s.2.2.2.2.2.1,s.2.2.2.2.2.2.1,[],s.2.2.2.2.2.2.2.2.1,s.2.2.2.2.2.2.2.2.2.1,s.2.2.2.2.2.2.2.2.2.2.1,())
 else if s.1=5 then(5,s.2.1,0,0,0,[],z,s.2.2.2.2.2.2.2.1,[],s.2.2.2.2.2.2.2.2.2.1,s.2.2.2.2.2.2.2.2.2.2.1,())
 else(s.1,s.2.1,0,0,0,[],z,[],s.2.2.2.2.2.2.2.2.1,s.2.2.2.2.2.2.2.2.2.1,s.2.2.2.2.2.2.2.2.2.2.1,())
theorem d1v(s:Sub):b0L s=some (b1Y s):=by
 obtain⟨k,w,o,sh,lag,c,t,st,h,p,r,u⟩:=s;unfold b0L b1Y
 grind
open Classical in
def b3u (s:Sub) (n:Int):Int:=if a8H s.1 s n then a0Y s n else -1
theorem d1w(h:SmallS s)(n:Int):b0K (s,n)=some (b3u s n):=by
 have f:short s.2.2.2.2.2.1:=by have:=h.coefs;unfold short;omega
 have g:short s.2.2.2.2.2.2.2.1:=by have:=h.stages;unfold short;omega
 have a:=h.taps;obtain⟨k,w,o,sh,lag,c,t,st,b,p,r,u⟩:=s;simp only at f g a;unfold b0K b3u a0Y a8H
 by_cases k0:k=0
 simp_all
 by_cases k1:k=1
 simp_all
 by_cases k2:k=2
 grind
 by_cases k3:k=3
 grind[a5M]
 by_cases k4:k=4
 grind[a5M,b3o]
 grind[b2F]
theorem a5O(k:Int):a6f k=some (decide (2≤k∧k≤5)):=by
 grind[a6f]
def c8M(s:Sub)(n:Int):Prop:=
 1≤n∧n≤4096∧0≤s.1∧s.1≤5∧s=b1Y s∧0≤s.2.1∧s.2.1≤30∧a8H s.1 s n∧(s.2.2.2.2.2.2.2.2.1.length:Int)=a0Y s n∧s.2.2.2.2.2.2.2.2.1.all a0D=true∧s.2.2.2.2.2.2.2.2.2.2.1.all a0D=true∧
  (2≤s.1∧s.1≤5→(s.2.2.2.2.2.2.2.2.2.2.1.length:Int)=n-a0Y s n∧a7a s.2.2.2.2.2.2.2.2.2.1 n (a0Y s n)=true)
theorem b2I{k:Int}{s:Sub}{n:Int}(h:a8H k s n):k=0∨k=1∨k=2∨k=3∨k=4∨k=5:=by
 unfold a8H at h;omega
theorem c6A(s:Sub)(n:Int):a1s s n↔c8M s n:=by
 have f:a8H s.1 s n→((b3s s∧(s.1=0→s.2.1=0)∧(s.2.2.2.2.2.2.2.2.1.length:Int)=a0Y s n∧(s.1=0∨s.1=1→s.2.2.2.2.2.2.2.2.2.2.1=[]∧s.2.2.2.2.2.2.2.2.2.1.1=0∧s.2.2.2.2.2.2.2.2.2.1.2.1=[]))↔
   (s=b1Y s∧(s.2.2.2.2.2.2.2.2.1.length:Int)=a0Y s n)):=by
  intro h;have g:(a00 3 (0:Int))=[0,0,0]:=rfl;obtain⟨k,w,o,sh,lag,c,t,st,wm,⟨po,ks,⟨⟩⟩,r,⟨⟩⟩:=s;rcases b2I h with k0|k0|k0|k0|k0|k0<;>simp only at k0<;>subst k0<;>simp[b3s,b1Y,a0Y,g]<;>(try constructor)<;>(try intros)<;>(try simp_all)<;>(try exact and_left_comm)<;>(grind)
 unfold a1s c8M
 grind[b2I]
def c1H(warm rest:List Int)(o:Int):Option (List Int):=bif warm.all a0D&&rest.all a0D then a4l (a4Y o.toNat) rest warm else none
def backP(s:Sub):Option (List Int):=
 if s.1=1 then some s.2.2.2.2.2.2.2.2.1
 else if s.1=2 then c1H s.2.2.2.2.2.2.2.2.1 s.2.2.2.2.2.2.2.2.2.2.1 s.2.2.1
 else if s.1=3 then b1T s.2.2.2.2.2.2.2.2.1 s.2.2.2.2.2.2.2.2.2.2.1 s.2.2.2.2.2.1 s.2.2.2.1
 else if s.1=4 then(b1T s.2.2.2.2.2.2.2.2.1 s.2.2.2.2.2.2.2.2.2.2.1 s.2.2.2.2.2.1 s.2.2.2.1).bind fun l=>b3R l s.2.2.2.2.1 s.2.2.2.2.2.2.1
 else b0W s.2.2.2.2.2.2.2.2.2.2.1 s.2.2.2.2.2.2.2.1
def c1I(s:Sub)(n:Int):Option (List Int):=
 if s.1=0 then some (a00 n.toNat (s.2.2.2.2.2.2.2.2.1.getD 0 0))else(backP s).bind (upO s.2.1)
theorem a6q{w r c:List Int}{s:Int}{l}(h:b1T w r c s=some l):l.length=w.length+r.length:=by
 unfold b1T at h;cases hc:(w.all a0D&&r.all a0D)with
 |false=>simp_all
 |true=>
  rw[hc]at h;exact(b1C _ r w l (a88.1 hc).1 h).2
theorem b7c{w r:List Int}{o:Int}{l}(h:c1H w r o=some l):l.length=w.length+r.length:=by
 unfold c1H at h;cases hc:(w.all a0D&&r.all a0D)with
 |false=>simp_all
 |true=>
  rw[hc]at h;exact(b1C _ r w l (a88.1 hc).1 h).2
theorem b5u{r:List Int}{l}(h:b3R r lag t=some l):l.length=r.length:=by
 unfold b3R at h;cases hc:r.all a0D with
 |false=>simp_all
 |true=>
  rw[hc]at h
  have:=(b1C _ r [] l rfl h).2
  simp_all
theorem c2g:∀(st:List Stg)(r:List Int){l},lO st r=some l→l.length=r.length
 | [],r,l,h=>by simp_all[lO]
 |s::st,r,l,h=>by
  simp only[lO]at h
  split at h
  rename_i f g;rw[c2g st f h,b1F _ _ _ g];simp;cases h
theorem b4m{r:List Int}{st:List Stg}{l}(h:b0W r st=some l):l.length=r.length:=by
 grind[b0W,c2g]
theorem b5v(h:SmallS s){l}(g:backP s=some l):l.length<100000:=by
 have b:=h.warm;have a:=h.rest;unfold backP at g
 split at g
 grind
 split at g
 grind[b7c]
 split at g
 grind[a6q]
 split at g
 obtain⟨l1,f,k⟩:=a34.1 g;rw[b5u k,a6q f];omega
 grind[b4m]
theorem c9Q(a:1≤n)(c:n≤4096)(d:s.2.2.2.2.2.2.2.2.1.length=1):
  y0s a6a (n,(0:Int),([]:List Int),s,())=some (a00 n.toNat (s.2.2.2.2.2.2.2.2.1.getD 0 0),()):=by
 obtain⟨N,rfl⟩:=a01 (show 0≤n by omega);have k:m0k s.2.2.2.2.2.2.2.2.1 (0:Int)=some (s.2.2.2.2.2.2.2.2.1.getD 0 0):=b3Q (by omega) (by omega)
 have:=a1t (f:=a6a) (fun i=>((N:Int),(i:Int),a00 i (s.2.2.2.2.2.2.2.2.1.getD 0 0),s,())) N
  (b:=(a00 N (s.2.2.2.2.2.2.2.2.1.getD 0 0),())) (fun i hi=>by
   have h:lim ((a00 i (s.2.2.2.2.2.2.2.2.1.getD 0 0)).length+1)=true:=a0V (by grind);have g:a00 i (s.2.2.2.2.2.2.2.2.1.getD 0 0)++[s.2.2.2.2.2.2.2.2.1.getD 0 0]=a00 (i+1) (s.2.2.2.2.2.2.2.2.1.getD 0 0):=by grind[a29]
   simp only[a6a,dlt hi,cT,k,oB,h,a06,g,a0A (show i<1000000 by omega)])
  (by simp[a6a])
 simp_all
theorem c3z(l:1≤n)(m:n≤4096)(p:s.2.2.2.2.2.2.2.2.1.length=1):
  y0s a4J (n,(0:Int),a00 n.toNat (0:Int),s,())=some (a00 n.toNat (s.2.2.2.2.2.2.2.2.1.getD 0 0),()):=by
 obtain⟨N,rfl⟩:=a01 (show 0≤n by omega);have j:m0k s.2.2.2.2.2.2.2.2.1 (0:Int)=some (s.2.2.2.2.2.2.2.2.1.getD 0 0):=b3Q (by omega) (by omega);obtain⟨z,q⟩:∃z,a00 N (s.2.2.2.2.2.2.2.2.1.getD 0 0)=z:=⟨_,rfl⟩;have k:z.length=(a00 N (0:Int)).length:=by grind
 have d:(a00 N (0:Int)).length=N:=by simp
 have:=a1t (f:=a4J) (fun i=>((N:Int),(i:Int),z.take i++(a00 N (0:Int)).drop i,s,())) N
  (b:=(z,())) (fun i hi=>by
   have h:i<(a00 N (0:Int)).length:=by omega
   have o:(z.take i++(a00 N (0:Int)).drop i).length=N:=by grind
   have e:decide ((i:Int)<(((z.take i++(a00 N (0:Int)).drop i).length:Nat):Int))=true:=by simp_all
   have c:decide ((0:Int)≤(i:Int))=true:=by simp
   have a:=c4M h k;have g:z[i]'(by omega)=s.2.2.2.2.2.2.2.2.1.getD 0 0:=by grind
   rw[g]at a;simp only[a4J,dlt hi,cT,j,oB,c,e,a04,tN,a,a0A (show i<1000000 by omega)])
  (by
   simp_all[a38,a4J])
 simp_all
theorem c6B(h:SmallS s)(hp:a1s s n)(x:s.1≠0):b1v s=some (a4a (backP s)):=by
 obtain⟨y,z,m,-,-,-,-,a,C,A,-⟩:=hp;have q:=h.rest;have v:=h.warm;have B:=h.taps;obtain⟨k,w,o,sh,lag,c,t,st,d,p,r,u⟩:=s;simp only at *;unfold b1v backP;rcases m with g|g|⟨g,f,b,e⟩|⟨g,f,b⟩|⟨g,f,b,e⟩|⟨g,f,b⟩;omega;subst g;rfl;subst g;obtain⟨O,rfl⟩:=a01 f
 grind[a0Y,b7U,c1H]
 grind[a0Y,b1r]
 ·subst g;simp only[a0Y]at a;have j:d.length=c.length:=by grind
  have i:=b1r (rest:=r) f j (by omega);simp only[show((4:Int)==2)=false from rfl,show((4:Int)==3)=false from rfl,show((4:Int)==4)=true from rfl,cT,cF,i,oB];cases hl:b1T d r c sh with
  |none=>rfl
  |some l=>
   grind[a6q,b9g,a4a]
 grind[b7Y]
theorem c6C(h:SmallS s)(hp:a1s s n):b1t (s,n)=some (a4a (c1I s n)):=by
 have a:=fun l (d:backP s=some l)=>b5v h d;obtain⟨z,A,C,-,x,v,-,g,K,I,-⟩:=hp;have F:=h.rest;have G:=h.warm;have H:=h.taps;have D:=c9Q (s:=s) z A;obtain⟨k,w,o,sh,lag,c,t,st,f,p,r,u⟩:=s;simp only at *;have L:∀l,l.length<100000→a8b (l,w)=some (a4a (upO w l)):=fun l d=>c4J x v d;unfold b1t c1I;rcases C with b|b|⟨b,j,m,y⟩|⟨b,j,m⟩|⟨b,j,m,y⟩|⟨b,j,m⟩
 grind[a0Y,a4a]
 simp_all[backP]
 ·subst b;obtain⟨O,rfl⟩:=a01 j;have m:(O:Int)≤4:=m;simp only[a0Y]at g;have q:f.length=O:=by grind
  have i:=c3t (warm:=f) (rest:=r) (o:=O) (by omega) q (by omega);simp only[backP]at a⊢;simp[i];have e:(bif f.all a0D&&r.all a0D then a4l (a4Y O) r f else none)=c1H f r (O:Int):=rfl;rw[e];cases d:c1H f r (O:Int)with
  |none=>rfl
  |some l=>simp_all[a4a]
 ·subst b;simp only[a0Y]at g;have q:f.length=c.length:=by grind
  have i:=b3p (rest:=r) j q (by omega);simp only[backP]at a⊢;simp[i];cases d:b1T f r c sh with
  |none=>rfl
  |some l=>simp_all[a4a]
 ·subst b;simp only[a0Y]at g;have q:f.length=c.length:=by grind
  have i:=b3p (rest:=r) j q (by omega);simp only[backP]at a⊢;simp[i];cases d:b1T f r c sh with
  |none=>rfl
  |some l=>
   have E:=a6q d;have B:=c4I (rest:=l) y H (by omega);simp[a4a,B]
   grind[a4a]
 ·subst b;have i:=c3x (rest:=r) m (by omega);simp only[backP]at a⊢;simp[i];cases d:b0W r st with
  |none=>rfl
  |some l=>simp_all[a4a]
open Classical in
def a1x (s:Sub) (n:Int):Option (List Int):=if a1s s n then c1I s n else none
theorem b9m(h:SmallS s)(n:Int):b0T (s,n)=some (match a1x s n with|some r=>(r,0)|none=>([],1)):=by
 unfold b0T a1x;simp only[c9P h,oB]
 by_cases hp:a1s s n
 simp[hp,c6C h hp]
 grind[a4a]
 simp_all
theorem c8N(h:SmallS s)(n:Int):a8M (s,n)=some (a1x s n).isSome:=by
 unfold a8M;simp only[b9m h,oB];cases a1x s n<;>rfl
open Classical in
theorem b4n {s:Sub} (h:SmallS s) (n:Int):a6X (s,n)=some (match a1x s n with|some r=>(r,true)|none=>([],false)):=by
 have hw:short s.2.2.2.2.2.2.2.2.1:=by have:=h.warm;unfold short;omega
 have hr:short s.2.2.2.2.2.2.2.2.2.2.1:=by have:=h.rest;unfold short;omega
 have hk:short s.2.2.2.2.2.2.2.2.2.1.2.1:=by have:=h.ks;unfold short;omega
 have hiff:=c6A s n
 unfold a6X
 have no:¬ c8M s n→a1x s n=none:=fun hc=>by
  simp_all[a1x]
 by_cases h1:1≤n
 rotate_left
 ·have e1:decide (n<1)=true:=by simp_all
  rw[no fun hp=>h1 hp.1]
  simp_all
 have e1:decide (n<1)=false:=by simp_all
 by_cases h2:n≤4096
 rotate_left
 ·have e2:decide (n > 4096)=true:=by simp_all
  rw[no fun hp=>h2 hp.2.1]
  simp_all
 have e2:decide (n > 4096)=false:=by simp_all
 by_cases h3:0≤s.1
 rotate_left
 ·have e3:decide (s.1<0)=true:=by simp_all
  rw[no fun hp=>h3 hp.2.2.1]
  simp_all
 have e3:decide (s.1<0)=false:=by simp_all
 by_cases h4:s.1≤5
 rotate_left
 ·have e4:decide (s.1 > 5)=true:=by simp_all
  rw[no fun hp=>h4 hp.2.2.2.1]
  simp_all
 have e4:decide (s.1 > 5)=false:=by simp_all
 simp only[e1,e2,e3,e4,cF,d1v,b9l h,oB]
 by_cases h5:s=b1Y s
 rotate_left
 ·rw[no fun hp=>h5 hp.2.2.2.2.1]
  simp_all
 have e5:decide (s=b1Y s)=true:=decide_eq_true h5
 simp only[e5,bT,cF]
 by_cases h6:0≤s.2.1
 rotate_left
 ·have e6:decide (s.2.1<0)=true:=by grind
  rw[no fun hp=>h6 hp.2.2.2.2.2.1]
  grind
 have e6:decide (s.2.1<0)=false:=by grind
 by_cases h7:s.2.1≤30
 rotate_left
 ·have e7:decide (s.2.1 > 30)=true:=by grind
  rw[no fun hp=>h7 hp.2.2.2.2.2.2.1]
  grind
 have e7:decide (s.2.1 > 30)=false:=by grind
 simp only[e6,e7,cF,oB,d1w h]
 by_cases h8:a8H s.1 s n
 rotate_left
 ·have e8:decide (b3u s n<0)=true:=by simp[b3u,h8]
  rw[no fun hp=>h8 hp.2.2.2.2.2.2.2.1]
  grind
 have hwr:=b7b h h1 h2 h8
 have e8':b3u s n=a0Y s n:=by simp[b3u,h8]
 have e8:decide (a0Y s n<0)=false:=by grind
 simp only[e8',e8,cF]
 by_cases h9:(s.2.2.2.2.2.2.2.2.1.length:Int)=a0Y s n
 rotate_left
 ·have e9:(((s.2.2.2.2.2.2.2.2.1.length:Nat):Int) != a0Y s n)=true:=by grind
  rw[no fun hp=>h9 hp.2.2.2.2.2.2.2.2.1]
  grind
 have e9:(((s.2.2.2.2.2.2.2.2.1.length:Nat):Int) != a0Y s n)=false:=by grind
 simp only[e9,cF,a1m hw,a1m hr,oB]
 cases h10:s.2.2.2.2.2.2.2.2.1.all a0D with
 |false=>
  rw[no fun hp=>by rw[hp.2.2.2.2.2.2.2.2.2.1]at h10;grind]
  rfl
 |true=>
  cases h11:s.2.2.2.2.2.2.2.2.2.2.1.all a0D with
  |false=>
   rw[no fun hp=>by rw[hp.2.2.2.2.2.2.2.2.2.2.1]at h11;grind]
   rfl
  |true=>
   simp only[bT,cF,oB,a5O]
   have e11:wrap .i64 (n-a0Y s n)=n-a0Y s n:=a0J (by omega)
   by_cases h12:2≤s.1∧s.1≤5→(s.2.2.2.2.2.2.2.2.2.2.1.length:Int)=n-a0Y s n∧a7a s.2.2.2.2.2.2.2.2.2.1 n (a0Y s n)=true
   rotate_left
   ·have hg:2≤s.1∧s.1≤5:=Classical.byContradiction fun hc=>h12 fun e=>absurd e hc
    have hn:¬ ((s.2.2.2.2.2.2.2.2.2.2.1.length:Int)=n-a0Y s n∧a7a s.2.2.2.2.2.2.2.2.2.1 n (a0Y s n)=true):=fun hc=>h12 fun _=>hc
    rw[no fun hp=>h12 hp.2.2.2.2.2.2.2.2.2.2.2]
    simp only[hg,and_self,decide_true,cT,e11,b1X hk,a9v hk,oB]
    grind
   have hrp:c8M s n:=⟨h1,h2,h3,h4,h5,h6,h7,h8,h9,h10,h11,h12⟩
   have hsp:=hiff.2 hrp
   have e12:(bif decide (2≤s.1∧s.1≤5)then bif (((s.2.2.2.2.2.2.2.2.2.2.1.length:Nat):Int) != wrap .i64 (n-a0Y s n))then some (n,(true,(s,())))else(a4u (s.2.2.2.2.2.2.2.2.2.1,(n,a0Y s n))).bind fun y9=>some (n,(!y9,(s,())))
     else some (n,(false,(s,()))))=some (n,(false,(s,()))):=by
    by_cases hg:2≤s.1∧s.1≤5
    ·obtain⟨g1,g2⟩:=h12 hg
     have e13:(((s.2.2.2.2.2.2.2.2.2.2.1.length:Nat):Int) != n-a0Y s n)=false:=by grind
     simp only[hg,and_self,decide_true,cT,e11,e13,cF,a9v hk,g2,oB,bT]
    grind
   simp only[e12,oB,cF]
   have hsub:a1x s n=c1I s n:=by unfold a1x;grind
   rw[hsub]
   unfold c1I
   by_cases k0:s.1=0
   ·have ek:(s.1==0)=true:=by grind
    have hl1:s.2.2.2.2.2.2.2.2.1.length=1:=by
     have:=h9;unfold a0Y at this;omega
    have g1:decide ((0:Int)≤n)=true:=by grind
    have g2:decide (n≤n)=true:=by simp
    have g3:lim n.toNat=true:=a0V (by omega)
    simp only[ek,cT,g1,g2,g3,a04,c3z h1 h2 hl1,oB,k0,if_true]
    rfl
   ·have ek:(s.1==0)=false:=by grind
    simp[ek,c6B h hsp k0,k0]
    cases hb:backP s with
    |none=>rfl
    |some l=>
     have hll:=b5v h hb
     simp only[a4a,c9M h6 h7 hll,oB]
     cases upO s.2.1 l<;>simp[a4a]
theorem c3A(h:SmallS s)(n:Int):a9l (s,n)=some (a1x s n).isSome:=by
 grind[a9l,b4n]
@[reducible] def Wr:Type:=(List Int)×(Int×Unit)
def b5w(w:Wr)(b:Int):Wr:=
 let bs:=if w.2.1%8=0 then w.1++[0]else w.1
 (bs.set (w.2.1 / 8).toNat (bits .u8 .or (bs.getD (w.2.1 / 8).toNat 0) (A0n .u8 b (7-w.2.1%8))),w.2.1+1,())
def wL(L:List Int):Wr:=L.foldl b5w ([],0,())
theorem b3v(L:List Int)(b:Int):wL (L++[b])=b5w (wL L) b:=by simp[wL]
theorem b9n:∀(n:Nat)(L:List Int),L.length=n→(wL L).2.1=L.length∧(wL L).1.length=(L.length+7) / 8
 |0,L,h=>by
  rw[a53.1 h];exact⟨rfl,rfl⟩
 |n+1,L,h=>by
  obtain⟨g,b,rfl⟩:∃g b,L=g++[b]:=by
   rcases a58 L with rfl|⟨g,b,e⟩
   all_goals simp_all
  obtain⟨f,k⟩:=b9n n g (by simp_all);rw[b3v];simp only[b5w,b06,lN,a41,f]
  grind
theorem a5P(L:List Int):(wL L).2.1=L.length∧(wL L).1.length=(L.length+7) / 8:=b9n _ L rfl
theorem b9o{L:List Int}(l:L.length<1000000000)(b:Int):a1U (wL L,b)=some (wL (L++[b])):=by
 obtain⟨g,k⟩:=a5P L;have p:a51 ((L.length:Nat):Int) 8=((L.length:Nat):Int)%8:=a47 (by omega);have m:a52 ((L.length:Nat):Int) 8=((L.length:Nat):Int) / 8:=a27 (by omega);have c:wrap .i64 (((L.length:Nat):Int) / 8)=((L.length:Nat):Int) / 8:=a0J (by omega);have d:wrap .i64 (7-((L.length:Nat):Int)%8)=7-((L.length:Nat):Int)%8:=a0J (by omega);have e:wrap .i64 (((L.length:Nat):Int)+1)=((L.length:Nat):Int)+1:=a0J (by omega);have i:decide ((0:Int)≤((L.length:Nat):Int) / 8)=true:=by rfl
 have j:decide (7-((L.length:Nat):Int)%8<0)=false:=by grind
 rw[b3v];generalize wL L=wr at g k⊢;obtain⟨f,n,u⟩:=wr;have g:n=((L.length:Nat):Int):=g;have k:f.length=(L.length+7) / 8:=k;subst g;unfold a1U b5w
 by_cases h:((L.length:Nat):Int)%8=0
 have hb:(((L.length:Nat):Int)%8==0)=true:=by grind
 have o:lim (f.length+1)=true:=a0N (by omega);have a:decide (((L.length:Nat):Int) / 8<(((f++[0]).length:Nat):Int))=true:=by grind
 simp_all
 grind
def b2J(v:Int)(i:Nat):Int:=wrap .u8 (bits .u64 .and (A0o .u64 v (i:Int)) 1)
def pb(v:Int):Nat→List Int
 |0=>[]
 |i+1=>b2J v i::pb v i
theorem c2h(v:Int):∀n,(pb v n).length=n
 |0=>rfl
 |n+1=>by simp[pb,c2h v n]
def a0H(v:Int)(n:Nat)(L:List Int):List Int:=bif A0o .u64 v (n:Int) != 0 then L else L++pb v n
theorem a0L(v:Int)(n:Nat)(L:List Int):L.length≤(a0H v n L).length∧(a0H v n L).length≤L.length+n:=by
 grind[a0H,c2h]
def a1Q(v:Int)(n:Nat):Int:=bif A0o .u64 v (n:Int) != 0 then 1 else 0
theorem c4S{v:Int}:∀(n:Nat)(L:List Int),L.length+n<1000000000→y0s a3y (v,(n:Int)-1,wL L,())=some (wL (L++pb v n),())
 |0,L,_=>by simp_all[a0C,a3y,pb]
 |n+1,L,h=>by
  have e:((n+1:Nat):Int)-1=(n:Int):=by omega
  have g:wrap .i64 ((n:Int)-1)=(n:Int)-1:=a0J (by omega);have f:decide ((n:Int)≥0)=true:=by simp
  have k:decide ((n:Int)<0)=false:=by simp
  rw[e,a0E (s':=(v,(n:Int)-1,wL (L++[b2J v n]),())) (by
   simp only[a3y,f,k,cT,cF,show wrap .u8 (bits .u64 .and (A0o .u64 v (n:Int)) 1)=b2J v n from rfl,b9o (show L.length<1000000000 by omega),oB,g])]
  rw[c4S n (L++[b2J v n]) (by simp;omega),pb]
  simp
theorem a2M{n:Nat}(a:n≤63)(k:L.length<999999000):a0F (wL L,v,(n:Int))=some (a1Q v n,wL (a0H v n L)):=by
 unfold a0F a1Q a0H;have g:decide ((n:Int)<0)=false:=by simp
 have f:decide ((n:Int) > 64)=false:=by grind
 have h:wrap .i64 ((n:Int)-1)=(n:Int)-1:=a0J (by omega);simp[g,f];cases (A0o .u64 v (n:Int) != 0)with
 |true=>rfl
 |false=>simp only[cF,h,c4S n L (by omega),oB]
theorem b5x{v:Int}:∀(n:Nat)(L:List Int),n≤64→L.length+n<1000000000→y0s a4K (v,(n:Int)-1,(L,()),())=some ((L++pb v n,()),())
 |0,L,_,_=>by simp_all[a0C,a4K,pb]
 |n+1,L,h64,h=>by
  have e:((n+1:Nat):Int)-1=(n:Int):=by omega
  have g:wrap .i64 ((n:Int)-1)=(n:Int)-1:=a0J (by omega);have f:wrap .u64 (n:Int)=(n:Int):=a0G (by omega);have k:decide ((n:Int)≥0)=true:=by simp
  have a:decide ((n:Int)<0)=false:=by simp
  have b:lim (L.length+1)=true:=a0N (by omega);rw[e,a0E (s':=(v,(n:Int)-1,(L++[b2J v n],()),())) (by
   simp only[a4K,k,a,f,b,cT,cF,show wrap .u8 (bits .u64 .and (A0o .u64 v (n:Int)) 1)=b2J v n from rfl,a06,g])]
  rw[b5x n (L++[b2J v n]) (by omega) (by simp;omega),pb]
  simp
theorem a1o{n:Nat}(c:n≤63)(b:L.length<999999000):a0I ((L,()),v,(n:Int))=some (a1Q v n,a0H v n L,()):=by
 unfold a0I a1Q a0H;have f:decide ((n:Int)<0)=false:=by simp
 have k:decide ((n:Int) > 64)=false:=by grind
 have a:decide ((n:Int)<64)=true:=by grind
 have h:wrap .i64 ((n:Int)-1)=(n:Int)-1:=a0J (by omega);have g:wrap .u64 (n:Int)=(n:Int):=a0G (by omega);simp[f,k,a,g];cases (A0o .u64 v (n:Int) != 0)with
 |true=>rfl
 |false=>simp only[cF,h,b5x n L (by omega) (by omega),oB]
def unL(n:Nat)(L:List Int):List Int:=L++a00 n 0++[1]
theorem c4T{n:Nat}(c:n≤4096)(a:L.length<999990000):a1W (wL L,(n:Int))=some (0,wL (unL n L)):=by
 unfold a1W unL;have g:decide ((n:Int)<0)=false:=by simp
 have k:decide ((n:Int) > 4096)=false:=by grind
 simp only[g,k,cF,oB]
 have:=a1t (f:=a2U) (fun i=>((n:Int),(i:Int),wL (L++a00 i 0),())) n (b:=(wL (L++a00 n 0),())) (fun i hi=>by
   have h:L++a00 i (0:Int)++[0]=L++a00 (i+1) 0:=by simp_all[a29]
   simp only[a2U,dlt hi,cT,b9o (show(L++a00 i (0:Int)).length<1000000000 by grind),oB,h,a0A (show i<1000000 by omega)])
  (by simp[a2U])
 grind[b9o]
theorem b5y{n:Nat}(d:n≤4096)(c:L.length<999990000):a2D ((L,()),(n:Int))=some (0,unL n L,()):=by
 unfold a2D unL;have k:decide ((n:Int)<0)=false:=by simp
 have a:decide ((n:Int) > 4096)=false:=by grind
 simp only[k,a,cF,oB]
 have:=a1t (f:=a3z) (fun i=>((n:Int),(i:Int),(L++a00 i 0,()),())) n (b:=((L++a00 n 0,()),())) (fun i hi=>by
   have g:L++a00 i (0:Int)++[0]=L++a00 (i+1) 0:=by simp_all[a29]
   have h:lim ((L++a00 i (0:Int)).length+1)=true:=a0N (by grind);simp only[a3z,dlt hi,cT,h,a06,g,a0A (show i<1000000 by omega)])
  (by simp[a3z])
 have h:lim ((L++a00 n (0:Int)).length+1)=true:=a0N (by grind);simp_all
theorem a9w(n:Nat)(L:List Int):(unL n L).length=L.length+n+1:=by simp[unL];rfl
def a2x(x:Int)(n:Nat):Int:=bits .u64 .and (wrap .u64 x) (wrap .u64 ((A0n .u64 1 (n:Int))-1))
def a1u(n:Nat)(l:List Int)(L:List Int):List Int:=l.foldl (fun L x=>a0H (a2x x n) n L) L
theorem a3i(n:Nat):∀(l L:List Int),L.length≤(a1u n l L).length∧(a1u n l L).length≤L.length+n*l.length
 | [],L=>by simp[a1u]
 |x::l,L=>by
  have h:=a0L (a2x x n) n L;have g:=a3i n l (a0H (a2x x n) n L);have e:a1u n (x::l) L=a1u n l (a0H (a2x x n) n L):=rfl;rw[e,lC,Nat.mul_add,Nat.mul_one];omega
theorem b1Z{n:Nat}(f:n≤63)(g:L.length<999999000):a2r (wL L,x,(n:Int))=some (wL (a0H (a2x x n) n L)):=by
 unfold a2r;have h:decide ((n:Int)<0)=false:=by simp
 simp only[h,cF,show bits .u64 .and (wrap .u64 x) (wrap .u64 ((A0n .u64 1 (n:Int))-1))=a2x x n from rfl,a2M f g,oB]
theorem a5Q{n:Nat}(c:n≤63)(e:l.length<10000)(d:L.length<900000000):a2j ((L,()),l,(n:Int))=some (a1u n l L,()):=by
 have a:wrap .u64 (n:Int)=(n:Int):=a0G (by omega);have b:decide ((n:Int)<0)=false:=by simp
 have f:∀(k i:Nat)(h:List Int),i+k=l.length→h.length+64*k<999990000→y0s a5i (l,(n:Int),(i:Int),(h,()),())=some ((a1u n (l.drop i) h,()),()):=by
  intro k
  induction k with
  |zero=>
   intro i h hi _;obtain rfl:i=l.length:=by omega
   simp_all[a0C,a5i,a1u]
  |succ k ih=>
   intro i h hi hb;have g:i<l.length:=by omega
   have hp:=a0L (a2x l[i] n) n h;rw[a02 g,a0E (s':=(l,(n:Int),((i+1:Nat):Int),(a0H (a2x l[i] n) n h,()),())) (by
    simp only[a5i,dlt g,cT,a0B g,oB,a,b,cF,show bits .u64 .and (wrap .u64 l[i]) (wrap .u64 ((A0n .u64 1 (n:Int))-1))=a2x l[i] n from rfl,a1o c (show h.length<999999000 by omega),a0A (show i<1000000 by omega)])]
   exact ih (i+1) _ (by omega) (by omega)
 have:=f l.length 0 L (by omega) (by omega)
 simp_all[a2j]
def a1E(x w:Int):Bool:=decide (1≤w)&&(decide (w≤31)&&(decide (A0n .i64 (-1) (w-1)≤x)&&decide (x≤wrap .i64 (A0n .i64 1 (w-1)-1))))
theorem a9S{w:Nat}(a:w≤32):a1J (x,(w:Int))=some (a1E x w):=by
 unfold a1J a1E b1J b1a
 by_cases h1:1≤(w:Int)
 by_cases h2:(w:Int)≤31
 have h:decide ((w:Int)<1)=false:=by simp_all
 have g:decide ((w:Int) > 31)=false:=by simp_all
 have e:wrap .i64 ((w:Int)-1)=(w:Int)-1:=a0J (by omega);have f:decide ((w:Int)-1<0)=false:=by simp_all
 have k:decide ((w:Int)≥1)=true:=by simp_all
 simp[h1,h2,h,g,f,e]
 grind
 grind
 grind
theorem b3a{w:Nat}(b:w≤32):a6W (x,(w:Int))=some (a1E x w):=by
 unfold a6W a1E b7P b5i
 by_cases h1:1≤(w:Int)
 by_cases h2:(w:Int)≤31
 have f:decide ((w:Int)<1)=false:=by simp_all
 have k:decide ((w:Int) > 31)=false:=by simp_all
 have e:wrap .i64 ((w:Int)-1)=(w:Int)-1:=a0J (by omega);have g:wrap .u64 ((w:Int)-1)=(w:Int)-1:=a0G (by omega);have a:decide ((w:Int)-1<0)=false:=by simp_all
 have h:decide ((w:Int)≥1)=true:=by simp_all
 simp only[h,h1,h2,f,k,a,e,g,decide_true,cT,cF,oB,a22]
 grind
 grind
 grind
def a3p(x:Int):Nat→Nat→Nat
 |0,w=>w
 |k+1,w=>bif (x != 0)&&!a1E x w then a3p x k (w+1)else w
theorem b3U(x:Int):∀(k w:Nat),a3p x k w≤w+k
 |0,w=>a40 _
 |k+1,w=>by
  simp[a3p];cases (x != 0)&&!a1E x w with
  |true=>have:=b3U x k (w+1);grind
  |false=>simp
def a0K(l:List Int):Nat:=l.foldl (fun w x=>a3p x (32-w) w) 0
theorem b4o:∀(l:List Int)(w:Nat),w≤32→l.foldl (fun w x=>a3p x (32-w) w) w≤32
 | [],w,h=>h
 |x::l,w,h=>b4o l _ (show a3p x (32-w) w≤32 by grind[b3U])
theorem a3F(l:List Int):a0K l≤32:=b4o l 0 (by omega)
theorem c2i{x:Int}{l:List Int}{n i:Int}:∀(k w:Nat),w+k=32→y0s a2A ((w:Int),x,l,n,i,())=some (((a3p x k w:Nat):Int),l,n,i,())
 |0,w,h=>by
  obtain rfl:w=32:=by omega
  simp_all[a0C,a2A,a3p]
 |k+1,w,h=>by
  have g:decide ((w:Int)<32)=true:=by grind
  simp[a3p];cases hx:(x != 0)with
  |false=>simp_all[a0C,a2A]
  |true=>
   cases hf:a1E x w with
   |true=>exact a0C (by simp only[a2A,hx,g,a9S (show w≤32 by omega),hf,oB,cT,cF,bT,a85])
   |false=>
    rw[a0E (s':=(((w+1:Nat):Int),x,l,n,i,())) (by simp only[a2A,hx,g,a9S (show w≤32 by omega),hf,oB,cT,a19,a0A (show w<1000000 by omega)])];exact c2i k (w+1) (by omega)
theorem a6N(c:short l):a1q l=some ((a0K l:Nat):Int):=by
 have c:l.length<1000000:=c
 have:=a1d (f:=a5a) l (fun i (w:Nat)=>((w:Int),l,(l.length:Int),(i:Int),())) (fun w x=>(.inl (a3p x (32-w) w):Nat ⊕ (Int×Unit))) (fun _ w=>w≤32) (fun w=>((w:Int),()))
  (fun i h w e=>⟨fun d k=>by
   simp at k;subst k;refine⟨?_,by grind[b3U]⟩;simp only[a5a,dlt h,cT,a0B h,oB,c2i (32-w) w (by omega),a0A (show i<1000000 by omega)],fun b hb=>(by grind)⟩)
  (fun w _=>by simp[a5a]) (a:=0) (by omega)
 simp at this;unfold a1q;rw[this];have g:∀(l:List Int)(w:Nat),a4k (fun w x=>(.inl (a3p x (32-w) w):Nat ⊕ (Int×Unit))) l w=.inl (l.foldl (fun w x=>a3p x (32-w) w) w):=by
  intro l
  induction l with
  |nil=>intro w;rfl
  |cons x l ih=>simp_all[a4k]
 rw[g];rfl
theorem b4p{l:List Int}{i:Nat}(hi:i<l.length):∀(k w:Nat),w+k=32→y0s a6j (l,(w:Int),(i:Int),())=some (l,((a3p l[i] k w:Nat):Int),(i:Int),())
 |0,w,h=>by
  obtain rfl:w=32:=by omega
  rfl
 |k+1,w,h=>by
  have g:decide ((w:Int)<32)=true:=by grind
  simp[a3p];cases hx:(l[i] != 0)with
  |false=>simp_all[a0C,a6j,a0B]
  |true=>
   cases hf:a1E l[i] w with
   |true=>exact a0C (by simp only[a6j,a0B hi,hx,g,b3a (show w≤32 by omega),hf,oB,cT,cF,bT,a85])
   |false=>
    rw[a0E (s':=(l,((w+1:Nat):Int),(i:Int),())) (by simp only[a6j,a0B hi,hx,g,b3a (show w≤32 by omega),hf,oB,cT,a19,a0A (show w<1000000 by omega)])];exact b4p hi k (w+1) (by omega)
theorem a9x(c:short l):a5J l=some ((a0K l:Nat):Int):=by
 have c:l.length<1000000:=c
 have:=a1d (f:=a8r) l (fun i (w:Nat)=>(l,(w:Int),(i:Int),())) (fun w x=>(.inl (a3p x (32-w) w):Nat ⊕ (Int×Unit))) (fun _ w=>w≤32) (fun w=>((w:Int),()))
  (fun i h w e=>⟨fun d k=>by
   simp at k;subst k;refine⟨?_,by grind[b3U]⟩;simp only[a8r,dlt h,cT,oB,b4p h (32-w) w (by omega),a0A (show i<1000000 by omega)],fun b hb=>(by grind)⟩)
  (fun w _=>by simp[a8r]) (a:=0) (by omega)
 simp at this;unfold a5J;rw[this];have g:∀(l:List Int)(w:Nat),a4k (fun w x=>(.inl (a3p x (32-w) w):Nat ⊕ (Int×Unit))) l w=.inl (l.foldl (fun w x=>a3p x (32-w) w) w):=by
  intro l
  induction l with
  |nil=>intro w;rfl
  |cons x l ih=>simp_all[a4k]
 rw[g];rfl
theorem b2a(x:Int):a6o x=some (a0D x):=by
 grind[a6o,a0D]
def a0O(x:Int):Nat:=if 0≤x then(2*x).toNat else(-2*x-1).toNat
theorem b2b(h:a0D x=true):a0O x<2147483648:=by
 grind[a4O,a0O]
theorem b2c(h:a0D x=true):a8e x=some ((a0O x:Nat):Int):=by
 have f:=a4O.1 h;unfold a8e a0O;simp only[b2a,h,oB,bT,cF]
 by_cases h0:0≤x
 have g:decide (x≥0)=true:=by simp_all
 simp only[g,cT,if_pos h0]
 grind[a0J,a0G]
 have g:decide (x≥0)=false:=by simp_all
 simp only[g,cF,if_neg h0]
 grind[a0J,a0G]
theorem c9R(h:-18446744073709551616≤n∧n<0):wrap .u64 n=n+18446744073709551616:=by
 grind[wrap,IntKind.bits,IntKind.signed]
theorem c6W{y:Nat}(h:y<18446744073709551616):bits .u64 .xor (IntKind.max .u64) (y:Int)=((18446744073709551615-y:Nat):Int):=by
 show wrap .u64 (((a03 64 (IntKind.max .u64)) ^^^ (a03 64 (y:Int))).toNat:Int)=_;have g:a03 64 (IntKind.max .u64)=BitVec.allOnes 64:=by rfl
 have f:a03 64 (y:Int)=b19 64 y:=a30 64 y;rw[g,f,BitVec.allOnes_xor,BitVec.toNat_not,a36,a25 h];rw[a0G (by omega)]
theorem b3b(h:a0D x=true):b0U x=some ((a0O x:Nat):Int):=by
 have k:=a4O.1 h;unfold b0U a9M a0O;simp only[a1M,h,oB,bT,cF];have f:∀y:Int,A0n .u64 y 1=wrap .u64 (y*2):=fun y=>rfl
 by_cases h0:0≤x
 have g:decide (x<0)=false:=by simp_all
 simp only[g,cF,oB,if_pos h0,f]
 grind[a0G]
 have g:decide (x<0)=true:=by simp_all
 simp only[g,cT,oB,if_neg h0,f]
 grind[wrap,IntKind.bits,IntKind.signed,c6W]
theorem a3G{N o:Nat}(h:o≤64):A0o .u64 (N:Int) (o:Int)=((N / 2^o:Nat):Int):=b3S h
theorem c2j(h:o≤64)(g:N*2^o<9223372036854775808):A0n .u64 (N:Int) (o:Int)=((N*2^o:Nat):Int):=by
 unfold A0n;show wrap .u64 ((N:Int)*2^(min (o:Int).toNat 64))=_
 grind[a0G]
theorem b2d{y k:Nat}(c:y<18446744073709551616)(f:k≤62):bits .u64 .and (y:Int) (wrap .u64 (A0n .u64 1 (k:Int)-1))=((y%2^k:Nat):Int):=by
 have hp:2^k≤2^62:=a45 (by simp) f;have a:1≤2^k:=Nat.one_le_two_pow;have b:(2:Nat)^62=4611686018427387904:=by rfl
 have h:A0n .u64 1 (k:Int)=((2^k:Nat):Int):=by have:=c2j (N:=1) (o:=k) (by omega) (by omega);simp_all
 have g:wrap .u64 (((2^k:Nat):Int)-1)=((2^k-1:Nat):Int):=by grind[a0G]
 rw[h,g];show wrap .u64 (((a03 64 (y:Int)) &&& (a03 64 ((2^k-1:Nat):Int))).toNat:Int)=_;rw[a30,a30,a59,a36,a36,a25 c,a25 (by omega),a35]
 have:y%2^k<2^k:=a39 _ (by omega)
 exact a0G (by omega)
theorem a9T{q:Nat}(h:q<2147483648):wrap .i64 (q:Int)=(q:Int):=a0J (by omega)
def a5R(k:Nat)(x:Int)(L:List Int):List Int:=
 if a0O x / 2^k<32 then a0H ((a0O x%2^k:Nat):Int) k (unL (a0O x / 2^k) L)else a0H ((a0O x:Nat):Int) 32 (unL 32 L)
def a4b(k:Nat)(l:List Int)(L:List Int):List Int:=l.foldl (fun L x=>a5R k x L) L
theorem b2e(h:k≤25)(x:Int)(L:List Int):L.length≤(a5R k x L).length∧(a5R k x L).length≤L.length+100:=by
 grind[a5R,a0L,a9w]
theorem b4q{k:Nat}(h:k≤25):∀(l L:List Int),L.length≤(a4b k l L).length∧(a4b k l L).length≤L.length+100*l.length
 | [],L=>by simp[a4b]
 |x::l,L=>by
  have g:=b2e h x L;have f:=b4q h l (a5R k x L);have e:a4b k (x::l) L=a4b k l (a5R k x L):=rfl
  grind
theorem b1s{k:Nat}(h:k≤25):a2O (k:Int)=some true:=by
 unfold a2O
 grind
theorem b2f(h:k≤25):a2i (k:Int)=some true:=by
 unfold a2i
 grind
theorem c6D(x:k≤25)(D:l.length<10000)(t:l.all a0D=true)(C:L.length<900000000):b1u (wL L,(k:Int),l)=some (0,wL (a4b k l L)):=by
 have A:=a0X (f:=a8o) l (fun i=>((k:Int),l,l,(l.length:Int),(i:Int),wL L,())) (fun _=>true) (bt:=Sum.inl ((k:Int),l,wL L,())) (bf:=Sum.inl ((k:Int),l,wL L,()))
  (fun i h _=>by
   have:=lA.1 t _ (a05 h)
   simp only[a8o,dlt h,cT,a0B h,oB,b2a,this,bT,cF,a0A (show i<1000000 by omega)])
  (fun i h hp=>by simp_all) (by simp[a8o])
 have p:∀(j i:Nat)(g:List Int),i+j=l.length→g.length+100*j<999990000→y0s a6d ((k:Int),l,(l.length:Int),(i:Int),wL g,())=some (wL (a4b k (l.drop i) g),()):=by
  intro j
  induction j with
  |zero=>
   intro i g hi _;obtain rfl:i=l.length:=by omega
   simp_all[a0C,a6d,a4b]
  |succ j ih=>
   intro i g hi hb;have a:i<l.length:=by omega
   have c:=lA.1 t _ (a05 a);have z:=b2b c;have y:=b2e x l[i] g;have e:decide ((k:Int)<0)=false:=by simp
   have q:A0o .u64 ((a0O l[i]:Nat):Int) (k:Int)=((a0O l[i] / 2^k:Nat):Int):=a3G (by omega);have o:=a28 (a0O l[i]) (2^k);have r:=a78 (a0O l[i]) (2^k);have d:A0n .u64 ((a0O l[i] / 2^k:Nat):Int) (k:Int)=((a0O l[i] / 2^k*2^k:Nat):Int):=c2j (by omega) (by grind);have u:wrap .u64 (((a0O l[i]:Nat):Int)-((a0O l[i] / 2^k*2^k:Nat):Int))=((a0O l[i]%2^k:Nat):Int):=by
    rw[a43 (a0O l[i] / 2^k)]
    grind[a0G]
   have w:wrap .i64 ((a0O l[i] / 2^k:Nat):Int)=((a0O l[i] / 2^k:Nat):Int):=a9T (a37 o z);rw[a02 a,a0E (s':=((k:Int),l,(l.length:Int),((i+1:Nat):Int),wL (a5R k l[i] g),())) (by
    by_cases hq:a0O l[i] / 2^k<32
    have m:decide (((a0O l[i] / 2^k:Nat):Int)<32)=true:=decide_eq_true (by omega);have s:(unL (a0O l[i] / 2^k) g).length<999999000:=by
     rw[a9w];omega
    have b:=c4T (L:=g) (n:=a0O l[i] / 2^k) (a44 (a07 hq (by simp))) (by omega);have hp:=a2M (L:=unL (a0O l[i] / 2^k) g) (v:=((a0O l[i]%2^k:Nat):Int)) (n:=k) (by omega) s;simp only[a6d,dlt a,cT,a0B a,oB,b2c c,e,cF,q,m,w,b,d,u,hp,a5R,if_pos hq,a0A (show i<1000000 by omega)];have m:decide (((a0O l[i] / 2^k:Nat):Int)<32)=false:=decide_eq_false (by omega);have s:=a9w 32 g;have b:a1W (wL g,(32:Int))=some (0,wL (unL 32 g)):=c4T (L:=g) (n:=32) (by omega) (by omega);have hp:a0F (wL (unL 32 g),((a0O l[i]:Nat):Int),(32:Int))=some (a1Q ((a0O l[i]:Nat):Int) 32,wL (a0H ((a0O l[i]:Nat):Int) 32 (unL 32 g))):=a2M (L:=unL 32 g) (v:=((a0O l[i]:Nat):Int)) (n:=32) (by omega) (by omega);simp only[a6d,dlt a,cT,a0B a,oB,b2c c,e,cF,q,m,b,hp,a5R,if_neg hq,a0A (show i<1000000 by omega)])]
   exact ih (i+1) _ (by omega) (by omega)
 have B:=p l.length 0 L (by omega) (by omega);simp_all[b1u,b1s]
theorem c1J(r:k≤25)(B:l.length<10000)(t:l.all a0D=true)(A:L.length<900000000):a9n ((L,()),(k:Int),l)=some (0,a4b k l L,()):=by
 have o:wrap .u64 (k:Int)=(k:Int):=a0G (by omega);have e:∀(j i:Nat)(h:List Int),i+j=l.length→h.length+100*j<999990000→y0s a4M ((k:Int),l,(i:Int),(h,()),())=some ((a4b k (l.drop i) h,()),()):=by
  intro j
  induction j with
  |zero=>
   intro i h hi _;obtain rfl:i=l.length:=by omega
   simp_all[a0C,a4M,a4b]
  |succ j ih=>
   intro i h hi hb;have g:i<l.length:=by omega
   have a:=lA.1 t _ (a05 g);have z:=b2b a;have w:=b2e r l[i] h;have b:decide ((k:Int)<0)=false:=by simp
   have m:A0o .u64 ((a0O l[i]:Nat):Int) (k:Int)=((a0O l[i] / 2^k:Nat):Int):=a3G (by omega);have d:=a28 (a0O l[i]) (2^k);have u:=b2d (y:=a0O l[i]) (k:=k) (by omega) (by omega);have p:wrap .i64 ((a0O l[i] / 2^k:Nat):Int)=((a0O l[i] / 2^k:Nat):Int):=a9T (a37 d z);rw[a02 g,a0E (s':=((k:Int),l,((i+1:Nat):Int),(a5R k l[i] h,()),())) (by
    by_cases hq:a0O l[i] / 2^k<32
    have c:decide (((a0O l[i] / 2^k:Nat):Int)<32)=true:=decide_eq_true (by omega);have s:(unL (a0O l[i] / 2^k) h).length<999999000:=by
     rw[a9w];omega
    have f:=b5y (L:=h) (n:=a0O l[i] / 2^k) (a44 (a07 hq (by simp))) (by omega);have hp:=a1o (L:=unL (a0O l[i] / 2^k) h) (v:=((a0O l[i]%2^k:Nat):Int)) (n:=k) (by omega) s;simp only[a4M,dlt g,cT,a0B g,oB,b3b a,o,b,cF,m,c,p,f,u,hp,a5R,if_pos hq,a0A (show i<1000000 by omega)];have c:decide (((a0O l[i] / 2^k:Nat):Int)<32)=false:=decide_eq_false (by omega);have s:=a9w 32 h;have f:a2D ((h,()),(32:Int))=some (0,unL 32 h,()):=b5y (L:=h) (n:=32) (by omega) (by omega);have hp:a0I ((unL 32 h,()),((a0O l[i]:Nat):Int),(32:Int))=some (a1Q ((a0O l[i]:Nat):Int) 32,a0H ((a0O l[i]:Nat):Int) 32 (unL 32 h),()):=a1o (L:=unL 32 h) (v:=((a0O l[i]:Nat):Int)) (n:=32) (by omega) (by omega);simp only[a4M,dlt g,cT,a0B g,oB,b3b a,o,b,cF,m,c,p,f,hp,a5R,if_neg hq,a0A (show i<1000000 by omega)])]
   exact ih (i+1) _ (by omega) (by omega)
 have q:=e l.length 0 L (by omega) (by omega);simp at q;have x:short l:=by unfold short;omega
 unfold a9n;simp only[b2f r,oB,bT,cF,a1m x,t,q]
def a2e(zn:List Nat):List Int:=zn.map fun(a:Nat)=>(a:Int)
theorem c3B(n M:Nat):(a00 n M).sum=n*M:=by
 simp
theorem c6E{o:Int}(h:(a1I o n warm).length≠0):∃zn:List Nat,a1I o n warm=a2e zn∧(zn.sum:Int)=n-warm∧zn.length≤256:=by
 unfold a1I at h⊢;cases hr:(a7V n warm&&(decide (0≤o)&&decide (o≤8)))with
 |false=>simp_all
 |true=>
  rw[hr]at h;simp only[cT]at h⊢;simp[a7V]at hr;unfold b0X at h⊢
  split at h
  rename_i g;rw[if_pos g];obtain⟨O,rfl⟩:=a01 hr.2.1;obtain⟨N,rfl⟩:=a01 (show 0≤n by omega);obtain⟨w,rfl⟩:=a01 (show 0≤warm by omega);simp only[tN]at g⊢;have hp:=d1u (o:=O) (by omega);have f:=a78 N (2^O);rw[g.1,Nat.add_zero]at f;have k:w≤N / 2^O:=by omega
  generalize N / 2^O=M at g k f⊢;generalize 2^O=P at hp f⊢;refine⟨(M-w)::a00 (P-1) M,?_,?_,?_⟩
  grind[a2e,List.map_replicate]
  rw[List.sum_cons,c3B];obtain⟨q,rfl⟩:∃q,P=q+1:=⟨P-1,by omega⟩
  grind
  simp_all;simp_all
def a7J(k:Int)(part L:List Int):List Int:=
 if k=31 then a1u (a0K part) part (a0H ((a0K part:Nat):Int) 5 (a0H (wrap .u64 k) 5 L))else a4b k.toNat part (a0H (wrap .u64 k) 5 L)
def a3x:List Nat→List Int→List Int→List Int→List Int
 |z::zs,k::ks,l,L=>a3x zs ks (l.drop z) (a7J k (l.take z) L)
 |_,_,_,L=>L
theorem b2g{k:Int}(h:kB k=true)(part L:List Int):L.length≤(a7J k part L).length∧(a7J k part L).length≤L.length+10+100*part.length:=by
 unfold a7J;have a:=a0L (wrap .u64 k) 5 L;split;have b:=a0L ((a0K part:Nat):Int) 5 (a0H (wrap .u64 k) 5 L);have c:=a3i (a0K part) part (a0H ((a0K part:Nat):Int) 5 (a0H (wrap .u64 k) 5 L));have f:=a3F part
 have:a0K part*part.length≤32*part.length:=a62 _ f
 omega;rename_i g;simp[kB]at h
 grind[b4q]
theorem a7c(h:i<zn.length):a50 (a2e zn) i 0=((zn[i]:Nat):Int):=by
 simp_all[a2e]
theorem a2y(h:List Nat):(a2e h).length=h.length:=by simp[a2e]
theorem b3V(h:i<zn.length):(zn.drop i).sum=zn[i]+(zn.drop (i+1)).sum:=by
 grind[a02]
theorem c4U{part rest:List Int}{wd:Nat}{a b:Int}{z:List Int}{p:Prt}(k:wd≤32)(hp:part.length<10000):∀(j i:Nat)(L:List Int),i+j=part.length→L.length+64*j<999990000→
  y0s a7p (rest,(wd:Int),a,b,part,(part.length:Int),(i:Int),z,wL L,p,())=some (rest,a,b,z,wL (a1u wd (part.drop i) L),p,())
 |0,i,L,hi,_=>by
  obtain rfl:i=part.length:=by omega
  simp_all[a0C,a7p,a1u]
 |j+1,i,L,hi,hb=>by
  have h:i<part.length:=by omega
  have g:decide ((wd:Int)<0)=false:=by simp
  have f:=a0L (a2x part[i] wd) wd L;rw[a02 h,a0E (s':=(rest,(wd:Int),a,b,part,(part.length:Int),((i+1:Nat):Int),z,wL (a0H (a2x part[i] wd) wd L),p,())) (by
   simp only[a7p,dlt h,cT,a0B h,oB,g,cF,show bits .u64 .and (wrap .u64 part[i]) (wrap .u64 ((A0n .u64 1 (wd:Int))-1))=a2x part[i] wd from rfl,a2M (show wd≤63 by omega) (show L.length<999999000 by omega),a0A (show i<1000000 by omega)])]
  exact c4U k hp j (i+1) _ (by omega) (by omega)
theorem b3w{zn:List Nat}{p:Prt}(N:p.2.1.length=zn.length)(c:p.2.1.all kB=true)(R:zn.length≤256):∀(j i:Nat)(l L:List Int),i+j=zn.length→(zn.drop i).sum=l.length→l.all a0D=true→l.length≤5000→L.length+10*j+100*l.length<800000000→
  y0s a3O (l,(zn.length:Int),(i:Int),a2e zn,wL L,p,())=some (wL (a3x (zn.drop i) (p.2.1.drop i) l L),())
 |0,i,l,L,hi,_,_,_,_=>by
  obtain rfl:i=zn.length:=by omega
  simp_all[a0C,a3O,a3x]
 |j+1,i,l,L,hi,hsum,hw,hl5,hb=>by
  have h:i<zn.length:=by omega
  have f:i<p.2.1.length:=by omega
  have s:=lA.1 c _ (a05 f);rw[b3V h]at hsum;have B:decide ((0:Int)≤(i:Int))=true:=by simp
  have C:decide ((i:Int)<(((a2e zn).length:Nat):Int))=true:=by simp_all[a2y]
  have D:decide ((0:Int)≤((zn[i]:Nat):Int))=true:=by simp
  have E:decide (((zn[i]:Nat):Int)≤((l.length:Nat):Int))=true:=by grind
  have t:(l.take zn[i]).length=zn[i]:=by simp_all
  have q:(l.drop zn[i]).length=(zn.drop (i+1)).sum:=by grind
  have w:(l.take zn[i]).all a0D=true:=lA.2 fun x A=>lA.1 hw x (a31 A);have y:(l.drop zn[i]).all a0D=true:=lA.2 fun x A=>lA.1 hw x (a32 A);have Q:=b2g s (l.take zn[i]) L;have O:=a0L (wrap .u64 p.2.1[i]) 5 L;have d:a0F (wL L,wrap .u64 p.2.1[i],(5:Int))=some (a1Q (wrap .u64 p.2.1[i]) 5,wL (a0H (wrap .u64 p.2.1[i]) 5 L)):=a2M (n:=5) (by omega) (by omega);have G:zn.drop i=zn[i]::zn.drop (i+1):=a02 h;have H:p.2.1.drop i=p.2.1[i]::p.2.1.drop (i+1):=a02 f;rw[G,H,a3x];have r:a3O (l,(zn.length:Int),(i:Int),a2e zn,wL L,p,())=some (.inl (l.drop zn[i],(zn.length:Int),((i+1:Nat):Int),a2e zn,wL (a7J p.2.1[i] (l.take zn[i]) L),p,())):=by
   by_cases h31:p.2.1[i]=31
   have m:(p.2.1[i] != 31)=false:=by simp_all
   have v:=a3F (l.take zn[i]);have u:=a6N (l:=l.take zn[i]) (by unfold short;omega);have P:=a0L ((a0K (l.take zn[i]):Nat):Int) 5 (a0H (wrap .u64 p.2.1[i]) 5 L);have I:wrap .u64 ((a0K (l.take zn[i]):Nat):Int)=((a0K (l.take zn[i]):Nat):Int):=a0G (by omega);have o:a0F (wL (a0H (wrap .u64 p.2.1[i]) 5 L),((a0K (l.take zn[i]):Nat):Int),(5:Int))=some (a1Q ((a0K (l.take zn[i]):Nat):Int) 5,wL (a0H ((a0K (l.take zn[i]):Nat):Int) 5 (a0H (wrap .u64 p.2.1[i]) 5 L))):=a2M (n:=5) (by omega) (by omega);have e:=c4U (part:=l.take zn[i]) (rest:=l.drop zn[i]) (a:=(zn.length:Int)) (b:=(i:Int)) (z:=a2e zn) (p:=p) v (by omega) (l.take zn[i]).length 0 (a0H ((a0K (l.take zn[i]):Nat):Int) 5 (a0H (wrap .u64 p.2.1[i]) 5 L)) (by omega) (by omega);simp only[nZ,a33]at e;simp only[a3O,dlt h,B,C,a7c h,D,E,cT,a04,tN,a0B f,oB,d,m,cF,u,I,o,a24,e,a0A (show i<1000000 by omega),a7J,if_pos h31];have m:(p.2.1[i] != 31)=true:=by simp_all
   simp[kB]at s;obtain⟨K,M⟩:=a01 (show 0≤p.2.1[i]by omega);have g:=c6D (k:=K) (l:=l.take zn[i]) (L:=a0H (wrap .u64 p.2.1[i]) 5 L) (by omega) (by omega) w (by omega);rw[←M]at g;have F:K=p.2.1[i].toNat:=by omega
   simp only[a3O,dlt h,B,C,a7c h,D,E,cT,a04,tN,a0B f,oB,d,m,g,a24,a0A (show i<1000000 by omega),a7J,if_neg h31,F]
  rw[a0E r];exact b3w N c R j (i+1) (l.drop zn[i]) _ (by omega) q.symm y (by omega) (by omega)
theorem b0Y{zn:List Nat}{p:Prt}{l:List Int}(N:p.2.1.length=zn.length)(b:p.2.1.all kB=true)(T:zn.length≤256)(E:l.all a0D=true)(s:l.length≤5000):∀(j i off:Nat)(L:List Int),i+j=zn.length→off+(zn.drop i).sum=l.length→L.length+10*j+100*(l.length-off)<800000000→
  y0s a2Q (l,(off:Int),(i:Int),a2e zn,(L,()),p,())=some ((a3x (zn.drop i) (p.2.1.drop i) (l.drop off) L,()),())
 |0,i,off,L,hi,_,_=>by
  obtain rfl:i=zn.length:=by omega
  simp_all[a0C,a2Q,a3x,a2y]
 |j+1,i,off,L,hi,hsum,hb=>by
  have a:i<zn.length:=by omega
  have f:i<p.2.1.length:=by omega
  have q:=lA.1 b _ (a05 f);rw[b3V a]at hsum;have y:decide ((0:Int)≤(i:Int))=true:=by simp
  have z:decide ((i:Int)<(((a2e zn).length:Nat):Int))=true:=by simp_all[a2y]
  have w:wrap .i64 ((off:Int)+((zn[i]:Nat):Int))=((off+zn[i]:Nat):Int):=by grind[a0J]
  have A:decide ((0:Int)≤((off+zn[i]:Nat):Int))=true:=by rfl
  have B:decide (((off+zn[i]:Nat):Int)≤((l.length:Nat):Int))=true:=by grind
  have C:decide ((0:Int)≤(off:Int))=true:=by simp
  have D:decide ((off:Int)≤((off+zn[i]:Nat):Int))=true:=by grind
  have h:List.drop off (b17 (off+zn[i]) l)=(l.drop off).take zn[i]:=by grind
  have d:(l.drop off).drop zn[i]=l.drop (off+zn[i]):=by simp
  have t:((l.drop off).take zn[i]).length=zn[i]:=by rw[a60,a71];omega
  have v:((l.drop off).take zn[i]).all a0D=true:=lA.2 fun x S=>lA.1 E x (a32 (a31 S));have Q:=b2g q ((l.drop off).take zn[i]) L;have O:=a0L (wrap .u64 p.2.1[i]) 5 L;have c:a0I ((L,()),wrap .u64 p.2.1[i],(5:Int))=some (a1Q (wrap .u64 p.2.1[i]) 5,a0H (wrap .u64 p.2.1[i]) 5 L,()):=a1o (n:=5) (by omega) (by omega);have G:zn.drop i=zn[i]::zn.drop (i+1):=a02 a;have H:p.2.1.drop i=p.2.1[i]::p.2.1.drop (i+1):=a02 f;rw[G,H,a3x,d];have o:a2Q (l,(off:Int),(i:Int),a2e zn,(L,()),p,())=some (.inl (l,((off+zn[i]:Nat):Int),((i+1:Nat):Int),a2e zn,(a7J p.2.1[i] ((l.drop off).take zn[i]) L,()),p,())):=by
   by_cases h31:p.2.1[i]=31
   have e:(p.2.1[i]==31)=true:=by simp_all
   have R:=a3F ((l.drop off).take zn[i]);have u:=a9x (l:=(l.drop off).take zn[i]) (by unfold short;omega);have P:=a0L ((a0K ((l.drop off).take zn[i]):Nat):Int) 5 (a0H (wrap .u64 p.2.1[i]) 5 L);have I:wrap .u64 ((a0K ((l.drop off).take zn[i]):Nat):Int)=((a0K ((l.drop off).take zn[i]):Nat):Int):=a0G (by omega);have m:a0I ((a0H (wrap .u64 p.2.1[i]) 5 L,()),((a0K ((l.drop off).take zn[i]):Nat):Int),(5:Int))=some (a1Q ((a0K ((l.drop off).take zn[i]):Nat):Int) 5,a0H ((a0K ((l.drop off).take zn[i]):Nat):Int) 5 (a0H (wrap .u64 p.2.1[i]) 5 L),()):=a1o (n:=5) (by omega) (by omega);have r:=a5Q (l:=(l.drop off).take zn[i]) (L:=a0H ((a0K ((l.drop off).take zn[i]):Nat):Int) 5 (a0H (wrap .u64 p.2.1[i]) 5 L)) (n:=a0K ((l.drop off).take zn[i])) (by omega) (by omega) (by omega);simp only[a2Q,y,z,a7c a,w,A,B,C,D,cT,a04,tN,a0B f,oB,c,e,h,u,I,m,r,a0A (show i<1000000 by omega),a7J,if_pos h31];have e:(p.2.1[i]==31)=false:=by simp_all
   simp[kB]at q;obtain⟨K,M⟩:=a01 (show 0≤p.2.1[i]by omega);have g:=c1J (k:=K) (l:=(l.drop off).take zn[i]) (L:=a0H (wrap .u64 p.2.1[i]) 5 L) (by omega) (by omega) v (by omega);rw[←M]at g;have F:K=p.2.1[i].toNat:=by omega
   simp only[a2Q,y,z,a7c a,w,A,B,C,D,cT,cF,a04,tN,a0B f,oB,c,e,h,g,a0A (show i<1000000 by omega),a7J,if_neg h31,F]
  rw[a0E o];exact b0Y N b T E s j (i+1) (off+zn[i]) _ (by omega) (by omega) (by omega)
theorem c1K(d:k≤25)(g:a0D x=true):∃c,b0D ((k:Int),x)=some c∧0≤c∧c≤65:=by
 have e:=b2b g;have f:A0o .u64 ((a0O x:Nat):Int) (k:Int)=((a0O x / 2^k:Nat):Int):=a3G (by omega);have a:wrap .i64 ((a0O x / 2^k:Nat):Int)=((a0O x / 2^k:Nat):Int):=a9T (a37 (a28 _ _) e);have h:decide ((k:Int)<0)=false:=by simp
 unfold b0D;simp only[b1s d,b2a,g,oB,bT,cF,b2c g,h,f,a];generalize a0O x / 2^k=q
 by_cases hq:q<32
 have b:decide ((q:Int)<32)=true:=decide_eq_true (by omega);refine⟨(q:Int)+1+k,?_,by omega,by omega⟩;simp only[b,cT]
 grind[a0J]
 grind
theorem b6I(e:k≤25)(g:a0D x=true):∃c,a8s ((k:Int),x)=some c∧0≤c∧c≤65:=by
 have i:=b2b g;have f:A0o .u64 ((a0O x:Nat):Int) (k:Int)=((a0O x / 2^k:Nat):Int):=a3G (by omega);have b:wrap .i64 ((a0O x / 2^k:Nat):Int)=((a0O x / 2^k:Nat):Int):=a9T (a37 (a28 _ _) i);have a:wrap .u64 (k:Int)=(k:Int):=a0G (by omega);have h:decide ((k:Int)<0)=false:=by simp
 unfold a8s;simp only[b2f e,a1M,g,oB,bT,cF,b3b g,a,h,f,b];generalize a0O x / 2^k=q
 by_cases hq:q<32
 have d:decide ((q:Int)<32)=true:=decide_eq_true (by omega);refine⟨(q:Int)+1+k,?_,by omega,by omega⟩;simp only[d,cT]
 grind[a0J]
 grind
theorem c3C(o:k≤25)(p:l.all a0D=true)(s:l.length<10000):∃c,a5E ((k:Int),l)=some c∧0≤c∧c≤65*l.length:=by
 have g:∀(j i:Nat)(c:Int),i+j=l.length→0≤c→c≤65*i→∃c',y0s a8n ((k:Int),c,l,(l.length:Int),(i:Int),())=some (c',())∧0≤c'∧c'≤65*l.length:=by
  intro j
  induction j with
  |zero=>
   intro i c hi a f;obtain rfl:i=l.length:=by omega
   simp_all[a0C,a8n]
  |succ j ih=>
   intro i c hi a f;have h:i<l.length:=by omega
   obtain⟨d,b,m,n⟩:=c1K o (lA.1 p _ (a05 h));have e:wrap .i64 (c+d)=c+d:=a0J (by omega);rw[a0E (s':=((k:Int),c+d,l,(l.length:Int),((i+1:Nat):Int),())) (by simp only[a8n,dlt h,cT,a0B h,oB,b,e,a0A (show i<1000000 by omega)])];exact ih (i+1) _ (by omega) (by omega) (by omega)
 obtain⟨c,f,q,r⟩:=g l.length 0 0 (by omega) (by omega) (by omega);simp_all[a5E]
theorem b8a(o:k≤25)(p:l.all a0D=true)(s:l.length<10000):∃c,a9m ((k:Int),l)=some c∧0≤c∧c≤65*l.length:=by
 have g:∀(j i:Nat)(c:Int),i+j=l.length→0≤c→c≤65*i→∃c',y0s a6I ((k:Int),l,c,(i:Int),())=some (c',())∧0≤c'∧c'≤65*l.length:=by
  intro j
  induction j with
  |zero=>
   intro i c hi a f;obtain rfl:i=l.length:=by omega
   simp_all[a0C,a6I]
  |succ j ih=>
   intro i c hi a f;have h:i<l.length:=by omega
   obtain⟨d,b,m,n⟩:=b6I o (lA.1 p _ (a05 h));have e:wrap .i64 (c+d)=c+d:=a0J (by omega);rw[a0E (s':=((k:Int),l,c+d,((i+1:Nat):Int),())) (by simp only[a6I,dlt h,cT,a0B h,oB,b,e,a0A (show i<1000000 by omega)])];exact ih (i+1) _ (by omega) (by omega) (by omega)
 obtain⟨c,f,q,r⟩:=g l.length 0 0 (by omega) (by omega) (by omega);simp_all[a9m]
theorem c2k{w n:Nat}(g:w≤32)(f:n<10000):0≤(w:Int)*(n:Int)∧(w:Int)*(n:Int)≤32*n:=by
 have h:w*n≤32*n:=a62 _ g;omega
theorem c1L(h:l.length<10000):∃c,a8d l=some c∧0≤c∧c≤5+32*l.length:=by
 have g:=c2k (a3F l) h;refine⟨5+((a0K l:Nat):Int)*((l.length:Nat):Int),?_,by omega,by omega⟩;unfold a8d;simp only[a6N (show short l by unfold short;omega),oB]
 grind[a0J]
theorem b2K{zn:List Nat}{p:Prt}(H:p.2.1.length=zn.length)(g:p.2.1.all kB=true)(I:zn.length≤256):∀(j i:Nat)(l:List Int)(c:Int),i+j=zn.length→(zn.drop i).sum=l.length→l.all a0D=true→l.length≤5000→4≤c→c+10*j+65*l.length<1000000→
  ∃c',y0s a3l (l,c,(zn.length:Int),(i:Int),a2e zn,p,())=some (c',())∧4≤c'
 |0,i,l,c,hi,_,_,_,hc,_=>by
  obtain rfl:i=zn.length:=by omega
  simp_all[a0C,a3l]
 |j+1,i,l,c,hi,hsum,hw,hl5,hc,hb=>by
  have h:i<zn.length:=by omega
  have f:i<p.2.1.length:=by omega
  have q:=lA.1 g _ (a05 f);rw[b3V h]at hsum;have z:decide ((0:Int)≤(i:Int))=true:=by simp
  have A:decide ((i:Int)<(((a2e zn).length:Nat):Int))=true:=by simp_all[a2y]
  have B:decide ((0:Int)≤((zn[i]:Nat):Int))=true:=by simp
  have C:decide (((zn[i]:Nat):Int)≤((l.length:Nat):Int))=true:=by grind
  have s:(l.take zn[i]).length=zn[i]:=by simp_all
  have b:(l.drop zn[i]).length=(zn.drop (i+1)).sum:=by grind
  have v:(l.take zn[i]).all a0D=true:=lA.2 fun x y=>lA.1 hw x (a31 y);have w:(l.drop zn[i]).all a0D=true:=lA.2 fun x y=>lA.1 hw x (a32 y);have e:∃d,a3l (l,c,(zn.length:Int),(i:Int),a2e zn,p,())=some (.inl (l.drop zn[i],c+d,(zn.length:Int),((i+1:Nat):Int),a2e zn,p,()))∧0≤d∧d≤10+65*zn[i]:=by
   by_cases h31:p.2.1[i]=31
   have a:(p.2.1[i]==31)=true:=by simp_all
   obtain⟨r,m,t,u⟩:=c1L (l:=l.take zn[i]) (by omega);have n:wrap .i64 (5+r)=5+r:=a0J (by omega);have o:wrap .i64 (c+(5+r))=c+(5+r):=a0J (by omega);refine⟨5+r,?_,by omega,by omega⟩;simp only[a3l,dlt h,z,A,a7c h,B,C,cT,a04,tN,a0B f,oB,a,m,n,o,a24,a0A (show i<1000000 by omega)];have a:(p.2.1[i]==31)=false:=by simp_all
   simp[kB]at q;obtain⟨K,D⟩:=a01 (show 0≤p.2.1[i]by omega);obtain⟨r,m,t,u⟩:=c3C (k:=K) (by omega) v (by omega);rw[←D]at m;have n:wrap .i64 (5+r)=5+r:=a0J (by omega);have o:wrap .i64 (c+(5+r))=c+(5+r):=a0J (by omega);refine⟨5+r,?_,by omega,by omega⟩;simp only[a3l,dlt h,z,A,a7c h,B,C,cT,cF,a04,tN,a0B f,oB,a,m,n,o,a24,a0A (show i<1000000 by omega)]
  obtain⟨d,E,F,G⟩:=e;rw[a0E E];exact b2K H g I j (i+1) (l.drop zn[i]) _ (by omega) b.symm w (by omega) (by omega) (by omega)
theorem a9H{zn:List Nat}{p:Prt}{l:List Int}(H:p.2.1.length=zn.length)(h:p.2.1.all kB=true)(N:zn.length≤256)(t:l.all a0D=true)(o:l.length≤5000):∀(j i off:Nat)(c:Int),i+j=zn.length→off+(zn.drop i).sum=l.length→4≤c→c+10*j+65*(l.length-off:Nat)<1000000→
  ∃c',y0s a5j (l,c,(off:Int),(i:Int),a2e zn,p,())=some (c',())∧4≤c'
 |0,i,off,c,hi,_,hc,_=>by
  obtain rfl:i=zn.length:=by omega
  simp_all[a0C,a5j,a2y]
 |j+1,i,off,c,hi,hsum,hc,hb=>by
  have b:i<zn.length:=by omega
  have a:i<p.2.1.length:=by omega
  have m:=lA.1 h _ (a05 a);rw[b3V b]at hsum;have y:decide ((0:Int)≤(i:Int))=true:=by simp
  have z:decide ((i:Int)<(((a2e zn).length:Nat):Int))=true:=by simp_all[a2y]
  have w:wrap .i64 ((off:Int)+((zn[i]:Nat):Int))=((off+zn[i]:Nat):Int):=by grind[a0J]
  have A:decide ((0:Int)≤((off+zn[i]:Nat):Int))=true:=by rfl
  have B:decide (((off+zn[i]:Nat):Int)≤((l.length:Nat):Int))=true:=by grind
  have C:decide ((0:Int)≤(off:Int))=true:=by simp
  have D:decide ((off:Int)≤((off+zn[i]:Nat):Int))=true:=by grind
  have g:List.drop off (b17 (off+zn[i]) l)=(l.drop off).take zn[i]:=by grind
  have q:((l.drop off).take zn[i]).length=zn[i]:=by rw[a60,a71];omega
  have s:((l.drop off).take zn[i]).all a0D=true:=lA.2 fun x M=>lA.1 t x (a32 (a31 M));have f:∃d,a8t (p.2.1[i],(l.drop off).take zn[i])=some d∧0≤d∧d≤5+65*zn[i]:=by
   unfold a8t
   by_cases h31:p.2.1[i]=31
   have e:(p.2.1[i]==31)=true:=by simp_all
   have P:=c2k (a3F ((l.drop off).take zn[i])) (show((l.drop off).take zn[i]).length<10000 by omega);refine⟨5+((a0K ((l.drop off).take zn[i]):Nat):Int)*((((l.drop off).take zn[i]).length:Nat):Int),?_,by omega,by omega⟩;simp only[e,cT,a9x (show short ((l.drop off).take zn[i])by unfold short;omega),oB];rw[Int.mul_comm (((((l.drop off).take zn[i]).length:Nat):Int)),a0J (n:=((a0K ((l.drop off).take zn[i]):Nat):Int)*((((l.drop off).take zn[i]).length:Nat):Int)) (by omega),a0J (by omega)];have e:(p.2.1[i]==31)=false:=by simp_all
   simp[kB]at m;obtain⟨K,O⟩:=a01 (show 0≤p.2.1[i]by omega);obtain⟨r,Q,I,L⟩:=b8a (k:=K) (by omega) s (by omega)
   grind
  obtain⟨d,E,F,G⟩:=f;have u:wrap .i64 (c+5)=c+5:=a0J (by omega);have v:wrap .i64 (c+5+d)=c+5+d:=a0J (by omega);rw[a0E (s':=(l,c+5+d,((off+zn[i]:Nat):Int),((i+1:Nat):Int),a2e zn,p,())) (by
   simp only[a5j,y,z,a7c b,w,A,B,C,D,cT,a04,tN,a0B a,oB,g,E,u,v,a0A (show i<1000000 by omega)])]
  exact a9H H h N t o j (i+1) (off+zn[i]) _ (by omega) (by omega) (by omega) (by omega)
structure PartsOk (p:Prt) (n warm:Int) (l:List Int) (zn:List Nat):Prop where
 may:a7a p n warm=true
 sizes:a1I p.1 n warm=a2e zn
 sum:zn.sum=l.length
 len:zn.length≤256
 ks:p.2.1.length=zn.length
 all:p.2.1.all kB=true
 wide:l.all a0D=true
 short:l.length≤5000
 row:a7V n warm=true
 rest:(l.length:Int)=n-warm
 order:0≤p.1∧p.1≤8
theorem PartsOk.of{p:Prt}{n warm:Int}{l:List Int}(h:a7a p n warm=true)(i:(l.length:Int)=n-warm)(j:l.all a0D=true)(e:l.length≤5000):∃g,PartsOk p n warm l g:=by
 have f:=h;simp only[a7a,bA,b01,beq_eq_false_iff_ne,ne_eq,beq_iff_eq]at f;obtain⟨c,o,d⟩:=f;obtain⟨g,a,m,b⟩:=c6E c;have k:a7V n warm=true∧0≤p.1∧p.1≤8:=by
  grind[a1I]
 exact⟨g,h,a,by omega,b,by simp_all[a2y],d,j,e,k.1,i,k.2⟩
theorem c1M(h:a7V n warm=true)(c:(l.length:Int)=n-warm)(d:l.all a0D=true)(a:l.length≤5000):a6c (n,warm,l)=some true:=by
 have e:wrap .i64 (n-warm)=n-warm:=by
  simp[a7V]at h;exact a0J (by omega)
 have k:(((l.length:Nat):Int) != n-warm)=false:=by simp_all
 have f:b1K=a2f:=rfl;have g:short l:=by unfold short;omega
 have b:=a7H g;simp_all[a2a,a6c,b5t]
theorem b9p(h:PartsOk p n warm l zn):∃c,a6P (p,n,warm,l)=some c∧4≤c:=by
 have k:Go.Ab.short p.2.1:=by have:=h.ks;have:=h.len;unfold Go.Ab.short;omega
 have a:=h.short;have b:=h.len;obtain⟨c,g,f⟩:=b2K h.ks h.all h.len zn.length 0 l 4 (by omega) (by rw[a33];exact h.sum) h.wide h.short (by omega) (by omega);simp at g;refine⟨c,?_,f⟩;unfold a6P;simp only[b1X k,h.may,c1M h.row h.rest h.wide h.short,oB,bT,cF,a9Q,h.sizes,a2y,g]
theorem b5z(h:PartsOk p n warm l zn):∃c,a7C (p,n,warm,l)=some c∧4≤c:=by
 have a:Go.Ab.short p.2.1:=by have:=h.ks;have:=h.len;unfold Go.Ab.short;omega
 have d:Go.Ab.short l:=by have:=h.short;unfold Go.Ab.short;omega
 have i:=h.short;have j:=h.len;have b:=h.row;simp[a7V]at b;have e:wrap .i64 (n-warm)=n-warm:=a0J (by omega);have k:(((l.length:Nat):Int) != n-warm)=false:=by rw[h.rest];simp
 obtain⟨c,g,f⟩:=a9H h.ks h.all h.len h.wide h.short zn.length 0 0 4 (by omega) (by rw[a33,h.sum];omega) (by omega) (by omega);simp at g;refine⟨c,?_,f⟩;unfold a7C;simp only[a9v a,h.may,oB,bT,cF,e,k,a1m d,h.wide,a7W,h.sizes,g]
def a2k(p:Prt)(zn:List Nat)(l L:List Int):List Int:=a3x zn p.2.1 l (a0H (wrap .u64 p.1) 4 L)
theorem c4V(h:PartsOk p n warm l zn)(i:L.length<700000000):b0E (wL L,p,n,warm,l)=some (0,wL (a2k p zn l L)):=by
 have e:=h.short;have j:=h.len;obtain⟨c,a,b⟩:=b9p h;have k:(c==0)=false:=by grind
 have d:=a0L (wrap .u64 p.1) 4 L;have f:a0F (wL L,wrap .u64 p.1,(4:Int))=some (a1Q (wrap .u64 p.1) 4,wL (a0H (wrap .u64 p.1) 4 L)):=a2M (n:=4) (by omega) (by omega);have g:=b3w h.ks h.all h.len zn.length 0 l (a0H (wrap .u64 p.1) 4 L) (by omega) (by rw[a33];exact h.sum) h.wide h.short (by omega);simp at g;unfold b0E;simp only[a,oB,k,cF,f,a9Q,h.sizes,a2y,g,a2k]
theorem b9q(h:PartsOk p n warm l zn)(i:L.length<700000000):a8u ((L,()),p,n,warm,l)=some (0,a2k p zn l L,()):=by
 have e:=h.short;have j:=h.len;obtain⟨c,a,b⟩:=b5z h;have k:(c==0)=false:=by grind
 have d:=a0L (wrap .u64 p.1) 4 L;have f:a0I ((L,()),wrap .u64 p.1,(4:Int))=some (a1Q (wrap .u64 p.1) 4,a0H (wrap .u64 p.1) 4 L,()):=a1o (n:=4) (by omega) (by omega);have g:=b0Y h.ks h.all h.len h.wide h.short zn.length 0 0 (a0H (wrap .u64 p.1) 4 L) (by omega) (by rw[a33,h.sum];omega) (by omega);simp at g;unfold a8u;simp only[a,oB,k,cF,f,a7W,h.sizes,g,a2k]
theorem b9r{c:List Int}{wd:Nat}(k:wd≤32)(g:c.length<10000):∀(j i:Nat)(L:List Int),i+j=c.length→L.length+64*j<999990000→
  y0s a5b ((wd:Int),c,(c.length:Int),(i:Int),wL L,())=some (wL (a1u wd (c.drop i) L),())
 |0,i,L,hi,_=>by
  obtain rfl:i=c.length:=by omega
  simp_all[a0C,a5b,a1u]
 |j+1,i,L,hi,hb=>by
  have h:i<c.length:=by omega
  have f:=a0L (a2x c[i] wd) wd L;rw[a02 h,a0E (s':=((wd:Int),c,(c.length:Int),((i+1:Nat):Int),wL (a0H (a2x c[i] wd) wd L),())) (by
   simp only[a5b,dlt h,cT,a0B h,oB,b1Z (show wd≤63 by omega) (show L.length<999999000 by omega),a0A (show i<1000000 by omega)])]
  exact b9r k g j (i+1) _ (by omega) (by omega)
theorem c2l{t:List Int}{n wd:Int}{s:Sub}(a:t.length=3):∀(j i:Nat)(L:List Int),i+j=3→L.length+64*j<999990000→
  y0s a8Z (n,wd,t,(i:Int),wL L,s,())=some (n,wd,wL (a1u 8 (t.drop i) L),s,())
 |0,i,L,hi,_=>by
  obtain rfl:i=t.length:=by omega
  grind[a0C,a8Z,a1u]
 |j+1,i,L,hi,hb=>by
  have h:i<t.length:=by omega
  have f:decide ((i:Int)<3)=true:=by grind
  have k:=a0L (a2x t[i] 8) 8 L;have g:a2r (wL L,t[i],(8:Int))=some (wL (a0H (a2x t[i] 8) 8 L)):=b1Z (n:=8) (by omega) (by omega);rw[a02 h,a0E (s':=(n,wd,t,((i+1:Nat):Int),wL (a0H (a2x t[i] 8) 8 L),s,())) (by
   simp only[a8Z,f,cT,a0B h,oB,g,a0A (show i<1000000 by omega)])]
  exact c2l a j (i+1) _ (by omega) (by omega)
theorem c2m{l:List Int}{n:Int}{wd:Nat}{s:Sub}(k:wd≤32)(g:l.length<10000):∀(j i:Nat)(L:List Int),i+j=l.length→L.length+64*j<999990000→
  y0s a9b (n,(wd:Int),l,(l.length:Int),(i:Int),wL L,s,())=some (n,wL (a1u wd (l.drop i) L),s,())
 |0,i,L,hi,_=>by
  obtain rfl:i=l.length:=by omega
  simp_all[a0C,a9b,a1u]
 |j+1,i,L,hi,hb=>by
  have h:i<l.length:=by omega
  have f:=a0L (a2x l[i] wd) wd L;rw[a02 h,a0E (s':=(n,(wd:Int),l,(l.length:Int),((i+1:Nat):Int),wL (a0H (a2x l[i] wd) wd L),s,())) (by
   simp only[a9b,dlt h,cT,a0B h,oB,b1Z (show wd≤63 by omega) (show L.length<999999000 by omega),a0A (show i<1000000 by omega)])]
  exact c2m k g j (i+1) _ (by omega) (by omega)
def a7d(s:Stg)(L:List Int):List Int:=a0H (wrap .u64 s.2.1) 4 (a0H (wrap .u64 (wrap .i64 (s.1-1))) 5 L)
def a3q(st:List Stg)(L:List Int):List Int:=st.foldl (fun L s=>a7d s L) L
theorem b1n(s:Stg)(L:List Int):(a7d s L).length≤L.length+9:=by
 grind[a0L,a7d]
theorem b3x:∀(st:List Stg)(L:List Int),(a3q st L).length≤L.length+9*st.length
 | [],L=>by simp[a3q]
 |s::st,L=>by
  have h:=b1n s L;have g:=b3x st (a7d s L);have e:a3q (s::st) L=a3q st (a7d s L):=rfl
  grind
theorem b7d{st:List Stg}{n wd:Int}{s:Sub}(a:st.length<10000):∀(j i:Nat)(L:List Int),i+j=st.length→L.length+64*j<999990000→
  y0s a9a (n,wd,st,(st.length:Int),(i:Int),wL L,s,())=some (n,wd,wL (a3q (st.drop i) L),s,())
 |0,i,L,hi,_=>by
  obtain rfl:i=st.length:=by omega
  simp_all[a0C,a9a,a3q]
 |j+1,i,L,hi,hb=>by
  have h:i<st.length:=by omega
  have k:=a0L (wrap .u64 (wrap .i64 (st[i].1-1))) 5 L;have b:=b1n st[i] L;have g:a0F (wL L,wrap .u64 (wrap .i64 (st[i].1-1)),(5:Int))=some (a1Q (wrap .u64 (wrap .i64 (st[i].1-1))) 5,wL (a0H (wrap .u64 (wrap .i64 (st[i].1-1))) 5 L)):=a2M (n:=5) (by omega) (by omega);have f:a0F (wL (a0H (wrap .u64 (wrap .i64 (st[i].1-1))) 5 L),wrap .u64 st[i].2.1,(4:Int))=some (a1Q (wrap .u64 st[i].2.1) 4,wL (a7d st[i] L)):=a2M (n:=4) (by omega) (by omega);rw[a02 h,a0E (s':=(n,wd,st,(st.length:Int),((i+1:Nat):Int),wL (a7d st[i] L),s,())) (by
   simp only[a9a,dlt h,cT,a0B h,oB,g,f,a0A (show i<1000000 by omega)])]
  exact b7d a j (i+1) _ (by omega) (by omega)
theorem b2L{n wd:Int}{s:Sub}(a:s.2.2.2.2.2.2.2.1.length<10000):∀(j i:Nat)(L:List Int),i+j=s.2.2.2.2.2.2.2.1.length→L.length+64*j<999990000→
  y0s a6J (n,wd,(i:Int),(L,()),s,())=some (n,wd,(a3q (s.2.2.2.2.2.2.2.1.drop i) L,()),s,())
 |0,i,L,hi,_=>by
  obtain rfl:i=s.2.2.2.2.2.2.2.1.length:=by omega
  simp_all[a0C,a6J,a3q]
 |j+1,i,L,hi,hb=>by
  have h:i<s.2.2.2.2.2.2.2.1.length:=by omega
  have k:=a0L (wrap .u64 (wrap .i64 (s.2.2.2.2.2.2.2.1[i].1-1))) 5 L;have b:=b1n s.2.2.2.2.2.2.2.1[i] L;have g:a0I ((L,()),wrap .u64 (wrap .i64 (s.2.2.2.2.2.2.2.1[i].1-1)),(5:Int))=some (a1Q (wrap .u64 (wrap .i64 (s.2.2.2.2.2.2.2.1[i].1-1))) 5,a0H (wrap .u64 (wrap .i64 (s.2.2.2.2.2.2.2.1[i].1-1))) 5 L,()):=a1o (n:=5) (by omega) (by omega);have f:a0I ((a0H (wrap .u64 (wrap .i64 (s.2.2.2.2.2.2.2.1[i].1-1))) 5 L,()),wrap .u64 s.2.2.2.2.2.2.2.1[i].2.1,(4:Int))=some (a1Q (wrap .u64 s.2.2.2.2.2.2.2.1[i].2.1) 4,a7d s.2.2.2.2.2.2.2.1[i] L,()):=a1o (n:=4) (by omega) (by omega);rw[a02 h,a0E (s':=(n,wd,((i+1:Nat):Int),(a7d s.2.2.2.2.2.2.2.1[i] L,()),s,())) (by
   simp only[a6J,dlt h,cT,a0B h,oB,g,f,a0A (show i<1000000 by omega)])]
  exact b2L a j (i+1) _ (by omega) (by omega)
def a4P(s:Sub)(L:List Int):List Int:=
 a1u (a0K s.2.2.2.2.2.1) s.2.2.2.2.2.1 (a0H ((a0K s.2.2.2.2.2.1:Nat):Int) 5 (a0H (wrap .u64 s.2.2.2.1) 4 (a0H (wrap .u64 (wrap .i64 (((s.2.2.2.2.2.1.length:Nat):Int)-1))) 5 L)))
theorem c3D{s:Sub}(h:s.2.2.2.2.2.1.length≤40)(L:List Int):(a4P s L).length≤L.length+2000:=by
 unfold a4P;have f:=a0L (wrap .u64 (wrap .i64 (((s.2.2.2.2.2.1.length:Nat):Int)-1))) 5 L;have k:=a0L (wrap .u64 s.2.2.2.1) 4 (a0H (wrap .u64 (wrap .i64 (((s.2.2.2.2.2.1.length:Nat):Int)-1))) 5 L);have a:=a0L ((a0K s.2.2.2.2.2.1:Nat):Int) 5 (a0H (wrap .u64 s.2.2.2.1) 4 (a0H (wrap .u64 (wrap .i64 (((s.2.2.2.2.2.1.length:Nat):Int)-1))) 5 L));have b:=a3i (a0K s.2.2.2.2.2.1) s.2.2.2.2.2.1 (a0H ((a0K s.2.2.2.2.2.1:Nat):Int) 5 (a0H (wrap .u64 s.2.2.2.1) 4 (a0H (wrap .u64 (wrap .i64 (((s.2.2.2.2.2.1.length:Nat):Int)-1))) 5 L)));have g:=a3F s.2.2.2.2.2.1
 have:a0K s.2.2.2.2.2.1*s.2.2.2.2.2.1.length≤32*40:=a26 g h
 omega
theorem b7e(h:s.2.2.2.2.2.1.length≤40)(l:L.length<900000000):a7o (wL L,s)=some (wL (a4P s L)):=by
 have e:=a0L (wrap .u64 (wrap .i64 (((s.2.2.2.2.2.1.length:Nat):Int)-1))) 5 L;have i:=a0L (wrap .u64 s.2.2.2.1) 4 (a0H (wrap .u64 (wrap .i64 (((s.2.2.2.2.2.1.length:Nat):Int)-1))) 5 L);have j:=a0L ((a0K s.2.2.2.2.2.1:Nat):Int) 5 (a0H (wrap .u64 s.2.2.2.1) 4 (a0H (wrap .u64 (wrap .i64 (((s.2.2.2.2.2.1.length:Nat):Int)-1))) 5 L));have k:=a3F s.2.2.2.2.2.1;have f:wrap .u64 ((a0K s.2.2.2.2.2.1:Nat):Int)=((a0K s.2.2.2.2.2.1:Nat):Int):=a0G (by omega);have a:a0F (wL L,wrap .u64 (wrap .i64 (((s.2.2.2.2.2.1.length:Nat):Int)-1)),(5:Int))=some (a1Q (wrap .u64 (wrap .i64 (((s.2.2.2.2.2.1.length:Nat):Int)-1))) 5,wL (a0H (wrap .u64 (wrap .i64 (((s.2.2.2.2.2.1.length:Nat):Int)-1))) 5 L)):=a2M (n:=5) (by omega) (by omega);have b:a0F (wL (a0H (wrap .u64 (wrap .i64 (((s.2.2.2.2.2.1.length:Nat):Int)-1))) 5 L),wrap .u64 s.2.2.2.1,(4:Int))=some (a1Q (wrap .u64 s.2.2.2.1) 4,wL (a0H (wrap .u64 s.2.2.2.1) 4 (a0H (wrap .u64 (wrap .i64 (((s.2.2.2.2.2.1.length:Nat):Int)-1))) 5 L))):=a2M (n:=4) (by omega) (by omega);have d:a0F (wL (a0H (wrap .u64 s.2.2.2.1) 4 (a0H (wrap .u64 (wrap .i64 (((s.2.2.2.2.2.1.length:Nat):Int)-1))) 5 L)),((a0K s.2.2.2.2.2.1:Nat):Int),(5:Int))=some (a1Q ((a0K s.2.2.2.2.2.1:Nat):Int) 5,wL (a0H ((a0K s.2.2.2.2.2.1:Nat):Int) 5 (a0H (wrap .u64 s.2.2.2.1) 4 (a0H (wrap .u64 (wrap .i64 (((s.2.2.2.2.2.1.length:Nat):Int)-1))) 5 L)))):=a2M (n:=5) (by omega) (by omega);have g:=b9r (c:=s.2.2.2.2.2.1) k (by omega) s.2.2.2.2.2.1.length 0 (a0H ((a0K s.2.2.2.2.2.1:Nat):Int) 5 (a0H (wrap .u64 s.2.2.2.1) 4 (a0H (wrap .u64 (wrap .i64 (((s.2.2.2.2.2.1.length:Nat):Int)-1))) 5 L))) (by omega) (by omega);simp at g;unfold a7o;simp only[a,b,a6N (show short s.2.2.2.2.2.1 by unfold short;omega),f,d,g,oB,a4P]
theorem b2h(h:s.2.2.2.2.2.1.length≤40)(i:L.length<800000000):a4L ((L,()),s)=some (a4P s L,()):=by
 have c:=a0L (wrap .u64 (wrap .i64 (((s.2.2.2.2.2.1.length:Nat):Int)-1))) 5 L;have d:=a0L (wrap .u64 s.2.2.2.1) 4 (a0H (wrap .u64 (wrap .i64 (((s.2.2.2.2.2.1.length:Nat):Int)-1))) 5 L);have e:=a0L ((a0K s.2.2.2.2.2.1:Nat):Int) 5 (a0H (wrap .u64 s.2.2.2.1) 4 (a0H (wrap .u64 (wrap .i64 (((s.2.2.2.2.2.1.length:Nat):Int)-1))) 5 L));have j:=a3F s.2.2.2.2.2.1;have f:wrap .u64 ((a0K s.2.2.2.2.2.1:Nat):Int)=((a0K s.2.2.2.2.2.1:Nat):Int):=a0G (by omega);have k:a0I ((L,()),wrap .u64 (wrap .i64 (((s.2.2.2.2.2.1.length:Nat):Int)-1)),(5:Int))=some (a1Q (wrap .u64 (wrap .i64 (((s.2.2.2.2.2.1.length:Nat):Int)-1))) 5,a0H (wrap .u64 (wrap .i64 (((s.2.2.2.2.2.1.length:Nat):Int)-1))) 5 L,()):=a1o (n:=5) (by omega) (by omega);have a:a0I ((a0H (wrap .u64 (wrap .i64 (((s.2.2.2.2.2.1.length:Nat):Int)-1))) 5 L,()),wrap .u64 s.2.2.2.1,(4:Int))=some (a1Q (wrap .u64 s.2.2.2.1) 4,a0H (wrap .u64 s.2.2.2.1) 4 (a0H (wrap .u64 (wrap .i64 (((s.2.2.2.2.2.1.length:Nat):Int)-1))) 5 L),()):=a1o (n:=4) (by omega) (by omega);have b:a0I ((a0H (wrap .u64 s.2.2.2.1) 4 (a0H (wrap .u64 (wrap .i64 (((s.2.2.2.2.2.1.length:Nat):Int)-1))) 5 L),()),((a0K s.2.2.2.2.2.1:Nat):Int),(5:Int))=some (a1Q ((a0K s.2.2.2.2.2.1:Nat):Int) 5,a0H ((a0K s.2.2.2.2.2.1:Nat):Int) 5 (a0H (wrap .u64 s.2.2.2.1) 4 (a0H (wrap .u64 (wrap .i64 (((s.2.2.2.2.2.1.length:Nat):Int)-1))) 5 L)),()):=a1o (n:=5) (by omega) (by omega);have g:=a5Q (l:=s.2.2.2.2.2.1) (n:=a0K s.2.2.2.2.2.1) (L:=a0H ((a0K s.2.2.2.2.2.1:Nat):Int) 5 (a0H (wrap .u64 s.2.2.2.1) 4 (a0H (wrap .u64 (wrap .i64 (((s.2.2.2.2.2.1.length:Nat):Int)-1))) 5 L))) (by omega) (by omega) (by omega);unfold a4L;simp only[k,a,a9x (show short s.2.2.2.2.2.1 by unfold short;omega),f,b,g,oB,a4P]
def a8B(s:Sub)(L:List Int):List Int:=
 a0H ((a0K s.2.2.2.2.2.2.2.2.1:Nat):Int) 5 (a0H (wrap .u64 s.2.1) 5 (a0H (wrap .u64 s.1) 3 L))
def a1k(s:Sub)(L:List Int):List Int:=
 if s.1=2 then a0H (wrap .u64 s.2.2.1) 3 L
 else if s.1=3 then a4P s L
 else if s.1=4 then a4P s (a1u 8 s.2.2.2.2.2.2.1 (a0H (wrap .u64 (wrap .i64 (s.2.2.2.2.1-1))) 10 L))
 else if s.1=5 then a3q s.2.2.2.2.2.2.2.1 (a0H (wrap .u64 ((s.2.2.2.2.2.2.2.1.length:Nat):Int)) 2 L)
 else L
theorem b5A(h:SmallS s)(L:List Int):(a1k s L).length≤L.length+3000:=by
 have f:=h.coefs;have k:=h.taps;have g:=h.stages
 grind[a1k,a0L,c3D,a3i,b3x]
theorem b1o:∀(zs:List Nat)(ks l L:List Int),ks.all kB=true→(a3x zs ks l L).length≤L.length+10*zs.length+100*l.length
 |z::zs,k::ks,l,L,h=>by
  simp only[a20,bA]at h;have g:=b2g h.1 (l.take z) L;have f:=b1o zs ks (l.drop z) (a7J k (l.take z) L) h.2;rw[a60]at g;rw[a71]at f;simp only[a3x,lC];omega
 | [],_,_,_,_=>by simp_all[a3x]
 |_::_,[],_,_,_=>by grind[a3x]
def a2l(s:Sub)(zn:List Nat)(L:List Int):List Int:=
 if s.1=0∨s.1=1 then a1u (a0K s.2.2.2.2.2.2.2.2.1) s.2.2.2.2.2.2.2.2.1 (a1k s (a8B s L))
 else a2k s.2.2.2.2.2.2.2.2.2.1 zn s.2.2.2.2.2.2.2.2.2.2.1 (a1u (a0K s.2.2.2.2.2.2.2.2.1) s.2.2.2.2.2.2.2.2.1 (a1k s (a8B s L)))
theorem b9s(h:SmallS s)(S:L.length<100000000):
  ∃(e:Int)(L':List Int),a8N (wL L,s,n)=some (e,wL L')∧(e=0∨L'=L)∧L'.length≤L.length+700000∧
   ((a1x s n).isSome=true→e=0∧∃a,L'=a2l s a L∧(s.1≠0∧s.1≠1→PartsOk s.2.2.2.2.2.2.2.2.2.1 n ((s.2.2.2.2.2.2.2.2.1.length:Nat):Int) s.2.2.2.2.2.2.2.2.2.2.1 a))∧((a1x s n).isSome=false→e=1∧L'=L):=by
 unfold a8N;simp only[c8N h,oB];cases hs:(a1x s n).isSome with
 |false=>exact⟨1,L,rfl,.inr rfl,by omega,fun h=>(by grind),fun _=>⟨rfl,rfl⟩⟩
 |true=>
  have hp:a1s s n:=by
   grind[a1x]
  obtain⟨Q,R,A,-,-,-,-,v,E,B,-,p⟩:=hp;have b:=b2I A;have m:=a3F s.2.2.2.2.2.2.2.2.1;have u:short s.2.2.2.2.2.2.2.2.1:=by have:=h.warm;unfold short;omega
  have c:=h.warm;have r:=h.rest;have C:=h.stages;have D:=h.taps;have q1:=a0L (wrap .u64 s.1) 3 L;have T:=a0L (wrap .u64 s.2.1) 5 (a0H (wrap .u64 s.1) 3 L);have U:=a0L ((a0K s.2.2.2.2.2.2.2.2.1:Nat):Int) 5 (a0H (wrap .u64 s.2.1) 5 (a0H (wrap .u64 s.1) 3 L));have z:wrap .u64 ((a0K s.2.2.2.2.2.2.2.2.1:Nat):Int)=((a0K s.2.2.2.2.2.2.2.2.1:Nat):Int):=a0G (by omega);have I:a0F (wL L,wrap .u64 s.1,(3:Int))=some (a1Q (wrap .u64 s.1) 3,wL (a0H (wrap .u64 s.1) 3 L)):=a2M (n:=3) (by omega) (by omega);have K:a0F (wL (a0H (wrap .u64 s.1) 3 L),wrap .u64 s.2.1,(5:Int))=some (a1Q (wrap .u64 s.2.1) 5,wL (a0H (wrap .u64 s.2.1) 5 (a0H (wrap .u64 s.1) 3 L))):=a2M (n:=5) (by omega) (by omega);have w:a0F (wL (a0H (wrap .u64 s.2.1) 5 (a0H (wrap .u64 s.1) 3 L)),((a0K s.2.2.2.2.2.2.2.2.1:Nat):Int),(5:Int))=some (a1Q ((a0K s.2.2.2.2.2.2.2.2.1:Nat):Int) 5,wL (a8B s L)):=a2M (n:=5) (by omega) (by omega);have N:(a8B s L).length≤L.length+13:=by unfold a8B;omega
  generalize hM:a8B s L=M at w N;have V:=b5A h M;have O:=a3i (a0K s.2.2.2.2.2.2.2.2.1) s.2.2.2.2.2.2.2.2.1 (a1k s M);have X:a0K s.2.2.2.2.2.2.2.2.1*s.2.2.2.2.2.2.2.2.1.length≤32*5000:=a26 m c;have g:=c2m (l:=s.2.2.2.2.2.2.2.2.1) (n:=n) (s:=s) m (by omega) s.2.2.2.2.2.2.2.2.1.length 0 (a1k s M) (by omega) (by omega);simp at g

  have i:=b7d (st:=s.2.2.2.2.2.2.2.1) (n:=n) (wd:=((a0K s.2.2.2.2.2.2.2.2.1:Nat):Int)) (s:=s) (by omega) s.2.2.2.2.2.2.2.1.length 0 (a0H (wrap .u64 ((s.2.2.2.2.2.2.2.1.length:Nat):Int)) 2 M) (by omega) (by grind[a0L]);have Y:=a0L (wrap .u64 (wrap .i64 (s.2.2.2.2.1-1))) 10 M;have Z:=a3i 8 s.2.2.2.2.2.2.1 (a0H (wrap .u64 (wrap .i64 (s.2.2.2.2.1-1))) 10 M);have j:=c2l (t:=s.2.2.2.2.2.2.1) (n:=n) (wd:=((a0K s.2.2.2.2.2.2.2.2.1:Nat):Int)) (s:=s) D 3 0 (a0H (wrap .u64 (wrap .i64 (s.2.2.2.2.1-1))) 10 M) (by rfl) (by omega);simp at i j;have F:a0F (wL M,wrap .u64 s.2.2.1,(3:Int))=some (a1Q (wrap .u64 s.2.2.1) 3,wL (a0H (wrap .u64 s.2.2.1) 3 M)):=a2M (n:=3) (by omega) (by omega);have G:a0F (wL M,wrap .u64 (wrap .i64 (s.2.2.2.2.1-1)),(10:Int))=some (a1Q (wrap .u64 (wrap .i64 (s.2.2.2.2.1-1))) 10,wL (a0H (wrap .u64 (wrap .i64 (s.2.2.2.2.1-1))) 10 M)):=a2M (n:=10) (by omega) (by omega);have H:a0F (wL M,wrap .u64 ((s.2.2.2.2.2.2.2.1.length:Nat):Int),(2:Int))=some (a1Q (wrap .u64 ((s.2.2.2.2.2.2.2.1.length:Nat):Int)) 2,wL (a0H (wrap .u64 ((s.2.2.2.2.2.2.2.1.length:Nat):Int)) 2 M)):=a2M (n:=2) (by omega) (by omega);have x:=b7e (s:=s) h.coefs (L:=M) (by omega);have y:=b7e (s:=s) h.coefs (L:=a1u 8 s.2.2.2.2.2.2.1 (a0H (wrap .u64 (wrap .i64 (s.2.2.2.2.1-1))) 10 M)) (by omega);simp only[bT,cF,a6N u,oB,I,K,z,w];generalize hPM:a1u (a0K s.2.2.2.2.2.2.2.2.1) s.2.2.2.2.2.2.2.2.1 (a1k s M)=PM at g O

  have o:∀(d:s.1≠0∧s.1≠1),∃a,PartsOk s.2.2.2.2.2.2.2.2.2.1 n ((s.2.2.2.2.2.2.2.2.1.length:Nat):Int) s.2.2.2.2.2.2.2.2.2.2.1 a:=fun d=>by
   simp_all[PartsOk.of]
  rcases b with k|k|k|k|k|k;have f:a1k s M=M:=by unfold a1k;grind
  rw[f]at g;refine⟨0,PM,?_,.inl rfl,by omega,fun _=>⟨rfl,[],by simp_all[a2l],fun h=>absurd k (by omega)⟩,fun h=>by grind⟩;simp only[k,show((0:Int)==2)=false from rfl,show((0:Int)==4)=false from rfl,show((0:Int)==3)=false from rfl,show((0:Int)==5)=false from rfl,cF,oB,g,a7b]
  simp
  have f:a1k s M=M:=by unfold a1k;grind
  rw[f]at g;refine⟨0,PM,?_,.inl rfl,by omega,fun _=>⟨rfl,[],by simp_all[a2l],fun h=>absurd k (by omega)⟩,fun h=>by grind⟩;simp only[k,show((1:Int)==2)=false from rfl,show((1:Int)==4)=false from rfl,show((1:Int)==3)=false from rfl,show((1:Int)==5)=false from rfl,cF,oB,g,a7b]
  simp
  all_goals
   obtain⟨a,q⟩:=o (by omega);have t1:=c4V (L:=PM) q (by omega);have P:(a2k s.2.2.2.2.2.2.2.2.2.1 a s.2.2.2.2.2.2.2.2.2.2.1 PM).length≤L.length+700000:=by
    have z1:=a0L (wrap .u64 s.2.2.2.2.2.2.2.2.2.1.1) 4 PM;have z2:=b1o a s.2.2.2.2.2.2.2.2.2.1.2.1 s.2.2.2.2.2.2.2.2.2.2.1 (a0H (wrap .u64 s.2.2.2.2.2.2.2.2.2.1.1) 4 PM) q.all;have z3:=q.len
    grind[a2k]
   refine⟨0,a2k s.2.2.2.2.2.2.2.2.2.1 a s.2.2.2.2.2.2.2.2.2.2.1 PM,?_,.inl rfl,P,fun _=>⟨rfl,a,by simp_all[a2l],fun _=>q⟩,fun h=>by grind⟩
  have f:a1k s M=a0H (wrap .u64 s.2.2.1) 3 M:=by unfold a1k;grind
  rw[f]at g;simp only[k,show((2:Int)==2)=true from rfl,cT,F,oB,g,a7b]
  grind
  have f:a1k s M=a4P s M:=by unfold a1k;grind
  rw[f]at g;simp only[k,show((3:Int)==2)=false from rfl,show((3:Int)==4)=false from rfl,show((3:Int)==3)=true from rfl,cT,cF,x,oB,g,a7b]
  grind
  have f:a1k s M=a4P s (a1u 8 s.2.2.2.2.2.2.1 (a0H (wrap .u64 (wrap .i64 (s.2.2.2.2.1-1))) 10 M)):=by unfold a1k;grind
  rw[f]at g;simp only[k,show((4:Int)==2)=false from rfl,show((4:Int)==4)=true from rfl,cT,cF,G,j,y,oB,g,a7b]
  grind
  have f:a1k s M=a3q s.2.2.2.2.2.2.2.1 (a0H (wrap .u64 ((s.2.2.2.2.2.2.2.1.length:Nat):Int)) 2 M):=by unfold a1k;grind
  rw[f]at g;simp only[k,show((5:Int)==2)=false from rfl,show((5:Int)==4)=false from rfl,show((5:Int)==3)=false from rfl,show((5:Int)==5)=true from rfl,cT,cF,H,i,oB,g,a7b]
  grind
theorem c8O(h:SmallS s)(Q:L.length<100000000):
  ∃(e:Int)(L':List Int),a6Y ((L,()),s,n)=some (e,L',())∧(e=0∨L'=L)∧L'.length≤L.length+700000∧
   ((a1x s n).isSome=true→e=0∧∃a,L'=a2l s a L∧(s.1≠0∧s.1≠1→PartsOk s.2.2.2.2.2.2.2.2.2.1 n ((s.2.2.2.2.2.2.2.2.1.length:Nat):Int) s.2.2.2.2.2.2.2.2.2.2.1 a))∧((a1x s n).isSome=false→e=1∧L'=L):=by
 unfold a6Y;simp only[c3A h,oB];cases hs:(a1x s n).isSome with
 |false=>grind
 |true=>
  have hp:a1s s n:=by
   grind[a1x]
  obtain⟨O,P,D,-,-,-,-,A,G,E,-,o⟩:=hp;have c:=b2I D;have w:=a3F s.2.2.2.2.2.2.2.2.1;have v:short s.2.2.2.2.2.2.2.2.1:=by have:=h.warm;unfold short;omega
  have d:=h.warm;have u:=h.rest;have F:=h.stages;have R:=h.taps;have q1:=a0L (wrap .u64 s.1) 3 L;have S:=a0L (wrap .u64 s.2.1) 5 (a0H (wrap .u64 s.1) 3 L);have T:=a0L ((a0K s.2.2.2.2.2.2.2.2.1:Nat):Int) 5 (a0H (wrap .u64 s.2.1) 5 (a0H (wrap .u64 s.1) 3 L));have C:wrap .u64 ((a0K s.2.2.2.2.2.2.2.2.1:Nat):Int)=((a0K s.2.2.2.2.2.2.2.2.1:Nat):Int):=a0G (by omega);have K:a0I ((L,()),wrap .u64 s.1,(3:Int))=some (a1Q (wrap .u64 s.1) 3,a0H (wrap .u64 s.1) 3 L,()):=a1o (n:=3) (by omega) (by omega);have r2:a0I ((a0H (wrap .u64 s.1) 3 L,()),wrap .u64 s.2.1,(5:Int))=some (a1Q (wrap .u64 s.2.1) 5,a0H (wrap .u64 s.2.1) 5 (a0H (wrap .u64 s.1) 3 L),()):=a1o (n:=5) (by omega) (by omega);have B:a0I ((a0H (wrap .u64 s.2.1) 5 (a0H (wrap .u64 s.1) 3 L),()),((a0K s.2.2.2.2.2.2.2.2.1:Nat):Int),(5:Int))=some (a1Q ((a0K s.2.2.2.2.2.2.2.2.1:Nat):Int) 5,a8B s L,()):=a1o (n:=5) (by omega) (by omega);have H:(a8B s L).length≤L.length+13:=by unfold a8B;omega
  generalize hM:a8B s L=M at B H;have U:=b5A h M;have I:=a3i (a0K s.2.2.2.2.2.2.2.2.1) s.2.2.2.2.2.2.2.2.1 (a1k s M);have V:a0K s.2.2.2.2.2.2.2.2.1*s.2.2.2.2.2.2.2.2.1.length≤32*5000:=a26 w d;have g:=a5Q (l:=s.2.2.2.2.2.2.2.2.1) (n:=a0K s.2.2.2.2.2.2.2.2.1) (L:=a1k s M) (by omega) (by omega) (by omega)

  have b:=b2L (n:=n) (wd:=((a0K s.2.2.2.2.2.2.2.2.1:Nat):Int)) (s:=s) (by omega) s.2.2.2.2.2.2.2.1.length 0 (a0H (wrap .u64 ((s.2.2.2.2.2.2.2.1.length:Nat):Int)) 2 M) (by omega) (by grind[a0L]);have X:=a0L (wrap .u64 (wrap .i64 (s.2.2.2.2.1-1))) 10 M;have Y:=a3i 8 s.2.2.2.2.2.2.1 (a0H (wrap .u64 (wrap .i64 (s.2.2.2.2.1-1))) 10 M);have j:a2j ((a0H (wrap .u64 (wrap .i64 (s.2.2.2.2.1-1))) 10 M,()),s.2.2.2.2.2.2.1,(8:Int))=some (a1u 8 s.2.2.2.2.2.2.1 (a0H (wrap .u64 (wrap .i64 (s.2.2.2.2.1-1))) 10 M),()):=a5Q (n:=8) (by omega) (by omega) (by omega);have t:b17 3 s.2.2.2.2.2.2.1=s.2.2.2.2.2.2.1:=a38 (by omega);simp at b;have x:a0I ((M,()),wrap .u64 s.2.2.1,(3:Int))=some (a1Q (wrap .u64 s.2.2.1) 3,a0H (wrap .u64 s.2.2.1) 3 M,()):=a1o (n:=3) (by omega) (by omega);have y:a0I ((M,()),wrap .u64 (wrap .i64 (s.2.2.2.2.1-1)),(10:Int))=some (a1Q (wrap .u64 (wrap .i64 (s.2.2.2.2.1-1))) 10,a0H (wrap .u64 (wrap .i64 (s.2.2.2.2.1-1))) 10 M,()):=a1o (n:=10) (by omega) (by omega);have z:a0I ((M,()),wrap .u64 ((s.2.2.2.2.2.2.2.1.length:Nat):Int),(2:Int))=some (a1Q (wrap .u64 ((s.2.2.2.2.2.2.2.1.length:Nat):Int)) 2,a0H (wrap .u64 ((s.2.2.2.2.2.2.2.1.length:Nat):Int)) 2 M,()):=a1o (n:=2) (by omega) (by omega);have q:=b2h (s:=s) h.coefs (L:=M) (by omega);have r:=b2h (s:=s) h.coefs (L:=a1u 8 s.2.2.2.2.2.2.1 (a0H (wrap .u64 (wrap .i64 (s.2.2.2.2.1-1))) 10 M)) (by omega);simp only[bT,cF,a9x v,oB,K,r2,C,B];generalize hPM:a1u (a0K s.2.2.2.2.2.2.2.2.1) s.2.2.2.2.2.2.2.2.1 (a1k s M)=PM at g I

  have m:∀(i:s.1≠0∧s.1≠1),∃a,PartsOk s.2.2.2.2.2.2.2.2.2.1 n ((s.2.2.2.2.2.2.2.2.1.length:Nat):Int) s.2.2.2.2.2.2.2.2.2.2.1 a:=fun i=>by
   simp_all[PartsOk.of]
  rcases c with k|k|k|k|k|k;have f:a1k s M=M:=by unfold a1k;grind
  rw[f]at g;refine⟨0,PM,?_,.inl rfl,by omega,fun _=>⟨rfl,[],by simp_all[a2l],fun h=>absurd k (by omega)⟩,fun h=>by grind⟩;simp only[k,show((0:Int)==2)=false from rfl,show((0:Int)==4)=false from rfl,show((0:Int)==3)=false from rfl,show((0:Int)==5)=false from rfl,cF,oB,g,a5O]
  simp
  have f:a1k s M=M:=by unfold a1k;grind
  rw[f]at g;refine⟨0,PM,?_,.inl rfl,by omega,fun _=>⟨rfl,[],by simp_all[a2l],fun h=>absurd k (by omega)⟩,fun h=>by grind⟩;simp only[k,show((1:Int)==2)=false from rfl,show((1:Int)==4)=false from rfl,show((1:Int)==3)=false from rfl,show((1:Int)==5)=false from rfl,cF,oB,g,a5O]
  simp
  all_goals
   obtain⟨a,p⟩:=m (by omega);have t2:=b9q (L:=PM) p (by omega);have N:(a2k s.2.2.2.2.2.2.2.2.2.1 a s.2.2.2.2.2.2.2.2.2.2.1 PM).length≤L.length+700000:=by
    have Z:=a0L (wrap .u64 s.2.2.2.2.2.2.2.2.2.1.1) 4 PM;have z2:=b1o a s.2.2.2.2.2.2.2.2.2.1.2.1 s.2.2.2.2.2.2.2.2.2.2.1 (a0H (wrap .u64 s.2.2.2.2.2.2.2.2.2.1.1) 4 PM) p.all;have z3:=p.len
    grind[a2k]
   refine⟨0,a2k s.2.2.2.2.2.2.2.2.2.1 a s.2.2.2.2.2.2.2.2.2.2.1 PM,?_,.inl rfl,N,fun _=>⟨rfl,a,by simp_all[a2l],fun _=>p⟩,fun h=>by grind⟩
  have f:a1k s M=a0H (wrap .u64 s.2.2.1) 3 M:=by unfold a1k;grind
  rw[f]at g;simp only[k,show((2:Int)==2)=true from rfl,cT,x,oB,g,a5O]
  grind
  have f:a1k s M=a4P s M:=by unfold a1k;grind
  rw[f]at g;simp only[k,show((3:Int)==2)=false from rfl,show((3:Int)==3)=true from rfl,cT,cF,q,oB,g,a5O]
  grind
  have f:a1k s M=a4P s (a1u 8 s.2.2.2.2.2.2.1 (a0H (wrap .u64 (wrap .i64 (s.2.2.2.2.1-1))) 10 M)):=by unfold a1k;grind
  rw[f]at g;simp only[k,show((4:Int)==2)=false from rfl,show((4:Int)==3)=false from rfl,show((4:Int)==4)=true from rfl,cT,cF,y,t,j,r,oB,g,a5O]
  grind
  have f:a1k s M=a3q s.2.2.2.2.2.2.2.1 (a0H (wrap .u64 ((s.2.2.2.2.2.2.2.1.length:Nat):Int)) 2 M):=by unfold a1k;grind
  rw[f]at g;simp only[k,show((5:Int)==2)=false from rfl,show((5:Int)==4)=false from rfl,show((5:Int)==3)=false from rfl,show((5:Int)==5)=true from rfl,cT,cF,z,b,oB,g,a5O]
  grind
theorem b3c(h:List Nat):(a2e h).map a18=h:=by
 unfold a2e;rw[a63]
 have:a18∘(fun(a:Nat)=>(a:Int))=id:=by rfl
 simp_all
theorem c9S{z z':List Nat}(h:PartsOk p n warm l z)(g:PartsOk p n warm l z'):z=z':=by
 rw[←b3c z,←h.sizes,g.sizes,b3c]
def b9t(s:Sub)(n:Int):Int:=
 if(a1x s n).isSome=true then(((a2l s ((a1I s.2.2.2.2.2.2.2.2.2.1.1 n ((s.2.2.2.2.2.2.2.2.1.length:Nat):Int)).map a18) []).length:Nat):Int)else 0
theorem c6X(h:s.1≠0∧s.1≠1→PartsOk s.2.2.2.2.2.2.2.2.2.1 n ((s.2.2.2.2.2.2.2.2.1.length:Nat):Int) s.2.2.2.2.2.2.2.2.2.2.1 zn)(L:List Int):
  a2l s zn L=a2l s ((a1I s.2.2.2.2.2.2.2.2.2.1.1 n ((s.2.2.2.2.2.2.2.2.1.length:Nat):Int)).map a18) L:=by
 by_cases hk:s.1=0∨s.1=1
 simp_all[a2l];rw[(h (not_or.1 hk)).sizes,b3c]
theorem d3z(h:SmallS s)(n:Int):a4B (s,n)=some (b9t s n):=by
 obtain⟨e,f,g,-,-,k,c⟩:=b9s h (n:=n) (L:=[]) (by simp);have a:wL []=(([]:List Int),(0:Int),()):=rfl;rw[a]at g;obtain⟨d,-⟩:=a5P f;unfold a4B b9t;simp[g,a7Q];cases hs:(a1x s n).isSome with
 |false=>
  simp_all
 |true=>
  obtain⟨rfl,i,rfl,b⟩:=k hs;rw[if_pos rfl,←c6X b];simp_all
def b2i(L:List Int)(i:Nat):List Int:=(wL (L.take i)).1++a00 ((L.length+7) / 8-(i+7) / 8) 0
theorem c6F{L:List Int}{i:Nat}(h:i≤L.length):(b2i L i).length=(L.length+7) / 8:=by
 grind[a5P,b2i]
theorem c9T(h:i<L.length):
  (b2i L i).set (i / 8) (bits .u8 .or ((b2i L i).getD (i / 8) 0) (A0n .u8 L[i] (7-(i:Int)%8)))=b2i L (i+1):=by
 obtain⟨g,f⟩:=a5P (L.take i);rw[a60,Nat.min_eq_left (a44 h)]at g f;have b:L.take (i+1)=L.take i++[L[i]]:=by simp
 unfold b2i;rw[b,b3v];generalize wL (L.take i)=wr at g f⊢;obtain⟨a,n,u⟩:=wr;have g:n=(i:Int):=g;have f:a.length=(i+7) / 8:=f;subst g;have e8:((i:Int) / 8).toNat=i / 8:=by rfl
 unfold b5w;simp only[e8]
 by_cases hz:i%8=0
 have k:(i:Int)%8=0:=by omega
 rw[if_pos k];have c:(L.length+7) / 8-(i+7) / 8=((L.length+7) / 8-(i+1+7) / 8)+1:=by omega
 grind
 grind
theorem c4W(x:L.length<1000000000):a5k (L,())=some ((wL L).1,L,()):=by
 have q:wrap .i64 (((L.length:Nat):Int)+7)=((L.length:Nat):Int)+7:=a0J (by omega);have r:a52 (((L.length:Nat):Int)+7) 8=(((L.length:Nat):Int)+7) / 8:=a27 (by omega);have s:wrap .i64 ((((L.length:Nat):Int)+7) / 8)=(((L.length:Nat):Int)+7) / 8:=a0J (by omega);have t:a18 ((((L.length:Nat):Int)+7) / 8)=(L.length+7) / 8:=by rfl
 have u:decide ((0:Int)≤(((L.length:Nat):Int)+7) / 8)=true:=by rfl
 have v:decide ((((L.length:Nat):Int)+7) / 8≤(((L.length:Nat):Int)+7) / 8)=true:=by simp
 have w:lim ((L.length+7) / 8)=true:=a0N (by omega);have h:b2i L 0=a00 ((L.length+7) / 8) 0:=by rfl
 have l:b2i L L.length=(wL L).1:=by simp[b2i]
 have a:=a1t (f:=a3A) (fun i:Nat=>((i:Int),b2i L i,(L,()),())) L.length (b:=((wL L).1,(L,()),()))
  (fun i hi=>by
   have m:a52 (i:Int) 8=(i:Int) / 8:=a27 (by omega);have t2:a51 (i:Int) 8=(i:Int)%8:=a47 (by omega);have n:wrap .i64 ((i:Int) / 8)=(i:Int) / 8:=a0J (by omega);have w2:wrap .i64 (7-(i:Int)%8)=7-(i:Int)%8:=a0J (by omega);have o:wrap .u64 (7-(i:Int)%8)=7-(i:Int)%8:=a0G (by omega);have p:wrap .i64 ((i:Int)+1)=((i+1:Nat):Int):=by grind[a0J]
   have k:decide ((i:Int)<((L.length:Nat):Int))=true:=by simp_all
   have c:decide ((0:Int)≤(i:Int) / 8)=true:=by rfl
   have d:decide ((i:Int) / 8<(((b2i L i).length:Nat):Int))=true:=by grind[c6F]
   have e:decide ((0:Int)≤(i:Int))=true:=by simp
   have j:decide (7-(i:Int)%8<0)=false:=by grind
   have n1:a18 ((i:Int) / 8)=i / 8:=by rfl
   have n2:a18 (i:Int)=i:=by rfl
   have g:L.getD i 0=L[i]:=by simp_all
   have st:=c9T hi;simp only[a3A,m,t2,n,w2,o,p,k,c,d,e,j,n1,n2,g,st,a04,cT,cF])
  (by
   have k:decide (((L.length:Nat):Int)<((L.length:Nat):Int))=false:=by simp
   simp_all[a3A])
 simp_all[a5k]
def dif:List Int→List Int
 |a::b::r=>W (b-a)::dif (b::r)
 |_=>[]
def d1x:Nat→List Int→List Int
 |0,l=>l
 |o+1,l=>dif (d1x o l)
def c8P(g:List Int→Int):List Int→List Int→List Int
 | [],_=>[]
 |x::r,done=>W (x-g done)::c8P g r (done++[x])
def d3e(g:List Int→Int)(r done:List Int):Option (List Int):=bif (c8P g r done).all a0D then some (c8P g r done)else none
def d3f(l c:List Int)(s:Int):Option (List Int):=bif l.all a0D then d3e (a9t c s) (l.drop c.length) (l.take c.length)else none
def d4F(l:List Int)(lag:Int)(t:List Int):Option (List Int):=bif l.all a0D then d3e (a7I lag t) l []else none
def rsO:List Int→List Int→Fil→Option (List Int)
 | [],done,_=>some done
 |x::r,done,f=>bif a0D (W (x-a0U f))then rsO r (done++[W (x-a0U f)]) (b1E f x)else none
def lRO:List Stg→List Int→Option (List Int)
 | [],row=>some row
 |s::r,row=>match rsO row [] (a9u s)with
  |some row'=>lRO r row'
  |none=>none
def d3A(l:List Int)(st:List Stg):Option (List Int):=bif l.all a0D then lRO st l else none
def d3B(l:List Int)(w:Nat):Prop:=
 ((∀x∈l,x=0)∧w=0)∨((∃x∈l,x≠0)∧w≤30∧(∀x∈l,((2^w:Nat):Int) ∣ x)∧(w=30∨∃x∈l,¬ ((2^(w+1):Nat):Int) ∣ x))
def d3g(k:Nat)(x:Int):Nat:=if a0O x / 2^k<32 then a0O x / 2^k+1+k else 65
theorem d4G{x:Int}(h:a0D x=true):a1E x ((31:Nat):Int)=true:=by
 have:=a4O.1 h
 have g:A0n .i64 (-1) (((31:Nat):Int)-1)=-1073741824:=by rfl
 have f:wrap .i64 (A0n .i64 1 (((31:Nat):Int)-1)-1)=1073741823:=by rfl
 unfold a1E
 grind
theorem b9u{x:Int}(h:a0D x=true):∀(k w:Nat),w+k=32→1≤k→a3p x k w≤31
 |k+1,w,hk,_=>by
  simp[a3p]
  by_cases h31:w=31
  grind[d4G]
  ·cases (x != 0)&&!a1E x w with
   |true=>exact b9u h k (w+1) (by omega) (by omega)
   |false=>grind
theorem b2M:∀(l:List Int)(w:Nat),l.all a0D=true→w≤31→l.foldl (fun w x=>a3p x (32-w) w) w≤31
 | [],w,_,h=>h
 |x::l,w,hl,h=>by
  simp only[a20,bA]at hl;exact b2M l _ hl.2 (b9u hl.1 (32-w) w (by omega) (by omega))
theorem b0S{l:List Int}(h:l.all a0D=true):a0K l≤31:=b2M l 0 h (by omega)
def d7j(k:Int)(part:List Int):Nat:=5+(if k=31 then 5+a0K part*part.length else(part.map (d3g k.toNat)).sum)
def c9U:List Nat→List Int→List Int→Nat
 |z::zs,k::ks,l=>d7j k (l.take z)+c9U zs ks (l.drop z)
 |_,_,_=>0
theorem a7e{q:Nat}(h:q<2147483648):wrap .u64 (q:Int)=(q:Int):=a0G (by omega)
def c3L(o:Int):Sub:=((0:Int),(0:Int),o,(0:Int),(0:Int),([]:List Int),a00 3 (0:Int),([]:List Stg),([]:List Int),((0:Int),([]:List Int),()),([]:List Int),())
def d1y(k:Nat)(l:List Int):Nat:=(l.map (d3g k)).sum
def rbN(l:List Int):Nat→Nat
 |0=>0
 |i+1=>if d1y (i+1) l<d1y (rbN l i) l then i+1 else rbN l i
def d3C(l:List Int):Int:=if 5+a0K l*l.length<d1y (rbN l 25) l then 31 else((rbN l 25:Nat):Int)
def c1N:List Nat→List Int→List Int
 | [],_=>[]
 |z::zs,l=>d3C (l.take z)::c1N zs (l.drop z)
def zsN(o n warm:Int):List Nat:=(a1I o n warm).map a18
def d7k(o n warm:Int)(l:List Int):Prt:=(o,c1N (zsN o n warm) l,())
def d3h(o n warm:Int)(l:List Int):Nat:=4+c9U (zsN o n warm) (c1N (zsN o n warm) l) l
def b5B(n warm:Int)(l:List Int):Nat→Prt×Nat
 |0=>((0,[],()),0)
 |i+1=>if(a1I (i:Int) n warm).length=0 then b5B n warm l i else
   if(b5B n warm l i).2=0∨d3h (i:Int) n warm l<(b5B n warm l i).2 then(d7k (i:Int) n warm l,d3h (i:Int) n warm l)else b5B n warm l i
def d7l(n warm:Int)(l:List Int):Prt:=(b5B n warm l 7).1
def c1O(k:Int)(s:Sub):Sub:=
 (k,(0:Int),(if k=2 then s.2.2.1 else 0),(if k=3∨k=4 then s.2.2.2.1 else 0),(if k=4 then s.2.2.2.2.1 else 0),(if k=3∨k=4 then s.2.2.2.2.2.1 else[]),
  ((if k=4 then s.2.2.2.2.2.2.1 else a00 3 (0:Int)),(if k=5 then s.2.2.2.2.2.2.2.1 else[]),([]:List Int),((0:Int),([]:List Int),()),([]:List Int),()))
def z0:Prt:=((0:Int),([]:List Int),())
def c8Q(s:Sub)(w:Nat)(wm:List Int)(p:Prt)(r:List Int):Sub:=
 (s.1,(w:Int),s.2.2.1,s.2.2.2.1,s.2.2.2.2.1,s.2.2.2.2.2.1,s.2.2.2.2.2.2.1,s.2.2.2.2.2.2.2.1,wm,p,r,())
open Classical in
def c4X (l:List Int):Nat:=if h:∃w,d3B l w then h.choose else 0
def c3M(l:List Int):List Int:=l.map fun x=>A0o .i64 x (c4X l:Int)
def d7m(k:Int)(s:Sub)(d:List Int):Option (List Int×List Int):=
 if k=2 then(bif (d1x s.2.2.1.toNat d).all a0D then some (d.take s.2.2.1.toNat,d1x s.2.2.1.toNat d)else none)
 else if k=3 then(d3f d s.2.2.2.2.2.1 s.2.2.2.1).map fun r=>(d.take s.2.2.2.2.2.1.length,r)
 else if k=4 then(d4F d s.2.2.2.2.1 s.2.2.2.2.2.2.1).bind fun x=>(d3f x s.2.2.2.2.2.1 s.2.2.2.1).map fun r=>(x.take s.2.2.2.2.2.1.length,r)
 else(d3A d s.2.2.2.2.2.2.2.1).map fun r=>([],r)
open Classical in

def c3N (k:Int) (l:List Int) (s:Sub):Sub×Int:=
 if ¬ (1≤l.length∧l.length≤4096∧a8H k s (l.length:Int))then(c3L 0,1)
 else if l.all a0D=false then(c3L 0,6)
 else if k=0 then(bif l.all (fun x=>x==l.headD 0)then(c8Q (c1O 0 s) 0 [l.headD 0] z0 [],0)else(c3L 0,7))
 else if k=1 then(c8Q (c1O 1 s) (c4X l) (c3M l) z0 [],0)
 else match d7m k s (c3M l)with
  |none=>(c3L 0,6)
  |some (wm,r)=>(c8Q (c1O k s) (c4X l) wm (d7l (l.length:Int) (wm.length:Int) r) r,0)
theorem b2j{α A β:Type}(g:A→α→A)(h:A→β):∀(l:List α)(a:A),b1i h (a4k (fun a x=>.inl (g a x)) l a)=h (l.foldl g a)
 | [],_=>rfl
 |x::l,a=>b2j g h l (g a x)
theorem c8R{k:Int}(h:a8H k s n):0≤k∧k≤5:=by
 rcases h with h|h|⟨h,-⟩|⟨h,-⟩|⟨h,-⟩|⟨h,-⟩<;>omega
theorem b7f(h:(a1x s n).isSome=true):a1s s n:=by
 grind[a1x]
structure Shifted (l m:List Int) (n:Nat):Prop where
 len:m.length=l.length
 wl:l.all a0D=true
 wm:m.all a0D=true
 down:c3M m=c3M l
 waste:c4X m=c4X l+n
 fl:l.all (fun x=>x==l.headD 0)=false
 fm:m.all (fun x=>x==m.headD 0)=false
structure BestIs (l:List Int) (cs:List Sub) (a:Int×(Bool×Sub)):Prop where
 one:a.2.1=true→∃c∈cs,(c3N c.1 l c).2=0∧a.2.2=(c3N c.1 l c).1∧a.1=b9t a.2.2 (l.length:Int)
 least:∀c∈cs,(c3N c.1 l c).2=0→a.2.1=true∧a.1≤b9t (c3N c.1 l c).1 (l.length:Int)
def a1C(L:List Int):Prop:=∀b∈L,b=0∨b=1
def b3y(bs:List Int)(i:Nat):Bool:=(bs.getD (i / 8) 0).toNat.testBit (7-i%8)
theorem or8{x y:Nat}(h:x<256)(g:y<256):bits .u8 .or (x:Int) (y:Int)=((x ||| y:Nat):Int):=by
 show wrap .u8 (((a03 8 (x:Int)) ||| (a03 8 (y:Int))).toNat:Int)=_;rw[a30,a30,b07,a36,a36,a25 h,a25 g,a2L]
 have:x ||| y<2^8:=b02 h g
 omega
theorem e1V{b:Int}(hb:b=0∨b=1)(g:r<8):A0n .u8 b (7-(r:Int))=((b.toNat*2^(7-r):Nat):Int):=by
 have h:∀r:Fin 8,A0n .u8 0 (7-(r.1:Int))=((0*2^(7-r.1):Nat):Int)∧A0n .u8 1 (7-(r.1:Int))=((1*2^(7-r.1):Nat):Int):=by decide +kernel
 rcases hb with rfl|rfl;exact(h ⟨r,g⟩).1;exact(h ⟨r,g⟩).2
theorem c9V(L:List Int)(b:Int)(i:Nat):(L++[b]).getD i 0=if i=L.length then b else L.getD i 0:=by
 grind
theorem c4Y(h:List Int)(k:Nat)(y:Int)(g:k<h.length)(j:Nat):(h.set k y).getD j 0=if j=k then y else h.getD j 0:=by
 grind
theorem c2n:∀(n:Nat)(L:List Int),L.length=n→a1C L→(∀j,0≤(wL L).1.getD j 0∧(wL L).1.getD j 0<256)∧∀i,b3y (wL L).1 i=decide (L.getD i 0=1)
 |0,L,h,_=>by
  simp_all[wL,b3y]
 |n+1,L,h,hL=>by
  obtain⟨g,b,rfl⟩:∃g b,L=g++[b]:=by
   rcases a58 L with rfl|⟨g,b,e⟩
   all_goals simp_all
  have hb:b=0∨b=1:=hL b (by simp);obtain⟨t,v⟩:=c2n n g (by simp_all) fun c C=>hL c (by grind);obtain⟨o,p⟩:=a5P g;rw[b3v];generalize wL g=wr at o p t v⊢;obtain⟨d,m,u⟩:=wr;have o:m=(g.length:Int):=o;have p:d.length=(g.length+7) / 8:=p;subst o;have e8:((g.length:Int) / 8).toNat=g.length / 8:=by rfl
  have q:(g.length:Int)%8=((g.length%8:Nat):Int):=by rfl
  obtain⟨f,a,w,y⟩:∃f:List Int,(if(g.length:Int)%8=0 then d++[0]else d)=f∧g.length / 8<f.length∧∀j,f.getD j 0=d.getD j 0:=by
   grind
  rw[q]at a;have B:g.length%8<8:=a39 _ (by simp);obtain⟨x,r⟩:∃x:Nat,d.getD (g.length / 8) 0=(x:Int):=a01 (t _).1;have k:x<256:=by
   grind
  have s:b.toNat*2^(7-g.length%8)<256:=by
   have hp:2^(7-g.length%8)≤2^7:=a45 (by simp) (by omega)
   grind
  have A:x ||| b.toNat*2^(7-g.length%8)<2^8:=b02 k s;have l:(b5w (d,(g.length:Int),u) b).1=f.set (g.length / 8) ((x ||| b.toNat*2^(7-g.length%8):Nat):Int):=by
   unfold b5w;simp only[a,e8,q];rw[y,r,e1V hb B,or8 k s]
  rw[l];refine⟨fun j=>?_,fun i=>?_⟩
  grind[c4Y]
  ·unfold b3y;rw[c4Y _ _ _ w,c9V];have hi:=v i;unfold b3y at hi
   by_cases hk:i / 8=g.length / 8
   ·rw[if_pos hk,tN,Nat.testBit_or];rw[hk,r,tN]at hi;rw[hi];have z:(b.toNat*2^(7-g.length%8)).testBit (7-i%8)=(decide (b=1)&&decide (i=g.length)):=by
     rcases hb with rfl|rfl
     all_goals grind
    grind
   grind
theorem d3D(h:a1C L):(∀j,0≤(wL L).1.getD j 0∧(wL L).1.getD j 0<256)∧∀i,b3y (wL L).1 i=decide (L.getD i 0=1):=c2n _ L rfl h
theorem a1C.app{A B:List Int}(h:a1C A)(g:a1C B):a1C (A++B):=fun b hb=>(mA.1 hb).elim (h b) (g b)
theorem c9W{n:Nat}(f:n≤62)(x:Int):∃v:Nat,a2x x n=(v:Int)∧v<2^n∧(v:Int)=x%((2^n:Nat):Int):=by
 have k:wrap .u64 x=x%18446744073709551616:=by rfl
 obtain⟨y,h⟩:∃y:Nat,x%18446744073709551616=(y:Int):=a01 (Int.emod_nonneg _ (by simp));have g:y<18446744073709551616:=by omega
 refine⟨y%2^n,?_,a39 _ (b08 n),?_⟩;simp_all[a2x,b2d];rw[Int.natCast_emod,←h];refine a89 x ?_
 have:(2:Nat)^n ∣ 2^64:=Nat.pow_dvd_pow 2 (by omega)
 exact Int.natCast_dvd_natCast.2 this
def OkR(P R:List Int):Prop:=a1C (P++R)∧(P++R).length<200000000
theorem OkR.shift{P A R:List Int}(h:OkR P (A++R)):OkR (P++A) R:=by
 unfold OkR at h⊢;simp_all
def unB(n:Nat):List Int:=a00 n 0++[1]
theorem a4c{v n:Nat}(h:n≤63)(hv:v<2^n)(L:List Int):a0H (v:Int) n L=L++pb (v:Int) n:=by
 grind[a0H,a3G,Nat.div_eq_of_lt]
def b9v(k:Nat)(x:Int):List Int:=
 if a0O x / 2^k<32 then unB (a0O x / 2^k)++pb ((a0O x%2^k:Nat):Int) k else unB 32++pb ((a0O x:Nat):Int) 32
theorem c9X(f:k≤25)(g:a0D x=true)(L:List Int):a5R k x L=L++b9v k x:=by
 have h:=b2b g;unfold a5R b9v;split;rw[a4c (by omega) (a39 _ (b08 k))];simp[unL,unB]
 grind[a4c,unL,unB]
def b9w(k:Nat)(l:List Int):List Int:=l.flatMap (b9v k)
theorem b9x{k:Nat}(g:k≤25):∀(l L:List Int),l.all a0D=true→a4b k l L=L++b9w k l
 | [],L,_=>by simp[a4b,b9w]
 |x::l,L,h=>by
  simp only[a20,bA]at h;show a4b k l (a5R k x L)=_;rw[b9x g l _ h.2,c9X g h.1];simp[b9w]
def sB(n:Nat)(l:List Int):List Int:=l.flatMap fun x=>pb (a2x x n) n
theorem a8P{n:Nat}(g:n≤62):∀(l L:List Int),a1u n l L=L++sB n l
 | [],L=>by simp[a1u,sB]
 |x::l,L=>by
  show a1u n l (a0H (a2x x n) n L)=_;obtain⟨v,hv,h,-⟩:=c9W g x;rw[a8P g l,hv,a4c (by omega) h,←hv];simp[sB]
def b9y(k:Int)(part:List Int):List Int:=if k=31 then pb 31 5++(pb ((a0K part:Nat):Int) 5++sB (a0K part) part)else pb k 5++b9w k.toNat part
theorem c9Y{k:Int}(h:kB k=true){part:List Int}(g:part.all a0D=true)(L:List Int):a7J k part L=L++b9y k part:=by
 have f:=b0S g;simp[kB]at h;obtain⟨K,rfl⟩:=a01 (show 0≤k by omega)
 grind[a7J,b9y,a7e,a4c,a8P,b9x]
def a6r:List Nat→List Int→List Int→List Int
 |z::zs,k::ks,l=>b9y k (l.take z)++a6r zs ks (l.drop z)
 |_,_,_=>[]
theorem c9Z(h:l.all a0D=true)(z:Nat):(l.take z).all a0D=true:=lA.2 fun x g=>lA.1 h x (a31 g)
theorem d0A(h:l.all a0D=true)(z:Nat):(l.drop z).all a0D=true:=lA.2 fun x g=>lA.1 h x (a32 g)
theorem b9z:∀(zs:List Nat)(ks l L:List Int),ks.all kB=true→l.all a0D=true→a3x zs ks l L=L++a6r zs ks l
 |z::zs,k::ks,l,L,hk,hw=>by
  simp only[a20,bA]at hk;simp only[a3x,a6r];rw[b9z zs ks _ _ hk.2 (d0A hw z),c9Y hk.1 (c9Z hw z)]
  simp
 | [],_,_,L,_,_=>by simp[a3x,a6r]
 |_::_,[],_,L,_,_=>by simp[a3x,a6r]
def b5C(p:Prt)(zn:List Nat)(l:List Int):List Int:=pb p.1 4++a6r zn p.2.1 l
theorem c3E(h:PartsOk p n warm l zn)(L:List Int):a2k p zn l L=L++b5C p zn l:=by
 obtain⟨o,f,u⟩:=p;have g:=h.order;simp only at g;obtain⟨O,rfl⟩:=a01 g.1;unfold a2k b5C;simp only;rw[a7e (by omega),a4c (n:=4) (by omega) (by omega),b9z _ _ _ _ h.all h.wide]
 simp
def b5D(s:Sub):List Int:=
 pb ((s.2.2.2.2.2.1.length-1:Nat):Int) 5++(pb s.2.2.2.1 4++(pb ((a0K s.2.2.2.2.2.1:Nat):Int) 5++sB (a0K s.2.2.2.2.2.1) s.2.2.2.2.2.1))
theorem d0B{c:List Int}{t:Int}(h:a7T c t=true):1≤c.length∧c.length≤32∧0≤t∧t≤15∧c.all a0D=true:=by
 simp only[a7T,bA,dT]at h;obtain⟨g,f,k,a,b⟩:=h;refine⟨g,f,k,a,lA.2 fun x d=>?_⟩
 have:=lA.1 b x d
 simp[b2E]at this;rw[a4O];omega
theorem b9A{s:Sub}(h:a7T s.2.2.2.2.2.1 s.2.2.2.1=true)(L:List Int):a4P s L=L++b5D s:=by
 obtain⟨a,b,g,d,f⟩:=d0B h;have k:=b0S f;unfold a4P b5D;generalize s.2.2.2.2.2.1=c at *;generalize s.2.2.2.1=t at *;obtain⟨T,rfl⟩:=a01 g
 grind[a0J,a0G,a8P,a4c]
def c8S(st:List Stg):List Int:=st.flatMap fun g=>pb (g.1-1) 5++pb g.2.1 4
theorem c6G{g:Stg}(h:Ab.stageB g=true):1≤g.1∧g.1≤32∧0≤g.2.1∧g.2.1≤8:=by
 simp_all[Ab.stageB]
theorem b7g:∀(st:List Stg)(L:List Int),st.all Ab.stageB=true→a3q st L=L++c8S st
 | [],L,_=>by simp[a3q,c8S]
 |g::st,L,h=>by
  simp only[a20,bA]at h;obtain⟨k,c,f,d⟩:=c6G h.1;show a3q st (a7d g L)=_;rw[b7g st _ h.2];obtain⟨a,b,u⟩:=g;simp only at k c f d;obtain⟨B,rfl⟩:=a01 f;obtain⟨A,e⟩:=a01 (show 0≤a-1 by omega)
  grind[a7d,a9T,a7e,a4c,c8S]
def b9B(s:Sub):List Int:=
 if s.1=2 then pb s.2.2.1 3
 else if s.1=3 then b5D s
 else if s.1=4 then pb (s.2.2.2.2.1-1) 10++(sB 8 s.2.2.2.2.2.2.1++b5D s)
 else if s.1=5 then pb ((s.2.2.2.2.2.2.2.1.length:Nat):Int) 2++c8S s.2.2.2.2.2.2.2.1
 else[]
theorem c2o(h:a8H s.1 s n)(L:List Int):a1k s L=L++b9B s:=by
 unfold a1k b9B;rcases h with k|k|⟨k,g,f,-⟩|⟨k,g,-⟩|⟨k,g,-,a⟩|⟨k,g,f⟩
 grind
 grind
 rw[if_pos k,if_pos k]
 grind[a01,a7e,a4c]
 simp_all[b9A];rw[if_neg (by omega),if_neg (by omega),if_pos k,if_neg (by omega),if_neg (by omega),if_pos k,b9A g,a8P (by omega)];simp only[b0Q,bA,dT]at a;obtain⟨A,b⟩:=a01 (show 0≤s.2.2.2.2.1-1 by omega)
 grind[a9T,a7e,a4c]
 rw[if_neg (by omega),if_neg (by omega),if_neg (by omega),if_pos k,if_neg (by omega),if_neg (by omega),if_neg (by omega),if_pos k];simp only[a8j,bA,dT]at f
 grind[b7g,a7e,a4c]
def c8T(s:Sub):List Int:=pb s.1 3++(pb s.2.1 5++pb ((a0K s.2.2.2.2.2.2.2.2.1:Nat):Int) 5)
theorem d0C(g:0≤s.1∧s.1≤5)(f:0≤s.2.1∧s.2.1≤30)(h:s.2.2.2.2.2.2.2.2.1.all a0D=true)(L:List Int):a8B s L=L++c8T s:=by
 grind[a01,b0S,a8B,c8T,a7e,a4c]
def a9U(s:Sub)(zn:List Nat):List Int:=
 (c8T s++b9B s)++(sB (a0K s.2.2.2.2.2.2.2.2.1) s.2.2.2.2.2.2.2.2.1++if s.1=0∨s.1=1 then[]else b5C s.2.2.2.2.2.2.2.2.2.1 zn s.2.2.2.2.2.2.2.2.2.2.1)
theorem b3d(b:a1s s n)(d:s.1≠0∧s.1≠1→PartsOk s.2.2.2.2.2.2.2.2.2.1 n ((s.2.2.2.2.2.2.2.2.1.length:Nat):Int) s.2.2.2.2.2.2.2.2.2.2.1 zn)(L:List Int):
  a2l s zn L=L++a9U s zn:=by
 obtain⟨-,-,h,-,k,a,-,-,f,-⟩:=b;have c:=b0S f;have g:=d0C (c8R h) ⟨k,a⟩ f L;unfold a2l a9U
 by_cases hk:s.1=0∨s.1=1
 rw[if_pos hk,if_pos hk,a8P (by omega),c2o h,g]
 simp
 rw[if_neg hk,if_neg hk,c3E (d (not_or.1 hk)),a8P (by omega),c2o h,g]
 simp
theorem d7n(y:Int):bits .u64 .and y 1=y%2:=by
 have h:((a03 64 y) &&& (a03 64 1)).toNat=(y%18446744073709551616).toNat%2:=by
  simp
 show wrap .u64 ((((a03 64 y) &&& (a03 64 1)).toNat:Nat):Int)=_
 grind[a0G]
theorem a1R(v:Int):∀n,a1C (pb v n)
 |0=>fun b hb=>by cases hb
 |n+1=>fun b hb=>by
  rcases mC.1 hb with rfl|hb
  grind[b2J,d7n,a2L]
  exact a1R v n b hb
theorem c6Y(n:Nat):a1C (unB n):=fun b hb=>by
 rcases mA.1 hb with hb|hb
 all_goals simp_all
theorem b2N{f:α→List Int}{l:List α}(h:∀x,a1C (f x)):a1C (l.flatMap f):=fun b hb=>by
 obtain⟨x,-,g⟩:=a72.1 hb;exact h x b g
theorem d0D(k:Nat)(x:Int):a1C (b9v k x):=by
 unfold b9v;split;exact(c6Y _).app (a1R _ _);exact(c6Y _).app (a1R _ _)
theorem b6d(n:Nat)(l:List Int):a1C (sB n l):=b2N fun _=>a1R _ _
theorem d0E(k:Int)(l:List Int):a1C (b9y k l):=by
 unfold b9y;split;exact(a1R _ _).app ((a1R _ _).app (b6d _ _));exact(a1R _ _).app (b2N fun _=>d0D _ _)
theorem b3W:a1C []:=fun b hb=>by grind
theorem b9C:∀(zs:List Nat)(ks l:List Int),a1C (a6r zs ks l)
 |z::zs,k::ks,l=>by
  simp only[a6r];exact(d0E _ _).app (b9C zs ks _)
 | [],_,_=>by simp_all[a6r,b3W]
 |_::_,[],_=>by simp_all[a6r,b3W]
theorem b9D(s:Sub):a1C (b5D s):=(a1R _ _).app ((a1R _ _).app ((a1R _ _).app (b6d _ _)))
theorem d0F(s:Sub):a1C (b9B s):=by
 unfold b9B;split;exact a1R _ _;split;exact b9D s;split;exact(a1R _ _).app ((b6d _ _).app (b9D s));split;exact(a1R _ _).app (b2N fun _=>(a1R _ _).app (a1R _ _));exact b3W
theorem d1z(s:Sub)(h:List Nat):a1C (a9U s h):=by
 refine(((a1R _ _).app ((a1R _ _).app (a1R _ _))).app (d0F s)).app ((b6d _ _).app ?_);split;exact b3W;exact(a1R _ _).app (b9C _ _ _)
theorem d1A(h:SmallS s)(k:(a1x s n).isSome=true)(j:L.length<50000000):
  ∃g,a8N (wL L,s,n)=some (0,wL (L++a9U s g))∧a4B (s,n)=some (((a9U s g).length:Nat):Int)∧(a9U s g).length≤700000∧
   (s.1≠0∧s.1≠1→PartsOk s.2.2.2.2.2.2.2.2.2.1 n ((s.2.2.2.2.2.2.2.2.1.length:Nat):Int) s.2.2.2.2.2.2.2.2.2.2.1 g):=by
 obtain⟨e,i,a,-,c,d,-⟩:=b9s h (n:=n) (L:=L) (by omega);obtain⟨rfl,g,rfl,f⟩:=d k;have b:=b7f k;rw[b3d b f]at a c;refine⟨g,a,?_,by simp_all,f⟩;rw[d3z h];unfold b9t;rw[if_pos k,←c6X f,b3d b f]
 simp
theorem d1B(h:L.length<1000000000):a4g (wL L)=some ((wL L).1,wL L):=by
 grind[a5P,a4g,a0N]
def a1f(n:Nat):List Int:=if h:n<128 then[(n:Int)]else((n%128+128:Nat):Int)::a1f (n / 128)
termination_by n
decreasing_by omega
theorem b1H{n:Nat}(h:n<128):a1f n=[(n:Int)]:=by rw[a1f,dif_pos h]
theorem b6e{n:Nat}(h:¬ n<128):a1f n=((n%128+128:Nat):Int)::a1f (n / 128):=by rw[a1f,dif_neg h]
theorem b3X:∀(k n:Nat),n<128^(k+1)→1≤(a1f n).length∧(a1f n).length≤k+1
 |0,n,h=>by simp_all[b1H]
 |k+1,n,h=>by
  by_cases hn:n<128
  rw[b1H hn];simp;rw[b6e hn]
  have:=b3X k (n / 128) (by omega)
  simp_all
theorem b9E:∀(k n:Nat),n<128^(k+1)→∀b∈a1f n,0≤b∧b<256
 |0,n,h,b,hb=>by grind[b1H]
 |k+1,n,h,b,hb=>by
  by_cases hn:n<128
  grind[b1H]
  rw[b6e hn]at hb;rcases mC.1 hb with rfl|hb;omega;exact b9E k (n / 128) (by omega) b hb
theorem c6Z:∀(k n:Nat)(a:List Int)(b c:Int)(out:List Int),n<128^(k+1)→k≤8→out.length+k<1000000→
  ∃r g,y0s a7q ((n:Int),a,b,c,out,())=some (((r:Nat):Int),a,b,c,out++g,())∧a1f n=g++[(r:Int)]∧r<128
 |k,n,a,b,c,out,h,hk,ho=>by
  by_cases hn:n<128
  refine⟨n,[],?_,by rw[b1H hn];rfl,hn⟩;rw[a0C (b:=((n:Int),a,b,c,out,())) (by
   have d:decide ((n:Int)≥128)=false:=by grind
   simp only[a7q,d,cF])]
  simp
  ·cases k with
   |zero=>omega
   |succ k=>
    have m:n / 128<128^(k+1):=by omega
    have f:n<18446744073709551616:=by
     have:128^(k+1+1)≤128^9:=a45 (by omega) (by omega)
     omega
    obtain⟨r,g,o,j,l⟩:=c6Z k (n / 128) a b c (out++[((n%128+128:Nat):Int)]) m (by omega) (by grind);refine⟨r,((n%128+128:Nat):Int)::g,?_,by rw[b6e hn,j];rfl,l⟩;have d:decide ((n:Int)≥128)=true:=by grind
    have e:wrap .u64 (a52 (n:Int) 128)=((n / 128:Nat):Int):=by
     rw[show a52 (n:Int) 128=((n / 128:Nat):Int)from rfl];exact a0G (by omega)
    have i:wrap .u8 (wrap .u8 (a51 (n:Int) 128)+128)=((n%128+128:Nat):Int):=by
     rw[show a51 (n:Int) 128=((n%128:Nat):Int)from rfl,a2L,a2L];omega
    rw[a0E (s':=(((n / 128:Nat):Int),a,b,c,out++[((n%128+128:Nat):Int)],())) (by
     simp only[a7q,d,cT,a0N (show out.length+1<2147483648 by omega),e,i,a06])]
    simp_all
theorem a8J{α β γ:Type}(f:α→List γ):∀(l:List α)(a:List γ),a4k (β:=β) (fun a x=>.inl (a++f x)) l a=.inl (a++l.flatMap f)
 | [],a=>by simp[a4k]
 |x::l,a=>by simp only[a4k];rw[a8J f l];simp
def asI(ns:List Nat):List Int:=ns.map fun n:Nat=>(n:Int)
theorem b5E{ns:List Nat}(h:∀n∈ns,n<9223372036854775808)(t:ns.length≤1000):a8f (asI ns)=some (ns.flatMap a1f):=by
 have l:(asI ns).length=ns.length:=by simp[asI]
 have:=a1d (f:=a7r) (asI ns) (fun i (a:List Int)=>(asI ns,((asI ns).length:Int),(i:Int),a,())) (fun a x=>.inl (a++a1f x.toNat)) (fun i a=>a.length≤10*i) (fun a=>(a,()))
  (fun i hi a p=>⟨fun q g=>by
   have c:i<ns.length:=by omega
   have m:(asI ns)[i]=((ns[i]:Nat):Int):=by simp[asI]
   have hb:=h ns[i] (a05 c);have k:ns[i]<128^(8+1):=by omega
   obtain⟨r,d,o,j,s⟩:=c6Z 8 ns[i] (asI ns) ((asI ns).length:Int) (i:Int) a k (a40 _) (by omega);have hv:=b3X 8 ns[i] k;rw[j]at hv;simp only[lN,lC,a16]at hv;simp[m,j]at g;subst g;have e:wrap .u8 (r:Int)=(r:Int):=by rw[a2L];omega
   refine⟨?_,by grind⟩;simp only[a7r,dlt hi,cT,a0B hi,m,oB,o,a0N (show(a++d).length+1<2147483648 by grind),a0A (show i<1000000 by omega),e,a06,aA],fun b hb=>by grind⟩)
  (fun a p=>by simp_all[a7r]) (a:=[]) (by simp)
 simp_all[a8f,a8J,b1i,asI,b03]
theorem orA(f:a<2^k)(c:b*2^k+a<18446744073709551616):bits .u64 .or (a:Int) ((b*2^k:Nat):Int)=((a+b*2^k:Nat):Int):=by
 show wrap .u64 (((a03 64 (a:Int) ||| a03 64 ((b*2^k:Nat):Int)).toNat:Nat):Int)=_;have g:(a03 64 (a:Int)).toNat=a:=by grind
 have h:(a03 64 ((b*2^k:Nat):Int)).toNat=b*2^k:=by grind[a67]
 grind[a66,a43,a0G]
def b3e(g:Int):Nat:=if 0≤g then(2*g).toNat else(-2*g-1).toNat
theorem d4H(h:-100000≤g∧g≤100000):b0F g=some ((b3e g:Nat):Int):=by
 unfold b0F b3e
 by_cases hg:0≤g
 have d:decide (g≥0)=true:=by simp_all
 rw[d,cT,if_pos hg,a0G (n:=g) (by omega),a0G (by omega),a09 (by omega)];have d:decide (g≥0)=false:=by simp_all
 rw[d,cF,if_neg hg,a0J (n:=g+1) (by omega),a0J (by omega),a0G (n:=0-(g+1)) (by omega),a0G (n:=2*(0-(g+1))) (by omega),a0G (by omega),a09 (by omega)]
 grind
theorem c7a(h:-(m:Int)≤g∧g≤(m:Int)):b3e g≤2*m:=by
 grind[b3e]
def e8(s:Int):Int:=bif (A0o .u8 s 7)==(1:Int)then bits .u8 .xor (A0n .u8 s 1) 7 else A0n .u8 s 1
def e16(s:Int):Int:=bif (A0o .u16 s 15)==(1:Int)then bits .u16 .xor (A0n .u16 s 1) 32773 else A0n .u16 s 1
def rep{α:Type}(f:α→α):Nat→α→α
 |0,s=>s
 |n+1,s=>rep f n (f s)
def g8(s c:Int):Int:=rep e8 8 (bits .u8 .xor s c)
def g16(s c:Int):Int:=rep e16 8 (bits .u16 .xor s (A0n .u16 (wrap .u16 c) 8))
theorem b9F(l:List Int)(n i:Int):∀(j k:Nat)(s:Int),k+j=8→y0s a9c (s,l,n,i,(k:Int),())=some (rep e8 j s,l,n,i,())
 |0,k,s,h=>by
  obtain rfl:k=8:=by omega
  rfl
 |j+1,k,s,h=>by
  have d:decide ((k:Int)<8)=true:=by grind
  rw[a0E (s':=(e8 s,l,n,i,((k+1:Nat):Int),())) (by
   simp only[a9c,d,cT,a0A (show k<1000000 by omega),e8]
   grind)]
  exact b9F l n i j (k+1) (e8 s) (by omega)
theorem b5F(l:List Int)(n i:Int):∀(j k:Nat)(s:Int),k+j=8→y0s a7N (s,l,n,i,(k:Int),())=some (rep e16 j s,l,n,i,())
 |0,k,s,h=>by
  obtain rfl:k=8:=by omega
  rfl
 |j+1,k,s,h=>by
  have d:decide ((k:Int)<8)=true:=by grind
  rw[a0E (s':=(e16 s,l,n,i,((k+1:Nat):Int),())) (by
   simp only[a7N,d,cT,a0A (show k<1000000 by omega),e16]
   grind)]
  exact b5F l n i j (k+1) (e16 s) (by omega)
def c8U(l:List Int):Int:=l.foldl g8 0
def b2O(l:List Int):Int:=l.foldl g16 0
theorem d1C(h:short l):a6Q l=some (c8U l):=by
 have:=a1d (f:=a6w) (β:=Int×Unit) l (fun i (a:Int)=>(a,l,(l.length:Int),(i:Int),())) (fun a x=>.inl (g8 a x)) (fun _ _=>True) (fun a=>(a,()))
  (fun i hi a _=>⟨fun k g=>by
   simp at g;subst g
   have:=b9F l (l.length:Int) (i:Int) 8 0 (bits .u8 .xor a l[i]) rfl
   simp at this;refine⟨?_,trivial⟩;simp only[a6w,dlt hi,cT,a0B hi,oB,this,a0A (a07 hi h),g8],fun b hb=>by grind⟩)
  (fun a c=>by simp_all[a6w]) (a:=0) trivial
 unfold a6Q;simp at this;rw[this,b2j];rfl
theorem c8V(h:short l):a5u l=some (b2O l):=by
 have:=a1d (f:=a5c) (β:=Int×Unit) l (fun i (a:Int)=>(a,l,(l.length:Int),(i:Int),())) (fun a x=>.inl (g16 a x)) (fun _ _=>True) (fun a=>(a,()))
  (fun i hi a _=>⟨fun k g=>by
   simp at g;subst g
   have:=b5F l (l.length:Int) (i:Int) 8 0 (bits .u16 .xor a (A0n .u16 (wrap .u16 l[i]) 8)) rfl
   simp at this;refine⟨?_,trivial⟩;simp only[a5c,dlt hi,cT,a0B hi,oB,this,a0A (a07 hi h),g16],fun b hb=>by grind⟩)
  (fun a c=>by simp_all[a5c]) (a:=0) trivial
 unfold a5u;simp at this;rw[this,b2j];rfl
theorem c1P(n:Int):wrap .u16 n=n%65536:=by rfl
theorem d1D(s:Int):0≤e8 s∧e8 s<256:=by
 unfold e8;cases (A0o .u8 s 7==1:Bool);simp only[cF,A0n,a2L];omega;simp only[cT,bits,a2L];omega
theorem c2p(s:Int):0≤e16 s∧e16 s<65536:=by
 unfold e16;cases (A0o .u16 s 15==1:Bool);simp only[cF,A0n,c1P];omega;simp only[cT,bits,c1P];omega
theorem b7h(l:List Int):0≤b2O l∧b2O l<65536:=by
 unfold b2O;rcases a58 l with rfl|⟨L,b,rfl⟩
 simp
 rw[List.concat_eq_append,a54];exact c2p _
theorem e1W(h:0≤v∧v<65536):a3D (v,2)=some [v / 256,v%256]:=by
 have g:wrap .u64 (a52 v 256)=v / 256:=by grind[a0G]
 have f:wrap .u8 (a51 v 256)=v%256:=by simp_all[a47,a2L]
 have k:wrap .u8 (a51 (v / 256) 256)=v / 256:=by grind[a2L]
 have a:a1F (v,(2:Int),(0:Int),([]:List Int),())=some (.inl (v / 256,(2:Int),(1:Int),[v%256],())):=by
  simp only[a1F,show decide ((0:Int)<2)=true from rfl,cT,a0N (show([]:List Int).length+1<2147483648 by simp),g,f];rfl
 have c:a1F (v / 256,(2:Int),(1:Int),[v%256],())=some (.inl (wrap .u64 (a52 (v / 256) 256),(2:Int),(2:Int),[v%256,v / 256],())):=by
  simp only[a1F,show decide ((1:Int)<2)=true from rfl,cT,a0N (show([v%256]:List Int).length+1<2147483648 by simp),k];rfl
 have d:a4s (v,2)=some [v%256,v / 256]:=by
  unfold a4s a4r
  simp
  rw[show v0s (v0r (2:Int) 0) 8=2 from rfl,a0E a,a0E c,a0C (b:=([v%256,v / 256],())) rfl];rfl
 simp_all[a3D,a1D]
@[reducible] def a0M:Type:=Int×(Int×(Int×Unit))
@[reducible] def a0S:Type:=Int×(Int×(a0M×(List a0M×(List Sub×Unit))))
variable {f:a0S}
@[reducible] def a1e:Type:=Int×(List (List Int)×Unit)
def a3B(n:Int)(s:a0M):Bool:=!(decide (s.1<0) || decide (s.1≥n) || decide (s.2.1<0) || decide (s.2.1≥n) || s.1==s.2.1)&&!(decide (s.2.2.1 < -1024) || decide (s.2.2.1 > 1024))
theorem a4Q{n:Int}{s:a0M}:a3B n s=true↔0≤s.1∧s.1<n∧0≤s.2.1∧s.2.1<n∧s.1≠s.2.1∧-1024≤s.2.2.1∧s.2.2.1≤1024:=by
 simp only[a3B,bA,b01,Bool.or_eq_false_iff,decide_eq_false_iff_not,beq_eq_false_iff_ne];omega
def a7X(l:List a0M)(n:Int):Prop:=1≤n∧n≤8∧l.length≤16∧l.all (a3B n)=true
instance (l:List a0M) (n:Int):Decidable (a7X l n):=by unfold a7X;infer_instance
theorem b7i(l:List a0M)(n:Int):a7k (l,n)=some (decide (a7X l n)):=by
 unfold a7k a7X
 by_cases h1:n<1
 grind
 by_cases h2:n > 8
 grind
 by_cases h3:((l.length:Nat):Int) > 16
 grind
 have g:=a0X (f:=a5V) (β:=Unit ⊕ (Bool×Unit)) l (fun i=>(n,l,(l.length:Int),(i:Int),())) (a3B n) (bt:=Sum.inl ()) (bf:=Sum.inr (false,()))
  (fun i h hp=>by
   obtain⟨a1,m,o,p,q,r,s⟩:=a4Q.1 hp;have k:decide (l[i].1<0)=false:=by simp_all
   have a:decide (l[i].1≥n)=false:=by simp_all
   have b:decide (l[i].2.1<0)=false:=by simp_all
   have c:decide (l[i].2.1≥n)=false:=by simp_all
   have d:(l[i].1==l[i].2.1)=false:=by simp_all
   have e:decide (l[i].2.2.1 < -1024)=false:=by simp_all
   have j:decide (l[i].2.2.1 > 1024)=false:=by simp_all
   simp only[a5V,dlt h,cT,a0B h,oB,k,a,b,c,d,e,j,cF,a0A (show i<1000000 by omega)])
  (fun i h hp=>by
   simp only[a5V,dlt h,cT,a0B h,oB]
   grind[a3B])
  (by simp[a5V])
 grind
def a4d(f:a0M):Prop:=1≤f.1∧f.1≤1048576∧1≤f.2.1∧f.2.1≤8∧4≤f.2.2.1∧f.2.2.1≤24
instance (f:a0M):Decidable (a4d f):=by unfold a4d;infer_instance
theorem a9V(f:a0M):a1K f=some (decide (a4d f)):=by
 unfold a1K a5U a4d
 grind
def frP(f:a0S):Prop:=a4d f.2.2.1∧1≤f.2.1∧f.2.1≤4096∧0≤f.1∧f.1≤4194304-f.2.1∧a7X f.2.2.2.1 f.2.2.1.2.1
instance (f:a0S):Decidable (frP f):=by unfold frP;infer_instance
theorem c1Q(f:a0S):a5W f=some (decide (frP f)):=by
 unfold a5W frP;rw[a9V,b7i]
 by_cases h1:a4d f.2.2.1<;>by_cases h2:1≤f.2.1<;>by_cases h3:f.2.1≤4096<;>by_cases h4:0≤f.1<;>simp[h1,h2,h3,h4]
 have h:wrap .i64 ((4194304:Int)-f.2.1)=4194304-f.2.1:=a0J (by omega);rw[h]
 grind
def a2N(s:a0M):List Nat:=[s.1.toNat,s.2.1.toNat,b3e s.2.2.1]
def a9y(s:a0M):List Int:=a1f s.1.toNat++(a1f s.2.1.toNat++a1f (b3e s.2.2.1))
def hb(f:a0S)(body:Nat):List Int:=
 [245,75]++(a1f f.1.toNat++(a1f f.2.1.toNat++(a1f f.2.2.1.1.toNat++(a1f f.2.2.1.2.1.toNat++(a1f f.2.2.1.2.2.1.toNat++(a1f f.2.2.2.1.length++(f.2.2.2.1.flatMap a9y++a1f body)))))))
def b5G(f:a0S)(body:Nat):List Int:=hb f body++[c8U (hb f body)]
theorem a6s{n:Nat}(h:n<9223372036854775808):1≤(a1f n).length∧(a1f n).length≤9:=b3X 8 n (by omega)
theorem c2q(g:n≤8){s:a0M}(h:a3B n s=true):(a9y s).length≤27:=by
 grind[a4Q,a6s,b3e,a9y]
theorem b5H{n:Int}(g:n≤8):∀(l:List a0M),l.all (a3B n)=true→(l.flatMap a9y).length≤27*l.length
 | [],_=>by simp
 |s::l,h=>by
  simp only[a20,bA]at h
  have:=c2q g h.1
  have:=b5H g l h.2
  simp only[a42,lN,lC];omega
theorem b9G{f:a0S}(g:frP f){body:Nat}(h:body≤1048576):2≤(hb f body).length∧(hb f body).length≤600:=by
 obtain⟨⟨q,r2,k,a,b,c⟩,l1,l2,s1,s2,m1,m2,m3,m4⟩:=g;have d:=a6s (n:=f.1.toNat) (by omega);have e:=a6s (n:=f.2.1.toNat) (by omega);have i:=a6s (n:=f.2.2.1.1.toNat) (by omega);have j:=a6s (n:=f.2.2.1.2.1.toNat) (by omega);have l:=a6s (n:=f.2.2.1.2.2.1.toNat) (by omega);have m:=a6s (n:=f.2.2.2.1.length) (by omega);have o:=a6s (n:=body) (by omega);have p:=b5H m2 _ m4;simp only[hb,lN,lC,a16];omega
theorem c7b:∀l:List a0M,(l.flatMap a2N).length=3*l.length
 | []=>rfl
 |s::l=>by simp only[a42,lN,lC,c7b l];simp only[a2N,lC,a16];omega
theorem c8W(z:frP f){body:Nat}(q:body≤1048576):a6x (f,(body:Int))=some (b5G f body):=by
 have t:=z;obtain⟨⟨N,r2,I,K,L,M⟩,l1,l2,s1,s2,m1,m2,m3,m4⟩:=t;have k:∀s∈f.2.2.2.1,a3B f.2.2.1.2.1 s=true:=fun s v=>lA.1 m4 s v;have h:=a1d (f:=a4z) (β:=Int×(List Int×Unit)) f.2.2.2.1 (fun i (a:List Int)=>((body:Int),f.2.2.2.1,((f.2.2.2.1.length:Nat):Int),(i:Int),a,())) (fun a x=>.inl (a++asI (a2N x))) (fun i a=>a.length=6+3*i) (fun a=>((body:Int),a,()))
  (fun i hi a F=>⟨fun H j=>by
   simp at j;subst j;obtain⟨a1,B,C,D,E,w,y⟩:=a4Q.1 (k _ (a05 hi));refine⟨?_,by grind[asI,a2N]⟩;simp only[a4z,dlt hi,cT,a0B hi,oB,d4H (g:=f.2.2.2.1[i].2.2.1) (by omega),a0N (show a.length+3<2147483648 by omega),a0A (show i<1000000 by omega),a06]
   grind[a0G,asI,a2N],fun b hb=>by grind⟩)
  (fun a F=>by simp_all[a4z]) (a:=asI [f.1.toNat,f.2.1.toNat,f.2.2.1.1.toNat,f.2.2.1.2.1.toNat,f.2.2.1.2.2.1.toNat,f.2.2.2.1.length]) (by rfl)
 rw[a8J]at h;simp[b1i]at h;have d:([wrap .u64 f.1,wrap .u64 f.2.1,wrap .u64 f.2.2.1.1,wrap .u64 f.2.2.1.2.1,wrap .u64 f.2.2.1.2.2.1,wrap .u64 ((f.2.2.2.1.length:Nat):Int)]:List Int)=asI [f.1.toNat,f.2.1.toNat,f.2.2.1.1.toNat,f.2.2.1.2.1.toNat,f.2.2.1.2.2.1.toNat,f.2.2.2.1.length]:=by
  grind[a0G,asI]
 have o:asI [f.1.toNat,f.2.1.toNat,f.2.2.1.1.toNat,f.2.2.1.2.1.toNat,f.2.2.1.2.2.1.toNat,f.2.2.2.1.length]++f.2.2.2.1.flatMap (fun x=>asI (a2N x))++[((body:Nat):Int)]=asI ([f.1.toNat,f.2.1.toNat,f.2.2.1.1.toNat,f.2.2.1.2.1.toNat,f.2.2.1.2.2.1.toNat,f.2.2.2.1.length]++f.2.2.2.1.flatMap a2N++[body]):=by
  simp_all[asI,List.map_flatMap]
 have u:∀n∈[f.1.toNat,f.2.1.toNat,f.2.2.1.1.toNat,f.2.2.1.2.1.toNat,f.2.2.1.2.2.1.toNat,f.2.2.2.1.length]++f.2.2.2.1.flatMap a2N++[body],n<9223372036854775808:=fun n e=>by
  simp only[mA,mC,a73,or_false,a72]at e;rcases e with(e|⟨s,v,e⟩)|e;omega;obtain⟨a1,B,C,D,E,w,y⟩:=a4Q.1 (k _ v)
  have:=c7a (m:=1024) ⟨w,y⟩
  simp[a2N]at e;omega;omega
 have A:=c7b f.2.2.2.1;have p:=b5E u (by grind);have c:(([f.1.toNat,f.2.1.toNat,f.2.2.1.1.toNat,f.2.2.1.2.1.toNat,f.2.2.1.2.2.1.toNat,f.2.2.2.1.length]++f.2.2.2.1.flatMap a2N++[body]).flatMap a1f)=(hb f body).drop 2:=by
  simp only[hb,a91,a42,List.flatMap_nil,a77,aA,List.flatMap_assoc,a70,a08,List.drop_succ_cons,a33];congr 7;exact congrArg (fun g=>List.flatMap g f.2.2.2.1) (funext fun s=>by simp[a9y,a2N])
 have r:[245,75]++(hb f body).drop 2=hb f body:=by rfl
 have G:=b9G z q;unfold a6x;simp only[d];rw[h];simp only[oB,a06];have l:=congrArg List.length o;rw[show(asI ([f.1.toNat,f.2.1.toNat,f.2.2.1.1.toNat,f.2.2.1.2.1.toNat,f.2.2.1.2.2.1.toNat,f.2.2.2.1.length]++f.2.2.2.1.flatMap a2N++[body])).length=7+3*f.2.2.2.1.length from by grind[asI,lC]]at l;rw[lN,a41]at l;rw[a0G (n:=(body:Int)) (by omega),a0N (by omega),cT,o,p];simp only[oB,c,a06,r];rw[a0N (by grind),cT,d1C (show short (hb f body)by unfold short;omega)]
 simp
 rw[a0N (by omega),cT];rfl
@[reducible] def PZ:Type:=Sub×List Nat
def c8X(n:Int)(p:PZ):Prop:=SmallS p.1∧(a1x p.1 n).isSome=true∧(p.1.1≠0∧p.1.1≠1→PartsOk p.1.2.2.2.2.2.2.2.2.2.1 n ((p.1.2.2.2.2.2.2.2.2.1.length:Nat):Int) p.1.2.2.2.2.2.2.2.2.2.2.1 p.2)
def a0W(l:List PZ):List Int:=l.flatMap fun p=>a9U p.1 p.2
theorem d0G(l:List PZ):a1C (a0W l):=b2N fun _=>d1z _ _
theorem c2r(x:a0S)(all:List Sub)(l:all.length≤8):∀(rest done:List Sub)(L:List Int),done++rest=all→(∀s∈rest,SmallS s∧(a1x s x.2.1).isSome=true)→L.length+700000*rest.length<40000000→
  ∃zs:List PZ,zs.map (·.1)=rest∧(∀p∈zs,c8X x.2.1 p)∧(a0W zs).length≤700000*rest.length∧((∀s∈rest,∃c,a4B (s,x.2.1)=some (c:Int))∧some (((a0W zs).length:Nat):Int)=rest.foldr (fun s a=>a.bind fun a=>(a4B (s,x.2.1)).bind fun c=>some (c+a)) (some 0))∧
   y0s a7s (all,(all.length:Int),(done.length:Int),wL L,x,())=some (.inl (wL (L++a0W zs),x,()))
 | [],done,L,hd,_,_=>by
  have e:done=all:=by simp_all
  subst e;refine⟨[],rfl,by simp,by simp[a0W],⟨by simp,by rfl⟩,?_⟩;simp_all[a0C,a7s,a0W]
 |s::rest,done,L,hd,h,hL=>by
  obtain⟨b,k⟩:=h s (by simp);rw[lC]at hL;obtain⟨f,d,i,q,j⟩:=d1A b k (L:=L) (by omega);obtain⟨zs,k1,k2,k3,⟨r,o⟩,k6⟩:=c2r x all l rest (done++[s]) (L++a9U s f) (by simp_all) (fun t n=>h t (by grind)) (by grind);have g:done.length<all.length:=by grind
  have m:m0k all (done.length:Int)=some s:=by grind[a0B]
  refine⟨(s,f)::zs,by grind,fun p hp=>?_,?_,⟨fun t n=>?_,?_⟩,?_⟩;rcases mC.1 hp with rfl|hp;exact⟨b,k,j⟩;simp_all
  grind[a0W]
  grind
  simp only[List.foldr_cons,←o,oB,i];simp[a0W];have z0:((0:Int) != 0)=false:=rfl;rw[a0E (s':=(all,(all.length:Int),(((done++[s]).length:Nat):Int),wL (L++a9U s f),x,())) (by
   simp only[a7s,dlt g,cT,m,oB,d,z0,cF,a0A (show done.length<1000000 by omega)]
   simp)]
  simp_all[a0W]
def b3Y(k:Nat):Nat:=(8-k%8)%8
def b3z(L:List Int):List Int:=L++a00 (b3Y L.length) 0
theorem b9H:∀(k:Nat)(L:List Int),b3Y L.length=k→L.length+k<900000000→y0s a2V (wL L,())=some (wL (L++a00 k 0),())
 |k,L,hk,hL=>by
  have f:=(a5P L).1;have h:a51 (wL L).2.1 8=((L.length%8:Nat):Int):=by grind
  unfold b3Y at hk;cases k with
  |zero=>
   grind[a0C,a2V]
  |succ k=>
   have hb:(((L.length%8:Nat):Int) != 0)=true:=by grind
   rw[a0E (s':=(wL (L++[0]),())) (by
    simp only[a2V,h,hb,cT,b9o (show L.length<1000000000 by omega),oB])]
   rw[b9H k (L++[0]) (by grind[b3Y]) (by grind)]
   grind
theorem d1E(h:L.length<800000000):a4f (wL L)=some (wL (b3z L)):=by
 unfold a4f;rw[b9H _ L rfl (by unfold b3Y;omega)];rfl
def a3C(L:List Int):List Int:=(wL (b3z L)).1
theorem c2s(L:List Int):(a3C L).length=(L.length+7) / 8∧8*(a3C L).length=(b3z L).length:=by
 grind[a5P,b3z,a3C,b3Y]
def a9W(f:a0S)(L:List Int):List Int:=b5G f (a3C L).length++a3C L
def b9I(f:a0S)(L:List Int):List Int:=a9W f L++[b2O (a9W f L) / 256,b2O (a9W f L)%256]
theorem b8b(g:frP f)(h:L.length≤5600000):(a9W f L).length≤700700∧(a3C L).length≤700000:=by
 grind[c2s,b9G,a9W,b5G]
theorem b5I(j:a4T f=some true)(d:frP f)(e:f.2.2.2.2.1.length≤8)(m:∀s∈f.2.2.2.2.1,SmallS s∧(a1x s f.2.1).isSome=true):
  ∃zs:List PZ,zs.map (·.1)=f.2.2.2.2.1∧(∀p∈zs,c8X f.2.1 p)∧(a0W zs).length≤5600000∧
   some (((a0W zs).length:Nat):Int)=f.2.2.2.2.1.foldr (fun s a=>a.bind fun a=>(a4B (s,f.2.1)).bind fun c=>some (c+a)) (some 0)∧a2p f=some (b9I f (a0W zs),0):=by
 obtain⟨zs,k1,k2,k3,⟨-,n⟩,k6⟩:=c2r f f.2.2.2.2.1 e f.2.2.2.2.1 [] [] rfl m (by grind);have b:(a0W zs).length≤5600000:=by omega
 refine⟨zs,k1,k2,b,n,?_⟩;rw[a08,a16]at k6;have hp:=b8b d b;have k:wL []=(([]:List Int),(0:Int),()):=rfl;rw[k]at k6;have g:(b3z (a0W zs)).length<1000000000:=by
  grind[c2s]
 have l:=b7h (a9W f (a0W zs));have h:b5G f (a3C (a0W zs)).length++a3C (a0W zs)=a9W f (a0W zs):=rfl;have i:(b5G f (a3C (a0W zs)).length).length+(a3C (a0W zs)).length=(a9W f (a0W zs)).length:=by grind
 unfold a2p;simp only[j,oB,bT,cF]
 erw[k6]
 simp only[oB,d1E (show(a0W zs).length<800000000 by omega),d1B g]
 erw[c8W d (show(a3C (a0W zs)).length≤1048576 by omega)]
 simp only[oB,a06];rw[show(wL (b3z (a0W zs))).1=a3C (a0W zs)from rfl];rw[h,a0N (by omega),cT,c8V (show short (a9W f (a0W zs))by unfold short;omega)]
 simp
 rw[a0G (by omega),e1W l];simp only[oB];rw[a0N (by grind),cT];rfl
theorem b2k(x:Int):a8c x=some (a0D x):=by
 grind[a8c,a0D]
def a2W(c:List (List Int)):Prop:=1≤c.length∧c.length≤8∧(c.headD []).length≤4096∧c.all (fun r=>decide (r.length=(c.headD []).length)&&r.all a0D)=true
instance (c:List (List Int)):Decidable (a2W c):=by unfold a2W;infer_instance
theorem b2P{l:List α}{d:α}(h:0<l.length):l[0]=l.headD d:=by
 cases l with
 |nil=>grind
 |cons a l=>rfl
theorem d3E(c:List (List Int)):a6n c=some (decide (a2W c)):=by
 unfold a6n
 by_cases h1:((c.length:Nat):Int)<1
 have:¬ a2W c:=fun h=>by have:=h.1;omega
 simp_all
 by_cases h2:((c.length:Nat):Int) > 8
 have:¬ a2W c:=fun h=>by have:=h.2.1;omega
 simp_all;have b:0<c.length:=by omega
 have a:m0k c 0=some (c.headD []):=by rw[show(0:Int)=((0:Nat):Int)from rfl,a0B b,b2P (d:=[]) b]
 have l:decide (((c.length:Nat):Int)<1)=false:=by simp_all
 have m:decide (((c.length:Nat):Int) > 8)=false:=by simp_all
 simp only[l,m,cF,a,oB]
 by_cases h3:(((c.headD []).length:Nat):Int) > 4096
 rw[decide_eq_true h3,decide_eq_false (show ¬ a2W c from fun h=>by have:=h.2.2.1;omega)];rfl;have n:decide ((((c.headD []).length:Nat):Int) > 4096)=false:=by simp_all
 simp only[n,cF];have g:∀(i:Nat)(r:List Int),short r→y0s a3M (c,c,(c.length:Int),(i:Int),r,(r.length:Int),(0:Int),())=some (bif r.all a0D then Sum.inl (c,c,(c.length:Int),(i:Int),())else Sum.inr (false,())):=fun i r s=>by
  have:=a0X (f:=a3M) r (fun j=>(c,c,(c.length:Int),(i:Int),r,(r.length:Int),(j:Int),())) a0D (bt:=Sum.inl (c,c,(c.length:Int),(i:Int),())) (bf:=Sum.inr (false,()))
   (fun j h hp=>by simp only[a3M,dlt h,cT,a0B h,oB,b2k,hp,bT,cF,a0A (a07 h s)])
   (fun j h hp=>by simp_all[a3M,a0B,b2k])
   (by simp_all[a3M])
  omega
 have k:=a0X (f:=a3N) c (fun i=>(c,c,(c.length:Int),(i:Int),())) (fun r=>decide (r.length=(c.headD []).length)&&r.all a0D) (bt:=Sum.inl ()) (bf:=Sum.inr (false,()))
  (fun i h hp=>by
   simp only[bA,dT]at hp;have e:((((c[i]).length:Nat):Int) != (((c.headD []).length:Nat):Int))=false:=by simp_all
   have hi:=g i c[i] (by unfold short;omega);rw[hp.2,cT]at hi;simp only[a3N,dlt h,cT,a0B h,oB,a,e,cF,hi,a0A (show i<1000000 by omega)])
  (fun i h hp=>by
   by_cases hl:(c[i]).length=(c.headD []).length
   have e:((((c[i]).length:Nat):Int) != (((c.headD []).length:Nat):Int))=false:=by simp_all
   have hi:=g i c[i] (by unfold short;omega);rw[decide_eq_true hl,a22]at hp;rw[hp,cF]at hi;simp_all[a3N,a0B];have e:((((c[i]).length:Nat):Int) != (((c.headD []).length:Nat):Int))=true:=by grind
   simp only[a3N,dlt h,cT,a0B h,oB,a,e])
  (by simp_all[a3N])
 simp only[nZ]at k;rw[k];have o:1≤c.length:=by omega
 have p:c.length≤8:=by omega
 have q:(c.headD []).length≤4096:=by omega
 by_cases hA:c.all (fun r=>decide (r.length=(c.headD []).length)&&r.all a0D)=true
 rw[hA,decide_eq_true (show a2W c from⟨o,p,q,hA⟩)];rfl;rw[a55.2 hA,decide_eq_false (show ¬ a2W c from fun h=>hA h.2.2.2)];rfl
def a7K(c:List (List Int))(n:Nat):Prop:=∀r∈c,r.length=n∧r.all a0D=true
theorem c1R(h:a2W c):a7K c (c.headD []).length:=fun r g=>by
 have:=lA.1 h.2.2.2 r g
 simp_all
theorem d0H{n:Nat}(h:a7K c n)(l:n≤5000)(j:c.length≤100):a6b c=some c:=by
 have:=a1d (f:=a5D) (β:=List (List Int)×Unit) c (fun i (a:List (List Int))=>(c,(c.length:Int),(i:Int),a,())) (fun a x=>.inl (a++[x])) (fun i a=>a.length=i) (fun a=>(a,()))
  (fun i hi a k=>⟨fun e g=>by
   simp at g;subst g;have m:=(h _ (a05 hi)).1;have d:∀y:List Int,a79 ([([]:List Int)]:List (List Int)) 0 y=[y]:=fun _=>rfl;refine⟨?_,by grind⟩;simp only[a5D,dlt hi,cT,a0B hi,oB,b7X (show short c[i]by unfold short;omega),d];rw[a0N (by grind),cT,a0A (show i<1000000 by omega)];rfl,fun b hb=>by grind⟩)
  (fun a k=>by simp_all[a5D]) (a:=[]) rfl
 simp_all[a8J,a6b,b1i]
def a2X(sign g:Int)(x y:Int):Int:=y+sign*(g*x / 256)
def a9X(sign g:Int)(xs ys:List Int):List Int:=a23 (a2X sign g) xs ys
theorem d1F(sign g:Int){xs ys:List Int}(h:xs.length=ys.length):(a9X sign g xs ys).length=ys.length:=by simp[a9X,h]
theorem c4Z{y:Int}(b:sign=1∨sign=-1)(c:-1024≤g∧g≤1024)(k:a0D x=true)(a:a0D y=true):
  wrap .i64 (y+wrap .i64 (sign*A0o .i64 (wrap .i64 (g*x)) 8))=a2X sign g x y:=by
 have k:=a4O.1 k;have a:=a4O.1 a;have f:-1099511627776≤g*x∧g*x≤1099511627776:=by
  have f:g.natAbs≤1024:=by omega
  have h:x.natAbs≤1073741824:=by omega
  have:=a26 f h
  rw[←Int.natAbs_mul]at this;omega
 rw[a0J (n:=g*x) (by omega)];have h:A0o .i64 (g*x) 8=g*x / 256:=by
  unfold A0o;show(g*x).fdiv (2^8)=_
  grind
 rw[h];unfold a2X;rcases b with rfl|rfl
 all_goals grind[a0J]
theorem c6H(c:List α)(h:a≠b)(y d:α):(c.set b y).getD a d=c.getD a d:=by
 grind
theorem b7j(c:List α)(h:b<c.length)(y d:α):(c.set b y).getD b d=y:=by
 simp_all
theorem b9J{c:List (List Int)}{s:a0M}{sign:Int}(g:sign=1∨sign=-1)(b:-1024≤s.2.2.1∧s.2.2.1≤1024)(a0:0≤s.1)(i:0≤s.2.1)(f:s.1.toNat≠s.2.1.toNat)(hb:s.2.1.toNat<c.length)(k:s.2.1<(c.length:Int))
  {xs:List Int}(a:c.getD s.1.toNat []=xs)(w:xs.length≤5000):∀(sx suf px pre:List Int),px++sx=xs→px.length=pre.length→sx.length=suf.length→sx.all a0D=true→suf.all a0D=true→
  if(a9X sign s.2.2.1 sx suf).all a0D=true then
   y0s a3k (sign,(xs.length:Int),(pre.length:Int),c.set s.2.1.toNat (pre++suf),s,((s.1.toNat:Nat):Int),())=some (.inl (c.set s.2.1.toNat (pre++a9X sign s.2.2.1 sx suf),()))
  else ∃c',y0s a3k (sign,(xs.length:Int),(pre.length:Int),c.set s.2.1.toNat (pre++suf),s,((s.1.toNat:Nat):Int),())=some (.inr (false,c',()))
 | [],suf,px,pre,hx,hp,hl,_,_=>by
  have e:suf=[]:=a53.1 hl.symm;subst e;have p:pre.length=xs.length:=by simp_all
  rw[if_pos (by rfl),p];exact a0C (by simp only[a3k,dge,cF];rfl)
 |x::sx,[],px,pre,_,_,hl,_,_=>by simp_all
 |x::sx,y::suf,px,pre,hx,hp,hl,hwx,hwy=>by
  simp only[a20,bA]at hwx hwy;have v:pre.length<xs.length:=by grind
  have q:(c.set s.2.1.toNat (pre++y::suf)).getD (a18 ((s.1.toNat:Nat):Int)) []=xs:=by grind
  have r:(c.set s.2.1.toNat (pre++y::suf)).getD s.2.1.toNat []=pre++y::suf:=b7j _ hb _ _;have t:a50 xs (a18 (pre.length:Int)) 0=x:=by grind
  have u:a50 (pre++y::suf) (a18 (pre.length:Int)) 0=y:=by simp
  have j:decide ((0:Int)≤(pre.length:Int))=true:=by simp
  have l:decide ((pre.length:Int)<(xs.length:Int))=true:=by simp_all
  have m:decide ((0:Int)≤s.2.1)=true:=by simp_all
  have n:decide (s.2.1<(((c.set s.2.1.toNat (pre++y::suf)).length:Nat):Int))=true:=by simp_all
  have o:decide ((pre.length:Int)<(((pre++y::suf).length:Nat):Int))=true:=by grind
  have hv:=c4Z g b hwx.1 hwy.1;have z:wrap .i64 ((pre.length:Int)+1)=((pre.length+1:Nat):Int):=a0A (by omega);have A:a9X sign s.2.2.1 (x::sx) (y::suf)=a2X sign s.2.2.1 x y::a9X sign s.2.2.1 sx suf:=rfl;have d:a79 (c.set s.2.1.toNat (pre++y::suf)) s.2.1.toNat (a79 (pre++y::suf) (a18 (pre.length:Int)) (a2X sign s.2.2.1 x y))=c.set s.2.1.toNat ((pre++[a2X sign s.2.2.1 x y])++suf):=by
   simp
  have h:a3k (sign,(xs.length:Int),(pre.length:Int),c.set s.2.1.toNat (pre++y::suf),s,((s.1.toNat:Nat):Int),()) =
    bif !(a0D (a2X sign s.2.2.1 x y))then some (.inr (Sum.inr (false,c.set s.2.1.toNat (pre++y::suf),())))
    else some (.inl (sign,(xs.length:Int),((pre.length+1:Nat):Int),c.set s.2.1.toNat ((pre++[a2X sign s.2.2.1 x y])++suf),s,((s.1.toNat:Nat):Int),())):=by
   simp only[a3k,l,cT,q,r,j,a04,m,n,o,t,u,b2k,hv,oB,z]
   simp
  cases hwv:a0D (a2X sign s.2.2.1 x y)with
  |false=>
   simp_all[a0C]
  |true=>
   rw[hwv]at h;have B:=b9J g b a0 i f hb k a w sx suf (px++[x]) (pre++[a2X sign s.2.2.1 x y]) (by simp_all) (by grind) (by simp_all) hwx.2 hwy.2;rw[a0E h,A];simp_all
def a7L(sign:Int)(s:a0M)(c:List (List Int)):Option (List (List Int)):=
 let r:=a9X sign s.2.2.1 (c.getD s.1.toNat []) (c.getD s.2.1.toNat [])
 if r.all a0D=true then some (c.set s.2.1.toNat r)else none
theorem a7f{c:List (List Int)}{n:Nat}(h:a7K c n){i:Nat}(hi:i<c.length):(c.getD i []).length=n∧(c.getD i []).all a0D=true:=by
 rw[lD,lG hi];exact h _ (a05 hi)
theorem d1G{n:Nat}(a:a7K c n)(w:n≤5000){s:a0M}(p:a3B (c.length:Int) s=true)(k:sign=1∨sign=-1):
  ∃b f,a6O (c,s,sign)=some (b,f)∧match a7L sign s c with|some r=>b=true∧f=r|none=>b=false:=by
 obtain⟨a1,u,d,e,v,j,l⟩:=a4Q.1 p;have q:=a7f a (i:=s.1.toNat) (by omega);have t:=a7f a (i:=s.2.1.toNat) (by omega);have hb:s.2.1.toNat<c.length:=by omega
 have g:c.set s.2.1.toNat (c.getD s.2.1.toNat [])=c:=by
  simp_all
 have:=b9J k ⟨j,l⟩ a1 d (by omega) hb e (rfl:c.getD s.1.toNat []=_) (by omega) (c.getD s.1.toNat []) (c.getD s.2.1.toNat []) [] [] rfl rfl (by omega) q.2 t.2
 rw[a08,g]at this;simp only[a16,nZ,a08,a96]at this;have m:decide ((0:Int)≤s.1)=true:=by simp_all
 have o:decide (s.1<(c.length:Int))=true:=by simp_all
 unfold a6O a7L;simp only[m,o,a04,cT]
 by_cases hA:(a9X sign s.2.2.1 (c.getD s.1.toNat []) (c.getD s.2.1.toNat [])).all a0D=true
 simp_all;rw[if_neg hA]at this⊢;obtain⟨f,h⟩:=this;simp_all
theorem b3Z{c c':List (List Int)}{n:Nat}(g:a7K c n){s:a0M}(k:a3B (c.length:Int) s=true){sign:Int}(h:a7L sign s c=some c'):a7K c' n∧c'.length=c.length:=by
 obtain⟨a1,a,b,d,e,j,l⟩:=a4Q.1 k;have o:=a7f g (i:=s.1.toNat) (by omega);have p:=a7f g (i:=s.2.1.toNat) (by omega);unfold a7L at h;simp only at h
 split at h
 rename_i m;cases h;refine⟨fun r f=>?_,by simp⟩;rcases List.mem_or_eq_of_mem_set f with f|rfl;exact g r f;simp_all[d1F];simp_all
def a5S:List a0M→List (List Int)→Option (List (List Int))
 | [],c=>some c
 |s::l,c=>(a5S l c).bind (a7L (-1) s)
theorem c2t{n:Nat}{N:Nat}:∀(l:List a0M){c c':List (List Int)},a7K c n→c.length=N→l.all (a3B (N:Int))=true→a5S l c=some c'→a7K c' n∧c'.length=N
 | [],c,c',hc,hl,_,h=>by cases h;simp_all
 |s::l,c,c',hc,hl,hs,h=>by
  simp only[a20,bA]at hs;simp[a5S,a34]at h;obtain⟨d,g,f⟩:=h;obtain⟨k,a⟩:=c2t l hc hl hs.2 g
  grind[b3Z]
def c8Y:Option (List (List Int))→List (List Int)×Int
 |some r=>(r,0)
 |none=>([],6)
theorem b4a(s:a0M):∀(l:List a0M)(c:List (List Int)),a5S (l++[s]) c=(a7L (-1) s c).bind (a5S l)
 | [],c=>by
  show a7L (-1) s c=_;cases a7L (-1) s c<;>rfl
 |t::l,c=>by
  simp only[a70,a5S,b4a s l];cases a7L (-1) s c<;>rfl
theorem c2u{n N:Nat}(g:n≤5000){l:List a0M}(i:l.all (a3B (N:Int))=true)(z:List (List Int))(e:Int):∀(k:Nat)(c:List (List Int)),k≤l.length→a7K c n→c.length=N→
  match a5S (l.take k) c with
  |some r=>l0f a5t l k (l,z,e,c,())=some (.inl (l,z,e,r,()))
  |none=>∃d,l0f a5t l k (l,z,e,c,())=some (.inr (.ret,l,[],6,d,()))
 |0,c,_,_,_=>rfl
 |k+1,c,hk,hc,hcl=>by
  have hi:k<l.length:=by omega
  have f:a3B (c.length:Int) l[k]=true:=by grind
  obtain⟨b,a,m,h⟩:=d1G hc g f (sign:=-1) (.inr rfl);rw[a56 hi,b4a];cases hst:a7L (-1) l[k] c with
  |none=>
   simp_all[l0f,a5t]
  |some r=>
   rw[hst]at h;obtain⟨rfl,rfl⟩:=h;obtain⟨j,p⟩:=b3Z hc f hst;have o:=c2u g i z e k a (by omega) j (by omega);simp_all[l0f,a5t]
theorem d3F(c:List (List Int))(l:List a0M):b0B (c,l)=some (if a2W c∧a7X l (c.length:Int)then c8Y (a5S l c)else([],1)):=by
 unfold b0B;simp only[d3E,oB]
 by_cases hq:a2W c
 ·have h:=c1R hq;simp only[hq,decide_true,bT,cF,b7i,oB,true_and]
  by_cases hm:a7X l (c.length:Int)
  ·simp[hm];rw[d0H h (by have:=hq.2.2.1;omega) (by have:=hq.2.1;omega)]
   have:=c2u (N:=c.length) (by have:=hq.2.2.1;omega:(c.headD []).length≤5000) hm.2.2.2 [] 0 l.length c (a40 _) h rfl
   rw[a24]at this;simp[a0N (show l.length<2147483648 by have:=hm.2.2.1;omega)];cases hu:a5S l c with
   |some r=>
    rw[hu]at this;simp only at this
    erw[this]
    rfl
   |none=>
    rw[hu]at this;obtain⟨d,g⟩:=this
    erw[g]
    rfl
  simp_all
 simp_all
def a0T(b:a1e):Nat:=(b.2.1.headD []).length
theorem a7g(b:a1e):a2S b=some ((a0T b:Nat):Int):=by
 unfold a2S a0T;obtain⟨d,c,u⟩:=b;cases c with
 |nil=>rfl
 |cons r c=>
  rfl
def a1Z(b:a1e):Prop:=4≤b.1∧b.1≤24∧1≤b.2.1.length∧b.2.1.length≤8∧1≤a0T b∧a0T b≤4096∧b.2.1.all (fun r=>decide (r.length=a0T b)&&r.all fun x=>a1E x b.1)=true
instance (b:a1e):Decidable (a1Z b):=by unfold a1Z;infer_instance
theorem b8c{x w:Int}(h:4≤w∧w≤24):a1J (x,w)=some (a1E x w):=by
 have:=a9S (x:=x) (w:=w.toNat) (by omega)
 grind
theorem b2l(b:a1e):a2T b=some (decide (a1Z b)):=by
 unfold a2T a5U
 by_cases h1:4≤b.1
 rotate_left;rw[decide_eq_false (show ¬ a1Z b from fun h=>h1 h.1),decide_eq_false h1];rfl
 by_cases h2:b.1≤24
 rotate_left;rw[decide_eq_false (show ¬ a1Z b from fun h=>h2 h.2.1),decide_eq_true h1,decide_eq_false h2];rfl
 by_cases h3:((b.2.1.length:Nat):Int)<1
 rw[decide_eq_false (show ¬ a1Z b from fun h=>by have:=h.2.2.1;omega),decide_eq_true h1,decide_eq_true h2,decide_eq_true h3];rfl
 by_cases h4:((b.2.1.length:Nat):Int) > 8
 rw[decide_eq_false (show ¬ a1Z b from fun h=>by have:=h.2.2.2.1;omega),decide_eq_true h1,decide_eq_true h2,decide_eq_false h3,decide_eq_true h4];rfl;have a:decide (((b.2.1.length:Nat):Int)<1)=false:=by simp_all
 have c:decide (((b.2.1.length:Nat):Int) > 8)=false:=by simp_all
 simp only[decide_eq_true h1,decide_eq_true h2,a,c,cT,cF,oB,bT,a7g]
 by_cases h5:((a0T b:Nat):Int)<1
 rw[decide_eq_false (show ¬ a1Z b from fun h=>by have:=h.2.2.2.2.1;omega),decide_eq_true h5];rfl
 by_cases h6:((a0T b:Nat):Int) > 4096
 rw[decide_eq_false (show ¬ a1Z b from fun h=>by have:=h.2.2.2.2.2.1;omega),decide_eq_false h5,decide_eq_true h6];rfl;have d:decide (((a0T b:Nat):Int)<1)=false:=by simp_all
 have l:decide (((a0T b:Nat):Int) > 4096)=false:=by simp_all
 simp[d,l];have g:∀(i:Nat)(r:List Int),short r→y0s a3H (b.2.1,(b.2.1.length:Int),(i:Int),r,(r.length:Int),(0:Int),b,())=some (bif r.all (fun x=>a1E x b.1)then Sum.inl (b.2.1,(b.2.1.length:Int),(i:Int),b,())else Sum.inr (false,())):=fun i r m=>by
  have:=a0X (f:=a3H) r (fun j=>(b.2.1,(b.2.1.length:Int),(i:Int),r,(r.length:Int),(j:Int),b,())) (fun x=>a1E x b.1) (bt:=Sum.inl (b.2.1,(b.2.1.length:Int),(i:Int),b,())) (bf:=Sum.inr (false,()))
   (fun j h hp=>by simp only[a3H,dlt h,cT,a0B h,oB,b8c ⟨h1,h2⟩,hp,bT,cF,a0A (a07 h m)])
   (fun j h hp=>by simp_all[a3H,a0B,b8c])
   (by simp_all[a3H])
  omega
 have k:=a0X (f:=a3I) b.2.1 (fun i=>(b.2.1,(b.2.1.length:Int),(i:Int),b,())) (fun r=>decide (r.length=a0T b)&&r.all fun x=>a1E x b.1) (bt:=Sum.inl ()) (bf:=Sum.inr (false,()))
  (fun i h hp=>by
   simp only[bA,dT]at hp;have e:((((b.2.1[i]).length:Nat):Int) != ((a0T b:Nat):Int))=false:=by simp_all
   have hi:=g i b.2.1[i] (by unfold short;omega);rw[hp.2,cT]at hi;simp only[a3I,dlt h,cT,a0B h,oB,a7g,e,cF,hi,a0A (show i<1000000 by omega)])
  (fun i h hp=>by
   by_cases hl:(b.2.1[i]).length=a0T b
   have e:((((b.2.1[i]).length:Nat):Int) != ((a0T b:Nat):Int))=false:=by simp_all
   have hi:=g i b.2.1[i] (by unfold short;omega);rw[decide_eq_true hl,a22]at hp;rw[hp,cF]at hi;simp_all[a3I,a0B,a7g];have e:((((b.2.1[i]).length:Nat):Int) != ((a0T b:Nat):Int))=true:=by grind
   simp only[a3I,dlt h,cT,a0B h,oB,a7g,e])
  (by simp_all[a3I])
 simp at k;rw[k]
 by_cases hA:b.2.1.all (fun r=>decide (r.length=a0T b)&&r.all fun x=>a1E x b.1)=true
 rw[hA,decide_eq_true (show a1Z b from⟨h1,h2,by omega,by omega,by omega,by omega,hA⟩)];rfl;rw[a55.2 hA,decide_eq_false (show ¬ a1Z b from fun h=>hA h.2.2.2.2.2.2)];rfl
def a7Y{α β:Type}(g:α→Option β):List α→Option (List β)
 | []=>some []
 |a::l=>(g a).bind fun b=>(a7Y g l).bind fun r=>some (b::r)
theorem c2v{α β:Type}{g:α→Option β}:∀{l:List α}{r:List β},a7Y g l=some r→∀a∈l,(g a).isSome=true
 | [],r,h,a,ha=>by cases ha
 |a::l,r,h,x,hx=>by
  simp only[a7Y,a34]at h;obtain⟨b,f,d,k,c⟩:=h;rcases mC.1 hx with rfl|hx;rw[f];rfl;exact c2v k x hx
def a2m(f:a0S):Option a1e:=
 if frP f∧((f.2.2.2.2.1.length:Nat):Int)=f.2.2.1.2.1 then
  (a7Y (fun s=>a1x s f.2.1) f.2.2.2.2.1).bind fun rs=>
   if a2W rs∧a7X f.2.2.2.1 (rs.length:Int)then
    (a5S f.2.2.2.1 rs).bind fun ch=>if a1Z (f.2.2.1.2.2.1,ch,())then some (f.2.2.1.2.2.1,ch,())else none
   else none
 else none
def a5A:a1e:=(0,[],())
def e1X:Option a1e→a1e×Int
 |some b=>(b,0)
 |none=>(a5A,1)
theorem b7k(f:a0S)(all:List Sub)(d:all.length≤8):∀(rest done:List Sub)(rows:List (List Int)),done++rest=all→rows.length=done.length→(∀s∈rest,SmallS s)→
  y0s a3T (all,(all.length:Int),(done.length:Int),rows,a5A,f,())=some (match a7Y (fun s=>a1x s f.2.1) rest with|some rs=>Sum.inl (rows++rs,a5A,f,())|none=>Sum.inr (1,a5A,()))
 | [],done,rows,hd,hr,_=>by
  have e:done=all:=by simpa using hd
  subst e;rw[a0C (b:=Sum.inl (rows,a5A,f,())) (by simp only[a3T,dge,cF])];simp[a7Y]
 |s::rest,done,rows,hd,hr,h=>by
  have i:=h s (by simp);have k:done.length<all.length:=by rw[←hd];simp
  have a:m0k all (done.length:Int)=some s:=by rw[a0B k];subst hd;simp
  have g:=b9m i f.2.1;simp only[a7Y];cases ho:a1x s f.2.1 with
  |none=>
   rw[ho]at g;have b1:((1:Int) != 0)=true:=rfl;exact a0C (by simp only[a3T,dlt k,cT,a,oB,g,b1];rfl)
  |some r=>
   rw[ho]at g;have c:((0:Int) != 0)=false:=rfl;rw[a0E (s':=(all,(all.length:Int),(((done++[s]).length:Nat):Int),rows++[r],a5A,f,())) (by
    simp only[a3T,dlt k,cT,a,oB,g,c,cF,a0N (show rows.length+1<2147483648 by omega),a0A (show done.length<1000000 by omega)]
    simp)]
   rw[b7k f all d rest (done++[s]) (rows++[r]) (by simpa using hd) (by simp[hr]) (fun t j=>h t (by simp[j]))];simp only[oB];cases a7Y (fun s=>a1x s f.2.1) rest<;>simp
theorem b8d(b:∀s∈f.2.2.2.2.1,SmallS s):a2d f=some (e1X (a2m f)):=by
 unfold a2d a2m;simp only[c1Q,oB]
 by_cases hf:frP f
 rotate_left;simp only[hf,decide_false,a19,cT,oB,false_and,if_false];rfl
 by_cases hl:((f.2.2.2.2.1.length:Nat):Int)=f.2.2.1.2.1
 rotate_left;have e:(((f.2.2.2.2.1.length:Nat):Int) != f.2.2.1.2.1)=true:=by simpa using hl
 simp only[hf,decide_true,bT,cF,oB,e,cT,hl,and_false,if_false];rfl;have e:(((f.2.2.2.2.1.length:Nat):Int) != f.2.2.1.2.1)=false:=by simpa using hl
 have a:f.2.2.2.2.1.length≤8:=by have:=hf.1.2.2.2.1;omega
 have k:decide ((0:Int)≤((f.2.2.2.2.1.length:Nat):Int))=true:=by simp
 have h:=b7k f f.2.2.2.2.1 a f.2.2.2.2.1 [] [] rfl rfl b;rw[a16]at h;rw[if_pos ⟨hf,hl⟩];simp only[hf,decide_true,bT,cF,oB,e,k,tN,a0N (show f.2.2.2.2.1.length<2147483648 by omega),a04,cT]
 erw[h]
 cases hm:a7Y (fun s=>a1x s f.2.1) f.2.2.2.2.1 with
 |none=>rfl
 |some rs=>
  simp only[oB,a08,d3F]
  by_cases hq:a2W rs∧a7X f.2.2.2.1 (rs.length:Int)
  ·simp only[if_pos hq];cases hu:a5S f.2.2.2.1 rs with
   |none=>rfl
   |some ch=>
    have g:((0:Int) != 0)=false:=rfl;simp only[c8Y,g,cF,b2l,oB]
    by_cases hb:a1Z (f.2.2.1.2.2.1,ch,())
    simp only[hb,decide_true,bT,cF,if_true];rfl;simp only[hb,decide_false,a19,cT,if_false];rfl
  simp only[if_neg hq];rfl
theorem d0I(h:∀s∈f.2.2.2.2.1,SmallS s):a4T f=some (a2m f).isSome:=by
 unfold a4T;rw[b8d h];cases a2m f<;>rfl
theorem b2m{b:a1e}(h:a2m f=some b):frP f∧((f.2.2.2.2.1.length:Nat):Int)=f.2.2.1.2.1∧∀s∈f.2.2.2.2.1,(a1x s f.2.1).isSome=true:=by
 unfold a2m at h
 split at h
 rename_i g;simp only[a34]at h;obtain⟨a,k,-⟩:=h;exact⟨g.1,g.2,c2v k⟩;cases h
theorem b8e(x:a0M):eqT (.pair (.int .i64) (.pair (.int .i64) (.pair (.int .i64) .unit))) x x=true:=by
 show((x.1==x.1)&&((x.2.1==x.2.1)&&((x.2.2.1==x.2.2.1)&&true)))=true
 simp
theorem c1S{x:List a0M}(h:x.length<1000000):a6A (x,x)=some true:=by
 unfold a6A
 have:=a0X (f:=a4D) (β:=Unit ⊕ (Bool×Unit)) x (fun i=>(x,x,(i:Int),())) (fun _=>true) (bt:=Sum.inl ()) (bf:=Sum.inr (false,()))
  (fun i hi _=>by simp only[a4D,dlt hi,cT,a0B hi,oB,b8e,bT,cF,a0A (show i<1000000 by omega)])
  (fun i hi hp=>by grind) (by simp_all[a4D])
 grind
theorem c1T(g:∀s∈f.2.2.2.2.1,SmallS s)(h:f.2.2.2.1.length<1000000)(k:f.2.2.2.2.1.length<1000000):a6B (f,f)=some true:=by
 unfold a6B
 have:=a0X (f:=a4E) (β:=Unit ⊕ (Bool×Unit)) f.2.2.2.2.1 (fun i=>((i:Int),f,f,())) (fun _=>true) (bt:=Sum.inl ()) (bf:=Sum.inr (false,()))
  (fun i hi _=>by simp only[a4E,dlt hi,cT,a0B hi,oB,b9l (g _ (a05 hi)),decide_true,bT,cF,a0A (show i<1000000 by omega)])
  (fun i hi hp=>by grind) (by simp_all[a4E])
 simp at this;simp[b8e,c1S h]
 grind
theorem c5a:a8h c=some (decide (1≤c.length∧c.length≤8∧c.all (fun r=>decide (r.length=(c.headD []).length))=true)):=by
 unfold a8h
 by_cases h1:((c.length:Nat):Int)<1
 grind
 by_cases h2:((c.length:Nat):Int) > 8
 grind
 have h:0<c.length:=by omega
 have g:m0k c 0=some (c.headD []):=by rw[show(0:Int)=((0:Nat):Int)from rfl,a0B h,b2P (d:=[]) h]
 have:=a0X (f:=a5v) (β:=Unit ⊕ (Bool×Unit)) c (fun i=>(c,(i:Int),())) (fun r=>decide (r.length=(c.headD []).length)) (bt:=Sum.inl ()) (bf:=Sum.inr (false,()))
  (fun i hi hp=>by
   simp only[dT]at hp;have e:((((c[i]).length:Nat):Int) != (((c.headD []).length:Nat):Int))=false:=by simp_all
   simp only[a5v,dlt hi,cT,a0B hi,oB,g,e,cF,a0A (show i<1000000 by omega)])
  (fun i hi hp=>by
   simp only[decide_eq_false_iff_not]at hp;have e:((((c[i]).length:Nat):Int) != (((c.headD []).length:Nat):Int))=true:=by grind
   simp only[a5v,dlt hi,cT,a0B hi,oB,g,e]) (by simp_all[a5v])
 grind
theorem b2n(h:4≤w∧w≤24):a6W (x,w)=some (a1E x w):=by
 have:=b3a (x:=x) (w:=w.toNat) (by omega)
 grind
theorem b2Q(b:a1e):a5w b=some (decide (a1Z b)):=by
 unfold a5w
 by_cases h1:b.1<4
 rw[decide_eq_true h1,decide_eq_false (fun h:a1Z b=>by have:=h.1;omega)];rfl
 by_cases h2:b.1 > 24
 rw[decide_eq_false h1,decide_eq_true h2,decide_eq_false (fun h:a1Z b=>by have:=h.2.1;omega)];rfl;simp only[decide_eq_false h1,decide_eq_false h2,cF,c5a,oB]
 by_cases h3:1≤b.2.1.length∧b.2.1.length≤8∧b.2.1.all (fun r=>decide (r.length=(b.2.1.headD []).length))=true
 rotate_left;rw[decide_eq_false h3,decide_eq_false (fun h:a1Z b=>h3 ⟨h.2.2.1,h.2.2.2.1,lA.2 fun r a=>by
  have:=lA.1 h.2.2.2.2.2.2 r a
  simp only[bA]at this;exact this.1⟩)];rfl
 have c:0<b.2.1.length:=by omega
 have e:m0k b.2.1 0=some (b.2.1.headD []):=by rw[show(0:Int)=((0:Nat):Int)from rfl,a0B c,b2P (d:=[]) c]
 simp only[decide_eq_true h3,bT,cF,e,oB]
 by_cases h4:(((b.2.1.headD []).length:Nat):Int)<1
 rw[decide_eq_true h4,decide_eq_false (fun h:a1Z b=>by have:=h.2.2.2.2.1;grind[a0T])];rfl
 by_cases h5:(((b.2.1.headD []).length:Nat):Int) > 4096
 rw[decide_eq_false h4,decide_eq_true h5,decide_eq_false (fun h:a1Z b=>by have:=h.2.2.2.2.2.1;grind[a0T])];rfl;simp only[decide_eq_false h4,decide_eq_false h5,cF,oB];have hb:4≤b.1∧b.1≤24:=by omega
 have g:∀(i:Nat)(hi:i<b.2.1.length),y0s a2C ((i:Int),(0:Int),b,())=some (bif (b.2.1[i]).all (fun x=>a1E x b.1)then Sum.inl ((i:Int),b,())else Sum.inr (false,())):=fun i hi=>by
  have n:(b.2.1[i]).length=(b.2.1.headD []).length:=by simp_all
  have:=a0X (f:=a2C) (β:=(Int×a1e×Unit) ⊕ (Bool×Unit)) b.2.1[i] (fun j=>((i:Int),(j:Int),b,())) (fun x=>a1E x b.1) (bt:=Sum.inl ((i:Int),b,())) (bf:=Sum.inr (false,()))
   (fun j h hp=>by simp only[a2C,a0B hi,oB,dlt h,cT,a0B h,b2n hb,hp,bT,cF,a0A (show j<1000000 by omega)])
   (fun j h hp=>by simp only[a2C,a0B hi,oB,dlt h,cT,a0B h,b2n hb,hp,a19])
   (by simp_all[a2C,a0B])
  omega
 have k:=a0X (f:=a3v) (β:=Unit ⊕ (Bool×Unit)) b.2.1 (fun i=>((i:Int),b,())) (fun r=>r.all fun x=>a1E x b.1) (bt:=Sum.inl ()) (bf:=Sum.inr (false,()))
  (fun i h hp=>by
   have hi:=g i h;rw[hp,cT]at hi;simp only[a3v,dlt h,cT]
   grind[a0A])
  (fun i h hp=>by
   have hi:=g i h;rw[hp,cF]at hi;simp_all[a3v])
  (by simp_all[a3v])
 simp at k;rw[k]
 by_cases hA:b.2.1.all (fun r=>r.all fun x=>a1E x b.1)=true
 rw[hA,decide_eq_true (p:=a1Z b) (⟨hb.1,hb.2,h3.1,h3.2.1,by unfold a0T;omega,by unfold a0T;omega,lA.2 fun r a=>by
  have l:=lA.1 h3.2.2 r a;have m:=lA.1 hA r a;simp_all[a0T]⟩:a1Z b)]
 rfl;rw[a55.2 hA,decide_eq_false (p:=a1Z b) (fun h=>hA (lA.2 fun r a=>by
  have:=lA.1 h.2.2.2.2.2.2 r a
  simp_all))]
 rfl
theorem b5J(f:a0M):a8g f=some (decide (a4d f)):=by
 unfold a8g a4d
 grind
theorem b3A(l:List a0M)(n:Int):a6h (l,n)=some (decide (a7X l n)):=by
 unfold a6h a7X
 by_cases h1:n<1
 grind
 by_cases h2:n > 8
 grind
 by_cases h3:((l.length:Nat):Int) > 16
 grind
 have g:=a0X (f:=a3Z) (β:=Unit ⊕ (Bool×Unit)) l (fun i=>(l,n,(i:Int),())) (a3B n) (bt:=Sum.inl ()) (bf:=Sum.inr (false,()))
  (fun i h hp=>by
   obtain⟨a1,m,o,p,q,r,s⟩:=a4Q.1 hp;have k:decide (l[i].1<0)=false:=by simp_all
   have a:decide (l[i].1≥n)=false:=by simp_all
   have b:decide (l[i].2.1<0)=false:=by simp_all
   have c:decide (l[i].2.1≥n)=false:=by simp_all
   have d:(l[i].1==l[i].2.1)=false:=by simp_all
   have e:decide (l[i].2.2.1 < -1024)=false:=by simp_all
   have j:decide (l[i].2.2.1 > 1024)=false:=by simp_all
   simp only[a3Z,dlt h,cT,a0B h,oB,k,a,b,c,d,e,j,cF,a0A (show i<1000000 by omega)])
  (fun i h hp=>by
   simp only[a3Z,dlt h,cT,a0B h,oB]
   grind[a3B])
  (by simp[a3Z])
 grind
theorem c6I(c:List (List Int))(l:List a0M):b1x (c,l)=some (decide (a2W c∧a7X l (c.length:Int))):=by
 unfold b1x;simp only[c5a,oB]
 by_cases hl:1≤c.length∧c.length≤8∧c.all (fun r=>decide (r.length=(c.headD []).length))=true
 rotate_left;rw[decide_eq_false hl,decide_eq_false (fun h:a2W c∧_=>hl ⟨h.1.1,h.1.2.1,lA.2 fun r a=>by
  have:=lA.1 h.1.2.2.2 r a
  simp_all⟩)]
 rfl;have b:m0k c 0=some (c.headD []):=by rw[show(0:Int)=((0:Nat):Int)from rfl,a0B (show 0<c.length by omega),b2P (d:=[]) (by omega)]
 rw[decide_eq_true hl];simp only[bT,cF,b,oB]
 by_cases h3:(((c.headD []).length:Nat):Int) > 4096
 rw[decide_eq_true h3,decide_eq_false (fun h:a2W c∧_=>by have:=h.1.2.2.1;omega)];rfl;rw[decide_eq_false h3];simp only[cF,b3A,oB]
 by_cases hm:a7X l (c.length:Int)
 rotate_left;simp_all;rw[decide_eq_true hm];simp only[bT,cF];have k:∀r∈c,r.length=(c.headD []).length:=fun r a=>by simp_all
 have g:=a0X (f:=a6i) c (fun i=>(c,(i:Int),())) (fun r=>r.all a0D) (bt:=Sum.inl ()) (bf:=Sum.inr (false,()))
  (fun i h hp=>by
   have:=k c[i] (a05 h)
   simp only[a6i,dlt h,cT,a0B h,oB,a1m (show short c[i]by unfold short;omega),hp,bT,cF,a0A (show i<1000000 by omega)])
  (fun i h hp=>by
   have:=k c[i] (a05 h)
   simp only[a6i,dlt h,cT,a0B h,oB,a1m (show short c[i]by unfold short;omega),hp,a19])
  (by simp_all[a6i])
 simp at g;rw[g]
 by_cases hA:c.all (fun r=>r.all a0D)=true
 rw[hA,decide_eq_true (⟨⟨hl.1,hl.2.1,by omega,lA.2 fun r a=>by grind⟩,hm⟩:a2W c∧_)];rfl;rw[a55.2 hA,decide_eq_false (fun h:a2W c∧_=>hA (lA.2 fun r a=>by
  have:=lA.1 h.1.2.2.2 r a
  simp_all))];rfl
theorem c3F{n:Nat}(h:a7K c n)(l:n≤5000)(j:c.length≤100):a9k c=some c:=by
 have:=a1d (f:=a6H) (β:=List (List Int)×Unit) c (fun i (a:List (List Int))=>(c,(i:Int),a,())) (fun a x=>.inl (a++[x])) (fun i a=>a.length=i) (fun a=>(a,()))
  (fun i hi a k=>⟨fun e g=>by
   simp at g;subst g;have m:=(h _ (a05 hi)).1;have d:∀y:List Int,a79 ([([]:List Int)]:List (List Int)) 0 y=[y]:=fun _=>rfl;refine⟨?_,by grind⟩;simp only[a6H,dlt hi,cT,a0B hi,oB,d,a06,a08,a41];rw[a0N (by omega),cT,a0N (by omega),cT,a0A (show i<1000000 by omega)],fun b hb=>by grind⟩)
  (fun a k=>by simp_all[a6H]) (a:=[]) rfl
 simp_all[a8J,a9k,b1i]
theorem d1H{n:Nat}(S:a7K c n)(T:n≤5000){s:a0M}(p:sign=1∨sign=-1)(D:-1024≤s.2.2.1∧s.2.2.1≤1024)(a0:0≤s.1)(a1:s.1<(c.length:Int))(K:0≤s.2.1)(b1:s.2.1<(c.length:Int))(C:s.1.toNat≠s.2.1.toNat){xs:List Int}(H:c.getD s.1.toNat []=xs)(G:xs.length=n):∀(k g j h:List Int),j++k=xs→j.length=h.length→k.length=g.length→k.all a0D=true→g.all a0D=true→
  if(a9X sign s.2.2.1 k g).all a0D=true then
   y0s a5z (sign,(h.length:Int),c.set s.2.1.toNat (h++g),s,())=some (.inl (c.set s.2.1.toNat (h++a9X sign s.2.2.1 k g),()))
  else ∃c',y0s a5z (sign,(h.length:Int),c.set s.2.1.toNat (h++g),s,())=some (.inr (false,c',())):=by
 have hb:s.2.1.toNat<c.length:=by omega
 have F:∀r,(c.set s.2.1.toNat r).getD s.2.1.toNat []=r:=fun r=>b7j _ hb _ _;have E:∀r,(c.set s.2.1.toNat r).getD s.1.toNat []=xs:=fun r=>by grind
 have d:∀r,r.length=n→((c.set s.2.1.toNat r).getD 0 []).length=n:=fun r U=>by
  by_cases l:s.2.1.toNat=0
  grind
  rw[c6H _ (Ne.symm l)]
  grind[a7f]
 have w:decide ((0:Int)<(c.length:Int))=true:=by grind
 have N:decide ((0:Int)≤s.1)=true:=by simp_all
 have z:decide (s.1<(c.length:Int))=true:=by simp_all
 have O:decide ((0:Int)≤s.2.1)=true:=by simp_all
 have A:decide (s.2.1<(c.length:Int))=true:=by simp_all
 intro k
 induction k with
 |nil=>
  intro g j h u hp q _ _;have e:g=[]:=a53.1 q.symm;subst e;have B:h.length=n:=by simp_all
  have l:=d (h++[]) (by simp_all);rw[if_pos (by rfl)];refine a0C ?_
  simp only[a5z,b06,w,cT,l,B,dge,cF];rfl
 |cons x k v=>
  intro g j h u hp q a b;cases g with
  |nil=>simp_all
  |cons y g=>
   simp only[a20,bA]at a b;have i:(h++y::g).length=n:=by grind
   have o:h.length<n:=by grind
   have P:a50 xs (a18 (h.length:Int)) 0=x:=by rw[tN,←hp,←u];simp
   have Q:a50 (h++y::g) (a18 (h.length:Int)) 0=y:=by simp
   have L:decide ((0:Int)≤(h.length:Int))=true:=by simp
   have M:decide ((h.length:Int)<(n:Int))=true:=dlt o;have l:=d _ i;have hv:=c4Z p D a.1 b.1;have V:wrap .i64 ((h.length:Int)+1)=((h.length+1:Nat):Int):=a0A (by omega);have I:a9X sign s.2.2.1 (x::k) (y::g)=a2X sign s.2.2.1 x y::a9X sign s.2.2.1 k g:=rfl;have t:a79 (c.set s.2.1.toNat (h++y::g)) s.2.1.toNat (a79 (h++y::g) (a18 (h.length:Int)) (a2X sign s.2.2.1 x y))=c.set s.2.1.toNat (h++a2X sign s.2.2.1 x y::g):=by
    simp
   have m:(h++a2X sign s.2.2.1 x y::g).length=n:=by simp_all
   have R:a50 (h++a2X sign s.2.2.1 x y::g) (a18 (h.length:Int)) 0=a2X sign s.2.2.1 x y:=by simp
   have f:a5z (sign,(h.length:Int),c.set s.2.1.toNat (h++y::g),s,()) =
     bif !(a0D (a2X sign s.2.2.1 x y))then some (.inr (Sum.inr (false,c.set s.2.1.toNat (h++a2X sign s.2.2.1 x y::g),())))
     else some (.inl (sign,((h.length+1:Nat):Int),c.set s.2.1.toNat (h++a2X sign s.2.2.1 x y::g),s,())):=by
    simp_all[a5z,a1M]
   cases hwv:a0D (a2X sign s.2.2.1 x y)with
   |false=>
    simp_all[a0C]
   |true=>
    rw[hwv]at f;have v:=v g (j++[x]) (h++[a2X sign s.2.2.1 x y]) (by simp_all) (by simp[hp]) (by simp_all) a.2 b.2;rw[a0E f,I];simp_all
theorem c8Z{n:Nat}(k:a7K c n)(p:n≤5000){s:a0M}(q:a3B (c.length:Int) s=true)(a:sign=1∨sign=-1):
  ∃b f,b2x (c,s,sign)=some (b,f)∧match a7L sign s c with|some r=>b=true∧f=r|none=>b=false:=by
 obtain⟨a1,e,j,l,u,m,o⟩:=a4Q.1 q;have d:=a7f k (i:=s.1.toNat) (by omega);have t:=a7f k (i:=s.2.1.toNat) (by omega);have hb:s.2.1.toNat<c.length:=by omega
 have g:c.set s.2.1.toNat (c.getD s.2.1.toNat [])=c:=by
  simp_all
 have:=d1H k p a ⟨m,o⟩ a1 e j l (by omega) (rfl:c.getD s.1.toNat []=_) d.1 (c.getD s.1.toNat []) (c.getD s.2.1.toNat []) [] [] rfl rfl (by omega) d.2 t.2
 rw[a08,g]at this;simp only[a16,nZ,a08,a96]at this;unfold b2x a7L
 by_cases hA:(a9X sign s.2.2.1 (c.getD s.1.toNat []) (c.getD s.2.1.toNat [])).all a0D=true
 simp_all;rw[if_neg hA]at this⊢;obtain⟨f,h⟩:=this;simp_all
theorem b5K{n N:Nat}(f:n≤5000){l:List a0M}(i:l.length≤16)(e:l.all (a3B (N:Int))=true):∀(k:Nat)(c:List (List Int)),k≤l.length→a7K c n→c.length=N→
  y0s a5h (l,(k:Int)-1,c,())=some (match a5S (l.take k) c with|some r=>Sum.inl (r,())|none=>Sum.inr ([],6,()))
 |0,c,_,_,_=>a0C rfl
 |k+1,c,hk,hc,hcl=>by
  have hi:k<l.length:=by omega
  have a:a3B (c.length:Int) l[k]=true:=by grind
  obtain⟨b,h,m,g⟩:=c8Z hc f a (sign:=-1) (.inr rfl);rw[a56 hi,b4a];rw[show((k+1:Nat):Int)-1=((k:Nat):Int)from by omega];have d:decide (((k:Nat):Int)≥0)=true:=by simp
  have w:wrap .i64 (((k:Nat):Int)-1)=((k:Nat):Int)-1:=a0J (by omega);cases hst:a7L (-1) l[k] c with
  |none=>
   simp_all[a0C,a5h,a0B]
  |some r=>
   rw[hst]at g;obtain⟨rfl,rfl⟩:=g;obtain⟨j,o⟩:=b3Z hc a hst;rw[a0E (s':=(l,((k:Nat):Int)-1,h,())) (by
    simp_all[a5h,a0B])]
   rw[b5K f i e k h (by omega) j (by omega)];rfl
theorem b9K(c:List (List Int))(l:List a0M):a7x (c,l)=some (if a2W c∧a7X l (c.length:Int)then c8Y (a5S l c)else([],1)):=by
 unfold a7x;simp only[c6I,oB]
 by_cases hq:a2W c∧a7X l (c.length:Int)
 have g:=c1R hq.1;have h:=hq.2;rw[decide_eq_true hq,if_pos hq]
 simp
 rw[c3F g (by have:=hq.1.2.2.1;omega) (by have:=hq.1.2.1;omega)]
 have:=b5K (N:=c.length) (by have:=hq.1.2.2.1;omega:(c.headD []).length≤5000) h.2.2.1 h.2.2.2 l.length c (a40 _) g rfl
 rw[a24]at this
 simp
 rw[a0J (n:=((l.length:Nat):Int)-1) (by have:=h.2.2.1;omega),this];cases a5S l c<;>rfl
 grind
theorem c1U(f:a0S):a8q f=some (decide (frP f)):=by
 unfold a8q;simp only[b5J,b3A,oB]
 by_cases h0:a4d f.2.2.1
 rotate_left;rw[decide_eq_false h0,decide_eq_false (fun h:frP f=>h0 h.1)];rfl
 by_cases h1:1≤f.2.1
 rotate_left;rw[decide_eq_true h0,decide_eq_false (fun h:f.2.1≥1=>h1 h),decide_eq_false (fun h:frP f=>h1 h.2.1)];rfl
 by_cases h2:f.2.1≤4096
 rotate_left;rw[decide_eq_true h0,decide_eq_true (show f.2.1≥1 from h1),decide_eq_false h2,decide_eq_false (fun h:frP f=>h2 h.2.2.1)];rfl
 by_cases h3:0≤f.1
 rotate_left;rw[decide_eq_true h0,decide_eq_true (show f.2.1≥1 from h1),decide_eq_true h2,decide_eq_false (fun h:f.1≥0=>h3 h),decide_eq_false (fun h:frP f=>h3 h.2.2.2.1)];rfl;rw[a0J (n:=4194304-f.2.1) (by omega)]
 by_cases h4:f.1≤4194304-f.2.1
 rotate_left;rw[decide_eq_true h0,decide_eq_true (show f.2.1≥1 from h1),decide_eq_true h2,decide_eq_true (show f.1≥0 from h3),decide_eq_false h4,decide_eq_false (fun h:frP f=>h4 h.2.2.2.2.1)];rfl;rw[decide_eq_true h0,decide_eq_true (show f.2.1≥1 from h1),decide_eq_true h2,decide_eq_true (show f.1≥0 from h3),decide_eq_true h4];simp only[cT];congr 1;exact decide_eq_decide.2 ⟨fun h=>⟨h0,h1,h2,h3,h4,h⟩,fun h=>h.2.2.2.2.2⟩
theorem b3B(f:a0S)(c:f.2.2.2.2.1.length≤8):∀(rest done:List Sub)(rows:List (List Int)),done++rest=f.2.2.2.2.1→rows.length=done.length→(∀s∈rest,SmallS s)→
  y0s a2K ((done.length:Int),rows,a5A,f,())=some (match a7Y (fun s=>a1x s f.2.1) rest with|some rs=>Sum.inl (rows++rs,a5A,f,())|none=>Sum.inr (false,a5A,()))
 | [],done,rows,hd,hr,_=>by
  have e:f.2.2.2.2.1.length=done.length:=by rw[←hd];simp
  rw[a0C (b:=Sum.inl (rows,a5A,f,())) (by simp only[a2K,e,dge,cF])];simp[a7Y]
 |s::rest,done,rows,hd,hr,h=>by
  have d:=h s (by simp);have k:done.length<f.2.2.2.2.1.length:=by rw[←hd];simp
  have a:m0k f.2.2.2.2.1 (done.length:Int)=some s:=by rw[a0B k];congr 1;simp[←hd]
  have g:=b4n d f.2.1;simp only[a7Y];cases ho:a1x s f.2.1 with
  |none=>
   rw[ho]at g;exact a0C (by simp only[a2K,dlt k,cT,a,oB,g,a19];rfl)
  |some r=>
   rw[ho]at g;rw[a0E (s':=((((done++[s]).length:Nat):Int),rows++[r],a5A,f,())) (by
    simp only[a2K,dlt k,cT,a,oB,g,bT,cF,a0N (show rows.length+1<2147483648 by omega),a0A (show done.length<1000000 by omega)]
    simp)]
   rw[b3B f c rest (done++[s]) (rows++[r]) (by simpa using hd) (by simp[hr]) (fun t i=>h t (by simp[i]))];simp only[oB];cases a7Y (fun s=>a1x s f.2.1) rest<;>simp
def d7o:Option a1e→a1e×Bool
 |some b=>(b,true)
 |none=>(a5A,false)
theorem b5L(a:∀s∈f.2.2.2.2.1,SmallS s):a2h f=some (d7o (a2m f)):=by
 unfold a2h a2m;simp only[c1U,oB]
 by_cases hf:frP f
 rotate_left;simp only[hf,decide_false,a19,cT,oB,false_and,if_false];rfl
 by_cases hl:((f.2.2.2.2.1.length:Nat):Int)=f.2.2.1.2.1
 rotate_left;have e:(((f.2.2.2.2.1.length:Nat):Int) != f.2.2.1.2.1)=true:=by simpa using hl
 simp only[hf,decide_true,bT,cF,oB,e,cT,hl,and_false,if_false];rfl;have e:(((f.2.2.2.2.1.length:Nat):Int) != f.2.2.1.2.1)=false:=by simpa using hl
 have k:f.2.2.2.2.1.length≤8:=by have:=hf.1.2.2.2.1;omega
 have h:=b3B f k f.2.2.2.2.1 [] [] rfl rfl a;rw[a16]at h;rw[if_pos ⟨hf,hl⟩];simp only[hf,decide_true,bT,cF,oB,e]
 erw[h]
 cases hm:a7Y (fun s=>a1x s f.2.1) f.2.2.2.2.1 with
 |none=>rfl
 |some rs=>
  simp only[oB,a08,b9K]
  by_cases hq:a2W rs∧a7X f.2.2.2.1 (rs.length:Int)
  ·simp only[if_pos hq];cases hu:a5S f.2.2.2.1 rs with
   |none=>rfl
   |some ch=>
    have g:((0:Int) != 0)=false:=rfl;simp only[c8Y,g,cF,b2Q,oB]
    by_cases hb:a1Z (f.2.2.1.2.2.1,ch,())
    simp only[hb,decide_true,bT,cF,if_true];rfl;simp only[hb,decide_false,a19,cT,if_false];rfl
  simp only[if_neg hq];rfl
theorem b9L(h:∀s∈f.2.2.2.2.1,SmallS s):a7D f=some (a2m f).isSome:=by
 unfold a7D;rw[b5L h];cases a2m f<;>rfl
def crE(s:BitVec 16):BitVec 16:=bif s.msb then(s <<< 1) ^^^ 32773#16 else s <<< 1
theorem c7c(s t:BitVec 16):crE (s ^^^ t)=crE s ^^^ crE t:=by
 unfold crE;rw[BitVec.msb_xor,BitVec.shiftLeft_xor_distrib];cases s.msb<;>cases t.msb<;>simp only[cT,cF,Bool.xor_true,Bool.xor_false,bT,a19];rw[a21];rw[a21,a21,a80 (t <<< 1)];rw[a21,a80 32773#16,a21,BitVec.xor_self,b09]
theorem d1I{s:BitVec 16}(h:crE s=0):s=0:=by
 unfold crE at h;cases hm:s.msb with
 |true=>
  rw[hm,cT]at h
  have:=congrArg (fun x=>a86 x 0) h
  simp at this
 |false=>
  rw[hm,cF]at h;refine a75 fun i hi=>?_
  by_cases h15:i=15
  subst h15;rw[a68]at hm;simpa using hm
  have:=congrArg (fun x=>a86 x (i+1)) h
  simp at this;simpa using this (by omega)
theorem d7p:crE 0=0:=by decide
theorem b8f{s:BitVec 16}:∀{n:Nat},rep crE n s=0→s=0
 |0,h=>h
 |n+1,h=>d1I (b8f (n:=n) h)
theorem d3i:∀n:Nat,rep crE n 0=0
 |0=>rfl
 |n+1=>by
  show rep crE n (crE 0)=0;rw[d7p,d3i n]
def crB(b:Bool):BitVec 16:=bif b then 32768#16 else 0#16
def crS(s:BitVec 16)(b:Bool):BitVec 16:=crE (s ^^^ crB b)
def crT:List Bool→BitVec 16
 | []=>0#16
 |b::w=>crB b ^^^ (crT w >>> 1)
theorem d3G(b:Bool)(j:Nat):(crB b).getLsbD j=(b&&decide (j=15)):=by
 cases b with
 |false=>simp[crB]
 |true=>
  simp only[crB,cT,a22];rw[show(32768#16)=b19 16 (2^15)from rfl,BitVec.getLsbD_ofNat,Nat.testBit_two_pow]
  by_cases h:j=15
  subst h;rfl;rw[decide_eq_false (by omega:¬ (15=j)),decide_eq_false h,a85]
theorem b6f:∀(w:List Bool)(j:Nat),(crT w).getLsbD j=(decide (j<16)&&w.getD (15-j) false)
 | [],j=>by simp[crT]
 |b::w,j=>by
  rw[crT,BitVec.getLsbD_xor,d3G,a48,b6f w]
  by_cases h:j=15
  subst h;simp
  by_cases h2:j<16
  rw[show 15-j=(15-(1+j))+1 from by omega,a64];simp[h,h2,show 1+j<16 from by omega];simp[h,h2,show ¬ (1+j<16)from by omega]
theorem d1J{w:List Bool}(h:w.length≤15):crE (crT w >>> 1)=crT w:=by
 have f:(crT w >>> 1).msb=false:=by
  rw[a68,a48,b6f];simp
 unfold crE;rw[f,cF];refine a75 fun i hi=>?_
 rw[BitVec.getLsbD_shiftLeft,a48];cases i with
 |zero=>
  have g:(crT w).getLsbD 0=false:=by
   rw[b6f,lD,List.getElem?_eq_none (by omega)];rfl
  rw[g];simp
 |succ i=>rw[show 1+(i+1-1)=i+1 from by omega];simp[hi]
theorem d4I:∀(w:List Bool)(s:BitVec 16),w.length≤16→w.foldl crS s=rep crE w.length (s ^^^ crT w)
 | [],s,_=>by simp[crT,rep]
 |b::w,s,h=>by
  rw[lC]at h;rw[a81,d4I w _ (by omega),crT,←a21];show _=rep crE w.length (crE (s ^^^ crB b ^^^ (crT w >>> 1)));rw[c7c,d1J (by omega)];rfl
theorem c5b{α:Type}(f g:α→Bool):∀(L:List α)(s t:BitVec 16),(L.map fun j=>xor (f j) (g j)).foldl crS (s ^^^ t)=(L.map f).foldl crS s ^^^ (L.map g).foldl crS t
 | [],_,_=>rfl
 |a::L,s,t=>by
  simp only[a92,a81];rw[←c5b f g L];congr 1;unfold crS;rw[←c7c];congr 1
  have:crB (xor (f a) (g a))=crB (f a) ^^^ crB (g a):=by cases f a<;>cases g a<;>rfl
  rw[this];simp only[a21];rw[←a21 t,a80 t,a21]
theorem b4b:∀(n:Nat)(s:BitVec 16),(a00 n false).foldl crS s=rep crE n s
 |0,_=>rfl
 |n+1,s=>by
  rw[a93,a81,b4b n];show rep crE n (crE (s ^^^ 0#16))=rep crE n (crE s);rw[b09]
theorem d7q{w:List Bool}(h:w.length≤16)(f:true∈w)(k m:Nat):(a00 k false++(w++a00 m false)).foldl crS 0≠0:=by
 rw[a54,a54,b4b,b4b,d3i,d4I w _ h];intro e;have e:=b8f (b8f e);have e:crT w=0:=by simpa using e
 obtain⟨i,hi,g⟩:=a61.1 f
 have:=b6f w (15-i)
 rw[e,show 15-(15-i)=i from by omega,lD,lG hi,g]at this;simp at this;omega
def byb(c:Int):List Bool:=[7,6,5,4,3,2,1,0].map fun i=>c.toNat.testBit i
theorem c5c(a b:Int):0≤bits .u16 .xor a b∧bits .u16 .xor a b<65536:=by
 simp only[bits,c1P];omega
def b6g(p:List Int):List Bool:=p.flatMap byb
theorem c9a(s:Sub)(m:Nat)(k:m≤5000)(g:s.2.2.2.2.2.2.1.length=3):∃t,b0I (s,(m:Int))=some t∧(t=true→SmallS s∧s.2.2.2.2.2.2.2.2.1.length≤m∧s.2.2.2.2.2.2.2.2.2.2.1.length≤m):=by
 unfold b0I
 by_cases h1:((s.2.2.2.2.2.1.length:Nat):Int)≤40
 rotate_left;exact⟨false,by rw[decide_eq_false h1];rfl,fun h=>by cases h⟩
 by_cases h2:((s.2.2.2.2.2.2.2.1.length:Nat):Int)≤6
 rotate_left;exact⟨false,by rw[decide_eq_true h1,decide_eq_false h2];rfl,fun h=>by cases h⟩
 by_cases h3:((s.2.2.2.2.2.2.2.2.1.length:Nat):Int)≤(m:Int)
 rotate_left;exact⟨false,by rw[decide_eq_true h1,decide_eq_true h2,decide_eq_false h3];rfl,fun h=>by cases h⟩
 by_cases h4:((s.2.2.2.2.2.2.2.2.2.2.1.length:Nat):Int)≤(m:Int)
 rotate_left;exact⟨false,by rw[decide_eq_true h1,decide_eq_true h2,decide_eq_true h3,decide_eq_false h4];rfl,fun h=>by cases h⟩;refine⟨_,by rw[decide_eq_true h1,decide_eq_true h2,decide_eq_true h3,decide_eq_true h4];rfl,fun h=>?_⟩;have f:((s.2.2.2.2.2.2.2.2.2.1.2.1.length:Nat):Int)≤300:=of_decide_eq_true h;exact⟨⟨by omega,g,by omega,by omega,by omega,by omega⟩,by omega,by omega⟩
def d4J(c:Int):Prop:=0≤c∧c<256
def a8Q(p:List Int)(j:Nat):Bool:=(p.getD (j / 8) 0).toNat.testBit (7-j%8)
theorem b8g:∀p:List Int,b6g p=(a65 (8*p.length)).map (a8Q p)
 | []=>rfl
 |c::p=>by
  have e:b6g (c::p)=byb c++b6g p:=rfl;rw[e,b8g p,lC,show 8*(p.length+1)=8+8*p.length from by omega,a87,pA,a63];congr 1;refine a94 fun j _=>?_
  show a8Q p j=a8Q (c::p) (8+j);unfold a8Q;rw[show(8+j) / 8=j / 8+1 from by omega,a64,show(8+j)%8=j%8 from by omega]
structure Turn (b k i:Nat) (p0 p:List Int) (sm:Bool):Prop where
 len:p.length=p0.length
 ok:∀c∈p,d4J c
 bit:∀j,a8Q p j=xor (a8Q p0 j) (decide (k≤j∧j<k+i)&&b.testBit (j-k))
 smk:sm=true↔∃t,t<i∧b.testBit t=true
 pre:p.take (k / 8)=p0.take (k / 8)
 same:sm=false→p=p0
theorem turned{p0 q:List Int}{s:Bool}(w:k<8*p0.length)(i:(b6g p0).foldl crS 0=0)(g:Turn b k (min 16 (8*p0.length-k)) p0 q s)(u:s=true):(b6g q).foldl crS 0≠0:=by
 obtain⟨n,r⟩:∃n,min 16 (8*p0.length-k)=n:=⟨_,rfl⟩;rw[r]at g;have e:b6g q=(a65 (8*p0.length)).map fun j=>xor (a8Q p0 j) (decide (k≤j∧j<k+n)&&b.testBit (j-k)):=by
  rw[b8g,g.len];exact a94 fun j _=>g.bit j
 have h:=c5b (a8Q p0) (fun j=>decide (k≤j∧j<k+n)&&b.testBit (j-k)) (a65 (8*p0.length)) 0 0;have a:∀x:BitVec 16,(0:BitVec 16) ^^^ x=x:=fun _=>BitVec.zero_xor;rw[a,←e,←b8g,i,a]at h;rw[h];obtain⟨m,p⟩:∃m,8*p0.length=k+(n+m):=⟨8*p0.length-k-n,by omega⟩;rw[p,a87,a87,pA,pA,pA,a63,a63,a63];have c:(a65 k).map (fun j=>decide (k≤j∧j<k+n)&&b.testBit (j-k))=a00 k false:=by
  rw[a83];refine⟨by simp,fun x f=>?_⟩;obtain⟨j,o,rfl⟩:=b00.1 f
  grind
 have d:(a65 m).map (((fun j=>decide (k≤j∧j<k+n)&&b.testBit (j-k))∘(k+·))∘(n+·))=a00 m false:=by
  rw[a83];refine⟨by simp,fun x f=>?_⟩;obtain⟨j,o,rfl⟩:=b00.1 f
  grind
 rw[c,d];refine d7q (by simp;omega) ?_ k m;obtain⟨t,l,v⟩:=g.smk.1 u;refine b00.2 ⟨t,List.mem_range.2 l,?_⟩;simp_all
theorem d3H(h:-100000≤g∧g≤100000):a9M g=some ((b3e g:Nat):Int):=by
 unfold a9M b3e
 by_cases hg:0≤g
 have d:decide (g<0)=false:=by simp only[decide_eq_false_iff_not];omega
 have e:A0n .u64 (wrap .u64 g) 1=2*g:=by
  show wrap .u64 (wrap .u64 g*2)=_;rw[a0G (n:=g) (by omega),a0G (by omega)];omega
 rw[d,cF,e,if_pos hg,a09 (by omega)];rfl;have d:decide (g<0)=true:=by simp only[dT];omega
 have e:A0n .u64 (wrap .u64 g) 1=((18446744073709551615-(-2*g-1).toNat:Nat):Int):=by
  show wrap .u64 (wrap .u64 g*2)=_;rw[c9R (n:=g) (by omega)];have f:∀n:Int,wrap .u64 n=n%18446744073709551616:=fun n=>by simp[wrap,IntKind.bits,IntKind.signed]
  rw[f];omega
 rw[d,cT,e,if_neg hg,c6W (by omega)];simp only[oB];congr 2;omega
theorem b7l(a:List Int)(i:Int):∀(k n:Nat)(out:List Int),n<128^(k+1)→k≤8→out.length+k<1000000→
  ∃r g,y0s a5K (a,i,(n:Int),out,())=some (a,i,((r:Nat):Int),out++g,())∧a1f n=g++[(r:Int)]∧r<128
 |k,n,out,h,hk,ho=>by
  by_cases hn:n<128
  refine⟨n,[],?_,by rw[b1H hn];rfl,hn⟩;rw[a0C (b:=(a,i,(n:Int),out,())) (by
   have d:decide ((n:Int)≥128)=false:=by simp;omega
   simp only[a5K,d,cF])]
  simp
  ·cases k with
   |zero=>omega
   |succ k=>
    have q:n / 128<128^(k+1):=by rw[a84 (by omega)];rw[a74]at h;exact h
    have f:n<18446744073709551616:=by
     have:128^(k+1+1)≤128^9:=a45 (by omega) (by omega)
     have e:(128:Nat)^9=9223372036854775808:=by decide
     omega
    obtain⟨r,g,c,m,p⟩:=b7l a i k (n / 128) (out++[((n%128+128:Nat):Int)]) q (by omega) (by simp;omega);refine⟨r,((n%128+128:Nat):Int)::g,?_,by rw[b6e hn,m];rfl,p⟩;have d:decide ((n:Int)≥128)=true:=by simp;omega
    have j:A0o .u64 (n:Int) 7=((n / 128:Nat):Int):=a3G (o:=7) (by omega);have l:wrap .u8 (bits .u64 .or (bits .u64 .and (n:Int) 127) 128)=((n%128+128:Nat):Int):=by
     have c:bits .u64 .and (n:Int) 127=((n%2^7:Nat):Int):=b2d (k:=7) f (by omega);rw[c,show((128:Int))=((1*2^7:Nat):Int)from rfl,orA (a39 _ (by omega)) (by omega),a2L];omega
    rw[a0E (s':=(a,i,((n / 128:Nat):Int),out++[((n%128+128:Nat):Int)],())) (by
     simp only[a5K,d,cT,a0N (show out.length+1<2147483648 by omega),j,l,a06])]
    rw[c]
    simp
theorem a4R{ns:List Nat}(h:∀n∈ns,n<9223372036854775808)(t:ns.length≤1000):a1w (asI ns)=some (ns.flatMap a1f):=by
 have l:(asI ns).length=ns.length:=by simp[asI]
 have:=a1d (f:=a5L) (asI ns) (fun i (a:List Int)=>(asI ns,(i:Int),a,())) (fun a x=>.inl (a++a1f x.toNat)) (fun i a=>a.length≤10*i) (fun a=>(a,()))
  (fun i hi a p=>⟨fun q g=>by
   have c:i<ns.length:=by omega
   have m:(asI ns)[i]=((ns[i]:Nat):Int):=by simp[asI]
   have hb:=h ns[i] (a05 c);have k:ns[i]<128^(8+1):=by rw[show(128:Nat)^(8+1)=9223372036854775808 from by decide];exact hb
   obtain⟨r,d,o,j,s⟩:=b7l (asI ns) (i:Int) 8 ns[i] a k (a40 _) (by omega);have hv:=b3X 8 ns[i] k;rw[j]at hv;simp only[lN,lC,a16]at hv;simp only[m,tN,j,Sum.inl.injEq]at g;subst g;have e:wrap .u8 (r:Int)=(r:Int):=by rw[a2L];omega
   refine⟨?_,by simp;omega⟩;simp only[a5L,dlt hi,cT,a0B hi,m,oB,o,a0N (show(a++d).length+1<2147483648 by simp;omega),a0A (show i<1000000 by omega),e,a06,aA],fun b hb=>by cases hb⟩)
  (fun a p=>by simp only[a5L,dge,cF]) (a:=[]) (by simp)
 unfold a1w;simp only[nZ]at this;rw[this,a8J];simp[b1i,asI,b03]
theorem c6J(q:frP f){body:Nat}(o:body≤1048576):b1y (f,(body:Int))=some (hb f body):=by
 have p:=q;obtain⟨⟨N,r2,H,I,K,L⟩,l1,l2,s1,s2,m1,m2,m3,m4⟩:=p;have k:∀s∈f.2.2.2.1,a3B f.2.2.1.2.1 s=true:=fun s z=>lA.1 m4 s z;have y:=b5H m2 f.2.2.2.1 m4;have w:=b9G q o;have c:a1w [wrap .u64 f.1,wrap .u64 f.2.1,wrap .u64 f.2.2.1.1,wrap .u64 f.2.2.1.2.1,wrap .u64 f.2.2.1.2.2.1,wrap .u64 ((f.2.2.2.1.length:Nat):Int)]=some ([f.1.toNat,f.2.1.toNat,f.2.2.1.1.toNat,f.2.2.1.2.1.toNat,f.2.2.1.2.2.1.toNat,f.2.2.2.1.length].flatMap a1f):=by
  rw[←a4R (fun n l=>by
   simp only[mC,a73,or_false]at l;omega) (by simp)]
  congr 1;rw[a0G (n:=f.1) (by omega),a0G (n:=f.2.1) (by omega),a0G (n:=f.2.2.1.1) (by omega),a0G (n:=f.2.2.1.2.1) (by omega),a0G (n:=f.2.2.1.2.2.1) (by omega),a0G (by omega)];simp only[asI,a92,List.map_nil,a09 (show 0≤f.1 by omega),a09 (show 0≤f.2.1 by omega),a09 (show 0≤f.2.2.1.1 by omega),a09 (show 0≤f.2.2.1.2.1 by omega),a09 (show 0≤f.2.2.1.2.2.1 by omega)]
 have A:([f.1.toNat,f.2.1.toNat,f.2.2.1.1.toNat,f.2.2.1.2.1.toNat,f.2.2.1.2.2.1.toNat,f.2.2.2.1.length].flatMap a1f).length≤600:=by
  have e:(hb f body).length=2+(([f.1.toNat,f.2.1.toNat,f.2.2.1.1.toNat,f.2.2.1.2.1.toNat,f.2.2.1.2.2.1.toNat,f.2.2.2.1.length].flatMap a1f).length+((f.2.2.2.1.flatMap a9y).length+(a1f body).length)):=by
   simp[hb];omega
  omega
 have h:=a1d (f:=a8v) (β:=Int×(List Int×Unit)) f.2.2.2.1 (fun i (a:List Int)=>((body:Int),(i:Int),a,f,())) (fun a x=>.inl (a++a9y x)) (fun i a=>a.length≤600+27*i) (fun a=>((body:Int),a,()))
  (fun i hi a v=>⟨fun D j=>by
   simp only[Sum.inl.injEq]at j;subst j;obtain⟨a1,E,r,F,G,t,u⟩:=a4Q.1 (k _ (a05 hi));have C:=c2q m2 (k _ (a05 hi));have M:=c7a (g:=f.2.2.2.1[i].2.2.1) (m:=1024) ⟨t,u⟩;have hp:a1w [wrap .u64 f.2.2.2.1[i].1,wrap .u64 f.2.2.2.1[i].2.1,((b3e f.2.2.2.1[i].2.2.1:Nat):Int)]=some (a9y f.2.2.2.1[i]):=by
    have e:=a4R (ns:=a2N f.2.2.2.1[i]) (fun n l=>by
     simp only[a2N,mC,a73,or_false]at l;omega) (by simp[a2N])
    rw[show a9y f.2.2.2.1[i]=(a2N f.2.2.2.1[i]).flatMap a1f from by simp[a9y,a2N],←e];congr 1;rw[a0G (n:=f.2.2.2.1[i].1) (by omega),a0G (n:=f.2.2.2.1[i].2.1) (by omega)];simp only[asI,a2N,a92,List.map_nil,a09 a1,a09 r]
   refine⟨?_,by simp;omega⟩;simp only[a8v,dlt hi,cT,a0B hi,oB,d3H (g:=f.2.2.2.1[i].2.2.1) (by omega),hp,a0N (show a.length+(a9y f.2.2.2.1[i]).length<2147483648 by omega),a0A (show i<1000000 by omega),a06],fun b hb=>by cases hb⟩)
  (fun a v=>by simp only[a8v,dge,cF]) (a:=[f.1.toNat,f.2.1.toNat,f.2.2.1.1.toNat,f.2.2.1.2.1.toNat,f.2.2.1.2.2.1.toNat,f.2.2.2.1.length].flatMap a1f) (by omega)
 rw[a8J]at h;simp only[b1i,nZ]at h;have d:a1w [wrap .u64 (body:Int)]=some (a1f body):=by
  have e:=a4R (ns:=[body]) (fun n l=>by simp at l;omega) (by simp);rw[a0G (by omega)];simpa[asI]using e
 have B:=a6s (n:=body) (by omega);unfold b1y;simp only[c,oB];rw[h];simp only[oB,d,a06];rw[a0N (by rw[lN];omega),cT,a0N (by simp only[lN];omega),cT];simp[hb]
theorem c5d{p:PZ}(hp:c8X n p)(o:L.length<50000000):a6Y ((L,()),p.1,n)=some (0,L++a9U p.1 p.2,())∧(a9U p.1 p.2).length≤700000:=by
 obtain⟨c,k,a⟩:=hp;obtain⟨j,i,g,l,f,b,m⟩:=c8O c (n:=n) (L:=L) (by omega);obtain⟨rfl,d,rfl,h⟩:=b k;have e:a2l p.1 d L=a2l p.1 p.2 L:=by
  by_cases hk:p.1.1=0∨p.1.1=1
  unfold a2l;rw[if_pos hk,if_pos hk];rw[c9S (h (not_or.1 hk)) (a (not_or.1 hk))]
 rw[e,b3d (b7f k) a]at g f;exact⟨g,by rw[lN]at f;omega⟩
theorem b3C(l:List Int)(i:Int):∀(j k:Nat)(s:Int),k+j=8→0≤s∧s<256→y0s b1h (l,s,i,(k:Int),())=some (l,rep e8 j s,i,())
 |0,k,s,h,_=>by
  obtain rfl:k=8:=by omega
  rfl
 |j+1,k,s,h,hs=>by
  have d:decide ((k:Int)<8)=true:=by grind
  have e:decide (s≥128)=(A0o .u8 s 7==(1:Int)):=by
   obtain⟨n,rfl⟩:=a01 hs.1;have e:A0o .u8 (n:Int) 7=((n / 128:Nat):Int):=by
    show Int.fdiv (n:Int) ((128:Nat):Int)=_
    grind
   grind
  rw[a0E (s':=(l,e8 s,i,((k+1:Nat):Int),())) (by
   simp only[b1h,d,cT,a0A (show k<1000000 by omega),e8,e]
   grind)]
  exact b3C l i j (k+1) (e8 s) (by omega) (d1D s)
theorem b2o(l:List Int)(i:Int):∀(j k:Nat)(s:Int),k+j=8→0≤s∧s<65536→y0s a9o (l,s,i,(k:Int),())=some (l,rep e16 j s,i,())
 |0,k,s,h,_=>by
  obtain rfl:k=8:=by omega
  rfl
 |j+1,k,s,h,hs=>by
  have d:decide ((k:Int)<8)=true:=by grind
  have e:decide (s≥32768)=(A0o .u16 s 15==(1:Int)):=by
   obtain⟨n,rfl⟩:=a01 hs.1;have e:A0o .u16 (n:Int) 15=((n / 32768:Nat):Int):=by
    show Int.fdiv (n:Int) ((32768:Nat):Int)=_
    grind
   grind
  rw[a0E (s':=(l,e16 s,i,((k+1:Nat):Int),())) (by
   simp only[a9o,d,cT,a0A (show k<1000000 by omega),e16,e]
   grind)]
  exact b2o l i j (k+1) (e16 s) (by omega) (c2p s)
theorem c6K(a b:Int):0≤bits .u8 .xor a b∧bits .u8 .xor a b<256:=by
 grind[bits,a2L]
theorem c5e(h:short l):b1z l=some (c8U l):=by
 have:=a1d (f:=a8w) (β:=Int×Unit) l (fun i (a:Int)=>(l,a,(i:Int),())) (fun a x=>.inl (g8 a x)) (fun _ _=>True) (fun a=>(a,()))
  (fun i hi a _=>⟨fun k g=>by
   simp at g;subst g
   have:=b3C l (i:Int) 8 0 (bits .u8 .xor a l[i]) rfl (c6K _ _)
   simp at this;refine⟨?_,trivial⟩;simp only[a8w,dlt hi,cT,a0B hi,oB,this,a0A (a07 hi h),g8],fun b hb=>by grind⟩)
  (fun a c=>by simp_all[a8w]) (a:=0) trivial
 unfold b1z;simp at this;rw[this,b2j];rfl
theorem c1V(h:short l):a9p l=some (b2O l):=by
 have:=a1d (f:=a6K) (β:=Int×Unit) l (fun i (a:Int)=>(l,a,(i:Int),())) (fun a x=>.inl (g16 a x)) (fun _ _=>True) (fun a=>(a,()))
  (fun i hi a _=>⟨fun k g=>by
   simp at g;subst g
   have:=b2o l (i:Int) 8 0 (bits .u16 .xor a (A0n .u16 (wrap .u16 l[i]) 8)) rfl (c5c _ _)
   simp at this;refine⟨?_,trivial⟩;simp only[a6K,dlt hi,cT,a0B hi,oB,this,a0A (a07 hi h),g16],fun b hb=>by grind⟩)
  (fun a c=>by simp_all[a6K]) (a:=0) trivial
 unfold a9p;simp at this;rw[this,b2j];rfl
theorem d1K(h:0≤v∧v<65536):a4X (v,2)=some [v / 256,v%256]:=by
 obtain⟨n,rfl⟩:=a01 h.1;have g:wrap .u8 (A0o .u64 (n:Int) 8)=(n:Int) / 256:=by
  grind[A0o,a3G,a2L]
 have f:wrap .u8 (A0o .u64 (n:Int) 0)=(n:Int)%256:=by
  simp_all[A0o,a2L]
 have k:a4W ((n:Int),(1:Int),([]:List Int),())=some (.inl ((n:Int),(0:Int),[(n:Int) / 256],())):=by
  simp only[a4W,show decide ((1:Int)≥0)=true from rfl,cT,show wrap .u64 (wrap .i64 (8*1))=8 from rfl,show decide ((8:Int)<0)=false from rfl,cF,a0N (show([]:List Int).length+1<2147483648 by simp),g];rfl
 have a:a4W ((n:Int),(0:Int),[(n:Int) / 256],())=some (.inl ((n:Int),(-1:Int),[(n:Int) / 256,(n:Int)%256],())):=by
  simp only[a4W,show decide ((0:Int)≥0)=true from rfl,cT,show wrap .u64 (wrap .i64 (8*0))=0 from rfl,show decide ((0:Int)<0)=false from rfl,cF,a0N (show([(n:Int) / 256]:List Int).length+1<2147483648 by simp),f];rfl
 unfold a4X;rw[show wrap .i64 (v0r (v0s (2:Int) 8) 0-1)=1 from rfl,a0E k,a0E a,a0C (b:=([(n:Int) / 256,(n:Int)%256],())) rfl];rfl
theorem d3I(h:a1C L)(c:L.length%8≠0):(wL (L++[0])).1=(wL L).1:=by
 obtain⟨k,b⟩:=a5P L;have f:=(d3D h).1 (L.length / 8);rw[b3v];unfold b5w;simp only[];rw[k,if_neg (by omega),show(((L.length:Nat):Int) / 8).toNat=L.length / 8 from by rfl];have a:A0n .u8 0 (7-((L.length:Nat):Int)%8)=0:=by
  unfold A0n;rw[a99];rfl
 rw[a];generalize hx:(wL L).1.getD (L.length / 8) 0=x at f⊢;have g:bits .u8 .or x 0=x:=by
  obtain⟨n,rfl⟩:=a01 f.1
  grind[or8]
 rw[g,←hx];apply List.ext_getElem?
 grind
theorem c5f:∀(k:Nat){L:List Int},a1C L→b3Y L.length=k→(wL (L++a00 k 0)).1=(wL L).1
 |0,L,_,_=>by simp
 |k+1,L,h,hk=>by
  have g:L.length%8≠0:=by intro e;unfold b3Y at hk;omega
  have hb:a1C (L++[0]):=h.app fun b hb=>.inl (by simpa using hb);have f:=c5f k (L:=L++[0]) hb (by unfold b3Y at hk⊢;rw[lN,a41];omega);rw[a93,show L++(0:Int)::a00 k 0=(L++[0])++a00 k 0 from by simp,f];exact d3I h g
theorem d1L(h:a1C L):a3C L=(wL L).1:=c5f _ h rfl
theorem b7m{f:a0S}:∀(rest done:List PZ)(L:List Int),(done++rest).map (·.1)=f.2.2.2.2.1→(∀p∈rest,c8X f.2.1 p)→L.length+700000*rest.length<40000000→(done++rest).length≤8→
  y0s a5l ((done.length:Int),(L,()),f,())=some ((L++a0W rest,()),f,())
 | [],done,L,hd,_,_,_=>by
  have e:f.2.2.2.2.1.length=done.length:=by grind
  simp_all[a0C,a5l,a0W]
 |p::rest,done,L,hd,h,hL,h8=>by
  rw[lC]at hL;simp at h8;obtain⟨a,c⟩:=c5d (h p (by simp)) (L:=L) (by omega);have g:done.length<f.2.2.2.2.1.length:=by grind
  have b:m0k f.2.2.2.2.1 (done.length:Int)=some p.1:=by grind[a0B]
  have k:=b7m rest (done++[p]) (L++a9U p.1 p.2) (by simp_all) (fun q d=>h q (by grind)) (by grind) (by simp_all);rw[a0E (s':=((((done++[p]).length:Nat):Int),(L++a9U p.1 p.2,()),f,())) (by
   simp only[a5l,dlt g,cT,b,oB,a,a0A (show done.length<1000000 by omega)]
   simp)]
  rw[k];simp[a0W]
theorem c3G(a:∀s∈f.2.2.2.2.1,SmallS s):∃p e,a2p f=some (p,e)∧a1A f=some (p,e):=by
 have l:=d0I a;have m:=b9L a;cases hb:a2m f with
 |none=>
  simp_all[a2p,a1A]
 |some b=>
  rw[hb]at l m;obtain⟨k,u,j⟩:=b2m hb;have q:f.2.2.2.2.1.length≤8:=by have:=k.1.2.2.2.1;omega
  obtain⟨g,z,w,x,A,y⟩:=b5I l k q (fun s o=>⟨a s o,j s o⟩);have v:g.length≤8:=by grind
  refine⟨_,_,y,?_⟩;have h:=b7m (f:=f) g [] [] (by simp_all) w (by grind) (by simp_all);have r:=b8b k x;have c:=d1L (d0G g);simp at h;have t:=b9G k (body:=(a3C (a0W g)).length) (by omega);have i:=b7h (a9W f (a0W g));have d:(Ab.hb f (a3C (a0W g)).length++[c8U (Ab.hb f (a3C (a0W g)).length)])++a3C (a0W g)=a9W f (a0W g):=rfl;unfold a1A;rw[m];simp only[Option.isSome_some,bT,cF,oB];rw[h];simp only[oB,c4W (show(a0W g).length<1000000000 by omega),←c,c6J k (show(a3C (a0W g)).length≤1048576 by omega),c5e (show short (Ab.hb f (a3C (a0W g)).length)by unfold short;omega),a06];rw[a0N (by omega),cT,a0N (by grind),cT,d,c1V (show short (a9W f (a0W g))by unfold short;omega)];simp only[oB,a0G (n:=b2O (a9W f (a0W g))) (by omega),d1K i];rw[a0N (by grind),cT];rfl
theorem b7n{f:a0S}(c:∀s∈f.2.2.2.2.1,s.2.2.2.2.2.2.1.length=3){m:Nat}(b:m≤5000):∀(k i:Nat),i+k=min f.2.2.2.2.1.length 10→(∀j (h:j<f.2.2.2.2.1.length),j<i→SmallS f.2.2.2.2.1[j])→
  y0s a1z ((m:Int),(i:Int),f,())=some (.inr (false,()))∨(y0s a1z ((m:Int),(i:Int),f,())=some (.inl (f,()))∧∀j (h:j<f.2.2.2.2.1.length),j<10→SmallS f.2.2.2.2.1[j])
 |0,i,hi,hs=>by
  refine .inr ⟨a0C ?_,fun j h e=>hs j h (by omega)⟩
  by_cases g:i<f.2.2.2.2.1.length
  have d:decide ((i:Int)<10)=false:=by grind
  simp only[a1z,dlt g,cT,d,cF];have d:decide ((i:Int)<((f.2.2.2.2.1.length:Nat):Int))=false:=by simp_all
  simp only[a1z,d,cF]
 |k+1,i,hi,hs=>by
  have g:i<f.2.2.2.2.1.length:=by omega
  have d:decide ((i:Int)<10)=true:=by grind
  obtain⟨t,a,l⟩:=c9a f.2.2.2.2.1[i] m b (c _ (a05 g));have w:=a0A (show i<1000000 by omega);cases t with
  |false=>simp_all[a0C,a1z,a0B]
  |true=>
   have n:=(l rfl).1;have next:=b7n c b k (i+1) (by omega) (fun j h o=>by
    grind)
   cases h0:(f.2.2.2.2.1[i].1==(0:Int))with
   |false=>
    rw[a0E (s':=((m:Int),((i+1:Nat):Int),f,())) (by simp only[a1z,dlt g,cT,d,a0B g,oB,a,bT,cF,h0,w])];omega
   |true=>
    cases h4:decide (f.2.1 > 400)with
    |false=>
     rw[a0E (s':=((m:Int),((i+1:Nat):Int),f,())) (by simp only[a1z,dlt g,cT,d,a0B g,oB,a,bT,cF,h0,h4,w])];omega
    |true=>
     cases h5:decide (f.2.1≤4096)with
     |false=>
      rw[a0E (s':=((m:Int),((i+1:Nat):Int),f,())) (by simp only[a1z,dlt g,cT,d,a0B g,oB,a,bT,cF,h0,h4,h5,w])];omega
     |true=>simp_all[a0C,a1z,a0B]
theorem d0J(a:∀s∈f.2.2.2.2.1,s.2.2.2.2.2.2.1.length=3)(k:m≤5000):∃t,b0J (f,(m:Int))=some t∧(t=true→(∀s∈f.2.2.2.2.1,SmallS s)∧f.2.2.2.2.1.length≤10∧f.2.2.2.1.length≤20):=by
 unfold b0J;have h:=b7n a k (min f.2.2.2.2.1.length 10) 0 (by omega) (fun j _ h=>by omega);simp at h;rcases h with h|⟨h,c⟩;simp_all;rw[h];simp only[oB]
 by_cases h10:((f.2.2.2.2.1.length:Nat):Int)≤10
 rw[decide_eq_true h10];simp only[cT];refine⟨_,rfl,fun h=>⟨fun s g=>?_,by omega,?_⟩⟩;obtain⟨j,b,rfl⟩:=a61.1 g
 grind
 grind
 rw[decide_eq_false h10];simp
theorem d0K(l:List Int):b2B (l,l)=some true:=by
 simp_all[b2B]
theorem d3J(y:Int):bits .i64 .and y 255=y%256:=by
 have h:((a03 64 y) &&& (a03 64 255)).toNat=(y%18446744073709551616).toNat%256:=by
  rw[a59,a67];have e:(a03 64 255).toNat=2^8-1:=by decide
  rw[e,a35];rfl
 show wrap .i64 ((((a03 64 y) &&& (a03 64 255)).toNat:Nat):Int)=_;rw[h,a0J (by omega)];omega
theorem e1Y(x:Int){j:Nat}(g:j<8):A0o .i64 x ((8*j:Nat):Int)=x.fdiv (256^j):=by
 have h:min (a18 ((8*j:Nat):Int)) (IntKind.bits .i64)=8*j:=by
  simp only[tN,IntKind.bits];omega
 unfold A0o;rw[h,show(256:Int)=2^8 from rfl,←Int.pow_mul]
def smB(k:Nat)(x:Int):List Int:=leB k (x%18446744073709551616).toNat
theorem d3j(x:Int):wrap .u64 x=((x%18446744073709551616).toNat:Int):=by
 simp only[wrap,IntKind.bits,IntKind.signed]
 simp
 omega
theorem d3K(x:Int)(j:Nat)(g:j<8):((((x%18446744073709551616).toNat) / 256^j%256:Nat):Int)=x.fdiv (256^j)%256:=by
 have h:j=0∨j=1∨j=2∨j=3∨j=4∨j=5∨j=6∨j=7:=by omega
 rcases h with rfl|rfl|rfl|rfl|rfl|rfl|rfl|rfl<;>rw[a49 _ (by decide)]<;>simp only[Nat.reducePow,Int.reducePow]<;>omega
theorem a9z(k:Nat)(x:Int):(smB k x).length=k:=a7G _ _
theorem d1M(k:Nat)(h:k<8)(x:Int):smB (k+1) x=smB k x++[x.fdiv (256^k)%256]:=by
 unfold smB;rw[b1R,d3K x k h]
theorem b5M:∀(k n:Nat),∀b∈leB k n,0≤b∧b<256
 |0,_=>by simp[leB]
 |k+1,n=>fun b hb=>by
  rcases mC.1 hb with rfl|hb;omega;exact b5M k _ b hb
def a1r(w:Int)(l:List Int):List Int:=l.flatMap (smB ((w+7) / 8).toNat)
theorem c5g{k:Nat}{g:Int→List Int}(h:∀x,(g x).length=k):∀(l:List Int),(l.flatMap g).length=l.length*k
 | []=>by simp
 |x::l=>by
  rw[a42,lN,h,c5g h l,lC,Nat.add_mul];omega
theorem b9M(hw:4≤w∧w≤24)(l:List Int):(a1r w l).length≤3*l.length:=by
 unfold a1r;rw[c5g (a9z _)]
 have:((w+7) / 8).toNat≤3:=by omega
 calc l.length*((w+7) / 8).toNat≤l.length*3:=Nat.mul_le_mul_left _ this
  _=3*l.length:=a43 ..
theorem c9b(w:Int)(a b:List Int):a1r w (a++b)=a1r w a++a1r w b:=a91
theorem b5N(w:Int)(l:List Int):∀b∈a1r w l,0≤b∧b<256:=fun b hb=>by
 obtain⟨x,-,h⟩:=a72.1 hb;exact b5M _ _ b h
theorem d3L(b x n:Int)(i:Int)(l:List Int)(e:k≤8)(out:List Int)(m:out.length<100000000):
  y0s a3U (b,(k:Int),x,l,n,i,(k:Int),(0:Int),out,())=some (b,(k:Int),l,n,i,out++smB k x,()):=by
 have h:=a1t (f:=a3U) (fun j=>(b,(k:Int),x,l,n,i,(k:Int),(j:Int),out++smB j x,()))
  k (b:=(b,(k:Int),l,n,i,out++smB k x,())) (fun j d=>by
   have c:wrap .i64 ((8:Int)*(j:Int))=((8*j:Nat):Int):=by rw[a0J (by omega)];omega
   have g:decide (((8*j:Nat):Int)<0)=false:=by simp;omega
   simp only[a3U];rw[dlt d,a0N (show(out++smB j x).length+1<2147483648 by rw[lN,a9z];omega),c,g,a0A (show j<1000000 by omega),d3J,e1Y x (by omega),a2L,a89 _ (by decide),d1M j (by omega),←aA];rfl) (by simp only[a3U,dge,cF])
 have a:out++smB 0 x=out:=by simp[smB,leB]
 simp only[a]at h;exact h
theorem d0L(h:4≤w∧w≤24):wrap .i64 (a52 (wrap .i64 (w+(7:Int))) (8:Int))=((((w+7) / 8).toNat:Nat):Int):=by
 rw[a0J (n:=w+7) (by omega),a27 (by omega),a0J (by omega)];omega
theorem c2w{w:Int}(g:4≤w∧w≤24)(l:List Int)(c:l.length≤1000000){k:Nat}(a:k≤3):∀(rest done out:List Int),done++rest=l→rest.all (fun x=>a1E x w)=true→out.length+3*rest.length<100000000→
  y0s a5H (w,(k:Int),l,(l.length:Int),(done.length:Int),out,())=some (.inl (out++rest.flatMap (smB k),()))
 | [],done,out,hd,_,_=>by
  obtain rfl:done=l:=by simpa using hd
  rw[a0C (b:=Sum.inl (out,())) (by simp only[a5H,dge,cF])]
  simp
 |x::rest,done,out,hd,hf,ho=>by
  have h:done.length<l.length:=by rw[←hd];simp
  have f:m0k l (done.length:Int)=some x:=by rw[a0B h];subst hd;simp
  simp only[a20,bA]at hf;simp only[lC]at ho;rw[a0E (s':=(w,(k:Int),l,(l.length:Int),(((done++[x]).length:Nat):Int),out++smB k x,())) (by
   simp only[a5H,dlt h,cT,f,oB,b8c g,hf.1,bT,cF,d3L w x _ _ l (show k≤8 by omega) out (by omega),a0A (show done.length<1000000 by omega)]
   simp)]
  rw[c2w g l c a rest (done++[x]) (out++smB k x) (by simpa using hd) hf.2 (by rw[lN,a9z];omega)]
  simp
theorem c1W(g:4≤w∧w≤24)(c:l.length≤1000000)(b:l.all (fun x=>a1E x w)=true):a8p (l,w)=some (a1r w l,0):=by
 have f:decide (w<(4:Int))=false:=by simp;omega
 have a:decide (w > (24:Int))=false:=by simp;omega
 have h:=c2w g l c (k:=((w+7) / 8).toNat) (by omega) l [] [] rfl b (by simp;omega);rw[a16]at h;simp only[a8p,f,cF,oB,a,d0L g]
 erw[h]
 rfl
theorem c5h{n:Nat}(l:k≤8):a9q ((n:Int),(k:Int))=some (leB k n):=by
 simp only[a9q];have h:=a1t (f:=a8x) (fun i=>((n:Int),(k:Int),(i:Int),leB i n,())) k (b:=(leB k n,())) (fun i hi=>by
   have g:decide ((i:Int)<(8:Int))=true:=by simp;omega
   have c:wrap .u64 (wrap .i64 ((8:Int)*(i:Int)))=((8*i:Nat):Int):=by
    rw[a0J (by omega),a0G (by omega)];omega
   have a:decide (((8*i:Nat):Int)<0)=false:=by simp;omega
   have d:wrap .u8 (A0o .u64 (n:Int) ((8*i:Nat):Int))=((n / 256^i%256:Nat):Int):=by
    have e:A0o .u64 (n:Int) ((8*i:Nat):Int)=((n / 256^i:Nat):Int):=by
     have j:min (a18 ((8*i:Nat):Int)) (IntKind.bits .u64)=8*i:=by
      simp only[tN,IntKind.bits];omega
     unfold A0o;rw[j,show(256:Nat)=2^8 from rfl,←Nat.pow_mul];rw[a49 _ (by exact_mod_cast Nat.zero_le _)]
     norm_cast
    rw[e,a2L];omega
   simp only[a8x];rw[dlt hi,g,a0N (show(leB i n).length+1<2147483648 by rw[a7G];omega),c,a,a0A (show i<1000000 by omega),d,b1R];rfl) (by simp only[a8x,dge,cF])
 simp only[leB]at h;rw[show((0:Nat):Int)=0 from rfl]at h;rw[h];rfl
theorem b4r{w:Int}(g:4≤w∧w≤24)(l:List Int)(k:l.length≤1000000):∀(rest done out:List Int),done++rest=l→rest.all (fun x=>a1E x w)=true→out.length+3*rest.length<100000000→
  y0s a9r (l,w,(done.length:Int),out,())=some (.inl (out++a1r w rest,()))
 | [],done,out,hd,_,_=>by
  obtain rfl:done=l:=by simpa using hd
  rw[a0C (b:=Sum.inl (out,())) (by simp only[a9r,dge,cF])];simp[a1r]
 |x::rest,done,out,hd,hf,ho=>by
  have h:done.length<l.length:=by rw[←hd];simp
  have f:m0k l (done.length:Int)=some x:=by rw[a0B h];subst hd;simp
  simp only[a20,bA]at hf;simp only[lC]at ho;have a:a9q (wrap .u64 x,((((w+7) / 8).toNat:Nat):Int))=some (smB ((w+7) / 8).toNat x):=by rw[d3j];exact c5h (by omega)
  rw[a0E (s':=(l,w,(((done++[x]).length:Nat):Int),out++smB ((w+7) / 8).toNat x,())) (by
   simp only[a9r,dlt h,cT,f,oB,b2n g,hf.1,bT,cF,d0L g,a,a0N (show out.length+(smB ((w+7) / 8).toNat x).length<2147483648 by rw[a9z];omega),a0A (show done.length<1000000 by omega)]
   simp)]
  rw[b4r g l k rest (done++[x]) (out++smB ((w+7) / 8).toNat x) (by simpa using hd) hf.2 (by rw[lN,a9z];omega)];simp[a1r]
theorem c6L(c:4≤w∧w≤24)(b:l.length≤1000000)(a:l.all (fun x=>a1E x w)=true):b2z (l,w)=some (a1r w l,0):=by
 have g:b1A w=some true:=by
  simp only[b1A];have f:decide (w≥4)=true:=by simp;omega
  have k:decide (w≤24)=true:=by simp;omega
  rw[f,k];rfl
 have h:=b4r c l b l [] [] rfl a (by simp;omega);rw[a16]at h;simp only[b2z,g,oB,bT,cF]
 erw[h]
 rfl
def wv(n:Nat)(rows:List (List Int)):List Int:=(a65 n).flatMap fun i=>rows.map fun r=>r.getD i 0
def prm:Nat:=2305843009213693951
def prs(h:Nat)(l:List Nat):Nat:=l.foldl (fun h c=>(h*1000003+(c+1))%prm) h
theorem d3M(h:Nat):prs h []=h:=rfl
theorem c5i(h c:Nat)(l:List Nat):prs h (c::l)=prs ((h*1000003+(c+1))%prm) l:=rfl
theorem c9c(h:Nat)(a b:List Nat):prs h (a++b)=prs (prs h a) b:=a54 ..
theorem c5j{h:Nat}(g:h<prm)(l:List Nat):prs h l<prm:=by
 induction l generalizing h with
 |nil=>exact g
 |cons c l ih=>exact ih (a39 _ (by decide))
theorem b4c(a b c:Nat):(a%prm*b+c)%prm=(a*b+c)%prm:=by
 simp_all[Nat.add_mod]
theorem b2p(a b:Nat):(a+b%prm)%prm=(a+b)%prm:=by
 simp
theorem d1N(l:List Nat)(h:Nat):prs h l%prm=(h*1000003^l.length+prs 0 l)%prm:=by
 induction l generalizing h with
 |nil=>simp[d3M]
 |cons c l ih=>
  rw[c5i,c5i,ih,b4c,←b2p (h*_),ih ((0*1000003+(c+1))%prm),b4c,b2p,lC,a74]
  grind
theorem d1O(a b:List Nat):prs 0 (a++b)=(prs 0 a*(1000003^b.length%prm)+prs 0 b)%prm:=by
 rw[c9c,←a25 (c5j (c5j (by decide) a) b),d1N,a43 (prs 0 a) (_%prm),b4c,a43 (prs 0 a)]
def pwr:Nat→Nat→Nat→Nat→Nat
 |0,_,p,_=>p
 |k+1,n,p,s=>if n=0 then p else pwr k (n / 2) (if n%2=1 then p*s%prm else p) (s*s%prm)
theorem d1P(a b:Nat):a%prm*b%prm=a*b%prm:=b4c a b 0
theorem c5k(a n:Nat):(a%prm)^n%prm=a^n%prm:=by rw[←Nat.pow_mod]
theorem d4K(k n p s:Nat)(h:n<2^k)(hp:p<prm):pwr k n p s=p*s^n%prm:=by
 induction k generalizing n p s with
 |zero=>simp_all[pwr,a25]
 |succ k ih=>
  rw[pwr]
  by_cases h0:n=0
  simp_all[a25];rw[if_neg h0];have g:n / 2<2^k:=by omega
  have f:(s*s)^(n / 2)=s^(2*(n / 2)):=by grind[Nat.pow_mul]
  by_cases h1:n%2=1
  rw[if_pos h1,ih _ _ _ g (a39 _ (by decide)),a69,c5k,f,←a69,d1P,Nat.mul_assoc,←Nat.pow_succ']
  grind
  rw[if_neg h1,ih _ _ _ g hp,a69,c5k,f,←a69]
  grind
theorem d0M{y1 y0:Nat}(g:u=q*y1+r)(h:q*y0≤4294967296*r+d):q*(y1*4294967296+y0)≤u*4294967296+d:=by
 grind
theorem d3N(u d e y:Nat):((u*4294967296+d)%y*4294967296+e)%y=((u*4294967296+d)*4294967296+e)%y:=by
 simp_all[Nat.add_mod,a69]
theorem d0N(n k y:Nat)(h:0<k):n*k%(y*k) / k=n%y:=by
 simp_all[Nat.mul_mod_mul_right]
@[reducible] def Pc:Type:=a0S×(a1e×List Int)
def a2n:Nat→Nat→List Pc→List (Int×Int×Unit)
 |_,_,[]=>[]
 |st,off,x::xs=>((st:Int),(off:Int),())::a2n (st+a0T x.2.1) (off+x.2.2.length) xs
def a1S(xs:List Pc):Nat:=(xs.map fun x=>a0T x.2.1).sum
def a1T(xs:List Pc):List Int:=xs.flatMap fun x=>x.2.2
def wvB(b:a1e):List Int:=wv (a0T b) b.2.1
def a1y(xs:List Pc):List Int:=xs.flatMap fun x=>wvB x.2.1
def prI(l:List Int):Nat:=prs 0 (l.map a18)
def a2z(fm:a0M)(xs:List Pc):Nat:=prI (a1r fm.2.2.1 (a1y xs))
theorem c5l(l:List Int):prI l<prm:=c5j (by decide) _
theorem d3O(a b:List Int):prI (a++b)=(prI a*(1000003^b.length%prm)+prI b)%prm:=by
 simp_all[prI,d1O]
theorem b0Z(h:List Pc)(x:Pc):a1S (h++[x])=a1S h+a0T x.2.1:=by simp[a1S]
theorem b7o(h:List Pc)(x:Pc):a1T (h++[x])=a1T h++x.2.2:=by simp[a1T]
theorem c9d(h:List Pc)(x:Pc):a1y (h++[x])=a1y h++wvB x.2.1:=by simp[a1y]
theorem c5m{rows:List (List Int)}:∀n,(wv n rows).length=n*rows.length:=fun n=>by
 simp_all[wv,List.map_const']
theorem b1G:∀(xs:List Pc)(st off:Nat),(a2n st off xs).length=xs.length
 | [],_,_=>rfl
 |_::xs,_,_=>congrArg (·+1) (b1G xs _ _)
def a7h(k n:Nat):List Int:=(leB k n).reverse
theorem b2q(k n:Nat):(a7h k n).length=k:=by simp[a7h,a7G]
theorem c9e(k n:Nat):∀b∈a7h k n,0≤b∧b<256:=fun b hb=>b5M k n b (List.mem_reverse.1 hb)
theorem c1X{n:Nat}(j:n<18446744073709551616)(d:k≤8):a4s ((n:Int),(k:Int))=some (leB k n):=by
 have c:a4r (k:Int)=some (k:Int):=by
  grind[a4r,c1A,c1B]
 simp[a4s,c];have h:=a1t (f:=a1F) (fun i=>(((n / 256^i:Nat):Int),(k:Int),(i:Int),leB i n,())) k (b:=(leB k n,())) (fun i hi=>by
   have g:wrap .u64 (a52 ((n / 256^i:Nat):Int) 256)=((n / 256^(i+1):Nat):Int):=by
    have e:a52 ((n / 256^i:Nat):Int) 256=((n / 256^i / 256:Nat):Int):=rfl;rw[e,a76,←a74]
    have:=a28 n (256^(i+1))
    grind[a0G]
   have a:wrap .u8 (a51 ((n / 256^i:Nat):Int) 256)=((n / 256^i%256:Nat):Int):=by
    have e:a51 ((n / 256^i:Nat):Int) 256=((n / 256^i%256:Nat):Int):=rfl;rw[e,a2L];omega
   simp only[a1F];rw[dlt hi,a0N (show(leB i n).length+1<2147483648 by rw[a7G];omega),g,a0A (show i<1000000 by omega),a,b1R];rfl) (by simp_all[a1F])
 simp only[Nat.pow_zero,Nat.div_one,leB]at h;simp_all
theorem b5O{n:Nat}(g:n<18446744073709551616)(h:k≤8):a3D ((n:Int),(k:Int))=some (a7h k n):=by
 unfold a3D a1D;simp only[c1X g h,oB];rw[decide_eq_true (by rw[a7G];omega)];rfl
def c32(s:BitVec 32):BitVec 32:=bif s.getLsbD 0 then(s >>> 1) ^^^ 0xedb88320#32 else s >>> 1
def d1Q:Nat→BitVec 32→BitVec 32
 |0,s=>s
 |k+1,s=>d1Q k (c32 s)
def c5n(s x:BitVec 32):BitVec 32:=d1Q 8 (s ^^^ x)
def d1R(s:BitVec 32)(l:List (BitVec 32)):BitVec 32:=l.foldl c5n s
theorem d1S(s:BitVec 32):a03 32 ((s.toNat:Nat):Int)=s:=by
 simp
theorem d4L(s:BitVec 32):wrap .u32 ((s.toNat:Nat):Int)=((s.toNat:Nat):Int):=by
 have:=s.isLt
 grind[wrap,IntKind.bits,IntKind.signed]
theorem b9N(s t:BitVec 32):bits .u32 .xor ((s.toNat:Nat):Int) ((t.toNat:Nat):Int)=(((s ^^^ t).toNat:Nat):Int):=by
 show wrap .u32 (((a03 32 _ ^^^ a03 32 _).toNat:Nat):Int)=_;rw[d1S,d1S,d4L]
theorem d7r(s:BitVec 32):(bits .u32 .and ((s.toNat:Nat):Int) 1==(1:Int))=s.getLsbD 0:=by
 have h:bits .u32 .and ((s.toNat:Nat):Int) 1=(((s &&& 1#32).toNat:Nat):Int):=by
  show wrap .u32 (((a03 32 _ &&& a03 32 1).toNat:Nat):Int)=_;rw[d1S,show a03 32 1=1#32 from rfl,d4L]
 rw[h,a59,show(1#32).toNat=1 from rfl,Nat.and_one_is_mod,a86,Nat.testBit_zero]
 grind
theorem d7s(s:BitVec 32):A0o .u32 ((s.toNat:Nat):Int) 1=(((s >>> 1).toNat:Nat):Int):=by
 unfold A0o;rw[show min (a18 1) (IntKind.bits .u32)=1 from rfl,a49 _ (by simp),BitVec.toNat_ushiftRight,Nat.shiftRight_eq_div_pow];rfl
def e32(s:Int):Int:=bif (bits .u32 .and s 1)==(1:Int)then bits .u32 .xor (A0o .u32 s 1) 3988292384 else A0o .u32 s 1
theorem d4M(s:BitVec 32):e32 ((s.toNat:Nat):Int)=(((c32 s).toNat:Nat):Int):=by
 unfold e32 c32;rw[d7r,d7s,show(3988292384:Int)=(((0xedb88320#32).toNat:Nat):Int)from rfl,b9N]
 grind
theorem b8h:∀(k:Nat)(s:BitVec 32),rep e32 k ((s.toNat:Nat):Int)=(((d1Q k s).toNat:Nat):Int)
 |0,_=>rfl
 |k+1,s=>by
  rw[show rep e32 (k+1) ((s.toNat:Nat):Int)=rep e32 k (e32 ((s.toNat:Nat):Int))from rfl,d4M,b8h k];rfl
def d1T(l:List Int):BitVec 32:=d1R 0xffffffff#32 (l.map (a03 32))
def a7M(l:List Int):Nat:=(~~~ d1T l).toNat
theorem b8i(l:List Int):a7M l<4294967296:=(~~~ d1T l).isLt
@[reducible] def a4Z:Type:=a0M×(Int×(Int×(List (Int×(Int×Unit))×(List a0S×Unit))))
def mkT(fm:a0M)(xs:List Pc):a4Z:=(fm,((a1S xs:Nat):Int),((a2z fm xs:Nat):Int),a2n 0 0 xs,xs.map (·.1),())
def nsP(xs:List Pc):List Nat:=xs.flatMap fun x=>[x.2.2.length,a0T x.2.1]
def a5T(fm:a0M)(xs:List Pc):List Nat:=[fm.1.toNat,fm.2.1.toNat,fm.2.2.1.toNat,xs.length]++nsP xs
def c1Y:List Int:=[75,78,83,68]
def a2o(fm:a0M)(xs:List Pc):List Int:=c1Y++((a5T fm xs).flatMap a1f++a7h 8 (a2z fm xs))
def b5P(fm:a0M)(xs:List Pc):List Int:=a2o fm xs++(a7h 4 (a7M (a2o fm xs))++a1T xs)
theorem b3D(h:List Pc):(nsP h).length=2*h.length:=by
 induction h with
 |nil=>rfl
 |cons x h ih=>grind[nsP]
theorem d1U(h:List Pc)(x:Pc):nsP (h++[x])=nsP h++[x.2.2.length,a0T x.2.1]:=by simp[nsP]
theorem a8R:∀(l:List Nat),(∀n∈l,n<9223372036854775808)→(l.flatMap a1f).length≤9*l.length
 | [],_=>by simp
 |n::l,h=>by
  have:=(a6s (h n (by simp))).2
  have:=a8R l fun m g=>h m (by simp[g])
  simp only[a42,lN,lC];omega
def a8K(y0 d q r:Nat):Prop:=4294967296≤q∨4294967296*r+d<q*y0
instance (y0 d q r:Nat):Decidable (a8K y0 d q r):=inferInstanceAs (Decidable (_∨_))
def b5Q(u d y1 y0:Nat):Nat:=
 if a8K y0 d (u / y1) (u%y1)then
  if 4294967296≤u%y1+y1 then u / y1-1
  else if a8K y0 d (u / y1-1) (u%y1+y1)then u / y1-2 else u / y1-1
 else u / y1
theorem d3P{u d y1 y0:Nat}(t:2147483648≤y1)(p:y0<4294967296)(w:u<y1*4294967296+y0)(v:d<4294967296):
  b5Q u d y1 y0=(u*4294967296+d) / (y1*4294967296+y0):=by
 have hp:0<y1:=by omega
 have e:u=u / y1*y1+u%y1:=(Nat.div_add_mod' u y1).symm;have s:=a39 u hp;have j:u / y1≤4294967297:=by
  have:u / y1<4294967298:=(a84 hp).2 (by omega)
  omega
 have y:u*4294967296+d<(u / y1+1)*(y1*4294967296+y0):=by
  grind
 have over:∀{q r:Nat},u=q*y1+r→a8K y0 d q r→u*4294967296+d<q*(y1*4294967296+y0):=by
  intro q r g f;rcases f with f|f
  have:=a62 (y1*4294967296+y0) f
  omega
  grind
 have fits:∀{q r:Nat},u=q*y1+r→¬ a8K y0 d q r→q*(y1*4294967296+y0)≤u*4294967296+d:=
  fun g f=>d0M g (Nat.le_of_not_lt fun h=>f (.inr h))
 have i:∀{q r:Nat},u=q*y1+r→q≤4294967296→4294967296≤r→q*(y1*4294967296+y0)≤u*4294967296+d:=by
  intro q r g j s;refine d0M g ?_
  have a:=a26 j (a44 p);omega
 unfold b5Q;generalize u / y1=q at *;generalize u%y1=r at *;have done:∀{m:Nat},m*(y1*4294967296+y0)≤u*4294967296+d→u*4294967296+d<(m+1)*(y1*4294967296+y0)→m=(u*4294967296+d) / (y1*4294967296+y0):=
  fun a b=>(Nat.div_eq_of_lt_le a b).symm
 by_cases c:a8K y0 d q r
 rw[if_pos c];have o:=over e c;have q1:1≤q:=a97 fun z=>by grind
 obtain⟨q,rfl⟩:∃k,q=k+1:=⟨q-1,by omega⟩;rw[Nat.add_sub_cancel];have l:u=q*y1+(r+y1):=by grind
 by_cases c1:4294967296≤r+y1
 grind
 rw[if_neg c1]
 by_cases c2:a8K y0 d q (r+y1)
 rw[if_pos c2];have o1:=over l c2;have x:1≤q:=a97 fun z=>by grind
 obtain⟨q,rfl⟩:∃k,q=k+1:=⟨q-1,by omega⟩;have n:u=q*y1+(r+y1+y1):=by grind
 exact done (m:=q) (i n (by omega) (by omega)) o1
 grind
 grind
theorem d4N(hi lo:Nat):
  (((hi*8+lo / 2305843009213693952)*4294967296+lo*8%18446744073709551616 / 4294967296)%18446744073709551608*4294967296+lo*8%18446744073709551616%4294967296)%18446744073709551608 / 8
   = (hi*18446744073709551616+lo)%prm:=by
 have e:((hi*8+lo / 2305843009213693952)*4294967296+lo*8%18446744073709551616 / 4294967296)*4294967296+lo*8%18446744073709551616%4294967296=(hi*18446744073709551616+lo)*8:=by omega
 rw[d3N,e];exact d0N _ 8 prm (by simp)
theorem d1V{hi lo:Nat}(h:hi<prm)(g:lo<18446744073709551616):hi*8+lo / 2305843009213693952<4294967295*4294967296+4294967288:=by
 unfold prm at h;omega
theorem d0O{c:Nat}(h:a<prm)(hb:b<prm)(g:c≤prm):(a*b+c) / 18446744073709551616<prm:=by
 have:=a26 (a90 h) (a90 hb)
 unfold prm at *;omega
theorem d4O{x0 x1 y0 y1 t:Nat}(k:x0=a%4294967296)(c:x1=a / 4294967296)(d:y0=b%4294967296)(i:y1=b / 4294967296)(r:t=x1*y0+x0*y0 / 4294967296)(n:a<18446744073709551616)(hb:b<18446744073709551616):
  x1*y1+t / 4294967296+(t%4294967296+x0*y1) / 4294967296=a*b / 18446744073709551616∧x0*y0<18446744073709551616∧t<18446744073709551616∧t%4294967296+x0*y1<18446744073709551616:=by
 have j:a=x1*4294967296+x0:=by omega
 have l:b=y1*4294967296+y0:=by omega
 have e:a*b=x1*y1*18446744073709551616+(x1*y0+x0*y1)*4294967296+x0*y0:=by
  grind
 have m:∀{p q:Nat},p<4294967296→q<4294967296→p*q≤4294967295*4294967295:=fun hp o=>a26 (by omega) (by omega);have h:=m (show x0<4294967296 by omega) (show y0<4294967296 by omega);have f:=m (show x1<4294967296 by omega) (show y0<4294967296 by omega);have g:=m (show x0<4294967296 by omega) (show y1<4294967296 by omega);omega
theorem c9f(n:Nat):wrap .u64 (n:Int)=((n%18446744073709551616:Nat):Int):=by
 rfl
theorem c5o{n:Nat}(h:k≤64):A0o .u64 (n:Int) (k:Int)=((n / 2^k:Nat):Int):=by
 have g:min (a18 (k:Int)) (IntKind.bits .u64)=k:=by simp_all[IntKind.bits]
 unfold A0o
 grind
theorem d0P(n:Nat):A0o .u64 (n:Int) 32=((n / 4294967296:Nat):Int):=c5o (k:=32) (by omega)
theorem d3k(n:Nat):bits .u64 .and (n:Int) 4294967295=((n%4294967296:Nat):Int):=by
 show wrap .u64 (((a03 64 (n:Int) &&& a03 64 4294967295).toNat:Nat):Int)=_;have g:(a03 64 4294967295).toNat=4294967295:=rfl;have h:(a03 64 (n:Int)).toNat=n%18446744073709551616:=by rfl
 rw[a59,h,g,show 4294967295=2^32-1 from rfl,a35,c9f];omega
theorem e1Z(f:a<2305843009213693952)(hb:b<8):bits .u64 .or ((a*8:Nat):Int) (b:Int)=((a*8+b:Nat):Int):=by
 show wrap .u64 (((a03 64 ((a*8:Nat):Int) ||| a03 64 (b:Int)).toNat:Nat):Int)=_;have h:(a03 64 ((a*8:Nat):Int)).toNat=2^3*a:=by grind[a67]
 have g:(a03 64 (b:Int)).toNat=b:=by grind
 rw[b07,h,g,←a66 (i:=3) hb a,c9f];omega
theorem d1W(f:a<18446744073709551616)(hb:b<18446744073709551616):a5d ((a:Int),(b:Int))=some (((a*b / 18446744073709551616:Nat):Int),((a*b%18446744073709551616:Nat):Int)):=by
 obtain⟨k,c,d,e⟩:=d4O (a:=a) (b:=b) rfl rfl rfl rfl rfl f hb;unfold a5d;simp only[d0P,d3k,←Int.natCast_mul,←Int.natCast_add,c9f,sj,pJ,Int.natCast_inj];refine⟨?_,trivial⟩
 revert k c d e
 generalize a%4294967296*(b%4294967296)=p00;generalize a / 4294967296*(b%4294967296)=p10;generalize a%4294967296*(b / 4294967296)=p01;have i:a*b / 18446744073709551616<18446744073709551616:=Nat.div_lt_of_lt_mul (a37 (a26 (a44 f) (a44 hb)) (by omega:18446744073709551616*18446744073709551616<18446744073709551616*18446744073709551616+1) |> fun h=>by
  rcases Nat.lt_or_ge (a*b) (18446744073709551616*18446744073709551616)with g|g;omega
  have:=Nat.mul_lt_mul_of_lt_of_le f (a44 hb) (by omega);omega)
 omega
theorem b7p(p:Prop)[Decidable p](a b:α):(bif decide p then a else b)=if p then a else b:=by
 simp
theorem d4P:a3s 2305843009213693951=some 3:=by rfl
theorem c9g(h:q=b5Q u d 4294967295 4294967288)(f:u<4294967295*4294967296+4294967288)(g:d<4294967296):q*18446744073709551608≤u*4294967296+d∧u*4294967296+d<q*18446744073709551608+18446744073709551608∧q<4294967296:=by
 grind[d3P]
theorem b7q{u0:Nat}{s:Int}(i:d<4294967296)(j:q≤4294967297)(l:r<4294967296):a1O ((18446744073709551608:Int),s,(4294967295:Int),(4294967288:Int),(u:Int),(d:Int),(u0:Int),(q:Int),(r:Int),()) =
  if a8K 4294967288 d q r then(if 4294967296≤r+4294967295 then some (.inr ((18446744073709551608:Int),s,(4294967295:Int),(4294967288:Int),(u:Int),(d:Int),(u0:Int),((q-1:Nat):Int),()))else some (.inl ((18446744073709551608:Int),s,(4294967295:Int),(4294967288:Int),(u:Int),(d:Int),(u0:Int),((q-1:Nat):Int),((r+4294967295:Nat):Int),())))else some (.inr ((18446744073709551608:Int),s,(4294967295:Int),(4294967288:Int),(u:Int),(d:Int),(u0:Int),(q:Int),())):=by
 have c:wrap .u64 ((q:Int)-1)=(((q-1:Nat)):Int)∨q=0:=by
  rcases Nat.eq_zero_or_pos q with h|h;exact .inr h;left;rw[a0G (by omega)];omega
 have a:wrap .u64 ((r:Int)+4294967295)=((r+4294967295:Nat):Int):=by rw[a0G (by omega)];omega
 have b:decide (wrap .u64 ((r:Int)+4294967295)≥(4294967296:Int))=decide (4294967296≤r+4294967295):=by
  rw[a];exact decide_eq_decide.2 (by omega)
 have g:q≠0→(bif decide (wrap .u64 ((r:Int)+4294967295)≥(4294967296:Int))then(some (.inr ((18446744073709551608:Int),s,(4294967295:Int),(4294967288:Int),(u:Int),(d:Int),(u0:Int),(wrap .u64 ((q:Int)-1)),())):Option (_ ⊕ (Int×Int×Int×Int×Int×Int×Int×Int×Unit)))else some (.inl ((18446744073709551608:Int),s,(4294967295:Int),(4294967288:Int),(u:Int),(d:Int),(u0:Int),(wrap .u64 ((q:Int)-1)),(wrap .u64 ((r:Int)+4294967295)),()))) =
   (if 4294967296≤r+4294967295 then some (.inr ((18446744073709551608:Int),s,(4294967295:Int),(4294967288:Int),(u:Int),(d:Int),(u0:Int),((q-1:Nat):Int),()))else some (.inl ((18446744073709551608:Int),s,(4294967295:Int),(4294967288:Int),(u:Int),(d:Int),(u0:Int),((q-1:Nat):Int),((r+4294967295:Nat):Int),()))):=fun e=>by
  rw[b,c.resolve_right e,a];exact b7p ..
 by_cases h1:4294967296≤q
 have f:decide ((q:Int)≥(4294967296:Int))=true:=decide_eq_true (by omega);rw[if_pos (.inl h1),←g (by omega)];unfold a1O;dsimp only;rw[f,cT,oB];have f:decide ((q:Int)≥(4294967296:Int))=false:=decide_eq_false (by omega);have m:wrap .u64 ((q:Int)*4294967288)=((q*4294967288:Nat):Int):=by rw[a0G (by omega)];omega
 have o:wrap .u64 (wrap .u64 ((4294967296:Int)*(r:Int))+(d:Int))=((4294967296*r+d:Nat):Int):=by rw[a0G (n:=4294967296*(r:Int)) (by omega),a0G (by omega)];omega
 by_cases h2:4294967296*r+d<q*4294967288
 have k:decide (wrap .u64 ((q:Int)*4294967288) > wrap .u64 (wrap .u64 ((4294967296:Int)*(r:Int))+(d:Int)))=true:=decide_eq_true (by omega);rw[if_pos (.inr h2),←g (by omega)];unfold a1O;dsimp only;rw[f,cF,k,cT,oB];have k:decide (wrap .u64 ((q:Int)*4294967288) > wrap .u64 (wrap .u64 ((4294967296:Int)*(r:Int))+(d:Int)))=false:=decide_eq_false (by omega);rw[if_neg (by unfold a8K;omega)];unfold a1O;dsimp only;rw[f,cF,k,cF,oB]
theorem d4Q{u0:Nat}{s:Int}(a:u<4294967295*4294967296+4294967288)(k:d<4294967296):
  y0s a1O ((18446744073709551608:Int),s,(4294967295:Int),(4294967288:Int),(u:Int),(d:Int),(u0:Int),((u / 4294967295:Nat):Int),((u%4294967295:Nat):Int),())=some ((18446744073709551608:Int),s,(4294967295:Int),(4294967288:Int),(u:Int),(d:Int),(u0:Int),((b5Q u d 4294967295 4294967288:Nat):Int),()):=by
 have h:u / 4294967295≤4294967297:=by omega
 have g:u%4294967295<4294967295:=a39 _ (by omega);unfold b5Q
 revert h g
 generalize u / 4294967295=q;generalize u%4294967295=r;intro h g;have f:=b7q (u0:=u0) (s:=s) (u:=u) k h (Nat.lt_succ_of_lt g)
 by_cases c1:a8K 4294967288 d q r
 ·rw[if_pos c1]at f⊢
  by_cases c2:4294967296≤r+4294967295
  simp_all[a0C]
  ·rw[if_neg c2]at f⊢;rw[a0E f];have b:=b7q (u0:=u0) (s:=s) (u:=u) (q:=q-1) (r:=r+4294967295) k (by omega) (by omega)
   by_cases c3:a8K 4294967288 d (q-1) (r+4294967295)
   all_goals simp_all[Nat.sub_sub,a0C]
 simp_all[a0C]
end Go.Ab
