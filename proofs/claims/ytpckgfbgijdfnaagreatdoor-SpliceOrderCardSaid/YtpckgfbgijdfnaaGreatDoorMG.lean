/- Part of the proof: PA. Conditions: as each statement tells. -/
import Derived.KernelRfl
import Derived.Test.YtpckgfbgijdfnaaGreatDoorMF
noncomputable section
set_option linter.unusedSimpArgs false
set_option linter.unusedVariables false
open BitVec renaming ofInt→a04,ofInt_natCast→a24,toNat_ofNat→a29,toNat_or→a72,toNat_ofInt→a82,toNat_and→a93
open Bool renaming and_self→a03,not_eq_true'→a33,not_false→a36,true_and→a39,and_eq_true_iff→a76,or_eq_false_iff→a77,or_eq_true→a98,eq_iff_iff→a99
open Int renaming eq_ofNat_of_zero_le→a01,natCast_dvd_natCast→a20,tmod→a26,cast_ofNat_Int→a30,toNat→a42,tmod_eq_emod_of_nonneg→a43,dvd_mul_of_dvd_left→a46,mul_nonneg→a47,tdiv→a54,tdiv_eq_ediv_of_nonneg→a61,mul_fdiv_cancel_left→a64,dvd_add_left→a66,toNat_of_nonneg→a79,fdiv→a80,natCast_nonneg→a83,dvd_zero→a86,emod_eq_of_lt→a89,natCast_add→b01
open List renaming replicate→a00,drop_eq_getElem_cons→a02,getElem_mem→a05,append_eq→a06,all_cons→a07,nil_append→a09,take_length→a19,length_nil→a22,drop_zero→a28,zipWith→a31,mem_of_mem_take→a34,mem_of_mem_drop→a35,length→a37,append_nil→a40,length_eq_zero_iff→a45,take_of_length_le→a48,take_succ_eq_append_getElem→a49,drop_length→a50,eq_nil_or_concat→a51,length_drop→a52,replicate_succ'→a53,set_cons_zero→a60,sum_cons→a62,flatMap_cons→a63,cons_append→a65,set_append_right→a73,length_singleton→a74,singleton_append→a75,getD→a87,length_take→a94,not_mem_nil→a96,mem_flatMap→a97,foldl_cons→b00,take→b02
open Nat renaming pow_le_pow_right→a08,two_pow_pos→a16,lt_trans→a18,mod_eq_of_lt→a23,mul_le_mul_right→a25,le_refl→a27,div_le_self→a32,lt_of_le_of_lt→a38,mod_lt→a41,pow_dvd_pow→a55,sub_self→a56,mul_comm→a57,testBit_two_pow_mul_add→a58,two_pow_add_eq_or_of_lt→a59,div_eq_of_lt→a67,pow_succ→a68,div_div_eq_div_mul→a69,div_add_mod→a70,min_eq_left→a71,div_mul_le_self→a78,one_le_two_pow→a81,le_of_lt→a84,add_zero→a85,or_lt_two_pow→a88,add_mod_right→a90,mul_add→a91,mul_one→a92,lt_of_not_le→a95
open Option renaming map_eq_some_iff→a21,bind_eq_some_iff→a44
namespace Go.Ab
variable {L P R c d g ks l part r row t wm:List Int}{N a b i j m o v w:Nat}{k lag n warm x:Int}{zn:List Nat}
open IntKind(wrap)
section
variable {σ β:Type} {f:σ→Option (σ ⊕ β)}
theorem b4i:∀(n m:Nat)(s:σ){b:β},j0z f n s=some b→j0z f (n+m) s=some b
 |0,_,s,b,h=>by simp[j0z]at h
 |n+1,m,s,b,h=>by
  rw[show n+1+m=n+m+1 from by omega];simp only[j0z]at h⊢
  split at h
  cases h;rename_i s' g;exact b4i n m s' h;exact h
theorem c0D{n:Nat}{s:σ}{b b':β}(h:j0z f n s=some b)(k:j0z f m s=some b'):b=b':=by
 have a:=b4i n m s h;have g:=b4i m n s k;rw[Nat.add_comm,a]at g;exact Option.some.inj g
theorem c9E{n:Nat}{s:σ}{b:β}(h:j0z f n s=some b):v0v f s=some b:=by
 unfold v0v;have g:∃n b,j0z f n s=some b:=⟨n,b,h⟩;rw[dif_pos g];exact congrArg some (c0D g.choose_spec.choose_spec h)
theorem b9F{n:Nat}{s:σ}{b:β}(h:j0z f n s=some b):y0s f s=some b:=by
 unfold y0s;split;rename_i g hb;rw[c0D hb h];exact c9E h
theorem c0E{s:σ}(h:∀n,j0z f n s=none):y0s f s=none:=by
 unfold y0s;rw[h 400];show v0v f s=none;unfold v0v;rw[dif_neg]
 rintro⟨n,b,g⟩
 rw[h n]at g;cases g
theorem a0F{s:σ}{b:β}(h:f s=some (.inr b)):y0s f s=some b:=b9F (n:=1) (by simp[j0z,h])
theorem a0E{s s':σ}(h:f s=some (.inl s')):y0s f s=y0s f s':=by
 by_cases hx:∃n b,j0z f n s'=some b
 obtain⟨n,b,hb⟩:=hx;rw[b9F hb];exact b9F (n:=n+1) (by simp[j0z,h,hb])
 ·have g:∀n,j0z f n s'=none:=fun n=>by
   cases hn:j0z f n s' with
   |none=>rfl
   |some b=>exact absurd ⟨n,b,hn⟩ hx
  rw[c0E g];refine c0E fun n=>?_
  cases n with
  |zero=>rfl
  |succ n=>simp[j0z,h,g n]
theorem c5E(S:Nat→σ)(n:Nat){b:β}(g:∀i,i<n→f (S i)=some (.inl (S (i+1))))(h:f (S n)=some (.inr b)):∀(k:Nat),k≤n→y0s f (S (n-k))=some b
 |0,_=>a0F h
 |k+1,hk=>by
  rw[a0E (g (n-(k+1)) (by omega)),show n-(k+1)+1=n-k from by omega];exact c5E S n g h k (by omega)
theorem a1C(S:Nat→σ)(n:Nat){b:β}(g:∀i,i<n→f (S i)=some (.inl (S (i+1))))(h:f (S n)=some (.inr b)):y0s f (S 0)=some b:=by
 have:=c5E S n g h n (a27 _)
 rwa [a56]at this
end
theorem a0B{n:Int}(h:-9223372036854775808≤n∧n≤9223372036854775807):wrap .i64 n=n:=by
 simp only[wrap,IntKind.bits,IntKind.signed]
 simp
 split<;>omega
theorem a0M{n:Int}(h:0≤n∧n<18446744073709551616):wrap .u64 n=n:=by
 simp only[wrap,IntKind.bits,IntKind.signed]
 simp
 omega
theorem a8b(n:Int):wrap .u8 n=n%256:=by
 simp[wrap,IntKind.bits,IntKind.signed]
def leB:Nat→Nat→List Int
 |0,_=>[]
 |k+1,n=>((n%256:Nat):Int)::leB k (n / 256)
theorem b0F:∀k n,(leB k n).length=k
 |0,_=>rfl
 |k+1,n=>by simp[leB,b0F k]
theorem b7o:∀(k n:Nat),leB (k+1) n=leB k n++[((n / 256^k%256:Nat):Int)]
 |0,n=>by simp[leB]
 |k+1,n=>by
  rw[leB,b7o k (n / 256),leB,a69,a68,a57 (256^k)];rfl
theorem b0Q(x y:Int):v0s x y=min x y:=by
 simp only[v0s,cond_eq_ite,dT]
 split<;>omega
theorem b6d(x y:Int):v0r x y=max x y:=by
 simp only[v0r,cond_eq_ite,dT]
 split<;>omega
theorem a0T{n:Nat}(h:n<2147483648):lim n=true:=by simp[lim,h]
section
variable {α A σ β:Type}
def a2U(g:A→α→A ⊕ β):List α→A→A ⊕ β
 | [],a=>.inl a
 |x::r,a=>match g a x with
  |.inl a'=>a2U g r a'
  |.inr b=>.inr b
def a8c(fin:A→β):A ⊕ β→β
 |.inl a=>fin a
 |.inr b=>b
theorem b3I{f:σ→Option (σ ⊕ β)}(l:List α)(S:Nat→A→σ)(g:A→α→A ⊕ β)(I:Nat→A→Prop)(e:A→β)
  (d:∀i (h:i<l.length) a,I i a→(∀a',g a l[i]=.inl a'→f (S i a)=some (.inl (S (i+1) a'))∧I (i+1) a')∧(∀b,g a l[i]=.inr b→f (S i a)=some (.inr b)))
  (c:∀a,I l.length a→f (S l.length a)=some (.inr (e a))):∀(k i:Nat)(a:A),i+k=l.length→I i a→y0s f (S i a)=some (a8c e (a2U g (l.drop i) a))
 |0,i,a,hi,ha=>by
  obtain rfl:i=l.length:=by omega
  rw[a50];exact a0F (c a ha)
 |k+1,i,a,hi,ha=>by
  have j:i<l.length:=by omega
  rw[a02 j];obtain⟨m,n⟩:=d i j a ha;simp[a2U];cases hg:g a l[i]with
  |inl a'=>
   obtain⟨o,p⟩:=m a' hg;rw[a0E o];exact b3I l S g I e d c k (i+1) a' (by omega) p
  |inr b=>exact a0F (n b hg)
theorem a1M{f:σ→Option (σ ⊕ β)}(l:List α)(S:Nat→A→σ)(g:A→α→A ⊕ β)(I:Nat→A→Prop)(k:A→β)
  (d:∀i (h:i<l.length) a,I i a→(∀a',g a l[i]=.inl a'→f (S i a)=some (.inl (S (i+1) a'))∧I (i+1) a')∧(∀b,g a l[i]=.inr b→f (S i a)=some (.inr b)))
  (c:∀a,I l.length a→f (S l.length a)=some (.inr (k a))){a:A}(e:I 0 a):y0s f (S 0 a)=some (a8c k (a2U g l a)):=by
 have:=b3I l S g I k d c l.length 0 a (by omega) e
 simp_all
theorem a2q{f:σ→Option (σ ⊕ β)}(l:List α)(S:Nat→σ)(p:α→Bool){bt bf:β}
  (k:∀i (h:i<l.length),p l[i]=true→f (S i)=some (.inl (S (i+1))))(b:∀i (h:i<l.length),p l[i]=false→f (S i)=some (.inr bf))
  (g:f (S l.length)=some (.inr bt)):y0s f (S 0)=some (bif l.all p then bt else bf):=by
 have h:=a1M (A:=Unit) l (fun i _=>S i) (fun _ x=>bif p x then .inl ()else .inr bf) (fun _ _=>True) (fun _=>bt) (fun i h a _=>?_) (fun _ _=>g) (a:=()) trivial
 ·rw[h];congr 1;clear h k b g
  induction l with
  |nil=>rfl
  |cons x l ih=>
   simp[a2U];cases p x with
   |true=>simp_all
   |false=>rfl
 grind
end
theorem a0D{α:Type}{l:List α}{i:Nat}(h:i<l.length):m0k l (i:Int)=some l[i]:=by
 simp_all[m0k]
def a0A(x:Int):Bool:=decide (-1073741824≤x)&&decide (x<1073741824)
theorem a1N{x:Int}:a0A x=true↔-1073741824≤x∧x<1073741824:=by simp[a0A]
def short{α:Type}(l:List α):Prop:=l.length<1000000
theorem a0C{i:Nat}(h:i<1000000):wrap .i64 ((i:Int)+1)=((i+1:Nat):Int):=by
 grind[a0B]
theorem dlt{n:Nat}(h:i<n):decide ((i:Int)<(n:Int))=true:=by simp_all
theorem dge(n:Nat):decide ((n:Int)<(n:Int))=false:=by simp
theorem a4D{l:List Int}(a:short l):a2C l=some (l.all a0A):=by
 unfold a2C
 have:=a2q (f:=a2H) l (fun i=>(l,(l.length:Int),(i:Int),())) a0A (bt:=Sum.inl ()) (bf:=Sum.inr (false,()))
  (fun i h hp=>by
   have hp:=a1N.1 hp;have g:decide (l[i] < -1073741824)=false:=by simp_all
   have k:decide (l[i]≥1073741824)=false:=by simp_all
   simp only[a2H,dlt h,cT,a0D h,oB,g,k,cF,a0C (a18 h a)])
  (fun i h hp=>by
   simp only[a2H,dlt h,cT,a0D h,oB]
   grind[a0A])
  (by simp[a2H])
 grind
theorem a6q(x:Int):a5h x=some (a0A x):=by
 grind[a5h,a0A]
theorem a8d(x:Int):a7s x=some (a0A x):=by
 grind[a7s,a0A]
theorem a5l(x:Int):a6h x=some (a0A x):=by
 grind[a6h,a0A]
theorem b3J(x:Int):a5i x=some (a0A x):=by
 grind[a5i,a0A]
theorem a6d(g:short l):a2I l=some (l.all a0A):=by
 unfold a2I
 have:=a2q (f:=a3g) l (fun i=>(l,(l.length:Int),(i:Int),())) a0A (bt:=Sum.inl ()) (bf:=Sum.inr (false,()))
  (fun i h hp=>by simp[a3g,a0D h,a6q,hp,a0C (a18 h g),h])
  (fun i h hp=>by simp_all[a3g,a0D,a6q])
  (by simp[a3g])
 grind
theorem b3a(g:short l):a4x l=some (l.all a0A):=by
 unfold a4x
 have:=a2q (f:=a4b) l (fun i=>(l,(l.length:Int),(i:Int),())) a0A (bt:=Sum.inl ()) (bf:=Sum.inr (false,()))
  (fun i h hp=>by simp[a4b,a0D h,a8d,hp,a0C (a18 h g),h])
  (fun i h hp=>by simp_all[a4b,a0D,a8d])
  (by simp[a4b])
 grind
theorem b2B(g:short l):a5s l=some (l.all a0A):=by
 unfold a5s
 have:=a2q (f:=a3B) l (fun i=>(l,(l.length:Int),(i:Int),())) a0A (bt:=Sum.inl ()) (bf:=Sum.inr (false,()))
  (fun i h hp=>by simp[a3B,a0D h,a5l,hp,a0C (a18 h g),h])
  (fun i h hp=>by simp_all[a3B,a0D,a5l])
  (by simp[a3B])
 grind
theorem a7n(h:short l):a2Q l=some (l.all a0A):=by
 have e:b2W=a2H:=rfl
 have:a2Q l=a2C l:=by rfl
 simp_all[a4D]
def b8b(x:Int):Bool:=decide (-32768≤x)&&decide (x<32768)
def a9z(c:List Int)(s:Int):Bool:=decide (1≤c.length)&&(decide (c.length≤32)&&(decide (0≤s)&&(decide (s≤15)&&c.all b8b)))
theorem a9t{c:List Int}{s:Int}(a:short c):a4G (c,s)=some (a9z c s):=by
 have:=a2q (f:=a5r) c (fun i=>(c,(c.length:Int),(i:Int),())) b8b (bt:=Sum.inl ()) (bf:=Sum.inr (false,()))
  (fun i h hp=>by
   simp[b8b]at hp;have g:¬ c[i] < -32768:=by omega
   have k:¬ c[i]≥32768:=by omega
   simp[a5r,a0D h,a0C (a18 h a),h,g,k])
  (fun i h hp=>by
   grind[b8b,a5r,a0D])
  (by simp[a5r])
 simp at this;unfold a4G a9z
 grind
def b4j(x:Int):Bool:=decide (-64≤x)&&decide (x≤64)
def b1x(lag:Int)(t:List Int):Bool:=decide (2≤lag)&&(decide (lag≤1024)&&t.all b4j)
theorem b3x(g:t.length=3):a8p (lag,t)=some (b1x lag t):=by
 have:=a2q (f:=a6Y) t (fun i=>(t,(i:Int),())) b4j (bt:=Sum.inl ()) (bf:=Sum.inr (false,()))
  (fun i h hp=>by
   simp[b4j]at hp
   grind[a6Y,a0D,a0C])
  (fun i h hp=>by
   grind[b4j,a6Y,a0D])
  (by simp_all[a6Y])
 simp at this;unfold a8p b1x
 grind
def stageB(s:Int×(Int×Unit)):Bool:=decide (1≤s.1)&&(decide (s.1≤32)&&(decide (0≤s.2.1)&&decide (s.2.1≤8)))
def a9j(l:List (Int×Int×Unit)):Bool:=decide (l.length≤3)&&l.all stageB
theorem b0R(s:Int×(Int×Unit)):a6Z s=some (stageB s):=by
 grind[a6Z,stageB]
theorem b2C{l:List (Int×Int×Unit)}(g:short l):a7q l=some (a9j l):=by
 have:=a2q (f:=a6f) l (fun i=>(l,(l.length:Int),(i:Int),())) stageB (bt:=Sum.inl ()) (bf:=Sum.inr (false,()))
  (fun i h hp=>by simp[a6f,a0D h,b0R,hp,a0C (a18 h g),h])
  (fun i h hp=>by simp_all[a6f,a0D,b0R])
  (by simp[a6f])
 simp at this;unfold a7q a9j
 grind
@[reducible] def W(n:Int):Int:=wrap .i64 n
theorem a8e(n:Int):wrap .i64 n=Int.bmod n 18446744073709551616:=by
 grind[wrap,IntKind.bits,IntKind.signed]
theorem b5E{n:Int}(h:a0A n=true):W n=n:=by
 grind[a1N,a0B]
def a4l(guess:List Int→Int):List Int→List Int→Option (List Int)
 | [],out=>some out
 |x::r,out=>bif a0A (W (x+guess out))then a4l guess r (out++[W (x+guess out)])else none
def b3b{β:Type}(guess:List Int→Int)(bad:β)(out:List Int)(x:Int):List Int ⊕ β:=bif a0A (W (x+guess out))then .inl (out++[W (x+guess out)])else .inr bad
theorem b2e{β:Type}(h:List Int→Int)(g:β)(f:List Int→β):∀(l out:List Int),a8c f (a2U (b3b h g) l out)=match a4l h l out with|some r=>f r|none=>g
 | [],out=>rfl
 |x::l,out=>by
  simp[a2U,b3b,a4l];cases a0A (W (x+h out))with
  |true=>simp_all[b2e]
  |false=>rfl
theorem b2f(g:List Int→Int):∀(l out r:List Int),out.all a0A=true→a4l g l out=some r→r.all a0A=true∧r.length=out.length+l.length
 | [],out,r,h,e=>by simp_all[a4l]
 |x::l,out,r,h,e=>by
  simp[a4l]at e;cases hw:a0A (W (x+g out))with
  |true=>
   rw[hw]at e;obtain⟨f,k⟩:=b2f g l _ r (by simp_all) e
   grind
  |false=>simp_all
def a5f:Option (List Int)→List Int×Int
 |some r=>(r,0)
 |none=>([],6)
def atB(out:List Int)(i:Nat):Int:=out.getD (out.length-i) 0
def a6r(o:Nat)(out:List Int):Int:=match o with
 | 1=>atB out 1
 | 2=>2*atB out 1-atB out 2
 | 3=>3*atB out 1-3*atB out 2+atB out 3
 | 4=>4*atB out 1-6*atB out 2+4*atB out 3-atB out 4
 |_=>0
theorem b2g{out:List Int}(hi:1≤i)(h:i≤out.length)(g:short out):a1j ((i:Int),out)=some (atB out i,out):=by
 unfold a1j;have g:out.length<1000000:=g
 grind[a0B,a0D,atB]
theorem b9G{out:List Int}(e:o≤4)(h:o≤out.length)(a:short out):∃g,a9n (out,(o:Int))=some g∧∀x,W (x+g)=W (x+a6r o out):=by
 have f:=fun(h':1≤out.length)=>b2g (i:=1) (by omega) h' a;have k:=fun(h':2≤out.length)=>b2g (i:=2) (by omega) h' a;have b:=fun(h':3≤out.length)=>b2g (i:=3) (by omega) h' a;have c:=fun(h':4≤out.length)=>b2g (i:=4) (by omega) h' a;simp at f k b c;unfold a9n;have d:o=0∨o=1∨o=2∨o=3∨o=4:=by omega
 rcases d with rfl|rfl|rfl|rfl|rfl;exact⟨0,rfl,fun x=>rfl⟩;exact⟨_,by simp[f (by omega)];rfl,fun x=>rfl⟩;refine⟨_,by simp[f (by omega),k (by omega)];rfl,fun x=>?_⟩;simp_all[a8e,a6r];refine⟨_,by simp[f (by omega),k (by omega),b (by omega)];rfl,fun x=>?_⟩;simp_all[a8e,a6r];refine⟨_,by simp[f (by omega),k (by omega),b (by omega),c (by omega)];rfl,fun x=>?_⟩;simp_all[a8e,a6r]
theorem a0U{n:Nat}(h:n<1000000):lim n=true:=a0T (by omega)
theorem c1S{warm rest:List Int}(u:o≤4)(x:warm.length=o)(w:rest.length<100000):
  a9O (warm,rest,(o:Int))=some (a5f (bif warm.all a0A&&rest.all a0A then a4l (a6r o) rest warm else none)):=by
 have c:short warm:=by unfold short;omega
 have m:short rest:=by unfold short;omega
 unfold a9O;have p:¬ (o:Int)<0:=by omega
 have q:¬ (o:Int) > 4:=by omega
 have r:(((warm.length:Nat):Int) != (o:Int))=false:=by simp_all
 simp only[p,q,r,decide_false,cF,oB,a7n c,a7n m];cases hw1:warm.all a0A with
 |false=>rfl
 |true=>
  simp only[bT,cF,oB,a39];cases hw2:rest.all a0A with
  |false=>rfl
  |true=>
   simp[a0U c]
   have:=a1M (f:=a7G) rest (fun i out=>((o:Int),rest,(rest.length:Int),(i:Int),out,())) (b3b (a6r o) (Sum.inr ((6:Int),([]:List Int),())))
    (fun i out=>o≤out.length∧out.length≤o+i) (fun out=>Sum.inl (out,()))
    (fun i h out s=>by
     have j:i<1000000:=by omega
     have l:short out:=by unfold short;omega
     obtain⟨g,t,d⟩:=b9G u s.1 l;have e:wrap .i64 (rest[i]+g)=W (rest[i]+a6r o out):=d _;have k:a2Q [W (rest[i]+a6r o out)]=some (a0A (W (rest[i]+a6r o out))):=by rw[a7n (by simp[short])];simp
     simp only[a7G,dlt h,cT,a0D h,oB,t,e,k,b3b];cases hb:a0A (W (rest[i]+a6r o out))with
     |true=>
      simp only[cT,bT,cF,a0U (show out.length+1<1000000 by omega),a0C j];refine⟨fun v n=>?_,fun b hb=>(by grind)⟩;simp at n;subst n;exact⟨rfl,by grind,by grind⟩
     |false=>
      simp)
    (fun out _=>by simp[a7G]) (a:=warm) ⟨by omega,by omega⟩
   simp[b2e]at this;rw[this];cases a4l (a6r o) rest warm<;>rfl
def c2V(out:List Int):List Int→Nat→Int→Int
 | [],_,acc=>acc
 |c::r,i,acc=>bif decide (i<out.length)then c2V out r (i+1) (W (acc+W (c*atB out (i+1))))else acc
def b0S(c:List Int)(s:Int)(out:List Int):Int:=A0o .i64 (c2V out c 0 0) s
theorem d3B{out:List Int}(h:i<out.length)(g:short out):m0k out (wrap .i64 (wrap .i64 (((out.length:Nat):Int)-1)-(i:Int)))=some (atB out (i+1)):=by
 have g:out.length<1000000:=g
 grind[a0B,a0D,atB]
theorem b5F{out c:List Int}{s:Int}(f:short out)(a:short c):∀(k i:Nat)(acc:Int),i+k=c.length→
  y0s a3h (out,s,acc,c,(c.length:Int),(i:Int),())=some (s,c2V out (c.drop i) i acc,())
 |0,i,acc,h=>by
  obtain rfl:i=c.length:=by omega
  simp_all[a0F,a3h,c2V]
 |k+1,i,acc,h=>by
  have g:i<c.length:=by omega
  have e:out.length<1000000:=f;have d:c.length<1000000:=a;rw[a02 g,c2V];have j:wrap .i64 (((out.length:Nat):Int)-1)=((out.length:Nat):Int)-1:=a0B (by omega);have l:wrap .i64 (((out.length:Nat):Int)-1-(i:Int))=((out.length:Nat):Int)-1-(i:Int):=a0B (by omega)
  by_cases hi:i<out.length
  have b:decide (wrap .i64 (wrap .i64 (((out.length:Nat):Int)-1)-(i:Int))<0)=false:=by grind
  simp[hi];rw[a0E (s':=(out,s,W (acc+W (c[i]*atB out (i+1))),c,(c.length:Int),((i+1:Nat):Int),())) (by
   simp only[a3h,dlt g,cT,a0D g,oB,b,cF,d3B hi f,a0C (show i<1000000 by omega)])]
  exact b5F f a k (i+1) _ (by omega);have b:decide (wrap .i64 (wrap .i64 (((out.length:Nat):Int)-1)-(i:Int))<0)=true:=by grind
  simp[hi];simp_all[a0F,a3h,a0D]
theorem b4k{out:List Int}{s:Int}(g:short out)(h:short c)(f:0≤s):a4I (out,c,s)=some (b0S c s out):=by
 have:=b5F (s:=s) g h c.length 0 0 (by omega)
 grind[a4I,b0S]
def b2D(warm rest c:List Int)(s:Int):Option (List Int):=bif warm.all a0A&&rest.all a0A then a4l (b0S c s) rest warm else none
theorem b3K{warm rest:List Int}{s:Int}(o:a9z c s=true)(w:warm.length=c.length)(v:rest.length<100000):
  a7a (warm,rest,c,s)=some (a5f (b2D warm rest c s)):=by
 have g:=o;simp only[a9z,bA,dT]at g;have k:short c:=by unfold short;omega
 have m:short warm:=by unfold short;omega
 have l:short rest:=by unfold short;omega
 unfold a7a;have q:(((warm.length:Nat):Int) != ((c.length:Nat):Int))=false:=by simp_all
 simp only[a9t k,o,oB,bT,cF,q,a6d m,a6d l,b2D];cases hw1:warm.all a0A with
 |false=>rfl
 |true=>
  simp only[bT,cF,oB,a39];cases hw2:rest.all a0A with
  |false=>rfl
  |true=>
   have p:wrap .i64 (((warm.length:Nat):Int)+((rest.length:Nat):Int))=((warm.length+rest.length:Nat):Int):=by grind[a0B]
   have r:(0:Int)≤((warm.length+rest.length:Nat):Int):=by omega
   simp only[bT,cF,cT,p,r,decide_true,tN,a0U (show warm.length+rest.length<1000000 by omega),a0U (show 0+warm.length<1000000 by omega),a03,a06,a09]
   have:=a1M (f:=a6E) rest (fun i out=>(c,s,rest,(rest.length:Int),(i:Int),out,())) (b3b (b0S c s) (Sum.inr ((6:Int),([]:List Int),())))
    (fun i out=>out.length≤warm.length+i) (fun out=>Sum.inl (out,()))
    (fun i h out u=>by
     have d:i<1000000:=by omega
     have j:short out:=by unfold short;omega
     have e:wrap .i64 (b0S c s out+rest[i])=W (rest[i]+b0S c s out):=by grind
     simp only[a6E,dlt h,cT,a0D h,oB,b4k j k g.2.2.1,e,a6q,b3b];cases hb:a0A (W (rest[i]+b0S c s out))with
     |true=>
      simp only[cT,bT,cF,a0U (show out.length+1<1000000 by omega),a0C d];refine⟨fun t n=>?_,fun b hb=>(by grind)⟩;simp at n;subst n;exact⟨rfl,by grind⟩
     |false=>
      simp)
    (fun out _=>by simp[a6E]) (a:=warm) (by omega)
   simp[b2e]at this;rw[this];cases a4l (b0S c s) rest warm<;>rfl
def c2W(out:List Int)(lag:Int):List Int→Nat→Int→Int
 | [],_,acc=>acc
 |t::r,i,acc=>c2W out lag r (i+1) (bif decide (0≤(out.length:Int)-lag-1+i)then W (acc+W (t*out.getD ((out.length:Int)-lag-1+i).toNat 0))else acc)
def a9u(lag:Int)(t:List Int)(out:List Int):Int:=A0o .i64 (c2W out lag t 0 0) 6
theorem c2X{out:List Int}{j:Int}(g:0≤j)(h:j<out.length):m0k out j=some (out.getD j.toNat 0):=by
 obtain⟨n,rfl⟩:=a01 g;simp_all[a0D]
theorem d2b{n:Nat}(h:2≤lag)(g:lag≤1024)(f:n<1000000)(hi:i<3):
  wrap .i64 (wrap .i64 (wrap .i64 ((n:Int)-lag)-1)+(i:Int))=(n:Int)-lag-1+i:=by
 grind[a0B]
theorem c8i{n:Nat}(h:j<n):(l.take n).getD j 0=l.getD j 0:=by
 simp_all
theorem a8W{l t:List Int}{lag:Int}{n:Nat}(m:n≤l.length)(j:short l)(o:t.length=3)(a:2≤lag)(b:lag≤1024):∀(k i:Nat)(acc:Int),i+k=3→
  y0s a4c (l,(n:Int),lag,acc,t,(i:Int),())=some (c2W (l.take n) lag (t.drop i) i acc,())
 |0,i,acc,h=>by
  obtain rfl:i=t.length:=by omega
  grind[a0F,a4c,c2W]
 |k+1,i,acc,h=>by
  have g:i<t.length:=by omega
  have f:decide ((i:Int)<3)=true:=by grind
  have p:l.length<1000000:=j;have d:(l.take n).length=n:=by simp_all
  have e:=d2b (n:=n) (i:=i) a b (by omega) (by omega);rw[a02 g,c2W,d]
  by_cases hp:0≤(n:Int)-lag-1+i
  have c:decide ((n:Int)-lag-1+i≥0)=true:=by simp_all
  simp only[hp,decide_true,cT];rw[c8i (show((n:Int)-lag-1+i).toNat<n by omega),a0E (s':=(l,(n:Int),lag,W (acc+W (t[i]*l.getD ((n:Int)-lag-1+i).toNat 0)),t,((i+1:Nat):Int),())) (by
   simp only[a4c,f,cT,a0D g,oB,e,c,c2X hp (show(n:Int)-lag-1+(i:Int)<(l.length:Int)by omega),a0C (show i<1000000 by omega)])]
  exact a8W m j o a b k (i+1) _ (by omega);have c:decide ((n:Int)-lag-1+i≥0)=false:=by simp_all
  simp[hp];rw[a0E (s':=(l,(n:Int),lag,acc,t,((i+1:Nat):Int),())) (by
   simp only[a4c,f,cT,a0D g,oB,e,c,cF,a0C (show i<1000000 by omega)])]
  exact a8W m j o a b k (i+1) _ (by omega)
theorem b3c{l t:List Int}{lag:Int}{n:Nat}(f:n≤l.length)(k:short l)(a:t.length=3)(h:2≤lag)(g:lag≤1024):
  a4y (l,(n:Int),lag,t)=some (a9u lag t (l.take n)):=by
 have:=a8W (t:=t) f k a h g 3 0 0 (by rfl)
 simp_all[a4y,a9u]
theorem b8c{out:List Int}(f:short out)(k:t.length=3)(h:2≤lag)(g:lag≤1024):a4y (out,(out.length:Int),lag,t)=some (a9u lag t out):=by
 simp_all[b3c]
def b3d(rest:List Int)(lag:Int)(t:List Int):Option (List Int):=bif rest.all a0A then a4l (a9u lag t) rest []else none
theorem c2Y{rest:List Int}(d:b1x lag t=true)(e:t.length=3)(m:rest.length<100000):b1j (rest,lag,t)=some (a5f (b3d rest lag t)):=by
 have g:=d;simp only[b1x,bA,dT]at g;have k:short rest:=by unfold short;omega
 unfold b1j;simp only[b3x e,d,oB,bT,cF,b3a k,b3d];cases hw2:rest.all a0A with
 |false=>rfl
 |true=>
  have l:(0:Int)≤((rest.length:Nat):Int):=by omega
  simp[a0U k]
  have:=a1M (f:=a8q) rest (fun i out=>(lag,rest,(rest.length:Int),(i:Int),out,t,())) (b3b (a9u lag t) (Sum.inr ((6:Int),([]:List Int),())))
   (fun i out=>out.length=i) (fun out=>Sum.inl (out,()))
   (fun i h out j=>by
    have b:i<1000000:=by omega
    have c:short out:=by unfold short;omega
    have hp:=b8c (out:=out) (t:=t) (lag:=lag) c e g.1 g.2.1;rw[j]at hp;simp only[a8q,dlt h,cT,a0D h,oB,hp,a8d,b3b];cases hb:a0A (W (rest[i]+a9u lag t out))with
    |true=>
     simp only[cT,bT,cF,a0U (show out.length+1<1000000 by omega),a0C b];simp_all
    |false=>
     simp)
   (fun out _=>by simp[a8q]) (a:=[]) rfl
  simp[b2e]at this;rw[this];cases a4l (a9u lag t) rest []<;>rfl
def b8d{β:Type}(n:Int)(bad:β)(out:List Int)(x:Int):List Int ⊕ β:=bif a0A x&&a0A (A0n .i64 x n)then .inl (out++[A0n .i64 x n])else .inr bad
def upO(n:Int)(l:List Int):Option (List Int):=bif l.all (fun x=>a0A x&&a0A (A0n .i64 x n))then some (l.map fun x=>A0n .i64 x n)else none
theorem b6F{β:Type}(n:Int)(h:β)(g:List Int→β):∀(l out:List Int),a8c g (a2U (b8d n h) l out)=match upO n l with|some r=>g (out++r)|none=>h
 | [],out=>by simp[a2U,a8c,upO]
 |x::l,out=>by
  simp only[a2U,b8d,upO,a07];cases hx:(a0A x&&a0A (A0n .i64 x n))with
  |true=>
   simp only[cT,a39];rw[b6F n h g l _];simp only[upO];cases l.all (fun x=>a0A x&&a0A (A0n .i64 x n))with
   |true=>simp
   |false=>rfl
  |false=>rfl
theorem c2Z(d:0≤n)(e:n≤30)(m:l.length<100000):a9c (l,n)=some (a5f (upO n l)):=by
 have c:short l:=by unfold short;omega
 have g:¬ n<0:=by omega
 have b:¬ n > 30:=by omega
 unfold a9c;simp[g,b]
 have:=a1M (f:=a8r) l (fun i out=>(n,l,(l.length:Int),(i:Int),out,())) (b8d n (Sum.inr ((6:Int),([]:List Int),())))
  (fun i out=>out.length=i) (fun out=>Sum.inl (out,()))
  (fun i h out j=>by
   have k:i<1000000:=by omega
   simp only[a8r,dlt h,cT,a0D h,oB,b3J,b8d,g,decide_false,cF];cases hb:a0A l[i]with
   |true=>
    cases hb2:a0A (A0n .i64 l[i] n)with
    |true=>
     simp only[cT,bT,cF,oB,g,decide_false,a0U (show out.length+1<1000000 by omega),a0C k,a03];simp_all
    |false=>
     simp
   |false=>
    simp)
  (fun out _=>by simp[a8r]) (a:=[]) rfl
 simp[b6F]at this;rw[this];cases upO n l<;>rfl
@[reducible] def Fil:Type:=Int×((List Int)×((List Int)×Unit))
def a2A(x:Int):Int:=v0s (v0r x (-1073741824)) 1073741823
def b8e(x:Int):Int:=v0s (v0r x (-1048576)) 1048576
theorem c3a(x:Int):-1048576≤b8e x∧b8e x≤1048576:=by
 grind[b8e,b0Q,b6d]
def c6V:List Int→List Int→Int→Int
 |a::w,b::h,acc=>c6V w h (W (acc+W (a*b)))
 |_,_,acc=>acc
def a1g(f:Fil):Int:=a2A (A0o .i64 (c6V f.2.1 f.2.2.1 0) 16)
structure FilOk (f:Fil):Prop where
 len:f.2.1.length=f.2.2.1.length
 pos:1≤f.2.1.length
 most:f.2.1.length≤32
 rate:0≤f.1∧f.1≤8
 small:∀x∈f.2.1,-1048576≤x∧x≤1048576
theorem b7p(h:i<l.length):a87 l i 0=l[i]:=by
 simp_all
theorem b2E{f:Fil}(c:FilOk f):∀(k i:Nat)(acc:Int),i+k=f.2.1.length→
  y0s a3f (acc,(f.2.1.length:Int),(i:Int),f,())=some (c6V (f.2.1.drop i) (f.2.2.1.drop i) acc,f,())
 |0,i,acc,h=>by
  obtain rfl:i=f.2.1.length:=by omega
  rw[a50,a0F (b:=(acc,f,())) (by simp[a3f])];rfl
 |k+1,i,acc,h=>by
  have g:i<f.2.1.length:=by omega
  have a:i<f.2.2.1.length:=by rw[←c.len];omega
  have e:=c.most;rw[a02 g,a02 a,c6V];have d:decide ((0:Int)≤(i:Int))=true:=by simp
  rw[a0E (s':=(W (acc+W (f.2.1[i]*f.2.2.1[i])),(f.2.1.length:Int),((i+1:Nat):Int),f,())) (by
   simp only[a3f,dlt g,dlt a,d,cT,a03,tN,b7p g,b7p a,a0C (show i<1000000 by omega)])]
  exact b2E c k (i+1) _ (by omega)
theorem a6s{f:Fil}(h:FilOk f):a2d f=some (a1g f,f):=by
 have:=b2E h f.2.1.length 0 0 (by omega)
 simp at this;unfold a2d;simp only[this,oB,a5t];rfl
def b6e(x:Int):Int:=if 0<x then 1 else if x<0 then -1 else 0
def b1y(r:Int)(x g:Int):Int:=b6e (x-g)*2^r.toNat
def b4l(st:Int)(w h:Int):Int:=b8e (W (w+b6e h*st))
def b2h(f:Fil)(x:Int):Fil:=
 (f.1,a31 (b4l (b1y f.1 (a2A x) (a1g f))) f.2.1 f.2.2.1,a2A x::f.2.2.1.take (f.2.2.1.length-1),f.2.2.2)
theorem c3b{f:Fil}(k:FilOk f)(x:Int):FilOk (b2h f x):=by
 obtain⟨a,b,c,g,d⟩:=k;have e:(a31 (b4l (b1y f.1 (a2A x) (a1g f))) f.2.1 f.2.2.1).length=f.2.1.length:=by simp_all
 refine⟨?_,?_,?_,g,?_⟩;show(a31 _ _ _).length=(a2A x::f.2.2.1.take (f.2.2.1.length-1)).length;simp_all;show 1≤(a31 _ _ _).length;omega;show(a31 _ _ _).length≤32;omega;intro y h;have h:y∈a31 (b4l (b1y f.1 (a2A x) (a1g f))) f.2.1 f.2.2.1:=h;obtain⟨i,hi,rfl⟩:=List.mem_iff_getElem.1 h
 simp
 exact c3a _
theorem b3y(x:Int):(0<x∧b6e x=1)∨(x<0∧b6e x=-1)∨(x=0∧b6e x=0):=by
 unfold b6e;omega
theorem b7q{r:Int}(h:0≤r∧r≤8):(2:Int)^r.toNat≤256∧1≤(2:Int)^r.toNat:=by
 have:r.toNat=0∨r.toNat=1∨r.toNat=2∨r.toNat=3∨r.toNat=4∨r.toNat=5∨r.toNat=6∨r.toNat=7∨r.toNat=8:=by omega
 rcases this with e|e|e|e|e|e|e|e|e<;>rw[e]<;>decide
theorem c8j{r:Int}(h:0≤r∧r≤8)(g:-1≤x∧x≤1):A0n .i64 x r=x*2^r.toNat:=by
 have hp:=b7q h;have hb:min r.toNat 64=r.toNat:=by omega
 unfold A0n;show wrap .i64 (x*2^(min r.toNat 64))=_;rw[hb]
 have:x=-1∨x=0∨x=1:=by omega
 rcases this with rfl|rfl|rfl
 all_goals grind[a0B]
theorem c1T{f:Fil}(a:FilOk f)(x:Int):
  (bif decide (a2A x > a1g f)then bif decide (f.1<0)then(none:Option (Int×Int×Fil×Unit))else some (a2A x,A0n .i64 (1:Int) f.1,f,())
   else bif decide (a2A x<a1g f)then bif decide (f.1<0)then none else some (a2A x,wrap .i64 (0-(A0n .i64 (1:Int) f.1)),f,())
   else some (a2A x,(0:Int),f,()))=some (a2A x,b1y f.1 (a2A x) (a1g f),f,()):=by
 have d:¬ f.1<0:=by have:=a.rate;omega
 have hp:=b7q a.rate;have b:=c8j a.rate (x:=1) (by omega);rw[Int.one_mul]at b;rcases b3y (a2A x-a1g f)with⟨c,h⟩|⟨c,h⟩|⟨c,h⟩;have g:a2A x > a1g f:=by omega
 simp only[g,d,decide_true,decide_false,cT,cF,b1y,h,Int.one_mul,b];have g:¬ a2A x > a1g f:=by omega
 have k:a2A x<a1g f:=by omega
 simp only[g,k,d,decide_true,decide_false,cT,cF,b1y,h,b]
 grind[a0B]
 have g:¬ a2A x > a1g f:=by omega
 have k:¬ a2A x<a1g f:=by omega
 simp only[g,k,decide_false,cF,b1y,h,Int.zero_mul]
theorem c9F{z:List Int}(hi:i<l.length)(f:z.length=l.length):(z.take i++l.drop i).set i (z[i]'(by omega))=z.take (i+1)++l.drop (i+1):=by
 have h:(z.take i).length=i:=by grind
 have g:z.take (i+1)=z.take i++[z[i]'(by omega)]:=by simp
 rw[a73 _ _ (by omega),h,a56,a02 hi,a60,g,aA];rfl
theorem c9G{z:List Int}(hi:i<l.length)(h:z.length=l.length):a87 (z.take i++l.drop i) i 0=l[i]:=by
 grind
theorem c8k{f:Fil}(g:FilOk f)(h:i<f.2.1.length):-1048576≤f.2.1[i]∧f.2.1[i]≤1048576:=g.small _ (a05 h)
theorem b8f{f:Fil}(n:FilOk f){x1 st:Int}(t:-256≤st∧st≤256):
  y0s a2y (x1,st,(f.2.2.1.length:Int),(0:Int),f,())=some (x1,(f.1,a31 (b4l st) f.2.1 f.2.2.1,f.2.2),()):=by
 obtain⟨z,v⟩:∃z,a31 (b4l st) f.2.1 f.2.2.1=z:=⟨_,rfl⟩;have p:=n.len;have d:z.length=f.2.1.length:=by grind
 have u:=n.most
 have:=a1C (f:=a2y) (fun i=>(x1,st,(f.2.2.1.length:Int),(i:Int),(f.1,z.take i++f.2.1.drop i,f.2.2),()))
  f.2.2.1.length (b:=(x1,(f.1,z,f.2.2),())) (fun i hi=>by
   have k:i<f.2.1.length:=by omega
   have j:decide ((0:Int)≤(i:Int))=true:=by simp
   have r:(z.take i++f.2.1.drop i).length=f.2.1.length:=by grind
   have g:decide ((i:Int)<((z.take i++f.2.1.drop i).length:Int))=true:=by simp_all
   have o:z[i]'(by omega)=b4l st f.2.1[i] f.2.2.1[i]:=by grind
   have s:=c8k n k;have h:=c9F k d;rw[o]at h;simp only[a2y,dlt hi,j,g,cT,a03,tN,b7p hi,c9G k d];rcases b3y f.2.2.1[i]with⟨m,a⟩|⟨m,a⟩|⟨m,a⟩;have c:f.2.2.1[i] > 0:=m;simp[b4l,a]at h;simp only[c,decide_true,cT,oB,j,g,a03,tN,a0C (show i<1000000 by omega)];exact congrArg (fun l=>some (Sum.inl (x1,st,(f.2.2.1.length:Int),((i+1:Nat):Int),(f.1,l,f.2.2),()))) h;have c:¬ f.2.2.1[i] > 0:=by omega
   have e:f.2.1[i]+-1*st=f.2.1[i]-st:=by omega
   simp only[b4l,a,e]at h;simp only[c,m,decide_true,decide_false,cT,cF,oB,j,g,a03,tN,a0C (show i<1000000 by omega)];exact congrArg (fun l=>some (Sum.inl (x1,st,(f.2.2.1.length:Int),((i+1:Nat):Int),(f.1,l,f.2.2),()))) h;have c:¬ f.2.2.1[i] > 0:=by omega
   have q:¬ f.2.2.1[i]<0:=by omega
   have e:W (f.2.1[i]+0*st)=f.2.1[i]:=by rw[Int.zero_mul,Int.add_zero];exact a0B (by omega)
   simp only[b4l,a,e]at h;simp only[c,q,decide_false,cF,oB,j,g,cT,a03,tN,a0C (show i<1000000 by omega)];exact congrArg (fun l=>some (Sum.inl (x1,st,(f.2.2.1.length:Int),((i+1:Nat):Int),(f.1,l,f.2.2),()))) h)
  (by
   simp_all[a48,a2y])
 simp_all
theorem c5d{f:Fil}(k:FilOk f)(x g:Int):-256≤b1y f.1 x g∧b1y f.1 x g≤256:=by
 have hp:=b7q k.rate;unfold b1y;rcases b3y (x-g)with⟨-,h⟩|⟨-,h⟩|⟨-,h⟩<;>rw[h]<;>omega
theorem b5b{f:Fil}(h:FilOk f)(x:Int):a3i (f,x)=some (b2h f x):=by
 unfold a3i;have d:=c1T h x;simp only[a5t,oB,a6s h];have g:(bif decide (v0s (v0r x (-1073741824)) 1073741823 > a1g f)then bif decide (f.1<0)then(none:Option (Int×Int×Fil×Unit))else some (v0s (v0r x (-1073741824)) 1073741823,A0n .i64 (1:Int) f.1,f,())
   else bif decide (v0s (v0r x (-1073741824)) 1073741823<a1g f)then bif decide (f.1<0)then none else some (v0s (v0r x (-1073741824)) 1073741823,wrap .i64 (0-(A0n .i64 (1:Int) f.1)),f,())
   else some (v0s (v0r x (-1073741824)) 1073741823,(0:Int),f,()))=_:=d
 rw[g];simp only[oB,b8f h (c5d h _ _)];have i:f.2.2.1.length≥1:=by have:=h.pos;have:=h.len;omega
 have b:decide ((1:Int)≤((f.2.2.1.length:Nat):Int))=true:=by grind
 have e:p0h f.2.2.1 1 (f.2.2.1.length-1) f.2.2.1=f.2.2.1.take 1++f.2.2.1.take (f.2.2.1.length-1):=by
  simp_all[p0h]
 have j:(f.2.2.1.take 1++f.2.2.1.take (f.2.2.1.length-1)).length=f.2.2.1.length:=by simp_all
 have c:decide ((0:Int)<(((f.2.2.1.take 1++f.2.2.1.take (f.2.2.1.length-1)).length:Nat):Int))=true:=by grind
 simp only[b,cT,e,c];congr 1;have k:(f.2.2.1.take 1++f.2.2.1.take (f.2.2.1.length-1)).set 0 (a2A x)=a2A x::f.2.2.1.take (f.2.2.1.length-1):=by
  cases hc:f.2.2.1 with
  |nil=>simp_all
  |cons a l=>simp
 rw[k];rfl
@[reducible] def Stg:Type:=Int×(Int×Unit)
variable {st:List Stg}
theorem a8f{l:List Int}(h:short l):a1e l=some l:=by
 have g:lim (0+l.length)=true:=a0U (by unfold short at h;omega);simp_all[a1e,x0e]
def b0T(s:Stg):Fil:=(s.2.1,a00 s.1.toNat 0,a00 s.1.toNat 0,())
theorem c5F{s:Stg}(h:stageB s=true):FilOk (b0T s):=by
 simp[stageB]at h;refine⟨by rfl,by simp[b0T];omega,by simp[b0T];omega,⟨h.2.2.1,h.2.2.2⟩,fun x g=>?_⟩;simp_all[b0T]
theorem b2F{s:Stg}(h:stageB s=true):a9b s=some (b0T s,0):=by
 have g:=h;simp[stageB]at g;unfold a9b;have f:decide ((0:Int)≤s.1)=true:=by grind
 have k:decide (s.1≤s.1)=true:=by simp
 have a:lim s.1.toNat=true:=a0U (by omega);simp only[b0R,h,oB,bT,cF,f,k,a,a03,cT];rfl
def stO:List Int→List Int→Fil→Option (List Int)
 | [],done,_=>some done
 |r::rs,done,f=>bif a0A (W (a1g f+r))then stO rs (done++[W (a1g f+r)]) (b2h f (W (a1g f+r)))else none
theorem b4m:∀(l done:List Int)(f:Fil){r},stO l done f=some r→r.length=done.length+l.length
 | [],done,f,r,h=>by simp_all[stO]
 |x::l,done,f,r,h=>by
  simp[stO]at h;cases hw:a0A (W (a1g f+x))with
  |true=>rw[hw]at h;rw[b4m l _ _ h];grind
  |false=>simp_all
theorem b3e{done:List Int}(g:done.length=i)(h:i<row.length):a87 (done++row.drop i) i 0=row[i]:=by
 grind
theorem c3c{done:List Int}(g:done.length=i)(h:i<row.length)(y:Int):(done++row.drop i).set i y=(done++[y])++row.drop (i+1):=by
 rw[a73 _ _ (by omega),g,a56,a02 h,a60,aA];rfl
theorem b3f{row b4:List Int}{b5:Int}(d:short row):∀(k i:Nat)(done:List Int)(f:Fil),i+k=row.length→done.length=i→FilOk f→
  ∃z,y0s a5u ((row.length:Int),(i:Int),b4,b5,done++row.drop i,f,())=some z∧
   match stO (row.drop i) done f with
   |some r=>z=.inl (b4,b5,r,())
   |none=>∃q,z=.inr (([]:List Int),(6:Int),q,())
 |0,i,done,f,h,hd,hf=>by
  obtain rfl:i=row.length:=by omega
  rw[a50,a40];exact⟨_,a0F (b:=Sum.inl (b4,b5,done,())) (by simp[a5u]),rfl⟩
 |k+1,i,done,f,h,hd,hf=>by
  have hi:i<row.length:=by omega
  have e:row.length<1000000:=d;have a:decide ((0:Int)≤(i:Int))=true:=by simp
  have j:(done++row.drop i).length=row.length:=by grind
  have c:decide ((i:Int)<(((done++row.drop i).length:Nat):Int))=true:=by simp_all
  have g:stO (row.drop i) done f=bif a0A (W (a1g f+row[i]))then stO (row.drop (i+1)) (done++[W (a1g f+row[i])]) (b2h f (W (a1g f+row[i])))else none:=by
   rw[a02 hi];rfl
  rw[g];cases hw:a0A (W (a1g f+row[i]))with
  |true=>
   rw[a0E (s':=((row.length:Int),((i+1:Nat):Int),b4,b5,(done++[W (a1g f+row[i])])++row.drop (i+1),b2h f (W (a1g f+row[i])),())) (by
    simp only[a5u,dlt hi,a,c,cT,a03,a6s hf,oB,tN,b3e hd hi,a5l,hw,bT,cF,b5b hf,c3c hd hi,a0C (show i<1000000 by omega)])]
   exact b3f d k (i+1) _ _ (by omega) (by simp_all) (c3b hf _)
  |false=>
   exact⟨_,a0F (b:=Sum.inr (([]:List Int),(6:Int),done++row.drop i,())) (by
    simp only[a5u,dlt hi,a,c,cT,a03,a6s hf,oB,tN,b3e hd hi,a5l,hw,a36]),_,rfl⟩
def lO:List Stg→List Int→Option (List Int)
 | [],row=>some row
 |s::r,row=>match stO row [] (b0T s)with
  |some row'=>lO r row'
  |none=>none
theorem c5e{s:Stg}{b4:List Int}(h:stageB s=true)(b:short row):
  ∃z,a7H k s (st,b4,(0:Int),row,())=some z∧match stO row [] (b0T s)with
   |some r=>z=.inl (st,b4,(0:Int),r,())
   |none=>∃q,z=.inr (.ret,st,([]:List Int),(6:Int),q,()):=by
 obtain⟨z,g,f⟩:=b3f (b4:=b4) (b5:=0) b row.length 0 [] (b0T s) (by omega) rfl (c5F h);simp at g f;unfold a7H;have a:((0:Int) != 0)=false:=rfl;simp[b2F h,g];cases hst:stO row [] (b0T s)with
 |some r=>
  simp_all
 |none=>
  grind
theorem b6G{st l:List Stg}{b4:List Int}(f:∀s∈l,stageB s=true):∀(n:Nat)(row:List Int),n≤l.length→short row→
  ∃z,l0f a7H l n (st,b4,(0:Int),row,())=some z∧match lO (l.take n).reverse row with
   |some r=>z=.inl (st,b4,(0:Int),r,())
   |none=>∃q,z=.inr (.ret,st,([]:List Int),(6:Int),q,())
 |0,row,_,_=>⟨_,rfl,rfl⟩
 |n+1,row,hn,hs=>by
  have h:n<l.length:=by omega
  obtain⟨z,a,g⟩:=c5e (st:=st) (k:=(n:Int)) (b4:=b4) (f _ (a05 h)) hs;have b:(l.take (n+1)).reverse=l[n]::(l.take n).reverse:=by simp
  simp[l0f,lG h,a,b,lO];cases hst:stO row [] (b0T l[n])with
  |some r=>
   rw[hst]at g;simp at g;subst g;exact b6G f n r (by omega) (by have:=b4m _ _ _ hst;unfold short at hs⊢;simp_all)
  |none=>
   grind
def b1K(rest:List Int)(st:List Stg):Option (List Int):=bif rest.all a0A then lO st.reverse rest else none
theorem c1U{rest:List Int}(a:a9j st=true)(c:rest.length<100000):a9Q (rest,st)=some (a5f (b1K rest st)):=by
 have f:=a;simp only[a9j,bA,dT]at f;have k:short st:=by unfold short;omega
 have h:short rest:=by unfold short;omega
 unfold a9Q;simp only[b2C k,a,oB,bT,cF,b2B h,b1K];cases hw:rest.all a0A with
 |false=>rfl
 |true=>
  obtain⟨z,b,g⟩:=b6G (st:=st) (b4:=[]) (lA.1 f.2) st.length rest (a27 _) h;rw[a19]at g;simp[a8f h,a0U k,b];cases hst:lO st.reverse rest with
  |some r=>
   rw[hst]at g;simp at g;subst g;rfl
  |none=>
   rw[hst]at g;obtain⟨q,rfl⟩:=g;rfl
def a6t(n warm:Int):Bool:=decide (1≤n)&&(decide (n≤4096)&&(decide (0≤warm)&&decide (warm≤n)))
theorem b2G(n warm:Int):a7r (n,warm)=some (a6t n warm):=by
 grind[a7r,a6t]
theorem d3C(h:o≤8):1≤2^o∧2^o≤256:=by
 have:o=0∨o=1∨o=2∨o=3∨o=4∨o=5∨o=6∨o=7∨o=8:=by omega
 grind
theorem c3d(h:o≤64):A0o .i64 (N:Int) (o:Int)=((N / 2^o:Nat):Int):=by
 unfold A0o;show a80 (N:Int) (2^(min (o:Int).toNat 64))=_
 grind
theorem b7r(h:o≤64)(g:N*2^o<9223372036854775808):A0n .i64 (N:Int) (o:Int)=((N*2^o:Nat):Int):=by
 unfold A0n;show wrap .i64 ((N:Int)*2^(min (o:Int).toNat 64))=_
 grind[a0B]
def b3L(o N:Nat)(warm:Int):List Int:=
 if N%2^o=0∧warm≤((N / 2^o:Nat):Int)then(((N / 2^o:Nat):Int)-warm)::a00 (2^o-1) ((N / 2^o:Nat):Int)else[]
def a1Q(order n warm:Int):List Int:=bif a6t n warm&&(decide (0≤order)&&decide (order≤8))then b3L order.toNat n.toNat warm else[]
theorem a2h(order n warm:Int):a3c (order,n,warm)=some (a1Q order n warm):=by
 unfold a3c a1Q;simp only[b2G,oB];cases hr:a6t n warm with
 |false=>rfl
 |true=>
  simp[a6t]at hr;simp only[bT,cF,a39]
  by_cases h1:order<0
  grind
  by_cases h2:order > 8
  grind
  obtain⟨o,rfl⟩:=a01 (show 0≤order by omega);obtain⟨N,rfl⟩:=a01 (show 0≤n by omega);have p:o≤8:=by omega
  have q:N≤4096:=by omega
  have hp:=d3C p;have m:N / 2^o*2^o≤N:=a78 N _;have l:(0:Int)≤(o:Int):=by omega
  have g8:(o:Int)≤8:=by omega
  simp only[h1,h2,l,g8,decide_true,decide_false,cF,cT,a03,oB,c3d (N:=N) (show o≤64 by omega),b7r (N:=N / 2^o) (show o≤64 by omega) (by omega),tN];have g:=a70 N (2^o);rw[a57]at g
  by_cases hm:N%2^o=0
  have k:(((N / 2^o*2^o:Nat):Int) != (N:Int))=false:=by simp_all
  by_cases hw:warm≤((N / 2^o:Nat):Int)
  have c:decide (((N / 2^o:Nat):Int)<warm)=false:=decide_eq_false (Int.not_lt.2 hw);have e:wrap .i64 (((N / 2^o:Nat):Int)-warm)=((N / 2^o:Nat):Int)-warm:=a0B (by have:=a32 N (2^o);omega);simp only[k,c,e,cF,oB,b3L,hm,hw,and_self,if_true];have d:A0n .i64 (1:Int) (o:Int)=((2^o:Nat):Int):=by have:=b7r (N:=1) (show o≤64 by omega) (by omega);simp_all
  have:=a1C (f:=a6D) (fun i=>((o:Int),((N / 2^o:Nat):Int),(((N / 2^o:Nat):Int)-warm)::a00 i ((N / 2^o:Nat):Int),())) (2^o-1)
   (b:=((((N / 2^o:Nat):Int)-warm)::a00 (2^o-1) ((N / 2^o:Nat):Int),())) (fun i hi=>by
    have a:decide ((((((N / 2^o:Nat):Int)-warm)::a00 i ((N / 2^o:Nat):Int)).length:Int)<((2^o:Nat):Int))=true:=by
     grind
    have h:lim (((((N / 2^o:Nat):Int)-warm)::a00 i ((N / 2^o:Nat):Int)).length+1)=true:=a0U (by grind);have j:a00 i ((N / 2^o:Nat):Int)++[((N / 2^o:Nat):Int)]=a00 (i+1) ((N / 2^o:Nat):Int):=by grind[a53]
    simp only[a6D,h1,decide_false,cF,d,a,cT,h,a06,a65,j])
   (by
    have a:decide ((((((N / 2^o:Nat):Int)-warm)::a00 (2^o-1) ((N / 2^o:Nat):Int)).length:Int)<((2^o:Nat):Int))=false:=by
     simp_all
    simp only[a6D,h1,decide_false,cF,d,a])
  simp_all;have c:decide (((N / 2^o:Nat):Int)<warm)=true:=decide_eq_true (Int.not_le.1 hw);simp_all[b3L];have k:(((N / 2^o*2^o:Nat):Int) != (N:Int))=true:=by grind
  simp only[k,cT,oB,b3L,hm,false_and,if_false]
@[reducible] def Prt:Type:=Int×((List Int)×Unit)
variable {p:Prt}
def kB(k:Int):Bool:=(decide (0≤k)&&decide (k≤25)) || (k==31)
def a5G(p:Prt)(n warm:Int):Bool:=!((a1Q p.1 n warm).length==0)&&((a1Q p.1 n warm).length==p.2.1.length&&p.2.1.all kB)
theorem b2H(g:short p.2.1):a9a (p,n,warm)=some (a5G p n warm):=by
 have:=a2q (f:=a4w) p.2.1 (fun i=>(p.2.1,(p.2.1.length:Int),(i:Int),())) kB (bt:=Sum.inl ()) (bf:=Sum.inr (false,()))
  (fun i h hp=>by
   simp[kB]at hp
   by_cases h1:p.2.1[i]<0
   omega
   by_cases h2:p.2.1[i] > 25
   have b:p.2.1[i]=31:=by omega
   have a:(p.2.1[i] != 31)=false:=by simp_all
   simp[a4w,a0D h,h,h1,h2,a,a0C (a18 h g)];simp[a4w,a0D h,h,h1,h2,a0C (a18 h g)])
  (fun i h hp=>by
   have hp:¬ (kB p.2.1[i]=true):=by simp_all
   simp only[kB,a98,bA,dT,beq_iff_eq]at hp
   grind[a4w,a0D])
  (by simp[a4w])
 simp at this;unfold a9a a5G;simp[a2h]
 by_cases h0:(a1Q p.1 n warm).length=0
 simp_all
 ·have e:((((a1Q p.1 n warm).length:Nat):Int)==0)=false:=by simp_all
  have k:((a1Q p.1 n warm).length==0)=false:=by simp_all
  simp[e,k]
  by_cases h1:(a1Q p.1 n warm).length=p.2.1.length
  all_goals grind
@[reducible] def Sub:Type:=Int×(Int×(Int×(Int×(Int×((List Int)×((List Int)×((List Stg)×((List Int)×(Prt×((List Int)×Unit))))))))))
variable {s:Sub}
structure SmallS (s:Sub):Prop where
 coefs:s.2.2.2.2.2.1.length≤40
 taps:s.2.2.2.2.2.2.1.length=3
 stages:s.2.2.2.2.2.2.2.1.length≤6
 warm:s.2.2.2.2.2.2.2.2.1.length≤5000
 rest:s.2.2.2.2.2.2.2.2.2.2.1.length≤5000
 ks:s.2.2.2.2.2.2.2.2.2.1.2.1.length≤300
theorem b2I(x y:List Int):eqT (.arr 3 (.int .i64)) x y=decide (x=y):=by
 show((a31 (fun(a b:Int)=>a==b) x y).all id&&x.length==y.length)=_
 induction x generalizing y with
 |nil=>cases y<;>simp
 |cons a x ih=>
  cases y with
  |nil=>simp
  |cons b y=>
   grind[List.zipWith_cons_cons]
theorem b2i{l:List Int}(h:short l):a2D l=some l:=a8f h
theorem b6H{l:List Stg}(h:short l):a1n l=some l:=by
 have g:lim (0+l.length)=true:=a0U (by unfold short at h;omega);simp_all[a1n,x0e]
def a3X(k:Int)(s:Sub)(n:Int):Prop:=
 k=0∨k=1∨(k=2∧0≤s.2.2.1∧s.2.2.1≤4∧s.2.2.1≤n)∨(k=3∧a9z s.2.2.2.2.2.1 s.2.2.2.1=true∧(s.2.2.2.2.2.1.length:Int)≤n)∨
  (k=4∧a9z s.2.2.2.2.2.1 s.2.2.2.1=true∧(s.2.2.2.2.2.1.length:Int)≤n∧b1x s.2.2.2.2.1 s.2.2.2.2.2.2.1=true)∨
  (k=5∧0<s.2.2.2.2.2.2.2.1.length∧a9j s.2.2.2.2.2.2.2.1=true)
open Classical in
def b2J (k:Int) (s:Sub) (n:Int):Bool:=decide (a3X k s n)
theorem b3M{s:Sub}(h:SmallS s)(k n:Int):a7U (k,s,n)=some (b2J k s n):=by
 have a:short s.2.2.2.2.2.1:=by have:=h.coefs;unfold short;omega
 have b:short s.2.2.2.2.2.2.2.1:=by have:=h.stages;unfold short;omega
 unfold a7U b2J a3X
 by_cases k0:k=0
 simp_all
 by_cases k1:k=1
 simp_all;have g:(k==0)=false:=by grind
 have f:(k==1)=false:=by grind
 simp only[g,f,cF,oB]
 by_cases k2:k=2
 subst k2
 grind
 by_cases k3:k=3
 subst k3
 grind[a9t]
 by_cases k4:k=4
 subst k4;cases hl:a9z s.2.2.2.2.2.1 s.2.2.2.1<;>by_cases h2:(s.2.2.2.2.2.1.length:Int)≤n<;>simp[a9t a,b3x h.taps,hl,h2]
 by_cases k5:k=5
 ·subst k5
  by_cases h1:0<s.2.2.2.2.2.2.2.1.length
  all_goals simp_all[b2C]
 grind
def a2t(s:Sub)(n:Int):Int:=if s.1=0 then 1 else if s.1=1 then n else if s.1=2 then s.2.2.1 else if s.1=3∨s.1=4 then(s.2.2.2.2.2.1.length:Int)else 0
theorem b1L(s:Sub)(n:Int):a4H (s,n)=some (a2t s n):=by
 grind[a4H,a2t]
def b3N(s:Sub):Prop:=
 (s.1≠2→s.2.2.1=0)∧(s.1≠3∧s.1≠4→s.2.2.2.1=0)∧(s.1≠4→s.2.2.2.2.1=0)∧(s.1≠4→s.2.2.2.2.2.2.1=[0,0,0])∧(s.1≠3∧s.1≠4→s.2.2.2.2.2.1=[])∧(s.1≠5→s.2.2.2.2.2.2.2.1=[])
open Classical in
def b3O (s:Sub):Bool:=decide (b3N s)
theorem b0U{c x:Bool}:(bif c then some x else some false)=some (c&&x):=by grind
theorem d3D{α:Type}(l:List α):(((l.length:Nat):Int)==0)=decide (l=[]):=by
 cases l with
 |nil=>rfl
 |cons a l=>rfl
theorem b9H(x:Int):(x==0)=decide (x=0):=rfl
theorem c3e{s:Sub}(h:SmallS s):b1i s=some (b3O s):=by
 have e:short s.2.2.2.2.2.1:=by have:=h.coefs;unfold short;omega
 have g:short s.2.2.2.2.2.2.2.1:=by have:=h.stages;unfold short;omega
 obtain⟨k,w,o,sh,lag,c,t,st,j,p,r,u⟩:=s;simp only at e g;unfold b1i a6g b3O b3N;have i:(a00 3 (0:Int))=[0,0,0]:=rfl
 by_cases k2:k=2
 simp_all[b2I,b0U,b9H]
 by_cases k4:k=4
 simp_all[b2I,b0U,b9H,b2i]
 by_cases k3:k=3
 simp_all[b2I,b0U,b9H,b2i]
 by_cases k5:k=5
 simp_all[b2I,b0U,b9H,b6H];have f:(k==2)=false:=by grind
 have a:(k==3)=false:=by grind
 have b:(k==4)=false:=by grind
 have d:(k==5)=false:=by grind
 simp[f,a,b,d,k2,k3,k4,k5,b2I,i,b0U,d3D,b9H]
theorem a6z(k:Int):a6e k=some (decide (k≠0∧k≠1)):=by
 unfold a6e
 by_cases h0:k=0
 simp_all
 ·by_cases h1:k=1
  all_goals grind
def a1v(s:Sub)(n:Int):Prop:=
 1≤n∧n≤4096∧a3X s.1 s n∧b3N s∧0≤s.2.1∧s.2.1≤30∧(s.1=0→s.2.1=0)∧(s.2.2.2.2.2.2.2.2.1.length:Int)=a2t s n∧s.2.2.2.2.2.2.2.2.1.all a0A=true∧s.2.2.2.2.2.2.2.2.2.2.1.all a0A=true∧
  (s.1=0∨s.1=1→s.2.2.2.2.2.2.2.2.2.2.1=[]∧s.2.2.2.2.2.2.2.2.2.1.1=0∧s.2.2.2.2.2.2.2.2.2.1.2.1=[])∧
  (s.1≠0∧s.1≠1→(s.2.2.2.2.2.2.2.2.2.2.1.length:Int)=n-a2t s n∧a5G s.2.2.2.2.2.2.2.2.2.1 n (a2t s n)=true)
theorem c5f(h:SmallS s)(a:1≤n)(b:n≤4096)(f:a3X s.1 s n):0≤a2t s n∧a2t s n≤4096:=by
 have c:=h.coefs;unfold a2t;rcases f with k|k|⟨k,g⟩|⟨k,g⟩|⟨k,g⟩|⟨k,g⟩<;>simp[k]<;>omega
open Classical in
theorem c8l {s:Sub} (h:SmallS s) (n:Int):a9N (s,n)=some (decide (a1v s n)):=by
 have hw:short s.2.2.2.2.2.2.2.2.1:=by have:=h.warm;unfold short;omega
 have hr:short s.2.2.2.2.2.2.2.2.2.2.1:=by have:=h.rest;unfold short;omega
 have hk:short s.2.2.2.2.2.2.2.2.2.1.2.1:=by have:=h.ks;unfold short;omega
 unfold a9N
 by_cases h1:1≤n
 rotate_left
 ·have e1:decide (n<1)=true:=by simp_all
  have:¬ a1v s n:=fun hp=>h1 hp.1
  simp_all
 have e1:decide (n<1)=false:=by simp_all
 by_cases h2:n≤4096
 rotate_left
 ·have e2:decide (n > 4096)=true:=by simp_all
  have:¬ a1v s n:=fun hp=>h2 hp.2.1
  simp_all
 have e2:decide (n > 4096)=false:=by simp_all
 by_cases h3:a3X s.1 s n
 rotate_left
 ·have e3:b2J s.1 s n=false:=by simp[b2J,h3]
  have:¬ a1v s n:=fun hp=>h3 hp.2.2.1
  simp_all[b3M]
 have e3:b2J s.1 s n=true:=by simp[b2J,h3]
 by_cases h4:b3N s
 rotate_left
 ·have e4:b3O s=false:=by simp[b3O,h4]
  have:¬ a1v s n:=fun hp=>h4 hp.2.2.2.1
  simp_all[b3M,c3e]
 have e4:b3O s=true:=by simp[b3O,h4]
 simp only[e1,e2,b3M h,e3,c3e h,e4,cF,bT,oB]
 by_cases h5:0≤s.2.1
 rotate_left
 ·have e5:decide (s.2.1<0)=true:=by simp_all
  have:¬ a1v s n:=fun hp=>h5 hp.2.2.2.2.1
  simp_all
 have e5:decide (s.2.1<0)=false:=by simp_all
 by_cases h6:s.2.1≤30
 rotate_left
 ·have e6:decide (s.2.1 > 30)=true:=by simp_all
  have:¬ a1v s n:=fun hp=>h6 hp.2.2.2.2.2.1
  simp_all
 have e6:decide (s.2.1 > 30)=false:=by simp_all
 simp only[e5,e6,cF]
 by_cases h7:s.1=0→s.2.1=0
 rotate_left
 ·have h7a:s.1=0:=Classical.byContradiction fun hc=>h7 fun e=>absurd e hc
  have h7b:(s.2.1 != 0)=true:=by
   simp_all
  have e7:(s.1==0)=true:=by simp_all
  have:¬ a1v s n:=fun hp=>h7 hp.2.2.2.2.2.2.1
  grind
 have e7:(bif s.1==0 then some (n,(s.2.1 != 0,(s,())))else some (n,(false,(s,()))))=some (n,(false,(s,()))):=by
  grind
 simp only[e7,oB,cF,b1L]
 by_cases h8:(s.2.2.2.2.2.2.2.2.1.length:Int)=a2t s n
 rotate_left
 ·have e8:(((s.2.2.2.2.2.2.2.2.1.length:Nat):Int) != a2t s n)=true:=by simp_all
  have:¬ a1v s n:=fun hp=>h8 hp.2.2.2.2.2.2.2.1
  grind
 have e8:(((s.2.2.2.2.2.2.2.2.1.length:Nat):Int) != a2t s n)=false:=by simp_all
 simp only[e8,cF,a4D hw,a4D hr,oB]
 cases h9:s.2.2.2.2.2.2.2.2.1.all a0A with
 |false=>
  have:¬ a1v s n:=fun hp=>by rw[hp.2.2.2.2.2.2.2.2.1]at h9;grind
  simp_all
 |true=>
  cases h10:s.2.2.2.2.2.2.2.2.2.2.1.all a0A with
  |false=>
   have:¬ a1v s n:=fun hp=>by rw[hp.2.2.2.2.2.2.2.2.2.1]at h10;grind
   simp_all
  |true=>
   simp only[bT,cF,oB,a6z]
   have hwr:=c5f h h1 h2 h3
   by_cases k01:s.1≠0∧s.1≠1
   ·have e11:wrap .i64 (n-a2t s n)=n-a2t s n:=a0B (by omega)
    simp[k01,e11,b2H hk]
    by_cases h11:(s.2.2.2.2.2.2.2.2.2.2.1.length:Int)=n-a2t s n
    ·have e12:(((s.2.2.2.2.2.2.2.2.2.2.1.length:Nat):Int)==n-a2t s n)=true:=by simp_all
     simp only[e12,cT]
     congr 1
     rw[a99,dT]
     constructor
     ·intro hp
      exact⟨h1,h2,h3,h4,h5,h6,h7,h8,h9,h10,fun hc=>absurd hc (by omega),fun _=>⟨h11,hp⟩⟩
     ·intro hp;exact(hp.2.2.2.2.2.2.2.2.2.2.2 k01).2
    ·have e12:(((s.2.2.2.2.2.2.2.2.2.2.1.length:Nat):Int)==n-a2t s n)=false:=by simp_all
     have:¬ a1v s n:=fun hp=>h11 (hp.2.2.2.2.2.2.2.2.2.2.2 k01).1
     grind
   ·have k01':s.1=0∨s.1=1:=by omega
    simp[k01,d3D]
    simp only[b9H,b0U]
    congr 1
    rw[a99,dT]
    simp
    constructor
    ·rintro⟨g1,g2,g3⟩
     exact⟨h1,h2,h3,h4,h5,h6,h7,h8,h9,h10,fun _=>⟨g1,g2,g3⟩,fun hc=>absurd hc k01⟩
    ·intro hp;exact hp.2.2.2.2.2.2.2.2.2.2.1 k01'
theorem c8m(h:a3X k s n):k=0∨k=1∨k=2∨k=3∨k=4∨k=5:=by
 unfold a3X at h;omega
def b7s(warm rest:List Int)(o:Int):Option (List Int):=bif warm.all a0A&&rest.all a0A then a4l (a6r o.toNat) rest warm else none
def backP(s:Sub):Option (List Int):=
 if s.1=1 then some s.2.2.2.2.2.2.2.2.1
 else if s.1=2 then b7s s.2.2.2.2.2.2.2.2.1 s.2.2.2.2.2.2.2.2.2.2.1 s.2.2.1
 else if s.1=3 then b2D s.2.2.2.2.2.2.2.2.1 s.2.2.2.2.2.2.2.2.2.2.1 s.2.2.2.2.2.1 s.2.2.2.1
 else if s.1=4 then(b2D s.2.2.2.2.2.2.2.2.1 s.2.2.2.2.2.2.2.2.2.2.1 s.2.2.2.2.2.1 s.2.2.2.1).bind fun l=>b3d l s.2.2.2.2.1 s.2.2.2.2.2.2.1
 else b1K s.2.2.2.2.2.2.2.2.2.2.1 s.2.2.2.2.2.2.2.1
def c3f(s:Sub)(n:Int):Option (List Int):=
 if s.1=0 then some (a00 n.toNat (s.2.2.2.2.2.2.2.2.1.getD 0 0))else(backP s).bind (upO s.2.1)
theorem b3z{w r c:List Int}{s:Int}{l}(h:b2D w r c s=some l):l.length=w.length+r.length:=by
 unfold b2D at h;cases hc:(w.all a0A&&r.all a0A)with
 |false=>simp_all
 |true=>
  rw[hc]at h;exact(b2f _ r w l (a76.1 hc).1 h).2
theorem c5g{w r:List Int}{o:Int}{l}(h:b7s w r o=some l):l.length=w.length+r.length:=by
 unfold b7s at h;cases hc:(w.all a0A&&r.all a0A)with
 |false=>simp_all
 |true=>
  rw[hc]at h;exact(b2f _ r w l (a76.1 hc).1 h).2
theorem c3g{l}(h:b3d r lag t=some l):l.length=r.length:=by
 unfold b3d at h;cases hc:r.all a0A with
 |false=>simp_all
 |true=>
  rw[hc]at h
  have:=(b2f _ r [] l rfl h).2
  simp_all
theorem c0F:∀(st:List Stg)(r:List Int){l},lO st r=some l→l.length=r.length
 | [],r,l,h=>by simp_all[lO]
 |s::st,r,l,h=>by
  simp only[lO]at h
  split at h
  rename_i f g;rw[c0F st f h,b4m _ _ _ g];simp;cases h
theorem c1V{r:List Int}{st:List Stg}{l}(h:b1K r st=some l):l.length=r.length:=by
 grind[b1K,c0F]
theorem c3h(h:SmallS s){l}(g:backP s=some l):l.length<100000:=by
 have b:=h.warm;have a:=h.rest;unfold backP at g
 split at g
 grind
 split at g
 grind[c5g]
 split at g
 grind[b3z]
 split at g
 obtain⟨l1,f,k⟩:=a44.1 g;rw[c3g k,b3z f];omega
 grind[c1V]
theorem c8n(a:1≤n)(c:n≤4096)(d:s.2.2.2.2.2.2.2.2.1.length=1):
  y0s a7b (n,(0:Int),([]:List Int),s,())=some (a00 n.toNat (s.2.2.2.2.2.2.2.2.1.getD 0 0),()):=by
 obtain⟨N,rfl⟩:=a01 (show 0≤n by omega);have k:m0k s.2.2.2.2.2.2.2.2.1 (0:Int)=some (s.2.2.2.2.2.2.2.2.1.getD 0 0):=c2X (by omega) (by omega)
 have:=a1C (f:=a7b) (fun i=>((N:Int),(i:Int),a00 i (s.2.2.2.2.2.2.2.2.1.getD 0 0),s,())) N
  (b:=(a00 N (s.2.2.2.2.2.2.2.2.1.getD 0 0),())) (fun i hi=>by
   have h:lim ((a00 i (s.2.2.2.2.2.2.2.2.1.getD 0 0)).length+1)=true:=a0U (by grind);have g:a00 i (s.2.2.2.2.2.2.2.2.1.getD 0 0)++[s.2.2.2.2.2.2.2.2.1.getD 0 0]=a00 (i+1) (s.2.2.2.2.2.2.2.2.1.getD 0 0):=by grind[a53]
   simp only[a7b,dlt hi,cT,k,oB,h,a06,g,a0C (show i<1000000 by omega)])
  (by simp[a7b])
 simp_all
theorem c5h(h:SmallS s)(hp:a1v s n):b1W (s,n)=some (a5f (c3f s n)):=by
 have a:=fun l (d:backP s=some l)=>c3h h d;obtain⟨z,A,C,-,x,v,-,g,K,I,-⟩:=hp;have F:=h.rest;have G:=h.warm;have H:=h.taps;have D:=c8n (s:=s) z A;obtain⟨k,w,o,sh,lag,c,t,st,f,p,r,u⟩:=s;simp only at *;have L:∀l,l.length<100000→a9c (l,w)=some (a5f (upO w l)):=fun l d=>c2Z x v d;unfold b1W c3f;rcases C with b|b|⟨b,j,m,y⟩|⟨b,j,m⟩|⟨b,j,m,y⟩|⟨b,j,m⟩
 grind[a2t,a5f]
 simp_all[backP]
 ·subst b;obtain⟨O,rfl⟩:=a01 j;have m:(O:Int)≤4:=m;simp only[a2t]at g;have q:f.length=O:=by grind
  have i:=c1S (warm:=f) (rest:=r) (o:=O) (by omega) q (by omega);simp only[backP]at a⊢;simp[i];have e:(bif f.all a0A&&r.all a0A then a4l (a6r O) r f else none)=b7s f r (O:Int):=rfl;rw[e];cases d:b7s f r (O:Int)with
  |none=>rfl
  |some l=>simp_all[a5f]
 ·subst b;simp only[a2t]at g;have q:f.length=c.length:=by grind
  have i:=b3K (rest:=r) j q (by omega);simp only[backP]at a⊢;simp[i];cases d:b2D f r c sh with
  |none=>rfl
  |some l=>simp_all[a5f]
 ·subst b;simp only[a2t]at g;have q:f.length=c.length:=by grind
  have i:=b3K (rest:=r) j q (by omega);simp only[backP]at a⊢;simp[i];cases d:b2D f r c sh with
  |none=>rfl
  |some l=>
   have E:=b3z d;have B:=c2Y (rest:=l) y H (by omega);simp[a5f,B]
   grind[a5f]
 ·subst b;have i:=c1U (rest:=r) m (by omega);simp only[backP]at a⊢;simp[i];cases d:b1K r st with
  |none=>rfl
  |some l=>simp_all[a5f]
open Classical in
def a2r (s:Sub) (n:Int):Option (List Int):=if a1v s n then c3f s n else none
theorem b8g(h:SmallS s)(n:Int):b1G (s,n)=some (match a2r s n with|some r=>(r,0)|none=>([],1)):=by
 unfold b1G a2r;simp only[c8l h,oB]
 by_cases hp:a1v s n
 simp[hp,c5h h hp]
 grind[a5f]
 simp_all
theorem b8h(h:SmallS s)(n:Int):a9E (s,n)=some (a2r s n).isSome:=by
 unfold a9E;simp only[b8g h,oB];cases a2r s n<;>rfl
@[reducible] def Wr:Type:=(List Int)×(Int×Unit)
def b9I(w:Wr)(b:Int):Wr:=
 let bs:=if w.2.1%8=0 then w.1++[0]else w.1
 (bs.set (w.2.1 / 8).toNat (bits .u8 .or (bs.getD (w.2.1 / 8).toNat 0) (A0n .u8 b (7-w.2.1%8))),w.2.1+1,())
def wL(L:List Int):Wr:=L.foldl b9I ([],0,())
theorem b9J(L:List Int)(b:Int):wL (L++[b])=b9I (wL L) b:=by simp[wL]
theorem b8i:∀(n:Nat)(L:List Int),L.length=n→(wL L).2.1=L.length∧(wL L).1.length=(L.length+7) / 8
 |0,L,h=>by
  rw[a45.1 h];exact⟨rfl,rfl⟩
 |n+1,L,h=>by
  obtain⟨g,b,rfl⟩:∃g b,L=g++[b]:=by
   rcases a51 L with rfl|⟨g,b,e⟩
   all_goals simp_all
  obtain⟨f,k⟩:=b8i n g (by simp_all);rw[b9J];simp only[b9I,List.length_set,lN,a74,f]
  grind
theorem a5R(L:List Int):(wL L).2.1=L.length∧(wL L).1.length=(L.length+7) / 8:=b8i _ L rfl
theorem b8j{L:List Int}(l:L.length<1000000000)(b:Int):a2p (wL L,b)=some (wL (L++[b])):=by
 obtain⟨g,k⟩:=a5R L;have p:a26 ((L.length:Nat):Int) 8=((L.length:Nat):Int)%8:=a43 (by omega);have m:a54 ((L.length:Nat):Int) 8=((L.length:Nat):Int) / 8:=a61 (by omega);have c:wrap .i64 (((L.length:Nat):Int) / 8)=((L.length:Nat):Int) / 8:=a0B (by omega);have d:wrap .i64 (7-((L.length:Nat):Int)%8)=7-((L.length:Nat):Int)%8:=a0B (by omega);have e:wrap .i64 (((L.length:Nat):Int)+1)=((L.length:Nat):Int)+1:=a0B (by omega);have i:decide ((0:Int)≤((L.length:Nat):Int) / 8)=true:=by rfl
 have j:decide (7-((L.length:Nat):Int)%8<0)=false:=by grind
 rw[b9J];generalize wL L=wr at g k⊢;obtain⟨f,n,u⟩:=wr;have g:n=((L.length:Nat):Int):=g;have k:f.length=(L.length+7) / 8:=k;subst g;unfold a2p b9I
 by_cases h:((L.length:Nat):Int)%8=0
 have hb:(((L.length:Nat):Int)%8==0)=true:=by grind
 have o:lim (f.length+1)=true:=a0T (by omega);have a:decide (((L.length:Nat):Int) / 8<(((f++[0]).length:Nat):Int))=true:=by grind
 simp_all
 grind
def a6Q(v:Int)(i:Nat):Int:=wrap .u8 (bits .u64 .and (A0o .u64 v (i:Int)) 1)
def pb(v:Int):Nat→List Int
 |0=>[]
 |i+1=>a6Q v i::pb v i
theorem b3g(v:Int):∀n,(pb v n).length=n
 |0=>rfl
 |n+1=>by simp[pb,b3g v n]
def a0P(v:Int)(n:Nat)(L:List Int):List Int:=bif A0o .u64 v (n:Int) != 0 then L else L++pb v n
theorem a0W(v:Int)(n:Nat)(L:List Int):L.length≤(a0P v n L).length∧(a0P v n L).length≤L.length+n:=by
 grind[a0P,b3g]
def a8g(v:Int)(n:Nat):Int:=bif A0o .u64 v (n:Int) != 0 then 1 else 0
theorem c3i{v:Int}:∀(n:Nat)(L:List Int),L.length+n<1000000000→y0s a4i (v,(n:Int)-1,wL L,())=some (wL (L++pb v n),())
 |0,L,_=>by simp_all[a0F,a4i,pb]
 |n+1,L,h=>by
  have e:((n+1:Nat):Int)-1=(n:Int):=by omega
  have g:wrap .i64 ((n:Int)-1)=(n:Int)-1:=a0B (by omega);have f:decide ((n:Int)≥0)=true:=by simp
  have k:decide ((n:Int)<0)=false:=by simp
  rw[e,a0E (s':=(v,(n:Int)-1,wL (L++[a6Q v n]),())) (by
   simp only[a4i,f,k,cT,cF,show wrap .u8 (bits .u64 .and (A0o .u64 v (n:Int)) 1)=a6Q v n from rfl,b8j (show L.length<1000000000 by omega),oB,g])]
  rw[c3i n (L++[a6Q v n]) (by simp;omega),pb]
  simp
theorem a3m{v:Int}{n:Nat}(a:n≤63)(k:L.length<999999000):a0H (wL L,v,(n:Int))=some (a8g v n,wL (a0P v n L)):=by
 unfold a0H a8g a0P;have g:decide ((n:Int)<0)=false:=by simp
 have f:decide ((n:Int) > 64)=false:=by grind
 have h:wrap .i64 ((n:Int)-1)=(n:Int)-1:=a0B (by omega);simp[g,f];cases (A0o .u64 v (n:Int) != 0)with
 |true=>rfl
 |false=>simp only[cF,h,c3i n L (by omega),oB]
def unL(n:Nat)(L:List Int):List Int:=L++a00 n 0++[1]
theorem c3j{n:Nat}(c:n≤4096)(a:L.length<999990000):a2x (wL L,(n:Int))=some (0,wL (unL n L)):=by
 unfold a2x unL;have g:decide ((n:Int)<0)=false:=by simp
 have k:decide ((n:Int) > 4096)=false:=by grind
 simp only[g,k,cF,oB]
 have:=a1C (f:=a3w) (fun i=>((n:Int),(i:Int),wL (L++a00 i 0),())) n (b:=(wL (L++a00 n 0),())) (fun i hi=>by
   have h:L++a00 i (0:Int)++[0]=L++a00 (i+1) 0:=by simp_all[a53]
   simp only[a3w,dlt hi,cT,b8j (show(L++a00 i (0:Int)).length<1000000000 by grind),oB,h,a0C (show i<1000000 by omega)])
  (by simp[a3w])
 grind[b8j]
theorem b0G(n:Nat)(L:List Int):(unL n L).length=L.length+n+1:=by simp[unL];rfl
def a0X(x:Int)(n:Nat):Int:=bits .u64 .and (wrap .u64 x) (wrap .u64 ((A0n .u64 1 (n:Int))-1))
def a1I(n:Nat)(l:List Int)(L:List Int):List Int:=l.foldl (fun L x=>a0P (a0X x n) n L) L
theorem a6u(n:Nat):∀(l L:List Int),L.length≤(a1I n l L).length∧(a1I n l L).length≤L.length+n*l.length
 | [],L=>by simp[a1I]
 |x::l,L=>by
  have h:=a0W (a0X x n) n L;have g:=a6u n l (a0P (a0X x n) n L);have e:a1I n (x::l) L=a1I n l (a0P (a0X x n) n L):=rfl;rw[e,lC,a91,a92];omega
theorem b2K{n:Nat}(f:n≤63)(g:L.length<999999000):a2R (wL L,x,(n:Int))=some (wL (a0P (a0X x n) n L)):=by
 unfold a2R;have h:decide ((n:Int)<0)=false:=by simp
 simp only[h,cF,show bits .u64 .and (wrap .u64 x) (wrap .u64 ((A0n .u64 1 (n:Int))-1))=a0X x n from rfl,a3m f g,oB]
def a1h(x w:Int):Bool:=decide (1≤w)&&(decide (w≤31)&&(decide (A0n .i64 (-1) (w-1)≤x)&&decide (x≤wrap .i64 (A0n .i64 1 (w-1)-1))))
theorem a6v(a:w≤32):a2a (x,(w:Int))=some (a1h x w):=by
 unfold a2a a1h b2y b1Q
 by_cases h1:1≤(w:Int)
 by_cases h2:(w:Int)≤31
 have h:decide ((w:Int)<1)=false:=by simp_all
 have g:decide ((w:Int) > 31)=false:=by simp_all
 have e:wrap .i64 ((w:Int)-1)=(w:Int)-1:=a0B (by omega);have f:decide ((w:Int)-1<0)=false:=by simp_all
 have k:decide ((w:Int)≥1)=true:=by simp_all
 simp[h1,h2,h,g,f,e]
 grind
 grind
 grind
theorem c5i(b:w≤32):b1J (x,(w:Int))=some (a1h x w):=by
 unfold b1J a1h b7m b5D
 by_cases h1:1≤(w:Int)
 by_cases h2:(w:Int)≤31
 have f:decide ((w:Int)<1)=false:=by simp_all
 have k:decide ((w:Int) > 31)=false:=by simp_all
 have e:wrap .i64 ((w:Int)-1)=(w:Int)-1:=a0B (by omega);have g:wrap .u64 ((w:Int)-1)=(w:Int)-1:=a0M (by omega);have a:decide ((w:Int)-1<0)=false:=by simp_all
 have h:decide ((w:Int)≥1)=true:=by simp_all
 simp only[h,h1,h2,f,k,a,e,g,decide_true,cT,cF,oB,a39]
 grind
 grind
 grind
def a1R(x:Int):Nat→Nat→Nat
 |0,w=>w
 |k+1,w=>bif (x != 0)&&!a1h x w then a1R x k (w+1)else w
theorem b7t(x:Int):∀(k w:Nat),a1R x k w≤w+k
 |0,w=>a27 _
 |k+1,w=>by
  simp[a1R];cases (x != 0)&&!a1h x w with
  |true=>have:=b7t x k (w+1);grind
  |false=>simp
def a0J(l:List Int):Nat:=l.foldl (fun w x=>a1R x (32-w) w) 0
theorem b5c:∀(l:List Int)(w:Nat),w≤32→l.foldl (fun w x=>a1R x (32-w) w) w≤32
 | [],w,h=>h
 |x::l,w,h=>b5c l _ (show a1R x (32-w) w≤32 by grind[b7t])
theorem a6A(l:List Int):a0J l≤32:=b5c l 0 (by omega)
theorem c0G{x:Int}{l:List Int}{n i:Int}:∀(k w:Nat),w+k=32→y0s a2X ((w:Int),x,l,n,i,())=some (((a1R x k w:Nat):Int),l,n,i,())
 |0,w,h=>by
  obtain rfl:w=32:=by omega
  simp_all[a0F,a2X,a1R]
 |k+1,w,h=>by
  have g:decide ((w:Int)<32)=true:=by grind
  simp[a1R];cases hx:(x != 0)with
  |false=>simp_all[a0F,a2X]
  |true=>
   cases hf:a1h x w with
   |true=>exact a0F (by simp only[a2X,hx,g,a6v (show w≤32 by omega),hf,oB,cT,cF,bT,Bool.and_false])
   |false=>
    rw[a0E (s':=(((w+1:Nat):Int),x,l,n,i,())) (by simp only[a2X,hx,g,a6v (show w≤32 by omega),hf,oB,cT,a36,a0C (show w<1000000 by omega)])];exact c0G k (w+1) (by omega)
theorem a2u(k:short l):a1u l=some ((a0J l:Nat):Int):=by
 have k:l.length<1000000:=k
 have:=a1M (f:=a5W) l (fun i (w:Nat)=>((w:Int),l,(l.length:Int),(i:Int),())) (fun w x=>(.inl (a1R x (32-w) w):Nat ⊕ (Int×Unit))) (fun _ w=>w≤32) (fun w=>((w:Int),()))
  (fun i h w d=>⟨fun c g=>by
   simp at g;subst g;refine⟨?_,by grind[b7t]⟩;simp only[a5W,dlt h,cT,a0D h,oB,c0G (32-w) w (by omega),a0C (show i<1000000 by omega)],fun b hb=>(by grind)⟩)
  (fun w _=>by simp[a5W]) (a:=0) (by omega)
 simp at this;unfold a1u;rw[this];have key:∀(l:List Int)(w:Nat),a2U (fun w x=>(.inl (a1R x (32-w) w):Nat ⊕ (Int×Unit))) l w=.inl (l.foldl (fun w x=>a1R x (32-w) w) w):=by
  intro l
  induction l with
  |nil=>intro w;rfl
  |cons x l ih=>simp_all[a2U]
 rw[key];rfl
theorem b0H(x:Int):a7w x=some (a0A x):=by
 grind[a7w,a0A]
def a0R(x:Int):Nat:=if 0≤x then(2*x).toNat else(-2*x-1).toNat
theorem a9A(h:a0A x=true):a0R x<2147483648:=by
 grind[a1N,a0R]
theorem b0I(h:a0A x=true):a9f x=some ((a0R x:Nat):Int):=by
 have f:=a1N.1 h;unfold a9f a0R;simp only[b0H,h,oB,bT,cF]
 by_cases h0:0≤x
 have g:decide (x≥0)=true:=by simp_all
 simp only[g,cT,if_pos h0]
 grind[a0B,a0M]
 have g:decide (x≥0)=false:=by simp_all
 simp only[g,cF,if_neg h0]
 grind[a0B,a0M]
theorem a6B{N o:Nat}(h:o≤64):A0o .u64 (N:Int) (o:Int)=((N / 2^o:Nat):Int):=c3d h
theorem b1M(h:o≤64)(g:N*2^o<9223372036854775808):A0n .u64 (N:Int) (o:Int)=((N*2^o:Nat):Int):=by
 unfold A0n;show wrap .u64 ((N:Int)*2^(min (o:Int).toNat 64))=_
 grind[a0M]
theorem c3k{y k:Nat}(c:y<18446744073709551616)(f:k≤62):bits .u64 .and (y:Int) (wrap .u64 (A0n .u64 1 (k:Int)-1))=((y%2^k:Nat):Int):=by
 have hp:2^k≤2^62:=a08 (by simp) f;have a:1≤2^k:=a81;have b:(2:Nat)^62=4611686018427387904:=by rfl
 have h:A0n .u64 1 (k:Int)=((2^k:Nat):Int):=by have:=b1M (N:=1) (o:=k) (by omega) (by omega);simp_all
 have g:wrap .u64 (((2^k:Nat):Int)-1)=((2^k-1:Nat):Int):=by grind[a0M]
 rw[h,g];show wrap .u64 (((a04 64 (y:Int)) &&& (a04 64 ((2^k-1:Nat):Int))).toNat:Int)=_;rw[a24,a24,a93,a29,a29,a23 c,a23 (by omega),Nat.and_two_pow_sub_one_eq_mod]
 have:y%2^k<2^k:=a41 _ (by omega)
 exact a0M (by omega)
theorem b2L{q:Nat}(h:q<2147483648):wrap .i64 (q:Int)=(q:Int):=a0B (by omega)
def a6R(k:Nat)(x:Int)(L:List Int):List Int:=
 if a0R x / 2^k<32 then a0P ((a0R x%2^k:Nat):Int) k (unL (a0R x / 2^k) L)else a0P ((a0R x:Nat):Int) 32 (unL 32 L)
def a4Q(k:Nat)(l:List Int)(L:List Int):List Int:=l.foldl (fun L x=>a6R k x L) L
theorem b5G{k:Nat}(h:k≤25)(x:Int)(L:List Int):L.length≤(a6R k x L).length∧(a6R k x L).length≤L.length+100:=by
 grind[a6R,a0W,b0G]
theorem b5d{k:Nat}(h:k≤25):∀(l L:List Int),L.length≤(a4Q k l L).length∧(a4Q k l L).length≤L.length+100*l.length
 | [],L=>by simp[a4Q]
 |x::l,L=>by
  have g:=b5G h x L;have f:=b5d h l (a6R k x L);have e:a4Q k (x::l) L=a4Q k l (a6R k x L):=rfl
  grind
theorem a8X{k:Nat}(h:k≤25):a1X (k:Int)=some true:=by
 unfold a1X
 grind
theorem c5j{k:Nat}(w:k≤25)(C:l.length<10000)(s:l.all a0A=true)(B:L.length<900000000):b2b (wL L,(k:Int),l)=some (0,wL (a4Q k l L)):=by
 have z:=a2q (f:=a9s) l (fun i=>((k:Int),l,l,(l.length:Int),(i:Int),wL L,())) (fun _=>true) (bt:=Sum.inl ((k:Int),l,wL L,())) (bf:=Sum.inl ((k:Int),l,wL L,()))
  (fun i h _=>by
   have:=lA.1 s _ (a05 h)
   simp only[a9s,dlt h,cT,a0D h,oB,b0H,this,bT,cF,a0C (show i<1000000 by omega)])
  (fun i h hp=>by simp_all) (by simp[a9s])
 have key:∀(j i:Nat)(g:List Int),i+j=l.length→g.length+100*j<999990000→y0s a7j ((k:Int),l,(l.length:Int),(i:Int),wL g,())=some (wL (a4Q k (l.drop i) g),()):=by
  intro j
  induction j with
  |zero=>
   intro i g hi _;obtain rfl:i=l.length:=by omega
   simp_all[a0F,a7j,a4Q]
  |succ j ih=>
   intro i g hi hb;have a:i<l.length:=by omega
   have c:=lA.1 s _ (a05 a);have y:=a9A c;have x:=b5G w l[i] g;have e:decide ((k:Int)<0)=false:=by simp
   have p:A0o .u64 ((a0R l[i]:Nat):Int) (k:Int)=((a0R l[i] / 2^k:Nat):Int):=a6B (by omega);have o:=a32 (a0R l[i]) (2^k);have q:=a70 (a0R l[i]) (2^k);have d:A0n .u64 ((a0R l[i] / 2^k:Nat):Int) (k:Int)=((a0R l[i] / 2^k*2^k:Nat):Int):=b1M (by omega) (by grind);have t:wrap .u64 (((a0R l[i]:Nat):Int)-((a0R l[i] / 2^k*2^k:Nat):Int))=((a0R l[i]%2^k:Nat):Int):=by
    rw[a57 (a0R l[i] / 2^k)]
    grind[a0M]
   have u:wrap .i64 ((a0R l[i] / 2^k:Nat):Int)=((a0R l[i] / 2^k:Nat):Int):=b2L (a38 o y);rw[a02 a,a0E (s':=((k:Int),l,(l.length:Int),((i+1:Nat):Int),wL (a6R k l[i] g),())) (by
    by_cases hq:a0R l[i] / 2^k<32
    have m:decide (((a0R l[i] / 2^k:Nat):Int)<32)=true:=decide_eq_true (by omega);have r:(unL (a0R l[i] / 2^k) g).length<999999000:=by
     rw[b0G];omega
    have b:=c3j (L:=g) (n:=a0R l[i] / 2^k) (a84 (a18 hq (by simp))) (by omega);have hp:=a3m (L:=unL (a0R l[i] / 2^k) g) (v:=((a0R l[i]%2^k:Nat):Int)) (n:=k) (by omega) r;simp only[a7j,dlt a,cT,a0D a,oB,b0I c,e,cF,p,m,u,b,d,t,hp,a6R,if_pos hq,a0C (show i<1000000 by omega)];have m:decide (((a0R l[i] / 2^k:Nat):Int)<32)=false:=decide_eq_false (by omega);have r:=b0G 32 g;have b:a2x (wL g,(32:Int))=some (0,wL (unL 32 g)):=c3j (L:=g) (n:=32) (by omega) (by omega);have hp:a0H (wL (unL 32 g),((a0R l[i]:Nat):Int),(32:Int))=some (a8g ((a0R l[i]:Nat):Int) 32,wL (a0P ((a0R l[i]:Nat):Int) 32 (unL 32 g))):=a3m (L:=unL 32 g) (v:=((a0R l[i]:Nat):Int)) (n:=32) (by omega) (by omega);simp only[a7j,dlt a,cT,a0D a,oB,b0I c,e,cF,p,m,b,hp,a6R,if_neg hq,a0C (show i<1000000 by omega)])]
   exact ih (i+1) _ (by omega) (by omega)
 have A:=key l.length 0 L (by omega) (by omega);simp_all[b2b,a8X]
def a1q(zn:List Nat):List Int:=zn.map fun(a:Nat)=>(a:Int)
theorem c1W(n M:Nat):(a00 n M).sum=n*M:=by
 simp
theorem b3A{o n warm:Int}(h:(a1Q o n warm).length≠0):∃zn:List Nat,a1Q o n warm=a1q zn∧(zn.sum:Int)=n-warm∧zn.length≤256:=by
 unfold a1Q at h⊢;cases hr:(a6t n warm&&(decide (0≤o)&&decide (o≤8)))with
 |false=>simp_all
 |true=>
  rw[hr]at h;simp only[cT]at h⊢;simp[a6t]at hr;unfold b3L at h⊢
  split at h
  rename_i g;rw[if_pos g];obtain⟨O,rfl⟩:=a01 hr.2.1;obtain⟨N,rfl⟩:=a01 (show 0≤n by omega);obtain⟨w,rfl⟩:=a01 (show 0≤warm by omega);simp only[tN]at g⊢;have hp:=d3C (o:=O) (by omega);have f:=a70 N (2^O);rw[g.1,a85]at f;have k:w≤N / 2^O:=by omega
  generalize N / 2^O=M at g k f⊢;generalize 2^O=P at hp f⊢;refine⟨(M-w)::a00 (P-1) M,?_,?_,?_⟩
  grind[a1q,List.map_replicate]
  rw[a62,c1W];obtain⟨q,rfl⟩:∃q,P=q+1:=⟨P-1,by omega⟩
  grind
  simp_all;simp_all
def a9v(k:Int)(part L:List Int):List Int:=
 if k=31 then a1I (a0J part) part (a0P ((a0J part:Nat):Int) 5 (a0P (wrap .u64 k) 5 L))else a4Q k.toNat part (a0P (wrap .u64 k) 5 L)
def a4R:List Nat→List Int→List Int→List Int→List Int
 |z::zs,k::ks,l,L=>a4R zs ks (l.drop z) (a9v k (l.take z) L)
 |_,_,_,L=>L
theorem b5H(h:kB k=true)(part L:List Int):L.length≤(a9v k part L).length∧(a9v k part L).length≤L.length+10+100*part.length:=by
 unfold a9v;have a:=a0W (wrap .u64 k) 5 L;split;have b:=a0W ((a0J part:Nat):Int) 5 (a0P (wrap .u64 k) 5 L);have c:=a6u (a0J part) part (a0P ((a0J part:Nat):Int) 5 (a0P (wrap .u64 k) 5 L));have f:=a6A part
 have:a0J part*part.length≤32*part.length:=a25 _ f
 omega;rename_i g;simp[kB]at h
 grind[b5d]
theorem a8h(h:i<zn.length):a87 (a1q zn) i 0=((zn[i]:Nat):Int):=by
 simp_all[a1q]
theorem a1y(h:List Nat):(a1q h).length=h.length:=by simp[a1q]
theorem b4n(h:i<zn.length):(zn.drop i).sum=zn[i]+(zn.drop (i+1)).sum:=by
 grind[a02]
theorem c3l{part rest:List Int}{wd:Nat}{a b:Int}{z:List Int}{p:Prt}(k:wd≤32)(hp:part.length<10000):∀(j i:Nat)(L:List Int),i+j=part.length→L.length+64*j<999990000→
  y0s a8B (rest,(wd:Int),a,b,part,(part.length:Int),(i:Int),z,wL L,p,())=some (rest,a,b,z,wL (a1I wd (part.drop i) L),p,())
 |0,i,L,hi,_=>by
  obtain rfl:i=part.length:=by omega
  simp_all[a0F,a8B,a1I]
 |j+1,i,L,hi,hb=>by
  have h:i<part.length:=by omega
  have g:decide ((wd:Int)<0)=false:=by simp
  have f:=a0W (a0X part[i] wd) wd L;rw[a02 h,a0E (s':=(rest,(wd:Int),a,b,part,(part.length:Int),((i+1:Nat):Int),z,wL (a0P (a0X part[i] wd) wd L),p,())) (by
   simp only[a8B,dlt h,cT,a0D h,oB,g,cF,show bits .u64 .and (wrap .u64 part[i]) (wrap .u64 ((A0n .u64 1 (wd:Int))-1))=a0X part[i] wd from rfl,a3m (show wd≤63 by omega) (show L.length<999999000 by omega),a0C (show i<1000000 by omega)])]
  exact c3l k hp j (i+1) _ (by omega) (by omega)
theorem b3P{zn:List Nat}{p:Prt}(N:p.2.1.length=zn.length)(c:p.2.1.all kB=true)(R:zn.length≤256):∀(j i:Nat)(l L:List Int),i+j=zn.length→(zn.drop i).sum=l.length→l.all a0A=true→l.length≤5000→L.length+10*j+100*l.length<800000000→
  y0s a4C (l,(zn.length:Int),(i:Int),a1q zn,wL L,p,())=some (wL (a4R (zn.drop i) (p.2.1.drop i) l L),())
 |0,i,l,L,hi,_,_,_,_=>by
  obtain rfl:i=zn.length:=by omega
  simp_all[a0F,a4C,a4R]
 |j+1,i,l,L,hi,hsum,hw,hl5,hb=>by
  have h:i<zn.length:=by omega
  have f:i<p.2.1.length:=by omega
  have s:=lA.1 c _ (a05 f);rw[b4n h]at hsum;have B:decide ((0:Int)≤(i:Int))=true:=by simp
  have C:decide ((i:Int)<(((a1q zn).length:Nat):Int))=true:=by simp_all[a1y]
  have D:decide ((0:Int)≤((zn[i]:Nat):Int))=true:=by simp
  have E:decide (((zn[i]:Nat):Int)≤((l.length:Nat):Int))=true:=by grind
  have t:(l.take zn[i]).length=zn[i]:=by simp_all
  have q:(l.drop zn[i]).length=(zn.drop (i+1)).sum:=by grind
  have w:(l.take zn[i]).all a0A=true:=lA.2 fun x A=>lA.1 hw x (a34 A);have y:(l.drop zn[i]).all a0A=true:=lA.2 fun x A=>lA.1 hw x (a35 A);have Q:=b5H s (l.take zn[i]) L;have O:=a0W (wrap .u64 p.2.1[i]) 5 L;have d:a0H (wL L,wrap .u64 p.2.1[i],(5:Int))=some (a8g (wrap .u64 p.2.1[i]) 5,wL (a0P (wrap .u64 p.2.1[i]) 5 L)):=a3m (n:=5) (by omega) (by omega);have G:zn.drop i=zn[i]::zn.drop (i+1):=a02 h;have H:p.2.1.drop i=p.2.1[i]::p.2.1.drop (i+1):=a02 f;rw[G,H,a4R];have r:a4C (l,(zn.length:Int),(i:Int),a1q zn,wL L,p,())=some (.inl (l.drop zn[i],(zn.length:Int),((i+1:Nat):Int),a1q zn,wL (a9v p.2.1[i] (l.take zn[i]) L),p,())):=by
   by_cases h31:p.2.1[i]=31
   have m:(p.2.1[i] != 31)=false:=by simp_all
   have v:=a6A (l.take zn[i]);have u:=a2u (l:=l.take zn[i]) (by unfold short;omega);have P:=a0W ((a0J (l.take zn[i]):Nat):Int) 5 (a0P (wrap .u64 p.2.1[i]) 5 L);have I:wrap .u64 ((a0J (l.take zn[i]):Nat):Int)=((a0J (l.take zn[i]):Nat):Int):=a0M (by omega);have o:a0H (wL (a0P (wrap .u64 p.2.1[i]) 5 L),((a0J (l.take zn[i]):Nat):Int),(5:Int))=some (a8g ((a0J (l.take zn[i]):Nat):Int) 5,wL (a0P ((a0J (l.take zn[i]):Nat):Int) 5 (a0P (wrap .u64 p.2.1[i]) 5 L))):=a3m (n:=5) (by omega) (by omega);have e:=c3l (part:=l.take zn[i]) (rest:=l.drop zn[i]) (a:=(zn.length:Int)) (b:=(i:Int)) (z:=a1q zn) (p:=p) v (by omega) (l.take zn[i]).length 0 (a0P ((a0J (l.take zn[i]):Nat):Int) 5 (a0P (wrap .u64 p.2.1[i]) 5 L)) (by omega) (by omega);simp only[nZ,a28]at e;simp only[a4C,dlt h,B,C,a8h h,D,E,cT,a03,tN,a0D f,oB,d,m,cF,u,I,o,a19,e,a0C (show i<1000000 by omega),a9v,if_pos h31];have m:(p.2.1[i] != 31)=true:=by simp_all
   simp[kB]at s;obtain⟨K,M⟩:=a01 (show 0≤p.2.1[i]by omega);have g:=c5j (k:=K) (l:=l.take zn[i]) (L:=a0P (wrap .u64 p.2.1[i]) 5 L) (by omega) (by omega) w (by omega);rw[←M]at g;have F:K=p.2.1[i].toNat:=by omega
   simp only[a4C,dlt h,B,C,a8h h,D,E,cT,a03,tN,a0D f,oB,d,m,g,a19,a0C (show i<1000000 by omega),a9v,if_neg h31,F]
  rw[a0E r];exact b3P N c R j (i+1) (l.drop zn[i]) _ (by omega) q.symm y (by omega) (by omega)
theorem b9K{k:Nat}(d:k≤25)(g:a0A x=true):∃c,a7x ((k:Int),x)=some c∧0≤c∧c≤65:=by
 have e:=a9A g;have f:A0o .u64 ((a0R x:Nat):Int) (k:Int)=((a0R x / 2^k:Nat):Int):=a6B (by omega);have a:wrap .i64 ((a0R x / 2^k:Nat):Int)=((a0R x / 2^k:Nat):Int):=b2L (a38 (a32 _ _) e);have h:decide ((k:Int)<0)=false:=by simp
 unfold a7x;simp only[a8X d,b0H,g,oB,bT,cF,b0I g,h,f,a];generalize a0R x / 2^k=q
 by_cases hq:q<32
 have b:decide ((q:Int)<32)=true:=decide_eq_true (by omega);refine⟨(q:Int)+1+k,?_,by omega,by omega⟩;simp only[b,cT]
 grind[a0B]
 grind
theorem c1X{k:Nat}(n:k≤25)(o:l.all a0A=true)(r:l.length<10000):∃c,a3v ((k:Int),l)=some c∧0≤c∧c≤65*l.length:=by
 have key:∀(j i:Nat)(c:Int),i+j=l.length→0≤c→c≤65*i→∃c',y0s a3V ((k:Int),c,l,(l.length:Int),(i:Int),())=some (c',())∧0≤c'∧c'≤65*l.length:=by
  intro j
  induction j with
  |zero=>
   intro i c hi f g;obtain rfl:i=l.length:=by omega
   simp_all[a0F,a3V]
  |succ j ih=>
   intro i c hi f g;have h:i<l.length:=by omega
   obtain⟨d,a,b,m⟩:=b9K n (lA.1 o _ (a05 h));have e:wrap .i64 (c+d)=c+d:=a0B (by omega);rw[a0E (s':=((k:Int),c+d,l,(l.length:Int),((i+1:Nat):Int),())) (by simp only[a3V,dlt h,cT,a0D h,oB,a,e,a0C (show i<1000000 by omega)])];exact ih (i+1) _ (by omega) (by omega) (by omega)
 obtain⟨c,g,p,q⟩:=key l.length 0 0 (by omega) (by omega) (by omega);simp_all[a3v]
theorem c8o{n:Nat}(g:w≤32)(f:n<10000):0≤(w:Int)*(n:Int)∧(w:Int)*(n:Int)≤32*n:=by
 have h:w*n≤32*n:=a25 _ g;omega
theorem b9L(h:l.length<10000):∃c,a5Q l=some c∧0≤c∧c≤5+32*l.length:=by
 have g:=c8o (a6A l) h;refine⟨5+((a0J l:Nat):Int)*((l.length:Nat):Int),?_,by omega,by omega⟩;unfold a5Q;simp only[a2u (show short l by unfold short;omega),oB]
 grind[a0B]
theorem b3h{zn:List Nat}{p:Prt}(H:p.2.1.length=zn.length)(g:p.2.1.all kB=true)(I:zn.length≤256):∀(j i:Nat)(l:List Int)(c:Int),i+j=zn.length→(zn.drop i).sum=l.length→l.all a0A=true→l.length≤5000→4≤c→c+10*j+65*l.length<1000000→
  ∃c',y0s a1w (l,c,(zn.length:Int),(i:Int),a1q zn,p,())=some (c',())∧4≤c'
 |0,i,l,c,hi,_,_,_,hc,_=>by
  obtain rfl:i=zn.length:=by omega
  simp_all[a0F,a1w]
 |j+1,i,l,c,hi,hsum,hw,hl5,hc,hb=>by
  have h:i<zn.length:=by omega
  have f:i<p.2.1.length:=by omega
  have q:=lA.1 g _ (a05 f);rw[b4n h]at hsum;have z:decide ((0:Int)≤(i:Int))=true:=by simp
  have A:decide ((i:Int)<(((a1q zn).length:Nat):Int))=true:=by simp_all[a1y]
  have B:decide ((0:Int)≤((zn[i]:Nat):Int))=true:=by simp
  have C:decide (((zn[i]:Nat):Int)≤((l.length:Nat):Int))=true:=by grind
  have s:(l.take zn[i]).length=zn[i]:=by simp_all
  have b:(l.drop zn[i]).length=(zn.drop (i+1)).sum:=by grind
  have v:(l.take zn[i]).all a0A=true:=lA.2 fun x y=>lA.1 hw x (a34 y);have w:(l.drop zn[i]).all a0A=true:=lA.2 fun x y=>lA.1 hw x (a35 y);have e:∃d,a1w (l,c,(zn.length:Int),(i:Int),a1q zn,p,())=some (.inl (l.drop zn[i],c+d,(zn.length:Int),((i+1:Nat):Int),a1q zn,p,()))∧0≤d∧d≤10+65*zn[i]:=by
   by_cases h31:p.2.1[i]=31
   have a:(p.2.1[i]==31)=true:=by simp_all
   obtain⟨r,m,t,u⟩:=b9L (l:=l.take zn[i]) (by omega);have n:wrap .i64 (5+r)=5+r:=a0B (by omega);have o:wrap .i64 (c+(5+r))=c+(5+r):=a0B (by omega);refine⟨5+r,?_,by omega,by omega⟩;simp only[a1w,dlt h,z,A,a8h h,B,C,cT,a03,tN,a0D f,oB,a,m,n,o,a19,a0C (show i<1000000 by omega)];have a:(p.2.1[i]==31)=false:=by simp_all
   simp[kB]at q;obtain⟨K,D⟩:=a01 (show 0≤p.2.1[i]by omega);obtain⟨r,m,t,u⟩:=c1X (k:=K) (by omega) v (by omega);rw[←D]at m;have n:wrap .i64 (5+r)=5+r:=a0B (by omega);have o:wrap .i64 (c+(5+r))=c+(5+r):=a0B (by omega);refine⟨5+r,?_,by omega,by omega⟩;simp only[a1w,dlt h,z,A,a8h h,B,C,cT,cF,a03,tN,a0D f,oB,a,m,n,o,a19,a0C (show i<1000000 by omega)]
  obtain⟨d,E,F,G⟩:=e;rw[a0E E];exact b3h H g I j (i+1) (l.drop zn[i]) _ (by omega) b.symm w (by omega) (by omega) (by omega)
structure PartsOk (p:Prt) (n warm:Int) (l:List Int) (zn:List Nat):Prop where
 may:a5G p n warm=true
 sizes:a1Q p.1 n warm=a1q zn
 sum:zn.sum=l.length
 len:zn.length≤256
 ks:p.2.1.length=zn.length
 all:p.2.1.all kB=true
 wide:l.all a0A=true
 short:l.length≤5000
 row:a6t n warm=true
 rest:(l.length:Int)=n-warm
 order:0≤p.1∧p.1≤8
theorem PartsOk.of{p:Prt}{n warm:Int}{l:List Int}(h:a5G p n warm=true)(i:(l.length:Int)=n-warm)(j:l.all a0A=true)(e:l.length≤5000):∃g,PartsOk p n warm l g:=by
 have f:=h;simp only[a5G,bA,a33,beq_eq_false_iff_ne,ne_eq,beq_iff_eq]at f;obtain⟨c,o,d⟩:=f;obtain⟨g,a,m,b⟩:=b3A c;have k:a6t n warm=true∧0≤p.1∧p.1≤8:=by
  grind[a1Q]
 exact⟨g,h,a,by omega,b,by simp_all[a1y],d,j,e,k.1,i,k.2⟩
theorem b0V{n warm:Int}{l:List Int}(h:a6t n warm=true)(c:(l.length:Int)=n-warm)(d:l.all a0A=true)(a:l.length≤5000):a7i (n,warm,l)=some true:=by
 have e:wrap .i64 (n-warm)=n-warm:=by
  simp[a6t]at h;exact a0B (by omega)
 have k:(((l.length:Nat):Int) != n-warm)=false:=by simp_all
 have f:b2A=a2H:=rfl;have g:short l:=by unfold short;omega
 have b:=a4D g;simp_all[a2C,a7i,b2G]
theorem b8k(h:PartsOk p n warm l zn):∃c,a4O (p,n,warm,l)=some c∧4≤c:=by
 have k:Go.Ab.short p.2.1:=by have:=h.ks;have:=h.len;unfold Go.Ab.short;omega
 have a:=h.short;have b:=h.len;obtain⟨c,g,f⟩:=b3h h.ks h.all h.len zn.length 0 l 4 (by omega) (by rw[a28];exact h.sum) h.wide h.short (by omega) (by omega);simp at g;refine⟨c,?_,f⟩;unfold a4O;simp only[b2H k,h.may,b0V h.row h.rest h.wide h.short,oB,bT,cF,a2h,h.sizes,a1y,g]
def a4t(p:Prt)(zn:List Nat)(l L:List Int):List Int:=a4R zn p.2.1 l (a0P (wrap .u64 p.1) 4 L)
theorem c3m(h:PartsOk p n warm l zn)(i:L.length<700000000):b1t (wL L,p,n,warm,l)=some (0,wL (a4t p zn l L)):=by
 have e:=h.short;have j:=h.len;obtain⟨c,a,b⟩:=b8k h;have k:(c==0)=false:=by grind
 have d:=a0W (wrap .u64 p.1) 4 L;have f:a0H (wL L,wrap .u64 p.1,(4:Int))=some (a8g (wrap .u64 p.1) 4,wL (a0P (wrap .u64 p.1) 4 L)):=a3m (n:=4) (by omega) (by omega);have g:=b3P h.ks h.all h.len zn.length 0 l (a0P (wrap .u64 p.1) 4 L) (by omega) (by rw[a28];exact h.sum) h.wide h.short (by omega);simp at g;unfold b1t;simp only[a,oB,k,cF,f,a2h,h.sizes,a1y,g,a4t]
theorem b8l{c:List Int}{wd:Nat}(k:wd≤32)(g:c.length<10000):∀(j i:Nat)(L:List Int),i+j=c.length→L.length+64*j<999990000→
  y0s a6a ((wd:Int),c,(c.length:Int),(i:Int),wL L,())=some (wL (a1I wd (c.drop i) L),())
 |0,i,L,hi,_=>by
  obtain rfl:i=c.length:=by omega
  simp_all[a0F,a6a,a1I]
 |j+1,i,L,hi,hb=>by
  have h:i<c.length:=by omega
  have f:=a0W (a0X c[i] wd) wd L;rw[a02 h,a0E (s':=((wd:Int),c,(c.length:Int),((i+1:Nat):Int),wL (a0P (a0X c[i] wd) wd L),())) (by
   simp only[a6a,dlt h,cT,a0D h,oB,b2K (show wd≤63 by omega) (show L.length<999999000 by omega),a0C (show i<1000000 by omega)])]
  exact b8l k g j (i+1) _ (by omega) (by omega)
theorem c0H{t:List Int}{n wd:Int}{s:Sub}(a:t.length=3):∀(j i:Nat)(L:List Int),i+j=3→L.length+64*j<999990000→
  y0s a9Z (n,wd,t,(i:Int),wL L,s,())=some (n,wd,wL (a1I 8 (t.drop i) L),s,())
 |0,i,L,hi,_=>by
  obtain rfl:i=t.length:=by omega
  grind[a0F,a9Z,a1I]
 |j+1,i,L,hi,hb=>by
  have h:i<t.length:=by omega
  have f:decide ((i:Int)<3)=true:=by grind
  have k:=a0W (a0X t[i] 8) 8 L;have g:a2R (wL L,t[i],(8:Int))=some (wL (a0P (a0X t[i] 8) 8 L)):=b2K (n:=8) (by omega) (by omega);rw[a02 h,a0E (s':=(n,wd,t,((i+1:Nat):Int),wL (a0P (a0X t[i] 8) 8 L),s,())) (by
   simp only[a9Z,f,cT,a0D h,oB,g,a0C (show i<1000000 by omega)])]
  exact c0H a j (i+1) _ (by omega) (by omega)
theorem c0I{l:List Int}{n:Int}{wd:Nat}{s:Sub}(k:wd≤32)(g:l.length<10000):∀(j i:Nat)(L:List Int),i+j=l.length→L.length+64*j<999990000→
  y0s b0B (n,(wd:Int),l,(l.length:Int),(i:Int),wL L,s,())=some (n,wL (a1I wd (l.drop i) L),s,())
 |0,i,L,hi,_=>by
  obtain rfl:i=l.length:=by omega
  simp_all[a0F,b0B,a1I]
 |j+1,i,L,hi,hb=>by
  have h:i<l.length:=by omega
  have f:=a0W (a0X l[i] wd) wd L;rw[a02 h,a0E (s':=(n,(wd:Int),l,(l.length:Int),((i+1:Nat):Int),wL (a0P (a0X l[i] wd) wd L),s,())) (by
   simp only[b0B,dlt h,cT,a0D h,oB,b2K (show wd≤63 by omega) (show L.length<999999000 by omega),a0C (show i<1000000 by omega)])]
  exact c0I k g j (i+1) _ (by omega) (by omega)
def a6w(s:Stg)(L:List Int):List Int:=a0P (wrap .u64 s.2.1) 4 (a0P (wrap .u64 (wrap .i64 (s.1-1))) 5 L)
def a3o(st:List Stg)(L:List Int):List Int:=st.foldl (fun L s=>a6w s L) L
theorem b5e(s:Stg)(L:List Int):(a6w s L).length≤L.length+9:=by
 grind[a0W,a6w]
theorem b3Q:∀(st:List Stg)(L:List Int),(a3o st L).length≤L.length+9*st.length
 | [],L=>by simp[a3o]
 |s::st,L=>by
  have h:=b5e s L;have g:=b3Q st (a6w s L);have e:a3o (s::st) L=a3o st (a6w s L):=rfl
  grind
theorem b6I{st:List Stg}{n wd:Int}{s:Sub}(a:st.length<10000):∀(j i:Nat)(L:List Int),i+j=st.length→L.length+64*j<999990000→
  y0s b0A (n,wd,st,(st.length:Int),(i:Int),wL L,s,())=some (n,wd,wL (a3o (st.drop i) L),s,())
 |0,i,L,hi,_=>by
  obtain rfl:i=st.length:=by omega
  simp_all[a0F,b0A,a3o]
 |j+1,i,L,hi,hb=>by
  have h:i<st.length:=by omega
  have k:=a0W (wrap .u64 (wrap .i64 (st[i].1-1))) 5 L;have b:=b5e st[i] L;have g:a0H (wL L,wrap .u64 (wrap .i64 (st[i].1-1)),(5:Int))=some (a8g (wrap .u64 (wrap .i64 (st[i].1-1))) 5,wL (a0P (wrap .u64 (wrap .i64 (st[i].1-1))) 5 L)):=a3m (n:=5) (by omega) (by omega);have f:a0H (wL (a0P (wrap .u64 (wrap .i64 (st[i].1-1))) 5 L),wrap .u64 st[i].2.1,(4:Int))=some (a8g (wrap .u64 st[i].2.1) 4,wL (a6w st[i] L)):=a3m (n:=4) (by omega) (by omega);rw[a02 h,a0E (s':=(n,wd,st,(st.length:Int),((i+1:Nat):Int),wL (a6w st[i] L),s,())) (by
   simp only[b0A,dlt h,cT,a0D h,oB,g,f,a0C (show i<1000000 by omega)])]
  exact b6I a j (i+1) _ (by omega) (by omega)
def a6x(s:Sub)(L:List Int):List Int:=
 a1I (a0J s.2.2.2.2.2.1) s.2.2.2.2.2.1 (a0P ((a0J s.2.2.2.2.2.1:Nat):Int) 5 (a0P (wrap .u64 s.2.2.2.1) 4 (a0P (wrap .u64 (wrap .i64 (((s.2.2.2.2.2.1.length:Nat):Int)-1))) 5 L)))
theorem c1Y{s:Sub}(h:s.2.2.2.2.2.1.length≤40)(L:List Int):(a6x s L).length≤L.length+2000:=by
 unfold a6x;have f:=a0W (wrap .u64 (wrap .i64 (((s.2.2.2.2.2.1.length:Nat):Int)-1))) 5 L;have k:=a0W (wrap .u64 s.2.2.2.1) 4 (a0P (wrap .u64 (wrap .i64 (((s.2.2.2.2.2.1.length:Nat):Int)-1))) 5 L);have a:=a0W ((a0J s.2.2.2.2.2.1:Nat):Int) 5 (a0P (wrap .u64 s.2.2.2.1) 4 (a0P (wrap .u64 (wrap .i64 (((s.2.2.2.2.2.1.length:Nat):Int)-1))) 5 L));have b:=a6u (a0J s.2.2.2.2.2.1) s.2.2.2.2.2.1 (a0P ((a0J s.2.2.2.2.2.1:Nat):Int) 5 (a0P (wrap .u64 s.2.2.2.1) 4 (a0P (wrap .u64 (wrap .i64 (((s.2.2.2.2.2.1.length:Nat):Int)-1))) 5 L)));have g:=a6A s.2.2.2.2.2.1
 have:a0J s.2.2.2.2.2.1*s.2.2.2.2.2.1.length≤32*40:=Nat.mul_le_mul g h
 omega
theorem b6J(h:s.2.2.2.2.2.1.length≤40)(l:L.length<900000000):a8A (wL L,s)=some (wL (a6x s L)):=by
 have e:=a0W (wrap .u64 (wrap .i64 (((s.2.2.2.2.2.1.length:Nat):Int)-1))) 5 L;have i:=a0W (wrap .u64 s.2.2.2.1) 4 (a0P (wrap .u64 (wrap .i64 (((s.2.2.2.2.2.1.length:Nat):Int)-1))) 5 L);have j:=a0W ((a0J s.2.2.2.2.2.1:Nat):Int) 5 (a0P (wrap .u64 s.2.2.2.1) 4 (a0P (wrap .u64 (wrap .i64 (((s.2.2.2.2.2.1.length:Nat):Int)-1))) 5 L));have k:=a6A s.2.2.2.2.2.1;have f:wrap .u64 ((a0J s.2.2.2.2.2.1:Nat):Int)=((a0J s.2.2.2.2.2.1:Nat):Int):=a0M (by omega);have a:a0H (wL L,wrap .u64 (wrap .i64 (((s.2.2.2.2.2.1.length:Nat):Int)-1)),(5:Int))=some (a8g (wrap .u64 (wrap .i64 (((s.2.2.2.2.2.1.length:Nat):Int)-1))) 5,wL (a0P (wrap .u64 (wrap .i64 (((s.2.2.2.2.2.1.length:Nat):Int)-1))) 5 L)):=a3m (n:=5) (by omega) (by omega);have b:a0H (wL (a0P (wrap .u64 (wrap .i64 (((s.2.2.2.2.2.1.length:Nat):Int)-1))) 5 L),wrap .u64 s.2.2.2.1,(4:Int))=some (a8g (wrap .u64 s.2.2.2.1) 4,wL (a0P (wrap .u64 s.2.2.2.1) 4 (a0P (wrap .u64 (wrap .i64 (((s.2.2.2.2.2.1.length:Nat):Int)-1))) 5 L))):=a3m (n:=4) (by omega) (by omega);have d:a0H (wL (a0P (wrap .u64 s.2.2.2.1) 4 (a0P (wrap .u64 (wrap .i64 (((s.2.2.2.2.2.1.length:Nat):Int)-1))) 5 L)),((a0J s.2.2.2.2.2.1:Nat):Int),(5:Int))=some (a8g ((a0J s.2.2.2.2.2.1:Nat):Int) 5,wL (a0P ((a0J s.2.2.2.2.2.1:Nat):Int) 5 (a0P (wrap .u64 s.2.2.2.1) 4 (a0P (wrap .u64 (wrap .i64 (((s.2.2.2.2.2.1.length:Nat):Int)-1))) 5 L)))):=a3m (n:=5) (by omega) (by omega);have g:=b8l (c:=s.2.2.2.2.2.1) k (by omega) s.2.2.2.2.2.1.length 0 (a0P ((a0J s.2.2.2.2.2.1:Nat):Int) 5 (a0P (wrap .u64 s.2.2.2.1) 4 (a0P (wrap .u64 (wrap .i64 (((s.2.2.2.2.2.1.length:Nat):Int)-1))) 5 L))) (by omega) (by omega);simp at g;unfold a8A;simp only[a,b,a2u (show short s.2.2.2.2.2.1 by unfold short;omega),f,d,g,oB,a6x]
def b1z(s:Sub)(L:List Int):List Int:=
 a0P ((a0J s.2.2.2.2.2.2.2.2.1:Nat):Int) 5 (a0P (wrap .u64 s.2.1) 5 (a0P (wrap .u64 s.1) 3 L))
def a2F(s:Sub)(L:List Int):List Int:=
 if s.1=2 then a0P (wrap .u64 s.2.2.1) 3 L
 else if s.1=3 then a6x s L
 else if s.1=4 then a6x s (a1I 8 s.2.2.2.2.2.2.1 (a0P (wrap .u64 (wrap .i64 (s.2.2.2.2.1-1))) 10 L))
 else if s.1=5 then a3o s.2.2.2.2.2.2.2.1 (a0P (wrap .u64 ((s.2.2.2.2.2.2.2.1.length:Nat):Int)) 2 L)
 else L
theorem c3n(h:SmallS s)(L:List Int):(a2F s L).length≤L.length+3000:=by
 have f:=h.coefs;have k:=h.taps;have g:=h.stages
 grind[a2F,a0W,c1Y,a6u,b3Q]
theorem b5f:∀(zs:List Nat)(ks l L:List Int),ks.all kB=true→(a4R zs ks l L).length≤L.length+10*zs.length+100*l.length
 |z::zs,k::ks,l,L,h=>by
  simp only[a07,bA]at h;have g:=b5H h.1 (l.take z) L;have f:=b5f zs ks (l.drop z) (a9v k (l.take z) L) h.2;rw[a94]at g;rw[a52]at f;simp only[a4R,lC];omega
 | [],_,_,_,_=>by simp_all[a4R]
 |_::_,[],_,_,_=>by grind[a4R]
def a5m(s:Sub)(zn:List Nat)(L:List Int):List Int:=
 if s.1=0∨s.1=1 then a1I (a0J s.2.2.2.2.2.2.2.2.1) s.2.2.2.2.2.2.2.2.1 (a2F s (b1z s L))
 else a4t s.2.2.2.2.2.2.2.2.2.1 zn s.2.2.2.2.2.2.2.2.2.2.1 (a1I (a0J s.2.2.2.2.2.2.2.2.1) s.2.2.2.2.2.2.2.2.1 (a2F s (b1z s L)))
theorem b4o(h:SmallS s)(R:L.length<100000000):
  ∃(e:Int)(L':List Int),a9G (wL L,s,n)=some (e,wL L')∧(e=0∨L'=L)∧L'.length≤L.length+700000∧
   ((a2r s n).isSome=true→e=0∧∃a,L'=a5m s a L∧(s.1≠0∧s.1≠1→PartsOk s.2.2.2.2.2.2.2.2.2.1 n ((s.2.2.2.2.2.2.2.2.1.length:Nat):Int) s.2.2.2.2.2.2.2.2.2.2.1 a))∧((a2r s n).isSome=false→e=1∧L'=L):=by
 unfold a9G;simp only[b8h h,oB];cases hs:(a2r s n).isSome with
 |false=>exact⟨1,L,rfl,.inr rfl,by omega,fun h=>(by grind),fun _=>⟨rfl,rfl⟩⟩
 |true=>
  have hp:a1v s n:=by
   grind[a2r]
  obtain⟨P,Q,z,-,-,-,-,u,D,A,-,o⟩:=hp;have b:=c8m z;have m:=a6A s.2.2.2.2.2.2.2.2.1;have r:short s.2.2.2.2.2.2.2.2.1:=by have:=h.warm;unfold short;omega
  have c:=h.warm;have q:=h.rest;have B:=h.stages;have C:=h.taps;have q1:=a0W (wrap .u64 s.1) 3 L;have S:=a0W (wrap .u64 s.2.1) 5 (a0P (wrap .u64 s.1) 3 L);have T:=a0W ((a0J s.2.2.2.2.2.2.2.2.1:Nat):Int) 5 (a0P (wrap .u64 s.2.1) 5 (a0P (wrap .u64 s.1) 3 L));have y:wrap .u64 ((a0J s.2.2.2.2.2.2.2.2.1:Nat):Int)=((a0J s.2.2.2.2.2.2.2.2.1:Nat):Int):=a0M (by omega);have H:a0H (wL L,wrap .u64 s.1,(3:Int))=some (a8g (wrap .u64 s.1) 3,wL (a0P (wrap .u64 s.1) 3 L)):=a3m (n:=3) (by omega) (by omega);have I:a0H (wL (a0P (wrap .u64 s.1) 3 L),wrap .u64 s.2.1,(5:Int))=some (a8g (wrap .u64 s.2.1) 5,wL (a0P (wrap .u64 s.2.1) 5 (a0P (wrap .u64 s.1) 3 L))):=a3m (n:=5) (by omega) (by omega);have v:a0H (wL (a0P (wrap .u64 s.2.1) 5 (a0P (wrap .u64 s.1) 3 L)),((a0J s.2.2.2.2.2.2.2.2.1:Nat):Int),(5:Int))=some (a8g ((a0J s.2.2.2.2.2.2.2.2.1:Nat):Int) 5,wL (b1z s L)):=a3m (n:=5) (by omega) (by omega);have K:(b1z s L).length≤L.length+13:=by unfold b1z;omega
  generalize hM:b1z s L=M at v K;have U:=c3n h M;have N:=a6u (a0J s.2.2.2.2.2.2.2.2.1) s.2.2.2.2.2.2.2.2.1 (a2F s M);have V:a0J s.2.2.2.2.2.2.2.2.1*s.2.2.2.2.2.2.2.2.1.length≤32*5000:=Nat.mul_le_mul m c;have g:=c0I (l:=s.2.2.2.2.2.2.2.2.1) (n:=n) (s:=s) m (by omega) s.2.2.2.2.2.2.2.2.1.length 0 (a2F s M) (by omega) (by omega);simp at g

  have i:=b6I (st:=s.2.2.2.2.2.2.2.1) (n:=n) (wd:=((a0J s.2.2.2.2.2.2.2.2.1:Nat):Int)) (s:=s) (by omega) s.2.2.2.2.2.2.2.1.length 0 (a0P (wrap .u64 ((s.2.2.2.2.2.2.2.1.length:Nat):Int)) 2 M) (by omega) (by grind[a0W]);have X:=a0W (wrap .u64 (wrap .i64 (s.2.2.2.2.1-1))) 10 M;have Y:=a6u 8 s.2.2.2.2.2.2.1 (a0P (wrap .u64 (wrap .i64 (s.2.2.2.2.1-1))) 10 M);have j:=c0H (t:=s.2.2.2.2.2.2.1) (n:=n) (wd:=((a0J s.2.2.2.2.2.2.2.2.1:Nat):Int)) (s:=s) C 3 0 (a0P (wrap .u64 (wrap .i64 (s.2.2.2.2.1-1))) 10 M) (by rfl) (by omega);simp at i j;have E:a0H (wL M,wrap .u64 s.2.2.1,(3:Int))=some (a8g (wrap .u64 s.2.2.1) 3,wL (a0P (wrap .u64 s.2.2.1) 3 M)):=a3m (n:=3) (by omega) (by omega);have F:a0H (wL M,wrap .u64 (wrap .i64 (s.2.2.2.2.1-1)),(10:Int))=some (a8g (wrap .u64 (wrap .i64 (s.2.2.2.2.1-1))) 10,wL (a0P (wrap .u64 (wrap .i64 (s.2.2.2.2.1-1))) 10 M)):=a3m (n:=10) (by omega) (by omega);have G:a0H (wL M,wrap .u64 ((s.2.2.2.2.2.2.2.1.length:Nat):Int),(2:Int))=some (a8g (wrap .u64 ((s.2.2.2.2.2.2.2.1.length:Nat):Int)) 2,wL (a0P (wrap .u64 ((s.2.2.2.2.2.2.2.1.length:Nat):Int)) 2 M)):=a3m (n:=2) (by omega) (by omega);have w:=b6J (s:=s) h.coefs (L:=M) (by omega);have x:=b6J (s:=s) h.coefs (L:=a1I 8 s.2.2.2.2.2.2.1 (a0P (wrap .u64 (wrap .i64 (s.2.2.2.2.1-1))) 10 M)) (by omega);simp only[bT,cF,a2u r,oB,H,I,y,v];generalize hPM:a1I (a0J s.2.2.2.2.2.2.2.2.1) s.2.2.2.2.2.2.2.2.1 (a2F s M)=PM at g N

  have tail:∀(d:s.1≠0∧s.1≠1),∃a,PartsOk s.2.2.2.2.2.2.2.2.2.1 n ((s.2.2.2.2.2.2.2.2.1.length:Nat):Int) s.2.2.2.2.2.2.2.2.2.2.1 a:=fun d=>by
   simp_all[PartsOk.of]
  rcases b with k|k|k|k|k|k;have f:a2F s M=M:=by unfold a2F;grind
  rw[f]at g;refine⟨0,PM,?_,.inl rfl,by omega,fun _=>⟨rfl,[],by simp_all[a5m],fun h=>absurd k (by omega)⟩,fun h=>by grind⟩;simp only[k,show((0:Int)==2)=false from rfl,show((0:Int)==4)=false from rfl,show((0:Int)==3)=false from rfl,show((0:Int)==5)=false from rfl,cF,oB,g,a6z]
  simp
  have f:a2F s M=M:=by unfold a2F;grind
  rw[f]at g;refine⟨0,PM,?_,.inl rfl,by omega,fun _=>⟨rfl,[],by simp_all[a5m],fun h=>absurd k (by omega)⟩,fun h=>by grind⟩;simp only[k,show((1:Int)==2)=false from rfl,show((1:Int)==4)=false from rfl,show((1:Int)==3)=false from rfl,show((1:Int)==5)=false from rfl,cF,oB,g,a6z]
  simp
  all_goals
   obtain⟨a,p⟩:=tail (by omega);have Z:=c3m (L:=PM) p (by omega);have O:(a4t s.2.2.2.2.2.2.2.2.2.1 a s.2.2.2.2.2.2.2.2.2.2.1 PM).length≤L.length+700000:=by
    have z1:=a0W (wrap .u64 s.2.2.2.2.2.2.2.2.2.1.1) 4 PM;have z2:=b5f a s.2.2.2.2.2.2.2.2.2.1.2.1 s.2.2.2.2.2.2.2.2.2.2.1 (a0P (wrap .u64 s.2.2.2.2.2.2.2.2.2.1.1) 4 PM) p.all;have z3:=p.len
    grind[a4t]
   refine⟨0,a4t s.2.2.2.2.2.2.2.2.2.1 a s.2.2.2.2.2.2.2.2.2.2.1 PM,?_,.inl rfl,O,fun _=>⟨rfl,a,by simp_all[a5m],fun _=>p⟩,fun h=>by grind⟩
  have f:a2F s M=a0P (wrap .u64 s.2.2.1) 3 M:=by unfold a2F;grind
  rw[f]at g;simp only[k,show((2:Int)==2)=true from rfl,cT,E,oB,g,a6z]
  grind
  have f:a2F s M=a6x s M:=by unfold a2F;grind
  rw[f]at g;simp only[k,show((3:Int)==2)=false from rfl,show((3:Int)==4)=false from rfl,show((3:Int)==3)=true from rfl,cT,cF,w,oB,g,a6z]
  grind
  have f:a2F s M=a6x s (a1I 8 s.2.2.2.2.2.2.1 (a0P (wrap .u64 (wrap .i64 (s.2.2.2.2.1-1))) 10 M)):=by unfold a2F;grind
  rw[f]at g;simp only[k,show((4:Int)==2)=false from rfl,show((4:Int)==4)=true from rfl,cT,cF,F,j,x,oB,g,a6z]
  grind
  have f:a2F s M=a3o s.2.2.2.2.2.2.2.1 (a0P (wrap .u64 ((s.2.2.2.2.2.2.2.1.length:Nat):Int)) 2 M):=by unfold a2F;grind
  rw[f]at g;simp only[k,show((5:Int)==2)=false from rfl,show((5:Int)==4)=false from rfl,show((5:Int)==3)=false from rfl,show((5:Int)==5)=true from rfl,cT,cF,G,i,oB,g,a6z]
  grind
theorem b3B(h:List Nat):(a1q h).map a42=h:=by
 unfold a1q;rw[List.map_map]
 have:a42∘(fun(a:Nat)=>(a:Int))=id:=by rfl
 simp_all
def a5d(s:Sub)(n:Int):Int:=
 if(a2r s n).isSome=true then(((a5m s ((a1Q s.2.2.2.2.2.2.2.2.2.1.1 n ((s.2.2.2.2.2.2.2.2.1.length:Nat):Int)).map a42) []).length:Nat):Int)else 0
theorem b9M(h:s.1≠0∧s.1≠1→PartsOk s.2.2.2.2.2.2.2.2.2.1 n ((s.2.2.2.2.2.2.2.2.1.length:Nat):Int) s.2.2.2.2.2.2.2.2.2.2.1 zn)(L:List Int):
  a5m s zn L=a5m s ((a1Q s.2.2.2.2.2.2.2.2.2.1.1 n ((s.2.2.2.2.2.2.2.2.1.length:Nat):Int)).map a42) L:=by
 by_cases hk:s.1=0∨s.1=1
 simp_all[a5m];rw[(h (not_or.1 hk)).sizes,b3B]
theorem c5G(h:SmallS s)(n:Int):a4j (s,n)=some (a5d s n):=by
 obtain⟨e,f,g,-,-,k,c⟩:=b4o h (n:=n) (L:=[]) (by simp);have a:wL []=(([]:List Int),(0:Int),()):=rfl;rw[a]at g;obtain⟨d,-⟩:=a5R f;unfold a4j a5d;simp[g,a8T];cases hs:(a2r s n).isSome with
 |false=>
  simp_all
 |true=>
  obtain⟨rfl,i,rfl,b⟩:=k hs;rw[if_pos rfl,←b9M b];simp_all
def dif:List Int→List Int
 |a::b::r=>W (b-a)::dif (b::r)
 |_=>[]
theorem a8J:∀l:List Int,(dif l).length=l.length-1
 | []=>rfl
 | [_]=>rfl
 |a::b::r=>by simp[dif,a8J (b::r)]
theorem b9N:∀(l:List Int)(i:Nat)(x y:Int),l[i]?=some x→l[i+1]?=some y→(dif l)[i]?=some (W (y-x))
 |a::b::r,0,x,y,h1,h2=>by simp at h1 h2;subst h1;subst h2;rfl
 |a::b::r,i+1,x,y,h1,h2=>by
  simp only[dif,List.getElem?_cons_succ]at h1 h2⊢;exact b9N (b::r) i x y h1 h2
 | [_],0,x,y,h1,h2=>by simp_all
 | [_],i+1,x,y,h1,h2=>by simp_all
 | [],i,x,y,h1,h2=>by simp_all
def a2s:Nat→List Int→List Int
 |0,l=>l
 |o+1,l=>dif (a2s o l)
theorem a5S(l:List Int):∀o,(a2s o l).length=l.length-o
 |0=>rfl
 |o+1=>by simp only[a2s,a8J,a5S l o];omega
theorem b4p{l:List Int}(h:short l)(o:Nat):short (a2s o l):=by
 have h:l.length<1000000:=h;show(a2s o l).length<1000000;rw[a5S];omega
def b0W(l:List Int)(i:Nat):List Int:=(dif l).take i++l.drop i
theorem b3C(h:i≤l.length-1):(b0W l i).length=l.length:=by
 grind[b0W,a8J]
theorem c0J(h:i≤l.length-1)(g:i≤j):(b0W l i).getD j 0=l.getD j 0:=by
 simp_all[a8J,b0W,List.getElem?_append_right]
theorem c9H(h:i<l.length-1):(b0W l i).set i (W (l.getD (i+1) 0-l.getD i 0))=b0W l (i+1):=by
 have e:((dif l).take i).length=i:=by grind[a8J]
 have f:l[i]?=some l[i]:=lG (by omega);have k:l[i+1]?=some l[i+1]:=lG (by omega);have a:=b9N l i _ _ f k;have g:i<(dif l).length:=by grind
 simp only[b0W];rw[List.set_append,if_neg (by omega),e,a56,a02 (show i<l.length by omega),a60,a49 g,aA]
 grind
theorem c6W{l:List Int}{o k:Int}(g:short l)(h:1≤l.length):y0s a5x ((0:Int),o,k,l,())=some (o,k,b0W l (l.length-1),()):=by
 have g:l.length<1000000:=g;have r:b0W l 0=l:=by rfl
 have:=a1C (f:=a5x) (fun i:Nat=>((i:Int),o,k,b0W l i,())) (l.length-1) (b:=(o,k,b0W l (l.length-1),()))
  (fun i hi=>by
   have d:wrap .i64 ((i:Int)+1)=((i+1:Nat):Int):=a0C (by omega);have c:=b3C (l:=l) (i:=i) (by omega);have a:decide (((i+1:Nat):Int)<((l.length:Nat):Int))=true:=by grind
   have e:decide ((0:Int)≤((i+1:Nat):Int))=true:=by rfl
   have m:decide ((0:Int)≤(i:Int))=true:=by simp
   have n:decide ((i:Int)<((l.length:Nat):Int))=true:=by grind
   have n1:a42 ((i+1:Nat):Int)=i+1:=by rfl
   have n2:a42 (i:Int)=i:=by rfl
   have st:=c9H (l:=l) (i:=i) (by omega);have p:=c0J (l:=l) (i:=i) (j:=i+1) (by omega) (by omega);have q:=c0J (l:=l) (i:=i) (j:=i) (by omega) (by omega);simp_all[a5x])
  (by
   have c:=b3C (l:=l) (i:=l.length-1) (by omega);have d:wrap .i64 (((l.length-1:Nat):Int)+1)=((l.length:Nat):Int):=by grind[a0B]
   have a:decide (((l.length:Nat):Int)<((l.length:Nat):Int))=false:=by simp
   simp_all[a5x])
 simp_all
theorem c8p{l:List Int}:(b0W l (l.length-1)).take (l.length-1)=dif l:=by
 simp_all[a48,a8J,b0W]
theorem b5g(y:o≤4)(x:o≤l.length)(g:short l)(r:l.all a0A=true):
  a4L (l,(o:Int))=some (bif (a2s o l).all a0A then(a2s o l,0)else([],6)):=by
 have q:l.length<1000000:=g;have h:=a1C (f:=a7N) (fun k:Nat=>((o:Int),(k:Int),a2s k l,())) o (b:=(a2s o l,()))
  (fun k v=>by
   have n:1≤(a2s k l).length:=by rw[a5S];omega
   have p:(a2s k l).length<1000000:=b4p g k;have j:decide ((k:Int)<(o:Int))=true:=by simp_all
   have w:=b3C (l:=a2s k l) (i:=(a2s k l).length-1) (by omega);have z:wrap .i64 ((((a2s k l).length:Nat):Int)-1)=(((a2s k l).length-1:Nat):Int):=by grind[a0B]
   have w2:wrap .i64 ((k:Int)+1)=((k+1:Nat):Int):=a0C (by omega);have s:decide ((0:Int)≤(((a2s k l).length-1:Nat):Int))=true:=by simp
   have t:decide ((((a2s k l).length-1:Nat):Int)≤(((a2s k l).length:Nat):Int))=true:=by simp
   have u:decide ((a2s k l).length-1≤(a2s k l).length)=true:=by simp
   simp_all[a2s,a7N,c6W,b4p,c8p])
  (by
   have j:decide ((o:Int)<(o:Int))=false:=by simp
   simp_all[a7N])
 have a:decide ((o:Int)<0)=false:=by simp
 have c:decide ((o:Int) > 4)=false:=by grind
 have d:decide (((l.length:Nat):Int)<(o:Int))=false:=by simp_all
 have e:lim l.length=true:=a0T (by omega);simp at h;have m:a2s 0 l=l:=rfl;rw[m]at h;unfold a4L;simp only[a,c,d,e,cF,cT,oB,a7n g,r,bT,h,a7n (b4p g o)]
 grind
def ex:Nat→(Nat→Int)→Nat→Int
 |0,f,i=>f i
 |o+1,f,i=>ex o f (i+1)-ex o f i
theorem b7u{l:List Int}(g:l.all a0A=true):∀(o i:Nat),i+o<l.length→(a2s o l)[i]?=some (W (ex o (fun j=>l.getD j 0) i))
 |0,i,h=>by
  simp_all[a2s,ex,b5E]
 |o+1,i,h=>by
  have f:=b7u g o i (by omega);have k:=b7u g o (i+1) (by omega);simp_all[a2s,ex,b9N,a8e]
theorem c8q(d:l.all a0A=true)(c:o≤4)(h:o+j<l.length):W (W (ex o (fun j=>l.getD j 0) j)+a6r o (l.take (o+j)))=l.getD (o+j) 0:=by
 have f:a0A (l.getD (o+j) 0)=true:=by
  simp_all
 have g:∀i:Nat,1≤i→i≤o→atB (l.take (o+j)) i=l.getD (o+j-i) 0:=fun i a b=>by
  simp[atB,a71 (a84 h),List.getElem?_take]
  grind
 have key:ex o (fun j=>l.getD j 0) j+a6r o (l.take (o+j))=l.getD (o+j) 0:=by
  have k:o=0∨o=1∨o=2∨o=3∨o=4:=by omega
  rcases k with rfl|rfl|rfl|rfl|rfl;simp[ex,a6r]
  all_goals grind[ex,a6r]
 have:W (W (ex o (fun j=>l.getD j 0) j)+a6r o (l.take (o+j)))=W (ex o (fun j=>l.getD j 0) j+a6r o (l.take (o+j))):=by
  simp_all[a8e]
 simp_all[b5E]
theorem c3o{l:List Int}(f:l.all a0A=true){o:Nat}(b:o≤4):∀(k j:Nat),o+j+k=l.length→a4l (a6r o) ((a2s o l).drop j) (l.take (o+j))=some l
 |0,j,h=>by
  rw[List.drop_of_length_le (by rw[a5S];omega),a48 (by omega)];rfl
 |k+1,j,h=>by
  have g:j<(a2s o l).length:=by rw[a5S];omega
  have a:=b7u f o j (by omega);rw[lG g]at a;have e:=Option.some.inj a;have c:l.getD (o+j) 0=l[o+j]:=by grind
  have st:=c8q f b (show o+j<l.length by omega);rw[c]at st;rw[a02 g,e];simp only[a4l,st,lA.1 f _ (a05 (show o+j<l.length by omega)),cT];have d:l.take (o+j)++[l[o+j]]=l.take (o+(j+1)):=by
   rw[show o+(j+1)=(o+j)+1 by rfl]
   simp
  rw[d];exact c3o f b k (j+1) (by omega)
theorem a7y{σ β:Type}{f:σ→Option (σ ⊕ β)}(I:Nat→σ→Prop)(Q:β→Prop)(n:Nat)(g:∀i s,i<n→I i s→∃s',f s=some (.inl s')∧I (i+1) s')
  (a:∀s,I n s→∃b,f s=some (.inr b)∧Q b):∀(k i:Nat)(s:σ),i+k=n→I i s→∃b,y0s f s=some b∧Q b
 |0,i,s,h,hi=>by
  obtain rfl:i=n:=by omega
  grind[a0F]
 |k+1,i,s,h,hi=>by
  obtain⟨s',c,d⟩:=g i s (by omega) hi;rw[a0E c];exact a7y I Q n g a k (i+1) s' (by omega) d
theorem b6K(y:Int):0≤wrap .u64 y∧wrap .u64 y<18446744073709551616:=by
 grind[wrap,IntKind.bits,IntKind.signed]
def b1A(n:Int)(x:Int):Bool:=a0A x&&!(a26 x (A0n .i64 1 n) != 0)
def b4q{β:Type}(n:Int)(bad:β)(out:List Int)(x:Int):List Int ⊕ β:=bif b1A n x then .inl (out++[A0o .i64 x n])else .inr bad
def b0J(n:Int)(l:List Int):Option (List Int):=bif l.all (b1A n)then some (l.map fun x=>A0o .i64 x n)else none
theorem b5h{β:Type}(n:Int)(h:β)(g:List Int→β):∀(l out:List Int),a8c g (a2U (b4q n h) l out)=match b0J n l with|some r=>g (out++r)|none=>h
 | [],out=>by grind[a2U,a8c,b0J]
 |x::l,out=>by
  simp only[a2U,b4q,b0J,a07];cases hx:b1A n x with
  |true=>
   simp only[cT,a39];rw[b5h n h g l _];simp only[b0J];cases l.all (b1A n)with
   |true=>simp
   |false=>rfl
  |false=>rfl
theorem c3p{o:Nat}(h:o≤30):A0n .i64 1 (o:Int)=((2^o:Nat):Int):=by
 have g:2^o≤2^30:=a08 (by omega) h
 have:=b7r (N:=1) (o:=o) (by omega) (by omega)
 simp_all
theorem b3R(d:o≤30)(m:l.length<100000):a7g (l,(o:Int))=some (a5f (b0J (o:Int) l)):=by
 have e:short l:=by unfold short;omega
 have g:¬ (o:Int)<0:=by omega
 have b:¬ (o:Int) > 30:=by omega
 have c:(A0n .i64 (1:Int) (o:Int)==0)=false:=by
  rw[c3p d]
  have:0<2^o:=a16 o
  grind
 unfold a7g;simp[g,b]
 have:=a1M (f:=a6N) l (fun i out=>((o:Int),l,(l.length:Int),(i:Int),out,())) (b4q (o:Int) (Sum.inr ((6:Int),([]:List Int),())))
  (fun i out=>out.length=i) (fun out=>Sum.inl (out,()))
  (fun i h out j=>by
   have k:i<1000000:=by omega
   simp only[a6N,dlt h,cT,a0D h,oB,b3J,b4q,b1A,g,c,decide_false,cF];cases hb:a0A l[i]with
   |true=>
    cases hb2:(a26 l[i] (A0n .i64 1 (o:Int)) != 0)with
    |false=>
     simp only[cT,bT,cF,oB,g,decide_false,a0U (show out.length+1<1000000 by omega),a0C k,a03,a36,hb2];simp_all
    |true=>
     simp
   |false=>
    simp)
  (fun out _=>by simp[a6N]) (a:=[]) rfl
 simp[b5h]at this;rw[this];cases b0J (o:Int) l<;>rfl
theorem b7v{o:Nat}(h:o≤30){x:Int}(k:b1A (o:Int) x=true):a0A (A0o .i64 x (o:Int))=true∧A0n .i64 (A0o .i64 x (o:Int)) (o:Int)=x∧a0A x=true:=by
 simp only[b1A,c3p h,bA,a33,bne_eq_false_iff_eq]at k;obtain⟨f,d⟩:=k;obtain⟨c,rfl⟩:=Int.dvd_of_tmod_eq_zero d;have g:=a1N.1 f;have e:min (a42 (o:Int)) (IntKind.bits .i64)=o:=by grind[IntKind.bits]
 have hp:(0:Int)<2^o:=Int.pow_pos (by omega);have b:((2^o:Nat):Int)=2^o:=by simp
 rw[b]at g f⊢;have a:A0o .i64 (2^o*c) (o:Int)=c:=by
  unfold A0o
  grind[a64]
 rw[a];refine⟨a1N.2 ?_,?_,f⟩;generalize (2:Int)^o=p at hp g;have i:p*c=(p-1)*c+c:=by grind
 by_cases hc:0≤c
 have:=a47 (show 0≤p-1 by omega) hc
 omega
 have:=a47 (show 0≤p-1 by omega) (show 0≤-c by omega)
 grind
 grind[A0n,a0B]
theorem d2c(h:o≤30)(f:b0J (o:Int) l=some d):d.all a0A=true∧d.length=l.length∧upO (o:Int) d=some l:=by
 unfold b0J at f;cases ha:l.all (b1A (o:Int))with
 |false=>simp_all
 |true=>
  rw[ha]at f;simp at f;subst f;have g:=lA.1 ha;refine⟨?_,by simp,?_⟩;simp_all[b7v];have a:(l.map fun x=>A0o .i64 x (o:Int)).all (fun x=>a0A x&&a0A (A0n .i64 x (o:Int)))=true:=by
   simp only[List.all_map];refine lA.2 fun x k=>?_
   obtain⟨c,e,i⟩:=b7v h (g x k);simp_all
  unfold upO;rw[a]
  simp
  have b:l.map ((fun x=>A0n .i64 x (o:Int))∘fun x=>A0o .i64 x (o:Int))=l.map id:=List.map_congr_left (fun x k=>(b7v h (g x k)).2.1);simp_all
theorem c6X{n warm:Int}(h:a6t n warm=true):(a1Q 0 n warm).length≠0:=by
 have g:=h;simp[a6t]at g
 grind[a1Q,b3L]
theorem c6Y(h:-1048576≤x∧x≤1048575):v0s (v0r x (-1048576)) 1048575=x:=by
 unfold v0s v0r
 grind
theorem d5w(h:a0A x=true):-1048576≤A0o .i64 x ((10:Nat):Int)∧A0o .i64 x ((10:Nat):Int)≤1048575:=by
 have g:=a1N.1 h;have e:A0o .i64 x ((10:Nat):Int)=x / 1024:=by
  show a80 x 1024=_
  grind
 omega
theorem c0K{x:Int}(f:a0A x=true){a l:List Int}{n i:Int}:∀(k s:Nat),s+k=10→∃s':Nat,s'≤10∧y0s a3C (a,(s:Int),x,l,n,i,())=some (a,(s':Int),l,n,i,())
 |0,s,h=>by
  obtain rfl:s=10:=by omega
  have g:decide (((10:Nat):Int)<0)=false:=by rfl
  have d:=c6Y (d5w f);refine⟨10,a27 _,a0F ?_⟩;simp_all[a3C,a2K]
 |k+1,s,h=>by
  have g:decide ((s:Int)<0)=false:=decide_eq_false (by omega);cases hc:(v0s (v0r (A0o .i64 x (s:Int)) (-1048576)) 1048575 != A0o .i64 x (s:Int))with
  |false=>exact⟨s,by omega,a0F (by simp only[a3C,g,cF,a2K,oB,hc])⟩
  |true=>
   obtain⟨s',b,c⟩:=c0K f (a:=a) (l:=l) (n:=n) (i:=i) k (s+1) (by omega);refine⟨s',b,?_⟩;rw[a0E (s':=(a,((s+1:Nat):Int),x,l,n,i,())) (by simp only[a3C,g,cF,a2K,oB,hc,cT,a0C (show s<1000000 by omega)])];omega
theorem c5k(v:l.all a0A=true)(z:l.length<100000):∃r,a7O l=some r∧r.length=l.length:=by
 obtain⟨b,x,s,y,u⟩:=a7y (f:=a5y) (fun i st=>∃s:Nat,s≤10∧st=(l,(s:Int),l,(l.length:Int),(i:Int),())) (fun b=>∃s:Nat,s≤10∧b=(l,(s:Int),())) l.length
  (fun i st hi h=>by
   obtain⟨s,p,rfl⟩:=h;obtain⟨s',g,e⟩:=c0K (lA.1 v _ (a05 hi)) (a:=l) (l:=l) (n:=(l.length:Int)) (i:=(i:Int)) (10-s) s (by omega);exact⟨_,by simp only[a5y,dlt hi,cT,a0D hi,oB,e,a0C (show i<1000000 by omega)]<;>rfl,s',g,rfl⟩)
  (fun st h=>by
   obtain⟨s,p,rfl⟩:=h;exact⟨_,by simp_all[a5y],s,p,rfl⟩) l.length 0 _ (by omega) ⟨0,by omega,rfl⟩
 subst u;obtain⟨c,w,o,q,t⟩:=a7y (f:=a5z) (fun i st=>∃o:List Int,st=((s:Int),l,(l.length:Int),(i:Int),o,())∧o.length=l.length) (fun b=>∃o:List Int,b=(o,())∧o.length=l.length) l.length
  (fun i st hi h=>by
   obtain⟨o,rfl,m⟩:=h;have k:decide ((s:Int)<0)=false:=decide_eq_false (by omega);have d:decide ((0:Int)≤(i:Int))=true:=by simp
   have j:decide ((i:Int)<((o.length:Nat):Int))=true:=decide_eq_true (by omega);exact⟨_,by simp only[a5z,dlt hi,cT,a0D hi,oB,k,cF,d,j,a03,a0C (show i<1000000 by omega)]<;>rfl,_,rfl,by grind⟩)
  (fun st h=>by
   obtain⟨o,rfl,m⟩:=h;exact⟨_,by simp_all[a5z],o,rfl,m⟩) l.length 0 _ (by omega) ⟨a00 l.length 0,rfl,by simp⟩
 subst q;refine⟨o,?_,t⟩;have k:decide ((0:Int)≤((l.length:Nat):Int))=true:=by simp
 have d:decide (((l.length:Nat):Int)≤((l.length:Nat):Int))=true:=by simp
 have j:lim l.length=true:=a0U (by omega);simp_all[a7O]
theorem b8m:∀(N:Nat)(num den:Int),den.toNat≤N→∃a b,y0s a3u (num,den,())=some (a,b,())
 |N,num,den,h=>by
  by_cases hd:den≥1099511627776
  ·have g:decide (den≥(1099511627776:Int))=true:=decide_eq_true hd;have e:A0o .i64 den 1=den / 2:=by
    show a80 den 2=_
    grind
   rw[a0E (s':=(A0o .i64 num 1,den / 2,())) (by simp_all[a3u])]
   match N with
   |0=>omega
   |N+1=>exact b8m N _ _ (by omega)
  have g:decide (den≥(1099511627776:Int))=false:=decide_eq_false hd;exact⟨num,den,a0F (by simp only[a3u,g,cF])⟩
theorem b8n{f:List Int}(t:1≤m)(r:g.length=f.length)(s:f.length<100000)(q:m<1000):∃k,a5a (f,g,(m:Int))=some k:=by
 obtain⟨b,n,d,den,o⟩:=a7y (f:=a3t) (fun i st=>∃d den:Int,st=(f,g,d,den,((m+i:Nat):Int),())) (fun b=>∃d den:Int,b=(d,den,())) (f.length-m)
  (fun i st hi h=>by
   obtain⟨d,den,rfl⟩:=h;have j:m+i<f.length:=by omega
   have e:wrap .i64 (((m+i:Nat):Int)-1)=((m+i-1:Nat):Int):=by grind[a0B]
   exact⟨_,by simp only[a3t,dlt j,cT,a0D j,e,a0D (show m+i-1<g.length by omega),oB,a0C (show m+i<1000000 by omega)]<;>rfl,_,_,rfl⟩)
  (fun st h=>by
   obtain⟨d,den,rfl⟩:=h;have l:decide (((m+(f.length-m):Nat):Int)<((f.length:Nat):Int))=false:=decide_eq_false (by omega);exact⟨_,by simp only[a3t,l,cF]<;>rfl,_,_,rfl⟩) (f.length-m) 0 (f,g,0,0,(m:Int),()) (by omega) ⟨0,0,rfl⟩
 subst o;obtain⟨a,c,p⟩:=b8m den.toNat d den (a27 _);unfold a5a;simp[n,p];cases hc:(c==0)with
 |true=>simp
 |false=>
  simp
  cases decide ((A0n .i64 a 15).tmod c<0)<;>exact⟨_,rfl⟩
theorem c1Z{f:List Int}{order:Int}(x:1≤m)(r:g.length=f.length)(w:f.length<100000)(s:m<1000):
  ∃f' a:List Int,y0s a3k (order,(m:Int),k,((f.length:Nat):Int)-1,f,g,ks,())=some (order,(m:Int),f',a,ks,())∧f'.length=f.length∧a.length=f.length:=by
 obtain⟨b,t,f',a,u,v⟩:=a7y (f:=a3k) (fun i st=>∃f' a:List Int,st=(order,(m:Int),k,((f.length:Nat):Int)-1-(i:Int),f',a,ks,())∧f'.length=f.length∧a.length=f.length)
  (fun b=>∃f' a:List Int,b=(order,(m:Int),f',a,ks,())∧f'.length=f.length∧a.length=f.length) (f.length-m)
  (fun i st hi h=>by
   obtain⟨f',a,rfl,c,d⟩:=h;have j:decide (((f.length:Nat):Int)-1-(i:Int)≥(m:Int))=true:=decide_eq_true (by omega);have l:decide ((0:Int)≤((f.length:Nat):Int)-1-(i:Int))=true:=decide_eq_true (by omega);have n:decide (((f.length:Nat):Int)-1-(i:Int)<((f'.length:Nat):Int))=true:=decide_eq_true (by omega);have o:decide (((f.length:Nat):Int)-1-(i:Int)<((a.length:Nat):Int))=true:=decide_eq_true (by omega);have e:wrap .i64 (((f.length:Nat):Int)-1-(i:Int)-1)=((f.length:Nat):Int)-1-((i+1:Nat):Int):=by grind[a0B]
   have p:decide ((0:Int)≤((f.length:Nat):Int)-1-((i+1:Nat):Int))=true:=decide_eq_true (by omega);have q:decide (((f.length:Nat):Int)-1-((i+1:Nat):Int)<((a.length:Nat):Int))=true:=decide_eq_true (by omega);exact⟨_,by simp only[a3k,j,l,n,o,e,p,q,cT,a03,a2K,oB]<;>rfl,_,_,rfl,by simp_all,by simp_all⟩)
  (fun st h=>by
   obtain⟨f',a,rfl,c,d⟩:=h;have j:decide (((f.length:Nat):Int)-1-((f.length-m:Nat):Int)≥(m:Int))=false:=decide_eq_false (by omega);exact⟨_,by simp only[a3k,j,cF]<;>rfl,f',a,rfl,c,d⟩) (f.length-m) 0 _ (by omega) ⟨f,g,rfl,rfl,r⟩
 grind
theorem c3q{f:List Int}(x:o≤32)(v:g.length=f.length)(w:f.length<100000):∃ks:List Int,y0s a3l ((o:Int),(1:Int),f,g,([]:List Int),())=some (ks,())∧ks.length=o:=by
 obtain⟨b,p,ks,t,u⟩:=a7y (f:=a3l) (fun i st=>∃f' a ks:List Int,st=((o:Int),((i+1:Nat):Int),f',a,ks,())∧f'.length=f.length∧a.length=f.length∧ks.length=i)
  (fun b=>∃ks:List Int,b=(ks,())∧ks.length=o) o
  (fun i st hi h=>by
   obtain⟨f',a,ks,rfl,j,l,q⟩:=h;have d:decide (((i+1:Nat):Int)≤(o:Int))=true:=decide_eq_true (by omega);obtain⟨k,n⟩:=b8n (f:=f') (g:=a) (m:=i+1) (by omega) (by omega) (by omega) (by omega);have e:wrap .i64 (((f'.length:Nat):Int)-1)=((f'.length:Nat):Int)-1:=a0B (by omega);obtain⟨r,s,p,t,u⟩:=c1Z (f:=f') (g:=a) (ks:=ks++[k]) (m:=i+1) (order:=(o:Int)) (k:=k) (by omega) (by omega) (by omega) (by omega);have c:lim (ks.length+1)=true:=a0U (by omega);exact⟨_,by simp only[a3l,d,cT,n,oB,c,e,a06,p,a0C (show i+1<1000000 by omega)]<;>rfl,r,s,ks++[k],rfl,by omega,by omega,by grind⟩)
  (fun st h=>by
   obtain⟨f',a,ks,rfl,j,l,q⟩:=h;have d:decide (((o+1:Nat):Int)≤(o:Int))=false:=decide_eq_false (by omega);exact⟨_,by simp only[a3l,d,cF]<;>rfl,ks,rfl,q⟩) o 0 _ (by omega) ⟨f,g,[],rfl,rfl,v,rfl⟩
 simp_all
theorem c3r(h:l.all a0A=true)(t:l.length≤4096)(s:1≤o)(m:o≤32):∃ks:List Int,a6O (l,(o:Int))=some (ks,0)∧ks.length=o:=by
 have p:short l:=by unfold short;omega
 obtain⟨r,e,q⟩:=c5k h (by omega);have n:short r:=by unfold short;omega
 obtain⟨ks,i,j⟩:=c3q (f:=r) (g:=r) m rfl (by omega);have k:decide ((o:Int)<1)=false:=decide_eq_false (by omega);have a:decide ((o:Int) > 32)=false:=decide_eq_false (by omega);have b:decide (((l.length:Nat):Int) > 4096)=false:=decide_eq_false (by omega);have c:decide ((0:Int)≤(o:Int))=true:=by simp
 have d:lim o=true:=a0U (by omega);refine⟨ks,?_,j⟩;unfold a6O;simp only[k,a,b,c,d,cF,cT,oB,a6d p,h,bT,e,a8f n,tN,a03,i]
theorem b2M{σ β:Type}{f:σ→Option (σ ⊕ β)}(I:Nat→σ→Prop)(Q:β→Prop)(n:Nat)(g:∀i s,i<n→I i s→(∃s',f s=some (.inl s')∧I (i+1) s')∨(∃b,f s=some (.inr b)∧Q b))
  (a:∀s,I n s→∃b,f s=some (.inr b)∧Q b):∀(k i:Nat)(s:σ),i+k=n→I i s→∃b,y0s f s=some b∧Q b
 |0,i,s,h,hi=>by
  obtain rfl:i=n:=by omega
  grind[a0F]
 |k+1,i,s,h,hi=>by
  rcases g i s (by omega) hi with⟨s',c,d⟩|⟨b,c,d⟩;rw[a0E c];exact b2M I Q n g a k (i+1) s' (by omega) d;simp_all[a0F]
theorem c5l(g:ks.length≤32):∃b,y0s a2m (ks,ks,(ks.length:Int),(0:Int),())=some b∧(b=.inl (ks,())∨b=.inr (([]:List Int),(1:Int),())):=
 b2M (f:=a2m) (fun i s=>s=(ks,ks,(ks.length:Int),(i:Int),())) (fun b=>b=.inl (ks,())∨b=.inr (([]:List Int),(1:Int),())) ks.length
  (fun i s hi h=>by
   subst h;cases h1:decide (ks[i]<(-16383:Int))with
   |true=>exact Or.inr ⟨_,by simp_all[a2m,a0D],Or.inr rfl⟩
   |false=>
    cases h2:decide (ks[i] > (16383:Int))with
    |true=>exact Or.inr ⟨_,by simp_all[a2m,a0D],Or.inr rfl⟩
    |false=>exact Or.inl ⟨_,by simp only[a2m,dlt hi,cT,cF,a0D hi,oB,h1,h2,a0C (show i<1000000 by omega)]<;>rfl,rfl⟩)
  (fun s h=>by
   subst h;exact⟨_,by simp_all[a2m],Or.inl rfl⟩) ks.length 0 _ (by omega) rfl
theorem c5m{a:List Int}(t:c.length=i)(hi:i≤32):
  ∃g:List Int,y0s a4d (c,(i:Int),k,a,n,(i:Int),c,(c.length:Int),(0:Int),([]:List Int),())=some (k,a,n,(i:Int),g,())∧g.length=i:=by
 obtain⟨b,p,g,q,r⟩:=a7y (f:=a4d) (fun j s=>∃g:List Int,s=(c,(i:Int),k,a,n,(i:Int),c,(c.length:Int),(j:Int),g,())∧g.length=j)
  (fun b=>∃g:List Int,b=(k,a,n,(i:Int),g,())∧g.length=c.length) c.length
  (fun j s e h=>by
   obtain⟨g,rfl,l⟩:=h;have m:wrap .i64 ((i:Int)-1)=(i:Int)-1:=a0B (by omega);have o:wrap .i64 ((i:Int)-1-(j:Int))=((i-1-j:Nat):Int):=by grind[a0B]
   have d:lim (g.length+1)=true:=a0U (by omega);exact⟨_,by simp only[a4d,dlt e,cT,a0D e,oB,m,o,a0D (show i-1-j<c.length by omega),d,a0C (show j<1000000 by omega),a06]<;>rfl,_,rfl,by grind⟩)
  (fun s h=>by
   obtain⟨g,rfl,l⟩:=h;exact⟨_,by simp_all[a4d],g,rfl,l⟩) c.length 0 _ (by omega) ⟨[],rfl,rfl⟩
 simp_all
theorem c6Z(x:1≤ks.length)(v:ks.length≤32):∃c e,a8w ks=some (c,e)∧(e=0→c.length=ks.length):=by
 obtain⟨b,o,p⟩:=c5l v;have d:decide (((ks.length:Nat):Int)<1)=false:=decide_eq_false (by omega);have j:decide (((ks.length:Nat):Int) > 32)=false:=decide_eq_false (by omega);unfold a8w;simp[d,j,o];rcases p with rfl|rfl;obtain⟨r,q,c,t,u⟩:=a7y (f:=a5Z) (fun i s=>∃c:List Int,s=(c,ks,(ks.length:Int),(i:Int),())∧c.length=i) (fun r=>∃c:List Int,r=(c,())∧c.length=ks.length) ks.length
  (fun i s hi h=>by
   obtain⟨c,rfl,g⟩:=h;have m:wrap .i64 ((i:Int)+1)=((i+1:Nat):Int):=a0C (by omega);have l:decide ((0:Int)≤((i+1:Nat):Int))=true:=by rfl
   have l1:lim (i+1)=true:=a0U (by omega);obtain⟨w,n1,n2⟩:=c5m (c:=c) (a:=ks) (i:=i) (k:=ks[i]) (n:=(ks.length:Int)) g (by omega);have l2:lim (w.length+1)=true:=a0U (by omega);exact⟨_,by simp only[a5Z,dlt hi,cT,a0D hi,oB,m,l,tN,l1,a03,n1,l2,a06]<;>rfl,_,rfl,by grind⟩)
  (fun s h=>by
   obtain⟨c,rfl,g⟩:=h;exact⟨_,by simp_all[a5Z],c,rfl,g⟩) ks.length 0 _ (by omega) ⟨[],rfl,rfl⟩
 subst t;simp at q;exact⟨c,0,by simp_all,fun _=>u⟩
 grind
theorem c5n{s:Nat}{half:Int}(m:c.length≤32)(d:w≤32):
  ∃out:List Int,y0s a2o (c,(w:Int),(s:Int),half,c,(c.length:Int),(0:Int),([]:List Int),())=some (c,(w:Int),(s:Int),out,()):=by
 obtain⟨b,i,out,l⟩:=b2M (f:=a2o) (fun j st=>∃out:List Int,st=(c,(w:Int),(s:Int),half,c,(c.length:Int),(j:Int),out,())∧out.length=j)
  (fun b=>∃out:List Int,b=(c,(w:Int),(s:Int),out,())) c.length
  (fun j st k h=>by
   obtain⟨out,rfl,e⟩:=h;have a:decide ((s:Int)<0)=false:=decide_eq_false (by omega);have g:lim (out.length+1)=true:=a0U (by omega);cases hf:a1h (A0o .i64 (wrap .i64 (c[j]+half)) (s:Int)) (w:Int)with
   |true=>exact Or.inl ⟨_,by simp only[a2o,dlt k,cT,a0D k,oB,a,cF,a6v d,hf,bT,g,a0C (show j<1000000 by omega),a06]<;>rfl,_,rfl,by grind⟩
   |false=>exact Or.inr ⟨_,by simp only[a2o,dlt k,cT,a0D k,oB,a,cF,a6v d,hf,a36]<;>rfl,out,rfl⟩)
  (fun st h=>by
   obtain⟨out,rfl,e⟩:=h;exact⟨_,by simp_all[a2o],out,rfl⟩) c.length 0 _ (by omega) ⟨[],rfl,rfl⟩
 simp_all
theorem c5o{w:Int}(g:c.length≤32):∃b,y0s a2n (c,w,c,(c.length:Int),(0:Int),())=some b∧(b=.inl (c,w,())∨b=.inr ((0:Int),(1:Int),([]:List Int),())):=
 b2M (f:=a2n) (fun i s=>s=(c,w,c,(c.length:Int),(i:Int),())) (fun b=>b=.inl (c,w,())∨b=.inr ((0:Int),(1:Int),([]:List Int),())) c.length
  (fun i s hi h=>by
   subst h;cases h1:decide (c[i]<(-35184372088832:Int))with
   |true=>exact Or.inr ⟨_,by simp_all[a2n,a0D],Or.inr rfl⟩
   |false=>
    cases h2:decide (c[i] > (35184372088832:Int))with
    |true=>exact Or.inr ⟨_,by simp_all[a2n,a0D],Or.inr rfl⟩
    |false=>exact Or.inl ⟨_,by simp only[a2n,dlt hi,cT,cF,a0D hi,oB,h1,h2,a0C (show i<1000000 by omega)]<;>rfl,rfl⟩)
  (fun s h=>by
   subst h;exact⟨_,by simp_all[a2n],Or.inl rfl⟩) c.length 0 _ (by omega) rfl
theorem c7a(y:1≤c.length)(m:c.length≤32)(A:2≤w∧w≤16):∃o sh e,a8x (c,(w:Int))=some (o,sh,e)∧(e=0→o.length=c.length):=by
 obtain⟨b,u,v⟩:=c5o (w:=(w:Int)) m;have n:decide (((c.length:Nat):Int)<1)=false:=decide_eq_false (by omega);have p:decide (((c.length:Nat):Int) > 32)=false:=decide_eq_false (by omega);have q:decide ((w:Int)<2)=false:=decide_eq_false (by omega);have t:decide ((w:Int) > 16)=false:=decide_eq_false (by omega);unfold a8x;simp[n,p,q,t,u];rcases v with rfl|rfl
 ·obtain⟨r,z,x⟩:=b2M (f:=a2Z) (fun i s=>s=(c,(w:Int),(i:Int),())) (fun r=>r=.inl ()∨∃(sh:Int)(o:List Int),r=.inr (sh,(0:Int),o,())∧o.length=c.length) 15
   (fun i s hi h=>by
    subst h;have a:decide ((i:Int)≤14)=true:=decide_eq_true (by omega);have d:decide ((0:Int)≤((c.length:Nat):Int))=true:=by simp
    have l1:lim c.length=true:=a0U (by omega);have step:∀g:Int,∃o:List Int,y0s a2o (c,(w:Int),(i:Int),g,c,(c.length:Int),(0:Int),([]:List Int),())=some (c,(w:Int),(i:Int),o,()):=fun g=>c5n m (by omega)
    by_cases hp:(i:Int) > 0
    ·have l:wrap .i64 ((i:Int)-1)=(i:Int)-1:=a0B (by omega);have j:decide ((i:Int)-1<0)=false:=decide_eq_false (by omega);obtain⟨o,k⟩:=step (A0n .i64 1 ((i:Int)-1));cases hc:((((o.length:Nat):Int))==((c.length:Nat):Int))with
     |true=>exact Or.inr ⟨_,by simp only[a2Z,a,cT,hp,decide_true,l,j,cF,oB,d,tN,l1,a03,k,hc]<;>rfl,Or.inr ⟨_,o,rfl,by grind⟩⟩
     |false=>exact Or.inl ⟨_,by simp only[a2Z,a,cT,hp,decide_true,l,j,cF,oB,d,tN,l1,a03,k,hc,a0C (show i<1000000 by omega)]<;>rfl,rfl⟩
    ·obtain⟨o,k⟩:=step 0;cases hc:((((o.length:Nat):Int))==((c.length:Nat):Int))with
     |true=>exact Or.inr ⟨_,by simp only[a2Z,a,cT,hp,decide_false,cF,oB,d,tN,l1,a03,k,hc]<;>rfl,Or.inr ⟨_,o,rfl,by grind⟩⟩
     |false=>exact Or.inl ⟨_,by simp only[a2Z,a,cT,hp,decide_false,cF,oB,d,tN,l1,a03,k,hc,a0C (show i<1000000 by omega)]<;>rfl,rfl⟩)
   (fun s h=>by
    subst h;have a:decide (((15:Nat):Int)≤14)=false:=by rfl
    exact⟨_,by rfl,Or.inl rfl⟩) 15 0 (c,(w:Int),(0:Int),()) (by rfl) rfl
  rcases x with rfl|⟨sh,o,rfl,k⟩;exact⟨[],0,6,by simp_all,fun h=>absurd h (by simp)⟩;exact⟨o,sh,0,by simp_all,fun _=>k⟩
 grind
theorem c8r(j:l.all a0A=true)(d:l.length≤4096)(k:1≤o)(a:o≤32)(b:2≤w∧w≤16):∃c sh e,a3U (l,(o:Int),(w:Int))=some (c,sh,e)∧(e=0→c.length=o):=by
 obtain⟨ks,g,n⟩:=c3r j d k a;obtain⟨c,e,f,p⟩:=c6Z (ks:=ks) (by omega) (by omega);unfold a3U;simp[g,f]
 by_cases he:e=0
 subst he;obtain⟨s,sh,m,q,r⟩:=c7a (c:=c) (w:=w) (by omega) (by omega) b
 grind
 have i:(e != 0)=true:=by simp_all
 exact⟨[],0,e,by grind,fun h=>absurd h he⟩
theorem c7b(a:l.length<100000)(c:o≤4):∃v,a9r (l,(o:Int))=some v:=by
 obtain⟨b,g,v,k⟩:=a7y (f:=a4M) (fun i s=>∃v:Int,s=((o:Int),v,l,(l.length:Int),(i:Int),())) (fun b=>∃v:Int,b=(v,())) l.length
  (fun i s hi h=>by
   obtain⟨v,rfl⟩:=h;cases hc:decide (wrap .i64 ((i:Int)+(o:Int))≥4)with
   |true=>exact⟨_,by simp only[a4M,dlt hi,cT,a0D hi,oB,hc,a0C (show i<1000000 by omega)]<;>rfl,_,rfl⟩
   |false=>exact⟨_,by simp only[a4M,dlt hi,cT,cF,a0D hi,oB,hc,a0C (show i<1000000 by omega)]<;>rfl,_,rfl⟩)
  (fun s h=>by
   obtain⟨v,rfl⟩:=h;exact⟨_,by simp_all[a4M],v,rfl⟩) l.length 0 ((o:Int),(0:Int),l,(l.length:Int),(0:Int),()) (by omega) ⟨0,rfl⟩
 simp_all[a9r]
theorem b8o(h:o≤4)(b:l.length<100000)(g:l.all a0A=true):∃r e,a4L (l,(o:Int))=some (r,e)∧r.length≤l.length:=by
 by_cases hn:o≤l.length
 ·rw[b5g h hn (by unfold short;omega) g];cases (a2s o l).all a0A with
  |true=>exact⟨_,_,rfl,by rw[a5S];omega⟩
  |false=>simp
 have f:decide ((o:Int)<0)=false:=decide_eq_false (by omega);have k:decide ((o:Int) > 4)=false:=decide_eq_false (by omega);have a:decide (((l.length:Nat):Int)<(o:Int))=true:=decide_eq_true (by omega);simp_all[a4L]
theorem b8p(d:l.length<100000)(j:l.all a0A=true):∃o:Nat,a6n l=some (o:Int)∧o≤4:=by
 obtain⟨b,n,o,p,q⟩:=a7y (f:=a3M) (fun i s=>∃(o:Nat)(v:Int),s=(l,(o:Int),v,(i:Int),())∧o≤4) (fun b=>∃o:Nat,b=((o:Int),())∧o≤4) 5
  (fun i s hi h=>by
   obtain⟨o,v,rfl,a⟩:=h;have g:decide ((i:Int)≤4)=true:=decide_eq_true (by omega);obtain⟨r,e,k,m⟩:=b8o (o:=i) (by omega) d j;obtain⟨y,c⟩:=c7b (l:=r) (o:=i) (by omega) (by omega);cases hc:(e != 0)with
   |true=>exact⟨_,by simp only[a3M,g,cT,k,oB,hc,a0C (show i<1000000 by omega)]<;>rfl,o,v,rfl,a⟩
   |false=>
    cases h4:decide (v<0)with
    |true=>exact⟨_,by simp only[a3M,g,cT,cF,k,oB,hc,c,h4,a0C (show i<1000000 by omega)]<;>rfl,i,y,rfl,by omega⟩
    |false=>
     cases h5:decide (y<v)with
     |true=>exact⟨_,by simp only[a3M,g,cT,cF,k,oB,hc,c,h4,h5,a0C (show i<1000000 by omega)]<;>rfl,i,y,rfl,by omega⟩
     |false=>exact⟨_,by simp only[a3M,g,cT,cF,k,oB,hc,c,h4,h5,a0C (show i<1000000 by omega)]<;>rfl,o,v,rfl,a⟩)
  (fun s h=>by
   obtain⟨o,v,rfl,a⟩:=h;have g:decide (((5:Nat):Int)≤4)=false:=by rfl
   exact⟨_,by rfl,o,rfl,a⟩) 5 0 (l,(0:Int),(-1:Int),(0:Int),()) (by rfl) ⟨0,-1,rfl,by omega⟩
 grind[a6n]
def a9w(g:List Int→Int):List Int→List Int→List Int
 | [],_=>[]
 |x::r,done=>W (x-g done)::a9w g r (done++[x])
theorem b2N(g:List Int→Int):∀r done,(a9w g r done).length=r.length
 | [],_=>rfl
 |x::r,done=>by simp[a9w,b2N g r]
theorem c8s{x g:Int}(h:a0A x=true):W (W (x-g)+g)=x:=by
 have:=b5E h
 simp_all[a8e]
theorem b4r(g:List Int→Int):∀(r done:List Int),r.all a0A=true→a4l g (a9w g r done) done=some (done++r)
 | [],done,_=>by simp[a9w,a4l]
 |x::r,done,h=>by
  rw[a07,bA]at h;simp only[a9w,a4l,c8s h.1,h.1,cT,b4r g r (done++[x]) h.2,aA,a75]
def b1B(g:List Int→Int)(r done:List Int):Option (List Int):=bif (a9w g r done).all a0A then some (a9w g r done)else none
def b3i{β:Type}(g:List Int→Int)(bad:β)(a:List Int×List Int)(x:Int):(List Int×List Int) ⊕ β:=
 bif a0A (W (x-g a.1))then .inl (a.1++[x],a.2++[W (x-g a.1)])else .inr bad
theorem b4s{β:Type}(g:List Int→Int)(f:β)(k:List Int×List Int→β):∀(r done acc:List Int),
  a8c k (a2U (b3i g f) r (done,acc))=match b1B g r done with|some e=>k (done++r,acc++e)|none=>f
 | [],done,acc=>by grind[a2U,a8c,b1B,a9w]
 |x::r,done,acc=>by
  simp[a2U,b3i];cases h:a0A (W (x-g done))with
  |true=>
   simp
   rw[b4s g f k r];simp only[b1B,a9w,a07,h,a39]
   grind
  |false=>simp_all[a8c,b1B,a9w]
theorem b8q{g:List Int→Int}{done e:List Int}(h:b1B g r done=some e):e=a9w g r done∧e.all a0A=true:=by
 unfold b1B at h
 grind
theorem c0L(h:i<l.length):l.take i++[l[i]]=l.take (i+1):=by simp
theorem b7w{l:List Int}{p:Int→Bool}(h:l.all p=true)(i:Nat):(l.take i).all p=true:=by
 grind
theorem c9I{p:Int→Bool}(h:l.all p=true)(i:Nat):(l.drop i).all p=true:=by
 grind
theorem c0M{σ β:Type}{f:σ→Option (σ ⊕ β)}(l:List Int)(k:Nat)(q:k≤l.length)(S:Nat→List Int→σ)(g:List Int×List Int→Int→(List Int×List Int) ⊕ β)(d:List Int→β)
  (j:∀i (h:i<l.length) c,k≤i→c.length=i-k→(∀a',g (l.take i,c) l[i]=.inl a'→f (S i c)=some (.inl (S (i+1) a'.2))∧a'.1=l.take (i+1)∧a'.2.length=i+1-k)∧(∀b,g (l.take i,c) l[i]=.inr b→f (S i c)=some (.inr b)))
  (e:∀c,c.length=l.length-k→f (S l.length c)=some (.inr (d c))):y0s f (S k [])=some (a8c (fun a=>d a.2) (a2U g (l.drop k) (l.take k,[]))):=by
 have h:=a1M (f:=f) (l.drop k) (fun i a=>S (k+i) a.2) g (fun i a=>a.1=l.take (k+i)∧a.2.length=i) (fun a=>d a.2)
  (fun i hi a n=>by
   obtain⟨a1,c⟩:=a;obtain⟨m,o⟩:=n;simp only at m o;subst m;rw[a52]at hi;have p:k+i<l.length:=by omega
   grind)
  (fun a n=>by
   simp_all) (a:=(l.take k,[])) ⟨by simp,rfl⟩
 omega
def b4t(l c:List Int)(s:Int):Option (List Int):=bif l.all a0A then b1B (b0S c s) (l.drop c.length) (l.take c.length)else none
theorem b3S{s:Int}(v:a9z c s=true)(t:c.length≤l.length)(y:l.length<100000):
  a7h (l,c,s)=some (a5f (b4t l c s)):=by
 have m:short l:=by unfold short;omega
 have k:short c:=by unfold short;omega
 have d:0≤s:=by simp_all[a9z]
 have o:decide (((l.length:Nat):Int)<((c.length:Nat):Int))=false:=by simp_all
 unfold a7h b4t;simp only[a9t k,v,oB,bT,cF,o,a6d m];cases hw:l.all a0A with
 |false=>rfl
 |true=>
  have p:wrap .i64 (((l.length:Nat):Int)-((c.length:Nat):Int))=((l.length-c.length:Nat):Int):=by grind[a0B]
  have x:decide ((0:Int)≤((l.length-c.length:Nat):Int))=true:=by simp
  have q:lim (l.length-c.length)=true:=a0U (by omega);simp[p,q]
  have:=c0M (f:=a4N) l c.length t (fun i h=>(l,c,s,(i:Int),h,())) (b3i (b0S c s) (.inr ((6:Int),([]:List Int),()))) (fun h=>.inl (h,()))
   (fun i hi h u a=>by
    have n:short (l.take i):=by unfold short;grind
    have e:decide ((0:Int)≤(i:Int))=true:=by simp
    have j:decide ((i:Int)≤((l.length:Nat):Int))=true:=by grind
    have r:lim (h.length+1)=true:=a0U (by omega);constructor
    ·intro w g;unfold b3i at g;cases hq:a0A (W (l[i]-b0S c s (l.take i)))with
     |false=>simp_all
     |true=>
      simp only[hq,cT,Sum.inl.injEq]at g;subst g;refine⟨?_,c0L hi,by grind⟩;simp only[a4N,dlt hi,cT,a0D hi,oB,e,j,a03,tN,b4k n k d,a6q,hq,bT,cF,r,a0C (a18 hi m),a06]
    ·intro b hb;unfold b3i at hb;cases hq:a0A (W (l[i]-b0S c s (l.take i)))with
     |true=>simp_all
     |false=>
      simp[hq]at hb;subst hb;simp only[a4N,dlt hi,cT,a0D hi,oB,e,j,a03,tN,b4k n k d,a6q,hq,a36])
   (fun h a=>by simp[a4N])
  rw[this,b4s];cases b1B (b0S c s) (l.drop c.length) (l.take c.length)<;>rfl
theorem b4u{s:Int}(h:b4t l c s=some r):b2D (l.take c.length) r c s=some l∧r.all a0A=true∧r.length=l.length-c.length:=by
 unfold b4t at h;cases hw:l.all a0A with
 |false=>simp_all
 |true=>
  simp[hw]at h;obtain⟨e,g⟩:=b8q h;refine⟨?_,g,by simp_all[b2N]⟩;simp[b2D,b7w hw,g]
  grind[b4r,List.take_append_drop]
def b3T(l:List Int)(lag:Int)(t:List Int):Option (List Int):=bif l.all a0A then b1B (a9u lag t) l []else none
theorem c3s(o:b1x lag t=true)(c:t.length=3)(r:l.length<100000):
  a7v (l,lag,t)=some (a5f (b3T l lag t)):=by
 have a:short l:=by unfold short;omega
 obtain⟨e,j⟩:2≤lag∧lag≤1024:=by simp_all[b1x]
 unfold a7v b3T;simp only[b3x c,o,oB,bT,cF,b3a a];cases hw:l.all a0A with
 |false=>rfl
 |true=>
  have q:decide ((0:Int)≤((l.length:Nat):Int))=true:=by simp
  have d:lim l.length=true:=a0U (by omega);simp[d]
  have:=c0M (f:=a6o) l 0 (Nat.zero_le _) (fun i h=>(l,lag,l,(l.length:Int),(i:Int),h,t,())) (b3i (a9u lag t) (.inr ((6:Int),([]:List Int),()))) (fun h=>.inl (h,()))
   (fun i hi h n k=>by
    have m:lim (h.length+1)=true:=a0U (by omega);have hp:=b3c (lag:=lag) (t:=t) (a84 hi) a c e j;constructor
    ·intro p g;unfold b3i at g;cases hq:a0A (W (l[i]-a9u lag t (l.take i)))with
     |false=>simp_all
     |true=>
      simp only[hq,cT,Sum.inl.injEq]at g;subst g;refine⟨?_,c0L hi,by simp_all⟩;simp only[a6o,dlt hi,cT,a0D hi,oB,hp,a8d,hq,bT,cF,m,a0C (a18 hi a),a06]
    ·intro b hb;unfold b3i at hb;cases hq:a0A (W (l[i]-a9u lag t (l.take i)))with
     |true=>simp_all
     |false=>
      simp_all[a6o,a0D,a8d])
   (fun h k=>by simp[a6o])
  simp only[nZ]at this;rw[this,b4s,a28,List.take_zero];cases b1B (a9u lag t) l []<;>rfl
theorem b5I(h:b3T l lag t=some r):b3d r lag t=some l∧r.all a0A=true∧r.length=l.length:=by
 unfold b3T at h;cases hw:l.all a0A with
 |false=>simp_all
 |true=>
  simp[hw]at h;obtain⟨e,g⟩:=b8q h;refine⟨?_,g,by rw[e,b2N]⟩;simp[b3d,g];simp_all[b4r]
def rsG:List Int→Fil→List Int
 | [],_=>[]
 |x::r,f=>W (x-a1g f)::rsG r (b2h f x)
theorem b4v:∀r f,(rsG r f).length=r.length
 | [],_=>rfl
 |x::r,f=>by simp[rsG,b4v r]
def rsO:List Int→List Int→Fil→Option (List Int)
 | [],done,_=>some done
 |x::r,done,f=>bif a0A (W (x-a1g f))then rsO r (done++[W (x-a1g f)]) (b2h f x)else none
theorem c8t:∀(r done:List Int)(f:Fil),rsO r done f=bif (rsG r f).all a0A then some (done++rsG r f)else none
 | [],done,f=>by simp[rsO,rsG]
 |x::r,done,f=>by
  simp[rsO,rsG];cases a0A (W (x-a1g f))with
  |false=>rfl
  |true=>simp_all[c8t]
theorem c5H:∀(r z:List Int)(f:Fil),r.all a0A=true→stO (rsG r f) z f=some (z++r)
 | [],z,f,_=>by simp[rsG,stO]
 |x::r,z,f,h=>by
  rw[a07,bA]at h;have e:W (a1g f+W (x-a1g f))=x:=by grind[c8s]
  simp only[rsG,stO,e,h.1,cT,c5H r _ _ h.2,aA,a75]
theorem b3j{row:List Int}{a:List Stg}{b c:Int}(j:short row):∀(k i:Nat)(done:List Int)(f:Fil),i+k=row.length→done.length=i→FilOk f→
  y0s a5A (a,b,c,(row.length:Int),(i:Int),done++row.drop i,f,())=some (match rsO (row.drop i) done f with
   |some r=>.inl (a,b,c,r,())
   |none=>.inr ((6:Int),([]:List Int),()))
 |0,i,done,f,h,hd,hf=>by
  obtain rfl:i=row.length:=by omega
  rw[a50,a40];exact a0F (b:=Sum.inl (a,b,c,done,())) (by simp[a5A])
 |k+1,i,done,f,h,hd,hf=>by
  have hi:i<row.length:=by omega
  have l:row.length<1000000:=j;have d:decide ((0:Int)≤(i:Int))=true:=by simp
  have m:(done++row.drop i).length=row.length:=by grind
  have e:decide ((i:Int)<(((done++row.drop i).length:Nat):Int))=true:=by simp_all
  have g:rsO (row.drop i) done f=bif a0A (W (row[i]-a1g f))then rsO (row.drop (i+1)) (done++[W (row[i]-a1g f)]) (b2h f row[i])else none:=by
   rw[a02 hi];rfl
  rw[g];cases hw:a0A (W (row[i]-a1g f))with
  |true=>
   rw[a0E (s':=(a,b,c,(row.length:Int),((i+1:Nat):Int),(done++[W (row[i]-a1g f)])++row.drop (i+1),b2h f row[i],())) (by
    simp only[a5A,dlt hi,d,e,cT,a03,a6s hf,oB,tN,b3e hd hi,a5l,hw,bT,cF,b5b hf,c3c hd hi,a0C (show i<1000000 by omega)])]
   exact b3j j k (i+1) _ _ (by omega) (by simp_all) (c3b hf _)
  |false=>
   exact a0F (by
    simp only[a5A,dlt hi,d,e,cT,a03,a6s hf,oB,tN,b3e hd hi,a5l,hw,a36];rfl)
def lRO:List Stg→List Int→Option (List Int)
 | [],row=>some row
 |s::r,row=>match rsO row [] (b0T s)with
  |some row'=>lRO r row'
  |none=>none
theorem c3t{f:Fil}(h:rsO row [] f=some d):d=rsG row f∧d.all a0A=true:=by
 rw[c8t]at h
 grind
theorem c0N:∀(a b:List Stg)(row:List Int),lO (a++b) row=match lO a row with|some r=>lO b r|none=>none
 | [],b,row=>rfl
 |s::a,b,row=>by
  simp only[a65,lO];split;exact c0N a b _;rfl
theorem c3u:∀(st:List Stg)(row d:List Int),row.all a0A=true→lRO st row=some d→lO st.reverse d=some row∧d.all a0A=true∧d.length=row.length
 | [],row,d,hw,h=>by
  simp[lRO]at h;subst h;exact⟨rfl,hw,rfl⟩
 |s::st,row,d,hw,h=>by
  simp only[lRO]at h
  split at h
  rename_i g c;obtain⟨e,f⟩:=c3t c;obtain⟨k,a,b⟩:=c3u st g d f h;refine⟨?_,a,by rw[b,e,b4v]⟩;rw[List.reverse_cons,c0N,k];simp only[lO];rw[e,c5H row [] _ hw,a09];cases h
theorem b1V{st:List Stg}(f:∀s∈st,stageB s=true)(l:st.length≤3):∀(j k:Nat)(row:List Int),k+j=st.length→short row→
  y0s a5B (st,(st.length:Int),(k:Int),row,())=some (match lRO (st.drop k) row with
   |some r=>.inl (r,())
   |none=>.inr ((6:Int),([]:List Int),()))
 |0,k,row,h,hs=>by
  obtain rfl:k=st.length:=by omega
  simp_all[a0F,a5B,lRO]
 |j+1,k,row,h,hs=>by
  have d:k<st.length:=by omega
  have g:=f _ (a05 d);have e:=b3j (a:=st) (b:=(st.length:Int)) (c:=(k:Int)) hs row.length 0 [] (b0T st[k]) (by omega) rfl (c5F g);simp at e;have i:((0:Int) != 0)=false:=rfl;rw[a02 d];simp[lRO];cases hr:rsO row [] (b0T st[k])with
  |some r=>
   rw[hr]at e;rw[a0E (s':=(st,(st.length:Int),((k+1:Nat):Int),r,())) (by simp only[a5B,dlt d,cT,a0D d,oB,b2F g,i,cF,e,a0C (show k<1000000 by omega)])];exact b1V f l j (k+1) r (by omega) (by have:=(c3t hr).1;unfold short at hs⊢;simp_all[b4v])
  |none=>
   simp_all[a0F,a5B,a0D,b2F]
def b2o(l:List Int)(st:List Stg):Option (List Int):=bif l.all a0A then lRO st l else none
theorem c2a(k:a9j st=true)(a:l.length<100000):a9X (l,st)=some (a5f (b2o l st)):=by
 have h:=k;simp only[a9j,bA,dT]at h;have f:short st:=by unfold short;omega
 have g:short l:=by unfold short;omega
 unfold a9X b2o;simp only[b2C f,k,oB,bT,cF,b2B g];cases hw:l.all a0A with
 |false=>rfl
 |true=>
  have:=b1V (lA.1 h.2) h.1 st.length 0 l (by omega) g
  simp at this;simp[a8f g,this];cases lRO st l<;>rfl
theorem b8r(h:b2o l st=some r):b1K r st=some l∧r.all a0A=true∧r.length=l.length:=by
 unfold b2o at h;cases hw:l.all a0A with
 |false=>simp_all
 |true=>
  simp[hw]at h;obtain⟨f,g,k⟩:=c3u st l r hw h;exact⟨by simp only[b1K,g,cT,f],g,k⟩
theorem p64{w:Nat}(h:w≤64):((2^w:Nat):Int) ∣ 18446744073709551616:=a20.2 (a55 2 h)
theorem d3E(n:Int):∃q,wrap .i64 n=n+18446744073709551616*q:=by
 rw[a8e,Int.bmod];split;exact⟨-(n / 18446744073709551616),by omega⟩;exact⟨-(n / 18446744073709551616)-1,by omega⟩
theorem c9J(h:w≤64)(n:Int):((2^w:Nat):Int) ∣ wrap .i64 n↔((2^w:Nat):Int) ∣ n:=by
 obtain⟨q,g⟩:=d3E n;rw[g]
 grind[a66,a46,p64]
theorem c0O(h:w≤64)(a:Int):2^w ∣ (a04 64 a).toNat↔((2^w:Nat):Int) ∣ a:=by
 have e:(((a04 64 a).toNat:Nat):Int)=a+18446744073709551616*-(a / 18446744073709551616):=by
  rw[a82];omega
 rw[←a20,e]
 grind[a66,a46,p64]
theorem c7c(w x y:Nat):2^w ∣ (x ||| y)↔2^w ∣ x∧2^w ∣ y:=by
 simp_all[Nat.dvd_iff_mod_eq_zero,Nat.or_mod_two_pow]
theorem d3F(h:w≤64)(a b:Int):((2^w:Nat):Int) ∣ bits .i64 .or a b↔((2^w:Nat):Int) ∣ a∧((2^w:Nat):Int) ∣ b:=by
 show((2^w:Nat):Int) ∣ wrap .i64 ((((a04 64 a) ||| (a04 64 b)).toNat:Nat):Int)↔_;rw[c9J h,a20,a72,c7c,c0O h,c0O h]
def orI(l:List Int)(a:Int):Int:=l.foldl (fun a x=>bits .i64 .or a x) a
theorem b3U{w:Nat}(h:w≤64):∀(l:List Int)(a:Int),((2^w:Nat):Int) ∣ orI l a↔((2^w:Nat):Int) ∣ a∧∀x∈l,((2^w:Nat):Int) ∣ x
 | [],a=>by simp[orI]
 |x::l,a=>by
  show((2^w:Nat):Int) ∣ orI l (bits .i64 .or a x)↔_;rw[b3U h l,d3F h];simp_all[and_assoc]
theorem c3v:∀(l:List Int),(∀x∈l,x=0)→orI l 0=0
 | [],_=>rfl
 |x::l,h=>by
  have g:=h x (List.mem_cons_self);subst g;show orI l (bits .i64 .or 0 0)=0;rw[show bits .i64 .or 0 0=0 from by rfl];simp_all[c3v]
theorem d3G(k:l.all a0A=true)(h:∃x∈l,x≠0):orI l 0≠0:=by
 intro e;obtain⟨x,g,f⟩:=h;have b:=((b3U (w:=62) (by omega) l 0).1 (by omega)).2 x g;have a:=a1N.1 (lA.1 k x g);omega
def a8K(l:List Int)(w:Nat):Prop:=
 ((∀x∈l,x=0)∧w=0)∨((∃x∈l,x≠0)∧w≤30∧(∀x∈l,((2^w:Nat):Int) ∣ x)∧(w=30∨∃x∈l,¬ ((2^(w+1):Nat):Int) ∣ x))
theorem c7d{v w:Nat}(h:v≤w){x:Int}(g:((2^w:Nat):Int) ∣ x):((2^v:Nat):Int) ∣ x:=
 Int.dvd_trans (a20.2 (a55 2 h)) g
theorem a8K.unique(hv:a8K l v)(g:a8K l w):v=w:=by
 have key:∀{v w:Nat},v≤30→w≤30→(∀x∈l,((2^w:Nat):Int) ∣ x)→(v=30∨∃x∈l,¬ ((2^(v+1):Nat):Int) ∣ x)→w≤v:=by
  grind[c7d]
 rcases hv with⟨f,hv⟩|⟨⟨x,c,h⟩,hv1,hv2,hv3⟩
 ·rcases g with⟨-,g⟩|⟨⟨x,c,h⟩,-⟩
  all_goals grind
 ·rcases g with⟨f,-⟩|⟨-,k,a,b⟩
  all_goals grind
theorem c3w:∀(n N:Nat),N≤n→0<N→∃k m,N=2^k*(2*m+1)
 |0,N,h,h0=>absurd h0 (by omega)
 |n+1,N,h,h0=>by
  by_cases he:N%2=0
  obtain⟨k,m,e⟩:=c3w n (N / 2) (by omega) (by omega);refine⟨k+1,m,?_⟩;rw[a68,a57 (2^k) 2,Nat.mul_assoc,←e];omega;exact⟨0,N / 2,by omega⟩
theorem d2d{k:Nat}(h:2^k*(2*m+1)<2^64):(2^k*(2*m+1)) &&& (2^64-2^k*(2*m+1))=2^k:=by
 have hp:1≤2^k:=a81;have n:k<64:=by
  refine a95 fun g=>?_
  have d:2^64≤2^k:=a08 (by simp) g
  grind
 have e:2^k*(2*m+1)=(2^k*(2*m)+(2^k-1))+1:=by grind
 have l:2^k*(2*m)+(2^k-1)<2^64:=by omega
 refine Nat.eq_of_testBit_eq fun i=>?_
 have a:(2^64-2^k*(2*m+1)).testBit i=(decide (i<64)&&!(2^k*(2*m)+(2^k-1)).testBit i):=by
  rw[e];exact Nat.testBit_two_pow_sub_succ l i
 have f:=a58 (2*m+1) (b:=0) (i:=k) (by omega) i;rw[a85]at f;have c:=a58 (2*m) (b:=2^k-1) (i:=k) (by omega) i;rw[Nat.testBit_and,a,f,c,Nat.testBit_two_pow]
 by_cases d:i<k
 grind
 by_cases h2:k=i
 simp_all;obtain⟨j,rfl⟩:∃j,i=k+(j+1):=⟨i-k-1,by omega⟩;have o:k+(j+1)-k=j+1:=by omega
 have p:(2*m+1) / 2=m:=by omega
 simp_all[Nat.testBit_succ]
theorem c9K:∀k:Nat,k<64→b1h[(2^k*285870213051353865)%18446744073709551616 / 288230376151711744]?=some (k:Int):=by
 have h:∀k:Fin 64,b1h[(2^k.val*285870213051353865)%18446744073709551616 / 288230376151711744]?=some (k.val:Int):=by decide
 exact fun k g=>h ⟨k,g⟩
theorem c5p{k:Nat}:¬ 2^(k+1) ∣ 2^k*(2*m+1):=by
 rintro⟨c,h⟩
 rw[a68,Nat.mul_assoc]at h
 grind[Nat.eq_of_mul_eq_mul_left]
theorem c9L(d:0<N)(h:N<18446744073709551616):∃k:Nat,a1F (N:Int)=some (k:Int)∧2^k ∣ N∧¬ 2^(k+1) ∣ N:=by
 obtain⟨k,m,e⟩:=c3w N N (a27 _) d;have n:2^k≤N:=by grind
 have i:k<64:=by
  refine a95 fun g=>?_
  have l:2^64≤2^k:=a08 (by simp) g;omega
 refine⟨k,?_,⟨_,e⟩,e▸c5p⟩;have hb:bits .u64 .and (N:Int) (wrap .u64 (0-(N:Int)))=((2^k:Nat):Int):=by
  have b:wrap .u64 (0-(N:Int))=((18446744073709551616-N:Nat):Int):=by
   grind[wrap,IntKind.bits,IntKind.signed]
  rw[b];show wrap .u64 (((a04 64 (N:Int)) &&& (a04 64 ((18446744073709551616-N:Nat):Int))).toNat:Int)=_;rw[a24,a24,a93,a29,a29,a23 h,a23 (by omega)]
  have:=d2d (k:=k) (m:=m) (by omega)
  rw[←e]at this;rw[show(18446744073709551616:Nat)=2^64 from rfl,this];exact a0M (by omega)
 have j:((N:Int)==0)=false:=by grind
 unfold a1F;rw[hb,j,cF];have f:wrap .u64 (((2^k:Nat):Int)*285870213051353865)=(((2^k*285870213051353865)%18446744073709551616:Nat):Int):=by
  rfl
 have a:=c9K k i;generalize (2^k*285870213051353865)%18446744073709551616=M at f a;have c:=a6B (N:=M) (o:=58) (by omega);rw[f,show(58:Int)=((58:Nat):Int)from rfl,c,show 2^58=288230376151711744 from rfl];generalize M / 288230376151711744=J at a
 grind[a0D,a0B]
theorem c9M{n:Nat}(g:n≤62)(c:Int):A0o .i64 (((2^n:Nat):Int)*c) (n:Int)=c:=by
 have hp:0<2^n:=a16 n;have e:min (a42 (n:Int)) (IntKind.bits .i64)=n:=by grind[IntKind.bits]
 have h:((2^n:Nat):Int)=2^n:=by simp
 unfold A0o
 grind[a64]
theorem c5I{l:List Int}(g:short l):∀(k i:Nat)(a:Int),i+k=l.length→y0s a5w (a,l,(l.length:Int),(i:Int),())=some (orI (l.drop i) a,())
 |0,i,a,h=>by
  obtain rfl:i=l.length:=by omega
  simp_all[a0F,a5w,orI]
 |k+1,i,a,h=>by
  have hi:i<l.length:=by omega
  have f:l.length<1000000:=g;rw[a02 hi,a0E (s':=(bits .i64 .or a l[i],l,(l.length:Int),((i+1:Nat):Int),())) (by
   simp only[a5w,dlt hi,cT,a0D hi,oB,a0C (show i<1000000 by omega)])]
  exact c5I g k (i+1) _ (by omega)
theorem c5q{l:List Int}{r:Nat}(g:r≤30)(h:r=30∨¬ ((2^(r+1):Nat):Int) ∣ orI l 0):r=30∨∃x∈l,¬ ((2^(r+1):Nat):Int) ∣ x:=by
 grind[b3U,a86]
theorem b7x{l:List Int}(y:short l)(j:l.all a0A=true):∃w:Nat,a3L l=some (w:Int)∧w≤30∧a8K l w:=by
 have a:=c5I y l.length 0 0 (by omega);simp at a;unfold a3L;simp[a]
 by_cases hz:∀x∈l,x=0
 have e:=c3v l hz;exact⟨0,by simp_all,by omega,.inl ⟨hz,rfl⟩⟩
 ·have g:∃x∈l,x≠0:=Classical.byContradiction fun m=>hz fun x g=>Classical.byContradiction fun s=>m ⟨x,g,s⟩;have t:=d3G j g;have n:(orI l 0==0)=false:=by simp_all
  obtain⟨q,u⟩:∃q,wrap .u64 (orI l 0)=orI l 0+18446744073709551616*q:=⟨-(orI l 0 / 18446744073709551616),by
   grind[wrap,IntKind.bits,IntKind.signed]⟩
  obtain⟨B,r2⟩:=b6K (orI l 0);obtain⟨N,d⟩:=a01 B;have b:∀v,v≤64→(2^v ∣ N↔((2^v:Nat):Int) ∣ orI l 0):=fun v hv=>by
   rw[←a20,←d,u]
   grind[a66,a46,p64]
  have h:0<N:=by
   refine Nat.pos_of_ne_zero fun C=>?_
   obtain⟨x,f,A⟩:=g;have E:=((b3U (w:=62) (by omega) l 0).1 ((b 62 (by omega)).1 (by omega))).2 x f;have z:=a1N.1 (lA.1 j x f);omega
  obtain⟨k,p,c,r⟩:=c9L h (by omega);have i:k≤63:=by
   refine Nat.le_of_not_lt fun o=>?_
   have a:2^64≤2^k:=a08 (by simp) (by omega)
   have:=Nat.le_of_dvd h c
   omega
  simp only[n,cF,d,p,oB];have D:v0s (k:Int) 30=((min k 30:Nat):Int):=by rw[b0Q];omega
  refine⟨min k 30,by grind,by omega,.inr ⟨g,by omega,?_,?_⟩⟩
  all_goals grind[b3U,Nat.dvd_trans,a55,c5q]
theorem d2e(g:w≤30)(d:l.all a0A=true)(h:a8K l w):b0J (w:Int) l=some (l.map fun x=>A0o .i64 x (w:Int)):=by
 have f:∀x∈l,((2^w:Nat):Int) ∣ x:=by
  rcases h with⟨h,-⟩|⟨-,-,h,-⟩
  all_goals grind[a86]
 have:l.all (b1A (w:Int))=true:=by
  rw[lA];intro x k;obtain⟨c,a⟩:=f x k;have b:a26 x (A0n .i64 1 (w:Int))=0:=by simp_all[c3p]
  simp_all[b1A]
 simp only[b0J,this,cT]
theorem b0X{N n:Nat}(g:n≤63)(h:N<2^n)(L:List Int):(a0P (N:Int) n L).length=L.length+n:=by
 grind[a0P,a6B,a67,b3g]
def a5H(k:Nat)(x:Int):Nat:=if a0R x / 2^k<32 then a0R x / 2^k+1+k else 65
theorem c3x{k:Nat}(h:k≤25)(x:Int):a5H k x≤65:=by
 grind[a5H]
theorem c8u{k:Nat}(a:k≤25)(g:a0A x=true)(L:List Int):(a6R k x L).length=L.length+a5H k x:=by
 unfold a6R a5H;have hp:0<2^k:=a16 k;have h:a0R x%2^k<2^k:=a41 _ hp;have f:=a9A g;split;rw[b0X (by omega) h,b0G];omega
 grind[b0X,b0G]
theorem b8s{k:Nat}(g:k≤25):∀(l L:List Int),l.all a0A=true→(a4Q k l L).length=L.length+(l.map (a5H k)).sum
 | [],L,_=>by rfl
 |x::l,L,h=>by
  simp only[a07,bA]at h;have e:a4Q k (x::l) L=a4Q k l (a6R k x L):=rfl;rw[e,b8s g l _ h.2,c8u g h.1,List.map_cons,a62];omega
theorem c3y{k:Nat}(c:k≤25)(g:a0A x=true):a7x ((k:Int),x)=some ((a5H k x:Nat):Int):=by
 have d:=a9A g;have f:A0o .u64 ((a0R x:Nat):Int) (k:Int)=((a0R x / 2^k:Nat):Int):=a6B (by omega);have a:wrap .i64 ((a0R x / 2^k:Nat):Int)=((a0R x / 2^k:Nat):Int):=b2L (a38 (a32 _ _) d);have h:decide ((k:Int)<0)=false:=by simp
 unfold a7x a5H;simp only[a8X c,b0H,g,oB,bT,cF,b0I g,h,f,a];generalize a0R x / 2^k=q
 by_cases hq:q<32
 have b:decide ((q:Int)<32)=true:=decide_eq_true (by omega);simp only[b,cT,if_pos hq]
 grind[a0B]
 grind
theorem c3z{f:Int→Nat}{M:Nat}(h:∀x,f x≤M):∀l:List Int,(l.map f).sum≤M*l.length
 | []=>by simp
 |x::l=>by
  have:=h x
  have:=c3z h l
  rw[List.map_cons,a62,lC,a91,a92];omega
theorem c3A{f:Int→Nat}{l:List Int}{i:Nat}(h:i<l.length):((l.take (i+1)).map f).sum=((l.take i).map f).sum+f l[i]:=by
 rw[a49 h,pA,List.sum_append];rfl
theorem b6L{k:Nat}(g:k≤25)(c:l.all a0A=true)(d:l.length<10000):a3v ((k:Int),l)=some (((l.map (a5H k)).sum:Nat):Int):=by
 have:=a1C (f:=a3V) (fun i:Nat=>((k:Int),((((l.take i).map (a5H k)).sum:Nat):Int),l,(l.length:Int),(i:Int),())) l.length (b:=((((l.map (a5H k)).sum:Nat):Int),()))
  (fun i hi=>by
   have a:=c3y g (lA.1 c _ (a05 hi));have h:=c3z (c3x g) (l.take (i+1));rw[c3A hi]at h;rw[a94]at h;have e:wrap .i64 (((((l.take i).map (a5H k)).sum:Nat):Int)+((a5H k l[i]:Nat):Int))=((((l.take (i+1)).map (a5H k)).sum:Nat):Int):=by
    grind[c3A,a0B]
   simp only[a3V,dlt hi,cT,a0D hi,oB,a,e,a0C (show i<1000000 by omega)])
  (by simp_all[a3V])
 unfold a3v;simp_all
theorem c9N(x:Int){n:Nat}(f:n≤62):∃N:Nat,a0X x n=(N:Int)∧N<2^n:=by
 obtain⟨h,g⟩:=b6K x;obtain⟨y,k⟩:=a01 h;have hp:0<2^n:=a16 n;refine⟨y%2^n,?_,a41 _ hp⟩
 grind[a0X,c3k]
theorem b3k{n:Nat}(h:n≤62):∀(l L:List Int),(a1I n l L).length=L.length+n*l.length
 | [],L=>by rfl
 |x::l,L=>by
  have e:a1I n (x::l) L=a1I n l (a0P (a0X x n) n L):=rfl;obtain⟨N,g,f⟩:=c9N x h;rw[e,b3k h l,g,b0X (by omega) f,lC,a91,a92];omega
theorem d3H{x:Int}(h:a0A x=true):a1h x ((31:Nat):Int)=true:=by
 have:=a1N.1 h
 have g:A0n .i64 (-1) (((31:Nat):Int)-1)=-1073741824:=by rfl
 have f:wrap .i64 (A0n .i64 1 (((31:Nat):Int)-1)-1)=1073741823:=by rfl
 unfold a1h
 grind
theorem b8t{x:Int}(h:a0A x=true):∀(k w:Nat),w+k=32→1≤k→a1R x k w≤31
 |k+1,w,hk,_=>by
  simp[a1R]
  by_cases h31:w=31
  grind[d3H]
  ·cases (x != 0)&&!a1h x w with
   |true=>exact b8t h k (w+1) (by omega) (by omega)
   |false=>grind
theorem b3l:∀(l:List Int)(w:Nat),l.all a0A=true→w≤31→l.foldl (fun w x=>a1R x (32-w) w) w≤31
 | [],w,_,h=>h
 |x::l,w,hl,h=>by
  simp only[a07,bA]at hl;exact b3l l _ hl.2 (b8t hl.1 (32-w) w (by omega) (by omega))
theorem a2c{l:List Int}(h:l.all a0A=true):a0J l≤31:=b3l l 0 h (by omega)
theorem b2O(g:l.length<10000):a5Q l=some (((5+a0J l*l.length:Nat)):Int):=by
 have h:=a6A l;have f:a0J l*l.length≤32*l.length:=a25 _ h;unfold a5Q;simp only[a2u (show short l by unfold short;omega),oB]
 grind[a0B]
def b1C(k:Int)(part:List Int):Nat:=5+(if k=31 then 5+a0J part*part.length else(part.map (a5H k.toNat)).sum)
def a5I:List Nat→List Int→List Int→Nat
 |z::zs,k::ks,l=>b1C k (l.take z)+a5I zs ks (l.drop z)
 |_,_,_=>0
theorem a3E{q:Nat}(h:q<2147483648):wrap .u64 (q:Int)=(q:Int):=a0M (by omega)
theorem c8v(h:kB k=true)(g:part.all a0A=true)(L:List Int):(a9v k part L).length=L.length+b1C k part:=by
 simp[kB]at h;obtain⟨K,rfl⟩:=a01 (show 0≤k by omega)
 grind[b0X,a2c,a9v,b1C,a3E,b3k,b8s]
theorem b8u:∀(zs:List Nat)(ks l L:List Int),ks.all kB=true→l.all a0A=true→(a4R zs ks l L).length=L.length+a5I zs ks l
 |z::zs,k::ks,l,L,h,hw=>by
  simp only[a07,bA]at h;have g:(l.take z).all a0A=true:=lA.2 fun x a=>lA.1 hw x (a34 a);have f:(l.drop z).all a0A=true:=lA.2 fun x a=>lA.1 hw x (a35 a);simp only[a4R,a5I];rw[b8u zs ks _ _ h.2 f,c8v h.1 g];omega
 | [],_,_,_,_,_=>by rfl
 |_::_,[],_,_,_,_=>by rfl
theorem c9O(h:kB k=true)(part:List Int):b1C k part≤10+65*part.length:=by
 simp[kB]at h;unfold b1C;split;have g:a0J part*part.length≤32*part.length:=a25 _ (a6A part);omega
 have:=c3z (c3x (k:=k.toNat) (by omega)) part
 omega
theorem b2P{zn:List Nat}{p:Prt}(E:p.2.1.length=zn.length)(a:p.2.1.all kB=true)(F:zn.length≤256):∀(j i:Nat)(l:List Int)(c:Nat),i+j=zn.length→(zn.drop i).sum=l.length→l.all a0A=true→l.length≤5000→c+10*j+65*l.length<1000000→
  y0s a1w (l,(c:Int),(zn.length:Int),(i:Int),a1q zn,p,())=some (((c+a5I (zn.drop i) (p.2.1.drop i) l:Nat):Int),())
 |0,i,l,c,hi,_,_,_,_=>by
  obtain rfl:i=zn.length:=by omega
  grind[a0F,a1w,a5I]
 |j+1,i,l,c,hi,hsum,hw,hl5,hb=>by
  have h:i<zn.length:=by omega
  have f:i<p.2.1.length:=by omega
  have o:=lA.1 a _ (a05 f);rw[b4n h]at hsum;have z:decide ((0:Int)≤(i:Int))=true:=by simp
  have A:decide ((i:Int)<(((a1q zn).length:Nat):Int))=true:=by simp_all[a1y]
  have B:decide ((0:Int)≤((zn[i]:Nat):Int))=true:=by simp
  have C:decide (((zn[i]:Nat):Int)≤((l.length:Nat):Int))=true:=by grind
  have d:(l.take zn[i]).length=zn[i]:=by simp_all
  have e:(l.drop zn[i]).length=(zn.drop (i+1)).sum:=by grind
  have v:(l.take zn[i]).all a0A=true:=lA.2 fun x y=>lA.1 hw x (a34 y);have w:(l.drop zn[i]).all a0A=true:=lA.2 fun x y=>lA.1 hw x (a35 y);have g:=c9O o (l.take zn[i]);rw[d]at g;have n:a1w (l,(c:Int),(zn.length:Int),(i:Int),a1q zn,p,())=some (.inl (l.drop zn[i],((c+b1C p.2.1[i] (l.take zn[i]):Nat):Int),(zn.length:Int),((i+1:Nat):Int),a1q zn,p,())):=by
   by_cases h31:p.2.1[i]=31
   have b:(p.2.1[i]==31)=true:=by simp_all
   have m:=b2O (l:=l.take zn[i]) (by omega);have u:b1C p.2.1[i] (l.take zn[i])=5+(5+a0J (l.take zn[i])*(l.take zn[i]).length):=by simp_all[b1C]
   rw[u]at g⊢;generalize 5+a0J (l.take zn[i])*(l.take zn[i]).length=r at m g⊢;have s:wrap .i64 (5+(r:Int))=5+(r:Int):=a0B (by omega);have t:wrap .i64 ((c:Int)+(5+(r:Int)))=((c+(5+r):Nat):Int):=by grind[a0B]
   simp only[a1w,dlt h,z,A,a8h h,B,C,cT,a03,tN,a0D f,oB,b,m,s,t,a19,a0C (show i<1000000 by omega)];have b:(p.2.1[i]==31)=false:=by simp_all
   have q:=o;simp[kB]at q;obtain⟨K,D⟩:=a01 (show 0≤p.2.1[i]by omega);have m:=b6L (k:=K) (by omega) v (by omega);have u:b1C p.2.1[i] (l.take zn[i])=5+((l.take zn[i]).map (a5H K)).sum:=by simp_all[b1C]
   rw[←D]at m;rw[u]at g⊢;generalize ((l.take zn[i]).map (a5H K)).sum=r at m g⊢;have s:wrap .i64 (5+(r:Int))=5+(r:Int):=a0B (by omega);have t:wrap .i64 ((c:Int)+(5+(r:Int)))=((c+(5+r):Nat):Int):=by grind[a0B]
   simp only[a1w,dlt h,z,A,a8h h,B,C,cT,cF,a03,tN,a0D f,oB,b,m,s,t,a19,a0C (show i<1000000 by omega)]
  rw[a0E n,b2P E a F j (i+1) (l.drop zn[i]) _ (by omega) e.symm w (by omega) (by omega)];rw[a02 h,a02 f]
  grind[a5I]
theorem c2b(h:PartsOk p n warm l zn):a4O (p,n,warm,l)=some ((4+a5I zn p.2.1 l:Nat):Int):=by
 have f:Go.Ab.short p.2.1:=by have:=h.ks;have:=h.len;unfold Go.Ab.short;omega
 have k:=h.short;have a:=h.len;have g:=b2P h.ks h.all h.len zn.length 0 l 4 (by omega) (by rw[a28];exact h.sum) h.wide h.short (by omega);simp only[nZ,a30,a28]at g;unfold a4O;simp only[b2H f,h.may,b0V h.row h.rest h.wide h.short,oB,bT,cF,a2h,h.sizes,a1y,g]
theorem c2c(h:PartsOk p n warm l zn)(L:List Int):(a4t p zn l L).length=L.length+(4+a5I zn p.2.1 l):=by
 obtain⟨o,g⟩:=a01 h.order.1;have f:=h.order.2;unfold a4t;rw[b8u _ _ _ _ h.all h.wide,g,a3E (by omega),b0X (by omega) (by omega)];omega
def a2i(o:Int):Sub:=((0:Int),(0:Int),o,(0:Int),(0:Int),([]:List Int),a00 3 (0:Int),([]:List Stg),([]:List Int),((0:Int),([]:List Int),()),([]:List Int),())
theorem c5r(o:Int):SmallS (a2i o):=⟨by simp[a2i],by rfl,by simp[a2i],by simp[a2i],by simp[a2i],by simp[a2i]⟩
def b5J(k:Nat)(l:List Int):Nat:=(l.map (a5H k)).sum
def rbN(l:List Int):Nat→Nat
 |0=>0
 |i+1=>if b5J (i+1) l<b5J (rbN l i) l then i+1 else rbN l i
theorem c3B(l:List Int):∀i,rbN l i≤i
 |0=>a27 _
 |i+1=>by
  have:=c3B l i
  simp only[rbN]
  split<;>omega
theorem b4w{k:Nat}(h:k≤25)(f:l.all a0A=true)(g:l.length<10000):a3v ((k:Int),l)=some ((b5J k l:Nat):Int):=b6L h f g
theorem d3I(h:a<b):decide ((a:Int)<(b:Int))=true:=decide_eq_true (by omega)
theorem c7e(h:¬ a<b):decide ((a:Int)<(b:Int))=false:=decide_eq_false (by omega)
theorem b5K(g:l.all a0A=true)(h:l.length<10000):b1s l=some ((rbN l 25:Nat):Int):=by
 have:=a1C (f:=a8y) (fun i:Nat=>(l,((rbN l i:Nat):Int),((b5J (rbN l i) l:Nat):Int),((i+1:Nat):Int),())) 25 (b:=(((rbN l 25:Nat):Int),()))
  (fun i hi=>by
   have a:decide (((i+1:Nat):Int)≤25)=true:=decide_eq_true (by omega);have d:wrap .i64 (((i+1:Nat):Int)+1)=((i+1+1:Nat):Int):=a0C (by omega);have c:=b4w (k:=i+1) (by omega) g h
   by_cases hlt:b5J (i+1) l<b5J (rbN l i) l
   simp_all[a8y,rbN];simp only[a8y,a,cT,cF,c,oB,d,c7e hlt,rbN,hlt,if_false])
  (by
   rfl)
 have m:=b4w (k:=0) (by omega) g h;have j:((0+1:Nat):Int)=1:=rfl;have e:rbN l 0=0:=rfl;simp_all[b1s]
def b2p(l:List Int):Int:=if 5+a0J l*l.length<b5J (rbN l 25) l then 31 else((rbN l 25:Nat):Int)
theorem c7f(l:List Int):kB (b2p l)=true:=by
 have:=c3B l 25
 unfold b2p;split;rfl;simp only[kB,a98,bA,dT];omega
theorem b8v(g:l.all a0A=true)(h:l.length<10000):a8z l=some (b2p l):=by
 have a:=c3B l 25;have f:=b4w (k:=rbN l 25) a g h;unfold a8z b2p
 by_cases hlt:5+a0J l*l.length<b5J (rbN l 25) l
 simp only[b5K g h,b2O h,f,oB,d3I hlt,cT,hlt,if_true];simp only[b5K g h,b2O h,f,oB,c7e hlt,cF,hlt,if_false]
def a2L:List Nat→List Int→List Int
 | [],_=>[]
 |z::zs,l=>b2p (l.take z)::a2L zs (l.drop z)
theorem b3V:∀zs l,(a2L zs l).length=zs.length
 | [],_=>rfl
 |z::zs,l=>by simp[a2L,b3V zs]
theorem b8w:∀zs l,(a2L zs l).all kB=true
 | [],_=>rfl
 |z::zs,l=>by simp[a2L,b8w zs,c7f]
theorem b5i{zn:List Nat}{n warm most least order:Int}{L:List Int}{a b:Prt}(m:zn.length≤256):∀(j i:Nat)(rest ks:List Int),i+j=zn.length→(zn.drop i).sum=rest.length→rest.all a0A=true→rest.length≤5000→ks.length=i→
  y0s a7P (n,warm,most,L,least,order,rest,((zn.length:Nat):Int),(i:Int),a1q zn,a,b,(order,ks,()),())=some (n,warm,most,L,least,order,a,b,(order,ks++a2L (zn.drop i) rest,()),())
 |0,i,rest,ks,h,_,_,_,_=>by
  obtain rfl:i=zn.length:=by omega
  simp_all[a0F,a7P,a2L]
 |j+1,i,rest,ks,h,hr,hwr,hr5,hki=>by
  have g:i<zn.length:=by omega
  rw[b4n g]at hr;have k:decide ((0:Int)≤(i:Int))=true:=by simp
  have c:decide ((i:Int)<(((a1q zn).length:Nat):Int))=true:=by simp_all[a1y]
  have d:decide ((0:Int)≤((zn[i]:Nat):Int))=true:=by simp
  have e:decide (((zn[i]:Nat):Int)≤((rest.length:Nat):Int))=true:=by grind
  have l:=b8v (b7w hwr zn[i]) (by grind);have f:lim (ks.length+1)=true:=a0U (by omega);rw[a02 g,a0E (s':=(n,warm,most,L,least,order,rest.drop zn[i],((zn.length:Nat):Int),((i+1:Nat):Int),a1q zn,a,b,(order,ks++[b2p (rest.take zn[i])],()),())) (by
   simp only[a7P,dlt g,k,c,a8h g,d,e,cT,a03,tN,l,oB,f,a19,a0C (show i<1000000 by omega),a06])]
  rw[b5i m j (i+1) _ _ (by omega) (by grind) (c9I hwr _) (by grind) (by simp_all)];simp_all[a2L]
def zsN(o n warm:Int):List Nat:=(a1Q o n warm).map a42
def b2j(o n warm:Int)(l:List Int):Prt:=(o,a2L (zsN o n warm) l,())
def b8x(o n warm:Int)(l:List Int):Nat:=4+a5I (zsN o n warm) (a2L (zsN o n warm) l) l
def a1G(n warm:Int)(l:List Int):Nat→Prt×Nat
 |0=>((0,[],()),0)
 |i+1=>if(a1Q (i:Int) n warm).length=0 then a1G n warm l i else
   if(a1G n warm l i).2=0∨b8x (i:Int) n warm l<(a1G n warm l i).2 then(b2j (i:Int) n warm l,b8x (i:Int) n warm l)else a1G n warm l i
def b6f(n warm:Int)(l:List Int):Prt:=(a1G n warm l 7).1
theorem c5J(b:(a1Q (o:Int) n warm).length≠0)(a:(l.length:Int)=n-warm)(c:l.all a0A=true)(k:l.length≤5000):
  ∃h,a1Q (o:Int) n warm=a1q h∧zsN (o:Int) n warm=h∧h.length≤256∧h.sum=l.length∧a5G (b2j (o:Int) n warm l) n warm=true∧PartsOk (b2j (o:Int) n warm l) n warm l h:=by
 obtain⟨h,e,i,j⟩:=b3A b;have d:zsN (o:Int) n warm=h:=by simp_all[zsN,b3B]
 have hp:a5G (b2j (o:Int) n warm l) n warm=true:=by
  simp only[a5G,b2j,bA,a33,beq_eq_false_iff_ne,ne_eq,beq_iff_eq];simp_all[a1y,b3V,b8w]
 obtain⟨f,g⟩:=PartsOk.of hp a c k
 have:f=h:=by
  have m:=g.sizes
  grind[b2j,b3B]
 grind
theorem b4x{n warm:Int}{l:List Int}(b:a6t n warm=true)(f:(l.length:Int)=n-warm)(a:l.all a0A=true)(g:l.length≤5000):∀i,1≤i→(a1G n warm l i).2≠0∧a5G (a1G n warm l i).1 n warm=true
 |0,h=>absurd h (by omega)
 |i+1,_=>by
  by_cases hs:(a1Q (i:Int) n warm).length=0
  ·simp only[a1G,hs,if_true];cases i with
   |zero=>grind[c6X]
   |succ i=>exact b4x b f a g (i+1) (by omega)
  ·obtain⟨c,-,-,-,-,hp,-⟩:=c5J hs f a g;simp only[a1G,hs,if_false];split;simp_all[b8x]
   ·rename_i k;cases i with
    |zero=>exact absurd (Or.inl rfl) k
    |succ i=>exact b4x b f a g (i+1) (by omega)
theorem c9P(f:a6t n warm=true)(g:(l.length:Int)=n-warm)(k:l.all a0A=true)(h:l.length≤5000):a5G (b6f n warm l) n warm=true:=
 (b4x f g k h 7 (by omega)).2
theorem c2d(z:a6t n warm=true)(x:(l.length:Int)=n-warm)(t:l.all a0A=true)(s:l.length≤5000):
  a9Y (n,warm,(6:Int),l)=some (b6f n warm l,0):=by
 have:=a1C (f:=a3N) (fun i:Nat=>(n,warm,(6:Int),l,(((a1G n warm l i).2:Nat):Int),(i:Int),((0:Int),([]:List Int),()),(a1G n warm l i).1,())) 7 (b:=(((0:Int),([]:List Int),()),b6f n warm l,()))
  (fun i hi=>by
   have j:decide ((i:Int)≤v0s (v0r 6 0) 8)=true:=decide_eq_true (by have:v0s (v0r 6 0) 8=6:=rfl;omega);have r:wrap .i64 ((i:Int)+1)=((i+1:Nat):Int):=a0C (by omega)
   by_cases hs:(a1Q (i:Int) n warm).length=0
   simp_all[a1G,a3N,a2h];have hb:((((a1Q (i:Int) n warm).length:Nat):Int)==0)=false:=by simp_all
   obtain⟨h,p,o,w,y,-,q⟩:=c5J hs x t s;have d:=b5i (n:=n) (warm:=warm) (most:=6) (least:=(((a1G n warm l i).2:Nat):Int)) (order:=(i:Int)) (L:=l) (a:=((0:Int),([]:List Int),())) (b:=(a1G n warm l i).1) w h.length 0 l [] (by omega) (by simp_all) t s rfl;simp at d;have e:=c2b q;simp only[b2j,o]at e;have k:(((h.length:Nat):Int)==0)=false:=by simp_all[a1y]
   have m:(((a1q h).length:Nat):Int)=((h.length:Nat):Int):=by rw[a1y]
   have v:b2j (i:Int) n warm l=((i:Int),a2L h l,()):=by simp only[b2j,o]
   have u:b8x (i:Int) n warm l=4+a5I h (a2L h l) l:=by simp only[b8x,o]
   by_cases hz:(a1G n warm l i).2=0
   have g:((((a1G n warm l i).2:Nat):Int)==0)=true:=by simp_all
   have c:a1G n warm l (i+1)=(((i:Int),a2L h l,()),4+a5I h (a2L h l) l):=by simp_all[a1G]
   simp only[a3N,j,cT,a2h,oB,p,m,k,cF,d,e,r,c,g];have g:((((a1G n warm l i).2:Nat):Int)==0)=false:=by simp_all
   by_cases hlt:4+a5I h (a2L h l) l<(a1G n warm l i).2
   have c:a1G n warm l (i+1)=(((i:Int),a2L h l,()),4+a5I h (a2L h l) l):=by simp_all[a1G]
   simp only[a3N,j,cT,a2h,oB,p,m,k,cF,d,e,r,c,g,d3I hlt];have c:a1G n warm l (i+1)=a1G n warm l i:=by simp only[a1G,hs,if_false,hz,false_or,v,u,hlt]
   simp only[a3N,j,cT,a2h,oB,p,m,k,cF,d,e,r,c,g,c7e hlt])
  (by
   rfl)
 simp_all[a1G,a9Y,b0V]
def a0Y(k:Int)(s:Sub):Sub:=
 (k,(0:Int),(if k=2 then s.2.2.1 else 0),(if k=3∨k=4 then s.2.2.2.1 else 0),(if k=4 then s.2.2.2.2.1 else 0),(if k=3∨k=4 then s.2.2.2.2.2.1 else[]),
  ((if k=4 then s.2.2.2.2.2.2.1 else a00 3 (0:Int)),(if k=5 then s.2.2.2.2.2.2.2.1 else[]),([]:List Int),((0:Int),([]:List Int),()),([]:List Int),()))
def z0:Prt:=((0:Int),([]:List Int),())
def a1S(s:Sub)(w:Nat)(wm:List Int)(p:Prt)(r:List Int):Sub:=
 (s.1,(w:Int),s.2.2.1,s.2.2.2.1,s.2.2.2.2.1,s.2.2.2.2.2.1,s.2.2.2.2.2.2.1,s.2.2.2.2.2.2.2.1,wm,p,r,())
theorem c8w(h:SmallS s)(k:Int):a6g (k,s)=some (a0Y k s):=by
 have f:short s.2.2.2.2.2.1:=by have:=h.coefs;unfold short;omega
 have g:short s.2.2.2.2.2.2.2.1:=by have:=h.stages;unfold short;omega
 grind[a6g,a0Y,b2i,b6H]
theorem c3C(h:SmallS s)(k:Int):SmallS (a0Y k s):=by
 have g:=h.coefs;have f:=h.taps;have a:=h.stages;refine⟨?_,?_,?_,by simp[a0Y],by simp[a0Y],by simp[a0Y]⟩<;>simp only[a0Y]<;>split<;>first|omega|simp
theorem c7g:a3X (a0Y k s).1 (a0Y k s) n↔a3X k s n:=by
 unfold a3X a0Y
 grind
open Classical in
def a3e (l:List Int):Nat:=if h:∃w,a8K l w then h.choose else 0
theorem d2f{l:List Int}{w:Nat}(h:a8K l w):a3e l=w:=by
 unfold a3e;rw[dif_pos ⟨w,h⟩];exact(Classical.choose_spec (⟨w,h⟩:∃w,a8K l w)).unique h
def a1i(l:List Int):List Int:=l.map fun x=>A0o .i64 x (a3e l:Int)
theorem a9k(h:short l)(g:l.all a0A=true):a3L l=some ((a3e l:Nat):Int)∧a3e l≤30∧a8K l (a3e l):=by
 grind[b7x,d2f]
theorem a6S(a:l.length≤4096)(f:l.all a0A=true):b0J ((a3e l:Nat):Int) l=some (a1i l)∧(a1i l).all a0A=true∧(a1i l).length=l.length∧upO ((a3e l:Nat):Int) (a1i l)=some l:=by
 obtain⟨-,g,k⟩:=a9k (show short l by unfold short;omega) f;have h:=d2e g f k;exact⟨h,d2c g h⟩
def a5J(k:Int)(s:Sub)(d:List Int):Option (List Int×List Int):=
 if k=2 then(bif (a2s s.2.2.1.toNat d).all a0A then some (d.take s.2.2.1.toNat,a2s s.2.2.1.toNat d)else none)
 else if k=3 then(b4t d s.2.2.2.2.2.1 s.2.2.2.1).map fun r=>(d.take s.2.2.2.2.2.1.length,r)
 else if k=4 then(b3T d s.2.2.2.2.1 s.2.2.2.2.2.2.1).bind fun x=>(b4t x s.2.2.2.2.2.1 s.2.2.2.1).map fun r=>(x.take s.2.2.2.2.2.1.length,r)
 else(b2o d s.2.2.2.2.2.2.2.1).map fun r=>([],r)
theorem c3D(j:k=2∨k=3∨k=4∨k=5)(i:a3X k s (d.length:Int))(n:d.all a0A=true)(h:a5J k s d=some (wm,r)):
  wm.length≤d.length∧r.length=d.length-wm.length∧r.all a0A=true∧wm.all a0A=true:=by
 have f:=i;simp only[a3X]at f;rcases j with rfl|rfl|rfl|rfl
 ·have:0≤s.2.2.1∧s.2.2.1≤(d.length:Int):=by omega
  simp[a5J]at h;cases hq:(a2s s.2.2.1.toNat d).all a0A with
  |false=>simp_all
  |true=>
   simp[hq]at h;obtain⟨rfl,rfl⟩:=h;simp_all[a5S,b7w]
 have:(s.2.2.2.2.2.1.length:Int)≤(d.length:Int):=by omega
 simp only[a5J,show ¬ (3:Int)=2 by simp,if_false,if_true,a21,pJ]at h;obtain⟨c,g,rfl,rfl⟩:=h;obtain⟨-,a,b⟩:=b4u g
 grind
 have:(s.2.2.2.2.2.1.length:Int)≤(d.length:Int):=by omega
 simp only[a5J,show ¬ (4:Int)=2 by simp,show ¬ (4:Int)=3 by simp,if_false,if_true,a44,a21,pJ]at h;obtain⟨x,e,c,g,rfl,rfl⟩:=h;obtain⟨-,l,m⟩:=b5I e;obtain⟨-,a,b⟩:=b4u g
 grind
 simp only[a5J,show ¬ (5:Int)=2 by simp,show ¬ (5:Int)=3 by simp,show ¬ (5:Int)=4 by simp,if_false,a21,pJ]at h;obtain⟨c,g,rfl,rfl⟩:=h;obtain⟨-,a,b⟩:=b8r g;simp_all
theorem c9Q(v:k=2∨k=3∨k=4∨k=5)(h:SmallS s)(q:a3X k s (d.length:Int))(D:d.length≤4096)(y:d.all a0A=true)(w:Nat):
  b1r (a1S (a0Y k s) w [] z0 [],d)=some (match a5J k s d with|none=>(6,a1S (a0Y k s) w [] z0 [])|some (wm,r)=>(0,a1S (a0Y k s) w wm z0 r)):=by
 have l:=h.taps;have g:=h.stages;have i:short d:=by unfold short;omega
 obtain⟨k',w',o,sh,lag,c,t,st,z,p,E,u⟩:=s;simp only[a3X]at q l g;unfold b1r;rcases v with rfl|rfl|rfl|rfl;obtain⟨n,C,e⟩:0≤o∧o≤4∧o≤(d.length:Int):=by omega
 obtain⟨O,rfl⟩:=a01 n;have g:short (d.take O):=by unfold short;grind
 have j:decide ((O:Int)≤((d.length:Nat):Int))=true:=by simp_all
 simp only[a1S,a0Y,a5J,if_true,show((2:Int)==2)=true from rfl,cT,b5g (show O≤4 by omega) (show O≤d.length by omega) i y,oB,tN]
 grind[b1L,a2t,a8f]
 ·obtain⟨f,e⟩:a9z c sh=true∧(c.length:Int)≤(d.length:Int):=by simp_all
  have g:short (d.take c.length):=by unfold short;grind
  have m:decide ((0:Int)≤((c.length:Nat):Int))=true:=by simp
  have j:decide (((c.length:Nat):Int)≤((d.length:Nat):Int))=true:=by simp_all
  simp only[a1S,a0Y,a5J,show((3:Int)==2)=false from rfl,show((3:Int)==3)=true from rfl,show ¬ (3:Int)=2 by simp,show ¬ (3:Int)=4 by simp,show ¬ (3:Int)=5 by simp,true_or,if_true,if_false,cT,cF,b3S f (show c.length≤d.length by omega) (show d.length<100000 by omega),oB];cases b4t d c sh with
  |none=>rfl
  |some r=>simp_all[a5f,b1L,a2t,a8f]
 ·obtain⟨f,e,a⟩:a9z c sh=true∧(c.length:Int)≤(d.length:Int)∧b1x lag t=true:=by simp_all
  simp[a1S,a0Y,a5J,c3s a l (show d.length<100000 by omega)];cases hx:b3T d lag t with
  |none=>rfl
  |some x=>
   obtain⟨-,A,B⟩:=b5I hx;have g:short (x.take c.length):=by unfold short;grind
   have m:decide ((0:Int)≤((c.length:Nat):Int))=true:=by simp
   have j:decide (((c.length:Nat):Int)≤((x.length:Nat):Int))=true:=by simp_all
   simp[a5f,b3S f (show c.length≤x.length by omega) (show x.length<100000 by omega)]
   grind[b1L,a2t,a8f]
 ·obtain⟨e,b⟩:0<st.length∧a9j st=true:=by simp_all
  have g:short (d.take 0):=by simp[short]
  simp only[a1S,a0Y,a5J,show((5:Int)==2)=false from rfl,show((5:Int)==3)=false from rfl,show((5:Int)==4)=false from rfl,show((5:Int)==5)=true from rfl,show ¬ (5:Int)=2 by simp,show ¬ (5:Int)=3 by simp,show ¬ (5:Int)=4 by simp,or_self,if_true,if_false,cT,cF,c2a b (show d.length<100000 by omega),oB];cases b2o d st with
  |none=>rfl
  |some r=>
   rfl
open Classical in

def a1s (k:Int) (l:List Int) (s:Sub):Sub×Int:=
 if ¬ (1≤l.length∧l.length≤4096∧a3X k s (l.length:Int))then(a2i 0,1)
 else if l.all a0A=false then(a2i 0,6)
 else if k=0 then(bif l.all (fun x=>x==l.headD 0)then(a1S (a0Y 0 s) 0 [l.headD 0] z0 [],0)else(a2i 0,7))
 else if k=1 then(a1S (a0Y 1 s) (a3e l) (a1i l) z0 [],0)
 else match a5J k s (a1i l)with
  |none=>(a2i 0,6)
  |some (wm,r)=>(a1S (a0Y k s) (a3e l) wm (b6f (l.length:Int) (wm.length:Int) r) r,0)
theorem c7h(h:1≤l.length):m0k l 0=some (l.headD 0):=by
 cases l with
 |nil=>grind
 |cons a l=>rfl
theorem c3E(k:1≤l.length)(c:short l)(a b:Sub):
  y0s a5j (l,l,(l.length:Int),(0:Int),a,b,())=some (bif l.all (fun x=>x==l.headD 0)then .inl (l,a,b,())else .inr ((7:Int),a2i 0,())):=by
 have:=a2q (f:=a5j) l (fun i=>(l,l,(l.length:Int),(i:Int),a,b,())) (fun x=>x==l.headD 0) (bt:=Sum.inl (l,a,b,())) (bf:=Sum.inr ((7:Int),a2i 0,()))
  (fun i h hp=>by
   have g:(l[i] != l.headD 0)=false:=by simp_all
   simp only[a5j,dlt h,cT,a0D h,oB,c7h k,g,cF,a0C (a18 h c)])
  (fun i h hp=>by
   have g:(l[i] != l.headD 0)=true:=by simp_all
   simp only[a5j,dlt h,cT,a0D h,oB,c7h k,g];rfl)
  (by simp[a5j])
 omega
theorem b6M(h:a3X k s n)(g:k≠0)(f:k≠1):k=2∨k=3∨k=4∨k=5:=by
 rcases h with h|h|⟨h,-⟩|⟨h,-⟩|⟨h,-⟩|⟨h,-⟩;omega;omega
 all_goals omega
theorem d2g(h:SmallS s)(k:Int)(D:l.length≤100000):b2a (k,l,s)=some (a1s k l s):=by
 have j:short l:=by unfold short;omega
 unfold b2a a1s
 by_cases h1:1≤l.length
 rotate_left;have e:decide (((l.length:Nat):Int)<1)=true:=decide_eq_true (by omega);rw[if_pos (fun g=>h1 g.1)];simp only[e,cT,oB];rfl;have a:decide (((l.length:Nat):Int)<1)=false:=decide_eq_false (by omega)
 by_cases h2:l.length≤4096
 rotate_left;have e:decide (((l.length:Nat):Int) > 4096)=true:=decide_eq_true (by omega);rw[if_pos (fun g=>h2 g.2.1)];simp only[a,e,cT,cF,oB];rfl;have o:decide (((l.length:Nat):Int) > 4096)=false:=decide_eq_false (by omega)
 by_cases h3:a3X k s (l.length:Int)
 rotate_left;have b:b2J k s (l.length:Int)=false:=by simp[b2J,h3]
 rw[if_pos (fun g=>h3 g.2.2)];simp only[a,o,b3M h,b,cF,a36,cT,oB];rfl;have b:b2J k s (l.length:Int)=true:=by simp[b2J,h3]
 rw[if_neg (fun g=>g ⟨h1,h2,h3⟩)];simp only[a,o,b3M h,b,cF,bT,oB,a4D j];cases hw:l.all a0A with
 |false=>rfl
 |true=>
  simp only[bT,cF,c8w h,oB];rw[if_neg (by simp)]
  by_cases h0:k=0
  ·subst h0;have w:=c3E h1 j (a2i 0) (a0Y 0 s);have v:a2i 0=((0:Int),(0:Int),(0:Int),(0:Int),(0:Int),([]:(List Int)),a00 3 (0:Int),([]:(List (Int×Int×Unit))),([]:(List Int)),((0:Int),([]:(List Int)),()),([]:(List Int)),()):=rfl;rw[←v,if_pos rfl];simp only[show((0:Int)==0)=true from rfl,cT,w,oB];cases l.all (fun x=>x==l.headD 0)with
   |false=>rfl
   |true=>simp only[cT,c7h h1,oB];rfl
  ·obtain⟨z,A,-⟩:=a9k j hw;obtain⟨t,n,C,-⟩:=a6S h2 hw;have c:(k==0)=false:=by grind
   rw[if_neg h0];simp only[c,cF,z,oB,b3R A (show l.length<100000 by omega),t,a5f,show((0:Int) != 0)=false from rfl]
   by_cases hk1:k=1
   subst hk1;rfl
   ·have i:(k==1)=false:=by simp_all
    have p:=b6M h3 h0 hk1;rw[if_neg hk1];have m:=c9Q p h (d:=a1i l) (by simp_all) (by omega) n (a3e l);have u:((a0Y k s).1,((a3e l:Nat):Int),(a0Y k s).2.2)=a1S (a0Y k s) (a3e l) [] z0 []:=rfl;simp only[i,cF,u,m,oB];cases hr:a5J k s (a1i l)with
    |none=>rfl
    |some q=>
     obtain⟨B,r⟩:=q;obtain⟨E,r2,y,-⟩:=c3D p (by simp_all) n hr;have f:a6t (l.length:Int) (B.length:Int)=true:=by simp_all[a6t]
     have hb:=c2d f (l:=r) (by omega) y (by omega);simp only[show((0:Int) != 0)=false from rfl,cF,a1S,hb,oB]
theorem c8x(h:a5G p n warm=true):p.2.1.length≤256:=by
 simp only[a5G,bA,a33,beq_eq_false_iff_ne,ne_eq,beq_iff_eq]at h
 grind[b3A,a1y]
theorem b4y(h:SmallS s)(g:wm.length≤5000)(f:r.length≤5000)(k:p.2.1.length≤300):SmallS (a1S s w wm p r):=
 ⟨h.coefs,h.taps,h.stages,g,f,k⟩
theorem c7i(f:(a1s k l s).2=0):
  1≤l.length∧l.length≤4096∧a3X k s (l.length:Int)∧l.all a0A=true∧
   ((k=0∧l.all (fun x=>x==l.headD 0)=true∧(a1s k l s).1=a1S (a0Y 0 s) 0 [l.headD 0] z0 [])∨
    (k=1∧(a1s k l s).1=a1S (a0Y 1 s) (a3e l) (a1i l) z0 [])∨
     ((k=2∨k=3∨k=4∨k=5)∧∃wm r,a5J k s (a1i l)=some (wm,r)∧(a1s k l s).1=a1S (a0Y k s) (a3e l) wm (b6f (l.length:Int) (wm.length:Int) r) r)):=by
 unfold a1s at f⊢
 split at f
 omega;rename_i g;have g:1≤l.length∧l.length≤4096∧a3X k s (l.length:Int):=Classical.byContradiction g;refine⟨g.1,g.2.1,g.2.2,?_⟩;rw[if_neg (fun h=>h g)]
 split at f
 omega;rename_i d;have a:l.all a0A=true:=by simp_all
 refine⟨a,?_⟩;rw[if_neg d]
 split at f
 grind
 rename_i b;rw[if_neg b]
 split at f
 simp_all;rename_i c;rw[if_neg c];refine .inr (.inr ⟨b6M g.2.2 b c,?_⟩)
 grind
theorem b2Q:b3N (a1S (a0Y k s) w wm p r):=by
 unfold b3N a1S a0Y;simp_all
theorem b7y(h:a3X k s n):a3X (a1S (a0Y k s) w wm p r).1 (a1S (a0Y k s) w wm p r) n:=c7g.2 h
theorem c9R{l:List Int}(h:l.all (fun x=>x==l.headD 0)=true):a00 l.length (l.headD 0)=l:=by
 refine(List.eq_replicate_iff.2 ⟨rfl,fun x g=>?_⟩).symm
 grind
theorem b9O(H:SmallS s)(F:(a1s k l s).2=0):
  SmallS (a1s k l s).1∧(a1s k l s).1.1=k∧a1v (a1s k l s).1 (l.length:Int)∧a2r (a1s k l s).1 (l.length:Int)=some l:=by
 obtain⟨R,G,t,z,I⟩:=c7i F;have L:short l:=by unfold short;omega
 obtain⟨-,X,-⟩:=a9k L z;obtain⟨N,u,O,C⟩:=a6S G z;have key:∀m:Sub,a1v m (l.length:Int)→c3f m (l.length:Int)=some l→a2r m (l.length:Int)=some l:=fun m i j=>by simp_all[a2r]
 have b:=c3C H k;rcases I with⟨rfl,w,e⟩|⟨rfl,e⟩|⟨y,d,r,f,e⟩
 ·rw[e];have g:a1v (a1S (a0Y 0 s) 0 [l.headD 0] z0 []) (l.length:Int):=by
   have S:a0A (l.headD 0)=true:=by
    cases l with
    |nil=>rfl
    |cons a l=>simp_all
   exact⟨by omega,by omega,b7y t,b2Q,Int.le_refl _,(by simp:(0:Int)≤30),fun _=>rfl,rfl,by simp_all[a1S],rfl,fun _=>⟨rfl,rfl,rfl⟩,fun h=>absurd rfl h.1⟩
  refine⟨b4y b (by simp) (by simp) (by simp[z0]),rfl,g,key _ g ?_⟩;show some (a00 (l.length:Int).toNat (l.headD 0))=some l
  grind[c9R]
 rw[e];have g:a1v (a1S (a0Y 1 s) (a3e l) (a1i l) z0 []) (l.length:Int):=
  ⟨by omega,by omega,b7y t,b2Q,a83 _,(by show((a3e l:Nat):Int)≤30;omega),fun h=>absurd h (by simp:¬ (1:Int)=0),by show(((a1i l).length:Nat):Int)=(l.length:Int);omega,u,rfl,fun _=>⟨rfl,rfl,rfl⟩,fun h=>absurd rfl h.2⟩
 refine⟨b4y b (by omega) (by simp) (by simp[z0]),rfl,g,key _ g ?_⟩;show upO ((a3e l:Nat):Int) (a1i l)=some l;omega
 ·rw[e];obtain⟨V,r2,B,M⟩:=c3D y (by simp_all) u f;have n:a6t (l.length:Int) (d.length:Int)=true:=by simp only[a6t,bA,dT];omega
  have hp:=c9P n (l:=r) (by omega) B (by omega);generalize b6f (l.length:Int) (d.length:Int) r=p at hp;have K:=c8x hp

  have q:a2t (a1S (a0Y k s) (a3e l) d p r) (l.length:Int)=(d.length:Int)∧backP (a1S (a0Y k s) (a3e l) d p r)=some (a1i l):=by
   simp only[a3X]at t;rcases y with rfl|rfl|rfl|rfl
   ·obtain⟨T,U,A⟩:0≤s.2.2.1∧s.2.2.1≤4∧s.2.2.1≤(l.length:Int):=by omega
    simp[a5J]at f;cases hq:(a2s s.2.2.1.toNat (a1i l)).all a0A with
    |false=>simp_all
    |true=>
     simp[hq]at f;obtain⟨rfl,rfl⟩:=f;refine⟨?_,?_⟩;show s.2.2.1=_
     grind
     show b7s ((a1i l).take s.2.2.1.toNat) (a2s s.2.2.1.toNat (a1i l)) s.2.2.1=some (a1i l);have hb:=c3o u (o:=s.2.2.1.toNat) (by omega) ((a1i l).length-s.2.2.1.toNat) 0 (by omega);rw[a28,a85]at hb
     grind[b7s]
   have A:(s.2.2.2.2.2.1.length:Int)≤(l.length:Int):=by omega
   simp only[a5J,show ¬ (3:Int)=2 by simp,if_false,if_true,a21,pJ]at f;obtain⟨v,i,rfl,rfl⟩:=f;obtain⟨j,-,-⟩:=b4u i;refine⟨?_,?_⟩;show((s.2.2.2.2.2.1.length:Nat):Int)=_;simp_all;exact j;have A:(s.2.2.2.2.2.1.length:Int)≤(l.length:Int):=by omega
   simp only[a5J,show ¬ (4:Int)=2 by simp,show ¬ (4:Int)=3 by simp,if_false,if_true,a44,a21,pJ]at f;obtain⟨x,E,v,i,rfl,rfl⟩:=f;obtain⟨P,-,Q⟩:=b5I E;obtain⟨j,-,-⟩:=b4u i;refine⟨?_,?_⟩;show((s.2.2.2.2.2.1.length:Nat):Int)=_;simp_all;show(b2D (x.take s.2.2.2.2.2.1.length) v s.2.2.2.2.2.1 s.2.2.2.1).bind (fun l=>b3d l s.2.2.2.2.1 s.2.2.2.2.2.2.1)=_;simp_all;simp only[a5J,show ¬ (5:Int)=2 by simp,show ¬ (5:Int)=3 by simp,show ¬ (5:Int)=4 by simp,if_false,a21,pJ]at f;obtain⟨v,i,rfl,rfl⟩:=f;obtain⟨j,-,-⟩:=b8r i;exact⟨rfl,j⟩
  have c:¬ (k=0∨k=1):=by omega
  have g:a1v (a1S (a0Y k s) (a3e l) d p r) (l.length:Int):=by
   unfold a1v;rw[q.1];exact⟨by omega,by omega,b7y t,b2Q,a83 _,(by show((a3e l:Nat):Int)≤30;omega),fun h=>absurd (.inl h) c,rfl,M,B,fun h=>absurd h c,fun _=>⟨(by show((r.length:Nat):Int)=_;omega),hp⟩⟩
  refine⟨b4y b (by omega) (by omega) (by omega),rfl,g,key _ g ?_⟩;have D:¬ (a1S (a0Y k s) (a3e l) d p r).1=0:=fun h=>c (.inl h);unfold c3f;rw[if_neg D,q.2];exact C
theorem c7j:SmallS (a2i 0):=c5r 0
def cS(k o sh:Int)(c:List Int)(st:List Stg):Sub:=
 (k,(0:Int),o,sh,(0:Int),c,a00 3 (0:Int),st,([]:List Int),((0:Int),([]:List Int),()),([]:List Int),())
theorem b0Y{k o sh:Int}{c:List Int}{st:List Stg}(h:c.length≤40)(g:st.length≤6):SmallS (cS k o sh c st):=
 ⟨h,rfl,g,by simp[cS],by simp[cS],by simp[cS]⟩
def b2k(d:List Int)(o w:Int):List Int×(Int×Int):=(a3U (d,o,w)).getD ([],0,1)
def b0Z(d:List Int)(o w:Int):List Sub:=bif (b2k d o w).2.2==0 then[cS 3 0 (b2k d o w).2.1 (b2k d o w).1 []]else[]
def c7k(d:List Int):Int:=(a6n d).getD 0
def b4z(d:List Int):Sub×Bool:=(a3D d).getD (a2i 0,false)
def b7z(d:List Int):List Sub:=bif (b4z d).2 then[(b4z d).1]else[]
def b1a(i:Nat):List Sub:=(List.range i).map fun(j:Nat)=>cS 2 (j:Int) 0 [] []
def a2v(d:List Int):List Sub:=[cS 0 0 0 [] [],cS 1 0 0 [] [],cS 2 (c7k d) 0 [] []]
def a3P(d:List Int)(k:Int):List Sub:=if 1≤k then b0Z d 4 12++b0Z d 8 12 else[]
def b1D(d:List Int)(k:Int):List Sub:=if 2≤k then[cS 5 0 0 [] [((16:Int),(4:Int),())],cS 5 0 0 [] [((32:Int),(3:Int),()),((16:Int),(5:Int),())]]++b7z d else[]
def c2j(d:List Int)(k:Int):List Sub:=if 3≤k then b1a 5++(b0Z d 1 12++(b0Z d 2 12++(b0Z d 12 14++b0Z d 16 14)))else[]
def a4m(d:List Int)(k:Int):List Sub:=a2v d++(a3P d k++(b1D d k++c2j d k))
def b8y(d:List Int):Prop:=a3D d=some (b4z d)∧((b4z d).2=true→SmallS (b4z d).1)
theorem c3F(a:d.all a0A=true)(k:d.length≤4096)(h:1≤o)(g:o≤32)(f:2≤w∧w≤16):
  a3U (d,(o:Int),(w:Int))=some (b2k d o w)∧((b2k d o w).2.2=0→(b2k d o w).1.length=o):=by
 obtain⟨c,sh,e,b,i⟩:=c8r a k h g f;unfold b2k;simp_all
theorem b1b(d:List Int)(o w:Int):(b0Z d o w).length≤1:=by
 grind[b0Z]
theorem b1c(c:d.all a0A=true)(b:d.length≤4096)(f:1≤o)(k:o≤32)(a:2≤w∧w≤16){L:List Sub}(e:L.length<1000):
  a0Q ((o:Int),(w:Int),d,L)=some (d,L++b0Z d o w):=by
 obtain⟨g,-⟩:=c3F c b f k a;have h:lim (L.length+1)=true:=a0U (by omega);unfold a0Q b0Z;simp only[g,oB];cases (b2k d o w).2.2==0 with
 |true=>simp only[cT,h];rfl
 |false=>simp
theorem c7l{L:List Sub}(k:L.length<1000):y0s a2w ((0:Int),L,d,())=some (L++b1a 5,d,()):=by
 have:=a1C (f:=a2w) (fun i:Nat=>((i:Int),L++b1a i,d,())) 5 (b:=(L++b1a 5,d,()))
  (fun i hi=>by
   have g:decide ((i:Int)<5)=true:=decide_eq_true (by omega);have h:lim ((L++b1a i).length+1)=true:=a0U (by simp[b1a];omega);have e:(L++b1a i)++[cS 2 (i:Int) 0 [] []]=L++b1a (i+1):=by simp[b1a,List.range_succ]
   rw[←e];simp only[a2w,g,cT,h,a0C (show i<1000000 by omega)];rfl)
  (by
   rfl)
 simp at this;rw[show b1a 0=[]from rfl,a40]at this;omega
theorem d2h(a:d.all a0A=true)(c:d.length≤4096)(l:b8y d)(k:Int):a6P (d,k)=some (a4m d k):=by
 obtain⟨o,E,F⟩:=b8p (show d.length<100000 by omega) a;have hb:c7k d=(o:Int):=by simp_all[c7k]
 have D:(b7z d).length≤1:=by grind[b7z]
 have M:=b1b d 4 12;have N:=b1b d 8 12;have l1:=b1b d 1 12;have l2:=b1b d 2 12;have G:=b1b d 12 14;have y:=fun L (hL:L.length<1000)=>b1c (L:=L) a c (o:=4) (w:=12) (by omega) (by omega) (by omega) hL;have z:=fun L (hL:L.length<1000)=>b1c (L:=L) a c (o:=8) (w:=12) (by omega) (by omega) (by omega) hL;have v:=fun L (hL:L.length<1000)=>b1c (L:=L) a c (o:=1) (w:=12) (by omega) (by omega) (by omega) hL;have x:=fun L (hL:L.length<1000)=>b1c (L:=L) a c (o:=2) (w:=12) (by omega) (by omega) (by omega) hL;have i:=fun L (hL:L.length<1000)=>b1c (L:=L) a c (o:=12) (w:=14) (by omega) (by omega) (by omega) hL;have j:=fun L (hL:L.length<1000)=>b1c (L:=L) a c (o:=16) (w:=14) (by omega) (by omega) (by omega) hL;simp at y z v x i j;have O:(a2v d).length=3:=rfl;have n1:(a3P d k).length≤2:=by unfold a3P;split<;>simp<;>omega
 have n2:(b1D d k).length≤3:=by unfold b1D;split<;>simp<;>omega
 have P:(b1a 5).length=5:=rfl;have K:(bif decide (k≥1)then((a0Q ((4:Int),(12:Int),d,a2v d)).bind fun n=>(a0Q ((8:Int),(12:Int),n.1,n.2)).bind fun p=>some (k,p.1,p.2,()))else some (k,d,a2v d,()))=some (k,d,a2v d++a3P d k,()):=by
  unfold a3P
  by_cases h:1≤k
  have e:decide (k≥1)=true:=decide_eq_true h;simp only[e,cT,y (a2v d) (by omega),oB,z (a2v d++b0Z d 4 12) (by grind),if_pos h,aA]
  grind
 have C:a6P (d,k)=(a6n d).bind fun A=>
   (show Option (Int×((List Int)×((List Sub)×Unit)))from bif decide (k≥1)then((a0Q ((4:Int),(12:Int),d,[cS 0 0 0 [] [],cS 1 0 0 [] [],cS 2 A 0 [] []])).bind fun n=>(a0Q ((8:Int),(12:Int),n.1,n.2)).bind fun p=>some (k,p.1,p.2,()))else some (k,d,[cS 0 0 0 [] [],cS 1 0 0 [] [],cS 2 A 0 [] []],())).bind fun g=>
   (show Option (Int×((List Sub)×((List Int)×Unit)))from bif decide (g.1≥2)then(bif lim (g.2.2.1.length+1)then(bif lim ((g.2.2.1++[cS 5 0 0 [] [((16:Int),(4:Int),())]]).length+1)then((a3D g.2.1).bind fun q=>
    bif q.2 then(bif lim ((g.2.2.1++[cS 5 0 0 [] [((16:Int),(4:Int),())]]++[cS 5 0 0 [] [((32:Int),(3:Int),()),((16:Int),(5:Int),())]]).length+1)then some (g.1,g.2.2.1++[cS 5 0 0 [] [((16:Int),(4:Int),())]]++[cS 5 0 0 [] [((32:Int),(3:Int),()),((16:Int),(5:Int),())]]++[q.1],g.2.1,())else none)
    else some (g.1,g.2.2.1++[cS 5 0 0 [] [((16:Int),(4:Int),())]]++[cS 5 0 0 [] [((32:Int),(3:Int),()),((16:Int),(5:Int),())]],g.2.1,()))else none)else none)else some (g.1,g.2.2.1,g.2.1,())).bind fun t=>
   (show Option ((List Sub)×Unit)from bif decide (t.1≥3)then((y0s a2w ((0:Int),t.2.1,t.2.2.1,())).bind fun m=>(a0Q ((1:Int),(12:Int),m.2.1,m.1)).bind fun r=>(a0Q ((2:Int),(12:Int),r.1,r.2)).bind fun s=>
    (a0Q ((12:Int),(14:Int),s.1,s.2)).bind fun f=>(a0Q ((16:Int),(14:Int),f.1,f.2)).bind fun b=>some (b.2,()))else some (t.2.1,())).bind fun u=>some u.1:=rfl
 have B:[cS 0 0 0 [] [],cS 1 0 0 [] [],cS 2 (o:Int) 0 [] []]=a2v d:=by unfold a2v;grind
 have Q:(bif decide (k≥2)then(bif lim ((a2v d++a3P d k).length+1)then(bif lim ((a2v d++a3P d k++[cS 5 0 0 [] [((16:Int),(4:Int),())]]).length+1)then((a3D d).bind fun q=>
    bif q.2 then(bif lim ((a2v d++a3P d k++[cS 5 0 0 [] [((16:Int),(4:Int),())]]++[cS 5 0 0 [] [((32:Int),(3:Int),()),((16:Int),(5:Int),())]]).length+1)then some (k,a2v d++a3P d k++[cS 5 0 0 [] [((16:Int),(4:Int),())]]++[cS 5 0 0 [] [((32:Int),(3:Int),()),((16:Int),(5:Int),())]]++[q.1],d,())else none)
    else some (k,a2v d++a3P d k++[cS 5 0 0 [] [((16:Int),(4:Int),())]]++[cS 5 0 0 [] [((32:Int),(3:Int),()),((16:Int),(5:Int),())]],d,()))else none)else none)else some (k,a2v d++a3P d k,d,()):Option (Int×((List Sub)×((List Int)×Unit))))=some (k,a2v d++(a3P d k++b1D d k),d,()):=by
  unfold b1D
  by_cases h:2≤k
  have e:decide (k≥2)=true:=decide_eq_true h;have q1:lim ((a2v d++a3P d k).length+1)=true:=a0U (by grind);have H:lim ((a2v d++a3P d k++[cS 5 0 0 [] [((16:Int),(4:Int),())]]).length+1)=true:=a0U (by simp;omega);have I:lim ((a2v d++a3P d k++[cS 5 0 0 [] [((16:Int),(4:Int),())]]++[cS 5 0 0 [] [((32:Int),(3:Int),()),((16:Int),(5:Int),())]]).length+1)=true:=a0U (by simp;omega);simp only[e,q1,H,I,cT,l.1,oB,if_pos h,b7z];cases (b4z d).2<;>simp
  grind
 have R:(bif decide (k≥3)then((y0s a2w ((0:Int),a2v d++(a3P d k++b1D d k),d,())).bind fun m=>(a0Q ((1:Int),(12:Int),m.2.1,m.1)).bind fun r=>(a0Q ((2:Int),(12:Int),r.1,r.2)).bind fun s=>
    (a0Q ((12:Int),(14:Int),s.1,s.2)).bind fun f=>(a0Q ((16:Int),(14:Int),f.1,f.2)).bind fun b=>some (b.2,()))else some (a2v d++(a3P d k++b1D d k),()):Option ((List Sub)×Unit))=some (a4m d k,()):=by
  unfold a4m c2j
  by_cases h:3≤k
  have e:decide (k≥3)=true:=decide_eq_true h;simp only[e,cT,c7l (L:=a2v d++(a3P d k++b1D d k)) (by simp;omega),oB,if_pos h];rw[v _ (by simp;omega)];simp only[oB];rw[x _ (by simp;omega)];simp only[oB];rw[i _ (by simp;omega)];simp only[oB];rw[j _ (by simp;omega)]
  simp
  grind
 rw[C,E,oB,B];simp only[];rw[K];simp only[oB];simp_all
theorem b8z(l:d.all a0A=true)(i:d.length≤4096)(f:b8y d)(k:Int):∀c∈a4m d k,SmallS c:=by
 have g:∀(o w:Nat),1≤o→o≤32→2≤w∧w≤16→∀c∈b0Z d o w,SmallS c:=fun o w a b e c h=>by
  obtain⟨-,m⟩:=c3F l i a b e;unfold b0Z at h;cases he:(b2k d o w).2.2==0 with
  |false=>simp_all
  |true=>
   rw[he]at h;simp at h
   grind[b0Y]
 intro c h;simp[a4m]at h;rcases h with h|h|h|h;simp[a2v]at h;rcases h with rfl|rfl|rfl<;>exact b0Y (by simp) (by simp);unfold a3P at h
 split at h
 simp at h;rcases h with h|h;exact g 4 12 (by omega) (by omega) (by omega) c h;exact g 8 12 (by omega) (by omega) (by omega) c h;simp_all
 ·unfold b1D at h
  split at h
  ·simp only[mA,mC,a96,or_false]at h;rcases h with(rfl|rfl)|h;simp_all[b0Y];simp_all[b0Y]
   ·unfold b7z at h;cases hg:(b4z d).2 with
    |false=>simp_all
    |true=>
     rw[hg]at h;simp at h;subst h;exact f.2 hg
  simp_all
 unfold c2j at h
 split at h
 simp only[mA,b1a,List.mem_map]at h;rcases h with⟨j,-,rfl⟩|h|h|h|h;simp_all[b0Y];exact g 1 12 (by omega) (by omega) (by omega) c h;exact g 2 12 (by omega) (by omega) (by omega) c h;exact g 12 14 (by omega) (by omega) (by omega) c h;exact g 16 14 (by omega) (by omega) (by omega) c h;simp_all
theorem c9S(g:d.length≤256):a3D d=some (a2i 0,false):=by
 have h:b1q (d,(16:Int),(256:Int))=some (0,7):=by
  unfold b1q
  grind
 unfold a3D;simp only[h,oB,show((7:Int) != 0)=true from rfl,cT];rfl
theorem d3J{d:List Int}(g:d.length≤256):b8y d:=by
 have h:=c9S g
 have:b4z d=(a2i 0,false):=by unfold b4z;simp_all
 exact⟨by simp_all,fun f=>by simp_all⟩
def b3W(l:List Int)(a:Int×(Bool×Sub))(c:Sub):Int×(Bool×Sub):=
 bif (a1s c.1 l c).2 != 0 then a else bif !a.2.1 || decide (a5d (a1s c.1 l c).1 (l.length:Int)<a.1)then(a5d (a1s c.1 l c).1 (l.length:Int),true,(a1s c.1 l c).1)else a
def b4A(l:List Int)(cs:List Sub):Int×(Bool×Sub):=cs.foldl (b3W l) (0,false,a2i 0)
theorem b4B{α A β:Type}(g:A→α→A)(h:A→β):∀(l:List α)(a:A),a8c h (a2U (fun a x=>.inl (g a x)) l a)=h (l.foldl g a)
 | [],_=>rfl
 |x::l,a=>b4B g h l (g a x)
theorem c5s(h:SmallS s):SmallS (a1s k l s).1:=by
 by_cases h0:(a1s k l s).2=0
 exact(b9O h h0).1
 have:(a1s k l s).1=a2i 0:=by
  unfold a1s at h0⊢
  grind
 simp_all[c7j]
theorem c8y{cs:List Sub}(e:∀c∈cs,SmallS c)(o:l.length≤4096)(n:cs.length<1000):
  y0s a7k (l,(0:Int),false,cs,((cs.length:Nat):Int),(0:Int),a2i 0,a2i 0,())=some (a2i 0,(b4A l cs).2.2,()):=by
 have:=a1M (f:=a7k) cs (fun i a=>(l,a.1,a.2.1,cs,((cs.length:Nat):Int),(i:Int),a2i 0,a.2.2,())) (fun a x=>.inl (b3W l a x)) (fun _ _=>True) (fun a=>(a2i 0,a.2.2,()))
  (fun i hi a _=>by
   refine⟨fun m h=>?_,fun b hb=>by grind⟩;simp at h;subst h;refine⟨?_,trivial⟩;have g:=e _ (a05 hi);have d:=c5G (c5s (k:=cs[i].1) (l:=l) g) (l.length:Int);unfold b3W;simp only[a7k,dlt hi,cT,a0D hi,oB,d2g g cs[i].1 (show l.length≤100000 by omega),d,a0C (show i<1000000 by omega)];cases (a1s cs[i].1 l cs[i]).2 != 0 with
   |true=>rfl
   |false=>
    have j:=a0C (show i<1000000 by omega)
    grind)
  (fun a _=>by simp_all[a7k]) (a:=((0:Int),false,a2i 0)) trivial
 simp at this;rw[this,b4B];rfl
theorem d2i(v:1≤l.length)(c:l.length≤4096)(a:l.all a0A=true)(h:b8y (a1i l))(u:0≤k)(x:k≤3):
  a5C (l,k)=some ((b4A l (a4m (a1i l) k)).2.2,0):=by
 have d:short l:=by unfold short;omega
 obtain⟨r,s,-⟩:=a9k d a;obtain⟨e,b,t,-⟩:=a6S c a;have i:decide (((l.length:Nat):Int)<1)=false:=decide_eq_false (by omega);have j:decide (((l.length:Nat):Int) > 4096)=false:=decide_eq_false (by omega);have m:decide (k<0)=false:=decide_eq_false (by omega);have n:decide (k > 3)=false:=decide_eq_false (by omega);have f:(a4m (a1i l) k).length<1000:=by
  have g:=fun o w=>b1b (a1i l) o w;have q1:=g 4 12;have y:=g 8 12;have z:=g 1 12;have A:=g 2 12;have B:=g 12 14;have C:=g 16 14;have p:(b7z (a1i l)).length≤1:=by grind[b7z]
  simp only[a4m,a2v,a3P,b1D,c2j,lN]
  grind[b1a]
 have hb:=c8y (l:=l) (b8z b (by omega) h k) c f;have q:a2i 0=((0:Int),(0:Int),(0:Int),(0:Int),(0:Int),([]:(List Int)),a00 3 (0:Int),([]:(List (Int×Int×Unit))),([]:(List Int)),((0:Int),([]:(List Int)),()),([]:(List Int)),()):=rfl;unfold a5C;simp only[←q,i,j,m,n,cF,oB,a4D d,a,bT,r,b3R s (show l.length<100000 by omega),e,a5f,show((0:Int) != 0)=false from rfl,d2h b (show(a1i l).length≤4096 by omega) h,hb]
theorem b1d(v:Int)(n:Nat)(L:List Int):(a0P v n L).length=L.length+(a0P v n []).length:=by
 grind[a0P]
theorem b3m(n:Nat):∀(l L:List Int),(a1I n l L).length=L.length+(a1I n l []).length
 | [],L=>by rfl
 |x::l,L=>by
  show(a1I n l (a0P (a0X x n) n L)).length=L.length+(a1I n l (a0P (a0X x n) n [])).length;rw[b3m n l,b3m n l (a0P (a0X x n) n []),b1d];omega
theorem b3D:∀(st:List Stg)(L:List Int),(a3o st L).length=L.length+(a3o st []).length
 | [],L=>by rfl
 |s::st,L=>by
  show(a3o st (a6w s L)).length=L.length+(a3o st (a6w s [])).length;rw[b3D st,b3D st (a6w s [])];unfold a6w;rw[b1d,b1d _ 5 L,b1d _ 4 (a0P _ 5 [])];omega
theorem c7m(s:Sub)(L:List Int):(a6x s L).length=L.length+(a6x s []).length:=by
 grind[a6x,b3m,b1d]
theorem c0P(s:Sub)(L:List Int):(a2F s L).length=L.length+(a2F s []).length:=by
 grind[a2F,b1d,c7m,b3m,b3D]
theorem c9T(g:0≤s.1∧s.1≤5)(f:0≤s.2.1∧s.2.1≤30)(h:s.2.2.2.2.2.2.2.2.1.all a0A=true)(L:List Int):(b1z s L).length=L.length+13:=by
 grind[a01,a2c,b1z,a3E,b0X]
def c7n(s:Sub)(zn:List Nat):Nat:=
 13+(a2F s []).length+a0J s.2.2.2.2.2.2.2.2.1*s.2.2.2.2.2.2.2.2.1.length+if s.1=0∨s.1=1 then 0 else 4+a5I zn s.2.2.2.2.2.2.2.2.2.1.2.1 s.2.2.2.2.2.2.2.2.2.2.1
theorem b4C(h:a3X k s n):0≤k∧k≤5:=by
 rcases h with h|h|⟨h,-⟩|⟨h,-⟩|⟨h,-⟩|⟨h,-⟩<;>omega
theorem b3E(h:(a2r s n).isSome=true):a1v s n:=by
 grind[a2r]
theorem d2j(h:(a2r s n).isSome=true)(d:s.1≠0∧s.1≠1→PartsOk s.2.2.2.2.2.2.2.2.2.1 n ((s.2.2.2.2.2.2.2.2.1.length:Nat):Int) s.2.2.2.2.2.2.2.2.2.2.1 zn)(L:List Int):
  (a5m s zn L).length=L.length+c7n s zn:=by
 obtain⟨e,i,b,-,k,a,-,-,f,-⟩:=b3E h;have c:=a2c f;have g:=c9T (b4C b) ⟨k,a⟩ f L;unfold a5m c7n
 by_cases hk:s.1=0∨s.1=1
 rw[if_pos hk,if_pos hk,b3k (by omega),c0P,g];omega;rw[if_neg hk,if_neg hk,c2c (d (not_or.1 hk)),b3k (by omega),c0P,g];omega
theorem c9U(h:SmallS s)(f:(a2r s n).isSome=true):∃g,a5d s n=((c7n s g:Nat):Int)∧(s.1≠0∧s.1≠1→PartsOk s.2.2.2.2.2.2.2.2.2.1 n ((s.2.2.2.2.2.2.2.2.1.length:Nat):Int) s.2.2.2.2.2.2.2.2.2.2.1 g):=by
 obtain⟨e,b,-,-,-,a,-⟩:=b4o h (n:=n) (L:=[]) (by simp);obtain⟨-,g,-,k⟩:=a f;refine⟨g,?_,k⟩;unfold a5d;rw[if_pos f,←b9M k,d2j f k]
 simp
structure Shifted (l m:List Int) (n:Nat):Prop where
 len:m.length=l.length
 wl:l.all a0A=true
 wm:m.all a0A=true
 down:a1i m=a1i l
 waste:a3e m=a3e l+n
 fl:l.all (fun x=>x==l.headD 0)=false
 fm:m.all (fun x=>x==m.headD 0)=false
structure BestIs (l:List Int) (cs:List Sub) (a:Int×(Bool×Sub)):Prop where
 one:a.2.1=true→∃c∈cs,(a1s c.1 l c).2=0∧a.2.2=(a1s c.1 l c).1∧a.1=a5d a.2.2 (l.length:Int)
 least:∀c∈cs,(a1s c.1 l c).2=0→a.2.1=true∧a.1≤a5d (a1s c.1 l c).1 (l.length:Int)
theorem b5L{l:List Int}:∀(cs ds:List Sub)(a:Int×(Bool×Sub)),BestIs l ds a→BestIs l (ds++cs) (cs.foldl (b3W l) a)
 | [],ds,a,h=>by simp_all
 |c::cs,ds,a,h=>by
  rw[b00,show ds++c::cs=(ds++[c])++cs by simp];refine b5L cs (ds++[c]) _ ?_
  unfold b3W
  by_cases h0:(a1s c.1 l c).2=0
  ·have n1:((a1s c.1 l c).2 != 0)=false:=by simp_all
   rw[n1,cF];cases hq:(!a.2.1 || decide (a5d (a1s c.1 l c).1 (l.length:Int)<a.1))with
   |true=>
    refine⟨fun _=>⟨c,by simp,h0,rfl,rfl⟩,fun d f k=>⟨rfl,?_⟩⟩;rcases mA.1 f with f|f;obtain⟨e,i⟩:=h.least d f k
    grind
    simp_all
   |false=>
    simp only[a77,Bool.not_eq_false',decide_eq_false_iff_not]at hq;refine⟨fun b=>?_,fun d f k=>?_⟩;obtain⟨d,f,g⟩:=h.one b
    grind
    rcases mA.1 f with f|f;exact h.least d f k;simp_all
  have n1:((a1s c.1 l c).2 != 0)=true:=by simp_all
  rw[n1,cT];refine⟨fun b=>?_,fun d f k=>?_⟩;obtain⟨d,f,g⟩:=h.one b
  grind
  rcases mA.1 f with f|f;exact h.least d f k;simp_all
theorem b9P(l:List Int)(cs:List Sub):BestIs l cs (b4A l cs):=
 b5L cs [] _ ⟨fun h=>(by grind),fun _ h=>(by grind)⟩
theorem b4D(h:1≤l.length)(g:l.length≤4096)(f:l.all a0A=true):a1s 1 l (cS 1 0 0 [] [])=(a1S (a0Y 1 (cS 1 0 0 [] [])) (a3e l) (a1i l) z0 [],0):=by
 unfold a1s;rw[if_neg (fun q=>q ⟨h,g,.inr (.inl rfl)⟩),if_neg (by simp_all),if_neg (by simp),if_pos rfl]
theorem c7o(h:1≤l.length)(g:l.length≤4096)(f:l.all a0A=true)(d:List Int)(k:Int):(b4A l (a4m d k)).2.1=true:=
 ((b9P l (a4m d k)).least (cS 1 0 0 [] []) (by simp[a4m,a2v]) (by rw[show(cS 1 0 0 [] []).1=1 from rfl,b4D h g f])).1
def inW(x:Int)(v:Nat):Bool:=decide (x=0) || a1h x (v:Int)
theorem c9V{x:Int}{v:Nat}:a1h x (v:Int)=true↔1≤v∧v≤31∧-((2^(v-1):Nat):Int)≤x∧x≤((2^(v-1):Nat):Int)-1:=by
 by_cases hv:1≤v∧v≤31
 have e:((v:Int)-1)=((v-1:Nat):Int):=by omega
 have hp:2^(v-1)≤2^30:=a08 (by omega) (by omega);have a:=a16 (v-1);have g:A0n .i64 1 ((v-1:Nat):Int)=((2^(v-1):Nat):Int):=c3p (by omega);have f:A0n .i64 (-1) ((v-1:Nat):Int)=-((2^(v-1):Nat):Int):=by
  grind[IntKind.bits,A0n,a0B]
 have k:wrap .i64 (((2^(v-1):Nat):Int)-1)=((2^(v-1):Nat):Int)-1:=a0B (by omega);simp only[a1h,e,g,f,k,bA,dT];omega;constructor;intro h;simp[a1h]at h;omega;omega
theorem b6g:inW x v=true↔x=0∨(1≤v∧v≤31∧-((2^(v-1):Nat):Int)≤x∧x≤((2^(v-1):Nat):Int)-1):=by
 simp_all[inW,c9V]
theorem c9W{x:Int}{v w:Nat}(h:v≤w)(c:w≤31)(g:inW x v=true):inW x w=true:=by
 rw[b6g]at g⊢;rcases g with g|⟨f,k,a,b⟩;omega
 have:2^(v-1)≤2^(w-1):=a08 (by omega) (by omega)
 omega
theorem c9X{x:Int}(h:a0A x=true):inW x 31=true:=by
 have:=a1N.1 h
 rw[b6g];omega
theorem c0Q{x:Int}(j:a0A x=true):∀(k w:Nat),w+k=32→w≤31→w≤a1R x k w∧a1R x k w≤31∧inW x (a1R x k w)=true∧∀v,w≤v→inW x v=true→v≤31→a1R x k w≤v
 |0,w,h,g=>absurd g (by omega)
 |k+1,w,h,g=>by
  by_cases hin:inW x w=true
  ·have:a1R x (k+1) w=w:=by
    unfold a1R;cases a:(x != 0)&&!a1h x (w:Int)with
    |false=>rfl
    |true=>
     simp at a;simp_all[inW]
   simp_all
  have a:((x != 0)&&!a1h x (w:Int))=true:=by
   simp_all[inW]
  have i:w≠31:=fun e=>hin (by simp_all[c9X]);have e:a1R x (k+1) w=a1R x k (w+1):=by
   show(bif (x != 0)&&!a1h x (w:Int)then a1R x k (w+1)else w)=_
   grind
  obtain⟨l,b,c,d⟩:=c0Q j k (w+1) (by omega) (by omega);rw[e];refine⟨by omega,b,c,fun v hv f g=>d v ?_ f g⟩;rcases Nat.lt_or_ge w v with q|q;exact q
  have:v=w:=by omega
  exact absurd (this▸f) hin
theorem b0K:∀(l:List Int)(w:Nat),l.all a0A=true→w≤31→
  w≤l.foldl (fun w x=>a1R x (32-w) w) w∧l.foldl (fun w x=>a1R x (32-w) w) w≤31∧(∀x∈l,inW x (l.foldl (fun w x=>a1R x (32-w) w) w)=true)∧∀v,w≤v→v≤31→(∀x∈l,inW x v=true)→l.foldl (fun w x=>a1R x (32-w) w) w≤v
 | [],w,_,h31=>⟨a27 _,h31,by simp,fun v hv _ _=>hv⟩
 |x::l,w,h,h31=>by
  rw[a07,bA]at h;obtain⟨i,b,j,m⟩:=c0Q h.1 (32-w) w (by omega) h31;obtain⟨c,a,d,e⟩:=b0K l (a1R x (32-w) w) h.2 b;simp only[b00];refine⟨by omega,a,fun y k=>?_,fun v hv f g=>?_⟩
  ·rcases mC.1 k with rfl|k
   all_goals grind[c9W]
  simp_all
theorem c3G{l:List Int}(h:l.all a0A=true):∀x∈l,inW x (a0J l)=true:=(b0K l 0 h (by omega)).2.2.1
theorem c5t(h:l.all a0A=true)(hv:v≤31)(g:∀x∈l,inW x v=true):a0J l≤v:=(b0K l 0 h (by omega)).2.2.2 v (by omega) hv g
theorem c9Y{x:Int}{w v:Nat}(e:w≤30)(k:((2^w:Nat):Int) ∣ x)(h:inW x v=true):inW (A0o .i64 x (w:Int)) v=true:=by
 obtain⟨c,rfl⟩:=k;rw[c9M (by omega)];rw[b6g]at h⊢;have hp:(1:Int)≤((2^w:Nat):Int):=by have:=a16 w;omega
 generalize ((2^w:Nat):Int)=p at h hp;rcases h with h|⟨g,f,b,d⟩
 grind[Int.mul_eq_zero]
 refine .inr ⟨g,f,?_,?_⟩
 by_cases hc:0≤c
 omega;have a:=a47 (show 0≤p-1 by omega) (show 0≤-c by omega)
 grind
 by_cases hc:0≤c
 have a:=a47 (show 0≤p-1 by omega) hc
 grind
 omega
theorem c7p(k:l.length≤4096)(h:l.all a0A=true):a0J (a1i l)≤a0J l:=by
 obtain⟨-,e,c⟩:=a9k (show short l by unfold short;omega) h;obtain⟨-,f,-,-⟩:=a6S k h;have a:∀x∈l,((2^a3e l:Nat):Int) ∣ x:=by
  rcases c with⟨g,-⟩|⟨-,-,g,-⟩
  all_goals grind[a86]
 refine c5t f (a2c h) fun y b=>?_
 obtain⟨x,d,rfl⟩:=List.mem_map.1 b
 grind[c9Y,c3G]
theorem c7q(a:1≤l.length)(h:l.length≤4096)(g:l.all a0A=true):a5d (a1s 1 l (cS 1 0 0 [] [])).1 (l.length:Int)=((13+a0J (a1i l)*l.length:Nat):Int):=by
 have b:SmallS (cS 1 0 0 [] []):=b0Y (by simp) (by simp);have d:=b4D a h g;obtain⟨a1,-,-,f⟩:=b9O b (k:=1) (l:=l) (by grind);obtain⟨i,c,-⟩:=c9U a1 (by rw[f];rfl);obtain⟨-,-,j,-⟩:=a6S h g;rw[c,d];have e:c7n (a1S (a0Y 1 (cS 1 0 0 [] [])) (a3e l) (a1i l) z0 []) i=13+0+a0J (a1i l)*(a1i l).length+0:=rfl;simp_all
theorem c7r{l:List Int}(b:1≤l.length)(f:l.length≤4096)(a:l.all a0A=true)(g:b8y (a1i l)){k:Int}(d:0≤k)(t:k≤3):
  ∃s,a5C (l,k)=some (s,0)∧SmallS s∧a2r s (l.length:Int)=some l∧s=(b4A l (a4m (a1i l) k)).2.2∧a5d s (l.length:Int)=(b4A l (a4m (a1i l) k)).1∧a5d s (l.length:Int)≤((13+a0J l*l.length:Nat):Int)∧
   (∀c∈a4m (a1i l) k,(a1s c.1 l c).2=0→a5d s (l.length:Int)≤a5d (a1s c.1 l c).1 (l.length:Int)):=by
 obtain⟨-,p,u,-⟩:=a6S f a;have hb:=d2i b f a g d t;have j:=c7o b f a (a1i l) k;obtain⟨c,i,q,r,o⟩:=(b9P l (a4m (a1i l) k)).one j;have e:=b8z p (by omega) g k c i;obtain⟨m,-,-,n⟩:=b9O e q;rw[←r]at m n;have h:∀c∈a4m (a1i l) k,(a1s c.1 l c).2=0→a5d (b4A l (a4m (a1i l) k)).2.2 (l.length:Int)≤a5d (a1s c.1 l c).1 (l.length:Int):=fun c i d=>by
  rw[←o];exact((b9P l (a4m (a1i l) k)).least c i d).2
 refine⟨_,hb,m,n,rfl,o.symm,?_,h⟩;have hp:=h (cS 1 0 0 [] []) (by simp[a4m,a2v]) (by rw[show(cS 1 0 0 [] []).1=1 from rfl,b4D b f a]);rw[show(cS 1 0 0 [] []).1=1 from rfl,c7q b f a]at hp
 have:=a25 l.length (c7p f a)
 omega
@[reducible] def Rd:Type:=(List Int)×(Int×(Int×Unit))
def a1z(L:List Int):Prop:=∀b∈L,b=0∨b=1
def b2q(bs:List Int)(i:Nat):Bool:=(bs.getD (i / 8) 0).toNat.testBit (7-i%8)
theorem or8{x y:Nat}(h:x<256)(g:y<256):bits .u8 .or (x:Int) (y:Int)=((x ||| y:Nat):Int):=by
 show wrap .u8 (((a04 8 (x:Int)) ||| (a04 8 (y:Int))).toNat:Int)=_;rw[a24,a24,a72,a29,a29,a23 h,a23 g,a8b]
 have:x ||| y<2^8:=a88 h g
 omega
theorem d8m{b:Int}(hb:b=0∨b=1){r:Nat}(h:r<8):A0n .u8 b (7-(r:Int))=((b.toNat*2^(7-r):Nat):Int):=by
 have key:∀r:Fin 8,A0n .u8 0 (7-(r.1:Int))=((0*2^(7-r.1):Nat):Int)∧A0n .u8 1 (7-(r.1:Int))=((1*2^(7-r.1):Nat):Int):=by decide +kernel
 rcases hb with rfl|rfl;exact(key ⟨r,h⟩).1;exact(key ⟨r,h⟩).2
theorem c9Z{x:Nat}(h:x<256){r:Nat}(g:r<8):bits .u8 .and (A0o .u8 (x:Int) (7-(r:Int))) 1=if x.testBit (7-r)then 1 else 0:=by
 have e:A0o .u8 (x:Int) (7-(r:Int))=((x / 2^(7-r):Nat):Int):=by
  show a80 (x:Int) (2^(min (7-(r:Int)).toNat 8))=_
  grind
 rw[e];have f:x / 2^(7-r)<256:=a38 (a32 _ _) h;show wrap .u8 (((a04 8 ((x / 2^(7-r):Nat):Int)) &&& (a04 8 1)).toNat:Int)=_
 grind[a04,a8b]
theorem c8z(L:List Int)(b:Int)(i:Nat):(L++[b]).getD i 0=if i=L.length then b else L.getD i 0:=by
 grind
theorem c3H(h:List Int)(k:Nat)(y:Int)(g:k<h.length)(j:Nat):(h.set k y).getD j 0=if j=k then y else h.getD j 0:=by
 grind
theorem c0R:∀(n:Nat)(L:List Int),L.length=n→a1z L→(∀j,0≤(wL L).1.getD j 0∧(wL L).1.getD j 0<256)∧∀i,b2q (wL L).1 i=decide (L.getD i 0=1)
 |0,L,h,_=>by
  simp_all[wL,b2q]
 |n+1,L,h,hL=>by
  obtain⟨g,b,rfl⟩:∃g b,L=g++[b]:=by
   rcases a51 L with rfl|⟨g,b,e⟩
   all_goals simp_all
  have hb:b=0∨b=1:=hL b (by simp);obtain⟨t,v⟩:=c0R n g (by simp_all) fun c C=>hL c (by grind);obtain⟨o,p⟩:=a5R g;rw[b9J];generalize wL g=wr at o p t v⊢;obtain⟨d,m,u⟩:=wr;have o:m=(g.length:Int):=o;have p:d.length=(g.length+7) / 8:=p;subst o;have e8:((g.length:Int) / 8).toNat=g.length / 8:=by rfl
  have q:(g.length:Int)%8=((g.length%8:Nat):Int):=by rfl
  obtain⟨f,a,w,y⟩:∃f:List Int,(if(g.length:Int)%8=0 then d++[0]else d)=f∧g.length / 8<f.length∧∀j,f.getD j 0=d.getD j 0:=by
   grind
  rw[q]at a;have B:g.length%8<8:=a41 _ (by simp);obtain⟨x,r⟩:∃x:Nat,d.getD (g.length / 8) 0=(x:Int):=a01 (t _).1;have k:x<256:=by
   grind
  have s:b.toNat*2^(7-g.length%8)<256:=by
   have hp:2^(7-g.length%8)≤2^7:=a08 (by simp) (by omega)
   grind
  have A:x ||| b.toNat*2^(7-g.length%8)<2^8:=a88 k s;have l:(b9I (d,(g.length:Int),u) b).1=f.set (g.length / 8) ((x ||| b.toNat*2^(7-g.length%8):Nat):Int):=by
   unfold b9I;simp only[a,e8,q];rw[y,r,d8m hb B,or8 k s]
  rw[l];refine⟨fun j=>?_,fun i=>?_⟩
  grind[c3H]
  ·unfold b2q;rw[c3H _ _ _ w,c8z];have hi:=v i;unfold b2q at hi
   by_cases hk:i / 8=g.length / 8
   ·rw[if_pos hk,tN,Nat.testBit_or];rw[hk,r,tN]at hi;rw[hi];have z:(b.toNat*2^(7-g.length%8)).testBit (7-i%8)=(decide (b=1)&&decide (i=g.length)):=by
     rcases hb with rfl|rfl
     all_goals grind
    grind
   grind
theorem d2k(h:a1z L):(∀j,0≤(wL L).1.getD j 0∧(wL L).1.getD j 0<256)∧∀i,b2q (wL L).1 i=decide (L.getD i 0=1):=c0R _ L rfl h
def rdr(P R:List Int):Rd:=((wL (P++R)).1,(P.length:Int),(0:Int),())
theorem b9Q(k:a1z L)(n:L.length<1000000000)(hi:i<L.length)(t:Int×(Int×Unit)):
  a1E (((wL L).1,t),(i:Int))=some (L.getD i 0,(wL L).1,t):=by
 obtain⟨d,e⟩:=d2k k;obtain⟨-,m⟩:=a5R L;have l:a26 (i:Int) 8=((i%8:Nat):Int):=by rfl
 have j:a54 (i:Int) 8=((i / 8:Nat):Int):=by rfl
 have b:wrap .i64 ((i / 8:Nat):Int)=((i / 8:Nat):Int):=a0B (by omega);have c:wrap .i64 (7-((i%8:Nat):Int))=7-((i%8:Nat):Int):=a0B (by omega);have g:decide (7-((i%8:Nat):Int)<0)=false:=by grind
 have hb:i / 8<(wL L).1.length:=by omega
 have f:(wL L).1[i / 8]=(wL L).1.getD (i / 8) 0:=by grind
 unfold a1E;simp only[l,j,b,c,g,a0D hb,oB,cF];obtain⟨x,a⟩:∃x:Nat,(wL L).1.getD (i / 8) 0=(x:Int):=a01 (d _).1;have h:x<256:=by grind
 rw[f,a,c9Z h (a41 _ (by simp))]
 have:=e i
 unfold b2q at this;rw[a,tN]at this;rw[this];have hv:L.getD i 0=0∨L.getD i 0=1:=by
  have:L.getD i 0=L[i]:=by simp_all
  rw[this];exact k _ (a05 hi)
 grind
theorem c8A(hv:v<18446744073709551616)(hi:i≤64):a6Q (v:Int) i=((v / 2^i%2:Nat):Int):=by
 unfold a6Q;rw[a6B hi];have h:v / 2^i<18446744073709551616:=a38 (a32 _ _) hv;show wrap .u8 (wrap .u64 (((a04 64 ((v / 2^i:Nat):Int)) &&& (a04 64 1)).toNat:Int))=_
 grind[a04,a0M,a8b]
theorem a1z.app{A B:List Int}(h:a1z A)(g:a1z B):a1z (A++B):=fun b hb=>(mA.1 hb).elim (h b) (g b)
theorem orU(k:a<18446744073709551616)(hb:b<2)(f:a%2=0):bits .u64 .or (a:Int) (b:Int)=((a+b:Nat):Int):=by
 show wrap .u64 (((a04 64 (a:Int) ||| a04 64 (b:Int)).toNat:Nat):Int)=_;have g:(a04 64 (a:Int)).toNat=a:=by simp_all
 have h:(a04 64 (b:Int)).toNat=b:=by grind
 rw[a72,g,h];have e:a ||| b=a+b:=by
  have:=a59 (i:=1) (b:=b) (by omega) (a / 2)
  grind
 grind[a0M]
theorem c3I{v:Nat}(hv:v<9223372036854775808){n:Nat}(q:n≤62):∀(m:Nat)(P R:List Int),m≤n→a1z (P++(pb (v:Int) m++R))→(P++(pb (v:Int) m++R)).length<1000000000→
  y0s a4h (((v / 2^m:Nat):Int),(n:Int),((n-m:Nat):Int),rdr P (pb (v:Int) m++R),())=some ((v:Int),rdr (P++pb (v:Int) m) R,())
 |0,P,R,_,_,_=>by
  grind[a0F,a4h,pb]
 |m+1,P,R,hm,hok,hlen=>by
  have l:decide (((n-(m+1):Nat):Int)<(n:Int))=true:=by grind
  have a:a1E (rdr P (pb (v:Int) (m+1)++R),(P.length:Int))=some (a6Q v m,rdr P (pb (v:Int) (m+1)++R)):=by
   have:=b9Q hok hlen (i:=P.length) (by simp[pb]) ((P.length:Int),(0:Int),())
   rw[show(P++(pb (v:Int) (m+1)++R)).getD P.length 0=a6Q v m from by simp_all[pb]]at this;exact this
  have g:=c8A (v:=v) (by omega) (i:=m) (by omega);have b:v / 2^m%2<2:=a41 _ (by simp);have f:v / 2^(m+1)=v / 2^m / 2:=by grind[a69]
  have p:v / 2^m≤v:=a32 _ _;have d:A0n .u64 ((v / 2^(m+1):Nat):Int) 1=((v / 2^(m+1)*2^1:Nat):Int):=b1M (o:=1) (by omega) (by omega);have h:bits .u64 .or ((v / 2^(m+1)*2^1:Nat):Int) (wrap .u64 (a6Q (v:Int) m))=((v / 2^m:Nat):Int):=by
   rw[g,a0M (by omega),orU (by omega) b (by omega),f];omega
  have e:wrap .i64 (((n-(m+1):Nat):Int)+1)=((n-m:Nat):Int):=by grind[a0B]
  have j:wrap .i64 ((P.length:Int)+1)=(((P++[a6Q v m]).length:Nat):Int):=by
   grind[a0B]
  have k:P++(pb (v:Int) (m+1)++R)=(P++[a6Q v m])++(pb (v:Int) m++R):=by simp[pb]
  have c:((rdr P (pb (v:Int) (m+1)++R)).1,(((P++[a6Q v m]).length:Nat):Int),(rdr P (pb (v:Int) (m+1)++R)).2.2)=rdr (P++[a6Q v m]) (pb (v:Int) m++R):=by
   unfold rdr;simp_all
  rw[a0E (s':=(((v / 2^m:Nat):Int),(n:Int),((n-m:Nat):Int),rdr (P++[a6Q v m]) (pb (v:Int) m++R),())) (by
   simp only[a4h,l,cT];rw[show(rdr P (pb (v:Int) (m+1)++R)).2.1=(P.length:Int)from rfl,a];simp only[oB,d,h,e];rw[show(rdr P (pb (v:Int) (m+1)++R)).2.1=(P.length:Int)from rfl,j,c])]
  rw[c3I hv q m _ _ (by omega) (by simp_all) (by simp_all)];simp[pb]
theorem c8B{n:Nat}(a:n≤62)(hv:v<2^n)(g:a1z (P++(pb (v:Int) n++R)))(k:(P++(pb (v:Int) n++R)).length<200000000):
  a0G (rdr P (pb (v:Int) n++R),(n:Int))=some ((v:Int),rdr (P++pb (v:Int) n) R):=by
 have h:v<9223372036854775808:=Nat.lt_of_lt_of_le hv (Nat.le_trans (a08 (by simp) a) (by simp));have f:=c3I h a n P R (by omega) g (by omega);rw[a67 hv,a56]at f;simp at f;obtain⟨-,e⟩:=a5R (P++(pb (v:Int) n++R));have j:=b3g (v:Int) n;have i:(P++(pb (v:Int) n++R)).length=P.length+n+R.length:=by grind
 have e8:wrap .i64 ((8:Int)*(((wL (P++(pb (v:Int) n++R))).1.length:Nat):Int))=(8:Int)*(((wL (P++(pb (v:Int) n++R))).1.length:Nat):Int):=a0B (by omega);have d:wrap .i64 ((8:Int)*(((wL (P++(pb (v:Int) n++R))).1.length:Nat):Int)-(P.length:Int))=(8:Int)*(((wL (P++(pb (v:Int) n++R))).1.length:Nat):Int)-(P.length:Int):=a0B (by omega);have b:decide ((n:Int)<0)=false:=by simp
 have c:decide ((n:Int) > 64)=false:=by grind
 have l:decide ((n:Int) > (8:Int)*(((wL (P++(pb (v:Int) n++R))).1.length:Nat):Int)-(P.length:Int))=false:=by
  grind
 unfold a0G a2J;rw[show(rdr P (pb (v:Int) n++R)).2.2.1=0 from rfl];simp only[bne_self_eq_false,cF,b,c,oB];rw[show(rdr P (pb (v:Int) n++R)).1=(wL (P++(pb (v:Int) n++R))).1 from rfl,show(rdr P (pb (v:Int) n++R)).2.1=(P.length:Int)from rfl,e8,d]
 grind
def b3F(n:Nat)(x:Int):Prop:=-((2^n:Nat):Int)≤2*x∧2*x<((2^n:Nat):Int)
theorem c0S{n:Nat}(f:n≤62)(x:Int):∃v:Nat,a0X x n=(v:Int)∧v<2^n∧(v:Int)=x%((2^n:Nat):Int):=by
 have k:wrap .u64 x=x%18446744073709551616:=by rfl
 obtain⟨y,h⟩:∃y:Nat,x%18446744073709551616=(y:Int):=a01 (Int.emod_nonneg _ (by simp));have g:y<18446744073709551616:=by omega
 refine⟨y%2^n,?_,a41 _ (a16 n),?_⟩;simp_all[a0X,c3k];rw[Int.natCast_emod,←h];refine Int.emod_emod_of_dvd x ?_
 have:(2:Nat)^n ∣ 2^64:=a55 2 (by omega)
 exact a20.2 this
theorem c8C{n:Nat}(q:n≤62)(t:b3F n x)(c:a1z (P++(pb (a0X x n) n++R)))(g:(P++(pb (a0X x n) n++R)).length<200000000):
  a1b (rdr P (pb (a0X x n) n++R),(n:Int))=some (x,rdr (P++pb (a0X x n) n) R):=by
 obtain⟨v,hv,b,f⟩:=c0S q x;rw[hv]at c g⊢;have a:=c8B q b c g;obtain⟨i,j⟩:=t;have y:=a16 n;have o:(v:Int)=x∧0≤x∨(v:Int)=x+((2^n:Nat):Int)∧x<0:=by
  by_cases h0:0≤x
  exact .inl ⟨by rw[f];exact a89 h0 (by omega),h0⟩;refine .inr ⟨?_,by omega⟩;rw[f,←Int.add_emod_right];exact a89 (by omega) (by omega)
 unfold a1b;simp[a];rw[show(rdr (P++pb (v:Int) n) R).2.2.1=0 from rfl]
 simp
 cases n with
 |zero=>
  grind
 |succ k=>
  have l:(((k+1:Nat):Int)==0)=false:=by rfl
  have s:wrap .i64 ((64:Int)-((k+1:Nat):Int))=((64-(k+1):Nat):Int):=by grind[a0B]
  have r:decide (((64-(k+1):Nat):Int)<0)=false:=by simp
  simp only[l,cF,s,r];have p:64-(k+1)+(k+1)=64:=by omega
  generalize 64-(k+1)=m at p⊢;have u:2^m*2^(k+1)=18446744073709551616:=by rw[←Nat.pow_add,p]
  have d:((2^m:Nat):Int)*((2^(k+1):Nat):Int)=18446744073709551616:=by omega
  have hp:=a16 m;have w:A0n .u64 (v:Int) (m:Int)=(v:Int)*((2^m:Nat):Int):=by
   show wrap .u64 ((v:Int)*2^(min (m:Int).toNat 64))=_;rw[tN,a71 (by omega)];have e:(2:Int)^m=((2^m:Nat):Int):=by simp
   rw[e];refine a0M ⟨a47 (by omega) (by omega),?_⟩
   have:v*2^m<2^(k+1)*2^m:=Nat.mul_lt_mul_of_pos_right b hp
   grind
  have b1:-9223372036854775808≤x*((2^m:Nat):Int):=by
   have:=Int.mul_le_mul_of_nonneg_right i (show(0:Int)≤((2^m:Nat):Int)by omega)
   grind
  have b2:x*((2^m:Nat):Int)<9223372036854775808:=by
   have:=Int.mul_lt_mul_of_pos_right j (show(0:Int)<((2^m:Nat):Int)by omega)
   grind
  have A:wrap .i64 ((v:Int)*((2^m:Nat):Int))=x*((2^m:Nat):Int):=by
   rcases o with⟨h,-⟩|⟨h,-⟩
   grind[a0B]
   rw[h,Int.add_mul,Int.mul_comm ((2^(k+1):Nat):Int),d]
   grind[wrap,IntKind.bits,IntKind.signed]
  have z:A0o .i64 (x*((2^m:Nat):Int)) (m:Int)=x:=by
   show a80 (x*((2^m:Nat):Int)) (2^(min (m:Int).toNat 64))=x;rw[tN,a71 (by omega)]
   grind[Int.mul_ediv_cancel]
  simp_all
theorem c7s(P:List Int)(n:Nat)(R:List Int){c:Nat}(h:c<n):(P++(a00 n 0++1::R)).getD (P.length+c) 0=0:=by
 grind
theorem d0A(P:List Int)(n:Nat)(R:List Int):(P++(a00 n 0++1::R)).getD (P.length+n) 0=1:=by
 simp
theorem c8D{n lm:Nat}(x:n≤lm)(t:lm<1000000)(o:a1z (P++(a00 n 0++1::R)))(p:(P++(a00 n 0++1::R)).length<200000000):
  a3j (rdr P (a00 n 0++1::R),(lm:Int))=some ((n:Int),rdr (P++(a00 n 0++[1])) R):=by
 obtain⟨-,r⟩:=a5R (P++(a00 n 0++1::R));have s:(P++(a00 n 0++1::R)).length=P.length+n+1+R.length:=by grind
 have e8:wrap .i64 ((8:Int)*(((wL (P++(a00 n 0++1::R))).1.length:Nat):Int))=(8:Int)*(((wL (P++(a00 n 0++1::R))).1.length:Nat):Int):=a0B (by omega);have g:∀c,c≤n→a1E (rdr P (a00 n 0++1::R),((P.length:Int)+(c:Int)))=some (if c=n then 1 else 0,rdr P (a00 n 0++1::R)):=fun c l=>by
  have:=b9Q o (by omega) (i:=P.length+c) (by omega) ((P.length:Int),(0:Int),())
  rw[b01]at this;refine this.trans ?_
  by_cases e:c=n
  subst e;rw[d0A,if_pos rfl];rfl;rw[c7s P n R (by omega),if_neg e];rfl
 have h:∀c:Nat,c≤n→(((P.length:Int)+(c:Int))==(8:Int)*(((wL (P++(a00 n 0++1::R))).1.length:Nat):Int))=false:=fun c l=>by
  grind
 have j:wrap .i64 ((P.length:Int)+(n:Int)+1)=(((P++(a00 n 0++[1])).length:Nat):Int):=by
  rw[a0B (by omega)];grind
 have a:P++(a00 n 0++1::R)=(P++(a00 n 0++[1]))++R:=by simp
 have v:((rdr P (a00 n 0++1::R)).1,(((P++(a00 n 0++[1])).length:Nat):Int),(rdr P (a00 n 0++1::R)).2.2)=rdr (P++(a00 n 0++[1])) R:=by
  unfold rdr;simp
 have k:(rdr P (a00 n 0++1::R)).1=(wL (P++(a00 n 0++1::R))).1:=rfl;have m:=a1C (f:=a3r) (fun c:Nat=>((lm:Int),(c:Int),(P.length:Int)+(c:Int),rdr P (a00 n 0++1::R),())) n (b:=((n:Int),rdr (P++(a00 n 0++[1])) R,()))
  (fun c l=>by
   have d:((0:Int)==1)=false:=rfl;have q:(((c:Nat):Int)==(lm:Int))=false:=by grind
   have w:wrap .i64 ((c:Int)+1)=((c+1:Nat):Int):=a0C (by omega);have w2:wrap .i64 ((P.length:Int)+(c:Int)+1)=(P.length:Int)+((c+1:Nat):Int):=by rw[a0B (by omega)];rfl
   simp only[a3r,k,e8,h c (by omega),cF,g c (by omega),oB,if_neg (Nat.ne_of_lt l),d,q,w,w2])
  (by
   have d:((1:Int)==1)=true:=rfl;simp only[a3r,k,e8,h n (a27 _),cF,g n (a27 _),oB,if_pos rfl,d,cT,j]
   grind)
 unfold a3j;rw[show(rdr P (a00 n 0++1::R)).2.2.1=0 from rfl,show(rdr P (a00 n 0++1::R)).2.1=(P.length:Int)from rfl];have u:v0r (lm:Int) 0=(lm:Int):=by
  rfl
 grind
def OkR(P R:List Int):Prop:=a1z (P++R)∧(P++R).length<200000000
theorem OkR.shift{A:List Int}(h:OkR P (A++R)):OkR (P++A) R:=by
 unfold OkR at h⊢;simp_all
theorem a3F{n:Nat}(g:n≤62)(hv:v<2^n)(h:OkR P (pb (v:Int) n++R)):a0G (rdr P (pb (v:Int) n++R),(n:Int))=some ((v:Int),rdr (P++pb (v:Int) n) R):=c8B g hv h.1 h.2
theorem a9H{n:Nat}(f:n≤62)(g:b3F n x)(h:OkR P (pb (a0X x n) n++R)):a1b (rdr P (pb (a0X x n) n++R),(n:Int))=some (x,rdr (P++pb (a0X x n) n) R):=c8C f g h.1 h.2
def unB(n:Nat):List Int:=a00 n 0++[1]
theorem c3J{n lm:Nat}(f:n≤lm)(g:lm<1000000)(h:OkR P (unB n++R)):a3j (rdr P (unB n++R),(lm:Int))=some ((n:Int),rdr (P++unB n) R):=by
 have e:unB n++R=a00 n 0++1::R:=by simp[unB]
 rw[e]at h⊢;exact c8D f g h.1 h.2
theorem a4S{v n:Nat}(h:n≤63)(hv:v<2^n)(L:List Int):a0P (v:Int) n L=L++pb (v:Int) n:=by
 grind[a0P,a6B,a67]
def a9x(k:Nat)(x:Int):List Int:=
 if a0R x / 2^k<32 then unB (a0R x / 2^k)++pb ((a0R x%2^k:Nat):Int) k else unB 32++pb ((a0R x:Nat):Int) 32
theorem c8E{k:Nat}(f:k≤25)(g:a0A x=true)(L:List Int):a6R k x L=L++a9x k x:=by
 have h:=a9A g;unfold a6R a9x;split;rw[a4S (by omega) (a41 _ (a16 k))];simp[unL,unB]
 grind[a4S,unL,unB]
theorem c8F(f:a0A x=true):a7d ((a0R x:Nat):Int)=some x:=by
 have b:=a9A f;have d:=a1N.1 f;have c:a26 ((a0R x:Nat):Int) 2=((a0R x:Nat):Int)%2:=a43 (by omega);have a:a54 ((a0R x:Nat):Int) 2=((a0R x:Nat):Int) / 2:=a61 (by omega);have k:decide (((a0R x:Nat):Int)≥2147483648)=false:=by grind
 unfold a7d;simp only[k,cF,c,a]
 by_cases h0:0≤x
 have e:((a0R x:Nat):Int)=2*x:=by unfold a0R;grind
 rw[e];have h:((2*x)%2==(0:Int))=true:=by simp
 have g:2*x / 2=x:=by omega
 simp only[h,cT,g]
 grind[a0M,a0B]
 have e:((a0R x:Nat):Int)=-2*x-1:=by unfold a0R;grind
 rw[e];have h:((-2*x-1)%2==(0:Int))=false:=by grind
 have g:(-2*x-1) / 2=-x-1:=by omega
 simp only[h,cF,g]
 grind[a0M,a0B]
theorem c5u{k:Nat}(r:k≤25)(c:a0A x=true)(h:OkR P (a9x k x++R)):b1Y (rdr P (a9x k x++R),(k:Int))=some (x,(0:Int),rdr (P++a9x k x) R):=by
 have m:=a9A c;have b:=c8F c;unfold b1Y a0O;unfold a9x at h⊢;have s:∀A B:List Int,(rdr A B).2.2.1=0:=fun _ _=>rfl;split;rename_i g;rw[if_pos g,aA]at h;have j:=c3J (n:=a0R x / 2^k) (lm:=32) (by omega) (by omega) h;have l:=a3F (n:=k) (v:=a0R x%2^k) (by omega) (a41 _ (a16 k)) h.shift;have i:wrap .u64 ((a0R x / 2^k:Nat):Int)=((a0R x / 2^k:Nat):Int):=a3E (by omega);have d:decide (((a0R x / 2^k:Nat):Int)<32)=true:=by grind
 have e:decide ((k:Int)<0)=false:=by simp
 have f:a0R x / 2^k*2^k≤a0R x:=a78 _ _;have o:A0n .u64 ((a0R x / 2^k:Nat):Int) (k:Int)=((a0R x / 2^k*2^k:Nat):Int):=b1M (by omega) (by omega);have a:wrap .u64 (((a0R x / 2^k*2^k:Nat):Int)+((a0R x%2^k:Nat):Int))=((a0R x:Nat):Int):=by
  rw[←b01,Nat.div_add_mod',a0M (by omega)]
 grind
 rename_i g;rw[if_neg g,aA]at h;have j:=c3J (n:=32) (lm:=32) (by omega) (by omega) h;have l:=a3F (n:=32) (v:=a0R x) (by omega) (by omega) h.shift;have i:wrap .u64 (32:Int)=32:=a0M (by omega);have d:decide ((32:Int)<32)=false:=by simp
 have e:decide ((k:Int)<0)=false:=by simp
 have q:decide (((a0R x:Nat):Int)≥2147483648)=false:=by grind
 have p:A0o .u64 ((a0R x:Nat):Int) (k:Int)=((a0R x / 2^k:Nat):Int):=a6B (by omega)
 grind
def a3G(k:Nat)(l:List Int):List Int:=l.flatMap (a9x k)
theorem b8A{k:Nat}(g:k≤25):∀(l L:List Int),l.all a0A=true→a4Q k l L=L++a3G k l
 | [],L,_=>by simp[a4Q,a3G]
 |x::l,L,h=>by
  simp only[a07,bA]at h;show a4Q k l (a6R k x L)=_;rw[b8A g l _ h.2,c8E g h.1];simp[a3G]
theorem b5j{k:Nat}(g:k≤25){N:Nat}(f:N<1000000):∀(l done P R:List Int),l.all a0A=true→done.length+l.length=N→OkR P (a3G k l++R)→
  y0s a9p ((k:Int),(N:Int),(done.length:Int),done,rdr P (a3G k l++R),())=some (Sum.inl (done++l,rdr (P++a3G k l) R,()))
 | [],done,P,R,_,hl,_=>by
  have:done.length=N:=by omega
  subst this;have d:decide ((done.length:Int)<(done.length:Int))=false:=by simp
  simp_all[a0F,a9p,a3G]
 |x::l,done,P,R,h,hl,hok=>by
  simp only[a07,bA]at h;rw[lC]at hl;have e:a3G k (x::l)++R=a9x k x++(a3G k l++R):=by simp[a3G]
  rw[e]at hok⊢;have d:decide ((done.length:Int)<(N:Int))=true:=by grind
  have b:=c5u g h.1 hok;have a:lim (a37 done+1)=true:=a0T (by omega);have c:wrap .i64 ((done.length:Int)+1)=(((done++[x]).length:Nat):Int):=by grind[a0B]
  rw[a0E (s':=((k:Int),(N:Int),(((done++[x]).length:Nat):Int),done++[x],rdr (P++a9x k x) (a3G k l++R),())) (by
   simp_all[a9p])]
  rw[b5j g f l (done++[x]) (P++a9x k x) R h.2 (by grind) hok.shift];simp[a3G]
theorem c5v{k:Nat}(a:k≤25)(h:l.all a0A=true)(b:l.length<1000000)(f:OkR P (a3G k l++R)):
  b1Z (rdr P (a3G k l++R),(k:Int),((l.length:Nat):Int))=some (l,(0:Int),rdr (P++a3G k l) R):=by
 have hp:a1X (k:Int)=some true:=by
  grind[a1X]
 have c:decide (((l.length:Nat):Int)<0)=false:=by simp
 have d:decide (((l.length:Nat):Int) > 4194304)=false:=by grind
 have e:∀A B:List Int,(rdr A B).2.2.1=0:=fun _ _=>rfl;have g:=b5j a b l [] P R h (by simp) f;simp at g;unfold b1Z a0O
 grind
theorem d0B(h:inW x v=true):b3F v x:=by
 have hp:=a16 v;rcases b6g.1 h with rfl|⟨g,-,f,k⟩;exact⟨by omega,by omega⟩;have e:2^v=2^(v-1)*2:=by rw[←a68];simp_all
 unfold b3F;omega
theorem b4E(h:l.all a0A=true):∀x∈l,b3F (a0J l) x:=fun x g=>d0B (c3G h x g)
def sB(n:Nat)(l:List Int):List Int:=l.flatMap fun x=>pb (a0X x n) n
theorem a9I{n:Nat}(g:n≤62):∀(l L:List Int),a1I n l L=L++sB n l
 | [],L=>by simp[a1I,sB]
 |x::l,L=>by
  show a1I n l (a0P (a0X x n) n L)=_;obtain⟨v,hv,h,-⟩:=c0S g x;rw[a9I g l,hv,a4S (by omega) h,←hv];simp[sB]
theorem b9R(n:Nat)(x:Int)(l R:List Int):sB n (x::l)++R=pb (a0X x n) n++(sB n l++R):=by simp[sB]
theorem b3X{k:Int}{n:Nat}(g:n≤62){N:Nat}(f:N<1000000):∀(l done P R:List Int),(∀x∈l,b3F n x)→done.length+l.length=N→OkR P (sB n l++R)→
  y0s a8t (k,(n:Int),(N:Int),(done.length:Int),done,rdr P (sB n l++R),())=some (k,(n:Int),done++l,rdr (P++sB n l) R,())
 | [],done,P,R,_,hl,_=>by
  have:done.length=N:=by omega
  subst this;have d:decide ((done.length:Int)<(done.length:Int))=false:=by simp
  simp_all[a0F,a8t,sB]
 |x::l,done,P,R,h,hl,hok=>by
  rw[lC]at hl;rw[b9R]at hok⊢;have d:decide ((done.length:Int)<(N:Int))=true:=by grind
  have b:=a9H g (h x (by simp)) hok;have a:lim (a37 done+1)=true:=a0T (by omega);have c:wrap .i64 ((done.length:Int)+1)=(((done++[x]).length:Nat):Int):=by grind[a0B]
  rw[a0E (s':=(k,(n:Int),(N:Int),(((done++[x]).length:Nat):Int),done++[x],rdr (P++pb (a0X x n) n) (sB n l++R),())) (by
   simp_all[a8t])]
  rw[b3X g f l (done++[x]) _ R (fun y e=>h y (by grind)) (by grind) hok.shift];simp[sB]
def b0L(k:Int)(part:List Int):List Int:=if k=31 then pb 31 5++(pb ((a0J part:Nat):Int) 5++sB (a0J part) part)else pb k 5++a3G k.toNat part
theorem c8G(h:kB k=true)(g:part.all a0A=true)(L:List Int):a9v k part L=L++b0L k part:=by
 have f:=a2c g;simp[kB]at h;obtain⟨K,rfl⟩:=a01 (show 0≤k by omega)
 grind[a9v,b0L,a3E,a4S,a9I,b8A]
theorem c3K(o:kB k=true)(c:part.all a0A=true)(b:part.length<1000000)(h:OkR P (b0L k part++R)):
  b1n (rdr P (b0L k part++R),((part.length:Nat):Int))=some (k,part,(0:Int),rdr (P++b0L k part) R):=by
 have p:=a2c c;have e:∀A B:List Int,(rdr A B).2.2.1=0:=fun _ _=>rfl;simp[kB]at o;obtain⟨K,rfl⟩:=a01 (show 0≤k by omega);unfold b1n a0O;unfold b0L at h⊢;split;rename_i f;rw[if_pos f,aA,aA]at h;rw[aA,aA];obtain rfl:K=31:=by omega
 have d:a0G (rdr P (pb 31 5++(pb ((a0J part:Nat):Int) 5++(sB (a0J part) part++R))),(5:Int))=_:=a3F (v:=31) (n:=5) (by omega) (by omega) h;have g:=h.shift;have l:a0G (rdr (P++pb 31 5) (pb ((a0J part:Nat):Int) 5++(sB (a0J part) part++R)),(5:Int))=_:=a3F (v:=a0J part) (n:=5) (by omega) (by omega) g;have a:=b3X (k:=31) (n:=a0J part) (by omega) b part [] _ R (b4E c) (by simp) g.shift;simp only[a22,nZ,a09,a30]at a;have i:wrap .i64 ((31:Nat):Int)=31:=by rfl
 have w2:wrap .i64 ((a0J part:Nat):Int)=((a0J part:Nat):Int):=a0B (by omega);have j:decide ((31:Int)≤25)=false:=by rfl
 have q:((31:Int) != 31)=false:=by rfl
 rw[d];simp only[oB,e,bne_self_eq_false,cF,i,j]
 erw[l]
 simp only[oB,w2]
 erw[a]
 simp only[oB,e,bne_self_eq_false,cF,a2u (show short part from b)]
 simp
 rename_i f;rw[if_neg f,aA]at h;rw[aA];have m:K≤25:=by omega
 have d:a0G (rdr P (pb (K:Int) 5++(a3G ((K:Int).toNat) part++R)),(5:Int))=_:=a3F (v:=K) (n:=5) (by omega) (by omega) h;have r:=c5v m c b h.shift;have i:wrap .i64 (K:Int)=(K:Int):=a0B (by omega);simp_all
def a1V:List Nat→List Int→List Int→List Int
 |z::zs,k::ks,l=>b0L k (l.take z)++a1V zs ks (l.drop z)
 |_,_,_=>[]
theorem c0T(h:l.all a0A=true)(z:Nat):(l.take z).all a0A=true:=lA.2 fun x g=>lA.1 h x (a34 g)
theorem c0U(h:l.all a0A=true)(z:Nat):(l.drop z).all a0A=true:=lA.2 fun x g=>lA.1 h x (a35 g)
theorem b8B:∀(zs:List Nat)(ks l L:List Int),ks.all kB=true→l.all a0A=true→a4R zs ks l L=L++a1V zs ks l
 |z::zs,k::ks,l,L,hk,hw=>by
  simp only[a07,bA]at hk;simp only[a4R,a1V];rw[b8B zs ks _ _ hk.2 (c0U hw z),c8G hk.1 (c0T hw z)]
  simp
 | [],_,_,L,_,_=>by simp[a4R,a1V]
 |_::_,[],_,L,_,_=>by simp[a4R,a1V]
theorem c8H(h:List Nat)(z:Nat)(g:List Nat):(a1q (h++z::g)).getD h.length 0=(z:Int):=by
 simp_all[a1q]
theorem b3Y{o:Int}{z0:Prt}:∀(zs:List Nat)(ks l dk acc P R:List Int)(dz:List Nat),ks.length=zs.length→ks.all kB=true→zs.sum=l.length→l.all a0A=true→
  dk.length=dz.length→(dz++zs).length≤256→acc.length+l.length≤10000→OkR P (a1V zs ks l++R)→
  y0s a8u (((a1q (dz++zs)).length:Int),(dz.length:Int),acc,a1q (dz++zs),rdr P (a1V zs ks l++R),z0,(o,dk,()),()) =
   some (Sum.inl (acc++l,z0,(o,dk++ks,()),rdr (P++a1V zs ks l) R,()))
 | [],ks,l,dk,acc,P,R,dz,hk,_,hs,_,_,_,_,_=>by
  obtain rfl:ks=[]:=a45.1 hk;obtain rfl:l=[]:=a45.1 (by simp_all);have d:decide ((dz.length:Int)<((a1q (dz++[])).length:Int))=false:=by simp[a1y]
  rw[a0F (b:=Sum.inl (acc,z0,(o,dk,()),rdr P R,())) (by simp only[a8u,d,cF];rfl)];simp[a1V]
 |z::zs,[],_,_,_,_,_,_,hk,_,_,_,_,_,_,_=>by simp_all
 |z::zs,k::ks,l,dk,acc,P,R,dz,hk,hkb,hs,hw,hd,h256,hacc,hok=>by
  simp only[a07,bA]at hkb;rw[a62]at hs;have p:z≤l.length:=by omega
  have a:(l.take z).length=z:=by simp_all
  have e:a1V (z::zs) (k::ks) l++R=b0L k (l.take z)++(a1V zs ks (l.drop z)++R):=by simp[a1V]
  rw[e]at hok⊢;have j:(a1q (dz++z::zs)).length=dz.length+1+zs.length:=by grind[a1y]
  have d:decide ((dz.length:Int)<((a1q (dz++z::zs)).length:Int))=true:=by grind
  have m:decide ((0:Int)≤(dz.length:Int))=true:=by simp
  have h:=c3K hkb.1 (c0T hw z) (by omega) hok;rw[a]at h;have i:((0:Int) != 0)=false:=rfl;rw[lN,lC]at h256;have g:lim (a37 dk+1)=true:=a0T (by omega);have f:lim (a37 acc+a37 (l.take z))=true:=a0T (by omega);have c:wrap .i64 ((dz.length:Int)+1)=(((dz++[z]).length:Nat):Int):=by grind[a0B]
  have n:dz++z::zs=(dz++[z])++zs:=by simp
  rw[a0E (s':=(((a1q ((dz++[z])++zs)).length:Int),(((dz++[z]).length:Nat):Int),acc++l.take z,a1q ((dz++[z])++zs),rdr (P++b0L k (l.take z)) (a1V zs ks (l.drop z)++R),z0,(o,dk++[k],()),())) (by
   simp only[a8u,d,m,a03,cT,tN,c8H,h,oB,i,cF,g,f,c,a06]
   simp)]
  rw[b3Y zs ks (l.drop z) (dk++[k]) (acc++l.take z) _ R (dz++[z]) (by grind) hkb.2 (by grind) (c0U hw z) (by grind) (by grind) (by grind) hok.shift];simp[a1V]
def a6C(p:Prt)(zn:List Nat)(l:List Int):List Int:=pb p.1 4++a1V zn p.2.1 l
theorem c2e(h:PartsOk p n warm l zn)(L:List Int):a4t p zn l L=L++a6C p zn l:=by
 obtain⟨o,ks,u⟩:=p;have g:=h.order;simp only at g;obtain⟨O,rfl⟩:=a01 g.1;unfold a4t a6C;simp only;rw[a3E (by omega),a4S (n:=4) (by omega) (by omega),b8B _ _ _ _ h.all h.wide]
 simp
theorem c3L(h:PartsOk p n warm l zn)(g:OkR P (a6C p zn l++R)):
  b1o (rdr P (a6C p zn l++R),n,warm)=some (p,l,(0:Int),rdr (P++a6C p zn l) R):=by
 obtain⟨o,ks,u⟩:=p;have c:=h.order;have m:=h.short;have b:=h.len;simp only at c;obtain⟨O,rfl⟩:=a01 c.1;have i:∀A B:List Int,(rdr A B).2.2.1=0:=fun _ _=>rfl;have f:=h.may;unfold a5G at f;simp only[bA,a33,beq_eq_false_iff_ne]at f;have d:=h.sizes;simp only at d;have a:(((a1q zn).length:Int)==0)=false:=by
  grind
 unfold a6C at g⊢;simp only at g⊢;rw[aA]at g⊢;have e:a0G (rdr P (pb (O:Int) 4++(a1V zn ks l++R)),(4:Int))=_:=a3F (v:=O) (n:=4) (by omega) (by omega) g;have j:wrap .i64 (O:Int)=(O:Int):=a0B (by omega);have k:=b3Y (o:=(O:Int)) (z0:=((0:Int),([]:List Int),())) zn ks l [] [] _ R [] h.ks h.all h.sum h.wide rfl (by simp_all) (by grind) g.shift;simp only[a22,nZ,a09,a30]at k;unfold b1o a0O;simp[b2G,h.row];rw[e];simp[i,j,a2h,d,a];simp_all
def a7o(s:Sub):List Int:=
 pb ((s.2.2.2.2.2.1.length-1:Nat):Int) 5++(pb s.2.2.2.1 4++(pb ((a0J s.2.2.2.2.2.1:Nat):Int) 5++sB (a0J s.2.2.2.2.2.1) s.2.2.2.2.2.1))
theorem c0V{t:Int}(h:a9z c t=true):1≤c.length∧c.length≤32∧0≤t∧t≤15∧c.all a0A=true:=by
 simp only[a9z,bA,dT]at h;obtain⟨g,f,k,a,b⟩:=h;refine⟨g,f,k,a,lA.2 fun x d=>?_⟩
 have:=lA.1 b x d
 simp[b8b]at this;rw[a1N];omega
theorem b8C{s:Sub}(h:a9z s.2.2.2.2.2.1 s.2.2.2.1=true)(L:List Int):a6x s L=L++a7o s:=by
 obtain⟨a,b,g,d,f⟩:=c0V h;have k:=a2c f;unfold a6x a7o;generalize s.2.2.2.2.2.1=c at *;generalize s.2.2.2.1=t at *;obtain⟨T,rfl⟩:=a01 g
 grind[a0B,a0M,a9I,a4S]
def b4F(s:Sub)(c:List Int):Sub:=(s.1,s.2.1,s.2.2.1,s.2.2.2.1,s.2.2.2.2.1,c,s.2.2.2.2.2.2)
def b9S(s:Sub)(t:Int):Sub:=(s.1,s.2.1,s.2.2.1,t,s.2.2.2.2)
theorem b8D{n:Nat}(g:n≤62){N:Nat}(f:N<1000000)(s:Sub):∀(l done P R:List Int),(∀x∈l,b3F n x)→done.length+l.length=N→OkR P (sB n l++R)→
  y0s a5X ((n:Int),(N:Int),(done.length:Int),rdr P (sB n l++R),b4F s done,())=some ((n:Int),b4F s (done++l),rdr (P++sB n l) R,())
 | [],done,P,R,_,hl,_=>by
  have:done.length=N:=by omega
  subst this;have d:decide ((done.length:Int)<(done.length:Int))=false:=by simp
  simp_all[a0F,a5X,sB]
 |x::l,done,P,R,h,hl,hok=>by
  rw[lC]at hl;rw[b9R]at hok⊢;have d:decide ((done.length:Int)<(N:Int))=true:=by grind
  have a:=a9H g (h x (by simp)) hok;have k:lim (a37 done+1)=true:=a0T (by omega);have b:wrap .i64 ((done.length:Int)+1)=(((done++[x]).length:Nat):Int):=by grind[a0B]
  rw[a0E (s':=((n:Int),(N:Int),(((done++[x]).length:Nat):Int),rdr (P++pb (a0X x n) n) (sB n l++R),b4F s (done++[x]),())) (by
   simp_all[a5X,b4F])]
  rw[b8D g f s l (done++[x]) _ R (fun y c=>h y (by grind)) (by grind) hok.shift];simp[sB]
theorem b6N{s0:Sub}(h:a9z s.2.2.2.2.2.1 s.2.2.2.1=true)(r:s0.2.2.2.2.2.1=[])(g:OkR P (a7o s++R)):
  a8s (rdr P (a7o s++R),s0)=some (true,rdr (P++a7o s) R,b4F (b9S s0 s.2.2.2.1) s.2.2.2.2.2.1):=by
 obtain⟨u,w,l,x,d⟩:=c0V h;have m:=a2c d;unfold a7o at g⊢;generalize s.2.2.2.2.2.1=c at *;generalize s.2.2.2.1=t at *;obtain⟨T,rfl⟩:=a01 l;simp at g⊢;have e:a0G (rdr P (pb ((c.length-1:Nat):Int) 5++(pb (T:Int) 4++(pb ((a0J c:Nat):Int) 5++(sB (a0J c) c++R)))),(5:Int))=_:=a3F (v:=c.length-1) (n:=5) (by omega) (by omega) g;have f:=g.shift;have i:a0G (rdr (P++pb ((c.length-1:Nat):Int) 5) (pb (T:Int) 4++(pb ((a0J c:Nat):Int) 5++(sB (a0J c) c++R))),(4:Int))=_:=a3F (v:=T) (n:=4) (by omega) (by omega) f;have k:=f.shift;have j:a0G (rdr (P++pb ((c.length-1:Nat):Int) 5++pb (T:Int) 4) (pb ((a0J c:Nat):Int) 5++(sB (a0J c) c++R)),(5:Int))=_:=a3F (v:=a0J c) (n:=5) (by omega) (by omega) k;have a:=b8D (n:=a0J c) (by omega) (N:=c.length) (by omega) (b9S s0 (T:Int)) c [] _ R (b4E d) (by simp) k.shift;simp only[a22,nZ,a09,a30]at a;have o:wrap .i64 ((c.length-1:Nat):Int)=((c.length-1:Nat):Int):=a0B (by omega);have w2:wrap .i64 (((c.length-1:Nat):Int)+1)=(c.length:Int):=by grind[a0B]
 have p:wrap .i64 (T:Int)=(T:Int):=a0B (by omega);have q:wrap .i64 ((a0J c:Nat):Int)=((a0J c:Nat):Int):=a0B (by omega);have b:((s0.1,s0.2.1,s0.2.2.1,(T:Int),s0.2.2.2.2):Sub)=b4F (b9S s0 (T:Int)) []:=by
  grind[b4F,b9S]
 unfold a8s;rw[e]
 simp
 rw[i];simp only[oB];rw[j];simp only[oB,o,w2,p,q]
 erw[b,a]
 simp only[oB];rw[show(b4F (b9S s0 (T:Int)) c).2.2.2.2.2.1=c from rfl,a2u (show short c by unfold short;omega)]
 simp
def a8i(st:List Stg):List Int:=st.flatMap fun g=>pb (g.1-1) 5++pb g.2.1 4
theorem b6O{g:Stg}(h:Ab.stageB g=true):1≤g.1∧g.1≤32∧0≤g.2.1∧g.2.1≤8:=by
 simp_all[Ab.stageB]
theorem b6P:∀(st:List Stg)(L:List Int),st.all Ab.stageB=true→a3o st L=L++a8i st
 | [],L,_=>by simp[a3o,a8i]
 |g::st,L,h=>by
  simp only[a07,bA]at h;obtain⟨k,c,f,d⟩:=b6O h.1;show a3o st (a6w g L)=_;rw[b6P st _ h.2];obtain⟨a,b,u⟩:=g;simp only at k c f d;obtain⟨B,rfl⟩:=a01 f;obtain⟨A,e⟩:=a01 (show 0≤a-1 by omega)
  grind[a6w,b2L,a3E,a4S,a8i]
def a5e(s:Sub):List Int:=
 if s.1=2 then pb s.2.2.1 3
 else if s.1=3 then a7o s
 else if s.1=4 then pb (s.2.2.2.2.1-1) 10++(sB 8 s.2.2.2.2.2.2.1++a7o s)
 else if s.1=5 then pb ((s.2.2.2.2.2.2.2.1.length:Nat):Int) 2++a8i s.2.2.2.2.2.2.2.1
 else[]
theorem c0W(h:a3X s.1 s n)(L:List Int):a2F s L=L++a5e s:=by
 unfold a2F a5e;rcases h with k|k|⟨k,g,f,-⟩|⟨k,g,-⟩|⟨k,g,-,a⟩|⟨k,g,f⟩
 grind
 grind
 rw[if_pos k,if_pos k]
 grind[a01,a3E,a4S]
 simp_all[b8C];rw[if_neg (by omega),if_neg (by omega),if_pos k,if_neg (by omega),if_neg (by omega),if_pos k,b8C g,a9I (by omega)];simp only[b1x,bA,dT]at a;obtain⟨A,b⟩:=a01 (show 0≤s.2.2.2.2.1-1 by omega)
 grind[b2L,a3E,a4S]
 rw[if_neg (by omega),if_neg (by omega),if_neg (by omega),if_pos k,if_neg (by omega),if_neg (by omega),if_neg (by omega),if_pos k];simp only[a9j,bA,dT]at f
 grind[b6P,a3E,a4S]
def b3n(s:Sub):List Int:=pb s.1 3++(pb s.2.1 5++pb ((a0J s.2.2.2.2.2.2.2.2.1:Nat):Int) 5)
theorem c8I(g:0≤s.1∧s.1≤5)(f:0≤s.2.1∧s.2.1≤30)(h:s.2.2.2.2.2.2.2.2.1.all a0A=true)(L:List Int):b1z s L=L++b3n s:=by
 grind[a01,a2c,b1z,b3n,a3E,a4S]
def a3Y(s:Sub):Sub:=(s.1,s.2.1,s.2.2.1,s.2.2.2.1,s.2.2.2.2.1,s.2.2.2.2.2.1,s.2.2.2.2.2.2.1,s.2.2.2.2.2.2.2.1,[],(0,[],()),[],())
theorem b6Q{wd N:Nat}{ok:Bool}(m:N<1000)(k w:Int):∀(st done:List Stg)(P R:List Int),st.all Ab.stageB=true→done.length+st.length=N→OkR P (a8i st++R)→
  y0s a6G ((wd:Int),ok,(N:Int),(done.length:Int),rdr P (a8i st++R),(k,w,0,0,0,[],[0,0,0],done,[],(0,[],()),[],()),()) =
   some ((wd:Int),ok,(k,w,0,0,0,[],[0,0,0],done++st,[],(0,[],()),[],()),rdr (P++a8i st) R,())
 | [],done,P,R,_,hl,_=>by
  have:done.length=N:=by omega
  subst this;have d:decide ((done.length:Int)<(done.length:Int))=false:=by simp
  simp_all[a0F,a6G,a8i]
 |g::st,done,P,R,h,hl,hok=>by
  simp only[a07,bA]at h;rw[lC]at hl;obtain⟨i,j,c,l⟩:=b6O h.1;obtain⟨a,b,u⟩:=g;simp only at i j c l;obtain⟨B,rfl⟩:=a01 c;obtain⟨A,r⟩:=a01 (show 0≤a-1 by omega);obtain rfl:a=(A:Int)+1:=by omega
  have e:a8i (((A:Int)+1,(B:Int),u)::st)++R=pb (A:Int) 5++(pb (B:Int) 4++(a8i st++R)):=by simp[a8i]
  rw[e]at hok⊢;have d:decide ((done.length:Int)<(N:Int))=true:=by grind
  have p:a0G (rdr P (pb (A:Int) 5++(pb (B:Int) 4++(a8i st++R))),(5:Int))=_:=a3F (v:=A) (n:=5) (by omega) (by omega) hok;have f:=hok.shift;have q:a0G (rdr (P++pb (A:Int) 5) (pb (B:Int) 4++(a8i st++R)),(4:Int))=_:=a3F (v:=B) (n:=4) (by omega) (by omega) f;have o:lim (a37 done+1)=true:=a0T (by omega);have t:wrap .i64 (A:Int)=(A:Int):=a0B (by omega);have w2:wrap .i64 (B:Int)=(B:Int):=a0B (by omega);have x:wrap .i64 ((A:Int)+1)=(A:Int)+1:=a0B (by omega);have s:wrap .u64 ((done.length:Int)+1)=(((done++[((A:Int)+1,(B:Int),u)]).length:Nat):Int):=by grind[a0M]
  rw[a0E (s':=((wd:Int),ok,(N:Int),(((done++[((A:Int)+1,(B:Int),u)]).length:Nat):Int),rdr (P++pb (A:Int) 5++pb (B:Int) 4) (a8i st++R),(k,w,0,0,0,[],[0,0,0],done++[((A:Int)+1,(B:Int),u)],[],(0,[],()),[],()),())) (by
    simp_all[a6G])]
  rw[b6Q m k w st (done++[((A:Int)+1,(B:Int),u)]) _ R h.2 (by grind) f.shift];simp[a8i]
theorem b9T(h:b4j x=true):b3F 8 x:=by
 simp[b4j]at h;unfold b3F;omega
theorem c8J{wd:Nat}{w g:Int}{a b c:Int}(m:b4j a=true)(hb:b4j b=true)(o:b4j c=true)(f:OkR P (sB 8 [a,b,c]++R)):
  y0s a3n ((wd:Int),(0:Int),rdr P (sB 8 [a,b,c]++R),(k,w,0,0,g,[],[0,0,0],[],[],(0,[],()),[],()),()) =
   some ((wd:Int),rdr (P++sB 8 [a,b,c]) R,(k,w,0,0,g,[],[a,b,c],[],[],(0,[],()),[],()),()):=by
 have e:sB 8 [a,b,c]++R=pb (a0X a 8) 8++(pb (a0X b 8) 8++(pb (a0X c 8) 8++R)):=by rfl
 rw[e]at f⊢;have t:a1b (rdr P (pb (a0X a 8) 8++(pb (a0X b 8) 8++(pb (a0X c 8) 8++R))),(8:Int))=_:=a9H (n:=8) (by omega) (b9T m) f;have h:=f.shift;have u:a1b (rdr (P++pb (a0X a 8) 8) (pb (a0X b 8) 8++(pb (a0X c 8) 8++R)),(8:Int))=_:=a9H (n:=8) (by omega) (b9T hb) h;have d:=h.shift;have v:a1b (rdr (P++pb (a0X a 8) 8++pb (a0X b 8) 8) (pb (a0X c 8) 8++R),(8:Int))=_:=a9H (n:=8) (by omega) (b9T o) d;have x:wrap .i64 ((0:Int)+1)=1:=by rfl
 have y:wrap .i64 ((1:Int)+1)=2:=by rfl
 have w2:wrap .i64 ((2:Int)+1)=3:=by rfl
 have p:decide ((0:Int)<3)=true:=by rfl
 have i:decide ((0:Int)≤0)=true:=by rfl
 have q:decide ((1:Int)<3)=true:=by rfl
 have j:decide ((0:Int)≤1)=true:=by rfl
 have r:decide ((2:Int)<3)=true:=by rfl
 have l:decide ((0:Int)≤2)=true:=by rfl
 have s:decide ((3:Int)<3)=false:=by rfl
 rw[a0E (s':=((wd:Int),(1:Int),rdr (P++pb (a0X a 8) 8) (pb (a0X b 8) 8++(pb (a0X c 8) 8++R)),(k,w,0,0,g,[],[a,0,0],[],[],(0,[],()),[],()),())) (by
  simp_all[a3n])]
 rw[a0E (s':=((wd:Int),(2:Int),rdr (P++pb (a0X a 8) 8++pb (a0X b 8) 8) (pb (a0X c 8) 8++R),(k,w,0,0,g,[],[a,b,0],[],[],(0,[],()),[],()),())) (by
  simp_all[a3n])]
 rw[a0E (s':=((wd:Int),(3:Int),rdr (P++pb (a0X a 8) 8++pb (a0X b 8) 8++pb (a0X c 8) 8) R,(k,w,0,0,g,[],[a,b,c],[],[],(0,[],()),[],()),())) (by
  simp_all[a3n])]
 simp_all[a0F,a3n,sB]
theorem c7t{s:Sub}{n:Int}(hs:a1v s n)(ht:s.2.2.2.2.2.2.1.length=3){P R:List Int}(i:OkR P (b3n s++(a5e s++R))):
  a9o (rdr P (b3n s++(a5e s++R)))=some (a3Y s,((a0J s.2.2.2.2.2.2.2.2.1:Nat):Int),true,rdr (P++(b3n s++a5e s)) R):=by
 obtain⟨-,-,hf,ha,I,L,-,-,M,-⟩:=hs;obtain⟨k,w,o,sh,g,c,t,st,a,b,d,u⟩:=s;have hk:=b4C hf;simp only at hk I L M ht;have h0:=a2c M;obtain⟨K,rfl⟩:=a01 hk.1;obtain⟨W,rfl⟩:=a01 I;unfold b3n at i⊢;simp at i⊢;have Y:a0G (rdr P (pb (K:Int) 3++(pb (W:Int) 5++(pb ((a0J a:Nat):Int) 5++(a5e ((K:Int),(W:Int),o,sh,g,c,t,st,a,b,d,u)++R)))),(3:Int))=_:=a3F (v:=K) (n:=3) (by omega) (by omega) i;have j:=i.shift;have Z:a0G (rdr (P++pb (K:Int) 3) (pb (W:Int) 5++(pb ((a0J a:Nat):Int) 5++(a5e ((K:Int),(W:Int),o,sh,g,c,t,st,a,b,d,u)++R))),(5:Int))=_:=a3F (v:=W) (n:=5) (by omega) (by omega) j;have l:=j.shift;have g3:a0G (rdr (P++pb (K:Int) 3++pb (W:Int) 5) (pb ((a0J a:Nat):Int) 5++(a5e ((K:Int),(W:Int),o,sh,g,c,t,st,a,b,d,u)++R)),(5:Int))=_:=a3F (v:=a0J a) (n:=5) (by omega) (by omega) l;have f:=l.shift;have wK:wrap .i64 (K:Int)=(K:Int):=a0B (by omega);have wW:wrap .i64 (W:Int)=(W:Int):=a0B (by omega);have wd:wrap .i64 ((a0J a:Nat):Int)=((a0J a:Nat):Int):=a0B (by omega);unfold a9o;rw[Y];simp only[oB];rw[Z];simp only[oB];rw[g3];simp only[oB,wK,wW,wd];generalize hX:P++pb (K:Int) 3++pb (W:Int) 5++pb ((a0J a:Nat):Int) 5=X at f⊢;have H:∀B:List Int,P++(pb (K:Int) 3++(pb (W:Int) 5++(pb ((a0J a:Nat):Int) 5++B)))=X++B:=fun B=>by grind
 rw[H];obtain⟨a1,D,q,r,E,C⟩:=ha;simp only at a1 D q r E C;clear Y Z g3 i j l hX H;rcases hf with h|h|⟨h,m,G,-⟩|⟨h,m,-⟩|⟨h,m,-,Q⟩|⟨h,m,G⟩
 
 simp only at h;obtain rfl:=a1 (by omega);obtain rfl:=D (by omega);obtain rfl:=q (by omega);obtain rfl:=r (by omega);obtain rfl:=E (by omega);obtain rfl:=C (by omega);rw[h];have hb:a5e ((0:Int),(W:Int),0,0,0,[],[0,0,0],[],a,b,d,u)=[]:=rfl;rw[hb,a09,a40];rfl;simp only at h;obtain rfl:=a1 (by omega);obtain rfl:=D (by omega);obtain rfl:=q (by omega);obtain rfl:=r (by omega);obtain rfl:=E (by omega);obtain rfl:=C (by omega);rw[h];have hb:a5e ((1:Int),(W:Int),0,0,0,[],[0,0,0],[],a,b,d,u)=[]:=rfl;rw[hb,a09,a40];rfl;simp only at h m G;obtain rfl:=D (by omega);obtain rfl:=q (by omega);obtain rfl:=r (by omega);obtain rfl:=E (by omega);obtain rfl:=C (by omega);rw[h]at f⊢;obtain⟨O,rfl⟩:=a01 m;have hb:a5e ((2:Int),(W:Int),(O:Int),0,0,[],[0,0,0],[],a,b,d,u)=pb (O:Int) 3:=rfl;rw[hb]at f⊢;have e:((2:Int)==2)=true:=rfl;have F:a0G (rdr X (pb (O:Int) 3++R),(3:Int))=_:=a3F (v:=O) (n:=3) (by omega) (by omega) f;have wO:wrap .i64 (O:Int)=(O:Int):=a0B (by omega);simp only[e,cT,F,oB,wO];rfl;simp only at h m;obtain rfl:=a1 (by omega);obtain rfl:=q (by omega);obtain rfl:=r (by omega);obtain rfl:=C (by omega);rw[h]at f⊢;have hb:a5e ((3:Int),(W:Int),0,sh,0,c,[0,0,0],[],a,b,d,u)=a7o ((3:Int),(W:Int),0,sh,0,c,[0,0,0],[],a,b,d,u):=rfl;rw[hb]at f⊢;have T:((3:Int)==2)=false:=rfl;have U:((3:Int)==4)=false:=rfl;have V:((3:Int)==3)=true:=rfl;have F:=b6N (s:=((3:Int),(W:Int),0,sh,0,c,[0,0,0],[],a,b,d,u)) (s0:=((3:Int),(W:Int),0,0,0,[],a00 3 0,[],[],(0,[],()),[],())) m rfl f;simp only[T,V,U,cT,cF,oB]
 erw[F]
 rfl
 ·simp only at h m Q;obtain rfl:=a1 (by omega);obtain rfl:=C (by omega);rw[h]at f⊢;simp only[b1x,bA,dT]at Q;obtain⟨Q,h5,S⟩:=Q;obtain⟨A,hA⟩:=a01 (show 0≤g-1 by omega);obtain rfl:g=(A:Int)+1:=by omega
  obtain⟨x,y,z,rfl⟩:∃x y z,t=[x,y,z]:=by
   match t,ht with
   | [x,y,z],_=>simp
  simp at S;have hb:a5e ((4:Int),(W:Int),0,sh,(A:Int)+1,c,[x,y,z],[],a,b,d,u)=pb (A:Int) 10++(sB 8 [x,y,z]++a7o ((4:Int),(W:Int),0,sh,(A:Int)+1,c,[x,y,z],[],a,b,d,u)):=by
   show pb ((A:Int)+1-1) 10++_=_
   simp
  rw[hb]at f⊢;simp only[aA]at f⊢;have T:((4:Int)==2)=false:=rfl;have U:((4:Int)==4)=true:=rfl;have F:a0G (rdr X (pb (A:Int) 10++(sB 8 [x,y,z]++(a7o ((4:Int),(W:Int),0,sh,(A:Int)+1,c,[x,y,z],[],a,b,d,u)++R))),(10:Int))=_:=a3F (v:=A) (n:=10) (by omega) (by omega) f;have p:=f.shift;have wA:wrap .i64 (A:Int)=(A:Int):=a0B (by omega);have h4:wrap .i64 ((A:Int)+1)=(A:Int)+1:=a0B (by omega);have g5:=c8J (wd:=a0J a) (k:=4) (w:=(W:Int)) (g:=(A:Int)+1) S.1 S.2.1 S.2.2 p;have g6:=b6N (s:=((4:Int),(W:Int),0,sh,(A:Int)+1,c,[x,y,z],[],a,b,d,u)) (s0:=((4:Int),(W:Int),0,0,(A:Int)+1,[],[x,y,z],[],[],(0,[],()),[],())) m rfl p.shift;simp_all[a3Y,b4F,b9S]
 simp only at h m G;obtain rfl:=a1 (by omega);obtain rfl:=D (by omega);obtain rfl:=q (by omega);obtain rfl:=r (by omega);obtain rfl:=E (by omega);rw[h]at f⊢;simp only[a9j,bA,dT]at G;have hb:a5e ((5:Int),(W:Int),0,0,0,[],[0,0,0],st,a,b,d,u)=pb ((st.length:Nat):Int) 2++a8i st:=rfl;rw[hb]at f⊢;simp only[aA]at f⊢;have T:((5:Int)==2)=false:=rfl;have U:((5:Int)==4)=false:=rfl;have V:((5:Int)==3)=false:=rfl;have e5:((5:Int)==5)=true:=rfl;have F:a0G (rdr X (pb ((st.length:Nat):Int) 2++(a8i st++R)),(2:Int))=_:=a3F (v:=st.length) (n:=2) (by omega) (by omega) f;have g5:=b6Q (wd:=a0J a) (ok:=true) (N:=st.length) (by omega) (5:Int) (W:Int) st [] _ R G.2 (by simp) f.shift;simp_all[a3Y]
def a8j(s:Sub)(zn:List Nat):List Int:=
 (b3n s++a5e s)++(sB (a0J s.2.2.2.2.2.2.2.2.1) s.2.2.2.2.2.2.2.2.1++if s.1=0∨s.1=1 then[]else a6C s.2.2.2.2.2.2.2.2.2.1 zn s.2.2.2.2.2.2.2.2.2.2.1)
theorem b6R(b:a1v s n)(d:s.1≠0∧s.1≠1→PartsOk s.2.2.2.2.2.2.2.2.2.1 n ((s.2.2.2.2.2.2.2.2.1.length:Nat):Int) s.2.2.2.2.2.2.2.2.2.2.1 zn)(L:List Int):
  a5m s zn L=L++a8j s zn:=by
 obtain⟨-,-,h,-,k,a,-,-,f,-⟩:=b;have c:=a2c f;have g:=c8I (b4C h) ⟨k,a⟩ f L;unfold a5m a8j
 by_cases hk:s.1=0∨s.1=1
 rw[if_pos hk,if_pos hk,a9I (by omega),c0W h,g]
 simp
 rw[if_neg hk,if_neg hk,c2e (d (not_or.1 hk)),a9I (by omega),c0W h,g]
 simp
def a8k(s:Sub)(l:List Int):Sub:=(s.1,s.2.1,s.2.2.1,s.2.2.2.1,s.2.2.2.2.1,s.2.2.2.2.2.1,s.2.2.2.2.2.2.1,s.2.2.2.2.2.2.2.1,l,s.2.2.2.2.2.2.2.2.2)
theorem c0X{wd:Nat}(g:wd≤62){N:Nat}(f:N<1000000)(n:Int)(ok:Bool)(z s:Sub):∀(l done P R:List Int),(∀x∈l,b3F wd x)→done.length+l.length=N→OkR P (sB wd l++R)→
  y0s a9T (n,(wd:Int),ok,(N:Int),(done.length:Int),rdr P (sB wd l++R),z,a8k s done,())=some (n,(wd:Int),ok,rdr (P++sB wd l) R,z,a8k s (done++l),())
 | [],done,P,R,_,hl,_=>by
  have:done.length=N:=by omega
  subst this;have d:decide ((done.length:Int)<(done.length:Int))=false:=by simp
  simp_all[a0F,a9T,sB]
 |x::l,done,P,R,h,hl,hok=>by
  rw[lC]at hl;rw[b9R]at hok⊢;have d:decide ((done.length:Int)<(N:Int))=true:=by grind
  have a:=a9H g (h x (by simp)) hok;have k:lim (a37 done+1)=true:=a0T (by omega);have b:wrap .i64 ((done.length:Int)+1)=(((done++[x]).length:Nat):Int):=by grind[a0B]
  rw[a0E (s':=(n,(wd:Int),ok,(N:Int),(((done++[x]).length:Nat):Int),rdr (P++pb (a0X x wd) wd) (sB wd l++R),z,a8k s (done++[x]),())) (by
   simp_all[a9T,a8k])]
  rw[c0X g f n ok z s l (done++[x]) _ R (fun y c=>h y (by grind)) (by grind) hok.shift];simp[sB]
theorem c7u(h:SmallS s):SmallS (a3Y s) where
 coefs:=h.coefs
 taps:=h.taps
 stages:=h.stages
 warm:=by show([]:List Int).length≤5000;simp
 rest:=by show([]:List Int).length≤5000;simp
 ks:=by show([]:List Int).length≤_;simp
theorem d2l(h:SmallS s)(I:(a2r s n).isSome=true)(T:s.1≠0∧s.1≠1→PartsOk s.2.2.2.2.2.2.2.2.2.1 n ((s.2.2.2.2.2.2.2.2.1.length:Nat):Int) s.2.2.2.2.2.2.2.2.2.2.1 zn)(e:OkR P (a8j s zn++R)):b1H (rdr P (a8j s zn++R),n)=some (s,(0:Int),rdr (P++a8j s zn) R):=by
 have K:=b3E I;have d:=@c7t s n K h.taps P;have x:=K;obtain⟨U,V,O,-,-,-,-,S,r,-,v,-⟩:=x;have Q:=a2c r;have y:=h.warm;have L:decide (n<1)=false:=by simp_all
 have M:decide (n > 4096)=false:=by simp_all
 have j:∀A B:List Int,(rdr A B).2.2.1=0:=fun _ _=>rfl;have l:a7U ((a3Y s).1,a3Y s,n)=some true:=by
  rw[b3M (c7u h)];unfold b2J
  have:a3X (a3Y s).1 (a3Y s) n:=O
  simp_all
 have i:a4H (a3Y s,n)=some ((s.2.2.2.2.2.2.2.2.1.length:Nat):Int):=by
  rw[b1L]
  have:a2t (a3Y s) n=a2t s n:=rfl
  simp_all
 have p:=b8h h n;rw[I]at p;have f:a1u s.2.2.2.2.2.2.2.2.1=some ((a0J s.2.2.2.2.2.2.2.2.1:Nat):Int):=a2u (by unfold short;omega);unfold b1H a0O;unfold a8j at e⊢;simp only[aA]at e⊢;have a:OkR (P++(b3n s++a5e s)) (sB (a0J s.2.2.2.2.2.2.2.2.1) s.2.2.2.2.2.2.2.2.1++((if s.1=0∨s.1=1 then[]else a6C s.2.2.2.2.2.2.2.2.2.1 zn s.2.2.2.2.2.2.2.2.2.2.1)++R)):=OkR.shift (by simp_all)
 have G:=fun(ok:Bool) (z:Sub)=>c0X (wd:=a0J s.2.2.2.2.2.2.2.2.1) (by omega) (N:=s.2.2.2.2.2.2.2.2.1.length) (by omega) n ok z (a3Y s) s.2.2.2.2.2.2.2.2.1 [] _ _ (b4E r) (by simp) a;simp only[a22,nZ,a09,a30]at G;simp only[L,M,cF,j,bne_self_eq_false,oB];rw[d e];simp only[j,bne_self_eq_false,cF,oB,l,bT,i];rw[show((a3Y s:Sub))=a8k (a3Y s) []from rfl]
 erw[G]
 simp only[oB,j,bne_self_eq_false,cF];rw[show(a8k (a3Y s) s.2.2.2.2.2.2.2.2.1).1=s.1 from rfl,a6z];simp only[oB]
 by_cases hk:s.1=0∨s.1=1
 have H:decide (s.1≠0∧s.1≠1)=false:=by grind
 have q:a8k (a3Y s) s.2.2.2.2.2.2.2.2.1=s:=by
  obtain⟨D,E,F⟩:=v hk;obtain⟨k,w,o,sh,g,c,t,st,wm,⟨X,Y,Z⟩,re,u⟩:=s;simp only at D E F;subst D E F;rfl
 grind
 have H:decide (s.1≠0∧s.1≠1)=true:=by simp_all
 have hp:=T (not_or.1 hk);have b:=a.shift;rw[if_neg hk]at b;have m:=c3L hp b;simp only[H,cT,if_neg hk];rw[show(a8k (a3Y s) s.2.2.2.2.2.2.2.2.1).2.2.2.2.2.2.2.2.1=s.2.2.2.2.2.2.2.2.1 from rfl]
 erw[m]
 have C:((0:Int) != 0)=false:=rfl;simp only[oB,C,cF,bT,f,bne_self_eq_false];have q:((a8k (a3Y s) s.2.2.2.2.2.2.2.2.1).1,(a8k (a3Y s) s.2.2.2.2.2.2.2.2.1).2.1,(a8k (a3Y s) s.2.2.2.2.2.2.2.2.1).2.2.1,(a8k (a3Y s) s.2.2.2.2.2.2.2.2.1).2.2.2.1,(a8k (a3Y s) s.2.2.2.2.2.2.2.2.1).2.2.2.2.1,(a8k (a3Y s) s.2.2.2.2.2.2.2.2.1).2.2.2.2.2.1,(a8k (a3Y s) s.2.2.2.2.2.2.2.2.1).2.2.2.2.2.2.1,(a8k (a3Y s) s.2.2.2.2.2.2.2.2.1).2.2.2.2.2.2.2.1,s.2.2.2.2.2.2.2.2.1,s.2.2.2.2.2.2.2.2.2.1,s.2.2.2.2.2.2.2.2.2.2.1,(a8k (a3Y s) s.2.2.2.2.2.2.2.2.1).2.2.2.2.2.2.2.2.2.2.2)=s:=rfl
 grind
theorem d5x(y:Int):bits .u64 .and y 1=y%2:=by
 have h:((a04 64 y) &&& (a04 64 1)).toNat=(y%18446744073709551616).toNat%2:=by
  simp
 show wrap .u64 ((((a04 64 y) &&& (a04 64 1)).toNat:Nat):Int)=_
 grind[a0M]
theorem a2j(v:Int):∀n,a1z (pb v n)
 |0=>fun b hb=>by cases hb
 |n+1=>fun b hb=>by
  rcases mC.1 hb with rfl|hb
  grind[a6Q,d5x,a8b]
  exact a2j v n b hb
theorem c5K(n:Nat):a1z (unB n):=fun b hb=>by
 rcases mA.1 hb with hb|hb
 all_goals simp_all
theorem b3o{α:Type}{f:α→List Int}{l:List α}(h:∀x,a1z (f x)):a1z (l.flatMap f):=fun b hb=>by
 obtain⟨x,-,g⟩:=a97.1 hb;exact h x b g
theorem c8K(k:Nat)(x:Int):a1z (a9x k x):=by
 unfold a9x;split;exact(c5K _).app (a2j _ _);exact(c5K _).app (a2j _ _)
theorem b6h(n:Nat)(l:List Int):a1z (sB n l):=b3o fun _=>a2j _ _
theorem c8L(k:Int)(l:List Int):a1z (b0L k l):=by
 unfold b0L;split;exact(a2j _ _).app ((a2j _ _).app (b6h _ _));exact(a2j _ _).app (b3o fun _=>c8K _ _)
theorem b4G:a1z []:=fun b hb=>by grind
theorem b8E:∀(zs:List Nat)(ks l:List Int),a1z (a1V zs ks l)
 |z::zs,k::ks,l=>by
  simp only[a1V];exact(c8L _ _).app (b8E zs ks _)
 | [],_,_=>by simp_all[a1V,b4G]
 |_::_,[],_=>by simp_all[a1V,b4G]
theorem b8F(s:Sub):a1z (a7o s):=(a2j _ _).app ((a2j _ _).app ((a2j _ _).app (b6h _ _)))
theorem c8M(s:Sub):a1z (a5e s):=by
 unfold a5e;split;exact a2j _ _;split;exact b8F s;split;exact(a2j _ _).app ((b6h _ _).app (b8F s));split;exact(a2j _ _).app (b3o fun _=>(a2j _ _).app (a2j _ _));exact b4G
theorem d0C(s:Sub)(h:List Nat):a1z (a8j s h):=by
 refine(((a2j _ _).app ((a2j _ _).app (a2j _ _))).app (c8M s)).app ((b6h _ _).app ?_);split;exact b4G;exact(a2j _ _).app (b8E _ _ _)
theorem d0D(h:SmallS s)(k:(a2r s n).isSome=true)(j:L.length<50000000):
  ∃g,a9G (wL L,s,n)=some (0,wL (L++a8j s g))∧a4j (s,n)=some (((a8j s g).length:Nat):Int)∧(a8j s g).length≤700000∧
   (s.1≠0∧s.1≠1→PartsOk s.2.2.2.2.2.2.2.2.2.1 n ((s.2.2.2.2.2.2.2.2.1.length:Nat):Int) s.2.2.2.2.2.2.2.2.2.2.1 g):=by
 obtain⟨e,i,a,-,c,d,-⟩:=b4o h (n:=n) (L:=L) (by omega);obtain⟨rfl,g,rfl,f⟩:=d k;have b:=b3E k;rw[b6R b f]at a c;refine⟨g,a,?_,by simp_all,f⟩;rw[c5G h];unfold a5d;rw[if_pos k,←b9M f,b6R b f]
 simp
theorem d3K(g:L.length<1000000000):b1X (wL L).1=some (rdr [] L):=by
 obtain⟨-,h⟩:=a5R L;unfold b1X;rw[a0T (by omega)];rfl
theorem d0E(h:L.length<1000000000):a5c (wL L)=some ((wL L).1,wL L):=by
 grind[a5R,a5c,a0T]
def a0L(n:Nat):List Int:=if h:n<128 then[(n:Int)]else((n%128+128:Nat):Int)::a0L (n / 128)
termination_by n
decreasing_by omega
theorem b1e{n:Nat}(h:n<128):a0L n=[(n:Int)]:=by rw[a0L,dif_pos h]
theorem b2r{n:Nat}(h:¬ n<128):a0L n=((n%128+128:Nat):Int)::a0L (n / 128):=by rw[a0L,dif_neg h]
theorem b7A:∀(k n:Nat),n<128^(k+1)→1≤(a0L n).length∧(a0L n).length≤k+1
 |0,n,h=>by simp_all[b1e]
 |k+1,n,h=>by
  by_cases hn:n<128
  rw[b1e hn];simp;rw[b2r hn]
  have:=b7A k (n / 128) (by omega)
  simp_all
theorem b8G:∀(k n:Nat),n<128^(k+1)→∀b∈a0L n,0≤b∧b<256
 |0,n,h,b,hb=>by grind[b1e]
 |k+1,n,h,b,hb=>by
  by_cases hn:n<128
  grind[b1e]
  rw[b2r hn]at hb;rcases mC.1 hb with rfl|hb;omega;exact b8G k (n / 128) (by omega) b hb
theorem c5L:∀(k n:Nat)(a:List Int)(b c:Int)(out:List Int),n<128^(k+1)→k≤8→out.length+k<1000000→
  ∃r g,y0s a8D ((n:Int),a,b,c,out,())=some (((r:Nat):Int),a,b,c,out++g,())∧a0L n=g++[(r:Int)]∧r<128
 |k,n,a,b,c,out,h,hk,ho=>by
  by_cases hn:n<128
  refine⟨n,[],?_,by rw[b1e hn];rfl,hn⟩;rw[a0F (b:=((n:Int),a,b,c,out,())) (by
   have d:decide ((n:Int)≥128)=false:=by grind
   simp only[a8D,d,cF])]
  simp
  ·cases k with
   |zero=>omega
   |succ k=>
    have m:n / 128<128^(k+1):=by omega
    have f:n<18446744073709551616:=by
     have:128^(k+1+1)≤128^9:=a08 (by omega) (by omega)
     omega
    obtain⟨r,g,o,j,l⟩:=c5L k (n / 128) a b c (out++[((n%128+128:Nat):Int)]) m (by omega) (by grind);refine⟨r,((n%128+128:Nat):Int)::g,?_,by rw[b2r hn,j];rfl,l⟩;have d:decide ((n:Int)≥128)=true:=by grind
    have e:wrap .u64 (a54 (n:Int) 128)=((n / 128:Nat):Int):=by
     rw[show a54 (n:Int) 128=((n / 128:Nat):Int)from rfl];exact a0M (by omega)
    have i:wrap .u8 (wrap .u8 (a26 (n:Int) 128)+128)=((n%128+128:Nat):Int):=by
     rw[show a26 (n:Int) 128=((n%128:Nat):Int)from rfl,a8b,a8b];omega
    rw[a0E (s':=(((n / 128:Nat):Int),a,b,c,out++[((n%128+128:Nat):Int)],())) (by
     simp only[a8D,d,cT,a0T (show out.length+1<2147483648 by omega),e,i,a06])]
    simp_all
theorem b1f{α β γ:Type}(f:α→List γ):∀(l:List α)(a:List γ),a2U (β:=β) (fun a x=>.inl (a++f x)) l a=.inl (a++l.flatMap f)
 | [],a=>by simp[a2U]
 |x::l,a=>by simp only[a2U];rw[b1f f l];simp
def asI(ns:List Nat):List Int:=ns.map fun n:Nat=>(n:Int)
theorem b5M{ns:List Nat}(h:∀n∈ns,n<9223372036854775808)(t:ns.length≤1000):a9g (asI ns)=some (ns.flatMap a0L):=by
 have l:(asI ns).length=ns.length:=by simp[asI]
 have:=a1M (f:=a8E) (asI ns) (fun i (a:List Int)=>(asI ns,((asI ns).length:Int),(i:Int),a,())) (fun a x=>.inl (a++a0L x.toNat)) (fun i a=>a.length≤10*i) (fun a=>(a,()))
  (fun i hi a p=>⟨fun q g=>by
   have c:i<ns.length:=by omega
   have m:(asI ns)[i]=((ns[i]:Nat):Int):=by simp[asI]
   have hb:=h ns[i] (a05 c);have k:ns[i]<128^(8+1):=by omega
   obtain⟨r,d,o,j,s⟩:=c5L 8 ns[i] (asI ns) ((asI ns).length:Int) (i:Int) a k (a27 _) (by omega);have hv:=b7A 8 ns[i] k;rw[j]at hv;simp only[lN,lC,a22]at hv;simp[m,j]at g;subst g;have e:wrap .u8 (r:Int)=(r:Int):=by rw[a8b];omega
   refine⟨?_,by grind⟩;simp only[a8E,dlt hi,cT,a0D hi,m,oB,o,a0T (show(a++d).length+1<2147483648 by grind),a0C (show i<1000000 by omega),e,a06,aA],fun b hb=>by grind⟩)
  (fun a p=>by simp_all[a8E]) (a:=[]) (by simp)
 simp_all[a9g,b1f,a8c,asI,List.flatMap_map]
theorem orA{k:Nat}(f:a<2^k)(c:b*2^k+a<18446744073709551616):bits .u64 .or (a:Int) ((b*2^k:Nat):Int)=((a+b*2^k:Nat):Int):=by
 show wrap .u64 (((a04 64 (a:Int) ||| a04 64 ((b*2^k:Nat):Int)).toNat:Nat):Int)=_;have g:(a04 64 (a:Int)).toNat=a:=by grind
 have h:(a04 64 ((b*2^k:Nat):Int)).toNat=b*2^k:=by grind[a82]
 grind[a59,a57,a0M]
theorem b6S{rest:List Int}:∀(j m i acc:Nat)(P:List Int),m<128^(j+1)→P.length=i→(i=0∨1≤m)→acc<2^(7*i)→m*2^(7*i)+acc<9223372036854775808→(P++(a0L m++rest)).length<1000000000→
  y0s a5U ((acc:Int),P++(a0L m++rest),((P++(a0L m++rest)).length:Nat),(i:Int),())=some (.inr (((acc+m*2^(7*i):Nat):Int),((i+(a0L m).length:Nat):Int),(0:Int),()))
 |j,m,i,acc,P,hj,hP,hm,ha,hs,hl=>by
  have p:i≤8:=by
   rcases hm with a|h1;omega;apply Classical.byContradiction;intro hi;have w:2^(7*9)≤2^(7*i):=a08 (by omega) (by omega);have x:2^(7*i)≤m*2^(7*i):=Nat.le_mul_of_pos_left _ (by omega);omega
  have r:wrap .i64 ((7:Int)*(i:Int))=((7*i:Nat):Int):=by grind[a0B]
  have t:decide ((((7*i:Nat):Int))<0)=false:=by rfl
  have s:wrap .i64 ((i:Int)+1)=((i+1:Nat):Int):=a0C (by omega);have v:∀c:Nat,c<256→(i=9→False):=fun _ _ h=>by omega
  have b:((i:Int)==9)=false:=by grind
  have step:∀(c:Nat)(k:List Int),c<256→a0L m=(c:Int)::k→(i=0∨c≠0)→
    a5U ((acc:Int),P++(a0L m++rest),((P++(a0L m++rest)).length:Nat),(i:Int),()) =
     bif decide ((c:Int)<128)then some (.inr (Sum.inr (bits .u64 .or (acc:Int) (A0n .u64 (wrap .u64 (a26 (c:Int) 128)) ((7*i:Nat):Int)),((i+1:Nat):Int),(0:Int),())))
     else some (.inl (bits .u64 .or (acc:Int) (A0n .u64 (wrap .u64 (a26 (c:Int) 128)) ((7*i:Nat):Int)),P++(a0L m++rest),((P++(a0L m++rest)).length:Nat),((i+1:Nat):Int),())):=fun c k l hv a=>by
   have g:i<(P++(a0L m++rest)).length:=by simp_all
   have o:m0k (P++(a0L m++rest)) (i:Int)=some (c:Int):=by
    simp_all[a0D]
   have y:(decide ((i:Int) > 0)=true→((c:Int)==0)=false):=fun h=>by
    grind
   simp only[a5U,dlt g,cT,o,oB,b,cF]
   grind
  have val:∀c:Nat,c%128*2^(7*i)+acc<9223372036854775808→bits .u64 .or (acc:Int) (A0n .u64 (wrap .u64 (a26 (c:Int) 128)) ((7*i:Nat):Int))=((acc+c%128*2^(7*i):Nat):Int):=fun c l=>by
   rw[show a26 (c:Int) 128=((c%128:Nat):Int)from rfl,a0M (by omega),b1M (by omega) (by omega)];exact orA ha (by omega)
  by_cases hm128:m<128
  rw[a0F (step m [] (by omega) (b1e hm128) (by omega) |>.trans (by
   have d:decide ((m:Int)<128)=true:=by grind
   simp only[d,cT];rfl))]
  rw[val m (by simp_all[a23]),a23 hm128,b1e hm128];rfl
  ·cases j with
   |zero=>omega
   |succ j=>
    have n:m / 128<128^(j+1):=by omega
    have q:2^(7*(i+1))=128*2^(7*i):=by grind
    have f:m*2^(7*i)=m%128*2^(7*i)+m / 128*2^(7*(i+1)):=by
     grind
    have hb:m%128*2^(7*i)≤127*2^(7*i):=a25 _ (by omega);rw[a0E (step (m%128+128) (a0L (m / 128)) (by omega) (b2r hm128) (by omega) |>.trans (by
     have d:decide (((m%128+128:Nat):Int)<128)=false:=by grind
     simp only[d,cF];rfl))]
    rw[val (m%128+128) (by grind[a90,Nat.mod_mod]),a90,Nat.mod_mod];have e:P++(a0L m++rest)=(P++[((m%128+128:Nat):Int)])++(a0L (m / 128)++rest):=by rw[b2r hm128];simp
    rw[e]at hl⊢;have u:=b6S j (m / 128) (i+1) (acc+m%128*2^(7*i)) (P++[((m%128+128:Nat):Int)]) n (by simp[hP]) (.inr (by omega)) (by omega) (by omega) hl;rw[u,f,b2r hm128];congr 3;omega
    simp;omega
theorem c8N{n:Nat}(h:n<9223372036854775808){rest:List Int}(g:(a0L n++rest).length<1000000000):a8n (a0L n++rest)=some ((n:Int),(((a0L n).length:Nat):Int),(0:Int)):=by
 have:=b6S (rest:=rest) 8 n 0 0 [] (by omega) rfl (.inl rfl) (by simp) (by omega) g
 simp_all[a8n]
def ord(P R:List Int):List Int×(Int×Int×Unit):=(P++R,(P.length:Int),(0:Int),())
theorem a3b{n:Nat}(c:n<9223372036854775808){most:Int}(e:(n:Int)≤most)(b:(P++(a0L n++R)).length<1000000000):
  a0S (ord P (a0L n++R),most)=some ((n:Int),ord (P++a0L n) R):=by
 have a:List.drop (a42 (P.length:Int)) (b02 (P++(a0L n++R)).length (P++(a0L n++R)))=a0L n++R:=by
  grind[tN]
 have k:((0:Int) != 0)=false:=rfl;have g:decide ((0:Int)≤(P.length:Int))=true:=by simp
 have f:decide ((P.length:Int)≤((P++(a0L n++R)).length:Int))=true:=by grind
 have d:decide ((n:Int) > most)=false:=by simp_all
 have h:(a0L n++R).length<1000000000:=by grind
 have i:wrap .i64 ((P.length:Int)+((a0L n).length:Int))=(((P++a0L n).length:Nat):Int):=by
  rw[a0B (by simp at b;omega)];simp
 unfold a0S ord;simp only[k,cF,g,f,a03,cT];rw[a,c8N c h]
 grind
def a8Y(g:Int):Nat:=if 0≤g then(2*g).toNat else(-2*g-1).toNat
theorem d3L{g:Int}(h:-100000≤g∧g≤100000):b1v g=some ((a8Y g:Nat):Int):=by
 unfold b1v a8Y
 by_cases hg:0≤g
 have d:decide (g≥0)=true:=by simp_all
 rw[d,cT,if_pos hg,a0M (n:=g) (by omega),a0M (by omega),a79 (by omega)];have d:decide (g≥0)=false:=by simp_all
 rw[d,cF,if_neg hg,a0B (n:=g+1) (by omega),a0B (by omega),a0M (n:=0-(g+1)) (by omega),a0M (n:=2*(0-(g+1))) (by omega),a0M (by omega),a79 (by omega)]
 grind
theorem c5M{g:Int}(h:-(m:Int)≤g∧g≤(m:Int)):a8Y g≤2*m:=by
 grind[a8Y]
theorem d3M{g:Int}(h:-100000≤g∧g≤100000):b1m ((a8Y g:Nat):Int)=some g:=by
 unfold b1m;have f:a26 ((a8Y g:Nat):Int) 2=((a8Y g%2:Nat):Int):=rfl;have k:a54 ((a8Y g:Nat):Int) 2=((a8Y g / 2:Nat):Int):=rfl;rw[f,k];unfold a8Y
 by_cases hg:0≤g
 rw[if_pos hg];have d:((((2*g).toNat%2:Nat):Int)==0)=true:=by grind
 rw[d,cT,a0M (by omega),a0B (by omega)]
 grind
 rw[if_neg hg];have d:((((-2*g-1).toNat%2:Nat):Int)==0)=false:=by grind
 rw[d,cF,a0M (by omega),a0B (n:=(((-2*g-1).toNat / 2:Nat):Int)) (by omega),a0B (n:=0-(((-2*g-1).toNat / 2:Nat):Int)) (by omega),a0B (by omega)]
 grind
def e8(s:Int):Int:=bif (A0o .u8 s 7)==(1:Int)then bits .u8 .xor (A0n .u8 s 1) 7 else A0n .u8 s 1
def e16(s:Int):Int:=bif (A0o .u16 s 15)==(1:Int)then bits .u16 .xor (A0n .u16 s 1) 32773 else A0n .u16 s 1
def rep{α:Type}(f:α→α):Nat→α→α
 |0,s=>s
 |n+1,s=>rep f n (f s)
def g8(s c:Int):Int:=rep e8 8 (bits .u8 .xor s c)
def g16(s c:Int):Int:=rep e16 8 (bits .u16 .xor s (A0n .u16 (wrap .u16 c) 8))
theorem b8H(l:List Int)(n i:Int):∀(j k:Nat)(s:Int),k+j=8→y0s a9S (s,l,n,i,(k:Int),())=some (rep e8 j s,l,n,i,())
 |0,k,s,h=>by
  obtain rfl:k=8:=by omega
  rfl
 |j+1,k,s,h=>by
  have d:decide ((k:Int)<8)=true:=by grind
  rw[a0E (s':=(e8 s,l,n,i,((k+1:Nat):Int),())) (by
   simp only[a9S,d,cT,a0C (show k<1000000 by omega),e8]
   grind)]
  exact b8H l n i j (k+1) (e8 s) (by omega)
theorem b5N(l:List Int)(n i:Int):∀(j k:Nat)(s:Int),k+j=8→y0s a8Q (s,l,n,i,(k:Int),())=some (rep e16 j s,l,n,i,())
 |0,k,s,h=>by
  obtain rfl:k=8:=by omega
  rfl
 |j+1,k,s,h=>by
  have d:decide ((k:Int)<8)=true:=by grind
  rw[a0E (s':=(e16 s,l,n,i,((k+1:Nat):Int),())) (by
   simp only[a8Q,d,cT,a0C (show k<1000000 by omega),e16]
   grind)]
  exact b5N l n i j (k+1) (e16 s) (by omega)
def b4H(l:List Int):Int:=l.foldl g8 0
def a4n(l:List Int):Int:=l.foldl g16 0
theorem c3M(h:short l):a7W l=some (b4H l):=by
 have:=a1M (f:=a7I) (β:=Int×Unit) l (fun i (a:Int)=>(a,l,(l.length:Int),(i:Int),())) (fun a x=>.inl (g8 a x)) (fun _ _=>True) (fun a=>(a,()))
  (fun i hi a _=>⟨fun k g=>by
   simp at g;subst g
   have:=b8H l (l.length:Int) (i:Int) 8 0 (bits .u8 .xor a l[i]) rfl
   simp at this;refine⟨?_,trivial⟩;simp only[a7I,dlt hi,cT,a0D hi,oB,this,a0C (a18 hi h),g8],fun b hb=>by grind⟩)
  (fun a c=>by simp_all[a7I]) (a:=0) trivial
 unfold a7W;simp at this;rw[this,b4B];rfl
theorem b8I(h:short l):a6j l=some (a4n l):=by
 have:=a1M (f:=a5V) (β:=Int×Unit) l (fun i (a:Int)=>(a,l,(l.length:Int),(i:Int),())) (fun a x=>.inl (g16 a x)) (fun _ _=>True) (fun a=>(a,()))
  (fun i hi a _=>⟨fun k g=>by
   simp at g;subst g
   have:=b5N l (l.length:Int) (i:Int) 8 0 (bits .u16 .xor a (A0n .u16 (wrap .u16 l[i]) 8)) rfl
   simp at this;refine⟨?_,trivial⟩;simp only[a5V,dlt hi,cT,a0D hi,oB,this,a0C (a18 hi h),g16],fun b hb=>by grind⟩)
  (fun a c=>by simp_all[a5V]) (a:=0) trivial
 unfold a6j;simp at this;rw[this,b4B];rfl
theorem b2t(n:Int):wrap .u16 n=n%65536:=by rfl
theorem c8O(s:Int):0≤e16 s∧e16 s<65536:=by
 unfold e16;cases (A0o .u16 s 15==1:Bool);simp only[cF,A0n,b2t];omega;simp only[cT,bits,b2t];omega
theorem b6T(l:List Int):0≤a4n l∧a4n l<65536:=by
 unfold a4n;rcases a51 l with rfl|⟨L,b,rfl⟩
 simp
 rw[List.concat_eq_append,List.foldl_append];exact c8O _
theorem d8n{v:Int}(h:0≤v∧v<65536):a4s (v,2)=some [v / 256,v%256]:=by
 have g:wrap .u64 (a54 v 256)=v / 256:=by grind[a0M]
 have f:wrap .u8 (a26 v 256)=v%256:=by simp_all[a43,a8b]
 have k:wrap .u8 (a26 (v / 256) 256)=v / 256:=by grind[a8b]
 have s0:a1Y (v,(2:Int),(0:Int),([]:List Int),())=some (.inl (v / 256,(2:Int),(1:Int),[v%256],())):=by
  simp only[a1Y,show decide ((0:Int)<2)=true from rfl,cT,a0T (show([]:List Int).length+1<2147483648 by simp),g,f];rfl
 have a:a1Y (v / 256,(2:Int),(1:Int),[v%256],())=some (.inl (wrap .u64 (a54 (v / 256) 256),(2:Int),(2:Int),[v%256,v / 256],())):=by
  simp only[a1Y,show decide ((1:Int)<2)=true from rfl,cT,a0T (show([v%256]:List Int).length+1<2147483648 by simp),k];rfl
 have c:a5k (v,2)=some [v%256,v / 256]:=by
  unfold a5k a3S
  simp
  rw[show v0s (v0r (2:Int) 0) 8=2 from rfl,a0E s0,a0E a,a0F (b:=([v%256,v / 256],())) rfl];rfl
 simp_all[a4s,a1W]
@[reducible] def a0I:Type:=Int×(Int×(Int×Unit))
@[reducible] def a1c:Type:=Int×(Int×(a0I×(List a0I×(List Sub×Unit))))
@[reducible] def a1a:Type:=Int×(List (List Int)×Unit)
def a2G(n:Int)(s:a0I):Bool:=!(decide (s.1<0) || decide (s.1≥n) || decide (s.2.1<0) || decide (s.2.1≥n) || s.1==s.2.1)&&!(decide (s.2.2.1 < -1024) || decide (s.2.2.1 > 1024))
theorem a3d{n:Int}{s:a0I}:a2G n s=true↔0≤s.1∧s.1<n∧0≤s.2.1∧s.2.1<n∧s.1≠s.2.1∧-1024≤s.2.2.1∧s.2.2.1≤1024:=by
 simp only[a2G,bA,a33,a77,decide_eq_false_iff_not,beq_eq_false_iff_ne];omega
def a5g(l:List a0I)(n:Int):Prop:=1≤n∧n≤8∧l.length≤16∧l.all (a2G n)=true
instance (l:List a0I) (n:Int):Decidable (a5g l n):=by unfold a5g;infer_instance
theorem b3G(l:List a0I)(n:Int):a8o (l,n)=some (decide (a5g l n)):=by
 unfold a8o a5g
 by_cases h1:n<1
 grind
 by_cases h2:n > 8
 grind
 by_cases h3:((l.length:Nat):Int) > 16
 grind
 have g:=a2q (f:=a6W) (β:=Unit ⊕ (Bool×Unit)) l (fun i=>(n,l,(l.length:Int),(i:Int),())) (a2G n) (bt:=Sum.inl ()) (bf:=Sum.inr (false,()))
  (fun i h hp=>by
   obtain⟨a1,m,o,p,q,r,s⟩:=a3d.1 hp;have k:decide (l[i].1<0)=false:=by simp_all
   have a:decide (l[i].1≥n)=false:=by simp_all
   have b:decide (l[i].2.1<0)=false:=by simp_all
   have c:decide (l[i].2.1≥n)=false:=by simp_all
   have d:(l[i].1==l[i].2.1)=false:=by simp_all
   have e:decide (l[i].2.2.1 < -1024)=false:=by simp_all
   have j:decide (l[i].2.2.1 > 1024)=false:=by simp_all
   simp only[a6W,dlt h,cT,a0D h,oB,k,a,b,c,d,e,j,cF,a0C (show i<1000000 by omega)])
  (fun i h hp=>by
   simp only[a6W,dlt h,cT,a0D h,oB]
   grind[a2G])
  (by simp[a6W])
 grind
def a2k(f:a0I):Prop:=1≤f.1∧f.1≤1048576∧1≤f.2.1∧f.2.1≤8∧4≤f.2.2.1∧f.2.2.1≤24
instance (f:a0I):Decidable (a2k f):=by unfold a2k;infer_instance
theorem a4E(f:a0I):a1Z f=some (decide (a2k f)):=by
 unfold a1Z a6V a2k
 grind
def frP(f:a1c):Prop:=a2k f.2.2.1∧1≤f.2.1∧f.2.1≤4096∧0≤f.1∧f.1≤4194304-f.2.1∧a5g f.2.2.2.1 f.2.2.1.2.1
instance (f:a1c):Decidable (frP f):=by unfold frP;infer_instance
theorem b3Z(f:a1c):a6X f=some (decide (frP f)):=by
 unfold a6X frP;rw[a4E,b3G]
 by_cases h1:a2k f.2.2.1<;>by_cases h2:1≤f.2.1<;>by_cases h3:f.2.1≤4096<;>by_cases h4:0≤f.1<;>simp[h1,h2,h3,h4]
 have h:wrap .i64 ((4194304:Int)-f.2.1)=4194304-f.2.1:=a0B (by omega);rw[h]
 grind
def a7p(s:a0I):List Nat:=[s.1.toNat,s.2.1.toNat,a8Y s.2.2.1]
def a5K(s:a0I):List Int:=a0L s.1.toNat++(a0L s.2.1.toNat++a0L (a8Y s.2.2.1))
def hb(f:a1c)(body:Nat):List Int:=
 [245,75]++(a0L f.1.toNat++(a0L f.2.1.toNat++(a0L f.2.2.1.1.toNat++(a0L f.2.2.1.2.1.toNat++(a0L f.2.2.1.2.2.1.toNat++(a0L f.2.2.2.1.length++(f.2.2.2.1.flatMap a5K++a0L body)))))))
def a1L(f:a1c)(body:Nat):List Int:=hb f body++[b4H (hb f body)]
theorem a8L{n:Nat}(h:n<9223372036854775808):1≤(a0L n).length∧(a0L n).length≤9:=b7A 8 n (by omega)
theorem c8P(g:n≤8){s:a0I}(h:a2G n s=true):(a5K s).length≤27:=by
 grind[a3d,a8L,a8Y,a5K]
theorem c0Y{n:Int}(g:n≤8):∀(l:List a0I),l.all (a2G n)=true→(l.flatMap a5K).length≤27*l.length
 | [],_=>by simp
 |s::l,h=>by
  simp only[a07,bA]at h
  have:=c8P g h.1
  have:=c0Y g l h.2
  simp only[a63,lN,lC];omega
theorem c3N{f:a1c}(g:frP f){body:Nat}(h:body≤1048576):2≤(hb f body).length∧(hb f body).length≤600:=by
 obtain⟨⟨q,r2,k,a,b,c⟩,l1,l2,s1,s2,m1,m2,m3,m4⟩:=g;have d:=a8L (n:=f.1.toNat) (by omega);have e:=a8L (n:=f.2.1.toNat) (by omega);have i:=a8L (n:=f.2.2.1.1.toNat) (by omega);have j:=a8L (n:=f.2.2.1.2.1.toNat) (by omega);have l:=a8L (n:=f.2.2.1.2.2.1.toNat) (by omega);have m:=a8L (n:=f.2.2.2.1.length) (by omega);have o:=a8L (n:=body) (by omega);have p:=c0Y m2 _ m4;simp only[hb,lN,lC,a22];omega
theorem c5N:∀l:List a0I,(l.flatMap a7p).length=3*l.length
 | []=>rfl
 |s::l=>by simp only[a63,lN,lC,c5N l];simp only[a7p,lC,a22];omega
theorem c7v{f:a1c}(z:frP f){body:Nat}(q:body≤1048576):a7R (f,(body:Int))=some (a1L f body):=by
 have t:=z;obtain⟨⟨N,r2,I,K,L,M⟩,l1,l2,s1,s2,m1,m2,m3,m4⟩:=t;have k:∀s∈f.2.2.2.1,a2G f.2.2.1.2.1 s=true:=fun s v=>lA.1 m4 s v;have h:=a1M (f:=a5E) (β:=Int×(List Int×Unit)) f.2.2.2.1 (fun i (a:List Int)=>((body:Int),f.2.2.2.1,((f.2.2.2.1.length:Nat):Int),(i:Int),a,())) (fun a x=>.inl (a++asI (a7p x))) (fun i a=>a.length=6+3*i) (fun a=>((body:Int),a,()))
  (fun i hi a F=>⟨fun H j=>by
   simp at j;subst j;obtain⟨a1,B,C,D,E,w,y⟩:=a3d.1 (k _ (a05 hi));refine⟨?_,by grind[asI,a7p]⟩;simp only[a5E,dlt hi,cT,a0D hi,oB,d3L (g:=f.2.2.2.1[i].2.2.1) (by omega),a0T (show a.length+3<2147483648 by omega),a0C (show i<1000000 by omega),a06]
   grind[a0M,asI,a7p],fun b hb=>by grind⟩)
  (fun a F=>by simp_all[a5E]) (a:=asI [f.1.toNat,f.2.1.toNat,f.2.2.1.1.toNat,f.2.2.1.2.1.toNat,f.2.2.1.2.2.1.toNat,f.2.2.2.1.length]) (by rfl)
 rw[b1f]at h;simp[a8c]at h;have d:([wrap .u64 f.1,wrap .u64 f.2.1,wrap .u64 f.2.2.1.1,wrap .u64 f.2.2.1.2.1,wrap .u64 f.2.2.1.2.2.1,wrap .u64 ((f.2.2.2.1.length:Nat):Int)]:List Int)=asI [f.1.toNat,f.2.1.toNat,f.2.2.1.1.toNat,f.2.2.1.2.1.toNat,f.2.2.1.2.2.1.toNat,f.2.2.2.1.length]:=by
  grind[a0M,asI]
 have o:asI [f.1.toNat,f.2.1.toNat,f.2.2.1.1.toNat,f.2.2.1.2.1.toNat,f.2.2.1.2.2.1.toNat,f.2.2.2.1.length]++f.2.2.2.1.flatMap (fun x=>asI (a7p x))++[((body:Nat):Int)]=asI ([f.1.toNat,f.2.1.toNat,f.2.2.1.1.toNat,f.2.2.1.2.1.toNat,f.2.2.1.2.2.1.toNat,f.2.2.2.1.length]++f.2.2.2.1.flatMap a7p++[body]):=by
  simp_all[asI,List.map_flatMap]
 have u:∀n∈[f.1.toNat,f.2.1.toNat,f.2.2.1.1.toNat,f.2.2.1.2.1.toNat,f.2.2.1.2.2.1.toNat,f.2.2.2.1.length]++f.2.2.2.1.flatMap a7p++[body],n<9223372036854775808:=fun n e=>by
  simp only[mA,mC,a96,or_false,a97]at e;rcases e with(e|⟨s,v,e⟩)|e;omega;obtain⟨a1,B,C,D,E,w,y⟩:=a3d.1 (k _ v)
  have:=c5M (m:=1024) ⟨w,y⟩
  simp[a7p]at e;omega;omega
 have A:=c5N f.2.2.2.1;have p:=b5M u (by grind);have c:(([f.1.toNat,f.2.1.toNat,f.2.2.1.1.toNat,f.2.2.1.2.1.toNat,f.2.2.1.2.2.1.toNat,f.2.2.2.1.length]++f.2.2.2.1.flatMap a7p++[body]).flatMap a0L)=(hb f body).drop 2:=by
  simp only[hb,List.flatMap_append,a63,List.flatMap_nil,a40,aA,List.flatMap_assoc,a65,a09,List.drop_succ_cons,a28];congr 7;exact congrArg (fun g=>List.flatMap g f.2.2.2.1) (funext fun s=>by simp[a5K,a7p])
 have r:[245,75]++(hb f body).drop 2=hb f body:=by rfl
 have G:=c3N z q;unfold a7R;simp only[d];rw[h];simp only[oB,a06];have l:=congrArg a37 o;rw[show(asI ([f.1.toNat,f.2.1.toNat,f.2.2.1.1.toNat,f.2.2.1.2.1.toNat,f.2.2.1.2.2.1.toNat,f.2.2.2.1.length]++f.2.2.2.1.flatMap a7p++[body])).length=7+3*f.2.2.2.1.length from by grind[asI,lC]]at l;rw[lN,a74]at l;rw[a0M (n:=(body:Int)) (by omega),a0T (by omega),cT,o,p];simp only[oB,c,a06,r];rw[a0T (by grind),cT,c3M (show short (hb f body)by unfold short;omega)]
 simp
 rw[a0T (by omega),cT];rfl
def c7w(f:a1c):a1c:=(f.1,f.2.1,f.2.2.1,f.2.2.2.1,[],())
theorem a1H{A:List Int}{k:Nat}(h:(P++(A++R)).length<k):((P++A)++R).length<k:=by rw[aA];exact h
theorem b8J{x:List Int}{ch:Int}(c:ch≤8)(s l:Int)(fm:a0I)(u:List Sub×Unit){N:Nat}(o:N≤16){R:List Int}:∀(rest done:List a0I)(P:List Int),rest.all (a2G ch)=true→done.length+rest.length=N→
  (P++(rest.flatMap a5K++R)).length<1000000000→
  y0s a5v (x,(N:Int),(done.length:Int),(s,l,fm,done,u),ord P (rest.flatMap a5K++R),())=some (x,(s,l,fm,done++rest,u),ord (P++rest.flatMap a5K) R,())
 | [],done,P,_,hl,_=>by
  have e:done.length=N:=by simpa using hl
  rw[e,a0F (b:=(x,(s,l,fm,done,u),ord P R,())) (by simp only[a5v,dge,cF];rfl)]
  simp
 |g::rest,done,P,h,hl,hlen=>by
  simp only[a07,bA]at h;rw[lC]at hl;obtain⟨a1,v,w,y,z,d,i⟩:=a3d.1 h.1;have A:=c5M (m:=1024) ⟨d,i⟩;have j:(g::rest).flatMap a5K++R=a0L g.1.toNat++(a0L g.2.1.toNat++(a0L (a8Y g.2.2.1)++(rest.flatMap a5K++R))):=by simp[a5K]
  rw[j]at hlen⊢;have n1:=a3b (n:=g.1.toNat) (most:=7) (by omega) (by omega) hlen;have f:=a1H hlen;have n2:=a3b (n:=g.2.1.toNat) (most:=7) (by omega) (by omega) f;have k:=a1H f;have r:=a3b (n:=a8Y g.2.2.1) (most:=2048) (by omega) (by omega) k;have a:=a1H k;have q:wrap .u64 ((done.length:Int)+1)=(((done++[g]).length:Nat):Int):=by rw[a0M (by omega)];simp
  have t:wrap .i64 ((g.1.toNat:Nat):Int)=g.1:=by rw[a0B (by omega)];omega
  have w2:wrap .i64 ((g.2.1.toNat:Nat):Int)=g.2.1:=by rw[a0B (by omega)];omega
  have p:decide ((done.length:Int)<(N:Int))=true:=by simp;omega
  rw[a0E (s':=(x,(N:Int),(((done++[g]).length:Nat):Int),(s,l,fm,done++[g],u),ord (P++a0L g.1.toNat++a0L g.2.1.toNat++a0L (a8Y g.2.2.1)) (rest.flatMap a5K++R),())) (by
   simp only[a5v,p,cT,n1,n2,r,oB,d3M (g:=g.2.2.1) (by omega),a0T (show done.length+1<2147483648 by omega),t,w2,q,a06])]
  rw[b8J c s l fm u o rest (done++[g]) _ h.2 (by simp;omega) a];simp[a5K]
theorem c7x{f:a1c}(p:frP f){body:Nat}(o:body≤1048576)(hl:(a1L f body++R).length<1000000000):
  a7J (a1L f body++R)=some (c7w f,((a1L f body).length:Int),(body:Int),(0:Int)):=by
 have q:=p;obtain⟨⟨r1,r2,c1,c2,d1,d2⟩,l1,l2,s1,s2,m1,m2,m3,m4⟩:=q;have S:=c3N p o

 have d:a1L f body++R=[245,75]++(a0L f.1.toNat++(a0L f.2.1.toNat++(a0L f.2.2.1.1.toNat++(a0L f.2.2.1.2.1.toNat++(a0L f.2.2.1.2.2.1.toNat++(a0L f.2.2.2.1.length++(f.2.2.2.1.flatMap a5K++(a0L body++([b4H (hb f body)]++R))))))))):=by
  simp[a1L,hb]
 generalize hx:a1L f body++R=x at *;have U:2≤x.length:=by rw[d];simp
 have O:m0k x 0=some 245:=by rw[d];rfl
 have P:m0k x 1=some 75:=by rw[d];rfl
 have k:List.drop 2 (b02 x.length x)=a0L f.1.toNat++(a0L f.2.1.toNat++(a0L f.2.2.1.1.toNat++(a0L f.2.2.1.2.1.toNat++(a0L f.2.2.1.2.2.1.toNat++(a0L f.2.2.2.1.length++(f.2.2.2.1.flatMap a5K++(a0L body++([b4H (hb f body)]++R)))))))):=by
  rw[a19,d];rfl
 have h:([]++(a0L f.1.toNat++(a0L f.2.1.toNat++(a0L f.2.2.1.1.toNat++(a0L f.2.2.1.2.1.toNat++(a0L f.2.2.1.2.2.1.toNat++(a0L f.2.2.2.1.length++(f.2.2.2.1.flatMap a5K++(a0L body++([b4H (hb f body)]++R))))))))):List Int).length<1000000000:=by
  rw[←k];simp;omega
 have n1:=a3b (n:=f.1.toNat) (most:=4194304) (by omega) (by omega) h;have y:=a1H h;have n2:=a3b (n:=f.2.1.toNat) (most:=4096) (by omega) (by omega) y;have z:=a1H y;have E:=a3b (n:=f.2.2.1.1.toNat) (most:=1048576) (by omega) (by omega) z;have A:=a1H z;have F:=a3b (n:=f.2.2.1.2.1.toNat) (most:=8) (by omega) (by omega) A;have B:=a1H A;have G:=a3b (n:=f.2.2.1.2.2.1.toNat) (most:=24) (by omega) (by omega) B;have C:=a1H B;have H:=a3b (n:=f.2.2.2.1.length) (most:=16) (by omega) (by omega) C;have D:=a1H C;have a:=b8J (x:=x) m2 f.1 f.2.1 f.2.2.1 ([],()) m3 f.2.2.2.1 [] _ m4 (by simp) D;have Q:=a1H D;have i:=a3b (n:=body) (most:=1048576) (by omega) (by omega) Q;simp only[a22,nZ,a09,a30]at n1 n2 E F G H i a;have X:wrap .i64 ((f.1.toNat:Nat):Int)=f.1:=by rw[a0B (by omega)];omega
 have w2:wrap .i64 ((f.2.1.toNat:Nat):Int)=f.2.1:=by rw[a0B (by omega)];omega
 have Y:wrap .i64 ((f.2.2.1.1.toNat:Nat):Int)=f.2.2.1.1:=by rw[a0B (by omega)];omega
 have Z:wrap .i64 ((f.2.2.1.2.1.toNat:Nat):Int)=f.2.2.1.2.1:=by rw[a0B (by omega)];omega
 have w5:wrap .i64 ((f.2.2.1.2.2.1.toNat:Nat):Int)=f.2.2.1.2.2.1:=by rw[a0B (by omega)];omega
 have l:a0L f.1.toNat++a0L f.2.1.toNat++a0L f.2.2.1.1.toNat++a0L f.2.2.1.2.1.toNat++a0L f.2.2.1.2.2.1.toNat++a0L f.2.2.2.1.length++f.2.2.2.1.flatMap a5K++a0L body=(hb f body).drop 2:=by simp[hb]
 rw[l]at i;have u:ord ((hb f body).drop 2) ([b4H (hb f body)]++R)=(x.drop 2,(((hb f body).length-2:Nat):Int),(0:Int),()):=by
  unfold ord;rw[a52,←hx];congr 1;unfold a1L;rw[aA,List.drop_append_of_le_length (by omega)]
 rw[u]at i;have b:wrap .i64 (((x.drop 2).length:Int)-(((hb f body).length-2:Nat):Int))=((1+R.length:Nat):Int):=by
  have:x.length=(hb f body).length+(1+R.length):=by rw[←hx];simp[a1L];omega
  rw[a52,a0B (by omega)];omega
 have m:wrap .i64 ((2:Int)+(((hb f body).length-2:Nat):Int))=(((hb f body).length:Nat):Int):=by rw[a0B (by omega)];omega
 have t:(hb f body).length<x.length:=by rw[←hx];simp[a1L]
 have c:b02 (hb f body).length x=hb f body:=by rw[←hx];simp[a1L]
 have s:m0k x (((hb f body).length:Nat):Int)=some (b4H (hb f body)):=by rw[a0D t];congr 1;subst hx;simp[a1L]
 have N:decide (((x.length:Nat):Int)<2)=false:=by simp;omega
 have j:decide ((2:Int)≤((x.length:Nat):Int))=true:=by simp;omega
 have I:((245:Int) != 245)=false:=rfl;have b1:((75:Int) != 75)=false:=rfl;have e:∀T:List Int,T.length<1000000000→a5O T=some (ord [] T):=fun T d=>by unfold a5O;rw[a0T (by omega)];rfl
 have g:=h;rw[a09]at g;have z0:((0:Int) != 0)=false:=rfl;have K:decide (((1+R.length:Nat):Int)<1)=false:=by simp;omega
 have L:decide ((0:Int)≤(((hb f body).length:Nat):Int))=true:=by simp
 have M:decide ((((hb f body).length:Nat):Int)≤((x.length:Nat):Int))=true:=by simp;omega
 have V:(b4H (hb f body) != b4H (hb f body))=false:=bne_self_eq_false _;have r:frP (f.1,f.2.1,f.2.2.1,f.2.2.2.1,([]:List Sub),()):=p;have w:wrap .i64 ((((hb f body).length:Nat):Int)+1)=(((a1L f body).length:Nat):Int):=by rw[a0B (by omega)];simp[a1L]
 have v:wrap .i64 ((body:Nat):Int)=(body:Int):=a0B (by omega);unfold a7J;simp only[N,cF,O,P,oB,I,b1,j,cT];rw[k,e _ g];simp only[oB,n1,n2,E,F,G,H,X,w2,Y,Z,w5]
 erw[a]
 simp only[oB,i,a3z,z0,cF,a1O,a4a,b,K,m,L,M,a03,cT,tN,c,c3M (show short (hb f body)by unfold short;omega),s,V];rw[b3Z,decide_eq_true r];simp only[oB,bT,cF,w,v];rfl
@[reducible] def PZ:Type:=Sub×List Nat
def c7y(n:Int)(p:PZ):Prop:=SmallS p.1∧(a2r p.1 n).isSome=true∧(p.1.1≠0∧p.1.1≠1→PartsOk p.1.2.2.2.2.2.2.2.2.2.1 n ((p.1.2.2.2.2.2.2.2.2.1.length:Nat):Int) p.1.2.2.2.2.2.2.2.2.2.2.1 p.2)
def a0N(l:List PZ):List Int:=l.flatMap fun p=>a8j p.1 p.2
theorem c0Z(l:List PZ):a1z (a0N l):=b3o fun _=>d0C _ _
theorem c1a(x:a1c)(all:List Sub)(l:all.length≤8):∀(rest done:List Sub)(L:List Int),done++rest=all→(∀s∈rest,SmallS s∧(a2r s x.2.1).isSome=true)→L.length+700000*rest.length<40000000→
  ∃zs:List PZ,zs.map (·.1)=rest∧(∀p∈zs,c7y x.2.1 p)∧(a0N zs).length≤700000*rest.length∧((∀s∈rest,∃c,a4j (s,x.2.1)=some (c:Int))∧some (((a0N zs).length:Nat):Int)=rest.foldr (fun s a=>a.bind fun a=>(a4j (s,x.2.1)).bind fun c=>some (c+a)) (some 0))∧
   y0s a8F (all,(all.length:Int),(done.length:Int),wL L,x,())=some (.inl (wL (L++a0N zs),x,()))
 | [],done,L,hd,_,_=>by
  have e:done=all:=by simp_all
  subst e;refine⟨[],rfl,by simp,by simp[a0N],⟨by simp,by rfl⟩,?_⟩;simp_all[a0F,a8F,a0N]
 |s::rest,done,L,hd,h,hL=>by
  obtain⟨b,k⟩:=h s (by simp);rw[lC]at hL;obtain⟨f,d,i,q,j⟩:=d0D b k (L:=L) (by omega);obtain⟨zs,k1,k2,k3,⟨r,o⟩,k6⟩:=c1a x all l rest (done++[s]) (L++a8j s f) (by simp_all) (fun t n=>h t (by grind)) (by grind);have g:done.length<all.length:=by grind
  have m:m0k all (done.length:Int)=some s:=by grind[a0D]
  refine⟨(s,f)::zs,by grind,fun p hp=>?_,?_,⟨fun t n=>?_,?_⟩,?_⟩;rcases mC.1 hp with rfl|hp;exact⟨b,k,j⟩;simp_all
  grind[a0N]
  grind
  simp only[List.foldr_cons,←o,oB,i];simp[a0N];have z0:((0:Int) != 0)=false:=rfl;rw[a0E (s':=(all,(all.length:Int),(((done++[s]).length:Nat):Int),wL (L++a8j s f),x,())) (by
   simp only[a8F,dlt g,cT,m,oB,d,z0,cF,a0C (show done.length<1000000 by omega)]
   simp)]
  simp_all[a0N]
def a4T(k:Nat):Nat:=(8-k%8)%8
def a2M(L:List Int):List Int:=L++a00 (a4T L.length) 0
theorem b8K:∀(k:Nat)(L:List Int),a4T L.length=k→L.length+k<900000000→y0s a3x (wL L,())=some (wL (L++a00 k 0),())
 |k,L,hk,hL=>by
  have f:=(a5R L).1;have h:a26 (wL L).2.1 8=((L.length%8:Nat):Int):=by grind
  unfold a4T at hk;cases k with
  |zero=>
   grind[a0F,a3x]
  |succ k=>
   have hb:(((L.length%8:Nat):Int) != 0)=true:=by grind
   rw[a0E (s':=(wL (L++[0]),())) (by
    simp only[a3x,h,hb,cT,b8j (show L.length<1000000000 by omega),oB])]
   rw[b8K k (L++[0]) (by grind[a4T]) (by grind)]
   grind
theorem d0F(h:L.length<800000000):a5b (wL L)=some (wL (a2M L)):=by
 unfold a5b;rw[b8K _ L rfl (by unfold a4T;omega)];rfl
def a8M(L:List Int):List Int:=(wL (a2M L)).1
theorem b5O(L:List Int):(a8M L).length=(L.length+7) / 8∧8*(a8M L).length=(a2M L).length:=by
 grind[a5R,a2M,a8M,a4T]
def a8Z(f:a1c)(L:List Int):List Int:=a1L f (a8M L).length++a8M L
def a4U(f:a1c)(L:List Int):List Int:=a8Z f L++[a4n (a8Z f L) / 256,a4n (a8Z f L)%256]
theorem b4I{f:a1c}(g:frP f)(h:L.length≤5600000):(a8Z f L).length≤700700∧(a8M L).length≤700000:=by
 grind[b5O,c3N,a8Z,a1L]
theorem c3O{f:a1c}(j:a4r f=some true)(d:frP f)(e:f.2.2.2.2.1.length≤8)(m:∀s∈f.2.2.2.2.1,SmallS s∧(a2r s f.2.1).isSome=true):
  ∃zs:List PZ,zs.map (·.1)=f.2.2.2.2.1∧(∀p∈zs,c7y f.2.1 p)∧(a0N zs).length≤5600000∧
   some (((a0N zs).length:Nat):Int)=f.2.2.2.2.1.foldr (fun s a=>a.bind fun a=>(a4j (s,f.2.1)).bind fun c=>some (c+a)) (some 0)∧a2z f=some (a4U f (a0N zs),0):=by
 obtain⟨zs,k1,k2,k3,⟨-,n⟩,k6⟩:=c1a f f.2.2.2.2.1 e f.2.2.2.2.1 [] [] rfl m (by grind);have b:(a0N zs).length≤5600000:=by omega
 refine⟨zs,k1,k2,b,n,?_⟩;rw[a09,a22]at k6;have hp:=b4I d b;have k:wL []=(([]:List Int),(0:Int),()):=rfl;rw[k]at k6;have g:(a2M (a0N zs)).length<1000000000:=by
  grind[b5O]
 have l:=b6T (a8Z f (a0N zs));have h:a1L f (a8M (a0N zs)).length++a8M (a0N zs)=a8Z f (a0N zs):=rfl;have i:(a1L f (a8M (a0N zs)).length).length+(a8M (a0N zs)).length=(a8Z f (a0N zs)).length:=by grind
 unfold a2z;simp only[j,oB,bT,cF]
 erw[k6]
 simp only[oB,d0F (show(a0N zs).length<800000000 by omega),d0E g]
 erw[c7v d (show(a8M (a0N zs)).length≤1048576 by omega)]
 simp only[oB,a06];rw[show(wL (a2M (a0N zs))).1=a8M (a0N zs)from rfl];rw[h,a0T (by omega),cT,b8I (show short (a8Z f (a0N zs))by unfold short;omega)]
 simp
 rw[a0M (by omega),d8n l];simp only[oB];rw[a0T (by grind),cT];rfl
end Go.Ab
