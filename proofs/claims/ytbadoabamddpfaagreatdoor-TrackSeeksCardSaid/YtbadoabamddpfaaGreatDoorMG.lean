/- Part of the proof: PA. Conditions: as each statement tells. -/
import Derived.KernelRfl
import Derived.Test.YtbadoabamddpfaaGreatDoorMF
noncomputable section
set_option linter.unusedSimpArgs false
set_option linter.unusedVariables false
open BitVec renaming ofInt→a04,ofInt_natCast→a24,toNat_ofNat→a29,toNat_or→a72,toNat_ofInt→a82,toNat_and→a94
open Bool renaming and_self→a03,not_eq_true'→a33,not_false→a36,true_and→a39,and_eq_true_iff→a76,or_eq_false_iff→a77,or_eq_true→a99,eq_iff_iff→b00
open Int renaming eq_ofNat_of_zero_le→a01,natCast_dvd_natCast→a20,tmod→a26,cast_ofNat_Int→a30,toNat→a42,tmod_eq_emod_of_nonneg→a43,dvd_mul_of_dvd_left→a46,mul_nonneg→a47,tdiv→a54,tdiv_eq_ediv_of_nonneg→a61,mul_fdiv_cancel_left→a64,dvd_add_left→a66,toNat_of_nonneg→a79,fdiv→a80,natCast_nonneg→a83,dvd_zero→a86,emod_eq_of_lt→a89,natCast_add→b02
open List renaming replicate→a00,drop_eq_getElem_cons→a02,getElem_mem→a05,append_eq→a06,all_cons→a07,nil_append→a09,take_length→a19,length_nil→a22,drop_zero→a28,zipWith→a31,mem_of_mem_take→a34,mem_of_mem_drop→a35,length→a37,append_nil→a40,length_eq_zero_iff→a45,take_of_length_le→a48,take_succ_eq_append_getElem→a49,drop_length→a50,eq_nil_or_concat→a51,length_drop→a52,replicate_succ'→a53,set_cons_zero→a60,sum_cons→a62,flatMap_cons→a63,cons_append→a65,set_append_right→a73,length_singleton→a74,singleton_append→a75,getD→a87,getElem_zip→a91,length_take→a95,not_mem_nil→a97,mem_flatMap→a98,foldl_cons→b01,take→b03
open Nat renaming pow_le_pow_right→a08,two_pow_pos→a16,lt_trans→a18,mod_eq_of_lt→a23,mul_le_mul_right→a25,le_refl→a27,div_le_self→a32,lt_of_le_of_lt→a38,mod_lt→a41,pow_dvd_pow→a55,sub_self→a56,mul_comm→a57,testBit_two_pow_mul_add→a58,two_pow_add_eq_or_of_lt→a59,div_eq_of_lt→a67,pow_succ→a68,div_div_eq_div_mul→a69,div_add_mod→a70,min_eq_left→a71,div_mul_le_self→a78,one_le_two_pow→a81,le_of_lt→a84,add_zero→a85,or_lt_two_pow→a88,add_mod_right→a90,mul_add→a92,mul_one→a93,lt_of_not_le→a96
open Option renaming map_eq_some_iff→a21,bind_eq_some_iff→a44
namespace Go.Ab
variable {L P R c d g ks l part r row t wm:List Int}{N a b i j m o v w:Nat}{k lag n warm x:Int}{zn:List Nat}
open IntKind(wrap)
section
variable {σ β:Type} {f:σ→Option (σ ⊕ β)}
theorem b5M:∀(n m:Nat)(s:σ){b:β},j0z f n s=some b→j0z f (n+m) s=some b
 |0,_,s,b,h=>by simp[j0z]at h
 |n+1,m,s,b,h=>by
  rw[show n+1+m=n+m+1 from by omega];simp only[j0z]at h⊢
  split at h
  cases h;rename_i s' g;exact b5M n m s' h;exact h
theorem c1H{n:Nat}{s:σ}{b b':β}(h:j0z f n s=some b)(k:j0z f m s=some b'):b=b':=by
 have a:=b5M n m s h;have g:=b5M m n s k;rw[Nat.add_comm,a]at g;exact Option.some.inj g
theorem c8p{n:Nat}{s:σ}{b:β}(h:j0z f n s=some b):v0v f s=some b:=by
 unfold v0v;have g:∃n b,j0z f n s=some b:=⟨n,b,h⟩;rw[dif_pos g];exact congrArg some (c1H g.choose_spec.choose_spec h)
theorem c1i{n:Nat}{s:σ}{b:β}(h:j0z f n s=some b):y0s f s=some b:=by
 unfold y0s;split;rename_i g hb;rw[c1H hb h];exact c8p h
theorem c1I{s:σ}(h:∀n,j0z f n s=none):y0s f s=none:=by
 unfold y0s;rw[h 400];show v0v f s=none;unfold v0v;rw[dif_neg]
 rintro⟨n,b,g⟩
 rw[h n]at g;cases g
theorem a0E{s:σ}{b:β}(h:f s=some (.inr b)):y0s f s=some b:=c1i (n:=1) (by simp[j0z,h])
theorem a0F{s s':σ}(h:f s=some (.inl s')):y0s f s=y0s f s':=by
 by_cases hx:∃n b,j0z f n s'=some b
 obtain⟨n,b,hb⟩:=hx;rw[c1i hb];exact c1i (n:=n+1) (by simp[j0z,h,hb])
 ·have g:∀n,j0z f n s'=none:=fun n=>by
   cases hn:j0z f n s' with
   |none=>rfl
   |some b=>exact absurd ⟨n,b,hn⟩ hx
  rw[c1I g];refine c1I fun n=>?_
  cases n with
  |zero=>rfl
  |succ n=>simp[j0z,h,g n]
theorem c4Y(S:Nat→σ)(n:Nat){b:β}(g:∀i,i<n→f (S i)=some (.inl (S (i+1))))(h:f (S n)=some (.inr b)):∀(k:Nat),k≤n→y0s f (S (n-k))=some b
 |0,_=>a0E h
 |k+1,hk=>by
  rw[a0F (g (n-(k+1)) (by omega)),show n-(k+1)+1=n-k from by omega];exact c4Y S n g h k (by omega)
theorem a1C(S:Nat→σ)(n:Nat){b:β}(g:∀i,i<n→f (S i)=some (.inl (S (i+1))))(h:f (S n)=some (.inr b)):y0s f (S 0)=some b:=by
 have:=c4Y S n g h n (a27 _)
 rwa [a56]at this
end
theorem a0C{n:Int}(h:-9223372036854775808≤n∧n≤9223372036854775807):wrap .i64 n=n:=by
 simp only[wrap,IntKind.bits,IntKind.signed]
 simp
 split<;>omega
theorem a0N{n:Int}(h:0≤n∧n<18446744073709551616):wrap .u64 n=n:=by
 simp only[wrap,IntKind.bits,IntKind.signed]
 simp
 omega
theorem a8c(n:Int):wrap .u8 n=n%256:=by
 simp[wrap,IntKind.bits,IntKind.signed]
def leB:Nat→Nat→List Int
 |0,_=>[]
 |k+1,n=>((n%256:Nat):Int)::leB k (n / 256)
theorem b0R:∀k n,(leB k n).length=k
 |0,_=>rfl
 |k+1,n=>by simp[leB,b0R k]
theorem b8O:∀(k n:Nat),leB (k+1) n=leB k n++[((n / 256^k%256:Nat):Int)]
 |0,n=>by simp[leB]
 |k+1,n=>by
  rw[leB,b8O k (n / 256),leB,a69,a68,a57 (256^k)];rfl
theorem b3k(x y:Int):v0s x y=min x y:=by
 simp only[v0s,cond_eq_ite,dT]
 split<;>omega
theorem b7G(x y:Int):v0r x y=max x y:=by
 simp only[v0r,cond_eq_ite,dT]
 split<;>omega
theorem a0W{n:Nat}(h:n<2147483648):lim n=true:=by simp[lim,h]
section
variable {α A σ β:Type}
def a2O(g:A→α→A ⊕ β):List α→A→A ⊕ β
 | [],a=>.inl a
 |x::r,a=>match g a x with
  |.inl a'=>a2O g r a'
  |.inr b=>.inr b
def a8d(fin:A→β):A ⊕ β→β
 |.inl a=>fin a
 |.inr b=>b
theorem b5p{f:σ→Option (σ ⊕ β)}(l:List α)(S:Nat→A→σ)(g:A→α→A ⊕ β)(I:Nat→A→Prop)(e:A→β)
  (d:∀i (h:i<l.length) a,I i a→(∀a',g a l[i]=.inl a'→f (S i a)=some (.inl (S (i+1) a'))∧I (i+1) a')∧(∀b,g a l[i]=.inr b→f (S i a)=some (.inr b)))
  (c:∀a,I l.length a→f (S l.length a)=some (.inr (e a))):∀(k i:Nat)(a:A),i+k=l.length→I i a→y0s f (S i a)=some (a8d e (a2O g (l.drop i) a))
 |0,i,a,hi,ha=>by
  obtain rfl:i=l.length:=by omega
  rw[a50];exact a0E (c a ha)
 |k+1,i,a,hi,ha=>by
  have j:i<l.length:=by omega
  rw[a02 j];obtain⟨m,n⟩:=d i j a ha;simp[a2O];cases hg:g a l[i]with
  |inl a'=>
   obtain⟨o,p⟩:=m a' hg;rw[a0F o];exact b5p l S g I e d c k (i+1) a' (by omega) p
  |inr b=>exact a0E (n b hg)
theorem a1G{f:σ→Option (σ ⊕ β)}(l:List α)(S:Nat→A→σ)(g:A→α→A ⊕ β)(I:Nat→A→Prop)(k:A→β)
  (d:∀i (h:i<l.length) a,I i a→(∀a',g a l[i]=.inl a'→f (S i a)=some (.inl (S (i+1) a'))∧I (i+1) a')∧(∀b,g a l[i]=.inr b→f (S i a)=some (.inr b)))
  (c:∀a,I l.length a→f (S l.length a)=some (.inr (k a))){a:A}(e:I 0 a):y0s f (S 0 a)=some (a8d k (a2O g l a)):=by
 have:=b5p l S g I k d c l.length 0 a (by omega) e
 simp_all
theorem a1S{f:σ→Option (σ ⊕ β)}(l:List α)(S:Nat→σ)(p:α→Bool){bt bf:β}
  (k:∀i (h:i<l.length),p l[i]=true→f (S i)=some (.inl (S (i+1))))(b:∀i (h:i<l.length),p l[i]=false→f (S i)=some (.inr bf))
  (g:f (S l.length)=some (.inr bt)):y0s f (S 0)=some (bif l.all p then bt else bf):=by
 have h:=a1G (A:=Unit) l (fun i _=>S i) (fun _ x=>bif p x then .inl ()else .inr bf) (fun _ _=>True) (fun _=>bt) (fun i h a _=>?_) (fun _ _=>g) (a:=()) trivial
 ·rw[h];congr 1;clear h k b g
  induction l with
  |nil=>rfl
  |cons x l ih=>
   simp[a2O];cases p x with
   |true=>simp_all
   |false=>rfl
 grind
end
theorem a0D{α:Type}{l:List α}{i:Nat}(h:i<l.length):m0k l (i:Int)=some l[i]:=by
 simp_all[m0k]
def a0A(x:Int):Bool:=decide (-1073741824≤x)&&decide (x<1073741824)
theorem a1H{x:Int}:a0A x=true↔-1073741824≤x∧x<1073741824:=by simp[a0A]
def short{α:Type}(l:List α):Prop:=l.length<1000000
theorem a0B{i:Nat}(h:i<1000000):wrap .i64 ((i:Int)+1)=((i+1:Nat):Int):=by
 grind[a0C]
theorem dlt{n:Nat}(h:i<n):decide ((i:Int)<(n:Int))=true:=by simp_all
theorem dge(n:Nat):decide ((n:Int)<(n:Int))=false:=by simp
theorem a4y{l:List Int}(a:short l):a2v l=some (l.all a0A):=by
 unfold a2v
 have:=a1S (f:=a2A) l (fun i=>(l,(l.length:Int),(i:Int),())) a0A (bt:=Sum.inl ()) (bf:=Sum.inr (false,()))
  (fun i h hp=>by
   have hp:=a1H.1 hp;have g:decide (l[i] < -1073741824)=false:=by simp_all
   have k:decide (l[i]≥1073741824)=false:=by simp_all
   simp only[a2A,dlt h,cT,a0D h,oB,g,k,cF,a0B (a18 h a)])
  (fun i h hp=>by
   simp only[a2A,dlt h,cT,a0D h,oB]
   grind[a0A])
  (by simp[a2A])
 grind
theorem a6r(x:Int):a5h x=some (a0A x):=by
 grind[a5h,a0A]
theorem a8e(x:Int):a7u x=some (a0A x):=by
 grind[a7u,a0A]
theorem a5n(x:Int):a6h x=some (a0A x):=by
 grind[a6h,a0A]
theorem b5q(x:Int):a5i x=some (a0A x):=by
 grind[a5i,a0A]
theorem a6d(g:short l):a2B l=some (l.all a0A):=by
 unfold a2B
 have:=a1S (f:=a2Y) l (fun i=>(l,(l.length:Int),(i:Int),())) a0A (bt:=Sum.inl ()) (bf:=Sum.inr (false,()))
  (fun i h hp=>by simp[a2Y,a0D h,a6r,hp,a0B (a18 h g),h])
  (fun i h hp=>by simp_all[a2Y,a0D,a6r])
  (by simp[a2Y])
 grind
theorem b4o(g:short l):a4s l=some (l.all a0A):=by
 unfold a4s
 have:=a1S (f:=a3Y) l (fun i=>(l,(l.length:Int),(i:Int),())) a0A (bt:=Sum.inl ()) (bf:=Sum.inr (false,()))
  (fun i h hp=>by simp[a3Y,a0D h,a8e,hp,a0B (a18 h g),h])
  (fun i h hp=>by simp_all[a3Y,a0D,a8e])
  (by simp[a3Y])
 grind
theorem b3K(g:short l):a5q l=some (l.all a0A):=by
 unfold a5q
 have:=a1S (f:=a3t) l (fun i=>(l,(l.length:Int),(i:Int),())) a0A (bt:=Sum.inl ()) (bf:=Sum.inr (false,()))
  (fun i h hp=>by simp[a3t,a0D h,a5n,hp,a0B (a18 h g),h])
  (fun i h hp=>by simp_all[a3t,a0D,a5n])
  (by simp[a3t])
 grind
theorem a7o(h:short l):a2L l=some (l.all a0A):=by
 have e:b4f=a2A:=rfl
 have:a2L l=a2v l:=by rfl
 simp_all[a4y]
def b9A(x:Int):Bool:=decide (-32768≤x)&&decide (x<32768)
def a9I(c:List Int)(s:Int):Bool:=decide (1≤c.length)&&(decide (c.length≤32)&&(decide (0≤s)&&(decide (s≤15)&&c.all b9A)))
theorem a9y{c:List Int}{s:Int}(a:short c):a4A (c,s)=some (a9I c s):=by
 have:=a1S (f:=a5p) c (fun i=>(c,(c.length:Int),(i:Int),())) b9A (bt:=Sum.inl ()) (bf:=Sum.inr (false,()))
  (fun i h hp=>by
   simp[b9A]at hp;have g:¬ c[i] < -32768:=by omega
   have k:¬ c[i]≥32768:=by omega
   simp[a5p,a0D h,a0B (a18 h a),h,g,k])
  (fun i h hp=>by
   grind[b9A,a5p,a0D])
  (by simp[a5p])
 simp at this;unfold a4A a9I
 grind
def b5N(x:Int):Bool:=decide (-64≤x)&&decide (x≤64)
def b2b(lag:Int)(t:List Int):Bool:=decide (2≤lag)&&(decide (lag≤1024)&&t.all b5N)
theorem b4X(g:t.length=3):a8o (lag,t)=some (b2b lag t):=by
 have:=a1S (f:=a7a) t (fun i=>(t,(i:Int),())) b5N (bt:=Sum.inl ()) (bf:=Sum.inr (false,()))
  (fun i h hp=>by
   simp[b5N]at hp
   grind[a7a,a0D,a0B])
  (fun i h hp=>by
   grind[b5N,a7a,a0D])
  (by simp_all[a7a])
 simp at this;unfold a8o b2b
 grind
def stageB(s:Int×(Int×Unit)):Bool:=decide (1≤s.1)&&(decide (s.1≤32)&&(decide (0≤s.2.1)&&decide (s.2.1≤8)))
def a9l(l:List (Int×Int×Unit)):Bool:=decide (l.length≤3)&&l.all stageB
theorem b1o(s:Int×(Int×Unit)):a7b s=some (stageB s):=by
 grind[a7b,stageB]
theorem b3L{l:List (Int×Int×Unit)}(g:short l):a7s l=some (a9l l):=by
 have:=a1S (f:=a6f) l (fun i=>(l,(l.length:Int),(i:Int),())) stageB (bt:=Sum.inl ()) (bf:=Sum.inr (false,()))
  (fun i h hp=>by simp[a6f,a0D h,b1o,hp,a0B (a18 h g),h])
  (fun i h hp=>by simp_all[a6f,a0D,b1o])
  (by simp[a6f])
 simp at this;unfold a7s a9l
 grind
@[reducible] def W(n:Int):Int:=wrap .i64 n
theorem a8f(n:Int):wrap .i64 n=Int.bmod n 18446744073709551616:=by
 grind[wrap,IntKind.bits,IntKind.signed]
theorem b7i{n:Int}(h:a0A n=true):W n=n:=by
 grind[a1H,a0C]
def a4g(guess:List Int→Int):List Int→List Int→Option (List Int)
 | [],out=>some out
 |x::r,out=>bif a0A (W (x+guess out))then a4g guess r (out++[W (x+guess out)])else none
def b4p{β:Type}(guess:List Int→Int)(bad:β)(out:List Int)(x:Int):List Int ⊕ β:=bif a0A (W (x+guess out))then .inl (out++[W (x+guess out)])else .inr bad
theorem b3b{β:Type}(h:List Int→Int)(g:β)(f:List Int→β):∀(l out:List Int),a8d f (a2O (b4p h g) l out)=match a4g h l out with|some r=>f r|none=>g
 | [],out=>rfl
 |x::l,out=>by
  simp[a2O,b4p,a4g];cases a0A (W (x+h out))with
  |true=>simp_all[b3b]
  |false=>rfl
theorem b3c(g:List Int→Int):∀(l out r:List Int),out.all a0A=true→a4g g l out=some r→r.all a0A=true∧r.length=out.length+l.length
 | [],out,r,h,e=>by simp_all[a4g]
 |x::l,out,r,h,e=>by
  simp[a4g]at e;cases hw:a0A (W (x+g out))with
  |true=>
   rw[hw]at e;obtain⟨f,k⟩:=b3c g l _ r (by simp_all) e
   grind
  |false=>simp_all
def a5e:Option (List Int)→List Int×Int
 |some r=>(r,0)
 |none=>([],6)
def atB(out:List Int)(i:Nat):Int:=out.getD (out.length-i) 0
def a6s(o:Nat)(out:List Int):Int:=match o with
 | 1=>atB out 1
 | 2=>2*atB out 1-atB out 2
 | 3=>3*atB out 1-3*atB out 2+atB out 3
 | 4=>4*atB out 1-6*atB out 2+4*atB out 3-atB out 4
 |_=>0
theorem b3d{out:List Int}(hi:1≤i)(h:i≤out.length)(g:short out):a1m ((i:Int),out)=some (atB out i,out):=by
 unfold a1m;have g:out.length<1000000:=g
 grind[a0C,a0D,atB]
theorem c1j{out:List Int}(e:o≤4)(h:o≤out.length)(a:short out):∃g,a9p (out,(o:Int))=some g∧∀x,W (x+g)=W (x+a6s o out):=by
 have f:=fun(h':1≤out.length)=>b3d (i:=1) (by omega) h' a;have k:=fun(h':2≤out.length)=>b3d (i:=2) (by omega) h' a;have b:=fun(h':3≤out.length)=>b3d (i:=3) (by omega) h' a;have c:=fun(h':4≤out.length)=>b3d (i:=4) (by omega) h' a;simp at f k b c;unfold a9p;have d:o=0∨o=1∨o=2∨o=3∨o=4:=by omega
 rcases d with rfl|rfl|rfl|rfl|rfl;exact⟨0,rfl,fun x=>rfl⟩;exact⟨_,by simp[f (by omega)];rfl,fun x=>rfl⟩;refine⟨_,by simp[f (by omega),k (by omega)];rfl,fun x=>?_⟩;simp_all[a8f,a6s];refine⟨_,by simp[f (by omega),k (by omega),b (by omega)];rfl,fun x=>?_⟩;simp_all[a8f,a6s];refine⟨_,by simp[f (by omega),k (by omega),b (by omega),c (by omega)];rfl,fun x=>?_⟩;simp_all[a8f,a6s]
theorem a0X{n:Nat}(h:n<1000000):lim n=true:=a0W (by omega)
theorem c2x{warm rest:List Int}(u:o≤4)(x:warm.length=o)(w:rest.length<100000):
  a9X (warm,rest,(o:Int))=some (a5e (bif warm.all a0A&&rest.all a0A then a4g (a6s o) rest warm else none)):=by
 have c:short warm:=by unfold short;omega
 have m:short rest:=by unfold short;omega
 unfold a9X;have p:¬ (o:Int)<0:=by omega
 have q:¬ (o:Int) > 4:=by omega
 have r:(((warm.length:Nat):Int) != (o:Int))=false:=by simp_all
 simp only[p,q,r,decide_false,cF,oB,a7o c,a7o m];cases hw1:warm.all a0A with
 |false=>rfl
 |true=>
  simp only[bT,cF,oB,a39];cases hw2:rest.all a0A with
  |false=>rfl
  |true=>
   simp[a0X c]
   have:=a1G (f:=a7F) rest (fun i out=>((o:Int),rest,(rest.length:Int),(i:Int),out,())) (b4p (a6s o) (Sum.inr ((6:Int),([]:List Int),())))
    (fun i out=>o≤out.length∧out.length≤o+i) (fun out=>Sum.inl (out,()))
    (fun i h out s=>by
     have j:i<1000000:=by omega
     have l:short out:=by unfold short;omega
     obtain⟨g,t,d⟩:=c1j u s.1 l;have e:wrap .i64 (rest[i]+g)=W (rest[i]+a6s o out):=d _;have k:a2L [W (rest[i]+a6s o out)]=some (a0A (W (rest[i]+a6s o out))):=by rw[a7o (by simp[short])];simp
     simp only[a7F,dlt h,cT,a0D h,oB,t,e,k,b4p];cases hb:a0A (W (rest[i]+a6s o out))with
     |true=>
      simp only[cT,bT,cF,a0X (show out.length+1<1000000 by omega),a0B j];refine⟨fun v n=>?_,fun b hb=>(by grind)⟩;simp at n;subst n;exact⟨rfl,by grind,by grind⟩
     |false=>
      simp)
    (fun out _=>by simp[a7F]) (a:=warm) ⟨by omega,by omega⟩
   simp[b3b]at this;rw[this];cases a4g (a6s o) rest warm<;>rfl
def c3a(out:List Int):List Int→Nat→Int→Int
 | [],_,acc=>acc
 |c::r,i,acc=>bif decide (i<out.length)then c3a out r (i+1) (W (acc+W (c*atB out (i+1))))else acc
def b1p(c:List Int)(s:Int)(out:List Int):Int:=A0o .i64 (c3a out c 0 0) s
theorem d2i{out:List Int}(h:i<out.length)(g:short out):m0k out (wrap .i64 (wrap .i64 (((out.length:Nat):Int)-1)-(i:Int)))=some (atB out (i+1)):=by
 have g:out.length<1000000:=g
 grind[a0C,a0D,atB]
theorem b7j{out c:List Int}{s:Int}(f:short out)(a:short c):∀(k i:Nat)(acc:Int),i+k=c.length→
  y0s a2Z (out,s,acc,c,(c.length:Int),(i:Int),())=some (s,c3a out (c.drop i) i acc,())
 |0,i,acc,h=>by
  obtain rfl:i=c.length:=by omega
  simp_all[a0E,a2Z,c3a]
 |k+1,i,acc,h=>by
  have g:i<c.length:=by omega
  have e:out.length<1000000:=f;have d:c.length<1000000:=a;rw[a02 g,c3a];have j:wrap .i64 (((out.length:Nat):Int)-1)=((out.length:Nat):Int)-1:=a0C (by omega);have l:wrap .i64 (((out.length:Nat):Int)-1-(i:Int))=((out.length:Nat):Int)-1-(i:Int):=a0C (by omega)
  by_cases hi:i<out.length
  have b:decide (wrap .i64 (wrap .i64 (((out.length:Nat):Int)-1)-(i:Int))<0)=false:=by grind
  simp[hi];rw[a0F (s':=(out,s,W (acc+W (c[i]*atB out (i+1))),c,(c.length:Int),((i+1:Nat):Int),())) (by
   simp only[a2Z,dlt g,cT,a0D g,oB,b,cF,d2i hi f,a0B (show i<1000000 by omega)])]
  exact b7j f a k (i+1) _ (by omega);have b:decide (wrap .i64 (wrap .i64 (((out.length:Nat):Int)-1)-(i:Int))<0)=true:=by grind
  simp[hi];simp_all[a0E,a2Z,a0D]
theorem b5O{out:List Int}{s:Int}(g:short out)(h:short c)(f:0≤s):a4C (out,c,s)=some (b1p c s out):=by
 have:=b7j (s:=s) g h c.length 0 0 (by omega)
 grind[a4C,b1p]
def b3M(warm rest c:List Int)(s:Int):Option (List Int):=bif warm.all a0A&&rest.all a0A then a4g (b1p c s) rest warm else none
theorem b5r{warm rest:List Int}{s:Int}(o:a9I c s=true)(w:warm.length=c.length)(v:rest.length<100000):
  a7c (warm,rest,c,s)=some (a5e (b3M warm rest c s)):=by
 have g:=o;simp only[a9I,bA,dT]at g;have k:short c:=by unfold short;omega
 have m:short warm:=by unfold short;omega
 have l:short rest:=by unfold short;omega
 unfold a7c;have q:(((warm.length:Nat):Int) != ((c.length:Nat):Int))=false:=by simp_all
 simp only[a9y k,o,oB,bT,cF,q,a6d m,a6d l,b3M];cases hw1:warm.all a0A with
 |false=>rfl
 |true=>
  simp only[bT,cF,oB,a39];cases hw2:rest.all a0A with
  |false=>rfl
  |true=>
   have p:wrap .i64 (((warm.length:Nat):Int)+((rest.length:Nat):Int))=((warm.length+rest.length:Nat):Int):=by grind[a0C]
   have r:(0:Int)≤((warm.length+rest.length:Nat):Int):=by omega
   simp only[bT,cF,cT,p,r,decide_true,tN,a0X (show warm.length+rest.length<1000000 by omega),a0X (show 0+warm.length<1000000 by omega),a03,a06,a09]
   have:=a1G (f:=a6H) rest (fun i out=>(c,s,rest,(rest.length:Int),(i:Int),out,())) (b4p (b1p c s) (Sum.inr ((6:Int),([]:List Int),())))
    (fun i out=>out.length≤warm.length+i) (fun out=>Sum.inl (out,()))
    (fun i h out u=>by
     have d:i<1000000:=by omega
     have j:short out:=by unfold short;omega
     have e:wrap .i64 (b1p c s out+rest[i])=W (rest[i]+b1p c s out):=by grind
     simp only[a6H,dlt h,cT,a0D h,oB,b5O j k g.2.2.1,e,a6r,b4p];cases hb:a0A (W (rest[i]+b1p c s out))with
     |true=>
      simp only[cT,bT,cF,a0X (show out.length+1<1000000 by omega),a0B d];refine⟨fun t n=>?_,fun b hb=>(by grind)⟩;simp at n;subst n;exact⟨rfl,by grind⟩
     |false=>
      simp)
    (fun out _=>by simp[a6H]) (a:=warm) (by omega)
   simp[b3b]at this;rw[this];cases a4g (b1p c s) rest warm<;>rfl
def c3b(out:List Int)(lag:Int):List Int→Nat→Int→Int
 | [],_,acc=>acc
 |t::r,i,acc=>c3b out lag r (i+1) (bif decide (0≤(out.length:Int)-lag-1+i)then W (acc+W (t*out.getD ((out.length:Int)-lag-1+i).toNat 0))else acc)
def a9z(lag:Int)(t:List Int)(out:List Int):Int:=A0o .i64 (c3b out lag t 0 0) 6
theorem c3c{out:List Int}{j:Int}(g:0≤j)(h:j<out.length):m0k out j=some (out.getD j.toNat 0):=by
 obtain⟨n,rfl⟩:=a01 g;simp_all[a0D]
theorem d0V{n:Nat}(h:2≤lag)(g:lag≤1024)(f:n<1000000)(hi:i<3):
  wrap .i64 (wrap .i64 (wrap .i64 ((n:Int)-lag)-1)+(i:Int))=(n:Int)-lag-1+i:=by
 grind[a0C]
theorem c7d{n:Nat}(h:j<n):(l.take n).getD j 0=l.getD j 0:=by
 simp_all
theorem a8W{l t:List Int}{lag:Int}{n:Nat}(m:n≤l.length)(j:short l)(o:t.length=3)(a:2≤lag)(b:lag≤1024):∀(k i:Nat)(acc:Int),i+k=3→
  y0s a3Z (l,(n:Int),lag,acc,t,(i:Int),())=some (c3b (l.take n) lag (t.drop i) i acc,())
 |0,i,acc,h=>by
  obtain rfl:i=t.length:=by omega
  grind[a0E,a3Z,c3b]
 |k+1,i,acc,h=>by
  have g:i<t.length:=by omega
  have f:decide ((i:Int)<3)=true:=by grind
  have p:l.length<1000000:=j;have d:(l.take n).length=n:=by simp_all
  have e:=d0V (n:=n) (i:=i) a b (by omega) (by omega);rw[a02 g,c3b,d]
  by_cases hp:0≤(n:Int)-lag-1+i
  have c:decide ((n:Int)-lag-1+i≥0)=true:=by simp_all
  simp only[hp,decide_true,cT];rw[c7d (show((n:Int)-lag-1+i).toNat<n by omega),a0F (s':=(l,(n:Int),lag,W (acc+W (t[i]*l.getD ((n:Int)-lag-1+i).toNat 0)),t,((i+1:Nat):Int),())) (by
   simp only[a3Z,f,cT,a0D g,oB,e,c,c3c hp (show(n:Int)-lag-1+(i:Int)<(l.length:Int)by omega),a0B (show i<1000000 by omega)])]
  exact a8W m j o a b k (i+1) _ (by omega);have c:decide ((n:Int)-lag-1+i≥0)=false:=by simp_all
  simp[hp];rw[a0F (s':=(l,(n:Int),lag,acc,t,((i+1:Nat):Int),())) (by
   simp only[a3Z,f,cT,a0D g,oB,e,c,cF,a0B (show i<1000000 by omega)])]
  exact a8W m j o a b k (i+1) _ (by omega)
theorem b4q{l t:List Int}{lag:Int}{n:Nat}(f:n≤l.length)(k:short l)(a:t.length=3)(h:2≤lag)(g:lag≤1024):
  a4t (l,(n:Int),lag,t)=some (a9z lag t (l.take n)):=by
 have:=a8W (t:=t) f k a h g 3 0 0 (by rfl)
 simp_all[a4t,a9z]
theorem b9B{out:List Int}(f:short out)(k:t.length=3)(h:2≤lag)(g:lag≤1024):a4t (out,(out.length:Int),lag,t)=some (a9z lag t out):=by
 simp_all[b4q]
def b4r(rest:List Int)(lag:Int)(t:List Int):Option (List Int):=bif rest.all a0A then a4g (a9z lag t) rest []else none
theorem c3d{rest:List Int}(d:b2b lag t=true)(e:t.length=3)(m:rest.length<100000):b1I (rest,lag,t)=some (a5e (b4r rest lag t)):=by
 have g:=d;simp only[b2b,bA,dT]at g;have k:short rest:=by unfold short;omega
 unfold b1I;simp only[b4X e,d,oB,bT,cF,b4o k,b4r];cases hw2:rest.all a0A with
 |false=>rfl
 |true=>
  have l:(0:Int)≤((rest.length:Nat):Int):=by omega
  simp[a0X k]
  have:=a1G (f:=a8q) rest (fun i out=>(lag,rest,(rest.length:Int),(i:Int),out,t,())) (b4p (a9z lag t) (Sum.inr ((6:Int),([]:List Int),())))
   (fun i out=>out.length=i) (fun out=>Sum.inl (out,()))
   (fun i h out j=>by
    have b:i<1000000:=by omega
    have c:short out:=by unfold short;omega
    have hp:=b9B (out:=out) (t:=t) (lag:=lag) c e g.1 g.2.1;rw[j]at hp;simp only[a8q,dlt h,cT,a0D h,oB,hp,a8e,b4p];cases hb:a0A (W (rest[i]+a9z lag t out))with
    |true=>
     simp only[cT,bT,cF,a0X (show out.length+1<1000000 by omega),a0B b];simp_all
    |false=>
     simp)
   (fun out _=>by simp[a8q]) (a:=[]) rfl
  simp[b3b]at this;rw[this];cases a4g (a9z lag t) rest []<;>rfl
def b9C{β:Type}(n:Int)(bad:β)(out:List Int)(x:Int):List Int ⊕ β:=bif a0A x&&a0A (A0n .i64 x n)then .inl (out++[A0n .i64 x n])else .inr bad
def upO(n:Int)(l:List Int):Option (List Int):=bif l.all (fun x=>a0A x&&a0A (A0n .i64 x n))then some (l.map fun x=>A0n .i64 x n)else none
theorem b8k{β:Type}(n:Int)(h:β)(g:List Int→β):∀(l out:List Int),a8d g (a2O (b9C n h) l out)=match upO n l with|some r=>g (out++r)|none=>h
 | [],out=>by simp[a2O,a8d,upO]
 |x::l,out=>by
  simp only[a2O,b9C,upO,a07];cases hx:(a0A x&&a0A (A0n .i64 x n))with
  |true=>
   simp only[cT,a39];rw[b8k n h g l _];simp only[upO];cases l.all (fun x=>a0A x&&a0A (A0n .i64 x n))with
   |true=>simp
   |false=>rfl
  |false=>rfl
theorem c3e(d:0≤n)(e:n≤30)(m:l.length<100000):a9d (l,n)=some (a5e (upO n l)):=by
 have c:short l:=by unfold short;omega
 have g:¬ n<0:=by omega
 have b:¬ n > 30:=by omega
 unfold a9d;simp[g,b]
 have:=a1G (f:=a8r) l (fun i out=>(n,l,(l.length:Int),(i:Int),out,())) (b9C n (Sum.inr ((6:Int),([]:List Int),())))
  (fun i out=>out.length=i) (fun out=>Sum.inl (out,()))
  (fun i h out j=>by
   have k:i<1000000:=by omega
   simp only[a8r,dlt h,cT,a0D h,oB,b5q,b9C,g,decide_false,cF];cases hb:a0A l[i]with
   |true=>
    cases hb2:a0A (A0n .i64 l[i] n)with
    |true=>
     simp only[cT,bT,cF,oB,g,decide_false,a0X (show out.length+1<1000000 by omega),a0B k,a03];simp_all
    |false=>
     simp
   |false=>
    simp)
  (fun out _=>by simp[a8r]) (a:=[]) rfl
 simp[b8k]at this;rw[this];cases upO n l<;>rfl
@[reducible] def Fil:Type:=Int×((List Int)×((List Int)×Unit))
def a2u(x:Int):Int:=v0s (v0r x (-1073741824)) 1073741823
def b9D(x:Int):Int:=v0s (v0r x (-1048576)) 1048576
theorem c3f(x:Int):-1048576≤b9D x∧b9D x≤1048576:=by
 grind[b9D,b3k,b7G]
def c6d:List Int→List Int→Int→Int
 |a::w,b::h,acc=>c6d w h (W (acc+W (a*b)))
 |_,_,acc=>acc
def a1k(f:Fil):Int:=a2u (A0o .i64 (c6d f.2.1 f.2.2.1 0) 16)
structure FilOk (f:Fil):Prop where
 len:f.2.1.length=f.2.2.1.length
 pos:1≤f.2.1.length
 most:f.2.1.length≤32
 rate:0≤f.1∧f.1≤8
 small:∀x∈f.2.1,-1048576≤x∧x≤1048576
theorem b8P(h:i<l.length):a87 l i 0=l[i]:=by
 simp_all
theorem b3N{f:Fil}(c:FilOk f):∀(k i:Nat)(acc:Int),i+k=f.2.1.length→
  y0s a2X (acc,(f.2.1.length:Int),(i:Int),f,())=some (c6d (f.2.1.drop i) (f.2.2.1.drop i) acc,f,())
 |0,i,acc,h=>by
  obtain rfl:i=f.2.1.length:=by omega
  rw[a50,a0E (b:=(acc,f,())) (by simp[a2X])];rfl
 |k+1,i,acc,h=>by
  have g:i<f.2.1.length:=by omega
  have a:i<f.2.2.1.length:=by rw[←c.len];omega
  have e:=c.most;rw[a02 g,a02 a,c6d];have d:decide ((0:Int)≤(i:Int))=true:=by simp
  rw[a0F (s':=(W (acc+W (f.2.1[i]*f.2.2.1[i])),(f.2.1.length:Int),((i+1:Nat):Int),f,())) (by
   simp only[a2X,dlt g,dlt a,d,cT,a03,tN,b8P g,b8P a,a0B (show i<1000000 by omega)])]
  exact b3N c k (i+1) _ (by omega)
theorem a6t{f:Fil}(h:FilOk f):a1Y f=some (a1k f,f):=by
 have:=b3N h f.2.1.length 0 0 (by omega)
 simp at this;unfold a1Y;simp only[this,oB,a5r];rfl
def b7H(x:Int):Int:=if 0<x then 1 else if x<0 then -1 else 0
def b2c(r:Int)(x g:Int):Int:=b7H (x-g)*2^r.toNat
def b5P(st:Int)(w h:Int):Int:=b9D (W (w+b7H h*st))
def b3e(f:Fil)(x:Int):Fil:=
 (f.1,a31 (b5P (b2c f.1 (a2u x) (a1k f))) f.2.1 f.2.2.1,a2u x::f.2.2.1.take (f.2.2.1.length-1),f.2.2.2)
theorem c3g{f:Fil}(k:FilOk f)(x:Int):FilOk (b3e f x):=by
 obtain⟨a,b,c,g,d⟩:=k;have e:(a31 (b5P (b2c f.1 (a2u x) (a1k f))) f.2.1 f.2.2.1).length=f.2.1.length:=by simp_all
 refine⟨?_,?_,?_,g,?_⟩;show(a31 _ _ _).length=(a2u x::f.2.2.1.take (f.2.2.1.length-1)).length;simp_all;show 1≤(a31 _ _ _).length;omega;show(a31 _ _ _).length≤32;omega;intro y h;have h:y∈a31 (b5P (b2c f.1 (a2u x) (a1k f))) f.2.1 f.2.2.1:=h;obtain⟨i,hi,rfl⟩:=List.mem_iff_getElem.1 h
 simp
 exact c3f _
theorem b4Y(x:Int):(0<x∧b7H x=1)∨(x<0∧b7H x=-1)∨(x=0∧b7H x=0):=by
 unfold b7H;omega
theorem b8Q{r:Int}(h:0≤r∧r≤8):(2:Int)^r.toNat≤256∧1≤(2:Int)^r.toNat:=by
 have:r.toNat=0∨r.toNat=1∨r.toNat=2∨r.toNat=3∨r.toNat=4∨r.toNat=5∨r.toNat=6∨r.toNat=7∨r.toNat=8:=by omega
 rcases this with e|e|e|e|e|e|e|e|e<;>rw[e]<;>decide
theorem c7e{r:Int}(h:0≤r∧r≤8)(g:-1≤x∧x≤1):A0n .i64 x r=x*2^r.toNat:=by
 have hp:=b8Q h;have hb:min r.toNat 64=r.toNat:=by omega
 unfold A0n;show wrap .i64 (x*2^(min r.toNat 64))=_;rw[hb]
 have:x=-1∨x=0∨x=1:=by omega
 rcases this with rfl|rfl|rfl
 all_goals grind[a0C]
theorem c2y{f:Fil}(a:FilOk f)(x:Int):
  (bif decide (a2u x > a1k f)then bif decide (f.1<0)then(none:Option (Int×Int×Fil×Unit))else some (a2u x,A0n .i64 (1:Int) f.1,f,())
   else bif decide (a2u x<a1k f)then bif decide (f.1<0)then none else some (a2u x,wrap .i64 (0-(A0n .i64 (1:Int) f.1)),f,())
   else some (a2u x,(0:Int),f,()))=some (a2u x,b2c f.1 (a2u x) (a1k f),f,()):=by
 have d:¬ f.1<0:=by have:=a.rate;omega
 have hp:=b8Q a.rate;have b:=c7e a.rate (x:=1) (by omega);rw[Int.one_mul]at b;rcases b4Y (a2u x-a1k f)with⟨c,h⟩|⟨c,h⟩|⟨c,h⟩;have g:a2u x > a1k f:=by omega
 simp only[g,d,decide_true,decide_false,cT,cF,b2c,h,Int.one_mul,b];have g:¬ a2u x > a1k f:=by omega
 have k:a2u x<a1k f:=by omega
 simp only[g,k,d,decide_true,decide_false,cT,cF,b2c,h,b]
 grind[a0C]
 have g:¬ a2u x > a1k f:=by omega
 have k:¬ a2u x<a1k f:=by omega
 simp only[g,k,decide_false,cF,b2c,h,Int.zero_mul]
theorem c8q{z:List Int}(hi:i<l.length)(f:z.length=l.length):(z.take i++l.drop i).set i (z[i]'(by omega))=z.take (i+1)++l.drop (i+1):=by
 have h:(z.take i).length=i:=by grind
 have g:z.take (i+1)=z.take i++[z[i]'(by omega)]:=by simp
 rw[a73 _ _ (by omega),h,a56,a02 hi,a60,g,aA];rfl
theorem c8r{z:List Int}(hi:i<l.length)(h:z.length=l.length):a87 (z.take i++l.drop i) i 0=l[i]:=by
 grind
theorem c7f{f:Fil}(g:FilOk f)(h:i<f.2.1.length):-1048576≤f.2.1[i]∧f.2.1[i]≤1048576:=g.small _ (a05 h)
theorem b9E{f:Fil}(n:FilOk f){x1 st:Int}(t:-256≤st∧st≤256):
  y0s a2t (x1,st,(f.2.2.1.length:Int),(0:Int),f,())=some (x1,(f.1,a31 (b5P st) f.2.1 f.2.2.1,f.2.2),()):=by
 obtain⟨z,v⟩:∃z,a31 (b5P st) f.2.1 f.2.2.1=z:=⟨_,rfl⟩;have p:=n.len;have d:z.length=f.2.1.length:=by grind
 have u:=n.most
 have:=a1C (f:=a2t) (fun i=>(x1,st,(f.2.2.1.length:Int),(i:Int),(f.1,z.take i++f.2.1.drop i,f.2.2),()))
  f.2.2.1.length (b:=(x1,(f.1,z,f.2.2),())) (fun i hi=>by
   have k:i<f.2.1.length:=by omega
   have j:decide ((0:Int)≤(i:Int))=true:=by simp
   have r:(z.take i++f.2.1.drop i).length=f.2.1.length:=by grind
   have g:decide ((i:Int)<((z.take i++f.2.1.drop i).length:Int))=true:=by simp_all
   have o:z[i]'(by omega)=b5P st f.2.1[i] f.2.2.1[i]:=by grind
   have s:=c7f n k;have h:=c8q k d;rw[o]at h;simp only[a2t,dlt hi,j,g,cT,a03,tN,b8P hi,c8r k d];rcases b4Y f.2.2.1[i]with⟨m,a⟩|⟨m,a⟩|⟨m,a⟩;have c:f.2.2.1[i] > 0:=m;simp[b5P,a]at h;simp only[c,decide_true,cT,oB,j,g,a03,tN,a0B (show i<1000000 by omega)];exact congrArg (fun l=>some (Sum.inl (x1,st,(f.2.2.1.length:Int),((i+1:Nat):Int),(f.1,l,f.2.2),()))) h;have c:¬ f.2.2.1[i] > 0:=by omega
   have e:f.2.1[i]+-1*st=f.2.1[i]-st:=by omega
   simp only[b5P,a,e]at h;simp only[c,m,decide_true,decide_false,cT,cF,oB,j,g,a03,tN,a0B (show i<1000000 by omega)];exact congrArg (fun l=>some (Sum.inl (x1,st,(f.2.2.1.length:Int),((i+1:Nat):Int),(f.1,l,f.2.2),()))) h;have c:¬ f.2.2.1[i] > 0:=by omega
   have q:¬ f.2.2.1[i]<0:=by omega
   have e:W (f.2.1[i]+0*st)=f.2.1[i]:=by rw[Int.zero_mul,Int.add_zero];exact a0C (by omega)
   simp only[b5P,a,e]at h;simp only[c,q,decide_false,cF,oB,j,g,cT,a03,tN,a0B (show i<1000000 by omega)];exact congrArg (fun l=>some (Sum.inl (x1,st,(f.2.2.1.length:Int),((i+1:Nat):Int),(f.1,l,f.2.2),()))) h)
  (by
   simp_all[a48,a2t])
 simp_all
theorem c4z{f:Fil}(k:FilOk f)(x g:Int):-256≤b2c f.1 x g∧b2c f.1 x g≤256:=by
 have hp:=b8Q k.rate;unfold b2c;rcases b4Y (x-g)with⟨-,h⟩|⟨-,h⟩|⟨-,h⟩<;>rw[h]<;>omega
theorem b6F{f:Fil}(h:FilOk f)(x:Int):a3a (f,x)=some (b3e f x):=by
 unfold a3a;have d:=c2y h x;simp only[a5r,oB,a6t h];have g:(bif decide (v0s (v0r x (-1073741824)) 1073741823 > a1k f)then bif decide (f.1<0)then(none:Option (Int×Int×Fil×Unit))else some (v0s (v0r x (-1073741824)) 1073741823,A0n .i64 (1:Int) f.1,f,())
   else bif decide (v0s (v0r x (-1073741824)) 1073741823<a1k f)then bif decide (f.1<0)then none else some (v0s (v0r x (-1073741824)) 1073741823,wrap .i64 (0-(A0n .i64 (1:Int) f.1)),f,())
   else some (v0s (v0r x (-1073741824)) 1073741823,(0:Int),f,()))=_:=d
 rw[g];simp only[oB,b9E h (c4z h _ _)];have i:f.2.2.1.length≥1:=by have:=h.pos;have:=h.len;omega
 have b:decide ((1:Int)≤((f.2.2.1.length:Nat):Int))=true:=by grind
 have e:p0h f.2.2.1 1 (f.2.2.1.length-1) f.2.2.1=f.2.2.1.take 1++f.2.2.1.take (f.2.2.1.length-1):=by
  simp_all[p0h]
 have j:(f.2.2.1.take 1++f.2.2.1.take (f.2.2.1.length-1)).length=f.2.2.1.length:=by simp_all
 have c:decide ((0:Int)<(((f.2.2.1.take 1++f.2.2.1.take (f.2.2.1.length-1)).length:Nat):Int))=true:=by grind
 simp only[b,cT,e,c];congr 1;have k:(f.2.2.1.take 1++f.2.2.1.take (f.2.2.1.length-1)).set 0 (a2u x)=a2u x::f.2.2.1.take (f.2.2.1.length-1):=by
  cases hc:f.2.2.1 with
  |nil=>simp_all
  |cons a l=>simp
 rw[k];rfl
@[reducible] def Stg:Type:=Int×(Int×Unit)
variable {st:List Stg}
theorem a8g{l:List Int}(h:short l):a1g l=some l:=by
 have g:lim (0+l.length)=true:=a0X (by unfold short at h;omega);simp_all[a1g,x0e]
def b1q(s:Stg):Fil:=(s.2.1,a00 s.1.toNat 0,a00 s.1.toNat 0,())
theorem c4Z{s:Stg}(h:stageB s=true):FilOk (b1q s):=by
 simp[stageB]at h;refine⟨by rfl,by simp[b1q];omega,by simp[b1q];omega,⟨h.2.2.1,h.2.2.2⟩,fun x g=>?_⟩;simp_all[b1q]
theorem b3O{s:Stg}(h:stageB s=true):a9c s=some (b1q s,0):=by
 have g:=h;simp[stageB]at g;unfold a9c;have f:decide ((0:Int)≤s.1)=true:=by grind
 have k:decide (s.1≤s.1)=true:=by simp
 have a:lim s.1.toNat=true:=a0X (by omega);simp only[b1o,h,oB,bT,cF,f,k,a,a03,cT];rfl
def stO:List Int→List Int→Fil→Option (List Int)
 | [],done,_=>some done
 |r::rs,done,f=>bif a0A (W (a1k f+r))then stO rs (done++[W (a1k f+r)]) (b3e f (W (a1k f+r)))else none
theorem b5Q:∀(l done:List Int)(f:Fil){r},stO l done f=some r→r.length=done.length+l.length
 | [],done,f,r,h=>by simp_all[stO]
 |x::l,done,f,r,h=>by
  simp[stO]at h;cases hw:a0A (W (a1k f+x))with
  |true=>rw[hw]at h;rw[b5Q l _ _ h];grind
  |false=>simp_all
theorem b4s{done:List Int}(g:done.length=i)(h:i<row.length):a87 (done++row.drop i) i 0=row[i]:=by
 grind
theorem c3h{done:List Int}(g:done.length=i)(h:i<row.length)(y:Int):(done++row.drop i).set i y=(done++[y])++row.drop (i+1):=by
 rw[a73 _ _ (by omega),g,a56,a02 h,a60,aA];rfl
theorem b4t{row b4:List Int}{b5:Int}(d:short row):∀(k i:Nat)(done:List Int)(f:Fil),i+k=row.length→done.length=i→FilOk f→
  ∃z,y0s a5s ((row.length:Int),(i:Int),b4,b5,done++row.drop i,f,())=some z∧
   match stO (row.drop i) done f with
   |some r=>z=.inl (b4,b5,r,())
   |none=>∃q,z=.inr (([]:List Int),(6:Int),q,())
 |0,i,done,f,h,hd,hf=>by
  obtain rfl:i=row.length:=by omega
  rw[a50,a40];exact⟨_,a0E (b:=Sum.inl (b4,b5,done,())) (by simp[a5s]),rfl⟩
 |k+1,i,done,f,h,hd,hf=>by
  have hi:i<row.length:=by omega
  have e:row.length<1000000:=d;have a:decide ((0:Int)≤(i:Int))=true:=by simp
  have j:(done++row.drop i).length=row.length:=by grind
  have c:decide ((i:Int)<(((done++row.drop i).length:Nat):Int))=true:=by simp_all
  have g:stO (row.drop i) done f=bif a0A (W (a1k f+row[i]))then stO (row.drop (i+1)) (done++[W (a1k f+row[i])]) (b3e f (W (a1k f+row[i])))else none:=by
   rw[a02 hi];rfl
  rw[g];cases hw:a0A (W (a1k f+row[i]))with
  |true=>
   rw[a0F (s':=((row.length:Int),((i+1:Nat):Int),b4,b5,(done++[W (a1k f+row[i])])++row.drop (i+1),b3e f (W (a1k f+row[i])),())) (by
    simp only[a5s,dlt hi,a,c,cT,a03,a6t hf,oB,tN,b4s hd hi,a5n,hw,bT,cF,b6F hf,c3h hd hi,a0B (show i<1000000 by omega)])]
   exact b4t d k (i+1) _ _ (by omega) (by simp_all) (c3g hf _)
  |false=>
   exact⟨_,a0E (b:=Sum.inr (([]:List Int),(6:Int),done++row.drop i,())) (by
    simp only[a5s,dlt hi,a,c,cT,a03,a6t hf,oB,tN,b4s hd hi,a5n,hw,a36]),_,rfl⟩
def lO:List Stg→List Int→Option (List Int)
 | [],row=>some row
 |s::r,row=>match stO row [] (b1q s)with
  |some row'=>lO r row'
  |none=>none
theorem c4A{s:Stg}{b4:List Int}(h:stageB s=true)(b:short row):
  ∃z,a7G k s (st,b4,(0:Int),row,())=some z∧match stO row [] (b1q s)with
   |some r=>z=.inl (st,b4,(0:Int),r,())
   |none=>∃q,z=.inr (.ret,st,([]:List Int),(6:Int),q,()):=by
 obtain⟨z,g,f⟩:=b4t (b4:=b4) (b5:=0) b row.length 0 [] (b1q s) (by omega) rfl (c4Z h);simp at g f;unfold a7G;have a:((0:Int) != 0)=false:=rfl;simp[b3O h,g];cases hst:stO row [] (b1q s)with
 |some r=>
  simp_all
 |none=>
  grind
theorem b8l{st l:List Stg}{b4:List Int}(f:∀s∈l,stageB s=true):∀(n:Nat)(row:List Int),n≤l.length→short row→
  ∃z,l0f a7G l n (st,b4,(0:Int),row,())=some z∧match lO (l.take n).reverse row with
   |some r=>z=.inl (st,b4,(0:Int),r,())
   |none=>∃q,z=.inr (.ret,st,([]:List Int),(6:Int),q,())
 |0,row,_,_=>⟨_,rfl,rfl⟩
 |n+1,row,hn,hs=>by
  have h:n<l.length:=by omega
  obtain⟨z,a,g⟩:=c4A (st:=st) (k:=(n:Int)) (b4:=b4) (f _ (a05 h)) hs;have b:(l.take (n+1)).reverse=l[n]::(l.take n).reverse:=by simp
  simp[l0f,lG h,a,b,lO];cases hst:stO row [] (b1q l[n])with
  |some r=>
   rw[hst]at g;simp at g;subst g;exact b8l f n r (by omega) (by have:=b5Q _ _ _ hst;unfold short at hs⊢;simp_all)
  |none=>
   grind
def b2p(rest:List Int)(st:List Stg):Option (List Int):=bif rest.all a0A then lO st.reverse rest else none
theorem c2z{rest:List Int}(a:a9l st=true)(c:rest.length<100000):b0B (rest,st)=some (a5e (b2p rest st)):=by
 have f:=a;simp only[a9l,bA,dT]at f;have k:short st:=by unfold short;omega
 have h:short rest:=by unfold short;omega
 unfold b0B;simp only[b3L k,a,oB,bT,cF,b3K h,b2p];cases hw:rest.all a0A with
 |false=>rfl
 |true=>
  obtain⟨z,b,g⟩:=b8l (st:=st) (b4:=[]) (lA.1 f.2) st.length rest (a27 _) h;rw[a19]at g;simp[a8g h,a0X k,b];cases hst:lO st.reverse rest with
  |some r=>
   rw[hst]at g;simp at g;subst g;rfl
  |none=>
   rw[hst]at g;obtain⟨q,rfl⟩:=g;rfl
def a6u(n warm:Int):Bool:=decide (1≤n)&&(decide (n≤4096)&&(decide (0≤warm)&&decide (warm≤n)))
theorem b3P(n warm:Int):a7t (n,warm)=some (a6u n warm):=by
 grind[a7t,a6u]
theorem d2j(h:o≤8):1≤2^o∧2^o≤256:=by
 have:o=0∨o=1∨o=2∨o=3∨o=4∨o=5∨o=6∨o=7∨o=8:=by omega
 grind
theorem c3i(h:o≤64):A0o .i64 (N:Int) (o:Int)=((N / 2^o:Nat):Int):=by
 unfold A0o;show a80 (N:Int) (2^(min (o:Int).toNat 64))=_
 grind
theorem b8R(h:o≤64)(g:N*2^o<9223372036854775808):A0n .i64 (N:Int) (o:Int)=((N*2^o:Nat):Int):=by
 unfold A0n;show wrap .i64 ((N:Int)*2^(min (o:Int).toNat 64))=_
 grind[a0C]
def b5s(o N:Nat)(warm:Int):List Int:=
 if N%2^o=0∧warm≤((N / 2^o:Nat):Int)then(((N / 2^o:Nat):Int)-warm)::a00 (2^o-1) ((N / 2^o:Nat):Int)else[]
def a1J(order n warm:Int):List Int:=bif a6u n warm&&(decide (0≤order)&&decide (order≤8))then b5s order.toNat n.toNat warm else[]
theorem a2b(order n warm:Int):a2U (order,n,warm)=some (a1J order n warm):=by
 unfold a2U a1J;simp only[b3P,oB];cases hr:a6u n warm with
 |false=>rfl
 |true=>
  simp[a6u]at hr;simp only[bT,cF,a39]
  by_cases h1:order<0
  grind
  by_cases h2:order > 8
  grind
  obtain⟨o,rfl⟩:=a01 (show 0≤order by omega);obtain⟨N,rfl⟩:=a01 (show 0≤n by omega);have p:o≤8:=by omega
  have q:N≤4096:=by omega
  have hp:=d2j p;have m:N / 2^o*2^o≤N:=a78 N _;have l:(0:Int)≤(o:Int):=by omega
  have g8:(o:Int)≤8:=by omega
  simp only[h1,h2,l,g8,decide_true,decide_false,cF,cT,a03,oB,c3i (N:=N) (show o≤64 by omega),b8R (N:=N / 2^o) (show o≤64 by omega) (by omega),tN];have g:=a70 N (2^o);rw[a57]at g
  by_cases hm:N%2^o=0
  have k:(((N / 2^o*2^o:Nat):Int) != (N:Int))=false:=by simp_all
  by_cases hw:warm≤((N / 2^o:Nat):Int)
  have c:decide (((N / 2^o:Nat):Int)<warm)=false:=decide_eq_false (Int.not_lt.2 hw);have e:wrap .i64 (((N / 2^o:Nat):Int)-warm)=((N / 2^o:Nat):Int)-warm:=a0C (by have:=a32 N (2^o);omega);simp only[k,c,e,cF,oB,b5s,hm,hw,and_self,if_true];have d:A0n .i64 (1:Int) (o:Int)=((2^o:Nat):Int):=by have:=b8R (N:=1) (show o≤64 by omega) (by omega);simp_all
  have:=a1C (f:=a6F) (fun i=>((o:Int),((N / 2^o:Nat):Int),(((N / 2^o:Nat):Int)-warm)::a00 i ((N / 2^o:Nat):Int),())) (2^o-1)
   (b:=((((N / 2^o:Nat):Int)-warm)::a00 (2^o-1) ((N / 2^o:Nat):Int),())) (fun i hi=>by
    have a:decide ((((((N / 2^o:Nat):Int)-warm)::a00 i ((N / 2^o:Nat):Int)).length:Int)<((2^o:Nat):Int))=true:=by
     grind
    have h:lim (((((N / 2^o:Nat):Int)-warm)::a00 i ((N / 2^o:Nat):Int)).length+1)=true:=a0X (by grind);have j:a00 i ((N / 2^o:Nat):Int)++[((N / 2^o:Nat):Int)]=a00 (i+1) ((N / 2^o:Nat):Int):=by grind[a53]
    simp only[a6F,h1,decide_false,cF,d,a,cT,h,a06,a65,j])
   (by
    have a:decide ((((((N / 2^o:Nat):Int)-warm)::a00 (2^o-1) ((N / 2^o:Nat):Int)).length:Int)<((2^o:Nat):Int))=false:=by
     simp_all
    simp only[a6F,h1,decide_false,cF,d,a])
  simp_all;have c:decide (((N / 2^o:Nat):Int)<warm)=true:=decide_eq_true (Int.not_le.1 hw);simp_all[b5s];have k:(((N / 2^o*2^o:Nat):Int) != (N:Int))=true:=by grind
  simp only[k,cT,oB,b5s,hm,false_and,if_false]
@[reducible] def Prt:Type:=Int×((List Int)×Unit)
variable {p:Prt}
def kB(k:Int):Bool:=(decide (0≤k)&&decide (k≤25)) || (k==31)
def a5H(p:Prt)(n warm:Int):Bool:=!((a1J p.1 n warm).length==0)&&((a1J p.1 n warm).length==p.2.1.length&&p.2.1.all kB)
theorem b3Q(g:short p.2.1):a9b (p,n,warm)=some (a5H p n warm):=by
 have:=a1S (f:=a4r) p.2.1 (fun i=>(p.2.1,(p.2.1.length:Int),(i:Int),())) kB (bt:=Sum.inl ()) (bf:=Sum.inr (false,()))
  (fun i h hp=>by
   simp[kB]at hp
   by_cases h1:p.2.1[i]<0
   omega
   by_cases h2:p.2.1[i] > 25
   have b:p.2.1[i]=31:=by omega
   have a:(p.2.1[i] != 31)=false:=by simp_all
   simp[a4r,a0D h,h,h1,h2,a,a0B (a18 h g)];simp[a4r,a0D h,h,h1,h2,a0B (a18 h g)])
  (fun i h hp=>by
   have hp:¬ (kB p.2.1[i]=true):=by simp_all
   simp only[kB,a99,bA,dT,beq_iff_eq]at hp
   grind[a4r,a0D])
  (by simp[a4r])
 simp at this;unfold a9b a5H;simp[a2b]
 by_cases h0:(a1J p.1 n warm).length=0
 simp_all
 ·have e:((((a1J p.1 n warm).length:Nat):Int)==0)=false:=by simp_all
  have k:((a1J p.1 n warm).length==0)=false:=by simp_all
  simp[e,k]
  by_cases h1:(a1J p.1 n warm).length=p.2.1.length
  all_goals grind
@[reducible] def Sub:Type:=Int×(Int×(Int×(Int×(Int×((List Int)×((List Int)×((List Stg)×((List Int)×(Prt×((List Int)×Unit))))))))))
variable {s:Sub}
structure SmallS (s:Sub):Prop where
 coefs:s.2.2.2.2.2.1.length≤40
 taps:s.2.2.2.2.2.2.1.length=3
 stages:s.2.2.2.2.2.2.2.1.length≤6
 warm:s.2.2.2.2.2.2.2.2.1.length≤5000
 rest:s.2.2.2.2.2.2.2.2.2.2.1.length≤5000
 ks:s.2.2.2.2.2.2.2.2.2.1.2.1.length≤300
theorem b3R(x y:List Int):eqT (.arr 3 (.int .i64)) x y=decide (x=y):=by
 show((a31 (fun(a b:Int)=>a==b) x y).all id&&x.length==y.length)=_
 induction x generalizing y with
 |nil=>cases y<;>simp
 |cons a x ih=>
  cases y with
  |nil=>simp
  |cons b y=>
   grind[List.zipWith_cons_cons]
theorem b3f{l:List Int}(h:short l):a2w l=some l:=a8g h
theorem b8m{l:List Stg}(h:short l):a1o l=some l:=by
 have g:lim (0+l.length)=true:=a0X (by unfold short at h;omega);simp_all[a1o,x0e]
def a3V(k:Int)(s:Sub)(n:Int):Prop:=
 k=0∨k=1∨(k=2∧0≤s.2.2.1∧s.2.2.1≤4∧s.2.2.1≤n)∨(k=3∧a9I s.2.2.2.2.2.1 s.2.2.2.1=true∧(s.2.2.2.2.2.1.length:Int)≤n)∨
  (k=4∧a9I s.2.2.2.2.2.1 s.2.2.2.1=true∧(s.2.2.2.2.2.1.length:Int)≤n∧b2b s.2.2.2.2.1 s.2.2.2.2.2.2.1=true)∨
  (k=5∧0<s.2.2.2.2.2.2.2.1.length∧a9l s.2.2.2.2.2.2.2.1=true)
open Classical in
def b3S (k:Int) (s:Sub) (n:Int):Bool:=decide (a3V k s n)
theorem b5t{s:Sub}(h:SmallS s)(k n:Int):a7R (k,s,n)=some (b3S k s n):=by
 have a:short s.2.2.2.2.2.1:=by have:=h.coefs;unfold short;omega
 have b:short s.2.2.2.2.2.2.2.1:=by have:=h.stages;unfold short;omega
 unfold a7R b3S a3V
 by_cases k0:k=0
 simp_all
 by_cases k1:k=1
 simp_all;have g:(k==0)=false:=by grind
 have f:(k==1)=false:=by grind
 simp only[g,f,cF,oB]
 by_cases k2:k=2
 subst k2
 grind
 by_cases k3:k=3
 subst k3
 grind[a9y]
 by_cases k4:k=4
 subst k4;cases hl:a9I s.2.2.2.2.2.1 s.2.2.2.1<;>by_cases h2:(s.2.2.2.2.2.1.length:Int)≤n<;>simp[a9y a,b4X h.taps,hl,h2]
 by_cases k5:k=5
 ·subst k5
  by_cases h1:0<s.2.2.2.2.2.2.2.1.length
  all_goals simp_all[b3L]
 grind
def a2o(s:Sub)(n:Int):Int:=if s.1=0 then 1 else if s.1=1 then n else if s.1=2 then s.2.2.1 else if s.1=3∨s.1=4 then(s.2.2.2.2.2.1.length:Int)else 0
theorem b2q(s:Sub)(n:Int):a4B (s,n)=some (a2o s n):=by
 grind[a4B,a2o]
def b5u(s:Sub):Prop:=
 (s.1≠2→s.2.2.1=0)∧(s.1≠3∧s.1≠4→s.2.2.2.1=0)∧(s.1≠4→s.2.2.2.2.1=0)∧(s.1≠4→s.2.2.2.2.2.2.1=[0,0,0])∧(s.1≠3∧s.1≠4→s.2.2.2.2.2.1=[])∧(s.1≠5→s.2.2.2.2.2.2.2.1=[])
open Classical in
def b5v (s:Sub):Bool:=decide (b5u s)
theorem b1r{c x:Bool}:(bif c then some x else some false)=some (c&&x):=by grind
theorem d2k{α:Type}(l:List α):(((l.length:Nat):Int)==0)=decide (l=[]):=by
 cases l with
 |nil=>rfl
 |cons a l=>rfl
theorem c1k(x:Int):(x==0)=decide (x=0):=rfl
theorem c3j{s:Sub}(h:SmallS s):b1F s=some (b5v s):=by
 have e:short s.2.2.2.2.2.1:=by have:=h.coefs;unfold short;omega
 have g:short s.2.2.2.2.2.2.2.1:=by have:=h.stages;unfold short;omega
 obtain⟨k,w,o,sh,lag,c,t,st,j,p,r,u⟩:=s;simp only at e g;unfold b1F a6g b5v b5u;have i:(a00 3 (0:Int))=[0,0,0]:=rfl
 by_cases k2:k=2
 simp_all[b3R,b1r,c1k]
 by_cases k4:k=4
 simp_all[b3R,b1r,c1k,b3f]
 by_cases k3:k=3
 simp_all[b3R,b1r,c1k,b3f]
 by_cases k5:k=5
 simp_all[b3R,b1r,c1k,b8m];have f:(k==2)=false:=by grind
 have a:(k==3)=false:=by grind
 have b:(k==4)=false:=by grind
 have d:(k==5)=false:=by grind
 simp[f,a,b,d,k2,k3,k4,k5,b3R,i,b1r,d2k,c1k]
theorem a6B(k:Int):a6e k=some (decide (k≠0∧k≠1)):=by
 unfold a6e
 by_cases h0:k=0
 simp_all
 ·by_cases h1:k=1
  all_goals grind
def a1u(s:Sub)(n:Int):Prop:=
 1≤n∧n≤4096∧a3V s.1 s n∧b5u s∧0≤s.2.1∧s.2.1≤30∧(s.1=0→s.2.1=0)∧(s.2.2.2.2.2.2.2.2.1.length:Int)=a2o s n∧s.2.2.2.2.2.2.2.2.1.all a0A=true∧s.2.2.2.2.2.2.2.2.2.2.1.all a0A=true∧
  (s.1=0∨s.1=1→s.2.2.2.2.2.2.2.2.2.2.1=[]∧s.2.2.2.2.2.2.2.2.2.1.1=0∧s.2.2.2.2.2.2.2.2.2.1.2.1=[])∧
  (s.1≠0∧s.1≠1→(s.2.2.2.2.2.2.2.2.2.2.1.length:Int)=n-a2o s n∧a5H s.2.2.2.2.2.2.2.2.2.1 n (a2o s n)=true)
theorem c4B(h:SmallS s)(a:1≤n)(b:n≤4096)(f:a3V s.1 s n):0≤a2o s n∧a2o s n≤4096:=by
 have c:=h.coefs;unfold a2o;rcases f with k|k|⟨k,g⟩|⟨k,g⟩|⟨k,g⟩|⟨k,g⟩<;>simp[k]<;>omega
open Classical in
theorem c7g {s:Sub} (h:SmallS s) (n:Int):a9W (s,n)=some (decide (a1u s n)):=by
 have hw:short s.2.2.2.2.2.2.2.2.1:=by have:=h.warm;unfold short;omega
 have hr:short s.2.2.2.2.2.2.2.2.2.2.1:=by have:=h.rest;unfold short;omega
 have hk:short s.2.2.2.2.2.2.2.2.2.1.2.1:=by have:=h.ks;unfold short;omega
 unfold a9W
 by_cases h1:1≤n
 rotate_left
 ·have e1:decide (n<1)=true:=by simp_all
  have:¬ a1u s n:=fun hp=>h1 hp.1
  simp_all
 have e1:decide (n<1)=false:=by simp_all
 by_cases h2:n≤4096
 rotate_left
 ·have e2:decide (n > 4096)=true:=by simp_all
  have:¬ a1u s n:=fun hp=>h2 hp.2.1
  simp_all
 have e2:decide (n > 4096)=false:=by simp_all
 by_cases h3:a3V s.1 s n
 rotate_left
 ·have e3:b3S s.1 s n=false:=by simp[b3S,h3]
  have:¬ a1u s n:=fun hp=>h3 hp.2.2.1
  simp_all[b5t]
 have e3:b3S s.1 s n=true:=by simp[b3S,h3]
 by_cases h4:b5u s
 rotate_left
 ·have e4:b5v s=false:=by simp[b5v,h4]
  have:¬ a1u s n:=fun hp=>h4 hp.2.2.2.1
  simp_all[b5t,c3j]
 have e4:b5v s=true:=by simp[b5v,h4]
 simp only[e1,e2,b5t h,e3,c3j h,e4,cF,bT,oB]
 by_cases h5:0≤s.2.1
 rotate_left
 ·have e5:decide (s.2.1<0)=true:=by simp_all
  have:¬ a1u s n:=fun hp=>h5 hp.2.2.2.2.1
  simp_all
 have e5:decide (s.2.1<0)=false:=by simp_all
 by_cases h6:s.2.1≤30
 rotate_left
 ·have e6:decide (s.2.1 > 30)=true:=by simp_all
  have:¬ a1u s n:=fun hp=>h6 hp.2.2.2.2.2.1
  simp_all
 have e6:decide (s.2.1 > 30)=false:=by simp_all
 simp only[e5,e6,cF]
 by_cases h7:s.1=0→s.2.1=0
 rotate_left
 ·have h7a:s.1=0:=Classical.byContradiction fun hc=>h7 fun e=>absurd e hc
  have h7b:(s.2.1 != 0)=true:=by
   simp_all
  have e7:(s.1==0)=true:=by simp_all
  have:¬ a1u s n:=fun hp=>h7 hp.2.2.2.2.2.2.1
  grind
 have e7:(bif s.1==0 then some (n,(s.2.1 != 0,(s,())))else some (n,(false,(s,()))))=some (n,(false,(s,()))):=by
  grind
 simp only[e7,oB,cF,b2q]
 by_cases h8:(s.2.2.2.2.2.2.2.2.1.length:Int)=a2o s n
 rotate_left
 ·have e8:(((s.2.2.2.2.2.2.2.2.1.length:Nat):Int) != a2o s n)=true:=by simp_all
  have:¬ a1u s n:=fun hp=>h8 hp.2.2.2.2.2.2.2.1
  grind
 have e8:(((s.2.2.2.2.2.2.2.2.1.length:Nat):Int) != a2o s n)=false:=by simp_all
 simp only[e8,cF,a4y hw,a4y hr,oB]
 cases h9:s.2.2.2.2.2.2.2.2.1.all a0A with
 |false=>
  have:¬ a1u s n:=fun hp=>by rw[hp.2.2.2.2.2.2.2.2.1]at h9;grind
  simp_all
 |true=>
  cases h10:s.2.2.2.2.2.2.2.2.2.2.1.all a0A with
  |false=>
   have:¬ a1u s n:=fun hp=>by rw[hp.2.2.2.2.2.2.2.2.2.1]at h10;grind
   simp_all
  |true=>
   simp only[bT,cF,oB,a6B]
   have hwr:=c4B h h1 h2 h3
   by_cases k01:s.1≠0∧s.1≠1
   ·have e11:wrap .i64 (n-a2o s n)=n-a2o s n:=a0C (by omega)
    simp[k01,e11,b3Q hk]
    by_cases h11:(s.2.2.2.2.2.2.2.2.2.2.1.length:Int)=n-a2o s n
    ·have e12:(((s.2.2.2.2.2.2.2.2.2.2.1.length:Nat):Int)==n-a2o s n)=true:=by simp_all
     simp only[e12,cT]
     congr 1
     rw[b00,dT]
     constructor
     ·intro hp
      exact⟨h1,h2,h3,h4,h5,h6,h7,h8,h9,h10,fun hc=>absurd hc (by omega),fun _=>⟨h11,hp⟩⟩
     ·intro hp;exact(hp.2.2.2.2.2.2.2.2.2.2.2 k01).2
    ·have e12:(((s.2.2.2.2.2.2.2.2.2.2.1.length:Nat):Int)==n-a2o s n)=false:=by simp_all
     have:¬ a1u s n:=fun hp=>h11 (hp.2.2.2.2.2.2.2.2.2.2.2 k01).1
     grind
   ·have k01':s.1=0∨s.1=1:=by omega
    simp[k01,d2k]
    simp only[c1k,b1r]
    congr 1
    rw[b00,dT]
    simp
    constructor
    ·rintro⟨g1,g2,g3⟩
     exact⟨h1,h2,h3,h4,h5,h6,h7,h8,h9,h10,fun _=>⟨g1,g2,g3⟩,fun hc=>absurd hc k01⟩
    ·intro hp;exact hp.2.2.2.2.2.2.2.2.2.2.1 k01'
theorem b9F{α:Type}[DecidableEq α](q:α→α→Bool)(g:∀a b,q a b=decide (a=b)):∀(x y:List α),x.length=y.length→((x.zip y).all fun p=>q p.1 p.2)=decide (x=y)
 | [],[],_=>by simp
 |a::x,b::y,h=>by
  have f:=b9F q g x y (by simp_all);simp_all
theorem c4C{x y:List Int}(h:short x):a5l (x,y)=some (decide (x=y)):=by
 unfold a5l
 by_cases hl:x.length=y.length
 have e:(((x.length:Nat):Int) != ((y.length:Nat):Int))=false:=by simp_all
 have j:(x.zip y).length=x.length:=by simp_all
 have:=a1S (f:=a4G) (x.zip y) (fun i=>(x,y,(i:Int),())) (fun p=>p.1==p.2) (bt:=Sum.inl ()) (bf:=Sum.inr (false,()))
  (fun i hi hp=>by
   have k:i<x.length:=by omega
   have c:i<y.length:=by omega
   rw[a91]at hp;have hp:x[i]=y[i]:=by simp_all
   have g:(x[i] != y[i])=false:=by simp_all
   simp only[a4G,dlt k,cT,a0D k,a0D c,oB,g,cF,a0B (a18 k h)])
  (fun i hi hp=>by
   have k:i<x.length:=by omega
   have c:i<y.length:=by omega
   rw[a91]at hp;have g:(x[i] != y[i])=true:=by simp_all
   simp only[a4G,dlt k,cT,a0D k,a0D c,oB,g])
  (by simp_all[a4G])
 simp at this;simp only[e,cF,this,b9F (fun(a b:Int)=>a==b) (fun _ _=>rfl) x y hl]
 grind
 have e:(((x.length:Nat):Int) != ((y.length:Nat):Int))=true:=by grind
 have:¬ x=y:=fun d=>hl (by grind)
 grind
theorem c7h(h:a3V k s n):k=0∨k=1∨k=2∨k=3∨k=4∨k=5:=by
 unfold a3V at h;omega
def b8S(warm rest:List Int)(o:Int):Option (List Int):=bif warm.all a0A&&rest.all a0A then a4g (a6s o.toNat) rest warm else none
def backP(s:Sub):Option (List Int):=
 if s.1=1 then some s.2.2.2.2.2.2.2.2.1
 else if s.1=2 then b8S s.2.2.2.2.2.2.2.2.1 s.2.2.2.2.2.2.2.2.2.2.1 s.2.2.1
 else if s.1=3 then b3M s.2.2.2.2.2.2.2.2.1 s.2.2.2.2.2.2.2.2.2.2.1 s.2.2.2.2.2.1 s.2.2.2.1
 else if s.1=4 then(b3M s.2.2.2.2.2.2.2.2.1 s.2.2.2.2.2.2.2.2.2.2.1 s.2.2.2.2.2.1 s.2.2.2.1).bind fun l=>b4r l s.2.2.2.2.1 s.2.2.2.2.2.2.1
 else b2p s.2.2.2.2.2.2.2.2.2.2.1 s.2.2.2.2.2.2.2.1
def c3k(s:Sub)(n:Int):Option (List Int):=
 if s.1=0 then some (a00 n.toNat (s.2.2.2.2.2.2.2.2.1.getD 0 0))else(backP s).bind (upO s.2.1)
theorem b4Z{w r c:List Int}{s:Int}{l}(h:b3M w r c s=some l):l.length=w.length+r.length:=by
 unfold b3M at h;cases hc:(w.all a0A&&r.all a0A)with
 |false=>simp_all
 |true=>
  rw[hc]at h;exact(b3c _ r w l (a76.1 hc).1 h).2
theorem c4D{w r:List Int}{o:Int}{l}(h:b8S w r o=some l):l.length=w.length+r.length:=by
 unfold b8S at h;cases hc:(w.all a0A&&r.all a0A)with
 |false=>simp_all
 |true=>
  rw[hc]at h;exact(b3c _ r w l (a76.1 hc).1 h).2
theorem c3l{l}(h:b4r r lag t=some l):l.length=r.length:=by
 unfold b4r at h;cases hc:r.all a0A with
 |false=>simp_all
 |true=>
  rw[hc]at h
  have:=(b3c _ r [] l rfl h).2
  simp_all
theorem c1J:∀(st:List Stg)(r:List Int){l},lO st r=some l→l.length=r.length
 | [],r,l,h=>by simp_all[lO]
 |s::st,r,l,h=>by
  simp only[lO]at h
  split at h
  rename_i f g;rw[c1J st f h,b5Q _ _ _ g];simp;cases h
theorem c2A{r:List Int}{st:List Stg}{l}(h:b2p r st=some l):l.length=r.length:=by
 grind[b2p,c1J]
theorem c3m(h:SmallS s){l}(g:backP s=some l):l.length<100000:=by
 have b:=h.warm;have a:=h.rest;unfold backP at g
 split at g
 grind
 split at g
 grind[c4D]
 split at g
 grind[b4Z]
 split at g
 obtain⟨l1,f,k⟩:=a44.1 g;rw[c3l k,b4Z f];omega
 grind[c2A]
theorem c7i(a:1≤n)(c:n≤4096)(d:s.2.2.2.2.2.2.2.2.1.length=1):
  y0s a7d (n,(0:Int),([]:List Int),s,())=some (a00 n.toNat (s.2.2.2.2.2.2.2.2.1.getD 0 0),()):=by
 obtain⟨N,rfl⟩:=a01 (show 0≤n by omega);have k:m0k s.2.2.2.2.2.2.2.2.1 (0:Int)=some (s.2.2.2.2.2.2.2.2.1.getD 0 0):=c3c (by omega) (by omega)
 have:=a1C (f:=a7d) (fun i=>((N:Int),(i:Int),a00 i (s.2.2.2.2.2.2.2.2.1.getD 0 0),s,())) N
  (b:=(a00 N (s.2.2.2.2.2.2.2.2.1.getD 0 0),())) (fun i hi=>by
   have h:lim ((a00 i (s.2.2.2.2.2.2.2.2.1.getD 0 0)).length+1)=true:=a0X (by grind);have g:a00 i (s.2.2.2.2.2.2.2.2.1.getD 0 0)++[s.2.2.2.2.2.2.2.2.1.getD 0 0]=a00 (i+1) (s.2.2.2.2.2.2.2.2.1.getD 0 0):=by grind[a53]
   simp only[a7d,dlt hi,cT,k,oB,h,a06,g,a0B (show i<1000000 by omega)])
  (by simp[a7d])
 simp_all
theorem c4E(h:SmallS s)(hp:a1u s n):b2S (s,n)=some (a5e (c3k s n)):=by
 have a:=fun l (d:backP s=some l)=>c3m h d;obtain⟨z,A,C,-,x,v,-,g,K,I,-⟩:=hp;have F:=h.rest;have G:=h.warm;have H:=h.taps;have D:=c7i (s:=s) z A;obtain⟨k,w,o,sh,lag,c,t,st,f,p,r,u⟩:=s;simp only at *;have L:∀l,l.length<100000→a9d (l,w)=some (a5e (upO w l)):=fun l d=>c3e x v d;unfold b2S c3k;rcases C with b|b|⟨b,j,m,y⟩|⟨b,j,m⟩|⟨b,j,m,y⟩|⟨b,j,m⟩
 grind[a2o,a5e]
 simp_all[backP]
 ·subst b;obtain⟨O,rfl⟩:=a01 j;have m:(O:Int)≤4:=m;simp only[a2o]at g;have q:f.length=O:=by grind
  have i:=c2x (warm:=f) (rest:=r) (o:=O) (by omega) q (by omega);simp only[backP]at a⊢;simp[i];have e:(bif f.all a0A&&r.all a0A then a4g (a6s O) r f else none)=b8S f r (O:Int):=rfl;rw[e];cases d:b8S f r (O:Int)with
  |none=>rfl
  |some l=>simp_all[a5e]
 ·subst b;simp only[a2o]at g;have q:f.length=c.length:=by grind
  have i:=b5r (rest:=r) j q (by omega);simp only[backP]at a⊢;simp[i];cases d:b3M f r c sh with
  |none=>rfl
  |some l=>simp_all[a5e]
 ·subst b;simp only[a2o]at g;have q:f.length=c.length:=by grind
  have i:=b5r (rest:=r) j q (by omega);simp only[backP]at a⊢;simp[i];cases d:b3M f r c sh with
  |none=>rfl
  |some l=>
   have E:=b4Z d;have B:=c3d (rest:=l) y H (by omega);simp[a5e,B]
   grind[a5e]
 ·subst b;have i:=c2z (rest:=r) m (by omega);simp only[backP]at a⊢;simp[i];cases d:b2p r st with
  |none=>rfl
  |some l=>simp_all[a5e]
open Classical in
def a2l (s:Sub) (n:Int):Option (List Int):=if a1u s n then c3k s n else none
theorem b9G(h:SmallS s)(n:Int):b2j (s,n)=some (match a2l s n with|some r=>(r,0)|none=>([],1)):=by
 unfold b2j a2l;simp only[c7g h,oB]
 by_cases hp:a1u s n
 simp[hp,c4E h hp]
 grind[a5e]
 simp_all
theorem b9H(h:SmallS s)(n:Int):a9M (s,n)=some (a2l s n).isSome:=by
 unfold a9M;simp only[b9G h,oB];cases a2l s n<;>rfl
@[reducible] def Wr:Type:=(List Int)×(Int×Unit)
def c1l(w:Wr)(b:Int):Wr:=
 let bs:=if w.2.1%8=0 then w.1++[0]else w.1
 (bs.set (w.2.1 / 8).toNat (bits .u8 .or (bs.getD (w.2.1 / 8).toNat 0) (A0n .u8 b (7-w.2.1%8))),w.2.1+1,())
def wL(L:List Int):Wr:=L.foldl c1l ([],0,())
theorem c1m(L:List Int)(b:Int):wL (L++[b])=c1l (wL L) b:=by simp[wL]
theorem b9I:∀(n:Nat)(L:List Int),L.length=n→(wL L).2.1=L.length∧(wL L).1.length=(L.length+7) / 8
 |0,L,h=>by
  rw[a45.1 h];exact⟨rfl,rfl⟩
 |n+1,L,h=>by
  obtain⟨g,b,rfl⟩:∃g b,L=g++[b]:=by
   rcases a51 L with rfl|⟨g,b,e⟩
   all_goals simp_all
  obtain⟨f,k⟩:=b9I n g (by simp_all);rw[c1m];simp only[c1l,List.length_set,lN,a74,f]
  grind
theorem a5Q(L:List Int):(wL L).2.1=L.length∧(wL L).1.length=(L.length+7) / 8:=b9I _ L rfl
theorem b9J{L:List Int}(l:L.length<1000000000)(b:Int):a2f (wL L,b)=some (wL (L++[b])):=by
 obtain⟨g,k⟩:=a5Q L;have p:a26 ((L.length:Nat):Int) 8=((L.length:Nat):Int)%8:=a43 (by omega);have m:a54 ((L.length:Nat):Int) 8=((L.length:Nat):Int) / 8:=a61 (by omega);have c:wrap .i64 (((L.length:Nat):Int) / 8)=((L.length:Nat):Int) / 8:=a0C (by omega);have d:wrap .i64 (7-((L.length:Nat):Int)%8)=7-((L.length:Nat):Int)%8:=a0C (by omega);have e:wrap .i64 (((L.length:Nat):Int)+1)=((L.length:Nat):Int)+1:=a0C (by omega);have i:decide ((0:Int)≤((L.length:Nat):Int) / 8)=true:=by rfl
 have j:decide (7-((L.length:Nat):Int)%8<0)=false:=by grind
 rw[c1m];generalize wL L=wr at g k⊢;obtain⟨f,n,u⟩:=wr;have g:n=((L.length:Nat):Int):=g;have k:f.length=(L.length+7) / 8:=k;subst g;unfold a2f c1l
 by_cases h:((L.length:Nat):Int)%8=0
 have hb:(((L.length:Nat):Int)%8==0)=true:=by grind
 have o:lim (f.length+1)=true:=a0W (by omega);have a:decide (((L.length:Nat):Int) / 8<(((f++[0]).length:Nat):Int))=true:=by grind
 simp_all
 grind
def a6T(v:Int)(i:Nat):Int:=wrap .u8 (bits .u64 .and (A0o .u64 v (i:Int)) 1)
def pb(v:Int):Nat→List Int
 |0=>[]
 |i+1=>a6T v i::pb v i
theorem b4u(v:Int):∀n,(pb v n).length=n
 |0=>rfl
 |n+1=>by simp[pb,b4u v n]
def a0Q(v:Int)(n:Nat)(L:List Int):List Int:=bif A0o .u64 v (n:Int) != 0 then L else L++pb v n
theorem a0Y(v:Int)(n:Nat)(L:List Int):L.length≤(a0Q v n L).length∧(a0Q v n L).length≤L.length+n:=by
 grind[a0Q,b4u]
def a8h(v:Int)(n:Nat):Int:=bif A0o .u64 v (n:Int) != 0 then 1 else 0
theorem c3n{v:Int}:∀(n:Nat)(L:List Int),L.length+n<1000000000→y0s a4d (v,(n:Int)-1,wL L,())=some (wL (L++pb v n),())
 |0,L,_=>by simp_all[a0E,a4d,pb]
 |n+1,L,h=>by
  have e:((n+1:Nat):Int)-1=(n:Int):=by omega
  have g:wrap .i64 ((n:Int)-1)=(n:Int)-1:=a0C (by omega);have f:decide ((n:Int)≥0)=true:=by simp
  have k:decide ((n:Int)<0)=false:=by simp
  rw[e,a0F (s':=(v,(n:Int)-1,wL (L++[a6T v n]),())) (by
   simp only[a4d,f,k,cT,cF,show wrap .u8 (bits .u64 .and (A0o .u64 v (n:Int)) 1)=a6T v n from rfl,b9J (show L.length<1000000000 by omega),oB,g])]
  rw[c3n n (L++[a6T v n]) (by simp;omega),pb]
  simp
theorem a3e{v:Int}{n:Nat}(a:n≤63)(k:L.length<999999000):a0G (wL L,v,(n:Int))=some (a8h v n,wL (a0Q v n L)):=by
 unfold a0G a8h a0Q;have g:decide ((n:Int)<0)=false:=by simp
 have f:decide ((n:Int) > 64)=false:=by grind
 have h:wrap .i64 ((n:Int)-1)=(n:Int)-1:=a0C (by omega);simp[g,f];cases (A0o .u64 v (n:Int) != 0)with
 |true=>rfl
 |false=>simp only[cF,h,c3n n L (by omega),oB]
def unL(n:Nat)(L:List Int):List Int:=L++a00 n 0++[1]
theorem c3o{n:Nat}(c:n≤4096)(a:L.length<999990000):a2r (wL L,(n:Int))=some (0,wL (unL n L)):=by
 unfold a2r unL;have g:decide ((n:Int)<0)=false:=by simp
 have k:decide ((n:Int) > 4096)=false:=by grind
 simp only[g,k,cF,oB]
 have:=a1C (f:=a3l) (fun i=>((n:Int),(i:Int),wL (L++a00 i 0),())) n (b:=(wL (L++a00 n 0),())) (fun i hi=>by
   have h:L++a00 i (0:Int)++[0]=L++a00 (i+1) 0:=by simp_all[a53]
   simp only[a3l,dlt hi,cT,b9J (show(L++a00 i (0:Int)).length<1000000000 by grind),oB,h,a0B (show i<1000000 by omega)])
  (by simp[a3l])
 grind[b9J]
theorem b0S(n:Nat)(L:List Int):(unL n L).length=L.length+n+1:=by simp[unL];rfl
def a0Z(x:Int)(n:Nat):Int:=bits .u64 .and (wrap .u64 x) (wrap .u64 ((A0n .u64 1 (n:Int))-1))
def a1D(n:Nat)(l:List Int)(L:List Int):List Int:=l.foldl (fun L x=>a0Q (a0Z x n) n L) L
theorem a6v(n:Nat):∀(l L:List Int),L.length≤(a1D n l L).length∧(a1D n l L).length≤L.length+n*l.length
 | [],L=>by simp[a1D]
 |x::l,L=>by
  have h:=a0Y (a0Z x n) n L;have g:=a6v n l (a0Q (a0Z x n) n L);have e:a1D n (x::l) L=a1D n l (a0Q (a0Z x n) n L):=rfl;rw[e,lC,a92,a93];omega
theorem b3T{n:Nat}(f:n≤63)(g:L.length<999999000):a2M (wL L,x,(n:Int))=some (wL (a0Q (a0Z x n) n L)):=by
 unfold a2M;have h:decide ((n:Int)<0)=false:=by simp
 simp only[h,cF,show bits .u64 .and (wrap .u64 x) (wrap .u64 ((A0n .u64 1 (n:Int))-1))=a0Z x n from rfl,a3e f g,oB]
def a1n(x w:Int):Bool:=decide (1≤w)&&(decide (w≤31)&&(decide (A0n .i64 (-1) (w-1)≤x)&&decide (x≤wrap .i64 (A0n .i64 1 (w-1)-1))))
theorem a6w(a:w≤32):a1U (x,(w:Int))=some (a1n x w):=by
 unfold a1U a1n b3u b2x
 by_cases h1:1≤(w:Int)
 by_cases h2:(w:Int)≤31
 have h:decide ((w:Int)<1)=false:=by simp_all
 have g:decide ((w:Int) > 31)=false:=by simp_all
 have e:wrap .i64 ((w:Int)-1)=(w:Int)-1:=a0C (by omega);have f:decide ((w:Int)-1<0)=false:=by simp_all
 have k:decide ((w:Int)≥1)=true:=by simp_all
 simp[h1,h2,h,g,f,e]
 grind
 grind
 grind
theorem c4F(b:w≤32):b2o (x,(w:Int))=some (a1n x w):=by
 unfold b2o a1n b8N b7h
 by_cases h1:1≤(w:Int)
 by_cases h2:(w:Int)≤31
 have f:decide ((w:Int)<1)=false:=by simp_all
 have k:decide ((w:Int) > 31)=false:=by simp_all
 have e:wrap .i64 ((w:Int)-1)=(w:Int)-1:=a0C (by omega);have g:wrap .u64 ((w:Int)-1)=(w:Int)-1:=a0N (by omega);have a:decide ((w:Int)-1<0)=false:=by simp_all
 have h:decide ((w:Int)≥1)=true:=by simp_all
 simp only[h,h1,h2,f,k,a,e,g,decide_true,cT,cF,oB,a39]
 grind
 grind
 grind
def a1K(x:Int):Nat→Nat→Nat
 |0,w=>w
 |k+1,w=>bif (x != 0)&&!a1n x w then a1K x k (w+1)else w
theorem b8T(x:Int):∀(k w:Nat),a1K x k w≤w+k
 |0,w=>a27 _
 |k+1,w=>by
  simp[a1K];cases (x != 0)&&!a1n x w with
  |true=>have:=b8T x k (w+1);grind
  |false=>simp
def a0I(l:List Int):Nat:=l.foldl (fun w x=>a1K x (32-w) w) 0
theorem b6G:∀(l:List Int)(w:Nat),w≤32→l.foldl (fun w x=>a1K x (32-w) w) w≤32
 | [],w,h=>h
 |x::l,w,h=>b6G l _ (show a1K x (32-w) w≤32 by grind[b8T])
theorem a6C(l:List Int):a0I l≤32:=b6G l 0 (by omega)
theorem c1K{x:Int}{l:List Int}{n i:Int}:∀(k w:Nat),w+k=32→y0s a2P ((w:Int),x,l,n,i,())=some (((a1K x k w:Nat):Int),l,n,i,())
 |0,w,h=>by
  obtain rfl:w=32:=by omega
  simp_all[a0E,a2P,a1K]
 |k+1,w,h=>by
  have g:decide ((w:Int)<32)=true:=by grind
  simp[a1K];cases hx:(x != 0)with
  |false=>simp_all[a0E,a2P]
  |true=>
   cases hf:a1n x w with
   |true=>exact a0E (by simp only[a2P,hx,g,a6w (show w≤32 by omega),hf,oB,cT,cF,bT,Bool.and_false])
   |false=>
    rw[a0F (s':=(((w+1:Nat):Int),x,l,n,i,())) (by simp only[a2P,hx,g,a6w (show w≤32 by omega),hf,oB,cT,a36,a0B (show w<1000000 by omega)])];exact c1K k (w+1) (by omega)
theorem a2p(c:short l):a1t l=some ((a0I l:Nat):Int):=by
 have c:l.length<1000000:=c
 have:=a1G (f:=a5T) l (fun i (w:Nat)=>((w:Int),l,(l.length:Int),(i:Int),())) (fun w x=>(.inl (a1K x (32-w) w):Nat ⊕ (Int×Unit))) (fun _ w=>w≤32) (fun w=>((w:Int),()))
  (fun i h w e=>⟨fun d k=>by
   simp at k;subst k;refine⟨?_,by grind[b8T]⟩;simp only[a5T,dlt h,cT,a0D h,oB,c1K (32-w) w (by omega),a0B (show i<1000000 by omega)],fun b hb=>(by grind)⟩)
  (fun w _=>by simp[a5T]) (a:=0) (by omega)
 simp at this;unfold a1t;rw[this];have g:∀(l:List Int)(w:Nat),a2O (fun w x=>(.inl (a1K x (32-w) w):Nat ⊕ (Int×Unit))) l w=.inl (l.foldl (fun w x=>a1K x (32-w) w) w):=by
  intro l
  induction l with
  |nil=>intro w;rfl
  |cons x l ih=>simp_all[a2O]
 rw[g];rfl
theorem b0T(x:Int):a7w x=some (a0A x):=by
 grind[a7w,a0A]
def a0U(x:Int):Nat:=if 0≤x then(2*x).toNat else(-2*x-1).toNat
theorem a9J(h:a0A x=true):a0U x<2147483648:=by
 grind[a1H,a0U]
theorem b0U(h:a0A x=true):a9g x=some ((a0U x:Nat):Int):=by
 have f:=a1H.1 h;unfold a9g a0U;simp only[b0T,h,oB,bT,cF]
 by_cases h0:0≤x
 have g:decide (x≥0)=true:=by simp_all
 simp only[g,cT,if_pos h0]
 grind[a0C,a0N]
 have g:decide (x≥0)=false:=by simp_all
 simp only[g,cF,if_neg h0]
 grind[a0C,a0N]
theorem a6D{N o:Nat}(h:o≤64):A0o .u64 (N:Int) (o:Int)=((N / 2^o:Nat):Int):=c3i h
theorem b2r(h:o≤64)(g:N*2^o<9223372036854775808):A0n .u64 (N:Int) (o:Int)=((N*2^o:Nat):Int):=by
 unfold A0n;show wrap .u64 ((N:Int)*2^(min (o:Int).toNat 64))=_
 grind[a0N]
theorem c3p{y k:Nat}(c:y<18446744073709551616)(f:k≤62):bits .u64 .and (y:Int) (wrap .u64 (A0n .u64 1 (k:Int)-1))=((y%2^k:Nat):Int):=by
 have hp:2^k≤2^62:=a08 (by simp) f;have a:1≤2^k:=a81;have b:(2:Nat)^62=4611686018427387904:=by rfl
 have h:A0n .u64 1 (k:Int)=((2^k:Nat):Int):=by have:=b2r (N:=1) (o:=k) (by omega) (by omega);simp_all
 have g:wrap .u64 (((2^k:Nat):Int)-1)=((2^k-1:Nat):Int):=by grind[a0N]
 rw[h,g];show wrap .u64 (((a04 64 (y:Int)) &&& (a04 64 ((2^k-1:Nat):Int))).toNat:Int)=_;rw[a24,a24,a94,a29,a29,a23 c,a23 (by omega),Nat.and_two_pow_sub_one_eq_mod]
 have:y%2^k<2^k:=a41 _ (by omega)
 exact a0N (by omega)
theorem b3U{q:Nat}(h:q<2147483648):wrap .i64 (q:Int)=(q:Int):=a0C (by omega)
def a6U(k:Nat)(x:Int)(L:List Int):List Int:=
 if a0U x / 2^k<32 then a0Q ((a0U x%2^k:Nat):Int) k (unL (a0U x / 2^k) L)else a0Q ((a0U x:Nat):Int) 32 (unL 32 L)
def a4N(k:Nat)(l:List Int)(L:List Int):List Int:=l.foldl (fun L x=>a6U k x L) L
theorem b7k{k:Nat}(h:k≤25)(x:Int)(L:List Int):L.length≤(a6U k x L).length∧(a6U k x L).length≤L.length+100:=by
 grind[a6U,a0Y,b0S]
theorem b6H{k:Nat}(h:k≤25):∀(l L:List Int),L.length≤(a4N k l L).length∧(a4N k l L).length≤L.length+100*l.length
 | [],L=>by simp[a4N]
 |x::l,L=>by
  have g:=b7k h x L;have f:=b6H h l (a6U k x L);have e:a4N k (x::l) L=a4N k l (a6U k x L):=rfl
  grind
theorem a8X{k:Nat}(h:k≤25):a1Q (k:Int)=some true:=by
 unfold a1Q
 grind
theorem c4G{k:Nat}(x:k≤25)(D:l.length<10000)(t:l.all a0A=true)(C:L.length<900000000):b2U (wL L,(k:Int),l)=some (0,wL (a4N k l L)):=by
 have A:=a1S (f:=a9s) l (fun i=>((k:Int),l,l,(l.length:Int),(i:Int),wL L,())) (fun _=>true) (bt:=Sum.inl ((k:Int),l,wL L,())) (bf:=Sum.inl ((k:Int),l,wL L,()))
  (fun i h _=>by
   have:=lA.1 t _ (a05 h)
   simp only[a9s,dlt h,cT,a0D h,oB,b0T,this,bT,cF,a0B (show i<1000000 by omega)])
  (fun i h hp=>by simp_all) (by simp[a9s])
 have p:∀(j i:Nat)(g:List Int),i+j=l.length→g.length+100*j<999990000→y0s a7g ((k:Int),l,(l.length:Int),(i:Int),wL g,())=some (wL (a4N k (l.drop i) g),()):=by
  intro j
  induction j with
  |zero=>
   intro i g hi _;obtain rfl:i=l.length:=by omega
   simp_all[a0E,a7g,a4N]
  |succ j ih=>
   intro i g hi hb;have a:i<l.length:=by omega
   have c:=lA.1 t _ (a05 a);have z:=a9J c;have y:=b7k x l[i] g;have e:decide ((k:Int)<0)=false:=by simp
   have q:A0o .u64 ((a0U l[i]:Nat):Int) (k:Int)=((a0U l[i] / 2^k:Nat):Int):=a6D (by omega);have o:=a32 (a0U l[i]) (2^k);have r:=a70 (a0U l[i]) (2^k);have d:A0n .u64 ((a0U l[i] / 2^k:Nat):Int) (k:Int)=((a0U l[i] / 2^k*2^k:Nat):Int):=b2r (by omega) (by grind);have u:wrap .u64 (((a0U l[i]:Nat):Int)-((a0U l[i] / 2^k*2^k:Nat):Int))=((a0U l[i]%2^k:Nat):Int):=by
    rw[a57 (a0U l[i] / 2^k)]
    grind[a0N]
   have w:wrap .i64 ((a0U l[i] / 2^k:Nat):Int)=((a0U l[i] / 2^k:Nat):Int):=b3U (a38 o z);rw[a02 a,a0F (s':=((k:Int),l,(l.length:Int),((i+1:Nat):Int),wL (a6U k l[i] g),())) (by
    by_cases hq:a0U l[i] / 2^k<32
    have m:decide (((a0U l[i] / 2^k:Nat):Int)<32)=true:=decide_eq_true (by omega);have s:(unL (a0U l[i] / 2^k) g).length<999999000:=by
     rw[b0S];omega
    have b:=c3o (L:=g) (n:=a0U l[i] / 2^k) (a84 (a18 hq (by simp))) (by omega);have hp:=a3e (L:=unL (a0U l[i] / 2^k) g) (v:=((a0U l[i]%2^k:Nat):Int)) (n:=k) (by omega) s;simp only[a7g,dlt a,cT,a0D a,oB,b0U c,e,cF,q,m,w,b,d,u,hp,a6U,if_pos hq,a0B (show i<1000000 by omega)];have m:decide (((a0U l[i] / 2^k:Nat):Int)<32)=false:=decide_eq_false (by omega);have s:=b0S 32 g;have b:a2r (wL g,(32:Int))=some (0,wL (unL 32 g)):=c3o (L:=g) (n:=32) (by omega) (by omega);have hp:a0G (wL (unL 32 g),((a0U l[i]:Nat):Int),(32:Int))=some (a8h ((a0U l[i]:Nat):Int) 32,wL (a0Q ((a0U l[i]:Nat):Int) 32 (unL 32 g))):=a3e (L:=unL 32 g) (v:=((a0U l[i]:Nat):Int)) (n:=32) (by omega) (by omega);simp only[a7g,dlt a,cT,a0D a,oB,b0U c,e,cF,q,m,b,hp,a6U,if_neg hq,a0B (show i<1000000 by omega)])]
   exact ih (i+1) _ (by omega) (by omega)
 have B:=p l.length 0 L (by omega) (by omega);simp_all[b2U,a8X]
def a1p(zn:List Nat):List Int:=zn.map fun(a:Nat)=>(a:Int)
theorem c2B(n M:Nat):(a00 n M).sum=n*M:=by
 simp
theorem b5a{o n warm:Int}(h:(a1J o n warm).length≠0):∃zn:List Nat,a1J o n warm=a1p zn∧(zn.sum:Int)=n-warm∧zn.length≤256:=by
 unfold a1J at h⊢;cases hr:(a6u n warm&&(decide (0≤o)&&decide (o≤8)))with
 |false=>simp_all
 |true=>
  rw[hr]at h;simp only[cT]at h⊢;simp[a6u]at hr;unfold b5s at h⊢
  split at h
  rename_i g;rw[if_pos g];obtain⟨O,rfl⟩:=a01 hr.2.1;obtain⟨N,rfl⟩:=a01 (show 0≤n by omega);obtain⟨w,rfl⟩:=a01 (show 0≤warm by omega);simp only[tN]at g⊢;have hp:=d2j (o:=O) (by omega);have f:=a70 N (2^O);rw[g.1,a85]at f;have k:w≤N / 2^O:=by omega
  generalize N / 2^O=M at g k f⊢;generalize 2^O=P at hp f⊢;refine⟨(M-w)::a00 (P-1) M,?_,?_,?_⟩
  grind[a1p,List.map_replicate]
  rw[a62,c2B];obtain⟨q,rfl⟩:∃q,P=q+1:=⟨P-1,by omega⟩
  grind
  simp_all;simp_all
def a9A(k:Int)(part L:List Int):List Int:=
 if k=31 then a1D (a0I part) part (a0Q ((a0I part:Nat):Int) 5 (a0Q (wrap .u64 k) 5 L))else a4N k.toNat part (a0Q (wrap .u64 k) 5 L)
def a4O:List Nat→List Int→List Int→List Int→List Int
 |z::zs,k::ks,l,L=>a4O zs ks (l.drop z) (a9A k (l.take z) L)
 |_,_,_,L=>L
theorem b7l(h:kB k=true)(part L:List Int):L.length≤(a9A k part L).length∧(a9A k part L).length≤L.length+10+100*part.length:=by
 unfold a9A;have a:=a0Y (wrap .u64 k) 5 L;split;have b:=a0Y ((a0I part:Nat):Int) 5 (a0Q (wrap .u64 k) 5 L);have c:=a6v (a0I part) part (a0Q ((a0I part:Nat):Int) 5 (a0Q (wrap .u64 k) 5 L));have f:=a6C part
 have:a0I part*part.length≤32*part.length:=a25 _ f
 omega;rename_i g;simp[kB]at h
 grind[b6H]
theorem a8i(h:i<zn.length):a87 (a1p zn) i 0=((zn[i]:Nat):Int):=by
 simp_all[a1p]
theorem a1w(h:List Nat):(a1p h).length=h.length:=by simp[a1p]
theorem b5R(h:i<zn.length):(zn.drop i).sum=zn[i]+(zn.drop (i+1)).sum:=by
 grind[a02]
theorem c3q{part rest:List Int}{wd:Nat}{a b:Int}{z:List Int}{p:Prt}(k:wd≤32)(hp:part.length<10000):∀(j i:Nat)(L:List Int),i+j=part.length→L.length+64*j<999990000→
  y0s a8t (rest,(wd:Int),a,b,part,(part.length:Int),(i:Int),z,wL L,p,())=some (rest,a,b,z,wL (a1D wd (part.drop i) L),p,())
 |0,i,L,hi,_=>by
  obtain rfl:i=part.length:=by omega
  simp_all[a0E,a8t,a1D]
 |j+1,i,L,hi,hb=>by
  have h:i<part.length:=by omega
  have g:decide ((wd:Int)<0)=false:=by simp
  have f:=a0Y (a0Z part[i] wd) wd L;rw[a02 h,a0F (s':=(rest,(wd:Int),a,b,part,(part.length:Int),((i+1:Nat):Int),z,wL (a0Q (a0Z part[i] wd) wd L),p,())) (by
   simp only[a8t,dlt h,cT,a0D h,oB,g,cF,show bits .u64 .and (wrap .u64 part[i]) (wrap .u64 ((A0n .u64 1 (wd:Int))-1))=a0Z part[i] wd from rfl,a3e (show wd≤63 by omega) (show L.length<999999000 by omega),a0B (show i<1000000 by omega)])]
  exact c3q k hp j (i+1) _ (by omega) (by omega)
theorem b5w{zn:List Nat}{p:Prt}(N:p.2.1.length=zn.length)(c:p.2.1.all kB=true)(R:zn.length≤256):∀(j i:Nat)(l L:List Int),i+j=zn.length→(zn.drop i).sum=l.length→l.all a0A=true→l.length≤5000→L.length+10*j+100*l.length<800000000→
  y0s a4w (l,(zn.length:Int),(i:Int),a1p zn,wL L,p,())=some (wL (a4O (zn.drop i) (p.2.1.drop i) l L),())
 |0,i,l,L,hi,_,_,_,_=>by
  obtain rfl:i=zn.length:=by omega
  simp_all[a0E,a4w,a4O]
 |j+1,i,l,L,hi,hsum,hw,hl5,hb=>by
  have h:i<zn.length:=by omega
  have f:i<p.2.1.length:=by omega
  have s:=lA.1 c _ (a05 f);rw[b5R h]at hsum;have B:decide ((0:Int)≤(i:Int))=true:=by simp
  have C:decide ((i:Int)<(((a1p zn).length:Nat):Int))=true:=by simp_all[a1w]
  have D:decide ((0:Int)≤((zn[i]:Nat):Int))=true:=by simp
  have E:decide (((zn[i]:Nat):Int)≤((l.length:Nat):Int))=true:=by grind
  have t:(l.take zn[i]).length=zn[i]:=by simp_all
  have q:(l.drop zn[i]).length=(zn.drop (i+1)).sum:=by grind
  have w:(l.take zn[i]).all a0A=true:=lA.2 fun x A=>lA.1 hw x (a34 A);have y:(l.drop zn[i]).all a0A=true:=lA.2 fun x A=>lA.1 hw x (a35 A);have Q:=b7l s (l.take zn[i]) L;have O:=a0Y (wrap .u64 p.2.1[i]) 5 L;have d:a0G (wL L,wrap .u64 p.2.1[i],(5:Int))=some (a8h (wrap .u64 p.2.1[i]) 5,wL (a0Q (wrap .u64 p.2.1[i]) 5 L)):=a3e (n:=5) (by omega) (by omega);have G:zn.drop i=zn[i]::zn.drop (i+1):=a02 h;have H:p.2.1.drop i=p.2.1[i]::p.2.1.drop (i+1):=a02 f;rw[G,H,a4O];have r:a4w (l,(zn.length:Int),(i:Int),a1p zn,wL L,p,())=some (.inl (l.drop zn[i],(zn.length:Int),((i+1:Nat):Int),a1p zn,wL (a9A p.2.1[i] (l.take zn[i]) L),p,())):=by
   by_cases h31:p.2.1[i]=31
   have m:(p.2.1[i] != 31)=false:=by simp_all
   have v:=a6C (l.take zn[i]);have u:=a2p (l:=l.take zn[i]) (by unfold short;omega);have P:=a0Y ((a0I (l.take zn[i]):Nat):Int) 5 (a0Q (wrap .u64 p.2.1[i]) 5 L);have I:wrap .u64 ((a0I (l.take zn[i]):Nat):Int)=((a0I (l.take zn[i]):Nat):Int):=a0N (by omega);have o:a0G (wL (a0Q (wrap .u64 p.2.1[i]) 5 L),((a0I (l.take zn[i]):Nat):Int),(5:Int))=some (a8h ((a0I (l.take zn[i]):Nat):Int) 5,wL (a0Q ((a0I (l.take zn[i]):Nat):Int) 5 (a0Q (wrap .u64 p.2.1[i]) 5 L))):=a3e (n:=5) (by omega) (by omega);have e:=c3q (part:=l.take zn[i]) (rest:=l.drop zn[i]) (a:=(zn.length:Int)) (b:=(i:Int)) (z:=a1p zn) (p:=p) v (by omega) (l.take zn[i]).length 0 (a0Q ((a0I (l.take zn[i]):Nat):Int) 5 (a0Q (wrap .u64 p.2.1[i]) 5 L)) (by omega) (by omega);simp only[nZ,a28]at e;simp only[a4w,dlt h,B,C,a8i h,D,E,cT,a03,tN,a0D f,oB,d,m,cF,u,I,o,a19,e,a0B (show i<1000000 by omega),a9A,if_pos h31];have m:(p.2.1[i] != 31)=true:=by simp_all
   simp[kB]at s;obtain⟨K,M⟩:=a01 (show 0≤p.2.1[i]by omega);have g:=c4G (k:=K) (l:=l.take zn[i]) (L:=a0Q (wrap .u64 p.2.1[i]) 5 L) (by omega) (by omega) w (by omega);rw[←M]at g;have F:K=p.2.1[i].toNat:=by omega
   simp only[a4w,dlt h,B,C,a8i h,D,E,cT,a03,tN,a0D f,oB,d,m,g,a19,a0B (show i<1000000 by omega),a9A,if_neg h31,F]
  rw[a0F r];exact b5w N c R j (i+1) (l.drop zn[i]) _ (by omega) q.symm y (by omega) (by omega)
theorem c1n{k:Nat}(d:k≤25)(g:a0A x=true):∃c,a7x ((k:Int),x)=some c∧0≤c∧c≤65:=by
 have e:=a9J g;have f:A0o .u64 ((a0U x:Nat):Int) (k:Int)=((a0U x / 2^k:Nat):Int):=a6D (by omega);have a:wrap .i64 ((a0U x / 2^k:Nat):Int)=((a0U x / 2^k:Nat):Int):=b3U (a38 (a32 _ _) e);have h:decide ((k:Int)<0)=false:=by simp
 unfold a7x;simp only[a8X d,b0T,g,oB,bT,cF,b0U g,h,f,a];generalize a0U x / 2^k=q
 by_cases hq:q<32
 have b:decide ((q:Int)<32)=true:=decide_eq_true (by omega);refine⟨(q:Int)+1+k,?_,by omega,by omega⟩;simp only[b,cT]
 grind[a0C]
 grind
theorem c2C{k:Nat}(o:k≤25)(p:l.all a0A=true)(s:l.length<10000):∃c,a3k ((k:Int),l)=some c∧0≤c∧c≤65*l.length:=by
 have g:∀(j i:Nat)(c:Int),i+j=l.length→0≤c→c≤65*i→∃c',y0s a3R ((k:Int),c,l,(l.length:Int),(i:Int),())=some (c',())∧0≤c'∧c'≤65*l.length:=by
  intro j
  induction j with
  |zero=>
   intro i c hi a f;obtain rfl:i=l.length:=by omega
   simp_all[a0E,a3R]
  |succ j ih=>
   intro i c hi a f;have h:i<l.length:=by omega
   obtain⟨d,b,m,n⟩:=c1n o (lA.1 p _ (a05 h));have e:wrap .i64 (c+d)=c+d:=a0C (by omega);rw[a0F (s':=((k:Int),c+d,l,(l.length:Int),((i+1:Nat):Int),())) (by simp only[a3R,dlt h,cT,a0D h,oB,b,e,a0B (show i<1000000 by omega)])];exact ih (i+1) _ (by omega) (by omega) (by omega)
 obtain⟨c,f,q,r⟩:=g l.length 0 0 (by omega) (by omega) (by omega);simp_all[a3k]
theorem c7j{n:Nat}(g:w≤32)(f:n<10000):0≤(w:Int)*(n:Int)∧(w:Int)*(n:Int)≤32*n:=by
 have h:w*n≤32*n:=a25 _ g;omega
theorem c1o(h:l.length<10000):∃c,a5N l=some c∧0≤c∧c≤5+32*l.length:=by
 have g:=c7j (a6C l) h;refine⟨5+((a0I l:Nat):Int)*((l.length:Nat):Int),?_,by omega,by omega⟩;unfold a5N;simp only[a2p (show short l by unfold short;omega),oB]
 grind[a0C]
theorem b4v{zn:List Nat}{p:Prt}(H:p.2.1.length=zn.length)(g:p.2.1.all kB=true)(I:zn.length≤256):∀(j i:Nat)(l:List Int)(c:Int),i+j=zn.length→(zn.drop i).sum=l.length→l.all a0A=true→l.length≤5000→4≤c→c+10*j+65*l.length<1000000→
  ∃c',y0s a1v (l,c,(zn.length:Int),(i:Int),a1p zn,p,())=some (c',())∧4≤c'
 |0,i,l,c,hi,_,_,_,hc,_=>by
  obtain rfl:i=zn.length:=by omega
  simp_all[a0E,a1v]
 |j+1,i,l,c,hi,hsum,hw,hl5,hc,hb=>by
  have h:i<zn.length:=by omega
  have f:i<p.2.1.length:=by omega
  have q:=lA.1 g _ (a05 f);rw[b5R h]at hsum;have z:decide ((0:Int)≤(i:Int))=true:=by simp
  have A:decide ((i:Int)<(((a1p zn).length:Nat):Int))=true:=by simp_all[a1w]
  have B:decide ((0:Int)≤((zn[i]:Nat):Int))=true:=by simp
  have C:decide (((zn[i]:Nat):Int)≤((l.length:Nat):Int))=true:=by grind
  have s:(l.take zn[i]).length=zn[i]:=by simp_all
  have b:(l.drop zn[i]).length=(zn.drop (i+1)).sum:=by grind
  have v:(l.take zn[i]).all a0A=true:=lA.2 fun x y=>lA.1 hw x (a34 y);have w:(l.drop zn[i]).all a0A=true:=lA.2 fun x y=>lA.1 hw x (a35 y);have e:∃d,a1v (l,c,(zn.length:Int),(i:Int),a1p zn,p,())=some (.inl (l.drop zn[i],c+d,(zn.length:Int),((i+1:Nat):Int),a1p zn,p,()))∧0≤d∧d≤10+65*zn[i]:=by
   by_cases h31:p.2.1[i]=31
   have a:(p.2.1[i]==31)=true:=by simp_all
   obtain⟨r,m,t,u⟩:=c1o (l:=l.take zn[i]) (by omega);have n:wrap .i64 (5+r)=5+r:=a0C (by omega);have o:wrap .i64 (c+(5+r))=c+(5+r):=a0C (by omega);refine⟨5+r,?_,by omega,by omega⟩;simp only[a1v,dlt h,z,A,a8i h,B,C,cT,a03,tN,a0D f,oB,a,m,n,o,a19,a0B (show i<1000000 by omega)];have a:(p.2.1[i]==31)=false:=by simp_all
   simp[kB]at q;obtain⟨K,D⟩:=a01 (show 0≤p.2.1[i]by omega);obtain⟨r,m,t,u⟩:=c2C (k:=K) (by omega) v (by omega);rw[←D]at m;have n:wrap .i64 (5+r)=5+r:=a0C (by omega);have o:wrap .i64 (c+(5+r))=c+(5+r):=a0C (by omega);refine⟨5+r,?_,by omega,by omega⟩;simp only[a1v,dlt h,z,A,a8i h,B,C,cT,cF,a03,tN,a0D f,oB,a,m,n,o,a19,a0B (show i<1000000 by omega)]
  obtain⟨d,E,F,G⟩:=e;rw[a0F E];exact b4v H g I j (i+1) (l.drop zn[i]) _ (by omega) b.symm w (by omega) (by omega) (by omega)
structure PartsOk (p:Prt) (n warm:Int) (l:List Int) (zn:List Nat):Prop where
 may:a5H p n warm=true
 sizes:a1J p.1 n warm=a1p zn
 sum:zn.sum=l.length
 len:zn.length≤256
 ks:p.2.1.length=zn.length
 all:p.2.1.all kB=true
 wide:l.all a0A=true
 short:l.length≤5000
 row:a6u n warm=true
 rest:(l.length:Int)=n-warm
 order:0≤p.1∧p.1≤8
theorem PartsOk.of{p:Prt}{n warm:Int}{l:List Int}(h:a5H p n warm=true)(i:(l.length:Int)=n-warm)(j:l.all a0A=true)(e:l.length≤5000):∃g,PartsOk p n warm l g:=by
 have f:=h;simp only[a5H,bA,a33,beq_eq_false_iff_ne,ne_eq,beq_iff_eq]at f;obtain⟨c,o,d⟩:=f;obtain⟨g,a,m,b⟩:=b5a c;have k:a6u n warm=true∧0≤p.1∧p.1≤8:=by
  grind[a1J]
 exact⟨g,h,a,by omega,b,by simp_all[a1w],d,j,e,k.1,i,k.2⟩
theorem b1s{n warm:Int}{l:List Int}(h:a6u n warm=true)(c:(l.length:Int)=n-warm)(d:l.all a0A=true)(a:l.length≤5000):a7f (n,warm,l)=some true:=by
 have e:wrap .i64 (n-warm)=n-warm:=by
  simp[a6u]at h;exact a0C (by omega)
 have k:(((l.length:Nat):Int) != n-warm)=false:=by simp_all
 have f:b3y=a2A:=rfl;have g:short l:=by unfold short;omega
 have b:=a4y g;simp_all[a2v,a7f,b3P]
theorem b9K(h:PartsOk p n warm l zn):∃c,a4E (p,n,warm,l)=some c∧4≤c:=by
 have k:Go.Ab.short p.2.1:=by have:=h.ks;have:=h.len;unfold Go.Ab.short;omega
 have a:=h.short;have b:=h.len;obtain⟨c,g,f⟩:=b4v h.ks h.all h.len zn.length 0 l 4 (by omega) (by rw[a28];exact h.sum) h.wide h.short (by omega) (by omega);simp at g;refine⟨c,?_,f⟩;unfold a4E;simp only[b3Q k,h.may,b1s h.row h.rest h.wide h.short,oB,bT,cF,a2b,h.sizes,a1w,g]
def a4n(p:Prt)(zn:List Nat)(l L:List Int):List Int:=a4O zn p.2.1 l (a0Q (wrap .u64 p.1) 4 L)
theorem c3r(h:PartsOk p n warm l zn)(i:L.length<700000000):b1M (wL L,p,n,warm,l)=some (0,wL (a4n p zn l L)):=by
 have e:=h.short;have j:=h.len;obtain⟨c,a,b⟩:=b9K h;have k:(c==0)=false:=by grind
 have d:=a0Y (wrap .u64 p.1) 4 L;have f:a0G (wL L,wrap .u64 p.1,(4:Int))=some (a8h (wrap .u64 p.1) 4,wL (a0Q (wrap .u64 p.1) 4 L)):=a3e (n:=4) (by omega) (by omega);have g:=b5w h.ks h.all h.len zn.length 0 l (a0Q (wrap .u64 p.1) 4 L) (by omega) (by rw[a28];exact h.sum) h.wide h.short (by omega);simp at g;unfold b1M;simp only[a,oB,k,cF,f,a2b,h.sizes,a1w,g,a4n]
theorem b9L{c:List Int}{wd:Nat}(k:wd≤32)(g:c.length<10000):∀(j i:Nat)(L:List Int),i+j=c.length→L.length+64*j<999990000→
  y0s a5V ((wd:Int),c,(c.length:Int),(i:Int),wL L,())=some (wL (a1D wd (c.drop i) L),())
 |0,i,L,hi,_=>by
  obtain rfl:i=c.length:=by omega
  simp_all[a0E,a5V,a1D]
 |j+1,i,L,hi,hb=>by
  have h:i<c.length:=by omega
  have f:=a0Y (a0Z c[i] wd) wd L;rw[a02 h,a0F (s':=((wd:Int),c,(c.length:Int),((i+1:Nat):Int),wL (a0Q (a0Z c[i] wd) wd L),())) (by
   simp only[a5V,dlt h,cT,a0D h,oB,b3T (show wd≤63 by omega) (show L.length<999999000 by omega),a0B (show i<1000000 by omega)])]
  exact b9L k g j (i+1) _ (by omega) (by omega)
theorem c1L{t:List Int}{n wd:Int}{s:Sub}(a:t.length=3):∀(j i:Nat)(L:List Int),i+j=3→L.length+64*j<999990000→
  y0s b0D (n,wd,t,(i:Int),wL L,s,())=some (n,wd,wL (a1D 8 (t.drop i) L),s,())
 |0,i,L,hi,_=>by
  obtain rfl:i=t.length:=by omega
  grind[a0E,b0D,a1D]
 |j+1,i,L,hi,hb=>by
  have h:i<t.length:=by omega
  have f:decide ((i:Int)<3)=true:=by grind
  have k:=a0Y (a0Z t[i] 8) 8 L;have g:a2M (wL L,t[i],(8:Int))=some (wL (a0Q (a0Z t[i] 8) 8 L)):=b3T (n:=8) (by omega) (by omega);rw[a02 h,a0F (s':=(n,wd,t,((i+1:Nat):Int),wL (a0Q (a0Z t[i] 8) 8 L),s,())) (by
   simp only[b0D,f,cT,a0D h,oB,g,a0B (show i<1000000 by omega)])]
  exact c1L a j (i+1) _ (by omega) (by omega)
theorem c1M{l:List Int}{n:Int}{wd:Nat}{s:Sub}(k:wd≤32)(g:l.length<10000):∀(j i:Nat)(L:List Int),i+j=l.length→L.length+64*j<999990000→
  y0s b0F (n,(wd:Int),l,(l.length:Int),(i:Int),wL L,s,())=some (n,wL (a1D wd (l.drop i) L),s,())
 |0,i,L,hi,_=>by
  obtain rfl:i=l.length:=by omega
  simp_all[a0E,b0F,a1D]
 |j+1,i,L,hi,hb=>by
  have h:i<l.length:=by omega
  have f:=a0Y (a0Z l[i] wd) wd L;rw[a02 h,a0F (s':=(n,(wd:Int),l,(l.length:Int),((i+1:Nat):Int),wL (a0Q (a0Z l[i] wd) wd L),s,())) (by
   simp only[b0F,dlt h,cT,a0D h,oB,b3T (show wd≤63 by omega) (show L.length<999999000 by omega),a0B (show i<1000000 by omega)])]
  exact c1M k g j (i+1) _ (by omega) (by omega)
def a6x(s:Stg)(L:List Int):List Int:=a0Q (wrap .u64 s.2.1) 4 (a0Q (wrap .u64 (wrap .i64 (s.1-1))) 5 L)
def a3g(st:List Stg)(L:List Int):List Int:=st.foldl (fun L s=>a6x s L) L
theorem b6I(s:Stg)(L:List Int):(a6x s L).length≤L.length+9:=by
 grind[a0Y,a6x]
theorem b5x:∀(st:List Stg)(L:List Int),(a3g st L).length≤L.length+9*st.length
 | [],L=>by simp[a3g]
 |s::st,L=>by
  have h:=b6I s L;have g:=b5x st (a6x s L);have e:a3g (s::st) L=a3g st (a6x s L):=rfl
  grind
theorem b8n{st:List Stg}{n wd:Int}{s:Sub}(a:st.length<10000):∀(j i:Nat)(L:List Int),i+j=st.length→L.length+64*j<999990000→
  y0s b0E (n,wd,st,(st.length:Int),(i:Int),wL L,s,())=some (n,wd,wL (a3g (st.drop i) L),s,())
 |0,i,L,hi,_=>by
  obtain rfl:i=st.length:=by omega
  simp_all[a0E,b0E,a3g]
 |j+1,i,L,hi,hb=>by
  have h:i<st.length:=by omega
  have k:=a0Y (wrap .u64 (wrap .i64 (st[i].1-1))) 5 L;have b:=b6I st[i] L;have g:a0G (wL L,wrap .u64 (wrap .i64 (st[i].1-1)),(5:Int))=some (a8h (wrap .u64 (wrap .i64 (st[i].1-1))) 5,wL (a0Q (wrap .u64 (wrap .i64 (st[i].1-1))) 5 L)):=a3e (n:=5) (by omega) (by omega);have f:a0G (wL (a0Q (wrap .u64 (wrap .i64 (st[i].1-1))) 5 L),wrap .u64 st[i].2.1,(4:Int))=some (a8h (wrap .u64 st[i].2.1) 4,wL (a6x st[i] L)):=a3e (n:=4) (by omega) (by omega);rw[a02 h,a0F (s':=(n,wd,st,(st.length:Int),((i+1:Nat):Int),wL (a6x st[i] L),s,())) (by
   simp only[b0E,dlt h,cT,a0D h,oB,g,f,a0B (show i<1000000 by omega)])]
  exact b8n a j (i+1) _ (by omega) (by omega)
def a6y(s:Sub)(L:List Int):List Int:=
 a1D (a0I s.2.2.2.2.2.1) s.2.2.2.2.2.1 (a0Q ((a0I s.2.2.2.2.2.1:Nat):Int) 5 (a0Q (wrap .u64 s.2.2.2.1) 4 (a0Q (wrap .u64 (wrap .i64 (((s.2.2.2.2.2.1.length:Nat):Int)-1))) 5 L)))
theorem c2D{s:Sub}(h:s.2.2.2.2.2.1.length≤40)(L:List Int):(a6y s L).length≤L.length+2000:=by
 unfold a6y;have f:=a0Y (wrap .u64 (wrap .i64 (((s.2.2.2.2.2.1.length:Nat):Int)-1))) 5 L;have k:=a0Y (wrap .u64 s.2.2.2.1) 4 (a0Q (wrap .u64 (wrap .i64 (((s.2.2.2.2.2.1.length:Nat):Int)-1))) 5 L);have a:=a0Y ((a0I s.2.2.2.2.2.1:Nat):Int) 5 (a0Q (wrap .u64 s.2.2.2.1) 4 (a0Q (wrap .u64 (wrap .i64 (((s.2.2.2.2.2.1.length:Nat):Int)-1))) 5 L));have b:=a6v (a0I s.2.2.2.2.2.1) s.2.2.2.2.2.1 (a0Q ((a0I s.2.2.2.2.2.1:Nat):Int) 5 (a0Q (wrap .u64 s.2.2.2.1) 4 (a0Q (wrap .u64 (wrap .i64 (((s.2.2.2.2.2.1.length:Nat):Int)-1))) 5 L)));have g:=a6C s.2.2.2.2.2.1
 have:a0I s.2.2.2.2.2.1*s.2.2.2.2.2.1.length≤32*40:=Nat.mul_le_mul g h
 omega
theorem b8o(h:s.2.2.2.2.2.1.length≤40)(l:L.length<900000000):a8s (wL L,s)=some (wL (a6y s L)):=by
 have e:=a0Y (wrap .u64 (wrap .i64 (((s.2.2.2.2.2.1.length:Nat):Int)-1))) 5 L;have i:=a0Y (wrap .u64 s.2.2.2.1) 4 (a0Q (wrap .u64 (wrap .i64 (((s.2.2.2.2.2.1.length:Nat):Int)-1))) 5 L);have j:=a0Y ((a0I s.2.2.2.2.2.1:Nat):Int) 5 (a0Q (wrap .u64 s.2.2.2.1) 4 (a0Q (wrap .u64 (wrap .i64 (((s.2.2.2.2.2.1.length:Nat):Int)-1))) 5 L));have k:=a6C s.2.2.2.2.2.1;have f:wrap .u64 ((a0I s.2.2.2.2.2.1:Nat):Int)=((a0I s.2.2.2.2.2.1:Nat):Int):=a0N (by omega);have a:a0G (wL L,wrap .u64 (wrap .i64 (((s.2.2.2.2.2.1.length:Nat):Int)-1)),(5:Int))=some (a8h (wrap .u64 (wrap .i64 (((s.2.2.2.2.2.1.length:Nat):Int)-1))) 5,wL (a0Q (wrap .u64 (wrap .i64 (((s.2.2.2.2.2.1.length:Nat):Int)-1))) 5 L)):=a3e (n:=5) (by omega) (by omega);have b:a0G (wL (a0Q (wrap .u64 (wrap .i64 (((s.2.2.2.2.2.1.length:Nat):Int)-1))) 5 L),wrap .u64 s.2.2.2.1,(4:Int))=some (a8h (wrap .u64 s.2.2.2.1) 4,wL (a0Q (wrap .u64 s.2.2.2.1) 4 (a0Q (wrap .u64 (wrap .i64 (((s.2.2.2.2.2.1.length:Nat):Int)-1))) 5 L))):=a3e (n:=4) (by omega) (by omega);have d:a0G (wL (a0Q (wrap .u64 s.2.2.2.1) 4 (a0Q (wrap .u64 (wrap .i64 (((s.2.2.2.2.2.1.length:Nat):Int)-1))) 5 L)),((a0I s.2.2.2.2.2.1:Nat):Int),(5:Int))=some (a8h ((a0I s.2.2.2.2.2.1:Nat):Int) 5,wL (a0Q ((a0I s.2.2.2.2.2.1:Nat):Int) 5 (a0Q (wrap .u64 s.2.2.2.1) 4 (a0Q (wrap .u64 (wrap .i64 (((s.2.2.2.2.2.1.length:Nat):Int)-1))) 5 L)))):=a3e (n:=5) (by omega) (by omega);have g:=b9L (c:=s.2.2.2.2.2.1) k (by omega) s.2.2.2.2.2.1.length 0 (a0Q ((a0I s.2.2.2.2.2.1:Nat):Int) 5 (a0Q (wrap .u64 s.2.2.2.1) 4 (a0Q (wrap .u64 (wrap .i64 (((s.2.2.2.2.2.1.length:Nat):Int)-1))) 5 L))) (by omega) (by omega);simp at g;unfold a8s;simp only[a,b,a2p (show short s.2.2.2.2.2.1 by unfold short;omega),f,d,g,oB,a6y]
def b2d(s:Sub)(L:List Int):List Int:=
 a0Q ((a0I s.2.2.2.2.2.2.2.2.1:Nat):Int) 5 (a0Q (wrap .u64 s.2.1) 5 (a0Q (wrap .u64 s.1) 3 L))
def a2x(s:Sub)(L:List Int):List Int:=
 if s.1=2 then a0Q (wrap .u64 s.2.2.1) 3 L
 else if s.1=3 then a6y s L
 else if s.1=4 then a6y s (a1D 8 s.2.2.2.2.2.2.1 (a0Q (wrap .u64 (wrap .i64 (s.2.2.2.2.1-1))) 10 L))
 else if s.1=5 then a3g s.2.2.2.2.2.2.2.1 (a0Q (wrap .u64 ((s.2.2.2.2.2.2.2.1.length:Nat):Int)) 2 L)
 else L
theorem c3s(h:SmallS s)(L:List Int):(a2x s L).length≤L.length+3000:=by
 have f:=h.coefs;have k:=h.taps;have g:=h.stages
 grind[a2x,a0Y,c2D,a6v,b5x]
theorem b6J:∀(zs:List Nat)(ks l L:List Int),ks.all kB=true→(a4O zs ks l L).length≤L.length+10*zs.length+100*l.length
 |z::zs,k::ks,l,L,h=>by
  simp only[a07,bA]at h;have g:=b7l h.1 (l.take z) L;have f:=b6J zs ks (l.drop z) (a9A k (l.take z) L) h.2;rw[a95]at g;rw[a52]at f;simp only[a4O,lC];omega
 | [],_,_,_,_=>by simp_all[a4O]
 |_::_,[],_,_,_=>by grind[a4O]
def a5o(s:Sub)(zn:List Nat)(L:List Int):List Int:=
 if s.1=0∨s.1=1 then a1D (a0I s.2.2.2.2.2.2.2.2.1) s.2.2.2.2.2.2.2.2.1 (a2x s (b2d s L))
 else a4n s.2.2.2.2.2.2.2.2.2.1 zn s.2.2.2.2.2.2.2.2.2.2.1 (a1D (a0I s.2.2.2.2.2.2.2.2.1) s.2.2.2.2.2.2.2.2.1 (a2x s (b2d s L)))
theorem b5S(h:SmallS s)(R:L.length<100000000):
  ∃(e:Int)(L':List Int),a9N (wL L,s,n)=some (e,wL L')∧(e=0∨L'=L)∧L'.length≤L.length+700000∧
   ((a2l s n).isSome=true→e=0∧∃a,L'=a5o s a L∧(s.1≠0∧s.1≠1→PartsOk s.2.2.2.2.2.2.2.2.2.1 n ((s.2.2.2.2.2.2.2.2.1.length:Nat):Int) s.2.2.2.2.2.2.2.2.2.2.1 a))∧((a2l s n).isSome=false→e=1∧L'=L):=by
 unfold a9N;simp only[b9H h,oB];cases hs:(a2l s n).isSome with
 |false=>exact⟨1,L,rfl,.inr rfl,by omega,fun h=>(by grind),fun _=>⟨rfl,rfl⟩⟩
 |true=>
  have hp:a1u s n:=by
   grind[a2l]
  obtain⟨P,Q,z,-,-,-,-,u,D,A,-,o⟩:=hp;have b:=c7h z;have m:=a6C s.2.2.2.2.2.2.2.2.1;have r:short s.2.2.2.2.2.2.2.2.1:=by have:=h.warm;unfold short;omega
  have c:=h.warm;have q:=h.rest;have B:=h.stages;have C:=h.taps;have q1:=a0Y (wrap .u64 s.1) 3 L;have S:=a0Y (wrap .u64 s.2.1) 5 (a0Q (wrap .u64 s.1) 3 L);have T:=a0Y ((a0I s.2.2.2.2.2.2.2.2.1:Nat):Int) 5 (a0Q (wrap .u64 s.2.1) 5 (a0Q (wrap .u64 s.1) 3 L));have y:wrap .u64 ((a0I s.2.2.2.2.2.2.2.2.1:Nat):Int)=((a0I s.2.2.2.2.2.2.2.2.1:Nat):Int):=a0N (by omega);have H:a0G (wL L,wrap .u64 s.1,(3:Int))=some (a8h (wrap .u64 s.1) 3,wL (a0Q (wrap .u64 s.1) 3 L)):=a3e (n:=3) (by omega) (by omega);have I:a0G (wL (a0Q (wrap .u64 s.1) 3 L),wrap .u64 s.2.1,(5:Int))=some (a8h (wrap .u64 s.2.1) 5,wL (a0Q (wrap .u64 s.2.1) 5 (a0Q (wrap .u64 s.1) 3 L))):=a3e (n:=5) (by omega) (by omega);have v:a0G (wL (a0Q (wrap .u64 s.2.1) 5 (a0Q (wrap .u64 s.1) 3 L)),((a0I s.2.2.2.2.2.2.2.2.1:Nat):Int),(5:Int))=some (a8h ((a0I s.2.2.2.2.2.2.2.2.1:Nat):Int) 5,wL (b2d s L)):=a3e (n:=5) (by omega) (by omega);have K:(b2d s L).length≤L.length+13:=by unfold b2d;omega
  generalize hM:b2d s L=M at v K;have U:=c3s h M;have N:=a6v (a0I s.2.2.2.2.2.2.2.2.1) s.2.2.2.2.2.2.2.2.1 (a2x s M);have V:a0I s.2.2.2.2.2.2.2.2.1*s.2.2.2.2.2.2.2.2.1.length≤32*5000:=Nat.mul_le_mul m c;have g:=c1M (l:=s.2.2.2.2.2.2.2.2.1) (n:=n) (s:=s) m (by omega) s.2.2.2.2.2.2.2.2.1.length 0 (a2x s M) (by omega) (by omega);simp at g

  have i:=b8n (st:=s.2.2.2.2.2.2.2.1) (n:=n) (wd:=((a0I s.2.2.2.2.2.2.2.2.1:Nat):Int)) (s:=s) (by omega) s.2.2.2.2.2.2.2.1.length 0 (a0Q (wrap .u64 ((s.2.2.2.2.2.2.2.1.length:Nat):Int)) 2 M) (by omega) (by grind[a0Y]);have X:=a0Y (wrap .u64 (wrap .i64 (s.2.2.2.2.1-1))) 10 M;have Y:=a6v 8 s.2.2.2.2.2.2.1 (a0Q (wrap .u64 (wrap .i64 (s.2.2.2.2.1-1))) 10 M);have j:=c1L (t:=s.2.2.2.2.2.2.1) (n:=n) (wd:=((a0I s.2.2.2.2.2.2.2.2.1:Nat):Int)) (s:=s) C 3 0 (a0Q (wrap .u64 (wrap .i64 (s.2.2.2.2.1-1))) 10 M) (by rfl) (by omega);simp at i j;have E:a0G (wL M,wrap .u64 s.2.2.1,(3:Int))=some (a8h (wrap .u64 s.2.2.1) 3,wL (a0Q (wrap .u64 s.2.2.1) 3 M)):=a3e (n:=3) (by omega) (by omega);have F:a0G (wL M,wrap .u64 (wrap .i64 (s.2.2.2.2.1-1)),(10:Int))=some (a8h (wrap .u64 (wrap .i64 (s.2.2.2.2.1-1))) 10,wL (a0Q (wrap .u64 (wrap .i64 (s.2.2.2.2.1-1))) 10 M)):=a3e (n:=10) (by omega) (by omega);have G:a0G (wL M,wrap .u64 ((s.2.2.2.2.2.2.2.1.length:Nat):Int),(2:Int))=some (a8h (wrap .u64 ((s.2.2.2.2.2.2.2.1.length:Nat):Int)) 2,wL (a0Q (wrap .u64 ((s.2.2.2.2.2.2.2.1.length:Nat):Int)) 2 M)):=a3e (n:=2) (by omega) (by omega);have w:=b8o (s:=s) h.coefs (L:=M) (by omega);have x:=b8o (s:=s) h.coefs (L:=a1D 8 s.2.2.2.2.2.2.1 (a0Q (wrap .u64 (wrap .i64 (s.2.2.2.2.1-1))) 10 M)) (by omega);simp only[bT,cF,a2p r,oB,H,I,y,v];generalize hPM:a1D (a0I s.2.2.2.2.2.2.2.2.1) s.2.2.2.2.2.2.2.2.1 (a2x s M)=PM at g N

  have tail:∀(d:s.1≠0∧s.1≠1),∃a,PartsOk s.2.2.2.2.2.2.2.2.2.1 n ((s.2.2.2.2.2.2.2.2.1.length:Nat):Int) s.2.2.2.2.2.2.2.2.2.2.1 a:=fun d=>by
   simp_all[PartsOk.of]
  rcases b with k|k|k|k|k|k;have f:a2x s M=M:=by unfold a2x;grind
  rw[f]at g;refine⟨0,PM,?_,.inl rfl,by omega,fun _=>⟨rfl,[],by simp_all[a5o],fun h=>absurd k (by omega)⟩,fun h=>by grind⟩;simp only[k,show((0:Int)==2)=false from rfl,show((0:Int)==4)=false from rfl,show((0:Int)==3)=false from rfl,show((0:Int)==5)=false from rfl,cF,oB,g,a6B]
  simp
  have f:a2x s M=M:=by unfold a2x;grind
  rw[f]at g;refine⟨0,PM,?_,.inl rfl,by omega,fun _=>⟨rfl,[],by simp_all[a5o],fun h=>absurd k (by omega)⟩,fun h=>by grind⟩;simp only[k,show((1:Int)==2)=false from rfl,show((1:Int)==4)=false from rfl,show((1:Int)==3)=false from rfl,show((1:Int)==5)=false from rfl,cF,oB,g,a6B]
  simp
  all_goals
   obtain⟨a,p⟩:=tail (by omega);have Z:=c3r (L:=PM) p (by omega);have O:(a4n s.2.2.2.2.2.2.2.2.2.1 a s.2.2.2.2.2.2.2.2.2.2.1 PM).length≤L.length+700000:=by
    have z1:=a0Y (wrap .u64 s.2.2.2.2.2.2.2.2.2.1.1) 4 PM;have z2:=b6J a s.2.2.2.2.2.2.2.2.2.1.2.1 s.2.2.2.2.2.2.2.2.2.2.1 (a0Q (wrap .u64 s.2.2.2.2.2.2.2.2.2.1.1) 4 PM) p.all;have z3:=p.len
    grind[a4n]
   refine⟨0,a4n s.2.2.2.2.2.2.2.2.2.1 a s.2.2.2.2.2.2.2.2.2.2.1 PM,?_,.inl rfl,O,fun _=>⟨rfl,a,by simp_all[a5o],fun _=>p⟩,fun h=>by grind⟩
  have f:a2x s M=a0Q (wrap .u64 s.2.2.1) 3 M:=by unfold a2x;grind
  rw[f]at g;simp only[k,show((2:Int)==2)=true from rfl,cT,E,oB,g,a6B]
  grind
  have f:a2x s M=a6y s M:=by unfold a2x;grind
  rw[f]at g;simp only[k,show((3:Int)==2)=false from rfl,show((3:Int)==4)=false from rfl,show((3:Int)==3)=true from rfl,cT,cF,w,oB,g,a6B]
  grind
  have f:a2x s M=a6y s (a1D 8 s.2.2.2.2.2.2.1 (a0Q (wrap .u64 (wrap .i64 (s.2.2.2.2.1-1))) 10 M)):=by unfold a2x;grind
  rw[f]at g;simp only[k,show((4:Int)==2)=false from rfl,show((4:Int)==4)=true from rfl,cT,cF,F,j,x,oB,g,a6B]
  grind
  have f:a2x s M=a3g s.2.2.2.2.2.2.2.1 (a0Q (wrap .u64 ((s.2.2.2.2.2.2.2.1.length:Nat):Int)) 2 M):=by unfold a2x;grind
  rw[f]at g;simp only[k,show((5:Int)==2)=false from rfl,show((5:Int)==4)=false from rfl,show((5:Int)==3)=false from rfl,show((5:Int)==5)=true from rfl,cT,cF,G,i,oB,g,a6B]
  grind
theorem b5b(h:List Nat):(a1p h).map a42=h:=by
 unfold a1p;rw[List.map_map]
 have:a42∘(fun(a:Nat)=>(a:Int))=id:=by rfl
 simp_all
def a5c(s:Sub)(n:Int):Int:=
 if(a2l s n).isSome=true then(((a5o s ((a1J s.2.2.2.2.2.2.2.2.2.1.1 n ((s.2.2.2.2.2.2.2.2.1.length:Nat):Int)).map a42) []).length:Nat):Int)else 0
theorem c1p(h:s.1≠0∧s.1≠1→PartsOk s.2.2.2.2.2.2.2.2.2.1 n ((s.2.2.2.2.2.2.2.2.1.length:Nat):Int) s.2.2.2.2.2.2.2.2.2.2.1 zn)(L:List Int):
  a5o s zn L=a5o s ((a1J s.2.2.2.2.2.2.2.2.2.1.1 n ((s.2.2.2.2.2.2.2.2.1.length:Nat):Int)).map a42) L:=by
 by_cases hk:s.1=0∨s.1=1
 simp_all[a5o];rw[(h (not_or.1 hk)).sizes,b5b]
theorem c5a(h:SmallS s)(n:Int):a4e (s,n)=some (a5c s n):=by
 obtain⟨e,f,g,-,-,k,c⟩:=b5S h (n:=n) (L:=[]) (by simp);have a:wL []=(([]:List Int),(0:Int),()):=rfl;rw[a]at g;obtain⟨d,-⟩:=a5Q f;unfold a4e a5c;simp[g,a8U];cases hs:(a2l s n).isSome with
 |false=>
  simp_all
 |true=>
  obtain⟨rfl,i,rfl,b⟩:=k hs;rw[if_pos rfl,←c1p b];simp_all
def dif:List Int→List Int
 |a::b::r=>W (b-a)::dif (b::r)
 |_=>[]
theorem a8L:∀l:List Int,(dif l).length=l.length-1
 | []=>rfl
 | [_]=>rfl
 |a::b::r=>by simp[dif,a8L (b::r)]
theorem c1q:∀(l:List Int)(i:Nat)(x y:Int),l[i]?=some x→l[i+1]?=some y→(dif l)[i]?=some (W (y-x))
 |a::b::r,0,x,y,h1,h2=>by simp at h1 h2;subst h1;subst h2;rfl
 |a::b::r,i+1,x,y,h1,h2=>by
  simp only[dif,List.getElem?_cons_succ]at h1 h2⊢;exact c1q (b::r) i x y h1 h2
 | [_],0,x,y,h1,h2=>by simp_all
 | [_],i+1,x,y,h1,h2=>by simp_all
 | [],i,x,y,h1,h2=>by simp_all
def a2m:Nat→List Int→List Int
 |0,l=>l
 |o+1,l=>dif (a2m o l)
theorem a5R(l:List Int):∀o,(a2m o l).length=l.length-o
 |0=>rfl
 |o+1=>by simp only[a2m,a8L,a5R l o];omega
theorem b5T{l:List Int}(h:short l)(o:Nat):short (a2m o l):=by
 have h:l.length<1000000:=h;show(a2m o l).length<1000000;rw[a5R];omega
def b1t(l:List Int)(i:Nat):List Int:=(dif l).take i++l.drop i
theorem b5c(h:i≤l.length-1):(b1t l i).length=l.length:=by
 grind[b1t,a8L]
theorem c1N(h:i≤l.length-1)(g:i≤j):(b1t l i).getD j 0=l.getD j 0:=by
 simp_all[a8L,b1t,List.getElem?_append_right]
theorem c8s(h:i<l.length-1):(b1t l i).set i (W (l.getD (i+1) 0-l.getD i 0))=b1t l (i+1):=by
 have e:((dif l).take i).length=i:=by grind[a8L]
 have f:l[i]?=some l[i]:=lG (by omega);have k:l[i+1]?=some l[i+1]:=lG (by omega);have a:=c1q l i _ _ f k;have g:i<(dif l).length:=by grind
 simp only[b1t];rw[List.set_append,if_neg (by omega),e,a56,a02 (show i<l.length by omega),a60,a49 g,aA]
 grind
theorem c6e{l:List Int}{o k:Int}(g:short l)(h:1≤l.length):y0s a5w ((0:Int),o,k,l,())=some (o,k,b1t l (l.length-1),()):=by
 have g:l.length<1000000:=g;have r:b1t l 0=l:=by rfl
 have:=a1C (f:=a5w) (fun i:Nat=>((i:Int),o,k,b1t l i,())) (l.length-1) (b:=(o,k,b1t l (l.length-1),()))
  (fun i hi=>by
   have d:wrap .i64 ((i:Int)+1)=((i+1:Nat):Int):=a0B (by omega);have c:=b5c (l:=l) (i:=i) (by omega);have a:decide (((i+1:Nat):Int)<((l.length:Nat):Int))=true:=by grind
   have e:decide ((0:Int)≤((i+1:Nat):Int))=true:=by rfl
   have m:decide ((0:Int)≤(i:Int))=true:=by simp
   have n:decide ((i:Int)<((l.length:Nat):Int))=true:=by grind
   have n1:a42 ((i+1:Nat):Int)=i+1:=by rfl
   have n2:a42 (i:Int)=i:=by rfl
   have st:=c8s (l:=l) (i:=i) (by omega);have p:=c1N (l:=l) (i:=i) (j:=i+1) (by omega) (by omega);have q:=c1N (l:=l) (i:=i) (j:=i) (by omega) (by omega);simp_all[a5w])
  (by
   have c:=b5c (l:=l) (i:=l.length-1) (by omega);have d:wrap .i64 (((l.length-1:Nat):Int)+1)=((l.length:Nat):Int):=by grind[a0C]
   have a:decide (((l.length:Nat):Int)<((l.length:Nat):Int))=false:=by simp
   simp_all[a5w])
 simp_all
theorem c7k{l:List Int}:(b1t l (l.length-1)).take (l.length-1)=dif l:=by
 simp_all[a48,a8L,b1t]
theorem b6K(y:o≤4)(x:o≤l.length)(g:short l)(r:l.all a0A=true):
  a4H (l,(o:Int))=some (bif (a2m o l).all a0A then(a2m o l,0)else([],6)):=by
 have q:l.length<1000000:=g;have h:=a1C (f:=a7L) (fun k:Nat=>((o:Int),(k:Int),a2m k l,())) o (b:=(a2m o l,()))
  (fun k v=>by
   have n:1≤(a2m k l).length:=by rw[a5R];omega
   have p:(a2m k l).length<1000000:=b5T g k;have j:decide ((k:Int)<(o:Int))=true:=by simp_all
   have w:=b5c (l:=a2m k l) (i:=(a2m k l).length-1) (by omega);have z:wrap .i64 ((((a2m k l).length:Nat):Int)-1)=(((a2m k l).length-1:Nat):Int):=by grind[a0C]
   have w2:wrap .i64 ((k:Int)+1)=((k+1:Nat):Int):=a0B (by omega);have s:decide ((0:Int)≤(((a2m k l).length-1:Nat):Int))=true:=by simp
   have t:decide ((((a2m k l).length-1:Nat):Int)≤(((a2m k l).length:Nat):Int))=true:=by simp
   have u:decide ((a2m k l).length-1≤(a2m k l).length)=true:=by simp
   simp_all[a2m,a7L,c6e,b5T,c7k])
  (by
   have j:decide ((o:Int)<(o:Int))=false:=by simp
   simp_all[a7L])
 have a:decide ((o:Int)<0)=false:=by simp
 have c:decide ((o:Int) > 4)=false:=by grind
 have d:decide (((l.length:Nat):Int)<(o:Int))=false:=by simp_all
 have e:lim l.length=true:=a0W (by omega);simp at h;have m:a2m 0 l=l:=rfl;rw[m]at h;unfold a4H;simp only[a,c,d,e,cF,cT,oB,a7o g,r,bT,h,a7o (b5T g o)]
 grind
def ex:Nat→(Nat→Int)→Nat→Int
 |0,f,i=>f i
 |o+1,f,i=>ex o f (i+1)-ex o f i
theorem b8U{l:List Int}(g:l.all a0A=true):∀(o i:Nat),i+o<l.length→(a2m o l)[i]?=some (W (ex o (fun j=>l.getD j 0) i))
 |0,i,h=>by
  simp_all[a2m,ex,b7i]
 |o+1,i,h=>by
  have f:=b8U g o i (by omega);have k:=b8U g o (i+1) (by omega);simp_all[a2m,ex,c1q,a8f]
theorem c7l(e:l.all a0A=true)(d:o≤4)(h:o+j<l.length):W (W (ex o (fun j=>l.getD j 0) j)+a6s o (l.take (o+j)))=l.getD (o+j) 0:=by
 have f:a0A (l.getD (o+j) 0)=true:=by
  simp_all
 have g:∀i:Nat,1≤i→i≤o→atB (l.take (o+j)) i=l.getD (o+j-i) 0:=fun i b c=>by
  simp[atB,a71 (a84 h),List.getElem?_take]
  grind
 have a:ex o (fun j=>l.getD j 0) j+a6s o (l.take (o+j))=l.getD (o+j) 0:=by
  have k:o=0∨o=1∨o=2∨o=3∨o=4:=by omega
  rcases k with rfl|rfl|rfl|rfl|rfl;simp[ex,a6s]
  all_goals grind[ex,a6s]
 have:W (W (ex o (fun j=>l.getD j 0) j)+a6s o (l.take (o+j)))=W (ex o (fun j=>l.getD j 0) j+a6s o (l.take (o+j))):=by
  simp_all[a8f]
 simp_all[b7i]
theorem c3t{l:List Int}(f:l.all a0A=true){o:Nat}(b:o≤4):∀(k j:Nat),o+j+k=l.length→a4g (a6s o) ((a2m o l).drop j) (l.take (o+j))=some l
 |0,j,h=>by
  rw[List.drop_of_length_le (by rw[a5R];omega),a48 (by omega)];rfl
 |k+1,j,h=>by
  have g:j<(a2m o l).length:=by rw[a5R];omega
  have a:=b8U f o j (by omega);rw[lG g]at a;have e:=Option.some.inj a;have c:l.getD (o+j) 0=l[o+j]:=by grind
  have st:=c7l f b (show o+j<l.length by omega);rw[c]at st;rw[a02 g,e];simp only[a4g,st,lA.1 f _ (a05 (show o+j<l.length by omega)),cT];have d:l.take (o+j)++[l[o+j]]=l.take (o+(j+1)):=by
   rw[show o+(j+1)=(o+j)+1 by rfl]
   simp
  rw[d];exact c3t f b k (j+1) (by omega)
theorem a7z{σ β:Type}{f:σ→Option (σ ⊕ β)}(I:Nat→σ→Prop)(Q:β→Prop)(n:Nat)(g:∀i s,i<n→I i s→∃s',f s=some (.inl s')∧I (i+1) s')
  (a:∀s,I n s→∃b,f s=some (.inr b)∧Q b):∀(k i:Nat)(s:σ),i+k=n→I i s→∃b,y0s f s=some b∧Q b
 |0,i,s,h,hi=>by
  obtain rfl:i=n:=by omega
  grind[a0E]
 |k+1,i,s,h,hi=>by
  obtain⟨s',c,d⟩:=g i s (by omega) hi;rw[a0F c];exact a7z I Q n g a k (i+1) s' (by omega) d
theorem b8p(y:Int):0≤wrap .u64 y∧wrap .u64 y<18446744073709551616:=by
 grind[wrap,IntKind.bits,IntKind.signed]
def b2e(n:Int)(x:Int):Bool:=a0A x&&!(a26 x (A0n .i64 1 n) != 0)
def b5U{β:Type}(n:Int)(bad:β)(out:List Int)(x:Int):List Int ⊕ β:=bif b2e n x then .inl (out++[A0o .i64 x n])else .inr bad
def b0V(n:Int)(l:List Int):Option (List Int):=bif l.all (b2e n)then some (l.map fun x=>A0o .i64 x n)else none
theorem b6L{β:Type}(n:Int)(h:β)(g:List Int→β):∀(l out:List Int),a8d g (a2O (b5U n h) l out)=match b0V n l with|some r=>g (out++r)|none=>h
 | [],out=>by grind[a2O,a8d,b0V]
 |x::l,out=>by
  simp only[a2O,b5U,b0V,a07];cases hx:b2e n x with
  |true=>
   simp only[cT,a39];rw[b6L n h g l _];simp only[b0V];cases l.all (b2e n)with
   |true=>simp
   |false=>rfl
  |false=>rfl
theorem c3u{o:Nat}(h:o≤30):A0n .i64 1 (o:Int)=((2^o:Nat):Int):=by
 have g:2^o≤2^30:=a08 (by omega) h
 have:=b8R (N:=1) (o:=o) (by omega) (by omega)
 simp_all
theorem b5y(d:o≤30)(m:l.length<100000):a7j (l,(o:Int))=some (a5e (b0V (o:Int) l)):=by
 have e:short l:=by unfold short;omega
 have g:¬ (o:Int)<0:=by omega
 have b:¬ (o:Int) > 30:=by omega
 have c:(A0n .i64 (1:Int) (o:Int)==0)=false:=by
  rw[c3u d]
  have:0<2^o:=a16 o
  grind
 unfold a7j;simp[g,b]
 have:=a1G (f:=a6P) l (fun i out=>((o:Int),l,(l.length:Int),(i:Int),out,())) (b5U (o:Int) (Sum.inr ((6:Int),([]:List Int),())))
  (fun i out=>out.length=i) (fun out=>Sum.inl (out,()))
  (fun i h out j=>by
   have k:i<1000000:=by omega
   simp only[a6P,dlt h,cT,a0D h,oB,b5q,b5U,b2e,g,c,decide_false,cF];cases hb:a0A l[i]with
   |true=>
    cases hb2:(a26 l[i] (A0n .i64 1 (o:Int)) != 0)with
    |false=>
     simp only[cT,bT,cF,oB,g,decide_false,a0X (show out.length+1<1000000 by omega),a0B k,a03,a36,hb2];simp_all
    |true=>
     simp
   |false=>
    simp)
  (fun out _=>by simp[a6P]) (a:=[]) rfl
 simp[b6L]at this;rw[this];cases b0V (o:Int) l<;>rfl
theorem b8V{o:Nat}(h:o≤30){x:Int}(k:b2e (o:Int) x=true):a0A (A0o .i64 x (o:Int))=true∧A0n .i64 (A0o .i64 x (o:Int)) (o:Int)=x∧a0A x=true:=by
 simp only[b2e,c3u h,bA,a33,bne_eq_false_iff_eq]at k;obtain⟨f,d⟩:=k;obtain⟨c,rfl⟩:=Int.dvd_of_tmod_eq_zero d;have g:=a1H.1 f;have e:min (a42 (o:Int)) (IntKind.bits .i64)=o:=by grind[IntKind.bits]
 have hp:(0:Int)<2^o:=Int.pow_pos (by omega);have b:((2^o:Nat):Int)=2^o:=by simp
 rw[b]at g f⊢;have a:A0o .i64 (2^o*c) (o:Int)=c:=by
  unfold A0o
  grind[a64]
 rw[a];refine⟨a1H.2 ?_,?_,f⟩;generalize (2:Int)^o=p at hp g;have i:p*c=(p-1)*c+c:=by grind
 by_cases hc:0≤c
 have:=a47 (show 0≤p-1 by omega) hc
 omega
 have:=a47 (show 0≤p-1 by omega) (show 0≤-c by omega)
 grind
 grind[A0n,a0C]
theorem d0W(h:o≤30)(f:b0V (o:Int) l=some d):d.all a0A=true∧d.length=l.length∧upO (o:Int) d=some l:=by
 unfold b0V at f;cases ha:l.all (b2e (o:Int))with
 |false=>simp_all
 |true=>
  rw[ha]at f;simp at f;subst f;have g:=lA.1 ha;refine⟨?_,by simp,?_⟩;simp_all[b8V];have a:(l.map fun x=>A0o .i64 x (o:Int)).all (fun x=>a0A x&&a0A (A0n .i64 x (o:Int)))=true:=by
   simp only[List.all_map];refine lA.2 fun x k=>?_
   obtain⟨c,e,i⟩:=b8V h (g x k);simp_all
  unfold upO;rw[a]
  simp
  have b:l.map ((fun x=>A0n .i64 x (o:Int))∘fun x=>A0o .i64 x (o:Int))=l.map id:=List.map_congr_left (fun x k=>(b8V h (g x k)).2.1);simp_all
theorem c6f{n warm:Int}(h:a6u n warm=true):(a1J 0 n warm).length≠0:=by
 have g:=h;simp[a6u]at g
 grind[a1J,b5s]
theorem c6g(h:-1048576≤x∧x≤1048575):v0s (v0r x (-1048576)) 1048575=x:=by
 unfold v0s v0r
 grind
theorem d4n(h:a0A x=true):-1048576≤A0o .i64 x ((10:Nat):Int)∧A0o .i64 x ((10:Nat):Int)≤1048575:=by
 have g:=a1H.1 h;have e:A0o .i64 x ((10:Nat):Int)=x / 1024:=by
  show a80 x 1024=_
  grind
 omega
theorem c1O{x:Int}(f:a0A x=true){a l:List Int}{n i:Int}:∀(k s:Nat),s+k=10→∃s':Nat,s'≤10∧y0s a3u (a,(s:Int),x,l,n,i,())=some (a,(s':Int),l,n,i,())
 |0,s,h=>by
  obtain rfl:s=10:=by omega
  have g:decide (((10:Nat):Int)<0)=false:=by rfl
  have d:=c6g (d4n f);refine⟨10,a27 _,a0E ?_⟩;simp_all[a3u,a2D]
 |k+1,s,h=>by
  have g:decide ((s:Int)<0)=false:=decide_eq_false (by omega);cases hc:(v0s (v0r (A0o .i64 x (s:Int)) (-1048576)) 1048575 != A0o .i64 x (s:Int))with
  |false=>exact⟨s,by omega,a0E (by simp only[a3u,g,cF,a2D,oB,hc])⟩
  |true=>
   obtain⟨s',b,c⟩:=c1O f (a:=a) (l:=l) (n:=n) (i:=i) k (s+1) (by omega);refine⟨s',b,?_⟩;rw[a0F (s':=(a,((s+1:Nat):Int),x,l,n,i,())) (by simp only[a3u,g,cF,a2D,oB,hc,cT,a0B (show s<1000000 by omega)])];omega
theorem c4H(v:l.all a0A=true)(z:l.length<100000):∃r,a7M l=some r∧r.length=l.length:=by
 obtain⟨b,x,s,y,u⟩:=a7z (f:=a5x) (fun i st=>∃s:Nat,s≤10∧st=(l,(s:Int),l,(l.length:Int),(i:Int),())) (fun b=>∃s:Nat,s≤10∧b=(l,(s:Int),())) l.length
  (fun i st hi h=>by
   obtain⟨s,p,rfl⟩:=h;obtain⟨s',g,e⟩:=c1O (lA.1 v _ (a05 hi)) (a:=l) (l:=l) (n:=(l.length:Int)) (i:=(i:Int)) (10-s) s (by omega);exact⟨_,by simp only[a5x,dlt hi,cT,a0D hi,oB,e,a0B (show i<1000000 by omega)]<;>rfl,s',g,rfl⟩)
  (fun st h=>by
   obtain⟨s,p,rfl⟩:=h;exact⟨_,by simp_all[a5x],s,p,rfl⟩) l.length 0 _ (by omega) ⟨0,by omega,rfl⟩
 subst u;obtain⟨c,w,o,q,t⟩:=a7z (f:=a5y) (fun i st=>∃o:List Int,st=((s:Int),l,(l.length:Int),(i:Int),o,())∧o.length=l.length) (fun b=>∃o:List Int,b=(o,())∧o.length=l.length) l.length
  (fun i st hi h=>by
   obtain⟨o,rfl,m⟩:=h;have k:decide ((s:Int)<0)=false:=decide_eq_false (by omega);have d:decide ((0:Int)≤(i:Int))=true:=by simp
   have j:decide ((i:Int)<((o.length:Nat):Int))=true:=decide_eq_true (by omega);exact⟨_,by simp only[a5y,dlt hi,cT,a0D hi,oB,k,cF,d,j,a03,a0B (show i<1000000 by omega)]<;>rfl,_,rfl,by grind⟩)
  (fun st h=>by
   obtain⟨o,rfl,m⟩:=h;exact⟨_,by simp_all[a5y],o,rfl,m⟩) l.length 0 _ (by omega) ⟨a00 l.length 0,rfl,by simp⟩
 subst q;refine⟨o,?_,t⟩;have k:decide ((0:Int)≤((l.length:Nat):Int))=true:=by simp
 have d:decide (((l.length:Nat):Int)≤((l.length:Nat):Int))=true:=by simp
 have j:lim l.length=true:=a0X (by omega);simp_all[a7M]
theorem b9M:∀(N:Nat)(num den:Int),den.toNat≤N→∃a b,y0s a3o (num,den,())=some (a,b,())
 |N,num,den,h=>by
  by_cases hd:den≥1099511627776
  ·have g:decide (den≥(1099511627776:Int))=true:=decide_eq_true hd;have e:A0o .i64 den 1=den / 2:=by
    show a80 den 2=_
    grind
   rw[a0F (s':=(A0o .i64 num 1,den / 2,())) (by simp_all[a3o])]
   match N with
   |0=>omega
   |N+1=>exact b9M N _ _ (by omega)
  have g:decide (den≥(1099511627776:Int))=false:=decide_eq_false hd;exact⟨num,den,a0E (by simp only[a3o,g,cF])⟩
theorem b9N{f:List Int}(t:1≤m)(r:g.length=f.length)(s:f.length<100000)(q:m<1000):∃k,a4W (f,g,(m:Int))=some k:=by
 obtain⟨b,n,d,den,o⟩:=a7z (f:=a3n) (fun i st=>∃d den:Int,st=(f,g,d,den,((m+i:Nat):Int),())) (fun b=>∃d den:Int,b=(d,den,())) (f.length-m)
  (fun i st hi h=>by
   obtain⟨d,den,rfl⟩:=h;have j:m+i<f.length:=by omega
   have e:wrap .i64 (((m+i:Nat):Int)-1)=((m+i-1:Nat):Int):=by grind[a0C]
   exact⟨_,by simp only[a3n,dlt j,cT,a0D j,e,a0D (show m+i-1<g.length by omega),oB,a0B (show m+i<1000000 by omega)]<;>rfl,_,_,rfl⟩)
  (fun st h=>by
   obtain⟨d,den,rfl⟩:=h;have l:decide (((m+(f.length-m):Nat):Int)<((f.length:Nat):Int))=false:=decide_eq_false (by omega);exact⟨_,by simp only[a3n,l,cF]<;>rfl,_,_,rfl⟩) (f.length-m) 0 (f,g,0,0,(m:Int),()) (by omega) ⟨0,0,rfl⟩
 subst o;obtain⟨a,c,p⟩:=b9M den.toNat d den (a27 _);unfold a4W;simp[n,p];cases hc:(c==0)with
 |true=>simp
 |false=>
  simp
  cases decide ((A0n .i64 a 15).tmod c<0)<;>exact⟨_,rfl⟩
theorem c2E{f:List Int}{order:Int}(x:1≤m)(r:g.length=f.length)(w:f.length<100000)(s:m<1000):
  ∃f' a:List Int,y0s a3b (order,(m:Int),k,((f.length:Nat):Int)-1,f,g,ks,())=some (order,(m:Int),f',a,ks,())∧f'.length=f.length∧a.length=f.length:=by
 obtain⟨b,t,f',a,u,v⟩:=a7z (f:=a3b) (fun i st=>∃f' a:List Int,st=(order,(m:Int),k,((f.length:Nat):Int)-1-(i:Int),f',a,ks,())∧f'.length=f.length∧a.length=f.length)
  (fun b=>∃f' a:List Int,b=(order,(m:Int),f',a,ks,())∧f'.length=f.length∧a.length=f.length) (f.length-m)
  (fun i st hi h=>by
   obtain⟨f',a,rfl,c,d⟩:=h;have j:decide (((f.length:Nat):Int)-1-(i:Int)≥(m:Int))=true:=decide_eq_true (by omega);have l:decide ((0:Int)≤((f.length:Nat):Int)-1-(i:Int))=true:=decide_eq_true (by omega);have n:decide (((f.length:Nat):Int)-1-(i:Int)<((f'.length:Nat):Int))=true:=decide_eq_true (by omega);have o:decide (((f.length:Nat):Int)-1-(i:Int)<((a.length:Nat):Int))=true:=decide_eq_true (by omega);have e:wrap .i64 (((f.length:Nat):Int)-1-(i:Int)-1)=((f.length:Nat):Int)-1-((i+1:Nat):Int):=by grind[a0C]
   have p:decide ((0:Int)≤((f.length:Nat):Int)-1-((i+1:Nat):Int))=true:=decide_eq_true (by omega);have q:decide (((f.length:Nat):Int)-1-((i+1:Nat):Int)<((a.length:Nat):Int))=true:=decide_eq_true (by omega);exact⟨_,by simp only[a3b,j,l,n,o,e,p,q,cT,a03,a2D,oB]<;>rfl,_,_,rfl,by simp_all,by simp_all⟩)
  (fun st h=>by
   obtain⟨f',a,rfl,c,d⟩:=h;have j:decide (((f.length:Nat):Int)-1-((f.length-m:Nat):Int)≥(m:Int))=false:=decide_eq_false (by omega);exact⟨_,by simp only[a3b,j,cF]<;>rfl,f',a,rfl,c,d⟩) (f.length-m) 0 _ (by omega) ⟨f,g,rfl,rfl,r⟩
 grind
theorem c3v{f:List Int}(x:o≤32)(v:g.length=f.length)(w:f.length<100000):∃ks:List Int,y0s a3c ((o:Int),(1:Int),f,g,([]:List Int),())=some (ks,())∧ks.length=o:=by
 obtain⟨b,p,ks,t,u⟩:=a7z (f:=a3c) (fun i st=>∃f' a ks:List Int,st=((o:Int),((i+1:Nat):Int),f',a,ks,())∧f'.length=f.length∧a.length=f.length∧ks.length=i)
  (fun b=>∃ks:List Int,b=(ks,())∧ks.length=o) o
  (fun i st hi h=>by
   obtain⟨f',a,ks,rfl,j,l,q⟩:=h;have d:decide (((i+1:Nat):Int)≤(o:Int))=true:=decide_eq_true (by omega);obtain⟨k,n⟩:=b9N (f:=f') (g:=a) (m:=i+1) (by omega) (by omega) (by omega) (by omega);have e:wrap .i64 (((f'.length:Nat):Int)-1)=((f'.length:Nat):Int)-1:=a0C (by omega);obtain⟨r,s,p,t,u⟩:=c2E (f:=f') (g:=a) (ks:=ks++[k]) (m:=i+1) (order:=(o:Int)) (k:=k) (by omega) (by omega) (by omega) (by omega);have c:lim (ks.length+1)=true:=a0X (by omega);exact⟨_,by simp only[a3c,d,cT,n,oB,c,e,a06,p,a0B (show i+1<1000000 by omega)]<;>rfl,r,s,ks++[k],rfl,by omega,by omega,by grind⟩)
  (fun st h=>by
   obtain⟨f',a,ks,rfl,j,l,q⟩:=h;have d:decide (((o+1:Nat):Int)≤(o:Int))=false:=decide_eq_false (by omega);exact⟨_,by simp only[a3c,d,cF]<;>rfl,ks,rfl,q⟩) o 0 _ (by omega) ⟨f,g,[],rfl,rfl,v,rfl⟩
 simp_all
theorem c3w(h:l.all a0A=true)(t:l.length≤4096)(s:1≤o)(m:o≤32):∃ks:List Int,a6Q (l,(o:Int))=some (ks,0)∧ks.length=o:=by
 have p:short l:=by unfold short;omega
 obtain⟨r,e,q⟩:=c4H h (by omega);have n:short r:=by unfold short;omega
 obtain⟨ks,i,j⟩:=c3v (f:=r) (g:=r) m rfl (by omega);have k:decide ((o:Int)<1)=false:=decide_eq_false (by omega);have a:decide ((o:Int) > 32)=false:=decide_eq_false (by omega);have b:decide (((l.length:Nat):Int) > 4096)=false:=decide_eq_false (by omega);have c:decide ((0:Int)≤(o:Int))=true:=by simp
 have d:lim o=true:=a0X (by omega);refine⟨ks,?_,j⟩;unfold a6Q;simp only[k,a,b,c,d,cF,cT,oB,a6d p,h,bT,e,a8g n,tN,a03,i]
theorem b3V{σ β:Type}{f:σ→Option (σ ⊕ β)}(I:Nat→σ→Prop)(Q:β→Prop)(n:Nat)(g:∀i s,i<n→I i s→(∃s',f s=some (.inl s')∧I (i+1) s')∨(∃b,f s=some (.inr b)∧Q b))
  (a:∀s,I n s→∃b,f s=some (.inr b)∧Q b):∀(k i:Nat)(s:σ),i+k=n→I i s→∃b,y0s f s=some b∧Q b
 |0,i,s,h,hi=>by
  obtain rfl:i=n:=by omega
  grind[a0E]
 |k+1,i,s,h,hi=>by
  rcases g i s (by omega) hi with⟨s',c,d⟩|⟨b,c,d⟩;rw[a0F c];exact b3V I Q n g a k (i+1) s' (by omega) d;simp_all[a0E]
theorem c4I(g:ks.length≤32):∃b,y0s a2g (ks,ks,(ks.length:Int),(0:Int),())=some b∧(b=.inl (ks,())∨b=.inr (([]:List Int),(1:Int),())):=
 b3V (f:=a2g) (fun i s=>s=(ks,ks,(ks.length:Int),(i:Int),())) (fun b=>b=.inl (ks,())∨b=.inr (([]:List Int),(1:Int),())) ks.length
  (fun i s hi h=>by
   subst h;cases h1:decide (ks[i]<(-16383:Int))with
   |true=>exact Or.inr ⟨_,by simp_all[a2g,a0D],Or.inr rfl⟩
   |false=>
    cases h2:decide (ks[i] > (16383:Int))with
    |true=>exact Or.inr ⟨_,by simp_all[a2g,a0D],Or.inr rfl⟩
    |false=>exact Or.inl ⟨_,by simp only[a2g,dlt hi,cT,cF,a0D hi,oB,h1,h2,a0B (show i<1000000 by omega)]<;>rfl,rfl⟩)
  (fun s h=>by
   subst h;exact⟨_,by simp_all[a2g],Or.inl rfl⟩) ks.length 0 _ (by omega) rfl
theorem c4J{a:List Int}(t:c.length=i)(hi:i≤32):
  ∃g:List Int,y0s a4a (c,(i:Int),k,a,n,(i:Int),c,(c.length:Int),(0:Int),([]:List Int),())=some (k,a,n,(i:Int),g,())∧g.length=i:=by
 obtain⟨b,p,g,q,r⟩:=a7z (f:=a4a) (fun j s=>∃g:List Int,s=(c,(i:Int),k,a,n,(i:Int),c,(c.length:Int),(j:Int),g,())∧g.length=j)
  (fun b=>∃g:List Int,b=(k,a,n,(i:Int),g,())∧g.length=c.length) c.length
  (fun j s e h=>by
   obtain⟨g,rfl,l⟩:=h;have m:wrap .i64 ((i:Int)-1)=(i:Int)-1:=a0C (by omega);have o:wrap .i64 ((i:Int)-1-(j:Int))=((i-1-j:Nat):Int):=by grind[a0C]
   have d:lim (g.length+1)=true:=a0X (by omega);exact⟨_,by simp only[a4a,dlt e,cT,a0D e,oB,m,o,a0D (show i-1-j<c.length by omega),d,a0B (show j<1000000 by omega),a06]<;>rfl,_,rfl,by grind⟩)
  (fun s h=>by
   obtain⟨g,rfl,l⟩:=h;exact⟨_,by simp_all[a4a],g,rfl,l⟩) c.length 0 _ (by omega) ⟨[],rfl,rfl⟩
 simp_all
theorem c6h(x:1≤ks.length)(v:ks.length≤32):∃c e,a8A ks=some (c,e)∧(e=0→c.length=ks.length):=by
 obtain⟨b,o,p⟩:=c4I v;have d:decide (((ks.length:Nat):Int)<1)=false:=decide_eq_false (by omega);have j:decide (((ks.length:Nat):Int) > 32)=false:=decide_eq_false (by omega);unfold a8A;simp[d,j,o];rcases p with rfl|rfl;obtain⟨r,q,c,t,u⟩:=a7z (f:=a5Y) (fun i s=>∃c:List Int,s=(c,ks,(ks.length:Int),(i:Int),())∧c.length=i) (fun r=>∃c:List Int,r=(c,())∧c.length=ks.length) ks.length
  (fun i s hi h=>by
   obtain⟨c,rfl,g⟩:=h;have m:wrap .i64 ((i:Int)+1)=((i+1:Nat):Int):=a0B (by omega);have l:decide ((0:Int)≤((i+1:Nat):Int))=true:=by rfl
   have l1:lim (i+1)=true:=a0X (by omega);obtain⟨w,n1,n2⟩:=c4J (c:=c) (a:=ks) (i:=i) (k:=ks[i]) (n:=(ks.length:Int)) g (by omega);have l2:lim (w.length+1)=true:=a0X (by omega);exact⟨_,by simp only[a5Y,dlt hi,cT,a0D hi,oB,m,l,tN,l1,a03,n1,l2,a06]<;>rfl,_,rfl,by grind⟩)
  (fun s h=>by
   obtain⟨c,rfl,g⟩:=h;exact⟨_,by simp_all[a5Y],c,rfl,g⟩) ks.length 0 _ (by omega) ⟨[],rfl,rfl⟩
 subst t;simp at q;exact⟨c,0,by simp_all,fun _=>u⟩
 grind
theorem c4K{s:Nat}{half:Int}(m:c.length≤32)(d:w≤32):
  ∃out:List Int,y0s a2i (c,(w:Int),(s:Int),half,c,(c.length:Int),(0:Int),([]:List Int),())=some (c,(w:Int),(s:Int),out,()):=by
 obtain⟨b,i,out,l⟩:=b3V (f:=a2i) (fun j st=>∃out:List Int,st=(c,(w:Int),(s:Int),half,c,(c.length:Int),(j:Int),out,())∧out.length=j)
  (fun b=>∃out:List Int,b=(c,(w:Int),(s:Int),out,())) c.length
  (fun j st k h=>by
   obtain⟨out,rfl,e⟩:=h;have a:decide ((s:Int)<0)=false:=decide_eq_false (by omega);have g:lim (out.length+1)=true:=a0X (by omega);cases hf:a1n (A0o .i64 (wrap .i64 (c[j]+half)) (s:Int)) (w:Int)with
   |true=>exact Or.inl ⟨_,by simp only[a2i,dlt k,cT,a0D k,oB,a,cF,a6w d,hf,bT,g,a0B (show j<1000000 by omega),a06]<;>rfl,_,rfl,by grind⟩
   |false=>exact Or.inr ⟨_,by simp only[a2i,dlt k,cT,a0D k,oB,a,cF,a6w d,hf,a36]<;>rfl,out,rfl⟩)
  (fun st h=>by
   obtain⟨out,rfl,e⟩:=h;exact⟨_,by simp_all[a2i],out,rfl⟩) c.length 0 _ (by omega) ⟨[],rfl,rfl⟩
 simp_all
theorem c4L{w:Int}(g:c.length≤32):∃b,y0s a2h (c,w,c,(c.length:Int),(0:Int),())=some b∧(b=.inl (c,w,())∨b=.inr ((0:Int),(1:Int),([]:List Int),())):=
 b3V (f:=a2h) (fun i s=>s=(c,w,c,(c.length:Int),(i:Int),())) (fun b=>b=.inl (c,w,())∨b=.inr ((0:Int),(1:Int),([]:List Int),())) c.length
  (fun i s hi h=>by
   subst h;cases h1:decide (c[i]<(-35184372088832:Int))with
   |true=>exact Or.inr ⟨_,by simp_all[a2h,a0D],Or.inr rfl⟩
   |false=>
    cases h2:decide (c[i] > (35184372088832:Int))with
    |true=>exact Or.inr ⟨_,by simp_all[a2h,a0D],Or.inr rfl⟩
    |false=>exact Or.inl ⟨_,by simp only[a2h,dlt hi,cT,cF,a0D hi,oB,h1,h2,a0B (show i<1000000 by omega)]<;>rfl,rfl⟩)
  (fun s h=>by
   subst h;exact⟨_,by simp_all[a2h],Or.inl rfl⟩) c.length 0 _ (by omega) rfl
theorem c6i(z:1≤c.length)(n:c.length≤32)(B:2≤w∧w≤16):∃o sh e,a8B (c,(w:Int))=some (o,sh,e)∧(e=0→o.length=c.length):=by
 obtain⟨b,v,x⟩:=c4L (w:=(w:Int)) n;have p:decide (((c.length:Nat):Int)<1)=false:=decide_eq_false (by omega);have q:decide (((c.length:Nat):Int) > 32)=false:=decide_eq_false (by omega);have t:decide ((w:Int)<2)=false:=decide_eq_false (by omega);have u:decide ((w:Int) > 16)=false:=decide_eq_false (by omega);unfold a8B;simp[p,q,t,u,v];rcases x with rfl|rfl
 ·obtain⟨r,A,y⟩:=b3V (f:=a2S) (fun i s=>s=(c,(w:Int),(i:Int),())) (fun r=>r=.inl ()∨∃(sh:Int)(o:List Int),r=.inr (sh,(0:Int),o,())∧o.length=c.length) 15
   (fun i s hi h=>by
    subst h;have d:decide ((i:Int)≤14)=true:=decide_eq_true (by omega);have j:decide ((0:Int)≤((c.length:Nat):Int))=true:=by simp
    have l1:lim c.length=true:=a0X (by omega);have k:∀g:Int,∃o:List Int,y0s a2i (c,(w:Int),(i:Int),g,c,(c.length:Int),(0:Int),([]:List Int),())=some (c,(w:Int),(i:Int),o,()):=fun g=>c4K n (by omega)
    by_cases hp:(i:Int) > 0
    ·have m:wrap .i64 ((i:Int)-1)=(i:Int)-1:=a0C (by omega);have l:decide ((i:Int)-1<0)=false:=decide_eq_false (by omega);obtain⟨o,a⟩:=k (A0n .i64 1 ((i:Int)-1));cases hc:((((o.length:Nat):Int))==((c.length:Nat):Int))with
     |true=>exact Or.inr ⟨_,by simp only[a2S,d,cT,hp,decide_true,m,l,cF,oB,j,tN,l1,a03,a,hc]<;>rfl,Or.inr ⟨_,o,rfl,by grind⟩⟩
     |false=>exact Or.inl ⟨_,by simp only[a2S,d,cT,hp,decide_true,m,l,cF,oB,j,tN,l1,a03,a,hc,a0B (show i<1000000 by omega)]<;>rfl,rfl⟩
    ·obtain⟨o,a⟩:=k 0;cases hc:((((o.length:Nat):Int))==((c.length:Nat):Int))with
     |true=>exact Or.inr ⟨_,by simp only[a2S,d,cT,hp,decide_false,cF,oB,j,tN,l1,a03,a,hc]<;>rfl,Or.inr ⟨_,o,rfl,by grind⟩⟩
     |false=>exact Or.inl ⟨_,by simp only[a2S,d,cT,hp,decide_false,cF,oB,j,tN,l1,a03,a,hc,a0B (show i<1000000 by omega)]<;>rfl,rfl⟩)
   (fun s h=>by
    subst h;have d:decide (((15:Nat):Int)≤14)=false:=by rfl
    exact⟨_,by rfl,Or.inl rfl⟩) 15 0 (c,(w:Int),(0:Int),()) (by rfl) rfl
  rcases y with rfl|⟨sh,o,rfl,a⟩;exact⟨[],0,6,by simp_all,fun h=>absurd h (by simp)⟩;exact⟨o,sh,0,by simp_all,fun _=>a⟩
 grind
theorem c7m(j:l.all a0A=true)(d:l.length≤4096)(k:1≤o)(a:o≤32)(b:2≤w∧w≤16):∃c sh e,a3U (l,(o:Int),(w:Int))=some (c,sh,e)∧(e=0→c.length=o):=by
 obtain⟨ks,g,n⟩:=c3w j d k a;obtain⟨c,e,f,p⟩:=c6h (ks:=ks) (by omega) (by omega);unfold a3U;simp[g,f]
 by_cases he:e=0
 subst he;obtain⟨s,sh,m,q,r⟩:=c6i (c:=c) (w:=w) (by omega) (by omega) b
 grind
 have i:(e != 0)=true:=by simp_all
 exact⟨[],0,e,by grind,fun h=>absurd h he⟩
theorem c6j(a:l.length<100000)(c:o≤4):∃v,a9v (l,(o:Int))=some v:=by
 obtain⟨b,g,v,k⟩:=a7z (f:=a4I) (fun i s=>∃v:Int,s=((o:Int),v,l,(l.length:Int),(i:Int),())) (fun b=>∃v:Int,b=(v,())) l.length
  (fun i s hi h=>by
   obtain⟨v,rfl⟩:=h;cases hc:decide (wrap .i64 ((i:Int)+(o:Int))≥4)with
   |true=>exact⟨_,by simp only[a4I,dlt hi,cT,a0D hi,oB,hc,a0B (show i<1000000 by omega)]<;>rfl,_,rfl⟩
   |false=>exact⟨_,by simp only[a4I,dlt hi,cT,cF,a0D hi,oB,hc,a0B (show i<1000000 by omega)]<;>rfl,_,rfl⟩)
  (fun s h=>by
   obtain⟨v,rfl⟩:=h;exact⟨_,by simp_all[a4I],v,rfl⟩) l.length 0 ((o:Int),(0:Int),l,(l.length:Int),(0:Int),()) (by omega) ⟨0,rfl⟩
 simp_all[a9v]
theorem b9O(h:o≤4)(b:l.length<100000)(g:l.all a0A=true):∃r e,a4H (l,(o:Int))=some (r,e)∧r.length≤l.length:=by
 by_cases hn:o≤l.length
 ·rw[b6K h hn (by unfold short;omega) g];cases (a2m o l).all a0A with
  |true=>exact⟨_,_,rfl,by rw[a5R];omega⟩
  |false=>simp
 have f:decide ((o:Int)<0)=false:=decide_eq_false (by omega);have k:decide ((o:Int) > 4)=false:=decide_eq_false (by omega);have a:decide (((l.length:Nat):Int)<(o:Int))=true:=decide_eq_true (by omega);simp_all[a4H]
theorem b9P(d:l.length<100000)(j:l.all a0A=true):∃o:Nat,a6m l=some (o:Int)∧o≤4:=by
 obtain⟨b,n,o,p,q⟩:=a7z (f:=a3F) (fun i s=>∃(o:Nat)(v:Int),s=(l,(o:Int),v,(i:Int),())∧o≤4) (fun b=>∃o:Nat,b=((o:Int),())∧o≤4) 5
  (fun i s hi h=>by
   obtain⟨o,v,rfl,a⟩:=h;have g:decide ((i:Int)≤4)=true:=decide_eq_true (by omega);obtain⟨r,e,k,m⟩:=b9O (o:=i) (by omega) d j;obtain⟨y,c⟩:=c6j (l:=r) (o:=i) (by omega) (by omega);cases hc:(e != 0)with
   |true=>exact⟨_,by simp only[a3F,g,cT,k,oB,hc,a0B (show i<1000000 by omega)]<;>rfl,o,v,rfl,a⟩
   |false=>
    cases h4:decide (v<0)with
    |true=>exact⟨_,by simp only[a3F,g,cT,cF,k,oB,hc,c,h4,a0B (show i<1000000 by omega)]<;>rfl,i,y,rfl,by omega⟩
    |false=>
     cases h5:decide (y<v)with
     |true=>exact⟨_,by simp only[a3F,g,cT,cF,k,oB,hc,c,h4,h5,a0B (show i<1000000 by omega)]<;>rfl,i,y,rfl,by omega⟩
     |false=>exact⟨_,by simp only[a3F,g,cT,cF,k,oB,hc,c,h4,h5,a0B (show i<1000000 by omega)]<;>rfl,o,v,rfl,a⟩)
  (fun s h=>by
   obtain⟨o,v,rfl,a⟩:=h;have g:decide (((5:Nat):Int)≤4)=false:=by rfl
   exact⟨_,by rfl,o,rfl,a⟩) 5 0 (l,(0:Int),(-1:Int),(0:Int),()) (by rfl) ⟨0,-1,rfl,by omega⟩
 grind[a6m]
def a9B(g:List Int→Int):List Int→List Int→List Int
 | [],_=>[]
 |x::r,done=>W (x-g done)::a9B g r (done++[x])
theorem b3W(g:List Int→Int):∀r done,(a9B g r done).length=r.length
 | [],_=>rfl
 |x::r,done=>by simp[a9B,b3W g r]
theorem c7n{x g:Int}(h:a0A x=true):W (W (x-g)+g)=x:=by
 have:=b7i h
 simp_all[a8f]
theorem b5V(g:List Int→Int):∀(r done:List Int),r.all a0A=true→a4g g (a9B g r done) done=some (done++r)
 | [],done,_=>by simp[a9B,a4g]
 |x::r,done,h=>by
  rw[a07,bA]at h;simp only[a9B,a4g,c7n h.1,h.1,cT,b5V g r (done++[x]) h.2,aA,a75]
def b2f(g:List Int→Int)(r done:List Int):Option (List Int):=bif (a9B g r done).all a0A then some (a9B g r done)else none
def b4w{β:Type}(g:List Int→Int)(bad:β)(a:List Int×List Int)(x:Int):(List Int×List Int) ⊕ β:=
 bif a0A (W (x-g a.1))then .inl (a.1++[x],a.2++[W (x-g a.1)])else .inr bad
theorem b5W{β:Type}(g:List Int→Int)(f:β)(k:List Int×List Int→β):∀(r done acc:List Int),
  a8d k (a2O (b4w g f) r (done,acc))=match b2f g r done with|some e=>k (done++r,acc++e)|none=>f
 | [],done,acc=>by grind[a2O,a8d,b2f,a9B]
 |x::r,done,acc=>by
  simp[a2O,b4w];cases h:a0A (W (x-g done))with
  |true=>
   simp
   rw[b5W g f k r];simp only[b2f,a9B,a07,h,a39]
   grind
  |false=>simp_all[a8d,b2f,a9B]
theorem b9Q{g:List Int→Int}{done e:List Int}(h:b2f g r done=some e):e=a9B g r done∧e.all a0A=true:=by
 unfold b2f at h
 grind
theorem c1P(h:i<l.length):l.take i++[l[i]]=l.take (i+1):=by simp
theorem b8W{l:List Int}{p:Int→Bool}(h:l.all p=true)(i:Nat):(l.take i).all p=true:=by
 grind
theorem c8t{p:Int→Bool}(h:l.all p=true)(i:Nat):(l.drop i).all p=true:=by
 grind
theorem c1Q{σ β:Type}{f:σ→Option (σ ⊕ β)}(l:List Int)(k:Nat)(q:k≤l.length)(S:Nat→List Int→σ)(g:List Int×List Int→Int→(List Int×List Int) ⊕ β)(d:List Int→β)
  (j:∀i (h:i<l.length) c,k≤i→c.length=i-k→(∀a',g (l.take i,c) l[i]=.inl a'→f (S i c)=some (.inl (S (i+1) a'.2))∧a'.1=l.take (i+1)∧a'.2.length=i+1-k)∧(∀b,g (l.take i,c) l[i]=.inr b→f (S i c)=some (.inr b)))
  (e:∀c,c.length=l.length-k→f (S l.length c)=some (.inr (d c))):y0s f (S k [])=some (a8d (fun a=>d a.2) (a2O g (l.drop k) (l.take k,[]))):=by
 have h:=a1G (f:=f) (l.drop k) (fun i a=>S (k+i) a.2) g (fun i a=>a.1=l.take (k+i)∧a.2.length=i) (fun a=>d a.2)
  (fun i hi a n=>by
   obtain⟨a1,c⟩:=a;obtain⟨m,o⟩:=n;simp only at m o;subst m;rw[a52]at hi;have p:k+i<l.length:=by omega
   grind)
  (fun a n=>by
   simp_all) (a:=(l.take k,[])) ⟨by simp,rfl⟩
 omega
def b5X(l c:List Int)(s:Int):Option (List Int):=bif l.all a0A then b2f (b1p c s) (l.drop c.length) (l.take c.length)else none
theorem b5z{s:Int}(v:a9I c s=true)(t:c.length≤l.length)(y:l.length<100000):
  a7k (l,c,s)=some (a5e (b5X l c s)):=by
 have m:short l:=by unfold short;omega
 have k:short c:=by unfold short;omega
 have d:0≤s:=by simp_all[a9I]
 have o:decide (((l.length:Nat):Int)<((c.length:Nat):Int))=false:=by simp_all
 unfold a7k b5X;simp only[a9y k,v,oB,bT,cF,o,a6d m];cases hw:l.all a0A with
 |false=>rfl
 |true=>
  have p:wrap .i64 (((l.length:Nat):Int)-((c.length:Nat):Int))=((l.length-c.length:Nat):Int):=by grind[a0C]
  have x:decide ((0:Int)≤((l.length-c.length:Nat):Int))=true:=by simp
  have q:lim (l.length-c.length)=true:=a0X (by omega);simp[p,q]
  have:=c1Q (f:=a4J) l c.length t (fun i h=>(l,c,s,(i:Int),h,())) (b4w (b1p c s) (.inr ((6:Int),([]:List Int),()))) (fun h=>.inl (h,()))
   (fun i hi h u a=>by
    have n:short (l.take i):=by unfold short;grind
    have e:decide ((0:Int)≤(i:Int))=true:=by simp
    have j:decide ((i:Int)≤((l.length:Nat):Int))=true:=by grind
    have r:lim (h.length+1)=true:=a0X (by omega);constructor
    ·intro w g;unfold b4w at g;cases hq:a0A (W (l[i]-b1p c s (l.take i)))with
     |false=>simp_all
     |true=>
      simp only[hq,cT,Sum.inl.injEq]at g;subst g;refine⟨?_,c1P hi,by grind⟩;simp only[a4J,dlt hi,cT,a0D hi,oB,e,j,a03,tN,b5O n k d,a6r,hq,bT,cF,r,a0B (a18 hi m),a06]
    ·intro b hb;unfold b4w at hb;cases hq:a0A (W (l[i]-b1p c s (l.take i)))with
     |true=>simp_all
     |false=>
      simp[hq]at hb;subst hb;simp only[a4J,dlt hi,cT,a0D hi,oB,e,j,a03,tN,b5O n k d,a6r,hq,a36])
   (fun h a=>by simp[a4J])
  rw[this,b5W];cases b2f (b1p c s) (l.drop c.length) (l.take c.length)<;>rfl
theorem b5Y{s:Int}(h:b5X l c s=some r):b3M (l.take c.length) r c s=some l∧r.all a0A=true∧r.length=l.length-c.length:=by
 unfold b5X at h;cases hw:l.all a0A with
 |false=>simp_all
 |true=>
  simp[hw]at h;obtain⟨e,g⟩:=b9Q h;refine⟨?_,g,by simp_all[b3W]⟩;simp[b3M,b8W hw,g]
  grind[b5V,List.take_append_drop]
def b5A(l:List Int)(lag:Int)(t:List Int):Option (List Int):=bif l.all a0A then b2f (a9z lag t) l []else none
theorem c3x(o:b2b lag t=true)(c:t.length=3)(r:l.length<100000):
  a9j (l,lag,t)=some (a5e (b5A l lag t)):=by
 have a:short l:=by unfold short;omega
 obtain⟨e,j⟩:2≤lag∧lag≤1024:=by simp_all[b2b]
 unfold a9j b5A;simp only[b4X c,o,oB,bT,cF,b4o a];cases hw:l.all a0A with
 |false=>rfl
 |true=>
  have q:decide ((0:Int)≤((l.length:Nat):Int))=true:=by simp
  have d:lim l.length=true:=a0X (by omega);simp[d]
  have:=c1Q (f:=a6n) l 0 (Nat.zero_le _) (fun i h=>(l,lag,l,(l.length:Int),(i:Int),h,t,())) (b4w (a9z lag t) (.inr ((6:Int),([]:List Int),()))) (fun h=>.inl (h,()))
   (fun i hi h n k=>by
    have m:lim (h.length+1)=true:=a0X (by omega);have hp:=b4q (lag:=lag) (t:=t) (a84 hi) a c e j;constructor
    ·intro p g;unfold b4w at g;cases hq:a0A (W (l[i]-a9z lag t (l.take i)))with
     |false=>simp_all
     |true=>
      simp only[hq,cT,Sum.inl.injEq]at g;subst g;refine⟨?_,c1P hi,by simp_all⟩;simp only[a6n,dlt hi,cT,a0D hi,oB,hp,a8e,hq,bT,cF,m,a0B (a18 hi a),a06]
    ·intro b hb;unfold b4w at hb;cases hq:a0A (W (l[i]-a9z lag t (l.take i)))with
     |true=>simp_all
     |false=>
      simp_all[a6n,a0D,a8e])
   (fun h k=>by simp[a6n])
  simp only[nZ]at this;rw[this,b5W,a28,List.take_zero];cases b2f (a9z lag t) l []<;>rfl
theorem b7m(h:b5A l lag t=some r):b4r r lag t=some l∧r.all a0A=true∧r.length=l.length:=by
 unfold b5A at h;cases hw:l.all a0A with
 |false=>simp_all
 |true=>
  simp[hw]at h;obtain⟨e,g⟩:=b9Q h;refine⟨?_,g,by rw[e,b3W]⟩;simp[b4r,g];simp_all[b5V]
def rsG:List Int→Fil→List Int
 | [],_=>[]
 |x::r,f=>W (x-a1k f)::rsG r (b3e f x)
theorem b5Z:∀r f,(rsG r f).length=r.length
 | [],_=>rfl
 |x::r,f=>by simp[rsG,b5Z r]
def rsO:List Int→List Int→Fil→Option (List Int)
 | [],done,_=>some done
 |x::r,done,f=>bif a0A (W (x-a1k f))then rsO r (done++[W (x-a1k f)]) (b3e f x)else none
theorem c7o:∀(r done:List Int)(f:Fil),rsO r done f=bif (rsG r f).all a0A then some (done++rsG r f)else none
 | [],done,f=>by simp[rsO,rsG]
 |x::r,done,f=>by
  simp[rsO,rsG];cases a0A (W (x-a1k f))with
  |false=>rfl
  |true=>simp_all[c7o]
theorem c5b:∀(r z:List Int)(f:Fil),r.all a0A=true→stO (rsG r f) z f=some (z++r)
 | [],z,f,_=>by simp[rsG,stO]
 |x::r,z,f,h=>by
  rw[a07,bA]at h;have e:W (a1k f+W (x-a1k f))=x:=by grind[c7n]
  simp only[rsG,stO,e,h.1,cT,c5b r _ _ h.2,aA,a75]
theorem b4x{row:List Int}{a:List Stg}{b c:Int}(j:short row):∀(k i:Nat)(done:List Int)(f:Fil),i+k=row.length→done.length=i→FilOk f→
  y0s a5z (a,b,c,(row.length:Int),(i:Int),done++row.drop i,f,())=some (match rsO (row.drop i) done f with
   |some r=>.inl (a,b,c,r,())
   |none=>.inr ((6:Int),([]:List Int),()))
 |0,i,done,f,h,hd,hf=>by
  obtain rfl:i=row.length:=by omega
  rw[a50,a40];exact a0E (b:=Sum.inl (a,b,c,done,())) (by simp[a5z])
 |k+1,i,done,f,h,hd,hf=>by
  have hi:i<row.length:=by omega
  have l:row.length<1000000:=j;have d:decide ((0:Int)≤(i:Int))=true:=by simp
  have m:(done++row.drop i).length=row.length:=by grind
  have e:decide ((i:Int)<(((done++row.drop i).length:Nat):Int))=true:=by simp_all
  have g:rsO (row.drop i) done f=bif a0A (W (row[i]-a1k f))then rsO (row.drop (i+1)) (done++[W (row[i]-a1k f)]) (b3e f row[i])else none:=by
   rw[a02 hi];rfl
  rw[g];cases hw:a0A (W (row[i]-a1k f))with
  |true=>
   rw[a0F (s':=(a,b,c,(row.length:Int),((i+1:Nat):Int),(done++[W (row[i]-a1k f)])++row.drop (i+1),b3e f row[i],())) (by
    simp only[a5z,dlt hi,d,e,cT,a03,a6t hf,oB,tN,b4s hd hi,a5n,hw,bT,cF,b6F hf,c3h hd hi,a0B (show i<1000000 by omega)])]
   exact b4x j k (i+1) _ _ (by omega) (by simp_all) (c3g hf _)
  |false=>
   exact a0E (by
    simp only[a5z,dlt hi,d,e,cT,a03,a6t hf,oB,tN,b4s hd hi,a5n,hw,a36];rfl)
def lRO:List Stg→List Int→Option (List Int)
 | [],row=>some row
 |s::r,row=>match rsO row [] (b1q s)with
  |some row'=>lRO r row'
  |none=>none
theorem c3y{f:Fil}(h:rsO row [] f=some d):d=rsG row f∧d.all a0A=true:=by
 rw[c7o]at h
 grind
theorem c1R:∀(a b:List Stg)(row:List Int),lO (a++b) row=match lO a row with|some r=>lO b r|none=>none
 | [],b,row=>rfl
 |s::a,b,row=>by
  simp only[a65,lO];split;exact c1R a b _;rfl
theorem c3z:∀(st:List Stg)(row d:List Int),row.all a0A=true→lRO st row=some d→lO st.reverse d=some row∧d.all a0A=true∧d.length=row.length
 | [],row,d,hw,h=>by
  simp[lRO]at h;subst h;exact⟨rfl,hw,rfl⟩
 |s::st,row,d,hw,h=>by
  simp only[lRO]at h
  split at h
  rename_i g c;obtain⟨e,f⟩:=c3y c;obtain⟨k,a,b⟩:=c3z st g d f h;refine⟨?_,a,by rw[b,e,b5Z]⟩;rw[List.reverse_cons,c1R,k];simp only[lO];rw[e,c5b row [] _ hw,a09];cases h
theorem b2P{st:List Stg}(f:∀s∈st,stageB s=true)(l:st.length≤3):∀(j k:Nat)(row:List Int),k+j=st.length→short row→
  y0s a5A (st,(st.length:Int),(k:Int),row,())=some (match lRO (st.drop k) row with
   |some r=>.inl (r,())
   |none=>.inr ((6:Int),([]:List Int),()))
 |0,k,row,h,hs=>by
  obtain rfl:k=st.length:=by omega
  simp_all[a0E,a5A,lRO]
 |j+1,k,row,h,hs=>by
  have d:k<st.length:=by omega
  have g:=f _ (a05 d);have e:=b4x (a:=st) (b:=(st.length:Int)) (c:=(k:Int)) hs row.length 0 [] (b1q st[k]) (by omega) rfl (c4Z g);simp at e;have i:((0:Int) != 0)=false:=rfl;rw[a02 d];simp[lRO];cases hr:rsO row [] (b1q st[k])with
  |some r=>
   rw[hr]at e;rw[a0F (s':=(st,(st.length:Int),((k+1:Nat):Int),r,())) (by simp only[a5A,dlt d,cT,a0D d,oB,b3O g,i,cF,e,a0B (show k<1000000 by omega)])];exact b2P f l j (k+1) r (by omega) (by have:=(c3y hr).1;unfold short at hs⊢;simp_all[b5Z])
  |none=>
   simp_all[a0E,a5A,a0D,b3O]
def b3l(l:List Int)(st:List Stg):Option (List Int):=bif l.all a0A then lRO st l else none
theorem c2F(k:a9l st=true)(a:l.length<100000):b0M (l,st)=some (a5e (b3l l st)):=by
 have h:=k;simp only[a9l,bA,dT]at h;have f:short st:=by unfold short;omega
 have g:short l:=by unfold short;omega
 unfold b0M b3l;simp only[b3L f,k,oB,bT,cF,b3K g];cases hw:l.all a0A with
 |false=>rfl
 |true=>
  have:=b2P (lA.1 h.2) h.1 st.length 0 l (by omega) g
  simp at this;simp[a8g g,this];cases lRO st l<;>rfl
theorem b9R(h:b3l l st=some r):b2p r st=some l∧r.all a0A=true∧r.length=l.length:=by
 unfold b3l at h;cases hw:l.all a0A with
 |false=>simp_all
 |true=>
  simp[hw]at h;obtain⟨f,g,k⟩:=c3z st l r hw h;exact⟨by simp only[b2p,g,cT,f],g,k⟩
theorem p64{w:Nat}(h:w≤64):((2^w:Nat):Int) ∣ 18446744073709551616:=a20.2 (a55 2 h)
theorem d2l(n:Int):∃q,wrap .i64 n=n+18446744073709551616*q:=by
 rw[a8f,Int.bmod];split;exact⟨-(n / 18446744073709551616),by omega⟩;exact⟨-(n / 18446744073709551616)-1,by omega⟩
theorem c8u(h:w≤64)(n:Int):((2^w:Nat):Int) ∣ wrap .i64 n↔((2^w:Nat):Int) ∣ n:=by
 obtain⟨q,g⟩:=d2l n;rw[g]
 grind[a66,a46,p64]
theorem c1S(h:w≤64)(a:Int):2^w ∣ (a04 64 a).toNat↔((2^w:Nat):Int) ∣ a:=by
 have e:(((a04 64 a).toNat:Nat):Int)=a+18446744073709551616*-(a / 18446744073709551616):=by
  rw[a82];omega
 rw[←a20,e]
 grind[a66,a46,p64]
theorem c6k(w x y:Nat):2^w ∣ (x ||| y)↔2^w ∣ x∧2^w ∣ y:=by
 simp_all[Nat.dvd_iff_mod_eq_zero,Nat.or_mod_two_pow]
theorem d2m(h:w≤64)(a b:Int):((2^w:Nat):Int) ∣ bits .i64 .or a b↔((2^w:Nat):Int) ∣ a∧((2^w:Nat):Int) ∣ b:=by
 show((2^w:Nat):Int) ∣ wrap .i64 ((((a04 64 a) ||| (a04 64 b)).toNat:Nat):Int)↔_;rw[c8u h,a20,a72,c6k,c1S h,c1S h]
def orI(l:List Int)(a:Int):Int:=l.foldl (fun a x=>bits .i64 .or a x) a
theorem b5B{w:Nat}(h:w≤64):∀(l:List Int)(a:Int),((2^w:Nat):Int) ∣ orI l a↔((2^w:Nat):Int) ∣ a∧∀x∈l,((2^w:Nat):Int) ∣ x
 | [],a=>by simp[orI]
 |x::l,a=>by
  show((2^w:Nat):Int) ∣ orI l (bits .i64 .or a x)↔_;rw[b5B h l,d2m h];simp_all[and_assoc]
theorem c3A:∀(l:List Int),(∀x∈l,x=0)→orI l 0=0
 | [],_=>rfl
 |x::l,h=>by
  have g:=h x (List.mem_cons_self);subst g;show orI l (bits .i64 .or 0 0)=0;rw[show bits .i64 .or 0 0=0 from by rfl];simp_all[c3A]
theorem d2n(k:l.all a0A=true)(h:∃x∈l,x≠0):orI l 0≠0:=by
 intro e;obtain⟨x,g,f⟩:=h;have b:=((b5B (w:=62) (by omega) l 0).1 (by omega)).2 x g;have a:=a1H.1 (lA.1 k x g);omega
def a8M(l:List Int)(w:Nat):Prop:=
 ((∀x∈l,x=0)∧w=0)∨((∃x∈l,x≠0)∧w≤30∧(∀x∈l,((2^w:Nat):Int) ∣ x)∧(w=30∨∃x∈l,¬ ((2^(w+1):Nat):Int) ∣ x))
theorem c6l{v w:Nat}(h:v≤w){x:Int}(g:((2^w:Nat):Int) ∣ x):((2^v:Nat):Int) ∣ x:=
 Int.dvd_trans (a20.2 (a55 2 h)) g
theorem a8M.unique(hv:a8M l v)(g:a8M l w):v=w:=by
 have d:∀{v w:Nat},v≤30→w≤30→(∀x∈l,((2^w:Nat):Int) ∣ x)→(v=30∨∃x∈l,¬ ((2^(v+1):Nat):Int) ∣ x)→w≤v:=by
  grind[c6l]
 rcases hv with⟨f,hv⟩|⟨⟨x,c,h⟩,hv1,hv2,hv3⟩
 ·rcases g with⟨-,g⟩|⟨⟨x,c,h⟩,-⟩
  all_goals grind
 ·rcases g with⟨f,-⟩|⟨-,k,a,b⟩
  all_goals grind
theorem c3B:∀(n N:Nat),N≤n→0<N→∃k m,N=2^k*(2*m+1)
 |0,N,h,h0=>absurd h0 (by omega)
 |n+1,N,h,h0=>by
  by_cases he:N%2=0
  obtain⟨k,m,e⟩:=c3B n (N / 2) (by omega) (by omega);refine⟨k+1,m,?_⟩;rw[a68,a57 (2^k) 2,Nat.mul_assoc,←e];omega;exact⟨0,N / 2,by omega⟩
theorem d0X{k:Nat}(h:2^k*(2*m+1)<2^64):(2^k*(2*m+1)) &&& (2^64-2^k*(2*m+1))=2^k:=by
 have hp:1≤2^k:=a81;have n:k<64:=by
  refine a96 fun g=>?_
  have d:2^64≤2^k:=a08 (by simp) g
  grind
 have e:2^k*(2*m+1)=(2^k*(2*m)+(2^k-1))+1:=by grind
 have l:2^k*(2*m)+(2^k-1)<2^64:=by omega
 refine Nat.eq_of_testBit_eq fun i=>?_
 have a:(2^64-2^k*(2*m+1)).testBit i=(decide (i<64)&&!(2^k*(2*m)+(2^k-1)).testBit i):=by
  rw[e];exact Nat.testBit_two_pow_sub_succ l i
 have f:=a58 (2*m+1) (b:=0) (i:=k) (by omega) i;rw[a85]at f;have c:=a58 (2*m) (b:=2^k-1) (i:=k) (by omega) i;rw[Nat.testBit_and,a,f,c,Nat.testBit_two_pow]
 by_cases d:i<k
 grind
 by_cases h2:k=i
 simp_all;obtain⟨j,rfl⟩:∃j,i=k+(j+1):=⟨i-k-1,by omega⟩;have o:k+(j+1)-k=j+1:=by omega
 have p:(2*m+1) / 2=m:=by omega
 simp_all[Nat.testBit_succ]
theorem c8v:∀k:Nat,k<64→b1D[(2^k*285870213051353865)%18446744073709551616 / 288230376151711744]?=some (k:Int):=by
 have h:∀k:Fin 64,b1D[(2^k.val*285870213051353865)%18446744073709551616 / 288230376151711744]?=some (k.val:Int):=by decide
 exact fun k g=>h ⟨k,g⟩
theorem c4M{k:Nat}:¬ 2^(k+1) ∣ 2^k*(2*m+1):=by
 rintro⟨c,h⟩
 rw[a68,Nat.mul_assoc]at h
 grind[Nat.eq_of_mul_eq_mul_left]
theorem c8w(d:0<N)(h:N<18446744073709551616):∃k:Nat,a1y (N:Int)=some (k:Int)∧2^k ∣ N∧¬ 2^(k+1) ∣ N:=by
 obtain⟨k,m,e⟩:=c3B N N (a27 _) d;have n:2^k≤N:=by grind
 have i:k<64:=by
  refine a96 fun g=>?_
  have l:2^64≤2^k:=a08 (by simp) g;omega
 refine⟨k,?_,⟨_,e⟩,e▸c4M⟩;have hb:bits .u64 .and (N:Int) (wrap .u64 (0-(N:Int)))=((2^k:Nat):Int):=by
  have b:wrap .u64 (0-(N:Int))=((18446744073709551616-N:Nat):Int):=by
   grind[wrap,IntKind.bits,IntKind.signed]
  rw[b];show wrap .u64 (((a04 64 (N:Int)) &&& (a04 64 ((18446744073709551616-N:Nat):Int))).toNat:Int)=_;rw[a24,a24,a94,a29,a29,a23 h,a23 (by omega)]
  have:=d0X (k:=k) (m:=m) (by omega)
  rw[←e]at this;rw[show(18446744073709551616:Nat)=2^64 from rfl,this];exact a0N (by omega)
 have j:((N:Int)==0)=false:=by grind
 unfold a1y;rw[hb,j,cF];have f:wrap .u64 (((2^k:Nat):Int)*285870213051353865)=(((2^k*285870213051353865)%18446744073709551616:Nat):Int):=by
  rfl
 have a:=c8v k i;generalize (2^k*285870213051353865)%18446744073709551616=M at f a;have c:=a6D (N:=M) (o:=58) (by omega);rw[f,show(58:Int)=((58:Nat):Int)from rfl,c,show 2^58=288230376151711744 from rfl];generalize M / 288230376151711744=J at a
 grind[a0D,a0C]
theorem c8x{n:Nat}(g:n≤62)(c:Int):A0o .i64 (((2^n:Nat):Int)*c) (n:Int)=c:=by
 have hp:0<2^n:=a16 n;have e:min (a42 (n:Int)) (IntKind.bits .i64)=n:=by grind[IntKind.bits]
 have h:((2^n:Nat):Int)=2^n:=by simp
 unfold A0o
 grind[a64]
theorem c5c{l:List Int}(g:short l):∀(k i:Nat)(a:Int),i+k=l.length→y0s a5v (a,l,(l.length:Int),(i:Int),())=some (orI (l.drop i) a,())
 |0,i,a,h=>by
  obtain rfl:i=l.length:=by omega
  simp_all[a0E,a5v,orI]
 |k+1,i,a,h=>by
  have hi:i<l.length:=by omega
  have f:l.length<1000000:=g;rw[a02 hi,a0F (s':=(bits .i64 .or a l[i],l,(l.length:Int),((i+1:Nat):Int),())) (by
   simp only[a5v,dlt hi,cT,a0D hi,oB,a0B (show i<1000000 by omega)])]
  exact c5c g k (i+1) _ (by omega)
theorem c4N{l:List Int}{r:Nat}(g:r≤30)(h:r=30∨¬ ((2^(r+1):Nat):Int) ∣ orI l 0):r=30∨∃x∈l,¬ ((2^(r+1):Nat):Int) ∣ x:=by
 grind[b5B,a86]
theorem b8X{l:List Int}(y:short l)(j:l.all a0A=true):∃w:Nat,a3E l=some (w:Int)∧w≤30∧a8M l w:=by
 have a:=c5c y l.length 0 0 (by omega);simp at a;unfold a3E;simp[a]
 by_cases hz:∀x∈l,x=0
 have e:=c3A l hz;exact⟨0,by simp_all,by omega,.inl ⟨hz,rfl⟩⟩
 ·have g:∃x∈l,x≠0:=Classical.byContradiction fun m=>hz fun x g=>Classical.byContradiction fun s=>m ⟨x,g,s⟩;have t:=d2n j g;have n:(orI l 0==0)=false:=by simp_all
  obtain⟨q,u⟩:∃q,wrap .u64 (orI l 0)=orI l 0+18446744073709551616*q:=⟨-(orI l 0 / 18446744073709551616),by
   grind[wrap,IntKind.bits,IntKind.signed]⟩
  obtain⟨B,r2⟩:=b8p (orI l 0);obtain⟨N,d⟩:=a01 B;have b:∀v,v≤64→(2^v ∣ N↔((2^v:Nat):Int) ∣ orI l 0):=fun v hv=>by
   rw[←a20,←d,u]
   grind[a66,a46,p64]
  have h:0<N:=by
   refine Nat.pos_of_ne_zero fun C=>?_
   obtain⟨x,f,A⟩:=g;have E:=((b5B (w:=62) (by omega) l 0).1 ((b 62 (by omega)).1 (by omega))).2 x f;have z:=a1H.1 (lA.1 j x f);omega
  obtain⟨k,p,c,r⟩:=c8w h (by omega);have i:k≤63:=by
   refine Nat.le_of_not_lt fun o=>?_
   have a:2^64≤2^k:=a08 (by simp) (by omega)
   have:=Nat.le_of_dvd h c
   omega
  simp only[n,cF,d,p,oB];have D:v0s (k:Int) 30=((min k 30:Nat):Int):=by rw[b3k];omega
  refine⟨min k 30,by grind,by omega,.inr ⟨g,by omega,?_,?_⟩⟩
  all_goals grind[b5B,Nat.dvd_trans,a55,c4N]
theorem d0Y(g:w≤30)(d:l.all a0A=true)(h:a8M l w):b0V (w:Int) l=some (l.map fun x=>A0o .i64 x (w:Int)):=by
 have f:∀x∈l,((2^w:Nat):Int) ∣ x:=by
  rcases h with⟨h,-⟩|⟨-,-,h,-⟩
  all_goals grind[a86]
 have:l.all (b2e (w:Int))=true:=by
  rw[lA];intro x k;obtain⟨c,a⟩:=f x k;have b:a26 x (A0n .i64 1 (w:Int))=0:=by simp_all[c3u]
  simp_all[b2e]
 simp only[b0V,this,cT]
theorem b1u{N n:Nat}(g:n≤63)(h:N<2^n)(L:List Int):(a0Q (N:Int) n L).length=L.length+n:=by
 grind[a0Q,a6D,a67,b4u]
def a5I(k:Nat)(x:Int):Nat:=if a0U x / 2^k<32 then a0U x / 2^k+1+k else 65
theorem c3C{k:Nat}(h:k≤25)(x:Int):a5I k x≤65:=by
 grind[a5I]
theorem c7p{k:Nat}(a:k≤25)(g:a0A x=true)(L:List Int):(a6U k x L).length=L.length+a5I k x:=by
 unfold a6U a5I;have hp:0<2^k:=a16 k;have h:a0U x%2^k<2^k:=a41 _ hp;have f:=a9J g;split;rw[b1u (by omega) h,b0S];omega
 grind[b1u,b0S]
theorem b9S{k:Nat}(g:k≤25):∀(l L:List Int),l.all a0A=true→(a4N k l L).length=L.length+(l.map (a5I k)).sum
 | [],L,_=>by rfl
 |x::l,L,h=>by
  simp only[a07,bA]at h;have e:a4N k (x::l) L=a4N k l (a6U k x L):=rfl;rw[e,b9S g l _ h.2,c7p g h.1,List.map_cons,a62];omega
theorem c3D{k:Nat}(c:k≤25)(g:a0A x=true):a7x ((k:Int),x)=some ((a5I k x:Nat):Int):=by
 have d:=a9J g;have f:A0o .u64 ((a0U x:Nat):Int) (k:Int)=((a0U x / 2^k:Nat):Int):=a6D (by omega);have a:wrap .i64 ((a0U x / 2^k:Nat):Int)=((a0U x / 2^k:Nat):Int):=b3U (a38 (a32 _ _) d);have h:decide ((k:Int)<0)=false:=by simp
 unfold a7x a5I;simp only[a8X c,b0T,g,oB,bT,cF,b0U g,h,f,a];generalize a0U x / 2^k=q
 by_cases hq:q<32
 have b:decide ((q:Int)<32)=true:=decide_eq_true (by omega);simp only[b,cT,if_pos hq]
 grind[a0C]
 grind
theorem c3E{f:Int→Nat}{M:Nat}(h:∀x,f x≤M):∀l:List Int,(l.map f).sum≤M*l.length
 | []=>by simp
 |x::l=>by
  have:=h x
  have:=c3E h l
  rw[List.map_cons,a62,lC,a92,a93];omega
theorem c3F{f:Int→Nat}{l:List Int}{i:Nat}(h:i<l.length):((l.take (i+1)).map f).sum=((l.take i).map f).sum+f l[i]:=by
 rw[a49 h,pA,List.sum_append];rfl
theorem b8q{k:Nat}(g:k≤25)(c:l.all a0A=true)(d:l.length<10000):a3k ((k:Int),l)=some (((l.map (a5I k)).sum:Nat):Int):=by
 have:=a1C (f:=a3R) (fun i:Nat=>((k:Int),((((l.take i).map (a5I k)).sum:Nat):Int),l,(l.length:Int),(i:Int),())) l.length (b:=((((l.map (a5I k)).sum:Nat):Int),()))
  (fun i hi=>by
   have a:=c3D g (lA.1 c _ (a05 hi));have h:=c3E (c3C g) (l.take (i+1));rw[c3F hi]at h;rw[a95]at h;have e:wrap .i64 (((((l.take i).map (a5I k)).sum:Nat):Int)+((a5I k l[i]:Nat):Int))=((((l.take (i+1)).map (a5I k)).sum:Nat):Int):=by
    grind[c3F,a0C]
   simp only[a3R,dlt hi,cT,a0D hi,oB,a,e,a0B (show i<1000000 by omega)])
  (by simp_all[a3R])
 unfold a3k;simp_all
theorem c8y(x:Int){n:Nat}(f:n≤62):∃N:Nat,a0Z x n=(N:Int)∧N<2^n:=by
 obtain⟨h,g⟩:=b8p x;obtain⟨y,k⟩:=a01 h;have hp:0<2^n:=a16 n;refine⟨y%2^n,?_,a41 _ hp⟩
 grind[a0Z,c3p]
theorem b4y{n:Nat}(h:n≤62):∀(l L:List Int),(a1D n l L).length=L.length+n*l.length
 | [],L=>by rfl
 |x::l,L=>by
  have e:a1D n (x::l) L=a1D n l (a0Q (a0Z x n) n L):=rfl;obtain⟨N,g,f⟩:=c8y x h;rw[e,b4y h l,g,b1u (by omega) f,lC,a92,a93];omega
theorem d2o{x:Int}(h:a0A x=true):a1n x ((31:Nat):Int)=true:=by
 have:=a1H.1 h
 have g:A0n .i64 (-1) (((31:Nat):Int)-1)=-1073741824:=by rfl
 have f:wrap .i64 (A0n .i64 1 (((31:Nat):Int)-1)-1)=1073741823:=by rfl
 unfold a1n
 grind
theorem b9T{x:Int}(h:a0A x=true):∀(k w:Nat),w+k=32→1≤k→a1K x k w≤31
 |k+1,w,hk,_=>by
  simp[a1K]
  by_cases h31:w=31
  grind[d2o]
  ·cases (x != 0)&&!a1n x w with
   |true=>exact b9T h k (w+1) (by omega) (by omega)
   |false=>grind
theorem b4z:∀(l:List Int)(w:Nat),l.all a0A=true→w≤31→l.foldl (fun w x=>a1K x (32-w) w) w≤31
 | [],w,_,h=>h
 |x::l,w,hl,h=>by
  simp only[a07,bA]at hl;exact b4z l _ hl.2 (b9T hl.1 (32-w) w (by omega) (by omega))
theorem a1W{l:List Int}(h:l.all a0A=true):a0I l≤31:=b4z l 0 h (by omega)
theorem b3X(g:l.length<10000):a5N l=some (((5+a0I l*l.length:Nat)):Int):=by
 have h:=a6C l;have f:a0I l*l.length≤32*l.length:=a25 _ h;unfold a5N;simp only[a2p (show short l by unfold short;omega),oB]
 grind[a0C]
def b2g(k:Int)(part:List Int):Nat:=5+(if k=31 then 5+a0I part*part.length else(part.map (a5I k.toNat)).sum)
def a5J:List Nat→List Int→List Int→Nat
 |z::zs,k::ks,l=>b2g k (l.take z)+a5J zs ks (l.drop z)
 |_,_,_=>0
theorem a3y{q:Nat}(h:q<2147483648):wrap .u64 (q:Int)=(q:Int):=a0N (by omega)
theorem c7q(h:kB k=true)(g:part.all a0A=true)(L:List Int):(a9A k part L).length=L.length+b2g k part:=by
 simp[kB]at h;obtain⟨K,rfl⟩:=a01 (show 0≤k by omega)
 grind[b1u,a1W,a9A,b2g,a3y,b4y,b9S]
theorem b9U:∀(zs:List Nat)(ks l L:List Int),ks.all kB=true→l.all a0A=true→(a4O zs ks l L).length=L.length+a5J zs ks l
 |z::zs,k::ks,l,L,h,hw=>by
  simp only[a07,bA]at h;have g:(l.take z).all a0A=true:=lA.2 fun x a=>lA.1 hw x (a34 a);have f:(l.drop z).all a0A=true:=lA.2 fun x a=>lA.1 hw x (a35 a);simp only[a4O,a5J];rw[b9U zs ks _ _ h.2 f,c7q h.1 g];omega
 | [],_,_,_,_,_=>by rfl
 |_::_,[],_,_,_,_=>by rfl
theorem c8z(h:kB k=true)(part:List Int):b2g k part≤10+65*part.length:=by
 simp[kB]at h;unfold b2g;split;have g:a0I part*part.length≤32*part.length:=a25 _ (a6C part);omega
 have:=c3E (c3C (k:=k.toNat) (by omega)) part
 omega
theorem b3Y{zn:List Nat}{p:Prt}(E:p.2.1.length=zn.length)(a:p.2.1.all kB=true)(F:zn.length≤256):∀(j i:Nat)(l:List Int)(c:Nat),i+j=zn.length→(zn.drop i).sum=l.length→l.all a0A=true→l.length≤5000→c+10*j+65*l.length<1000000→
  y0s a1v (l,(c:Int),(zn.length:Int),(i:Int),a1p zn,p,())=some (((c+a5J (zn.drop i) (p.2.1.drop i) l:Nat):Int),())
 |0,i,l,c,hi,_,_,_,_=>by
  obtain rfl:i=zn.length:=by omega
  grind[a0E,a1v,a5J]
 |j+1,i,l,c,hi,hsum,hw,hl5,hb=>by
  have h:i<zn.length:=by omega
  have f:i<p.2.1.length:=by omega
  have o:=lA.1 a _ (a05 f);rw[b5R h]at hsum;have z:decide ((0:Int)≤(i:Int))=true:=by simp
  have A:decide ((i:Int)<(((a1p zn).length:Nat):Int))=true:=by simp_all[a1w]
  have B:decide ((0:Int)≤((zn[i]:Nat):Int))=true:=by simp
  have C:decide (((zn[i]:Nat):Int)≤((l.length:Nat):Int))=true:=by grind
  have d:(l.take zn[i]).length=zn[i]:=by simp_all
  have e:(l.drop zn[i]).length=(zn.drop (i+1)).sum:=by grind
  have v:(l.take zn[i]).all a0A=true:=lA.2 fun x y=>lA.1 hw x (a34 y);have w:(l.drop zn[i]).all a0A=true:=lA.2 fun x y=>lA.1 hw x (a35 y);have g:=c8z o (l.take zn[i]);rw[d]at g;have n:a1v (l,(c:Int),(zn.length:Int),(i:Int),a1p zn,p,())=some (.inl (l.drop zn[i],((c+b2g p.2.1[i] (l.take zn[i]):Nat):Int),(zn.length:Int),((i+1:Nat):Int),a1p zn,p,())):=by
   by_cases h31:p.2.1[i]=31
   have b:(p.2.1[i]==31)=true:=by simp_all
   have m:=b3X (l:=l.take zn[i]) (by omega);have u:b2g p.2.1[i] (l.take zn[i])=5+(5+a0I (l.take zn[i])*(l.take zn[i]).length):=by simp_all[b2g]
   rw[u]at g⊢;generalize 5+a0I (l.take zn[i])*(l.take zn[i]).length=r at m g⊢;have s:wrap .i64 (5+(r:Int))=5+(r:Int):=a0C (by omega);have t:wrap .i64 ((c:Int)+(5+(r:Int)))=((c+(5+r):Nat):Int):=by grind[a0C]
   simp only[a1v,dlt h,z,A,a8i h,B,C,cT,a03,tN,a0D f,oB,b,m,s,t,a19,a0B (show i<1000000 by omega)];have b:(p.2.1[i]==31)=false:=by simp_all
   have q:=o;simp[kB]at q;obtain⟨K,D⟩:=a01 (show 0≤p.2.1[i]by omega);have m:=b8q (k:=K) (by omega) v (by omega);have u:b2g p.2.1[i] (l.take zn[i])=5+((l.take zn[i]).map (a5I K)).sum:=by simp_all[b2g]
   rw[←D]at m;rw[u]at g⊢;generalize ((l.take zn[i]).map (a5I K)).sum=r at m g⊢;have s:wrap .i64 (5+(r:Int))=5+(r:Int):=a0C (by omega);have t:wrap .i64 ((c:Int)+(5+(r:Int)))=((c+(5+r):Nat):Int):=by grind[a0C]
   simp only[a1v,dlt h,z,A,a8i h,B,C,cT,cF,a03,tN,a0D f,oB,b,m,s,t,a19,a0B (show i<1000000 by omega)]
  rw[a0F n,b3Y E a F j (i+1) (l.drop zn[i]) _ (by omega) e.symm w (by omega) (by omega)];rw[a02 h,a02 f]
  grind[a5J]
theorem c2G(h:PartsOk p n warm l zn):a4E (p,n,warm,l)=some ((4+a5J zn p.2.1 l:Nat):Int):=by
 have f:Go.Ab.short p.2.1:=by have:=h.ks;have:=h.len;unfold Go.Ab.short;omega
 have k:=h.short;have a:=h.len;have g:=b3Y h.ks h.all h.len zn.length 0 l 4 (by omega) (by rw[a28];exact h.sum) h.wide h.short (by omega);simp only[nZ,a30,a28]at g;unfold a4E;simp only[b3Q f,h.may,b1s h.row h.rest h.wide h.short,oB,bT,cF,a2b,h.sizes,a1w,g]
theorem c2H(h:PartsOk p n warm l zn)(L:List Int):(a4n p zn l L).length=L.length+(4+a5J zn p.2.1 l):=by
 obtain⟨o,g⟩:=a01 h.order.1;have f:=h.order.2;unfold a4n;rw[b9U _ _ _ _ h.all h.wide,g,a3y (by omega),b1u (by omega) (by omega)];omega
def a2c(o:Int):Sub:=((0:Int),(0:Int),o,(0:Int),(0:Int),([]:List Int),a00 3 (0:Int),([]:List Stg),([]:List Int),((0:Int),([]:List Int),()),([]:List Int),())
theorem c4O(o:Int):SmallS (a2c o):=⟨by simp[a2c],by rfl,by simp[a2c],by simp[a2c],by simp[a2c],by simp[a2c]⟩
def b7n(k:Nat)(l:List Int):Nat:=(l.map (a5I k)).sum
def rbN(l:List Int):Nat→Nat
 |0=>0
 |i+1=>if b7n (i+1) l<b7n (rbN l i) l then i+1 else rbN l i
theorem c3G(l:List Int):∀i,rbN l i≤i
 |0=>a27 _
 |i+1=>by
  have:=c3G l i
  simp only[rbN]
  split<;>omega
theorem b6a{k:Nat}(h:k≤25)(f:l.all a0A=true)(g:l.length<10000):a3k ((k:Int),l)=some ((b7n k l:Nat):Int):=b8q h f g
theorem d2p(h:a<b):decide ((a:Int)<(b:Int))=true:=decide_eq_true (by omega)
theorem c6m(h:¬ a<b):decide ((a:Int)<(b:Int))=false:=decide_eq_false (by omega)
theorem b7o(g:l.all a0A=true)(h:l.length<10000):b1U l=some ((rbN l 25:Nat):Int):=by
 have:=a1C (f:=a8C) (fun i:Nat=>(l,((rbN l i:Nat):Int),((b7n (rbN l i) l:Nat):Int),((i+1:Nat):Int),())) 25 (b:=(((rbN l 25:Nat):Int),()))
  (fun i hi=>by
   have a:decide (((i+1:Nat):Int)≤25)=true:=decide_eq_true (by omega);have d:wrap .i64 (((i+1:Nat):Int)+1)=((i+1+1:Nat):Int):=a0B (by omega);have c:=b6a (k:=i+1) (by omega) g h
   by_cases hlt:b7n (i+1) l<b7n (rbN l i) l
   simp_all[a8C,rbN];simp only[a8C,a,cT,cF,c,oB,d,c6m hlt,rbN,hlt,if_false])
  (by
   rfl)
 have m:=b6a (k:=0) (by omega) g h;have j:((0+1:Nat):Int)=1:=rfl;have e:rbN l 0=0:=rfl;simp_all[b1U]
def b3m(l:List Int):Int:=if 5+a0I l*l.length<b7n (rbN l 25) l then 31 else((rbN l 25:Nat):Int)
theorem c6n(l:List Int):kB (b3m l)=true:=by
 have:=c3G l 25
 unfold b3m;split;rfl;simp only[kB,a99,bA,dT];omega
theorem b9V(g:l.all a0A=true)(h:l.length<10000):a8D l=some (b3m l):=by
 have a:=c3G l 25;have f:=b6a (k:=rbN l 25) a g h;unfold a8D b3m
 by_cases hlt:5+a0I l*l.length<b7n (rbN l 25) l
 simp only[b7o g h,b3X h,f,oB,d2p hlt,cT,hlt,if_true];simp only[b7o g h,b3X h,f,oB,c6m hlt,cF,hlt,if_false]
def a2F:List Nat→List Int→List Int
 | [],_=>[]
 |z::zs,l=>b3m (l.take z)::a2F zs (l.drop z)
theorem b5C:∀zs l,(a2F zs l).length=zs.length
 | [],_=>rfl
 |z::zs,l=>by simp[a2F,b5C zs]
theorem b9W:∀zs l,(a2F zs l).all kB=true
 | [],_=>rfl
 |z::zs,l=>by simp[a2F,b9W zs,c6n]
theorem b6M{zn:List Nat}{n warm most least order:Int}{L:List Int}{a b:Prt}(m:zn.length≤256):∀(j i:Nat)(rest ks:List Int),i+j=zn.length→(zn.drop i).sum=rest.length→rest.all a0A=true→rest.length≤5000→ks.length=i→
  y0s a7N (n,warm,most,L,least,order,rest,((zn.length:Nat):Int),(i:Int),a1p zn,a,b,(order,ks,()),())=some (n,warm,most,L,least,order,a,b,(order,ks++a2F (zn.drop i) rest,()),())
 |0,i,rest,ks,h,_,_,_,_=>by
  obtain rfl:i=zn.length:=by omega
  simp_all[a0E,a7N,a2F]
 |j+1,i,rest,ks,h,hr,hwr,hr5,hki=>by
  have g:i<zn.length:=by omega
  rw[b5R g]at hr;have k:decide ((0:Int)≤(i:Int))=true:=by simp
  have c:decide ((i:Int)<(((a1p zn).length:Nat):Int))=true:=by simp_all[a1w]
  have d:decide ((0:Int)≤((zn[i]:Nat):Int))=true:=by simp
  have e:decide (((zn[i]:Nat):Int)≤((rest.length:Nat):Int))=true:=by grind
  have l:=b9V (b8W hwr zn[i]) (by grind);have f:lim (ks.length+1)=true:=a0X (by omega);rw[a02 g,a0F (s':=(n,warm,most,L,least,order,rest.drop zn[i],((zn.length:Nat):Int),((i+1:Nat):Int),a1p zn,a,b,(order,ks++[b3m (rest.take zn[i])],()),())) (by
   simp only[a7N,dlt g,k,c,a8i g,d,e,cT,a03,tN,l,oB,f,a19,a0B (show i<1000000 by omega),a06])]
  rw[b6M m j (i+1) _ _ (by omega) (by grind) (c8t hwr _) (by grind) (by simp_all)];simp_all[a2F]
def zsN(o n warm:Int):List Nat:=(a1J o n warm).map a42
def b3g(o n warm:Int)(l:List Int):Prt:=(o,a2F (zsN o n warm) l,())
def b9X(o n warm:Int)(l:List Int):Nat:=4+a5J (zsN o n warm) (a2F (zsN o n warm) l) l
def a1A(n warm:Int)(l:List Int):Nat→Prt×Nat
 |0=>((0,[],()),0)
 |i+1=>if(a1J (i:Int) n warm).length=0 then a1A n warm l i else
   if(a1A n warm l i).2=0∨b9X (i:Int) n warm l<(a1A n warm l i).2 then(b3g (i:Int) n warm l,b9X (i:Int) n warm l)else a1A n warm l i
def b7I(n warm:Int)(l:List Int):Prt:=(a1A n warm l 7).1
theorem c5d(b:(a1J (o:Int) n warm).length≠0)(a:(l.length:Int)=n-warm)(c:l.all a0A=true)(k:l.length≤5000):
  ∃h,a1J (o:Int) n warm=a1p h∧zsN (o:Int) n warm=h∧h.length≤256∧h.sum=l.length∧a5H (b3g (o:Int) n warm l) n warm=true∧PartsOk (b3g (o:Int) n warm l) n warm l h:=by
 obtain⟨h,e,i,j⟩:=b5a b;have d:zsN (o:Int) n warm=h:=by simp_all[zsN,b5b]
 have hp:a5H (b3g (o:Int) n warm l) n warm=true:=by
  simp only[a5H,b3g,bA,a33,beq_eq_false_iff_ne,ne_eq,beq_iff_eq];simp_all[a1w,b5C,b9W]
 obtain⟨f,g⟩:=PartsOk.of hp a c k
 have:f=h:=by
  have m:=g.sizes
  grind[b3g,b5b]
 grind
theorem b6b{n warm:Int}{l:List Int}(b:a6u n warm=true)(f:(l.length:Int)=n-warm)(a:l.all a0A=true)(g:l.length≤5000):∀i,1≤i→(a1A n warm l i).2≠0∧a5H (a1A n warm l i).1 n warm=true
 |0,h=>absurd h (by omega)
 |i+1,_=>by
  by_cases hs:(a1J (i:Int) n warm).length=0
  ·simp only[a1A,hs,if_true];cases i with
   |zero=>grind[c6f]
   |succ i=>exact b6b b f a g (i+1) (by omega)
  ·obtain⟨c,-,-,-,-,hp,-⟩:=c5d hs f a g;simp only[a1A,hs,if_false];split;simp_all[b9X]
   ·rename_i k;cases i with
    |zero=>exact absurd (Or.inl rfl) k
    |succ i=>exact b6b b f a g (i+1) (by omega)
theorem c8A(f:a6u n warm=true)(g:(l.length:Int)=n-warm)(k:l.all a0A=true)(h:l.length≤5000):a5H (b7I n warm l) n warm=true:=
 (b6b f g k h 7 (by omega)).2
theorem c2I(z:a6u n warm=true)(x:(l.length:Int)=n-warm)(t:l.all a0A=true)(s:l.length≤5000):
  b0N (n,warm,(6:Int),l)=some (b7I n warm l,0):=by
 have:=a1C (f:=a3G) (fun i:Nat=>(n,warm,(6:Int),l,(((a1A n warm l i).2:Nat):Int),(i:Int),((0:Int),([]:List Int),()),(a1A n warm l i).1,())) 7 (b:=(((0:Int),([]:List Int),()),b7I n warm l,()))
  (fun i hi=>by
   have j:decide ((i:Int)≤v0s (v0r 6 0) 8)=true:=decide_eq_true (by have:v0s (v0r 6 0) 8=6:=rfl;omega);have r:wrap .i64 ((i:Int)+1)=((i+1:Nat):Int):=a0B (by omega)
   by_cases hs:(a1J (i:Int) n warm).length=0
   simp_all[a1A,a3G,a2b];have hb:((((a1J (i:Int) n warm).length:Nat):Int)==0)=false:=by simp_all
   obtain⟨h,p,o,w,y,-,q⟩:=c5d hs x t s;have d:=b6M (n:=n) (warm:=warm) (most:=6) (least:=(((a1A n warm l i).2:Nat):Int)) (order:=(i:Int)) (L:=l) (a:=((0:Int),([]:List Int),())) (b:=(a1A n warm l i).1) w h.length 0 l [] (by omega) (by simp_all) t s rfl;simp at d;have e:=c2G q;simp only[b3g,o]at e;have k:(((h.length:Nat):Int)==0)=false:=by simp_all[a1w]
   have m:(((a1p h).length:Nat):Int)=((h.length:Nat):Int):=by rw[a1w]
   have v:b3g (i:Int) n warm l=((i:Int),a2F h l,()):=by simp only[b3g,o]
   have u:b9X (i:Int) n warm l=4+a5J h (a2F h l) l:=by simp only[b9X,o]
   by_cases hz:(a1A n warm l i).2=0
   have g:((((a1A n warm l i).2:Nat):Int)==0)=true:=by simp_all
   have c:a1A n warm l (i+1)=(((i:Int),a2F h l,()),4+a5J h (a2F h l) l):=by simp_all[a1A]
   simp only[a3G,j,cT,a2b,oB,p,m,k,cF,d,e,r,c,g];have g:((((a1A n warm l i).2:Nat):Int)==0)=false:=by simp_all
   by_cases hlt:4+a5J h (a2F h l) l<(a1A n warm l i).2
   have c:a1A n warm l (i+1)=(((i:Int),a2F h l,()),4+a5J h (a2F h l) l):=by simp_all[a1A]
   simp only[a3G,j,cT,a2b,oB,p,m,k,cF,d,e,r,c,g,d2p hlt];have c:a1A n warm l (i+1)=a1A n warm l i:=by simp only[a1A,hs,if_false,hz,false_or,v,u,hlt]
   simp only[a3G,j,cT,a2b,oB,p,m,k,cF,d,e,r,c,g,c6m hlt])
  (by
   rfl)
 simp_all[a1A,b0N,b1s]
def a1b(k:Int)(s:Sub):Sub:=
 (k,(0:Int),(if k=2 then s.2.2.1 else 0),(if k=3∨k=4 then s.2.2.2.1 else 0),(if k=4 then s.2.2.2.2.1 else 0),(if k=3∨k=4 then s.2.2.2.2.2.1 else[]),
  ((if k=4 then s.2.2.2.2.2.2.1 else a00 3 (0:Int)),(if k=5 then s.2.2.2.2.2.2.2.1 else[]),([]:List Int),((0:Int),([]:List Int),()),([]:List Int),()))
def z0:Prt:=((0:Int),([]:List Int),())
def a1L(s:Sub)(w:Nat)(wm:List Int)(p:Prt)(r:List Int):Sub:=
 (s.1,(w:Int),s.2.2.1,s.2.2.2.1,s.2.2.2.2.1,s.2.2.2.2.2.1,s.2.2.2.2.2.2.1,s.2.2.2.2.2.2.2.1,wm,p,r,())
theorem c7r(h:SmallS s)(k:Int):a6g (k,s)=some (a1b k s):=by
 have f:short s.2.2.2.2.2.1:=by have:=h.coefs;unfold short;omega
 have g:short s.2.2.2.2.2.2.2.1:=by have:=h.stages;unfold short;omega
 grind[a6g,a1b,b3f,b8m]
theorem c3H(h:SmallS s)(k:Int):SmallS (a1b k s):=by
 have g:=h.coefs;have f:=h.taps;have a:=h.stages;refine⟨?_,?_,?_,by simp[a1b],by simp[a1b],by simp[a1b]⟩<;>simp only[a1b]<;>split<;>first|omega|simp
theorem c6o:a3V (a1b k s).1 (a1b k s) n↔a3V k s n:=by
 unfold a3V a1b
 grind
open Classical in
def a2W (l:List Int):Nat:=if h:∃w,a8M l w then h.choose else 0
theorem d0Z{l:List Int}{w:Nat}(h:a8M l w):a2W l=w:=by
 unfold a2W;rw[dif_pos ⟨w,h⟩];exact(Classical.choose_spec (⟨w,h⟩:∃w,a8M l w)).unique h
def a1l(l:List Int):List Int:=l.map fun x=>A0o .i64 x (a2W l:Int)
theorem a9m(h:short l)(g:l.all a0A=true):a3E l=some ((a2W l:Nat):Int)∧a2W l≤30∧a8M l (a2W l):=by
 grind[b8X,d0Z]
theorem a6V(a:l.length≤4096)(f:l.all a0A=true):b0V ((a2W l:Nat):Int) l=some (a1l l)∧(a1l l).all a0A=true∧(a1l l).length=l.length∧upO ((a2W l:Nat):Int) (a1l l)=some l:=by
 obtain⟨-,g,k⟩:=a9m (show short l by unfold short;omega) f;have h:=d0Y g f k;exact⟨h,d0W g h⟩
def a5K(k:Int)(s:Sub)(d:List Int):Option (List Int×List Int):=
 if k=2 then(bif (a2m s.2.2.1.toNat d).all a0A then some (d.take s.2.2.1.toNat,a2m s.2.2.1.toNat d)else none)
 else if k=3 then(b5X d s.2.2.2.2.2.1 s.2.2.2.1).map fun r=>(d.take s.2.2.2.2.2.1.length,r)
 else if k=4 then(b5A d s.2.2.2.2.1 s.2.2.2.2.2.2.1).bind fun x=>(b5X x s.2.2.2.2.2.1 s.2.2.2.1).map fun r=>(x.take s.2.2.2.2.2.1.length,r)
 else(b3l d s.2.2.2.2.2.2.2.1).map fun r=>([],r)
theorem c3I(j:k=2∨k=3∨k=4∨k=5)(i:a3V k s (d.length:Int))(n:d.all a0A=true)(h:a5K k s d=some (wm,r)):
  wm.length≤d.length∧r.length=d.length-wm.length∧r.all a0A=true∧wm.all a0A=true:=by
 have f:=i;simp only[a3V]at f;rcases j with rfl|rfl|rfl|rfl
 ·have:0≤s.2.2.1∧s.2.2.1≤(d.length:Int):=by omega
  simp[a5K]at h;cases hq:(a2m s.2.2.1.toNat d).all a0A with
  |false=>simp_all
  |true=>
   simp[hq]at h;obtain⟨rfl,rfl⟩:=h;simp_all[a5R,b8W]
 have:(s.2.2.2.2.2.1.length:Int)≤(d.length:Int):=by omega
 simp only[a5K,show ¬ (3:Int)=2 by simp,if_false,if_true,a21,pJ]at h;obtain⟨c,g,rfl,rfl⟩:=h;obtain⟨-,a,b⟩:=b5Y g
 grind
 have:(s.2.2.2.2.2.1.length:Int)≤(d.length:Int):=by omega
 simp only[a5K,show ¬ (4:Int)=2 by simp,show ¬ (4:Int)=3 by simp,if_false,if_true,a44,a21,pJ]at h;obtain⟨x,e,c,g,rfl,rfl⟩:=h;obtain⟨-,l,m⟩:=b7m e;obtain⟨-,a,b⟩:=b5Y g
 grind
 simp only[a5K,show ¬ (5:Int)=2 by simp,show ¬ (5:Int)=3 by simp,show ¬ (5:Int)=4 by simp,if_false,a21,pJ]at h;obtain⟨c,g,rfl,rfl⟩:=h;obtain⟨-,a,b⟩:=b9R g;simp_all
theorem c8B(v:k=2∨k=3∨k=4∨k=5)(h:SmallS s)(q:a3V k s (d.length:Int))(D:d.length≤4096)(y:d.all a0A=true)(w:Nat):
  b1T (a1L (a1b k s) w [] z0 [],d)=some (match a5K k s d with|none=>(6,a1L (a1b k s) w [] z0 [])|some (wm,r)=>(0,a1L (a1b k s) w wm z0 r)):=by
 have l:=h.taps;have g:=h.stages;have i:short d:=by unfold short;omega
 obtain⟨k',w',o,sh,lag,c,t,st,z,p,E,u⟩:=s;simp only[a3V]at q l g;unfold b1T;rcases v with rfl|rfl|rfl|rfl;obtain⟨n,C,e⟩:0≤o∧o≤4∧o≤(d.length:Int):=by omega
 obtain⟨O,rfl⟩:=a01 n;have g:short (d.take O):=by unfold short;grind
 have j:decide ((O:Int)≤((d.length:Nat):Int))=true:=by simp_all
 simp only[a1L,a1b,a5K,if_true,show((2:Int)==2)=true from rfl,cT,b6K (show O≤4 by omega) (show O≤d.length by omega) i y,oB,tN]
 grind[b2q,a2o,a8g]
 ·obtain⟨f,e⟩:a9I c sh=true∧(c.length:Int)≤(d.length:Int):=by simp_all
  have g:short (d.take c.length):=by unfold short;grind
  have m:decide ((0:Int)≤((c.length:Nat):Int))=true:=by simp
  have j:decide (((c.length:Nat):Int)≤((d.length:Nat):Int))=true:=by simp_all
  simp only[a1L,a1b,a5K,show((3:Int)==2)=false from rfl,show((3:Int)==3)=true from rfl,show ¬ (3:Int)=2 by simp,show ¬ (3:Int)=4 by simp,show ¬ (3:Int)=5 by simp,true_or,if_true,if_false,cT,cF,b5z f (show c.length≤d.length by omega) (show d.length<100000 by omega),oB];cases b5X d c sh with
  |none=>rfl
  |some r=>simp_all[a5e,b2q,a2o,a8g]
 ·obtain⟨f,e,a⟩:a9I c sh=true∧(c.length:Int)≤(d.length:Int)∧b2b lag t=true:=by simp_all
  simp[a1L,a1b,a5K,c3x a l (show d.length<100000 by omega)];cases hx:b5A d lag t with
  |none=>rfl
  |some x=>
   obtain⟨-,A,B⟩:=b7m hx;have g:short (x.take c.length):=by unfold short;grind
   have m:decide ((0:Int)≤((c.length:Nat):Int))=true:=by simp
   have j:decide (((c.length:Nat):Int)≤((x.length:Nat):Int))=true:=by simp_all
   simp[a5e,b5z f (show c.length≤x.length by omega) (show x.length<100000 by omega)]
   grind[b2q,a2o,a8g]
 ·obtain⟨e,b⟩:0<st.length∧a9l st=true:=by simp_all
  have g:short (d.take 0):=by simp[short]
  simp only[a1L,a1b,a5K,show((5:Int)==2)=false from rfl,show((5:Int)==3)=false from rfl,show((5:Int)==4)=false from rfl,show((5:Int)==5)=true from rfl,show ¬ (5:Int)=2 by simp,show ¬ (5:Int)=3 by simp,show ¬ (5:Int)=4 by simp,or_self,if_true,if_false,cT,cF,c2F b (show d.length<100000 by omega),oB];cases b3l d st with
  |none=>rfl
  |some r=>
   rfl
open Classical in

def a1r (k:Int) (l:List Int) (s:Sub):Sub×Int:=
 if ¬ (1≤l.length∧l.length≤4096∧a3V k s (l.length:Int))then(a2c 0,1)
 else if l.all a0A=false then(a2c 0,6)
 else if k=0 then(bif l.all (fun x=>x==l.headD 0)then(a1L (a1b 0 s) 0 [l.headD 0] z0 [],0)else(a2c 0,7))
 else if k=1 then(a1L (a1b 1 s) (a2W l) (a1l l) z0 [],0)
 else match a5K k s (a1l l)with
  |none=>(a2c 0,6)
  |some (wm,r)=>(a1L (a1b k s) (a2W l) wm (b7I (l.length:Int) (wm.length:Int) r) r,0)
theorem c6p(h:1≤l.length):m0k l 0=some (l.headD 0):=by
 cases l with
 |nil=>grind
 |cons a l=>rfl
theorem c3J(k:1≤l.length)(c:short l)(a b:Sub):
  y0s a5m (l,l,(l.length:Int),(0:Int),a,b,())=some (bif l.all (fun x=>x==l.headD 0)then .inl (l,a,b,())else .inr ((7:Int),a2c 0,())):=by
 have:=a1S (f:=a5m) l (fun i=>(l,l,(l.length:Int),(i:Int),a,b,())) (fun x=>x==l.headD 0) (bt:=Sum.inl (l,a,b,())) (bf:=Sum.inr ((7:Int),a2c 0,()))
  (fun i h hp=>by
   have g:(l[i] != l.headD 0)=false:=by simp_all
   simp only[a5m,dlt h,cT,a0D h,oB,c6p k,g,cF,a0B (a18 h c)])
  (fun i h hp=>by
   have g:(l[i] != l.headD 0)=true:=by simp_all
   simp only[a5m,dlt h,cT,a0D h,oB,c6p k,g];rfl)
  (by simp[a5m])
 omega
theorem b8r(h:a3V k s n)(g:k≠0)(f:k≠1):k=2∨k=3∨k=4∨k=5:=by
 rcases h with h|h|⟨h,-⟩|⟨h,-⟩|⟨h,-⟩|⟨h,-⟩;omega;omega
 all_goals omega
theorem d1a(h:SmallS s)(k:Int)(D:l.length≤100000):b2V (k,l,s)=some (a1r k l s):=by
 have j:short l:=by unfold short;omega
 unfold b2V a1r
 by_cases h1:1≤l.length
 rotate_left;have e:decide (((l.length:Nat):Int)<1)=true:=decide_eq_true (by omega);rw[if_pos (fun g=>h1 g.1)];simp only[e,cT,oB];rfl;have a:decide (((l.length:Nat):Int)<1)=false:=decide_eq_false (by omega)
 by_cases h2:l.length≤4096
 rotate_left;have e:decide (((l.length:Nat):Int) > 4096)=true:=decide_eq_true (by omega);rw[if_pos (fun g=>h2 g.2.1)];simp only[a,e,cT,cF,oB];rfl;have o:decide (((l.length:Nat):Int) > 4096)=false:=decide_eq_false (by omega)
 by_cases h3:a3V k s (l.length:Int)
 rotate_left;have b:b3S k s (l.length:Int)=false:=by simp[b3S,h3]
 rw[if_pos (fun g=>h3 g.2.2)];simp only[a,o,b5t h,b,cF,a36,cT,oB];rfl;have b:b3S k s (l.length:Int)=true:=by simp[b3S,h3]
 rw[if_neg (fun g=>g ⟨h1,h2,h3⟩)];simp only[a,o,b5t h,b,cF,bT,oB,a4y j];cases hw:l.all a0A with
 |false=>rfl
 |true=>
  simp only[bT,cF,c7r h,oB];rw[if_neg (by simp)]
  by_cases h0:k=0
  ·subst h0;have w:=c3J h1 j (a2c 0) (a1b 0 s);have v:a2c 0=((0:Int),(0:Int),(0:Int),(0:Int),(0:Int),([]:(List Int)),a00 3 (0:Int),([]:(List (Int×Int×Unit))),([]:(List Int)),((0:Int),([]:(List Int)),()),([]:(List Int)),()):=rfl;rw[←v,if_pos rfl];simp only[show((0:Int)==0)=true from rfl,cT,w,oB];cases l.all (fun x=>x==l.headD 0)with
   |false=>rfl
   |true=>simp only[cT,c6p h1,oB];rfl
  ·obtain⟨z,A,-⟩:=a9m j hw;obtain⟨t,n,C,-⟩:=a6V h2 hw;have c:(k==0)=false:=by grind
   rw[if_neg h0];simp only[c,cF,z,oB,b5y A (show l.length<100000 by omega),t,a5e,show((0:Int) != 0)=false from rfl]
   by_cases hk1:k=1
   subst hk1;rfl
   ·have i:(k==1)=false:=by simp_all
    have p:=b8r h3 h0 hk1;rw[if_neg hk1];have m:=c8B p h (d:=a1l l) (by simp_all) (by omega) n (a2W l);have u:((a1b k s).1,((a2W l:Nat):Int),(a1b k s).2.2)=a1L (a1b k s) (a2W l) [] z0 []:=rfl;simp only[i,cF,u,m,oB];cases hr:a5K k s (a1l l)with
    |none=>rfl
    |some q=>
     obtain⟨B,r⟩:=q;obtain⟨E,r2,y,-⟩:=c3I p (by simp_all) n hr;have f:a6u (l.length:Int) (B.length:Int)=true:=by simp_all[a6u]
     have hb:=c2I f (l:=r) (by omega) y (by omega);simp only[show((0:Int) != 0)=false from rfl,cF,a1L,hb,oB]
theorem c7s(h:a5H p n warm=true):p.2.1.length≤256:=by
 simp only[a5H,bA,a33,beq_eq_false_iff_ne,ne_eq,beq_iff_eq]at h
 grind[b5a,a1w]
theorem b6c(h:SmallS s)(g:wm.length≤5000)(f:r.length≤5000)(k:p.2.1.length≤300):SmallS (a1L s w wm p r):=
 ⟨h.coefs,h.taps,h.stages,g,f,k⟩
theorem c6q(f:(a1r k l s).2=0):
  1≤l.length∧l.length≤4096∧a3V k s (l.length:Int)∧l.all a0A=true∧
   ((k=0∧l.all (fun x=>x==l.headD 0)=true∧(a1r k l s).1=a1L (a1b 0 s) 0 [l.headD 0] z0 [])∨
    (k=1∧(a1r k l s).1=a1L (a1b 1 s) (a2W l) (a1l l) z0 [])∨
     ((k=2∨k=3∨k=4∨k=5)∧∃wm r,a5K k s (a1l l)=some (wm,r)∧(a1r k l s).1=a1L (a1b k s) (a2W l) wm (b7I (l.length:Int) (wm.length:Int) r) r)):=by
 unfold a1r at f⊢
 split at f
 omega;rename_i g;have g:1≤l.length∧l.length≤4096∧a3V k s (l.length:Int):=Classical.byContradiction g;refine⟨g.1,g.2.1,g.2.2,?_⟩;rw[if_neg (fun h=>h g)]
 split at f
 omega;rename_i d;have a:l.all a0A=true:=by simp_all
 refine⟨a,?_⟩;rw[if_neg d]
 split at f
 grind
 rename_i b;rw[if_neg b]
 split at f
 simp_all;rename_i c;rw[if_neg c];refine .inr (.inr ⟨b8r g.2.2 b c,?_⟩)
 grind
theorem b3Z:b5u (a1L (a1b k s) w wm p r):=by
 unfold b5u a1L a1b;simp_all
theorem b8Y(h:a3V k s n):a3V (a1L (a1b k s) w wm p r).1 (a1L (a1b k s) w wm p r) n:=c6o.2 h
theorem c8C{l:List Int}(h:l.all (fun x=>x==l.headD 0)=true):a00 l.length (l.headD 0)=l:=by
 refine(List.eq_replicate_iff.2 ⟨rfl,fun x g=>?_⟩).symm
 grind
theorem c1r(I:SmallS s)(G:(a1r k l s).2=0):
  SmallS (a1r k l s).1∧(a1r k l s).1.1=k∧a1u (a1r k l s).1 (l.length:Int)∧a2l (a1r k l s).1 (l.length:Int)=some l:=by
 obtain⟨S,H,u,A,K⟩:=c6q G;have M:short l:=by unfold short;omega
 obtain⟨-,Y,-⟩:=a9m M A;obtain⟨O,v,P,D⟩:=a6V H A;have d:∀m:Sub,a1u m (l.length:Int)→c3k m (l.length:Int)=some l→a2l m (l.length:Int)=some l:=fun m j n=>by simp_all[a2l]
 have b:=c3H I k;rcases K with⟨rfl,y,e⟩|⟨rfl,e⟩|⟨z,i,r,f,e⟩
 ·rw[e];have g:a1u (a1L (a1b 0 s) 0 [l.headD 0] z0 []) (l.length:Int):=by
   have T:a0A (l.headD 0)=true:=by
    cases l with
    |nil=>rfl
    |cons a l=>simp_all
   exact⟨by omega,by omega,b8Y u,b3Z,Int.le_refl _,(by simp:(0:Int)≤30),fun _=>rfl,rfl,by simp_all[a1L],rfl,fun _=>⟨rfl,rfl,rfl⟩,fun h=>absurd rfl h.1⟩
  refine⟨b6c b (by simp) (by simp) (by simp[z0]),rfl,g,d _ g ?_⟩;show some (a00 (l.length:Int).toNat (l.headD 0))=some l
  grind[c8C]
 rw[e];have g:a1u (a1L (a1b 1 s) (a2W l) (a1l l) z0 []) (l.length:Int):=
  ⟨by omega,by omega,b8Y u,b3Z,a83 _,(by show((a2W l:Nat):Int)≤30;omega),fun h=>absurd h (by simp:¬ (1:Int)=0),by show(((a1l l).length:Nat):Int)=(l.length:Int);omega,v,rfl,fun _=>⟨rfl,rfl,rfl⟩,fun h=>absurd rfl h.2⟩
 refine⟨b6c b (by omega) (by simp) (by simp[z0]),rfl,g,d _ g ?_⟩;show upO ((a2W l:Nat):Int) (a1l l)=some l;omega
 ·rw[e];obtain⟨X,r2,C,N⟩:=c3I z (by simp_all) v f;have q:a6u (l.length:Int) (i.length:Int)=true:=by simp only[a6u,bA,dT];omega
  have hp:=c8A q (l:=r) (by omega) C (by omega);generalize b7I (l.length:Int) (i.length:Int) r=p at hp;have L:=c7s hp

  have t:a2o (a1L (a1b k s) (a2W l) i p r) (l.length:Int)=(i.length:Int)∧backP (a1L (a1b k s) (a2W l) i p r)=some (a1l l):=by
   simp only[a3V]at u;rcases z with rfl|rfl|rfl|rfl
   ·obtain⟨U,V,B⟩:0≤s.2.2.1∧s.2.2.1≤4∧s.2.2.1≤(l.length:Int):=by omega
    simp[a5K]at f;cases hq:(a2m s.2.2.1.toNat (a1l l)).all a0A with
    |false=>simp_all
    |true=>
     simp[hq]at f;obtain⟨rfl,rfl⟩:=f;refine⟨?_,?_⟩;show s.2.2.1=_
     grind
     show b8S ((a1l l).take s.2.2.1.toNat) (a2m s.2.2.1.toNat (a1l l)) s.2.2.1=some (a1l l);have hb:=c3t v (o:=s.2.2.1.toNat) (by omega) ((a1l l).length-s.2.2.1.toNat) 0 (by omega);rw[a28,a85]at hb
     grind[b8S]
   have B:(s.2.2.2.2.2.1.length:Int)≤(l.length:Int):=by omega
   simp only[a5K,show ¬ (3:Int)=2 by simp,if_false,if_true,a21,pJ]at f;obtain⟨w,j,rfl,rfl⟩:=f;obtain⟨n,-,-⟩:=b5Y j;refine⟨?_,?_⟩;show((s.2.2.2.2.2.1.length:Nat):Int)=_;simp_all;exact n;have B:(s.2.2.2.2.2.1.length:Int)≤(l.length:Int):=by omega
   simp only[a5K,show ¬ (4:Int)=2 by simp,show ¬ (4:Int)=3 by simp,if_false,if_true,a44,a21,pJ]at f;obtain⟨x,F,w,j,rfl,rfl⟩:=f;obtain⟨Q,-,R⟩:=b7m F;obtain⟨n,-,-⟩:=b5Y j;refine⟨?_,?_⟩;show((s.2.2.2.2.2.1.length:Nat):Int)=_;simp_all;show(b3M (x.take s.2.2.2.2.2.1.length) w s.2.2.2.2.2.1 s.2.2.2.1).bind (fun l=>b4r l s.2.2.2.2.1 s.2.2.2.2.2.2.1)=_;simp_all;simp only[a5K,show ¬ (5:Int)=2 by simp,show ¬ (5:Int)=3 by simp,show ¬ (5:Int)=4 by simp,if_false,a21,pJ]at f;obtain⟨w,j,rfl,rfl⟩:=f;obtain⟨n,-,-⟩:=b9R j;exact⟨rfl,n⟩
  have c:¬ (k=0∨k=1):=by omega
  have g:a1u (a1L (a1b k s) (a2W l) i p r) (l.length:Int):=by
   unfold a1u;rw[t.1];exact⟨by omega,by omega,b8Y u,b3Z,a83 _,(by show((a2W l:Nat):Int)≤30;omega),fun h=>absurd (.inl h) c,rfl,N,C,fun h=>absurd h c,fun _=>⟨(by show((r.length:Nat):Int)=_;omega),hp⟩⟩
  refine⟨b6c b (by omega) (by omega) (by omega),rfl,g,d _ g ?_⟩;have E:¬ (a1L (a1b k s) (a2W l) i p r).1=0:=fun h=>c (.inl h);unfold c3k;rw[if_neg E,t.2];exact D
theorem c6r:SmallS (a2c 0):=c4O 0
def cS(k o sh:Int)(c:List Int)(st:List Stg):Sub:=
 (k,(0:Int),o,sh,(0:Int),c,a00 3 (0:Int),st,([]:List Int),((0:Int),([]:List Int),()),([]:List Int),())
theorem b1v{k o sh:Int}{c:List Int}{st:List Stg}(h:c.length≤40)(g:st.length≤6):SmallS (cS k o sh c st):=
 ⟨h,rfl,g,by simp[cS],by simp[cS],by simp[cS]⟩
def b3h(d:List Int)(o w:Int):List Int×(Int×Int):=(a3U (d,o,w)).getD ([],0,1)
def b1w(d:List Int)(o w:Int):List Sub:=bif (b3h d o w).2.2==0 then[cS 3 0 (b3h d o w).2.1 (b3h d o w).1 []]else[]
def c6s(d:List Int):Int:=(a6m d).getD 0
def b6d(d:List Int):Sub×Bool:=(a3v d).getD (a2c 0,false)
def b8Z(d:List Int):List Sub:=bif (b6d d).2 then[(b6d d).1]else[]
def b1x(i:Nat):List Sub:=(List.range i).map fun(j:Nat)=>cS 2 (j:Int) 0 [] []
def a2q(d:List Int):List Sub:=[cS 0 0 0 [] [],cS 1 0 0 [] [],cS 2 (c6s d) 0 [] []]
def a3K(d:List Int)(k:Int):List Sub:=if 1≤k then b1w d 4 12++b1w d 8 12 else[]
def b2h(d:List Int)(k:Int):List Sub:=if 2≤k then[cS 5 0 0 [] [((16:Int),(4:Int),())],cS 5 0 0 [] [((32:Int),(3:Int),()),((16:Int),(5:Int),())]]++b8Z d else[]
def c2O(d:List Int)(k:Int):List Sub:=if 3≤k then b1x 5++(b1w d 1 12++(b1w d 2 12++(b1w d 12 14++b1w d 16 14)))else[]
def a4h(d:List Int)(k:Int):List Sub:=a2q d++(a3K d k++(b2h d k++c2O d k))
def b9Y(d:List Int):Prop:=a3v d=some (b6d d)∧((b6d d).2=true→SmallS (b6d d).1)
theorem c3K(a:d.all a0A=true)(k:d.length≤4096)(h:1≤o)(g:o≤32)(f:2≤w∧w≤16):
  a3U (d,(o:Int),(w:Int))=some (b3h d o w)∧((b3h d o w).2.2=0→(b3h d o w).1.length=o):=by
 obtain⟨c,sh,e,b,i⟩:=c7m a k h g f;unfold b3h;simp_all
theorem b1y(d:List Int)(o w:Int):(b1w d o w).length≤1:=by
 grind[b1w]
theorem b1z(c:d.all a0A=true)(b:d.length≤4096)(f:1≤o)(k:o≤32)(a:2≤w∧w≤16){L:List Sub}(e:L.length<1000):
  a0R ((o:Int),(w:Int),d,L)=some (d,L++b1w d o w):=by
 obtain⟨g,-⟩:=c3K c b f k a;have h:lim (L.length+1)=true:=a0X (by omega);unfold a0R b1w;simp only[g,oB];cases (b3h d o w).2.2==0 with
 |true=>simp only[cT,h];rfl
 |false=>simp
theorem c6t{L:List Sub}(k:L.length<1000):y0s a2s ((0:Int),L,d,())=some (L++b1x 5,d,()):=by
 have:=a1C (f:=a2s) (fun i:Nat=>((i:Int),L++b1x i,d,())) 5 (b:=(L++b1x 5,d,()))
  (fun i hi=>by
   have g:decide ((i:Int)<5)=true:=decide_eq_true (by omega);have h:lim ((L++b1x i).length+1)=true:=a0X (by simp[b1x];omega);have e:(L++b1x i)++[cS 2 (i:Int) 0 [] []]=L++b1x (i+1):=by simp[b1x,List.range_succ]
   rw[←e];simp only[a2s,g,cT,h,a0B (show i<1000000 by omega)];rfl)
  (by
   rfl)
 simp at this;rw[show b1x 0=[]from rfl,a40]at this;omega
theorem d1b(a:d.all a0A=true)(c:d.length≤4096)(l:b9Y d)(k:Int):a6R (d,k)=some (a4h d k):=by
 obtain⟨o,E,F⟩:=b9P (show d.length<100000 by omega) a;have hb:c6s d=(o:Int):=by simp_all[c6s]
 have D:(b8Z d).length≤1:=by grind[b8Z]
 have M:=b1y d 4 12;have N:=b1y d 8 12;have l1:=b1y d 1 12;have l2:=b1y d 2 12;have G:=b1y d 12 14;have y:=fun L (hL:L.length<1000)=>b1z (L:=L) a c (o:=4) (w:=12) (by omega) (by omega) (by omega) hL;have z:=fun L (hL:L.length<1000)=>b1z (L:=L) a c (o:=8) (w:=12) (by omega) (by omega) (by omega) hL;have v:=fun L (hL:L.length<1000)=>b1z (L:=L) a c (o:=1) (w:=12) (by omega) (by omega) (by omega) hL;have x:=fun L (hL:L.length<1000)=>b1z (L:=L) a c (o:=2) (w:=12) (by omega) (by omega) (by omega) hL;have i:=fun L (hL:L.length<1000)=>b1z (L:=L) a c (o:=12) (w:=14) (by omega) (by omega) (by omega) hL;have j:=fun L (hL:L.length<1000)=>b1z (L:=L) a c (o:=16) (w:=14) (by omega) (by omega) (by omega) hL;simp at y z v x i j;have O:(a2q d).length=3:=rfl;have n1:(a3K d k).length≤2:=by unfold a3K;split<;>simp<;>omega
 have n2:(b2h d k).length≤3:=by unfold b2h;split<;>simp<;>omega
 have P:(b1x 5).length=5:=rfl;have K:(bif decide (k≥1)then((a0R ((4:Int),(12:Int),d,a2q d)).bind fun n=>(a0R ((8:Int),(12:Int),n.1,n.2)).bind fun p=>some (k,p.1,p.2,()))else some (k,d,a2q d,()))=some (k,d,a2q d++a3K d k,()):=by
  unfold a3K
  by_cases h:1≤k
  have e:decide (k≥1)=true:=decide_eq_true h;simp only[e,cT,y (a2q d) (by omega),oB,z (a2q d++b1w d 4 12) (by grind),if_pos h,aA]
  grind
 have C:a6R (d,k)=(a6m d).bind fun A=>
   (show Option (Int×((List Int)×((List Sub)×Unit)))from bif decide (k≥1)then((a0R ((4:Int),(12:Int),d,[cS 0 0 0 [] [],cS 1 0 0 [] [],cS 2 A 0 [] []])).bind fun n=>(a0R ((8:Int),(12:Int),n.1,n.2)).bind fun p=>some (k,p.1,p.2,()))else some (k,d,[cS 0 0 0 [] [],cS 1 0 0 [] [],cS 2 A 0 [] []],())).bind fun g=>
   (show Option (Int×((List Sub)×((List Int)×Unit)))from bif decide (g.1≥2)then(bif lim (g.2.2.1.length+1)then(bif lim ((g.2.2.1++[cS 5 0 0 [] [((16:Int),(4:Int),())]]).length+1)then((a3v g.2.1).bind fun q=>
    bif q.2 then(bif lim ((g.2.2.1++[cS 5 0 0 [] [((16:Int),(4:Int),())]]++[cS 5 0 0 [] [((32:Int),(3:Int),()),((16:Int),(5:Int),())]]).length+1)then some (g.1,g.2.2.1++[cS 5 0 0 [] [((16:Int),(4:Int),())]]++[cS 5 0 0 [] [((32:Int),(3:Int),()),((16:Int),(5:Int),())]]++[q.1],g.2.1,())else none)
    else some (g.1,g.2.2.1++[cS 5 0 0 [] [((16:Int),(4:Int),())]]++[cS 5 0 0 [] [((32:Int),(3:Int),()),((16:Int),(5:Int),())]],g.2.1,()))else none)else none)else some (g.1,g.2.2.1,g.2.1,())).bind fun t=>
   (show Option ((List Sub)×Unit)from bif decide (t.1≥3)then((y0s a2s ((0:Int),t.2.1,t.2.2.1,())).bind fun m=>(a0R ((1:Int),(12:Int),m.2.1,m.1)).bind fun r=>(a0R ((2:Int),(12:Int),r.1,r.2)).bind fun s=>
    (a0R ((12:Int),(14:Int),s.1,s.2)).bind fun f=>(a0R ((16:Int),(14:Int),f.1,f.2)).bind fun b=>some (b.2,()))else some (t.2.1,())).bind fun u=>some u.1:=rfl
 have B:[cS 0 0 0 [] [],cS 1 0 0 [] [],cS 2 (o:Int) 0 [] []]=a2q d:=by unfold a2q;grind
 have Q:(bif decide (k≥2)then(bif lim ((a2q d++a3K d k).length+1)then(bif lim ((a2q d++a3K d k++[cS 5 0 0 [] [((16:Int),(4:Int),())]]).length+1)then((a3v d).bind fun q=>
    bif q.2 then(bif lim ((a2q d++a3K d k++[cS 5 0 0 [] [((16:Int),(4:Int),())]]++[cS 5 0 0 [] [((32:Int),(3:Int),()),((16:Int),(5:Int),())]]).length+1)then some (k,a2q d++a3K d k++[cS 5 0 0 [] [((16:Int),(4:Int),())]]++[cS 5 0 0 [] [((32:Int),(3:Int),()),((16:Int),(5:Int),())]]++[q.1],d,())else none)
    else some (k,a2q d++a3K d k++[cS 5 0 0 [] [((16:Int),(4:Int),())]]++[cS 5 0 0 [] [((32:Int),(3:Int),()),((16:Int),(5:Int),())]],d,()))else none)else none)else some (k,a2q d++a3K d k,d,()):Option (Int×((List Sub)×((List Int)×Unit))))=some (k,a2q d++(a3K d k++b2h d k),d,()):=by
  unfold b2h
  by_cases h:2≤k
  have e:decide (k≥2)=true:=decide_eq_true h;have q1:lim ((a2q d++a3K d k).length+1)=true:=a0X (by grind);have H:lim ((a2q d++a3K d k++[cS 5 0 0 [] [((16:Int),(4:Int),())]]).length+1)=true:=a0X (by simp;omega);have I:lim ((a2q d++a3K d k++[cS 5 0 0 [] [((16:Int),(4:Int),())]]++[cS 5 0 0 [] [((32:Int),(3:Int),()),((16:Int),(5:Int),())]]).length+1)=true:=a0X (by simp;omega);simp only[e,q1,H,I,cT,l.1,oB,if_pos h,b8Z];cases (b6d d).2<;>simp
  grind
 have R:(bif decide (k≥3)then((y0s a2s ((0:Int),a2q d++(a3K d k++b2h d k),d,())).bind fun m=>(a0R ((1:Int),(12:Int),m.2.1,m.1)).bind fun r=>(a0R ((2:Int),(12:Int),r.1,r.2)).bind fun s=>
    (a0R ((12:Int),(14:Int),s.1,s.2)).bind fun f=>(a0R ((16:Int),(14:Int),f.1,f.2)).bind fun b=>some (b.2,()))else some (a2q d++(a3K d k++b2h d k),()):Option ((List Sub)×Unit))=some (a4h d k,()):=by
  unfold a4h c2O
  by_cases h:3≤k
  have e:decide (k≥3)=true:=decide_eq_true h;simp only[e,cT,c6t (L:=a2q d++(a3K d k++b2h d k)) (by simp;omega),oB,if_pos h];rw[v _ (by simp;omega)];simp only[oB];rw[x _ (by simp;omega)];simp only[oB];rw[i _ (by simp;omega)];simp only[oB];rw[j _ (by simp;omega)]
  simp
  grind
 rw[C,E,oB,B];simp only[];rw[K];simp only[oB];simp_all
theorem b9Z(l:d.all a0A=true)(i:d.length≤4096)(f:b9Y d)(k:Int):∀c∈a4h d k,SmallS c:=by
 have g:∀(o w:Nat),1≤o→o≤32→2≤w∧w≤16→∀c∈b1w d o w,SmallS c:=fun o w a b e c h=>by
  obtain⟨-,m⟩:=c3K l i a b e;unfold b1w at h;cases he:(b3h d o w).2.2==0 with
  |false=>simp_all
  |true=>
   rw[he]at h;simp at h
   grind[b1v]
 intro c h;simp[a4h]at h;rcases h with h|h|h|h;simp[a2q]at h;rcases h with rfl|rfl|rfl<;>exact b1v (by simp) (by simp);unfold a3K at h
 split at h
 simp at h;rcases h with h|h;exact g 4 12 (by omega) (by omega) (by omega) c h;exact g 8 12 (by omega) (by omega) (by omega) c h;simp_all
 ·unfold b2h at h
  split at h
  ·simp only[mA,mC,a97,or_false]at h;rcases h with(rfl|rfl)|h;simp_all[b1v];simp_all[b1v]
   ·unfold b8Z at h;cases hg:(b6d d).2 with
    |false=>simp_all
    |true=>
     rw[hg]at h;simp at h;subst h;exact f.2 hg
  simp_all
 unfold c2O at h
 split at h
 simp only[mA,b1x,List.mem_map]at h;rcases h with⟨j,-,rfl⟩|h|h|h|h;simp_all[b1v];exact g 1 12 (by omega) (by omega) (by omega) c h;exact g 2 12 (by omega) (by omega) (by omega) c h;exact g 12 14 (by omega) (by omega) (by omega) c h;exact g 16 14 (by omega) (by omega) (by omega) c h;simp_all
theorem c8D(g:d.length≤256):a3v d=some (a2c 0,false):=by
 have h:b1S (d,(16:Int),(256:Int))=some (0,7):=by
  unfold b1S
  grind
 unfold a3v;simp only[h,oB,show((7:Int) != 0)=true from rfl,cT];rfl
theorem d2q{d:List Int}(g:d.length≤256):b9Y d:=by
 have h:=c8D g
 have:b6d d=(a2c 0,false):=by unfold b6d;simp_all
 exact⟨by simp_all,fun f=>by simp_all⟩
def b5D(l:List Int)(a:Int×(Bool×Sub))(c:Sub):Int×(Bool×Sub):=
 bif (a1r c.1 l c).2 != 0 then a else bif !a.2.1 || decide (a5c (a1r c.1 l c).1 (l.length:Int)<a.1)then(a5c (a1r c.1 l c).1 (l.length:Int),true,(a1r c.1 l c).1)else a
def b6e(l:List Int)(cs:List Sub):Int×(Bool×Sub):=cs.foldl (b5D l) (0,false,a2c 0)
theorem b6f{α A β:Type}(g:A→α→A)(h:A→β):∀(l:List α)(a:A),a8d h (a2O (fun a x=>.inl (g a x)) l a)=h (l.foldl g a)
 | [],_=>rfl
 |x::l,a=>b6f g h l (g a x)
theorem c4P(h:SmallS s):SmallS (a1r k l s).1:=by
 by_cases h0:(a1r k l s).2=0
 exact(c1r h h0).1
 have:(a1r k l s).1=a2c 0:=by
  unfold a1r at h0⊢
  grind
 simp_all[c6r]
theorem c7t{cs:List Sub}(e:∀c∈cs,SmallS c)(o:l.length≤4096)(n:cs.length<1000):
  y0s a7l (l,(0:Int),false,cs,((cs.length:Nat):Int),(0:Int),a2c 0,a2c 0,())=some (a2c 0,(b6e l cs).2.2,()):=by
 have:=a1G (f:=a7l) cs (fun i a=>(l,a.1,a.2.1,cs,((cs.length:Nat):Int),(i:Int),a2c 0,a.2.2,())) (fun a x=>.inl (b5D l a x)) (fun _ _=>True) (fun a=>(a2c 0,a.2.2,()))
  (fun i hi a _=>by
   refine⟨fun m h=>?_,fun b hb=>by grind⟩;simp at h;subst h;refine⟨?_,trivial⟩;have g:=e _ (a05 hi);have d:=c5a (c4P (k:=cs[i].1) (l:=l) g) (l.length:Int);unfold b5D;simp only[a7l,dlt hi,cT,a0D hi,oB,d1a g cs[i].1 (show l.length≤100000 by omega),d,a0B (show i<1000000 by omega)];cases (a1r cs[i].1 l cs[i]).2 != 0 with
   |true=>rfl
   |false=>
    have j:=a0B (show i<1000000 by omega)
    grind)
  (fun a _=>by simp_all[a7l]) (a:=((0:Int),false,a2c 0)) trivial
 simp at this;rw[this,b6f];rfl
theorem d1c(v:1≤l.length)(c:l.length≤4096)(a:l.all a0A=true)(h:b9Y (a1l l))(u:0≤k)(x:k≤3):
  a5B (l,k)=some ((b6e l (a4h (a1l l) k)).2.2,0):=by
 have d:short l:=by unfold short;omega
 obtain⟨r,s,-⟩:=a9m d a;obtain⟨e,b,t,-⟩:=a6V c a;have i:decide (((l.length:Nat):Int)<1)=false:=decide_eq_false (by omega);have j:decide (((l.length:Nat):Int) > 4096)=false:=decide_eq_false (by omega);have m:decide (k<0)=false:=decide_eq_false (by omega);have n:decide (k > 3)=false:=decide_eq_false (by omega);have f:(a4h (a1l l) k).length<1000:=by
  have g:=fun o w=>b1y (a1l l) o w;have q1:=g 4 12;have y:=g 8 12;have z:=g 1 12;have A:=g 2 12;have B:=g 12 14;have C:=g 16 14;have p:(b8Z (a1l l)).length≤1:=by grind[b8Z]
  simp only[a4h,a2q,a3K,b2h,c2O,lN]
  grind[b1x]
 have hb:=c7t (l:=l) (b9Z b (by omega) h k) c f;have q:a2c 0=((0:Int),(0:Int),(0:Int),(0:Int),(0:Int),([]:(List Int)),a00 3 (0:Int),([]:(List (Int×Int×Unit))),([]:(List Int)),((0:Int),([]:(List Int)),()),([]:(List Int)),()):=rfl;unfold a5B;simp only[←q,i,j,m,n,cF,oB,a4y d,a,bT,r,b5y s (show l.length<100000 by omega),e,a5e,show((0:Int) != 0)=false from rfl,d1b b (show(a1l l).length≤4096 by omega) h,hb]
theorem b1A(v:Int)(n:Nat)(L:List Int):(a0Q v n L).length=L.length+(a0Q v n []).length:=by
 grind[a0Q]
theorem b4A(n:Nat):∀(l L:List Int),(a1D n l L).length=L.length+(a1D n l []).length
 | [],L=>by rfl
 |x::l,L=>by
  show(a1D n l (a0Q (a0Z x n) n L)).length=L.length+(a1D n l (a0Q (a0Z x n) n [])).length;rw[b4A n l,b4A n l (a0Q (a0Z x n) n []),b1A];omega
theorem b5d:∀(st:List Stg)(L:List Int),(a3g st L).length=L.length+(a3g st []).length
 | [],L=>by rfl
 |s::st,L=>by
  show(a3g st (a6x s L)).length=L.length+(a3g st (a6x s [])).length;rw[b5d st,b5d st (a6x s [])];unfold a6x;rw[b1A,b1A _ 5 L,b1A _ 4 (a0Q _ 5 [])];omega
theorem c6u(s:Sub)(L:List Int):(a6y s L).length=L.length+(a6y s []).length:=by
 grind[a6y,b4A,b1A]
theorem c1T(s:Sub)(L:List Int):(a2x s L).length=L.length+(a2x s []).length:=by
 grind[a2x,b1A,c6u,b4A,b5d]
theorem c8E(g:0≤s.1∧s.1≤5)(f:0≤s.2.1∧s.2.1≤30)(h:s.2.2.2.2.2.2.2.2.1.all a0A=true)(L:List Int):(b2d s L).length=L.length+13:=by
 grind[a01,a1W,b2d,a3y,b1u]
def c6v(s:Sub)(zn:List Nat):Nat:=
 13+(a2x s []).length+a0I s.2.2.2.2.2.2.2.2.1*s.2.2.2.2.2.2.2.2.1.length+if s.1=0∨s.1=1 then 0 else 4+a5J zn s.2.2.2.2.2.2.2.2.2.1.2.1 s.2.2.2.2.2.2.2.2.2.2.1
theorem b6g(h:a3V k s n):0≤k∧k≤5:=by
 rcases h with h|h|⟨h,-⟩|⟨h,-⟩|⟨h,-⟩|⟨h,-⟩<;>omega
theorem b5e(h:(a2l s n).isSome=true):a1u s n:=by
 grind[a2l]
theorem d1d(h:(a2l s n).isSome=true)(d:s.1≠0∧s.1≠1→PartsOk s.2.2.2.2.2.2.2.2.2.1 n ((s.2.2.2.2.2.2.2.2.1.length:Nat):Int) s.2.2.2.2.2.2.2.2.2.2.1 zn)(L:List Int):
  (a5o s zn L).length=L.length+c6v s zn:=by
 obtain⟨e,i,b,-,k,a,-,-,f,-⟩:=b5e h;have c:=a1W f;have g:=c8E (b6g b) ⟨k,a⟩ f L;unfold a5o c6v
 by_cases hk:s.1=0∨s.1=1
 rw[if_pos hk,if_pos hk,b4y (by omega),c1T,g];omega;rw[if_neg hk,if_neg hk,c2H (d (not_or.1 hk)),b4y (by omega),c1T,g];omega
theorem c8F(h:SmallS s)(f:(a2l s n).isSome=true):∃g,a5c s n=((c6v s g:Nat):Int)∧(s.1≠0∧s.1≠1→PartsOk s.2.2.2.2.2.2.2.2.2.1 n ((s.2.2.2.2.2.2.2.2.1.length:Nat):Int) s.2.2.2.2.2.2.2.2.2.2.1 g):=by
 obtain⟨e,b,-,-,-,a,-⟩:=b5S h (n:=n) (L:=[]) (by simp);obtain⟨-,g,-,k⟩:=a f;refine⟨g,?_,k⟩;unfold a5c;rw[if_pos f,←c1p k,d1d f k]
 simp
structure Shifted (l m:List Int) (n:Nat):Prop where
 len:m.length=l.length
 wl:l.all a0A=true
 wm:m.all a0A=true
 down:a1l m=a1l l
 waste:a2W m=a2W l+n
 fl:l.all (fun x=>x==l.headD 0)=false
 fm:m.all (fun x=>x==m.headD 0)=false
structure BestIs (l:List Int) (cs:List Sub) (a:Int×(Bool×Sub)):Prop where
 one:a.2.1=true→∃c∈cs,(a1r c.1 l c).2=0∧a.2.2=(a1r c.1 l c).1∧a.1=a5c a.2.2 (l.length:Int)
 least:∀c∈cs,(a1r c.1 l c).2=0→a.2.1=true∧a.1≤a5c (a1r c.1 l c).1 (l.length:Int)
theorem b7p{l:List Int}:∀(cs ds:List Sub)(a:Int×(Bool×Sub)),BestIs l ds a→BestIs l (ds++cs) (cs.foldl (b5D l) a)
 | [],ds,a,h=>by simp_all
 |c::cs,ds,a,h=>by
  rw[b01,show ds++c::cs=(ds++[c])++cs by simp];refine b7p cs (ds++[c]) _ ?_
  unfold b5D
  by_cases h0:(a1r c.1 l c).2=0
  ·have n1:((a1r c.1 l c).2 != 0)=false:=by simp_all
   rw[n1,cF];cases hq:(!a.2.1 || decide (a5c (a1r c.1 l c).1 (l.length:Int)<a.1))with
   |true=>
    refine⟨fun _=>⟨c,by simp,h0,rfl,rfl⟩,fun d f k=>⟨rfl,?_⟩⟩;rcases mA.1 f with f|f;obtain⟨e,i⟩:=h.least d f k
    grind
    simp_all
   |false=>
    simp only[a77,Bool.not_eq_false',decide_eq_false_iff_not]at hq;refine⟨fun b=>?_,fun d f k=>?_⟩;obtain⟨d,f,g⟩:=h.one b
    grind
    rcases mA.1 f with f|f;exact h.least d f k;simp_all
  have n1:((a1r c.1 l c).2 != 0)=true:=by simp_all
  rw[n1,cT];refine⟨fun b=>?_,fun d f k=>?_⟩;obtain⟨d,f,g⟩:=h.one b
  grind
  rcases mA.1 f with f|f;exact h.least d f k;simp_all
theorem c1s(l:List Int)(cs:List Sub):BestIs l cs (b6e l cs):=
 b7p cs [] _ ⟨fun h=>(by grind),fun _ h=>(by grind)⟩
theorem b6h(h:1≤l.length)(g:l.length≤4096)(f:l.all a0A=true):a1r 1 l (cS 1 0 0 [] [])=(a1L (a1b 1 (cS 1 0 0 [] [])) (a2W l) (a1l l) z0 [],0):=by
 unfold a1r;rw[if_neg (fun q=>q ⟨h,g,.inr (.inl rfl)⟩),if_neg (by simp_all),if_neg (by simp),if_pos rfl]
theorem c6w(h:1≤l.length)(g:l.length≤4096)(f:l.all a0A=true)(d:List Int)(k:Int):(b6e l (a4h d k)).2.1=true:=
 ((c1s l (a4h d k)).least (cS 1 0 0 [] []) (by simp[a4h,a2q]) (by rw[show(cS 1 0 0 [] []).1=1 from rfl,b6h h g f])).1
def inW(x:Int)(v:Nat):Bool:=decide (x=0) || a1n x (v:Int)
theorem c8G{x:Int}{v:Nat}:a1n x (v:Int)=true↔1≤v∧v≤31∧-((2^(v-1):Nat):Int)≤x∧x≤((2^(v-1):Nat):Int)-1:=by
 by_cases hv:1≤v∧v≤31
 have e:((v:Int)-1)=((v-1:Nat):Int):=by omega
 have hp:2^(v-1)≤2^30:=a08 (by omega) (by omega);have a:=a16 (v-1);have g:A0n .i64 1 ((v-1:Nat):Int)=((2^(v-1):Nat):Int):=c3u (by omega);have f:A0n .i64 (-1) ((v-1:Nat):Int)=-((2^(v-1):Nat):Int):=by
  grind[IntKind.bits,A0n,a0C]
 have k:wrap .i64 (((2^(v-1):Nat):Int)-1)=((2^(v-1):Nat):Int)-1:=a0C (by omega);simp only[a1n,e,g,f,k,bA,dT];omega;constructor;intro h;simp[a1n]at h;omega;omega
theorem b7J:inW x v=true↔x=0∨(1≤v∧v≤31∧-((2^(v-1):Nat):Int)≤x∧x≤((2^(v-1):Nat):Int)-1):=by
 simp_all[inW,c8G]
theorem c8H{x:Int}{v w:Nat}(h:v≤w)(c:w≤31)(g:inW x v=true):inW x w=true:=by
 rw[b7J]at g⊢;rcases g with g|⟨f,k,a,b⟩;omega
 have:2^(v-1)≤2^(w-1):=a08 (by omega) (by omega)
 omega
theorem c8I{x:Int}(h:a0A x=true):inW x 31=true:=by
 have:=a1H.1 h
 rw[b7J];omega
theorem c1U{x:Int}(j:a0A x=true):∀(k w:Nat),w+k=32→w≤31→w≤a1K x k w∧a1K x k w≤31∧inW x (a1K x k w)=true∧∀v,w≤v→inW x v=true→v≤31→a1K x k w≤v
 |0,w,h,g=>absurd g (by omega)
 |k+1,w,h,g=>by
  by_cases hin:inW x w=true
  ·have:a1K x (k+1) w=w:=by
    unfold a1K;cases a:(x != 0)&&!a1n x (w:Int)with
    |false=>rfl
    |true=>
     simp at a;simp_all[inW]
   simp_all
  have a:((x != 0)&&!a1n x (w:Int))=true:=by
   simp_all[inW]
  have i:w≠31:=fun e=>hin (by simp_all[c8I]);have e:a1K x (k+1) w=a1K x k (w+1):=by
   show(bif (x != 0)&&!a1n x (w:Int)then a1K x k (w+1)else w)=_
   grind
  obtain⟨l,b,c,d⟩:=c1U j k (w+1) (by omega) (by omega);rw[e];refine⟨by omega,b,c,fun v hv f g=>d v ?_ f g⟩;rcases Nat.lt_or_ge w v with q|q;exact q
  have:v=w:=by omega
  exact absurd (this▸f) hin
theorem b0W:∀(l:List Int)(w:Nat),l.all a0A=true→w≤31→
  w≤l.foldl (fun w x=>a1K x (32-w) w) w∧l.foldl (fun w x=>a1K x (32-w) w) w≤31∧(∀x∈l,inW x (l.foldl (fun w x=>a1K x (32-w) w) w)=true)∧∀v,w≤v→v≤31→(∀x∈l,inW x v=true)→l.foldl (fun w x=>a1K x (32-w) w) w≤v
 | [],w,_,h31=>⟨a27 _,h31,by simp,fun v hv _ _=>hv⟩
 |x::l,w,h,h31=>by
  rw[a07,bA]at h;obtain⟨i,b,j,m⟩:=c1U h.1 (32-w) w (by omega) h31;obtain⟨c,a,d,e⟩:=b0W l (a1K x (32-w) w) h.2 b;simp only[b01];refine⟨by omega,a,fun y k=>?_,fun v hv f g=>?_⟩
  ·rcases mC.1 k with rfl|k
   all_goals grind[c8H]
  simp_all
theorem c3L{l:List Int}(h:l.all a0A=true):∀x∈l,inW x (a0I l)=true:=(b0W l 0 h (by omega)).2.2.1
theorem c4Q(h:l.all a0A=true)(hv:v≤31)(g:∀x∈l,inW x v=true):a0I l≤v:=(b0W l 0 h (by omega)).2.2.2 v (by omega) hv g
theorem c8J{x:Int}{w v:Nat}(e:w≤30)(k:((2^w:Nat):Int) ∣ x)(h:inW x v=true):inW (A0o .i64 x (w:Int)) v=true:=by
 obtain⟨c,rfl⟩:=k;rw[c8x (by omega)];rw[b7J]at h⊢;have hp:(1:Int)≤((2^w:Nat):Int):=by have:=a16 w;omega
 generalize ((2^w:Nat):Int)=p at h hp;rcases h with h|⟨g,f,b,d⟩
 grind[Int.mul_eq_zero]
 refine .inr ⟨g,f,?_,?_⟩
 by_cases hc:0≤c
 omega;have a:=a47 (show 0≤p-1 by omega) (show 0≤-c by omega)
 grind
 by_cases hc:0≤c
 have a:=a47 (show 0≤p-1 by omega) hc
 grind
 omega
theorem c6x(k:l.length≤4096)(h:l.all a0A=true):a0I (a1l l)≤a0I l:=by
 obtain⟨-,e,c⟩:=a9m (show short l by unfold short;omega) h;obtain⟨-,f,-,-⟩:=a6V k h;have a:∀x∈l,((2^a2W l:Nat):Int) ∣ x:=by
  rcases c with⟨g,-⟩|⟨-,-,g,-⟩
  all_goals grind[a86]
 refine c4Q f (a1W h) fun y b=>?_
 obtain⟨x,d,rfl⟩:=List.mem_map.1 b
 grind[c8J,c3L]
theorem c6y(a:1≤l.length)(h:l.length≤4096)(g:l.all a0A=true):a5c (a1r 1 l (cS 1 0 0 [] [])).1 (l.length:Int)=((13+a0I (a1l l)*l.length:Nat):Int):=by
 have b:SmallS (cS 1 0 0 [] []):=b1v (by simp) (by simp);have d:=b6h a h g;obtain⟨a1,-,-,f⟩:=c1r b (k:=1) (l:=l) (by grind);obtain⟨i,c,-⟩:=c8F a1 (by rw[f];rfl);obtain⟨-,-,j,-⟩:=a6V h g;rw[c,d];have e:c6v (a1L (a1b 1 (cS 1 0 0 [] [])) (a2W l) (a1l l) z0 []) i=13+0+a0I (a1l l)*(a1l l).length+0:=rfl;simp_all
theorem c6z{l:List Int}(b:1≤l.length)(f:l.length≤4096)(a:l.all a0A=true)(g:b9Y (a1l l)){k:Int}(d:0≤k)(t:k≤3):
  ∃s,a5B (l,k)=some (s,0)∧SmallS s∧a2l s (l.length:Int)=some l∧s=(b6e l (a4h (a1l l) k)).2.2∧a5c s (l.length:Int)=(b6e l (a4h (a1l l) k)).1∧a5c s (l.length:Int)≤((13+a0I l*l.length:Nat):Int)∧
   (∀c∈a4h (a1l l) k,(a1r c.1 l c).2=0→a5c s (l.length:Int)≤a5c (a1r c.1 l c).1 (l.length:Int)):=by
 obtain⟨-,p,u,-⟩:=a6V f a;have hb:=d1c b f a g d t;have j:=c6w b f a (a1l l) k;obtain⟨c,i,q,r,o⟩:=(c1s l (a4h (a1l l) k)).one j;have e:=b9Z p (by omega) g k c i;obtain⟨m,-,-,n⟩:=c1r e q;rw[←r]at m n;have h:∀c∈a4h (a1l l) k,(a1r c.1 l c).2=0→a5c (b6e l (a4h (a1l l) k)).2.2 (l.length:Int)≤a5c (a1r c.1 l c).1 (l.length:Int):=fun c i d=>by
  rw[←o];exact((c1s l (a4h (a1l l) k)).least c i d).2
 refine⟨_,hb,m,n,rfl,o.symm,?_,h⟩;have hp:=h (cS 1 0 0 [] []) (by simp[a4h,a2q]) (by rw[show(cS 1 0 0 [] []).1=1 from rfl,b6h b f a]);rw[show(cS 1 0 0 [] []).1=1 from rfl,c6y b f a]at hp
 have:=a25 l.length (c6x f a)
 omega
@[reducible] def Rd:Type:=(List Int)×(Int×(Int×Unit))
def a1x(L:List Int):Prop:=∀b∈L,b=0∨b=1
def b3n(bs:List Int)(i:Nat):Bool:=(bs.getD (i / 8) 0).toNat.testBit (7-i%8)
theorem or8{x y:Nat}(h:x<256)(g:y<256):bits .u8 .or (x:Int) (y:Int)=((x ||| y:Nat):Int):=by
 show wrap .u8 (((a04 8 (x:Int)) ||| (a04 8 (y:Int))).toNat:Int)=_;rw[a24,a24,a72,a29,a29,a23 h,a23 g,a8c]
 have:x ||| y<2^8:=a88 h g
 omega
theorem d7g{b:Int}(hb:b=0∨b=1){r:Nat}(g:r<8):A0n .u8 b (7-(r:Int))=((b.toNat*2^(7-r):Nat):Int):=by
 have h:∀r:Fin 8,A0n .u8 0 (7-(r.1:Int))=((0*2^(7-r.1):Nat):Int)∧A0n .u8 1 (7-(r.1:Int))=((1*2^(7-r.1):Nat):Int):=by decide +kernel
 rcases hb with rfl|rfl;exact(h ⟨r,g⟩).1;exact(h ⟨r,g⟩).2
theorem c8K{x:Nat}(h:x<256){r:Nat}(g:r<8):bits .u8 .and (A0o .u8 (x:Int) (7-(r:Int))) 1=if x.testBit (7-r)then 1 else 0:=by
 have e:A0o .u8 (x:Int) (7-(r:Int))=((x / 2^(7-r):Nat):Int):=by
  show a80 (x:Int) (2^(min (7-(r:Int)).toNat 8))=_
  grind
 rw[e];have f:x / 2^(7-r)<256:=a38 (a32 _ _) h;show wrap .u8 (((a04 8 ((x / 2^(7-r):Nat):Int)) &&& (a04 8 1)).toNat:Int)=_
 grind[a04,a8c]
theorem c7u(L:List Int)(b:Int)(i:Nat):(L++[b]).getD i 0=if i=L.length then b else L.getD i 0:=by
 grind
theorem c3M(h:List Int)(k:Nat)(y:Int)(g:k<h.length)(j:Nat):(h.set k y).getD j 0=if j=k then y else h.getD j 0:=by
 grind
theorem c1V:∀(n:Nat)(L:List Int),L.length=n→a1x L→(∀j,0≤(wL L).1.getD j 0∧(wL L).1.getD j 0<256)∧∀i,b3n (wL L).1 i=decide (L.getD i 0=1)
 |0,L,h,_=>by
  simp_all[wL,b3n]
 |n+1,L,h,hL=>by
  obtain⟨g,b,rfl⟩:∃g b,L=g++[b]:=by
   rcases a51 L with rfl|⟨g,b,e⟩
   all_goals simp_all
  have hb:b=0∨b=1:=hL b (by simp);obtain⟨t,v⟩:=c1V n g (by simp_all) fun c C=>hL c (by grind);obtain⟨o,p⟩:=a5Q g;rw[c1m];generalize wL g=wr at o p t v⊢;obtain⟨d,m,u⟩:=wr;have o:m=(g.length:Int):=o;have p:d.length=(g.length+7) / 8:=p;subst o;have e8:((g.length:Int) / 8).toNat=g.length / 8:=by rfl
  have q:(g.length:Int)%8=((g.length%8:Nat):Int):=by rfl
  obtain⟨f,a,w,y⟩:∃f:List Int,(if(g.length:Int)%8=0 then d++[0]else d)=f∧g.length / 8<f.length∧∀j,f.getD j 0=d.getD j 0:=by
   grind
  rw[q]at a;have B:g.length%8<8:=a41 _ (by simp);obtain⟨x,r⟩:∃x:Nat,d.getD (g.length / 8) 0=(x:Int):=a01 (t _).1;have k:x<256:=by
   grind
  have s:b.toNat*2^(7-g.length%8)<256:=by
   have hp:2^(7-g.length%8)≤2^7:=a08 (by simp) (by omega)
   grind
  have A:x ||| b.toNat*2^(7-g.length%8)<2^8:=a88 k s;have l:(c1l (d,(g.length:Int),u) b).1=f.set (g.length / 8) ((x ||| b.toNat*2^(7-g.length%8):Nat):Int):=by
   unfold c1l;simp only[a,e8,q];rw[y,r,d7g hb B,or8 k s]
  rw[l];refine⟨fun j=>?_,fun i=>?_⟩
  grind[c3M]
  ·unfold b3n;rw[c3M _ _ _ w,c7u];have hi:=v i;unfold b3n at hi
   by_cases hk:i / 8=g.length / 8
   ·rw[if_pos hk,tN,Nat.testBit_or];rw[hk,r,tN]at hi;rw[hi];have z:(b.toNat*2^(7-g.length%8)).testBit (7-i%8)=(decide (b=1)&&decide (i=g.length)):=by
     rcases hb with rfl|rfl
     all_goals grind
    grind
   grind
theorem d1e(h:a1x L):(∀j,0≤(wL L).1.getD j 0∧(wL L).1.getD j 0<256)∧∀i,b3n (wL L).1 i=decide (L.getD i 0=1):=c1V _ L rfl h
def rdr(P R:List Int):Rd:=((wL (P++R)).1,(P.length:Int),(0:Int),())
theorem c1t(k:a1x L)(n:L.length<1000000000)(hi:i<L.length)(t:Int×(Int×Unit)):
  a1z (((wL L).1,t),(i:Int))=some (L.getD i 0,(wL L).1,t):=by
 obtain⟨d,e⟩:=d1e k;obtain⟨-,m⟩:=a5Q L;have l:a26 (i:Int) 8=((i%8:Nat):Int):=by rfl
 have j:a54 (i:Int) 8=((i / 8:Nat):Int):=by rfl
 have b:wrap .i64 ((i / 8:Nat):Int)=((i / 8:Nat):Int):=a0C (by omega);have c:wrap .i64 (7-((i%8:Nat):Int))=7-((i%8:Nat):Int):=a0C (by omega);have g:decide (7-((i%8:Nat):Int)<0)=false:=by grind
 have hb:i / 8<(wL L).1.length:=by omega
 have f:(wL L).1[i / 8]=(wL L).1.getD (i / 8) 0:=by grind
 unfold a1z;simp only[l,j,b,c,g,a0D hb,oB,cF];obtain⟨x,a⟩:∃x:Nat,(wL L).1.getD (i / 8) 0=(x:Int):=a01 (d _).1;have h:x<256:=by grind
 rw[f,a,c8K h (a41 _ (by simp))]
 have:=e i
 unfold b3n at this;rw[a,tN]at this;rw[this];have hv:L.getD i 0=0∨L.getD i 0=1:=by
  have:L.getD i 0=L[i]:=by simp_all
  rw[this];exact k _ (a05 hi)
 grind
theorem c7v(hv:v<18446744073709551616)(hi:i≤64):a6T (v:Int) i=((v / 2^i%2:Nat):Int):=by
 unfold a6T;rw[a6D hi];have h:v / 2^i<18446744073709551616:=a38 (a32 _ _) hv;show wrap .u8 (wrap .u64 (((a04 64 ((v / 2^i:Nat):Int)) &&& (a04 64 1)).toNat:Int))=_
 grind[a04,a0N,a8c]
theorem a1x.app{A B:List Int}(h:a1x A)(g:a1x B):a1x (A++B):=fun b hb=>(mA.1 hb).elim (h b) (g b)
theorem orU(k:a<18446744073709551616)(hb:b<2)(f:a%2=0):bits .u64 .or (a:Int) (b:Int)=((a+b:Nat):Int):=by
 show wrap .u64 (((a04 64 (a:Int) ||| a04 64 (b:Int)).toNat:Nat):Int)=_;have g:(a04 64 (a:Int)).toNat=a:=by simp_all
 have h:(a04 64 (b:Int)).toNat=b:=by grind
 rw[a72,g,h];have e:a ||| b=a+b:=by
  have:=a59 (i:=1) (b:=b) (by omega) (a / 2)
  grind
 grind[a0N]
theorem c3N{v:Nat}(hv:v<9223372036854775808){n:Nat}(q:n≤62):∀(m:Nat)(P R:List Int),m≤n→a1x (P++(pb (v:Int) m++R))→(P++(pb (v:Int) m++R)).length<1000000000→
  y0s a4f (((v / 2^m:Nat):Int),(n:Int),((n-m:Nat):Int),rdr P (pb (v:Int) m++R),())=some ((v:Int),rdr (P++pb (v:Int) m) R,())
 |0,P,R,_,_,_=>by
  grind[a0E,a4f,pb]
 |m+1,P,R,hm,hok,hlen=>by
  have l:decide (((n-(m+1):Nat):Int)<(n:Int))=true:=by grind
  have a:a1z (rdr P (pb (v:Int) (m+1)++R),(P.length:Int))=some (a6T v m,rdr P (pb (v:Int) (m+1)++R)):=by
   have:=c1t hok hlen (i:=P.length) (by simp[pb]) ((P.length:Int),(0:Int),())
   rw[show(P++(pb (v:Int) (m+1)++R)).getD P.length 0=a6T v m from by simp_all[pb]]at this;exact this
  have g:=c7v (v:=v) (by omega) (i:=m) (by omega);have b:v / 2^m%2<2:=a41 _ (by simp);have f:v / 2^(m+1)=v / 2^m / 2:=by grind[a69]
  have p:v / 2^m≤v:=a32 _ _;have d:A0n .u64 ((v / 2^(m+1):Nat):Int) 1=((v / 2^(m+1)*2^1:Nat):Int):=b2r (o:=1) (by omega) (by omega);have h:bits .u64 .or ((v / 2^(m+1)*2^1:Nat):Int) (wrap .u64 (a6T (v:Int) m))=((v / 2^m:Nat):Int):=by
   rw[g,a0N (by omega),orU (by omega) b (by omega),f];omega
  have e:wrap .i64 (((n-(m+1):Nat):Int)+1)=((n-m:Nat):Int):=by grind[a0C]
  have j:wrap .i64 ((P.length:Int)+1)=(((P++[a6T v m]).length:Nat):Int):=by
   grind[a0C]
  have k:P++(pb (v:Int) (m+1)++R)=(P++[a6T v m])++(pb (v:Int) m++R):=by simp[pb]
  have c:((rdr P (pb (v:Int) (m+1)++R)).1,(((P++[a6T v m]).length:Nat):Int),(rdr P (pb (v:Int) (m+1)++R)).2.2)=rdr (P++[a6T v m]) (pb (v:Int) m++R):=by
   unfold rdr;simp_all
  rw[a0F (s':=(((v / 2^m:Nat):Int),(n:Int),((n-m:Nat):Int),rdr (P++[a6T v m]) (pb (v:Int) m++R),())) (by
   simp only[a4f,l,cT];rw[show(rdr P (pb (v:Int) (m+1)++R)).2.1=(P.length:Int)from rfl,a];simp only[oB,d,h,e];rw[show(rdr P (pb (v:Int) (m+1)++R)).2.1=(P.length:Int)from rfl,j,c])]
  rw[c3N hv q m _ _ (by omega) (by simp_all) (by simp_all)];simp[pb]
theorem c7w{n:Nat}(a:n≤62)(hv:v<2^n)(g:a1x (P++(pb (v:Int) n++R)))(k:(P++(pb (v:Int) n++R)).length<200000000):
  a0H (rdr P (pb (v:Int) n++R),(n:Int))=some ((v:Int),rdr (P++pb (v:Int) n) R):=by
 have h:v<9223372036854775808:=Nat.lt_of_lt_of_le hv (Nat.le_trans (a08 (by simp) a) (by simp));have f:=c3N h a n P R (by omega) g (by omega);rw[a67 hv,a56]at f;simp at f;obtain⟨-,e⟩:=a5Q (P++(pb (v:Int) n++R));have j:=b4u (v:Int) n;have i:(P++(pb (v:Int) n++R)).length=P.length+n+R.length:=by grind
 have e8:wrap .i64 ((8:Int)*(((wL (P++(pb (v:Int) n++R))).1.length:Nat):Int))=(8:Int)*(((wL (P++(pb (v:Int) n++R))).1.length:Nat):Int):=a0C (by omega);have d:wrap .i64 ((8:Int)*(((wL (P++(pb (v:Int) n++R))).1.length:Nat):Int)-(P.length:Int))=(8:Int)*(((wL (P++(pb (v:Int) n++R))).1.length:Nat):Int)-(P.length:Int):=a0C (by omega);have b:decide ((n:Int)<0)=false:=by simp
 have c:decide ((n:Int) > 64)=false:=by grind
 have l:decide ((n:Int) > (8:Int)*(((wL (P++(pb (v:Int) n++R))).1.length:Nat):Int)-(P.length:Int))=false:=by
  grind
 unfold a0H a2E;rw[show(rdr P (pb (v:Int) n++R)).2.2.1=0 from rfl];simp only[bne_self_eq_false,cF,b,c,oB];rw[show(rdr P (pb (v:Int) n++R)).1=(wL (P++(pb (v:Int) n++R))).1 from rfl,show(rdr P (pb (v:Int) n++R)).2.1=(P.length:Int)from rfl,e8,d]
 grind
def b5f(n:Nat)(x:Int):Prop:=-((2^n:Nat):Int)≤2*x∧2*x<((2^n:Nat):Int)
theorem c1W{n:Nat}(f:n≤62)(x:Int):∃v:Nat,a0Z x n=(v:Int)∧v<2^n∧(v:Int)=x%((2^n:Nat):Int):=by
 have k:wrap .u64 x=x%18446744073709551616:=by rfl
 obtain⟨y,h⟩:∃y:Nat,x%18446744073709551616=(y:Int):=a01 (Int.emod_nonneg _ (by simp));have g:y<18446744073709551616:=by omega
 refine⟨y%2^n,?_,a41 _ (a16 n),?_⟩;simp_all[a0Z,c3p];rw[Int.natCast_emod,←h];refine Int.emod_emod_of_dvd x ?_
 have:(2:Nat)^n ∣ 2^64:=a55 2 (by omega)
 exact a20.2 this
theorem c7x{n:Nat}(q:n≤62)(t:b5f n x)(c:a1x (P++(pb (a0Z x n) n++R)))(g:(P++(pb (a0Z x n) n++R)).length<200000000):
  a1d (rdr P (pb (a0Z x n) n++R),(n:Int))=some (x,rdr (P++pb (a0Z x n) n) R):=by
 obtain⟨v,hv,b,f⟩:=c1W q x;rw[hv]at c g⊢;have a:=c7w q b c g;obtain⟨i,j⟩:=t;have A:=a16 n;have o:(v:Int)=x∧0≤x∨(v:Int)=x+((2^n:Nat):Int)∧x<0:=by
  by_cases h0:0≤x
  exact .inl ⟨by rw[f];exact a89 h0 (by omega),h0⟩;refine .inr ⟨?_,by omega⟩;rw[f,←Int.add_emod_right];exact a89 (by omega) (by omega)
 unfold a1d;simp[a];rw[show(rdr (P++pb (v:Int) n) R).2.2.1=0 from rfl]
 simp
 cases n with
 |zero=>
  grind
 |succ k=>
  have l:(((k+1:Nat):Int)==0)=false:=by rfl
  have s:wrap .i64 ((64:Int)-((k+1:Nat):Int))=((64-(k+1):Nat):Int):=by grind[a0C]
  have r:decide (((64-(k+1):Nat):Int)<0)=false:=by simp
  simp only[l,cF,s,r];have p:64-(k+1)+(k+1)=64:=by omega
  generalize 64-(k+1)=m at p⊢;have u:2^m*2^(k+1)=18446744073709551616:=by rw[←Nat.pow_add,p]
  have d:((2^m:Nat):Int)*((2^(k+1):Nat):Int)=18446744073709551616:=by omega
  have hp:=a16 m;have w:A0n .u64 (v:Int) (m:Int)=(v:Int)*((2^m:Nat):Int):=by
   show wrap .u64 ((v:Int)*2^(min (m:Int).toNat 64))=_;rw[tN,a71 (by omega)];have e:(2:Int)^m=((2^m:Nat):Int):=by simp
   rw[e];refine a0N ⟨a47 (by omega) (by omega),?_⟩
   have:v*2^m<2^(k+1)*2^m:=Nat.mul_lt_mul_of_pos_right b hp
   grind
  have y:-9223372036854775808≤x*((2^m:Nat):Int):=by
   have:=Int.mul_le_mul_of_nonneg_right i (show(0:Int)≤((2^m:Nat):Int)by omega)
   grind
  have z:x*((2^m:Nat):Int)<9223372036854775808:=by
   have:=Int.mul_lt_mul_of_pos_right j (show(0:Int)<((2^m:Nat):Int)by omega)
   grind
  have C:wrap .i64 ((v:Int)*((2^m:Nat):Int))=x*((2^m:Nat):Int):=by
   rcases o with⟨h,-⟩|⟨h,-⟩
   grind[a0C]
   rw[h,Int.add_mul,Int.mul_comm ((2^(k+1):Nat):Int),d]
   grind[wrap,IntKind.bits,IntKind.signed]
  have B:A0o .i64 (x*((2^m:Nat):Int)) (m:Int)=x:=by
   show a80 (x*((2^m:Nat):Int)) (2^(min (m:Int).toNat 64))=x;rw[tN,a71 (by omega)]
   grind[Int.mul_ediv_cancel]
  simp_all
theorem c6A(P:List Int)(n:Nat)(R:List Int){c:Nat}(h:c<n):(P++(a00 n 0++1::R)).getD (P.length+c) 0=0:=by
 grind
theorem c8L(P:List Int)(n:Nat)(R:List Int):(P++(a00 n 0++1::R)).getD (P.length+n) 0=1:=by
 simp
theorem c7y{n lm:Nat}(x:n≤lm)(t:lm<1000000)(o:a1x (P++(a00 n 0++1::R)))(p:(P++(a00 n 0++1::R)).length<200000000):
  a3d (rdr P (a00 n 0++1::R),(lm:Int))=some ((n:Int),rdr (P++(a00 n 0++[1])) R):=by
 obtain⟨-,r⟩:=a5Q (P++(a00 n 0++1::R));have s:(P++(a00 n 0++1::R)).length=P.length+n+1+R.length:=by grind
 have e8:wrap .i64 ((8:Int)*(((wL (P++(a00 n 0++1::R))).1.length:Nat):Int))=(8:Int)*(((wL (P++(a00 n 0++1::R))).1.length:Nat):Int):=a0C (by omega);have g:∀c,c≤n→a1z (rdr P (a00 n 0++1::R),((P.length:Int)+(c:Int)))=some (if c=n then 1 else 0,rdr P (a00 n 0++1::R)):=fun c l=>by
  have:=c1t o (by omega) (i:=P.length+c) (by omega) ((P.length:Int),(0:Int),())
  rw[b02]at this;refine this.trans ?_
  by_cases e:c=n
  subst e;rw[c8L,if_pos rfl];rfl;rw[c6A P n R (by omega),if_neg e];rfl
 have h:∀c:Nat,c≤n→(((P.length:Int)+(c:Int))==(8:Int)*(((wL (P++(a00 n 0++1::R))).1.length:Nat):Int))=false:=fun c l=>by
  grind
 have j:wrap .i64 ((P.length:Int)+(n:Int)+1)=(((P++(a00 n 0++[1])).length:Nat):Int):=by
  rw[a0C (by omega)];grind
 have a:P++(a00 n 0++1::R)=(P++(a00 n 0++[1]))++R:=by simp
 have v:((rdr P (a00 n 0++1::R)).1,(((P++(a00 n 0++[1])).length:Nat):Int),(rdr P (a00 n 0++1::R)).2.2)=rdr (P++(a00 n 0++[1])) R:=by
  unfold rdr;simp
 have k:(rdr P (a00 n 0++1::R)).1=(wL (P++(a00 n 0++1::R))).1:=rfl;have m:=a1C (f:=a3p) (fun c:Nat=>((lm:Int),(c:Int),(P.length:Int)+(c:Int),rdr P (a00 n 0++1::R),())) n (b:=((n:Int),rdr (P++(a00 n 0++[1])) R,()))
  (fun c l=>by
   have d:((0:Int)==1)=false:=rfl;have q:(((c:Nat):Int)==(lm:Int))=false:=by grind
   have w:wrap .i64 ((c:Int)+1)=((c+1:Nat):Int):=a0B (by omega);have w2:wrap .i64 ((P.length:Int)+(c:Int)+1)=(P.length:Int)+((c+1:Nat):Int):=by rw[a0C (by omega)];rfl
   simp only[a3p,k,e8,h c (by omega),cF,g c (by omega),oB,if_neg (Nat.ne_of_lt l),d,q,w,w2])
  (by
   have d:((1:Int)==1)=true:=rfl;simp only[a3p,k,e8,h n (a27 _),cF,g n (a27 _),oB,if_pos rfl,d,cT,j]
   grind)
 unfold a3d;rw[show(rdr P (a00 n 0++1::R)).2.2.1=0 from rfl,show(rdr P (a00 n 0++1::R)).2.1=(P.length:Int)from rfl];have u:v0r (lm:Int) 0=(lm:Int):=by
  rfl
 grind
def OkR(P R:List Int):Prop:=a1x (P++R)∧(P++R).length<200000000
theorem OkR.shift{A:List Int}(h:OkR P (A++R)):OkR (P++A) R:=by
 unfold OkR at h⊢;simp_all
theorem a3z{n:Nat}(g:n≤62)(hv:v<2^n)(h:OkR P (pb (v:Int) n++R)):a0H (rdr P (pb (v:Int) n++R),(n:Int))=some ((v:Int),rdr (P++pb (v:Int) n) R):=c7w g hv h.1 h.2
theorem a9P{n:Nat}(f:n≤62)(g:b5f n x)(h:OkR P (pb (a0Z x n) n++R)):a1d (rdr P (pb (a0Z x n) n++R),(n:Int))=some (x,rdr (P++pb (a0Z x n) n) R):=c7x f g h.1 h.2
def unB(n:Nat):List Int:=a00 n 0++[1]
theorem c3O{n lm:Nat}(f:n≤lm)(g:lm<1000000)(h:OkR P (unB n++R)):a3d (rdr P (unB n++R),(lm:Int))=some ((n:Int),rdr (P++unB n) R):=by
 have e:unB n++R=a00 n 0++1::R:=by simp[unB]
 rw[e]at h⊢;exact c7y f g h.1 h.2
theorem a4P{v n:Nat}(h:n≤63)(hv:v<2^n)(L:List Int):a0Q (v:Int) n L=L++pb (v:Int) n:=by
 grind[a0Q,a6D,a67]
def a9C(k:Nat)(x:Int):List Int:=
 if a0U x / 2^k<32 then unB (a0U x / 2^k)++pb ((a0U x%2^k:Nat):Int) k else unB 32++pb ((a0U x:Nat):Int) 32
theorem c7z{k:Nat}(f:k≤25)(g:a0A x=true)(L:List Int):a6U k x L=L++a9C k x:=by
 have h:=a9J g;unfold a6U a9C;split;rw[a4P (by omega) (a41 _ (a16 k))];simp[unL,unB]
 grind[a4P,unL,unB]
theorem c7A(f:a0A x=true):a7m ((a0U x:Nat):Int)=some x:=by
 have b:=a9J f;have d:=a1H.1 f;have c:a26 ((a0U x:Nat):Int) 2=((a0U x:Nat):Int)%2:=a43 (by omega);have a:a54 ((a0U x:Nat):Int) 2=((a0U x:Nat):Int) / 2:=a61 (by omega);have k:decide (((a0U x:Nat):Int)≥2147483648)=false:=by grind
 unfold a7m;simp only[k,cF,c,a]
 by_cases h0:0≤x
 have e:((a0U x:Nat):Int)=2*x:=by unfold a0U;grind
 rw[e];have h:((2*x)%2==(0:Int))=true:=by simp
 have g:2*x / 2=x:=by omega
 simp only[h,cT,g]
 grind[a0N,a0C]
 have e:((a0U x:Nat):Int)=-2*x-1:=by unfold a0U;grind
 rw[e];have h:((-2*x-1)%2==(0:Int))=false:=by grind
 have g:(-2*x-1) / 2=-x-1:=by omega
 simp only[h,cF,g]
 grind[a0N,a0C]
theorem c4R{k:Nat}(r:k≤25)(c:a0A x=true)(h:OkR P (a9C k x++R)):b2X (rdr P (a9C k x++R),(k:Int))=some (x,(0:Int),rdr (P++a9C k x) R):=by
 have m:=a9J c;have b:=c7A c;unfold b2X a0P;unfold a9C at h⊢;have s:∀A B:List Int,(rdr A B).2.2.1=0:=fun _ _=>rfl;split;rename_i g;rw[if_pos g,aA]at h;have j:=c3O (n:=a0U x / 2^k) (lm:=32) (by omega) (by omega) h;have l:=a3z (n:=k) (v:=a0U x%2^k) (by omega) (a41 _ (a16 k)) h.shift;have i:wrap .u64 ((a0U x / 2^k:Nat):Int)=((a0U x / 2^k:Nat):Int):=a3y (by omega);have d:decide (((a0U x / 2^k:Nat):Int)<32)=true:=by grind
 have e:decide ((k:Int)<0)=false:=by simp
 have f:a0U x / 2^k*2^k≤a0U x:=a78 _ _;have o:A0n .u64 ((a0U x / 2^k:Nat):Int) (k:Int)=((a0U x / 2^k*2^k:Nat):Int):=b2r (by omega) (by omega);have a:wrap .u64 (((a0U x / 2^k*2^k:Nat):Int)+((a0U x%2^k:Nat):Int))=((a0U x:Nat):Int):=by
  rw[←b02,Nat.div_add_mod',a0N (by omega)]
 grind
 rename_i g;rw[if_neg g,aA]at h;have j:=c3O (n:=32) (lm:=32) (by omega) (by omega) h;have l:=a3z (n:=32) (v:=a0U x) (by omega) (by omega) h.shift;have i:wrap .u64 (32:Int)=32:=a0N (by omega);have d:decide ((32:Int)<32)=false:=by simp
 have e:decide ((k:Int)<0)=false:=by simp
 have q:decide (((a0U x:Nat):Int)≥2147483648)=false:=by grind
 have p:A0o .u64 ((a0U x:Nat):Int) (k:Int)=((a0U x / 2^k:Nat):Int):=a6D (by omega)
 grind
def a3A(k:Nat)(l:List Int):List Int:=l.flatMap (a9C k)
theorem c0A{k:Nat}(g:k≤25):∀(l L:List Int),l.all a0A=true→a4N k l L=L++a3A k l
 | [],L,_=>by simp[a4N,a3A]
 |x::l,L,h=>by
  simp only[a07,bA]at h;show a4N k l (a6U k x L)=_;rw[c0A g l _ h.2,c7z g h.1];simp[a3A]
theorem b6N{k:Nat}(g:k≤25){N:Nat}(f:N<1000000):∀(l done P R:List Int),l.all a0A=true→done.length+l.length=N→OkR P (a3A k l++R)→
  y0s a9x ((k:Int),(N:Int),(done.length:Int),done,rdr P (a3A k l++R),())=some (Sum.inl (done++l,rdr (P++a3A k l) R,()))
 | [],done,P,R,_,hl,_=>by
  have:done.length=N:=by omega
  subst this;have d:decide ((done.length:Int)<(done.length:Int))=false:=by simp
  simp_all[a0E,a9x,a3A]
 |x::l,done,P,R,h,hl,hok=>by
  simp only[a07,bA]at h;rw[lC]at hl;have e:a3A k (x::l)++R=a9C k x++(a3A k l++R):=by simp[a3A]
  rw[e]at hok⊢;have d:decide ((done.length:Int)<(N:Int))=true:=by grind
  have b:=c4R g h.1 hok;have a:lim (a37 done+1)=true:=a0W (by omega);have c:wrap .i64 ((done.length:Int)+1)=(((done++[x]).length:Nat):Int):=by grind[a0C]
  rw[a0F (s':=((k:Int),(N:Int),(((done++[x]).length:Nat):Int),done++[x],rdr (P++a9C k x) (a3A k l++R),())) (by
   simp_all[a9x])]
  rw[b6N g f l (done++[x]) (P++a9C k x) R h.2 (by grind) hok.shift];simp[a3A]
theorem c4S{k:Nat}(a:k≤25)(h:l.all a0A=true)(b:l.length<1000000)(f:OkR P (a3A k l++R)):
  b2Y (rdr P (a3A k l++R),(k:Int),((l.length:Nat):Int))=some (l,(0:Int),rdr (P++a3A k l) R):=by
 have hp:a1Q (k:Int)=some true:=by
  grind[a1Q]
 have c:decide (((l.length:Nat):Int)<0)=false:=by simp
 have d:decide (((l.length:Nat):Int) > 4194304)=false:=by grind
 have e:∀A B:List Int,(rdr A B).2.2.1=0:=fun _ _=>rfl;have g:=b6N a b l [] P R h (by simp) f;simp at g;unfold b2Y a0P
 grind
theorem c8M(h:inW x v=true):b5f v x:=by
 have hp:=a16 v;rcases b7J.1 h with rfl|⟨g,-,f,k⟩;exact⟨by omega,by omega⟩;have e:2^v=2^(v-1)*2:=by rw[←a68];simp_all
 unfold b5f;omega
theorem b6i(h:l.all a0A=true):∀x∈l,b5f (a0I l) x:=fun x g=>c8M (c3L h x g)
def sB(n:Nat)(l:List Int):List Int:=l.flatMap fun x=>pb (a0Z x n) n
theorem a9Q{n:Nat}(g:n≤62):∀(l L:List Int),a1D n l L=L++sB n l
 | [],L=>by simp[a1D,sB]
 |x::l,L=>by
  show a1D n l (a0Q (a0Z x n) n L)=_;obtain⟨v,hv,h,-⟩:=c1W g x;rw[a9Q g l,hv,a4P (by omega) h,←hv];simp[sB]
theorem c1u(n:Nat)(x:Int)(l R:List Int):sB n (x::l)++R=pb (a0Z x n) n++(sB n l++R):=by simp[sB]
theorem b5E{k:Int}{n:Nat}(g:n≤62){N:Nat}(f:N<1000000):∀(l done P R:List Int),(∀x∈l,b5f n x)→done.length+l.length=N→OkR P (sB n l++R)→
  y0s a8I (k,(n:Int),(N:Int),(done.length:Int),done,rdr P (sB n l++R),())=some (k,(n:Int),done++l,rdr (P++sB n l) R,())
 | [],done,P,R,_,hl,_=>by
  have:done.length=N:=by omega
  subst this;have d:decide ((done.length:Int)<(done.length:Int))=false:=by simp
  simp_all[a0E,a8I,sB]
 |x::l,done,P,R,h,hl,hok=>by
  rw[lC]at hl;rw[c1u]at hok⊢;have d:decide ((done.length:Int)<(N:Int))=true:=by grind
  have b:=a9P g (h x (by simp)) hok;have a:lim (a37 done+1)=true:=a0W (by omega);have c:wrap .i64 ((done.length:Int)+1)=(((done++[x]).length:Nat):Int):=by grind[a0C]
  rw[a0F (s':=(k,(n:Int),(N:Int),(((done++[x]).length:Nat):Int),done++[x],rdr (P++pb (a0Z x n) n) (sB n l++R),())) (by
   simp_all[a8I])]
  rw[b5E g f l (done++[x]) _ R (fun y e=>h y (by grind)) (by grind) hok.shift];simp[sB]
def b0X(k:Int)(part:List Int):List Int:=if k=31 then pb 31 5++(pb ((a0I part:Nat):Int) 5++sB (a0I part) part)else pb k 5++a3A k.toNat part
theorem c7B(h:kB k=true)(g:part.all a0A=true)(L:List Int):a9A k part L=L++b0X k part:=by
 have f:=a1W g;simp[kB]at h;obtain⟨K,rfl⟩:=a01 (show 0≤k by omega)
 grind[a9A,b0X,a3y,a4P,a9Q,c0A]
theorem c3P(o:kB k=true)(c:part.all a0A=true)(b:part.length<1000000)(h:OkR P (b0X k part++R)):
  b1X (rdr P (b0X k part++R),((part.length:Nat):Int))=some (k,part,(0:Int),rdr (P++b0X k part) R):=by
 have p:=a1W c;have e:∀A B:List Int,(rdr A B).2.2.1=0:=fun _ _=>rfl;simp[kB]at o;obtain⟨K,rfl⟩:=a01 (show 0≤k by omega);unfold b1X a0P;unfold b0X at h⊢;split;rename_i f;rw[if_pos f,aA,aA]at h;rw[aA,aA];obtain rfl:K=31:=by omega
 have d:a0H (rdr P (pb 31 5++(pb ((a0I part:Nat):Int) 5++(sB (a0I part) part++R))),(5:Int))=_:=a3z (v:=31) (n:=5) (by omega) (by omega) h;have g:=h.shift;have l:a0H (rdr (P++pb 31 5) (pb ((a0I part:Nat):Int) 5++(sB (a0I part) part++R)),(5:Int))=_:=a3z (v:=a0I part) (n:=5) (by omega) (by omega) g;have a:=b5E (k:=31) (n:=a0I part) (by omega) b part [] _ R (b6i c) (by simp) g.shift;simp only[a22,nZ,a09,a30]at a;have i:wrap .i64 ((31:Nat):Int)=31:=by rfl
 have w2:wrap .i64 ((a0I part:Nat):Int)=((a0I part:Nat):Int):=a0C (by omega);have j:decide ((31:Int)≤25)=false:=by rfl
 have q:((31:Int) != 31)=false:=by rfl
 rw[d];simp only[oB,e,bne_self_eq_false,cF,i,j]
 erw[l]
 simp only[oB,w2]
 erw[a]
 simp only[oB,e,bne_self_eq_false,cF,a2p (show short part from b)]
 simp
 rename_i f;rw[if_neg f,aA]at h;rw[aA];have m:K≤25:=by omega
 have d:a0H (rdr P (pb (K:Int) 5++(a3A ((K:Int).toNat) part++R)),(5:Int))=_:=a3z (v:=K) (n:=5) (by omega) (by omega) h;have r:=c4S m c b h.shift;have i:wrap .i64 (K:Int)=(K:Int):=a0C (by omega);simp_all
def a1O:List Nat→List Int→List Int→List Int
 |z::zs,k::ks,l=>b0X k (l.take z)++a1O zs ks (l.drop z)
 |_,_,_=>[]
theorem c1X(h:l.all a0A=true)(z:Nat):(l.take z).all a0A=true:=lA.2 fun x g=>lA.1 h x (a34 g)
theorem c1Y(h:l.all a0A=true)(z:Nat):(l.drop z).all a0A=true:=lA.2 fun x g=>lA.1 h x (a35 g)
theorem c0B:∀(zs:List Nat)(ks l L:List Int),ks.all kB=true→l.all a0A=true→a4O zs ks l L=L++a1O zs ks l
 |z::zs,k::ks,l,L,hk,hw=>by
  simp only[a07,bA]at hk;simp only[a4O,a1O];rw[c0B zs ks _ _ hk.2 (c1Y hw z),c7B hk.1 (c1X hw z)]
  simp
 | [],_,_,L,_,_=>by simp[a4O,a1O]
 |_::_,[],_,L,_,_=>by simp[a4O,a1O]
theorem c7C(h:List Nat)(z:Nat)(g:List Nat):(a1p (h++z::g)).getD h.length 0=(z:Int):=by
 simp_all[a1p]
theorem b5F{o:Int}{z0:Prt}:∀(zs:List Nat)(ks l dk acc P R:List Int)(dz:List Nat),ks.length=zs.length→ks.all kB=true→zs.sum=l.length→l.all a0A=true→
  dk.length=dz.length→(dz++zs).length≤256→acc.length+l.length≤10000→OkR P (a1O zs ks l++R)→
  y0s a8J (((a1p (dz++zs)).length:Int),(dz.length:Int),acc,a1p (dz++zs),rdr P (a1O zs ks l++R),z0,(o,dk,()),()) =
   some (Sum.inl (acc++l,z0,(o,dk++ks,()),rdr (P++a1O zs ks l) R,()))
 | [],ks,l,dk,acc,P,R,dz,hk,_,hs,_,_,_,_,_=>by
  obtain rfl:ks=[]:=a45.1 hk;obtain rfl:l=[]:=a45.1 (by simp_all);have d:decide ((dz.length:Int)<((a1p (dz++[])).length:Int))=false:=by simp[a1w]
  rw[a0E (b:=Sum.inl (acc,z0,(o,dk,()),rdr P R,())) (by simp only[a8J,d,cF];rfl)];simp[a1O]
 |z::zs,[],_,_,_,_,_,_,hk,_,_,_,_,_,_,_=>by simp_all
 |z::zs,k::ks,l,dk,acc,P,R,dz,hk,hkb,hs,hw,hd,h256,hacc,hok=>by
  simp only[a07,bA]at hkb;rw[a62]at hs;have p:z≤l.length:=by omega
  have a:(l.take z).length=z:=by simp_all
  have e:a1O (z::zs) (k::ks) l++R=b0X k (l.take z)++(a1O zs ks (l.drop z)++R):=by simp[a1O]
  rw[e]at hok⊢;have j:(a1p (dz++z::zs)).length=dz.length+1+zs.length:=by grind[a1w]
  have d:decide ((dz.length:Int)<((a1p (dz++z::zs)).length:Int))=true:=by grind
  have m:decide ((0:Int)≤(dz.length:Int))=true:=by simp
  have h:=c3P hkb.1 (c1X hw z) (by omega) hok;rw[a]at h;have i:((0:Int) != 0)=false:=rfl;rw[lN,lC]at h256;have g:lim (a37 dk+1)=true:=a0W (by omega);have f:lim (a37 acc+a37 (l.take z))=true:=a0W (by omega);have c:wrap .i64 ((dz.length:Int)+1)=(((dz++[z]).length:Nat):Int):=by grind[a0C]
  have n:dz++z::zs=(dz++[z])++zs:=by simp
  rw[a0F (s':=(((a1p ((dz++[z])++zs)).length:Int),(((dz++[z]).length:Nat):Int),acc++l.take z,a1p ((dz++[z])++zs),rdr (P++b0X k (l.take z)) (a1O zs ks (l.drop z)++R),z0,(o,dk++[k],()),())) (by
   simp only[a8J,d,m,a03,cT,tN,c7C,h,oB,i,cF,g,f,c,a06]
   simp)]
  rw[b5F zs ks (l.drop z) (dk++[k]) (acc++l.take z) _ R (dz++[z]) (by grind) hkb.2 (by grind) (c1Y hw z) (by grind) (by grind) (by grind) hok.shift];simp[a1O]
def a6E(p:Prt)(zn:List Nat)(l:List Int):List Int:=pb p.1 4++a1O zn p.2.1 l
theorem c2J(h:PartsOk p n warm l zn)(L:List Int):a4n p zn l L=L++a6E p zn l:=by
 obtain⟨o,ks,u⟩:=p;have g:=h.order;simp only at g;obtain⟨O,rfl⟩:=a01 g.1;unfold a4n a6E;simp only;rw[a3y (by omega),a4P (n:=4) (by omega) (by omega),c0B _ _ _ _ h.all h.wide]
 simp
theorem c3Q(h:PartsOk p n warm l zn)(g:OkR P (a6E p zn l++R)):
  b1Y (rdr P (a6E p zn l++R),n,warm)=some (p,l,(0:Int),rdr (P++a6E p zn l) R):=by
 obtain⟨o,ks,u⟩:=p;have c:=h.order;have m:=h.short;have b:=h.len;simp only at c;obtain⟨O,rfl⟩:=a01 c.1;have i:∀A B:List Int,(rdr A B).2.2.1=0:=fun _ _=>rfl;have f:=h.may;unfold a5H at f;simp only[bA,a33,beq_eq_false_iff_ne]at f;have d:=h.sizes;simp only at d;have a:(((a1p zn).length:Int)==0)=false:=by
  grind
 unfold a6E at g⊢;simp only at g⊢;rw[aA]at g⊢;have e:a0H (rdr P (pb (O:Int) 4++(a1O zn ks l++R)),(4:Int))=_:=a3z (v:=O) (n:=4) (by omega) (by omega) g;have j:wrap .i64 (O:Int)=(O:Int):=a0C (by omega);have k:=b5F (o:=(O:Int)) (z0:=((0:Int),([]:List Int),())) zn ks l [] [] _ R [] h.ks h.all h.sum h.wide rfl (by simp_all) (by grind) g.shift;simp only[a22,nZ,a09,a30]at k;unfold b1Y a0P;simp[b3P,h.row];rw[e];simp[i,j,a2b,d,a];simp_all
def a7p(s:Sub):List Int:=
 pb ((s.2.2.2.2.2.1.length-1:Nat):Int) 5++(pb s.2.2.2.1 4++(pb ((a0I s.2.2.2.2.2.1:Nat):Int) 5++sB (a0I s.2.2.2.2.2.1) s.2.2.2.2.2.1))
theorem c1Z{t:Int}(h:a9I c t=true):1≤c.length∧c.length≤32∧0≤t∧t≤15∧c.all a0A=true:=by
 simp only[a9I,bA,dT]at h;obtain⟨g,f,k,a,b⟩:=h;refine⟨g,f,k,a,lA.2 fun x d=>?_⟩
 have:=lA.1 b x d
 simp[b9A]at this;rw[a1H];omega
theorem c0C{s:Sub}(h:a9I s.2.2.2.2.2.1 s.2.2.2.1=true)(L:List Int):a6y s L=L++a7p s:=by
 obtain⟨a,b,g,d,f⟩:=c1Z h;have k:=a1W f;unfold a6y a7p;generalize s.2.2.2.2.2.1=c at *;generalize s.2.2.2.1=t at *;obtain⟨T,rfl⟩:=a01 g
 grind[a0C,a0N,a9Q,a4P]
def b6j(s:Sub)(c:List Int):Sub:=(s.1,s.2.1,s.2.2.1,s.2.2.2.1,s.2.2.2.2.1,c,s.2.2.2.2.2.2)
def c1v(s:Sub)(t:Int):Sub:=(s.1,s.2.1,s.2.2.1,t,s.2.2.2.2)
theorem c0D{n:Nat}(g:n≤62){N:Nat}(f:N<1000000)(s:Sub):∀(l done P R:List Int),(∀x∈l,b5f n x)→done.length+l.length=N→OkR P (sB n l++R)→
  y0s a6c ((n:Int),(N:Int),(done.length:Int),rdr P (sB n l++R),b6j s done,())=some ((n:Int),b6j s (done++l),rdr (P++sB n l) R,())
 | [],done,P,R,_,hl,_=>by
  have:done.length=N:=by omega
  subst this;have d:decide ((done.length:Int)<(done.length:Int))=false:=by simp
  simp_all[a0E,a6c,sB]
 |x::l,done,P,R,h,hl,hok=>by
  rw[lC]at hl;rw[c1u]at hok⊢;have d:decide ((done.length:Int)<(N:Int))=true:=by grind
  have a:=a9P g (h x (by simp)) hok;have k:lim (a37 done+1)=true:=a0W (by omega);have b:wrap .i64 ((done.length:Int)+1)=(((done++[x]).length:Nat):Int):=by grind[a0C]
  rw[a0F (s':=((n:Int),(N:Int),(((done++[x]).length:Nat):Int),rdr (P++pb (a0Z x n) n) (sB n l++R),b6j s (done++[x]),())) (by
   simp_all[a6c,b6j])]
  rw[c0D g f s l (done++[x]) _ R (fun y c=>h y (by grind)) (by grind) hok.shift];simp[sB]
theorem b8s{s0:Sub}(h:a9I s.2.2.2.2.2.1 s.2.2.2.1=true)(r:s0.2.2.2.2.2.1=[])(g:OkR P (a7p s++R)):
  a8H (rdr P (a7p s++R),s0)=some (true,rdr (P++a7p s) R,b6j (c1v s0 s.2.2.2.1) s.2.2.2.2.2.1):=by
 obtain⟨u,w,l,x,d⟩:=c1Z h;have m:=a1W d;unfold a7p at g⊢;generalize s.2.2.2.2.2.1=c at *;generalize s.2.2.2.1=t at *;obtain⟨T,rfl⟩:=a01 l;simp at g⊢;have e:a0H (rdr P (pb ((c.length-1:Nat):Int) 5++(pb (T:Int) 4++(pb ((a0I c:Nat):Int) 5++(sB (a0I c) c++R)))),(5:Int))=_:=a3z (v:=c.length-1) (n:=5) (by omega) (by omega) g;have f:=g.shift;have i:a0H (rdr (P++pb ((c.length-1:Nat):Int) 5) (pb (T:Int) 4++(pb ((a0I c:Nat):Int) 5++(sB (a0I c) c++R))),(4:Int))=_:=a3z (v:=T) (n:=4) (by omega) (by omega) f;have k:=f.shift;have j:a0H (rdr (P++pb ((c.length-1:Nat):Int) 5++pb (T:Int) 4) (pb ((a0I c:Nat):Int) 5++(sB (a0I c) c++R)),(5:Int))=_:=a3z (v:=a0I c) (n:=5) (by omega) (by omega) k;have a:=c0D (n:=a0I c) (by omega) (N:=c.length) (by omega) (c1v s0 (T:Int)) c [] _ R (b6i d) (by simp) k.shift;simp only[a22,nZ,a09,a30]at a;have o:wrap .i64 ((c.length-1:Nat):Int)=((c.length-1:Nat):Int):=a0C (by omega);have w2:wrap .i64 (((c.length-1:Nat):Int)+1)=(c.length:Int):=by grind[a0C]
 have p:wrap .i64 (T:Int)=(T:Int):=a0C (by omega);have q:wrap .i64 ((a0I c:Nat):Int)=((a0I c:Nat):Int):=a0C (by omega);have b:((s0.1,s0.2.1,s0.2.2.1,(T:Int),s0.2.2.2.2):Sub)=b6j (c1v s0 (T:Int)) []:=by
  grind[b6j,c1v]
 unfold a8H;rw[e]
 simp
 rw[i];simp only[oB];rw[j];simp only[oB,o,w2,p,q]
 erw[b,a]
 simp only[oB];rw[show(b6j (c1v s0 (T:Int)) c).2.2.2.2.2.1=c from rfl,a2p (show short c by unfold short;omega)]
 simp
def a8j(st:List Stg):List Int:=st.flatMap fun g=>pb (g.1-1) 5++pb g.2.1 4
theorem b8t{g:Stg}(h:Ab.stageB g=true):1≤g.1∧g.1≤32∧0≤g.2.1∧g.2.1≤8:=by
 simp_all[Ab.stageB]
theorem b8u:∀(st:List Stg)(L:List Int),st.all Ab.stageB=true→a3g st L=L++a8j st
 | [],L,_=>by simp[a3g,a8j]
 |g::st,L,h=>by
  simp only[a07,bA]at h;obtain⟨k,c,f,d⟩:=b8t h.1;show a3g st (a6x g L)=_;rw[b8u st _ h.2];obtain⟨a,b,u⟩:=g;simp only at k c f d;obtain⟨B,rfl⟩:=a01 f;obtain⟨A,e⟩:=a01 (show 0≤a-1 by omega)
  grind[a6x,b3U,a3y,a4P,a8j]
def a5d(s:Sub):List Int:=
 if s.1=2 then pb s.2.2.1 3
 else if s.1=3 then a7p s
 else if s.1=4 then pb (s.2.2.2.2.1-1) 10++(sB 8 s.2.2.2.2.2.2.1++a7p s)
 else if s.1=5 then pb ((s.2.2.2.2.2.2.2.1.length:Nat):Int) 2++a8j s.2.2.2.2.2.2.2.1
 else[]
theorem c2a(h:a3V s.1 s n)(L:List Int):a2x s L=L++a5d s:=by
 unfold a2x a5d;rcases h with k|k|⟨k,g,f,-⟩|⟨k,g,-⟩|⟨k,g,-,a⟩|⟨k,g,f⟩
 grind
 grind
 rw[if_pos k,if_pos k]
 grind[a01,a3y,a4P]
 simp_all[c0C];rw[if_neg (by omega),if_neg (by omega),if_pos k,if_neg (by omega),if_neg (by omega),if_pos k,c0C g,a9Q (by omega)];simp only[b2b,bA,dT]at a;obtain⟨A,b⟩:=a01 (show 0≤s.2.2.2.2.1-1 by omega)
 grind[b3U,a3y,a4P]
 rw[if_neg (by omega),if_neg (by omega),if_neg (by omega),if_pos k,if_neg (by omega),if_neg (by omega),if_neg (by omega),if_pos k];simp only[a9l,bA,dT]at f
 grind[b8u,a3y,a4P]
def b4B(s:Sub):List Int:=pb s.1 3++(pb s.2.1 5++pb ((a0I s.2.2.2.2.2.2.2.2.1:Nat):Int) 5)
theorem c7D(g:0≤s.1∧s.1≤5)(f:0≤s.2.1∧s.2.1≤30)(h:s.2.2.2.2.2.2.2.2.1.all a0A=true)(L:List Int):b2d s L=L++b4B s:=by
 grind[a01,a1W,b2d,b4B,a3y,a4P]
def a3W(s:Sub):Sub:=(s.1,s.2.1,s.2.2.1,s.2.2.2.1,s.2.2.2.2.1,s.2.2.2.2.2.1,s.2.2.2.2.2.2.1,s.2.2.2.2.2.2.2.1,[],(0,[],()),[],())
theorem b8v{wd N:Nat}{ok:Bool}(m:N<1000)(k w:Int):∀(st done:List Stg)(P R:List Int),st.all Ab.stageB=true→done.length+st.length=N→OkR P (a8j st++R)→
  y0s a6S ((wd:Int),ok,(N:Int),(done.length:Int),rdr P (a8j st++R),(k,w,0,0,0,[],[0,0,0],done,[],(0,[],()),[],()),()) =
   some ((wd:Int),ok,(k,w,0,0,0,[],[0,0,0],done++st,[],(0,[],()),[],()),rdr (P++a8j st) R,())
 | [],done,P,R,_,hl,_=>by
  have:done.length=N:=by omega
  subst this;have d:decide ((done.length:Int)<(done.length:Int))=false:=by simp
  simp_all[a0E,a6S,a8j]
 |g::st,done,P,R,h,hl,hok=>by
  simp only[a07,bA]at h;rw[lC]at hl;obtain⟨i,j,c,l⟩:=b8t h.1;obtain⟨a,b,u⟩:=g;simp only at i j c l;obtain⟨B,rfl⟩:=a01 c;obtain⟨A,r⟩:=a01 (show 0≤a-1 by omega);obtain rfl:a=(A:Int)+1:=by omega
  have e:a8j (((A:Int)+1,(B:Int),u)::st)++R=pb (A:Int) 5++(pb (B:Int) 4++(a8j st++R)):=by simp[a8j]
  rw[e]at hok⊢;have d:decide ((done.length:Int)<(N:Int))=true:=by grind
  have p:a0H (rdr P (pb (A:Int) 5++(pb (B:Int) 4++(a8j st++R))),(5:Int))=_:=a3z (v:=A) (n:=5) (by omega) (by omega) hok;have f:=hok.shift;have q:a0H (rdr (P++pb (A:Int) 5) (pb (B:Int) 4++(a8j st++R)),(4:Int))=_:=a3z (v:=B) (n:=4) (by omega) (by omega) f;have o:lim (a37 done+1)=true:=a0W (by omega);have t:wrap .i64 (A:Int)=(A:Int):=a0C (by omega);have w2:wrap .i64 (B:Int)=(B:Int):=a0C (by omega);have x:wrap .i64 ((A:Int)+1)=(A:Int)+1:=a0C (by omega);have s:wrap .u64 ((done.length:Int)+1)=(((done++[((A:Int)+1,(B:Int),u)]).length:Nat):Int):=by grind[a0N]
  rw[a0F (s':=((wd:Int),ok,(N:Int),(((done++[((A:Int)+1,(B:Int),u)]).length:Nat):Int),rdr (P++pb (A:Int) 5++pb (B:Int) 4) (a8j st++R),(k,w,0,0,0,[],[0,0,0],done++[((A:Int)+1,(B:Int),u)],[],(0,[],()),[],()),())) (by
    simp_all[a6S])]
  rw[b8v m k w st (done++[((A:Int)+1,(B:Int),u)]) _ R h.2 (by grind) f.shift];simp[a8j]
theorem c1w(h:b5N x=true):b5f 8 x:=by
 simp[b5N]at h;unfold b5f;omega
theorem c7E{wd:Nat}{w g:Int}{a b c:Int}(m:b5N a=true)(hb:b5N b=true)(o:b5N c=true)(f:OkR P (sB 8 [a,b,c]++R)):
  y0s a3f ((wd:Int),(0:Int),rdr P (sB 8 [a,b,c]++R),(k,w,0,0,g,[],[0,0,0],[],[],(0,[],()),[],()),()) =
   some ((wd:Int),rdr (P++sB 8 [a,b,c]) R,(k,w,0,0,g,[],[a,b,c],[],[],(0,[],()),[],()),()):=by
 have e:sB 8 [a,b,c]++R=pb (a0Z a 8) 8++(pb (a0Z b 8) 8++(pb (a0Z c 8) 8++R)):=by rfl
 rw[e]at f⊢;have t:a1d (rdr P (pb (a0Z a 8) 8++(pb (a0Z b 8) 8++(pb (a0Z c 8) 8++R))),(8:Int))=_:=a9P (n:=8) (by omega) (c1w m) f;have h:=f.shift;have u:a1d (rdr (P++pb (a0Z a 8) 8) (pb (a0Z b 8) 8++(pb (a0Z c 8) 8++R)),(8:Int))=_:=a9P (n:=8) (by omega) (c1w hb) h;have d:=h.shift;have v:a1d (rdr (P++pb (a0Z a 8) 8++pb (a0Z b 8) 8) (pb (a0Z c 8) 8++R),(8:Int))=_:=a9P (n:=8) (by omega) (c1w o) d;have x:wrap .i64 ((0:Int)+1)=1:=by rfl
 have y:wrap .i64 ((1:Int)+1)=2:=by rfl
 have w2:wrap .i64 ((2:Int)+1)=3:=by rfl
 have p:decide ((0:Int)<3)=true:=by rfl
 have i:decide ((0:Int)≤0)=true:=by rfl
 have q:decide ((1:Int)<3)=true:=by rfl
 have j:decide ((0:Int)≤1)=true:=by rfl
 have r:decide ((2:Int)<3)=true:=by rfl
 have l:decide ((0:Int)≤2)=true:=by rfl
 have s:decide ((3:Int)<3)=false:=by rfl
 rw[a0F (s':=((wd:Int),(1:Int),rdr (P++pb (a0Z a 8) 8) (pb (a0Z b 8) 8++(pb (a0Z c 8) 8++R)),(k,w,0,0,g,[],[a,0,0],[],[],(0,[],()),[],()),())) (by
  simp_all[a3f])]
 rw[a0F (s':=((wd:Int),(2:Int),rdr (P++pb (a0Z a 8) 8++pb (a0Z b 8) 8) (pb (a0Z c 8) 8++R),(k,w,0,0,g,[],[a,b,0],[],[],(0,[],()),[],()),())) (by
  simp_all[a3f])]
 rw[a0F (s':=((wd:Int),(3:Int),rdr (P++pb (a0Z a 8) 8++pb (a0Z b 8) 8++pb (a0Z c 8) 8) R,(k,w,0,0,g,[],[a,b,c],[],[],(0,[],()),[],()),())) (by
  simp_all[a3f])]
 simp_all[a0E,a3f,sB]
theorem c6B{s:Sub}{n:Int}(hs:a1u s n)(ht:s.2.2.2.2.2.2.1.length=3){P R:List Int}(i:OkR P (b4B s++(a5d s++R))):
  a9w (rdr P (b4B s++(a5d s++R)))=some (a3W s,((a0I s.2.2.2.2.2.2.2.2.1:Nat):Int),true,rdr (P++(b4B s++a5d s)) R):=by
 obtain⟨-,-,hf,ha,I,L,-,-,M,-⟩:=hs;obtain⟨k,w,o,sh,g,c,t,st,a,b,d,u⟩:=s;have hk:=b6g hf;simp only at hk I L M ht;have h0:=a1W M;obtain⟨K,rfl⟩:=a01 hk.1;obtain⟨W,rfl⟩:=a01 I;unfold b4B at i⊢;simp at i⊢;have Y:a0H (rdr P (pb (K:Int) 3++(pb (W:Int) 5++(pb ((a0I a:Nat):Int) 5++(a5d ((K:Int),(W:Int),o,sh,g,c,t,st,a,b,d,u)++R)))),(3:Int))=_:=a3z (v:=K) (n:=3) (by omega) (by omega) i;have j:=i.shift;have Z:a0H (rdr (P++pb (K:Int) 3) (pb (W:Int) 5++(pb ((a0I a:Nat):Int) 5++(a5d ((K:Int),(W:Int),o,sh,g,c,t,st,a,b,d,u)++R))),(5:Int))=_:=a3z (v:=W) (n:=5) (by omega) (by omega) j;have l:=j.shift;have g3:a0H (rdr (P++pb (K:Int) 3++pb (W:Int) 5) (pb ((a0I a:Nat):Int) 5++(a5d ((K:Int),(W:Int),o,sh,g,c,t,st,a,b,d,u)++R)),(5:Int))=_:=a3z (v:=a0I a) (n:=5) (by omega) (by omega) l;have f:=l.shift;have wK:wrap .i64 (K:Int)=(K:Int):=a0C (by omega);have wW:wrap .i64 (W:Int)=(W:Int):=a0C (by omega);have wd:wrap .i64 ((a0I a:Nat):Int)=((a0I a:Nat):Int):=a0C (by omega);unfold a9w;rw[Y];simp only[oB];rw[Z];simp only[oB];rw[g3];simp only[oB,wK,wW,wd];generalize hX:P++pb (K:Int) 3++pb (W:Int) 5++pb ((a0I a:Nat):Int) 5=X at f⊢;have H:∀B:List Int,P++(pb (K:Int) 3++(pb (W:Int) 5++(pb ((a0I a:Nat):Int) 5++B)))=X++B:=fun B=>by grind
 rw[H];obtain⟨a1,D,q,r,E,C⟩:=ha;simp only at a1 D q r E C;clear Y Z g3 i j l hX H;rcases hf with h|h|⟨h,m,G,-⟩|⟨h,m,-⟩|⟨h,m,-,Q⟩|⟨h,m,G⟩
 
 simp only at h;obtain rfl:=a1 (by omega);obtain rfl:=D (by omega);obtain rfl:=q (by omega);obtain rfl:=r (by omega);obtain rfl:=E (by omega);obtain rfl:=C (by omega);rw[h];have hb:a5d ((0:Int),(W:Int),0,0,0,[],[0,0,0],[],a,b,d,u)=[]:=rfl;rw[hb,a09,a40];rfl;simp only at h;obtain rfl:=a1 (by omega);obtain rfl:=D (by omega);obtain rfl:=q (by omega);obtain rfl:=r (by omega);obtain rfl:=E (by omega);obtain rfl:=C (by omega);rw[h];have hb:a5d ((1:Int),(W:Int),0,0,0,[],[0,0,0],[],a,b,d,u)=[]:=rfl;rw[hb,a09,a40];rfl;simp only at h m G;obtain rfl:=D (by omega);obtain rfl:=q (by omega);obtain rfl:=r (by omega);obtain rfl:=E (by omega);obtain rfl:=C (by omega);rw[h]at f⊢;obtain⟨O,rfl⟩:=a01 m;have hb:a5d ((2:Int),(W:Int),(O:Int),0,0,[],[0,0,0],[],a,b,d,u)=pb (O:Int) 3:=rfl;rw[hb]at f⊢;have e:((2:Int)==2)=true:=rfl;have F:a0H (rdr X (pb (O:Int) 3++R),(3:Int))=_:=a3z (v:=O) (n:=3) (by omega) (by omega) f;have wO:wrap .i64 (O:Int)=(O:Int):=a0C (by omega);simp only[e,cT,F,oB,wO];rfl;simp only at h m;obtain rfl:=a1 (by omega);obtain rfl:=q (by omega);obtain rfl:=r (by omega);obtain rfl:=C (by omega);rw[h]at f⊢;have hb:a5d ((3:Int),(W:Int),0,sh,0,c,[0,0,0],[],a,b,d,u)=a7p ((3:Int),(W:Int),0,sh,0,c,[0,0,0],[],a,b,d,u):=rfl;rw[hb]at f⊢;have T:((3:Int)==2)=false:=rfl;have U:((3:Int)==4)=false:=rfl;have V:((3:Int)==3)=true:=rfl;have F:=b8s (s:=((3:Int),(W:Int),0,sh,0,c,[0,0,0],[],a,b,d,u)) (s0:=((3:Int),(W:Int),0,0,0,[],a00 3 0,[],[],(0,[],()),[],())) m rfl f;simp only[T,V,U,cT,cF,oB]
 erw[F]
 rfl
 ·simp only at h m Q;obtain rfl:=a1 (by omega);obtain rfl:=C (by omega);rw[h]at f⊢;simp only[b2b,bA,dT]at Q;obtain⟨Q,h5,S⟩:=Q;obtain⟨A,hA⟩:=a01 (show 0≤g-1 by omega);obtain rfl:g=(A:Int)+1:=by omega
  obtain⟨x,y,z,rfl⟩:∃x y z,t=[x,y,z]:=by
   match t,ht with
   | [x,y,z],_=>simp
  simp at S;have hb:a5d ((4:Int),(W:Int),0,sh,(A:Int)+1,c,[x,y,z],[],a,b,d,u)=pb (A:Int) 10++(sB 8 [x,y,z]++a7p ((4:Int),(W:Int),0,sh,(A:Int)+1,c,[x,y,z],[],a,b,d,u)):=by
   show pb ((A:Int)+1-1) 10++_=_
   simp
  rw[hb]at f⊢;simp only[aA]at f⊢;have T:((4:Int)==2)=false:=rfl;have U:((4:Int)==4)=true:=rfl;have F:a0H (rdr X (pb (A:Int) 10++(sB 8 [x,y,z]++(a7p ((4:Int),(W:Int),0,sh,(A:Int)+1,c,[x,y,z],[],a,b,d,u)++R))),(10:Int))=_:=a3z (v:=A) (n:=10) (by omega) (by omega) f;have p:=f.shift;have wA:wrap .i64 (A:Int)=(A:Int):=a0C (by omega);have h4:wrap .i64 ((A:Int)+1)=(A:Int)+1:=a0C (by omega);have g5:=c7E (wd:=a0I a) (k:=4) (w:=(W:Int)) (g:=(A:Int)+1) S.1 S.2.1 S.2.2 p;have g6:=b8s (s:=((4:Int),(W:Int),0,sh,(A:Int)+1,c,[x,y,z],[],a,b,d,u)) (s0:=((4:Int),(W:Int),0,0,(A:Int)+1,[],[x,y,z],[],[],(0,[],()),[],())) m rfl p.shift;simp_all[a3W,b6j,c1v]
 simp only at h m G;obtain rfl:=a1 (by omega);obtain rfl:=D (by omega);obtain rfl:=q (by omega);obtain rfl:=r (by omega);obtain rfl:=E (by omega);rw[h]at f⊢;simp only[a9l,bA,dT]at G;have hb:a5d ((5:Int),(W:Int),0,0,0,[],[0,0,0],st,a,b,d,u)=pb ((st.length:Nat):Int) 2++a8j st:=rfl;rw[hb]at f⊢;simp only[aA]at f⊢;have T:((5:Int)==2)=false:=rfl;have U:((5:Int)==4)=false:=rfl;have V:((5:Int)==3)=false:=rfl;have e5:((5:Int)==5)=true:=rfl;have F:a0H (rdr X (pb ((st.length:Nat):Int) 2++(a8j st++R)),(2:Int))=_:=a3z (v:=st.length) (n:=2) (by omega) (by omega) f;have g5:=b8v (wd:=a0I a) (ok:=true) (N:=st.length) (by omega) (5:Int) (W:Int) st [] _ R G.2 (by simp) f.shift;simp_all[a3W]
def a8k(s:Sub)(zn:List Nat):List Int:=
 (b4B s++a5d s)++(sB (a0I s.2.2.2.2.2.2.2.2.1) s.2.2.2.2.2.2.2.2.1++if s.1=0∨s.1=1 then[]else a6E s.2.2.2.2.2.2.2.2.2.1 zn s.2.2.2.2.2.2.2.2.2.2.1)
theorem b8w(b:a1u s n)(d:s.1≠0∧s.1≠1→PartsOk s.2.2.2.2.2.2.2.2.2.1 n ((s.2.2.2.2.2.2.2.2.1.length:Nat):Int) s.2.2.2.2.2.2.2.2.2.2.1 zn)(L:List Int):
  a5o s zn L=L++a8k s zn:=by
 obtain⟨-,-,h,-,k,a,-,-,f,-⟩:=b;have c:=a1W f;have g:=c7D (b6g h) ⟨k,a⟩ f L;unfold a5o a8k
 by_cases hk:s.1=0∨s.1=1
 rw[if_pos hk,if_pos hk,a9Q (by omega),c2a h,g]
 simp
 rw[if_neg hk,if_neg hk,c2J (d (not_or.1 hk)),a9Q (by omega),c2a h,g]
 simp
def a8l(s:Sub)(l:List Int):Sub:=(s.1,s.2.1,s.2.2.1,s.2.2.2.1,s.2.2.2.2.1,s.2.2.2.2.2.1,s.2.2.2.2.2.2.1,s.2.2.2.2.2.2.2.1,l,s.2.2.2.2.2.2.2.2.2)
theorem c2b{wd:Nat}(g:wd≤62){N:Nat}(f:N<1000000)(n:Int)(ok:Bool)(z s:Sub):∀(l done P R:List Int),(∀x∈l,b5f wd x)→done.length+l.length=N→OkR P (sB wd l++R)→
  y0s b0Q (n,(wd:Int),ok,(N:Int),(done.length:Int),rdr P (sB wd l++R),z,a8l s done,())=some (n,(wd:Int),ok,rdr (P++sB wd l) R,z,a8l s (done++l),())
 | [],done,P,R,_,hl,_=>by
  have:done.length=N:=by omega
  subst this;have d:decide ((done.length:Int)<(done.length:Int))=false:=by simp
  simp_all[a0E,b0Q,sB]
 |x::l,done,P,R,h,hl,hok=>by
  rw[lC]at hl;rw[c1u]at hok⊢;have d:decide ((done.length:Int)<(N:Int))=true:=by grind
  have a:=a9P g (h x (by simp)) hok;have k:lim (a37 done+1)=true:=a0W (by omega);have b:wrap .i64 ((done.length:Int)+1)=(((done++[x]).length:Nat):Int):=by grind[a0C]
  rw[a0F (s':=(n,(wd:Int),ok,(N:Int),(((done++[x]).length:Nat):Int),rdr (P++pb (a0Z x wd) wd) (sB wd l++R),z,a8l s (done++[x]),())) (by
   simp_all[b0Q,a8l])]
  rw[c2b g f n ok z s l (done++[x]) _ R (fun y c=>h y (by grind)) (by grind) hok.shift];simp[sB]
theorem c6C(h:SmallS s):SmallS (a3W s) where
 coefs:=h.coefs
 taps:=h.taps
 stages:=h.stages
 warm:=by show([]:List Int).length≤5000;simp
 rest:=by show([]:List Int).length≤5000;simp
 ks:=by show([]:List Int).length≤_;simp
theorem d1f(h:SmallS s)(I:(a2l s n).isSome=true)(T:s.1≠0∧s.1≠1→PartsOk s.2.2.2.2.2.2.2.2.2.1 n ((s.2.2.2.2.2.2.2.2.1.length:Nat):Int) s.2.2.2.2.2.2.2.2.2.2.1 zn)(e:OkR P (a8k s zn++R)):b2n (rdr P (a8k s zn++R),n)=some (s,(0:Int),rdr (P++a8k s zn) R):=by
 have K:=b5e I;have d:=@c6B s n K h.taps P;have x:=K;obtain⟨U,V,O,-,-,-,-,S,r,-,v,-⟩:=x;have Q:=a1W r;have y:=h.warm;have L:decide (n<1)=false:=by simp_all
 have M:decide (n > 4096)=false:=by simp_all
 have j:∀A B:List Int,(rdr A B).2.2.1=0:=fun _ _=>rfl;have l:a7R ((a3W s).1,a3W s,n)=some true:=by
  rw[b5t (c6C h)];unfold b3S
  have:a3V (a3W s).1 (a3W s) n:=O
  simp_all
 have i:a4B (a3W s,n)=some ((s.2.2.2.2.2.2.2.2.1.length:Nat):Int):=by
  rw[b2q]
  have:a2o (a3W s) n=a2o s n:=rfl
  simp_all
 have p:=b9H h n;rw[I]at p;have f:a1t s.2.2.2.2.2.2.2.2.1=some ((a0I s.2.2.2.2.2.2.2.2.1:Nat):Int):=a2p (by unfold short;omega);unfold b2n a0P;unfold a8k at e⊢;simp only[aA]at e⊢;have a:OkR (P++(b4B s++a5d s)) (sB (a0I s.2.2.2.2.2.2.2.2.1) s.2.2.2.2.2.2.2.2.1++((if s.1=0∨s.1=1 then[]else a6E s.2.2.2.2.2.2.2.2.2.1 zn s.2.2.2.2.2.2.2.2.2.2.1)++R)):=OkR.shift (by simp_all)
 have G:=fun(ok:Bool) (z:Sub)=>c2b (wd:=a0I s.2.2.2.2.2.2.2.2.1) (by omega) (N:=s.2.2.2.2.2.2.2.2.1.length) (by omega) n ok z (a3W s) s.2.2.2.2.2.2.2.2.1 [] _ _ (b6i r) (by simp) a;simp only[a22,nZ,a09,a30]at G;simp only[L,M,cF,j,bne_self_eq_false,oB];rw[d e];simp only[j,bne_self_eq_false,cF,oB,l,bT,i];rw[show((a3W s:Sub))=a8l (a3W s) []from rfl]
 erw[G]
 simp only[oB,j,bne_self_eq_false,cF];rw[show(a8l (a3W s) s.2.2.2.2.2.2.2.2.1).1=s.1 from rfl,a6B];simp only[oB]
 by_cases hk:s.1=0∨s.1=1
 have H:decide (s.1≠0∧s.1≠1)=false:=by grind
 have q:a8l (a3W s) s.2.2.2.2.2.2.2.2.1=s:=by
  obtain⟨D,E,F⟩:=v hk;obtain⟨k,w,o,sh,g,c,t,st,wm,⟨X,Y,Z⟩,re,u⟩:=s;simp only at D E F;subst D E F;rfl
 grind
 have H:decide (s.1≠0∧s.1≠1)=true:=by simp_all
 have hp:=T (not_or.1 hk);have b:=a.shift;rw[if_neg hk]at b;have m:=c3Q hp b;simp only[H,cT,if_neg hk];rw[show(a8l (a3W s) s.2.2.2.2.2.2.2.2.1).2.2.2.2.2.2.2.2.1=s.2.2.2.2.2.2.2.2.1 from rfl]
 erw[m]
 have C:((0:Int) != 0)=false:=rfl;simp only[oB,C,cF,bT,f,bne_self_eq_false];have q:((a8l (a3W s) s.2.2.2.2.2.2.2.2.1).1,(a8l (a3W s) s.2.2.2.2.2.2.2.2.1).2.1,(a8l (a3W s) s.2.2.2.2.2.2.2.2.1).2.2.1,(a8l (a3W s) s.2.2.2.2.2.2.2.2.1).2.2.2.1,(a8l (a3W s) s.2.2.2.2.2.2.2.2.1).2.2.2.2.1,(a8l (a3W s) s.2.2.2.2.2.2.2.2.1).2.2.2.2.2.1,(a8l (a3W s) s.2.2.2.2.2.2.2.2.1).2.2.2.2.2.2.1,(a8l (a3W s) s.2.2.2.2.2.2.2.2.1).2.2.2.2.2.2.2.1,s.2.2.2.2.2.2.2.2.1,s.2.2.2.2.2.2.2.2.2.1,s.2.2.2.2.2.2.2.2.2.2.1,(a8l (a3W s) s.2.2.2.2.2.2.2.2.1).2.2.2.2.2.2.2.2.2.2.2)=s:=rfl
 grind
theorem d4o(y:Int):bits .u64 .and y 1=y%2:=by
 have h:((a04 64 y) &&& (a04 64 1)).toNat=(y%18446744073709551616).toNat%2:=by
  simp
 show wrap .u64 ((((a04 64 y) &&& (a04 64 1)).toNat:Nat):Int)=_
 grind[a0N]
theorem a2d(v:Int):∀n,a1x (pb v n)
 |0=>fun b hb=>by cases hb
 |n+1=>fun b hb=>by
  rcases mC.1 hb with rfl|hb
  grind[a6T,d4o,a8c]
  exact a2d v n b hb
theorem c5e(n:Nat):a1x (unB n):=fun b hb=>by
 rcases mA.1 hb with hb|hb
 all_goals simp_all
theorem b4C{α:Type}{f:α→List Int}{l:List α}(h:∀x,a1x (f x)):a1x (l.flatMap f):=fun b hb=>by
 obtain⟨x,-,g⟩:=a98.1 hb;exact h x b g
theorem c7F(k:Nat)(x:Int):a1x (a9C k x):=by
 unfold a9C;split;exact(c5e _).app (a2d _ _);exact(c5e _).app (a2d _ _)
theorem b7K(n:Nat)(l:List Int):a1x (sB n l):=b4C fun _=>a2d _ _
theorem c7G(k:Int)(l:List Int):a1x (b0X k l):=by
 unfold b0X;split;exact(a2d _ _).app ((a2d _ _).app (b7K _ _));exact(a2d _ _).app (b4C fun _=>c7F _ _)
theorem b6k:a1x []:=fun b hb=>by grind
theorem c0E:∀(zs:List Nat)(ks l:List Int),a1x (a1O zs ks l)
 |z::zs,k::ks,l=>by
  simp only[a1O];exact(c7G _ _).app (c0E zs ks _)
 | [],_,_=>by simp_all[a1O,b6k]
 |_::_,[],_=>by simp_all[a1O,b6k]
theorem c0F(s:Sub):a1x (a7p s):=(a2d _ _).app ((a2d _ _).app ((a2d _ _).app (b7K _ _)))
theorem c7H(s:Sub):a1x (a5d s):=by
 unfold a5d;split;exact a2d _ _;split;exact c0F s;split;exact(a2d _ _).app ((b7K _ _).app (c0F s));split;exact(a2d _ _).app (b4C fun _=>(a2d _ _).app (a2d _ _));exact b6k
theorem c8N(s:Sub)(h:List Nat):a1x (a8k s h):=by
 refine(((a2d _ _).app ((a2d _ _).app (a2d _ _))).app (c7H s)).app ((b7K _ _).app ?_);split;exact b6k;exact(a2d _ _).app (c0E _ _ _)
theorem c8O(h:SmallS s)(k:(a2l s n).isSome=true)(j:L.length<50000000):
  ∃g,a9N (wL L,s,n)=some (0,wL (L++a8k s g))∧a4e (s,n)=some (((a8k s g).length:Nat):Int)∧(a8k s g).length≤700000∧
   (s.1≠0∧s.1≠1→PartsOk s.2.2.2.2.2.2.2.2.2.1 n ((s.2.2.2.2.2.2.2.2.1.length:Nat):Int) s.2.2.2.2.2.2.2.2.2.2.1 g):=by
 obtain⟨e,i,a,-,c,d,-⟩:=b5S h (n:=n) (L:=L) (by omega);obtain⟨rfl,g,rfl,f⟩:=d k;have b:=b5e k;rw[b8w b f]at a c;refine⟨g,a,?_,by simp_all,f⟩;rw[c5a h];unfold a5c;rw[if_pos k,←c1p f,b8w b f]
 simp
theorem d2r(g:L.length<1000000000):b2W (wL L).1=some (rdr [] L):=by
 obtain⟨-,h⟩:=a5Q L;unfold b2W;rw[a0W (by omega)];rfl
theorem c8P(h:L.length<1000000000):a4V (wL L)=some ((wL L).1,wL L):=by
 grind[a5Q,a4V,a0W]
def a0K(n:Nat):List Int:=if h:n<128 then[(n:Int)]else((n%128+128:Nat):Int)::a0K (n / 128)
termination_by n
decreasing_by omega
theorem b1B{n:Nat}(h:n<128):a0K n=[(n:Int)]:=by rw[a0K,dif_pos h]
theorem b3o{n:Nat}(h:¬ n<128):a0K n=((n%128+128:Nat):Int)::a0K (n / 128):=by rw[a0K,dif_neg h]
theorem b9a:∀(k n:Nat),n<128^(k+1)→1≤(a0K n).length∧(a0K n).length≤k+1
 |0,n,h=>by simp_all[b1B]
 |k+1,n,h=>by
  by_cases hn:n<128
  rw[b1B hn];simp;rw[b3o hn]
  have:=b9a k (n / 128) (by omega)
  simp_all
theorem c0G:∀(k n:Nat),n<128^(k+1)→∀b∈a0K n,0≤b∧b<256
 |0,n,h,b,hb=>by grind[b1B]
 |k+1,n,h,b,hb=>by
  by_cases hn:n<128
  grind[b1B]
  rw[b3o hn]at hb;rcases mC.1 hb with rfl|hb;omega;exact c0G k (n / 128) (by omega) b hb
theorem c5f:∀(k n:Nat)(a:List Int)(b c:Int)(out:List Int),n<128^(k+1)→k≤8→out.length+k<1000000→
  ∃r g,y0s a8u ((n:Int),a,b,c,out,())=some (((r:Nat):Int),a,b,c,out++g,())∧a0K n=g++[(r:Int)]∧r<128
 |k,n,a,b,c,out,h,hk,ho=>by
  by_cases hn:n<128
  refine⟨n,[],?_,by rw[b1B hn];rfl,hn⟩;rw[a0E (b:=((n:Int),a,b,c,out,())) (by
   have d:decide ((n:Int)≥128)=false:=by grind
   simp only[a8u,d,cF])]
  simp
  ·cases k with
   |zero=>omega
   |succ k=>
    have m:n / 128<128^(k+1):=by omega
    have f:n<18446744073709551616:=by
     have:128^(k+1+1)≤128^9:=a08 (by omega) (by omega)
     omega
    obtain⟨r,g,o,j,l⟩:=c5f k (n / 128) a b c (out++[((n%128+128:Nat):Int)]) m (by omega) (by grind);refine⟨r,((n%128+128:Nat):Int)::g,?_,by rw[b3o hn,j];rfl,l⟩;have d:decide ((n:Int)≥128)=true:=by grind
    have e:wrap .u64 (a54 (n:Int) 128)=((n / 128:Nat):Int):=by
     rw[show a54 (n:Int) 128=((n / 128:Nat):Int)from rfl];exact a0N (by omega)
    have i:wrap .u8 (wrap .u8 (a26 (n:Int) 128)+128)=((n%128+128:Nat):Int):=by
     rw[show a26 (n:Int) 128=((n%128:Nat):Int)from rfl,a8c,a8c];omega
    rw[a0F (s':=(((n / 128:Nat):Int),a,b,c,out++[((n%128+128:Nat):Int)],())) (by
     simp only[a8u,d,cT,a0W (show out.length+1<2147483648 by omega),e,i,a06])]
    simp_all
theorem b1C{α β γ:Type}(f:α→List γ):∀(l:List α)(a:List γ),a2O (β:=β) (fun a x=>.inl (a++f x)) l a=.inl (a++l.flatMap f)
 | [],a=>by simp[a2O]
 |x::l,a=>by simp only[a2O];rw[b1C f l];simp
def asI(ns:List Nat):List Int:=ns.map fun n:Nat=>(n:Int)
theorem b7q{ns:List Nat}(h:∀n∈ns,n<9223372036854775808)(t:ns.length≤1000):a9h (asI ns)=some (ns.flatMap a0K):=by
 have l:(asI ns).length=ns.length:=by simp[asI]
 have:=a1G (f:=a8v) (asI ns) (fun i (a:List Int)=>(asI ns,((asI ns).length:Int),(i:Int),a,())) (fun a x=>.inl (a++a0K x.toNat)) (fun i a=>a.length≤10*i) (fun a=>(a,()))
  (fun i hi a p=>⟨fun q g=>by
   have c:i<ns.length:=by omega
   have m:(asI ns)[i]=((ns[i]:Nat):Int):=by simp[asI]
   have hb:=h ns[i] (a05 c);have k:ns[i]<128^(8+1):=by omega
   obtain⟨r,d,o,j,s⟩:=c5f 8 ns[i] (asI ns) ((asI ns).length:Int) (i:Int) a k (a27 _) (by omega);have hv:=b9a 8 ns[i] k;rw[j]at hv;simp only[lN,lC,a22]at hv;simp[m,j]at g;subst g;have e:wrap .u8 (r:Int)=(r:Int):=by rw[a8c];omega
   refine⟨?_,by grind⟩;simp only[a8v,dlt hi,cT,a0D hi,m,oB,o,a0W (show(a++d).length+1<2147483648 by grind),a0B (show i<1000000 by omega),e,a06,aA],fun b hb=>by grind⟩)
  (fun a p=>by simp_all[a8v]) (a:=[]) (by simp)
 simp_all[a9h,b1C,a8d,asI,List.flatMap_map]
theorem orA{k:Nat}(f:a<2^k)(c:b*2^k+a<18446744073709551616):bits .u64 .or (a:Int) ((b*2^k:Nat):Int)=((a+b*2^k:Nat):Int):=by
 show wrap .u64 (((a04 64 (a:Int) ||| a04 64 ((b*2^k:Nat):Int)).toNat:Nat):Int)=_;have g:(a04 64 (a:Int)).toNat=a:=by grind
 have h:(a04 64 ((b*2^k:Nat):Int)).toNat=b*2^k:=by grind[a82]
 grind[a59,a57,a0N]
theorem b8x{rest:List Int}:∀(j m i acc:Nat)(P:List Int),m<128^(j+1)→P.length=i→(i=0∨1≤m)→acc<2^(7*i)→m*2^(7*i)+acc<9223372036854775808→(P++(a0K m++rest)).length<1000000000→
  y0s a6b ((acc:Int),P++(a0K m++rest),((P++(a0K m++rest)).length:Nat),(i:Int),())=some (.inr (((acc+m*2^(7*i):Nat):Int),((i+(a0K m).length:Nat):Int),(0:Int),()))
 |j,m,i,acc,P,hj,hP,hm,ha,hs,hl=>by
  have r:i≤8:=by
   rcases hm with l|h1;omega;apply Classical.byContradiction;intro hi;have y:2^(7*9)≤2^(7*i):=a08 (by omega) (by omega);have z:2^(7*i)≤m*2^(7*i):=Nat.le_mul_of_pos_left _ (by omega);omega
  have t:wrap .i64 ((7:Int)*(i:Int))=((7*i:Nat):Int):=by grind[a0C]
  have v:decide ((((7*i:Nat):Int))<0)=false:=by rfl
  have u:wrap .i64 ((i:Int)+1)=((i+1:Nat):Int):=a0B (by omega);have x:∀c:Nat,c<256→(i=9→False):=fun _ _ h=>by omega
  have n:((i:Int)==9)=false:=by grind
  have g:∀(c:Nat)(b:List Int),c<256→a0K m=(c:Int)::b→(i=0∨c≠0)→
    a6b ((acc:Int),P++(a0K m++rest),((P++(a0K m++rest)).length:Nat),(i:Int),()) =
     bif decide ((c:Int)<128)then some (.inr (Sum.inr (bits .u64 .or (acc:Int) (A0n .u64 (wrap .u64 (a26 (c:Int) 128)) ((7*i:Nat):Int)),((i+1:Nat):Int),(0:Int),())))
     else some (.inl (bits .u64 .or (acc:Int) (A0n .u64 (wrap .u64 (a26 (c:Int) 128)) ((7*i:Nat):Int)),P++(a0K m++rest),((P++(a0K m++rest)).length:Nat),((i+1:Nat):Int),())):=fun c b o hv l=>by
   have k:i<(P++(a0K m++rest)).length:=by simp_all
   have q:m0k (P++(a0K m++rest)) (i:Int)=some (c:Int):=by
    simp_all[a0D]
   have A:(decide ((i:Int) > 0)=true→((c:Int)==0)=false):=fun h=>by
    grind
   simp only[a6b,dlt k,cT,q,oB,n,cF]
   grind
  have f:∀c:Nat,c%128*2^(7*i)+acc<9223372036854775808→bits .u64 .or (acc:Int) (A0n .u64 (wrap .u64 (a26 (c:Int) 128)) ((7*i:Nat):Int))=((acc+c%128*2^(7*i):Nat):Int):=fun c o=>by
   rw[show a26 (c:Int) 128=((c%128:Nat):Int)from rfl,a0N (by omega),b2r (by omega) (by omega)];exact orA ha (by omega)
  by_cases hm128:m<128
  rw[a0E (g m [] (by omega) (b1B hm128) (by omega) |>.trans (by
   have d:decide ((m:Int)<128)=true:=by grind
   simp only[d,cT];rfl))]
  rw[f m (by simp_all[a23]),a23 hm128,b1B hm128];rfl
  ·cases j with
   |zero=>omega
   |succ j=>
    have p:m / 128<128^(j+1):=by omega
    have s:2^(7*(i+1))=128*2^(7*i):=by grind
    have a:m*2^(7*i)=m%128*2^(7*i)+m / 128*2^(7*(i+1)):=by
     grind
    have hb:m%128*2^(7*i)≤127*2^(7*i):=a25 _ (by omega);rw[a0F (g (m%128+128) (a0K (m / 128)) (by omega) (b3o hm128) (by omega) |>.trans (by
     have d:decide (((m%128+128:Nat):Int)<128)=false:=by grind
     simp only[d,cF];rfl))]
    rw[f (m%128+128) (by grind[a90,Nat.mod_mod]),a90,Nat.mod_mod];have e:P++(a0K m++rest)=(P++[((m%128+128:Nat):Int)])++(a0K (m / 128)++rest):=by rw[b3o hm128];simp
    rw[e]at hl⊢;have w:=b8x j (m / 128) (i+1) (acc+m%128*2^(7*i)) (P++[((m%128+128:Nat):Int)]) p (by simp[hP]) (.inr (by omega)) (by omega) (by omega) hl;rw[w,a,b3o hm128];congr 3;omega
    simp;omega
theorem c7I{n:Nat}(h:n<9223372036854775808){rest:List Int}(g:(a0K n++rest).length<1000000000):a8G (a0K n++rest)=some ((n:Int),(((a0K n).length:Nat):Int),(0:Int)):=by
 have:=b8x (rest:=rest) 8 n 0 0 [] (by omega) rfl (.inl rfl) (by simp) (by omega) g
 simp_all[a8G]
def ord(P R:List Int):List Int×(Int×Int×Unit):=(P++R,(P.length:Int),(0:Int),())
theorem a2T{n:Nat}(c:n<9223372036854775808){most:Int}(e:(n:Int)≤most)(b:(P++(a0K n++R)).length<1000000000):
  a0V (ord P (a0K n++R),most)=some ((n:Int),ord (P++a0K n) R):=by
 have a:List.drop (a42 (P.length:Int)) (b03 (P++(a0K n++R)).length (P++(a0K n++R)))=a0K n++R:=by
  grind[tN]
 have k:((0:Int) != 0)=false:=rfl;have g:decide ((0:Int)≤(P.length:Int))=true:=by simp
 have f:decide ((P.length:Int)≤((P++(a0K n++R)).length:Int))=true:=by grind
 have d:decide ((n:Int) > most)=false:=by simp_all
 have h:(a0K n++R).length<1000000000:=by grind
 have i:wrap .i64 ((P.length:Int)+((a0K n).length:Int))=(((P++a0K n).length:Nat):Int):=by
  rw[a0C (by simp at b;omega)];simp
 unfold a0V ord;simp only[k,cF,g,f,a03,cT];rw[a,c7I c h]
 grind
def a8Y(g:Int):Nat:=if 0≤g then(2*g).toNat else(-2*g-1).toNat
theorem d2s{g:Int}(h:-100000≤g∧g≤100000):b1N g=some ((a8Y g:Nat):Int):=by
 unfold b1N a8Y
 by_cases hg:0≤g
 have d:decide (g≥0)=true:=by simp_all
 rw[d,cT,if_pos hg,a0N (n:=g) (by omega),a0N (by omega),a79 (by omega)];have d:decide (g≥0)=false:=by simp_all
 rw[d,cF,if_neg hg,a0C (n:=g+1) (by omega),a0C (by omega),a0N (n:=0-(g+1)) (by omega),a0N (n:=2*(0-(g+1))) (by omega),a0N (by omega),a79 (by omega)]
 grind
theorem c5g{g:Int}(h:-(m:Int)≤g∧g≤(m:Int)):a8Y g≤2*m:=by
 grind[a8Y]
theorem d2t{g:Int}(h:-100000≤g∧g≤100000):b1W ((a8Y g:Nat):Int)=some g:=by
 unfold b1W;have f:a26 ((a8Y g:Nat):Int) 2=((a8Y g%2:Nat):Int):=rfl;have k:a54 ((a8Y g:Nat):Int) 2=((a8Y g / 2:Nat):Int):=rfl;rw[f,k];unfold a8Y
 by_cases hg:0≤g
 rw[if_pos hg];have d:((((2*g).toNat%2:Nat):Int)==0)=true:=by grind
 rw[d,cT,a0N (by omega),a0C (by omega)]
 grind
 rw[if_neg hg];have d:((((-2*g-1).toNat%2:Nat):Int)==0)=false:=by grind
 rw[d,cF,a0N (by omega),a0C (n:=(((-2*g-1).toNat / 2:Nat):Int)) (by omega),a0C (n:=0-(((-2*g-1).toNat / 2:Nat):Int)) (by omega),a0C (by omega)]
 grind
def e8(s:Int):Int:=bif (A0o .u8 s 7)==(1:Int)then bits .u8 .xor (A0n .u8 s 1) 7 else A0n .u8 s 1
def e16(s:Int):Int:=bif (A0o .u16 s 15)==(1:Int)then bits .u16 .xor (A0n .u16 s 1) 32773 else A0n .u16 s 1
def rep{α:Type}(f:α→α):Nat→α→α
 |0,s=>s
 |n+1,s=>rep f n (f s)
def g8(s c:Int):Int:=rep e8 8 (bits .u8 .xor s c)
def g16(s c:Int):Int:=rep e16 8 (bits .u16 .xor s (A0n .u16 (wrap .u16 c) 8))
theorem c0H(l:List Int)(n i:Int):∀(j k:Nat)(s:Int),k+j=8→y0s b0G (s,l,n,i,(k:Int),())=some (rep e8 j s,l,n,i,())
 |0,k,s,h=>by
  obtain rfl:k=8:=by omega
  rfl
 |j+1,k,s,h=>by
  have d:decide ((k:Int)<8)=true:=by grind
  rw[a0F (s':=(e8 s,l,n,i,((k+1:Nat):Int),())) (by
   simp only[b0G,d,cT,a0B (show k<1000000 by omega),e8]
   grind)]
  exact c0H l n i j (k+1) (e8 s) (by omega)
theorem b7r(l:List Int)(n i:Int):∀(j k:Nat)(s:Int),k+j=8→y0s a8R (s,l,n,i,(k:Int),())=some (rep e16 j s,l,n,i,())
 |0,k,s,h=>by
  obtain rfl:k=8:=by omega
  rfl
 |j+1,k,s,h=>by
  have d:decide ((k:Int)<8)=true:=by grind
  rw[a0F (s':=(e16 s,l,n,i,((k+1:Nat):Int),())) (by
   simp only[a8R,d,cT,a0B (show k<1000000 by omega),e16]
   grind)]
  exact b7r l n i j (k+1) (e16 s) (by omega)
def b6l(l:List Int):Int:=l.foldl g8 0
def a4i(l:List Int):Int:=l.foldl g16 0
theorem c3R(h:short l):a7U l=some (b6l l):=by
 have:=a1G (f:=a7H) (β:=Int×Unit) l (fun i (a:Int)=>(a,l,(l.length:Int),(i:Int),())) (fun a x=>.inl (g8 a x)) (fun _ _=>True) (fun a=>(a,()))
  (fun i hi a _=>⟨fun k g=>by
   simp at g;subst g
   have:=c0H l (l.length:Int) (i:Int) 8 0 (bits .u8 .xor a l[i]) rfl
   simp at this;refine⟨?_,trivial⟩;simp only[a7H,dlt hi,cT,a0D hi,oB,this,a0B (a18 hi h),g8],fun b hb=>by grind⟩)
  (fun a c=>by simp_all[a7H]) (a:=0) trivial
 unfold a7U;simp at this;rw[this,b6f];rfl
theorem c0I(h:short l):a6j l=some (a4i l):=by
 have:=a1G (f:=a5W) (β:=Int×Unit) l (fun i (a:Int)=>(a,l,(l.length:Int),(i:Int),())) (fun a x=>.inl (g16 a x)) (fun _ _=>True) (fun a=>(a,()))
  (fun i hi a _=>⟨fun k g=>by
   simp at g;subst g
   have:=b7r l (l.length:Int) (i:Int) 8 0 (bits .u16 .xor a (A0n .u16 (wrap .u16 l[i]) 8)) rfl
   simp at this;refine⟨?_,trivial⟩;simp only[a5W,dlt hi,cT,a0D hi,oB,this,a0B (a18 hi h),g16],fun b hb=>by grind⟩)
  (fun a c=>by simp_all[a5W]) (a:=0) trivial
 unfold a6j;simp at this;rw[this,b6f];rfl
theorem b3p(n:Int):wrap .u16 n=n%65536:=by rfl
theorem c7J(s:Int):0≤e16 s∧e16 s<65536:=by
 unfold e16;cases (A0o .u16 s 15==1:Bool);simp only[cF,A0n,b3p];omega;simp only[cT,bits,b3p];omega
theorem b8y(l:List Int):0≤a4i l∧a4i l<65536:=by
 unfold a4i;rcases a51 l with rfl|⟨L,b,rfl⟩
 simp
 rw[List.concat_eq_append,List.foldl_append];exact c7J _
theorem d7h{v:Int}(h:0≤v∧v<65536):a4l (v,2)=some [v / 256,v%256]:=by
 have g:wrap .u64 (a54 v 256)=v / 256:=by grind[a0N]
 have f:wrap .u8 (a26 v 256)=v%256:=by simp_all[a43,a8c]
 have k:wrap .u8 (a26 (v / 256) 256)=v / 256:=by grind[a8c]
 have s0:a1R (v,(2:Int),(0:Int),([]:List Int),())=some (.inl (v / 256,(2:Int),(1:Int),[v%256],())):=by
  simp only[a1R,show decide ((0:Int)<2)=true from rfl,cT,a0W (show([]:List Int).length+1<2147483648 by simp),g,f];rfl
 have a:a1R (v / 256,(2:Int),(1:Int),[v%256],())=some (.inl (wrap .u64 (a54 (v / 256) 256),(2:Int),(2:Int),[v%256,v / 256],())):=by
  simp only[a1R,show decide ((1:Int)<2)=true from rfl,cT,a0W (show([v%256]:List Int).length+1<2147483648 by simp),k];rfl
 have c:a5j (v,2)=some [v%256,v / 256]:=by
  unfold a5j a3S
  simp
  rw[show v0s (v0r (2:Int) 0) 8=2 from rfl,a0F s0,a0F a,a0E (b:=([v%256,v / 256],())) rfl];rfl
 simp_all[a4l,a1P]
@[reducible] def a0M:Type:=Int×(Int×(Int×Unit))
@[reducible] def a1q:Type:=Int×(Int×(a0M×(List a0M×(List Sub×Unit))))
@[reducible] def a1e:Type:=Int×(List (List Int)×Unit)
def a2y(n:Int)(s:a0M):Bool:=!(decide (s.1<0) || decide (s.1≥n) || decide (s.2.1<0) || decide (s.2.1≥n) || s.1==s.2.1)&&!(decide (s.2.2.1 < -1024) || decide (s.2.2.1 > 1024))
theorem a2V{n:Int}{s:a0M}:a2y n s=true↔0≤s.1∧s.1<n∧0≤s.2.1∧s.2.1<n∧s.1≠s.2.1∧-1024≤s.2.2.1∧s.2.2.1≤1024:=by
 simp only[a2y,bA,a33,a77,decide_eq_false_iff_not,beq_eq_false_iff_ne];omega
def a5f(l:List a0M)(n:Int):Prop:=1≤n∧n≤8∧l.length≤16∧l.all (a2y n)=true
instance (l:List a0M) (n:Int):Decidable (a5f l n):=by unfold a5f;infer_instance
theorem b5g(l:List a0M)(n:Int):a8n (l,n)=some (decide (a5f l n)):=by
 unfold a8n a5f
 by_cases h1:n<1
 grind
 by_cases h2:n > 8
 grind
 by_cases h3:((l.length:Nat):Int) > 16
 grind
 have g:=a1S (f:=a6Y) (β:=Unit ⊕ (Bool×Unit)) l (fun i=>(n,l,(l.length:Int),(i:Int),())) (a2y n) (bt:=Sum.inl ()) (bf:=Sum.inr (false,()))
  (fun i h hp=>by
   obtain⟨a1,m,o,p,q,r,s⟩:=a2V.1 hp;have k:decide (l[i].1<0)=false:=by simp_all
   have a:decide (l[i].1≥n)=false:=by simp_all
   have b:decide (l[i].2.1<0)=false:=by simp_all
   have c:decide (l[i].2.1≥n)=false:=by simp_all
   have d:(l[i].1==l[i].2.1)=false:=by simp_all
   have e:decide (l[i].2.2.1 < -1024)=false:=by simp_all
   have j:decide (l[i].2.2.1 > 1024)=false:=by simp_all
   simp only[a6Y,dlt h,cT,a0D h,oB,k,a,b,c,d,e,j,cF,a0B (show i<1000000 by omega)])
  (fun i h hp=>by
   simp only[a6Y,dlt h,cT,a0D h,oB]
   grind[a2y])
  (by simp[a6Y])
 grind
def a3X(f:a0M):Prop:=1≤f.1∧f.1≤1048576∧1≤f.2.1∧f.2.1≤8∧4≤f.2.2.1∧f.2.2.1≤24
instance (f:a0M):Decidable (a3X f):=by unfold a3X;infer_instance
theorem a4z(f:a0M):a1V f=some (decide (a3X f)):=by
 unfold a1V a6X a3X
 grind
def frP(f:a1q):Prop:=a3X f.2.2.1∧1≤f.2.1∧f.2.1≤4096∧0≤f.1∧f.1≤4194304-f.2.1∧a5f f.2.2.2.1 f.2.2.1.2.1
instance (f:a1q):Decidable (frP f):=by unfold frP;infer_instance
theorem b5G(f:a1q):a6Z f=some (decide (frP f)):=by
 unfold a6Z frP;rw[a4z,b5g]
 by_cases h1:a3X f.2.2.1<;>by_cases h2:1≤f.2.1<;>by_cases h3:f.2.1≤4096<;>by_cases h4:0≤f.1<;>simp[h1,h2,h3,h4]
 have h:wrap .i64 ((4194304:Int)-f.2.1)=4194304-f.2.1:=a0C (by omega);rw[h]
 grind
def a7q(s:a0M):List Nat:=[s.1.toNat,s.2.1.toNat,a8Y s.2.2.1]
def a5L(s:a0M):List Int:=a0K s.1.toNat++(a0K s.2.1.toNat++a0K (a8Y s.2.2.1))
def hb(f:a1q)(body:Nat):List Int:=
 [245,75]++(a0K f.1.toNat++(a0K f.2.1.toNat++(a0K f.2.2.1.1.toNat++(a0K f.2.2.1.2.1.toNat++(a0K f.2.2.1.2.2.1.toNat++(a0K f.2.2.2.1.length++(f.2.2.2.1.flatMap a5L++a0K body)))))))
def a1E(f:a1q)(body:Nat):List Int:=hb f body++[b6l (hb f body)]
theorem a8N{n:Nat}(h:n<9223372036854775808):1≤(a0K n).length∧(a0K n).length≤9:=b9a 8 n (by omega)
theorem c7K(g:n≤8){s:a0M}(h:a2y n s=true):(a5L s).length≤27:=by
 grind[a2V,a8N,a8Y,a5L]
theorem c2c{n:Int}(g:n≤8):∀(l:List a0M),l.all (a2y n)=true→(l.flatMap a5L).length≤27*l.length
 | [],_=>by simp
 |s::l,h=>by
  simp only[a07,bA]at h
  have:=c7K g h.1
  have:=c2c g l h.2
  simp only[a63,lN,lC];omega
theorem c3S{f:a1q}(g:frP f){body:Nat}(h:body≤1048576):2≤(hb f body).length∧(hb f body).length≤600:=by
 obtain⟨⟨q,r2,k,a,b,c⟩,l1,l2,s1,s2,m1,m2,m3,m4⟩:=g;have d:=a8N (n:=f.1.toNat) (by omega);have e:=a8N (n:=f.2.1.toNat) (by omega);have i:=a8N (n:=f.2.2.1.1.toNat) (by omega);have j:=a8N (n:=f.2.2.1.2.1.toNat) (by omega);have l:=a8N (n:=f.2.2.1.2.2.1.toNat) (by omega);have m:=a8N (n:=f.2.2.2.1.length) (by omega);have o:=a8N (n:=body) (by omega);have p:=c2c m2 _ m4;simp only[hb,lN,lC,a22];omega
theorem c5h:∀l:List a0M,(l.flatMap a7q).length=3*l.length
 | []=>rfl
 |s::l=>by simp only[a63,lN,lC,c5h l];simp only[a7q,lC,a22];omega
theorem c6D{f:a1q}(z:frP f){body:Nat}(q:body≤1048576):a7I (f,(body:Int))=some (a1E f body):=by
 have t:=z;obtain⟨⟨N,r2,I,K,L,M⟩,l1,l2,s1,s2,m1,m2,m3,m4⟩:=t;have k:∀s∈f.2.2.2.1,a2y f.2.2.1.2.1 s=true:=fun s v=>lA.1 m4 s v;have h:=a1G (f:=a5t) (β:=Int×(List Int×Unit)) f.2.2.2.1 (fun i (a:List Int)=>((body:Int),f.2.2.2.1,((f.2.2.2.1.length:Nat):Int),(i:Int),a,())) (fun a x=>.inl (a++asI (a7q x))) (fun i a=>a.length=6+3*i) (fun a=>((body:Int),a,()))
  (fun i hi a F=>⟨fun H j=>by
   simp at j;subst j;obtain⟨a1,B,C,D,E,w,y⟩:=a2V.1 (k _ (a05 hi));refine⟨?_,by grind[asI,a7q]⟩;simp only[a5t,dlt hi,cT,a0D hi,oB,d2s (g:=f.2.2.2.1[i].2.2.1) (by omega),a0W (show a.length+3<2147483648 by omega),a0B (show i<1000000 by omega),a06]
   grind[a0N,asI,a7q],fun b hb=>by grind⟩)
  (fun a F=>by simp_all[a5t]) (a:=asI [f.1.toNat,f.2.1.toNat,f.2.2.1.1.toNat,f.2.2.1.2.1.toNat,f.2.2.1.2.2.1.toNat,f.2.2.2.1.length]) (by rfl)
 rw[b1C]at h;simp[a8d]at h;have d:([wrap .u64 f.1,wrap .u64 f.2.1,wrap .u64 f.2.2.1.1,wrap .u64 f.2.2.1.2.1,wrap .u64 f.2.2.1.2.2.1,wrap .u64 ((f.2.2.2.1.length:Nat):Int)]:List Int)=asI [f.1.toNat,f.2.1.toNat,f.2.2.1.1.toNat,f.2.2.1.2.1.toNat,f.2.2.1.2.2.1.toNat,f.2.2.2.1.length]:=by
  grind[a0N,asI]
 have o:asI [f.1.toNat,f.2.1.toNat,f.2.2.1.1.toNat,f.2.2.1.2.1.toNat,f.2.2.1.2.2.1.toNat,f.2.2.2.1.length]++f.2.2.2.1.flatMap (fun x=>asI (a7q x))++[((body:Nat):Int)]=asI ([f.1.toNat,f.2.1.toNat,f.2.2.1.1.toNat,f.2.2.1.2.1.toNat,f.2.2.1.2.2.1.toNat,f.2.2.2.1.length]++f.2.2.2.1.flatMap a7q++[body]):=by
  simp_all[asI,List.map_flatMap]
 have u:∀n∈[f.1.toNat,f.2.1.toNat,f.2.2.1.1.toNat,f.2.2.1.2.1.toNat,f.2.2.1.2.2.1.toNat,f.2.2.2.1.length]++f.2.2.2.1.flatMap a7q++[body],n<9223372036854775808:=fun n e=>by
  simp only[mA,mC,a97,or_false,a98]at e;rcases e with(e|⟨s,v,e⟩)|e;omega;obtain⟨a1,B,C,D,E,w,y⟩:=a2V.1 (k _ v)
  have:=c5g (m:=1024) ⟨w,y⟩
  simp[a7q]at e;omega;omega
 have A:=c5h f.2.2.2.1;have p:=b7q u (by grind);have c:(([f.1.toNat,f.2.1.toNat,f.2.2.1.1.toNat,f.2.2.1.2.1.toNat,f.2.2.1.2.2.1.toNat,f.2.2.2.1.length]++f.2.2.2.1.flatMap a7q++[body]).flatMap a0K)=(hb f body).drop 2:=by
  simp only[hb,List.flatMap_append,a63,List.flatMap_nil,a40,aA,List.flatMap_assoc,a65,a09,List.drop_succ_cons,a28];congr 7;exact congrArg (fun g=>List.flatMap g f.2.2.2.1) (funext fun s=>by simp[a5L,a7q])
 have r:[245,75]++(hb f body).drop 2=hb f body:=by rfl
 have G:=c3S z q;unfold a7I;simp only[d];rw[h];simp only[oB,a06];have l:=congrArg a37 o;rw[show(asI ([f.1.toNat,f.2.1.toNat,f.2.2.1.1.toNat,f.2.2.1.2.1.toNat,f.2.2.1.2.2.1.toNat,f.2.2.2.1.length]++f.2.2.2.1.flatMap a7q++[body])).length=7+3*f.2.2.2.1.length from by grind[asI,lC]]at l;rw[lN,a74]at l;rw[a0N (n:=(body:Int)) (by omega),a0W (by omega),cT,o,p];simp only[oB,c,a06,r];rw[a0W (by grind),cT,c3R (show short (hb f body)by unfold short;omega)]
 simp
 rw[a0W (by omega),cT];rfl
def c6E(f:a1q):a1q:=(f.1,f.2.1,f.2.2.1,f.2.2.2.1,[],())
theorem a1B{A:List Int}{k:Nat}(h:(P++(A++R)).length<k):((P++A)++R).length<k:=by rw[aA];exact h
theorem c0J{x:List Int}{ch:Int}(c:ch≤8)(s l:Int)(fm:a0M)(u:List Sub×Unit){N:Nat}(o:N≤16){R:List Int}:∀(rest done:List a0M)(P:List Int),rest.all (a2y ch)=true→done.length+rest.length=N→
  (P++(rest.flatMap a5L++R)).length<1000000000→
  y0s a5F (x,(N:Int),(done.length:Int),(s,l,fm,done,u),ord P (rest.flatMap a5L++R),())=some (x,(s,l,fm,done++rest,u),ord (P++rest.flatMap a5L) R,())
 | [],done,P,_,hl,_=>by
  have e:done.length=N:=by simpa using hl
  rw[e,a0E (b:=(x,(s,l,fm,done,u),ord P R,())) (by simp only[a5F,dge,cF];rfl)]
  simp
 |g::rest,done,P,h,hl,hlen=>by
  simp only[a07,bA]at h;rw[lC]at hl;obtain⟨a1,v,w,y,z,d,i⟩:=a2V.1 h.1;have A:=c5g (m:=1024) ⟨d,i⟩;have j:(g::rest).flatMap a5L++R=a0K g.1.toNat++(a0K g.2.1.toNat++(a0K (a8Y g.2.2.1)++(rest.flatMap a5L++R))):=by simp[a5L]
  rw[j]at hlen⊢;have n1:=a2T (n:=g.1.toNat) (most:=7) (by omega) (by omega) hlen;have f:=a1B hlen;have n2:=a2T (n:=g.2.1.toNat) (most:=7) (by omega) (by omega) f;have k:=a1B f;have r:=a2T (n:=a8Y g.2.2.1) (most:=2048) (by omega) (by omega) k;have a:=a1B k;have q:wrap .u64 ((done.length:Int)+1)=(((done++[g]).length:Nat):Int):=by rw[a0N (by omega)];simp
  have t:wrap .i64 ((g.1.toNat:Nat):Int)=g.1:=by rw[a0C (by omega)];omega
  have w2:wrap .i64 ((g.2.1.toNat:Nat):Int)=g.2.1:=by rw[a0C (by omega)];omega
  have p:decide ((done.length:Int)<(N:Int))=true:=by simp;omega
  rw[a0F (s':=(x,(N:Int),(((done++[g]).length:Nat):Int),(s,l,fm,done++[g],u),ord (P++a0K g.1.toNat++a0K g.2.1.toNat++a0K (a8Y g.2.2.1)) (rest.flatMap a5L++R),())) (by
   simp only[a5F,p,cT,n1,n2,r,oB,d2t (g:=g.2.2.1) (by omega),a0W (show done.length+1<2147483648 by omega),t,w2,q,a06])]
  rw[c0J c s l fm u o rest (done++[g]) _ h.2 (by simp;omega) a];simp[a5L]
theorem c6F{f:a1q}(p:frP f){body:Nat}(o:body≤1048576)(hl:(a1E f body++R).length<1000000000):
  a7P (a1E f body++R)=some (c6E f,((a1E f body).length:Int),(body:Int),(0:Int)):=by
 have q:=p;obtain⟨⟨r1,r2,c1,c2,d1,d2⟩,l1,l2,s1,s2,m1,m2,m3,m4⟩:=q;have U:=c3S p o

 have d:a1E f body++R=[245,75]++(a0K f.1.toNat++(a0K f.2.1.toNat++(a0K f.2.2.1.1.toNat++(a0K f.2.2.1.2.1.toNat++(a0K f.2.2.1.2.2.1.toNat++(a0K f.2.2.2.1.length++(f.2.2.2.1.flatMap a5L++(a0K body++([b6l (hb f body)]++R))))))))):=by
  simp[a1E,hb]
 generalize hx:a1E f body++R=x at *;have V:2≤x.length:=by rw[d];simp
 have P:m0k x 0=some 245:=by rw[d];rfl
 have Q:m0k x 1=some 75:=by rw[d];rfl
 have k:List.drop 2 (b03 x.length x)=a0K f.1.toNat++(a0K f.2.1.toNat++(a0K f.2.2.1.1.toNat++(a0K f.2.2.1.2.1.toNat++(a0K f.2.2.1.2.2.1.toNat++(a0K f.2.2.2.1.length++(f.2.2.2.1.flatMap a5L++(a0K body++([b6l (hb f body)]++R)))))))):=by
  rw[a19,d];rfl
 have h:([]++(a0K f.1.toNat++(a0K f.2.1.toNat++(a0K f.2.2.1.1.toNat++(a0K f.2.2.1.2.1.toNat++(a0K f.2.2.1.2.2.1.toNat++(a0K f.2.2.2.1.length++(f.2.2.2.1.flatMap a5L++(a0K body++([b6l (hb f body)]++R))))))))):List Int).length<1000000000:=by
  rw[←k];simp;omega
 have n1:=a2T (n:=f.1.toNat) (most:=4194304) (by omega) (by omega) h;have y:=a1B h;have n2:=a2T (n:=f.2.1.toNat) (most:=4096) (by omega) (by omega) y;have z:=a1B y;have E:=a2T (n:=f.2.2.1.1.toNat) (most:=1048576) (by omega) (by omega) z;have A:=a1B z;have F:=a2T (n:=f.2.2.1.2.1.toNat) (most:=8) (by omega) (by omega) A;have B:=a1B A;have G:=a2T (n:=f.2.2.1.2.2.1.toNat) (most:=24) (by omega) (by omega) B;have C:=a1B B;have H:=a2T (n:=f.2.2.2.1.length) (most:=16) (by omega) (by omega) C;have D:=a1B C;have a:=c0J (x:=x) m2 f.1 f.2.1 f.2.2.1 ([],()) m3 f.2.2.2.1 [] _ m4 (by simp) D;have S:=a1B D;have i:=a2T (n:=body) (most:=1048576) (by omega) (by omega) S;simp only[a22,nZ,a09,a30]at n1 n2 E F G H i a;have Y:wrap .i64 ((f.1.toNat:Nat):Int)=f.1:=by rw[a0C (by omega)];omega
 have w2:wrap .i64 ((f.2.1.toNat:Nat):Int)=f.2.1:=by rw[a0C (by omega)];omega
 have Z:wrap .i64 ((f.2.2.1.1.toNat:Nat):Int)=f.2.2.1.1:=by rw[a0C (by omega)];omega
 have w4:wrap .i64 ((f.2.2.1.2.1.toNat:Nat):Int)=f.2.2.1.2.1:=by rw[a0C (by omega)];omega
 have w5:wrap .i64 ((f.2.2.1.2.2.1.toNat:Nat):Int)=f.2.2.1.2.2.1:=by rw[a0C (by omega)];omega
 have l:a0K f.1.toNat++a0K f.2.1.toNat++a0K f.2.2.1.1.toNat++a0K f.2.2.1.2.1.toNat++a0K f.2.2.1.2.2.1.toNat++a0K f.2.2.2.1.length++f.2.2.2.1.flatMap a5L++a0K body=(hb f body).drop 2:=by simp[hb]
 rw[l]at i;have u:ord ((hb f body).drop 2) ([b6l (hb f body)]++R)=(x.drop 2,(((hb f body).length-2:Nat):Int),(0:Int),()):=by
  unfold ord;rw[a52,←hx];congr 1;unfold a1E;rw[aA,List.drop_append_of_le_length (by omega)]
 rw[u]at i;have b:wrap .i64 (((x.drop 2).length:Int)-(((hb f body).length-2:Nat):Int))=((1+R.length:Nat):Int):=by
  have:x.length=(hb f body).length+(1+R.length):=by rw[←hx];simp[a1E];omega
  rw[a52,a0C (by omega)];omega
 have m:wrap .i64 ((2:Int)+(((hb f body).length-2:Nat):Int))=(((hb f body).length:Nat):Int):=by rw[a0C (by omega)];omega
 have t:(hb f body).length<x.length:=by rw[←hx];simp[a1E]
 have c:b03 (hb f body).length x=hb f body:=by rw[←hx];simp[a1E]
 have s:m0k x (((hb f body).length:Nat):Int)=some (b6l (hb f body)):=by rw[a0D t];congr 1;subst hx;simp[a1E]
 have O:decide (((x.length:Nat):Int)<2)=false:=by simp;omega
 have j:decide ((2:Int)≤((x.length:Nat):Int))=true:=by simp;omega
 have I:((245:Int) != 245)=false:=rfl;have K:((75:Int) != 75)=false:=rfl;have e:∀T:List Int,T.length<1000000000→a5P T=some (ord [] T):=fun T d=>by unfold a5P;rw[a0W (by omega)];rfl
 have g:=h;rw[a09]at g;have z0:((0:Int) != 0)=false:=rfl;have L:decide (((1+R.length:Nat):Int)<1)=false:=by simp;omega
 have M:decide ((0:Int)≤(((hb f body).length:Nat):Int))=true:=by simp
 have N:decide ((((hb f body).length:Nat):Int)≤((x.length:Nat):Int))=true:=by simp;omega
 have X:(b6l (hb f body) != b6l (hb f body))=false:=bne_self_eq_false _;have r:frP (f.1,f.2.1,f.2.2.1,f.2.2.2.1,([]:List Sub),()):=p;have w:wrap .i64 ((((hb f body).length:Nat):Int)+1)=(((a1E f body).length:Nat):Int):=by rw[a0C (by omega)];simp[a1E]
 have v:wrap .i64 ((body:Nat):Int)=(body:Int):=a0C (by omega);unfold a7P;simp only[O,cF,P,Q,oB,I,K,j,cT];rw[k,e _ g];simp only[oB,n1,n2,E,F,G,H,Y,w2,Z,w4,w5]
 erw[a]
 simp only[oB,i,a3w,z0,cF,a1I,a4b,b,L,m,M,N,a03,cT,tN,c,c3R (show short (hb f body)by unfold short;omega),s,X];rw[b5G,decide_eq_true r];simp only[oB,bT,cF,w,v];rfl
@[reducible] def PZ:Type:=Sub×List Nat
def c6G(n:Int)(p:PZ):Prop:=SmallS p.1∧(a2l p.1 n).isSome=true∧(p.1.1≠0∧p.1.1≠1→PartsOk p.1.2.2.2.2.2.2.2.2.2.1 n ((p.1.2.2.2.2.2.2.2.2.1.length:Nat):Int) p.1.2.2.2.2.2.2.2.2.2.2.1 p.2)
def a0O(l:List PZ):List Int:=l.flatMap fun p=>a8k p.1 p.2
theorem c2d(l:List PZ):a1x (a0O l):=b4C fun _=>c8N _ _
theorem c2e(x:a1q)(all:List Sub)(l:all.length≤8):∀(rest done:List Sub)(L:List Int),done++rest=all→(∀s∈rest,SmallS s∧(a2l s x.2.1).isSome=true)→L.length+700000*rest.length<40000000→
  ∃zs:List PZ,zs.map (·.1)=rest∧(∀p∈zs,c6G x.2.1 p)∧(a0O zs).length≤700000*rest.length∧((∀s∈rest,∃c,a4e (s,x.2.1)=some (c:Int))∧some (((a0O zs).length:Nat):Int)=rest.foldr (fun s a=>a.bind fun a=>(a4e (s,x.2.1)).bind fun c=>some (c+a)) (some 0))∧
   y0s a8w (all,(all.length:Int),(done.length:Int),wL L,x,())=some (.inl (wL (L++a0O zs),x,()))
 | [],done,L,hd,_,_=>by
  have e:done=all:=by simp_all
  subst e;refine⟨[],rfl,by simp,by simp[a0O],⟨by simp,by rfl⟩,?_⟩;simp_all[a0E,a8w,a0O]
 |s::rest,done,L,hd,h,hL=>by
  obtain⟨b,k⟩:=h s (by simp);rw[lC]at hL;obtain⟨f,d,i,q,j⟩:=c8O b k (L:=L) (by omega);obtain⟨zs,k1,k2,k3,⟨r,o⟩,k6⟩:=c2e x all l rest (done++[s]) (L++a8k s f) (by simp_all) (fun t n=>h t (by grind)) (by grind);have g:done.length<all.length:=by grind
  have m:m0k all (done.length:Int)=some s:=by grind[a0D]
  refine⟨(s,f)::zs,by grind,fun p hp=>?_,?_,⟨fun t n=>?_,?_⟩,?_⟩;rcases mC.1 hp with rfl|hp;exact⟨b,k,j⟩;simp_all
  grind[a0O]
  grind
  simp only[List.foldr_cons,←o,oB,i];simp[a0O];have z0:((0:Int) != 0)=false:=rfl;rw[a0F (s':=(all,(all.length:Int),(((done++[s]).length:Nat):Int),wL (L++a8k s f),x,())) (by
   simp only[a8w,dlt g,cT,m,oB,d,z0,cF,a0B (show done.length<1000000 by omega)]
   simp)]
  simp_all[a0O]
def a4Q(k:Nat):Nat:=(8-k%8)%8
def a2G(L:List Int):List Int:=L++a00 (a4Q L.length) 0
theorem c0K:∀(k:Nat)(L:List Int),a4Q L.length=k→L.length+k<900000000→y0s a3m (wL L,())=some (wL (L++a00 k 0),())
 |k,L,hk,hL=>by
  have f:=(a5Q L).1;have h:a26 (wL L).2.1 8=((L.length%8:Nat):Int):=by grind
  unfold a4Q at hk;cases k with
  |zero=>
   grind[a0E,a3m]
  |succ k=>
   have hb:(((L.length%8:Nat):Int) != 0)=true:=by grind
   rw[a0F (s':=(wL (L++[0]),())) (by
    simp only[a3m,h,hb,cT,b9J (show L.length<1000000000 by omega),oB])]
   rw[c0K k (L++[0]) (by grind[a4Q]) (by grind)]
   grind
theorem c8Q(h:L.length<800000000):a4U (wL L)=some (wL (a2G L)):=by
 unfold a4U;rw[c0K _ L rfl (by unfold a4Q;omega)];rfl
def a8O(L:List Int):List Int:=(wL (a2G L)).1
theorem b7s(L:List Int):(a8O L).length=(L.length+7) / 8∧8*(a8O L).length=(a2G L).length:=by
 grind[a5Q,a2G,a8O,a4Q]
def a8Z(f:a1q)(L:List Int):List Int:=a1E f (a8O L).length++a8O L
def a6z(f:a1q)(L:List Int):List Int:=a8Z f L++[a4i (a8Z f L) / 256,a4i (a8Z f L)%256]
theorem b9b{f:a1q}(g:frP f)(h:L.length≤5600000):(a8Z f L).length≤700700∧(a8O L).length≤700000:=by
 grind[b7s,c3S,a8Z,a1E]
theorem c3T{f:a1q}(j:a4k f=some true)(d:frP f)(e:f.2.2.2.2.1.length≤8)(m:∀s∈f.2.2.2.2.1,SmallS s∧(a2l s f.2.1).isSome=true):
  ∃zs:List PZ,zs.map (·.1)=f.2.2.2.2.1∧(∀p∈zs,c6G f.2.1 p)∧(a0O zs).length≤5600000∧
   some (((a0O zs).length:Nat):Int)=f.2.2.2.2.1.foldr (fun s a=>a.bind fun a=>(a4e (s,f.2.1)).bind fun c=>some (c+a)) (some 0)∧a4m f=some (a6z f (a0O zs),0):=by
 obtain⟨zs,k1,k2,k3,⟨-,n⟩,k6⟩:=c2e f f.2.2.2.2.1 e f.2.2.2.2.1 [] [] rfl m (by grind);have b:(a0O zs).length≤5600000:=by omega
 refine⟨zs,k1,k2,b,n,?_⟩;rw[a09,a22]at k6;have hp:=b9b d b;have k:wL []=(([]:List Int),(0:Int),()):=rfl;rw[k]at k6;have g:(a2G (a0O zs)).length<1000000000:=by
  grind[b7s]
 have l:=b8y (a8Z f (a0O zs));have h:a1E f (a8O (a0O zs)).length++a8O (a0O zs)=a8Z f (a0O zs):=rfl;have i:(a1E f (a8O (a0O zs)).length).length+(a8O (a0O zs)).length=(a8Z f (a0O zs)).length:=by grind
 unfold a4m;simp only[j,oB,bT,cF]
 erw[k6]
 simp only[oB,c8Q (show(a0O zs).length<800000000 by omega),c8P g]
 erw[c6D d (show(a8O (a0O zs)).length≤1048576 by omega)]
 simp only[oB,a06];rw[show(wL (a2G (a0O zs))).1=a8O (a0O zs)from rfl];rw[h,a0W (by omega),cT,c0I (show short (a8Z f (a0O zs))by unfold short;omega)]
 simp
 rw[a0N (by omega),d7h l];simp only[oB];rw[a0W (by grind),cT];rfl
end Go.Ab
