/- Part of the proof: PA. Conditions: as each statement tells. -/
import Derived.KernelRfl
import Derived.Test.YtpckgfbgijdfnaaGreatDoorMF
noncomputable section
set_option linter.unusedSimpArgs false
set_option linter.unusedVariables false
open BitVec renaming ofInt→a04,ofInt_natCast→a24,toNat_ofNat→a29,toNat_or→a72,toNat_ofInt→a82,toNat_and→a93
open Bool renaming and_self→a03,not_eq_true'→a33,not_false→a36,true_and→a39,and_eq_true_iff→a76,or_eq_false_iff→a77,or_eq_true→a98,eq_iff_iff→a99
open Int renaming eq_ofNat_of_zero_le→a01,natCast_dvd_natCast→a20,tmod→a26,cast_ofNat_Int→a30,toNat→a42,tmod_eq_emod_of_nonneg→a43,dvd_mul_of_dvd_left→a46,mul_nonneg→a47,tdiv→a54,tdiv_eq_ediv_of_nonneg→a61,mul_fdiv_cancel_left→a64,dvd_add_left→a66,toNat_of_nonneg→a79,fdiv→a80,natCast_nonneg→a83,dvd_zero→a86,emod_eq_of_lt→a89,natCast_add→b01
open List renaming replicate→a00,drop_eq_getElem_cons→a02,getElem_mem→a05,append_eq→a06,all_cons→a07,nil_append→a09,take_length→a19,length_nil→a22,drop_zero→a28,zipWith→a31,mem_of_mem_take→a34,mem_of_mem_drop→a35,length→a37,append_nil→a40,length_eq_zero_iff→a45,take_of_length_le→a48,take_succ_eq_append_getElem→a49,drop_length→a50,eq_nil_or_concat→a51,length_drop→a52,replicate_succ'→a53,set_cons_zero→a60,sum_cons→a62,flatMap_cons→a63,cons_append→a65,set_append_right→a73,length_singleton→a74,singleton_append→a75,getD→a87,length_take→a94,not_mem_nil→a96,mem_flatMap→a97,foldl_cons→b00,take→b02
open Nat renaming pow_le_pow_right→a08,two_pow_pos→a16,lt_trans→a18,mod_eq_of_lt→a23,mul_le_mul_right→a25,le_refl→a27,div_le_self→a32,lt_of_le_of_lt→a38,mod_lt→a41,pow_dvd_pow→a55,sub_self→a56,mul_comm→a57,testBit_two_pow_mul_add→a58,two_pow_add_eq_or_of_lt→a59,div_eq_of_lt→a67,pow_succ→a68,div_div_eq_div_mul→a69,div_add_mod→a70,min_eq_left→a71,div_mul_le_self→a78,one_le_two_pow→a81,le_of_lt→a84,add_zero→a85,or_lt_two_pow→a88,add_mod_right→a90,mul_add→a91,mul_one→a92,lt_of_not_le→a95
open Option renaming map_eq_some_iff→a21,bind_eq_some_iff→a44
namespace Go.Ab
variable {L P R c d g ks l part r row t wm:List Int}{N a b i j m o v w:Nat}{k lag n warm x:Int}{zn:List Nat}
open IntKind(wrap)
section
variable {σ β:Type} {f:σ→Option (σ ⊕ β)}
theorem b6t:∀(n m:Nat)(s:σ){b:β},j0z f n s=some b→j0z f (n+m) s=some b
 |0,_,s,b,h=>by simp[j0z]at h
 |n+1,m,s,b,h=>by
  rw[show n+1+m=n+m+1 from by omega];simp only[j0z]at h⊢
  split at h
  cases h;rename_i s' g;exact b6t n m s' h;exact h
theorem c2F{n:Nat}{s:σ}{b b':β}(h:j0z f n s=some b)(k:j0z f m s=some b'):b=b':=by
 have a:=b6t n m s h;have g:=b6t m n s k;rw[Nat.add_comm,a]at g;exact Option.some.inj g
theorem c9A{n:Nat}{s:σ}{b:β}(h:j0z f n s=some b):v0v f s=some b:=by
 unfold v0v;have g:∃n b,j0z f n s=some b:=⟨n,b,h⟩;rw[dif_pos g];exact congrArg some (c2F g.choose_spec.choose_spec h)
theorem c2d{n:Nat}{s:σ}{b:β}(h:j0z f n s=some b):y0s f s=some b:=by
 unfold y0s;split;rename_i g hb;rw[c2F hb h];exact c9A h
theorem c2G{s:σ}(h:∀n,j0z f n s=none):y0s f s=none:=by
 unfold y0s;rw[h 400];show v0v f s=none;unfold v0v;rw[dif_neg]
 rintro⟨n,b,g⟩
 rw[h n]at g;cases g
theorem a0F{s:σ}{b:β}(h:f s=some (.inr b)):y0s f s=some b:=c2d (n:=1) (by simp[j0z,h])
theorem a0E{s s':σ}(h:f s=some (.inl s')):y0s f s=y0s f s':=by
 by_cases hx:∃n b,j0z f n s'=some b
 obtain⟨n,b,hb⟩:=hx;rw[c2d hb];exact c2d (n:=n+1) (by simp[j0z,h,hb])
 ·have g:∀n,j0z f n s'=none:=fun n=>by
   cases hn:j0z f n s' with
   |none=>rfl
   |some b=>exact absurd ⟨n,b,hn⟩ hx
  rw[c2G g];refine c2G fun n=>?_
  cases n with
  |zero=>rfl
  |succ n=>simp[j0z,h,g n]
theorem c5Z(S:Nat→σ)(n:Nat){b:β}(g:∀i,i<n→f (S i)=some (.inl (S (i+1))))(h:f (S n)=some (.inr b)):∀(k:Nat),k≤n→y0s f (S (n-k))=some b
 |0,_=>a0F h
 |k+1,hk=>by
  rw[a0E (g (n-(k+1)) (by omega)),show n-(k+1)+1=n-k from by omega];exact c5Z S n g h k (by omega)
theorem a1D(S:Nat→σ)(n:Nat){b:β}(g:∀i,i<n→f (S i)=some (.inl (S (i+1))))(h:f (S n)=some (.inr b)):y0s f (S 0)=some b:=by
 have:=c5Z S n g h n (a27 _)
 rwa [a56]at this
end
theorem a0C{n:Int}(h:-9223372036854775808≤n∧n≤9223372036854775807):wrap .i64 n=n:=by
 simp only[wrap,IntKind.bits,IntKind.signed]
 simp
 split<;>omega
theorem a0M{n:Int}(h:0≤n∧n<18446744073709551616):wrap .u64 n=n:=by
 simp only[wrap,IntKind.bits,IntKind.signed]
 simp
 omega
theorem a8C(n:Int):wrap .u8 n=n%256:=by
 simp[wrap,IntKind.bits,IntKind.signed]
def leB:Nat→Nat→List Int
 |0,_=>[]
 |k+1,n=>((n%256:Nat):Int)::leB k (n / 256)
theorem b1w:∀k n,(leB k n).length=k
 |0,_=>rfl
 |k+1,n=>by simp[leB,b1w k]
theorem b9D:∀(k n:Nat),leB (k+1) n=leB k n++[((n / 256^k%256:Nat):Int)]
 |0,n=>by simp[leB]
 |k+1,n=>by
  rw[leB,b9D k (n / 256),leB,a69,a68,a57 (256^k)];rfl
theorem b1Q(x y:Int):v0s x y=min x y:=by
 simp only[v0s,cond_eq_ite,dT]
 split<;>omega
theorem b8x(x y:Int):v0r x y=max x y:=by
 simp only[v0r,cond_eq_ite,dT]
 split<;>omega
theorem a0T{n:Nat}(h:n<2147483648):lim n=true:=by simp[lim,h]
section
variable {α A σ β:Type}
def a2X(g:A→α→A ⊕ β):List α→A→A ⊕ β
 | [],a=>.inl a
 |x::r,a=>match g a x with
  |.inl a'=>a2X g r a'
  |.inr b=>.inr b
def a8D(fin:A→β):A ⊕ β→β
 |.inl a=>fin a
 |.inr b=>b
theorem b5V{f:σ→Option (σ ⊕ β)}(l:List α)(S:Nat→A→σ)(g:A→α→A ⊕ β)(I:Nat→A→Prop)(e:A→β)
  (d:∀i (h:i<l.length) a,I i a→(∀a',g a l[i]=.inl a'→f (S i a)=some (.inl (S (i+1) a'))∧I (i+1) a')∧(∀b,g a l[i]=.inr b→f (S i a)=some (.inr b)))
  (c:∀a,I l.length a→f (S l.length a)=some (.inr (e a))):∀(k i:Nat)(a:A),i+k=l.length→I i a→y0s f (S i a)=some (a8D e (a2X g (l.drop i) a))
 |0,i,a,hi,ha=>by
  obtain rfl:i=l.length:=by omega
  rw[a50];exact a0F (c a ha)
 |k+1,i,a,hi,ha=>by
  have j:i<l.length:=by omega
  rw[a02 j];obtain⟨m,n⟩:=d i j a ha;simp[a2X];cases hg:g a l[i]with
  |inl a'=>
   obtain⟨o,p⟩:=m a' hg;rw[a0E o];exact b5V l S g I e d c k (i+1) a' (by omega) p
  |inr b=>exact a0F (n b hg)
theorem a1N{f:σ→Option (σ ⊕ β)}(l:List α)(S:Nat→A→σ)(g:A→α→A ⊕ β)(I:Nat→A→Prop)(k:A→β)
  (d:∀i (h:i<l.length) a,I i a→(∀a',g a l[i]=.inl a'→f (S i a)=some (.inl (S (i+1) a'))∧I (i+1) a')∧(∀b,g a l[i]=.inr b→f (S i a)=some (.inr b)))
  (c:∀a,I l.length a→f (S l.length a)=some (.inr (k a))){a:A}(e:I 0 a):y0s f (S 0 a)=some (a8D k (a2X g l a)):=by
 have:=b5V l S g I k d c l.length 0 a (by omega) e
 simp_all
theorem a2s{f:σ→Option (σ ⊕ β)}(l:List α)(S:Nat→σ)(p:α→Bool){bt bf:β}
  (k:∀i (h:i<l.length),p l[i]=true→f (S i)=some (.inl (S (i+1))))(b:∀i (h:i<l.length),p l[i]=false→f (S i)=some (.inr bf))
  (g:f (S l.length)=some (.inr bt)):y0s f (S 0)=some (bif l.all p then bt else bf):=by
 have h:=a1N (A:=Unit) l (fun i _=>S i) (fun _ x=>bif p x then .inl ()else .inr bf) (fun _ _=>True) (fun _=>bt) (fun i h a _=>?_) (fun _ _=>g) (a:=()) trivial
 ·rw[h];congr 1;clear h k b g
  induction l with
  |nil=>rfl
  |cons x l ih=>
   simp[a2X];cases p x with
   |true=>simp_all
   |false=>rfl
 grind
end
theorem a0D{α:Type}{l:List α}{i:Nat}(h:i<l.length):m0k l (i:Int)=some l[i]:=by
 simp_all[m0k]
def a0A(x:Int):Bool:=decide (-1073741824≤x)&&decide (x<1073741824)
theorem a1O{x:Int}:a0A x=true↔-1073741824≤x∧x<1073741824:=by simp[a0A]
def short{α:Type}(l:List α):Prop:=l.length<1000000
theorem a0B{i:Nat}(h:i<1000000):wrap .i64 ((i:Int)+1)=((i+1:Nat):Int):=by
 grind[a0C]
theorem dlt{n:Nat}(h:i<n):decide ((i:Int)<(n:Int))=true:=by simp_all
theorem dge(n:Nat):decide ((n:Int)<(n:Int))=false:=by simp
theorem a4L{l:List Int}(a:short l):a2E l=some (l.all a0A):=by
 unfold a2E
 have:=a2s (f:=a2J) l (fun i=>(l,(l.length:Int),(i:Int),())) a0A (bt:=Sum.inl ()) (bf:=Sum.inr (false,()))
  (fun i h hp=>by
   have hp:=a1O.1 hp;have g:decide (l[i] < -1073741824)=false:=by simp_all
   have k:decide (l[i]≥1073741824)=false:=by simp_all
   simp only[a2J,dlt h,cT,a0D h,oB,g,k,cF,a0B (a18 h a)])
  (fun i h hp=>by
   simp only[a2J,dlt h,cT,a0D h,oB]
   grind[a0A])
  (by simp[a2J])
 grind
theorem a6G(x:Int):a5r x=some (a0A x):=by
 grind[a5r,a0A]
theorem a8E(x:Int):a7M x=some (a0A x):=by
 grind[a7M,a0A]
theorem a5w(x:Int):a6w x=some (a0A x):=by
 grind[a6w,a0A]
theorem b5W(x:Int):a5s x=some (a0A x):=by
 grind[a5s,a0A]
theorem a6s(g:short l):a2K l=some (l.all a0A):=by
 unfold a2K
 have:=a2s (f:=a3k) l (fun i=>(l,(l.length:Int),(i:Int),())) a0A (bt:=Sum.inl ()) (bf:=Sum.inr (false,()))
  (fun i h hp=>by simp[a3k,a0D h,a6G,hp,a0B (a18 h g),h])
  (fun i h hp=>by simp_all[a3k,a0D,a6G])
  (by simp[a3k])
 grind
theorem b4V(g:short l):a4F l=some (l.all a0A):=by
 unfold a4F
 have:=a2s (f:=a4j) l (fun i=>(l,(l.length:Int),(i:Int),())) a0A (bt:=Sum.inl ()) (bf:=Sum.inr (false,()))
  (fun i h hp=>by simp[a4j,a0D h,a8E,hp,a0B (a18 h g),h])
  (fun i h hp=>by simp_all[a4j,a0D,a8E])
  (by simp[a4j])
 grind
theorem b4r(g:short l):a5D l=some (l.all a0A):=by
 unfold a5D
 have:=a2s (f:=a3I) l (fun i=>(l,(l.length:Int),(i:Int),())) a0A (bt:=Sum.inl ()) (bf:=Sum.inr (false,()))
  (fun i h hp=>by simp[a3I,a0D h,a5w,hp,a0B (a18 h g),h])
  (fun i h hp=>by simp_all[a3I,a0D,a5w])
  (by simp[a3I])
 grind
theorem a7H(h:short l):a2S l=some (l.all a0A):=by
 have e:b4O=a2J:=rfl
 have:a2S l=a2E l:=by rfl
 simp_all[a4L]
def c0Q(x:Int):Bool:=decide (-32768≤x)&&decide (x<32768)
def b0L(c:List Int)(s:Int):Bool:=decide (1≤c.length)&&(decide (c.length≤32)&&(decide (0≤s)&&(decide (s≤15)&&c.all c0Q)))
theorem b0D{c:List Int}{s:Int}(a:short c):a4O (c,s)=some (b0L c s):=by
 have:=a2s (f:=a5C) c (fun i=>(c,(c.length:Int),(i:Int),())) c0Q (bt:=Sum.inl ()) (bf:=Sum.inr (false,()))
  (fun i h hp=>by
   simp[c0Q]at hp;have g:¬ c[i] < -32768:=by omega
   have k:¬ c[i]≥32768:=by omega
   simp[a5C,a0D h,a0B (a18 h a),h,g,k])
  (fun i h hp=>by
   grind[c0Q,a5C,a0D])
  (by simp[a5C])
 simp at this;unfold a4O b0L
 grind
def b6u(x:Int):Bool:=decide (-64≤x)&&decide (x≤64)
def b2C(lag:Int)(t:List Int):Bool:=decide (2≤lag)&&(decide (lag≤1024)&&t.all b6u)
theorem b5E(g:t.length=3):a8P (lag,t)=some (b2C lag t):=by
 have:=a2s (f:=a7r) t (fun i=>(t,(i:Int),())) b6u (bt:=Sum.inl ()) (bf:=Sum.inr (false,()))
  (fun i h hp=>by
   simp[b6u]at hp
   grind[a7r,a0D,a0B])
  (fun i h hp=>by
   grind[b6u,a7r,a0D])
  (by simp_all[a7r])
 simp at this;unfold a8P b2C
 grind
def stageB(s:Int×(Int×Unit)):Bool:=decide (1≤s.1)&&(decide (s.1≤32)&&(decide (0≤s.2.1)&&decide (s.2.1≤8)))
def a9Q(l:List (Int×Int×Unit)):Bool:=decide (l.length≤3)&&l.all stageB
theorem b1R(s:Int×(Int×Unit)):a7s s=some (stageB s):=by
 grind[a7s,stageB]
theorem b4s{l:List (Int×Int×Unit)}(g:short l):a7K l=some (a9Q l):=by
 have:=a2s (f:=a6u) l (fun i=>(l,(l.length:Int),(i:Int),())) stageB (bt:=Sum.inl ()) (bf:=Sum.inr (false,()))
  (fun i h hp=>by simp[a6u,a0D h,b1R,hp,a0B (a18 h g),h])
  (fun i h hp=>by simp_all[a6u,a0D,b1R])
  (by simp[a6u])
 simp at this;unfold a7K a9Q
 grind
@[reducible] def W(n:Int):Int:=wrap .i64 n
theorem a8F(n:Int):wrap .i64 n=Int.bmod n 18446744073709551616:=by
 grind[wrap,IntKind.bits,IntKind.signed]
theorem b7Y{n:Int}(h:a0A n=true):W n=n:=by
 grind[a1O,a0C]
def a4t(guess:List Int→Int):List Int→List Int→Option (List Int)
 | [],out=>some out
 |x::r,out=>bif a0A (W (x+guess out))then a4t guess r (out++[W (x+guess out)])else none
def b4W{β:Type}(guess:List Int→Int)(bad:β)(out:List Int)(x:Int):List Int ⊕ β:=bif a0A (W (x+guess out))then .inl (out++[W (x+guess out)])else .inr bad
theorem b3G{β:Type}(h:List Int→Int)(g:β)(f:List Int→β):∀(l out:List Int),a8D f (a2X (b4W h g) l out)=match a4t h l out with|some r=>f r|none=>g
 | [],out=>rfl
 |x::l,out=>by
  simp[a2X,b4W,a4t];cases a0A (W (x+h out))with
  |true=>simp_all[b3G]
  |false=>rfl
theorem b3H(g:List Int→Int):∀(l out r:List Int),out.all a0A=true→a4t g l out=some r→r.all a0A=true∧r.length=out.length+l.length
 | [],out,r,h,e=>by simp_all[a4t]
 |x::l,out,r,h,e=>by
  simp[a4t]at e;cases hw:a0A (W (x+g out))with
  |true=>
   rw[hw]at e;obtain⟨f,k⟩:=b3H g l _ r (by simp_all) e
   grind
  |false=>simp_all
def a5o:Option (List Int)→List Int×Int
 |some r=>(r,0)
 |none=>([],6)
def atB(out:List Int)(i:Nat):Int:=out.getD (out.length-i) 0
def a6H(o:Nat)(out:List Int):Int:=match o with
 | 1=>atB out 1
 | 2=>2*atB out 1-atB out 2
 | 3=>3*atB out 1-3*atB out 2+atB out 3
 | 4=>4*atB out 1-6*atB out 2+4*atB out 3-atB out 4
 |_=>0
theorem b3I{out:List Int}(hi:1≤i)(h:i≤out.length)(g:short out):a1m ((i:Int),out)=some (atB out i,out):=by
 unfold a1m;have g:out.length<1000000:=g
 grind[a0C,a0D,atB]
theorem c2e{out:List Int}(e:o≤4)(h:o≤out.length)(a:short out):∃g,a9V (out,(o:Int))=some g∧∀x,W (x+g)=W (x+a6H o out):=by
 have f:=fun(h':1≤out.length)=>b3I (i:=1) (by omega) h' a;have k:=fun(h':2≤out.length)=>b3I (i:=2) (by omega) h' a;have b:=fun(h':3≤out.length)=>b3I (i:=3) (by omega) h' a;have c:=fun(h':4≤out.length)=>b3I (i:=4) (by omega) h' a;simp at f k b c;unfold a9V;have d:o=0∨o=1∨o=2∨o=3∨o=4:=by omega
 rcases d with rfl|rfl|rfl|rfl|rfl;exact⟨0,rfl,fun x=>rfl⟩;exact⟨_,by simp[f (by omega)];rfl,fun x=>rfl⟩;refine⟨_,by simp[f (by omega),k (by omega)];rfl,fun x=>?_⟩;simp_all[a8F,a6H];refine⟨_,by simp[f (by omega),k (by omega),b (by omega)];rfl,fun x=>?_⟩;simp_all[a8F,a6H];refine⟨_,by simp[f (by omega),k (by omega),b (by omega),c (by omega)];rfl,fun x=>?_⟩;simp_all[a8F,a6H]
theorem a0U{n:Nat}(h:n<1000000):lim n=true:=a0T (by omega)
theorem c3u{warm rest:List Int}(u:o≤4)(x:warm.length=o)(w:rest.length<100000):
  b1c (warm,rest,(o:Int))=some (a5o (bif warm.all a0A&&rest.all a0A then a4t (a6H o) rest warm else none)):=by
 have c:short warm:=by unfold short;omega
 have m:short rest:=by unfold short;omega
 unfold b1c;have p:¬ (o:Int)<0:=by omega
 have q:¬ (o:Int) > 4:=by omega
 have r:(((warm.length:Nat):Int) != (o:Int))=false:=by simp_all
 simp only[p,q,r,decide_false,cF,oB,a7H c,a7H m];cases hw1:warm.all a0A with
 |false=>rfl
 |true=>
  simp only[bT,cF,oB,a39];cases hw2:rest.all a0A with
  |false=>rfl
  |true=>
   simp[a0U c]
   have:=a1N (f:=a8b) rest (fun i out=>((o:Int),rest,(rest.length:Int),(i:Int),out,())) (b4W (a6H o) (Sum.inr ((6:Int),([]:List Int),())))
    (fun i out=>o≤out.length∧out.length≤o+i) (fun out=>Sum.inl (out,()))
    (fun i h out s=>by
     have j:i<1000000:=by omega
     have l:short out:=by unfold short;omega
     obtain⟨g,t,d⟩:=c2e u s.1 l;have e:wrap .i64 (rest[i]+g)=W (rest[i]+a6H o out):=d _;have k:a2S [W (rest[i]+a6H o out)]=some (a0A (W (rest[i]+a6H o out))):=by rw[a7H (by simp[short])];simp
     simp only[a8b,dlt h,cT,a0D h,oB,t,e,k,b4W];cases hb:a0A (W (rest[i]+a6H o out))with
     |true=>
      simp only[cT,bT,cF,a0U (show out.length+1<1000000 by omega),a0B j];refine⟨fun v n=>?_,fun b hb=>(by grind)⟩;simp at n;subst n;exact⟨rfl,by grind,by grind⟩
     |false=>
      simp)
    (fun out _=>by simp[a8b]) (a:=warm) ⟨by omega,by omega⟩
   simp[b3G]at this;rw[this];cases a4t (a6H o) rest warm<;>rfl
def c4a(out:List Int):List Int→Nat→Int→Int
 | [],_,acc=>acc
 |c::r,i,acc=>bif decide (i<out.length)then c4a out r (i+1) (W (acc+W (c*atB out (i+1))))else acc
def b1S(c:List Int)(s:Int)(out:List Int):Int:=A0o .i64 (c4a out c 0 0) s
theorem d3z{out:List Int}(h:i<out.length)(g:short out):m0k out (wrap .i64 (wrap .i64 (((out.length:Nat):Int)-1)-(i:Int)))=some (atB out (i+1)):=by
 have g:out.length<1000000:=g
 grind[a0C,a0D,atB]
theorem b7Z{out c:List Int}{s:Int}(f:short out)(a:short c):∀(k i:Nat)(acc:Int),i+k=c.length→
  y0s a3l (out,s,acc,c,(c.length:Int),(i:Int),())=some (s,c4a out (c.drop i) i acc,())
 |0,i,acc,h=>by
  obtain rfl:i=c.length:=by omega
  simp_all[a0F,a3l,c4a]
 |k+1,i,acc,h=>by
  have g:i<c.length:=by omega
  have e:out.length<1000000:=f;have d:c.length<1000000:=a;rw[a02 g,c4a];have j:wrap .i64 (((out.length:Nat):Int)-1)=((out.length:Nat):Int)-1:=a0C (by omega);have l:wrap .i64 (((out.length:Nat):Int)-1-(i:Int))=((out.length:Nat):Int)-1-(i:Int):=a0C (by omega)
  by_cases hi:i<out.length
  have b:decide (wrap .i64 (wrap .i64 (((out.length:Nat):Int)-1)-(i:Int))<0)=false:=by grind
  simp[hi];rw[a0E (s':=(out,s,W (acc+W (c[i]*atB out (i+1))),c,(c.length:Int),((i+1:Nat):Int),())) (by
   simp only[a3l,dlt g,cT,a0D g,oB,b,cF,d3z hi f,a0B (show i<1000000 by omega)])]
  exact b7Z f a k (i+1) _ (by omega);have b:decide (wrap .i64 (wrap .i64 (((out.length:Nat):Int)-1)-(i:Int))<0)=true:=by grind
  simp[hi];simp_all[a0F,a3l,a0D]
theorem b6v{out:List Int}{s:Int}(g:short out)(h:short c)(f:0≤s):a4Q (out,c,s)=some (b1S c s out):=by
 have:=b7Z (s:=s) g h c.length 0 0 (by omega)
 grind[a4Q,b1S]
def b4t(warm rest c:List Int)(s:Int):Option (List Int):=bif warm.all a0A&&rest.all a0A then a4t (b1S c s) rest warm else none
theorem b5X{warm rest:List Int}{s:Int}(o:b0L c s=true)(w:warm.length=c.length)(v:rest.length<100000):
  a7t (warm,rest,c,s)=some (a5o (b4t warm rest c s)):=by
 have g:=o;simp only[b0L,bA,dT]at g;have k:short c:=by unfold short;omega
 have m:short warm:=by unfold short;omega
 have l:short rest:=by unfold short;omega
 unfold a7t;have q:(((warm.length:Nat):Int) != ((c.length:Nat):Int))=false:=by simp_all
 simp only[b0D k,o,oB,bT,cF,q,a6s m,a6s l,b4t];cases hw1:warm.all a0A with
 |false=>rfl
 |true=>
  simp only[bT,cF,oB,a39];cases hw2:rest.all a0A with
  |false=>rfl
  |true=>
   have p:wrap .i64 (((warm.length:Nat):Int)+((rest.length:Nat):Int))=((warm.length+rest.length:Nat):Int):=by grind[a0C]
   have r:(0:Int)≤((warm.length+rest.length:Nat):Int):=by omega
   simp only[bT,cF,cT,p,r,decide_true,tN,a0U (show warm.length+rest.length<1000000 by omega),a0U (show 0+warm.length<1000000 by omega),a03,a06,a09]
   have:=a1N (f:=a6W) rest (fun i out=>(c,s,rest,(rest.length:Int),(i:Int),out,())) (b4W (b1S c s) (Sum.inr ((6:Int),([]:List Int),())))
    (fun i out=>out.length≤warm.length+i) (fun out=>Sum.inl (out,()))
    (fun i h out u=>by
     have d:i<1000000:=by omega
     have j:short out:=by unfold short;omega
     have e:wrap .i64 (b1S c s out+rest[i])=W (rest[i]+b1S c s out):=by grind
     simp only[a6W,dlt h,cT,a0D h,oB,b6v j k g.2.2.1,e,a6G,b4W];cases hb:a0A (W (rest[i]+b1S c s out))with
     |true=>
      simp only[cT,bT,cF,a0U (show out.length+1<1000000 by omega),a0B d];refine⟨fun t n=>?_,fun b hb=>(by grind)⟩;simp at n;subst n;exact⟨rfl,by grind⟩
     |false=>
      simp)
    (fun out _=>by simp[a6W]) (a:=warm) (by omega)
   simp[b3G]at this;rw[this];cases a4t (b1S c s) rest warm<;>rfl
def c4b(out:List Int)(lag:Int):List Int→Nat→Int→Int
 | [],_,acc=>acc
 |t::r,i,acc=>c4b out lag r (i+1) (bif decide (0≤(out.length:Int)-lag-1+i)then W (acc+W (t*out.getD ((out.length:Int)-lag-1+i).toNat 0))else acc)
def b0E(lag:Int)(t:List Int)(out:List Int):Int:=A0o .i64 (c4b out lag t 0 0) 6
theorem c4c{out:List Int}{j:Int}(g:0≤j)(h:j<out.length):m0k out j=some (out.getD j.toNat 0):=by
 obtain⟨n,rfl⟩:=a01 g;simp_all[a0D]
theorem d1X{n:Nat}(h:2≤lag)(g:lag≤1024)(f:n<1000000)(hi:i<3):
  wrap .i64 (wrap .i64 (wrap .i64 ((n:Int)-lag)-1)+(i:Int))=(n:Int)-lag-1+i:=by
 grind[a0C]
theorem c8g{n:Nat}(h:j<n):(l.take n).getD j 0=l.getD j 0:=by
 simp_all
theorem a9y{l t:List Int}{lag:Int}{n:Nat}(m:n≤l.length)(j:short l)(o:t.length=3)(a:2≤lag)(b:lag≤1024):∀(k i:Nat)(acc:Int),i+k=3→
  y0s a4k (l,(n:Int),lag,acc,t,(i:Int),())=some (c4b (l.take n) lag (t.drop i) i acc,())
 |0,i,acc,h=>by
  obtain rfl:i=t.length:=by omega
  grind[a0F,a4k,c4b]
 |k+1,i,acc,h=>by
  have g:i<t.length:=by omega
  have f:decide ((i:Int)<3)=true:=by grind
  have p:l.length<1000000:=j;have d:(l.take n).length=n:=by simp_all
  have e:=d1X (n:=n) (i:=i) a b (by omega) (by omega);rw[a02 g,c4b,d]
  by_cases hp:0≤(n:Int)-lag-1+i
  have c:decide ((n:Int)-lag-1+i≥0)=true:=by simp_all
  simp only[hp,decide_true,cT];rw[c8g (show((n:Int)-lag-1+i).toNat<n by omega),a0E (s':=(l,(n:Int),lag,W (acc+W (t[i]*l.getD ((n:Int)-lag-1+i).toNat 0)),t,((i+1:Nat):Int),())) (by
   simp only[a4k,f,cT,a0D g,oB,e,c,c4c hp (show(n:Int)-lag-1+(i:Int)<(l.length:Int)by omega),a0B (show i<1000000 by omega)])]
  exact a9y m j o a b k (i+1) _ (by omega);have c:decide ((n:Int)-lag-1+i≥0)=false:=by simp_all
  simp[hp];rw[a0E (s':=(l,(n:Int),lag,acc,t,((i+1:Nat):Int),())) (by
   simp only[a4k,f,cT,a0D g,oB,e,c,cF,a0B (show i<1000000 by omega)])]
  exact a9y m j o a b k (i+1) _ (by omega)
theorem b4X{l t:List Int}{lag:Int}{n:Nat}(f:n≤l.length)(k:short l)(a:t.length=3)(h:2≤lag)(g:lag≤1024):
  a4G (l,(n:Int),lag,t)=some (b0E lag t (l.take n)):=by
 have:=a9y (t:=t) f k a h g 3 0 0 (by rfl)
 simp_all[a4G,b0E]
theorem c0R{out:List Int}(f:short out)(k:t.length=3)(h:2≤lag)(g:lag≤1024):a4G (out,(out.length:Int),lag,t)=some (b0E lag t out):=by
 simp_all[b4X]
def b4Y(rest:List Int)(lag:Int)(t:List Int):Option (List Int):=bif rest.all a0A then a4t (b0E lag t) rest []else none
theorem c4d{rest:List Int}(d:b2C lag t=true)(e:t.length=3)(m:rest.length<100000):b2l (rest,lag,t)=some (a5o (b4Y rest lag t)):=by
 have g:=d;simp only[b2C,bA,dT]at g;have k:short rest:=by unfold short;omega
 unfold b2l;simp only[b5E e,d,oB,bT,cF,b4V k,b4Y];cases hw2:rest.all a0A with
 |false=>rfl
 |true=>
  have l:(0:Int)≤((rest.length:Nat):Int):=by omega
  simp[a0U k]
  have:=a1N (f:=a8R) rest (fun i out=>(lag,rest,(rest.length:Int),(i:Int),out,t,())) (b4W (b0E lag t) (Sum.inr ((6:Int),([]:List Int),())))
   (fun i out=>out.length=i) (fun out=>Sum.inl (out,()))
   (fun i h out j=>by
    have b:i<1000000:=by omega
    have c:short out:=by unfold short;omega
    have hp:=c0R (out:=out) (t:=t) (lag:=lag) c e g.1 g.2.1;rw[j]at hp;simp only[a8R,dlt h,cT,a0D h,oB,hp,a8E,b4W];cases hb:a0A (W (rest[i]+b0E lag t out))with
    |true=>
     simp only[cT,bT,cF,a0U (show out.length+1<1000000 by omega),a0B b];simp_all
    |false=>
     simp)
   (fun out _=>by simp[a8R]) (a:=[]) rfl
  simp[b3G]at this;rw[this];cases a4t (b0E lag t) rest []<;>rfl
def c0S{β:Type}(n:Int)(bad:β)(out:List Int)(x:Int):List Int ⊕ β:=bif a0A x&&a0A (A0n .i64 x n)then .inl (out++[A0n .i64 x n])else .inr bad
def upO(n:Int)(l:List Int):Option (List Int):=bif l.all (fun x=>a0A x&&a0A (A0n .i64 x n))then some (l.map fun x=>A0n .i64 x n)else none
theorem b9c{β:Type}(n:Int)(h:β)(g:List Int→β):∀(l out:List Int),a8D g (a2X (c0S n h) l out)=match upO n l with|some r=>g (out++r)|none=>h
 | [],out=>by simp[a2X,a8D,upO]
 |x::l,out=>by
  simp only[a2X,c0S,upO,a07];cases hx:(a0A x&&a0A (A0n .i64 x n))with
  |true=>
   simp only[cT,a39];rw[b9c n h g l _];simp only[upO];cases l.all (fun x=>a0A x&&a0A (A0n .i64 x n))with
   |true=>simp
   |false=>rfl
  |false=>rfl
theorem c4e(d:0≤n)(e:n≤30)(m:l.length<100000):a9F (l,n)=some (a5o (upO n l)):=by
 have c:short l:=by unfold short;omega
 have g:¬ n<0:=by omega
 have b:¬ n > 30:=by omega
 unfold a9F;simp[g,b]
 have:=a1N (f:=a8S) l (fun i out=>(n,l,(l.length:Int),(i:Int),out,())) (c0S n (Sum.inr ((6:Int),([]:List Int),())))
  (fun i out=>out.length=i) (fun out=>Sum.inl (out,()))
  (fun i h out j=>by
   have k:i<1000000:=by omega
   simp only[a8S,dlt h,cT,a0D h,oB,b5W,c0S,g,decide_false,cF];cases hb:a0A l[i]with
   |true=>
    cases hb2:a0A (A0n .i64 l[i] n)with
    |true=>
     simp only[cT,bT,cF,oB,g,decide_false,a0U (show out.length+1<1000000 by omega),a0B k,a03];simp_all
    |false=>
     simp
   |false=>
    simp)
  (fun out _=>by simp[a8S]) (a:=[]) rfl
 simp[b9c]at this;rw[this];cases upO n l<;>rfl
@[reducible] def Fil:Type:=Int×((List Int)×((List Int)×Unit))
def a2C(x:Int):Int:=v0s (v0r x (-1073741824)) 1073741823
def c0T(x:Int):Int:=v0s (v0r x (-1048576)) 1048576
theorem c4f(x:Int):-1048576≤c0T x∧c0T x≤1048576:=by
 grind[c0T,b1Q,b8x]
def c7c:List Int→List Int→Int→Int
 |a::w,b::h,acc=>c7c w h (W (acc+W (a*b)))
 |_,_,acc=>acc
def a1j(f:Fil):Int:=a2C (A0o .i64 (c7c f.2.1 f.2.2.1 0) 16)
structure FilOk (f:Fil):Prop where
 len:f.2.1.length=f.2.2.1.length
 pos:1≤f.2.1.length
 most:f.2.1.length≤32
 rate:0≤f.1∧f.1≤8
 small:∀x∈f.2.1,-1048576≤x∧x≤1048576
theorem b9E(h:i<l.length):a87 l i 0=l[i]:=by
 simp_all
theorem b4u{f:Fil}(c:FilOk f):∀(k i:Nat)(acc:Int),i+k=f.2.1.length→
  y0s a3j (acc,(f.2.1.length:Int),(i:Int),f,())=some (c7c (f.2.1.drop i) (f.2.2.1.drop i) acc,f,())
 |0,i,acc,h=>by
  obtain rfl:i=f.2.1.length:=by omega
  rw[a50,a0F (b:=(acc,f,())) (by simp[a3j])];rfl
 |k+1,i,acc,h=>by
  have g:i<f.2.1.length:=by omega
  have a:i<f.2.2.1.length:=by rw[←c.len];omega
  have e:=c.most;rw[a02 g,a02 a,c7c];have d:decide ((0:Int)≤(i:Int))=true:=by simp
  rw[a0E (s':=(W (acc+W (f.2.1[i]*f.2.2.1[i])),(f.2.1.length:Int),((i+1:Nat):Int),f,())) (by
   simp only[a3j,dlt g,dlt a,d,cT,a03,tN,b9E g,b9E a,a0B (show i<1000000 by omega)])]
  exact b4u c k (i+1) _ (by omega)
theorem a6I{f:Fil}(h:FilOk f):a2e f=some (a1j f,f):=by
 have:=b4u h f.2.1.length 0 0 (by omega)
 simp at this;unfold a2e;simp only[this,oB,a5E];rfl
def b8y(x:Int):Int:=if 0<x then 1 else if x<0 then -1 else 0
def b2D(r:Int)(x g:Int):Int:=b8y (x-g)*2^r.toNat
def b6w(st:Int)(w h:Int):Int:=c0T (W (w+b8y h*st))
def b3J(f:Fil)(x:Int):Fil:=
 (f.1,a31 (b6w (b2D f.1 (a2C x) (a1j f))) f.2.1 f.2.2.1,a2C x::f.2.2.1.take (f.2.2.1.length-1),f.2.2.2)
theorem c4g{f:Fil}(k:FilOk f)(x:Int):FilOk (b3J f x):=by
 obtain⟨a,b,c,g,d⟩:=k;have e:(a31 (b6w (b2D f.1 (a2C x) (a1j f))) f.2.1 f.2.2.1).length=f.2.1.length:=by simp_all
 refine⟨?_,?_,?_,g,?_⟩;show(a31 _ _ _).length=(a2C x::f.2.2.1.take (f.2.2.1.length-1)).length;simp_all;show 1≤(a31 _ _ _).length;omega;show(a31 _ _ _).length≤32;omega;intro y h;have h:y∈a31 (b6w (b2D f.1 (a2C x) (a1j f))) f.2.1 f.2.2.1:=h;obtain⟨i,hi,rfl⟩:=List.mem_iff_getElem.1 h
 simp
 exact c4f _
theorem b5F(x:Int):(0<x∧b8y x=1)∨(x<0∧b8y x=-1)∨(x=0∧b8y x=0):=by
 unfold b8y;omega
theorem b9F{r:Int}(h:0≤r∧r≤8):(2:Int)^r.toNat≤256∧1≤(2:Int)^r.toNat:=by
 have:r.toNat=0∨r.toNat=1∨r.toNat=2∨r.toNat=3∨r.toNat=4∨r.toNat=5∨r.toNat=6∨r.toNat=7∨r.toNat=8:=by omega
 rcases this with e|e|e|e|e|e|e|e|e<;>rw[e]<;>decide
theorem c8h{r:Int}(h:0≤r∧r≤8)(g:-1≤x∧x≤1):A0n .i64 x r=x*2^r.toNat:=by
 have hp:=b9F h;have hb:min r.toNat 64=r.toNat:=by omega
 unfold A0n;show wrap .i64 (x*2^(min r.toNat 64))=_;rw[hb]
 have:x=-1∨x=0∨x=1:=by omega
 rcases this with rfl|rfl|rfl
 all_goals grind[a0C]
theorem c3v{f:Fil}(a:FilOk f)(x:Int):
  (bif decide (a2C x > a1j f)then bif decide (f.1<0)then(none:Option (Int×Int×Fil×Unit))else some (a2C x,A0n .i64 (1:Int) f.1,f,())
   else bif decide (a2C x<a1j f)then bif decide (f.1<0)then none else some (a2C x,wrap .i64 (0-(A0n .i64 (1:Int) f.1)),f,())
   else some (a2C x,(0:Int),f,()))=some (a2C x,b2D f.1 (a2C x) (a1j f),f,()):=by
 have d:¬ f.1<0:=by have:=a.rate;omega
 have hp:=b9F a.rate;have b:=c8h a.rate (x:=1) (by omega);rw[Int.one_mul]at b;rcases b5F (a2C x-a1j f)with⟨c,h⟩|⟨c,h⟩|⟨c,h⟩;have g:a2C x > a1j f:=by omega
 simp only[g,d,decide_true,decide_false,cT,cF,b2D,h,Int.one_mul,b];have g:¬ a2C x > a1j f:=by omega
 have k:a2C x<a1j f:=by omega
 simp only[g,k,d,decide_true,decide_false,cT,cF,b2D,h,b]
 grind[a0C]
 have g:¬ a2C x > a1j f:=by omega
 have k:¬ a2C x<a1j f:=by omega
 simp only[g,k,decide_false,cF,b2D,h,Int.zero_mul]
theorem c9B{z:List Int}(hi:i<l.length)(f:z.length=l.length):(z.take i++l.drop i).set i (z[i]'(by omega))=z.take (i+1)++l.drop (i+1):=by
 have h:(z.take i).length=i:=by grind
 have g:z.take (i+1)=z.take i++[z[i]'(by omega)]:=by simp
 rw[a73 _ _ (by omega),h,a56,a02 hi,a60,g,aA];rfl
theorem c9C{z:List Int}(hi:i<l.length)(h:z.length=l.length):a87 (z.take i++l.drop i) i 0=l[i]:=by
 grind
theorem c8i{f:Fil}(g:FilOk f)(h:i<f.2.1.length):-1048576≤f.2.1[i]∧f.2.1[i]≤1048576:=g.small _ (a05 h)
theorem c0U{f:Fil}(n:FilOk f){x1 st:Int}(t:-256≤st∧st≤256):
  y0s a2A (x1,st,(f.2.2.1.length:Int),(0:Int),f,())=some (x1,(f.1,a31 (b6w st) f.2.1 f.2.2.1,f.2.2),()):=by
 obtain⟨z,v⟩:∃z,a31 (b6w st) f.2.1 f.2.2.1=z:=⟨_,rfl⟩;have p:=n.len;have d:z.length=f.2.1.length:=by grind
 have u:=n.most
 have:=a1D (f:=a2A) (fun i=>(x1,st,(f.2.2.1.length:Int),(i:Int),(f.1,z.take i++f.2.1.drop i,f.2.2),()))
  f.2.2.1.length (b:=(x1,(f.1,z,f.2.2),())) (fun i hi=>by
   have k:i<f.2.1.length:=by omega
   have j:decide ((0:Int)≤(i:Int))=true:=by simp
   have r:(z.take i++f.2.1.drop i).length=f.2.1.length:=by grind
   have g:decide ((i:Int)<((z.take i++f.2.1.drop i).length:Int))=true:=by simp_all
   have o:z[i]'(by omega)=b6w st f.2.1[i] f.2.2.1[i]:=by grind
   have s:=c8i n k;have h:=c9B k d;rw[o]at h;simp only[a2A,dlt hi,j,g,cT,a03,tN,b9E hi,c9C k d];rcases b5F f.2.2.1[i]with⟨m,a⟩|⟨m,a⟩|⟨m,a⟩;have c:f.2.2.1[i] > 0:=m;simp[b6w,a]at h;simp only[c,decide_true,cT,oB,j,g,a03,tN,a0B (show i<1000000 by omega)];exact congrArg (fun l=>some (Sum.inl (x1,st,(f.2.2.1.length:Int),((i+1:Nat):Int),(f.1,l,f.2.2),()))) h;have c:¬ f.2.2.1[i] > 0:=by omega
   have e:f.2.1[i]+-1*st=f.2.1[i]-st:=by omega
   simp only[b6w,a,e]at h;simp only[c,m,decide_true,decide_false,cT,cF,oB,j,g,a03,tN,a0B (show i<1000000 by omega)];exact congrArg (fun l=>some (Sum.inl (x1,st,(f.2.2.1.length:Int),((i+1:Nat):Int),(f.1,l,f.2.2),()))) h;have c:¬ f.2.2.1[i] > 0:=by omega
   have q:¬ f.2.2.1[i]<0:=by omega
   have e:W (f.2.1[i]+0*st)=f.2.1[i]:=by rw[Int.zero_mul,Int.add_zero];exact a0C (by omega)
   simp only[b6w,a,e]at h;simp only[c,q,decide_false,cF,oB,j,g,cT,a03,tN,a0B (show i<1000000 by omega)];exact congrArg (fun l=>some (Sum.inl (x1,st,(f.2.2.1.length:Int),((i+1:Nat):Int),(f.1,l,f.2.2),()))) h)
  (by
   simp_all[a48,a2A])
 simp_all
theorem c5z{f:Fil}(k:FilOk f)(x g:Int):-256≤b2D f.1 x g∧b2D f.1 x g≤256:=by
 have hp:=b9F k.rate;unfold b2D;rcases b5F (x-g)with⟨-,h⟩|⟨-,h⟩|⟨-,h⟩<;>rw[h]<;>omega
theorem b7x{f:Fil}(h:FilOk f)(x:Int):a3m (f,x)=some (b3J f x):=by
 unfold a3m;have d:=c3v h x;simp only[a5E,oB,a6I h];have g:(bif decide (v0s (v0r x (-1073741824)) 1073741823 > a1j f)then bif decide (f.1<0)then(none:Option (Int×Int×Fil×Unit))else some (v0s (v0r x (-1073741824)) 1073741823,A0n .i64 (1:Int) f.1,f,())
   else bif decide (v0s (v0r x (-1073741824)) 1073741823<a1j f)then bif decide (f.1<0)then none else some (v0s (v0r x (-1073741824)) 1073741823,wrap .i64 (0-(A0n .i64 (1:Int) f.1)),f,())
   else some (v0s (v0r x (-1073741824)) 1073741823,(0:Int),f,()))=_:=d
 rw[g];simp only[oB,c0U h (c5z h _ _)];have i:f.2.2.1.length≥1:=by have:=h.pos;have:=h.len;omega
 have b:decide ((1:Int)≤((f.2.2.1.length:Nat):Int))=true:=by grind
 have e:p0h f.2.2.1 1 (f.2.2.1.length-1) f.2.2.1=f.2.2.1.take 1++f.2.2.1.take (f.2.2.1.length-1):=by
  simp_all[p0h]
 have j:(f.2.2.1.take 1++f.2.2.1.take (f.2.2.1.length-1)).length=f.2.2.1.length:=by simp_all
 have c:decide ((0:Int)<(((f.2.2.1.take 1++f.2.2.1.take (f.2.2.1.length-1)).length:Nat):Int))=true:=by grind
 simp only[b,cT,e,c];congr 1;have k:(f.2.2.1.take 1++f.2.2.1.take (f.2.2.1.length-1)).set 0 (a2C x)=a2C x::f.2.2.1.take (f.2.2.1.length-1):=by
  cases hc:f.2.2.1 with
  |nil=>simp_all
  |cons a l=>simp
 rw[k];rfl
@[reducible] def Stg:Type:=Int×(Int×Unit)
variable {st:List Stg}
theorem a8G{l:List Int}(h:short l):a1g l=some l:=by
 have g:lim (0+l.length)=true:=a0U (by unfold short at h;omega);simp_all[a1g,x0e]
def b1T(s:Stg):Fil:=(s.2.1,a00 s.1.toNat 0,a00 s.1.toNat 0,())
theorem c6a{s:Stg}(h:stageB s=true):FilOk (b1T s):=by
 simp[stageB]at h;refine⟨by rfl,by simp[b1T];omega,by simp[b1T];omega,⟨h.2.2.1,h.2.2.2⟩,fun x g=>?_⟩;simp_all[b1T]
theorem b4v{s:Stg}(h:stageB s=true):a9E s=some (b1T s,0):=by
 have g:=h;simp[stageB]at g;unfold a9E;have f:decide ((0:Int)≤s.1)=true:=by grind
 have k:decide (s.1≤s.1)=true:=by simp
 have a:lim s.1.toNat=true:=a0U (by omega);simp only[b1R,h,oB,bT,cF,f,k,a,a03,cT];rfl
def stO:List Int→List Int→Fil→Option (List Int)
 | [],done,_=>some done
 |r::rs,done,f=>bif a0A (W (a1j f+r))then stO rs (done++[W (a1j f+r)]) (b3J f (W (a1j f+r)))else none
theorem b6x:∀(l done:List Int)(f:Fil){r},stO l done f=some r→r.length=done.length+l.length
 | [],done,f,r,h=>by simp_all[stO]
 |x::l,done,f,r,h=>by
  simp[stO]at h;cases hw:a0A (W (a1j f+x))with
  |true=>rw[hw]at h;rw[b6x l _ _ h];grind
  |false=>simp_all
theorem b4Z{done:List Int}(g:done.length=i)(h:i<row.length):a87 (done++row.drop i) i 0=row[i]:=by
 grind
theorem c4h{done:List Int}(g:done.length=i)(h:i<row.length)(y:Int):(done++row.drop i).set i y=(done++[y])++row.drop (i+1):=by
 rw[a73 _ _ (by omega),g,a56,a02 h,a60,aA];rfl
theorem b5a{row b4:List Int}{b5:Int}(d:short row):∀(k i:Nat)(done:List Int)(f:Fil),i+k=row.length→done.length=i→FilOk f→
  ∃z,y0s a5F ((row.length:Int),(i:Int),b4,b5,done++row.drop i,f,())=some z∧
   match stO (row.drop i) done f with
   |some r=>z=.inl (b4,b5,r,())
   |none=>∃q,z=.inr (([]:List Int),(6:Int),q,())
 |0,i,done,f,h,hd,hf=>by
  obtain rfl:i=row.length:=by omega
  rw[a50,a40];exact⟨_,a0F (b:=Sum.inl (b4,b5,done,())) (by simp[a5F]),rfl⟩
 |k+1,i,done,f,h,hd,hf=>by
  have hi:i<row.length:=by omega
  have e:row.length<1000000:=d;have a:decide ((0:Int)≤(i:Int))=true:=by simp
  have j:(done++row.drop i).length=row.length:=by grind
  have c:decide ((i:Int)<(((done++row.drop i).length:Nat):Int))=true:=by simp_all
  have g:stO (row.drop i) done f=bif a0A (W (a1j f+row[i]))then stO (row.drop (i+1)) (done++[W (a1j f+row[i])]) (b3J f (W (a1j f+row[i])))else none:=by
   rw[a02 hi];rfl
  rw[g];cases hw:a0A (W (a1j f+row[i]))with
  |true=>
   rw[a0E (s':=((row.length:Int),((i+1:Nat):Int),b4,b5,(done++[W (a1j f+row[i])])++row.drop (i+1),b3J f (W (a1j f+row[i])),())) (by
    simp only[a5F,dlt hi,a,c,cT,a03,a6I hf,oB,tN,b4Z hd hi,a5w,hw,bT,cF,b7x hf,c4h hd hi,a0B (show i<1000000 by omega)])]
   exact b5a d k (i+1) _ _ (by omega) (by simp_all) (c4g hf _)
  |false=>
   exact⟨_,a0F (b:=Sum.inr (([]:List Int),(6:Int),done++row.drop i,())) (by
    simp only[a5F,dlt hi,a,c,cT,a03,a6I hf,oB,tN,b4Z hd hi,a5w,hw,a36]),_,rfl⟩
def lO:List Stg→List Int→Option (List Int)
 | [],row=>some row
 |s::r,row=>match stO row [] (b1T s)with
  |some row'=>lO r row'
  |none=>none
theorem c5A{s:Stg}{b4:List Int}(h:stageB s=true)(b:short row):
  ∃z,a8c k s (st,b4,(0:Int),row,())=some z∧match stO row [] (b1T s)with
   |some r=>z=.inl (st,b4,(0:Int),r,())
   |none=>∃q,z=.inr (.ret,st,([]:List Int),(6:Int),q,()):=by
 obtain⟨z,g,f⟩:=b5a (b4:=b4) (b5:=0) b row.length 0 [] (b1T s) (by omega) rfl (c6a h);simp at g f;unfold a8c;have a:((0:Int) != 0)=false:=rfl;simp[b4v h,g];cases hst:stO row [] (b1T s)with
 |some r=>
  simp_all
 |none=>
  grind
theorem b9d{st l:List Stg}{b4:List Int}(f:∀s∈l,stageB s=true):∀(n:Nat)(row:List Int),n≤l.length→short row→
  ∃z,l0f a8c l n (st,b4,(0:Int),row,())=some z∧match lO (l.take n).reverse row with
   |some r=>z=.inl (st,b4,(0:Int),r,())
   |none=>∃q,z=.inr (.ret,st,([]:List Int),(6:Int),q,())
 |0,row,_,_=>⟨_,rfl,rfl⟩
 |n+1,row,hn,hs=>by
  have h:n<l.length:=by omega
  obtain⟨z,a,g⟩:=c5A (st:=st) (k:=(n:Int)) (b4:=b4) (f _ (a05 h)) hs;have b:(l.take (n+1)).reverse=l[n]::(l.take n).reverse:=by simp
  simp[l0f,lG h,a,b,lO];cases hst:stO row [] (b1T l[n])with
  |some r=>
   rw[hst]at g;simp at g;subst g;exact b9d f n r (by omega) (by have:=b6x _ _ _ hst;unfold short at hs⊢;simp_all)
  |none=>
   grind
def b2S(rest:List Int)(st:List Stg):Option (List Int):=bif rest.all a0A then lO st.reverse rest else none
theorem c3w{rest:List Int}(a:a9Q st=true)(c:rest.length<100000):b1g (rest,st)=some (a5o (b2S rest st)):=by
 have f:=a;simp only[a9Q,bA,dT]at f;have k:short st:=by unfold short;omega
 have h:short rest:=by unfold short;omega
 unfold b1g;simp only[b4s k,a,oB,bT,cF,b4r h,b2S];cases hw:rest.all a0A with
 |false=>rfl
 |true=>
  obtain⟨z,b,g⟩:=b9d (st:=st) (b4:=[]) (lA.1 f.2) st.length rest (a27 _) h;rw[a19]at g;simp[a8G h,a0U k,b];cases hst:lO st.reverse rest with
  |some r=>
   rw[hst]at g;simp at g;subst g;rfl
  |none=>
   rw[hst]at g;obtain⟨q,rfl⟩:=g;rfl
def a6J(n warm:Int):Bool:=decide (1≤n)&&(decide (n≤4096)&&(decide (0≤warm)&&decide (warm≤n)))
theorem b4w(n warm:Int):a7L (n,warm)=some (a6J n warm):=by
 grind[a7L,a6J]
theorem d3A(h:o≤8):1≤2^o∧2^o≤256:=by
 have:o=0∨o=1∨o=2∨o=3∨o=4∨o=5∨o=6∨o=7∨o=8:=by omega
 grind
theorem c4i(h:o≤64):A0o .i64 (N:Int) (o:Int)=((N / 2^o:Nat):Int):=by
 unfold A0o;show a80 (N:Int) (2^(min (o:Int).toNat 64))=_
 grind
theorem b9G(h:o≤64)(g:N*2^o<9223372036854775808):A0n .i64 (N:Int) (o:Int)=((N*2^o:Nat):Int):=by
 unfold A0n;show wrap .i64 ((N:Int)*2^(min (o:Int).toNat 64))=_
 grind[a0C]
def b5Y(o N:Nat)(warm:Int):List Int:=
 if N%2^o=0∧warm≤((N / 2^o:Nat):Int)then(((N / 2^o:Nat):Int)-warm)::a00 (2^o-1) ((N / 2^o:Nat):Int)else[]
def a1Q(order n warm:Int):List Int:=bif a6J n warm&&(decide (0≤order)&&decide (order≤8))then b5Y order.toNat n.toNat warm else[]
theorem a2i(order n warm:Int):a3g (order,n,warm)=some (a1Q order n warm):=by
 unfold a3g a1Q;simp only[b4w,oB];cases hr:a6J n warm with
 |false=>rfl
 |true=>
  simp[a6J]at hr;simp only[bT,cF,a39]
  by_cases h1:order<0
  grind
  by_cases h2:order > 8
  grind
  obtain⟨o,rfl⟩:=a01 (show 0≤order by omega);obtain⟨N,rfl⟩:=a01 (show 0≤n by omega);have p:o≤8:=by omega
  have q:N≤4096:=by omega
  have hp:=d3A p;have m:N / 2^o*2^o≤N:=a78 N _;have l:(0:Int)≤(o:Int):=by omega
  have g8:(o:Int)≤8:=by omega
  simp only[h1,h2,l,g8,decide_true,decide_false,cF,cT,a03,oB,c4i (N:=N) (show o≤64 by omega),b9G (N:=N / 2^o) (show o≤64 by omega) (by omega),tN];have g:=a70 N (2^o);rw[a57]at g
  by_cases hm:N%2^o=0
  have k:(((N / 2^o*2^o:Nat):Int) != (N:Int))=false:=by simp_all
  by_cases hw:warm≤((N / 2^o:Nat):Int)
  have c:decide (((N / 2^o:Nat):Int)<warm)=false:=decide_eq_false (Int.not_lt.2 hw);have e:wrap .i64 (((N / 2^o:Nat):Int)-warm)=((N / 2^o:Nat):Int)-warm:=a0C (by have:=a32 N (2^o);omega);simp only[k,c,e,cF,oB,b5Y,hm,hw,and_self,if_true];have d:A0n .i64 (1:Int) (o:Int)=((2^o:Nat):Int):=by have:=b9G (N:=1) (show o≤64 by omega) (by omega);simp_all
  have:=a1D (f:=a6U) (fun i=>((o:Int),((N / 2^o:Nat):Int),(((N / 2^o:Nat):Int)-warm)::a00 i ((N / 2^o:Nat):Int),())) (2^o-1)
   (b:=((((N / 2^o:Nat):Int)-warm)::a00 (2^o-1) ((N / 2^o:Nat):Int),())) (fun i hi=>by
    have a:decide ((((((N / 2^o:Nat):Int)-warm)::a00 i ((N / 2^o:Nat):Int)).length:Int)<((2^o:Nat):Int))=true:=by
     grind
    have h:lim (((((N / 2^o:Nat):Int)-warm)::a00 i ((N / 2^o:Nat):Int)).length+1)=true:=a0U (by grind);have j:a00 i ((N / 2^o:Nat):Int)++[((N / 2^o:Nat):Int)]=a00 (i+1) ((N / 2^o:Nat):Int):=by grind[a53]
    simp only[a6U,h1,decide_false,cF,d,a,cT,h,a06,a65,j])
   (by
    have a:decide ((((((N / 2^o:Nat):Int)-warm)::a00 (2^o-1) ((N / 2^o:Nat):Int)).length:Int)<((2^o:Nat):Int))=false:=by
     simp_all
    simp only[a6U,h1,decide_false,cF,d,a])
  simp_all;have c:decide (((N / 2^o:Nat):Int)<warm)=true:=decide_eq_true (Int.not_le.1 hw);simp_all[b5Y];have k:(((N / 2^o*2^o:Nat):Int) != (N:Int))=true:=by grind
  simp only[k,cT,oB,b5Y,hm,false_and,if_false]
@[reducible] def Prt:Type:=Int×((List Int)×Unit)
variable {p:Prt}
def kB(k:Int):Bool:=(decide (0≤k)&&decide (k≤25)) || (k==31)
def a5S(p:Prt)(n warm:Int):Bool:=!((a1Q p.1 n warm).length==0)&&((a1Q p.1 n warm).length==p.2.1.length&&p.2.1.all kB)
theorem b4x(g:short p.2.1):a9D (p,n,warm)=some (a5S p n warm):=by
 have:=a2s (f:=a4E) p.2.1 (fun i=>(p.2.1,(p.2.1.length:Int),(i:Int),())) kB (bt:=Sum.inl ()) (bf:=Sum.inr (false,()))
  (fun i h hp=>by
   simp[kB]at hp
   by_cases h1:p.2.1[i]<0
   omega
   by_cases h2:p.2.1[i] > 25
   have b:p.2.1[i]=31:=by omega
   have a:(p.2.1[i] != 31)=false:=by simp_all
   simp[a4E,a0D h,h,h1,h2,a,a0B (a18 h g)];simp[a4E,a0D h,h,h1,h2,a0B (a18 h g)])
  (fun i h hp=>by
   have hp:¬ (kB p.2.1[i]=true):=by simp_all
   simp only[kB,a98,bA,dT,beq_iff_eq]at hp
   grind[a4E,a0D])
  (by simp[a4E])
 simp at this;unfold a9D a5S;simp[a2i]
 by_cases h0:(a1Q p.1 n warm).length=0
 simp_all
 ·have e:((((a1Q p.1 n warm).length:Nat):Int)==0)=false:=by simp_all
  have k:((a1Q p.1 n warm).length==0)=false:=by simp_all
  simp[e,k]
  by_cases h1:(a1Q p.1 n warm).length=p.2.1.length
  all_goals grind
@[reducible] def Sub:Type:=Int×(Int×(Int×(Int×(Int×((List Int)×((List Int)×((List Stg)×((List Int)×(Prt×((List Int)×Unit))))))))))
variable {s:Sub}
structure SmallS (s:Sub):Prop where
 coefs:s.2.2.2.2.2.1.length≤40
 taps:s.2.2.2.2.2.2.1.length=3
 stages:s.2.2.2.2.2.2.2.1.length≤6
 warm:s.2.2.2.2.2.2.2.2.1.length≤5000
 rest:s.2.2.2.2.2.2.2.2.2.2.1.length≤5000
 ks:s.2.2.2.2.2.2.2.2.2.1.2.1.length≤300
theorem b4y(x y:List Int):eqT (.arr 3 (.int .i64)) x y=decide (x=y):=by
 show((a31 (fun(a b:Int)=>a==b) x y).all id&&x.length==y.length)=_
 induction x generalizing y with
 |nil=>cases y<;>simp
 |cons a x ih=>
  cases y with
  |nil=>simp
  |cons b y=>
   grind[List.zipWith_cons_cons]
theorem b3K{l:List Int}(h:short l):a2F l=some l:=a8G h
theorem b9e{l:List Stg}(h:short l):a1q l=some l:=by
 have g:lim (0+l.length)=true:=a0U (by unfold short at h;omega);simp_all[a1q,x0e]
def a4g(k:Int)(s:Sub)(n:Int):Prop:=
 k=0∨k=1∨(k=2∧0≤s.2.2.1∧s.2.2.1≤4∧s.2.2.1≤n)∨(k=3∧b0L s.2.2.2.2.2.1 s.2.2.2.1=true∧(s.2.2.2.2.2.1.length:Int)≤n)∨
  (k=4∧b0L s.2.2.2.2.2.1 s.2.2.2.1=true∧(s.2.2.2.2.2.1.length:Int)≤n∧b2C s.2.2.2.2.1 s.2.2.2.2.2.2.1=true)∨
  (k=5∧0<s.2.2.2.2.2.2.2.1.length∧a9Q s.2.2.2.2.2.2.2.1=true)
open Classical in
def b4z (k:Int) (s:Sub) (n:Int):Bool:=decide (a4g k s n)
theorem b5Z{s:Sub}(h:SmallS s)(k n:Int):a8s (k,s,n)=some (b4z k s n):=by
 have a:short s.2.2.2.2.2.1:=by have:=h.coefs;unfold short;omega
 have b:short s.2.2.2.2.2.2.2.1:=by have:=h.stages;unfold short;omega
 unfold a8s b4z a4g
 by_cases k0:k=0
 simp_all
 by_cases k1:k=1
 simp_all;have g:(k==0)=false:=by grind
 have f:(k==1)=false:=by grind
 simp only[g,f,cF,oB]
 by_cases k2:k=2
 subst k2
 grind
 by_cases k3:k=3
 subst k3
 grind[b0D]
 by_cases k4:k=4
 subst k4;cases hl:b0L s.2.2.2.2.2.1 s.2.2.2.1<;>by_cases h2:(s.2.2.2.2.2.1.length:Int)≤n<;>simp[b0D a,b5E h.taps,hl,h2]
 by_cases k5:k=5
 ·subst k5
  by_cases h1:0<s.2.2.2.2.2.2.2.1.length
  all_goals simp_all[b4s]
 grind
def a2v(s:Sub)(n:Int):Int:=if s.1=0 then 1 else if s.1=1 then n else if s.1=2 then s.2.2.1 else if s.1=3∨s.1=4 then(s.2.2.2.2.2.1.length:Int)else 0
theorem b2T(s:Sub)(n:Int):a4P (s,n)=some (a2v s n):=by
 grind[a4P,a2v]
def b6a(s:Sub):Prop:=
 (s.1≠2→s.2.2.1=0)∧(s.1≠3∧s.1≠4→s.2.2.2.1=0)∧(s.1≠4→s.2.2.2.2.1=0)∧(s.1≠4→s.2.2.2.2.2.2.1=[0,0,0])∧(s.1≠3∧s.1≠4→s.2.2.2.2.2.1=[])∧(s.1≠5→s.2.2.2.2.2.2.2.1=[])
open Classical in
def b6b (s:Sub):Bool:=decide (b6a s)
theorem b1U{c x:Bool}:(bif c then some x else some false)=some (c&&x):=by grind
theorem d3B{α:Type}(l:List α):(((l.length:Nat):Int)==0)=decide (l=[]):=by
 cases l with
 |nil=>rfl
 |cons a l=>rfl
theorem c2f(x:Int):(x==0)=decide (x=0):=rfl
theorem c4j{s:Sub}(h:SmallS s):b2i s=some (b6b s):=by
 have e:short s.2.2.2.2.2.1:=by have:=h.coefs;unfold short;omega
 have g:short s.2.2.2.2.2.2.2.1:=by have:=h.stages;unfold short;omega
 obtain⟨k,w,o,sh,lag,c,t,st,j,p,r,u⟩:=s;simp only at e g;unfold b2i a6v b6b b6a;have i:(a00 3 (0:Int))=[0,0,0]:=rfl
 by_cases k2:k=2
 simp_all[b4y,b1U,c2f]
 by_cases k4:k=4
 simp_all[b4y,b1U,c2f,b3K]
 by_cases k3:k=3
 simp_all[b4y,b1U,c2f,b3K]
 by_cases k5:k=5
 simp_all[b4y,b1U,c2f,b9e];have f:(k==2)=false:=by grind
 have a:(k==3)=false:=by grind
 have b:(k==4)=false:=by grind
 have d:(k==5)=false:=by grind
 simp[f,a,b,d,k2,k3,k4,k5,b4y,i,b1U,d3B,c2f]
theorem a6P(k:Int):a6t k=some (decide (k≠0∧k≠1)):=by
 unfold a6t
 by_cases h0:k=0
 simp_all
 ·by_cases h1:k=1
  all_goals grind
def a1x(s:Sub)(n:Int):Prop:=
 1≤n∧n≤4096∧a4g s.1 s n∧b6a s∧0≤s.2.1∧s.2.1≤30∧(s.1=0→s.2.1=0)∧(s.2.2.2.2.2.2.2.2.1.length:Int)=a2v s n∧s.2.2.2.2.2.2.2.2.1.all a0A=true∧s.2.2.2.2.2.2.2.2.2.2.1.all a0A=true∧
  (s.1=0∨s.1=1→s.2.2.2.2.2.2.2.2.2.2.1=[]∧s.2.2.2.2.2.2.2.2.2.1.1=0∧s.2.2.2.2.2.2.2.2.2.1.2.1=[])∧
  (s.1≠0∧s.1≠1→(s.2.2.2.2.2.2.2.2.2.2.1.length:Int)=n-a2v s n∧a5S s.2.2.2.2.2.2.2.2.2.1 n (a2v s n)=true)
theorem c5B(h:SmallS s)(a:1≤n)(b:n≤4096)(f:a4g s.1 s n):0≤a2v s n∧a2v s n≤4096:=by
 have c:=h.coefs;unfold a2v;rcases f with k|k|⟨k,g⟩|⟨k,g⟩|⟨k,g⟩|⟨k,g⟩<;>simp[k]<;>omega
open Classical in
theorem c8j {s:Sub} (h:SmallS s) (n:Int):b1b (s,n)=some (decide (a1x s n)):=by
 have hw:short s.2.2.2.2.2.2.2.2.1:=by have:=h.warm;unfold short;omega
 have hr:short s.2.2.2.2.2.2.2.2.2.2.1:=by have:=h.rest;unfold short;omega
 have hk:short s.2.2.2.2.2.2.2.2.2.1.2.1:=by have:=h.ks;unfold short;omega
 unfold b1b
 by_cases h1:1≤n
 rotate_left
 ·have e1:decide (n<1)=true:=by simp_all
  have:¬ a1x s n:=fun hp=>h1 hp.1
  simp_all
 have e1:decide (n<1)=false:=by simp_all
 by_cases h2:n≤4096
 rotate_left
 ·have e2:decide (n > 4096)=true:=by simp_all
  have:¬ a1x s n:=fun hp=>h2 hp.2.1
  simp_all
 have e2:decide (n > 4096)=false:=by simp_all
 by_cases h3:a4g s.1 s n
 rotate_left
 ·have e3:b4z s.1 s n=false:=by simp[b4z,h3]
  have:¬ a1x s n:=fun hp=>h3 hp.2.2.1
  simp_all[b5Z]
 have e3:b4z s.1 s n=true:=by simp[b4z,h3]
 by_cases h4:b6a s
 rotate_left
 ·have e4:b6b s=false:=by simp[b6b,h4]
  have:¬ a1x s n:=fun hp=>h4 hp.2.2.2.1
  simp_all[b5Z,c4j]
 have e4:b6b s=true:=by simp[b6b,h4]
 simp only[e1,e2,b5Z h,e3,c4j h,e4,cF,bT,oB]
 by_cases h5:0≤s.2.1
 rotate_left
 ·have e5:decide (s.2.1<0)=true:=by simp_all
  have:¬ a1x s n:=fun hp=>h5 hp.2.2.2.2.1
  simp_all
 have e5:decide (s.2.1<0)=false:=by simp_all
 by_cases h6:s.2.1≤30
 rotate_left
 ·have e6:decide (s.2.1 > 30)=true:=by simp_all
  have:¬ a1x s n:=fun hp=>h6 hp.2.2.2.2.2.1
  simp_all
 have e6:decide (s.2.1 > 30)=false:=by simp_all
 simp only[e5,e6,cF]
 by_cases h7:s.1=0→s.2.1=0
 rotate_left
 ·have h7a:s.1=0:=Classical.byContradiction fun hc=>h7 fun e=>absurd e hc
  have h7b:(s.2.1 != 0)=true:=by
   simp_all
  have e7:(s.1==0)=true:=by simp_all
  have:¬ a1x s n:=fun hp=>h7 hp.2.2.2.2.2.2.1
  grind
 have e7:(bif s.1==0 then some (n,(s.2.1 != 0,(s,())))else some (n,(false,(s,()))))=some (n,(false,(s,()))):=by
  grind
 simp only[e7,oB,cF,b2T]
 by_cases h8:(s.2.2.2.2.2.2.2.2.1.length:Int)=a2v s n
 rotate_left
 ·have e8:(((s.2.2.2.2.2.2.2.2.1.length:Nat):Int) != a2v s n)=true:=by simp_all
  have:¬ a1x s n:=fun hp=>h8 hp.2.2.2.2.2.2.2.1
  grind
 have e8:(((s.2.2.2.2.2.2.2.2.1.length:Nat):Int) != a2v s n)=false:=by simp_all
 simp only[e8,cF,a4L hw,a4L hr,oB]
 cases h9:s.2.2.2.2.2.2.2.2.1.all a0A with
 |false=>
  have:¬ a1x s n:=fun hp=>by rw[hp.2.2.2.2.2.2.2.2.1]at h9;grind
  simp_all
 |true=>
  cases h10:s.2.2.2.2.2.2.2.2.2.2.1.all a0A with
  |false=>
   have:¬ a1x s n:=fun hp=>by rw[hp.2.2.2.2.2.2.2.2.2.1]at h10;grind
   simp_all
  |true=>
   simp only[bT,cF,oB,a6P]
   have hwr:=c5B h h1 h2 h3
   by_cases k01:s.1≠0∧s.1≠1
   ·have e11:wrap .i64 (n-a2v s n)=n-a2v s n:=a0C (by omega)
    simp[k01,e11,b4x hk]
    by_cases h11:(s.2.2.2.2.2.2.2.2.2.2.1.length:Int)=n-a2v s n
    ·have e12:(((s.2.2.2.2.2.2.2.2.2.2.1.length:Nat):Int)==n-a2v s n)=true:=by simp_all
     simp only[e12,cT]
     congr 1
     rw[a99,dT]
     constructor
     ·intro hp
      exact⟨h1,h2,h3,h4,h5,h6,h7,h8,h9,h10,fun hc=>absurd hc (by omega),fun _=>⟨h11,hp⟩⟩
     ·intro hp;exact(hp.2.2.2.2.2.2.2.2.2.2.2 k01).2
    ·have e12:(((s.2.2.2.2.2.2.2.2.2.2.1.length:Nat):Int)==n-a2v s n)=false:=by simp_all
     have:¬ a1x s n:=fun hp=>h11 (hp.2.2.2.2.2.2.2.2.2.2.2 k01).1
     grind
   ·have k01':s.1=0∨s.1=1:=by omega
    simp[k01,d3B]
    simp only[c2f,b1U]
    congr 1
    rw[a99,dT]
    simp
    constructor
    ·rintro⟨g1,g2,g3⟩
     exact⟨h1,h2,h3,h4,h5,h6,h7,h8,h9,h10,fun _=>⟨g1,g2,g3⟩,fun hc=>absurd hc k01⟩
    ·intro hp;exact hp.2.2.2.2.2.2.2.2.2.2.1 k01'
theorem c8k(h:a4g k s n):k=0∨k=1∨k=2∨k=3∨k=4∨k=5:=by
 unfold a4g at h;omega
def b9H(warm rest:List Int)(o:Int):Option (List Int):=bif warm.all a0A&&rest.all a0A then a4t (a6H o.toNat) rest warm else none
def backP(s:Sub):Option (List Int):=
 if s.1=1 then some s.2.2.2.2.2.2.2.2.1
 else if s.1=2 then b9H s.2.2.2.2.2.2.2.2.1 s.2.2.2.2.2.2.2.2.2.2.1 s.2.2.1
 else if s.1=3 then b4t s.2.2.2.2.2.2.2.2.1 s.2.2.2.2.2.2.2.2.2.2.1 s.2.2.2.2.2.1 s.2.2.2.1
 else if s.1=4 then(b4t s.2.2.2.2.2.2.2.2.1 s.2.2.2.2.2.2.2.2.2.2.1 s.2.2.2.2.2.1 s.2.2.2.1).bind fun l=>b4Y l s.2.2.2.2.1 s.2.2.2.2.2.2.1
 else b2S s.2.2.2.2.2.2.2.2.2.2.1 s.2.2.2.2.2.2.2.1
def c4k(s:Sub)(n:Int):Option (List Int):=
 if s.1=0 then some (a00 n.toNat (s.2.2.2.2.2.2.2.2.1.getD 0 0))else(backP s).bind (upO s.2.1)
theorem b5G{w r c:List Int}{s:Int}{l}(h:b4t w r c s=some l):l.length=w.length+r.length:=by
 unfold b4t at h;cases hc:(w.all a0A&&r.all a0A)with
 |false=>simp_all
 |true=>
  rw[hc]at h;exact(b3H _ r w l (a76.1 hc).1 h).2
theorem c5C{w r:List Int}{o:Int}{l}(h:b9H w r o=some l):l.length=w.length+r.length:=by
 unfold b9H at h;cases hc:(w.all a0A&&r.all a0A)with
 |false=>simp_all
 |true=>
  rw[hc]at h;exact(b3H _ r w l (a76.1 hc).1 h).2
theorem c4l{l}(h:b4Y r lag t=some l):l.length=r.length:=by
 unfold b4Y at h;cases hc:r.all a0A with
 |false=>simp_all
 |true=>
  rw[hc]at h
  have:=(b3H _ r [] l rfl h).2
  simp_all
theorem c2H:∀(st:List Stg)(r:List Int){l},lO st r=some l→l.length=r.length
 | [],r,l,h=>by simp_all[lO]
 |s::st,r,l,h=>by
  simp only[lO]at h
  split at h
  rename_i f g;rw[c2H st f h,b6x _ _ _ g];simp;cases h
theorem c3x{r:List Int}{st:List Stg}{l}(h:b2S r st=some l):l.length=r.length:=by
 grind[b2S,c2H]
theorem c4m(h:SmallS s){l}(g:backP s=some l):l.length<100000:=by
 have b:=h.warm;have a:=h.rest;unfold backP at g
 split at g
 grind
 split at g
 grind[c5C]
 split at g
 grind[b5G]
 split at g
 obtain⟨l1,f,k⟩:=a44.1 g;rw[c4l k,b5G f];omega
 grind[c3x]
theorem c8l(a:1≤n)(c:n≤4096)(d:s.2.2.2.2.2.2.2.2.1.length=1):
  y0s a7u (n,(0:Int),([]:List Int),s,())=some (a00 n.toNat (s.2.2.2.2.2.2.2.2.1.getD 0 0),()):=by
 obtain⟨N,rfl⟩:=a01 (show 0≤n by omega);have k:m0k s.2.2.2.2.2.2.2.2.1 (0:Int)=some (s.2.2.2.2.2.2.2.2.1.getD 0 0):=c4c (by omega) (by omega)
 have:=a1D (f:=a7u) (fun i=>((N:Int),(i:Int),a00 i (s.2.2.2.2.2.2.2.2.1.getD 0 0),s,())) N
  (b:=(a00 N (s.2.2.2.2.2.2.2.2.1.getD 0 0),())) (fun i hi=>by
   have h:lim ((a00 i (s.2.2.2.2.2.2.2.2.1.getD 0 0)).length+1)=true:=a0U (by grind);have g:a00 i (s.2.2.2.2.2.2.2.2.1.getD 0 0)++[s.2.2.2.2.2.2.2.2.1.getD 0 0]=a00 (i+1) (s.2.2.2.2.2.2.2.2.1.getD 0 0):=by grind[a53]
   simp only[a7u,dlt hi,cT,k,oB,h,a06,g,a0B (show i<1000000 by omega)])
  (by simp[a7u])
 simp_all
theorem c5D(h:SmallS s)(hp:a1x s n):b3y (s,n)=some (a5o (c4k s n)):=by
 have a:=fun l (d:backP s=some l)=>c4m h d;obtain⟨z,A,C,-,x,v,-,g,K,I,-⟩:=hp;have F:=h.rest;have G:=h.warm;have H:=h.taps;have D:=c8l (s:=s) z A;obtain⟨k,w,o,sh,lag,c,t,st,f,p,r,u⟩:=s;simp only at *;have L:∀l,l.length<100000→a9F (l,w)=some (a5o (upO w l)):=fun l d=>c4e x v d;unfold b3y c4k;rcases C with b|b|⟨b,j,m,y⟩|⟨b,j,m⟩|⟨b,j,m,y⟩|⟨b,j,m⟩
 grind[a2v,a5o]
 simp_all[backP]
 ·subst b;obtain⟨O,rfl⟩:=a01 j;have m:(O:Int)≤4:=m;simp only[a2v]at g;have q:f.length=O:=by grind
  have i:=c3u (warm:=f) (rest:=r) (o:=O) (by omega) q (by omega);simp only[backP]at a⊢;simp[i];have e:(bif f.all a0A&&r.all a0A then a4t (a6H O) r f else none)=b9H f r (O:Int):=rfl;rw[e];cases d:b9H f r (O:Int)with
  |none=>rfl
  |some l=>simp_all[a5o]
 ·subst b;simp only[a2v]at g;have q:f.length=c.length:=by grind
  have i:=b5X (rest:=r) j q (by omega);simp only[backP]at a⊢;simp[i];cases d:b4t f r c sh with
  |none=>rfl
  |some l=>simp_all[a5o]
 ·subst b;simp only[a2v]at g;have q:f.length=c.length:=by grind
  have i:=b5X (rest:=r) j q (by omega);simp only[backP]at a⊢;simp[i];cases d:b4t f r c sh with
  |none=>rfl
  |some l=>
   have E:=b5G d;have B:=c4d (rest:=l) y H (by omega);simp[a5o,B]
   grind[a5o]
 ·subst b;have i:=c3w (rest:=r) m (by omega);simp only[backP]at a⊢;simp[i];cases d:b2S r st with
  |none=>rfl
  |some l=>simp_all[a5o]
open Classical in
def a2t (s:Sub) (n:Int):Option (List Int):=if a1x s n then c4k s n else none
theorem c0V(h:SmallS s)(n:Int):b2M (s,n)=some (match a2t s n with|some r=>(r,0)|none=>([],1)):=by
 unfold b2M a2t;simp only[c8j h,oB]
 by_cases hp:a1x s n
 simp[hp,c5D h hp]
 grind[a5o]
 simp_all
theorem c0W(h:SmallS s)(n:Int):b0Q (s,n)=some (a2t s n).isSome:=by
 unfold b0Q;simp only[c0V h,oB];cases a2t s n<;>rfl
@[reducible] def Wr:Type:=(List Int)×(Int×Unit)
def c2g(w:Wr)(b:Int):Wr:=
 let bs:=if w.2.1%8=0 then w.1++[0]else w.1
 (bs.set (w.2.1 / 8).toNat (bits .u8 .or (bs.getD (w.2.1 / 8).toNat 0) (A0n .u8 b (7-w.2.1%8))),w.2.1+1,())
def wL(L:List Int):Wr:=L.foldl c2g ([],0,())
theorem c2h(L:List Int)(b:Int):wL (L++[b])=c2g (wL L) b:=by simp[wL]
theorem c0X:∀(n:Nat)(L:List Int),L.length=n→(wL L).2.1=L.length∧(wL L).1.length=(L.length+7) / 8
 |0,L,h=>by
  rw[a45.1 h];exact⟨rfl,rfl⟩
 |n+1,L,h=>by
  obtain⟨g,b,rfl⟩:∃g b,L=g++[b]:=by
   rcases a51 L with rfl|⟨g,b,e⟩
   all_goals simp_all
  obtain⟨f,k⟩:=c0X n g (by simp_all);rw[c2h];simp only[c2g,List.length_set,lN,a74,f]
  grind
theorem a6e(L:List Int):(wL L).2.1=L.length∧(wL L).1.length=(L.length+7) / 8:=c0X _ L rfl
theorem c0Y{L:List Int}(l:L.length<1000000000)(b:Int):a2r (wL L,b)=some (wL (L++[b])):=by
 obtain⟨g,k⟩:=a6e L;have p:a26 ((L.length:Nat):Int) 8=((L.length:Nat):Int)%8:=a43 (by omega);have m:a54 ((L.length:Nat):Int) 8=((L.length:Nat):Int) / 8:=a61 (by omega);have c:wrap .i64 (((L.length:Nat):Int) / 8)=((L.length:Nat):Int) / 8:=a0C (by omega);have d:wrap .i64 (7-((L.length:Nat):Int)%8)=7-((L.length:Nat):Int)%8:=a0C (by omega);have e:wrap .i64 (((L.length:Nat):Int)+1)=((L.length:Nat):Int)+1:=a0C (by omega);have i:decide ((0:Int)≤((L.length:Nat):Int) / 8)=true:=by rfl
 have j:decide (7-((L.length:Nat):Int)%8<0)=false:=by grind
 rw[c2h];generalize wL L=wr at g k⊢;obtain⟨f,n,u⟩:=wr;have g:n=((L.length:Nat):Int):=g;have k:f.length=(L.length+7) / 8:=k;subst g;unfold a2r c2g
 by_cases h:((L.length:Nat):Int)%8=0
 have hb:(((L.length:Nat):Int)%8==0)=true:=by grind
 have o:lim (f.length+1)=true:=a0T (by omega);have a:decide (((L.length:Nat):Int) / 8<(((f++[0]).length:Nat):Int))=true:=by grind
 simp_all
 grind
def a7j(v:Int)(i:Nat):Int:=wrap .u8 (bits .u64 .and (A0o .u64 v (i:Int)) 1)
def pb(v:Int):Nat→List Int
 |0=>[]
 |i+1=>a7j v i::pb v i
theorem b5b(v:Int):∀n,(pb v n).length=n
 |0=>rfl
 |n+1=>by simp[pb,b5b v n]
def a0P(v:Int)(n:Nat)(L:List Int):List Int:=bif A0o .u64 v (n:Int) != 0 then L else L++pb v n
theorem a0W(v:Int)(n:Nat)(L:List Int):L.length≤(a0P v n L).length∧(a0P v n L).length≤L.length+n:=by
 grind[a0P,b5b]
def a8H(v:Int)(n:Nat):Int:=bif A0o .u64 v (n:Int) != 0 then 1 else 0
theorem c4n{v:Int}:∀(n:Nat)(L:List Int),L.length+n<1000000000→y0s a4q (v,(n:Int)-1,wL L,())=some (wL (L++pb v n),())
 |0,L,_=>by simp_all[a0F,a4q,pb]
 |n+1,L,h=>by
  have e:((n+1:Nat):Int)-1=(n:Int):=by omega
  have g:wrap .i64 ((n:Int)-1)=(n:Int)-1:=a0C (by omega);have f:decide ((n:Int)≥0)=true:=by simp
  have k:decide ((n:Int)<0)=false:=by simp
  rw[e,a0E (s':=(v,(n:Int)-1,wL (L++[a7j v n]),())) (by
   simp only[a4q,f,k,cT,cF,show wrap .u8 (bits .u64 .and (A0o .u64 v (n:Int)) 1)=a7j v n from rfl,c0Y (show L.length<1000000000 by omega),oB,g])]
  rw[c4n n (L++[a7j v n]) (by simp;omega),pb]
  simp
theorem a3r{v:Int}{n:Nat}(a:n≤63)(k:L.length<999999000):a0I (wL L,v,(n:Int))=some (a8H v n,wL (a0P v n L)):=by
 unfold a0I a8H a0P;have g:decide ((n:Int)<0)=false:=by simp
 have f:decide ((n:Int) > 64)=false:=by grind
 have h:wrap .i64 ((n:Int)-1)=(n:Int)-1:=a0C (by omega);simp[g,f];cases (A0o .u64 v (n:Int) != 0)with
 |true=>rfl
 |false=>simp only[cF,h,c4n n L (by omega),oB]
def unL(n:Nat)(L:List Int):List Int:=L++a00 n 0++[1]
theorem c4o{n:Nat}(c:n≤4096)(a:L.length<999990000):a2z (wL L,(n:Int))=some (0,wL (unL n L)):=by
 unfold a2z unL;have g:decide ((n:Int)<0)=false:=by simp
 have k:decide ((n:Int) > 4096)=false:=by grind
 simp only[g,k,cF,oB]
 have:=a1D (f:=a3C) (fun i=>((n:Int),(i:Int),wL (L++a00 i 0),())) n (b:=(wL (L++a00 n 0),())) (fun i hi=>by
   have h:L++a00 i (0:Int)++[0]=L++a00 (i+1) 0:=by simp_all[a53]
   simp only[a3C,dlt hi,cT,c0Y (show(L++a00 i (0:Int)).length<1000000000 by grind),oB,h,a0B (show i<1000000 by omega)])
  (by simp[a3C])
 grind[c0Y]
theorem b1x(n:Nat)(L:List Int):(unL n L).length=L.length+n+1:=by simp[unL];rfl
def a0X(x:Int)(n:Nat):Int:=bits .u64 .and (wrap .u64 x) (wrap .u64 ((A0n .u64 1 (n:Int))-1))
def a1J(n:Nat)(l:List Int)(L:List Int):List Int:=l.foldl (fun L x=>a0P (a0X x n) n L) L
theorem a6K(n:Nat):∀(l L:List Int),L.length≤(a1J n l L).length∧(a1J n l L).length≤L.length+n*l.length
 | [],L=>by simp[a1J]
 |x::l,L=>by
  have h:=a0W (a0X x n) n L;have g:=a6K n l (a0P (a0X x n) n L);have e:a1J n (x::l) L=a1J n l (a0P (a0X x n) n L):=rfl;rw[e,lC,a91,a92];omega
theorem b4A{n:Nat}(f:n≤63)(g:L.length<999999000):a2U (wL L,x,(n:Int))=some (wL (a0P (a0X x n) n L)):=by
 unfold a2U;have h:decide ((n:Int)<0)=false:=by simp
 simp only[h,cF,show bits .u64 .and (wrap .u64 x) (wrap .u64 ((A0n .u64 1 (n:Int))-1))=a0X x n from rfl,a3r f g,oB]
def a1k(x w:Int):Bool:=decide (1≤w)&&(decide (w≤31)&&(decide (A0n .i64 (-1) (w-1)≤x)&&decide (x≤wrap .i64 (A0n .i64 1 (w-1)-1))))
theorem a6L(a:w≤32):a2a (x,(w:Int))=some (a1k x w):=by
 unfold a2a a1k b4a b3c
 by_cases h1:1≤(w:Int)
 by_cases h2:(w:Int)≤31
 have h:decide ((w:Int)<1)=false:=by simp_all
 have g:decide ((w:Int) > 31)=false:=by simp_all
 have e:wrap .i64 ((w:Int)-1)=(w:Int)-1:=a0C (by omega);have f:decide ((w:Int)-1<0)=false:=by simp_all
 have k:decide ((w:Int)≥1)=true:=by simp_all
 simp[h1,h2,h,g,f,e]
 grind
 grind
 grind
theorem c5E(b:w≤32):b2Q (x,(w:Int))=some (a1k x w):=by
 unfold b2Q a1k b9B b7X
 by_cases h1:1≤(w:Int)
 by_cases h2:(w:Int)≤31
 have f:decide ((w:Int)<1)=false:=by simp_all
 have k:decide ((w:Int) > 31)=false:=by simp_all
 have e:wrap .i64 ((w:Int)-1)=(w:Int)-1:=a0C (by omega);have g:wrap .u64 ((w:Int)-1)=(w:Int)-1:=a0M (by omega);have a:decide ((w:Int)-1<0)=false:=by simp_all
 have h:decide ((w:Int)≥1)=true:=by simp_all
 simp only[h,h1,h2,f,k,a,e,g,decide_true,cT,cF,oB,a39]
 grind
 grind
 grind
def a1R(x:Int):Nat→Nat→Nat
 |0,w=>w
 |k+1,w=>bif (x != 0)&&!a1k x w then a1R x k (w+1)else w
theorem b9I(x:Int):∀(k w:Nat),a1R x k w≤w+k
 |0,w=>a27 _
 |k+1,w=>by
  simp[a1R];cases (x != 0)&&!a1k x w with
  |true=>have:=b9I x k (w+1);grind
  |false=>simp
def a0J(l:List Int):Nat:=l.foldl (fun w x=>a1R x (32-w) w) 0
theorem b7y:∀(l:List Int)(w:Nat),w≤32→l.foldl (fun w x=>a1R x (32-w) w) w≤32
 | [],w,h=>h
 |x::l,w,h=>b7y l _ (show a1R x (32-w) w≤32 by grind[b9I])
theorem a6Q(l:List Int):a0J l≤32:=b7y l 0 (by omega)
theorem c2I{x:Int}{l:List Int}{n i:Int}:∀(k w:Nat),w+k=32→y0s a3a ((w:Int),x,l,n,i,())=some (((a1R x k w:Nat):Int),l,n,i,())
 |0,w,h=>by
  obtain rfl:w=32:=by omega
  simp_all[a0F,a3a,a1R]
 |k+1,w,h=>by
  have g:decide ((w:Int)<32)=true:=by grind
  simp[a1R];cases hx:(x != 0)with
  |false=>simp_all[a0F,a3a]
  |true=>
   cases hf:a1k x w with
   |true=>exact a0F (by simp only[a3a,hx,g,a6L (show w≤32 by omega),hf,oB,cT,cF,bT,Bool.and_false])
   |false=>
    rw[a0E (s':=(((w+1:Nat):Int),x,l,n,i,())) (by simp only[a3a,hx,g,a6L (show w≤32 by omega),hf,oB,cT,a36,a0B (show w<1000000 by omega)])];exact c2I k (w+1) (by omega)
theorem a2w(k:short l):a1w l=some ((a0J l:Nat):Int):=by
 have k:l.length<1000000:=k
 have:=a1N (f:=a6k) l (fun i (w:Nat)=>((w:Int),l,(l.length:Int),(i:Int),())) (fun w x=>(.inl (a1R x (32-w) w):Nat ⊕ (Int×Unit))) (fun _ w=>w≤32) (fun w=>((w:Int),()))
  (fun i h w d=>⟨fun c g=>by
   simp at g;subst g;refine⟨?_,by grind[b9I]⟩;simp only[a6k,dlt h,cT,a0D h,oB,c2I (32-w) w (by omega),a0B (show i<1000000 by omega)],fun b hb=>(by grind)⟩)
  (fun w _=>by simp[a6k]) (a:=0) (by omega)
 simp at this;unfold a1w;rw[this];have key:∀(l:List Int)(w:Nat),a2X (fun w x=>(.inl (a1R x (32-w) w):Nat ⊕ (Int×Unit))) l w=.inl (l.foldl (fun w x=>a1R x (32-w) w) w):=by
  intro l
  induction l with
  |nil=>intro w;rfl
  |cons x l ih=>simp_all[a2X]
 rw[key];rfl
theorem b1y(x:Int):a7P x=some (a0A x):=by
 grind[a7P,a0A]
def a0R(x:Int):Nat:=if 0≤x then(2*x).toNat else(-2*x-1).toNat
theorem b0M(h:a0A x=true):a0R x<2147483648:=by
 grind[a1O,a0R]
theorem b1z(h:a0A x=true):a9L x=some ((a0R x:Nat):Int):=by
 have f:=a1O.1 h;unfold a9L a0R;simp only[b1y,h,oB,bT,cF]
 by_cases h0:0≤x
 have g:decide (x≥0)=true:=by simp_all
 simp only[g,cT,if_pos h0]
 grind[a0C,a0M]
 have g:decide (x≥0)=false:=by simp_all
 simp only[g,cF,if_neg h0]
 grind[a0C,a0M]
theorem a6R{N o:Nat}(h:o≤64):A0o .u64 (N:Int) (o:Int)=((N / 2^o:Nat):Int):=c4i h
theorem b2U(h:o≤64)(g:N*2^o<9223372036854775808):A0n .u64 (N:Int) (o:Int)=((N*2^o:Nat):Int):=by
 unfold A0n;show wrap .u64 ((N:Int)*2^(min (o:Int).toNat 64))=_
 grind[a0M]
theorem c4p{y k:Nat}(c:y<18446744073709551616)(f:k≤62):bits .u64 .and (y:Int) (wrap .u64 (A0n .u64 1 (k:Int)-1))=((y%2^k:Nat):Int):=by
 have hp:2^k≤2^62:=a08 (by simp) f;have a:1≤2^k:=a81;have b:(2:Nat)^62=4611686018427387904:=by rfl
 have h:A0n .u64 1 (k:Int)=((2^k:Nat):Int):=by have:=b2U (N:=1) (o:=k) (by omega) (by omega);simp_all
 have g:wrap .u64 (((2^k:Nat):Int)-1)=((2^k-1:Nat):Int):=by grind[a0M]
 rw[h,g];show wrap .u64 (((a04 64 (y:Int)) &&& (a04 64 ((2^k-1:Nat):Int))).toNat:Int)=_;rw[a24,a24,a93,a29,a29,a23 c,a23 (by omega),Nat.and_two_pow_sub_one_eq_mod]
 have:y%2^k<2^k:=a41 _ (by omega)
 exact a0M (by omega)
theorem b4B{q:Nat}(h:q<2147483648):wrap .i64 (q:Int)=(q:Int):=a0C (by omega)
def a7k(k:Nat)(x:Int)(L:List Int):List Int:=
 if a0R x / 2^k<32 then a0P ((a0R x%2^k:Nat):Int) k (unL (a0R x / 2^k) L)else a0P ((a0R x:Nat):Int) 32 (unL 32 L)
def a4Y(k:Nat)(l:List Int)(L:List Int):List Int:=l.foldl (fun L x=>a7k k x L) L
theorem b8a{k:Nat}(h:k≤25)(x:Int)(L:List Int):L.length≤(a7k k x L).length∧(a7k k x L).length≤L.length+100:=by
 grind[a7k,a0W,b1x]
theorem b7z{k:Nat}(h:k≤25):∀(l L:List Int),L.length≤(a4Y k l L).length∧(a4Y k l L).length≤L.length+100*l.length
 | [],L=>by simp[a4Y]
 |x::l,L=>by
  have g:=b8a h x L;have f:=b7z h l (a7k k x L);have e:a4Y k (x::l) L=a4Y k l (a7k k x L):=rfl
  grind
theorem a9z{k:Nat}(h:k≤25):a1X (k:Int)=some true:=by
 unfold a1X
 grind
theorem c5F{k:Nat}(w:k≤25)(C:l.length<10000)(s:l.all a0A=true)(B:L.length<900000000):b3E (wL L,(k:Int),l)=some (0,wL (a4Y k l L)):=by
 have z:=a2s (f:=b0B) l (fun i=>((k:Int),l,l,(l.length:Int),(i:Int),wL L,())) (fun _=>true) (bt:=Sum.inl ((k:Int),l,wL L,())) (bf:=Sum.inl ((k:Int),l,wL L,()))
  (fun i h _=>by
   have:=lA.1 s _ (a05 h)
   simp only[b0B,dlt h,cT,a0D h,oB,b1y,this,bT,cF,a0B (show i<1000000 by omega)])
  (fun i h hp=>by simp_all) (by simp[b0B])
 have key:∀(j i:Nat)(g:List Int),i+j=l.length→g.length+100*j<999990000→y0s a7D ((k:Int),l,(l.length:Int),(i:Int),wL g,())=some (wL (a4Y k (l.drop i) g),()):=by
  intro j
  induction j with
  |zero=>
   intro i g hi _;obtain rfl:i=l.length:=by omega
   simp_all[a0F,a7D,a4Y]
  |succ j ih=>
   intro i g hi hb;have a:i<l.length:=by omega
   have c:=lA.1 s _ (a05 a);have y:=b0M c;have x:=b8a w l[i] g;have e:decide ((k:Int)<0)=false:=by simp
   have p:A0o .u64 ((a0R l[i]:Nat):Int) (k:Int)=((a0R l[i] / 2^k:Nat):Int):=a6R (by omega);have o:=a32 (a0R l[i]) (2^k);have q:=a70 (a0R l[i]) (2^k);have d:A0n .u64 ((a0R l[i] / 2^k:Nat):Int) (k:Int)=((a0R l[i] / 2^k*2^k:Nat):Int):=b2U (by omega) (by grind);have t:wrap .u64 (((a0R l[i]:Nat):Int)-((a0R l[i] / 2^k*2^k:Nat):Int))=((a0R l[i]%2^k:Nat):Int):=by
    rw[a57 (a0R l[i] / 2^k)]
    grind[a0M]
   have u:wrap .i64 ((a0R l[i] / 2^k:Nat):Int)=((a0R l[i] / 2^k:Nat):Int):=b4B (a38 o y);rw[a02 a,a0E (s':=((k:Int),l,(l.length:Int),((i+1:Nat):Int),wL (a7k k l[i] g),())) (by
    by_cases hq:a0R l[i] / 2^k<32
    have m:decide (((a0R l[i] / 2^k:Nat):Int)<32)=true:=decide_eq_true (by omega);have r:(unL (a0R l[i] / 2^k) g).length<999999000:=by
     rw[b1x];omega
    have b:=c4o (L:=g) (n:=a0R l[i] / 2^k) (a84 (a18 hq (by simp))) (by omega);have hp:=a3r (L:=unL (a0R l[i] / 2^k) g) (v:=((a0R l[i]%2^k:Nat):Int)) (n:=k) (by omega) r;simp only[a7D,dlt a,cT,a0D a,oB,b1z c,e,cF,p,m,u,b,d,t,hp,a7k,if_pos hq,a0B (show i<1000000 by omega)];have m:decide (((a0R l[i] / 2^k:Nat):Int)<32)=false:=decide_eq_false (by omega);have r:=b1x 32 g;have b:a2z (wL g,(32:Int))=some (0,wL (unL 32 g)):=c4o (L:=g) (n:=32) (by omega) (by omega);have hp:a0I (wL (unL 32 g),((a0R l[i]:Nat):Int),(32:Int))=some (a8H ((a0R l[i]:Nat):Int) 32,wL (a0P ((a0R l[i]:Nat):Int) 32 (unL 32 g))):=a3r (L:=unL 32 g) (v:=((a0R l[i]:Nat):Int)) (n:=32) (by omega) (by omega);simp only[a7D,dlt a,cT,a0D a,oB,b1z c,e,cF,p,m,b,hp,a7k,if_neg hq,a0B (show i<1000000 by omega)])]
   exact ih (i+1) _ (by omega) (by omega)
 have A:=key l.length 0 L (by omega) (by omega);simp_all[b3E,a9z]
def a1s(zn:List Nat):List Int:=zn.map fun(a:Nat)=>(a:Int)
theorem c3y(n M:Nat):(a00 n M).sum=n*M:=by
 simp
theorem b5H{o n warm:Int}(h:(a1Q o n warm).length≠0):∃zn:List Nat,a1Q o n warm=a1s zn∧(zn.sum:Int)=n-warm∧zn.length≤256:=by
 unfold a1Q at h⊢;cases hr:(a6J n warm&&(decide (0≤o)&&decide (o≤8)))with
 |false=>simp_all
 |true=>
  rw[hr]at h;simp only[cT]at h⊢;simp[a6J]at hr;unfold b5Y at h⊢
  split at h
  rename_i g;rw[if_pos g];obtain⟨O,rfl⟩:=a01 hr.2.1;obtain⟨N,rfl⟩:=a01 (show 0≤n by omega);obtain⟨w,rfl⟩:=a01 (show 0≤warm by omega);simp only[tN]at g⊢;have hp:=d3A (o:=O) (by omega);have f:=a70 N (2^O);rw[g.1,a85]at f;have k:w≤N / 2^O:=by omega
  generalize N / 2^O=M at g k f⊢;generalize 2^O=P at hp f⊢;refine⟨(M-w)::a00 (P-1) M,?_,?_,?_⟩
  grind[a1s,List.map_replicate]
  rw[a62,c3y];obtain⟨q,rfl⟩:∃q,P=q+1:=⟨P-1,by omega⟩
  grind
  simp_all;simp_all
def b0F(k:Int)(part L:List Int):List Int:=
 if k=31 then a1J (a0J part) part (a0P ((a0J part:Nat):Int) 5 (a0P (wrap .u64 k) 5 L))else a4Y k.toNat part (a0P (wrap .u64 k) 5 L)
def a4Z:List Nat→List Int→List Int→List Int→List Int
 |z::zs,k::ks,l,L=>a4Z zs ks (l.drop z) (b0F k (l.take z) L)
 |_,_,_,L=>L
theorem b8b(h:kB k=true)(part L:List Int):L.length≤(b0F k part L).length∧(b0F k part L).length≤L.length+10+100*part.length:=by
 unfold b0F;have a:=a0W (wrap .u64 k) 5 L;split;have b:=a0W ((a0J part:Nat):Int) 5 (a0P (wrap .u64 k) 5 L);have c:=a6K (a0J part) part (a0P ((a0J part:Nat):Int) 5 (a0P (wrap .u64 k) 5 L));have f:=a6Q part
 have:a0J part*part.length≤32*part.length:=a25 _ f
 omega;rename_i g;simp[kB]at h
 grind[b7z]
theorem a8I(h:i<zn.length):a87 (a1s zn) i 0=((zn[i]:Nat):Int):=by
 simp_all[a1s]
theorem a1A(h:List Nat):(a1s h).length=h.length:=by simp[a1s]
theorem b6y(h:i<zn.length):(zn.drop i).sum=zn[i]+(zn.drop (i+1)).sum:=by
 grind[a02]
theorem c4q{part rest:List Int}{wd:Nat}{a b:Int}{z:List Int}{p:Prt}(k:wd≤32)(hp:part.length<10000):∀(j i:Nat)(L:List Int),i+j=part.length→L.length+64*j<999990000→
  y0s a9d (rest,(wd:Int),a,b,part,(part.length:Int),(i:Int),z,wL L,p,())=some (rest,a,b,z,wL (a1J wd (part.drop i) L),p,())
 |0,i,L,hi,_=>by
  obtain rfl:i=part.length:=by omega
  simp_all[a0F,a9d,a1J]
 |j+1,i,L,hi,hb=>by
  have h:i<part.length:=by omega
  have g:decide ((wd:Int)<0)=false:=by simp
  have f:=a0W (a0X part[i] wd) wd L;rw[a02 h,a0E (s':=(rest,(wd:Int),a,b,part,(part.length:Int),((i+1:Nat):Int),z,wL (a0P (a0X part[i] wd) wd L),p,())) (by
   simp only[a9d,dlt h,cT,a0D h,oB,g,cF,show bits .u64 .and (wrap .u64 part[i]) (wrap .u64 ((A0n .u64 1 (wd:Int))-1))=a0X part[i] wd from rfl,a3r (show wd≤63 by omega) (show L.length<999999000 by omega),a0B (show i<1000000 by omega)])]
  exact c4q k hp j (i+1) _ (by omega) (by omega)
theorem b6c{zn:List Nat}{p:Prt}(N:p.2.1.length=zn.length)(c:p.2.1.all kB=true)(R:zn.length≤256):∀(j i:Nat)(l L:List Int),i+j=zn.length→(zn.drop i).sum=l.length→l.all a0A=true→l.length≤5000→L.length+10*j+100*l.length<800000000→
  y0s a4K (l,(zn.length:Int),(i:Int),a1s zn,wL L,p,())=some (wL (a4Z (zn.drop i) (p.2.1.drop i) l L),())
 |0,i,l,L,hi,_,_,_,_=>by
  obtain rfl:i=zn.length:=by omega
  simp_all[a0F,a4K,a4Z]
 |j+1,i,l,L,hi,hsum,hw,hl5,hb=>by
  have h:i<zn.length:=by omega
  have f:i<p.2.1.length:=by omega
  have s:=lA.1 c _ (a05 f);rw[b6y h]at hsum;have B:decide ((0:Int)≤(i:Int))=true:=by simp
  have C:decide ((i:Int)<(((a1s zn).length:Nat):Int))=true:=by simp_all[a1A]
  have D:decide ((0:Int)≤((zn[i]:Nat):Int))=true:=by simp
  have E:decide (((zn[i]:Nat):Int)≤((l.length:Nat):Int))=true:=by grind
  have t:(l.take zn[i]).length=zn[i]:=by simp_all
  have q:(l.drop zn[i]).length=(zn.drop (i+1)).sum:=by grind
  have w:(l.take zn[i]).all a0A=true:=lA.2 fun x A=>lA.1 hw x (a34 A);have y:(l.drop zn[i]).all a0A=true:=lA.2 fun x A=>lA.1 hw x (a35 A);have Q:=b8b s (l.take zn[i]) L;have O:=a0W (wrap .u64 p.2.1[i]) 5 L;have d:a0I (wL L,wrap .u64 p.2.1[i],(5:Int))=some (a8H (wrap .u64 p.2.1[i]) 5,wL (a0P (wrap .u64 p.2.1[i]) 5 L)):=a3r (n:=5) (by omega) (by omega);have G:zn.drop i=zn[i]::zn.drop (i+1):=a02 h;have H:p.2.1.drop i=p.2.1[i]::p.2.1.drop (i+1):=a02 f;rw[G,H,a4Z];have r:a4K (l,(zn.length:Int),(i:Int),a1s zn,wL L,p,())=some (.inl (l.drop zn[i],(zn.length:Int),((i+1:Nat):Int),a1s zn,wL (b0F p.2.1[i] (l.take zn[i]) L),p,())):=by
   by_cases h31:p.2.1[i]=31
   have m:(p.2.1[i] != 31)=false:=by simp_all
   have v:=a6Q (l.take zn[i]);have u:=a2w (l:=l.take zn[i]) (by unfold short;omega);have P:=a0W ((a0J (l.take zn[i]):Nat):Int) 5 (a0P (wrap .u64 p.2.1[i]) 5 L);have I:wrap .u64 ((a0J (l.take zn[i]):Nat):Int)=((a0J (l.take zn[i]):Nat):Int):=a0M (by omega);have o:a0I (wL (a0P (wrap .u64 p.2.1[i]) 5 L),((a0J (l.take zn[i]):Nat):Int),(5:Int))=some (a8H ((a0J (l.take zn[i]):Nat):Int) 5,wL (a0P ((a0J (l.take zn[i]):Nat):Int) 5 (a0P (wrap .u64 p.2.1[i]) 5 L))):=a3r (n:=5) (by omega) (by omega);have e:=c4q (part:=l.take zn[i]) (rest:=l.drop zn[i]) (a:=(zn.length:Int)) (b:=(i:Int)) (z:=a1s zn) (p:=p) v (by omega) (l.take zn[i]).length 0 (a0P ((a0J (l.take zn[i]):Nat):Int) 5 (a0P (wrap .u64 p.2.1[i]) 5 L)) (by omega) (by omega);simp only[nZ,a28]at e;simp only[a4K,dlt h,B,C,a8I h,D,E,cT,a03,tN,a0D f,oB,d,m,cF,u,I,o,a19,e,a0B (show i<1000000 by omega),b0F,if_pos h31];have m:(p.2.1[i] != 31)=true:=by simp_all
   simp[kB]at s;obtain⟨K,M⟩:=a01 (show 0≤p.2.1[i]by omega);have g:=c5F (k:=K) (l:=l.take zn[i]) (L:=a0P (wrap .u64 p.2.1[i]) 5 L) (by omega) (by omega) w (by omega);rw[←M]at g;have F:K=p.2.1[i].toNat:=by omega
   simp only[a4K,dlt h,B,C,a8I h,D,E,cT,a03,tN,a0D f,oB,d,m,g,a19,a0B (show i<1000000 by omega),b0F,if_neg h31,F]
  rw[a0E r];exact b6c N c R j (i+1) (l.drop zn[i]) _ (by omega) q.symm y (by omega) (by omega)
theorem c2i{k:Nat}(d:k≤25)(g:a0A x=true):∃c,a7Q ((k:Int),x)=some c∧0≤c∧c≤65:=by
 have e:=b0M g;have f:A0o .u64 ((a0R x:Nat):Int) (k:Int)=((a0R x / 2^k:Nat):Int):=a6R (by omega);have a:wrap .i64 ((a0R x / 2^k:Nat):Int)=((a0R x / 2^k:Nat):Int):=b4B (a38 (a32 _ _) e);have h:decide ((k:Int)<0)=false:=by simp
 unfold a7Q;simp only[a9z d,b1y,g,oB,bT,cF,b1z g,h,f,a];generalize a0R x / 2^k=q
 by_cases hq:q<32
 have b:decide ((q:Int)<32)=true:=decide_eq_true (by omega);refine⟨(q:Int)+1+k,?_,by omega,by omega⟩;simp only[b,cT]
 grind[a0C]
 grind
theorem c3z{k:Nat}(n:k≤25)(o:l.all a0A=true)(r:l.length<10000):∃c,a3B ((k:Int),l)=some c∧0≤c∧c≤65*l.length:=by
 have key:∀(j i:Nat)(c:Int),i+j=l.length→0≤c→c≤65*i→∃c',y0s a4f ((k:Int),c,l,(l.length:Int),(i:Int),())=some (c',())∧0≤c'∧c'≤65*l.length:=by
  intro j
  induction j with
  |zero=>
   intro i c hi f g;obtain rfl:i=l.length:=by omega
   simp_all[a0F,a4f]
  |succ j ih=>
   intro i c hi f g;have h:i<l.length:=by omega
   obtain⟨d,a,b,m⟩:=c2i n (lA.1 o _ (a05 h));have e:wrap .i64 (c+d)=c+d:=a0C (by omega);rw[a0E (s':=((k:Int),c+d,l,(l.length:Int),((i+1:Nat):Int),())) (by simp only[a4f,dlt h,cT,a0D h,oB,a,e,a0B (show i<1000000 by omega)])];exact ih (i+1) _ (by omega) (by omega) (by omega)
 obtain⟨c,g,p,q⟩:=key l.length 0 0 (by omega) (by omega) (by omega);simp_all[a3B]
theorem c8m{n:Nat}(g:w≤32)(f:n<10000):0≤(w:Int)*(n:Int)∧(w:Int)*(n:Int)≤32*n:=by
 have h:w*n≤32*n:=a25 _ g;omega
theorem c2j(h:l.length<10000):∃c,a6d l=some c∧0≤c∧c≤5+32*l.length:=by
 have g:=c8m (a6Q l) h;refine⟨5+((a0J l:Nat):Int)*((l.length:Nat):Int),?_,by omega,by omega⟩;unfold a6d;simp only[a2w (show short l by unfold short;omega),oB]
 grind[a0C]
theorem b5c{zn:List Nat}{p:Prt}(H:p.2.1.length=zn.length)(g:p.2.1.all kB=true)(I:zn.length≤256):∀(j i:Nat)(l:List Int)(c:Int),i+j=zn.length→(zn.drop i).sum=l.length→l.all a0A=true→l.length≤5000→4≤c→c+10*j+65*l.length<1000000→
  ∃c',y0s a1y (l,c,(zn.length:Int),(i:Int),a1s zn,p,())=some (c',())∧4≤c'
 |0,i,l,c,hi,_,_,_,hc,_=>by
  obtain rfl:i=zn.length:=by omega
  simp_all[a0F,a1y]
 |j+1,i,l,c,hi,hsum,hw,hl5,hc,hb=>by
  have h:i<zn.length:=by omega
  have f:i<p.2.1.length:=by omega
  have q:=lA.1 g _ (a05 f);rw[b6y h]at hsum;have z:decide ((0:Int)≤(i:Int))=true:=by simp
  have A:decide ((i:Int)<(((a1s zn).length:Nat):Int))=true:=by simp_all[a1A]
  have B:decide ((0:Int)≤((zn[i]:Nat):Int))=true:=by simp
  have C:decide (((zn[i]:Nat):Int)≤((l.length:Nat):Int))=true:=by grind
  have s:(l.take zn[i]).length=zn[i]:=by simp_all
  have b:(l.drop zn[i]).length=(zn.drop (i+1)).sum:=by grind
  have v:(l.take zn[i]).all a0A=true:=lA.2 fun x y=>lA.1 hw x (a34 y);have w:(l.drop zn[i]).all a0A=true:=lA.2 fun x y=>lA.1 hw x (a35 y);have e:∃d,a1y (l,c,(zn.length:Int),(i:Int),a1s zn,p,())=some (.inl (l.drop zn[i],c+d,(zn.length:Int),((i+1:Nat):Int),a1s zn,p,()))∧0≤d∧d≤10+65*zn[i]:=by
   by_cases h31:p.2.1[i]=31
   have a:(p.2.1[i]==31)=true:=by simp_all
   obtain⟨r,m,t,u⟩:=c2j (l:=l.take zn[i]) (by omega);have n:wrap .i64 (5+r)=5+r:=a0C (by omega);have o:wrap .i64 (c+(5+r))=c+(5+r):=a0C (by omega);refine⟨5+r,?_,by omega,by omega⟩;simp only[a1y,dlt h,z,A,a8I h,B,C,cT,a03,tN,a0D f,oB,a,m,n,o,a19,a0B (show i<1000000 by omega)];have a:(p.2.1[i]==31)=false:=by simp_all
   simp[kB]at q;obtain⟨K,D⟩:=a01 (show 0≤p.2.1[i]by omega);obtain⟨r,m,t,u⟩:=c3z (k:=K) (by omega) v (by omega);rw[←D]at m;have n:wrap .i64 (5+r)=5+r:=a0C (by omega);have o:wrap .i64 (c+(5+r))=c+(5+r):=a0C (by omega);refine⟨5+r,?_,by omega,by omega⟩;simp only[a1y,dlt h,z,A,a8I h,B,C,cT,cF,a03,tN,a0D f,oB,a,m,n,o,a19,a0B (show i<1000000 by omega)]
  obtain⟨d,E,F,G⟩:=e;rw[a0E E];exact b5c H g I j (i+1) (l.drop zn[i]) _ (by omega) b.symm w (by omega) (by omega) (by omega)
structure PartsOk (p:Prt) (n warm:Int) (l:List Int) (zn:List Nat):Prop where
 may:a5S p n warm=true
 sizes:a1Q p.1 n warm=a1s zn
 sum:zn.sum=l.length
 len:zn.length≤256
 ks:p.2.1.length=zn.length
 all:p.2.1.all kB=true
 wide:l.all a0A=true
 short:l.length≤5000
 row:a6J n warm=true
 rest:(l.length:Int)=n-warm
 order:0≤p.1∧p.1≤8
theorem PartsOk.of{p:Prt}{n warm:Int}{l:List Int}(h:a5S p n warm=true)(i:(l.length:Int)=n-warm)(j:l.all a0A=true)(e:l.length≤5000):∃g,PartsOk p n warm l g:=by
 have f:=h;simp only[a5S,bA,a33,beq_eq_false_iff_ne,ne_eq,beq_iff_eq]at f;obtain⟨c,o,d⟩:=f;obtain⟨g,a,m,b⟩:=b5H c;have k:a6J n warm=true∧0≤p.1∧p.1≤8:=by
  grind[a1Q]
 exact⟨g,h,a,by omega,b,by simp_all[a1A],d,j,e,k.1,i,k.2⟩
theorem b1V{n warm:Int}{l:List Int}(h:a6J n warm=true)(c:(l.length:Int)=n-warm)(d:l.all a0A=true)(a:l.length≤5000):a7C (n,warm,l)=some true:=by
 have e:wrap .i64 (n-warm)=n-warm:=by
  simp[a6J]at h;exact a0C (by omega)
 have k:(((l.length:Nat):Int) != n-warm)=false:=by simp_all
 have f:b4n=a2J:=rfl;have g:short l:=by unfold short;omega
 have b:=a4L g;simp_all[a2E,a7C,b4w]
theorem c0Z(h:PartsOk p n warm l zn):∃c,a4X (p,n,warm,l)=some c∧4≤c:=by
 have k:Go.Ab.short p.2.1:=by have:=h.ks;have:=h.len;unfold Go.Ab.short;omega
 have a:=h.short;have b:=h.len;obtain⟨c,g,f⟩:=b5c h.ks h.all h.len zn.length 0 l 4 (by omega) (by rw[a28];exact h.sum) h.wide h.short (by omega) (by omega);simp at g;refine⟨c,?_,f⟩;unfold a4X;simp only[b4x k,h.may,b1V h.row h.rest h.wide h.short,oB,bT,cF,a2i,h.sizes,a1A,g]
def a4B(p:Prt)(zn:List Nat)(l L:List Int):List Int:=a4Z zn p.2.1 l (a0P (wrap .u64 p.1) 4 L)
theorem c4r(h:PartsOk p n warm l zn)(i:L.length<700000000):b2y (wL L,p,n,warm,l)=some (0,wL (a4B p zn l L)):=by
 have e:=h.short;have j:=h.len;obtain⟨c,a,b⟩:=c0Z h;have k:(c==0)=false:=by grind
 have d:=a0W (wrap .u64 p.1) 4 L;have f:a0I (wL L,wrap .u64 p.1,(4:Int))=some (a8H (wrap .u64 p.1) 4,wL (a0P (wrap .u64 p.1) 4 L)):=a3r (n:=4) (by omega) (by omega);have g:=b6c h.ks h.all h.len zn.length 0 l (a0P (wrap .u64 p.1) 4 L) (by omega) (by rw[a28];exact h.sum) h.wide h.short (by omega);simp at g;unfold b2y;simp only[a,oB,k,cF,f,a2i,h.sizes,a1A,g,a4B]
theorem c1a{c:List Int}{wd:Nat}(k:wd≤32)(g:c.length<10000):∀(j i:Nat)(L:List Int),i+j=c.length→L.length+64*j<999990000→
  y0s a6p ((wd:Int),c,(c.length:Int),(i:Int),wL L,())=some (wL (a1J wd (c.drop i) L),())
 |0,i,L,hi,_=>by
  obtain rfl:i=c.length:=by omega
  simp_all[a0F,a6p,a1J]
 |j+1,i,L,hi,hb=>by
  have h:i<c.length:=by omega
  have f:=a0W (a0X c[i] wd) wd L;rw[a02 h,a0E (s':=((wd:Int),c,(c.length:Int),((i+1:Nat):Int),wL (a0P (a0X c[i] wd) wd L),())) (by
   simp only[a6p,dlt h,cT,a0D h,oB,b4A (show wd≤63 by omega) (show L.length<999999000 by omega),a0B (show i<1000000 by omega)])]
  exact c1a k g j (i+1) _ (by omega) (by omega)
theorem c2J{t:List Int}{n wd:Int}{s:Sub}(a:t.length=3):∀(j i:Nat)(L:List Int),i+j=3→L.length+64*j<999990000→
  y0s b1q (n,wd,t,(i:Int),wL L,s,())=some (n,wd,wL (a1J 8 (t.drop i) L),s,())
 |0,i,L,hi,_=>by
  obtain rfl:i=t.length:=by omega
  grind[a0F,b1q,a1J]
 |j+1,i,L,hi,hb=>by
  have h:i<t.length:=by omega
  have f:decide ((i:Int)<3)=true:=by grind
  have k:=a0W (a0X t[i] 8) 8 L;have g:a2U (wL L,t[i],(8:Int))=some (wL (a0P (a0X t[i] 8) 8 L)):=b4A (n:=8) (by omega) (by omega);rw[a02 h,a0E (s':=(n,wd,t,((i+1:Nat):Int),wL (a0P (a0X t[i] 8) 8 L),s,())) (by
   simp only[b1q,f,cT,a0D h,oB,g,a0B (show i<1000000 by omega)])]
  exact c2J a j (i+1) _ (by omega) (by omega)
theorem c2K{l:List Int}{n:Int}{wd:Nat}{s:Sub}(k:wd≤32)(g:l.length<10000):∀(j i:Nat)(L:List Int),i+j=l.length→L.length+64*j<999990000→
  y0s b1s (n,(wd:Int),l,(l.length:Int),(i:Int),wL L,s,())=some (n,wL (a1J wd (l.drop i) L),s,())
 |0,i,L,hi,_=>by
  obtain rfl:i=l.length:=by omega
  simp_all[a0F,b1s,a1J]
 |j+1,i,L,hi,hb=>by
  have h:i<l.length:=by omega
  have f:=a0W (a0X l[i] wd) wd L;rw[a02 h,a0E (s':=(n,(wd:Int),l,(l.length:Int),((i+1:Nat):Int),wL (a0P (a0X l[i] wd) wd L),s,())) (by
   simp only[b1s,dlt h,cT,a0D h,oB,b4A (show wd≤63 by omega) (show L.length<999999000 by omega),a0B (show i<1000000 by omega)])]
  exact c2K k g j (i+1) _ (by omega) (by omega)
def a6M(s:Stg)(L:List Int):List Int:=a0P (wrap .u64 s.2.1) 4 (a0P (wrap .u64 (wrap .i64 (s.1-1))) 5 L)
def a3t(st:List Stg)(L:List Int):List Int:=st.foldl (fun L s=>a6M s L) L
theorem b7A(s:Stg)(L:List Int):(a6M s L).length≤L.length+9:=by
 grind[a0W,a6M]
theorem b6d:∀(st:List Stg)(L:List Int),(a3t st L).length≤L.length+9*st.length
 | [],L=>by simp[a3t]
 |s::st,L=>by
  have h:=b7A s L;have g:=b6d st (a6M s L);have e:a3t (s::st) L=a3t st (a6M s L):=rfl
  grind
theorem b9f{st:List Stg}{n wd:Int}{s:Sub}(a:st.length<10000):∀(j i:Nat)(L:List Int),i+j=st.length→L.length+64*j<999990000→
  y0s b1r (n,wd,st,(st.length:Int),(i:Int),wL L,s,())=some (n,wd,wL (a3t (st.drop i) L),s,())
 |0,i,L,hi,_=>by
  obtain rfl:i=st.length:=by omega
  simp_all[a0F,b1r,a3t]
 |j+1,i,L,hi,hb=>by
  have h:i<st.length:=by omega
  have k:=a0W (wrap .u64 (wrap .i64 (st[i].1-1))) 5 L;have b:=b7A st[i] L;have g:a0I (wL L,wrap .u64 (wrap .i64 (st[i].1-1)),(5:Int))=some (a8H (wrap .u64 (wrap .i64 (st[i].1-1))) 5,wL (a0P (wrap .u64 (wrap .i64 (st[i].1-1))) 5 L)):=a3r (n:=5) (by omega) (by omega);have f:a0I (wL (a0P (wrap .u64 (wrap .i64 (st[i].1-1))) 5 L),wrap .u64 st[i].2.1,(4:Int))=some (a8H (wrap .u64 st[i].2.1) 4,wL (a6M st[i] L)):=a3r (n:=4) (by omega) (by omega);rw[a02 h,a0E (s':=(n,wd,st,(st.length:Int),((i+1:Nat):Int),wL (a6M st[i] L),s,())) (by
   simp only[b1r,dlt h,cT,a0D h,oB,g,f,a0B (show i<1000000 by omega)])]
  exact b9f a j (i+1) _ (by omega) (by omega)
def a6N(s:Sub)(L:List Int):List Int:=
 a1J (a0J s.2.2.2.2.2.1) s.2.2.2.2.2.1 (a0P ((a0J s.2.2.2.2.2.1:Nat):Int) 5 (a0P (wrap .u64 s.2.2.2.1) 4 (a0P (wrap .u64 (wrap .i64 (((s.2.2.2.2.2.1.length:Nat):Int)-1))) 5 L)))
theorem c3A{s:Sub}(h:s.2.2.2.2.2.1.length≤40)(L:List Int):(a6N s L).length≤L.length+2000:=by
 unfold a6N;have f:=a0W (wrap .u64 (wrap .i64 (((s.2.2.2.2.2.1.length:Nat):Int)-1))) 5 L;have k:=a0W (wrap .u64 s.2.2.2.1) 4 (a0P (wrap .u64 (wrap .i64 (((s.2.2.2.2.2.1.length:Nat):Int)-1))) 5 L);have a:=a0W ((a0J s.2.2.2.2.2.1:Nat):Int) 5 (a0P (wrap .u64 s.2.2.2.1) 4 (a0P (wrap .u64 (wrap .i64 (((s.2.2.2.2.2.1.length:Nat):Int)-1))) 5 L));have b:=a6K (a0J s.2.2.2.2.2.1) s.2.2.2.2.2.1 (a0P ((a0J s.2.2.2.2.2.1:Nat):Int) 5 (a0P (wrap .u64 s.2.2.2.1) 4 (a0P (wrap .u64 (wrap .i64 (((s.2.2.2.2.2.1.length:Nat):Int)-1))) 5 L)));have g:=a6Q s.2.2.2.2.2.1
 have:a0J s.2.2.2.2.2.1*s.2.2.2.2.2.1.length≤32*40:=Nat.mul_le_mul g h
 omega
theorem b9g(h:s.2.2.2.2.2.1.length≤40)(l:L.length<900000000):a9c (wL L,s)=some (wL (a6N s L)):=by
 have e:=a0W (wrap .u64 (wrap .i64 (((s.2.2.2.2.2.1.length:Nat):Int)-1))) 5 L;have i:=a0W (wrap .u64 s.2.2.2.1) 4 (a0P (wrap .u64 (wrap .i64 (((s.2.2.2.2.2.1.length:Nat):Int)-1))) 5 L);have j:=a0W ((a0J s.2.2.2.2.2.1:Nat):Int) 5 (a0P (wrap .u64 s.2.2.2.1) 4 (a0P (wrap .u64 (wrap .i64 (((s.2.2.2.2.2.1.length:Nat):Int)-1))) 5 L));have k:=a6Q s.2.2.2.2.2.1;have f:wrap .u64 ((a0J s.2.2.2.2.2.1:Nat):Int)=((a0J s.2.2.2.2.2.1:Nat):Int):=a0M (by omega);have a:a0I (wL L,wrap .u64 (wrap .i64 (((s.2.2.2.2.2.1.length:Nat):Int)-1)),(5:Int))=some (a8H (wrap .u64 (wrap .i64 (((s.2.2.2.2.2.1.length:Nat):Int)-1))) 5,wL (a0P (wrap .u64 (wrap .i64 (((s.2.2.2.2.2.1.length:Nat):Int)-1))) 5 L)):=a3r (n:=5) (by omega) (by omega);have b:a0I (wL (a0P (wrap .u64 (wrap .i64 (((s.2.2.2.2.2.1.length:Nat):Int)-1))) 5 L),wrap .u64 s.2.2.2.1,(4:Int))=some (a8H (wrap .u64 s.2.2.2.1) 4,wL (a0P (wrap .u64 s.2.2.2.1) 4 (a0P (wrap .u64 (wrap .i64 (((s.2.2.2.2.2.1.length:Nat):Int)-1))) 5 L))):=a3r (n:=4) (by omega) (by omega);have d:a0I (wL (a0P (wrap .u64 s.2.2.2.1) 4 (a0P (wrap .u64 (wrap .i64 (((s.2.2.2.2.2.1.length:Nat):Int)-1))) 5 L)),((a0J s.2.2.2.2.2.1:Nat):Int),(5:Int))=some (a8H ((a0J s.2.2.2.2.2.1:Nat):Int) 5,wL (a0P ((a0J s.2.2.2.2.2.1:Nat):Int) 5 (a0P (wrap .u64 s.2.2.2.1) 4 (a0P (wrap .u64 (wrap .i64 (((s.2.2.2.2.2.1.length:Nat):Int)-1))) 5 L)))):=a3r (n:=5) (by omega) (by omega);have g:=c1a (c:=s.2.2.2.2.2.1) k (by omega) s.2.2.2.2.2.1.length 0 (a0P ((a0J s.2.2.2.2.2.1:Nat):Int) 5 (a0P (wrap .u64 s.2.2.2.1) 4 (a0P (wrap .u64 (wrap .i64 (((s.2.2.2.2.2.1.length:Nat):Int)-1))) 5 L))) (by omega) (by omega);simp at g;unfold a9c;simp only[a,b,a2w (show short s.2.2.2.2.2.1 by unfold short;omega),f,d,g,oB,a6N]
def b2E(s:Sub)(L:List Int):List Int:=
 a0P ((a0J s.2.2.2.2.2.2.2.2.1:Nat):Int) 5 (a0P (wrap .u64 s.2.1) 5 (a0P (wrap .u64 s.1) 3 L))
def a2G(s:Sub)(L:List Int):List Int:=
 if s.1=2 then a0P (wrap .u64 s.2.2.1) 3 L
 else if s.1=3 then a6N s L
 else if s.1=4 then a6N s (a1J 8 s.2.2.2.2.2.2.1 (a0P (wrap .u64 (wrap .i64 (s.2.2.2.2.1-1))) 10 L))
 else if s.1=5 then a3t s.2.2.2.2.2.2.2.1 (a0P (wrap .u64 ((s.2.2.2.2.2.2.2.1.length:Nat):Int)) 2 L)
 else L
theorem c4s(h:SmallS s)(L:List Int):(a2G s L).length≤L.length+3000:=by
 have f:=h.coefs;have k:=h.taps;have g:=h.stages
 grind[a2G,a0W,c3A,a6K,b6d]
theorem b7B:∀(zs:List Nat)(ks l L:List Int),ks.all kB=true→(a4Z zs ks l L).length≤L.length+10*zs.length+100*l.length
 |z::zs,k::ks,l,L,h=>by
  simp only[a07,bA]at h;have g:=b8b h.1 (l.take z) L;have f:=b7B zs ks (l.drop z) (b0F k (l.take z) L) h.2;rw[a94]at g;rw[a52]at f;simp only[a4Z,lC];omega
 | [],_,_,_,_=>by simp_all[a4Z]
 |_::_,[],_,_,_=>by grind[a4Z]
def a5x(s:Sub)(zn:List Nat)(L:List Int):List Int:=
 if s.1=0∨s.1=1 then a1J (a0J s.2.2.2.2.2.2.2.2.1) s.2.2.2.2.2.2.2.2.1 (a2G s (b2E s L))
 else a4B s.2.2.2.2.2.2.2.2.2.1 zn s.2.2.2.2.2.2.2.2.2.2.1 (a1J (a0J s.2.2.2.2.2.2.2.2.1) s.2.2.2.2.2.2.2.2.1 (a2G s (b2E s L)))
theorem b6z(h:SmallS s)(R:L.length<100000000):
  ∃(e:Int)(L':List Int),b0S (wL L,s,n)=some (e,wL L')∧(e=0∨L'=L)∧L'.length≤L.length+700000∧
   ((a2t s n).isSome=true→e=0∧∃a,L'=a5x s a L∧(s.1≠0∧s.1≠1→PartsOk s.2.2.2.2.2.2.2.2.2.1 n ((s.2.2.2.2.2.2.2.2.1.length:Nat):Int) s.2.2.2.2.2.2.2.2.2.2.1 a))∧((a2t s n).isSome=false→e=1∧L'=L):=by
 unfold b0S;simp only[c0W h,oB];cases hs:(a2t s n).isSome with
 |false=>exact⟨1,L,rfl,.inr rfl,by omega,fun h=>(by grind),fun _=>⟨rfl,rfl⟩⟩
 |true=>
  have hp:a1x s n:=by
   grind[a2t]
  obtain⟨P,Q,z,-,-,-,-,u,D,A,-,o⟩:=hp;have b:=c8k z;have m:=a6Q s.2.2.2.2.2.2.2.2.1;have r:short s.2.2.2.2.2.2.2.2.1:=by have:=h.warm;unfold short;omega
  have c:=h.warm;have q:=h.rest;have B:=h.stages;have C:=h.taps;have q1:=a0W (wrap .u64 s.1) 3 L;have S:=a0W (wrap .u64 s.2.1) 5 (a0P (wrap .u64 s.1) 3 L);have T:=a0W ((a0J s.2.2.2.2.2.2.2.2.1:Nat):Int) 5 (a0P (wrap .u64 s.2.1) 5 (a0P (wrap .u64 s.1) 3 L));have y:wrap .u64 ((a0J s.2.2.2.2.2.2.2.2.1:Nat):Int)=((a0J s.2.2.2.2.2.2.2.2.1:Nat):Int):=a0M (by omega);have H:a0I (wL L,wrap .u64 s.1,(3:Int))=some (a8H (wrap .u64 s.1) 3,wL (a0P (wrap .u64 s.1) 3 L)):=a3r (n:=3) (by omega) (by omega);have I:a0I (wL (a0P (wrap .u64 s.1) 3 L),wrap .u64 s.2.1,(5:Int))=some (a8H (wrap .u64 s.2.1) 5,wL (a0P (wrap .u64 s.2.1) 5 (a0P (wrap .u64 s.1) 3 L))):=a3r (n:=5) (by omega) (by omega);have v:a0I (wL (a0P (wrap .u64 s.2.1) 5 (a0P (wrap .u64 s.1) 3 L)),((a0J s.2.2.2.2.2.2.2.2.1:Nat):Int),(5:Int))=some (a8H ((a0J s.2.2.2.2.2.2.2.2.1:Nat):Int) 5,wL (b2E s L)):=a3r (n:=5) (by omega) (by omega);have K:(b2E s L).length≤L.length+13:=by unfold b2E;omega
  generalize hM:b2E s L=M at v K;have U:=c4s h M;have N:=a6K (a0J s.2.2.2.2.2.2.2.2.1) s.2.2.2.2.2.2.2.2.1 (a2G s M);have V:a0J s.2.2.2.2.2.2.2.2.1*s.2.2.2.2.2.2.2.2.1.length≤32*5000:=Nat.mul_le_mul m c;have g:=c2K (l:=s.2.2.2.2.2.2.2.2.1) (n:=n) (s:=s) m (by omega) s.2.2.2.2.2.2.2.2.1.length 0 (a2G s M) (by omega) (by omega);simp at g

  have i:=b9f (st:=s.2.2.2.2.2.2.2.1) (n:=n) (wd:=((a0J s.2.2.2.2.2.2.2.2.1:Nat):Int)) (s:=s) (by omega) s.2.2.2.2.2.2.2.1.length 0 (a0P (wrap .u64 ((s.2.2.2.2.2.2.2.1.length:Nat):Int)) 2 M) (by omega) (by grind[a0W]);have X:=a0W (wrap .u64 (wrap .i64 (s.2.2.2.2.1-1))) 10 M;have Y:=a6K 8 s.2.2.2.2.2.2.1 (a0P (wrap .u64 (wrap .i64 (s.2.2.2.2.1-1))) 10 M);have j:=c2J (t:=s.2.2.2.2.2.2.1) (n:=n) (wd:=((a0J s.2.2.2.2.2.2.2.2.1:Nat):Int)) (s:=s) C 3 0 (a0P (wrap .u64 (wrap .i64 (s.2.2.2.2.1-1))) 10 M) (by rfl) (by omega);simp at i j;have E:a0I (wL M,wrap .u64 s.2.2.1,(3:Int))=some (a8H (wrap .u64 s.2.2.1) 3,wL (a0P (wrap .u64 s.2.2.1) 3 M)):=a3r (n:=3) (by omega) (by omega);have F:a0I (wL M,wrap .u64 (wrap .i64 (s.2.2.2.2.1-1)),(10:Int))=some (a8H (wrap .u64 (wrap .i64 (s.2.2.2.2.1-1))) 10,wL (a0P (wrap .u64 (wrap .i64 (s.2.2.2.2.1-1))) 10 M)):=a3r (n:=10) (by omega) (by omega);have G:a0I (wL M,wrap .u64 ((s.2.2.2.2.2.2.2.1.length:Nat):Int),(2:Int))=some (a8H (wrap .u64 ((s.2.2.2.2.2.2.2.1.length:Nat):Int)) 2,wL (a0P (wrap .u64 ((s.2.2.2.2.2.2.2.1.length:Nat):Int)) 2 M)):=a3r (n:=2) (by omega) (by omega);have w:=b9g (s:=s) h.coefs (L:=M) (by omega);have x:=b9g (s:=s) h.coefs (L:=a1J 8 s.2.2.2.2.2.2.1 (a0P (wrap .u64 (wrap .i64 (s.2.2.2.2.1-1))) 10 M)) (by omega);simp only[bT,cF,a2w r,oB,H,I,y,v];generalize hPM:a1J (a0J s.2.2.2.2.2.2.2.2.1) s.2.2.2.2.2.2.2.2.1 (a2G s M)=PM at g N

  have tail:∀(d:s.1≠0∧s.1≠1),∃a,PartsOk s.2.2.2.2.2.2.2.2.2.1 n ((s.2.2.2.2.2.2.2.2.1.length:Nat):Int) s.2.2.2.2.2.2.2.2.2.2.1 a:=fun d=>by
   simp_all[PartsOk.of]
  rcases b with k|k|k|k|k|k;have f:a2G s M=M:=by unfold a2G;grind
  rw[f]at g;refine⟨0,PM,?_,.inl rfl,by omega,fun _=>⟨rfl,[],by simp_all[a5x],fun h=>absurd k (by omega)⟩,fun h=>by grind⟩;simp only[k,show((0:Int)==2)=false from rfl,show((0:Int)==4)=false from rfl,show((0:Int)==3)=false from rfl,show((0:Int)==5)=false from rfl,cF,oB,g,a6P]
  simp
  have f:a2G s M=M:=by unfold a2G;grind
  rw[f]at g;refine⟨0,PM,?_,.inl rfl,by omega,fun _=>⟨rfl,[],by simp_all[a5x],fun h=>absurd k (by omega)⟩,fun h=>by grind⟩;simp only[k,show((1:Int)==2)=false from rfl,show((1:Int)==4)=false from rfl,show((1:Int)==3)=false from rfl,show((1:Int)==5)=false from rfl,cF,oB,g,a6P]
  simp
  all_goals
   obtain⟨a,p⟩:=tail (by omega);have Z:=c4r (L:=PM) p (by omega);have O:(a4B s.2.2.2.2.2.2.2.2.2.1 a s.2.2.2.2.2.2.2.2.2.2.1 PM).length≤L.length+700000:=by
    have z1:=a0W (wrap .u64 s.2.2.2.2.2.2.2.2.2.1.1) 4 PM;have z2:=b7B a s.2.2.2.2.2.2.2.2.2.1.2.1 s.2.2.2.2.2.2.2.2.2.2.1 (a0P (wrap .u64 s.2.2.2.2.2.2.2.2.2.1.1) 4 PM) p.all;have z3:=p.len
    grind[a4B]
   refine⟨0,a4B s.2.2.2.2.2.2.2.2.2.1 a s.2.2.2.2.2.2.2.2.2.2.1 PM,?_,.inl rfl,O,fun _=>⟨rfl,a,by simp_all[a5x],fun _=>p⟩,fun h=>by grind⟩
  have f:a2G s M=a0P (wrap .u64 s.2.2.1) 3 M:=by unfold a2G;grind
  rw[f]at g;simp only[k,show((2:Int)==2)=true from rfl,cT,E,oB,g,a6P]
  grind
  have f:a2G s M=a6N s M:=by unfold a2G;grind
  rw[f]at g;simp only[k,show((3:Int)==2)=false from rfl,show((3:Int)==4)=false from rfl,show((3:Int)==3)=true from rfl,cT,cF,w,oB,g,a6P]
  grind
  have f:a2G s M=a6N s (a1J 8 s.2.2.2.2.2.2.1 (a0P (wrap .u64 (wrap .i64 (s.2.2.2.2.1-1))) 10 M)):=by unfold a2G;grind
  rw[f]at g;simp only[k,show((4:Int)==2)=false from rfl,show((4:Int)==4)=true from rfl,cT,cF,F,j,x,oB,g,a6P]
  grind
  have f:a2G s M=a3t s.2.2.2.2.2.2.2.1 (a0P (wrap .u64 ((s.2.2.2.2.2.2.2.1.length:Nat):Int)) 2 M):=by unfold a2G;grind
  rw[f]at g;simp only[k,show((5:Int)==2)=false from rfl,show((5:Int)==4)=false from rfl,show((5:Int)==3)=false from rfl,show((5:Int)==5)=true from rfl,cT,cF,G,i,oB,g,a6P]
  grind
theorem b5I(h:List Nat):(a1s h).map a42=h:=by
 unfold a1s;rw[List.map_map]
 have:a42∘(fun(a:Nat)=>(a:Int))=id:=by rfl
 simp_all
def a5m(s:Sub)(n:Int):Int:=
 if(a2t s n).isSome=true then(((a5x s ((a1Q s.2.2.2.2.2.2.2.2.2.1.1 n ((s.2.2.2.2.2.2.2.2.1.length:Nat):Int)).map a42) []).length:Nat):Int)else 0
theorem c2k(h:s.1≠0∧s.1≠1→PartsOk s.2.2.2.2.2.2.2.2.2.1 n ((s.2.2.2.2.2.2.2.2.1.length:Nat):Int) s.2.2.2.2.2.2.2.2.2.2.1 zn)(L:List Int):
  a5x s zn L=a5x s ((a1Q s.2.2.2.2.2.2.2.2.2.1.1 n ((s.2.2.2.2.2.2.2.2.1.length:Nat):Int)).map a42) L:=by
 by_cases hk:s.1=0∨s.1=1
 simp_all[a5x];rw[(h (not_or.1 hk)).sizes,b5I]
theorem c6b(h:SmallS s)(n:Int):a4r (s,n)=some (a5m s n):=by
 obtain⟨e,f,g,-,-,k,c⟩:=b6z h (n:=n) (L:=[]) (by simp);have a:wL []=(([]:List Int),(0:Int),()):=rfl;rw[a]at g;obtain⟨d,-⟩:=a6e f;unfold a4r a5m;simp[g,a9w];cases hs:(a2t s n).isSome with
 |false=>
  simp_all
 |true=>
  obtain⟨rfl,i,rfl,b⟩:=k hs;rw[if_pos rfl,←c2k b];simp_all
def dif:List Int→List Int
 |a::b::r=>W (b-a)::dif (b::r)
 |_=>[]
theorem a9l:∀l:List Int,(dif l).length=l.length-1
 | []=>rfl
 | [_]=>rfl
 |a::b::r=>by simp[dif,a9l (b::r)]
theorem c2l:∀(l:List Int)(i:Nat)(x y:Int),l[i]?=some x→l[i+1]?=some y→(dif l)[i]?=some (W (y-x))
 |a::b::r,0,x,y,h1,h2=>by simp at h1 h2;subst h1;subst h2;rfl
 |a::b::r,i+1,x,y,h1,h2=>by
  simp only[dif,List.getElem?_cons_succ]at h1 h2⊢;exact c2l (b::r) i x y h1 h2
 | [_],0,x,y,h1,h2=>by simp_all
 | [_],i+1,x,y,h1,h2=>by simp_all
 | [],i,x,y,h1,h2=>by simp_all
def a2u:Nat→List Int→List Int
 |0,l=>l
 |o+1,l=>dif (a2u o l)
theorem a6f(l:List Int):∀o,(a2u o l).length=l.length-o
 |0=>rfl
 |o+1=>by simp only[a2u,a9l,a6f l o];omega
theorem b6A{l:List Int}(h:short l)(o:Nat):short (a2u o l):=by
 have h:l.length<1000000:=h;show(a2u o l).length<1000000;rw[a6f];omega
def b1W(l:List Int)(i:Nat):List Int:=(dif l).take i++l.drop i
theorem b5J(h:i≤l.length-1):(b1W l i).length=l.length:=by
 grind[b1W,a9l]
theorem c2L(h:i≤l.length-1)(g:i≤j):(b1W l i).getD j 0=l.getD j 0:=by
 simp_all[a9l,b1W,List.getElem?_append_right]
theorem c9D(h:i<l.length-1):(b1W l i).set i (W (l.getD (i+1) 0-l.getD i 0))=b1W l (i+1):=by
 have e:((dif l).take i).length=i:=by grind[a9l]
 have f:l[i]?=some l[i]:=lG (by omega);have k:l[i+1]?=some l[i+1]:=lG (by omega);have a:=c2l l i _ _ f k;have g:i<(dif l).length:=by grind
 simp only[b1W];rw[List.set_append,if_neg (by omega),e,a56,a02 (show i<l.length by omega),a60,a49 g,aA]
 grind
theorem c7d{l:List Int}{o k:Int}(g:short l)(h:1≤l.length):y0s a5J ((0:Int),o,k,l,())=some (o,k,b1W l (l.length-1),()):=by
 have g:l.length<1000000:=g;have r:b1W l 0=l:=by rfl
 have:=a1D (f:=a5J) (fun i:Nat=>((i:Int),o,k,b1W l i,())) (l.length-1) (b:=(o,k,b1W l (l.length-1),()))
  (fun i hi=>by
   have d:wrap .i64 ((i:Int)+1)=((i+1:Nat):Int):=a0B (by omega);have c:=b5J (l:=l) (i:=i) (by omega);have a:decide (((i+1:Nat):Int)<((l.length:Nat):Int))=true:=by grind
   have e:decide ((0:Int)≤((i+1:Nat):Int))=true:=by rfl
   have m:decide ((0:Int)≤(i:Int))=true:=by simp
   have n:decide ((i:Int)<((l.length:Nat):Int))=true:=by grind
   have n1:a42 ((i+1:Nat):Int)=i+1:=by rfl
   have n2:a42 (i:Int)=i:=by rfl
   have st:=c9D (l:=l) (i:=i) (by omega);have p:=c2L (l:=l) (i:=i) (j:=i+1) (by omega) (by omega);have q:=c2L (l:=l) (i:=i) (j:=i) (by omega) (by omega);simp_all[a5J])
  (by
   have c:=b5J (l:=l) (i:=l.length-1) (by omega);have d:wrap .i64 (((l.length-1:Nat):Int)+1)=((l.length:Nat):Int):=by grind[a0C]
   have a:decide (((l.length:Nat):Int)<((l.length:Nat):Int))=false:=by simp
   simp_all[a5J])
 simp_all
theorem c8n{l:List Int}:(b1W l (l.length-1)).take (l.length-1)=dif l:=by
 simp_all[a48,a9l,b1W]
theorem b7C(y:o≤4)(x:o≤l.length)(g:short l)(r:l.all a0A=true):
  a4U (l,(o:Int))=some (bif (a2u o l).all a0A then(a2u o l,0)else([],6)):=by
 have q:l.length<1000000:=g;have h:=a1D (f:=a8i) (fun k:Nat=>((o:Int),(k:Int),a2u k l,())) o (b:=(a2u o l,()))
  (fun k v=>by
   have n:1≤(a2u k l).length:=by rw[a6f];omega
   have p:(a2u k l).length<1000000:=b6A g k;have j:decide ((k:Int)<(o:Int))=true:=by simp_all
   have w:=b5J (l:=a2u k l) (i:=(a2u k l).length-1) (by omega);have z:wrap .i64 ((((a2u k l).length:Nat):Int)-1)=(((a2u k l).length-1:Nat):Int):=by grind[a0C]
   have w2:wrap .i64 ((k:Int)+1)=((k+1:Nat):Int):=a0B (by omega);have s:decide ((0:Int)≤(((a2u k l).length-1:Nat):Int))=true:=by simp
   have t:decide ((((a2u k l).length-1:Nat):Int)≤(((a2u k l).length:Nat):Int))=true:=by simp
   have u:decide ((a2u k l).length-1≤(a2u k l).length)=true:=by simp
   simp_all[a2u,a8i,c7d,b6A,c8n])
  (by
   have j:decide ((o:Int)<(o:Int))=false:=by simp
   simp_all[a8i])
 have a:decide ((o:Int)<0)=false:=by simp
 have c:decide ((o:Int) > 4)=false:=by grind
 have d:decide (((l.length:Nat):Int)<(o:Int))=false:=by simp_all
 have e:lim l.length=true:=a0T (by omega);simp at h;have m:a2u 0 l=l:=rfl;rw[m]at h;unfold a4U;simp only[a,c,d,e,cF,cT,oB,a7H g,r,bT,h,a7H (b6A g o)]
 grind
def ex:Nat→(Nat→Int)→Nat→Int
 |0,f,i=>f i
 |o+1,f,i=>ex o f (i+1)-ex o f i
theorem b9J{l:List Int}(g:l.all a0A=true):∀(o i:Nat),i+o<l.length→(a2u o l)[i]?=some (W (ex o (fun j=>l.getD j 0) i))
 |0,i,h=>by
  simp_all[a2u,ex,b7Y]
 |o+1,i,h=>by
  have f:=b9J g o i (by omega);have k:=b9J g o (i+1) (by omega);simp_all[a2u,ex,c2l,a8F]
theorem c8o(d:l.all a0A=true)(c:o≤4)(h:o+j<l.length):W (W (ex o (fun j=>l.getD j 0) j)+a6H o (l.take (o+j)))=l.getD (o+j) 0:=by
 have f:a0A (l.getD (o+j) 0)=true:=by
  simp_all
 have g:∀i:Nat,1≤i→i≤o→atB (l.take (o+j)) i=l.getD (o+j-i) 0:=fun i a b=>by
  simp[atB,a71 (a84 h),List.getElem?_take]
  grind
 have key:ex o (fun j=>l.getD j 0) j+a6H o (l.take (o+j))=l.getD (o+j) 0:=by
  have k:o=0∨o=1∨o=2∨o=3∨o=4:=by omega
  rcases k with rfl|rfl|rfl|rfl|rfl;simp[ex,a6H]
  all_goals grind[ex,a6H]
 have:W (W (ex o (fun j=>l.getD j 0) j)+a6H o (l.take (o+j)))=W (ex o (fun j=>l.getD j 0) j+a6H o (l.take (o+j))):=by
  simp_all[a8F]
 simp_all[b7Y]
theorem c4t{l:List Int}(f:l.all a0A=true){o:Nat}(b:o≤4):∀(k j:Nat),o+j+k=l.length→a4t (a6H o) ((a2u o l).drop j) (l.take (o+j))=some l
 |0,j,h=>by
  rw[List.drop_of_length_le (by rw[a6f];omega),a48 (by omega)];rfl
 |k+1,j,h=>by
  have g:j<(a2u o l).length:=by rw[a6f];omega
  have a:=b9J f o j (by omega);rw[lG g]at a;have e:=Option.some.inj a;have c:l.getD (o+j) 0=l[o+j]:=by grind
  have st:=c8o f b (show o+j<l.length by omega);rw[c]at st;rw[a02 g,e];simp only[a4t,st,lA.1 f _ (a05 (show o+j<l.length by omega)),cT];have d:l.take (o+j)++[l[o+j]]=l.take (o+(j+1)):=by
   rw[show o+(j+1)=(o+j)+1 by rfl]
   simp
  rw[d];exact c4t f b k (j+1) (by omega)
theorem a7R{σ β:Type}{f:σ→Option (σ ⊕ β)}(I:Nat→σ→Prop)(Q:β→Prop)(n:Nat)(g:∀i s,i<n→I i s→∃s',f s=some (.inl s')∧I (i+1) s')
  (a:∀s,I n s→∃b,f s=some (.inr b)∧Q b):∀(k i:Nat)(s:σ),i+k=n→I i s→∃b,y0s f s=some b∧Q b
 |0,i,s,h,hi=>by
  obtain rfl:i=n:=by omega
  grind[a0F]
 |k+1,i,s,h,hi=>by
  obtain⟨s',c,d⟩:=g i s (by omega) hi;rw[a0E c];exact a7R I Q n g a k (i+1) s' (by omega) d
theorem b9h(y:Int):0≤wrap .u64 y∧wrap .u64 y<18446744073709551616:=by
 grind[wrap,IntKind.bits,IntKind.signed]
def b2F(n:Int)(x:Int):Bool:=a0A x&&!(a26 x (A0n .i64 1 n) != 0)
def b6B{β:Type}(n:Int)(bad:β)(out:List Int)(x:Int):List Int ⊕ β:=bif b2F n x then .inl (out++[A0o .i64 x n])else .inr bad
def b1A(n:Int)(l:List Int):Option (List Int):=bif l.all (b2F n)then some (l.map fun x=>A0o .i64 x n)else none
theorem b7D{β:Type}(n:Int)(h:β)(g:List Int→β):∀(l out:List Int),a8D g (a2X (b6B n h) l out)=match b1A n l with|some r=>g (out++r)|none=>h
 | [],out=>by grind[a2X,a8D,b1A]
 |x::l,out=>by
  simp only[a2X,b6B,b1A,a07];cases hx:b2F n x with
  |true=>
   simp only[cT,a39];rw[b7D n h g l _];simp only[b1A];cases l.all (b2F n)with
   |true=>simp
   |false=>rfl
  |false=>rfl
theorem c4u{o:Nat}(h:o≤30):A0n .i64 1 (o:Int)=((2^o:Nat):Int):=by
 have g:2^o≤2^30:=a08 (by omega) h
 have:=b9G (N:=1) (o:=o) (by omega) (by omega)
 simp_all
theorem b6e(d:o≤30)(m:l.length<100000):a7A (l,(o:Int))=some (a5o (b1A (o:Int) l)):=by
 have e:short l:=by unfold short;omega
 have g:¬ (o:Int)<0:=by omega
 have b:¬ (o:Int) > 30:=by omega
 have c:(A0n .i64 (1:Int) (o:Int)==0)=false:=by
  rw[c4u d]
  have:0<2^o:=a16 o
  grind
 unfold a7A;simp[g,b]
 have:=a1N (f:=a7g) l (fun i out=>((o:Int),l,(l.length:Int),(i:Int),out,())) (b6B (o:Int) (Sum.inr ((6:Int),([]:List Int),())))
  (fun i out=>out.length=i) (fun out=>Sum.inl (out,()))
  (fun i h out j=>by
   have k:i<1000000:=by omega
   simp only[a7g,dlt h,cT,a0D h,oB,b5W,b6B,b2F,g,c,decide_false,cF];cases hb:a0A l[i]with
   |true=>
    cases hb2:(a26 l[i] (A0n .i64 1 (o:Int)) != 0)with
    |false=>
     simp only[cT,bT,cF,oB,g,decide_false,a0U (show out.length+1<1000000 by omega),a0B k,a03,a36,hb2];simp_all
    |true=>
     simp
   |false=>
    simp)
  (fun out _=>by simp[a7g]) (a:=[]) rfl
 simp[b7D]at this;rw[this];cases b1A (o:Int) l<;>rfl
theorem b9K{o:Nat}(h:o≤30){x:Int}(k:b2F (o:Int) x=true):a0A (A0o .i64 x (o:Int))=true∧A0n .i64 (A0o .i64 x (o:Int)) (o:Int)=x∧a0A x=true:=by
 simp only[b2F,c4u h,bA,a33,bne_eq_false_iff_eq]at k;obtain⟨f,d⟩:=k;obtain⟨c,rfl⟩:=Int.dvd_of_tmod_eq_zero d;have g:=a1O.1 f;have e:min (a42 (o:Int)) (IntKind.bits .i64)=o:=by grind[IntKind.bits]
 have hp:(0:Int)<2^o:=Int.pow_pos (by omega);have b:((2^o:Nat):Int)=2^o:=by simp
 rw[b]at g f⊢;have a:A0o .i64 (2^o*c) (o:Int)=c:=by
  unfold A0o
  grind[a64]
 rw[a];refine⟨a1O.2 ?_,?_,f⟩;generalize (2:Int)^o=p at hp g;have i:p*c=(p-1)*c+c:=by grind
 by_cases hc:0≤c
 have:=a47 (show 0≤p-1 by omega) hc
 omega
 have:=a47 (show 0≤p-1 by omega) (show 0≤-c by omega)
 grind
 grind[A0n,a0C]
theorem d1Y(h:o≤30)(f:b1A (o:Int) l=some d):d.all a0A=true∧d.length=l.length∧upO (o:Int) d=some l:=by
 unfold b1A at f;cases ha:l.all (b2F (o:Int))with
 |false=>simp_all
 |true=>
  rw[ha]at f;simp at f;subst f;have g:=lA.1 ha;refine⟨?_,by simp,?_⟩;simp_all[b9K];have a:(l.map fun x=>A0o .i64 x (o:Int)).all (fun x=>a0A x&&a0A (A0n .i64 x (o:Int)))=true:=by
   simp only[List.all_map];refine lA.2 fun x k=>?_
   obtain⟨c,e,i⟩:=b9K h (g x k);simp_all
  unfold upO;rw[a]
  simp
  have b:l.map ((fun x=>A0n .i64 x (o:Int))∘fun x=>A0o .i64 x (o:Int))=l.map id:=List.map_congr_left (fun x k=>(b9K h (g x k)).2.1);simp_all
theorem c7e{n warm:Int}(h:a6J n warm=true):(a1Q 0 n warm).length≠0:=by
 have g:=h;simp[a6J]at g
 grind[a1Q,b5Y]
theorem c7f(h:-1048576≤x∧x≤1048575):v0s (v0r x (-1048576)) 1048575=x:=by
 unfold v0s v0r
 grind
theorem d5v(h:a0A x=true):-1048576≤A0o .i64 x ((10:Nat):Int)∧A0o .i64 x ((10:Nat):Int)≤1048575:=by
 have g:=a1O.1 h;have e:A0o .i64 x ((10:Nat):Int)=x / 1024:=by
  show a80 x 1024=_
  grind
 omega
theorem c2M{x:Int}(f:a0A x=true){a l:List Int}{n i:Int}:∀(k s:Nat),s+k=10→∃s':Nat,s'≤10∧y0s a3J (a,(s:Int),x,l,n,i,())=some (a,(s':Int),l,n,i,())
 |0,s,h=>by
  obtain rfl:s=10:=by omega
  have g:decide (((10:Nat):Int)<0)=false:=by rfl
  have d:=c7f (d5v f);refine⟨10,a27 _,a0F ?_⟩;simp_all[a3J,a2N]
 |k+1,s,h=>by
  have g:decide ((s:Int)<0)=false:=decide_eq_false (by omega);cases hc:(v0s (v0r (A0o .i64 x (s:Int)) (-1048576)) 1048575 != A0o .i64 x (s:Int))with
  |false=>exact⟨s,by omega,a0F (by simp only[a3J,g,cF,a2N,oB,hc])⟩
  |true=>
   obtain⟨s',b,c⟩:=c2M f (a:=a) (l:=l) (n:=n) (i:=i) k (s+1) (by omega);refine⟨s',b,?_⟩;rw[a0E (s':=(a,((s+1:Nat):Int),x,l,n,i,())) (by simp only[a3J,g,cF,a2N,oB,hc,cT,a0B (show s<1000000 by omega)])];omega
theorem c5G(v:l.all a0A=true)(z:l.length<100000):∃r,a8j l=some r∧r.length=l.length:=by
 obtain⟨b,x,s,y,u⟩:=a7R (f:=a5K) (fun i st=>∃s:Nat,s≤10∧st=(l,(s:Int),l,(l.length:Int),(i:Int),())) (fun b=>∃s:Nat,s≤10∧b=(l,(s:Int),())) l.length
  (fun i st hi h=>by
   obtain⟨s,p,rfl⟩:=h;obtain⟨s',g,e⟩:=c2M (lA.1 v _ (a05 hi)) (a:=l) (l:=l) (n:=(l.length:Int)) (i:=(i:Int)) (10-s) s (by omega);exact⟨_,by simp only[a5K,dlt hi,cT,a0D hi,oB,e,a0B (show i<1000000 by omega)]<;>rfl,s',g,rfl⟩)
  (fun st h=>by
   obtain⟨s,p,rfl⟩:=h;exact⟨_,by simp_all[a5K],s,p,rfl⟩) l.length 0 _ (by omega) ⟨0,by omega,rfl⟩
 subst u;obtain⟨c,w,o,q,t⟩:=a7R (f:=a5L) (fun i st=>∃o:List Int,st=((s:Int),l,(l.length:Int),(i:Int),o,())∧o.length=l.length) (fun b=>∃o:List Int,b=(o,())∧o.length=l.length) l.length
  (fun i st hi h=>by
   obtain⟨o,rfl,m⟩:=h;have k:decide ((s:Int)<0)=false:=decide_eq_false (by omega);have d:decide ((0:Int)≤(i:Int))=true:=by simp
   have j:decide ((i:Int)<((o.length:Nat):Int))=true:=decide_eq_true (by omega);exact⟨_,by simp only[a5L,dlt hi,cT,a0D hi,oB,k,cF,d,j,a03,a0B (show i<1000000 by omega)]<;>rfl,_,rfl,by grind⟩)
  (fun st h=>by
   obtain⟨o,rfl,m⟩:=h;exact⟨_,by simp_all[a5L],o,rfl,m⟩) l.length 0 _ (by omega) ⟨a00 l.length 0,rfl,by simp⟩
 subst q;refine⟨o,?_,t⟩;have k:decide ((0:Int)≤((l.length:Nat):Int))=true:=by simp
 have d:decide (((l.length:Nat):Int)≤((l.length:Nat):Int))=true:=by simp
 have j:lim l.length=true:=a0U (by omega);simp_all[a8j]
theorem c1b:∀(N:Nat)(num den:Int),den.toNat≤N→∃a b,y0s a3A (num,den,())=some (a,b,())
 |N,num,den,h=>by
  by_cases hd:den≥1099511627776
  ·have g:decide (den≥(1099511627776:Int))=true:=decide_eq_true hd;have e:A0o .i64 den 1=den / 2:=by
    show a80 den 2=_
    grind
   rw[a0E (s':=(A0o .i64 num 1,den / 2,())) (by simp_all[a3A])]
   match N with
   |0=>omega
   |N+1=>exact c1b N _ _ (by omega)
  have g:decide (den≥(1099511627776:Int))=false:=decide_eq_false hd;exact⟨num,den,a0F (by simp only[a3A,g,cF])⟩
theorem c1c{f:List Int}(t:1≤m)(r:g.length=f.length)(s:f.length<100000)(q:m<1000):∃k,a5j (f,g,(m:Int))=some k:=by
 obtain⟨b,n,d,den,o⟩:=a7R (f:=a3z) (fun i st=>∃d den:Int,st=(f,g,d,den,((m+i:Nat):Int),())) (fun b=>∃d den:Int,b=(d,den,())) (f.length-m)
  (fun i st hi h=>by
   obtain⟨d,den,rfl⟩:=h;have j:m+i<f.length:=by omega
   have e:wrap .i64 (((m+i:Nat):Int)-1)=((m+i-1:Nat):Int):=by grind[a0C]
   exact⟨_,by simp only[a3z,dlt j,cT,a0D j,e,a0D (show m+i-1<g.length by omega),oB,a0B (show m+i<1000000 by omega)]<;>rfl,_,_,rfl⟩)
  (fun st h=>by
   obtain⟨d,den,rfl⟩:=h;have l:decide (((m+(f.length-m):Nat):Int)<((f.length:Nat):Int))=false:=decide_eq_false (by omega);exact⟨_,by simp only[a3z,l,cF]<;>rfl,_,_,rfl⟩) (f.length-m) 0 (f,g,0,0,(m:Int),()) (by omega) ⟨0,0,rfl⟩
 subst o;obtain⟨a,c,p⟩:=c1b den.toNat d den (a27 _);unfold a5j;simp[n,p];cases hc:(c==0)with
 |true=>simp
 |false=>
  simp
  cases decide ((A0n .i64 a 15).tmod c<0)<;>exact⟨_,rfl⟩
theorem c3B{f:List Int}{order:Int}(x:1≤m)(r:g.length=f.length)(w:f.length<100000)(s:m<1000):
  ∃f' a:List Int,y0s a3o (order,(m:Int),k,((f.length:Nat):Int)-1,f,g,ks,())=some (order,(m:Int),f',a,ks,())∧f'.length=f.length∧a.length=f.length:=by
 obtain⟨b,t,f',a,u,v⟩:=a7R (f:=a3o) (fun i st=>∃f' a:List Int,st=(order,(m:Int),k,((f.length:Nat):Int)-1-(i:Int),f',a,ks,())∧f'.length=f.length∧a.length=f.length)
  (fun b=>∃f' a:List Int,b=(order,(m:Int),f',a,ks,())∧f'.length=f.length∧a.length=f.length) (f.length-m)
  (fun i st hi h=>by
   obtain⟨f',a,rfl,c,d⟩:=h;have j:decide (((f.length:Nat):Int)-1-(i:Int)≥(m:Int))=true:=decide_eq_true (by omega);have l:decide ((0:Int)≤((f.length:Nat):Int)-1-(i:Int))=true:=decide_eq_true (by omega);have n:decide (((f.length:Nat):Int)-1-(i:Int)<((f'.length:Nat):Int))=true:=decide_eq_true (by omega);have o:decide (((f.length:Nat):Int)-1-(i:Int)<((a.length:Nat):Int))=true:=decide_eq_true (by omega);have e:wrap .i64 (((f.length:Nat):Int)-1-(i:Int)-1)=((f.length:Nat):Int)-1-((i+1:Nat):Int):=by grind[a0C]
   have p:decide ((0:Int)≤((f.length:Nat):Int)-1-((i+1:Nat):Int))=true:=decide_eq_true (by omega);have q:decide (((f.length:Nat):Int)-1-((i+1:Nat):Int)<((a.length:Nat):Int))=true:=decide_eq_true (by omega);exact⟨_,by simp only[a3o,j,l,n,o,e,p,q,cT,a03,a2N,oB]<;>rfl,_,_,rfl,by simp_all,by simp_all⟩)
  (fun st h=>by
   obtain⟨f',a,rfl,c,d⟩:=h;have j:decide (((f.length:Nat):Int)-1-((f.length-m:Nat):Int)≥(m:Int))=false:=decide_eq_false (by omega);exact⟨_,by simp only[a3o,j,cF]<;>rfl,f',a,rfl,c,d⟩) (f.length-m) 0 _ (by omega) ⟨f,g,rfl,rfl,r⟩
 grind
theorem c4v{f:List Int}(x:o≤32)(v:g.length=f.length)(w:f.length<100000):∃ks:List Int,y0s a3p ((o:Int),(1:Int),f,g,([]:List Int),())=some (ks,())∧ks.length=o:=by
 obtain⟨b,p,ks,t,u⟩:=a7R (f:=a3p) (fun i st=>∃f' a ks:List Int,st=((o:Int),((i+1:Nat):Int),f',a,ks,())∧f'.length=f.length∧a.length=f.length∧ks.length=i)
  (fun b=>∃ks:List Int,b=(ks,())∧ks.length=o) o
  (fun i st hi h=>by
   obtain⟨f',a,ks,rfl,j,l,q⟩:=h;have d:decide (((i+1:Nat):Int)≤(o:Int))=true:=decide_eq_true (by omega);obtain⟨k,n⟩:=c1c (f:=f') (g:=a) (m:=i+1) (by omega) (by omega) (by omega) (by omega);have e:wrap .i64 (((f'.length:Nat):Int)-1)=((f'.length:Nat):Int)-1:=a0C (by omega);obtain⟨r,s,p,t,u⟩:=c3B (f:=f') (g:=a) (ks:=ks++[k]) (m:=i+1) (order:=(o:Int)) (k:=k) (by omega) (by omega) (by omega) (by omega);have c:lim (ks.length+1)=true:=a0U (by omega);exact⟨_,by simp only[a3p,d,cT,n,oB,c,e,a06,p,a0B (show i+1<1000000 by omega)]<;>rfl,r,s,ks++[k],rfl,by omega,by omega,by grind⟩)
  (fun st h=>by
   obtain⟨f',a,ks,rfl,j,l,q⟩:=h;have d:decide (((o+1:Nat):Int)≤(o:Int))=false:=decide_eq_false (by omega);exact⟨_,by simp only[a3p,d,cF]<;>rfl,ks,rfl,q⟩) o 0 _ (by omega) ⟨f,g,[],rfl,rfl,v,rfl⟩
 simp_all
theorem c4w(h:l.all a0A=true)(t:l.length≤4096)(s:1≤o)(m:o≤32):∃ks:List Int,a7h (l,(o:Int))=some (ks,0)∧ks.length=o:=by
 have p:short l:=by unfold short;omega
 obtain⟨r,e,q⟩:=c5G h (by omega);have n:short r:=by unfold short;omega
 obtain⟨ks,i,j⟩:=c4v (f:=r) (g:=r) m rfl (by omega);have k:decide ((o:Int)<1)=false:=decide_eq_false (by omega);have a:decide ((o:Int) > 32)=false:=decide_eq_false (by omega);have b:decide (((l.length:Nat):Int) > 4096)=false:=decide_eq_false (by omega);have c:decide ((0:Int)≤(o:Int))=true:=by simp
 have d:lim o=true:=a0U (by omega);refine⟨ks,?_,j⟩;unfold a7h;simp only[k,a,b,c,d,cF,cT,oB,a6s p,h,bT,e,a8G n,tN,a03,i]
theorem b4C{σ β:Type}{f:σ→Option (σ ⊕ β)}(I:Nat→σ→Prop)(Q:β→Prop)(n:Nat)(g:∀i s,i<n→I i s→(∃s',f s=some (.inl s')∧I (i+1) s')∨(∃b,f s=some (.inr b)∧Q b))
  (a:∀s,I n s→∃b,f s=some (.inr b)∧Q b):∀(k i:Nat)(s:σ),i+k=n→I i s→∃b,y0s f s=some b∧Q b
 |0,i,s,h,hi=>by
  obtain rfl:i=n:=by omega
  grind[a0F]
 |k+1,i,s,h,hi=>by
  rcases g i s (by omega) hi with⟨s',c,d⟩|⟨b,c,d⟩;rw[a0E c];exact b4C I Q n g a k (i+1) s' (by omega) d;simp_all[a0F]
theorem c5H(g:ks.length≤32):∃b,y0s a2o (ks,ks,(ks.length:Int),(0:Int),())=some b∧(b=.inl (ks,())∨b=.inr (([]:List Int),(1:Int),())):=
 b4C (f:=a2o) (fun i s=>s=(ks,ks,(ks.length:Int),(i:Int),())) (fun b=>b=.inl (ks,())∨b=.inr (([]:List Int),(1:Int),())) ks.length
  (fun i s hi h=>by
   subst h;cases h1:decide (ks[i]<(-16383:Int))with
   |true=>exact Or.inr ⟨_,by simp_all[a2o,a0D],Or.inr rfl⟩
   |false=>
    cases h2:decide (ks[i] > (16383:Int))with
    |true=>exact Or.inr ⟨_,by simp_all[a2o,a0D],Or.inr rfl⟩
    |false=>exact Or.inl ⟨_,by simp only[a2o,dlt hi,cT,cF,a0D hi,oB,h1,h2,a0B (show i<1000000 by omega)]<;>rfl,rfl⟩)
  (fun s h=>by
   subst h;exact⟨_,by simp_all[a2o],Or.inl rfl⟩) ks.length 0 _ (by omega) rfl
theorem c5I{a:List Int}(t:c.length=i)(hi:i≤32):
  ∃g:List Int,y0s a4l (c,(i:Int),k,a,n,(i:Int),c,(c.length:Int),(0:Int),([]:List Int),())=some (k,a,n,(i:Int),g,())∧g.length=i:=by
 obtain⟨b,p,g,q,r⟩:=a7R (f:=a4l) (fun j s=>∃g:List Int,s=(c,(i:Int),k,a,n,(i:Int),c,(c.length:Int),(j:Int),g,())∧g.length=j)
  (fun b=>∃g:List Int,b=(k,a,n,(i:Int),g,())∧g.length=c.length) c.length
  (fun j s e h=>by
   obtain⟨g,rfl,l⟩:=h;have m:wrap .i64 ((i:Int)-1)=(i:Int)-1:=a0C (by omega);have o:wrap .i64 ((i:Int)-1-(j:Int))=((i-1-j:Nat):Int):=by grind[a0C]
   have d:lim (g.length+1)=true:=a0U (by omega);exact⟨_,by simp only[a4l,dlt e,cT,a0D e,oB,m,o,a0D (show i-1-j<c.length by omega),d,a0B (show j<1000000 by omega),a06]<;>rfl,_,rfl,by grind⟩)
  (fun s h=>by
   obtain⟨g,rfl,l⟩:=h;exact⟨_,by simp_all[a4l],g,rfl,l⟩) c.length 0 _ (by omega) ⟨[],rfl,rfl⟩
 simp_all
theorem c7g(x:1≤ks.length)(v:ks.length≤32):∃c e,a8Y ks=some (c,e)∧(e=0→c.length=ks.length):=by
 obtain⟨b,o,p⟩:=c5H v;have d:decide (((ks.length:Nat):Int)<1)=false:=decide_eq_false (by omega);have j:decide (((ks.length:Nat):Int) > 32)=false:=decide_eq_false (by omega);unfold a8Y;simp[d,j,o];rcases p with rfl|rfl;obtain⟨r,q,c,t,u⟩:=a7R (f:=a6n) (fun i s=>∃c:List Int,s=(c,ks,(ks.length:Int),(i:Int),())∧c.length=i) (fun r=>∃c:List Int,r=(c,())∧c.length=ks.length) ks.length
  (fun i s hi h=>by
   obtain⟨c,rfl,g⟩:=h;have m:wrap .i64 ((i:Int)+1)=((i+1:Nat):Int):=a0B (by omega);have l:decide ((0:Int)≤((i+1:Nat):Int))=true:=by rfl
   have l1:lim (i+1)=true:=a0U (by omega);obtain⟨w,n1,n2⟩:=c5I (c:=c) (a:=ks) (i:=i) (k:=ks[i]) (n:=(ks.length:Int)) g (by omega);have l2:lim (w.length+1)=true:=a0U (by omega);exact⟨_,by simp only[a6n,dlt hi,cT,a0D hi,oB,m,l,tN,l1,a03,n1,l2,a06]<;>rfl,_,rfl,by grind⟩)
  (fun s h=>by
   obtain⟨c,rfl,g⟩:=h;exact⟨_,by simp_all[a6n],c,rfl,g⟩) ks.length 0 _ (by omega) ⟨[],rfl,rfl⟩
 subst t;simp at q;exact⟨c,0,by simp_all,fun _=>u⟩
 grind
theorem c5J{s:Nat}{half:Int}(m:c.length≤32)(d:w≤32):
  ∃out:List Int,y0s a2q (c,(w:Int),(s:Int),half,c,(c.length:Int),(0:Int),([]:List Int),())=some (c,(w:Int),(s:Int),out,()):=by
 obtain⟨b,i,out,l⟩:=b4C (f:=a2q) (fun j st=>∃out:List Int,st=(c,(w:Int),(s:Int),half,c,(c.length:Int),(j:Int),out,())∧out.length=j)
  (fun b=>∃out:List Int,b=(c,(w:Int),(s:Int),out,())) c.length
  (fun j st k h=>by
   obtain⟨out,rfl,e⟩:=h;have a:decide ((s:Int)<0)=false:=decide_eq_false (by omega);have g:lim (out.length+1)=true:=a0U (by omega);cases hf:a1k (A0o .i64 (wrap .i64 (c[j]+half)) (s:Int)) (w:Int)with
   |true=>exact Or.inl ⟨_,by simp only[a2q,dlt k,cT,a0D k,oB,a,cF,a6L d,hf,bT,g,a0B (show j<1000000 by omega),a06]<;>rfl,_,rfl,by grind⟩
   |false=>exact Or.inr ⟨_,by simp only[a2q,dlt k,cT,a0D k,oB,a,cF,a6L d,hf,a36]<;>rfl,out,rfl⟩)
  (fun st h=>by
   obtain⟨out,rfl,e⟩:=h;exact⟨_,by simp_all[a2q],out,rfl⟩) c.length 0 _ (by omega) ⟨[],rfl,rfl⟩
 simp_all
theorem c5K{w:Int}(g:c.length≤32):∃b,y0s a2p (c,w,c,(c.length:Int),(0:Int),())=some b∧(b=.inl (c,w,())∨b=.inr ((0:Int),(1:Int),([]:List Int),())):=
 b4C (f:=a2p) (fun i s=>s=(c,w,c,(c.length:Int),(i:Int),())) (fun b=>b=.inl (c,w,())∨b=.inr ((0:Int),(1:Int),([]:List Int),())) c.length
  (fun i s hi h=>by
   subst h;cases h1:decide (c[i]<(-35184372088832:Int))with
   |true=>exact Or.inr ⟨_,by simp_all[a2p,a0D],Or.inr rfl⟩
   |false=>
    cases h2:decide (c[i] > (35184372088832:Int))with
    |true=>exact Or.inr ⟨_,by simp_all[a2p,a0D],Or.inr rfl⟩
    |false=>exact Or.inl ⟨_,by simp only[a2p,dlt hi,cT,cF,a0D hi,oB,h1,h2,a0B (show i<1000000 by omega)]<;>rfl,rfl⟩)
  (fun s h=>by
   subst h;exact⟨_,by simp_all[a2p],Or.inl rfl⟩) c.length 0 _ (by omega) rfl
theorem c7h(y:1≤c.length)(m:c.length≤32)(A:2≤w∧w≤16):∃o sh e,a8Z (c,(w:Int))=some (o,sh,e)∧(e=0→o.length=c.length):=by
 obtain⟨b,u,v⟩:=c5K (w:=(w:Int)) m;have n:decide (((c.length:Nat):Int)<1)=false:=decide_eq_false (by omega);have p:decide (((c.length:Nat):Int) > 32)=false:=decide_eq_false (by omega);have q:decide ((w:Int)<2)=false:=decide_eq_false (by omega);have t:decide ((w:Int) > 16)=false:=decide_eq_false (by omega);unfold a8Z;simp[n,p,q,t,u];rcases v with rfl|rfl
 ·obtain⟨r,z,x⟩:=b4C (f:=a3c) (fun i s=>s=(c,(w:Int),(i:Int),())) (fun r=>r=.inl ()∨∃(sh:Int)(o:List Int),r=.inr (sh,(0:Int),o,())∧o.length=c.length) 15
   (fun i s hi h=>by
    subst h;have a:decide ((i:Int)≤14)=true:=decide_eq_true (by omega);have d:decide ((0:Int)≤((c.length:Nat):Int))=true:=by simp
    have l1:lim c.length=true:=a0U (by omega);have step:∀g:Int,∃o:List Int,y0s a2q (c,(w:Int),(i:Int),g,c,(c.length:Int),(0:Int),([]:List Int),())=some (c,(w:Int),(i:Int),o,()):=fun g=>c5J m (by omega)
    by_cases hp:(i:Int) > 0
    ·have l:wrap .i64 ((i:Int)-1)=(i:Int)-1:=a0C (by omega);have j:decide ((i:Int)-1<0)=false:=decide_eq_false (by omega);obtain⟨o,k⟩:=step (A0n .i64 1 ((i:Int)-1));cases hc:((((o.length:Nat):Int))==((c.length:Nat):Int))with
     |true=>exact Or.inr ⟨_,by simp only[a3c,a,cT,hp,decide_true,l,j,cF,oB,d,tN,l1,a03,k,hc]<;>rfl,Or.inr ⟨_,o,rfl,by grind⟩⟩
     |false=>exact Or.inl ⟨_,by simp only[a3c,a,cT,hp,decide_true,l,j,cF,oB,d,tN,l1,a03,k,hc,a0B (show i<1000000 by omega)]<;>rfl,rfl⟩
    ·obtain⟨o,k⟩:=step 0;cases hc:((((o.length:Nat):Int))==((c.length:Nat):Int))with
     |true=>exact Or.inr ⟨_,by simp only[a3c,a,cT,hp,decide_false,cF,oB,d,tN,l1,a03,k,hc]<;>rfl,Or.inr ⟨_,o,rfl,by grind⟩⟩
     |false=>exact Or.inl ⟨_,by simp only[a3c,a,cT,hp,decide_false,cF,oB,d,tN,l1,a03,k,hc,a0B (show i<1000000 by omega)]<;>rfl,rfl⟩)
   (fun s h=>by
    subst h;have a:decide (((15:Nat):Int)≤14)=false:=by rfl
    exact⟨_,by rfl,Or.inl rfl⟩) 15 0 (c,(w:Int),(0:Int),()) (by rfl) rfl
  rcases x with rfl|⟨sh,o,rfl,k⟩;exact⟨[],0,6,by simp_all,fun h=>absurd h (by simp)⟩;exact⟨o,sh,0,by simp_all,fun _=>k⟩
 grind
theorem c8p(j:l.all a0A=true)(d:l.length≤4096)(k:1≤o)(a:o≤32)(b:2≤w∧w≤16):∃c sh e,a4e (l,(o:Int),(w:Int))=some (c,sh,e)∧(e=0→c.length=o):=by
 obtain⟨ks,g,n⟩:=c4w j d k a;obtain⟨c,e,f,p⟩:=c7g (ks:=ks) (by omega) (by omega);unfold a4e;simp[g,f]
 by_cases he:e=0
 subst he;obtain⟨s,sh,m,q,r⟩:=c7h (c:=c) (w:=w) (by omega) (by omega) b
 grind
 have i:(e != 0)=true:=by simp_all
 exact⟨[],0,e,by grind,fun h=>absurd h he⟩
theorem c7i(a:l.length<100000)(c:o≤4):∃v,b0A (l,(o:Int))=some v:=by
 obtain⟨b,g,v,k⟩:=a7R (f:=a4V) (fun i s=>∃v:Int,s=((o:Int),v,l,(l.length:Int),(i:Int),())) (fun b=>∃v:Int,b=(v,())) l.length
  (fun i s hi h=>by
   obtain⟨v,rfl⟩:=h;cases hc:decide (wrap .i64 ((i:Int)+(o:Int))≥4)with
   |true=>exact⟨_,by simp only[a4V,dlt hi,cT,a0D hi,oB,hc,a0B (show i<1000000 by omega)]<;>rfl,_,rfl⟩
   |false=>exact⟨_,by simp only[a4V,dlt hi,cT,cF,a0D hi,oB,hc,a0B (show i<1000000 by omega)]<;>rfl,_,rfl⟩)
  (fun s h=>by
   obtain⟨v,rfl⟩:=h;exact⟨_,by simp_all[a4V],v,rfl⟩) l.length 0 ((o:Int),(0:Int),l,(l.length:Int),(0:Int),()) (by omega) ⟨0,rfl⟩
 simp_all[b0A]
theorem c1d(h:o≤4)(b:l.length<100000)(g:l.all a0A=true):∃r e,a4U (l,(o:Int))=some (r,e)∧r.length≤l.length:=by
 by_cases hn:o≤l.length
 ·rw[b7C h hn (by unfold short;omega) g];cases (a2u o l).all a0A with
  |true=>exact⟨_,_,rfl,by rw[a6f];omega⟩
  |false=>simp
 have f:decide ((o:Int)<0)=false:=decide_eq_false (by omega);have k:decide ((o:Int) > 4)=false:=decide_eq_false (by omega);have a:decide (((l.length:Nat):Int)<(o:Int))=true:=decide_eq_true (by omega);simp_all[a4U]
theorem c1e(d:l.length<100000)(j:l.all a0A=true):∃o:Nat,a6C l=some (o:Int)∧o≤4:=by
 obtain⟨b,n,o,p,q⟩:=a7R (f:=a3U) (fun i s=>∃(o:Nat)(v:Int),s=(l,(o:Int),v,(i:Int),())∧o≤4) (fun b=>∃o:Nat,b=((o:Int),())∧o≤4) 5
  (fun i s hi h=>by
   obtain⟨o,v,rfl,a⟩:=h;have g:decide ((i:Int)≤4)=true:=decide_eq_true (by omega);obtain⟨r,e,k,m⟩:=c1d (o:=i) (by omega) d j;obtain⟨y,c⟩:=c7i (l:=r) (o:=i) (by omega) (by omega);cases hc:(e != 0)with
   |true=>exact⟨_,by simp only[a3U,g,cT,k,oB,hc,a0B (show i<1000000 by omega)]<;>rfl,o,v,rfl,a⟩
   |false=>
    cases h4:decide (v<0)with
    |true=>exact⟨_,by simp only[a3U,g,cT,cF,k,oB,hc,c,h4,a0B (show i<1000000 by omega)]<;>rfl,i,y,rfl,by omega⟩
    |false=>
     cases h5:decide (y<v)with
     |true=>exact⟨_,by simp only[a3U,g,cT,cF,k,oB,hc,c,h4,h5,a0B (show i<1000000 by omega)]<;>rfl,i,y,rfl,by omega⟩
     |false=>exact⟨_,by simp only[a3U,g,cT,cF,k,oB,hc,c,h4,h5,a0B (show i<1000000 by omega)]<;>rfl,o,v,rfl,a⟩)
  (fun s h=>by
   obtain⟨o,v,rfl,a⟩:=h;have g:decide (((5:Nat):Int)≤4)=false:=by rfl
   exact⟨_,by rfl,o,rfl,a⟩) 5 0 (l,(0:Int),(-1:Int),(0:Int),()) (by rfl) ⟨0,-1,rfl,by omega⟩
 grind[a6C]
def b0G(g:List Int→Int):List Int→List Int→List Int
 | [],_=>[]
 |x::r,done=>W (x-g done)::b0G g r (done++[x])
theorem b4D(g:List Int→Int):∀r done,(b0G g r done).length=r.length
 | [],_=>rfl
 |x::r,done=>by simp[b0G,b4D g r]
theorem c8q{x g:Int}(h:a0A x=true):W (W (x-g)+g)=x:=by
 have:=b7Y h
 simp_all[a8F]
theorem b6C(g:List Int→Int):∀(r done:List Int),r.all a0A=true→a4t g (b0G g r done) done=some (done++r)
 | [],done,_=>by simp[b0G,a4t]
 |x::r,done,h=>by
  rw[a07,bA]at h;simp only[b0G,a4t,c8q h.1,h.1,cT,b6C g r (done++[x]) h.2,aA,a75]
def b2G(g:List Int→Int)(r done:List Int):Option (List Int):=bif (b0G g r done).all a0A then some (b0G g r done)else none
def b5d{β:Type}(g:List Int→Int)(bad:β)(a:List Int×List Int)(x:Int):(List Int×List Int) ⊕ β:=
 bif a0A (W (x-g a.1))then .inl (a.1++[x],a.2++[W (x-g a.1)])else .inr bad
theorem b6D{β:Type}(g:List Int→Int)(f:β)(k:List Int×List Int→β):∀(r done acc:List Int),
  a8D k (a2X (b5d g f) r (done,acc))=match b2G g r done with|some e=>k (done++r,acc++e)|none=>f
 | [],done,acc=>by grind[a2X,a8D,b2G,b0G]
 |x::r,done,acc=>by
  simp[a2X,b5d];cases h:a0A (W (x-g done))with
  |true=>
   simp
   rw[b6D g f k r];simp only[b2G,b0G,a07,h,a39]
   grind
  |false=>simp_all[a8D,b2G,b0G]
theorem c1f{g:List Int→Int}{done e:List Int}(h:b2G g r done=some e):e=b0G g r done∧e.all a0A=true:=by
 unfold b2G at h
 grind
theorem c2N(h:i<l.length):l.take i++[l[i]]=l.take (i+1):=by simp
theorem b9L{l:List Int}{p:Int→Bool}(h:l.all p=true)(i:Nat):(l.take i).all p=true:=by
 grind
theorem c9E{p:Int→Bool}(h:l.all p=true)(i:Nat):(l.drop i).all p=true:=by
 grind
theorem c2O{σ β:Type}{f:σ→Option (σ ⊕ β)}(l:List Int)(k:Nat)(q:k≤l.length)(S:Nat→List Int→σ)(g:List Int×List Int→Int→(List Int×List Int) ⊕ β)(d:List Int→β)
  (j:∀i (h:i<l.length) c,k≤i→c.length=i-k→(∀a',g (l.take i,c) l[i]=.inl a'→f (S i c)=some (.inl (S (i+1) a'.2))∧a'.1=l.take (i+1)∧a'.2.length=i+1-k)∧(∀b,g (l.take i,c) l[i]=.inr b→f (S i c)=some (.inr b)))
  (e:∀c,c.length=l.length-k→f (S l.length c)=some (.inr (d c))):y0s f (S k [])=some (a8D (fun a=>d a.2) (a2X g (l.drop k) (l.take k,[]))):=by
 have h:=a1N (f:=f) (l.drop k) (fun i a=>S (k+i) a.2) g (fun i a=>a.1=l.take (k+i)∧a.2.length=i) (fun a=>d a.2)
  (fun i hi a n=>by
   obtain⟨a1,c⟩:=a;obtain⟨m,o⟩:=n;simp only at m o;subst m;rw[a52]at hi;have p:k+i<l.length:=by omega
   grind)
  (fun a n=>by
   simp_all) (a:=(l.take k,[])) ⟨by simp,rfl⟩
 omega
def b6E(l c:List Int)(s:Int):Option (List Int):=bif l.all a0A then b2G (b1S c s) (l.drop c.length) (l.take c.length)else none
theorem b6f{s:Int}(v:b0L c s=true)(t:c.length≤l.length)(y:l.length<100000):
  a7B (l,c,s)=some (a5o (b6E l c s)):=by
 have m:short l:=by unfold short;omega
 have k:short c:=by unfold short;omega
 have d:0≤s:=by simp_all[b0L]
 have o:decide (((l.length:Nat):Int)<((c.length:Nat):Int))=false:=by simp_all
 unfold a7B b6E;simp only[b0D k,v,oB,bT,cF,o,a6s m];cases hw:l.all a0A with
 |false=>rfl
 |true=>
  have p:wrap .i64 (((l.length:Nat):Int)-((c.length:Nat):Int))=((l.length-c.length:Nat):Int):=by grind[a0C]
  have x:decide ((0:Int)≤((l.length-c.length:Nat):Int))=true:=by simp
  have q:lim (l.length-c.length)=true:=a0U (by omega);simp[p,q]
  have:=c2O (f:=a4W) l c.length t (fun i h=>(l,c,s,(i:Int),h,())) (b5d (b1S c s) (.inr ((6:Int),([]:List Int),()))) (fun h=>.inl (h,()))
   (fun i hi h u a=>by
    have n:short (l.take i):=by unfold short;grind
    have e:decide ((0:Int)≤(i:Int))=true:=by simp
    have j:decide ((i:Int)≤((l.length:Nat):Int))=true:=by grind
    have r:lim (h.length+1)=true:=a0U (by omega);constructor
    ·intro w g;unfold b5d at g;cases hq:a0A (W (l[i]-b1S c s (l.take i)))with
     |false=>simp_all
     |true=>
      simp only[hq,cT,Sum.inl.injEq]at g;subst g;refine⟨?_,c2N hi,by grind⟩;simp only[a4W,dlt hi,cT,a0D hi,oB,e,j,a03,tN,b6v n k d,a6G,hq,bT,cF,r,a0B (a18 hi m),a06]
    ·intro b hb;unfold b5d at hb;cases hq:a0A (W (l[i]-b1S c s (l.take i)))with
     |true=>simp_all
     |false=>
      simp[hq]at hb;subst hb;simp only[a4W,dlt hi,cT,a0D hi,oB,e,j,a03,tN,b6v n k d,a6G,hq,a36])
   (fun h a=>by simp[a4W])
  rw[this,b6D];cases b2G (b1S c s) (l.drop c.length) (l.take c.length)<;>rfl
theorem b6F{s:Int}(h:b6E l c s=some r):b4t (l.take c.length) r c s=some l∧r.all a0A=true∧r.length=l.length-c.length:=by
 unfold b6E at h;cases hw:l.all a0A with
 |false=>simp_all
 |true=>
  simp[hw]at h;obtain⟨e,g⟩:=c1f h;refine⟨?_,g,by simp_all[b4D]⟩;simp[b4t,b9L hw,g]
  grind[b6C,List.take_append_drop]
def b6g(l:List Int)(lag:Int)(t:List Int):Option (List Int):=bif l.all a0A then b2G (b0E lag t) l []else none
theorem c4x(o:b2C lag t=true)(c:t.length=3)(r:l.length<100000):
  a9J (l,lag,t)=some (a5o (b6g l lag t)):=by
 have a:short l:=by unfold short;omega
 obtain⟨e,j⟩:2≤lag∧lag≤1024:=by simp_all[b2C]
 unfold a9J b6g;simp only[b5E c,o,oB,bT,cF,b4V a];cases hw:l.all a0A with
 |false=>rfl
 |true=>
  have q:decide ((0:Int)≤((l.length:Nat):Int))=true:=by simp
  have d:lim l.length=true:=a0U (by omega);simp[d]
  have:=c2O (f:=a6D) l 0 (Nat.zero_le _) (fun i h=>(l,lag,l,(l.length:Int),(i:Int),h,t,())) (b5d (b0E lag t) (.inr ((6:Int),([]:List Int),()))) (fun h=>.inl (h,()))
   (fun i hi h n k=>by
    have m:lim (h.length+1)=true:=a0U (by omega);have hp:=b4X (lag:=lag) (t:=t) (a84 hi) a c e j;constructor
    ·intro p g;unfold b5d at g;cases hq:a0A (W (l[i]-b0E lag t (l.take i)))with
     |false=>simp_all
     |true=>
      simp only[hq,cT,Sum.inl.injEq]at g;subst g;refine⟨?_,c2N hi,by simp_all⟩;simp only[a6D,dlt hi,cT,a0D hi,oB,hp,a8E,hq,bT,cF,m,a0B (a18 hi a),a06]
    ·intro b hb;unfold b5d at hb;cases hq:a0A (W (l[i]-b0E lag t (l.take i)))with
     |true=>simp_all
     |false=>
      simp_all[a6D,a0D,a8E])
   (fun h k=>by simp[a6D])
  simp only[nZ]at this;rw[this,b6D,a28,List.take_zero];cases b2G (b0E lag t) l []<;>rfl
theorem b8c(h:b6g l lag t=some r):b4Y r lag t=some l∧r.all a0A=true∧r.length=l.length:=by
 unfold b6g at h;cases hw:l.all a0A with
 |false=>simp_all
 |true=>
  simp[hw]at h;obtain⟨e,g⟩:=c1f h;refine⟨?_,g,by rw[e,b4D]⟩;simp[b4Y,g];simp_all[b6C]
def rsG:List Int→Fil→List Int
 | [],_=>[]
 |x::r,f=>W (x-a1j f)::rsG r (b3J f x)
theorem b6G:∀r f,(rsG r f).length=r.length
 | [],_=>rfl
 |x::r,f=>by simp[rsG,b6G r]
def rsO:List Int→List Int→Fil→Option (List Int)
 | [],done,_=>some done
 |x::r,done,f=>bif a0A (W (x-a1j f))then rsO r (done++[W (x-a1j f)]) (b3J f x)else none
theorem c8r:∀(r done:List Int)(f:Fil),rsO r done f=bif (rsG r f).all a0A then some (done++rsG r f)else none
 | [],done,f=>by simp[rsO,rsG]
 |x::r,done,f=>by
  simp[rsO,rsG];cases a0A (W (x-a1j f))with
  |false=>rfl
  |true=>simp_all[c8r]
theorem c6c:∀(r z:List Int)(f:Fil),r.all a0A=true→stO (rsG r f) z f=some (z++r)
 | [],z,f,_=>by simp[rsG,stO]
 |x::r,z,f,h=>by
  rw[a07,bA]at h;have e:W (a1j f+W (x-a1j f))=x:=by grind[c8q]
  simp only[rsG,stO,e,h.1,cT,c6c r _ _ h.2,aA,a75]
theorem b5e{row:List Int}{a:List Stg}{b c:Int}(j:short row):∀(k i:Nat)(done:List Int)(f:Fil),i+k=row.length→done.length=i→FilOk f→
  y0s a5M (a,b,c,(row.length:Int),(i:Int),done++row.drop i,f,())=some (match rsO (row.drop i) done f with
   |some r=>.inl (a,b,c,r,())
   |none=>.inr ((6:Int),([]:List Int),()))
 |0,i,done,f,h,hd,hf=>by
  obtain rfl:i=row.length:=by omega
  rw[a50,a40];exact a0F (b:=Sum.inl (a,b,c,done,())) (by simp[a5M])
 |k+1,i,done,f,h,hd,hf=>by
  have hi:i<row.length:=by omega
  have l:row.length<1000000:=j;have d:decide ((0:Int)≤(i:Int))=true:=by simp
  have m:(done++row.drop i).length=row.length:=by grind
  have e:decide ((i:Int)<(((done++row.drop i).length:Nat):Int))=true:=by simp_all
  have g:rsO (row.drop i) done f=bif a0A (W (row[i]-a1j f))then rsO (row.drop (i+1)) (done++[W (row[i]-a1j f)]) (b3J f row[i])else none:=by
   rw[a02 hi];rfl
  rw[g];cases hw:a0A (W (row[i]-a1j f))with
  |true=>
   rw[a0E (s':=(a,b,c,(row.length:Int),((i+1:Nat):Int),(done++[W (row[i]-a1j f)])++row.drop (i+1),b3J f row[i],())) (by
    simp only[a5M,dlt hi,d,e,cT,a03,a6I hf,oB,tN,b4Z hd hi,a5w,hw,bT,cF,b7x hf,c4h hd hi,a0B (show i<1000000 by omega)])]
   exact b5e j k (i+1) _ _ (by omega) (by simp_all) (c4g hf _)
  |false=>
   exact a0F (by
    simp only[a5M,dlt hi,d,e,cT,a03,a6I hf,oB,tN,b4Z hd hi,a5w,hw,a36];rfl)
def lRO:List Stg→List Int→Option (List Int)
 | [],row=>some row
 |s::r,row=>match rsO row [] (b1T s)with
  |some row'=>lRO r row'
  |none=>none
theorem c4y{f:Fil}(h:rsO row [] f=some d):d=rsG row f∧d.all a0A=true:=by
 rw[c8r]at h
 grind
theorem c2P:∀(a b:List Stg)(row:List Int),lO (a++b) row=match lO a row with|some r=>lO b r|none=>none
 | [],b,row=>rfl
 |s::a,b,row=>by
  simp only[a65,lO];split;exact c2P a b _;rfl
theorem c4z:∀(st:List Stg)(row d:List Int),row.all a0A=true→lRO st row=some d→lO st.reverse d=some row∧d.all a0A=true∧d.length=row.length
 | [],row,d,hw,h=>by
  simp[lRO]at h;subst h;exact⟨rfl,hw,rfl⟩
 |s::st,row,d,hw,h=>by
  simp only[lRO]at h
  split at h
  rename_i g c;obtain⟨e,f⟩:=c4y c;obtain⟨k,a,b⟩:=c4z st g d f h;refine⟨?_,a,by rw[b,e,b6G]⟩;rw[List.reverse_cons,c2P,k];simp only[lO];rw[e,c6c row [] _ hw,a09];cases h
theorem b3v{st:List Stg}(f:∀s∈st,stageB s=true)(l:st.length≤3):∀(j k:Nat)(row:List Int),k+j=st.length→short row→
  y0s a5N (st,(st.length:Int),(k:Int),row,())=some (match lRO (st.drop k) row with
   |some r=>.inl (r,())
   |none=>.inr ((6:Int),([]:List Int),()))
 |0,k,row,h,hs=>by
  obtain rfl:k=st.length:=by omega
  simp_all[a0F,a5N,lRO]
 |j+1,k,row,h,hs=>by
  have d:k<st.length:=by omega
  have g:=f _ (a05 d);have e:=b5e (a:=st) (b:=(st.length:Int)) (c:=(k:Int)) hs row.length 0 [] (b1T st[k]) (by omega) rfl (c6a g);simp at e;have i:((0:Int) != 0)=false:=rfl;rw[a02 d];simp[lRO];cases hr:rsO row [] (b1T st[k])with
  |some r=>
   rw[hr]at e;rw[a0E (s':=(st,(st.length:Int),((k+1:Nat):Int),r,())) (by simp only[a5N,dlt d,cT,a0D d,oB,b4v g,i,cF,e,a0B (show k<1000000 by omega)])];exact b3v f l j (k+1) r (by omega) (by have:=(c4y hr).1;unfold short at hs⊢;simp_all[b6G])
  |none=>
   simp_all[a0F,a5N,a0D,b4v]
def b3Q(l:List Int)(st:List Stg):Option (List Int):=bif l.all a0A then lRO st l else none
theorem c3C(k:a9Q st=true)(a:l.length<100000):b1n (l,st)=some (a5o (b3Q l st)):=by
 have h:=k;simp only[a9Q,bA,dT]at h;have f:short st:=by unfold short;omega
 have g:short l:=by unfold short;omega
 unfold b1n b3Q;simp only[b4s f,k,oB,bT,cF,b4r g];cases hw:l.all a0A with
 |false=>rfl
 |true=>
  have:=b3v (lA.1 h.2) h.1 st.length 0 l (by omega) g
  simp at this;simp[a8G g,this];cases lRO st l<;>rfl
theorem c1g(h:b3Q l st=some r):b2S r st=some l∧r.all a0A=true∧r.length=l.length:=by
 unfold b3Q at h;cases hw:l.all a0A with
 |false=>simp_all
 |true=>
  simp[hw]at h;obtain⟨f,g,k⟩:=c4z st l r hw h;exact⟨by simp only[b2S,g,cT,f],g,k⟩
theorem p64{w:Nat}(h:w≤64):((2^w:Nat):Int) ∣ 18446744073709551616:=a20.2 (a55 2 h)
theorem d3C(n:Int):∃q,wrap .i64 n=n+18446744073709551616*q:=by
 rw[a8F,Int.bmod];split;exact⟨-(n / 18446744073709551616),by omega⟩;exact⟨-(n / 18446744073709551616)-1,by omega⟩
theorem c9F(h:w≤64)(n:Int):((2^w:Nat):Int) ∣ wrap .i64 n↔((2^w:Nat):Int) ∣ n:=by
 obtain⟨q,g⟩:=d3C n;rw[g]
 grind[a66,a46,p64]
theorem c2Q(h:w≤64)(a:Int):2^w ∣ (a04 64 a).toNat↔((2^w:Nat):Int) ∣ a:=by
 have e:(((a04 64 a).toNat:Nat):Int)=a+18446744073709551616*-(a / 18446744073709551616):=by
  rw[a82];omega
 rw[←a20,e]
 grind[a66,a46,p64]
theorem c7j(w x y:Nat):2^w ∣ (x ||| y)↔2^w ∣ x∧2^w ∣ y:=by
 simp_all[Nat.dvd_iff_mod_eq_zero,Nat.or_mod_two_pow]
theorem d3D(h:w≤64)(a b:Int):((2^w:Nat):Int) ∣ bits .i64 .or a b↔((2^w:Nat):Int) ∣ a∧((2^w:Nat):Int) ∣ b:=by
 show((2^w:Nat):Int) ∣ wrap .i64 ((((a04 64 a) ||| (a04 64 b)).toNat:Nat):Int)↔_;rw[c9F h,a20,a72,c7j,c2Q h,c2Q h]
def orI(l:List Int)(a:Int):Int:=l.foldl (fun a x=>bits .i64 .or a x) a
theorem b6h{w:Nat}(h:w≤64):∀(l:List Int)(a:Int),((2^w:Nat):Int) ∣ orI l a↔((2^w:Nat):Int) ∣ a∧∀x∈l,((2^w:Nat):Int) ∣ x
 | [],a=>by simp[orI]
 |x::l,a=>by
  show((2^w:Nat):Int) ∣ orI l (bits .i64 .or a x)↔_;rw[b6h h l,d3D h];simp_all[and_assoc]
theorem c4A:∀(l:List Int),(∀x∈l,x=0)→orI l 0=0
 | [],_=>rfl
 |x::l,h=>by
  have g:=h x (List.mem_cons_self);subst g;show orI l (bits .i64 .or 0 0)=0;rw[show bits .i64 .or 0 0=0 from by rfl];simp_all[c4A]
theorem d3E(k:l.all a0A=true)(h:∃x∈l,x≠0):orI l 0≠0:=by
 intro e;obtain⟨x,g,f⟩:=h;have b:=((b6h (w:=62) (by omega) l 0).1 (by omega)).2 x g;have a:=a1O.1 (lA.1 k x g);omega
def a9m(l:List Int)(w:Nat):Prop:=
 ((∀x∈l,x=0)∧w=0)∨((∃x∈l,x≠0)∧w≤30∧(∀x∈l,((2^w:Nat):Int) ∣ x)∧(w=30∨∃x∈l,¬ ((2^(w+1):Nat):Int) ∣ x))
theorem c7k{v w:Nat}(h:v≤w){x:Int}(g:((2^w:Nat):Int) ∣ x):((2^v:Nat):Int) ∣ x:=
 Int.dvd_trans (a20.2 (a55 2 h)) g
theorem a9m.unique(hv:a9m l v)(g:a9m l w):v=w:=by
 have key:∀{v w:Nat},v≤30→w≤30→(∀x∈l,((2^w:Nat):Int) ∣ x)→(v=30∨∃x∈l,¬ ((2^(v+1):Nat):Int) ∣ x)→w≤v:=by
  grind[c7k]
 rcases hv with⟨f,hv⟩|⟨⟨x,c,h⟩,hv1,hv2,hv3⟩
 ·rcases g with⟨-,g⟩|⟨⟨x,c,h⟩,-⟩
  all_goals grind
 ·rcases g with⟨f,-⟩|⟨-,k,a,b⟩
  all_goals grind
theorem c4B:∀(n N:Nat),N≤n→0<N→∃k m,N=2^k*(2*m+1)
 |0,N,h,h0=>absurd h0 (by omega)
 |n+1,N,h,h0=>by
  by_cases he:N%2=0
  obtain⟨k,m,e⟩:=c4B n (N / 2) (by omega) (by omega);refine⟨k+1,m,?_⟩;rw[a68,a57 (2^k) 2,Nat.mul_assoc,←e];omega;exact⟨0,N / 2,by omega⟩
theorem d1Z{k:Nat}(h:2^k*(2*m+1)<2^64):(2^k*(2*m+1)) &&& (2^64-2^k*(2*m+1))=2^k:=by
 have hp:1≤2^k:=a81;have n:k<64:=by
  refine a95 fun g=>?_
  have d:2^64≤2^k:=a08 (by simp) g
  grind
 have e:2^k*(2*m+1)=(2^k*(2*m)+(2^k-1))+1:=by grind
 have l:2^k*(2*m)+(2^k-1)<2^64:=by omega
 refine Nat.eq_of_testBit_eq fun i=>?_
 have a:(2^64-2^k*(2*m+1)).testBit i=(decide (i<64)&&!(2^k*(2*m)+(2^k-1)).testBit i):=by
  rw[e];exact Nat.testBit_two_pow_sub_succ l i
 have f:=a58 (2*m+1) (b:=0) (i:=k) (by omega) i;rw[a85]at f;have c:=a58 (2*m) (b:=2^k-1) (i:=k) (by omega) i;rw[Nat.testBit_and,a,f,c,Nat.testBit_two_pow]
 by_cases d:i<k
 grind
 by_cases h2:k=i
 simp_all;obtain⟨j,rfl⟩:∃j,i=k+(j+1):=⟨i-k-1,by omega⟩;have o:k+(j+1)-k=j+1:=by omega
 have p:(2*m+1) / 2=m:=by omega
 simp_all[Nat.testBit_succ]
theorem c9G:∀k:Nat,k<64→b2g[(2^k*285870213051353865)%18446744073709551616 / 288230376151711744]?=some (k:Int):=by
 have h:∀k:Fin 64,b2g[(2^k.val*285870213051353865)%18446744073709551616 / 288230376151711744]?=some (k.val:Int):=by decide
 exact fun k g=>h ⟨k,g⟩
theorem c5L{k:Nat}:¬ 2^(k+1) ∣ 2^k*(2*m+1):=by
 rintro⟨c,h⟩
 rw[a68,Nat.mul_assoc]at h
 grind[Nat.eq_of_mul_eq_mul_left]
theorem c9H(d:0<N)(h:N<18446744073709551616):∃k:Nat,a1G (N:Int)=some (k:Int)∧2^k ∣ N∧¬ 2^(k+1) ∣ N:=by
 obtain⟨k,m,e⟩:=c4B N N (a27 _) d;have n:2^k≤N:=by grind
 have i:k<64:=by
  refine a95 fun g=>?_
  have l:2^64≤2^k:=a08 (by simp) g;omega
 refine⟨k,?_,⟨_,e⟩,e▸c5L⟩;have hb:bits .u64 .and (N:Int) (wrap .u64 (0-(N:Int)))=((2^k:Nat):Int):=by
  have b:wrap .u64 (0-(N:Int))=((18446744073709551616-N:Nat):Int):=by
   grind[wrap,IntKind.bits,IntKind.signed]
  rw[b];show wrap .u64 (((a04 64 (N:Int)) &&& (a04 64 ((18446744073709551616-N:Nat):Int))).toNat:Int)=_;rw[a24,a24,a93,a29,a29,a23 h,a23 (by omega)]
  have:=d1Z (k:=k) (m:=m) (by omega)
  rw[←e]at this;rw[show(18446744073709551616:Nat)=2^64 from rfl,this];exact a0M (by omega)
 have j:((N:Int)==0)=false:=by grind
 unfold a1G;rw[hb,j,cF];have f:wrap .u64 (((2^k:Nat):Int)*285870213051353865)=(((2^k*285870213051353865)%18446744073709551616:Nat):Int):=by
  rfl
 have a:=c9G k i;generalize (2^k*285870213051353865)%18446744073709551616=M at f a;have c:=a6R (N:=M) (o:=58) (by omega);rw[f,show(58:Int)=((58:Nat):Int)from rfl,c,show 2^58=288230376151711744 from rfl];generalize M / 288230376151711744=J at a
 grind[a0D,a0C]
theorem c9I{n:Nat}(g:n≤62)(c:Int):A0o .i64 (((2^n:Nat):Int)*c) (n:Int)=c:=by
 have hp:0<2^n:=a16 n;have e:min (a42 (n:Int)) (IntKind.bits .i64)=n:=by grind[IntKind.bits]
 have h:((2^n:Nat):Int)=2^n:=by simp
 unfold A0o
 grind[a64]
theorem c6d{l:List Int}(g:short l):∀(k i:Nat)(a:Int),i+k=l.length→y0s a5I (a,l,(l.length:Int),(i:Int),())=some (orI (l.drop i) a,())
 |0,i,a,h=>by
  obtain rfl:i=l.length:=by omega
  simp_all[a0F,a5I,orI]
 |k+1,i,a,h=>by
  have hi:i<l.length:=by omega
  have f:l.length<1000000:=g;rw[a02 hi,a0E (s':=(bits .i64 .or a l[i],l,(l.length:Int),((i+1:Nat):Int),())) (by
   simp only[a5I,dlt hi,cT,a0D hi,oB,a0B (show i<1000000 by omega)])]
  exact c6d g k (i+1) _ (by omega)
theorem c5M{l:List Int}{r:Nat}(g:r≤30)(h:r=30∨¬ ((2^(r+1):Nat):Int) ∣ orI l 0):r=30∨∃x∈l,¬ ((2^(r+1):Nat):Int) ∣ x:=by
 grind[b6h,a86]
theorem b9M{l:List Int}(y:short l)(j:l.all a0A=true):∃w:Nat,a3T l=some (w:Int)∧w≤30∧a9m l w:=by
 have a:=c6d y l.length 0 0 (by omega);simp at a;unfold a3T;simp[a]
 by_cases hz:∀x∈l,x=0
 have e:=c4A l hz;exact⟨0,by simp_all,by omega,.inl ⟨hz,rfl⟩⟩
 ·have g:∃x∈l,x≠0:=Classical.byContradiction fun m=>hz fun x g=>Classical.byContradiction fun s=>m ⟨x,g,s⟩;have t:=d3E j g;have n:(orI l 0==0)=false:=by simp_all
  obtain⟨q,u⟩:∃q,wrap .u64 (orI l 0)=orI l 0+18446744073709551616*q:=⟨-(orI l 0 / 18446744073709551616),by
   grind[wrap,IntKind.bits,IntKind.signed]⟩
  obtain⟨B,r2⟩:=b9h (orI l 0);obtain⟨N,d⟩:=a01 B;have b:∀v,v≤64→(2^v ∣ N↔((2^v:Nat):Int) ∣ orI l 0):=fun v hv=>by
   rw[←a20,←d,u]
   grind[a66,a46,p64]
  have h:0<N:=by
   refine Nat.pos_of_ne_zero fun C=>?_
   obtain⟨x,f,A⟩:=g;have E:=((b6h (w:=62) (by omega) l 0).1 ((b 62 (by omega)).1 (by omega))).2 x f;have z:=a1O.1 (lA.1 j x f);omega
  obtain⟨k,p,c,r⟩:=c9H h (by omega);have i:k≤63:=by
   refine Nat.le_of_not_lt fun o=>?_
   have a:2^64≤2^k:=a08 (by simp) (by omega)
   have:=Nat.le_of_dvd h c
   omega
  simp only[n,cF,d,p,oB];have D:v0s (k:Int) 30=((min k 30:Nat):Int):=by rw[b1Q];omega
  refine⟨min k 30,by grind,by omega,.inr ⟨g,by omega,?_,?_⟩⟩
  all_goals grind[b6h,Nat.dvd_trans,a55,c5M]
theorem d2a(g:w≤30)(d:l.all a0A=true)(h:a9m l w):b1A (w:Int) l=some (l.map fun x=>A0o .i64 x (w:Int)):=by
 have f:∀x∈l,((2^w:Nat):Int) ∣ x:=by
  rcases h with⟨h,-⟩|⟨-,-,h,-⟩
  all_goals grind[a86]
 have:l.all (b2F (w:Int))=true:=by
  rw[lA];intro x k;obtain⟨c,a⟩:=f x k;have b:a26 x (A0n .i64 1 (w:Int))=0:=by simp_all[c4u]
  simp_all[b2F]
 simp only[b1A,this,cT]
theorem b1X{N n:Nat}(g:n≤63)(h:N<2^n)(L:List Int):(a0P (N:Int) n L).length=L.length+n:=by
 grind[a0P,a6R,a67,b5b]
def a5T(k:Nat)(x:Int):Nat:=if a0R x / 2^k<32 then a0R x / 2^k+1+k else 65
theorem c4C{k:Nat}(h:k≤25)(x:Int):a5T k x≤65:=by
 grind[a5T]
theorem c8s{k:Nat}(a:k≤25)(g:a0A x=true)(L:List Int):(a7k k x L).length=L.length+a5T k x:=by
 unfold a7k a5T;have hp:0<2^k:=a16 k;have h:a0R x%2^k<2^k:=a41 _ hp;have f:=b0M g;split;rw[b1X (by omega) h,b1x];omega
 grind[b1X,b1x]
theorem c1h{k:Nat}(g:k≤25):∀(l L:List Int),l.all a0A=true→(a4Y k l L).length=L.length+(l.map (a5T k)).sum
 | [],L,_=>by rfl
 |x::l,L,h=>by
  simp only[a07,bA]at h;have e:a4Y k (x::l) L=a4Y k l (a7k k x L):=rfl;rw[e,c1h g l _ h.2,c8s g h.1,List.map_cons,a62];omega
theorem c4D{k:Nat}(c:k≤25)(g:a0A x=true):a7Q ((k:Int),x)=some ((a5T k x:Nat):Int):=by
 have d:=b0M g;have f:A0o .u64 ((a0R x:Nat):Int) (k:Int)=((a0R x / 2^k:Nat):Int):=a6R (by omega);have a:wrap .i64 ((a0R x / 2^k:Nat):Int)=((a0R x / 2^k:Nat):Int):=b4B (a38 (a32 _ _) d);have h:decide ((k:Int)<0)=false:=by simp
 unfold a7Q a5T;simp only[a9z c,b1y,g,oB,bT,cF,b1z g,h,f,a];generalize a0R x / 2^k=q
 by_cases hq:q<32
 have b:decide ((q:Int)<32)=true:=decide_eq_true (by omega);simp only[b,cT,if_pos hq]
 grind[a0C]
 grind
theorem c4E{f:Int→Nat}{M:Nat}(h:∀x,f x≤M):∀l:List Int,(l.map f).sum≤M*l.length
 | []=>by simp
 |x::l=>by
  have:=h x
  have:=c4E h l
  rw[List.map_cons,a62,lC,a91,a92];omega
theorem c4F{f:Int→Nat}{l:List Int}{i:Nat}(h:i<l.length):((l.take (i+1)).map f).sum=((l.take i).map f).sum+f l[i]:=by
 rw[a49 h,pA,List.sum_append];rfl
theorem b9i{k:Nat}(g:k≤25)(c:l.all a0A=true)(d:l.length<10000):a3B ((k:Int),l)=some (((l.map (a5T k)).sum:Nat):Int):=by
 have:=a1D (f:=a4f) (fun i:Nat=>((k:Int),((((l.take i).map (a5T k)).sum:Nat):Int),l,(l.length:Int),(i:Int),())) l.length (b:=((((l.map (a5T k)).sum:Nat):Int),()))
  (fun i hi=>by
   have a:=c4D g (lA.1 c _ (a05 hi));have h:=c4E (c4C g) (l.take (i+1));rw[c4F hi]at h;rw[a94]at h;have e:wrap .i64 (((((l.take i).map (a5T k)).sum:Nat):Int)+((a5T k l[i]:Nat):Int))=((((l.take (i+1)).map (a5T k)).sum:Nat):Int):=by
    grind[c4F,a0C]
   simp only[a4f,dlt hi,cT,a0D hi,oB,a,e,a0B (show i<1000000 by omega)])
  (by simp_all[a4f])
 unfold a3B;simp_all
theorem c9J(x:Int){n:Nat}(f:n≤62):∃N:Nat,a0X x n=(N:Int)∧N<2^n:=by
 obtain⟨h,g⟩:=b9h x;obtain⟨y,k⟩:=a01 h;have hp:0<2^n:=a16 n;refine⟨y%2^n,?_,a41 _ hp⟩
 grind[a0X,c4p]
theorem b5f{n:Nat}(h:n≤62):∀(l L:List Int),(a1J n l L).length=L.length+n*l.length
 | [],L=>by rfl
 |x::l,L=>by
  have e:a1J n (x::l) L=a1J n l (a0P (a0X x n) n L):=rfl;obtain⟨N,g,f⟩:=c9J x h;rw[e,b5f h l,g,b1X (by omega) f,lC,a91,a92];omega
theorem d3F{x:Int}(h:a0A x=true):a1k x ((31:Nat):Int)=true:=by
 have:=a1O.1 h
 have g:A0n .i64 (-1) (((31:Nat):Int)-1)=-1073741824:=by rfl
 have f:wrap .i64 (A0n .i64 1 (((31:Nat):Int)-1)-1)=1073741823:=by rfl
 unfold a1k
 grind
theorem c1i{x:Int}(h:a0A x=true):∀(k w:Nat),w+k=32→1≤k→a1R x k w≤31
 |k+1,w,hk,_=>by
  simp[a1R]
  by_cases h31:w=31
  grind[d3F]
  ·cases (x != 0)&&!a1k x w with
   |true=>exact c1i h k (w+1) (by omega) (by omega)
   |false=>grind
theorem b5g:∀(l:List Int)(w:Nat),l.all a0A=true→w≤31→l.foldl (fun w x=>a1R x (32-w) w) w≤31
 | [],w,_,h=>h
 |x::l,w,hl,h=>by
  simp only[a07,bA]at hl;exact b5g l _ hl.2 (c1i hl.1 (32-w) w (by omega) (by omega))
theorem a2c{l:List Int}(h:l.all a0A=true):a0J l≤31:=b5g l 0 h (by omega)
theorem b4E(g:l.length<10000):a6d l=some (((5+a0J l*l.length:Nat)):Int):=by
 have h:=a6Q l;have f:a0J l*l.length≤32*l.length:=a25 _ h;unfold a6d;simp only[a2w (show short l by unfold short;omega),oB]
 grind[a0C]
def b2H(k:Int)(part:List Int):Nat:=5+(if k=31 then 5+a0J part*part.length else(part.map (a5T k.toNat)).sum)
def a5U:List Nat→List Int→List Int→Nat
 |z::zs,k::ks,l=>b2H k (l.take z)+a5U zs ks (l.drop z)
 |_,_,_=>0
theorem a3M{q:Nat}(h:q<2147483648):wrap .u64 (q:Int)=(q:Int):=a0M (by omega)
theorem c8t(h:kB k=true)(g:part.all a0A=true)(L:List Int):(b0F k part L).length=L.length+b2H k part:=by
 simp[kB]at h;obtain⟨K,rfl⟩:=a01 (show 0≤k by omega)
 grind[b1X,a2c,b0F,b2H,a3M,b5f,c1h]
theorem c1j:∀(zs:List Nat)(ks l L:List Int),ks.all kB=true→l.all a0A=true→(a4Z zs ks l L).length=L.length+a5U zs ks l
 |z::zs,k::ks,l,L,h,hw=>by
  simp only[a07,bA]at h;have g:(l.take z).all a0A=true:=lA.2 fun x a=>lA.1 hw x (a34 a);have f:(l.drop z).all a0A=true:=lA.2 fun x a=>lA.1 hw x (a35 a);simp only[a4Z,a5U];rw[c1j zs ks _ _ h.2 f,c8t h.1 g];omega
 | [],_,_,_,_,_=>by rfl
 |_::_,[],_,_,_,_=>by rfl
theorem c9K(h:kB k=true)(part:List Int):b2H k part≤10+65*part.length:=by
 simp[kB]at h;unfold b2H;split;have g:a0J part*part.length≤32*part.length:=a25 _ (a6Q part);omega
 have:=c4E (c4C (k:=k.toNat) (by omega)) part
 omega
theorem b4F{zn:List Nat}{p:Prt}(E:p.2.1.length=zn.length)(a:p.2.1.all kB=true)(F:zn.length≤256):∀(j i:Nat)(l:List Int)(c:Nat),i+j=zn.length→(zn.drop i).sum=l.length→l.all a0A=true→l.length≤5000→c+10*j+65*l.length<1000000→
  y0s a1y (l,(c:Int),(zn.length:Int),(i:Int),a1s zn,p,())=some (((c+a5U (zn.drop i) (p.2.1.drop i) l:Nat):Int),())
 |0,i,l,c,hi,_,_,_,_=>by
  obtain rfl:i=zn.length:=by omega
  grind[a0F,a1y,a5U]
 |j+1,i,l,c,hi,hsum,hw,hl5,hb=>by
  have h:i<zn.length:=by omega
  have f:i<p.2.1.length:=by omega
  have o:=lA.1 a _ (a05 f);rw[b6y h]at hsum;have z:decide ((0:Int)≤(i:Int))=true:=by simp
  have A:decide ((i:Int)<(((a1s zn).length:Nat):Int))=true:=by simp_all[a1A]
  have B:decide ((0:Int)≤((zn[i]:Nat):Int))=true:=by simp
  have C:decide (((zn[i]:Nat):Int)≤((l.length:Nat):Int))=true:=by grind
  have d:(l.take zn[i]).length=zn[i]:=by simp_all
  have e:(l.drop zn[i]).length=(zn.drop (i+1)).sum:=by grind
  have v:(l.take zn[i]).all a0A=true:=lA.2 fun x y=>lA.1 hw x (a34 y);have w:(l.drop zn[i]).all a0A=true:=lA.2 fun x y=>lA.1 hw x (a35 y);have g:=c9K o (l.take zn[i]);rw[d]at g;have n:a1y (l,(c:Int),(zn.length:Int),(i:Int),a1s zn,p,())=some (.inl (l.drop zn[i],((c+b2H p.2.1[i] (l.take zn[i]):Nat):Int),(zn.length:Int),((i+1:Nat):Int),a1s zn,p,())):=by
   by_cases h31:p.2.1[i]=31
   have b:(p.2.1[i]==31)=true:=by simp_all
   have m:=b4E (l:=l.take zn[i]) (by omega);have u:b2H p.2.1[i] (l.take zn[i])=5+(5+a0J (l.take zn[i])*(l.take zn[i]).length):=by simp_all[b2H]
   rw[u]at g⊢;generalize 5+a0J (l.take zn[i])*(l.take zn[i]).length=r at m g⊢;have s:wrap .i64 (5+(r:Int))=5+(r:Int):=a0C (by omega);have t:wrap .i64 ((c:Int)+(5+(r:Int)))=((c+(5+r):Nat):Int):=by grind[a0C]
   simp only[a1y,dlt h,z,A,a8I h,B,C,cT,a03,tN,a0D f,oB,b,m,s,t,a19,a0B (show i<1000000 by omega)];have b:(p.2.1[i]==31)=false:=by simp_all
   have q:=o;simp[kB]at q;obtain⟨K,D⟩:=a01 (show 0≤p.2.1[i]by omega);have m:=b9i (k:=K) (by omega) v (by omega);have u:b2H p.2.1[i] (l.take zn[i])=5+((l.take zn[i]).map (a5T K)).sum:=by simp_all[b2H]
   rw[←D]at m;rw[u]at g⊢;generalize ((l.take zn[i]).map (a5T K)).sum=r at m g⊢;have s:wrap .i64 (5+(r:Int))=5+(r:Int):=a0C (by omega);have t:wrap .i64 ((c:Int)+(5+(r:Int)))=((c+(5+r):Nat):Int):=by grind[a0C]
   simp only[a1y,dlt h,z,A,a8I h,B,C,cT,cF,a03,tN,a0D f,oB,b,m,s,t,a19,a0B (show i<1000000 by omega)]
  rw[a0E n,b4F E a F j (i+1) (l.drop zn[i]) _ (by omega) e.symm w (by omega) (by omega)];rw[a02 h,a02 f]
  grind[a5U]
theorem c3D(h:PartsOk p n warm l zn):a4X (p,n,warm,l)=some ((4+a5U zn p.2.1 l:Nat):Int):=by
 have f:Go.Ab.short p.2.1:=by have:=h.ks;have:=h.len;unfold Go.Ab.short;omega
 have k:=h.short;have a:=h.len;have g:=b4F h.ks h.all h.len zn.length 0 l 4 (by omega) (by rw[a28];exact h.sum) h.wide h.short (by omega);simp only[nZ,a30,a28]at g;unfold a4X;simp only[b4x f,h.may,b1V h.row h.rest h.wide h.short,oB,bT,cF,a2i,h.sizes,a1A,g]
theorem c3E(h:PartsOk p n warm l zn)(L:List Int):(a4B p zn l L).length=L.length+(4+a5U zn p.2.1 l):=by
 obtain⟨o,g⟩:=a01 h.order.1;have f:=h.order.2;unfold a4B;rw[c1j _ _ _ _ h.all h.wide,g,a3M (by omega),b1X (by omega) (by omega)];omega
def a2j(o:Int):Sub:=((0:Int),(0:Int),o,(0:Int),(0:Int),([]:List Int),a00 3 (0:Int),([]:List Stg),([]:List Int),((0:Int),([]:List Int),()),([]:List Int),())
theorem c5N(o:Int):SmallS (a2j o):=⟨by simp[a2j],by rfl,by simp[a2j],by simp[a2j],by simp[a2j],by simp[a2j]⟩
def b8d(k:Nat)(l:List Int):Nat:=(l.map (a5T k)).sum
def rbN(l:List Int):Nat→Nat
 |0=>0
 |i+1=>if b8d (i+1) l<b8d (rbN l i) l then i+1 else rbN l i
theorem c4G(l:List Int):∀i,rbN l i≤i
 |0=>a27 _
 |i+1=>by
  have:=c4G l i
  simp only[rbN]
  split<;>omega
theorem b6H{k:Nat}(h:k≤25)(f:l.all a0A=true)(g:l.length<10000):a3B ((k:Int),l)=some ((b8d k l:Nat):Int):=b9i h f g
theorem d3G(h:a<b):decide ((a:Int)<(b:Int))=true:=decide_eq_true (by omega)
theorem c7l(h:¬ a<b):decide ((a:Int)<(b:Int))=false:=decide_eq_false (by omega)
theorem b8e(g:l.all a0A=true)(h:l.length<10000):b2x l=some ((rbN l 25:Nat):Int):=by
 have:=a1D (f:=a9a) (fun i:Nat=>(l,((rbN l i:Nat):Int),((b8d (rbN l i) l:Nat):Int),((i+1:Nat):Int),())) 25 (b:=(((rbN l 25:Nat):Int),()))
  (fun i hi=>by
   have a:decide (((i+1:Nat):Int)≤25)=true:=decide_eq_true (by omega);have d:wrap .i64 (((i+1:Nat):Int)+1)=((i+1+1:Nat):Int):=a0B (by omega);have c:=b6H (k:=i+1) (by omega) g h
   by_cases hlt:b8d (i+1) l<b8d (rbN l i) l
   simp_all[a9a,rbN];simp only[a9a,a,cT,cF,c,oB,d,c7l hlt,rbN,hlt,if_false])
  (by
   rfl)
 have m:=b6H (k:=0) (by omega) g h;have j:((0+1:Nat):Int)=1:=rfl;have e:rbN l 0=0:=rfl;simp_all[b2x]
def b3R(l:List Int):Int:=if 5+a0J l*l.length<b8d (rbN l 25) l then 31 else((rbN l 25:Nat):Int)
theorem c7m(l:List Int):kB (b3R l)=true:=by
 have:=c4G l 25
 unfold b3R;split;rfl;simp only[kB,a98,bA,dT];omega
theorem c1k(g:l.all a0A=true)(h:l.length<10000):a9b l=some (b3R l):=by
 have a:=c4G l 25;have f:=b6H (k:=rbN l 25) a g h;unfold a9b b3R
 by_cases hlt:5+a0J l*l.length<b8d (rbN l 25) l
 simp only[b8e g h,b4E h,f,oB,d3G hlt,cT,hlt,if_true];simp only[b8e g h,b4E h,f,oB,c7l hlt,cF,hlt,if_false]
def a2O:List Nat→List Int→List Int
 | [],_=>[]
 |z::zs,l=>b3R (l.take z)::a2O zs (l.drop z)
theorem b6i:∀zs l,(a2O zs l).length=zs.length
 | [],_=>rfl
 |z::zs,l=>by simp[a2O,b6i zs]
theorem c1l:∀zs l,(a2O zs l).all kB=true
 | [],_=>rfl
 |z::zs,l=>by simp[a2O,c1l zs,c7m]
theorem b7E{zn:List Nat}{n warm most least order:Int}{L:List Int}{a b:Prt}(m:zn.length≤256):∀(j i:Nat)(rest ks:List Int),i+j=zn.length→(zn.drop i).sum=rest.length→rest.all a0A=true→rest.length≤5000→ks.length=i→
  y0s a8k (n,warm,most,L,least,order,rest,((zn.length:Nat):Int),(i:Int),a1s zn,a,b,(order,ks,()),())=some (n,warm,most,L,least,order,a,b,(order,ks++a2O (zn.drop i) rest,()),())
 |0,i,rest,ks,h,_,_,_,_=>by
  obtain rfl:i=zn.length:=by omega
  simp_all[a0F,a8k,a2O]
 |j+1,i,rest,ks,h,hr,hwr,hr5,hki=>by
  have g:i<zn.length:=by omega
  rw[b6y g]at hr;have k:decide ((0:Int)≤(i:Int))=true:=by simp
  have c:decide ((i:Int)<(((a1s zn).length:Nat):Int))=true:=by simp_all[a1A]
  have d:decide ((0:Int)≤((zn[i]:Nat):Int))=true:=by simp
  have e:decide (((zn[i]:Nat):Int)≤((rest.length:Nat):Int))=true:=by grind
  have l:=c1k (b9L hwr zn[i]) (by grind);have f:lim (ks.length+1)=true:=a0U (by omega);rw[a02 g,a0E (s':=(n,warm,most,L,least,order,rest.drop zn[i],((zn.length:Nat):Int),((i+1:Nat):Int),a1s zn,a,b,(order,ks++[b3R (rest.take zn[i])],()),())) (by
   simp only[a8k,dlt g,k,c,a8I g,d,e,cT,a03,tN,l,oB,f,a19,a0B (show i<1000000 by omega),a06])]
  rw[b7E m j (i+1) _ _ (by omega) (by grind) (c9E hwr _) (by grind) (by simp_all)];simp_all[a2O]
def zsN(o n warm:Int):List Nat:=(a1Q o n warm).map a42
def b3L(o n warm:Int)(l:List Int):Prt:=(o,a2O (zsN o n warm) l,())
def c1m(o n warm:Int)(l:List Int):Nat:=4+a5U (zsN o n warm) (a2O (zsN o n warm) l) l
def a1H(n warm:Int)(l:List Int):Nat→Prt×Nat
 |0=>((0,[],()),0)
 |i+1=>if(a1Q (i:Int) n warm).length=0 then a1H n warm l i else
   if(a1H n warm l i).2=0∨c1m (i:Int) n warm l<(a1H n warm l i).2 then(b3L (i:Int) n warm l,c1m (i:Int) n warm l)else a1H n warm l i
def b8z(n warm:Int)(l:List Int):Prt:=(a1H n warm l 7).1
theorem c6e(b:(a1Q (o:Int) n warm).length≠0)(a:(l.length:Int)=n-warm)(c:l.all a0A=true)(k:l.length≤5000):
  ∃h,a1Q (o:Int) n warm=a1s h∧zsN (o:Int) n warm=h∧h.length≤256∧h.sum=l.length∧a5S (b3L (o:Int) n warm l) n warm=true∧PartsOk (b3L (o:Int) n warm l) n warm l h:=by
 obtain⟨h,e,i,j⟩:=b5H b;have d:zsN (o:Int) n warm=h:=by simp_all[zsN,b5I]
 have hp:a5S (b3L (o:Int) n warm l) n warm=true:=by
  simp only[a5S,b3L,bA,a33,beq_eq_false_iff_ne,ne_eq,beq_iff_eq];simp_all[a1A,b6i,c1l]
 obtain⟨f,g⟩:=PartsOk.of hp a c k
 have:f=h:=by
  have m:=g.sizes
  grind[b3L,b5I]
 grind
theorem b6I{n warm:Int}{l:List Int}(b:a6J n warm=true)(f:(l.length:Int)=n-warm)(a:l.all a0A=true)(g:l.length≤5000):∀i,1≤i→(a1H n warm l i).2≠0∧a5S (a1H n warm l i).1 n warm=true
 |0,h=>absurd h (by omega)
 |i+1,_=>by
  by_cases hs:(a1Q (i:Int) n warm).length=0
  ·simp only[a1H,hs,if_true];cases i with
   |zero=>grind[c7e]
   |succ i=>exact b6I b f a g (i+1) (by omega)
  ·obtain⟨c,-,-,-,-,hp,-⟩:=c6e hs f a g;simp only[a1H,hs,if_false];split;simp_all[c1m]
   ·rename_i k;cases i with
    |zero=>exact absurd (Or.inl rfl) k
    |succ i=>exact b6I b f a g (i+1) (by omega)
theorem c9L(f:a6J n warm=true)(g:(l.length:Int)=n-warm)(k:l.all a0A=true)(h:l.length≤5000):a5S (b8z n warm l) n warm=true:=
 (b6I f g k h 7 (by omega)).2
theorem c3F(z:a6J n warm=true)(x:(l.length:Int)=n-warm)(t:l.all a0A=true)(s:l.length≤5000):
  b1o (n,warm,(6:Int),l)=some (b8z n warm l,0):=by
 have:=a1D (f:=a3V) (fun i:Nat=>(n,warm,(6:Int),l,(((a1H n warm l i).2:Nat):Int),(i:Int),((0:Int),([]:List Int),()),(a1H n warm l i).1,())) 7 (b:=(((0:Int),([]:List Int),()),b8z n warm l,()))
  (fun i hi=>by
   have j:decide ((i:Int)≤v0s (v0r 6 0) 8)=true:=decide_eq_true (by have:v0s (v0r 6 0) 8=6:=rfl;omega);have r:wrap .i64 ((i:Int)+1)=((i+1:Nat):Int):=a0B (by omega)
   by_cases hs:(a1Q (i:Int) n warm).length=0
   simp_all[a1H,a3V,a2i];have hb:((((a1Q (i:Int) n warm).length:Nat):Int)==0)=false:=by simp_all
   obtain⟨h,p,o,w,y,-,q⟩:=c6e hs x t s;have d:=b7E (n:=n) (warm:=warm) (most:=6) (least:=(((a1H n warm l i).2:Nat):Int)) (order:=(i:Int)) (L:=l) (a:=((0:Int),([]:List Int),())) (b:=(a1H n warm l i).1) w h.length 0 l [] (by omega) (by simp_all) t s rfl;simp at d;have e:=c3D q;simp only[b3L,o]at e;have k:(((h.length:Nat):Int)==0)=false:=by simp_all[a1A]
   have m:(((a1s h).length:Nat):Int)=((h.length:Nat):Int):=by rw[a1A]
   have v:b3L (i:Int) n warm l=((i:Int),a2O h l,()):=by simp only[b3L,o]
   have u:c1m (i:Int) n warm l=4+a5U h (a2O h l) l:=by simp only[c1m,o]
   by_cases hz:(a1H n warm l i).2=0
   have g:((((a1H n warm l i).2:Nat):Int)==0)=true:=by simp_all
   have c:a1H n warm l (i+1)=(((i:Int),a2O h l,()),4+a5U h (a2O h l) l):=by simp_all[a1H]
   simp only[a3V,j,cT,a2i,oB,p,m,k,cF,d,e,r,c,g];have g:((((a1H n warm l i).2:Nat):Int)==0)=false:=by simp_all
   by_cases hlt:4+a5U h (a2O h l) l<(a1H n warm l i).2
   have c:a1H n warm l (i+1)=(((i:Int),a2O h l,()),4+a5U h (a2O h l) l):=by simp_all[a1H]
   simp only[a3V,j,cT,a2i,oB,p,m,k,cF,d,e,r,c,g,d3G hlt];have c:a1H n warm l (i+1)=a1H n warm l i:=by simp only[a1H,hs,if_false,hz,false_or,v,u,hlt]
   simp only[a3V,j,cT,a2i,oB,p,m,k,cF,d,e,r,c,g,c7l hlt])
  (by
   rfl)
 simp_all[a1H,b1o,b1V]
def a0Z(k:Int)(s:Sub):Sub:=
 (k,(0:Int),(if k=2 then s.2.2.1 else 0),(if k=3∨k=4 then s.2.2.2.1 else 0),(if k=4 then s.2.2.2.2.1 else 0),(if k=3∨k=4 then s.2.2.2.2.2.1 else[]),
  ((if k=4 then s.2.2.2.2.2.2.1 else a00 3 (0:Int)),(if k=5 then s.2.2.2.2.2.2.2.1 else[]),([]:List Int),((0:Int),([]:List Int),()),([]:List Int),()))
def z0:Prt:=((0:Int),([]:List Int),())
def a1S(s:Sub)(w:Nat)(wm:List Int)(p:Prt)(r:List Int):Sub:=
 (s.1,(w:Int),s.2.2.1,s.2.2.2.1,s.2.2.2.2.1,s.2.2.2.2.2.1,s.2.2.2.2.2.2.1,s.2.2.2.2.2.2.2.1,wm,p,r,())
theorem c8u(h:SmallS s)(k:Int):a6v (k,s)=some (a0Z k s):=by
 have f:short s.2.2.2.2.2.1:=by have:=h.coefs;unfold short;omega
 have g:short s.2.2.2.2.2.2.2.1:=by have:=h.stages;unfold short;omega
 grind[a6v,a0Z,b3K,b9e]
theorem c4H(h:SmallS s)(k:Int):SmallS (a0Z k s):=by
 have g:=h.coefs;have f:=h.taps;have a:=h.stages;refine⟨?_,?_,?_,by simp[a0Z],by simp[a0Z],by simp[a0Z]⟩<;>simp only[a0Z]<;>split<;>first|omega|simp
theorem c7n:a4g (a0Z k s).1 (a0Z k s) n↔a4g k s n:=by
 unfold a4g a0Z
 grind
open Classical in
def a3i (l:List Int):Nat:=if h:∃w,a9m l w then h.choose else 0
theorem d2b{l:List Int}{w:Nat}(h:a9m l w):a3i l=w:=by
 unfold a3i;rw[dif_pos ⟨w,h⟩];exact(Classical.choose_spec (⟨w,h⟩:∃w,a9m l w)).unique h
def a1l(l:List Int):List Int:=l.map fun x=>A0o .i64 x (a3i l:Int)
theorem a9R(h:short l)(g:l.all a0A=true):a3T l=some ((a3i l:Nat):Int)∧a3i l≤30∧a9m l (a3i l):=by
 grind[b9M,d2b]
theorem a7l(a:l.length≤4096)(f:l.all a0A=true):b1A ((a3i l:Nat):Int) l=some (a1l l)∧(a1l l).all a0A=true∧(a1l l).length=l.length∧upO ((a3i l:Nat):Int) (a1l l)=some l:=by
 obtain⟨-,g,k⟩:=a9R (show short l by unfold short;omega) f;have h:=d2a g f k;exact⟨h,d1Y g h⟩
def a5V(k:Int)(s:Sub)(d:List Int):Option (List Int×List Int):=
 if k=2 then(bif (a2u s.2.2.1.toNat d).all a0A then some (d.take s.2.2.1.toNat,a2u s.2.2.1.toNat d)else none)
 else if k=3 then(b6E d s.2.2.2.2.2.1 s.2.2.2.1).map fun r=>(d.take s.2.2.2.2.2.1.length,r)
 else if k=4 then(b6g d s.2.2.2.2.1 s.2.2.2.2.2.2.1).bind fun x=>(b6E x s.2.2.2.2.2.1 s.2.2.2.1).map fun r=>(x.take s.2.2.2.2.2.1.length,r)
 else(b3Q d s.2.2.2.2.2.2.2.1).map fun r=>([],r)
theorem c4I(j:k=2∨k=3∨k=4∨k=5)(i:a4g k s (d.length:Int))(n:d.all a0A=true)(h:a5V k s d=some (wm,r)):
  wm.length≤d.length∧r.length=d.length-wm.length∧r.all a0A=true∧wm.all a0A=true:=by
 have f:=i;simp only[a4g]at f;rcases j with rfl|rfl|rfl|rfl
 ·have:0≤s.2.2.1∧s.2.2.1≤(d.length:Int):=by omega
  simp[a5V]at h;cases hq:(a2u s.2.2.1.toNat d).all a0A with
  |false=>simp_all
  |true=>
   simp[hq]at h;obtain⟨rfl,rfl⟩:=h;simp_all[a6f,b9L]
 have:(s.2.2.2.2.2.1.length:Int)≤(d.length:Int):=by omega
 simp only[a5V,show ¬ (3:Int)=2 by simp,if_false,if_true,a21,pJ]at h;obtain⟨c,g,rfl,rfl⟩:=h;obtain⟨-,a,b⟩:=b6F g
 grind
 have:(s.2.2.2.2.2.1.length:Int)≤(d.length:Int):=by omega
 simp only[a5V,show ¬ (4:Int)=2 by simp,show ¬ (4:Int)=3 by simp,if_false,if_true,a44,a21,pJ]at h;obtain⟨x,e,c,g,rfl,rfl⟩:=h;obtain⟨-,l,m⟩:=b8c e;obtain⟨-,a,b⟩:=b6F g
 grind
 simp only[a5V,show ¬ (5:Int)=2 by simp,show ¬ (5:Int)=3 by simp,show ¬ (5:Int)=4 by simp,if_false,a21,pJ]at h;obtain⟨c,g,rfl,rfl⟩:=h;obtain⟨-,a,b⟩:=c1g g;simp_all
theorem c9M(v:k=2∨k=3∨k=4∨k=5)(h:SmallS s)(q:a4g k s (d.length:Int))(D:d.length≤4096)(y:d.all a0A=true)(w:Nat):
  b2v (a1S (a0Z k s) w [] z0 [],d)=some (match a5V k s d with|none=>(6,a1S (a0Z k s) w [] z0 [])|some (wm,r)=>(0,a1S (a0Z k s) w wm z0 r)):=by
 have l:=h.taps;have g:=h.stages;have i:short d:=by unfold short;omega
 obtain⟨k',w',o,sh,lag,c,t,st,z,p,E,u⟩:=s;simp only[a4g]at q l g;unfold b2v;rcases v with rfl|rfl|rfl|rfl;obtain⟨n,C,e⟩:0≤o∧o≤4∧o≤(d.length:Int):=by omega
 obtain⟨O,rfl⟩:=a01 n;have g:short (d.take O):=by unfold short;grind
 have j:decide ((O:Int)≤((d.length:Nat):Int))=true:=by simp_all
 simp only[a1S,a0Z,a5V,if_true,show((2:Int)==2)=true from rfl,cT,b7C (show O≤4 by omega) (show O≤d.length by omega) i y,oB,tN]
 grind[b2T,a2v,a8G]
 ·obtain⟨f,e⟩:b0L c sh=true∧(c.length:Int)≤(d.length:Int):=by simp_all
  have g:short (d.take c.length):=by unfold short;grind
  have m:decide ((0:Int)≤((c.length:Nat):Int))=true:=by simp
  have j:decide (((c.length:Nat):Int)≤((d.length:Nat):Int))=true:=by simp_all
  simp only[a1S,a0Z,a5V,show((3:Int)==2)=false from rfl,show((3:Int)==3)=true from rfl,show ¬ (3:Int)=2 by simp,show ¬ (3:Int)=4 by simp,show ¬ (3:Int)=5 by simp,true_or,if_true,if_false,cT,cF,b6f f (show c.length≤d.length by omega) (show d.length<100000 by omega),oB];cases b6E d c sh with
  |none=>rfl
  |some r=>simp_all[a5o,b2T,a2v,a8G]
 ·obtain⟨f,e,a⟩:b0L c sh=true∧(c.length:Int)≤(d.length:Int)∧b2C lag t=true:=by simp_all
  simp[a1S,a0Z,a5V,c4x a l (show d.length<100000 by omega)];cases hx:b6g d lag t with
  |none=>rfl
  |some x=>
   obtain⟨-,A,B⟩:=b8c hx;have g:short (x.take c.length):=by unfold short;grind
   have m:decide ((0:Int)≤((c.length:Nat):Int))=true:=by simp
   have j:decide (((c.length:Nat):Int)≤((x.length:Nat):Int))=true:=by simp_all
   simp[a5o,b6f f (show c.length≤x.length by omega) (show x.length<100000 by omega)]
   grind[b2T,a2v,a8G]
 ·obtain⟨e,b⟩:0<st.length∧a9Q st=true:=by simp_all
  have g:short (d.take 0):=by simp[short]
  simp only[a1S,a0Z,a5V,show((5:Int)==2)=false from rfl,show((5:Int)==3)=false from rfl,show((5:Int)==4)=false from rfl,show((5:Int)==5)=true from rfl,show ¬ (5:Int)=2 by simp,show ¬ (5:Int)=3 by simp,show ¬ (5:Int)=4 by simp,or_self,if_true,if_false,cT,cF,c3C b (show d.length<100000 by omega),oB];cases b3Q d st with
  |none=>rfl
  |some r=>
   rfl
open Classical in

def a1t (k:Int) (l:List Int) (s:Sub):Sub×Int:=
 if ¬ (1≤l.length∧l.length≤4096∧a4g k s (l.length:Int))then(a2j 0,1)
 else if l.all a0A=false then(a2j 0,6)
 else if k=0 then(bif l.all (fun x=>x==l.headD 0)then(a1S (a0Z 0 s) 0 [l.headD 0] z0 [],0)else(a2j 0,7))
 else if k=1 then(a1S (a0Z 1 s) (a3i l) (a1l l) z0 [],0)
 else match a5V k s (a1l l)with
  |none=>(a2j 0,6)
  |some (wm,r)=>(a1S (a0Z k s) (a3i l) wm (b8z (l.length:Int) (wm.length:Int) r) r,0)
theorem c7o(h:1≤l.length):m0k l 0=some (l.headD 0):=by
 cases l with
 |nil=>grind
 |cons a l=>rfl
theorem c4J(k:1≤l.length)(c:short l)(a b:Sub):
  y0s a5u (l,l,(l.length:Int),(0:Int),a,b,())=some (bif l.all (fun x=>x==l.headD 0)then .inl (l,a,b,())else .inr ((7:Int),a2j 0,())):=by
 have:=a2s (f:=a5u) l (fun i=>(l,l,(l.length:Int),(i:Int),a,b,())) (fun x=>x==l.headD 0) (bt:=Sum.inl (l,a,b,())) (bf:=Sum.inr ((7:Int),a2j 0,()))
  (fun i h hp=>by
   have g:(l[i] != l.headD 0)=false:=by simp_all
   simp only[a5u,dlt h,cT,a0D h,oB,c7o k,g,cF,a0B (a18 h c)])
  (fun i h hp=>by
   have g:(l[i] != l.headD 0)=true:=by simp_all
   simp only[a5u,dlt h,cT,a0D h,oB,c7o k,g];rfl)
  (by simp[a5u])
 omega
theorem b9j(h:a4g k s n)(g:k≠0)(f:k≠1):k=2∨k=3∨k=4∨k=5:=by
 rcases h with h|h|⟨h,-⟩|⟨h,-⟩|⟨h,-⟩|⟨h,-⟩;omega;omega
 all_goals omega
theorem d2c(h:SmallS s)(k:Int)(D:l.length≤100000):b3D (k,l,s)=some (a1t k l s):=by
 have j:short l:=by unfold short;omega
 unfold b3D a1t
 by_cases h1:1≤l.length
 rotate_left;have e:decide (((l.length:Nat):Int)<1)=true:=decide_eq_true (by omega);rw[if_pos (fun g=>h1 g.1)];simp only[e,cT,oB];rfl;have a:decide (((l.length:Nat):Int)<1)=false:=decide_eq_false (by omega)
 by_cases h2:l.length≤4096
 rotate_left;have e:decide (((l.length:Nat):Int) > 4096)=true:=decide_eq_true (by omega);rw[if_pos (fun g=>h2 g.2.1)];simp only[a,e,cT,cF,oB];rfl;have o:decide (((l.length:Nat):Int) > 4096)=false:=decide_eq_false (by omega)
 by_cases h3:a4g k s (l.length:Int)
 rotate_left;have b:b4z k s (l.length:Int)=false:=by simp[b4z,h3]
 rw[if_pos (fun g=>h3 g.2.2)];simp only[a,o,b5Z h,b,cF,a36,cT,oB];rfl;have b:b4z k s (l.length:Int)=true:=by simp[b4z,h3]
 rw[if_neg (fun g=>g ⟨h1,h2,h3⟩)];simp only[a,o,b5Z h,b,cF,bT,oB,a4L j];cases hw:l.all a0A with
 |false=>rfl
 |true=>
  simp only[bT,cF,c8u h,oB];rw[if_neg (by simp)]
  by_cases h0:k=0
  ·subst h0;have w:=c4J h1 j (a2j 0) (a0Z 0 s);have v:a2j 0=((0:Int),(0:Int),(0:Int),(0:Int),(0:Int),([]:(List Int)),a00 3 (0:Int),([]:(List (Int×Int×Unit))),([]:(List Int)),((0:Int),([]:(List Int)),()),([]:(List Int)),()):=rfl;rw[←v,if_pos rfl];simp only[show((0:Int)==0)=true from rfl,cT,w,oB];cases l.all (fun x=>x==l.headD 0)with
   |false=>rfl
   |true=>simp only[cT,c7o h1,oB];rfl
  ·obtain⟨z,A,-⟩:=a9R j hw;obtain⟨t,n,C,-⟩:=a7l h2 hw;have c:(k==0)=false:=by grind
   rw[if_neg h0];simp only[c,cF,z,oB,b6e A (show l.length<100000 by omega),t,a5o,show((0:Int) != 0)=false from rfl]
   by_cases hk1:k=1
   subst hk1;rfl
   ·have i:(k==1)=false:=by simp_all
    have p:=b9j h3 h0 hk1;rw[if_neg hk1];have m:=c9M p h (d:=a1l l) (by simp_all) (by omega) n (a3i l);have u:((a0Z k s).1,((a3i l:Nat):Int),(a0Z k s).2.2)=a1S (a0Z k s) (a3i l) [] z0 []:=rfl;simp only[i,cF,u,m,oB];cases hr:a5V k s (a1l l)with
    |none=>rfl
    |some q=>
     obtain⟨B,r⟩:=q;obtain⟨E,r2,y,-⟩:=c4I p (by simp_all) n hr;have f:a6J (l.length:Int) (B.length:Int)=true:=by simp_all[a6J]
     have hb:=c3F f (l:=r) (by omega) y (by omega);simp only[show((0:Int) != 0)=false from rfl,cF,a1S,hb,oB]
theorem c8v(h:a5S p n warm=true):p.2.1.length≤256:=by
 simp only[a5S,bA,a33,beq_eq_false_iff_ne,ne_eq,beq_iff_eq]at h
 grind[b5H,a1A]
theorem b6J(h:SmallS s)(g:wm.length≤5000)(f:r.length≤5000)(k:p.2.1.length≤300):SmallS (a1S s w wm p r):=
 ⟨h.coefs,h.taps,h.stages,g,f,k⟩
theorem c7p(f:(a1t k l s).2=0):
  1≤l.length∧l.length≤4096∧a4g k s (l.length:Int)∧l.all a0A=true∧
   ((k=0∧l.all (fun x=>x==l.headD 0)=true∧(a1t k l s).1=a1S (a0Z 0 s) 0 [l.headD 0] z0 [])∨
    (k=1∧(a1t k l s).1=a1S (a0Z 1 s) (a3i l) (a1l l) z0 [])∨
     ((k=2∨k=3∨k=4∨k=5)∧∃wm r,a5V k s (a1l l)=some (wm,r)∧(a1t k l s).1=a1S (a0Z k s) (a3i l) wm (b8z (l.length:Int) (wm.length:Int) r) r)):=by
 unfold a1t at f⊢
 split at f
 omega;rename_i g;have g:1≤l.length∧l.length≤4096∧a4g k s (l.length:Int):=Classical.byContradiction g;refine⟨g.1,g.2.1,g.2.2,?_⟩;rw[if_neg (fun h=>h g)]
 split at f
 omega;rename_i d;have a:l.all a0A=true:=by simp_all
 refine⟨a,?_⟩;rw[if_neg d]
 split at f
 grind
 rename_i b;rw[if_neg b]
 split at f
 simp_all;rename_i c;rw[if_neg c];refine .inr (.inr ⟨b9j g.2.2 b c,?_⟩)
 grind
theorem b4G:b6a (a1S (a0Z k s) w wm p r):=by
 unfold b6a a1S a0Z;simp_all
theorem b9N(h:a4g k s n):a4g (a1S (a0Z k s) w wm p r).1 (a1S (a0Z k s) w wm p r) n:=c7n.2 h
theorem c9N{l:List Int}(h:l.all (fun x=>x==l.headD 0)=true):a00 l.length (l.headD 0)=l:=by
 refine(List.eq_replicate_iff.2 ⟨rfl,fun x g=>?_⟩).symm
 grind
theorem c2m(H:SmallS s)(F:(a1t k l s).2=0):
  SmallS (a1t k l s).1∧(a1t k l s).1.1=k∧a1x (a1t k l s).1 (l.length:Int)∧a2t (a1t k l s).1 (l.length:Int)=some l:=by
 obtain⟨R,G,t,z,I⟩:=c7p F;have L:short l:=by unfold short;omega
 obtain⟨-,X,-⟩:=a9R L z;obtain⟨N,u,O,C⟩:=a7l G z;have key:∀m:Sub,a1x m (l.length:Int)→c4k m (l.length:Int)=some l→a2t m (l.length:Int)=some l:=fun m i j=>by simp_all[a2t]
 have b:=c4H H k;rcases I with⟨rfl,w,e⟩|⟨rfl,e⟩|⟨y,d,r,f,e⟩
 ·rw[e];have g:a1x (a1S (a0Z 0 s) 0 [l.headD 0] z0 []) (l.length:Int):=by
   have S:a0A (l.headD 0)=true:=by
    cases l with
    |nil=>rfl
    |cons a l=>simp_all
   exact⟨by omega,by omega,b9N t,b4G,Int.le_refl _,(by simp:(0:Int)≤30),fun _=>rfl,rfl,by simp_all[a1S],rfl,fun _=>⟨rfl,rfl,rfl⟩,fun h=>absurd rfl h.1⟩
  refine⟨b6J b (by simp) (by simp) (by simp[z0]),rfl,g,key _ g ?_⟩;show some (a00 (l.length:Int).toNat (l.headD 0))=some l
  grind[c9N]
 rw[e];have g:a1x (a1S (a0Z 1 s) (a3i l) (a1l l) z0 []) (l.length:Int):=
  ⟨by omega,by omega,b9N t,b4G,a83 _,(by show((a3i l:Nat):Int)≤30;omega),fun h=>absurd h (by simp:¬ (1:Int)=0),by show(((a1l l).length:Nat):Int)=(l.length:Int);omega,u,rfl,fun _=>⟨rfl,rfl,rfl⟩,fun h=>absurd rfl h.2⟩
 refine⟨b6J b (by omega) (by simp) (by simp[z0]),rfl,g,key _ g ?_⟩;show upO ((a3i l:Nat):Int) (a1l l)=some l;omega
 ·rw[e];obtain⟨V,r2,B,M⟩:=c4I y (by simp_all) u f;have n:a6J (l.length:Int) (d.length:Int)=true:=by simp only[a6J,bA,dT];omega
  have hp:=c9L n (l:=r) (by omega) B (by omega);generalize b8z (l.length:Int) (d.length:Int) r=p at hp;have K:=c8v hp

  have q:a2v (a1S (a0Z k s) (a3i l) d p r) (l.length:Int)=(d.length:Int)∧backP (a1S (a0Z k s) (a3i l) d p r)=some (a1l l):=by
   simp only[a4g]at t;rcases y with rfl|rfl|rfl|rfl
   ·obtain⟨T,U,A⟩:0≤s.2.2.1∧s.2.2.1≤4∧s.2.2.1≤(l.length:Int):=by omega
    simp[a5V]at f;cases hq:(a2u s.2.2.1.toNat (a1l l)).all a0A with
    |false=>simp_all
    |true=>
     simp[hq]at f;obtain⟨rfl,rfl⟩:=f;refine⟨?_,?_⟩;show s.2.2.1=_
     grind
     show b9H ((a1l l).take s.2.2.1.toNat) (a2u s.2.2.1.toNat (a1l l)) s.2.2.1=some (a1l l);have hb:=c4t u (o:=s.2.2.1.toNat) (by omega) ((a1l l).length-s.2.2.1.toNat) 0 (by omega);rw[a28,a85]at hb
     grind[b9H]
   have A:(s.2.2.2.2.2.1.length:Int)≤(l.length:Int):=by omega
   simp only[a5V,show ¬ (3:Int)=2 by simp,if_false,if_true,a21,pJ]at f;obtain⟨v,i,rfl,rfl⟩:=f;obtain⟨j,-,-⟩:=b6F i;refine⟨?_,?_⟩;show((s.2.2.2.2.2.1.length:Nat):Int)=_;simp_all;exact j;have A:(s.2.2.2.2.2.1.length:Int)≤(l.length:Int):=by omega
   simp only[a5V,show ¬ (4:Int)=2 by simp,show ¬ (4:Int)=3 by simp,if_false,if_true,a44,a21,pJ]at f;obtain⟨x,E,v,i,rfl,rfl⟩:=f;obtain⟨P,-,Q⟩:=b8c E;obtain⟨j,-,-⟩:=b6F i;refine⟨?_,?_⟩;show((s.2.2.2.2.2.1.length:Nat):Int)=_;simp_all;show(b4t (x.take s.2.2.2.2.2.1.length) v s.2.2.2.2.2.1 s.2.2.2.1).bind (fun l=>b4Y l s.2.2.2.2.1 s.2.2.2.2.2.2.1)=_;simp_all;simp only[a5V,show ¬ (5:Int)=2 by simp,show ¬ (5:Int)=3 by simp,show ¬ (5:Int)=4 by simp,if_false,a21,pJ]at f;obtain⟨v,i,rfl,rfl⟩:=f;obtain⟨j,-,-⟩:=c1g i;exact⟨rfl,j⟩
  have c:¬ (k=0∨k=1):=by omega
  have g:a1x (a1S (a0Z k s) (a3i l) d p r) (l.length:Int):=by
   unfold a1x;rw[q.1];exact⟨by omega,by omega,b9N t,b4G,a83 _,(by show((a3i l:Nat):Int)≤30;omega),fun h=>absurd (.inl h) c,rfl,M,B,fun h=>absurd h c,fun _=>⟨(by show((r.length:Nat):Int)=_;omega),hp⟩⟩
  refine⟨b6J b (by omega) (by omega) (by omega),rfl,g,key _ g ?_⟩;have D:¬ (a1S (a0Z k s) (a3i l) d p r).1=0:=fun h=>c (.inl h);unfold c4k;rw[if_neg D,q.2];exact C
theorem c7q:SmallS (a2j 0):=c5N 0
def cS(k o sh:Int)(c:List Int)(st:List Stg):Sub:=
 (k,(0:Int),o,sh,(0:Int),c,a00 3 (0:Int),st,([]:List Int),((0:Int),([]:List Int),()),([]:List Int),())
theorem b1Y{k o sh:Int}{c:List Int}{st:List Stg}(h:c.length≤40)(g:st.length≤6):SmallS (cS k o sh c st):=
 ⟨h,rfl,g,by simp[cS],by simp[cS],by simp[cS]⟩
def b3M(d:List Int)(o w:Int):List Int×(Int×Int):=(a4e (d,o,w)).getD ([],0,1)
def b1Z(d:List Int)(o w:Int):List Sub:=bif (b3M d o w).2.2==0 then[cS 3 0 (b3M d o w).2.1 (b3M d o w).1 []]else[]
def c7r(d:List Int):Int:=(a6C d).getD 0
def b6K(d:List Int):Sub×Bool:=(a3K d).getD (a2j 0,false)
def b9O(d:List Int):List Sub:=bif (b6K d).2 then[(b6K d).1]else[]
def b2a(i:Nat):List Sub:=(List.range i).map fun(j:Nat)=>cS 2 (j:Int) 0 [] []
def a2x(d:List Int):List Sub:=[cS 0 0 0 [] [],cS 1 0 0 [] [],cS 2 (c7r d) 0 [] []]
def a3X(d:List Int)(k:Int):List Sub:=if 1≤k then b1Z d 4 12++b1Z d 8 12 else[]
def b2I(d:List Int)(k:Int):List Sub:=if 2≤k then[cS 5 0 0 [] [((16:Int),(4:Int),())],cS 5 0 0 [] [((32:Int),(3:Int),()),((16:Int),(5:Int),())]]++b9O d else[]
def c3L(d:List Int)(k:Int):List Sub:=if 3≤k then b2a 5++(b1Z d 1 12++(b1Z d 2 12++(b1Z d 12 14++b1Z d 16 14)))else[]
def a4u(d:List Int)(k:Int):List Sub:=a2x d++(a3X d k++(b2I d k++c3L d k))
def c1n(d:List Int):Prop:=a3K d=some (b6K d)∧((b6K d).2=true→SmallS (b6K d).1)
theorem c4K(a:d.all a0A=true)(k:d.length≤4096)(h:1≤o)(g:o≤32)(f:2≤w∧w≤16):
  a4e (d,(o:Int),(w:Int))=some (b3M d o w)∧((b3M d o w).2.2=0→(b3M d o w).1.length=o):=by
 obtain⟨c,sh,e,b,i⟩:=c8p a k h g f;unfold b3M;simp_all
theorem b2b(d:List Int)(o w:Int):(b1Z d o w).length≤1:=by
 grind[b1Z]
theorem b2c(c:d.all a0A=true)(b:d.length≤4096)(f:1≤o)(k:o≤32)(a:2≤w∧w≤16){L:List Sub}(e:L.length<1000):
  a0Q ((o:Int),(w:Int),d,L)=some (d,L++b1Z d o w):=by
 obtain⟨g,-⟩:=c4K c b f k a;have h:lim (L.length+1)=true:=a0U (by omega);unfold a0Q b1Z;simp only[g,oB];cases (b3M d o w).2.2==0 with
 |true=>simp only[cT,h];rfl
 |false=>simp
theorem c7s{L:List Sub}(k:L.length<1000):y0s a2y ((0:Int),L,d,())=some (L++b2a 5,d,()):=by
 have:=a1D (f:=a2y) (fun i:Nat=>((i:Int),L++b2a i,d,())) 5 (b:=(L++b2a 5,d,()))
  (fun i hi=>by
   have g:decide ((i:Int)<5)=true:=decide_eq_true (by omega);have h:lim ((L++b2a i).length+1)=true:=a0U (by simp[b2a];omega);have e:(L++b2a i)++[cS 2 (i:Int) 0 [] []]=L++b2a (i+1):=by simp[b2a,List.range_succ]
   rw[←e];simp only[a2y,g,cT,h,a0B (show i<1000000 by omega)];rfl)
  (by
   rfl)
 simp at this;rw[show b2a 0=[]from rfl,a40]at this;omega
theorem d2d(a:d.all a0A=true)(c:d.length≤4096)(l:c1n d)(k:Int):a7i (d,k)=some (a4u d k):=by
 obtain⟨o,E,F⟩:=c1e (show d.length<100000 by omega) a;have hb:c7r d=(o:Int):=by simp_all[c7r]
 have D:(b9O d).length≤1:=by grind[b9O]
 have M:=b2b d 4 12;have N:=b2b d 8 12;have l1:=b2b d 1 12;have l2:=b2b d 2 12;have G:=b2b d 12 14;have y:=fun L (hL:L.length<1000)=>b2c (L:=L) a c (o:=4) (w:=12) (by omega) (by omega) (by omega) hL;have z:=fun L (hL:L.length<1000)=>b2c (L:=L) a c (o:=8) (w:=12) (by omega) (by omega) (by omega) hL;have v:=fun L (hL:L.length<1000)=>b2c (L:=L) a c (o:=1) (w:=12) (by omega) (by omega) (by omega) hL;have x:=fun L (hL:L.length<1000)=>b2c (L:=L) a c (o:=2) (w:=12) (by omega) (by omega) (by omega) hL;have i:=fun L (hL:L.length<1000)=>b2c (L:=L) a c (o:=12) (w:=14) (by omega) (by omega) (by omega) hL;have j:=fun L (hL:L.length<1000)=>b2c (L:=L) a c (o:=16) (w:=14) (by omega) (by omega) (by omega) hL;simp at y z v x i j;have O:(a2x d).length=3:=rfl;have n1:(a3X d k).length≤2:=by unfold a3X;split<;>simp<;>omega
 have n2:(b2I d k).length≤3:=by unfold b2I;split<;>simp<;>omega
 have P:(b2a 5).length=5:=rfl;have K:(bif decide (k≥1)then((a0Q ((4:Int),(12:Int),d,a2x d)).bind fun n=>(a0Q ((8:Int),(12:Int),n.1,n.2)).bind fun p=>some (k,p.1,p.2,()))else some (k,d,a2x d,()))=some (k,d,a2x d++a3X d k,()):=by
  unfold a3X
  by_cases h:1≤k
  have e:decide (k≥1)=true:=decide_eq_true h;simp only[e,cT,y (a2x d) (by omega),oB,z (a2x d++b1Z d 4 12) (by grind),if_pos h,aA]
  grind
 have C:a7i (d,k)=(a6C d).bind fun A=>
   (show Option (Int×((List Int)×((List Sub)×Unit)))from bif decide (k≥1)then((a0Q ((4:Int),(12:Int),d,[cS 0 0 0 [] [],cS 1 0 0 [] [],cS 2 A 0 [] []])).bind fun n=>(a0Q ((8:Int),(12:Int),n.1,n.2)).bind fun p=>some (k,p.1,p.2,()))else some (k,d,[cS 0 0 0 [] [],cS 1 0 0 [] [],cS 2 A 0 [] []],())).bind fun g=>
   (show Option (Int×((List Sub)×((List Int)×Unit)))from bif decide (g.1≥2)then(bif lim (g.2.2.1.length+1)then(bif lim ((g.2.2.1++[cS 5 0 0 [] [((16:Int),(4:Int),())]]).length+1)then((a3K g.2.1).bind fun q=>
    bif q.2 then(bif lim ((g.2.2.1++[cS 5 0 0 [] [((16:Int),(4:Int),())]]++[cS 5 0 0 [] [((32:Int),(3:Int),()),((16:Int),(5:Int),())]]).length+1)then some (g.1,g.2.2.1++[cS 5 0 0 [] [((16:Int),(4:Int),())]]++[cS 5 0 0 [] [((32:Int),(3:Int),()),((16:Int),(5:Int),())]]++[q.1],g.2.1,())else none)
    else some (g.1,g.2.2.1++[cS 5 0 0 [] [((16:Int),(4:Int),())]]++[cS 5 0 0 [] [((32:Int),(3:Int),()),((16:Int),(5:Int),())]],g.2.1,()))else none)else none)else some (g.1,g.2.2.1,g.2.1,())).bind fun t=>
   (show Option ((List Sub)×Unit)from bif decide (t.1≥3)then((y0s a2y ((0:Int),t.2.1,t.2.2.1,())).bind fun m=>(a0Q ((1:Int),(12:Int),m.2.1,m.1)).bind fun r=>(a0Q ((2:Int),(12:Int),r.1,r.2)).bind fun s=>
    (a0Q ((12:Int),(14:Int),s.1,s.2)).bind fun f=>(a0Q ((16:Int),(14:Int),f.1,f.2)).bind fun b=>some (b.2,()))else some (t.2.1,())).bind fun u=>some u.1:=rfl
 have B:[cS 0 0 0 [] [],cS 1 0 0 [] [],cS 2 (o:Int) 0 [] []]=a2x d:=by unfold a2x;grind
 have Q:(bif decide (k≥2)then(bif lim ((a2x d++a3X d k).length+1)then(bif lim ((a2x d++a3X d k++[cS 5 0 0 [] [((16:Int),(4:Int),())]]).length+1)then((a3K d).bind fun q=>
    bif q.2 then(bif lim ((a2x d++a3X d k++[cS 5 0 0 [] [((16:Int),(4:Int),())]]++[cS 5 0 0 [] [((32:Int),(3:Int),()),((16:Int),(5:Int),())]]).length+1)then some (k,a2x d++a3X d k++[cS 5 0 0 [] [((16:Int),(4:Int),())]]++[cS 5 0 0 [] [((32:Int),(3:Int),()),((16:Int),(5:Int),())]]++[q.1],d,())else none)
    else some (k,a2x d++a3X d k++[cS 5 0 0 [] [((16:Int),(4:Int),())]]++[cS 5 0 0 [] [((32:Int),(3:Int),()),((16:Int),(5:Int),())]],d,()))else none)else none)else some (k,a2x d++a3X d k,d,()):Option (Int×((List Sub)×((List Int)×Unit))))=some (k,a2x d++(a3X d k++b2I d k),d,()):=by
  unfold b2I
  by_cases h:2≤k
  have e:decide (k≥2)=true:=decide_eq_true h;have q1:lim ((a2x d++a3X d k).length+1)=true:=a0U (by grind);have H:lim ((a2x d++a3X d k++[cS 5 0 0 [] [((16:Int),(4:Int),())]]).length+1)=true:=a0U (by simp;omega);have I:lim ((a2x d++a3X d k++[cS 5 0 0 [] [((16:Int),(4:Int),())]]++[cS 5 0 0 [] [((32:Int),(3:Int),()),((16:Int),(5:Int),())]]).length+1)=true:=a0U (by simp;omega);simp only[e,q1,H,I,cT,l.1,oB,if_pos h,b9O];cases (b6K d).2<;>simp
  grind
 have R:(bif decide (k≥3)then((y0s a2y ((0:Int),a2x d++(a3X d k++b2I d k),d,())).bind fun m=>(a0Q ((1:Int),(12:Int),m.2.1,m.1)).bind fun r=>(a0Q ((2:Int),(12:Int),r.1,r.2)).bind fun s=>
    (a0Q ((12:Int),(14:Int),s.1,s.2)).bind fun f=>(a0Q ((16:Int),(14:Int),f.1,f.2)).bind fun b=>some (b.2,()))else some (a2x d++(a3X d k++b2I d k),()):Option ((List Sub)×Unit))=some (a4u d k,()):=by
  unfold a4u c3L
  by_cases h:3≤k
  have e:decide (k≥3)=true:=decide_eq_true h;simp only[e,cT,c7s (L:=a2x d++(a3X d k++b2I d k)) (by simp;omega),oB,if_pos h];rw[v _ (by simp;omega)];simp only[oB];rw[x _ (by simp;omega)];simp only[oB];rw[i _ (by simp;omega)];simp only[oB];rw[j _ (by simp;omega)]
  simp
  grind
 rw[C,E,oB,B];simp only[];rw[K];simp only[oB];simp_all
theorem c1o(l:d.all a0A=true)(i:d.length≤4096)(f:c1n d)(k:Int):∀c∈a4u d k,SmallS c:=by
 have g:∀(o w:Nat),1≤o→o≤32→2≤w∧w≤16→∀c∈b1Z d o w,SmallS c:=fun o w a b e c h=>by
  obtain⟨-,m⟩:=c4K l i a b e;unfold b1Z at h;cases he:(b3M d o w).2.2==0 with
  |false=>simp_all
  |true=>
   rw[he]at h;simp at h
   grind[b1Y]
 intro c h;simp[a4u]at h;rcases h with h|h|h|h;simp[a2x]at h;rcases h with rfl|rfl|rfl<;>exact b1Y (by simp) (by simp);unfold a3X at h
 split at h
 simp at h;rcases h with h|h;exact g 4 12 (by omega) (by omega) (by omega) c h;exact g 8 12 (by omega) (by omega) (by omega) c h;simp_all
 ·unfold b2I at h
  split at h
  ·simp only[mA,mC,a96,or_false]at h;rcases h with(rfl|rfl)|h;simp_all[b1Y];simp_all[b1Y]
   ·unfold b9O at h;cases hg:(b6K d).2 with
    |false=>simp_all
    |true=>
     rw[hg]at h;simp at h;subst h;exact f.2 hg
  simp_all
 unfold c3L at h
 split at h
 simp only[mA,b2a,List.mem_map]at h;rcases h with⟨j,-,rfl⟩|h|h|h|h;simp_all[b1Y];exact g 1 12 (by omega) (by omega) (by omega) c h;exact g 2 12 (by omega) (by omega) (by omega) c h;exact g 12 14 (by omega) (by omega) (by omega) c h;exact g 16 14 (by omega) (by omega) (by omega) c h;simp_all
theorem c9O(g:d.length≤256):a3K d=some (a2j 0,false):=by
 have h:b2u (d,(16:Int),(256:Int))=some (0,7):=by
  unfold b2u
  grind
 unfold a3K;simp only[h,oB,show((7:Int) != 0)=true from rfl,cT];rfl
theorem d3H{d:List Int}(g:d.length≤256):c1n d:=by
 have h:=c9O g
 have:b6K d=(a2j 0,false):=by unfold b6K;simp_all
 exact⟨by simp_all,fun f=>by simp_all⟩
def b6j(l:List Int)(a:Int×(Bool×Sub))(c:Sub):Int×(Bool×Sub):=
 bif (a1t c.1 l c).2 != 0 then a else bif !a.2.1 || decide (a5m (a1t c.1 l c).1 (l.length:Int)<a.1)then(a5m (a1t c.1 l c).1 (l.length:Int),true,(a1t c.1 l c).1)else a
def b6L(l:List Int)(cs:List Sub):Int×(Bool×Sub):=cs.foldl (b6j l) (0,false,a2j 0)
theorem b6M{α A β:Type}(g:A→α→A)(h:A→β):∀(l:List α)(a:A),a8D h (a2X (fun a x=>.inl (g a x)) l a)=h (l.foldl g a)
 | [],_=>rfl
 |x::l,a=>b6M g h l (g a x)
theorem c5O(h:SmallS s):SmallS (a1t k l s).1:=by
 by_cases h0:(a1t k l s).2=0
 exact(c2m h h0).1
 have:(a1t k l s).1=a2j 0:=by
  unfold a1t at h0⊢
  grind
 simp_all[c7q]
theorem c8w{cs:List Sub}(e:∀c∈cs,SmallS c)(o:l.length≤4096)(n:cs.length<1000):
  y0s a7E (l,(0:Int),false,cs,((cs.length:Nat):Int),(0:Int),a2j 0,a2j 0,())=some (a2j 0,(b6L l cs).2.2,()):=by
 have:=a1N (f:=a7E) cs (fun i a=>(l,a.1,a.2.1,cs,((cs.length:Nat):Int),(i:Int),a2j 0,a.2.2,())) (fun a x=>.inl (b6j l a x)) (fun _ _=>True) (fun a=>(a2j 0,a.2.2,()))
  (fun i hi a _=>by
   refine⟨fun m h=>?_,fun b hb=>by grind⟩;simp at h;subst h;refine⟨?_,trivial⟩;have g:=e _ (a05 hi);have d:=c6b (c5O (k:=cs[i].1) (l:=l) g) (l.length:Int);unfold b6j;simp only[a7E,dlt hi,cT,a0D hi,oB,d2c g cs[i].1 (show l.length≤100000 by omega),d,a0B (show i<1000000 by omega)];cases (a1t cs[i].1 l cs[i]).2 != 0 with
   |true=>rfl
   |false=>
    have j:=a0B (show i<1000000 by omega)
    grind)
  (fun a _=>by simp_all[a7E]) (a:=((0:Int),false,a2j 0)) trivial
 simp at this;rw[this,b6M];rfl
theorem d2e(v:1≤l.length)(c:l.length≤4096)(a:l.all a0A=true)(h:c1n (a1l l))(u:0≤k)(x:k≤3):
  a5O (l,k)=some ((b6L l (a4u (a1l l) k)).2.2,0):=by
 have d:short l:=by unfold short;omega
 obtain⟨r,s,-⟩:=a9R d a;obtain⟨e,b,t,-⟩:=a7l c a;have i:decide (((l.length:Nat):Int)<1)=false:=decide_eq_false (by omega);have j:decide (((l.length:Nat):Int) > 4096)=false:=decide_eq_false (by omega);have m:decide (k<0)=false:=decide_eq_false (by omega);have n:decide (k > 3)=false:=decide_eq_false (by omega);have f:(a4u (a1l l) k).length<1000:=by
  have g:=fun o w=>b2b (a1l l) o w;have q1:=g 4 12;have y:=g 8 12;have z:=g 1 12;have A:=g 2 12;have B:=g 12 14;have C:=g 16 14;have p:(b9O (a1l l)).length≤1:=by grind[b9O]
  simp only[a4u,a2x,a3X,b2I,c3L,lN]
  grind[b2a]
 have hb:=c8w (l:=l) (c1o b (by omega) h k) c f;have q:a2j 0=((0:Int),(0:Int),(0:Int),(0:Int),(0:Int),([]:(List Int)),a00 3 (0:Int),([]:(List (Int×Int×Unit))),([]:(List Int)),((0:Int),([]:(List Int)),()),([]:(List Int)),()):=rfl;unfold a5O;simp only[←q,i,j,m,n,cF,oB,a4L d,a,bT,r,b6e s (show l.length<100000 by omega),e,a5o,show((0:Int) != 0)=false from rfl,d2d b (show(a1l l).length≤4096 by omega) h,hb]
theorem b2d(v:Int)(n:Nat)(L:List Int):(a0P v n L).length=L.length+(a0P v n []).length:=by
 grind[a0P]
theorem b5h(n:Nat):∀(l L:List Int),(a1J n l L).length=L.length+(a1J n l []).length
 | [],L=>by rfl
 |x::l,L=>by
  show(a1J n l (a0P (a0X x n) n L)).length=L.length+(a1J n l (a0P (a0X x n) n [])).length;rw[b5h n l,b5h n l (a0P (a0X x n) n []),b2d];omega
theorem b5K:∀(st:List Stg)(L:List Int),(a3t st L).length=L.length+(a3t st []).length
 | [],L=>by rfl
 |s::st,L=>by
  show(a3t st (a6M s L)).length=L.length+(a3t st (a6M s [])).length;rw[b5K st,b5K st (a6M s [])];unfold a6M;rw[b2d,b2d _ 5 L,b2d _ 4 (a0P _ 5 [])];omega
theorem c7t(s:Sub)(L:List Int):(a6N s L).length=L.length+(a6N s []).length:=by
 grind[a6N,b5h,b2d]
theorem c2R(s:Sub)(L:List Int):(a2G s L).length=L.length+(a2G s []).length:=by
 grind[a2G,b2d,c7t,b5h,b5K]
theorem c9P(g:0≤s.1∧s.1≤5)(f:0≤s.2.1∧s.2.1≤30)(h:s.2.2.2.2.2.2.2.2.1.all a0A=true)(L:List Int):(b2E s L).length=L.length+13:=by
 grind[a01,a2c,b2E,a3M,b1X]
def c7u(s:Sub)(zn:List Nat):Nat:=
 13+(a2G s []).length+a0J s.2.2.2.2.2.2.2.2.1*s.2.2.2.2.2.2.2.2.1.length+if s.1=0∨s.1=1 then 0 else 4+a5U zn s.2.2.2.2.2.2.2.2.2.1.2.1 s.2.2.2.2.2.2.2.2.2.2.1
theorem b6N(h:a4g k s n):0≤k∧k≤5:=by
 rcases h with h|h|⟨h,-⟩|⟨h,-⟩|⟨h,-⟩|⟨h,-⟩<;>omega
theorem b5L(h:(a2t s n).isSome=true):a1x s n:=by
 grind[a2t]
theorem d2f(h:(a2t s n).isSome=true)(d:s.1≠0∧s.1≠1→PartsOk s.2.2.2.2.2.2.2.2.2.1 n ((s.2.2.2.2.2.2.2.2.1.length:Nat):Int) s.2.2.2.2.2.2.2.2.2.2.1 zn)(L:List Int):
  (a5x s zn L).length=L.length+c7u s zn:=by
 obtain⟨e,i,b,-,k,a,-,-,f,-⟩:=b5L h;have c:=a2c f;have g:=c9P (b6N b) ⟨k,a⟩ f L;unfold a5x c7u
 by_cases hk:s.1=0∨s.1=1
 rw[if_pos hk,if_pos hk,b5f (by omega),c2R,g];omega;rw[if_neg hk,if_neg hk,c3E (d (not_or.1 hk)),b5f (by omega),c2R,g];omega
theorem c9Q(h:SmallS s)(f:(a2t s n).isSome=true):∃g,a5m s n=((c7u s g:Nat):Int)∧(s.1≠0∧s.1≠1→PartsOk s.2.2.2.2.2.2.2.2.2.1 n ((s.2.2.2.2.2.2.2.2.1.length:Nat):Int) s.2.2.2.2.2.2.2.2.2.2.1 g):=by
 obtain⟨e,b,-,-,-,a,-⟩:=b6z h (n:=n) (L:=[]) (by simp);obtain⟨-,g,-,k⟩:=a f;refine⟨g,?_,k⟩;unfold a5m;rw[if_pos f,←c2k k,d2f f k]
 simp
structure Shifted (l m:List Int) (n:Nat):Prop where
 len:m.length=l.length
 wl:l.all a0A=true
 wm:m.all a0A=true
 down:a1l m=a1l l
 waste:a3i m=a3i l+n
 fl:l.all (fun x=>x==l.headD 0)=false
 fm:m.all (fun x=>x==m.headD 0)=false
structure BestIs (l:List Int) (cs:List Sub) (a:Int×(Bool×Sub)):Prop where
 one:a.2.1=true→∃c∈cs,(a1t c.1 l c).2=0∧a.2.2=(a1t c.1 l c).1∧a.1=a5m a.2.2 (l.length:Int)
 least:∀c∈cs,(a1t c.1 l c).2=0→a.2.1=true∧a.1≤a5m (a1t c.1 l c).1 (l.length:Int)
theorem b8f{l:List Int}:∀(cs ds:List Sub)(a:Int×(Bool×Sub)),BestIs l ds a→BestIs l (ds++cs) (cs.foldl (b6j l) a)
 | [],ds,a,h=>by simp_all
 |c::cs,ds,a,h=>by
  rw[b00,show ds++c::cs=(ds++[c])++cs by simp];refine b8f cs (ds++[c]) _ ?_
  unfold b6j
  by_cases h0:(a1t c.1 l c).2=0
  ·have n1:((a1t c.1 l c).2 != 0)=false:=by simp_all
   rw[n1,cF];cases hq:(!a.2.1 || decide (a5m (a1t c.1 l c).1 (l.length:Int)<a.1))with
   |true=>
    refine⟨fun _=>⟨c,by simp,h0,rfl,rfl⟩,fun d f k=>⟨rfl,?_⟩⟩;rcases mA.1 f with f|f;obtain⟨e,i⟩:=h.least d f k
    grind
    simp_all
   |false=>
    simp only[a77,Bool.not_eq_false',decide_eq_false_iff_not]at hq;refine⟨fun b=>?_,fun d f k=>?_⟩;obtain⟨d,f,g⟩:=h.one b
    grind
    rcases mA.1 f with f|f;exact h.least d f k;simp_all
  have n1:((a1t c.1 l c).2 != 0)=true:=by simp_all
  rw[n1,cT];refine⟨fun b=>?_,fun d f k=>?_⟩;obtain⟨d,f,g⟩:=h.one b
  grind
  rcases mA.1 f with f|f;exact h.least d f k;simp_all
theorem c2n(l:List Int)(cs:List Sub):BestIs l cs (b6L l cs):=
 b8f cs [] _ ⟨fun h=>(by grind),fun _ h=>(by grind)⟩
theorem b6O(h:1≤l.length)(g:l.length≤4096)(f:l.all a0A=true):a1t 1 l (cS 1 0 0 [] [])=(a1S (a0Z 1 (cS 1 0 0 [] [])) (a3i l) (a1l l) z0 [],0):=by
 unfold a1t;rw[if_neg (fun q=>q ⟨h,g,.inr (.inl rfl)⟩),if_neg (by simp_all),if_neg (by simp),if_pos rfl]
theorem c7v(h:1≤l.length)(g:l.length≤4096)(f:l.all a0A=true)(d:List Int)(k:Int):(b6L l (a4u d k)).2.1=true:=
 ((c2n l (a4u d k)).least (cS 1 0 0 [] []) (by simp[a4u,a2x]) (by rw[show(cS 1 0 0 [] []).1=1 from rfl,b6O h g f])).1
def inW(x:Int)(v:Nat):Bool:=decide (x=0) || a1k x (v:Int)
theorem c9R{x:Int}{v:Nat}:a1k x (v:Int)=true↔1≤v∧v≤31∧-((2^(v-1):Nat):Int)≤x∧x≤((2^(v-1):Nat):Int)-1:=by
 by_cases hv:1≤v∧v≤31
 have e:((v:Int)-1)=((v-1:Nat):Int):=by omega
 have hp:2^(v-1)≤2^30:=a08 (by omega) (by omega);have a:=a16 (v-1);have g:A0n .i64 1 ((v-1:Nat):Int)=((2^(v-1):Nat):Int):=c4u (by omega);have f:A0n .i64 (-1) ((v-1:Nat):Int)=-((2^(v-1):Nat):Int):=by
  grind[IntKind.bits,A0n,a0C]
 have k:wrap .i64 (((2^(v-1):Nat):Int)-1)=((2^(v-1):Nat):Int)-1:=a0C (by omega);simp only[a1k,e,g,f,k,bA,dT];omega;constructor;intro h;simp[a1k]at h;omega;omega
theorem b8A:inW x v=true↔x=0∨(1≤v∧v≤31∧-((2^(v-1):Nat):Int)≤x∧x≤((2^(v-1):Nat):Int)-1):=by
 simp_all[inW,c9R]
theorem c9S{x:Int}{v w:Nat}(h:v≤w)(c:w≤31)(g:inW x v=true):inW x w=true:=by
 rw[b8A]at g⊢;rcases g with g|⟨f,k,a,b⟩;omega
 have:2^(v-1)≤2^(w-1):=a08 (by omega) (by omega)
 omega
theorem c9T{x:Int}(h:a0A x=true):inW x 31=true:=by
 have:=a1O.1 h
 rw[b8A];omega
theorem c2S{x:Int}(j:a0A x=true):∀(k w:Nat),w+k=32→w≤31→w≤a1R x k w∧a1R x k w≤31∧inW x (a1R x k w)=true∧∀v,w≤v→inW x v=true→v≤31→a1R x k w≤v
 |0,w,h,g=>absurd g (by omega)
 |k+1,w,h,g=>by
  by_cases hin:inW x w=true
  ·have:a1R x (k+1) w=w:=by
    unfold a1R;cases a:(x != 0)&&!a1k x (w:Int)with
    |false=>rfl
    |true=>
     simp at a;simp_all[inW]
   simp_all
  have a:((x != 0)&&!a1k x (w:Int))=true:=by
   simp_all[inW]
  have i:w≠31:=fun e=>hin (by simp_all[c9T]);have e:a1R x (k+1) w=a1R x k (w+1):=by
   show(bif (x != 0)&&!a1k x (w:Int)then a1R x k (w+1)else w)=_
   grind
  obtain⟨l,b,c,d⟩:=c2S j k (w+1) (by omega) (by omega);rw[e];refine⟨by omega,b,c,fun v hv f g=>d v ?_ f g⟩;rcases Nat.lt_or_ge w v with q|q;exact q
  have:v=w:=by omega
  exact absurd (this▸f) hin
theorem b1B:∀(l:List Int)(w:Nat),l.all a0A=true→w≤31→
  w≤l.foldl (fun w x=>a1R x (32-w) w) w∧l.foldl (fun w x=>a1R x (32-w) w) w≤31∧(∀x∈l,inW x (l.foldl (fun w x=>a1R x (32-w) w) w)=true)∧∀v,w≤v→v≤31→(∀x∈l,inW x v=true)→l.foldl (fun w x=>a1R x (32-w) w) w≤v
 | [],w,_,h31=>⟨a27 _,h31,by simp,fun v hv _ _=>hv⟩
 |x::l,w,h,h31=>by
  rw[a07,bA]at h;obtain⟨i,b,j,m⟩:=c2S h.1 (32-w) w (by omega) h31;obtain⟨c,a,d,e⟩:=b1B l (a1R x (32-w) w) h.2 b;simp only[b00];refine⟨by omega,a,fun y k=>?_,fun v hv f g=>?_⟩
  ·rcases mC.1 k with rfl|k
   all_goals grind[c9S]
  simp_all
theorem c4L{l:List Int}(h:l.all a0A=true):∀x∈l,inW x (a0J l)=true:=(b1B l 0 h (by omega)).2.2.1
theorem c5P(h:l.all a0A=true)(hv:v≤31)(g:∀x∈l,inW x v=true):a0J l≤v:=(b1B l 0 h (by omega)).2.2.2 v (by omega) hv g
theorem c9U{x:Int}{w v:Nat}(e:w≤30)(k:((2^w:Nat):Int) ∣ x)(h:inW x v=true):inW (A0o .i64 x (w:Int)) v=true:=by
 obtain⟨c,rfl⟩:=k;rw[c9I (by omega)];rw[b8A]at h⊢;have hp:(1:Int)≤((2^w:Nat):Int):=by have:=a16 w;omega
 generalize ((2^w:Nat):Int)=p at h hp;rcases h with h|⟨g,f,b,d⟩
 grind[Int.mul_eq_zero]
 refine .inr ⟨g,f,?_,?_⟩
 by_cases hc:0≤c
 omega;have a:=a47 (show 0≤p-1 by omega) (show 0≤-c by omega)
 grind
 by_cases hc:0≤c
 have a:=a47 (show 0≤p-1 by omega) hc
 grind
 omega
theorem c7w(k:l.length≤4096)(h:l.all a0A=true):a0J (a1l l)≤a0J l:=by
 obtain⟨-,e,c⟩:=a9R (show short l by unfold short;omega) h;obtain⟨-,f,-,-⟩:=a7l k h;have a:∀x∈l,((2^a3i l:Nat):Int) ∣ x:=by
  rcases c with⟨g,-⟩|⟨-,-,g,-⟩
  all_goals grind[a86]
 refine c5P f (a2c h) fun y b=>?_
 obtain⟨x,d,rfl⟩:=List.mem_map.1 b
 grind[c9U,c4L]
theorem c7x(a:1≤l.length)(h:l.length≤4096)(g:l.all a0A=true):a5m (a1t 1 l (cS 1 0 0 [] [])).1 (l.length:Int)=((13+a0J (a1l l)*l.length:Nat):Int):=by
 have b:SmallS (cS 1 0 0 [] []):=b1Y (by simp) (by simp);have d:=b6O a h g;obtain⟨a1,-,-,f⟩:=c2m b (k:=1) (l:=l) (by grind);obtain⟨i,c,-⟩:=c9Q a1 (by rw[f];rfl);obtain⟨-,-,j,-⟩:=a7l h g;rw[c,d];have e:c7u (a1S (a0Z 1 (cS 1 0 0 [] [])) (a3i l) (a1l l) z0 []) i=13+0+a0J (a1l l)*(a1l l).length+0:=rfl;simp_all
theorem c7y{l:List Int}(b:1≤l.length)(f:l.length≤4096)(a:l.all a0A=true)(g:c1n (a1l l)){k:Int}(d:0≤k)(t:k≤3):
  ∃s,a5O (l,k)=some (s,0)∧SmallS s∧a2t s (l.length:Int)=some l∧s=(b6L l (a4u (a1l l) k)).2.2∧a5m s (l.length:Int)=(b6L l (a4u (a1l l) k)).1∧a5m s (l.length:Int)≤((13+a0J l*l.length:Nat):Int)∧
   (∀c∈a4u (a1l l) k,(a1t c.1 l c).2=0→a5m s (l.length:Int)≤a5m (a1t c.1 l c).1 (l.length:Int)):=by
 obtain⟨-,p,u,-⟩:=a7l f a;have hb:=d2e b f a g d t;have j:=c7v b f a (a1l l) k;obtain⟨c,i,q,r,o⟩:=(c2n l (a4u (a1l l) k)).one j;have e:=c1o p (by omega) g k c i;obtain⟨m,-,-,n⟩:=c2m e q;rw[←r]at m n;have h:∀c∈a4u (a1l l) k,(a1t c.1 l c).2=0→a5m (b6L l (a4u (a1l l) k)).2.2 (l.length:Int)≤a5m (a1t c.1 l c).1 (l.length:Int):=fun c i d=>by
  rw[←o];exact((c2n l (a4u (a1l l) k)).least c i d).2
 refine⟨_,hb,m,n,rfl,o.symm,?_,h⟩;have hp:=h (cS 1 0 0 [] []) (by simp[a4u,a2x]) (by rw[show(cS 1 0 0 [] []).1=1 from rfl,b6O b f a]);rw[show(cS 1 0 0 [] []).1=1 from rfl,c7x b f a]at hp
 have:=a25 l.length (c7w f a)
 omega
@[reducible] def Rd:Type:=(List Int)×(Int×(Int×Unit))
def a1B(L:List Int):Prop:=∀b∈L,b=0∨b=1
def b3S(bs:List Int)(i:Nat):Bool:=(bs.getD (i / 8) 0).toNat.testBit (7-i%8)
theorem or8{x y:Nat}(h:x<256)(g:y<256):bits .u8 .or (x:Int) (y:Int)=((x ||| y:Nat):Int):=by
 show wrap .u8 (((a04 8 (x:Int)) ||| (a04 8 (y:Int))).toNat:Int)=_;rw[a24,a24,a72,a29,a29,a23 h,a23 g,a8C]
 have:x ||| y<2^8:=a88 h g
 omega
theorem d8i{b:Int}(hb:b=0∨b=1){r:Nat}(h:r<8):A0n .u8 b (7-(r:Int))=((b.toNat*2^(7-r):Nat):Int):=by
 have key:∀r:Fin 8,A0n .u8 0 (7-(r.1:Int))=((0*2^(7-r.1):Nat):Int)∧A0n .u8 1 (7-(r.1:Int))=((1*2^(7-r.1):Nat):Int):=by decide +kernel
 rcases hb with rfl|rfl;exact(key ⟨r,h⟩).1;exact(key ⟨r,h⟩).2
theorem c9V{x:Nat}(h:x<256){r:Nat}(g:r<8):bits .u8 .and (A0o .u8 (x:Int) (7-(r:Int))) 1=if x.testBit (7-r)then 1 else 0:=by
 have e:A0o .u8 (x:Int) (7-(r:Int))=((x / 2^(7-r):Nat):Int):=by
  show a80 (x:Int) (2^(min (7-(r:Int)).toNat 8))=_
  grind
 rw[e];have f:x / 2^(7-r)<256:=a38 (a32 _ _) h;show wrap .u8 (((a04 8 ((x / 2^(7-r):Nat):Int)) &&& (a04 8 1)).toNat:Int)=_
 grind[a04,a8C]
theorem c8x(L:List Int)(b:Int)(i:Nat):(L++[b]).getD i 0=if i=L.length then b else L.getD i 0:=by
 grind
theorem c4M(h:List Int)(k:Nat)(y:Int)(g:k<h.length)(j:Nat):(h.set k y).getD j 0=if j=k then y else h.getD j 0:=by
 grind
theorem c2T:∀(n:Nat)(L:List Int),L.length=n→a1B L→(∀j,0≤(wL L).1.getD j 0∧(wL L).1.getD j 0<256)∧∀i,b3S (wL L).1 i=decide (L.getD i 0=1)
 |0,L,h,_=>by
  simp_all[wL,b3S]
 |n+1,L,h,hL=>by
  obtain⟨g,b,rfl⟩:∃g b,L=g++[b]:=by
   rcases a51 L with rfl|⟨g,b,e⟩
   all_goals simp_all
  have hb:b=0∨b=1:=hL b (by simp);obtain⟨t,v⟩:=c2T n g (by simp_all) fun c C=>hL c (by grind);obtain⟨o,p⟩:=a6e g;rw[c2h];generalize wL g=wr at o p t v⊢;obtain⟨d,m,u⟩:=wr;have o:m=(g.length:Int):=o;have p:d.length=(g.length+7) / 8:=p;subst o;have e8:((g.length:Int) / 8).toNat=g.length / 8:=by rfl
  have q:(g.length:Int)%8=((g.length%8:Nat):Int):=by rfl
  obtain⟨f,a,w,y⟩:∃f:List Int,(if(g.length:Int)%8=0 then d++[0]else d)=f∧g.length / 8<f.length∧∀j,f.getD j 0=d.getD j 0:=by
   grind
  rw[q]at a;have B:g.length%8<8:=a41 _ (by simp);obtain⟨x,r⟩:∃x:Nat,d.getD (g.length / 8) 0=(x:Int):=a01 (t _).1;have k:x<256:=by
   grind
  have s:b.toNat*2^(7-g.length%8)<256:=by
   have hp:2^(7-g.length%8)≤2^7:=a08 (by simp) (by omega)
   grind
  have A:x ||| b.toNat*2^(7-g.length%8)<2^8:=a88 k s;have l:(c2g (d,(g.length:Int),u) b).1=f.set (g.length / 8) ((x ||| b.toNat*2^(7-g.length%8):Nat):Int):=by
   unfold c2g;simp only[a,e8,q];rw[y,r,d8i hb B,or8 k s]
  rw[l];refine⟨fun j=>?_,fun i=>?_⟩
  grind[c4M]
  ·unfold b3S;rw[c4M _ _ _ w,c8x];have hi:=v i;unfold b3S at hi
   by_cases hk:i / 8=g.length / 8
   ·rw[if_pos hk,tN,Nat.testBit_or];rw[hk,r,tN]at hi;rw[hi];have z:(b.toNat*2^(7-g.length%8)).testBit (7-i%8)=(decide (b=1)&&decide (i=g.length)):=by
     rcases hb with rfl|rfl
     all_goals grind
    grind
   grind
theorem d2g(h:a1B L):(∀j,0≤(wL L).1.getD j 0∧(wL L).1.getD j 0<256)∧∀i,b3S (wL L).1 i=decide (L.getD i 0=1):=c2T _ L rfl h
def rdr(P R:List Int):Rd:=((wL (P++R)).1,(P.length:Int),(0:Int),())
theorem c2o(k:a1B L)(n:L.length<1000000000)(hi:i<L.length)(t:Int×(Int×Unit)):
  a1F (((wL L).1,t),(i:Int))=some (L.getD i 0,(wL L).1,t):=by
 obtain⟨d,e⟩:=d2g k;obtain⟨-,m⟩:=a6e L;have l:a26 (i:Int) 8=((i%8:Nat):Int):=by rfl
 have j:a54 (i:Int) 8=((i / 8:Nat):Int):=by rfl
 have b:wrap .i64 ((i / 8:Nat):Int)=((i / 8:Nat):Int):=a0C (by omega);have c:wrap .i64 (7-((i%8:Nat):Int))=7-((i%8:Nat):Int):=a0C (by omega);have g:decide (7-((i%8:Nat):Int)<0)=false:=by grind
 have hb:i / 8<(wL L).1.length:=by omega
 have f:(wL L).1[i / 8]=(wL L).1.getD (i / 8) 0:=by grind
 unfold a1F;simp only[l,j,b,c,g,a0D hb,oB,cF];obtain⟨x,a⟩:∃x:Nat,(wL L).1.getD (i / 8) 0=(x:Int):=a01 (d _).1;have h:x<256:=by grind
 rw[f,a,c9V h (a41 _ (by simp))]
 have:=e i
 unfold b3S at this;rw[a,tN]at this;rw[this];have hv:L.getD i 0=0∨L.getD i 0=1:=by
  have:L.getD i 0=L[i]:=by simp_all
  rw[this];exact k _ (a05 hi)
 grind
theorem c8y(hv:v<18446744073709551616)(hi:i≤64):a7j (v:Int) i=((v / 2^i%2:Nat):Int):=by
 unfold a7j;rw[a6R hi];have h:v / 2^i<18446744073709551616:=a38 (a32 _ _) hv;show wrap .u8 (wrap .u64 (((a04 64 ((v / 2^i:Nat):Int)) &&& (a04 64 1)).toNat:Int))=_
 grind[a04,a0M,a8C]
theorem a1B.app{A B:List Int}(h:a1B A)(g:a1B B):a1B (A++B):=fun b hb=>(mA.1 hb).elim (h b) (g b)
theorem orU(k:a<18446744073709551616)(hb:b<2)(f:a%2=0):bits .u64 .or (a:Int) (b:Int)=((a+b:Nat):Int):=by
 show wrap .u64 (((a04 64 (a:Int) ||| a04 64 (b:Int)).toNat:Nat):Int)=_;have g:(a04 64 (a:Int)).toNat=a:=by simp_all
 have h:(a04 64 (b:Int)).toNat=b:=by grind
 rw[a72,g,h];have e:a ||| b=a+b:=by
  have:=a59 (i:=1) (b:=b) (by omega) (a / 2)
  grind
 grind[a0M]
theorem c4N{v:Nat}(hv:v<9223372036854775808){n:Nat}(q:n≤62):∀(m:Nat)(P R:List Int),m≤n→a1B (P++(pb (v:Int) m++R))→(P++(pb (v:Int) m++R)).length<1000000000→
  y0s a4p (((v / 2^m:Nat):Int),(n:Int),((n-m:Nat):Int),rdr P (pb (v:Int) m++R),())=some ((v:Int),rdr (P++pb (v:Int) m) R,())
 |0,P,R,_,_,_=>by
  grind[a0F,a4p,pb]
 |m+1,P,R,hm,hok,hlen=>by
  have l:decide (((n-(m+1):Nat):Int)<(n:Int))=true:=by grind
  have a:a1F (rdr P (pb (v:Int) (m+1)++R),(P.length:Int))=some (a7j v m,rdr P (pb (v:Int) (m+1)++R)):=by
   have:=c2o hok hlen (i:=P.length) (by simp[pb]) ((P.length:Int),(0:Int),())
   rw[show(P++(pb (v:Int) (m+1)++R)).getD P.length 0=a7j v m from by simp_all[pb]]at this;exact this
  have g:=c8y (v:=v) (by omega) (i:=m) (by omega);have b:v / 2^m%2<2:=a41 _ (by simp);have f:v / 2^(m+1)=v / 2^m / 2:=by grind[a69]
  have p:v / 2^m≤v:=a32 _ _;have d:A0n .u64 ((v / 2^(m+1):Nat):Int) 1=((v / 2^(m+1)*2^1:Nat):Int):=b2U (o:=1) (by omega) (by omega);have h:bits .u64 .or ((v / 2^(m+1)*2^1:Nat):Int) (wrap .u64 (a7j (v:Int) m))=((v / 2^m:Nat):Int):=by
   rw[g,a0M (by omega),orU (by omega) b (by omega),f];omega
  have e:wrap .i64 (((n-(m+1):Nat):Int)+1)=((n-m:Nat):Int):=by grind[a0C]
  have j:wrap .i64 ((P.length:Int)+1)=(((P++[a7j v m]).length:Nat):Int):=by
   grind[a0C]
  have k:P++(pb (v:Int) (m+1)++R)=(P++[a7j v m])++(pb (v:Int) m++R):=by simp[pb]
  have c:((rdr P (pb (v:Int) (m+1)++R)).1,(((P++[a7j v m]).length:Nat):Int),(rdr P (pb (v:Int) (m+1)++R)).2.2)=rdr (P++[a7j v m]) (pb (v:Int) m++R):=by
   unfold rdr;simp_all
  rw[a0E (s':=(((v / 2^m:Nat):Int),(n:Int),((n-m:Nat):Int),rdr (P++[a7j v m]) (pb (v:Int) m++R),())) (by
   simp only[a4p,l,cT];rw[show(rdr P (pb (v:Int) (m+1)++R)).2.1=(P.length:Int)from rfl,a];simp only[oB,d,h,e];rw[show(rdr P (pb (v:Int) (m+1)++R)).2.1=(P.length:Int)from rfl,j,c])]
  rw[c4N hv q m _ _ (by omega) (by simp_all) (by simp_all)];simp[pb]
theorem c8z{n:Nat}(a:n≤62)(hv:v<2^n)(g:a1B (P++(pb (v:Int) n++R)))(k:(P++(pb (v:Int) n++R)).length<200000000):
  a0H (rdr P (pb (v:Int) n++R),(n:Int))=some ((v:Int),rdr (P++pb (v:Int) n) R):=by
 have h:v<9223372036854775808:=Nat.lt_of_lt_of_le hv (Nat.le_trans (a08 (by simp) a) (by simp));have f:=c4N h a n P R (by omega) g (by omega);rw[a67 hv,a56]at f;simp at f;obtain⟨-,e⟩:=a6e (P++(pb (v:Int) n++R));have j:=b5b (v:Int) n;have i:(P++(pb (v:Int) n++R)).length=P.length+n+R.length:=by grind
 have e8:wrap .i64 ((8:Int)*(((wL (P++(pb (v:Int) n++R))).1.length:Nat):Int))=(8:Int)*(((wL (P++(pb (v:Int) n++R))).1.length:Nat):Int):=a0C (by omega);have d:wrap .i64 ((8:Int)*(((wL (P++(pb (v:Int) n++R))).1.length:Nat):Int)-(P.length:Int))=(8:Int)*(((wL (P++(pb (v:Int) n++R))).1.length:Nat):Int)-(P.length:Int):=a0C (by omega);have b:decide ((n:Int)<0)=false:=by simp
 have c:decide ((n:Int) > 64)=false:=by grind
 have l:decide ((n:Int) > (8:Int)*(((wL (P++(pb (v:Int) n++R))).1.length:Nat):Int)-(P.length:Int))=false:=by
  grind
 unfold a0H a2M;rw[show(rdr P (pb (v:Int) n++R)).2.2.1=0 from rfl];simp only[bne_self_eq_false,cF,b,c,oB];rw[show(rdr P (pb (v:Int) n++R)).1=(wL (P++(pb (v:Int) n++R))).1 from rfl,show(rdr P (pb (v:Int) n++R)).2.1=(P.length:Int)from rfl,e8,d]
 grind
def b5M(n:Nat)(x:Int):Prop:=-((2^n:Nat):Int)≤2*x∧2*x<((2^n:Nat):Int)
theorem c2U{n:Nat}(f:n≤62)(x:Int):∃v:Nat,a0X x n=(v:Int)∧v<2^n∧(v:Int)=x%((2^n:Nat):Int):=by
 have k:wrap .u64 x=x%18446744073709551616:=by rfl
 obtain⟨y,h⟩:∃y:Nat,x%18446744073709551616=(y:Int):=a01 (Int.emod_nonneg _ (by simp));have g:y<18446744073709551616:=by omega
 refine⟨y%2^n,?_,a41 _ (a16 n),?_⟩;simp_all[a0X,c4p];rw[Int.natCast_emod,←h];refine Int.emod_emod_of_dvd x ?_
 have:(2:Nat)^n ∣ 2^64:=a55 2 (by omega)
 exact a20.2 this
theorem c8A{n:Nat}(q:n≤62)(t:b5M n x)(c:a1B (P++(pb (a0X x n) n++R)))(g:(P++(pb (a0X x n) n++R)).length<200000000):
  a1c (rdr P (pb (a0X x n) n++R),(n:Int))=some (x,rdr (P++pb (a0X x n) n) R):=by
 obtain⟨v,hv,b,f⟩:=c2U q x;rw[hv]at c g⊢;have a:=c8z q b c g;obtain⟨i,j⟩:=t;have A:=a16 n;have o:(v:Int)=x∧0≤x∨(v:Int)=x+((2^n:Nat):Int)∧x<0:=by
  by_cases h0:0≤x
  exact .inl ⟨by rw[f];exact a89 h0 (by omega),h0⟩;refine .inr ⟨?_,by omega⟩;rw[f,←Int.add_emod_right];exact a89 (by omega) (by omega)
 unfold a1c;simp[a];rw[show(rdr (P++pb (v:Int) n) R).2.2.1=0 from rfl]
 simp
 cases n with
 |zero=>
  grind
 |succ k=>
  have l:(((k+1:Nat):Int)==0)=false:=by rfl
  have s:wrap .i64 ((64:Int)-((k+1:Nat):Int))=((64-(k+1):Nat):Int):=by grind[a0C]
  have r:decide (((64-(k+1):Nat):Int)<0)=false:=by simp
  simp only[l,cF,s,r];have p:64-(k+1)+(k+1)=64:=by omega
  generalize 64-(k+1)=m at p⊢;have u:2^m*2^(k+1)=18446744073709551616:=by rw[←Nat.pow_add,p]
  have d:((2^m:Nat):Int)*((2^(k+1):Nat):Int)=18446744073709551616:=by omega
  have hp:=a16 m;have w:A0n .u64 (v:Int) (m:Int)=(v:Int)*((2^m:Nat):Int):=by
   show wrap .u64 ((v:Int)*2^(min (m:Int).toNat 64))=_;rw[tN,a71 (by omega)];have e:(2:Int)^m=((2^m:Nat):Int):=by simp
   rw[e];refine a0M ⟨a47 (by omega) (by omega),?_⟩
   have:v*2^m<2^(k+1)*2^m:=Nat.mul_lt_mul_of_pos_right b hp
   grind
  have y:-9223372036854775808≤x*((2^m:Nat):Int):=by
   have:=Int.mul_le_mul_of_nonneg_right i (show(0:Int)≤((2^m:Nat):Int)by omega)
   grind
  have z:x*((2^m:Nat):Int)<9223372036854775808:=by
   have:=Int.mul_lt_mul_of_pos_right j (show(0:Int)<((2^m:Nat):Int)by omega)
   grind
  have C:wrap .i64 ((v:Int)*((2^m:Nat):Int))=x*((2^m:Nat):Int):=by
   rcases o with⟨h,-⟩|⟨h,-⟩
   grind[a0C]
   rw[h,Int.add_mul,Int.mul_comm ((2^(k+1):Nat):Int),d]
   grind[wrap,IntKind.bits,IntKind.signed]
  have B:A0o .i64 (x*((2^m:Nat):Int)) (m:Int)=x:=by
   show a80 (x*((2^m:Nat):Int)) (2^(min (m:Int).toNat 64))=x;rw[tN,a71 (by omega)]
   grind[Int.mul_ediv_cancel]
  simp_all
theorem c7z(P:List Int)(n:Nat)(R:List Int){c:Nat}(h:c<n):(P++(a00 n 0++1::R)).getD (P.length+c) 0=0:=by
 grind
theorem c9W(P:List Int)(n:Nat)(R:List Int):(P++(a00 n 0++1::R)).getD (P.length+n) 0=1:=by
 simp
theorem c8B{n lm:Nat}(x:n≤lm)(t:lm<1000000)(o:a1B (P++(a00 n 0++1::R)))(p:(P++(a00 n 0++1::R)).length<200000000):
  a3n (rdr P (a00 n 0++1::R),(lm:Int))=some ((n:Int),rdr (P++(a00 n 0++[1])) R):=by
 obtain⟨-,r⟩:=a6e (P++(a00 n 0++1::R));have s:(P++(a00 n 0++1::R)).length=P.length+n+1+R.length:=by grind
 have e8:wrap .i64 ((8:Int)*(((wL (P++(a00 n 0++1::R))).1.length:Nat):Int))=(8:Int)*(((wL (P++(a00 n 0++1::R))).1.length:Nat):Int):=a0C (by omega);have g:∀c,c≤n→a1F (rdr P (a00 n 0++1::R),((P.length:Int)+(c:Int)))=some (if c=n then 1 else 0,rdr P (a00 n 0++1::R)):=fun c l=>by
  have:=c2o o (by omega) (i:=P.length+c) (by omega) ((P.length:Int),(0:Int),())
  rw[b01]at this;refine this.trans ?_
  by_cases e:c=n
  subst e;rw[c9W,if_pos rfl];rfl;rw[c7z P n R (by omega),if_neg e];rfl
 have h:∀c:Nat,c≤n→(((P.length:Int)+(c:Int))==(8:Int)*(((wL (P++(a00 n 0++1::R))).1.length:Nat):Int))=false:=fun c l=>by
  grind
 have j:wrap .i64 ((P.length:Int)+(n:Int)+1)=(((P++(a00 n 0++[1])).length:Nat):Int):=by
  rw[a0C (by omega)];grind
 have a:P++(a00 n 0++1::R)=(P++(a00 n 0++[1]))++R:=by simp
 have v:((rdr P (a00 n 0++1::R)).1,(((P++(a00 n 0++[1])).length:Nat):Int),(rdr P (a00 n 0++1::R)).2.2)=rdr (P++(a00 n 0++[1])) R:=by
  unfold rdr;simp
 have k:(rdr P (a00 n 0++1::R)).1=(wL (P++(a00 n 0++1::R))).1:=rfl;have m:=a1D (f:=a3x) (fun c:Nat=>((lm:Int),(c:Int),(P.length:Int)+(c:Int),rdr P (a00 n 0++1::R),())) n (b:=((n:Int),rdr (P++(a00 n 0++[1])) R,()))
  (fun c l=>by
   have d:((0:Int)==1)=false:=rfl;have q:(((c:Nat):Int)==(lm:Int))=false:=by grind
   have w:wrap .i64 ((c:Int)+1)=((c+1:Nat):Int):=a0B (by omega);have w2:wrap .i64 ((P.length:Int)+(c:Int)+1)=(P.length:Int)+((c+1:Nat):Int):=by rw[a0C (by omega)];rfl
   simp only[a3x,k,e8,h c (by omega),cF,g c (by omega),oB,if_neg (Nat.ne_of_lt l),d,q,w,w2])
  (by
   have d:((1:Int)==1)=true:=rfl;simp only[a3x,k,e8,h n (a27 _),cF,g n (a27 _),oB,if_pos rfl,d,cT,j]
   grind)
 unfold a3n;rw[show(rdr P (a00 n 0++1::R)).2.2.1=0 from rfl,show(rdr P (a00 n 0++1::R)).2.1=(P.length:Int)from rfl];have u:v0r (lm:Int) 0=(lm:Int):=by
  rfl
 grind
def OkR(P R:List Int):Prop:=a1B (P++R)∧(P++R).length<200000000
theorem OkR.shift{A:List Int}(h:OkR P (A++R)):OkR (P++A) R:=by
 unfold OkR at h⊢;simp_all
theorem a3N{n:Nat}(g:n≤62)(hv:v<2^n)(h:OkR P (pb (v:Int) n++R)):a0H (rdr P (pb (v:Int) n++R),(n:Int))=some ((v:Int),rdr (P++pb (v:Int) n) R):=c8z g hv h.1 h.2
theorem b0T{n:Nat}(f:n≤62)(g:b5M n x)(h:OkR P (pb (a0X x n) n++R)):a1c (rdr P (pb (a0X x n) n++R),(n:Int))=some (x,rdr (P++pb (a0X x n) n) R):=c8A f g h.1 h.2
def unB(n:Nat):List Int:=a00 n 0++[1]
theorem c4O{n lm:Nat}(f:n≤lm)(g:lm<1000000)(h:OkR P (unB n++R)):a3n (rdr P (unB n++R),(lm:Int))=some ((n:Int),rdr (P++unB n) R):=by
 have e:unB n++R=a00 n 0++1::R:=by simp[unB]
 rw[e]at h⊢;exact c8B f g h.1 h.2
theorem a5a{v n:Nat}(h:n≤63)(hv:v<2^n)(L:List Int):a0P (v:Int) n L=L++pb (v:Int) n:=by
 grind[a0P,a6R,a67]
def b0H(k:Nat)(x:Int):List Int:=
 if a0R x / 2^k<32 then unB (a0R x / 2^k)++pb ((a0R x%2^k:Nat):Int) k else unB 32++pb ((a0R x:Nat):Int) 32
theorem c8C{k:Nat}(f:k≤25)(g:a0A x=true)(L:List Int):a7k k x L=L++b0H k x:=by
 have h:=b0M g;unfold a7k b0H;split;rw[a5a (by omega) (a41 _ (a16 k))];simp[unL,unB]
 grind[a5a,unL,unB]
theorem c8D(f:a0A x=true):a7w ((a0R x:Nat):Int)=some x:=by
 have b:=b0M f;have d:=a1O.1 f;have c:a26 ((a0R x:Nat):Int) 2=((a0R x:Nat):Int)%2:=a43 (by omega);have a:a54 ((a0R x:Nat):Int) 2=((a0R x:Nat):Int) / 2:=a61 (by omega);have k:decide (((a0R x:Nat):Int)≥2147483648)=false:=by grind
 unfold a7w;simp only[k,cF,c,a]
 by_cases h0:0≤x
 have e:((a0R x:Nat):Int)=2*x:=by unfold a0R;grind
 rw[e];have h:((2*x)%2==(0:Int))=true:=by simp
 have g:2*x / 2=x:=by omega
 simp only[h,cT,g]
 grind[a0M,a0C]
 have e:((a0R x:Nat):Int)=-2*x-1:=by unfold a0R;grind
 rw[e];have h:((-2*x-1)%2==(0:Int))=false:=by grind
 have g:(-2*x-1) / 2=-x-1:=by omega
 simp only[h,cF,g]
 grind[a0M,a0C]
theorem c5Q{k:Nat}(r:k≤25)(c:a0A x=true)(h:OkR P (b0H k x++R)):b3A (rdr P (b0H k x++R),(k:Int))=some (x,(0:Int),rdr (P++b0H k x) R):=by
 have m:=b0M c;have b:=c8D c;unfold b3A a0O;unfold b0H at h⊢;have s:∀A B:List Int,(rdr A B).2.2.1=0:=fun _ _=>rfl;split;rename_i g;rw[if_pos g,aA]at h;have j:=c4O (n:=a0R x / 2^k) (lm:=32) (by omega) (by omega) h;have l:=a3N (n:=k) (v:=a0R x%2^k) (by omega) (a41 _ (a16 k)) h.shift;have i:wrap .u64 ((a0R x / 2^k:Nat):Int)=((a0R x / 2^k:Nat):Int):=a3M (by omega);have d:decide (((a0R x / 2^k:Nat):Int)<32)=true:=by grind
 have e:decide ((k:Int)<0)=false:=by simp
 have f:a0R x / 2^k*2^k≤a0R x:=a78 _ _;have o:A0n .u64 ((a0R x / 2^k:Nat):Int) (k:Int)=((a0R x / 2^k*2^k:Nat):Int):=b2U (by omega) (by omega);have a:wrap .u64 (((a0R x / 2^k*2^k:Nat):Int)+((a0R x%2^k:Nat):Int))=((a0R x:Nat):Int):=by
  rw[←b01,Nat.div_add_mod',a0M (by omega)]
 grind
 rename_i g;rw[if_neg g,aA]at h;have j:=c4O (n:=32) (lm:=32) (by omega) (by omega) h;have l:=a3N (n:=32) (v:=a0R x) (by omega) (by omega) h.shift;have i:wrap .u64 (32:Int)=32:=a0M (by omega);have d:decide ((32:Int)<32)=false:=by simp
 have e:decide ((k:Int)<0)=false:=by simp
 have q:decide (((a0R x:Nat):Int)≥2147483648)=false:=by grind
 have p:A0o .u64 ((a0R x:Nat):Int) (k:Int)=((a0R x / 2^k:Nat):Int):=a6R (by omega)
 grind
def a3O(k:Nat)(l:List Int):List Int:=l.flatMap (b0H k)
theorem c1p{k:Nat}(g:k≤25):∀(l L:List Int),l.all a0A=true→a4Y k l L=L++a3O k l
 | [],L,_=>by simp[a4Y,a3O]
 |x::l,L,h=>by
  simp only[a07,bA]at h;show a4Y k l (a7k k x L)=_;rw[c1p g l _ h.2,c8C g h.1];simp[a3O]
theorem b7F{k:Nat}(g:k≤25){N:Nat}(f:N<1000000):∀(l done P R:List Int),l.all a0A=true→done.length+l.length=N→OkR P (a3O k l++R)→
  y0s a9Y ((k:Int),(N:Int),(done.length:Int),done,rdr P (a3O k l++R),())=some (Sum.inl (done++l,rdr (P++a3O k l) R,()))
 | [],done,P,R,_,hl,_=>by
  have:done.length=N:=by omega
  subst this;have d:decide ((done.length:Int)<(done.length:Int))=false:=by simp
  simp_all[a0F,a9Y,a3O]
 |x::l,done,P,R,h,hl,hok=>by
  simp only[a07,bA]at h;rw[lC]at hl;have e:a3O k (x::l)++R=b0H k x++(a3O k l++R):=by simp[a3O]
  rw[e]at hok⊢;have d:decide ((done.length:Int)<(N:Int))=true:=by grind
  have b:=c5Q g h.1 hok;have a:lim (a37 done+1)=true:=a0T (by omega);have c:wrap .i64 ((done.length:Int)+1)=(((done++[x]).length:Nat):Int):=by grind[a0C]
  rw[a0E (s':=((k:Int),(N:Int),(((done++[x]).length:Nat):Int),done++[x],rdr (P++b0H k x) (a3O k l++R),())) (by
   simp_all[a9Y])]
  rw[b7F g f l (done++[x]) (P++b0H k x) R h.2 (by grind) hok.shift];simp[a3O]
theorem c5R{k:Nat}(a:k≤25)(h:l.all a0A=true)(b:l.length<1000000)(f:OkR P (a3O k l++R)):
  b3B (rdr P (a3O k l++R),(k:Int),((l.length:Nat):Int))=some (l,(0:Int),rdr (P++a3O k l) R):=by
 have hp:a1X (k:Int)=some true:=by
  grind[a1X]
 have c:decide (((l.length:Nat):Int)<0)=false:=by simp
 have d:decide (((l.length:Nat):Int) > 4194304)=false:=by grind
 have e:∀A B:List Int,(rdr A B).2.2.1=0:=fun _ _=>rfl;have g:=b7F a b l [] P R h (by simp) f;simp at g;unfold b3B a0O
 grind
theorem c9X(h:inW x v=true):b5M v x:=by
 have hp:=a16 v;rcases b8A.1 h with rfl|⟨g,-,f,k⟩;exact⟨by omega,by omega⟩;have e:2^v=2^(v-1)*2:=by rw[←a68];simp_all
 unfold b5M;omega
theorem b6P(h:l.all a0A=true):∀x∈l,b5M (a0J l) x:=fun x g=>c9X (c4L h x g)
def sB(n:Nat)(l:List Int):List Int:=l.flatMap fun x=>pb (a0X x n) n
theorem b0U{n:Nat}(g:n≤62):∀(l L:List Int),a1J n l L=L++sB n l
 | [],L=>by simp[a1J,sB]
 |x::l,L=>by
  show a1J n l (a0P (a0X x n) n L)=_;obtain⟨v,hv,h,-⟩:=c2U g x;rw[b0U g l,hv,a5a (by omega) h,←hv];simp[sB]
theorem c2p(n:Nat)(x:Int)(l R:List Int):sB n (x::l)++R=pb (a0X x n) n++(sB n l++R):=by simp[sB]
theorem b6k{k:Int}{n:Nat}(g:n≤62){N:Nat}(f:N<1000000):∀(l done P R:List Int),(∀x∈l,b5M n x)→done.length+l.length=N→OkR P (sB n l++R)→
  y0s a8U (k,(n:Int),(N:Int),(done.length:Int),done,rdr P (sB n l++R),())=some (k,(n:Int),done++l,rdr (P++sB n l) R,())
 | [],done,P,R,_,hl,_=>by
  have:done.length=N:=by omega
  subst this;have d:decide ((done.length:Int)<(done.length:Int))=false:=by simp
  simp_all[a0F,a8U,sB]
 |x::l,done,P,R,h,hl,hok=>by
  rw[lC]at hl;rw[c2p]at hok⊢;have d:decide ((done.length:Int)<(N:Int))=true:=by grind
  have b:=b0T g (h x (by simp)) hok;have a:lim (a37 done+1)=true:=a0T (by omega);have c:wrap .i64 ((done.length:Int)+1)=(((done++[x]).length:Nat):Int):=by grind[a0C]
  rw[a0E (s':=(k,(n:Int),(N:Int),(((done++[x]).length:Nat):Int),done++[x],rdr (P++pb (a0X x n) n) (sB n l++R),())) (by
   simp_all[a8U])]
  rw[b6k g f l (done++[x]) _ R (fun y e=>h y (by grind)) (by grind) hok.shift];simp[sB]
def b1C(k:Int)(part:List Int):List Int:=if k=31 then pb 31 5++(pb ((a0J part:Nat):Int) 5++sB (a0J part) part)else pb k 5++a3O k.toNat part
theorem c8E(h:kB k=true)(g:part.all a0A=true)(L:List Int):b0F k part L=L++b1C k part:=by
 have f:=a2c g;simp[kB]at h;obtain⟨K,rfl⟩:=a01 (show 0≤k by omega)
 grind[b0F,b1C,a3M,a5a,b0U,c1p]
theorem c4P(o:kB k=true)(c:part.all a0A=true)(b:part.length<1000000)(h:OkR P (b1C k part++R)):
  b2p (rdr P (b1C k part++R),((part.length:Nat):Int))=some (k,part,(0:Int),rdr (P++b1C k part) R):=by
 have p:=a2c c;have e:∀A B:List Int,(rdr A B).2.2.1=0:=fun _ _=>rfl;simp[kB]at o;obtain⟨K,rfl⟩:=a01 (show 0≤k by omega);unfold b2p a0O;unfold b1C at h⊢;split;rename_i f;rw[if_pos f,aA,aA]at h;rw[aA,aA];obtain rfl:K=31:=by omega
 have d:a0H (rdr P (pb 31 5++(pb ((a0J part:Nat):Int) 5++(sB (a0J part) part++R))),(5:Int))=_:=a3N (v:=31) (n:=5) (by omega) (by omega) h;have g:=h.shift;have l:a0H (rdr (P++pb 31 5) (pb ((a0J part:Nat):Int) 5++(sB (a0J part) part++R)),(5:Int))=_:=a3N (v:=a0J part) (n:=5) (by omega) (by omega) g;have a:=b6k (k:=31) (n:=a0J part) (by omega) b part [] _ R (b6P c) (by simp) g.shift;simp only[a22,nZ,a09,a30]at a;have i:wrap .i64 ((31:Nat):Int)=31:=by rfl
 have w2:wrap .i64 ((a0J part:Nat):Int)=((a0J part:Nat):Int):=a0C (by omega);have j:decide ((31:Int)≤25)=false:=by rfl
 have q:((31:Int) != 31)=false:=by rfl
 rw[d];simp only[oB,e,bne_self_eq_false,cF,i,j]
 erw[l]
 simp only[oB,w2]
 erw[a]
 simp only[oB,e,bne_self_eq_false,cF,a2w (show short part from b)]
 simp
 rename_i f;rw[if_neg f,aA]at h;rw[aA];have m:K≤25:=by omega
 have d:a0H (rdr P (pb (K:Int) 5++(a3O ((K:Int).toNat) part++R)),(5:Int))=_:=a3N (v:=K) (n:=5) (by omega) (by omega) h;have r:=c5R m c b h.shift;have i:wrap .i64 (K:Int)=(K:Int):=a0C (by omega);simp_all
def a1U:List Nat→List Int→List Int→List Int
 |z::zs,k::ks,l=>b1C k (l.take z)++a1U zs ks (l.drop z)
 |_,_,_=>[]
theorem c2V(h:l.all a0A=true)(z:Nat):(l.take z).all a0A=true:=lA.2 fun x g=>lA.1 h x (a34 g)
theorem c2W(h:l.all a0A=true)(z:Nat):(l.drop z).all a0A=true:=lA.2 fun x g=>lA.1 h x (a35 g)
theorem c1q:∀(zs:List Nat)(ks l L:List Int),ks.all kB=true→l.all a0A=true→a4Z zs ks l L=L++a1U zs ks l
 |z::zs,k::ks,l,L,hk,hw=>by
  simp only[a07,bA]at hk;simp only[a4Z,a1U];rw[c1q zs ks _ _ hk.2 (c2W hw z),c8E hk.1 (c2V hw z)]
  simp
 | [],_,_,L,_,_=>by simp[a4Z,a1U]
 |_::_,[],_,L,_,_=>by simp[a4Z,a1U]
theorem c8F(h:List Nat)(z:Nat)(g:List Nat):(a1s (h++z::g)).getD h.length 0=(z:Int):=by
 simp_all[a1s]
theorem b6l{o:Int}{z0:Prt}:∀(zs:List Nat)(ks l dk acc P R:List Int)(dz:List Nat),ks.length=zs.length→ks.all kB=true→zs.sum=l.length→l.all a0A=true→
  dk.length=dz.length→(dz++zs).length≤256→acc.length+l.length≤10000→OkR P (a1U zs ks l++R)→
  y0s a8V (((a1s (dz++zs)).length:Int),(dz.length:Int),acc,a1s (dz++zs),rdr P (a1U zs ks l++R),z0,(o,dk,()),()) =
   some (Sum.inl (acc++l,z0,(o,dk++ks,()),rdr (P++a1U zs ks l) R,()))
 | [],ks,l,dk,acc,P,R,dz,hk,_,hs,_,_,_,_,_=>by
  obtain rfl:ks=[]:=a45.1 hk;obtain rfl:l=[]:=a45.1 (by simp_all);have d:decide ((dz.length:Int)<((a1s (dz++[])).length:Int))=false:=by simp[a1A]
  rw[a0F (b:=Sum.inl (acc,z0,(o,dk,()),rdr P R,())) (by simp only[a8V,d,cF];rfl)];simp[a1U]
 |z::zs,[],_,_,_,_,_,_,hk,_,_,_,_,_,_,_=>by simp_all
 |z::zs,k::ks,l,dk,acc,P,R,dz,hk,hkb,hs,hw,hd,h256,hacc,hok=>by
  simp only[a07,bA]at hkb;rw[a62]at hs;have p:z≤l.length:=by omega
  have a:(l.take z).length=z:=by simp_all
  have e:a1U (z::zs) (k::ks) l++R=b1C k (l.take z)++(a1U zs ks (l.drop z)++R):=by simp[a1U]
  rw[e]at hok⊢;have j:(a1s (dz++z::zs)).length=dz.length+1+zs.length:=by grind[a1A]
  have d:decide ((dz.length:Int)<((a1s (dz++z::zs)).length:Int))=true:=by grind
  have m:decide ((0:Int)≤(dz.length:Int))=true:=by simp
  have h:=c4P hkb.1 (c2V hw z) (by omega) hok;rw[a]at h;have i:((0:Int) != 0)=false:=rfl;rw[lN,lC]at h256;have g:lim (a37 dk+1)=true:=a0T (by omega);have f:lim (a37 acc+a37 (l.take z))=true:=a0T (by omega);have c:wrap .i64 ((dz.length:Int)+1)=(((dz++[z]).length:Nat):Int):=by grind[a0C]
  have n:dz++z::zs=(dz++[z])++zs:=by simp
  rw[a0E (s':=(((a1s ((dz++[z])++zs)).length:Int),(((dz++[z]).length:Nat):Int),acc++l.take z,a1s ((dz++[z])++zs),rdr (P++b1C k (l.take z)) (a1U zs ks (l.drop z)++R),z0,(o,dk++[k],()),())) (by
   simp only[a8V,d,m,a03,cT,tN,c8F,h,oB,i,cF,g,f,c,a06]
   simp)]
  rw[b6l zs ks (l.drop z) (dk++[k]) (acc++l.take z) _ R (dz++[z]) (by grind) hkb.2 (by grind) (c2W hw z) (by grind) (by grind) (by grind) hok.shift];simp[a1U]
def a6S(p:Prt)(zn:List Nat)(l:List Int):List Int:=pb p.1 4++a1U zn p.2.1 l
theorem c3G(h:PartsOk p n warm l zn)(L:List Int):a4B p zn l L=L++a6S p zn l:=by
 obtain⟨o,ks,u⟩:=p;have g:=h.order;simp only at g;obtain⟨O,rfl⟩:=a01 g.1;unfold a4B a6S;simp only;rw[a3M (by omega),a5a (n:=4) (by omega) (by omega),c1q _ _ _ _ h.all h.wide]
 simp
theorem c4Q(h:PartsOk p n warm l zn)(g:OkR P (a6S p zn l++R)):
  b2q (rdr P (a6S p zn l++R),n,warm)=some (p,l,(0:Int),rdr (P++a6S p zn l) R):=by
 obtain⟨o,ks,u⟩:=p;have c:=h.order;have m:=h.short;have b:=h.len;simp only at c;obtain⟨O,rfl⟩:=a01 c.1;have i:∀A B:List Int,(rdr A B).2.2.1=0:=fun _ _=>rfl;have f:=h.may;unfold a5S at f;simp only[bA,a33,beq_eq_false_iff_ne]at f;have d:=h.sizes;simp only at d;have a:(((a1s zn).length:Int)==0)=false:=by
  grind
 unfold a6S at g⊢;simp only at g⊢;rw[aA]at g⊢;have e:a0H (rdr P (pb (O:Int) 4++(a1U zn ks l++R)),(4:Int))=_:=a3N (v:=O) (n:=4) (by omega) (by omega) g;have j:wrap .i64 (O:Int)=(O:Int):=a0C (by omega);have k:=b6l (o:=(O:Int)) (z0:=((0:Int),([]:List Int),())) zn ks l [] [] _ R [] h.ks h.all h.sum h.wide rfl (by simp_all) (by grind) g.shift;simp only[a22,nZ,a09,a30]at k;unfold b2q a0O;simp[b4w,h.row];rw[e];simp[i,j,a2i,d,a];simp_all
def a7I(s:Sub):List Int:=
 pb ((s.2.2.2.2.2.1.length-1:Nat):Int) 5++(pb s.2.2.2.1 4++(pb ((a0J s.2.2.2.2.2.1:Nat):Int) 5++sB (a0J s.2.2.2.2.2.1) s.2.2.2.2.2.1))
theorem c2X{t:Int}(h:b0L c t=true):1≤c.length∧c.length≤32∧0≤t∧t≤15∧c.all a0A=true:=by
 simp only[b0L,bA,dT]at h;obtain⟨g,f,k,a,b⟩:=h;refine⟨g,f,k,a,lA.2 fun x d=>?_⟩
 have:=lA.1 b x d
 simp[c0Q]at this;rw[a1O];omega
theorem c1r{s:Sub}(h:b0L s.2.2.2.2.2.1 s.2.2.2.1=true)(L:List Int):a6N s L=L++a7I s:=by
 obtain⟨a,b,g,d,f⟩:=c2X h;have k:=a2c f;unfold a6N a7I;generalize s.2.2.2.2.2.1=c at *;generalize s.2.2.2.1=t at *;obtain⟨T,rfl⟩:=a01 g
 grind[a0C,a0M,b0U,a5a]
def b6Q(s:Sub)(c:List Int):Sub:=(s.1,s.2.1,s.2.2.1,s.2.2.2.1,s.2.2.2.2.1,c,s.2.2.2.2.2.2)
def c2q(s:Sub)(t:Int):Sub:=(s.1,s.2.1,s.2.2.1,t,s.2.2.2.2)
theorem c1s{n:Nat}(g:n≤62){N:Nat}(f:N<1000000)(s:Sub):∀(l done P R:List Int),(∀x∈l,b5M n x)→done.length+l.length=N→OkR P (sB n l++R)→
  y0s a6l ((n:Int),(N:Int),(done.length:Int),rdr P (sB n l++R),b6Q s done,())=some ((n:Int),b6Q s (done++l),rdr (P++sB n l) R,())
 | [],done,P,R,_,hl,_=>by
  have:done.length=N:=by omega
  subst this;have d:decide ((done.length:Int)<(done.length:Int))=false:=by simp
  simp_all[a0F,a6l,sB]
 |x::l,done,P,R,h,hl,hok=>by
  rw[lC]at hl;rw[c2p]at hok⊢;have d:decide ((done.length:Int)<(N:Int))=true:=by grind
  have a:=b0T g (h x (by simp)) hok;have k:lim (a37 done+1)=true:=a0T (by omega);have b:wrap .i64 ((done.length:Int)+1)=(((done++[x]).length:Nat):Int):=by grind[a0C]
  rw[a0E (s':=((n:Int),(N:Int),(((done++[x]).length:Nat):Int),rdr (P++pb (a0X x n) n) (sB n l++R),b6Q s (done++[x]),())) (by
   simp_all[a6l,b6Q])]
  rw[c1s g f s l (done++[x]) _ R (fun y c=>h y (by grind)) (by grind) hok.shift];simp[sB]
theorem b9k{s0:Sub}(h:b0L s.2.2.2.2.2.1 s.2.2.2.1=true)(r:s0.2.2.2.2.2.1=[])(g:OkR P (a7I s++R)):
  a8T (rdr P (a7I s++R),s0)=some (true,rdr (P++a7I s) R,b6Q (c2q s0 s.2.2.2.1) s.2.2.2.2.2.1):=by
 obtain⟨u,w,l,x,d⟩:=c2X h;have m:=a2c d;unfold a7I at g⊢;generalize s.2.2.2.2.2.1=c at *;generalize s.2.2.2.1=t at *;obtain⟨T,rfl⟩:=a01 l;simp at g⊢;have e:a0H (rdr P (pb ((c.length-1:Nat):Int) 5++(pb (T:Int) 4++(pb ((a0J c:Nat):Int) 5++(sB (a0J c) c++R)))),(5:Int))=_:=a3N (v:=c.length-1) (n:=5) (by omega) (by omega) g;have f:=g.shift;have i:a0H (rdr (P++pb ((c.length-1:Nat):Int) 5) (pb (T:Int) 4++(pb ((a0J c:Nat):Int) 5++(sB (a0J c) c++R))),(4:Int))=_:=a3N (v:=T) (n:=4) (by omega) (by omega) f;have k:=f.shift;have j:a0H (rdr (P++pb ((c.length-1:Nat):Int) 5++pb (T:Int) 4) (pb ((a0J c:Nat):Int) 5++(sB (a0J c) c++R)),(5:Int))=_:=a3N (v:=a0J c) (n:=5) (by omega) (by omega) k;have a:=c1s (n:=a0J c) (by omega) (N:=c.length) (by omega) (c2q s0 (T:Int)) c [] _ R (b6P d) (by simp) k.shift;simp only[a22,nZ,a09,a30]at a;have o:wrap .i64 ((c.length-1:Nat):Int)=((c.length-1:Nat):Int):=a0C (by omega);have w2:wrap .i64 (((c.length-1:Nat):Int)+1)=(c.length:Int):=by grind[a0C]
 have p:wrap .i64 (T:Int)=(T:Int):=a0C (by omega);have q:wrap .i64 ((a0J c:Nat):Int)=((a0J c:Nat):Int):=a0C (by omega);have b:((s0.1,s0.2.1,s0.2.2.1,(T:Int),s0.2.2.2.2):Sub)=b6Q (c2q s0 (T:Int)) []:=by
  grind[b6Q,c2q]
 unfold a8T;rw[e]
 simp
 rw[i];simp only[oB];rw[j];simp only[oB,o,w2,p,q]
 erw[b,a]
 simp only[oB];rw[show(b6Q (c2q s0 (T:Int)) c).2.2.2.2.2.1=c from rfl,a2w (show short c by unfold short;omega)]
 simp
def a8J(st:List Stg):List Int:=st.flatMap fun g=>pb (g.1-1) 5++pb g.2.1 4
theorem b9l{g:Stg}(h:Ab.stageB g=true):1≤g.1∧g.1≤32∧0≤g.2.1∧g.2.1≤8:=by
 simp_all[Ab.stageB]
theorem b9m:∀(st:List Stg)(L:List Int),st.all Ab.stageB=true→a3t st L=L++a8J st
 | [],L,_=>by simp[a3t,a8J]
 |g::st,L,h=>by
  simp only[a07,bA]at h;obtain⟨k,c,f,d⟩:=b9l h.1;show a3t st (a6M g L)=_;rw[b9m st _ h.2];obtain⟨a,b,u⟩:=g;simp only at k c f d;obtain⟨B,rfl⟩:=a01 f;obtain⟨A,e⟩:=a01 (show 0≤a-1 by omega)
  grind[a6M,b4B,a3M,a5a,a8J]
def a5n(s:Sub):List Int:=
 if s.1=2 then pb s.2.2.1 3
 else if s.1=3 then a7I s
 else if s.1=4 then pb (s.2.2.2.2.1-1) 10++(sB 8 s.2.2.2.2.2.2.1++a7I s)
 else if s.1=5 then pb ((s.2.2.2.2.2.2.2.1.length:Nat):Int) 2++a8J s.2.2.2.2.2.2.2.1
 else[]
theorem c2Y(h:a4g s.1 s n)(L:List Int):a2G s L=L++a5n s:=by
 unfold a2G a5n;rcases h with k|k|⟨k,g,f,-⟩|⟨k,g,-⟩|⟨k,g,-,a⟩|⟨k,g,f⟩
 grind
 grind
 rw[if_pos k,if_pos k]
 grind[a01,a3M,a5a]
 simp_all[c1r];rw[if_neg (by omega),if_neg (by omega),if_pos k,if_neg (by omega),if_neg (by omega),if_pos k,c1r g,b0U (by omega)];simp only[b2C,bA,dT]at a;obtain⟨A,b⟩:=a01 (show 0≤s.2.2.2.2.1-1 by omega)
 grind[b4B,a3M,a5a]
 rw[if_neg (by omega),if_neg (by omega),if_neg (by omega),if_pos k,if_neg (by omega),if_neg (by omega),if_neg (by omega),if_pos k];simp only[a9Q,bA,dT]at f
 grind[b9m,a3M,a5a]
def b5i(s:Sub):List Int:=pb s.1 3++(pb s.2.1 5++pb ((a0J s.2.2.2.2.2.2.2.2.1:Nat):Int) 5)
theorem c8G(g:0≤s.1∧s.1≤5)(f:0≤s.2.1∧s.2.1≤30)(h:s.2.2.2.2.2.2.2.2.1.all a0A=true)(L:List Int):b2E s L=L++b5i s:=by
 grind[a01,a2c,b2E,b5i,a3M,a5a]
def a4h(s:Sub):Sub:=(s.1,s.2.1,s.2.2.1,s.2.2.2.1,s.2.2.2.2.1,s.2.2.2.2.2.1,s.2.2.2.2.2.2.1,s.2.2.2.2.2.2.2.1,[],(0,[],()),[],())
theorem b9n{wd N:Nat}{ok:Bool}(m:N<1000)(k w:Int):∀(st done:List Stg)(P R:List Int),st.all Ab.stageB=true→done.length+st.length=N→OkR P (a8J st++R)→
  y0s a6Y ((wd:Int),ok,(N:Int),(done.length:Int),rdr P (a8J st++R),(k,w,0,0,0,[],[0,0,0],done,[],(0,[],()),[],()),()) =
   some ((wd:Int),ok,(k,w,0,0,0,[],[0,0,0],done++st,[],(0,[],()),[],()),rdr (P++a8J st) R,())
 | [],done,P,R,_,hl,_=>by
  have:done.length=N:=by omega
  subst this;have d:decide ((done.length:Int)<(done.length:Int))=false:=by simp
  simp_all[a0F,a6Y,a8J]
 |g::st,done,P,R,h,hl,hok=>by
  simp only[a07,bA]at h;rw[lC]at hl;obtain⟨i,j,c,l⟩:=b9l h.1;obtain⟨a,b,u⟩:=g;simp only at i j c l;obtain⟨B,rfl⟩:=a01 c;obtain⟨A,r⟩:=a01 (show 0≤a-1 by omega);obtain rfl:a=(A:Int)+1:=by omega
  have e:a8J (((A:Int)+1,(B:Int),u)::st)++R=pb (A:Int) 5++(pb (B:Int) 4++(a8J st++R)):=by simp[a8J]
  rw[e]at hok⊢;have d:decide ((done.length:Int)<(N:Int))=true:=by grind
  have p:a0H (rdr P (pb (A:Int) 5++(pb (B:Int) 4++(a8J st++R))),(5:Int))=_:=a3N (v:=A) (n:=5) (by omega) (by omega) hok;have f:=hok.shift;have q:a0H (rdr (P++pb (A:Int) 5) (pb (B:Int) 4++(a8J st++R)),(4:Int))=_:=a3N (v:=B) (n:=4) (by omega) (by omega) f;have o:lim (a37 done+1)=true:=a0T (by omega);have t:wrap .i64 (A:Int)=(A:Int):=a0C (by omega);have w2:wrap .i64 (B:Int)=(B:Int):=a0C (by omega);have x:wrap .i64 ((A:Int)+1)=(A:Int)+1:=a0C (by omega);have s:wrap .u64 ((done.length:Int)+1)=(((done++[((A:Int)+1,(B:Int),u)]).length:Nat):Int):=by grind[a0M]
  rw[a0E (s':=((wd:Int),ok,(N:Int),(((done++[((A:Int)+1,(B:Int),u)]).length:Nat):Int),rdr (P++pb (A:Int) 5++pb (B:Int) 4) (a8J st++R),(k,w,0,0,0,[],[0,0,0],done++[((A:Int)+1,(B:Int),u)],[],(0,[],()),[],()),())) (by
    simp_all[a6Y])]
  rw[b9n m k w st (done++[((A:Int)+1,(B:Int),u)]) _ R h.2 (by grind) f.shift];simp[a8J]
theorem c2r(h:b6u x=true):b5M 8 x:=by
 simp[b6u]at h;unfold b5M;omega
theorem c8H{wd:Nat}{w g:Int}{a b c:Int}(m:b6u a=true)(hb:b6u b=true)(o:b6u c=true)(f:OkR P (sB 8 [a,b,c]++R)):
  y0s a3s ((wd:Int),(0:Int),rdr P (sB 8 [a,b,c]++R),(k,w,0,0,g,[],[0,0,0],[],[],(0,[],()),[],()),()) =
   some ((wd:Int),rdr (P++sB 8 [a,b,c]) R,(k,w,0,0,g,[],[a,b,c],[],[],(0,[],()),[],()),()):=by
 have e:sB 8 [a,b,c]++R=pb (a0X a 8) 8++(pb (a0X b 8) 8++(pb (a0X c 8) 8++R)):=by rfl
 rw[e]at f⊢;have t:a1c (rdr P (pb (a0X a 8) 8++(pb (a0X b 8) 8++(pb (a0X c 8) 8++R))),(8:Int))=_:=b0T (n:=8) (by omega) (c2r m) f;have h:=f.shift;have u:a1c (rdr (P++pb (a0X a 8) 8) (pb (a0X b 8) 8++(pb (a0X c 8) 8++R)),(8:Int))=_:=b0T (n:=8) (by omega) (c2r hb) h;have d:=h.shift;have v:a1c (rdr (P++pb (a0X a 8) 8++pb (a0X b 8) 8) (pb (a0X c 8) 8++R),(8:Int))=_:=b0T (n:=8) (by omega) (c2r o) d;have x:wrap .i64 ((0:Int)+1)=1:=by rfl
 have y:wrap .i64 ((1:Int)+1)=2:=by rfl
 have w2:wrap .i64 ((2:Int)+1)=3:=by rfl
 have p:decide ((0:Int)<3)=true:=by rfl
 have i:decide ((0:Int)≤0)=true:=by rfl
 have q:decide ((1:Int)<3)=true:=by rfl
 have j:decide ((0:Int)≤1)=true:=by rfl
 have r:decide ((2:Int)<3)=true:=by rfl
 have l:decide ((0:Int)≤2)=true:=by rfl
 have s:decide ((3:Int)<3)=false:=by rfl
 rw[a0E (s':=((wd:Int),(1:Int),rdr (P++pb (a0X a 8) 8) (pb (a0X b 8) 8++(pb (a0X c 8) 8++R)),(k,w,0,0,g,[],[a,0,0],[],[],(0,[],()),[],()),())) (by
  simp_all[a3s])]
 rw[a0E (s':=((wd:Int),(2:Int),rdr (P++pb (a0X a 8) 8++pb (a0X b 8) 8) (pb (a0X c 8) 8++R),(k,w,0,0,g,[],[a,b,0],[],[],(0,[],()),[],()),())) (by
  simp_all[a3s])]
 rw[a0E (s':=((wd:Int),(3:Int),rdr (P++pb (a0X a 8) 8++pb (a0X b 8) 8++pb (a0X c 8) 8) R,(k,w,0,0,g,[],[a,b,c],[],[],(0,[],()),[],()),())) (by
  simp_all[a3s])]
 simp_all[a0F,a3s,sB]
theorem c7A{s:Sub}{n:Int}(hs:a1x s n)(ht:s.2.2.2.2.2.2.1.length=3){P R:List Int}(i:OkR P (b5i s++(a5n s++R))):
  a9X (rdr P (b5i s++(a5n s++R)))=some (a4h s,((a0J s.2.2.2.2.2.2.2.2.1:Nat):Int),true,rdr (P++(b5i s++a5n s)) R):=by
 obtain⟨-,-,hf,ha,I,L,-,-,M,-⟩:=hs;obtain⟨k,w,o,sh,g,c,t,st,a,b,d,u⟩:=s;have hk:=b6N hf;simp only at hk I L M ht;have h0:=a2c M;obtain⟨K,rfl⟩:=a01 hk.1;obtain⟨W,rfl⟩:=a01 I;unfold b5i at i⊢;simp at i⊢;have Y:a0H (rdr P (pb (K:Int) 3++(pb (W:Int) 5++(pb ((a0J a:Nat):Int) 5++(a5n ((K:Int),(W:Int),o,sh,g,c,t,st,a,b,d,u)++R)))),(3:Int))=_:=a3N (v:=K) (n:=3) (by omega) (by omega) i;have j:=i.shift;have Z:a0H (rdr (P++pb (K:Int) 3) (pb (W:Int) 5++(pb ((a0J a:Nat):Int) 5++(a5n ((K:Int),(W:Int),o,sh,g,c,t,st,a,b,d,u)++R))),(5:Int))=_:=a3N (v:=W) (n:=5) (by omega) (by omega) j;have l:=j.shift;have g3:a0H (rdr (P++pb (K:Int) 3++pb (W:Int) 5) (pb ((a0J a:Nat):Int) 5++(a5n ((K:Int),(W:Int),o,sh,g,c,t,st,a,b,d,u)++R)),(5:Int))=_:=a3N (v:=a0J a) (n:=5) (by omega) (by omega) l;have f:=l.shift;have wK:wrap .i64 (K:Int)=(K:Int):=a0C (by omega);have wW:wrap .i64 (W:Int)=(W:Int):=a0C (by omega);have wd:wrap .i64 ((a0J a:Nat):Int)=((a0J a:Nat):Int):=a0C (by omega);unfold a9X;rw[Y];simp only[oB];rw[Z];simp only[oB];rw[g3];simp only[oB,wK,wW,wd];generalize hX:P++pb (K:Int) 3++pb (W:Int) 5++pb ((a0J a:Nat):Int) 5=X at f⊢;have H:∀B:List Int,P++(pb (K:Int) 3++(pb (W:Int) 5++(pb ((a0J a:Nat):Int) 5++B)))=X++B:=fun B=>by grind
 rw[H];obtain⟨a1,D,q,r,E,C⟩:=ha;simp only at a1 D q r E C;clear Y Z g3 i j l hX H;rcases hf with h|h|⟨h,m,G,-⟩|⟨h,m,-⟩|⟨h,m,-,Q⟩|⟨h,m,G⟩
 
 simp only at h;obtain rfl:=a1 (by omega);obtain rfl:=D (by omega);obtain rfl:=q (by omega);obtain rfl:=r (by omega);obtain rfl:=E (by omega);obtain rfl:=C (by omega);rw[h];have hb:a5n ((0:Int),(W:Int),0,0,0,[],[0,0,0],[],a,b,d,u)=[]:=rfl;rw[hb,a09,a40];rfl;simp only at h;obtain rfl:=a1 (by omega);obtain rfl:=D (by omega);obtain rfl:=q (by omega);obtain rfl:=r (by omega);obtain rfl:=E (by omega);obtain rfl:=C (by omega);rw[h];have hb:a5n ((1:Int),(W:Int),0,0,0,[],[0,0,0],[],a,b,d,u)=[]:=rfl;rw[hb,a09,a40];rfl;simp only at h m G;obtain rfl:=D (by omega);obtain rfl:=q (by omega);obtain rfl:=r (by omega);obtain rfl:=E (by omega);obtain rfl:=C (by omega);rw[h]at f⊢;obtain⟨O,rfl⟩:=a01 m;have hb:a5n ((2:Int),(W:Int),(O:Int),0,0,[],[0,0,0],[],a,b,d,u)=pb (O:Int) 3:=rfl;rw[hb]at f⊢;have e:((2:Int)==2)=true:=rfl;have F:a0H (rdr X (pb (O:Int) 3++R),(3:Int))=_:=a3N (v:=O) (n:=3) (by omega) (by omega) f;have wO:wrap .i64 (O:Int)=(O:Int):=a0C (by omega);simp only[e,cT,F,oB,wO];rfl;simp only at h m;obtain rfl:=a1 (by omega);obtain rfl:=q (by omega);obtain rfl:=r (by omega);obtain rfl:=C (by omega);rw[h]at f⊢;have hb:a5n ((3:Int),(W:Int),0,sh,0,c,[0,0,0],[],a,b,d,u)=a7I ((3:Int),(W:Int),0,sh,0,c,[0,0,0],[],a,b,d,u):=rfl;rw[hb]at f⊢;have T:((3:Int)==2)=false:=rfl;have U:((3:Int)==4)=false:=rfl;have V:((3:Int)==3)=true:=rfl;have F:=b9k (s:=((3:Int),(W:Int),0,sh,0,c,[0,0,0],[],a,b,d,u)) (s0:=((3:Int),(W:Int),0,0,0,[],a00 3 0,[],[],(0,[],()),[],())) m rfl f;simp only[T,V,U,cT,cF,oB]
 erw[F]
 rfl
 ·simp only at h m Q;obtain rfl:=a1 (by omega);obtain rfl:=C (by omega);rw[h]at f⊢;simp only[b2C,bA,dT]at Q;obtain⟨Q,h5,S⟩:=Q;obtain⟨A,hA⟩:=a01 (show 0≤g-1 by omega);obtain rfl:g=(A:Int)+1:=by omega
  obtain⟨x,y,z,rfl⟩:∃x y z,t=[x,y,z]:=by
   match t,ht with
   | [x,y,z],_=>simp
  simp at S;have hb:a5n ((4:Int),(W:Int),0,sh,(A:Int)+1,c,[x,y,z],[],a,b,d,u)=pb (A:Int) 10++(sB 8 [x,y,z]++a7I ((4:Int),(W:Int),0,sh,(A:Int)+1,c,[x,y,z],[],a,b,d,u)):=by
   show pb ((A:Int)+1-1) 10++_=_
   simp
  rw[hb]at f⊢;simp only[aA]at f⊢;have T:((4:Int)==2)=false:=rfl;have U:((4:Int)==4)=true:=rfl;have F:a0H (rdr X (pb (A:Int) 10++(sB 8 [x,y,z]++(a7I ((4:Int),(W:Int),0,sh,(A:Int)+1,c,[x,y,z],[],a,b,d,u)++R))),(10:Int))=_:=a3N (v:=A) (n:=10) (by omega) (by omega) f;have p:=f.shift;have wA:wrap .i64 (A:Int)=(A:Int):=a0C (by omega);have h4:wrap .i64 ((A:Int)+1)=(A:Int)+1:=a0C (by omega);have g5:=c8H (wd:=a0J a) (k:=4) (w:=(W:Int)) (g:=(A:Int)+1) S.1 S.2.1 S.2.2 p;have g6:=b9k (s:=((4:Int),(W:Int),0,sh,(A:Int)+1,c,[x,y,z],[],a,b,d,u)) (s0:=((4:Int),(W:Int),0,0,(A:Int)+1,[],[x,y,z],[],[],(0,[],()),[],())) m rfl p.shift;simp_all[a4h,b6Q,c2q]
 simp only at h m G;obtain rfl:=a1 (by omega);obtain rfl:=D (by omega);obtain rfl:=q (by omega);obtain rfl:=r (by omega);obtain rfl:=E (by omega);rw[h]at f⊢;simp only[a9Q,bA,dT]at G;have hb:a5n ((5:Int),(W:Int),0,0,0,[],[0,0,0],st,a,b,d,u)=pb ((st.length:Nat):Int) 2++a8J st:=rfl;rw[hb]at f⊢;simp only[aA]at f⊢;have T:((5:Int)==2)=false:=rfl;have U:((5:Int)==4)=false:=rfl;have V:((5:Int)==3)=false:=rfl;have e5:((5:Int)==5)=true:=rfl;have F:a0H (rdr X (pb ((st.length:Nat):Int) 2++(a8J st++R)),(2:Int))=_:=a3N (v:=st.length) (n:=2) (by omega) (by omega) f;have g5:=b9n (wd:=a0J a) (ok:=true) (N:=st.length) (by omega) (5:Int) (W:Int) st [] _ R G.2 (by simp) f.shift;simp_all[a4h]
def a8K(s:Sub)(zn:List Nat):List Int:=
 (b5i s++a5n s)++(sB (a0J s.2.2.2.2.2.2.2.2.1) s.2.2.2.2.2.2.2.2.1++if s.1=0∨s.1=1 then[]else a6S s.2.2.2.2.2.2.2.2.2.1 zn s.2.2.2.2.2.2.2.2.2.2.1)
theorem b9o(b:a1x s n)(d:s.1≠0∧s.1≠1→PartsOk s.2.2.2.2.2.2.2.2.2.1 n ((s.2.2.2.2.2.2.2.2.1.length:Nat):Int) s.2.2.2.2.2.2.2.2.2.2.1 zn)(L:List Int):
  a5x s zn L=L++a8K s zn:=by
 obtain⟨-,-,h,-,k,a,-,-,f,-⟩:=b;have c:=a2c f;have g:=c8G (b6N h) ⟨k,a⟩ f L;unfold a5x a8K
 by_cases hk:s.1=0∨s.1=1
 rw[if_pos hk,if_pos hk,b0U (by omega),c2Y h,g]
 simp
 rw[if_neg hk,if_neg hk,c3G (d (not_or.1 hk)),b0U (by omega),c2Y h,g]
 simp
def a8L(s:Sub)(l:List Int):Sub:=(s.1,s.2.1,s.2.2.1,s.2.2.2.1,s.2.2.2.2.1,s.2.2.2.2.2.1,s.2.2.2.2.2.2.1,s.2.2.2.2.2.2.2.1,l,s.2.2.2.2.2.2.2.2.2)
theorem c2Z{wd:Nat}(g:wd≤62){N:Nat}(f:N<1000000)(n:Int)(ok:Bool)(z s:Sub):∀(l done P R:List Int),(∀x∈l,b5M wd x)→done.length+l.length=N→OkR P (sB wd l++R)→
  y0s b1i (n,(wd:Int),ok,(N:Int),(done.length:Int),rdr P (sB wd l++R),z,a8L s done,())=some (n,(wd:Int),ok,rdr (P++sB wd l) R,z,a8L s (done++l),())
 | [],done,P,R,_,hl,_=>by
  have:done.length=N:=by omega
  subst this;have d:decide ((done.length:Int)<(done.length:Int))=false:=by simp
  simp_all[a0F,b1i,sB]
 |x::l,done,P,R,h,hl,hok=>by
  rw[lC]at hl;rw[c2p]at hok⊢;have d:decide ((done.length:Int)<(N:Int))=true:=by grind
  have a:=b0T g (h x (by simp)) hok;have k:lim (a37 done+1)=true:=a0T (by omega);have b:wrap .i64 ((done.length:Int)+1)=(((done++[x]).length:Nat):Int):=by grind[a0C]
  rw[a0E (s':=(n,(wd:Int),ok,(N:Int),(((done++[x]).length:Nat):Int),rdr (P++pb (a0X x wd) wd) (sB wd l++R),z,a8L s (done++[x]),())) (by
   simp_all[b1i,a8L])]
  rw[c2Z g f n ok z s l (done++[x]) _ R (fun y c=>h y (by grind)) (by grind) hok.shift];simp[sB]
theorem c7B(h:SmallS s):SmallS (a4h s) where
 coefs:=h.coefs
 taps:=h.taps
 stages:=h.stages
 warm:=by show([]:List Int).length≤5000;simp
 rest:=by show([]:List Int).length≤5000;simp
 ks:=by show([]:List Int).length≤_;simp
theorem d2h(h:SmallS s)(I:(a2t s n).isSome=true)(T:s.1≠0∧s.1≠1→PartsOk s.2.2.2.2.2.2.2.2.2.1 n ((s.2.2.2.2.2.2.2.2.1.length:Nat):Int) s.2.2.2.2.2.2.2.2.2.2.1 zn)(e:OkR P (a8K s zn++R)):b2N (rdr P (a8K s zn++R),n)=some (s,(0:Int),rdr (P++a8K s zn) R):=by
 have K:=b5L I;have d:=@c7A s n K h.taps P;have x:=K;obtain⟨U,V,O,-,-,-,-,S,r,-,v,-⟩:=x;have Q:=a2c r;have y:=h.warm;have L:decide (n<1)=false:=by simp_all
 have M:decide (n > 4096)=false:=by simp_all
 have j:∀A B:List Int,(rdr A B).2.2.1=0:=fun _ _=>rfl;have l:a8s ((a4h s).1,a4h s,n)=some true:=by
  rw[b5Z (c7B h)];unfold b4z
  have:a4g (a4h s).1 (a4h s) n:=O
  simp_all
 have i:a4P (a4h s,n)=some ((s.2.2.2.2.2.2.2.2.1.length:Nat):Int):=by
  rw[b2T]
  have:a2v (a4h s) n=a2v s n:=rfl
  simp_all
 have p:=c0W h n;rw[I]at p;have f:a1w s.2.2.2.2.2.2.2.2.1=some ((a0J s.2.2.2.2.2.2.2.2.1:Nat):Int):=a2w (by unfold short;omega);unfold b2N a0O;unfold a8K at e⊢;simp only[aA]at e⊢;have a:OkR (P++(b5i s++a5n s)) (sB (a0J s.2.2.2.2.2.2.2.2.1) s.2.2.2.2.2.2.2.2.1++((if s.1=0∨s.1=1 then[]else a6S s.2.2.2.2.2.2.2.2.2.1 zn s.2.2.2.2.2.2.2.2.2.2.1)++R)):=OkR.shift (by simp_all)
 have G:=fun(ok:Bool) (z:Sub)=>c2Z (wd:=a0J s.2.2.2.2.2.2.2.2.1) (by omega) (N:=s.2.2.2.2.2.2.2.2.1.length) (by omega) n ok z (a4h s) s.2.2.2.2.2.2.2.2.1 [] _ _ (b6P r) (by simp) a;simp only[a22,nZ,a09,a30]at G;simp only[L,M,cF,j,bne_self_eq_false,oB];rw[d e];simp only[j,bne_self_eq_false,cF,oB,l,bT,i];rw[show((a4h s:Sub))=a8L (a4h s) []from rfl]
 erw[G]
 simp only[oB,j,bne_self_eq_false,cF];rw[show(a8L (a4h s) s.2.2.2.2.2.2.2.2.1).1=s.1 from rfl,a6P];simp only[oB]
 by_cases hk:s.1=0∨s.1=1
 have H:decide (s.1≠0∧s.1≠1)=false:=by grind
 have q:a8L (a4h s) s.2.2.2.2.2.2.2.2.1=s:=by
  obtain⟨D,E,F⟩:=v hk;obtain⟨k,w,o,sh,g,c,t,st,wm,⟨X,Y,Z⟩,re,u⟩:=s;simp only at D E F;subst D E F;rfl
 grind
 have H:decide (s.1≠0∧s.1≠1)=true:=by simp_all
 have hp:=T (not_or.1 hk);have b:=a.shift;rw[if_neg hk]at b;have m:=c4Q hp b;simp only[H,cT,if_neg hk];rw[show(a8L (a4h s) s.2.2.2.2.2.2.2.2.1).2.2.2.2.2.2.2.2.1=s.2.2.2.2.2.2.2.2.1 from rfl]
 erw[m]
 have C:((0:Int) != 0)=false:=rfl;simp only[oB,C,cF,bT,f,bne_self_eq_false];have q:((a8L (a4h s) s.2.2.2.2.2.2.2.2.1).1,(a8L (a4h s) s.2.2.2.2.2.2.2.2.1).2.1,(a8L (a4h s) s.2.2.2.2.2.2.2.2.1).2.2.1,(a8L (a4h s) s.2.2.2.2.2.2.2.2.1).2.2.2.1,(a8L (a4h s) s.2.2.2.2.2.2.2.2.1).2.2.2.2.1,(a8L (a4h s) s.2.2.2.2.2.2.2.2.1).2.2.2.2.2.1,(a8L (a4h s) s.2.2.2.2.2.2.2.2.1).2.2.2.2.2.2.1,(a8L (a4h s) s.2.2.2.2.2.2.2.2.1).2.2.2.2.2.2.2.1,s.2.2.2.2.2.2.2.2.1,s.2.2.2.2.2.2.2.2.2.1,s.2.2.2.2.2.2.2.2.2.2.1,(a8L (a4h s) s.2.2.2.2.2.2.2.2.1).2.2.2.2.2.2.2.2.2.2.2)=s:=rfl
 grind
theorem d5w(y:Int):bits .u64 .and y 1=y%2:=by
 have h:((a04 64 y) &&& (a04 64 1)).toNat=(y%18446744073709551616).toNat%2:=by
  simp
 show wrap .u64 ((((a04 64 y) &&& (a04 64 1)).toNat:Nat):Int)=_
 grind[a0M]
theorem a2k(v:Int):∀n,a1B (pb v n)
 |0=>fun b hb=>by cases hb
 |n+1=>fun b hb=>by
  rcases mC.1 hb with rfl|hb
  grind[a7j,d5w,a8C]
  exact a2k v n b hb
theorem c6f(n:Nat):a1B (unB n):=fun b hb=>by
 rcases mA.1 hb with hb|hb
 all_goals simp_all
theorem b5j{α:Type}{f:α→List Int}{l:List α}(h:∀x,a1B (f x)):a1B (l.flatMap f):=fun b hb=>by
 obtain⟨x,-,g⟩:=a97.1 hb;exact h x b g
theorem c8I(k:Nat)(x:Int):a1B (b0H k x):=by
 unfold b0H;split;exact(c6f _).app (a2k _ _);exact(c6f _).app (a2k _ _)
theorem b8B(n:Nat)(l:List Int):a1B (sB n l):=b5j fun _=>a2k _ _
theorem c8J(k:Int)(l:List Int):a1B (b1C k l):=by
 unfold b1C;split;exact(a2k _ _).app ((a2k _ _).app (b8B _ _));exact(a2k _ _).app (b5j fun _=>c8I _ _)
theorem b6R:a1B []:=fun b hb=>by grind
theorem c1t:∀(zs:List Nat)(ks l:List Int),a1B (a1U zs ks l)
 |z::zs,k::ks,l=>by
  simp only[a1U];exact(c8J _ _).app (c1t zs ks _)
 | [],_,_=>by simp_all[a1U,b6R]
 |_::_,[],_=>by simp_all[a1U,b6R]
theorem c1u(s:Sub):a1B (a7I s):=(a2k _ _).app ((a2k _ _).app ((a2k _ _).app (b8B _ _)))
theorem c8K(s:Sub):a1B (a5n s):=by
 unfold a5n;split;exact a2k _ _;split;exact c1u s;split;exact(a2k _ _).app ((b8B _ _).app (c1u s));split;exact(a2k _ _).app (b5j fun _=>(a2k _ _).app (a2k _ _));exact b6R
theorem c9Y(s:Sub)(h:List Nat):a1B (a8K s h):=by
 refine(((a2k _ _).app ((a2k _ _).app (a2k _ _))).app (c8K s)).app ((b8B _ _).app ?_);split;exact b6R;exact(a2k _ _).app (c1t _ _ _)
theorem c9Z(h:SmallS s)(k:(a2t s n).isSome=true)(j:L.length<50000000):
  ∃g,b0S (wL L,s,n)=some (0,wL (L++a8K s g))∧a4r (s,n)=some (((a8K s g).length:Nat):Int)∧(a8K s g).length≤700000∧
   (s.1≠0∧s.1≠1→PartsOk s.2.2.2.2.2.2.2.2.2.1 n ((s.2.2.2.2.2.2.2.2.1.length:Nat):Int) s.2.2.2.2.2.2.2.2.2.2.1 g):=by
 obtain⟨e,i,a,-,c,d,-⟩:=b6z h (n:=n) (L:=L) (by omega);obtain⟨rfl,g,rfl,f⟩:=d k;have b:=b5L k;rw[b9o b f]at a c;refine⟨g,a,?_,by simp_all,f⟩;rw[c6b h];unfold a5m;rw[if_pos k,←c2k f,b9o b f]
 simp
theorem d3I(g:L.length<1000000000):b3z (wL L).1=some (rdr [] L):=by
 obtain⟨-,h⟩:=a6e L;unfold b3z;rw[a0T (by omega)];rfl
theorem d0A(h:L.length<1000000000):a5l (wL L)=some ((wL L).1,wL L):=by
 grind[a6e,a5l,a0T]
def a0L(n:Nat):List Int:=if h:n<128 then[(n:Int)]else((n%128+128:Nat):Int)::a0L (n / 128)
termination_by n
decreasing_by omega
theorem b2e{n:Nat}(h:n<128):a0L n=[(n:Int)]:=by rw[a0L,dif_pos h]
theorem b3T{n:Nat}(h:¬ n<128):a0L n=((n%128+128:Nat):Int)::a0L (n / 128):=by rw[a0L,dif_neg h]
theorem b9P:∀(k n:Nat),n<128^(k+1)→1≤(a0L n).length∧(a0L n).length≤k+1
 |0,n,h=>by simp_all[b2e]
 |k+1,n,h=>by
  by_cases hn:n<128
  rw[b2e hn];simp;rw[b3T hn]
  have:=b9P k (n / 128) (by omega)
  simp_all
theorem c1v:∀(k n:Nat),n<128^(k+1)→∀b∈a0L n,0≤b∧b<256
 |0,n,h,b,hb=>by grind[b2e]
 |k+1,n,h,b,hb=>by
  by_cases hn:n<128
  grind[b2e]
  rw[b3T hn]at hb;rcases mC.1 hb with rfl|hb;omega;exact c1v k (n / 128) (by omega) b hb
theorem c6g:∀(k n:Nat)(a:List Int)(b c:Int)(out:List Int),n<128^(k+1)→k≤8→out.length+k<1000000→
  ∃r g,y0s a9f ((n:Int),a,b,c,out,())=some (((r:Nat):Int),a,b,c,out++g,())∧a0L n=g++[(r:Int)]∧r<128
 |k,n,a,b,c,out,h,hk,ho=>by
  by_cases hn:n<128
  refine⟨n,[],?_,by rw[b2e hn];rfl,hn⟩;rw[a0F (b:=((n:Int),a,b,c,out,())) (by
   have d:decide ((n:Int)≥128)=false:=by grind
   simp only[a9f,d,cF])]
  simp
  ·cases k with
   |zero=>omega
   |succ k=>
    have m:n / 128<128^(k+1):=by omega
    have f:n<18446744073709551616:=by
     have:128^(k+1+1)≤128^9:=a08 (by omega) (by omega)
     omega
    obtain⟨r,g,o,j,l⟩:=c6g k (n / 128) a b c (out++[((n%128+128:Nat):Int)]) m (by omega) (by grind);refine⟨r,((n%128+128:Nat):Int)::g,?_,by rw[b3T hn,j];rfl,l⟩;have d:decide ((n:Int)≥128)=true:=by grind
    have e:wrap .u64 (a54 (n:Int) 128)=((n / 128:Nat):Int):=by
     rw[show a54 (n:Int) 128=((n / 128:Nat):Int)from rfl];exact a0M (by omega)
    have i:wrap .u8 (wrap .u8 (a26 (n:Int) 128)+128)=((n%128+128:Nat):Int):=by
     rw[show a26 (n:Int) 128=((n%128:Nat):Int)from rfl,a8C,a8C];omega
    rw[a0E (s':=(((n / 128:Nat):Int),a,b,c,out++[((n%128+128:Nat):Int)],())) (by
     simp only[a9f,d,cT,a0T (show out.length+1<2147483648 by omega),e,i,a06])]
    simp_all
theorem b2f{α β γ:Type}(f:α→List γ):∀(l:List α)(a:List γ),a2X (β:=β) (fun a x=>.inl (a++f x)) l a=.inl (a++l.flatMap f)
 | [],a=>by simp[a2X]
 |x::l,a=>by simp only[a2X];rw[b2f f l];simp
def asI(ns:List Nat):List Int:=ns.map fun n:Nat=>(n:Int)
theorem b8g{ns:List Nat}(h:∀n∈ns,n<9223372036854775808)(t:ns.length≤1000):a9M (asI ns)=some (ns.flatMap a0L):=by
 have l:(asI ns).length=ns.length:=by simp[asI]
 have:=a1N (f:=a9g) (asI ns) (fun i (a:List Int)=>(asI ns,((asI ns).length:Int),(i:Int),a,())) (fun a x=>.inl (a++a0L x.toNat)) (fun i a=>a.length≤10*i) (fun a=>(a,()))
  (fun i hi a p=>⟨fun q g=>by
   have c:i<ns.length:=by omega
   have m:(asI ns)[i]=((ns[i]:Nat):Int):=by simp[asI]
   have hb:=h ns[i] (a05 c);have k:ns[i]<128^(8+1):=by omega
   obtain⟨r,d,o,j,s⟩:=c6g 8 ns[i] (asI ns) ((asI ns).length:Int) (i:Int) a k (a27 _) (by omega);have hv:=b9P 8 ns[i] k;rw[j]at hv;simp only[lN,lC,a22]at hv;simp[m,j]at g;subst g;have e:wrap .u8 (r:Int)=(r:Int):=by rw[a8C];omega
   refine⟨?_,by grind⟩;simp only[a9g,dlt hi,cT,a0D hi,m,oB,o,a0T (show(a++d).length+1<2147483648 by grind),a0B (show i<1000000 by omega),e,a06,aA],fun b hb=>by grind⟩)
  (fun a p=>by simp_all[a9g]) (a:=[]) (by simp)
 simp_all[a9M,b2f,a8D,asI,List.flatMap_map]
theorem orA{k:Nat}(f:a<2^k)(c:b*2^k+a<18446744073709551616):bits .u64 .or (a:Int) ((b*2^k:Nat):Int)=((a+b*2^k:Nat):Int):=by
 show wrap .u64 (((a04 64 (a:Int) ||| a04 64 ((b*2^k:Nat):Int)).toNat:Nat):Int)=_;have g:(a04 64 (a:Int)).toNat=a:=by grind
 have h:(a04 64 ((b*2^k:Nat):Int)).toNat=b*2^k:=by grind[a82]
 grind[a59,a57,a0M]
theorem b9p{rest:List Int}:∀(j m i acc:Nat)(P:List Int),m<128^(j+1)→P.length=i→(i=0∨1≤m)→acc<2^(7*i)→m*2^(7*i)+acc<9223372036854775808→(P++(a0L m++rest)).length<1000000000→
  y0s a6i ((acc:Int),P++(a0L m++rest),((P++(a0L m++rest)).length:Nat),(i:Int),())=some (.inr (((acc+m*2^(7*i):Nat):Int),((i+(a0L m).length:Nat):Int),(0:Int),()))
 |j,m,i,acc,P,hj,hP,hm,ha,hs,hl=>by
  have p:i≤8:=by
   rcases hm with a|h1;omega;apply Classical.byContradiction;intro hi;have w:2^(7*9)≤2^(7*i):=a08 (by omega) (by omega);have x:2^(7*i)≤m*2^(7*i):=Nat.le_mul_of_pos_left _ (by omega);omega
  have r:wrap .i64 ((7:Int)*(i:Int))=((7*i:Nat):Int):=by grind[a0C]
  have t:decide ((((7*i:Nat):Int))<0)=false:=by rfl
  have s:wrap .i64 ((i:Int)+1)=((i+1:Nat):Int):=a0B (by omega);have v:∀c:Nat,c<256→(i=9→False):=fun _ _ h=>by omega
  have b:((i:Int)==9)=false:=by grind
  have step:∀(c:Nat)(k:List Int),c<256→a0L m=(c:Int)::k→(i=0∨c≠0)→
    a6i ((acc:Int),P++(a0L m++rest),((P++(a0L m++rest)).length:Nat),(i:Int),()) =
     bif decide ((c:Int)<128)then some (.inr (Sum.inr (bits .u64 .or (acc:Int) (A0n .u64 (wrap .u64 (a26 (c:Int) 128)) ((7*i:Nat):Int)),((i+1:Nat):Int),(0:Int),())))
     else some (.inl (bits .u64 .or (acc:Int) (A0n .u64 (wrap .u64 (a26 (c:Int) 128)) ((7*i:Nat):Int)),P++(a0L m++rest),((P++(a0L m++rest)).length:Nat),((i+1:Nat):Int),())):=fun c k l hv a=>by
   have g:i<(P++(a0L m++rest)).length:=by simp_all
   have o:m0k (P++(a0L m++rest)) (i:Int)=some (c:Int):=by
    simp_all[a0D]
   have y:(decide ((i:Int) > 0)=true→((c:Int)==0)=false):=fun h=>by
    grind
   simp only[a6i,dlt g,cT,o,oB,b,cF]
   grind
  have val:∀c:Nat,c%128*2^(7*i)+acc<9223372036854775808→bits .u64 .or (acc:Int) (A0n .u64 (wrap .u64 (a26 (c:Int) 128)) ((7*i:Nat):Int))=((acc+c%128*2^(7*i):Nat):Int):=fun c l=>by
   rw[show a26 (c:Int) 128=((c%128:Nat):Int)from rfl,a0M (by omega),b2U (by omega) (by omega)];exact orA ha (by omega)
  by_cases hm128:m<128
  rw[a0F (step m [] (by omega) (b2e hm128) (by omega) |>.trans (by
   have d:decide ((m:Int)<128)=true:=by grind
   simp only[d,cT];rfl))]
  rw[val m (by simp_all[a23]),a23 hm128,b2e hm128];rfl
  ·cases j with
   |zero=>omega
   |succ j=>
    have n:m / 128<128^(j+1):=by omega
    have q:2^(7*(i+1))=128*2^(7*i):=by grind
    have f:m*2^(7*i)=m%128*2^(7*i)+m / 128*2^(7*(i+1)):=by
     grind
    have hb:m%128*2^(7*i)≤127*2^(7*i):=a25 _ (by omega);rw[a0E (step (m%128+128) (a0L (m / 128)) (by omega) (b3T hm128) (by omega) |>.trans (by
     have d:decide (((m%128+128:Nat):Int)<128)=false:=by grind
     simp only[d,cF];rfl))]
    rw[val (m%128+128) (by grind[a90,Nat.mod_mod]),a90,Nat.mod_mod];have e:P++(a0L m++rest)=(P++[((m%128+128:Nat):Int)])++(a0L (m / 128)++rest):=by rw[b3T hm128];simp
    rw[e]at hl⊢;have u:=b9p j (m / 128) (i+1) (acc+m%128*2^(7*i)) (P++[((m%128+128:Nat):Int)]) n (by simp[hP]) (.inr (by omega)) (by omega) (by omega) hl;rw[u,f,b3T hm128];congr 3;omega
    simp;omega
theorem c8L{n:Nat}(h:n<9223372036854775808){rest:List Int}(g:(a0L n++rest).length<1000000000):a8N (a0L n++rest)=some ((n:Int),(((a0L n).length:Nat):Int),(0:Int)):=by
 have:=b9p (rest:=rest) 8 n 0 0 [] (by omega) rfl (.inl rfl) (by simp) (by omega) g
 simp_all[a8N]
def ord(P R:List Int):List Int×(Int×Int×Unit):=(P++R,(P.length:Int),(0:Int),())
theorem a3f{n:Nat}(c:n<9223372036854775808){most:Int}(e:(n:Int)≤most)(b:(P++(a0L n++R)).length<1000000000):
  a0S (ord P (a0L n++R),most)=some ((n:Int),ord (P++a0L n) R):=by
 have a:List.drop (a42 (P.length:Int)) (b02 (P++(a0L n++R)).length (P++(a0L n++R)))=a0L n++R:=by
  grind[tN]
 have k:((0:Int) != 0)=false:=rfl;have g:decide ((0:Int)≤(P.length:Int))=true:=by simp
 have f:decide ((P.length:Int)≤((P++(a0L n++R)).length:Int))=true:=by grind
 have d:decide ((n:Int) > most)=false:=by simp_all
 have h:(a0L n++R).length<1000000000:=by grind
 have i:wrap .i64 ((P.length:Int)+((a0L n).length:Int))=(((P++a0L n).length:Nat):Int):=by
  rw[a0C (by simp at b;omega)];simp
 unfold a0S ord;simp only[k,cF,g,f,a03,cT];rw[a,c8L c h]
 grind
def a9A(g:Int):Nat:=if 0≤g then(2*g).toNat else(-2*g-1).toNat
theorem d3J{g:Int}(h:-100000≤g∧g≤100000):b2A g=some ((a9A g:Nat):Int):=by
 unfold b2A a9A
 by_cases hg:0≤g
 have d:decide (g≥0)=true:=by simp_all
 rw[d,cT,if_pos hg,a0M (n:=g) (by omega),a0M (by omega),a79 (by omega)];have d:decide (g≥0)=false:=by simp_all
 rw[d,cF,if_neg hg,a0C (n:=g+1) (by omega),a0C (by omega),a0M (n:=0-(g+1)) (by omega),a0M (n:=2*(0-(g+1))) (by omega),a0M (by omega),a79 (by omega)]
 grind
theorem c6h{g:Int}(h:-(m:Int)≤g∧g≤(m:Int)):a9A g≤2*m:=by
 grind[a9A]
theorem d3K{g:Int}(h:-100000≤g∧g≤100000):b2o ((a9A g:Nat):Int)=some g:=by
 unfold b2o;have f:a26 ((a9A g:Nat):Int) 2=((a9A g%2:Nat):Int):=rfl;have k:a54 ((a9A g:Nat):Int) 2=((a9A g / 2:Nat):Int):=rfl;rw[f,k];unfold a9A
 by_cases hg:0≤g
 rw[if_pos hg];have d:((((2*g).toNat%2:Nat):Int)==0)=true:=by grind
 rw[d,cT,a0M (by omega),a0C (by omega)]
 grind
 rw[if_neg hg];have d:((((-2*g-1).toNat%2:Nat):Int)==0)=false:=by grind
 rw[d,cF,a0M (by omega),a0C (n:=(((-2*g-1).toNat / 2:Nat):Int)) (by omega),a0C (n:=0-(((-2*g-1).toNat / 2:Nat):Int)) (by omega),a0C (by omega)]
 grind
def e8(s:Int):Int:=bif (A0o .u8 s 7)==(1:Int)then bits .u8 .xor (A0n .u8 s 1) 7 else A0n .u8 s 1
def e16(s:Int):Int:=bif (A0o .u16 s 15)==(1:Int)then bits .u16 .xor (A0n .u16 s 1) 32773 else A0n .u16 s 1
def rep{α:Type}(f:α→α):Nat→α→α
 |0,s=>s
 |n+1,s=>rep f n (f s)
def g8(s c:Int):Int:=rep e8 8 (bits .u8 .xor s c)
def g16(s c:Int):Int:=rep e16 8 (bits .u16 .xor s (A0n .u16 (wrap .u16 c) 8))
theorem c1w(l:List Int)(n i:Int):∀(j k:Nat)(s:Int),k+j=8→y0s b1h (s,l,n,i,(k:Int),())=some (rep e8 j s,l,n,i,())
 |0,k,s,h=>by
  obtain rfl:k=8:=by omega
  rfl
 |j+1,k,s,h=>by
  have d:decide ((k:Int)<8)=true:=by grind
  rw[a0E (s':=(e8 s,l,n,i,((k+1:Nat):Int),())) (by
   simp only[b1h,d,cT,a0B (show k<1000000 by omega),e8]
   grind)]
  exact c1w l n i j (k+1) (e8 s) (by omega)
theorem b8h(l:List Int)(n i:Int):∀(j k:Nat)(s:Int),k+j=8→y0s a9t (s,l,n,i,(k:Int),())=some (rep e16 j s,l,n,i,())
 |0,k,s,h=>by
  obtain rfl:k=8:=by omega
  rfl
 |j+1,k,s,h=>by
  have d:decide ((k:Int)<8)=true:=by grind
  rw[a0E (s':=(e16 s,l,n,i,((k+1:Nat):Int),())) (by
   simp only[a9t,d,cT,a0B (show k<1000000 by omega),e16]
   grind)]
  exact b8h l n i j (k+1) (e16 s) (by omega)
def b6S(l:List Int):Int:=l.foldl g8 0
def a4v(l:List Int):Int:=l.foldl g16 0
theorem c4R(h:short l):a8v l=some (b6S l):=by
 have:=a1N (f:=a8d) (β:=Int×Unit) l (fun i (a:Int)=>(a,l,(l.length:Int),(i:Int),())) (fun a x=>.inl (g8 a x)) (fun _ _=>True) (fun a=>(a,()))
  (fun i hi a _=>⟨fun k g=>by
   simp at g;subst g
   have:=c1w l (l.length:Int) (i:Int) 8 0 (bits .u8 .xor a l[i]) rfl
   simp at this;refine⟨?_,trivial⟩;simp only[a8d,dlt hi,cT,a0D hi,oB,this,a0B (a18 hi h),g8],fun b hb=>by grind⟩)
  (fun a c=>by simp_all[a8d]) (a:=0) trivial
 unfold a8v;simp at this;rw[this,b6M];rfl
theorem c1x(h:short l):a6y l=some (a4v l):=by
 have:=a1N (f:=a6j) (β:=Int×Unit) l (fun i (a:Int)=>(a,l,(l.length:Int),(i:Int),())) (fun a x=>.inl (g16 a x)) (fun _ _=>True) (fun a=>(a,()))
  (fun i hi a _=>⟨fun k g=>by
   simp at g;subst g
   have:=b8h l (l.length:Int) (i:Int) 8 0 (bits .u16 .xor a (A0n .u16 (wrap .u16 l[i]) 8)) rfl
   simp at this;refine⟨?_,trivial⟩;simp only[a6j,dlt hi,cT,a0D hi,oB,this,a0B (a18 hi h),g16],fun b hb=>by grind⟩)
  (fun a c=>by simp_all[a6j]) (a:=0) trivial
 unfold a6y;simp at this;rw[this,b6M];rfl
theorem b3U(n:Int):wrap .u16 n=n%65536:=by rfl
theorem c8M(s:Int):0≤e16 s∧e16 s<65536:=by
 unfold e16;cases (A0o .u16 s 15==1:Bool);simp only[cF,A0n,b3U];omega;simp only[cT,bits,b3U];omega
theorem b9q(l:List Int):0≤a4v l∧a4v l<65536:=by
 unfold a4v;rcases a51 l with rfl|⟨L,b,rfl⟩
 simp
 rw[List.concat_eq_append,List.foldl_append];exact c8M _
theorem d8j{v:Int}(h:0≤v∧v<65536):a4A (v,2)=some [v / 256,v%256]:=by
 have g:wrap .u64 (a54 v 256)=v / 256:=by grind[a0M]
 have f:wrap .u8 (a26 v 256)=v%256:=by simp_all[a43,a8C]
 have k:wrap .u8 (a26 (v / 256) 256)=v / 256:=by grind[a8C]
 have s0:a1Y (v,(2:Int),(0:Int),([]:List Int),())=some (.inl (v / 256,(2:Int),(1:Int),[v%256],())):=by
  simp only[a1Y,show decide ((0:Int)<2)=true from rfl,cT,a0T (show([]:List Int).length+1<2147483648 by simp),g,f];rfl
 have a:a1Y (v / 256,(2:Int),(1:Int),[v%256],())=some (.inl (wrap .u64 (a54 (v / 256) 256),(2:Int),(2:Int),[v%256,v / 256],())):=by
  simp only[a1Y,show decide ((1:Int)<2)=true from rfl,cT,a0T (show([v%256]:List Int).length+1<2147483648 by simp),k];rfl
 have c:a5v (v,2)=some [v%256,v / 256]:=by
  unfold a5v a4b
  simp
  rw[show v0s (v0r (2:Int) 0) 8=2 from rfl,a0E s0,a0E a,a0F (b:=([v%256,v / 256],())) rfl];rfl
 simp_all[a4A,a1V]
@[reducible] def a0G:Type:=Int×(Int×(Int×Unit))
@[reducible] def a1d:Type:=Int×(Int×(a0G×(List a0G×(List Sub×Unit))))
@[reducible] def a1a:Type:=Int×(List (List Int)×Unit)
def a2H(n:Int)(s:a0G):Bool:=!(decide (s.1<0) || decide (s.1≥n) || decide (s.2.1<0) || decide (s.2.1≥n) || s.1==s.2.1)&&!(decide (s.2.2.1 < -1024) || decide (s.2.2.1 > 1024))
theorem a3h{n:Int}{s:a0G}:a2H n s=true↔0≤s.1∧s.1<n∧0≤s.2.1∧s.2.1<n∧s.1≠s.2.1∧-1024≤s.2.2.1∧s.2.2.1≤1024:=by
 simp only[a2H,bA,a33,a77,decide_eq_false_iff_not,beq_eq_false_iff_ne];omega
def a5p(l:List a0G)(n:Int):Prop:=1≤n∧n≤8∧l.length≤16∧l.all (a2H n)=true
instance (l:List a0G) (n:Int):Decidable (a5p l n):=by unfold a5p;infer_instance
theorem b5N(l:List a0G)(n:Int):a8O (l,n)=some (decide (a5p l n)):=by
 unfold a8O a5p
 by_cases h1:n<1
 grind
 by_cases h2:n > 8
 grind
 by_cases h3:((l.length:Nat):Int) > 16
 grind
 have g:=a2s (f:=a7p) (β:=Unit ⊕ (Bool×Unit)) l (fun i=>(n,l,(l.length:Int),(i:Int),())) (a2H n) (bt:=Sum.inl ()) (bf:=Sum.inr (false,()))
  (fun i h hp=>by
   obtain⟨a1,m,o,p,q,r,s⟩:=a3h.1 hp;have k:decide (l[i].1<0)=false:=by simp_all
   have a:decide (l[i].1≥n)=false:=by simp_all
   have b:decide (l[i].2.1<0)=false:=by simp_all
   have c:decide (l[i].2.1≥n)=false:=by simp_all
   have d:(l[i].1==l[i].2.1)=false:=by simp_all
   have e:decide (l[i].2.2.1 < -1024)=false:=by simp_all
   have j:decide (l[i].2.2.1 > 1024)=false:=by simp_all
   simp only[a7p,dlt h,cT,a0D h,oB,k,a,b,c,d,e,j,cF,a0B (show i<1000000 by omega)])
  (fun i h hp=>by
   simp only[a7p,dlt h,cT,a0D h,oB]
   grind[a2H])
  (by simp[a7p])
 grind
def a2l(f:a0G):Prop:=1≤f.1∧f.1≤1048576∧1≤f.2.1∧f.2.1≤8∧4≤f.2.2.1∧f.2.2.1≤24
instance (f:a0G):Decidable (a2l f):=by unfold a2l;infer_instance
theorem a4M(f:a0G):a1Z f=some (decide (a2l f)):=by
 unfold a1Z a7o a2l
 grind
def frP(f:a1d):Prop:=a2l f.2.2.1∧1≤f.2.1∧f.2.1≤4096∧0≤f.1∧f.1≤4194304-f.2.1∧a5p f.2.2.2.1 f.2.2.1.2.1
instance (f:a1d):Decidable (frP f):=by unfold frP;infer_instance
theorem b6m(f:a1d):a7q f=some (decide (frP f)):=by
 unfold a7q frP;rw[a4M,b5N]
 by_cases h1:a2l f.2.2.1<;>by_cases h2:1≤f.2.1<;>by_cases h3:f.2.1≤4096<;>by_cases h4:0≤f.1<;>simp[h1,h2,h3,h4]
 have h:wrap .i64 ((4194304:Int)-f.2.1)=4194304-f.2.1:=a0C (by omega);rw[h]
 grind
def a7J(s:a0G):List Nat:=[s.1.toNat,s.2.1.toNat,a9A s.2.2.1]
def a5W(s:a0G):List Int:=a0L s.1.toNat++(a0L s.2.1.toNat++a0L (a9A s.2.2.1))
def hb(f:a1d)(body:Nat):List Int:=
 [245,75]++(a0L f.1.toNat++(a0L f.2.1.toNat++(a0L f.2.2.1.1.toNat++(a0L f.2.2.1.2.1.toNat++(a0L f.2.2.1.2.2.1.toNat++(a0L f.2.2.2.1.length++(f.2.2.2.1.flatMap a5W++a0L body)))))))
def a1L(f:a1d)(body:Nat):List Int:=hb f body++[b6S (hb f body)]
theorem a9n{n:Nat}(h:n<9223372036854775808):1≤(a0L n).length∧(a0L n).length≤9:=b9P 8 n (by omega)
theorem c8N(g:n≤8){s:a0G}(h:a2H n s=true):(a5W s).length≤27:=by
 grind[a3h,a9n,a9A,a5W]
theorem c3a{n:Int}(g:n≤8):∀(l:List a0G),l.all (a2H n)=true→(l.flatMap a5W).length≤27*l.length
 | [],_=>by simp
 |s::l,h=>by
  simp only[a07,bA]at h
  have:=c8N g h.1
  have:=c3a g l h.2
  simp only[a63,lN,lC];omega
theorem c4S{f:a1d}(g:frP f){body:Nat}(h:body≤1048576):2≤(hb f body).length∧(hb f body).length≤600:=by
 obtain⟨⟨q,r2,k,a,b,c⟩,l1,l2,s1,s2,m1,m2,m3,m4⟩:=g;have d:=a9n (n:=f.1.toNat) (by omega);have e:=a9n (n:=f.2.1.toNat) (by omega);have i:=a9n (n:=f.2.2.1.1.toNat) (by omega);have j:=a9n (n:=f.2.2.1.2.1.toNat) (by omega);have l:=a9n (n:=f.2.2.1.2.2.1.toNat) (by omega);have m:=a9n (n:=f.2.2.2.1.length) (by omega);have o:=a9n (n:=body) (by omega);have p:=c3a m2 _ m4;simp only[hb,lN,lC,a22];omega
theorem c6i:∀l:List a0G,(l.flatMap a7J).length=3*l.length
 | []=>rfl
 |s::l=>by simp only[a63,lN,lC,c6i l];simp only[a7J,lC,a22];omega
theorem c7C{f:a1d}(z:frP f){body:Nat}(q:body≤1048576):a8m (f,(body:Int))=some (a1L f body):=by
 have t:=z;obtain⟨⟨N,r2,I,K,L,M⟩,l1,l2,s1,s2,m1,m2,m3,m4⟩:=t;have k:∀s∈f.2.2.2.1,a2H f.2.2.1.2.1 s=true:=fun s v=>lA.1 m4 s v;have h:=a1N (f:=a5Q) (β:=Int×(List Int×Unit)) f.2.2.2.1 (fun i (a:List Int)=>((body:Int),f.2.2.2.1,((f.2.2.2.1.length:Nat):Int),(i:Int),a,())) (fun a x=>.inl (a++asI (a7J x))) (fun i a=>a.length=6+3*i) (fun a=>((body:Int),a,()))
  (fun i hi a F=>⟨fun H j=>by
   simp at j;subst j;obtain⟨a1,B,C,D,E,w,y⟩:=a3h.1 (k _ (a05 hi));refine⟨?_,by grind[asI,a7J]⟩;simp only[a5Q,dlt hi,cT,a0D hi,oB,d3J (g:=f.2.2.2.1[i].2.2.1) (by omega),a0T (show a.length+3<2147483648 by omega),a0B (show i<1000000 by omega),a06]
   grind[a0M,asI,a7J],fun b hb=>by grind⟩)
  (fun a F=>by simp_all[a5Q]) (a:=asI [f.1.toNat,f.2.1.toNat,f.2.2.1.1.toNat,f.2.2.1.2.1.toNat,f.2.2.1.2.2.1.toNat,f.2.2.2.1.length]) (by rfl)
 rw[b2f]at h;simp[a8D]at h;have d:([wrap .u64 f.1,wrap .u64 f.2.1,wrap .u64 f.2.2.1.1,wrap .u64 f.2.2.1.2.1,wrap .u64 f.2.2.1.2.2.1,wrap .u64 ((f.2.2.2.1.length:Nat):Int)]:List Int)=asI [f.1.toNat,f.2.1.toNat,f.2.2.1.1.toNat,f.2.2.1.2.1.toNat,f.2.2.1.2.2.1.toNat,f.2.2.2.1.length]:=by
  grind[a0M,asI]
 have o:asI [f.1.toNat,f.2.1.toNat,f.2.2.1.1.toNat,f.2.2.1.2.1.toNat,f.2.2.1.2.2.1.toNat,f.2.2.2.1.length]++f.2.2.2.1.flatMap (fun x=>asI (a7J x))++[((body:Nat):Int)]=asI ([f.1.toNat,f.2.1.toNat,f.2.2.1.1.toNat,f.2.2.1.2.1.toNat,f.2.2.1.2.2.1.toNat,f.2.2.2.1.length]++f.2.2.2.1.flatMap a7J++[body]):=by
  simp_all[asI,List.map_flatMap]
 have u:∀n∈[f.1.toNat,f.2.1.toNat,f.2.2.1.1.toNat,f.2.2.1.2.1.toNat,f.2.2.1.2.2.1.toNat,f.2.2.2.1.length]++f.2.2.2.1.flatMap a7J++[body],n<9223372036854775808:=fun n e=>by
  simp only[mA,mC,a96,or_false,a97]at e;rcases e with(e|⟨s,v,e⟩)|e;omega;obtain⟨a1,B,C,D,E,w,y⟩:=a3h.1 (k _ v)
  have:=c6h (m:=1024) ⟨w,y⟩
  simp[a7J]at e;omega;omega
 have A:=c6i f.2.2.2.1;have p:=b8g u (by grind);have c:(([f.1.toNat,f.2.1.toNat,f.2.2.1.1.toNat,f.2.2.1.2.1.toNat,f.2.2.1.2.2.1.toNat,f.2.2.2.1.length]++f.2.2.2.1.flatMap a7J++[body]).flatMap a0L)=(hb f body).drop 2:=by
  simp only[hb,List.flatMap_append,a63,List.flatMap_nil,a40,aA,List.flatMap_assoc,a65,a09,List.drop_succ_cons,a28];congr 7;exact congrArg (fun g=>List.flatMap g f.2.2.2.1) (funext fun s=>by simp[a5W,a7J])
 have r:[245,75]++(hb f body).drop 2=hb f body:=by rfl
 have G:=c4S z q;unfold a8m;simp only[d];rw[h];simp only[oB,a06];have l:=congrArg a37 o;rw[show(asI ([f.1.toNat,f.2.1.toNat,f.2.2.1.1.toNat,f.2.2.1.2.1.toNat,f.2.2.1.2.2.1.toNat,f.2.2.2.1.length]++f.2.2.2.1.flatMap a7J++[body])).length=7+3*f.2.2.2.1.length from by grind[asI,lC]]at l;rw[lN,a74]at l;rw[a0M (n:=(body:Int)) (by omega),a0T (by omega),cT,o,p];simp only[oB,c,a06,r];rw[a0T (by grind),cT,c4R (show short (hb f body)by unfold short;omega)]
 simp
 rw[a0T (by omega),cT];rfl
def c7D(f:a1d):a1d:=(f.1,f.2.1,f.2.2.1,f.2.2.2.1,[],())
theorem a1I{A:List Int}{k:Nat}(h:(P++(A++R)).length<k):((P++A)++R).length<k:=by rw[aA];exact h
theorem c1y{x:List Int}{ch:Int}(c:ch≤8)(s l:Int)(fm:a0G)(u:List Sub×Unit){N:Nat}(o:N≤16){R:List Int}:∀(rest done:List a0G)(P:List Int),rest.all (a2H ch)=true→done.length+rest.length=N→
  (P++(rest.flatMap a5W++R)).length<1000000000→
  y0s a5G (x,(N:Int),(done.length:Int),(s,l,fm,done,u),ord P (rest.flatMap a5W++R),())=some (x,(s,l,fm,done++rest,u),ord (P++rest.flatMap a5W) R,())
 | [],done,P,_,hl,_=>by
  have e:done.length=N:=by simpa using hl
  rw[e,a0F (b:=(x,(s,l,fm,done,u),ord P R,())) (by simp only[a5G,dge,cF];rfl)]
  simp
 |g::rest,done,P,h,hl,hlen=>by
  simp only[a07,bA]at h;rw[lC]at hl;obtain⟨a1,v,w,y,z,d,i⟩:=a3h.1 h.1;have A:=c6h (m:=1024) ⟨d,i⟩;have j:(g::rest).flatMap a5W++R=a0L g.1.toNat++(a0L g.2.1.toNat++(a0L (a9A g.2.2.1)++(rest.flatMap a5W++R))):=by simp[a5W]
  rw[j]at hlen⊢;have n1:=a3f (n:=g.1.toNat) (most:=7) (by omega) (by omega) hlen;have f:=a1I hlen;have n2:=a3f (n:=g.2.1.toNat) (most:=7) (by omega) (by omega) f;have k:=a1I f;have r:=a3f (n:=a9A g.2.2.1) (most:=2048) (by omega) (by omega) k;have a:=a1I k;have q:wrap .u64 ((done.length:Int)+1)=(((done++[g]).length:Nat):Int):=by rw[a0M (by omega)];simp
  have t:wrap .i64 ((g.1.toNat:Nat):Int)=g.1:=by rw[a0C (by omega)];omega
  have w2:wrap .i64 ((g.2.1.toNat:Nat):Int)=g.2.1:=by rw[a0C (by omega)];omega
  have p:decide ((done.length:Int)<(N:Int))=true:=by simp;omega
  rw[a0E (s':=(x,(N:Int),(((done++[g]).length:Nat):Int),(s,l,fm,done++[g],u),ord (P++a0L g.1.toNat++a0L g.2.1.toNat++a0L (a9A g.2.2.1)) (rest.flatMap a5W++R),())) (by
   simp only[a5G,p,cT,n1,n2,r,oB,d3K (g:=g.2.2.1) (by omega),a0T (show done.length+1<2147483648 by omega),t,w2,q,a06])]
  rw[c1y c s l fm u o rest (done++[g]) _ h.2 (by simp;omega) a];simp[a5W]
theorem c7E{f:a1d}(p:frP f){body:Nat}(o:body≤1048576)(hl:(a1L f body++R).length<1000000000):
  a8e (a1L f body++R)=some (c7D f,((a1L f body).length:Int),(body:Int),(0:Int)):=by
 have q:=p;obtain⟨⟨r1,r2,c1,c2,d1,d2⟩,l1,l2,s1,s2,m1,m2,m3,m4⟩:=q;have U:=c4S p o

 have d:a1L f body++R=[245,75]++(a0L f.1.toNat++(a0L f.2.1.toNat++(a0L f.2.2.1.1.toNat++(a0L f.2.2.1.2.1.toNat++(a0L f.2.2.1.2.2.1.toNat++(a0L f.2.2.2.1.length++(f.2.2.2.1.flatMap a5W++(a0L body++([b6S (hb f body)]++R))))))))):=by
  simp[a1L,hb]
 generalize hx:a1L f body++R=x at *;have V:2≤x.length:=by rw[d];simp
 have P:m0k x 0=some 245:=by rw[d];rfl
 have Q:m0k x 1=some 75:=by rw[d];rfl
 have k:List.drop 2 (b02 x.length x)=a0L f.1.toNat++(a0L f.2.1.toNat++(a0L f.2.2.1.1.toNat++(a0L f.2.2.1.2.1.toNat++(a0L f.2.2.1.2.2.1.toNat++(a0L f.2.2.2.1.length++(f.2.2.2.1.flatMap a5W++(a0L body++([b6S (hb f body)]++R)))))))):=by
  rw[a19,d];rfl
 have h:([]++(a0L f.1.toNat++(a0L f.2.1.toNat++(a0L f.2.2.1.1.toNat++(a0L f.2.2.1.2.1.toNat++(a0L f.2.2.1.2.2.1.toNat++(a0L f.2.2.2.1.length++(f.2.2.2.1.flatMap a5W++(a0L body++([b6S (hb f body)]++R))))))))):List Int).length<1000000000:=by
  rw[←k];simp;omega
 have n1:=a3f (n:=f.1.toNat) (most:=4194304) (by omega) (by omega) h;have y:=a1I h;have n2:=a3f (n:=f.2.1.toNat) (most:=4096) (by omega) (by omega) y;have z:=a1I y;have E:=a3f (n:=f.2.2.1.1.toNat) (most:=1048576) (by omega) (by omega) z;have A:=a1I z;have F:=a3f (n:=f.2.2.1.2.1.toNat) (most:=8) (by omega) (by omega) A;have B:=a1I A;have G:=a3f (n:=f.2.2.1.2.2.1.toNat) (most:=24) (by omega) (by omega) B;have C:=a1I B;have H:=a3f (n:=f.2.2.2.1.length) (most:=16) (by omega) (by omega) C;have D:=a1I C;have a:=c1y (x:=x) m2 f.1 f.2.1 f.2.2.1 ([],()) m3 f.2.2.2.1 [] _ m4 (by simp) D;have S:=a1I D;have i:=a3f (n:=body) (most:=1048576) (by omega) (by omega) S;simp only[a22,nZ,a09,a30]at n1 n2 E F G H i a;have Y:wrap .i64 ((f.1.toNat:Nat):Int)=f.1:=by rw[a0C (by omega)];omega
 have w2:wrap .i64 ((f.2.1.toNat:Nat):Int)=f.2.1:=by rw[a0C (by omega)];omega
 have Z:wrap .i64 ((f.2.2.1.1.toNat:Nat):Int)=f.2.2.1.1:=by rw[a0C (by omega)];omega
 have w4:wrap .i64 ((f.2.2.1.2.1.toNat:Nat):Int)=f.2.2.1.2.1:=by rw[a0C (by omega)];omega
 have w5:wrap .i64 ((f.2.2.1.2.2.1.toNat:Nat):Int)=f.2.2.1.2.2.1:=by rw[a0C (by omega)];omega
 have l:a0L f.1.toNat++a0L f.2.1.toNat++a0L f.2.2.1.1.toNat++a0L f.2.2.1.2.1.toNat++a0L f.2.2.1.2.2.1.toNat++a0L f.2.2.2.1.length++f.2.2.2.1.flatMap a5W++a0L body=(hb f body).drop 2:=by simp[hb]
 rw[l]at i;have u:ord ((hb f body).drop 2) ([b6S (hb f body)]++R)=(x.drop 2,(((hb f body).length-2:Nat):Int),(0:Int),()):=by
  unfold ord;rw[a52,←hx];congr 1;unfold a1L;rw[aA,List.drop_append_of_le_length (by omega)]
 rw[u]at i;have b:wrap .i64 (((x.drop 2).length:Int)-(((hb f body).length-2:Nat):Int))=((1+R.length:Nat):Int):=by
  have:x.length=(hb f body).length+(1+R.length):=by rw[←hx];simp[a1L];omega
  rw[a52,a0C (by omega)];omega
 have m:wrap .i64 ((2:Int)+(((hb f body).length-2:Nat):Int))=(((hb f body).length:Nat):Int):=by rw[a0C (by omega)];omega
 have t:(hb f body).length<x.length:=by rw[←hx];simp[a1L]
 have c:b02 (hb f body).length x=hb f body:=by rw[←hx];simp[a1L]
 have s:m0k x (((hb f body).length:Nat):Int)=some (b6S (hb f body)):=by rw[a0D t];congr 1;subst hx;simp[a1L]
 have O:decide (((x.length:Nat):Int)<2)=false:=by simp;omega
 have j:decide ((2:Int)≤((x.length:Nat):Int))=true:=by simp;omega
 have I:((245:Int) != 245)=false:=rfl;have K:((75:Int) != 75)=false:=rfl;have e:∀T:List Int,T.length<1000000000→a6a T=some (ord [] T):=fun T d=>by unfold a6a;rw[a0T (by omega)];rfl
 have g:=h;rw[a09]at g;have z0:((0:Int) != 0)=false:=rfl;have L:decide (((1+R.length:Nat):Int)<1)=false:=by simp;omega
 have M:decide ((0:Int)≤(((hb f body).length:Nat):Int))=true:=by simp
 have N:decide ((((hb f body).length:Nat):Int)≤((x.length:Nat):Int))=true:=by simp;omega
 have X:(b6S (hb f body) != b6S (hb f body))=false:=bne_self_eq_false _;have r:frP (f.1,f.2.1,f.2.2.1,f.2.2.2.1,([]:List Sub),()):=p;have w:wrap .i64 ((((hb f body).length:Nat):Int)+1)=(((a1L f body).length:Nat):Int):=by rw[a0C (by omega)];simp[a1L]
 have v:wrap .i64 ((body:Nat):Int)=(body:Int):=a0C (by omega);unfold a8e;simp only[O,cF,P,Q,oB,I,K,j,cT];rw[k,e _ g];simp only[oB,n1,n2,E,F,G,H,Y,w2,Z,w4,w5]
 erw[a]
 simp only[oB,i,a3G,z0,cF,a1P,a4i,b,L,m,M,N,a03,cT,tN,c,c4R (show short (hb f body)by unfold short;omega),s,X];rw[b6m,decide_eq_true r];simp only[oB,bT,cF,w,v];rfl
@[reducible] def PZ:Type:=Sub×List Nat
def c7F(n:Int)(p:PZ):Prop:=SmallS p.1∧(a2t p.1 n).isSome=true∧(p.1.1≠0∧p.1.1≠1→PartsOk p.1.2.2.2.2.2.2.2.2.2.1 n ((p.1.2.2.2.2.2.2.2.2.1.length:Nat):Int) p.1.2.2.2.2.2.2.2.2.2.2.1 p.2)
def a0N(l:List PZ):List Int:=l.flatMap fun p=>a8K p.1 p.2
theorem c3b(l:List PZ):a1B (a0N l):=b5j fun _=>c9Y _ _
theorem c3c(x:a1d)(all:List Sub)(l:all.length≤8):∀(rest done:List Sub)(L:List Int),done++rest=all→(∀s∈rest,SmallS s∧(a2t s x.2.1).isSome=true)→L.length+700000*rest.length<40000000→
  ∃zs:List PZ,zs.map (·.1)=rest∧(∀p∈zs,c7F x.2.1 p)∧(a0N zs).length≤700000*rest.length∧((∀s∈rest,∃c,a4r (s,x.2.1)=some (c:Int))∧some (((a0N zs).length:Nat):Int)=rest.foldr (fun s a=>a.bind fun a=>(a4r (s,x.2.1)).bind fun c=>some (c+a)) (some 0))∧
   y0s a9h (all,(all.length:Int),(done.length:Int),wL L,x,())=some (.inl (wL (L++a0N zs),x,()))
 | [],done,L,hd,_,_=>by
  have e:done=all:=by simp_all
  subst e;refine⟨[],rfl,by simp,by simp[a0N],⟨by simp,by rfl⟩,?_⟩;simp_all[a0F,a9h,a0N]
 |s::rest,done,L,hd,h,hL=>by
  obtain⟨b,k⟩:=h s (by simp);rw[lC]at hL;obtain⟨f,d,i,q,j⟩:=c9Z b k (L:=L) (by omega);obtain⟨zs,k1,k2,k3,⟨r,o⟩,k6⟩:=c3c x all l rest (done++[s]) (L++a8K s f) (by simp_all) (fun t n=>h t (by grind)) (by grind);have g:done.length<all.length:=by grind
  have m:m0k all (done.length:Int)=some s:=by grind[a0D]
  refine⟨(s,f)::zs,by grind,fun p hp=>?_,?_,⟨fun t n=>?_,?_⟩,?_⟩;rcases mC.1 hp with rfl|hp;exact⟨b,k,j⟩;simp_all
  grind[a0N]
  grind
  simp only[List.foldr_cons,←o,oB,i];simp[a0N];have z0:((0:Int) != 0)=false:=rfl;rw[a0E (s':=(all,(all.length:Int),(((done++[s]).length:Nat):Int),wL (L++a8K s f),x,())) (by
   simp only[a9h,dlt g,cT,m,oB,d,z0,cF,a0B (show done.length<1000000 by omega)]
   simp)]
  simp_all[a0N]
def a5b(k:Nat):Nat:=(8-k%8)%8
def a2P(L:List Int):List Int:=L++a00 (a5b L.length) 0
theorem c1z:∀(k:Nat)(L:List Int),a5b L.length=k→L.length+k<900000000→y0s a3D (wL L,())=some (wL (L++a00 k 0),())
 |k,L,hk,hL=>by
  have f:=(a6e L).1;have h:a26 (wL L).2.1 8=((L.length%8:Nat):Int):=by grind
  unfold a5b at hk;cases k with
  |zero=>
   grind[a0F,a3D]
  |succ k=>
   have hb:(((L.length%8:Nat):Int) != 0)=true:=by grind
   rw[a0E (s':=(wL (L++[0]),())) (by
    simp only[a3D,h,hb,cT,c0Y (show L.length<1000000000 by omega),oB])]
   rw[c1z k (L++[0]) (by grind[a5b]) (by grind)]
   grind
theorem d0B(h:L.length<800000000):a5k (wL L)=some (wL (a2P L)):=by
 unfold a5k;rw[c1z _ L rfl (by unfold a5b;omega)];rfl
def a9o(L:List Int):List Int:=(wL (a2P L)).1
theorem b8i(L:List Int):(a9o L).length=(L.length+7) / 8∧8*(a9o L).length=(a2P L).length:=by
 grind[a6e,a2P,a9o,a5b]
def a9B(f:a1d)(L:List Int):List Int:=a1L f (a9o L).length++a9o L
def a5c(f:a1d)(L:List Int):List Int:=a9B f L++[a4v (a9B f L) / 256,a4v (a9B f L)%256]
theorem b6T{f:a1d}(g:frP f)(h:L.length≤5600000):(a9B f L).length≤700700∧(a9o L).length≤700000:=by
 grind[b8i,c4S,a9B,a1L]
theorem c4T{f:a1d}(j:a4z f=some true)(d:frP f)(e:f.2.2.2.2.1.length≤8)(m:∀s∈f.2.2.2.2.1,SmallS s∧(a2t s f.2.1).isSome=true):
  ∃zs:List PZ,zs.map (·.1)=f.2.2.2.2.1∧(∀p∈zs,c7F f.2.1 p)∧(a0N zs).length≤5600000∧
   some (((a0N zs).length:Nat):Int)=f.2.2.2.2.1.foldr (fun s a=>a.bind fun a=>(a4r (s,f.2.1)).bind fun c=>some (c+a)) (some 0)∧a2B f=some (a5c f (a0N zs),0):=by
 obtain⟨zs,k1,k2,k3,⟨-,n⟩,k6⟩:=c3c f f.2.2.2.2.1 e f.2.2.2.2.1 [] [] rfl m (by grind);have b:(a0N zs).length≤5600000:=by omega
 refine⟨zs,k1,k2,b,n,?_⟩;rw[a09,a22]at k6;have hp:=b6T d b;have k:wL []=(([]:List Int),(0:Int),()):=rfl;rw[k]at k6;have g:(a2P (a0N zs)).length<1000000000:=by
  grind[b8i]
 have l:=b9q (a9B f (a0N zs));have h:a1L f (a9o (a0N zs)).length++a9o (a0N zs)=a9B f (a0N zs):=rfl;have i:(a1L f (a9o (a0N zs)).length).length+(a9o (a0N zs)).length=(a9B f (a0N zs)).length:=by grind
 unfold a2B;simp only[j,oB,bT,cF]
 erw[k6]
 simp only[oB,d0B (show(a0N zs).length<800000000 by omega),d0A g]
 erw[c7C d (show(a9o (a0N zs)).length≤1048576 by omega)]
 simp only[oB,a06];rw[show(wL (a2P (a0N zs))).1=a9o (a0N zs)from rfl];rw[h,a0T (by omega),cT,c1x (show short (a9B f (a0N zs))by unfold short;omega)]
 simp
 rw[a0M (by omega),d8j l];simp only[oB];rw[a0T (by grind),cT];rfl
end Go.Ab
