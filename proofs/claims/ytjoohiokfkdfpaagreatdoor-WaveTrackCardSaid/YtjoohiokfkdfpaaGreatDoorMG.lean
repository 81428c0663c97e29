/- Part of the proof: PA. Conditions: as each statement tells. -/
import Derived.KernelRfl
import Derived.Test.YtjoohiokfkdfpaaGreatDoorMF
noncomputable section
set_option linter.unusedSimpArgs false
set_option linter.unusedVariables false
open BitVec renaming ofInt→a04,ofInt_natCast→a24,toNat_ofNat→a29,toNat_or→a72,toNat_ofInt→a82,toNat_and→a93
open Bool renaming and_self→a03,not_eq_true'→a33,not_false→a36,true_and→a43,and_eq_true_iff→a76,or_eq_false_iff→a77,or_eq_true→a98,eq_iff_iff→a99
open Int renaming eq_ofNat_of_zero_le→a01,natCast_dvd_natCast→a20,tmod→a26,cast_ofNat_Int→a30,toNat→a41,tmod_eq_emod_of_nonneg→a42,dvd_mul_of_dvd_left→a46,mul_nonneg→a47,tdiv→a54,tdiv_eq_ediv_of_nonneg→a61,mul_fdiv_cancel_left→a64,dvd_add_left→a66,toNat_of_nonneg→a79,fdiv→a80,natCast_nonneg→a83,dvd_zero→a86,emod_eq_of_lt→a89,natCast_add→b01
open List renaming replicate→a00,drop_eq_getElem_cons→a02,getElem_mem→a05,append_eq→a06,all_cons→a07,nil_append→a09,take_length→a19,length_nil→a22,drop_zero→a28,zipWith→a31,mem_of_mem_take→a34,mem_of_mem_drop→a35,length→a37,append_nil→a39,length_eq_zero_iff→a45,take_of_length_le→a48,take_succ_eq_append_getElem→a49,drop_length→a50,eq_nil_or_concat→a51,length_drop→a52,replicate_succ'→a53,set_cons_zero→a60,sum_cons→a62,flatMap_cons→a63,cons_append→a65,set_append_right→a73,length_singleton→a74,singleton_append→a75,getD→a87,length_take→a94,not_mem_nil→a96,mem_flatMap→a97,foldl_cons→b00,take→b02
open Nat renaming pow_le_pow_right→a08,two_pow_pos→a16,lt_trans→a18,mod_eq_of_lt→a23,mul_le_mul_right→a25,le_refl→a27,div_le_self→a32,lt_of_le_of_lt→a38,mod_lt→a40,pow_dvd_pow→a55,sub_self→a56,mul_comm→a57,testBit_two_pow_mul_add→a58,two_pow_add_eq_or_of_lt→a59,div_eq_of_lt→a67,pow_succ→a68,div_div_eq_div_mul→a69,div_add_mod→a70,min_eq_left→a71,div_mul_le_self→a78,one_le_two_pow→a81,le_of_lt→a84,add_zero→a85,or_lt_two_pow→a88,add_mod_right→a90,mul_add→a91,mul_one→a92,lt_of_not_le→a95
open Option renaming map_eq_some_iff→a21,bind_eq_some_iff→a44
namespace Go.Ab
variable {L P R c d g ks l part r row t wm:List Int}{N a b i j m o v w:Nat}{k lag n warm x:Int}{zn:List Nat}
open IntKind(wrap)
section
variable {σ β:Type} {f:σ→Option (σ ⊕ β)}
theorem b4w:∀(n m:Nat)(s:σ){b:β},j0z f n s=some b→j0z f (n+m) s=some b
 |0,_,s,b,h=>by simp[j0z]at h
 |n+1,m,s,b,h=>by
  rw[show n+1+m=n+m+1 from by omega];simp only[j0z]at h⊢
  split at h
  cases h;rename_i s' g;exact b4w n m s' h;exact h
theorem c0S{n:Nat}{s:σ}{b b':β}(h:j0z f n s=some b)(k:j0z f m s=some b'):b=b':=by
 have a:=b4w n m s h;have g:=b4w m n s k;rw[Nat.add_comm,a]at g;exact Option.some.inj g
theorem d0O{n:Nat}{s:σ}{b:β}(h:j0z f n s=some b):v0v f s=some b:=by
 unfold v0v;have g:∃n b,j0z f n s=some b:=⟨n,b,h⟩;rw[dif_pos g];exact congrArg some (c0S g.choose_spec.choose_spec h)
theorem b9Q{n:Nat}{s:σ}{b:β}(h:j0z f n s=some b):y0s f s=some b:=by
 unfold y0s;split;rename_i g hb;rw[c0S hb h];exact d0O h
theorem c0T{s:σ}(h:∀n,j0z f n s=none):y0s f s=none:=by
 unfold y0s;rw[h 400];show v0v f s=none;unfold v0v;rw[dif_neg]
 rintro⟨n,b,g⟩
 rw[h n]at g;cases g
theorem a0E{s:σ}{b:β}(h:f s=some (.inr b)):y0s f s=some b:=b9Q (n:=1) (by simp[j0z,h])
theorem a0F{s s':σ}(h:f s=some (.inl s')):y0s f s=y0s f s':=by
 by_cases hx:∃n b,j0z f n s'=some b
 obtain⟨n,b,hb⟩:=hx;rw[b9Q hb];exact b9Q (n:=n+1) (by simp[j0z,h,hb])
 ·have g:∀n,j0z f n s'=none:=fun n=>by
   cases hn:j0z f n s' with
   |none=>rfl
   |some b=>exact absurd ⟨n,b,hn⟩ hx
  rw[c0T g];refine c0T fun n=>?_
  cases n with
  |zero=>rfl
  |succ n=>simp[j0z,h,g n]
theorem c6p(S:Nat→σ)(n:Nat){b:β}(g:∀i,i<n→f (S i)=some (.inl (S (i+1))))(h:f (S n)=some (.inr b)):∀(k:Nat),k≤n→y0s f (S (n-k))=some b
 |0,_=>a0E h
 |k+1,hk=>by
  rw[a0F (g (n-(k+1)) (by omega)),show n-(k+1)+1=n-k from by omega];exact c6p S n g h k (by omega)
theorem a0X(S:Nat→σ)(n:Nat){b:β}(g:∀i,i<n→f (S i)=some (.inl (S (i+1))))(h:f (S n)=some (.inr b)):y0s f (S 0)=some b:=by
 have:=c6p S n g h n (a27 _)
 rwa [a56]at this
end
theorem a0A{n:Int}(h:-9223372036854775808≤n∧n≤9223372036854775807):wrap .i64 n=n:=by
 simp only[wrap,IntKind.bits,IntKind.signed]
 simp
 split<;>omega
theorem a0K{n:Int}(h:0≤n∧n<18446744073709551616):wrap .u64 n=n:=by
 simp only[wrap,IntKind.bits,IntKind.signed]
 simp
 omega
theorem a5K(n:Int):wrap .u8 n=n%256:=by
 simp[wrap,IntKind.bits,IntKind.signed]
def leB:Nat→Nat→List Int
 |0,_=>[]
 |k+1,n=>((n%256:Nat):Int)::leB k (n / 256)
theorem a7c:∀k n,(leB k n).length=k
 |0,_=>rfl
 |k+1,n=>by simp[leB,a7c k]
theorem b2L:∀(k n:Nat),leB (k+1) n=leB k n++[((n / 256^k%256:Nat):Int)]
 |0,n=>by simp[leB]
 |k+1,n=>by
  rw[leB,b2L k (n / 256),leB,a69,a68,a57 (256^k)];rfl
theorem b1d(x y:Int):v0s x y=min x y:=by
 simp only[v0s,cond_eq_ite,dT]
 split<;>omega
theorem b2y(x y:Int):v0r x y=max x y:=by
 simp only[v0r,cond_eq_ite,dT]
 split<;>omega
theorem a0Q{n:Nat}(h:n<2147483648):lim n=true:=by simp[lim,h]
section
variable {α A σ β:Type}
def a2O(g:A→α→A ⊕ β):List α→A→A ⊕ β
 | [],a=>.inl a
 |x::r,a=>match g a x with
  |.inl a'=>a2O g r a'
  |.inr b=>.inr b
def a9f(fin:A→β):A ⊕ β→β
 |.inl a=>fin a
 |.inr b=>b
theorem b3U{f:σ→Option (σ ⊕ β)}(l:List α)(S:Nat→A→σ)(g:A→α→A ⊕ β)(I:Nat→A→Prop)(e:A→β)
  (d:∀i (h:i<l.length) a,I i a→(∀a',g a l[i]=.inl a'→f (S i a)=some (.inl (S (i+1) a'))∧I (i+1) a')∧(∀b,g a l[i]=.inr b→f (S i a)=some (.inr b)))
  (c:∀a,I l.length a→f (S l.length a)=some (.inr (e a))):∀(k i:Nat)(a:A),i+k=l.length→I i a→y0s f (S i a)=some (a9f e (a2O g (l.drop i) a))
 |0,i,a,hi,ha=>by
  obtain rfl:i=l.length:=by omega
  rw[a50];exact a0E (c a ha)
 |k+1,i,a,hi,ha=>by
  have j:i<l.length:=by omega
  rw[a02 j];obtain⟨m,n⟩:=d i j a ha;simp[a2O];cases hg:g a l[i]with
  |inl a'=>
   obtain⟨o,p⟩:=m a' hg;rw[a0F o];exact b3U l S g I e d c k (i+1) a' (by omega) p
  |inr b=>exact a0E (n b hg)
theorem a2a{f:σ→Option (σ ⊕ β)}(l:List α)(S:Nat→A→σ)(g:A→α→A ⊕ β)(I:Nat→A→Prop)(k:A→β)
  (d:∀i (h:i<l.length) a,I i a→(∀a',g a l[i]=.inl a'→f (S i a)=some (.inl (S (i+1) a'))∧I (i+1) a')∧(∀b,g a l[i]=.inr b→f (S i a)=some (.inr b)))
  (c:∀a,I l.length a→f (S l.length a)=some (.inr (k a))){a:A}(e:I 0 a):y0s f (S 0 a)=some (a9f k (a2O g l a)):=by
 have:=b3U l S g I k d c l.length 0 a (by omega) e
 simp_all
theorem a2E{f:σ→Option (σ ⊕ β)}(l:List α)(S:Nat→σ)(p:α→Bool){bt bf:β}
  (k:∀i (h:i<l.length),p l[i]=true→f (S i)=some (.inl (S (i+1))))(b:∀i (h:i<l.length),p l[i]=false→f (S i)=some (.inr bf))
  (g:f (S l.length)=some (.inr bt)):y0s f (S 0)=some (bif l.all p then bt else bf):=by
 have h:=a2a (A:=Unit) l (fun i _=>S i) (fun _ x=>bif p x then .inl ()else .inr bf) (fun _ _=>True) (fun _=>bt) (fun i h a _=>?_) (fun _ _=>g) (a:=()) trivial
 ·rw[h];congr 1;clear h k b g
  induction l with
  |nil=>rfl
  |cons x l ih=>
   simp[a2O];cases p x with
   |true=>simp_all
   |false=>rfl
 grind
end
theorem a0D{α:Type}{l:List α}{i:Nat}(h:i<l.length):m0k l (i:Int)=some l[i]:=by
 simp_all[m0k]
def a0B(x:Int):Bool:=decide (-1073741824≤x)&&decide (x<1073741824)
theorem a1P{x:Int}:a0B x=true↔-1073741824≤x∧x<1073741824:=by simp[a0B]
def short{α:Type}(l:List α):Prop:=l.length<1000000
theorem a0C{i:Nat}(h:i<1000000):wrap .i64 ((i:Int)+1)=((i+1:Nat):Int):=by
 grind[a0A]
theorem dlt{n:Nat}(h:i<n):decide ((i:Int)<(n:Int))=true:=by simp_all
theorem dge(n:Nat):decide ((n:Int)<(n:Int))=false:=by simp
theorem a4F{l:List Int}(a:short l):a2w l=some (l.all a0B):=by
 unfold a2w
 have:=a2E (f:=a2C) l (fun i=>(l,(l.length:Int),(i:Int),())) a0B (bt:=Sum.inl ()) (bf:=Sum.inr (false,()))
  (fun i h hp=>by
   have hp:=a1P.1 hp;have g:decide (l[i] < -1073741824)=false:=by simp_all
   have k:decide (l[i]≥1073741824)=false:=by simp_all
   simp only[a2C,dlt h,cT,a0D h,oB,g,k,cF,a0C (a18 h a)])
  (fun i h hp=>by
   simp only[a2C,dlt h,cT,a0D h,oB]
   grind[a0B])
  (by simp[a2C])
 grind
theorem a6x(x:Int):a5m x=some (a0B x):=by
 grind[a5m,a0B]
theorem a8l(x:Int):a7D x=some (a0B x):=by
 grind[a7D,a0B]
theorem a5o(x:Int):a6p x=some (a0B x):=by
 grind[a6p,a0B]
theorem b3V(x:Int):a5l x=some (a0B x):=by
 grind[a5l,a0B]
theorem a6i(g:short l):a2D l=some (l.all a0B):=by
 unfold a2D
 have:=a2E (f:=a3b) l (fun i=>(l,(l.length:Int),(i:Int),())) a0B (bt:=Sum.inl ()) (bf:=Sum.inr (false,()))
  (fun i h hp=>by simp[a3b,a0D h,a6x,hp,a0C (a18 h g),h])
  (fun i h hp=>by simp_all[a3b,a0D,a6x])
  (by simp[a3b])
 grind
theorem b3n(g:short l):a4w l=some (l.all a0B):=by
 unfold a4w
 have:=a2E (f:=a4d) l (fun i=>(l,(l.length:Int),(i:Int),())) a0B (bt:=Sum.inl ()) (bf:=Sum.inr (false,()))
  (fun i h hp=>by simp[a4d,a0D h,a8l,hp,a0C (a18 h g),h])
  (fun i h hp=>by simp_all[a4d,a0D,a8l])
  (by simp[a4d])
 grind
theorem b2M(g:short l):a5v l=some (l.all a0B):=by
 unfold a5v
 have:=a2E (f:=a3x) l (fun i=>(l,(l.length:Int),(i:Int),())) a0B (bt:=Sum.inl ()) (bf:=Sum.inr (false,()))
  (fun i h hp=>by simp[a3x,a0D h,a5o,hp,a0C (a18 h g),h])
  (fun i h hp=>by simp_all[a3x,a0D,a5o])
  (by simp[a3x])
 grind
theorem a7x(h:short l):a2M l=some (l.all a0B):=by
 have e:b3k=a2C:=rfl
 have:a2M l=a2w l:=by rfl
 simp_all[a4F]
def b8r(x:Int):Bool:=decide (-32768≤x)&&decide (x<32768)
def a9K(c:List Int)(s:Int):Bool:=decide (1≤c.length)&&(decide (c.length≤32)&&(decide (0≤s)&&(decide (s≤15)&&c.all b8r)))
theorem a9E{c:List Int}{s:Int}(a:short c):a4K (c,s)=some (a9K c s):=by
 have:=a2E (f:=a5t) c (fun i=>(c,(c.length:Int),(i:Int),())) b8r (bt:=Sum.inl ()) (bf:=Sum.inr (false,()))
  (fun i h hp=>by
   simp[b8r]at hp;have g:¬ c[i] < -32768:=by omega
   have k:¬ c[i]≥32768:=by omega
   simp[a5t,a0D h,a0C (a18 h a),h,g,k])
  (fun i h hp=>by
   grind[b8r,a5t,a0D])
  (by simp[a5t])
 simp at this;unfold a4K a9K
 grind
def b4x(x:Int):Bool:=decide (-64≤x)&&decide (x≤64)
def b1N(lag:Int)(t:List Int):Bool:=decide (2≤lag)&&(decide (lag≤1024)&&t.all b4x)
theorem b3I(g:t.length=3):a8z (lag,t)=some (b1N lag t):=by
 have:=a2E (f:=a7j) t (fun i=>(t,(i:Int),())) b4x (bt:=Sum.inl ()) (bf:=Sum.inr (false,()))
  (fun i h hp=>by
   simp[b4x]at hp
   grind[a7j,a0D,a0C])
  (fun i h hp=>by
   grind[b4x,a7j,a0D])
  (by simp_all[a7j])
 simp at this;unfold a8z b1N
 grind
def stageB(s:Int×(Int×Unit)):Bool:=decide (1≤s.1)&&(decide (s.1≤32)&&(decide (0≤s.2.1)&&decide (s.2.1≤8)))
def a9s(l:List (Int×Int×Unit)):Bool:=decide (l.length≤3)&&l.all stageB
theorem b1e(s:Int×(Int×Unit)):a7k s=some (stageB s):=by
 grind[a7k,stageB]
theorem b2N{l:List (Int×Int×Unit)}(g:short l):a7C l=some (a9s l):=by
 have:=a2E (f:=a6m) l (fun i=>(l,(l.length:Int),(i:Int),())) stageB (bt:=Sum.inl ()) (bf:=Sum.inr (false,()))
  (fun i h hp=>by simp[a6m,a0D h,b1e,hp,a0C (a18 h g),h])
  (fun i h hp=>by simp_all[a6m,a0D,b1e])
  (by simp[a6m])
 simp at this;unfold a7C a9s
 grind
@[reducible] def W(n:Int):Int:=wrap .i64 n
theorem a8m(n:Int):wrap .i64 n=Int.bmod n 18446744073709551616:=by
 grind[wrap,IntKind.bits,IntKind.signed]
theorem b5U{n:Int}(h:a0B n=true):W n=n:=by
 grind[a1P,a0A]
def a4m(guess:List Int→Int):List Int→List Int→Option (List Int)
 | [],out=>some out
 |x::r,out=>bif a0B (W (x+guess out))then a4m guess r (out++[W (x+guess out)])else none
def b3o{β:Type}(guess:List Int→Int)(bad:β)(out:List Int)(x:Int):List Int ⊕ β:=bif a0B (W (x+guess out))then .inl (out++[W (x+guess out)])else .inr bad
theorem b2p{β:Type}(h:List Int→Int)(g:β)(f:List Int→β):∀(l out:List Int),a9f f (a2O (b3o h g) l out)=match a4m h l out with|some r=>f r|none=>g
 | [],out=>rfl
 |x::l,out=>by
  simp[a2O,b3o,a4m];cases a0B (W (x+h out))with
  |true=>simp_all[b2p]
  |false=>rfl
theorem b2q(g:List Int→Int):∀(l out r:List Int),out.all a0B=true→a4m g l out=some r→r.all a0B=true∧r.length=out.length+l.length
 | [],out,r,h,e=>by simp_all[a4m]
 |x::l,out,r,h,e=>by
  simp[a4m]at e;cases hw:a0B (W (x+g out))with
  |true=>
   rw[hw]at e;obtain⟨f,k⟩:=b2q g l _ r (by simp_all) e
   grind
  |false=>simp_all
def a5i:Option (List Int)→List Int×Int
 |some r=>(r,0)
 |none=>([],6)
def atB(out:List Int)(i:Nat):Int:=out.getD (out.length-i) 0
def a6y(o:Nat)(out:List Int):Int:=match o with
 | 1=>atB out 1
 | 2=>2*atB out 1-atB out 2
 | 3=>3*atB out 1-3*atB out 2+atB out 3
 | 4=>4*atB out 1-6*atB out 2+4*atB out 3-atB out 4
 |_=>0
theorem b2r{out:List Int}(hi:1≤i)(h:i≤out.length)(g:short out):a1i ((i:Int),out)=some (atB out i,out):=by
 unfold a1i;have g:out.length<1000000:=g
 grind[a0A,a0D,atB]
theorem b9R{out:List Int}(e:o≤4)(h:o≤out.length)(a:short out):∃g,a9z (out,(o:Int))=some g∧∀x,W (x+g)=W (x+a6y o out):=by
 have f:=fun(h':1≤out.length)=>b2r (i:=1) (by omega) h' a;have k:=fun(h':2≤out.length)=>b2r (i:=2) (by omega) h' a;have b:=fun(h':3≤out.length)=>b2r (i:=3) (by omega) h' a;have c:=fun(h':4≤out.length)=>b2r (i:=4) (by omega) h' a;simp at f k b c;unfold a9z;have d:o=0∨o=1∨o=2∨o=3∨o=4:=by omega
 rcases d with rfl|rfl|rfl|rfl|rfl;exact⟨0,rfl,fun x=>rfl⟩;exact⟨_,by simp[f (by omega)];rfl,fun x=>rfl⟩;refine⟨_,by simp[f (by omega),k (by omega)];rfl,fun x=>?_⟩;simp_all[a8m,a6y];refine⟨_,by simp[f (by omega),k (by omega),b (by omega)];rfl,fun x=>?_⟩;simp_all[a8m,a6y];refine⟨_,by simp[f (by omega),k (by omega),b (by omega),c (by omega)];rfl,fun x=>?_⟩;simp_all[a8m,a6y]
theorem a0T{n:Nat}(h:n<1000000):lim n=true:=a0Q (by omega)
theorem c2k{warm rest:List Int}(u:o≤4)(x:warm.length=o)(w:rest.length<100000):
  b0B (warm,rest,(o:Int))=some (a5i (bif warm.all a0B&&rest.all a0B then a4m (a6y o) rest warm else none)):=by
 have c:short warm:=by unfold short;omega
 have m:short rest:=by unfold short;omega
 unfold b0B;have p:¬ (o:Int)<0:=by omega
 have q:¬ (o:Int) > 4:=by omega
 have r:(((warm.length:Nat):Int) != (o:Int))=false:=by simp_all
 simp only[p,q,r,decide_false,cF,oB,a7x c,a7x m];cases hw1:warm.all a0B with
 |false=>rfl
 |true=>
  simp only[bT,cF,oB,a43];cases hw2:rest.all a0B with
  |false=>rfl
  |true=>
   simp[a0T c]
   have:=a2a (f:=a7V) rest (fun i out=>((o:Int),rest,(rest.length:Int),(i:Int),out,())) (b3o (a6y o) (Sum.inr ((6:Int),([]:List Int),())))
    (fun i out=>o≤out.length∧out.length≤o+i) (fun out=>Sum.inl (out,()))
    (fun i h out s=>by
     have j:i<1000000:=by omega
     have l:short out:=by unfold short;omega
     obtain⟨g,t,d⟩:=b9R u s.1 l;have e:wrap .i64 (rest[i]+g)=W (rest[i]+a6y o out):=d _;have k:a2M [W (rest[i]+a6y o out)]=some (a0B (W (rest[i]+a6y o out))):=by rw[a7x (by simp[short])];simp
     simp only[a7V,dlt h,cT,a0D h,oB,t,e,k,b3o];cases hb:a0B (W (rest[i]+a6y o out))with
     |true=>
      simp only[cT,bT,cF,a0T (show out.length+1<1000000 by omega),a0C j];refine⟨fun v n=>?_,fun b hb=>(by grind)⟩;simp at n;subst n;exact⟨rfl,by grind,by grind⟩
     |false=>
      simp)
    (fun out _=>by simp[a7V]) (a:=warm) ⟨by omega,by omega⟩
   simp[b2p]at this;rw[this];cases a4m (a6y o) rest warm<;>rfl
def c3p(out:List Int):List Int→Nat→Int→Int
 | [],_,acc=>acc
 |c::r,i,acc=>bif decide (i<out.length)then c3p out r (i+1) (W (acc+W (c*atB out (i+1))))else acc
def b1f(c:List Int)(s:Int)(out:List Int):Int:=A0o .i64 (c3p out c 0 0) s
theorem d4o{out:List Int}(h:i<out.length)(g:short out):m0k out (wrap .i64 (wrap .i64 (((out.length:Nat):Int)-1)-(i:Int)))=some (atB out (i+1)):=by
 have g:out.length<1000000:=g
 grind[a0A,a0D,atB]
theorem b5V{out c:List Int}{s:Int}(f:short out)(a:short c):∀(k i:Nat)(acc:Int),i+k=c.length→
  y0s a3c (out,s,acc,c,(c.length:Int),(i:Int),())=some (s,c3p out (c.drop i) i acc,())
 |0,i,acc,h=>by
  obtain rfl:i=c.length:=by omega
  simp_all[a0E,a3c,c3p]
 |k+1,i,acc,h=>by
  have g:i<c.length:=by omega
  have d:out.length<1000000:=f;have b:c.length<1000000:=a;rw[a02 g,c3p];have e:wrap .i64 (((out.length:Nat):Int)-1)=((out.length:Nat):Int)-1:=a0A (by omega);have j:wrap .i64 (((out.length:Nat):Int)-1-(i:Int))=((out.length:Nat):Int)-1-(i:Int):=a0A (by omega)
  by_cases hi:i<out.length
  have hd:decide (wrap .i64 (wrap .i64 (((out.length:Nat):Int)-1)-(i:Int))<0)=false:=by grind
  simp[hi];rw[a0F (s':=(out,s,W (acc+W (c[i]*atB out (i+1))),c,(c.length:Int),((i+1:Nat):Int),())) (by
   simp only[a3c,dlt g,cT,a0D g,oB,hd,cF,d4o hi f,a0C (show i<1000000 by omega)])]
  exact b5V f a k (i+1) _ (by omega);have hd:decide (wrap .i64 (wrap .i64 (((out.length:Nat):Int)-1)-(i:Int))<0)=true:=by grind
  simp[hi];simp_all[a0E,a3c,a0D]
theorem b4y{out:List Int}{s:Int}(g:short out)(h:short c)(f:0≤s):a4N (out,c,s)=some (b1f c s out):=by
 have:=b5V (s:=s) g h c.length 0 0 (by omega)
 grind[a4N,b1f]
def b2O(warm rest c:List Int)(s:Int):Option (List Int):=bif warm.all a0B&&rest.all a0B then a4m (b1f c s) rest warm else none
theorem b3W{warm rest:List Int}{s:Int}(o:a9K c s=true)(w:warm.length=c.length)(v:rest.length<100000):
  a7n (warm,rest,c,s)=some (a5i (b2O warm rest c s)):=by
 have g:=o;simp only[a9K,bA,dT]at g;have k:short c:=by unfold short;omega
 have m:short warm:=by unfold short;omega
 have l:short rest:=by unfold short;omega
 unfold a7n;have q:(((warm.length:Nat):Int) != ((c.length:Nat):Int))=false:=by simp_all
 simp only[a9E k,o,oB,bT,cF,q,a6i m,a6i l,b2O];cases hw1:warm.all a0B with
 |false=>rfl
 |true=>
  simp only[bT,cF,oB,a43];cases hw2:rest.all a0B with
  |false=>rfl
  |true=>
   have p:wrap .i64 (((warm.length:Nat):Int)+((rest.length:Nat):Int))=((warm.length+rest.length:Nat):Int):=by grind[a0A]
   have r:(0:Int)≤((warm.length+rest.length:Nat):Int):=by omega
   simp only[bT,cF,cT,p,r,decide_true,tN,a0T (show warm.length+rest.length<1000000 by omega),a0T (show 0+warm.length<1000000 by omega),a03,a06,a09]
   have:=a2a (f:=a6S) rest (fun i out=>(c,s,rest,(rest.length:Int),(i:Int),out,())) (b3o (b1f c s) (Sum.inr ((6:Int),([]:List Int),())))
    (fun i out=>out.length≤warm.length+i) (fun out=>Sum.inl (out,()))
    (fun i h out u=>by
     have d:i<1000000:=by omega
     have j:short out:=by unfold short;omega
     have e:wrap .i64 (b1f c s out+rest[i])=W (rest[i]+b1f c s out):=by grind
     simp only[a6S,dlt h,cT,a0D h,oB,b4y j k g.2.2.1,e,a6x,b3o];cases hb:a0B (W (rest[i]+b1f c s out))with
     |true=>
      simp only[cT,bT,cF,a0T (show out.length+1<1000000 by omega),a0C d];refine⟨fun t n=>?_,fun b hb=>(by grind)⟩;simp at n;subst n;exact⟨rfl,by grind⟩
     |false=>
      simp)
    (fun out _=>by simp[a6S]) (a:=warm) (by omega)
   simp[b2p]at this;rw[this];cases a4m (b1f c s) rest warm<;>rfl
def c3q(out:List Int)(lag:Int):List Int→Nat→Int→Int
 | [],_,acc=>acc
 |t::r,i,acc=>c3q out lag r (i+1) (bif decide (0≤(out.length:Int)-lag-1+i)then W (acc+W (t*out.getD ((out.length:Int)-lag-1+i).toNat 0))else acc)
def a9F(lag:Int)(t:List Int)(out:List Int):Int:=A0o .i64 (c3q out lag t 0 0) 6
theorem c3r{out:List Int}{j:Int}(g:0≤j)(h:j<out.length):m0k out j=some (out.getD j.toNat 0):=by
 obtain⟨n,rfl⟩:=a01 g;simp_all[a0D]
theorem d2Z{n:Nat}(h:2≤lag)(g:lag≤1024)(f:n<1000000)(hi:i<3):
  wrap .i64 (wrap .i64 (wrap .i64 ((n:Int)-lag)-1)+(i:Int))=(n:Int)-lag-1+i:=by
 grind[a0A]
theorem c8T{n:Nat}(h:j<n):(l.take n).getD j 0=l.getD j 0:=by
 simp_all
theorem a9g{l t:List Int}{lag:Int}{n:Nat}(j:n≤l.length)(d:short l)(m:t.length=3)(a:2≤lag)(b:lag≤1024):∀(k i:Nat)(acc:Int),i+k=3→
  y0s a4e (l,(n:Int),lag,acc,t,(i:Int),())=some (c3q (l.take n) lag (t.drop i) i acc,())
 |0,i,acc,h=>by
  obtain rfl:i=t.length:=by omega
  grind[a0E,a4e,c3q]
 |k+1,i,acc,h=>by
  have g:i<t.length:=by omega
  have f:decide ((i:Int)<3)=true:=by grind
  have o:l.length<1000000:=d;have c:(l.take n).length=n:=by simp_all
  have e:=d2Z (n:=n) (i:=i) a b (by omega) (by omega);rw[a02 g,c3q,c]
  by_cases hp:0≤(n:Int)-lag-1+i
  have hd:decide ((n:Int)-lag-1+i≥0)=true:=by simp_all
  simp only[hp,decide_true,cT];rw[c8T (show((n:Int)-lag-1+i).toNat<n by omega),a0F (s':=(l,(n:Int),lag,W (acc+W (t[i]*l.getD ((n:Int)-lag-1+i).toNat 0)),t,((i+1:Nat):Int),())) (by
   simp only[a4e,f,cT,a0D g,oB,e,hd,c3r hp (show(n:Int)-lag-1+(i:Int)<(l.length:Int)by omega),a0C (show i<1000000 by omega)])]
  exact a9g j d m a b k (i+1) _ (by omega);have hd:decide ((n:Int)-lag-1+i≥0)=false:=by simp_all
  simp[hp];rw[a0F (s':=(l,(n:Int),lag,acc,t,((i+1:Nat):Int),())) (by
   simp only[a4e,f,cT,a0D g,oB,e,hd,cF,a0C (show i<1000000 by omega)])]
  exact a9g j d m a b k (i+1) _ (by omega)
theorem b3p{l t:List Int}{lag:Int}{n:Nat}(f:n≤l.length)(k:short l)(a:t.length=3)(h:2≤lag)(g:lag≤1024):
  a4x (l,(n:Int),lag,t)=some (a9F lag t (l.take n)):=by
 have:=a9g (t:=t) f k a h g 3 0 0 (by rfl)
 simp_all[a4x,a9F]
theorem b8s{out:List Int}(f:short out)(k:t.length=3)(h:2≤lag)(g:lag≤1024):a4x (out,(out.length:Int),lag,t)=some (a9F lag t out):=by
 simp_all[b3p]
def b3q(rest:List Int)(lag:Int)(t:List Int):Option (List Int):=bif rest.all a0B then a4m (a9F lag t) rest []else none
theorem c3s{rest:List Int}(d:b1N lag t=true)(e:t.length=3)(m:rest.length<100000):b1B (rest,lag,t)=some (a5i (b3q rest lag t)):=by
 have g:=d;simp only[b1N,bA,dT]at g;have k:short rest:=by unfold short;omega
 unfold b1B;simp only[b3I e,d,oB,bT,cF,b3n k,b3q];cases hw2:rest.all a0B with
 |false=>rfl
 |true=>
  have l:(0:Int)≤((rest.length:Nat):Int):=by omega
  simp[a0T k]
  have:=a2a (f:=a8C) rest (fun i out=>(lag,rest,(rest.length:Int),(i:Int),out,t,())) (b3o (a9F lag t) (Sum.inr ((6:Int),([]:List Int),())))
   (fun i out=>out.length=i) (fun out=>Sum.inl (out,()))
   (fun i h out j=>by
    have b:i<1000000:=by omega
    have c:short out:=by unfold short;omega
    have hp:=b8s (out:=out) (t:=t) (lag:=lag) c e g.1 g.2.1;rw[j]at hp;simp only[a8C,dlt h,cT,a0D h,oB,hp,a8l,b3o];cases hb:a0B (W (rest[i]+a9F lag t out))with
    |true=>
     simp only[cT,bT,cF,a0T (show out.length+1<1000000 by omega),a0C b];simp_all
    |false=>
     simp)
   (fun out _=>by simp[a8C]) (a:=[]) rfl
  simp[b2p]at this;rw[this];cases a4m (a9F lag t) rest []<;>rfl
def b8t{β:Type}(n:Int)(bad:β)(out:List Int)(x:Int):List Int ⊕ β:=bif a0B x&&a0B (A0n .i64 x n)then .inl (out++[A0n .i64 x n])else .inr bad
def upO(n:Int)(l:List Int):Option (List Int):=bif l.all (fun x=>a0B x&&a0B (A0n .i64 x n))then some (l.map fun x=>A0n .i64 x n)else none
theorem b6T{β:Type}(n:Int)(h:β)(g:List Int→β):∀(l out:List Int),a9f g (a2O (b8t n h) l out)=match upO n l with|some r=>g (out++r)|none=>h
 | [],out=>by simp[a2O,a9f,upO]
 |x::l,out=>by
  simp only[a2O,b8t,upO,a07];cases hx:(a0B x&&a0B (A0n .i64 x n))with
  |true=>
   simp only[cT,a43];rw[b6T n h g l _];simp only[upO];cases l.all (fun x=>a0B x&&a0B (A0n .i64 x n))with
   |true=>simp
   |false=>rfl
  |false=>rfl
theorem c3t(d:0≤n)(e:n≤30)(m:l.length<100000):a9o (l,n)=some (a5i (upO n l)):=by
 have c:short l:=by unfold short;omega
 have g:¬ n<0:=by omega
 have b:¬ n > 30:=by omega
 unfold a9o;simp[g,b]
 have:=a2a (f:=a8D) l (fun i out=>(n,l,(l.length:Int),(i:Int),out,())) (b8t n (Sum.inr ((6:Int),([]:List Int),())))
  (fun i out=>out.length=i) (fun out=>Sum.inl (out,()))
  (fun i h out j=>by
   have k:i<1000000:=by omega
   simp only[a8D,dlt h,cT,a0D h,oB,b3V,b8t,g,decide_false,cF];cases hb:a0B l[i]with
   |true=>
    cases hb2:a0B (A0n .i64 l[i] n)with
    |true=>
     simp only[cT,bT,cF,oB,g,decide_false,a0T (show out.length+1<1000000 by omega),a0C k,a03];simp_all
    |false=>
     simp
   |false=>
    simp)
  (fun out _=>by simp[a8D]) (a:=[]) rfl
 simp[b6T]at this;rw[this];cases upO n l<;>rfl
@[reducible] def Fil:Type:=Int×((List Int)×((List Int)×Unit))
def a2v(x:Int):Int:=v0s (v0r x (-1073741824)) 1073741823
def b8u(x:Int):Int:=v0s (v0r x (-1048576)) 1048576
theorem c3u(x:Int):-1048576≤b8u x∧b8u x≤1048576:=by
 grind[b8u,b1d,b2y]
def c7D:List Int→List Int→Int→Int
 |a::w,b::h,acc=>c7D w h (W (acc+W (a*b)))
 |_,_,acc=>acc
def a1g(f:Fil):Int:=a2v (A0o .i64 (c7D f.2.1 f.2.2.1 0) 16)
structure FilOk (f:Fil):Prop where
 len:f.2.1.length=f.2.2.1.length
 pos:1≤f.2.1.length
 most:f.2.1.length≤32
 rate:0≤f.1∧f.1≤8
 small:∀x∈f.2.1,-1048576≤x∧x≤1048576
theorem b7C(h:i<l.length):a87 l i 0=l[i]:=by
 simp_all
theorem b2P{f:Fil}(hf:FilOk f):∀(k i:Nat)(acc:Int),i+k=f.2.1.length→
  y0s a2Y (acc,(f.2.1.length:Int),(i:Int),f,())=some (c7D (f.2.1.drop i) (f.2.2.1.drop i) acc,f,())
 |0,i,acc,h=>by
  obtain rfl:i=f.2.1.length:=by omega
  rw[a50,a0E (b:=(acc,f,())) (by simp[a2Y])];rfl
 |k+1,i,acc,h=>by
  have g:i<f.2.1.length:=by omega
  have a:i<f.2.2.1.length:=by rw[←hf.len];omega
  have d:=hf.most;rw[a02 g,a02 a,c7D];have c:decide ((0:Int)≤(i:Int))=true:=by simp
  rw[a0F (s':=(W (acc+W (f.2.1[i]*f.2.2.1[i])),(f.2.1.length:Int),((i+1:Nat):Int),f,())) (by
   simp only[a2Y,dlt g,dlt a,c,cT,a03,tN,b7C g,b7C a,a0C (show i<1000000 by omega)])]
  exact b2P hf k (i+1) _ (by omega)
theorem a6z{f:Fil}(hf:FilOk f):a2c f=some (a1g f,f):=by
 have:=b2P hf f.2.1.length 0 0 (by omega)
 simp at this;unfold a2c;simp only[this,oB,a5w];rfl
def b6u(x:Int):Int:=if 0<x then 1 else if x<0 then -1 else 0
def b1O(r:Int)(x g:Int):Int:=b6u (x-g)*2^r.toNat
def b4z(st:Int)(w h:Int):Int:=b8u (W (w+b6u h*st))
def b2t(f:Fil)(x:Int):Fil:=
 (f.1,a31 (b4z (b1O f.1 (a2v x) (a1g f))) f.2.1 f.2.2.1,a2v x::f.2.2.1.take (f.2.2.1.length-1),f.2.2.2)
theorem c3v{f:Fil}(hf:FilOk f)(x:Int):FilOk (b2t f x):=by
 obtain⟨k,a,b,g,c⟩:=hf;have e:(a31 (b4z (b1O f.1 (a2v x) (a1g f))) f.2.1 f.2.2.1).length=f.2.1.length:=by simp_all
 refine⟨?_,?_,?_,g,?_⟩;show(a31 _ _ _).length=(a2v x::f.2.2.1.take (f.2.2.1.length-1)).length;simp_all;show 1≤(a31 _ _ _).length;omega;show(a31 _ _ _).length≤32;omega;intro y h;have h:y∈a31 (b4z (b1O f.1 (a2v x) (a1g f))) f.2.1 f.2.2.1:=h;obtain⟨i,hi,rfl⟩:=List.mem_iff_getElem.1 h
 simp
 exact c3u _
theorem b3J(x:Int):(0<x∧b6u x=1)∨(x<0∧b6u x=-1)∨(x=0∧b6u x=0):=by
 unfold b6u;omega
theorem b7D{r:Int}(h:0≤r∧r≤8):(2:Int)^r.toNat≤256∧1≤(2:Int)^r.toNat:=by
 have:r.toNat=0∨r.toNat=1∨r.toNat=2∨r.toNat=3∨r.toNat=4∨r.toNat=5∨r.toNat=6∨r.toNat=7∨r.toNat=8:=by omega
 rcases this with e|e|e|e|e|e|e|e|e<;>rw[e]<;>decide
theorem c8U{r:Int}(h:0≤r∧r≤8)(g:-1≤x∧x≤1):A0n .i64 x r=x*2^r.toNat:=by
 have hp:=b7D h;have hb:min r.toNat 64=r.toNat:=by omega
 unfold A0n;show wrap .i64 (x*2^(min r.toNat 64))=_;rw[hb]
 have:x=-1∨x=0∨x=1:=by omega
 rcases this with rfl|rfl|rfl
 all_goals grind[a0A]
theorem c2l{f:Fil}(hf:FilOk f)(x:Int):
  (bif decide (a2v x > a1g f)then bif decide (f.1<0)then(none:Option (Int×Int×Fil×Unit))else some (a2v x,A0n .i64 (1:Int) f.1,f,())
   else bif decide (a2v x<a1g f)then bif decide (f.1<0)then none else some (a2v x,wrap .i64 (0-(A0n .i64 (1:Int) f.1)),f,())
   else some (a2v x,(0:Int),f,()))=some (a2v x,b1O f.1 (a2v x) (a1g f),f,()):=by
 have c:¬ f.1<0:=by have:=hf.rate;omega
 have hp:=b7D hf.rate;have a:=c8U hf.rate (x:=1) (by omega);rw[Int.one_mul]at a;rcases b3J (a2v x-a1g f)with⟨b,h⟩|⟨b,h⟩|⟨b,h⟩;have g:a2v x > a1g f:=by omega
 simp only[g,c,decide_true,decide_false,cT,cF,b1O,h,Int.one_mul,a];have g:¬ a2v x > a1g f:=by omega
 have k:a2v x<a1g f:=by omega
 simp only[g,k,c,decide_true,decide_false,cT,cF,b1O,h,a]
 grind[a0A]
 have g:¬ a2v x > a1g f:=by omega
 have k:¬ a2v x<a1g f:=by omega
 simp only[g,k,decide_false,cF,b1O,h,Int.zero_mul]
theorem d0P{z:List Int}(hi:i<l.length)(f:z.length=l.length):(z.take i++l.drop i).set i (z[i]'(by omega))=z.take (i+1)++l.drop (i+1):=by
 have h:(z.take i).length=i:=by grind
 have g:z.take (i+1)=z.take i++[z[i]'(by omega)]:=by simp
 rw[a73 _ _ (by omega),h,a56,a02 hi,a60,g,aA];rfl
theorem d0Q{z:List Int}(hi:i<l.length)(h:z.length=l.length):a87 (z.take i++l.drop i) i 0=l[i]:=by
 grind
theorem c8V{f:Fil}(hf:FilOk f)(h:i<f.2.1.length):-1048576≤f.2.1[i]∧f.2.1[i]≤1048576:=hf.small _ (a05 h)
theorem b8v{f:Fil}(hf:FilOk f){x1 st:Int}(s:-256≤st∧st≤256):
  y0s a2u (x1,st,(f.2.2.1.length:Int),(0:Int),f,())=some (x1,(f.1,a31 (b4z st) f.2.1 f.2.2.1,f.2.2),()):=by
 obtain⟨z,u⟩:∃z,a31 (b4z st) f.2.1 f.2.2.1=z:=⟨_,rfl⟩;have o:=hf.len;have d:z.length=f.2.1.length:=by grind
 have t:=hf.most
 have:=a0X (f:=a2u) (fun i=>(x1,st,(f.2.2.1.length:Int),(i:Int),(f.1,z.take i++f.2.1.drop i,f.2.2),()))
  f.2.2.1.length (b:=(x1,(f.1,z,f.2.2),())) (fun i hi=>by
   have k:i<f.2.1.length:=by omega
   have j:decide ((0:Int)≤(i:Int))=true:=by simp
   have q:(z.take i++f.2.1.drop i).length=f.2.1.length:=by grind
   have g:decide ((i:Int)<((z.take i++f.2.1.drop i).length:Int))=true:=by simp_all
   have n:z[i]'(by omega)=b4z st f.2.1[i] f.2.2.1[i]:=by grind
   have r:=c8V hf k;have h:=d0P k d;rw[n]at h;simp only[a2u,dlt hi,j,g,cT,a03,tN,b7C hi,d0Q k d];rcases b3J f.2.2.1[i]with⟨m,a⟩|⟨m,a⟩|⟨m,a⟩;have c:f.2.2.1[i] > 0:=m;simp[b4z,a]at h;simp only[c,decide_true,cT,oB,j,g,a03,tN,a0C (show i<1000000 by omega)];exact congrArg (fun l=>some (Sum.inl (x1,st,(f.2.2.1.length:Int),((i+1:Nat):Int),(f.1,l,f.2.2),()))) h;have c:¬ f.2.2.1[i] > 0:=by omega
   have e:f.2.1[i]+-1*st=f.2.1[i]-st:=by omega
   simp only[b4z,a,e]at h;simp only[c,m,decide_true,decide_false,cT,cF,oB,j,g,a03,tN,a0C (show i<1000000 by omega)];exact congrArg (fun l=>some (Sum.inl (x1,st,(f.2.2.1.length:Int),((i+1:Nat):Int),(f.1,l,f.2.2),()))) h;have c:¬ f.2.2.1[i] > 0:=by omega
   have p:¬ f.2.2.1[i]<0:=by omega
   have e:W (f.2.1[i]+0*st)=f.2.1[i]:=by rw[Int.zero_mul,Int.add_zero];exact a0A (by omega)
   simp only[b4z,a,e]at h;simp only[c,p,decide_false,cF,oB,j,g,cT,a03,tN,a0C (show i<1000000 by omega)];exact congrArg (fun l=>some (Sum.inl (x1,st,(f.2.2.1.length:Int),((i+1:Nat):Int),(f.1,l,f.2.2),()))) h)
  (by
   simp_all[a48,a2u])
 simp_all
theorem c5E{f:Fil}(hf:FilOk f)(x g:Int):-256≤b1O f.1 x g∧b1O f.1 x g≤256:=by
 have hp:=b7D hf.rate;unfold b1O;rcases b3J (x-g)with⟨-,h⟩|⟨-,h⟩|⟨-,h⟩<;>rw[h]<;>omega
theorem b5n{f:Fil}(hf:FilOk f)(x:Int):a3d (f,x)=some (b2t f x):=by
 unfold a3d;have c:=c2l hf x;simp only[a5w,oB,a6z hf];have h:(bif decide (v0s (v0r x (-1073741824)) 1073741823 > a1g f)then bif decide (f.1<0)then(none:Option (Int×Int×Fil×Unit))else some (v0s (v0r x (-1073741824)) 1073741823,A0n .i64 (1:Int) f.1,f,())
   else bif decide (v0s (v0r x (-1073741824)) 1073741823<a1g f)then bif decide (f.1<0)then none else some (v0s (v0r x (-1073741824)) 1073741823,wrap .i64 (0-(A0n .i64 (1:Int) f.1)),f,())
   else some (v0s (v0r x (-1073741824)) 1073741823,(0:Int),f,()))=_:=c
 rw[h];simp only[oB,b8v hf (c5E hf _ _)];have d:f.2.2.1.length≥1:=by have:=hf.pos;have:=hf.len;omega
 have k:decide ((1:Int)≤((f.2.2.1.length:Nat):Int))=true:=by grind
 have e:p0h f.2.2.1 1 (f.2.2.1.length-1) f.2.2.1=f.2.2.1.take 1++f.2.2.1.take (f.2.2.1.length-1):=by
  simp_all[p0h]
 have i:(f.2.2.1.take 1++f.2.2.1.take (f.2.2.1.length-1)).length=f.2.2.1.length:=by simp_all
 have b:decide ((0:Int)<(((f.2.2.1.take 1++f.2.2.1.take (f.2.2.1.length-1)).length:Nat):Int))=true:=by grind
 simp only[k,cT,e,b];congr 1;have g:(f.2.2.1.take 1++f.2.2.1.take (f.2.2.1.length-1)).set 0 (a2v x)=a2v x::f.2.2.1.take (f.2.2.1.length-1):=by
  cases hc:f.2.2.1 with
  |nil=>simp_all
  |cons a l=>simp
 rw[g];rfl
@[reducible] def Stg:Type:=Int×(Int×Unit)
variable {st:List Stg}
theorem a8n{l:List Int}(h:short l):a1e l=some l:=by
 have g:lim (0+l.length)=true:=a0T (by unfold short at h;omega);simp_all[a1e,x0e]
def b1g(s:Stg):Fil:=(s.2.1,a00 s.1.toNat 0,a00 s.1.toNat 0,())
theorem c6q{s:Stg}(h:stageB s=true):FilOk (b1g s):=by
 simp[stageB]at h;refine⟨by rfl,by simp[b1g];omega,by simp[b1g];omega,⟨h.2.2.1,h.2.2.2⟩,fun x g=>?_⟩;simp_all[b1g]
theorem b2Q{s:Stg}(h:stageB s=true):a9l s=some (b1g s,0):=by
 have g:=h;simp[stageB]at g;unfold a9l;have f:decide ((0:Int)≤s.1)=true:=by grind
 have k:decide (s.1≤s.1)=true:=by simp
 have a:lim s.1.toNat=true:=a0T (by omega);simp only[b1e,h,oB,bT,cF,f,k,a,a03,cT];rfl
def stO:List Int→List Int→Fil→Option (List Int)
 | [],done,_=>some done
 |r::rs,done,f=>bif a0B (W (a1g f+r))then stO rs (done++[W (a1g f+r)]) (b2t f (W (a1g f+r)))else none
theorem b4A:∀(l done:List Int)(f:Fil){r},stO l done f=some r→r.length=done.length+l.length
 | [],done,f,r,h=>by simp_all[stO]
 |x::l,done,f,r,h=>by
  simp[stO]at h;cases hw:a0B (W (a1g f+x))with
  |true=>rw[hw]at h;rw[b4A l _ _ h];grind
  |false=>simp_all
theorem b3r{done:List Int}(hd:done.length=i)(h:i<row.length):a87 (done++row.drop i) i 0=row[i]:=by
 grind
theorem c3w{done:List Int}(hd:done.length=i)(h:i<row.length)(y:Int):(done++row.drop i).set i y=(done++[y])++row.drop (i+1):=by
 rw[a73 _ _ (by omega),hd,a56,a02 h,a60,aA];rfl
theorem b3s{row b4:List Int}{b5:Int}(d:short row):∀(k i:Nat)(done:List Int)(f:Fil),i+k=row.length→done.length=i→FilOk f→
  ∃z,y0s a5z ((row.length:Int),(i:Int),b4,b5,done++row.drop i,f,())=some z∧
   match stO (row.drop i) done f with
   |some r=>z=.inl (b4,b5,r,())
   |none=>∃q,z=.inr (([]:List Int),(6:Int),q,())
 |0,i,done,f,h,hd,hf=>by
  obtain rfl:i=row.length:=by omega
  rw[a50,a39];exact⟨_,a0E (b:=Sum.inl (b4,b5,done,())) (by simp[a5z]),rfl⟩
 |k+1,i,done,f,h,hd,hf=>by
  have hi:i<row.length:=by omega
  have e:row.length<1000000:=d;have a:decide ((0:Int)≤(i:Int))=true:=by simp
  have j:(done++row.drop i).length=row.length:=by grind
  have c:decide ((i:Int)<(((done++row.drop i).length:Nat):Int))=true:=by simp_all
  have g:stO (row.drop i) done f=bif a0B (W (a1g f+row[i]))then stO (row.drop (i+1)) (done++[W (a1g f+row[i])]) (b2t f (W (a1g f+row[i])))else none:=by
   rw[a02 hi];rfl
  rw[g];cases hw:a0B (W (a1g f+row[i]))with
  |true=>
   rw[a0F (s':=((row.length:Int),((i+1:Nat):Int),b4,b5,(done++[W (a1g f+row[i])])++row.drop (i+1),b2t f (W (a1g f+row[i])),())) (by
    simp only[a5z,dlt hi,a,c,cT,a03,a6z hf,oB,tN,b3r hd hi,a5o,hw,bT,cF,b5n hf,c3w hd hi,a0C (show i<1000000 by omega)])]
   exact b3s d k (i+1) _ _ (by omega) (by simp_all) (c3v hf _)
  |false=>
   exact⟨_,a0E (b:=Sum.inr (([]:List Int),(6:Int),done++row.drop i,())) (by
    simp only[a5z,dlt hi,a,c,cT,a03,a6z hf,oB,tN,b3r hd hi,a5o,hw,a36]),_,rfl⟩
def lO:List Stg→List Int→Option (List Int)
 | [],row=>some row
 |s::r,row=>match stO row [] (b1g s)with
  |some row'=>lO r row'
  |none=>none
theorem c5F{s:Stg}{b4:List Int}(h:stageB s=true)(b:short row):
  ∃z,a7W k s (st,b4,(0:Int),row,())=some z∧match stO row [] (b1g s)with
   |some r=>z=.inl (st,b4,(0:Int),r,())
   |none=>∃q,z=.inr (.ret,st,([]:List Int),(6:Int),q,()):=by
 obtain⟨z,g,f⟩:=b3s (b4:=b4) (b5:=0) b row.length 0 [] (b1g s) (by omega) rfl (c6q h);simp at g f;unfold a7W;have a:((0:Int) != 0)=false:=rfl;simp[b2Q h,g];cases hst:stO row [] (b1g s)with
 |some r=>
  simp_all
 |none=>
  grind
theorem b6U{st l:List Stg}{b4:List Int}(f:∀s∈l,stageB s=true):∀(n:Nat)(row:List Int),n≤l.length→short row→
  ∃z,l0f a7W l n (st,b4,(0:Int),row,())=some z∧match lO (l.take n).reverse row with
   |some r=>z=.inl (st,b4,(0:Int),r,())
   |none=>∃q,z=.inr (.ret,st,([]:List Int),(6:Int),q,())
 |0,row,_,_=>⟨_,rfl,rfl⟩
 |n+1,row,hn,hs=>by
  have h:n<l.length:=by omega
  obtain⟨z,a,g⟩:=c5F (st:=st) (k:=(n:Int)) (b4:=b4) (f _ (a05 h)) hs;have b:(l.take (n+1)).reverse=l[n]::(l.take n).reverse:=by simp
  simp[l0f,lG h,a,b,lO];cases hst:stO row [] (b1g l[n])with
  |some r=>
   rw[hst]at g;simp at g;subst g;exact b6U f n r (by omega) (by have:=b4A _ _ _ hst;unfold short at hs⊢;simp_all)
  |none=>
   grind
def b1Z(rest:List Int)(st:List Stg):Option (List Int):=bif rest.all a0B then lO st.reverse rest else none
theorem c2m{rest:List Int}(a:a9s st=true)(c:rest.length<100000):b0C (rest,st)=some (a5i (b1Z rest st)):=by
 have f:=a;simp only[a9s,bA,dT]at f;have k:short st:=by unfold short;omega
 have h:short rest:=by unfold short;omega
 unfold b0C;simp only[b2N k,a,oB,bT,cF,b2M h,b1Z];cases hw:rest.all a0B with
 |false=>rfl
 |true=>
  obtain⟨z,b,g⟩:=b6U (st:=st) (b4:=[]) (lA.1 f.2) st.length rest (a27 _) h;rw[a19]at g;simp[a8n h,a0T k,b];cases hst:lO st.reverse rest with
  |some r=>
   rw[hst]at g;simp at g;subst g;rfl
  |none=>
   rw[hst]at g;obtain⟨q,rfl⟩:=g;rfl
def a6A(n warm:Int):Bool:=decide (1≤n)&&(decide (n≤4096)&&(decide (0≤warm)&&decide (warm≤n)))
theorem b2R(n warm:Int):a7E (n,warm)=some (a6A n warm):=by
 grind[a7E,a6A]
theorem d4p(h:o≤8):1≤2^o∧2^o≤256:=by
 have:o=0∨o=1∨o=2∨o=3∨o=4∨o=5∨o=6∨o=7∨o=8:=by omega
 grind
theorem c3x(h:o≤64):A0o .i64 (N:Int) (o:Int)=((N / 2^o:Nat):Int):=by
 unfold A0o;show a80 (N:Int) (2^(min (o:Int).toNat 64))=_
 grind
theorem b7E(h:o≤64)(g:N*2^o<9223372036854775808):A0n .i64 (N:Int) (o:Int)=((N*2^o:Nat):Int):=by
 unfold A0n;show wrap .i64 ((N:Int)*2^(min (o:Int).toNat 64))=_
 grind[a0A]
def b3X(o N:Nat)(warm:Int):List Int:=
 if N%2^o=0∧warm≤((N / 2^o:Nat):Int)then(((N / 2^o:Nat):Int)-warm)::a00 (2^o-1) ((N / 2^o:Nat):Int)else[]
def a1T(order n warm:Int):List Int:=bif a6A n warm&&(decide (0≤order)&&decide (order≤8))then b3X order.toNat n.toNat warm else[]
theorem a2f(order n warm:Int):a2V (order,n,warm)=some (a1T order n warm):=by
 unfold a2V a1T;simp only[b2R,oB];cases hr:a6A n warm with
 |false=>rfl
 |true=>
  simp[a6A]at hr;simp only[bT,cF,a43]
  by_cases h1:order<0
  grind
  by_cases h2:order > 8
  grind
  obtain⟨o,rfl⟩:=a01 (show 0≤order by omega);obtain⟨N,rfl⟩:=a01 (show 0≤n by omega);have m:o≤8:=by omega
  have p:N≤4096:=by omega
  have hp:=d4p m;have l:N / 2^o*2^o≤N:=a78 N _;have j:(0:Int)≤(o:Int):=by omega
  have g8:(o:Int)≤8:=by omega
  simp only[h1,h2,j,g8,decide_true,decide_false,cF,cT,a03,oB,c3x (N:=N) (show o≤64 by omega),b7E (N:=N / 2^o) (show o≤64 by omega) (by omega),tN];have g:=a70 N (2^o);rw[a57]at g
  by_cases hm:N%2^o=0
  have k:(((N / 2^o*2^o:Nat):Int) != (N:Int))=false:=by simp_all
  by_cases hw:warm≤((N / 2^o:Nat):Int)
  have a:decide (((N / 2^o:Nat):Int)<warm)=false:=decide_eq_false (Int.not_lt.2 hw);have d:wrap .i64 (((N / 2^o:Nat):Int)-warm)=((N / 2^o:Nat):Int)-warm:=a0A (by have:=a32 N (2^o);omega);simp only[k,a,d,cF,oB,b3X,hm,hw,and_self,if_true];have c:A0n .i64 (1:Int) (o:Int)=((2^o:Nat):Int):=by have:=b7E (N:=1) (show o≤64 by omega) (by omega);simp_all
  have:=a0X (f:=a6R) (fun i=>((o:Int),((N / 2^o:Nat):Int),(((N / 2^o:Nat):Int)-warm)::a00 i ((N / 2^o:Nat):Int),())) (2^o-1)
   (b:=((((N / 2^o:Nat):Int)-warm)::a00 (2^o-1) ((N / 2^o:Nat):Int),())) (fun i hi=>by
    have hd:decide ((((((N / 2^o:Nat):Int)-warm)::a00 i ((N / 2^o:Nat):Int)).length:Int)<((2^o:Nat):Int))=true:=by
     grind
    have h:lim (((((N / 2^o:Nat):Int)-warm)::a00 i ((N / 2^o:Nat):Int)).length+1)=true:=a0T (by grind);have e:a00 i ((N / 2^o:Nat):Int)++[((N / 2^o:Nat):Int)]=a00 (i+1) ((N / 2^o:Nat):Int):=by grind[a53]
    simp only[a6R,h1,decide_false,cF,c,hd,cT,h,a06,a65,e])
   (by
    have hd:decide ((((((N / 2^o:Nat):Int)-warm)::a00 (2^o-1) ((N / 2^o:Nat):Int)).length:Int)<((2^o:Nat):Int))=false:=by
     simp_all
    simp only[a6R,h1,decide_false,cF,c,hd])
  simp_all;have a:decide (((N / 2^o:Nat):Int)<warm)=true:=decide_eq_true (Int.not_le.1 hw);simp_all[b3X];have k:(((N / 2^o*2^o:Nat):Int) != (N:Int))=true:=by grind
  simp only[k,cT,oB,b3X,hm,false_and,if_false]
@[reducible] def Prt:Type:=Int×((List Int)×Unit)
variable {p:Prt}
def kB(k:Int):Bool:=(decide (0≤k)&&decide (k≤25)) || (k==31)
def a5L(p:Prt)(n warm:Int):Bool:=!((a1T p.1 n warm).length==0)&&((a1T p.1 n warm).length==p.2.1.length&&p.2.1.all kB)
theorem b2S(g:short p.2.1):a9m (p,n,warm)=some (a5L p n warm):=by
 have:=a2E (f:=a4y) p.2.1 (fun i=>(p.2.1,(p.2.1.length:Int),(i:Int),())) kB (bt:=Sum.inl ()) (bf:=Sum.inr (false,()))
  (fun i h hp=>by
   simp[kB]at hp
   by_cases h1:p.2.1[i]<0
   omega
   by_cases h2:p.2.1[i] > 25
   have b:p.2.1[i]=31:=by omega
   have a:(p.2.1[i] != 31)=false:=by simp_all
   simp[a4y,a0D h,h,h1,h2,a,a0C (a18 h g)];simp[a4y,a0D h,h,h1,h2,a0C (a18 h g)])
  (fun i h hp=>by
   have hp:¬ (kB p.2.1[i]=true):=by simp_all
   simp only[kB,a98,bA,dT,beq_iff_eq]at hp
   grind[a4y,a0D])
  (by simp[a4y])
 simp at this;unfold a9m a5L;simp[a2f]
 by_cases h0:(a1T p.1 n warm).length=0
 simp_all
 ·have e:((((a1T p.1 n warm).length:Nat):Int)==0)=false:=by simp_all
  have k:((a1T p.1 n warm).length==0)=false:=by simp_all
  simp[e,k]
  by_cases h1:(a1T p.1 n warm).length=p.2.1.length
  all_goals grind
@[reducible] def Sub:Type:=Int×(Int×(Int×(Int×(Int×((List Int)×((List Int)×((List Stg)×((List Int)×(Prt×((List Int)×Unit))))))))))
variable {s:Sub}
structure SmallS (s:Sub):Prop where
 coefs:s.2.2.2.2.2.1.length≤40
 taps:s.2.2.2.2.2.2.1.length=3
 stages:s.2.2.2.2.2.2.2.1.length≤6
 warm:s.2.2.2.2.2.2.2.2.1.length≤5000
 rest:s.2.2.2.2.2.2.2.2.2.2.1.length≤5000
 ks:s.2.2.2.2.2.2.2.2.2.1.2.1.length≤300
theorem b2T(x y:List Int):eqT (.arr 3 (.int .i64)) x y=decide (x=y):=by
 show((a31 (fun(a b:Int)=>a==b) x y).all id&&x.length==y.length)=_
 induction x generalizing y with
 |nil=>cases y<;>simp
 |cons a x ih=>
  cases y with
  |nil=>simp
  |cons b y=>
   grind[List.zipWith_cons_cons]
theorem b4B{l:List Int}(h:short l):a3V l=some l:=a8n h
theorem b6V{l:List Stg}(h:short l):a1m l=some l:=by
 have g:lim (0+l.length)=true:=a0T (by unfold short at h;omega);simp_all[a1m,x0e]
def a4a(k:Int)(s:Sub)(n:Int):Prop:=
 k=0∨k=1∨(k=2∧0≤s.2.2.1∧s.2.2.1≤4∧s.2.2.1≤n)∨(k=3∧a9K s.2.2.2.2.2.1 s.2.2.2.1=true∧(s.2.2.2.2.2.1.length:Int)≤n)∨
  (k=4∧a9K s.2.2.2.2.2.1 s.2.2.2.1=true∧(s.2.2.2.2.2.1.length:Int)≤n∧b1N s.2.2.2.2.1 s.2.2.2.2.2.2.1=true)∨
  (k=5∧0<s.2.2.2.2.2.2.2.1.length∧a9s s.2.2.2.2.2.2.2.1=true)
open Classical in
def b2U (k:Int) (s:Sub) (n:Int):Bool:=decide (a4a k s n)
theorem b3Y{s:Sub}(h:SmallS s)(k n:Int):a8h (k,s,n)=some (b2U k s n):=by
 have a:short s.2.2.2.2.2.1:=by have:=h.coefs;unfold short;omega
 have b:short s.2.2.2.2.2.2.2.1:=by have:=h.stages;unfold short;omega
 unfold a8h b2U a4a
 by_cases k0:k=0
 simp_all
 by_cases k1:k=1
 simp_all;have g:(k==0)=false:=by grind
 have f:(k==1)=false:=by grind
 simp only[g,f,cF,oB]
 by_cases k2:k=2
 subst k2
 grind
 by_cases k3:k=3
 subst k3
 grind[a9E]
 by_cases k4:k=4
 subst k4;cases hl:a9K s.2.2.2.2.2.1 s.2.2.2.1<;>by_cases h2:(s.2.2.2.2.2.1.length:Int)≤n<;>simp[a9E a,b3I h.taps,hl,h2]
 by_cases k5:k=5
 ·subst k5
  by_cases h1:0<s.2.2.2.2.2.2.2.1.length
  all_goals simp_all[b2N]
 grind
def a2p(s:Sub)(n:Int):Int:=if s.1=0 then 1 else if s.1=1 then n else if s.1=2 then s.2.2.1 else if s.1=3∨s.1=4 then(s.2.2.2.2.2.1.length:Int)else 0
theorem b2a(s:Sub)(n:Int):a4L (s,n)=some (a2p s n):=by
 grind[a4L,a2p]
def b3Z(s:Sub):Prop:=
 (s.1≠2→s.2.2.1=0)∧(s.1≠3∧s.1≠4→s.2.2.2.1=0)∧(s.1≠4→s.2.2.2.2.1=0)∧(s.1≠4→s.2.2.2.2.2.2.1=[0,0,0])∧(s.1≠3∧s.1≠4→s.2.2.2.2.2.1=[])∧(s.1≠5→s.2.2.2.2.2.2.2.1=[])
open Classical in
def b4a (s:Sub):Bool:=decide (b3Z s)
theorem b1h{c x:Bool}:(bif c then some x else some false)=some (c&&x):=by grind
theorem d4q{α:Type}(l:List α):(((l.length:Nat):Int)==0)=decide (l=[]):=by
 cases l with
 |nil=>rfl
 |cons a l=>rfl
theorem b9S(x:Int):(x==0)=decide (x=0):=rfl
theorem c3y{s:Sub}(h:SmallS s):b1A s=some (b4a s):=by
 have e:short s.2.2.2.2.2.1:=by have:=h.coefs;unfold short;omega
 have g:short s.2.2.2.2.2.2.2.1:=by have:=h.stages;unfold short;omega
 obtain⟨k,w,o,sh,lag,c,t,st,j,p,r,u⟩:=s;simp only at e g;unfold b1A a6n b4a b3Z;have i:(a00 3 (0:Int))=[0,0,0]:=rfl
 by_cases k2:k=2
 simp_all[b2T,b1h,b9S]
 by_cases k4:k=4
 simp_all[b2T,b1h,b9S,b4B]
 by_cases k3:k=3
 simp_all[b2T,b1h,b9S,b4B]
 by_cases k5:k=5
 simp_all[b2T,b1h,b9S,b6V];have f:(k==2)=false:=by grind
 have a:(k==3)=false:=by grind
 have b:(k==4)=false:=by grind
 have d:(k==5)=false:=by grind
 simp[f,a,b,d,k2,k3,k4,k5,b2T,i,b1h,d4q,b9S]
theorem a6I(k:Int):a6q k=some (decide (k≠0∧k≠1)):=by
 unfold a6q
 by_cases h0:k=0
 simp_all
 ·by_cases h1:k=1
  all_goals grind
def a1z(s:Sub)(n:Int):Prop:=
 1≤n∧n≤4096∧a4a s.1 s n∧b3Z s∧0≤s.2.1∧s.2.1≤30∧(s.1=0→s.2.1=0)∧(s.2.2.2.2.2.2.2.2.1.length:Int)=a2p s n∧s.2.2.2.2.2.2.2.2.1.all a0B=true∧s.2.2.2.2.2.2.2.2.2.2.1.all a0B=true∧
  (s.1=0∨s.1=1→s.2.2.2.2.2.2.2.2.2.2.1=[]∧s.2.2.2.2.2.2.2.2.2.1.1=0∧s.2.2.2.2.2.2.2.2.2.1.2.1=[])∧
  (s.1≠0∧s.1≠1→(s.2.2.2.2.2.2.2.2.2.2.1.length:Int)=n-a2p s n∧a5L s.2.2.2.2.2.2.2.2.2.1 n (a2p s n)=true)
theorem c5G(h:SmallS s)(f:1≤n)(a:n≤4096)(hf:a4a s.1 s n):0≤a2p s n∧a2p s n≤4096:=by
 have b:=h.coefs;unfold a2p;rcases hf with k|k|⟨k,g⟩|⟨k,g⟩|⟨k,g⟩|⟨k,g⟩<;>simp[k]<;>omega
open Classical in
theorem c8W {s:Sub} (h:SmallS s) (n:Int):b0A (s,n)=some (decide (a1z s n)):=by
 have hw:short s.2.2.2.2.2.2.2.2.1:=by have:=h.warm;unfold short;omega
 have hr:short s.2.2.2.2.2.2.2.2.2.2.1:=by have:=h.rest;unfold short;omega
 have hk:short s.2.2.2.2.2.2.2.2.2.1.2.1:=by have:=h.ks;unfold short;omega
 unfold b0A
 by_cases h1:1≤n
 rotate_left
 ·have e1:decide (n<1)=true:=by simp_all
  have:¬ a1z s n:=fun hp=>h1 hp.1
  simp_all
 have e1:decide (n<1)=false:=by simp_all
 by_cases h2:n≤4096
 rotate_left
 ·have e2:decide (n > 4096)=true:=by simp_all
  have:¬ a1z s n:=fun hp=>h2 hp.2.1
  simp_all
 have e2:decide (n > 4096)=false:=by simp_all
 by_cases h3:a4a s.1 s n
 rotate_left
 ·have e3:b2U s.1 s n=false:=by simp[b2U,h3]
  have:¬ a1z s n:=fun hp=>h3 hp.2.2.1
  simp_all[b3Y]
 have e3:b2U s.1 s n=true:=by simp[b2U,h3]
 by_cases h4:b3Z s
 rotate_left
 ·have e4:b4a s=false:=by simp[b4a,h4]
  have:¬ a1z s n:=fun hp=>h4 hp.2.2.2.1
  simp_all[b3Y,c3y]
 have e4:b4a s=true:=by simp[b4a,h4]
 simp only[e1,e2,b3Y h,e3,c3y h,e4,cF,bT,oB]
 by_cases h5:0≤s.2.1
 rotate_left
 ·have e5:decide (s.2.1<0)=true:=by simp_all
  have:¬ a1z s n:=fun hp=>h5 hp.2.2.2.2.1
  simp_all
 have e5:decide (s.2.1<0)=false:=by simp_all
 by_cases h6:s.2.1≤30
 rotate_left
 ·have e6:decide (s.2.1 > 30)=true:=by simp_all
  have:¬ a1z s n:=fun hp=>h6 hp.2.2.2.2.2.1
  simp_all
 have e6:decide (s.2.1 > 30)=false:=by simp_all
 simp only[e5,e6,cF]
 by_cases h7:s.1=0→s.2.1=0
 rotate_left
 ·have h7a:s.1=0:=Classical.byContradiction fun hc=>h7 fun e=>absurd e hc
  have h7b:(s.2.1 != 0)=true:=by
   simp_all
  have e7:(s.1==0)=true:=by simp_all
  have:¬ a1z s n:=fun hp=>h7 hp.2.2.2.2.2.2.1
  grind
 have e7:(bif s.1==0 then some (n,(s.2.1 != 0,(s,())))else some (n,(false,(s,()))))=some (n,(false,(s,()))):=by
  grind
 simp only[e7,oB,cF,b2a]
 by_cases h8:(s.2.2.2.2.2.2.2.2.1.length:Int)=a2p s n
 rotate_left
 ·have e8:(((s.2.2.2.2.2.2.2.2.1.length:Nat):Int) != a2p s n)=true:=by simp_all
  have:¬ a1z s n:=fun hp=>h8 hp.2.2.2.2.2.2.2.1
  grind
 have e8:(((s.2.2.2.2.2.2.2.2.1.length:Nat):Int) != a2p s n)=false:=by simp_all
 simp only[e8,cF,a4F hw,a4F hr,oB]
 cases h9:s.2.2.2.2.2.2.2.2.1.all a0B with
 |false=>
  have:¬ a1z s n:=fun hp=>by rw[hp.2.2.2.2.2.2.2.2.1]at h9;grind
  simp_all
 |true=>
  cases h10:s.2.2.2.2.2.2.2.2.2.2.1.all a0B with
  |false=>
   have:¬ a1z s n:=fun hp=>by rw[hp.2.2.2.2.2.2.2.2.2.1]at h10;grind
   simp_all
  |true=>
   simp only[bT,cF,oB,a6I]
   have hwr:=c5G h h1 h2 h3
   by_cases k01:s.1≠0∧s.1≠1
   ·have e11:wrap .i64 (n-a2p s n)=n-a2p s n:=a0A (by omega)
    simp[k01,e11,b2S hk]
    by_cases h11:(s.2.2.2.2.2.2.2.2.2.2.1.length:Int)=n-a2p s n
    ·have e12:(((s.2.2.2.2.2.2.2.2.2.2.1.length:Nat):Int)==n-a2p s n)=true:=by simp_all
     simp only[e12,cT]
     congr 1
     rw[a99,dT]
     constructor
     ·intro hp
      exact⟨h1,h2,h3,h4,h5,h6,h7,h8,h9,h10,fun hc=>absurd hc (by omega),fun _=>⟨h11,hp⟩⟩
     ·intro hp;exact(hp.2.2.2.2.2.2.2.2.2.2.2 k01).2
    ·have e12:(((s.2.2.2.2.2.2.2.2.2.2.1.length:Nat):Int)==n-a2p s n)=false:=by simp_all
     have:¬ a1z s n:=fun hp=>h11 (hp.2.2.2.2.2.2.2.2.2.2.2 k01).1
     grind
   ·have k01':s.1=0∨s.1=1:=by omega
    simp[k01,d4q]
    simp only[b9S,b1h]
    congr 1
    rw[a99,dT]
    simp
    constructor
    ·rintro⟨g1,g2,g3⟩
     exact⟨h1,h2,h3,h4,h5,h6,h7,h8,h9,h10,fun _=>⟨g1,g2,g3⟩,fun hc=>absurd hc k01⟩
    ·intro hp;exact hp.2.2.2.2.2.2.2.2.2.2.1 k01'
theorem c8X(h:a4a k s n):k=0∨k=1∨k=2∨k=3∨k=4∨k=5:=by
 unfold a4a at h;omega
def b7F(warm rest:List Int)(o:Int):Option (List Int):=bif warm.all a0B&&rest.all a0B then a4m (a6y o.toNat) rest warm else none
def backP(s:Sub):Option (List Int):=
 if s.1=1 then some s.2.2.2.2.2.2.2.2.1
 else if s.1=2 then b7F s.2.2.2.2.2.2.2.2.1 s.2.2.2.2.2.2.2.2.2.2.1 s.2.2.1
 else if s.1=3 then b2O s.2.2.2.2.2.2.2.2.1 s.2.2.2.2.2.2.2.2.2.2.1 s.2.2.2.2.2.1 s.2.2.2.1
 else if s.1=4 then(b2O s.2.2.2.2.2.2.2.2.1 s.2.2.2.2.2.2.2.2.2.2.1 s.2.2.2.2.2.1 s.2.2.2.1).bind fun l=>b3q l s.2.2.2.2.1 s.2.2.2.2.2.2.1
 else b1Z s.2.2.2.2.2.2.2.2.2.2.1 s.2.2.2.2.2.2.2.1
def c3z(s:Sub)(n:Int):Option (List Int):=
 if s.1=0 then some (a00 n.toNat (s.2.2.2.2.2.2.2.2.1.getD 0 0))else(backP s).bind (upO s.2.1)
theorem b3K{w r c:List Int}{s:Int}{l}(h:b2O w r c s=some l):l.length=w.length+r.length:=by
 unfold b2O at h;cases hc:(w.all a0B&&r.all a0B)with
 |false=>simp_all
 |true=>
  rw[hc]at h;exact(b2q _ r w l (a76.1 hc).1 h).2
theorem c5H{w r:List Int}{o:Int}{l}(h:b7F w r o=some l):l.length=w.length+r.length:=by
 unfold b7F at h;cases hc:(w.all a0B&&r.all a0B)with
 |false=>simp_all
 |true=>
  rw[hc]at h;exact(b2q _ r w l (a76.1 hc).1 h).2
theorem c3A{l}(h:b3q r lag t=some l):l.length=r.length:=by
 unfold b3q at h;cases hc:r.all a0B with
 |false=>simp_all
 |true=>
  rw[hc]at h
  have:=(b2q _ r [] l rfl h).2
  simp_all
theorem c0U:∀(st:List Stg)(r:List Int){l},lO st r=some l→l.length=r.length
 | [],r,l,h=>by simp_all[lO]
 |s::st,r,l,h=>by
  simp only[lO]at h
  split at h
  rename_i f g;rw[c0U st f h,b4A _ _ _ g];simp;cases h
theorem c2n{r:List Int}{st:List Stg}{l}(h:b1Z r st=some l):l.length=r.length:=by
 grind[b1Z,c0U]
theorem c3B(h:SmallS s){l}(g:backP s=some l):l.length<100000:=by
 have b:=h.warm;have a:=h.rest;unfold backP at g
 split at g
 grind
 split at g
 grind[c5H]
 split at g
 grind[b3K]
 split at g
 obtain⟨l1,f,k⟩:=a44.1 g;rw[c3A k,b3K f];omega
 grind[c2n]
theorem c8Y(a:1≤n)(c:n≤4096)(d:s.2.2.2.2.2.2.2.2.1.length=1):
  y0s a7o (n,(0:Int),([]:List Int),s,())=some (a00 n.toNat (s.2.2.2.2.2.2.2.2.1.getD 0 0),()):=by
 obtain⟨N,rfl⟩:=a01 (show 0≤n by omega);have k:m0k s.2.2.2.2.2.2.2.2.1 (0:Int)=some (s.2.2.2.2.2.2.2.2.1.getD 0 0):=c3r (by omega) (by omega)
 have:=a0X (f:=a7o) (fun i=>((N:Int),(i:Int),a00 i (s.2.2.2.2.2.2.2.2.1.getD 0 0),s,())) N
  (b:=(a00 N (s.2.2.2.2.2.2.2.2.1.getD 0 0),())) (fun i hi=>by
   have h:lim ((a00 i (s.2.2.2.2.2.2.2.2.1.getD 0 0)).length+1)=true:=a0T (by grind);have g:a00 i (s.2.2.2.2.2.2.2.2.1.getD 0 0)++[s.2.2.2.2.2.2.2.2.1.getD 0 0]=a00 (i+1) (s.2.2.2.2.2.2.2.2.1.getD 0 0):=by grind[a53]
   simp only[a7o,dlt hi,cT,k,oB,h,a06,g,a0C (show i<1000000 by omega)])
  (by simp[a7o])
 simp_all
theorem c5I(h:SmallS s)(hp:a1z s n):b2k (s,n)=some (a5i (c3z s n)):=by
 have a:=fun l (d:backP s=some l)=>c3B h d;obtain⟨z,A,hf,-,x,v,-,g,I,H,-⟩:=hp;have E:=h.rest;have F:=h.warm;have G:=h.taps;have C:=c8Y (s:=s) z A;obtain⟨k,w,o,sh,lag,c,t,st,f,p,r,u⟩:=s;simp only at *;have K:∀l,l.length<100000→a9o (l,w)=some (a5i (upO w l)):=fun l d=>c3t x v d;unfold b2k c3z;rcases hf with b|b|⟨b,j,m,y⟩|⟨b,j,m⟩|⟨b,j,m,y⟩|⟨b,j,m⟩
 grind[a2p,a5i]
 simp_all[backP]
 ·subst b;obtain⟨O,rfl⟩:=a01 j;have m:(O:Int)≤4:=m;simp only[a2p]at g;have q:f.length=O:=by grind
  have i:=c2k (warm:=f) (rest:=r) (o:=O) (by omega) q (by omega);simp only[backP]at a⊢;simp[i];have e:(bif f.all a0B&&r.all a0B then a4m (a6y O) r f else none)=b7F f r (O:Int):=rfl;rw[e];cases d:b7F f r (O:Int)with
  |none=>rfl
  |some l=>simp_all[a5i]
 ·subst b;simp only[a2p]at g;have q:f.length=c.length:=by grind
  have i:=b3W (rest:=r) j q (by omega);simp only[backP]at a⊢;simp[i];cases d:b2O f r c sh with
  |none=>rfl
  |some l=>simp_all[a5i]
 ·subst b;simp only[a2p]at g;have q:f.length=c.length:=by grind
  have i:=b3W (rest:=r) j q (by omega);simp only[backP]at a⊢;simp[i];cases d:b2O f r c sh with
  |none=>rfl
  |some l=>
   have D:=b3K d;have B:=c3s (rest:=l) y G (by omega);simp[a5i,B]
   grind[a5i]
 ·subst b;have i:=c2m (rest:=r) m (by omega);simp only[backP]at a⊢;simp[i];cases d:b1Z r st with
  |none=>rfl
  |some l=>simp_all[a5i]
open Classical in
def a2n (s:Sub) (n:Int):Option (List Int):=if a1z s n then c3z s n else none
theorem b8w(h:SmallS s)(n:Int):b1W (s,n)=some (match a2n s n with|some r=>(r,0)|none=>([],1)):=by
 unfold b1W a2n;simp only[c8W h,oB]
 by_cases hp:a1z s n
 simp[hp,c5I h hp]
 grind[a5i]
 simp_all
theorem b8x(h:SmallS s)(n:Int):a9R (s,n)=some (a2n s n).isSome:=by
 unfold a9R;simp only[b8w h,oB];cases a2n s n<;>rfl
@[reducible] def Wr:Type:=(List Int)×(Int×Unit)
def b9T(w:Wr)(b:Int):Wr:=
 let bs:=if w.2.1%8=0 then w.1++[0]else w.1
 (bs.set (w.2.1 / 8).toNat (bits .u8 .or (bs.getD (w.2.1 / 8).toNat 0) (A0n .u8 b (7-w.2.1%8))),w.2.1+1,())
def wL(L:List Int):Wr:=L.foldl b9T ([],0,())
theorem b9U(L:List Int)(b:Int):wL (L++[b])=b9T (wL L) b:=by simp[wL]
theorem b8y:∀(n:Nat)(L:List Int),L.length=n→(wL L).2.1=L.length∧(wL L).1.length=(L.length+7) / 8
 |0,L,h=>by
  rw[a45.1 h];exact⟨rfl,rfl⟩
 |n+1,L,h=>by
  obtain⟨g,b,rfl⟩:∃g b,L=g++[b]:=by
   rcases a51 L with rfl|⟨g,b,e⟩
   all_goals simp_all
  obtain⟨f,k⟩:=b8y n g (by simp_all);rw[b9U];simp only[b9T,List.length_set,lN,a74,f]
  grind
theorem a5W(L:List Int):(wL L).2.1=L.length∧(wL L).1.length=(L.length+7) / 8:=b8y _ L rfl
theorem b8z{L:List Int}(l:L.length<1000000000)(b:Int):a2j (wL L,b)=some (wL (L++[b])):=by
 obtain⟨g,k⟩:=a5W L;have o:a26 ((L.length:Nat):Int) 8=((L.length:Nat):Int)%8:=a42 (by omega);have hd:a54 ((L.length:Nat):Int) 8=((L.length:Nat):Int) / 8:=a61 (by omega);have c:wrap .i64 (((L.length:Nat):Int) / 8)=((L.length:Nat):Int) / 8:=a0A (by omega);have d:wrap .i64 (7-((L.length:Nat):Int)%8)=7-((L.length:Nat):Int)%8:=a0A (by omega);have e:wrap .i64 (((L.length:Nat):Int)+1)=((L.length:Nat):Int)+1:=a0A (by omega);have i:decide ((0:Int)≤((L.length:Nat):Int) / 8)=true:=by rfl
 have j:decide (7-((L.length:Nat):Int)%8<0)=false:=by grind
 rw[b9U];generalize wL L=wr at g k⊢;obtain⟨f,n,u⟩:=wr;have g:n=((L.length:Nat):Int):=g;have k:f.length=(L.length+7) / 8:=k;subst g;unfold a2j b9T
 by_cases h:((L.length:Nat):Int)%8=0
 have hb:(((L.length:Nat):Int)%8==0)=true:=by grind
 have m:lim (f.length+1)=true:=a0Q (by omega);have a:decide (((L.length:Nat):Int) / 8<(((f++[0]).length:Nat):Int))=true:=by grind
 simp_all
 grind
def a7d(v:Int)(i:Nat):Int:=wrap .u8 (bits .u64 .and (A0o .u64 v (i:Int)) 1)
def pb(v:Int):Nat→List Int
 |0=>[]
 |i+1=>a7d v i::pb v i
theorem b3t(v:Int):∀n,(pb v n).length=n
 |0=>rfl
 |n+1=>by simp[pb,b3t v n]
def a0O(v:Int)(n:Nat)(L:List Int):List Int:=bif A0o .u64 v (n:Int) != 0 then L else L++pb v n
theorem a0V(v:Int)(n:Nat)(L:List Int):L.length≤(a0O v n L).length∧(a0O v n L).length≤L.length+n:=by
 grind[a0O,b3t]
def a8o(v:Int)(n:Nat):Int:=bif A0o .u64 v (n:Int) != 0 then 1 else 0
theorem c3C{v:Int}:∀(n:Nat)(L:List Int),L.length+n<1000000000→y0s a4j (v,(n:Int)-1,wL L,())=some (wL (L++pb v n),())
 |0,L,_=>by simp_all[a0E,a4j,pb]
 |n+1,L,h=>by
  have e:((n+1:Nat):Int)-1=(n:Int):=by omega
  have g:wrap .i64 ((n:Int)-1)=(n:Int)-1:=a0A (by omega);have f:decide ((n:Int)≥0)=true:=by simp
  have k:decide ((n:Int)<0)=false:=by simp
  rw[e,a0F (s':=(v,(n:Int)-1,wL (L++[a7d v n]),())) (by
   simp only[a4j,f,k,cT,cF,show wrap .u8 (bits .u64 .and (A0o .u64 v (n:Int)) 1)=a7d v n from rfl,b8z (show L.length<1000000000 by omega),oB,g])]
  rw[c3C n (L++[a7d v n]) (by simp;omega),pb]
  simp
theorem a3h{v:Int}{n:Nat}(a:n≤63)(k:L.length<999999000):a0G (wL L,v,(n:Int))=some (a8o v n,wL (a0O v n L)):=by
 unfold a0G a8o a0O;have g:decide ((n:Int)<0)=false:=by simp
 have f:decide ((n:Int) > 64)=false:=by grind
 have h:wrap .i64 ((n:Int)-1)=(n:Int)-1:=a0A (by omega);simp[g,f];cases (A0o .u64 v (n:Int) != 0)with
 |true=>rfl
 |false=>simp only[cF,h,c3C n L (by omega),oB]
def unL(n:Nat)(L:List Int):List Int:=L++a00 n 0++[1]
theorem c3D{n:Nat}(c:n≤4096)(a:L.length<999990000):a2s (wL L,(n:Int))=some (0,wL (unL n L)):=by
 unfold a2s unL;have g:decide ((n:Int)<0)=false:=by simp
 have k:decide ((n:Int) > 4096)=false:=by grind
 simp only[g,k,cF,oB]
 have:=a0X (f:=a3n) (fun i=>((n:Int),(i:Int),wL (L++a00 i 0),())) n (b:=(wL (L++a00 n 0),())) (fun i hi=>by
   have h:L++a00 i (0:Int)++[0]=L++a00 (i+1) 0:=by simp_all[a53]
   simp only[a3n,dlt hi,cT,b8z (show(L++a00 i (0:Int)).length<1000000000 by grind),oB,h,a0C (show i<1000000 by omega)])
  (by simp[a3n])
 grind[b8z]
theorem b0R(n:Nat)(L:List Int):(unL n L).length=L.length+n+1:=by simp[unL];rfl
def a0W(x:Int)(n:Nat):Int:=bits .u64 .and (wrap .u64 x) (wrap .u64 ((A0n .u64 1 (n:Int))-1))
def a1N(n:Nat)(l:List Int)(L:List Int):List Int:=l.foldl (fun L x=>a0O (a0W x n) n L) L
theorem a6B(n:Nat):∀(l L:List Int),L.length≤(a1N n l L).length∧(a1N n l L).length≤L.length+n*l.length
 | [],L=>by simp[a1N]
 |x::l,L=>by
  have h:=a0V (a0W x n) n L;have g:=a6B n l (a0O (a0W x n) n L);have e:a1N n (x::l) L=a1N n l (a0O (a0W x n) n L):=rfl;rw[e,lC,a91,a92];omega
theorem b2V{n:Nat}(f:n≤63)(g:L.length<999999000):a2N (wL L,x,(n:Int))=some (wL (a0O (a0W x n) n L)):=by
 unfold a2N;have h:decide ((n:Int)<0)=false:=by simp
 simp only[h,cF,show bits .u64 .and (wrap .u64 x) (wrap .u64 ((A0n .u64 1 (n:Int))-1))=a0W x n from rfl,a3h f g,oB]
def a1o(x w:Int):Bool:=decide (1≤w)&&(decide (w≤31)&&(decide (A0n .i64 (-1) (w-1)≤x)&&decide (x≤wrap .i64 (A0n .i64 1 (w-1)-1))))
theorem a6C(a:w≤32):a1j (x,(w:Int))=some (a1o x w):=by
 unfold a1j a1o a8g a3T
 by_cases h1:1≤(w:Int)
 by_cases h2:(w:Int)≤31
 have h:decide ((w:Int)<1)=false:=by simp_all
 have g:decide ((w:Int) > 31)=false:=by simp_all
 have e:wrap .i64 ((w:Int)-1)=(w:Int)-1:=a0A (by omega);have f:decide ((w:Int)-1<0)=false:=by simp_all
 have k:decide ((w:Int)≥1)=true:=by simp_all
 simp[h1,h2,h,g,f,e]
 grind
 grind
 grind
def a1U(x:Int):Nat→Nat→Nat
 |0,w=>w
 |k+1,w=>bif (x != 0)&&!a1o x w then a1U x k (w+1)else w
theorem b7G(x:Int):∀(k w:Nat),a1U x k w≤w+k
 |0,w=>a27 _
 |k+1,w=>by
  simp[a1U];cases (x != 0)&&!a1o x w with
  |true=>have:=b7G x k (w+1);grind
  |false=>simp
def a0I(l:List Int):Nat:=l.foldl (fun w x=>a1U x (32-w) w) 0
theorem b5o:∀(l:List Int)(w:Nat),w≤32→l.foldl (fun w x=>a1U x (32-w) w) w≤32
 | [],w,h=>h
 |x::l,w,h=>b5o l _ (show a1U x (32-w) w≤32 by grind[b7G])
theorem a6J(l:List Int):a0I l≤32:=b5o l 0 (by omega)
theorem c0V{x:Int}{l:List Int}{n i:Int}:∀(k w:Nat),w+k=32→y0s a2R ((w:Int),x,l,n,i,())=some (((a1U x k w:Nat):Int),l,n,i,())
 |0,w,h=>by
  obtain rfl:w=32:=by omega
  simp_all[a0E,a2R,a1U]
 |k+1,w,h=>by
  have g:decide ((w:Int)<32)=true:=by grind
  simp[a1U];cases hx:(x != 0)with
  |false=>simp_all[a0E,a2R]
  |true=>
   cases hf:a1o x w with
   |true=>exact a0E (by simp only[a2R,hx,g,a6C (show w≤32 by omega),hf,oB,cT,cF,bT,Bool.and_false])
   |false=>
    rw[a0F (s':=(((w+1:Nat):Int),x,l,n,i,())) (by simp only[a2R,hx,g,a6C (show w≤32 by omega),hf,oB,cT,a36,a0C (show w<1000000 by omega)])];exact c0V k (w+1) (by omega)
theorem a2q(c:short l):a1y l=some ((a0I l:Nat):Int):=by
 have c:l.length<1000000:=c
 have:=a2a (f:=a5Z) l (fun i (w:Nat)=>((w:Int),l,(l.length:Int),(i:Int),())) (fun w x=>(.inl (a1U x (32-w) w):Nat ⊕ (Int×Unit))) (fun _ w=>w≤32) (fun w=>((w:Int),()))
  (fun i h w e=>⟨fun d k=>by
   simp at k;subst k;refine⟨?_,by grind[b7G]⟩;simp only[a5Z,dlt h,cT,a0D h,oB,c0V (32-w) w (by omega),a0C (show i<1000000 by omega)],fun b hb=>(by grind)⟩)
  (fun w _=>by simp[a5Z]) (a:=0) (by omega)
 simp at this;unfold a1y;rw[this];have g:∀(l:List Int)(w:Nat),a2O (fun w x=>(.inl (a1U x (32-w) w):Nat ⊕ (Int×Unit))) l w=.inl (l.foldl (fun w x=>a1U x (32-w) w) w):=by
  intro l
  induction l with
  |nil=>intro w;rfl
  |cons x l ih=>simp_all[a2O]
 rw[g];rfl
theorem b0S(x:Int):a7F x=some (a0B x):=by
 grind[a7F,a0B]
def a0R(x:Int):Nat:=if 0≤x then(2*x).toNat else(-2*x-1).toNat
theorem a9L(h:a0B x=true):a0R x<2147483648:=by
 grind[a1P,a0R]
theorem b0T(h:a0B x=true):a9n x=some ((a0R x:Nat):Int):=by
 have f:=a1P.1 h;unfold a9n a0R;simp only[b0S,h,oB,bT,cF]
 by_cases h0:0≤x
 have g:decide (x≥0)=true:=by simp_all
 simp only[g,cT,if_pos h0]
 grind[a0A,a0K]
 have g:decide (x≥0)=false:=by simp_all
 simp only[g,cF,if_neg h0]
 grind[a0A,a0K]
theorem a6K{N o:Nat}(h:o≤64):A0o .u64 (N:Int) (o:Int)=((N / 2^o:Nat):Int):=c3x h
theorem b2b(h:o≤64)(g:N*2^o<9223372036854775808):A0n .u64 (N:Int) (o:Int)=((N*2^o:Nat):Int):=by
 unfold A0n;show wrap .u64 ((N:Int)*2^(min (o:Int).toNat 64))=_
 grind[a0K]
theorem c3E{y k:Nat}(c:y<18446744073709551616)(f:k≤62):bits .u64 .and (y:Int) (wrap .u64 (A0n .u64 1 (k:Int)-1))=((y%2^k:Nat):Int):=by
 have hp:2^k≤2^62:=a08 (by simp) f;have a:1≤2^k:=a81;have b:(2:Nat)^62=4611686018427387904:=by rfl
 have h:A0n .u64 1 (k:Int)=((2^k:Nat):Int):=by have:=b2b (N:=1) (o:=k) (by omega) (by omega);simp_all
 have g:wrap .u64 (((2^k:Nat):Int)-1)=((2^k-1:Nat):Int):=by grind[a0K]
 rw[h,g];show wrap .u64 (((a04 64 (y:Int)) &&& (a04 64 ((2^k-1:Nat):Int))).toNat:Int)=_;rw[a24,a24,a93,a29,a29,a23 c,a23 (by omega),Nat.and_two_pow_sub_one_eq_mod]
 have:y%2^k<2^k:=a40 _ (by omega)
 exact a0K (by omega)
theorem b2W{q:Nat}(h:q<2147483648):wrap .i64 (q:Int)=(q:Int):=a0A (by omega)
def a7e(k:Nat)(x:Int)(L:List Int):List Int:=
 if a0R x / 2^k<32 then a0O ((a0R x%2^k:Nat):Int) k (unL (a0R x / 2^k) L)else a0O ((a0R x:Nat):Int) 32 (unL 32 L)
def a4U(k:Nat)(l:List Int)(L:List Int):List Int:=l.foldl (fun L x=>a7e k x L) L
theorem b5W{k:Nat}(h:k≤25)(x:Int)(L:List Int):L.length≤(a7e k x L).length∧(a7e k x L).length≤L.length+100:=by
 grind[a7e,a0V,b0R]
theorem b5p{k:Nat}(h:k≤25):∀(l L:List Int),L.length≤(a4U k l L).length∧(a4U k l L).length≤L.length+100*l.length
 | [],L=>by simp[a4U]
 |x::l,L=>by
  have g:=b5W h x L;have f:=b5p h l (a7e k x L);have e:a4U k (x::l) L=a4U k l (a7e k x L):=rfl
  grind
theorem a9h{k:Nat}(h:k≤25):a1Z (k:Int)=some true:=by
 unfold a1Z
 grind
theorem c5J{k:Nat}(w:k≤25)(C:l.length<10000)(s:l.all a0B=true)(B:L.length<900000000):b2l (wL L,(k:Int),l)=some (0,wL (a4U k l L)):=by
 have z:=a2E (f:=a9A) l (fun i=>((k:Int),l,l,(l.length:Int),(i:Int),wL L,())) (fun _=>true) (bt:=Sum.inl ((k:Int),l,wL L,())) (bf:=Sum.inl ((k:Int),l,wL L,()))
  (fun i h _=>by
   have:=lA.1 s _ (a05 h)
   simp only[a9A,dlt h,cT,a0D h,oB,b0S,this,bT,cF,a0C (show i<1000000 by omega)])
  (fun i h hp=>by simp_all) (by simp[a9A])
 have o:∀(j i:Nat)(g:List Int),i+j=l.length→g.length+100*j<999990000→y0s a7p ((k:Int),l,(l.length:Int),(i:Int),wL g,())=some (wL (a4U k (l.drop i) g),()):=by
  intro j
  induction j with
  |zero=>
   intro i g hi _;obtain rfl:i=l.length:=by omega
   simp_all[a0E,a7p,a4U]
  |succ j ih=>
   intro i g hi hb;have a:i<l.length:=by omega
   have c:=lA.1 s _ (a05 a);have y:=a9L c;have x:=b5W w l[i] g;have e:decide ((k:Int)<0)=false:=by simp
   have p:A0o .u64 ((a0R l[i]:Nat):Int) (k:Int)=((a0R l[i] / 2^k:Nat):Int):=a6K (by omega);have m:=a32 (a0R l[i]) (2^k);have q:=a70 (a0R l[i]) (2^k);have d:A0n .u64 ((a0R l[i] / 2^k:Nat):Int) (k:Int)=((a0R l[i] / 2^k*2^k:Nat):Int):=b2b (by omega) (by grind);have t:wrap .u64 (((a0R l[i]:Nat):Int)-((a0R l[i] / 2^k*2^k:Nat):Int))=((a0R l[i]%2^k:Nat):Int):=by
    rw[a57 (a0R l[i] / 2^k)]
    grind[a0K]
   have u:wrap .i64 ((a0R l[i] / 2^k:Nat):Int)=((a0R l[i] / 2^k:Nat):Int):=b2W (a38 m y);rw[a02 a,a0F (s':=((k:Int),l,(l.length:Int),((i+1:Nat):Int),wL (a7e k l[i] g),())) (by
    by_cases hq:a0R l[i] / 2^k<32
    have hd:decide (((a0R l[i] / 2^k:Nat):Int)<32)=true:=decide_eq_true (by omega);have r:(unL (a0R l[i] / 2^k) g).length<999999000:=by
     rw[b0R];omega
    have b:=c3D (L:=g) (n:=a0R l[i] / 2^k) (a84 (a18 hq (by simp))) (by omega);have hp:=a3h (L:=unL (a0R l[i] / 2^k) g) (v:=((a0R l[i]%2^k:Nat):Int)) (n:=k) (by omega) r;simp only[a7p,dlt a,cT,a0D a,oB,b0T c,e,cF,p,hd,u,b,d,t,hp,a7e,if_pos hq,a0C (show i<1000000 by omega)];have hd:decide (((a0R l[i] / 2^k:Nat):Int)<32)=false:=decide_eq_false (by omega);have r:=b0R 32 g;have b:a2s (wL g,(32:Int))=some (0,wL (unL 32 g)):=c3D (L:=g) (n:=32) (by omega) (by omega);have hp:a0G (wL (unL 32 g),((a0R l[i]:Nat):Int),(32:Int))=some (a8o ((a0R l[i]:Nat):Int) 32,wL (a0O ((a0R l[i]:Nat):Int) 32 (unL 32 g))):=a3h (L:=unL 32 g) (v:=((a0R l[i]:Nat):Int)) (n:=32) (by omega) (by omega);simp only[a7p,dlt a,cT,a0D a,oB,b0T c,e,cF,p,hd,b,hp,a7e,if_neg hq,a0C (show i<1000000 by omega)])]
   exact ih (i+1) _ (by omega) (by omega)
 have A:=o l.length 0 L (by omega) (by omega);simp_all[b2l,a9h]
def a1p(zn:List Nat):List Int:=zn.map fun(a:Nat)=>(a:Int)
theorem c2o(n M:Nat):(a00 n M).sum=n*M:=by
 simp
theorem b3L{o n warm:Int}(h:(a1T o n warm).length≠0):∃zn:List Nat,a1T o n warm=a1p zn∧(zn.sum:Int)=n-warm∧zn.length≤256:=by
 unfold a1T at h⊢;cases hr:(a6A n warm&&(decide (0≤o)&&decide (o≤8)))with
 |false=>simp_all
 |true=>
  rw[hr]at h;simp only[cT]at h⊢;simp[a6A]at hr;unfold b3X at h⊢
  split at h
  rename_i g;rw[if_pos g];obtain⟨O,rfl⟩:=a01 hr.2.1;obtain⟨N,rfl⟩:=a01 (show 0≤n by omega);obtain⟨w,rfl⟩:=a01 (show 0≤warm by omega);simp only[tN]at g⊢;have hp:=d4p (o:=O) (by omega);have f:=a70 N (2^O);rw[g.1,a85]at f;have k:w≤N / 2^O:=by omega
  generalize N / 2^O=M at g k f⊢;generalize 2^O=P at hp f⊢;refine⟨(M-w)::a00 (P-1) M,?_,?_,?_⟩
  grind[a1p,List.map_replicate]
  rw[a62,c2o];obtain⟨q,rfl⟩:∃q,P=q+1:=⟨P-1,by omega⟩
  grind
  simp_all;simp_all
def a9G(k:Int)(part L:List Int):List Int:=
 if k=31 then a1N (a0I part) part (a0O ((a0I part:Nat):Int) 5 (a0O (wrap .u64 k) 5 L))else a4U k.toNat part (a0O (wrap .u64 k) 5 L)
def a4V:List Nat→List Int→List Int→List Int→List Int
 |z::zs,k::ks,l,L=>a4V zs ks (l.drop z) (a9G k (l.take z) L)
 |_,_,_,L=>L
theorem b5X(h:kB k=true)(part L:List Int):L.length≤(a9G k part L).length∧(a9G k part L).length≤L.length+10+100*part.length:=by
 unfold a9G;have a:=a0V (wrap .u64 k) 5 L;split;have b:=a0V ((a0I part:Nat):Int) 5 (a0O (wrap .u64 k) 5 L);have c:=a6B (a0I part) part (a0O ((a0I part:Nat):Int) 5 (a0O (wrap .u64 k) 5 L));have f:=a6J part
 have:a0I part*part.length≤32*part.length:=a25 _ f
 omega;rename_i g;simp[kB]at h
 grind[b5p]
theorem a8p(h:i<zn.length):a87 (a1p zn) i 0=((zn[i]:Nat):Int):=by
 simp_all[a1p]
theorem a1B(h:List Nat):(a1p h).length=h.length:=by simp[a1p]
theorem b4C(h:i<zn.length):(zn.drop i).sum=zn[i]+(zn.drop (i+1)).sum:=by
 grind[a02]
theorem c3F{part rest:List Int}{wd:Nat}{a b:Int}{z:List Int}{p:Prt}(k:wd≤32)(hp:part.length<10000):∀(j i:Nat)(L:List Int),i+j=part.length→L.length+64*j<999990000→
  y0s a8F (rest,(wd:Int),a,b,part,(part.length:Int),(i:Int),z,wL L,p,())=some (rest,a,b,z,wL (a1N wd (part.drop i) L),p,())
 |0,i,L,hi,_=>by
  obtain rfl:i=part.length:=by omega
  simp_all[a0E,a8F,a1N]
 |j+1,i,L,hi,hb=>by
  have h:i<part.length:=by omega
  have g:decide ((wd:Int)<0)=false:=by simp
  have f:=a0V (a0W part[i] wd) wd L;rw[a02 h,a0F (s':=(rest,(wd:Int),a,b,part,(part.length:Int),((i+1:Nat):Int),z,wL (a0O (a0W part[i] wd) wd L),p,())) (by
   simp only[a8F,dlt h,cT,a0D h,oB,g,cF,show bits .u64 .and (wrap .u64 part[i]) (wrap .u64 ((A0n .u64 1 (wd:Int))-1))=a0W part[i] wd from rfl,a3h (show wd≤63 by omega) (show L.length<999999000 by omega),a0C (show i<1000000 by omega)])]
  exact c3F k hp j (i+1) _ (by omega) (by omega)
theorem b4b{zn:List Nat}{p:Prt}(N:p.2.1.length=zn.length)(c:p.2.1.all kB=true)(R:zn.length≤256):∀(j i:Nat)(l L:List Int),i+j=zn.length→(zn.drop i).sum=l.length→l.all a0B=true→l.length≤5000→L.length+10*j+100*l.length<800000000→
  y0s a4z (l,(zn.length:Int),(i:Int),a1p zn,wL L,p,())=some (wL (a4V (zn.drop i) (p.2.1.drop i) l L),())
 |0,i,l,L,hi,_,_,_,_=>by
  obtain rfl:i=zn.length:=by omega
  simp_all[a0E,a4z,a4V]
 |j+1,i,l,L,hi,hsum,hw,hl5,hb=>by
  have h:i<zn.length:=by omega
  have f:i<p.2.1.length:=by omega
  have s:=lA.1 c _ (a05 f);rw[b4C h]at hsum;have B:decide ((0:Int)≤(i:Int))=true:=by simp
  have C:decide ((i:Int)<(((a1p zn).length:Nat):Int))=true:=by simp_all[a1B]
  have D:decide ((0:Int)≤((zn[i]:Nat):Int))=true:=by simp
  have E:decide (((zn[i]:Nat):Int)≤((l.length:Nat):Int))=true:=by grind
  have t:(l.take zn[i]).length=zn[i]:=by simp_all
  have q:(l.drop zn[i]).length=(zn.drop (i+1)).sum:=by grind
  have w:(l.take zn[i]).all a0B=true:=lA.2 fun x A=>lA.1 hw x (a34 A);have y:(l.drop zn[i]).all a0B=true:=lA.2 fun x A=>lA.1 hw x (a35 A);have Q:=b5X s (l.take zn[i]) L;have O:=a0V (wrap .u64 p.2.1[i]) 5 L;have d:a0G (wL L,wrap .u64 p.2.1[i],(5:Int))=some (a8o (wrap .u64 p.2.1[i]) 5,wL (a0O (wrap .u64 p.2.1[i]) 5 L)):=a3h (n:=5) (by omega) (by omega);have G:zn.drop i=zn[i]::zn.drop (i+1):=a02 h;have H:p.2.1.drop i=p.2.1[i]::p.2.1.drop (i+1):=a02 f;rw[G,H,a4V];have r:a4z (l,(zn.length:Int),(i:Int),a1p zn,wL L,p,())=some (.inl (l.drop zn[i],(zn.length:Int),((i+1:Nat):Int),a1p zn,wL (a9G p.2.1[i] (l.take zn[i]) L),p,())):=by
   by_cases h31:p.2.1[i]=31
   have m:(p.2.1[i] != 31)=false:=by simp_all
   have v:=a6J (l.take zn[i]);have u:=a2q (l:=l.take zn[i]) (by unfold short;omega);have P:=a0V ((a0I (l.take zn[i]):Nat):Int) 5 (a0O (wrap .u64 p.2.1[i]) 5 L);have I:wrap .u64 ((a0I (l.take zn[i]):Nat):Int)=((a0I (l.take zn[i]):Nat):Int):=a0K (by omega);have o:a0G (wL (a0O (wrap .u64 p.2.1[i]) 5 L),((a0I (l.take zn[i]):Nat):Int),(5:Int))=some (a8o ((a0I (l.take zn[i]):Nat):Int) 5,wL (a0O ((a0I (l.take zn[i]):Nat):Int) 5 (a0O (wrap .u64 p.2.1[i]) 5 L))):=a3h (n:=5) (by omega) (by omega);have e:=c3F (part:=l.take zn[i]) (rest:=l.drop zn[i]) (a:=(zn.length:Int)) (b:=(i:Int)) (z:=a1p zn) (p:=p) v (by omega) (l.take zn[i]).length 0 (a0O ((a0I (l.take zn[i]):Nat):Int) 5 (a0O (wrap .u64 p.2.1[i]) 5 L)) (by omega) (by omega);simp only[nZ,a28]at e;simp only[a4z,dlt h,B,C,a8p h,D,E,cT,a03,tN,a0D f,oB,d,m,cF,u,I,o,a19,e,a0C (show i<1000000 by omega),a9G,if_pos h31];have m:(p.2.1[i] != 31)=true:=by simp_all
   simp[kB]at s;obtain⟨K,M⟩:=a01 (show 0≤p.2.1[i]by omega);have g:=c5J (k:=K) (l:=l.take zn[i]) (L:=a0O (wrap .u64 p.2.1[i]) 5 L) (by omega) (by omega) w (by omega);rw[←M]at g;have F:K=p.2.1[i].toNat:=by omega
   simp only[a4z,dlt h,B,C,a8p h,D,E,cT,a03,tN,a0D f,oB,d,m,g,a19,a0C (show i<1000000 by omega),a9G,if_neg h31,F]
  rw[a0F r];exact b4b N c R j (i+1) (l.drop zn[i]) _ (by omega) q.symm y (by omega) (by omega)
theorem b9V{k:Nat}(b:k≤25)(g:a0B x=true):∃c,a7G ((k:Int),x)=some c∧0≤c∧c≤65:=by
 have d:=a9L g;have f:A0o .u64 ((a0R x:Nat):Int) (k:Int)=((a0R x / 2^k:Nat):Int):=a6K (by omega);have a:wrap .i64 ((a0R x / 2^k:Nat):Int)=((a0R x / 2^k:Nat):Int):=b2W (a38 (a32 _ _) d);have h:decide ((k:Int)<0)=false:=by simp
 unfold a7G;simp only[a9h b,b0S,g,oB,bT,cF,b0T g,h,f,a];generalize a0R x / 2^k=q
 by_cases hq:q<32
 have hd:decide ((q:Int)<32)=true:=decide_eq_true (by omega);refine⟨(q:Int)+1+k,?_,by omega,by omega⟩;simp only[hd,cT]
 grind[a0A]
 grind
theorem c2p{k:Nat}(n:k≤25)(o:l.all a0B=true)(r:l.length<10000):∃c,a3m ((k:Int),l)=some c∧0≤c∧c≤65*l.length:=by
 have g:∀(j i:Nat)(c:Int),i+j=l.length→0≤c→c≤65*i→∃c',y0s a3W ((k:Int),c,l,(l.length:Int),(i:Int),())=some (c',())∧0≤c'∧c'≤65*l.length:=by
  intro j
  induction j with
  |zero=>
   intro i c hi a f;obtain rfl:i=l.length:=by omega
   simp_all[a0E,a3W]
  |succ j ih=>
   intro i c hi a f;have h:i<l.length:=by omega
   obtain⟨d,hd,b,m⟩:=b9V n (lA.1 o _ (a05 h));have e:wrap .i64 (c+d)=c+d:=a0A (by omega);rw[a0F (s':=((k:Int),c+d,l,(l.length:Int),((i+1:Nat):Int),())) (by simp only[a3W,dlt h,cT,a0D h,oB,hd,e,a0C (show i<1000000 by omega)])];exact ih (i+1) _ (by omega) (by omega) (by omega)
 obtain⟨c,f,p,q⟩:=g l.length 0 0 (by omega) (by omega) (by omega);simp_all[a3m]
theorem c8Z{n:Nat}(g:w≤32)(f:n<10000):0≤(w:Int)*(n:Int)∧(w:Int)*(n:Int)≤32*n:=by
 have h:w*n≤32*n:=a25 _ g;omega
theorem b9W(h:l.length<10000):∃c,a5T l=some c∧0≤c∧c≤5+32*l.length:=by
 have g:=c8Z (a6J l) h;refine⟨5+((a0I l:Nat):Int)*((l.length:Nat):Int),?_,by omega,by omega⟩;unfold a5T;simp only[a2q (show short l by unfold short;omega),oB]
 grind[a0A]
theorem b3u{zn:List Nat}{p:Prt}(G:p.2.1.length=zn.length)(g:p.2.1.all kB=true)(H:zn.length≤256):∀(j i:Nat)(l:List Int)(c:Int),i+j=zn.length→(zn.drop i).sum=l.length→l.all a0B=true→l.length≤5000→4≤c→c+10*j+65*l.length<1000000→
  ∃c',y0s a1A (l,c,(zn.length:Int),(i:Int),a1p zn,p,())=some (c',())∧4≤c'
 |0,i,l,c,hi,_,_,_,hc,_=>by
  obtain rfl:i=zn.length:=by omega
  simp_all[a0E,a1A]
 |j+1,i,l,c,hi,hsum,hw,hl5,hc,hb=>by
  have h:i<zn.length:=by omega
  have f:i<p.2.1.length:=by omega
  have q:=lA.1 g _ (a05 f);rw[b4C h]at hsum;have z:decide ((0:Int)≤(i:Int))=true:=by simp
  have A:decide ((i:Int)<(((a1p zn).length:Nat):Int))=true:=by simp_all[a1B]
  have B:decide ((0:Int)≤((zn[i]:Nat):Int))=true:=by simp
  have C:decide (((zn[i]:Nat):Int)≤((l.length:Nat):Int))=true:=by grind
  have s:(l.take zn[i]).length=zn[i]:=by simp_all
  have b:(l.drop zn[i]).length=(zn.drop (i+1)).sum:=by grind
  have v:(l.take zn[i]).all a0B=true:=lA.2 fun x y=>lA.1 hw x (a34 y);have w:(l.drop zn[i]).all a0B=true:=lA.2 fun x y=>lA.1 hw x (a35 y);have e:∃d,a1A (l,c,(zn.length:Int),(i:Int),a1p zn,p,())=some (.inl (l.drop zn[i],c+d,(zn.length:Int),((i+1:Nat):Int),a1p zn,p,()))∧0≤d∧d≤10+65*zn[i]:=by
   by_cases h31:p.2.1[i]=31
   have a:(p.2.1[i]==31)=true:=by simp_all
   obtain⟨r,m,t,u⟩:=b9W (l:=l.take zn[i]) (by omega);have n:wrap .i64 (5+r)=5+r:=a0A (by omega);have o:wrap .i64 (c+(5+r))=c+(5+r):=a0A (by omega);refine⟨5+r,?_,by omega,by omega⟩;simp only[a1A,dlt h,z,A,a8p h,B,C,cT,a03,tN,a0D f,oB,a,m,n,o,a19,a0C (show i<1000000 by omega)];have a:(p.2.1[i]==31)=false:=by simp_all
   simp[kB]at q;obtain⟨K,D⟩:=a01 (show 0≤p.2.1[i]by omega);obtain⟨r,m,t,u⟩:=c2p (k:=K) (by omega) v (by omega);rw[←D]at m;have n:wrap .i64 (5+r)=5+r:=a0A (by omega);have o:wrap .i64 (c+(5+r))=c+(5+r):=a0A (by omega);refine⟨5+r,?_,by omega,by omega⟩;simp only[a1A,dlt h,z,A,a8p h,B,C,cT,cF,a03,tN,a0D f,oB,a,m,n,o,a19,a0C (show i<1000000 by omega)]
  obtain⟨d,hd,E,F⟩:=e;rw[a0F hd];exact b3u G g H j (i+1) (l.drop zn[i]) _ (by omega) b.symm w (by omega) (by omega) (by omega)
structure PartsOk (p:Prt) (n warm:Int) (l:List Int) (zn:List Nat):Prop where
 may:a5L p n warm=true
 sizes:a1T p.1 n warm=a1p zn
 sum:zn.sum=l.length
 len:zn.length≤256
 ks:p.2.1.length=zn.length
 all:p.2.1.all kB=true
 wide:l.all a0B=true
 short:l.length≤5000
 row:a6A n warm=true
 rest:(l.length:Int)=n-warm
 order:0≤p.1∧p.1≤8
theorem PartsOk.of{p:Prt}{n warm:Int}{l:List Int}(h:a5L p n warm=true)(i:(l.length:Int)=n-warm)(j:l.all a0B=true)(e:l.length≤5000):∃g,PartsOk p n warm l g:=by
 have f:=h;simp only[a5L,bA,a33,beq_eq_false_iff_ne,ne_eq,beq_iff_eq]at f;obtain⟨c,o,d⟩:=f;obtain⟨g,a,m,b⟩:=b3L c;have k:a6A n warm=true∧0≤p.1∧p.1≤8:=by
  grind[a1T]
 exact⟨g,h,a,by omega,b,by simp_all[a1B],d,j,e,k.1,i,k.2⟩
theorem b1i{n warm:Int}{l:List Int}(h:a6A n warm=true)(c:(l.length:Int)=n-warm)(d:l.all a0B=true)(a:l.length≤5000):a7m (n,warm,l)=some true:=by
 have e:wrap .i64 (n-warm)=n-warm:=by
  simp[a6A]at h;exact a0A (by omega)
 have k:(((l.length:Nat):Int) != n-warm)=false:=by simp_all
 have f:b2K=a2C:=rfl;have g:short l:=by unfold short;omega
 have b:=a4F g;simp_all[a2w,a7m,b2R]
theorem b8A(h:PartsOk p n warm l zn):∃c,a4P (p,n,warm,l)=some c∧4≤c:=by
 have k:Go.Ab.short p.2.1:=by have:=h.ks;have:=h.len;unfold Go.Ab.short;omega
 have a:=h.short;have b:=h.len;obtain⟨c,g,f⟩:=b3u h.ks h.all h.len zn.length 0 l 4 (by omega) (by rw[a28];exact h.sum) h.wide h.short (by omega) (by omega);simp at g;refine⟨c,?_,f⟩;unfold a4P;simp only[b2S k,h.may,b1i h.row h.rest h.wide h.short,oB,bT,cF,a2f,h.sizes,a1B,g]
def a4v(p:Prt)(zn:List Nat)(l L:List Int):List Int:=a4V zn p.2.1 l (a0O (wrap .u64 p.1) 4 L)
theorem c3G(h:PartsOk p n warm l zn)(i:L.length<700000000):b1C (wL L,p,n,warm,l)=some (0,wL (a4v p zn l L)):=by
 have e:=h.short;have j:=h.len;obtain⟨c,a,b⟩:=b8A h;have k:(c==0)=false:=by grind
 have d:=a0V (wrap .u64 p.1) 4 L;have f:a0G (wL L,wrap .u64 p.1,(4:Int))=some (a8o (wrap .u64 p.1) 4,wL (a0O (wrap .u64 p.1) 4 L)):=a3h (n:=4) (by omega) (by omega);have g:=b4b h.ks h.all h.len zn.length 0 l (a0O (wrap .u64 p.1) 4 L) (by omega) (by rw[a28];exact h.sum) h.wide h.short (by omega);simp at g;unfold b1C;simp only[a,oB,k,cF,f,a2f,h.sizes,a1B,g,a4v]
theorem b8B{c:List Int}{wd:Nat}(k:wd≤32)(g:c.length<10000):∀(j i:Nat)(L:List Int),i+j=c.length→L.length+64*j<999990000→
  y0s a6a ((wd:Int),c,(c.length:Int),(i:Int),wL L,())=some (wL (a1N wd (c.drop i) L),())
 |0,i,L,hi,_=>by
  obtain rfl:i=c.length:=by omega
  simp_all[a0E,a6a,a1N]
 |j+1,i,L,hi,hb=>by
  have h:i<c.length:=by omega
  have f:=a0V (a0W c[i] wd) wd L;rw[a02 h,a0F (s':=((wd:Int),c,(c.length:Int),((i+1:Nat):Int),wL (a0O (a0W c[i] wd) wd L),())) (by
   simp only[a6a,dlt h,cT,a0D h,oB,b2V (show wd≤63 by omega) (show L.length<999999000 by omega),a0C (show i<1000000 by omega)])]
  exact b8B k g j (i+1) _ (by omega) (by omega)
theorem c0W{t:List Int}{n wd:Int}{s:Sub}(a:t.length=3):∀(j i:Nat)(L:List Int),i+j=3→L.length+64*j<999990000→
  y0s b0E (n,wd,t,(i:Int),wL L,s,())=some (n,wd,wL (a1N 8 (t.drop i) L),s,())
 |0,i,L,hi,_=>by
  obtain rfl:i=t.length:=by omega
  grind[a0E,b0E,a1N]
 |j+1,i,L,hi,hb=>by
  have h:i<t.length:=by omega
  have f:decide ((i:Int)<3)=true:=by grind
  have k:=a0V (a0W t[i] 8) 8 L;have g:a2N (wL L,t[i],(8:Int))=some (wL (a0O (a0W t[i] 8) 8 L)):=b2V (n:=8) (by omega) (by omega);rw[a02 h,a0F (s':=(n,wd,t,((i+1:Nat):Int),wL (a0O (a0W t[i] 8) 8 L),s,())) (by
   simp only[b0E,f,cT,a0D h,oB,g,a0C (show i<1000000 by omega)])]
  exact c0W a j (i+1) _ (by omega) (by omega)
theorem c0X{l:List Int}{n:Int}{wd:Nat}{s:Sub}(k:wd≤32)(g:l.length<10000):∀(j i:Nat)(L:List Int),i+j=l.length→L.length+64*j<999990000→
  y0s b0G (n,(wd:Int),l,(l.length:Int),(i:Int),wL L,s,())=some (n,wL (a1N wd (l.drop i) L),s,())
 |0,i,L,hi,_=>by
  obtain rfl:i=l.length:=by omega
  simp_all[a0E,b0G,a1N]
 |j+1,i,L,hi,hb=>by
  have h:i<l.length:=by omega
  have f:=a0V (a0W l[i] wd) wd L;rw[a02 h,a0F (s':=(n,(wd:Int),l,(l.length:Int),((i+1:Nat):Int),wL (a0O (a0W l[i] wd) wd L),s,())) (by
   simp only[b0G,dlt h,cT,a0D h,oB,b2V (show wd≤63 by omega) (show L.length<999999000 by omega),a0C (show i<1000000 by omega)])]
  exact c0X k g j (i+1) _ (by omega) (by omega)
def a6D(s:Stg)(L:List Int):List Int:=a0O (wrap .u64 s.2.1) 4 (a0O (wrap .u64 (wrap .i64 (s.1-1))) 5 L)
def a3j(st:List Stg)(L:List Int):List Int:=st.foldl (fun L s=>a6D s L) L
theorem b5q(s:Stg)(L:List Int):(a6D s L).length≤L.length+9:=by
 grind[a0V,a6D]
theorem b4c:∀(st:List Stg)(L:List Int),(a3j st L).length≤L.length+9*st.length
 | [],L=>by simp[a3j]
 |s::st,L=>by
  have h:=b5q s L;have g:=b4c st (a6D s L);have e:a3j (s::st) L=a3j st (a6D s L):=rfl
  grind
theorem b6W{st:List Stg}{n wd:Int}{s:Sub}(a:st.length<10000):∀(j i:Nat)(L:List Int),i+j=st.length→L.length+64*j<999990000→
  y0s b0F (n,wd,st,(st.length:Int),(i:Int),wL L,s,())=some (n,wd,wL (a3j (st.drop i) L),s,())
 |0,i,L,hi,_=>by
  obtain rfl:i=st.length:=by omega
  simp_all[a0E,b0F,a3j]
 |j+1,i,L,hi,hb=>by
  have h:i<st.length:=by omega
  have k:=a0V (wrap .u64 (wrap .i64 (st[i].1-1))) 5 L;have b:=b5q st[i] L;have g:a0G (wL L,wrap .u64 (wrap .i64 (st[i].1-1)),(5:Int))=some (a8o (wrap .u64 (wrap .i64 (st[i].1-1))) 5,wL (a0O (wrap .u64 (wrap .i64 (st[i].1-1))) 5 L)):=a3h (n:=5) (by omega) (by omega);have f:a0G (wL (a0O (wrap .u64 (wrap .i64 (st[i].1-1))) 5 L),wrap .u64 st[i].2.1,(4:Int))=some (a8o (wrap .u64 st[i].2.1) 4,wL (a6D st[i] L)):=a3h (n:=4) (by omega) (by omega);rw[a02 h,a0F (s':=(n,wd,st,(st.length:Int),((i+1:Nat):Int),wL (a6D st[i] L),s,())) (by
   simp only[b0F,dlt h,cT,a0D h,oB,g,f,a0C (show i<1000000 by omega)])]
  exact b6W a j (i+1) _ (by omega) (by omega)
def a6E(s:Sub)(L:List Int):List Int:=
 a1N (a0I s.2.2.2.2.2.1) s.2.2.2.2.2.1 (a0O ((a0I s.2.2.2.2.2.1:Nat):Int) 5 (a0O (wrap .u64 s.2.2.2.1) 4 (a0O (wrap .u64 (wrap .i64 (((s.2.2.2.2.2.1.length:Nat):Int)-1))) 5 L)))
theorem c2q{s:Sub}(h:s.2.2.2.2.2.1.length≤40)(L:List Int):(a6E s L).length≤L.length+2000:=by
 unfold a6E;have f:=a0V (wrap .u64 (wrap .i64 (((s.2.2.2.2.2.1.length:Nat):Int)-1))) 5 L;have k:=a0V (wrap .u64 s.2.2.2.1) 4 (a0O (wrap .u64 (wrap .i64 (((s.2.2.2.2.2.1.length:Nat):Int)-1))) 5 L);have a:=a0V ((a0I s.2.2.2.2.2.1:Nat):Int) 5 (a0O (wrap .u64 s.2.2.2.1) 4 (a0O (wrap .u64 (wrap .i64 (((s.2.2.2.2.2.1.length:Nat):Int)-1))) 5 L));have b:=a6B (a0I s.2.2.2.2.2.1) s.2.2.2.2.2.1 (a0O ((a0I s.2.2.2.2.2.1:Nat):Int) 5 (a0O (wrap .u64 s.2.2.2.1) 4 (a0O (wrap .u64 (wrap .i64 (((s.2.2.2.2.2.1.length:Nat):Int)-1))) 5 L)));have g:=a6J s.2.2.2.2.2.1
 have:a0I s.2.2.2.2.2.1*s.2.2.2.2.2.1.length≤32*40:=Nat.mul_le_mul g h
 omega
theorem b6X(h:s.2.2.2.2.2.1.length≤40)(l:L.length<900000000):a8E (wL L,s)=some (wL (a6E s L)):=by
 have e:=a0V (wrap .u64 (wrap .i64 (((s.2.2.2.2.2.1.length:Nat):Int)-1))) 5 L;have i:=a0V (wrap .u64 s.2.2.2.1) 4 (a0O (wrap .u64 (wrap .i64 (((s.2.2.2.2.2.1.length:Nat):Int)-1))) 5 L);have j:=a0V ((a0I s.2.2.2.2.2.1:Nat):Int) 5 (a0O (wrap .u64 s.2.2.2.1) 4 (a0O (wrap .u64 (wrap .i64 (((s.2.2.2.2.2.1.length:Nat):Int)-1))) 5 L));have k:=a6J s.2.2.2.2.2.1;have f:wrap .u64 ((a0I s.2.2.2.2.2.1:Nat):Int)=((a0I s.2.2.2.2.2.1:Nat):Int):=a0K (by omega);have a:a0G (wL L,wrap .u64 (wrap .i64 (((s.2.2.2.2.2.1.length:Nat):Int)-1)),(5:Int))=some (a8o (wrap .u64 (wrap .i64 (((s.2.2.2.2.2.1.length:Nat):Int)-1))) 5,wL (a0O (wrap .u64 (wrap .i64 (((s.2.2.2.2.2.1.length:Nat):Int)-1))) 5 L)):=a3h (n:=5) (by omega) (by omega);have b:a0G (wL (a0O (wrap .u64 (wrap .i64 (((s.2.2.2.2.2.1.length:Nat):Int)-1))) 5 L),wrap .u64 s.2.2.2.1,(4:Int))=some (a8o (wrap .u64 s.2.2.2.1) 4,wL (a0O (wrap .u64 s.2.2.2.1) 4 (a0O (wrap .u64 (wrap .i64 (((s.2.2.2.2.2.1.length:Nat):Int)-1))) 5 L))):=a3h (n:=4) (by omega) (by omega);have d:a0G (wL (a0O (wrap .u64 s.2.2.2.1) 4 (a0O (wrap .u64 (wrap .i64 (((s.2.2.2.2.2.1.length:Nat):Int)-1))) 5 L)),((a0I s.2.2.2.2.2.1:Nat):Int),(5:Int))=some (a8o ((a0I s.2.2.2.2.2.1:Nat):Int) 5,wL (a0O ((a0I s.2.2.2.2.2.1:Nat):Int) 5 (a0O (wrap .u64 s.2.2.2.1) 4 (a0O (wrap .u64 (wrap .i64 (((s.2.2.2.2.2.1.length:Nat):Int)-1))) 5 L)))):=a3h (n:=5) (by omega) (by omega);have g:=b8B (c:=s.2.2.2.2.2.1) k (by omega) s.2.2.2.2.2.1.length 0 (a0O ((a0I s.2.2.2.2.2.1:Nat):Int) 5 (a0O (wrap .u64 s.2.2.2.1) 4 (a0O (wrap .u64 (wrap .i64 (((s.2.2.2.2.2.1.length:Nat):Int)-1))) 5 L))) (by omega) (by omega);simp at g;unfold a8E;simp only[a,b,a2q (show short s.2.2.2.2.2.1 by unfold short;omega),f,d,g,oB,a6E]
def b1P(s:Sub)(L:List Int):List Int:=
 a0O ((a0I s.2.2.2.2.2.2.2.2.1:Nat):Int) 5 (a0O (wrap .u64 s.2.1) 5 (a0O (wrap .u64 s.1) 3 L))
def a2y(s:Sub)(L:List Int):List Int:=
 if s.1=2 then a0O (wrap .u64 s.2.2.1) 3 L
 else if s.1=3 then a6E s L
 else if s.1=4 then a6E s (a1N 8 s.2.2.2.2.2.2.1 (a0O (wrap .u64 (wrap .i64 (s.2.2.2.2.1-1))) 10 L))
 else if s.1=5 then a3j s.2.2.2.2.2.2.2.1 (a0O (wrap .u64 ((s.2.2.2.2.2.2.2.1.length:Nat):Int)) 2 L)
 else L
theorem c3H(h:SmallS s)(L:List Int):(a2y s L).length≤L.length+3000:=by
 have f:=h.coefs;have k:=h.taps;have g:=h.stages
 grind[a2y,a0V,c2q,a6B,b4c]
theorem b5r:∀(zs:List Nat)(ks l L:List Int),ks.all kB=true→(a4V zs ks l L).length≤L.length+10*zs.length+100*l.length
 |z::zs,k::ks,l,L,h=>by
  simp only[a07,bA]at h;have g:=b5X h.1 (l.take z) L;have f:=b5r zs ks (l.drop z) (a9G k (l.take z) L) h.2;rw[a94]at g;rw[a52]at f;simp only[a4V,lC];omega
 | [],_,_,_,_=>by simp_all[a4V]
 |_::_,[],_,_,_=>by grind[a4V]
def a5p(s:Sub)(zn:List Nat)(L:List Int):List Int:=
 if s.1=0∨s.1=1 then a1N (a0I s.2.2.2.2.2.2.2.2.1) s.2.2.2.2.2.2.2.2.1 (a2y s (b1P s L))
 else a4v s.2.2.2.2.2.2.2.2.2.1 zn s.2.2.2.2.2.2.2.2.2.2.1 (a1N (a0I s.2.2.2.2.2.2.2.2.1) s.2.2.2.2.2.2.2.2.1 (a2y s (b1P s L)))
theorem b4D(h:SmallS s)(Q:L.length<100000000):
  ∃(e:Int)(L':List Int),a9S (wL L,s,n)=some (e,wL L')∧(e=0∨L'=L)∧L'.length≤L.length+700000∧
   ((a2n s n).isSome=true→e=0∧∃a,L'=a5p s a L∧(s.1≠0∧s.1≠1→PartsOk s.2.2.2.2.2.2.2.2.2.1 n ((s.2.2.2.2.2.2.2.2.1.length:Nat):Int) s.2.2.2.2.2.2.2.2.2.2.1 a))∧((a2n s n).isSome=false→e=1∧L'=L):=by
 unfold a9S;simp only[b8x h,oB];cases hs:(a2n s n).isSome with
 |false=>exact⟨1,L,rfl,.inr rfl,by omega,fun h=>(by grind),fun _=>⟨rfl,rfl⟩⟩
 |true=>
  have hp:a1z s n:=by
   grind[a2n]
  obtain⟨O,P,hf,-,-,-,-,u,C,z,-,o⟩:=hp;have b:=c8X hf;have m:=a6J s.2.2.2.2.2.2.2.2.1;have r:short s.2.2.2.2.2.2.2.2.1:=by have:=h.warm;unfold short;omega
  have c:=h.warm;have q:=h.rest;have A:=h.stages;have B:=h.taps;have q1:=a0V (wrap .u64 s.1) 3 L;have R:=a0V (wrap .u64 s.2.1) 5 (a0O (wrap .u64 s.1) 3 L);have S:=a0V ((a0I s.2.2.2.2.2.2.2.2.1:Nat):Int) 5 (a0O (wrap .u64 s.2.1) 5 (a0O (wrap .u64 s.1) 3 L));have y:wrap .u64 ((a0I s.2.2.2.2.2.2.2.2.1:Nat):Int)=((a0I s.2.2.2.2.2.2.2.2.1:Nat):Int):=a0K (by omega);have G:a0G (wL L,wrap .u64 s.1,(3:Int))=some (a8o (wrap .u64 s.1) 3,wL (a0O (wrap .u64 s.1) 3 L)):=a3h (n:=3) (by omega) (by omega);have H:a0G (wL (a0O (wrap .u64 s.1) 3 L),wrap .u64 s.2.1,(5:Int))=some (a8o (wrap .u64 s.2.1) 5,wL (a0O (wrap .u64 s.2.1) 5 (a0O (wrap .u64 s.1) 3 L))):=a3h (n:=5) (by omega) (by omega);have v:a0G (wL (a0O (wrap .u64 s.2.1) 5 (a0O (wrap .u64 s.1) 3 L)),((a0I s.2.2.2.2.2.2.2.2.1:Nat):Int),(5:Int))=some (a8o ((a0I s.2.2.2.2.2.2.2.2.1:Nat):Int) 5,wL (b1P s L)):=a3h (n:=5) (by omega) (by omega);have I:(b1P s L).length≤L.length+13:=by unfold b1P;omega
  generalize hM:b1P s L=M at v I;have T:=c3H h M;have K:=a6B (a0I s.2.2.2.2.2.2.2.2.1) s.2.2.2.2.2.2.2.2.1 (a2y s M);have U:a0I s.2.2.2.2.2.2.2.2.1*s.2.2.2.2.2.2.2.2.1.length≤32*5000:=Nat.mul_le_mul m c;have g:=c0X (l:=s.2.2.2.2.2.2.2.2.1) (n:=n) (s:=s) m (by omega) s.2.2.2.2.2.2.2.2.1.length 0 (a2y s M) (by omega) (by omega);simp at g

  have i:=b6W (st:=s.2.2.2.2.2.2.2.1) (n:=n) (wd:=((a0I s.2.2.2.2.2.2.2.2.1:Nat):Int)) (s:=s) (by omega) s.2.2.2.2.2.2.2.1.length 0 (a0O (wrap .u64 ((s.2.2.2.2.2.2.2.1.length:Nat):Int)) 2 M) (by omega) (by grind[a0V]);have V:=a0V (wrap .u64 (wrap .i64 (s.2.2.2.2.1-1))) 10 M;have X:=a6B 8 s.2.2.2.2.2.2.1 (a0O (wrap .u64 (wrap .i64 (s.2.2.2.2.1-1))) 10 M);have j:=c0W (t:=s.2.2.2.2.2.2.1) (n:=n) (wd:=((a0I s.2.2.2.2.2.2.2.2.1:Nat):Int)) (s:=s) B 3 0 (a0O (wrap .u64 (wrap .i64 (s.2.2.2.2.1-1))) 10 M) (by rfl) (by omega);simp at i j;have D:a0G (wL M,wrap .u64 s.2.2.1,(3:Int))=some (a8o (wrap .u64 s.2.2.1) 3,wL (a0O (wrap .u64 s.2.2.1) 3 M)):=a3h (n:=3) (by omega) (by omega);have E:a0G (wL M,wrap .u64 (wrap .i64 (s.2.2.2.2.1-1)),(10:Int))=some (a8o (wrap .u64 (wrap .i64 (s.2.2.2.2.1-1))) 10,wL (a0O (wrap .u64 (wrap .i64 (s.2.2.2.2.1-1))) 10 M)):=a3h (n:=10) (by omega) (by omega);have F:a0G (wL M,wrap .u64 ((s.2.2.2.2.2.2.2.1.length:Nat):Int),(2:Int))=some (a8o (wrap .u64 ((s.2.2.2.2.2.2.2.1.length:Nat):Int)) 2,wL (a0O (wrap .u64 ((s.2.2.2.2.2.2.2.1.length:Nat):Int)) 2 M)):=a3h (n:=2) (by omega) (by omega);have w:=b6X (s:=s) h.coefs (L:=M) (by omega);have x:=b6X (s:=s) h.coefs (L:=a1N 8 s.2.2.2.2.2.2.1 (a0O (wrap .u64 (wrap .i64 (s.2.2.2.2.1-1))) 10 M)) (by omega);simp only[bT,cF,a2q r,oB,G,H,y,v];generalize hPM:a1N (a0I s.2.2.2.2.2.2.2.2.1) s.2.2.2.2.2.2.2.2.1 (a2y s M)=PM at g K

  have tail:∀(d:s.1≠0∧s.1≠1),∃a,PartsOk s.2.2.2.2.2.2.2.2.2.1 n ((s.2.2.2.2.2.2.2.2.1.length:Nat):Int) s.2.2.2.2.2.2.2.2.2.2.1 a:=fun d=>by
   simp_all[PartsOk.of]
  rcases b with k|k|k|k|k|k;have f:a2y s M=M:=by unfold a2y;grind
  rw[f]at g;refine⟨0,PM,?_,.inl rfl,by omega,fun _=>⟨rfl,[],by simp_all[a5p],fun h=>absurd k (by omega)⟩,fun h=>by grind⟩;simp only[k,show((0:Int)==2)=false from rfl,show((0:Int)==4)=false from rfl,show((0:Int)==3)=false from rfl,show((0:Int)==5)=false from rfl,cF,oB,g,a6I]
  simp
  have f:a2y s M=M:=by unfold a2y;grind
  rw[f]at g;refine⟨0,PM,?_,.inl rfl,by omega,fun _=>⟨rfl,[],by simp_all[a5p],fun h=>absurd k (by omega)⟩,fun h=>by grind⟩;simp only[k,show((1:Int)==2)=false from rfl,show((1:Int)==4)=false from rfl,show((1:Int)==3)=false from rfl,show((1:Int)==5)=false from rfl,cF,oB,g,a6I]
  simp
  all_goals
   obtain⟨a,p⟩:=tail (by omega);have Y:=c3G (L:=PM) p (by omega);have N:(a4v s.2.2.2.2.2.2.2.2.2.1 a s.2.2.2.2.2.2.2.2.2.2.1 PM).length≤L.length+700000:=by
    have Z:=a0V (wrap .u64 s.2.2.2.2.2.2.2.2.2.1.1) 4 PM;have z2:=b5r a s.2.2.2.2.2.2.2.2.2.1.2.1 s.2.2.2.2.2.2.2.2.2.2.1 (a0O (wrap .u64 s.2.2.2.2.2.2.2.2.2.1.1) 4 PM) p.all;have z3:=p.len
    grind[a4v]
   refine⟨0,a4v s.2.2.2.2.2.2.2.2.2.1 a s.2.2.2.2.2.2.2.2.2.2.1 PM,?_,.inl rfl,N,fun _=>⟨rfl,a,by simp_all[a5p],fun _=>p⟩,fun h=>by grind⟩
  have f:a2y s M=a0O (wrap .u64 s.2.2.1) 3 M:=by unfold a2y;grind
  rw[f]at g;simp only[k,show((2:Int)==2)=true from rfl,cT,D,oB,g,a6I]
  grind
  have f:a2y s M=a6E s M:=by unfold a2y;grind
  rw[f]at g;simp only[k,show((3:Int)==2)=false from rfl,show((3:Int)==4)=false from rfl,show((3:Int)==3)=true from rfl,cT,cF,w,oB,g,a6I]
  grind
  have f:a2y s M=a6E s (a1N 8 s.2.2.2.2.2.2.1 (a0O (wrap .u64 (wrap .i64 (s.2.2.2.2.1-1))) 10 M)):=by unfold a2y;grind
  rw[f]at g;simp only[k,show((4:Int)==2)=false from rfl,show((4:Int)==4)=true from rfl,cT,cF,E,j,x,oB,g,a6I]
  grind
  have f:a2y s M=a3j s.2.2.2.2.2.2.2.1 (a0O (wrap .u64 ((s.2.2.2.2.2.2.2.1.length:Nat):Int)) 2 M):=by unfold a2y;grind
  rw[f]at g;simp only[k,show((5:Int)==2)=false from rfl,show((5:Int)==4)=false from rfl,show((5:Int)==3)=false from rfl,show((5:Int)==5)=true from rfl,cT,cF,F,i,oB,g,a6I]
  grind
theorem b3M(h:List Nat):(a1p h).map a41=h:=by
 unfold a1p;rw[List.map_map]
 have:a41∘(fun(a:Nat)=>(a:Int))=id:=by rfl
 simp_all
def a5f(s:Sub)(n:Int):Int:=
 if(a2n s n).isSome=true then(((a5p s ((a1T s.2.2.2.2.2.2.2.2.2.1.1 n ((s.2.2.2.2.2.2.2.2.1.length:Nat):Int)).map a41) []).length:Nat):Int)else 0
theorem b9X(h:s.1≠0∧s.1≠1→PartsOk s.2.2.2.2.2.2.2.2.2.1 n ((s.2.2.2.2.2.2.2.2.1.length:Nat):Int) s.2.2.2.2.2.2.2.2.2.2.1 zn)(L:List Int):
  a5p s zn L=a5p s ((a1T s.2.2.2.2.2.2.2.2.2.1.1 n ((s.2.2.2.2.2.2.2.2.1.length:Nat):Int)).map a41) L:=by
 by_cases hk:s.1=0∨s.1=1
 simp_all[a5p];rw[(h (not_or.1 hk)).sizes,b3M]
theorem c6r(h:SmallS s)(n:Int):a4k (s,n)=some (a5f s n):=by
 obtain⟨e,f,g,-,-,k,c⟩:=b4D h (n:=n) (L:=[]) (by simp);have a:wL []=(([]:List Int),(0:Int),()):=rfl;rw[a]at g;obtain⟨d,-⟩:=a5W f;unfold a4k a5f;simp[g,a9b];cases hs:(a2n s n).isSome with
 |false=>
  simp_all
 |true=>
  obtain⟨rfl,i,rfl,b⟩:=k hs;rw[if_pos rfl,←b9X b];simp_all
def dif:List Int→List Int
 |a::b::r=>W (b-a)::dif (b::r)
 |_=>[]
theorem a8V:∀l:List Int,(dif l).length=l.length-1
 | []=>rfl
 | [_]=>rfl
 |a::b::r=>by simp[dif,a8V (b::r)]
theorem b9Y:∀(l:List Int)(i:Nat)(x y:Int),l[i]?=some x→l[i+1]?=some y→(dif l)[i]?=some (W (y-x))
 |a::b::r,0,x,y,h1,h2=>by simp at h1 h2;subst h1;subst h2;rfl
 |a::b::r,i+1,x,y,h1,h2=>by
  simp only[dif,List.getElem?_cons_succ]at h1 h2⊢;exact b9Y (b::r) i x y h1 h2
 | [_],0,x,y,h1,h2=>by simp_all
 | [_],i+1,x,y,h1,h2=>by simp_all
 | [],i,x,y,h1,h2=>by simp_all
def a2o:Nat→List Int→List Int
 |0,l=>l
 |o+1,l=>dif (a2o o l)
theorem a5X(l:List Int):∀o,(a2o o l).length=l.length-o
 |0=>rfl
 |o+1=>by simp only[a2o,a8V,a5X l o];omega
theorem b4E{l:List Int}(h:short l)(o:Nat):short (a2o o l):=by
 have h:l.length<1000000:=h;show(a2o o l).length<1000000;rw[a5X];omega
def b1j(l:List Int)(i:Nat):List Int:=(dif l).take i++l.drop i
theorem b3N(h:i≤l.length-1):(b1j l i).length=l.length:=by
 grind[b1j,a8V]
theorem c0Y(h:i≤l.length-1)(g:i≤j):(b1j l i).getD j 0=l.getD j 0:=by
 simp_all[a8V,b1j,List.getElem?_append_right]
theorem d0R(h:i<l.length-1):(b1j l i).set i (W (l.getD (i+1) 0-l.getD i 0))=b1j l (i+1):=by
 have e:((dif l).take i).length=i:=by grind[a8V]
 have f:l[i]?=some l[i]:=lG (by omega);have k:l[i+1]?=some l[i+1]:=lG (by omega);have hd:=b9Y l i _ _ f k;have g:i<(dif l).length:=by grind
 simp only[b1j];rw[List.set_append,if_neg (by omega),e,a56,a02 (show i<l.length by omega),a60,a49 g,aA]
 grind
theorem c7E{l:List Int}{o k:Int}(g:short l)(h:1≤l.length):y0s a5u ((0:Int),o,k,l,())=some (o,k,b1j l (l.length-1),()):=by
 have g:l.length<1000000:=g;have r:b1j l 0=l:=by rfl
 have:=a0X (f:=a5u) (fun i:Nat=>((i:Int),o,k,b1j l i,())) (l.length-1) (b:=(o,k,b1j l (l.length-1),()))
  (fun i hi=>by
   have d:wrap .i64 ((i:Int)+1)=((i+1:Nat):Int):=a0C (by omega);have c:=b3N (l:=l) (i:=i) (by omega);have a:decide (((i+1:Nat):Int)<((l.length:Nat):Int))=true:=by grind
   have e:decide ((0:Int)≤((i+1:Nat):Int))=true:=by rfl
   have m:decide ((0:Int)≤(i:Int))=true:=by simp
   have n:decide ((i:Int)<((l.length:Nat):Int))=true:=by grind
   have n1:a41 ((i+1:Nat):Int)=i+1:=by rfl
   have n2:a41 (i:Int)=i:=by rfl
   have st:=d0R (l:=l) (i:=i) (by omega);have p:=c0Y (l:=l) (i:=i) (j:=i+1) (by omega) (by omega);have q:=c0Y (l:=l) (i:=i) (j:=i) (by omega) (by omega);simp_all[a5u])
  (by
   have c:=b3N (l:=l) (i:=l.length-1) (by omega);have d:wrap .i64 (((l.length-1:Nat):Int)+1)=((l.length:Nat):Int):=by grind[a0A]
   have a:decide (((l.length:Nat):Int)<((l.length:Nat):Int))=false:=by simp
   simp_all[a5u])
 simp_all
theorem c9a{l:List Int}:(b1j l (l.length-1)).take (l.length-1)=dif l:=by
 simp_all[a48,a8V,b1j]
theorem b5s(y:o≤4)(x:o≤l.length)(g:short l)(r:l.all a0B=true):
  a4M (l,(o:Int))=some (bif (a2o o l).all a0B then(a2o o l,0)else([],6)):=by
 have q:l.length<1000000:=g;have h:=a0X (f:=a7T) (fun k:Nat=>((o:Int),(k:Int),a2o k l,())) o (b:=(a2o o l,()))
  (fun k v=>by
   have n:1≤(a2o k l).length:=by rw[a5X];omega
   have p:(a2o k l).length<1000000:=b4E g k;have j:decide ((k:Int)<(o:Int))=true:=by simp_all
   have w:=b3N (l:=a2o k l) (i:=(a2o k l).length-1) (by omega);have z:wrap .i64 ((((a2o k l).length:Nat):Int)-1)=(((a2o k l).length-1:Nat):Int):=by grind[a0A]
   have w2:wrap .i64 ((k:Int)+1)=((k+1:Nat):Int):=a0C (by omega);have s:decide ((0:Int)≤(((a2o k l).length-1:Nat):Int))=true:=by simp
   have t:decide ((((a2o k l).length-1:Nat):Int)≤(((a2o k l).length:Nat):Int))=true:=by simp
   have u:decide ((a2o k l).length-1≤(a2o k l).length)=true:=by simp
   simp_all[a2o,a7T,c7E,b4E,c9a])
  (by
   have j:decide ((o:Int)<(o:Int))=false:=by simp
   simp_all[a7T])
 have a:decide ((o:Int)<0)=false:=by simp
 have c:decide ((o:Int) > 4)=false:=by grind
 have d:decide (((l.length:Nat):Int)<(o:Int))=false:=by simp_all
 have e:lim l.length=true:=a0Q (by omega);simp at h;have m:a2o 0 l=l:=rfl;rw[m]at h;unfold a4M;simp only[a,c,d,e,cF,cT,oB,a7x g,r,bT,h,a7x (b4E g o)]
 grind
def ex:Nat→(Nat→Int)→Nat→Int
 |0,f,i=>f i
 |o+1,f,i=>ex o f (i+1)-ex o f i
theorem b7H{l:List Int}(g:l.all a0B=true):∀(o i:Nat),i+o<l.length→(a2o o l)[i]?=some (W (ex o (fun j=>l.getD j 0) i))
 |0,i,h=>by
  simp_all[a2o,ex,b5U]
 |o+1,i,h=>by
  have f:=b7H g o i (by omega);have k:=b7H g o (i+1) (by omega);simp_all[a2o,ex,b9Y,a8m]
theorem c9b(e:l.all a0B=true)(d:o≤4)(h:o+j<l.length):W (W (ex o (fun j=>l.getD j 0) j)+a6y o (l.take (o+j)))=l.getD (o+j) 0:=by
 have f:a0B (l.getD (o+j) 0)=true:=by
  simp_all
 have g:∀i:Nat,1≤i→i≤o→atB (l.take (o+j)) i=l.getD (o+j-i) 0:=fun i b c=>by
  simp[atB,a71 (a84 h),List.getElem?_take]
  grind
 have a:ex o (fun j=>l.getD j 0) j+a6y o (l.take (o+j))=l.getD (o+j) 0:=by
  have k:o=0∨o=1∨o=2∨o=3∨o=4:=by omega
  rcases k with rfl|rfl|rfl|rfl|rfl;simp[ex,a6y]
  all_goals grind[ex,a6y]
 have:W (W (ex o (fun j=>l.getD j 0) j)+a6y o (l.take (o+j)))=W (ex o (fun j=>l.getD j 0) j+a6y o (l.take (o+j))):=by
  simp_all[a8m]
 simp_all[b5U]
theorem c3I{l:List Int}(f:l.all a0B=true){o:Nat}(b:o≤4):∀(k j:Nat),o+j+k=l.length→a4m (a6y o) ((a2o o l).drop j) (l.take (o+j))=some l
 |0,j,h=>by
  rw[List.drop_of_length_le (by rw[a5X];omega),a48 (by omega)];rfl
 |k+1,j,h=>by
  have g:j<(a2o o l).length:=by rw[a5X];omega
  have a:=b7H f o j (by omega);rw[lG g]at a;have e:=Option.some.inj a;have c:l.getD (o+j) 0=l[o+j]:=by grind
  have st:=c9b f b (show o+j<l.length by omega);rw[c]at st;rw[a02 g,e];simp only[a4m,st,lA.1 f _ (a05 (show o+j<l.length by omega)),cT];have d:l.take (o+j)++[l[o+j]]=l.take (o+(j+1)):=by
   rw[show o+(j+1)=(o+j)+1 by rfl]
   simp
  rw[d];exact c3I f b k (j+1) (by omega)
theorem a7J{σ β:Type}{f:σ→Option (σ ⊕ β)}(I:Nat→σ→Prop)(Q:β→Prop)(n:Nat)(g:∀i s,i<n→I i s→∃s',f s=some (.inl s')∧I (i+1) s')
  (a:∀s,I n s→∃b,f s=some (.inr b)∧Q b):∀(k i:Nat)(s:σ),i+k=n→I i s→∃b,y0s f s=some b∧Q b
 |0,i,s,h,hi=>by
  obtain rfl:i=n:=by omega
  grind[a0E]
 |k+1,i,s,h,hi=>by
  obtain⟨s',c,d⟩:=g i s (by omega) hi;rw[a0F c];exact a7J I Q n g a k (i+1) s' (by omega) d
theorem b6Y(y:Int):0≤wrap .u64 y∧wrap .u64 y<18446744073709551616:=by
 grind[wrap,IntKind.bits,IntKind.signed]
def b1Q(n:Int)(x:Int):Bool:=a0B x&&!(a26 x (A0n .i64 1 n) != 0)
def b4F{β:Type}(n:Int)(bad:β)(out:List Int)(x:Int):List Int ⊕ β:=bif b1Q n x then .inl (out++[A0o .i64 x n])else .inr bad
def b0U(n:Int)(l:List Int):Option (List Int):=bif l.all (b1Q n)then some (l.map fun x=>A0o .i64 x n)else none
theorem b5t{β:Type}(n:Int)(h:β)(g:List Int→β):∀(l out:List Int),a9f g (a2O (b4F n h) l out)=match b0U n l with|some r=>g (out++r)|none=>h
 | [],out=>by grind[a2O,a9f,b0U]
 |x::l,out=>by
  simp only[a2O,b4F,b0U,a07];cases hx:b1Q n x with
  |true=>
   simp only[cT,a43];rw[b5t n h g l _];simp only[b0U];cases l.all (b1Q n)with
   |true=>simp
   |false=>rfl
  |false=>rfl
theorem c3J{o:Nat}(h:o≤30):A0n .i64 1 (o:Int)=((2^o:Nat):Int):=by
 have g:2^o≤2^30:=a08 (by omega) h
 have:=b7E (N:=1) (o:=o) (by omega) (by omega)
 simp_all
theorem b4d(d:o≤30)(m:l.length<100000):a7i (l,(o:Int))=some (a5i (b0U (o:Int) l)):=by
 have e:short l:=by unfold short;omega
 have g:¬ (o:Int)<0:=by omega
 have b:¬ (o:Int) > 30:=by omega
 have c:(A0n .i64 (1:Int) (o:Int)==0)=false:=by
  rw[c3J d]
  have:0<2^o:=a16 o
  grind
 unfold a7i;simp[g,b]
 have:=a2a (f:=a6Q) l (fun i out=>((o:Int),l,(l.length:Int),(i:Int),out,())) (b4F (o:Int) (Sum.inr ((6:Int),([]:List Int),())))
  (fun i out=>out.length=i) (fun out=>Sum.inl (out,()))
  (fun i h out j=>by
   have k:i<1000000:=by omega
   simp only[a6Q,dlt h,cT,a0D h,oB,b3V,b4F,b1Q,g,c,decide_false,cF];cases hb:a0B l[i]with
   |true=>
    cases hb2:(a26 l[i] (A0n .i64 1 (o:Int)) != 0)with
    |false=>
     simp only[cT,bT,cF,oB,g,decide_false,a0T (show out.length+1<1000000 by omega),a0C k,a03,a36,hb2];simp_all
    |true=>
     simp
   |false=>
    simp)
  (fun out _=>by simp[a6Q]) (a:=[]) rfl
 simp[b5t]at this;rw[this];cases b0U (o:Int) l<;>rfl
theorem b7I{o:Nat}(h:o≤30){x:Int}(k:b1Q (o:Int) x=true):a0B (A0o .i64 x (o:Int))=true∧A0n .i64 (A0o .i64 x (o:Int)) (o:Int)=x∧a0B x=true:=by
 simp only[b1Q,c3J h,bA,a33,bne_eq_false_iff_eq]at k;obtain⟨f,d⟩:=k;obtain⟨c,rfl⟩:=Int.dvd_of_tmod_eq_zero d;have g:=a1P.1 f;have e:min (a41 (o:Int)) (IntKind.bits .i64)=o:=by grind[IntKind.bits]
 have hp:(0:Int)<2^o:=Int.pow_pos (by omega);have b:((2^o:Nat):Int)=2^o:=by simp
 rw[b]at g f⊢;have a:A0o .i64 (2^o*c) (o:Int)=c:=by
  unfold A0o
  grind[a64]
 rw[a];refine⟨a1P.2 ?_,?_,f⟩;generalize (2:Int)^o=p at hp g;have i:p*c=(p-1)*c+c:=by grind
 by_cases hc:0≤c
 have:=a47 (show 0≤p-1 by omega) hc
 omega
 have:=a47 (show 0≤p-1 by omega) (show 0≤-c by omega)
 grind
 grind[A0n,a0A]
theorem d3a(h:o≤30)(hd:b0U (o:Int) l=some d):d.all a0B=true∧d.length=l.length∧upO (o:Int) d=some l:=by
 unfold b0U at hd;cases ha:l.all (b1Q (o:Int))with
 |false=>simp_all
 |true=>
  rw[ha]at hd;simp at hd;subst hd;have g:=lA.1 ha;refine⟨?_,by simp,?_⟩;simp_all[b7I];have k:(l.map fun x=>A0o .i64 x (o:Int)).all (fun x=>a0B x&&a0B (A0n .i64 x (o:Int)))=true:=by
   simp only[List.all_map];refine lA.2 fun x f=>?_
   obtain⟨b,c,e⟩:=b7I h (g x f);simp_all
  unfold upO;rw[k]
  simp
  have a:l.map ((fun x=>A0n .i64 x (o:Int))∘fun x=>A0o .i64 x (o:Int))=l.map id:=List.map_congr_left (fun x f=>(b7I h (g x f)).2.1);simp_all
theorem c7F{n warm:Int}(h:a6A n warm=true):(a1T 0 n warm).length≠0:=by
 have g:=h;simp[a6A]at g
 grind[a1T,b3X]
theorem c7G(h:-1048576≤x∧x≤1048575):v0s (v0r x (-1048576)) 1048575=x:=by
 unfold v0s v0r
 grind
theorem d6m(h:a0B x=true):-1048576≤A0o .i64 x ((10:Nat):Int)∧A0o .i64 x ((10:Nat):Int)≤1048575:=by
 have g:=a1P.1 h;have e:A0o .i64 x ((10:Nat):Int)=x / 1024:=by
  show a80 x 1024=_
  grind
 omega
theorem c0Z{x:Int}(f:a0B x=true){a l:List Int}{n i:Int}:∀(k s:Nat),s+k=10→∃s':Nat,s'≤10∧y0s a3y (a,(s:Int),x,l,n,i,())=some (a,(s':Int),l,n,i,())
 |0,s,h=>by
  obtain rfl:s=10:=by omega
  have g:decide (((10:Nat):Int)<0)=false:=by rfl
  have d:=c7G (d6m f);refine⟨10,a27 _,a0E ?_⟩;simp_all[a3y,a2F]
 |k+1,s,h=>by
  have g:decide ((s:Int)<0)=false:=decide_eq_false (by omega);cases hc:(v0s (v0r (A0o .i64 x (s:Int)) (-1048576)) 1048575 != A0o .i64 x (s:Int))with
  |false=>exact⟨s,by omega,a0E (by simp only[a3y,g,cF,a2F,oB,hc])⟩
  |true=>
   obtain⟨s',b,c⟩:=c0Z f (a:=a) (l:=l) (n:=n) (i:=i) k (s+1) (by omega);refine⟨s',b,?_⟩;rw[a0F (s':=(a,((s+1:Nat):Int),x,l,n,i,())) (by simp only[a3y,g,cF,a2F,oB,hc,cT,a0C (show s<1000000 by omega)])];omega
theorem c5K(v:l.all a0B=true)(z:l.length<100000):∃r,a7X l=some r∧r.length=l.length:=by
 obtain⟨b,x,s,y,u⟩:=a7J (f:=a5A) (fun i st=>∃s:Nat,s≤10∧st=(l,(s:Int),l,(l.length:Int),(i:Int),())) (fun b=>∃s:Nat,s≤10∧b=(l,(s:Int),())) l.length
  (fun i st hi h=>by
   obtain⟨s,p,rfl⟩:=h;obtain⟨s',g,e⟩:=c0Z (lA.1 v _ (a05 hi)) (a:=l) (l:=l) (n:=(l.length:Int)) (i:=(i:Int)) (10-s) s (by omega);exact⟨_,by simp only[a5A,dlt hi,cT,a0D hi,oB,e,a0C (show i<1000000 by omega)]<;>rfl,s',g,rfl⟩)
  (fun st h=>by
   obtain⟨s,p,rfl⟩:=h;exact⟨_,by simp_all[a5A],s,p,rfl⟩) l.length 0 _ (by omega) ⟨0,by omega,rfl⟩
 subst u;obtain⟨c,w,o,q,t⟩:=a7J (f:=a5B) (fun i st=>∃o:List Int,st=((s:Int),l,(l.length:Int),(i:Int),o,())∧o.length=l.length) (fun b=>∃o:List Int,b=(o,())∧o.length=l.length) l.length
  (fun i st hi h=>by
   obtain⟨o,rfl,m⟩:=h;have k:decide ((s:Int)<0)=false:=decide_eq_false (by omega);have d:decide ((0:Int)≤(i:Int))=true:=by simp
   have j:decide ((i:Int)<((o.length:Nat):Int))=true:=decide_eq_true (by omega);exact⟨_,by simp only[a5B,dlt hi,cT,a0D hi,oB,k,cF,d,j,a03,a0C (show i<1000000 by omega)]<;>rfl,_,rfl,by grind⟩)
  (fun st h=>by
   obtain⟨o,rfl,m⟩:=h;exact⟨_,by simp_all[a5B],o,rfl,m⟩) l.length 0 _ (by omega) ⟨a00 l.length 0,rfl,by simp⟩
 subst q;refine⟨o,?_,t⟩;have k:decide ((0:Int)≤((l.length:Nat):Int))=true:=by simp
 have d:decide (((l.length:Nat):Int)≤((l.length:Nat):Int))=true:=by simp
 have j:lim l.length=true:=a0T (by omega);simp_all[a7X]
theorem b8C:∀(N:Nat)(num den:Int),den.toNat≤N→∃a b,y0s a3p (num,den,())=some (a,b,())
 |N,num,den,h=>by
  by_cases hd:den≥1099511627776
  ·have g:decide (den≥(1099511627776:Int))=true:=decide_eq_true hd;have e:A0o .i64 den 1=den / 2:=by
    show a80 den 2=_
    grind
   rw[a0F (s':=(A0o .i64 num 1,den / 2,())) (by simp_all[a3p])]
   match N with
   |0=>omega
   |N+1=>exact b8C N _ _ (by omega)
  have g:decide (den≥(1099511627776:Int))=false:=decide_eq_false hd;exact⟨num,den,a0E (by simp only[a3p,g,cF])⟩
theorem b8D{f:List Int}(t:1≤m)(r:g.length=f.length)(s:f.length<100000)(q:m<1000):∃k,a5a (f,g,(m:Int))=some k:=by
 obtain⟨b,n,d,den,o⟩:=a7J (f:=a3o) (fun i st=>∃d den:Int,st=(f,g,d,den,((m+i:Nat):Int),())) (fun b=>∃d den:Int,b=(d,den,())) (f.length-m)
  (fun i st hi h=>by
   obtain⟨d,den,rfl⟩:=h;have j:m+i<f.length:=by omega
   have e:wrap .i64 (((m+i:Nat):Int)-1)=((m+i-1:Nat):Int):=by grind[a0A]
   exact⟨_,by simp only[a3o,dlt j,cT,a0D j,e,a0D (show m+i-1<g.length by omega),oB,a0C (show m+i<1000000 by omega)]<;>rfl,_,_,rfl⟩)
  (fun st h=>by
   obtain⟨d,den,rfl⟩:=h;have l:decide (((m+(f.length-m):Nat):Int)<((f.length:Nat):Int))=false:=decide_eq_false (by omega);exact⟨_,by simp only[a3o,l,cF]<;>rfl,_,_,rfl⟩) (f.length-m) 0 (f,g,0,0,(m:Int),()) (by omega) ⟨0,0,rfl⟩
 subst o;obtain⟨a,c,p⟩:=b8C den.toNat d den (a27 _);unfold a5a;simp[n,p];cases hc:(c==0)with
 |true=>simp
 |false=>
  simp
  cases decide ((A0n .i64 a 15).tmod c<0)<;>exact⟨_,rfl⟩
theorem c2r{f:List Int}{order:Int}(x:1≤m)(r:g.length=f.length)(w:f.length<100000)(s:m<1000):
  ∃f' a:List Int,y0s a3e (order,(m:Int),k,((f.length:Nat):Int)-1,f,g,ks,())=some (order,(m:Int),f',a,ks,())∧f'.length=f.length∧a.length=f.length:=by
 obtain⟨b,t,f',a,u,v⟩:=a7J (f:=a3e) (fun i st=>∃f' a:List Int,st=(order,(m:Int),k,((f.length:Nat):Int)-1-(i:Int),f',a,ks,())∧f'.length=f.length∧a.length=f.length)
  (fun b=>∃f' a:List Int,b=(order,(m:Int),f',a,ks,())∧f'.length=f.length∧a.length=f.length) (f.length-m)
  (fun i st hi h=>by
   obtain⟨f',a,rfl,c,d⟩:=h;have j:decide (((f.length:Nat):Int)-1-(i:Int)≥(m:Int))=true:=decide_eq_true (by omega);have l:decide ((0:Int)≤((f.length:Nat):Int)-1-(i:Int))=true:=decide_eq_true (by omega);have n:decide (((f.length:Nat):Int)-1-(i:Int)<((f'.length:Nat):Int))=true:=decide_eq_true (by omega);have o:decide (((f.length:Nat):Int)-1-(i:Int)<((a.length:Nat):Int))=true:=decide_eq_true (by omega);have e:wrap .i64 (((f.length:Nat):Int)-1-(i:Int)-1)=((f.length:Nat):Int)-1-((i+1:Nat):Int):=by grind[a0A]
   have p:decide ((0:Int)≤((f.length:Nat):Int)-1-((i+1:Nat):Int))=true:=decide_eq_true (by omega);have q:decide (((f.length:Nat):Int)-1-((i+1:Nat):Int)<((a.length:Nat):Int))=true:=decide_eq_true (by omega);exact⟨_,by simp only[a3e,j,l,n,o,e,p,q,cT,a03,a2F,oB]<;>rfl,_,_,rfl,by simp_all,by simp_all⟩)
  (fun st h=>by
   obtain⟨f',a,rfl,c,d⟩:=h;have j:decide (((f.length:Nat):Int)-1-((f.length-m:Nat):Int)≥(m:Int))=false:=decide_eq_false (by omega);exact⟨_,by simp only[a3e,j,cF]<;>rfl,f',a,rfl,c,d⟩) (f.length-m) 0 _ (by omega) ⟨f,g,rfl,rfl,r⟩
 grind
theorem c3K{f:List Int}(x:o≤32)(v:g.length=f.length)(w:f.length<100000):∃ks:List Int,y0s a3f ((o:Int),(1:Int),f,g,([]:List Int),())=some (ks,())∧ks.length=o:=by
 obtain⟨b,p,ks,t,u⟩:=a7J (f:=a3f) (fun i st=>∃f' a ks:List Int,st=((o:Int),((i+1:Nat):Int),f',a,ks,())∧f'.length=f.length∧a.length=f.length∧ks.length=i)
  (fun b=>∃ks:List Int,b=(ks,())∧ks.length=o) o
  (fun i st hi h=>by
   obtain⟨f',a,ks,rfl,j,l,q⟩:=h;have d:decide (((i+1:Nat):Int)≤(o:Int))=true:=decide_eq_true (by omega);obtain⟨k,n⟩:=b8D (f:=f') (g:=a) (m:=i+1) (by omega) (by omega) (by omega) (by omega);have e:wrap .i64 (((f'.length:Nat):Int)-1)=((f'.length:Nat):Int)-1:=a0A (by omega);obtain⟨r,s,p,t,u⟩:=c2r (f:=f') (g:=a) (ks:=ks++[k]) (m:=i+1) (order:=(o:Int)) (k:=k) (by omega) (by omega) (by omega) (by omega);have c:lim (ks.length+1)=true:=a0T (by omega);exact⟨_,by simp only[a3f,d,cT,n,oB,c,e,a06,p,a0C (show i+1<1000000 by omega)]<;>rfl,r,s,ks++[k],rfl,by omega,by omega,by grind⟩)
  (fun st h=>by
   obtain⟨f',a,ks,rfl,j,l,q⟩:=h;have d:decide (((o+1:Nat):Int)≤(o:Int))=false:=decide_eq_false (by omega);exact⟨_,by simp only[a3f,d,cF]<;>rfl,ks,rfl,q⟩) o 0 _ (by omega) ⟨f,g,[],rfl,rfl,v,rfl⟩
 simp_all
theorem c3L(h:l.all a0B=true)(t:l.length≤4096)(s:1≤o)(m:o≤32):∃ks:List Int,a6T (l,(o:Int))=some (ks,0)∧ks.length=o:=by
 have p:short l:=by unfold short;omega
 obtain⟨r,e,q⟩:=c5K h (by omega);have n:short r:=by unfold short;omega
 obtain⟨ks,i,j⟩:=c3K (f:=r) (g:=r) m rfl (by omega);have k:decide ((o:Int)<1)=false:=decide_eq_false (by omega);have a:decide ((o:Int) > 32)=false:=decide_eq_false (by omega);have b:decide (((l.length:Nat):Int) > 4096)=false:=decide_eq_false (by omega);have c:decide ((0:Int)≤(o:Int))=true:=by simp
 have d:lim o=true:=a0T (by omega);refine⟨ks,?_,j⟩;unfold a6T;simp only[k,a,b,c,d,cF,cT,oB,a6i p,h,bT,e,a8n n,tN,a03,i]
theorem b2X{σ β:Type}{f:σ→Option (σ ⊕ β)}(I:Nat→σ→Prop)(Q:β→Prop)(n:Nat)(g:∀i s,i<n→I i s→(∃s',f s=some (.inl s')∧I (i+1) s')∨(∃b,f s=some (.inr b)∧Q b))
  (a:∀s,I n s→∃b,f s=some (.inr b)∧Q b):∀(k i:Nat)(s:σ),i+k=n→I i s→∃b,y0s f s=some b∧Q b
 |0,i,s,h,hi=>by
  obtain rfl:i=n:=by omega
  grind[a0E]
 |k+1,i,s,h,hi=>by
  rcases g i s (by omega) hi with⟨s',c,d⟩|⟨b,c,d⟩;rw[a0F c];exact b2X I Q n g a k (i+1) s' (by omega) d;simp_all[a0E]
theorem c5L(g:ks.length≤32):∃b,y0s a2k (ks,ks,(ks.length:Int),(0:Int),())=some b∧(b=.inl (ks,())∨b=.inr (([]:List Int),(1:Int),())):=
 b2X (f:=a2k) (fun i s=>s=(ks,ks,(ks.length:Int),(i:Int),())) (fun b=>b=.inl (ks,())∨b=.inr (([]:List Int),(1:Int),())) ks.length
  (fun i s hi h=>by
   subst h;cases h1:decide (ks[i]<(-16383:Int))with
   |true=>exact Or.inr ⟨_,by simp_all[a2k,a0D],Or.inr rfl⟩
   |false=>
    cases h2:decide (ks[i] > (16383:Int))with
    |true=>exact Or.inr ⟨_,by simp_all[a2k,a0D],Or.inr rfl⟩
    |false=>exact Or.inl ⟨_,by simp only[a2k,dlt hi,cT,cF,a0D hi,oB,h1,h2,a0C (show i<1000000 by omega)]<;>rfl,rfl⟩)
  (fun s h=>by
   subst h;exact⟨_,by simp_all[a2k],Or.inl rfl⟩) ks.length 0 _ (by omega) rfl
theorem c5M{a:List Int}(t:c.length=i)(hi:i≤32):
  ∃g:List Int,y0s a4f (c,(i:Int),k,a,n,(i:Int),c,(c.length:Int),(0:Int),([]:List Int),())=some (k,a,n,(i:Int),g,())∧g.length=i:=by
 obtain⟨b,p,g,q,r⟩:=a7J (f:=a4f) (fun j s=>∃g:List Int,s=(c,(i:Int),k,a,n,(i:Int),c,(c.length:Int),(j:Int),g,())∧g.length=j)
  (fun b=>∃g:List Int,b=(k,a,n,(i:Int),g,())∧g.length=c.length) c.length
  (fun j s e h=>by
   obtain⟨g,rfl,l⟩:=h;have m:wrap .i64 ((i:Int)-1)=(i:Int)-1:=a0A (by omega);have o:wrap .i64 ((i:Int)-1-(j:Int))=((i-1-j:Nat):Int):=by grind[a0A]
   have d:lim (g.length+1)=true:=a0T (by omega);exact⟨_,by simp only[a4f,dlt e,cT,a0D e,oB,m,o,a0D (show i-1-j<c.length by omega),d,a0C (show j<1000000 by omega),a06]<;>rfl,_,rfl,by grind⟩)
  (fun s h=>by
   obtain⟨g,rfl,l⟩:=h;exact⟨_,by simp_all[a4f],g,rfl,l⟩) c.length 0 _ (by omega) ⟨[],rfl,rfl⟩
 simp_all
theorem c7H(x:1≤ks.length)(v:ks.length≤32):∃c e,a8G ks=some (c,e)∧(e=0→c.length=ks.length):=by
 obtain⟨b,o,p⟩:=c5L v;have d:decide (((ks.length:Nat):Int)<1)=false:=decide_eq_false (by omega);have j:decide (((ks.length:Nat):Int) > 32)=false:=decide_eq_false (by omega);unfold a8G;simp[d,j,o];rcases p with rfl|rfl;obtain⟨r,q,c,t,u⟩:=a7J (f:=a6b) (fun i s=>∃c:List Int,s=(c,ks,(ks.length:Int),(i:Int),())∧c.length=i) (fun r=>∃c:List Int,r=(c,())∧c.length=ks.length) ks.length
  (fun i s hi h=>by
   obtain⟨c,rfl,g⟩:=h;have m:wrap .i64 ((i:Int)+1)=((i+1:Nat):Int):=a0C (by omega);have l:decide ((0:Int)≤((i+1:Nat):Int))=true:=by rfl
   have l1:lim (i+1)=true:=a0T (by omega);obtain⟨w,n1,n2⟩:=c5M (c:=c) (a:=ks) (i:=i) (k:=ks[i]) (n:=(ks.length:Int)) g (by omega);have l2:lim (w.length+1)=true:=a0T (by omega);exact⟨_,by simp only[a6b,dlt hi,cT,a0D hi,oB,m,l,tN,l1,a03,n1,l2,a06]<;>rfl,_,rfl,by grind⟩)
  (fun s h=>by
   obtain⟨c,rfl,g⟩:=h;exact⟨_,by simp_all[a6b],c,rfl,g⟩) ks.length 0 _ (by omega) ⟨[],rfl,rfl⟩
 subst t;simp at q;exact⟨c,0,by simp_all,fun _=>u⟩
 grind
theorem c5N{s:Nat}{half:Int}(m:c.length≤32)(d:w≤32):
  ∃out:List Int,y0s a2m (c,(w:Int),(s:Int),half,c,(c.length:Int),(0:Int),([]:List Int),())=some (c,(w:Int),(s:Int),out,()):=by
 obtain⟨b,i,out,l⟩:=b2X (f:=a2m) (fun j st=>∃out:List Int,st=(c,(w:Int),(s:Int),half,c,(c.length:Int),(j:Int),out,())∧out.length=j)
  (fun b=>∃out:List Int,b=(c,(w:Int),(s:Int),out,())) c.length
  (fun j st k h=>by
   obtain⟨out,rfl,e⟩:=h;have a:decide ((s:Int)<0)=false:=decide_eq_false (by omega);have g:lim (out.length+1)=true:=a0T (by omega);cases hf:a1o (A0o .i64 (wrap .i64 (c[j]+half)) (s:Int)) (w:Int)with
   |true=>exact Or.inl ⟨_,by simp only[a2m,dlt k,cT,a0D k,oB,a,cF,a6C d,hf,bT,g,a0C (show j<1000000 by omega),a06]<;>rfl,_,rfl,by grind⟩
   |false=>exact Or.inr ⟨_,by simp only[a2m,dlt k,cT,a0D k,oB,a,cF,a6C d,hf,a36]<;>rfl,out,rfl⟩)
  (fun st h=>by
   obtain⟨out,rfl,e⟩:=h;exact⟨_,by simp_all[a2m],out,rfl⟩) c.length 0 _ (by omega) ⟨[],rfl,rfl⟩
 simp_all
theorem c5O{w:Int}(g:c.length≤32):∃b,y0s a2l (c,w,c,(c.length:Int),(0:Int),())=some b∧(b=.inl (c,w,())∨b=.inr ((0:Int),(1:Int),([]:List Int),())):=
 b2X (f:=a2l) (fun i s=>s=(c,w,c,(c.length:Int),(i:Int),())) (fun b=>b=.inl (c,w,())∨b=.inr ((0:Int),(1:Int),([]:List Int),())) c.length
  (fun i s hi h=>by
   subst h;cases h1:decide (c[i]<(-35184372088832:Int))with
   |true=>exact Or.inr ⟨_,by simp_all[a2l,a0D],Or.inr rfl⟩
   |false=>
    cases h2:decide (c[i] > (35184372088832:Int))with
    |true=>exact Or.inr ⟨_,by simp_all[a2l,a0D],Or.inr rfl⟩
    |false=>exact Or.inl ⟨_,by simp only[a2l,dlt hi,cT,cF,a0D hi,oB,h1,h2,a0C (show i<1000000 by omega)]<;>rfl,rfl⟩)
  (fun s h=>by
   subst h;exact⟨_,by simp_all[a2l],Or.inl rfl⟩) c.length 0 _ (by omega) rfl
theorem c7I(z:1≤c.length)(n:c.length≤32)(B:2≤w∧w≤16):∃o sh e,a8H (c,(w:Int))=some (o,sh,e)∧(e=0→o.length=c.length):=by
 obtain⟨b,v,x⟩:=c5O (w:=(w:Int)) n;have p:decide (((c.length:Nat):Int)<1)=false:=decide_eq_false (by omega);have q:decide (((c.length:Nat):Int) > 32)=false:=decide_eq_false (by omega);have t:decide ((w:Int)<2)=false:=decide_eq_false (by omega);have u:decide ((w:Int) > 16)=false:=decide_eq_false (by omega);unfold a8H;simp[p,q,t,u,v];rcases x with rfl|rfl
 ·obtain⟨r,A,y⟩:=b2X (f:=a2S) (fun i s=>s=(c,(w:Int),(i:Int),())) (fun r=>r=.inl ()∨∃(sh:Int)(o:List Int),r=.inr (sh,(0:Int),o,())∧o.length=c.length) 15
   (fun i s hi h=>by
    subst h;have d:decide ((i:Int)≤14)=true:=decide_eq_true (by omega);have j:decide ((0:Int)≤((c.length:Nat):Int))=true:=by simp
    have l1:lim c.length=true:=a0T (by omega);have k:∀g:Int,∃o:List Int,y0s a2m (c,(w:Int),(i:Int),g,c,(c.length:Int),(0:Int),([]:List Int),())=some (c,(w:Int),(i:Int),o,()):=fun g=>c5N n (by omega)
    by_cases hp:(i:Int) > 0
    ·have m:wrap .i64 ((i:Int)-1)=(i:Int)-1:=a0A (by omega);have l:decide ((i:Int)-1<0)=false:=decide_eq_false (by omega);obtain⟨o,a⟩:=k (A0n .i64 1 ((i:Int)-1));cases hc:((((o.length:Nat):Int))==((c.length:Nat):Int))with
     |true=>exact Or.inr ⟨_,by simp only[a2S,d,cT,hp,decide_true,m,l,cF,oB,j,tN,l1,a03,a,hc]<;>rfl,Or.inr ⟨_,o,rfl,by grind⟩⟩
     |false=>exact Or.inl ⟨_,by simp only[a2S,d,cT,hp,decide_true,m,l,cF,oB,j,tN,l1,a03,a,hc,a0C (show i<1000000 by omega)]<;>rfl,rfl⟩
    ·obtain⟨o,a⟩:=k 0;cases hc:((((o.length:Nat):Int))==((c.length:Nat):Int))with
     |true=>exact Or.inr ⟨_,by simp only[a2S,d,cT,hp,decide_false,cF,oB,j,tN,l1,a03,a,hc]<;>rfl,Or.inr ⟨_,o,rfl,by grind⟩⟩
     |false=>exact Or.inl ⟨_,by simp only[a2S,d,cT,hp,decide_false,cF,oB,j,tN,l1,a03,a,hc,a0C (show i<1000000 by omega)]<;>rfl,rfl⟩)
   (fun s h=>by
    subst h;have d:decide (((15:Nat):Int)≤14)=false:=by rfl
    exact⟨_,by rfl,Or.inl rfl⟩) 15 0 (c,(w:Int),(0:Int),()) (by rfl) rfl
  rcases y with rfl|⟨sh,o,rfl,a⟩;exact⟨[],0,6,by simp_all,fun h=>absurd h (by simp)⟩;exact⟨o,sh,0,by simp_all,fun _=>a⟩
 grind
theorem c9c(j:l.all a0B=true)(d:l.length≤4096)(k:1≤o)(a:o≤32)(b:2≤w∧w≤16):∃c sh e,a3X (l,(o:Int),(w:Int))=some (c,sh,e)∧(e=0→c.length=o):=by
 obtain⟨ks,g,n⟩:=c3L j d k a;obtain⟨c,e,f,p⟩:=c7H (ks:=ks) (by omega) (by omega);unfold a3X;simp[g,f]
 by_cases he:e=0
 subst he;obtain⟨s,sh,m,q,r⟩:=c7I (c:=c) (w:=w) (by omega) (by omega) b
 grind
 have i:(e != 0)=true:=by simp_all
 exact⟨[],0,e,by grind,fun h=>absurd h he⟩
theorem c7J(a:l.length<100000)(c:o≤4):∃v,a9B (l,(o:Int))=some v:=by
 obtain⟨b,g,v,k⟩:=a7J (f:=a4Q) (fun i s=>∃v:Int,s=((o:Int),v,l,(l.length:Int),(i:Int),())) (fun b=>∃v:Int,b=(v,())) l.length
  (fun i s hi h=>by
   obtain⟨v,rfl⟩:=h;cases hc:decide (wrap .i64 ((i:Int)+(o:Int))≥4)with
   |true=>exact⟨_,by simp only[a4Q,dlt hi,cT,a0D hi,oB,hc,a0C (show i<1000000 by omega)]<;>rfl,_,rfl⟩
   |false=>exact⟨_,by simp only[a4Q,dlt hi,cT,cF,a0D hi,oB,hc,a0C (show i<1000000 by omega)]<;>rfl,_,rfl⟩)
  (fun s h=>by
   obtain⟨v,rfl⟩:=h;exact⟨_,by simp_all[a4Q],v,rfl⟩) l.length 0 ((o:Int),(0:Int),l,(l.length:Int),(0:Int),()) (by omega) ⟨0,rfl⟩
 simp_all[a9B]
theorem b8E(h:o≤4)(b:l.length<100000)(g:l.all a0B=true):∃r e,a4M (l,(o:Int))=some (r,e)∧r.length≤l.length:=by
 by_cases hn:o≤l.length
 ·rw[b5s h hn (by unfold short;omega) g];cases (a2o o l).all a0B with
  |true=>exact⟨_,_,rfl,by rw[a5X];omega⟩
  |false=>simp
 have f:decide ((o:Int)<0)=false:=decide_eq_false (by omega);have k:decide ((o:Int) > 4)=false:=decide_eq_false (by omega);have a:decide (((l.length:Nat):Int)<(o:Int))=true:=decide_eq_true (by omega);simp_all[a4M]
theorem b8F(d:l.length<100000)(j:l.all a0B=true):∃o:Nat,a6r l=some (o:Int)∧o≤4:=by
 obtain⟨b,n,o,p,q⟩:=a7J (f:=a3M) (fun i s=>∃(o:Nat)(v:Int),s=(l,(o:Int),v,(i:Int),())∧o≤4) (fun b=>∃o:Nat,b=((o:Int),())∧o≤4) 5
  (fun i s hi h=>by
   obtain⟨o,v,rfl,a⟩:=h;have g:decide ((i:Int)≤4)=true:=decide_eq_true (by omega);obtain⟨r,e,k,m⟩:=b8E (o:=i) (by omega) d j;obtain⟨y,c⟩:=c7J (l:=r) (o:=i) (by omega) (by omega);cases hc:(e != 0)with
   |true=>exact⟨_,by simp only[a3M,g,cT,k,oB,hc,a0C (show i<1000000 by omega)]<;>rfl,o,v,rfl,a⟩
   |false=>
    cases h4:decide (v<0)with
    |true=>exact⟨_,by simp only[a3M,g,cT,cF,k,oB,hc,c,h4,a0C (show i<1000000 by omega)]<;>rfl,i,y,rfl,by omega⟩
    |false=>
     cases h5:decide (y<v)with
     |true=>exact⟨_,by simp only[a3M,g,cT,cF,k,oB,hc,c,h4,h5,a0C (show i<1000000 by omega)]<;>rfl,i,y,rfl,by omega⟩
     |false=>exact⟨_,by simp only[a3M,g,cT,cF,k,oB,hc,c,h4,h5,a0C (show i<1000000 by omega)]<;>rfl,o,v,rfl,a⟩)
  (fun s h=>by
   obtain⟨o,v,rfl,a⟩:=h;have g:decide (((5:Nat):Int)≤4)=false:=by rfl
   exact⟨_,by rfl,o,rfl,a⟩) 5 0 (l,(0:Int),(-1:Int),(0:Int),()) (by rfl) ⟨0,-1,rfl,by omega⟩
 grind[a6r]
def a9H(g:List Int→Int):List Int→List Int→List Int
 | [],_=>[]
 |x::r,done=>W (x-g done)::a9H g r (done++[x])
theorem b2Y(g:List Int→Int):∀r done,(a9H g r done).length=r.length
 | [],_=>rfl
 |x::r,done=>by simp[a9H,b2Y g r]
theorem c9d{x g:Int}(h:a0B x=true):W (W (x-g)+g)=x:=by
 have:=b5U h
 simp_all[a8m]
theorem b4G(g:List Int→Int):∀(r done:List Int),r.all a0B=true→a4m g (a9H g r done) done=some (done++r)
 | [],done,_=>by simp[a9H,a4m]
 |x::r,done,h=>by
  rw[a07,bA]at h;simp only[a9H,a4m,c9d h.1,h.1,cT,b4G g r (done++[x]) h.2,aA,a75]
def b1R(g:List Int→Int)(r done:List Int):Option (List Int):=bif (a9H g r done).all a0B then some (a9H g r done)else none
def b3v{β:Type}(g:List Int→Int)(bad:β)(a:List Int×List Int)(x:Int):(List Int×List Int) ⊕ β:=
 bif a0B (W (x-g a.1))then .inl (a.1++[x],a.2++[W (x-g a.1)])else .inr bad
theorem b4H{β:Type}(g:List Int→Int)(f:β)(k:List Int×List Int→β):∀(r done acc:List Int),
  a9f k (a2O (b3v g f) r (done,acc))=match b1R g r done with|some e=>k (done++r,acc++e)|none=>f
 | [],done,acc=>by grind[a2O,a9f,b1R,a9H]
 |x::r,done,acc=>by
  simp[a2O,b3v];cases h:a0B (W (x-g done))with
  |true=>
   simp
   rw[b4H g f k r];simp only[b1R,a9H,a07,h,a43]
   grind
  |false=>simp_all[a9f,b1R,a9H]
theorem b8G{g:List Int→Int}{done e:List Int}(h:b1R g r done=some e):e=a9H g r done∧e.all a0B=true:=by
 unfold b1R at h
 grind
theorem c1a(h:i<l.length):l.take i++[l[i]]=l.take (i+1):=by simp
theorem b7J{l:List Int}{p:Int→Bool}(h:l.all p=true)(i:Nat):(l.take i).all p=true:=by
 grind
theorem d0S{p:Int→Bool}(h:l.all p=true)(i:Nat):(l.drop i).all p=true:=by
 grind
theorem c1b{σ β:Type}{f:σ→Option (σ ⊕ β)}(l:List Int)(k:Nat)(q:k≤l.length)(S:Nat→List Int→σ)(g:List Int×List Int→Int→(List Int×List Int) ⊕ β)(d:List Int→β)
  (j:∀i (h:i<l.length) c,k≤i→c.length=i-k→(∀a',g (l.take i,c) l[i]=.inl a'→f (S i c)=some (.inl (S (i+1) a'.2))∧a'.1=l.take (i+1)∧a'.2.length=i+1-k)∧(∀b,g (l.take i,c) l[i]=.inr b→f (S i c)=some (.inr b)))
  (e:∀c,c.length=l.length-k→f (S l.length c)=some (.inr (d c))):y0s f (S k [])=some (a9f (fun a=>d a.2) (a2O g (l.drop k) (l.take k,[]))):=by
 have h:=a2a (f:=f) (l.drop k) (fun i a=>S (k+i) a.2) g (fun i a=>a.1=l.take (k+i)∧a.2.length=i) (fun a=>d a.2)
  (fun i hi a n=>by
   obtain⟨a1,c⟩:=a;obtain⟨m,o⟩:=n;simp only at m o;subst m;rw[a52]at hi;have p:k+i<l.length:=by omega
   grind)
  (fun a n=>by
   simp_all) (a:=(l.take k,[])) ⟨by simp,rfl⟩
 omega
def b4I(l c:List Int)(s:Int):Option (List Int):=bif l.all a0B then b1R (b1f c s) (l.drop c.length) (l.take c.length)else none
theorem b4e{s:Int}(v:a9K c s=true)(t:c.length≤l.length)(y:l.length<100000):
  a7l (l,c,s)=some (a5i (b4I l c s)):=by
 have m:short l:=by unfold short;omega
 have k:short c:=by unfold short;omega
 have d:0≤s:=by simp_all[a9K]
 have o:decide (((l.length:Nat):Int)<((c.length:Nat):Int))=false:=by simp_all
 unfold a7l b4I;simp only[a9E k,v,oB,bT,cF,o,a6i m];cases hw:l.all a0B with
 |false=>rfl
 |true=>
  have p:wrap .i64 (((l.length:Nat):Int)-((c.length:Nat):Int))=((l.length-c.length:Nat):Int):=by grind[a0A]
  have x:decide ((0:Int)≤((l.length-c.length:Nat):Int))=true:=by simp
  have q:lim (l.length-c.length)=true:=a0T (by omega);simp[p,q]
  have:=c1b (f:=a4O) l c.length t (fun i h=>(l,c,s,(i:Int),h,())) (b3v (b1f c s) (.inr ((6:Int),([]:List Int),()))) (fun h=>.inl (h,()))
   (fun i hi h u a=>by
    have n:short (l.take i):=by unfold short;grind
    have e:decide ((0:Int)≤(i:Int))=true:=by simp
    have j:decide ((i:Int)≤((l.length:Nat):Int))=true:=by grind
    have r:lim (h.length+1)=true:=a0T (by omega);constructor
    ·intro w g;unfold b3v at g;cases hq:a0B (W (l[i]-b1f c s (l.take i)))with
     |false=>simp_all
     |true=>
      simp only[hq,cT,Sum.inl.injEq]at g;subst g;refine⟨?_,c1a hi,by grind⟩;simp only[a4O,dlt hi,cT,a0D hi,oB,e,j,a03,tN,b4y n k d,a6x,hq,bT,cF,r,a0C (a18 hi m),a06]
    ·intro b hb;unfold b3v at hb;cases hq:a0B (W (l[i]-b1f c s (l.take i)))with
     |true=>simp_all
     |false=>
      simp[hq]at hb;subst hb;simp only[a4O,dlt hi,cT,a0D hi,oB,e,j,a03,tN,b4y n k d,a6x,hq,a36])
   (fun h a=>by simp[a4O])
  rw[this,b4H];cases b1R (b1f c s) (l.drop c.length) (l.take c.length)<;>rfl
theorem b4J{s:Int}(h:b4I l c s=some r):b2O (l.take c.length) r c s=some l∧r.all a0B=true∧r.length=l.length-c.length:=by
 unfold b4I at h;cases hw:l.all a0B with
 |false=>simp_all
 |true=>
  simp[hw]at h;obtain⟨e,g⟩:=b8G h;refine⟨?_,g,by simp_all[b2Y]⟩;simp[b2O,b7J hw,g]
  grind[b4G,List.take_append_drop]
def b4f(l:List Int)(lag:Int)(t:List Int):Option (List Int):=bif l.all a0B then b1R (a9F lag t) l []else none
theorem c3M(o:b1N lag t=true)(c:t.length=3)(r:l.length<100000):
  a9k (l,lag,t)=some (a5i (b4f l lag t)):=by
 have a:short l:=by unfold short;omega
 obtain⟨e,j⟩:2≤lag∧lag≤1024:=by simp_all[b1N]
 unfold a9k b4f;simp only[b3I c,o,oB,bT,cF,b3n a];cases hw:l.all a0B with
 |false=>rfl
 |true=>
  have q:decide ((0:Int)≤((l.length:Nat):Int))=true:=by simp
  have d:lim l.length=true:=a0T (by omega);simp[d]
  have:=c1b (f:=a6o) l 0 (Nat.zero_le _) (fun i h=>(l,lag,l,(l.length:Int),(i:Int),h,t,())) (b3v (a9F lag t) (.inr ((6:Int),([]:List Int),()))) (fun h=>.inl (h,()))
   (fun i hi h n k=>by
    have m:lim (h.length+1)=true:=a0T (by omega);have hp:=b3p (lag:=lag) (t:=t) (a84 hi) a c e j;constructor
    ·intro p g;unfold b3v at g;cases hq:a0B (W (l[i]-a9F lag t (l.take i)))with
     |false=>simp_all
     |true=>
      simp only[hq,cT,Sum.inl.injEq]at g;subst g;refine⟨?_,c1a hi,by simp_all⟩;simp only[a6o,dlt hi,cT,a0D hi,oB,hp,a8l,hq,bT,cF,m,a0C (a18 hi a),a06]
    ·intro b hb;unfold b3v at hb;cases hq:a0B (W (l[i]-a9F lag t (l.take i)))with
     |true=>simp_all
     |false=>
      simp_all[a6o,a0D,a8l])
   (fun h k=>by simp[a6o])
  simp only[nZ]at this;rw[this,b4H,a28,List.take_zero];cases b1R (a9F lag t) l []<;>rfl
theorem b5Y(h:b4f l lag t=some r):b3q r lag t=some l∧r.all a0B=true∧r.length=l.length:=by
 unfold b4f at h;cases hw:l.all a0B with
 |false=>simp_all
 |true=>
  simp[hw]at h;obtain⟨e,g⟩:=b8G h;refine⟨?_,g,by rw[e,b2Y]⟩;simp[b3q,g];simp_all[b4G]
def rsG:List Int→Fil→List Int
 | [],_=>[]
 |x::r,f=>W (x-a1g f)::rsG r (b2t f x)
theorem b4K:∀r f,(rsG r f).length=r.length
 | [],_=>rfl
 |x::r,f=>by simp[rsG,b4K r]
def rsO:List Int→List Int→Fil→Option (List Int)
 | [],done,_=>some done
 |x::r,done,f=>bif a0B (W (x-a1g f))then rsO r (done++[W (x-a1g f)]) (b2t f x)else none
theorem c9e:∀(r done:List Int)(f:Fil),rsO r done f=bif (rsG r f).all a0B then some (done++rsG r f)else none
 | [],done,f=>by simp[rsO,rsG]
 |x::r,done,f=>by
  simp[rsO,rsG];cases a0B (W (x-a1g f))with
  |false=>rfl
  |true=>simp_all[c9e]
theorem c6s:∀(r z:List Int)(f:Fil),r.all a0B=true→stO (rsG r f) z f=some (z++r)
 | [],z,f,_=>by simp[rsG,stO]
 |x::r,z,f,h=>by
  rw[a07,bA]at h;have e:W (a1g f+W (x-a1g f))=x:=by grind[c9d]
  simp only[rsG,stO,e,h.1,cT,c6s r _ _ h.2,aA,a75]
theorem b3w{row:List Int}{a:List Stg}{b c:Int}(j:short row):∀(k i:Nat)(done:List Int)(f:Fil),i+k=row.length→done.length=i→FilOk f→
  y0s a5x (a,b,c,(row.length:Int),(i:Int),done++row.drop i,f,())=some (match rsO (row.drop i) done f with
   |some r=>.inl (a,b,c,r,())
   |none=>.inr ((6:Int),([]:List Int),()))
 |0,i,done,f,h,hd,hf=>by
  obtain rfl:i=row.length:=by omega
  rw[a50,a39];exact a0E (b:=Sum.inl (a,b,c,done,())) (by simp[a5x])
 |k+1,i,done,f,h,hd,hf=>by
  have hi:i<row.length:=by omega
  have l:row.length<1000000:=j;have d:decide ((0:Int)≤(i:Int))=true:=by simp
  have m:(done++row.drop i).length=row.length:=by grind
  have e:decide ((i:Int)<(((done++row.drop i).length:Nat):Int))=true:=by simp_all
  have g:rsO (row.drop i) done f=bif a0B (W (row[i]-a1g f))then rsO (row.drop (i+1)) (done++[W (row[i]-a1g f)]) (b2t f row[i])else none:=by
   rw[a02 hi];rfl
  rw[g];cases hw:a0B (W (row[i]-a1g f))with
  |true=>
   rw[a0F (s':=(a,b,c,(row.length:Int),((i+1:Nat):Int),(done++[W (row[i]-a1g f)])++row.drop (i+1),b2t f row[i],())) (by
    simp only[a5x,dlt hi,d,e,cT,a03,a6z hf,oB,tN,b3r hd hi,a5o,hw,bT,cF,b5n hf,c3w hd hi,a0C (show i<1000000 by omega)])]
   exact b3w j k (i+1) _ _ (by omega) (by simp_all) (c3v hf _)
  |false=>
   exact a0E (by
    simp only[a5x,dlt hi,d,e,cT,a03,a6z hf,oB,tN,b3r hd hi,a5o,hw,a36];rfl)
def lRO:List Stg→List Int→Option (List Int)
 | [],row=>some row
 |s::r,row=>match rsO row [] (b1g s)with
  |some row'=>lRO r row'
  |none=>none
theorem c3N{f:Fil}(h:rsO row [] f=some d):d=rsG row f∧d.all a0B=true:=by
 rw[c9e]at h
 grind
theorem c1c:∀(a b:List Stg)(row:List Int),lO (a++b) row=match lO a row with|some r=>lO b r|none=>none
 | [],b,row=>rfl
 |s::a,b,row=>by
  simp only[a65,lO];split;exact c1c a b _;rfl
theorem c3O:∀(st:List Stg)(row d:List Int),row.all a0B=true→lRO st row=some d→lO st.reverse d=some row∧d.all a0B=true∧d.length=row.length
 | [],row,d,hw,h=>by
  simp[lRO]at h;subst h;exact⟨rfl,hw,rfl⟩
 |s::st,row,d,hw,h=>by
  simp only[lRO]at h
  split at h
  rename_i g c;obtain⟨e,f⟩:=c3N c;obtain⟨k,a,b⟩:=c3O st g d f h;refine⟨?_,a,by rw[b,e,b4K]⟩;rw[List.reverse_cons,c1c,k];simp only[lO];rw[e,c6s row [] _ hw,a09];cases h
theorem b2h{st:List Stg}(f:∀s∈st,stageB s=true)(l:st.length≤3):∀(j k:Nat)(row:List Int),k+j=st.length→short row→
  y0s a5y (st,(st.length:Int),(k:Int),row,())=some (match lRO (st.drop k) row with
   |some r=>.inl (r,())
   |none=>.inr ((6:Int),([]:List Int),()))
 |0,k,row,h,hs=>by
  obtain rfl:k=st.length:=by omega
  simp_all[a0E,a5y,lRO]
 |j+1,k,row,h,hs=>by
  have d:k<st.length:=by omega
  have g:=f _ (a05 d);have e:=b3w (a:=st) (b:=(st.length:Int)) (c:=(k:Int)) hs row.length 0 [] (b1g st[k]) (by omega) rfl (c6q g);simp at e;have i:((0:Int) != 0)=false:=rfl;rw[a02 d];simp[lRO];cases hr:rsO row [] (b1g st[k])with
  |some r=>
   rw[hr]at e;rw[a0F (s':=(st,(st.length:Int),((k+1:Nat):Int),r,())) (by simp only[a5y,dlt d,cT,a0D d,oB,b2Q g,i,cF,e,a0C (show k<1000000 by omega)])];exact b2h f l j (k+1) r (by omega) (by have:=(c3N hr).1;unfold short at hs⊢;simp_all[b4K])
  |none=>
   simp_all[a0E,a5y,a0D,b2Q]
def b2z(l:List Int)(st:List Stg):Option (List Int):=bif l.all a0B then lRO st l else none
theorem c2s(k:a9s st=true)(a:l.length<100000):a9Y (l,st)=some (a5i (b2z l st)):=by
 have h:=k;simp only[a9s,bA,dT]at h;have f:short st:=by unfold short;omega
 have g:short l:=by unfold short;omega
 unfold a9Y b2z;simp only[b2N f,k,oB,bT,cF,b2M g];cases hw:l.all a0B with
 |false=>rfl
 |true=>
  have:=b2h (lA.1 h.2) h.1 st.length 0 l (by omega) g
  simp at this;simp[a8n g,this];cases lRO st l<;>rfl
theorem b8H(h:b2z l st=some r):b1Z r st=some l∧r.all a0B=true∧r.length=l.length:=by
 unfold b2z at h;cases hw:l.all a0B with
 |false=>simp_all
 |true=>
  simp[hw]at h;obtain⟨f,g,k⟩:=c3O st l r hw h;exact⟨by simp only[b1Z,g,cT,f],g,k⟩
theorem p64{w:Nat}(h:w≤64):((2^w:Nat):Int) ∣ 18446744073709551616:=a20.2 (a55 2 h)
theorem d4r(n:Int):∃q,wrap .i64 n=n+18446744073709551616*q:=by
 rw[a8m,Int.bmod];split;exact⟨-(n / 18446744073709551616),by omega⟩;exact⟨-(n / 18446744073709551616)-1,by omega⟩
theorem d0T(h:w≤64)(n:Int):((2^w:Nat):Int) ∣ wrap .i64 n↔((2^w:Nat):Int) ∣ n:=by
 obtain⟨q,g⟩:=d4r n;rw[g]
 grind[a66,a46,p64]
theorem c1d(h:w≤64)(a:Int):2^w ∣ (a04 64 a).toNat↔((2^w:Nat):Int) ∣ a:=by
 have e:(((a04 64 a).toNat:Nat):Int)=a+18446744073709551616*-(a / 18446744073709551616):=by
  rw[a82];omega
 rw[←a20,e]
 grind[a66,a46,p64]
theorem c7K(w x y:Nat):2^w ∣ (x ||| y)↔2^w ∣ x∧2^w ∣ y:=by
 simp_all[Nat.dvd_iff_mod_eq_zero,Nat.or_mod_two_pow]
theorem d4s(h:w≤64)(a b:Int):((2^w:Nat):Int) ∣ bits .i64 .or a b↔((2^w:Nat):Int) ∣ a∧((2^w:Nat):Int) ∣ b:=by
 show((2^w:Nat):Int) ∣ wrap .i64 ((((a04 64 a) ||| (a04 64 b)).toNat:Nat):Int)↔_;rw[d0T h,a20,a72,c7K,c1d h,c1d h]
def orI(l:List Int)(a:Int):Int:=l.foldl (fun a x=>bits .i64 .or a x) a
theorem b4g{w:Nat}(h:w≤64):∀(l:List Int)(a:Int),((2^w:Nat):Int) ∣ orI l a↔((2^w:Nat):Int) ∣ a∧∀x∈l,((2^w:Nat):Int) ∣ x
 | [],a=>by simp[orI]
 |x::l,a=>by
  show((2^w:Nat):Int) ∣ orI l (bits .i64 .or a x)↔_;rw[b4g h l,d4s h];simp_all[and_assoc]
theorem c3P:∀(l:List Int),(∀x∈l,x=0)→orI l 0=0
 | [],_=>rfl
 |x::l,h=>by
  have g:=h x (List.mem_cons_self);subst g;show orI l (bits .i64 .or 0 0)=0;rw[show bits .i64 .or 0 0=0 from by rfl];simp_all[c3P]
theorem d4t(k:l.all a0B=true)(h:∃x∈l,x≠0):orI l 0≠0:=by
 intro e;obtain⟨x,g,f⟩:=h;have hd:=((b4g (w:=62) (by omega) l 0).1 (by omega)).2 x g;have a:=a1P.1 (lA.1 k x g);omega
def a8W(l:List Int)(w:Nat):Prop:=
 ((∀x∈l,x=0)∧w=0)∨((∃x∈l,x≠0)∧w≤30∧(∀x∈l,((2^w:Nat):Int) ∣ x)∧(w=30∨∃x∈l,¬ ((2^(w+1):Nat):Int) ∣ x))
theorem c7L{v w:Nat}(h:v≤w){x:Int}(g:((2^w:Nat):Int) ∣ x):((2^v:Nat):Int) ∣ x:=
 Int.dvd_trans (a20.2 (a55 2 h)) g
theorem a8W.unique(hv:a8W l v)(g:a8W l w):v=w:=by
 have d:∀{v w:Nat},v≤30→w≤30→(∀x∈l,((2^w:Nat):Int) ∣ x)→(v=30∨∃x∈l,¬ ((2^(v+1):Nat):Int) ∣ x)→w≤v:=by
  grind[c7L]
 rcases hv with⟨f,hv⟩|⟨⟨x,c,h⟩,hv1,hv2,hv3⟩
 ·rcases g with⟨-,g⟩|⟨⟨x,c,h⟩,-⟩
  all_goals grind
 ·rcases g with⟨f,-⟩|⟨-,k,a,b⟩
  all_goals grind
theorem c3Q:∀(n N:Nat),N≤n→0<N→∃k m,N=2^k*(2*m+1)
 |0,N,h,h0=>absurd h0 (by omega)
 |n+1,N,h,h0=>by
  by_cases he:N%2=0
  obtain⟨k,m,e⟩:=c3Q n (N / 2) (by omega) (by omega);refine⟨k+1,m,?_⟩;rw[a68,a57 (2^k) 2,Nat.mul_assoc,←e];omega;exact⟨0,N / 2,by omega⟩
theorem d3b{k:Nat}(h:2^k*(2*m+1)<2^64):(2^k*(2*m+1)) &&& (2^64-2^k*(2*m+1))=2^k:=by
 have hp:1≤2^k:=a81;have n:k<64:=by
  refine a95 fun g=>?_
  have d:2^64≤2^k:=a08 (by simp) g
  grind
 have e:2^k*(2*m+1)=(2^k*(2*m)+(2^k-1))+1:=by grind
 have l:2^k*(2*m)+(2^k-1)<2^64:=by omega
 refine Nat.eq_of_testBit_eq fun i=>?_
 have a:(2^64-2^k*(2*m+1)).testBit i=(decide (i<64)&&!(2^k*(2*m)+(2^k-1)).testBit i):=by
  rw[e];exact Nat.testBit_two_pow_sub_succ l i
 have f:=a58 (2*m+1) (b:=0) (i:=k) (by omega) i;rw[a85]at f;have c:=a58 (2*m) (b:=2^k-1) (i:=k) (by omega) i;rw[Nat.testBit_and,a,f,c,Nat.testBit_two_pow]
 by_cases d:i<k
 grind
 by_cases h2:k=i
 simp_all;obtain⟨j,rfl⟩:∃j,i=k+(j+1):=⟨i-k-1,by omega⟩;have o:k+(j+1)-k=j+1:=by omega
 have p:(2*m+1) / 2=m:=by omega
 simp_all[Nat.testBit_succ]
theorem d0U:∀k:Nat,k<64→b1u[(2^k*285870213051353865)%18446744073709551616 / 288230376151711744]?=some (k:Int):=by
 have h:∀k:Fin 64,b1u[(2^k.val*285870213051353865)%18446744073709551616 / 288230376151711744]?=some (k.val:Int):=by decide
 exact fun k g=>h ⟨k,g⟩
theorem c5P{k:Nat}:¬ 2^(k+1) ∣ 2^k*(2*m+1):=by
 rintro⟨c,h⟩
 rw[a68,Nat.mul_assoc]at h
 grind[Nat.eq_of_mul_eq_mul_left]
theorem d0V(d:0<N)(h:N<18446744073709551616):∃k:Nat,a1I (N:Int)=some (k:Int)∧2^k ∣ N∧¬ 2^(k+1) ∣ N:=by
 obtain⟨k,m,e⟩:=c3Q N N (a27 _) d;have n:2^k≤N:=by grind
 have i:k<64:=by
  refine a95 fun g=>?_
  have l:2^64≤2^k:=a08 (by simp) g;omega
 refine⟨k,?_,⟨_,e⟩,e▸c5P⟩;have hb:bits .u64 .and (N:Int) (wrap .u64 (0-(N:Int)))=((2^k:Nat):Int):=by
  have b:wrap .u64 (0-(N:Int))=((18446744073709551616-N:Nat):Int):=by
   grind[wrap,IntKind.bits,IntKind.signed]
  rw[b];show wrap .u64 (((a04 64 (N:Int)) &&& (a04 64 ((18446744073709551616-N:Nat):Int))).toNat:Int)=_;rw[a24,a24,a93,a29,a29,a23 h,a23 (by omega)]
  have:=d3b (k:=k) (m:=m) (by omega)
  rw[←e]at this;rw[show(18446744073709551616:Nat)=2^64 from rfl,this];exact a0K (by omega)
 have j:((N:Int)==0)=false:=by grind
 unfold a1I;rw[hb,j,cF];have f:wrap .u64 (((2^k:Nat):Int)*285870213051353865)=(((2^k*285870213051353865)%18446744073709551616:Nat):Int):=by
  rfl
 have a:=d0U k i;generalize (2^k*285870213051353865)%18446744073709551616=M at f a;have c:=a6K (N:=M) (o:=58) (by omega);rw[f,show(58:Int)=((58:Nat):Int)from rfl,c,show 2^58=288230376151711744 from rfl];generalize M / 288230376151711744=J at a
 grind[a0D,a0A]
theorem d0W{n:Nat}(g:n≤62)(c:Int):A0o .i64 (((2^n:Nat):Int)*c) (n:Int)=c:=by
 have hp:0<2^n:=a16 n;have e:min (a41 (n:Int)) (IntKind.bits .i64)=n:=by grind[IntKind.bits]
 have h:((2^n:Nat):Int)=2^n:=by simp
 unfold A0o
 grind[a64]
theorem c6t{l:List Int}(g:short l):∀(k i:Nat)(a:Int),i+k=l.length→y0s a5s (a,l,(l.length:Int),(i:Int),())=some (orI (l.drop i) a,())
 |0,i,a,h=>by
  obtain rfl:i=l.length:=by omega
  simp_all[a0E,a5s,orI]
 |k+1,i,a,h=>by
  have hi:i<l.length:=by omega
  have f:l.length<1000000:=g;rw[a02 hi,a0F (s':=(bits .i64 .or a l[i],l,(l.length:Int),((i+1:Nat):Int),())) (by
   simp only[a5s,dlt hi,cT,a0D hi,oB,a0C (show i<1000000 by omega)])]
  exact c6t g k (i+1) _ (by omega)
theorem c5Q{l:List Int}{r:Nat}(g:r≤30)(h:r=30∨¬ ((2^(r+1):Nat):Int) ∣ orI l 0):r=30∨∃x∈l,¬ ((2^(r+1):Nat):Int) ∣ x:=by
 grind[b4g,a86]
theorem b7K{l:List Int}(y:short l)(j:l.all a0B=true):∃w:Nat,a3K l=some (w:Int)∧w≤30∧a8W l w:=by
 have a:=c6t y l.length 0 0 (by omega);simp at a;unfold a3K;simp[a]
 by_cases hz:∀x∈l,x=0
 have e:=c3P l hz;exact⟨0,by simp_all,by omega,.inl ⟨hz,rfl⟩⟩
 ·have g:∃x∈l,x≠0:=Classical.byContradiction fun m=>hz fun x g=>Classical.byContradiction fun s=>m ⟨x,g,s⟩;have t:=d4t j g;have n:(orI l 0==0)=false:=by simp_all
  obtain⟨q,u⟩:∃q,wrap .u64 (orI l 0)=orI l 0+18446744073709551616*q:=⟨-(orI l 0 / 18446744073709551616),by
   grind[wrap,IntKind.bits,IntKind.signed]⟩
  obtain⟨B,r2⟩:=b6Y (orI l 0);obtain⟨N,d⟩:=a01 B;have b:∀v,v≤64→(2^v ∣ N↔((2^v:Nat):Int) ∣ orI l 0):=fun v hv=>by
   rw[←a20,←d,u]
   grind[a66,a46,p64]
  have h:0<N:=by
   refine Nat.pos_of_ne_zero fun C=>?_
   obtain⟨x,f,A⟩:=g;have hd:=((b4g (w:=62) (by omega) l 0).1 ((b 62 (by omega)).1 (by omega))).2 x f;have z:=a1P.1 (lA.1 j x f);omega
  obtain⟨k,p,c,r⟩:=d0V h (by omega);have i:k≤63:=by
   refine Nat.le_of_not_lt fun o=>?_
   have a:2^64≤2^k:=a08 (by simp) (by omega)
   have:=Nat.le_of_dvd h c
   omega
  simp only[n,cF,d,p,oB];have D:v0s (k:Int) 30=((min k 30:Nat):Int):=by rw[b1d];omega
  refine⟨min k 30,by grind,by omega,.inr ⟨g,by omega,?_,?_⟩⟩
  all_goals grind[b4g,Nat.dvd_trans,a55,c5Q]
theorem d3c(g:w≤30)(b:l.all a0B=true)(h:a8W l w):b0U (w:Int) l=some (l.map fun x=>A0o .i64 x (w:Int)):=by
 have hd:∀x∈l,((2^w:Nat):Int) ∣ x:=by
  rcases h with⟨h,-⟩|⟨-,-,h,-⟩
  all_goals grind[a86]
 have:l.all (b1Q (w:Int))=true:=by
  rw[lA];intro x f;obtain⟨c,k⟩:=hd x f;have a:a26 x (A0n .i64 1 (w:Int))=0:=by simp_all[c3J]
  simp_all[b1Q]
 simp only[b0U,this,cT]
theorem b1k{N n:Nat}(g:n≤63)(h:N<2^n)(L:List Int):(a0O (N:Int) n L).length=L.length+n:=by
 grind[a0O,a6K,a67,b3t]
def a5M(k:Nat)(x:Int):Nat:=if a0R x / 2^k<32 then a0R x / 2^k+1+k else 65
theorem c3R{k:Nat}(h:k≤25)(x:Int):a5M k x≤65:=by
 grind[a5M]
theorem c9f{k:Nat}(f:k≤25)(g:a0B x=true)(L:List Int):(a7e k x L).length=L.length+a5M k x:=by
 unfold a7e a5M;have hp:0<2^k:=a16 k;have h:a0R x%2^k<2^k:=a40 _ hp;have hf:=a9L g;split;rw[b1k (by omega) h,b0R];omega
 grind[b1k,b0R]
theorem b8I{k:Nat}(g:k≤25):∀(l L:List Int),l.all a0B=true→(a4U k l L).length=L.length+(l.map (a5M k)).sum
 | [],L,_=>by rfl
 |x::l,L,h=>by
  simp only[a07,bA]at h;have e:a4U k (x::l) L=a4U k l (a7e k x L):=rfl;rw[e,b8I g l _ h.2,c9f g h.1,List.map_cons,a62];omega
theorem c3S{k:Nat}(b:k≤25)(g:a0B x=true):a7G ((k:Int),x)=some ((a5M k x:Nat):Int):=by
 have c:=a9L g;have f:A0o .u64 ((a0R x:Nat):Int) (k:Int)=((a0R x / 2^k:Nat):Int):=a6K (by omega);have a:wrap .i64 ((a0R x / 2^k:Nat):Int)=((a0R x / 2^k:Nat):Int):=b2W (a38 (a32 _ _) c);have h:decide ((k:Int)<0)=false:=by simp
 unfold a7G a5M;simp only[a9h b,b0S,g,oB,bT,cF,b0T g,h,f,a];generalize a0R x / 2^k=q
 by_cases hq:q<32
 have hd:decide ((q:Int)<32)=true:=decide_eq_true (by omega);simp only[hd,cT,if_pos hq]
 grind[a0A]
 grind
theorem c3T{f:Int→Nat}{M:Nat}(h:∀x,f x≤M):∀l:List Int,(l.map f).sum≤M*l.length
 | []=>by simp
 |x::l=>by
  have:=h x
  have:=c3T h l
  rw[List.map_cons,a62,lC,a91,a92];omega
theorem c3U{f:Int→Nat}{l:List Int}{i:Nat}(h:i<l.length):((l.take (i+1)).map f).sum=((l.take i).map f).sum+f l[i]:=by
 rw[a49 h,pA,List.sum_append];rfl
theorem b6Z{k:Nat}(g:k≤25)(c:l.all a0B=true)(d:l.length<10000):a3m ((k:Int),l)=some (((l.map (a5M k)).sum:Nat):Int):=by
 have:=a0X (f:=a3W) (fun i:Nat=>((k:Int),((((l.take i).map (a5M k)).sum:Nat):Int),l,(l.length:Int),(i:Int),())) l.length (b:=((((l.map (a5M k)).sum:Nat):Int),()))
  (fun i hi=>by
   have a:=c3S g (lA.1 c _ (a05 hi));have h:=c3T (c3R g) (l.take (i+1));rw[c3U hi]at h;rw[a94]at h;have e:wrap .i64 (((((l.take i).map (a5M k)).sum:Nat):Int)+((a5M k l[i]:Nat):Int))=((((l.take (i+1)).map (a5M k)).sum:Nat):Int):=by
    grind[c3U,a0A]
   simp only[a3W,dlt hi,cT,a0D hi,oB,a,e,a0C (show i<1000000 by omega)])
  (by simp_all[a3W])
 unfold a3m;simp_all
theorem d0X(x:Int){n:Nat}(f:n≤62):∃N:Nat,a0W x n=(N:Int)∧N<2^n:=by
 obtain⟨h,g⟩:=b6Y x;obtain⟨y,k⟩:=a01 h;have hp:0<2^n:=a16 n;refine⟨y%2^n,?_,a40 _ hp⟩
 grind[a0W,c3E]
theorem b3x{n:Nat}(h:n≤62):∀(l L:List Int),(a1N n l L).length=L.length+n*l.length
 | [],L=>by rfl
 |x::l,L=>by
  have e:a1N n (x::l) L=a1N n l (a0O (a0W x n) n L):=rfl;obtain⟨N,g,f⟩:=d0X x h;rw[e,b3x h l,g,b1k (by omega) f,lC,a91,a92];omega
theorem d4u{x:Int}(h:a0B x=true):a1o x ((31:Nat):Int)=true:=by
 have:=a1P.1 h
 have g:A0n .i64 (-1) (((31:Nat):Int)-1)=-1073741824:=by rfl
 have f:wrap .i64 (A0n .i64 1 (((31:Nat):Int)-1)-1)=1073741823:=by rfl
 unfold a1o
 grind
theorem b8J{x:Int}(h:a0B x=true):∀(k w:Nat),w+k=32→1≤k→a1U x k w≤31
 |k+1,w,hk,_=>by
  simp[a1U]
  by_cases h31:w=31
  grind[d4u]
  ·cases (x != 0)&&!a1o x w with
   |true=>exact b8J h k (w+1) (by omega) (by omega)
   |false=>grind
theorem b3y:∀(l:List Int)(w:Nat),l.all a0B=true→w≤31→l.foldl (fun w x=>a1U x (32-w) w) w≤31
 | [],w,_,h=>h
 |x::l,w,hl,h=>by
  simp only[a07,bA]at hl;exact b3y l _ hl.2 (b8J hl.1 (32-w) w (by omega) (by omega))
theorem a2b{l:List Int}(h:l.all a0B=true):a0I l≤31:=b3y l 0 h (by omega)
theorem b2Z(g:l.length<10000):a5T l=some (((5+a0I l*l.length:Nat)):Int):=by
 have h:=a6J l;have f:a0I l*l.length≤32*l.length:=a25 _ h;unfold a5T;simp only[a2q (show short l by unfold short;omega),oB]
 grind[a0A]
def b1S(k:Int)(part:List Int):Nat:=5+(if k=31 then 5+a0I part*part.length else(part.map (a5M k.toNat)).sum)
def a5N:List Nat→List Int→List Int→Nat
 |z::zs,k::ks,l=>b1S k (l.take z)+a5N zs ks (l.drop z)
 |_,_,_=>0
theorem a3C{q:Nat}(h:q<2147483648):wrap .u64 (q:Int)=(q:Int):=a0K (by omega)
theorem c9g(h:kB k=true)(g:part.all a0B=true)(L:List Int):(a9G k part L).length=L.length+b1S k part:=by
 simp[kB]at h;obtain⟨K,rfl⟩:=a01 (show 0≤k by omega)
 grind[b1k,a2b,a9G,b1S,a3C,b3x,b8I]
theorem b8K:∀(zs:List Nat)(ks l L:List Int),ks.all kB=true→l.all a0B=true→(a4V zs ks l L).length=L.length+a5N zs ks l
 |z::zs,k::ks,l,L,h,hw=>by
  simp only[a07,bA]at h;have g:(l.take z).all a0B=true:=lA.2 fun x a=>lA.1 hw x (a34 a);have f:(l.drop z).all a0B=true:=lA.2 fun x a=>lA.1 hw x (a35 a);simp only[a4V,a5N];rw[b8K zs ks _ _ h.2 f,c9g h.1 g];omega
 | [],_,_,_,_,_=>by rfl
 |_::_,[],_,_,_,_=>by rfl
theorem d0Y(h:kB k=true)(part:List Int):b1S k part≤10+65*part.length:=by
 simp[kB]at h;unfold b1S;split;have g:a0I part*part.length≤32*part.length:=a25 _ (a6J part);omega
 have:=c3T (c3R (k:=k.toNat) (by omega)) part
 omega
theorem b3a{zn:List Nat}{p:Prt}(E:p.2.1.length=zn.length)(a:p.2.1.all kB=true)(F:zn.length≤256):∀(j i:Nat)(l:List Int)(c:Nat),i+j=zn.length→(zn.drop i).sum=l.length→l.all a0B=true→l.length≤5000→c+10*j+65*l.length<1000000→
  y0s a1A (l,(c:Int),(zn.length:Int),(i:Int),a1p zn,p,())=some (((c+a5N (zn.drop i) (p.2.1.drop i) l:Nat):Int),())
 |0,i,l,c,hi,_,_,_,_=>by
  obtain rfl:i=zn.length:=by omega
  grind[a0E,a1A,a5N]
 |j+1,i,l,c,hi,hsum,hw,hl5,hb=>by
  have h:i<zn.length:=by omega
  have f:i<p.2.1.length:=by omega
  have o:=lA.1 a _ (a05 f);rw[b4C h]at hsum;have z:decide ((0:Int)≤(i:Int))=true:=by simp
  have A:decide ((i:Int)<(((a1p zn).length:Nat):Int))=true:=by simp_all[a1B]
  have B:decide ((0:Int)≤((zn[i]:Nat):Int))=true:=by simp
  have C:decide (((zn[i]:Nat):Int)≤((l.length:Nat):Int))=true:=by grind
  have d:(l.take zn[i]).length=zn[i]:=by simp_all
  have e:(l.drop zn[i]).length=(zn.drop (i+1)).sum:=by grind
  have v:(l.take zn[i]).all a0B=true:=lA.2 fun x y=>lA.1 hw x (a34 y);have w:(l.drop zn[i]).all a0B=true:=lA.2 fun x y=>lA.1 hw x (a35 y);have g:=d0Y o (l.take zn[i]);rw[d]at g;have n:a1A (l,(c:Int),(zn.length:Int),(i:Int),a1p zn,p,())=some (.inl (l.drop zn[i],((c+b1S p.2.1[i] (l.take zn[i]):Nat):Int),(zn.length:Int),((i+1:Nat):Int),a1p zn,p,())):=by
   by_cases h31:p.2.1[i]=31
   have b:(p.2.1[i]==31)=true:=by simp_all
   have m:=b2Z (l:=l.take zn[i]) (by omega);have u:b1S p.2.1[i] (l.take zn[i])=5+(5+a0I (l.take zn[i])*(l.take zn[i]).length):=by simp_all[b1S]
   rw[u]at g⊢;generalize 5+a0I (l.take zn[i])*(l.take zn[i]).length=r at m g⊢;have s:wrap .i64 (5+(r:Int))=5+(r:Int):=a0A (by omega);have t:wrap .i64 ((c:Int)+(5+(r:Int)))=((c+(5+r):Nat):Int):=by grind[a0A]
   simp only[a1A,dlt h,z,A,a8p h,B,C,cT,a03,tN,a0D f,oB,b,m,s,t,a19,a0C (show i<1000000 by omega)];have b:(p.2.1[i]==31)=false:=by simp_all
   have q:=o;simp[kB]at q;obtain⟨K,D⟩:=a01 (show 0≤p.2.1[i]by omega);have m:=b6Z (k:=K) (by omega) v (by omega);have u:b1S p.2.1[i] (l.take zn[i])=5+((l.take zn[i]).map (a5M K)).sum:=by simp_all[b1S]
   rw[←D]at m;rw[u]at g⊢;generalize ((l.take zn[i]).map (a5M K)).sum=r at m g⊢;have s:wrap .i64 (5+(r:Int))=5+(r:Int):=a0A (by omega);have t:wrap .i64 ((c:Int)+(5+(r:Int)))=((c+(5+r):Nat):Int):=by grind[a0A]
   simp only[a1A,dlt h,z,A,a8p h,B,C,cT,cF,a03,tN,a0D f,oB,b,m,s,t,a19,a0C (show i<1000000 by omega)]
  rw[a0F n,b3a E a F j (i+1) (l.drop zn[i]) _ (by omega) e.symm w (by omega) (by omega)];rw[a02 h,a02 f]
  grind[a5N]
theorem c2t(h:PartsOk p n warm l zn):a4P (p,n,warm,l)=some ((4+a5N zn p.2.1 l:Nat):Int):=by
 have f:Go.Ab.short p.2.1:=by have:=h.ks;have:=h.len;unfold Go.Ab.short;omega
 have k:=h.short;have a:=h.len;have g:=b3a h.ks h.all h.len zn.length 0 l 4 (by omega) (by rw[a28];exact h.sum) h.wide h.short (by omega);simp only[nZ,a30,a28]at g;unfold a4P;simp only[b2S f,h.may,b1i h.row h.rest h.wide h.short,oB,bT,cF,a2f,h.sizes,a1B,g]
theorem c2u(h:PartsOk p n warm l zn)(L:List Int):(a4v p zn l L).length=L.length+(4+a5N zn p.2.1 l):=by
 obtain⟨o,g⟩:=a01 h.order.1;have f:=h.order.2;unfold a4v;rw[b8K _ _ _ _ h.all h.wide,g,a3C (by omega),b1k (by omega) (by omega)];omega
def a2g(o:Int):Sub:=((0:Int),(0:Int),o,(0:Int),(0:Int),([]:List Int),a00 3 (0:Int),([]:List Stg),([]:List Int),((0:Int),([]:List Int),()),([]:List Int),())
theorem c5R(o:Int):SmallS (a2g o):=⟨by simp[a2g],by rfl,by simp[a2g],by simp[a2g],by simp[a2g],by simp[a2g]⟩
def b5Z(k:Nat)(l:List Int):Nat:=(l.map (a5M k)).sum
def rbN(l:List Int):Nat→Nat
 |0=>0
 |i+1=>if b5Z (i+1) l<b5Z (rbN l i) l then i+1 else rbN l i
theorem c3V(l:List Int):∀i,rbN l i≤i
 |0=>a27 _
 |i+1=>by
  have:=c3V l i
  simp only[rbN]
  split<;>omega
theorem b4L{k:Nat}(h:k≤25)(f:l.all a0B=true)(g:l.length<10000):a3m ((k:Int),l)=some ((b5Z k l:Nat):Int):=b6Z h f g
theorem d4v(h:a<b):decide ((a:Int)<(b:Int))=true:=decide_eq_true (by omega)
theorem c7M(h:¬ a<b):decide ((a:Int)<(b:Int))=false:=decide_eq_false (by omega)
theorem b6a(g:l.all a0B=true)(h:l.length<10000):b1z l=some ((rbN l 25:Nat):Int):=by
 have:=a0X (f:=a8A) (fun i:Nat=>(l,((rbN l i:Nat):Int),((b5Z (rbN l i) l:Nat):Int),((i+1:Nat):Int),())) 25 (b:=(((rbN l 25:Nat):Int),()))
  (fun i hi=>by
   have a:decide (((i+1:Nat):Int)≤25)=true:=decide_eq_true (by omega);have d:wrap .i64 (((i+1:Nat):Int)+1)=((i+1+1:Nat):Int):=a0C (by omega);have c:=b4L (k:=i+1) (by omega) g h
   by_cases hlt:b5Z (i+1) l<b5Z (rbN l i) l
   simp_all[a8A,rbN];simp only[a8A,a,cT,cF,c,oB,d,c7M hlt,rbN,hlt,if_false])
  (by
   rfl)
 have m:=b4L (k:=0) (by omega) g h;have j:((0+1:Nat):Int)=1:=rfl;have e:rbN l 0=0:=rfl;simp_all[b1z]
def b2A(l:List Int):Int:=if 5+a0I l*l.length<b5Z (rbN l 25) l then 31 else((rbN l 25:Nat):Int)
theorem c7N(l:List Int):kB (b2A l)=true:=by
 have:=c3V l 25
 unfold b2A;split;rfl;simp only[kB,a98,bA,dT];omega
theorem b8L(g:l.all a0B=true)(h:l.length<10000):a8B l=some (b2A l):=by
 have a:=c3V l 25;have f:=b4L (k:=rbN l 25) a g h;unfold a8B b2A
 by_cases hlt:5+a0I l*l.length<b5Z (rbN l 25) l
 simp only[b6a g h,b2Z h,f,oB,d4v hlt,cT,hlt,if_true];simp only[b6a g h,b2Z h,f,oB,c7M hlt,cF,hlt,if_false]
def a2H:List Nat→List Int→List Int
 | [],_=>[]
 |z::zs,l=>b2A (l.take z)::a2H zs (l.drop z)
theorem b4h:∀zs l,(a2H zs l).length=zs.length
 | [],_=>rfl
 |z::zs,l=>by simp[a2H,b4h zs]
theorem b8M:∀zs l,(a2H zs l).all kB=true
 | [],_=>rfl
 |z::zs,l=>by simp[a2H,b8M zs,c7N]
theorem b5u{zn:List Nat}{n warm most least order:Int}{L:List Int}{a b:Prt}(m:zn.length≤256):∀(j i:Nat)(rest ks:List Int),i+j=zn.length→(zn.drop i).sum=rest.length→rest.all a0B=true→rest.length≤5000→ks.length=i→
  y0s a7U (n,warm,most,L,least,order,rest,((zn.length:Nat):Int),(i:Int),a1p zn,a,b,(order,ks,()),())=some (n,warm,most,L,least,order,a,b,(order,ks++a2H (zn.drop i) rest,()),())
 |0,i,rest,ks,h,_,_,_,_=>by
  obtain rfl:i=zn.length:=by omega
  simp_all[a0E,a7U,a2H]
 |j+1,i,rest,ks,h,hr,hwr,hr5,hki=>by
  have g:i<zn.length:=by omega
  rw[b4C g]at hr;have k:decide ((0:Int)≤(i:Int))=true:=by simp
  have c:decide ((i:Int)<(((a1p zn).length:Nat):Int))=true:=by simp_all[a1B]
  have d:decide ((0:Int)≤((zn[i]:Nat):Int))=true:=by simp
  have e:decide (((zn[i]:Nat):Int)≤((rest.length:Nat):Int))=true:=by grind
  have l:=b8L (b7J hwr zn[i]) (by grind);have f:lim (ks.length+1)=true:=a0T (by omega);rw[a02 g,a0F (s':=(n,warm,most,L,least,order,rest.drop zn[i],((zn.length:Nat):Int),((i+1:Nat):Int),a1p zn,a,b,(order,ks++[b2A (rest.take zn[i])],()),())) (by
   simp only[a7U,dlt g,k,c,a8p g,d,e,cT,a03,tN,l,oB,f,a19,a0C (show i<1000000 by omega),a06])]
  rw[b5u m j (i+1) _ _ (by omega) (by grind) (d0S hwr _) (by grind) (by simp_all)];simp_all[a2H]
def zsN(o n warm:Int):List Nat:=(a1T o n warm).map a41
def b2u(o n warm:Int)(l:List Int):Prt:=(o,a2H (zsN o n warm) l,())
def b8N(o n warm:Int)(l:List Int):Nat:=4+a5N (zsN o n warm) (a2H (zsN o n warm) l) l
def a1K(n warm:Int)(l:List Int):Nat→Prt×Nat
 |0=>((0,[],()),0)
 |i+1=>if(a1T (i:Int) n warm).length=0 then a1K n warm l i else
   if(a1K n warm l i).2=0∨b8N (i:Int) n warm l<(a1K n warm l i).2 then(b2u (i:Int) n warm l,b8N (i:Int) n warm l)else a1K n warm l i
def b6v(n warm:Int)(l:List Int):Prt:=(a1K n warm l 7).1
theorem c6u(b:(a1T (o:Int) n warm).length≠0)(a:(l.length:Int)=n-warm)(c:l.all a0B=true)(k:l.length≤5000):
  ∃h,a1T (o:Int) n warm=a1p h∧zsN (o:Int) n warm=h∧h.length≤256∧h.sum=l.length∧a5L (b2u (o:Int) n warm l) n warm=true∧PartsOk (b2u (o:Int) n warm l) n warm l h:=by
 obtain⟨h,e,i,j⟩:=b3L b;have d:zsN (o:Int) n warm=h:=by simp_all[zsN,b3M]
 have hp:a5L (b2u (o:Int) n warm l) n warm=true:=by
  simp only[a5L,b2u,bA,a33,beq_eq_false_iff_ne,ne_eq,beq_iff_eq];simp_all[a1B,b4h,b8M]
 obtain⟨f,g⟩:=PartsOk.of hp a c k
 have:f=h:=by
  have m:=g.sizes
  grind[b2u,b3M]
 grind
theorem b4M{n warm:Int}{l:List Int}(b:a6A n warm=true)(f:(l.length:Int)=n-warm)(a:l.all a0B=true)(g:l.length≤5000):∀i,1≤i→(a1K n warm l i).2≠0∧a5L (a1K n warm l i).1 n warm=true
 |0,h=>absurd h (by omega)
 |i+1,_=>by
  by_cases hs:(a1T (i:Int) n warm).length=0
  ·simp only[a1K,hs,if_true];cases i with
   |zero=>grind[c7F]
   |succ i=>exact b4M b f a g (i+1) (by omega)
  ·obtain⟨c,-,-,-,-,hp,-⟩:=c6u hs f a g;simp only[a1K,hs,if_false];split;simp_all[b8N]
   ·rename_i k;cases i with
    |zero=>exact absurd (Or.inl rfl) k
    |succ i=>exact b4M b f a g (i+1) (by omega)
theorem d0Z(f:a6A n warm=true)(g:(l.length:Int)=n-warm)(k:l.all a0B=true)(h:l.length≤5000):a5L (b6v n warm l) n warm=true:=
 (b4M f g k h 7 (by omega)).2
theorem c2v(z:a6A n warm=true)(x:(l.length:Int)=n-warm)(t:l.all a0B=true)(s:l.length≤5000):
  a9Z (n,warm,(6:Int),l)=some (b6v n warm l,0):=by
 have:=a0X (f:=a3L) (fun i:Nat=>(n,warm,(6:Int),l,(((a1K n warm l i).2:Nat):Int),(i:Int),((0:Int),([]:List Int),()),(a1K n warm l i).1,())) 7 (b:=(((0:Int),([]:List Int),()),b6v n warm l,()))
  (fun i hi=>by
   have j:decide ((i:Int)≤v0s (v0r 6 0) 8)=true:=decide_eq_true (by have:v0s (v0r 6 0) 8=6:=rfl;omega);have r:wrap .i64 ((i:Int)+1)=((i+1:Nat):Int):=a0C (by omega)
   by_cases hs:(a1T (i:Int) n warm).length=0
   simp_all[a1K,a3L,a2f];have hb:((((a1T (i:Int) n warm).length:Nat):Int)==0)=false:=by simp_all
   obtain⟨h,p,o,w,y,-,q⟩:=c6u hs x t s;have d:=b5u (n:=n) (warm:=warm) (most:=6) (least:=(((a1K n warm l i).2:Nat):Int)) (order:=(i:Int)) (L:=l) (a:=((0:Int),([]:List Int),())) (b:=(a1K n warm l i).1) w h.length 0 l [] (by omega) (by simp_all) t s rfl;simp at d;have e:=c2t q;simp only[b2u,o]at e;have k:(((h.length:Nat):Int)==0)=false:=by simp_all[a1B]
   have m:(((a1p h).length:Nat):Int)=((h.length:Nat):Int):=by rw[a1B]
   have v:b2u (i:Int) n warm l=((i:Int),a2H h l,()):=by simp only[b2u,o]
   have u:b8N (i:Int) n warm l=4+a5N h (a2H h l) l:=by simp only[b8N,o]
   by_cases hz:(a1K n warm l i).2=0
   have g:((((a1K n warm l i).2:Nat):Int)==0)=true:=by simp_all
   have c:a1K n warm l (i+1)=(((i:Int),a2H h l,()),4+a5N h (a2H h l) l):=by simp_all[a1K]
   simp only[a3L,j,cT,a2f,oB,p,m,k,cF,d,e,r,c,g];have g:((((a1K n warm l i).2:Nat):Int)==0)=false:=by simp_all
   by_cases hlt:4+a5N h (a2H h l) l<(a1K n warm l i).2
   have c:a1K n warm l (i+1)=(((i:Int),a2H h l,()),4+a5N h (a2H h l) l):=by simp_all[a1K]
   simp only[a3L,j,cT,a2f,oB,p,m,k,cF,d,e,r,c,g,d4v hlt];have c:a1K n warm l (i+1)=a1K n warm l i:=by simp only[a1K,hs,if_false,hz,false_or,v,u,hlt]
   simp only[a3L,j,cT,a2f,oB,p,m,k,cF,d,e,r,c,g,c7M hlt])
  (by
   rfl)
 simp_all[a1K,a9Z,b1i]
def a0Y(k:Int)(s:Sub):Sub:=
 (k,(0:Int),(if k=2 then s.2.2.1 else 0),(if k=3∨k=4 then s.2.2.2.1 else 0),(if k=4 then s.2.2.2.2.1 else 0),(if k=3∨k=4 then s.2.2.2.2.2.1 else[]),
  ((if k=4 then s.2.2.2.2.2.2.1 else a00 3 (0:Int)),(if k=5 then s.2.2.2.2.2.2.2.1 else[]),([]:List Int),((0:Int),([]:List Int),()),([]:List Int),()))
def z0:Prt:=((0:Int),([]:List Int),())
def a1V(s:Sub)(w:Nat)(wm:List Int)(p:Prt)(r:List Int):Sub:=
 (s.1,(w:Int),s.2.2.1,s.2.2.2.1,s.2.2.2.2.1,s.2.2.2.2.2.1,s.2.2.2.2.2.2.1,s.2.2.2.2.2.2.2.1,wm,p,r,())
theorem c9h(h:SmallS s)(k:Int):a6n (k,s)=some (a0Y k s):=by
 have f:short s.2.2.2.2.2.1:=by have:=h.coefs;unfold short;omega
 have g:short s.2.2.2.2.2.2.2.1:=by have:=h.stages;unfold short;omega
 grind[a6n,a0Y,b4B,b6V]
theorem c3W(h:SmallS s)(k:Int):SmallS (a0Y k s):=by
 have g:=h.coefs;have f:=h.taps;have a:=h.stages;refine⟨?_,?_,?_,by simp[a0Y],by simp[a0Y],by simp[a0Y]⟩<;>simp only[a0Y]<;>split<;>first|omega|simp
theorem c7O:a4a (a0Y k s).1 (a0Y k s) n↔a4a k s n:=by
 unfold a4a a0Y
 grind
open Classical in
def a2X (l:List Int):Nat:=if h:∃w,a8W l w then h.choose else 0
theorem d3d{l:List Int}{w:Nat}(h:a8W l w):a2X l=w:=by
 unfold a2X;rw[dif_pos ⟨w,h⟩];exact(Classical.choose_spec (⟨w,h⟩:∃w,a8W l w)).unique h
def a1h(l:List Int):List Int:=l.map fun x=>A0o .i64 x (a2X l:Int)
theorem a9t(h:short l)(g:l.all a0B=true):a3K l=some ((a2X l:Nat):Int)∧a2X l≤30∧a8W l (a2X l):=by
 grind[b7K,d3d]
theorem a7f(a:l.length≤4096)(f:l.all a0B=true):b0U ((a2X l:Nat):Int) l=some (a1h l)∧(a1h l).all a0B=true∧(a1h l).length=l.length∧upO ((a2X l:Nat):Int) (a1h l)=some l:=by
 obtain⟨-,g,k⟩:=a9t (show short l by unfold short;omega) f;have h:=d3c g f k;exact⟨h,d3a g h⟩
def a5O(k:Int)(s:Sub)(d:List Int):Option (List Int×List Int):=
 if k=2 then(bif (a2o s.2.2.1.toNat d).all a0B then some (d.take s.2.2.1.toNat,a2o s.2.2.1.toNat d)else none)
 else if k=3 then(b4I d s.2.2.2.2.2.1 s.2.2.2.1).map fun r=>(d.take s.2.2.2.2.2.1.length,r)
 else if k=4 then(b4f d s.2.2.2.2.1 s.2.2.2.2.2.2.1).bind fun x=>(b4I x s.2.2.2.2.2.1 s.2.2.2.1).map fun r=>(x.take s.2.2.2.2.2.1.length,r)
 else(b2z d s.2.2.2.2.2.2.2.1).map fun r=>([],r)
theorem c3X(i:k=2∨k=3∨k=4∨k=5)(hf:a4a k s (d.length:Int))(m:d.all a0B=true)(h:a5O k s d=some (wm,r)):
  wm.length≤d.length∧r.length=d.length-wm.length∧r.all a0B=true∧wm.all a0B=true:=by
 have f:=hf;simp only[a4a]at f;rcases i with rfl|rfl|rfl|rfl
 ·have:0≤s.2.2.1∧s.2.2.1≤(d.length:Int):=by omega
  simp[a5O]at h;cases hq:(a2o s.2.2.1.toNat d).all a0B with
  |false=>simp_all
  |true=>
   simp[hq]at h;obtain⟨rfl,rfl⟩:=h;simp_all[a5X,b7J]
 have:(s.2.2.2.2.2.1.length:Int)≤(d.length:Int):=by omega
 simp only[a5O,show ¬ (3:Int)=2 by simp,if_false,if_true,a21,pJ]at h;obtain⟨c,g,rfl,rfl⟩:=h;obtain⟨-,a,b⟩:=b4J g
 grind
 have:(s.2.2.2.2.2.1.length:Int)≤(d.length:Int):=by omega
 simp only[a5O,show ¬ (4:Int)=2 by simp,show ¬ (4:Int)=3 by simp,if_false,if_true,a44,a21,pJ]at h;obtain⟨x,e,c,g,rfl,rfl⟩:=h;obtain⟨-,j,l⟩:=b5Y e;obtain⟨-,a,b⟩:=b4J g
 grind
 simp only[a5O,show ¬ (5:Int)=2 by simp,show ¬ (5:Int)=3 by simp,show ¬ (5:Int)=4 by simp,if_false,a21,pJ]at h;obtain⟨c,g,rfl,rfl⟩:=h;obtain⟨-,a,b⟩:=b8H g;simp_all
theorem d1a(q:k=2∨k=3∨k=4∨k=5)(h:SmallS s)(hf:a4a k s (d.length:Int))(hd:d.length≤4096)(v:d.all a0B=true)(w:Nat):
  b1y (a1V (a0Y k s) w [] z0 [],d)=some (match a5O k s d with|none=>(6,a1V (a0Y k s) w [] z0 [])|some (wm,r)=>(0,a1V (a0Y k s) w wm z0 r)):=by
 have l:=h.taps;have g:=h.stages;have i:short d:=by unfold short;omega
 obtain⟨k',w',o,sh,lag,c,t,st,y,p,C,u⟩:=s;simp only[a4a]at hf l g;unfold b1y;rcases q with rfl|rfl|rfl|rfl;obtain⟨n,B,e⟩:0≤o∧o≤4∧o≤(d.length:Int):=by omega
 obtain⟨O,rfl⟩:=a01 n;have g:short (d.take O):=by unfold short;grind
 have j:decide ((O:Int)≤((d.length:Nat):Int))=true:=by simp_all
 simp only[a1V,a0Y,a5O,if_true,show((2:Int)==2)=true from rfl,cT,b5s (show O≤4 by omega) (show O≤d.length by omega) i v,oB,tN]
 grind[b2a,a2p,a8n]
 ·obtain⟨f,e⟩:a9K c sh=true∧(c.length:Int)≤(d.length:Int):=by simp_all
  have g:short (d.take c.length):=by unfold short;grind
  have m:decide ((0:Int)≤((c.length:Nat):Int))=true:=by simp
  have j:decide (((c.length:Nat):Int)≤((d.length:Nat):Int))=true:=by simp_all
  simp only[a1V,a0Y,a5O,show((3:Int)==2)=false from rfl,show((3:Int)==3)=true from rfl,show ¬ (3:Int)=2 by simp,show ¬ (3:Int)=4 by simp,show ¬ (3:Int)=5 by simp,true_or,if_true,if_false,cT,cF,b4e f (show c.length≤d.length by omega) (show d.length<100000 by omega),oB];cases b4I d c sh with
  |none=>rfl
  |some r=>simp_all[a5i,b2a,a2p,a8n]
 ·obtain⟨f,e,a⟩:a9K c sh=true∧(c.length:Int)≤(d.length:Int)∧b1N lag t=true:=by simp_all
  simp[a1V,a0Y,a5O,c3M a l (show d.length<100000 by omega)];cases hx:b4f d lag t with
  |none=>rfl
  |some x=>
   obtain⟨-,z,A⟩:=b5Y hx;have g:short (x.take c.length):=by unfold short;grind
   have m:decide ((0:Int)≤((c.length:Nat):Int))=true:=by simp
   have j:decide (((c.length:Nat):Int)≤((x.length:Nat):Int))=true:=by simp_all
   simp[a5i,b4e f (show c.length≤x.length by omega) (show x.length<100000 by omega)]
   grind[b2a,a2p,a8n]
 ·obtain⟨e,b⟩:0<st.length∧a9s st=true:=by simp_all
  have g:short (d.take 0):=by simp[short]
  simp only[a1V,a0Y,a5O,show((5:Int)==2)=false from rfl,show((5:Int)==3)=false from rfl,show((5:Int)==4)=false from rfl,show((5:Int)==5)=true from rfl,show ¬ (5:Int)=2 by simp,show ¬ (5:Int)=3 by simp,show ¬ (5:Int)=4 by simp,or_self,if_true,if_false,cT,cF,c2s b (show d.length<100000 by omega),oB];cases b2z d st with
  |none=>rfl
  |some r=>
   rfl
open Classical in

def a1t (k:Int) (l:List Int) (s:Sub):Sub×Int:=
 if ¬ (1≤l.length∧l.length≤4096∧a4a k s (l.length:Int))then(a2g 0,1)
 else if l.all a0B=false then(a2g 0,6)
 else if k=0 then(bif l.all (fun x=>x==l.headD 0)then(a1V (a0Y 0 s) 0 [l.headD 0] z0 [],0)else(a2g 0,7))
 else if k=1 then(a1V (a0Y 1 s) (a2X l) (a1h l) z0 [],0)
 else match a5O k s (a1h l)with
  |none=>(a2g 0,6)
  |some (wm,r)=>(a1V (a0Y k s) (a2X l) wm (b6v (l.length:Int) (wm.length:Int) r) r,0)
theorem c7P(h:1≤l.length):m0k l 0=some (l.headD 0):=by
 cases l with
 |nil=>grind
 |cons a l=>rfl
theorem c3Y(k:1≤l.length)(c:short l)(a b:Sub):
  y0s a5n (l,l,(l.length:Int),(0:Int),a,b,())=some (bif l.all (fun x=>x==l.headD 0)then .inl (l,a,b,())else .inr ((7:Int),a2g 0,())):=by
 have:=a2E (f:=a5n) l (fun i=>(l,l,(l.length:Int),(i:Int),a,b,())) (fun x=>x==l.headD 0) (bt:=Sum.inl (l,a,b,())) (bf:=Sum.inr ((7:Int),a2g 0,()))
  (fun i h hp=>by
   have g:(l[i] != l.headD 0)=false:=by simp_all
   simp only[a5n,dlt h,cT,a0D h,oB,c7P k,g,cF,a0C (a18 h c)])
  (fun i h hp=>by
   have g:(l[i] != l.headD 0)=true:=by simp_all
   simp only[a5n,dlt h,cT,a0D h,oB,c7P k,g];rfl)
  (by simp[a5n])
 omega
theorem b7a(h:a4a k s n)(g:k≠0)(f:k≠1):k=2∨k=3∨k=4∨k=5:=by
 rcases h with h|h|⟨h,-⟩|⟨h,-⟩|⟨h,-⟩|⟨h,-⟩;omega;omega
 all_goals omega
theorem d3e(h:SmallS s)(k:Int)(C:l.length≤100000):b2j (k,l,s)=some (a1t k l s):=by
 have j:short l:=by unfold short;omega
 unfold b2j a1t
 by_cases h1:1≤l.length
 rotate_left;have e:decide (((l.length:Nat):Int)<1)=true:=decide_eq_true (by omega);rw[if_pos (fun g=>h1 g.1)];simp only[e,cT,oB];rfl;have a:decide (((l.length:Nat):Int)<1)=false:=decide_eq_false (by omega)
 by_cases h2:l.length≤4096
 rotate_left;have e:decide (((l.length:Nat):Int) > 4096)=true:=decide_eq_true (by omega);rw[if_pos (fun g=>h2 g.2.1)];simp only[a,e,cT,cF,oB];rfl;have o:decide (((l.length:Nat):Int) > 4096)=false:=decide_eq_false (by omega)
 by_cases h3:a4a k s (l.length:Int)
 rotate_left;have b:b2U k s (l.length:Int)=false:=by simp[b2U,h3]
 rw[if_pos (fun g=>h3 g.2.2)];simp only[a,o,b3Y h,b,cF,a36,cT,oB];rfl;have b:b2U k s (l.length:Int)=true:=by simp[b2U,h3]
 rw[if_neg (fun g=>g ⟨h1,h2,h3⟩)];simp only[a,o,b3Y h,b,cF,bT,oB,a4F j];cases hw:l.all a0B with
 |false=>rfl
 |true=>
  simp only[bT,cF,c9h h,oB];rw[if_neg (by simp)]
  by_cases h0:k=0
  ·subst h0;have hf:=c3Y h1 j (a2g 0) (a0Y 0 s);have v:a2g 0=((0:Int),(0:Int),(0:Int),(0:Int),(0:Int),([]:(List Int)),a00 3 (0:Int),([]:(List (Int×Int×Unit))),([]:(List Int)),((0:Int),([]:(List Int)),()),([]:(List Int)),()):=rfl;rw[←v,if_pos rfl];simp only[show((0:Int)==0)=true from rfl,cT,hf,oB];cases l.all (fun x=>x==l.headD 0)with
   |false=>rfl
   |true=>simp only[cT,c7P h1,oB];rfl
  ·obtain⟨y,z,-⟩:=a9t j hw;obtain⟨t,n,B,-⟩:=a7f h2 hw;have c:(k==0)=false:=by grind
   rw[if_neg h0];simp only[c,cF,y,oB,b4d z (show l.length<100000 by omega),t,a5i,show((0:Int) != 0)=false from rfl]
   by_cases hk1:k=1
   subst hk1;rfl
   ·have i:(k==1)=false:=by simp_all
    have p:=b7a h3 h0 hk1;rw[if_neg hk1];have m:=d1a p h (d:=a1h l) (by simp_all) (by omega) n (a2X l);have u:((a0Y k s).1,((a2X l:Nat):Int),(a0Y k s).2.2)=a1V (a0Y k s) (a2X l) [] z0 []:=rfl;simp only[i,cF,u,m,oB];cases hr:a5O k s (a1h l)with
    |none=>rfl
    |some q=>
     obtain⟨A,r⟩:=q;obtain⟨D,r2,w,-⟩:=c3X p (by simp_all) n hr;have f:a6A (l.length:Int) (A.length:Int)=true:=by simp_all[a6A]
     have hb:=c2v f (l:=r) (by omega) w (by omega);simp only[show((0:Int) != 0)=false from rfl,cF,a1V,hb,oB]
theorem c9i(h:a5L p n warm=true):p.2.1.length≤256:=by
 simp only[a5L,bA,a33,beq_eq_false_iff_ne,ne_eq,beq_iff_eq]at h
 grind[b3L,a1B]
theorem b4N(h:SmallS s)(g:wm.length≤5000)(f:r.length≤5000)(k:p.2.1.length≤300):SmallS (a1V s w wm p r):=
 ⟨h.coefs,h.taps,h.stages,g,f,k⟩
theorem c7Q(f:(a1t k l s).2=0):
  1≤l.length∧l.length≤4096∧a4a k s (l.length:Int)∧l.all a0B=true∧
   ((k=0∧l.all (fun x=>x==l.headD 0)=true∧(a1t k l s).1=a1V (a0Y 0 s) 0 [l.headD 0] z0 [])∨
    (k=1∧(a1t k l s).1=a1V (a0Y 1 s) (a2X l) (a1h l) z0 [])∨
     ((k=2∨k=3∨k=4∨k=5)∧∃wm r,a5O k s (a1h l)=some (wm,r)∧(a1t k l s).1=a1V (a0Y k s) (a2X l) wm (b6v (l.length:Int) (wm.length:Int) r) r)):=by
 unfold a1t at f⊢
 split at f
 omega;rename_i g;have g:1≤l.length∧l.length≤4096∧a4a k s (l.length:Int):=Classical.byContradiction g;refine⟨g.1,g.2.1,g.2.2,?_⟩;rw[if_neg (fun h=>h g)]
 split at f
 omega;rename_i d;have a:l.all a0B=true:=by simp_all
 refine⟨a,?_⟩;rw[if_neg d]
 split at f
 grind
 rename_i b;rw[if_neg b]
 split at f
 simp_all;rename_i c;rw[if_neg c];refine .inr (.inr ⟨b7a g.2.2 b c,?_⟩)
 grind
theorem b3b:b3Z (a1V (a0Y k s) w wm p r):=by
 unfold b3Z a1V a0Y;simp_all
theorem b7L(h:a4a k s n):a4a (a1V (a0Y k s) w wm p r).1 (a1V (a0Y k s) w wm p r) n:=c7O.2 h
theorem d1b{l:List Int}(h:l.all (fun x=>x==l.headD 0)=true):a00 l.length (l.headD 0)=l:=by
 refine(List.eq_replicate_iff.2 ⟨rfl,fun x g=>?_⟩).symm
 grind
theorem b9Z(H:SmallS s)(F:(a1t k l s).2=0):
  SmallS (a1t k l s).1∧(a1t k l s).1.1=k∧a1z (a1t k l s).1 (l.length:Int)∧a2n (a1t k l s).1 (l.length:Int)=some l:=by
 obtain⟨R,G,hf,z,I⟩:=c7Q F;have L:short l:=by unfold short;omega
 obtain⟨-,X,-⟩:=a9t L z;obtain⟨N,u,O,C⟩:=a7f G z;have d:∀m:Sub,a1z m (l.length:Int)→c3z m (l.length:Int)=some l→a2n m (l.length:Int)=some l:=fun m j n=>by simp_all[a2n]
 have b:=c3W H k;rcases I with⟨rfl,w,e⟩|⟨rfl,e⟩|⟨y,i,r,f,e⟩
 ·rw[e];have g:a1z (a1V (a0Y 0 s) 0 [l.headD 0] z0 []) (l.length:Int):=by
   have S:a0B (l.headD 0)=true:=by
    cases l with
    |nil=>rfl
    |cons a l=>simp_all
   exact⟨by omega,by omega,b7L hf,b3b,Int.le_refl _,(by simp:(0:Int)≤30),fun _=>rfl,rfl,by simp_all[a1V],rfl,fun _=>⟨rfl,rfl,rfl⟩,fun h=>absurd rfl h.1⟩
  refine⟨b4N b (by simp) (by simp) (by simp[z0]),rfl,g,d _ g ?_⟩;show some (a00 (l.length:Int).toNat (l.headD 0))=some l
  grind[d1b]
 rw[e];have g:a1z (a1V (a0Y 1 s) (a2X l) (a1h l) z0 []) (l.length:Int):=
  ⟨by omega,by omega,b7L hf,b3b,a83 _,(by show((a2X l:Nat):Int)≤30;omega),fun h=>absurd h (by simp:¬ (1:Int)=0),by show(((a1h l).length:Nat):Int)=(l.length:Int);omega,u,rfl,fun _=>⟨rfl,rfl,rfl⟩,fun h=>absurd rfl h.2⟩
 refine⟨b4N b (by omega) (by simp) (by simp[z0]),rfl,g,d _ g ?_⟩;show upO ((a2X l:Nat):Int) (a1h l)=some l;omega
 ·rw[e];obtain⟨V,r2,B,M⟩:=c3X y (by simp_all) u f;have q:a6A (l.length:Int) (i.length:Int)=true:=by simp only[a6A,bA,dT];omega
  have hp:=d0Z q (l:=r) (by omega) B (by omega);generalize b6v (l.length:Int) (i.length:Int) r=p at hp;have K:=c9i hp

  have t:a2p (a1V (a0Y k s) (a2X l) i p r) (l.length:Int)=(i.length:Int)∧backP (a1V (a0Y k s) (a2X l) i p r)=some (a1h l):=by
   simp only[a4a]at hf;rcases y with rfl|rfl|rfl|rfl
   ·obtain⟨T,U,A⟩:0≤s.2.2.1∧s.2.2.1≤4∧s.2.2.1≤(l.length:Int):=by omega
    simp[a5O]at f;cases hq:(a2o s.2.2.1.toNat (a1h l)).all a0B with
    |false=>simp_all
    |true=>
     simp[hq]at f;obtain⟨rfl,rfl⟩:=f;refine⟨?_,?_⟩;show s.2.2.1=_
     grind
     show b7F ((a1h l).take s.2.2.1.toNat) (a2o s.2.2.1.toNat (a1h l)) s.2.2.1=some (a1h l);have hb:=c3I u (o:=s.2.2.1.toNat) (by omega) ((a1h l).length-s.2.2.1.toNat) 0 (by omega);rw[a28,a85]at hb
     grind[b7F]
   have A:(s.2.2.2.2.2.1.length:Int)≤(l.length:Int):=by omega
   simp only[a5O,show ¬ (3:Int)=2 by simp,if_false,if_true,a21,pJ]at f;obtain⟨v,j,rfl,rfl⟩:=f;obtain⟨n,-,-⟩:=b4J j;refine⟨?_,?_⟩;show((s.2.2.2.2.2.1.length:Nat):Int)=_;simp_all;exact n;have A:(s.2.2.2.2.2.1.length:Int)≤(l.length:Int):=by omega
   simp only[a5O,show ¬ (4:Int)=2 by simp,show ¬ (4:Int)=3 by simp,if_false,if_true,a44,a21,pJ]at f;obtain⟨x,E,v,j,rfl,rfl⟩:=f;obtain⟨P,-,Q⟩:=b5Y E;obtain⟨n,-,-⟩:=b4J j;refine⟨?_,?_⟩;show((s.2.2.2.2.2.1.length:Nat):Int)=_;simp_all;show(b2O (x.take s.2.2.2.2.2.1.length) v s.2.2.2.2.2.1 s.2.2.2.1).bind (fun l=>b3q l s.2.2.2.2.1 s.2.2.2.2.2.2.1)=_;simp_all;simp only[a5O,show ¬ (5:Int)=2 by simp,show ¬ (5:Int)=3 by simp,show ¬ (5:Int)=4 by simp,if_false,a21,pJ]at f;obtain⟨v,j,rfl,rfl⟩:=f;obtain⟨n,-,-⟩:=b8H j;exact⟨rfl,n⟩
  have c:¬ (k=0∨k=1):=by omega
  have g:a1z (a1V (a0Y k s) (a2X l) i p r) (l.length:Int):=by
   unfold a1z;rw[t.1];exact⟨by omega,by omega,b7L hf,b3b,a83 _,(by show((a2X l:Nat):Int)≤30;omega),fun h=>absurd (.inl h) c,rfl,M,B,fun h=>absurd h c,fun _=>⟨(by show((r.length:Nat):Int)=_;omega),hp⟩⟩
  refine⟨b4N b (by omega) (by omega) (by omega),rfl,g,d _ g ?_⟩;have D:¬ (a1V (a0Y k s) (a2X l) i p r).1=0:=fun h=>c (.inl h);unfold c3z;rw[if_neg D,t.2];exact C
theorem c7R:SmallS (a2g 0):=c5R 0
def cS(k o sh:Int)(c:List Int)(st:List Stg):Sub:=
 (k,(0:Int),o,sh,(0:Int),c,a00 3 (0:Int),st,([]:List Int),((0:Int),([]:List Int),()),([]:List Int),())
theorem b1l{k o sh:Int}{c:List Int}{st:List Stg}(h:c.length≤40)(g:st.length≤6):SmallS (cS k o sh c st):=
 ⟨h,rfl,g,by simp[cS],by simp[cS],by simp[cS]⟩
def b2v(d:List Int)(o w:Int):List Int×(Int×Int):=(a3X (d,o,w)).getD ([],0,1)
def b1m(d:List Int)(o w:Int):List Sub:=bif (b2v d o w).2.2==0 then[cS 3 0 (b2v d o w).2.1 (b2v d o w).1 []]else[]
def c7S(d:List Int):Int:=(a6r d).getD 0
def b4O(d:List Int):Sub×Bool:=(a3z d).getD (a2g 0,false)
def b7M(d:List Int):List Sub:=bif (b4O d).2 then[(b4O d).1]else[]
def b1n(i:Nat):List Sub:=(List.range i).map fun(j:Nat)=>cS 2 (j:Int) 0 [] []
def a2r(d:List Int):List Sub:=[cS 0 0 0 [] [],cS 1 0 0 [] [],cS 2 (c7S d) 0 [] []]
def a3Q(d:List Int)(k:Int):List Sub:=if 1≤k then b1m d 4 12++b1m d 8 12 else[]
def b1T(d:List Int)(k:Int):List Sub:=if 2≤k then[cS 5 0 0 [] [((16:Int),(4:Int),())],cS 5 0 0 [] [((32:Int),(3:Int),()),((16:Int),(5:Int),())]]++b7M d else[]
def c2D(d:List Int)(k:Int):List Sub:=if 3≤k then b1n 5++(b1m d 1 12++(b1m d 2 12++(b1m d 12 14++b1m d 16 14)))else[]
def a4n(d:List Int)(k:Int):List Sub:=a2r d++(a3Q d k++(b1T d k++c2D d k))
def b8O(d:List Int):Prop:=a3z d=some (b4O d)∧((b4O d).2=true→SmallS (b4O d).1)
theorem c3Z(a:d.all a0B=true)(k:d.length≤4096)(h:1≤o)(g:o≤32)(f:2≤w∧w≤16):
  a3X (d,(o:Int),(w:Int))=some (b2v d o w)∧((b2v d o w).2.2=0→(b2v d o w).1.length=o):=by
 obtain⟨c,sh,e,b,i⟩:=c9c a k h g f;unfold b2v;simp_all
theorem b1o(d:List Int)(o w:Int):(b1m d o w).length≤1:=by
 grind[b1m]
theorem b1p(c:d.all a0B=true)(b:d.length≤4096)(f:1≤o)(k:o≤32)(a:2≤w∧w≤16){L:List Sub}(e:L.length<1000):
  a0P ((o:Int),(w:Int),d,L)=some (d,L++b1m d o w):=by
 obtain⟨g,-⟩:=c3Z c b f k a;have h:lim (L.length+1)=true:=a0T (by omega);unfold a0P b1m;simp only[g,oB];cases (b2v d o w).2.2==0 with
 |true=>simp only[cT,h];rfl
 |false=>simp
theorem c7T{L:List Sub}(k:L.length<1000):y0s a2t ((0:Int),L,d,())=some (L++b1n 5,d,()):=by
 have:=a0X (f:=a2t) (fun i:Nat=>((i:Int),L++b1n i,d,())) 5 (b:=(L++b1n 5,d,()))
  (fun i hi=>by
   have g:decide ((i:Int)<5)=true:=decide_eq_true (by omega);have h:lim ((L++b1n i).length+1)=true:=a0T (by simp[b1n];omega);have e:(L++b1n i)++[cS 2 (i:Int) 0 [] []]=L++b1n (i+1):=by simp[b1n,List.range_succ]
   rw[←e];simp only[a2t,g,cT,h,a0C (show i<1000000 by omega)];rfl)
  (by
   rfl)
 simp at this;rw[show b1n 0=[]from rfl,a39]at this;omega
theorem d3f(a:d.all a0B=true)(c:d.length≤4096)(l:b8O d)(k:Int):a6U (d,k)=some (a4n d k):=by
 obtain⟨o,E,F⟩:=b8F (show d.length<100000 by omega) a;have hb:c7S d=(o:Int):=by simp_all[c7S]
 have D:(b7M d).length≤1:=by grind[b7M]
 have M:=b1o d 4 12;have N:=b1o d 8 12;have l1:=b1o d 1 12;have l2:=b1o d 2 12;have G:=b1o d 12 14;have y:=fun L (hL:L.length<1000)=>b1p (L:=L) a c (o:=4) (w:=12) (by omega) (by omega) (by omega) hL;have z:=fun L (hL:L.length<1000)=>b1p (L:=L) a c (o:=8) (w:=12) (by omega) (by omega) (by omega) hL;have v:=fun L (hL:L.length<1000)=>b1p (L:=L) a c (o:=1) (w:=12) (by omega) (by omega) (by omega) hL;have x:=fun L (hL:L.length<1000)=>b1p (L:=L) a c (o:=2) (w:=12) (by omega) (by omega) (by omega) hL;have i:=fun L (hL:L.length<1000)=>b1p (L:=L) a c (o:=12) (w:=14) (by omega) (by omega) (by omega) hL;have j:=fun L (hL:L.length<1000)=>b1p (L:=L) a c (o:=16) (w:=14) (by omega) (by omega) (by omega) hL;simp at y z v x i j;have O:(a2r d).length=3:=rfl;have n1:(a3Q d k).length≤2:=by unfold a3Q;split<;>simp<;>omega
 have n2:(b1T d k).length≤3:=by unfold b1T;split<;>simp<;>omega
 have P:(b1n 5).length=5:=rfl;have K:(bif decide (k≥1)then((a0P ((4:Int),(12:Int),d,a2r d)).bind fun n=>(a0P ((8:Int),(12:Int),n.1,n.2)).bind fun p=>some (k,p.1,p.2,()))else some (k,d,a2r d,()))=some (k,d,a2r d++a3Q d k,()):=by
  unfold a3Q
  by_cases h:1≤k
  have e:decide (k≥1)=true:=decide_eq_true h;simp only[e,cT,y (a2r d) (by omega),oB,z (a2r d++b1m d 4 12) (by grind),if_pos h,aA]
  grind
 have C:a6U (d,k)=(a6r d).bind fun A=>
   (show Option (Int×((List Int)×((List Sub)×Unit)))from bif decide (k≥1)then((a0P ((4:Int),(12:Int),d,[cS 0 0 0 [] [],cS 1 0 0 [] [],cS 2 A 0 [] []])).bind fun n=>(a0P ((8:Int),(12:Int),n.1,n.2)).bind fun p=>some (k,p.1,p.2,()))else some (k,d,[cS 0 0 0 [] [],cS 1 0 0 [] [],cS 2 A 0 [] []],())).bind fun g=>
   (show Option (Int×((List Sub)×((List Int)×Unit)))from bif decide (g.1≥2)then(bif lim (g.2.2.1.length+1)then(bif lim ((g.2.2.1++[cS 5 0 0 [] [((16:Int),(4:Int),())]]).length+1)then((a3z g.2.1).bind fun q=>
    bif q.2 then(bif lim ((g.2.2.1++[cS 5 0 0 [] [((16:Int),(4:Int),())]]++[cS 5 0 0 [] [((32:Int),(3:Int),()),((16:Int),(5:Int),())]]).length+1)then some (g.1,g.2.2.1++[cS 5 0 0 [] [((16:Int),(4:Int),())]]++[cS 5 0 0 [] [((32:Int),(3:Int),()),((16:Int),(5:Int),())]]++[q.1],g.2.1,())else none)
    else some (g.1,g.2.2.1++[cS 5 0 0 [] [((16:Int),(4:Int),())]]++[cS 5 0 0 [] [((32:Int),(3:Int),()),((16:Int),(5:Int),())]],g.2.1,()))else none)else none)else some (g.1,g.2.2.1,g.2.1,())).bind fun t=>
   (show Option ((List Sub)×Unit)from bif decide (t.1≥3)then((y0s a2t ((0:Int),t.2.1,t.2.2.1,())).bind fun m=>(a0P ((1:Int),(12:Int),m.2.1,m.1)).bind fun r=>(a0P ((2:Int),(12:Int),r.1,r.2)).bind fun s=>
    (a0P ((12:Int),(14:Int),s.1,s.2)).bind fun f=>(a0P ((16:Int),(14:Int),f.1,f.2)).bind fun b=>some (b.2,()))else some (t.2.1,())).bind fun u=>some u.1:=rfl
 have B:[cS 0 0 0 [] [],cS 1 0 0 [] [],cS 2 (o:Int) 0 [] []]=a2r d:=by unfold a2r;grind
 have Q:(bif decide (k≥2)then(bif lim ((a2r d++a3Q d k).length+1)then(bif lim ((a2r d++a3Q d k++[cS 5 0 0 [] [((16:Int),(4:Int),())]]).length+1)then((a3z d).bind fun q=>
    bif q.2 then(bif lim ((a2r d++a3Q d k++[cS 5 0 0 [] [((16:Int),(4:Int),())]]++[cS 5 0 0 [] [((32:Int),(3:Int),()),((16:Int),(5:Int),())]]).length+1)then some (k,a2r d++a3Q d k++[cS 5 0 0 [] [((16:Int),(4:Int),())]]++[cS 5 0 0 [] [((32:Int),(3:Int),()),((16:Int),(5:Int),())]]++[q.1],d,())else none)
    else some (k,a2r d++a3Q d k++[cS 5 0 0 [] [((16:Int),(4:Int),())]]++[cS 5 0 0 [] [((32:Int),(3:Int),()),((16:Int),(5:Int),())]],d,()))else none)else none)else some (k,a2r d++a3Q d k,d,()):Option (Int×((List Sub)×((List Int)×Unit))))=some (k,a2r d++(a3Q d k++b1T d k),d,()):=by
  unfold b1T
  by_cases h:2≤k
  have e:decide (k≥2)=true:=decide_eq_true h;have q1:lim ((a2r d++a3Q d k).length+1)=true:=a0T (by grind);have H:lim ((a2r d++a3Q d k++[cS 5 0 0 [] [((16:Int),(4:Int),())]]).length+1)=true:=a0T (by simp;omega);have I:lim ((a2r d++a3Q d k++[cS 5 0 0 [] [((16:Int),(4:Int),())]]++[cS 5 0 0 [] [((32:Int),(3:Int),()),((16:Int),(5:Int),())]]).length+1)=true:=a0T (by simp;omega);simp only[e,q1,H,I,cT,l.1,oB,if_pos h,b7M];cases (b4O d).2<;>simp
  grind
 have R:(bif decide (k≥3)then((y0s a2t ((0:Int),a2r d++(a3Q d k++b1T d k),d,())).bind fun m=>(a0P ((1:Int),(12:Int),m.2.1,m.1)).bind fun r=>(a0P ((2:Int),(12:Int),r.1,r.2)).bind fun s=>
    (a0P ((12:Int),(14:Int),s.1,s.2)).bind fun f=>(a0P ((16:Int),(14:Int),f.1,f.2)).bind fun b=>some (b.2,()))else some (a2r d++(a3Q d k++b1T d k),()):Option ((List Sub)×Unit))=some (a4n d k,()):=by
  unfold a4n c2D
  by_cases h:3≤k
  have e:decide (k≥3)=true:=decide_eq_true h;simp only[e,cT,c7T (L:=a2r d++(a3Q d k++b1T d k)) (by simp;omega),oB,if_pos h];rw[v _ (by simp;omega)];simp only[oB];rw[x _ (by simp;omega)];simp only[oB];rw[i _ (by simp;omega)];simp only[oB];rw[j _ (by simp;omega)]
  simp
  grind
 rw[C,E,oB,B];simp only[];rw[K];simp only[oB];simp_all
theorem b8P(l:d.all a0B=true)(i:d.length≤4096)(f:b8O d)(k:Int):∀c∈a4n d k,SmallS c:=by
 have g:∀(o w:Nat),1≤o→o≤32→2≤w∧w≤16→∀c∈b1m d o w,SmallS c:=fun o w a b e c h=>by
  obtain⟨-,m⟩:=c3Z l i a b e;unfold b1m at h;cases he:(b2v d o w).2.2==0 with
  |false=>simp_all
  |true=>
   rw[he]at h;simp at h
   grind[b1l]
 intro c h;simp[a4n]at h;rcases h with h|h|h|h;simp[a2r]at h;rcases h with rfl|rfl|rfl<;>exact b1l (by simp) (by simp);unfold a3Q at h
 split at h
 simp at h;rcases h with h|h;exact g 4 12 (by omega) (by omega) (by omega) c h;exact g 8 12 (by omega) (by omega) (by omega) c h;simp_all
 ·unfold b1T at h
  split at h
  ·simp only[mA,mC,a96,or_false]at h;rcases h with(rfl|rfl)|h;simp_all[b1l];simp_all[b1l]
   ·unfold b7M at h;cases hg:(b4O d).2 with
    |false=>simp_all
    |true=>
     rw[hg]at h;simp at h;subst h;exact f.2 hg
  simp_all
 unfold c2D at h
 split at h
 simp only[mA,b1n,List.mem_map]at h;rcases h with⟨j,-,rfl⟩|h|h|h|h;simp_all[b1l];exact g 1 12 (by omega) (by omega) (by omega) c h;exact g 2 12 (by omega) (by omega) (by omega) c h;exact g 12 14 (by omega) (by omega) (by omega) c h;exact g 16 14 (by omega) (by omega) (by omega) c h;simp_all
theorem d1c(g:d.length≤256):a3z d=some (a2g 0,false):=by
 have h:b1D (d,(16:Int),(256:Int))=some (0,7):=by
  unfold b1D
  grind
 unfold a3z;simp only[h,oB,show((7:Int) != 0)=true from rfl,cT];rfl
theorem d4w{d:List Int}(g:d.length≤256):b8O d:=by
 have h:=d1c g
 have:b4O d=(a2g 0,false):=by unfold b4O;simp_all
 exact⟨by simp_all,fun f=>by simp_all⟩
def b4i(l:List Int)(a:Int×(Bool×Sub))(c:Sub):Int×(Bool×Sub):=
 bif (a1t c.1 l c).2 != 0 then a else bif !a.2.1 || decide (a5f (a1t c.1 l c).1 (l.length:Int)<a.1)then(a5f (a1t c.1 l c).1 (l.length:Int),true,(a1t c.1 l c).1)else a
def b4P(l:List Int)(cs:List Sub):Int×(Bool×Sub):=cs.foldl (b4i l) (0,false,a2g 0)
theorem b4Q{α A β:Type}(g:A→α→A)(h:A→β):∀(l:List α)(a:A),a9f h (a2O (fun a x=>.inl (g a x)) l a)=h (l.foldl g a)
 | [],_=>rfl
 |x::l,a=>b4Q g h l (g a x)
theorem c5S(h:SmallS s):SmallS (a1t k l s).1:=by
 by_cases h0:(a1t k l s).2=0
 exact(b9Z h h0).1
 have:(a1t k l s).1=a2g 0:=by
  unfold a1t at h0⊢
  grind
 simp_all[c7R]
theorem c9j{cs:List Sub}(e:∀c∈cs,SmallS c)(o:l.length≤4096)(n:cs.length<1000):
  y0s a7q (l,(0:Int),false,cs,((cs.length:Nat):Int),(0:Int),a2g 0,a2g 0,())=some (a2g 0,(b4P l cs).2.2,()):=by
 have:=a2a (f:=a7q) cs (fun i a=>(l,a.1,a.2.1,cs,((cs.length:Nat):Int),(i:Int),a2g 0,a.2.2,())) (fun a x=>.inl (b4i l a x)) (fun _ _=>True) (fun a=>(a2g 0,a.2.2,()))
  (fun i hi a _=>by
   refine⟨fun m h=>?_,fun b hb=>by grind⟩;simp at h;subst h;refine⟨?_,trivial⟩;have g:=e _ (a05 hi);have d:=c6r (c5S (k:=cs[i].1) (l:=l) g) (l.length:Int);unfold b4i;simp only[a7q,dlt hi,cT,a0D hi,oB,d3e g cs[i].1 (show l.length≤100000 by omega),d,a0C (show i<1000000 by omega)];cases (a1t cs[i].1 l cs[i]).2 != 0 with
   |true=>rfl
   |false=>
    have j:=a0C (show i<1000000 by omega)
    grind)
  (fun a _=>by simp_all[a7q]) (a:=((0:Int),false,a2g 0)) trivial
 simp at this;rw[this,b4Q];rfl
theorem d3g(v:1≤l.length)(c:l.length≤4096)(a:l.all a0B=true)(h:b8O (a1h l))(u:0≤k)(x:k≤3):
  a5C (l,k)=some ((b4P l (a4n (a1h l) k)).2.2,0):=by
 have d:short l:=by unfold short;omega
 obtain⟨r,s,-⟩:=a9t d a;obtain⟨e,b,t,-⟩:=a7f c a;have i:decide (((l.length:Nat):Int)<1)=false:=decide_eq_false (by omega);have j:decide (((l.length:Nat):Int) > 4096)=false:=decide_eq_false (by omega);have m:decide (k<0)=false:=decide_eq_false (by omega);have n:decide (k > 3)=false:=decide_eq_false (by omega);have f:(a4n (a1h l) k).length<1000:=by
  have g:=fun o w=>b1o (a1h l) o w;have q1:=g 4 12;have y:=g 8 12;have z:=g 1 12;have A:=g 2 12;have B:=g 12 14;have C:=g 16 14;have p:(b7M (a1h l)).length≤1:=by grind[b7M]
  simp only[a4n,a2r,a3Q,b1T,c2D,lN]
  grind[b1n]
 have hb:=c9j (l:=l) (b8P b (by omega) h k) c f;have q:a2g 0=((0:Int),(0:Int),(0:Int),(0:Int),(0:Int),([]:(List Int)),a00 3 (0:Int),([]:(List (Int×Int×Unit))),([]:(List Int)),((0:Int),([]:(List Int)),()),([]:(List Int)),()):=rfl;unfold a5C;simp only[←q,i,j,m,n,cF,oB,a4F d,a,bT,r,b4d s (show l.length<100000 by omega),e,a5i,show((0:Int) != 0)=false from rfl,d3f b (show(a1h l).length≤4096 by omega) h,hb]
theorem b1q(v:Int)(n:Nat)(L:List Int):(a0O v n L).length=L.length+(a0O v n []).length:=by
 grind[a0O]
theorem b3z(n:Nat):∀(l L:List Int),(a1N n l L).length=L.length+(a1N n l []).length
 | [],L=>by rfl
 |x::l,L=>by
  show(a1N n l (a0O (a0W x n) n L)).length=L.length+(a1N n l (a0O (a0W x n) n [])).length;rw[b3z n l,b3z n l (a0O (a0W x n) n []),b1q];omega
theorem b3O:∀(st:List Stg)(L:List Int),(a3j st L).length=L.length+(a3j st []).length
 | [],L=>by rfl
 |s::st,L=>by
  show(a3j st (a6D s L)).length=L.length+(a3j st (a6D s [])).length;rw[b3O st,b3O st (a6D s [])];unfold a6D;rw[b1q,b1q _ 5 L,b1q _ 4 (a0O _ 5 [])];omega
theorem c7U(s:Sub)(L:List Int):(a6E s L).length=L.length+(a6E s []).length:=by
 grind[a6E,b3z,b1q]
theorem c1e(s:Sub)(L:List Int):(a2y s L).length=L.length+(a2y s []).length:=by
 grind[a2y,b1q,c7U,b3z,b3O]
theorem d1d(g:0≤s.1∧s.1≤5)(f:0≤s.2.1∧s.2.1≤30)(h:s.2.2.2.2.2.2.2.2.1.all a0B=true)(L:List Int):(b1P s L).length=L.length+13:=by
 grind[a01,a2b,b1P,a3C,b1k]
def c7V(s:Sub)(zn:List Nat):Nat:=
 13+(a2y s []).length+a0I s.2.2.2.2.2.2.2.2.1*s.2.2.2.2.2.2.2.2.1.length+if s.1=0∨s.1=1 then 0 else 4+a5N zn s.2.2.2.2.2.2.2.2.2.1.2.1 s.2.2.2.2.2.2.2.2.2.2.1
theorem b4R(h:a4a k s n):0≤k∧k≤5:=by
 rcases h with h|h|⟨h,-⟩|⟨h,-⟩|⟨h,-⟩|⟨h,-⟩<;>omega
theorem b3P(h:(a2n s n).isSome=true):a1z s n:=by
 grind[a2n]
theorem d3h(h:(a2n s n).isSome=true)(c:s.1≠0∧s.1≠1→PartsOk s.2.2.2.2.2.2.2.2.2.1 n ((s.2.2.2.2.2.2.2.2.1.length:Nat):Int) s.2.2.2.2.2.2.2.2.2.2.1 zn)(L:List Int):
  (a5p s zn L).length=L.length+c7V s zn:=by
 obtain⟨d,e,hf,-,k,a,-,-,f,-⟩:=b3P h;have b:=a2b f;have g:=d1d (b4R hf) ⟨k,a⟩ f L;unfold a5p c7V
 by_cases hk:s.1=0∨s.1=1
 rw[if_pos hk,if_pos hk,b3x (by omega),c1e,g];omega;rw[if_neg hk,if_neg hk,c2u (c (not_or.1 hk)),b3x (by omega),c1e,g];omega
theorem d1e(h:SmallS s)(f:(a2n s n).isSome=true):∃g,a5f s n=((c7V s g:Nat):Int)∧(s.1≠0∧s.1≠1→PartsOk s.2.2.2.2.2.2.2.2.2.1 n ((s.2.2.2.2.2.2.2.2.1.length:Nat):Int) s.2.2.2.2.2.2.2.2.2.2.1 g):=by
 obtain⟨e,b,-,-,-,a,-⟩:=b4D h (n:=n) (L:=[]) (by simp);obtain⟨-,g,-,k⟩:=a f;refine⟨g,?_,k⟩;unfold a5f;rw[if_pos f,←b9X k,d3h f k]
 simp
structure Shifted (l m:List Int) (n:Nat):Prop where
 len:m.length=l.length
 wl:l.all a0B=true
 wm:m.all a0B=true
 down:a1h m=a1h l
 waste:a2X m=a2X l+n
 fl:l.all (fun x=>x==l.headD 0)=false
 fm:m.all (fun x=>x==m.headD 0)=false
structure BestIs (l:List Int) (cs:List Sub) (a:Int×(Bool×Sub)):Prop where
 one:a.2.1=true→∃c∈cs,(a1t c.1 l c).2=0∧a.2.2=(a1t c.1 l c).1∧a.1=a5f a.2.2 (l.length:Int)
 least:∀c∈cs,(a1t c.1 l c).2=0→a.2.1=true∧a.1≤a5f (a1t c.1 l c).1 (l.length:Int)
theorem b6b{l:List Int}:∀(cs ds:List Sub)(a:Int×(Bool×Sub)),BestIs l ds a→BestIs l (ds++cs) (cs.foldl (b4i l) a)
 | [],ds,a,h=>by simp_all
 |c::cs,ds,a,h=>by
  rw[b00,show ds++c::cs=(ds++[c])++cs by simp];refine b6b cs (ds++[c]) _ ?_
  unfold b4i
  by_cases h0:(a1t c.1 l c).2=0
  ·have n1:((a1t c.1 l c).2 != 0)=false:=by simp_all
   rw[n1,cF];cases hq:(!a.2.1 || decide (a5f (a1t c.1 l c).1 (l.length:Int)<a.1))with
   |true=>
    refine⟨fun _=>⟨c,by simp,h0,rfl,rfl⟩,fun d hd f=>⟨rfl,?_⟩⟩;rcases mA.1 hd with hd|hd;obtain⟨b,e⟩:=h.least d hd f
    grind
    simp_all
   |false=>
    simp only[a77,Bool.not_eq_false',decide_eq_false_iff_not]at hq;refine⟨fun k=>?_,fun d hd f=>?_⟩;obtain⟨d,hd,g⟩:=h.one k
    grind
    rcases mA.1 hd with hd|hd;exact h.least d hd f;simp_all
  have n1:((a1t c.1 l c).2 != 0)=true:=by simp_all
  rw[n1,cT];refine⟨fun k=>?_,fun d hd f=>?_⟩;obtain⟨d,hd,g⟩:=h.one k
  grind
  rcases mA.1 hd with hd|hd;exact h.least d hd f;simp_all
theorem c0A(l:List Int)(cs:List Sub):BestIs l cs (b4P l cs):=
 b6b cs [] _ ⟨fun h=>(by grind),fun _ h=>(by grind)⟩
theorem b4S(h:1≤l.length)(g:l.length≤4096)(f:l.all a0B=true):a1t 1 l (cS 1 0 0 [] [])=(a1V (a0Y 1 (cS 1 0 0 [] [])) (a2X l) (a1h l) z0 [],0):=by
 unfold a1t;rw[if_neg (fun q=>q ⟨h,g,.inr (.inl rfl)⟩),if_neg (by simp_all),if_neg (by simp),if_pos rfl]
theorem c7W(h:1≤l.length)(g:l.length≤4096)(f:l.all a0B=true)(d:List Int)(k:Int):(b4P l (a4n d k)).2.1=true:=
 ((c0A l (a4n d k)).least (cS 1 0 0 [] []) (by simp[a4n,a2r]) (by rw[show(cS 1 0 0 [] []).1=1 from rfl,b4S h g f])).1
def inW(x:Int)(v:Nat):Bool:=decide (x=0) || a1o x (v:Int)
theorem d1f{x:Int}{v:Nat}:a1o x (v:Int)=true↔1≤v∧v≤31∧-((2^(v-1):Nat):Int)≤x∧x≤((2^(v-1):Nat):Int)-1:=by
 by_cases hv:1≤v∧v≤31
 have e:((v:Int)-1)=((v-1:Nat):Int):=by omega
 have hp:2^(v-1)≤2^30:=a08 (by omega) (by omega);have a:=a16 (v-1);have g:A0n .i64 1 ((v-1:Nat):Int)=((2^(v-1):Nat):Int):=c3J (by omega);have f:A0n .i64 (-1) ((v-1:Nat):Int)=-((2^(v-1):Nat):Int):=by
  grind[IntKind.bits,A0n,a0A]
 have k:wrap .i64 (((2^(v-1):Nat):Int)-1)=((2^(v-1):Nat):Int)-1:=a0A (by omega);simp only[a1o,e,g,f,k,bA,dT];omega;constructor;intro h;simp[a1o]at h;omega;omega
theorem b6w:inW x v=true↔x=0∨(1≤v∧v≤31∧-((2^(v-1):Nat):Int)≤x∧x≤((2^(v-1):Nat):Int)-1):=by
 simp_all[inW,d1f]
theorem d1g{x:Int}{v w:Nat}(h:v≤w)(c:w≤31)(g:inW x v=true):inW x w=true:=by
 rw[b6w]at g⊢;rcases g with g|⟨f,k,a,b⟩;omega
 have:2^(v-1)≤2^(w-1):=a08 (by omega) (by omega)
 omega
theorem d1h{x:Int}(h:a0B x=true):inW x 31=true:=by
 have:=a1P.1 h
 rw[b6w];omega
theorem c1f{x:Int}(j:a0B x=true):∀(k w:Nat),w+k=32→w≤31→w≤a1U x k w∧a1U x k w≤31∧inW x (a1U x k w)=true∧∀v,w≤v→inW x v=true→v≤31→a1U x k w≤v
 |0,w,h,g=>absurd g (by omega)
 |k+1,w,h,g=>by
  by_cases hin:inW x w=true
  ·have:a1U x (k+1) w=w:=by
    unfold a1U;cases a:(x != 0)&&!a1o x (w:Int)with
    |false=>rfl
    |true=>
     simp at a;simp_all[inW]
   simp_all
  have a:((x != 0)&&!a1o x (w:Int))=true:=by
   simp_all[inW]
  have i:w≠31:=fun e=>hin (by simp_all[d1h]);have e:a1U x (k+1) w=a1U x k (w+1):=by
   show(bif (x != 0)&&!a1o x (w:Int)then a1U x k (w+1)else w)=_
   grind
  obtain⟨l,b,c,d⟩:=c1f j k (w+1) (by omega) (by omega);rw[e];refine⟨by omega,b,c,fun v hv f g=>d v ?_ f g⟩;rcases Nat.lt_or_ge w v with q|q;exact q
  have:v=w:=by omega
  exact absurd (this▸f) hin
theorem b0V:∀(l:List Int)(w:Nat),l.all a0B=true→w≤31→
  w≤l.foldl (fun w x=>a1U x (32-w) w) w∧l.foldl (fun w x=>a1U x (32-w) w) w≤31∧(∀x∈l,inW x (l.foldl (fun w x=>a1U x (32-w) w) w)=true)∧∀v,w≤v→v≤31→(∀x∈l,inW x v=true)→l.foldl (fun w x=>a1U x (32-w) w) w≤v
 | [],w,_,h31=>⟨a27 _,h31,by simp,fun v hv _ _=>hv⟩
 |x::l,w,h,h31=>by
  rw[a07,bA]at h;obtain⟨i,b,j,m⟩:=c1f h.1 (32-w) w (by omega) h31;obtain⟨c,a,d,e⟩:=b0V l (a1U x (32-w) w) h.2 b;simp only[b00];refine⟨by omega,a,fun y k=>?_,fun v hv f g=>?_⟩
  ·rcases mC.1 k with rfl|k
   all_goals grind[d1g]
  simp_all
theorem c4a{l:List Int}(h:l.all a0B=true):∀x∈l,inW x (a0I l)=true:=(b0V l 0 h (by omega)).2.2.1
theorem c5T(h:l.all a0B=true)(hv:v≤31)(g:∀x∈l,inW x v=true):a0I l≤v:=(b0V l 0 h (by omega)).2.2.2 v (by omega) hv g
theorem d1i{x:Int}{w v:Nat}(d:w≤30)(hd:((2^w:Nat):Int) ∣ x)(h:inW x v=true):inW (A0o .i64 x (w:Int)) v=true:=by
 obtain⟨c,rfl⟩:=hd;rw[d0W (by omega)];rw[b6w]at h⊢;have hp:(1:Int)≤((2^w:Nat):Int):=by have:=a16 w;omega
 generalize ((2^w:Nat):Int)=p at h hp;rcases h with h|⟨g,f,a,b⟩
 grind[Int.mul_eq_zero]
 refine .inr ⟨g,f,?_,?_⟩
 by_cases hc:0≤c
 omega;have k:=a47 (show 0≤p-1 by omega) (show 0≤-c by omega)
 grind
 by_cases hc:0≤c
 have k:=a47 (show 0≤p-1 by omega) hc
 grind
 omega
theorem c7X(k:l.length≤4096)(h:l.all a0B=true):a0I (a1h l)≤a0I l:=by
 obtain⟨-,e,c⟩:=a9t (show short l by unfold short;omega) h;obtain⟨-,f,-,-⟩:=a7f k h;have a:∀x∈l,((2^a2X l:Nat):Int) ∣ x:=by
  rcases c with⟨g,-⟩|⟨-,-,g,-⟩
  all_goals grind[a86]
 refine c5T f (a2b h) fun y b=>?_
 obtain⟨x,d,rfl⟩:=List.mem_map.1 b
 grind[d1i,c4a]
theorem c7Y(a:1≤l.length)(h:l.length≤4096)(g:l.all a0B=true):a5f (a1t 1 l (cS 1 0 0 [] [])).1 (l.length:Int)=((13+a0I (a1h l)*l.length:Nat):Int):=by
 have b:SmallS (cS 1 0 0 [] []):=b1l (by simp) (by simp);have d:=b4S a h g;obtain⟨a1,-,-,f⟩:=b9Z b (k:=1) (l:=l) (by grind);obtain⟨i,c,-⟩:=d1e a1 (by rw[f];rfl);obtain⟨-,-,j,-⟩:=a7f h g;rw[c,d];have e:c7V (a1V (a0Y 1 (cS 1 0 0 [] [])) (a2X l) (a1h l) z0 []) i=13+0+a0I (a1h l)*(a1h l).length+0:=rfl;simp_all
theorem c7Z{l:List Int}(b:1≤l.length)(f:l.length≤4096)(a:l.all a0B=true)(g:b8O (a1h l)){k:Int}(d:0≤k)(t:k≤3):
  ∃s,a5C (l,k)=some (s,0)∧SmallS s∧a2n s (l.length:Int)=some l∧s=(b4P l (a4n (a1h l) k)).2.2∧a5f s (l.length:Int)=(b4P l (a4n (a1h l) k)).1∧a5f s (l.length:Int)≤((13+a0I l*l.length:Nat):Int)∧
   (∀c∈a4n (a1h l) k,(a1t c.1 l c).2=0→a5f s (l.length:Int)≤a5f (a1t c.1 l c).1 (l.length:Int)):=by
 obtain⟨-,p,u,-⟩:=a7f f a;have hb:=d3g b f a g d t;have j:=c7W b f a (a1h l) k;obtain⟨c,i,q,r,o⟩:=(c0A l (a4n (a1h l) k)).one j;have e:=b8P p (by omega) g k c i;obtain⟨m,-,-,n⟩:=b9Z e q;rw[←r]at m n;have h:∀c∈a4n (a1h l) k,(a1t c.1 l c).2=0→a5f (b4P l (a4n (a1h l) k)).2.2 (l.length:Int)≤a5f (a1t c.1 l c).1 (l.length:Int):=fun c i d=>by
  rw[←o];exact((c0A l (a4n (a1h l) k)).least c i d).2
 refine⟨_,hb,m,n,rfl,o.symm,?_,h⟩;have hp:=h (cS 1 0 0 [] []) (by simp[a4n,a2r]) (by rw[show(cS 1 0 0 [] []).1=1 from rfl,b4S b f a]);rw[show(cS 1 0 0 [] []).1=1 from rfl,c7Y b f a]at hp
 have:=a25 l.length (c7X f a)
 omega
@[reducible] def Rd:Type:=(List Int)×(Int×(Int×Unit))
def a1C(L:List Int):Prop:=∀b∈L,b=0∨b=1
def b2B(bs:List Int)(i:Nat):Bool:=(bs.getD (i / 8) 0).toNat.testBit (7-i%8)
theorem or8{x y:Nat}(h:x<256)(g:y<256):bits .u8 .or (x:Int) (y:Int)=((x ||| y:Nat):Int):=by
 show wrap .u8 (((a04 8 (x:Int)) ||| (a04 8 (y:Int))).toNat:Int)=_;rw[a24,a24,a72,a29,a29,a23 h,a23 g,a5K]
 have:x ||| y<2^8:=a88 h g
 omega
theorem d9t{b:Int}(hb:b=0∨b=1){r:Nat}(g:r<8):A0n .u8 b (7-(r:Int))=((b.toNat*2^(7-r):Nat):Int):=by
 have h:∀r:Fin 8,A0n .u8 0 (7-(r.1:Int))=((0*2^(7-r.1):Nat):Int)∧A0n .u8 1 (7-(r.1:Int))=((1*2^(7-r.1):Nat):Int):=by decide +kernel
 rcases hb with rfl|rfl;exact(h ⟨r,g⟩).1;exact(h ⟨r,g⟩).2
theorem d1j{x:Nat}(h:x<256){r:Nat}(g:r<8):bits .u8 .and (A0o .u8 (x:Int) (7-(r:Int))) 1=if x.testBit (7-r)then 1 else 0:=by
 have e:A0o .u8 (x:Int) (7-(r:Int))=((x / 2^(7-r):Nat):Int):=by
  show a80 (x:Int) (2^(min (7-(r:Int)).toNat 8))=_
  grind
 rw[e];have f:x / 2^(7-r)<256:=a38 (a32 _ _) h;show wrap .u8 (((a04 8 ((x / 2^(7-r):Nat):Int)) &&& (a04 8 1)).toNat:Int)=_
 grind[a04,a5K]
theorem c9k(L:List Int)(b:Int)(i:Nat):(L++[b]).getD i 0=if i=L.length then b else L.getD i 0:=by
 grind
theorem c4b(h:List Int)(k:Nat)(y:Int)(g:k<h.length)(j:Nat):(h.set k y).getD j 0=if j=k then y else h.getD j 0:=by
 grind
theorem c1g:∀(n:Nat)(L:List Int),L.length=n→a1C L→(∀j,0≤(wL L).1.getD j 0∧(wL L).1.getD j 0<256)∧∀i,b2B (wL L).1 i=decide (L.getD i 0=1)
 |0,L,h,_=>by
  simp_all[wL,b2B]
 |n+1,L,h,hL=>by
  obtain⟨g,b,rfl⟩:∃g b,L=g++[b]:=by
   rcases a51 L with rfl|⟨g,b,e⟩
   all_goals simp_all
  have hb:b=0∨b=1:=hL b (by simp);obtain⟨t,v⟩:=c1g n g (by simp_all) fun c C=>hL c (by grind);obtain⟨o,p⟩:=a5W g;rw[b9U];generalize wL g=wr at o p t v⊢;obtain⟨d,m,u⟩:=wr;have o:m=(g.length:Int):=o;have p:d.length=(g.length+7) / 8:=p;subst o;have e8:((g.length:Int) / 8).toNat=g.length / 8:=by rfl
  have q:(g.length:Int)%8=((g.length%8:Nat):Int):=by rfl
  obtain⟨f,a,w,y⟩:∃f:List Int,(if(g.length:Int)%8=0 then d++[0]else d)=f∧g.length / 8<f.length∧∀j,f.getD j 0=d.getD j 0:=by
   grind
  rw[q]at a;have B:g.length%8<8:=a40 _ (by simp);obtain⟨x,r⟩:∃x:Nat,d.getD (g.length / 8) 0=(x:Int):=a01 (t _).1;have k:x<256:=by
   grind
  have s:b.toNat*2^(7-g.length%8)<256:=by
   have hp:2^(7-g.length%8)≤2^7:=a08 (by simp) (by omega)
   grind
  have A:x ||| b.toNat*2^(7-g.length%8)<2^8:=a88 k s;have l:(b9T (d,(g.length:Int),u) b).1=f.set (g.length / 8) ((x ||| b.toNat*2^(7-g.length%8):Nat):Int):=by
   unfold b9T;simp only[a,e8,q];rw[y,r,d9t hb B,or8 k s]
  rw[l];refine⟨fun j=>?_,fun i=>?_⟩
  grind[c4b]
  ·unfold b2B;rw[c4b _ _ _ w,c9k];have hi:=v i;unfold b2B at hi
   by_cases hk:i / 8=g.length / 8
   ·rw[if_pos hk,tN,Nat.testBit_or];rw[hk,r,tN]at hi;rw[hi];have z:(b.toNat*2^(7-g.length%8)).testBit (7-i%8)=(decide (b=1)&&decide (i=g.length)):=by
     rcases hb with rfl|rfl
     all_goals grind
    grind
   grind
theorem d3i(h:a1C L):(∀j,0≤(wL L).1.getD j 0∧(wL L).1.getD j 0<256)∧∀i,b2B (wL L).1 i=decide (L.getD i 0=1):=c1g _ L rfl h
def rdr(P R:List Int):Rd:=((wL (P++R)).1,(P.length:Int),(0:Int),())
theorem c0B(k:a1C L)(m:L.length<1000000000)(hi:i<L.length)(t:Int×(Int×Unit)):
  a1J (((wL L).1,t),(i:Int))=some (L.getD i 0,(wL L).1,t):=by
 obtain⟨d,e⟩:=d3i k;obtain⟨-,l⟩:=a5W L;have j:a26 (i:Int) 8=((i%8:Nat):Int):=by rfl
 have hd:a54 (i:Int) 8=((i / 8:Nat):Int):=by rfl
 have b:wrap .i64 ((i / 8:Nat):Int)=((i / 8:Nat):Int):=a0A (by omega);have c:wrap .i64 (7-((i%8:Nat):Int))=7-((i%8:Nat):Int):=a0A (by omega);have g:decide (7-((i%8:Nat):Int)<0)=false:=by grind
 have hb:i / 8<(wL L).1.length:=by omega
 have f:(wL L).1[i / 8]=(wL L).1.getD (i / 8) 0:=by grind
 unfold a1J;simp only[j,hd,b,c,g,a0D hb,oB,cF];obtain⟨x,a⟩:∃x:Nat,(wL L).1.getD (i / 8) 0=(x:Int):=a01 (d _).1;have h:x<256:=by grind
 rw[f,a,d1j h (a40 _ (by simp))]
 have:=e i
 unfold b2B at this;rw[a,tN]at this;rw[this];have hv:L.getD i 0=0∨L.getD i 0=1:=by
  have:L.getD i 0=L[i]:=by simp_all
  rw[this];exact k _ (a05 hi)
 grind
theorem c9l(hv:v<18446744073709551616)(hi:i≤64):a7d (v:Int) i=((v / 2^i%2:Nat):Int):=by
 unfold a7d;rw[a6K hi];have h:v / 2^i<18446744073709551616:=a38 (a32 _ _) hv;show wrap .u8 (wrap .u64 (((a04 64 ((v / 2^i:Nat):Int)) &&& (a04 64 1)).toNat:Int))=_
 grind[a04,a0K,a5K]
theorem a1C.app{A B:List Int}(h:a1C A)(g:a1C B):a1C (A++B):=fun b hb=>(mA.1 hb).elim (h b) (g b)
theorem orU(k:a<18446744073709551616)(hb:b<2)(f:a%2=0):bits .u64 .or (a:Int) (b:Int)=((a+b:Nat):Int):=by
 show wrap .u64 (((a04 64 (a:Int) ||| a04 64 (b:Int)).toNat:Nat):Int)=_;have g:(a04 64 (a:Int)).toNat=a:=by simp_all
 have h:(a04 64 (b:Int)).toNat=b:=by grind
 rw[a72,g,h];have e:a ||| b=a+b:=by
  have:=a59 (i:=1) (b:=b) (by omega) (a / 2)
  grind
 grind[a0K]
theorem c4c{v:Nat}(hv:v<9223372036854775808){n:Nat}(p:n≤62):∀(m:Nat)(P R:List Int),m≤n→a1C (P++(pb (v:Int) m++R))→(P++(pb (v:Int) m++R)).length<1000000000→
  y0s a4l (((v / 2^m:Nat):Int),(n:Int),((n-m:Nat):Int),rdr P (pb (v:Int) m++R),())=some ((v:Int),rdr (P++pb (v:Int) m) R,())
 |0,P,R,_,_,_=>by
  grind[a0E,a4l,pb]
 |m+1,P,R,hm,hok,hlen=>by
  have hd:decide (((n-(m+1):Nat):Int)<(n:Int))=true:=by grind
  have a:a1J (rdr P (pb (v:Int) (m+1)++R),(P.length:Int))=some (a7d v m,rdr P (pb (v:Int) (m+1)++R)):=by
   have:=c0B hok hlen (i:=P.length) (by simp[pb]) ((P.length:Int),(0:Int),())
   rw[show(P++(pb (v:Int) (m+1)++R)).getD P.length 0=a7d v m from by simp_all[pb]]at this;exact this
  have g:=c9l (v:=v) (by omega) (i:=m) (by omega);have b:v / 2^m%2<2:=a40 _ (by simp);have f:v / 2^(m+1)=v / 2^m / 2:=by grind[a69]
  have l:v / 2^m≤v:=a32 _ _;have d:A0n .u64 ((v / 2^(m+1):Nat):Int) 1=((v / 2^(m+1)*2^1:Nat):Int):=b2b (o:=1) (by omega) (by omega);have h:bits .u64 .or ((v / 2^(m+1)*2^1:Nat):Int) (wrap .u64 (a7d (v:Int) m))=((v / 2^m:Nat):Int):=by
   rw[g,a0K (by omega),orU (by omega) b (by omega),f];omega
  have e:wrap .i64 (((n-(m+1):Nat):Int)+1)=((n-m:Nat):Int):=by grind[a0A]
  have j:wrap .i64 ((P.length:Int)+1)=(((P++[a7d v m]).length:Nat):Int):=by
   grind[a0A]
  have k:P++(pb (v:Int) (m+1)++R)=(P++[a7d v m])++(pb (v:Int) m++R):=by simp[pb]
  have c:((rdr P (pb (v:Int) (m+1)++R)).1,(((P++[a7d v m]).length:Nat):Int),(rdr P (pb (v:Int) (m+1)++R)).2.2)=rdr (P++[a7d v m]) (pb (v:Int) m++R):=by
   unfold rdr;simp_all
  rw[a0F (s':=(((v / 2^m:Nat):Int),(n:Int),((n-m:Nat):Int),rdr (P++[a7d v m]) (pb (v:Int) m++R),())) (by
   simp only[a4l,hd,cT];rw[show(rdr P (pb (v:Int) (m+1)++R)).2.1=(P.length:Int)from rfl,a];simp only[oB,d,h,e];rw[show(rdr P (pb (v:Int) (m+1)++R)).2.1=(P.length:Int)from rfl,j,c])]
  rw[c4c hv p m _ _ (by omega) (by simp_all) (by simp_all)];simp[pb]
theorem c9m{n:Nat}(a:n≤62)(hv:v<2^n)(g:a1C (P++(pb (v:Int) n++R)))(k:(P++(pb (v:Int) n++R)).length<200000000):
  a0H (rdr P (pb (v:Int) n++R),(n:Int))=some ((v:Int),rdr (P++pb (v:Int) n) R):=by
 have h:v<9223372036854775808:=Nat.lt_of_lt_of_le hv (Nat.le_trans (a08 (by simp) a) (by simp));have f:=c4c h a n P R (by omega) g (by omega);rw[a67 hv,a56]at f;simp at f;obtain⟨-,e⟩:=a5W (P++(pb (v:Int) n++R));have j:=b3t (v:Int) n;have i:(P++(pb (v:Int) n++R)).length=P.length+n+R.length:=by grind
 have e8:wrap .i64 ((8:Int)*(((wL (P++(pb (v:Int) n++R))).1.length:Nat):Int))=(8:Int)*(((wL (P++(pb (v:Int) n++R))).1.length:Nat):Int):=a0A (by omega);have d:wrap .i64 ((8:Int)*(((wL (P++(pb (v:Int) n++R))).1.length:Nat):Int)-(P.length:Int))=(8:Int)*(((wL (P++(pb (v:Int) n++R))).1.length:Nat):Int)-(P.length:Int):=a0A (by omega);have b:decide ((n:Int)<0)=false:=by simp
 have c:decide ((n:Int) > 64)=false:=by grind
 have l:decide ((n:Int) > (8:Int)*(((wL (P++(pb (v:Int) n++R))).1.length:Nat):Int)-(P.length:Int))=false:=by
  grind
 unfold a0H a2G;rw[show(rdr P (pb (v:Int) n++R)).2.2.1=0 from rfl];simp only[bne_self_eq_false,cF,b,c,oB];rw[show(rdr P (pb (v:Int) n++R)).1=(wL (P++(pb (v:Int) n++R))).1 from rfl,show(rdr P (pb (v:Int) n++R)).2.1=(P.length:Int)from rfl,e8,d]
 grind
def b3Q(n:Nat)(x:Int):Prop:=-((2^n:Nat):Int)≤2*x∧2*x<((2^n:Nat):Int)
theorem c1h{n:Nat}(f:n≤62)(x:Int):∃v:Nat,a0W x n=(v:Int)∧v<2^n∧(v:Int)=x%((2^n:Nat):Int):=by
 have k:wrap .u64 x=x%18446744073709551616:=by rfl
 obtain⟨y,h⟩:∃y:Nat,x%18446744073709551616=(y:Int):=a01 (Int.emod_nonneg _ (by simp));have g:y<18446744073709551616:=by omega
 refine⟨y%2^n,?_,a40 _ (a16 n),?_⟩;simp_all[a0W,c3E];rw[Int.natCast_emod,←h];refine Int.emod_emod_of_dvd x ?_
 have:(2:Nat)^n ∣ 2^64:=a55 2 (by omega)
 exact a20.2 this
theorem c9n{n:Nat}(q:n≤62)(hf:b3Q n x)(c:a1C (P++(pb (a0W x n) n++R)))(g:(P++(pb (a0W x n) n++R)).length<200000000):
  a1d (rdr P (pb (a0W x n) n++R),(n:Int))=some (x,rdr (P++pb (a0W x n) n) R):=by
 obtain⟨v,hv,b,f⟩:=c1h q x;rw[hv]at c g⊢;have a:=c9m q b c g;obtain⟨i,j⟩:=hf;have w:=a16 n;have o:(v:Int)=x∧0≤x∨(v:Int)=x+((2^n:Nat):Int)∧x<0:=by
  by_cases h0:0≤x
  exact .inl ⟨by rw[f];exact a89 h0 (by omega),h0⟩;refine .inr ⟨?_,by omega⟩;rw[f,←Int.add_emod_right];exact a89 (by omega) (by omega)
 unfold a1d;simp[a];rw[show(rdr (P++pb (v:Int) n) R).2.2.1=0 from rfl]
 simp
 cases n with
 |zero=>
  grind
 |succ k=>
  have l:(((k+1:Nat):Int)==0)=false:=by rfl
  have s:wrap .i64 ((64:Int)-((k+1:Nat):Int))=((64-(k+1):Nat):Int):=by grind[a0A]
  have r:decide (((64-(k+1):Nat):Int)<0)=false:=by simp
  simp only[l,cF,s,r];have p:64-(k+1)+(k+1)=64:=by omega
  generalize 64-(k+1)=m at p⊢;have t:2^m*2^(k+1)=18446744073709551616:=by rw[←Nat.pow_add,p]
  have d:((2^m:Nat):Int)*((2^(k+1):Nat):Int)=18446744073709551616:=by omega
  have hp:=a16 m;have u:A0n .u64 (v:Int) (m:Int)=(v:Int)*((2^m:Nat):Int):=by
   show wrap .u64 ((v:Int)*2^(min (m:Int).toNat 64))=_;rw[tN,a71 (by omega)];have e:(2:Int)^m=((2^m:Nat):Int):=by simp
   rw[e];refine a0K ⟨a47 (by omega) (by omega),?_⟩
   have:v*2^m<2^(k+1)*2^m:=Nat.mul_lt_mul_of_pos_right b hp
   grind
  have b1:-9223372036854775808≤x*((2^m:Nat):Int):=by
   have:=Int.mul_le_mul_of_nonneg_right i (show(0:Int)≤((2^m:Nat):Int)by omega)
   grind
  have b2:x*((2^m:Nat):Int)<9223372036854775808:=by
   have:=Int.mul_lt_mul_of_pos_right j (show(0:Int)<((2^m:Nat):Int)by omega)
   grind
  have z:wrap .i64 ((v:Int)*((2^m:Nat):Int))=x*((2^m:Nat):Int):=by
   rcases o with⟨h,-⟩|⟨h,-⟩
   grind[a0A]
   rw[h,Int.add_mul,Int.mul_comm ((2^(k+1):Nat):Int),d]
   grind[wrap,IntKind.bits,IntKind.signed]
  have y:A0o .i64 (x*((2^m:Nat):Int)) (m:Int)=x:=by
   show a80 (x*((2^m:Nat):Int)) (2^(min (m:Int).toNat 64))=x;rw[tN,a71 (by omega)]
   grind[Int.mul_ediv_cancel]
  simp_all
theorem c8a(P:List Int)(n:Nat)(R:List Int){c:Nat}(h:c<n):(P++(a00 n 0++1::R)).getD (P.length+c) 0=0:=by
 grind
theorem d1k(P:List Int)(n:Nat)(R:List Int):(P++(a00 n 0++1::R)).getD (P.length+n) 0=1:=by
 simp
theorem c9o{n lm:Nat}(x:n≤lm)(t:lm<1000000)(o:a1C (P++(a00 n 0++1::R)))(p:(P++(a00 n 0++1::R)).length<200000000):
  a3g (rdr P (a00 n 0++1::R),(lm:Int))=some ((n:Int),rdr (P++(a00 n 0++[1])) R):=by
 obtain⟨-,r⟩:=a5W (P++(a00 n 0++1::R));have s:(P++(a00 n 0++1::R)).length=P.length+n+1+R.length:=by grind
 have e8:wrap .i64 ((8:Int)*(((wL (P++(a00 n 0++1::R))).1.length:Nat):Int))=(8:Int)*(((wL (P++(a00 n 0++1::R))).1.length:Nat):Int):=a0A (by omega);have g:∀c,c≤n→a1J (rdr P (a00 n 0++1::R),((P.length:Int)+(c:Int)))=some (if c=n then 1 else 0,rdr P (a00 n 0++1::R)):=fun c l=>by
  have:=c0B o (by omega) (i:=P.length+c) (by omega) ((P.length:Int),(0:Int),())
  rw[b01]at this;refine this.trans ?_
  by_cases e:c=n
  subst e;rw[d1k,if_pos rfl];rfl;rw[c8a P n R (by omega),if_neg e];rfl
 have h:∀c:Nat,c≤n→(((P.length:Int)+(c:Int))==(8:Int)*(((wL (P++(a00 n 0++1::R))).1.length:Nat):Int))=false:=fun c l=>by
  grind
 have j:wrap .i64 ((P.length:Int)+(n:Int)+1)=(((P++(a00 n 0++[1])).length:Nat):Int):=by
  rw[a0A (by omega)];grind
 have a:P++(a00 n 0++1::R)=(P++(a00 n 0++[1]))++R:=by simp
 have v:((rdr P (a00 n 0++1::R)).1,(((P++(a00 n 0++[1])).length:Nat):Int),(rdr P (a00 n 0++1::R)).2.2)=rdr (P++(a00 n 0++[1])) R:=by
  unfold rdr;simp
 have k:(rdr P (a00 n 0++1::R)).1=(wL (P++(a00 n 0++1::R))).1:=rfl;have m:=a0X (f:=a3r) (fun c:Nat=>((lm:Int),(c:Int),(P.length:Int)+(c:Int),rdr P (a00 n 0++1::R),())) n (b:=((n:Int),rdr (P++(a00 n 0++[1])) R,()))
  (fun c l=>by
   have d:((0:Int)==1)=false:=rfl;have q:(((c:Nat):Int)==(lm:Int))=false:=by grind
   have w:wrap .i64 ((c:Int)+1)=((c+1:Nat):Int):=a0C (by omega);have w2:wrap .i64 ((P.length:Int)+(c:Int)+1)=(P.length:Int)+((c+1:Nat):Int):=by rw[a0A (by omega)];rfl
   simp only[a3r,k,e8,h c (by omega),cF,g c (by omega),oB,if_neg (Nat.ne_of_lt l),d,q,w,w2])
  (by
   have d:((1:Int)==1)=true:=rfl;simp only[a3r,k,e8,h n (a27 _),cF,g n (a27 _),oB,if_pos rfl,d,cT,j]
   grind)
 unfold a3g;rw[show(rdr P (a00 n 0++1::R)).2.2.1=0 from rfl,show(rdr P (a00 n 0++1::R)).2.1=(P.length:Int)from rfl];have u:v0r (lm:Int) 0=(lm:Int):=by
  rfl
 grind
def OkR(P R:List Int):Prop:=a1C (P++R)∧(P++R).length<200000000
theorem OkR.shift{A:List Int}(h:OkR P (A++R)):OkR (P++A) R:=by
 unfold OkR at h⊢;simp_all
theorem a3D{n:Nat}(g:n≤62)(hv:v<2^n)(h:OkR P (pb (v:Int) n++R)):a0H (rdr P (pb (v:Int) n++R),(n:Int))=some ((v:Int),rdr (P++pb (v:Int) n) R):=c9m g hv h.1 h.2
theorem a9T{n:Nat}(g:n≤62)(hf:b3Q n x)(h:OkR P (pb (a0W x n) n++R)):a1d (rdr P (pb (a0W x n) n++R),(n:Int))=some (x,rdr (P++pb (a0W x n) n) R):=c9n g hf h.1 h.2
def unB(n:Nat):List Int:=a00 n 0++[1]
theorem c4d{n lm:Nat}(f:n≤lm)(g:lm<1000000)(h:OkR P (unB n++R)):a3g (rdr P (unB n++R),(lm:Int))=some ((n:Int),rdr (P++unB n) R):=by
 have e:unB n++R=a00 n 0++1::R:=by simp[unB]
 rw[e]at h⊢;exact c9o f g h.1 h.2
theorem a4W{v n:Nat}(h:n≤63)(hv:v<2^n)(L:List Int):a0O (v:Int) n L=L++pb (v:Int) n:=by
 grind[a0O,a6K,a67]
def a9I(k:Nat)(x:Int):List Int:=
 if a0R x / 2^k<32 then unB (a0R x / 2^k)++pb ((a0R x%2^k:Nat):Int) k else unB 32++pb ((a0R x:Nat):Int) 32
theorem c9p{k:Nat}(f:k≤25)(g:a0B x=true)(L:List Int):a7e k x L=L++a9I k x:=by
 have h:=a9L g;unfold a7e a9I;split;rw[a4W (by omega) (a40 _ (a16 k))];simp[unL,unB]
 grind[a4W,unL,unB]
theorem c9q(f:a0B x=true):a7w ((a0R x:Nat):Int)=some x:=by
 have a:=a9L f;have c:=a1P.1 f;have b:a26 ((a0R x:Nat):Int) 2=((a0R x:Nat):Int)%2:=a42 (by omega);have hd:a54 ((a0R x:Nat):Int) 2=((a0R x:Nat):Int) / 2:=a61 (by omega);have k:decide (((a0R x:Nat):Int)≥2147483648)=false:=by grind
 unfold a7w;simp only[k,cF,b,hd]
 by_cases h0:0≤x
 have e:((a0R x:Nat):Int)=2*x:=by unfold a0R;grind
 rw[e];have h:((2*x)%2==(0:Int))=true:=by simp
 have g:2*x / 2=x:=by omega
 simp only[h,cT,g]
 grind[a0K,a0A]
 have e:((a0R x:Nat):Int)=-2*x-1:=by unfold a0R;grind
 rw[e];have h:((-2*x-1)%2==(0:Int))=false:=by grind
 have g:(-2*x-1) / 2=-x-1:=by omega
 simp only[h,cF,g]
 grind[a0K,a0A]
theorem c5U{k:Nat}(r:k≤25)(c:a0B x=true)(h:OkR P (a9I k x++R)):b2n (rdr P (a9I k x++R),(k:Int))=some (x,(0:Int),rdr (P++a9I k x) R):=by
 have m:=a9L c;have b:=c9q c;unfold b2n a0N;unfold a9I at h⊢;have s:∀A B:List Int,(rdr A B).2.2.1=0:=fun _ _=>rfl;split;rename_i g;rw[if_pos g,aA]at h;have j:=c4d (n:=a0R x / 2^k) (lm:=32) (by omega) (by omega) h;have l:=a3D (n:=k) (v:=a0R x%2^k) (by omega) (a40 _ (a16 k)) h.shift;have i:wrap .u64 ((a0R x / 2^k:Nat):Int)=((a0R x / 2^k:Nat):Int):=a3C (by omega);have d:decide (((a0R x / 2^k:Nat):Int)<32)=true:=by grind
 have e:decide ((k:Int)<0)=false:=by simp
 have f:a0R x / 2^k*2^k≤a0R x:=a78 _ _;have o:A0n .u64 ((a0R x / 2^k:Nat):Int) (k:Int)=((a0R x / 2^k*2^k:Nat):Int):=b2b (by omega) (by omega);have a:wrap .u64 (((a0R x / 2^k*2^k:Nat):Int)+((a0R x%2^k:Nat):Int))=((a0R x:Nat):Int):=by
  rw[←b01,Nat.div_add_mod',a0K (by omega)]
 grind
 rename_i g;rw[if_neg g,aA]at h;have j:=c4d (n:=32) (lm:=32) (by omega) (by omega) h;have l:=a3D (n:=32) (v:=a0R x) (by omega) (by omega) h.shift;have i:wrap .u64 (32:Int)=32:=a0K (by omega);have d:decide ((32:Int)<32)=false:=by simp
 have e:decide ((k:Int)<0)=false:=by simp
 have q:decide (((a0R x:Nat):Int)≥2147483648)=false:=by grind
 have p:A0o .u64 ((a0R x:Nat):Int) (k:Int)=((a0R x / 2^k:Nat):Int):=a6K (by omega)
 grind
def a3E(k:Nat)(l:List Int):List Int:=l.flatMap (a9I k)
theorem b8Q{k:Nat}(g:k≤25):∀(l L:List Int),l.all a0B=true→a4U k l L=L++a3E k l
 | [],L,_=>by simp[a4U,a3E]
 |x::l,L,h=>by
  simp only[a07,bA]at h;show a4U k l (a7e k x L)=_;rw[b8Q g l _ h.2,c9p g h.1];simp[a3E]
theorem b5v{k:Nat}(g:k≤25){N:Nat}(f:N<1000000):∀(l done P R:List Int),l.all a0B=true→done.length+l.length=N→OkR P (a3E k l++R)→
  y0s a9D ((k:Int),(N:Int),(done.length:Int),done,rdr P (a3E k l++R),())=some (Sum.inl (done++l,rdr (P++a3E k l) R,()))
 | [],done,P,R,_,hl,_=>by
  have:done.length=N:=by omega
  subst this;have d:decide ((done.length:Int)<(done.length:Int))=false:=by simp
  simp_all[a0E,a9D,a3E]
 |x::l,done,P,R,h,hl,hok=>by
  simp only[a07,bA]at h;rw[lC]at hl;have e:a3E k (x::l)++R=a9I k x++(a3E k l++R):=by simp[a3E]
  rw[e]at hok⊢;have d:decide ((done.length:Int)<(N:Int))=true:=by grind
  have b:=c5U g h.1 hok;have a:lim (a37 done+1)=true:=a0Q (by omega);have c:wrap .i64 ((done.length:Int)+1)=(((done++[x]).length:Nat):Int):=by grind[a0A]
  rw[a0F (s':=((k:Int),(N:Int),(((done++[x]).length:Nat):Int),done++[x],rdr (P++a9I k x) (a3E k l++R),())) (by
   simp_all[a9D])]
  rw[b5v g f l (done++[x]) (P++a9I k x) R h.2 (by grind) hok.shift];simp[a3E]
theorem c5V{k:Nat}(a:k≤25)(h:l.all a0B=true)(b:l.length<1000000)(f:OkR P (a3E k l++R)):
  b2o (rdr P (a3E k l++R),(k:Int),((l.length:Nat):Int))=some (l,(0:Int),rdr (P++a3E k l) R):=by
 have hp:a1Z (k:Int)=some true:=by
  grind[a1Z]
 have c:decide (((l.length:Nat):Int)<0)=false:=by simp
 have d:decide (((l.length:Nat):Int) > 4194304)=false:=by grind
 have e:∀A B:List Int,(rdr A B).2.2.1=0:=fun _ _=>rfl;have g:=b5v a b l [] P R h (by simp) f;simp at g;unfold b2o a0N
 grind
theorem d1l(h:inW x v=true):b3Q v x:=by
 have hp:=a16 v;rcases b6w.1 h with rfl|⟨g,-,f,k⟩;exact⟨by omega,by omega⟩;have e:2^v=2^(v-1)*2:=by rw[←a68];simp_all
 unfold b3Q;omega
theorem b4T(h:l.all a0B=true):∀x∈l,b3Q (a0I l) x:=fun x g=>d1l (c4a h x g)
def sB(n:Nat)(l:List Int):List Int:=l.flatMap fun x=>pb (a0W x n) n
theorem a9U{n:Nat}(g:n≤62):∀(l L:List Int),a1N n l L=L++sB n l
 | [],L=>by simp[a1N,sB]
 |x::l,L=>by
  show a1N n l (a0O (a0W x n) n L)=_;obtain⟨v,hv,h,-⟩:=c1h g x;rw[a9U g l,hv,a4W (by omega) h,←hv];simp[sB]
theorem c0C(n:Nat)(x:Int)(l R:List Int):sB n (x::l)++R=pb (a0W x n) n++(sB n l++R):=by simp[sB]
theorem b4j{k:Int}{n:Nat}(g:n≤62){N:Nat}(f:N<1000000):∀(l done P R:List Int),(∀x∈l,b3Q n x)→done.length+l.length=N→OkR P (sB n l++R)→
  y0s a8T (k,(n:Int),(N:Int),(done.length:Int),done,rdr P (sB n l++R),())=some (k,(n:Int),done++l,rdr (P++sB n l) R,())
 | [],done,P,R,_,hl,_=>by
  have:done.length=N:=by omega
  subst this;have d:decide ((done.length:Int)<(done.length:Int))=false:=by simp
  simp_all[a0E,a8T,sB]
 |x::l,done,P,R,h,hl,hok=>by
  rw[lC]at hl;rw[c0C]at hok⊢;have d:decide ((done.length:Int)<(N:Int))=true:=by grind
  have b:=a9T g (h x (by simp)) hok;have a:lim (a37 done+1)=true:=a0Q (by omega);have c:wrap .i64 ((done.length:Int)+1)=(((done++[x]).length:Nat):Int):=by grind[a0A]
  rw[a0F (s':=(k,(n:Int),(N:Int),(((done++[x]).length:Nat):Int),done++[x],rdr (P++pb (a0W x n) n) (sB n l++R),())) (by
   simp_all[a8T])]
  rw[b4j g f l (done++[x]) _ R (fun y e=>h y (by grind)) (by grind) hok.shift];simp[sB]
def b0W(k:Int)(part:List Int):List Int:=if k=31 then pb 31 5++(pb ((a0I part:Nat):Int) 5++sB (a0I part) part)else pb k 5++a3E k.toNat part
theorem c9r(h:kB k=true)(g:part.all a0B=true)(L:List Int):a9G k part L=L++b0W k part:=by
 have f:=a2b g;simp[kB]at h;obtain⟨K,rfl⟩:=a01 (show 0≤k by omega)
 grind[a9G,b0W,a3C,a4W,a9U,b8Q]
theorem c4e(o:kB k=true)(c:part.all a0B=true)(b:part.length<1000000)(h:OkR P (b0W k part++R)):
  b1L (rdr P (b0W k part++R),((part.length:Nat):Int))=some (k,part,(0:Int),rdr (P++b0W k part) R):=by
 have p:=a2b c;have e:∀A B:List Int,(rdr A B).2.2.1=0:=fun _ _=>rfl;simp[kB]at o;obtain⟨K,rfl⟩:=a01 (show 0≤k by omega);unfold b1L a0N;unfold b0W at h⊢;split;rename_i f;rw[if_pos f,aA,aA]at h;rw[aA,aA];obtain rfl:K=31:=by omega
 have d:a0H (rdr P (pb 31 5++(pb ((a0I part:Nat):Int) 5++(sB (a0I part) part++R))),(5:Int))=_:=a3D (v:=31) (n:=5) (by omega) (by omega) h;have g:=h.shift;have l:a0H (rdr (P++pb 31 5) (pb ((a0I part:Nat):Int) 5++(sB (a0I part) part++R)),(5:Int))=_:=a3D (v:=a0I part) (n:=5) (by omega) (by omega) g;have a:=b4j (k:=31) (n:=a0I part) (by omega) b part [] _ R (b4T c) (by simp) g.shift;simp only[a22,nZ,a09,a30]at a;have i:wrap .i64 ((31:Nat):Int)=31:=by rfl
 have w2:wrap .i64 ((a0I part:Nat):Int)=((a0I part:Nat):Int):=a0A (by omega);have j:decide ((31:Int)≤25)=false:=by rfl
 have q:((31:Int) != 31)=false:=by rfl
 rw[d];simp only[oB,e,bne_self_eq_false,cF,i,j]
 erw[l]
 simp only[oB,w2]
 erw[a]
 simp only[oB,e,bne_self_eq_false,cF,a2q (show short part from b)]
 simp
 rename_i f;rw[if_neg f,aA]at h;rw[aA];have m:K≤25:=by omega
 have d:a0H (rdr P (pb (K:Int) 5++(a3E ((K:Int).toNat) part++R)),(5:Int))=_:=a3D (v:=K) (n:=5) (by omega) (by omega) h;have r:=c5V m c b h.shift;have i:wrap .i64 (K:Int)=(K:Int):=a0A (by omega);simp_all
def a1X:List Nat→List Int→List Int→List Int
 |z::zs,k::ks,l=>b0W k (l.take z)++a1X zs ks (l.drop z)
 |_,_,_=>[]
theorem c1i(h:l.all a0B=true)(z:Nat):(l.take z).all a0B=true:=lA.2 fun x g=>lA.1 h x (a34 g)
theorem c1j(h:l.all a0B=true)(z:Nat):(l.drop z).all a0B=true:=lA.2 fun x g=>lA.1 h x (a35 g)
theorem b8R:∀(zs:List Nat)(ks l L:List Int),ks.all kB=true→l.all a0B=true→a4V zs ks l L=L++a1X zs ks l
 |z::zs,k::ks,l,L,hk,hw=>by
  simp only[a07,bA]at hk;simp only[a4V,a1X];rw[b8R zs ks _ _ hk.2 (c1j hw z),c9r hk.1 (c1i hw z)]
  simp
 | [],_,_,L,_,_=>by simp[a4V,a1X]
 |_::_,[],_,L,_,_=>by simp[a4V,a1X]
theorem c9s(h:List Nat)(z:Nat)(g:List Nat):(a1p (h++z::g)).getD h.length 0=(z:Int):=by
 simp_all[a1p]
theorem b4k{o:Int}{z0:Prt}:∀(zs:List Nat)(ks l dk acc P R:List Int)(dz:List Nat),ks.length=zs.length→ks.all kB=true→zs.sum=l.length→l.all a0B=true→
  dk.length=dz.length→(dz++zs).length≤256→acc.length+l.length≤10000→OkR P (a1X zs ks l++R)→
  y0s a8U (((a1p (dz++zs)).length:Int),(dz.length:Int),acc,a1p (dz++zs),rdr P (a1X zs ks l++R),z0,(o,dk,()),()) =
   some (Sum.inl (acc++l,z0,(o,dk++ks,()),rdr (P++a1X zs ks l) R,()))
 | [],ks,l,dk,acc,P,R,dz,hk,_,hs,_,_,_,_,_=>by
  obtain rfl:ks=[]:=a45.1 hk;obtain rfl:l=[]:=a45.1 (by simp_all);have d:decide ((dz.length:Int)<((a1p (dz++[])).length:Int))=false:=by simp[a1B]
  rw[a0E (b:=Sum.inl (acc,z0,(o,dk,()),rdr P R,())) (by simp only[a8U,d,cF];rfl)];simp[a1X]
 |z::zs,[],_,_,_,_,_,_,hk,_,_,_,_,_,_,_=>by simp_all
 |z::zs,k::ks,l,dk,acc,P,R,dz,hk,hkb,hs,hw,hd,h256,hacc,hok=>by
  simp only[a07,bA]at hkb;rw[a62]at hs;have p:z≤l.length:=by omega
  have a:(l.take z).length=z:=by simp_all
  have e:a1X (z::zs) (k::ks) l++R=b0W k (l.take z)++(a1X zs ks (l.drop z)++R):=by simp[a1X]
  rw[e]at hok⊢;have j:(a1p (dz++z::zs)).length=dz.length+1+zs.length:=by grind[a1B]
  have d:decide ((dz.length:Int)<((a1p (dz++z::zs)).length:Int))=true:=by grind
  have m:decide ((0:Int)≤(dz.length:Int))=true:=by simp
  have h:=c4e hkb.1 (c1i hw z) (by omega) hok;rw[a]at h;have i:((0:Int) != 0)=false:=rfl;rw[lN,lC]at h256;have g:lim (a37 dk+1)=true:=a0Q (by omega);have f:lim (a37 acc+a37 (l.take z))=true:=a0Q (by omega);have c:wrap .i64 ((dz.length:Int)+1)=(((dz++[z]).length:Nat):Int):=by grind[a0A]
  have n:dz++z::zs=(dz++[z])++zs:=by simp
  rw[a0F (s':=(((a1p ((dz++[z])++zs)).length:Int),(((dz++[z]).length:Nat):Int),acc++l.take z,a1p ((dz++[z])++zs),rdr (P++b0W k (l.take z)) (a1X zs ks (l.drop z)++R),z0,(o,dk++[k],()),())) (by
   simp only[a8U,d,m,a03,cT,tN,c9s,h,oB,i,cF,g,f,c,a06]
   simp)]
  rw[b4k zs ks (l.drop z) (dk++[k]) (acc++l.take z) _ R (dz++[z]) (by grind) hkb.2 (by grind) (c1j hw z) (by grind) (by grind) (by grind) hok.shift];simp[a1X]
def a6L(p:Prt)(zn:List Nat)(l:List Int):List Int:=pb p.1 4++a1X zn p.2.1 l
theorem c2w(h:PartsOk p n warm l zn)(L:List Int):a4v p zn l L=L++a6L p zn l:=by
 obtain⟨o,ks,u⟩:=p;have g:=h.order;simp only at g;obtain⟨O,rfl⟩:=a01 g.1;unfold a4v a6L;simp only;rw[a3C (by omega),a4W (n:=4) (by omega) (by omega),b8R _ _ _ _ h.all h.wide]
 simp
theorem c4f(h:PartsOk p n warm l zn)(g:OkR P (a6L p zn l++R)):
  b1M (rdr P (a6L p zn l++R),n,warm)=some (p,l,(0:Int),rdr (P++a6L p zn l) R):=by
 obtain⟨o,ks,u⟩:=p;have c:=h.order;have m:=h.short;have b:=h.len;simp only at c;obtain⟨O,rfl⟩:=a01 c.1;have i:∀A B:List Int,(rdr A B).2.2.1=0:=fun _ _=>rfl;have f:=h.may;unfold a5L at f;simp only[bA,a33,beq_eq_false_iff_ne]at f;have d:=h.sizes;simp only at d;have a:(((a1p zn).length:Int)==0)=false:=by
  grind
 unfold a6L at g⊢;simp only at g⊢;rw[aA]at g⊢;have e:a0H (rdr P (pb (O:Int) 4++(a1X zn ks l++R)),(4:Int))=_:=a3D (v:=O) (n:=4) (by omega) (by omega) g;have j:wrap .i64 (O:Int)=(O:Int):=a0A (by omega);have k:=b4k (o:=(O:Int)) (z0:=((0:Int),([]:List Int),())) zn ks l [] [] _ R [] h.ks h.all h.sum h.wide rfl (by simp_all) (by grind) g.shift;simp only[a22,nZ,a09,a30]at k;unfold b1M a0N;simp[b2R,h.row];rw[e];simp[i,j,a2f,d,a];simp_all
def a7y(s:Sub):List Int:=
 pb ((s.2.2.2.2.2.1.length-1:Nat):Int) 5++(pb s.2.2.2.1 4++(pb ((a0I s.2.2.2.2.2.1:Nat):Int) 5++sB (a0I s.2.2.2.2.2.1) s.2.2.2.2.2.1))
theorem c1k{t:Int}(h:a9K c t=true):1≤c.length∧c.length≤32∧0≤t∧t≤15∧c.all a0B=true:=by
 simp only[a9K,bA,dT]at h;obtain⟨g,f,k,a,b⟩:=h;refine⟨g,f,k,a,lA.2 fun x d=>?_⟩
 have:=lA.1 b x d
 simp[b8r]at this;rw[a1P];omega
theorem b8S{s:Sub}(h:a9K s.2.2.2.2.2.1 s.2.2.2.1=true)(L:List Int):a6E s L=L++a7y s:=by
 obtain⟨a,b,g,d,f⟩:=c1k h;have k:=a2b f;unfold a6E a7y;generalize s.2.2.2.2.2.1=c at *;generalize s.2.2.2.1=t at *;obtain⟨T,rfl⟩:=a01 g
 grind[a0A,a0K,a9U,a4W]
def b4U(s:Sub)(c:List Int):Sub:=(s.1,s.2.1,s.2.2.1,s.2.2.2.1,s.2.2.2.2.1,c,s.2.2.2.2.2.2)
def c0D(s:Sub)(t:Int):Sub:=(s.1,s.2.1,s.2.2.1,t,s.2.2.2.2)
theorem b8T{n:Nat}(g:n≤62){N:Nat}(f:N<1000000)(s:Sub):∀(l done P R:List Int),(∀x∈l,b3Q n x)→done.length+l.length=N→OkR P (sB n l++R)→
  y0s a6h ((n:Int),(N:Int),(done.length:Int),rdr P (sB n l++R),b4U s done,())=some ((n:Int),b4U s (done++l),rdr (P++sB n l) R,())
 | [],done,P,R,_,hl,_=>by
  have:done.length=N:=by omega
  subst this;have d:decide ((done.length:Int)<(done.length:Int))=false:=by simp
  simp_all[a0E,a6h,sB]
 |x::l,done,P,R,h,hl,hok=>by
  rw[lC]at hl;rw[c0C]at hok⊢;have d:decide ((done.length:Int)<(N:Int))=true:=by grind
  have a:=a9T g (h x (by simp)) hok;have k:lim (a37 done+1)=true:=a0Q (by omega);have b:wrap .i64 ((done.length:Int)+1)=(((done++[x]).length:Nat):Int):=by grind[a0A]
  rw[a0F (s':=((n:Int),(N:Int),(((done++[x]).length:Nat):Int),rdr (P++pb (a0W x n) n) (sB n l++R),b4U s (done++[x]),())) (by
   simp_all[a6h,b4U])]
  rw[b8T g f s l (done++[x]) _ R (fun y c=>h y (by grind)) (by grind) hok.shift];simp[sB]
theorem b7b{s0:Sub}(h:a9K s.2.2.2.2.2.1 s.2.2.2.1=true)(r:s0.2.2.2.2.2.1=[])(g:OkR P (a7y s++R)):
  a8S (rdr P (a7y s++R),s0)=some (true,rdr (P++a7y s) R,b4U (c0D s0 s.2.2.2.1) s.2.2.2.2.2.1):=by
 obtain⟨u,w,l,x,d⟩:=c1k h;have m:=a2b d;unfold a7y at g⊢;generalize s.2.2.2.2.2.1=c at *;generalize s.2.2.2.1=t at *;obtain⟨T,rfl⟩:=a01 l;simp at g⊢;have e:a0H (rdr P (pb ((c.length-1:Nat):Int) 5++(pb (T:Int) 4++(pb ((a0I c:Nat):Int) 5++(sB (a0I c) c++R)))),(5:Int))=_:=a3D (v:=c.length-1) (n:=5) (by omega) (by omega) g;have f:=g.shift;have i:a0H (rdr (P++pb ((c.length-1:Nat):Int) 5) (pb (T:Int) 4++(pb ((a0I c:Nat):Int) 5++(sB (a0I c) c++R))),(4:Int))=_:=a3D (v:=T) (n:=4) (by omega) (by omega) f;have k:=f.shift;have j:a0H (rdr (P++pb ((c.length-1:Nat):Int) 5++pb (T:Int) 4) (pb ((a0I c:Nat):Int) 5++(sB (a0I c) c++R)),(5:Int))=_:=a3D (v:=a0I c) (n:=5) (by omega) (by omega) k;have a:=b8T (n:=a0I c) (by omega) (N:=c.length) (by omega) (c0D s0 (T:Int)) c [] _ R (b4T d) (by simp) k.shift;simp only[a22,nZ,a09,a30]at a;have o:wrap .i64 ((c.length-1:Nat):Int)=((c.length-1:Nat):Int):=a0A (by omega);have w2:wrap .i64 (((c.length-1:Nat):Int)+1)=(c.length:Int):=by grind[a0A]
 have p:wrap .i64 (T:Int)=(T:Int):=a0A (by omega);have q:wrap .i64 ((a0I c:Nat):Int)=((a0I c:Nat):Int):=a0A (by omega);have b:((s0.1,s0.2.1,s0.2.2.1,(T:Int),s0.2.2.2.2):Sub)=b4U (c0D s0 (T:Int)) []:=by
  grind[b4U,c0D]
 unfold a8S;rw[e]
 simp
 rw[i];simp only[oB];rw[j];simp only[oB,o,w2,p,q]
 erw[b,a]
 simp only[oB];rw[show(b4U (c0D s0 (T:Int)) c).2.2.2.2.2.1=c from rfl,a2q (show short c by unfold short;omega)]
 simp
def a8q(st:List Stg):List Int:=st.flatMap fun g=>pb (g.1-1) 5++pb g.2.1 4
theorem b7c{g:Stg}(h:Ab.stageB g=true):1≤g.1∧g.1≤32∧0≤g.2.1∧g.2.1≤8:=by
 simp_all[Ab.stageB]
theorem b7d:∀(st:List Stg)(L:List Int),st.all Ab.stageB=true→a3j st L=L++a8q st
 | [],L,_=>by simp[a3j,a8q]
 |g::st,L,h=>by
  simp only[a07,bA]at h;obtain⟨k,c,f,d⟩:=b7c h.1;show a3j st (a6D g L)=_;rw[b7d st _ h.2];obtain⟨a,b,u⟩:=g;simp only at k c f d;obtain⟨B,rfl⟩:=a01 f;obtain⟨A,e⟩:=a01 (show 0≤a-1 by omega)
  grind[a6D,b2W,a3C,a4W,a8q]
def a5g(s:Sub):List Int:=
 if s.1=2 then pb s.2.2.1 3
 else if s.1=3 then a7y s
 else if s.1=4 then pb (s.2.2.2.2.1-1) 10++(sB 8 s.2.2.2.2.2.2.1++a7y s)
 else if s.1=5 then pb ((s.2.2.2.2.2.2.2.1.length:Nat):Int) 2++a8q s.2.2.2.2.2.2.2.1
 else[]
theorem c1l(h:a4a s.1 s n)(L:List Int):a2y s L=L++a5g s:=by
 unfold a2y a5g;rcases h with k|k|⟨k,g,f,-⟩|⟨k,g,-⟩|⟨k,g,-,a⟩|⟨k,g,f⟩
 grind
 grind
 rw[if_pos k,if_pos k]
 grind[a01,a3C,a4W]
 simp_all[b8S];rw[if_neg (by omega),if_neg (by omega),if_pos k,if_neg (by omega),if_neg (by omega),if_pos k,b8S g,a9U (by omega)];simp only[b1N,bA,dT]at a;obtain⟨A,b⟩:=a01 (show 0≤s.2.2.2.2.1-1 by omega)
 grind[b2W,a3C,a4W]
 rw[if_neg (by omega),if_neg (by omega),if_neg (by omega),if_pos k,if_neg (by omega),if_neg (by omega),if_neg (by omega),if_pos k];simp only[a9s,bA,dT]at f
 grind[b7d,a3C,a4W]
def b3A(s:Sub):List Int:=pb s.1 3++(pb s.2.1 5++pb ((a0I s.2.2.2.2.2.2.2.2.1:Nat):Int) 5)
theorem c9t(g:0≤s.1∧s.1≤5)(f:0≤s.2.1∧s.2.1≤30)(h:s.2.2.2.2.2.2.2.2.1.all a0B=true)(L:List Int):b1P s L=L++b3A s:=by
 grind[a01,a2b,b1P,b3A,a3C,a4W]
def a4b(s:Sub):Sub:=(s.1,s.2.1,s.2.2.1,s.2.2.2.1,s.2.2.2.2.1,s.2.2.2.2.2.1,s.2.2.2.2.2.2.1,s.2.2.2.2.2.2.2.1,[],(0,[],()),[],())
theorem b7e{wd N:Nat}{ok:Bool}(m:N<1000)(k w:Int):∀(st done:List Stg)(P R:List Int),st.all Ab.stageB=true→done.length+st.length=N→OkR P (a8q st++R)→
  y0s a7a ((wd:Int),ok,(N:Int),(done.length:Int),rdr P (a8q st++R),(k,w,0,0,0,[],[0,0,0],done,[],(0,[],()),[],()),()) =
   some ((wd:Int),ok,(k,w,0,0,0,[],[0,0,0],done++st,[],(0,[],()),[],()),rdr (P++a8q st) R,())
 | [],done,P,R,_,hl,_=>by
  have:done.length=N:=by omega
  subst this;have d:decide ((done.length:Int)<(done.length:Int))=false:=by simp
  simp_all[a0E,a7a,a8q]
 |g::st,done,P,R,h,hl,hok=>by
  simp only[a07,bA]at h;rw[lC]at hl;obtain⟨i,j,c,l⟩:=b7c h.1;obtain⟨a,b,u⟩:=g;simp only at i j c l;obtain⟨B,rfl⟩:=a01 c;obtain⟨A,r⟩:=a01 (show 0≤a-1 by omega);obtain rfl:a=(A:Int)+1:=by omega
  have e:a8q (((A:Int)+1,(B:Int),u)::st)++R=pb (A:Int) 5++(pb (B:Int) 4++(a8q st++R)):=by simp[a8q]
  rw[e]at hok⊢;have d:decide ((done.length:Int)<(N:Int))=true:=by grind
  have p:a0H (rdr P (pb (A:Int) 5++(pb (B:Int) 4++(a8q st++R))),(5:Int))=_:=a3D (v:=A) (n:=5) (by omega) (by omega) hok;have f:=hok.shift;have q:a0H (rdr (P++pb (A:Int) 5) (pb (B:Int) 4++(a8q st++R)),(4:Int))=_:=a3D (v:=B) (n:=4) (by omega) (by omega) f;have o:lim (a37 done+1)=true:=a0Q (by omega);have t:wrap .i64 (A:Int)=(A:Int):=a0A (by omega);have w2:wrap .i64 (B:Int)=(B:Int):=a0A (by omega);have x:wrap .i64 ((A:Int)+1)=(A:Int)+1:=a0A (by omega);have s:wrap .u64 ((done.length:Int)+1)=(((done++[((A:Int)+1,(B:Int),u)]).length:Nat):Int):=by grind[a0K]
  rw[a0F (s':=((wd:Int),ok,(N:Int),(((done++[((A:Int)+1,(B:Int),u)]).length:Nat):Int),rdr (P++pb (A:Int) 5++pb (B:Int) 4) (a8q st++R),(k,w,0,0,0,[],[0,0,0],done++[((A:Int)+1,(B:Int),u)],[],(0,[],()),[],()),())) (by
    simp_all[a7a])]
  rw[b7e m k w st (done++[((A:Int)+1,(B:Int),u)]) _ R h.2 (by grind) f.shift];simp[a8q]
theorem c0E(h:b4x x=true):b3Q 8 x:=by
 simp[b4x]at h;unfold b3Q;omega
theorem c9u{wd:Nat}{w g:Int}{a b c:Int}(m:b4x a=true)(hb:b4x b=true)(o:b4x c=true)(f:OkR P (sB 8 [a,b,c]++R)):
  y0s a3i ((wd:Int),(0:Int),rdr P (sB 8 [a,b,c]++R),(k,w,0,0,g,[],[0,0,0],[],[],(0,[],()),[],()),()) =
   some ((wd:Int),rdr (P++sB 8 [a,b,c]) R,(k,w,0,0,g,[],[a,b,c],[],[],(0,[],()),[],()),()):=by
 have e:sB 8 [a,b,c]++R=pb (a0W a 8) 8++(pb (a0W b 8) 8++(pb (a0W c 8) 8++R)):=by rfl
 rw[e]at f⊢;have t:a1d (rdr P (pb (a0W a 8) 8++(pb (a0W b 8) 8++(pb (a0W c 8) 8++R))),(8:Int))=_:=a9T (n:=8) (by omega) (c0E m) f;have h:=f.shift;have u:a1d (rdr (P++pb (a0W a 8) 8) (pb (a0W b 8) 8++(pb (a0W c 8) 8++R)),(8:Int))=_:=a9T (n:=8) (by omega) (c0E hb) h;have d:=h.shift;have v:a1d (rdr (P++pb (a0W a 8) 8++pb (a0W b 8) 8) (pb (a0W c 8) 8++R),(8:Int))=_:=a9T (n:=8) (by omega) (c0E o) d;have x:wrap .i64 ((0:Int)+1)=1:=by rfl
 have y:wrap .i64 ((1:Int)+1)=2:=by rfl
 have w2:wrap .i64 ((2:Int)+1)=3:=by rfl
 have p:decide ((0:Int)<3)=true:=by rfl
 have i:decide ((0:Int)≤0)=true:=by rfl
 have q:decide ((1:Int)<3)=true:=by rfl
 have j:decide ((0:Int)≤1)=true:=by rfl
 have r:decide ((2:Int)<3)=true:=by rfl
 have l:decide ((0:Int)≤2)=true:=by rfl
 have s:decide ((3:Int)<3)=false:=by rfl
 rw[a0F (s':=((wd:Int),(1:Int),rdr (P++pb (a0W a 8) 8) (pb (a0W b 8) 8++(pb (a0W c 8) 8++R)),(k,w,0,0,g,[],[a,0,0],[],[],(0,[],()),[],()),())) (by
  simp_all[a3i])]
 rw[a0F (s':=((wd:Int),(2:Int),rdr (P++pb (a0W a 8) 8++pb (a0W b 8) 8) (pb (a0W c 8) 8++R),(k,w,0,0,g,[],[a,b,0],[],[],(0,[],()),[],()),())) (by
  simp_all[a3i])]
 rw[a0F (s':=((wd:Int),(3:Int),rdr (P++pb (a0W a 8) 8++pb (a0W b 8) 8++pb (a0W c 8) 8) R,(k,w,0,0,g,[],[a,b,c],[],[],(0,[],()),[],()),())) (by
  simp_all[a3i])]
 simp_all[a0E,a3i,sB]
theorem c8b{s:Sub}{n:Int}(hs:a1z s n)(ht:s.2.2.2.2.2.2.1.length=3){P R:List Int}(i:OkR P (b3A s++(a5g s++R))):
  a9C (rdr P (b3A s++(a5g s++R)))=some (a4b s,((a0I s.2.2.2.2.2.2.2.2.1:Nat):Int),true,rdr (P++(b3A s++a5g s)) R):=by
 obtain⟨-,-,hf,ha,I,L,-,-,M,-⟩:=hs;obtain⟨k,w,o,sh,g,c,t,st,a,b,d,u⟩:=s;have hk:=b4R hf;simp only at hk I L M ht;have h0:=a2b M;obtain⟨K,rfl⟩:=a01 hk.1;obtain⟨W,rfl⟩:=a01 I;unfold b3A at i⊢;simp at i⊢;have Y:a0H (rdr P (pb (K:Int) 3++(pb (W:Int) 5++(pb ((a0I a:Nat):Int) 5++(a5g ((K:Int),(W:Int),o,sh,g,c,t,st,a,b,d,u)++R)))),(3:Int))=_:=a3D (v:=K) (n:=3) (by omega) (by omega) i;have j:=i.shift;have Z:a0H (rdr (P++pb (K:Int) 3) (pb (W:Int) 5++(pb ((a0I a:Nat):Int) 5++(a5g ((K:Int),(W:Int),o,sh,g,c,t,st,a,b,d,u)++R))),(5:Int))=_:=a3D (v:=W) (n:=5) (by omega) (by omega) j;have l:=j.shift;have g3:a0H (rdr (P++pb (K:Int) 3++pb (W:Int) 5) (pb ((a0I a:Nat):Int) 5++(a5g ((K:Int),(W:Int),o,sh,g,c,t,st,a,b,d,u)++R)),(5:Int))=_:=a3D (v:=a0I a) (n:=5) (by omega) (by omega) l;have f:=l.shift;have wK:wrap .i64 (K:Int)=(K:Int):=a0A (by omega);have wW:wrap .i64 (W:Int)=(W:Int):=a0A (by omega);have wd:wrap .i64 ((a0I a:Nat):Int)=((a0I a:Nat):Int):=a0A (by omega);unfold a9C;rw[Y];simp only[oB];rw[Z];simp only[oB];rw[g3];simp only[oB,wK,wW,wd];generalize hX:P++pb (K:Int) 3++pb (W:Int) 5++pb ((a0I a:Nat):Int) 5=X at f⊢;have H:∀B:List Int,P++(pb (K:Int) 3++(pb (W:Int) 5++(pb ((a0I a:Nat):Int) 5++B)))=X++B:=fun B=>by grind
 rw[H];obtain⟨a1,D,q,r,E,C⟩:=ha;simp only at a1 D q r E C;clear Y Z g3 i j l hX H;rcases hf with h|h|⟨h,m,G,-⟩|⟨h,m,-⟩|⟨h,m,-,Q⟩|⟨h,m,G⟩
 
 simp only at h;obtain rfl:=a1 (by omega);obtain rfl:=D (by omega);obtain rfl:=q (by omega);obtain rfl:=r (by omega);obtain rfl:=E (by omega);obtain rfl:=C (by omega);rw[h];have hb:a5g ((0:Int),(W:Int),0,0,0,[],[0,0,0],[],a,b,d,u)=[]:=rfl;rw[hb,a09,a39];rfl;simp only at h;obtain rfl:=a1 (by omega);obtain rfl:=D (by omega);obtain rfl:=q (by omega);obtain rfl:=r (by omega);obtain rfl:=E (by omega);obtain rfl:=C (by omega);rw[h];have hb:a5g ((1:Int),(W:Int),0,0,0,[],[0,0,0],[],a,b,d,u)=[]:=rfl;rw[hb,a09,a39];rfl;simp only at h m G;obtain rfl:=D (by omega);obtain rfl:=q (by omega);obtain rfl:=r (by omega);obtain rfl:=E (by omega);obtain rfl:=C (by omega);rw[h]at f⊢;obtain⟨O,rfl⟩:=a01 m;have hb:a5g ((2:Int),(W:Int),(O:Int),0,0,[],[0,0,0],[],a,b,d,u)=pb (O:Int) 3:=rfl;rw[hb]at f⊢;have e:((2:Int)==2)=true:=rfl;have F:a0H (rdr X (pb (O:Int) 3++R),(3:Int))=_:=a3D (v:=O) (n:=3) (by omega) (by omega) f;have wO:wrap .i64 (O:Int)=(O:Int):=a0A (by omega);simp only[e,cT,F,oB,wO];rfl;simp only at h m;obtain rfl:=a1 (by omega);obtain rfl:=q (by omega);obtain rfl:=r (by omega);obtain rfl:=C (by omega);rw[h]at f⊢;have hb:a5g ((3:Int),(W:Int),0,sh,0,c,[0,0,0],[],a,b,d,u)=a7y ((3:Int),(W:Int),0,sh,0,c,[0,0,0],[],a,b,d,u):=rfl;rw[hb]at f⊢;have T:((3:Int)==2)=false:=rfl;have U:((3:Int)==4)=false:=rfl;have V:((3:Int)==3)=true:=rfl;have F:=b7b (s:=((3:Int),(W:Int),0,sh,0,c,[0,0,0],[],a,b,d,u)) (s0:=((3:Int),(W:Int),0,0,0,[],a00 3 0,[],[],(0,[],()),[],())) m rfl f;simp only[T,V,U,cT,cF,oB]
 erw[F]
 rfl
 ·simp only at h m Q;obtain rfl:=a1 (by omega);obtain rfl:=C (by omega);rw[h]at f⊢;simp only[b1N,bA,dT]at Q;obtain⟨Q,h5,S⟩:=Q;obtain⟨A,hA⟩:=a01 (show 0≤g-1 by omega);obtain rfl:g=(A:Int)+1:=by omega
  obtain⟨x,y,z,rfl⟩:∃x y z,t=[x,y,z]:=by
   match t,ht with
   | [x,y,z],_=>simp
  simp at S;have hb:a5g ((4:Int),(W:Int),0,sh,(A:Int)+1,c,[x,y,z],[],a,b,d,u)=pb (A:Int) 10++(sB 8 [x,y,z]++a7y ((4:Int),(W:Int),0,sh,(A:Int)+1,c,[x,y,z],[],a,b,d,u)):=by
   show pb ((A:Int)+1-1) 10++_=_
   simp
  rw[hb]at f⊢;simp only[aA]at f⊢;have T:((4:Int)==2)=false:=rfl;have U:((4:Int)==4)=true:=rfl;have F:a0H (rdr X (pb (A:Int) 10++(sB 8 [x,y,z]++(a7y ((4:Int),(W:Int),0,sh,(A:Int)+1,c,[x,y,z],[],a,b,d,u)++R))),(10:Int))=_:=a3D (v:=A) (n:=10) (by omega) (by omega) f;have p:=f.shift;have wA:wrap .i64 (A:Int)=(A:Int):=a0A (by omega);have h4:wrap .i64 ((A:Int)+1)=(A:Int)+1:=a0A (by omega);have g5:=c9u (wd:=a0I a) (k:=4) (w:=(W:Int)) (g:=(A:Int)+1) S.1 S.2.1 S.2.2 p;have g6:=b7b (s:=((4:Int),(W:Int),0,sh,(A:Int)+1,c,[x,y,z],[],a,b,d,u)) (s0:=((4:Int),(W:Int),0,0,(A:Int)+1,[],[x,y,z],[],[],(0,[],()),[],())) m rfl p.shift;simp_all[a4b,b4U,c0D]
 simp only at h m G;obtain rfl:=a1 (by omega);obtain rfl:=D (by omega);obtain rfl:=q (by omega);obtain rfl:=r (by omega);obtain rfl:=E (by omega);rw[h]at f⊢;simp only[a9s,bA,dT]at G;have hb:a5g ((5:Int),(W:Int),0,0,0,[],[0,0,0],st,a,b,d,u)=pb ((st.length:Nat):Int) 2++a8q st:=rfl;rw[hb]at f⊢;simp only[aA]at f⊢;have T:((5:Int)==2)=false:=rfl;have U:((5:Int)==4)=false:=rfl;have V:((5:Int)==3)=false:=rfl;have e5:((5:Int)==5)=true:=rfl;have F:a0H (rdr X (pb ((st.length:Nat):Int) 2++(a8q st++R)),(2:Int))=_:=a3D (v:=st.length) (n:=2) (by omega) (by omega) f;have g5:=b7e (wd:=a0I a) (ok:=true) (N:=st.length) (by omega) (5:Int) (W:Int) st [] _ R G.2 (by simp) f.shift;simp_all[a4b]
def a8r(s:Sub)(zn:List Nat):List Int:=
 (b3A s++a5g s)++(sB (a0I s.2.2.2.2.2.2.2.2.1) s.2.2.2.2.2.2.2.2.1++if s.1=0∨s.1=1 then[]else a6L s.2.2.2.2.2.2.2.2.2.1 zn s.2.2.2.2.2.2.2.2.2.2.1)
theorem b7f(a:a1z s n)(c:s.1≠0∧s.1≠1→PartsOk s.2.2.2.2.2.2.2.2.2.1 n ((s.2.2.2.2.2.2.2.2.1.length:Nat):Int) s.2.2.2.2.2.2.2.2.2.2.1 zn)(L:List Int):
  a5p s zn L=L++a8r s zn:=by
 obtain⟨-,-,hf,-,f,k,-,-,g,-⟩:=a;have b:=a2b g;have h:=c9t (b4R hf) ⟨f,k⟩ g L;unfold a5p a8r
 by_cases hk:s.1=0∨s.1=1
 rw[if_pos hk,if_pos hk,a9U (by omega),c1l hf,h]
 simp
 rw[if_neg hk,if_neg hk,c2w (c (not_or.1 hk)),a9U (by omega),c1l hf,h]
 simp
def a8s(s:Sub)(l:List Int):Sub:=(s.1,s.2.1,s.2.2.1,s.2.2.2.1,s.2.2.2.2.1,s.2.2.2.2.2.1,s.2.2.2.2.2.2.1,s.2.2.2.2.2.2.2.1,l,s.2.2.2.2.2.2.2.2.2)
theorem c1m{wd:Nat}(g:wd≤62){N:Nat}(f:N<1000000)(n:Int)(ok:Bool)(z s:Sub):∀(l done P R:List Int),(∀x∈l,b3Q wd x)→done.length+l.length=N→OkR P (sB wd l++R)→
  y0s b0N (n,(wd:Int),ok,(N:Int),(done.length:Int),rdr P (sB wd l++R),z,a8s s done,())=some (n,(wd:Int),ok,rdr (P++sB wd l) R,z,a8s s (done++l),())
 | [],done,P,R,_,hl,_=>by
  have:done.length=N:=by omega
  subst this;have d:decide ((done.length:Int)<(done.length:Int))=false:=by simp
  simp_all[a0E,b0N,sB]
 |x::l,done,P,R,h,hl,hok=>by
  rw[lC]at hl;rw[c0C]at hok⊢;have d:decide ((done.length:Int)<(N:Int))=true:=by grind
  have a:=a9T g (h x (by simp)) hok;have k:lim (a37 done+1)=true:=a0Q (by omega);have b:wrap .i64 ((done.length:Int)+1)=(((done++[x]).length:Nat):Int):=by grind[a0A]
  rw[a0F (s':=(n,(wd:Int),ok,(N:Int),(((done++[x]).length:Nat):Int),rdr (P++pb (a0W x wd) wd) (sB wd l++R),z,a8s s (done++[x]),())) (by
   simp_all[b0N,a8s])]
  rw[c1m g f n ok z s l (done++[x]) _ R (fun y c=>h y (by grind)) (by grind) hok.shift];simp[sB]
theorem c8c(h:SmallS s):SmallS (a4b s) where
 coefs:=h.coefs
 taps:=h.taps
 stages:=h.stages
 warm:=by show([]:List Int).length≤5000;simp
 rest:=by show([]:List Int).length≤5000;simp
 ks:=by show([]:List Int).length≤_;simp
theorem d3j(h:SmallS s)(H:(a2n s n).isSome=true)(Q:s.1≠0∧s.1≠1→PartsOk s.2.2.2.2.2.2.2.2.2.1 n ((s.2.2.2.2.2.2.2.2.1.length:Nat):Int) s.2.2.2.2.2.2.2.2.2.2.1 zn)(e:OkR P (a8r s zn++R)):b1Y (rdr P (a8r s zn++R),n)=some (s,(0:Int),rdr (P++a8r s zn) R):=by
 have I:=b3P H;have d:=@c8b s n I h.taps P;have x:=I;obtain⟨S,T,hf,-,-,-,-,O,r,-,v,-⟩:=x;have M:=a2b r;have y:=h.warm;have K:decide (n<1)=false:=by simp_all
 have L:decide (n > 4096)=false:=by simp_all
 have j:∀A B:List Int,(rdr A B).2.2.1=0:=fun _ _=>rfl;have l:a8h ((a4b s).1,a4b s,n)=some true:=by
  rw[b3Y (c8c h)];unfold b2U
  have:a4a (a4b s).1 (a4b s) n:=hf
  simp_all
 have i:a4L (a4b s,n)=some ((s.2.2.2.2.2.2.2.2.1.length:Nat):Int):=by
  rw[b2a]
  have:a2p (a4b s) n=a2p s n:=rfl
  simp_all
 have p:=b8x h n;rw[H]at p;have f:a1y s.2.2.2.2.2.2.2.2.1=some ((a0I s.2.2.2.2.2.2.2.2.1:Nat):Int):=a2q (by unfold short;omega);unfold b1Y a0N;unfold a8r at e⊢;simp only[aA]at e⊢;have a:OkR (P++(b3A s++a5g s)) (sB (a0I s.2.2.2.2.2.2.2.2.1) s.2.2.2.2.2.2.2.2.1++((if s.1=0∨s.1=1 then[]else a6L s.2.2.2.2.2.2.2.2.2.1 zn s.2.2.2.2.2.2.2.2.2.2.1)++R)):=OkR.shift (by simp_all)
 have G:=fun(ok:Bool) (z:Sub)=>c1m (wd:=a0I s.2.2.2.2.2.2.2.2.1) (by omega) (N:=s.2.2.2.2.2.2.2.2.1.length) (by omega) n ok z (a4b s) s.2.2.2.2.2.2.2.2.1 [] _ _ (b4T r) (by simp) a;simp only[a22,nZ,a09,a30]at G;simp only[K,L,cF,j,bne_self_eq_false,oB];rw[d e];simp only[j,bne_self_eq_false,cF,oB,l,bT,i];rw[show((a4b s:Sub))=a8s (a4b s) []from rfl]
 erw[G]
 simp only[oB,j,bne_self_eq_false,cF];rw[show(a8s (a4b s) s.2.2.2.2.2.2.2.2.1).1=s.1 from rfl,a6I];simp only[oB]
 by_cases hk:s.1=0∨s.1=1
 have hd:decide (s.1≠0∧s.1≠1)=false:=by grind
 have q:a8s (a4b s) s.2.2.2.2.2.2.2.2.1=s:=by
  obtain⟨D,E,F⟩:=v hk;obtain⟨k,w,o,sh,g,c,t,st,wm,⟨U,V,X⟩,re,u⟩:=s;simp only at D E F;subst D E F;rfl
 grind
 have hd:decide (s.1≠0∧s.1≠1)=true:=by simp_all
 have hp:=Q (not_or.1 hk);have b:=a.shift;rw[if_neg hk]at b;have m:=c4f hp b;simp only[hd,cT,if_neg hk];rw[show(a8s (a4b s) s.2.2.2.2.2.2.2.2.1).2.2.2.2.2.2.2.2.1=s.2.2.2.2.2.2.2.2.1 from rfl]
 erw[m]
 have C:((0:Int) != 0)=false:=rfl;simp only[oB,C,cF,bT,f,bne_self_eq_false];have q:((a8s (a4b s) s.2.2.2.2.2.2.2.2.1).1,(a8s (a4b s) s.2.2.2.2.2.2.2.2.1).2.1,(a8s (a4b s) s.2.2.2.2.2.2.2.2.1).2.2.1,(a8s (a4b s) s.2.2.2.2.2.2.2.2.1).2.2.2.1,(a8s (a4b s) s.2.2.2.2.2.2.2.2.1).2.2.2.2.1,(a8s (a4b s) s.2.2.2.2.2.2.2.2.1).2.2.2.2.2.1,(a8s (a4b s) s.2.2.2.2.2.2.2.2.1).2.2.2.2.2.2.1,(a8s (a4b s) s.2.2.2.2.2.2.2.2.1).2.2.2.2.2.2.2.1,s.2.2.2.2.2.2.2.2.1,s.2.2.2.2.2.2.2.2.2.1,s.2.2.2.2.2.2.2.2.2.2.1,(a8s (a4b s) s.2.2.2.2.2.2.2.2.1).2.2.2.2.2.2.2.2.2.2.2)=s:=rfl
 grind
theorem d6n(y:Int):bits .u64 .and y 1=y%2:=by
 have h:((a04 64 y) &&& (a04 64 1)).toNat=(y%18446744073709551616).toNat%2:=by
  simp
 show wrap .u64 ((((a04 64 y) &&& (a04 64 1)).toNat:Nat):Int)=_
 grind[a0K]
theorem a2h(v:Int):∀n,a1C (pb v n)
 |0=>fun b hb=>by cases hb
 |n+1=>fun b hb=>by
  rcases mC.1 hb with rfl|hb
  grind[a7d,d6n,a5K]
  exact a2h v n b hb
theorem c6v(n:Nat):a1C (unB n):=fun b hb=>by
 rcases mA.1 hb with hb|hb
 all_goals simp_all
theorem b3B{α:Type}{f:α→List Int}{l:List α}(h:∀x,a1C (f x)):a1C (l.flatMap f):=fun b hb=>by
 obtain⟨x,-,g⟩:=a97.1 hb;exact h x b g
theorem c9v(k:Nat)(x:Int):a1C (a9I k x):=by
 unfold a9I;split;exact(c6v _).app (a2h _ _);exact(c6v _).app (a2h _ _)
theorem b6x(n:Nat)(l:List Int):a1C (sB n l):=b3B fun _=>a2h _ _
theorem c9w(k:Int)(l:List Int):a1C (b0W k l):=by
 unfold b0W;split;exact(a2h _ _).app ((a2h _ _).app (b6x _ _));exact(a2h _ _).app (b3B fun _=>c9v _ _)
theorem b4V:a1C []:=fun b hb=>by grind
theorem b8U:∀(zs:List Nat)(ks l:List Int),a1C (a1X zs ks l)
 |z::zs,k::ks,l=>by
  simp only[a1X];exact(c9w _ _).app (b8U zs ks _)
 | [],_,_=>by simp_all[a1X,b4V]
 |_::_,[],_=>by simp_all[a1X,b4V]
theorem b8V(s:Sub):a1C (a7y s):=(a2h _ _).app ((a2h _ _).app ((a2h _ _).app (b6x _ _)))
theorem c9x(s:Sub):a1C (a5g s):=by
 unfold a5g;split;exact a2h _ _;split;exact b8V s;split;exact(a2h _ _).app ((b6x _ _).app (b8V s));split;exact(a2h _ _).app (b3B fun _=>(a2h _ _).app (a2h _ _));exact b4V
theorem d1m(s:Sub)(h:List Nat):a1C (a8r s h):=by
 refine(((a2h _ _).app ((a2h _ _).app (a2h _ _))).app (c9x s)).app ((b6x _ _).app ?_);split;exact b4V;exact(a2h _ _).app (b8U _ _ _)
theorem d1n(h:SmallS s)(k:(a2n s n).isSome=true)(j:L.length<50000000):
  ∃g,a9S (wL L,s,n)=some (0,wL (L++a8r s g))∧a4k (s,n)=some (((a8r s g).length:Nat):Int)∧(a8r s g).length≤700000∧
   (s.1≠0∧s.1≠1→PartsOk s.2.2.2.2.2.2.2.2.2.1 n ((s.2.2.2.2.2.2.2.2.1.length:Nat):Int) s.2.2.2.2.2.2.2.2.2.2.1 g):=by
 obtain⟨e,i,a,-,c,d,-⟩:=b4D h (n:=n) (L:=L) (by omega);obtain⟨rfl,g,rfl,f⟩:=d k;have b:=b3P k;rw[b7f b f]at a c;refine⟨g,a,?_,by simp_all,f⟩;rw[c6r h];unfold a5f;rw[if_pos k,←b9X f,b7f b f]
 simp
theorem d4x(g:L.length<1000000000):b2m (wL L).1=some (rdr [] L):=by
 obtain⟨-,h⟩:=a5W L;unfold b2m;rw[a0Q (by omega)];rfl
theorem d1o(h:L.length<1000000000):a5c (wL L)=some ((wL L).1,wL L):=by
 grind[a5W,a5c,a0Q]
def a0J(n:Nat):List Int:=if h:n<128 then[(n:Int)]else((n%128+128:Nat):Int)::a0J (n / 128)
termination_by n
decreasing_by omega
theorem b1r{n:Nat}(h:n<128):a0J n=[(n:Int)]:=by rw[a0J,dif_pos h]
theorem b2C{n:Nat}(h:¬ n<128):a0J n=((n%128+128:Nat):Int)::a0J (n / 128):=by rw[a0J,dif_neg h]
theorem b7N:∀(k n:Nat),n<128^(k+1)→1≤(a0J n).length∧(a0J n).length≤k+1
 |0,n,h=>by simp_all[b1r]
 |k+1,n,h=>by
  by_cases hn:n<128
  rw[b1r hn];simp;rw[b2C hn]
  have:=b7N k (n / 128) (by omega)
  simp_all
theorem b8W:∀(k n:Nat),n<128^(k+1)→∀b∈a0J n,0≤b∧b<256
 |0,n,h,b,hb=>by grind[b1r]
 |k+1,n,h,b,hb=>by
  by_cases hn:n<128
  grind[b1r]
  rw[b2C hn]at hb;rcases mC.1 hb with rfl|hb;omega;exact b8W k (n / 128) (by omega) b hb
theorem c6w:∀(k n:Nat)(a:List Int)(b c:Int)(out:List Int),n<128^(k+1)→k≤8→out.length+k<1000000→
  ∃r g,y0s a8K ((n:Int),a,b,c,out,())=some (((r:Nat):Int),a,b,c,out++g,())∧a0J n=g++[(r:Int)]∧r<128
 |k,n,a,b,c,out,h,hk,ho=>by
  by_cases hn:n<128
  refine⟨n,[],?_,by rw[b1r hn];rfl,hn⟩;rw[a0E (b:=((n:Int),a,b,c,out,())) (by
   have d:decide ((n:Int)≥128)=false:=by grind
   simp only[a8K,d,cF])]
  simp
  ·cases k with
   |zero=>omega
   |succ k=>
    have hd:n / 128<128^(k+1):=by omega
    have f:n<18446744073709551616:=by
     have:128^(k+1+1)≤128^9:=a08 (by omega) (by omega)
     omega
    obtain⟨r,g,m,j,l⟩:=c6w k (n / 128) a b c (out++[((n%128+128:Nat):Int)]) hd (by omega) (by grind);refine⟨r,((n%128+128:Nat):Int)::g,?_,by rw[b2C hn,j];rfl,l⟩;have d:decide ((n:Int)≥128)=true:=by grind
    have e:wrap .u64 (a54 (n:Int) 128)=((n / 128:Nat):Int):=by
     rw[show a54 (n:Int) 128=((n / 128:Nat):Int)from rfl];exact a0K (by omega)
    have i:wrap .u8 (wrap .u8 (a26 (n:Int) 128)+128)=((n%128+128:Nat):Int):=by
     rw[show a26 (n:Int) 128=((n%128:Nat):Int)from rfl,a5K,a5K];omega
    rw[a0F (s':=(((n / 128:Nat):Int),a,b,c,out++[((n%128+128:Nat):Int)],())) (by
     simp only[a8K,d,cT,a0Q (show out.length+1<2147483648 by omega),e,i,a06])]
    simp_all
theorem b3c{α β γ:Type}(f:α→List γ):∀(l:List α)(a:List γ),a2O (β:=β) (fun a x=>.inl (a++f x)) l a=.inl (a++l.flatMap f)
 | [],a=>by simp[a2O]
 |x::l,a=>by simp only[a2O];rw[b3c f l];simp
def asI(ns:List Nat):List Int:=ns.map fun n:Nat=>(n:Int)
theorem b6c{ns:List Nat}(h:∀n∈ns,n<9223372036854775808)(t:ns.length≤1000):a9q (asI ns)=some (ns.flatMap a0J):=by
 have l:(asI ns).length=ns.length:=by simp[asI]
 have:=a2a (f:=a8L) (asI ns) (fun i (a:List Int)=>(asI ns,((asI ns).length:Int),(i:Int),a,())) (fun a x=>.inl (a++a0J x.toNat)) (fun i a=>a.length≤10*i) (fun a=>(a,()))
  (fun i hi a p=>⟨fun q g=>by
   have c:i<ns.length:=by omega
   have m:(asI ns)[i]=((ns[i]:Nat):Int):=by simp[asI]
   have hb:=h ns[i] (a05 c);have k:ns[i]<128^(8+1):=by omega
   obtain⟨r,d,o,j,s⟩:=c6w 8 ns[i] (asI ns) ((asI ns).length:Int) (i:Int) a k (a27 _) (by omega);have hv:=b7N 8 ns[i] k;rw[j]at hv;simp only[lN,lC,a22]at hv;simp[m,j]at g;subst g;have e:wrap .u8 (r:Int)=(r:Int):=by rw[a5K];omega
   refine⟨?_,by grind⟩;simp only[a8L,dlt hi,cT,a0D hi,m,oB,o,a0Q (show(a++d).length+1<2147483648 by grind),a0C (show i<1000000 by omega),e,a06,aA],fun b hb=>by grind⟩)
  (fun a p=>by simp_all[a8L]) (a:=[]) (by simp)
 simp_all[a9q,b3c,a9f,asI,List.flatMap_map]
theorem orA{k:Nat}(f:a<2^k)(c:b*2^k+a<18446744073709551616):bits .u64 .or (a:Int) ((b*2^k:Nat):Int)=((a+b*2^k:Nat):Int):=by
 show wrap .u64 (((a04 64 (a:Int) ||| a04 64 ((b*2^k:Nat):Int)).toNat:Nat):Int)=_;have g:(a04 64 (a:Int)).toNat=a:=by grind
 have h:(a04 64 ((b*2^k:Nat):Int)).toNat=b*2^k:=by grind[a82]
 grind[a59,a57,a0K]
theorem b7g{rest:List Int}:∀(j m i acc:Nat)(P:List Int),m<128^(j+1)→P.length=i→(i=0∨1≤m)→acc<2^(7*i)→m*2^(7*i)+acc<9223372036854775808→(P++(a0J m++rest)).length<1000000000→
  y0s a6g ((acc:Int),P++(a0J m++rest),((P++(a0J m++rest)).length:Nat),(i:Int),())=some (.inr (((acc+m*2^(7*i):Nat):Int),((i+(a0J m).length:Nat):Int),(0:Int),()))
 |j,m,i,acc,P,hj,hP,hm,ha,hs,hl=>by
  have q:i≤8:=by
   rcases hm with l|h1;omega;apply Classical.byContradiction;intro hi;have x:2^(7*9)≤2^(7*i):=a08 (by omega) (by omega);have y:2^(7*i)≤m*2^(7*i):=Nat.le_mul_of_pos_left _ (by omega);omega
  have s:wrap .i64 ((7:Int)*(i:Int))=((7*i:Nat):Int):=by grind[a0A]
  have u:decide ((((7*i:Nat):Int))<0)=false:=by rfl
  have t:wrap .i64 ((i:Int)+1)=((i+1:Nat):Int):=a0C (by omega);have w:∀c:Nat,c<256→(i=9→False):=fun _ _ h=>by omega
  have n:((i:Int)==9)=false:=by grind
  have g:∀(c:Nat)(b:List Int),c<256→a0J m=(c:Int)::b→(i=0∨c≠0)→
    a6g ((acc:Int),P++(a0J m++rest),((P++(a0J m++rest)).length:Nat),(i:Int),()) =
     bif decide ((c:Int)<128)then some (.inr (Sum.inr (bits .u64 .or (acc:Int) (A0n .u64 (wrap .u64 (a26 (c:Int) 128)) ((7*i:Nat):Int)),((i+1:Nat):Int),(0:Int),())))
     else some (.inl (bits .u64 .or (acc:Int) (A0n .u64 (wrap .u64 (a26 (c:Int) 128)) ((7*i:Nat):Int)),P++(a0J m++rest),((P++(a0J m++rest)).length:Nat),((i+1:Nat):Int),())):=fun c b o hv l=>by
   have k:i<(P++(a0J m++rest)).length:=by simp_all
   have p:m0k (P++(a0J m++rest)) (i:Int)=some (c:Int):=by
    simp_all[a0D]
   have z:(decide ((i:Int) > 0)=true→((c:Int)==0)=false):=fun h=>by
    grind
   simp only[a6g,dlt k,cT,p,oB,n,cF]
   grind
  have f:∀c:Nat,c%128*2^(7*i)+acc<9223372036854775808→bits .u64 .or (acc:Int) (A0n .u64 (wrap .u64 (a26 (c:Int) 128)) ((7*i:Nat):Int))=((acc+c%128*2^(7*i):Nat):Int):=fun c o=>by
   rw[show a26 (c:Int) 128=((c%128:Nat):Int)from rfl,a0K (by omega),b2b (by omega) (by omega)];exact orA ha (by omega)
  by_cases hm128:m<128
  rw[a0E (g m [] (by omega) (b1r hm128) (by omega) |>.trans (by
   have d:decide ((m:Int)<128)=true:=by grind
   simp only[d,cT];rfl))]
  rw[f m (by simp_all[a23]),a23 hm128,b1r hm128];rfl
  ·cases j with
   |zero=>omega
   |succ j=>
    have hd:m / 128<128^(j+1):=by omega
    have r:2^(7*(i+1))=128*2^(7*i):=by grind
    have a:m*2^(7*i)=m%128*2^(7*i)+m / 128*2^(7*(i+1)):=by
     grind
    have hb:m%128*2^(7*i)≤127*2^(7*i):=a25 _ (by omega);rw[a0F (g (m%128+128) (a0J (m / 128)) (by omega) (b2C hm128) (by omega) |>.trans (by
     have d:decide (((m%128+128:Nat):Int)<128)=false:=by grind
     simp only[d,cF];rfl))]
    rw[f (m%128+128) (by grind[a90,Nat.mod_mod]),a90,Nat.mod_mod];have e:P++(a0J m++rest)=(P++[((m%128+128:Nat):Int)])++(a0J (m / 128)++rest):=by rw[b2C hm128];simp
    rw[e]at hl⊢;have v:=b7g j (m / 128) (i+1) (acc+m%128*2^(7*i)) (P++[((m%128+128:Nat):Int)]) hd (by simp[hP]) (.inr (by omega)) (by omega) (by omega) hl;rw[v,a,b2C hm128];congr 3;omega
    simp;omega
theorem c9y{n:Nat}(h:n<9223372036854775808){rest:List Int}(g:(a0J n++rest).length<1000000000):a8R (a0J n++rest)=some ((n:Int),(((a0J n).length:Nat):Int),(0:Int)):=by
 have:=b7g (rest:=rest) 8 n 0 0 [] (by omega) rfl (.inl rfl) (by simp) (by omega) g
 simp_all[a8R]
def ord(P R:List Int):List Int×(Int×Int×Unit):=(P++R,(P.length:Int),(0:Int),())
theorem a2U{n:Nat}(b:n<9223372036854775808){most:Int}(d:(n:Int)≤most)(a:(P++(a0J n++R)).length<1000000000):
  a0S (ord P (a0J n++R),most)=some ((n:Int),ord (P++a0J n) R):=by
 have hd:List.drop (a41 (P.length:Int)) (b02 (P++(a0J n++R)).length (P++(a0J n++R)))=a0J n++R:=by
  grind[tN]
 have k:((0:Int) != 0)=false:=rfl;have g:decide ((0:Int)≤(P.length:Int))=true:=by simp
 have f:decide ((P.length:Int)≤((P++(a0J n++R)).length:Int))=true:=by grind
 have c:decide ((n:Int) > most)=false:=by simp_all
 have h:(a0J n++R).length<1000000000:=by grind
 have e:wrap .i64 ((P.length:Int)+((a0J n).length:Int))=(((P++a0J n).length:Nat):Int):=by
  rw[a0A (by simp at a;omega)];simp
 unfold a0S ord;simp only[k,cF,g,f,a03,cT];rw[hd,c9y b h]
 grind
def a9i(g:Int):Nat:=if 0≤g then(2*g).toNat else(-2*g-1).toNat
theorem d4y{g:Int}(h:-100000≤g∧g≤100000):b1H g=some ((a9i g:Nat):Int):=by
 unfold b1H a9i
 by_cases hg:0≤g
 have d:decide (g≥0)=true:=by simp_all
 rw[d,cT,if_pos hg,a0K (n:=g) (by omega),a0K (by omega),a79 (by omega)];have d:decide (g≥0)=false:=by simp_all
 rw[d,cF,if_neg hg,a0A (n:=g+1) (by omega),a0A (by omega),a0K (n:=0-(g+1)) (by omega),a0K (n:=2*(0-(g+1))) (by omega),a0K (by omega),a79 (by omega)]
 grind
theorem c6x{g:Int}(h:-(m:Int)≤g∧g≤(m:Int)):a9i g≤2*m:=by
 grind[a9i]
theorem d4z{g:Int}(h:-100000≤g∧g≤100000):b1K ((a9i g:Nat):Int)=some g:=by
 unfold b1K;have f:a26 ((a9i g:Nat):Int) 2=((a9i g%2:Nat):Int):=rfl;have k:a54 ((a9i g:Nat):Int) 2=((a9i g / 2:Nat):Int):=rfl;rw[f,k];unfold a9i
 by_cases hg:0≤g
 rw[if_pos hg];have d:((((2*g).toNat%2:Nat):Int)==0)=true:=by grind
 rw[d,cT,a0K (by omega),a0A (by omega)]
 grind
 rw[if_neg hg];have d:((((-2*g-1).toNat%2:Nat):Int)==0)=false:=by grind
 rw[d,cF,a0K (by omega),a0A (n:=(((-2*g-1).toNat / 2:Nat):Int)) (by omega),a0A (n:=0-(((-2*g-1).toNat / 2:Nat):Int)) (by omega),a0A (by omega)]
 grind
def e8(s:Int):Int:=bif (A0o .u8 s 7)==(1:Int)then bits .u8 .xor (A0n .u8 s 1) 7 else A0n .u8 s 1
def e16(s:Int):Int:=bif (A0o .u16 s 15)==(1:Int)then bits .u16 .xor (A0n .u16 s 1) 32773 else A0n .u16 s 1
def rep{α:Type}(f:α→α):Nat→α→α
 |0,s=>s
 |n+1,s=>rep f n (f s)
def g8(s c:Int):Int:=rep e8 8 (bits .u8 .xor s c)
def g16(s c:Int):Int:=rep e16 8 (bits .u16 .xor s (A0n .u16 (wrap .u16 c) 8))
theorem b8X(l:List Int)(n i:Int):∀(j k:Nat)(s:Int),k+j=8→y0s b0I (s,l,n,i,(k:Int),())=some (rep e8 j s,l,n,i,())
 |0,k,s,h=>by
  obtain rfl:k=8:=by omega
  rfl
 |j+1,k,s,h=>by
  have d:decide ((k:Int)<8)=true:=by grind
  rw[a0F (s':=(e8 s,l,n,i,((k+1:Nat):Int),())) (by
   simp only[b0I,d,cT,a0C (show k<1000000 by omega),e8]
   grind)]
  exact b8X l n i j (k+1) (e8 s) (by omega)
theorem b6d(l:List Int)(n i:Int):∀(j k:Nat)(s:Int),k+j=8→y0s a9c (s,l,n,i,(k:Int),())=some (rep e16 j s,l,n,i,())
 |0,k,s,h=>by
  obtain rfl:k=8:=by omega
  rfl
 |j+1,k,s,h=>by
  have d:decide ((k:Int)<8)=true:=by grind
  rw[a0F (s':=(e16 s,l,n,i,((k+1:Nat):Int),())) (by
   simp only[a9c,d,cT,a0C (show k<1000000 by omega),e16]
   grind)]
  exact b6d l n i j (k+1) (e16 s) (by omega)
def b4W(l:List Int):Int:=l.foldl g8 0
def a4o(l:List Int):Int:=l.foldl g16 0
theorem c4g(h:short l):a8k l=some (b4W l):=by
 have:=a2a (f:=a7Y) (β:=Int×Unit) l (fun i (a:Int)=>(a,l,(l.length:Int),(i:Int),())) (fun a x=>.inl (g8 a x)) (fun _ _=>True) (fun a=>(a,()))
  (fun i hi a _=>⟨fun k g=>by
   simp at g;subst g
   have:=b8X l (l.length:Int) (i:Int) 8 0 (bits .u8 .xor a l[i]) rfl
   simp at this;refine⟨?_,trivial⟩;simp only[a7Y,dlt hi,cT,a0D hi,oB,this,a0C (a18 hi h),g8],fun b hb=>by grind⟩)
  (fun a c=>by simp_all[a7Y]) (a:=0) trivial
 unfold a8k;simp at this;rw[this,b4Q];rfl
theorem b8Y(h:short l):a6v l=some (a4o l):=by
 have:=a2a (f:=a6c) (β:=Int×Unit) l (fun i (a:Int)=>(a,l,(l.length:Int),(i:Int),())) (fun a x=>.inl (g16 a x)) (fun _ _=>True) (fun a=>(a,()))
  (fun i hi a _=>⟨fun k g=>by
   simp at g;subst g
   have:=b6d l (l.length:Int) (i:Int) 8 0 (bits .u16 .xor a (A0n .u16 (wrap .u16 l[i]) 8)) rfl
   simp at this;refine⟨?_,trivial⟩;simp only[a6c,dlt hi,cT,a0D hi,oB,this,a0C (a18 hi h),g16],fun b hb=>by grind⟩)
  (fun a c=>by simp_all[a6c]) (a:=0) trivial
 unfold a6v;simp at this;rw[this,b4Q];rfl
theorem b2D(n:Int):wrap .u16 n=n%65536:=by rfl
theorem c9z(s:Int):0≤e16 s∧e16 s<65536:=by
 unfold e16;cases (A0o .u16 s 15==1:Bool);simp only[cF,A0n,b2D];omega;simp only[cT,bits,b2D];omega
theorem b7h(l:List Int):0≤a4o l∧a4o l<65536:=by
 unfold a4o;rcases a51 l with rfl|⟨L,b,rfl⟩
 simp
 rw[List.concat_eq_append,List.foldl_append];exact c9z _
theorem d9u{v:Int}(h:0≤v∧v<65536):a4u (v,2)=some [v / 256,v%256]:=by
 have g:wrap .u64 (a54 v 256)=v / 256:=by grind[a0K]
 have f:wrap .u8 (a26 v 256)=v%256:=by simp_all[a42,a5K]
 have k:wrap .u8 (a26 (v / 256) 256)=v / 256:=by grind[a5K]
 have s0:a1l (v,(2:Int),(0:Int),([]:List Int),())=some (.inl (v / 256,(2:Int),(1:Int),[v%256],())):=by
  simp only[a1l,show decide ((0:Int)<2)=true from rfl,cT,a0Q (show([]:List Int).length+1<2147483648 by simp),g,f];rfl
 have a:a1l (v / 256,(2:Int),(1:Int),[v%256],())=some (.inl (wrap .u64 (a54 (v / 256) 256),(2:Int),(2:Int),[v%256,v / 256],())):=by
  simp only[a1l,show decide ((1:Int)<2)=true from rfl,cT,a0Q (show([v%256]:List Int).length+1<2147483648 by simp),k];rfl
 have c:a0U (v,2)=some [v%256,v / 256]:=by
  unfold a0U a1G
  simp
  rw[show v0s (v0r (2:Int) 0) 8=2 from rfl,a0F s0,a0F a,a0E (b:=([v%256,v / 256],())) rfl];rfl
 simp_all[a4u,a1Y]
@[reducible] def a0L:Type:=Int×(Int×(Int×Unit))
@[reducible] def a1r:Type:=Int×(Int×(a0L×(List a0L×(List Sub×Unit))))
@[reducible] def a1k:Type:=Int×(List (List Int)×Unit)
def a2z(n:Int)(s:a0L):Bool:=!(decide (s.1<0) || decide (s.1≥n) || decide (s.2.1<0) || decide (s.2.1≥n) || s.1==s.2.1)&&!(decide (s.2.2.1 < -1024) || decide (s.2.2.1 > 1024))
theorem a2W{n:Int}{s:a0L}:a2z n s=true↔0≤s.1∧s.1<n∧0≤s.2.1∧s.2.1<n∧s.1≠s.2.1∧-1024≤s.2.2.1∧s.2.2.1≤1024:=by
 simp only[a2z,bA,a33,a77,decide_eq_false_iff_not,beq_eq_false_iff_ne];omega
def a5j(l:List a0L)(n:Int):Prop:=1≤n∧n≤8∧l.length≤16∧l.all (a2z n)=true
instance (l:List a0L) (n:Int):Decidable (a5j l n):=by unfold a5j;infer_instance
theorem b3R(l:List a0L)(n:Int):a8I (l,n)=some (decide (a5j l n)):=by
 unfold a8I a5j
 by_cases h1:n<1
 grind
 by_cases h2:n > 8
 grind
 by_cases h3:((l.length:Nat):Int) > 16
 grind
 have g:=a2E (f:=a7r) (β:=Unit ⊕ (Bool×Unit)) l (fun i=>(n,l,(l.length:Int),(i:Int),())) (a2z n) (bt:=Sum.inl ()) (bf:=Sum.inr (false,()))
  (fun i h hp=>by
   obtain⟨a1,m,o,p,q,r,s⟩:=a2W.1 hp;have k:decide (l[i].1<0)=false:=by simp_all
   have a:decide (l[i].1≥n)=false:=by simp_all
   have b:decide (l[i].2.1<0)=false:=by simp_all
   have c:decide (l[i].2.1≥n)=false:=by simp_all
   have d:(l[i].1==l[i].2.1)=false:=by simp_all
   have e:decide (l[i].2.2.1 < -1024)=false:=by simp_all
   have j:decide (l[i].2.2.1 > 1024)=false:=by simp_all
   simp only[a7r,dlt h,cT,a0D h,oB,k,a,b,c,d,e,j,cF,a0C (show i<1000000 by omega)])
  (fun i h hp=>by
   simp only[a7r,dlt h,cT,a0D h,oB]
   grind[a2z])
  (by simp[a7r])
 grind
def a6F(f:a0L):Prop:=1≤f.1∧f.1≤1048576∧1≤f.2.1∧f.2.1≤8∧4≤f.2.2.1∧f.2.2.1≤24
instance (f:a0L):Decidable (a6F f):=by unfold a6F;infer_instance
theorem a4G(f:a0L):a1w f=some (decide (a6F f)):=by
 unfold a1w a5k a6F
 grind
def frP(f:a1r):Prop:=a6F f.2.2.1∧1≤f.2.1∧f.2.1≤4096∧0≤f.1∧f.1≤4194304-f.2.1∧a5j f.2.2.2.1 f.2.2.1.2.1
instance (f:a1r):Decidable (frP f):=by unfold frP;infer_instance
theorem b4l(f:a1r):a7u f=some (decide (frP f)):=by
 unfold a7u frP;rw[a4G,b3R]
 by_cases h1:a6F f.2.2.1<;>by_cases h2:1≤f.2.1<;>by_cases h3:f.2.1≤4096<;>by_cases h4:0≤f.1<;>simp[h1,h2,h3,h4]
 have h:wrap .i64 ((4194304:Int)-f.2.1)=4194304-f.2.1:=a0A (by omega);rw[h]
 grind
def a7z(s:a0L):List Nat:=[s.1.toNat,s.2.1.toNat,a9i s.2.2.1]
def a5P(s:a0L):List Int:=a0J s.1.toNat++(a0J s.2.1.toNat++a0J (a9i s.2.2.1))
def hb(f:a1r)(body:Nat):List Int:=
 [245,75]++(a0J f.1.toNat++(a0J f.2.1.toNat++(a0J f.2.2.1.1.toNat++(a0J f.2.2.1.2.1.toNat++(a0J f.2.2.1.2.2.1.toNat++(a0J f.2.2.2.1.length++(f.2.2.2.1.flatMap a5P++a0J body)))))))
def a1O(f:a1r)(body:Nat):List Int:=hb f body++[b4W (hb f body)]
theorem a8X{n:Nat}(h:n<9223372036854775808):1≤(a0J n).length∧(a0J n).length≤9:=b7N 8 n (by omega)
theorem c9A(g:n≤8){s:a0L}(h:a2z n s=true):(a5P s).length≤27:=by
 grind[a2W,a8X,a9i,a5P]
theorem c1n{n:Int}(g:n≤8):∀(l:List a0L),l.all (a2z n)=true→(l.flatMap a5P).length≤27*l.length
 | [],_=>by simp
 |s::l,h=>by
  simp only[a07,bA]at h
  have:=c9A g h.1
  have:=c1n g l h.2
  simp only[a63,lN,lC];omega
theorem c4h{f:a1r}(hf:frP f){body:Nat}(h:body≤1048576):2≤(hb f body).length∧(hb f body).length≤600:=by
 obtain⟨⟨p,r2,g,k,a,b⟩,l1,l2,s1,s2,m1,m2,m3,m4⟩:=hf;have c:=a8X (n:=f.1.toNat) (by omega);have d:=a8X (n:=f.2.1.toNat) (by omega);have e:=a8X (n:=f.2.2.1.1.toNat) (by omega);have i:=a8X (n:=f.2.2.1.2.1.toNat) (by omega);have j:=a8X (n:=f.2.2.1.2.2.1.toNat) (by omega);have l:=a8X (n:=f.2.2.2.1.length) (by omega);have m:=a8X (n:=body) (by omega);have o:=c1n m2 _ m4;simp only[hb,lN,lC,a22];omega
theorem c6y:∀l:List a0L,(l.flatMap a7z).length=3*l.length
 | []=>rfl
 |s::l=>by simp only[a63,lN,lC,c6y l];simp only[a7z,lC,a22];omega
theorem c8d{f:a1r}(hf:frP f){body:Nat}(q:body≤1048576):a7Z (f,(body:Int))=some (a1O f body):=by
 have t:=hf;obtain⟨⟨M,r2,H,I,K,L⟩,l1,l2,s1,s2,m1,m2,m3,m4⟩:=t;have k:∀s∈f.2.2.2.1,a2z f.2.2.1.2.1 s=true:=fun s v=>lA.1 m4 s v;have h:=a2a (f:=a5E) (β:=Int×(List Int×Unit)) f.2.2.2.1 (fun i (a:List Int)=>((body:Int),f.2.2.2.1,((f.2.2.2.1.length:Nat):Int),(i:Int),a,())) (fun a x=>.inl (a++asI (a7z x))) (fun i a=>a.length=6+3*i) (fun a=>((body:Int),a,()))
  (fun i hi a E=>⟨fun G j=>by
   simp at j;subst j;obtain⟨a1,A,B,C,D,w,y⟩:=a2W.1 (k _ (a05 hi));refine⟨?_,by grind[asI,a7z]⟩;simp only[a5E,dlt hi,cT,a0D hi,oB,d4y (g:=f.2.2.2.1[i].2.2.1) (by omega),a0Q (show a.length+3<2147483648 by omega),a0C (show i<1000000 by omega),a06]
   grind[a0K,asI,a7z],fun b hb=>by grind⟩)
  (fun a E=>by simp_all[a5E]) (a:=asI [f.1.toNat,f.2.1.toNat,f.2.2.1.1.toNat,f.2.2.1.2.1.toNat,f.2.2.1.2.2.1.toNat,f.2.2.2.1.length]) (by rfl)
 rw[b3c]at h;simp[a9f]at h;have d:([wrap .u64 f.1,wrap .u64 f.2.1,wrap .u64 f.2.2.1.1,wrap .u64 f.2.2.1.2.1,wrap .u64 f.2.2.1.2.2.1,wrap .u64 ((f.2.2.2.1.length:Nat):Int)]:List Int)=asI [f.1.toNat,f.2.1.toNat,f.2.2.1.1.toNat,f.2.2.1.2.1.toNat,f.2.2.1.2.2.1.toNat,f.2.2.2.1.length]:=by
  grind[a0K,asI]
 have o:asI [f.1.toNat,f.2.1.toNat,f.2.2.1.1.toNat,f.2.2.1.2.1.toNat,f.2.2.1.2.2.1.toNat,f.2.2.2.1.length]++f.2.2.2.1.flatMap (fun x=>asI (a7z x))++[((body:Nat):Int)]=asI ([f.1.toNat,f.2.1.toNat,f.2.2.1.1.toNat,f.2.2.1.2.1.toNat,f.2.2.1.2.2.1.toNat,f.2.2.2.1.length]++f.2.2.2.1.flatMap a7z++[body]):=by
  simp_all[asI,List.map_flatMap]
 have u:∀n∈[f.1.toNat,f.2.1.toNat,f.2.2.1.1.toNat,f.2.2.1.2.1.toNat,f.2.2.1.2.2.1.toNat,f.2.2.2.1.length]++f.2.2.2.1.flatMap a7z++[body],n<9223372036854775808:=fun n e=>by
  simp only[mA,mC,a96,or_false,a97]at e;rcases e with(e|⟨s,v,e⟩)|e;omega;obtain⟨a1,A,B,C,D,w,y⟩:=a2W.1 (k _ v)
  have:=c6x (m:=1024) ⟨w,y⟩
  simp[a7z]at e;omega;omega
 have z:=c6y f.2.2.2.1;have p:=b6c u (by grind);have c:(([f.1.toNat,f.2.1.toNat,f.2.2.1.1.toNat,f.2.2.1.2.1.toNat,f.2.2.1.2.2.1.toNat,f.2.2.2.1.length]++f.2.2.2.1.flatMap a7z++[body]).flatMap a0J)=(hb f body).drop 2:=by
  simp only[hb,List.flatMap_append,a63,List.flatMap_nil,a39,aA,List.flatMap_assoc,a65,a09,List.drop_succ_cons,a28];congr 7;exact congrArg (fun g=>List.flatMap g f.2.2.2.1) (funext fun s=>by simp[a5P,a7z])
 have r:[245,75]++(hb f body).drop 2=hb f body:=by rfl
 have F:=c4h hf q;unfold a7Z;simp only[d];rw[h];simp only[oB,a06];have l:=congrArg a37 o;rw[show(asI ([f.1.toNat,f.2.1.toNat,f.2.2.1.1.toNat,f.2.2.1.2.1.toNat,f.2.2.1.2.2.1.toNat,f.2.2.2.1.length]++f.2.2.2.1.flatMap a7z++[body])).length=7+3*f.2.2.2.1.length from by grind[asI,lC]]at l;rw[lN,a74]at l;rw[a0K (n:=(body:Int)) (by omega),a0Q (by omega),cT,o,p];simp only[oB,c,a06,r];rw[a0Q (by grind),cT,c4g (show short (hb f body)by unfold short;omega)]
 simp
 rw[a0Q (by omega),cT];rfl
def c8e(f:a1r):a1r:=(f.1,f.2.1,f.2.2.1,f.2.2.2.1,[],())
theorem a1L{A:List Int}{k:Nat}(h:(P++(A++R)).length<k):((P++A)++R).length<k:=by rw[aA];exact h
theorem b8Z{x:List Int}{ch:Int}(c:ch≤8)(s l:Int)(fm:a0L)(u:List Sub×Unit){N:Nat}(o:N≤16){R:List Int}:∀(rest done:List a0L)(P:List Int),rest.all (a2z ch)=true→done.length+rest.length=N→
  (P++(rest.flatMap a5P++R)).length<1000000000→
  y0s a5I (x,(N:Int),(done.length:Int),(s,l,fm,done,u),ord P (rest.flatMap a5P++R),())=some (x,(s,l,fm,done++rest,u),ord (P++rest.flatMap a5P) R,())
 | [],done,P,_,hl,_=>by
  have e:done.length=N:=by simpa using hl
  rw[e,a0E (b:=(x,(s,l,fm,done,u),ord P R,())) (by simp only[a5I,dge,cF];rfl)]
  simp
 |g::rest,done,P,h,hl,hlen=>by
  simp only[a07,bA]at h;rw[lC]at hl;obtain⟨a1,t,v,w,y,d,i⟩:=a2W.1 h.1;have z:=c6x (m:=1024) ⟨d,i⟩;have j:(g::rest).flatMap a5P++R=a0J g.1.toNat++(a0J g.2.1.toNat++(a0J (a9i g.2.2.1)++(rest.flatMap a5P++R))):=by simp[a5P]
  rw[j]at hlen⊢;have n1:=a2U (n:=g.1.toNat) (most:=7) (by omega) (by omega) hlen;have f:=a1L hlen;have n2:=a2U (n:=g.2.1.toNat) (most:=7) (by omega) (by omega) f;have k:=a1L f;have q:=a2U (n:=a9i g.2.2.1) (most:=2048) (by omega) (by omega) k;have a:=a1L k;have p:wrap .u64 ((done.length:Int)+1)=(((done++[g]).length:Nat):Int):=by rw[a0K (by omega)];simp
  have r:wrap .i64 ((g.1.toNat:Nat):Int)=g.1:=by rw[a0A (by omega)];omega
  have w2:wrap .i64 ((g.2.1.toNat:Nat):Int)=g.2.1:=by rw[a0A (by omega)];omega
  have hd:decide ((done.length:Int)<(N:Int))=true:=by simp;omega
  rw[a0F (s':=(x,(N:Int),(((done++[g]).length:Nat):Int),(s,l,fm,done++[g],u),ord (P++a0J g.1.toNat++a0J g.2.1.toNat++a0J (a9i g.2.2.1)) (rest.flatMap a5P++R),())) (by
   simp only[a5I,hd,cT,n1,n2,q,oB,d4z (g:=g.2.2.1) (by omega),a0Q (show done.length+1<2147483648 by omega),r,w2,p,a06])]
  rw[b8Z c s l fm u o rest (done++[g]) _ h.2 (by simp;omega) a];simp[a5P]
theorem c8f{f:a1r}(hf:frP f){body:Nat}(o:body≤1048576)(hl:(a1O f body++R).length<1000000000):
  a8d (a1O f body++R)=some (c8e f,((a1O f body).length:Int),(body:Int),(0:Int)):=by
 have p:=hf;obtain⟨⟨r1,r2,c1,c2,d1,d2⟩,l1,l2,s1,s2,m1,m2,m3,m4⟩:=p;have Q:=c4h hf o

 have d:a1O f body++R=[245,75]++(a0J f.1.toNat++(a0J f.2.1.toNat++(a0J f.2.2.1.1.toNat++(a0J f.2.2.1.2.1.toNat++(a0J f.2.2.1.2.2.1.toNat++(a0J f.2.2.2.1.length++(f.2.2.2.1.flatMap a5P++(a0J body++([b4W (hb f body)]++R))))))))):=by
  simp[a1O,hb]
 generalize hx:a1O f body++R=x at *;have S:2≤x.length:=by rw[d];simp
 have N:m0k x 0=some 245:=by rw[d];rfl
 have O:m0k x 1=some 75:=by rw[d];rfl
 have k:List.drop 2 (b02 x.length x)=a0J f.1.toNat++(a0J f.2.1.toNat++(a0J f.2.2.1.1.toNat++(a0J f.2.2.1.2.1.toNat++(a0J f.2.2.1.2.2.1.toNat++(a0J f.2.2.2.1.length++(f.2.2.2.1.flatMap a5P++(a0J body++([b4W (hb f body)]++R)))))))):=by
  rw[a19,d];rfl
 have h:([]++(a0J f.1.toNat++(a0J f.2.1.toNat++(a0J f.2.2.1.1.toNat++(a0J f.2.2.1.2.1.toNat++(a0J f.2.2.1.2.2.1.toNat++(a0J f.2.2.2.1.length++(f.2.2.2.1.flatMap a5P++(a0J body++([b4W (hb f body)]++R))))))))):List Int).length<1000000000:=by
  rw[←k];simp;omega
 have n1:=a2U (n:=f.1.toNat) (most:=4194304) (by omega) (by omega) h;have w:=a1L h;have n2:=a2U (n:=f.2.1.toNat) (most:=4096) (by omega) (by omega) w;have y:=a1L w;have D:=a2U (n:=f.2.2.1.1.toNat) (most:=1048576) (by omega) (by omega) y;have z:=a1L y;have E:=a2U (n:=f.2.2.1.2.1.toNat) (most:=8) (by omega) (by omega) z;have A:=a1L z;have F:=a2U (n:=f.2.2.1.2.2.1.toNat) (most:=24) (by omega) (by omega) A;have B:=a1L A;have G:=a2U (n:=f.2.2.2.1.length) (most:=16) (by omega) (by omega) B;have C:=a1L B;have a:=b8Z (x:=x) m2 f.1 f.2.1 f.2.2.1 ([],()) m3 f.2.2.2.1 [] _ m4 (by simp) C;have P:=a1L C;have i:=a2U (n:=body) (most:=1048576) (by omega) (by omega) P;simp only[a22,nZ,a09,a30]at n1 n2 D E F G i a;have V:wrap .i64 ((f.1.toNat:Nat):Int)=f.1:=by rw[a0A (by omega)];omega
 have w2:wrap .i64 ((f.2.1.toNat:Nat):Int)=f.2.1:=by rw[a0A (by omega)];omega
 have X:wrap .i64 ((f.2.2.1.1.toNat:Nat):Int)=f.2.2.1.1:=by rw[a0A (by omega)];omega
 have Y:wrap .i64 ((f.2.2.1.2.1.toNat:Nat):Int)=f.2.2.1.2.1:=by rw[a0A (by omega)];omega
 have Z:wrap .i64 ((f.2.2.1.2.2.1.toNat:Nat):Int)=f.2.2.1.2.2.1:=by rw[a0A (by omega)];omega
 have l:a0J f.1.toNat++a0J f.2.1.toNat++a0J f.2.2.1.1.toNat++a0J f.2.2.1.2.1.toNat++a0J f.2.2.1.2.2.1.toNat++a0J f.2.2.2.1.length++f.2.2.2.1.flatMap a5P++a0J body=(hb f body).drop 2:=by simp[hb]
 rw[l]at i;have t:ord ((hb f body).drop 2) ([b4W (hb f body)]++R)=(x.drop 2,(((hb f body).length-2:Nat):Int),(0:Int),()):=by
  unfold ord;rw[a52,←hx];congr 1;unfold a1O;rw[aA,List.drop_append_of_le_length (by omega)]
 rw[t]at i;have b:wrap .i64 (((x.drop 2).length:Int)-(((hb f body).length-2:Nat):Int))=((1+R.length:Nat):Int):=by
  have:x.length=(hb f body).length+(1+R.length):=by rw[←hx];simp[a1O];omega
  rw[a52,a0A (by omega)];omega
 have m:wrap .i64 ((2:Int)+(((hb f body).length-2:Nat):Int))=(((hb f body).length:Nat):Int):=by rw[a0A (by omega)];omega
 have s:(hb f body).length<x.length:=by rw[←hx];simp[a1O]
 have c:b02 (hb f body).length x=hb f body:=by rw[←hx];simp[a1O]
 have r:m0k x (((hb f body).length:Nat):Int)=some (b4W (hb f body)):=by rw[a0D s];congr 1;subst hx;simp[a1O]
 have M:decide (((x.length:Nat):Int)<2)=false:=by simp;omega
 have j:decide ((2:Int)≤((x.length:Nat):Int))=true:=by simp;omega
 have H:((245:Int) != 245)=false:=rfl;have b1:((75:Int) != 75)=false:=rfl;have e:∀T:List Int,T.length<1000000000→a3l T=some (ord [] T):=fun T d=>by unfold a3l;rw[a0Q (by omega)];rfl
 have g:=h;rw[a09]at g;have z0:((0:Int) != 0)=false:=rfl;have I:decide (((1+R.length:Nat):Int)<1)=false:=by simp;omega
 have K:decide ((0:Int)≤(((hb f body).length:Nat):Int))=true:=by simp
 have L:decide ((((hb f body).length:Nat):Int)≤((x.length:Nat):Int))=true:=by simp;omega
 have U:(b4W (hb f body) != b4W (hb f body))=false:=bne_self_eq_false _;have q:frP (f.1,f.2.1,f.2.2.1,f.2.2.2.1,([]:List Sub),()):=hf;have v:wrap .i64 ((((hb f body).length:Nat):Int)+1)=(((a1O f body).length:Nat):Int):=by rw[a0A (by omega)];simp[a1O]
 have u:wrap .i64 ((body:Nat):Int)=(body:Int):=a0A (by omega);unfold a8d;simp only[M,cF,N,O,oB,H,b1,j,cT];rw[k,e _ g];simp only[oB,n1,n2,D,E,F,G,V,w2,X,Y,Z]
 erw[a]
 simp only[oB,i,a3A,z0,cF,a1F,a4g,b,I,m,K,L,a03,cT,tN,c,c4g (show short (hb f body)by unfold short;omega),r,U];rw[b4l,decide_eq_true q];simp only[oB,bT,cF,v,u];rfl
@[reducible] def PZ:Type:=Sub×List Nat
def c8g(n:Int)(p:PZ):Prop:=SmallS p.1∧(a2n p.1 n).isSome=true∧(p.1.1≠0∧p.1.1≠1→PartsOk p.1.2.2.2.2.2.2.2.2.2.1 n ((p.1.2.2.2.2.2.2.2.2.1.length:Nat):Int) p.1.2.2.2.2.2.2.2.2.2.2.1 p.2)
def a0M(l:List PZ):List Int:=l.flatMap fun p=>a8r p.1 p.2
theorem c1o(l:List PZ):a1C (a0M l):=b3B fun _=>d1m _ _
theorem c1p(x:a1r)(all:List Sub)(l:all.length≤8):∀(rest done:List Sub)(L:List Int),done++rest=all→(∀s∈rest,SmallS s∧(a2n s x.2.1).isSome=true)→L.length+700000*rest.length<40000000→
  ∃zs:List PZ,zs.map (·.1)=rest∧(∀p∈zs,c8g x.2.1 p)∧(a0M zs).length≤700000*rest.length∧((∀s∈rest,∃c,a4k (s,x.2.1)=some (c:Int))∧some (((a0M zs).length:Nat):Int)=rest.foldr (fun s a=>a.bind fun a=>(a4k (s,x.2.1)).bind fun c=>some (c+a)) (some 0))∧
   y0s a8M (all,(all.length:Int),(done.length:Int),wL L,x,())=some (.inl (wL (L++a0M zs),x,()))
 | [],done,L,hd,_,_=>by
  have e:done=all:=by simp_all
  subst e;refine⟨[],rfl,by simp,by simp[a0M],⟨by simp,by rfl⟩,?_⟩;simp_all[a0E,a8M,a0M]
 |s::rest,done,L,hd,h,hL=>by
  obtain⟨b,k⟩:=h s (by simp);rw[lC]at hL;obtain⟨f,d,i,q,j⟩:=d1n b k (L:=L) (by omega);obtain⟨zs,k1,k2,k3,⟨r,o⟩,k6⟩:=c1p x all l rest (done++[s]) (L++a8r s f) (by simp_all) (fun t n=>h t (by grind)) (by grind);have g:done.length<all.length:=by grind
  have m:m0k all (done.length:Int)=some s:=by grind[a0D]
  refine⟨(s,f)::zs,by grind,fun p hp=>?_,?_,⟨fun t n=>?_,?_⟩,?_⟩;rcases mC.1 hp with rfl|hp;exact⟨b,k,j⟩;simp_all
  grind[a0M]
  grind
  simp only[List.foldr_cons,←o,oB,i];simp[a0M];have z0:((0:Int) != 0)=false:=rfl;rw[a0F (s':=(all,(all.length:Int),(((done++[s]).length:Nat):Int),wL (L++a8r s f),x,())) (by
   simp only[a8M,dlt g,cT,m,oB,d,z0,cF,a0C (show done.length<1000000 by omega)]
   simp)]
  simp_all[a0M]
def a4X(k:Nat):Nat:=(8-k%8)%8
def a2I(L:List Int):List Int:=L++a00 (a4X L.length) 0
theorem b9a:∀(k:Nat)(L:List Int),a4X L.length=k→L.length+k<900000000→y0s a3q (wL L,())=some (wL (L++a00 k 0),())
 |k,L,hk,hL=>by
  have f:=(a5W L).1;have h:a26 (wL L).2.1 8=((L.length%8:Nat):Int):=by grind
  unfold a4X at hk;cases k with
  |zero=>
   grind[a0E,a3q]
  |succ k=>
   have hb:(((L.length%8:Nat):Int) != 0)=true:=by grind
   rw[a0F (s':=(wL (L++[0]),())) (by
    simp only[a3q,h,hb,cT,b8z (show L.length<1000000000 by omega),oB])]
   rw[b9a k (L++[0]) (by grind[a4X]) (by grind)]
   grind
theorem d1p(h:L.length<800000000):a5b (wL L)=some (wL (a2I L)):=by
 unfold a5b;rw[b9a _ L rfl (by unfold a4X;omega)];rfl
def a8Y(L:List Int):List Int:=(wL (a2I L)).1
theorem b6e(L:List Int):(a8Y L).length=(L.length+7) / 8∧8*(a8Y L).length=(a2I L).length:=by
 grind[a5W,a2I,a8Y,a4X]
def a9j(f:a1r)(L:List Int):List Int:=a1O f (a8Y L).length++a8Y L
def a6G(f:a1r)(L:List Int):List Int:=a9j f L++[a4o (a9j f L) / 256,a4o (a9j f L)%256]
theorem b7O{f:a1r}(hf:frP f)(h:L.length≤5600000):(a9j f L).length≤700700∧(a8Y L).length≤700000:=by
 grind[b6e,c4h,a9j,a1O]
theorem c4i{f:a1r}(i:a4t f=some true)(hf:frP f)(d:f.2.2.2.2.1.length≤8)(l:∀s∈f.2.2.2.2.1,SmallS s∧(a2n s f.2.1).isSome=true):
  ∃zs:List PZ,zs.map (·.1)=f.2.2.2.2.1∧(∀p∈zs,c8g f.2.1 p)∧(a0M zs).length≤5600000∧
   some (((a0M zs).length:Nat):Int)=f.2.2.2.2.1.foldr (fun s a=>a.bind fun a=>(a4k (s,f.2.1)).bind fun c=>some (c+a)) (some 0)∧a5U f=some (a6G f (a0M zs),0):=by
 obtain⟨zs,k1,k2,k3,⟨-,m⟩,k6⟩:=c1p f f.2.2.2.2.1 d f.2.2.2.2.1 [] [] rfl l (by grind);have b:(a0M zs).length≤5600000:=by omega
 refine⟨zs,k1,k2,b,m,?_⟩;rw[a09,a22]at k6;have hp:=b7O hf b;have k:wL []=(([]:List Int),(0:Int),()):=rfl;rw[k]at k6;have g:(a2I (a0M zs)).length<1000000000:=by
  grind[b6e]
 have j:=b7h (a9j f (a0M zs));have h:a1O f (a8Y (a0M zs)).length++a8Y (a0M zs)=a9j f (a0M zs):=rfl;have e:(a1O f (a8Y (a0M zs)).length).length+(a8Y (a0M zs)).length=(a9j f (a0M zs)).length:=by grind
 unfold a5U;simp only[i,oB,bT,cF]
 erw[k6]
 simp only[oB,d1p (show(a0M zs).length<800000000 by omega),d1o g]
 erw[c8d hf (show(a8Y (a0M zs)).length≤1048576 by omega)]
 simp only[oB,a06];rw[show(wL (a2I (a0M zs))).1=a8Y (a0M zs)from rfl];rw[h,a0Q (by omega),cT,b8Y (show short (a9j f (a0M zs))by unfold short;omega)]
 simp
 rw[a0K (by omega),d9u j];simp only[oB];rw[a0Q (by grind),cT];rfl
end Go.Ab
