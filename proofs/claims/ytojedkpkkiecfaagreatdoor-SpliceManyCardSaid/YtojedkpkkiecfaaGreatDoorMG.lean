/- Part of the proof: PA. Conditions: as each statement tells. -/
import Derived.KernelRfl
import Derived.Test.YtojedkpkkiecfaaGreatDoorMF
noncomputable section
set_option linter.unusedSimpArgs false
set_option linter.unusedVariables false
open BitVec renaming ofInt→a04,ofInt_natCast→a24,toNat_ofNat→a29,toNat_or→a72,toNat_ofInt→a82,toNat_and→a94
open Bool renaming and_self→a03,not_eq_true'→a33,not_false→a36,true_and→a39,and_eq_true_iff→a76,or_eq_false_iff→a77,or_eq_true→a99,eq_iff_iff→b00
open Int renaming eq_ofNat_of_zero_le→a01,natCast_dvd_natCast→a20,tmod→a26,cast_ofNat_Int→a30,toNat→a42,tmod_eq_emod_of_nonneg→a43,dvd_mul_of_dvd_left→a46,mul_nonneg→a47,tdiv→a54,tdiv_eq_ediv_of_nonneg→a61,mul_fdiv_cancel_left→a64,dvd_add_left→a66,toNat_of_nonneg→a79,fdiv→a80,natCast_nonneg→a83,dvd_zero→a86,emod_eq_of_lt→a89,natCast_add→b02
open List renaming replicate→a00,drop_eq_getElem_cons→a02,getElem_mem→a05,append_eq→a06,all_cons→a07,nil_append→a09,take_length→a19,length_nil→a22,drop_zero→a28,zipWith→a31,mem_of_mem_take→a34,mem_of_mem_drop→a35,length→a37,append_nil→a40,length_eq_zero_iff→a45,take_of_length_le→a48,take_succ_eq_append_getElem→a49,drop_length→a50,eq_nil_or_concat→a51,length_drop→a52,replicate_succ'→a53,set_cons_zero→a60,sum_cons→a62,flatMap_cons→a63,cons_append→a65,set_append_right→a73,length_singleton→a74,singleton_append→a75,getD→a87,getElem_zip→a91,length_take→a95,not_mem_nil→a97,mem_flatMap→a98,foldl_cons→b01,take→b03
open Nat renaming pow_le_pow_right→a08,two_pow_pos→a16,lt_trans→a18,mod_eq_of_lt→a23,mul_le_mul_right→a25,le_refl→a27,div_le_self→a32,lt_of_le_of_lt→a38,mod_lt→a41,pow_dvd_pow→a55,sub_self→a56,mul_comm→a57,testBit_two_pow_mul_add→a58,two_pow_add_eq_or_of_lt→a59,div_eq_of_lt→a67,pow_succ→a68,div_div_eq_div_mul→a69,div_add_mod→a70,min_eq_left→a71,div_mul_le_self→a78,one_le_two_pow→a81,le_of_lt→a84,add_zero→a85,or_lt_two_pow→a88,add_mod_right→a90,mul_add→a92,mul_one→a93,lt_of_not_le→a96
open Option renaming map_eq_some_iff→a21,bind_eq_some_iff→a44
namespace Go.Ab
variable {L P R c d g ks l part r row t wm:List Int}{N a b i j m o v w:Nat}{k lag n warm x:Int}{zn:List Nat}
open IntKind(wrap)
section
variable {σ β:Type} {f:σ→Option (σ ⊕ β)}
theorem b4q:∀(n m:Nat)(s:σ){b:β},j0z f n s=some b→j0z f (n+m) s=some b
 |0,_,s,b,h=>by simp[j0z]at h
 |n+1,m,s,b,h=>by
  rw[show n+1+m=n+m+1 from by omega];simp only[j0z]at h⊢
  split at h
  cases h;rename_i s' g;exact b4q n m s' h;exact h
theorem c0J{n:Nat}{s:σ}{b b':β}(h:j0z f n s=some b)(k:j0z f m s=some b'):b=b':=by
 have a:=b4q n m s h;have g:=b4q m n s k;rw[Nat.add_comm,a]at g;exact Option.some.inj g
theorem c9R{n:Nat}{s:σ}{b:β}(h:j0z f n s=some b):v0v f s=some b:=by
 unfold v0v;have g:∃n b,j0z f n s=some b:=⟨n,b,h⟩;rw[dif_pos g];exact congrArg some (c0J g.choose_spec.choose_spec h)
theorem b9L{n:Nat}{s:σ}{b:β}(h:j0z f n s=some b):y0s f s=some b:=by
 unfold y0s;split;rename_i g hb;rw[c0J hb h];exact c9R h
theorem c0K{s:σ}(h:∀n,j0z f n s=none):y0s f s=none:=by
 unfold y0s;rw[h 400];show v0v f s=none;unfold v0v;rw[dif_neg]
 rintro⟨n,b,g⟩
 rw[h n]at g;cases g
theorem a0F{s:σ}{b:β}(h:f s=some (.inr b)):y0s f s=some b:=b9L (n:=1) (by simp[j0z,h])
theorem a0E{s s':σ}(h:f s=some (.inl s')):y0s f s=y0s f s':=by
 by_cases hx:∃n b,j0z f n s'=some b
 obtain⟨n,b,hb⟩:=hx;rw[b9L hb];exact b9L (n:=n+1) (by simp[j0z,h,hb])
 ·have g:∀n,j0z f n s'=none:=fun n=>by
   cases hn:j0z f n s' with
   |none=>rfl
   |some b=>exact absurd ⟨n,b,hn⟩ hx
  rw[c0K g];refine c0K fun n=>?_
  cases n with
  |zero=>rfl
  |succ n=>simp[j0z,h,g n]
theorem c5S(S:Nat→σ)(n:Nat){b:β}(g:∀i,i<n→f (S i)=some (.inl (S (i+1))))(h:f (S n)=some (.inr b)):∀(k:Nat),k≤n→y0s f (S (n-k))=some b
 |0,_=>a0F h
 |k+1,hk=>by
  rw[a0E (g (n-(k+1)) (by omega)),show n-(k+1)+1=n-k from by omega];exact c5S S n g h k (by omega)
theorem a1D(S:Nat→σ)(n:Nat){b:β}(g:∀i,i<n→f (S i)=some (.inl (S (i+1))))(h:f (S n)=some (.inr b)):y0s f (S 0)=some b:=by
 have:=c5S S n g h n (a27 _)
 rwa [a56]at this
end
theorem a0B{n:Int}(h:-9223372036854775808≤n∧n≤9223372036854775807):wrap .i64 n=n:=by
 simp only[wrap,IntKind.bits,IntKind.signed]
 simp
 split<;>omega
theorem a0M{n:Int}(h:0≤n∧n<18446744073709551616):wrap .u64 n=n:=by
 simp only[wrap,IntKind.bits,IntKind.signed]
 simp
 omega
theorem a8j(n:Int):wrap .u8 n=n%256:=by
 simp[wrap,IntKind.bits,IntKind.signed]
def leB:Nat→Nat→List Int
 |0,_=>[]
 |k+1,n=>((n%256:Nat):Int)::leB k (n / 256)
theorem b0K:∀k n,(leB k n).length=k
 |0,_=>rfl
 |k+1,n=>by simp[leB,b0K k]
theorem b7x:∀(k n:Nat),leB (k+1) n=leB k n++[((n / 256^k%256:Nat):Int)]
 |0,n=>by simp[leB]
 |k+1,n=>by
  rw[leB,b7x k (n / 256),leB,a69,a68,a57 (256^k)];rfl
theorem a9O(x y:Int):v0s x y=min x y:=by
 simp only[v0s,cond_eq_ite,dT]
 split<;>omega
theorem b6m(x y:Int):v0r x y=max x y:=by
 simp only[v0r,cond_eq_ite,dT]
 split<;>omega
theorem a0T{n:Nat}(h:n<2147483648):lim n=true:=by simp[lim,h]
section
variable {α A σ β:Type}
def a2Y(g:A→α→A ⊕ β):List α→A→A ⊕ β
 | [],a=>.inl a
 |x::r,a=>match g a x with
  |.inl a'=>a2Y g r a'
  |.inr b=>.inr b
def a8k(fin:A→β):A ⊕ β→β
 |.inl a=>fin a
 |.inr b=>b
theorem b3P{f:σ→Option (σ ⊕ β)}(l:List α)(S:Nat→A→σ)(g:A→α→A ⊕ β)(I:Nat→A→Prop)(e:A→β)
  (d:∀i (h:i<l.length) a,I i a→(∀a',g a l[i]=.inl a'→f (S i a)=some (.inl (S (i+1) a'))∧I (i+1) a')∧(∀b,g a l[i]=.inr b→f (S i a)=some (.inr b)))
  (c:∀a,I l.length a→f (S l.length a)=some (.inr (e a))):∀(k i:Nat)(a:A),i+k=l.length→I i a→y0s f (S i a)=some (a8k e (a2Y g (l.drop i) a))
 |0,i,a,hi,ha=>by
  obtain rfl:i=l.length:=by omega
  rw[a50];exact a0F (c a ha)
 |k+1,i,a,hi,ha=>by
  have j:i<l.length:=by omega
  rw[a02 j];obtain⟨m,n⟩:=d i j a ha;simp[a2Y];cases hg:g a l[i]with
  |inl a'=>
   obtain⟨o,p⟩:=m a' hg;rw[a0E o];exact b3P l S g I e d c k (i+1) a' (by omega) p
  |inr b=>exact a0F (n b hg)
theorem a1N{f:σ→Option (σ ⊕ β)}(l:List α)(S:Nat→A→σ)(g:A→α→A ⊕ β)(I:Nat→A→Prop)(k:A→β)
  (d:∀i (h:i<l.length) a,I i a→(∀a',g a l[i]=.inl a'→f (S i a)=some (.inl (S (i+1) a'))∧I (i+1) a')∧(∀b,g a l[i]=.inr b→f (S i a)=some (.inr b)))
  (c:∀a,I l.length a→f (S l.length a)=some (.inr (k a))){a:A}(e:I 0 a):y0s f (S 0 a)=some (a8k k (a2Y g l a)):=by
 have:=b3P l S g I k d c l.length 0 a (by omega) e
 simp_all
theorem a2c{f:σ→Option (σ ⊕ β)}(l:List α)(S:Nat→σ)(p:α→Bool){bt bf:β}
  (k:∀i (h:i<l.length),p l[i]=true→f (S i)=some (.inl (S (i+1))))(b:∀i (h:i<l.length),p l[i]=false→f (S i)=some (.inr bf))
  (g:f (S l.length)=some (.inr bt)):y0s f (S 0)=some (bif l.all p then bt else bf):=by
 have h:=a1N (A:=Unit) l (fun i _=>S i) (fun _ x=>bif p x then .inl ()else .inr bf) (fun _ _=>True) (fun _=>bt) (fun i h a _=>?_) (fun _ _=>g) (a:=()) trivial
 ·rw[h];congr 1;clear h k b g
  induction l with
  |nil=>rfl
  |cons x l ih=>
   simp[a2Y];cases p x with
   |true=>simp_all
   |false=>rfl
 grind
end
theorem a0D{α:Type}{l:List α}{i:Nat}(h:i<l.length):m0k l (i:Int)=some l[i]:=by
 simp_all[m0k]
def a0A(x:Int):Bool:=decide (-1073741824≤x)&&decide (x<1073741824)
theorem a1O{x:Int}:a0A x=true↔-1073741824≤x∧x<1073741824:=by simp[a0A]
def short{α:Type}(l:List α):Prop:=l.length<1000000
theorem a0C{i:Nat}(h:i<1000000):wrap .i64 ((i:Int)+1)=((i+1:Nat):Int):=by
 grind[a0B]
theorem dlt{n:Nat}(h:i<n):decide ((i:Int)<(n:Int))=true:=by simp_all
theorem dge(n:Nat):decide ((n:Int)<(n:Int))=false:=by simp
theorem a4G{l:List Int}(a:short l):a2H l=some (l.all a0A):=by
 unfold a2H
 have:=a2c (f:=a2M) l (fun i=>(l,(l.length:Int),(i:Int),())) a0A (bt:=Sum.inl ()) (bf:=Sum.inr (false,()))
  (fun i h hp=>by
   have hp:=a1O.1 hp;have g:decide (l[i] < -1073741824)=false:=by simp_all
   have k:decide (l[i]≥1073741824)=false:=by simp_all
   simp only[a2M,dlt h,cT,a0D h,oB,g,k,cF,a0C (a18 h a)])
  (fun i h hp=>by
   simp only[a2M,dlt h,cT,a0D h,oB]
   grind[a0A])
  (by simp[a2M])
 grind
theorem a6v(x:Int):a5l x=some (a0A x):=by
 grind[a5l,a0A]
theorem a8l(x:Int):a7B x=some (a0A x):=by
 grind[a7B,a0A]
theorem a5p(x:Int):a6m x=some (a0A x):=by
 grind[a6m,a0A]
theorem b3Q(x:Int):a5m x=some (a0A x):=by
 grind[a5m,a0A]
theorem a6i(g:short l):a2N l=some (l.all a0A):=by
 unfold a2N
 have:=a2c (f:=a3l) l (fun i=>(l,(l.length:Int),(i:Int),())) a0A (bt:=Sum.inl ()) (bf:=Sum.inr (false,()))
  (fun i h hp=>by simp[a3l,a0D h,a6v,hp,a0C (a18 h g),h])
  (fun i h hp=>by simp_all[a3l,a0D,a6v])
  (by simp[a3l])
 grind
theorem b3f(g:short l):a4A l=some (l.all a0A):=by
 unfold a4A
 have:=a2c (f:=a4f) l (fun i=>(l,(l.length:Int),(i:Int),())) a0A (bt:=Sum.inl ()) (bf:=Sum.inr (false,()))
  (fun i h hp=>by simp[a4f,a0D h,a8l,hp,a0C (a18 h g),h])
  (fun i h hp=>by simp_all[a4f,a0D,a8l])
  (by simp[a4f])
 grind
theorem b2H(g:short l):a5w l=some (l.all a0A):=by
 unfold a5w
 have:=a2c (f:=a3G) l (fun i=>(l,(l.length:Int),(i:Int),())) a0A (bt:=Sum.inl ()) (bf:=Sum.inr (false,()))
  (fun i h hp=>by simp[a3G,a0D h,a5p,hp,a0C (a18 h g),h])
  (fun i h hp=>by simp_all[a3G,a0D,a5p])
  (by simp[a3G])
 grind
theorem a7w(h:short l):a2V l=some (l.all a0A):=by
 have e:b3c=a2M:=rfl
 have:a2V l=a2H l:=by rfl
 simp_all[a4G]
def b8j(x:Int):Bool:=decide (-32768≤x)&&decide (x<32768)
def a9G(c:List Int)(s:Int):Bool:=decide (1≤c.length)&&(decide (c.length≤32)&&(decide (0≤s)&&(decide (s≤15)&&c.all b8j)))
theorem a9y{c:List Int}{s:Int}(a:short c):a4J (c,s)=some (a9G c s):=by
 have:=a2c (f:=a5v) c (fun i=>(c,(c.length:Int),(i:Int),())) b8j (bt:=Sum.inl ()) (bf:=Sum.inr (false,()))
  (fun i h hp=>by
   simp[b8j]at hp;have g:¬ c[i] < -32768:=by omega
   have k:¬ c[i]≥32768:=by omega
   simp[a5v,a0D h,a0C (a18 h a),h,g,k])
  (fun i h hp=>by
   grind[b8j,a5v,a0D])
  (by simp[a5v])
 simp at this;unfold a4J a9G
 grind
def b4r(x:Int):Bool:=decide (-64≤x)&&decide (x≤64)
def b1E(lag:Int)(t:List Int):Bool:=decide (2≤lag)&&(decide (lag≤1024)&&t.all b4r)
theorem b3D(g:t.length=3):a8w (lag,t)=some (b1E lag t):=by
 have:=a2c (f:=a7e) t (fun i=>(t,(i:Int),())) b4r (bt:=Sum.inl ()) (bf:=Sum.inr (false,()))
  (fun i h hp=>by
   simp[b4r]at hp
   grind[a7e,a0D,a0C])
  (fun i h hp=>by
   grind[b4r,a7e,a0D])
  (by simp_all[a7e])
 simp at this;unfold a8w b1E
 grind
def stageB(s:Int×(Int×Unit)):Bool:=decide (1≤s.1)&&(decide (s.1≤32)&&(decide (0≤s.2.1)&&decide (s.2.1≤8)))
def a9p(l:List (Int×Int×Unit)):Bool:=decide (l.length≤3)&&l.all stageB
theorem b0X(s:Int×(Int×Unit)):a7f s=some (stageB s):=by
 grind[a7f,stageB]
theorem b2I{l:List (Int×Int×Unit)}(g:short l):a7z l=some (a9p l):=by
 have:=a2c (f:=a6k) l (fun i=>(l,(l.length:Int),(i:Int),())) stageB (bt:=Sum.inl ()) (bf:=Sum.inr (false,()))
  (fun i h hp=>by simp[a6k,a0D h,b0X,hp,a0C (a18 h g),h])
  (fun i h hp=>by simp_all[a6k,a0D,b0X])
  (by simp[a6k])
 simp at this;unfold a7z a9p
 grind
@[reducible] def W(n:Int):Int:=wrap .i64 n
theorem a8m(n:Int):wrap .i64 n=Int.bmod n 18446744073709551616:=by
 grind[wrap,IntKind.bits,IntKind.signed]
theorem b5N{n:Int}(h:a0A n=true):W n=n:=by
 grind[a1O,a0B]
def a4o(guess:List Int→Int):List Int→List Int→Option (List Int)
 | [],out=>some out
 |x::r,out=>bif a0A (W (x+guess out))then a4o guess r (out++[W (x+guess out)])else none
def b3g{β:Type}(guess:List Int→Int)(bad:β)(out:List Int)(x:Int):List Int ⊕ β:=bif a0A (W (x+guess out))then .inl (out++[W (x+guess out)])else .inr bad
theorem b2k{β:Type}(h:List Int→Int)(g:β)(f:List Int→β):∀(l out:List Int),a8k f (a2Y (b3g h g) l out)=match a4o h l out with|some r=>f r|none=>g
 | [],out=>rfl
 |x::l,out=>by
  simp[a2Y,b3g,a4o];cases a0A (W (x+h out))with
  |true=>simp_all[b2k]
  |false=>rfl
theorem b2l(g:List Int→Int):∀(l out r:List Int),out.all a0A=true→a4o g l out=some r→r.all a0A=true∧r.length=out.length+l.length
 | [],out,r,h,e=>by simp_all[a4o]
 |x::l,out,r,h,e=>by
  simp[a4o]at e;cases hw:a0A (W (x+g out))with
  |true=>
   rw[hw]at e;obtain⟨f,k⟩:=b2l g l _ r (by simp_all) e
   grind
  |false=>simp_all
def a5j:Option (List Int)→List Int×Int
 |some r=>(r,0)
 |none=>([],6)
def atB(out:List Int)(i:Nat):Int:=out.getD (out.length-i) 0
def a6w(o:Nat)(out:List Int):Int:=match o with
 | 1=>atB out 1
 | 2=>2*atB out 1-atB out 2
 | 3=>3*atB out 1-3*atB out 2+atB out 3
 | 4=>4*atB out 1-6*atB out 2+4*atB out 3-atB out 4
 |_=>0
theorem b2m{out:List Int}(hi:1≤i)(h:i≤out.length)(g:short out):a1j ((i:Int),out)=some (atB out i,out):=by
 unfold a1j;have g:out.length<1000000:=g
 grind[a0B,a0D,atB]
theorem b9M{out:List Int}(e:o≤4)(h:o≤out.length)(a:short out):∃g,a9s (out,(o:Int))=some g∧∀x,W (x+g)=W (x+a6w o out):=by
 have f:=fun(h':1≤out.length)=>b2m (i:=1) (by omega) h' a;have k:=fun(h':2≤out.length)=>b2m (i:=2) (by omega) h' a;have b:=fun(h':3≤out.length)=>b2m (i:=3) (by omega) h' a;have c:=fun(h':4≤out.length)=>b2m (i:=4) (by omega) h' a;simp at f k b c;unfold a9s;have d:o=0∨o=1∨o=2∨o=3∨o=4:=by omega
 rcases d with rfl|rfl|rfl|rfl|rfl;exact⟨0,rfl,fun x=>rfl⟩;exact⟨_,by simp[f (by omega)];rfl,fun x=>rfl⟩;refine⟨_,by simp[f (by omega),k (by omega)];rfl,fun x=>?_⟩;simp_all[a8m,a6w];refine⟨_,by simp[f (by omega),k (by omega),b (by omega)];rfl,fun x=>?_⟩;simp_all[a8m,a6w];refine⟨_,by simp[f (by omega),k (by omega),b (by omega),c (by omega)];rfl,fun x=>?_⟩;simp_all[a8m,a6w]
theorem a0W{n:Nat}(h:n<1000000):lim n=true:=a0T (by omega)
theorem c2b{warm rest:List Int}(u:o≤4)(x:warm.length=o)(w:rest.length<100000):
  a9U (warm,rest,(o:Int))=some (a5j (bif warm.all a0A&&rest.all a0A then a4o (a6w o) rest warm else none)):=by
 have c:short warm:=by unfold short;omega
 have m:short rest:=by unfold short;omega
 unfold a9U;have p:¬ (o:Int)<0:=by omega
 have q:¬ (o:Int) > 4:=by omega
 have r:(((warm.length:Nat):Int) != (o:Int))=false:=by simp_all
 simp only[p,q,r,decide_false,cF,oB,a7w c,a7w m];cases hw1:warm.all a0A with
 |false=>rfl
 |true=>
  simp only[bT,cF,oB,a39];cases hw2:rest.all a0A with
  |false=>rfl
  |true=>
   simp[a0W c]
   have:=a1N (f:=a7P) rest (fun i out=>((o:Int),rest,(rest.length:Int),(i:Int),out,())) (b3g (a6w o) (Sum.inr ((6:Int),([]:List Int),())))
    (fun i out=>o≤out.length∧out.length≤o+i) (fun out=>Sum.inl (out,()))
    (fun i h out s=>by
     have j:i<1000000:=by omega
     have l:short out:=by unfold short;omega
     obtain⟨g,t,d⟩:=b9M u s.1 l;have e:wrap .i64 (rest[i]+g)=W (rest[i]+a6w o out):=d _;have k:a2V [W (rest[i]+a6w o out)]=some (a0A (W (rest[i]+a6w o out))):=by rw[a7w (by simp[short])];simp
     simp only[a7P,dlt h,cT,a0D h,oB,t,e,k,b3g];cases hb:a0A (W (rest[i]+a6w o out))with
     |true=>
      simp only[cT,bT,cF,a0W (show out.length+1<1000000 by omega),a0C j];refine⟨fun v n=>?_,fun b hb=>(by grind)⟩;simp at n;subst n;exact⟨rfl,by grind,by grind⟩
     |false=>
      simp)
    (fun out _=>by simp[a7P]) (a:=warm) ⟨by omega,by omega⟩
   simp[b2k]at this;rw[this];cases a4o (a6w o) rest warm<;>rfl
def c3g(out:List Int):List Int→Nat→Int→Int
 | [],_,acc=>acc
 |c::r,i,acc=>bif decide (i<out.length)then c3g out r (i+1) (W (acc+W (c*atB out (i+1))))else acc
def b0Y(c:List Int)(s:Int)(out:List Int):Int:=A0o .i64 (c3g out c 0 0) s
theorem d3S{out:List Int}(h:i<out.length)(g:short out):m0k out (wrap .i64 (wrap .i64 (((out.length:Nat):Int)-1)-(i:Int)))=some (atB out (i+1)):=by
 have g:out.length<1000000:=g
 grind[a0B,a0D,atB]
theorem b5O{out c:List Int}{s:Int}(f:short out)(a:short c):∀(k i:Nat)(acc:Int),i+k=c.length→
  y0s a3m (out,s,acc,c,(c.length:Int),(i:Int),())=some (s,c3g out (c.drop i) i acc,())
 |0,i,acc,h=>by
  obtain rfl:i=c.length:=by omega
  simp_all[a0F,a3m,c3g]
 |k+1,i,acc,h=>by
  have g:i<c.length:=by omega
  have e:out.length<1000000:=f;have d:c.length<1000000:=a;rw[a02 g,c3g];have j:wrap .i64 (((out.length:Nat):Int)-1)=((out.length:Nat):Int)-1:=a0B (by omega);have l:wrap .i64 (((out.length:Nat):Int)-1-(i:Int))=((out.length:Nat):Int)-1-(i:Int):=a0B (by omega)
  by_cases hi:i<out.length
  have b:decide (wrap .i64 (wrap .i64 (((out.length:Nat):Int)-1)-(i:Int))<0)=false:=by grind
  simp[hi];rw[a0E (s':=(out,s,W (acc+W (c[i]*atB out (i+1))),c,(c.length:Int),((i+1:Nat):Int),())) (by
   simp only[a3m,dlt g,cT,a0D g,oB,b,cF,d3S hi f,a0C (show i<1000000 by omega)])]
  exact b5O f a k (i+1) _ (by omega);have b:decide (wrap .i64 (wrap .i64 (((out.length:Nat):Int)-1)-(i:Int))<0)=true:=by grind
  simp[hi];simp_all[a0F,a3m,a0D]
theorem b4s{out:List Int}{s:Int}(g:short out)(h:short c)(f:0≤s):a4L (out,c,s)=some (b0Y c s out):=by
 have:=b5O (s:=s) g h c.length 0 0 (by omega)
 grind[a4L,b0Y]
def b2J(warm rest c:List Int)(s:Int):Option (List Int):=bif warm.all a0A&&rest.all a0A then a4o (b0Y c s) rest warm else none
theorem b3R{warm rest:List Int}{s:Int}(o:a9G c s=true)(w:warm.length=c.length)(v:rest.length<100000):
  a7g (warm,rest,c,s)=some (a5j (b2J warm rest c s)):=by
 have g:=o;simp only[a9G,bA,dT]at g;have k:short c:=by unfold short;omega
 have m:short warm:=by unfold short;omega
 have l:short rest:=by unfold short;omega
 unfold a7g;have q:(((warm.length:Nat):Int) != ((c.length:Nat):Int))=false:=by simp_all
 simp only[a9y k,o,oB,bT,cF,q,a6i m,a6i l,b2J];cases hw1:warm.all a0A with
 |false=>rfl
 |true=>
  simp only[bT,cF,oB,a39];cases hw2:rest.all a0A with
  |false=>rfl
  |true=>
   have p:wrap .i64 (((warm.length:Nat):Int)+((rest.length:Nat):Int))=((warm.length+rest.length:Nat):Int):=by grind[a0B]
   have r:(0:Int)≤((warm.length+rest.length:Nat):Int):=by omega
   simp only[bT,cF,cT,p,r,decide_true,tN,a0W (show warm.length+rest.length<1000000 by omega),a0W (show 0+warm.length<1000000 by omega),a03,a06,a09]
   have:=a1N (f:=a6K) rest (fun i out=>(c,s,rest,(rest.length:Int),(i:Int),out,())) (b3g (b0Y c s) (Sum.inr ((6:Int),([]:List Int),())))
    (fun i out=>out.length≤warm.length+i) (fun out=>Sum.inl (out,()))
    (fun i h out u=>by
     have d:i<1000000:=by omega
     have j:short out:=by unfold short;omega
     have e:wrap .i64 (b0Y c s out+rest[i])=W (rest[i]+b0Y c s out):=by grind
     simp only[a6K,dlt h,cT,a0D h,oB,b4s j k g.2.2.1,e,a6v,b3g];cases hb:a0A (W (rest[i]+b0Y c s out))with
     |true=>
      simp only[cT,bT,cF,a0W (show out.length+1<1000000 by omega),a0C d];refine⟨fun t n=>?_,fun b hb=>(by grind)⟩;simp at n;subst n;exact⟨rfl,by grind⟩
     |false=>
      simp)
    (fun out _=>by simp[a6K]) (a:=warm) (by omega)
   simp[b2k]at this;rw[this];cases a4o (b0Y c s) rest warm<;>rfl
def c3h(out:List Int)(lag:Int):List Int→Nat→Int→Int
 | [],_,acc=>acc
 |t::r,i,acc=>c3h out lag r (i+1) (bif decide (0≤(out.length:Int)-lag-1+i)then W (acc+W (t*out.getD ((out.length:Int)-lag-1+i).toNat 0))else acc)
def a9z(lag:Int)(t:List Int)(out:List Int):Int:=A0o .i64 (c3h out lag t 0 0) 6
theorem c3i{out:List Int}{j:Int}(g:0≤j)(h:j<out.length):m0k out j=some (out.getD j.toNat 0):=by
 obtain⟨n,rfl⟩:=a01 g;simp_all[a0D]
theorem d2r{n:Nat}(h:2≤lag)(g:lag≤1024)(f:n<1000000)(hi:i<3):
  wrap .i64 (wrap .i64 (wrap .i64 ((n:Int)-lag)-1)+(i:Int))=(n:Int)-lag-1+i:=by
 grind[a0B]
theorem c8s{n:Nat}(h:j<n):(l.take n).getD j 0=l.getD j 0:=by
 simp_all
theorem a9b{l t:List Int}{lag:Int}{n:Nat}(m:n≤l.length)(j:short l)(o:t.length=3)(a:2≤lag)(b:lag≤1024):∀(k i:Nat)(acc:Int),i+k=3→
  y0s a4g (l,(n:Int),lag,acc,t,(i:Int),())=some (c3h (l.take n) lag (t.drop i) i acc,())
 |0,i,acc,h=>by
  obtain rfl:i=t.length:=by omega
  grind[a0F,a4g,c3h]
 |k+1,i,acc,h=>by
  have g:i<t.length:=by omega
  have f:decide ((i:Int)<3)=true:=by grind
  have p:l.length<1000000:=j;have d:(l.take n).length=n:=by simp_all
  have e:=d2r (n:=n) (i:=i) a b (by omega) (by omega);rw[a02 g,c3h,d]
  by_cases hp:0≤(n:Int)-lag-1+i
  have c:decide ((n:Int)-lag-1+i≥0)=true:=by simp_all
  simp only[hp,decide_true,cT];rw[c8s (show((n:Int)-lag-1+i).toNat<n by omega),a0E (s':=(l,(n:Int),lag,W (acc+W (t[i]*l.getD ((n:Int)-lag-1+i).toNat 0)),t,((i+1:Nat):Int),())) (by
   simp only[a4g,f,cT,a0D g,oB,e,c,c3i hp (show(n:Int)-lag-1+(i:Int)<(l.length:Int)by omega),a0C (show i<1000000 by omega)])]
  exact a9b m j o a b k (i+1) _ (by omega);have c:decide ((n:Int)-lag-1+i≥0)=false:=by simp_all
  simp[hp];rw[a0E (s':=(l,(n:Int),lag,acc,t,((i+1:Nat):Int),())) (by
   simp only[a4g,f,cT,a0D g,oB,e,c,cF,a0C (show i<1000000 by omega)])]
  exact a9b m j o a b k (i+1) _ (by omega)
theorem b3h{l t:List Int}{lag:Int}{n:Nat}(f:n≤l.length)(k:short l)(a:t.length=3)(h:2≤lag)(g:lag≤1024):
  a4B (l,(n:Int),lag,t)=some (a9z lag t (l.take n)):=by
 have:=a9b (t:=t) f k a h g 3 0 0 (by rfl)
 simp_all[a4B,a9z]
theorem b8k{out:List Int}(f:short out)(k:t.length=3)(h:2≤lag)(g:lag≤1024):a4B (out,(out.length:Int),lag,t)=some (a9z lag t out):=by
 simp_all[b3h]
def b3i(rest:List Int)(lag:Int)(t:List Int):Option (List Int):=bif rest.all a0A then a4o (a9z lag t) rest []else none
theorem c3j{rest:List Int}(d:b1E lag t=true)(e:t.length=3)(m:rest.length<100000):b1q (rest,lag,t)=some (a5j (b3i rest lag t)):=by
 have g:=d;simp only[b1E,bA,dT]at g;have k:short rest:=by unfold short;omega
 unfold b1q;simp only[b3D e,d,oB,bT,cF,b3f k,b3i];cases hw2:rest.all a0A with
 |false=>rfl
 |true=>
  have l:(0:Int)≤((rest.length:Nat):Int):=by omega
  simp[a0W k]
  have:=a1N (f:=a8x) rest (fun i out=>(lag,rest,(rest.length:Int),(i:Int),out,t,())) (b3g (a9z lag t) (Sum.inr ((6:Int),([]:List Int),())))
   (fun i out=>out.length=i) (fun out=>Sum.inl (out,()))
   (fun i h out j=>by
    have b:i<1000000:=by omega
    have c:short out:=by unfold short;omega
    have hp:=b8k (out:=out) (t:=t) (lag:=lag) c e g.1 g.2.1;rw[j]at hp;simp only[a8x,dlt h,cT,a0D h,oB,hp,a8l,b3g];cases hb:a0A (W (rest[i]+a9z lag t out))with
    |true=>
     simp only[cT,bT,cF,a0W (show out.length+1<1000000 by omega),a0C b];simp_all
    |false=>
     simp)
   (fun out _=>by simp[a8x]) (a:=[]) rfl
  simp[b2k]at this;rw[this];cases a4o (a9z lag t) rest []<;>rfl
def b8l{β:Type}(n:Int)(bad:β)(out:List Int)(x:Int):List Int ⊕ β:=bif a0A x&&a0A (A0n .i64 x n)then .inl (out++[A0n .i64 x n])else .inr bad
def upO(n:Int)(l:List Int):Option (List Int):=bif l.all (fun x=>a0A x&&a0A (A0n .i64 x n))then some (l.map fun x=>A0n .i64 x n)else none
theorem b6O{β:Type}(n:Int)(h:β)(g:List Int→β):∀(l out:List Int),a8k g (a2Y (b8l n h) l out)=match upO n l with|some r=>g (out++r)|none=>h
 | [],out=>by simp[a2Y,a8k,upO]
 |x::l,out=>by
  simp only[a2Y,b8l,upO,a07];cases hx:(a0A x&&a0A (A0n .i64 x n))with
  |true=>
   simp only[cT,a39];rw[b6O n h g l _];simp only[upO];cases l.all (fun x=>a0A x&&a0A (A0n .i64 x n))with
   |true=>simp
   |false=>rfl
  |false=>rfl
theorem c3k(d:0≤n)(e:n≤30)(m:l.length<100000):a9i (l,n)=some (a5j (upO n l)):=by
 have c:short l:=by unfold short;omega
 have g:¬ n<0:=by omega
 have b:¬ n > 30:=by omega
 unfold a9i;simp[g,b]
 have:=a1N (f:=a8y) l (fun i out=>(n,l,(l.length:Int),(i:Int),out,())) (b8l n (Sum.inr ((6:Int),([]:List Int),())))
  (fun i out=>out.length=i) (fun out=>Sum.inl (out,()))
  (fun i h out j=>by
   have k:i<1000000:=by omega
   simp only[a8y,dlt h,cT,a0D h,oB,b3Q,b8l,g,decide_false,cF];cases hb:a0A l[i]with
   |true=>
    cases hb2:a0A (A0n .i64 l[i] n)with
    |true=>
     simp only[cT,bT,cF,oB,g,decide_false,a0W (show out.length+1<1000000 by omega),a0C k,a03];simp_all
    |false=>
     simp
   |false=>
    simp)
  (fun out _=>by simp[a8y]) (a:=[]) rfl
 simp[b6O]at this;rw[this];cases upO n l<;>rfl
@[reducible] def Fil:Type:=Int×((List Int)×((List Int)×Unit))
def a2G(x:Int):Int:=v0s (v0r x (-1073741824)) 1073741823
def b8m(x:Int):Int:=v0s (v0r x (-1048576)) 1048576
theorem c3l(x:Int):-1048576≤b8m x∧b8m x≤1048576:=by
 grind[b8m,a9O,b6m]
def c7i:List Int→List Int→Int→Int
 |a::w,b::h,acc=>c7i w h (W (acc+W (a*b)))
 |_,_,acc=>acc
def a1g(f:Fil):Int:=a2G (A0o .i64 (c7i f.2.1 f.2.2.1 0) 16)
structure FilOk (f:Fil):Prop where
 len:f.2.1.length=f.2.2.1.length
 pos:1≤f.2.1.length
 most:f.2.1.length≤32
 rate:0≤f.1∧f.1≤8
 small:∀x∈f.2.1,-1048576≤x∧x≤1048576
theorem b7y(h:i<l.length):a87 l i 0=l[i]:=by
 simp_all
theorem b2K{f:Fil}(c:FilOk f):∀(k i:Nat)(acc:Int),i+k=f.2.1.length→
  y0s a3k (acc,(f.2.1.length:Int),(i:Int),f,())=some (c7i (f.2.1.drop i) (f.2.2.1.drop i) acc,f,())
 |0,i,acc,h=>by
  obtain rfl:i=f.2.1.length:=by omega
  rw[a50,a0F (b:=(acc,f,())) (by simp[a3k])];rfl
 |k+1,i,acc,h=>by
  have g:i<f.2.1.length:=by omega
  have a:i<f.2.2.1.length:=by rw[←c.len];omega
  have e:=c.most;rw[a02 g,a02 a,c7i];have d:decide ((0:Int)≤(i:Int))=true:=by simp
  rw[a0E (s':=(W (acc+W (f.2.1[i]*f.2.2.1[i])),(f.2.1.length:Int),((i+1:Nat):Int),f,())) (by
   simp only[a3k,dlt g,dlt a,d,cT,a03,tN,b7y g,b7y a,a0C (show i<1000000 by omega)])]
  exact b2K c k (i+1) _ (by omega)
theorem a6x{f:Fil}(h:FilOk f):a2h f=some (a1g f,f):=by
 have:=b2K h f.2.1.length 0 0 (by omega)
 simp at this;unfold a2h;simp only[this,oB,a5x];rfl
def b6n(x:Int):Int:=if 0<x then 1 else if x<0 then -1 else 0
def b1F(r:Int)(x g:Int):Int:=b6n (x-g)*2^r.toNat
def b4t(st:Int)(w h:Int):Int:=b8m (W (w+b6n h*st))
def b2n(f:Fil)(x:Int):Fil:=
 (f.1,a31 (b4t (b1F f.1 (a2G x) (a1g f))) f.2.1 f.2.2.1,a2G x::f.2.2.1.take (f.2.2.1.length-1),f.2.2.2)
theorem c3m{f:Fil}(k:FilOk f)(x:Int):FilOk (b2n f x):=by
 obtain⟨a,b,c,g,d⟩:=k;have e:(a31 (b4t (b1F f.1 (a2G x) (a1g f))) f.2.1 f.2.2.1).length=f.2.1.length:=by simp_all
 refine⟨?_,?_,?_,g,?_⟩;show(a31 _ _ _).length=(a2G x::f.2.2.1.take (f.2.2.1.length-1)).length;simp_all;show 1≤(a31 _ _ _).length;omega;show(a31 _ _ _).length≤32;omega;intro y h;have h:y∈a31 (b4t (b1F f.1 (a2G x) (a1g f))) f.2.1 f.2.2.1:=h;obtain⟨i,hi,rfl⟩:=List.mem_iff_getElem.1 h
 simp
 exact c3l _
theorem b3E(x:Int):(0<x∧b6n x=1)∨(x<0∧b6n x=-1)∨(x=0∧b6n x=0):=by
 unfold b6n;omega
theorem b7z{r:Int}(h:0≤r∧r≤8):(2:Int)^r.toNat≤256∧1≤(2:Int)^r.toNat:=by
 have:r.toNat=0∨r.toNat=1∨r.toNat=2∨r.toNat=3∨r.toNat=4∨r.toNat=5∨r.toNat=6∨r.toNat=7∨r.toNat=8:=by omega
 rcases this with e|e|e|e|e|e|e|e|e<;>rw[e]<;>decide
theorem c8t{r:Int}(h:0≤r∧r≤8)(g:-1≤x∧x≤1):A0n .i64 x r=x*2^r.toNat:=by
 have hp:=b7z h;have hb:min r.toNat 64=r.toNat:=by omega
 unfold A0n;show wrap .i64 (x*2^(min r.toNat 64))=_;rw[hb]
 have:x=-1∨x=0∨x=1:=by omega
 rcases this with rfl|rfl|rfl
 all_goals grind[a0B]
theorem c2c{f:Fil}(a:FilOk f)(x:Int):
  (bif decide (a2G x > a1g f)then bif decide (f.1<0)then(none:Option (Int×Int×Fil×Unit))else some (a2G x,A0n .i64 (1:Int) f.1,f,())
   else bif decide (a2G x<a1g f)then bif decide (f.1<0)then none else some (a2G x,wrap .i64 (0-(A0n .i64 (1:Int) f.1)),f,())
   else some (a2G x,(0:Int),f,()))=some (a2G x,b1F f.1 (a2G x) (a1g f),f,()):=by
 have d:¬ f.1<0:=by have:=a.rate;omega
 have hp:=b7z a.rate;have b:=c8t a.rate (x:=1) (by omega);rw[Int.one_mul]at b;rcases b3E (a2G x-a1g f)with⟨c,h⟩|⟨c,h⟩|⟨c,h⟩;have g:a2G x > a1g f:=by omega
 simp only[g,d,decide_true,decide_false,cT,cF,b1F,h,Int.one_mul,b];have g:¬ a2G x > a1g f:=by omega
 have k:a2G x<a1g f:=by omega
 simp only[g,k,d,decide_true,decide_false,cT,cF,b1F,h,b]
 grind[a0B]
 have g:¬ a2G x > a1g f:=by omega
 have k:¬ a2G x<a1g f:=by omega
 simp only[g,k,decide_false,cF,b1F,h,Int.zero_mul]
theorem c9S{z:List Int}(hi:i<l.length)(f:z.length=l.length):(z.take i++l.drop i).set i (z[i]'(by omega))=z.take (i+1)++l.drop (i+1):=by
 have h:(z.take i).length=i:=by grind
 have g:z.take (i+1)=z.take i++[z[i]'(by omega)]:=by simp
 rw[a73 _ _ (by omega),h,a56,a02 hi,a60,g,aA];rfl
theorem c9T{z:List Int}(hi:i<l.length)(h:z.length=l.length):a87 (z.take i++l.drop i) i 0=l[i]:=by
 grind
theorem c8u{f:Fil}(g:FilOk f)(h:i<f.2.1.length):-1048576≤f.2.1[i]∧f.2.1[i]≤1048576:=g.small _ (a05 h)
theorem b8n{f:Fil}(n:FilOk f){x1 st:Int}(t:-256≤st∧st≤256):
  y0s a2E (x1,st,(f.2.2.1.length:Int),(0:Int),f,())=some (x1,(f.1,a31 (b4t st) f.2.1 f.2.2.1,f.2.2),()):=by
 obtain⟨z,v⟩:∃z,a31 (b4t st) f.2.1 f.2.2.1=z:=⟨_,rfl⟩;have p:=n.len;have d:z.length=f.2.1.length:=by grind
 have u:=n.most
 have:=a1D (f:=a2E) (fun i=>(x1,st,(f.2.2.1.length:Int),(i:Int),(f.1,z.take i++f.2.1.drop i,f.2.2),()))
  f.2.2.1.length (b:=(x1,(f.1,z,f.2.2),())) (fun i hi=>by
   have k:i<f.2.1.length:=by omega
   have j:decide ((0:Int)≤(i:Int))=true:=by simp
   have r:(z.take i++f.2.1.drop i).length=f.2.1.length:=by grind
   have g:decide ((i:Int)<((z.take i++f.2.1.drop i).length:Int))=true:=by simp_all
   have o:z[i]'(by omega)=b4t st f.2.1[i] f.2.2.1[i]:=by grind
   have s:=c8u n k;have h:=c9S k d;rw[o]at h;simp only[a2E,dlt hi,j,g,cT,a03,tN,b7y hi,c9T k d];rcases b3E f.2.2.1[i]with⟨m,a⟩|⟨m,a⟩|⟨m,a⟩;have c:f.2.2.1[i] > 0:=m;simp[b4t,a]at h;simp only[c,decide_true,cT,oB,j,g,a03,tN,a0C (show i<1000000 by omega)];exact congrArg (fun l=>some (Sum.inl (x1,st,(f.2.2.1.length:Int),((i+1:Nat):Int),(f.1,l,f.2.2),()))) h;have c:¬ f.2.2.1[i] > 0:=by omega
   have e:f.2.1[i]+-1*st=f.2.1[i]-st:=by omega
   simp only[b4t,a,e]at h;simp only[c,m,decide_true,decide_false,cT,cF,oB,j,g,a03,tN,a0C (show i<1000000 by omega)];exact congrArg (fun l=>some (Sum.inl (x1,st,(f.2.2.1.length:Int),((i+1:Nat):Int),(f.1,l,f.2.2),()))) h;have c:¬ f.2.2.1[i] > 0:=by omega
   have q:¬ f.2.2.1[i]<0:=by omega
   have e:W (f.2.1[i]+0*st)=f.2.1[i]:=by rw[Int.zero_mul,Int.add_zero];exact a0B (by omega)
   simp only[b4t,a,e]at h;simp only[c,q,decide_false,cF,oB,j,g,cT,a03,tN,a0C (show i<1000000 by omega)];exact congrArg (fun l=>some (Sum.inl (x1,st,(f.2.2.1.length:Int),((i+1:Nat):Int),(f.1,l,f.2.2),()))) h)
  (by
   simp_all[a48,a2E])
 simp_all
theorem c5r{f:Fil}(k:FilOk f)(x g:Int):-256≤b1F f.1 x g∧b1F f.1 x g≤256:=by
 have hp:=b7z k.rate;unfold b1F;rcases b3E (x-g)with⟨-,h⟩|⟨-,h⟩|⟨-,h⟩<;>rw[h]<;>omega
theorem b5j{f:Fil}(h:FilOk f)(x:Int):a3n (f,x)=some (b2n f x):=by
 unfold a3n;have d:=c2c h x;simp only[a5x,oB,a6x h];have g:(bif decide (v0s (v0r x (-1073741824)) 1073741823 > a1g f)then bif decide (f.1<0)then(none:Option (Int×Int×Fil×Unit))else some (v0s (v0r x (-1073741824)) 1073741823,A0n .i64 (1:Int) f.1,f,())
   else bif decide (v0s (v0r x (-1073741824)) 1073741823<a1g f)then bif decide (f.1<0)then none else some (v0s (v0r x (-1073741824)) 1073741823,wrap .i64 (0-(A0n .i64 (1:Int) f.1)),f,())
   else some (v0s (v0r x (-1073741824)) 1073741823,(0:Int),f,()))=_:=d
 rw[g];simp only[oB,b8n h (c5r h _ _)];have i:f.2.2.1.length≥1:=by have:=h.pos;have:=h.len;omega
 have b:decide ((1:Int)≤((f.2.2.1.length:Nat):Int))=true:=by grind
 have e:p0h f.2.2.1 1 (f.2.2.1.length-1) f.2.2.1=f.2.2.1.take 1++f.2.2.1.take (f.2.2.1.length-1):=by
  simp_all[p0h]
 have j:(f.2.2.1.take 1++f.2.2.1.take (f.2.2.1.length-1)).length=f.2.2.1.length:=by simp_all
 have c:decide ((0:Int)<(((f.2.2.1.take 1++f.2.2.1.take (f.2.2.1.length-1)).length:Nat):Int))=true:=by grind
 simp only[b,cT,e,c];congr 1;have k:(f.2.2.1.take 1++f.2.2.1.take (f.2.2.1.length-1)).set 0 (a2G x)=a2G x::f.2.2.1.take (f.2.2.1.length-1):=by
  cases hc:f.2.2.1 with
  |nil=>simp_all
  |cons a l=>simp
 rw[k];rfl
@[reducible] def Stg:Type:=Int×(Int×Unit)
variable {st:List Stg}
theorem a8n{l:List Int}(h:short l):a1e l=some l:=by
 have g:lim (0+l.length)=true:=a0W (by unfold short at h;omega);simp_all[a1e,x0e]
def b0Z(s:Stg):Fil:=(s.2.1,a00 s.1.toNat 0,a00 s.1.toNat 0,())
theorem c5T{s:Stg}(h:stageB s=true):FilOk (b0Z s):=by
 simp[stageB]at h;refine⟨by rfl,by simp[b0Z];omega,by simp[b0Z];omega,⟨h.2.2.1,h.2.2.2⟩,fun x g=>?_⟩;simp_all[b0Z]
theorem b2L{s:Stg}(h:stageB s=true):a9h s=some (b0Z s,0):=by
 have g:=h;simp[stageB]at g;unfold a9h;have f:decide ((0:Int)≤s.1)=true:=by grind
 have k:decide (s.1≤s.1)=true:=by simp
 have a:lim s.1.toNat=true:=a0W (by omega);simp only[b0X,h,oB,bT,cF,f,k,a,a03,cT];rfl
def stO:List Int→List Int→Fil→Option (List Int)
 | [],done,_=>some done
 |r::rs,done,f=>bif a0A (W (a1g f+r))then stO rs (done++[W (a1g f+r)]) (b2n f (W (a1g f+r)))else none
theorem b4u:∀(l done:List Int)(f:Fil){r},stO l done f=some r→r.length=done.length+l.length
 | [],done,f,r,h=>by simp_all[stO]
 |x::l,done,f,r,h=>by
  simp[stO]at h;cases hw:a0A (W (a1g f+x))with
  |true=>rw[hw]at h;rw[b4u l _ _ h];grind
  |false=>simp_all
theorem b3j{done:List Int}(g:done.length=i)(h:i<row.length):a87 (done++row.drop i) i 0=row[i]:=by
 grind
theorem c3n{done:List Int}(g:done.length=i)(h:i<row.length)(y:Int):(done++row.drop i).set i y=(done++[y])++row.drop (i+1):=by
 rw[a73 _ _ (by omega),g,a56,a02 h,a60,aA];rfl
theorem b3k{row b4:List Int}{b5:Int}(d:short row):∀(k i:Nat)(done:List Int)(f:Fil),i+k=row.length→done.length=i→FilOk f→
  ∃z,y0s a5y ((row.length:Int),(i:Int),b4,b5,done++row.drop i,f,())=some z∧
   match stO (row.drop i) done f with
   |some r=>z=.inl (b4,b5,r,())
   |none=>∃q,z=.inr (([]:List Int),(6:Int),q,())
 |0,i,done,f,h,hd,hf=>by
  obtain rfl:i=row.length:=by omega
  rw[a50,a40];exact⟨_,a0F (b:=Sum.inl (b4,b5,done,())) (by simp[a5y]),rfl⟩
 |k+1,i,done,f,h,hd,hf=>by
  have hi:i<row.length:=by omega
  have e:row.length<1000000:=d;have a:decide ((0:Int)≤(i:Int))=true:=by simp
  have j:(done++row.drop i).length=row.length:=by grind
  have c:decide ((i:Int)<(((done++row.drop i).length:Nat):Int))=true:=by simp_all
  have g:stO (row.drop i) done f=bif a0A (W (a1g f+row[i]))then stO (row.drop (i+1)) (done++[W (a1g f+row[i])]) (b2n f (W (a1g f+row[i])))else none:=by
   rw[a02 hi];rfl
  rw[g];cases hw:a0A (W (a1g f+row[i]))with
  |true=>
   rw[a0E (s':=((row.length:Int),((i+1:Nat):Int),b4,b5,(done++[W (a1g f+row[i])])++row.drop (i+1),b2n f (W (a1g f+row[i])),())) (by
    simp only[a5y,dlt hi,a,c,cT,a03,a6x hf,oB,tN,b3j hd hi,a5p,hw,bT,cF,b5j hf,c3n hd hi,a0C (show i<1000000 by omega)])]
   exact b3k d k (i+1) _ _ (by omega) (by simp_all) (c3m hf _)
  |false=>
   exact⟨_,a0F (b:=Sum.inr (([]:List Int),(6:Int),done++row.drop i,())) (by
    simp only[a5y,dlt hi,a,c,cT,a03,a6x hf,oB,tN,b3j hd hi,a5p,hw,a36]),_,rfl⟩
def lO:List Stg→List Int→Option (List Int)
 | [],row=>some row
 |s::r,row=>match stO row [] (b0Z s)with
  |some row'=>lO r row'
  |none=>none
theorem c5s{s:Stg}{b4:List Int}(h:stageB s=true)(b:short row):
  ∃z,a7Q k s (st,b4,(0:Int),row,())=some z∧match stO row [] (b0Z s)with
   |some r=>z=.inl (st,b4,(0:Int),r,())
   |none=>∃q,z=.inr (.ret,st,([]:List Int),(6:Int),q,()):=by
 obtain⟨z,g,f⟩:=b3k (b4:=b4) (b5:=0) b row.length 0 [] (b0Z s) (by omega) rfl (c5T h);simp at g f;unfold a7Q;have a:((0:Int) != 0)=false:=rfl;simp[b2L h,g];cases hst:stO row [] (b0Z s)with
 |some r=>
  simp_all
 |none=>
  grind
theorem b6P{st l:List Stg}{b4:List Int}(f:∀s∈l,stageB s=true):∀(n:Nat)(row:List Int),n≤l.length→short row→
  ∃z,l0f a7Q l n (st,b4,(0:Int),row,())=some z∧match lO (l.take n).reverse row with
   |some r=>z=.inl (st,b4,(0:Int),r,())
   |none=>∃q,z=.inr (.ret,st,([]:List Int),(6:Int),q,())
 |0,row,_,_=>⟨_,rfl,rfl⟩
 |n+1,row,hn,hs=>by
  have h:n<l.length:=by omega
  obtain⟨z,a,g⟩:=c5s (st:=st) (k:=(n:Int)) (b4:=b4) (f _ (a05 h)) hs;have b:(l.take (n+1)).reverse=l[n]::(l.take n).reverse:=by simp
  simp[l0f,lG h,a,b,lO];cases hst:stO row [] (b0Z l[n])with
  |some r=>
   rw[hst]at g;simp at g;subst g;exact b6P f n r (by omega) (by have:=b4u _ _ _ hst;unfold short at hs⊢;simp_all)
  |none=>
   grind
def b1R(rest:List Int)(st:List Stg):Option (List Int):=bif rest.all a0A then lO st.reverse rest else none
theorem c2d{rest:List Int}(a:a9p st=true)(c:rest.length<100000):a9W (rest,st)=some (a5j (b1R rest st)):=by
 have f:=a;simp only[a9p,bA,dT]at f;have k:short st:=by unfold short;omega
 have h:short rest:=by unfold short;omega
 unfold a9W;simp only[b2I k,a,oB,bT,cF,b2H h,b1R];cases hw:rest.all a0A with
 |false=>rfl
 |true=>
  obtain⟨z,b,g⟩:=b6P (st:=st) (b4:=[]) (lA.1 f.2) st.length rest (a27 _) h;rw[a19]at g;simp[a8n h,a0W k,b];cases hst:lO st.reverse rest with
  |some r=>
   rw[hst]at g;simp at g;subst g;rfl
  |none=>
   rw[hst]at g;obtain⟨q,rfl⟩:=g;rfl
def a6y(n warm:Int):Bool:=decide (1≤n)&&(decide (n≤4096)&&(decide (0≤warm)&&decide (warm≤n)))
theorem b2M(n warm:Int):a7A (n,warm)=some (a6y n warm):=by
 grind[a7A,a6y]
theorem d3T(h:o≤8):1≤2^o∧2^o≤256:=by
 have:o=0∨o=1∨o=2∨o=3∨o=4∨o=5∨o=6∨o=7∨o=8:=by omega
 grind
theorem c3o(h:o≤64):A0o .i64 (N:Int) (o:Int)=((N / 2^o:Nat):Int):=by
 unfold A0o;show a80 (N:Int) (2^(min (o:Int).toNat 64))=_
 grind
theorem b7A(h:o≤64)(g:N*2^o<9223372036854775808):A0n .i64 (N:Int) (o:Int)=((N*2^o:Nat):Int):=by
 unfold A0n;show wrap .i64 ((N:Int)*2^(min (o:Int).toNat 64))=_
 grind[a0B]
def b3S(o N:Nat)(warm:Int):List Int:=
 if N%2^o=0∧warm≤((N / 2^o:Nat):Int)then(((N / 2^o:Nat):Int)-warm)::a00 (2^o-1) ((N / 2^o:Nat):Int)else[]
def a1S(order n warm:Int):List Int:=bif a6y n warm&&(decide (0≤order)&&decide (order≤8))then b3S order.toNat n.toNat warm else[]
theorem a2l(order n warm:Int):a3h (order,n,warm)=some (a1S order n warm):=by
 unfold a3h a1S;simp only[b2M,oB];cases hr:a6y n warm with
 |false=>rfl
 |true=>
  simp[a6y]at hr;simp only[bT,cF,a39]
  by_cases h1:order<0
  grind
  by_cases h2:order > 8
  grind
  obtain⟨o,rfl⟩:=a01 (show 0≤order by omega);obtain⟨N,rfl⟩:=a01 (show 0≤n by omega);have p:o≤8:=by omega
  have q:N≤4096:=by omega
  have hp:=d3T p;have m:N / 2^o*2^o≤N:=a78 N _;have l:(0:Int)≤(o:Int):=by omega
  have g8:(o:Int)≤8:=by omega
  simp only[h1,h2,l,g8,decide_true,decide_false,cF,cT,a03,oB,c3o (N:=N) (show o≤64 by omega),b7A (N:=N / 2^o) (show o≤64 by omega) (by omega),tN];have g:=a70 N (2^o);rw[a57]at g
  by_cases hm:N%2^o=0
  have k:(((N / 2^o*2^o:Nat):Int) != (N:Int))=false:=by simp_all
  by_cases hw:warm≤((N / 2^o:Nat):Int)
  have c:decide (((N / 2^o:Nat):Int)<warm)=false:=decide_eq_false (Int.not_lt.2 hw);have e:wrap .i64 (((N / 2^o:Nat):Int)-warm)=((N / 2^o:Nat):Int)-warm:=a0B (by have:=a32 N (2^o);omega);simp only[k,c,e,cF,oB,b3S,hm,hw,and_self,if_true];have d:A0n .i64 (1:Int) (o:Int)=((2^o:Nat):Int):=by have:=b7A (N:=1) (show o≤64 by omega) (by omega);simp_all
  have:=a1D (f:=a6J) (fun i=>((o:Int),((N / 2^o:Nat):Int),(((N / 2^o:Nat):Int)-warm)::a00 i ((N / 2^o:Nat):Int),())) (2^o-1)
   (b:=((((N / 2^o:Nat):Int)-warm)::a00 (2^o-1) ((N / 2^o:Nat):Int),())) (fun i hi=>by
    have a:decide ((((((N / 2^o:Nat):Int)-warm)::a00 i ((N / 2^o:Nat):Int)).length:Int)<((2^o:Nat):Int))=true:=by
     grind
    have h:lim (((((N / 2^o:Nat):Int)-warm)::a00 i ((N / 2^o:Nat):Int)).length+1)=true:=a0W (by grind);have j:a00 i ((N / 2^o:Nat):Int)++[((N / 2^o:Nat):Int)]=a00 (i+1) ((N / 2^o:Nat):Int):=by grind[a53]
    simp only[a6J,h1,decide_false,cF,d,a,cT,h,a06,a65,j])
   (by
    have a:decide ((((((N / 2^o:Nat):Int)-warm)::a00 (2^o-1) ((N / 2^o:Nat):Int)).length:Int)<((2^o:Nat):Int))=false:=by
     simp_all
    simp only[a6J,h1,decide_false,cF,d,a])
  simp_all;have c:decide (((N / 2^o:Nat):Int)<warm)=true:=decide_eq_true (Int.not_le.1 hw);simp_all[b3S];have k:(((N / 2^o*2^o:Nat):Int) != (N:Int))=true:=by grind
  simp only[k,cT,oB,b3S,hm,false_and,if_false]
@[reducible] def Prt:Type:=Int×((List Int)×Unit)
variable {p:Prt}
def kB(k:Int):Bool:=(decide (0≤k)&&decide (k≤25)) || (k==31)
def a5K(p:Prt)(n warm:Int):Bool:=!((a1S p.1 n warm).length==0)&&((a1S p.1 n warm).length==p.2.1.length&&p.2.1.all kB)
theorem b2N(g:short p.2.1):a9g (p,n,warm)=some (a5K p n warm):=by
 have:=a2c (f:=a4z) p.2.1 (fun i=>(p.2.1,(p.2.1.length:Int),(i:Int),())) kB (bt:=Sum.inl ()) (bf:=Sum.inr (false,()))
  (fun i h hp=>by
   simp[kB]at hp
   by_cases h1:p.2.1[i]<0
   omega
   by_cases h2:p.2.1[i] > 25
   have b:p.2.1[i]=31:=by omega
   have a:(p.2.1[i] != 31)=false:=by simp_all
   simp[a4z,a0D h,h,h1,h2,a,a0C (a18 h g)];simp[a4z,a0D h,h,h1,h2,a0C (a18 h g)])
  (fun i h hp=>by
   have hp:¬ (kB p.2.1[i]=true):=by simp_all
   simp only[kB,a99,bA,dT,beq_iff_eq]at hp
   grind[a4z,a0D])
  (by simp[a4z])
 simp at this;unfold a9g a5K;simp[a2l]
 by_cases h0:(a1S p.1 n warm).length=0
 simp_all
 ·have e:((((a1S p.1 n warm).length:Nat):Int)==0)=false:=by simp_all
  have k:((a1S p.1 n warm).length==0)=false:=by simp_all
  simp[e,k]
  by_cases h1:(a1S p.1 n warm).length=p.2.1.length
  all_goals grind
@[reducible] def Sub:Type:=Int×(Int×(Int×(Int×(Int×((List Int)×((List Int)×((List Stg)×((List Int)×(Prt×((List Int)×Unit))))))))))
variable {s:Sub}
structure SmallS (s:Sub):Prop where
 coefs:s.2.2.2.2.2.1.length≤40
 taps:s.2.2.2.2.2.2.1.length=3
 stages:s.2.2.2.2.2.2.2.1.length≤6
 warm:s.2.2.2.2.2.2.2.2.1.length≤5000
 rest:s.2.2.2.2.2.2.2.2.2.2.1.length≤5000
 ks:s.2.2.2.2.2.2.2.2.2.1.2.1.length≤300
theorem b2O(x y:List Int):eqT (.arr 3 (.int .i64)) x y=decide (x=y):=by
 show((a31 (fun(a b:Int)=>a==b) x y).all id&&x.length==y.length)=_
 induction x generalizing y with
 |nil=>cases y<;>simp
 |cons a x ih=>
  cases y with
  |nil=>simp
  |cons b y=>
   grind[List.zipWith_cons_cons]
theorem b2o{l:List Int}(h:short l):a2I l=some l:=a8n h
theorem b6Q{l:List Stg}(h:short l):a1n l=some l:=by
 have g:lim (0+l.length)=true:=a0W (by unfold short at h;omega);simp_all[a1n,x0e]
def a4c(k:Int)(s:Sub)(n:Int):Prop:=
 k=0∨k=1∨(k=2∧0≤s.2.2.1∧s.2.2.1≤4∧s.2.2.1≤n)∨(k=3∧a9G s.2.2.2.2.2.1 s.2.2.2.1=true∧(s.2.2.2.2.2.1.length:Int)≤n)∨
  (k=4∧a9G s.2.2.2.2.2.1 s.2.2.2.1=true∧(s.2.2.2.2.2.1.length:Int)≤n∧b1E s.2.2.2.2.1 s.2.2.2.2.2.2.1=true)∨
  (k=5∧0<s.2.2.2.2.2.2.2.1.length∧a9p s.2.2.2.2.2.2.2.1=true)
open Classical in
def b2P (k:Int) (s:Sub) (n:Int):Bool:=decide (a4c k s n)
theorem b3T{s:Sub}(h:SmallS s)(k n:Int):a8c (k,s,n)=some (b2P k s n):=by
 have a:short s.2.2.2.2.2.1:=by have:=h.coefs;unfold short;omega
 have b:short s.2.2.2.2.2.2.2.1:=by have:=h.stages;unfold short;omega
 unfold a8c b2P a4c
 by_cases k0:k=0
 simp_all
 by_cases k1:k=1
 simp_all;have g:(k==0)=false:=by grind
 have f:(k==1)=false:=by grind
 simp only[g,f,cF,oB]
 by_cases k2:k=2
 subst k2
 grind
 by_cases k3:k=3
 subst k3
 grind[a9y]
 by_cases k4:k=4
 subst k4;cases hl:a9G s.2.2.2.2.2.1 s.2.2.2.1<;>by_cases h2:(s.2.2.2.2.2.1.length:Int)≤n<;>simp[a9y a,b3D h.taps,hl,h2]
 by_cases k5:k=5
 ·subst k5
  by_cases h1:0<s.2.2.2.2.2.2.2.1.length
  all_goals simp_all[b2I]
 grind
def a2x(s:Sub)(n:Int):Int:=if s.1=0 then 1 else if s.1=1 then n else if s.1=2 then s.2.2.1 else if s.1=3∨s.1=4 then(s.2.2.2.2.2.1.length:Int)else 0
theorem b1S(s:Sub)(n:Int):a4K (s,n)=some (a2x s n):=by
 grind[a4K,a2x]
def b3U(s:Sub):Prop:=
 (s.1≠2→s.2.2.1=0)∧(s.1≠3∧s.1≠4→s.2.2.2.1=0)∧(s.1≠4→s.2.2.2.2.1=0)∧(s.1≠4→s.2.2.2.2.2.2.1=[0,0,0])∧(s.1≠3∧s.1≠4→s.2.2.2.2.2.1=[])∧(s.1≠5→s.2.2.2.2.2.2.2.1=[])
open Classical in
def b3V (s:Sub):Bool:=decide (b3U s)
theorem b1a{c x:Bool}:(bif c then some x else some false)=some (c&&x):=by grind
theorem d3U{α:Type}(l:List α):(((l.length:Nat):Int)==0)=decide (l=[]):=by
 cases l with
 |nil=>rfl
 |cons a l=>rfl
theorem b9N(x:Int):(x==0)=decide (x=0):=rfl
theorem c3p{s:Sub}(h:SmallS s):b1p s=some (b3V s):=by
 have e:short s.2.2.2.2.2.1:=by have:=h.coefs;unfold short;omega
 have g:short s.2.2.2.2.2.2.2.1:=by have:=h.stages;unfold short;omega
 obtain⟨k,w,o,sh,lag,c,t,st,j,p,r,u⟩:=s;simp only at e g;unfold b1p a6l b3V b3U;have i:(a00 3 (0:Int))=[0,0,0]:=rfl
 by_cases k2:k=2
 simp_all[b2O,b1a,b9N]
 by_cases k4:k=4
 simp_all[b2O,b1a,b9N,b2o]
 by_cases k3:k=3
 simp_all[b2O,b1a,b9N,b2o]
 by_cases k5:k=5
 simp_all[b2O,b1a,b9N,b6Q];have f:(k==2)=false:=by grind
 have a:(k==3)=false:=by grind
 have b:(k==4)=false:=by grind
 have d:(k==5)=false:=by grind
 simp[f,a,b,d,k2,k3,k4,k5,b2O,i,b1a,d3U,b9N]
theorem a6E(k:Int):a6j k=some (decide (k≠0∧k≠1)):=by
 unfold a6j
 by_cases h0:k=0
 simp_all
 ·by_cases h1:k=1
  all_goals grind
def a1v(s:Sub)(n:Int):Prop:=
 1≤n∧n≤4096∧a4c s.1 s n∧b3U s∧0≤s.2.1∧s.2.1≤30∧(s.1=0→s.2.1=0)∧(s.2.2.2.2.2.2.2.2.1.length:Int)=a2x s n∧s.2.2.2.2.2.2.2.2.1.all a0A=true∧s.2.2.2.2.2.2.2.2.2.2.1.all a0A=true∧
  (s.1=0∨s.1=1→s.2.2.2.2.2.2.2.2.2.2.1=[]∧s.2.2.2.2.2.2.2.2.2.1.1=0∧s.2.2.2.2.2.2.2.2.2.1.2.1=[])∧
  (s.1≠0∧s.1≠1→(s.2.2.2.2.2.2.2.2.2.2.1.length:Int)=n-a2x s n∧a5K s.2.2.2.2.2.2.2.2.2.1 n (a2x s n)=true)
theorem c5t(h:SmallS s)(a:1≤n)(b:n≤4096)(f:a4c s.1 s n):0≤a2x s n∧a2x s n≤4096:=by
 have c:=h.coefs;unfold a2x;rcases f with k|k|⟨k,g⟩|⟨k,g⟩|⟨k,g⟩|⟨k,g⟩<;>simp[k]<;>omega
open Classical in
theorem c8v {s:Sub} (h:SmallS s) (n:Int):a9T (s,n)=some (decide (a1v s n)):=by
 have hw:short s.2.2.2.2.2.2.2.2.1:=by have:=h.warm;unfold short;omega
 have hr:short s.2.2.2.2.2.2.2.2.2.2.1:=by have:=h.rest;unfold short;omega
 have hk:short s.2.2.2.2.2.2.2.2.2.1.2.1:=by have:=h.ks;unfold short;omega
 unfold a9T
 by_cases h1:1≤n
 rotate_left
 ·have e1:decide (n<1)=true:=by simp_all
  have:¬ a1v s n:=fun hp=>h1 hp.1
  simp_all
 have e1:decide (n<1)=false:=by simp_all
 by_cases h2:n≤4096
 rotate_left
 ·have e2:decide (n > 4096)=true:=by simp_all
  have:¬ a1v s n:=fun hp=>h2 hp.2.1
  simp_all
 have e2:decide (n > 4096)=false:=by simp_all
 by_cases h3:a4c s.1 s n
 rotate_left
 ·have e3:b2P s.1 s n=false:=by simp[b2P,h3]
  have:¬ a1v s n:=fun hp=>h3 hp.2.2.1
  simp_all[b3T]
 have e3:b2P s.1 s n=true:=by simp[b2P,h3]
 by_cases h4:b3U s
 rotate_left
 ·have e4:b3V s=false:=by simp[b3V,h4]
  have:¬ a1v s n:=fun hp=>h4 hp.2.2.2.1
  simp_all[b3T,c3p]
 have e4:b3V s=true:=by simp[b3V,h4]
 simp only[e1,e2,b3T h,e3,c3p h,e4,cF,bT,oB]
 by_cases h5:0≤s.2.1
 rotate_left
 ·have e5:decide (s.2.1<0)=true:=by simp_all
  have:¬ a1v s n:=fun hp=>h5 hp.2.2.2.2.1
  simp_all
 have e5:decide (s.2.1<0)=false:=by simp_all
 by_cases h6:s.2.1≤30
 rotate_left
 ·have e6:decide (s.2.1 > 30)=true:=by simp_all
  have:¬ a1v s n:=fun hp=>h6 hp.2.2.2.2.2.1
  simp_all
 have e6:decide (s.2.1 > 30)=false:=by simp_all
 simp only[e5,e6,cF]
 by_cases h7:s.1=0→s.2.1=0
 rotate_left
 ·have h7a:s.1=0:=Classical.byContradiction fun hc=>h7 fun e=>absurd e hc
  have h7b:(s.2.1 != 0)=true:=by
   simp_all
  have e7:(s.1==0)=true:=by simp_all
  have:¬ a1v s n:=fun hp=>h7 hp.2.2.2.2.2.2.1
  grind
 have e7:(bif s.1==0 then some (n,(s.2.1 != 0,(s,())))else some (n,(false,(s,()))))=some (n,(false,(s,()))):=by
  grind
 simp only[e7,oB,cF,b1S]
 by_cases h8:(s.2.2.2.2.2.2.2.2.1.length:Int)=a2x s n
 rotate_left
 ·have e8:(((s.2.2.2.2.2.2.2.2.1.length:Nat):Int) != a2x s n)=true:=by simp_all
  have:¬ a1v s n:=fun hp=>h8 hp.2.2.2.2.2.2.2.1
  grind
 have e8:(((s.2.2.2.2.2.2.2.2.1.length:Nat):Int) != a2x s n)=false:=by simp_all
 simp only[e8,cF,a4G hw,a4G hr,oB]
 cases h9:s.2.2.2.2.2.2.2.2.1.all a0A with
 |false=>
  have:¬ a1v s n:=fun hp=>by rw[hp.2.2.2.2.2.2.2.2.1]at h9;grind
  simp_all
 |true=>
  cases h10:s.2.2.2.2.2.2.2.2.2.2.1.all a0A with
  |false=>
   have:¬ a1v s n:=fun hp=>by rw[hp.2.2.2.2.2.2.2.2.2.1]at h10;grind
   simp_all
  |true=>
   simp only[bT,cF,oB,a6E]
   have hwr:=c5t h h1 h2 h3
   by_cases k01:s.1≠0∧s.1≠1
   ·have e11:wrap .i64 (n-a2x s n)=n-a2x s n:=a0B (by omega)
    simp[k01,e11,b2N hk]
    by_cases h11:(s.2.2.2.2.2.2.2.2.2.2.1.length:Int)=n-a2x s n
    ·have e12:(((s.2.2.2.2.2.2.2.2.2.2.1.length:Nat):Int)==n-a2x s n)=true:=by simp_all
     simp only[e12,cT]
     congr 1
     rw[b00,dT]
     constructor
     ·intro hp
      exact⟨h1,h2,h3,h4,h5,h6,h7,h8,h9,h10,fun hc=>absurd hc (by omega),fun _=>⟨h11,hp⟩⟩
     ·intro hp;exact(hp.2.2.2.2.2.2.2.2.2.2.2 k01).2
    ·have e12:(((s.2.2.2.2.2.2.2.2.2.2.1.length:Nat):Int)==n-a2x s n)=false:=by simp_all
     have:¬ a1v s n:=fun hp=>h11 (hp.2.2.2.2.2.2.2.2.2.2.2 k01).1
     grind
   ·have k01':s.1=0∨s.1=1:=by omega
    simp[k01,d3U]
    simp only[b9N,b1a]
    congr 1
    rw[b00,dT]
    simp
    constructor
    ·rintro⟨g1,g2,g3⟩
     exact⟨h1,h2,h3,h4,h5,h6,h7,h8,h9,h10,fun _=>⟨g1,g2,g3⟩,fun hc=>absurd hc k01⟩
    ·intro hp;exact hp.2.2.2.2.2.2.2.2.2.2.1 k01'
theorem b8o{α:Type}[DecidableEq α](q:α→α→Bool)(g:∀a b,q a b=decide (a=b)):∀(x y:List α),x.length=y.length→((x.zip y).all fun p=>q p.1 p.2)=decide (x=y)
 | [],[],_=>by simp
 |a::x,b::y,h=>by
  have f:=b8o q g x y (by simp_all);simp_all
theorem c5u{x y:List Int}(h:short x):a7r (x,y)=some (decide (x=y)):=by
 unfold a7r
 by_cases hl:x.length=y.length
 have e:(((x.length:Nat):Int) != ((y.length:Nat):Int))=false:=by simp_all
 have j:(x.zip y).length=x.length:=by simp_all
 have:=a2c (f:=a4T) (x.zip y) (fun i=>(x,y,(i:Int),())) (fun p=>p.1==p.2) (bt:=Sum.inl ()) (bf:=Sum.inr (false,()))
  (fun i hi hp=>by
   have k:i<x.length:=by omega
   have c:i<y.length:=by omega
   rw[a91]at hp;have hp:x[i]=y[i]:=by simp_all
   have g:(x[i] != y[i])=false:=by simp_all
   simp only[a4T,dlt k,cT,a0D k,a0D c,oB,g,cF,a0C (a18 k h)])
  (fun i hi hp=>by
   have k:i<x.length:=by omega
   have c:i<y.length:=by omega
   rw[a91]at hp;have g:(x[i] != y[i])=true:=by simp_all
   simp only[a4T,dlt k,cT,a0D k,a0D c,oB,g])
  (by simp_all[a4T])
 simp at this;simp only[e,cF,this,b8o (fun(a b:Int)=>a==b) (fun _ _=>rfl) x y hl]
 grind
 have e:(((x.length:Nat):Int) != ((y.length:Nat):Int))=true:=by grind
 have:¬ x=y:=fun d=>hl (by grind)
 grind
theorem c8w(h:a4c k s n):k=0∨k=1∨k=2∨k=3∨k=4∨k=5:=by
 unfold a4c at h;omega
def b7B(warm rest:List Int)(o:Int):Option (List Int):=bif warm.all a0A&&rest.all a0A then a4o (a6w o.toNat) rest warm else none
def backP(s:Sub):Option (List Int):=
 if s.1=1 then some s.2.2.2.2.2.2.2.2.1
 else if s.1=2 then b7B s.2.2.2.2.2.2.2.2.1 s.2.2.2.2.2.2.2.2.2.2.1 s.2.2.1
 else if s.1=3 then b2J s.2.2.2.2.2.2.2.2.1 s.2.2.2.2.2.2.2.2.2.2.1 s.2.2.2.2.2.1 s.2.2.2.1
 else if s.1=4 then(b2J s.2.2.2.2.2.2.2.2.1 s.2.2.2.2.2.2.2.2.2.2.1 s.2.2.2.2.2.1 s.2.2.2.1).bind fun l=>b3i l s.2.2.2.2.1 s.2.2.2.2.2.2.1
 else b1R s.2.2.2.2.2.2.2.2.2.2.1 s.2.2.2.2.2.2.2.1
def c3q(s:Sub)(n:Int):Option (List Int):=
 if s.1=0 then some (a00 n.toNat (s.2.2.2.2.2.2.2.2.1.getD 0 0))else(backP s).bind (upO s.2.1)
theorem b3F{w r c:List Int}{s:Int}{l}(h:b2J w r c s=some l):l.length=w.length+r.length:=by
 unfold b2J at h;cases hc:(w.all a0A&&r.all a0A)with
 |false=>simp_all
 |true=>
  rw[hc]at h;exact(b2l _ r w l (a76.1 hc).1 h).2
theorem c5v{w r:List Int}{o:Int}{l}(h:b7B w r o=some l):l.length=w.length+r.length:=by
 unfold b7B at h;cases hc:(w.all a0A&&r.all a0A)with
 |false=>simp_all
 |true=>
  rw[hc]at h;exact(b2l _ r w l (a76.1 hc).1 h).2
theorem c3r{l}(h:b3i r lag t=some l):l.length=r.length:=by
 unfold b3i at h;cases hc:r.all a0A with
 |false=>simp_all
 |true=>
  rw[hc]at h
  have:=(b2l _ r [] l rfl h).2
  simp_all
theorem c0L:∀(st:List Stg)(r:List Int){l},lO st r=some l→l.length=r.length
 | [],r,l,h=>by simp_all[lO]
 |s::st,r,l,h=>by
  simp only[lO]at h
  split at h
  rename_i f g;rw[c0L st f h,b4u _ _ _ g];simp;cases h
theorem c2e{r:List Int}{st:List Stg}{l}(h:b1R r st=some l):l.length=r.length:=by
 grind[b1R,c0L]
theorem c3s(h:SmallS s){l}(g:backP s=some l):l.length<100000:=by
 have b:=h.warm;have a:=h.rest;unfold backP at g
 split at g
 grind
 split at g
 grind[c5v]
 split at g
 grind[b3F]
 split at g
 obtain⟨l1,f,k⟩:=a44.1 g;rw[c3r k,b3F f];omega
 grind[c2e]
theorem c8x(a:1≤n)(c:n≤4096)(d:s.2.2.2.2.2.2.2.2.1.length=1):
  y0s a7h (n,(0:Int),([]:List Int),s,())=some (a00 n.toNat (s.2.2.2.2.2.2.2.2.1.getD 0 0),()):=by
 obtain⟨N,rfl⟩:=a01 (show 0≤n by omega);have k:m0k s.2.2.2.2.2.2.2.2.1 (0:Int)=some (s.2.2.2.2.2.2.2.2.1.getD 0 0):=c3i (by omega) (by omega)
 have:=a1D (f:=a7h) (fun i=>((N:Int),(i:Int),a00 i (s.2.2.2.2.2.2.2.2.1.getD 0 0),s,())) N
  (b:=(a00 N (s.2.2.2.2.2.2.2.2.1.getD 0 0),())) (fun i hi=>by
   have h:lim ((a00 i (s.2.2.2.2.2.2.2.2.1.getD 0 0)).length+1)=true:=a0W (by grind);have g:a00 i (s.2.2.2.2.2.2.2.2.1.getD 0 0)++[s.2.2.2.2.2.2.2.2.1.getD 0 0]=a00 (i+1) (s.2.2.2.2.2.2.2.2.1.getD 0 0):=by grind[a53]
   simp only[a7h,dlt hi,cT,k,oB,h,a06,g,a0C (show i<1000000 by omega)])
  (by simp[a7h])
 simp_all
theorem c5w(h:SmallS s)(hp:a1v s n):b2c (s,n)=some (a5j (c3q s n)):=by
 have a:=fun l (d:backP s=some l)=>c3s h d;obtain⟨z,A,C,-,x,v,-,g,K,I,-⟩:=hp;have F:=h.rest;have G:=h.warm;have H:=h.taps;have D:=c8x (s:=s) z A;obtain⟨k,w,o,sh,lag,c,t,st,f,p,r,u⟩:=s;simp only at *;have L:∀l,l.length<100000→a9i (l,w)=some (a5j (upO w l)):=fun l d=>c3k x v d;unfold b2c c3q;rcases C with b|b|⟨b,j,m,y⟩|⟨b,j,m⟩|⟨b,j,m,y⟩|⟨b,j,m⟩
 grind[a2x,a5j]
 simp_all[backP]
 ·subst b;obtain⟨O,rfl⟩:=a01 j;have m:(O:Int)≤4:=m;simp only[a2x]at g;have q:f.length=O:=by grind
  have i:=c2b (warm:=f) (rest:=r) (o:=O) (by omega) q (by omega);simp only[backP]at a⊢;simp[i];have e:(bif f.all a0A&&r.all a0A then a4o (a6w O) r f else none)=b7B f r (O:Int):=rfl;rw[e];cases d:b7B f r (O:Int)with
  |none=>rfl
  |some l=>simp_all[a5j]
 ·subst b;simp only[a2x]at g;have q:f.length=c.length:=by grind
  have i:=b3R (rest:=r) j q (by omega);simp only[backP]at a⊢;simp[i];cases d:b2J f r c sh with
  |none=>rfl
  |some l=>simp_all[a5j]
 ·subst b;simp only[a2x]at g;have q:f.length=c.length:=by grind
  have i:=b3R (rest:=r) j q (by omega);simp only[backP]at a⊢;simp[i];cases d:b2J f r c sh with
  |none=>rfl
  |some l=>
   have E:=b3F d;have B:=c3j (rest:=l) y H (by omega);simp[a5j,B]
   grind[a5j]
 ·subst b;have i:=c2d (rest:=r) m (by omega);simp only[backP]at a⊢;simp[i];cases d:b1R r st with
  |none=>rfl
  |some l=>simp_all[a5j]
open Classical in
def a2u (s:Sub) (n:Int):Option (List Int):=if a1v s n then c3q s n else none
theorem b8p(h:SmallS s)(n:Int):b1N (s,n)=some (match a2u s n with|some r=>(r,0)|none=>([],1)):=by
 unfold b1N a2u;simp only[c8v h,oB]
 by_cases hp:a1v s n
 simp[hp,c5w h hp]
 grind[a5j]
 simp_all
theorem b8q(h:SmallS s)(n:Int):a9L (s,n)=some (a2u s n).isSome:=by
 unfold a9L;simp only[b8p h,oB];cases a2u s n<;>rfl
@[reducible] def Wr:Type:=(List Int)×(Int×Unit)
def b9O(w:Wr)(b:Int):Wr:=
 let bs:=if w.2.1%8=0 then w.1++[0]else w.1
 (bs.set (w.2.1 / 8).toNat (bits .u8 .or (bs.getD (w.2.1 / 8).toNat 0) (A0n .u8 b (7-w.2.1%8))),w.2.1+1,())
def wL(L:List Int):Wr:=L.foldl b9O ([],0,())
theorem b9P(L:List Int)(b:Int):wL (L++[b])=b9O (wL L) b:=by simp[wL]
theorem b8r:∀(n:Nat)(L:List Int),L.length=n→(wL L).2.1=L.length∧(wL L).1.length=(L.length+7) / 8
 |0,L,h=>by
  rw[a45.1 h];exact⟨rfl,rfl⟩
 |n+1,L,h=>by
  obtain⟨g,b,rfl⟩:∃g b,L=g++[b]:=by
   rcases a51 L with rfl|⟨g,b,e⟩
   all_goals simp_all
  obtain⟨f,k⟩:=b8r n g (by simp_all);rw[b9P];simp only[b9O,List.length_set,lN,a74,f]
  grind
theorem a5W(L:List Int):(wL L).2.1=L.length∧(wL L).1.length=(L.length+7) / 8:=b8r _ L rfl
theorem b8s{L:List Int}(l:L.length<1000000000)(b:Int):a2s (wL L,b)=some (wL (L++[b])):=by
 obtain⟨g,k⟩:=a5W L;have p:a26 ((L.length:Nat):Int) 8=((L.length:Nat):Int)%8:=a43 (by omega);have m:a54 ((L.length:Nat):Int) 8=((L.length:Nat):Int) / 8:=a61 (by omega);have c:wrap .i64 (((L.length:Nat):Int) / 8)=((L.length:Nat):Int) / 8:=a0B (by omega);have d:wrap .i64 (7-((L.length:Nat):Int)%8)=7-((L.length:Nat):Int)%8:=a0B (by omega);have e:wrap .i64 (((L.length:Nat):Int)+1)=((L.length:Nat):Int)+1:=a0B (by omega);have i:decide ((0:Int)≤((L.length:Nat):Int) / 8)=true:=by rfl
 have j:decide (7-((L.length:Nat):Int)%8<0)=false:=by grind
 rw[b9P];generalize wL L=wr at g k⊢;obtain⟨f,n,u⟩:=wr;have g:n=((L.length:Nat):Int):=g;have k:f.length=(L.length+7) / 8:=k;subst g;unfold a2s b9O
 by_cases h:((L.length:Nat):Int)%8=0
 have hb:(((L.length:Nat):Int)%8==0)=true:=by grind
 have o:lim (f.length+1)=true:=a0T (by omega);have a:decide (((L.length:Nat):Int) / 8<(((f++[0]).length:Nat):Int))=true:=by grind
 simp_all
 grind
def a6W(v:Int)(i:Nat):Int:=wrap .u8 (bits .u64 .and (A0o .u64 v (i:Int)) 1)
def pb(v:Int):Nat→List Int
 |0=>[]
 |i+1=>a6W v i::pb v i
theorem b3l(v:Int):∀n,(pb v n).length=n
 |0=>rfl
 |n+1=>by simp[pb,b3l v n]
def a0P(v:Int)(n:Nat)(L:List Int):List Int:=bif A0o .u64 v (n:Int) != 0 then L else L++pb v n
theorem a0Y(v:Int)(n:Nat)(L:List Int):L.length≤(a0P v n L).length∧(a0P v n L).length≤L.length+n:=by
 grind[a0P,b3l]
def a8o(v:Int)(n:Nat):Int:=bif A0o .u64 v (n:Int) != 0 then 1 else 0
theorem c3t{v:Int}:∀(n:Nat)(L:List Int),L.length+n<1000000000→y0s a4k (v,(n:Int)-1,wL L,())=some (wL (L++pb v n),())
 |0,L,_=>by simp_all[a0F,a4k,pb]
 |n+1,L,h=>by
  have e:((n+1:Nat):Int)-1=(n:Int):=by omega
  have g:wrap .i64 ((n:Int)-1)=(n:Int)-1:=a0B (by omega);have f:decide ((n:Int)≥0)=true:=by simp
  have k:decide ((n:Int)<0)=false:=by simp
  rw[e,a0E (s':=(v,(n:Int)-1,wL (L++[a6W v n]),())) (by
   simp only[a4k,f,k,cT,cF,show wrap .u8 (bits .u64 .and (A0o .u64 v (n:Int)) 1)=a6W v n from rfl,b8s (show L.length<1000000000 by omega),oB,g])]
  rw[c3t n (L++[a6W v n]) (by simp;omega),pb]
  simp
theorem a3r{v:Int}{n:Nat}(a:n≤63)(k:L.length<999999000):a0I (wL L,v,(n:Int))=some (a8o v n,wL (a0P v n L)):=by
 unfold a0I a8o a0P;have g:decide ((n:Int)<0)=false:=by simp
 have f:decide ((n:Int) > 64)=false:=by grind
 have h:wrap .i64 ((n:Int)-1)=(n:Int)-1:=a0B (by omega);simp[g,f];cases (A0o .u64 v (n:Int) != 0)with
 |true=>rfl
 |false=>simp only[cF,h,c3t n L (by omega),oB]
def unL(n:Nat)(L:List Int):List Int:=L++a00 n 0++[1]
theorem c3u{n:Nat}(c:n≤4096)(a:L.length<999990000):a2C (wL L,(n:Int))=some (0,wL (unL n L)):=by
 unfold a2C unL;have g:decide ((n:Int)<0)=false:=by simp
 have k:decide ((n:Int) > 4096)=false:=by grind
 simp only[g,k,cF,oB]
 have:=a1D (f:=a3B) (fun i=>((n:Int),(i:Int),wL (L++a00 i 0),())) n (b:=(wL (L++a00 n 0),())) (fun i hi=>by
   have h:L++a00 i (0:Int)++[0]=L++a00 (i+1) 0:=by simp_all[a53]
   simp only[a3B,dlt hi,cT,b8s (show(L++a00 i (0:Int)).length<1000000000 by grind),oB,h,a0C (show i<1000000 by omega)])
  (by simp[a3B])
 grind[b8s]
theorem b0L(n:Nat)(L:List Int):(unL n L).length=L.length+n+1:=by simp[unL];rfl
def a0Z(x:Int)(n:Nat):Int:=bits .u64 .and (wrap .u64 x) (wrap .u64 ((A0n .u64 1 (n:Int))-1))
def a1L(n:Nat)(l:List Int)(L:List Int):List Int:=l.foldl (fun L x=>a0P (a0Z x n) n L) L
theorem a6z(n:Nat):∀(l L:List Int),L.length≤(a1L n l L).length∧(a1L n l L).length≤L.length+n*l.length
 | [],L=>by simp[a1L]
 |x::l,L=>by
  have h:=a0Y (a0Z x n) n L;have g:=a6z n l (a0P (a0Z x n) n L);have e:a1L n (x::l) L=a1L n l (a0P (a0Z x n) n L):=rfl;rw[e,lC,a92,a93];omega
theorem b2Q{n:Nat}(f:n≤63)(g:L.length<999999000):a2W (wL L,x,(n:Int))=some (wL (a0P (a0Z x n) n L)):=by
 unfold a2W;have h:decide ((n:Int)<0)=false:=by simp
 simp only[h,cF,show bits .u64 .and (wrap .u64 x) (wrap .u64 ((A0n .u64 1 (n:Int))-1))=a0Z x n from rfl,a3r f g,oB]
def a1h(x w:Int):Bool:=decide (1≤w)&&(decide (w≤31)&&(decide (A0n .i64 (-1) (w-1)≤x)&&decide (x≤wrap .i64 (A0n .i64 1 (w-1)-1))))
theorem a6A(a:w≤32):a2e (x,(w:Int))=some (a1h x w):=by
 unfold a2e a1h b2E b1X
 by_cases h1:1≤(w:Int)
 by_cases h2:(w:Int)≤31
 have h:decide ((w:Int)<1)=false:=by simp_all
 have g:decide ((w:Int) > 31)=false:=by simp_all
 have e:wrap .i64 ((w:Int)-1)=(w:Int)-1:=a0B (by omega);have f:decide ((w:Int)-1<0)=false:=by simp_all
 have k:decide ((w:Int)≥1)=true:=by simp_all
 simp[h1,h2,h,g,f,e]
 grind
 grind
 grind
theorem c5x(b:w≤32):b1Q (x,(w:Int))=some (a1h x w):=by
 unfold b1Q a1h b7u b5M
 by_cases h1:1≤(w:Int)
 by_cases h2:(w:Int)≤31
 have f:decide ((w:Int)<1)=false:=by simp_all
 have k:decide ((w:Int) > 31)=false:=by simp_all
 have e:wrap .i64 ((w:Int)-1)=(w:Int)-1:=a0B (by omega);have g:wrap .u64 ((w:Int)-1)=(w:Int)-1:=a0M (by omega);have a:decide ((w:Int)-1<0)=false:=by simp_all
 have h:decide ((w:Int)≥1)=true:=by simp_all
 simp only[h,h1,h2,f,k,a,e,g,decide_true,cT,cF,oB,a39]
 grind
 grind
 grind
def a1T(x:Int):Nat→Nat→Nat
 |0,w=>w
 |k+1,w=>bif (x != 0)&&!a1h x w then a1T x k (w+1)else w
theorem b7C(x:Int):∀(k w:Nat),a1T x k w≤w+k
 |0,w=>a27 _
 |k+1,w=>by
  simp[a1T];cases (x != 0)&&!a1h x w with
  |true=>have:=b7C x k (w+1);grind
  |false=>simp
def a0J(l:List Int):Nat:=l.foldl (fun w x=>a1T x (32-w) w) 0
theorem b5k:∀(l:List Int)(w:Nat),w≤32→l.foldl (fun w x=>a1T x (32-w) w) w≤32
 | [],w,h=>h
 |x::l,w,h=>b5k l _ (show a1T x (32-w) w≤32 by grind[b7C])
theorem a6F(l:List Int):a0J l≤32:=b5k l 0 (by omega)
theorem c0M{x:Int}{l:List Int}{n i:Int}:∀(k w:Nat),w+k=32→y0s a3b ((w:Int),x,l,n,i,())=some (((a1T x k w:Nat):Int),l,n,i,())
 |0,w,h=>by
  obtain rfl:w=32:=by omega
  simp_all[a0F,a3b,a1T]
 |k+1,w,h=>by
  have g:decide ((w:Int)<32)=true:=by grind
  simp[a1T];cases hx:(x != 0)with
  |false=>simp_all[a0F,a3b]
  |true=>
   cases hf:a1h x w with
   |true=>exact a0F (by simp only[a3b,hx,g,a6A (show w≤32 by omega),hf,oB,cT,cF,bT,Bool.and_false])
   |false=>
    rw[a0E (s':=(((w+1:Nat):Int),x,l,n,i,())) (by simp only[a3b,hx,g,a6A (show w≤32 by omega),hf,oB,cT,a36,a0C (show w<1000000 by omega)])];exact c0M k (w+1) (by omega)
theorem a2y(k:short l):a1u l=some ((a0J l:Nat):Int):=by
 have k:l.length<1000000:=k
 have:=a1N (f:=a6b) l (fun i (w:Nat)=>((w:Int),l,(l.length:Int),(i:Int),())) (fun w x=>(.inl (a1T x (32-w) w):Nat ⊕ (Int×Unit))) (fun _ w=>w≤32) (fun w=>((w:Int),()))
  (fun i h w d=>⟨fun c g=>by
   simp at g;subst g;refine⟨?_,by grind[b7C]⟩;simp only[a6b,dlt h,cT,a0D h,oB,c0M (32-w) w (by omega),a0C (show i<1000000 by omega)],fun b hb=>(by grind)⟩)
  (fun w _=>by simp[a6b]) (a:=0) (by omega)
 simp at this;unfold a1u;rw[this];have key:∀(l:List Int)(w:Nat),a2Y (fun w x=>(.inl (a1T x (32-w) w):Nat ⊕ (Int×Unit))) l w=.inl (l.foldl (fun w x=>a1T x (32-w) w) w):=by
  intro l
  induction l with
  |nil=>intro w;rfl
  |cons x l ih=>simp_all[a2Y]
 rw[key];rfl
theorem b0M(x:Int):a7F x=some (a0A x):=by
 grind[a7F,a0A]
def a0R(x:Int):Nat:=if 0≤x then(2*x).toNat else(-2*x-1).toNat
theorem a9H(h:a0A x=true):a0R x<2147483648:=by
 grind[a1O,a0R]
theorem b0N(h:a0A x=true):a9l x=some ((a0R x:Nat):Int):=by
 have f:=a1O.1 h;unfold a9l a0R;simp only[b0M,h,oB,bT,cF]
 by_cases h0:0≤x
 have g:decide (x≥0)=true:=by simp_all
 simp only[g,cT,if_pos h0]
 grind[a0B,a0M]
 have g:decide (x≥0)=false:=by simp_all
 simp only[g,cF,if_neg h0]
 grind[a0B,a0M]
theorem a6G{N o:Nat}(h:o≤64):A0o .u64 (N:Int) (o:Int)=((N / 2^o:Nat):Int):=c3o h
theorem b1T(h:o≤64)(g:N*2^o<9223372036854775808):A0n .u64 (N:Int) (o:Int)=((N*2^o:Nat):Int):=by
 unfold A0n;show wrap .u64 ((N:Int)*2^(min (o:Int).toNat 64))=_
 grind[a0M]
theorem c3v{y k:Nat}(c:y<18446744073709551616)(f:k≤62):bits .u64 .and (y:Int) (wrap .u64 (A0n .u64 1 (k:Int)-1))=((y%2^k:Nat):Int):=by
 have hp:2^k≤2^62:=a08 (by simp) f;have a:1≤2^k:=a81;have b:(2:Nat)^62=4611686018427387904:=by rfl
 have h:A0n .u64 1 (k:Int)=((2^k:Nat):Int):=by have:=b1T (N:=1) (o:=k) (by omega) (by omega);simp_all
 have g:wrap .u64 (((2^k:Nat):Int)-1)=((2^k-1:Nat):Int):=by grind[a0M]
 rw[h,g];show wrap .u64 (((a04 64 (y:Int)) &&& (a04 64 ((2^k-1:Nat):Int))).toNat:Int)=_;rw[a24,a24,a94,a29,a29,a23 c,a23 (by omega),Nat.and_two_pow_sub_one_eq_mod]
 have:y%2^k<2^k:=a41 _ (by omega)
 exact a0M (by omega)
theorem b2R{q:Nat}(h:q<2147483648):wrap .i64 (q:Int)=(q:Int):=a0B (by omega)
def a6X(k:Nat)(x:Int)(L:List Int):List Int:=
 if a0R x / 2^k<32 then a0P ((a0R x%2^k:Nat):Int) k (unL (a0R x / 2^k) L)else a0P ((a0R x:Nat):Int) 32 (unL 32 L)
def a4U(k:Nat)(l:List Int)(L:List Int):List Int:=l.foldl (fun L x=>a6X k x L) L
theorem b5P{k:Nat}(h:k≤25)(x:Int)(L:List Int):L.length≤(a6X k x L).length∧(a6X k x L).length≤L.length+100:=by
 grind[a6X,a0Y,b0L]
theorem b5l{k:Nat}(h:k≤25):∀(l L:List Int),L.length≤(a4U k l L).length∧(a4U k l L).length≤L.length+100*l.length
 | [],L=>by simp[a4U]
 |x::l,L=>by
  have g:=b5P h x L;have f:=b5l h l (a6X k x L);have e:a4U k (x::l) L=a4U k l (a6X k x L):=rfl
  grind
theorem a9c{k:Nat}(h:k≤25):a2a (k:Int)=some true:=by
 unfold a2a
 grind
theorem c5y{k:Nat}(w:k≤25)(C:l.length<10000)(s:l.all a0A=true)(B:L.length<900000000):b2h (wL L,(k:Int),l)=some (0,wL (a4U k l L)):=by
 have z:=a2c (f:=a9x) l (fun i=>((k:Int),l,l,(l.length:Int),(i:Int),wL L,())) (fun _=>true) (bt:=Sum.inl ((k:Int),l,wL L,())) (bf:=Sum.inl ((k:Int),l,wL L,()))
  (fun i h _=>by
   have:=lA.1 s _ (a05 h)
   simp only[a9x,dlt h,cT,a0D h,oB,b0M,this,bT,cF,a0C (show i<1000000 by omega)])
  (fun i h hp=>by simp_all) (by simp[a9x])
 have key:∀(j i:Nat)(g:List Int),i+j=l.length→g.length+100*j<999990000→y0s a7p ((k:Int),l,(l.length:Int),(i:Int),wL g,())=some (wL (a4U k (l.drop i) g),()):=by
  intro j
  induction j with
  |zero=>
   intro i g hi _;obtain rfl:i=l.length:=by omega
   simp_all[a0F,a7p,a4U]
  |succ j ih=>
   intro i g hi hb;have a:i<l.length:=by omega
   have c:=lA.1 s _ (a05 a);have y:=a9H c;have x:=b5P w l[i] g;have e:decide ((k:Int)<0)=false:=by simp
   have p:A0o .u64 ((a0R l[i]:Nat):Int) (k:Int)=((a0R l[i] / 2^k:Nat):Int):=a6G (by omega);have o:=a32 (a0R l[i]) (2^k);have q:=a70 (a0R l[i]) (2^k);have d:A0n .u64 ((a0R l[i] / 2^k:Nat):Int) (k:Int)=((a0R l[i] / 2^k*2^k:Nat):Int):=b1T (by omega) (by grind);have t:wrap .u64 (((a0R l[i]:Nat):Int)-((a0R l[i] / 2^k*2^k:Nat):Int))=((a0R l[i]%2^k:Nat):Int):=by
    rw[a57 (a0R l[i] / 2^k)]
    grind[a0M]
   have u:wrap .i64 ((a0R l[i] / 2^k:Nat):Int)=((a0R l[i] / 2^k:Nat):Int):=b2R (a38 o y);rw[a02 a,a0E (s':=((k:Int),l,(l.length:Int),((i+1:Nat):Int),wL (a6X k l[i] g),())) (by
    by_cases hq:a0R l[i] / 2^k<32
    have m:decide (((a0R l[i] / 2^k:Nat):Int)<32)=true:=decide_eq_true (by omega);have r:(unL (a0R l[i] / 2^k) g).length<999999000:=by
     rw[b0L];omega
    have b:=c3u (L:=g) (n:=a0R l[i] / 2^k) (a84 (a18 hq (by simp))) (by omega);have hp:=a3r (L:=unL (a0R l[i] / 2^k) g) (v:=((a0R l[i]%2^k:Nat):Int)) (n:=k) (by omega) r;simp only[a7p,dlt a,cT,a0D a,oB,b0N c,e,cF,p,m,u,b,d,t,hp,a6X,if_pos hq,a0C (show i<1000000 by omega)];have m:decide (((a0R l[i] / 2^k:Nat):Int)<32)=false:=decide_eq_false (by omega);have r:=b0L 32 g;have b:a2C (wL g,(32:Int))=some (0,wL (unL 32 g)):=c3u (L:=g) (n:=32) (by omega) (by omega);have hp:a0I (wL (unL 32 g),((a0R l[i]:Nat):Int),(32:Int))=some (a8o ((a0R l[i]:Nat):Int) 32,wL (a0P ((a0R l[i]:Nat):Int) 32 (unL 32 g))):=a3r (L:=unL 32 g) (v:=((a0R l[i]:Nat):Int)) (n:=32) (by omega) (by omega);simp only[a7p,dlt a,cT,a0D a,oB,b0N c,e,cF,p,m,b,hp,a6X,if_neg hq,a0C (show i<1000000 by omega)])]
   exact ih (i+1) _ (by omega) (by omega)
 have A:=key l.length 0 L (by omega) (by omega);simp_all[b2h,a9c]
def a1q(zn:List Nat):List Int:=zn.map fun(a:Nat)=>(a:Int)
theorem c2f(n M:Nat):(a00 n M).sum=n*M:=by
 simp
theorem b3G{o n warm:Int}(h:(a1S o n warm).length≠0):∃zn:List Nat,a1S o n warm=a1q zn∧(zn.sum:Int)=n-warm∧zn.length≤256:=by
 unfold a1S at h⊢;cases hr:(a6y n warm&&(decide (0≤o)&&decide (o≤8)))with
 |false=>simp_all
 |true=>
  rw[hr]at h;simp only[cT]at h⊢;simp[a6y]at hr;unfold b3S at h⊢
  split at h
  rename_i g;rw[if_pos g];obtain⟨O,rfl⟩:=a01 hr.2.1;obtain⟨N,rfl⟩:=a01 (show 0≤n by omega);obtain⟨w,rfl⟩:=a01 (show 0≤warm by omega);simp only[tN]at g⊢;have hp:=d3T (o:=O) (by omega);have f:=a70 N (2^O);rw[g.1,a85]at f;have k:w≤N / 2^O:=by omega
  generalize N / 2^O=M at g k f⊢;generalize 2^O=P at hp f⊢;refine⟨(M-w)::a00 (P-1) M,?_,?_,?_⟩
  grind[a1q,List.map_replicate]
  rw[a62,c2f];obtain⟨q,rfl⟩:∃q,P=q+1:=⟨P-1,by omega⟩
  grind
  simp_all;simp_all
def a9A(k:Int)(part L:List Int):List Int:=
 if k=31 then a1L (a0J part) part (a0P ((a0J part:Nat):Int) 5 (a0P (wrap .u64 k) 5 L))else a4U k.toNat part (a0P (wrap .u64 k) 5 L)
def a4V:List Nat→List Int→List Int→List Int→List Int
 |z::zs,k::ks,l,L=>a4V zs ks (l.drop z) (a9A k (l.take z) L)
 |_,_,_,L=>L
theorem b5Q(h:kB k=true)(part L:List Int):L.length≤(a9A k part L).length∧(a9A k part L).length≤L.length+10+100*part.length:=by
 unfold a9A;have a:=a0Y (wrap .u64 k) 5 L;split;have b:=a0Y ((a0J part:Nat):Int) 5 (a0P (wrap .u64 k) 5 L);have c:=a6z (a0J part) part (a0P ((a0J part:Nat):Int) 5 (a0P (wrap .u64 k) 5 L));have f:=a6F part
 have:a0J part*part.length≤32*part.length:=a25 _ f
 omega;rename_i g;simp[kB]at h
 grind[b5l]
theorem a8p(h:i<zn.length):a87 (a1q zn) i 0=((zn[i]:Nat):Int):=by
 simp_all[a1q]
theorem a1y(h:List Nat):(a1q h).length=h.length:=by simp[a1q]
theorem b4v(h:i<zn.length):(zn.drop i).sum=zn[i]+(zn.drop (i+1)).sum:=by
 grind[a02]
theorem c3w{part rest:List Int}{wd:Nat}{a b:Int}{z:List Int}{p:Prt}(k:wd≤32)(hp:part.length<10000):∀(j i:Nat)(L:List Int),i+j=part.length→L.length+64*j<999990000→
  y0s a8I (rest,(wd:Int),a,b,part,(part.length:Int),(i:Int),z,wL L,p,())=some (rest,a,b,z,wL (a1L wd (part.drop i) L),p,())
 |0,i,L,hi,_=>by
  obtain rfl:i=part.length:=by omega
  simp_all[a0F,a8I,a1L]
 |j+1,i,L,hi,hb=>by
  have h:i<part.length:=by omega
  have g:decide ((wd:Int)<0)=false:=by simp
  have f:=a0Y (a0Z part[i] wd) wd L;rw[a02 h,a0E (s':=(rest,(wd:Int),a,b,part,(part.length:Int),((i+1:Nat):Int),z,wL (a0P (a0Z part[i] wd) wd L),p,())) (by
   simp only[a8I,dlt h,cT,a0D h,oB,g,cF,show bits .u64 .and (wrap .u64 part[i]) (wrap .u64 ((A0n .u64 1 (wd:Int))-1))=a0Z part[i] wd from rfl,a3r (show wd≤63 by omega) (show L.length<999999000 by omega),a0C (show i<1000000 by omega)])]
  exact c3w k hp j (i+1) _ (by omega) (by omega)
theorem b3W{zn:List Nat}{p:Prt}(N:p.2.1.length=zn.length)(c:p.2.1.all kB=true)(R:zn.length≤256):∀(j i:Nat)(l L:List Int),i+j=zn.length→(zn.drop i).sum=l.length→l.all a0A=true→l.length≤5000→L.length+10*j+100*l.length<800000000→
  y0s a4F (l,(zn.length:Int),(i:Int),a1q zn,wL L,p,())=some (wL (a4V (zn.drop i) (p.2.1.drop i) l L),())
 |0,i,l,L,hi,_,_,_,_=>by
  obtain rfl:i=zn.length:=by omega
  simp_all[a0F,a4F,a4V]
 |j+1,i,l,L,hi,hsum,hw,hl5,hb=>by
  have h:i<zn.length:=by omega
  have f:i<p.2.1.length:=by omega
  have s:=lA.1 c _ (a05 f);rw[b4v h]at hsum;have B:decide ((0:Int)≤(i:Int))=true:=by simp
  have C:decide ((i:Int)<(((a1q zn).length:Nat):Int))=true:=by simp_all[a1y]
  have D:decide ((0:Int)≤((zn[i]:Nat):Int))=true:=by simp
  have E:decide (((zn[i]:Nat):Int)≤((l.length:Nat):Int))=true:=by grind
  have t:(l.take zn[i]).length=zn[i]:=by simp_all
  have q:(l.drop zn[i]).length=(zn.drop (i+1)).sum:=by grind
  have w:(l.take zn[i]).all a0A=true:=lA.2 fun x A=>lA.1 hw x (a34 A);have y:(l.drop zn[i]).all a0A=true:=lA.2 fun x A=>lA.1 hw x (a35 A);have Q:=b5Q s (l.take zn[i]) L;have O:=a0Y (wrap .u64 p.2.1[i]) 5 L;have d:a0I (wL L,wrap .u64 p.2.1[i],(5:Int))=some (a8o (wrap .u64 p.2.1[i]) 5,wL (a0P (wrap .u64 p.2.1[i]) 5 L)):=a3r (n:=5) (by omega) (by omega);have G:zn.drop i=zn[i]::zn.drop (i+1):=a02 h;have H:p.2.1.drop i=p.2.1[i]::p.2.1.drop (i+1):=a02 f;rw[G,H,a4V];have r:a4F (l,(zn.length:Int),(i:Int),a1q zn,wL L,p,())=some (.inl (l.drop zn[i],(zn.length:Int),((i+1:Nat):Int),a1q zn,wL (a9A p.2.1[i] (l.take zn[i]) L),p,())):=by
   by_cases h31:p.2.1[i]=31
   have m:(p.2.1[i] != 31)=false:=by simp_all
   have v:=a6F (l.take zn[i]);have u:=a2y (l:=l.take zn[i]) (by unfold short;omega);have P:=a0Y ((a0J (l.take zn[i]):Nat):Int) 5 (a0P (wrap .u64 p.2.1[i]) 5 L);have I:wrap .u64 ((a0J (l.take zn[i]):Nat):Int)=((a0J (l.take zn[i]):Nat):Int):=a0M (by omega);have o:a0I (wL (a0P (wrap .u64 p.2.1[i]) 5 L),((a0J (l.take zn[i]):Nat):Int),(5:Int))=some (a8o ((a0J (l.take zn[i]):Nat):Int) 5,wL (a0P ((a0J (l.take zn[i]):Nat):Int) 5 (a0P (wrap .u64 p.2.1[i]) 5 L))):=a3r (n:=5) (by omega) (by omega);have e:=c3w (part:=l.take zn[i]) (rest:=l.drop zn[i]) (a:=(zn.length:Int)) (b:=(i:Int)) (z:=a1q zn) (p:=p) v (by omega) (l.take zn[i]).length 0 (a0P ((a0J (l.take zn[i]):Nat):Int) 5 (a0P (wrap .u64 p.2.1[i]) 5 L)) (by omega) (by omega);simp only[nZ,a28]at e;simp only[a4F,dlt h,B,C,a8p h,D,E,cT,a03,tN,a0D f,oB,d,m,cF,u,I,o,a19,e,a0C (show i<1000000 by omega),a9A,if_pos h31];have m:(p.2.1[i] != 31)=true:=by simp_all
   simp[kB]at s;obtain⟨K,M⟩:=a01 (show 0≤p.2.1[i]by omega);have g:=c5y (k:=K) (l:=l.take zn[i]) (L:=a0P (wrap .u64 p.2.1[i]) 5 L) (by omega) (by omega) w (by omega);rw[←M]at g;have F:K=p.2.1[i].toNat:=by omega
   simp only[a4F,dlt h,B,C,a8p h,D,E,cT,a03,tN,a0D f,oB,d,m,g,a19,a0C (show i<1000000 by omega),a9A,if_neg h31,F]
  rw[a0E r];exact b3W N c R j (i+1) (l.drop zn[i]) _ (by omega) q.symm y (by omega) (by omega)
theorem b9Q{k:Nat}(d:k≤25)(g:a0A x=true):∃c,a7G ((k:Int),x)=some c∧0≤c∧c≤65:=by
 have e:=a9H g;have f:A0o .u64 ((a0R x:Nat):Int) (k:Int)=((a0R x / 2^k:Nat):Int):=a6G (by omega);have a:wrap .i64 ((a0R x / 2^k:Nat):Int)=((a0R x / 2^k:Nat):Int):=b2R (a38 (a32 _ _) e);have h:decide ((k:Int)<0)=false:=by simp
 unfold a7G;simp only[a9c d,b0M,g,oB,bT,cF,b0N g,h,f,a];generalize a0R x / 2^k=q
 by_cases hq:q<32
 have b:decide ((q:Int)<32)=true:=decide_eq_true (by omega);refine⟨(q:Int)+1+k,?_,by omega,by omega⟩;simp only[b,cT]
 grind[a0B]
 grind
theorem c2g{k:Nat}(n:k≤25)(o:l.all a0A=true)(r:l.length<10000):∃c,a3A ((k:Int),l)=some c∧0≤c∧c≤65*l.length:=by
 have key:∀(j i:Nat)(c:Int),i+j=l.length→0≤c→c≤65*i→∃c',y0s a4b ((k:Int),c,l,(l.length:Int),(i:Int),())=some (c',())∧0≤c'∧c'≤65*l.length:=by
  intro j
  induction j with
  |zero=>
   intro i c hi f g;obtain rfl:i=l.length:=by omega
   simp_all[a0F,a4b]
  |succ j ih=>
   intro i c hi f g;have h:i<l.length:=by omega
   obtain⟨d,a,b,m⟩:=b9Q n (lA.1 o _ (a05 h));have e:wrap .i64 (c+d)=c+d:=a0B (by omega);rw[a0E (s':=((k:Int),c+d,l,(l.length:Int),((i+1:Nat):Int),())) (by simp only[a4b,dlt h,cT,a0D h,oB,a,e,a0C (show i<1000000 by omega)])];exact ih (i+1) _ (by omega) (by omega) (by omega)
 obtain⟨c,g,p,q⟩:=key l.length 0 0 (by omega) (by omega) (by omega);simp_all[a3A]
theorem c8y{n:Nat}(g:w≤32)(f:n<10000):0≤(w:Int)*(n:Int)∧(w:Int)*(n:Int)≤32*n:=by
 have h:w*n≤32*n:=a25 _ g;omega
theorem b9R(h:l.length<10000):∃c,a5V l=some c∧0≤c∧c≤5+32*l.length:=by
 have g:=c8y (a6F l) h;refine⟨5+((a0J l:Nat):Int)*((l.length:Nat):Int),?_,by omega,by omega⟩;unfold a5V;simp only[a2y (show short l by unfold short;omega),oB]
 grind[a0B]
theorem b3m{zn:List Nat}{p:Prt}(H:p.2.1.length=zn.length)(g:p.2.1.all kB=true)(I:zn.length≤256):∀(j i:Nat)(l:List Int)(c:Int),i+j=zn.length→(zn.drop i).sum=l.length→l.all a0A=true→l.length≤5000→4≤c→c+10*j+65*l.length<1000000→
  ∃c',y0s a1w (l,c,(zn.length:Int),(i:Int),a1q zn,p,())=some (c',())∧4≤c'
 |0,i,l,c,hi,_,_,_,hc,_=>by
  obtain rfl:i=zn.length:=by omega
  simp_all[a0F,a1w]
 |j+1,i,l,c,hi,hsum,hw,hl5,hc,hb=>by
  have h:i<zn.length:=by omega
  have f:i<p.2.1.length:=by omega
  have q:=lA.1 g _ (a05 f);rw[b4v h]at hsum;have z:decide ((0:Int)≤(i:Int))=true:=by simp
  have A:decide ((i:Int)<(((a1q zn).length:Nat):Int))=true:=by simp_all[a1y]
  have B:decide ((0:Int)≤((zn[i]:Nat):Int))=true:=by simp
  have C:decide (((zn[i]:Nat):Int)≤((l.length:Nat):Int))=true:=by grind
  have s:(l.take zn[i]).length=zn[i]:=by simp_all
  have b:(l.drop zn[i]).length=(zn.drop (i+1)).sum:=by grind
  have v:(l.take zn[i]).all a0A=true:=lA.2 fun x y=>lA.1 hw x (a34 y);have w:(l.drop zn[i]).all a0A=true:=lA.2 fun x y=>lA.1 hw x (a35 y);have e:∃d,a1w (l,c,(zn.length:Int),(i:Int),a1q zn,p,())=some (.inl (l.drop zn[i],c+d,(zn.length:Int),((i+1:Nat):Int),a1q zn,p,()))∧0≤d∧d≤10+65*zn[i]:=by
   by_cases h31:p.2.1[i]=31
   have a:(p.2.1[i]==31)=true:=by simp_all
   obtain⟨r,m,t,u⟩:=b9R (l:=l.take zn[i]) (by omega);have n:wrap .i64 (5+r)=5+r:=a0B (by omega);have o:wrap .i64 (c+(5+r))=c+(5+r):=a0B (by omega);refine⟨5+r,?_,by omega,by omega⟩;simp only[a1w,dlt h,z,A,a8p h,B,C,cT,a03,tN,a0D f,oB,a,m,n,o,a19,a0C (show i<1000000 by omega)];have a:(p.2.1[i]==31)=false:=by simp_all
   simp[kB]at q;obtain⟨K,D⟩:=a01 (show 0≤p.2.1[i]by omega);obtain⟨r,m,t,u⟩:=c2g (k:=K) (by omega) v (by omega);rw[←D]at m;have n:wrap .i64 (5+r)=5+r:=a0B (by omega);have o:wrap .i64 (c+(5+r))=c+(5+r):=a0B (by omega);refine⟨5+r,?_,by omega,by omega⟩;simp only[a1w,dlt h,z,A,a8p h,B,C,cT,cF,a03,tN,a0D f,oB,a,m,n,o,a19,a0C (show i<1000000 by omega)]
  obtain⟨d,E,F,G⟩:=e;rw[a0E E];exact b3m H g I j (i+1) (l.drop zn[i]) _ (by omega) b.symm w (by omega) (by omega) (by omega)
structure PartsOk (p:Prt) (n warm:Int) (l:List Int) (zn:List Nat):Prop where
 may:a5K p n warm=true
 sizes:a1S p.1 n warm=a1q zn
 sum:zn.sum=l.length
 len:zn.length≤256
 ks:p.2.1.length=zn.length
 all:p.2.1.all kB=true
 wide:l.all a0A=true
 short:l.length≤5000
 row:a6y n warm=true
 rest:(l.length:Int)=n-warm
 order:0≤p.1∧p.1≤8
theorem PartsOk.of{p:Prt}{n warm:Int}{l:List Int}(h:a5K p n warm=true)(i:(l.length:Int)=n-warm)(j:l.all a0A=true)(e:l.length≤5000):∃g,PartsOk p n warm l g:=by
 have f:=h;simp only[a5K,bA,a33,beq_eq_false_iff_ne,ne_eq,beq_iff_eq]at f;obtain⟨c,o,d⟩:=f;obtain⟨g,a,m,b⟩:=b3G c;have k:a6y n warm=true∧0≤p.1∧p.1≤8:=by
  grind[a1S]
 exact⟨g,h,a,by omega,b,by simp_all[a1y],d,j,e,k.1,i,k.2⟩
theorem b1b{n warm:Int}{l:List Int}(h:a6y n warm=true)(c:(l.length:Int)=n-warm)(d:l.all a0A=true)(a:l.length≤5000):a7o (n,warm,l)=some true:=by
 have e:wrap .i64 (n-warm)=n-warm:=by
  simp[a6y]at h;exact a0B (by omega)
 have k:(((l.length:Nat):Int) != n-warm)=false:=by simp_all
 have f:b2G=a2M:=rfl;have g:short l:=by unfold short;omega
 have b:=a4G g;simp_all[a2H,a7o,b2M]
theorem b8t(h:PartsOk p n warm l zn):∃c,a4R (p,n,warm,l)=some c∧4≤c:=by
 have k:Go.Ab.short p.2.1:=by have:=h.ks;have:=h.len;unfold Go.Ab.short;omega
 have a:=h.short;have b:=h.len;obtain⟨c,g,f⟩:=b3m h.ks h.all h.len zn.length 0 l 4 (by omega) (by rw[a28];exact h.sum) h.wide h.short (by omega) (by omega);simp at g;refine⟨c,?_,f⟩;unfold a4R;simp only[b2N k,h.may,b1b h.row h.rest h.wide h.short,oB,bT,cF,a2l,h.sizes,a1y,g]
def a4w(p:Prt)(zn:List Nat)(l L:List Int):List Int:=a4V zn p.2.1 l (a0P (wrap .u64 p.1) 4 L)
theorem c3x(h:PartsOk p n warm l zn)(i:L.length<700000000):b1A (wL L,p,n,warm,l)=some (0,wL (a4w p zn l L)):=by
 have e:=h.short;have j:=h.len;obtain⟨c,a,b⟩:=b8t h;have k:(c==0)=false:=by grind
 have d:=a0Y (wrap .u64 p.1) 4 L;have f:a0I (wL L,wrap .u64 p.1,(4:Int))=some (a8o (wrap .u64 p.1) 4,wL (a0P (wrap .u64 p.1) 4 L)):=a3r (n:=4) (by omega) (by omega);have g:=b3W h.ks h.all h.len zn.length 0 l (a0P (wrap .u64 p.1) 4 L) (by omega) (by rw[a28];exact h.sum) h.wide h.short (by omega);simp at g;unfold b1A;simp only[a,oB,k,cF,f,a2l,h.sizes,a1y,g,a4w]
theorem b8u{c:List Int}{wd:Nat}(k:wd≤32)(g:c.length<10000):∀(j i:Nat)(L:List Int),i+j=c.length→L.length+64*j<999990000→
  y0s a6f ((wd:Int),c,(c.length:Int),(i:Int),wL L,())=some (wL (a1L wd (c.drop i) L),())
 |0,i,L,hi,_=>by
  obtain rfl:i=c.length:=by omega
  simp_all[a0F,a6f,a1L]
 |j+1,i,L,hi,hb=>by
  have h:i<c.length:=by omega
  have f:=a0Y (a0Z c[i] wd) wd L;rw[a02 h,a0E (s':=((wd:Int),c,(c.length:Int),((i+1:Nat):Int),wL (a0P (a0Z c[i] wd) wd L),())) (by
   simp only[a6f,dlt h,cT,a0D h,oB,b2Q (show wd≤63 by omega) (show L.length<999999000 by omega),a0C (show i<1000000 by omega)])]
  exact b8u k g j (i+1) _ (by omega) (by omega)
theorem c0N{t:List Int}{n wd:Int}{s:Sub}(a:t.length=3):∀(j i:Nat)(L:List Int),i+j=3→L.length+64*j<999990000→
  y0s b0F (n,wd,t,(i:Int),wL L,s,())=some (n,wd,wL (a1L 8 (t.drop i) L),s,())
 |0,i,L,hi,_=>by
  obtain rfl:i=t.length:=by omega
  grind[a0F,b0F,a1L]
 |j+1,i,L,hi,hb=>by
  have h:i<t.length:=by omega
  have f:decide ((i:Int)<3)=true:=by grind
  have k:=a0Y (a0Z t[i] 8) 8 L;have g:a2W (wL L,t[i],(8:Int))=some (wL (a0P (a0Z t[i] 8) 8 L)):=b2Q (n:=8) (by omega) (by omega);rw[a02 h,a0E (s':=(n,wd,t,((i+1:Nat):Int),wL (a0P (a0Z t[i] 8) 8 L),s,())) (by
   simp only[b0F,f,cT,a0D h,oB,g,a0C (show i<1000000 by omega)])]
  exact c0N a j (i+1) _ (by omega) (by omega)
theorem c0O{l:List Int}{n:Int}{wd:Nat}{s:Sub}(k:wd≤32)(g:l.length<10000):∀(j i:Nat)(L:List Int),i+j=l.length→L.length+64*j<999990000→
  y0s b0H (n,(wd:Int),l,(l.length:Int),(i:Int),wL L,s,())=some (n,wL (a1L wd (l.drop i) L),s,())
 |0,i,L,hi,_=>by
  obtain rfl:i=l.length:=by omega
  simp_all[a0F,b0H,a1L]
 |j+1,i,L,hi,hb=>by
  have h:i<l.length:=by omega
  have f:=a0Y (a0Z l[i] wd) wd L;rw[a02 h,a0E (s':=(n,(wd:Int),l,(l.length:Int),((i+1:Nat):Int),wL (a0P (a0Z l[i] wd) wd L),s,())) (by
   simp only[b0H,dlt h,cT,a0D h,oB,b2Q (show wd≤63 by omega) (show L.length<999999000 by omega),a0C (show i<1000000 by omega)])]
  exact c0O k g j (i+1) _ (by omega) (by omega)
def a6B(s:Stg)(L:List Int):List Int:=a0P (wrap .u64 s.2.1) 4 (a0P (wrap .u64 (wrap .i64 (s.1-1))) 5 L)
def a3t(st:List Stg)(L:List Int):List Int:=st.foldl (fun L s=>a6B s L) L
theorem b5m(s:Stg)(L:List Int):(a6B s L).length≤L.length+9:=by
 grind[a0Y,a6B]
theorem b3X:∀(st:List Stg)(L:List Int),(a3t st L).length≤L.length+9*st.length
 | [],L=>by simp[a3t]
 |s::st,L=>by
  have h:=b5m s L;have g:=b3X st (a6B s L);have e:a3t (s::st) L=a3t st (a6B s L):=rfl
  grind
theorem b6R{st:List Stg}{n wd:Int}{s:Sub}(a:st.length<10000):∀(j i:Nat)(L:List Int),i+j=st.length→L.length+64*j<999990000→
  y0s b0G (n,wd,st,(st.length:Int),(i:Int),wL L,s,())=some (n,wd,wL (a3t (st.drop i) L),s,())
 |0,i,L,hi,_=>by
  obtain rfl:i=st.length:=by omega
  simp_all[a0F,b0G,a3t]
 |j+1,i,L,hi,hb=>by
  have h:i<st.length:=by omega
  have k:=a0Y (wrap .u64 (wrap .i64 (st[i].1-1))) 5 L;have b:=b5m st[i] L;have g:a0I (wL L,wrap .u64 (wrap .i64 (st[i].1-1)),(5:Int))=some (a8o (wrap .u64 (wrap .i64 (st[i].1-1))) 5,wL (a0P (wrap .u64 (wrap .i64 (st[i].1-1))) 5 L)):=a3r (n:=5) (by omega) (by omega);have f:a0I (wL (a0P (wrap .u64 (wrap .i64 (st[i].1-1))) 5 L),wrap .u64 st[i].2.1,(4:Int))=some (a8o (wrap .u64 st[i].2.1) 4,wL (a6B st[i] L)):=a3r (n:=4) (by omega) (by omega);rw[a02 h,a0E (s':=(n,wd,st,(st.length:Int),((i+1:Nat):Int),wL (a6B st[i] L),s,())) (by
   simp only[b0G,dlt h,cT,a0D h,oB,g,f,a0C (show i<1000000 by omega)])]
  exact b6R a j (i+1) _ (by omega) (by omega)
def a6C(s:Sub)(L:List Int):List Int:=
 a1L (a0J s.2.2.2.2.2.1) s.2.2.2.2.2.1 (a0P ((a0J s.2.2.2.2.2.1:Nat):Int) 5 (a0P (wrap .u64 s.2.2.2.1) 4 (a0P (wrap .u64 (wrap .i64 (((s.2.2.2.2.2.1.length:Nat):Int)-1))) 5 L)))
theorem c2h{s:Sub}(h:s.2.2.2.2.2.1.length≤40)(L:List Int):(a6C s L).length≤L.length+2000:=by
 unfold a6C;have f:=a0Y (wrap .u64 (wrap .i64 (((s.2.2.2.2.2.1.length:Nat):Int)-1))) 5 L;have k:=a0Y (wrap .u64 s.2.2.2.1) 4 (a0P (wrap .u64 (wrap .i64 (((s.2.2.2.2.2.1.length:Nat):Int)-1))) 5 L);have a:=a0Y ((a0J s.2.2.2.2.2.1:Nat):Int) 5 (a0P (wrap .u64 s.2.2.2.1) 4 (a0P (wrap .u64 (wrap .i64 (((s.2.2.2.2.2.1.length:Nat):Int)-1))) 5 L));have b:=a6z (a0J s.2.2.2.2.2.1) s.2.2.2.2.2.1 (a0P ((a0J s.2.2.2.2.2.1:Nat):Int) 5 (a0P (wrap .u64 s.2.2.2.1) 4 (a0P (wrap .u64 (wrap .i64 (((s.2.2.2.2.2.1.length:Nat):Int)-1))) 5 L)));have g:=a6F s.2.2.2.2.2.1
 have:a0J s.2.2.2.2.2.1*s.2.2.2.2.2.1.length≤32*40:=Nat.mul_le_mul g h
 omega
theorem b6S(h:s.2.2.2.2.2.1.length≤40)(l:L.length<900000000):a8H (wL L,s)=some (wL (a6C s L)):=by
 have e:=a0Y (wrap .u64 (wrap .i64 (((s.2.2.2.2.2.1.length:Nat):Int)-1))) 5 L;have i:=a0Y (wrap .u64 s.2.2.2.1) 4 (a0P (wrap .u64 (wrap .i64 (((s.2.2.2.2.2.1.length:Nat):Int)-1))) 5 L);have j:=a0Y ((a0J s.2.2.2.2.2.1:Nat):Int) 5 (a0P (wrap .u64 s.2.2.2.1) 4 (a0P (wrap .u64 (wrap .i64 (((s.2.2.2.2.2.1.length:Nat):Int)-1))) 5 L));have k:=a6F s.2.2.2.2.2.1;have f:wrap .u64 ((a0J s.2.2.2.2.2.1:Nat):Int)=((a0J s.2.2.2.2.2.1:Nat):Int):=a0M (by omega);have a:a0I (wL L,wrap .u64 (wrap .i64 (((s.2.2.2.2.2.1.length:Nat):Int)-1)),(5:Int))=some (a8o (wrap .u64 (wrap .i64 (((s.2.2.2.2.2.1.length:Nat):Int)-1))) 5,wL (a0P (wrap .u64 (wrap .i64 (((s.2.2.2.2.2.1.length:Nat):Int)-1))) 5 L)):=a3r (n:=5) (by omega) (by omega);have b:a0I (wL (a0P (wrap .u64 (wrap .i64 (((s.2.2.2.2.2.1.length:Nat):Int)-1))) 5 L),wrap .u64 s.2.2.2.1,(4:Int))=some (a8o (wrap .u64 s.2.2.2.1) 4,wL (a0P (wrap .u64 s.2.2.2.1) 4 (a0P (wrap .u64 (wrap .i64 (((s.2.2.2.2.2.1.length:Nat):Int)-1))) 5 L))):=a3r (n:=4) (by omega) (by omega);have d:a0I (wL (a0P (wrap .u64 s.2.2.2.1) 4 (a0P (wrap .u64 (wrap .i64 (((s.2.2.2.2.2.1.length:Nat):Int)-1))) 5 L)),((a0J s.2.2.2.2.2.1:Nat):Int),(5:Int))=some (a8o ((a0J s.2.2.2.2.2.1:Nat):Int) 5,wL (a0P ((a0J s.2.2.2.2.2.1:Nat):Int) 5 (a0P (wrap .u64 s.2.2.2.1) 4 (a0P (wrap .u64 (wrap .i64 (((s.2.2.2.2.2.1.length:Nat):Int)-1))) 5 L)))):=a3r (n:=5) (by omega) (by omega);have g:=b8u (c:=s.2.2.2.2.2.1) k (by omega) s.2.2.2.2.2.1.length 0 (a0P ((a0J s.2.2.2.2.2.1:Nat):Int) 5 (a0P (wrap .u64 s.2.2.2.1) 4 (a0P (wrap .u64 (wrap .i64 (((s.2.2.2.2.2.1.length:Nat):Int)-1))) 5 L))) (by omega) (by omega);simp at g;unfold a8H;simp only[a,b,a2y (show short s.2.2.2.2.2.1 by unfold short;omega),f,d,g,oB,a6C]
def b1G(s:Sub)(L:List Int):List Int:=
 a0P ((a0J s.2.2.2.2.2.2.2.2.1:Nat):Int) 5 (a0P (wrap .u64 s.2.1) 5 (a0P (wrap .u64 s.1) 3 L))
def a2K(s:Sub)(L:List Int):List Int:=
 if s.1=2 then a0P (wrap .u64 s.2.2.1) 3 L
 else if s.1=3 then a6C s L
 else if s.1=4 then a6C s (a1L 8 s.2.2.2.2.2.2.1 (a0P (wrap .u64 (wrap .i64 (s.2.2.2.2.1-1))) 10 L))
 else if s.1=5 then a3t s.2.2.2.2.2.2.2.1 (a0P (wrap .u64 ((s.2.2.2.2.2.2.2.1.length:Nat):Int)) 2 L)
 else L
theorem c3y(h:SmallS s)(L:List Int):(a2K s L).length≤L.length+3000:=by
 have f:=h.coefs;have k:=h.taps;have g:=h.stages
 grind[a2K,a0Y,c2h,a6z,b3X]
theorem b5n:∀(zs:List Nat)(ks l L:List Int),ks.all kB=true→(a4V zs ks l L).length≤L.length+10*zs.length+100*l.length
 |z::zs,k::ks,l,L,h=>by
  simp only[a07,bA]at h;have g:=b5Q h.1 (l.take z) L;have f:=b5n zs ks (l.drop z) (a9A k (l.take z) L) h.2;rw[a95]at g;rw[a52]at f;simp only[a4V,lC];omega
 | [],_,_,_,_=>by simp_all[a4V]
 |_::_,[],_,_,_=>by grind[a4V]
def a5q(s:Sub)(zn:List Nat)(L:List Int):List Int:=
 if s.1=0∨s.1=1 then a1L (a0J s.2.2.2.2.2.2.2.2.1) s.2.2.2.2.2.2.2.2.1 (a2K s (b1G s L))
 else a4w s.2.2.2.2.2.2.2.2.2.1 zn s.2.2.2.2.2.2.2.2.2.2.1 (a1L (a0J s.2.2.2.2.2.2.2.2.1) s.2.2.2.2.2.2.2.2.1 (a2K s (b1G s L)))
theorem b4w(h:SmallS s)(R:L.length<100000000):
  ∃(e:Int)(L':List Int),a9N (wL L,s,n)=some (e,wL L')∧(e=0∨L'=L)∧L'.length≤L.length+700000∧
   ((a2u s n).isSome=true→e=0∧∃a,L'=a5q s a L∧(s.1≠0∧s.1≠1→PartsOk s.2.2.2.2.2.2.2.2.2.1 n ((s.2.2.2.2.2.2.2.2.1.length:Nat):Int) s.2.2.2.2.2.2.2.2.2.2.1 a))∧((a2u s n).isSome=false→e=1∧L'=L):=by
 unfold a9N;simp only[b8q h,oB];cases hs:(a2u s n).isSome with
 |false=>exact⟨1,L,rfl,.inr rfl,by omega,fun h=>(by grind),fun _=>⟨rfl,rfl⟩⟩
 |true=>
  have hp:a1v s n:=by
   grind[a2u]
  obtain⟨P,Q,z,-,-,-,-,u,D,A,-,o⟩:=hp;have b:=c8w z;have m:=a6F s.2.2.2.2.2.2.2.2.1;have r:short s.2.2.2.2.2.2.2.2.1:=by have:=h.warm;unfold short;omega
  have c:=h.warm;have q:=h.rest;have B:=h.stages;have C:=h.taps;have q1:=a0Y (wrap .u64 s.1) 3 L;have S:=a0Y (wrap .u64 s.2.1) 5 (a0P (wrap .u64 s.1) 3 L);have T:=a0Y ((a0J s.2.2.2.2.2.2.2.2.1:Nat):Int) 5 (a0P (wrap .u64 s.2.1) 5 (a0P (wrap .u64 s.1) 3 L));have y:wrap .u64 ((a0J s.2.2.2.2.2.2.2.2.1:Nat):Int)=((a0J s.2.2.2.2.2.2.2.2.1:Nat):Int):=a0M (by omega);have H:a0I (wL L,wrap .u64 s.1,(3:Int))=some (a8o (wrap .u64 s.1) 3,wL (a0P (wrap .u64 s.1) 3 L)):=a3r (n:=3) (by omega) (by omega);have I:a0I (wL (a0P (wrap .u64 s.1) 3 L),wrap .u64 s.2.1,(5:Int))=some (a8o (wrap .u64 s.2.1) 5,wL (a0P (wrap .u64 s.2.1) 5 (a0P (wrap .u64 s.1) 3 L))):=a3r (n:=5) (by omega) (by omega);have v:a0I (wL (a0P (wrap .u64 s.2.1) 5 (a0P (wrap .u64 s.1) 3 L)),((a0J s.2.2.2.2.2.2.2.2.1:Nat):Int),(5:Int))=some (a8o ((a0J s.2.2.2.2.2.2.2.2.1:Nat):Int) 5,wL (b1G s L)):=a3r (n:=5) (by omega) (by omega);have K:(b1G s L).length≤L.length+13:=by unfold b1G;omega
  generalize hM:b1G s L=M at v K;have U:=c3y h M;have N:=a6z (a0J s.2.2.2.2.2.2.2.2.1) s.2.2.2.2.2.2.2.2.1 (a2K s M);have V:a0J s.2.2.2.2.2.2.2.2.1*s.2.2.2.2.2.2.2.2.1.length≤32*5000:=Nat.mul_le_mul m c;have g:=c0O (l:=s.2.2.2.2.2.2.2.2.1) (n:=n) (s:=s) m (by omega) s.2.2.2.2.2.2.2.2.1.length 0 (a2K s M) (by omega) (by omega);simp at g

  have i:=b6R (st:=s.2.2.2.2.2.2.2.1) (n:=n) (wd:=((a0J s.2.2.2.2.2.2.2.2.1:Nat):Int)) (s:=s) (by omega) s.2.2.2.2.2.2.2.1.length 0 (a0P (wrap .u64 ((s.2.2.2.2.2.2.2.1.length:Nat):Int)) 2 M) (by omega) (by grind[a0Y]);have X:=a0Y (wrap .u64 (wrap .i64 (s.2.2.2.2.1-1))) 10 M;have Y:=a6z 8 s.2.2.2.2.2.2.1 (a0P (wrap .u64 (wrap .i64 (s.2.2.2.2.1-1))) 10 M);have j:=c0N (t:=s.2.2.2.2.2.2.1) (n:=n) (wd:=((a0J s.2.2.2.2.2.2.2.2.1:Nat):Int)) (s:=s) C 3 0 (a0P (wrap .u64 (wrap .i64 (s.2.2.2.2.1-1))) 10 M) (by rfl) (by omega);simp at i j;have E:a0I (wL M,wrap .u64 s.2.2.1,(3:Int))=some (a8o (wrap .u64 s.2.2.1) 3,wL (a0P (wrap .u64 s.2.2.1) 3 M)):=a3r (n:=3) (by omega) (by omega);have F:a0I (wL M,wrap .u64 (wrap .i64 (s.2.2.2.2.1-1)),(10:Int))=some (a8o (wrap .u64 (wrap .i64 (s.2.2.2.2.1-1))) 10,wL (a0P (wrap .u64 (wrap .i64 (s.2.2.2.2.1-1))) 10 M)):=a3r (n:=10) (by omega) (by omega);have G:a0I (wL M,wrap .u64 ((s.2.2.2.2.2.2.2.1.length:Nat):Int),(2:Int))=some (a8o (wrap .u64 ((s.2.2.2.2.2.2.2.1.length:Nat):Int)) 2,wL (a0P (wrap .u64 ((s.2.2.2.2.2.2.2.1.length:Nat):Int)) 2 M)):=a3r (n:=2) (by omega) (by omega);have w:=b6S (s:=s) h.coefs (L:=M) (by omega);have x:=b6S (s:=s) h.coefs (L:=a1L 8 s.2.2.2.2.2.2.1 (a0P (wrap .u64 (wrap .i64 (s.2.2.2.2.1-1))) 10 M)) (by omega);simp only[bT,cF,a2y r,oB,H,I,y,v];generalize hPM:a1L (a0J s.2.2.2.2.2.2.2.2.1) s.2.2.2.2.2.2.2.2.1 (a2K s M)=PM at g N

  have tail:∀(d:s.1≠0∧s.1≠1),∃a,PartsOk s.2.2.2.2.2.2.2.2.2.1 n ((s.2.2.2.2.2.2.2.2.1.length:Nat):Int) s.2.2.2.2.2.2.2.2.2.2.1 a:=fun d=>by
   simp_all[PartsOk.of]
  rcases b with k|k|k|k|k|k;have f:a2K s M=M:=by unfold a2K;grind
  rw[f]at g;refine⟨0,PM,?_,.inl rfl,by omega,fun _=>⟨rfl,[],by simp_all[a5q],fun h=>absurd k (by omega)⟩,fun h=>by grind⟩;simp only[k,show((0:Int)==2)=false from rfl,show((0:Int)==4)=false from rfl,show((0:Int)==3)=false from rfl,show((0:Int)==5)=false from rfl,cF,oB,g,a6E]
  simp
  have f:a2K s M=M:=by unfold a2K;grind
  rw[f]at g;refine⟨0,PM,?_,.inl rfl,by omega,fun _=>⟨rfl,[],by simp_all[a5q],fun h=>absurd k (by omega)⟩,fun h=>by grind⟩;simp only[k,show((1:Int)==2)=false from rfl,show((1:Int)==4)=false from rfl,show((1:Int)==3)=false from rfl,show((1:Int)==5)=false from rfl,cF,oB,g,a6E]
  simp
  all_goals
   obtain⟨a,p⟩:=tail (by omega);have Z:=c3x (L:=PM) p (by omega);have O:(a4w s.2.2.2.2.2.2.2.2.2.1 a s.2.2.2.2.2.2.2.2.2.2.1 PM).length≤L.length+700000:=by
    have z1:=a0Y (wrap .u64 s.2.2.2.2.2.2.2.2.2.1.1) 4 PM;have z2:=b5n a s.2.2.2.2.2.2.2.2.2.1.2.1 s.2.2.2.2.2.2.2.2.2.2.1 (a0P (wrap .u64 s.2.2.2.2.2.2.2.2.2.1.1) 4 PM) p.all;have z3:=p.len
    grind[a4w]
   refine⟨0,a4w s.2.2.2.2.2.2.2.2.2.1 a s.2.2.2.2.2.2.2.2.2.2.1 PM,?_,.inl rfl,O,fun _=>⟨rfl,a,by simp_all[a5q],fun _=>p⟩,fun h=>by grind⟩
  have f:a2K s M=a0P (wrap .u64 s.2.2.1) 3 M:=by unfold a2K;grind
  rw[f]at g;simp only[k,show((2:Int)==2)=true from rfl,cT,E,oB,g,a6E]
  grind
  have f:a2K s M=a6C s M:=by unfold a2K;grind
  rw[f]at g;simp only[k,show((3:Int)==2)=false from rfl,show((3:Int)==4)=false from rfl,show((3:Int)==3)=true from rfl,cT,cF,w,oB,g,a6E]
  grind
  have f:a2K s M=a6C s (a1L 8 s.2.2.2.2.2.2.1 (a0P (wrap .u64 (wrap .i64 (s.2.2.2.2.1-1))) 10 M)):=by unfold a2K;grind
  rw[f]at g;simp only[k,show((4:Int)==2)=false from rfl,show((4:Int)==4)=true from rfl,cT,cF,F,j,x,oB,g,a6E]
  grind
  have f:a2K s M=a3t s.2.2.2.2.2.2.2.1 (a0P (wrap .u64 ((s.2.2.2.2.2.2.2.1.length:Nat):Int)) 2 M):=by unfold a2K;grind
  rw[f]at g;simp only[k,show((5:Int)==2)=false from rfl,show((5:Int)==4)=false from rfl,show((5:Int)==3)=false from rfl,show((5:Int)==5)=true from rfl,cT,cF,G,i,oB,g,a6E]
  grind
theorem b3H(h:List Nat):(a1q h).map a42=h:=by
 unfold a1q;rw[List.map_map]
 have:a42∘(fun(a:Nat)=>(a:Int))=id:=by rfl
 simp_all
def a5h(s:Sub)(n:Int):Int:=
 if(a2u s n).isSome=true then(((a5q s ((a1S s.2.2.2.2.2.2.2.2.2.1.1 n ((s.2.2.2.2.2.2.2.2.1.length:Nat):Int)).map a42) []).length:Nat):Int)else 0
theorem b9S(h:s.1≠0∧s.1≠1→PartsOk s.2.2.2.2.2.2.2.2.2.1 n ((s.2.2.2.2.2.2.2.2.1.length:Nat):Int) s.2.2.2.2.2.2.2.2.2.2.1 zn)(L:List Int):
  a5q s zn L=a5q s ((a1S s.2.2.2.2.2.2.2.2.2.1.1 n ((s.2.2.2.2.2.2.2.2.1.length:Nat):Int)).map a42) L:=by
 by_cases hk:s.1=0∨s.1=1
 simp_all[a5q];rw[(h (not_or.1 hk)).sizes,b3H]
theorem c5U(h:SmallS s)(n:Int):a4l (s,n)=some (a5h s n):=by
 obtain⟨e,f,g,-,-,k,c⟩:=b4w h (n:=n) (L:=[]) (by simp);have a:wL []=(([]:List Int),(0:Int),()):=rfl;rw[a]at g;obtain⟨d,-⟩:=a5W f;unfold a4l a5h;simp[g,a9a];cases hs:(a2u s n).isSome with
 |false=>
  simp_all
 |true=>
  obtain⟨rfl,i,rfl,b⟩:=k hs;rw[if_pos rfl,←b9S b];simp_all
def dif:List Int→List Int
 |a::b::r=>W (b-a)::dif (b::r)
 |_=>[]
theorem a8Q:∀l:List Int,(dif l).length=l.length-1
 | []=>rfl
 | [_]=>rfl
 |a::b::r=>by simp[dif,a8Q (b::r)]
theorem b9T:∀(l:List Int)(i:Nat)(x y:Int),l[i]?=some x→l[i+1]?=some y→(dif l)[i]?=some (W (y-x))
 |a::b::r,0,x,y,h1,h2=>by simp at h1 h2;subst h1;subst h2;rfl
 |a::b::r,i+1,x,y,h1,h2=>by
  simp only[dif,List.getElem?_cons_succ]at h1 h2⊢;exact b9T (b::r) i x y h1 h2
 | [_],0,x,y,h1,h2=>by simp_all
 | [_],i+1,x,y,h1,h2=>by simp_all
 | [],i,x,y,h1,h2=>by simp_all
def a2v:Nat→List Int→List Int
 |0,l=>l
 |o+1,l=>dif (a2v o l)
theorem a5X(l:List Int):∀o,(a2v o l).length=l.length-o
 |0=>rfl
 |o+1=>by simp only[a2v,a8Q,a5X l o];omega
theorem b4x{l:List Int}(h:short l)(o:Nat):short (a2v o l):=by
 have h:l.length<1000000:=h;show(a2v o l).length<1000000;rw[a5X];omega
def b1c(l:List Int)(i:Nat):List Int:=(dif l).take i++l.drop i
theorem b3I(h:i≤l.length-1):(b1c l i).length=l.length:=by
 grind[b1c,a8Q]
theorem c0P(h:i≤l.length-1)(g:i≤j):(b1c l i).getD j 0=l.getD j 0:=by
 simp_all[a8Q,b1c,List.getElem?_append_right]
theorem c9U(h:i<l.length-1):(b1c l i).set i (W (l.getD (i+1) 0-l.getD i 0))=b1c l (i+1):=by
 have e:((dif l).take i).length=i:=by grind[a8Q]
 have f:l[i]?=some l[i]:=lG (by omega);have k:l[i+1]?=some l[i+1]:=lG (by omega);have a:=b9T l i _ _ f k;have g:i<(dif l).length:=by grind
 simp only[b1c];rw[List.set_append,if_neg (by omega),e,a56,a02 (show i<l.length by omega),a60,a49 g,aA]
 grind
theorem c7j{l:List Int}{o k:Int}(g:short l)(h:1≤l.length):y0s a5B ((0:Int),o,k,l,())=some (o,k,b1c l (l.length-1),()):=by
 have g:l.length<1000000:=g;have r:b1c l 0=l:=by rfl
 have:=a1D (f:=a5B) (fun i:Nat=>((i:Int),o,k,b1c l i,())) (l.length-1) (b:=(o,k,b1c l (l.length-1),()))
  (fun i hi=>by
   have d:wrap .i64 ((i:Int)+1)=((i+1:Nat):Int):=a0C (by omega);have c:=b3I (l:=l) (i:=i) (by omega);have a:decide (((i+1:Nat):Int)<((l.length:Nat):Int))=true:=by grind
   have e:decide ((0:Int)≤((i+1:Nat):Int))=true:=by rfl
   have m:decide ((0:Int)≤(i:Int))=true:=by simp
   have n:decide ((i:Int)<((l.length:Nat):Int))=true:=by grind
   have n1:a42 ((i+1:Nat):Int)=i+1:=by rfl
   have n2:a42 (i:Int)=i:=by rfl
   have st:=c9U (l:=l) (i:=i) (by omega);have p:=c0P (l:=l) (i:=i) (j:=i+1) (by omega) (by omega);have q:=c0P (l:=l) (i:=i) (j:=i) (by omega) (by omega);simp_all[a5B])
  (by
   have c:=b3I (l:=l) (i:=l.length-1) (by omega);have d:wrap .i64 (((l.length-1:Nat):Int)+1)=((l.length:Nat):Int):=by grind[a0B]
   have a:decide (((l.length:Nat):Int)<((l.length:Nat):Int))=false:=by simp
   simp_all[a5B])
 simp_all
theorem c8z{l:List Int}:(b1c l (l.length-1)).take (l.length-1)=dif l:=by
 simp_all[a48,a8Q,b1c]
theorem b5o(y:o≤4)(x:o≤l.length)(g:short l)(r:l.all a0A=true):
  a4O (l,(o:Int))=some (bif (a2v o l).all a0A then(a2v o l,0)else([],6)):=by
 have q:l.length<1000000:=g;have h:=a1D (f:=a7W) (fun k:Nat=>((o:Int),(k:Int),a2v k l,())) o (b:=(a2v o l,()))
  (fun k v=>by
   have n:1≤(a2v k l).length:=by rw[a5X];omega
   have p:(a2v k l).length<1000000:=b4x g k;have j:decide ((k:Int)<(o:Int))=true:=by simp_all
   have w:=b3I (l:=a2v k l) (i:=(a2v k l).length-1) (by omega);have z:wrap .i64 ((((a2v k l).length:Nat):Int)-1)=(((a2v k l).length-1:Nat):Int):=by grind[a0B]
   have w2:wrap .i64 ((k:Int)+1)=((k+1:Nat):Int):=a0C (by omega);have s:decide ((0:Int)≤(((a2v k l).length-1:Nat):Int))=true:=by simp
   have t:decide ((((a2v k l).length-1:Nat):Int)≤(((a2v k l).length:Nat):Int))=true:=by simp
   have u:decide ((a2v k l).length-1≤(a2v k l).length)=true:=by simp
   simp_all[a2v,a7W,c7j,b4x,c8z])
  (by
   have j:decide ((o:Int)<(o:Int))=false:=by simp
   simp_all[a7W])
 have a:decide ((o:Int)<0)=false:=by simp
 have c:decide ((o:Int) > 4)=false:=by grind
 have d:decide (((l.length:Nat):Int)<(o:Int))=false:=by simp_all
 have e:lim l.length=true:=a0T (by omega);simp at h;have m:a2v 0 l=l:=rfl;rw[m]at h;unfold a4O;simp only[a,c,d,e,cF,cT,oB,a7w g,r,bT,h,a7w (b4x g o)]
 grind
def ex:Nat→(Nat→Int)→Nat→Int
 |0,f,i=>f i
 |o+1,f,i=>ex o f (i+1)-ex o f i
theorem b7D{l:List Int}(g:l.all a0A=true):∀(o i:Nat),i+o<l.length→(a2v o l)[i]?=some (W (ex o (fun j=>l.getD j 0) i))
 |0,i,h=>by
  simp_all[a2v,ex,b5N]
 |o+1,i,h=>by
  have f:=b7D g o i (by omega);have k:=b7D g o (i+1) (by omega);simp_all[a2v,ex,b9T,a8m]
theorem c8A(d:l.all a0A=true)(c:o≤4)(h:o+j<l.length):W (W (ex o (fun j=>l.getD j 0) j)+a6w o (l.take (o+j)))=l.getD (o+j) 0:=by
 have f:a0A (l.getD (o+j) 0)=true:=by
  simp_all
 have g:∀i:Nat,1≤i→i≤o→atB (l.take (o+j)) i=l.getD (o+j-i) 0:=fun i a b=>by
  simp[atB,a71 (a84 h),List.getElem?_take]
  grind
 have key:ex o (fun j=>l.getD j 0) j+a6w o (l.take (o+j))=l.getD (o+j) 0:=by
  have k:o=0∨o=1∨o=2∨o=3∨o=4:=by omega
  rcases k with rfl|rfl|rfl|rfl|rfl;simp[ex,a6w]
  all_goals grind[ex,a6w]
 have:W (W (ex o (fun j=>l.getD j 0) j)+a6w o (l.take (o+j)))=W (ex o (fun j=>l.getD j 0) j+a6w o (l.take (o+j))):=by
  simp_all[a8m]
 simp_all[b5N]
theorem c3z{l:List Int}(f:l.all a0A=true){o:Nat}(b:o≤4):∀(k j:Nat),o+j+k=l.length→a4o (a6w o) ((a2v o l).drop j) (l.take (o+j))=some l
 |0,j,h=>by
  rw[List.drop_of_length_le (by rw[a5X];omega),a48 (by omega)];rfl
 |k+1,j,h=>by
  have g:j<(a2v o l).length:=by rw[a5X];omega
  have a:=b7D f o j (by omega);rw[lG g]at a;have e:=Option.some.inj a;have c:l.getD (o+j) 0=l[o+j]:=by grind
  have st:=c8A f b (show o+j<l.length by omega);rw[c]at st;rw[a02 g,e];simp only[a4o,st,lA.1 f _ (a05 (show o+j<l.length by omega)),cT];have d:l.take (o+j)++[l[o+j]]=l.take (o+(j+1)):=by
   rw[show o+(j+1)=(o+j)+1 by rfl]
   simp
  rw[d];exact c3z f b k (j+1) (by omega)
theorem a7H{σ β:Type}{f:σ→Option (σ ⊕ β)}(I:Nat→σ→Prop)(Q:β→Prop)(n:Nat)(g:∀i s,i<n→I i s→∃s',f s=some (.inl s')∧I (i+1) s')
  (a:∀s,I n s→∃b,f s=some (.inr b)∧Q b):∀(k i:Nat)(s:σ),i+k=n→I i s→∃b,y0s f s=some b∧Q b
 |0,i,s,h,hi=>by
  obtain rfl:i=n:=by omega
  grind[a0F]
 |k+1,i,s,h,hi=>by
  obtain⟨s',c,d⟩:=g i s (by omega) hi;rw[a0E c];exact a7H I Q n g a k (i+1) s' (by omega) d
theorem b6T(y:Int):0≤wrap .u64 y∧wrap .u64 y<18446744073709551616:=by
 grind[wrap,IntKind.bits,IntKind.signed]
def b1H(n:Int)(x:Int):Bool:=a0A x&&!(a26 x (A0n .i64 1 n) != 0)
def b4y{β:Type}(n:Int)(bad:β)(out:List Int)(x:Int):List Int ⊕ β:=bif b1H n x then .inl (out++[A0o .i64 x n])else .inr bad
def b0O(n:Int)(l:List Int):Option (List Int):=bif l.all (b1H n)then some (l.map fun x=>A0o .i64 x n)else none
theorem b5p{β:Type}(n:Int)(h:β)(g:List Int→β):∀(l out:List Int),a8k g (a2Y (b4y n h) l out)=match b0O n l with|some r=>g (out++r)|none=>h
 | [],out=>by grind[a2Y,a8k,b0O]
 |x::l,out=>by
  simp only[a2Y,b4y,b0O,a07];cases hx:b1H n x with
  |true=>
   simp only[cT,a39];rw[b5p n h g l _];simp only[b0O];cases l.all (b1H n)with
   |true=>simp
   |false=>rfl
  |false=>rfl
theorem c3A{o:Nat}(h:o≤30):A0n .i64 1 (o:Int)=((2^o:Nat):Int):=by
 have g:2^o≤2^30:=a08 (by omega) h
 have:=b7A (N:=1) (o:=o) (by omega) (by omega)
 simp_all
theorem b3Y(d:o≤30)(m:l.length<100000):a7m (l,(o:Int))=some (a5j (b0O (o:Int) l)):=by
 have e:short l:=by unfold short;omega
 have g:¬ (o:Int)<0:=by omega
 have b:¬ (o:Int) > 30:=by omega
 have c:(A0n .i64 (1:Int) (o:Int)==0)=false:=by
  rw[c3A d]
  have:0<2^o:=a16 o
  grind
 unfold a7m;simp[g,b]
 have:=a1N (f:=a6T) l (fun i out=>((o:Int),l,(l.length:Int),(i:Int),out,())) (b4y (o:Int) (Sum.inr ((6:Int),([]:List Int),())))
  (fun i out=>out.length=i) (fun out=>Sum.inl (out,()))
  (fun i h out j=>by
   have k:i<1000000:=by omega
   simp only[a6T,dlt h,cT,a0D h,oB,b3Q,b4y,b1H,g,c,decide_false,cF];cases hb:a0A l[i]with
   |true=>
    cases hb2:(a26 l[i] (A0n .i64 1 (o:Int)) != 0)with
    |false=>
     simp only[cT,bT,cF,oB,g,decide_false,a0W (show out.length+1<1000000 by omega),a0C k,a03,a36,hb2];simp_all
    |true=>
     simp
   |false=>
    simp)
  (fun out _=>by simp[a6T]) (a:=[]) rfl
 simp[b5p]at this;rw[this];cases b0O (o:Int) l<;>rfl
theorem b7E{o:Nat}(h:o≤30){x:Int}(k:b1H (o:Int) x=true):a0A (A0o .i64 x (o:Int))=true∧A0n .i64 (A0o .i64 x (o:Int)) (o:Int)=x∧a0A x=true:=by
 simp only[b1H,c3A h,bA,a33,bne_eq_false_iff_eq]at k;obtain⟨f,d⟩:=k;obtain⟨c,rfl⟩:=Int.dvd_of_tmod_eq_zero d;have g:=a1O.1 f;have e:min (a42 (o:Int)) (IntKind.bits .i64)=o:=by grind[IntKind.bits]
 have hp:(0:Int)<2^o:=Int.pow_pos (by omega);have b:((2^o:Nat):Int)=2^o:=by simp
 rw[b]at g f⊢;have a:A0o .i64 (2^o*c) (o:Int)=c:=by
  unfold A0o
  grind[a64]
 rw[a];refine⟨a1O.2 ?_,?_,f⟩;generalize (2:Int)^o=p at hp g;have i:p*c=(p-1)*c+c:=by grind
 by_cases hc:0≤c
 have:=a47 (show 0≤p-1 by omega) hc
 omega
 have:=a47 (show 0≤p-1 by omega) (show 0≤-c by omega)
 grind
 grind[A0n,a0B]
theorem d2s(h:o≤30)(f:b0O (o:Int) l=some d):d.all a0A=true∧d.length=l.length∧upO (o:Int) d=some l:=by
 unfold b0O at f;cases ha:l.all (b1H (o:Int))with
 |false=>simp_all
 |true=>
  rw[ha]at f;simp at f;subst f;have g:=lA.1 ha;refine⟨?_,by simp,?_⟩;simp_all[b7E];have a:(l.map fun x=>A0o .i64 x (o:Int)).all (fun x=>a0A x&&a0A (A0n .i64 x (o:Int)))=true:=by
   simp only[List.all_map];refine lA.2 fun x k=>?_
   obtain⟨c,e,i⟩:=b7E h (g x k);simp_all
  unfold upO;rw[a]
  simp
  have b:l.map ((fun x=>A0n .i64 x (o:Int))∘fun x=>A0o .i64 x (o:Int))=l.map id:=List.map_congr_left (fun x k=>(b7E h (g x k)).2.1);simp_all
theorem c7k{n warm:Int}(h:a6y n warm=true):(a1S 0 n warm).length≠0:=by
 have g:=h;simp[a6y]at g
 grind[a1S,b3S]
theorem c7l(h:-1048576≤x∧x≤1048575):v0s (v0r x (-1048576)) 1048575=x:=by
 unfold v0s v0r
 grind
theorem d5Q(h:a0A x=true):-1048576≤A0o .i64 x ((10:Nat):Int)∧A0o .i64 x ((10:Nat):Int)≤1048575:=by
 have g:=a1O.1 h;have e:A0o .i64 x ((10:Nat):Int)=x / 1024:=by
  show a80 x 1024=_
  grind
 omega
theorem c0Q{x:Int}(f:a0A x=true){a l:List Int}{n i:Int}:∀(k s:Nat),s+k=10→∃s':Nat,s'≤10∧y0s a3H (a,(s:Int),x,l,n,i,())=some (a,(s':Int),l,n,i,())
 |0,s,h=>by
  obtain rfl:s=10:=by omega
  have g:decide (((10:Nat):Int)<0)=false:=by rfl
  have d:=c7l (d5Q f);refine⟨10,a27 _,a0F ?_⟩;simp_all[a3H,a2P]
 |k+1,s,h=>by
  have g:decide ((s:Int)<0)=false:=decide_eq_false (by omega);cases hc:(v0s (v0r (A0o .i64 x (s:Int)) (-1048576)) 1048575 != A0o .i64 x (s:Int))with
  |false=>exact⟨s,by omega,a0F (by simp only[a3H,g,cF,a2P,oB,hc])⟩
  |true=>
   obtain⟨s',b,c⟩:=c0Q f (a:=a) (l:=l) (n:=n) (i:=i) k (s+1) (by omega);refine⟨s',b,?_⟩;rw[a0E (s':=(a,((s+1:Nat):Int),x,l,n,i,())) (by simp only[a3H,g,cF,a2P,oB,hc,cT,a0C (show s<1000000 by omega)])];omega
theorem c5z(v:l.all a0A=true)(z:l.length<100000):∃r,a7X l=some r∧r.length=l.length:=by
 obtain⟨b,x,s,y,u⟩:=a7H (f:=a5C) (fun i st=>∃s:Nat,s≤10∧st=(l,(s:Int),l,(l.length:Int),(i:Int),())) (fun b=>∃s:Nat,s≤10∧b=(l,(s:Int),())) l.length
  (fun i st hi h=>by
   obtain⟨s,p,rfl⟩:=h;obtain⟨s',g,e⟩:=c0Q (lA.1 v _ (a05 hi)) (a:=l) (l:=l) (n:=(l.length:Int)) (i:=(i:Int)) (10-s) s (by omega);exact⟨_,by simp only[a5C,dlt hi,cT,a0D hi,oB,e,a0C (show i<1000000 by omega)]<;>rfl,s',g,rfl⟩)
  (fun st h=>by
   obtain⟨s,p,rfl⟩:=h;exact⟨_,by simp_all[a5C],s,p,rfl⟩) l.length 0 _ (by omega) ⟨0,by omega,rfl⟩
 subst u;obtain⟨c,w,o,q,t⟩:=a7H (f:=a5D) (fun i st=>∃o:List Int,st=((s:Int),l,(l.length:Int),(i:Int),o,())∧o.length=l.length) (fun b=>∃o:List Int,b=(o,())∧o.length=l.length) l.length
  (fun i st hi h=>by
   obtain⟨o,rfl,m⟩:=h;have k:decide ((s:Int)<0)=false:=decide_eq_false (by omega);have d:decide ((0:Int)≤(i:Int))=true:=by simp
   have j:decide ((i:Int)<((o.length:Nat):Int))=true:=decide_eq_true (by omega);exact⟨_,by simp only[a5D,dlt hi,cT,a0D hi,oB,k,cF,d,j,a03,a0C (show i<1000000 by omega)]<;>rfl,_,rfl,by grind⟩)
  (fun st h=>by
   obtain⟨o,rfl,m⟩:=h;exact⟨_,by simp_all[a5D],o,rfl,m⟩) l.length 0 _ (by omega) ⟨a00 l.length 0,rfl,by simp⟩
 subst q;refine⟨o,?_,t⟩;have k:decide ((0:Int)≤((l.length:Nat):Int))=true:=by simp
 have d:decide (((l.length:Nat):Int)≤((l.length:Nat):Int))=true:=by simp
 have j:lim l.length=true:=a0W (by omega);simp_all[a7X]
theorem b8v:∀(N:Nat)(num den:Int),den.toNat≤N→∃a b,y0s a3z (num,den,())=some (a,b,())
 |N,num,den,h=>by
  by_cases hd:den≥1099511627776
  ·have g:decide (den≥(1099511627776:Int))=true:=decide_eq_true hd;have e:A0o .i64 den 1=den / 2:=by
    show a80 den 2=_
    grind
   rw[a0E (s':=(A0o .i64 num 1,den / 2,())) (by simp_all[a3z])]
   match N with
   |0=>omega
   |N+1=>exact b8v N _ _ (by omega)
  have g:decide (den≥(1099511627776:Int))=false:=decide_eq_false hd;exact⟨num,den,a0F (by simp only[a3z,g,cF])⟩
theorem b8w{f:List Int}(t:1≤m)(r:g.length=f.length)(s:f.length<100000)(q:m<1000):∃k,a5e (f,g,(m:Int))=some k:=by
 obtain⟨b,n,d,den,o⟩:=a7H (f:=a3y) (fun i st=>∃d den:Int,st=(f,g,d,den,((m+i:Nat):Int),())) (fun b=>∃d den:Int,b=(d,den,())) (f.length-m)
  (fun i st hi h=>by
   obtain⟨d,den,rfl⟩:=h;have j:m+i<f.length:=by omega
   have e:wrap .i64 (((m+i:Nat):Int)-1)=((m+i-1:Nat):Int):=by grind[a0B]
   exact⟨_,by simp only[a3y,dlt j,cT,a0D j,e,a0D (show m+i-1<g.length by omega),oB,a0C (show m+i<1000000 by omega)]<;>rfl,_,_,rfl⟩)
  (fun st h=>by
   obtain⟨d,den,rfl⟩:=h;have l:decide (((m+(f.length-m):Nat):Int)<((f.length:Nat):Int))=false:=decide_eq_false (by omega);exact⟨_,by simp only[a3y,l,cF]<;>rfl,_,_,rfl⟩) (f.length-m) 0 (f,g,0,0,(m:Int),()) (by omega) ⟨0,0,rfl⟩
 subst o;obtain⟨a,c,p⟩:=b8v den.toNat d den (a27 _);unfold a5e;simp[n,p];cases hc:(c==0)with
 |true=>simp
 |false=>
  simp
  cases decide ((A0n .i64 a 15).tmod c<0)<;>exact⟨_,rfl⟩
theorem c2i{f:List Int}{order:Int}(x:1≤m)(r:g.length=f.length)(w:f.length<100000)(s:m<1000):
  ∃f' a:List Int,y0s a3p (order,(m:Int),k,((f.length:Nat):Int)-1,f,g,ks,())=some (order,(m:Int),f',a,ks,())∧f'.length=f.length∧a.length=f.length:=by
 obtain⟨b,t,f',a,u,v⟩:=a7H (f:=a3p) (fun i st=>∃f' a:List Int,st=(order,(m:Int),k,((f.length:Nat):Int)-1-(i:Int),f',a,ks,())∧f'.length=f.length∧a.length=f.length)
  (fun b=>∃f' a:List Int,b=(order,(m:Int),f',a,ks,())∧f'.length=f.length∧a.length=f.length) (f.length-m)
  (fun i st hi h=>by
   obtain⟨f',a,rfl,c,d⟩:=h;have j:decide (((f.length:Nat):Int)-1-(i:Int)≥(m:Int))=true:=decide_eq_true (by omega);have l:decide ((0:Int)≤((f.length:Nat):Int)-1-(i:Int))=true:=decide_eq_true (by omega);have n:decide (((f.length:Nat):Int)-1-(i:Int)<((f'.length:Nat):Int))=true:=decide_eq_true (by omega);have o:decide (((f.length:Nat):Int)-1-(i:Int)<((a.length:Nat):Int))=true:=decide_eq_true (by omega);have e:wrap .i64 (((f.length:Nat):Int)-1-(i:Int)-1)=((f.length:Nat):Int)-1-((i+1:Nat):Int):=by grind[a0B]
   have p:decide ((0:Int)≤((f.length:Nat):Int)-1-((i+1:Nat):Int))=true:=decide_eq_true (by omega);have q:decide (((f.length:Nat):Int)-1-((i+1:Nat):Int)<((a.length:Nat):Int))=true:=decide_eq_true (by omega);exact⟨_,by simp only[a3p,j,l,n,o,e,p,q,cT,a03,a2P,oB]<;>rfl,_,_,rfl,by simp_all,by simp_all⟩)
  (fun st h=>by
   obtain⟨f',a,rfl,c,d⟩:=h;have j:decide (((f.length:Nat):Int)-1-((f.length-m:Nat):Int)≥(m:Int))=false:=decide_eq_false (by omega);exact⟨_,by simp only[a3p,j,cF]<;>rfl,f',a,rfl,c,d⟩) (f.length-m) 0 _ (by omega) ⟨f,g,rfl,rfl,r⟩
 grind
theorem c3B{f:List Int}(x:o≤32)(v:g.length=f.length)(w:f.length<100000):∃ks:List Int,y0s a3q ((o:Int),(1:Int),f,g,([]:List Int),())=some (ks,())∧ks.length=o:=by
 obtain⟨b,p,ks,t,u⟩:=a7H (f:=a3q) (fun i st=>∃f' a ks:List Int,st=((o:Int),((i+1:Nat):Int),f',a,ks,())∧f'.length=f.length∧a.length=f.length∧ks.length=i)
  (fun b=>∃ks:List Int,b=(ks,())∧ks.length=o) o
  (fun i st hi h=>by
   obtain⟨f',a,ks,rfl,j,l,q⟩:=h;have d:decide (((i+1:Nat):Int)≤(o:Int))=true:=decide_eq_true (by omega);obtain⟨k,n⟩:=b8w (f:=f') (g:=a) (m:=i+1) (by omega) (by omega) (by omega) (by omega);have e:wrap .i64 (((f'.length:Nat):Int)-1)=((f'.length:Nat):Int)-1:=a0B (by omega);obtain⟨r,s,p,t,u⟩:=c2i (f:=f') (g:=a) (ks:=ks++[k]) (m:=i+1) (order:=(o:Int)) (k:=k) (by omega) (by omega) (by omega) (by omega);have c:lim (ks.length+1)=true:=a0W (by omega);exact⟨_,by simp only[a3q,d,cT,n,oB,c,e,a06,p,a0C (show i+1<1000000 by omega)]<;>rfl,r,s,ks++[k],rfl,by omega,by omega,by grind⟩)
  (fun st h=>by
   obtain⟨f',a,ks,rfl,j,l,q⟩:=h;have d:decide (((o+1:Nat):Int)≤(o:Int))=false:=decide_eq_false (by omega);exact⟨_,by simp only[a3q,d,cF]<;>rfl,ks,rfl,q⟩) o 0 _ (by omega) ⟨f,g,[],rfl,rfl,v,rfl⟩
 simp_all
theorem c3C(h:l.all a0A=true)(t:l.length≤4096)(s:1≤o)(m:o≤32):∃ks:List Int,a6U (l,(o:Int))=some (ks,0)∧ks.length=o:=by
 have p:short l:=by unfold short;omega
 obtain⟨r,e,q⟩:=c5z h (by omega);have n:short r:=by unfold short;omega
 obtain⟨ks,i,j⟩:=c3B (f:=r) (g:=r) m rfl (by omega);have k:decide ((o:Int)<1)=false:=decide_eq_false (by omega);have a:decide ((o:Int) > 32)=false:=decide_eq_false (by omega);have b:decide (((l.length:Nat):Int) > 4096)=false:=decide_eq_false (by omega);have c:decide ((0:Int)≤(o:Int))=true:=by simp
 have d:lim o=true:=a0W (by omega);refine⟨ks,?_,j⟩;unfold a6U;simp only[k,a,b,c,d,cF,cT,oB,a6i p,h,bT,e,a8n n,tN,a03,i]
theorem b2S{σ β:Type}{f:σ→Option (σ ⊕ β)}(I:Nat→σ→Prop)(Q:β→Prop)(n:Nat)(g:∀i s,i<n→I i s→(∃s',f s=some (.inl s')∧I (i+1) s')∨(∃b,f s=some (.inr b)∧Q b))
  (a:∀s,I n s→∃b,f s=some (.inr b)∧Q b):∀(k i:Nat)(s:σ),i+k=n→I i s→∃b,y0s f s=some b∧Q b
 |0,i,s,h,hi=>by
  obtain rfl:i=n:=by omega
  grind[a0F]
 |k+1,i,s,h,hi=>by
  rcases g i s (by omega) hi with⟨s',c,d⟩|⟨b,c,d⟩;rw[a0E c];exact b2S I Q n g a k (i+1) s' (by omega) d;simp_all[a0F]
theorem c5A(g:ks.length≤32):∃b,y0s a2p (ks,ks,(ks.length:Int),(0:Int),())=some b∧(b=.inl (ks,())∨b=.inr (([]:List Int),(1:Int),())):=
 b2S (f:=a2p) (fun i s=>s=(ks,ks,(ks.length:Int),(i:Int),())) (fun b=>b=.inl (ks,())∨b=.inr (([]:List Int),(1:Int),())) ks.length
  (fun i s hi h=>by
   subst h;cases h1:decide (ks[i]<(-16383:Int))with
   |true=>exact Or.inr ⟨_,by simp_all[a2p,a0D],Or.inr rfl⟩
   |false=>
    cases h2:decide (ks[i] > (16383:Int))with
    |true=>exact Or.inr ⟨_,by simp_all[a2p,a0D],Or.inr rfl⟩
    |false=>exact Or.inl ⟨_,by simp only[a2p,dlt hi,cT,cF,a0D hi,oB,h1,h2,a0C (show i<1000000 by omega)]<;>rfl,rfl⟩)
  (fun s h=>by
   subst h;exact⟨_,by simp_all[a2p],Or.inl rfl⟩) ks.length 0 _ (by omega) rfl
theorem c5B{a:List Int}(t:c.length=i)(hi:i≤32):
  ∃g:List Int,y0s a4h (c,(i:Int),k,a,n,(i:Int),c,(c.length:Int),(0:Int),([]:List Int),())=some (k,a,n,(i:Int),g,())∧g.length=i:=by
 obtain⟨b,p,g,q,r⟩:=a7H (f:=a4h) (fun j s=>∃g:List Int,s=(c,(i:Int),k,a,n,(i:Int),c,(c.length:Int),(j:Int),g,())∧g.length=j)
  (fun b=>∃g:List Int,b=(k,a,n,(i:Int),g,())∧g.length=c.length) c.length
  (fun j s e h=>by
   obtain⟨g,rfl,l⟩:=h;have m:wrap .i64 ((i:Int)-1)=(i:Int)-1:=a0B (by omega);have o:wrap .i64 ((i:Int)-1-(j:Int))=((i-1-j:Nat):Int):=by grind[a0B]
   have d:lim (g.length+1)=true:=a0W (by omega);exact⟨_,by simp only[a4h,dlt e,cT,a0D e,oB,m,o,a0D (show i-1-j<c.length by omega),d,a0C (show j<1000000 by omega),a06]<;>rfl,_,rfl,by grind⟩)
  (fun s h=>by
   obtain⟨g,rfl,l⟩:=h;exact⟨_,by simp_all[a4h],g,rfl,l⟩) c.length 0 _ (by omega) ⟨[],rfl,rfl⟩
 simp_all
theorem c7m(x:1≤ks.length)(v:ks.length≤32):∃c e,a8D ks=some (c,e)∧(e=0→c.length=ks.length):=by
 obtain⟨b,o,p⟩:=c5A v;have d:decide (((ks.length:Nat):Int)<1)=false:=decide_eq_false (by omega);have j:decide (((ks.length:Nat):Int) > 32)=false:=decide_eq_false (by omega);unfold a8D;simp[d,j,o];rcases p with rfl|rfl;obtain⟨r,q,c,t,u⟩:=a7H (f:=a6e) (fun i s=>∃c:List Int,s=(c,ks,(ks.length:Int),(i:Int),())∧c.length=i) (fun r=>∃c:List Int,r=(c,())∧c.length=ks.length) ks.length
  (fun i s hi h=>by
   obtain⟨c,rfl,g⟩:=h;have m:wrap .i64 ((i:Int)+1)=((i+1:Nat):Int):=a0C (by omega);have l:decide ((0:Int)≤((i+1:Nat):Int))=true:=by rfl
   have l1:lim (i+1)=true:=a0W (by omega);obtain⟨w,n1,n2⟩:=c5B (c:=c) (a:=ks) (i:=i) (k:=ks[i]) (n:=(ks.length:Int)) g (by omega);have l2:lim (w.length+1)=true:=a0W (by omega);exact⟨_,by simp only[a6e,dlt hi,cT,a0D hi,oB,m,l,tN,l1,a03,n1,l2,a06]<;>rfl,_,rfl,by grind⟩)
  (fun s h=>by
   obtain⟨c,rfl,g⟩:=h;exact⟨_,by simp_all[a6e],c,rfl,g⟩) ks.length 0 _ (by omega) ⟨[],rfl,rfl⟩
 subst t;simp at q;exact⟨c,0,by simp_all,fun _=>u⟩
 grind
theorem c5C{s:Nat}{half:Int}(m:c.length≤32)(d:w≤32):
  ∃out:List Int,y0s a2r (c,(w:Int),(s:Int),half,c,(c.length:Int),(0:Int),([]:List Int),())=some (c,(w:Int),(s:Int),out,()):=by
 obtain⟨b,i,out,l⟩:=b2S (f:=a2r) (fun j st=>∃out:List Int,st=(c,(w:Int),(s:Int),half,c,(c.length:Int),(j:Int),out,())∧out.length=j)
  (fun b=>∃out:List Int,b=(c,(w:Int),(s:Int),out,())) c.length
  (fun j st k h=>by
   obtain⟨out,rfl,e⟩:=h;have a:decide ((s:Int)<0)=false:=decide_eq_false (by omega);have g:lim (out.length+1)=true:=a0W (by omega);cases hf:a1h (A0o .i64 (wrap .i64 (c[j]+half)) (s:Int)) (w:Int)with
   |true=>exact Or.inl ⟨_,by simp only[a2r,dlt k,cT,a0D k,oB,a,cF,a6A d,hf,bT,g,a0C (show j<1000000 by omega),a06]<;>rfl,_,rfl,by grind⟩
   |false=>exact Or.inr ⟨_,by simp only[a2r,dlt k,cT,a0D k,oB,a,cF,a6A d,hf,a36]<;>rfl,out,rfl⟩)
  (fun st h=>by
   obtain⟨out,rfl,e⟩:=h;exact⟨_,by simp_all[a2r],out,rfl⟩) c.length 0 _ (by omega) ⟨[],rfl,rfl⟩
 simp_all
theorem c5D{w:Int}(g:c.length≤32):∃b,y0s a2q (c,w,c,(c.length:Int),(0:Int),())=some b∧(b=.inl (c,w,())∨b=.inr ((0:Int),(1:Int),([]:List Int),())):=
 b2S (f:=a2q) (fun i s=>s=(c,w,c,(c.length:Int),(i:Int),())) (fun b=>b=.inl (c,w,())∨b=.inr ((0:Int),(1:Int),([]:List Int),())) c.length
  (fun i s hi h=>by
   subst h;cases h1:decide (c[i]<(-35184372088832:Int))with
   |true=>exact Or.inr ⟨_,by simp_all[a2q,a0D],Or.inr rfl⟩
   |false=>
    cases h2:decide (c[i] > (35184372088832:Int))with
    |true=>exact Or.inr ⟨_,by simp_all[a2q,a0D],Or.inr rfl⟩
    |false=>exact Or.inl ⟨_,by simp only[a2q,dlt hi,cT,cF,a0D hi,oB,h1,h2,a0C (show i<1000000 by omega)]<;>rfl,rfl⟩)
  (fun s h=>by
   subst h;exact⟨_,by simp_all[a2q],Or.inl rfl⟩) c.length 0 _ (by omega) rfl
theorem c7n(y:1≤c.length)(m:c.length≤32)(A:2≤w∧w≤16):∃o sh e,a8E (c,(w:Int))=some (o,sh,e)∧(e=0→o.length=c.length):=by
 obtain⟨b,u,v⟩:=c5D (w:=(w:Int)) m;have n:decide (((c.length:Nat):Int)<1)=false:=decide_eq_false (by omega);have p:decide (((c.length:Nat):Int) > 32)=false:=decide_eq_false (by omega);have q:decide ((w:Int)<2)=false:=decide_eq_false (by omega);have t:decide ((w:Int) > 16)=false:=decide_eq_false (by omega);unfold a8E;simp[n,p,q,t,u];rcases v with rfl|rfl
 ·obtain⟨r,z,x⟩:=b2S (f:=a3d) (fun i s=>s=(c,(w:Int),(i:Int),())) (fun r=>r=.inl ()∨∃(sh:Int)(o:List Int),r=.inr (sh,(0:Int),o,())∧o.length=c.length) 15
   (fun i s hi h=>by
    subst h;have a:decide ((i:Int)≤14)=true:=decide_eq_true (by omega);have d:decide ((0:Int)≤((c.length:Nat):Int))=true:=by simp
    have l1:lim c.length=true:=a0W (by omega);have step:∀g:Int,∃o:List Int,y0s a2r (c,(w:Int),(i:Int),g,c,(c.length:Int),(0:Int),([]:List Int),())=some (c,(w:Int),(i:Int),o,()):=fun g=>c5C m (by omega)
    by_cases hp:(i:Int) > 0
    ·have l:wrap .i64 ((i:Int)-1)=(i:Int)-1:=a0B (by omega);have j:decide ((i:Int)-1<0)=false:=decide_eq_false (by omega);obtain⟨o,k⟩:=step (A0n .i64 1 ((i:Int)-1));cases hc:((((o.length:Nat):Int))==((c.length:Nat):Int))with
     |true=>exact Or.inr ⟨_,by simp only[a3d,a,cT,hp,decide_true,l,j,cF,oB,d,tN,l1,a03,k,hc]<;>rfl,Or.inr ⟨_,o,rfl,by grind⟩⟩
     |false=>exact Or.inl ⟨_,by simp only[a3d,a,cT,hp,decide_true,l,j,cF,oB,d,tN,l1,a03,k,hc,a0C (show i<1000000 by omega)]<;>rfl,rfl⟩
    ·obtain⟨o,k⟩:=step 0;cases hc:((((o.length:Nat):Int))==((c.length:Nat):Int))with
     |true=>exact Or.inr ⟨_,by simp only[a3d,a,cT,hp,decide_false,cF,oB,d,tN,l1,a03,k,hc]<;>rfl,Or.inr ⟨_,o,rfl,by grind⟩⟩
     |false=>exact Or.inl ⟨_,by simp only[a3d,a,cT,hp,decide_false,cF,oB,d,tN,l1,a03,k,hc,a0C (show i<1000000 by omega)]<;>rfl,rfl⟩)
   (fun s h=>by
    subst h;have a:decide (((15:Nat):Int)≤14)=false:=by rfl
    exact⟨_,by rfl,Or.inl rfl⟩) 15 0 (c,(w:Int),(0:Int),()) (by rfl) rfl
  rcases x with rfl|⟨sh,o,rfl,k⟩;exact⟨[],0,6,by simp_all,fun h=>absurd h (by simp)⟩;exact⟨o,sh,0,by simp_all,fun _=>k⟩
 grind
theorem c8B(j:l.all a0A=true)(d:l.length≤4096)(k:1≤o)(a:o≤32)(b:2≤w∧w≤16):∃c sh e,a4a (l,(o:Int),(w:Int))=some (c,sh,e)∧(e=0→c.length=o):=by
 obtain⟨ks,g,n⟩:=c3C j d k a;obtain⟨c,e,f,p⟩:=c7m (ks:=ks) (by omega) (by omega);unfold a4a;simp[g,f]
 by_cases he:e=0
 subst he;obtain⟨s,sh,m,q,r⟩:=c7n (c:=c) (w:=w) (by omega) (by omega) b
 grind
 have i:(e != 0)=true:=by simp_all
 exact⟨[],0,e,by grind,fun h=>absurd h he⟩
theorem c7o(a:l.length<100000)(c:o≤4):∃v,a9w (l,(o:Int))=some v:=by
 obtain⟨b,g,v,k⟩:=a7H (f:=a4P) (fun i s=>∃v:Int,s=((o:Int),v,l,(l.length:Int),(i:Int),())) (fun b=>∃v:Int,b=(v,())) l.length
  (fun i s hi h=>by
   obtain⟨v,rfl⟩:=h;cases hc:decide (wrap .i64 ((i:Int)+(o:Int))≥4)with
   |true=>exact⟨_,by simp only[a4P,dlt hi,cT,a0D hi,oB,hc,a0C (show i<1000000 by omega)]<;>rfl,_,rfl⟩
   |false=>exact⟨_,by simp only[a4P,dlt hi,cT,cF,a0D hi,oB,hc,a0C (show i<1000000 by omega)]<;>rfl,_,rfl⟩)
  (fun s h=>by
   obtain⟨v,rfl⟩:=h;exact⟨_,by simp_all[a4P],v,rfl⟩) l.length 0 ((o:Int),(0:Int),l,(l.length:Int),(0:Int),()) (by omega) ⟨0,rfl⟩
 simp_all[a9w]
theorem b8x(h:o≤4)(b:l.length<100000)(g:l.all a0A=true):∃r e,a4O (l,(o:Int))=some (r,e)∧r.length≤l.length:=by
 by_cases hn:o≤l.length
 ·rw[b5o h hn (by unfold short;omega) g];cases (a2v o l).all a0A with
  |true=>exact⟨_,_,rfl,by rw[a5X];omega⟩
  |false=>simp
 have f:decide ((o:Int)<0)=false:=decide_eq_false (by omega);have k:decide ((o:Int) > 4)=false:=decide_eq_false (by omega);have a:decide (((l.length:Nat):Int)<(o:Int))=true:=decide_eq_true (by omega);simp_all[a4O]
theorem b8y(d:l.length<100000)(j:l.all a0A=true):∃o:Nat,a6s l=some (o:Int)∧o≤4:=by
 obtain⟨b,n,o,p,q⟩:=a7H (f:=a3R) (fun i s=>∃(o:Nat)(v:Int),s=(l,(o:Int),v,(i:Int),())∧o≤4) (fun b=>∃o:Nat,b=((o:Int),())∧o≤4) 5
  (fun i s hi h=>by
   obtain⟨o,v,rfl,a⟩:=h;have g:decide ((i:Int)≤4)=true:=decide_eq_true (by omega);obtain⟨r,e,k,m⟩:=b8x (o:=i) (by omega) d j;obtain⟨y,c⟩:=c7o (l:=r) (o:=i) (by omega) (by omega);cases hc:(e != 0)with
   |true=>exact⟨_,by simp only[a3R,g,cT,k,oB,hc,a0C (show i<1000000 by omega)]<;>rfl,o,v,rfl,a⟩
   |false=>
    cases h4:decide (v<0)with
    |true=>exact⟨_,by simp only[a3R,g,cT,cF,k,oB,hc,c,h4,a0C (show i<1000000 by omega)]<;>rfl,i,y,rfl,by omega⟩
    |false=>
     cases h5:decide (y<v)with
     |true=>exact⟨_,by simp only[a3R,g,cT,cF,k,oB,hc,c,h4,h5,a0C (show i<1000000 by omega)]<;>rfl,i,y,rfl,by omega⟩
     |false=>exact⟨_,by simp only[a3R,g,cT,cF,k,oB,hc,c,h4,h5,a0C (show i<1000000 by omega)]<;>rfl,o,v,rfl,a⟩)
  (fun s h=>by
   obtain⟨o,v,rfl,a⟩:=h;have g:decide (((5:Nat):Int)≤4)=false:=by rfl
   exact⟨_,by rfl,o,rfl,a⟩) 5 0 (l,(0:Int),(-1:Int),(0:Int),()) (by rfl) ⟨0,-1,rfl,by omega⟩
 grind[a6s]
def a9B(g:List Int→Int):List Int→List Int→List Int
 | [],_=>[]
 |x::r,done=>W (x-g done)::a9B g r (done++[x])
theorem b2T(g:List Int→Int):∀r done,(a9B g r done).length=r.length
 | [],_=>rfl
 |x::r,done=>by simp[a9B,b2T g r]
theorem c8C{x g:Int}(h:a0A x=true):W (W (x-g)+g)=x:=by
 have:=b5N h
 simp_all[a8m]
theorem b4z(g:List Int→Int):∀(r done:List Int),r.all a0A=true→a4o g (a9B g r done) done=some (done++r)
 | [],done,_=>by simp[a9B,a4o]
 |x::r,done,h=>by
  rw[a07,bA]at h;simp only[a9B,a4o,c8C h.1,h.1,cT,b4z g r (done++[x]) h.2,aA,a75]
def b1I(g:List Int→Int)(r done:List Int):Option (List Int):=bif (a9B g r done).all a0A then some (a9B g r done)else none
def b3n{β:Type}(g:List Int→Int)(bad:β)(a:List Int×List Int)(x:Int):(List Int×List Int) ⊕ β:=
 bif a0A (W (x-g a.1))then .inl (a.1++[x],a.2++[W (x-g a.1)])else .inr bad
theorem b4A{β:Type}(g:List Int→Int)(f:β)(k:List Int×List Int→β):∀(r done acc:List Int),
  a8k k (a2Y (b3n g f) r (done,acc))=match b1I g r done with|some e=>k (done++r,acc++e)|none=>f
 | [],done,acc=>by grind[a2Y,a8k,b1I,a9B]
 |x::r,done,acc=>by
  simp[a2Y,b3n];cases h:a0A (W (x-g done))with
  |true=>
   simp
   rw[b4A g f k r];simp only[b1I,a9B,a07,h,a39]
   grind
  |false=>simp_all[a8k,b1I,a9B]
theorem b8z{g:List Int→Int}{done e:List Int}(h:b1I g r done=some e):e=a9B g r done∧e.all a0A=true:=by
 unfold b1I at h
 grind
theorem c0R(h:i<l.length):l.take i++[l[i]]=l.take (i+1):=by simp
theorem b7F{l:List Int}{p:Int→Bool}(h:l.all p=true)(i:Nat):(l.take i).all p=true:=by
 grind
theorem c9V{p:Int→Bool}(h:l.all p=true)(i:Nat):(l.drop i).all p=true:=by
 grind
theorem c0S{σ β:Type}{f:σ→Option (σ ⊕ β)}(l:List Int)(k:Nat)(q:k≤l.length)(S:Nat→List Int→σ)(g:List Int×List Int→Int→(List Int×List Int) ⊕ β)(d:List Int→β)
  (j:∀i (h:i<l.length) c,k≤i→c.length=i-k→(∀a',g (l.take i,c) l[i]=.inl a'→f (S i c)=some (.inl (S (i+1) a'.2))∧a'.1=l.take (i+1)∧a'.2.length=i+1-k)∧(∀b,g (l.take i,c) l[i]=.inr b→f (S i c)=some (.inr b)))
  (e:∀c,c.length=l.length-k→f (S l.length c)=some (.inr (d c))):y0s f (S k [])=some (a8k (fun a=>d a.2) (a2Y g (l.drop k) (l.take k,[]))):=by
 have h:=a1N (f:=f) (l.drop k) (fun i a=>S (k+i) a.2) g (fun i a=>a.1=l.take (k+i)∧a.2.length=i) (fun a=>d a.2)
  (fun i hi a n=>by
   obtain⟨a1,c⟩:=a;obtain⟨m,o⟩:=n;simp only at m o;subst m;rw[a52]at hi;have p:k+i<l.length:=by omega
   grind)
  (fun a n=>by
   simp_all) (a:=(l.take k,[])) ⟨by simp,rfl⟩
 omega
def b4B(l c:List Int)(s:Int):Option (List Int):=bif l.all a0A then b1I (b0Y c s) (l.drop c.length) (l.take c.length)else none
theorem b3Z{s:Int}(v:a9G c s=true)(t:c.length≤l.length)(y:l.length<100000):
  a7n (l,c,s)=some (a5j (b4B l c s)):=by
 have m:short l:=by unfold short;omega
 have k:short c:=by unfold short;omega
 have d:0≤s:=by simp_all[a9G]
 have o:decide (((l.length:Nat):Int)<((c.length:Nat):Int))=false:=by simp_all
 unfold a7n b4B;simp only[a9y k,v,oB,bT,cF,o,a6i m];cases hw:l.all a0A with
 |false=>rfl
 |true=>
  have p:wrap .i64 (((l.length:Nat):Int)-((c.length:Nat):Int))=((l.length-c.length:Nat):Int):=by grind[a0B]
  have x:decide ((0:Int)≤((l.length-c.length:Nat):Int))=true:=by simp
  have q:lim (l.length-c.length)=true:=a0W (by omega);simp[p,q]
  have:=c0S (f:=a4Q) l c.length t (fun i h=>(l,c,s,(i:Int),h,())) (b3n (b0Y c s) (.inr ((6:Int),([]:List Int),()))) (fun h=>.inl (h,()))
   (fun i hi h u a=>by
    have n:short (l.take i):=by unfold short;grind
    have e:decide ((0:Int)≤(i:Int))=true:=by simp
    have j:decide ((i:Int)≤((l.length:Nat):Int))=true:=by grind
    have r:lim (h.length+1)=true:=a0W (by omega);constructor
    ·intro w g;unfold b3n at g;cases hq:a0A (W (l[i]-b0Y c s (l.take i)))with
     |false=>simp_all
     |true=>
      simp only[hq,cT,Sum.inl.injEq]at g;subst g;refine⟨?_,c0R hi,by grind⟩;simp only[a4Q,dlt hi,cT,a0D hi,oB,e,j,a03,tN,b4s n k d,a6v,hq,bT,cF,r,a0C (a18 hi m),a06]
    ·intro b hb;unfold b3n at hb;cases hq:a0A (W (l[i]-b0Y c s (l.take i)))with
     |true=>simp_all
     |false=>
      simp[hq]at hb;subst hb;simp only[a4Q,dlt hi,cT,a0D hi,oB,e,j,a03,tN,b4s n k d,a6v,hq,a36])
   (fun h a=>by simp[a4Q])
  rw[this,b4A];cases b1I (b0Y c s) (l.drop c.length) (l.take c.length)<;>rfl
theorem b4C{s:Int}(h:b4B l c s=some r):b2J (l.take c.length) r c s=some l∧r.all a0A=true∧r.length=l.length-c.length:=by
 unfold b4B at h;cases hw:l.all a0A with
 |false=>simp_all
 |true=>
  simp[hw]at h;obtain⟨e,g⟩:=b8z h;refine⟨?_,g,by simp_all[b2T]⟩;simp[b2J,b7F hw,g]
  grind[b4z,List.take_append_drop]
def b4a(l:List Int)(lag:Int)(t:List Int):Option (List Int):=bif l.all a0A then b1I (a9z lag t) l []else none
theorem c3D(o:b1E lag t=true)(c:t.length=3)(r:l.length<100000):
  a7E (l,lag,t)=some (a5j (b4a l lag t)):=by
 have a:short l:=by unfold short;omega
 obtain⟨e,j⟩:2≤lag∧lag≤1024:=by simp_all[b1E]
 unfold a7E b4a;simp only[b3D c,o,oB,bT,cF,b3f a];cases hw:l.all a0A with
 |false=>rfl
 |true=>
  have q:decide ((0:Int)≤((l.length:Nat):Int))=true:=by simp
  have d:lim l.length=true:=a0W (by omega);simp[d]
  have:=c0S (f:=a6t) l 0 (Nat.zero_le _) (fun i h=>(l,lag,l,(l.length:Int),(i:Int),h,t,())) (b3n (a9z lag t) (.inr ((6:Int),([]:List Int),()))) (fun h=>.inl (h,()))
   (fun i hi h n k=>by
    have m:lim (h.length+1)=true:=a0W (by omega);have hp:=b3h (lag:=lag) (t:=t) (a84 hi) a c e j;constructor
    ·intro p g;unfold b3n at g;cases hq:a0A (W (l[i]-a9z lag t (l.take i)))with
     |false=>simp_all
     |true=>
      simp only[hq,cT,Sum.inl.injEq]at g;subst g;refine⟨?_,c0R hi,by simp_all⟩;simp only[a6t,dlt hi,cT,a0D hi,oB,hp,a8l,hq,bT,cF,m,a0C (a18 hi a),a06]
    ·intro b hb;unfold b3n at hb;cases hq:a0A (W (l[i]-a9z lag t (l.take i)))with
     |true=>simp_all
     |false=>
      simp_all[a6t,a0D,a8l])
   (fun h k=>by simp[a6t])
  simp only[nZ]at this;rw[this,b4A,a28,List.take_zero];cases b1I (a9z lag t) l []<;>rfl
theorem b5R(h:b4a l lag t=some r):b3i r lag t=some l∧r.all a0A=true∧r.length=l.length:=by
 unfold b4a at h;cases hw:l.all a0A with
 |false=>simp_all
 |true=>
  simp[hw]at h;obtain⟨e,g⟩:=b8z h;refine⟨?_,g,by rw[e,b2T]⟩;simp[b3i,g];simp_all[b4z]
def rsG:List Int→Fil→List Int
 | [],_=>[]
 |x::r,f=>W (x-a1g f)::rsG r (b2n f x)
theorem b4D:∀r f,(rsG r f).length=r.length
 | [],_=>rfl
 |x::r,f=>by simp[rsG,b4D r]
def rsO:List Int→List Int→Fil→Option (List Int)
 | [],done,_=>some done
 |x::r,done,f=>bif a0A (W (x-a1g f))then rsO r (done++[W (x-a1g f)]) (b2n f x)else none
theorem c8D:∀(r done:List Int)(f:Fil),rsO r done f=bif (rsG r f).all a0A then some (done++rsG r f)else none
 | [],done,f=>by simp[rsO,rsG]
 |x::r,done,f=>by
  simp[rsO,rsG];cases a0A (W (x-a1g f))with
  |false=>rfl
  |true=>simp_all[c8D]
theorem c5V:∀(r z:List Int)(f:Fil),r.all a0A=true→stO (rsG r f) z f=some (z++r)
 | [],z,f,_=>by simp[rsG,stO]
 |x::r,z,f,h=>by
  rw[a07,bA]at h;have e:W (a1g f+W (x-a1g f))=x:=by grind[c8C]
  simp only[rsG,stO,e,h.1,cT,c5V r _ _ h.2,aA,a75]
theorem b3o{row:List Int}{a:List Stg}{b c:Int}(j:short row):∀(k i:Nat)(done:List Int)(f:Fil),i+k=row.length→done.length=i→FilOk f→
  y0s a5E (a,b,c,(row.length:Int),(i:Int),done++row.drop i,f,())=some (match rsO (row.drop i) done f with
   |some r=>.inl (a,b,c,r,())
   |none=>.inr ((6:Int),([]:List Int),()))
 |0,i,done,f,h,hd,hf=>by
  obtain rfl:i=row.length:=by omega
  rw[a50,a40];exact a0F (b:=Sum.inl (a,b,c,done,())) (by simp[a5E])
 |k+1,i,done,f,h,hd,hf=>by
  have hi:i<row.length:=by omega
  have l:row.length<1000000:=j;have d:decide ((0:Int)≤(i:Int))=true:=by simp
  have m:(done++row.drop i).length=row.length:=by grind
  have e:decide ((i:Int)<(((done++row.drop i).length:Nat):Int))=true:=by simp_all
  have g:rsO (row.drop i) done f=bif a0A (W (row[i]-a1g f))then rsO (row.drop (i+1)) (done++[W (row[i]-a1g f)]) (b2n f row[i])else none:=by
   rw[a02 hi];rfl
  rw[g];cases hw:a0A (W (row[i]-a1g f))with
  |true=>
   rw[a0E (s':=(a,b,c,(row.length:Int),((i+1:Nat):Int),(done++[W (row[i]-a1g f)])++row.drop (i+1),b2n f row[i],())) (by
    simp only[a5E,dlt hi,d,e,cT,a03,a6x hf,oB,tN,b3j hd hi,a5p,hw,bT,cF,b5j hf,c3n hd hi,a0C (show i<1000000 by omega)])]
   exact b3o j k (i+1) _ _ (by omega) (by simp_all) (c3m hf _)
  |false=>
   exact a0F (by
    simp only[a5E,dlt hi,d,e,cT,a03,a6x hf,oB,tN,b3j hd hi,a5p,hw,a36];rfl)
def lRO:List Stg→List Int→Option (List Int)
 | [],row=>some row
 |s::r,row=>match rsO row [] (b0Z s)with
  |some row'=>lRO r row'
  |none=>none
theorem c3E{f:Fil}(h:rsO row [] f=some d):d=rsG row f∧d.all a0A=true:=by
 rw[c8D]at h
 grind
theorem c0T:∀(a b:List Stg)(row:List Int),lO (a++b) row=match lO a row with|some r=>lO b r|none=>none
 | [],b,row=>rfl
 |s::a,b,row=>by
  simp only[a65,lO];split;exact c0T a b _;rfl
theorem c3F:∀(st:List Stg)(row d:List Int),row.all a0A=true→lRO st row=some d→lO st.reverse d=some row∧d.all a0A=true∧d.length=row.length
 | [],row,d,hw,h=>by
  simp[lRO]at h;subst h;exact⟨rfl,hw,rfl⟩
 |s::st,row,d,hw,h=>by
  simp only[lRO]at h
  split at h
  rename_i g c;obtain⟨e,f⟩:=c3E c;obtain⟨k,a,b⟩:=c3F st g d f h;refine⟨?_,a,by rw[b,e,b4D]⟩;rw[List.reverse_cons,c0T,k];simp only[lO];rw[e,c5V row [] _ hw,a09];cases h
theorem b2b{st:List Stg}(f:∀s∈st,stageB s=true)(l:st.length≤3):∀(j k:Nat)(row:List Int),k+j=st.length→short row→
  y0s a5F (st,(st.length:Int),(k:Int),row,())=some (match lRO (st.drop k) row with
   |some r=>.inl (r,())
   |none=>.inr ((6:Int),([]:List Int),()))
 |0,k,row,h,hs=>by
  obtain rfl:k=st.length:=by omega
  simp_all[a0F,a5F,lRO]
 |j+1,k,row,h,hs=>by
  have d:k<st.length:=by omega
  have g:=f _ (a05 d);have e:=b3o (a:=st) (b:=(st.length:Int)) (c:=(k:Int)) hs row.length 0 [] (b0Z st[k]) (by omega) rfl (c5T g);simp at e;have i:((0:Int) != 0)=false:=rfl;rw[a02 d];simp[lRO];cases hr:rsO row [] (b0Z st[k])with
  |some r=>
   rw[hr]at e;rw[a0E (s':=(st,(st.length:Int),((k+1:Nat):Int),r,())) (by simp only[a5F,dlt d,cT,a0D d,oB,b2L g,i,cF,e,a0C (show k<1000000 by omega)])];exact b2b f l j (k+1) r (by omega) (by have:=(c3E hr).1;unfold short at hs⊢;simp_all[b4D])
  |none=>
   simp_all[a0F,a5F,a0D,b2L]
def b2w(l:List Int)(st:List Stg):Option (List Int):=bif l.all a0A then lRO st l else none
theorem c2j(k:a9p st=true)(a:l.length<100000):b0D (l,st)=some (a5j (b2w l st)):=by
 have h:=k;simp only[a9p,bA,dT]at h;have f:short st:=by unfold short;omega
 have g:short l:=by unfold short;omega
 unfold b0D b2w;simp only[b2I f,k,oB,bT,cF,b2H g];cases hw:l.all a0A with
 |false=>rfl
 |true=>
  have:=b2b (lA.1 h.2) h.1 st.length 0 l (by omega) g
  simp at this;simp[a8n g,this];cases lRO st l<;>rfl
theorem b8A(h:b2w l st=some r):b1R r st=some l∧r.all a0A=true∧r.length=l.length:=by
 unfold b2w at h;cases hw:l.all a0A with
 |false=>simp_all
 |true=>
  simp[hw]at h;obtain⟨f,g,k⟩:=c3F st l r hw h;exact⟨by simp only[b1R,g,cT,f],g,k⟩
theorem p64{w:Nat}(h:w≤64):((2^w:Nat):Int) ∣ 18446744073709551616:=a20.2 (a55 2 h)
theorem d3V(n:Int):∃q,wrap .i64 n=n+18446744073709551616*q:=by
 rw[a8m,Int.bmod];split;exact⟨-(n / 18446744073709551616),by omega⟩;exact⟨-(n / 18446744073709551616)-1,by omega⟩
theorem c9W(h:w≤64)(n:Int):((2^w:Nat):Int) ∣ wrap .i64 n↔((2^w:Nat):Int) ∣ n:=by
 obtain⟨q,g⟩:=d3V n;rw[g]
 grind[a66,a46,p64]
theorem c0U(h:w≤64)(a:Int):2^w ∣ (a04 64 a).toNat↔((2^w:Nat):Int) ∣ a:=by
 have e:(((a04 64 a).toNat:Nat):Int)=a+18446744073709551616*-(a / 18446744073709551616):=by
  rw[a82];omega
 rw[←a20,e]
 grind[a66,a46,p64]
theorem c7p(w x y:Nat):2^w ∣ (x ||| y)↔2^w ∣ x∧2^w ∣ y:=by
 simp_all[Nat.dvd_iff_mod_eq_zero,Nat.or_mod_two_pow]
theorem d3W(h:w≤64)(a b:Int):((2^w:Nat):Int) ∣ bits .i64 .or a b↔((2^w:Nat):Int) ∣ a∧((2^w:Nat):Int) ∣ b:=by
 show((2^w:Nat):Int) ∣ wrap .i64 ((((a04 64 a) ||| (a04 64 b)).toNat:Nat):Int)↔_;rw[c9W h,a20,a72,c7p,c0U h,c0U h]
def orI(l:List Int)(a:Int):Int:=l.foldl (fun a x=>bits .i64 .or a x) a
theorem b4b{w:Nat}(h:w≤64):∀(l:List Int)(a:Int),((2^w:Nat):Int) ∣ orI l a↔((2^w:Nat):Int) ∣ a∧∀x∈l,((2^w:Nat):Int) ∣ x
 | [],a=>by simp[orI]
 |x::l,a=>by
  show((2^w:Nat):Int) ∣ orI l (bits .i64 .or a x)↔_;rw[b4b h l,d3W h];simp_all[and_assoc]
theorem c3G:∀(l:List Int),(∀x∈l,x=0)→orI l 0=0
 | [],_=>rfl
 |x::l,h=>by
  have g:=h x (List.mem_cons_self);subst g;show orI l (bits .i64 .or 0 0)=0;rw[show bits .i64 .or 0 0=0 from by rfl];simp_all[c3G]
theorem d3X(k:l.all a0A=true)(h:∃x∈l,x≠0):orI l 0≠0:=by
 intro e;obtain⟨x,g,f⟩:=h;have b:=((b4b (w:=62) (by omega) l 0).1 (by omega)).2 x g;have a:=a1O.1 (lA.1 k x g);omega
def a8R(l:List Int)(w:Nat):Prop:=
 ((∀x∈l,x=0)∧w=0)∨((∃x∈l,x≠0)∧w≤30∧(∀x∈l,((2^w:Nat):Int) ∣ x)∧(w=30∨∃x∈l,¬ ((2^(w+1):Nat):Int) ∣ x))
theorem c7q{v w:Nat}(h:v≤w){x:Int}(g:((2^w:Nat):Int) ∣ x):((2^v:Nat):Int) ∣ x:=
 Int.dvd_trans (a20.2 (a55 2 h)) g
theorem a8R.unique(hv:a8R l v)(g:a8R l w):v=w:=by
 have key:∀{v w:Nat},v≤30→w≤30→(∀x∈l,((2^w:Nat):Int) ∣ x)→(v=30∨∃x∈l,¬ ((2^(v+1):Nat):Int) ∣ x)→w≤v:=by
  grind[c7q]
 rcases hv with⟨f,hv⟩|⟨⟨x,c,h⟩,hv1,hv2,hv3⟩
 ·rcases g with⟨-,g⟩|⟨⟨x,c,h⟩,-⟩
  all_goals grind
 ·rcases g with⟨f,-⟩|⟨-,k,a,b⟩
  all_goals grind
theorem c3H:∀(n N:Nat),N≤n→0<N→∃k m,N=2^k*(2*m+1)
 |0,N,h,h0=>absurd h0 (by omega)
 |n+1,N,h,h0=>by
  by_cases he:N%2=0
  obtain⟨k,m,e⟩:=c3H n (N / 2) (by omega) (by omega);refine⟨k+1,m,?_⟩;rw[a68,a57 (2^k) 2,Nat.mul_assoc,←e];omega;exact⟨0,N / 2,by omega⟩
theorem d2t{k:Nat}(h:2^k*(2*m+1)<2^64):(2^k*(2*m+1)) &&& (2^64-2^k*(2*m+1))=2^k:=by
 have hp:1≤2^k:=a81;have n:k<64:=by
  refine a96 fun g=>?_
  have d:2^64≤2^k:=a08 (by simp) g
  grind
 have e:2^k*(2*m+1)=(2^k*(2*m)+(2^k-1))+1:=by grind
 have l:2^k*(2*m)+(2^k-1)<2^64:=by omega
 refine Nat.eq_of_testBit_eq fun i=>?_
 have a:(2^64-2^k*(2*m+1)).testBit i=(decide (i<64)&&!(2^k*(2*m)+(2^k-1)).testBit i):=by
  rw[e];exact Nat.testBit_two_pow_sub_succ l i
 have f:=a58 (2*m+1) (b:=0) (i:=k) (by omega) i;rw[a85]at f;have c:=a58 (2*m) (b:=2^k-1) (i:=k) (by omega) i;rw[Nat.testBit_and,a,f,c,Nat.testBit_two_pow]
 by_cases d:i<k
 grind
 by_cases h2:k=i
 simp_all;obtain⟨j,rfl⟩:∃j,i=k+(j+1):=⟨i-k-1,by omega⟩;have o:k+(j+1)-k=j+1:=by omega
 have p:(2*m+1) / 2=m:=by omega
 simp_all[Nat.testBit_succ]
theorem c9X:∀k:Nat,k<64→b1o[(2^k*285870213051353865)%18446744073709551616 / 288230376151711744]?=some (k:Int):=by
 have h:∀k:Fin 64,b1o[(2^k.val*285870213051353865)%18446744073709551616 / 288230376151711744]?=some (k.val:Int):=by decide
 exact fun k g=>h ⟨k,g⟩
theorem c5E{k:Nat}:¬ 2^(k+1) ∣ 2^k*(2*m+1):=by
 rintro⟨c,h⟩
 rw[a68,Nat.mul_assoc]at h
 grind[Nat.eq_of_mul_eq_mul_left]
theorem c9Y(d:0<N)(h:N<18446744073709551616):∃k:Nat,a1H (N:Int)=some (k:Int)∧2^k ∣ N∧¬ 2^(k+1) ∣ N:=by
 obtain⟨k,m,e⟩:=c3H N N (a27 _) d;have n:2^k≤N:=by grind
 have i:k<64:=by
  refine a96 fun g=>?_
  have l:2^64≤2^k:=a08 (by simp) g;omega
 refine⟨k,?_,⟨_,e⟩,e▸c5E⟩;have hb:bits .u64 .and (N:Int) (wrap .u64 (0-(N:Int)))=((2^k:Nat):Int):=by
  have b:wrap .u64 (0-(N:Int))=((18446744073709551616-N:Nat):Int):=by
   grind[wrap,IntKind.bits,IntKind.signed]
  rw[b];show wrap .u64 (((a04 64 (N:Int)) &&& (a04 64 ((18446744073709551616-N:Nat):Int))).toNat:Int)=_;rw[a24,a24,a94,a29,a29,a23 h,a23 (by omega)]
  have:=d2t (k:=k) (m:=m) (by omega)
  rw[←e]at this;rw[show(18446744073709551616:Nat)=2^64 from rfl,this];exact a0M (by omega)
 have j:((N:Int)==0)=false:=by grind
 unfold a1H;rw[hb,j,cF];have f:wrap .u64 (((2^k:Nat):Int)*285870213051353865)=(((2^k*285870213051353865)%18446744073709551616:Nat):Int):=by
  rfl
 have a:=c9X k i;generalize (2^k*285870213051353865)%18446744073709551616=M at f a;have c:=a6G (N:=M) (o:=58) (by omega);rw[f,show(58:Int)=((58:Nat):Int)from rfl,c,show 2^58=288230376151711744 from rfl];generalize M / 288230376151711744=J at a
 grind[a0D,a0B]
theorem c9Z{n:Nat}(g:n≤62)(c:Int):A0o .i64 (((2^n:Nat):Int)*c) (n:Int)=c:=by
 have hp:0<2^n:=a16 n;have e:min (a42 (n:Int)) (IntKind.bits .i64)=n:=by grind[IntKind.bits]
 have h:((2^n:Nat):Int)=2^n:=by simp
 unfold A0o
 grind[a64]
theorem c5W{l:List Int}(g:short l):∀(k i:Nat)(a:Int),i+k=l.length→y0s a5A (a,l,(l.length:Int),(i:Int),())=some (orI (l.drop i) a,())
 |0,i,a,h=>by
  obtain rfl:i=l.length:=by omega
  simp_all[a0F,a5A,orI]
 |k+1,i,a,h=>by
  have hi:i<l.length:=by omega
  have f:l.length<1000000:=g;rw[a02 hi,a0E (s':=(bits .i64 .or a l[i],l,(l.length:Int),((i+1:Nat):Int),())) (by
   simp only[a5A,dlt hi,cT,a0D hi,oB,a0C (show i<1000000 by omega)])]
  exact c5W g k (i+1) _ (by omega)
theorem c5F{l:List Int}{r:Nat}(g:r≤30)(h:r=30∨¬ ((2^(r+1):Nat):Int) ∣ orI l 0):r=30∨∃x∈l,¬ ((2^(r+1):Nat):Int) ∣ x:=by
 grind[b4b,a86]
theorem b7G{l:List Int}(y:short l)(j:l.all a0A=true):∃w:Nat,a3Q l=some (w:Int)∧w≤30∧a8R l w:=by
 have a:=c5W y l.length 0 0 (by omega);simp at a;unfold a3Q;simp[a]
 by_cases hz:∀x∈l,x=0
 have e:=c3G l hz;exact⟨0,by simp_all,by omega,.inl ⟨hz,rfl⟩⟩
 ·have g:∃x∈l,x≠0:=Classical.byContradiction fun m=>hz fun x g=>Classical.byContradiction fun s=>m ⟨x,g,s⟩;have t:=d3X j g;have n:(orI l 0==0)=false:=by simp_all
  obtain⟨q,u⟩:∃q,wrap .u64 (orI l 0)=orI l 0+18446744073709551616*q:=⟨-(orI l 0 / 18446744073709551616),by
   grind[wrap,IntKind.bits,IntKind.signed]⟩
  obtain⟨B,r2⟩:=b6T (orI l 0);obtain⟨N,d⟩:=a01 B;have b:∀v,v≤64→(2^v ∣ N↔((2^v:Nat):Int) ∣ orI l 0):=fun v hv=>by
   rw[←a20,←d,u]
   grind[a66,a46,p64]
  have h:0<N:=by
   refine Nat.pos_of_ne_zero fun C=>?_
   obtain⟨x,f,A⟩:=g;have E:=((b4b (w:=62) (by omega) l 0).1 ((b 62 (by omega)).1 (by omega))).2 x f;have z:=a1O.1 (lA.1 j x f);omega
  obtain⟨k,p,c,r⟩:=c9Y h (by omega);have i:k≤63:=by
   refine Nat.le_of_not_lt fun o=>?_
   have a:2^64≤2^k:=a08 (by simp) (by omega)
   have:=Nat.le_of_dvd h c
   omega
  simp only[n,cF,d,p,oB];have D:v0s (k:Int) 30=((min k 30:Nat):Int):=by rw[a9O];omega
  refine⟨min k 30,by grind,by omega,.inr ⟨g,by omega,?_,?_⟩⟩
  all_goals grind[b4b,Nat.dvd_trans,a55,c5F]
theorem d2u(g:w≤30)(d:l.all a0A=true)(h:a8R l w):b0O (w:Int) l=some (l.map fun x=>A0o .i64 x (w:Int)):=by
 have f:∀x∈l,((2^w:Nat):Int) ∣ x:=by
  rcases h with⟨h,-⟩|⟨-,-,h,-⟩
  all_goals grind[a86]
 have:l.all (b1H (w:Int))=true:=by
  rw[lA];intro x k;obtain⟨c,a⟩:=f x k;have b:a26 x (A0n .i64 1 (w:Int))=0:=by simp_all[c3A]
  simp_all[b1H]
 simp only[b0O,this,cT]
theorem b1d{N n:Nat}(g:n≤63)(h:N<2^n)(L:List Int):(a0P (N:Int) n L).length=L.length+n:=by
 grind[a0P,a6G,a67,b3l]
def a5L(k:Nat)(x:Int):Nat:=if a0R x / 2^k<32 then a0R x / 2^k+1+k else 65
theorem c3I{k:Nat}(h:k≤25)(x:Int):a5L k x≤65:=by
 grind[a5L]
theorem c8E{k:Nat}(a:k≤25)(g:a0A x=true)(L:List Int):(a6X k x L).length=L.length+a5L k x:=by
 unfold a6X a5L;have hp:0<2^k:=a16 k;have h:a0R x%2^k<2^k:=a41 _ hp;have f:=a9H g;split;rw[b1d (by omega) h,b0L];omega
 grind[b1d,b0L]
theorem b8B{k:Nat}(g:k≤25):∀(l L:List Int),l.all a0A=true→(a4U k l L).length=L.length+(l.map (a5L k)).sum
 | [],L,_=>by rfl
 |x::l,L,h=>by
  simp only[a07,bA]at h;have e:a4U k (x::l) L=a4U k l (a6X k x L):=rfl;rw[e,b8B g l _ h.2,c8E g h.1,List.map_cons,a62];omega
theorem c3J{k:Nat}(c:k≤25)(g:a0A x=true):a7G ((k:Int),x)=some ((a5L k x:Nat):Int):=by
 have d:=a9H g;have f:A0o .u64 ((a0R x:Nat):Int) (k:Int)=((a0R x / 2^k:Nat):Int):=a6G (by omega);have a:wrap .i64 ((a0R x / 2^k:Nat):Int)=((a0R x / 2^k:Nat):Int):=b2R (a38 (a32 _ _) d);have h:decide ((k:Int)<0)=false:=by simp
 unfold a7G a5L;simp only[a9c c,b0M,g,oB,bT,cF,b0N g,h,f,a];generalize a0R x / 2^k=q
 by_cases hq:q<32
 have b:decide ((q:Int)<32)=true:=decide_eq_true (by omega);simp only[b,cT,if_pos hq]
 grind[a0B]
 grind
theorem c3K{f:Int→Nat}{M:Nat}(h:∀x,f x≤M):∀l:List Int,(l.map f).sum≤M*l.length
 | []=>by simp
 |x::l=>by
  have:=h x
  have:=c3K h l
  rw[List.map_cons,a62,lC,a92,a93];omega
theorem c3L{f:Int→Nat}{l:List Int}{i:Nat}(h:i<l.length):((l.take (i+1)).map f).sum=((l.take i).map f).sum+f l[i]:=by
 rw[a49 h,pA,List.sum_append];rfl
theorem b6U{k:Nat}(g:k≤25)(c:l.all a0A=true)(d:l.length<10000):a3A ((k:Int),l)=some (((l.map (a5L k)).sum:Nat):Int):=by
 have:=a1D (f:=a4b) (fun i:Nat=>((k:Int),((((l.take i).map (a5L k)).sum:Nat):Int),l,(l.length:Int),(i:Int),())) l.length (b:=((((l.map (a5L k)).sum:Nat):Int),()))
  (fun i hi=>by
   have a:=c3J g (lA.1 c _ (a05 hi));have h:=c3K (c3I g) (l.take (i+1));rw[c3L hi]at h;rw[a95]at h;have e:wrap .i64 (((((l.take i).map (a5L k)).sum:Nat):Int)+((a5L k l[i]:Nat):Int))=((((l.take (i+1)).map (a5L k)).sum:Nat):Int):=by
    grind[c3L,a0B]
   simp only[a4b,dlt hi,cT,a0D hi,oB,a,e,a0C (show i<1000000 by omega)])
  (by simp_all[a4b])
 unfold a3A;simp_all
theorem d0A(x:Int){n:Nat}(f:n≤62):∃N:Nat,a0Z x n=(N:Int)∧N<2^n:=by
 obtain⟨h,g⟩:=b6T x;obtain⟨y,k⟩:=a01 h;have hp:0<2^n:=a16 n;refine⟨y%2^n,?_,a41 _ hp⟩
 grind[a0Z,c3v]
theorem b3p{n:Nat}(h:n≤62):∀(l L:List Int),(a1L n l L).length=L.length+n*l.length
 | [],L=>by rfl
 |x::l,L=>by
  have e:a1L n (x::l) L=a1L n l (a0P (a0Z x n) n L):=rfl;obtain⟨N,g,f⟩:=d0A x h;rw[e,b3p h l,g,b1d (by omega) f,lC,a92,a93];omega
theorem d3Y{x:Int}(h:a0A x=true):a1h x ((31:Nat):Int)=true:=by
 have:=a1O.1 h
 have g:A0n .i64 (-1) (((31:Nat):Int)-1)=-1073741824:=by rfl
 have f:wrap .i64 (A0n .i64 1 (((31:Nat):Int)-1)-1)=1073741823:=by rfl
 unfold a1h
 grind
theorem b8C{x:Int}(h:a0A x=true):∀(k w:Nat),w+k=32→1≤k→a1T x k w≤31
 |k+1,w,hk,_=>by
  simp[a1T]
  by_cases h31:w=31
  grind[d3Y]
  ·cases (x != 0)&&!a1h x w with
   |true=>exact b8C h k (w+1) (by omega) (by omega)
   |false=>grind
theorem b3q:∀(l:List Int)(w:Nat),l.all a0A=true→w≤31→l.foldl (fun w x=>a1T x (32-w) w) w≤31
 | [],w,_,h=>h
 |x::l,w,hl,h=>by
  simp only[a07,bA]at hl;exact b3q l _ hl.2 (b8C hl.1 (32-w) w (by omega) (by omega))
theorem a2g{l:List Int}(h:l.all a0A=true):a0J l≤31:=b3q l 0 h (by omega)
theorem b2U(g:l.length<10000):a5V l=some (((5+a0J l*l.length:Nat)):Int):=by
 have h:=a6F l;have f:a0J l*l.length≤32*l.length:=a25 _ h;unfold a5V;simp only[a2y (show short l by unfold short;omega),oB]
 grind[a0B]
def b1J(k:Int)(part:List Int):Nat:=5+(if k=31 then 5+a0J part*part.length else(part.map (a5L k.toNat)).sum)
def a5M:List Nat→List Int→List Int→Nat
 |z::zs,k::ks,l=>b1J k (l.take z)+a5M zs ks (l.drop z)
 |_,_,_=>0
theorem a3J{q:Nat}(h:q<2147483648):wrap .u64 (q:Int)=(q:Int):=a0M (by omega)
theorem c8F(h:kB k=true)(g:part.all a0A=true)(L:List Int):(a9A k part L).length=L.length+b1J k part:=by
 simp[kB]at h;obtain⟨K,rfl⟩:=a01 (show 0≤k by omega)
 grind[b1d,a2g,a9A,b1J,a3J,b3p,b8B]
theorem b8D:∀(zs:List Nat)(ks l L:List Int),ks.all kB=true→l.all a0A=true→(a4V zs ks l L).length=L.length+a5M zs ks l
 |z::zs,k::ks,l,L,h,hw=>by
  simp only[a07,bA]at h;have g:(l.take z).all a0A=true:=lA.2 fun x a=>lA.1 hw x (a34 a);have f:(l.drop z).all a0A=true:=lA.2 fun x a=>lA.1 hw x (a35 a);simp only[a4V,a5M];rw[b8D zs ks _ _ h.2 f,c8F h.1 g];omega
 | [],_,_,_,_,_=>by rfl
 |_::_,[],_,_,_,_=>by rfl
theorem d0B(h:kB k=true)(part:List Int):b1J k part≤10+65*part.length:=by
 simp[kB]at h;unfold b1J;split;have g:a0J part*part.length≤32*part.length:=a25 _ (a6F part);omega
 have:=c3K (c3I (k:=k.toNat) (by omega)) part
 omega
theorem b2V{zn:List Nat}{p:Prt}(E:p.2.1.length=zn.length)(a:p.2.1.all kB=true)(F:zn.length≤256):∀(j i:Nat)(l:List Int)(c:Nat),i+j=zn.length→(zn.drop i).sum=l.length→l.all a0A=true→l.length≤5000→c+10*j+65*l.length<1000000→
  y0s a1w (l,(c:Int),(zn.length:Int),(i:Int),a1q zn,p,())=some (((c+a5M (zn.drop i) (p.2.1.drop i) l:Nat):Int),())
 |0,i,l,c,hi,_,_,_,_=>by
  obtain rfl:i=zn.length:=by omega
  grind[a0F,a1w,a5M]
 |j+1,i,l,c,hi,hsum,hw,hl5,hb=>by
  have h:i<zn.length:=by omega
  have f:i<p.2.1.length:=by omega
  have o:=lA.1 a _ (a05 f);rw[b4v h]at hsum;have z:decide ((0:Int)≤(i:Int))=true:=by simp
  have A:decide ((i:Int)<(((a1q zn).length:Nat):Int))=true:=by simp_all[a1y]
  have B:decide ((0:Int)≤((zn[i]:Nat):Int))=true:=by simp
  have C:decide (((zn[i]:Nat):Int)≤((l.length:Nat):Int))=true:=by grind
  have d:(l.take zn[i]).length=zn[i]:=by simp_all
  have e:(l.drop zn[i]).length=(zn.drop (i+1)).sum:=by grind
  have v:(l.take zn[i]).all a0A=true:=lA.2 fun x y=>lA.1 hw x (a34 y);have w:(l.drop zn[i]).all a0A=true:=lA.2 fun x y=>lA.1 hw x (a35 y);have g:=d0B o (l.take zn[i]);rw[d]at g;have n:a1w (l,(c:Int),(zn.length:Int),(i:Int),a1q zn,p,())=some (.inl (l.drop zn[i],((c+b1J p.2.1[i] (l.take zn[i]):Nat):Int),(zn.length:Int),((i+1:Nat):Int),a1q zn,p,())):=by
   by_cases h31:p.2.1[i]=31
   have b:(p.2.1[i]==31)=true:=by simp_all
   have m:=b2U (l:=l.take zn[i]) (by omega);have u:b1J p.2.1[i] (l.take zn[i])=5+(5+a0J (l.take zn[i])*(l.take zn[i]).length):=by simp_all[b1J]
   rw[u]at g⊢;generalize 5+a0J (l.take zn[i])*(l.take zn[i]).length=r at m g⊢;have s:wrap .i64 (5+(r:Int))=5+(r:Int):=a0B (by omega);have t:wrap .i64 ((c:Int)+(5+(r:Int)))=((c+(5+r):Nat):Int):=by grind[a0B]
   simp only[a1w,dlt h,z,A,a8p h,B,C,cT,a03,tN,a0D f,oB,b,m,s,t,a19,a0C (show i<1000000 by omega)];have b:(p.2.1[i]==31)=false:=by simp_all
   have q:=o;simp[kB]at q;obtain⟨K,D⟩:=a01 (show 0≤p.2.1[i]by omega);have m:=b6U (k:=K) (by omega) v (by omega);have u:b1J p.2.1[i] (l.take zn[i])=5+((l.take zn[i]).map (a5L K)).sum:=by simp_all[b1J]
   rw[←D]at m;rw[u]at g⊢;generalize ((l.take zn[i]).map (a5L K)).sum=r at m g⊢;have s:wrap .i64 (5+(r:Int))=5+(r:Int):=a0B (by omega);have t:wrap .i64 ((c:Int)+(5+(r:Int)))=((c+(5+r):Nat):Int):=by grind[a0B]
   simp only[a1w,dlt h,z,A,a8p h,B,C,cT,cF,a03,tN,a0D f,oB,b,m,s,t,a19,a0C (show i<1000000 by omega)]
  rw[a0E n,b2V E a F j (i+1) (l.drop zn[i]) _ (by omega) e.symm w (by omega) (by omega)];rw[a02 h,a02 f]
  grind[a5M]
theorem c2k(h:PartsOk p n warm l zn):a4R (p,n,warm,l)=some ((4+a5M zn p.2.1 l:Nat):Int):=by
 have f:Go.Ab.short p.2.1:=by have:=h.ks;have:=h.len;unfold Go.Ab.short;omega
 have k:=h.short;have a:=h.len;have g:=b2V h.ks h.all h.len zn.length 0 l 4 (by omega) (by rw[a28];exact h.sum) h.wide h.short (by omega);simp only[nZ,a30,a28]at g;unfold a4R;simp only[b2N f,h.may,b1b h.row h.rest h.wide h.short,oB,bT,cF,a2l,h.sizes,a1y,g]
theorem c2l(h:PartsOk p n warm l zn)(L:List Int):(a4w p zn l L).length=L.length+(4+a5M zn p.2.1 l):=by
 obtain⟨o,g⟩:=a01 h.order.1;have f:=h.order.2;unfold a4w;rw[b8D _ _ _ _ h.all h.wide,g,a3J (by omega),b1d (by omega) (by omega)];omega
def a2m(o:Int):Sub:=((0:Int),(0:Int),o,(0:Int),(0:Int),([]:List Int),a00 3 (0:Int),([]:List Stg),([]:List Int),((0:Int),([]:List Int),()),([]:List Int),())
theorem c5G(o:Int):SmallS (a2m o):=⟨by simp[a2m],by rfl,by simp[a2m],by simp[a2m],by simp[a2m],by simp[a2m]⟩
def b5S(k:Nat)(l:List Int):Nat:=(l.map (a5L k)).sum
def rbN(l:List Int):Nat→Nat
 |0=>0
 |i+1=>if b5S (i+1) l<b5S (rbN l i) l then i+1 else rbN l i
theorem c3M(l:List Int):∀i,rbN l i≤i
 |0=>a27 _
 |i+1=>by
  have:=c3M l i
  simp only[rbN]
  split<;>omega
theorem b4E{k:Nat}(h:k≤25)(f:l.all a0A=true)(g:l.length<10000):a3A ((k:Int),l)=some ((b5S k l:Nat):Int):=b6U h f g
theorem d3Z(h:a<b):decide ((a:Int)<(b:Int))=true:=decide_eq_true (by omega)
theorem c7r(h:¬ a<b):decide ((a:Int)<(b:Int))=false:=decide_eq_false (by omega)
theorem b5T(g:l.all a0A=true)(h:l.length<10000):b1z l=some ((rbN l 25:Nat):Int):=by
 have:=a1D (f:=a8F) (fun i:Nat=>(l,((rbN l i:Nat):Int),((b5S (rbN l i) l:Nat):Int),((i+1:Nat):Int),())) 25 (b:=(((rbN l 25:Nat):Int),()))
  (fun i hi=>by
   have a:decide (((i+1:Nat):Int)≤25)=true:=decide_eq_true (by omega);have d:wrap .i64 (((i+1:Nat):Int)+1)=((i+1+1:Nat):Int):=a0C (by omega);have c:=b4E (k:=i+1) (by omega) g h
   by_cases hlt:b5S (i+1) l<b5S (rbN l i) l
   simp_all[a8F,rbN];simp only[a8F,a,cT,cF,c,oB,d,c7r hlt,rbN,hlt,if_false])
  (by
   rfl)
 have m:=b4E (k:=0) (by omega) g h;have j:((0+1:Nat):Int)=1:=rfl;have e:rbN l 0=0:=rfl;simp_all[b1z]
def b2x(l:List Int):Int:=if 5+a0J l*l.length<b5S (rbN l 25) l then 31 else((rbN l 25:Nat):Int)
theorem c7s(l:List Int):kB (b2x l)=true:=by
 have:=c3M l 25
 unfold b2x;split;rfl;simp only[kB,a99,bA,dT];omega
theorem b8E(g:l.all a0A=true)(h:l.length<10000):a8G l=some (b2x l):=by
 have a:=c3M l 25;have f:=b4E (k:=rbN l 25) a g h;unfold a8G b2x
 by_cases hlt:5+a0J l*l.length<b5S (rbN l 25) l
 simp only[b5T g h,b2U h,f,oB,d3Z hlt,cT,hlt,if_true];simp only[b5T g h,b2U h,f,oB,c7r hlt,cF,hlt,if_false]
def a2Q:List Nat→List Int→List Int
 | [],_=>[]
 |z::zs,l=>b2x (l.take z)::a2Q zs (l.drop z)
theorem b4c:∀zs l,(a2Q zs l).length=zs.length
 | [],_=>rfl
 |z::zs,l=>by simp[a2Q,b4c zs]
theorem b8F:∀zs l,(a2Q zs l).all kB=true
 | [],_=>rfl
 |z::zs,l=>by simp[a2Q,b8F zs,c7s]
theorem b5q{zn:List Nat}{n warm most least order:Int}{L:List Int}{a b:Prt}(m:zn.length≤256):∀(j i:Nat)(rest ks:List Int),i+j=zn.length→(zn.drop i).sum=rest.length→rest.all a0A=true→rest.length≤5000→ks.length=i→
  y0s a7Y (n,warm,most,L,least,order,rest,((zn.length:Nat):Int),(i:Int),a1q zn,a,b,(order,ks,()),())=some (n,warm,most,L,least,order,a,b,(order,ks++a2Q (zn.drop i) rest,()),())
 |0,i,rest,ks,h,_,_,_,_=>by
  obtain rfl:i=zn.length:=by omega
  simp_all[a0F,a7Y,a2Q]
 |j+1,i,rest,ks,h,hr,hwr,hr5,hki=>by
  have g:i<zn.length:=by omega
  rw[b4v g]at hr;have k:decide ((0:Int)≤(i:Int))=true:=by simp
  have c:decide ((i:Int)<(((a1q zn).length:Nat):Int))=true:=by simp_all[a1y]
  have d:decide ((0:Int)≤((zn[i]:Nat):Int))=true:=by simp
  have e:decide (((zn[i]:Nat):Int)≤((rest.length:Nat):Int))=true:=by grind
  have l:=b8E (b7F hwr zn[i]) (by grind);have f:lim (ks.length+1)=true:=a0W (by omega);rw[a02 g,a0E (s':=(n,warm,most,L,least,order,rest.drop zn[i],((zn.length:Nat):Int),((i+1:Nat):Int),a1q zn,a,b,(order,ks++[b2x (rest.take zn[i])],()),())) (by
   simp only[a7Y,dlt g,k,c,a8p g,d,e,cT,a03,tN,l,oB,f,a19,a0C (show i<1000000 by omega),a06])]
  rw[b5q m j (i+1) _ _ (by omega) (by grind) (c9V hwr _) (by grind) (by simp_all)];simp_all[a2Q]
def zsN(o n warm:Int):List Nat:=(a1S o n warm).map a42
def b2p(o n warm:Int)(l:List Int):Prt:=(o,a2Q (zsN o n warm) l,())
def b8G(o n warm:Int)(l:List Int):Nat:=4+a5M (zsN o n warm) (a2Q (zsN o n warm) l) l
def a1I(n warm:Int)(l:List Int):Nat→Prt×Nat
 |0=>((0,[],()),0)
 |i+1=>if(a1S (i:Int) n warm).length=0 then a1I n warm l i else
   if(a1I n warm l i).2=0∨b8G (i:Int) n warm l<(a1I n warm l i).2 then(b2p (i:Int) n warm l,b8G (i:Int) n warm l)else a1I n warm l i
def b6o(n warm:Int)(l:List Int):Prt:=(a1I n warm l 7).1
theorem c5X(b:(a1S (o:Int) n warm).length≠0)(a:(l.length:Int)=n-warm)(c:l.all a0A=true)(k:l.length≤5000):
  ∃h,a1S (o:Int) n warm=a1q h∧zsN (o:Int) n warm=h∧h.length≤256∧h.sum=l.length∧a5K (b2p (o:Int) n warm l) n warm=true∧PartsOk (b2p (o:Int) n warm l) n warm l h:=by
 obtain⟨h,e,i,j⟩:=b3G b;have d:zsN (o:Int) n warm=h:=by simp_all[zsN,b3H]
 have hp:a5K (b2p (o:Int) n warm l) n warm=true:=by
  simp only[a5K,b2p,bA,a33,beq_eq_false_iff_ne,ne_eq,beq_iff_eq];simp_all[a1y,b4c,b8F]
 obtain⟨f,g⟩:=PartsOk.of hp a c k
 have:f=h:=by
  have m:=g.sizes
  grind[b2p,b3H]
 grind
theorem b4F{n warm:Int}{l:List Int}(b:a6y n warm=true)(f:(l.length:Int)=n-warm)(a:l.all a0A=true)(g:l.length≤5000):∀i,1≤i→(a1I n warm l i).2≠0∧a5K (a1I n warm l i).1 n warm=true
 |0,h=>absurd h (by omega)
 |i+1,_=>by
  by_cases hs:(a1S (i:Int) n warm).length=0
  ·simp only[a1I,hs,if_true];cases i with
   |zero=>grind[c7k]
   |succ i=>exact b4F b f a g (i+1) (by omega)
  ·obtain⟨c,-,-,-,-,hp,-⟩:=c5X hs f a g;simp only[a1I,hs,if_false];split;simp_all[b8G]
   ·rename_i k;cases i with
    |zero=>exact absurd (Or.inl rfl) k
    |succ i=>exact b4F b f a g (i+1) (by omega)
theorem d0C(f:a6y n warm=true)(g:(l.length:Int)=n-warm)(k:l.all a0A=true)(h:l.length≤5000):a5K (b6o n warm l) n warm=true:=
 (b4F f g k h 7 (by omega)).2
theorem c2m(z:a6y n warm=true)(x:(l.length:Int)=n-warm)(t:l.all a0A=true)(s:l.length≤5000):
  b0E (n,warm,(6:Int),l)=some (b6o n warm l,0):=by
 have:=a1D (f:=a3S) (fun i:Nat=>(n,warm,(6:Int),l,(((a1I n warm l i).2:Nat):Int),(i:Int),((0:Int),([]:List Int),()),(a1I n warm l i).1,())) 7 (b:=(((0:Int),([]:List Int),()),b6o n warm l,()))
  (fun i hi=>by
   have j:decide ((i:Int)≤v0s (v0r 6 0) 8)=true:=decide_eq_true (by have:v0s (v0r 6 0) 8=6:=rfl;omega);have r:wrap .i64 ((i:Int)+1)=((i+1:Nat):Int):=a0C (by omega)
   by_cases hs:(a1S (i:Int) n warm).length=0
   simp_all[a1I,a3S,a2l];have hb:((((a1S (i:Int) n warm).length:Nat):Int)==0)=false:=by simp_all
   obtain⟨h,p,o,w,y,-,q⟩:=c5X hs x t s;have d:=b5q (n:=n) (warm:=warm) (most:=6) (least:=(((a1I n warm l i).2:Nat):Int)) (order:=(i:Int)) (L:=l) (a:=((0:Int),([]:List Int),())) (b:=(a1I n warm l i).1) w h.length 0 l [] (by omega) (by simp_all) t s rfl;simp at d;have e:=c2k q;simp only[b2p,o]at e;have k:(((h.length:Nat):Int)==0)=false:=by simp_all[a1y]
   have m:(((a1q h).length:Nat):Int)=((h.length:Nat):Int):=by rw[a1y]
   have v:b2p (i:Int) n warm l=((i:Int),a2Q h l,()):=by simp only[b2p,o]
   have u:b8G (i:Int) n warm l=4+a5M h (a2Q h l) l:=by simp only[b8G,o]
   by_cases hz:(a1I n warm l i).2=0
   have g:((((a1I n warm l i).2:Nat):Int)==0)=true:=by simp_all
   have c:a1I n warm l (i+1)=(((i:Int),a2Q h l,()),4+a5M h (a2Q h l) l):=by simp_all[a1I]
   simp only[a3S,j,cT,a2l,oB,p,m,k,cF,d,e,r,c,g];have g:((((a1I n warm l i).2:Nat):Int)==0)=false:=by simp_all
   by_cases hlt:4+a5M h (a2Q h l) l<(a1I n warm l i).2
   have c:a1I n warm l (i+1)=(((i:Int),a2Q h l,()),4+a5M h (a2Q h l) l):=by simp_all[a1I]
   simp only[a3S,j,cT,a2l,oB,p,m,k,cF,d,e,r,c,g,d3Z hlt];have c:a1I n warm l (i+1)=a1I n warm l i:=by simp only[a1I,hs,if_false,hz,false_or,v,u,hlt]
   simp only[a3S,j,cT,a2l,oB,p,m,k,cF,d,e,r,c,g,c7r hlt])
  (by
   rfl)
 simp_all[a1I,b0E,b1b]
def a1a(k:Int)(s:Sub):Sub:=
 (k,(0:Int),(if k=2 then s.2.2.1 else 0),(if k=3∨k=4 then s.2.2.2.1 else 0),(if k=4 then s.2.2.2.2.1 else 0),(if k=3∨k=4 then s.2.2.2.2.2.1 else[]),
  ((if k=4 then s.2.2.2.2.2.2.1 else a00 3 (0:Int)),(if k=5 then s.2.2.2.2.2.2.2.1 else[]),([]:List Int),((0:Int),([]:List Int),()),([]:List Int),()))
def z0:Prt:=((0:Int),([]:List Int),())
def a1U(s:Sub)(w:Nat)(wm:List Int)(p:Prt)(r:List Int):Sub:=
 (s.1,(w:Int),s.2.2.1,s.2.2.2.1,s.2.2.2.2.1,s.2.2.2.2.2.1,s.2.2.2.2.2.2.1,s.2.2.2.2.2.2.2.1,wm,p,r,())
theorem c8G(h:SmallS s)(k:Int):a6l (k,s)=some (a1a k s):=by
 have f:short s.2.2.2.2.2.1:=by have:=h.coefs;unfold short;omega
 have g:short s.2.2.2.2.2.2.2.1:=by have:=h.stages;unfold short;omega
 grind[a6l,a1a,b2o,b6Q]
theorem c3N(h:SmallS s)(k:Int):SmallS (a1a k s):=by
 have g:=h.coefs;have f:=h.taps;have a:=h.stages;refine⟨?_,?_,?_,by simp[a1a],by simp[a1a],by simp[a1a]⟩<;>simp only[a1a]<;>split<;>first|omega|simp
theorem c7t:a4c (a1a k s).1 (a1a k s) n↔a4c k s n:=by
 unfold a4c a1a
 grind
open Classical in
def a3j (l:List Int):Nat:=if h:∃w,a8R l w then h.choose else 0
theorem d2v{l:List Int}{w:Nat}(h:a8R l w):a3j l=w:=by
 unfold a3j;rw[dif_pos ⟨w,h⟩];exact(Classical.choose_spec (⟨w,h⟩:∃w,a8R l w)).unique h
def a1i(l:List Int):List Int:=l.map fun x=>A0o .i64 x (a3j l:Int)
theorem a9q(h:short l)(g:l.all a0A=true):a3Q l=some ((a3j l:Nat):Int)∧a3j l≤30∧a8R l (a3j l):=by
 grind[b7G,d2v]
theorem a6Y(a:l.length≤4096)(f:l.all a0A=true):b0O ((a3j l:Nat):Int) l=some (a1i l)∧(a1i l).all a0A=true∧(a1i l).length=l.length∧upO ((a3j l:Nat):Int) (a1i l)=some l:=by
 obtain⟨-,g,k⟩:=a9q (show short l by unfold short;omega) f;have h:=d2u g f k;exact⟨h,d2s g h⟩
def a5N(k:Int)(s:Sub)(d:List Int):Option (List Int×List Int):=
 if k=2 then(bif (a2v s.2.2.1.toNat d).all a0A then some (d.take s.2.2.1.toNat,a2v s.2.2.1.toNat d)else none)
 else if k=3 then(b4B d s.2.2.2.2.2.1 s.2.2.2.1).map fun r=>(d.take s.2.2.2.2.2.1.length,r)
 else if k=4 then(b4a d s.2.2.2.2.1 s.2.2.2.2.2.2.1).bind fun x=>(b4B x s.2.2.2.2.2.1 s.2.2.2.1).map fun r=>(x.take s.2.2.2.2.2.1.length,r)
 else(b2w d s.2.2.2.2.2.2.2.1).map fun r=>([],r)
theorem c3O(j:k=2∨k=3∨k=4∨k=5)(i:a4c k s (d.length:Int))(n:d.all a0A=true)(h:a5N k s d=some (wm,r)):
  wm.length≤d.length∧r.length=d.length-wm.length∧r.all a0A=true∧wm.all a0A=true:=by
 have f:=i;simp only[a4c]at f;rcases j with rfl|rfl|rfl|rfl
 ·have:0≤s.2.2.1∧s.2.2.1≤(d.length:Int):=by omega
  simp[a5N]at h;cases hq:(a2v s.2.2.1.toNat d).all a0A with
  |false=>simp_all
  |true=>
   simp[hq]at h;obtain⟨rfl,rfl⟩:=h;simp_all[a5X,b7F]
 have:(s.2.2.2.2.2.1.length:Int)≤(d.length:Int):=by omega
 simp only[a5N,show ¬ (3:Int)=2 by simp,if_false,if_true,a21,pJ]at h;obtain⟨c,g,rfl,rfl⟩:=h;obtain⟨-,a,b⟩:=b4C g
 grind
 have:(s.2.2.2.2.2.1.length:Int)≤(d.length:Int):=by omega
 simp only[a5N,show ¬ (4:Int)=2 by simp,show ¬ (4:Int)=3 by simp,if_false,if_true,a44,a21,pJ]at h;obtain⟨x,e,c,g,rfl,rfl⟩:=h;obtain⟨-,l,m⟩:=b5R e;obtain⟨-,a,b⟩:=b4C g
 grind
 simp only[a5N,show ¬ (5:Int)=2 by simp,show ¬ (5:Int)=3 by simp,show ¬ (5:Int)=4 by simp,if_false,a21,pJ]at h;obtain⟨c,g,rfl,rfl⟩:=h;obtain⟨-,a,b⟩:=b8A g;simp_all
theorem d0D(v:k=2∨k=3∨k=4∨k=5)(h:SmallS s)(q:a4c k s (d.length:Int))(D:d.length≤4096)(y:d.all a0A=true)(w:Nat):
  b1y (a1U (a1a k s) w [] z0 [],d)=some (match a5N k s d with|none=>(6,a1U (a1a k s) w [] z0 [])|some (wm,r)=>(0,a1U (a1a k s) w wm z0 r)):=by
 have l:=h.taps;have g:=h.stages;have i:short d:=by unfold short;omega
 obtain⟨k',w',o,sh,lag,c,t,st,z,p,E,u⟩:=s;simp only[a4c]at q l g;unfold b1y;rcases v with rfl|rfl|rfl|rfl;obtain⟨n,C,e⟩:0≤o∧o≤4∧o≤(d.length:Int):=by omega
 obtain⟨O,rfl⟩:=a01 n;have g:short (d.take O):=by unfold short;grind
 have j:decide ((O:Int)≤((d.length:Nat):Int))=true:=by simp_all
 simp only[a1U,a1a,a5N,if_true,show((2:Int)==2)=true from rfl,cT,b5o (show O≤4 by omega) (show O≤d.length by omega) i y,oB,tN]
 grind[b1S,a2x,a8n]
 ·obtain⟨f,e⟩:a9G c sh=true∧(c.length:Int)≤(d.length:Int):=by simp_all
  have g:short (d.take c.length):=by unfold short;grind
  have m:decide ((0:Int)≤((c.length:Nat):Int))=true:=by simp
  have j:decide (((c.length:Nat):Int)≤((d.length:Nat):Int))=true:=by simp_all
  simp only[a1U,a1a,a5N,show((3:Int)==2)=false from rfl,show((3:Int)==3)=true from rfl,show ¬ (3:Int)=2 by simp,show ¬ (3:Int)=4 by simp,show ¬ (3:Int)=5 by simp,true_or,if_true,if_false,cT,cF,b3Z f (show c.length≤d.length by omega) (show d.length<100000 by omega),oB];cases b4B d c sh with
  |none=>rfl
  |some r=>simp_all[a5j,b1S,a2x,a8n]
 ·obtain⟨f,e,a⟩:a9G c sh=true∧(c.length:Int)≤(d.length:Int)∧b1E lag t=true:=by simp_all
  simp[a1U,a1a,a5N,c3D a l (show d.length<100000 by omega)];cases hx:b4a d lag t with
  |none=>rfl
  |some x=>
   obtain⟨-,A,B⟩:=b5R hx;have g:short (x.take c.length):=by unfold short;grind
   have m:decide ((0:Int)≤((c.length:Nat):Int))=true:=by simp
   have j:decide (((c.length:Nat):Int)≤((x.length:Nat):Int))=true:=by simp_all
   simp[a5j,b3Z f (show c.length≤x.length by omega) (show x.length<100000 by omega)]
   grind[b1S,a2x,a8n]
 ·obtain⟨e,b⟩:0<st.length∧a9p st=true:=by simp_all
  have g:short (d.take 0):=by simp[short]
  simp only[a1U,a1a,a5N,show((5:Int)==2)=false from rfl,show((5:Int)==3)=false from rfl,show((5:Int)==4)=false from rfl,show((5:Int)==5)=true from rfl,show ¬ (5:Int)=2 by simp,show ¬ (5:Int)=3 by simp,show ¬ (5:Int)=4 by simp,or_self,if_true,if_false,cT,cF,c2j b (show d.length<100000 by omega),oB];cases b2w d st with
  |none=>rfl
  |some r=>
   rfl
open Classical in

def a1s (k:Int) (l:List Int) (s:Sub):Sub×Int:=
 if ¬ (1≤l.length∧l.length≤4096∧a4c k s (l.length:Int))then(a2m 0,1)
 else if l.all a0A=false then(a2m 0,6)
 else if k=0 then(bif l.all (fun x=>x==l.headD 0)then(a1U (a1a 0 s) 0 [l.headD 0] z0 [],0)else(a2m 0,7))
 else if k=1 then(a1U (a1a 1 s) (a3j l) (a1i l) z0 [],0)
 else match a5N k s (a1i l)with
  |none=>(a2m 0,6)
  |some (wm,r)=>(a1U (a1a k s) (a3j l) wm (b6o (l.length:Int) (wm.length:Int) r) r,0)
theorem c7u(h:1≤l.length):m0k l 0=some (l.headD 0):=by
 cases l with
 |nil=>grind
 |cons a l=>rfl
theorem c3P(k:1≤l.length)(c:short l)(a b:Sub):
  y0s a5n (l,l,(l.length:Int),(0:Int),a,b,())=some (bif l.all (fun x=>x==l.headD 0)then .inl (l,a,b,())else .inr ((7:Int),a2m 0,())):=by
 have:=a2c (f:=a5n) l (fun i=>(l,l,(l.length:Int),(i:Int),a,b,())) (fun x=>x==l.headD 0) (bt:=Sum.inl (l,a,b,())) (bf:=Sum.inr ((7:Int),a2m 0,()))
  (fun i h hp=>by
   have g:(l[i] != l.headD 0)=false:=by simp_all
   simp only[a5n,dlt h,cT,a0D h,oB,c7u k,g,cF,a0C (a18 h c)])
  (fun i h hp=>by
   have g:(l[i] != l.headD 0)=true:=by simp_all
   simp only[a5n,dlt h,cT,a0D h,oB,c7u k,g];rfl)
  (by simp[a5n])
 omega
theorem b6V(h:a4c k s n)(g:k≠0)(f:k≠1):k=2∨k=3∨k=4∨k=5:=by
 rcases h with h|h|⟨h,-⟩|⟨h,-⟩|⟨h,-⟩|⟨h,-⟩;omega;omega
 all_goals omega
theorem d2w(h:SmallS s)(k:Int)(D:l.length≤100000):b2g (k,l,s)=some (a1s k l s):=by
 have j:short l:=by unfold short;omega
 unfold b2g a1s
 by_cases h1:1≤l.length
 rotate_left;have e:decide (((l.length:Nat):Int)<1)=true:=decide_eq_true (by omega);rw[if_pos (fun g=>h1 g.1)];simp only[e,cT,oB];rfl;have a:decide (((l.length:Nat):Int)<1)=false:=decide_eq_false (by omega)
 by_cases h2:l.length≤4096
 rotate_left;have e:decide (((l.length:Nat):Int) > 4096)=true:=decide_eq_true (by omega);rw[if_pos (fun g=>h2 g.2.1)];simp only[a,e,cT,cF,oB];rfl;have o:decide (((l.length:Nat):Int) > 4096)=false:=decide_eq_false (by omega)
 by_cases h3:a4c k s (l.length:Int)
 rotate_left;have b:b2P k s (l.length:Int)=false:=by simp[b2P,h3]
 rw[if_pos (fun g=>h3 g.2.2)];simp only[a,o,b3T h,b,cF,a36,cT,oB];rfl;have b:b2P k s (l.length:Int)=true:=by simp[b2P,h3]
 rw[if_neg (fun g=>g ⟨h1,h2,h3⟩)];simp only[a,o,b3T h,b,cF,bT,oB,a4G j];cases hw:l.all a0A with
 |false=>rfl
 |true=>
  simp only[bT,cF,c8G h,oB];rw[if_neg (by simp)]
  by_cases h0:k=0
  ·subst h0;have w:=c3P h1 j (a2m 0) (a1a 0 s);have v:a2m 0=((0:Int),(0:Int),(0:Int),(0:Int),(0:Int),([]:(List Int)),a00 3 (0:Int),([]:(List (Int×Int×Unit))),([]:(List Int)),((0:Int),([]:(List Int)),()),([]:(List Int)),()):=rfl;rw[←v,if_pos rfl];simp only[show((0:Int)==0)=true from rfl,cT,w,oB];cases l.all (fun x=>x==l.headD 0)with
   |false=>rfl
   |true=>simp only[cT,c7u h1,oB];rfl
  ·obtain⟨z,A,-⟩:=a9q j hw;obtain⟨t,n,C,-⟩:=a6Y h2 hw;have c:(k==0)=false:=by grind
   rw[if_neg h0];simp only[c,cF,z,oB,b3Y A (show l.length<100000 by omega),t,a5j,show((0:Int) != 0)=false from rfl]
   by_cases hk1:k=1
   subst hk1;rfl
   ·have i:(k==1)=false:=by simp_all
    have p:=b6V h3 h0 hk1;rw[if_neg hk1];have m:=d0D p h (d:=a1i l) (by simp_all) (by omega) n (a3j l);have u:((a1a k s).1,((a3j l:Nat):Int),(a1a k s).2.2)=a1U (a1a k s) (a3j l) [] z0 []:=rfl;simp only[i,cF,u,m,oB];cases hr:a5N k s (a1i l)with
    |none=>rfl
    |some q=>
     obtain⟨B,r⟩:=q;obtain⟨E,r2,y,-⟩:=c3O p (by simp_all) n hr;have f:a6y (l.length:Int) (B.length:Int)=true:=by simp_all[a6y]
     have hb:=c2m f (l:=r) (by omega) y (by omega);simp only[show((0:Int) != 0)=false from rfl,cF,a1U,hb,oB]
theorem c8H(h:a5K p n warm=true):p.2.1.length≤256:=by
 simp only[a5K,bA,a33,beq_eq_false_iff_ne,ne_eq,beq_iff_eq]at h
 grind[b3G,a1y]
theorem b4G(h:SmallS s)(g:wm.length≤5000)(f:r.length≤5000)(k:p.2.1.length≤300):SmallS (a1U s w wm p r):=
 ⟨h.coefs,h.taps,h.stages,g,f,k⟩
theorem c7v(f:(a1s k l s).2=0):
  1≤l.length∧l.length≤4096∧a4c k s (l.length:Int)∧l.all a0A=true∧
   ((k=0∧l.all (fun x=>x==l.headD 0)=true∧(a1s k l s).1=a1U (a1a 0 s) 0 [l.headD 0] z0 [])∨
    (k=1∧(a1s k l s).1=a1U (a1a 1 s) (a3j l) (a1i l) z0 [])∨
     ((k=2∨k=3∨k=4∨k=5)∧∃wm r,a5N k s (a1i l)=some (wm,r)∧(a1s k l s).1=a1U (a1a k s) (a3j l) wm (b6o (l.length:Int) (wm.length:Int) r) r)):=by
 unfold a1s at f⊢
 split at f
 omega;rename_i g;have g:1≤l.length∧l.length≤4096∧a4c k s (l.length:Int):=Classical.byContradiction g;refine⟨g.1,g.2.1,g.2.2,?_⟩;rw[if_neg (fun h=>h g)]
 split at f
 omega;rename_i d;have a:l.all a0A=true:=by simp_all
 refine⟨a,?_⟩;rw[if_neg d]
 split at f
 grind
 rename_i b;rw[if_neg b]
 split at f
 simp_all;rename_i c;rw[if_neg c];refine .inr (.inr ⟨b6V g.2.2 b c,?_⟩)
 grind
theorem b2W:b3U (a1U (a1a k s) w wm p r):=by
 unfold b3U a1U a1a;simp_all
theorem b7H(h:a4c k s n):a4c (a1U (a1a k s) w wm p r).1 (a1U (a1a k s) w wm p r) n:=c7t.2 h
theorem d0E{l:List Int}(h:l.all (fun x=>x==l.headD 0)=true):a00 l.length (l.headD 0)=l:=by
 refine(List.eq_replicate_iff.2 ⟨rfl,fun x g=>?_⟩).symm
 grind
theorem b9U(H:SmallS s)(F:(a1s k l s).2=0):
  SmallS (a1s k l s).1∧(a1s k l s).1.1=k∧a1v (a1s k l s).1 (l.length:Int)∧a2u (a1s k l s).1 (l.length:Int)=some l:=by
 obtain⟨R,G,t,z,I⟩:=c7v F;have L:short l:=by unfold short;omega
 obtain⟨-,X,-⟩:=a9q L z;obtain⟨N,u,O,C⟩:=a6Y G z;have key:∀m:Sub,a1v m (l.length:Int)→c3q m (l.length:Int)=some l→a2u m (l.length:Int)=some l:=fun m i j=>by simp_all[a2u]
 have b:=c3N H k;rcases I with⟨rfl,w,e⟩|⟨rfl,e⟩|⟨y,d,r,f,e⟩
 ·rw[e];have g:a1v (a1U (a1a 0 s) 0 [l.headD 0] z0 []) (l.length:Int):=by
   have S:a0A (l.headD 0)=true:=by
    cases l with
    |nil=>rfl
    |cons a l=>simp_all
   exact⟨by omega,by omega,b7H t,b2W,Int.le_refl _,(by simp:(0:Int)≤30),fun _=>rfl,rfl,by simp_all[a1U],rfl,fun _=>⟨rfl,rfl,rfl⟩,fun h=>absurd rfl h.1⟩
  refine⟨b4G b (by simp) (by simp) (by simp[z0]),rfl,g,key _ g ?_⟩;show some (a00 (l.length:Int).toNat (l.headD 0))=some l
  grind[d0E]
 rw[e];have g:a1v (a1U (a1a 1 s) (a3j l) (a1i l) z0 []) (l.length:Int):=
  ⟨by omega,by omega,b7H t,b2W,a83 _,(by show((a3j l:Nat):Int)≤30;omega),fun h=>absurd h (by simp:¬ (1:Int)=0),by show(((a1i l).length:Nat):Int)=(l.length:Int);omega,u,rfl,fun _=>⟨rfl,rfl,rfl⟩,fun h=>absurd rfl h.2⟩
 refine⟨b4G b (by omega) (by simp) (by simp[z0]),rfl,g,key _ g ?_⟩;show upO ((a3j l:Nat):Int) (a1i l)=some l;omega
 ·rw[e];obtain⟨V,r2,B,M⟩:=c3O y (by simp_all) u f;have n:a6y (l.length:Int) (d.length:Int)=true:=by simp only[a6y,bA,dT];omega
  have hp:=d0C n (l:=r) (by omega) B (by omega);generalize b6o (l.length:Int) (d.length:Int) r=p at hp;have K:=c8H hp

  have q:a2x (a1U (a1a k s) (a3j l) d p r) (l.length:Int)=(d.length:Int)∧backP (a1U (a1a k s) (a3j l) d p r)=some (a1i l):=by
   simp only[a4c]at t;rcases y with rfl|rfl|rfl|rfl
   ·obtain⟨T,U,A⟩:0≤s.2.2.1∧s.2.2.1≤4∧s.2.2.1≤(l.length:Int):=by omega
    simp[a5N]at f;cases hq:(a2v s.2.2.1.toNat (a1i l)).all a0A with
    |false=>simp_all
    |true=>
     simp[hq]at f;obtain⟨rfl,rfl⟩:=f;refine⟨?_,?_⟩;show s.2.2.1=_
     grind
     show b7B ((a1i l).take s.2.2.1.toNat) (a2v s.2.2.1.toNat (a1i l)) s.2.2.1=some (a1i l);have hb:=c3z u (o:=s.2.2.1.toNat) (by omega) ((a1i l).length-s.2.2.1.toNat) 0 (by omega);rw[a28,a85]at hb
     grind[b7B]
   have A:(s.2.2.2.2.2.1.length:Int)≤(l.length:Int):=by omega
   simp only[a5N,show ¬ (3:Int)=2 by simp,if_false,if_true,a21,pJ]at f;obtain⟨v,i,rfl,rfl⟩:=f;obtain⟨j,-,-⟩:=b4C i;refine⟨?_,?_⟩;show((s.2.2.2.2.2.1.length:Nat):Int)=_;simp_all;exact j;have A:(s.2.2.2.2.2.1.length:Int)≤(l.length:Int):=by omega
   simp only[a5N,show ¬ (4:Int)=2 by simp,show ¬ (4:Int)=3 by simp,if_false,if_true,a44,a21,pJ]at f;obtain⟨x,E,v,i,rfl,rfl⟩:=f;obtain⟨P,-,Q⟩:=b5R E;obtain⟨j,-,-⟩:=b4C i;refine⟨?_,?_⟩;show((s.2.2.2.2.2.1.length:Nat):Int)=_;simp_all;show(b2J (x.take s.2.2.2.2.2.1.length) v s.2.2.2.2.2.1 s.2.2.2.1).bind (fun l=>b3i l s.2.2.2.2.1 s.2.2.2.2.2.2.1)=_;simp_all;simp only[a5N,show ¬ (5:Int)=2 by simp,show ¬ (5:Int)=3 by simp,show ¬ (5:Int)=4 by simp,if_false,a21,pJ]at f;obtain⟨v,i,rfl,rfl⟩:=f;obtain⟨j,-,-⟩:=b8A i;exact⟨rfl,j⟩
  have c:¬ (k=0∨k=1):=by omega
  have g:a1v (a1U (a1a k s) (a3j l) d p r) (l.length:Int):=by
   unfold a1v;rw[q.1];exact⟨by omega,by omega,b7H t,b2W,a83 _,(by show((a3j l:Nat):Int)≤30;omega),fun h=>absurd (.inl h) c,rfl,M,B,fun h=>absurd h c,fun _=>⟨(by show((r.length:Nat):Int)=_;omega),hp⟩⟩
  refine⟨b4G b (by omega) (by omega) (by omega),rfl,g,key _ g ?_⟩;have D:¬ (a1U (a1a k s) (a3j l) d p r).1=0:=fun h=>c (.inl h);unfold c3q;rw[if_neg D,q.2];exact C
theorem c7w:SmallS (a2m 0):=c5G 0
def cS(k o sh:Int)(c:List Int)(st:List Stg):Sub:=
 (k,(0:Int),o,sh,(0:Int),c,a00 3 (0:Int),st,([]:List Int),((0:Int),([]:List Int),()),([]:List Int),())
theorem b1e{k o sh:Int}{c:List Int}{st:List Stg}(h:c.length≤40)(g:st.length≤6):SmallS (cS k o sh c st):=
 ⟨h,rfl,g,by simp[cS],by simp[cS],by simp[cS]⟩
def b2q(d:List Int)(o w:Int):List Int×(Int×Int):=(a4a (d,o,w)).getD ([],0,1)
def b1f(d:List Int)(o w:Int):List Sub:=bif (b2q d o w).2.2==0 then[cS 3 0 (b2q d o w).2.1 (b2q d o w).1 []]else[]
def c7x(d:List Int):Int:=(a6s d).getD 0
def b4H(d:List Int):Sub×Bool:=(a3I d).getD (a2m 0,false)
def b7I(d:List Int):List Sub:=bif (b4H d).2 then[(b4H d).1]else[]
def b1g(i:Nat):List Sub:=(List.range i).map fun(j:Nat)=>cS 2 (j:Int) 0 [] []
def a2z(d:List Int):List Sub:=[cS 0 0 0 [] [],cS 1 0 0 [] [],cS 2 (c7x d) 0 [] []]
def a3U(d:List Int)(k:Int):List Sub:=if 1≤k then b1f d 4 12++b1f d 8 12 else[]
def b1K(d:List Int)(k:Int):List Sub:=if 2≤k then[cS 5 0 0 [] [((16:Int),(4:Int),())],cS 5 0 0 [] [((32:Int),(3:Int),()),((16:Int),(5:Int),())]]++b7I d else[]
def c2s(d:List Int)(k:Int):List Sub:=if 3≤k then b1g 5++(b1f d 1 12++(b1f d 2 12++(b1f d 12 14++b1f d 16 14)))else[]
def a4p(d:List Int)(k:Int):List Sub:=a2z d++(a3U d k++(b1K d k++c2s d k))
def b8H(d:List Int):Prop:=a3I d=some (b4H d)∧((b4H d).2=true→SmallS (b4H d).1)
theorem c3Q(a:d.all a0A=true)(k:d.length≤4096)(h:1≤o)(g:o≤32)(f:2≤w∧w≤16):
  a4a (d,(o:Int),(w:Int))=some (b2q d o w)∧((b2q d o w).2.2=0→(b2q d o w).1.length=o):=by
 obtain⟨c,sh,e,b,i⟩:=c8B a k h g f;unfold b2q;simp_all
theorem b1h(d:List Int)(o w:Int):(b1f d o w).length≤1:=by
 grind[b1f]
theorem b1i(c:d.all a0A=true)(b:d.length≤4096)(f:1≤o)(k:o≤32)(a:2≤w∧w≤16){L:List Sub}(e:L.length<1000):
  a0Q ((o:Int),(w:Int),d,L)=some (d,L++b1f d o w):=by
 obtain⟨g,-⟩:=c3Q c b f k a;have h:lim (L.length+1)=true:=a0W (by omega);unfold a0Q b1f;simp only[g,oB];cases (b2q d o w).2.2==0 with
 |true=>simp only[cT,h];rfl
 |false=>simp
theorem c7y{L:List Sub}(k:L.length<1000):y0s a2B ((0:Int),L,d,())=some (L++b1g 5,d,()):=by
 have:=a1D (f:=a2B) (fun i:Nat=>((i:Int),L++b1g i,d,())) 5 (b:=(L++b1g 5,d,()))
  (fun i hi=>by
   have g:decide ((i:Int)<5)=true:=decide_eq_true (by omega);have h:lim ((L++b1g i).length+1)=true:=a0W (by simp[b1g];omega);have e:(L++b1g i)++[cS 2 (i:Int) 0 [] []]=L++b1g (i+1):=by simp[b1g,List.range_succ]
   rw[←e];simp only[a2B,g,cT,h,a0C (show i<1000000 by omega)];rfl)
  (by
   rfl)
 simp at this;rw[show b1g 0=[]from rfl,a40]at this;omega
theorem d2x(a:d.all a0A=true)(c:d.length≤4096)(l:b8H d)(k:Int):a6V (d,k)=some (a4p d k):=by
 obtain⟨o,E,F⟩:=b8y (show d.length<100000 by omega) a;have hb:c7x d=(o:Int):=by simp_all[c7x]
 have D:(b7I d).length≤1:=by grind[b7I]
 have M:=b1h d 4 12;have N:=b1h d 8 12;have l1:=b1h d 1 12;have l2:=b1h d 2 12;have G:=b1h d 12 14;have y:=fun L (hL:L.length<1000)=>b1i (L:=L) a c (o:=4) (w:=12) (by omega) (by omega) (by omega) hL;have z:=fun L (hL:L.length<1000)=>b1i (L:=L) a c (o:=8) (w:=12) (by omega) (by omega) (by omega) hL;have v:=fun L (hL:L.length<1000)=>b1i (L:=L) a c (o:=1) (w:=12) (by omega) (by omega) (by omega) hL;have x:=fun L (hL:L.length<1000)=>b1i (L:=L) a c (o:=2) (w:=12) (by omega) (by omega) (by omega) hL;have i:=fun L (hL:L.length<1000)=>b1i (L:=L) a c (o:=12) (w:=14) (by omega) (by omega) (by omega) hL;have j:=fun L (hL:L.length<1000)=>b1i (L:=L) a c (o:=16) (w:=14) (by omega) (by omega) (by omega) hL;simp at y z v x i j;have O:(a2z d).length=3:=rfl;have n1:(a3U d k).length≤2:=by unfold a3U;split<;>simp<;>omega
 have n2:(b1K d k).length≤3:=by unfold b1K;split<;>simp<;>omega
 have P:(b1g 5).length=5:=rfl;have K:(bif decide (k≥1)then((a0Q ((4:Int),(12:Int),d,a2z d)).bind fun n=>(a0Q ((8:Int),(12:Int),n.1,n.2)).bind fun p=>some (k,p.1,p.2,()))else some (k,d,a2z d,()))=some (k,d,a2z d++a3U d k,()):=by
  unfold a3U
  by_cases h:1≤k
  have e:decide (k≥1)=true:=decide_eq_true h;simp only[e,cT,y (a2z d) (by omega),oB,z (a2z d++b1f d 4 12) (by grind),if_pos h,aA]
  grind
 have C:a6V (d,k)=(a6s d).bind fun A=>
   (show Option (Int×((List Int)×((List Sub)×Unit)))from bif decide (k≥1)then((a0Q ((4:Int),(12:Int),d,[cS 0 0 0 [] [],cS 1 0 0 [] [],cS 2 A 0 [] []])).bind fun n=>(a0Q ((8:Int),(12:Int),n.1,n.2)).bind fun p=>some (k,p.1,p.2,()))else some (k,d,[cS 0 0 0 [] [],cS 1 0 0 [] [],cS 2 A 0 [] []],())).bind fun g=>
   (show Option (Int×((List Sub)×((List Int)×Unit)))from bif decide (g.1≥2)then(bif lim (g.2.2.1.length+1)then(bif lim ((g.2.2.1++[cS 5 0 0 [] [((16:Int),(4:Int),())]]).length+1)then((a3I g.2.1).bind fun q=>
    bif q.2 then(bif lim ((g.2.2.1++[cS 5 0 0 [] [((16:Int),(4:Int),())]]++[cS 5 0 0 [] [((32:Int),(3:Int),()),((16:Int),(5:Int),())]]).length+1)then some (g.1,g.2.2.1++[cS 5 0 0 [] [((16:Int),(4:Int),())]]++[cS 5 0 0 [] [((32:Int),(3:Int),()),((16:Int),(5:Int),())]]++[q.1],g.2.1,())else none)
    else some (g.1,g.2.2.1++[cS 5 0 0 [] [((16:Int),(4:Int),())]]++[cS 5 0 0 [] [((32:Int),(3:Int),()),((16:Int),(5:Int),())]],g.2.1,()))else none)else none)else some (g.1,g.2.2.1,g.2.1,())).bind fun t=>
   (show Option ((List Sub)×Unit)from bif decide (t.1≥3)then((y0s a2B ((0:Int),t.2.1,t.2.2.1,())).bind fun m=>(a0Q ((1:Int),(12:Int),m.2.1,m.1)).bind fun r=>(a0Q ((2:Int),(12:Int),r.1,r.2)).bind fun s=>
    (a0Q ((12:Int),(14:Int),s.1,s.2)).bind fun f=>(a0Q ((16:Int),(14:Int),f.1,f.2)).bind fun b=>some (b.2,()))else some (t.2.1,())).bind fun u=>some u.1:=rfl
 have B:[cS 0 0 0 [] [],cS 1 0 0 [] [],cS 2 (o:Int) 0 [] []]=a2z d:=by unfold a2z;grind
 have Q:(bif decide (k≥2)then(bif lim ((a2z d++a3U d k).length+1)then(bif lim ((a2z d++a3U d k++[cS 5 0 0 [] [((16:Int),(4:Int),())]]).length+1)then((a3I d).bind fun q=>
    bif q.2 then(bif lim ((a2z d++a3U d k++[cS 5 0 0 [] [((16:Int),(4:Int),())]]++[cS 5 0 0 [] [((32:Int),(3:Int),()),((16:Int),(5:Int),())]]).length+1)then some (k,a2z d++a3U d k++[cS 5 0 0 [] [((16:Int),(4:Int),())]]++[cS 5 0 0 [] [((32:Int),(3:Int),()),((16:Int),(5:Int),())]]++[q.1],d,())else none)
    else some (k,a2z d++a3U d k++[cS 5 0 0 [] [((16:Int),(4:Int),())]]++[cS 5 0 0 [] [((32:Int),(3:Int),()),((16:Int),(5:Int),())]],d,()))else none)else none)else some (k,a2z d++a3U d k,d,()):Option (Int×((List Sub)×((List Int)×Unit))))=some (k,a2z d++(a3U d k++b1K d k),d,()):=by
  unfold b1K
  by_cases h:2≤k
  have e:decide (k≥2)=true:=decide_eq_true h;have q1:lim ((a2z d++a3U d k).length+1)=true:=a0W (by grind);have H:lim ((a2z d++a3U d k++[cS 5 0 0 [] [((16:Int),(4:Int),())]]).length+1)=true:=a0W (by simp;omega);have I:lim ((a2z d++a3U d k++[cS 5 0 0 [] [((16:Int),(4:Int),())]]++[cS 5 0 0 [] [((32:Int),(3:Int),()),((16:Int),(5:Int),())]]).length+1)=true:=a0W (by simp;omega);simp only[e,q1,H,I,cT,l.1,oB,if_pos h,b7I];cases (b4H d).2<;>simp
  grind
 have R:(bif decide (k≥3)then((y0s a2B ((0:Int),a2z d++(a3U d k++b1K d k),d,())).bind fun m=>(a0Q ((1:Int),(12:Int),m.2.1,m.1)).bind fun r=>(a0Q ((2:Int),(12:Int),r.1,r.2)).bind fun s=>
    (a0Q ((12:Int),(14:Int),s.1,s.2)).bind fun f=>(a0Q ((16:Int),(14:Int),f.1,f.2)).bind fun b=>some (b.2,()))else some (a2z d++(a3U d k++b1K d k),()):Option ((List Sub)×Unit))=some (a4p d k,()):=by
  unfold a4p c2s
  by_cases h:3≤k
  have e:decide (k≥3)=true:=decide_eq_true h;simp only[e,cT,c7y (L:=a2z d++(a3U d k++b1K d k)) (by simp;omega),oB,if_pos h];rw[v _ (by simp;omega)];simp only[oB];rw[x _ (by simp;omega)];simp only[oB];rw[i _ (by simp;omega)];simp only[oB];rw[j _ (by simp;omega)]
  simp
  grind
 rw[C,E,oB,B];simp only[];rw[K];simp only[oB];simp_all
theorem b8I(l:d.all a0A=true)(i:d.length≤4096)(f:b8H d)(k:Int):∀c∈a4p d k,SmallS c:=by
 have g:∀(o w:Nat),1≤o→o≤32→2≤w∧w≤16→∀c∈b1f d o w,SmallS c:=fun o w a b e c h=>by
  obtain⟨-,m⟩:=c3Q l i a b e;unfold b1f at h;cases he:(b2q d o w).2.2==0 with
  |false=>simp_all
  |true=>
   rw[he]at h;simp at h
   grind[b1e]
 intro c h;simp[a4p]at h;rcases h with h|h|h|h;simp[a2z]at h;rcases h with rfl|rfl|rfl<;>exact b1e (by simp) (by simp);unfold a3U at h
 split at h
 simp at h;rcases h with h|h;exact g 4 12 (by omega) (by omega) (by omega) c h;exact g 8 12 (by omega) (by omega) (by omega) c h;simp_all
 ·unfold b1K at h
  split at h
  ·simp only[mA,mC,a97,or_false]at h;rcases h with(rfl|rfl)|h;simp_all[b1e];simp_all[b1e]
   ·unfold b7I at h;cases hg:(b4H d).2 with
    |false=>simp_all
    |true=>
     rw[hg]at h;simp at h;subst h;exact f.2 hg
  simp_all
 unfold c2s at h
 split at h
 simp only[mA,b1g,List.mem_map]at h;rcases h with⟨j,-,rfl⟩|h|h|h|h;simp_all[b1e];exact g 1 12 (by omega) (by omega) (by omega) c h;exact g 2 12 (by omega) (by omega) (by omega) c h;exact g 12 14 (by omega) (by omega) (by omega) c h;exact g 16 14 (by omega) (by omega) (by omega) c h;simp_all
theorem d0F(g:d.length≤256):a3I d=some (a2m 0,false):=by
 have h:b1x (d,(16:Int),(256:Int))=some (0,7):=by
  unfold b1x
  grind
 unfold a3I;simp only[h,oB,show((7:Int) != 0)=true from rfl,cT];rfl
theorem d4a{d:List Int}(g:d.length≤256):b8H d:=by
 have h:=d0F g
 have:b4H d=(a2m 0,false):=by unfold b4H;simp_all
 exact⟨by simp_all,fun f=>by simp_all⟩
def b4d(l:List Int)(a:Int×(Bool×Sub))(c:Sub):Int×(Bool×Sub):=
 bif (a1s c.1 l c).2 != 0 then a else bif !a.2.1 || decide (a5h (a1s c.1 l c).1 (l.length:Int)<a.1)then(a5h (a1s c.1 l c).1 (l.length:Int),true,(a1s c.1 l c).1)else a
def b4I(l:List Int)(cs:List Sub):Int×(Bool×Sub):=cs.foldl (b4d l) (0,false,a2m 0)
theorem b4J{α A β:Type}(g:A→α→A)(h:A→β):∀(l:List α)(a:A),a8k h (a2Y (fun a x=>.inl (g a x)) l a)=h (l.foldl g a)
 | [],_=>rfl
 |x::l,a=>b4J g h l (g a x)
theorem c5H(h:SmallS s):SmallS (a1s k l s).1:=by
 by_cases h0:(a1s k l s).2=0
 exact(b9U h h0).1
 have:(a1s k l s).1=a2m 0:=by
  unfold a1s at h0⊢
  grind
 simp_all[c7w]
theorem c8I{cs:List Sub}(e:∀c∈cs,SmallS c)(o:l.length≤4096)(n:cs.length<1000):
  y0s a7q (l,(0:Int),false,cs,((cs.length:Nat):Int),(0:Int),a2m 0,a2m 0,())=some (a2m 0,(b4I l cs).2.2,()):=by
 have:=a1N (f:=a7q) cs (fun i a=>(l,a.1,a.2.1,cs,((cs.length:Nat):Int),(i:Int),a2m 0,a.2.2,())) (fun a x=>.inl (b4d l a x)) (fun _ _=>True) (fun a=>(a2m 0,a.2.2,()))
  (fun i hi a _=>by
   refine⟨fun m h=>?_,fun b hb=>by grind⟩;simp at h;subst h;refine⟨?_,trivial⟩;have g:=e _ (a05 hi);have d:=c5U (c5H (k:=cs[i].1) (l:=l) g) (l.length:Int);unfold b4d;simp only[a7q,dlt hi,cT,a0D hi,oB,d2w g cs[i].1 (show l.length≤100000 by omega),d,a0C (show i<1000000 by omega)];cases (a1s cs[i].1 l cs[i]).2 != 0 with
   |true=>rfl
   |false=>
    have j:=a0C (show i<1000000 by omega)
    grind)
  (fun a _=>by simp_all[a7q]) (a:=((0:Int),false,a2m 0)) trivial
 simp at this;rw[this,b4J];rfl
theorem d2y(v:1≤l.length)(c:l.length≤4096)(a:l.all a0A=true)(h:b8H (a1i l))(u:0≤k)(x:k≤3):
  a5G (l,k)=some ((b4I l (a4p (a1i l) k)).2.2,0):=by
 have d:short l:=by unfold short;omega
 obtain⟨r,s,-⟩:=a9q d a;obtain⟨e,b,t,-⟩:=a6Y c a;have i:decide (((l.length:Nat):Int)<1)=false:=decide_eq_false (by omega);have j:decide (((l.length:Nat):Int) > 4096)=false:=decide_eq_false (by omega);have m:decide (k<0)=false:=decide_eq_false (by omega);have n:decide (k > 3)=false:=decide_eq_false (by omega);have f:(a4p (a1i l) k).length<1000:=by
  have g:=fun o w=>b1h (a1i l) o w;have q1:=g 4 12;have y:=g 8 12;have z:=g 1 12;have A:=g 2 12;have B:=g 12 14;have C:=g 16 14;have p:(b7I (a1i l)).length≤1:=by grind[b7I]
  simp only[a4p,a2z,a3U,b1K,c2s,lN]
  grind[b1g]
 have hb:=c8I (l:=l) (b8I b (by omega) h k) c f;have q:a2m 0=((0:Int),(0:Int),(0:Int),(0:Int),(0:Int),([]:(List Int)),a00 3 (0:Int),([]:(List (Int×Int×Unit))),([]:(List Int)),((0:Int),([]:(List Int)),()),([]:(List Int)),()):=rfl;unfold a5G;simp only[←q,i,j,m,n,cF,oB,a4G d,a,bT,r,b3Y s (show l.length<100000 by omega),e,a5j,show((0:Int) != 0)=false from rfl,d2x b (show(a1i l).length≤4096 by omega) h,hb]
theorem b1j(v:Int)(n:Nat)(L:List Int):(a0P v n L).length=L.length+(a0P v n []).length:=by
 grind[a0P]
theorem b3r(n:Nat):∀(l L:List Int),(a1L n l L).length=L.length+(a1L n l []).length
 | [],L=>by rfl
 |x::l,L=>by
  show(a1L n l (a0P (a0Z x n) n L)).length=L.length+(a1L n l (a0P (a0Z x n) n [])).length;rw[b3r n l,b3r n l (a0P (a0Z x n) n []),b1j];omega
theorem b3J:∀(st:List Stg)(L:List Int),(a3t st L).length=L.length+(a3t st []).length
 | [],L=>by rfl
 |s::st,L=>by
  show(a3t st (a6B s L)).length=L.length+(a3t st (a6B s [])).length;rw[b3J st,b3J st (a6B s [])];unfold a6B;rw[b1j,b1j _ 5 L,b1j _ 4 (a0P _ 5 [])];omega
theorem c7z(s:Sub)(L:List Int):(a6C s L).length=L.length+(a6C s []).length:=by
 grind[a6C,b3r,b1j]
theorem c0V(s:Sub)(L:List Int):(a2K s L).length=L.length+(a2K s []).length:=by
 grind[a2K,b1j,c7z,b3r,b3J]
theorem d0G(g:0≤s.1∧s.1≤5)(f:0≤s.2.1∧s.2.1≤30)(h:s.2.2.2.2.2.2.2.2.1.all a0A=true)(L:List Int):(b1G s L).length=L.length+13:=by
 grind[a01,a2g,b1G,a3J,b1d]
def c7A(s:Sub)(zn:List Nat):Nat:=
 13+(a2K s []).length+a0J s.2.2.2.2.2.2.2.2.1*s.2.2.2.2.2.2.2.2.1.length+if s.1=0∨s.1=1 then 0 else 4+a5M zn s.2.2.2.2.2.2.2.2.2.1.2.1 s.2.2.2.2.2.2.2.2.2.2.1
theorem b4K(h:a4c k s n):0≤k∧k≤5:=by
 rcases h with h|h|⟨h,-⟩|⟨h,-⟩|⟨h,-⟩|⟨h,-⟩<;>omega
theorem b3K(h:(a2u s n).isSome=true):a1v s n:=by
 grind[a2u]
theorem d2z(h:(a2u s n).isSome=true)(d:s.1≠0∧s.1≠1→PartsOk s.2.2.2.2.2.2.2.2.2.1 n ((s.2.2.2.2.2.2.2.2.1.length:Nat):Int) s.2.2.2.2.2.2.2.2.2.2.1 zn)(L:List Int):
  (a5q s zn L).length=L.length+c7A s zn:=by
 obtain⟨e,i,b,-,k,a,-,-,f,-⟩:=b3K h;have c:=a2g f;have g:=d0G (b4K b) ⟨k,a⟩ f L;unfold a5q c7A
 by_cases hk:s.1=0∨s.1=1
 rw[if_pos hk,if_pos hk,b3p (by omega),c0V,g];omega;rw[if_neg hk,if_neg hk,c2l (d (not_or.1 hk)),b3p (by omega),c0V,g];omega
theorem d0H(h:SmallS s)(f:(a2u s n).isSome=true):∃g,a5h s n=((c7A s g:Nat):Int)∧(s.1≠0∧s.1≠1→PartsOk s.2.2.2.2.2.2.2.2.2.1 n ((s.2.2.2.2.2.2.2.2.1.length:Nat):Int) s.2.2.2.2.2.2.2.2.2.2.1 g):=by
 obtain⟨e,b,-,-,-,a,-⟩:=b4w h (n:=n) (L:=[]) (by simp);obtain⟨-,g,-,k⟩:=a f;refine⟨g,?_,k⟩;unfold a5h;rw[if_pos f,←b9S k,d2z f k]
 simp
structure Shifted (l m:List Int) (n:Nat):Prop where
 len:m.length=l.length
 wl:l.all a0A=true
 wm:m.all a0A=true
 down:a1i m=a1i l
 waste:a3j m=a3j l+n
 fl:l.all (fun x=>x==l.headD 0)=false
 fm:m.all (fun x=>x==m.headD 0)=false
structure BestIs (l:List Int) (cs:List Sub) (a:Int×(Bool×Sub)):Prop where
 one:a.2.1=true→∃c∈cs,(a1s c.1 l c).2=0∧a.2.2=(a1s c.1 l c).1∧a.1=a5h a.2.2 (l.length:Int)
 least:∀c∈cs,(a1s c.1 l c).2=0→a.2.1=true∧a.1≤a5h (a1s c.1 l c).1 (l.length:Int)
theorem b5U{l:List Int}:∀(cs ds:List Sub)(a:Int×(Bool×Sub)),BestIs l ds a→BestIs l (ds++cs) (cs.foldl (b4d l) a)
 | [],ds,a,h=>by simp_all
 |c::cs,ds,a,h=>by
  rw[b01,show ds++c::cs=(ds++[c])++cs by simp];refine b5U cs (ds++[c]) _ ?_
  unfold b4d
  by_cases h0:(a1s c.1 l c).2=0
  ·have n1:((a1s c.1 l c).2 != 0)=false:=by simp_all
   rw[n1,cF];cases hq:(!a.2.1 || decide (a5h (a1s c.1 l c).1 (l.length:Int)<a.1))with
   |true=>
    refine⟨fun _=>⟨c,by simp,h0,rfl,rfl⟩,fun d f k=>⟨rfl,?_⟩⟩;rcases mA.1 f with f|f;obtain⟨e,i⟩:=h.least d f k
    grind
    simp_all
   |false=>
    simp only[a77,Bool.not_eq_false',decide_eq_false_iff_not]at hq;refine⟨fun b=>?_,fun d f k=>?_⟩;obtain⟨d,f,g⟩:=h.one b
    grind
    rcases mA.1 f with f|f;exact h.least d f k;simp_all
  have n1:((a1s c.1 l c).2 != 0)=true:=by simp_all
  rw[n1,cT];refine⟨fun b=>?_,fun d f k=>?_⟩;obtain⟨d,f,g⟩:=h.one b
  grind
  rcases mA.1 f with f|f;exact h.least d f k;simp_all
theorem b9V(l:List Int)(cs:List Sub):BestIs l cs (b4I l cs):=
 b5U cs [] _ ⟨fun h=>(by grind),fun _ h=>(by grind)⟩
theorem b4L(h:1≤l.length)(g:l.length≤4096)(f:l.all a0A=true):a1s 1 l (cS 1 0 0 [] [])=(a1U (a1a 1 (cS 1 0 0 [] [])) (a3j l) (a1i l) z0 [],0):=by
 unfold a1s;rw[if_neg (fun q=>q ⟨h,g,.inr (.inl rfl)⟩),if_neg (by simp_all),if_neg (by simp),if_pos rfl]
theorem c7B(h:1≤l.length)(g:l.length≤4096)(f:l.all a0A=true)(d:List Int)(k:Int):(b4I l (a4p d k)).2.1=true:=
 ((b9V l (a4p d k)).least (cS 1 0 0 [] []) (by simp[a4p,a2z]) (by rw[show(cS 1 0 0 [] []).1=1 from rfl,b4L h g f])).1
def inW(x:Int)(v:Nat):Bool:=decide (x=0) || a1h x (v:Int)
theorem d0I{x:Int}{v:Nat}:a1h x (v:Int)=true↔1≤v∧v≤31∧-((2^(v-1):Nat):Int)≤x∧x≤((2^(v-1):Nat):Int)-1:=by
 by_cases hv:1≤v∧v≤31
 have e:((v:Int)-1)=((v-1:Nat):Int):=by omega
 have hp:2^(v-1)≤2^30:=a08 (by omega) (by omega);have a:=a16 (v-1);have g:A0n .i64 1 ((v-1:Nat):Int)=((2^(v-1):Nat):Int):=c3A (by omega);have f:A0n .i64 (-1) ((v-1:Nat):Int)=-((2^(v-1):Nat):Int):=by
  grind[IntKind.bits,A0n,a0B]
 have k:wrap .i64 (((2^(v-1):Nat):Int)-1)=((2^(v-1):Nat):Int)-1:=a0B (by omega);simp only[a1h,e,g,f,k,bA,dT];omega;constructor;intro h;simp[a1h]at h;omega;omega
theorem b6p:inW x v=true↔x=0∨(1≤v∧v≤31∧-((2^(v-1):Nat):Int)≤x∧x≤((2^(v-1):Nat):Int)-1):=by
 simp_all[inW,d0I]
theorem d0J{x:Int}{v w:Nat}(h:v≤w)(c:w≤31)(g:inW x v=true):inW x w=true:=by
 rw[b6p]at g⊢;rcases g with g|⟨f,k,a,b⟩;omega
 have:2^(v-1)≤2^(w-1):=a08 (by omega) (by omega)
 omega
theorem d0K{x:Int}(h:a0A x=true):inW x 31=true:=by
 have:=a1O.1 h
 rw[b6p];omega
theorem c0W{x:Int}(j:a0A x=true):∀(k w:Nat),w+k=32→w≤31→w≤a1T x k w∧a1T x k w≤31∧inW x (a1T x k w)=true∧∀v,w≤v→inW x v=true→v≤31→a1T x k w≤v
 |0,w,h,g=>absurd g (by omega)
 |k+1,w,h,g=>by
  by_cases hin:inW x w=true
  ·have:a1T x (k+1) w=w:=by
    unfold a1T;cases a:(x != 0)&&!a1h x (w:Int)with
    |false=>rfl
    |true=>
     simp at a;simp_all[inW]
   simp_all
  have a:((x != 0)&&!a1h x (w:Int))=true:=by
   simp_all[inW]
  have i:w≠31:=fun e=>hin (by simp_all[d0K]);have e:a1T x (k+1) w=a1T x k (w+1):=by
   show(bif (x != 0)&&!a1h x (w:Int)then a1T x k (w+1)else w)=_
   grind
  obtain⟨l,b,c,d⟩:=c0W j k (w+1) (by omega) (by omega);rw[e];refine⟨by omega,b,c,fun v hv f g=>d v ?_ f g⟩;rcases Nat.lt_or_ge w v with q|q;exact q
  have:v=w:=by omega
  exact absurd (this▸f) hin
theorem b0P:∀(l:List Int)(w:Nat),l.all a0A=true→w≤31→
  w≤l.foldl (fun w x=>a1T x (32-w) w) w∧l.foldl (fun w x=>a1T x (32-w) w) w≤31∧(∀x∈l,inW x (l.foldl (fun w x=>a1T x (32-w) w) w)=true)∧∀v,w≤v→v≤31→(∀x∈l,inW x v=true)→l.foldl (fun w x=>a1T x (32-w) w) w≤v
 | [],w,_,h31=>⟨a27 _,h31,by simp,fun v hv _ _=>hv⟩
 |x::l,w,h,h31=>by
  rw[a07,bA]at h;obtain⟨i,b,j,m⟩:=c0W h.1 (32-w) w (by omega) h31;obtain⟨c,a,d,e⟩:=b0P l (a1T x (32-w) w) h.2 b;simp only[b01];refine⟨by omega,a,fun y k=>?_,fun v hv f g=>?_⟩
  ·rcases mC.1 k with rfl|k
   all_goals grind[d0J]
  simp_all
theorem c3R{l:List Int}(h:l.all a0A=true):∀x∈l,inW x (a0J l)=true:=(b0P l 0 h (by omega)).2.2.1
theorem c5I(h:l.all a0A=true)(hv:v≤31)(g:∀x∈l,inW x v=true):a0J l≤v:=(b0P l 0 h (by omega)).2.2.2 v (by omega) hv g
theorem d0L{x:Int}{w v:Nat}(e:w≤30)(k:((2^w:Nat):Int) ∣ x)(h:inW x v=true):inW (A0o .i64 x (w:Int)) v=true:=by
 obtain⟨c,rfl⟩:=k;rw[c9Z (by omega)];rw[b6p]at h⊢;have hp:(1:Int)≤((2^w:Nat):Int):=by have:=a16 w;omega
 generalize ((2^w:Nat):Int)=p at h hp;rcases h with h|⟨g,f,b,d⟩
 grind[Int.mul_eq_zero]
 refine .inr ⟨g,f,?_,?_⟩
 by_cases hc:0≤c
 omega;have a:=a47 (show 0≤p-1 by omega) (show 0≤-c by omega)
 grind
 by_cases hc:0≤c
 have a:=a47 (show 0≤p-1 by omega) hc
 grind
 omega
theorem c7C(k:l.length≤4096)(h:l.all a0A=true):a0J (a1i l)≤a0J l:=by
 obtain⟨-,e,c⟩:=a9q (show short l by unfold short;omega) h;obtain⟨-,f,-,-⟩:=a6Y k h;have a:∀x∈l,((2^a3j l:Nat):Int) ∣ x:=by
  rcases c with⟨g,-⟩|⟨-,-,g,-⟩
  all_goals grind[a86]
 refine c5I f (a2g h) fun y b=>?_
 obtain⟨x,d,rfl⟩:=List.mem_map.1 b
 grind[d0L,c3R]
theorem c7D(a:1≤l.length)(h:l.length≤4096)(g:l.all a0A=true):a5h (a1s 1 l (cS 1 0 0 [] [])).1 (l.length:Int)=((13+a0J (a1i l)*l.length:Nat):Int):=by
 have b:SmallS (cS 1 0 0 [] []):=b1e (by simp) (by simp);have d:=b4L a h g;obtain⟨a1,-,-,f⟩:=b9U b (k:=1) (l:=l) (by grind);obtain⟨i,c,-⟩:=d0H a1 (by rw[f];rfl);obtain⟨-,-,j,-⟩:=a6Y h g;rw[c,d];have e:c7A (a1U (a1a 1 (cS 1 0 0 [] [])) (a3j l) (a1i l) z0 []) i=13+0+a0J (a1i l)*(a1i l).length+0:=rfl;simp_all
theorem c7E{l:List Int}(b:1≤l.length)(f:l.length≤4096)(a:l.all a0A=true)(g:b8H (a1i l)){k:Int}(d:0≤k)(t:k≤3):
  ∃s,a5G (l,k)=some (s,0)∧SmallS s∧a2u s (l.length:Int)=some l∧s=(b4I l (a4p (a1i l) k)).2.2∧a5h s (l.length:Int)=(b4I l (a4p (a1i l) k)).1∧a5h s (l.length:Int)≤((13+a0J l*l.length:Nat):Int)∧
   (∀c∈a4p (a1i l) k,(a1s c.1 l c).2=0→a5h s (l.length:Int)≤a5h (a1s c.1 l c).1 (l.length:Int)):=by
 obtain⟨-,p,u,-⟩:=a6Y f a;have hb:=d2y b f a g d t;have j:=c7B b f a (a1i l) k;obtain⟨c,i,q,r,o⟩:=(b9V l (a4p (a1i l) k)).one j;have e:=b8I p (by omega) g k c i;obtain⟨m,-,-,n⟩:=b9U e q;rw[←r]at m n;have h:∀c∈a4p (a1i l) k,(a1s c.1 l c).2=0→a5h (b4I l (a4p (a1i l) k)).2.2 (l.length:Int)≤a5h (a1s c.1 l c).1 (l.length:Int):=fun c i d=>by
  rw[←o];exact((b9V l (a4p (a1i l) k)).least c i d).2
 refine⟨_,hb,m,n,rfl,o.symm,?_,h⟩;have hp:=h (cS 1 0 0 [] []) (by simp[a4p,a2z]) (by rw[show(cS 1 0 0 [] []).1=1 from rfl,b4L b f a]);rw[show(cS 1 0 0 [] []).1=1 from rfl,c7D b f a]at hp
 have:=a25 l.length (c7C f a)
 omega
@[reducible] def Rd:Type:=(List Int)×(Int×(Int×Unit))
def a1z(L:List Int):Prop:=∀b∈L,b=0∨b=1
def b2y(bs:List Int)(i:Nat):Bool:=(bs.getD (i / 8) 0).toNat.testBit (7-i%8)
theorem or8{x y:Nat}(h:x<256)(g:y<256):bits .u8 .or (x:Int) (y:Int)=((x ||| y:Nat):Int):=by
 show wrap .u8 (((a04 8 (x:Int)) ||| (a04 8 (y:Int))).toNat:Int)=_;rw[a24,a24,a72,a29,a29,a23 h,a23 g,a8j]
 have:x ||| y<2^8:=a88 h g
 omega
theorem d8C{b:Int}(hb:b=0∨b=1){r:Nat}(h:r<8):A0n .u8 b (7-(r:Int))=((b.toNat*2^(7-r):Nat):Int):=by
 have key:∀r:Fin 8,A0n .u8 0 (7-(r.1:Int))=((0*2^(7-r.1):Nat):Int)∧A0n .u8 1 (7-(r.1:Int))=((1*2^(7-r.1):Nat):Int):=by decide +kernel
 rcases hb with rfl|rfl;exact(key ⟨r,h⟩).1;exact(key ⟨r,h⟩).2
theorem d0M{x:Nat}(h:x<256){r:Nat}(g:r<8):bits .u8 .and (A0o .u8 (x:Int) (7-(r:Int))) 1=if x.testBit (7-r)then 1 else 0:=by
 have e:A0o .u8 (x:Int) (7-(r:Int))=((x / 2^(7-r):Nat):Int):=by
  show a80 (x:Int) (2^(min (7-(r:Int)).toNat 8))=_
  grind
 rw[e];have f:x / 2^(7-r)<256:=a38 (a32 _ _) h;show wrap .u8 (((a04 8 ((x / 2^(7-r):Nat):Int)) &&& (a04 8 1)).toNat:Int)=_
 grind[a04,a8j]
theorem c8J(L:List Int)(b:Int)(i:Nat):(L++[b]).getD i 0=if i=L.length then b else L.getD i 0:=by
 grind
theorem c3S(h:List Int)(k:Nat)(y:Int)(g:k<h.length)(j:Nat):(h.set k y).getD j 0=if j=k then y else h.getD j 0:=by
 grind
theorem c0X:∀(n:Nat)(L:List Int),L.length=n→a1z L→(∀j,0≤(wL L).1.getD j 0∧(wL L).1.getD j 0<256)∧∀i,b2y (wL L).1 i=decide (L.getD i 0=1)
 |0,L,h,_=>by
  simp_all[wL,b2y]
 |n+1,L,h,hL=>by
  obtain⟨g,b,rfl⟩:∃g b,L=g++[b]:=by
   rcases a51 L with rfl|⟨g,b,e⟩
   all_goals simp_all
  have hb:b=0∨b=1:=hL b (by simp);obtain⟨t,v⟩:=c0X n g (by simp_all) fun c C=>hL c (by grind);obtain⟨o,p⟩:=a5W g;rw[b9P];generalize wL g=wr at o p t v⊢;obtain⟨d,m,u⟩:=wr;have o:m=(g.length:Int):=o;have p:d.length=(g.length+7) / 8:=p;subst o;have e8:((g.length:Int) / 8).toNat=g.length / 8:=by rfl
  have q:(g.length:Int)%8=((g.length%8:Nat):Int):=by rfl
  obtain⟨f,a,w,y⟩:∃f:List Int,(if(g.length:Int)%8=0 then d++[0]else d)=f∧g.length / 8<f.length∧∀j,f.getD j 0=d.getD j 0:=by
   grind
  rw[q]at a;have B:g.length%8<8:=a41 _ (by simp);obtain⟨x,r⟩:∃x:Nat,d.getD (g.length / 8) 0=(x:Int):=a01 (t _).1;have k:x<256:=by
   grind
  have s:b.toNat*2^(7-g.length%8)<256:=by
   have hp:2^(7-g.length%8)≤2^7:=a08 (by simp) (by omega)
   grind
  have A:x ||| b.toNat*2^(7-g.length%8)<2^8:=a88 k s;have l:(b9O (d,(g.length:Int),u) b).1=f.set (g.length / 8) ((x ||| b.toNat*2^(7-g.length%8):Nat):Int):=by
   unfold b9O;simp only[a,e8,q];rw[y,r,d8C hb B,or8 k s]
  rw[l];refine⟨fun j=>?_,fun i=>?_⟩
  grind[c3S]
  ·unfold b2y;rw[c3S _ _ _ w,c8J];have hi:=v i;unfold b2y at hi
   by_cases hk:i / 8=g.length / 8
   ·rw[if_pos hk,tN,Nat.testBit_or];rw[hk,r,tN]at hi;rw[hi];have z:(b.toNat*2^(7-g.length%8)).testBit (7-i%8)=(decide (b=1)&&decide (i=g.length)):=by
     rcases hb with rfl|rfl
     all_goals grind
    grind
   grind
theorem d2A(h:a1z L):(∀j,0≤(wL L).1.getD j 0∧(wL L).1.getD j 0<256)∧∀i,b2y (wL L).1 i=decide (L.getD i 0=1):=c0X _ L rfl h
def rdr(P R:List Int):Rd:=((wL (P++R)).1,(P.length:Int),(0:Int),())
theorem b9W(k:a1z L)(n:L.length<1000000000)(hi:i<L.length)(t:Int×(Int×Unit)):
  a1G (((wL L).1,t),(i:Int))=some (L.getD i 0,(wL L).1,t):=by
 obtain⟨d,e⟩:=d2A k;obtain⟨-,m⟩:=a5W L;have l:a26 (i:Int) 8=((i%8:Nat):Int):=by rfl
 have j:a54 (i:Int) 8=((i / 8:Nat):Int):=by rfl
 have b:wrap .i64 ((i / 8:Nat):Int)=((i / 8:Nat):Int):=a0B (by omega);have c:wrap .i64 (7-((i%8:Nat):Int))=7-((i%8:Nat):Int):=a0B (by omega);have g:decide (7-((i%8:Nat):Int)<0)=false:=by grind
 have hb:i / 8<(wL L).1.length:=by omega
 have f:(wL L).1[i / 8]=(wL L).1.getD (i / 8) 0:=by grind
 unfold a1G;simp only[l,j,b,c,g,a0D hb,oB,cF];obtain⟨x,a⟩:∃x:Nat,(wL L).1.getD (i / 8) 0=(x:Int):=a01 (d _).1;have h:x<256:=by grind
 rw[f,a,d0M h (a41 _ (by simp))]
 have:=e i
 unfold b2y at this;rw[a,tN]at this;rw[this];have hv:L.getD i 0=0∨L.getD i 0=1:=by
  have:L.getD i 0=L[i]:=by simp_all
  rw[this];exact k _ (a05 hi)
 grind
theorem c8K(hv:v<18446744073709551616)(hi:i≤64):a6W (v:Int) i=((v / 2^i%2:Nat):Int):=by
 unfold a6W;rw[a6G hi];have h:v / 2^i<18446744073709551616:=a38 (a32 _ _) hv;show wrap .u8 (wrap .u64 (((a04 64 ((v / 2^i:Nat):Int)) &&& (a04 64 1)).toNat:Int))=_
 grind[a04,a0M,a8j]
theorem a1z.app{A B:List Int}(h:a1z A)(g:a1z B):a1z (A++B):=fun b hb=>(mA.1 hb).elim (h b) (g b)
theorem orU(k:a<18446744073709551616)(hb:b<2)(f:a%2=0):bits .u64 .or (a:Int) (b:Int)=((a+b:Nat):Int):=by
 show wrap .u64 (((a04 64 (a:Int) ||| a04 64 (b:Int)).toNat:Nat):Int)=_;have g:(a04 64 (a:Int)).toNat=a:=by simp_all
 have h:(a04 64 (b:Int)).toNat=b:=by grind
 rw[a72,g,h];have e:a ||| b=a+b:=by
  have:=a59 (i:=1) (b:=b) (by omega) (a / 2)
  grind
 grind[a0M]
theorem c3T{v:Nat}(hv:v<9223372036854775808){n:Nat}(q:n≤62):∀(m:Nat)(P R:List Int),m≤n→a1z (P++(pb (v:Int) m++R))→(P++(pb (v:Int) m++R)).length<1000000000→
  y0s a4j (((v / 2^m:Nat):Int),(n:Int),((n-m:Nat):Int),rdr P (pb (v:Int) m++R),())=some ((v:Int),rdr (P++pb (v:Int) m) R,())
 |0,P,R,_,_,_=>by
  grind[a0F,a4j,pb]
 |m+1,P,R,hm,hok,hlen=>by
  have l:decide (((n-(m+1):Nat):Int)<(n:Int))=true:=by grind
  have a:a1G (rdr P (pb (v:Int) (m+1)++R),(P.length:Int))=some (a6W v m,rdr P (pb (v:Int) (m+1)++R)):=by
   have:=b9W hok hlen (i:=P.length) (by simp[pb]) ((P.length:Int),(0:Int),())
   rw[show(P++(pb (v:Int) (m+1)++R)).getD P.length 0=a6W v m from by simp_all[pb]]at this;exact this
  have g:=c8K (v:=v) (by omega) (i:=m) (by omega);have b:v / 2^m%2<2:=a41 _ (by simp);have f:v / 2^(m+1)=v / 2^m / 2:=by grind[a69]
  have p:v / 2^m≤v:=a32 _ _;have d:A0n .u64 ((v / 2^(m+1):Nat):Int) 1=((v / 2^(m+1)*2^1:Nat):Int):=b1T (o:=1) (by omega) (by omega);have h:bits .u64 .or ((v / 2^(m+1)*2^1:Nat):Int) (wrap .u64 (a6W (v:Int) m))=((v / 2^m:Nat):Int):=by
   rw[g,a0M (by omega),orU (by omega) b (by omega),f];omega
  have e:wrap .i64 (((n-(m+1):Nat):Int)+1)=((n-m:Nat):Int):=by grind[a0B]
  have j:wrap .i64 ((P.length:Int)+1)=(((P++[a6W v m]).length:Nat):Int):=by
   grind[a0B]
  have k:P++(pb (v:Int) (m+1)++R)=(P++[a6W v m])++(pb (v:Int) m++R):=by simp[pb]
  have c:((rdr P (pb (v:Int) (m+1)++R)).1,(((P++[a6W v m]).length:Nat):Int),(rdr P (pb (v:Int) (m+1)++R)).2.2)=rdr (P++[a6W v m]) (pb (v:Int) m++R):=by
   unfold rdr;simp_all
  rw[a0E (s':=(((v / 2^m:Nat):Int),(n:Int),((n-m:Nat):Int),rdr (P++[a6W v m]) (pb (v:Int) m++R),())) (by
   simp only[a4j,l,cT];rw[show(rdr P (pb (v:Int) (m+1)++R)).2.1=(P.length:Int)from rfl,a];simp only[oB,d,h,e];rw[show(rdr P (pb (v:Int) (m+1)++R)).2.1=(P.length:Int)from rfl,j,c])]
  rw[c3T hv q m _ _ (by omega) (by simp_all) (by simp_all)];simp[pb]
theorem c8L{n:Nat}(a:n≤62)(hv:v<2^n)(g:a1z (P++(pb (v:Int) n++R)))(k:(P++(pb (v:Int) n++R)).length<200000000):
  a0H (rdr P (pb (v:Int) n++R),(n:Int))=some ((v:Int),rdr (P++pb (v:Int) n) R):=by
 have h:v<9223372036854775808:=Nat.lt_of_lt_of_le hv (Nat.le_trans (a08 (by simp) a) (by simp));have f:=c3T h a n P R (by omega) g (by omega);rw[a67 hv,a56]at f;simp at f;obtain⟨-,e⟩:=a5W (P++(pb (v:Int) n++R));have j:=b3l (v:Int) n;have i:(P++(pb (v:Int) n++R)).length=P.length+n+R.length:=by grind
 have e8:wrap .i64 ((8:Int)*(((wL (P++(pb (v:Int) n++R))).1.length:Nat):Int))=(8:Int)*(((wL (P++(pb (v:Int) n++R))).1.length:Nat):Int):=a0B (by omega);have d:wrap .i64 ((8:Int)*(((wL (P++(pb (v:Int) n++R))).1.length:Nat):Int)-(P.length:Int))=(8:Int)*(((wL (P++(pb (v:Int) n++R))).1.length:Nat):Int)-(P.length:Int):=a0B (by omega);have b:decide ((n:Int)<0)=false:=by simp
 have c:decide ((n:Int) > 64)=false:=by grind
 have l:decide ((n:Int) > (8:Int)*(((wL (P++(pb (v:Int) n++R))).1.length:Nat):Int)-(P.length:Int))=false:=by
  grind
 unfold a0H a2O;rw[show(rdr P (pb (v:Int) n++R)).2.2.1=0 from rfl];simp only[bne_self_eq_false,cF,b,c,oB];rw[show(rdr P (pb (v:Int) n++R)).1=(wL (P++(pb (v:Int) n++R))).1 from rfl,show(rdr P (pb (v:Int) n++R)).2.1=(P.length:Int)from rfl,e8,d]
 grind
def b3L(n:Nat)(x:Int):Prop:=-((2^n:Nat):Int)≤2*x∧2*x<((2^n:Nat):Int)
theorem c0Y{n:Nat}(f:n≤62)(x:Int):∃v:Nat,a0Z x n=(v:Int)∧v<2^n∧(v:Int)=x%((2^n:Nat):Int):=by
 have k:wrap .u64 x=x%18446744073709551616:=by rfl
 obtain⟨y,h⟩:∃y:Nat,x%18446744073709551616=(y:Int):=a01 (Int.emod_nonneg _ (by simp));have g:y<18446744073709551616:=by omega
 refine⟨y%2^n,?_,a41 _ (a16 n),?_⟩;simp_all[a0Z,c3v];rw[Int.natCast_emod,←h];refine Int.emod_emod_of_dvd x ?_
 have:(2:Nat)^n ∣ 2^64:=a55 2 (by omega)
 exact a20.2 this
theorem c8M{n:Nat}(q:n≤62)(t:b3L n x)(c:a1z (P++(pb (a0Z x n) n++R)))(g:(P++(pb (a0Z x n) n++R)).length<200000000):
  a1c (rdr P (pb (a0Z x n) n++R),(n:Int))=some (x,rdr (P++pb (a0Z x n) n) R):=by
 obtain⟨v,hv,b,f⟩:=c0Y q x;rw[hv]at c g⊢;have a:=c8L q b c g;obtain⟨i,j⟩:=t;have y:=a16 n;have o:(v:Int)=x∧0≤x∨(v:Int)=x+((2^n:Nat):Int)∧x<0:=by
  by_cases h0:0≤x
  exact .inl ⟨by rw[f];exact a89 h0 (by omega),h0⟩;refine .inr ⟨?_,by omega⟩;rw[f,←Int.add_emod_right];exact a89 (by omega) (by omega)
 unfold a1c;simp[a];rw[show(rdr (P++pb (v:Int) n) R).2.2.1=0 from rfl]
 simp
 cases n with
 |zero=>
  grind
 |succ k=>
  have l:(((k+1:Nat):Int)==0)=false:=by rfl
  have s:wrap .i64 ((64:Int)-((k+1:Nat):Int))=((64-(k+1):Nat):Int):=by grind[a0B]
  have r:decide (((64-(k+1):Nat):Int)<0)=false:=by simp
  simp only[l,cF,s,r];have p:64-(k+1)+(k+1)=64:=by omega
  generalize 64-(k+1)=m at p⊢;have u:2^m*2^(k+1)=18446744073709551616:=by rw[←Nat.pow_add,p]
  have d:((2^m:Nat):Int)*((2^(k+1):Nat):Int)=18446744073709551616:=by omega
  have hp:=a16 m;have w:A0n .u64 (v:Int) (m:Int)=(v:Int)*((2^m:Nat):Int):=by
   show wrap .u64 ((v:Int)*2^(min (m:Int).toNat 64))=_;rw[tN,a71 (by omega)];have e:(2:Int)^m=((2^m:Nat):Int):=by simp
   rw[e];refine a0M ⟨a47 (by omega) (by omega),?_⟩
   have:v*2^m<2^(k+1)*2^m:=Nat.mul_lt_mul_of_pos_right b hp
   grind
  have b1:-9223372036854775808≤x*((2^m:Nat):Int):=by
   have:=Int.mul_le_mul_of_nonneg_right i (show(0:Int)≤((2^m:Nat):Int)by omega)
   grind
  have b2:x*((2^m:Nat):Int)<9223372036854775808:=by
   have:=Int.mul_lt_mul_of_pos_right j (show(0:Int)<((2^m:Nat):Int)by omega)
   grind
  have A:wrap .i64 ((v:Int)*((2^m:Nat):Int))=x*((2^m:Nat):Int):=by
   rcases o with⟨h,-⟩|⟨h,-⟩
   grind[a0B]
   rw[h,Int.add_mul,Int.mul_comm ((2^(k+1):Nat):Int),d]
   grind[wrap,IntKind.bits,IntKind.signed]
  have z:A0o .i64 (x*((2^m:Nat):Int)) (m:Int)=x:=by
   show a80 (x*((2^m:Nat):Int)) (2^(min (m:Int).toNat 64))=x;rw[tN,a71 (by omega)]
   grind[Int.mul_ediv_cancel]
  simp_all
theorem c7F(P:List Int)(n:Nat)(R:List Int){c:Nat}(h:c<n):(P++(a00 n 0++1::R)).getD (P.length+c) 0=0:=by
 grind
theorem d0N(P:List Int)(n:Nat)(R:List Int):(P++(a00 n 0++1::R)).getD (P.length+n) 0=1:=by
 simp
theorem c8N{n lm:Nat}(x:n≤lm)(t:lm<1000000)(o:a1z (P++(a00 n 0++1::R)))(p:(P++(a00 n 0++1::R)).length<200000000):
  a3o (rdr P (a00 n 0++1::R),(lm:Int))=some ((n:Int),rdr (P++(a00 n 0++[1])) R):=by
 obtain⟨-,r⟩:=a5W (P++(a00 n 0++1::R));have s:(P++(a00 n 0++1::R)).length=P.length+n+1+R.length:=by grind
 have e8:wrap .i64 ((8:Int)*(((wL (P++(a00 n 0++1::R))).1.length:Nat):Int))=(8:Int)*(((wL (P++(a00 n 0++1::R))).1.length:Nat):Int):=a0B (by omega);have g:∀c,c≤n→a1G (rdr P (a00 n 0++1::R),((P.length:Int)+(c:Int)))=some (if c=n then 1 else 0,rdr P (a00 n 0++1::R)):=fun c l=>by
  have:=b9W o (by omega) (i:=P.length+c) (by omega) ((P.length:Int),(0:Int),())
  rw[b02]at this;refine this.trans ?_
  by_cases e:c=n
  subst e;rw[d0N,if_pos rfl];rfl;rw[c7F P n R (by omega),if_neg e];rfl
 have h:∀c:Nat,c≤n→(((P.length:Int)+(c:Int))==(8:Int)*(((wL (P++(a00 n 0++1::R))).1.length:Nat):Int))=false:=fun c l=>by
  grind
 have j:wrap .i64 ((P.length:Int)+(n:Int)+1)=(((P++(a00 n 0++[1])).length:Nat):Int):=by
  rw[a0B (by omega)];grind
 have a:P++(a00 n 0++1::R)=(P++(a00 n 0++[1]))++R:=by simp
 have v:((rdr P (a00 n 0++1::R)).1,(((P++(a00 n 0++[1])).length:Nat):Int),(rdr P (a00 n 0++1::R)).2.2)=rdr (P++(a00 n 0++[1])) R:=by
  unfold rdr;simp
 have k:(rdr P (a00 n 0++1::R)).1=(wL (P++(a00 n 0++1::R))).1:=rfl;have m:=a1D (f:=a3w) (fun c:Nat=>((lm:Int),(c:Int),(P.length:Int)+(c:Int),rdr P (a00 n 0++1::R),())) n (b:=((n:Int),rdr (P++(a00 n 0++[1])) R,()))
  (fun c l=>by
   have d:((0:Int)==1)=false:=rfl;have q:(((c:Nat):Int)==(lm:Int))=false:=by grind
   have w:wrap .i64 ((c:Int)+1)=((c+1:Nat):Int):=a0C (by omega);have w2:wrap .i64 ((P.length:Int)+(c:Int)+1)=(P.length:Int)+((c+1:Nat):Int):=by rw[a0B (by omega)];rfl
   simp only[a3w,k,e8,h c (by omega),cF,g c (by omega),oB,if_neg (Nat.ne_of_lt l),d,q,w,w2])
  (by
   have d:((1:Int)==1)=true:=rfl;simp only[a3w,k,e8,h n (a27 _),cF,g n (a27 _),oB,if_pos rfl,d,cT,j]
   grind)
 unfold a3o;rw[show(rdr P (a00 n 0++1::R)).2.2.1=0 from rfl,show(rdr P (a00 n 0++1::R)).2.1=(P.length:Int)from rfl];have u:v0r (lm:Int) 0=(lm:Int):=by
  rfl
 grind
def OkR(P R:List Int):Prop:=a1z (P++R)∧(P++R).length<200000000
theorem OkR.shift{A:List Int}(h:OkR P (A++R)):OkR (P++A) R:=by
 unfold OkR at h⊢;simp_all
theorem a3K{n:Nat}(g:n≤62)(hv:v<2^n)(h:OkR P (pb (v:Int) n++R)):a0H (rdr P (pb (v:Int) n++R),(n:Int))=some ((v:Int),rdr (P++pb (v:Int) n) R):=c8L g hv h.1 h.2
theorem a9P{n:Nat}(f:n≤62)(g:b3L n x)(h:OkR P (pb (a0Z x n) n++R)):a1c (rdr P (pb (a0Z x n) n++R),(n:Int))=some (x,rdr (P++pb (a0Z x n) n) R):=c8M f g h.1 h.2
def unB(n:Nat):List Int:=a00 n 0++[1]
theorem c3U{n lm:Nat}(f:n≤lm)(g:lm<1000000)(h:OkR P (unB n++R)):a3o (rdr P (unB n++R),(lm:Int))=some ((n:Int),rdr (P++unB n) R):=by
 have e:unB n++R=a00 n 0++1::R:=by simp[unB]
 rw[e]at h⊢;exact c8N f g h.1 h.2
theorem a4W{v n:Nat}(h:n≤63)(hv:v<2^n)(L:List Int):a0P (v:Int) n L=L++pb (v:Int) n:=by
 grind[a0P,a6G,a67]
def a9C(k:Nat)(x:Int):List Int:=
 if a0R x / 2^k<32 then unB (a0R x / 2^k)++pb ((a0R x%2^k:Nat):Int) k else unB 32++pb ((a0R x:Nat):Int) 32
theorem c8O{k:Nat}(f:k≤25)(g:a0A x=true)(L:List Int):a6X k x L=L++a9C k x:=by
 have h:=a9H g;unfold a6X a9C;split;rw[a4W (by omega) (a41 _ (a16 k))];simp[unL,unB]
 grind[a4W,unL,unB]
theorem c8P(f:a0A x=true):a7j ((a0R x:Nat):Int)=some x:=by
 have b:=a9H f;have d:=a1O.1 f;have c:a26 ((a0R x:Nat):Int) 2=((a0R x:Nat):Int)%2:=a43 (by omega);have a:a54 ((a0R x:Nat):Int) 2=((a0R x:Nat):Int) / 2:=a61 (by omega);have k:decide (((a0R x:Nat):Int)≥2147483648)=false:=by grind
 unfold a7j;simp only[k,cF,c,a]
 by_cases h0:0≤x
 have e:((a0R x:Nat):Int)=2*x:=by unfold a0R;grind
 rw[e];have h:((2*x)%2==(0:Int))=true:=by simp
 have g:2*x / 2=x:=by omega
 simp only[h,cT,g]
 grind[a0M,a0B]
 have e:((a0R x:Nat):Int)=-2*x-1:=by unfold a0R;grind
 rw[e];have h:((-2*x-1)%2==(0:Int))=false:=by grind
 have g:(-2*x-1) / 2=-x-1:=by omega
 simp only[h,cF,g]
 grind[a0M,a0B]
theorem c5J{k:Nat}(r:k≤25)(c:a0A x=true)(h:OkR P (a9C k x++R)):b2e (rdr P (a9C k x++R),(k:Int))=some (x,(0:Int),rdr (P++a9C k x) R):=by
 have m:=a9H c;have b:=c8P c;unfold b2e a0O;unfold a9C at h⊢;have s:∀A B:List Int,(rdr A B).2.2.1=0:=fun _ _=>rfl;split;rename_i g;rw[if_pos g,aA]at h;have j:=c3U (n:=a0R x / 2^k) (lm:=32) (by omega) (by omega) h;have l:=a3K (n:=k) (v:=a0R x%2^k) (by omega) (a41 _ (a16 k)) h.shift;have i:wrap .u64 ((a0R x / 2^k:Nat):Int)=((a0R x / 2^k:Nat):Int):=a3J (by omega);have d:decide (((a0R x / 2^k:Nat):Int)<32)=true:=by grind
 have e:decide ((k:Int)<0)=false:=by simp
 have f:a0R x / 2^k*2^k≤a0R x:=a78 _ _;have o:A0n .u64 ((a0R x / 2^k:Nat):Int) (k:Int)=((a0R x / 2^k*2^k:Nat):Int):=b1T (by omega) (by omega);have a:wrap .u64 (((a0R x / 2^k*2^k:Nat):Int)+((a0R x%2^k:Nat):Int))=((a0R x:Nat):Int):=by
  rw[←b02,Nat.div_add_mod',a0M (by omega)]
 grind
 rename_i g;rw[if_neg g,aA]at h;have j:=c3U (n:=32) (lm:=32) (by omega) (by omega) h;have l:=a3K (n:=32) (v:=a0R x) (by omega) (by omega) h.shift;have i:wrap .u64 (32:Int)=32:=a0M (by omega);have d:decide ((32:Int)<32)=false:=by simp
 have e:decide ((k:Int)<0)=false:=by simp
 have q:decide (((a0R x:Nat):Int)≥2147483648)=false:=by grind
 have p:A0o .u64 ((a0R x:Nat):Int) (k:Int)=((a0R x / 2^k:Nat):Int):=a6G (by omega)
 grind
def a3L(k:Nat)(l:List Int):List Int:=l.flatMap (a9C k)
theorem b8J{k:Nat}(g:k≤25):∀(l L:List Int),l.all a0A=true→a4U k l L=L++a3L k l
 | [],L,_=>by simp[a4U,a3L]
 |x::l,L,h=>by
  simp only[a07,bA]at h;show a4U k l (a6X k x L)=_;rw[b8J g l _ h.2,c8O g h.1];simp[a3L]
theorem b5r{k:Nat}(g:k≤25){N:Nat}(f:N<1000000):∀(l done P R:List Int),l.all a0A=true→done.length+l.length=N→OkR P (a3L k l++R)→
  y0s a9u ((k:Int),(N:Int),(done.length:Int),done,rdr P (a3L k l++R),())=some (Sum.inl (done++l,rdr (P++a3L k l) R,()))
 | [],done,P,R,_,hl,_=>by
  have:done.length=N:=by omega
  subst this;have d:decide ((done.length:Int)<(done.length:Int))=false:=by simp
  simp_all[a0F,a9u,a3L]
 |x::l,done,P,R,h,hl,hok=>by
  simp only[a07,bA]at h;rw[lC]at hl;have e:a3L k (x::l)++R=a9C k x++(a3L k l++R):=by simp[a3L]
  rw[e]at hok⊢;have d:decide ((done.length:Int)<(N:Int))=true:=by grind
  have b:=c5J g h.1 hok;have a:lim (a37 done+1)=true:=a0T (by omega);have c:wrap .i64 ((done.length:Int)+1)=(((done++[x]).length:Nat):Int):=by grind[a0B]
  rw[a0E (s':=((k:Int),(N:Int),(((done++[x]).length:Nat):Int),done++[x],rdr (P++a9C k x) (a3L k l++R),())) (by
   simp_all[a9u])]
  rw[b5r g f l (done++[x]) (P++a9C k x) R h.2 (by grind) hok.shift];simp[a3L]
theorem c5K{k:Nat}(a:k≤25)(h:l.all a0A=true)(b:l.length<1000000)(f:OkR P (a3L k l++R)):
  b2f (rdr P (a3L k l++R),(k:Int),((l.length:Nat):Int))=some (l,(0:Int),rdr (P++a3L k l) R):=by
 have hp:a2a (k:Int)=some true:=by
  grind[a2a]
 have c:decide (((l.length:Nat):Int)<0)=false:=by simp
 have d:decide (((l.length:Nat):Int) > 4194304)=false:=by grind
 have e:∀A B:List Int,(rdr A B).2.2.1=0:=fun _ _=>rfl;have g:=b5r a b l [] P R h (by simp) f;simp at g;unfold b2f a0O
 grind
theorem d0O(h:inW x v=true):b3L v x:=by
 have hp:=a16 v;rcases b6p.1 h with rfl|⟨g,-,f,k⟩;exact⟨by omega,by omega⟩;have e:2^v=2^(v-1)*2:=by rw[←a68];simp_all
 unfold b3L;omega
theorem b4M(h:l.all a0A=true):∀x∈l,b3L (a0J l) x:=fun x g=>d0O (c3R h x g)
def sB(n:Nat)(l:List Int):List Int:=l.flatMap fun x=>pb (a0Z x n) n
theorem a9Q{n:Nat}(g:n≤62):∀(l L:List Int),a1L n l L=L++sB n l
 | [],L=>by simp[a1L,sB]
 |x::l,L=>by
  show a1L n l (a0P (a0Z x n) n L)=_;obtain⟨v,hv,h,-⟩:=c0Y g x;rw[a9Q g l,hv,a4W (by omega) h,←hv];simp[sB]
theorem b9X(n:Nat)(x:Int)(l R:List Int):sB n (x::l)++R=pb (a0Z x n) n++(sB n l++R):=by simp[sB]
theorem b4e{k:Int}{n:Nat}(g:n≤62){N:Nat}(f:N<1000000):∀(l done P R:List Int),(∀x∈l,b3L n x)→done.length+l.length=N→OkR P (sB n l++R)→
  y0s a8A (k,(n:Int),(N:Int),(done.length:Int),done,rdr P (sB n l++R),())=some (k,(n:Int),done++l,rdr (P++sB n l) R,())
 | [],done,P,R,_,hl,_=>by
  have:done.length=N:=by omega
  subst this;have d:decide ((done.length:Int)<(done.length:Int))=false:=by simp
  simp_all[a0F,a8A,sB]
 |x::l,done,P,R,h,hl,hok=>by
  rw[lC]at hl;rw[b9X]at hok⊢;have d:decide ((done.length:Int)<(N:Int))=true:=by grind
  have b:=a9P g (h x (by simp)) hok;have a:lim (a37 done+1)=true:=a0T (by omega);have c:wrap .i64 ((done.length:Int)+1)=(((done++[x]).length:Nat):Int):=by grind[a0B]
  rw[a0E (s':=(k,(n:Int),(N:Int),(((done++[x]).length:Nat):Int),done++[x],rdr (P++pb (a0Z x n) n) (sB n l++R),())) (by
   simp_all[a8A])]
  rw[b4e g f l (done++[x]) _ R (fun y e=>h y (by grind)) (by grind) hok.shift];simp[sB]
def b0Q(k:Int)(part:List Int):List Int:=if k=31 then pb 31 5++(pb ((a0J part:Nat):Int) 5++sB (a0J part) part)else pb k 5++a3L k.toNat part
theorem c8Q(h:kB k=true)(g:part.all a0A=true)(L:List Int):a9A k part L=L++b0Q k part:=by
 have f:=a2g g;simp[kB]at h;obtain⟨K,rfl⟩:=a01 (show 0≤k by omega)
 grind[a9A,b0Q,a3J,a4W,a9Q,b8J]
theorem c3V(o:kB k=true)(c:part.all a0A=true)(b:part.length<1000000)(h:OkR P (b0Q k part++R)):
  b1u (rdr P (b0Q k part++R),((part.length:Nat):Int))=some (k,part,(0:Int),rdr (P++b0Q k part) R):=by
 have p:=a2g c;have e:∀A B:List Int,(rdr A B).2.2.1=0:=fun _ _=>rfl;simp[kB]at o;obtain⟨K,rfl⟩:=a01 (show 0≤k by omega);unfold b1u a0O;unfold b0Q at h⊢;split;rename_i f;rw[if_pos f,aA,aA]at h;rw[aA,aA];obtain rfl:K=31:=by omega
 have d:a0H (rdr P (pb 31 5++(pb ((a0J part:Nat):Int) 5++(sB (a0J part) part++R))),(5:Int))=_:=a3K (v:=31) (n:=5) (by omega) (by omega) h;have g:=h.shift;have l:a0H (rdr (P++pb 31 5) (pb ((a0J part:Nat):Int) 5++(sB (a0J part) part++R)),(5:Int))=_:=a3K (v:=a0J part) (n:=5) (by omega) (by omega) g;have a:=b4e (k:=31) (n:=a0J part) (by omega) b part [] _ R (b4M c) (by simp) g.shift;simp only[a22,nZ,a09,a30]at a;have i:wrap .i64 ((31:Nat):Int)=31:=by rfl
 have w2:wrap .i64 ((a0J part:Nat):Int)=((a0J part:Nat):Int):=a0B (by omega);have j:decide ((31:Int)≤25)=false:=by rfl
 have q:((31:Int) != 31)=false:=by rfl
 rw[d];simp only[oB,e,bne_self_eq_false,cF,i,j]
 erw[l]
 simp only[oB,w2]
 erw[a]
 simp only[oB,e,bne_self_eq_false,cF,a2y (show short part from b)]
 simp
 rename_i f;rw[if_neg f,aA]at h;rw[aA];have m:K≤25:=by omega
 have d:a0H (rdr P (pb (K:Int) 5++(a3L ((K:Int).toNat) part++R)),(5:Int))=_:=a3K (v:=K) (n:=5) (by omega) (by omega) h;have r:=c5K m c b h.shift;have i:wrap .i64 (K:Int)=(K:Int):=a0B (by omega);simp_all
def a1Y:List Nat→List Int→List Int→List Int
 |z::zs,k::ks,l=>b0Q k (l.take z)++a1Y zs ks (l.drop z)
 |_,_,_=>[]
theorem c0Z(h:l.all a0A=true)(z:Nat):(l.take z).all a0A=true:=lA.2 fun x g=>lA.1 h x (a34 g)
theorem c1a(h:l.all a0A=true)(z:Nat):(l.drop z).all a0A=true:=lA.2 fun x g=>lA.1 h x (a35 g)
theorem b8K:∀(zs:List Nat)(ks l L:List Int),ks.all kB=true→l.all a0A=true→a4V zs ks l L=L++a1Y zs ks l
 |z::zs,k::ks,l,L,hk,hw=>by
  simp only[a07,bA]at hk;simp only[a4V,a1Y];rw[b8K zs ks _ _ hk.2 (c1a hw z),c8Q hk.1 (c0Z hw z)]
  simp
 | [],_,_,L,_,_=>by simp[a4V,a1Y]
 |_::_,[],_,L,_,_=>by simp[a4V,a1Y]
theorem c8R(h:List Nat)(z:Nat)(g:List Nat):(a1q (h++z::g)).getD h.length 0=(z:Int):=by
 simp_all[a1q]
theorem b4f{o:Int}{z0:Prt}:∀(zs:List Nat)(ks l dk acc P R:List Int)(dz:List Nat),ks.length=zs.length→ks.all kB=true→zs.sum=l.length→l.all a0A=true→
  dk.length=dz.length→(dz++zs).length≤256→acc.length+l.length≤10000→OkR P (a1Y zs ks l++R)→
  y0s a8B (((a1q (dz++zs)).length:Int),(dz.length:Int),acc,a1q (dz++zs),rdr P (a1Y zs ks l++R),z0,(o,dk,()),()) =
   some (Sum.inl (acc++l,z0,(o,dk++ks,()),rdr (P++a1Y zs ks l) R,()))
 | [],ks,l,dk,acc,P,R,dz,hk,_,hs,_,_,_,_,_=>by
  obtain rfl:ks=[]:=a45.1 hk;obtain rfl:l=[]:=a45.1 (by simp_all);have d:decide ((dz.length:Int)<((a1q (dz++[])).length:Int))=false:=by simp[a1y]
  rw[a0F (b:=Sum.inl (acc,z0,(o,dk,()),rdr P R,())) (by simp only[a8B,d,cF];rfl)];simp[a1Y]
 |z::zs,[],_,_,_,_,_,_,hk,_,_,_,_,_,_,_=>by simp_all
 |z::zs,k::ks,l,dk,acc,P,R,dz,hk,hkb,hs,hw,hd,h256,hacc,hok=>by
  simp only[a07,bA]at hkb;rw[a62]at hs;have p:z≤l.length:=by omega
  have a:(l.take z).length=z:=by simp_all
  have e:a1Y (z::zs) (k::ks) l++R=b0Q k (l.take z)++(a1Y zs ks (l.drop z)++R):=by simp[a1Y]
  rw[e]at hok⊢;have j:(a1q (dz++z::zs)).length=dz.length+1+zs.length:=by grind[a1y]
  have d:decide ((dz.length:Int)<((a1q (dz++z::zs)).length:Int))=true:=by grind
  have m:decide ((0:Int)≤(dz.length:Int))=true:=by simp
  have h:=c3V hkb.1 (c0Z hw z) (by omega) hok;rw[a]at h;have i:((0:Int) != 0)=false:=rfl;rw[lN,lC]at h256;have g:lim (a37 dk+1)=true:=a0T (by omega);have f:lim (a37 acc+a37 (l.take z))=true:=a0T (by omega);have c:wrap .i64 ((dz.length:Int)+1)=(((dz++[z]).length:Nat):Int):=by grind[a0B]
  have n:dz++z::zs=(dz++[z])++zs:=by simp
  rw[a0E (s':=(((a1q ((dz++[z])++zs)).length:Int),(((dz++[z]).length:Nat):Int),acc++l.take z,a1q ((dz++[z])++zs),rdr (P++b0Q k (l.take z)) (a1Y zs ks (l.drop z)++R),z0,(o,dk++[k],()),())) (by
   simp only[a8B,d,m,a03,cT,tN,c8R,h,oB,i,cF,g,f,c,a06]
   simp)]
  rw[b4f zs ks (l.drop z) (dk++[k]) (acc++l.take z) _ R (dz++[z]) (by grind) hkb.2 (by grind) (c1a hw z) (by grind) (by grind) (by grind) hok.shift];simp[a1Y]
def a6H(p:Prt)(zn:List Nat)(l:List Int):List Int:=pb p.1 4++a1Y zn p.2.1 l
theorem c2n(h:PartsOk p n warm l zn)(L:List Int):a4w p zn l L=L++a6H p zn l:=by
 obtain⟨o,ks,u⟩:=p;have g:=h.order;simp only at g;obtain⟨O,rfl⟩:=a01 g.1;unfold a4w a6H;simp only;rw[a3J (by omega),a4W (n:=4) (by omega) (by omega),b8K _ _ _ _ h.all h.wide]
 simp
theorem c3W(h:PartsOk p n warm l zn)(g:OkR P (a6H p zn l++R)):
  b1v (rdr P (a6H p zn l++R),n,warm)=some (p,l,(0:Int),rdr (P++a6H p zn l) R):=by
 obtain⟨o,ks,u⟩:=p;have c:=h.order;have m:=h.short;have b:=h.len;simp only at c;obtain⟨O,rfl⟩:=a01 c.1;have i:∀A B:List Int,(rdr A B).2.2.1=0:=fun _ _=>rfl;have f:=h.may;unfold a5K at f;simp only[bA,a33,beq_eq_false_iff_ne]at f;have d:=h.sizes;simp only at d;have a:(((a1q zn).length:Int)==0)=false:=by
  grind
 unfold a6H at g⊢;simp only at g⊢;rw[aA]at g⊢;have e:a0H (rdr P (pb (O:Int) 4++(a1Y zn ks l++R)),(4:Int))=_:=a3K (v:=O) (n:=4) (by omega) (by omega) g;have j:wrap .i64 (O:Int)=(O:Int):=a0B (by omega);have k:=b4f (o:=(O:Int)) (z0:=((0:Int),([]:List Int),())) zn ks l [] [] _ R [] h.ks h.all h.sum h.wide rfl (by simp_all) (by grind) g.shift;simp only[a22,nZ,a09,a30]at k;unfold b1v a0O;simp[b2M,h.row];rw[e];simp[i,j,a2l,d,a];simp_all
def a7x(s:Sub):List Int:=
 pb ((s.2.2.2.2.2.1.length-1:Nat):Int) 5++(pb s.2.2.2.1 4++(pb ((a0J s.2.2.2.2.2.1:Nat):Int) 5++sB (a0J s.2.2.2.2.2.1) s.2.2.2.2.2.1))
theorem c1b{t:Int}(h:a9G c t=true):1≤c.length∧c.length≤32∧0≤t∧t≤15∧c.all a0A=true:=by
 simp only[a9G,bA,dT]at h;obtain⟨g,f,k,a,b⟩:=h;refine⟨g,f,k,a,lA.2 fun x d=>?_⟩
 have:=lA.1 b x d
 simp[b8j]at this;rw[a1O];omega
theorem b8L{s:Sub}(h:a9G s.2.2.2.2.2.1 s.2.2.2.1=true)(L:List Int):a6C s L=L++a7x s:=by
 obtain⟨a,b,g,d,f⟩:=c1b h;have k:=a2g f;unfold a6C a7x;generalize s.2.2.2.2.2.1=c at *;generalize s.2.2.2.1=t at *;obtain⟨T,rfl⟩:=a01 g
 grind[a0B,a0M,a9Q,a4W]
def b4N(s:Sub)(c:List Int):Sub:=(s.1,s.2.1,s.2.2.1,s.2.2.2.1,s.2.2.2.2.1,c,s.2.2.2.2.2.2)
def b9Y(s:Sub)(t:Int):Sub:=(s.1,s.2.1,s.2.2.1,t,s.2.2.2.2)
theorem b8M{n:Nat}(g:n≤62){N:Nat}(f:N<1000000)(s:Sub):∀(l done P R:List Int),(∀x∈l,b3L n x)→done.length+l.length=N→OkR P (sB n l++R)→
  y0s a6c ((n:Int),(N:Int),(done.length:Int),rdr P (sB n l++R),b4N s done,())=some ((n:Int),b4N s (done++l),rdr (P++sB n l) R,())
 | [],done,P,R,_,hl,_=>by
  have:done.length=N:=by omega
  subst this;have d:decide ((done.length:Int)<(done.length:Int))=false:=by simp
  simp_all[a0F,a6c,sB]
 |x::l,done,P,R,h,hl,hok=>by
  rw[lC]at hl;rw[b9X]at hok⊢;have d:decide ((done.length:Int)<(N:Int))=true:=by grind
  have a:=a9P g (h x (by simp)) hok;have k:lim (a37 done+1)=true:=a0T (by omega);have b:wrap .i64 ((done.length:Int)+1)=(((done++[x]).length:Nat):Int):=by grind[a0B]
  rw[a0E (s':=((n:Int),(N:Int),(((done++[x]).length:Nat):Int),rdr (P++pb (a0Z x n) n) (sB n l++R),b4N s (done++[x]),())) (by
   simp_all[a6c,b4N])]
  rw[b8M g f s l (done++[x]) _ R (fun y c=>h y (by grind)) (by grind) hok.shift];simp[sB]
theorem b6W{s0:Sub}(h:a9G s.2.2.2.2.2.1 s.2.2.2.1=true)(r:s0.2.2.2.2.2.1=[])(g:OkR P (a7x s++R)):
  a8z (rdr P (a7x s++R),s0)=some (true,rdr (P++a7x s) R,b4N (b9Y s0 s.2.2.2.1) s.2.2.2.2.2.1):=by
 obtain⟨u,w,l,x,d⟩:=c1b h;have m:=a2g d;unfold a7x at g⊢;generalize s.2.2.2.2.2.1=c at *;generalize s.2.2.2.1=t at *;obtain⟨T,rfl⟩:=a01 l;simp at g⊢;have e:a0H (rdr P (pb ((c.length-1:Nat):Int) 5++(pb (T:Int) 4++(pb ((a0J c:Nat):Int) 5++(sB (a0J c) c++R)))),(5:Int))=_:=a3K (v:=c.length-1) (n:=5) (by omega) (by omega) g;have f:=g.shift;have i:a0H (rdr (P++pb ((c.length-1:Nat):Int) 5) (pb (T:Int) 4++(pb ((a0J c:Nat):Int) 5++(sB (a0J c) c++R))),(4:Int))=_:=a3K (v:=T) (n:=4) (by omega) (by omega) f;have k:=f.shift;have j:a0H (rdr (P++pb ((c.length-1:Nat):Int) 5++pb (T:Int) 4) (pb ((a0J c:Nat):Int) 5++(sB (a0J c) c++R)),(5:Int))=_:=a3K (v:=a0J c) (n:=5) (by omega) (by omega) k;have a:=b8M (n:=a0J c) (by omega) (N:=c.length) (by omega) (b9Y s0 (T:Int)) c [] _ R (b4M d) (by simp) k.shift;simp only[a22,nZ,a09,a30]at a;have o:wrap .i64 ((c.length-1:Nat):Int)=((c.length-1:Nat):Int):=a0B (by omega);have w2:wrap .i64 (((c.length-1:Nat):Int)+1)=(c.length:Int):=by grind[a0B]
 have p:wrap .i64 (T:Int)=(T:Int):=a0B (by omega);have q:wrap .i64 ((a0J c:Nat):Int)=((a0J c:Nat):Int):=a0B (by omega);have b:((s0.1,s0.2.1,s0.2.2.1,(T:Int),s0.2.2.2.2):Sub)=b4N (b9Y s0 (T:Int)) []:=by
  grind[b4N,b9Y]
 unfold a8z;rw[e]
 simp
 rw[i];simp only[oB];rw[j];simp only[oB,o,w2,p,q]
 erw[b,a]
 simp only[oB];rw[show(b4N (b9Y s0 (T:Int)) c).2.2.2.2.2.1=c from rfl,a2y (show short c by unfold short;omega)]
 simp
def a8q(st:List Stg):List Int:=st.flatMap fun g=>pb (g.1-1) 5++pb g.2.1 4
theorem b6X{g:Stg}(h:Ab.stageB g=true):1≤g.1∧g.1≤32∧0≤g.2.1∧g.2.1≤8:=by
 simp_all[Ab.stageB]
theorem b6Y:∀(st:List Stg)(L:List Int),st.all Ab.stageB=true→a3t st L=L++a8q st
 | [],L,_=>by simp[a3t,a8q]
 |g::st,L,h=>by
  simp only[a07,bA]at h;obtain⟨k,c,f,d⟩:=b6X h.1;show a3t st (a6B g L)=_;rw[b6Y st _ h.2];obtain⟨a,b,u⟩:=g;simp only at k c f d;obtain⟨B,rfl⟩:=a01 f;obtain⟨A,e⟩:=a01 (show 0≤a-1 by omega)
  grind[a6B,b2R,a3J,a4W,a8q]
def a5i(s:Sub):List Int:=
 if s.1=2 then pb s.2.2.1 3
 else if s.1=3 then a7x s
 else if s.1=4 then pb (s.2.2.2.2.1-1) 10++(sB 8 s.2.2.2.2.2.2.1++a7x s)
 else if s.1=5 then pb ((s.2.2.2.2.2.2.2.1.length:Nat):Int) 2++a8q s.2.2.2.2.2.2.2.1
 else[]
theorem c1c(h:a4c s.1 s n)(L:List Int):a2K s L=L++a5i s:=by
 unfold a2K a5i;rcases h with k|k|⟨k,g,f,-⟩|⟨k,g,-⟩|⟨k,g,-,a⟩|⟨k,g,f⟩
 grind
 grind
 rw[if_pos k,if_pos k]
 grind[a01,a3J,a4W]
 simp_all[b8L];rw[if_neg (by omega),if_neg (by omega),if_pos k,if_neg (by omega),if_neg (by omega),if_pos k,b8L g,a9Q (by omega)];simp only[b1E,bA,dT]at a;obtain⟨A,b⟩:=a01 (show 0≤s.2.2.2.2.1-1 by omega)
 grind[b2R,a3J,a4W]
 rw[if_neg (by omega),if_neg (by omega),if_neg (by omega),if_pos k,if_neg (by omega),if_neg (by omega),if_neg (by omega),if_pos k];simp only[a9p,bA,dT]at f
 grind[b6Y,a3J,a4W]
def b3s(s:Sub):List Int:=pb s.1 3++(pb s.2.1 5++pb ((a0J s.2.2.2.2.2.2.2.2.1:Nat):Int) 5)
theorem c8S(g:0≤s.1∧s.1≤5)(f:0≤s.2.1∧s.2.1≤30)(h:s.2.2.2.2.2.2.2.2.1.all a0A=true)(L:List Int):b1G s L=L++b3s s:=by
 grind[a01,a2g,b1G,b3s,a3J,a4W]
def a4d(s:Sub):Sub:=(s.1,s.2.1,s.2.2.1,s.2.2.2.1,s.2.2.2.2.1,s.2.2.2.2.2.1,s.2.2.2.2.2.2.1,s.2.2.2.2.2.2.2.1,[],(0,[],()),[],())
theorem b6Z{wd N:Nat}{ok:Bool}(m:N<1000)(k w:Int):∀(st done:List Stg)(P R:List Int),st.all Ab.stageB=true→done.length+st.length=N→OkR P (a8q st++R)→
  y0s a6M ((wd:Int),ok,(N:Int),(done.length:Int),rdr P (a8q st++R),(k,w,0,0,0,[],[0,0,0],done,[],(0,[],()),[],()),()) =
   some ((wd:Int),ok,(k,w,0,0,0,[],[0,0,0],done++st,[],(0,[],()),[],()),rdr (P++a8q st) R,())
 | [],done,P,R,_,hl,_=>by
  have:done.length=N:=by omega
  subst this;have d:decide ((done.length:Int)<(done.length:Int))=false:=by simp
  simp_all[a0F,a6M,a8q]
 |g::st,done,P,R,h,hl,hok=>by
  simp only[a07,bA]at h;rw[lC]at hl;obtain⟨i,j,c,l⟩:=b6X h.1;obtain⟨a,b,u⟩:=g;simp only at i j c l;obtain⟨B,rfl⟩:=a01 c;obtain⟨A,r⟩:=a01 (show 0≤a-1 by omega);obtain rfl:a=(A:Int)+1:=by omega
  have e:a8q (((A:Int)+1,(B:Int),u)::st)++R=pb (A:Int) 5++(pb (B:Int) 4++(a8q st++R)):=by simp[a8q]
  rw[e]at hok⊢;have d:decide ((done.length:Int)<(N:Int))=true:=by grind
  have p:a0H (rdr P (pb (A:Int) 5++(pb (B:Int) 4++(a8q st++R))),(5:Int))=_:=a3K (v:=A) (n:=5) (by omega) (by omega) hok;have f:=hok.shift;have q:a0H (rdr (P++pb (A:Int) 5) (pb (B:Int) 4++(a8q st++R)),(4:Int))=_:=a3K (v:=B) (n:=4) (by omega) (by omega) f;have o:lim (a37 done+1)=true:=a0T (by omega);have t:wrap .i64 (A:Int)=(A:Int):=a0B (by omega);have w2:wrap .i64 (B:Int)=(B:Int):=a0B (by omega);have x:wrap .i64 ((A:Int)+1)=(A:Int)+1:=a0B (by omega);have s:wrap .u64 ((done.length:Int)+1)=(((done++[((A:Int)+1,(B:Int),u)]).length:Nat):Int):=by grind[a0M]
  rw[a0E (s':=((wd:Int),ok,(N:Int),(((done++[((A:Int)+1,(B:Int),u)]).length:Nat):Int),rdr (P++pb (A:Int) 5++pb (B:Int) 4) (a8q st++R),(k,w,0,0,0,[],[0,0,0],done++[((A:Int)+1,(B:Int),u)],[],(0,[],()),[],()),())) (by
    simp_all[a6M])]
  rw[b6Z m k w st (done++[((A:Int)+1,(B:Int),u)]) _ R h.2 (by grind) f.shift];simp[a8q]
theorem b9Z(h:b4r x=true):b3L 8 x:=by
 simp[b4r]at h;unfold b3L;omega
theorem c8T{wd:Nat}{w g:Int}{a b c:Int}(m:b4r a=true)(hb:b4r b=true)(o:b4r c=true)(f:OkR P (sB 8 [a,b,c]++R)):
  y0s a3s ((wd:Int),(0:Int),rdr P (sB 8 [a,b,c]++R),(k,w,0,0,g,[],[0,0,0],[],[],(0,[],()),[],()),()) =
   some ((wd:Int),rdr (P++sB 8 [a,b,c]) R,(k,w,0,0,g,[],[a,b,c],[],[],(0,[],()),[],()),()):=by
 have e:sB 8 [a,b,c]++R=pb (a0Z a 8) 8++(pb (a0Z b 8) 8++(pb (a0Z c 8) 8++R)):=by rfl
 rw[e]at f⊢;have t:a1c (rdr P (pb (a0Z a 8) 8++(pb (a0Z b 8) 8++(pb (a0Z c 8) 8++R))),(8:Int))=_:=a9P (n:=8) (by omega) (b9Z m) f;have h:=f.shift;have u:a1c (rdr (P++pb (a0Z a 8) 8) (pb (a0Z b 8) 8++(pb (a0Z c 8) 8++R)),(8:Int))=_:=a9P (n:=8) (by omega) (b9Z hb) h;have d:=h.shift;have v:a1c (rdr (P++pb (a0Z a 8) 8++pb (a0Z b 8) 8) (pb (a0Z c 8) 8++R),(8:Int))=_:=a9P (n:=8) (by omega) (b9Z o) d;have x:wrap .i64 ((0:Int)+1)=1:=by rfl
 have y:wrap .i64 ((1:Int)+1)=2:=by rfl
 have w2:wrap .i64 ((2:Int)+1)=3:=by rfl
 have p:decide ((0:Int)<3)=true:=by rfl
 have i:decide ((0:Int)≤0)=true:=by rfl
 have q:decide ((1:Int)<3)=true:=by rfl
 have j:decide ((0:Int)≤1)=true:=by rfl
 have r:decide ((2:Int)<3)=true:=by rfl
 have l:decide ((0:Int)≤2)=true:=by rfl
 have s:decide ((3:Int)<3)=false:=by rfl
 rw[a0E (s':=((wd:Int),(1:Int),rdr (P++pb (a0Z a 8) 8) (pb (a0Z b 8) 8++(pb (a0Z c 8) 8++R)),(k,w,0,0,g,[],[a,0,0],[],[],(0,[],()),[],()),())) (by
  simp_all[a3s])]
 rw[a0E (s':=((wd:Int),(2:Int),rdr (P++pb (a0Z a 8) 8++pb (a0Z b 8) 8) (pb (a0Z c 8) 8++R),(k,w,0,0,g,[],[a,b,0],[],[],(0,[],()),[],()),())) (by
  simp_all[a3s])]
 rw[a0E (s':=((wd:Int),(3:Int),rdr (P++pb (a0Z a 8) 8++pb (a0Z b 8) 8++pb (a0Z c 8) 8) R,(k,w,0,0,g,[],[a,b,c],[],[],(0,[],()),[],()),())) (by
  simp_all[a3s])]
 simp_all[a0F,a3s,sB]
theorem c7G{s:Sub}{n:Int}(hs:a1v s n)(ht:s.2.2.2.2.2.2.1.length=3){P R:List Int}(i:OkR P (b3s s++(a5i s++R))):
  a9t (rdr P (b3s s++(a5i s++R)))=some (a4d s,((a0J s.2.2.2.2.2.2.2.2.1:Nat):Int),true,rdr (P++(b3s s++a5i s)) R):=by
 obtain⟨-,-,hf,ha,I,L,-,-,M,-⟩:=hs;obtain⟨k,w,o,sh,g,c,t,st,a,b,d,u⟩:=s;have hk:=b4K hf;simp only at hk I L M ht;have h0:=a2g M;obtain⟨K,rfl⟩:=a01 hk.1;obtain⟨W,rfl⟩:=a01 I;unfold b3s at i⊢;simp at i⊢;have Y:a0H (rdr P (pb (K:Int) 3++(pb (W:Int) 5++(pb ((a0J a:Nat):Int) 5++(a5i ((K:Int),(W:Int),o,sh,g,c,t,st,a,b,d,u)++R)))),(3:Int))=_:=a3K (v:=K) (n:=3) (by omega) (by omega) i;have j:=i.shift;have Z:a0H (rdr (P++pb (K:Int) 3) (pb (W:Int) 5++(pb ((a0J a:Nat):Int) 5++(a5i ((K:Int),(W:Int),o,sh,g,c,t,st,a,b,d,u)++R))),(5:Int))=_:=a3K (v:=W) (n:=5) (by omega) (by omega) j;have l:=j.shift;have g3:a0H (rdr (P++pb (K:Int) 3++pb (W:Int) 5) (pb ((a0J a:Nat):Int) 5++(a5i ((K:Int),(W:Int),o,sh,g,c,t,st,a,b,d,u)++R)),(5:Int))=_:=a3K (v:=a0J a) (n:=5) (by omega) (by omega) l;have f:=l.shift;have wK:wrap .i64 (K:Int)=(K:Int):=a0B (by omega);have wW:wrap .i64 (W:Int)=(W:Int):=a0B (by omega);have wd:wrap .i64 ((a0J a:Nat):Int)=((a0J a:Nat):Int):=a0B (by omega);unfold a9t;rw[Y];simp only[oB];rw[Z];simp only[oB];rw[g3];simp only[oB,wK,wW,wd];generalize hX:P++pb (K:Int) 3++pb (W:Int) 5++pb ((a0J a:Nat):Int) 5=X at f⊢;have H:∀B:List Int,P++(pb (K:Int) 3++(pb (W:Int) 5++(pb ((a0J a:Nat):Int) 5++B)))=X++B:=fun B=>by grind
 rw[H];obtain⟨a1,D,q,r,E,C⟩:=ha;simp only at a1 D q r E C;clear Y Z g3 i j l hX H;rcases hf with h|h|⟨h,m,G,-⟩|⟨h,m,-⟩|⟨h,m,-,Q⟩|⟨h,m,G⟩
 
 simp only at h;obtain rfl:=a1 (by omega);obtain rfl:=D (by omega);obtain rfl:=q (by omega);obtain rfl:=r (by omega);obtain rfl:=E (by omega);obtain rfl:=C (by omega);rw[h];have hb:a5i ((0:Int),(W:Int),0,0,0,[],[0,0,0],[],a,b,d,u)=[]:=rfl;rw[hb,a09,a40];rfl;simp only at h;obtain rfl:=a1 (by omega);obtain rfl:=D (by omega);obtain rfl:=q (by omega);obtain rfl:=r (by omega);obtain rfl:=E (by omega);obtain rfl:=C (by omega);rw[h];have hb:a5i ((1:Int),(W:Int),0,0,0,[],[0,0,0],[],a,b,d,u)=[]:=rfl;rw[hb,a09,a40];rfl;simp only at h m G;obtain rfl:=D (by omega);obtain rfl:=q (by omega);obtain rfl:=r (by omega);obtain rfl:=E (by omega);obtain rfl:=C (by omega);rw[h]at f⊢;obtain⟨O,rfl⟩:=a01 m;have hb:a5i ((2:Int),(W:Int),(O:Int),0,0,[],[0,0,0],[],a,b,d,u)=pb (O:Int) 3:=rfl;rw[hb]at f⊢;have e:((2:Int)==2)=true:=rfl;have F:a0H (rdr X (pb (O:Int) 3++R),(3:Int))=_:=a3K (v:=O) (n:=3) (by omega) (by omega) f;have wO:wrap .i64 (O:Int)=(O:Int):=a0B (by omega);simp only[e,cT,F,oB,wO];rfl;simp only at h m;obtain rfl:=a1 (by omega);obtain rfl:=q (by omega);obtain rfl:=r (by omega);obtain rfl:=C (by omega);rw[h]at f⊢;have hb:a5i ((3:Int),(W:Int),0,sh,0,c,[0,0,0],[],a,b,d,u)=a7x ((3:Int),(W:Int),0,sh,0,c,[0,0,0],[],a,b,d,u):=rfl;rw[hb]at f⊢;have T:((3:Int)==2)=false:=rfl;have U:((3:Int)==4)=false:=rfl;have V:((3:Int)==3)=true:=rfl;have F:=b6W (s:=((3:Int),(W:Int),0,sh,0,c,[0,0,0],[],a,b,d,u)) (s0:=((3:Int),(W:Int),0,0,0,[],a00 3 0,[],[],(0,[],()),[],())) m rfl f;simp only[T,V,U,cT,cF,oB]
 erw[F]
 rfl
 ·simp only at h m Q;obtain rfl:=a1 (by omega);obtain rfl:=C (by omega);rw[h]at f⊢;simp only[b1E,bA,dT]at Q;obtain⟨Q,h5,S⟩:=Q;obtain⟨A,hA⟩:=a01 (show 0≤g-1 by omega);obtain rfl:g=(A:Int)+1:=by omega
  obtain⟨x,y,z,rfl⟩:∃x y z,t=[x,y,z]:=by
   match t,ht with
   | [x,y,z],_=>simp
  simp at S;have hb:a5i ((4:Int),(W:Int),0,sh,(A:Int)+1,c,[x,y,z],[],a,b,d,u)=pb (A:Int) 10++(sB 8 [x,y,z]++a7x ((4:Int),(W:Int),0,sh,(A:Int)+1,c,[x,y,z],[],a,b,d,u)):=by
   show pb ((A:Int)+1-1) 10++_=_
   simp
  rw[hb]at f⊢;simp only[aA]at f⊢;have T:((4:Int)==2)=false:=rfl;have U:((4:Int)==4)=true:=rfl;have F:a0H (rdr X (pb (A:Int) 10++(sB 8 [x,y,z]++(a7x ((4:Int),(W:Int),0,sh,(A:Int)+1,c,[x,y,z],[],a,b,d,u)++R))),(10:Int))=_:=a3K (v:=A) (n:=10) (by omega) (by omega) f;have p:=f.shift;have wA:wrap .i64 (A:Int)=(A:Int):=a0B (by omega);have h4:wrap .i64 ((A:Int)+1)=(A:Int)+1:=a0B (by omega);have g5:=c8T (wd:=a0J a) (k:=4) (w:=(W:Int)) (g:=(A:Int)+1) S.1 S.2.1 S.2.2 p;have g6:=b6W (s:=((4:Int),(W:Int),0,sh,(A:Int)+1,c,[x,y,z],[],a,b,d,u)) (s0:=((4:Int),(W:Int),0,0,(A:Int)+1,[],[x,y,z],[],[],(0,[],()),[],())) m rfl p.shift;simp_all[a4d,b4N,b9Y]
 simp only at h m G;obtain rfl:=a1 (by omega);obtain rfl:=D (by omega);obtain rfl:=q (by omega);obtain rfl:=r (by omega);obtain rfl:=E (by omega);rw[h]at f⊢;simp only[a9p,bA,dT]at G;have hb:a5i ((5:Int),(W:Int),0,0,0,[],[0,0,0],st,a,b,d,u)=pb ((st.length:Nat):Int) 2++a8q st:=rfl;rw[hb]at f⊢;simp only[aA]at f⊢;have T:((5:Int)==2)=false:=rfl;have U:((5:Int)==4)=false:=rfl;have V:((5:Int)==3)=false:=rfl;have e5:((5:Int)==5)=true:=rfl;have F:a0H (rdr X (pb ((st.length:Nat):Int) 2++(a8q st++R)),(2:Int))=_:=a3K (v:=st.length) (n:=2) (by omega) (by omega) f;have g5:=b6Z (wd:=a0J a) (ok:=true) (N:=st.length) (by omega) (5:Int) (W:Int) st [] _ R G.2 (by simp) f.shift;simp_all[a4d]
def a8r(s:Sub)(zn:List Nat):List Int:=
 (b3s s++a5i s)++(sB (a0J s.2.2.2.2.2.2.2.2.1) s.2.2.2.2.2.2.2.2.1++if s.1=0∨s.1=1 then[]else a6H s.2.2.2.2.2.2.2.2.2.1 zn s.2.2.2.2.2.2.2.2.2.2.1)
theorem b7a(b:a1v s n)(d:s.1≠0∧s.1≠1→PartsOk s.2.2.2.2.2.2.2.2.2.1 n ((s.2.2.2.2.2.2.2.2.1.length:Nat):Int) s.2.2.2.2.2.2.2.2.2.2.1 zn)(L:List Int):
  a5q s zn L=L++a8r s zn:=by
 obtain⟨-,-,h,-,k,a,-,-,f,-⟩:=b;have c:=a2g f;have g:=c8S (b4K h) ⟨k,a⟩ f L;unfold a5q a8r
 by_cases hk:s.1=0∨s.1=1
 rw[if_pos hk,if_pos hk,a9Q (by omega),c1c h,g]
 simp
 rw[if_neg hk,if_neg hk,c2n (d (not_or.1 hk)),a9Q (by omega),c1c h,g]
 simp
def a8s(s:Sub)(l:List Int):Sub:=(s.1,s.2.1,s.2.2.1,s.2.2.2.1,s.2.2.2.2.1,s.2.2.2.2.2.1,s.2.2.2.2.2.2.1,s.2.2.2.2.2.2.2.1,l,s.2.2.2.2.2.2.2.2.2)
theorem c1d{wd:Nat}(g:wd≤62){N:Nat}(f:N<1000000)(n:Int)(ok:Bool)(z s:Sub):∀(l done P R:List Int),(∀x∈l,b3L wd x)→done.length+l.length=N→OkR P (sB wd l++R)→
  y0s a9Z (n,(wd:Int),ok,(N:Int),(done.length:Int),rdr P (sB wd l++R),z,a8s s done,())=some (n,(wd:Int),ok,rdr (P++sB wd l) R,z,a8s s (done++l),())
 | [],done,P,R,_,hl,_=>by
  have:done.length=N:=by omega
  subst this;have d:decide ((done.length:Int)<(done.length:Int))=false:=by simp
  simp_all[a0F,a9Z,sB]
 |x::l,done,P,R,h,hl,hok=>by
  rw[lC]at hl;rw[b9X]at hok⊢;have d:decide ((done.length:Int)<(N:Int))=true:=by grind
  have a:=a9P g (h x (by simp)) hok;have k:lim (a37 done+1)=true:=a0T (by omega);have b:wrap .i64 ((done.length:Int)+1)=(((done++[x]).length:Nat):Int):=by grind[a0B]
  rw[a0E (s':=(n,(wd:Int),ok,(N:Int),(((done++[x]).length:Nat):Int),rdr (P++pb (a0Z x wd) wd) (sB wd l++R),z,a8s s (done++[x]),())) (by
   simp_all[a9Z,a8s])]
  rw[c1d g f n ok z s l (done++[x]) _ R (fun y c=>h y (by grind)) (by grind) hok.shift];simp[sB]
theorem c7H(h:SmallS s):SmallS (a4d s) where
 coefs:=h.coefs
 taps:=h.taps
 stages:=h.stages
 warm:=by show([]:List Int).length≤5000;simp
 rest:=by show([]:List Int).length≤5000;simp
 ks:=by show([]:List Int).length≤_;simp
theorem d2B(h:SmallS s)(I:(a2u s n).isSome=true)(T:s.1≠0∧s.1≠1→PartsOk s.2.2.2.2.2.2.2.2.2.1 n ((s.2.2.2.2.2.2.2.2.1.length:Nat):Int) s.2.2.2.2.2.2.2.2.2.2.1 zn)(e:OkR P (a8r s zn++R)):b1O (rdr P (a8r s zn++R),n)=some (s,(0:Int),rdr (P++a8r s zn) R):=by
 have K:=b3K I;have d:=@c7G s n K h.taps P;have x:=K;obtain⟨U,V,O,-,-,-,-,S,r,-,v,-⟩:=x;have Q:=a2g r;have y:=h.warm;have L:decide (n<1)=false:=by simp_all
 have M:decide (n > 4096)=false:=by simp_all
 have j:∀A B:List Int,(rdr A B).2.2.1=0:=fun _ _=>rfl;have l:a8c ((a4d s).1,a4d s,n)=some true:=by
  rw[b3T (c7H h)];unfold b2P
  have:a4c (a4d s).1 (a4d s) n:=O
  simp_all
 have i:a4K (a4d s,n)=some ((s.2.2.2.2.2.2.2.2.1.length:Nat):Int):=by
  rw[b1S]
  have:a2x (a4d s) n=a2x s n:=rfl
  simp_all
 have p:=b8q h n;rw[I]at p;have f:a1u s.2.2.2.2.2.2.2.2.1=some ((a0J s.2.2.2.2.2.2.2.2.1:Nat):Int):=a2y (by unfold short;omega);unfold b1O a0O;unfold a8r at e⊢;simp only[aA]at e⊢;have a:OkR (P++(b3s s++a5i s)) (sB (a0J s.2.2.2.2.2.2.2.2.1) s.2.2.2.2.2.2.2.2.1++((if s.1=0∨s.1=1 then[]else a6H s.2.2.2.2.2.2.2.2.2.1 zn s.2.2.2.2.2.2.2.2.2.2.1)++R)):=OkR.shift (by simp_all)
 have G:=fun(ok:Bool) (z:Sub)=>c1d (wd:=a0J s.2.2.2.2.2.2.2.2.1) (by omega) (N:=s.2.2.2.2.2.2.2.2.1.length) (by omega) n ok z (a4d s) s.2.2.2.2.2.2.2.2.1 [] _ _ (b4M r) (by simp) a;simp only[a22,nZ,a09,a30]at G;simp only[L,M,cF,j,bne_self_eq_false,oB];rw[d e];simp only[j,bne_self_eq_false,cF,oB,l,bT,i];rw[show((a4d s:Sub))=a8s (a4d s) []from rfl]
 erw[G]
 simp only[oB,j,bne_self_eq_false,cF];rw[show(a8s (a4d s) s.2.2.2.2.2.2.2.2.1).1=s.1 from rfl,a6E];simp only[oB]
 by_cases hk:s.1=0∨s.1=1
 have H:decide (s.1≠0∧s.1≠1)=false:=by grind
 have q:a8s (a4d s) s.2.2.2.2.2.2.2.2.1=s:=by
  obtain⟨D,E,F⟩:=v hk;obtain⟨k,w,o,sh,g,c,t,st,wm,⟨X,Y,Z⟩,re,u⟩:=s;simp only at D E F;subst D E F;rfl
 grind
 have H:decide (s.1≠0∧s.1≠1)=true:=by simp_all
 have hp:=T (not_or.1 hk);have b:=a.shift;rw[if_neg hk]at b;have m:=c3W hp b;simp only[H,cT,if_neg hk];rw[show(a8s (a4d s) s.2.2.2.2.2.2.2.2.1).2.2.2.2.2.2.2.2.1=s.2.2.2.2.2.2.2.2.1 from rfl]
 erw[m]
 have C:((0:Int) != 0)=false:=rfl;simp only[oB,C,cF,bT,f,bne_self_eq_false];have q:((a8s (a4d s) s.2.2.2.2.2.2.2.2.1).1,(a8s (a4d s) s.2.2.2.2.2.2.2.2.1).2.1,(a8s (a4d s) s.2.2.2.2.2.2.2.2.1).2.2.1,(a8s (a4d s) s.2.2.2.2.2.2.2.2.1).2.2.2.1,(a8s (a4d s) s.2.2.2.2.2.2.2.2.1).2.2.2.2.1,(a8s (a4d s) s.2.2.2.2.2.2.2.2.1).2.2.2.2.2.1,(a8s (a4d s) s.2.2.2.2.2.2.2.2.1).2.2.2.2.2.2.1,(a8s (a4d s) s.2.2.2.2.2.2.2.2.1).2.2.2.2.2.2.2.1,s.2.2.2.2.2.2.2.2.1,s.2.2.2.2.2.2.2.2.2.1,s.2.2.2.2.2.2.2.2.2.2.1,(a8s (a4d s) s.2.2.2.2.2.2.2.2.1).2.2.2.2.2.2.2.2.2.2.2)=s:=rfl
 grind
theorem d5R(y:Int):bits .u64 .and y 1=y%2:=by
 have h:((a04 64 y) &&& (a04 64 1)).toNat=(y%18446744073709551616).toNat%2:=by
  simp
 show wrap .u64 ((((a04 64 y) &&& (a04 64 1)).toNat:Nat):Int)=_
 grind[a0M]
theorem a2n(v:Int):∀n,a1z (pb v n)
 |0=>fun b hb=>by cases hb
 |n+1=>fun b hb=>by
  rcases mC.1 hb with rfl|hb
  grind[a6W,d5R,a8j]
  exact a2n v n b hb
theorem c5Y(n:Nat):a1z (unB n):=fun b hb=>by
 rcases mA.1 hb with hb|hb
 all_goals simp_all
theorem b3t{α:Type}{f:α→List Int}{l:List α}(h:∀x,a1z (f x)):a1z (l.flatMap f):=fun b hb=>by
 obtain⟨x,-,g⟩:=a98.1 hb;exact h x b g
theorem c8U(k:Nat)(x:Int):a1z (a9C k x):=by
 unfold a9C;split;exact(c5Y _).app (a2n _ _);exact(c5Y _).app (a2n _ _)
theorem b6q(n:Nat)(l:List Int):a1z (sB n l):=b3t fun _=>a2n _ _
theorem c8V(k:Int)(l:List Int):a1z (b0Q k l):=by
 unfold b0Q;split;exact(a2n _ _).app ((a2n _ _).app (b6q _ _));exact(a2n _ _).app (b3t fun _=>c8U _ _)
theorem b4O:a1z []:=fun b hb=>by grind
theorem b8N:∀(zs:List Nat)(ks l:List Int),a1z (a1Y zs ks l)
 |z::zs,k::ks,l=>by
  simp only[a1Y];exact(c8V _ _).app (b8N zs ks _)
 | [],_,_=>by simp_all[a1Y,b4O]
 |_::_,[],_=>by simp_all[a1Y,b4O]
theorem b8O(s:Sub):a1z (a7x s):=(a2n _ _).app ((a2n _ _).app ((a2n _ _).app (b6q _ _)))
theorem c8W(s:Sub):a1z (a5i s):=by
 unfold a5i;split;exact a2n _ _;split;exact b8O s;split;exact(a2n _ _).app ((b6q _ _).app (b8O s));split;exact(a2n _ _).app (b3t fun _=>(a2n _ _).app (a2n _ _));exact b4O
theorem d0P(s:Sub)(h:List Nat):a1z (a8r s h):=by
 refine(((a2n _ _).app ((a2n _ _).app (a2n _ _))).app (c8W s)).app ((b6q _ _).app ?_);split;exact b4O;exact(a2n _ _).app (b8N _ _ _)
theorem d0Q(h:SmallS s)(k:(a2u s n).isSome=true)(j:L.length<50000000):
  ∃g,a9N (wL L,s,n)=some (0,wL (L++a8r s g))∧a4l (s,n)=some (((a8r s g).length:Nat):Int)∧(a8r s g).length≤700000∧
   (s.1≠0∧s.1≠1→PartsOk s.2.2.2.2.2.2.2.2.2.1 n ((s.2.2.2.2.2.2.2.2.1.length:Nat):Int) s.2.2.2.2.2.2.2.2.2.2.1 g):=by
 obtain⟨e,i,a,-,c,d,-⟩:=b4w h (n:=n) (L:=L) (by omega);obtain⟨rfl,g,rfl,f⟩:=d k;have b:=b3K k;rw[b7a b f]at a c;refine⟨g,a,?_,by simp_all,f⟩;rw[c5U h];unfold a5h;rw[if_pos k,←b9S f,b7a b f]
 simp
theorem d4b(g:L.length<1000000000):b2d (wL L).1=some (rdr [] L):=by
 obtain⟨-,h⟩:=a5W L;unfold b2d;rw[a0T (by omega)];rfl
theorem d0R(h:L.length<1000000000):a5g (wL L)=some ((wL L).1,wL L):=by
 grind[a5W,a5g,a0T]
def a0L(n:Nat):List Int:=if h:n<128 then[(n:Int)]else((n%128+128:Nat):Int)::a0L (n / 128)
termination_by n
decreasing_by omega
theorem b1k{n:Nat}(h:n<128):a0L n=[(n:Int)]:=by rw[a0L,dif_pos h]
theorem b2z{n:Nat}(h:¬ n<128):a0L n=((n%128+128:Nat):Int)::a0L (n / 128):=by rw[a0L,dif_neg h]
theorem b7J:∀(k n:Nat),n<128^(k+1)→1≤(a0L n).length∧(a0L n).length≤k+1
 |0,n,h=>by simp_all[b1k]
 |k+1,n,h=>by
  by_cases hn:n<128
  rw[b1k hn];simp;rw[b2z hn]
  have:=b7J k (n / 128) (by omega)
  simp_all
theorem b8P:∀(k n:Nat),n<128^(k+1)→∀b∈a0L n,0≤b∧b<256
 |0,n,h,b,hb=>by grind[b1k]
 |k+1,n,h,b,hb=>by
  by_cases hn:n<128
  grind[b1k]
  rw[b2z hn]at hb;rcases mC.1 hb with rfl|hb;omega;exact b8P k (n / 128) (by omega) b hb
theorem c5Z:∀(k n:Nat)(a:List Int)(b c:Int)(out:List Int),n<128^(k+1)→k≤8→out.length+k<1000000→
  ∃r g,y0s a8K ((n:Int),a,b,c,out,())=some (((r:Nat):Int),a,b,c,out++g,())∧a0L n=g++[(r:Int)]∧r<128
 |k,n,a,b,c,out,h,hk,ho=>by
  by_cases hn:n<128
  refine⟨n,[],?_,by rw[b1k hn];rfl,hn⟩;rw[a0F (b:=((n:Int),a,b,c,out,())) (by
   have d:decide ((n:Int)≥128)=false:=by grind
   simp only[a8K,d,cF])]
  simp
  ·cases k with
   |zero=>omega
   |succ k=>
    have m:n / 128<128^(k+1):=by omega
    have f:n<18446744073709551616:=by
     have:128^(k+1+1)≤128^9:=a08 (by omega) (by omega)
     omega
    obtain⟨r,g,o,j,l⟩:=c5Z k (n / 128) a b c (out++[((n%128+128:Nat):Int)]) m (by omega) (by grind);refine⟨r,((n%128+128:Nat):Int)::g,?_,by rw[b2z hn,j];rfl,l⟩;have d:decide ((n:Int)≥128)=true:=by grind
    have e:wrap .u64 (a54 (n:Int) 128)=((n / 128:Nat):Int):=by
     rw[show a54 (n:Int) 128=((n / 128:Nat):Int)from rfl];exact a0M (by omega)
    have i:wrap .u8 (wrap .u8 (a26 (n:Int) 128)+128)=((n%128+128:Nat):Int):=by
     rw[show a26 (n:Int) 128=((n%128:Nat):Int)from rfl,a8j,a8j];omega
    rw[a0E (s':=(((n / 128:Nat):Int),a,b,c,out++[((n%128+128:Nat):Int)],())) (by
     simp only[a8K,d,cT,a0T (show out.length+1<2147483648 by omega),e,i,a06])]
    simp_all
theorem b1l{α β γ:Type}(f:α→List γ):∀(l:List α)(a:List γ),a2Y (β:=β) (fun a x=>.inl (a++f x)) l a=.inl (a++l.flatMap f)
 | [],a=>by simp[a2Y]
 |x::l,a=>by simp only[a2Y];rw[b1l f l];simp
def asI(ns:List Nat):List Int:=ns.map fun n:Nat=>(n:Int)
theorem b5V{ns:List Nat}(h:∀n∈ns,n<9223372036854775808)(t:ns.length≤1000):a9m (asI ns)=some (ns.flatMap a0L):=by
 have l:(asI ns).length=ns.length:=by simp[asI]
 have:=a1N (f:=a8L) (asI ns) (fun i (a:List Int)=>(asI ns,((asI ns).length:Int),(i:Int),a,())) (fun a x=>.inl (a++a0L x.toNat)) (fun i a=>a.length≤10*i) (fun a=>(a,()))
  (fun i hi a p=>⟨fun q g=>by
   have c:i<ns.length:=by omega
   have m:(asI ns)[i]=((ns[i]:Nat):Int):=by simp[asI]
   have hb:=h ns[i] (a05 c);have k:ns[i]<128^(8+1):=by omega
   obtain⟨r,d,o,j,s⟩:=c5Z 8 ns[i] (asI ns) ((asI ns).length:Int) (i:Int) a k (a27 _) (by omega);have hv:=b7J 8 ns[i] k;rw[j]at hv;simp only[lN,lC,a22]at hv;simp[m,j]at g;subst g;have e:wrap .u8 (r:Int)=(r:Int):=by rw[a8j];omega
   refine⟨?_,by grind⟩;simp only[a8L,dlt hi,cT,a0D hi,m,oB,o,a0T (show(a++d).length+1<2147483648 by grind),a0C (show i<1000000 by omega),e,a06,aA],fun b hb=>by grind⟩)
  (fun a p=>by simp_all[a8L]) (a:=[]) (by simp)
 simp_all[a9m,b1l,a8k,asI,List.flatMap_map]
theorem orA{k:Nat}(f:a<2^k)(c:b*2^k+a<18446744073709551616):bits .u64 .or (a:Int) ((b*2^k:Nat):Int)=((a+b*2^k:Nat):Int):=by
 show wrap .u64 (((a04 64 (a:Int) ||| a04 64 ((b*2^k:Nat):Int)).toNat:Nat):Int)=_;have g:(a04 64 (a:Int)).toNat=a:=by grind
 have h:(a04 64 ((b*2^k:Nat):Int)).toNat=b*2^k:=by grind[a82]
 grind[a59,a57,a0M]
theorem b7b{rest:List Int}:∀(j m i acc:Nat)(P:List Int),m<128^(j+1)→P.length=i→(i=0∨1≤m)→acc<2^(7*i)→m*2^(7*i)+acc<9223372036854775808→(P++(a0L m++rest)).length<1000000000→
  y0s a5Z ((acc:Int),P++(a0L m++rest),((P++(a0L m++rest)).length:Nat),(i:Int),())=some (.inr (((acc+m*2^(7*i):Nat):Int),((i+(a0L m).length:Nat):Int),(0:Int),()))
 |j,m,i,acc,P,hj,hP,hm,ha,hs,hl=>by
  have p:i≤8:=by
   rcases hm with a|h1;omega;apply Classical.byContradiction;intro hi;have w:2^(7*9)≤2^(7*i):=a08 (by omega) (by omega);have x:2^(7*i)≤m*2^(7*i):=Nat.le_mul_of_pos_left _ (by omega);omega
  have r:wrap .i64 ((7:Int)*(i:Int))=((7*i:Nat):Int):=by grind[a0B]
  have t:decide ((((7*i:Nat):Int))<0)=false:=by rfl
  have s:wrap .i64 ((i:Int)+1)=((i+1:Nat):Int):=a0C (by omega);have v:∀c:Nat,c<256→(i=9→False):=fun _ _ h=>by omega
  have b:((i:Int)==9)=false:=by grind
  have step:∀(c:Nat)(k:List Int),c<256→a0L m=(c:Int)::k→(i=0∨c≠0)→
    a5Z ((acc:Int),P++(a0L m++rest),((P++(a0L m++rest)).length:Nat),(i:Int),()) =
     bif decide ((c:Int)<128)then some (.inr (Sum.inr (bits .u64 .or (acc:Int) (A0n .u64 (wrap .u64 (a26 (c:Int) 128)) ((7*i:Nat):Int)),((i+1:Nat):Int),(0:Int),())))
     else some (.inl (bits .u64 .or (acc:Int) (A0n .u64 (wrap .u64 (a26 (c:Int) 128)) ((7*i:Nat):Int)),P++(a0L m++rest),((P++(a0L m++rest)).length:Nat),((i+1:Nat):Int),())):=fun c k l hv a=>by
   have g:i<(P++(a0L m++rest)).length:=by simp_all
   have o:m0k (P++(a0L m++rest)) (i:Int)=some (c:Int):=by
    simp_all[a0D]
   have y:(decide ((i:Int) > 0)=true→((c:Int)==0)=false):=fun h=>by
    grind
   simp only[a5Z,dlt g,cT,o,oB,b,cF]
   grind
  have val:∀c:Nat,c%128*2^(7*i)+acc<9223372036854775808→bits .u64 .or (acc:Int) (A0n .u64 (wrap .u64 (a26 (c:Int) 128)) ((7*i:Nat):Int))=((acc+c%128*2^(7*i):Nat):Int):=fun c l=>by
   rw[show a26 (c:Int) 128=((c%128:Nat):Int)from rfl,a0M (by omega),b1T (by omega) (by omega)];exact orA ha (by omega)
  by_cases hm128:m<128
  rw[a0F (step m [] (by omega) (b1k hm128) (by omega) |>.trans (by
   have d:decide ((m:Int)<128)=true:=by grind
   simp only[d,cT];rfl))]
  rw[val m (by simp_all[a23]),a23 hm128,b1k hm128];rfl
  ·cases j with
   |zero=>omega
   |succ j=>
    have n:m / 128<128^(j+1):=by omega
    have q:2^(7*(i+1))=128*2^(7*i):=by grind
    have f:m*2^(7*i)=m%128*2^(7*i)+m / 128*2^(7*(i+1)):=by
     grind
    have hb:m%128*2^(7*i)≤127*2^(7*i):=a25 _ (by omega);rw[a0E (step (m%128+128) (a0L (m / 128)) (by omega) (b2z hm128) (by omega) |>.trans (by
     have d:decide (((m%128+128:Nat):Int)<128)=false:=by grind
     simp only[d,cF];rfl))]
    rw[val (m%128+128) (by grind[a90,Nat.mod_mod]),a90,Nat.mod_mod];have e:P++(a0L m++rest)=(P++[((m%128+128:Nat):Int)])++(a0L (m / 128)++rest):=by rw[b2z hm128];simp
    rw[e]at hl⊢;have u:=b7b j (m / 128) (i+1) (acc+m%128*2^(7*i)) (P++[((m%128+128:Nat):Int)]) n (by simp[hP]) (.inr (by omega)) (by omega) (by omega) hl;rw[u,f,b2z hm128];congr 3;omega
    simp;omega
theorem c8X{n:Nat}(h:n<9223372036854775808){rest:List Int}(g:(a0L n++rest).length<1000000000):a8u (a0L n++rest)=some ((n:Int),(((a0L n).length:Nat):Int),(0:Int)):=by
 have:=b7b (rest:=rest) 8 n 0 0 [] (by omega) rfl (.inl rfl) (by simp) (by omega) g
 simp_all[a8u]
def ord(P R:List Int):List Int×(Int×Int×Unit):=(P++R,(P.length:Int),(0:Int),())
theorem a3f{n:Nat}(c:n<9223372036854775808){most:Int}(e:(n:Int)≤most)(b:(P++(a0L n++R)).length<1000000000):
  a0S (ord P (a0L n++R),most)=some ((n:Int),ord (P++a0L n) R):=by
 have a:List.drop (a42 (P.length:Int)) (b03 (P++(a0L n++R)).length (P++(a0L n++R)))=a0L n++R:=by
  grind[tN]
 have k:((0:Int) != 0)=false:=rfl;have g:decide ((0:Int)≤(P.length:Int))=true:=by simp
 have f:decide ((P.length:Int)≤((P++(a0L n++R)).length:Int))=true:=by grind
 have d:decide ((n:Int) > most)=false:=by simp_all
 have h:(a0L n++R).length<1000000000:=by grind
 have i:wrap .i64 ((P.length:Int)+((a0L n).length:Int))=(((P++a0L n).length:Nat):Int):=by
  rw[a0B (by simp at b;omega)];simp
 unfold a0S ord;simp only[k,cF,g,f,a03,cT];rw[a,c8X c h]
 grind
def a9d(g:Int):Nat:=if 0≤g then(2*g).toNat else(-2*g-1).toNat
theorem d4c{g:Int}(h:-100000≤g∧g≤100000):b1C g=some ((a9d g:Nat):Int):=by
 unfold b1C a9d
 by_cases hg:0≤g
 have d:decide (g≥0)=true:=by simp_all
 rw[d,cT,if_pos hg,a0M (n:=g) (by omega),a0M (by omega),a79 (by omega)];have d:decide (g≥0)=false:=by simp_all
 rw[d,cF,if_neg hg,a0B (n:=g+1) (by omega),a0B (by omega),a0M (n:=0-(g+1)) (by omega),a0M (n:=2*(0-(g+1))) (by omega),a0M (by omega),a79 (by omega)]
 grind
theorem c6a{g:Int}(h:-(m:Int)≤g∧g≤(m:Int)):a9d g≤2*m:=by
 grind[a9d]
theorem d4d{g:Int}(h:-100000≤g∧g≤100000):b1t ((a9d g:Nat):Int)=some g:=by
 unfold b1t;have f:a26 ((a9d g:Nat):Int) 2=((a9d g%2:Nat):Int):=rfl;have k:a54 ((a9d g:Nat):Int) 2=((a9d g / 2:Nat):Int):=rfl;rw[f,k];unfold a9d
 by_cases hg:0≤g
 rw[if_pos hg];have d:((((2*g).toNat%2:Nat):Int)==0)=true:=by grind
 rw[d,cT,a0M (by omega),a0B (by omega)]
 grind
 rw[if_neg hg];have d:((((-2*g-1).toNat%2:Nat):Int)==0)=false:=by grind
 rw[d,cF,a0M (by omega),a0B (n:=(((-2*g-1).toNat / 2:Nat):Int)) (by omega),a0B (n:=0-(((-2*g-1).toNat / 2:Nat):Int)) (by omega),a0B (by omega)]
 grind
def e8(s:Int):Int:=bif (A0o .u8 s 7)==(1:Int)then bits .u8 .xor (A0n .u8 s 1) 7 else A0n .u8 s 1
def e16(s:Int):Int:=bif (A0o .u16 s 15)==(1:Int)then bits .u16 .xor (A0n .u16 s 1) 32773 else A0n .u16 s 1
def rep{α:Type}(f:α→α):Nat→α→α
 |0,s=>s
 |n+1,s=>rep f n (f s)
def g8(s c:Int):Int:=rep e8 8 (bits .u8 .xor s c)
def g16(s c:Int):Int:=rep e16 8 (bits .u16 .xor s (A0n .u16 (wrap .u16 c) 8))
theorem b8Q(l:List Int)(n i:Int):∀(j k:Nat)(s:Int),k+j=8→y0s a9Y (s,l,n,i,(k:Int),())=some (rep e8 j s,l,n,i,())
 |0,k,s,h=>by
  obtain rfl:k=8:=by omega
  rfl
 |j+1,k,s,h=>by
  have d:decide ((k:Int)<8)=true:=by grind
  rw[a0E (s':=(e8 s,l,n,i,((k+1:Nat):Int),())) (by
   simp only[a9Y,d,cT,a0C (show k<1000000 by omega),e8]
   grind)]
  exact b8Q l n i j (k+1) (e8 s) (by omega)
theorem b5W(l:List Int)(n i:Int):∀(j k:Nat)(s:Int),k+j=8→y0s a8X (s,l,n,i,(k:Int),())=some (rep e16 j s,l,n,i,())
 |0,k,s,h=>by
  obtain rfl:k=8:=by omega
  rfl
 |j+1,k,s,h=>by
  have d:decide ((k:Int)<8)=true:=by grind
  rw[a0E (s':=(e16 s,l,n,i,((k+1:Nat):Int),())) (by
   simp only[a8X,d,cT,a0C (show k<1000000 by omega),e16]
   grind)]
  exact b5W l n i j (k+1) (e16 s) (by omega)
def b4P(l:List Int):Int:=l.foldl g8 0
def a4q(l:List Int):Int:=l.foldl g16 0
theorem c3X(h:short l):a8e l=some (b4P l):=by
 have:=a1N (f:=a7R) (β:=Int×Unit) l (fun i (a:Int)=>(a,l,(l.length:Int),(i:Int),())) (fun a x=>.inl (g8 a x)) (fun _ _=>True) (fun a=>(a,()))
  (fun i hi a _=>⟨fun k g=>by
   simp at g;subst g
   have:=b8Q l (l.length:Int) (i:Int) 8 0 (bits .u8 .xor a l[i]) rfl
   simp at this;refine⟨?_,trivial⟩;simp only[a7R,dlt hi,cT,a0D hi,oB,this,a0C (a18 hi h),g8],fun b hb=>by grind⟩)
  (fun a c=>by simp_all[a7R]) (a:=0) trivial
 unfold a8e;simp at this;rw[this,b4J];rfl
theorem b8R(h:short l):a6o l=some (a4q l):=by
 have:=a1N (f:=a6a) (β:=Int×Unit) l (fun i (a:Int)=>(a,l,(l.length:Int),(i:Int),())) (fun a x=>.inl (g16 a x)) (fun _ _=>True) (fun a=>(a,()))
  (fun i hi a _=>⟨fun k g=>by
   simp at g;subst g
   have:=b5W l (l.length:Int) (i:Int) 8 0 (bits .u16 .xor a (A0n .u16 (wrap .u16 l[i]) 8)) rfl
   simp at this;refine⟨?_,trivial⟩;simp only[a6a,dlt hi,cT,a0D hi,oB,this,a0C (a18 hi h),g16],fun b hb=>by grind⟩)
  (fun a c=>by simp_all[a6a]) (a:=0) trivial
 unfold a6o;simp at this;rw[this,b4J];rfl
theorem b2A(n:Int):wrap .u16 n=n%65536:=by rfl
theorem c8Y(s:Int):0≤e16 s∧e16 s<65536:=by
 unfold e16;cases (A0o .u16 s 15==1:Bool);simp only[cF,A0n,b2A];omega;simp only[cT,bits,b2A];omega
theorem b7c(l:List Int):0≤a4q l∧a4q l<65536:=by
 unfold a4q;rcases a51 l with rfl|⟨L,b,rfl⟩
 simp
 rw[List.concat_eq_append,List.foldl_append];exact c8Y _
theorem d8D{v:Int}(h:0≤v∧v<65536):a4v (v,2)=some [v / 256,v%256]:=by
 have g:wrap .u64 (a54 v 256)=v / 256:=by grind[a0M]
 have f:wrap .u8 (a26 v 256)=v%256:=by simp_all[a43,a8j]
 have k:wrap .u8 (a26 (v / 256) 256)=v / 256:=by grind[a8j]
 have s0:a2b (v,(2:Int),(0:Int),([]:List Int),())=some (.inl (v / 256,(2:Int),(1:Int),[v%256],())):=by
  simp only[a2b,show decide ((0:Int)<2)=true from rfl,cT,a0T (show([]:List Int).length+1<2147483648 by simp),g,f];rfl
 have a:a2b (v / 256,(2:Int),(1:Int),[v%256],())=some (.inl (wrap .u64 (a54 (v / 256) 256),(2:Int),(2:Int),[v%256,v / 256],())):=by
  simp only[a2b,show decide ((1:Int)<2)=true from rfl,cT,a0T (show([v%256]:List Int).length+1<2147483648 by simp),k];rfl
 have c:a5o (v,2)=some [v%256,v / 256]:=by
  unfold a5o a3Y
  simp
  rw[show v0s (v0r (2:Int) 0) 8=2 from rfl,a0E s0,a0E a,a0F (b:=([v%256,v / 256],())) rfl];rfl
 simp_all[a4v,a1Z]
@[reducible] def a0G:Type:=Int×(Int×(Int×Unit))
@[reducible] def a1d:Type:=Int×(Int×(a0G×(List a0G×(List Sub×Unit))))
@[reducible] def a1b:Type:=Int×(List (List Int)×Unit)
def a2L(n:Int)(s:a0G):Bool:=!(decide (s.1<0) || decide (s.1≥n) || decide (s.2.1<0) || decide (s.2.1≥n) || s.1==s.2.1)&&!(decide (s.2.2.1 < -1024) || decide (s.2.2.1 > 1024))
theorem a3i{n:Int}{s:a0G}:a2L n s=true↔0≤s.1∧s.1<n∧0≤s.2.1∧s.2.1<n∧s.1≠s.2.1∧-1024≤s.2.2.1∧s.2.2.1≤1024:=by
 simp only[a2L,bA,a33,a77,decide_eq_false_iff_not,beq_eq_false_iff_ne];omega
def a5k(l:List a0G)(n:Int):Prop:=1≤n∧n≤8∧l.length≤16∧l.all (a2L n)=true
instance (l:List a0G) (n:Int):Decidable (a5k l n):=by unfold a5k;infer_instance
theorem b3M(l:List a0G)(n:Int):a8v (l,n)=some (decide (a5k l n)):=by
 unfold a8v a5k
 by_cases h1:n<1
 grind
 by_cases h2:n > 8
 grind
 by_cases h3:((l.length:Nat):Int) > 16
 grind
 have g:=a2c (f:=a7c) (β:=Unit ⊕ (Bool×Unit)) l (fun i=>(n,l,(l.length:Int),(i:Int),())) (a2L n) (bt:=Sum.inl ()) (bf:=Sum.inr (false,()))
  (fun i h hp=>by
   obtain⟨a1,m,o,p,q,r,s⟩:=a3i.1 hp;have k:decide (l[i].1<0)=false:=by simp_all
   have a:decide (l[i].1≥n)=false:=by simp_all
   have b:decide (l[i].2.1<0)=false:=by simp_all
   have c:decide (l[i].2.1≥n)=false:=by simp_all
   have d:(l[i].1==l[i].2.1)=false:=by simp_all
   have e:decide (l[i].2.2.1 < -1024)=false:=by simp_all
   have j:decide (l[i].2.2.1 > 1024)=false:=by simp_all
   simp only[a7c,dlt h,cT,a0D h,oB,k,a,b,c,d,e,j,cF,a0C (show i<1000000 by omega)])
  (fun i h hp=>by
   simp only[a7c,dlt h,cT,a0D h,oB]
   grind[a2L])
  (by simp[a7c])
 grind
def a1Q(f:a0G):Prop:=1≤f.1∧f.1≤1048576∧1≤f.2.1∧f.2.1≤8∧4≤f.2.2.1∧f.2.2.1≤24
instance (f:a0G):Decidable (a1Q f):=by unfold a1Q;infer_instance
theorem a4H(f:a0G):a2d f=some (decide (a1Q f)):=by
 unfold a2d a7b a1Q
 grind
def frP(f:a1d):Prop:=a1Q f.2.2.1∧1≤f.2.1∧f.2.1≤4096∧0≤f.1∧f.1≤4194304-f.2.1∧a5k f.2.2.2.1 f.2.2.1.2.1
instance (f:a1d):Decidable (frP f):=by unfold frP;infer_instance
theorem b4g(f:a1d):a7d f=some (decide (frP f)):=by
 unfold a7d frP;rw[a4H,b3M]
 by_cases h1:a1Q f.2.2.1<;>by_cases h2:1≤f.2.1<;>by_cases h3:f.2.1≤4096<;>by_cases h4:0≤f.1<;>simp[h1,h2,h3,h4]
 have h:wrap .i64 ((4194304:Int)-f.2.1)=4194304-f.2.1:=a0B (by omega);rw[h]
 grind
def a7y(s:a0G):List Nat:=[s.1.toNat,s.2.1.toNat,a9d s.2.2.1]
def a5O(s:a0G):List Int:=a0L s.1.toNat++(a0L s.2.1.toNat++a0L (a9d s.2.2.1))
def hb(f:a1d)(body:Nat):List Int:=
 [245,75]++(a0L f.1.toNat++(a0L f.2.1.toNat++(a0L f.2.2.1.1.toNat++(a0L f.2.2.1.2.1.toNat++(a0L f.2.2.1.2.2.1.toNat++(a0L f.2.2.2.1.length++(f.2.2.2.1.flatMap a5O++a0L body)))))))
def a1M(f:a1d)(body:Nat):List Int:=hb f body++[b4P (hb f body)]
theorem a8S{n:Nat}(h:n<9223372036854775808):1≤(a0L n).length∧(a0L n).length≤9:=b7J 8 n (by omega)
theorem c8Z(g:n≤8){s:a0G}(h:a2L n s=true):(a5O s).length≤27:=by
 grind[a3i,a8S,a9d,a5O]
theorem c1e{n:Int}(g:n≤8):∀(l:List a0G),l.all (a2L n)=true→(l.flatMap a5O).length≤27*l.length
 | [],_=>by simp
 |s::l,h=>by
  simp only[a07,bA]at h
  have:=c8Z g h.1
  have:=c1e g l h.2
  simp only[a63,lN,lC];omega
theorem c3Y{f:a1d}(g:frP f){body:Nat}(h:body≤1048576):2≤(hb f body).length∧(hb f body).length≤600:=by
 obtain⟨⟨q,r2,k,a,b,c⟩,l1,l2,s1,s2,m1,m2,m3,m4⟩:=g;have d:=a8S (n:=f.1.toNat) (by omega);have e:=a8S (n:=f.2.1.toNat) (by omega);have i:=a8S (n:=f.2.2.1.1.toNat) (by omega);have j:=a8S (n:=f.2.2.1.2.1.toNat) (by omega);have l:=a8S (n:=f.2.2.1.2.2.1.toNat) (by omega);have m:=a8S (n:=f.2.2.2.1.length) (by omega);have o:=a8S (n:=body) (by omega);have p:=c1e m2 _ m4;simp only[hb,lN,lC,a22];omega
theorem c6b:∀l:List a0G,(l.flatMap a7y).length=3*l.length
 | []=>rfl
 |s::l=>by simp only[a63,lN,lC,c6b l];simp only[a7y,lC,a22];omega
theorem c7I{f:a1d}(z:frP f){body:Nat}(q:body≤1048576):a8a (f,(body:Int))=some (a1M f body):=by
 have t:=z;obtain⟨⟨N,r2,I,K,L,M⟩,l1,l2,s1,s2,m1,m2,m3,m4⟩:=t;have k:∀s∈f.2.2.2.1,a2L f.2.2.1.2.1 s=true:=fun s v=>lA.1 m4 s v;have h:=a1N (f:=a5I) (β:=Int×(List Int×Unit)) f.2.2.2.1 (fun i (a:List Int)=>((body:Int),f.2.2.2.1,((f.2.2.2.1.length:Nat):Int),(i:Int),a,())) (fun a x=>.inl (a++asI (a7y x))) (fun i a=>a.length=6+3*i) (fun a=>((body:Int),a,()))
  (fun i hi a F=>⟨fun H j=>by
   simp at j;subst j;obtain⟨a1,B,C,D,E,w,y⟩:=a3i.1 (k _ (a05 hi));refine⟨?_,by grind[asI,a7y]⟩;simp only[a5I,dlt hi,cT,a0D hi,oB,d4c (g:=f.2.2.2.1[i].2.2.1) (by omega),a0T (show a.length+3<2147483648 by omega),a0C (show i<1000000 by omega),a06]
   grind[a0M,asI,a7y],fun b hb=>by grind⟩)
  (fun a F=>by simp_all[a5I]) (a:=asI [f.1.toNat,f.2.1.toNat,f.2.2.1.1.toNat,f.2.2.1.2.1.toNat,f.2.2.1.2.2.1.toNat,f.2.2.2.1.length]) (by rfl)
 rw[b1l]at h;simp[a8k]at h;have d:([wrap .u64 f.1,wrap .u64 f.2.1,wrap .u64 f.2.2.1.1,wrap .u64 f.2.2.1.2.1,wrap .u64 f.2.2.1.2.2.1,wrap .u64 ((f.2.2.2.1.length:Nat):Int)]:List Int)=asI [f.1.toNat,f.2.1.toNat,f.2.2.1.1.toNat,f.2.2.1.2.1.toNat,f.2.2.1.2.2.1.toNat,f.2.2.2.1.length]:=by
  grind[a0M,asI]
 have o:asI [f.1.toNat,f.2.1.toNat,f.2.2.1.1.toNat,f.2.2.1.2.1.toNat,f.2.2.1.2.2.1.toNat,f.2.2.2.1.length]++f.2.2.2.1.flatMap (fun x=>asI (a7y x))++[((body:Nat):Int)]=asI ([f.1.toNat,f.2.1.toNat,f.2.2.1.1.toNat,f.2.2.1.2.1.toNat,f.2.2.1.2.2.1.toNat,f.2.2.2.1.length]++f.2.2.2.1.flatMap a7y++[body]):=by
  simp_all[asI,List.map_flatMap]
 have u:∀n∈[f.1.toNat,f.2.1.toNat,f.2.2.1.1.toNat,f.2.2.1.2.1.toNat,f.2.2.1.2.2.1.toNat,f.2.2.2.1.length]++f.2.2.2.1.flatMap a7y++[body],n<9223372036854775808:=fun n e=>by
  simp only[mA,mC,a97,or_false,a98]at e;rcases e with(e|⟨s,v,e⟩)|e;omega;obtain⟨a1,B,C,D,E,w,y⟩:=a3i.1 (k _ v)
  have:=c6a (m:=1024) ⟨w,y⟩
  simp[a7y]at e;omega;omega
 have A:=c6b f.2.2.2.1;have p:=b5V u (by grind);have c:(([f.1.toNat,f.2.1.toNat,f.2.2.1.1.toNat,f.2.2.1.2.1.toNat,f.2.2.1.2.2.1.toNat,f.2.2.2.1.length]++f.2.2.2.1.flatMap a7y++[body]).flatMap a0L)=(hb f body).drop 2:=by
  simp only[hb,List.flatMap_append,a63,List.flatMap_nil,a40,aA,List.flatMap_assoc,a65,a09,List.drop_succ_cons,a28];congr 7;exact congrArg (fun g=>List.flatMap g f.2.2.2.1) (funext fun s=>by simp[a5O,a7y])
 have r:[245,75]++(hb f body).drop 2=hb f body:=by rfl
 have G:=c3Y z q;unfold a8a;simp only[d];rw[h];simp only[oB,a06];have l:=congrArg a37 o;rw[show(asI ([f.1.toNat,f.2.1.toNat,f.2.2.1.1.toNat,f.2.2.1.2.1.toNat,f.2.2.1.2.2.1.toNat,f.2.2.2.1.length]++f.2.2.2.1.flatMap a7y++[body])).length=7+3*f.2.2.2.1.length from by grind[asI,lC]]at l;rw[lN,a74]at l;rw[a0M (n:=(body:Int)) (by omega),a0T (by omega),cT,o,p];simp only[oB,c,a06,r];rw[a0T (by grind),cT,c3X (show short (hb f body)by unfold short;omega)]
 simp
 rw[a0T (by omega),cT];rfl
def c7J(f:a1d):a1d:=(f.1,f.2.1,f.2.2.1,f.2.2.2.1,[],())
theorem a1J{A:List Int}{k:Nat}(h:(P++(A++R)).length<k):((P++A)++R).length<k:=by rw[aA];exact h
theorem b8S{x:List Int}{ch:Int}(c:ch≤8)(s l:Int)(fm:a0G)(u:List Sub×Unit){N:Nat}(o:N≤16){R:List Int}:∀(rest done:List a0G)(P:List Int),rest.all (a2L ch)=true→done.length+rest.length=N→
  (P++(rest.flatMap a5O++R)).length<1000000000→
  y0s a5z (x,(N:Int),(done.length:Int),(s,l,fm,done,u),ord P (rest.flatMap a5O++R),())=some (x,(s,l,fm,done++rest,u),ord (P++rest.flatMap a5O) R,())
 | [],done,P,_,hl,_=>by
  have e:done.length=N:=by simpa using hl
  rw[e,a0F (b:=(x,(s,l,fm,done,u),ord P R,())) (by simp only[a5z,dge,cF];rfl)]
  simp
 |g::rest,done,P,h,hl,hlen=>by
  simp only[a07,bA]at h;rw[lC]at hl;obtain⟨a1,v,w,y,z,d,i⟩:=a3i.1 h.1;have A:=c6a (m:=1024) ⟨d,i⟩;have j:(g::rest).flatMap a5O++R=a0L g.1.toNat++(a0L g.2.1.toNat++(a0L (a9d g.2.2.1)++(rest.flatMap a5O++R))):=by simp[a5O]
  rw[j]at hlen⊢;have n1:=a3f (n:=g.1.toNat) (most:=7) (by omega) (by omega) hlen;have f:=a1J hlen;have n2:=a3f (n:=g.2.1.toNat) (most:=7) (by omega) (by omega) f;have k:=a1J f;have r:=a3f (n:=a9d g.2.2.1) (most:=2048) (by omega) (by omega) k;have a:=a1J k;have q:wrap .u64 ((done.length:Int)+1)=(((done++[g]).length:Nat):Int):=by rw[a0M (by omega)];simp
  have t:wrap .i64 ((g.1.toNat:Nat):Int)=g.1:=by rw[a0B (by omega)];omega
  have w2:wrap .i64 ((g.2.1.toNat:Nat):Int)=g.2.1:=by rw[a0B (by omega)];omega
  have p:decide ((done.length:Int)<(N:Int))=true:=by simp;omega
  rw[a0E (s':=(x,(N:Int),(((done++[g]).length:Nat):Int),(s,l,fm,done++[g],u),ord (P++a0L g.1.toNat++a0L g.2.1.toNat++a0L (a9d g.2.2.1)) (rest.flatMap a5O++R),())) (by
   simp only[a5z,p,cT,n1,n2,r,oB,d4d (g:=g.2.2.1) (by omega),a0T (show done.length+1<2147483648 by omega),t,w2,q,a06])]
  rw[b8S c s l fm u o rest (done++[g]) _ h.2 (by simp;omega) a];simp[a5O]
theorem c7K{f:a1d}(p:frP f){body:Nat}(o:body≤1048576)(hl:(a1M f body++R).length<1000000000):
  a7S (a1M f body++R)=some (c7J f,((a1M f body).length:Int),(body:Int),(0:Int)):=by
 have q:=p;obtain⟨⟨r1,r2,c1,c2,d1,d2⟩,l1,l2,s1,s2,m1,m2,m3,m4⟩:=q;have S:=c3Y p o

 have d:a1M f body++R=[245,75]++(a0L f.1.toNat++(a0L f.2.1.toNat++(a0L f.2.2.1.1.toNat++(a0L f.2.2.1.2.1.toNat++(a0L f.2.2.1.2.2.1.toNat++(a0L f.2.2.2.1.length++(f.2.2.2.1.flatMap a5O++(a0L body++([b4P (hb f body)]++R))))))))):=by
  simp[a1M,hb]
 generalize hx:a1M f body++R=x at *;have U:2≤x.length:=by rw[d];simp
 have O:m0k x 0=some 245:=by rw[d];rfl
 have P:m0k x 1=some 75:=by rw[d];rfl
 have k:List.drop 2 (b03 x.length x)=a0L f.1.toNat++(a0L f.2.1.toNat++(a0L f.2.2.1.1.toNat++(a0L f.2.2.1.2.1.toNat++(a0L f.2.2.1.2.2.1.toNat++(a0L f.2.2.2.1.length++(f.2.2.2.1.flatMap a5O++(a0L body++([b4P (hb f body)]++R)))))))):=by
  rw[a19,d];rfl
 have h:([]++(a0L f.1.toNat++(a0L f.2.1.toNat++(a0L f.2.2.1.1.toNat++(a0L f.2.2.1.2.1.toNat++(a0L f.2.2.1.2.2.1.toNat++(a0L f.2.2.2.1.length++(f.2.2.2.1.flatMap a5O++(a0L body++([b4P (hb f body)]++R))))))))):List Int).length<1000000000:=by
  rw[←k];simp;omega
 have n1:=a3f (n:=f.1.toNat) (most:=4194304) (by omega) (by omega) h;have y:=a1J h;have n2:=a3f (n:=f.2.1.toNat) (most:=4096) (by omega) (by omega) y;have z:=a1J y;have E:=a3f (n:=f.2.2.1.1.toNat) (most:=1048576) (by omega) (by omega) z;have A:=a1J z;have F:=a3f (n:=f.2.2.1.2.1.toNat) (most:=8) (by omega) (by omega) A;have B:=a1J A;have G:=a3f (n:=f.2.2.1.2.2.1.toNat) (most:=24) (by omega) (by omega) B;have C:=a1J B;have H:=a3f (n:=f.2.2.2.1.length) (most:=16) (by omega) (by omega) C;have D:=a1J C;have a:=b8S (x:=x) m2 f.1 f.2.1 f.2.2.1 ([],()) m3 f.2.2.2.1 [] _ m4 (by simp) D;have Q:=a1J D;have i:=a3f (n:=body) (most:=1048576) (by omega) (by omega) Q;simp only[a22,nZ,a09,a30]at n1 n2 E F G H i a;have X:wrap .i64 ((f.1.toNat:Nat):Int)=f.1:=by rw[a0B (by omega)];omega
 have w2:wrap .i64 ((f.2.1.toNat:Nat):Int)=f.2.1:=by rw[a0B (by omega)];omega
 have Y:wrap .i64 ((f.2.2.1.1.toNat:Nat):Int)=f.2.2.1.1:=by rw[a0B (by omega)];omega
 have Z:wrap .i64 ((f.2.2.1.2.1.toNat:Nat):Int)=f.2.2.1.2.1:=by rw[a0B (by omega)];omega
 have w5:wrap .i64 ((f.2.2.1.2.2.1.toNat:Nat):Int)=f.2.2.1.2.2.1:=by rw[a0B (by omega)];omega
 have l:a0L f.1.toNat++a0L f.2.1.toNat++a0L f.2.2.1.1.toNat++a0L f.2.2.1.2.1.toNat++a0L f.2.2.1.2.2.1.toNat++a0L f.2.2.2.1.length++f.2.2.2.1.flatMap a5O++a0L body=(hb f body).drop 2:=by simp[hb]
 rw[l]at i;have u:ord ((hb f body).drop 2) ([b4P (hb f body)]++R)=(x.drop 2,(((hb f body).length-2:Nat):Int),(0:Int),()):=by
  unfold ord;rw[a52,←hx];congr 1;unfold a1M;rw[aA,List.drop_append_of_le_length (by omega)]
 rw[u]at i;have b:wrap .i64 (((x.drop 2).length:Int)-(((hb f body).length-2:Nat):Int))=((1+R.length:Nat):Int):=by
  have:x.length=(hb f body).length+(1+R.length):=by rw[←hx];simp[a1M];omega
  rw[a52,a0B (by omega)];omega
 have m:wrap .i64 ((2:Int)+(((hb f body).length-2:Nat):Int))=(((hb f body).length:Nat):Int):=by rw[a0B (by omega)];omega
 have t:(hb f body).length<x.length:=by rw[←hx];simp[a1M]
 have c:b03 (hb f body).length x=hb f body:=by rw[←hx];simp[a1M]
 have s:m0k x (((hb f body).length:Nat):Int)=some (b4P (hb f body)):=by rw[a0D t];congr 1;subst hx;simp[a1M]
 have N:decide (((x.length:Nat):Int)<2)=false:=by simp;omega
 have j:decide ((2:Int)≤((x.length:Nat):Int))=true:=by simp;omega
 have I:((245:Int) != 245)=false:=rfl;have b1:((75:Int) != 75)=false:=rfl;have e:∀T:List Int,T.length<1000000000→a5T T=some (ord [] T):=fun T d=>by unfold a5T;rw[a0T (by omega)];rfl
 have g:=h;rw[a09]at g;have z0:((0:Int) != 0)=false:=rfl;have K:decide (((1+R.length:Nat):Int)<1)=false:=by simp;omega
 have L:decide ((0:Int)≤(((hb f body).length:Nat):Int))=true:=by simp
 have M:decide ((((hb f body).length:Nat):Int)≤((x.length:Nat):Int))=true:=by simp;omega
 have V:(b4P (hb f body) != b4P (hb f body))=false:=bne_self_eq_false _;have r:frP (f.1,f.2.1,f.2.2.1,f.2.2.2.1,([]:List Sub),()):=p;have w:wrap .i64 ((((hb f body).length:Nat):Int)+1)=(((a1M f body).length:Nat):Int):=by rw[a0B (by omega)];simp[a1M]
 have v:wrap .i64 ((body:Nat):Int)=(body:Int):=a0B (by omega);unfold a7S;simp only[N,cF,O,P,oB,I,b1,j,cT];rw[k,e _ g];simp only[oB,n1,n2,E,F,G,H,X,w2,Y,Z,w5]
 erw[a]
 simp only[oB,i,a3E,z0,cF,a1P,a4e,b,K,m,L,M,a03,cT,tN,c,c3X (show short (hb f body)by unfold short;omega),s,V];rw[b4g,decide_eq_true r];simp only[oB,bT,cF,w,v];rfl
@[reducible] def PZ:Type:=Sub×List Nat
def c7L(n:Int)(p:PZ):Prop:=SmallS p.1∧(a2u p.1 n).isSome=true∧(p.1.1≠0∧p.1.1≠1→PartsOk p.1.2.2.2.2.2.2.2.2.2.1 n ((p.1.2.2.2.2.2.2.2.2.1.length:Nat):Int) p.1.2.2.2.2.2.2.2.2.2.2.1 p.2)
def a0N(l:List PZ):List Int:=l.flatMap fun p=>a8r p.1 p.2
theorem c1f(l:List PZ):a1z (a0N l):=b3t fun _=>d0P _ _
theorem c1g(x:a1d)(all:List Sub)(l:all.length≤8):∀(rest done:List Sub)(L:List Int),done++rest=all→(∀s∈rest,SmallS s∧(a2u s x.2.1).isSome=true)→L.length+700000*rest.length<40000000→
  ∃zs:List PZ,zs.map (·.1)=rest∧(∀p∈zs,c7L x.2.1 p)∧(a0N zs).length≤700000*rest.length∧((∀s∈rest,∃c,a4l (s,x.2.1)=some (c:Int))∧some (((a0N zs).length:Nat):Int)=rest.foldr (fun s a=>a.bind fun a=>(a4l (s,x.2.1)).bind fun c=>some (c+a)) (some 0))∧
   y0s a8M (all,(all.length:Int),(done.length:Int),wL L,x,())=some (.inl (wL (L++a0N zs),x,()))
 | [],done,L,hd,_,_=>by
  have e:done=all:=by simp_all
  subst e;refine⟨[],rfl,by simp,by simp[a0N],⟨by simp,by rfl⟩,?_⟩;simp_all[a0F,a8M,a0N]
 |s::rest,done,L,hd,h,hL=>by
  obtain⟨b,k⟩:=h s (by simp);rw[lC]at hL;obtain⟨f,d,i,q,j⟩:=d0Q b k (L:=L) (by omega);obtain⟨zs,k1,k2,k3,⟨r,o⟩,k6⟩:=c1g x all l rest (done++[s]) (L++a8r s f) (by simp_all) (fun t n=>h t (by grind)) (by grind);have g:done.length<all.length:=by grind
  have m:m0k all (done.length:Int)=some s:=by grind[a0D]
  refine⟨(s,f)::zs,by grind,fun p hp=>?_,?_,⟨fun t n=>?_,?_⟩,?_⟩;rcases mC.1 hp with rfl|hp;exact⟨b,k,j⟩;simp_all
  grind[a0N]
  grind
  simp only[List.foldr_cons,←o,oB,i];simp[a0N];have z0:((0:Int) != 0)=false:=rfl;rw[a0E (s':=(all,(all.length:Int),(((done++[s]).length:Nat):Int),wL (L++a8r s f),x,())) (by
   simp only[a8M,dlt g,cT,m,oB,d,z0,cF,a0C (show done.length<1000000 by omega)]
   simp)]
  simp_all[a0N]
def a4X(k:Nat):Nat:=(8-k%8)%8
def a2R(L:List Int):List Int:=L++a00 (a4X L.length) 0
theorem b8T:∀(k:Nat)(L:List Int),a4X L.length=k→L.length+k<900000000→y0s a3C (wL L,())=some (wL (L++a00 k 0),())
 |k,L,hk,hL=>by
  have f:=(a5W L).1;have h:a26 (wL L).2.1 8=((L.length%8:Nat):Int):=by grind
  unfold a4X at hk;cases k with
  |zero=>
   grind[a0F,a3C]
  |succ k=>
   have hb:(((L.length%8:Nat):Int) != 0)=true:=by grind
   rw[a0E (s':=(wL (L++[0]),())) (by
    simp only[a3C,h,hb,cT,b8s (show L.length<1000000000 by omega),oB])]
   rw[b8T k (L++[0]) (by grind[a4X]) (by grind)]
   grind
theorem d0S(h:L.length<800000000):a5f (wL L)=some (wL (a2R L)):=by
 unfold a5f;rw[b8T _ L rfl (by unfold a4X;omega)];rfl
def a8T(L:List Int):List Int:=(wL (a2R L)).1
theorem b5X(L:List Int):(a8T L).length=(L.length+7) / 8∧8*(a8T L).length=(a2R L).length:=by
 grind[a5W,a2R,a8T,a4X]
def a9e(f:a1d)(L:List Int):List Int:=a1M f (a8T L).length++a8T L
def a4Y(f:a1d)(L:List Int):List Int:=a9e f L++[a4q (a9e f L) / 256,a4q (a9e f L)%256]
theorem b4Q{f:a1d}(g:frP f)(h:L.length≤5600000):(a9e f L).length≤700700∧(a8T L).length≤700000:=by
 grind[b5X,c3Y,a9e,a1M]
theorem c3Z{f:a1d}(j:a4u f=some true)(d:frP f)(e:f.2.2.2.2.1.length≤8)(m:∀s∈f.2.2.2.2.1,SmallS s∧(a2u s f.2.1).isSome=true):
  ∃zs:List PZ,zs.map (·.1)=f.2.2.2.2.1∧(∀p∈zs,c7L f.2.1 p)∧(a0N zs).length≤5600000∧
   some (((a0N zs).length:Nat):Int)=f.2.2.2.2.1.foldr (fun s a=>a.bind fun a=>(a4l (s,f.2.1)).bind fun c=>some (c+a)) (some 0)∧a2F f=some (a4Y f (a0N zs),0):=by
 obtain⟨zs,k1,k2,k3,⟨-,n⟩,k6⟩:=c1g f f.2.2.2.2.1 e f.2.2.2.2.1 [] [] rfl m (by grind);have b:(a0N zs).length≤5600000:=by omega
 refine⟨zs,k1,k2,b,n,?_⟩;rw[a09,a22]at k6;have hp:=b4Q d b;have k:wL []=(([]:List Int),(0:Int),()):=rfl;rw[k]at k6;have g:(a2R (a0N zs)).length<1000000000:=by
  grind[b5X]
 have l:=b7c (a9e f (a0N zs));have h:a1M f (a8T (a0N zs)).length++a8T (a0N zs)=a9e f (a0N zs):=rfl;have i:(a1M f (a8T (a0N zs)).length).length+(a8T (a0N zs)).length=(a9e f (a0N zs)).length:=by grind
 unfold a2F;simp only[j,oB,bT,cF]
 erw[k6]
 simp only[oB,d0S (show(a0N zs).length<800000000 by omega),d0R g]
 erw[c7I d (show(a8T (a0N zs)).length≤1048576 by omega)]
 simp only[oB,a06];rw[show(wL (a2R (a0N zs))).1=a8T (a0N zs)from rfl];rw[h,a0T (by omega),cT,b8R (show short (a9e f (a0N zs))by unfold short;omega)]
 simp
 rw[a0M (by omega),d8D l];simp only[oB];rw[a0T (by grind),cT];rfl
end Go.Ab
