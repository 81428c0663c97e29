/- Part of the proof: PA. Conditions: as each statement tells. -/
import Derived.KernelRfl
import Derived.Test.YtjoohiokfkdfpaaGreatDoorMF
noncomputable section
set_option linter.unusedSimpArgs false
set_option linter.unusedVariables false
open BitVec renaming ofInt→a04,ofInt_natCast→a23,toNat_ofNat→a28,toNat_or→a69,toNat_ofInt→a79,toNat_and→a92
open Bool renaming and_self→a03,not_eq_true'→a32,not_false→a35,true_and→a38,and_eq_true_iff→a73,or_eq_false_iff→a74,or_eq_true→a97,eq_iff_iff→a98
open Int renaming eq_ofNat_of_zero_le→a01,natCast_dvd_natCast→a19,tmod→a25,cast_ofNat_Int→a29,toNat→a41,tmod_eq_emod_of_nonneg→a42,dvd_mul_of_dvd_left→a45,mul_nonneg→a46,tdiv→a53,tdiv_eq_ediv_of_nonneg→a59,mul_fdiv_cancel_left→a62,dvd_add_left→a64,toNat_of_nonneg→a76,fdiv→a77,natCast_nonneg→a80,dvd_zero→a84,emod_eq_of_lt→a87,natCast_add→b00
open List renaming replicate→a00,drop_eq_getElem_cons→a02,getElem_mem→a05,append_eq→a06,all_cons→a07,nil_append→a09,take_length→a18,length_nil→a21,drop_zero→a27,zipWith→a30,mem_of_mem_take→a33,mem_of_mem_drop→a34,length→a36,append_nil→a39,length_eq_zero_iff→a44,take_of_length_le→a47,take_succ_eq_append_getElem→a48,drop_length→a49,eq_nil_or_concat→a50,length_drop→a51,replicate_succ'→a52,set_cons_zero→a58,sum_cons→a60,flatMap_cons→a61,cons_append→a63,set_append_right→a70,length_singleton→a71,singleton_append→a72,getD→a85,getElem_zip→a89,length_take→a93,not_mem_nil→a95,mem_flatMap→a96,foldl_cons→a99,take→b01
open Nat renaming pow_le_pow_right→a08,two_pow_pos→a16,lt_trans→a17,mod_eq_of_lt→a22,mul_le_mul_right→a24,le_refl→a26,div_le_self→a31,lt_of_le_of_lt→a37,mod_lt→a40,pow_dvd_pow→a54,sub_self→a55,testBit_two_pow_mul_add→a56,two_pow_add_eq_or_of_lt→a57,div_eq_of_lt→a65,mul_comm→a66,div_add_mod→a67,min_eq_left→a68,div_mul_le_self→a75,one_le_two_pow→a78,le_of_lt→a81,add_zero→a82,pow_succ→a83,or_lt_two_pow→a86,add_mod_right→a88,mul_add→a90,mul_one→a91,lt_of_not_le→a94
open Option renaming map_eq_some_iff→a20,bind_eq_some_iff→a43
namespace Go.Ab
variable {L P R c d g ks l part r row t wm:List Int}{N a b i j m o v w:Nat}{k lag n warm x:Int}{zn:List Nat}
open IntKind(wrap)
section
variable {σ β:Type} {f:σ→Option (σ ⊕ β)}
theorem b1P:∀(n m:Nat)(s:σ){b:β},j0z f n s=some b→j0z f (n+m) s=some b
 |0,_,s,b,h=>by simp[j0z]at h
 |n+1,m,s,b,h=>by
  rw[show n+1+m=n+m+1 from by omega];simp only[j0z]at h⊢
  split at h
  cases h;rename_i s' g;exact b1P n m s' h;exact h
theorem b6B{n:Nat}{s:σ}{b b':β}(h:j0z f n s=some b)(k:j0z f m s=some b'):b=b':=by
 have a:=b1P n m s h;have g:=b1P m n s k;rw[Nat.add_comm,a]at g;exact Option.some.inj g
theorem c4i{n:Nat}{s:σ}{b:β}(h:j0z f n s=some b):v0v f s=some b:=by
 unfold v0v;have g:∃n b,j0z f n s=some b:=⟨n,b,h⟩;rw[dif_pos g];exact congrArg some (b6B g.choose_spec.choose_spec h)
theorem b6k{n:Nat}{s:σ}{b:β}(h:j0z f n s=some b):y0s f s=some b:=by
 unfold y0s;split;rename_i g hb;rw[b6B hb h];exact c4i h
theorem b6C{s:σ}(h:∀n,j0z f n s=none):y0s f s=none:=by
 unfold y0s;rw[h 400];show v0v f s=none;unfold v0v;rw[dif_neg]
 rintro⟨n,b,g⟩
 rw[h n]at g;cases g
theorem a0H{s:σ}{b:β}(h:f s=some (.inr b)):y0s f s=some b:=b6k (n:=1) (by simp[j0z,h])
theorem a0I{s s':σ}(h:f s=some (.inl s')):y0s f s=y0s f s':=by
 by_cases hx:∃n b,j0z f n s'=some b
 obtain⟨n,b,hb⟩:=hx;rw[b6k hb];exact b6k (n:=n+1) (by simp[j0z,h,hb])
 ·have g:∀n,j0z f n s'=none:=fun n=>by
   cases hn:j0z f n s' with
   |none=>rfl
   |some b=>exact absurd ⟨n,b,hn⟩ hx
  rw[b6C g];refine b6C fun n=>?_
  cases n with
  |zero=>rfl
  |succ n=>simp[j0z,h,g n]
theorem c1i(S:Nat→σ)(n:Nat){b:β}(g:∀i,i<n→f (S i)=some (.inl (S (i+1))))(h:f (S n)=some (.inr b)):∀(k:Nat),k≤n→y0s f (S (n-k))=some b
 |0,_=>a0H h
 |k+1,hk=>by
  rw[a0I (g (n-(k+1)) (by omega)),show n-(k+1)+1=n-k from by omega];exact c1i S n g h k (by omega)
theorem a2o(S:Nat→σ)(n:Nat){b:β}(g:∀i,i<n→f (S i)=some (.inl (S (i+1))))(h:f (S n)=some (.inr b)):y0s f (S 0)=some b:=by
 have:=c1i S n g h n (a26 _)
 rwa [a55]at this
end
theorem a0D{n:Int}(h:-9223372036854775808≤n∧n≤9223372036854775807):wrap .i64 n=n:=by
 simp only[wrap,IntKind.bits,IntKind.signed]
 simp
 split<;>omega
theorem a0S{n:Int}(h:0≤n∧n<18446744073709551616):wrap .u64 n=n:=by
 simp only[wrap,IntKind.bits,IntKind.signed]
 simp
 omega
theorem a8g(n:Int):wrap .u8 n=n%256:=by
 simp[wrap,IntKind.bits,IntKind.signed]
theorem c1j(x y:Int):v0s x y=min x y:=by
 simp only[v0s,cond_eq_ite,dT]
 split<;>omega
theorem c5D(x y:Int):v0r x y=max x y:=by
 simp only[v0r,cond_eq_ite,dT]
 split<;>omega
theorem a1c{n:Nat}(h:n<2147483648):lim n=true:=by simp[lim,h]
section
variable {α A σ β:Type}
def a2p(g:A→α→A ⊕ β):List α→A→A ⊕ β
 | [],a=>.inl a
 |x::r,a=>match g a x with
  |.inl a'=>a2p g r a'
  |.inr b=>.inr b
def a7m(fin:A→β):A ⊕ β→β
 |.inl a=>fin a
 |.inr b=>b
theorem b1s{f:σ→Option (σ ⊕ β)}(l:List α)(S:Nat→A→σ)(g:A→α→A ⊕ β)(I:Nat→A→Prop)(e:A→β)
  (d:∀i (h:i<l.length) a,I i a→(∀a',g a l[i]=.inl a'→f (S i a)=some (.inl (S (i+1) a'))∧I (i+1) a')∧(∀b,g a l[i]=.inr b→f (S i a)=some (.inr b)))
  (c:∀a,I l.length a→f (S l.length a)=some (.inr (e a))):∀(k i:Nat)(a:A),i+k=l.length→I i a→y0s f (S i a)=some (a7m e (a2p g (l.drop i) a))
 |0,i,a,hi,ha=>by
  obtain rfl:i=l.length:=by omega
  rw[a49];exact a0H (c a ha)
 |k+1,i,a,hi,ha=>by
  have j:i<l.length:=by omega
  rw[a02 j];obtain⟨m,n⟩:=d i j a ha;simp[a2p];cases hg:g a l[i]with
  |inl a'=>
   obtain⟨o,p⟩:=m a' hg;rw[a0I o];exact b1s l S g I e d c k (i+1) a' (by omega) p
  |inr b=>exact a0H (n b hg)
theorem a1E{f:σ→Option (σ ⊕ β)}(l:List α)(S:Nat→A→σ)(g:A→α→A ⊕ β)(I:Nat→A→Prop)(k:A→β)
  (d:∀i (h:i<l.length) a,I i a→(∀a',g a l[i]=.inl a'→f (S i a)=some (.inl (S (i+1) a'))∧I (i+1) a')∧(∀b,g a l[i]=.inr b→f (S i a)=some (.inr b)))
  (c:∀a,I l.length a→f (S l.length a)=some (.inr (k a))){a:A}(e:I 0 a):y0s f (S 0 a)=some (a7m k (a2p g l a)):=by
 have:=b1s l S g I k d c l.length 0 a (by omega) e
 simp_all
theorem a1p{f:σ→Option (σ ⊕ β)}(l:List α)(S:Nat→σ)(p:α→Bool){bt bf:β}
  (k:∀i (h:i<l.length),p l[i]=true→f (S i)=some (.inl (S (i+1))))(b:∀i (h:i<l.length),p l[i]=false→f (S i)=some (.inr bf))
  (g:f (S l.length)=some (.inr bt)):y0s f (S 0)=some (bif l.all p then bt else bf):=by
 have h:=a1E (A:=Unit) l (fun i _=>S i) (fun _ x=>bif p x then .inl ()else .inr bf) (fun _ _=>True) (fun _=>bt) (fun i h a _=>?_) (fun _ _=>g) (a:=()) trivial
 ·rw[h];congr 1;clear h k b g
  induction l with
  |nil=>rfl
  |cons x l ih=>
   simp[a2p];cases p x with
   |true=>simp_all
   |false=>rfl
 grind
end
theorem a0B{α:Type}{l:List α}{i:Nat}(h:i<l.length):m0k l (i:Int)=some l[i]:=by
 simp_all[m0k]
def a0A(x:Int):Bool:=decide (-1073741824≤x)&&decide (x<1073741824)
theorem a1x{x:Int}:a0A x=true↔-1073741824≤x∧x<1073741824:=by simp[a0A]
def short{α:Type}(l:List α):Prop:=l.length<1000000
theorem a0C{i:Nat}(h:i<1000000):wrap .i64 ((i:Int)+1)=((i+1:Nat):Int):=by
 grind[a0D]
theorem dlt{n:Nat}(h:i<n):decide ((i:Int)<(n:Int))=true:=by simp_all
theorem dge(n:Nat):decide ((n:Int)<(n:Int))=false:=by simp
theorem a3J{l:List Int}(a:short l):a1Y l=some (l.all a0A):=by
 unfold a1Y
 have:=a1p (f:=a2e) l (fun i=>(l,(l.length:Int),(i:Int),())) a0A (bt:=Sum.inl ()) (bf:=Sum.inr (false,()))
  (fun i h hp=>by
   have hp:=a1x.1 hp;have g:decide (l[i] < -1073741824)=false:=by simp_all
   have k:decide (l[i]≥1073741824)=false:=by simp_all
   simp only[a2e,dlt h,cT,a0B h,oB,g,k,cF,a0C (a17 h a)])
  (fun i h hp=>by
   simp only[a2e,dlt h,cT,a0B h,oB]
   grind[a0A])
  (by simp[a2e])
 grind
set_option maxRecDepth 100000 in
theorem c5E:b1g ()=some true:=by kernel_rfl
theorem a5i(x:Int):a4k x=some (a0A x):=by
 grind[a4k,a0A]
theorem a6A(x:Int):a6a x=some (a0A x):=by
 grind[a6a,a0A]
theorem a4m(x:Int):a4Z x=some (a0A x):=by
 grind[a4Z,a0A]
theorem b1t(x:Int):a4j x=some (a0A x):=by
 grind[a4j,a0A]
theorem a4V(g:short l):a2f l=some (l.all a0A):=by
 unfold a2f
 have:=a1p (f:=a2E) l (fun i=>(l,(l.length:Int),(i:Int),())) a0A (bt:=Sum.inl ()) (bf:=Sum.inr (false,()))
  (fun i h hp=>by simp[a2E,a0B h,a5i,hp,a0C (a17 h g),h])
  (fun i h hp=>by simp_all[a2E,a0B,a5i])
  (by simp[a2E])
 grind
theorem b0P(g:short l):a3B l=some (l.all a0A):=by
 unfold a3B
 have:=a1p (f:=a3q) l (fun i=>(l,(l.length:Int),(i:Int),())) a0A (bt:=Sum.inl ()) (bf:=Sum.inr (false,()))
  (fun i h hp=>by simp[a3q,a0B h,a6A,hp,a0C (a17 h g),h])
  (fun i h hp=>by simp_all[a3q,a0B,a6A])
  (by simp[a3q])
 grind
theorem a9Q(g:short l):a4r l=some (l.all a0A):=by
 unfold a4r
 have:=a1p (f:=a2X) l (fun i=>(l,(l.length:Int),(i:Int),())) a0A (bt:=Sum.inl ()) (bf:=Sum.inr (false,()))
  (fun i h hp=>by simp[a2X,a0B h,a4m,hp,a0C (a17 h g),h])
  (fun i h hp=>by simp_all[a2X,a0B,a4m])
  (by simp[a2X])
 grind
theorem a5W(h:short l):a2l l=some (l.all a0A):=by
 have e:b0K=a2e:=rfl
 have:a2l l=a1Y l:=by rfl
 simp_all[a3J]
def b4S(x:Int):Bool:=decide (-32768≤x)&&decide (x<32768)
def a7I(c:List Int)(s:Int):Bool:=decide (1≤c.length)&&(decide (c.length≤32)&&(decide (0≤s)&&(decide (s≤15)&&c.all b4S)))
theorem a7D{c:List Int}{s:Int}(a:short c):a3K (c,s)=some (a7I c s):=by
 have:=a1p (f:=a4p) c (fun i=>(c,(c.length:Int),(i:Int),())) b4S (bt:=Sum.inl ()) (bf:=Sum.inr (false,()))
  (fun i h hp=>by
   simp[b4S]at hp;have g:¬ c[i] < -32768:=by omega
   have k:¬ c[i]≥32768:=by omega
   simp[a4p,a0B h,a0C (a17 h a),h,g,k])
  (fun i h hp=>by
   grind[b4S,a4p,a0B])
  (by simp[a4p])
 simp at this;unfold a3K a7I
 grind
def b1Q(x:Int):Bool:=decide (-64≤x)&&decide (x≤64)
def a8Y(lag:Int)(t:List Int):Bool:=decide (2≤lag)&&(decide (lag≤1024)&&t.all b1Q)
theorem b1h(g:t.length=3):a6K (lag,t)=some (a8Y lag t):=by
 have:=a1p (f:=a5G) t (fun i=>(t,(i:Int),())) b1Q (bt:=Sum.inl ()) (bf:=Sum.inr (false,()))
  (fun i h hp=>by
   simp[b1Q]at hp
   grind[a5G,a0B,a0C])
  (fun i h hp=>by
   grind[b1Q,a5G,a0B])
  (by simp_all[a5G])
 simp at this;unfold a6K a8Y
 grind
def stageB(s:Int×(Int×Unit)):Bool:=decide (1≤s.1)&&(decide (s.1≤32)&&(decide (0≤s.2.1)&&decide (s.2.1≤8)))
def a7v(l:List (Int×Int×Unit)):Bool:=decide (l.length≤3)&&l.all stageB
theorem a8r(s:Int×(Int×Unit)):a5H s=some (stageB s):=by
 grind[a5H,stageB]
theorem a9R{l:List (Int×Int×Unit)}(g:short l):a5Z l=some (a7v l):=by
 have:=a1p (f:=a4W) l (fun i=>(l,(l.length:Int),(i:Int),())) stageB (bt:=Sum.inl ()) (bf:=Sum.inr (false,()))
  (fun i h hp=>by simp[a4W,a0B h,a8r,hp,a0C (a17 h g),h])
  (fun i h hp=>by simp_all[a4W,a0B,a8r])
  (by simp[a4W])
 simp at this;unfold a5Z a7v
 grind
@[reducible] def W(n:Int):Int:=wrap .i64 n
theorem a6B(n:Int):wrap .i64 n=Int.bmod n 18446744073709551616:=by
 grind[wrap,IntKind.bits,IntKind.signed]
theorem b3g{n:Int}(h:a0A n=true):W n=n:=by
 grind[a1x,a0D]
def a3w(guess:List Int→Int):List Int→List Int→Option (List Int)
 | [],out=>some out
 |x::r,out=>bif a0A (W (x+guess out))then a3w guess r (out++[W (x+guess out)])else none
def b0Q{β:Type}(guess:List Int→Int)(bad:β)(out:List Int)(x:Int):List Int ⊕ β:=bif a0A (W (x+guess out))then .inl (out++[W (x+guess out)])else .inr bad
theorem a9A{β:Type}(h:List Int→Int)(g:β)(f:List Int→β):∀(l out:List Int),a7m f (a2p (b0Q h g) l out)=match a3w h l out with|some r=>f r|none=>g
 | [],out=>rfl
 |x::l,out=>by
  simp[a2p,b0Q,a3w];cases a0A (W (x+h out))with
  |true=>simp_all[a9A]
  |false=>rfl
theorem a9B(g:List Int→Int):∀(l out r:List Int),out.all a0A=true→a3w g l out=some r→r.all a0A=true∧r.length=out.length+l.length
 | [],out,r,h,e=>by simp_all[a3w]
 |x::l,out,r,h,e=>by
  simp[a3w]at e;cases hw:a0A (W (x+g out))with
  |true=>
   rw[hw]at e;obtain⟨f,k⟩:=a9B g l _ r (by simp_all) e
   grind
  |false=>simp_all
def a4g:Option (List Int)→List Int×Int
 |some r=>(r,0)
 |none=>([],6)
def atB(out:List Int)(i:Nat):Int:=out.getD (out.length-i) 0
def a5j(o:Nat)(out:List Int):Int:=match o with
 | 1=>atB out 1
 | 2=>2*atB out 1-atB out 2
 | 3=>3*atB out 1-3*atB out 2+atB out 3
 | 4=>4*atB out 1-6*atB out 2+4*atB out 3-atB out 4
 |_=>0
theorem a9C{out:List Int}(f:1≤i)(h:i≤out.length)(g:short out):a1b ((i:Int),out)=some (atB out i,out):=by
 unfold a1b;have g:out.length<1000000:=g
 grind[a0D,a0B,atB]
theorem b6l{out:List Int}(e:o≤4)(h:o≤out.length)(a:short out):∃g,a7x (out,(o:Int))=some g∧∀x,W (x+g)=W (x+a5j o out):=by
 have f:=fun(h':1≤out.length)=>a9C (i:=1) (by omega) h' a;have k:=fun(h':2≤out.length)=>a9C (i:=2) (by omega) h' a;have b:=fun(h':3≤out.length)=>a9C (i:=3) (by omega) h' a;have c:=fun(h':4≤out.length)=>a9C (i:=4) (by omega) h' a;simp at f k b c;unfold a7x;have d:o=0∨o=1∨o=2∨o=3∨o=4:=by omega
 rcases d with rfl|rfl|rfl|rfl|rfl;exact⟨0,rfl,fun x=>rfl⟩;exact⟨_,by simp[f (by omega)];rfl,fun x=>rfl⟩;refine⟨_,by simp[f (by omega),k (by omega)];rfl,fun x=>?_⟩;simp_all[a6B,a5j];refine⟨_,by simp[f (by omega),k (by omega),b (by omega)];rfl,fun x=>?_⟩;simp_all[a6B,a5j];refine⟨_,by simp[f (by omega),k (by omega),b (by omega),c (by omega)];rfl,fun x=>?_⟩;simp_all[a6B,a5j]
theorem a0P{n:Nat}(h:n<1000000):lim n=true:=a1c (by omega)
theorem b7G{warm rest:List Int}(u:o≤4)(x:warm.length=o)(w:rest.length<100000):
  a7X (warm,rest,(o:Int))=some (a4g (bif warm.all a0A&&rest.all a0A then a3w (a5j o) rest warm else none)):=by
 have c:short warm:=by unfold short;omega
 have m:short rest:=by unfold short;omega
 unfold a7X;have p:¬ (o:Int)<0:=by omega
 have q:¬ (o:Int) > 4:=by omega
 have r:(((warm.length:Nat):Int) != (o:Int))=false:=by simp_all
 simp only[p,q,r,decide_false,cF,oB,a5W c,a5W m];cases hw1:warm.all a0A with
 |false=>rfl
 |true=>
  simp only[bT,cF,oB,a38];cases hw2:rest.all a0A with
  |false=>rfl
  |true=>
   simp[a0P c]
   have:=a1E (f:=a6o) rest (fun i out=>((o:Int),rest,(rest.length:Int),(i:Int),out,())) (b0Q (a5j o) (Sum.inr ((6:Int),([]:List Int),())))
    (fun i out=>o≤out.length∧out.length≤o+i) (fun out=>Sum.inl (out,()))
    (fun i h out s=>by
     have j:i<1000000:=by omega
     have l:short out:=by unfold short;omega
     obtain⟨g,t,d⟩:=b6l u s.1 l;have e:wrap .i64 (rest[i]+g)=W (rest[i]+a5j o out):=d _;have k:a2l [W (rest[i]+a5j o out)]=some (a0A (W (rest[i]+a5j o out))):=by rw[a5W (by simp[short])];simp
     simp only[a6o,dlt h,cT,a0B h,oB,t,e,k,b0Q];cases hb:a0A (W (rest[i]+a5j o out))with
     |true=>
      simp only[cT,bT,cF,a0P (show out.length+1<1000000 by omega),a0C j];refine⟨fun v n=>?_,fun b hb=>(by grind)⟩;simp at n;subst n;exact⟨rfl,by grind,by grind⟩
     |false=>
      simp)
    (fun out _=>by simp[a6o]) (a:=warm) ⟨by omega,by omega⟩
   simp[a9A]at this;rw[this];cases a3w (a5j o) rest warm<;>rfl
def b8B(out:List Int):List Int→Nat→Int→Int
 | [],_,acc=>acc
 |c::r,i,acc=>bif decide (i<out.length)then b8B out r (i+1) (W (acc+W (c*atB out (i+1))))else acc
def a8s(c:List Int)(s:Int)(out:List Int):Int:=A0o .i64 (b8B out c 0 0) s
theorem c6s{out:List Int}(h:i<out.length)(g:short out):m0k out (wrap .i64 (wrap .i64 (((out.length:Nat):Int)-1)-(i:Int)))=some (atB out (i+1)):=by
 have g:out.length<1000000:=g
 grind[a0D,a0B,atB]
theorem b3h{out c:List Int}{s:Int}(f:short out)(a:short c):∀(k i:Nat)(acc:Int),i+k=c.length→
  y0s a2F (out,s,acc,c,(c.length:Int),(i:Int),())=some (s,b8B out (c.drop i) i acc,())
 |0,i,acc,h=>by
  obtain rfl:i=c.length:=by omega
  simp_all[a0H,a2F,b8B]
 |k+1,i,acc,h=>by
  have g:i<c.length:=by omega
  have e:out.length<1000000:=f;have d:c.length<1000000:=a;rw[a02 g,b8B];have j:wrap .i64 (((out.length:Nat):Int)-1)=((out.length:Nat):Int)-1:=a0D (by omega);have l:wrap .i64 (((out.length:Nat):Int)-1-(i:Int))=((out.length:Nat):Int)-1-(i:Int):=a0D (by omega)
  by_cases hi:i<out.length
  have b:decide (wrap .i64 (wrap .i64 (((out.length:Nat):Int)-1)-(i:Int))<0)=false:=by grind
  simp[hi];rw[a0I (s':=(out,s,W (acc+W (c[i]*atB out (i+1))),c,(c.length:Int),((i+1:Nat):Int),())) (by
   simp only[a2F,dlt g,cT,a0B g,oB,b,cF,c6s hi f,a0C (show i<1000000 by omega)])]
  exact b3h f a k (i+1) _ (by omega);have b:decide (wrap .i64 (wrap .i64 (((out.length:Nat):Int)-1)-(i:Int))<0)=true:=by grind
  simp[hi];simp_all[a0H,a2F,a0B]
theorem b1R{out:List Int}{s:Int}(g:short out)(h:short c)(f:0≤s):a3N (out,c,s)=some (a8s c s out):=by
 have:=b3h (s:=s) g h c.length 0 0 (by omega)
 grind[a3N,a8s]
def a9S(warm rest c:List Int)(s:Int):Option (List Int):=bif warm.all a0A&&rest.all a0A then a3w (a8s c s) rest warm else none
theorem b1u{warm rest:List Int}{s:Int}(o:a7I c s=true)(w:warm.length=c.length)(v:rest.length<100000):
  a5K (warm,rest,c,s)=some (a4g (a9S warm rest c s)):=by
 have g:=o;simp only[a7I,bA,dT]at g;have k:short c:=by unfold short;omega
 have m:short warm:=by unfold short;omega
 have l:short rest:=by unfold short;omega
 unfold a5K;have q:(((warm.length:Nat):Int) != ((c.length:Nat):Int))=false:=by simp_all
 simp only[a7D k,o,oB,bT,cF,q,a4V m,a4V l,a9S];cases hw1:warm.all a0A with
 |false=>rfl
 |true=>
  simp only[bT,cF,oB,a38];cases hw2:rest.all a0A with
  |false=>rfl
  |true=>
   have p:wrap .i64 (((warm.length:Nat):Int)+((rest.length:Nat):Int))=((warm.length+rest.length:Nat):Int):=by grind[a0D]
   have r:(0:Int)≤((warm.length+rest.length:Nat):Int):=by omega
   simp only[bT,cF,cT,p,r,decide_true,tN,a0P (show warm.length+rest.length<1000000 by omega),a0P (show 0+warm.length<1000000 by omega),a03,a06,a09]
   have:=a1E (f:=a5w) rest (fun i out=>(c,s,rest,(rest.length:Int),(i:Int),out,())) (b0Q (a8s c s) (Sum.inr ((6:Int),([]:List Int),())))
    (fun i out=>out.length≤warm.length+i) (fun out=>Sum.inl (out,()))
    (fun i h out u=>by
     have d:i<1000000:=by omega
     have j:short out:=by unfold short;omega
     have e:wrap .i64 (a8s c s out+rest[i])=W (rest[i]+a8s c s out):=by grind
     simp only[a5w,dlt h,cT,a0B h,oB,b1R j k g.2.2.1,e,a5i,b0Q];cases hb:a0A (W (rest[i]+a8s c s out))with
     |true=>
      simp only[cT,bT,cF,a0P (show out.length+1<1000000 by omega),a0C d];refine⟨fun t n=>?_,fun b hb=>(by grind)⟩;simp at n;subst n;exact⟨rfl,by grind⟩
     |false=>
      simp)
    (fun out _=>by simp[a5w]) (a:=warm) (by omega)
   simp[a9A]at this;rw[this];cases a3w (a8s c s) rest warm<;>rfl
def b8C(out:List Int)(lag:Int):List Int→Nat→Int→Int
 | [],_,acc=>acc
 |t::r,i,acc=>b8C out lag r (i+1) (bif decide (0≤(out.length:Int)-lag-1+i)then W (acc+W (t*out.getD ((out.length:Int)-lag-1+i).toNat 0))else acc)
def a7E(lag:Int)(t:List Int)(out:List Int):Int:=A0o .i64 (b8C out lag t 0 0) 6
theorem b8D{out:List Int}{j:Int}(g:0≤j)(h:j<out.length):m0k out j=some (out.getD j.toNat 0):=by
 obtain⟨n,rfl⟩:=a01 g;simp_all[a0B]
theorem c5F{n:Nat}(h:2≤lag)(g:lag≤1024)(k:n<1000000)(f:i<3):
  wrap .i64 (wrap .i64 (wrap .i64 ((n:Int)-lag)-1)+(i:Int))=(n:Int)-lag-1+i:=by
 grind[a0D]
theorem c3f{n:Nat}(h:j<n):(l.take n).getD j 0=l.getD j 0:=by
 simp_all
theorem a7n{l t:List Int}{lag:Int}{n:Nat}(m:n≤l.length)(j:short l)(o:t.length=3)(a:2≤lag)(b:lag≤1024):∀(k i:Nat)(acc:Int),i+k=3→
  y0s a3r (l,(n:Int),lag,acc,t,(i:Int),())=some (b8C (l.take n) lag (t.drop i) i acc,())
 |0,i,acc,h=>by
  obtain rfl:i=t.length:=by omega
  grind[a0H,a3r,b8C]
 |k+1,i,acc,h=>by
  have g:i<t.length:=by omega
  have f:decide ((i:Int)<3)=true:=by grind
  have p:l.length<1000000:=j;have d:(l.take n).length=n:=by simp_all
  have e:=c5F (n:=n) (i:=i) a b (by omega) (by omega);rw[a02 g,b8C,d]
  by_cases hp:0≤(n:Int)-lag-1+i
  have c:decide ((n:Int)-lag-1+i≥0)=true:=by simp_all
  simp only[hp,decide_true,cT];rw[c3f (show((n:Int)-lag-1+i).toNat<n by omega),a0I (s':=(l,(n:Int),lag,W (acc+W (t[i]*l.getD ((n:Int)-lag-1+i).toNat 0)),t,((i+1:Nat):Int),())) (by
   simp only[a3r,f,cT,a0B g,oB,e,c,b8D hp (show(n:Int)-lag-1+(i:Int)<(l.length:Int)by omega),a0C (show i<1000000 by omega)])]
  exact a7n m j o a b k (i+1) _ (by omega);have c:decide ((n:Int)-lag-1+i≥0)=false:=by simp_all
  simp[hp];rw[a0I (s':=(l,(n:Int),lag,acc,t,((i+1:Nat):Int),())) (by
   simp only[a3r,f,cT,a0B g,oB,e,c,cF,a0C (show i<1000000 by omega)])]
  exact a7n m j o a b k (i+1) _ (by omega)
theorem b0R{l t:List Int}{lag:Int}{n:Nat}(f:n≤l.length)(k:short l)(a:t.length=3)(h:2≤lag)(g:lag≤1024):
  a3C (l,(n:Int),lag,t)=some (a7E lag t (l.take n)):=by
 have:=a7n (t:=t) f k a h g 3 0 0 (by rfl)
 simp_all[a3C,a7E]
theorem b4T{out:List Int}(f:short out)(k:t.length=3)(h:2≤lag)(g:lag≤1024):a3C (out,(out.length:Int),lag,t)=some (a7E lag t out):=by
 simp_all[b0R]
def b0S(rest:List Int)(lag:Int)(t:List Int):Option (List Int):=bif rest.all a0A then a3w (a7E lag t) rest []else none
theorem b8E{rest:List Int}(d:a8Y lag t=true)(e:t.length=3)(m:rest.length<100000):a8K (rest,lag,t)=some (a4g (b0S rest lag t)):=by
 have g:=d;simp only[a8Y,bA,dT]at g;have k:short rest:=by unfold short;omega
 unfold a8K;simp only[b1h e,d,oB,bT,cF,b0P k,b0S];cases hw2:rest.all a0A with
 |false=>rfl
 |true=>
  have l:(0:Int)≤((rest.length:Nat):Int):=by omega
  simp[a0P k]
  have:=a1E (f:=a6N) rest (fun i out=>(lag,rest,(rest.length:Int),(i:Int),out,t,())) (b0Q (a7E lag t) (Sum.inr ((6:Int),([]:List Int),())))
   (fun i out=>out.length=i) (fun out=>Sum.inl (out,()))
   (fun i h out j=>by
    have b:i<1000000:=by omega
    have c:short out:=by unfold short;omega
    have hp:=b4T (out:=out) (t:=t) (lag:=lag) c e g.1 g.2.1;rw[j]at hp;simp only[a6N,dlt h,cT,a0B h,oB,hp,a6A,b0Q];cases hb:a0A (W (rest[i]+a7E lag t out))with
    |true=>
     simp only[cT,bT,cF,a0P (show out.length+1<1000000 by omega),a0C b];simp_all
    |false=>
     simp)
   (fun out _=>by simp[a6N]) (a:=[]) rfl
  simp[a9A]at this;rw[this];cases a3w (a7E lag t) rest []<;>rfl
def b4U{β:Type}(n:Int)(bad:β)(out:List Int)(x:Int):List Int ⊕ β:=bif a0A x&&a0A (A0n .i64 x n)then .inl (out++[A0n .i64 x n])else .inr bad
def upO(n:Int)(l:List Int):Option (List Int):=bif l.all (fun x=>a0A x&&a0A (A0n .i64 x n))then some (l.map fun x=>A0n .i64 x n)else none
theorem b3L{β:Type}(n:Int)(h:β)(g:List Int→β):∀(l out:List Int),a7m g (a2p (b4U n h) l out)=match upO n l with|some r=>g (out++r)|none=>h
 | [],out=>by simp[a2p,a7m,upO]
 |x::l,out=>by
  simp only[a2p,b4U,upO,a07];cases hx:(a0A x&&a0A (A0n .i64 x n))with
  |true=>
   simp only[cT,a38];rw[b3L n h g l _];simp only[upO];cases l.all (fun x=>a0A x&&a0A (A0n .i64 x n))with
   |true=>simp
   |false=>rfl
  |false=>rfl
theorem b8F(d:0≤n)(e:n≤30)(m:l.length<100000):a7t (l,n)=some (a4g (upO n l)):=by
 have c:short l:=by unfold short;omega
 have g:¬ n<0:=by omega
 have b:¬ n > 30:=by omega
 unfold a7t;simp[g,b]
 have:=a1E (f:=a6O) l (fun i out=>(n,l,(l.length:Int),(i:Int),out,())) (b4U n (Sum.inr ((6:Int),([]:List Int),())))
  (fun i out=>out.length=i) (fun out=>Sum.inl (out,()))
  (fun i h out j=>by
   have k:i<1000000:=by omega
   simp only[a6O,dlt h,cT,a0B h,oB,b1t,b4U,g,decide_false,cF];cases hb:a0A l[i]with
   |true=>
    cases hb2:a0A (A0n .i64 l[i] n)with
    |true=>
     simp only[cT,bT,cF,oB,g,decide_false,a0P (show out.length+1<1000000 by omega),a0C k,a03];simp_all
    |false=>
     simp
   |false=>
    simp)
  (fun out _=>by simp[a6O]) (a:=[]) rfl
 simp[b3L]at this;rw[this];cases upO n l<;>rfl
@[reducible] def Fil:Type:=Int×((List Int)×((List Int)×Unit))
def a1X(x:Int):Int:=v0s (v0r x (-1073741824)) 1073741823
def b4V(x:Int):Int:=v0s (v0r x (-1048576)) 1048576
theorem b8G(x:Int):-1048576≤b4V x∧b4V x≤1048576:=by
 grind[b4V,c1j,c5D]
def c2m:List Int→List Int→Int→Int
 |a::w,b::h,acc=>c2m w h (W (acc+W (a*b)))
 |_,_,acc=>acc
def a1a(f:Fil):Int:=a1X (A0o .i64 (c2m f.2.1 f.2.2.1 0) 16)
structure FilOk (f:Fil):Prop where
 len:f.2.1.length=f.2.2.1.length
 pos:1≤f.2.1.length
 most:f.2.1.length≤32
 rate:0≤f.1∧f.1≤8
 small:∀x∈f.2.1,-1048576≤x∧x≤1048576
theorem b4k(h:i<l.length):a85 l i 0=l[i]:=by
 simp_all
theorem a9T{f:Fil}(c:FilOk f):∀(k i:Nat)(acc:Int),i+k=f.2.1.length→
  y0s a2C (acc,(f.2.1.length:Int),(i:Int),f,())=some (c2m (f.2.1.drop i) (f.2.2.1.drop i) acc,f,())
 |0,i,acc,h=>by
  obtain rfl:i=f.2.1.length:=by omega
  rw[a49,a0H (b:=(acc,f,())) (by simp[a2C])];rfl
 |k+1,i,acc,h=>by
  have g:i<f.2.1.length:=by omega
  have a:i<f.2.2.1.length:=by rw[←c.len];omega
  have e:=c.most;rw[a02 g,a02 a,c2m];have d:decide ((0:Int)≤(i:Int))=true:=by simp
  rw[a0I (s':=(W (acc+W (f.2.1[i]*f.2.2.1[i])),(f.2.1.length:Int),((i+1:Nat):Int),f,())) (by
   simp only[a2C,dlt g,dlt a,d,cT,a03,tN,b4k g,b4k a,a0C (show i<1000000 by omega)])]
  exact a9T c k (i+1) _ (by omega)
theorem a5k{f:Fil}(h:FilOk f):a1H f=some (a1a f,f):=by
 have:=a9T h f.2.1.length 0 0 (by omega)
 simp at this;unfold a1H;simp only[this,oB,a4s];rfl
def b3t(x:Int):Int:=if 0<x then 1 else if x<0 then -1 else 0
def a8Z(r:Int)(x g:Int):Int:=b3t (x-g)*2^r.toNat
def b1S(st:Int)(w h:Int):Int:=b4V (W (w+b3t h*st))
def a9D(f:Fil)(x:Int):Fil:=
 (f.1,a30 (b1S (a8Z f.1 (a1X x) (a1a f))) f.2.1 f.2.2.1,a1X x::f.2.2.1.take (f.2.2.1.length-1),f.2.2.2)
theorem b8H{f:Fil}(k:FilOk f)(x:Int):FilOk (a9D f x):=by
 obtain⟨a,b,c,g,d⟩:=k;have e:(a30 (b1S (a8Z f.1 (a1X x) (a1a f))) f.2.1 f.2.2.1).length=f.2.1.length:=by simp_all
 refine⟨?_,?_,?_,g,?_⟩;show(a30 _ _ _).length=(a1X x::f.2.2.1.take (f.2.2.1.length-1)).length;simp_all;show 1≤(a30 _ _ _).length;omega;show(a30 _ _ _).length≤32;omega;intro y h;have h:y∈a30 (b1S (a8Z f.1 (a1X x) (a1a f))) f.2.1 f.2.2.1:=h;obtain⟨i,j,rfl⟩:=List.mem_iff_getElem.1 h
 simp
 exact b8G _
theorem b1i(x:Int):(0<x∧b3t x=1)∨(x<0∧b3t x=-1)∨(x=0∧b3t x=0):=by
 unfold b3t;omega
theorem b4l{r:Int}(h:0≤r∧r≤8):(2:Int)^r.toNat≤256∧1≤(2:Int)^r.toNat:=by
 have:r.toNat=0∨r.toNat=1∨r.toNat=2∨r.toNat=3∨r.toNat=4∨r.toNat=5∨r.toNat=6∨r.toNat=7∨r.toNat=8:=by omega
 rcases this with e|e|e|e|e|e|e|e|e<;>rw[e]<;>decide
theorem c3g{r:Int}(h:0≤r∧r≤8)(g:-1≤x∧x≤1):A0n .i64 x r=x*2^r.toNat:=by
 have hp:=b4l h;have hb:min r.toNat 64=r.toNat:=by omega
 unfold A0n;show wrap .i64 (x*2^(min r.toNat 64))=_;rw[hb]
 have:x=-1∨x=0∨x=1:=by omega
 rcases this with rfl|rfl|rfl
 all_goals grind[a0D]
theorem b7H{f:Fil}(a:FilOk f)(x:Int):
  (bif decide (a1X x > a1a f)then bif decide (f.1<0)then(none:Option (Int×Int×Fil×Unit))else some (a1X x,A0n .i64 (1:Int) f.1,f,())
   else bif decide (a1X x<a1a f)then bif decide (f.1<0)then none else some (a1X x,wrap .i64 (0-(A0n .i64 (1:Int) f.1)),f,())
   else some (a1X x,(0:Int),f,()))=some (a1X x,a8Z f.1 (a1X x) (a1a f),f,()):=by
 have d:¬ f.1<0:=by have:=a.rate;omega
 have hp:=b4l a.rate;have b:=c3g a.rate (x:=1) (by omega);rw[Int.one_mul]at b;rcases b1i (a1X x-a1a f)with⟨c,h⟩|⟨c,h⟩|⟨c,h⟩;have g:a1X x > a1a f:=by omega
 simp only[g,d,decide_true,decide_false,cT,cF,a8Z,h,Int.one_mul,b];have g:¬ a1X x > a1a f:=by omega
 have k:a1X x<a1a f:=by omega
 simp only[g,k,d,decide_true,decide_false,cT,cF,a8Z,h,b]
 grind[a0D]
 have g:¬ a1X x > a1a f:=by omega
 have k:¬ a1X x<a1a f:=by omega
 simp only[g,k,decide_false,cF,a8Z,h,Int.zero_mul]
theorem c4j{z:List Int}(f:i<l.length)(k:z.length=l.length):(z.take i++l.drop i).set i (z[i]'(by omega))=z.take (i+1)++l.drop (i+1):=by
 have h:(z.take i).length=i:=by grind
 have g:z.take (i+1)=z.take i++[z[i]'(by omega)]:=by simp
 rw[a70 _ _ (by omega),h,a55,a02 f,a58,g,aA];rfl
theorem c4k{z:List Int}(h:i<l.length)(g:z.length=l.length):a85 (z.take i++l.drop i) i 0=l[i]:=by
 grind
theorem c3h{f:Fil}(g:FilOk f)(h:i<f.2.1.length):-1048576≤f.2.1[i]∧f.2.1[i]≤1048576:=g.small _ (a05 h)
theorem b4W{f:Fil}(n:FilOk f){x1 st:Int}(u:-256≤st∧st≤256):
  y0s a1W (x1,st,(f.2.2.1.length:Int),(0:Int),f,())=some (x1,(f.1,a30 (b1S st) f.2.1 f.2.2.1,f.2.2),()):=by
 obtain⟨z,w⟩:∃z,a30 (b1S st) f.2.1 f.2.2.1=z:=⟨_,rfl⟩;have q:=n.len;have d:z.length=f.2.1.length:=by grind
 have v:=n.most
 have:=a2o (f:=a1W) (fun i=>(x1,st,(f.2.2.1.length:Int),(i:Int),(f.1,z.take i++f.2.1.drop i,f.2.2),()))
  f.2.2.1.length (b:=(x1,(f.1,z,f.2.2),())) (fun i p=>by
   have k:i<f.2.1.length:=by omega
   have j:decide ((0:Int)≤(i:Int))=true:=by simp
   have s:(z.take i++f.2.1.drop i).length=f.2.1.length:=by grind
   have g:decide ((i:Int)<((z.take i++f.2.1.drop i).length:Int))=true:=by simp_all
   have o:z[i]'(by omega)=b1S st f.2.1[i] f.2.2.1[i]:=by grind
   have t:=c3h n k;have h:=c4j k d;rw[o]at h;simp only[a1W,dlt p,j,g,cT,a03,tN,b4k p,c4k k d];rcases b1i f.2.2.1[i]with⟨m,a⟩|⟨m,a⟩|⟨m,a⟩;have c:f.2.2.1[i] > 0:=m;simp[b1S,a]at h;simp only[c,decide_true,cT,oB,j,g,a03,tN,a0C (show i<1000000 by omega)];exact congrArg (fun l=>some (Sum.inl (x1,st,(f.2.2.1.length:Int),((i+1:Nat):Int),(f.1,l,f.2.2),()))) h;have c:¬ f.2.2.1[i] > 0:=by omega
   have e:f.2.1[i]+-1*st=f.2.1[i]-st:=by omega
   simp only[b1S,a,e]at h;simp only[c,m,decide_true,decide_false,cT,cF,oB,j,g,a03,tN,a0C (show i<1000000 by omega)];exact congrArg (fun l=>some (Sum.inl (x1,st,(f.2.2.1.length:Int),((i+1:Nat):Int),(f.1,l,f.2.2),()))) h;have c:¬ f.2.2.1[i] > 0:=by omega
   have r:¬ f.2.2.1[i]<0:=by omega
   have e:W (f.2.1[i]+0*st)=f.2.1[i]:=by rw[Int.zero_mul,Int.add_zero];exact a0D (by omega)
   simp only[b1S,a,e]at h;simp only[c,r,decide_false,cF,oB,j,g,cT,a03,tN,a0C (show i<1000000 by omega)];exact congrArg (fun l=>some (Sum.inl (x1,st,(f.2.2.1.length:Int),((i+1:Nat):Int),(f.1,l,f.2.2),()))) h)
  (by
   simp_all[a47,a1W])
 simp_all
theorem c0L{f:Fil}(k:FilOk f)(x g:Int):-256≤a8Z f.1 x g∧a8Z f.1 x g≤256:=by
 have hp:=b4l k.rate;unfold a8Z;rcases b1i (x-g)with⟨-,h⟩|⟨-,h⟩|⟨-,h⟩<;>rw[h]<;>omega
theorem b2A{f:Fil}(h:FilOk f)(x:Int):a2G (f,x)=some (a9D f x):=by
 unfold a2G;have d:=b7H h x;simp only[a4s,oB,a5k h];have g:(bif decide (v0s (v0r x (-1073741824)) 1073741823 > a1a f)then bif decide (f.1<0)then(none:Option (Int×Int×Fil×Unit))else some (v0s (v0r x (-1073741824)) 1073741823,A0n .i64 (1:Int) f.1,f,())
   else bif decide (v0s (v0r x (-1073741824)) 1073741823<a1a f)then bif decide (f.1<0)then none else some (v0s (v0r x (-1073741824)) 1073741823,wrap .i64 (0-(A0n .i64 (1:Int) f.1)),f,())
   else some (v0s (v0r x (-1073741824)) 1073741823,(0:Int),f,()))=_:=d
 rw[g];simp only[oB,b4W h (c0L h _ _)];have i:f.2.2.1.length≥1:=by have:=h.pos;have:=h.len;omega
 have b:decide ((1:Int)≤((f.2.2.1.length:Nat):Int))=true:=by grind
 have e:p0h f.2.2.1 1 (f.2.2.1.length-1) f.2.2.1=f.2.2.1.take 1++f.2.2.1.take (f.2.2.1.length-1):=by
  simp_all[p0h]
 have j:(f.2.2.1.take 1++f.2.2.1.take (f.2.2.1.length-1)).length=f.2.2.1.length:=by simp_all
 have c:decide ((0:Int)<(((f.2.2.1.take 1++f.2.2.1.take (f.2.2.1.length-1)).length:Nat):Int))=true:=by grind
 simp only[b,cT,e,c];congr 1;have k:(f.2.2.1.take 1++f.2.2.1.take (f.2.2.1.length-1)).set 0 (a1X x)=a1X x::f.2.2.1.take (f.2.2.1.length-1):=by
  cases hc:f.2.2.1 with
  |nil=>simp_all
  |cons a l=>simp
 rw[k];rfl
@[reducible] def Stg:Type:=Int×(Int×Unit)
variable {st:List Stg}
theorem a6C{l:List Int}(h:short l):a0Y l=some l:=by
 have g:lim (0+l.length)=true:=a0P (by unfold short at h;omega);simp_all[a0Y,x0e]
def a8t(s:Stg):Fil:=(s.2.1,a00 s.1.toNat 0,a00 s.1.toNat 0,())
theorem c1k{s:Stg}(h:stageB s=true):FilOk (a8t s):=by
 simp[stageB]at h;refine⟨by rfl,by simp[a8t];omega,by simp[a8t];omega,⟨h.2.2.1,h.2.2.2⟩,fun x g=>?_⟩;simp_all[a8t]
theorem a9U{s:Stg}(h:stageB s=true):a7q s=some (a8t s,0):=by
 have g:=h;simp[stageB]at g;unfold a7q;have f:decide ((0:Int)≤s.1)=true:=by grind
 have k:decide (s.1≤s.1)=true:=by simp
 have a:lim s.1.toNat=true:=a0P (by omega);simp only[a8r,h,oB,bT,cF,f,k,a,a03,cT];rfl
def stO:List Int→List Int→Fil→Option (List Int)
 | [],done,_=>some done
 |r::rs,done,f=>bif a0A (W (a1a f+r))then stO rs (done++[W (a1a f+r)]) (a9D f (W (a1a f+r)))else none
theorem b1T:∀(l done:List Int)(f:Fil){r},stO l done f=some r→r.length=done.length+l.length
 | [],done,f,r,h=>by simp_all[stO]
 |x::l,done,f,r,h=>by
  simp[stO]at h;cases hw:a0A (W (a1a f+x))with
  |true=>rw[hw]at h;rw[b1T l _ _ h];grind
  |false=>simp_all
theorem b0T{done:List Int}(g:done.length=i)(h:i<row.length):a85 (done++row.drop i) i 0=row[i]:=by
 grind
theorem b8I{done:List Int}(g:done.length=i)(h:i<row.length)(y:Int):(done++row.drop i).set i y=(done++[y])++row.drop (i+1):=by
 rw[a70 _ _ (by omega),g,a55,a02 h,a58,aA];rfl
theorem b0U{row b4:List Int}{b5:Int}(e:short row):∀(k i:Nat)(done:List Int)(f:Fil),i+k=row.length→done.length=i→FilOk f→
  ∃z,y0s a4v ((row.length:Int),(i:Int),b4,b5,done++row.drop i,f,())=some z∧
   match stO (row.drop i) done f with
   |some r=>z=.inl (b4,b5,r,())
   |none=>∃q,z=.inr (([]:List Int),(6:Int),q,())
 |0,i,done,f,h,hd,hf=>by
  obtain rfl:i=row.length:=by omega
  rw[a49,a39];exact⟨_,a0H (b:=Sum.inl (b4,b5,done,())) (by simp[a4v]),rfl⟩
 |k+1,i,done,f,h,hd,hf=>by
  have g:i<row.length:=by omega
  have j:row.length<1000000:=e;have c:decide ((0:Int)≤(i:Int))=true:=by simp
  have l:(done++row.drop i).length=row.length:=by grind
  have d:decide ((i:Int)<(((done++row.drop i).length:Nat):Int))=true:=by simp_all
  have a:stO (row.drop i) done f=bif a0A (W (a1a f+row[i]))then stO (row.drop (i+1)) (done++[W (a1a f+row[i])]) (a9D f (W (a1a f+row[i])))else none:=by
   rw[a02 g];rfl
  rw[a];cases hw:a0A (W (a1a f+row[i]))with
  |true=>
   rw[a0I (s':=((row.length:Int),((i+1:Nat):Int),b4,b5,(done++[W (a1a f+row[i])])++row.drop (i+1),a9D f (W (a1a f+row[i])),())) (by
    simp only[a4v,dlt g,c,d,cT,a03,a5k hf,oB,tN,b0T hd g,a4m,hw,bT,cF,b2A hf,b8I hd g,a0C (show i<1000000 by omega)])]
   exact b0U e k (i+1) _ _ (by omega) (by simp_all) (b8H hf _)
  |false=>
   exact⟨_,a0H (b:=Sum.inr (([]:List Int),(6:Int),done++row.drop i,())) (by
    simp only[a4v,dlt g,c,d,cT,a03,a5k hf,oB,tN,b0T hd g,a4m,hw,a35]),_,rfl⟩
def lO:List Stg→List Int→Option (List Int)
 | [],row=>some row
 |s::r,row=>match stO row [] (a8t s)with
  |some row'=>lO r row'
  |none=>none
theorem c0M{s:Stg}{b4:List Int}(h:stageB s=true)(b:short row):
  ∃z,a6p k s (st,b4,(0:Int),row,())=some z∧match stO row [] (a8t s)with
   |some r=>z=.inl (st,b4,(0:Int),r,())
   |none=>∃q,z=.inr (.ret,st,([]:List Int),(6:Int),q,()):=by
 obtain⟨z,g,f⟩:=b0U (b4:=b4) (b5:=0) b row.length 0 [] (a8t s) (by omega) rfl (c1k h);simp at g f;unfold a6p;have a:((0:Int) != 0)=false:=rfl;simp[a9U h,g];cases hst:stO row [] (a8t s)with
 |some r=>
  simp_all
 |none=>
  grind
theorem b3M{st l:List Stg}{b4:List Int}(f:∀s∈l,stageB s=true):∀(n:Nat)(row:List Int),n≤l.length→short row→
  ∃z,l0f a6p l n (st,b4,(0:Int),row,())=some z∧match lO (l.take n).reverse row with
   |some r=>z=.inl (st,b4,(0:Int),r,())
   |none=>∃q,z=.inr (.ret,st,([]:List Int),(6:Int),q,())
 |0,row,_,_=>⟨_,rfl,rfl⟩
 |n+1,row,hn,hs=>by
  have h:n<l.length:=by omega
  obtain⟨z,a,g⟩:=c0M (st:=st) (k:=(n:Int)) (b4:=b4) (f _ (a05 h)) hs;have b:(l.take (n+1)).reverse=l[n]::(l.take n).reverse:=by simp
  simp[l0f,lG h,a,b,lO];cases hst:stO row [] (a8t l[n])with
  |some r=>
   rw[hst]at g;simp at g;subst g;exact b3M f n r (by omega) (by have:=b1T _ _ _ hst;unfold short at hs⊢;simp_all)
  |none=>
   grind
def a9j(rest:List Int)(st:List Stg):Option (List Int):=bif rest.all a0A then lO st.reverse rest else none
theorem b7I{rest:List Int}(a:a7v st=true)(c:rest.length<100000):a7Y (rest,st)=some (a4g (a9j rest st)):=by
 have f:=a;simp only[a7v,bA,dT]at f;have k:short st:=by unfold short;omega
 have h:short rest:=by unfold short;omega
 unfold a7Y;simp only[a9R k,a,oB,bT,cF,a9Q h,a9j];cases hw:rest.all a0A with
 |false=>rfl
 |true=>
  obtain⟨z,b,g⟩:=b3M (st:=st) (b4:=[]) (lA.1 f.2) st.length rest (a26 _) h;rw[a18]at g;simp[a6C h,a0P k,b];cases hst:lO st.reverse rest with
  |some r=>
   rw[hst]at g;simp at g;subst g;rfl
  |none=>
   rw[hst]at g;obtain⟨q,rfl⟩:=g;rfl
def a5l(n warm:Int):Bool:=decide (1≤n)&&(decide (n≤4096)&&(decide (0≤warm)&&decide (warm≤n)))
theorem a9V(n warm:Int):a6c (n,warm)=some (a5l n warm):=by
 grind[a6c,a5l]
theorem c6t(h:o≤8):1≤2^o∧2^o≤256:=by
 have:o=0∨o=1∨o=2∨o=3∨o=4∨o=5∨o=6∨o=7∨o=8:=by omega
 grind
theorem b8J(h:o≤64):A0o .i64 (N:Int) (o:Int)=((N / 2^o:Nat):Int):=by
 unfold A0o;show a77 (N:Int) (2^(min (o:Int).toNat 64))=_
 grind
theorem b4m(h:o≤64)(g:N*2^o<9223372036854775808):A0n .i64 (N:Int) (o:Int)=((N*2^o:Nat):Int):=by
 unfold A0n;show wrap .i64 ((N:Int)*2^(min (o:Int).toNat 64))=_
 grind[a0D]
def b1v(o N:Nat)(warm:Int):List Int:=
 if N%2^o=0∧warm≤((N / 2^o:Nat):Int)then(((N / 2^o:Nat):Int)-warm)::a00 (2^o-1) ((N / 2^o:Nat):Int)else[]
def a1z(order n warm:Int):List Int:=bif a5l n warm&&(decide (0≤order)&&decide (order≤8))then b1v order.toNat n.toNat warm else[]
theorem a1I(order n warm:Int):a2w (order,n,warm)=some (a1z order n warm):=by
 unfold a2w a1z;simp only[a9V,oB];cases hr:a5l n warm with
 |false=>rfl
 |true=>
  simp[a5l]at hr;simp only[bT,cF,a38]
  by_cases h1:order<0
  grind
  by_cases h2:order > 8
  grind
  obtain⟨o,rfl⟩:=a01 (show 0≤order by omega);obtain⟨N,rfl⟩:=a01 (show 0≤n by omega);have p:o≤8:=by omega
  have q:N≤4096:=by omega
  have hp:=c6t p;have m:N / 2^o*2^o≤N:=a75 N _;have l:(0:Int)≤(o:Int):=by omega
  have g8:(o:Int)≤8:=by omega
  simp only[h1,h2,l,g8,decide_true,decide_false,cF,cT,a03,oB,b8J (N:=N) (show o≤64 by omega),b4m (N:=N / 2^o) (show o≤64 by omega) (by omega),tN];have g:=a67 N (2^o);rw[a66]at g
  by_cases hm:N%2^o=0
  have k:(((N / 2^o*2^o:Nat):Int) != (N:Int))=false:=by simp_all
  by_cases hw:warm≤((N / 2^o:Nat):Int)
  have c:decide (((N / 2^o:Nat):Int)<warm)=false:=decide_eq_false (Int.not_lt.2 hw);have e:wrap .i64 (((N / 2^o:Nat):Int)-warm)=((N / 2^o:Nat):Int)-warm:=a0D (by have:=a31 N (2^o);omega);simp only[k,c,e,cF,oB,b1v,hm,hw,and_self,if_true];have d:A0n .i64 (1:Int) (o:Int)=((2^o:Nat):Int):=by have:=b4m (N:=1) (show o≤64 by omega) (by omega);simp_all
  have:=a2o (f:=a5v) (fun i=>((o:Int),((N / 2^o:Nat):Int),(((N / 2^o:Nat):Int)-warm)::a00 i ((N / 2^o:Nat):Int),())) (2^o-1)
   (b:=((((N / 2^o:Nat):Int)-warm)::a00 (2^o-1) ((N / 2^o:Nat):Int),())) (fun i r=>by
    have a:decide ((((((N / 2^o:Nat):Int)-warm)::a00 i ((N / 2^o:Nat):Int)).length:Int)<((2^o:Nat):Int))=true:=by
     grind
    have h:lim (((((N / 2^o:Nat):Int)-warm)::a00 i ((N / 2^o:Nat):Int)).length+1)=true:=a0P (by grind);have j:a00 i ((N / 2^o:Nat):Int)++[((N / 2^o:Nat):Int)]=a00 (i+1) ((N / 2^o:Nat):Int):=by grind[a52]
    simp only[a5v,h1,decide_false,cF,d,a,cT,h,a06,a63,j])
   (by
    have a:decide ((((((N / 2^o:Nat):Int)-warm)::a00 (2^o-1) ((N / 2^o:Nat):Int)).length:Int)<((2^o:Nat):Int))=false:=by
     simp_all
    simp only[a5v,h1,decide_false,cF,d,a])
  simp_all;have c:decide (((N / 2^o:Nat):Int)<warm)=true:=decide_eq_true (Int.not_le.1 hw);simp_all[b1v];have k:(((N / 2^o*2^o:Nat):Int) != (N:Int))=true:=by grind
  simp only[k,cT,oB,b1v,hm,false_and,if_false]
@[reducible] def Prt:Type:=Int×((List Int)×Unit)
variable {p:Prt}
def kB(k:Int):Bool:=(decide (0≤k)&&decide (k≤25)) || (k==31)
def a4D(p:Prt)(n warm:Int):Bool:=!((a1z p.1 n warm).length==0)&&((a1z p.1 n warm).length==p.2.1.length&&p.2.1.all kB)
theorem a9W(g:short p.2.1):a7r (p,n,warm)=some (a4D p n warm):=by
 have:=a1p (f:=a3D) p.2.1 (fun i=>(p.2.1,(p.2.1.length:Int),(i:Int),())) kB (bt:=Sum.inl ()) (bf:=Sum.inr (false,()))
  (fun i h hp=>by
   simp[kB]at hp
   by_cases h1:p.2.1[i]<0
   omega
   by_cases h2:p.2.1[i] > 25
   have b:p.2.1[i]=31:=by omega
   have a:(p.2.1[i] != 31)=false:=by simp_all
   simp[a3D,a0B h,h,h1,h2,a,a0C (a17 h g)];simp[a3D,a0B h,h,h1,h2,a0C (a17 h g)])
  (fun i h hp=>by
   have hp:¬ (kB p.2.1[i]=true):=by simp_all
   simp only[kB,a97,bA,dT,beq_iff_eq]at hp
   grind[a3D,a0B])
  (by simp[a3D])
 simp at this;unfold a7r a4D;simp[a1I]
 by_cases h0:(a1z p.1 n warm).length=0
 simp_all
 ·have e:((((a1z p.1 n warm).length:Nat):Int)==0)=false:=by simp_all
  have k:((a1z p.1 n warm).length==0)=false:=by simp_all
  simp[e,k]
  by_cases h1:(a1z p.1 n warm).length=p.2.1.length
  all_goals grind
@[reducible] def Sub:Type:=Int×(Int×(Int×(Int×(Int×((List Int)×((List Int)×((List Stg)×((List Int)×(Prt×((List Int)×Unit))))))))))
variable {s:Sub}
structure SmallS (s:Sub):Prop where
 coefs:s.2.2.2.2.2.1.length≤40
 taps:s.2.2.2.2.2.2.1.length=3
 stages:s.2.2.2.2.2.2.2.1.length≤6
 warm:s.2.2.2.2.2.2.2.2.1.length≤5000
 rest:s.2.2.2.2.2.2.2.2.2.2.1.length≤5000
 ks:s.2.2.2.2.2.2.2.2.2.1.2.1.length≤300
theorem a9X(x y:List Int):eqT (.arr 3 (.int .i64)) x y=decide (x=y):=by
 show((a30 (fun(a b:Int)=>a==b) x y).all id&&x.length==y.length)=_
 induction x generalizing y with
 |nil=>cases y<;>simp
 |cons a x ih=>
  cases y with
  |nil=>simp
  |cons b y=>
   grind[List.zipWith_cons_cons]
theorem b1U{l:List Int}(h:short l):a3k l=some l:=a6C h
theorem b3N{l:List Stg}(h:short l):a1d l=some l:=by
 have g:lim (0+l.length)=true:=a0P (by unfold short at h;omega);simp_all[a1d,x0e]
def a3o(k:Int)(s:Sub)(n:Int):Prop:=
 k=0∨k=1∨(k=2∧0≤s.2.2.1∧s.2.2.1≤4∧s.2.2.1≤n)∨(k=3∧a7I s.2.2.2.2.2.1 s.2.2.2.1=true∧(s.2.2.2.2.2.1.length:Int)≤n)∨
  (k=4∧a7I s.2.2.2.2.2.1 s.2.2.2.1=true∧(s.2.2.2.2.2.1.length:Int)≤n∧a8Y s.2.2.2.2.1 s.2.2.2.2.2.2.1=true)∨
  (k=5∧0<s.2.2.2.2.2.2.2.1.length∧a7v s.2.2.2.2.2.2.2.1=true)
open Classical in
def a9Y (k:Int) (s:Sub) (n:Int):Bool:=decide (a3o k s n)
theorem b1w{s:Sub}(h:SmallS s)(k n:Int):a6u (k,s,n)=some (a9Y k s n):=by
 have a:short s.2.2.2.2.2.1:=by have:=h.coefs;unfold short;omega
 have b:short s.2.2.2.2.2.2.2.1:=by have:=h.stages;unfold short;omega
 unfold a6u a9Y a3o
 by_cases k0:k=0
 simp_all
 by_cases k1:k=1
 simp_all;have g:(k==0)=false:=by grind
 have f:(k==1)=false:=by grind
 simp only[g,f,cF,oB]
 by_cases k2:k=2
 subst k2
 grind
 by_cases k3:k=3
 subst k3
 grind[a7D]
 by_cases k4:k=4
 subst k4;cases hl:a7I s.2.2.2.2.2.1 s.2.2.2.1<;>by_cases h2:(s.2.2.2.2.2.1.length:Int)≤n<;>simp[a7D a,b1h h.taps,hl,h2]
 by_cases k5:k=5
 ·subst k5
  by_cases h1:0<s.2.2.2.2.2.2.2.1.length
  all_goals simp_all[a9R]
 grind
def a1R(s:Sub)(n:Int):Int:=if s.1=0 then 1 else if s.1=1 then n else if s.1=2 then s.2.2.1 else if s.1=3∨s.1=4 then(s.2.2.2.2.2.1.length:Int)else 0
theorem a9k(s:Sub)(n:Int):a3L (s,n)=some (a1R s n):=by
 grind[a3L,a1R]
def b1x(s:Sub):Prop:=
 (s.1≠2→s.2.2.1=0)∧(s.1≠3∧s.1≠4→s.2.2.2.1=0)∧(s.1≠4→s.2.2.2.2.1=0)∧(s.1≠4→s.2.2.2.2.2.2.1=[0,0,0])∧(s.1≠3∧s.1≠4→s.2.2.2.2.2.1=[])∧(s.1≠5→s.2.2.2.2.2.2.2.1=[])
open Classical in
def b1y (s:Sub):Bool:=decide (b1x s)
theorem a8u{c x:Bool}:(bif c then some x else some false)=some (c&&x):=by grind
theorem c6u{α:Type}(l:List α):(((l.length:Nat):Int)==0)=decide (l=[]):=by
 cases l with
 |nil=>rfl
 |cons a l=>rfl
theorem b6m(x:Int):(x==0)=decide (x=0):=rfl
theorem b8K{s:Sub}(h:SmallS s):a8J s=some (b1y s):=by
 have e:short s.2.2.2.2.2.1:=by have:=h.coefs;unfold short;omega
 have g:short s.2.2.2.2.2.2.2.1:=by have:=h.stages;unfold short;omega
 obtain⟨k,w,o,sh,lag,c,t,st,j,p,r,u⟩:=s;simp only at e g;unfold a8J a4X b1y b1x;have i:(a00 3 (0:Int))=[0,0,0]:=rfl
 by_cases k2:k=2
 simp_all[a9X,a8u,b6m]
 by_cases k4:k=4
 simp_all[a9X,a8u,b6m,b1U]
 by_cases k3:k=3
 simp_all[a9X,a8u,b6m,b1U]
 by_cases k5:k=5
 simp_all[a9X,a8u,b6m,b3N];have f:(k==2)=false:=by grind
 have a:(k==3)=false:=by grind
 have b:(k==4)=false:=by grind
 have d:(k==5)=false:=by grind
 simp[f,a,b,d,k2,k3,k4,k5,a9X,i,a8u,c6u,b6m]
theorem a5q(k:Int):a5a k=some (decide (k≠0∧k≠1)):=by
 unfold a5a
 by_cases h0:k=0
 simp_all
 ·by_cases h1:k=1
  all_goals grind
def a1k(s:Sub)(n:Int):Prop:=
 1≤n∧n≤4096∧a3o s.1 s n∧b1x s∧0≤s.2.1∧s.2.1≤30∧(s.1=0→s.2.1=0)∧(s.2.2.2.2.2.2.2.2.1.length:Int)=a1R s n∧s.2.2.2.2.2.2.2.2.1.all a0A=true∧s.2.2.2.2.2.2.2.2.2.2.1.all a0A=true∧
  (s.1=0∨s.1=1→s.2.2.2.2.2.2.2.2.2.2.1=[]∧s.2.2.2.2.2.2.2.2.2.1.1=0∧s.2.2.2.2.2.2.2.2.2.1.2.1=[])∧
  (s.1≠0∧s.1≠1→(s.2.2.2.2.2.2.2.2.2.2.1.length:Int)=n-a1R s n∧a4D s.2.2.2.2.2.2.2.2.2.1 n (a1R s n)=true)
theorem c0N(h:SmallS s)(a:1≤n)(b:n≤4096)(f:a3o s.1 s n):0≤a1R s n∧a1R s n≤4096:=by
 have c:=h.coefs;unfold a1R;rcases f with k|k|⟨k,g⟩|⟨k,g⟩|⟨k,g⟩|⟨k,g⟩<;>simp[k]<;>omega
open Classical in
theorem c3i {s:Sub} (h:SmallS s) (n:Int):a7W (s,n)=some (decide (a1k s n)):=by
 have hw:short s.2.2.2.2.2.2.2.2.1:=by have:=h.warm;unfold short;omega
 have hr:short s.2.2.2.2.2.2.2.2.2.2.1:=by have:=h.rest;unfold short;omega
 have hk:short s.2.2.2.2.2.2.2.2.2.1.2.1:=by have:=h.ks;unfold short;omega
 unfold a7W
 by_cases h1:1≤n
 rotate_left
 ·have e1:decide (n<1)=true:=by simp_all
  have:¬ a1k s n:=fun hp=>h1 hp.1
  simp_all
 have e1:decide (n<1)=false:=by simp_all
 by_cases h2:n≤4096
 rotate_left
 ·have e2:decide (n > 4096)=true:=by simp_all
  have:¬ a1k s n:=fun hp=>h2 hp.2.1
  simp_all
 have e2:decide (n > 4096)=false:=by simp_all
 by_cases h3:a3o s.1 s n
 rotate_left
 ·have e3:a9Y s.1 s n=false:=by simp[a9Y,h3]
  have:¬ a1k s n:=fun hp=>h3 hp.2.2.1
  simp_all[b1w]
 have e3:a9Y s.1 s n=true:=by simp[a9Y,h3]
 by_cases h4:b1x s
 rotate_left
 ·have e4:b1y s=false:=by simp[b1y,h4]
  have:¬ a1k s n:=fun hp=>h4 hp.2.2.2.1
  simp_all[b1w,b8K]
 have e4:b1y s=true:=by simp[b1y,h4]
 simp only[e1,e2,b1w h,e3,b8K h,e4,cF,bT,oB]
 by_cases h5:0≤s.2.1
 rotate_left
 ·have e5:decide (s.2.1<0)=true:=by simp_all
  have:¬ a1k s n:=fun hp=>h5 hp.2.2.2.2.1
  simp_all
 have e5:decide (s.2.1<0)=false:=by simp_all
 by_cases h6:s.2.1≤30
 rotate_left
 ·have e6:decide (s.2.1 > 30)=true:=by simp_all
  have:¬ a1k s n:=fun hp=>h6 hp.2.2.2.2.2.1
  simp_all
 have e6:decide (s.2.1 > 30)=false:=by simp_all
 simp only[e5,e6,cF]
 by_cases h7:s.1=0→s.2.1=0
 rotate_left
 ·have h7a:s.1=0:=Classical.byContradiction fun hc=>h7 fun e=>absurd e hc
  have h7b:(s.2.1 != 0)=true:=by
   simp_all
  have e7:(s.1==0)=true:=by simp_all
  have:¬ a1k s n:=fun hp=>h7 hp.2.2.2.2.2.2.1
  grind
 have e7:(bif s.1==0 then some (n,(s.2.1 != 0,(s,())))else some (n,(false,(s,()))))=some (n,(false,(s,()))):=by
  grind
 simp only[e7,oB,cF,a9k]
 by_cases h8:(s.2.2.2.2.2.2.2.2.1.length:Int)=a1R s n
 rotate_left
 ·have e8:(((s.2.2.2.2.2.2.2.2.1.length:Nat):Int) != a1R s n)=true:=by simp_all
  have:¬ a1k s n:=fun hp=>h8 hp.2.2.2.2.2.2.2.1
  grind
 have e8:(((s.2.2.2.2.2.2.2.2.1.length:Nat):Int) != a1R s n)=false:=by simp_all
 simp only[e8,cF,a3J hw,a3J hr,oB]
 cases h9:s.2.2.2.2.2.2.2.2.1.all a0A with
 |false=>
  have:¬ a1k s n:=fun hp=>by rw[hp.2.2.2.2.2.2.2.2.1]at h9;grind
  simp_all
 |true=>
  cases h10:s.2.2.2.2.2.2.2.2.2.2.1.all a0A with
  |false=>
   have:¬ a1k s n:=fun hp=>by rw[hp.2.2.2.2.2.2.2.2.2.1]at h10;grind
   simp_all
  |true=>
   simp only[bT,cF,oB,a5q]
   have hwr:=c0N h h1 h2 h3
   by_cases k01:s.1≠0∧s.1≠1
   ·have e11:wrap .i64 (n-a1R s n)=n-a1R s n:=a0D (by omega)
    simp[k01,e11,a9W hk]
    by_cases h11:(s.2.2.2.2.2.2.2.2.2.2.1.length:Int)=n-a1R s n
    ·have e12:(((s.2.2.2.2.2.2.2.2.2.2.1.length:Nat):Int)==n-a1R s n)=true:=by simp_all
     simp only[e12,cT]
     congr 1
     rw[a98,dT]
     constructor
     ·intro hp
      exact⟨h1,h2,h3,h4,h5,h6,h7,h8,h9,h10,fun hc=>absurd hc (by omega),fun _=>⟨h11,hp⟩⟩
     ·intro hp;exact(hp.2.2.2.2.2.2.2.2.2.2.2 k01).2
    ·have e12:(((s.2.2.2.2.2.2.2.2.2.2.1.length:Nat):Int)==n-a1R s n)=false:=by simp_all
     have:¬ a1k s n:=fun hp=>h11 (hp.2.2.2.2.2.2.2.2.2.2.2 k01).1
     grind
   ·have k01':s.1=0∨s.1=1:=by omega
    simp[k01,c6u]
    simp only[b6m,a8u]
    congr 1
    rw[a98,dT]
    simp
    constructor
    ·rintro⟨g1,g2,g3⟩
     exact⟨h1,h2,h3,h4,h5,h6,h7,h8,h9,h10,fun _=>⟨g1,g2,g3⟩,fun hc=>absurd hc k01⟩
    ·intro hp;exact hp.2.2.2.2.2.2.2.2.2.2.1 k01'
theorem b4X{α:Type}[DecidableEq α](q:α→α→Bool)(g:∀a b,q a b=decide (a=b)):∀(x y:List α),x.length=y.length→((x.zip y).all fun p=>q p.1 p.2)=decide (x=y)
 | [],[],_=>by simp
 |a::x,b::y,h=>by
  have f:=b4X q g x y (by simp_all);simp_all
theorem c0O{x y:List Int}(h:short x):a2y (x,y)=some (decide (x=y)):=by
 unfold a2y
 by_cases hl:x.length=y.length
 have e:(((x.length:Nat):Int) != ((y.length:Nat):Int))=false:=by simp_all
 have l:(x.zip y).length=x.length:=by simp_all
 have:=a1p (f:=a3U) (x.zip y) (fun i=>(x,y,(i:Int),())) (fun p=>p.1==p.2) (bt:=Sum.inl ()) (bf:=Sum.inr (false,()))
  (fun i d hp=>by
   have k:i<x.length:=by omega
   have c:i<y.length:=by omega
   rw[a89]at hp;have hp:x[i]=y[i]:=by simp_all
   have g:(x[i] != y[i])=false:=by simp_all
   simp only[a3U,dlt k,cT,a0B k,a0B c,oB,g,cF,a0C (a17 k h)])
  (fun i d hp=>by
   have k:i<x.length:=by omega
   have c:i<y.length:=by omega
   rw[a89]at hp;have g:(x[i] != y[i])=true:=by simp_all
   simp only[a3U,dlt k,cT,a0B k,a0B c,oB,g])
  (by simp_all[a3U])
 simp at this;simp only[e,cF,this,b4X (fun(a b:Int)=>a==b) (fun _ _=>rfl) x y hl]
 grind
 have e:(((x.length:Nat):Int) != ((y.length:Nat):Int))=true:=by grind
 have:¬ x=y:=fun j=>hl (by grind)
 grind
theorem c3j(h:a3o k s n):k=0∨k=1∨k=2∨k=3∨k=4∨k=5:=by
 unfold a3o at h;omega
def b4n(warm rest:List Int)(o:Int):Option (List Int):=bif warm.all a0A&&rest.all a0A then a3w (a5j o.toNat) rest warm else none
def backP(s:Sub):Option (List Int):=
 if s.1=1 then some s.2.2.2.2.2.2.2.2.1
 else if s.1=2 then b4n s.2.2.2.2.2.2.2.2.1 s.2.2.2.2.2.2.2.2.2.2.1 s.2.2.1
 else if s.1=3 then a9S s.2.2.2.2.2.2.2.2.1 s.2.2.2.2.2.2.2.2.2.2.1 s.2.2.2.2.2.1 s.2.2.2.1
 else if s.1=4 then(a9S s.2.2.2.2.2.2.2.2.1 s.2.2.2.2.2.2.2.2.2.2.1 s.2.2.2.2.2.1 s.2.2.2.1).bind fun l=>b0S l s.2.2.2.2.1 s.2.2.2.2.2.2.1
 else a9j s.2.2.2.2.2.2.2.2.2.2.1 s.2.2.2.2.2.2.2.1
def b8L(s:Sub)(n:Int):Option (List Int):=
 if s.1=0 then some (a00 n.toNat (s.2.2.2.2.2.2.2.2.1.getD 0 0))else(backP s).bind (upO s.2.1)
theorem b1j{w r c:List Int}{s:Int}{l}(h:a9S w r c s=some l):l.length=w.length+r.length:=by
 unfold a9S at h;cases hc:(w.all a0A&&r.all a0A)with
 |false=>simp_all
 |true=>
  rw[hc]at h;exact(a9B _ r w l (a73.1 hc).1 h).2
theorem c0P{w r:List Int}{o:Int}{l}(h:b4n w r o=some l):l.length=w.length+r.length:=by
 unfold b4n at h;cases hc:(w.all a0A&&r.all a0A)with
 |false=>simp_all
 |true=>
  rw[hc]at h;exact(a9B _ r w l (a73.1 hc).1 h).2
theorem b8M{l}(h:b0S r lag t=some l):l.length=r.length:=by
 unfold b0S at h;cases hc:r.all a0A with
 |false=>simp_all
 |true=>
  rw[hc]at h
  have:=(a9B _ r [] l rfl h).2
  simp_all
theorem b6D:∀(st:List Stg)(r:List Int){l},lO st r=some l→l.length=r.length
 | [],r,l,h=>by simp_all[lO]
 |s::st,r,l,h=>by
  simp only[lO]at h
  split at h
  rename_i f g;rw[b6D st f h,b1T _ _ _ g];simp;cases h
theorem b7J{r:List Int}{st:List Stg}{l}(h:a9j r st=some l):l.length=r.length:=by
 grind[a9j,b6D]
theorem b8N(h:SmallS s){l}(g:backP s=some l):l.length<100000:=by
 have b:=h.warm;have a:=h.rest;unfold backP at g
 split at g
 grind
 split at g
 grind[c0P]
 split at g
 grind[b1j]
 split at g
 obtain⟨l1,f,k⟩:=a43.1 g;rw[b8M k,b1j f];omega
 grind[b7J]
theorem c3k(c:1≤n)(d:n≤4096)(e:s.2.2.2.2.2.2.2.2.1.length=1):
  y0s a5L (n,(0:Int),([]:List Int),s,())=some (a00 n.toNat (s.2.2.2.2.2.2.2.2.1.getD 0 0),()):=by
 obtain⟨N,rfl⟩:=a01 (show 0≤n by omega);have k:m0k s.2.2.2.2.2.2.2.2.1 (0:Int)=some (s.2.2.2.2.2.2.2.2.1.getD 0 0):=b8D (by omega) (by omega)
 have:=a2o (f:=a5L) (fun i=>((N:Int),(i:Int),a00 i (s.2.2.2.2.2.2.2.2.1.getD 0 0),s,())) N
  (b:=(a00 N (s.2.2.2.2.2.2.2.2.1.getD 0 0),())) (fun i a=>by
   have h:lim ((a00 i (s.2.2.2.2.2.2.2.2.1.getD 0 0)).length+1)=true:=a0P (by grind);have g:a00 i (s.2.2.2.2.2.2.2.2.1.getD 0 0)++[s.2.2.2.2.2.2.2.2.1.getD 0 0]=a00 (i+1) (s.2.2.2.2.2.2.2.2.1.getD 0 0):=by grind[a52]
   simp only[a5L,dlt a,cT,k,oB,h,a06,g,a0C (show i<1000000 by omega)])
  (by simp[a5L])
 simp_all
theorem c0Q(h:SmallS s)(hp:a1k s n):a9u (s,n)=some (a4g (b8L s n)):=by
 have a:=fun l (d:backP s=some l)=>b8N h d;obtain⟨z,A,C,-,x,v,-,g,K,I,-⟩:=hp;have F:=h.rest;have G:=h.warm;have H:=h.taps;have D:=c3k (s:=s) z A;obtain⟨k,w,o,sh,lag,c,t,st,f,p,r,u⟩:=s;simp only at *;have L:∀l,l.length<100000→a7t (l,w)=some (a4g (upO w l)):=fun l d=>b8F x v d;unfold a9u b8L;rcases C with b|b|⟨b,j,m,y⟩|⟨b,j,m⟩|⟨b,j,m,y⟩|⟨b,j,m⟩
 grind[a1R,a4g]
 simp_all[backP]
 ·subst b;obtain⟨O,rfl⟩:=a01 j;have m:(O:Int)≤4:=m;simp only[a1R]at g;have q:f.length=O:=by grind
  have i:=b7G (warm:=f) (rest:=r) (o:=O) (by omega) q (by omega);simp only[backP]at a⊢;simp[i];have e:(bif f.all a0A&&r.all a0A then a3w (a5j O) r f else none)=b4n f r (O:Int):=rfl;rw[e];cases d:b4n f r (O:Int)with
  |none=>rfl
  |some l=>simp_all[a4g]
 ·subst b;simp only[a1R]at g;have q:f.length=c.length:=by grind
  have i:=b1u (rest:=r) j q (by omega);simp only[backP]at a⊢;simp[i];cases d:a9S f r c sh with
  |none=>rfl
  |some l=>simp_all[a4g]
 ·subst b;simp only[a1R]at g;have q:f.length=c.length:=by grind
  have i:=b1u (rest:=r) j q (by omega);simp only[backP]at a⊢;simp[i];cases d:a9S f r c sh with
  |none=>rfl
  |some l=>
   have E:=b1j d;have B:=b8E (rest:=l) y H (by omega);simp[a4g,B]
   grind[a4g]
 ·subst b;have i:=b7I (rest:=r) m (by omega);simp only[backP]at a⊢;simp[i];cases d:a9j r st with
  |none=>rfl
  |some l=>simp_all[a4g]
open Classical in
def a1P (s:Sub) (n:Int):Option (List Int):=if a1k s n then b8L s n else none
theorem b4Y(h:SmallS s)(n:Int):a9f (s,n)=some (match a1P s n with|some r=>(r,0)|none=>([],1)):=by
 unfold a9f a1P;simp only[c3i h,oB]
 by_cases hp:a1k s n
 simp[hp,c0Q h hp]
 grind[a4g]
 simp_all
theorem b4Z(h:SmallS s)(n:Int):a7M (s,n)=some (a1P s n).isSome:=by
 unfold a7M;simp only[b4Y h,oB];cases a1P s n<;>rfl
@[reducible] def Wr:Type:=(List Int)×(Int×Unit)
def b6n(w:Wr)(b:Int):Wr:=
 let bs:=if w.2.1%8=0 then w.1++[0]else w.1
 (bs.set (w.2.1 / 8).toNat (bits .u8 .or (bs.getD (w.2.1 / 8).toNat 0) (A0n .u8 b (7-w.2.1%8))),w.2.1+1,())
def wL(L:List Int):Wr:=L.foldl b6n ([],0,())
theorem b6o(L:List Int)(b:Int):wL (L++[b])=b6n (wL L) b:=by simp[wL]
theorem b5a:∀(n:Nat)(L:List Int),L.length=n→(wL L).2.1=L.length∧(wL L).1.length=(L.length+7) / 8
 |0,L,h=>by
  rw[a44.1 h];exact⟨rfl,rfl⟩
 |n+1,L,h=>by
  obtain⟨g,b,rfl⟩:∃g b,L=g++[b]:=by
   rcases a50 L with rfl|⟨g,b,e⟩
   all_goals simp_all
  obtain⟨f,k⟩:=b5a n g (by simp_all);rw[b6o];simp only[b6n,List.length_set,lN,a71,f]
  grind
theorem a4L(L:List Int):(wL L).2.1=L.length∧(wL L).1.length=(L.length+7) / 8:=b5a _ L rfl
theorem b5b{L:List Int}(l:L.length<1000000000)(b:Int):a1L (wL L,b)=some (wL (L++[b])):=by
 obtain⟨g,k⟩:=a4L L;have p:a25 ((L.length:Nat):Int) 8=((L.length:Nat):Int)%8:=a42 (by omega);have m:a53 ((L.length:Nat):Int) 8=((L.length:Nat):Int) / 8:=a59 (by omega);have c:wrap .i64 (((L.length:Nat):Int) / 8)=((L.length:Nat):Int) / 8:=a0D (by omega);have d:wrap .i64 (7-((L.length:Nat):Int)%8)=7-((L.length:Nat):Int)%8:=a0D (by omega);have e:wrap .i64 (((L.length:Nat):Int)+1)=((L.length:Nat):Int)+1:=a0D (by omega);have i:decide ((0:Int)≤((L.length:Nat):Int) / 8)=true:=by rfl
 have j:decide (7-((L.length:Nat):Int)%8<0)=false:=by grind
 rw[b6o];generalize wL L=wr at g k⊢;obtain⟨f,n,u⟩:=wr;have g:n=((L.length:Nat):Int):=g;have k:f.length=(L.length+7) / 8:=k;subst g;unfold a1L b6n
 by_cases h:((L.length:Nat):Int)%8=0
 have hb:(((L.length:Nat):Int)%8==0)=true:=by grind
 have o:lim (f.length+1)=true:=a1c (by omega);have a:decide (((L.length:Nat):Int) / 8<(((f++[0]).length:Nat):Int))=true:=by grind
 simp_all
 grind
def a5D(v:Int)(i:Nat):Int:=wrap .u8 (bits .u64 .and (A0o .u64 v (i:Int)) 1)
def pb(v:Int):Nat→List Int
 |0=>[]
 |i+1=>a5D v i::pb v i
theorem b0V(v:Int):∀n,(pb v n).length=n
 |0=>rfl
 |n+1=>by simp[pb,b0V v n]
def a0L(v:Int)(n:Nat)(L:List Int):List Int:=bif A0o .u64 v (n:Int) != 0 then L else L++pb v n
theorem a0Q(v:Int)(n:Nat)(L:List Int):L.length≤(a0L v n L).length∧(a0L v n L).length≤L.length+n:=by
 grind[a0L,b0V]
def a6D(v:Int)(n:Nat):Int:=bif A0o .u64 v (n:Int) != 0 then 1 else 0
theorem b8O{v:Int}:∀(n:Nat)(L:List Int),L.length+n<1000000000→y0s a3u (v,(n:Int)-1,wL L,())=some (wL (L++pb v n),())
 |0,L,_=>by simp_all[a0H,a3u,pb]
 |n+1,L,h=>by
  have e:((n+1:Nat):Int)-1=(n:Int):=by omega
  have g:wrap .i64 ((n:Int)-1)=(n:Int)-1:=a0D (by omega);have f:decide ((n:Int)≥0)=true:=by simp
  have k:decide ((n:Int)<0)=false:=by simp
  rw[e,a0I (s':=(v,(n:Int)-1,wL (L++[a5D v n]),())) (by
   simp only[a3u,f,k,cT,cF,show wrap .u8 (bits .u64 .and (A0o .u64 v (n:Int)) 1)=a5D v n from rfl,b5b (show L.length<1000000000 by omega),oB,g])]
  rw[b8O n (L++[a5D v n]) (by simp;omega),pb]
  simp
theorem a2K{v:Int}{n:Nat}(a:n≤63)(k:L.length<999999000):a0E (wL L,v,(n:Int))=some (a6D v n,wL (a0L v n L)):=by
 unfold a0E a6D a0L;have g:decide ((n:Int)<0)=false:=by simp
 have f:decide ((n:Int) > 64)=false:=by grind
 have h:wrap .i64 ((n:Int)-1)=(n:Int)-1:=a0D (by omega);simp[g,f];cases (A0o .u64 v (n:Int) != 0)with
 |true=>rfl
 |false=>simp only[cF,h,b8O n L (by omega),oB]
def unL(n:Nat)(L:List Int):List Int:=L++a00 n 0++[1]
theorem b8P{n:Nat}(d:n≤4096)(c:L.length<999990000):a1U (wL L,(n:Int))=some (0,wL (unL n L)):=by
 unfold a1U unL;have g:decide ((n:Int)<0)=false:=by simp
 have k:decide ((n:Int) > 4096)=false:=by grind
 simp only[g,k,cF,oB]
 have:=a2o (f:=a2O) (fun i=>((n:Int),(i:Int),wL (L++a00 i 0),())) n (b:=(wL (L++a00 n 0),())) (fun i a=>by
   have h:L++a00 i (0:Int)++[0]=L++a00 (i+1) 0:=by simp_all[a52]
   simp only[a2O,dlt a,cT,b5b (show(L++a00 i (0:Int)).length<1000000000 by grind),oB,h,a0C (show i<1000000 by omega)])
  (by simp[a2O])
 grind[b5b]
theorem a8h(n:Nat)(L:List Int):(unL n L).length=L.length+n+1:=by simp[unL];rfl
def a0R(x:Int)(n:Nat):Int:=bits .u64 .and (wrap .u64 x) (wrap .u64 ((A0n .u64 1 (n:Int))-1))
def a1w(n:Nat)(l:List Int)(L:List Int):List Int:=l.foldl (fun L x=>a0L (a0R x n) n L) L
theorem a5m(n:Nat):∀(l L:List Int),L.length≤(a1w n l L).length∧(a1w n l L).length≤L.length+n*l.length
 | [],L=>by simp[a1w]
 |x::l,L=>by
  have h:=a0Q (a0R x n) n L;have g:=a5m n l (a0L (a0R x n) n L);have e:a1w n (x::l) L=a1w n l (a0L (a0R x n) n L):=rfl;rw[e,lC,a90,a91];omega
theorem a9Z{n:Nat}(f:n≤63)(g:L.length<999999000):a2m (wL L,x,(n:Int))=some (wL (a0L (a0R x n) n L)):=by
 unfold a2m;have h:decide ((n:Int)<0)=false:=by simp
 simp only[h,cF,show bits .u64 .and (wrap .u64 x) (wrap .u64 ((A0n .u64 1 (n:Int))-1))=a0R x n from rfl,a2K f g,oB]
def a1r(x w:Int):Bool:=decide (1≤w)&&(decide (w≤31)&&(decide (A0n .i64 (-1) (w-1)≤x)&&decide (x≤wrap .i64 (A0n .i64 1 (w-1)-1))))
theorem a5n(a:w≤32):a3l (x,(w:Int))=some (a1r x w):=by
 unfold a3l a1r a9O a9q
 by_cases h1:1≤(w:Int)
 by_cases h2:(w:Int)≤31
 have h:decide ((w:Int)<1)=false:=by simp_all
 have g:decide ((w:Int) > 31)=false:=by simp_all
 have e:wrap .i64 ((w:Int)-1)=(w:Int)-1:=a0D (by omega);have f:decide ((w:Int)-1<0)=false:=by simp_all
 have k:decide ((w:Int)≥1)=true:=by simp_all
 simp[h1,h2,h,g,f,e]
 grind
 grind
 grind
theorem c0R(b:w≤32):a9i (x,(w:Int))=some (a1r x w):=by
 unfold a9i a1r b4j b3f
 by_cases h1:1≤(w:Int)
 by_cases h2:(w:Int)≤31
 have f:decide ((w:Int)<1)=false:=by simp_all
 have k:decide ((w:Int) > 31)=false:=by simp_all
 have e:wrap .i64 ((w:Int)-1)=(w:Int)-1:=a0D (by omega);have g:wrap .u64 ((w:Int)-1)=(w:Int)-1:=a0S (by omega);have a:decide ((w:Int)-1<0)=false:=by simp_all
 have h:decide ((w:Int)≥1)=true:=by simp_all
 simp only[h,h1,h2,f,k,a,e,g,decide_true,cT,cF,oB,a38]
 grind
 grind
 grind
def a1A(x:Int):Nat→Nat→Nat
 |0,w=>w
 |k+1,w=>bif (x != 0)&&!a1r x w then a1A x k (w+1)else w
theorem b4o(x:Int):∀(k w:Nat),a1A x k w≤w+k
 |0,w=>a26 _
 |k+1,w=>by
  simp[a1A];cases (x != 0)&&!a1r x w with
  |true=>have:=b4o x k (w+1);grind
  |false=>simp
def a0G(l:List Int):Nat:=l.foldl (fun w x=>a1A x (32-w) w) 0
theorem b2B:∀(l:List Int)(w:Nat),w≤32→l.foldl (fun w x=>a1A x (32-w) w) w≤32
 | [],w,h=>h
 |x::l,w,h=>b2B l _ (show a1A x (32-w) w≤32 by grind[b4o])
theorem a5r(l:List Int):a0G l≤32:=b2B l 0 (by omega)
theorem b6E{x:Int}{l:List Int}{n i:Int}:∀(k w:Nat),w+k=32→y0s a2t ((w:Int),x,l,n,i,())=some (((a1A x k w:Nat):Int),l,n,i,())
 |0,w,h=>by
  obtain rfl:w=32:=by omega
  simp_all[a0H,a2t,a1A]
 |k+1,w,h=>by
  have g:decide ((w:Int)<32)=true:=by grind
  simp[a1A];cases hx:(x != 0)with
  |false=>simp_all[a0H,a2t]
  |true=>
   cases hf:a1r x w with
   |true=>exact a0H (by simp only[a2t,hx,g,a5n (show w≤32 by omega),hf,oB,cT,cF,bT,Bool.and_false])
   |false=>
    rw[a0I (s':=(((w+1:Nat):Int),x,l,n,i,())) (by simp only[a2t,hx,g,a5n (show w≤32 by omega),hf,oB,cT,a35,a0C (show w<1000000 by omega)])];exact b6E k (w+1) (by omega)
theorem a1S(c:short l):a1j l=some ((a0G l:Nat):Int):=by
 have c:l.length<1000000:=c
 have:=a1E (f:=a4O) l (fun i (w:Nat)=>((w:Int),l,(l.length:Int),(i:Int),())) (fun w x=>(.inl (a1A x (32-w) w):Nat ⊕ (Int×Unit))) (fun _ w=>w≤32) (fun w=>((w:Int),()))
  (fun i h w e=>⟨fun d k=>by
   simp at k;subst k;refine⟨?_,by grind[b4o]⟩;simp only[a4O,dlt h,cT,a0B h,oB,b6E (32-w) w (by omega),a0C (show i<1000000 by omega)],fun b hb=>(by grind)⟩)
  (fun w _=>by simp[a4O]) (a:=0) (by omega)
 simp at this;unfold a1j;rw[this];have g:∀(l:List Int)(w:Nat),a2p (fun w x=>(.inl (a1A x (32-w) w):Nat ⊕ (Int×Unit))) l w=.inl (l.foldl (fun w x=>a1A x (32-w) w) w):=by
  intro l
  induction l with
  |nil=>intro w;rfl
  |cons x l ih=>simp_all[a2p]
 rw[g];rfl
theorem a8i(x:Int):a6d x=some (a0A x):=by
 grind[a6d,a0A]
def a0N(x:Int):Nat:=if 0≤x then(2*x).toNat else(-2*x-1).toNat
theorem a7J(h:a0A x=true):a0N x<2147483648:=by
 grind[a1x,a0N]
theorem a8j(h:a0A x=true):a7s x=some ((a0N x:Nat):Int):=by
 have f:=a1x.1 h;unfold a7s a0N;simp only[a8i,h,oB,bT,cF]
 by_cases h0:0≤x
 have g:decide (x≥0)=true:=by simp_all
 simp only[g,cT,if_pos h0]
 grind[a0D,a0S]
 have g:decide (x≥0)=false:=by simp_all
 simp only[g,cF,if_neg h0]
 grind[a0D,a0S]
theorem a5s{N o:Nat}(h:o≤64):A0o .u64 (N:Int) (o:Int)=((N / 2^o:Nat):Int):=b8J h
theorem a9l(h:o≤64)(g:N*2^o<9223372036854775808):A0n .u64 (N:Int) (o:Int)=((N*2^o:Nat):Int):=by
 unfold A0n;show wrap .u64 ((N:Int)*2^(min (o:Int).toNat 64))=_
 grind[a0S]
theorem b8Q{y k:Nat}(c:y<18446744073709551616)(f:k≤62):bits .u64 .and (y:Int) (wrap .u64 (A0n .u64 1 (k:Int)-1))=((y%2^k:Nat):Int):=by
 have hp:2^k≤2^62:=a08 (by simp) f;have a:1≤2^k:=a78;have b:(2:Nat)^62=4611686018427387904:=by rfl
 have h:A0n .u64 1 (k:Int)=((2^k:Nat):Int):=by have:=a9l (N:=1) (o:=k) (by omega) (by omega);simp_all
 have g:wrap .u64 (((2^k:Nat):Int)-1)=((2^k-1:Nat):Int):=by grind[a0S]
 rw[h,g];show wrap .u64 (((a04 64 (y:Int)) &&& (a04 64 ((2^k-1:Nat):Int))).toNat:Int)=_;rw[a23,a23,a92,a28,a28,a22 c,a22 (by omega),Nat.and_two_pow_sub_one_eq_mod]
 have:y%2^k<2^k:=a40 _ (by omega)
 exact a0S (by omega)
theorem b0A{q:Nat}(h:q<2147483648):wrap .i64 (q:Int)=(q:Int):=a0D (by omega)
def a5E(k:Nat)(x:Int)(L:List Int):List Int:=
 if a0N x / 2^k<32 then a0L ((a0N x%2^k:Nat):Int) k (unL (a0N x / 2^k) L)else a0L ((a0N x:Nat):Int) 32 (unL 32 L)
def a3V(k:Nat)(l:List Int)(L:List Int):List Int:=l.foldl (fun L x=>a5E k x L) L
theorem b3i{k:Nat}(h:k≤25)(x:Int)(L:List Int):L.length≤(a5E k x L).length∧(a5E k x L).length≤L.length+100:=by
 grind[a5E,a0Q,a8h]
theorem b2C{k:Nat}(h:k≤25):∀(l L:List Int),L.length≤(a3V k l L).length∧(a3V k l L).length≤L.length+100*l.length
 | [],L=>by simp[a3V]
 |x::l,L=>by
  have g:=b3i h x L;have f:=b2C h l (a5E k x L);have e:a3V k (x::l) L=a3V k l (a5E k x L):=rfl
  grind
theorem a7o{k:Nat}(h:k≤25):a1D (k:Int)=some true:=by
 unfold a1D
 grind
theorem c0S{k:Nat}(y:k≤25)(E:l.length<10000)(t:l.all a0A=true)(D:L.length<900000000):a9v (wL L,(k:Int),l)=some (0,wL (a3V k l L)):=by
 have B:=a1p (f:=a7y) l (fun i=>((k:Int),l,l,(l.length:Int),(i:Int),wL L,())) (fun _=>true) (bt:=Sum.inl ((k:Int),l,wL L,())) (bf:=Sum.inl ((k:Int),l,wL L,()))
  (fun i h _=>by
   have:=lA.1 t _ (a05 h)
   simp only[a7y,dlt h,cT,a0B h,oB,a8i,this,bT,cF,a0C (show i<1000000 by omega)])
  (fun i h hp=>by simp_all) (by simp[a7y])
 have p:∀(j i:Nat)(g:List Int),i+j=l.length→g.length+100*j<999990000→y0s a5M ((k:Int),l,(l.length:Int),(i:Int),wL g,())=some (wL (a3V k (l.drop i) g),()):=by
  intro j
  induction j with
  |zero=>
   intro i g x _;obtain rfl:i=l.length:=by omega
   simp_all[a0H,a5M,a3V]
  |succ j ih=>
   intro i g x hb;have a:i<l.length:=by omega
   have c:=lA.1 t _ (a05 a);have A:=a7J c;have z:=b3i y l[i] g;have e:decide ((k:Int)<0)=false:=by simp
   have q:A0o .u64 ((a0N l[i]:Nat):Int) (k:Int)=((a0N l[i] / 2^k:Nat):Int):=a5s (by omega);have o:=a31 (a0N l[i]) (2^k);have r:=a67 (a0N l[i]) (2^k);have d:A0n .u64 ((a0N l[i] / 2^k:Nat):Int) (k:Int)=((a0N l[i] / 2^k*2^k:Nat):Int):=a9l (by omega) (by grind);have u:wrap .u64 (((a0N l[i]:Nat):Int)-((a0N l[i] / 2^k*2^k:Nat):Int))=((a0N l[i]%2^k:Nat):Int):=by
    rw[a66 (a0N l[i] / 2^k)]
    grind[a0S]
   have w:wrap .i64 ((a0N l[i] / 2^k:Nat):Int)=((a0N l[i] / 2^k:Nat):Int):=b0A (a37 o A);rw[a02 a,a0I (s':=((k:Int),l,(l.length:Int),((i+1:Nat):Int),wL (a5E k l[i] g),())) (by
    by_cases hq:a0N l[i] / 2^k<32
    have m:decide (((a0N l[i] / 2^k:Nat):Int)<32)=true:=decide_eq_true (by omega);have s:(unL (a0N l[i] / 2^k) g).length<999999000:=by
     rw[a8h];omega
    have b:=b8P (L:=g) (n:=a0N l[i] / 2^k) (a81 (a17 hq (by simp))) (by omega);have hp:=a2K (L:=unL (a0N l[i] / 2^k) g) (v:=((a0N l[i]%2^k:Nat):Int)) (n:=k) (by omega) s;simp only[a5M,dlt a,cT,a0B a,oB,a8j c,e,cF,q,m,w,b,d,u,hp,a5E,if_pos hq,a0C (show i<1000000 by omega)];have m:decide (((a0N l[i] / 2^k:Nat):Int)<32)=false:=decide_eq_false (by omega);have s:=a8h 32 g;have b:a1U (wL g,(32:Int))=some (0,wL (unL 32 g)):=b8P (L:=g) (n:=32) (by omega) (by omega);have hp:a0E (wL (unL 32 g),((a0N l[i]:Nat):Int),(32:Int))=some (a6D ((a0N l[i]:Nat):Int) 32,wL (a0L ((a0N l[i]:Nat):Int) 32 (unL 32 g))):=a2K (L:=unL 32 g) (v:=((a0N l[i]:Nat):Int)) (n:=32) (by omega) (by omega);simp only[a5M,dlt a,cT,a0B a,oB,a8j c,e,cF,q,m,b,hp,a5E,if_neg hq,a0C (show i<1000000 by omega)])]
   exact ih (i+1) _ (by omega) (by omega)
 have C:=p l.length 0 L (by omega) (by omega);simp_all[a9v,a7o]
def a1f(zn:List Nat):List Int:=zn.map fun(a:Nat)=>(a:Int)
theorem b7K(n M:Nat):(a00 n M).sum=n*M:=by
 simp
theorem b1k{o n warm:Int}(h:(a1z o n warm).length≠0):∃zn:List Nat,a1z o n warm=a1f zn∧(zn.sum:Int)=n-warm∧zn.length≤256:=by
 unfold a1z at h⊢;cases hr:(a5l n warm&&(decide (0≤o)&&decide (o≤8)))with
 |false=>simp_all
 |true=>
  rw[hr]at h;simp only[cT]at h⊢;simp[a5l]at hr;unfold b1v at h⊢
  split at h
  rename_i g;rw[if_pos g];obtain⟨O,rfl⟩:=a01 hr.2.1;obtain⟨N,rfl⟩:=a01 (show 0≤n by omega);obtain⟨w,rfl⟩:=a01 (show 0≤warm by omega);simp only[tN]at g⊢;have hp:=c6t (o:=O) (by omega);have f:=a67 N (2^O);rw[g.1,a82]at f;have k:w≤N / 2^O:=by omega
  generalize N / 2^O=M at g k f⊢;generalize 2^O=P at hp f⊢;refine⟨(M-w)::a00 (P-1) M,?_,?_,?_⟩
  grind[a1f,List.map_replicate]
  rw[a60,b7K];obtain⟨q,rfl⟩:∃q,P=q+1:=⟨P-1,by omega⟩
  grind
  simp_all;simp_all
def a7F(k:Int)(part L:List Int):List Int:=
 if k=31 then a1w (a0G part) part (a0L ((a0G part:Nat):Int) 5 (a0L (wrap .u64 k) 5 L))else a3V k.toNat part (a0L (wrap .u64 k) 5 L)
def a3W:List Nat→List Int→List Int→List Int→List Int
 |z::zs,k::ks,l,L=>a3W zs ks (l.drop z) (a7F k (l.take z) L)
 |_,_,_,L=>L
theorem b3j(h:kB k=true)(part L:List Int):L.length≤(a7F k part L).length∧(a7F k part L).length≤L.length+10+100*part.length:=by
 unfold a7F;have a:=a0Q (wrap .u64 k) 5 L;split;have b:=a0Q ((a0G part:Nat):Int) 5 (a0L (wrap .u64 k) 5 L);have c:=a5m (a0G part) part (a0L ((a0G part:Nat):Int) 5 (a0L (wrap .u64 k) 5 L));have f:=a5r part
 have:a0G part*part.length≤32*part.length:=a24 _ f
 omega;rename_i g;simp[kB]at h
 grind[b2C]
theorem a6E(h:i<zn.length):a85 (a1f zn) i 0=((zn[i]:Nat):Int):=by
 simp_all[a1f]
theorem a1m(h:List Nat):(a1f h).length=h.length:=by simp[a1f]
theorem b1V(h:i<zn.length):(zn.drop i).sum=zn[i]+(zn.drop (i+1)).sum:=by
 grind[a02]
theorem b8R{part rest:List Int}{wd:Nat}{a b:Int}{z:List Int}{p:Prt}(k:wd≤32)(hp:part.length<10000):∀(j i:Nat)(L:List Int),i+j=part.length→L.length+64*j<999990000→
  y0s a6Q (rest,(wd:Int),a,b,part,(part.length:Int),(i:Int),z,wL L,p,())=some (rest,a,b,z,wL (a1w wd (part.drop i) L),p,())
 |0,i,L,hi,_=>by
  obtain rfl:i=part.length:=by omega
  simp_all[a0H,a6Q,a1w]
 |j+1,i,L,hi,hb=>by
  have h:i<part.length:=by omega
  have g:decide ((wd:Int)<0)=false:=by simp
  have f:=a0Q (a0R part[i] wd) wd L;rw[a02 h,a0I (s':=(rest,(wd:Int),a,b,part,(part.length:Int),((i+1:Nat):Int),z,wL (a0L (a0R part[i] wd) wd L),p,())) (by
   simp only[a6Q,dlt h,cT,a0B h,oB,g,cF,show bits .u64 .and (wrap .u64 part[i]) (wrap .u64 ((A0n .u64 1 (wd:Int))-1))=a0R part[i] wd from rfl,a2K (show wd≤63 by omega) (show L.length<999999000 by omega),a0C (show i<1000000 by omega)])]
  exact b8R k hp j (i+1) _ (by omega) (by omega)
theorem b1z{zn:List Nat}{p:Prt}(N:p.2.1.length=zn.length)(c:p.2.1.all kB=true)(R:zn.length≤256):∀(j i:Nat)(l L:List Int),i+j=zn.length→(zn.drop i).sum=l.length→l.all a0A=true→l.length≤5000→L.length+10*j+100*l.length<800000000→
  y0s a3E (l,(zn.length:Int),(i:Int),a1f zn,wL L,p,())=some (wL (a3W (zn.drop i) (p.2.1.drop i) l L),())
 |0,i,l,L,hi,_,_,_,_=>by
  obtain rfl:i=zn.length:=by omega
  simp_all[a0H,a3E,a3W]
 |j+1,i,l,L,hi,hsum,hw,hl5,hb=>by
  have h:i<zn.length:=by omega
  have f:i<p.2.1.length:=by omega
  have s:=lA.1 c _ (a05 f);rw[b1V h]at hsum;have B:decide ((0:Int)≤(i:Int))=true:=by simp
  have C:decide ((i:Int)<(((a1f zn).length:Nat):Int))=true:=by simp_all[a1m]
  have D:decide ((0:Int)≤((zn[i]:Nat):Int))=true:=by simp
  have E:decide (((zn[i]:Nat):Int)≤((l.length:Nat):Int))=true:=by grind
  have t:(l.take zn[i]).length=zn[i]:=by simp_all
  have q:(l.drop zn[i]).length=(zn.drop (i+1)).sum:=by grind
  have w:(l.take zn[i]).all a0A=true:=lA.2 fun x A=>lA.1 hw x (a33 A);have y:(l.drop zn[i]).all a0A=true:=lA.2 fun x A=>lA.1 hw x (a34 A);have Q:=b3j s (l.take zn[i]) L;have O:=a0Q (wrap .u64 p.2.1[i]) 5 L;have d:a0E (wL L,wrap .u64 p.2.1[i],(5:Int))=some (a6D (wrap .u64 p.2.1[i]) 5,wL (a0L (wrap .u64 p.2.1[i]) 5 L)):=a2K (n:=5) (by omega) (by omega);have G:zn.drop i=zn[i]::zn.drop (i+1):=a02 h;have H:p.2.1.drop i=p.2.1[i]::p.2.1.drop (i+1):=a02 f;rw[G,H,a3W];have r:a3E (l,(zn.length:Int),(i:Int),a1f zn,wL L,p,())=some (.inl (l.drop zn[i],(zn.length:Int),((i+1:Nat):Int),a1f zn,wL (a7F p.2.1[i] (l.take zn[i]) L),p,())):=by
   by_cases h31:p.2.1[i]=31
   have m:(p.2.1[i] != 31)=false:=by simp_all
   have v:=a5r (l.take zn[i]);have u:=a1S (l:=l.take zn[i]) (by unfold short;omega);have P:=a0Q ((a0G (l.take zn[i]):Nat):Int) 5 (a0L (wrap .u64 p.2.1[i]) 5 L);have I:wrap .u64 ((a0G (l.take zn[i]):Nat):Int)=((a0G (l.take zn[i]):Nat):Int):=a0S (by omega);have o:a0E (wL (a0L (wrap .u64 p.2.1[i]) 5 L),((a0G (l.take zn[i]):Nat):Int),(5:Int))=some (a6D ((a0G (l.take zn[i]):Nat):Int) 5,wL (a0L ((a0G (l.take zn[i]):Nat):Int) 5 (a0L (wrap .u64 p.2.1[i]) 5 L))):=a2K (n:=5) (by omega) (by omega);have e:=b8R (part:=l.take zn[i]) (rest:=l.drop zn[i]) (a:=(zn.length:Int)) (b:=(i:Int)) (z:=a1f zn) (p:=p) v (by omega) (l.take zn[i]).length 0 (a0L ((a0G (l.take zn[i]):Nat):Int) 5 (a0L (wrap .u64 p.2.1[i]) 5 L)) (by omega) (by omega);simp only[nZ,a27]at e;simp only[a3E,dlt h,B,C,a6E h,D,E,cT,a03,tN,a0B f,oB,d,m,cF,u,I,o,a18,e,a0C (show i<1000000 by omega),a7F,if_pos h31];have m:(p.2.1[i] != 31)=true:=by simp_all
   simp[kB]at s;obtain⟨K,M⟩:=a01 (show 0≤p.2.1[i]by omega);have g:=c0S (k:=K) (l:=l.take zn[i]) (L:=a0L (wrap .u64 p.2.1[i]) 5 L) (by omega) (by omega) w (by omega);rw[←M]at g;have F:K=p.2.1[i].toNat:=by omega
   simp only[a3E,dlt h,B,C,a6E h,D,E,cT,a03,tN,a0B f,oB,d,m,g,a18,a0C (show i<1000000 by omega),a7F,if_neg h31,F]
  rw[a0I r];exact b1z N c R j (i+1) (l.drop zn[i]) _ (by omega) q.symm y (by omega) (by omega)
theorem b6p{k:Nat}(d:k≤25)(g:a0A x=true):∃c,a6e ((k:Int),x)=some c∧0≤c∧c≤65:=by
 have e:=a7J g;have f:A0o .u64 ((a0N x:Nat):Int) (k:Int)=((a0N x / 2^k:Nat):Int):=a5s (by omega);have a:wrap .i64 ((a0N x / 2^k:Nat):Int)=((a0N x / 2^k:Nat):Int):=b0A (a37 (a31 _ _) e);have h:decide ((k:Int)<0)=false:=by simp
 unfold a6e;simp only[a7o d,a8i,g,oB,bT,cF,a8j g,h,f,a];generalize a0N x / 2^k=q
 by_cases hq:q<32
 have b:decide ((q:Int)<32)=true:=decide_eq_true (by omega);refine⟨(q:Int)+1+k,?_,by omega,by omega⟩;simp only[b,cT]
 grind[a0D]
 grind
theorem b7L{k:Nat}(p:k≤25)(q:l.all a0A=true)(t:l.length<10000):∃c,a2N ((k:Int),l)=some c∧0≤c∧c≤65*l.length:=by
 have g:∀(j i:Nat)(c:Int),i+j=l.length→0≤c→c≤65*i→∃c',y0s a3m ((k:Int),c,l,(l.length:Int),(i:Int),())=some (c',())∧0≤c'∧c'≤65*l.length:=by
  intro j
  induction j with
  |zero=>
   intro i c o a f;obtain rfl:i=l.length:=by omega
   simp_all[a0H,a3m]
  |succ j ih=>
   intro i c o a f;have h:i<l.length:=by omega
   obtain⟨d,b,m,n⟩:=b6p p (lA.1 q _ (a05 h));have e:wrap .i64 (c+d)=c+d:=a0D (by omega);rw[a0I (s':=((k:Int),c+d,l,(l.length:Int),((i+1:Nat):Int),())) (by simp only[a3m,dlt h,cT,a0B h,oB,b,e,a0C (show i<1000000 by omega)])];exact ih (i+1) _ (by omega) (by omega) (by omega)
 obtain⟨c,f,r,s⟩:=g l.length 0 0 (by omega) (by omega) (by omega);simp_all[a2N]
theorem c3l{n:Nat}(g:w≤32)(f:n<10000):0≤(w:Int)*(n:Int)∧(w:Int)*(n:Int)≤32*n:=by
 have h:w*n≤32*n:=a24 _ g;omega
theorem b6q(h:l.length<10000):∃c,a4J l=some c∧0≤c∧c≤5+32*l.length:=by
 have g:=c3l (a5r l) h;refine⟨5+((a0G l:Nat):Int)*((l.length:Nat):Int),?_,by omega,by omega⟩;unfold a4J;simp only[a1S (show short l by unfold short;omega),oB]
 grind[a0D]
theorem b0W{zn:List Nat}{p:Prt}(H:p.2.1.length=zn.length)(g:p.2.1.all kB=true)(I:zn.length≤256):∀(j i:Nat)(l:List Int)(c:Int),i+j=zn.length→(zn.drop i).sum=l.length→l.all a0A=true→l.length≤5000→4≤c→c+10*j+65*l.length<1000000→
  ∃c',y0s a1l (l,c,(zn.length:Int),(i:Int),a1f zn,p,())=some (c',())∧4≤c'
 |0,i,l,c,hi,_,_,_,hc,_=>by
  obtain rfl:i=zn.length:=by omega
  simp_all[a0H,a1l]
 |j+1,i,l,c,hi,hsum,hw,hl5,hc,hb=>by
  have h:i<zn.length:=by omega
  have f:i<p.2.1.length:=by omega
  have q:=lA.1 g _ (a05 f);rw[b1V h]at hsum;have z:decide ((0:Int)≤(i:Int))=true:=by simp
  have A:decide ((i:Int)<(((a1f zn).length:Nat):Int))=true:=by simp_all[a1m]
  have B:decide ((0:Int)≤((zn[i]:Nat):Int))=true:=by simp
  have C:decide (((zn[i]:Nat):Int)≤((l.length:Nat):Int))=true:=by grind
  have s:(l.take zn[i]).length=zn[i]:=by simp_all
  have b:(l.drop zn[i]).length=(zn.drop (i+1)).sum:=by grind
  have v:(l.take zn[i]).all a0A=true:=lA.2 fun x y=>lA.1 hw x (a33 y);have w:(l.drop zn[i]).all a0A=true:=lA.2 fun x y=>lA.1 hw x (a34 y);have e:∃d,a1l (l,c,(zn.length:Int),(i:Int),a1f zn,p,())=some (.inl (l.drop zn[i],c+d,(zn.length:Int),((i+1:Nat):Int),a1f zn,p,()))∧0≤d∧d≤10+65*zn[i]:=by
   by_cases h31:p.2.1[i]=31
   have a:(p.2.1[i]==31)=true:=by simp_all
   obtain⟨r,m,t,u⟩:=b6q (l:=l.take zn[i]) (by omega);have n:wrap .i64 (5+r)=5+r:=a0D (by omega);have o:wrap .i64 (c+(5+r))=c+(5+r):=a0D (by omega);refine⟨5+r,?_,by omega,by omega⟩;simp only[a1l,dlt h,z,A,a6E h,B,C,cT,a03,tN,a0B f,oB,a,m,n,o,a18,a0C (show i<1000000 by omega)];have a:(p.2.1[i]==31)=false:=by simp_all
   simp[kB]at q;obtain⟨K,D⟩:=a01 (show 0≤p.2.1[i]by omega);obtain⟨r,m,t,u⟩:=b7L (k:=K) (by omega) v (by omega);rw[←D]at m;have n:wrap .i64 (5+r)=5+r:=a0D (by omega);have o:wrap .i64 (c+(5+r))=c+(5+r):=a0D (by omega);refine⟨5+r,?_,by omega,by omega⟩;simp only[a1l,dlt h,z,A,a6E h,B,C,cT,cF,a03,tN,a0B f,oB,a,m,n,o,a18,a0C (show i<1000000 by omega)]
  obtain⟨d,E,F,G⟩:=e;rw[a0I E];exact b0W H g I j (i+1) (l.drop zn[i]) _ (by omega) b.symm w (by omega) (by omega) (by omega)
structure PartsOk (p:Prt) (n warm:Int) (l:List Int) (zn:List Nat):Prop where
 may:a4D p n warm=true
 sizes:a1z p.1 n warm=a1f zn
 sum:zn.sum=l.length
 len:zn.length≤256
 ks:p.2.1.length=zn.length
 all:p.2.1.all kB=true
 wide:l.all a0A=true
 short:l.length≤5000
 row:a5l n warm=true
 rest:(l.length:Int)=n-warm
 order:0≤p.1∧p.1≤8
theorem PartsOk.of{p:Prt}{n warm:Int}{l:List Int}(h:a4D p n warm=true)(i:(l.length:Int)=n-warm)(j:l.all a0A=true)(e:l.length≤5000):∃g,PartsOk p n warm l g:=by
 have f:=h;simp only[a4D,bA,a32,beq_eq_false_iff_ne,ne_eq,beq_iff_eq]at f;obtain⟨c,o,d⟩:=f;obtain⟨g,a,m,b⟩:=b1k c;have k:a5l n warm=true∧0≤p.1∧p.1≤8:=by
  grind[a1z]
 exact⟨g,h,a,by omega,b,by simp_all[a1m],d,j,e,k.1,i,k.2⟩
theorem a8v{n warm:Int}{l:List Int}(h:a5l n warm=true)(c:(l.length:Int)=n-warm)(d:l.all a0A=true)(a:l.length≤5000):a5J (n,warm,l)=some true:=by
 have e:wrap .i64 (n-warm)=n-warm:=by
  simp[a5l]at h;exact a0D (by omega)
 have k:(((l.length:Nat):Int) != n-warm)=false:=by simp_all
 have f:a9N=a2e:=rfl;have g:short l:=by unfold short;omega
 have b:=a3J g;simp_all[a1Y,a5J,a9V]
theorem b5c(h:PartsOk p n warm l zn):∃c,a3P (p,n,warm,l)=some c∧4≤c:=by
 have k:Go.Ab.short p.2.1:=by have:=h.ks;have:=h.len;unfold Go.Ab.short;omega
 have a:=h.short;have b:=h.len;obtain⟨c,g,f⟩:=b0W h.ks h.all h.len zn.length 0 l 4 (by omega) (by rw[a27];exact h.sum) h.wide h.short (by omega) (by omega);simp at g;refine⟨c,?_,f⟩;unfold a3P;simp only[a9W k,h.may,a8v h.row h.rest h.wide h.short,oB,bT,cF,a1I,h.sizes,a1m,g]
def a3z(p:Prt)(zn:List Nat)(l L:List Int):List Int:=a3W zn p.2.1 l (a0L (wrap .u64 p.1) 4 L)
theorem b8S(h:PartsOk p n warm l zn)(i:L.length<700000000):a8L (wL L,p,n,warm,l)=some (0,wL (a3z p zn l L)):=by
 have e:=h.short;have j:=h.len;obtain⟨c,a,b⟩:=b5c h;have k:(c==0)=false:=by grind
 have d:=a0Q (wrap .u64 p.1) 4 L;have f:a0E (wL L,wrap .u64 p.1,(4:Int))=some (a6D (wrap .u64 p.1) 4,wL (a0L (wrap .u64 p.1) 4 L)):=a2K (n:=4) (by omega) (by omega);have g:=b1z h.ks h.all h.len zn.length 0 l (a0L (wrap .u64 p.1) 4 L) (by omega) (by rw[a27];exact h.sum) h.wide h.short (by omega);simp at g;unfold a8L;simp only[a,oB,k,cF,f,a1I,h.sizes,a1m,g,a3z]
theorem b5d{c:List Int}{wd:Nat}(k:wd≤32)(g:c.length<10000):∀(j i:Nat)(L:List Int),i+j=c.length→L.length+64*j<999990000→
  y0s a4P ((wd:Int),c,(c.length:Int),(i:Int),wL L,())=some (wL (a1w wd (c.drop i) L),())
 |0,i,L,hi,_=>by
  obtain rfl:i=c.length:=by omega
  simp_all[a0H,a4P,a1w]
 |j+1,i,L,hi,hb=>by
  have h:i<c.length:=by omega
  have f:=a0Q (a0R c[i] wd) wd L;rw[a02 h,a0I (s':=((wd:Int),c,(c.length:Int),((i+1:Nat):Int),wL (a0L (a0R c[i] wd) wd L),())) (by
   simp only[a4P,dlt h,cT,a0B h,oB,a9Z (show wd≤63 by omega) (show L.length<999999000 by omega),a0C (show i<1000000 by omega)])]
  exact b5d k g j (i+1) _ (by omega) (by omega)
theorem b6F{t:List Int}{n wd:Int}{s:Sub}(a:t.length=3):∀(j i:Nat)(L:List Int),i+j=3→L.length+64*j<999990000→
  y0s a8a (n,wd,t,(i:Int),wL L,s,())=some (n,wd,wL (a1w 8 (t.drop i) L),s,())
 |0,i,L,hi,_=>by
  obtain rfl:i=t.length:=by omega
  grind[a0H,a8a,a1w]
 |j+1,i,L,hi,hb=>by
  have h:i<t.length:=by omega
  have f:decide ((i:Int)<3)=true:=by grind
  have k:=a0Q (a0R t[i] 8) 8 L;have g:a2m (wL L,t[i],(8:Int))=some (wL (a0L (a0R t[i] 8) 8 L)):=a9Z (n:=8) (by omega) (by omega);rw[a02 h,a0I (s':=(n,wd,t,((i+1:Nat):Int),wL (a0L (a0R t[i] 8) 8 L),s,())) (by
   simp only[a8a,f,cT,a0B h,oB,g,a0C (show i<1000000 by omega)])]
  exact b6F a j (i+1) _ (by omega) (by omega)
theorem b6G{l:List Int}{n:Int}{wd:Nat}{s:Sub}(k:wd≤32)(g:l.length<10000):∀(j i:Nat)(L:List Int),i+j=l.length→L.length+64*j<999990000→
  y0s a8c (n,(wd:Int),l,(l.length:Int),(i:Int),wL L,s,())=some (n,wL (a1w wd (l.drop i) L),s,())
 |0,i,L,hi,_=>by
  obtain rfl:i=l.length:=by omega
  simp_all[a0H,a8c,a1w]
 |j+1,i,L,hi,hb=>by
  have h:i<l.length:=by omega
  have f:=a0Q (a0R l[i] wd) wd L;rw[a02 h,a0I (s':=(n,(wd:Int),l,(l.length:Int),((i+1:Nat):Int),wL (a0L (a0R l[i] wd) wd L),s,())) (by
   simp only[a8c,dlt h,cT,a0B h,oB,a9Z (show wd≤63 by omega) (show L.length<999999000 by omega),a0C (show i<1000000 by omega)])]
  exact b6G k g j (i+1) _ (by omega) (by omega)
def a5o(s:Stg)(L:List Int):List Int:=a0L (wrap .u64 s.2.1) 4 (a0L (wrap .u64 (wrap .i64 (s.1-1))) 5 L)
def a2M(st:List Stg)(L:List Int):List Int:=st.foldl (fun L s=>a5o s L) L
theorem b2D(s:Stg)(L:List Int):(a5o s L).length≤L.length+9:=by
 grind[a0Q,a5o]
theorem b1A:∀(st:List Stg)(L:List Int),(a2M st L).length≤L.length+9*st.length
 | [],L=>by simp[a2M]
 |s::st,L=>by
  have h:=b2D s L;have g:=b1A st (a5o s L);have e:a2M (s::st) L=a2M st (a5o s L):=rfl
  grind
theorem b3O{st:List Stg}{n wd:Int}{s:Sub}(a:st.length<10000):∀(j i:Nat)(L:List Int),i+j=st.length→L.length+64*j<999990000→
  y0s a8b (n,wd,st,(st.length:Int),(i:Int),wL L,s,())=some (n,wd,wL (a2M (st.drop i) L),s,())
 |0,i,L,hi,_=>by
  obtain rfl:i=st.length:=by omega
  simp_all[a0H,a8b,a2M]
 |j+1,i,L,hi,hb=>by
  have h:i<st.length:=by omega
  have k:=a0Q (wrap .u64 (wrap .i64 (st[i].1-1))) 5 L;have b:=b2D st[i] L;have g:a0E (wL L,wrap .u64 (wrap .i64 (st[i].1-1)),(5:Int))=some (a6D (wrap .u64 (wrap .i64 (st[i].1-1))) 5,wL (a0L (wrap .u64 (wrap .i64 (st[i].1-1))) 5 L)):=a2K (n:=5) (by omega) (by omega);have f:a0E (wL (a0L (wrap .u64 (wrap .i64 (st[i].1-1))) 5 L),wrap .u64 st[i].2.1,(4:Int))=some (a6D (wrap .u64 st[i].2.1) 4,wL (a5o st[i] L)):=a2K (n:=4) (by omega) (by omega);rw[a02 h,a0I (s':=(n,wd,st,(st.length:Int),((i+1:Nat):Int),wL (a5o st[i] L),s,())) (by
   simp only[a8b,dlt h,cT,a0B h,oB,g,f,a0C (show i<1000000 by omega)])]
  exact b3O a j (i+1) _ (by omega) (by omega)
def a5p(s:Sub)(L:List Int):List Int:=
 a1w (a0G s.2.2.2.2.2.1) s.2.2.2.2.2.1 (a0L ((a0G s.2.2.2.2.2.1:Nat):Int) 5 (a0L (wrap .u64 s.2.2.2.1) 4 (a0L (wrap .u64 (wrap .i64 (((s.2.2.2.2.2.1.length:Nat):Int)-1))) 5 L)))
theorem b7M{s:Sub}(h:s.2.2.2.2.2.1.length≤40)(L:List Int):(a5p s L).length≤L.length+2000:=by
 unfold a5p;have f:=a0Q (wrap .u64 (wrap .i64 (((s.2.2.2.2.2.1.length:Nat):Int)-1))) 5 L;have k:=a0Q (wrap .u64 s.2.2.2.1) 4 (a0L (wrap .u64 (wrap .i64 (((s.2.2.2.2.2.1.length:Nat):Int)-1))) 5 L);have a:=a0Q ((a0G s.2.2.2.2.2.1:Nat):Int) 5 (a0L (wrap .u64 s.2.2.2.1) 4 (a0L (wrap .u64 (wrap .i64 (((s.2.2.2.2.2.1.length:Nat):Int)-1))) 5 L));have b:=a5m (a0G s.2.2.2.2.2.1) s.2.2.2.2.2.1 (a0L ((a0G s.2.2.2.2.2.1:Nat):Int) 5 (a0L (wrap .u64 s.2.2.2.1) 4 (a0L (wrap .u64 (wrap .i64 (((s.2.2.2.2.2.1.length:Nat):Int)-1))) 5 L)));have g:=a5r s.2.2.2.2.2.1
 have:a0G s.2.2.2.2.2.1*s.2.2.2.2.2.1.length≤32*40:=Nat.mul_le_mul g h
 omega
theorem b3P(h:s.2.2.2.2.2.1.length≤40)(l:L.length<900000000):a6P (wL L,s)=some (wL (a5p s L)):=by
 have e:=a0Q (wrap .u64 (wrap .i64 (((s.2.2.2.2.2.1.length:Nat):Int)-1))) 5 L;have i:=a0Q (wrap .u64 s.2.2.2.1) 4 (a0L (wrap .u64 (wrap .i64 (((s.2.2.2.2.2.1.length:Nat):Int)-1))) 5 L);have j:=a0Q ((a0G s.2.2.2.2.2.1:Nat):Int) 5 (a0L (wrap .u64 s.2.2.2.1) 4 (a0L (wrap .u64 (wrap .i64 (((s.2.2.2.2.2.1.length:Nat):Int)-1))) 5 L));have k:=a5r s.2.2.2.2.2.1;have f:wrap .u64 ((a0G s.2.2.2.2.2.1:Nat):Int)=((a0G s.2.2.2.2.2.1:Nat):Int):=a0S (by omega);have a:a0E (wL L,wrap .u64 (wrap .i64 (((s.2.2.2.2.2.1.length:Nat):Int)-1)),(5:Int))=some (a6D (wrap .u64 (wrap .i64 (((s.2.2.2.2.2.1.length:Nat):Int)-1))) 5,wL (a0L (wrap .u64 (wrap .i64 (((s.2.2.2.2.2.1.length:Nat):Int)-1))) 5 L)):=a2K (n:=5) (by omega) (by omega);have b:a0E (wL (a0L (wrap .u64 (wrap .i64 (((s.2.2.2.2.2.1.length:Nat):Int)-1))) 5 L),wrap .u64 s.2.2.2.1,(4:Int))=some (a6D (wrap .u64 s.2.2.2.1) 4,wL (a0L (wrap .u64 s.2.2.2.1) 4 (a0L (wrap .u64 (wrap .i64 (((s.2.2.2.2.2.1.length:Nat):Int)-1))) 5 L))):=a2K (n:=4) (by omega) (by omega);have d:a0E (wL (a0L (wrap .u64 s.2.2.2.1) 4 (a0L (wrap .u64 (wrap .i64 (((s.2.2.2.2.2.1.length:Nat):Int)-1))) 5 L)),((a0G s.2.2.2.2.2.1:Nat):Int),(5:Int))=some (a6D ((a0G s.2.2.2.2.2.1:Nat):Int) 5,wL (a0L ((a0G s.2.2.2.2.2.1:Nat):Int) 5 (a0L (wrap .u64 s.2.2.2.1) 4 (a0L (wrap .u64 (wrap .i64 (((s.2.2.2.2.2.1.length:Nat):Int)-1))) 5 L)))):=a2K (n:=5) (by omega) (by omega);have g:=b5d (c:=s.2.2.2.2.2.1) k (by omega) s.2.2.2.2.2.1.length 0 (a0L ((a0G s.2.2.2.2.2.1:Nat):Int) 5 (a0L (wrap .u64 s.2.2.2.1) 4 (a0L (wrap .u64 (wrap .i64 (((s.2.2.2.2.2.1.length:Nat):Int)-1))) 5 L))) (by omega) (by omega);simp at g;unfold a6P;simp only[a,b,a1S (show short s.2.2.2.2.2.1 by unfold short;omega),f,d,g,oB,a5p]
def a9a(s:Sub)(L:List Int):List Int:=
 a0L ((a0G s.2.2.2.2.2.2.2.2.1:Nat):Int) 5 (a0L (wrap .u64 s.2.1) 5 (a0L (wrap .u64 s.1) 3 L))
def a2c(s:Sub)(L:List Int):List Int:=
 if s.1=2 then a0L (wrap .u64 s.2.2.1) 3 L
 else if s.1=3 then a5p s L
 else if s.1=4 then a5p s (a1w 8 s.2.2.2.2.2.2.1 (a0L (wrap .u64 (wrap .i64 (s.2.2.2.2.1-1))) 10 L))
 else if s.1=5 then a2M s.2.2.2.2.2.2.2.1 (a0L (wrap .u64 ((s.2.2.2.2.2.2.2.1.length:Nat):Int)) 2 L)
 else L
theorem b8T(h:SmallS s)(L:List Int):(a2c s L).length≤L.length+3000:=by
 have f:=h.coefs;have k:=h.taps;have g:=h.stages
 grind[a2c,a0Q,b7M,a5m,b1A]
theorem b2E:∀(zs:List Nat)(ks l L:List Int),ks.all kB=true→(a3W zs ks l L).length≤L.length+10*zs.length+100*l.length
 |z::zs,k::ks,l,L,h=>by
  simp only[a07,bA]at h;have g:=b3j h.1 (l.take z) L;have f:=b2E zs ks (l.drop z) (a7F k (l.take z) L) h.2;rw[a93]at g;rw[a51]at f;simp only[a3W,lC];omega
 | [],_,_,_,_=>by simp_all[a3W]
 |_::_,[],_,_,_=>by grind[a3W]
def a4n(s:Sub)(zn:List Nat)(L:List Int):List Int:=
 if s.1=0∨s.1=1 then a1w (a0G s.2.2.2.2.2.2.2.2.1) s.2.2.2.2.2.2.2.2.1 (a2c s (a9a s L))
 else a3z s.2.2.2.2.2.2.2.2.2.1 zn s.2.2.2.2.2.2.2.2.2.2.1 (a1w (a0G s.2.2.2.2.2.2.2.2.1) s.2.2.2.2.2.2.2.2.1 (a2c s (a9a s L)))
theorem b1W(h:SmallS s)(S:L.length<100000000):
  ∃(e:Int)(L':List Int),a7N (wL L,s,n)=some (e,wL L')∧(e=0∨L'=L)∧L'.length≤L.length+700000∧
   ((a1P s n).isSome=true→e=0∧∃a,L'=a4n s a L∧(s.1≠0∧s.1≠1→PartsOk s.2.2.2.2.2.2.2.2.2.1 n ((s.2.2.2.2.2.2.2.2.1.length:Nat):Int) s.2.2.2.2.2.2.2.2.2.2.1 a))∧((a1P s n).isSome=false→e=1∧L'=L):=by
 unfold a7N;simp only[b4Z h,oB];cases hs:(a1P s n).isSome with
 |false=>exact⟨1,L,rfl,.inr rfl,by omega,fun h=>(by grind),fun _=>⟨rfl,rfl⟩⟩
 |true=>
  have hp:a1k s n:=by
   grind[a1P]
  obtain⟨Q,R,A,-,-,-,-,v,E,B,-,p⟩:=hp;have b:=c3j A;have m:=a5r s.2.2.2.2.2.2.2.2.1;have u:short s.2.2.2.2.2.2.2.2.1:=by have:=h.warm;unfold short;omega
  have c:=h.warm;have r:=h.rest;have C:=h.stages;have D:=h.taps;have T:=a0Q (wrap .u64 s.1) 3 L;have U:=a0Q (wrap .u64 s.2.1) 5 (a0L (wrap .u64 s.1) 3 L);have V:=a0Q ((a0G s.2.2.2.2.2.2.2.2.1:Nat):Int) 5 (a0L (wrap .u64 s.2.1) 5 (a0L (wrap .u64 s.1) 3 L));have z:wrap .u64 ((a0G s.2.2.2.2.2.2.2.2.1:Nat):Int)=((a0G s.2.2.2.2.2.2.2.2.1:Nat):Int):=a0S (by omega);have I:a0E (wL L,wrap .u64 s.1,(3:Int))=some (a6D (wrap .u64 s.1) 3,wL (a0L (wrap .u64 s.1) 3 L)):=a2K (n:=3) (by omega) (by omega);have K:a0E (wL (a0L (wrap .u64 s.1) 3 L),wrap .u64 s.2.1,(5:Int))=some (a6D (wrap .u64 s.2.1) 5,wL (a0L (wrap .u64 s.2.1) 5 (a0L (wrap .u64 s.1) 3 L))):=a2K (n:=5) (by omega) (by omega);have w:a0E (wL (a0L (wrap .u64 s.2.1) 5 (a0L (wrap .u64 s.1) 3 L)),((a0G s.2.2.2.2.2.2.2.2.1:Nat):Int),(5:Int))=some (a6D ((a0G s.2.2.2.2.2.2.2.2.1:Nat):Int) 5,wL (a9a s L)):=a2K (n:=5) (by omega) (by omega);have N:(a9a s L).length≤L.length+13:=by unfold a9a;omega
  generalize hM:a9a s L=M at w N;have X:=b8T h M;have O:=a5m (a0G s.2.2.2.2.2.2.2.2.1) s.2.2.2.2.2.2.2.2.1 (a2c s M);have Y:a0G s.2.2.2.2.2.2.2.2.1*s.2.2.2.2.2.2.2.2.1.length≤32*5000:=Nat.mul_le_mul m c;have g:=b6G (l:=s.2.2.2.2.2.2.2.2.1) (n:=n) (s:=s) m (by omega) s.2.2.2.2.2.2.2.2.1.length 0 (a2c s M) (by omega) (by omega);simp at g

  have i:=b3O (st:=s.2.2.2.2.2.2.2.1) (n:=n) (wd:=((a0G s.2.2.2.2.2.2.2.2.1:Nat):Int)) (s:=s) (by omega) s.2.2.2.2.2.2.2.1.length 0 (a0L (wrap .u64 ((s.2.2.2.2.2.2.2.1.length:Nat):Int)) 2 M) (by omega) (by grind[a0Q]);have Z:=a0Q (wrap .u64 (wrap .i64 (s.2.2.2.2.1-1))) 10 M;have q9:=a5m 8 s.2.2.2.2.2.2.1 (a0L (wrap .u64 (wrap .i64 (s.2.2.2.2.1-1))) 10 M);have j:=b6F (t:=s.2.2.2.2.2.2.1) (n:=n) (wd:=((a0G s.2.2.2.2.2.2.2.2.1:Nat):Int)) (s:=s) D 3 0 (a0L (wrap .u64 (wrap .i64 (s.2.2.2.2.1-1))) 10 M) (by rfl) (by omega);simp at i j;have F:a0E (wL M,wrap .u64 s.2.2.1,(3:Int))=some (a6D (wrap .u64 s.2.2.1) 3,wL (a0L (wrap .u64 s.2.2.1) 3 M)):=a2K (n:=3) (by omega) (by omega);have G:a0E (wL M,wrap .u64 (wrap .i64 (s.2.2.2.2.1-1)),(10:Int))=some (a6D (wrap .u64 (wrap .i64 (s.2.2.2.2.1-1))) 10,wL (a0L (wrap .u64 (wrap .i64 (s.2.2.2.2.1-1))) 10 M)):=a2K (n:=10) (by omega) (by omega);have H:a0E (wL M,wrap .u64 ((s.2.2.2.2.2.2.2.1.length:Nat):Int),(2:Int))=some (a6D (wrap .u64 ((s.2.2.2.2.2.2.2.1.length:Nat):Int)) 2,wL (a0L (wrap .u64 ((s.2.2.2.2.2.2.2.1.length:Nat):Int)) 2 M)):=a2K (n:=2) (by omega) (by omega);have x:=b3P (s:=s) h.coefs (L:=M) (by omega);have y:=b3P (s:=s) h.coefs (L:=a1w 8 s.2.2.2.2.2.2.1 (a0L (wrap .u64 (wrap .i64 (s.2.2.2.2.1-1))) 10 M)) (by omega);simp only[bT,cF,a1S u,oB,I,K,z,w];generalize hPM:a1w (a0G s.2.2.2.2.2.2.2.2.1) s.2.2.2.2.2.2.2.2.1 (a2c s M)=PM at g O

  have o:∀(d:s.1≠0∧s.1≠1),∃a,PartsOk s.2.2.2.2.2.2.2.2.2.1 n ((s.2.2.2.2.2.2.2.2.1.length:Nat):Int) s.2.2.2.2.2.2.2.2.2.2.1 a:=fun d=>by
   simp_all[PartsOk.of]
  rcases b with k|k|k|k|k|k;have f:a2c s M=M:=by unfold a2c;grind
  rw[f]at g;refine⟨0,PM,?_,.inl rfl,by omega,fun _=>⟨rfl,[],by simp_all[a4n],fun h=>absurd k (by omega)⟩,fun h=>by grind⟩;simp only[k,show((0:Int)==2)=false from rfl,show((0:Int)==4)=false from rfl,show((0:Int)==3)=false from rfl,show((0:Int)==5)=false from rfl,cF,oB,g,a5q]
  simp
  have f:a2c s M=M:=by unfold a2c;grind
  rw[f]at g;refine⟨0,PM,?_,.inl rfl,by omega,fun _=>⟨rfl,[],by simp_all[a4n],fun h=>absurd k (by omega)⟩,fun h=>by grind⟩;simp only[k,show((1:Int)==2)=false from rfl,show((1:Int)==4)=false from rfl,show((1:Int)==3)=false from rfl,show((1:Int)==5)=false from rfl,cF,oB,g,a5q]
  simp
  all_goals
   obtain⟨a,q⟩:=o (by omega);have t1:=b8S (L:=PM) q (by omega);have P:(a3z s.2.2.2.2.2.2.2.2.2.1 a s.2.2.2.2.2.2.2.2.2.2.1 PM).length≤L.length+700000:=by
    have z1:=a0Q (wrap .u64 s.2.2.2.2.2.2.2.2.2.1.1) 4 PM;have z2:=b2E a s.2.2.2.2.2.2.2.2.2.1.2.1 s.2.2.2.2.2.2.2.2.2.2.1 (a0L (wrap .u64 s.2.2.2.2.2.2.2.2.2.1.1) 4 PM) q.all;have z3:=q.len
    grind[a3z]
   refine⟨0,a3z s.2.2.2.2.2.2.2.2.2.1 a s.2.2.2.2.2.2.2.2.2.2.1 PM,?_,.inl rfl,P,fun _=>⟨rfl,a,by simp_all[a4n],fun _=>q⟩,fun h=>by grind⟩
  have f:a2c s M=a0L (wrap .u64 s.2.2.1) 3 M:=by unfold a2c;grind
  rw[f]at g;simp only[k,show((2:Int)==2)=true from rfl,cT,F,oB,g,a5q]
  grind
  have f:a2c s M=a5p s M:=by unfold a2c;grind
  rw[f]at g;simp only[k,show((3:Int)==2)=false from rfl,show((3:Int)==4)=false from rfl,show((3:Int)==3)=true from rfl,cT,cF,x,oB,g,a5q]
  grind
  have f:a2c s M=a5p s (a1w 8 s.2.2.2.2.2.2.1 (a0L (wrap .u64 (wrap .i64 (s.2.2.2.2.1-1))) 10 M)):=by unfold a2c;grind
  rw[f]at g;simp only[k,show((4:Int)==2)=false from rfl,show((4:Int)==4)=true from rfl,cT,cF,G,j,y,oB,g,a5q]
  grind
  have f:a2c s M=a2M s.2.2.2.2.2.2.2.1 (a0L (wrap .u64 ((s.2.2.2.2.2.2.2.1.length:Nat):Int)) 2 M):=by unfold a2c;grind
  rw[f]at g;simp only[k,show((5:Int)==2)=false from rfl,show((5:Int)==4)=false from rfl,show((5:Int)==3)=false from rfl,show((5:Int)==5)=true from rfl,cT,cF,H,i,oB,g,a5q]
  grind
theorem b1l(h:List Nat):(a1f h).map a41=h:=by
 unfold a1f;rw[List.map_map]
 have:a41∘(fun(a:Nat)=>(a:Int))=id:=by rfl
 simp_all
def a2D(s:Sub)(n:Int):Int:=
 if(a1P s n).isSome=true then(((a4n s ((a1z s.2.2.2.2.2.2.2.2.2.1.1 n ((s.2.2.2.2.2.2.2.2.1.length:Nat):Int)).map a41) []).length:Nat):Int)else 0
theorem b6r(h:s.1≠0∧s.1≠1→PartsOk s.2.2.2.2.2.2.2.2.2.1 n ((s.2.2.2.2.2.2.2.2.1.length:Nat):Int) s.2.2.2.2.2.2.2.2.2.2.1 zn)(L:List Int):
  a4n s zn L=a4n s ((a1z s.2.2.2.2.2.2.2.2.2.1.1 n ((s.2.2.2.2.2.2.2.2.1.length:Nat):Int)).map a41) L:=by
 by_cases hk:s.1=0∨s.1=1
 simp_all[a4n];rw[(h (not_or.1 hk)).sizes,b1l]
theorem b3u(h:SmallS s)(n:Int):a2a (s,n)=some (a2D s n):=by
 obtain⟨e,f,g,-,-,k,c⟩:=b1W h (n:=n) (L:=[]) (by simp);have a:wL []=(([]:List Int),(0:Int),()):=rfl;rw[a]at g;obtain⟨d,-⟩:=a4L f;unfold a2a a2D;simp[g,a7h];cases hs:(a1P s n).isSome with
 |false=>
  simp_all
 |true=>
  obtain⟨rfl,i,rfl,b⟩:=k hs;rw[if_pos rfl,←b6r b];simp_all
def dif:List Int→List Int
 |a::b::r=>W (b-a)::dif (b::r)
 |_=>[]
theorem a7d:∀l:List Int,(dif l).length=l.length-1
 | []=>rfl
 | [_]=>rfl
 |a::b::r=>by simp[dif,a7d (b::r)]
theorem b6s:∀(l:List Int)(i:Nat)(x y:Int),l[i]?=some x→l[i+1]?=some y→(dif l)[i]?=some (W (y-x))
 |a::b::r,0,x,y,h1,h2=>by simp at h1 h2;subst h1;subst h2;rfl
 |a::b::r,i+1,x,y,h1,h2=>by
  simp only[dif,List.getElem?_cons_succ]at h1 h2⊢;exact b6s (b::r) i x y h1 h2
 | [_],0,x,y,h1,h2=>by simp_all
 | [_],i+1,x,y,h1,h2=>by simp_all
 | [],i,x,y,h1,h2=>by simp_all
def a1Q:Nat→List Int→List Int
 |0,l=>l
 |o+1,l=>dif (a1Q o l)
theorem a4M(l:List Int):∀o,(a1Q o l).length=l.length-o
 |0=>rfl
 |o+1=>by simp only[a1Q,a7d,a4M l o];omega
theorem b1X{l:List Int}(h:short l)(o:Nat):short (a1Q o l):=by
 have h:l.length<1000000:=h;show(a1Q o l).length<1000000;rw[a4M];omega
def a8w(l:List Int)(i:Nat):List Int:=(dif l).take i++l.drop i
theorem b1m(h:i≤l.length-1):(a8w l i).length=l.length:=by
 grind[a8w,a7d]
theorem b6H(h:i≤l.length-1)(g:i≤j):(a8w l i).getD j 0=l.getD j 0:=by
 simp_all[a7d,a8w,List.getElem?_append_right]
theorem c4l(h:i<l.length-1):(a8w l i).set i (W (l.getD (i+1) 0-l.getD i 0))=a8w l (i+1):=by
 have e:((dif l).take i).length=i:=by grind[a7d]
 have f:l[i]?=some l[i]:=lG (by omega);have k:l[i+1]?=some l[i+1]:=lG (by omega);have a:=b6s l i _ _ f k;have g:i<(dif l).length:=by grind
 simp only[a8w];rw[List.set_append,if_neg (by omega),e,a55,a02 (show i<l.length by omega),a58,a48 g,aA]
 grind
theorem c2n{l:List Int}{o k:Int}(g:short l)(h:1≤l.length):y0s a4q ((0:Int),o,k,l,())=some (o,k,a8w l (l.length-1),()):=by
 have g:l.length<1000000:=g;have r:a8w l 0=l:=by rfl
 have:=a2o (f:=a4q) (fun i:Nat=>((i:Int),o,k,a8w l i,())) (l.length-1) (b:=(o,k,a8w l (l.length-1),()))
  (fun i s=>by
   have d:wrap .i64 ((i:Int)+1)=((i+1:Nat):Int):=a0C (by omega);have c:=b1m (l:=l) (i:=i) (by omega);have a:decide (((i+1:Nat):Int)<((l.length:Nat):Int))=true:=by grind
   have e:decide ((0:Int)≤((i+1:Nat):Int))=true:=by rfl
   have m:decide ((0:Int)≤(i:Int))=true:=by simp
   have n:decide ((i:Int)<((l.length:Nat):Int))=true:=by grind
   have n1:a41 ((i+1:Nat):Int)=i+1:=by rfl
   have n2:a41 (i:Int)=i:=by rfl
   have st:=c4l (l:=l) (i:=i) (by omega);have p:=b6H (l:=l) (i:=i) (j:=i+1) (by omega) (by omega);have q:=b6H (l:=l) (i:=i) (j:=i) (by omega) (by omega);simp_all[a4q])
  (by
   have c:=b1m (l:=l) (i:=l.length-1) (by omega);have d:wrap .i64 (((l.length-1:Nat):Int)+1)=((l.length:Nat):Int):=by grind[a0D]
   have a:decide (((l.length:Nat):Int)<((l.length:Nat):Int))=false:=by simp
   simp_all[a4q])
 simp_all
theorem c3m{l:List Int}:(a8w l (l.length-1)).take (l.length-1)=dif l:=by
 simp_all[a47,a7d,a8w]
theorem b2F(y:o≤4)(x:o≤l.length)(g:short l)(r:l.all a0A=true):
  a3M (l,(o:Int))=some (bif (a1Q o l).all a0A then(a1Q o l,0)else([],6)):=by
 have q:l.length<1000000:=g;have h:=a2o (f:=a6m) (fun k:Nat=>((o:Int),(k:Int),a1Q k l,())) o (b:=(a1Q o l,()))
  (fun k v=>by
   have n:1≤(a1Q k l).length:=by rw[a4M];omega
   have p:(a1Q k l).length<1000000:=b1X g k;have j:decide ((k:Int)<(o:Int))=true:=by simp_all
   have w:=b1m (l:=a1Q k l) (i:=(a1Q k l).length-1) (by omega);have z:wrap .i64 ((((a1Q k l).length:Nat):Int)-1)=(((a1Q k l).length-1:Nat):Int):=by grind[a0D]
   have w2:wrap .i64 ((k:Int)+1)=((k+1:Nat):Int):=a0C (by omega);have s:decide ((0:Int)≤(((a1Q k l).length-1:Nat):Int))=true:=by simp
   have t:decide ((((a1Q k l).length-1:Nat):Int)≤(((a1Q k l).length:Nat):Int))=true:=by simp
   have u:decide ((a1Q k l).length-1≤(a1Q k l).length)=true:=by simp
   simp_all[a1Q,a6m,c2n,b1X,c3m])
  (by
   have j:decide ((o:Int)<(o:Int))=false:=by simp
   simp_all[a6m])
 have a:decide ((o:Int)<0)=false:=by simp
 have c:decide ((o:Int) > 4)=false:=by grind
 have d:decide (((l.length:Nat):Int)<(o:Int))=false:=by simp_all
 have e:lim l.length=true:=a1c (by omega);simp at h;have m:a1Q 0 l=l:=rfl;rw[m]at h;unfold a3M;simp only[a,c,d,e,cF,cT,oB,a5W g,r,bT,h,a5W (b1X g o)]
 grind
def ex:Nat→(Nat→Int)→Nat→Int
 |0,f,i=>f i
 |o+1,f,i=>ex o f (i+1)-ex o f i
theorem b4p{l:List Int}(g:l.all a0A=true):∀(o i:Nat),i+o<l.length→(a1Q o l)[i]?=some (W (ex o (fun j=>l.getD j 0) i))
 |0,i,h=>by
  simp_all[a1Q,ex,b3g]
 |o+1,i,h=>by
  have f:=b4p g o i (by omega);have k:=b4p g o (i+1) (by omega);simp_all[a1Q,ex,b6s,a6B]
theorem c3n(e:l.all a0A=true)(d:o≤4)(h:o+j<l.length):W (W (ex o (fun j=>l.getD j 0) j)+a5j o (l.take (o+j)))=l.getD (o+j) 0:=by
 have f:a0A (l.getD (o+j) 0)=true:=by
  simp_all
 have g:∀i:Nat,1≤i→i≤o→atB (l.take (o+j)) i=l.getD (o+j-i) 0:=fun i b c=>by
  simp[atB,a68 (a81 h),List.getElem?_take]
  grind
 have a:ex o (fun j=>l.getD j 0) j+a5j o (l.take (o+j))=l.getD (o+j) 0:=by
  have k:o=0∨o=1∨o=2∨o=3∨o=4:=by omega
  rcases k with rfl|rfl|rfl|rfl|rfl;simp[ex,a5j]
  all_goals grind[ex,a5j]
 have:W (W (ex o (fun j=>l.getD j 0) j)+a5j o (l.take (o+j)))=W (ex o (fun j=>l.getD j 0) j+a5j o (l.take (o+j))):=by
  simp_all[a6B]
 simp_all[b3g]
theorem b8U{l:List Int}(f:l.all a0A=true){o:Nat}(b:o≤4):∀(k j:Nat),o+j+k=l.length→a3w (a5j o) ((a1Q o l).drop j) (l.take (o+j))=some l
 |0,j,h=>by
  rw[List.drop_of_length_le (by rw[a4M];omega),a47 (by omega)];rfl
 |k+1,j,h=>by
  have g:j<(a1Q o l).length:=by rw[a4M];omega
  have a:=b4p f o j (by omega);rw[lG g]at a;have e:=Option.some.inj a;have c:l.getD (o+j) 0=l[o+j]:=by grind
  have st:=c3n f b (show o+j<l.length by omega);rw[c]at st;rw[a02 g,e];simp only[a3w,st,lA.1 f _ (a05 (show o+j<l.length by omega)),cT];have d:l.take (o+j)++[l[o+j]]=l.take (o+(j+1)):=by
   rw[show o+(j+1)=(o+j)+1 by rfl]
   simp
  rw[d];exact b8U f b k (j+1) (by omega)
theorem a6i{σ β:Type}{f:σ→Option (σ ⊕ β)}(I:Nat→σ→Prop)(Q:β→Prop)(n:Nat)(g:∀i s,i<n→I i s→∃s',f s=some (.inl s')∧I (i+1) s')
  (a:∀s,I n s→∃b,f s=some (.inr b)∧Q b):∀(k i:Nat)(s:σ),i+k=n→I i s→∃b,y0s f s=some b∧Q b
 |0,i,s,h,hi=>by
  obtain rfl:i=n:=by omega
  grind[a0H]
 |k+1,i,s,h,hi=>by
  obtain⟨s',c,d⟩:=g i s (by omega) hi;rw[a0I c];exact a6i I Q n g a k (i+1) s' (by omega) d
theorem b3Q(y:Int):0≤wrap .u64 y∧wrap .u64 y<18446744073709551616:=by
 grind[wrap,IntKind.bits,IntKind.signed]
def a9b(n:Int)(x:Int):Bool:=a0A x&&!(a25 x (A0n .i64 1 n) != 0)
def b1Y{β:Type}(n:Int)(bad:β)(out:List Int)(x:Int):List Int ⊕ β:=bif a9b n x then .inl (out++[A0o .i64 x n])else .inr bad
def a8k(n:Int)(l:List Int):Option (List Int):=bif l.all (a9b n)then some (l.map fun x=>A0o .i64 x n)else none
theorem b2G{β:Type}(n:Int)(h:β)(g:List Int→β):∀(l out:List Int),a7m g (a2p (b1Y n h) l out)=match a8k n l with|some r=>g (out++r)|none=>h
 | [],out=>by grind[a2p,a7m,a8k]
 |x::l,out=>by
  simp only[a2p,b1Y,a8k,a07];cases hx:a9b n x with
  |true=>
   simp only[cT,a38];rw[b2G n h g l _];simp only[a8k];cases l.all (a9b n)with
   |true=>simp
   |false=>rfl
  |false=>rfl
theorem b8V{o:Nat}(h:o≤30):A0n .i64 1 (o:Int)=((2^o:Nat):Int):=by
 have g:2^o≤2^30:=a08 (by omega) h
 have:=b4m (N:=1) (o:=o) (by omega) (by omega)
 simp_all
theorem b1B(d:o≤30)(m:l.length<100000):a5F (l,(o:Int))=some (a4g (a8k (o:Int) l)):=by
 have e:short l:=by unfold short;omega
 have g:¬ (o:Int)<0:=by omega
 have b:¬ (o:Int) > 30:=by omega
 have c:(A0n .i64 (1:Int) (o:Int)==0)=false:=by
  rw[b8V d]
  have:0<2^o:=a16 o
  grind
 unfold a5F;simp[g,b]
 have:=a1E (f:=a5u) l (fun i out=>((o:Int),l,(l.length:Int),(i:Int),out,())) (b1Y (o:Int) (Sum.inr ((6:Int),([]:List Int),())))
  (fun i out=>out.length=i) (fun out=>Sum.inl (out,()))
  (fun i h out j=>by
   have k:i<1000000:=by omega
   simp only[a5u,dlt h,cT,a0B h,oB,b1t,b1Y,a9b,g,c,decide_false,cF];cases hb:a0A l[i]with
   |true=>
    cases hb2:(a25 l[i] (A0n .i64 1 (o:Int)) != 0)with
    |false=>
     simp only[cT,bT,cF,oB,g,decide_false,a0P (show out.length+1<1000000 by omega),a0C k,a03,a35,hb2];simp_all
    |true=>
     simp
   |false=>
    simp)
  (fun out _=>by simp[a5u]) (a:=[]) rfl
 simp[b2G]at this;rw[this];cases a8k (o:Int) l<;>rfl
theorem b4q{o:Nat}(h:o≤30){x:Int}(k:a9b (o:Int) x=true):a0A (A0o .i64 x (o:Int))=true∧A0n .i64 (A0o .i64 x (o:Int)) (o:Int)=x∧a0A x=true:=by
 simp only[a9b,b8V h,bA,a32,bne_eq_false_iff_eq]at k;obtain⟨f,d⟩:=k;obtain⟨c,rfl⟩:=Int.dvd_of_tmod_eq_zero d;have g:=a1x.1 f;have e:min (a41 (o:Int)) (IntKind.bits .i64)=o:=by grind[IntKind.bits]
 have hp:(0:Int)<2^o:=Int.pow_pos (by omega);have b:((2^o:Nat):Int)=2^o:=by simp
 rw[b]at g f⊢;have a:A0o .i64 (2^o*c) (o:Int)=c:=by
  unfold A0o
  grind[a62]
 rw[a];refine⟨a1x.2 ?_,?_,f⟩;generalize (2:Int)^o=p at hp g;have i:p*c=(p-1)*c+c:=by grind
 by_cases hc:0≤c
 have:=a46 (show 0≤p-1 by omega) hc
 omega
 have:=a46 (show 0≤p-1 by omega) (show 0≤-c by omega)
 grind
 grind[A0n,a0D]
theorem c5G(h:o≤30)(f:a8k (o:Int) l=some d):d.all a0A=true∧d.length=l.length∧upO (o:Int) d=some l:=by
 unfold a8k at f;cases ha:l.all (a9b (o:Int))with
 |false=>simp_all
 |true=>
  rw[ha]at f;simp at f;subst f;have g:=lA.1 ha;refine⟨?_,by simp,?_⟩;simp_all[b4q];have a:(l.map fun x=>A0o .i64 x (o:Int)).all (fun x=>a0A x&&a0A (A0n .i64 x (o:Int)))=true:=by
   simp only[List.all_map];refine lA.2 fun x k=>?_
   obtain⟨c,e,i⟩:=b4q h (g x k);simp_all
  unfold upO;rw[a]
  simp
  have b:l.map ((fun x=>A0n .i64 x (o:Int))∘fun x=>A0o .i64 x (o:Int))=l.map id:=List.map_congr_left (fun x k=>(b4q h (g x k)).2.1);simp_all
theorem c2o{n warm:Int}(h:a5l n warm=true):(a1z 0 n warm).length≠0:=by
 have g:=h;simp[a5l]at g
 grind[a1z,b1v]
theorem c2p(h:-1048576≤x∧x≤1048575):v0s (v0r x (-1048576)) 1048575=x:=by
 unfold v0s v0r
 grind
theorem c7R(h:a0A x=true):-1048576≤A0o .i64 x ((10:Nat):Int)∧A0o .i64 x ((10:Nat):Int)≤1048575:=by
 have g:=a1x.1 h;have e:A0o .i64 x ((10:Nat):Int)=x / 1024:=by
  show a77 x 1024=_
  grind
 omega
theorem b6I{x:Int}(f:a0A x=true){a l:List Int}{n i:Int}:∀(k s:Nat),s+k=10→∃s':Nat,s'≤10∧y0s a2Y (a,(s:Int),x,l,n,i,())=some (a,(s':Int),l,n,i,())
 |0,s,h=>by
  obtain rfl:s=10:=by omega
  have g:decide (((10:Nat):Int)<0)=false:=by rfl
  have d:=c2p (c7R f);refine⟨10,a26 _,a0H ?_⟩;simp_all[a2Y,a2g]
 |k+1,s,h=>by
  have g:decide ((s:Int)<0)=false:=decide_eq_false (by omega);cases hc:(v0s (v0r (A0o .i64 x (s:Int)) (-1048576)) 1048575 != A0o .i64 x (s:Int))with
  |false=>exact⟨s,by omega,a0H (by simp only[a2Y,g,cF,a2g,oB,hc])⟩
  |true=>
   obtain⟨s',b,c⟩:=b6I f (a:=a) (l:=l) (n:=n) (i:=i) k (s+1) (by omega);refine⟨s',b,?_⟩;rw[a0I (s':=(a,((s+1:Nat):Int),x,l,n,i,())) (by simp only[a2Y,g,cF,a2g,oB,hc,cT,a0C (show s<1000000 by omega)])];omega
theorem c0T(w:l.all a0A=true)(A:l.length<100000):∃r,a6q l=some r∧r.length=l.length:=by
 obtain⟨b,y,s,z,v⟩:=a6i (f:=a4w) (fun i st=>∃s:Nat,s≤10∧st=(l,(s:Int),l,(l.length:Int),(i:Int),())) (fun b=>∃s:Nat,s≤10∧b=(l,(s:Int),())) l.length
  (fun i st g h=>by
   obtain⟨s,q,rfl⟩:=h;obtain⟨s',k,e⟩:=b6I (lA.1 w _ (a05 g)) (a:=l) (l:=l) (n:=(l.length:Int)) (i:=(i:Int)) (10-s) s (by omega);exact⟨_,by simp only[a4w,dlt g,cT,a0B g,oB,e,a0C (show i<1000000 by omega)]<;>rfl,s',k,rfl⟩)
  (fun st h=>by
   obtain⟨s,q,rfl⟩:=h;exact⟨_,by simp_all[a4w],s,q,rfl⟩) l.length 0 _ (by omega) ⟨0,by omega,rfl⟩
 subst v;obtain⟨c,x,o,t,u⟩:=a6i (f:=a4x) (fun i st=>∃o:List Int,st=((s:Int),l,(l.length:Int),(i:Int),o,())∧o.length=l.length) (fun b=>∃o:List Int,b=(o,())∧o.length=l.length) l.length
  (fun i st g h=>by
   obtain⟨o,rfl,p⟩:=h;have d:decide ((s:Int)<0)=false:=decide_eq_false (by omega);have j:decide ((0:Int)≤(i:Int))=true:=by simp
   have m:decide ((i:Int)<((o.length:Nat):Int))=true:=decide_eq_true (by omega);exact⟨_,by simp only[a4x,dlt g,cT,a0B g,oB,d,cF,j,m,a03,a0C (show i<1000000 by omega)]<;>rfl,_,rfl,by grind⟩)
  (fun st h=>by
   obtain⟨o,rfl,p⟩:=h;exact⟨_,by simp_all[a4x],o,rfl,p⟩) l.length 0 _ (by omega) ⟨a00 l.length 0,rfl,by simp⟩
 subst t;refine⟨o,?_,u⟩;have d:decide ((0:Int)≤((l.length:Nat):Int))=true:=by simp
 have j:decide (((l.length:Nat):Int)≤((l.length:Nat):Int))=true:=by simp
 have m:lim l.length=true:=a0P (by omega);simp_all[a6q]
theorem b5e:∀(N:Nat)(num den:Int),den.toNat≤N→∃a b,y0s a2Q (num,den,())=some (a,b,())
 |N,num,den,h=>by
  by_cases hd:den≥1099511627776
  ·have g:decide (den≥(1099511627776:Int))=true:=decide_eq_true hd;have e:A0o .i64 den 1=den / 2:=by
    show a77 den 2=_
    grind
   rw[a0I (s':=(A0o .i64 num 1,den / 2,())) (by simp_all[a2Q])]
   match N with
   |0=>omega
   |N+1=>exact b5e N _ _ (by omega)
  have g:decide (den≥(1099511627776:Int))=false:=decide_eq_false hd;exact⟨num,den,a0H (by simp only[a2Q,g,cF])⟩
theorem b5f{f:List Int}(u:1≤m)(r:g.length=f.length)(t:f.length<100000)(q:m<1000):∃k,a4b (f,g,(m:Int))=some k:=by
 obtain⟨b,n,d,den,o⟩:=a6i (f:=a2P) (fun i st=>∃d den:Int,st=(f,g,d,den,((m+i:Nat):Int),())) (fun b=>∃d den:Int,b=(d,den,())) (f.length-m)
  (fun i st s h=>by
   obtain⟨d,den,rfl⟩:=h;have j:m+i<f.length:=by omega
   have e:wrap .i64 (((m+i:Nat):Int)-1)=((m+i-1:Nat):Int):=by grind[a0D]
   exact⟨_,by simp only[a2P,dlt j,cT,a0B j,e,a0B (show m+i-1<g.length by omega),oB,a0C (show m+i<1000000 by omega)]<;>rfl,_,_,rfl⟩)
  (fun st h=>by
   obtain⟨d,den,rfl⟩:=h;have l:decide (((m+(f.length-m):Nat):Int)<((f.length:Nat):Int))=false:=decide_eq_false (by omega);exact⟨_,by simp only[a2P,l,cF]<;>rfl,_,_,rfl⟩) (f.length-m) 0 (f,g,0,0,(m:Int),()) (by omega) ⟨0,0,rfl⟩
 subst o;obtain⟨a,c,p⟩:=b5e den.toNat d den (a26 _);unfold a4b;simp[n,p];cases hc:(c==0)with
 |true=>simp
 |false=>
  simp
  cases decide ((A0n .i64 a 15).tmod c<0)<;>exact⟨_,rfl⟩
theorem b7N{f:List Int}{order:Int}(y:1≤m)(r:g.length=f.length)(x:f.length<100000)(s:m<1000):
  ∃f' a:List Int,y0s a2H (order,(m:Int),k,((f.length:Nat):Int)-1,f,g,ks,())=some (order,(m:Int),f',a,ks,())∧f'.length=f.length∧a.length=f.length:=by
 obtain⟨b,t,f',a,u,v⟩:=a6i (f:=a2H) (fun i st=>∃f' a:List Int,st=(order,(m:Int),k,((f.length:Nat):Int)-1-(i:Int),f',a,ks,())∧f'.length=f.length∧a.length=f.length)
  (fun b=>∃f' a:List Int,b=(order,(m:Int),f',a,ks,())∧f'.length=f.length∧a.length=f.length) (f.length-m)
  (fun i st w h=>by
   obtain⟨f',a,rfl,c,d⟩:=h;have j:decide (((f.length:Nat):Int)-1-(i:Int)≥(m:Int))=true:=decide_eq_true (by omega);have l:decide ((0:Int)≤((f.length:Nat):Int)-1-(i:Int))=true:=decide_eq_true (by omega);have n:decide (((f.length:Nat):Int)-1-(i:Int)<((f'.length:Nat):Int))=true:=decide_eq_true (by omega);have o:decide (((f.length:Nat):Int)-1-(i:Int)<((a.length:Nat):Int))=true:=decide_eq_true (by omega);have e:wrap .i64 (((f.length:Nat):Int)-1-(i:Int)-1)=((f.length:Nat):Int)-1-((i+1:Nat):Int):=by grind[a0D]
   have p:decide ((0:Int)≤((f.length:Nat):Int)-1-((i+1:Nat):Int))=true:=decide_eq_true (by omega);have q:decide (((f.length:Nat):Int)-1-((i+1:Nat):Int)<((a.length:Nat):Int))=true:=decide_eq_true (by omega);exact⟨_,by simp only[a2H,j,l,n,o,e,p,q,cT,a03,a2g,oB]<;>rfl,_,_,rfl,by simp_all,by simp_all⟩)
  (fun st h=>by
   obtain⟨f',a,rfl,c,d⟩:=h;have j:decide (((f.length:Nat):Int)-1-((f.length-m:Nat):Int)≥(m:Int))=false:=decide_eq_false (by omega);exact⟨_,by simp only[a2H,j,cF]<;>rfl,f',a,rfl,c,d⟩) (f.length-m) 0 _ (by omega) ⟨f,g,rfl,rfl,r⟩
 grind
theorem b8W{f:List Int}(y:o≤32)(v:g.length=f.length)(x:f.length<100000):∃ks:List Int,y0s a2I ((o:Int),(1:Int),f,g,([]:List Int),())=some (ks,())∧ks.length=o:=by
 obtain⟨b,p,ks,t,u⟩:=a6i (f:=a2I) (fun i st=>∃f' a ks:List Int,st=((o:Int),((i+1:Nat):Int),f',a,ks,())∧f'.length=f.length∧a.length=f.length∧ks.length=i)
  (fun b=>∃ks:List Int,b=(ks,())∧ks.length=o) o
  (fun i st w h=>by
   obtain⟨f',a,ks,rfl,j,l,q⟩:=h;have d:decide (((i+1:Nat):Int)≤(o:Int))=true:=decide_eq_true (by omega);obtain⟨k,n⟩:=b5f (f:=f') (g:=a) (m:=i+1) (by omega) (by omega) (by omega) (by omega);have e:wrap .i64 (((f'.length:Nat):Int)-1)=((f'.length:Nat):Int)-1:=a0D (by omega);obtain⟨r,s,p,t,u⟩:=b7N (f:=f') (g:=a) (ks:=ks++[k]) (m:=i+1) (order:=(o:Int)) (k:=k) (by omega) (by omega) (by omega) (by omega);have c:lim (ks.length+1)=true:=a0P (by omega);exact⟨_,by simp only[a2I,d,cT,n,oB,c,e,a06,p,a0C (show i+1<1000000 by omega)]<;>rfl,r,s,ks++[k],rfl,by omega,by omega,by grind⟩)
  (fun st h=>by
   obtain⟨f',a,ks,rfl,j,l,q⟩:=h;have d:decide (((o+1:Nat):Int)≤(o:Int))=false:=decide_eq_false (by omega);exact⟨_,by simp only[a2I,d,cF]<;>rfl,ks,rfl,q⟩) o 0 _ (by omega) ⟨f,g,[],rfl,rfl,v,rfl⟩
 simp_all
theorem b8X(h:l.all a0A=true)(t:l.length≤4096)(s:1≤o)(m:o≤32):∃ks:List Int,a5x (l,(o:Int))=some (ks,0)∧ks.length=o:=by
 have p:short l:=by unfold short;omega
 obtain⟨r,e,q⟩:=c0T h (by omega);have n:short r:=by unfold short;omega
 obtain⟨ks,i,j⟩:=b8W (f:=r) (g:=r) m rfl (by omega);have k:decide ((o:Int)<1)=false:=decide_eq_false (by omega);have a:decide ((o:Int) > 32)=false:=decide_eq_false (by omega);have b:decide (((l.length:Nat):Int) > 4096)=false:=decide_eq_false (by omega);have c:decide ((0:Int)≤(o:Int))=true:=by simp
 have d:lim o=true:=a0P (by omega);refine⟨ks,?_,j⟩;unfold a5x;simp only[k,a,b,c,d,cF,cT,oB,a4V p,h,bT,e,a6C n,tN,a03,i]
theorem b0B{σ β:Type}{f:σ→Option (σ ⊕ β)}(I:Nat→σ→Prop)(Q:β→Prop)(n:Nat)(g:∀i s,i<n→I i s→(∃s',f s=some (.inl s')∧I (i+1) s')∨(∃b,f s=some (.inr b)∧Q b))
  (a:∀s,I n s→∃b,f s=some (.inr b)∧Q b):∀(k i:Nat)(s:σ),i+k=n→I i s→∃b,y0s f s=some b∧Q b
 |0,i,s,h,hi=>by
  obtain rfl:i=n:=by omega
  grind[a0H]
 |k+1,i,s,h,hi=>by
  rcases g i s (by omega) hi with⟨s',c,d⟩|⟨b,c,d⟩;rw[a0I c];exact b0B I Q n g a k (i+1) s' (by omega) d;simp_all[a0H]
theorem c0U(k:ks.length≤32):∃b,y0s a1M (ks,ks,(ks.length:Int),(0:Int),())=some b∧(b=.inl (ks,())∨b=.inr (([]:List Int),(1:Int),())):=
 b0B (f:=a1M) (fun i s=>s=(ks,ks,(ks.length:Int),(i:Int),())) (fun b=>b=.inl (ks,())∨b=.inr (([]:List Int),(1:Int),())) ks.length
  (fun i s g h=>by
   subst h;cases h1:decide (ks[i]<(-16383:Int))with
   |true=>exact Or.inr ⟨_,by simp_all[a1M,a0B],Or.inr rfl⟩
   |false=>
    cases h2:decide (ks[i] > (16383:Int))with
    |true=>exact Or.inr ⟨_,by simp_all[a1M,a0B],Or.inr rfl⟩
    |false=>exact Or.inl ⟨_,by simp only[a1M,dlt g,cT,cF,a0B g,oB,h1,h2,a0C (show i<1000000 by omega)]<;>rfl,rfl⟩)
  (fun s h=>by
   subst h;exact⟨_,by simp_all[a1M],Or.inl rfl⟩) ks.length 0 _ (by omega) rfl
theorem c0V{a:List Int}(t:c.length=i)(u:i≤32):
  ∃g:List Int,y0s a3s (c,(i:Int),k,a,n,(i:Int),c,(c.length:Int),(0:Int),([]:List Int),())=some (k,a,n,(i:Int),g,())∧g.length=i:=by
 obtain⟨b,p,g,q,r⟩:=a6i (f:=a3s) (fun j s=>∃g:List Int,s=(c,(i:Int),k,a,n,(i:Int),c,(c.length:Int),(j:Int),g,())∧g.length=j)
  (fun b=>∃g:List Int,b=(k,a,n,(i:Int),g,())∧g.length=c.length) c.length
  (fun j s e h=>by
   obtain⟨g,rfl,l⟩:=h;have m:wrap .i64 ((i:Int)-1)=(i:Int)-1:=a0D (by omega);have o:wrap .i64 ((i:Int)-1-(j:Int))=((i-1-j:Nat):Int):=by grind[a0D]
   have d:lim (g.length+1)=true:=a0P (by omega);exact⟨_,by simp only[a3s,dlt e,cT,a0B e,oB,m,o,a0B (show i-1-j<c.length by omega),d,a0C (show j<1000000 by omega),a06]<;>rfl,_,rfl,by grind⟩)
  (fun s h=>by
   obtain⟨g,rfl,l⟩:=h;exact⟨_,by simp_all[a3s],g,rfl,l⟩) c.length 0 _ (by omega) ⟨[],rfl,rfl⟩
 simp_all
theorem c2q(y:1≤ks.length)(w:ks.length≤32):∃c e,a6R ks=some (c,e)∧(e=0→c.length=ks.length):=by
 obtain⟨b,p,q⟩:=c0U w;have j:decide (((ks.length:Nat):Int)<1)=false:=decide_eq_false (by omega);have l:decide (((ks.length:Nat):Int) > 32)=false:=decide_eq_false (by omega);unfold a6R;simp[j,l,p];rcases q with rfl|rfl;obtain⟨r,t,c,u,v⟩:=a6i (f:=a4Q) (fun i s=>∃c:List Int,s=(c,ks,(ks.length:Int),(i:Int),())∧c.length=i) (fun r=>∃c:List Int,r=(c,())∧c.length=ks.length) ks.length
  (fun i s d h=>by
   obtain⟨c,rfl,g⟩:=h;have o:wrap .i64 ((i:Int)+1)=((i+1:Nat):Int):=a0C (by omega);have m:decide ((0:Int)≤((i+1:Nat):Int))=true:=by rfl
   have l1:lim (i+1)=true:=a0P (by omega);obtain⟨x,n1,n2⟩:=c0V (c:=c) (a:=ks) (i:=i) (k:=ks[i]) (n:=(ks.length:Int)) g (by omega);have l2:lim (x.length+1)=true:=a0P (by omega);exact⟨_,by simp only[a4Q,dlt d,cT,a0B d,oB,o,m,tN,l1,a03,n1,l2,a06]<;>rfl,_,rfl,by grind⟩)
  (fun s h=>by
   obtain⟨c,rfl,g⟩:=h;exact⟨_,by simp_all[a4Q],c,rfl,g⟩) ks.length 0 _ (by omega) ⟨[],rfl,rfl⟩
 subst u;simp at t;exact⟨c,0,by simp_all,fun _=>v⟩
 grind
theorem c0W{s:Nat}{half:Int}(m:c.length≤32)(d:w≤32):
  ∃out:List Int,y0s a1O (c,(w:Int),(s:Int),half,c,(c.length:Int),(0:Int),([]:List Int),())=some (c,(w:Int),(s:Int),out,()):=by
 obtain⟨b,i,out,l⟩:=b0B (f:=a1O) (fun j st=>∃out:List Int,st=(c,(w:Int),(s:Int),half,c,(c.length:Int),(j:Int),out,())∧out.length=j)
  (fun b=>∃out:List Int,b=(c,(w:Int),(s:Int),out,())) c.length
  (fun j st k h=>by
   obtain⟨out,rfl,e⟩:=h;have a:decide ((s:Int)<0)=false:=decide_eq_false (by omega);have g:lim (out.length+1)=true:=a0P (by omega);cases hf:a1r (A0o .i64 (wrap .i64 (c[j]+half)) (s:Int)) (w:Int)with
   |true=>exact Or.inl ⟨_,by simp only[a1O,dlt k,cT,a0B k,oB,a,cF,a5n d,hf,bT,g,a0C (show j<1000000 by omega),a06]<;>rfl,_,rfl,by grind⟩
   |false=>exact Or.inr ⟨_,by simp only[a1O,dlt k,cT,a0B k,oB,a,cF,a5n d,hf,a35]<;>rfl,out,rfl⟩)
  (fun st h=>by
   obtain⟨out,rfl,e⟩:=h;exact⟨_,by simp_all[a1O],out,rfl⟩) c.length 0 _ (by omega) ⟨[],rfl,rfl⟩
 simp_all
theorem c0X{w:Int}(k:c.length≤32):∃b,y0s a1N (c,w,c,(c.length:Int),(0:Int),())=some b∧(b=.inl (c,w,())∨b=.inr ((0:Int),(1:Int),([]:List Int),())):=
 b0B (f:=a1N) (fun i s=>s=(c,w,c,(c.length:Int),(i:Int),())) (fun b=>b=.inl (c,w,())∨b=.inr ((0:Int),(1:Int),([]:List Int),())) c.length
  (fun i s g h=>by
   subst h;cases h1:decide (c[i]<(-35184372088832:Int))with
   |true=>exact Or.inr ⟨_,by simp_all[a1N,a0B],Or.inr rfl⟩
   |false=>
    cases h2:decide (c[i] > (35184372088832:Int))with
    |true=>exact Or.inr ⟨_,by simp_all[a1N,a0B],Or.inr rfl⟩
    |false=>exact Or.inl ⟨_,by simp only[a1N,dlt g,cT,cF,a0B g,oB,h1,h2,a0C (show i<1000000 by omega)]<;>rfl,rfl⟩)
  (fun s h=>by
   subst h;exact⟨_,by simp_all[a1N],Or.inl rfl⟩) c.length 0 _ (by omega) rfl
theorem c2r(z:1≤c.length)(n:c.length≤32)(C:2≤w∧w≤16):∃o sh e,a6S (c,(w:Int))=some (o,sh,e)∧(e=0→o.length=c.length):=by
 obtain⟨b,v,x⟩:=c0X (w:=(w:Int)) n;have p:decide (((c.length:Nat):Int)<1)=false:=decide_eq_false (by omega);have q:decide (((c.length:Nat):Int) > 32)=false:=decide_eq_false (by omega);have t:decide ((w:Int)<2)=false:=decide_eq_false (by omega);have u:decide ((w:Int) > 16)=false:=decide_eq_false (by omega);unfold a6S;simp[p,q,t,u,v];rcases x with rfl|rfl
 ·obtain⟨r,A,y⟩:=b0B (f:=a2u) (fun i s=>s=(c,(w:Int),(i:Int),())) (fun r=>r=.inl ()∨∃(sh:Int)(o:List Int),r=.inr (sh,(0:Int),o,())∧o.length=c.length) 15
   (fun i s B h=>by
    subst h;have d:decide ((i:Int)≤14)=true:=decide_eq_true (by omega);have j:decide ((0:Int)≤((c.length:Nat):Int))=true:=by simp
    have l1:lim c.length=true:=a0P (by omega);have k:∀g:Int,∃o:List Int,y0s a1O (c,(w:Int),(i:Int),g,c,(c.length:Int),(0:Int),([]:List Int),())=some (c,(w:Int),(i:Int),o,()):=fun g=>c0W n (by omega)
    by_cases hp:(i:Int) > 0
    ·have m:wrap .i64 ((i:Int)-1)=(i:Int)-1:=a0D (by omega);have l:decide ((i:Int)-1<0)=false:=decide_eq_false (by omega);obtain⟨o,a⟩:=k (A0n .i64 1 ((i:Int)-1));cases hc:((((o.length:Nat):Int))==((c.length:Nat):Int))with
     |true=>exact Or.inr ⟨_,by simp only[a2u,d,cT,hp,decide_true,m,l,cF,oB,j,tN,l1,a03,a,hc]<;>rfl,Or.inr ⟨_,o,rfl,by grind⟩⟩
     |false=>exact Or.inl ⟨_,by simp only[a2u,d,cT,hp,decide_true,m,l,cF,oB,j,tN,l1,a03,a,hc,a0C (show i<1000000 by omega)]<;>rfl,rfl⟩
    ·obtain⟨o,a⟩:=k 0;cases hc:((((o.length:Nat):Int))==((c.length:Nat):Int))with
     |true=>exact Or.inr ⟨_,by simp only[a2u,d,cT,hp,decide_false,cF,oB,j,tN,l1,a03,a,hc]<;>rfl,Or.inr ⟨_,o,rfl,by grind⟩⟩
     |false=>exact Or.inl ⟨_,by simp only[a2u,d,cT,hp,decide_false,cF,oB,j,tN,l1,a03,a,hc,a0C (show i<1000000 by omega)]<;>rfl,rfl⟩)
   (fun s h=>by
    subst h;have d:decide (((15:Nat):Int)≤14)=false:=by rfl
    exact⟨_,by rfl,Or.inl rfl⟩) 15 0 (c,(w:Int),(0:Int),()) (by rfl) rfl
  rcases y with rfl|⟨sh,o,rfl,a⟩;exact⟨[],0,6,by simp_all,fun h=>absurd h (by simp)⟩;exact⟨o,sh,0,by simp_all,fun _=>a⟩
 grind
theorem c3o(j:l.all a0A=true)(d:l.length≤4096)(k:1≤o)(a:o≤32)(b:2≤w∧w≤16):∃c sh e,a3n (l,(o:Int),(w:Int))=some (c,sh,e)∧(e=0→c.length=o):=by
 obtain⟨ks,g,n⟩:=b8X j d k a;obtain⟨c,e,f,p⟩:=c2q (ks:=ks) (by omega) (by omega);unfold a3n;simp[g,f]
 by_cases he:e=0
 subst he;obtain⟨s,sh,m,q,r⟩:=c2r (c:=c) (w:=w) (by omega) (by omega) b
 grind
 have i:(e != 0)=true:=by simp_all
 exact⟨[],0,e,by grind,fun h=>absurd h he⟩
theorem c2s(c:l.length<100000)(d:o≤4):∃v,a7z (l,(o:Int))=some v:=by
 obtain⟨b,k,v,a⟩:=a6i (f:=a3Q) (fun i s=>∃v:Int,s=((o:Int),v,l,(l.length:Int),(i:Int),())) (fun b=>∃v:Int,b=(v,())) l.length
  (fun i s g h=>by
   obtain⟨v,rfl⟩:=h;cases hc:decide (wrap .i64 ((i:Int)+(o:Int))≥4)with
   |true=>exact⟨_,by simp only[a3Q,dlt g,cT,a0B g,oB,hc,a0C (show i<1000000 by omega)]<;>rfl,_,rfl⟩
   |false=>exact⟨_,by simp only[a3Q,dlt g,cT,cF,a0B g,oB,hc,a0C (show i<1000000 by omega)]<;>rfl,_,rfl⟩)
  (fun s h=>by
   obtain⟨v,rfl⟩:=h;exact⟨_,by simp_all[a3Q],v,rfl⟩) l.length 0 ((o:Int),(0:Int),l,(l.length:Int),(0:Int),()) (by omega) ⟨0,rfl⟩
 simp_all[a7z]
theorem b5g(h:o≤4)(b:l.length<100000)(g:l.all a0A=true):∃r e,a3M (l,(o:Int))=some (r,e)∧r.length≤l.length:=by
 by_cases hn:o≤l.length
 ·rw[b2F h hn (by unfold short;omega) g];cases (a1Q o l).all a0A with
  |true=>exact⟨_,_,rfl,by rw[a4M];omega⟩
  |false=>simp
 have f:decide ((o:Int)<0)=false:=decide_eq_false (by omega);have k:decide ((o:Int) > 4)=false:=decide_eq_false (by omega);have a:decide (((l.length:Nat):Int)<(o:Int))=true:=decide_eq_true (by omega);simp_all[a3M]
theorem b5h(d:l.length<100000)(j:l.all a0A=true):∃o:Nat,a5b l=some (o:Int)∧o≤4:=by
 obtain⟨b,n,o,p,q⟩:=a6i (f:=a3g) (fun i s=>∃(o:Nat)(v:Int),s=(l,(o:Int),v,(i:Int),())∧o≤4) (fun b=>∃o:Nat,b=((o:Int),())∧o≤4) 5
  (fun i s t h=>by
   obtain⟨o,v,rfl,a⟩:=h;have g:decide ((i:Int)≤4)=true:=decide_eq_true (by omega);obtain⟨r,e,k,m⟩:=b5g (o:=i) (by omega) d j;obtain⟨y,c⟩:=c2s (l:=r) (o:=i) (by omega) (by omega);cases hc:(e != 0)with
   |true=>exact⟨_,by simp only[a3g,g,cT,k,oB,hc,a0C (show i<1000000 by omega)]<;>rfl,o,v,rfl,a⟩
   |false=>
    cases h4:decide (v<0)with
    |true=>exact⟨_,by simp only[a3g,g,cT,cF,k,oB,hc,c,h4,a0C (show i<1000000 by omega)]<;>rfl,i,y,rfl,by omega⟩
    |false=>
     cases h5:decide (y<v)with
     |true=>exact⟨_,by simp only[a3g,g,cT,cF,k,oB,hc,c,h4,h5,a0C (show i<1000000 by omega)]<;>rfl,i,y,rfl,by omega⟩
     |false=>exact⟨_,by simp only[a3g,g,cT,cF,k,oB,hc,c,h4,h5,a0C (show i<1000000 by omega)]<;>rfl,o,v,rfl,a⟩)
  (fun s h=>by
   obtain⟨o,v,rfl,a⟩:=h;have g:decide (((5:Nat):Int)≤4)=false:=by rfl
   exact⟨_,by rfl,o,rfl,a⟩) 5 0 (l,(0:Int),(-1:Int),(0:Int),()) (by rfl) ⟨0,-1,rfl,by omega⟩
 grind[a5b]
def a7G(g:List Int→Int):List Int→List Int→List Int
 | [],_=>[]
 |x::r,done=>W (x-g done)::a7G g r (done++[x])
theorem b0C(g:List Int→Int):∀r done,(a7G g r done).length=r.length
 | [],_=>rfl
 |x::r,done=>by simp[a7G,b0C g r]
theorem c3p{x g:Int}(h:a0A x=true):W (W (x-g)+g)=x:=by
 have:=b3g h
 simp_all[a6B]
theorem b1Z(g:List Int→Int):∀(r done:List Int),r.all a0A=true→a3w g (a7G g r done) done=some (done++r)
 | [],done,_=>by simp[a7G,a3w]
 |x::r,done,h=>by
  rw[a07,bA]at h;simp only[a7G,a3w,c3p h.1,h.1,cT,b1Z g r (done++[x]) h.2,aA,a72]
def a9c(g:List Int→Int)(r done:List Int):Option (List Int):=bif (a7G g r done).all a0A then some (a7G g r done)else none
def b0X{β:Type}(g:List Int→Int)(bad:β)(a:List Int×List Int)(x:Int):(List Int×List Int) ⊕ β:=
 bif a0A (W (x-g a.1))then .inl (a.1++[x],a.2++[W (x-g a.1)])else .inr bad
theorem b2a{β:Type}(g:List Int→Int)(f:β)(k:List Int×List Int→β):∀(r done acc:List Int),
  a7m k (a2p (b0X g f) r (done,acc))=match a9c g r done with|some e=>k (done++r,acc++e)|none=>f
 | [],done,acc=>by grind[a2p,a7m,a9c,a7G]
 |x::r,done,acc=>by
  simp[a2p,b0X];cases h:a0A (W (x-g done))with
  |true=>
   simp
   rw[b2a g f k r];simp only[a9c,a7G,a07,h,a38]
   grind
  |false=>simp_all[a7m,a9c,a7G]
theorem b5i{g:List Int→Int}{done e:List Int}(h:a9c g r done=some e):e=a7G g r done∧e.all a0A=true:=by
 unfold a9c at h
 grind
theorem b6J(h:i<l.length):l.take i++[l[i]]=l.take (i+1):=by simp
theorem b4r{l:List Int}{p:Int→Bool}(h:l.all p=true)(i:Nat):(l.take i).all p=true:=by
 grind
theorem c4m{p:Int→Bool}(h:l.all p=true)(i:Nat):(l.drop i).all p=true:=by
 grind
theorem b6K{σ β:Type}{f:σ→Option (σ ⊕ β)}(l:List Int)(k:Nat)(r:k≤l.length)(S:Nat→List Int→σ)(g:List Int×List Int→Int→(List Int×List Int) ⊕ β)(d:List Int→β)
  (j:∀i (h:i<l.length) c,k≤i→c.length=i-k→(∀a',g (l.take i,c) l[i]=.inl a'→f (S i c)=some (.inl (S (i+1) a'.2))∧a'.1=l.take (i+1)∧a'.2.length=i+1-k)∧(∀b,g (l.take i,c) l[i]=.inr b→f (S i c)=some (.inr b)))
  (e:∀c,c.length=l.length-k→f (S l.length c)=some (.inr (d c))):y0s f (S k [])=some (a7m (fun a=>d a.2) (a2p g (l.drop k) (l.take k,[]))):=by
 have h:=a1E (f:=f) (l.drop k) (fun i a=>S (k+i) a.2) g (fun i a=>a.1=l.take (k+i)∧a.2.length=i) (fun a=>d a.2)
  (fun i p a n=>by
   obtain⟨a1,c⟩:=a;obtain⟨m,o⟩:=n;simp only at m o;subst m;rw[a51]at p;have q:k+i<l.length:=by omega
   grind)
  (fun a n=>by
   simp_all) (a:=(l.take k,[])) ⟨by simp,rfl⟩
 omega
def b2b(l c:List Int)(s:Int):Option (List Int):=bif l.all a0A then a9c (a8s c s) (l.drop c.length) (l.take c.length)else none
theorem b1C{s:Int}(w:a7I c s=true)(u:c.length≤l.length)(z:l.length<100000):
  a5I (l,c,s)=some (a4g (b2b l c s)):=by
 have n:short l:=by unfold short;omega
 have k:short c:=by unfold short;omega
 have e:0≤s:=by simp_all[a7I]
 have p:decide (((l.length:Nat):Int)<((c.length:Nat):Int))=false:=by simp_all
 unfold a5I b2b;simp only[a7D k,w,oB,bT,cF,p,a4V n];cases hw:l.all a0A with
 |false=>rfl
 |true=>
  have q:wrap .i64 (((l.length:Nat):Int)-((c.length:Nat):Int))=((l.length-c.length:Nat):Int):=by grind[a0D]
  have y:decide ((0:Int)≤((l.length-c.length:Nat):Int))=true:=by simp
  have r:lim (l.length-c.length)=true:=a0P (by omega);simp[q,r]
  have:=b6K (f:=a3O) l c.length u (fun i h=>(l,c,s,(i:Int),h,())) (b0X (a8s c s) (.inr ((6:Int),([]:List Int),()))) (fun h=>.inl (h,()))
   (fun i a h v d=>by
    have o:short (l.take i):=by unfold short;grind
    have j:decide ((0:Int)≤(i:Int))=true:=by simp
    have m:decide ((i:Int)≤((l.length:Nat):Int))=true:=by grind
    have t:lim (h.length+1)=true:=a0P (by omega);constructor
    ·intro x g;unfold b0X at g;cases hq:a0A (W (l[i]-a8s c s (l.take i)))with
     |false=>simp_all
     |true=>
      simp only[hq,cT,Sum.inl.injEq]at g;subst g;refine⟨?_,b6J a,by grind⟩;simp only[a3O,dlt a,cT,a0B a,oB,j,m,a03,tN,b1R o k e,a5i,hq,bT,cF,t,a0C (a17 a n),a06]
    ·intro b hb;unfold b0X at hb;cases hq:a0A (W (l[i]-a8s c s (l.take i)))with
     |true=>simp_all
     |false=>
      simp[hq]at hb;subst hb;simp only[a3O,dlt a,cT,a0B a,oB,j,m,a03,tN,b1R o k e,a5i,hq,a35])
   (fun h d=>by simp[a3O])
  rw[this,b2a];cases a9c (a8s c s) (l.drop c.length) (l.take c.length)<;>rfl
theorem b2c{s:Int}(h:b2b l c s=some r):a9S (l.take c.length) r c s=some l∧r.all a0A=true∧r.length=l.length-c.length:=by
 unfold b2b at h;cases hw:l.all a0A with
 |false=>simp_all
 |true=>
  simp[hw]at h;obtain⟨e,g⟩:=b5i h;refine⟨?_,g,by simp_all[b0C]⟩;simp[a9S,b4r hw,g]
  grind[b1Z,List.take_append_drop]
def b1D(l:List Int)(lag:Int)(t:List Int):Option (List Int):=bif l.all a0A then a9c (a7E lag t) l []else none
theorem b8Y(p:a8Y lag t=true)(d:t.length=3)(s:l.length<100000):
  a6b (l,lag,t)=some (a4g (b1D l lag t)):=by
 have c:short l:=by unfold short;omega
 obtain⟨j,m⟩:2≤lag∧lag≤1024:=by simp_all[a8Y]
 unfold a6b b1D;simp only[b1h d,p,oB,bT,cF,b0P c];cases hw:l.all a0A with
 |false=>rfl
 |true=>
  have r:decide ((0:Int)≤((l.length:Nat):Int))=true:=by simp
  have e:lim l.length=true:=a0P (by omega);simp[e]
  have:=b6K (f:=a4Y) l 0 (Nat.zero_le _) (fun i h=>(l,lag,l,(l.length:Int),(i:Int),h,t,())) (b0X (a7E lag t) (.inr ((6:Int),([]:List Int),()))) (fun h=>.inl (h,()))
   (fun i a h o k=>by
    have n:lim (h.length+1)=true:=a0P (by omega);have hp:=b0R (lag:=lag) (t:=t) (a81 a) c d j m;constructor
    ·intro q g;unfold b0X at g;cases hq:a0A (W (l[i]-a7E lag t (l.take i)))with
     |false=>simp_all
     |true=>
      simp only[hq,cT,Sum.inl.injEq]at g;subst g;refine⟨?_,b6J a,by simp_all⟩;simp only[a4Y,dlt a,cT,a0B a,oB,hp,a6A,hq,bT,cF,n,a0C (a17 a c),a06]
    ·intro b hb;unfold b0X at hb;cases hq:a0A (W (l[i]-a7E lag t (l.take i)))with
     |true=>simp_all
     |false=>
      simp_all[a4Y,a0B,a6A])
   (fun h k=>by simp[a4Y])
  simp only[nZ]at this;rw[this,b2a,a27,List.take_zero];cases a9c (a7E lag t) l []<;>rfl
theorem b3k(h:b1D l lag t=some r):b0S r lag t=some l∧r.all a0A=true∧r.length=l.length:=by
 unfold b1D at h;cases hw:l.all a0A with
 |false=>simp_all
 |true=>
  simp[hw]at h;obtain⟨e,g⟩:=b5i h;refine⟨?_,g,by rw[e,b0C]⟩;simp[b0S,g];simp_all[b1Z]
def rsG:List Int→Fil→List Int
 | [],_=>[]
 |x::r,f=>W (x-a1a f)::rsG r (a9D f x)
theorem b2d:∀r f,(rsG r f).length=r.length
 | [],_=>rfl
 |x::r,f=>by simp[rsG,b2d r]
def rsO:List Int→List Int→Fil→Option (List Int)
 | [],done,_=>some done
 |x::r,done,f=>bif a0A (W (x-a1a f))then rsO r (done++[W (x-a1a f)]) (a9D f x)else none
theorem c3q:∀(r done:List Int)(f:Fil),rsO r done f=bif (rsG r f).all a0A then some (done++rsG r f)else none
 | [],done,f=>by simp[rsO,rsG]
 |x::r,done,f=>by
  simp[rsO,rsG];cases a0A (W (x-a1a f))with
  |false=>rfl
  |true=>simp_all[c3q]
theorem c1l:∀(r z:List Int)(f:Fil),r.all a0A=true→stO (rsG r f) z f=some (z++r)
 | [],z,f,_=>by simp[rsG,stO]
 |x::r,z,f,h=>by
  rw[a07,bA]at h;have e:W (a1a f+W (x-a1a f))=x:=by grind[c3p]
  simp only[rsG,stO,e,h.1,cT,c1l r _ _ h.2,aA,a72]
theorem b0Y{row:List Int}{a:List Stg}{b c:Int}(l:short row):∀(k i:Nat)(done:List Int)(f:Fil),i+k=row.length→done.length=i→FilOk f→
  y0s a4t (a,b,c,(row.length:Int),(i:Int),done++row.drop i,f,())=some (match rsO (row.drop i) done f with
   |some r=>.inl (a,b,c,r,())
   |none=>.inr ((6:Int),([]:List Int),()))
 |0,i,done,f,h,hd,hf=>by
  obtain rfl:i=row.length:=by omega
  rw[a49,a39];exact a0H (b:=Sum.inl (a,b,c,done,())) (by simp[a4t])
 |k+1,i,done,f,h,hd,hf=>by
  have g:i<row.length:=by omega
  have m:row.length<1000000:=l;have e:decide ((0:Int)≤(i:Int))=true:=by simp
  have n:(done++row.drop i).length=row.length:=by grind
  have j:decide ((i:Int)<(((done++row.drop i).length:Nat):Int))=true:=by simp_all
  have d:rsO (row.drop i) done f=bif a0A (W (row[i]-a1a f))then rsO (row.drop (i+1)) (done++[W (row[i]-a1a f)]) (a9D f row[i])else none:=by
   rw[a02 g];rfl
  rw[d];cases hw:a0A (W (row[i]-a1a f))with
  |true=>
   rw[a0I (s':=(a,b,c,(row.length:Int),((i+1:Nat):Int),(done++[W (row[i]-a1a f)])++row.drop (i+1),a9D f row[i],())) (by
    simp only[a4t,dlt g,e,j,cT,a03,a5k hf,oB,tN,b0T hd g,a4m,hw,bT,cF,b2A hf,b8I hd g,a0C (show i<1000000 by omega)])]
   exact b0Y l k (i+1) _ _ (by omega) (by simp_all) (b8H hf _)
  |false=>
   exact a0H (by
    simp only[a4t,dlt g,e,j,cT,a03,a5k hf,oB,tN,b0T hd g,a4m,hw,a35];rfl)
def lRO:List Stg→List Int→Option (List Int)
 | [],row=>some row
 |s::r,row=>match rsO row [] (a8t s)with
  |some row'=>lRO r row'
  |none=>none
theorem b8Z{f:Fil}(h:rsO row [] f=some d):d=rsG row f∧d.all a0A=true:=by
 rw[c3q]at h
 grind
theorem b6L:∀(a b:List Stg)(row:List Int),lO (a++b) row=match lO a row with|some r=>lO b r|none=>none
 | [],b,row=>rfl
 |s::a,b,row=>by
  simp only[a63,lO];split;exact b6L a b _;rfl
theorem b9a:∀(st:List Stg)(row d:List Int),row.all a0A=true→lRO st row=some d→lO st.reverse d=some row∧d.all a0A=true∧d.length=row.length
 | [],row,d,hw,h=>by
  simp[lRO]at h;subst h;exact⟨rfl,hw,rfl⟩
 |s::st,row,d,hw,h=>by
  simp only[lRO]at h
  split at h
  rename_i g c;obtain⟨e,f⟩:=b8Z c;obtain⟨k,a,b⟩:=b9a st g d f h;refine⟨?_,a,by rw[b,e,b2d]⟩;rw[List.reverse_cons,b6L,k];simp only[lO];rw[e,c1l row [] _ hw,a09];cases h
theorem a9s{st:List Stg}(f:∀s∈st,stageB s=true)(l:st.length≤3):∀(j k:Nat)(row:List Int),k+j=st.length→short row→
  y0s a4u (st,(st.length:Int),(k:Int),row,())=some (match lRO (st.drop k) row with
   |some r=>.inl (r,())
   |none=>.inr ((6:Int),([]:List Int),()))
 |0,k,row,h,hs=>by
  obtain rfl:k=st.length:=by omega
  simp_all[a0H,a4u,lRO]
 |j+1,k,row,h,hs=>by
  have d:k<st.length:=by omega
  have g:=f _ (a05 d);have e:=b0Y (a:=st) (b:=(st.length:Int)) (c:=(k:Int)) hs row.length 0 [] (a8t st[k]) (by omega) rfl (c1k g);simp at e;have i:((0:Int) != 0)=false:=rfl;rw[a02 d];simp[lRO];cases hr:rsO row [] (a8t st[k])with
  |some r=>
   rw[hr]at e;rw[a0I (s':=(st,(st.length:Int),((k+1:Nat):Int),r,())) (by simp only[a4u,dlt d,cT,a0B d,oB,a9U g,i,cF,e,a0C (show k<1000000 by omega)])];exact a9s f l j (k+1) r (by omega) (by have:=(b8Z hr).1;unfold short at hs⊢;simp_all[b2d])
  |none=>
   simp_all[a0H,a4u,a0B,a9U]
def a9H(l:List Int)(st:List Stg):Option (List Int):=bif l.all a0A then lRO st l else none
theorem b7O(k:a7v st=true)(a:l.length<100000):a7U (l,st)=some (a4g (a9H l st)):=by
 have h:=k;simp only[a7v,bA,dT]at h;have f:short st:=by unfold short;omega
 have g:short l:=by unfold short;omega
 unfold a7U a9H;simp only[a9R f,k,oB,bT,cF,a9Q g];cases hw:l.all a0A with
 |false=>rfl
 |true=>
  have:=a9s (lA.1 h.2) h.1 st.length 0 l (by omega) g
  simp at this;simp[a6C g,this];cases lRO st l<;>rfl
theorem b5j(h:a9H l st=some r):a9j r st=some l∧r.all a0A=true∧r.length=l.length:=by
 unfold a9H at h;cases hw:l.all a0A with
 |false=>simp_all
 |true=>
  simp[hw]at h;obtain⟨f,g,k⟩:=b9a st l r hw h;exact⟨by simp only[a9j,g,cT,f],g,k⟩
theorem p64{w:Nat}(h:w≤64):((2^w:Nat):Int) ∣ 18446744073709551616:=a19.2 (a54 2 h)
theorem c6v(n:Int):∃q,wrap .i64 n=n+18446744073709551616*q:=by
 rw[a6B,Int.bmod];split;exact⟨-(n / 18446744073709551616),by omega⟩;exact⟨-(n / 18446744073709551616)-1,by omega⟩
theorem c4n(h:w≤64)(n:Int):((2^w:Nat):Int) ∣ wrap .i64 n↔((2^w:Nat):Int) ∣ n:=by
 obtain⟨q,g⟩:=c6v n;rw[g]
 grind[a64,a45,p64]
theorem b6M(h:w≤64)(a:Int):2^w ∣ (a04 64 a).toNat↔((2^w:Nat):Int) ∣ a:=by
 have e:(((a04 64 a).toNat:Nat):Int)=a+18446744073709551616*-(a / 18446744073709551616):=by
  rw[a79];omega
 rw[←a19,e]
 grind[a64,a45,p64]
theorem c2t(w x y:Nat):2^w ∣ (x ||| y)↔2^w ∣ x∧2^w ∣ y:=by
 simp_all[Nat.dvd_iff_mod_eq_zero,Nat.or_mod_two_pow]
theorem c6w(h:w≤64)(a b:Int):((2^w:Nat):Int) ∣ bits .i64 .or a b↔((2^w:Nat):Int) ∣ a∧((2^w:Nat):Int) ∣ b:=by
 show((2^w:Nat):Int) ∣ wrap .i64 ((((a04 64 a) ||| (a04 64 b)).toNat:Nat):Int)↔_;rw[c4n h,a19,a69,c2t,b6M h,b6M h]
def orI(l:List Int)(a:Int):Int:=l.foldl (fun a x=>bits .i64 .or a x) a
theorem b1E{w:Nat}(h:w≤64):∀(l:List Int)(a:Int),((2^w:Nat):Int) ∣ orI l a↔((2^w:Nat):Int) ∣ a∧∀x∈l,((2^w:Nat):Int) ∣ x
 | [],a=>by simp[orI]
 |x::l,a=>by
  show((2^w:Nat):Int) ∣ orI l (bits .i64 .or a x)↔_;rw[b1E h l,c6w h];simp_all[and_assoc]
theorem b9b:∀(l:List Int),(∀x∈l,x=0)→orI l 0=0
 | [],_=>rfl
 |x::l,h=>by
  have g:=h x (List.mem_cons_self);subst g;show orI l (bits .i64 .or 0 0)=0;rw[show bits .i64 .or 0 0=0 from by rfl];simp_all[b9b]
theorem c6x(k:l.all a0A=true)(h:∃x∈l,x≠0):orI l 0≠0:=by
 intro e;obtain⟨x,g,f⟩:=h;have b:=((b1E (w:=62) (by omega) l 0).1 (by omega)).2 x g;have a:=a1x.1 (lA.1 k x g);omega
def a7e(l:List Int)(w:Nat):Prop:=
 ((∀x∈l,x=0)∧w=0)∨((∃x∈l,x≠0)∧w≤30∧(∀x∈l,((2^w:Nat):Int) ∣ x)∧(w=30∨∃x∈l,¬ ((2^(w+1):Nat):Int) ∣ x))
theorem c2u{v w:Nat}(h:v≤w){x:Int}(g:((2^w:Nat):Int) ∣ x):((2^v:Nat):Int) ∣ x:=
 Int.dvd_trans (a19.2 (a54 2 h)) g
theorem a7e.unique(hv:a7e l v)(g:a7e l w):v=w:=by
 have d:∀{v w:Nat},v≤30→w≤30→(∀x∈l,((2^w:Nat):Int) ∣ x)→(v=30∨∃x∈l,¬ ((2^(v+1):Nat):Int) ∣ x)→w≤v:=by
  grind[c2u]
 rcases hv with⟨f,hv⟩|⟨⟨x,c,h⟩,hv1,hv2,hv3⟩
 ·rcases g with⟨-,g⟩|⟨⟨x,c,h⟩,-⟩
  all_goals grind
 ·rcases g with⟨f,-⟩|⟨-,k,a,b⟩
  all_goals grind
theorem b9c:∀(n N:Nat),N≤n→0<N→∃k m,N=2^k*(2*m+1)
 |0,N,h,h0=>absurd h0 (by omega)
 |n+1,N,h,h0=>by
  by_cases he:N%2=0
  obtain⟨k,m,e⟩:=b9c n (N / 2) (by omega) (by omega);refine⟨k+1,m,?_⟩;rw[a83,a66 (2^k) 2,Nat.mul_assoc,←e];omega;exact⟨0,N / 2,by omega⟩
theorem c5H{k:Nat}(h:2^k*(2*m+1)<2^64):(2^k*(2*m+1)) &&& (2^64-2^k*(2*m+1))=2^k:=by
 have hp:1≤2^k:=a78;have n:k<64:=by
  refine a94 fun g=>?_
  have d:2^64≤2^k:=a08 (by simp) g
  grind
 have e:2^k*(2*m+1)=(2^k*(2*m)+(2^k-1))+1:=by grind
 have l:2^k*(2*m)+(2^k-1)<2^64:=by omega
 refine Nat.eq_of_testBit_eq fun i=>?_
 have a:(2^64-2^k*(2*m+1)).testBit i=(decide (i<64)&&!(2^k*(2*m)+(2^k-1)).testBit i):=by
  rw[e];exact Nat.testBit_two_pow_sub_succ l i
 have f:=a56 (2*m+1) (b:=0) (i:=k) (by omega) i;rw[a82]at f;have c:=a56 (2*m) (b:=2^k-1) (i:=k) (by omega) i;rw[Nat.testBit_and,a,f,c,Nat.testBit_two_pow]
 by_cases d:i<k
 grind
 by_cases h2:k=i
 simp_all;obtain⟨j,rfl⟩:∃j,i=k+(j+1):=⟨i-k-1,by omega⟩;have o:k+(j+1)-k=j+1:=by omega
 have p:(2*m+1) / 2=m:=by omega
 simp_all[Nat.testBit_succ]
theorem c4o:∀k:Nat,k<64→a8G[(2^k*285870213051353865)%18446744073709551616 / 288230376151711744]?=some (k:Int):=by
 have h:∀k:Fin 64,a8G[(2^k.val*285870213051353865)%18446744073709551616 / 288230376151711744]?=some (k.val:Int):=by decide
 exact fun k g=>h ⟨k,g⟩
theorem c0Y{k:Nat}:¬ 2^(k+1) ∣ 2^k*(2*m+1):=by
 rintro⟨c,h⟩
 rw[a83,Nat.mul_assoc]at h
 grind[Nat.eq_of_mul_eq_mul_left]
theorem c4p(d:0<N)(h:N<18446744073709551616):∃k:Nat,a1t (N:Int)=some (k:Int)∧2^k ∣ N∧¬ 2^(k+1) ∣ N:=by
 obtain⟨k,m,e⟩:=b9c N N (a26 _) d;have n:2^k≤N:=by grind
 have i:k<64:=by
  refine a94 fun g=>?_
  have l:2^64≤2^k:=a08 (by simp) g;omega
 refine⟨k,?_,⟨_,e⟩,e▸c0Y⟩;have hb:bits .u64 .and (N:Int) (wrap .u64 (0-(N:Int)))=((2^k:Nat):Int):=by
  have b:wrap .u64 (0-(N:Int))=((18446744073709551616-N:Nat):Int):=by
   grind[wrap,IntKind.bits,IntKind.signed]
  rw[b];show wrap .u64 (((a04 64 (N:Int)) &&& (a04 64 ((18446744073709551616-N:Nat):Int))).toNat:Int)=_;rw[a23,a23,a92,a28,a28,a22 h,a22 (by omega)]
  have:=c5H (k:=k) (m:=m) (by omega)
  rw[←e]at this;rw[show(18446744073709551616:Nat)=2^64 from rfl,this];exact a0S (by omega)
 have j:((N:Int)==0)=false:=by grind
 unfold a1t;rw[hb,j,cF];have f:wrap .u64 (((2^k:Nat):Int)*285870213051353865)=(((2^k*285870213051353865)%18446744073709551616:Nat):Int):=by
  rfl
 have a:=c4o k i;generalize (2^k*285870213051353865)%18446744073709551616=M at f a;have c:=a5s (N:=M) (o:=58) (by omega);rw[f,show(58:Int)=((58:Nat):Int)from rfl,c,show 2^58=288230376151711744 from rfl];generalize M / 288230376151711744=J at a
 grind[a0B,a0D]
theorem c4q{n:Nat}(g:n≤62)(c:Int):A0o .i64 (((2^n:Nat):Int)*c) (n:Int)=c:=by
 have hp:0<2^n:=a16 n;have e:min (a41 (n:Int)) (IntKind.bits .i64)=n:=by grind[IntKind.bits]
 have h:((2^n:Nat):Int)=2^n:=by simp
 unfold A0o
 grind[a62]
theorem c1m{l:List Int}(f:short l):∀(k i:Nat)(a:Int),i+k=l.length→y0s a4o (a,l,(l.length:Int),(i:Int),())=some (orI (l.drop i) a,())
 |0,i,a,h=>by
  obtain rfl:i=l.length:=by omega
  simp_all[a0H,a4o,orI]
 |k+1,i,a,h=>by
  have g:i<l.length:=by omega
  have b:l.length<1000000:=f;rw[a02 g,a0I (s':=(bits .i64 .or a l[i],l,(l.length:Int),((i+1:Nat):Int),())) (by
   simp only[a4o,dlt g,cT,a0B g,oB,a0C (show i<1000000 by omega)])]
  exact c1m f k (i+1) _ (by omega)
theorem c0Z{l:List Int}{r:Nat}(g:r≤30)(h:r=30∨¬ ((2^(r+1):Nat):Int) ∣ orI l 0):r=30∨∃x∈l,¬ ((2^(r+1):Nat):Int) ∣ x:=by
 grind[b1E,a84]
theorem b4s{l:List Int}(y:short l)(j:l.all a0A=true):∃w:Nat,a3e l=some (w:Int)∧w≤30∧a7e l w:=by
 have a:=c1m y l.length 0 0 (by omega);simp at a;unfold a3e;simp[a]
 by_cases hz:∀x∈l,x=0
 have e:=b9b l hz;exact⟨0,by simp_all,by omega,.inl ⟨hz,rfl⟩⟩
 ·have g:∃x∈l,x≠0:=Classical.byContradiction fun m=>hz fun x g=>Classical.byContradiction fun s=>m ⟨x,g,s⟩;have t:=c6x j g;have n:(orI l 0==0)=false:=by simp_all
  obtain⟨q,u⟩:∃q,wrap .u64 (orI l 0)=orI l 0+18446744073709551616*q:=⟨-(orI l 0 / 18446744073709551616),by
   grind[wrap,IntKind.bits,IntKind.signed]⟩
  obtain⟨B,r2⟩:=b3Q (orI l 0);obtain⟨N,d⟩:=a01 B;have b:∀v,v≤64→(2^v ∣ N↔((2^v:Nat):Int) ∣ orI l 0):=fun v hv=>by
   rw[←a19,←d,u]
   grind[a64,a45,p64]
  have h:0<N:=by
   refine Nat.pos_of_ne_zero fun C=>?_
   obtain⟨x,f,A⟩:=g;have E:=((b1E (w:=62) (by omega) l 0).1 ((b 62 (by omega)).1 (by omega))).2 x f;have z:=a1x.1 (lA.1 j x f);omega
  obtain⟨k,p,c,r⟩:=c4p h (by omega);have i:k≤63:=by
   refine Nat.le_of_not_lt fun o=>?_
   have a:2^64≤2^k:=a08 (by simp) (by omega)
   have:=Nat.le_of_dvd h c
   omega
  simp only[n,cF,d,p,oB];have D:v0s (k:Int) 30=((min k 30:Nat):Int):=by rw[c1j];omega
  refine⟨min k 30,by grind,by omega,.inr ⟨g,by omega,?_,?_⟩⟩
  all_goals grind[b1E,Nat.dvd_trans,a54,c0Z]
theorem c5I(g:w≤30)(d:l.all a0A=true)(h:a7e l w):a8k (w:Int) l=some (l.map fun x=>A0o .i64 x (w:Int)):=by
 have f:∀x∈l,((2^w:Nat):Int) ∣ x:=by
  rcases h with⟨h,-⟩|⟨-,-,h,-⟩
  all_goals grind[a84]
 have:l.all (a9b (w:Int))=true:=by
  rw[lA];intro x k;obtain⟨c,a⟩:=f x k;have b:a25 x (A0n .i64 1 (w:Int))=0:=by simp_all[b8V]
  simp_all[a9b]
 simp only[a8k,this,cT]
theorem a8x{N n:Nat}(g:n≤63)(h:N<2^n)(L:List Int):(a0L (N:Int) n L).length=L.length+n:=by
 grind[a0L,a5s,a65,b0V]
def a4E(k:Nat)(x:Int):Nat:=if a0N x / 2^k<32 then a0N x / 2^k+1+k else 65
theorem b9d{k:Nat}(h:k≤25)(x:Int):a4E k x≤65:=by
 grind[a4E]
theorem c3r{k:Nat}(a:k≤25)(g:a0A x=true)(L:List Int):(a5E k x L).length=L.length+a4E k x:=by
 unfold a5E a4E;have hp:0<2^k:=a16 k;have h:a0N x%2^k<2^k:=a40 _ hp;have f:=a7J g;split;rw[a8x (by omega) h,a8h];omega
 grind[a8x,a8h]
theorem b5k{k:Nat}(g:k≤25):∀(l L:List Int),l.all a0A=true→(a3V k l L).length=L.length+(l.map (a4E k)).sum
 | [],L,_=>by rfl
 |x::l,L,h=>by
  simp only[a07,bA]at h;have e:a3V k (x::l) L=a3V k l (a5E k x L):=rfl;rw[e,b5k g l _ h.2,c3r g h.1,List.map_cons,a60];omega
theorem b9e{k:Nat}(c:k≤25)(g:a0A x=true):a6e ((k:Int),x)=some ((a4E k x:Nat):Int):=by
 have d:=a7J g;have f:A0o .u64 ((a0N x:Nat):Int) (k:Int)=((a0N x / 2^k:Nat):Int):=a5s (by omega);have a:wrap .i64 ((a0N x / 2^k:Nat):Int)=((a0N x / 2^k:Nat):Int):=b0A (a37 (a31 _ _) d);have h:decide ((k:Int)<0)=false:=by simp
 unfold a6e a4E;simp only[a7o c,a8i,g,oB,bT,cF,a8j g,h,f,a];generalize a0N x / 2^k=q
 by_cases hq:q<32
 have b:decide ((q:Int)<32)=true:=decide_eq_true (by omega);simp only[b,cT,if_pos hq]
 grind[a0D]
 grind
theorem b9f{f:Int→Nat}{M:Nat}(h:∀x,f x≤M):∀l:List Int,(l.map f).sum≤M*l.length
 | []=>by simp
 |x::l=>by
  have:=h x
  have:=b9f h l
  rw[List.map_cons,a60,lC,a90,a91];omega
theorem b9g{f:Int→Nat}{l:List Int}{i:Nat}(h:i<l.length):((l.take (i+1)).map f).sum=((l.take i).map f).sum+f l[i]:=by
 rw[a48 h,pA,List.sum_append];rfl
theorem b3R{k:Nat}(a:k≤25)(d:l.all a0A=true)(j:l.length<10000):a2N ((k:Int),l)=some (((l.map (a4E k)).sum:Nat):Int):=by
 have:=a2o (f:=a3m) (fun i:Nat=>((k:Int),((((l.take i).map (a4E k)).sum:Nat):Int),l,(l.length:Int),(i:Int),())) l.length (b:=((((l.map (a4E k)).sum:Nat):Int),()))
  (fun i h=>by
   have c:=b9e a (lA.1 d _ (a05 h));have g:=b9f (b9d a) (l.take (i+1));rw[b9g h]at g;rw[a93]at g;have e:wrap .i64 (((((l.take i).map (a4E k)).sum:Nat):Int)+((a4E k l[i]:Nat):Int))=((((l.take (i+1)).map (a4E k)).sum:Nat):Int):=by
    grind[b9g,a0D]
   simp only[a3m,dlt h,cT,a0B h,oB,c,e,a0C (show i<1000000 by omega)])
  (by simp_all[a3m])
 unfold a2N;simp_all
theorem c4r(x:Int){n:Nat}(f:n≤62):∃N:Nat,a0R x n=(N:Int)∧N<2^n:=by
 obtain⟨h,g⟩:=b3Q x;obtain⟨y,k⟩:=a01 h;have hp:0<2^n:=a16 n;refine⟨y%2^n,?_,a40 _ hp⟩
 grind[a0R,b8Q]
theorem b0Z{n:Nat}(h:n≤62):∀(l L:List Int),(a1w n l L).length=L.length+n*l.length
 | [],L=>by rfl
 |x::l,L=>by
  have e:a1w n (x::l) L=a1w n l (a0L (a0R x n) n L):=rfl;obtain⟨N,g,f⟩:=c4r x h;rw[e,b0Z h l,g,a8x (by omega) f,lC,a90,a91];omega
theorem c6y{x:Int}(h:a0A x=true):a1r x ((31:Nat):Int)=true:=by
 have:=a1x.1 h
 have g:A0n .i64 (-1) (((31:Nat):Int)-1)=-1073741824:=by rfl
 have f:wrap .i64 (A0n .i64 1 (((31:Nat):Int)-1)-1)=1073741823:=by rfl
 unfold a1r
 grind
theorem b5l{x:Int}(h:a0A x=true):∀(k w:Nat),w+k=32→1≤k→a1A x k w≤31
 |k+1,w,hk,_=>by
  simp[a1A]
  by_cases h31:w=31
  grind[c6y]
  ·cases (x != 0)&&!a1r x w with
   |true=>exact b5l h k (w+1) (by omega) (by omega)
   |false=>grind
theorem b1a:∀(l:List Int)(w:Nat),l.all a0A=true→w≤31→l.foldl (fun w x=>a1A x (32-w) w) w≤31
 | [],w,_,h=>h
 |x::l,w,hl,h=>by
  simp only[a07,bA]at hl;exact b1a l _ hl.2 (b5l hl.1 (32-w) w (by omega) (by omega))
theorem a1G{l:List Int}(h:l.all a0A=true):a0G l≤31:=b1a l 0 h (by omega)
theorem b0D(g:l.length<10000):a4J l=some (((5+a0G l*l.length:Nat)):Int):=by
 have h:=a5r l;have f:a0G l*l.length≤32*l.length:=a24 _ h;unfold a4J;simp only[a1S (show short l by unfold short;omega),oB]
 grind[a0D]
def a9d(k:Int)(part:List Int):Nat:=5+(if k=31 then 5+a0G part*part.length else(part.map (a4E k.toNat)).sum)
def a4F:List Nat→List Int→List Int→Nat
 |z::zs,k::ks,l=>a9d k (l.take z)+a4F zs ks (l.drop z)
 |_,_,_=>0
theorem a3b{q:Nat}(h:q<2147483648):wrap .u64 (q:Int)=(q:Int):=a0S (by omega)
theorem c3s(h:kB k=true)(g:part.all a0A=true)(L:List Int):(a7F k part L).length=L.length+a9d k part:=by
 simp[kB]at h;obtain⟨K,rfl⟩:=a01 (show 0≤k by omega)
 grind[a8x,a1G,a7F,a9d,a3b,b0Z,b5k]
theorem b5m:∀(zs:List Nat)(ks l L:List Int),ks.all kB=true→l.all a0A=true→(a3W zs ks l L).length=L.length+a4F zs ks l
 |z::zs,k::ks,l,L,h,hw=>by
  simp only[a07,bA]at h;have g:(l.take z).all a0A=true:=lA.2 fun x a=>lA.1 hw x (a33 a);have f:(l.drop z).all a0A=true:=lA.2 fun x a=>lA.1 hw x (a34 a);simp only[a3W,a4F];rw[b5m zs ks _ _ h.2 f,c3s h.1 g];omega
 | [],_,_,_,_,_=>by rfl
 |_::_,[],_,_,_,_=>by rfl
theorem c4s(h:kB k=true)(part:List Int):a9d k part≤10+65*part.length:=by
 simp[kB]at h;unfold a9d;split;have g:a0G part*part.length≤32*part.length:=a24 _ (a5r part);omega
 have:=b9f (b9d (k:=k.toNat) (by omega)) part
 omega
theorem b0E{zn:List Nat}{p:Prt}(E:p.2.1.length=zn.length)(a:p.2.1.all kB=true)(F:zn.length≤256):∀(j i:Nat)(l:List Int)(c:Nat),i+j=zn.length→(zn.drop i).sum=l.length→l.all a0A=true→l.length≤5000→c+10*j+65*l.length<1000000→
  y0s a1l (l,(c:Int),(zn.length:Int),(i:Int),a1f zn,p,())=some (((c+a4F (zn.drop i) (p.2.1.drop i) l:Nat):Int),())
 |0,i,l,c,hi,_,_,_,_=>by
  obtain rfl:i=zn.length:=by omega
  grind[a0H,a1l,a4F]
 |j+1,i,l,c,hi,hsum,hw,hl5,hb=>by
  have h:i<zn.length:=by omega
  have f:i<p.2.1.length:=by omega
  have o:=lA.1 a _ (a05 f);rw[b1V h]at hsum;have z:decide ((0:Int)≤(i:Int))=true:=by simp
  have A:decide ((i:Int)<(((a1f zn).length:Nat):Int))=true:=by simp_all[a1m]
  have B:decide ((0:Int)≤((zn[i]:Nat):Int))=true:=by simp
  have C:decide (((zn[i]:Nat):Int)≤((l.length:Nat):Int))=true:=by grind
  have d:(l.take zn[i]).length=zn[i]:=by simp_all
  have e:(l.drop zn[i]).length=(zn.drop (i+1)).sum:=by grind
  have v:(l.take zn[i]).all a0A=true:=lA.2 fun x y=>lA.1 hw x (a33 y);have w:(l.drop zn[i]).all a0A=true:=lA.2 fun x y=>lA.1 hw x (a34 y);have g:=c4s o (l.take zn[i]);rw[d]at g;have n:a1l (l,(c:Int),(zn.length:Int),(i:Int),a1f zn,p,())=some (.inl (l.drop zn[i],((c+a9d p.2.1[i] (l.take zn[i]):Nat):Int),(zn.length:Int),((i+1:Nat):Int),a1f zn,p,())):=by
   by_cases h31:p.2.1[i]=31
   have b:(p.2.1[i]==31)=true:=by simp_all
   have m:=b0D (l:=l.take zn[i]) (by omega);have u:a9d p.2.1[i] (l.take zn[i])=5+(5+a0G (l.take zn[i])*(l.take zn[i]).length):=by simp_all[a9d]
   rw[u]at g⊢;generalize 5+a0G (l.take zn[i])*(l.take zn[i]).length=r at m g⊢;have s:wrap .i64 (5+(r:Int))=5+(r:Int):=a0D (by omega);have t:wrap .i64 ((c:Int)+(5+(r:Int)))=((c+(5+r):Nat):Int):=by grind[a0D]
   simp only[a1l,dlt h,z,A,a6E h,B,C,cT,a03,tN,a0B f,oB,b,m,s,t,a18,a0C (show i<1000000 by omega)];have b:(p.2.1[i]==31)=false:=by simp_all
   have q:=o;simp[kB]at q;obtain⟨K,D⟩:=a01 (show 0≤p.2.1[i]by omega);have m:=b3R (k:=K) (by omega) v (by omega);have u:a9d p.2.1[i] (l.take zn[i])=5+((l.take zn[i]).map (a4E K)).sum:=by simp_all[a9d]
   rw[←D]at m;rw[u]at g⊢;generalize ((l.take zn[i]).map (a4E K)).sum=r at m g⊢;have s:wrap .i64 (5+(r:Int))=5+(r:Int):=a0D (by omega);have t:wrap .i64 ((c:Int)+(5+(r:Int)))=((c+(5+r):Nat):Int):=by grind[a0D]
   simp only[a1l,dlt h,z,A,a6E h,B,C,cT,cF,a03,tN,a0B f,oB,b,m,s,t,a18,a0C (show i<1000000 by omega)]
  rw[a0I n,b0E E a F j (i+1) (l.drop zn[i]) _ (by omega) e.symm w (by omega) (by omega)];rw[a02 h,a02 f]
  grind[a4F]
theorem b7P(h:PartsOk p n warm l zn):a3P (p,n,warm,l)=some ((4+a4F zn p.2.1 l:Nat):Int):=by
 have f:Go.Ab.short p.2.1:=by have:=h.ks;have:=h.len;unfold Go.Ab.short;omega
 have k:=h.short;have a:=h.len;have g:=b0E h.ks h.all h.len zn.length 0 l 4 (by omega) (by rw[a27];exact h.sum) h.wide h.short (by omega);simp only[nZ,a29,a27]at g;unfold a3P;simp only[a9W f,h.may,a8v h.row h.rest h.wide h.short,oB,bT,cF,a1I,h.sizes,a1m,g]
theorem b7Q(h:PartsOk p n warm l zn)(L:List Int):(a3z p zn l L).length=L.length+(4+a4F zn p.2.1 l):=by
 obtain⟨o,g⟩:=a01 h.order.1;have f:=h.order.2;unfold a3z;rw[b5m _ _ _ _ h.all h.wide,g,a3b (by omega),a8x (by omega) (by omega)];omega
def a1J(o:Int):Sub:=((0:Int),(0:Int),o,(0:Int),(0:Int),([]:List Int),a00 3 (0:Int),([]:List Stg),([]:List Int),((0:Int),([]:List Int),()),([]:List Int),())
theorem c1a(o:Int):SmallS (a1J o):=⟨by simp[a1J],by rfl,by simp[a1J],by simp[a1J],by simp[a1J],by simp[a1J]⟩
def b3l(k:Nat)(l:List Int):Nat:=(l.map (a4E k)).sum
def rbN(l:List Int):Nat→Nat
 |0=>0
 |i+1=>if b3l (i+1) l<b3l (rbN l i) l then i+1 else rbN l i
theorem b9h(l:List Int):∀i,rbN l i≤i
 |0=>a26 _
 |i+1=>by
  have:=b9h l i
  simp only[rbN]
  split<;>omega
theorem b2e{k:Nat}(h:k≤25)(f:l.all a0A=true)(g:l.length<10000):a2N ((k:Int),l)=some ((b3l k l:Nat):Int):=b3R h f g
theorem c6z(h:a<b):decide ((a:Int)<(b:Int))=true:=decide_eq_true (by omega)
theorem c2v(h:¬ a<b):decide ((a:Int)<(b:Int))=false:=decide_eq_false (by omega)
theorem b3m(g:l.all a0A=true)(h:l.length<10000):a8I l=some ((rbN l 25:Nat):Int):=by
 have:=a2o (f:=a6L) (fun i:Nat=>(l,((rbN l i:Nat):Int),((b3l (rbN l i) l:Nat):Int),((i+1:Nat):Int),())) 25 (b:=(((rbN l 25:Nat):Int),()))
  (fun i n=>by
   have a:decide (((i+1:Nat):Int)≤25)=true:=decide_eq_true (by omega);have d:wrap .i64 (((i+1:Nat):Int)+1)=((i+1+1:Nat):Int):=a0C (by omega);have c:=b2e (k:=i+1) (by omega) g h
   by_cases hlt:b3l (i+1) l<b3l (rbN l i) l
   simp_all[a6L,rbN];simp only[a6L,a,cT,cF,c,oB,d,c2v hlt,rbN,hlt,if_false])
  (by
   rfl)
 have m:=b2e (k:=0) (by omega) g h;have j:((0+1:Nat):Int)=1:=rfl;have e:rbN l 0=0:=rfl;simp_all[a8I]
def a9I(l:List Int):Int:=if 5+a0G l*l.length<b3l (rbN l 25) l then 31 else((rbN l 25:Nat):Int)
theorem c2w(l:List Int):kB (a9I l)=true:=by
 have:=b9h l 25
 unfold a9I;split;rfl;simp only[kB,a97,bA,dT];omega
theorem b5n(g:l.all a0A=true)(h:l.length<10000):a6M l=some (a9I l):=by
 have a:=b9h l 25;have f:=b2e (k:=rbN l 25) a g h;unfold a6M a9I
 by_cases hlt:5+a0G l*l.length<b3l (rbN l 25) l
 simp only[b3m g h,b0D h,f,oB,c6z hlt,cT,hlt,if_true];simp only[b3m g h,b0D h,f,oB,c2v hlt,cF,hlt,if_false]
def a2i:List Nat→List Int→List Int
 | [],_=>[]
 |z::zs,l=>a9I (l.take z)::a2i zs (l.drop z)
theorem b1F:∀zs l,(a2i zs l).length=zs.length
 | [],_=>rfl
 |z::zs,l=>by simp[a2i,b1F zs]
theorem b5o:∀zs l,(a2i zs l).all kB=true
 | [],_=>rfl
 |z::zs,l=>by simp[a2i,b5o zs,c2w]
theorem b2H{zn:List Nat}{n warm most least order:Int}{L:List Int}{a b:Prt}(m:zn.length≤256):∀(j i:Nat)(rest ks:List Int),i+j=zn.length→(zn.drop i).sum=rest.length→rest.all a0A=true→rest.length≤5000→ks.length=i→
  y0s a6n (n,warm,most,L,least,order,rest,((zn.length:Nat):Int),(i:Int),a1f zn,a,b,(order,ks,()),())=some (n,warm,most,L,least,order,a,b,(order,ks++a2i (zn.drop i) rest,()),())
 |0,i,rest,ks,h,_,_,_,_=>by
  obtain rfl:i=zn.length:=by omega
  simp_all[a0H,a6n,a2i]
 |j+1,i,rest,ks,h,hr,hwr,hr5,hki=>by
  have g:i<zn.length:=by omega
  rw[b1V g]at hr;have k:decide ((0:Int)≤(i:Int))=true:=by simp
  have c:decide ((i:Int)<(((a1f zn).length:Nat):Int))=true:=by simp_all[a1m]
  have d:decide ((0:Int)≤((zn[i]:Nat):Int))=true:=by simp
  have e:decide (((zn[i]:Nat):Int)≤((rest.length:Nat):Int))=true:=by grind
  have l:=b5n (b4r hwr zn[i]) (by grind);have f:lim (ks.length+1)=true:=a0P (by omega);rw[a02 g,a0I (s':=(n,warm,most,L,least,order,rest.drop zn[i],((zn.length:Nat):Int),((i+1:Nat):Int),a1f zn,a,b,(order,ks++[a9I (rest.take zn[i])],()),())) (by
   simp only[a6n,dlt g,k,c,a6E g,d,e,cT,a03,tN,l,oB,f,a18,a0C (show i<1000000 by omega),a06])]
  rw[b2H m j (i+1) _ _ (by omega) (by grind) (c4m hwr _) (by grind) (by simp_all)];simp_all[a2i]
def zsN(o n warm:Int):List Nat:=(a1z o n warm).map a41
def a9E(o n warm:Int)(l:List Int):Prt:=(o,a2i (zsN o n warm) l,())
def b5p(o n warm:Int)(l:List Int):Nat:=4+a4F (zsN o n warm) (a2i (zsN o n warm) l) l
def a1v(n warm:Int)(l:List Int):Nat→Prt×Nat
 |0=>((0,[],()),0)
 |i+1=>if(a1z (i:Int) n warm).length=0 then a1v n warm l i else
   if(a1v n warm l i).2=0∨b5p (i:Int) n warm l<(a1v n warm l i).2 then(a9E (i:Int) n warm l,b5p (i:Int) n warm l)else a1v n warm l i
def b3v(n warm:Int)(l:List Int):Prt:=(a1v n warm l 7).1
theorem c1n(b:(a1z (o:Int) n warm).length≠0)(a:(l.length:Int)=n-warm)(c:l.all a0A=true)(k:l.length≤5000):
  ∃h,a1z (o:Int) n warm=a1f h∧zsN (o:Int) n warm=h∧h.length≤256∧h.sum=l.length∧a4D (a9E (o:Int) n warm l) n warm=true∧PartsOk (a9E (o:Int) n warm l) n warm l h:=by
 obtain⟨h,e,i,j⟩:=b1k b;have d:zsN (o:Int) n warm=h:=by simp_all[zsN,b1l]
 have hp:a4D (a9E (o:Int) n warm l) n warm=true:=by
  simp only[a4D,a9E,bA,a32,beq_eq_false_iff_ne,ne_eq,beq_iff_eq];simp_all[a1m,b1F,b5o]
 obtain⟨f,g⟩:=PartsOk.of hp a c k
 have:f=h:=by
  have m:=g.sizes
  grind[a9E,b1l]
 grind
theorem b2f{n warm:Int}{l:List Int}(b:a5l n warm=true)(f:(l.length:Int)=n-warm)(a:l.all a0A=true)(g:l.length≤5000):∀i,1≤i→(a1v n warm l i).2≠0∧a4D (a1v n warm l i).1 n warm=true
 |0,h=>absurd h (by omega)
 |i+1,_=>by
  by_cases hs:(a1z (i:Int) n warm).length=0
  ·simp only[a1v,hs,if_true];cases i with
   |zero=>grind[c2o]
   |succ i=>exact b2f b f a g (i+1) (by omega)
  ·obtain⟨c,-,-,-,-,hp,-⟩:=c1n hs f a g;simp only[a1v,hs,if_false];split;simp_all[b5p]
   ·rename_i k;cases i with
    |zero=>exact absurd (Or.inl rfl) k
    |succ i=>exact b2f b f a g (i+1) (by omega)
theorem c4t(f:a5l n warm=true)(g:(l.length:Int)=n-warm)(k:l.all a0A=true)(h:l.length≤5000):a4D (b3v n warm l) n warm=true:=
 (b2f f g k h 7 (by omega)).2
theorem b7R(A:a5l n warm=true)(x:(l.length:Int)=n-warm)(t:l.all a0A=true)(s:l.length≤5000):
  a7V (n,warm,(6:Int),l)=some (b3v n warm l,0):=by
 have:=a2o (f:=a3f) (fun i:Nat=>(n,warm,(6:Int),l,(((a1v n warm l i).2:Nat):Int),(i:Int),((0:Int),([]:List Int),()),(a1v n warm l i).1,())) 7 (b:=(((0:Int),([]:List Int),()),b3v n warm l,()))
  (fun i z=>by
   have j:decide ((i:Int)≤v0s (v0r 6 0) 8)=true:=decide_eq_true (by have:v0s (v0r 6 0) 8=6:=rfl;omega);have r:wrap .i64 ((i:Int)+1)=((i+1:Nat):Int):=a0C (by omega)
   by_cases hs:(a1z (i:Int) n warm).length=0
   simp_all[a1v,a3f,a1I];have hb:((((a1z (i:Int) n warm).length:Nat):Int)==0)=false:=by simp_all
   obtain⟨h,p,o,w,y,-,q⟩:=c1n hs x t s;have d:=b2H (n:=n) (warm:=warm) (most:=6) (least:=(((a1v n warm l i).2:Nat):Int)) (order:=(i:Int)) (L:=l) (a:=((0:Int),([]:List Int),())) (b:=(a1v n warm l i).1) w h.length 0 l [] (by omega) (by simp_all) t s rfl;simp at d;have e:=b7P q;simp only[a9E,o]at e;have k:(((h.length:Nat):Int)==0)=false:=by simp_all[a1m]
   have m:(((a1f h).length:Nat):Int)=((h.length:Nat):Int):=by rw[a1m]
   have v:a9E (i:Int) n warm l=((i:Int),a2i h l,()):=by simp only[a9E,o]
   have u:b5p (i:Int) n warm l=4+a4F h (a2i h l) l:=by simp only[b5p,o]
   by_cases hz:(a1v n warm l i).2=0
   have g:((((a1v n warm l i).2:Nat):Int)==0)=true:=by simp_all
   have c:a1v n warm l (i+1)=(((i:Int),a2i h l,()),4+a4F h (a2i h l) l):=by simp_all[a1v]
   simp only[a3f,j,cT,a1I,oB,p,m,k,cF,d,e,r,c,g];have g:((((a1v n warm l i).2:Nat):Int)==0)=false:=by simp_all
   by_cases hlt:4+a4F h (a2i h l) l<(a1v n warm l i).2
   have c:a1v n warm l (i+1)=(((i:Int),a2i h l,()),4+a4F h (a2i h l) l):=by simp_all[a1v]
   simp only[a3f,j,cT,a1I,oB,p,m,k,cF,d,e,r,c,g,c6z hlt];have c:a1v n warm l (i+1)=a1v n warm l i:=by simp only[a1v,hs,if_false,hz,false_or,v,u,hlt]
   simp only[a3f,j,cT,a1I,oB,p,m,k,cF,d,e,r,c,g,c2v hlt])
  (by
   rfl)
 simp_all[a1v,a7V,a8v]
def a0T(k:Int)(s:Sub):Sub:=
 (k,(0:Int),(if k=2 then s.2.2.1 else 0),(if k=3∨k=4 then s.2.2.2.1 else 0),(if k=4 then s.2.2.2.2.1 else 0),(if k=3∨k=4 then s.2.2.2.2.2.1 else[]),
  ((if k=4 then s.2.2.2.2.2.2.1 else a00 3 (0:Int)),(if k=5 then s.2.2.2.2.2.2.2.1 else[]),([]:List Int),((0:Int),([]:List Int),()),([]:List Int),()))
def z0:Prt:=((0:Int),([]:List Int),())
def a1B(s:Sub)(w:Nat)(wm:List Int)(p:Prt)(r:List Int):Sub:=
 (s.1,(w:Int),s.2.2.1,s.2.2.2.1,s.2.2.2.2.1,s.2.2.2.2.2.1,s.2.2.2.2.2.2.1,s.2.2.2.2.2.2.2.1,wm,p,r,())
theorem c3t(h:SmallS s)(k:Int):a4X (k,s)=some (a0T k s):=by
 have f:short s.2.2.2.2.2.1:=by have:=h.coefs;unfold short;omega
 have g:short s.2.2.2.2.2.2.2.1:=by have:=h.stages;unfold short;omega
 grind[a4X,a0T,b1U,b3N]
theorem b9i(h:SmallS s)(k:Int):SmallS (a0T k s):=by
 have g:=h.coefs;have f:=h.taps;have a:=h.stages;refine⟨?_,?_,?_,by simp[a0T],by simp[a0T],by simp[a0T]⟩<;>simp only[a0T]<;>split<;>first|omega|simp
theorem c2x:a3o (a0T k s).1 (a0T k s) n↔a3o k s n:=by
 unfold a3o a0T
 grind
open Classical in
def a2B (l:List Int):Nat:=if h:∃w,a7e l w then h.choose else 0
theorem c5J{l:List Int}{w:Nat}(h:a7e l w):a2B l=w:=by
 unfold a2B;rw[dif_pos ⟨w,h⟩];exact(Classical.choose_spec (⟨w,h⟩:∃w,a7e l w)).unique h
def a0X(l:List Int):List Int:=l.map fun x=>A0o .i64 x (a2B l:Int)
theorem a7w(h:short l)(g:l.all a0A=true):a3e l=some ((a2B l:Nat):Int)∧a2B l≤30∧a7e l (a2B l):=by
 grind[b4s,c5J]
theorem a4G(a:l.length≤4096)(f:l.all a0A=true):a8k ((a2B l:Nat):Int) l=some (a0X l)∧(a0X l).all a0A=true∧(a0X l).length=l.length∧upO ((a2B l:Nat):Int) (a0X l)=some l:=by
 obtain⟨-,g,k⟩:=a7w (show short l by unfold short;omega) f;have h:=c5I g f k;exact⟨h,c5G g h⟩
def a4H(k:Int)(s:Sub)(d:List Int):Option (List Int×List Int):=
 if k=2 then(bif (a1Q s.2.2.1.toNat d).all a0A then some (d.take s.2.2.1.toNat,a1Q s.2.2.1.toNat d)else none)
 else if k=3 then(b2b d s.2.2.2.2.2.1 s.2.2.2.1).map fun r=>(d.take s.2.2.2.2.2.1.length,r)
 else if k=4 then(b1D d s.2.2.2.2.1 s.2.2.2.2.2.2.1).bind fun x=>(b2b x s.2.2.2.2.2.1 s.2.2.2.1).map fun r=>(x.take s.2.2.2.2.2.1.length,r)
 else(a9H d s.2.2.2.2.2.2.2.1).map fun r=>([],r)
theorem b9j(j:k=2∨k=3∨k=4∨k=5)(i:a3o k s (d.length:Int))(n:d.all a0A=true)(h:a4H k s d=some (wm,r)):
  wm.length≤d.length∧r.length=d.length-wm.length∧r.all a0A=true∧wm.all a0A=true:=by
 have f:=i;simp only[a3o]at f;rcases j with rfl|rfl|rfl|rfl
 ·have:0≤s.2.2.1∧s.2.2.1≤(d.length:Int):=by omega
  simp[a4H]at h;cases hq:(a1Q s.2.2.1.toNat d).all a0A with
  |false=>simp_all
  |true=>
   simp[hq]at h;obtain⟨rfl,rfl⟩:=h;simp_all[a4M,b4r]
 have:(s.2.2.2.2.2.1.length:Int)≤(d.length:Int):=by omega
 simp only[a4H,show ¬ (3:Int)=2 by simp,if_false,if_true,a20,pJ]at h;obtain⟨c,g,rfl,rfl⟩:=h;obtain⟨-,a,b⟩:=b2c g
 grind
 have:(s.2.2.2.2.2.1.length:Int)≤(d.length:Int):=by omega
 simp only[a4H,show ¬ (4:Int)=2 by simp,show ¬ (4:Int)=3 by simp,if_false,if_true,a43,a20,pJ]at h;obtain⟨x,e,c,g,rfl,rfl⟩:=h;obtain⟨-,l,m⟩:=b3k e;obtain⟨-,a,b⟩:=b2c g
 grind
 simp only[a4H,show ¬ (5:Int)=2 by simp,show ¬ (5:Int)=3 by simp,show ¬ (5:Int)=4 by simp,if_false,a20,pJ]at h;obtain⟨c,g,rfl,rfl⟩:=h;obtain⟨-,a,b⟩:=b5j g;simp_all
theorem c4u(v:k=2∨k=3∨k=4∨k=5)(h:SmallS s)(q:a3o k s (d.length:Int))(D:d.length≤4096)(y:d.all a0A=true)(w:Nat):
  a8H (a1B (a0T k s) w [] z0 [],d)=some (match a4H k s d with|none=>(6,a1B (a0T k s) w [] z0 [])|some (wm,r)=>(0,a1B (a0T k s) w wm z0 r)):=by
 have l:=h.taps;have g:=h.stages;have i:short d:=by unfold short;omega
 obtain⟨k',w',o,sh,lag,c,t,st,z,p,E,u⟩:=s;simp only[a3o]at q l g;unfold a8H;rcases v with rfl|rfl|rfl|rfl;obtain⟨n,C,e⟩:0≤o∧o≤4∧o≤(d.length:Int):=by omega
 obtain⟨O,rfl⟩:=a01 n;have g:short (d.take O):=by unfold short;grind
 have j:decide ((O:Int)≤((d.length:Nat):Int))=true:=by simp_all
 simp only[a1B,a0T,a4H,if_true,show((2:Int)==2)=true from rfl,cT,b2F (show O≤4 by omega) (show O≤d.length by omega) i y,oB,tN]
 grind[a9k,a1R,a6C]
 ·obtain⟨f,e⟩:a7I c sh=true∧(c.length:Int)≤(d.length:Int):=by simp_all
  have g:short (d.take c.length):=by unfold short;grind
  have m:decide ((0:Int)≤((c.length:Nat):Int))=true:=by simp
  have j:decide (((c.length:Nat):Int)≤((d.length:Nat):Int))=true:=by simp_all
  simp only[a1B,a0T,a4H,show((3:Int)==2)=false from rfl,show((3:Int)==3)=true from rfl,show ¬ (3:Int)=2 by simp,show ¬ (3:Int)=4 by simp,show ¬ (3:Int)=5 by simp,true_or,if_true,if_false,cT,cF,b1C f (show c.length≤d.length by omega) (show d.length<100000 by omega),oB];cases b2b d c sh with
  |none=>rfl
  |some r=>simp_all[a4g,a9k,a1R,a6C]
 ·obtain⟨f,e,a⟩:a7I c sh=true∧(c.length:Int)≤(d.length:Int)∧a8Y lag t=true:=by simp_all
  simp[a1B,a0T,a4H,b8Y a l (show d.length<100000 by omega)];cases hx:b1D d lag t with
  |none=>rfl
  |some x=>
   obtain⟨-,A,B⟩:=b3k hx;have g:short (x.take c.length):=by unfold short;grind
   have m:decide ((0:Int)≤((c.length:Nat):Int))=true:=by simp
   have j:decide (((c.length:Nat):Int)≤((x.length:Nat):Int))=true:=by simp_all
   simp[a4g,b1C f (show c.length≤x.length by omega) (show x.length<100000 by omega)]
   grind[a9k,a1R,a6C]
 ·obtain⟨e,b⟩:0<st.length∧a7v st=true:=by simp_all
  have g:short (d.take 0):=by simp[short]
  simp only[a1B,a0T,a4H,show((5:Int)==2)=false from rfl,show((5:Int)==3)=false from rfl,show((5:Int)==4)=false from rfl,show((5:Int)==5)=true from rfl,show ¬ (5:Int)=2 by simp,show ¬ (5:Int)=3 by simp,show ¬ (5:Int)=4 by simp,or_self,if_true,if_false,cT,cF,b7O b (show d.length<100000 by omega),oB];cases a9H d st with
  |none=>rfl
  |some r=>
   rfl
open Classical in

def a1i (k:Int) (l:List Int) (s:Sub):Sub×Int:=
 if ¬ (1≤l.length∧l.length≤4096∧a3o k s (l.length:Int))then(a1J 0,1)
 else if l.all a0A=false then(a1J 0,6)
 else if k=0 then(bif l.all (fun x=>x==l.headD 0)then(a1B (a0T 0 s) 0 [l.headD 0] z0 [],0)else(a1J 0,7))
 else if k=1 then(a1B (a0T 1 s) (a2B l) (a0X l) z0 [],0)
 else match a4H k s (a0X l)with
  |none=>(a1J 0,6)
  |some (wm,r)=>(a1B (a0T k s) (a2B l) wm (b3v (l.length:Int) (wm.length:Int) r) r,0)
theorem c2y(h:1≤l.length):m0k l 0=some (l.headD 0):=by
 cases l with
 |nil=>grind
 |cons a l=>rfl
theorem b9k(k:1≤l.length)(c:short l)(a b:Sub):
  y0s a4l (l,l,(l.length:Int),(0:Int),a,b,())=some (bif l.all (fun x=>x==l.headD 0)then .inl (l,a,b,())else .inr ((7:Int),a1J 0,())):=by
 have:=a1p (f:=a4l) l (fun i=>(l,l,(l.length:Int),(i:Int),a,b,())) (fun x=>x==l.headD 0) (bt:=Sum.inl (l,a,b,())) (bf:=Sum.inr ((7:Int),a1J 0,()))
  (fun i h hp=>by
   have g:(l[i] != l.headD 0)=false:=by simp_all
   simp only[a4l,dlt h,cT,a0B h,oB,c2y k,g,cF,a0C (a17 h c)])
  (fun i h hp=>by
   have g:(l[i] != l.headD 0)=true:=by simp_all
   simp only[a4l,dlt h,cT,a0B h,oB,c2y k,g];rfl)
  (by simp[a4l])
 omega
theorem b3S(h:a3o k s n)(g:k≠0)(f:k≠1):k=2∨k=3∨k=4∨k=5:=by
 rcases h with h|h|⟨h,-⟩|⟨h,-⟩|⟨h,-⟩|⟨h,-⟩;omega;omega
 all_goals omega
theorem c5K(h:SmallS s)(k:Int)(D:l.length≤100000):a9t (k,l,s)=some (a1i k l s):=by
 have j:short l:=by unfold short;omega
 unfold a9t a1i
 by_cases h1:1≤l.length
 rotate_left;have e:decide (((l.length:Nat):Int)<1)=true:=decide_eq_true (by omega);rw[if_pos (fun g=>h1 g.1)];simp only[e,cT,oB];rfl;have a:decide (((l.length:Nat):Int)<1)=false:=decide_eq_false (by omega)
 by_cases h2:l.length≤4096
 rotate_left;have e:decide (((l.length:Nat):Int) > 4096)=true:=decide_eq_true (by omega);rw[if_pos (fun g=>h2 g.2.1)];simp only[a,e,cT,cF,oB];rfl;have o:decide (((l.length:Nat):Int) > 4096)=false:=decide_eq_false (by omega)
 by_cases h3:a3o k s (l.length:Int)
 rotate_left;have b:a9Y k s (l.length:Int)=false:=by simp[a9Y,h3]
 rw[if_pos (fun g=>h3 g.2.2)];simp only[a,o,b1w h,b,cF,a35,cT,oB];rfl;have b:a9Y k s (l.length:Int)=true:=by simp[a9Y,h3]
 rw[if_neg (fun g=>g ⟨h1,h2,h3⟩)];simp only[a,o,b1w h,b,cF,bT,oB,a3J j];cases hw:l.all a0A with
 |false=>rfl
 |true=>
  simp only[bT,cF,c3t h,oB];rw[if_neg (by simp)]
  by_cases h0:k=0
  ·subst h0;have w:=b9k h1 j (a1J 0) (a0T 0 s);have v:a1J 0=((0:Int),(0:Int),(0:Int),(0:Int),(0:Int),([]:(List Int)),a00 3 (0:Int),([]:(List (Int×Int×Unit))),([]:(List Int)),((0:Int),([]:(List Int)),()),([]:(List Int)),()):=rfl;rw[←v,if_pos rfl];simp only[show((0:Int)==0)=true from rfl,cT,w,oB];cases l.all (fun x=>x==l.headD 0)with
   |false=>rfl
   |true=>simp only[cT,c2y h1,oB];rfl
  ·obtain⟨z,A,-⟩:=a7w j hw;obtain⟨t,n,C,-⟩:=a4G h2 hw;have c:(k==0)=false:=by grind
   rw[if_neg h0];simp only[c,cF,z,oB,b1B A (show l.length<100000 by omega),t,a4g,show((0:Int) != 0)=false from rfl]
   by_cases hk1:k=1
   subst hk1;rfl
   ·have i:(k==1)=false:=by simp_all
    have p:=b3S h3 h0 hk1;rw[if_neg hk1];have m:=c4u p h (d:=a0X l) (by simp_all) (by omega) n (a2B l);have u:((a0T k s).1,((a2B l:Nat):Int),(a0T k s).2.2)=a1B (a0T k s) (a2B l) [] z0 []:=rfl;simp only[i,cF,u,m,oB];cases hr:a4H k s (a0X l)with
    |none=>rfl
    |some q=>
     obtain⟨B,r⟩:=q;obtain⟨E,r2,y,-⟩:=b9j p (by simp_all) n hr;have f:a5l (l.length:Int) (B.length:Int)=true:=by simp_all[a5l]
     have hb:=b7R f (l:=r) (by omega) y (by omega);simp only[show((0:Int) != 0)=false from rfl,cF,a1B,hb,oB]
theorem c3u(h:a4D p n warm=true):p.2.1.length≤256:=by
 simp only[a4D,bA,a32,beq_eq_false_iff_ne,ne_eq,beq_iff_eq]at h
 grind[b1k,a1m]
theorem b2g(h:SmallS s)(g:wm.length≤5000)(f:r.length≤5000)(k:p.2.1.length≤300):SmallS (a1B s w wm p r):=
 ⟨h.coefs,h.taps,h.stages,g,f,k⟩
theorem c2z(f:(a1i k l s).2=0):
  1≤l.length∧l.length≤4096∧a3o k s (l.length:Int)∧l.all a0A=true∧
   ((k=0∧l.all (fun x=>x==l.headD 0)=true∧(a1i k l s).1=a1B (a0T 0 s) 0 [l.headD 0] z0 [])∨
    (k=1∧(a1i k l s).1=a1B (a0T 1 s) (a2B l) (a0X l) z0 [])∨
     ((k=2∨k=3∨k=4∨k=5)∧∃wm r,a4H k s (a0X l)=some (wm,r)∧(a1i k l s).1=a1B (a0T k s) (a2B l) wm (b3v (l.length:Int) (wm.length:Int) r) r)):=by
 unfold a1i at f⊢
 split at f
 omega;rename_i g;have g:1≤l.length∧l.length≤4096∧a3o k s (l.length:Int):=Classical.byContradiction g;refine⟨g.1,g.2.1,g.2.2,?_⟩;rw[if_neg (fun h=>h g)]
 split at f
 omega;rename_i d;have a:l.all a0A=true:=by simp_all
 refine⟨a,?_⟩;rw[if_neg d]
 split at f
 grind
 rename_i b;rw[if_neg b]
 split at f
 simp_all;rename_i c;rw[if_neg c];refine .inr (.inr ⟨b3S g.2.2 b c,?_⟩)
 grind
theorem b0F:b1x (a1B (a0T k s) w wm p r):=by
 unfold b1x a1B a0T;simp_all
theorem b4t(h:a3o k s n):a3o (a1B (a0T k s) w wm p r).1 (a1B (a0T k s) w wm p r) n:=c2x.2 h
theorem c4v{l:List Int}(h:l.all (fun x=>x==l.headD 0)=true):a00 l.length (l.headD 0)=l:=by
 refine(List.eq_replicate_iff.2 ⟨rfl,fun x g=>?_⟩).symm
 grind
theorem b6t(I:SmallS s)(G:(a1i k l s).2=0):
  SmallS (a1i k l s).1∧(a1i k l s).1.1=k∧a1k (a1i k l s).1 (l.length:Int)∧a1P (a1i k l s).1 (l.length:Int)=some l:=by
 obtain⟨S,H,u,A,K⟩:=c2z G;have M:short l:=by unfold short;omega
 obtain⟨-,Y,-⟩:=a7w M A;obtain⟨O,v,P,D⟩:=a4G H A;have d:∀m:Sub,a1k m (l.length:Int)→b8L m (l.length:Int)=some l→a1P m (l.length:Int)=some l:=fun m j n=>by simp_all[a1P]
 have b:=b9i I k;rcases K with⟨rfl,y,e⟩|⟨rfl,e⟩|⟨z,i,r,f,e⟩
 ·rw[e];have g:a1k (a1B (a0T 0 s) 0 [l.headD 0] z0 []) (l.length:Int):=by
   have T:a0A (l.headD 0)=true:=by
    cases l with
    |nil=>rfl
    |cons a l=>simp_all
   exact⟨by omega,by omega,b4t u,b0F,Int.le_refl _,(by simp:(0:Int)≤30),fun _=>rfl,rfl,by simp_all[a1B],rfl,fun _=>⟨rfl,rfl,rfl⟩,fun h=>absurd rfl h.1⟩
  refine⟨b2g b (by simp) (by simp) (by simp[z0]),rfl,g,d _ g ?_⟩;show some (a00 (l.length:Int).toNat (l.headD 0))=some l
  grind[c4v]
 rw[e];have g:a1k (a1B (a0T 1 s) (a2B l) (a0X l) z0 []) (l.length:Int):=
  ⟨by omega,by omega,b4t u,b0F,a80 _,(by show((a2B l:Nat):Int)≤30;omega),fun h=>absurd h (by simp:¬ (1:Int)=0),by show(((a0X l).length:Nat):Int)=(l.length:Int);omega,v,rfl,fun _=>⟨rfl,rfl,rfl⟩,fun h=>absurd rfl h.2⟩
 refine⟨b2g b (by omega) (by simp) (by simp[z0]),rfl,g,d _ g ?_⟩;show upO ((a2B l:Nat):Int) (a0X l)=some l;omega
 ·rw[e];obtain⟨X,r2,C,N⟩:=b9j z (by simp_all) v f;have q:a5l (l.length:Int) (i.length:Int)=true:=by simp only[a5l,bA,dT];omega
  have hp:=c4t q (l:=r) (by omega) C (by omega);generalize b3v (l.length:Int) (i.length:Int) r=p at hp;have L:=c3u hp

  have t:a1R (a1B (a0T k s) (a2B l) i p r) (l.length:Int)=(i.length:Int)∧backP (a1B (a0T k s) (a2B l) i p r)=some (a0X l):=by
   simp only[a3o]at u;rcases z with rfl|rfl|rfl|rfl
   ·obtain⟨U,V,B⟩:0≤s.2.2.1∧s.2.2.1≤4∧s.2.2.1≤(l.length:Int):=by omega
    simp[a4H]at f;cases hq:(a1Q s.2.2.1.toNat (a0X l)).all a0A with
    |false=>simp_all
    |true=>
     simp[hq]at f;obtain⟨rfl,rfl⟩:=f;refine⟨?_,?_⟩;show s.2.2.1=_
     grind
     show b4n ((a0X l).take s.2.2.1.toNat) (a1Q s.2.2.1.toNat (a0X l)) s.2.2.1=some (a0X l);have hb:=b8U v (o:=s.2.2.1.toNat) (by omega) ((a0X l).length-s.2.2.1.toNat) 0 (by omega);rw[a27,a82]at hb
     grind[b4n]
   have B:(s.2.2.2.2.2.1.length:Int)≤(l.length:Int):=by omega
   simp only[a4H,show ¬ (3:Int)=2 by simp,if_false,if_true,a20,pJ]at f;obtain⟨w,j,rfl,rfl⟩:=f;obtain⟨n,-,-⟩:=b2c j;refine⟨?_,?_⟩;show((s.2.2.2.2.2.1.length:Nat):Int)=_;simp_all;exact n;have B:(s.2.2.2.2.2.1.length:Int)≤(l.length:Int):=by omega
   simp only[a4H,show ¬ (4:Int)=2 by simp,show ¬ (4:Int)=3 by simp,if_false,if_true,a43,a20,pJ]at f;obtain⟨x,F,w,j,rfl,rfl⟩:=f;obtain⟨Q,-,R⟩:=b3k F;obtain⟨n,-,-⟩:=b2c j;refine⟨?_,?_⟩;show((s.2.2.2.2.2.1.length:Nat):Int)=_;simp_all;show(a9S (x.take s.2.2.2.2.2.1.length) w s.2.2.2.2.2.1 s.2.2.2.1).bind (fun l=>b0S l s.2.2.2.2.1 s.2.2.2.2.2.2.1)=_;simp_all;simp only[a4H,show ¬ (5:Int)=2 by simp,show ¬ (5:Int)=3 by simp,show ¬ (5:Int)=4 by simp,if_false,a20,pJ]at f;obtain⟨w,j,rfl,rfl⟩:=f;obtain⟨n,-,-⟩:=b5j j;exact⟨rfl,n⟩
  have c:¬ (k=0∨k=1):=by omega
  have g:a1k (a1B (a0T k s) (a2B l) i p r) (l.length:Int):=by
   unfold a1k;rw[t.1];exact⟨by omega,by omega,b4t u,b0F,a80 _,(by show((a2B l:Nat):Int)≤30;omega),fun h=>absurd (.inl h) c,rfl,N,C,fun h=>absurd h c,fun _=>⟨(by show((r.length:Nat):Int)=_;omega),hp⟩⟩
  refine⟨b2g b (by omega) (by omega) (by omega),rfl,g,d _ g ?_⟩;have E:¬ (a1B (a0T k s) (a2B l) i p r).1=0:=fun h=>c (.inl h);unfold b8L;rw[if_neg E,t.2];exact D
theorem c2A:SmallS (a1J 0):=c1a 0
def cS(k o sh:Int)(c:List Int)(st:List Stg):Sub:=
 (k,(0:Int),o,sh,(0:Int),c,a00 3 (0:Int),st,([]:List Int),((0:Int),([]:List Int),()),([]:List Int),())
theorem a8y{k o sh:Int}{c:List Int}{st:List Stg}(h:c.length≤40)(g:st.length≤6):SmallS (cS k o sh c st):=
 ⟨h,rfl,g,by simp[cS],by simp[cS],by simp[cS]⟩
def a9F(d:List Int)(o w:Int):List Int×(Int×Int):=(a3n (d,o,w)).getD ([],0,1)
def a8z(d:List Int)(o w:Int):List Sub:=bif (a9F d o w).2.2==0 then[cS 3 0 (a9F d o w).2.1 (a9F d o w).1 []]else[]
def c2B(d:List Int):Int:=(a5b d).getD 0
def b2h(d:List Int):Sub×Bool:=(a2Z d).getD (a1J 0,false)
def b4u(d:List Int):List Sub:=bif (b2h d).2 then[(b2h d).1]else[]
def a8A(i:Nat):List Sub:=(List.range i).map fun(j:Nat)=>cS 2 (j:Int) 0 [] []
def a1T(d:List Int):List Sub:=[cS 0 0 0 [] [],cS 1 0 0 [] [],cS 2 (c2B d) 0 [] []]
def a2V(d:List Int)(k:Int):List Sub:=if 1≤k then a8z d 4 12++a8z d 8 12 else[]
def a8l(d:List Int)(k:Int):List Sub:=if 2≤k then[cS 5 0 0 [] [((16:Int),(4:Int),())],cS 5 0 0 [] [((32:Int),(3:Int),()),((16:Int),(5:Int),())]]++b4u d else[]
def b5q(d:List Int)(k:Int):List Sub:=if 3≤k then a8A 5++(a8z d 1 12++(a8z d 2 12++(a8z d 12 14++a8z d 16 14)))else[]
def a2q(d:List Int)(k:Int):List Sub:=a1T d++(a2V d k++(a8l d k++b5q d k))
def b3w(d:List Int):Prop:=a2Z d=some (b2h d)∧((b2h d).2=true→SmallS (b2h d).1)
theorem b9l(a:d.all a0A=true)(k:d.length≤4096)(h:1≤o)(g:o≤32)(f:2≤w∧w≤16):
  a3n (d,(o:Int),(w:Int))=some (a9F d o w)∧((a9F d o w).2.2=0→(a9F d o w).1.length=o):=by
 obtain⟨c,sh,e,b,i⟩:=c3o a k h g f;unfold a9F;simp_all
theorem a8B(d:List Int)(o w:Int):(a8z d o w).length≤1:=by
 grind[a8z]
theorem a8C(c:d.all a0A=true)(b:d.length≤4096)(f:1≤o)(k:o≤32)(a:2≤w∧w≤16){L:List Sub}(e:L.length<1000):
  a0M ((o:Int),(w:Int),d,L)=some (d,L++a8z d o w):=by
 obtain⟨g,-⟩:=b9l c b f k a;have h:lim (L.length+1)=true:=a0P (by omega);unfold a0M a8z;simp only[g,oB];cases (a9F d o w).2.2==0 with
 |true=>simp only[cT,h];rfl
 |false=>simp
theorem c2C{L:List Sub}(k:L.length<1000):y0s a1V ((0:Int),L,d,())=some (L++a8A 5,d,()):=by
 have:=a2o (f:=a1V) (fun i:Nat=>((i:Int),L++a8A i,d,())) 5 (b:=(L++a8A 5,d,()))
  (fun i a=>by
   have g:decide ((i:Int)<5)=true:=decide_eq_true (by omega);have h:lim ((L++a8A i).length+1)=true:=a0P (by simp[a8A];omega);have e:(L++a8A i)++[cS 2 (i:Int) 0 [] []]=L++a8A (i+1):=by simp[a8A,List.range_succ]
   rw[←e];simp only[a1V,g,cT,h,a0C (show i<1000000 by omega)];rfl)
  (by
   rfl)
 simp at this;rw[show a8A 0=[]from rfl,a39]at this;omega
theorem c5L(a:d.all a0A=true)(c:d.length≤4096)(l:b3w d)(k:Int):a5y (d,k)=some (a2q d k):=by
 obtain⟨o,E,F⟩:=b5h (show d.length<100000 by omega) a;have hb:c2B d=(o:Int):=by simp_all[c2B]
 have D:(b4u d).length≤1:=by grind[b4u]
 have N:=a8B d 4 12;have O:=a8B d 8 12;have l1:=a8B d 1 12;have l2:=a8B d 2 12;have G:=a8B d 12 14;have y:=fun L (hL:L.length<1000)=>a8C (L:=L) a c (o:=4) (w:=12) (by omega) (by omega) (by omega) hL;have z:=fun L (hL:L.length<1000)=>a8C (L:=L) a c (o:=8) (w:=12) (by omega) (by omega) (by omega) hL;have v:=fun L (hL:L.length<1000)=>a8C (L:=L) a c (o:=1) (w:=12) (by omega) (by omega) (by omega) hL;have x:=fun L (hL:L.length<1000)=>a8C (L:=L) a c (o:=2) (w:=12) (by omega) (by omega) (by omega) hL;have i:=fun L (hL:L.length<1000)=>a8C (L:=L) a c (o:=12) (w:=14) (by omega) (by omega) (by omega) hL;have j:=fun L (hL:L.length<1000)=>a8C (L:=L) a c (o:=16) (w:=14) (by omega) (by omega) (by omega) hL;simp at y z v x i j;have P:(a1T d).length=3:=rfl;have n1:(a2V d k).length≤2:=by unfold a2V;split<;>simp<;>omega
 have n2:(a8l d k).length≤3:=by unfold a8l;split<;>simp<;>omega
 have Q:(a8A 5).length=5:=rfl;have M:(bif decide (k≥1)then((a0M ((4:Int),(12:Int),d,a1T d)).bind fun n=>(a0M ((8:Int),(12:Int),n.1,n.2)).bind fun p=>some (k,p.1,p.2,()))else some (k,d,a1T d,()))=some (k,d,a1T d++a2V d k,()):=by
  unfold a2V
  by_cases h:1≤k
  have e:decide (k≥1)=true:=decide_eq_true h;simp only[e,cT,y (a1T d) (by omega),oB,z (a1T d++a8z d 4 12) (by grind),if_pos h,aA]
  grind
 have C:a5y (d,k)=(a5b d).bind fun A=>
   (show Option (Int×((List Int)×((List Sub)×Unit)))from bif decide (k≥1)then((a0M ((4:Int),(12:Int),d,[cS 0 0 0 [] [],cS 1 0 0 [] [],cS 2 A 0 [] []])).bind fun n=>(a0M ((8:Int),(12:Int),n.1,n.2)).bind fun p=>some (k,p.1,p.2,()))else some (k,d,[cS 0 0 0 [] [],cS 1 0 0 [] [],cS 2 A 0 [] []],())).bind fun g=>
   (show Option (Int×((List Sub)×((List Int)×Unit)))from bif decide (g.1≥2)then(bif lim (g.2.2.1.length+1)then(bif lim ((g.2.2.1++[cS 5 0 0 [] [((16:Int),(4:Int),())]]).length+1)then((a2Z g.2.1).bind fun q=>
    bif q.2 then(bif lim ((g.2.2.1++[cS 5 0 0 [] [((16:Int),(4:Int),())]]++[cS 5 0 0 [] [((32:Int),(3:Int),()),((16:Int),(5:Int),())]]).length+1)then some (g.1,g.2.2.1++[cS 5 0 0 [] [((16:Int),(4:Int),())]]++[cS 5 0 0 [] [((32:Int),(3:Int),()),((16:Int),(5:Int),())]]++[q.1],g.2.1,())else none)
    else some (g.1,g.2.2.1++[cS 5 0 0 [] [((16:Int),(4:Int),())]]++[cS 5 0 0 [] [((32:Int),(3:Int),()),((16:Int),(5:Int),())]],g.2.1,()))else none)else none)else some (g.1,g.2.2.1,g.2.1,())).bind fun t=>
   (show Option ((List Sub)×Unit)from bif decide (t.1≥3)then((y0s a1V ((0:Int),t.2.1,t.2.2.1,())).bind fun m=>(a0M ((1:Int),(12:Int),m.2.1,m.1)).bind fun r=>(a0M ((2:Int),(12:Int),r.1,r.2)).bind fun s=>
    (a0M ((12:Int),(14:Int),s.1,s.2)).bind fun f=>(a0M ((16:Int),(14:Int),f.1,f.2)).bind fun b=>some (b.2,()))else some (t.2.1,())).bind fun u=>some u.1:=rfl
 have B:[cS 0 0 0 [] [],cS 1 0 0 [] [],cS 2 (o:Int) 0 [] []]=a1T d:=by unfold a1T;grind
 have R:(bif decide (k≥2)then(bif lim ((a1T d++a2V d k).length+1)then(bif lim ((a1T d++a2V d k++[cS 5 0 0 [] [((16:Int),(4:Int),())]]).length+1)then((a2Z d).bind fun q=>
    bif q.2 then(bif lim ((a1T d++a2V d k++[cS 5 0 0 [] [((16:Int),(4:Int),())]]++[cS 5 0 0 [] [((32:Int),(3:Int),()),((16:Int),(5:Int),())]]).length+1)then some (k,a1T d++a2V d k++[cS 5 0 0 [] [((16:Int),(4:Int),())]]++[cS 5 0 0 [] [((32:Int),(3:Int),()),((16:Int),(5:Int),())]]++[q.1],d,())else none)
    else some (k,a1T d++a2V d k++[cS 5 0 0 [] [((16:Int),(4:Int),())]]++[cS 5 0 0 [] [((32:Int),(3:Int),()),((16:Int),(5:Int),())]],d,()))else none)else none)else some (k,a1T d++a2V d k,d,()):Option (Int×((List Sub)×((List Int)×Unit))))=some (k,a1T d++(a2V d k++a8l d k),d,()):=by
  unfold a8l
  by_cases h:2≤k
  have e:decide (k≥2)=true:=decide_eq_true h;have H:lim ((a1T d++a2V d k).length+1)=true:=a0P (by grind);have I:lim ((a1T d++a2V d k++[cS 5 0 0 [] [((16:Int),(4:Int),())]]).length+1)=true:=a0P (by simp;omega);have K:lim ((a1T d++a2V d k++[cS 5 0 0 [] [((16:Int),(4:Int),())]]++[cS 5 0 0 [] [((32:Int),(3:Int),()),((16:Int),(5:Int),())]]).length+1)=true:=a0P (by simp;omega);simp only[e,H,I,K,cT,l.1,oB,if_pos h,b4u];cases (b2h d).2<;>simp
  grind
 have S:(bif decide (k≥3)then((y0s a1V ((0:Int),a1T d++(a2V d k++a8l d k),d,())).bind fun m=>(a0M ((1:Int),(12:Int),m.2.1,m.1)).bind fun r=>(a0M ((2:Int),(12:Int),r.1,r.2)).bind fun s=>
    (a0M ((12:Int),(14:Int),s.1,s.2)).bind fun f=>(a0M ((16:Int),(14:Int),f.1,f.2)).bind fun b=>some (b.2,()))else some (a1T d++(a2V d k++a8l d k),()):Option ((List Sub)×Unit))=some (a2q d k,()):=by
  unfold a2q b5q
  by_cases h:3≤k
  have e:decide (k≥3)=true:=decide_eq_true h;simp only[e,cT,c2C (L:=a1T d++(a2V d k++a8l d k)) (by simp;omega),oB,if_pos h];rw[v _ (by simp;omega)];simp only[oB];rw[x _ (by simp;omega)];simp only[oB];rw[i _ (by simp;omega)];simp only[oB];rw[j _ (by simp;omega)]
  simp
  grind
 rw[C,E,oB,B];simp only[];rw[M];simp only[oB];simp_all
theorem b5r(l:d.all a0A=true)(i:d.length≤4096)(f:b3w d)(k:Int):∀c∈a2q d k,SmallS c:=by
 have g:∀(o w:Nat),1≤o→o≤32→2≤w∧w≤16→∀c∈a8z d o w,SmallS c:=fun o w a b e c h=>by
  obtain⟨-,m⟩:=b9l l i a b e;unfold a8z at h;cases he:(a9F d o w).2.2==0 with
  |false=>simp_all
  |true=>
   rw[he]at h;simp at h
   grind[a8y]
 intro c h;simp[a2q]at h;rcases h with h|h|h|h;simp[a1T]at h;rcases h with rfl|rfl|rfl<;>exact a8y (by simp) (by simp);unfold a2V at h
 split at h
 simp at h;rcases h with h|h;exact g 4 12 (by omega) (by omega) (by omega) c h;exact g 8 12 (by omega) (by omega) (by omega) c h;simp_all
 ·unfold a8l at h
  split at h
  ·simp only[mA,mC,a95,or_false]at h;rcases h with(rfl|rfl)|h;simp_all[a8y];simp_all[a8y]
   ·unfold b4u at h;cases hg:(b2h d).2 with
    |false=>simp_all
    |true=>
     rw[hg]at h;simp at h;subst h;exact f.2 hg
  simp_all
 unfold b5q at h
 split at h
 simp only[mA,a8A,List.mem_map]at h;rcases h with⟨j,-,rfl⟩|h|h|h|h;simp_all[a8y];exact g 1 12 (by omega) (by omega) (by omega) c h;exact g 2 12 (by omega) (by omega) (by omega) c h;exact g 12 14 (by omega) (by omega) (by omega) c h;exact g 16 14 (by omega) (by omega) (by omega) c h;simp_all
theorem c4w(g:d.length≤256):a2Z d=some (a1J 0,false):=by
 have h:a8M (d,(16:Int),(256:Int))=some (0,7):=by
  unfold a8M
  grind
 unfold a2Z;simp only[h,oB,show((7:Int) != 0)=true from rfl,cT];rfl
theorem c3v{d:List Int}(g:d.length≤256):b3w d:=by
 have h:=c4w g
 have:b2h d=(a1J 0,false):=by unfold b2h;simp_all
 exact⟨by simp_all,fun f=>by simp_all⟩
def b1G(l:List Int)(a:Int×(Bool×Sub))(c:Sub):Int×(Bool×Sub):=
 bif (a1i c.1 l c).2 != 0 then a else bif !a.2.1 || decide (a2D (a1i c.1 l c).1 (l.length:Int)<a.1)then(a2D (a1i c.1 l c).1 (l.length:Int),true,(a1i c.1 l c).1)else a
def b2i(l:List Int)(cs:List Sub):Int×(Bool×Sub):=cs.foldl (b1G l) (0,false,a1J 0)
theorem b2j{α A β:Type}(g:A→α→A)(h:A→β):∀(l:List α)(a:A),a7m h (a2p (fun a x=>.inl (g a x)) l a)=h (l.foldl g a)
 | [],_=>rfl
 |x::l,a=>b2j g h l (g a x)
theorem c1b(h:SmallS s):SmallS (a1i k l s).1:=by
 by_cases h0:(a1i k l s).2=0
 exact(b6t h h0).1
 have:(a1i k l s).1=a1J 0:=by
  unfold a1i at h0⊢
  grind
 simp_all[c2A]
theorem c3w{cs:List Sub}(j:∀c∈cs,SmallS c)(p:l.length≤4096)(o:cs.length<1000):
  y0s a5N (l,(0:Int),false,cs,((cs.length:Nat):Int),(0:Int),a1J 0,a1J 0,())=some (a1J 0,(b2i l cs).2.2,()):=by
 have:=a1E (f:=a5N) cs (fun i a=>(l,a.1,a.2.1,cs,((cs.length:Nat):Int),(i:Int),a1J 0,a.2.2,())) (fun a x=>.inl (b1G l a x)) (fun _ _=>True) (fun a=>(a1J 0,a.2.2,()))
  (fun i g a _=>by
   refine⟨fun n h=>?_,fun b hb=>by grind⟩;simp at h;subst h;refine⟨?_,trivial⟩;have d:=j _ (a05 g);have e:=b3u (c1b (k:=cs[i].1) (l:=l) d) (l.length:Int);unfold b1G;simp only[a5N,dlt g,cT,a0B g,oB,c5K d cs[i].1 (show l.length≤100000 by omega),e,a0C (show i<1000000 by omega)];cases (a1i cs[i].1 l cs[i]).2 != 0 with
   |true=>rfl
   |false=>
    have m:=a0C (show i<1000000 by omega)
    grind)
  (fun a _=>by simp_all[a5N]) (a:=((0:Int),false,a1J 0)) trivial
 simp at this;rw[this,b2j];rfl
theorem c5M(v:1≤l.length)(c:l.length≤4096)(a:l.all a0A=true)(h:b3w (a0X l))(u:0≤k)(x:k≤3):
  a2b (l,k)=some ((b2i l (a2q (a0X l) k)).2.2,0):=by
 have d:short l:=by unfold short;omega
 obtain⟨r,s,-⟩:=a7w d a;obtain⟨e,b,t,-⟩:=a4G c a;have i:decide (((l.length:Nat):Int)<1)=false:=decide_eq_false (by omega);have j:decide (((l.length:Nat):Int) > 4096)=false:=decide_eq_false (by omega);have m:decide (k<0)=false:=decide_eq_false (by omega);have n:decide (k > 3)=false:=decide_eq_false (by omega);have f:(a2q (a0X l) k).length<1000:=by
  have g:=fun o w=>a8B (a0X l) o w;have y:=g 4 12;have z:=g 8 12;have A:=g 1 12;have B:=g 2 12;have C:=g 12 14;have D:=g 16 14;have p:(b4u (a0X l)).length≤1:=by grind[b4u]
  simp only[a2q,a1T,a2V,a8l,b5q,lN]
  grind[a8A]
 have hb:=c3w (l:=l) (b5r b (by omega) h k) c f;have q:a1J 0=((0:Int),(0:Int),(0:Int),(0:Int),(0:Int),([]:(List Int)),a00 3 (0:Int),([]:(List (Int×Int×Unit))),([]:(List Int)),((0:Int),([]:(List Int)),()),([]:(List Int)),()):=rfl;unfold a2b;simp only[←q,i,j,m,n,cF,oB,a3J d,a,bT,r,b1B s (show l.length<100000 by omega),e,a4g,show((0:Int) != 0)=false from rfl,c5L b (show(a0X l).length≤4096 by omega) h,hb]
theorem a8D(v:Int)(n:Nat)(L:List Int):(a0L v n L).length=L.length+(a0L v n []).length:=by
 grind[a0L]
theorem b1b(n:Nat):∀(l L:List Int),(a1w n l L).length=L.length+(a1w n l []).length
 | [],L=>by rfl
 |x::l,L=>by
  show(a1w n l (a0L (a0R x n) n L)).length=L.length+(a1w n l (a0L (a0R x n) n [])).length;rw[b1b n l,b1b n l (a0L (a0R x n) n []),a8D];omega
theorem b1n:∀(st:List Stg)(L:List Int),(a2M st L).length=L.length+(a2M st []).length
 | [],L=>by rfl
 |s::st,L=>by
  show(a2M st (a5o s L)).length=L.length+(a2M st (a5o s [])).length;rw[b1n st,b1n st (a5o s [])];unfold a5o;rw[a8D,a8D _ 5 L,a8D _ 4 (a0L _ 5 [])];omega
theorem c2D(s:Sub)(L:List Int):(a5p s L).length=L.length+(a5p s []).length:=by
 grind[a5p,b1b,a8D]
theorem b6N(s:Sub)(L:List Int):(a2c s L).length=L.length+(a2c s []).length:=by
 grind[a2c,a8D,c2D,b1b,b1n]
theorem c4x(g:0≤s.1∧s.1≤5)(f:0≤s.2.1∧s.2.1≤30)(h:s.2.2.2.2.2.2.2.2.1.all a0A=true)(L:List Int):(a9a s L).length=L.length+13:=by
 grind[a01,a1G,a9a,a3b,a8x]
def c2E(s:Sub)(zn:List Nat):Nat:=
 13+(a2c s []).length+a0G s.2.2.2.2.2.2.2.2.1*s.2.2.2.2.2.2.2.2.1.length+if s.1=0∨s.1=1 then 0 else 4+a4F zn s.2.2.2.2.2.2.2.2.2.1.2.1 s.2.2.2.2.2.2.2.2.2.2.1
theorem b2k(h:a3o k s n):0≤k∧k≤5:=by
 rcases h with h|h|⟨h,-⟩|⟨h,-⟩|⟨h,-⟩|⟨h,-⟩<;>omega
theorem b1o(h:(a1P s n).isSome=true):a1k s n:=by
 grind[a1P]
theorem c5N(h:(a1P s n).isSome=true)(d:s.1≠0∧s.1≠1→PartsOk s.2.2.2.2.2.2.2.2.2.1 n ((s.2.2.2.2.2.2.2.2.1.length:Nat):Int) s.2.2.2.2.2.2.2.2.2.2.1 zn)(L:List Int):
  (a4n s zn L).length=L.length+c2E s zn:=by
 obtain⟨e,i,b,-,k,a,-,-,f,-⟩:=b1o h;have c:=a1G f;have g:=c4x (b2k b) ⟨k,a⟩ f L;unfold a4n c2E
 by_cases hk:s.1=0∨s.1=1
 rw[if_pos hk,if_pos hk,b0Z (by omega),b6N,g];omega;rw[if_neg hk,if_neg hk,b7Q (d (not_or.1 hk)),b0Z (by omega),b6N,g];omega
theorem c4y(h:SmallS s)(f:(a1P s n).isSome=true):∃g,a2D s n=((c2E s g:Nat):Int)∧(s.1≠0∧s.1≠1→PartsOk s.2.2.2.2.2.2.2.2.2.1 n ((s.2.2.2.2.2.2.2.2.1.length:Nat):Int) s.2.2.2.2.2.2.2.2.2.2.1 g):=by
 obtain⟨e,b,-,-,-,a,-⟩:=b1W h (n:=n) (L:=[]) (by simp);obtain⟨-,g,-,k⟩:=a f;refine⟨g,?_,k⟩;unfold a2D;rw[if_pos f,←b6r k,c5N f k]
 simp
structure Shifted (l m:List Int) (n:Nat):Prop where
 len:m.length=l.length
 wl:l.all a0A=true
 wm:m.all a0A=true
 down:a0X m=a0X l
 waste:a2B m=a2B l+n
 fl:l.all (fun x=>x==l.headD 0)=false
 fm:m.all (fun x=>x==m.headD 0)=false
structure BestIs (l:List Int) (cs:List Sub) (a:Int×(Bool×Sub)):Prop where
 one:a.2.1=true→∃c∈cs,(a1i c.1 l c).2=0∧a.2.2=(a1i c.1 l c).1∧a.1=a2D a.2.2 (l.length:Int)
 least:∀c∈cs,(a1i c.1 l c).2=0→a.2.1=true∧a.1≤a2D (a1i c.1 l c).1 (l.length:Int)
theorem b3n{l:List Int}:∀(cs ds:List Sub)(a:Int×(Bool×Sub)),BestIs l ds a→BestIs l (ds++cs) (cs.foldl (b1G l) a)
 | [],ds,a,h=>by simp_all
 |c::cs,ds,a,h=>by
  rw[a99,show ds++c::cs=(ds++[c])++cs by simp];refine b3n cs (ds++[c]) _ ?_
  unfold b1G
  by_cases h0:(a1i c.1 l c).2=0
  ·have n1:((a1i c.1 l c).2 != 0)=false:=by simp_all
   rw[n1,cF];cases hq:(!a.2.1 || decide (a2D (a1i c.1 l c).1 (l.length:Int)<a.1))with
   |true=>
    refine⟨fun _=>⟨c,by simp,h0,rfl,rfl⟩,fun d f k=>⟨rfl,?_⟩⟩;rcases mA.1 f with f|f;obtain⟨e,i⟩:=h.least d f k
    grind
    simp_all
   |false=>
    simp only[a74,Bool.not_eq_false',decide_eq_false_iff_not]at hq;refine⟨fun b=>?_,fun d f k=>?_⟩;obtain⟨d,f,g⟩:=h.one b
    grind
    rcases mA.1 f with f|f;exact h.least d f k;simp_all
  have n1:((a1i c.1 l c).2 != 0)=true:=by simp_all
  rw[n1,cT];refine⟨fun b=>?_,fun d f k=>?_⟩;obtain⟨d,f,g⟩:=h.one b
  grind
  rcases mA.1 f with f|f;exact h.least d f k;simp_all
theorem b3x(l:List Int)(cs:List Sub):BestIs l cs (b2i l cs):=
 b3n cs [] _ ⟨fun h=>(by grind),fun _ h=>(by grind)⟩
theorem b2l(h:1≤l.length)(g:l.length≤4096)(f:l.all a0A=true):a1i 1 l (cS 1 0 0 [] [])=(a1B (a0T 1 (cS 1 0 0 [] [])) (a2B l) (a0X l) z0 [],0):=by
 unfold a1i;rw[if_neg (fun q=>q ⟨h,g,.inr (.inl rfl)⟩),if_neg (by simp_all),if_neg (by simp),if_pos rfl]
theorem b5s(h:1≤l.length)(g:l.length≤4096)(f:l.all a0A=true)(d:List Int)(k:Int):(b2i l (a2q d k)).2.1=true:=
 ((b3x l (a2q d k)).least (cS 1 0 0 [] []) (by simp[a2q,a1T]) (by rw[show(cS 1 0 0 [] []).1=1 from rfl,b2l h g f])).1
def inW(x:Int)(v:Nat):Bool:=decide (x=0) || a1r x (v:Int)
theorem c4z{x:Int}{v:Nat}:a1r x (v:Int)=true↔1≤v∧v≤31∧-((2^(v-1):Nat):Int)≤x∧x≤((2^(v-1):Nat):Int)-1:=by
 by_cases hv:1≤v∧v≤31
 have e:((v:Int)-1)=((v-1:Nat):Int):=by omega
 have hp:2^(v-1)≤2^30:=a08 (by omega) (by omega);have a:=a16 (v-1);have g:A0n .i64 1 ((v-1:Nat):Int)=((2^(v-1):Nat):Int):=b8V (by omega);have f:A0n .i64 (-1) ((v-1:Nat):Int)=-((2^(v-1):Nat):Int):=by
  grind[IntKind.bits,A0n,a0D]
 have k:wrap .i64 (((2^(v-1):Nat):Int)-1)=((2^(v-1):Nat):Int)-1:=a0D (by omega);simp only[a1r,e,g,f,k,bA,dT];omega;constructor;intro h;simp[a1r]at h;omega;omega
theorem b3y:inW x v=true↔x=0∨(1≤v∧v≤31∧-((2^(v-1):Nat):Int)≤x∧x≤((2^(v-1):Nat):Int)-1):=by
 simp_all[inW,c4z]
theorem c4A{x:Int}{v w:Nat}(h:v≤w)(c:w≤31)(g:inW x v=true):inW x w=true:=by
 rw[b3y]at g⊢;rcases g with g|⟨f,k,a,b⟩;omega
 have:2^(v-1)≤2^(w-1):=a08 (by omega) (by omega)
 omega
theorem c4B{x:Int}(h:a0A x=true):inW x 31=true:=by
 have:=a1x.1 h
 rw[b3y];omega
theorem b6O{x:Int}(j:a0A x=true):∀(k w:Nat),w+k=32→w≤31→w≤a1A x k w∧a1A x k w≤31∧inW x (a1A x k w)=true∧∀v,w≤v→inW x v=true→v≤31→a1A x k w≤v
 |0,w,h,g=>absurd g (by omega)
 |k+1,w,h,g=>by
  by_cases hin:inW x w=true
  ·have:a1A x (k+1) w=w:=by
    unfold a1A;cases a:(x != 0)&&!a1r x (w:Int)with
    |false=>rfl
    |true=>
     simp at a;simp_all[inW]
   simp_all
  have a:((x != 0)&&!a1r x (w:Int))=true:=by
   simp_all[inW]
  have i:w≠31:=fun e=>hin (by simp_all[c4B]);have e:a1A x (k+1) w=a1A x k (w+1):=by
   show(bif (x != 0)&&!a1r x (w:Int)then a1A x k (w+1)else w)=_
   grind
  obtain⟨l,b,c,d⟩:=b6O j k (w+1) (by omega) (by omega);rw[e];refine⟨by omega,b,c,fun v hv f g=>d v ?_ f g⟩;rcases Nat.lt_or_ge w v with q|q;exact q
  have:v=w:=by omega
  exact absurd (this▸f) hin
theorem a8m:∀(l:List Int)(w:Nat),l.all a0A=true→w≤31→
  w≤l.foldl (fun w x=>a1A x (32-w) w) w∧l.foldl (fun w x=>a1A x (32-w) w) w≤31∧(∀x∈l,inW x (l.foldl (fun w x=>a1A x (32-w) w) w)=true)∧∀v,w≤v→v≤31→(∀x∈l,inW x v=true)→l.foldl (fun w x=>a1A x (32-w) w) w≤v
 | [],w,_,h31=>⟨a26 _,h31,by simp,fun v hv _ _=>hv⟩
 |x::l,w,h,h31=>by
  rw[a07,bA]at h;obtain⟨i,b,j,m⟩:=b6O h.1 (32-w) w (by omega) h31;obtain⟨c,a,d,e⟩:=a8m l (a1A x (32-w) w) h.2 b;simp only[a99];refine⟨by omega,a,fun y k=>?_,fun v hv f g=>?_⟩
  ·rcases mC.1 k with rfl|k
   all_goals grind[c4A]
  simp_all
theorem b9m{l:List Int}(h:l.all a0A=true):∀x∈l,inW x (a0G l)=true:=(a8m l 0 h (by omega)).2.2.1
theorem c1c(h:l.all a0A=true)(hv:v≤31)(g:∀x∈l,inW x v=true):a0G l≤v:=(a8m l 0 h (by omega)).2.2.2 v (by omega) hv g
theorem c4C{x:Int}{w v:Nat}(e:w≤30)(k:((2^w:Nat):Int) ∣ x)(h:inW x v=true):inW (A0o .i64 x (w:Int)) v=true:=by
 obtain⟨c,rfl⟩:=k;rw[c4q (by omega)];rw[b3y]at h⊢;have hp:(1:Int)≤((2^w:Nat):Int):=by have:=a16 w;omega
 generalize ((2^w:Nat):Int)=p at h hp;rcases h with h|⟨g,f,b,d⟩
 grind[Int.mul_eq_zero]
 refine .inr ⟨g,f,?_,?_⟩
 by_cases hc:0≤c
 omega;have a:=a46 (show 0≤p-1 by omega) (show 0≤-c by omega)
 grind
 by_cases hc:0≤c
 have a:=a46 (show 0≤p-1 by omega) hc
 grind
 omega
theorem c2F(k:l.length≤4096)(h:l.all a0A=true):a0G (a0X l)≤a0G l:=by
 obtain⟨-,e,c⟩:=a7w (show short l by unfold short;omega) h;obtain⟨-,f,-,-⟩:=a4G k h;have a:∀x∈l,((2^a2B l:Nat):Int) ∣ x:=by
  rcases c with⟨g,-⟩|⟨-,-,g,-⟩
  all_goals grind[a84]
 refine c1c f (a1G h) fun y b=>?_
 obtain⟨x,d,rfl⟩:=List.mem_map.1 b
 grind[c4C,b9m]
theorem c2G(a:1≤l.length)(h:l.length≤4096)(g:l.all a0A=true):a2D (a1i 1 l (cS 1 0 0 [] [])).1 (l.length:Int)=((13+a0G (a0X l)*l.length:Nat):Int):=by
 have b:SmallS (cS 1 0 0 [] []):=a8y (by simp) (by simp);have d:=b2l a h g;obtain⟨a1,-,-,f⟩:=b6t b (k:=1) (l:=l) (by grind);obtain⟨i,c,-⟩:=c4y a1 (by rw[f];rfl);obtain⟨-,-,j,-⟩:=a4G h g;rw[c,d];have e:c2E (a1B (a0T 1 (cS 1 0 0 [] [])) (a2B l) (a0X l) z0 []) i=13+0+a0G (a0X l)*(a0X l).length+0:=rfl;simp_all
theorem c3x{d:List Int}{k k':Int}(h:k≤k'):∀c∈a2q d k,c∈a2q d k':=by
 intro c g;simp[a2q]at g⊢;rcases g with g|g|g|g;simp_all;refine .inr (.inl ?_);unfold a2V at g⊢
 grind
 refine .inr (.inr (.inl ?_));unfold a8l at g⊢
 grind
 refine .inr (.inr (.inr ?_));unfold b5q at g⊢
 grind
theorem b2m{l:List Int}(b:1≤l.length)(f:l.length≤4096)(a:l.all a0A=true)(g:b3w (a0X l)){k:Int}(d:0≤k)(t:k≤3):
  ∃s,a2b (l,k)=some (s,0)∧SmallS s∧a1P s (l.length:Int)=some l∧s=(b2i l (a2q (a0X l) k)).2.2∧a2D s (l.length:Int)=(b2i l (a2q (a0X l) k)).1∧a2D s (l.length:Int)≤((13+a0G l*l.length:Nat):Int)∧
   (∀c∈a2q (a0X l) k,(a1i c.1 l c).2=0→a2D s (l.length:Int)≤a2D (a1i c.1 l c).1 (l.length:Int)):=by
 obtain⟨-,p,u,-⟩:=a4G f a;have hb:=c5M b f a g d t;have j:=b5s b f a (a0X l) k;obtain⟨c,i,q,r,o⟩:=(b3x l (a2q (a0X l) k)).one j;have e:=b5r p (by omega) g k c i;obtain⟨m,-,-,n⟩:=b6t e q;rw[←r]at m n;have h:∀c∈a2q (a0X l) k,(a1i c.1 l c).2=0→a2D (b2i l (a2q (a0X l) k)).2.2 (l.length:Int)≤a2D (a1i c.1 l c).1 (l.length:Int):=fun c i d=>by
  rw[←o];exact((b3x l (a2q (a0X l) k)).least c i d).2
 refine⟨_,hb,m,n,rfl,o.symm,?_,h⟩;have hp:=h (cS 1 0 0 [] []) (by simp[a2q,a1T]) (by rw[show(cS 1 0 0 [] []).1=1 from rfl,b2l b f a]);rw[show(cS 1 0 0 [] []).1=1 from rfl,c2G b f a]at hp
 have:=a24 l.length (c2F f a)
 omega
theorem c3y(f:1≤l.length)(a:l.length≤4096)(e:l.all a0A=true)(h:b3w (a0X l)){k':Int}(j:0≤k)(v:k≤k')(m:k'≤3){s':Sub}(n:a2b (l,k)=some (s,0))(d:a2b (l,k')=some (s',0)):
  a2D s' (l.length:Int)≤a2D s (l.length:Int):=by
 obtain⟨t,i,-,-,p,-⟩:=b2m f a e h j (show k≤3 by omega);obtain⟨o,g,-,-,-,-,-,w⟩:=b2m f a e h (show 0≤k' by omega) m;rw[n]at i;rw[d]at g;obtain rfl:s=t:=by simp_all
 obtain rfl:s'=o:=by simp_all
 have b:=b5s f a e (a0X l) k;obtain⟨c,u,q,r,-⟩:=(b3x l (a2q (a0X l) k)).one b
 grind[c3x]
@[reducible] def Rd:Type:=(List Int)×(Int×(Int×Unit))
def a1n(L:List Int):Prop:=∀b∈L,b=0∨b=1
def a9J(bs:List Int)(i:Nat):Bool:=(bs.getD (i / 8) 0).toNat.testBit (7-i%8)
theorem or8{x y:Nat}(h:x<256)(g:y<256):bits .u8 .or (x:Int) (y:Int)=((x ||| y:Nat):Int):=by
 show wrap .u8 (((a04 8 (x:Int)) ||| (a04 8 (y:Int))).toNat:Int)=_;rw[a23,a23,a69,a28,a28,a22 h,a22 g,a8g]
 have:x ||| y<2^8:=a86 h g
 omega
theorem d0E{b:Int}(hb:b=0∨b=1){r:Nat}(g:r<8):A0n .u8 b (7-(r:Int))=((b.toNat*2^(7-r):Nat):Int):=by
 have h:∀r:Fin 8,A0n .u8 0 (7-(r.1:Int))=((0*2^(7-r.1):Nat):Int)∧A0n .u8 1 (7-(r.1:Int))=((1*2^(7-r.1):Nat):Int):=by decide +kernel
 rcases hb with rfl|rfl;exact(h ⟨r,g⟩).1;exact(h ⟨r,g⟩).2
theorem c4D{x:Nat}(h:x<256){r:Nat}(g:r<8):bits .u8 .and (A0o .u8 (x:Int) (7-(r:Int))) 1=if x.testBit (7-r)then 1 else 0:=by
 have e:A0o .u8 (x:Int) (7-(r:Int))=((x / 2^(7-r):Nat):Int):=by
  show a77 (x:Int) (2^(min (7-(r:Int)).toNat 8))=_
  grind
 rw[e];have f:x / 2^(7-r)<256:=a37 (a31 _ _) h;show wrap .u8 (((a04 8 ((x / 2^(7-r):Nat):Int)) &&& (a04 8 1)).toNat:Int)=_
 grind[a04,a8g]
theorem c3z(L:List Int)(b:Int)(i:Nat):(L++[b]).getD i 0=if i=L.length then b else L.getD i 0:=by
 grind
theorem b9n(h:List Int)(k:Nat)(y:Int)(g:k<h.length)(j:Nat):(h.set k y).getD j 0=if j=k then y else h.getD j 0:=by
 grind
theorem b6P:∀(n:Nat)(L:List Int),L.length=n→a1n L→(∀j,0≤(wL L).1.getD j 0∧(wL L).1.getD j 0<256)∧∀i,a9J (wL L).1 i=decide (L.getD i 0=1)
 |0,L,h,_=>by
  simp_all[wL,a9J]
 |n+1,L,h,hL=>by
  obtain⟨g,b,rfl⟩:∃g b,L=g++[b]:=by
   rcases a50 L with rfl|⟨g,b,e⟩
   all_goals simp_all
  have hb:b=0∨b=1:=hL b (by simp);obtain⟨v,w⟩:=b6P n g (by simp_all) fun c D=>hL c (by grind);obtain⟨o,p⟩:=a4L g;rw[b6o];generalize wL g=wr at o p v w⊢;obtain⟨d,m,u⟩:=wr;have o:m=(g.length:Int):=o;have p:d.length=(g.length+7) / 8:=p;subst o;have e8:((g.length:Int) / 8).toNat=g.length / 8:=by rfl
  have r:(g.length:Int)%8=((g.length%8:Nat):Int):=by rfl
  obtain⟨f,a,y,z⟩:∃f:List Int,(if(g.length:Int)%8=0 then d++[0]else d)=f∧g.length / 8<f.length∧∀j,f.getD j 0=d.getD j 0:=by
   grind
  rw[r]at a;have C:g.length%8<8:=a40 _ (by simp);obtain⟨x,s⟩:∃x:Nat,d.getD (g.length / 8) 0=(x:Int):=a01 (v _).1;have k:x<256:=by
   grind
  have t:b.toNat*2^(7-g.length%8)<256:=by
   have hp:2^(7-g.length%8)≤2^7:=a08 (by simp) (by omega)
   grind
  have B:x ||| b.toNat*2^(7-g.length%8)<2^8:=a86 k t;have l:(b6n (d,(g.length:Int),u) b).1=f.set (g.length / 8) ((x ||| b.toNat*2^(7-g.length%8):Nat):Int):=by
   unfold b6n;simp only[a,e8,r];rw[z,s,d0E hb C,or8 k t]
  rw[l];refine⟨fun j=>?_,fun i=>?_⟩
  grind[b9n]
  ·unfold a9J;rw[b9n _ _ _ y,c3z];have q:=w i;unfold a9J at q
   by_cases hk:i / 8=g.length / 8
   ·rw[if_pos hk,tN,Nat.testBit_or];rw[hk,s,tN]at q;rw[q];have A:(b.toNat*2^(7-g.length%8)).testBit (7-i%8)=(decide (b=1)&&decide (i=g.length)):=by
     rcases hb with rfl|rfl
     all_goals grind
    grind
   grind
theorem c5O(h:a1n L):(∀j,0≤(wL L).1.getD j 0∧(wL L).1.getD j 0<256)∧∀i,a9J (wL L).1 i=decide (L.getD i 0=1):=b6P _ L rfl h
def rdr(P R:List Int):Rd:=((wL (P++R)).1,(P.length:Int),(0:Int),())
theorem b6u(k:a1n L)(o:L.length<1000000000)(l:i<L.length)(t:Int×(Int×Unit)):
  a1u (((wL L).1,t),(i:Int))=some (L.getD i 0,(wL L).1,t):=by
 obtain⟨d,e⟩:=c5O k;obtain⟨-,n⟩:=a4L L;have m:a25 (i:Int) 8=((i%8:Nat):Int):=by rfl
 have j:a53 (i:Int) 8=((i / 8:Nat):Int):=by rfl
 have b:wrap .i64 ((i / 8:Nat):Int)=((i / 8:Nat):Int):=a0D (by omega);have c:wrap .i64 (7-((i%8:Nat):Int))=7-((i%8:Nat):Int):=a0D (by omega);have g:decide (7-((i%8:Nat):Int)<0)=false:=by grind
 have hb:i / 8<(wL L).1.length:=by omega
 have f:(wL L).1[i / 8]=(wL L).1.getD (i / 8) 0:=by grind
 unfold a1u;simp only[m,j,b,c,g,a0B hb,oB,cF];obtain⟨x,a⟩:∃x:Nat,(wL L).1.getD (i / 8) 0=(x:Int):=a01 (d _).1;have h:x<256:=by grind
 rw[f,a,c4D h (a40 _ (by simp))]
 have:=e i
 unfold a9J at this;rw[a,tN]at this;rw[this];have hv:L.getD i 0=0∨L.getD i 0=1:=by
  have:L.getD i 0=L[i]:=by simp_all
  rw[this];exact k _ (a05 l)
 grind
theorem c3A(hv:v<18446744073709551616)(h:i≤64):a5D (v:Int) i=((v / 2^i%2:Nat):Int):=by
 unfold a5D;rw[a5s h];have g:v / 2^i<18446744073709551616:=a37 (a31 _ _) hv;show wrap .u8 (wrap .u64 (((a04 64 ((v / 2^i:Nat):Int)) &&& (a04 64 1)).toNat:Int))=_
 grind[a04,a0S,a8g]
theorem a1n.app{A B:List Int}(h:a1n A)(g:a1n B):a1n (A++B):=fun b hb=>(mA.1 hb).elim (h b) (g b)
theorem orU(k:a<18446744073709551616)(hb:b<2)(f:a%2=0):bits .u64 .or (a:Int) (b:Int)=((a+b:Nat):Int):=by
 show wrap .u64 (((a04 64 (a:Int) ||| a04 64 (b:Int)).toNat:Nat):Int)=_;have g:(a04 64 (a:Int)).toNat=a:=by simp_all
 have h:(a04 64 (b:Int)).toNat=b:=by grind
 rw[a69,g,h];have e:a ||| b=a+b:=by
  have:=a57 (i:=1) (b:=b) (by omega) (a / 2)
  grind
 grind[a0S]
theorem b9o{v:Nat}(hv:v<9223372036854775808){n:Nat}(q:n≤62):∀(m:Nat)(P R:List Int),m≤n→a1n (P++(pb (v:Int) m++R))→(P++(pb (v:Int) m++R)).length<1000000000→
  y0s a3v (((v / 2^m:Nat):Int),(n:Int),((n-m:Nat):Int),rdr P (pb (v:Int) m++R),())=some ((v:Int),rdr (P++pb (v:Int) m) R,())
 |0,P,R,_,_,_=>by
  grind[a0H,a3v,pb]
 |m+1,P,R,hm,hok,hlen=>by
  have l:decide (((n-(m+1):Nat):Int)<(n:Int))=true:=by grind
  have a:a1u (rdr P (pb (v:Int) (m+1)++R),(P.length:Int))=some (a5D v m,rdr P (pb (v:Int) (m+1)++R)):=by
   have:=b6u hok hlen (i:=P.length) (by simp[pb]) ((P.length:Int),(0:Int),())
   rw[show(P++(pb (v:Int) (m+1)++R)).getD P.length 0=a5D v m from by simp_all[pb]]at this;exact this
  have g:=c3A (v:=v) (by omega) (i:=m) (by omega);have b:v / 2^m%2<2:=a40 _ (by simp);have f:v / 2^(m+1)=v / 2^m / 2:=by grind[Nat.div_div_eq_div_mul]
  have p:v / 2^m≤v:=a31 _ _;have d:A0n .u64 ((v / 2^(m+1):Nat):Int) 1=((v / 2^(m+1)*2^1:Nat):Int):=a9l (o:=1) (by omega) (by omega);have h:bits .u64 .or ((v / 2^(m+1)*2^1:Nat):Int) (wrap .u64 (a5D (v:Int) m))=((v / 2^m:Nat):Int):=by
   rw[g,a0S (by omega),orU (by omega) b (by omega),f];omega
  have e:wrap .i64 (((n-(m+1):Nat):Int)+1)=((n-m:Nat):Int):=by grind[a0D]
  have j:wrap .i64 ((P.length:Int)+1)=(((P++[a5D v m]).length:Nat):Int):=by
   grind[a0D]
  have k:P++(pb (v:Int) (m+1)++R)=(P++[a5D v m])++(pb (v:Int) m++R):=by simp[pb]
  have c:((rdr P (pb (v:Int) (m+1)++R)).1,(((P++[a5D v m]).length:Nat):Int),(rdr P (pb (v:Int) (m+1)++R)).2.2)=rdr (P++[a5D v m]) (pb (v:Int) m++R):=by
   unfold rdr;simp_all
  rw[a0I (s':=(((v / 2^m:Nat):Int),(n:Int),((n-m:Nat):Int),rdr (P++[a5D v m]) (pb (v:Int) m++R),())) (by
   simp only[a3v,l,cT];rw[show(rdr P (pb (v:Int) (m+1)++R)).2.1=(P.length:Int)from rfl,a];simp only[oB,d,h,e];rw[show(rdr P (pb (v:Int) (m+1)++R)).2.1=(P.length:Int)from rfl,j,c])]
  rw[b9o hv q m _ _ (by omega) (by simp_all) (by simp_all)];simp[pb]
theorem c3B{n:Nat}(a:n≤62)(hv:v<2^n)(g:a1n (P++(pb (v:Int) n++R)))(k:(P++(pb (v:Int) n++R)).length<200000000):
  a0F (rdr P (pb (v:Int) n++R),(n:Int))=some ((v:Int),rdr (P++pb (v:Int) n) R):=by
 have h:v<9223372036854775808:=Nat.lt_of_lt_of_le hv (Nat.le_trans (a08 (by simp) a) (by simp));have f:=b9o h a n P R (by omega) g (by omega);rw[a65 hv,a55]at f;simp at f;obtain⟨-,e⟩:=a4L (P++(pb (v:Int) n++R));have j:=b0V (v:Int) n;have i:(P++(pb (v:Int) n++R)).length=P.length+n+R.length:=by grind
 have e8:wrap .i64 ((8:Int)*(((wL (P++(pb (v:Int) n++R))).1.length:Nat):Int))=(8:Int)*(((wL (P++(pb (v:Int) n++R))).1.length:Nat):Int):=a0D (by omega);have d:wrap .i64 ((8:Int)*(((wL (P++(pb (v:Int) n++R))).1.length:Nat):Int)-(P.length:Int))=(8:Int)*(((wL (P++(pb (v:Int) n++R))).1.length:Nat):Int)-(P.length:Int):=a0D (by omega);have b:decide ((n:Int)<0)=false:=by simp
 have c:decide ((n:Int) > 64)=false:=by grind
 have l:decide ((n:Int) > (8:Int)*(((wL (P++(pb (v:Int) n++R))).1.length:Nat):Int)-(P.length:Int))=false:=by
  grind
 unfold a0F a2h;rw[show(rdr P (pb (v:Int) n++R)).2.2.1=0 from rfl];simp only[bne_self_eq_false,cF,b,c,oB];rw[show(rdr P (pb (v:Int) n++R)).1=(wL (P++(pb (v:Int) n++R))).1 from rfl,show(rdr P (pb (v:Int) n++R)).2.1=(P.length:Int)from rfl,e8,d]
 grind
def b1p(n:Nat)(x:Int):Prop:=-((2^n:Nat):Int)≤2*x∧2*x<((2^n:Nat):Int)
theorem b6Q{n:Nat}(f:n≤62)(x:Int):∃v:Nat,a0R x n=(v:Int)∧v<2^n∧(v:Int)=x%((2^n:Nat):Int):=by
 have k:wrap .u64 x=x%18446744073709551616:=by rfl
 obtain⟨y,h⟩:∃y:Nat,x%18446744073709551616=(y:Int):=a01 (Int.emod_nonneg _ (by simp));have g:y<18446744073709551616:=by omega
 refine⟨y%2^n,?_,a40 _ (a16 n),?_⟩;simp_all[a0R,b8Q];rw[Int.natCast_emod,←h];refine Int.emod_emod_of_dvd x ?_
 have:(2:Nat)^n ∣ 2^64:=a54 2 (by omega)
 exact a19.2 this
theorem c3C{n:Nat}(q:n≤62)(t:b1p n x)(c:a1n (P++(pb (a0R x n) n++R)))(g:(P++(pb (a0R x n) n++R)).length<200000000):
  a0W (rdr P (pb (a0R x n) n++R),(n:Int))=some (x,rdr (P++pb (a0R x n) n) R):=by
 obtain⟨v,hv,b,f⟩:=b6Q q x;rw[hv]at c g⊢;have a:=c3B q b c g;obtain⟨i,j⟩:=t;have y:=a16 n;have o:(v:Int)=x∧0≤x∨(v:Int)=x+((2^n:Nat):Int)∧x<0:=by
  by_cases h0:0≤x
  exact .inl ⟨by rw[f];exact a87 h0 (by omega),h0⟩;refine .inr ⟨?_,by omega⟩;rw[f,←Int.add_emod_right];exact a87 (by omega) (by omega)
 unfold a0W;simp[a];rw[show(rdr (P++pb (v:Int) n) R).2.2.1=0 from rfl]
 simp
 cases n with
 |zero=>
  grind
 |succ k=>
  have l:(((k+1:Nat):Int)==0)=false:=by rfl
  have s:wrap .i64 ((64:Int)-((k+1:Nat):Int))=((64-(k+1):Nat):Int):=by grind[a0D]
  have r:decide (((64-(k+1):Nat):Int)<0)=false:=by simp
  simp only[l,cF,s,r];have p:64-(k+1)+(k+1)=64:=by omega
  generalize 64-(k+1)=m at p⊢;have u:2^m*2^(k+1)=18446744073709551616:=by rw[←Nat.pow_add,p]
  have d:((2^m:Nat):Int)*((2^(k+1):Nat):Int)=18446744073709551616:=by omega
  have hp:=a16 m;have w:A0n .u64 (v:Int) (m:Int)=(v:Int)*((2^m:Nat):Int):=by
   show wrap .u64 ((v:Int)*2^(min (m:Int).toNat 64))=_;rw[tN,a68 (by omega)];have e:(2:Int)^m=((2^m:Nat):Int):=by simp
   rw[e];refine a0S ⟨a46 (by omega) (by omega),?_⟩
   have:v*2^m<2^(k+1)*2^m:=Nat.mul_lt_mul_of_pos_right b hp
   grind
  have b1:-9223372036854775808≤x*((2^m:Nat):Int):=by
   have:=Int.mul_le_mul_of_nonneg_right i (show(0:Int)≤((2^m:Nat):Int)by omega)
   grind
  have b2:x*((2^m:Nat):Int)<9223372036854775808:=by
   have:=Int.mul_lt_mul_of_pos_right j (show(0:Int)<((2^m:Nat):Int)by omega)
   grind
  have A:wrap .i64 ((v:Int)*((2^m:Nat):Int))=x*((2^m:Nat):Int):=by
   rcases o with⟨h,-⟩|⟨h,-⟩
   grind[a0D]
   rw[h,Int.add_mul,Int.mul_comm ((2^(k+1):Nat):Int),d]
   grind[wrap,IntKind.bits,IntKind.signed]
  have z:A0o .i64 (x*((2^m:Nat):Int)) (m:Int)=x:=by
   show a77 (x*((2^m:Nat):Int)) (2^(min (m:Int).toNat 64))=x;rw[tN,a68 (by omega)]
   grind[Int.mul_ediv_cancel]
  simp_all
theorem c2H(P:List Int)(n:Nat)(R:List Int){c:Nat}(h:c<n):(P++(a00 n 0++1::R)).getD (P.length+c) 0=0:=by
 grind
theorem c4E(P:List Int)(n:Nat)(R:List Int):(P++(a00 n 0++1::R)).getD (P.length+n) 0=1:=by
 simp
theorem c3D{n lm:Nat}(x:n≤lm)(t:lm<1000000)(o:a1n (P++(a00 n 0++1::R)))(p:(P++(a00 n 0++1::R)).length<200000000):
  a2J (rdr P (a00 n 0++1::R),(lm:Int))=some ((n:Int),rdr (P++(a00 n 0++[1])) R):=by
 obtain⟨-,r⟩:=a4L (P++(a00 n 0++1::R));have s:(P++(a00 n 0++1::R)).length=P.length+n+1+R.length:=by grind
 have e8:wrap .i64 ((8:Int)*(((wL (P++(a00 n 0++1::R))).1.length:Nat):Int))=(8:Int)*(((wL (P++(a00 n 0++1::R))).1.length:Nat):Int):=a0D (by omega);have g:∀c,c≤n→a1u (rdr P (a00 n 0++1::R),((P.length:Int)+(c:Int)))=some (if c=n then 1 else 0,rdr P (a00 n 0++1::R)):=fun c l=>by
  have:=b6u o (by omega) (i:=P.length+c) (by omega) ((P.length:Int),(0:Int),())
  rw[b00]at this;refine this.trans ?_
  by_cases e:c=n
  subst e;rw[c4E,if_pos rfl];rfl;rw[c2H P n R (by omega),if_neg e];rfl
 have h:∀c:Nat,c≤n→(((P.length:Int)+(c:Int))==(8:Int)*(((wL (P++(a00 n 0++1::R))).1.length:Nat):Int))=false:=fun c l=>by
  grind
 have j:wrap .i64 ((P.length:Int)+(n:Int)+1)=(((P++(a00 n 0++[1])).length:Nat):Int):=by
  rw[a0D (by omega)];grind
 have a:P++(a00 n 0++1::R)=(P++(a00 n 0++[1]))++R:=by simp
 have v:((rdr P (a00 n 0++1::R)).1,(((P++(a00 n 0++[1])).length:Nat):Int),(rdr P (a00 n 0++1::R)).2.2)=rdr (P++(a00 n 0++[1])) R:=by
  unfold rdr;simp
 have k:(rdr P (a00 n 0++1::R)).1=(wL (P++(a00 n 0++1::R))).1:=rfl;have m:=a2o (f:=a2T) (fun c:Nat=>((lm:Int),(c:Int),(P.length:Int)+(c:Int),rdr P (a00 n 0++1::R),())) n (b:=((n:Int),rdr (P++(a00 n 0++[1])) R,()))
  (fun c l=>by
   have d:((0:Int)==1)=false:=rfl;have q:(((c:Nat):Int)==(lm:Int))=false:=by grind
   have w:wrap .i64 ((c:Int)+1)=((c+1:Nat):Int):=a0C (by omega);have w2:wrap .i64 ((P.length:Int)+(c:Int)+1)=(P.length:Int)+((c+1:Nat):Int):=by rw[a0D (by omega)];rfl
   simp only[a2T,k,e8,h c (by omega),cF,g c (by omega),oB,if_neg (Nat.ne_of_lt l),d,q,w,w2])
  (by
   have d:((1:Int)==1)=true:=rfl;simp only[a2T,k,e8,h n (a26 _),cF,g n (a26 _),oB,if_pos rfl,d,cT,j]
   grind)
 unfold a2J;rw[show(rdr P (a00 n 0++1::R)).2.2.1=0 from rfl,show(rdr P (a00 n 0++1::R)).2.1=(P.length:Int)from rfl];have u:v0r (lm:Int) 0=(lm:Int):=by
  rfl
 grind
def OkR(P R:List Int):Prop:=a1n (P++R)∧(P++R).length<200000000
theorem OkR.shift{A:List Int}(h:OkR P (A++R)):OkR (P++A) R:=by
 unfold OkR at h⊢;simp_all
theorem a3c{n:Nat}(g:n≤62)(hv:v<2^n)(h:OkR P (pb (v:Int) n++R)):a0F (rdr P (pb (v:Int) n++R),(n:Int))=some ((v:Int),rdr (P++pb (v:Int) n) R):=c3B g hv h.1 h.2
theorem a7O{n:Nat}(f:n≤62)(g:b1p n x)(h:OkR P (pb (a0R x n) n++R)):a0W (rdr P (pb (a0R x n) n++R),(n:Int))=some (x,rdr (P++pb (a0R x n) n) R):=c3C f g h.1 h.2
def unB(n:Nat):List Int:=a00 n 0++[1]
theorem b9p{n lm:Nat}(f:n≤lm)(g:lm<1000000)(h:OkR P (unB n++R)):a2J (rdr P (unB n++R),(lm:Int))=some ((n:Int),rdr (P++unB n) R):=by
 have e:unB n++R=a00 n 0++1::R:=by simp[unB]
 rw[e]at h⊢;exact c3D f g h.1 h.2
theorem a3X{v n:Nat}(h:n≤63)(hv:v<2^n)(L:List Int):a0L (v:Int) n L=L++pb (v:Int) n:=by
 grind[a0L,a5s,a65]
def a7H(k:Nat)(x:Int):List Int:=
 if a0N x / 2^k<32 then unB (a0N x / 2^k)++pb ((a0N x%2^k:Nat):Int) k else unB 32++pb ((a0N x:Nat):Int) 32
theorem c3E{k:Nat}(f:k≤25)(g:a0A x=true)(L:List Int):a5E k x L=L++a7H k x:=by
 have h:=a7J g;unfold a5E a7H;split;rw[a3X (by omega) (a40 _ (a16 k))];simp[unL,unB]
 grind[a3X,unL,unB]
theorem c3F(f:a0A x=true):a5U ((a0N x:Nat):Int)=some x:=by
 have b:=a7J f;have d:=a1x.1 f;have c:a25 ((a0N x:Nat):Int) 2=((a0N x:Nat):Int)%2:=a42 (by omega);have a:a53 ((a0N x:Nat):Int) 2=((a0N x:Nat):Int) / 2:=a59 (by omega);have k:decide (((a0N x:Nat):Int)≥2147483648)=false:=by grind
 unfold a5U;simp only[k,cF,c,a]
 by_cases h0:0≤x
 have e:((a0N x:Nat):Int)=2*x:=by unfold a0N;grind
 rw[e];have h:((2*x)%2==(0:Int))=true:=by simp
 have g:2*x / 2=x:=by omega
 simp only[h,cT,g]
 grind[a0S,a0D]
 have e:((a0N x:Nat):Int)=-2*x-1:=by unfold a0N;grind
 rw[e];have h:((-2*x-1)%2==(0:Int))=false:=by grind
 have g:(-2*x-1) / 2=-x-1:=by omega
 simp only[h,cF,g]
 grind[a0S,a0D]
theorem c1d{k:Nat}(r:k≤25)(c:a0A x=true)(h:OkR P (a7H k x++R)):a9x (rdr P (a7H k x++R),(k:Int))=some (x,(0:Int),rdr (P++a7H k x) R):=by
 have m:=a7J c;have b:=c3F c;unfold a9x a0K;unfold a7H at h⊢;have s:∀A B:List Int,(rdr A B).2.2.1=0:=fun _ _=>rfl;split;rename_i g;rw[if_pos g,aA]at h;have j:=b9p (n:=a0N x / 2^k) (lm:=32) (by omega) (by omega) h;have l:=a3c (n:=k) (v:=a0N x%2^k) (by omega) (a40 _ (a16 k)) h.shift;have i:wrap .u64 ((a0N x / 2^k:Nat):Int)=((a0N x / 2^k:Nat):Int):=a3b (by omega);have d:decide (((a0N x / 2^k:Nat):Int)<32)=true:=by grind
 have e:decide ((k:Int)<0)=false:=by simp
 have f:a0N x / 2^k*2^k≤a0N x:=a75 _ _;have o:A0n .u64 ((a0N x / 2^k:Nat):Int) (k:Int)=((a0N x / 2^k*2^k:Nat):Int):=a9l (by omega) (by omega);have a:wrap .u64 (((a0N x / 2^k*2^k:Nat):Int)+((a0N x%2^k:Nat):Int))=((a0N x:Nat):Int):=by
  rw[←b00,Nat.div_add_mod',a0S (by omega)]
 grind
 rename_i g;rw[if_neg g,aA]at h;have j:=b9p (n:=32) (lm:=32) (by omega) (by omega) h;have l:=a3c (n:=32) (v:=a0N x) (by omega) (by omega) h.shift;have i:wrap .u64 (32:Int)=32:=a0S (by omega);have d:decide ((32:Int)<32)=false:=by simp
 have e:decide ((k:Int)<0)=false:=by simp
 have q:decide (((a0N x:Nat):Int)≥2147483648)=false:=by grind
 have p:A0o .u64 ((a0N x:Nat):Int) (k:Int)=((a0N x / 2^k:Nat):Int):=a5s (by omega)
 grind
def a3d(k:Nat)(l:List Int):List Int:=l.flatMap (a7H k)
theorem b5t{k:Nat}(g:k≤25):∀(l L:List Int),l.all a0A=true→a3V k l L=L++a3d k l
 | [],L,_=>by simp[a3V,a3d]
 |x::l,L,h=>by
  simp only[a07,bA]at h;show a3V k l (a5E k x L)=_;rw[b5t g l _ h.2,c3E g h.1];simp[a3d]
theorem b2I{k:Nat}(g:k≤25){N:Nat}(f:N<1000000):∀(l done P R:List Int),l.all a0A=true→done.length+l.length=N→OkR P (a3d k l++R)→
  y0s a7C ((k:Int),(N:Int),(done.length:Int),done,rdr P (a3d k l++R),())=some (Sum.inl (done++l,rdr (P++a3d k l) R,()))
 | [],done,P,R,_,hl,_=>by
  have:done.length=N:=by omega
  subst this;have d:decide ((done.length:Int)<(done.length:Int))=false:=by simp
  simp_all[a0H,a7C,a3d]
 |x::l,done,P,R,h,hl,hok=>by
  simp only[a07,bA]at h;rw[lC]at hl;have e:a3d k (x::l)++R=a7H k x++(a3d k l++R):=by simp[a3d]
  rw[e]at hok⊢;have d:decide ((done.length:Int)<(N:Int))=true:=by grind
  have b:=c1d g h.1 hok;have a:lim (a36 done+1)=true:=a1c (by omega);have c:wrap .i64 ((done.length:Int)+1)=(((done++[x]).length:Nat):Int):=by grind[a0D]
  rw[a0I (s':=((k:Int),(N:Int),(((done++[x]).length:Nat):Int),done++[x],rdr (P++a7H k x) (a3d k l++R),())) (by
   simp_all[a7C])]
  rw[b2I g f l (done++[x]) (P++a7H k x) R h.2 (by grind) hok.shift];simp[a3d]
theorem c1e{k:Nat}(a:k≤25)(h:l.all a0A=true)(b:l.length<1000000)(f:OkR P (a3d k l++R)):
  a9y (rdr P (a3d k l++R),(k:Int),((l.length:Nat):Int))=some (l,(0:Int),rdr (P++a3d k l) R):=by
 have hp:a1D (k:Int)=some true:=by
  grind[a1D]
 have c:decide (((l.length:Nat):Int)<0)=false:=by simp
 have d:decide (((l.length:Nat):Int) > 4194304)=false:=by grind
 have e:∀A B:List Int,(rdr A B).2.2.1=0:=fun _ _=>rfl;have g:=b2I a b l [] P R h (by simp) f;simp at g;unfold a9y a0K
 grind
theorem c4F(h:inW x v=true):b1p v x:=by
 have hp:=a16 v;rcases b3y.1 h with rfl|⟨g,-,f,k⟩;exact⟨by omega,by omega⟩;have e:2^v=2^(v-1)*2:=by rw[←a83];simp_all
 unfold b1p;omega
theorem b2n(h:l.all a0A=true):∀x∈l,b1p (a0G l) x:=fun x g=>c4F (b9m h x g)
def sB(n:Nat)(l:List Int):List Int:=l.flatMap fun x=>pb (a0R x n) n
theorem a7P{n:Nat}(g:n≤62):∀(l L:List Int),a1w n l L=L++sB n l
 | [],L=>by simp[a1w,sB]
 |x::l,L=>by
  show a1w n l (a0L (a0R x n) n L)=_;obtain⟨v,hv,h,-⟩:=b6Q g x;rw[a7P g l,hv,a3X (by omega) h,←hv];simp[sB]
theorem b6v(n:Nat)(x:Int)(l R:List Int):sB n (x::l)++R=pb (a0R x n) n++(sB n l++R):=by simp[sB]
theorem b1H{k:Int}{n:Nat}(g:n≤62){N:Nat}(f:N<1000000):∀(l done P R:List Int),(∀x∈l,b1p n x)→done.length+l.length=N→OkR P (sB n l++R)→
  y0s a7a (k,(n:Int),(N:Int),(done.length:Int),done,rdr P (sB n l++R),())=some (k,(n:Int),done++l,rdr (P++sB n l) R,())
 | [],done,P,R,_,hl,_=>by
  have:done.length=N:=by omega
  subst this;have d:decide ((done.length:Int)<(done.length:Int))=false:=by simp
  simp_all[a0H,a7a,sB]
 |x::l,done,P,R,h,hl,hok=>by
  rw[lC]at hl;rw[b6v]at hok⊢;have d:decide ((done.length:Int)<(N:Int))=true:=by grind
  have b:=a7O g (h x (by simp)) hok;have a:lim (a36 done+1)=true:=a1c (by omega);have c:wrap .i64 ((done.length:Int)+1)=(((done++[x]).length:Nat):Int):=by grind[a0D]
  rw[a0I (s':=(k,(n:Int),(N:Int),(((done++[x]).length:Nat):Int),done++[x],rdr (P++pb (a0R x n) n) (sB n l++R),())) (by
   simp_all[a7a])]
  rw[b1H g f l (done++[x]) _ R (fun y e=>h y (by grind)) (by grind) hok.shift];simp[sB]
def a8n(k:Int)(part:List Int):List Int:=if k=31 then pb 31 5++(pb ((a0G part:Nat):Int) 5++sB (a0G part) part)else pb k 5++a3d k.toNat part
theorem c3G(h:kB k=true)(g:part.all a0A=true)(L:List Int):a7F k part L=L++a8n k part:=by
 have f:=a1G g;simp[kB]at h;obtain⟨K,rfl⟩:=a01 (show 0≤k by omega)
 grind[a7F,a8n,a3b,a3X,a7P,b5t]
theorem b9q(o:kB k=true)(c:part.all a0A=true)(b:part.length<1000000)(h:OkR P (a8n k part++R)):
  a8V (rdr P (a8n k part++R),((part.length:Nat):Int))=some (k,part,(0:Int),rdr (P++a8n k part) R):=by
 have p:=a1G c;have e:∀A B:List Int,(rdr A B).2.2.1=0:=fun _ _=>rfl;simp[kB]at o;obtain⟨K,rfl⟩:=a01 (show 0≤k by omega);unfold a8V a0K;unfold a8n at h⊢;split;rename_i f;rw[if_pos f,aA,aA]at h;rw[aA,aA];obtain rfl:K=31:=by omega
 have d:a0F (rdr P (pb 31 5++(pb ((a0G part:Nat):Int) 5++(sB (a0G part) part++R))),(5:Int))=_:=a3c (v:=31) (n:=5) (by omega) (by omega) h;have g:=h.shift;have l:a0F (rdr (P++pb 31 5) (pb ((a0G part:Nat):Int) 5++(sB (a0G part) part++R)),(5:Int))=_:=a3c (v:=a0G part) (n:=5) (by omega) (by omega) g;have a:=b1H (k:=31) (n:=a0G part) (by omega) b part [] _ R (b2n c) (by simp) g.shift;simp only[a21,nZ,a09,a29]at a;have i:wrap .i64 ((31:Nat):Int)=31:=by rfl
 have w2:wrap .i64 ((a0G part:Nat):Int)=((a0G part:Nat):Int):=a0D (by omega);have j:decide ((31:Int)≤25)=false:=by rfl
 have q:((31:Int) != 31)=false:=by rfl
 rw[d];simp only[oB,e,bne_self_eq_false,cF,i,j]
 erw[l]
 simp only[oB,w2]
 erw[a]
 simp only[oB,e,bne_self_eq_false,cF,a1S (show short part from b)]
 simp
 rename_i f;rw[if_neg f,aA]at h;rw[aA];have m:K≤25:=by omega
 have d:a0F (rdr P (pb (K:Int) 5++(a3d ((K:Int).toNat) part++R)),(5:Int))=_:=a3c (v:=K) (n:=5) (by omega) (by omega) h;have r:=c1e m c b h.shift;have i:wrap .i64 (K:Int)=(K:Int):=a0D (by omega);simp_all
def a1C:List Nat→List Int→List Int→List Int
 |z::zs,k::ks,l=>a8n k (l.take z)++a1C zs ks (l.drop z)
 |_,_,_=>[]
theorem b6R(h:l.all a0A=true)(z:Nat):(l.take z).all a0A=true:=lA.2 fun x g=>lA.1 h x (a33 g)
theorem b6S(h:l.all a0A=true)(z:Nat):(l.drop z).all a0A=true:=lA.2 fun x g=>lA.1 h x (a34 g)
theorem b5u:∀(zs:List Nat)(ks l L:List Int),ks.all kB=true→l.all a0A=true→a3W zs ks l L=L++a1C zs ks l
 |z::zs,k::ks,l,L,hk,hw=>by
  simp only[a07,bA]at hk;simp only[a3W,a1C];rw[b5u zs ks _ _ hk.2 (b6S hw z),c3G hk.1 (b6R hw z)]
  simp
 | [],_,_,L,_,_=>by simp[a3W,a1C]
 |_::_,[],_,L,_,_=>by simp[a3W,a1C]
theorem c3H(h:List Nat)(z:Nat)(g:List Nat):(a1f (h++z::g)).getD h.length 0=(z:Int):=by
 simp_all[a1f]
theorem b1I{o:Int}{z0:Prt}:∀(zs:List Nat)(ks l dk acc P R:List Int)(dz:List Nat),ks.length=zs.length→ks.all kB=true→zs.sum=l.length→l.all a0A=true→
  dk.length=dz.length→(dz++zs).length≤256→acc.length+l.length≤10000→OkR P (a1C zs ks l++R)→
  y0s a7b (((a1f (dz++zs)).length:Int),(dz.length:Int),acc,a1f (dz++zs),rdr P (a1C zs ks l++R),z0,(o,dk,()),()) =
   some (Sum.inl (acc++l,z0,(o,dk++ks,()),rdr (P++a1C zs ks l) R,()))
 | [],ks,l,dk,acc,P,R,dz,hk,_,hs,_,_,_,_,_=>by
  obtain rfl:ks=[]:=a44.1 hk;obtain rfl:l=[]:=a44.1 (by simp_all);have d:decide ((dz.length:Int)<((a1f (dz++[])).length:Int))=false:=by simp[a1m]
  rw[a0H (b:=Sum.inl (acc,z0,(o,dk,()),rdr P R,())) (by simp only[a7b,d,cF];rfl)];simp[a1C]
 |z::zs,[],_,_,_,_,_,_,hk,_,_,_,_,_,_,_=>by simp_all
 |z::zs,k::ks,l,dk,acc,P,R,dz,hk,hkb,hs,hw,hd,h256,hacc,hok=>by
  simp only[a07,bA]at hkb;rw[a60]at hs;have p:z≤l.length:=by omega
  have a:(l.take z).length=z:=by simp_all
  have e:a1C (z::zs) (k::ks) l++R=a8n k (l.take z)++(a1C zs ks (l.drop z)++R):=by simp[a1C]
  rw[e]at hok⊢;have j:(a1f (dz++z::zs)).length=dz.length+1+zs.length:=by grind[a1m]
  have d:decide ((dz.length:Int)<((a1f (dz++z::zs)).length:Int))=true:=by grind
  have m:decide ((0:Int)≤(dz.length:Int))=true:=by simp
  have h:=b9q hkb.1 (b6R hw z) (by omega) hok;rw[a]at h;have i:((0:Int) != 0)=false:=rfl;rw[lN,lC]at h256;have g:lim (a36 dk+1)=true:=a1c (by omega);have f:lim (a36 acc+a36 (l.take z))=true:=a1c (by omega);have c:wrap .i64 ((dz.length:Int)+1)=(((dz++[z]).length:Nat):Int):=by grind[a0D]
  have n:dz++z::zs=(dz++[z])++zs:=by simp
  rw[a0I (s':=(((a1f ((dz++[z])++zs)).length:Int),(((dz++[z]).length:Nat):Int),acc++l.take z,a1f ((dz++[z])++zs),rdr (P++a8n k (l.take z)) (a1C zs ks (l.drop z)++R),z0,(o,dk++[k],()),())) (by
   simp only[a7b,d,m,a03,cT,tN,c3H,h,oB,i,cF,g,f,c,a06]
   simp)]
  rw[b1I zs ks (l.drop z) (dk++[k]) (acc++l.take z) _ R (dz++[z]) (by grind) hkb.2 (by grind) (b6S hw z) (by grind) (by grind) (by grind) hok.shift];simp[a1C]
def a5t(p:Prt)(zn:List Nat)(l:List Int):List Int:=pb p.1 4++a1C zn p.2.1 l
theorem b7S(h:PartsOk p n warm l zn)(L:List Int):a3z p zn l L=L++a5t p zn l:=by
 obtain⟨o,ks,u⟩:=p;have g:=h.order;simp only at g;obtain⟨O,rfl⟩:=a01 g.1;unfold a3z a5t;simp only;rw[a3b (by omega),a3X (n:=4) (by omega) (by omega),b5u _ _ _ _ h.all h.wide]
 simp
theorem b9r(h:PartsOk p n warm l zn)(g:OkR P (a5t p zn l++R)):
  a8W (rdr P (a5t p zn l++R),n,warm)=some (p,l,(0:Int),rdr (P++a5t p zn l) R):=by
 obtain⟨o,ks,u⟩:=p;have c:=h.order;have m:=h.short;have b:=h.len;simp only at c;obtain⟨O,rfl⟩:=a01 c.1;have i:∀A B:List Int,(rdr A B).2.2.1=0:=fun _ _=>rfl;have f:=h.may;unfold a4D at f;simp only[bA,a32,beq_eq_false_iff_ne]at f;have d:=h.sizes;simp only at d;have a:(((a1f zn).length:Int)==0)=false:=by
  grind
 unfold a5t at g⊢;simp only at g⊢;rw[aA]at g⊢;have e:a0F (rdr P (pb (O:Int) 4++(a1C zn ks l++R)),(4:Int))=_:=a3c (v:=O) (n:=4) (by omega) (by omega) g;have j:wrap .i64 (O:Int)=(O:Int):=a0D (by omega);have k:=b1I (o:=(O:Int)) (z0:=((0:Int),([]:List Int),())) zn ks l [] [] _ R [] h.ks h.all h.sum h.wide rfl (by simp_all) (by grind) g.shift;simp only[a21,nZ,a09,a29]at k;unfold a8W a0K;simp[a9V,h.row];rw[e];simp[i,j,a1I,d,a];simp_all
def a5X(s:Sub):List Int:=
 pb ((s.2.2.2.2.2.1.length-1:Nat):Int) 5++(pb s.2.2.2.1 4++(pb ((a0G s.2.2.2.2.2.1:Nat):Int) 5++sB (a0G s.2.2.2.2.2.1) s.2.2.2.2.2.1))
theorem b6T{t:Int}(h:a7I c t=true):1≤c.length∧c.length≤32∧0≤t∧t≤15∧c.all a0A=true:=by
 simp only[a7I,bA,dT]at h;obtain⟨g,f,k,a,b⟩:=h;refine⟨g,f,k,a,lA.2 fun x d=>?_⟩
 have:=lA.1 b x d
 simp[b4S]at this;rw[a1x];omega
theorem b5v{s:Sub}(h:a7I s.2.2.2.2.2.1 s.2.2.2.1=true)(L:List Int):a5p s L=L++a5X s:=by
 obtain⟨a,b,g,d,f⟩:=b6T h;have k:=a1G f;unfold a5p a5X;generalize s.2.2.2.2.2.1=c at *;generalize s.2.2.2.1=t at *;obtain⟨T,rfl⟩:=a01 g
 grind[a0D,a0S,a7P,a3X]
def b2o(s:Sub)(c:List Int):Sub:=(s.1,s.2.1,s.2.2.1,s.2.2.2.1,s.2.2.2.2.1,c,s.2.2.2.2.2.2)
def b6w(s:Sub)(t:Int):Sub:=(s.1,s.2.1,s.2.2.1,t,s.2.2.2.2)
theorem b5w{n:Nat}(g:n≤62){N:Nat}(f:N<1000000)(s:Sub):∀(l done P R:List Int),(∀x∈l,b1p n x)→done.length+l.length=N→OkR P (sB n l++R)→
  y0s a4T ((n:Int),(N:Int),(done.length:Int),rdr P (sB n l++R),b2o s done,())=some ((n:Int),b2o s (done++l),rdr (P++sB n l) R,())
 | [],done,P,R,_,hl,_=>by
  have:done.length=N:=by omega
  subst this;have d:decide ((done.length:Int)<(done.length:Int))=false:=by simp
  simp_all[a0H,a4T,sB]
 |x::l,done,P,R,h,hl,hok=>by
  rw[lC]at hl;rw[b6v]at hok⊢;have d:decide ((done.length:Int)<(N:Int))=true:=by grind
  have a:=a7O g (h x (by simp)) hok;have k:lim (a36 done+1)=true:=a1c (by omega);have b:wrap .i64 ((done.length:Int)+1)=(((done++[x]).length:Nat):Int):=by grind[a0D]
  rw[a0I (s':=((n:Int),(N:Int),(((done++[x]).length:Nat):Int),rdr (P++pb (a0R x n) n) (sB n l++R),b2o s (done++[x]),())) (by
   simp_all[a4T,b2o])]
  rw[b5w g f s l (done++[x]) _ R (fun y c=>h y (by grind)) (by grind) hok.shift];simp[sB]
theorem b3T{s0:Sub}(h:a7I s.2.2.2.2.2.1 s.2.2.2.1=true)(r:s0.2.2.2.2.2.1=[])(g:OkR P (a5X s++R)):
  a6Z (rdr P (a5X s++R),s0)=some (true,rdr (P++a5X s) R,b2o (b6w s0 s.2.2.2.1) s.2.2.2.2.2.1):=by
 obtain⟨u,w,l,x,d⟩:=b6T h;have m:=a1G d;unfold a5X at g⊢;generalize s.2.2.2.2.2.1=c at *;generalize s.2.2.2.1=t at *;obtain⟨T,rfl⟩:=a01 l;simp at g⊢;have e:a0F (rdr P (pb ((c.length-1:Nat):Int) 5++(pb (T:Int) 4++(pb ((a0G c:Nat):Int) 5++(sB (a0G c) c++R)))),(5:Int))=_:=a3c (v:=c.length-1) (n:=5) (by omega) (by omega) g;have f:=g.shift;have i:a0F (rdr (P++pb ((c.length-1:Nat):Int) 5) (pb (T:Int) 4++(pb ((a0G c:Nat):Int) 5++(sB (a0G c) c++R))),(4:Int))=_:=a3c (v:=T) (n:=4) (by omega) (by omega) f;have k:=f.shift;have j:a0F (rdr (P++pb ((c.length-1:Nat):Int) 5++pb (T:Int) 4) (pb ((a0G c:Nat):Int) 5++(sB (a0G c) c++R)),(5:Int))=_:=a3c (v:=a0G c) (n:=5) (by omega) (by omega) k;have a:=b5w (n:=a0G c) (by omega) (N:=c.length) (by omega) (b6w s0 (T:Int)) c [] _ R (b2n d) (by simp) k.shift;simp only[a21,nZ,a09,a29]at a;have o:wrap .i64 ((c.length-1:Nat):Int)=((c.length-1:Nat):Int):=a0D (by omega);have w2:wrap .i64 (((c.length-1:Nat):Int)+1)=(c.length:Int):=by grind[a0D]
 have p:wrap .i64 (T:Int)=(T:Int):=a0D (by omega);have q:wrap .i64 ((a0G c:Nat):Int)=((a0G c:Nat):Int):=a0D (by omega);have b:((s0.1,s0.2.1,s0.2.2.1,(T:Int),s0.2.2.2.2):Sub)=b2o (b6w s0 (T:Int)) []:=by
  grind[b2o,b6w]
 unfold a6Z;rw[e]
 simp
 rw[i];simp only[oB];rw[j];simp only[oB,o,w2,p,q]
 erw[b,a]
 simp only[oB];rw[show(b2o (b6w s0 (T:Int)) c).2.2.2.2.2.1=c from rfl,a1S (show short c by unfold short;omega)]
 simp
def a6F(st:List Stg):List Int:=st.flatMap fun g=>pb (g.1-1) 5++pb g.2.1 4
theorem b3U{g:Stg}(h:Ab.stageB g=true):1≤g.1∧g.1≤32∧0≤g.2.1∧g.2.1≤8:=by
 simp_all[Ab.stageB]
theorem b3V:∀(st:List Stg)(L:List Int),st.all Ab.stageB=true→a2M st L=L++a6F st
 | [],L,_=>by simp[a2M,a6F]
 |g::st,L,h=>by
  simp only[a07,bA]at h;obtain⟨k,c,f,d⟩:=b3U h.1;show a2M st (a5o g L)=_;rw[b3V st _ h.2];obtain⟨a,b,u⟩:=g;simp only at k c f d;obtain⟨B,rfl⟩:=a01 f;obtain⟨A,e⟩:=a01 (show 0≤a-1 by omega)
  grind[a5o,b0A,a3b,a3X,a6F]
def a4f(s:Sub):List Int:=
 if s.1=2 then pb s.2.2.1 3
 else if s.1=3 then a5X s
 else if s.1=4 then pb (s.2.2.2.2.1-1) 10++(sB 8 s.2.2.2.2.2.2.1++a5X s)
 else if s.1=5 then pb ((s.2.2.2.2.2.2.2.1.length:Nat):Int) 2++a6F s.2.2.2.2.2.2.2.1
 else[]
theorem b6U(h:a3o s.1 s n)(L:List Int):a2c s L=L++a4f s:=by
 unfold a2c a4f;rcases h with k|k|⟨k,g,f,-⟩|⟨k,g,-⟩|⟨k,g,-,a⟩|⟨k,g,f⟩
 grind
 grind
 rw[if_pos k,if_pos k]
 grind[a01,a3b,a3X]
 simp_all[b5v];rw[if_neg (by omega),if_neg (by omega),if_pos k,if_neg (by omega),if_neg (by omega),if_pos k,b5v g,a7P (by omega)];simp only[a8Y,bA,dT]at a;obtain⟨A,b⟩:=a01 (show 0≤s.2.2.2.2.1-1 by omega)
 grind[b0A,a3b,a3X]
 rw[if_neg (by omega),if_neg (by omega),if_neg (by omega),if_pos k,if_neg (by omega),if_neg (by omega),if_neg (by omega),if_pos k];simp only[a7v,bA,dT]at f
 grind[b3V,a3b,a3X]
def b1c(s:Sub):List Int:=pb s.1 3++(pb s.2.1 5++pb ((a0G s.2.2.2.2.2.2.2.2.1:Nat):Int) 5)
theorem c3I(g:0≤s.1∧s.1≤5)(f:0≤s.2.1∧s.2.1≤30)(h:s.2.2.2.2.2.2.2.2.1.all a0A=true)(L:List Int):a9a s L=L++b1c s:=by
 grind[a01,a1G,a9a,b1c,a3b,a3X]
def a3p(s:Sub):Sub:=(s.1,s.2.1,s.2.2.1,s.2.2.2.1,s.2.2.2.2.1,s.2.2.2.2.2.1,s.2.2.2.2.2.2.1,s.2.2.2.2.2.2.2.1,[],(0,[],()),[],())
theorem b3W{wd N:Nat}{ok:Bool}(m:N<1000)(k w:Int):∀(st done:List Stg)(P R:List Int),st.all Ab.stageB=true→done.length+st.length=N→OkR P (a6F st++R)→
  y0s a5C ((wd:Int),ok,(N:Int),(done.length:Int),rdr P (a6F st++R),(k,w,0,0,0,[],[0,0,0],done,[],(0,[],()),[],()),()) =
   some ((wd:Int),ok,(k,w,0,0,0,[],[0,0,0],done++st,[],(0,[],()),[],()),rdr (P++a6F st) R,())
 | [],done,P,R,_,hl,_=>by
  have:done.length=N:=by omega
  subst this;have d:decide ((done.length:Int)<(done.length:Int))=false:=by simp
  simp_all[a0H,a5C,a6F]
 |g::st,done,P,R,h,hl,hok=>by
  simp only[a07,bA]at h;rw[lC]at hl;obtain⟨i,j,c,l⟩:=b3U h.1;obtain⟨a,b,u⟩:=g;simp only at i j c l;obtain⟨B,rfl⟩:=a01 c;obtain⟨A,r⟩:=a01 (show 0≤a-1 by omega);obtain rfl:a=(A:Int)+1:=by omega
  have e:a6F (((A:Int)+1,(B:Int),u)::st)++R=pb (A:Int) 5++(pb (B:Int) 4++(a6F st++R)):=by simp[a6F]
  rw[e]at hok⊢;have d:decide ((done.length:Int)<(N:Int))=true:=by grind
  have p:a0F (rdr P (pb (A:Int) 5++(pb (B:Int) 4++(a6F st++R))),(5:Int))=_:=a3c (v:=A) (n:=5) (by omega) (by omega) hok;have f:=hok.shift;have q:a0F (rdr (P++pb (A:Int) 5) (pb (B:Int) 4++(a6F st++R)),(4:Int))=_:=a3c (v:=B) (n:=4) (by omega) (by omega) f;have o:lim (a36 done+1)=true:=a1c (by omega);have t:wrap .i64 (A:Int)=(A:Int):=a0D (by omega);have w2:wrap .i64 (B:Int)=(B:Int):=a0D (by omega);have x:wrap .i64 ((A:Int)+1)=(A:Int)+1:=a0D (by omega);have s:wrap .u64 ((done.length:Int)+1)=(((done++[((A:Int)+1,(B:Int),u)]).length:Nat):Int):=by grind[a0S]
  rw[a0I (s':=((wd:Int),ok,(N:Int),(((done++[((A:Int)+1,(B:Int),u)]).length:Nat):Int),rdr (P++pb (A:Int) 5++pb (B:Int) 4) (a6F st++R),(k,w,0,0,0,[],[0,0,0],done++[((A:Int)+1,(B:Int),u)],[],(0,[],()),[],()),())) (by
    simp_all[a5C])]
  rw[b3W m k w st (done++[((A:Int)+1,(B:Int),u)]) _ R h.2 (by grind) f.shift];simp[a6F]
theorem b6x(h:b1Q x=true):b1p 8 x:=by
 simp[b1Q]at h;unfold b1p;omega
theorem c3J{wd:Nat}{w g:Int}{a b c:Int}(m:b1Q a=true)(hb:b1Q b=true)(o:b1Q c=true)(f:OkR P (sB 8 [a,b,c]++R)):
  y0s a2L ((wd:Int),(0:Int),rdr P (sB 8 [a,b,c]++R),(k,w,0,0,g,[],[0,0,0],[],[],(0,[],()),[],()),()) =
   some ((wd:Int),rdr (P++sB 8 [a,b,c]) R,(k,w,0,0,g,[],[a,b,c],[],[],(0,[],()),[],()),()):=by
 have e:sB 8 [a,b,c]++R=pb (a0R a 8) 8++(pb (a0R b 8) 8++(pb (a0R c 8) 8++R)):=by rfl
 rw[e]at f⊢;have t:a0W (rdr P (pb (a0R a 8) 8++(pb (a0R b 8) 8++(pb (a0R c 8) 8++R))),(8:Int))=_:=a7O (n:=8) (by omega) (b6x m) f;have h:=f.shift;have u:a0W (rdr (P++pb (a0R a 8) 8) (pb (a0R b 8) 8++(pb (a0R c 8) 8++R)),(8:Int))=_:=a7O (n:=8) (by omega) (b6x hb) h;have d:=h.shift;have v:a0W (rdr (P++pb (a0R a 8) 8++pb (a0R b 8) 8) (pb (a0R c 8) 8++R),(8:Int))=_:=a7O (n:=8) (by omega) (b6x o) d;have x:wrap .i64 ((0:Int)+1)=1:=by rfl
 have y:wrap .i64 ((1:Int)+1)=2:=by rfl
 have w2:wrap .i64 ((2:Int)+1)=3:=by rfl
 have p:decide ((0:Int)<3)=true:=by rfl
 have i:decide ((0:Int)≤0)=true:=by rfl
 have q:decide ((1:Int)<3)=true:=by rfl
 have j:decide ((0:Int)≤1)=true:=by rfl
 have r:decide ((2:Int)<3)=true:=by rfl
 have l:decide ((0:Int)≤2)=true:=by rfl
 have s:decide ((3:Int)<3)=false:=by rfl
 rw[a0I (s':=((wd:Int),(1:Int),rdr (P++pb (a0R a 8) 8) (pb (a0R b 8) 8++(pb (a0R c 8) 8++R)),(k,w,0,0,g,[],[a,0,0],[],[],(0,[],()),[],()),())) (by
  simp_all[a2L])]
 rw[a0I (s':=((wd:Int),(2:Int),rdr (P++pb (a0R a 8) 8++pb (a0R b 8) 8) (pb (a0R c 8) 8++R),(k,w,0,0,g,[],[a,b,0],[],[],(0,[],()),[],()),())) (by
  simp_all[a2L])]
 rw[a0I (s':=((wd:Int),(3:Int),rdr (P++pb (a0R a 8) 8++pb (a0R b 8) 8++pb (a0R c 8) 8) R,(k,w,0,0,g,[],[a,b,c],[],[],(0,[],()),[],()),())) (by
  simp_all[a2L])]
 simp_all[a0H,a2L,sB]
theorem c2I{s:Sub}{n:Int}(hs:a1k s n)(ht:s.2.2.2.2.2.2.1.length=3){P R:List Int}(i:OkR P (b1c s++(a4f s++R))):
  a7B (rdr P (b1c s++(a4f s++R)))=some (a3p s,((a0G s.2.2.2.2.2.2.2.2.1:Nat):Int),true,rdr (P++(b1c s++a4f s)) R):=by
 obtain⟨-,-,hf,ha,I,L,-,-,M,-⟩:=hs;obtain⟨k,w,o,sh,g,c,t,st,a,b,d,u⟩:=s;have hk:=b2k hf;simp only at hk I L M ht;have h0:=a1G M;obtain⟨K,rfl⟩:=a01 hk.1;obtain⟨W,rfl⟩:=a01 I;unfold b1c at i⊢;simp at i⊢;have Y:a0F (rdr P (pb (K:Int) 3++(pb (W:Int) 5++(pb ((a0G a:Nat):Int) 5++(a4f ((K:Int),(W:Int),o,sh,g,c,t,st,a,b,d,u)++R)))),(3:Int))=_:=a3c (v:=K) (n:=3) (by omega) (by omega) i;have j:=i.shift;have Z:a0F (rdr (P++pb (K:Int) 3) (pb (W:Int) 5++(pb ((a0G a:Nat):Int) 5++(a4f ((K:Int),(W:Int),o,sh,g,c,t,st,a,b,d,u)++R))),(5:Int))=_:=a3c (v:=W) (n:=5) (by omega) (by omega) j;have l:=j.shift;have g3:a0F (rdr (P++pb (K:Int) 3++pb (W:Int) 5) (pb ((a0G a:Nat):Int) 5++(a4f ((K:Int),(W:Int),o,sh,g,c,t,st,a,b,d,u)++R)),(5:Int))=_:=a3c (v:=a0G a) (n:=5) (by omega) (by omega) l;have f:=l.shift;have wK:wrap .i64 (K:Int)=(K:Int):=a0D (by omega);have wW:wrap .i64 (W:Int)=(W:Int):=a0D (by omega);have wd:wrap .i64 ((a0G a:Nat):Int)=((a0G a:Nat):Int):=a0D (by omega);unfold a7B;rw[Y];simp only[oB];rw[Z];simp only[oB];rw[g3];simp only[oB,wK,wW,wd];generalize hX:P++pb (K:Int) 3++pb (W:Int) 5++pb ((a0G a:Nat):Int) 5=X at f⊢;have H:∀B:List Int,P++(pb (K:Int) 3++(pb (W:Int) 5++(pb ((a0G a:Nat):Int) 5++B)))=X++B:=fun B=>by grind
 rw[H];obtain⟨a1,D,q,r,E,C⟩:=ha;simp only at a1 D q r E C;clear Y Z g3 i j l hX H;rcases hf with h|h|⟨h,m,G,-⟩|⟨h,m,-⟩|⟨h,m,-,Q⟩|⟨h,m,G⟩
 
 simp only at h;obtain rfl:=a1 (by omega);obtain rfl:=D (by omega);obtain rfl:=q (by omega);obtain rfl:=r (by omega);obtain rfl:=E (by omega);obtain rfl:=C (by omega);rw[h];have hb:a4f ((0:Int),(W:Int),0,0,0,[],[0,0,0],[],a,b,d,u)=[]:=rfl;rw[hb,a09,a39];rfl;simp only at h;obtain rfl:=a1 (by omega);obtain rfl:=D (by omega);obtain rfl:=q (by omega);obtain rfl:=r (by omega);obtain rfl:=E (by omega);obtain rfl:=C (by omega);rw[h];have hb:a4f ((1:Int),(W:Int),0,0,0,[],[0,0,0],[],a,b,d,u)=[]:=rfl;rw[hb,a09,a39];rfl;simp only at h m G;obtain rfl:=D (by omega);obtain rfl:=q (by omega);obtain rfl:=r (by omega);obtain rfl:=E (by omega);obtain rfl:=C (by omega);rw[h]at f⊢;obtain⟨O,rfl⟩:=a01 m;have hb:a4f ((2:Int),(W:Int),(O:Int),0,0,[],[0,0,0],[],a,b,d,u)=pb (O:Int) 3:=rfl;rw[hb]at f⊢;have e:((2:Int)==2)=true:=rfl;have F:a0F (rdr X (pb (O:Int) 3++R),(3:Int))=_:=a3c (v:=O) (n:=3) (by omega) (by omega) f;have wO:wrap .i64 (O:Int)=(O:Int):=a0D (by omega);simp only[e,cT,F,oB,wO];rfl;simp only at h m;obtain rfl:=a1 (by omega);obtain rfl:=q (by omega);obtain rfl:=r (by omega);obtain rfl:=C (by omega);rw[h]at f⊢;have hb:a4f ((3:Int),(W:Int),0,sh,0,c,[0,0,0],[],a,b,d,u)=a5X ((3:Int),(W:Int),0,sh,0,c,[0,0,0],[],a,b,d,u):=rfl;rw[hb]at f⊢;have T:((3:Int)==2)=false:=rfl;have U:((3:Int)==4)=false:=rfl;have V:((3:Int)==3)=true:=rfl;have F:=b3T (s:=((3:Int),(W:Int),0,sh,0,c,[0,0,0],[],a,b,d,u)) (s0:=((3:Int),(W:Int),0,0,0,[],a00 3 0,[],[],(0,[],()),[],())) m rfl f;simp only[T,V,U,cT,cF,oB]
 erw[F]
 rfl
 ·simp only at h m Q;obtain rfl:=a1 (by omega);obtain rfl:=C (by omega);rw[h]at f⊢;simp only[a8Y,bA,dT]at Q;obtain⟨Q,h5,S⟩:=Q;obtain⟨A,hA⟩:=a01 (show 0≤g-1 by omega);obtain rfl:g=(A:Int)+1:=by omega
  obtain⟨x,y,z,rfl⟩:∃x y z,t=[x,y,z]:=by
   match t,ht with
   | [x,y,z],_=>simp
  simp at S;have hb:a4f ((4:Int),(W:Int),0,sh,(A:Int)+1,c,[x,y,z],[],a,b,d,u)=pb (A:Int) 10++(sB 8 [x,y,z]++a5X ((4:Int),(W:Int),0,sh,(A:Int)+1,c,[x,y,z],[],a,b,d,u)):=by
   show pb ((A:Int)+1-1) 10++_=_
   simp
  rw[hb]at f⊢;simp only[aA]at f⊢;have T:((4:Int)==2)=false:=rfl;have U:((4:Int)==4)=true:=rfl;have F:a0F (rdr X (pb (A:Int) 10++(sB 8 [x,y,z]++(a5X ((4:Int),(W:Int),0,sh,(A:Int)+1,c,[x,y,z],[],a,b,d,u)++R))),(10:Int))=_:=a3c (v:=A) (n:=10) (by omega) (by omega) f;have p:=f.shift;have wA:wrap .i64 (A:Int)=(A:Int):=a0D (by omega);have h4:wrap .i64 ((A:Int)+1)=(A:Int)+1:=a0D (by omega);have g5:=c3J (wd:=a0G a) (k:=4) (w:=(W:Int)) (g:=(A:Int)+1) S.1 S.2.1 S.2.2 p;have g6:=b3T (s:=((4:Int),(W:Int),0,sh,(A:Int)+1,c,[x,y,z],[],a,b,d,u)) (s0:=((4:Int),(W:Int),0,0,(A:Int)+1,[],[x,y,z],[],[],(0,[],()),[],())) m rfl p.shift;simp_all[a3p,b2o,b6w]
 simp only at h m G;obtain rfl:=a1 (by omega);obtain rfl:=D (by omega);obtain rfl:=q (by omega);obtain rfl:=r (by omega);obtain rfl:=E (by omega);rw[h]at f⊢;simp only[a7v,bA,dT]at G;have hb:a4f ((5:Int),(W:Int),0,0,0,[],[0,0,0],st,a,b,d,u)=pb ((st.length:Nat):Int) 2++a6F st:=rfl;rw[hb]at f⊢;simp only[aA]at f⊢;have T:((5:Int)==2)=false:=rfl;have U:((5:Int)==4)=false:=rfl;have V:((5:Int)==3)=false:=rfl;have e5:((5:Int)==5)=true:=rfl;have F:a0F (rdr X (pb ((st.length:Nat):Int) 2++(a6F st++R)),(2:Int))=_:=a3c (v:=st.length) (n:=2) (by omega) (by omega) f;have g5:=b3W (wd:=a0G a) (ok:=true) (N:=st.length) (by omega) (5:Int) (W:Int) st [] _ R G.2 (by simp) f.shift;simp_all[a3p]
def a4N(s:Sub)(zn:List Nat):List Int:=
 (b1c s++a4f s)++(sB (a0G s.2.2.2.2.2.2.2.2.1) s.2.2.2.2.2.2.2.2.1++if s.1=0∨s.1=1 then[]else a5t s.2.2.2.2.2.2.2.2.2.1 zn s.2.2.2.2.2.2.2.2.2.2.1)
theorem b3X(b:a1k s n)(d:s.1≠0∧s.1≠1→PartsOk s.2.2.2.2.2.2.2.2.2.1 n ((s.2.2.2.2.2.2.2.2.1.length:Nat):Int) s.2.2.2.2.2.2.2.2.2.2.1 zn)(L:List Int):
  a4n s zn L=L++a4N s zn:=by
 obtain⟨-,-,h,-,k,a,-,-,f,-⟩:=b;have c:=a1G f;have g:=c3I (b2k h) ⟨k,a⟩ f L;unfold a4n a4N
 by_cases hk:s.1=0∨s.1=1
 rw[if_pos hk,if_pos hk,a7P (by omega),b6U h,g]
 simp
 rw[if_neg hk,if_neg hk,b7S (d (not_or.1 hk)),a7P (by omega),b6U h,g]
 simp
def a6G(s:Sub)(l:List Int):Sub:=(s.1,s.2.1,s.2.2.1,s.2.2.2.1,s.2.2.2.2.1,s.2.2.2.2.2.1,s.2.2.2.2.2.2.1,s.2.2.2.2.2.2.2.1,l,s.2.2.2.2.2.2.2.2.2)
theorem b6V{wd:Nat}(g:wd≤62){N:Nat}(f:N<1000000)(n:Int)(ok:Bool)(z s:Sub):∀(l done P R:List Int),(∀x∈l,b1p wd x)→done.length+l.length=N→OkR P (sB wd l++R)→
  y0s a8f (n,(wd:Int),ok,(N:Int),(done.length:Int),rdr P (sB wd l++R),z,a6G s done,())=some (n,(wd:Int),ok,rdr (P++sB wd l) R,z,a6G s (done++l),())
 | [],done,P,R,_,hl,_=>by
  have:done.length=N:=by omega
  subst this;have d:decide ((done.length:Int)<(done.length:Int))=false:=by simp
  simp_all[a0H,a8f,sB]
 |x::l,done,P,R,h,hl,hok=>by
  rw[lC]at hl;rw[b6v]at hok⊢;have d:decide ((done.length:Int)<(N:Int))=true:=by grind
  have a:=a7O g (h x (by simp)) hok;have k:lim (a36 done+1)=true:=a1c (by omega);have b:wrap .i64 ((done.length:Int)+1)=(((done++[x]).length:Nat):Int):=by grind[a0D]
  rw[a0I (s':=(n,(wd:Int),ok,(N:Int),(((done++[x]).length:Nat):Int),rdr (P++pb (a0R x wd) wd) (sB wd l++R),z,a6G s (done++[x]),())) (by
   simp_all[a8f,a6G])]
  rw[b6V g f n ok z s l (done++[x]) _ R (fun y c=>h y (by grind)) (by grind) hok.shift];simp[sB]
theorem c2J(h:SmallS s):SmallS (a3p s) where
 coefs:=h.coefs
 taps:=h.taps
 stages:=h.stages
 warm:=by show([]:List Int).length≤5000;simp
 rest:=by show([]:List Int).length≤5000;simp
 ks:=by show([]:List Int).length≤_;simp
theorem c5P(h:SmallS s)(I:(a1P s n).isSome=true)(T:s.1≠0∧s.1≠1→PartsOk s.2.2.2.2.2.2.2.2.2.1 n ((s.2.2.2.2.2.2.2.2.1.length:Nat):Int) s.2.2.2.2.2.2.2.2.2.2.1 zn)(e:OkR P (a4N s zn++R)):a9h (rdr P (a4N s zn++R),n)=some (s,(0:Int),rdr (P++a4N s zn) R):=by
 have K:=b1o I;have d:=@c2I s n K h.taps P;have x:=K;obtain⟨U,V,O,-,-,-,-,S,r,-,v,-⟩:=x;have Q:=a1G r;have y:=h.warm;have L:decide (n<1)=false:=by simp_all
 have M:decide (n > 4096)=false:=by simp_all
 have j:∀A B:List Int,(rdr A B).2.2.1=0:=fun _ _=>rfl;have l:a6u ((a3p s).1,a3p s,n)=some true:=by
  rw[b1w (c2J h)];unfold a9Y
  have:a3o (a3p s).1 (a3p s) n:=O
  simp_all
 have i:a3L (a3p s,n)=some ((s.2.2.2.2.2.2.2.2.1.length:Nat):Int):=by
  rw[a9k]
  have:a1R (a3p s) n=a1R s n:=rfl
  simp_all
 have p:=b4Z h n;rw[I]at p;have f:a1j s.2.2.2.2.2.2.2.2.1=some ((a0G s.2.2.2.2.2.2.2.2.1:Nat):Int):=a1S (by unfold short;omega);unfold a9h a0K;unfold a4N at e⊢;simp only[aA]at e⊢;have a:OkR (P++(b1c s++a4f s)) (sB (a0G s.2.2.2.2.2.2.2.2.1) s.2.2.2.2.2.2.2.2.1++((if s.1=0∨s.1=1 then[]else a5t s.2.2.2.2.2.2.2.2.2.1 zn s.2.2.2.2.2.2.2.2.2.2.1)++R)):=OkR.shift (by simp_all)
 have G:=fun(ok:Bool) (z:Sub)=>b6V (wd:=a0G s.2.2.2.2.2.2.2.2.1) (by omega) (N:=s.2.2.2.2.2.2.2.2.1.length) (by omega) n ok z (a3p s) s.2.2.2.2.2.2.2.2.1 [] _ _ (b2n r) (by simp) a;simp only[a21,nZ,a09,a29]at G;simp only[L,M,cF,j,bne_self_eq_false,oB];rw[d e];simp only[j,bne_self_eq_false,cF,oB,l,bT,i];rw[show((a3p s:Sub))=a6G (a3p s) []from rfl]
 erw[G]
 simp only[oB,j,bne_self_eq_false,cF];rw[show(a6G (a3p s) s.2.2.2.2.2.2.2.2.1).1=s.1 from rfl,a5q];simp only[oB]
 by_cases hk:s.1=0∨s.1=1
 have H:decide (s.1≠0∧s.1≠1)=false:=by grind
 have q:a6G (a3p s) s.2.2.2.2.2.2.2.2.1=s:=by
  obtain⟨D,E,F⟩:=v hk;obtain⟨k,w,o,sh,g,c,t,st,wm,⟨X,Y,Z⟩,re,u⟩:=s;simp only at D E F;subst D E F;rfl
 grind
 have H:decide (s.1≠0∧s.1≠1)=true:=by simp_all
 have hp:=T (not_or.1 hk);have b:=a.shift;rw[if_neg hk]at b;have m:=b9r hp b;simp only[H,cT,if_neg hk];rw[show(a6G (a3p s) s.2.2.2.2.2.2.2.2.1).2.2.2.2.2.2.2.2.1=s.2.2.2.2.2.2.2.2.1 from rfl]
 erw[m]
 have C:((0:Int) != 0)=false:=rfl;simp only[oB,C,cF,bT,f,bne_self_eq_false];have q:((a6G (a3p s) s.2.2.2.2.2.2.2.2.1).1,(a6G (a3p s) s.2.2.2.2.2.2.2.2.1).2.1,(a6G (a3p s) s.2.2.2.2.2.2.2.2.1).2.2.1,(a6G (a3p s) s.2.2.2.2.2.2.2.2.1).2.2.2.1,(a6G (a3p s) s.2.2.2.2.2.2.2.2.1).2.2.2.2.1,(a6G (a3p s) s.2.2.2.2.2.2.2.2.1).2.2.2.2.2.1,(a6G (a3p s) s.2.2.2.2.2.2.2.2.1).2.2.2.2.2.2.1,(a6G (a3p s) s.2.2.2.2.2.2.2.2.1).2.2.2.2.2.2.2.1,s.2.2.2.2.2.2.2.2.1,s.2.2.2.2.2.2.2.2.2.1,s.2.2.2.2.2.2.2.2.2.2.1,(a6G (a3p s) s.2.2.2.2.2.2.2.2.1).2.2.2.2.2.2.2.2.2.2.2)=s:=rfl
 grind
theorem c7S(y:Int):bits .u64 .and y 1=y%2:=by
 have h:((a04 64 y) &&& (a04 64 1)).toNat=(y%18446744073709551616).toNat%2:=by
  simp
 show wrap .u64 ((((a04 64 y) &&& (a04 64 1)).toNat:Nat):Int)=_
 grind[a0S]
theorem a1K(v:Int):∀n,a1n (pb v n)
 |0=>fun b hb=>by cases hb
 |n+1=>fun b hb=>by
  rcases mC.1 hb with rfl|hb
  grind[a5D,c7S,a8g]
  exact a1K v n b hb
theorem c1o(n:Nat):a1n (unB n):=fun b hb=>by
 rcases mA.1 hb with hb|hb
 all_goals simp_all
theorem b1d{α:Type}{f:α→List Int}{l:List α}(h:∀x,a1n (f x)):a1n (l.flatMap f):=fun b hb=>by
 obtain⟨x,-,g⟩:=a96.1 hb;exact h x b g
theorem c3K(k:Nat)(x:Int):a1n (a7H k x):=by
 unfold a7H;split;exact(c1o _).app (a1K _ _);exact(c1o _).app (a1K _ _)
theorem b3z(n:Nat)(l:List Int):a1n (sB n l):=b1d fun _=>a1K _ _
theorem c3L(k:Int)(l:List Int):a1n (a8n k l):=by
 unfold a8n;split;exact(a1K _ _).app ((a1K _ _).app (b3z _ _));exact(a1K _ _).app (b1d fun _=>c3K _ _)
theorem b2p:a1n []:=fun b hb=>by grind
theorem b5x:∀(zs:List Nat)(ks l:List Int),a1n (a1C zs ks l)
 |z::zs,k::ks,l=>by
  simp only[a1C];exact(c3L _ _).app (b5x zs ks _)
 | [],_,_=>by simp_all[a1C,b2p]
 |_::_,[],_=>by simp_all[a1C,b2p]
theorem b5y(s:Sub):a1n (a5X s):=(a1K _ _).app ((a1K _ _).app ((a1K _ _).app (b3z _ _)))
theorem c3M(s:Sub):a1n (a4f s):=by
 unfold a4f;split;exact a1K _ _;split;exact b5y s;split;exact(a1K _ _).app ((b3z _ _).app (b5y s));split;exact(a1K _ _).app (b1d fun _=>(a1K _ _).app (a1K _ _));exact b2p
theorem c4G(s:Sub)(h:List Nat):a1n (a4N s h):=by
 refine(((a1K _ _).app ((a1K _ _).app (a1K _ _))).app (c3M s)).app ((b3z _ _).app ?_);split;exact b2p;exact(a1K _ _).app (b5x _ _ _)
theorem b4v(h:SmallS s)(k:(a1P s n).isSome=true)(j:L.length<50000000):
  ∃g,a7N (wL L,s,n)=some (0,wL (L++a4N s g))∧a2a (s,n)=some (((a4N s g).length:Nat):Int)∧(a4N s g).length≤700000∧
   (s.1≠0∧s.1≠1→PartsOk s.2.2.2.2.2.2.2.2.2.1 n ((s.2.2.2.2.2.2.2.2.1.length:Nat):Int) s.2.2.2.2.2.2.2.2.2.2.1 g):=by
 obtain⟨e,i,a,-,c,d,-⟩:=b1W h (n:=n) (L:=L) (by omega);obtain⟨rfl,g,rfl,f⟩:=d k;have b:=b1o k;rw[b3X b f]at a c;refine⟨g,a,?_,by simp_all,f⟩;rw[b3u h];unfold a2D;rw[if_pos k,←b6r f,b3X b f]
 simp
theorem c6A(g:L.length<1000000000):a9w (wL L).1=some (rdr [] L):=by
 obtain⟨-,h⟩:=a4L L;unfold a9w;rw[a1c (by omega)];rfl
theorem c4H(h:L.length<1000000000):a4d (wL L)=some ((wL L).1,wL L):=by
 grind[a4L,a4d,a1c]
def a0O(n:Nat):List Int:=if h:n<128 then[(n:Int)]else((n%128+128:Nat):Int)::a0O (n / 128)
termination_by n
decreasing_by omega
theorem a7Q{n:Nat}(h:n<128):a0O n=[(n:Int)]:=by rw[a0O,dif_pos h]
theorem a8E{n:Nat}(h:¬ n<128):a0O n=((n%128+128:Nat):Int)::a0O (n / 128):=by rw[a0O,dif_neg h]
theorem b2q:∀(k n:Nat),n<128^(k+1)→1≤(a0O n).length∧(a0O n).length≤k+1
 |0,n,h=>by simp_all[a7Q]
 |k+1,n,h=>by
  by_cases hn:n<128
  rw[a7Q hn];simp;rw[a8E hn]
  have:=b2q k (n / 128) (by omega)
  simp_all
theorem c1p:∀(k n:Nat)(a:List Int)(b c:Int)(out:List Int),n<128^(k+1)→k≤8→out.length+k<1000000→
  ∃r g,y0s a6V ((n:Int),a,b,c,out,())=some (((r:Nat):Int),a,b,c,out++g,())∧a0O n=g++[(r:Int)]∧r<128
 |k,n,a,b,c,out,h,hk,ho=>by
  by_cases hn:n<128
  refine⟨n,[],?_,by rw[a7Q hn];rfl,hn⟩;rw[a0H (b:=((n:Int),a,b,c,out,())) (by
   have d:decide ((n:Int)≥128)=false:=by grind
   simp only[a6V,d,cF])]
  simp
  ·cases k with
   |zero=>omega
   |succ k=>
    have m:n / 128<128^(k+1):=by omega
    have f:n<18446744073709551616:=by
     have:128^(k+1+1)≤128^9:=a08 (by omega) (by omega)
     omega
    obtain⟨r,g,o,j,l⟩:=c1p k (n / 128) a b c (out++[((n%128+128:Nat):Int)]) m (by omega) (by grind);refine⟨r,((n%128+128:Nat):Int)::g,?_,by rw[a8E hn,j];rfl,l⟩;have d:decide ((n:Int)≥128)=true:=by grind
    have e:wrap .u64 (a53 (n:Int) 128)=((n / 128:Nat):Int):=by
     rw[show a53 (n:Int) 128=((n / 128:Nat):Int)from rfl];exact a0S (by omega)
    have i:wrap .u8 (wrap .u8 (a25 (n:Int) 128)+128)=((n%128+128:Nat):Int):=by
     rw[show a25 (n:Int) 128=((n%128:Nat):Int)from rfl,a8g,a8g];omega
    rw[a0I (s':=(((n / 128:Nat):Int),a,b,c,out++[((n%128+128:Nat):Int)],())) (by
     simp only[a6V,d,cT,a1c (show out.length+1<2147483648 by omega),e,i,a06])]
    simp_all
theorem b0G{α β γ:Type}(f:α→List γ):∀(l:List α)(a:List γ),a2p (β:=β) (fun a x=>.inl (a++f x)) l a=.inl (a++l.flatMap f)
 | [],a=>by simp[a2p]
 |x::l,a=>by simp only[a2p];rw[b0G f l];simp
def asI(ns:List Nat):List Int:=ns.map fun n:Nat=>(n:Int)
theorem b9s{ns:List Nat}(h:∀n∈ns,n<9223372036854775808)(u:ns.length≤1000):a8R (asI ns)=some (ns.flatMap a0O):=by
 have m:(asI ns).length=ns.length:=by simp[asI]
 have:=a1E (f:=a6W) (asI ns) (fun i (a:List Int)=>(asI ns,((asI ns).length:Int),(i:Int),a,())) (fun a x=>.inl (a++a0O x.toNat)) (fun i a=>a.length≤10*i) (fun a=>(a,()))
  (fun i l a q=>⟨fun s g=>by
   have c:i<ns.length:=by omega
   have o:(asI ns)[i]=((ns[i]:Nat):Int):=by simp[asI]
   have hb:=h ns[i] (a05 c);have k:ns[i]<128^(8+1):=by omega
   obtain⟨r,d,p,j,t⟩:=c1p 8 ns[i] (asI ns) ((asI ns).length:Int) (i:Int) a k (a26 _) (by omega);have hv:=b2q 8 ns[i] k;rw[j]at hv;simp only[lN,lC,a21]at hv;simp[o,j]at g;subst g;have e:wrap .u8 (r:Int)=(r:Int):=by rw[a8g];omega
   refine⟨?_,by grind⟩;simp only[a6W,dlt l,cT,a0B l,o,oB,p,a1c (show(a++d).length+1<2147483648 by grind),a0C (show i<1000000 by omega),e,a06,aA],fun b hb=>by grind⟩)
  (fun a q=>by simp_all[a6W]) (a:=[]) (by simp)
 simp_all[a8R,b0G,a7m,asI,List.flatMap_map]
theorem orA{k:Nat}(f:a<2^k)(c:b*2^k+a<18446744073709551616):bits .u64 .or (a:Int) ((b*2^k:Nat):Int)=((a+b*2^k:Nat):Int):=by
 show wrap .u64 (((a04 64 (a:Int) ||| a04 64 ((b*2^k:Nat):Int)).toNat:Nat):Int)=_;have g:(a04 64 (a:Int)).toNat=a:=by grind
 have h:(a04 64 ((b*2^k:Nat):Int)).toNat=b*2^k:=by grind[a79]
 grind[a57,a66,a0S]
theorem b3Y{rest:List Int}:∀(j m i acc:Nat)(P:List Int),m<128^(j+1)→P.length=i→(i=0∨1≤m)→acc<2^(7*i)→m*2^(7*i)+acc<9223372036854775808→(P++(a0O m++rest)).length<1000000000→
  y0s a4S ((acc:Int),P++(a0O m++rest),((P++(a0O m++rest)).length:Nat),(i:Int),())=some (.inr (((acc+m*2^(7*i):Nat):Int),((i+(a0O m).length:Nat):Int),(0:Int),()))
 |j,m,i,acc,P,hj,hP,hm,ha,hs,hl=>by
  have r:i≤8:=by
   rcases hm with l|h1;omega;apply Classical.byContradiction;intro A;have y:2^(7*9)≤2^(7*i):=a08 (by omega) (by omega);have z:2^(7*i)≤m*2^(7*i):=Nat.le_mul_of_pos_left _ (by omega);omega
  have t:wrap .i64 ((7:Int)*(i:Int))=((7*i:Nat):Int):=by grind[a0D]
  have v:decide ((((7*i:Nat):Int))<0)=false:=by rfl
  have u:wrap .i64 ((i:Int)+1)=((i+1:Nat):Int):=a0C (by omega);have x:∀c:Nat,c<256→(i=9→False):=fun _ _ h=>by omega
  have n:((i:Int)==9)=false:=by grind
  have g:∀(c:Nat)(b:List Int),c<256→a0O m=(c:Int)::b→(i=0∨c≠0)→
    a4S ((acc:Int),P++(a0O m++rest),((P++(a0O m++rest)).length:Nat),(i:Int),()) =
     bif decide ((c:Int)<128)then some (.inr (Sum.inr (bits .u64 .or (acc:Int) (A0n .u64 (wrap .u64 (a25 (c:Int) 128)) ((7*i:Nat):Int)),((i+1:Nat):Int),(0:Int),())))
     else some (.inl (bits .u64 .or (acc:Int) (A0n .u64 (wrap .u64 (a25 (c:Int) 128)) ((7*i:Nat):Int)),P++(a0O m++rest),((P++(a0O m++rest)).length:Nat),((i+1:Nat):Int),())):=fun c b o hv l=>by
   have k:i<(P++(a0O m++rest)).length:=by simp_all
   have q:m0k (P++(a0O m++rest)) (i:Int)=some (c:Int):=by
    simp_all[a0B]
   have B:(decide ((i:Int) > 0)=true→((c:Int)==0)=false):=fun h=>by
    grind
   simp only[a4S,dlt k,cT,q,oB,n,cF]
   grind
  have f:∀c:Nat,c%128*2^(7*i)+acc<9223372036854775808→bits .u64 .or (acc:Int) (A0n .u64 (wrap .u64 (a25 (c:Int) 128)) ((7*i:Nat):Int))=((acc+c%128*2^(7*i):Nat):Int):=fun c o=>by
   rw[show a25 (c:Int) 128=((c%128:Nat):Int)from rfl,a0S (by omega),a9l (by omega) (by omega)];exact orA ha (by omega)
  by_cases hm128:m<128
  rw[a0H (g m [] (by omega) (a7Q hm128) (by omega) |>.trans (by
   have d:decide ((m:Int)<128)=true:=by grind
   simp only[d,cT];rfl))]
  rw[f m (by simp_all[a22]),a22 hm128,a7Q hm128];rfl
  ·cases j with
   |zero=>omega
   |succ j=>
    have p:m / 128<128^(j+1):=by omega
    have s:2^(7*(i+1))=128*2^(7*i):=by grind
    have a:m*2^(7*i)=m%128*2^(7*i)+m / 128*2^(7*(i+1)):=by
     grind
    have hb:m%128*2^(7*i)≤127*2^(7*i):=a24 _ (by omega);rw[a0I (g (m%128+128) (a0O (m / 128)) (by omega) (a8E hm128) (by omega) |>.trans (by
     have d:decide (((m%128+128:Nat):Int)<128)=false:=by grind
     simp only[d,cF];rfl))]
    rw[f (m%128+128) (by grind[a88,Nat.mod_mod]),a88,Nat.mod_mod];have e:P++(a0O m++rest)=(P++[((m%128+128:Nat):Int)])++(a0O (m / 128)++rest):=by rw[a8E hm128];simp
    rw[e]at hl⊢;have w:=b3Y j (m / 128) (i+1) (acc+m%128*2^(7*i)) (P++[((m%128+128:Nat):Int)]) p (by simp[hP]) (.inr (by omega)) (by omega) (by omega) hl;rw[w,a,a8E hm128];congr 3;omega
    simp;omega
theorem c3N{n:Nat}(h:n<9223372036854775808){rest:List Int}(g:(a0O n++rest).length<1000000000):a6Y (a0O n++rest)=some ((n:Int),(((a0O n).length:Nat):Int),(0:Int)):=by
 have:=b3Y (rest:=rest) 8 n 0 0 [] (by omega) rfl (.inl rfl) (by simp) (by omega) g
 simp_all[a6Y]
def ord(P R:List Int):List Int×(Int×Int×Unit):=(P++R,(P.length:Int),(0:Int),())
theorem a6j{n:Nat}(c:n<9223372036854775808){most:Int}(e:(n:Int)≤most)(b:(P++(a0O n++R)).length<1000000000):
  a0V (ord P (a0O n++R),most)=some ((n:Int),ord (P++a0O n) R):=by
 have a:List.drop (a41 (P.length:Int)) (b01 (P++(a0O n++R)).length (P++(a0O n++R)))=a0O n++R:=by
  grind[tN]
 have k:((0:Int) != 0)=false:=rfl;have g:decide ((0:Int)≤(P.length:Int))=true:=by simp
 have f:decide ((P.length:Int)≤((P++(a0O n++R)).length:Int))=true:=by grind
 have d:decide ((n:Int) > most)=false:=by simp_all
 have h:(a0O n++R).length<1000000000:=by grind
 have i:wrap .i64 ((P.length:Int)+((a0O n).length:Int))=(((P++a0O n).length:Nat):Int):=by
  rw[a0D (by simp at b;omega)];simp
 unfold a0V ord;simp only[k,cF,g,f,a03,cT];rw[a,c3N c h]
 grind
def a7p(g:Int):Nat:=if 0≤g then(2*g).toNat else(-2*g-1).toNat
theorem c6B{g:Int}(h:-100000≤g∧g≤100000):a8Q g=some ((a7p g:Nat):Int):=by
 unfold a8Q a7p
 by_cases hg:0≤g
 have d:decide (g≥0)=true:=by simp_all
 rw[d,cT,if_pos hg,a0S (n:=g) (by omega),a0S (by omega),a76 (by omega)];have d:decide (g≥0)=false:=by simp_all
 rw[d,cF,if_neg hg,a0D (n:=g+1) (by omega),a0D (by omega),a0S (n:=0-(g+1)) (by omega),a0S (n:=2*(0-(g+1))) (by omega),a0S (by omega),a76 (by omega)]
 grind
theorem c1q{g:Int}(h:-(m:Int)≤g∧g≤(m:Int)):a7p g≤2*m:=by
 grind[a7p]
theorem c6C{g:Int}(h:-100000≤g∧g≤100000):a8U ((a7p g:Nat):Int)=some g:=by
 unfold a8U;have f:a25 ((a7p g:Nat):Int) 2=((a7p g%2:Nat):Int):=rfl;have k:a53 ((a7p g:Nat):Int) 2=((a7p g / 2:Nat):Int):=rfl;rw[f,k];unfold a7p
 by_cases hg:0≤g
 rw[if_pos hg];have d:((((2*g).toNat%2:Nat):Int)==0)=true:=by grind
 rw[d,cT,a0S (by omega),a0D (by omega)]
 grind
 rw[if_neg hg];have d:((((-2*g-1).toNat%2:Nat):Int)==0)=false:=by grind
 rw[d,cF,a0S (by omega),a0D (n:=(((-2*g-1).toNat / 2:Nat):Int)) (by omega),a0D (n:=0-(((-2*g-1).toNat / 2:Nat):Int)) (by omega),a0D (by omega)]
 grind
def e8(s:Int):Int:=bif (A0o .u8 s 7)==(1:Int)then bits .u8 .xor (A0n .u8 s 1) 7 else A0n .u8 s 1
def e16(s:Int):Int:=bif (A0o .u16 s 15)==(1:Int)then bits .u16 .xor (A0n .u16 s 1) 32773 else A0n .u16 s 1
def rep{α:Type}(f:α→α):Nat→α→α
 |0,s=>s
 |n+1,s=>rep f n (f s)
def g8(s c:Int):Int:=rep e8 8 (bits .u8 .xor s c)
def g16(s c:Int):Int:=rep e16 8 (bits .u16 .xor s (A0n .u16 (wrap .u16 c) 8))
theorem b5z(l:List Int)(n i:Int):∀(j k:Nat)(s:Int),k+j=8→y0s a8e (s,l,n,i,(k:Int),())=some (rep e8 j s,l,n,i,())
 |0,k,s,h=>by
  obtain rfl:k=8:=by omega
  rfl
 |j+1,k,s,h=>by
  have d:decide ((k:Int)<8)=true:=by grind
  rw[a0I (s':=(e8 s,l,n,i,((k+1:Nat):Int),())) (by
   simp only[a8e,d,cT,a0C (show k<1000000 by omega),e8]
   grind)]
  exact b5z l n i j (k+1) (e8 s) (by omega)
theorem b3o(l:List Int)(n i:Int):∀(j k:Nat)(s:Int),k+j=8→y0s a7i (s,l,n,i,(k:Int),())=some (rep e16 j s,l,n,i,())
 |0,k,s,h=>by
  obtain rfl:k=8:=by omega
  rfl
 |j+1,k,s,h=>by
  have d:decide ((k:Int)<8)=true:=by grind
  rw[a0I (s':=(e16 s,l,n,i,((k+1:Nat):Int),())) (by
   simp only[a7i,d,cT,a0C (show k<1000000 by omega),e16]
   grind)]
  exact b3o l n i j (k+1) (e16 s) (by omega)
def b2r(l:List Int):Int:=l.foldl g8 0
def a2r(l:List Int):Int:=l.foldl g16 0
theorem b9t(h:short l):a6x l=some (b2r l):=by
 have:=a1E (f:=a6r) (β:=Int×Unit) l (fun i (a:Int)=>(a,l,(l.length:Int),(i:Int),())) (fun a x=>.inl (g8 a x)) (fun _ _=>True) (fun a=>(a,()))
  (fun i k a _=>⟨fun c g=>by
   simp at g;subst g
   have:=b5z l (l.length:Int) (i:Int) 8 0 (bits .u8 .xor a l[i]) rfl
   simp at this;refine⟨?_,trivial⟩;simp only[a6r,dlt k,cT,a0B k,oB,this,a0C (a17 k h),g8],fun b hb=>by grind⟩)
  (fun a d=>by simp_all[a6r]) (a:=0) trivial
 unfold a6x;simp at this;rw[this,b2j];rfl
theorem b5A(h:short l):a5f l=some (a2r l):=by
 have:=a1E (f:=a4R) (β:=Int×Unit) l (fun i (a:Int)=>(a,l,(l.length:Int),(i:Int),())) (fun a x=>.inl (g16 a x)) (fun _ _=>True) (fun a=>(a,()))
  (fun i k a _=>⟨fun c g=>by
   simp at g;subst g
   have:=b3o l (l.length:Int) (i:Int) 8 0 (bits .u16 .xor a (A0n .u16 (wrap .u16 l[i]) 8)) rfl
   simp at this;refine⟨?_,trivial⟩;simp only[a4R,dlt k,cT,a0B k,oB,this,a0C (a17 k h),g16],fun b hb=>by grind⟩)
  (fun a d=>by simp_all[a4R]) (a:=0) trivial
 unfold a5f;simp at this;rw[this,b2j];rfl
theorem a9K(n:Int):wrap .u16 n=n%65536:=by rfl
theorem c3O(s:Int):0≤e16 s∧e16 s<65536:=by
 unfold e16;cases (A0o .u16 s 15==1:Bool);simp only[cF,A0n,a9K];omega;simp only[cT,bits,a9K];omega
theorem b3Z(l:List Int):0≤a2r l∧a2r l<65536:=by
 unfold a2r;rcases a50 l with rfl|⟨L,b,rfl⟩
 simp
 rw[List.concat_eq_append,List.foldl_append];exact c3O _
theorem d0F{v:Int}(h:0≤v∧v<65536):a8S (v,2)=some [v / 256,v%256]:=by
 have g:wrap .u64 (a53 v 256)=v / 256:=by grind[a0S]
 have f:wrap .u8 (a25 v 256)=v%256:=by simp_all[a42,a8g]
 have k:wrap .u8 (a25 (v / 256) 256)=v / 256:=by grind[a8g]
 have s0:a3S (v,(2:Int),(0:Int),([]:List Int),())=some (.inl (v / 256,(2:Int),(1:Int),[v%256],())):=by
  simp only[a3S,show decide ((0:Int)<2)=true from rfl,cT,a1c (show([]:List Int).length+1<2147483648 by simp),g,f];rfl
 have a:a3S (v / 256,(2:Int),(1:Int),[v%256],())=some (.inl (wrap .u64 (a53 (v / 256) 256),(2:Int),(2:Int),[v%256,v / 256],())):=by
  simp only[a3S,show decide ((1:Int)<2)=true from rfl,cT,a1c (show([v%256]:List Int).length+1<2147483648 by simp),k];rfl
 have c:a7A (v,2)=some [v%256,v / 256]:=by
  unfold a7A a9r
  simp
  rw[show v0s (v0r (2:Int) 0) 8=2 from rfl,a0I s0,a0I a,a0H (b:=([v%256,v / 256],())) rfl];rfl
 simp_all[a8S,a2A]
@[reducible] def a0U:Type:=Int×(Int×(Int×Unit))
@[reducible] def a1h:Type:=Int×(Int×(a0U×(List a0U×(List Sub×Unit))))
@[reducible] def a1o:Type:=Int×(List (List Int)×Unit)
def a2d(n:Int)(s:a0U):Bool:=!(decide (s.1<0) || decide (s.1≥n) || decide (s.2.1<0) || decide (s.2.1≥n) || s.1==s.2.1)&&!(decide (s.2.2.1 < -1024) || decide (s.2.2.1 > 1024))
theorem a2z{n:Int}{s:a0U}:a2d n s=true↔0≤s.1∧s.1<n∧0≤s.2.1∧s.2.1<n∧s.1≠s.2.1∧-1024≤s.2.2.1∧s.2.2.1≤1024:=by
 simp only[a2d,bA,a32,a74,decide_eq_false_iff_not,beq_eq_false_iff_ne];omega
def a4h(l:List a0U)(n:Int):Prop:=1≤n∧n≤8∧l.length≤16∧l.all (a2d n)=true
instance (l:List a0U) (n:Int):Decidable (a4h l n):=by unfold a4h;infer_instance
theorem b1q(l:List a0U)(n:Int):a6T (l,n)=some (decide (a4h l n)):=by
 unfold a6T a4h
 by_cases h1:n<1
 grind
 by_cases h2:n > 8
 grind
 by_cases h3:((l.length:Nat):Int) > 16
 grind
 have g:=a1p (f:=a5Q) (β:=Unit ⊕ (Bool×Unit)) l (fun i=>(n,l,(l.length:Int),(i:Int),())) (a2d n) (bt:=Sum.inl ()) (bf:=Sum.inr (false,()))
  (fun i h hp=>by
   obtain⟨a1,m,o,p,q,r,s⟩:=a2z.1 hp;have k:decide (l[i].1<0)=false:=by simp_all
   have a:decide (l[i].1≥n)=false:=by simp_all
   have b:decide (l[i].2.1<0)=false:=by simp_all
   have c:decide (l[i].2.1≥n)=false:=by simp_all
   have d:(l[i].1==l[i].2.1)=false:=by simp_all
   have e:decide (l[i].2.2.1 < -1024)=false:=by simp_all
   have j:decide (l[i].2.2.1 > 1024)=false:=by simp_all
   simp only[a5Q,dlt h,cT,a0B h,oB,k,a,b,c,d,e,j,cF,a0C (show i<1000000 by omega)])
  (fun i h hp=>by
   simp only[a5Q,dlt h,cT,a0B h,oB]
   grind[a2d])
  (by simp[a5Q])
 grind
def b4w(f:a0U):Prop:=1≤f.1∧f.1≤1048576∧1≤f.2.1∧f.2.1≤8∧4≤f.2.2.1∧f.2.2.1≤24
instance (f:a0U):Decidable (b4w f):=by unfold b4w;infer_instance
theorem b1J(f:a0U):a5P f=some (decide (b4w f)):=by
 unfold a5P a5O b4w
 grind
def frP(f:a1h):Prop:=b4w f.2.2.1∧1≤f.2.1∧f.2.1≤4096∧0≤f.1∧f.1≤4194304-f.2.1∧a4h f.2.2.2.1 f.2.2.1.2.1
instance (f:a1h):Decidable (frP f):=by unfold frP;infer_instance
theorem b1K(f:a1h):a5T f=some (decide (frP f)):=by
 unfold a5T frP;rw[b1J,b1q]
 by_cases h1:b4w f.2.2.1<;>by_cases h2:1≤f.2.1<;>by_cases h3:f.2.1≤4096<;>by_cases h4:0≤f.1<;>simp[h1,h2,h3,h4]
 have h:wrap .i64 ((4194304:Int)-f.2.1)=4194304-f.2.1:=a0D (by omega);rw[h]
 grind
def a5Y(s:a0U):List Nat:=[s.1.toNat,s.2.1.toNat,a7p s.2.2.1]
def a4I(s:a0U):List Int:=a0O s.1.toNat++(a0O s.2.1.toNat++a0O (a7p s.2.2.1))
def hb(f:a1h)(body:Nat):List Int:=
 [245,75]++(a0O f.1.toNat++(a0O f.2.1.toNat++(a0O f.2.2.1.1.toNat++(a0O f.2.2.1.2.1.toNat++(a0O f.2.2.1.2.2.1.toNat++(a0O f.2.2.2.1.length++(f.2.2.2.1.flatMap a4I++a0O body)))))))
def a1q(f:a1h)(body:Nat):List Int:=hb f body++[b2r (hb f body)]
theorem a7R{n:Nat}(h:n<9223372036854775808):1≤(a0O n).length∧(a0O n).length≤9:=b2q 8 n (by omega)
theorem c3P(g:n≤8){s:a0U}(h:a2d n s=true):(a4I s).length≤27:=by
 grind[a2z,a7R,a7p,a4I]
theorem b6W{n:Int}(g:n≤8):∀(l:List a0U),l.all (a2d n)=true→(l.flatMap a4I).length≤27*l.length
 | [],_=>by simp
 |s::l,h=>by
  simp only[a07,bA]at h
  have:=c3P g h.1
  have:=b6W g l h.2
  simp only[a61,lN,lC];omega
theorem b9u{f:a1h}(g:frP f){body:Nat}(h:body≤1048576):2≤(hb f body).length∧(hb f body).length≤600:=by
 obtain⟨⟨q,r2,k,a,b,c⟩,l1,l2,s1,s2,m1,m2,m3,m4⟩:=g;have d:=a7R (n:=f.1.toNat) (by omega);have e:=a7R (n:=f.2.1.toNat) (by omega);have i:=a7R (n:=f.2.2.1.1.toNat) (by omega);have j:=a7R (n:=f.2.2.1.2.1.toNat) (by omega);have l:=a7R (n:=f.2.2.1.2.2.1.toNat) (by omega);have m:=a7R (n:=f.2.2.2.1.length) (by omega);have o:=a7R (n:=body) (by omega);have p:=b6W m2 _ m4;simp only[hb,lN,lC,a21];omega
theorem c1r:∀l:List a0U,(l.flatMap a5Y).length=3*l.length
 | []=>rfl
 |s::l=>by simp only[a61,lN,lC,c1r l];simp only[a5Y,lC,a21];omega
theorem c2K{f:a1h}(A:frP f){body:Nat}(q:body≤1048576):a6s (f,(body:Int))=some (a1q f body):=by
 have t:=A;obtain⟨⟨O,r2,K,L,M,N⟩,l1,l2,s1,s2,m1,m2,m3,m4⟩:=t;have k:∀s∈f.2.2.2.1,a2d f.2.2.1.2.1 s=true:=fun s w=>lA.1 m4 s w;have h:=a1E (f:=a4z) (β:=Int×(List Int×Unit)) f.2.2.2.1 (fun i (a:List Int)=>((body:Int),f.2.2.2.1,((f.2.2.2.1.length:Nat):Int),(i:Int),a,())) (fun a x=>.inl (a++asI (a5Y x))) (fun i a=>a.length=6+3*i) (fun a=>((body:Int),a,()))
  (fun i u a G=>⟨fun I j=>by
   simp at j;subst j;obtain⟨a1,C,D,E,F,y,z⟩:=a2z.1 (k _ (a05 u));refine⟨?_,by grind[asI,a5Y]⟩;simp only[a4z,dlt u,cT,a0B u,oB,c6B (g:=f.2.2.2.1[i].2.2.1) (by omega),a1c (show a.length+3<2147483648 by omega),a0C (show i<1000000 by omega),a06]
   grind[a0S,asI,a5Y],fun b hb=>by grind⟩)
  (fun a G=>by simp_all[a4z]) (a:=asI [f.1.toNat,f.2.1.toNat,f.2.2.1.1.toNat,f.2.2.1.2.1.toNat,f.2.2.1.2.2.1.toNat,f.2.2.2.1.length]) (by rfl)
 rw[b0G]at h;simp[a7m]at h;have d:([wrap .u64 f.1,wrap .u64 f.2.1,wrap .u64 f.2.2.1.1,wrap .u64 f.2.2.1.2.1,wrap .u64 f.2.2.1.2.2.1,wrap .u64 ((f.2.2.2.1.length:Nat):Int)]:List Int)=asI [f.1.toNat,f.2.1.toNat,f.2.2.1.1.toNat,f.2.2.1.2.1.toNat,f.2.2.1.2.2.1.toNat,f.2.2.2.1.length]:=by
  grind[a0S,asI]
 have o:asI [f.1.toNat,f.2.1.toNat,f.2.2.1.1.toNat,f.2.2.1.2.1.toNat,f.2.2.1.2.2.1.toNat,f.2.2.2.1.length]++f.2.2.2.1.flatMap (fun x=>asI (a5Y x))++[((body:Nat):Int)]=asI ([f.1.toNat,f.2.1.toNat,f.2.2.1.1.toNat,f.2.2.1.2.1.toNat,f.2.2.1.2.2.1.toNat,f.2.2.2.1.length]++f.2.2.2.1.flatMap a5Y++[body]):=by
  simp_all[asI,List.map_flatMap]
 have v:∀n∈[f.1.toNat,f.2.1.toNat,f.2.2.1.1.toNat,f.2.2.1.2.1.toNat,f.2.2.1.2.2.1.toNat,f.2.2.2.1.length]++f.2.2.2.1.flatMap a5Y++[body],n<9223372036854775808:=fun n e=>by
  simp only[mA,mC,a95,or_false,a96]at e;rcases e with(e|⟨s,w,e⟩)|e;omega;obtain⟨a1,C,D,E,F,y,z⟩:=a2z.1 (k _ w)
  have:=c1q (m:=1024) ⟨y,z⟩
  simp[a5Y]at e;omega;omega
 have B:=c1r f.2.2.2.1;have p:=b9s v (by grind);have c:(([f.1.toNat,f.2.1.toNat,f.2.2.1.1.toNat,f.2.2.1.2.1.toNat,f.2.2.1.2.2.1.toNat,f.2.2.2.1.length]++f.2.2.2.1.flatMap a5Y++[body]).flatMap a0O)=(hb f body).drop 2:=by
  simp only[hb,List.flatMap_append,a61,List.flatMap_nil,a39,aA,List.flatMap_assoc,a63,a09,List.drop_succ_cons,a27];congr 7;exact congrArg (fun g=>List.flatMap g f.2.2.2.1) (funext fun s=>by simp[a4I,a5Y])
 have r:[245,75]++(hb f body).drop 2=hb f body:=by rfl
 have H:=b9u A q;unfold a6s;simp only[d];rw[h];simp only[oB,a06];have l:=congrArg a36 o;rw[show(asI ([f.1.toNat,f.2.1.toNat,f.2.2.1.1.toNat,f.2.2.1.2.1.toNat,f.2.2.1.2.2.1.toNat,f.2.2.2.1.length]++f.2.2.2.1.flatMap a5Y++[body])).length=7+3*f.2.2.2.1.length from by grind[asI,lC]]at l;rw[lN,a71]at l;rw[a0S (n:=(body:Int)) (by omega),a1c (by omega),cT,o,p];simp only[oB,c,a06,r];rw[a1c (by grind),cT,b9t (show short (hb f body)by unfold short;omega)]
 simp
 rw[a1c (by omega),cT];rfl
def c2L(f:a1h):a1h:=(f.1,f.2.1,f.2.2.1,f.2.2.2.1,[],())
theorem a3A{A:List Int}{k:Nat}(h:(P++(A++R)).length<k):((P++A)++R).length<k:=by rw[aA];exact h
theorem b5B{x:List Int}{ch:Int}(d:ch≤8)(s l:Int)(c:a0U)(u:List Sub×Unit){N:Nat}(p:N≤16){R:List Int}:∀(rest done:List a0U)(P:List Int),rest.all (a2d ch)=true→done.length+rest.length=N→
  (P++(rest.flatMap a4I++R)).length<1000000000→
  y0s a4A (x,(N:Int),(done.length:Int),(s,l,c,done,u),ord P (rest.flatMap a4I++R),())=some (x,(s,l,c,done++rest,u),ord (P++rest.flatMap a4I) R,())
 | [],done,P,_,hl,_=>by
  have e:done.length=N:=by simpa using hl
  rw[e,a0H (b:=(x,(s,l,c,done,u),ord P R,())) (by simp only[a4A,dge,cF];rfl)]
  simp
 |g::rest,done,P,h,hl,hlen=>by
  simp only[a07,bA]at h;rw[lC]at hl;obtain⟨a1,w,y,z,A,i,j⟩:=a2z.1 h.1;have B:=c1q (m:=1024) ⟨i,j⟩;have o:(g::rest).flatMap a4I++R=a0O g.1.toNat++(a0O g.2.1.toNat++(a0O (a7p g.2.2.1)++(rest.flatMap a4I++R))):=by simp[a4I]
  rw[o]at hlen⊢;have n1:=a6j (n:=g.1.toNat) (most:=7) (by omega) (by omega) hlen;have f:=a3A hlen;have n2:=a6j (n:=g.2.1.toNat) (most:=7) (by omega) (by omega) f;have k:=a3A f;have t:=a6j (n:=a7p g.2.2.1) (most:=2048) (by omega) (by omega) k;have a:=a3A k;have r:wrap .u64 ((done.length:Int)+1)=(((done++[g]).length:Nat):Int):=by rw[a0S (by omega)];simp
  have v:wrap .i64 ((g.1.toNat:Nat):Int)=g.1:=by rw[a0D (by omega)];omega
  have w2:wrap .i64 ((g.2.1.toNat:Nat):Int)=g.2.1:=by rw[a0D (by omega)];omega
  have q:decide ((done.length:Int)<(N:Int))=true:=by simp;omega
  rw[a0I (s':=(x,(N:Int),(((done++[g]).length:Nat):Int),(s,l,c,done++[g],u),ord (P++a0O g.1.toNat++a0O g.2.1.toNat++a0O (a7p g.2.2.1)) (rest.flatMap a4I++R),())) (by
   simp only[a4A,q,cT,n1,n2,t,oB,c6C (g:=g.2.2.1) (by omega),a1c (show done.length+1<2147483648 by omega),v,w2,r,a06])]
  rw[b5B d s l c u p rest (done++[g]) _ h.2 (by simp;omega) a];simp[a4I]
theorem b5C{f:a1h}(p:frP f){body:Nat}(o:body≤1048576)(hl:(a1q f body++R).length<1000000000):
  a4B (a1q f body++R)=some (c2L f,((a1q f body).length:Int),(body:Int),(0:Int)):=by
 have q:=p;obtain⟨⟨r1,r2,c1,c2,d1,d2⟩,l1,l2,s1,s2,m1,m2,m3,m4⟩:=q;have S:=b9u p o

 have d:a1q f body++R=[245,75]++(a0O f.1.toNat++(a0O f.2.1.toNat++(a0O f.2.2.1.1.toNat++(a0O f.2.2.1.2.1.toNat++(a0O f.2.2.1.2.2.1.toNat++(a0O f.2.2.2.1.length++(f.2.2.2.1.flatMap a4I++(a0O body++([b2r (hb f body)]++R))))))))):=by
  simp[a1q,hb]
 generalize hx:a1q f body++R=x at *;have U:2≤x.length:=by rw[d];simp
 have O:m0k x 0=some 245:=by rw[d];rfl
 have P:m0k x 1=some 75:=by rw[d];rfl
 have k:List.drop 2 (b01 x.length x)=a0O f.1.toNat++(a0O f.2.1.toNat++(a0O f.2.2.1.1.toNat++(a0O f.2.2.1.2.1.toNat++(a0O f.2.2.1.2.2.1.toNat++(a0O f.2.2.2.1.length++(f.2.2.2.1.flatMap a4I++(a0O body++([b2r (hb f body)]++R)))))))):=by
  rw[a18,d];rfl
 have h:([]++(a0O f.1.toNat++(a0O f.2.1.toNat++(a0O f.2.2.1.1.toNat++(a0O f.2.2.1.2.1.toNat++(a0O f.2.2.1.2.2.1.toNat++(a0O f.2.2.2.1.length++(f.2.2.2.1.flatMap a4I++(a0O body++([b2r (hb f body)]++R))))))))):List Int).length<1000000000:=by
  rw[←k];simp;omega
 have n1:=a6j (n:=f.1.toNat) (most:=4194304) (by omega) (by omega) h;have y:=a3A h;have n2:=a6j (n:=f.2.1.toNat) (most:=4096) (by omega) (by omega) y;have z:=a3A y;have E:=a6j (n:=f.2.2.1.1.toNat) (most:=1048576) (by omega) (by omega) z;have A:=a3A z;have F:=a6j (n:=f.2.2.1.2.1.toNat) (most:=8) (by omega) (by omega) A;have B:=a3A A;have G:=a6j (n:=f.2.2.1.2.2.1.toNat) (most:=24) (by omega) (by omega) B;have C:=a3A B;have H:=a6j (n:=f.2.2.2.1.length) (most:=16) (by omega) (by omega) C;have D:=a3A C;have a:=b5B (x:=x) m2 f.1 f.2.1 f.2.2.1 ([],()) m3 f.2.2.2.1 [] _ m4 (by simp) D;have Q:=a3A D;have i:=a6j (n:=body) (most:=1048576) (by omega) (by omega) Q;simp only[a21,nZ,a09,a29]at n1 n2 E F G H i a;have X:wrap .i64 ((f.1.toNat:Nat):Int)=f.1:=by rw[a0D (by omega)];omega
 have w2:wrap .i64 ((f.2.1.toNat:Nat):Int)=f.2.1:=by rw[a0D (by omega)];omega
 have Y:wrap .i64 ((f.2.2.1.1.toNat:Nat):Int)=f.2.2.1.1:=by rw[a0D (by omega)];omega
 have Z:wrap .i64 ((f.2.2.1.2.1.toNat:Nat):Int)=f.2.2.1.2.1:=by rw[a0D (by omega)];omega
 have w5:wrap .i64 ((f.2.2.1.2.2.1.toNat:Nat):Int)=f.2.2.1.2.2.1:=by rw[a0D (by omega)];omega
 have l:a0O f.1.toNat++a0O f.2.1.toNat++a0O f.2.2.1.1.toNat++a0O f.2.2.1.2.1.toNat++a0O f.2.2.1.2.2.1.toNat++a0O f.2.2.2.1.length++f.2.2.2.1.flatMap a4I++a0O body=(hb f body).drop 2:=by simp[hb]
 rw[l]at i;have u:ord ((hb f body).drop 2) ([b2r (hb f body)]++R)=(x.drop 2,(((hb f body).length-2:Nat):Int),(0:Int),()):=by
  unfold ord;rw[a51,←hx];congr 1;unfold a1q;rw[aA,List.drop_append_of_le_length (by omega)]
 rw[u]at i;have b:wrap .i64 (((x.drop 2).length:Int)-(((hb f body).length-2:Nat):Int))=((1+R.length:Nat):Int):=by
  have:x.length=(hb f body).length+(1+R.length):=by rw[←hx];simp[a1q];omega
  rw[a51,a0D (by omega)];omega
 have m:wrap .i64 ((2:Int)+(((hb f body).length-2:Nat):Int))=(((hb f body).length:Nat):Int):=by rw[a0D (by omega)];omega
 have t:(hb f body).length<x.length:=by rw[←hx];simp[a1q]
 have c:b01 (hb f body).length x=hb f body:=by rw[←hx];simp[a1q]
 have s:m0k x (((hb f body).length:Nat):Int)=some (b2r (hb f body)):=by rw[a0B t];congr 1;subst hx;simp[a1q]
 have N:decide (((x.length:Nat):Int)<2)=false:=by simp;omega
 have j:decide ((2:Int)≤((x.length:Nat):Int))=true:=by simp;omega
 have I:((245:Int) != 245)=false:=rfl;have b1:((75:Int) != 75)=false:=rfl;have e:∀T:List Int,T.length<1000000000→a8T T=some (ord [] T):=fun T d=>by unfold a8T;rw[a1c (by omega)];rfl
 have g:=h;rw[a09]at g;have z0:((0:Int) != 0)=false:=rfl;have K:decide (((1+R.length:Nat):Int)<1)=false:=by simp;omega
 have L:decide ((0:Int)≤(((hb f body).length:Nat):Int))=true:=by simp
 have M:decide ((((hb f body).length:Nat):Int)≤((x.length:Nat):Int))=true:=by simp;omega
 have V:(b2r (hb f body) != b2r (hb f body))=false:=bne_self_eq_false _;have r:frP (f.1,f.2.1,f.2.2.1,f.2.2.2.1,([]:List Sub),()):=p;have w:wrap .i64 ((((hb f body).length:Nat):Int)+1)=(((a1q f body).length:Nat):Int):=by rw[a0D (by omega)];simp[a1q]
 have v:wrap .i64 ((body:Nat):Int)=(body:Int):=a0D (by omega);unfold a4B;simp only[N,cF,O,P,oB,I,b1,j,cT];rw[k,e _ g];simp only[oB,n1,n2,E,F,G,H,X,w2,Y,Z,w5]
 erw[a]
 simp only[oB,i,a6y,z0,cF,a6l,a7j,b,K,m,L,M,a03,cT,tN,c,b9t (show short (hb f body)by unfold short;omega),s,V];rw[b1K,decide_eq_true r];simp only[oB,bT,cF,w,v];rfl
@[reducible] def PZ:Type:=Sub×List Nat
def c2M(n:Int)(p:PZ):Prop:=SmallS p.1∧(a1P p.1 n).isSome=true∧(p.1.1≠0∧p.1.1≠1→PartsOk p.1.2.2.2.2.2.2.2.2.2.1 n ((p.1.2.2.2.2.2.2.2.2.1.length:Nat):Int) p.1.2.2.2.2.2.2.2.2.2.2.1 p.2)
def a0J(l:List PZ):List Int:=l.flatMap fun p=>a4N p.1 p.2
theorem b6X(l:List PZ):a1n (a0J l):=b1d fun _=>c4G _ _
theorem b6Y(x:a1h)(all:List Sub)(l:all.length≤8):∀(rest done:List Sub)(L:List Int),done++rest=all→(∀s∈rest,SmallS s∧(a1P s x.2.1).isSome=true)→L.length+700000*rest.length<40000000→
  ∃zs:List PZ,zs.map (·.1)=rest∧(∀p∈zs,c2M x.2.1 p)∧(a0J zs).length≤700000*rest.length∧((∀s∈rest,∃c,a2a (s,x.2.1)=some (c:Int))∧some (((a0J zs).length:Nat):Int)=rest.foldr (fun s a=>a.bind fun a=>(a2a (s,x.2.1)).bind fun c=>some (c+a)) (some 0))∧
   y0s a6X (all,(all.length:Int),(done.length:Int),wL L,x,())=some (.inl (wL (L++a0J zs),x,()))
 | [],done,L,hd,_,_=>by
  have e:done=all:=by simp_all
  subst e;refine⟨[],rfl,by simp,by simp[a0J],⟨by simp,by rfl⟩,?_⟩;simp_all[a0H,a6X,a0J]
 |s::rest,done,L,hd,h,hL=>by
  obtain⟨b,k⟩:=h s (by simp);rw[lC]at hL;obtain⟨f,d,i,q,j⟩:=b4v b k (L:=L) (by omega);obtain⟨zs,k1,k2,k3,⟨r,o⟩,k6⟩:=b6Y x all l rest (done++[s]) (L++a4N s f) (by simp_all) (fun t n=>h t (by grind)) (by grind);have g:done.length<all.length:=by grind
  have m:m0k all (done.length:Int)=some s:=by grind[a0B]
  refine⟨(s,f)::zs,by grind,fun p hp=>?_,?_,⟨fun t n=>?_,?_⟩,?_⟩;rcases mC.1 hp with rfl|hp;exact⟨b,k,j⟩;simp_all
  grind[a0J]
  grind
  simp only[List.foldr_cons,←o,oB,i];simp[a0J];have z0:((0:Int) != 0)=false:=rfl;rw[a0I (s':=(all,(all.length:Int),(((done++[s]).length:Nat):Int),wL (L++a4N s f),x,())) (by
   simp only[a6X,dlt g,cT,m,oB,d,z0,cF,a0C (show done.length<1000000 by omega)]
   simp)]
  simp_all[a0J]
def a3Y(k:Nat):Nat:=(8-k%8)%8
def a2j(L:List Int):List Int:=L++a00 (a3Y L.length) 0
theorem b5D:∀(k:Nat)(L:List Int),a3Y L.length=k→L.length+k<900000000→y0s a2R (wL L,())=some (wL (L++a00 k 0),())
 |k,L,hk,hL=>by
  have f:=(a4L L).1;have h:a25 (wL L).2.1 8=((L.length%8:Nat):Int):=by grind
  unfold a3Y at hk;cases k with
  |zero=>
   grind[a0H,a2R]
  |succ k=>
   have hb:(((L.length%8:Nat):Int) != 0)=true:=by grind
   rw[a0I (s':=(wL (L++[0]),())) (by
    simp only[a2R,h,hb,cT,b5b (show L.length<1000000000 by omega),oB])]
   rw[b5D k (L++[0]) (by grind[a3Y]) (by grind)]
   grind
theorem c4I(h:L.length<800000000):a4c (wL L)=some (wL (a2j L)):=by
 unfold a4c;rw[b5D _ L rfl (by unfold a3Y;omega)];rfl
def a3x(L:List Int):List Int:=(wL (a2j L)).1
theorem a9m(L:List Int):(a3x L).length=(L.length+7) / 8∧8*(a3x L).length=(a2j L).length:=by
 grind[a4L,a2j,a3x,a3Y]
def a4i(f:a1h)(L:List Int):List Int:=a1q f (a3x L).length++a3x L
def a1F(f:a1h)(L:List Int):List Int:=a4i f L++[a2r (a4i f L) / 256,a2r (a4i f L)%256]
theorem b4x{f:a1h}(g:frP f)(h:L.length≤5600000):(a4i f L).length≤700700∧(a3x L).length≤700000:=by
 grind[a9m,b9u,a4i,a1q]
theorem b9v{f:a1h}(j:a3y f=some true)(d:frP f)(e:f.2.2.2.2.1.length≤8)(m:∀s∈f.2.2.2.2.1,SmallS s∧(a1P s f.2.1).isSome=true):
  ∃zs:List PZ,zs.map (·.1)=f.2.2.2.2.1∧(∀p∈zs,c2M f.2.1 p)∧(a0J zs).length≤5600000∧
   some (((a0J zs).length:Nat):Int)=f.2.2.2.2.1.foldr (fun s a=>a.bind fun a=>(a2a (s,f.2.1)).bind fun c=>some (c+a)) (some 0)∧a2S f=some (a1F f (a0J zs),0):=by
 obtain⟨zs,k1,k2,k3,⟨-,n⟩,k6⟩:=b6Y f f.2.2.2.2.1 e f.2.2.2.2.1 [] [] rfl m (by grind);have b:(a0J zs).length≤5600000:=by omega
 refine⟨zs,k1,k2,b,n,?_⟩;rw[a09,a21]at k6;have hp:=b4x d b;have k:wL []=(([]:List Int),(0:Int),()):=rfl;rw[k]at k6;have g:(a2j (a0J zs)).length<1000000000:=by
  grind[a9m]
 have l:=b3Z (a4i f (a0J zs));have h:a1q f (a3x (a0J zs)).length++a3x (a0J zs)=a4i f (a0J zs):=rfl;have i:(a1q f (a3x (a0J zs)).length).length+(a3x (a0J zs)).length=(a4i f (a0J zs)).length:=by grind
 unfold a2S;simp only[j,oB,bT,cF]
 erw[k6]
 simp only[oB,c4I (show(a0J zs).length<800000000 by omega),c4H g]
 erw[c2K d (show(a3x (a0J zs)).length≤1048576 by omega)]
 simp only[oB,a06];rw[show(wL (a2j (a0J zs))).1=a3x (a0J zs)from rfl];rw[h,a1c (by omega),cT,b5A (show short (a4i f (a0J zs))by unfold short;omega)]
 simp
 rw[a0S (by omega),d0F l];simp only[oB];rw[a1c (by grind),cT];rfl
end Go.Ab
