/- Part of the proof: PA. Conditions: as each statement tells. -/
import Derived.KernelRfl
import Derived.Test.YtpckgfbgijdfnaaGreatDoorMF
noncomputable section
set_option linter.unusedSimpArgs false
set_option linter.unusedVariables false
open BitVec renaming ofInt→a04,ofInt_natCast→a24,toNat_ofNat→a29,toNat_or→a70,toNat_ofInt→a80,toNat_and→a93
open Bool renaming and_self→a03,not_eq_true'→a33,not_false→a36,true_and→a39,and_eq_true_iff→a74,or_eq_false_iff→a75,or_eq_true→a98,eq_iff_iff→a99
open Int renaming eq_ofNat_of_zero_le→a01,natCast_dvd_natCast→a20,tmod→a26,cast_ofNat_Int→a30,toNat→a42,tmod_eq_emod_of_nonneg→a43,dvd_mul_of_dvd_left→a46,mul_nonneg→a47,tdiv→a54,tdiv_eq_ediv_of_nonneg→a60,mul_fdiv_cancel_left→a63,dvd_add_left→a65,toNat_of_nonneg→a77,fdiv→a78,natCast_nonneg→a81,dvd_zero→a85,emod_eq_of_lt→a88,natCast_add→b01
open List renaming replicate→a00,drop_eq_getElem_cons→a02,getElem_mem→a05,append_eq→a06,all_cons→a07,nil_append→a09,take_length→a19,length_nil→a22,drop_zero→a28,zipWith→a31,mem_of_mem_take→a34,mem_of_mem_drop→a35,length→a37,append_nil→a40,length_eq_zero_iff→a45,take_of_length_le→a48,take_succ_eq_append_getElem→a49,drop_length→a50,eq_nil_or_concat→a51,length_drop→a52,replicate_succ'→a53,set_cons_zero→a59,sum_cons→a61,flatMap_cons→a62,cons_append→a64,set_append_right→a71,length_singleton→a72,singleton_append→a73,getD→a86,getElem_zip→a90,length_take→a94,not_mem_nil→a96,mem_flatMap→a97,foldl_cons→b00,take→b02
open Nat renaming pow_le_pow_right→a08,two_pow_pos→a16,lt_trans→a18,mod_eq_of_lt→a23,mul_le_mul_right→a25,le_refl→a27,div_le_self→a32,lt_of_le_of_lt→a38,mod_lt→a41,pow_dvd_pow→a55,sub_self→a56,testBit_two_pow_mul_add→a57,two_pow_add_eq_or_of_lt→a58,div_eq_of_lt→a66,mul_comm→a67,div_add_mod→a68,min_eq_left→a69,div_mul_le_self→a76,one_le_two_pow→a79,le_of_lt→a82,add_zero→a83,pow_succ→a84,or_lt_two_pow→a87,add_mod_right→a89,mul_add→a91,mul_one→a92,lt_of_not_le→a95
open Option renaming map_eq_some_iff→a21,bind_eq_some_iff→a44
namespace Go.Ab
variable {L P R c d g ks l part r row t wm:List Int}{N a b i j m o v w:Nat}{k lag n warm x:Int}{zn:List Nat}
open IntKind(wrap)
section
variable {σ β:Type} {f:σ→Option (σ ⊕ β)}
theorem b2L:∀(n m:Nat)(s:σ){b:β},j0z f n s=some b→j0z f (n+m) s=some b
 |0,_,s,b,h=>by simp[j0z]at h
 |n+1,m,s,b,h=>by
  rw[show n+1+m=n+m+1 from by omega];simp only[j0z]at h⊢
  split at h
  cases h;rename_i s' g;exact b2L n m s' h;exact h
theorem b8d{n:Nat}{s:σ}{b b':β}(h:j0z f n s=some b)(k:j0z f m s=some b'):b=b':=by
 have a:=b2L n m s h;have g:=b2L m n s k;rw[Nat.add_comm,a]at g;exact Option.some.inj g
theorem c6u{n:Nat}{s:σ}{b:β}(h:j0z f n s=some b):v0v f s=some b:=by
 unfold v0v;have g:∃n b,j0z f n s=some b:=⟨n,b,h⟩;rw[dif_pos g];exact congrArg some (b8d g.choose_spec.choose_spec h)
theorem b7K{n:Nat}{s:σ}{b:β}(h:j0z f n s=some b):y0s f s=some b:=by
 unfold y0s;split;rename_i g hb;rw[b8d hb h];exact c6u h
theorem b8e{s:σ}(h:∀n,j0z f n s=none):y0s f s=none:=by
 unfold y0s;rw[h 400];show v0v f s=none;unfold v0v;rw[dif_neg]
 rintro⟨n,b,g⟩
 rw[h n]at g;cases g
theorem a0H{s:σ}{b:β}(h:f s=some (.inr b)):y0s f s=some b:=b7K (n:=1) (by simp[j0z,h])
theorem a0I{s s':σ}(h:f s=some (.inl s')):y0s f s=y0s f s':=by
 by_cases hx:∃n b,j0z f n s'=some b
 obtain⟨n,b,hb⟩:=hx;rw[b7K hb];exact b7K (n:=n+1) (by simp[j0z,h,hb])
 ·have g:∀n,j0z f n s'=none:=fun n=>by
   cases hn:j0z f n s' with
   |none=>rfl
   |some b=>exact absurd ⟨n,b,hn⟩ hx
  rw[b8e g];refine b8e fun n=>?_
  cases n with
  |zero=>rfl
  |succ n=>simp[j0z,h,g n]
theorem c3c(S:Nat→σ)(n:Nat){b:β}(g:∀i,i<n→f (S i)=some (.inl (S (i+1))))(h:f (S n)=some (.inr b)):∀(k:Nat),k≤n→y0s f (S (n-k))=some b
 |0,_=>a0H h
 |k+1,hk=>by
  rw[a0I (g (n-(k+1)) (by omega)),show n-(k+1)+1=n-k from by omega];exact c3c S n g h k (by omega)
theorem a2u(S:Nat→σ)(n:Nat){b:β}(g:∀i,i<n→f (S i)=some (.inl (S (i+1))))(h:f (S n)=some (.inr b)):y0s f (S 0)=some b:=by
 have:=c3c S n g h n (a27 _)
 rwa [a56]at this
end
theorem a0D{n:Int}(h:-9223372036854775808≤n∧n≤9223372036854775807):wrap .i64 n=n:=by
 simp only[wrap,IntKind.bits,IntKind.signed]
 simp
 split<;>omega
theorem a0U{n:Int}(h:0≤n∧n<18446744073709551616):wrap .u64 n=n:=by
 simp only[wrap,IntKind.bits,IntKind.signed]
 simp
 omega
theorem a8E(n:Int):wrap .u8 n=n%256:=by
 simp[wrap,IntKind.bits,IntKind.signed]
theorem c3d(x y:Int):v0s x y=min x y:=by
 simp only[v0s,cond_eq_ite,dT]
 split<;>omega
theorem c7V(x y:Int):v0r x y=max x y:=by
 simp only[v0r,cond_eq_ite,dT]
 split<;>omega
theorem a1e{n:Nat}(h:n<2147483648):lim n=true:=by simp[lim,h]
section
variable {α A σ β:Type}
def a2v(g:A→α→A ⊕ β):List α→A→A ⊕ β
 | [],a=>.inl a
 |x::r,a=>match g a x with
  |.inl a'=>a2v g r a'
  |.inr b=>.inr b
def a6O(fin:A→β):A ⊕ β→β
 |.inl a=>fin a
 |.inr b=>b
theorem b2g{f:σ→Option (σ ⊕ β)}(l:List α)(S:Nat→A→σ)(g:A→α→A ⊕ β)(I:Nat→A→Prop)(e:A→β)
  (d:∀i (h:i<l.length) a,I i a→(∀a',g a l[i]=.inl a'→f (S i a)=some (.inl (S (i+1) a'))∧I (i+1) a')∧(∀b,g a l[i]=.inr b→f (S i a)=some (.inr b)))
  (c:∀a,I l.length a→f (S l.length a)=some (.inr (e a))):∀(k i:Nat)(a:A),i+k=l.length→I i a→y0s f (S i a)=some (a6O e (a2v g (l.drop i) a))
 |0,i,a,hi,ha=>by
  obtain rfl:i=l.length:=by omega
  rw[a50];exact a0H (c a ha)
 |k+1,i,a,hi,ha=>by
  have j:i<l.length:=by omega
  rw[a02 j];obtain⟨m,n⟩:=d i j a ha;simp[a2v];cases hg:g a l[i]with
  |inl a'=>
   obtain⟨o,p⟩:=m a' hg;rw[a0I o];exact b2g l S g I e d c k (i+1) a' (by omega) p
  |inr b=>exact a0H (n b hg)
theorem a1A{f:σ→Option (σ ⊕ β)}(l:List α)(S:Nat→A→σ)(g:A→α→A ⊕ β)(I:Nat→A→Prop)(k:A→β)
  (d:∀i (h:i<l.length) a,I i a→(∀a',g a l[i]=.inl a'→f (S i a)=some (.inl (S (i+1) a'))∧I (i+1) a')∧(∀b,g a l[i]=.inr b→f (S i a)=some (.inr b)))
  (c:∀a,I l.length a→f (S l.length a)=some (.inr (k a))){a:A}(e:I 0 a):y0s f (S 0 a)=some (a6O k (a2v g l a)):=by
 have:=b2g l S g I k d c l.length 0 a (by omega) e
 simp_all
theorem a1s{f:σ→Option (σ ⊕ β)}(l:List α)(S:Nat→σ)(p:α→Bool){bt bf:β}
  (k:∀i (h:i<l.length),p l[i]=true→f (S i)=some (.inl (S (i+1))))(b:∀i (h:i<l.length),p l[i]=false→f (S i)=some (.inr bf))
  (g:f (S l.length)=some (.inr bt)):y0s f (S 0)=some (bif l.all p then bt else bf):=by
 have h:=a1A (A:=Unit) l (fun i _=>S i) (fun _ x=>bif p x then .inl ()else .inr bf) (fun _ _=>True) (fun _=>bt) (fun i h a _=>?_) (fun _ _=>g) (a:=()) trivial
 ·rw[h];congr 1;clear h k b g
  induction l with
  |nil=>rfl
  |cons x l ih=>
   simp[a2v];cases p x with
   |true=>simp_all
   |false=>rfl
 grind
end
theorem a0B{α:Type}{l:List α}{i:Nat}(h:i<l.length):m0k l (i:Int)=some l[i]:=by
 simp_all[m0k]
def a0A(x:Int):Bool:=decide (-1073741824≤x)&&decide (x<1073741824)
theorem a1B{x:Int}:a0A x=true↔-1073741824≤x∧x<1073741824:=by simp[a0A]
def short{α:Type}(l:List α):Prop:=l.length<1000000
theorem a0C{i:Nat}(h:i<1000000):wrap .i64 ((i:Int)+1)=((i+1:Nat):Int):=by
 grind[a0D]
theorem dlt{n:Nat}(h:i<n):decide ((i:Int)<(n:Int))=true:=by simp_all
theorem dge(n:Nat):decide ((n:Int)<(n:Int))=false:=by simp
theorem a3L{l:List Int}(a:short l):a2f l=some (l.all a0A):=by
 unfold a2f
 have:=a1s (f:=a2k) l (fun i=>(l,(l.length:Int),(i:Int),())) a0A (bt:=Sum.inl ()) (bf:=Sum.inr (false,()))
  (fun i h hp=>by
   have hp:=a1B.1 hp;have g:decide (l[i] < -1073741824)=false:=by simp_all
   have k:decide (l[i]≥1073741824)=false:=by simp_all
   simp only[a2k,dlt h,cT,a0B h,oB,g,k,cF,a0C (a18 h a)])
  (fun i h hp=>by
   simp only[a2k,dlt h,cT,a0B h,oB]
   grind[a0A])
  (by simp[a2k])
 grind
theorem a5n(x:Int):a4m x=some (a0A x):=by
 grind[a4m,a0A]
theorem a6P(x:Int):a6k x=some (a0A x):=by
 grind[a6k,a0A]
theorem a4q(x:Int):a5d x=some (a0A x):=by
 grind[a5d,a0A]
theorem b2h(x:Int):a4n x=some (a0A x):=by
 grind[a4n,a0A]
theorem a4Z(g:short l):a2l l=some (l.all a0A):=by
 unfold a2l
 have:=a1s (f:=a2G) l (fun i=>(l,(l.length:Int),(i:Int),())) a0A (bt:=Sum.inl ()) (bf:=Sum.inr (false,()))
  (fun i h hp=>by simp[a2G,a0B h,a5n,hp,a0C (a18 h g),h])
  (fun i h hp=>by simp_all[a2G,a0B,a5n])
  (by simp[a2G])
 grind
theorem b1w(g:short l):a3G l=some (l.all a0A):=by
 unfold a3G
 have:=a1s (f:=a3p) l (fun i=>(l,(l.length:Int),(i:Int),())) a0A (bt:=Sum.inl ()) (bf:=Sum.inr (false,()))
  (fun i h hp=>by simp[a3p,a0B h,a6P,hp,a0C (a18 h g),h])
  (fun i h hp=>by simp_all[a3p,a0B,a6P])
  (by simp[a3p])
 grind
theorem b1a(g:short l):a4u l=some (l.all a0A):=by
 unfold a4u
 have:=a1s (f:=a2Y) l (fun i=>(l,(l.length:Int),(i:Int),())) a0A (bt:=Sum.inl ()) (bf:=Sum.inr (false,()))
  (fun i h hp=>by simp[a2Y,a0B h,a4q,hp,a0C (a18 h g),h])
  (fun i h hp=>by simp_all[a2Y,a0B,a4q])
  (by simp[a2Y])
 grind
theorem a6f(h:short l):a2s l=some (l.all a0A):=by
 have e:b1t=a2k:=rfl
 have:a2s l=a2f l:=by rfl
 simp_all[a3L]
def b6m(x:Int):Bool:=decide (-32768≤x)&&decide (x<32768)
def a8f(c:List Int)(s:Int):Bool:=decide (1≤c.length)&&(decide (c.length≤32)&&(decide (0≤s)&&(decide (s≤15)&&c.all b6m)))
theorem a7Z{c:List Int}{s:Int}(a:short c):a3N (c,s)=some (a8f c s):=by
 have:=a1s (f:=a4t) c (fun i=>(c,(c.length:Int),(i:Int),())) b6m (bt:=Sum.inl ()) (bf:=Sum.inr (false,()))
  (fun i h hp=>by
   simp[b6m]at hp;have g:¬ c[i] < -32768:=by omega
   have k:¬ c[i]≥32768:=by omega
   simp[a4t,a0B h,a0C (a18 h a),h,g,k])
  (fun i h hp=>by
   grind[b6m,a4t,a0B])
  (by simp[a4t])
 simp at this;unfold a3N a8f
 grind
def b2M(x:Int):Bool:=decide (-64≤x)&&decide (x≤64)
def a9w(lag:Int)(t:List Int):Bool:=decide (2≤lag)&&(decide (lag≤1024)&&t.all b2M)
theorem b1T(g:t.length=3):a7b (lag,t)=some (a9w lag t):=by
 have:=a1s (f:=a5Q) t (fun i=>(t,(i:Int),())) b2M (bt:=Sum.inl ()) (bf:=Sum.inr (false,()))
  (fun i h hp=>by
   simp[b2M]at hp
   grind[a5Q,a0B,a0C])
  (fun i h hp=>by
   grind[b2M,a5Q,a0B])
  (by simp_all[a5Q])
 simp at this;unfold a7b a9w
 grind
def stageB(s:Int×(Int×Unit)):Bool:=decide (1≤s.1)&&(decide (s.1≤32)&&(decide (0≤s.2.1)&&decide (s.2.1≤8)))
def a7P(l:List (Int×Int×Unit)):Bool:=decide (l.length≤3)&&l.all stageB
theorem a8T(s:Int×(Int×Unit)):a5R s=some (stageB s):=by
 grind[a5R,stageB]
theorem b1b{l:List (Int×Int×Unit)}(g:short l):a6i l=some (a7P l):=by
 have:=a1s (f:=a5b) l (fun i=>(l,(l.length:Int),(i:Int),())) stageB (bt:=Sum.inl ()) (bf:=Sum.inr (false,()))
  (fun i h hp=>by simp[a5b,a0B h,a8T,hp,a0C (a18 h g),h])
  (fun i h hp=>by simp_all[a5b,a0B,a8T])
  (by simp[a5b])
 simp at this;unfold a6i a7P
 grind
@[reducible] def W(n:Int):Int:=wrap .i64 n
theorem a6Q(n:Int):wrap .i64 n=Int.bmod n 18446744073709551616:=by
 grind[wrap,IntKind.bits,IntKind.signed]
theorem b4f{n:Int}(h:a0A n=true):W n=n:=by
 grind[a1B,a0D]
def a3x(guess:List Int→Int):List Int→List Int→Option (List Int)
 | [],out=>some out
 |x::r,out=>bif a0A (W (x+guess out))then a3x guess r (out++[W (x+guess out)])else none
def b1x{β:Type}(guess:List Int→Int)(bad:β)(out:List Int)(x:Int):List Int ⊕ β:=bif a0A (W (x+guess out))then .inl (out++[W (x+guess out)])else .inr bad
theorem b0G{β:Type}(h:List Int→Int)(g:β)(f:List Int→β):∀(l out:List Int),a6O f (a2v (b1x h g) l out)=match a3x h l out with|some r=>f r|none=>g
 | [],out=>rfl
 |x::l,out=>by
  simp[a2v,b1x,a3x];cases a0A (W (x+h out))with
  |true=>simp_all[b0G]
  |false=>rfl
theorem b0H(g:List Int→Int):∀(l out r:List Int),out.all a0A=true→a3x g l out=some r→r.all a0A=true∧r.length=out.length+l.length
 | [],out,r,h,e=>by simp_all[a3x]
 |x::l,out,r,h,e=>by
  simp[a3x]at e;cases hw:a0A (W (x+g out))with
  |true=>
   rw[hw]at e;obtain⟨f,k⟩:=b0H g l _ r (by simp_all) e
   grind
  |false=>simp_all
def a4k:Option (List Int)→List Int×Int
 |some r=>(r,0)
 |none=>([],6)
def atB(out:List Int)(i:Nat):Int:=out.getD (out.length-i) 0
def a5o(o:Nat)(out:List Int):Int:=match o with
 | 1=>atB out 1
 | 2=>2*atB out 1-atB out 2
 | 3=>3*atB out 1-3*atB out 2+atB out 3
 | 4=>4*atB out 1-6*atB out 2+4*atB out 3-atB out 4
 |_=>0
theorem b0I{out:List Int}(f:1≤i)(h:i≤out.length)(g:short out):a1d ((i:Int),out)=some (atB out i,out):=by
 unfold a1d;have g:out.length<1000000:=g
 grind[a0D,a0B,atB]
theorem b7L{out:List Int}(e:o≤4)(h:o≤out.length)(a:short out):∃g,a7T (out,(o:Int))=some g∧∀x,W (x+g)=W (x+a5o o out):=by
 have f:=fun(h':1≤out.length)=>b0I (i:=1) (by omega) h' a;have k:=fun(h':2≤out.length)=>b0I (i:=2) (by omega) h' a;have b:=fun(h':3≤out.length)=>b0I (i:=3) (by omega) h' a;have c:=fun(h':4≤out.length)=>b0I (i:=4) (by omega) h' a;simp at f k b c;unfold a7T;have d:o=0∨o=1∨o=2∨o=3∨o=4:=by omega
 rcases d with rfl|rfl|rfl|rfl|rfl;exact⟨0,rfl,fun x=>rfl⟩;exact⟨_,by simp[f (by omega)];rfl,fun x=>rfl⟩;refine⟨_,by simp[f (by omega),k (by omega)];rfl,fun x=>?_⟩;simp_all[a6Q,a5o];refine⟨_,by simp[f (by omega),k (by omega),b (by omega)];rfl,fun x=>?_⟩;simp_all[a6Q,a5o];refine⟨_,by simp[f (by omega),k (by omega),b (by omega),c (by omega)];rfl,fun x=>?_⟩;simp_all[a6Q,a5o]
theorem a0Q{n:Nat}(h:n<1000000):lim n=true:=a1e (by omega)
theorem b9j{warm rest:List Int}(u:o≤4)(x:warm.length=o)(w:rest.length<100000):
  a8r (warm,rest,(o:Int))=some (a4k (bif warm.all a0A&&rest.all a0A then a3x (a5o o) rest warm else none)):=by
 have c:short warm:=by unfold short;omega
 have m:short rest:=by unfold short;omega
 unfold a8r;have p:¬ (o:Int)<0:=by omega
 have q:¬ (o:Int) > 4:=by omega
 have r:(((warm.length:Nat):Int) != (o:Int))=false:=by simp_all
 simp only[p,q,r,decide_false,cF,oB,a6f c,a6f m];cases hw1:warm.all a0A with
 |false=>rfl
 |true=>
  simp only[bT,cF,oB,a39];cases hw2:rest.all a0A with
  |false=>rfl
  |true=>
   simp[a0Q c]
   have:=a1A (f:=a6v) rest (fun i out=>((o:Int),rest,(rest.length:Int),(i:Int),out,())) (b1x (a5o o) (Sum.inr ((6:Int),([]:List Int),())))
    (fun i out=>o≤out.length∧out.length≤o+i) (fun out=>Sum.inl (out,()))
    (fun i h out s=>by
     have j:i<1000000:=by omega
     have l:short out:=by unfold short;omega
     obtain⟨g,t,d⟩:=b7L u s.1 l;have e:wrap .i64 (rest[i]+g)=W (rest[i]+a5o o out):=d _;have k:a2s [W (rest[i]+a5o o out)]=some (a0A (W (rest[i]+a5o o out))):=by rw[a6f (by simp[short])];simp
     simp only[a6v,dlt h,cT,a0B h,oB,t,e,k,b1x];cases hb:a0A (W (rest[i]+a5o o out))with
     |true=>
      simp only[cT,bT,cF,a0Q (show out.length+1<1000000 by omega),a0C j];refine⟨fun v n=>?_,fun b hb=>(by grind)⟩;simp at n;subst n;exact⟨rfl,by grind,by grind⟩
     |false=>
      simp)
    (fun out _=>by simp[a6v]) (a:=warm) ⟨by omega,by omega⟩
   simp[b0G]at this;rw[this];cases a3x (a5o o) rest warm<;>rfl
def c0N(out:List Int):List Int→Nat→Int→Int
 | [],_,acc=>acc
 |c::r,i,acc=>bif decide (i<out.length)then c0N out r (i+1) (W (acc+W (c*atB out (i+1))))else acc
def a8U(c:List Int)(s:Int)(out:List Int):Int:=A0o .i64 (c0N out c 0 0) s
theorem c9b{out:List Int}(h:i<out.length)(g:short out):m0k out (wrap .i64 (wrap .i64 (((out.length:Nat):Int)-1)-(i:Int)))=some (atB out (i+1)):=by
 have g:out.length<1000000:=g
 grind[a0D,a0B,atB]
theorem b4g{out c:List Int}{s:Int}(f:short out)(a:short c):∀(k i:Nat)(acc:Int),i+k=c.length→
  y0s a2H (out,s,acc,c,(c.length:Int),(i:Int),())=some (s,c0N out (c.drop i) i acc,())
 |0,i,acc,h=>by
  obtain rfl:i=c.length:=by omega
  simp_all[a0H,a2H,c0N]
 |k+1,i,acc,h=>by
  have g:i<c.length:=by omega
  have e:out.length<1000000:=f;have d:c.length<1000000:=a;rw[a02 g,c0N];have j:wrap .i64 (((out.length:Nat):Int)-1)=((out.length:Nat):Int)-1:=a0D (by omega);have l:wrap .i64 (((out.length:Nat):Int)-1-(i:Int))=((out.length:Nat):Int)-1-(i:Int):=a0D (by omega)
  by_cases hi:i<out.length
  have b:decide (wrap .i64 (wrap .i64 (((out.length:Nat):Int)-1)-(i:Int))<0)=false:=by grind
  simp[hi];rw[a0I (s':=(out,s,W (acc+W (c[i]*atB out (i+1))),c,(c.length:Int),((i+1:Nat):Int),())) (by
   simp only[a2H,dlt g,cT,a0B g,oB,b,cF,c9b hi f,a0C (show i<1000000 by omega)])]
  exact b4g f a k (i+1) _ (by omega);have b:decide (wrap .i64 (wrap .i64 (((out.length:Nat):Int)-1)-(i:Int))<0)=true:=by grind
  simp[hi];simp_all[a0H,a2H,a0B]
theorem b2N{out:List Int}{s:Int}(g:short out)(h:short c)(f:0≤s):a3P (out,c,s)=some (a8U c s out):=by
 have:=b4g (s:=s) g h c.length 0 0 (by omega)
 grind[a3P,a8U]
def b1c(warm rest c:List Int)(s:Int):Option (List Int):=bif warm.all a0A&&rest.all a0A then a3x (a8U c s) rest warm else none
theorem b2i{warm rest:List Int}{s:Int}(o:a8f c s=true)(w:warm.length=c.length)(v:rest.length<100000):
  a5S (warm,rest,c,s)=some (a4k (b1c warm rest c s)):=by
 have g:=o;simp only[a8f,bA,dT]at g;have k:short c:=by unfold short;omega
 have m:short warm:=by unfold short;omega
 have l:short rest:=by unfold short;omega
 unfold a5S;have q:(((warm.length:Nat):Int) != ((c.length:Nat):Int))=false:=by simp_all
 simp only[a7Z k,o,oB,bT,cF,q,a4Z m,a4Z l,b1c];cases hw1:warm.all a0A with
 |false=>rfl
 |true=>
  simp only[bT,cF,oB,a39];cases hw2:rest.all a0A with
  |false=>rfl
  |true=>
   have p:wrap .i64 (((warm.length:Nat):Int)+((rest.length:Nat):Int))=((warm.length+rest.length:Nat):Int):=by grind[a0D]
   have r:(0:Int)≤((warm.length+rest.length:Nat):Int):=by omega
   simp only[bT,cF,cT,p,r,decide_true,tN,a0Q (show warm.length+rest.length<1000000 by omega),a0Q (show 0+warm.length<1000000 by omega),a03,a06,a09]
   have:=a1A (f:=a5B) rest (fun i out=>(c,s,rest,(rest.length:Int),(i:Int),out,())) (b1x (a8U c s) (Sum.inr ((6:Int),([]:List Int),())))
    (fun i out=>out.length≤warm.length+i) (fun out=>Sum.inl (out,()))
    (fun i h out u=>by
     have d:i<1000000:=by omega
     have j:short out:=by unfold short;omega
     have e:wrap .i64 (a8U c s out+rest[i])=W (rest[i]+a8U c s out):=by grind
     simp only[a5B,dlt h,cT,a0B h,oB,b2N j k g.2.2.1,e,a5n,b1x];cases hb:a0A (W (rest[i]+a8U c s out))with
     |true=>
      simp only[cT,bT,cF,a0Q (show out.length+1<1000000 by omega),a0C d];refine⟨fun t n=>?_,fun b hb=>(by grind)⟩;simp at n;subst n;exact⟨rfl,by grind⟩
     |false=>
      simp)
    (fun out _=>by simp[a5B]) (a:=warm) (by omega)
   simp[b0G]at this;rw[this];cases a3x (a8U c s) rest warm<;>rfl
def c0O(out:List Int)(lag:Int):List Int→Nat→Int→Int
 | [],_,acc=>acc
 |t::r,i,acc=>c0O out lag r (i+1) (bif decide (0≤(out.length:Int)-lag-1+i)then W (acc+W (t*out.getD ((out.length:Int)-lag-1+i).toNat 0))else acc)
def a8a(lag:Int)(t:List Int)(out:List Int):Int:=A0o .i64 (c0O out lag t 0 0) 6
theorem c0P{out:List Int}{j:Int}(g:0≤j)(h:j<out.length):m0k out j=some (out.getD j.toNat 0):=by
 obtain⟨n,rfl⟩:=a01 g;simp_all[a0B]
theorem c7W{n:Nat}(h:2≤lag)(g:lag≤1024)(k:n<1000000)(f:i<3):
  wrap .i64 (wrap .i64 (wrap .i64 ((n:Int)-lag)-1)+(i:Int))=(n:Int)-lag-1+i:=by
 grind[a0D]
theorem c5l{n:Nat}(h:j<n):(l.take n).getD j 0=l.getD j 0:=by
 simp_all
theorem a7C{l t:List Int}{lag:Int}{n:Nat}(m:n≤l.length)(j:short l)(o:t.length=3)(a:2≤lag)(b:lag≤1024):∀(k i:Nat)(acc:Int),i+k=3→
  y0s a3q (l,(n:Int),lag,acc,t,(i:Int),())=some (c0O (l.take n) lag (t.drop i) i acc,())
 |0,i,acc,h=>by
  obtain rfl:i=t.length:=by omega
  grind[a0H,a3q,c0O]
 |k+1,i,acc,h=>by
  have g:i<t.length:=by omega
  have f:decide ((i:Int)<3)=true:=by grind
  have p:l.length<1000000:=j;have d:(l.take n).length=n:=by simp_all
  have e:=c7W (n:=n) (i:=i) a b (by omega) (by omega);rw[a02 g,c0O,d]
  by_cases hp:0≤(n:Int)-lag-1+i
  have c:decide ((n:Int)-lag-1+i≥0)=true:=by simp_all
  simp only[hp,decide_true,cT];rw[c5l (show((n:Int)-lag-1+i).toNat<n by omega),a0I (s':=(l,(n:Int),lag,W (acc+W (t[i]*l.getD ((n:Int)-lag-1+i).toNat 0)),t,((i+1:Nat):Int),())) (by
   simp only[a3q,f,cT,a0B g,oB,e,c,c0P hp (show(n:Int)-lag-1+(i:Int)<(l.length:Int)by omega),a0C (show i<1000000 by omega)])]
  exact a7C m j o a b k (i+1) _ (by omega);have c:decide ((n:Int)-lag-1+i≥0)=false:=by simp_all
  simp[hp];rw[a0I (s':=(l,(n:Int),lag,acc,t,((i+1:Nat):Int),())) (by
   simp only[a3q,f,cT,a0B g,oB,e,c,cF,a0C (show i<1000000 by omega)])]
  exact a7C m j o a b k (i+1) _ (by omega)
theorem b1y{l t:List Int}{lag:Int}{n:Nat}(f:n≤l.length)(k:short l)(a:t.length=3)(h:2≤lag)(g:lag≤1024):
  a3H (l,(n:Int),lag,t)=some (a8a lag t (l.take n)):=by
 have:=a7C (t:=t) f k a h g 3 0 0 (by rfl)
 simp_all[a3H,a8a]
theorem b6n{out:List Int}(f:short out)(k:t.length=3)(h:2≤lag)(g:lag≤1024):a3H (out,(out.length:Int),lag,t)=some (a8a lag t out):=by
 simp_all[b1y]
def b1z(rest:List Int)(lag:Int)(t:List Int):Option (List Int):=bif rest.all a0A then a3x (a8a lag t) rest []else none
theorem c0Q{rest:List Int}(d:a9w lag t=true)(e:t.length=3)(m:rest.length<100000):a9j (rest,lag,t)=some (a4k (b1z rest lag t)):=by
 have g:=d;simp only[a9w,bA,dT]at g;have k:short rest:=by unfold short;omega
 unfold a9j;simp only[b1T e,d,oB,bT,cF,b1w k,b1z];cases hw2:rest.all a0A with
 |false=>rfl
 |true=>
  have l:(0:Int)≤((rest.length:Nat):Int):=by omega
  simp[a0Q k]
  have:=a1A (f:=a7c) rest (fun i out=>(lag,rest,(rest.length:Int),(i:Int),out,t,())) (b1x (a8a lag t) (Sum.inr ((6:Int),([]:List Int),())))
   (fun i out=>out.length=i) (fun out=>Sum.inl (out,()))
   (fun i h out j=>by
    have b:i<1000000:=by omega
    have c:short out:=by unfold short;omega
    have hp:=b6n (out:=out) (t:=t) (lag:=lag) c e g.1 g.2.1;rw[j]at hp;simp only[a7c,dlt h,cT,a0B h,oB,hp,a6P,b1x];cases hb:a0A (W (rest[i]+a8a lag t out))with
    |true=>
     simp only[cT,bT,cF,a0Q (show out.length+1<1000000 by omega),a0C b];simp_all
    |false=>
     simp)
   (fun out _=>by simp[a7c]) (a:=[]) rfl
  simp[b0G]at this;rw[this];cases a3x (a8a lag t) rest []<;>rfl
def b6o{β:Type}(n:Int)(bad:β)(out:List Int)(x:Int):List Int ⊕ β:=bif a0A x&&a0A (A0n .i64 x n)then .inl (out++[A0n .i64 x n])else .inr bad
def upO(n:Int)(l:List Int):Option (List Int):=bif l.all (fun x=>a0A x&&a0A (A0n .i64 x n))then some (l.map fun x=>A0n .i64 x n)else none
theorem b4T{β:Type}(n:Int)(h:β)(g:List Int→β):∀(l out:List Int),a6O g (a2v (b6o n h) l out)=match upO n l with|some r=>g (out++r)|none=>h
 | [],out=>by simp[a2v,a6O,upO]
 |x::l,out=>by
  simp only[a2v,b6o,upO,a07];cases hx:(a0A x&&a0A (A0n .i64 x n))with
  |true=>
   simp only[cT,a39];rw[b4T n h g l _];simp only[upO];cases l.all (fun x=>a0A x&&a0A (A0n .i64 x n))with
   |true=>simp
   |false=>rfl
  |false=>rfl
theorem c0R(d:0≤n)(e:n≤30)(m:l.length<100000):a7J (l,n)=some (a4k (upO n l)):=by
 have c:short l:=by unfold short;omega
 have g:¬ n<0:=by omega
 have b:¬ n > 30:=by omega
 unfold a7J;simp[g,b]
 have:=a1A (f:=a7d) l (fun i out=>(n,l,(l.length:Int),(i:Int),out,())) (b6o n (Sum.inr ((6:Int),([]:List Int),())))
  (fun i out=>out.length=i) (fun out=>Sum.inl (out,()))
  (fun i h out j=>by
   have k:i<1000000:=by omega
   simp only[a7d,dlt h,cT,a0B h,oB,b2h,b6o,g,decide_false,cF];cases hb:a0A l[i]with
   |true=>
    cases hb2:a0A (A0n .i64 l[i] n)with
    |true=>
     simp only[cT,bT,cF,oB,g,decide_false,a0Q (show out.length+1<1000000 by omega),a0C k,a03];simp_all
    |false=>
     simp
   |false=>
    simp)
  (fun out _=>by simp[a7d]) (a:=[]) rfl
 simp[b4T]at this;rw[this];cases upO n l<;>rfl
@[reducible] def Fil:Type:=Int×((List Int)×((List Int)×Unit))
def a2d(x:Int):Int:=v0s (v0r x (-1073741824)) 1073741823
def b6p(x:Int):Int:=v0s (v0r x (-1048576)) 1048576
theorem c0S(x:Int):-1048576≤b6p x∧b6p x≤1048576:=by
 grind[b6p,c3d,c7V]
def c4l:List Int→List Int→Int→Int
 |a::w,b::h,acc=>c4l w h (W (acc+W (a*b)))
 |_,_,acc=>acc
def a1b(f:Fil):Int:=a2d (A0o .i64 (c4l f.2.1 f.2.2.1 0) 16)
structure FilOk (f:Fil):Prop where
 len:f.2.1.length=f.2.2.1.length
 pos:1≤f.2.1.length
 most:f.2.1.length≤32
 rate:0≤f.1∧f.1≤8
 small:∀x∈f.2.1,-1048576≤x∧x≤1048576
theorem b5y(h:i<l.length):a86 l i 0=l[i]:=by
 simp_all
theorem b1d{f:Fil}(c:FilOk f):∀(k i:Nat)(acc:Int),i+k=f.2.1.length→
  y0s a2E (acc,(f.2.1.length:Int),(i:Int),f,())=some (c4l (f.2.1.drop i) (f.2.2.1.drop i) acc,f,())
 |0,i,acc,h=>by
  obtain rfl:i=f.2.1.length:=by omega
  rw[a50,a0H (b:=(acc,f,())) (by simp[a2E])];rfl
 |k+1,i,acc,h=>by
  have g:i<f.2.1.length:=by omega
  have a:i<f.2.2.1.length:=by rw[←c.len];omega
  have e:=c.most;rw[a02 g,a02 a,c4l];have d:decide ((0:Int)≤(i:Int))=true:=by simp
  rw[a0I (s':=(W (acc+W (f.2.1[i]*f.2.2.1[i])),(f.2.1.length:Int),((i+1:Nat):Int),f,())) (by
   simp only[a2E,dlt g,dlt a,d,cT,a03,tN,b5y g,b5y a,a0C (show i<1000000 by omega)])]
  exact b1d c k (i+1) _ (by omega)
theorem a5p{f:Fil}(h:FilOk f):a1M f=some (a1b f,f):=by
 have:=b1d h f.2.1.length 0 0 (by omega)
 simp at this;unfold a1M;simp only[this,oB,a4v];rfl
def b4u(x:Int):Int:=if 0<x then 1 else if x<0 then -1 else 0
def a9x(r:Int)(x g:Int):Int:=b4u (x-g)*2^r.toNat
def b2O(st:Int)(w h:Int):Int:=b6p (W (w+b4u h*st))
def b0J(f:Fil)(x:Int):Fil:=
 (f.1,a31 (b2O (a9x f.1 (a2d x) (a1b f))) f.2.1 f.2.2.1,a2d x::f.2.2.1.take (f.2.2.1.length-1),f.2.2.2)
theorem c0T{f:Fil}(k:FilOk f)(x:Int):FilOk (b0J f x):=by
 obtain⟨a,b,c,g,d⟩:=k;have e:(a31 (b2O (a9x f.1 (a2d x) (a1b f))) f.2.1 f.2.2.1).length=f.2.1.length:=by simp_all
 refine⟨?_,?_,?_,g,?_⟩;show(a31 _ _ _).length=(a2d x::f.2.2.1.take (f.2.2.1.length-1)).length;simp_all;show 1≤(a31 _ _ _).length;omega;show(a31 _ _ _).length≤32;omega;intro y h;have h:y∈a31 (b2O (a9x f.1 (a2d x) (a1b f))) f.2.1 f.2.2.1:=h;obtain⟨i,j,rfl⟩:=List.mem_iff_getElem.1 h
 simp
 exact c0S _
theorem b1U(x:Int):(0<x∧b4u x=1)∨(x<0∧b4u x=-1)∨(x=0∧b4u x=0):=by
 unfold b4u;omega
theorem b5z{r:Int}(h:0≤r∧r≤8):(2:Int)^r.toNat≤256∧1≤(2:Int)^r.toNat:=by
 have:r.toNat=0∨r.toNat=1∨r.toNat=2∨r.toNat=3∨r.toNat=4∨r.toNat=5∨r.toNat=6∨r.toNat=7∨r.toNat=8:=by omega
 rcases this with e|e|e|e|e|e|e|e|e<;>rw[e]<;>decide
theorem c5m{r:Int}(h:0≤r∧r≤8)(g:-1≤x∧x≤1):A0n .i64 x r=x*2^r.toNat:=by
 have hp:=b5z h;have hb:min r.toNat 64=r.toNat:=by omega
 unfold A0n;show wrap .i64 (x*2^(min r.toNat 64))=_;rw[hb]
 have:x=-1∨x=0∨x=1:=by omega
 rcases this with rfl|rfl|rfl
 all_goals grind[a0D]
theorem b9k{f:Fil}(a:FilOk f)(x:Int):
  (bif decide (a2d x > a1b f)then bif decide (f.1<0)then(none:Option (Int×Int×Fil×Unit))else some (a2d x,A0n .i64 (1:Int) f.1,f,())
   else bif decide (a2d x<a1b f)then bif decide (f.1<0)then none else some (a2d x,wrap .i64 (0-(A0n .i64 (1:Int) f.1)),f,())
   else some (a2d x,(0:Int),f,()))=some (a2d x,a9x f.1 (a2d x) (a1b f),f,()):=by
 have d:¬ f.1<0:=by have:=a.rate;omega
 have hp:=b5z a.rate;have b:=c5m a.rate (x:=1) (by omega);rw[Int.one_mul]at b;rcases b1U (a2d x-a1b f)with⟨c,h⟩|⟨c,h⟩|⟨c,h⟩;have g:a2d x > a1b f:=by omega
 simp only[g,d,decide_true,decide_false,cT,cF,a9x,h,Int.one_mul,b];have g:¬ a2d x > a1b f:=by omega
 have k:a2d x<a1b f:=by omega
 simp only[g,k,d,decide_true,decide_false,cT,cF,a9x,h,b]
 grind[a0D]
 have g:¬ a2d x > a1b f:=by omega
 have k:¬ a2d x<a1b f:=by omega
 simp only[g,k,decide_false,cF,a9x,h,Int.zero_mul]
theorem c6v{z:List Int}(f:i<l.length)(k:z.length=l.length):(z.take i++l.drop i).set i (z[i]'(by omega))=z.take (i+1)++l.drop (i+1):=by
 have h:(z.take i).length=i:=by grind
 have g:z.take (i+1)=z.take i++[z[i]'(by omega)]:=by simp
 rw[a71 _ _ (by omega),h,a56,a02 f,a59,g,aA];rfl
theorem c6w{z:List Int}(h:i<l.length)(g:z.length=l.length):a86 (z.take i++l.drop i) i 0=l[i]:=by
 grind
theorem c5n{f:Fil}(g:FilOk f)(h:i<f.2.1.length):-1048576≤f.2.1[i]∧f.2.1[i]≤1048576:=g.small _ (a05 h)
theorem b6q{f:Fil}(n:FilOk f){x1 st:Int}(u:-256≤st∧st≤256):
  y0s a2b (x1,st,(f.2.2.1.length:Int),(0:Int),f,())=some (x1,(f.1,a31 (b2O st) f.2.1 f.2.2.1,f.2.2),()):=by
 obtain⟨z,w⟩:∃z,a31 (b2O st) f.2.1 f.2.2.1=z:=⟨_,rfl⟩;have q:=n.len;have d:z.length=f.2.1.length:=by grind
 have v:=n.most
 have:=a2u (f:=a2b) (fun i=>(x1,st,(f.2.2.1.length:Int),(i:Int),(f.1,z.take i++f.2.1.drop i,f.2.2),()))
  f.2.2.1.length (b:=(x1,(f.1,z,f.2.2),())) (fun i p=>by
   have k:i<f.2.1.length:=by omega
   have j:decide ((0:Int)≤(i:Int))=true:=by simp
   have s:(z.take i++f.2.1.drop i).length=f.2.1.length:=by grind
   have g:decide ((i:Int)<((z.take i++f.2.1.drop i).length:Int))=true:=by simp_all
   have o:z[i]'(by omega)=b2O st f.2.1[i] f.2.2.1[i]:=by grind
   have t:=c5n n k;have h:=c6v k d;rw[o]at h;simp only[a2b,dlt p,j,g,cT,a03,tN,b5y p,c6w k d];rcases b1U f.2.2.1[i]with⟨m,a⟩|⟨m,a⟩|⟨m,a⟩;have c:f.2.2.1[i] > 0:=m;simp[b2O,a]at h;simp only[c,decide_true,cT,oB,j,g,a03,tN,a0C (show i<1000000 by omega)];exact congrArg (fun l=>some (Sum.inl (x1,st,(f.2.2.1.length:Int),((i+1:Nat):Int),(f.1,l,f.2.2),()))) h;have c:¬ f.2.2.1[i] > 0:=by omega
   have e:f.2.1[i]+-1*st=f.2.1[i]-st:=by omega
   simp only[b2O,a,e]at h;simp only[c,m,decide_true,decide_false,cT,cF,oB,j,g,a03,tN,a0C (show i<1000000 by omega)];exact congrArg (fun l=>some (Sum.inl (x1,st,(f.2.2.1.length:Int),((i+1:Nat):Int),(f.1,l,f.2.2),()))) h;have c:¬ f.2.2.1[i] > 0:=by omega
   have r:¬ f.2.2.1[i]<0:=by omega
   have e:W (f.2.1[i]+0*st)=f.2.1[i]:=by rw[Int.zero_mul,Int.add_zero];exact a0D (by omega)
   simp only[b2O,a,e]at h;simp only[c,r,decide_false,cF,oB,j,g,cT,a03,tN,a0C (show i<1000000 by omega)];exact congrArg (fun l=>some (Sum.inl (x1,st,(f.2.2.1.length:Int),((i+1:Nat):Int),(f.1,l,f.2.2),()))) h)
  (by
   simp_all[a48,a2b])
 simp_all
theorem c2E{f:Fil}(k:FilOk f)(x g:Int):-256≤a9x f.1 x g∧a9x f.1 x g≤256:=by
 have hp:=b5z k.rate;unfold a9x;rcases b1U (x-g)with⟨-,h⟩|⟨-,h⟩|⟨-,h⟩<;>rw[h]<;>omega
theorem b3u{f:Fil}(h:FilOk f)(x:Int):a2I (f,x)=some (b0J f x):=by
 unfold a2I;have d:=b9k h x;simp only[a4v,oB,a5p h];have g:(bif decide (v0s (v0r x (-1073741824)) 1073741823 > a1b f)then bif decide (f.1<0)then(none:Option (Int×Int×Fil×Unit))else some (v0s (v0r x (-1073741824)) 1073741823,A0n .i64 (1:Int) f.1,f,())
   else bif decide (v0s (v0r x (-1073741824)) 1073741823<a1b f)then bif decide (f.1<0)then none else some (v0s (v0r x (-1073741824)) 1073741823,wrap .i64 (0-(A0n .i64 (1:Int) f.1)),f,())
   else some (v0s (v0r x (-1073741824)) 1073741823,(0:Int),f,()))=_:=d
 rw[g];simp only[oB,b6q h (c2E h _ _)];have i:f.2.2.1.length≥1:=by have:=h.pos;have:=h.len;omega
 have b:decide ((1:Int)≤((f.2.2.1.length:Nat):Int))=true:=by grind
 have e:p0h f.2.2.1 1 (f.2.2.1.length-1) f.2.2.1=f.2.2.1.take 1++f.2.2.1.take (f.2.2.1.length-1):=by
  simp_all[p0h]
 have j:(f.2.2.1.take 1++f.2.2.1.take (f.2.2.1.length-1)).length=f.2.2.1.length:=by simp_all
 have c:decide ((0:Int)<(((f.2.2.1.take 1++f.2.2.1.take (f.2.2.1.length-1)).length:Nat):Int))=true:=by grind
 simp only[b,cT,e,c];congr 1;have k:(f.2.2.1.take 1++f.2.2.1.take (f.2.2.1.length-1)).set 0 (a2d x)=a2d x::f.2.2.1.take (f.2.2.1.length-1):=by
  cases hc:f.2.2.1 with
  |nil=>simp_all
  |cons a l=>simp
 rw[k];rfl
@[reducible] def Stg:Type:=Int×(Int×Unit)
variable {st:List Stg}
theorem a6R{l:List Int}(h:short l):a0Z l=some l:=by
 have g:lim (0+l.length)=true:=a0Q (by unfold short at h;omega);simp_all[a0Z,x0e]
def a8V(s:Stg):Fil:=(s.2.1,a00 s.1.toNat 0,a00 s.1.toNat 0,())
theorem c3e{s:Stg}(h:stageB s=true):FilOk (a8V s):=by
 simp[stageB]at h;refine⟨by rfl,by simp[a8V];omega,by simp[a8V];omega,⟨h.2.2.1,h.2.2.2⟩,fun x g=>?_⟩;simp_all[a8V]
theorem b1e{s:Stg}(h:stageB s=true):a7I s=some (a8V s,0):=by
 have g:=h;simp[stageB]at g;unfold a7I;have f:decide ((0:Int)≤s.1)=true:=by grind
 have k:decide (s.1≤s.1)=true:=by simp
 have a:lim s.1.toNat=true:=a0Q (by omega);simp only[a8T,h,oB,bT,cF,f,k,a,a03,cT];rfl
def stO:List Int→List Int→Fil→Option (List Int)
 | [],done,_=>some done
 |r::rs,done,f=>bif a0A (W (a1b f+r))then stO rs (done++[W (a1b f+r)]) (b0J f (W (a1b f+r)))else none
theorem b2P:∀(l done:List Int)(f:Fil){r},stO l done f=some r→r.length=done.length+l.length
 | [],done,f,r,h=>by simp_all[stO]
 |x::l,done,f,r,h=>by
  simp[stO]at h;cases hw:a0A (W (a1b f+x))with
  |true=>rw[hw]at h;rw[b2P l _ _ h];grind
  |false=>simp_all
theorem b1A{done:List Int}(g:done.length=i)(h:i<row.length):a86 (done++row.drop i) i 0=row[i]:=by
 grind
theorem c0U{done:List Int}(g:done.length=i)(h:i<row.length)(y:Int):(done++row.drop i).set i y=(done++[y])++row.drop (i+1):=by
 rw[a71 _ _ (by omega),g,a56,a02 h,a59,aA];rfl
theorem b1B{row b4:List Int}{b5:Int}(e:short row):∀(k i:Nat)(done:List Int)(f:Fil),i+k=row.length→done.length=i→FilOk f→
  ∃z,y0s a4w ((row.length:Int),(i:Int),b4,b5,done++row.drop i,f,())=some z∧
   match stO (row.drop i) done f with
   |some r=>z=.inl (b4,b5,r,())
   |none=>∃q,z=.inr (([]:List Int),(6:Int),q,())
 |0,i,done,f,h,hd,hf=>by
  obtain rfl:i=row.length:=by omega
  rw[a50,a40];exact⟨_,a0H (b:=Sum.inl (b4,b5,done,())) (by simp[a4w]),rfl⟩
 |k+1,i,done,f,h,hd,hf=>by
  have g:i<row.length:=by omega
  have j:row.length<1000000:=e;have c:decide ((0:Int)≤(i:Int))=true:=by simp
  have l:(done++row.drop i).length=row.length:=by grind
  have d:decide ((i:Int)<(((done++row.drop i).length:Nat):Int))=true:=by simp_all
  have a:stO (row.drop i) done f=bif a0A (W (a1b f+row[i]))then stO (row.drop (i+1)) (done++[W (a1b f+row[i])]) (b0J f (W (a1b f+row[i])))else none:=by
   rw[a02 g];rfl
  rw[a];cases hw:a0A (W (a1b f+row[i]))with
  |true=>
   rw[a0I (s':=((row.length:Int),((i+1:Nat):Int),b4,b5,(done++[W (a1b f+row[i])])++row.drop (i+1),b0J f (W (a1b f+row[i])),())) (by
    simp only[a4w,dlt g,c,d,cT,a03,a5p hf,oB,tN,b1A hd g,a4q,hw,bT,cF,b3u hf,c0U hd g,a0C (show i<1000000 by omega)])]
   exact b1B e k (i+1) _ _ (by omega) (by simp_all) (c0T hf _)
  |false=>
   exact⟨_,a0H (b:=Sum.inr (([]:List Int),(6:Int),done++row.drop i,())) (by
    simp only[a4w,dlt g,c,d,cT,a03,a5p hf,oB,tN,b1A hd g,a4q,hw,a36]),_,rfl⟩
def lO:List Stg→List Int→Option (List Int)
 | [],row=>some row
 |s::r,row=>match stO row [] (a8V s)with
  |some row'=>lO r row'
  |none=>none
theorem c2F{s:Stg}{b4:List Int}(h:stageB s=true)(b:short row):
  ∃z,a6w k s (st,b4,(0:Int),row,())=some z∧match stO row [] (a8V s)with
   |some r=>z=.inl (st,b4,(0:Int),r,())
   |none=>∃q,z=.inr (.ret,st,([]:List Int),(6:Int),q,()):=by
 obtain⟨z,g,f⟩:=b1B (b4:=b4) (b5:=0) b row.length 0 [] (a8V s) (by omega) rfl (c3e h);simp at g f;unfold a6w;have a:((0:Int) != 0)=false:=rfl;simp[b1e h,g];cases hst:stO row [] (a8V s)with
 |some r=>
  simp_all
 |none=>
  grind
theorem b4U{st l:List Stg}{b4:List Int}(f:∀s∈l,stageB s=true):∀(n:Nat)(row:List Int),n≤l.length→short row→
  ∃z,l0f a6w l n (st,b4,(0:Int),row,())=some z∧match lO (l.take n).reverse row with
   |some r=>z=.inl (st,b4,(0:Int),r,())
   |none=>∃q,z=.inr (.ret,st,([]:List Int),(6:Int),q,())
 |0,row,_,_=>⟨_,rfl,rfl⟩
 |n+1,row,hn,hs=>by
  have h:n<l.length:=by omega
  obtain⟨z,a,g⟩:=c2F (st:=st) (k:=(n:Int)) (b4:=b4) (f _ (a05 h)) hs;have b:(l.take (n+1)).reverse=l[n]::(l.take n).reverse:=by simp
  simp[l0f,lG h,a,b,lO];cases hst:stO row [] (a8V l[n])with
  |some r=>
   rw[hst]at g;simp at g;subst g;exact b4U f n r (by omega) (by have:=b2P _ _ _ hst;unfold short at hs⊢;simp_all)
  |none=>
   grind
def a9I(rest:List Int)(st:List Stg):Option (List Int):=bif rest.all a0A then lO st.reverse rest else none
theorem b9l{rest:List Int}(a:a7P st=true)(c:rest.length<100000):a8t (rest,st)=some (a4k (a9I rest st)):=by
 have f:=a;simp only[a7P,bA,dT]at f;have k:short st:=by unfold short;omega
 have h:short rest:=by unfold short;omega
 unfold a8t;simp only[b1b k,a,oB,bT,cF,b1a h,a9I];cases hw:rest.all a0A with
 |false=>rfl
 |true=>
  obtain⟨z,b,g⟩:=b4U (st:=st) (b4:=[]) (lA.1 f.2) st.length rest (a27 _) h;rw[a19]at g;simp[a6R h,a0Q k,b];cases hst:lO st.reverse rest with
  |some r=>
   rw[hst]at g;simp at g;subst g;rfl
  |none=>
   rw[hst]at g;obtain⟨q,rfl⟩:=g;rfl
def a5q(n warm:Int):Bool:=decide (1≤n)&&(decide (n≤4096)&&(decide (0≤warm)&&decide (warm≤n)))
theorem b1f(n warm:Int):a6j (n,warm)=some (a5q n warm):=by
 grind[a6j,a5q]
theorem c9c(h:o≤8):1≤2^o∧2^o≤256:=by
 have:o=0∨o=1∨o=2∨o=3∨o=4∨o=5∨o=6∨o=7∨o=8:=by omega
 grind
theorem c0V(h:o≤64):A0o .i64 (N:Int) (o:Int)=((N / 2^o:Nat):Int):=by
 unfold A0o;show a78 (N:Int) (2^(min (o:Int).toNat 64))=_
 grind
theorem b5A(h:o≤64)(g:N*2^o<9223372036854775808):A0n .i64 (N:Int) (o:Int)=((N*2^o:Nat):Int):=by
 unfold A0n;show wrap .i64 ((N:Int)*2^(min (o:Int).toNat 64))=_
 grind[a0D]
def b2j(o N:Nat)(warm:Int):List Int:=
 if N%2^o=0∧warm≤((N / 2^o:Nat):Int)then(((N / 2^o:Nat):Int)-warm)::a00 (2^o-1) ((N / 2^o:Nat):Int)else[]
def a1E(order n warm:Int):List Int:=bif a5q n warm&&(decide (0≤order)&&decide (order≤8))then b2j order.toNat n.toNat warm else[]
theorem a1N(order n warm:Int):a2A (order,n,warm)=some (a1E order n warm):=by
 unfold a2A a1E;simp only[b1f,oB];cases hr:a5q n warm with
 |false=>rfl
 |true=>
  simp[a5q]at hr;simp only[bT,cF,a39]
  by_cases h1:order<0
  grind
  by_cases h2:order > 8
  grind
  obtain⟨o,rfl⟩:=a01 (show 0≤order by omega);obtain⟨N,rfl⟩:=a01 (show 0≤n by omega);have p:o≤8:=by omega
  have q:N≤4096:=by omega
  have hp:=c9c p;have m:N / 2^o*2^o≤N:=a76 N _;have l:(0:Int)≤(o:Int):=by omega
  have g8:(o:Int)≤8:=by omega
  simp only[h1,h2,l,g8,decide_true,decide_false,cF,cT,a03,oB,c0V (N:=N) (show o≤64 by omega),b5A (N:=N / 2^o) (show o≤64 by omega) (by omega),tN];have g:=a68 N (2^o);rw[a67]at g
  by_cases hm:N%2^o=0
  have k:(((N / 2^o*2^o:Nat):Int) != (N:Int))=false:=by simp_all
  by_cases hw:warm≤((N / 2^o:Nat):Int)
  have c:decide (((N / 2^o:Nat):Int)<warm)=false:=decide_eq_false (Int.not_lt.2 hw);have e:wrap .i64 (((N / 2^o:Nat):Int)-warm)=((N / 2^o:Nat):Int)-warm:=a0D (by have:=a32 N (2^o);omega);simp only[k,c,e,cF,oB,b2j,hm,hw,and_self,if_true];have d:A0n .i64 (1:Int) (o:Int)=((2^o:Nat):Int):=by have:=b5A (N:=1) (show o≤64 by omega) (by omega);simp_all
  have:=a2u (f:=a5A) (fun i=>((o:Int),((N / 2^o:Nat):Int),(((N / 2^o:Nat):Int)-warm)::a00 i ((N / 2^o:Nat):Int),())) (2^o-1)
   (b:=((((N / 2^o:Nat):Int)-warm)::a00 (2^o-1) ((N / 2^o:Nat):Int),())) (fun i r=>by
    have a:decide ((((((N / 2^o:Nat):Int)-warm)::a00 i ((N / 2^o:Nat):Int)).length:Int)<((2^o:Nat):Int))=true:=by
     grind
    have h:lim (((((N / 2^o:Nat):Int)-warm)::a00 i ((N / 2^o:Nat):Int)).length+1)=true:=a0Q (by grind);have j:a00 i ((N / 2^o:Nat):Int)++[((N / 2^o:Nat):Int)]=a00 (i+1) ((N / 2^o:Nat):Int):=by grind[a53]
    simp only[a5A,h1,decide_false,cF,d,a,cT,h,a06,a64,j])
   (by
    have a:decide ((((((N / 2^o:Nat):Int)-warm)::a00 (2^o-1) ((N / 2^o:Nat):Int)).length:Int)<((2^o:Nat):Int))=false:=by
     simp_all
    simp only[a5A,h1,decide_false,cF,d,a])
  simp_all;have c:decide (((N / 2^o:Nat):Int)<warm)=true:=decide_eq_true (Int.not_le.1 hw);simp_all[b2j];have k:(((N / 2^o*2^o:Nat):Int) != (N:Int))=true:=by grind
  simp only[k,cT,oB,b2j,hm,false_and,if_false]
@[reducible] def Prt:Type:=Int×((List Int)×Unit)
variable {p:Prt}
def kB(k:Int):Bool:=(decide (0≤k)&&decide (k≤25)) || (k==31)
def a4I(p:Prt)(n warm:Int):Bool:=!((a1E p.1 n warm).length==0)&&((a1E p.1 n warm).length==p.2.1.length&&p.2.1.all kB)
theorem b1g(g:short p.2.1):a7H (p,n,warm)=some (a4I p n warm):=by
 have:=a1s (f:=a3F) p.2.1 (fun i=>(p.2.1,(p.2.1.length:Int),(i:Int),())) kB (bt:=Sum.inl ()) (bf:=Sum.inr (false,()))
  (fun i h hp=>by
   simp[kB]at hp
   by_cases h1:p.2.1[i]<0
   omega
   by_cases h2:p.2.1[i] > 25
   have b:p.2.1[i]=31:=by omega
   have a:(p.2.1[i] != 31)=false:=by simp_all
   simp[a3F,a0B h,h,h1,h2,a,a0C (a18 h g)];simp[a3F,a0B h,h,h1,h2,a0C (a18 h g)])
  (fun i h hp=>by
   have hp:¬ (kB p.2.1[i]=true):=by simp_all
   simp only[kB,a98,bA,dT,beq_iff_eq]at hp
   grind[a3F,a0B])
  (by simp[a3F])
 simp at this;unfold a7H a4I;simp[a1N]
 by_cases h0:(a1E p.1 n warm).length=0
 simp_all
 ·have e:((((a1E p.1 n warm).length:Nat):Int)==0)=false:=by simp_all
  have k:((a1E p.1 n warm).length==0)=false:=by simp_all
  simp[e,k]
  by_cases h1:(a1E p.1 n warm).length=p.2.1.length
  all_goals grind
@[reducible] def Sub:Type:=Int×(Int×(Int×(Int×(Int×((List Int)×((List Int)×((List Stg)×((List Int)×(Prt×((List Int)×Unit))))))))))
variable {s:Sub}
structure SmallS (s:Sub):Prop where
 coefs:s.2.2.2.2.2.1.length≤40
 taps:s.2.2.2.2.2.2.1.length=3
 stages:s.2.2.2.2.2.2.2.1.length≤6
 warm:s.2.2.2.2.2.2.2.2.1.length≤5000
 rest:s.2.2.2.2.2.2.2.2.2.2.1.length≤5000
 ks:s.2.2.2.2.2.2.2.2.2.1.2.1.length≤300
theorem b1h(x y:List Int):eqT (.arr 3 (.int .i64)) x y=decide (x=y):=by
 show((a31 (fun(a b:Int)=>a==b) x y).all id&&x.length==y.length)=_
 induction x generalizing y with
 |nil=>cases y<;>simp
 |cons a x ih=>
  cases y with
  |nil=>simp
  |cons b y=>
   grind[List.zipWith_cons_cons]
theorem b0K{l:List Int}(h:short l):a2g l=some l:=a6R h
theorem b4V{l:List Stg}(h:short l):a1g l=some l:=by
 have g:lim (0+l.length)=true:=a0Q (by unfold short at h;omega);simp_all[a1g,x0e]
def a3n(k:Int)(s:Sub)(n:Int):Prop:=
 k=0∨k=1∨(k=2∧0≤s.2.2.1∧s.2.2.1≤4∧s.2.2.1≤n)∨(k=3∧a8f s.2.2.2.2.2.1 s.2.2.2.1=true∧(s.2.2.2.2.2.1.length:Int)≤n)∨
  (k=4∧a8f s.2.2.2.2.2.1 s.2.2.2.1=true∧(s.2.2.2.2.2.1.length:Int)≤n∧a9w s.2.2.2.2.1 s.2.2.2.2.2.2.1=true)∨
  (k=5∧0<s.2.2.2.2.2.2.2.1.length∧a7P s.2.2.2.2.2.2.2.1=true)
open Classical in
def b1i (k:Int) (s:Sub) (n:Int):Bool:=decide (a3n k s n)
theorem b2k{s:Sub}(h:SmallS s)(k n:Int):a6I (k,s,n)=some (b1i k s n):=by
 have a:short s.2.2.2.2.2.1:=by have:=h.coefs;unfold short;omega
 have b:short s.2.2.2.2.2.2.2.1:=by have:=h.stages;unfold short;omega
 unfold a6I b1i a3n
 by_cases k0:k=0
 simp_all
 by_cases k1:k=1
 simp_all;have g:(k==0)=false:=by grind
 have f:(k==1)=false:=by grind
 simp only[g,f,cF,oB]
 by_cases k2:k=2
 subst k2
 grind
 by_cases k3:k=3
 subst k3
 grind[a7Z]
 by_cases k4:k=4
 subst k4;cases hl:a8f s.2.2.2.2.2.1 s.2.2.2.1<;>by_cases h2:(s.2.2.2.2.2.1.length:Int)≤n<;>simp[a7Z a,b1T h.taps,hl,h2]
 by_cases k5:k=5
 ·subst k5
  by_cases h1:0<s.2.2.2.2.2.2.2.1.length
  all_goals simp_all[b1b]
 grind
def a1W(s:Sub)(n:Int):Int:=if s.1=0 then 1 else if s.1=1 then n else if s.1=2 then s.2.2.1 else if s.1=3∨s.1=4 then(s.2.2.2.2.2.1.length:Int)else 0
theorem a9J(s:Sub)(n:Int):a3O (s,n)=some (a1W s n):=by
 grind[a3O,a1W]
def b2l(s:Sub):Prop:=
 (s.1≠2→s.2.2.1=0)∧(s.1≠3∧s.1≠4→s.2.2.2.1=0)∧(s.1≠4→s.2.2.2.2.1=0)∧(s.1≠4→s.2.2.2.2.2.2.1=[0,0,0])∧(s.1≠3∧s.1≠4→s.2.2.2.2.2.1=[])∧(s.1≠5→s.2.2.2.2.2.2.2.1=[])
open Classical in
def b2m (s:Sub):Bool:=decide (b2l s)
theorem a8W{c x:Bool}:(bif c then some x else some false)=some (c&&x):=by grind
theorem c9d{α:Type}(l:List α):(((l.length:Nat):Int)==0)=decide (l=[]):=by
 cases l with
 |nil=>rfl
 |cons a l=>rfl
theorem b7M(x:Int):(x==0)=decide (x=0):=rfl
theorem c0W{s:Sub}(h:SmallS s):a9i s=some (b2m s):=by
 have e:short s.2.2.2.2.2.1:=by have:=h.coefs;unfold short;omega
 have g:short s.2.2.2.2.2.2.2.1:=by have:=h.stages;unfold short;omega
 obtain⟨k,w,o,sh,lag,c,t,st,j,p,r,u⟩:=s;simp only at e g;unfold a9i a5c b2m b2l;have i:(a00 3 (0:Int))=[0,0,0]:=rfl
 by_cases k2:k=2
 simp_all[b1h,a8W,b7M]
 by_cases k4:k=4
 simp_all[b1h,a8W,b7M,b0K]
 by_cases k3:k=3
 simp_all[b1h,a8W,b7M,b0K]
 by_cases k5:k=5
 simp_all[b1h,a8W,b7M,b4V];have f:(k==2)=false:=by grind
 have a:(k==3)=false:=by grind
 have b:(k==4)=false:=by grind
 have d:(k==5)=false:=by grind
 simp[f,a,b,d,k2,k3,k4,k5,b1h,i,a8W,c9d,b7M]
theorem a5w(k:Int):a5a k=some (decide (k≠0∧k≠1)):=by
 unfold a5a
 by_cases h0:k=0
 simp_all
 ·by_cases h1:k=1
  all_goals grind
def a1m(s:Sub)(n:Int):Prop:=
 1≤n∧n≤4096∧a3n s.1 s n∧b2l s∧0≤s.2.1∧s.2.1≤30∧(s.1=0→s.2.1=0)∧(s.2.2.2.2.2.2.2.2.1.length:Int)=a1W s n∧s.2.2.2.2.2.2.2.2.1.all a0A=true∧s.2.2.2.2.2.2.2.2.2.2.1.all a0A=true∧
  (s.1=0∨s.1=1→s.2.2.2.2.2.2.2.2.2.2.1=[]∧s.2.2.2.2.2.2.2.2.2.1.1=0∧s.2.2.2.2.2.2.2.2.2.1.2.1=[])∧
  (s.1≠0∧s.1≠1→(s.2.2.2.2.2.2.2.2.2.2.1.length:Int)=n-a1W s n∧a4I s.2.2.2.2.2.2.2.2.2.1 n (a1W s n)=true)
theorem c2G(h:SmallS s)(a:1≤n)(b:n≤4096)(f:a3n s.1 s n):0≤a1W s n∧a1W s n≤4096:=by
 have c:=h.coefs;unfold a1W;rcases f with k|k|⟨k,g⟩|⟨k,g⟩|⟨k,g⟩|⟨k,g⟩<;>simp[k]<;>omega
open Classical in
theorem c5o {s:Sub} (h:SmallS s) (n:Int):a8q (s,n)=some (decide (a1m s n)):=by
 have hw:short s.2.2.2.2.2.2.2.2.1:=by have:=h.warm;unfold short;omega
 have hr:short s.2.2.2.2.2.2.2.2.2.2.1:=by have:=h.rest;unfold short;omega
 have hk:short s.2.2.2.2.2.2.2.2.2.1.2.1:=by have:=h.ks;unfold short;omega
 unfold a8q
 by_cases h1:1≤n
 rotate_left
 ·have e1:decide (n<1)=true:=by simp_all
  have:¬ a1m s n:=fun hp=>h1 hp.1
  simp_all
 have e1:decide (n<1)=false:=by simp_all
 by_cases h2:n≤4096
 rotate_left
 ·have e2:decide (n > 4096)=true:=by simp_all
  have:¬ a1m s n:=fun hp=>h2 hp.2.1
  simp_all
 have e2:decide (n > 4096)=false:=by simp_all
 by_cases h3:a3n s.1 s n
 rotate_left
 ·have e3:b1i s.1 s n=false:=by simp[b1i,h3]
  have:¬ a1m s n:=fun hp=>h3 hp.2.2.1
  simp_all[b2k]
 have e3:b1i s.1 s n=true:=by simp[b1i,h3]
 by_cases h4:b2l s
 rotate_left
 ·have e4:b2m s=false:=by simp[b2m,h4]
  have:¬ a1m s n:=fun hp=>h4 hp.2.2.2.1
  simp_all[b2k,c0W]
 have e4:b2m s=true:=by simp[b2m,h4]
 simp only[e1,e2,b2k h,e3,c0W h,e4,cF,bT,oB]
 by_cases h5:0≤s.2.1
 rotate_left
 ·have e5:decide (s.2.1<0)=true:=by simp_all
  have:¬ a1m s n:=fun hp=>h5 hp.2.2.2.2.1
  simp_all
 have e5:decide (s.2.1<0)=false:=by simp_all
 by_cases h6:s.2.1≤30
 rotate_left
 ·have e6:decide (s.2.1 > 30)=true:=by simp_all
  have:¬ a1m s n:=fun hp=>h6 hp.2.2.2.2.2.1
  simp_all
 have e6:decide (s.2.1 > 30)=false:=by simp_all
 simp only[e5,e6,cF]
 by_cases h7:s.1=0→s.2.1=0
 rotate_left
 ·have h7a:s.1=0:=Classical.byContradiction fun hc=>h7 fun e=>absurd e hc
  have h7b:(s.2.1 != 0)=true:=by
   simp_all
  have e7:(s.1==0)=true:=by simp_all
  have:¬ a1m s n:=fun hp=>h7 hp.2.2.2.2.2.2.1
  grind
 have e7:(bif s.1==0 then some (n,(s.2.1 != 0,(s,())))else some (n,(false,(s,()))))=some (n,(false,(s,()))):=by
  grind
 simp only[e7,oB,cF,a9J]
 by_cases h8:(s.2.2.2.2.2.2.2.2.1.length:Int)=a1W s n
 rotate_left
 ·have e8:(((s.2.2.2.2.2.2.2.2.1.length:Nat):Int) != a1W s n)=true:=by simp_all
  have:¬ a1m s n:=fun hp=>h8 hp.2.2.2.2.2.2.2.1
  grind
 have e8:(((s.2.2.2.2.2.2.2.2.1.length:Nat):Int) != a1W s n)=false:=by simp_all
 simp only[e8,cF,a3L hw,a3L hr,oB]
 cases h9:s.2.2.2.2.2.2.2.2.1.all a0A with
 |false=>
  have:¬ a1m s n:=fun hp=>by rw[hp.2.2.2.2.2.2.2.2.1]at h9;grind
  simp_all
 |true=>
  cases h10:s.2.2.2.2.2.2.2.2.2.2.1.all a0A with
  |false=>
   have:¬ a1m s n:=fun hp=>by rw[hp.2.2.2.2.2.2.2.2.2.1]at h10;grind
   simp_all
  |true=>
   simp only[bT,cF,oB,a5w]
   have hwr:=c2G h h1 h2 h3
   by_cases k01:s.1≠0∧s.1≠1
   ·have e11:wrap .i64 (n-a1W s n)=n-a1W s n:=a0D (by omega)
    simp[k01,e11,b1g hk]
    by_cases h11:(s.2.2.2.2.2.2.2.2.2.2.1.length:Int)=n-a1W s n
    ·have e12:(((s.2.2.2.2.2.2.2.2.2.2.1.length:Nat):Int)==n-a1W s n)=true:=by simp_all
     simp only[e12,cT]
     congr 1
     rw[a99,dT]
     constructor
     ·intro hp
      exact⟨h1,h2,h3,h4,h5,h6,h7,h8,h9,h10,fun hc=>absurd hc (by omega),fun _=>⟨h11,hp⟩⟩
     ·intro hp;exact(hp.2.2.2.2.2.2.2.2.2.2.2 k01).2
    ·have e12:(((s.2.2.2.2.2.2.2.2.2.2.1.length:Nat):Int)==n-a1W s n)=false:=by simp_all
     have:¬ a1m s n:=fun hp=>h11 (hp.2.2.2.2.2.2.2.2.2.2.2 k01).1
     grind
   ·have k01':s.1=0∨s.1=1:=by omega
    simp[k01,c9d]
    simp only[b7M,a8W]
    congr 1
    rw[a99,dT]
    simp
    constructor
    ·rintro⟨g1,g2,g3⟩
     exact⟨h1,h2,h3,h4,h5,h6,h7,h8,h9,h10,fun _=>⟨g1,g2,g3⟩,fun hc=>absurd hc k01⟩
    ·intro hp;exact hp.2.2.2.2.2.2.2.2.2.2.1 k01'
theorem b6r{α:Type}[DecidableEq α](q:α→α→Bool)(g:∀a b,q a b=decide (a=b)):∀(x y:List α),x.length=y.length→((x.zip y).all fun p=>q p.1 p.2)=decide (x=y)
 | [],[],_=>by simp
 |a::x,b::y,h=>by
  have f:=b6r q g x y (by simp_all);simp_all
theorem c2H{x y:List Int}(h:short x):a6d (x,y)=some (decide (x=y)):=by
 unfold a6d
 by_cases hl:x.length=y.length
 have e:(((x.length:Nat):Int) != ((y.length:Nat):Int))=false:=by simp_all
 have l:(x.zip y).length=x.length:=by simp_all
 have:=a1s (f:=a3W) (x.zip y) (fun i=>(x,y,(i:Int),())) (fun p=>p.1==p.2) (bt:=Sum.inl ()) (bf:=Sum.inr (false,()))
  (fun i d hp=>by
   have k:i<x.length:=by omega
   have c:i<y.length:=by omega
   rw[a90]at hp;have hp:x[i]=y[i]:=by simp_all
   have g:(x[i] != y[i])=false:=by simp_all
   simp only[a3W,dlt k,cT,a0B k,a0B c,oB,g,cF,a0C (a18 k h)])
  (fun i d hp=>by
   have k:i<x.length:=by omega
   have c:i<y.length:=by omega
   rw[a90]at hp;have g:(x[i] != y[i])=true:=by simp_all
   simp only[a3W,dlt k,cT,a0B k,a0B c,oB,g])
  (by simp_all[a3W])
 simp at this;simp only[e,cF,this,b6r (fun(a b:Int)=>a==b) (fun _ _=>rfl) x y hl]
 grind
 have e:(((x.length:Nat):Int) != ((y.length:Nat):Int))=true:=by grind
 have:¬ x=y:=fun j=>hl (by grind)
 grind
theorem c5p(h:a3n k s n):k=0∨k=1∨k=2∨k=3∨k=4∨k=5:=by
 unfold a3n at h;omega
def b5B(warm rest:List Int)(o:Int):Option (List Int):=bif warm.all a0A&&rest.all a0A then a3x (a5o o.toNat) rest warm else none
def backP(s:Sub):Option (List Int):=
 if s.1=1 then some s.2.2.2.2.2.2.2.2.1
 else if s.1=2 then b5B s.2.2.2.2.2.2.2.2.1 s.2.2.2.2.2.2.2.2.2.2.1 s.2.2.1
 else if s.1=3 then b1c s.2.2.2.2.2.2.2.2.1 s.2.2.2.2.2.2.2.2.2.2.1 s.2.2.2.2.2.1 s.2.2.2.1
 else if s.1=4 then(b1c s.2.2.2.2.2.2.2.2.1 s.2.2.2.2.2.2.2.2.2.2.1 s.2.2.2.2.2.1 s.2.2.2.1).bind fun l=>b1z l s.2.2.2.2.1 s.2.2.2.2.2.2.1
 else a9I s.2.2.2.2.2.2.2.2.2.2.1 s.2.2.2.2.2.2.2.1
def c0X(s:Sub)(n:Int):Option (List Int):=
 if s.1=0 then some (a00 n.toNat (s.2.2.2.2.2.2.2.2.1.getD 0 0))else(backP s).bind (upO s.2.1)
theorem b1V{w r c:List Int}{s:Int}{l}(h:b1c w r c s=some l):l.length=w.length+r.length:=by
 unfold b1c at h;cases hc:(w.all a0A&&r.all a0A)with
 |false=>simp_all
 |true=>
  rw[hc]at h;exact(b0H _ r w l (a74.1 hc).1 h).2
theorem c2I{w r:List Int}{o:Int}{l}(h:b5B w r o=some l):l.length=w.length+r.length:=by
 unfold b5B at h;cases hc:(w.all a0A&&r.all a0A)with
 |false=>simp_all
 |true=>
  rw[hc]at h;exact(b0H _ r w l (a74.1 hc).1 h).2
theorem c0Y{l}(h:b1z r lag t=some l):l.length=r.length:=by
 unfold b1z at h;cases hc:r.all a0A with
 |false=>simp_all
 |true=>
  rw[hc]at h
  have:=(b0H _ r [] l rfl h).2
  simp_all
theorem b8f:∀(st:List Stg)(r:List Int){l},lO st r=some l→l.length=r.length
 | [],r,l,h=>by simp_all[lO]
 |s::st,r,l,h=>by
  simp only[lO]at h
  split at h
  rename_i f g;rw[b8f st f h,b2P _ _ _ g];simp;cases h
theorem b9m{r:List Int}{st:List Stg}{l}(h:a9I r st=some l):l.length=r.length:=by
 grind[a9I,b8f]
theorem c0Z(h:SmallS s){l}(g:backP s=some l):l.length<100000:=by
 have b:=h.warm;have a:=h.rest;unfold backP at g
 split at g
 grind
 split at g
 grind[c2I]
 split at g
 grind[b1V]
 split at g
 obtain⟨l1,f,k⟩:=a44.1 g;rw[c0Y k,b1V f];omega
 grind[b9m]
theorem c5q(c:1≤n)(d:n≤4096)(e:s.2.2.2.2.2.2.2.2.1.length=1):
  y0s a5T (n,(0:Int),([]:List Int),s,())=some (a00 n.toNat (s.2.2.2.2.2.2.2.2.1.getD 0 0),()):=by
 obtain⟨N,rfl⟩:=a01 (show 0≤n by omega);have k:m0k s.2.2.2.2.2.2.2.2.1 (0:Int)=some (s.2.2.2.2.2.2.2.2.1.getD 0 0):=c0P (by omega) (by omega)
 have:=a2u (f:=a5T) (fun i=>((N:Int),(i:Int),a00 i (s.2.2.2.2.2.2.2.2.1.getD 0 0),s,())) N
  (b:=(a00 N (s.2.2.2.2.2.2.2.2.1.getD 0 0),())) (fun i a=>by
   have h:lim ((a00 i (s.2.2.2.2.2.2.2.2.1.getD 0 0)).length+1)=true:=a0Q (by grind);have g:a00 i (s.2.2.2.2.2.2.2.2.1.getD 0 0)++[s.2.2.2.2.2.2.2.2.1.getD 0 0]=a00 (i+1) (s.2.2.2.2.2.2.2.2.1.getD 0 0):=by grind[a53]
   simp only[a5T,dlt a,cT,k,oB,h,a06,g,a0C (show i<1000000 by omega)])
  (by simp[a5T])
 simp_all
theorem c2J(h:SmallS s)(hp:a1m s n):a9X (s,n)=some (a4k (c0X s n)):=by
 have a:=fun l (d:backP s=some l)=>c0Z h d;obtain⟨z,A,C,-,x,v,-,g,K,I,-⟩:=hp;have F:=h.rest;have G:=h.warm;have H:=h.taps;have D:=c5q (s:=s) z A;obtain⟨k,w,o,sh,lag,c,t,st,f,p,r,u⟩:=s;simp only at *;have L:∀l,l.length<100000→a7J (l,w)=some (a4k (upO w l)):=fun l d=>c0R x v d;unfold a9X c0X;rcases C with b|b|⟨b,j,m,y⟩|⟨b,j,m⟩|⟨b,j,m,y⟩|⟨b,j,m⟩
 grind[a1W,a4k]
 simp_all[backP]
 ·subst b;obtain⟨O,rfl⟩:=a01 j;have m:(O:Int)≤4:=m;simp only[a1W]at g;have q:f.length=O:=by grind
  have i:=b9j (warm:=f) (rest:=r) (o:=O) (by omega) q (by omega);simp only[backP]at a⊢;simp[i];have e:(bif f.all a0A&&r.all a0A then a3x (a5o O) r f else none)=b5B f r (O:Int):=rfl;rw[e];cases d:b5B f r (O:Int)with
  |none=>rfl
  |some l=>simp_all[a4k]
 ·subst b;simp only[a1W]at g;have q:f.length=c.length:=by grind
  have i:=b2i (rest:=r) j q (by omega);simp only[backP]at a⊢;simp[i];cases d:b1c f r c sh with
  |none=>rfl
  |some l=>simp_all[a4k]
 ·subst b;simp only[a1W]at g;have q:f.length=c.length:=by grind
  have i:=b2i (rest:=r) j q (by omega);simp only[backP]at a⊢;simp[i];cases d:b1c f r c sh with
  |none=>rfl
  |some l=>
   have E:=b1V d;have B:=c0Q (rest:=l) y H (by omega);simp[a4k,B]
   grind[a4k]
 ·subst b;have i:=b9l (rest:=r) m (by omega);simp only[backP]at a⊢;simp[i];cases d:a9I r st with
  |none=>rfl
  |some l=>simp_all[a4k]
open Classical in
def a1U (s:Sub) (n:Int):Option (List Int):=if a1m s n then c0X s n else none
theorem b6s(h:SmallS s)(n:Int):a9E (s,n)=some (match a1U s n with|some r=>(r,0)|none=>([],1)):=by
 unfold a9E a1U;simp only[c5o h,oB]
 by_cases hp:a1m s n
 simp[hp,c2J h hp]
 grind[a4k]
 simp_all
theorem b6t(h:SmallS s)(n:Int):a8i (s,n)=some (a1U s n).isSome:=by
 unfold a8i;simp only[b6s h,oB];cases a1U s n<;>rfl
@[reducible] def Wr:Type:=(List Int)×(Int×Unit)
def b7N(w:Wr)(b:Int):Wr:=
 let bs:=if w.2.1%8=0 then w.1++[0]else w.1
 (bs.set (w.2.1 / 8).toNat (bits .u8 .or (bs.getD (w.2.1 / 8).toNat 0) (A0n .u8 b (7-w.2.1%8))),w.2.1+1,())
def wL(L:List Int):Wr:=L.foldl b7N ([],0,())
theorem b7O(L:List Int)(b:Int):wL (L++[b])=b7N (wL L) b:=by simp[wL]
theorem b6u:∀(n:Nat)(L:List Int),L.length=n→(wL L).2.1=L.length∧(wL L).1.length=(L.length+7) / 8
 |0,L,h=>by
  rw[a45.1 h];exact⟨rfl,rfl⟩
 |n+1,L,h=>by
  obtain⟨g,b,rfl⟩:∃g b,L=g++[b]:=by
   rcases a51 L with rfl|⟨g,b,e⟩
   all_goals simp_all
  obtain⟨f,k⟩:=b6u n g (by simp_all);rw[b7O];simp only[b7N,List.length_set,lN,a72,f]
  grind
theorem a4O(L:List Int):(wL L).2.1=L.length∧(wL L).1.length=(L.length+7) / 8:=b6u _ L rfl
theorem b6v{L:List Int}(l:L.length<1000000000)(b:Int):a1T (wL L,b)=some (wL (L++[b])):=by
 obtain⟨g,k⟩:=a4O L;have p:a26 ((L.length:Nat):Int) 8=((L.length:Nat):Int)%8:=a43 (by omega);have m:a54 ((L.length:Nat):Int) 8=((L.length:Nat):Int) / 8:=a60 (by omega);have c:wrap .i64 (((L.length:Nat):Int) / 8)=((L.length:Nat):Int) / 8:=a0D (by omega);have d:wrap .i64 (7-((L.length:Nat):Int)%8)=7-((L.length:Nat):Int)%8:=a0D (by omega);have e:wrap .i64 (((L.length:Nat):Int)+1)=((L.length:Nat):Int)+1:=a0D (by omega);have i:decide ((0:Int)≤((L.length:Nat):Int) / 8)=true:=by rfl
 have j:decide (7-((L.length:Nat):Int)%8<0)=false:=by grind
 rw[b7O];generalize wL L=wr at g k⊢;obtain⟨f,n,u⟩:=wr;have g:n=((L.length:Nat):Int):=g;have k:f.length=(L.length+7) / 8:=k;subst g;unfold a1T b7N
 by_cases h:((L.length:Nat):Int)%8=0
 have hb:(((L.length:Nat):Int)%8==0)=true:=by grind
 have o:lim (f.length+1)=true:=a1e (by omega);have a:decide (((L.length:Nat):Int) / 8<(((f++[0]).length:Nat):Int))=true:=by grind
 simp_all
 grind
def a5J(v:Int)(i:Nat):Int:=wrap .u8 (bits .u64 .and (A0o .u64 v (i:Int)) 1)
def pb(v:Int):Nat→List Int
 |0=>[]
 |i+1=>a5J v i::pb v i
theorem b1C(v:Int):∀n,(pb v n).length=n
 |0=>rfl
 |n+1=>by simp[pb,b1C v n]
def a0L(v:Int)(n:Nat)(L:List Int):List Int:=bif A0o .u64 v (n:Int) != 0 then L else L++pb v n
theorem a0R(v:Int)(n:Nat)(L:List Int):L.length≤(a0L v n L).length∧(a0L v n L).length≤L.length+n:=by
 grind[a0L,b1C]
def a6S(v:Int)(n:Nat):Int:=bif A0o .u64 v (n:Int) != 0 then 1 else 0
theorem c1a{v:Int}:∀(n:Nat)(L:List Int),L.length+n<1000000000→y0s a3v (v,(n:Int)-1,wL L,())=some (wL (L++pb v n),())
 |0,L,_=>by simp_all[a0H,a3v,pb]
 |n+1,L,h=>by
  have e:((n+1:Nat):Int)-1=(n:Int):=by omega
  have g:wrap .i64 ((n:Int)-1)=(n:Int)-1:=a0D (by omega);have f:decide ((n:Int)≥0)=true:=by simp
  have k:decide ((n:Int)<0)=false:=by simp
  rw[e,a0I (s':=(v,(n:Int)-1,wL (L++[a5J v n]),())) (by
   simp only[a3v,f,k,cT,cF,show wrap .u8 (bits .u64 .and (A0o .u64 v (n:Int)) 1)=a5J v n from rfl,b6v (show L.length<1000000000 by omega),oB,g])]
  rw[c1a n (L++[a5J v n]) (by simp;omega),pb]
  simp
theorem a2M{v:Int}{n:Nat}(a:n≤63)(k:L.length<999999000):a0F (wL L,v,(n:Int))=some (a6S v n,wL (a0L v n L)):=by
 unfold a0F a6S a0L;have g:decide ((n:Int)<0)=false:=by simp
 have f:decide ((n:Int) > 64)=false:=by grind
 have h:wrap .i64 ((n:Int)-1)=(n:Int)-1:=a0D (by omega);simp[g,f];cases (A0o .u64 v (n:Int) != 0)with
 |true=>rfl
 |false=>simp only[cF,h,c1a n L (by omega),oB]
def unL(n:Nat)(L:List Int):List Int:=L++a00 n 0++[1]
theorem c1b{n:Nat}(d:n≤4096)(c:L.length<999990000):a2a (wL L,(n:Int))=some (0,wL (unL n L)):=by
 unfold a2a unL;have g:decide ((n:Int)<0)=false:=by simp
 have k:decide ((n:Int) > 4096)=false:=by grind
 simp only[g,k,cF,oB]
 have:=a2u (f:=a2V) (fun i=>((n:Int),(i:Int),wL (L++a00 i 0),())) n (b:=(wL (L++a00 n 0),())) (fun i a=>by
   have h:L++a00 i (0:Int)++[0]=L++a00 (i+1) 0:=by simp_all[a53]
   simp only[a2V,dlt a,cT,b6v (show(L++a00 i (0:Int)).length<1000000000 by grind),oB,h,a0C (show i<1000000 by omega)])
  (by simp[a2V])
 grind[b6v]
theorem a8F(n:Nat)(L:List Int):(unL n L).length=L.length+n+1:=by simp[unL];rfl
def a0S(x:Int)(n:Nat):Int:=bits .u64 .and (wrap .u64 x) (wrap .u64 ((A0n .u64 1 (n:Int))-1))
def a1y(n:Nat)(l:List Int)(L:List Int):List Int:=l.foldl (fun L x=>a0L (a0S x n) n L) L
theorem a5r(n:Nat):∀(l L:List Int),L.length≤(a1y n l L).length∧(a1y n l L).length≤L.length+n*l.length
 | [],L=>by simp[a1y]
 |x::l,L=>by
  have h:=a0R (a0S x n) n L;have g:=a5r n l (a0L (a0S x n) n L);have e:a1y n (x::l) L=a1y n l (a0L (a0S x n) n L):=rfl;rw[e,lC,a91,a92];omega
theorem b1j{n:Nat}(f:n≤63)(g:L.length<999999000):a2t (wL L,x,(n:Int))=some (wL (a0L (a0S x n) n L)):=by
 unfold a2t;have h:decide ((n:Int)<0)=false:=by simp
 simp only[h,cF,show bits .u64 .and (wrap .u64 x) (wrap .u64 ((A0n .u64 1 (n:Int))-1))=a0S x n from rfl,a2M f g,oB]
def a1u(x w:Int):Bool:=decide (1≤w)&&(decide (w≤31)&&(decide (A0n .i64 (-1) (w-1)≤x)&&decide (x≤wrap .i64 (A0n .i64 1 (w-1)-1))))
theorem a5s(a:w≤32):a1K (x,(w:Int))=some (a1u x w):=by
 unfold a1K a1u b0U a9N
 by_cases h1:1≤(w:Int)
 by_cases h2:(w:Int)≤31
 have h:decide ((w:Int)<1)=false:=by simp_all
 have g:decide ((w:Int) > 31)=false:=by simp_all
 have e:wrap .i64 ((w:Int)-1)=(w:Int)-1:=a0D (by omega);have f:decide ((w:Int)-1<0)=false:=by simp_all
 have k:decide ((w:Int)≥1)=true:=by simp_all
 simp[h1,h2,h,g,f,e]
 grind
 grind
 grind
theorem c2K(b:w≤32):a9H (x,(w:Int))=some (a1u x w):=by
 unfold a9H a1u b5w b4e
 by_cases h1:1≤(w:Int)
 by_cases h2:(w:Int)≤31
 have f:decide ((w:Int)<1)=false:=by simp_all
 have k:decide ((w:Int) > 31)=false:=by simp_all
 have e:wrap .i64 ((w:Int)-1)=(w:Int)-1:=a0D (by omega);have g:wrap .u64 ((w:Int)-1)=(w:Int)-1:=a0U (by omega);have a:decide ((w:Int)-1<0)=false:=by simp_all
 have h:decide ((w:Int)≥1)=true:=by simp_all
 simp only[h,h1,h2,f,k,a,e,g,decide_true,cT,cF,oB,a39]
 grind
 grind
 grind
def a1F(x:Int):Nat→Nat→Nat
 |0,w=>w
 |k+1,w=>bif (x != 0)&&!a1u x w then a1F x k (w+1)else w
theorem b5C(x:Int):∀(k w:Nat),a1F x k w≤w+k
 |0,w=>a27 _
 |k+1,w=>by
  simp[a1F];cases (x != 0)&&!a1u x w with
  |true=>have:=b5C x k (w+1);grind
  |false=>simp
def a0G(l:List Int):Nat:=l.foldl (fun w x=>a1F x (32-w) w) 0
theorem b3v:∀(l:List Int)(w:Nat),w≤32→l.foldl (fun w x=>a1F x (32-w) w) w≤32
 | [],w,h=>h
 |x::l,w,h=>b3v l _ (show a1F x (32-w) w≤32 by grind[b5C])
theorem a5x(l:List Int):a0G l≤32:=b3v l 0 (by omega)
theorem b8g{x:Int}{l:List Int}{n i:Int}:∀(k w:Nat),w+k=32→y0s a2w ((w:Int),x,l,n,i,())=some (((a1F x k w:Nat):Int),l,n,i,())
 |0,w,h=>by
  obtain rfl:w=32:=by omega
  simp_all[a0H,a2w,a1F]
 |k+1,w,h=>by
  have g:decide ((w:Int)<32)=true:=by grind
  simp[a1F];cases hx:(x != 0)with
  |false=>simp_all[a0H,a2w]
  |true=>
   cases hf:a1u x w with
   |true=>exact a0H (by simp only[a2w,hx,g,a5s (show w≤32 by omega),hf,oB,cT,cF,bT,Bool.and_false])
   |false=>
    rw[a0I (s':=(((w+1:Nat):Int),x,l,n,i,())) (by simp only[a2w,hx,g,a5s (show w≤32 by omega),hf,oB,cT,a36,a0C (show w<1000000 by omega)])];exact b8g k (w+1) (by omega)
theorem a1X(k:short l):a1l l=some ((a0G l:Nat):Int):=by
 have k:l.length<1000000:=k
 have:=a1A (f:=a4U) l (fun i (w:Nat)=>((w:Int),l,(l.length:Int),(i:Int),())) (fun w x=>(.inl (a1F x (32-w) w):Nat ⊕ (Int×Unit))) (fun _ w=>w≤32) (fun w=>((w:Int),()))
  (fun i h w d=>⟨fun c g=>by
   simp at g;subst g;refine⟨?_,by grind[b5C]⟩;simp only[a4U,dlt h,cT,a0B h,oB,b8g (32-w) w (by omega),a0C (show i<1000000 by omega)],fun b hb=>(by grind)⟩)
  (fun w _=>by simp[a4U]) (a:=0) (by omega)
 simp at this;unfold a1l;rw[this];have key:∀(l:List Int)(w:Nat),a2v (fun w x=>(.inl (a1F x (32-w) w):Nat ⊕ (Int×Unit))) l w=.inl (l.foldl (fun w x=>a1F x (32-w) w) w):=by
  intro l
  induction l with
  |nil=>intro w;rfl
  |cons x l ih=>simp_all[a2v]
 rw[key];rfl
theorem a8G(x:Int):a6o x=some (a0A x):=by
 grind[a6o,a0A]
def a0N(x:Int):Nat:=if 0≤x then(2*x).toNat else(-2*x-1).toNat
theorem a8g(h:a0A x=true):a0N x<2147483648:=by
 grind[a1B,a0N]
theorem a8H(h:a0A x=true):a7M x=some ((a0N x:Nat):Int):=by
 have f:=a1B.1 h;unfold a7M a0N;simp only[a8G,h,oB,bT,cF]
 by_cases h0:0≤x
 have g:decide (x≥0)=true:=by simp_all
 simp only[g,cT,if_pos h0]
 grind[a0D,a0U]
 have g:decide (x≥0)=false:=by simp_all
 simp only[g,cF,if_neg h0]
 grind[a0D,a0U]
theorem a5y{N o:Nat}(h:o≤64):A0o .u64 (N:Int) (o:Int)=((N / 2^o:Nat):Int):=c0V h
theorem a9K(h:o≤64)(g:N*2^o<9223372036854775808):A0n .u64 (N:Int) (o:Int)=((N*2^o:Nat):Int):=by
 unfold A0n;show wrap .u64 ((N:Int)*2^(min (o:Int).toNat 64))=_
 grind[a0U]
theorem c1c{y k:Nat}(c:y<18446744073709551616)(f:k≤62):bits .u64 .and (y:Int) (wrap .u64 (A0n .u64 1 (k:Int)-1))=((y%2^k:Nat):Int):=by
 have hp:2^k≤2^62:=a08 (by simp) f;have a:1≤2^k:=a79;have b:(2:Nat)^62=4611686018427387904:=by rfl
 have h:A0n .u64 1 (k:Int)=((2^k:Nat):Int):=by have:=a9K (N:=1) (o:=k) (by omega) (by omega);simp_all
 have g:wrap .u64 (((2^k:Nat):Int)-1)=((2^k-1:Nat):Int):=by grind[a0U]
 rw[h,g];show wrap .u64 (((a04 64 (y:Int)) &&& (a04 64 ((2^k-1:Nat):Int))).toNat:Int)=_;rw[a24,a24,a93,a29,a29,a23 c,a23 (by omega),Nat.and_two_pow_sub_one_eq_mod]
 have:y%2^k<2^k:=a41 _ (by omega)
 exact a0U (by omega)
theorem b1k{q:Nat}(h:q<2147483648):wrap .i64 (q:Int)=(q:Int):=a0D (by omega)
def a5K(k:Nat)(x:Int)(L:List Int):List Int:=
 if a0N x / 2^k<32 then a0L ((a0N x%2^k:Nat):Int) k (unL (a0N x / 2^k) L)else a0L ((a0N x:Nat):Int) 32 (unL 32 L)
def a3X(k:Nat)(l:List Int)(L:List Int):List Int:=l.foldl (fun L x=>a5K k x L) L
theorem b4h{k:Nat}(h:k≤25)(x:Int)(L:List Int):L.length≤(a5K k x L).length∧(a5K k x L).length≤L.length+100:=by
 grind[a5K,a0R,a8F]
theorem b3w{k:Nat}(h:k≤25):∀(l L:List Int),L.length≤(a3X k l L).length∧(a3X k l L).length≤L.length+100*l.length
 | [],L=>by simp[a3X]
 |x::l,L=>by
  have g:=b4h h x L;have f:=b3w h l (a5K k x L);have e:a3X k (x::l) L=a3X k l (a5K k x L):=rfl
  grind
theorem a7D{k:Nat}(h:k≤25):a1J (k:Int)=some true:=by
 unfold a1J
 grind
theorem c2L{k:Nat}(x:k≤25)(D:l.length<10000)(s:l.all a0A=true)(C:L.length<900000000):b0C (wL L,(k:Int),l)=some (0,wL (a3X k l L)):=by
 have A:=a1s (f:=a7X) l (fun i=>((k:Int),l,l,(l.length:Int),(i:Int),wL L,())) (fun _=>true) (bt:=Sum.inl ((k:Int),l,wL L,())) (bf:=Sum.inl ((k:Int),l,wL L,()))
  (fun i h _=>by
   have:=lA.1 s _ (a05 h)
   simp only[a7X,dlt h,cT,a0B h,oB,a8G,this,bT,cF,a0C (show i<1000000 by omega)])
  (fun i h hp=>by simp_all) (by simp[a7X])
 have key:∀(j i:Nat)(g:List Int),i+j=l.length→g.length+100*j<999990000→y0s a6b ((k:Int),l,(l.length:Int),(i:Int),wL g,())=some (wL (a3X k (l.drop i) g),()):=by
  intro j
  induction j with
  |zero=>
   intro i g w _;obtain rfl:i=l.length:=by omega
   simp_all[a0H,a6b,a3X]
  |succ j ih=>
   intro i g w hb;have a:i<l.length:=by omega
   have c:=lA.1 s _ (a05 a);have z:=a8g c;have y:=b4h x l[i] g;have e:decide ((k:Int)<0)=false:=by simp
   have p:A0o .u64 ((a0N l[i]:Nat):Int) (k:Int)=((a0N l[i] / 2^k:Nat):Int):=a5y (by omega);have o:=a32 (a0N l[i]) (2^k);have q:=a68 (a0N l[i]) (2^k);have d:A0n .u64 ((a0N l[i] / 2^k:Nat):Int) (k:Int)=((a0N l[i] / 2^k*2^k:Nat):Int):=a9K (by omega) (by grind);have t:wrap .u64 (((a0N l[i]:Nat):Int)-((a0N l[i] / 2^k*2^k:Nat):Int))=((a0N l[i]%2^k:Nat):Int):=by
    rw[a67 (a0N l[i] / 2^k)]
    grind[a0U]
   have u:wrap .i64 ((a0N l[i] / 2^k:Nat):Int)=((a0N l[i] / 2^k:Nat):Int):=b1k (a38 o z);rw[a02 a,a0I (s':=((k:Int),l,(l.length:Int),((i+1:Nat):Int),wL (a5K k l[i] g),())) (by
    by_cases hq:a0N l[i] / 2^k<32
    have m:decide (((a0N l[i] / 2^k:Nat):Int)<32)=true:=decide_eq_true (by omega);have r:(unL (a0N l[i] / 2^k) g).length<999999000:=by
     rw[a8F];omega
    have b:=c1b (L:=g) (n:=a0N l[i] / 2^k) (a82 (a18 hq (by simp))) (by omega);have hp:=a2M (L:=unL (a0N l[i] / 2^k) g) (v:=((a0N l[i]%2^k:Nat):Int)) (n:=k) (by omega) r;simp only[a6b,dlt a,cT,a0B a,oB,a8H c,e,cF,p,m,u,b,d,t,hp,a5K,if_pos hq,a0C (show i<1000000 by omega)];have m:decide (((a0N l[i] / 2^k:Nat):Int)<32)=false:=decide_eq_false (by omega);have r:=a8F 32 g;have b:a2a (wL g,(32:Int))=some (0,wL (unL 32 g)):=c1b (L:=g) (n:=32) (by omega) (by omega);have hp:a0F (wL (unL 32 g),((a0N l[i]:Nat):Int),(32:Int))=some (a6S ((a0N l[i]:Nat):Int) 32,wL (a0L ((a0N l[i]:Nat):Int) 32 (unL 32 g))):=a2M (L:=unL 32 g) (v:=((a0N l[i]:Nat):Int)) (n:=32) (by omega) (by omega);simp only[a6b,dlt a,cT,a0B a,oB,a8H c,e,cF,p,m,b,hp,a5K,if_neg hq,a0C (show i<1000000 by omega)])]
   exact ih (i+1) _ (by omega) (by omega)
 have B:=key l.length 0 L (by omega) (by omega);simp_all[b0C,a7D]
def a1i(zn:List Nat):List Int:=zn.map fun(a:Nat)=>(a:Int)
theorem b9n(n M:Nat):(a00 n M).sum=n*M:=by
 simp
theorem b1W{o n warm:Int}(h:(a1E o n warm).length≠0):∃zn:List Nat,a1E o n warm=a1i zn∧(zn.sum:Int)=n-warm∧zn.length≤256:=by
 unfold a1E at h⊢;cases hr:(a5q n warm&&(decide (0≤o)&&decide (o≤8)))with
 |false=>simp_all
 |true=>
  rw[hr]at h;simp only[cT]at h⊢;simp[a5q]at hr;unfold b2j at h⊢
  split at h
  rename_i g;rw[if_pos g];obtain⟨O,rfl⟩:=a01 hr.2.1;obtain⟨N,rfl⟩:=a01 (show 0≤n by omega);obtain⟨w,rfl⟩:=a01 (show 0≤warm by omega);simp only[tN]at g⊢;have hp:=c9c (o:=O) (by omega);have f:=a68 N (2^O);rw[g.1,a83]at f;have k:w≤N / 2^O:=by omega
  generalize N / 2^O=M at g k f⊢;generalize 2^O=P at hp f⊢;refine⟨(M-w)::a00 (P-1) M,?_,?_,?_⟩
  grind[a1i,List.map_replicate]
  rw[a61,b9n];obtain⟨q,rfl⟩:∃q,P=q+1:=⟨P-1,by omega⟩
  grind
  simp_all;simp_all
def a8b(k:Int)(part L:List Int):List Int:=
 if k=31 then a1y (a0G part) part (a0L ((a0G part:Nat):Int) 5 (a0L (wrap .u64 k) 5 L))else a3X k.toNat part (a0L (wrap .u64 k) 5 L)
def a3Y:List Nat→List Int→List Int→List Int→List Int
 |z::zs,k::ks,l,L=>a3Y zs ks (l.drop z) (a8b k (l.take z) L)
 |_,_,_,L=>L
theorem b4i(h:kB k=true)(part L:List Int):L.length≤(a8b k part L).length∧(a8b k part L).length≤L.length+10+100*part.length:=by
 unfold a8b;have a:=a0R (wrap .u64 k) 5 L;split;have b:=a0R ((a0G part:Nat):Int) 5 (a0L (wrap .u64 k) 5 L);have c:=a5r (a0G part) part (a0L ((a0G part:Nat):Int) 5 (a0L (wrap .u64 k) 5 L));have f:=a5x part
 have:a0G part*part.length≤32*part.length:=a25 _ f
 omega;rename_i g;simp[kB]at h
 grind[b3w]
theorem a6T(h:i<zn.length):a86 (a1i zn) i 0=((zn[i]:Nat):Int):=by
 simp_all[a1i]
theorem a1o(h:List Nat):(a1i h).length=h.length:=by simp[a1i]
theorem b2Q(h:i<zn.length):(zn.drop i).sum=zn[i]+(zn.drop (i+1)).sum:=by
 grind[a02]
theorem c1d{part rest:List Int}{wd:Nat}{a b:Int}{z:List Int}{p:Prt}(k:wd≤32)(hp:part.length<10000):∀(j i:Nat)(L:List Int),i+j=part.length→L.length+64*j<999990000→
  y0s a7o (rest,(wd:Int),a,b,part,(part.length:Int),(i:Int),z,wL L,p,())=some (rest,a,b,z,wL (a1y wd (part.drop i) L),p,())
 |0,i,L,hi,_=>by
  obtain rfl:i=part.length:=by omega
  simp_all[a0H,a7o,a1y]
 |j+1,i,L,hi,hb=>by
  have h:i<part.length:=by omega
  have g:decide ((wd:Int)<0)=false:=by simp
  have f:=a0R (a0S part[i] wd) wd L;rw[a02 h,a0I (s':=(rest,(wd:Int),a,b,part,(part.length:Int),((i+1:Nat):Int),z,wL (a0L (a0S part[i] wd) wd L),p,())) (by
   simp only[a7o,dlt h,cT,a0B h,oB,g,cF,show bits .u64 .and (wrap .u64 part[i]) (wrap .u64 ((A0n .u64 1 (wd:Int))-1))=a0S part[i] wd from rfl,a2M (show wd≤63 by omega) (show L.length<999999000 by omega),a0C (show i<1000000 by omega)])]
  exact c1d k hp j (i+1) _ (by omega) (by omega)
theorem b2n{zn:List Nat}{p:Prt}(N:p.2.1.length=zn.length)(c:p.2.1.all kB=true)(R:zn.length≤256):∀(j i:Nat)(l L:List Int),i+j=zn.length→(zn.drop i).sum=l.length→l.all a0A=true→l.length≤5000→L.length+10*j+100*l.length<800000000→
  y0s a3K (l,(zn.length:Int),(i:Int),a1i zn,wL L,p,())=some (wL (a3Y (zn.drop i) (p.2.1.drop i) l L),())
 |0,i,l,L,hi,_,_,_,_=>by
  obtain rfl:i=zn.length:=by omega
  simp_all[a0H,a3K,a3Y]
 |j+1,i,l,L,hi,hsum,hw,hl5,hb=>by
  have h:i<zn.length:=by omega
  have f:i<p.2.1.length:=by omega
  have s:=lA.1 c _ (a05 f);rw[b2Q h]at hsum;have B:decide ((0:Int)≤(i:Int))=true:=by simp
  have C:decide ((i:Int)<(((a1i zn).length:Nat):Int))=true:=by simp_all[a1o]
  have D:decide ((0:Int)≤((zn[i]:Nat):Int))=true:=by simp
  have E:decide (((zn[i]:Nat):Int)≤((l.length:Nat):Int))=true:=by grind
  have t:(l.take zn[i]).length=zn[i]:=by simp_all
  have q:(l.drop zn[i]).length=(zn.drop (i+1)).sum:=by grind
  have w:(l.take zn[i]).all a0A=true:=lA.2 fun x A=>lA.1 hw x (a34 A);have y:(l.drop zn[i]).all a0A=true:=lA.2 fun x A=>lA.1 hw x (a35 A);have Q:=b4i s (l.take zn[i]) L;have O:=a0R (wrap .u64 p.2.1[i]) 5 L;have d:a0F (wL L,wrap .u64 p.2.1[i],(5:Int))=some (a6S (wrap .u64 p.2.1[i]) 5,wL (a0L (wrap .u64 p.2.1[i]) 5 L)):=a2M (n:=5) (by omega) (by omega);have G:zn.drop i=zn[i]::zn.drop (i+1):=a02 h;have H:p.2.1.drop i=p.2.1[i]::p.2.1.drop (i+1):=a02 f;rw[G,H,a3Y];have r:a3K (l,(zn.length:Int),(i:Int),a1i zn,wL L,p,())=some (.inl (l.drop zn[i],(zn.length:Int),((i+1:Nat):Int),a1i zn,wL (a8b p.2.1[i] (l.take zn[i]) L),p,())):=by
   by_cases h31:p.2.1[i]=31
   have m:(p.2.1[i] != 31)=false:=by simp_all
   have v:=a5x (l.take zn[i]);have u:=a1X (l:=l.take zn[i]) (by unfold short;omega);have P:=a0R ((a0G (l.take zn[i]):Nat):Int) 5 (a0L (wrap .u64 p.2.1[i]) 5 L);have I:wrap .u64 ((a0G (l.take zn[i]):Nat):Int)=((a0G (l.take zn[i]):Nat):Int):=a0U (by omega);have o:a0F (wL (a0L (wrap .u64 p.2.1[i]) 5 L),((a0G (l.take zn[i]):Nat):Int),(5:Int))=some (a6S ((a0G (l.take zn[i]):Nat):Int) 5,wL (a0L ((a0G (l.take zn[i]):Nat):Int) 5 (a0L (wrap .u64 p.2.1[i]) 5 L))):=a2M (n:=5) (by omega) (by omega);have e:=c1d (part:=l.take zn[i]) (rest:=l.drop zn[i]) (a:=(zn.length:Int)) (b:=(i:Int)) (z:=a1i zn) (p:=p) v (by omega) (l.take zn[i]).length 0 (a0L ((a0G (l.take zn[i]):Nat):Int) 5 (a0L (wrap .u64 p.2.1[i]) 5 L)) (by omega) (by omega);simp only[nZ,a28]at e;simp only[a3K,dlt h,B,C,a6T h,D,E,cT,a03,tN,a0B f,oB,d,m,cF,u,I,o,a19,e,a0C (show i<1000000 by omega),a8b,if_pos h31];have m:(p.2.1[i] != 31)=true:=by simp_all
   simp[kB]at s;obtain⟨K,M⟩:=a01 (show 0≤p.2.1[i]by omega);have g:=c2L (k:=K) (l:=l.take zn[i]) (L:=a0L (wrap .u64 p.2.1[i]) 5 L) (by omega) (by omega) w (by omega);rw[←M]at g;have F:K=p.2.1[i].toNat:=by omega
   simp only[a3K,dlt h,B,C,a6T h,D,E,cT,a03,tN,a0B f,oB,d,m,g,a19,a0C (show i<1000000 by omega),a8b,if_neg h31,F]
  rw[a0I r];exact b2n N c R j (i+1) (l.drop zn[i]) _ (by omega) q.symm y (by omega) (by omega)
theorem b7P{k:Nat}(d:k≤25)(g:a0A x=true):∃c,a6p ((k:Int),x)=some c∧0≤c∧c≤65:=by
 have e:=a8g g;have f:A0o .u64 ((a0N x:Nat):Int) (k:Int)=((a0N x / 2^k:Nat):Int):=a5y (by omega);have a:wrap .i64 ((a0N x / 2^k:Nat):Int)=((a0N x / 2^k:Nat):Int):=b1k (a38 (a32 _ _) e);have h:decide ((k:Int)<0)=false:=by simp
 unfold a6p;simp only[a7D d,a8G,g,oB,bT,cF,a8H g,h,f,a];generalize a0N x / 2^k=q
 by_cases hq:q<32
 have b:decide ((q:Int)<32)=true:=decide_eq_true (by omega);refine⟨(q:Int)+1+k,?_,by omega,by omega⟩;simp only[b,cT]
 grind[a0D]
 grind
theorem b9o{k:Nat}(o:k≤25)(p:l.all a0A=true)(s:l.length<10000):∃c,a2U ((k:Int),l)=some c∧0≤c∧c≤65*l.length:=by
 have key:∀(j i:Nat)(c:Int),i+j=l.length→0≤c→c≤65*i→∃c',y0s a3m ((k:Int),c,l,(l.length:Int),(i:Int),())=some (c',())∧0≤c'∧c'≤65*l.length:=by
  intro j
  induction j with
  |zero=>
   intro i c n f g;obtain rfl:i=l.length:=by omega
   simp_all[a0H,a3m]
  |succ j ih=>
   intro i c n f g;have h:i<l.length:=by omega
   obtain⟨d,a,b,m⟩:=b7P o (lA.1 p _ (a05 h));have e:wrap .i64 (c+d)=c+d:=a0D (by omega);rw[a0I (s':=((k:Int),c+d,l,(l.length:Int),((i+1:Nat):Int),())) (by simp only[a3m,dlt h,cT,a0B h,oB,a,e,a0C (show i<1000000 by omega)])];exact ih (i+1) _ (by omega) (by omega) (by omega)
 obtain⟨c,g,q,r⟩:=key l.length 0 0 (by omega) (by omega) (by omega);simp_all[a2U]
theorem c5r{n:Nat}(g:w≤32)(f:n<10000):0≤(w:Int)*(n:Int)∧(w:Int)*(n:Int)≤32*n:=by
 have h:w*n≤32*n:=a25 _ g;omega
theorem b7Q(h:l.length<10000):∃c,a4N l=some c∧0≤c∧c≤5+32*l.length:=by
 have g:=c5r (a5x l) h;refine⟨5+((a0G l:Nat):Int)*((l.length:Nat):Int),?_,by omega,by omega⟩;unfold a4N;simp only[a1X (show short l by unfold short;omega),oB]
 grind[a0D]
theorem b1D{zn:List Nat}{p:Prt}(H:p.2.1.length=zn.length)(g:p.2.1.all kB=true)(I:zn.length≤256):∀(j i:Nat)(l:List Int)(c:Int),i+j=zn.length→(zn.drop i).sum=l.length→l.all a0A=true→l.length≤5000→4≤c→c+10*j+65*l.length<1000000→
  ∃c',y0s a1n (l,c,(zn.length:Int),(i:Int),a1i zn,p,())=some (c',())∧4≤c'
 |0,i,l,c,hi,_,_,_,hc,_=>by
  obtain rfl:i=zn.length:=by omega
  simp_all[a0H,a1n]
 |j+1,i,l,c,hi,hsum,hw,hl5,hc,hb=>by
  have h:i<zn.length:=by omega
  have f:i<p.2.1.length:=by omega
  have q:=lA.1 g _ (a05 f);rw[b2Q h]at hsum;have z:decide ((0:Int)≤(i:Int))=true:=by simp
  have A:decide ((i:Int)<(((a1i zn).length:Nat):Int))=true:=by simp_all[a1o]
  have B:decide ((0:Int)≤((zn[i]:Nat):Int))=true:=by simp
  have C:decide (((zn[i]:Nat):Int)≤((l.length:Nat):Int))=true:=by grind
  have s:(l.take zn[i]).length=zn[i]:=by simp_all
  have b:(l.drop zn[i]).length=(zn.drop (i+1)).sum:=by grind
  have v:(l.take zn[i]).all a0A=true:=lA.2 fun x y=>lA.1 hw x (a34 y);have w:(l.drop zn[i]).all a0A=true:=lA.2 fun x y=>lA.1 hw x (a35 y);have e:∃d,a1n (l,c,(zn.length:Int),(i:Int),a1i zn,p,())=some (.inl (l.drop zn[i],c+d,(zn.length:Int),((i+1:Nat):Int),a1i zn,p,()))∧0≤d∧d≤10+65*zn[i]:=by
   by_cases h31:p.2.1[i]=31
   have a:(p.2.1[i]==31)=true:=by simp_all
   obtain⟨r,m,t,u⟩:=b7Q (l:=l.take zn[i]) (by omega);have n:wrap .i64 (5+r)=5+r:=a0D (by omega);have o:wrap .i64 (c+(5+r))=c+(5+r):=a0D (by omega);refine⟨5+r,?_,by omega,by omega⟩;simp only[a1n,dlt h,z,A,a6T h,B,C,cT,a03,tN,a0B f,oB,a,m,n,o,a19,a0C (show i<1000000 by omega)];have a:(p.2.1[i]==31)=false:=by simp_all
   simp[kB]at q;obtain⟨K,D⟩:=a01 (show 0≤p.2.1[i]by omega);obtain⟨r,m,t,u⟩:=b9o (k:=K) (by omega) v (by omega);rw[←D]at m;have n:wrap .i64 (5+r)=5+r:=a0D (by omega);have o:wrap .i64 (c+(5+r))=c+(5+r):=a0D (by omega);refine⟨5+r,?_,by omega,by omega⟩;simp only[a1n,dlt h,z,A,a6T h,B,C,cT,cF,a03,tN,a0B f,oB,a,m,n,o,a19,a0C (show i<1000000 by omega)]
  obtain⟨d,E,F,G⟩:=e;rw[a0I E];exact b1D H g I j (i+1) (l.drop zn[i]) _ (by omega) b.symm w (by omega) (by omega) (by omega)
structure PartsOk (p:Prt) (n warm:Int) (l:List Int) (zn:List Nat):Prop where
 may:a4I p n warm=true
 sizes:a1E p.1 n warm=a1i zn
 sum:zn.sum=l.length
 len:zn.length≤256
 ks:p.2.1.length=zn.length
 all:p.2.1.all kB=true
 wide:l.all a0A=true
 short:l.length≤5000
 row:a5q n warm=true
 rest:(l.length:Int)=n-warm
 order:0≤p.1∧p.1≤8
theorem PartsOk.of{p:Prt}{n warm:Int}{l:List Int}(h:a4I p n warm=true)(i:(l.length:Int)=n-warm)(j:l.all a0A=true)(e:l.length≤5000):∃g,PartsOk p n warm l g:=by
 have f:=h;simp only[a4I,bA,a33,beq_eq_false_iff_ne,ne_eq,beq_iff_eq]at f;obtain⟨c,o,d⟩:=f;obtain⟨g,a,m,b⟩:=b1W c;have k:a5q n warm=true∧0≤p.1∧p.1≤8:=by
  grind[a1E]
 exact⟨g,h,a,by omega,b,by simp_all[a1o],d,j,e,k.1,i,k.2⟩
theorem a8X{n warm:Int}{l:List Int}(h:a5q n warm=true)(c:(l.length:Int)=n-warm)(d:l.all a0A=true)(a:l.length≤5000):a6a (n,warm,l)=some true:=by
 have e:wrap .i64 (n-warm)=n-warm:=by
  simp[a5q]at h;exact a0D (by omega)
 have k:(((l.length:Nat):Int) != n-warm)=false:=by simp_all
 have f:b0Z=a2k:=rfl;have g:short l:=by unfold short;omega
 have b:=a3L g;simp_all[a2f,a6a,b1f]
theorem b6w(h:PartsOk p n warm l zn):∃c,a3U (p,n,warm,l)=some c∧4≤c:=by
 have k:Go.Ab.short p.2.1:=by have:=h.ks;have:=h.len;unfold Go.Ab.short;omega
 have a:=h.short;have b:=h.len;obtain⟨c,g,f⟩:=b1D h.ks h.all h.len zn.length 0 l 4 (by omega) (by rw[a28];exact h.sum) h.wide h.short (by omega) (by omega);simp at g;refine⟨c,?_,f⟩;unfold a3U;simp only[b1g k,h.may,a8X h.row h.rest h.wide h.short,oB,bT,cF,a1N,h.sizes,a1o,g]
def a3B(p:Prt)(zn:List Nat)(l L:List Int):List Int:=a3Y zn p.2.1 l (a0L (wrap .u64 p.1) 4 L)
theorem c1e(h:PartsOk p n warm l zn)(i:L.length<700000000):a9t (wL L,p,n,warm,l)=some (0,wL (a3B p zn l L)):=by
 have e:=h.short;have j:=h.len;obtain⟨c,a,b⟩:=b6w h;have k:(c==0)=false:=by grind
 have d:=a0R (wrap .u64 p.1) 4 L;have f:a0F (wL L,wrap .u64 p.1,(4:Int))=some (a6S (wrap .u64 p.1) 4,wL (a0L (wrap .u64 p.1) 4 L)):=a2M (n:=4) (by omega) (by omega);have g:=b2n h.ks h.all h.len zn.length 0 l (a0L (wrap .u64 p.1) 4 L) (by omega) (by rw[a28];exact h.sum) h.wide h.short (by omega);simp at g;unfold a9t;simp only[a,oB,k,cF,f,a1N,h.sizes,a1o,g,a3B]
theorem b6x{c:List Int}{wd:Nat}(k:wd≤32)(g:c.length<10000):∀(j i:Nat)(L:List Int),i+j=c.length→L.length+64*j<999990000→
  y0s a4X ((wd:Int),c,(c.length:Int),(i:Int),wL L,())=some (wL (a1y wd (c.drop i) L),())
 |0,i,L,hi,_=>by
  obtain rfl:i=c.length:=by omega
  simp_all[a0H,a4X,a1y]
 |j+1,i,L,hi,hb=>by
  have h:i<c.length:=by omega
  have f:=a0R (a0S c[i] wd) wd L;rw[a02 h,a0I (s':=((wd:Int),c,(c.length:Int),((i+1:Nat):Int),wL (a0L (a0S c[i] wd) wd L),())) (by
   simp only[a4X,dlt h,cT,a0B h,oB,b1j (show wd≤63 by omega) (show L.length<999999000 by omega),a0C (show i<1000000 by omega)])]
  exact b6x k g j (i+1) _ (by omega) (by omega)
theorem b8h{t:List Int}{n wd:Int}{s:Sub}(a:t.length=3):∀(j i:Nat)(L:List Int),i+j=3→L.length+64*j<999990000→
  y0s a8B (n,wd,t,(i:Int),wL L,s,())=some (n,wd,wL (a1y 8 (t.drop i) L),s,())
 |0,i,L,hi,_=>by
  obtain rfl:i=t.length:=by omega
  grind[a0H,a8B,a1y]
 |j+1,i,L,hi,hb=>by
  have h:i<t.length:=by omega
  have f:decide ((i:Int)<3)=true:=by grind
  have k:=a0R (a0S t[i] 8) 8 L;have g:a2t (wL L,t[i],(8:Int))=some (wL (a0L (a0S t[i] 8) 8 L)):=b1j (n:=8) (by omega) (by omega);rw[a02 h,a0I (s':=(n,wd,t,((i+1:Nat):Int),wL (a0L (a0S t[i] 8) 8 L),s,())) (by
   simp only[a8B,f,cT,a0B h,oB,g,a0C (show i<1000000 by omega)])]
  exact b8h a j (i+1) _ (by omega) (by omega)
theorem b8i{l:List Int}{n:Int}{wd:Nat}{s:Sub}(k:wd≤32)(g:l.length<10000):∀(j i:Nat)(L:List Int),i+j=l.length→L.length+64*j<999990000→
  y0s a8D (n,(wd:Int),l,(l.length:Int),(i:Int),wL L,s,())=some (n,wL (a1y wd (l.drop i) L),s,())
 |0,i,L,hi,_=>by
  obtain rfl:i=l.length:=by omega
  simp_all[a0H,a8D,a1y]
 |j+1,i,L,hi,hb=>by
  have h:i<l.length:=by omega
  have f:=a0R (a0S l[i] wd) wd L;rw[a02 h,a0I (s':=(n,(wd:Int),l,(l.length:Int),((i+1:Nat):Int),wL (a0L (a0S l[i] wd) wd L),s,())) (by
   simp only[a8D,dlt h,cT,a0B h,oB,b1j (show wd≤63 by omega) (show L.length<999999000 by omega),a0C (show i<1000000 by omega)])]
  exact b8i k g j (i+1) _ (by omega) (by omega)
def a5t(s:Stg)(L:List Int):List Int:=a0L (wrap .u64 s.2.1) 4 (a0L (wrap .u64 (wrap .i64 (s.1-1))) 5 L)
def a2O(st:List Stg)(L:List Int):List Int:=st.foldl (fun L s=>a5t s L) L
theorem b3x(s:Stg)(L:List Int):(a5t s L).length≤L.length+9:=by
 grind[a0R,a5t]
theorem b2o:∀(st:List Stg)(L:List Int),(a2O st L).length≤L.length+9*st.length
 | [],L=>by simp[a2O]
 |s::st,L=>by
  have h:=b3x s L;have g:=b2o st (a5t s L);have e:a2O (s::st) L=a2O st (a5t s L):=rfl
  grind
theorem b4W{st:List Stg}{n wd:Int}{s:Sub}(a:st.length<10000):∀(j i:Nat)(L:List Int),i+j=st.length→L.length+64*j<999990000→
  y0s a8C (n,wd,st,(st.length:Int),(i:Int),wL L,s,())=some (n,wd,wL (a2O (st.drop i) L),s,())
 |0,i,L,hi,_=>by
  obtain rfl:i=st.length:=by omega
  simp_all[a0H,a8C,a2O]
 |j+1,i,L,hi,hb=>by
  have h:i<st.length:=by omega
  have k:=a0R (wrap .u64 (wrap .i64 (st[i].1-1))) 5 L;have b:=b3x st[i] L;have g:a0F (wL L,wrap .u64 (wrap .i64 (st[i].1-1)),(5:Int))=some (a6S (wrap .u64 (wrap .i64 (st[i].1-1))) 5,wL (a0L (wrap .u64 (wrap .i64 (st[i].1-1))) 5 L)):=a2M (n:=5) (by omega) (by omega);have f:a0F (wL (a0L (wrap .u64 (wrap .i64 (st[i].1-1))) 5 L),wrap .u64 st[i].2.1,(4:Int))=some (a6S (wrap .u64 st[i].2.1) 4,wL (a5t st[i] L)):=a2M (n:=4) (by omega) (by omega);rw[a02 h,a0I (s':=(n,wd,st,(st.length:Int),((i+1:Nat):Int),wL (a5t st[i] L),s,())) (by
   simp only[a8C,dlt h,cT,a0B h,oB,g,f,a0C (show i<1000000 by omega)])]
  exact b4W a j (i+1) _ (by omega) (by omega)
def a5u(s:Sub)(L:List Int):List Int:=
 a1y (a0G s.2.2.2.2.2.1) s.2.2.2.2.2.1 (a0L ((a0G s.2.2.2.2.2.1:Nat):Int) 5 (a0L (wrap .u64 s.2.2.2.1) 4 (a0L (wrap .u64 (wrap .i64 (((s.2.2.2.2.2.1.length:Nat):Int)-1))) 5 L)))
theorem b9p{s:Sub}(h:s.2.2.2.2.2.1.length≤40)(L:List Int):(a5u s L).length≤L.length+2000:=by
 unfold a5u;have f:=a0R (wrap .u64 (wrap .i64 (((s.2.2.2.2.2.1.length:Nat):Int)-1))) 5 L;have k:=a0R (wrap .u64 s.2.2.2.1) 4 (a0L (wrap .u64 (wrap .i64 (((s.2.2.2.2.2.1.length:Nat):Int)-1))) 5 L);have a:=a0R ((a0G s.2.2.2.2.2.1:Nat):Int) 5 (a0L (wrap .u64 s.2.2.2.1) 4 (a0L (wrap .u64 (wrap .i64 (((s.2.2.2.2.2.1.length:Nat):Int)-1))) 5 L));have b:=a5r (a0G s.2.2.2.2.2.1) s.2.2.2.2.2.1 (a0L ((a0G s.2.2.2.2.2.1:Nat):Int) 5 (a0L (wrap .u64 s.2.2.2.1) 4 (a0L (wrap .u64 (wrap .i64 (((s.2.2.2.2.2.1.length:Nat):Int)-1))) 5 L)));have g:=a5x s.2.2.2.2.2.1
 have:a0G s.2.2.2.2.2.1*s.2.2.2.2.2.1.length≤32*40:=Nat.mul_le_mul g h
 omega
theorem b4X(h:s.2.2.2.2.2.1.length≤40)(l:L.length<900000000):a7n (wL L,s)=some (wL (a5u s L)):=by
 have e:=a0R (wrap .u64 (wrap .i64 (((s.2.2.2.2.2.1.length:Nat):Int)-1))) 5 L;have i:=a0R (wrap .u64 s.2.2.2.1) 4 (a0L (wrap .u64 (wrap .i64 (((s.2.2.2.2.2.1.length:Nat):Int)-1))) 5 L);have j:=a0R ((a0G s.2.2.2.2.2.1:Nat):Int) 5 (a0L (wrap .u64 s.2.2.2.1) 4 (a0L (wrap .u64 (wrap .i64 (((s.2.2.2.2.2.1.length:Nat):Int)-1))) 5 L));have k:=a5x s.2.2.2.2.2.1;have f:wrap .u64 ((a0G s.2.2.2.2.2.1:Nat):Int)=((a0G s.2.2.2.2.2.1:Nat):Int):=a0U (by omega);have a:a0F (wL L,wrap .u64 (wrap .i64 (((s.2.2.2.2.2.1.length:Nat):Int)-1)),(5:Int))=some (a6S (wrap .u64 (wrap .i64 (((s.2.2.2.2.2.1.length:Nat):Int)-1))) 5,wL (a0L (wrap .u64 (wrap .i64 (((s.2.2.2.2.2.1.length:Nat):Int)-1))) 5 L)):=a2M (n:=5) (by omega) (by omega);have b:a0F (wL (a0L (wrap .u64 (wrap .i64 (((s.2.2.2.2.2.1.length:Nat):Int)-1))) 5 L),wrap .u64 s.2.2.2.1,(4:Int))=some (a6S (wrap .u64 s.2.2.2.1) 4,wL (a0L (wrap .u64 s.2.2.2.1) 4 (a0L (wrap .u64 (wrap .i64 (((s.2.2.2.2.2.1.length:Nat):Int)-1))) 5 L))):=a2M (n:=4) (by omega) (by omega);have d:a0F (wL (a0L (wrap .u64 s.2.2.2.1) 4 (a0L (wrap .u64 (wrap .i64 (((s.2.2.2.2.2.1.length:Nat):Int)-1))) 5 L)),((a0G s.2.2.2.2.2.1:Nat):Int),(5:Int))=some (a6S ((a0G s.2.2.2.2.2.1:Nat):Int) 5,wL (a0L ((a0G s.2.2.2.2.2.1:Nat):Int) 5 (a0L (wrap .u64 s.2.2.2.1) 4 (a0L (wrap .u64 (wrap .i64 (((s.2.2.2.2.2.1.length:Nat):Int)-1))) 5 L)))):=a2M (n:=5) (by omega) (by omega);have g:=b6x (c:=s.2.2.2.2.2.1) k (by omega) s.2.2.2.2.2.1.length 0 (a0L ((a0G s.2.2.2.2.2.1:Nat):Int) 5 (a0L (wrap .u64 s.2.2.2.1) 4 (a0L (wrap .u64 (wrap .i64 (((s.2.2.2.2.2.1.length:Nat):Int)-1))) 5 L))) (by omega) (by omega);simp at g;unfold a7n;simp only[a,b,a1X (show short s.2.2.2.2.2.1 by unfold short;omega),f,d,g,oB,a5u]
def a9y(s:Sub)(L:List Int):List Int:=
 a0L ((a0G s.2.2.2.2.2.2.2.2.1:Nat):Int) 5 (a0L (wrap .u64 s.2.1) 5 (a0L (wrap .u64 s.1) 3 L))
def a2i(s:Sub)(L:List Int):List Int:=
 if s.1=2 then a0L (wrap .u64 s.2.2.1) 3 L
 else if s.1=3 then a5u s L
 else if s.1=4 then a5u s (a1y 8 s.2.2.2.2.2.2.1 (a0L (wrap .u64 (wrap .i64 (s.2.2.2.2.1-1))) 10 L))
 else if s.1=5 then a2O s.2.2.2.2.2.2.2.1 (a0L (wrap .u64 ((s.2.2.2.2.2.2.2.1.length:Nat):Int)) 2 L)
 else L
theorem c1f(h:SmallS s)(L:List Int):(a2i s L).length≤L.length+3000:=by
 have f:=h.coefs;have k:=h.taps;have g:=h.stages
 grind[a2i,a0R,b9p,a5r,b2o]
theorem b3y:∀(zs:List Nat)(ks l L:List Int),ks.all kB=true→(a3Y zs ks l L).length≤L.length+10*zs.length+100*l.length
 |z::zs,k::ks,l,L,h=>by
  simp only[a07,bA]at h;have g:=b4i h.1 (l.take z) L;have f:=b3y zs ks (l.drop z) (a8b k (l.take z) L) h.2;rw[a94]at g;rw[a52]at f;simp only[a3Y,lC];omega
 | [],_,_,_,_=>by simp_all[a3Y]
 |_::_,[],_,_,_=>by grind[a3Y]
def a4r(s:Sub)(zn:List Nat)(L:List Int):List Int:=
 if s.1=0∨s.1=1 then a1y (a0G s.2.2.2.2.2.2.2.2.1) s.2.2.2.2.2.2.2.2.1 (a2i s (a9y s L))
 else a3B s.2.2.2.2.2.2.2.2.2.1 zn s.2.2.2.2.2.2.2.2.2.2.1 (a1y (a0G s.2.2.2.2.2.2.2.2.1) s.2.2.2.2.2.2.2.2.1 (a2i s (a9y s L)))
theorem b2R(h:SmallS s)(S:L.length<100000000):
  ∃(e:Int)(L':List Int),a8k (wL L,s,n)=some (e,wL L')∧(e=0∨L'=L)∧L'.length≤L.length+700000∧
   ((a1U s n).isSome=true→e=0∧∃a,L'=a4r s a L∧(s.1≠0∧s.1≠1→PartsOk s.2.2.2.2.2.2.2.2.2.1 n ((s.2.2.2.2.2.2.2.2.1.length:Nat):Int) s.2.2.2.2.2.2.2.2.2.2.1 a))∧((a1U s n).isSome=false→e=1∧L'=L):=by
 unfold a8k;simp only[b6t h,oB];cases hs:(a1U s n).isSome with
 |false=>exact⟨1,L,rfl,.inr rfl,by omega,fun h=>(by grind),fun _=>⟨rfl,rfl⟩⟩
 |true=>
  have hp:a1m s n:=by
   grind[a1U]
  obtain⟨Q,R,A,-,-,-,-,v,E,B,-,p⟩:=hp;have b:=c5p A;have m:=a5x s.2.2.2.2.2.2.2.2.1;have u:short s.2.2.2.2.2.2.2.2.1:=by have:=h.warm;unfold short;omega
  have c:=h.warm;have r:=h.rest;have C:=h.stages;have D:=h.taps;have T:=a0R (wrap .u64 s.1) 3 L;have U:=a0R (wrap .u64 s.2.1) 5 (a0L (wrap .u64 s.1) 3 L);have V:=a0R ((a0G s.2.2.2.2.2.2.2.2.1:Nat):Int) 5 (a0L (wrap .u64 s.2.1) 5 (a0L (wrap .u64 s.1) 3 L));have z:wrap .u64 ((a0G s.2.2.2.2.2.2.2.2.1:Nat):Int)=((a0G s.2.2.2.2.2.2.2.2.1:Nat):Int):=a0U (by omega);have I:a0F (wL L,wrap .u64 s.1,(3:Int))=some (a6S (wrap .u64 s.1) 3,wL (a0L (wrap .u64 s.1) 3 L)):=a2M (n:=3) (by omega) (by omega);have K:a0F (wL (a0L (wrap .u64 s.1) 3 L),wrap .u64 s.2.1,(5:Int))=some (a6S (wrap .u64 s.2.1) 5,wL (a0L (wrap .u64 s.2.1) 5 (a0L (wrap .u64 s.1) 3 L))):=a2M (n:=5) (by omega) (by omega);have w:a0F (wL (a0L (wrap .u64 s.2.1) 5 (a0L (wrap .u64 s.1) 3 L)),((a0G s.2.2.2.2.2.2.2.2.1:Nat):Int),(5:Int))=some (a6S ((a0G s.2.2.2.2.2.2.2.2.1:Nat):Int) 5,wL (a9y s L)):=a2M (n:=5) (by omega) (by omega);have N:(a9y s L).length≤L.length+13:=by unfold a9y;omega
  generalize hM:a9y s L=M at w N;have X:=c1f h M;have O:=a5r (a0G s.2.2.2.2.2.2.2.2.1) s.2.2.2.2.2.2.2.2.1 (a2i s M);have Y:a0G s.2.2.2.2.2.2.2.2.1*s.2.2.2.2.2.2.2.2.1.length≤32*5000:=Nat.mul_le_mul m c;have g:=b8i (l:=s.2.2.2.2.2.2.2.2.1) (n:=n) (s:=s) m (by omega) s.2.2.2.2.2.2.2.2.1.length 0 (a2i s M) (by omega) (by omega);simp at g

  have i:=b4W (st:=s.2.2.2.2.2.2.2.1) (n:=n) (wd:=((a0G s.2.2.2.2.2.2.2.2.1:Nat):Int)) (s:=s) (by omega) s.2.2.2.2.2.2.2.1.length 0 (a0L (wrap .u64 ((s.2.2.2.2.2.2.2.1.length:Nat):Int)) 2 M) (by omega) (by grind[a0R]);have Z:=a0R (wrap .u64 (wrap .i64 (s.2.2.2.2.1-1))) 10 M;have q9:=a5r 8 s.2.2.2.2.2.2.1 (a0L (wrap .u64 (wrap .i64 (s.2.2.2.2.1-1))) 10 M);have j:=b8h (t:=s.2.2.2.2.2.2.1) (n:=n) (wd:=((a0G s.2.2.2.2.2.2.2.2.1:Nat):Int)) (s:=s) D 3 0 (a0L (wrap .u64 (wrap .i64 (s.2.2.2.2.1-1))) 10 M) (by rfl) (by omega);simp at i j;have F:a0F (wL M,wrap .u64 s.2.2.1,(3:Int))=some (a6S (wrap .u64 s.2.2.1) 3,wL (a0L (wrap .u64 s.2.2.1) 3 M)):=a2M (n:=3) (by omega) (by omega);have G:a0F (wL M,wrap .u64 (wrap .i64 (s.2.2.2.2.1-1)),(10:Int))=some (a6S (wrap .u64 (wrap .i64 (s.2.2.2.2.1-1))) 10,wL (a0L (wrap .u64 (wrap .i64 (s.2.2.2.2.1-1))) 10 M)):=a2M (n:=10) (by omega) (by omega);have H:a0F (wL M,wrap .u64 ((s.2.2.2.2.2.2.2.1.length:Nat):Int),(2:Int))=some (a6S (wrap .u64 ((s.2.2.2.2.2.2.2.1.length:Nat):Int)) 2,wL (a0L (wrap .u64 ((s.2.2.2.2.2.2.2.1.length:Nat):Int)) 2 M)):=a2M (n:=2) (by omega) (by omega);have x:=b4X (s:=s) h.coefs (L:=M) (by omega);have y:=b4X (s:=s) h.coefs (L:=a1y 8 s.2.2.2.2.2.2.1 (a0L (wrap .u64 (wrap .i64 (s.2.2.2.2.1-1))) 10 M)) (by omega);simp only[bT,cF,a1X u,oB,I,K,z,w];generalize hPM:a1y (a0G s.2.2.2.2.2.2.2.2.1) s.2.2.2.2.2.2.2.2.1 (a2i s M)=PM at g O

  have o:∀(d:s.1≠0∧s.1≠1),∃a,PartsOk s.2.2.2.2.2.2.2.2.2.1 n ((s.2.2.2.2.2.2.2.2.1.length:Nat):Int) s.2.2.2.2.2.2.2.2.2.2.1 a:=fun d=>by
   simp_all[PartsOk.of]
  rcases b with k|k|k|k|k|k;have f:a2i s M=M:=by unfold a2i;grind
  rw[f]at g;refine⟨0,PM,?_,.inl rfl,by omega,fun _=>⟨rfl,[],by simp_all[a4r],fun h=>absurd k (by omega)⟩,fun h=>by grind⟩;simp only[k,show((0:Int)==2)=false from rfl,show((0:Int)==4)=false from rfl,show((0:Int)==3)=false from rfl,show((0:Int)==5)=false from rfl,cF,oB,g,a5w]
  simp
  have f:a2i s M=M:=by unfold a2i;grind
  rw[f]at g;refine⟨0,PM,?_,.inl rfl,by omega,fun _=>⟨rfl,[],by simp_all[a4r],fun h=>absurd k (by omega)⟩,fun h=>by grind⟩;simp only[k,show((1:Int)==2)=false from rfl,show((1:Int)==4)=false from rfl,show((1:Int)==3)=false from rfl,show((1:Int)==5)=false from rfl,cF,oB,g,a5w]
  simp
  all_goals
   obtain⟨a,q⟩:=o (by omega);have t1:=c1e (L:=PM) q (by omega);have P:(a3B s.2.2.2.2.2.2.2.2.2.1 a s.2.2.2.2.2.2.2.2.2.2.1 PM).length≤L.length+700000:=by
    have z1:=a0R (wrap .u64 s.2.2.2.2.2.2.2.2.2.1.1) 4 PM;have z2:=b3y a s.2.2.2.2.2.2.2.2.2.1.2.1 s.2.2.2.2.2.2.2.2.2.2.1 (a0L (wrap .u64 s.2.2.2.2.2.2.2.2.2.1.1) 4 PM) q.all;have z3:=q.len
    grind[a3B]
   refine⟨0,a3B s.2.2.2.2.2.2.2.2.2.1 a s.2.2.2.2.2.2.2.2.2.2.1 PM,?_,.inl rfl,P,fun _=>⟨rfl,a,by simp_all[a4r],fun _=>q⟩,fun h=>by grind⟩
  have f:a2i s M=a0L (wrap .u64 s.2.2.1) 3 M:=by unfold a2i;grind
  rw[f]at g;simp only[k,show((2:Int)==2)=true from rfl,cT,F,oB,g,a5w]
  grind
  have f:a2i s M=a5u s M:=by unfold a2i;grind
  rw[f]at g;simp only[k,show((3:Int)==2)=false from rfl,show((3:Int)==4)=false from rfl,show((3:Int)==3)=true from rfl,cT,cF,x,oB,g,a5w]
  grind
  have f:a2i s M=a5u s (a1y 8 s.2.2.2.2.2.2.1 (a0L (wrap .u64 (wrap .i64 (s.2.2.2.2.1-1))) 10 M)):=by unfold a2i;grind
  rw[f]at g;simp only[k,show((4:Int)==2)=false from rfl,show((4:Int)==4)=true from rfl,cT,cF,G,j,y,oB,g,a5w]
  grind
  have f:a2i s M=a2O s.2.2.2.2.2.2.2.1 (a0L (wrap .u64 ((s.2.2.2.2.2.2.2.1.length:Nat):Int)) 2 M):=by unfold a2i;grind
  rw[f]at g;simp only[k,show((5:Int)==2)=false from rfl,show((5:Int)==4)=false from rfl,show((5:Int)==3)=false from rfl,show((5:Int)==5)=true from rfl,cT,cF,H,i,oB,g,a5w]
  grind
theorem b1X(h:List Nat):(a1i h).map a42=h:=by
 unfold a1i;rw[List.map_map]
 have:a42∘(fun(a:Nat)=>(a:Int))=id:=by rfl
 simp_all
def a4h(s:Sub)(n:Int):Int:=
 if(a1U s n).isSome=true then(((a4r s ((a1E s.2.2.2.2.2.2.2.2.2.1.1 n ((s.2.2.2.2.2.2.2.2.1.length:Nat):Int)).map a42) []).length:Nat):Int)else 0
theorem b7R(h:s.1≠0∧s.1≠1→PartsOk s.2.2.2.2.2.2.2.2.2.1 n ((s.2.2.2.2.2.2.2.2.1.length:Nat):Int) s.2.2.2.2.2.2.2.2.2.2.1 zn)(L:List Int):
  a4r s zn L=a4r s ((a1E s.2.2.2.2.2.2.2.2.2.1.1 n ((s.2.2.2.2.2.2.2.2.1.length:Nat):Int)).map a42) L:=by
 by_cases hk:s.1=0∨s.1=1
 simp_all[a4r];rw[(h (not_or.1 hk)).sizes,b1X]
theorem c3f(h:SmallS s)(n:Int):a3w (s,n)=some (a4h s n):=by
 obtain⟨e,f,g,-,-,k,c⟩:=b2R h (n:=n) (L:=[]) (by simp);have a:wL []=(([]:List Int),(0:Int),()):=rfl;rw[a]at g;obtain⟨d,-⟩:=a4O f;unfold a3w a4h;simp[g,a7B];cases hs:(a1U s n).isSome with
 |false=>
  simp_all
 |true=>
  obtain⟨rfl,i,rfl,b⟩:=k hs;rw[if_pos rfl,←b7R b];simp_all
def dif:List Int→List Int
 |a::b::r=>W (b-a)::dif (b::r)
 |_=>[]
theorem a7u:∀l:List Int,(dif l).length=l.length-1
 | []=>rfl
 | [_]=>rfl
 |a::b::r=>by simp[dif,a7u (b::r)]
theorem b7S:∀(l:List Int)(i:Nat)(x y:Int),l[i]?=some x→l[i+1]?=some y→(dif l)[i]?=some (W (y-x))
 |a::b::r,0,x,y,h1,h2=>by simp at h1 h2;subst h1;subst h2;rfl
 |a::b::r,i+1,x,y,h1,h2=>by
  simp only[dif,List.getElem?_cons_succ]at h1 h2⊢;exact b7S (b::r) i x y h1 h2
 | [_],0,x,y,h1,h2=>by simp_all
 | [_],i+1,x,y,h1,h2=>by simp_all
 | [],i,x,y,h1,h2=>by simp_all
def a1V:Nat→List Int→List Int
 |0,l=>l
 |o+1,l=>dif (a1V o l)
theorem a4P(l:List Int):∀o,(a1V o l).length=l.length-o
 |0=>rfl
 |o+1=>by simp only[a1V,a7u,a4P l o];omega
theorem b2S{l:List Int}(h:short l)(o:Nat):short (a1V o l):=by
 have h:l.length<1000000:=h;show(a1V o l).length<1000000;rw[a4P];omega
def a8Y(l:List Int)(i:Nat):List Int:=(dif l).take i++l.drop i
theorem b1Y(h:i≤l.length-1):(a8Y l i).length=l.length:=by
 grind[a8Y,a7u]
theorem b8j(h:i≤l.length-1)(g:i≤j):(a8Y l i).getD j 0=l.getD j 0:=by
 simp_all[a7u,a8Y,List.getElem?_append_right]
theorem c6x(h:i<l.length-1):(a8Y l i).set i (W (l.getD (i+1) 0-l.getD i 0))=a8Y l (i+1):=by
 have e:((dif l).take i).length=i:=by grind[a7u]
 have f:l[i]?=some l[i]:=lG (by omega);have k:l[i+1]?=some l[i+1]:=lG (by omega);have a:=b7S l i _ _ f k;have g:i<(dif l).length:=by grind
 simp only[a8Y];rw[List.set_append,if_neg (by omega),e,a56,a02 (show i<l.length by omega),a59,a49 g,aA]
 grind
theorem c4m{l:List Int}{o k:Int}(g:short l)(h:1≤l.length):y0s a4z ((0:Int),o,k,l,())=some (o,k,a8Y l (l.length-1),()):=by
 have g:l.length<1000000:=g;have r:a8Y l 0=l:=by rfl
 have:=a2u (f:=a4z) (fun i:Nat=>((i:Int),o,k,a8Y l i,())) (l.length-1) (b:=(o,k,a8Y l (l.length-1),()))
  (fun i s=>by
   have d:wrap .i64 ((i:Int)+1)=((i+1:Nat):Int):=a0C (by omega);have c:=b1Y (l:=l) (i:=i) (by omega);have a:decide (((i+1:Nat):Int)<((l.length:Nat):Int))=true:=by grind
   have e:decide ((0:Int)≤((i+1:Nat):Int))=true:=by rfl
   have m:decide ((0:Int)≤(i:Int))=true:=by simp
   have n:decide ((i:Int)<((l.length:Nat):Int))=true:=by grind
   have n1:a42 ((i+1:Nat):Int)=i+1:=by rfl
   have n2:a42 (i:Int)=i:=by rfl
   have st:=c6x (l:=l) (i:=i) (by omega);have p:=b8j (l:=l) (i:=i) (j:=i+1) (by omega) (by omega);have q:=b8j (l:=l) (i:=i) (j:=i) (by omega) (by omega);simp_all[a4z])
  (by
   have c:=b1Y (l:=l) (i:=l.length-1) (by omega);have d:wrap .i64 (((l.length-1:Nat):Int)+1)=((l.length:Nat):Int):=by grind[a0D]
   have a:decide (((l.length:Nat):Int)<((l.length:Nat):Int))=false:=by simp
   simp_all[a4z])
 simp_all
theorem c5s{l:List Int}:(a8Y l (l.length-1)).take (l.length-1)=dif l:=by
 simp_all[a48,a7u,a8Y]
theorem b3z(y:o≤4)(x:o≤l.length)(g:short l)(r:l.all a0A=true):
  a3R (l,(o:Int))=some (bif (a1V o l).all a0A then(a1V o l,0)else([],6)):=by
 have q:l.length<1000000:=g;have h:=a2u (f:=a6A) (fun k:Nat=>((o:Int),(k:Int),a1V k l,())) o (b:=(a1V o l,()))
  (fun k v=>by
   have n:1≤(a1V k l).length:=by rw[a4P];omega
   have p:(a1V k l).length<1000000:=b2S g k;have j:decide ((k:Int)<(o:Int))=true:=by simp_all
   have w:=b1Y (l:=a1V k l) (i:=(a1V k l).length-1) (by omega);have z:wrap .i64 ((((a1V k l).length:Nat):Int)-1)=(((a1V k l).length-1:Nat):Int):=by grind[a0D]
   have w2:wrap .i64 ((k:Int)+1)=((k+1:Nat):Int):=a0C (by omega);have s:decide ((0:Int)≤(((a1V k l).length-1:Nat):Int))=true:=by simp
   have t:decide ((((a1V k l).length-1:Nat):Int)≤(((a1V k l).length:Nat):Int))=true:=by simp
   have u:decide ((a1V k l).length-1≤(a1V k l).length)=true:=by simp
   simp_all[a1V,a6A,c4m,b2S,c5s])
  (by
   have j:decide ((o:Int)<(o:Int))=false:=by simp
   simp_all[a6A])
 have a:decide ((o:Int)<0)=false:=by simp
 have c:decide ((o:Int) > 4)=false:=by grind
 have d:decide (((l.length:Nat):Int)<(o:Int))=false:=by simp_all
 have e:lim l.length=true:=a1e (by omega);simp at h;have m:a1V 0 l=l:=rfl;rw[m]at h;unfold a3R;simp only[a,c,d,e,cF,cT,oB,a6f g,r,bT,h,a6f (b2S g o)]
 grind
def ex:Nat→(Nat→Int)→Nat→Int
 |0,f,i=>f i
 |o+1,f,i=>ex o f (i+1)-ex o f i
theorem b5D{l:List Int}(g:l.all a0A=true):∀(o i:Nat),i+o<l.length→(a1V o l)[i]?=some (W (ex o (fun j=>l.getD j 0) i))
 |0,i,h=>by
  simp_all[a1V,ex,b4f]
 |o+1,i,h=>by
  have f:=b5D g o i (by omega);have k:=b5D g o (i+1) (by omega);simp_all[a1V,ex,b7S,a6Q]
theorem c5t(d:l.all a0A=true)(c:o≤4)(h:o+j<l.length):W (W (ex o (fun j=>l.getD j 0) j)+a5o o (l.take (o+j)))=l.getD (o+j) 0:=by
 have f:a0A (l.getD (o+j) 0)=true:=by
  simp_all
 have g:∀i:Nat,1≤i→i≤o→atB (l.take (o+j)) i=l.getD (o+j-i) 0:=fun i a b=>by
  simp[atB,a69 (a82 h),List.getElem?_take]
  grind
 have key:ex o (fun j=>l.getD j 0) j+a5o o (l.take (o+j))=l.getD (o+j) 0:=by
  have k:o=0∨o=1∨o=2∨o=3∨o=4:=by omega
  rcases k with rfl|rfl|rfl|rfl|rfl;simp[ex,a5o]
  all_goals grind[ex,a5o]
 have:W (W (ex o (fun j=>l.getD j 0) j)+a5o o (l.take (o+j)))=W (ex o (fun j=>l.getD j 0) j+a5o o (l.take (o+j))):=by
  simp_all[a6Q]
 simp_all[b4f]
theorem c1g{l:List Int}(f:l.all a0A=true){o:Nat}(b:o≤4):∀(k j:Nat),o+j+k=l.length→a3x (a5o o) ((a1V o l).drop j) (l.take (o+j))=some l
 |0,j,h=>by
  rw[List.drop_of_length_le (by rw[a4P];omega),a48 (by omega)];rfl
 |k+1,j,h=>by
  have g:j<(a1V o l).length:=by rw[a4P];omega
  have a:=b5D f o j (by omega);rw[lG g]at a;have e:=Option.some.inj a;have c:l.getD (o+j) 0=l[o+j]:=by grind
  have st:=c5t f b (show o+j<l.length by omega);rw[c]at st;rw[a02 g,e];simp only[a3x,st,lA.1 f _ (a05 (show o+j<l.length by omega)),cT];have d:l.take (o+j)++[l[o+j]]=l.take (o+(j+1)):=by
   rw[show o+(j+1)=(o+j)+1 by rfl]
   simp
  rw[d];exact c1g f b k (j+1) (by omega)
theorem a6r{σ β:Type}{f:σ→Option (σ ⊕ β)}(I:Nat→σ→Prop)(Q:β→Prop)(n:Nat)(g:∀i s,i<n→I i s→∃s',f s=some (.inl s')∧I (i+1) s')
  (a:∀s,I n s→∃b,f s=some (.inr b)∧Q b):∀(k i:Nat)(s:σ),i+k=n→I i s→∃b,y0s f s=some b∧Q b
 |0,i,s,h,hi=>by
  obtain rfl:i=n:=by omega
  grind[a0H]
 |k+1,i,s,h,hi=>by
  obtain⟨s',c,d⟩:=g i s (by omega) hi;rw[a0I c];exact a6r I Q n g a k (i+1) s' (by omega) d
theorem b4Y(y:Int):0≤wrap .u64 y∧wrap .u64 y<18446744073709551616:=by
 grind[wrap,IntKind.bits,IntKind.signed]
def a9z(n:Int)(x:Int):Bool:=a0A x&&!(a26 x (A0n .i64 1 n) != 0)
def b2T{β:Type}(n:Int)(bad:β)(out:List Int)(x:Int):List Int ⊕ β:=bif a9z n x then .inl (out++[A0o .i64 x n])else .inr bad
def a8I(n:Int)(l:List Int):Option (List Int):=bif l.all (a9z n)then some (l.map fun x=>A0o .i64 x n)else none
theorem b3A{β:Type}(n:Int)(h:β)(g:List Int→β):∀(l out:List Int),a6O g (a2v (b2T n h) l out)=match a8I n l with|some r=>g (out++r)|none=>h
 | [],out=>by grind[a2v,a6O,a8I]
 |x::l,out=>by
  simp only[a2v,b2T,a8I,a07];cases hx:a9z n x with
  |true=>
   simp only[cT,a39];rw[b3A n h g l _];simp only[a8I];cases l.all (a9z n)with
   |true=>simp
   |false=>rfl
  |false=>rfl
theorem c1h{o:Nat}(h:o≤30):A0n .i64 1 (o:Int)=((2^o:Nat):Int):=by
 have g:2^o≤2^30:=a08 (by omega) h
 have:=b5A (N:=1) (o:=o) (by omega) (by omega)
 simp_all
theorem b2p(d:o≤30)(m:l.length<100000):a5Y (l,(o:Int))=some (a4k (a8I (o:Int) l)):=by
 have e:short l:=by unfold short;omega
 have g:¬ (o:Int)<0:=by omega
 have b:¬ (o:Int) > 30:=by omega
 have c:(A0n .i64 (1:Int) (o:Int)==0)=false:=by
  rw[c1h d]
  have:0<2^o:=a16 o
  grind
 unfold a5Y;simp[g,b]
 have:=a1A (f:=a5G) l (fun i out=>((o:Int),l,(l.length:Int),(i:Int),out,())) (b2T (o:Int) (Sum.inr ((6:Int),([]:List Int),())))
  (fun i out=>out.length=i) (fun out=>Sum.inl (out,()))
  (fun i h out j=>by
   have k:i<1000000:=by omega
   simp only[a5G,dlt h,cT,a0B h,oB,b2h,b2T,a9z,g,c,decide_false,cF];cases hb:a0A l[i]with
   |true=>
    cases hb2:(a26 l[i] (A0n .i64 1 (o:Int)) != 0)with
    |false=>
     simp only[cT,bT,cF,oB,g,decide_false,a0Q (show out.length+1<1000000 by omega),a0C k,a03,a36,hb2];simp_all
    |true=>
     simp
   |false=>
    simp)
  (fun out _=>by simp[a5G]) (a:=[]) rfl
 simp[b3A]at this;rw[this];cases a8I (o:Int) l<;>rfl
theorem b5E{o:Nat}(h:o≤30){x:Int}(k:a9z (o:Int) x=true):a0A (A0o .i64 x (o:Int))=true∧A0n .i64 (A0o .i64 x (o:Int)) (o:Int)=x∧a0A x=true:=by
 simp only[a9z,c1h h,bA,a33,bne_eq_false_iff_eq]at k;obtain⟨f,d⟩:=k;obtain⟨c,rfl⟩:=Int.dvd_of_tmod_eq_zero d;have g:=a1B.1 f;have e:min (a42 (o:Int)) (IntKind.bits .i64)=o:=by grind[IntKind.bits]
 have hp:(0:Int)<2^o:=Int.pow_pos (by omega);have b:((2^o:Nat):Int)=2^o:=by simp
 rw[b]at g f⊢;have a:A0o .i64 (2^o*c) (o:Int)=c:=by
  unfold A0o
  grind[a63]
 rw[a];refine⟨a1B.2 ?_,?_,f⟩;generalize (2:Int)^o=p at hp g;have i:p*c=(p-1)*c+c:=by grind
 by_cases hc:0≤c
 have:=a47 (show 0≤p-1 by omega) hc
 omega
 have:=a47 (show 0≤p-1 by omega) (show 0≤-c by omega)
 grind
 grind[A0n,a0D]
theorem c7X(h:o≤30)(f:a8I (o:Int) l=some d):d.all a0A=true∧d.length=l.length∧upO (o:Int) d=some l:=by
 unfold a8I at f;cases ha:l.all (a9z (o:Int))with
 |false=>simp_all
 |true=>
  rw[ha]at f;simp at f;subst f;have g:=lA.1 ha;refine⟨?_,by simp,?_⟩;simp_all[b5E];have a:(l.map fun x=>A0o .i64 x (o:Int)).all (fun x=>a0A x&&a0A (A0n .i64 x (o:Int)))=true:=by
   simp only[List.all_map];refine lA.2 fun x k=>?_
   obtain⟨c,e,i⟩:=b5E h (g x k);simp_all
  unfold upO;rw[a]
  simp
  have b:l.map ((fun x=>A0n .i64 x (o:Int))∘fun x=>A0o .i64 x (o:Int))=l.map id:=List.map_congr_left (fun x k=>(b5E h (g x k)).2.1);simp_all
theorem c4n{n warm:Int}(h:a5q n warm=true):(a1E 0 n warm).length≠0:=by
 have g:=h;simp[a5q]at g
 grind[a1E,b2j]
theorem c4o(h:-1048576≤x∧x≤1048575):v0s (v0r x (-1048576)) 1048575=x:=by
 unfold v0s v0r
 grind
theorem d1g(h:a0A x=true):-1048576≤A0o .i64 x ((10:Nat):Int)∧A0o .i64 x ((10:Nat):Int)≤1048575:=by
 have g:=a1B.1 h;have e:A0o .i64 x ((10:Nat):Int)=x / 1024:=by
  show a78 x 1024=_
  grind
 omega
theorem b8k{x:Int}(f:a0A x=true){a l:List Int}{n i:Int}:∀(k s:Nat),s+k=10→∃s':Nat,s'≤10∧y0s a2Z (a,(s:Int),x,l,n,i,())=some (a,(s':Int),l,n,i,())
 |0,s,h=>by
  obtain rfl:s=10:=by omega
  have g:decide (((10:Nat):Int)<0)=false:=by rfl
  have d:=c4o (d1g f);refine⟨10,a27 _,a0H ?_⟩;simp_all[a2Z,a2n]
 |k+1,s,h=>by
  have g:decide ((s:Int)<0)=false:=decide_eq_false (by omega);cases hc:(v0s (v0r (A0o .i64 x (s:Int)) (-1048576)) 1048575 != A0o .i64 x (s:Int))with
  |false=>exact⟨s,by omega,a0H (by simp only[a2Z,g,cF,a2n,oB,hc])⟩
  |true=>
   obtain⟨s',b,c⟩:=b8k f (a:=a) (l:=l) (n:=n) (i:=i) k (s+1) (by omega);refine⟨s',b,?_⟩;rw[a0I (s':=(a,((s+1:Nat):Int),x,l,n,i,())) (by simp only[a2Z,g,cF,a2n,oB,hc,cT,a0C (show s<1000000 by omega)])];omega
theorem c2M(w:l.all a0A=true)(A:l.length<100000):∃r,a6B l=some r∧r.length=l.length:=by
 obtain⟨b,y,s,z,v⟩:=a6r (f:=a4A) (fun i st=>∃s:Nat,s≤10∧st=(l,(s:Int),l,(l.length:Int),(i:Int),())) (fun b=>∃s:Nat,s≤10∧b=(l,(s:Int),())) l.length
  (fun i st g h=>by
   obtain⟨s,q,rfl⟩:=h;obtain⟨s',k,e⟩:=b8k (lA.1 w _ (a05 g)) (a:=l) (l:=l) (n:=(l.length:Int)) (i:=(i:Int)) (10-s) s (by omega);exact⟨_,by simp only[a4A,dlt g,cT,a0B g,oB,e,a0C (show i<1000000 by omega)]<;>rfl,s',k,rfl⟩)
  (fun st h=>by
   obtain⟨s,q,rfl⟩:=h;exact⟨_,by simp_all[a4A],s,q,rfl⟩) l.length 0 _ (by omega) ⟨0,by omega,rfl⟩
 subst v;obtain⟨c,x,o,t,u⟩:=a6r (f:=a4B) (fun i st=>∃o:List Int,st=((s:Int),l,(l.length:Int),(i:Int),o,())∧o.length=l.length) (fun b=>∃o:List Int,b=(o,())∧o.length=l.length) l.length
  (fun i st g h=>by
   obtain⟨o,rfl,p⟩:=h;have d:decide ((s:Int)<0)=false:=decide_eq_false (by omega);have j:decide ((0:Int)≤(i:Int))=true:=by simp
   have m:decide ((i:Int)<((o.length:Nat):Int))=true:=decide_eq_true (by omega);exact⟨_,by simp only[a4B,dlt g,cT,a0B g,oB,d,cF,j,m,a03,a0C (show i<1000000 by omega)]<;>rfl,_,rfl,by grind⟩)
  (fun st h=>by
   obtain⟨o,rfl,p⟩:=h;exact⟨_,by simp_all[a4B],o,rfl,p⟩) l.length 0 _ (by omega) ⟨a00 l.length 0,rfl,by simp⟩
 subst t;refine⟨o,?_,u⟩;have d:decide ((0:Int)≤((l.length:Nat):Int))=true:=by simp
 have j:decide (((l.length:Nat):Int)≤((l.length:Nat):Int))=true:=by simp
 have m:lim l.length=true:=a0Q (by omega);simp_all[a6B]
theorem b6y:∀(N:Nat)(num den:Int),den.toNat≤N→∃a b,y0s a2T (num,den,())=some (a,b,())
 |N,num,den,h=>by
  by_cases hd:den≥1099511627776
  ·have g:decide (den≥(1099511627776:Int))=true:=decide_eq_true hd;have e:A0o .i64 den 1=den / 2:=by
    show a78 den 2=_
    grind
   rw[a0I (s':=(A0o .i64 num 1,den / 2,())) (by simp_all[a2T])]
   match N with
   |0=>omega
   |N+1=>exact b6y N _ _ (by omega)
  have g:decide (den≥(1099511627776:Int))=false:=decide_eq_false hd;exact⟨num,den,a0H (by simp only[a2T,g,cF])⟩
theorem b6z{f:List Int}(u:1≤m)(r:g.length=f.length)(t:f.length<100000)(q:m<1000):∃k,a4e (f,g,(m:Int))=some k:=by
 obtain⟨b,n,d,den,o⟩:=a6r (f:=a2S) (fun i st=>∃d den:Int,st=(f,g,d,den,((m+i:Nat):Int),())) (fun b=>∃d den:Int,b=(d,den,())) (f.length-m)
  (fun i st s h=>by
   obtain⟨d,den,rfl⟩:=h;have j:m+i<f.length:=by omega
   have e:wrap .i64 (((m+i:Nat):Int)-1)=((m+i-1:Nat):Int):=by grind[a0D]
   exact⟨_,by simp only[a2S,dlt j,cT,a0B j,e,a0B (show m+i-1<g.length by omega),oB,a0C (show m+i<1000000 by omega)]<;>rfl,_,_,rfl⟩)
  (fun st h=>by
   obtain⟨d,den,rfl⟩:=h;have l:decide (((m+(f.length-m):Nat):Int)<((f.length:Nat):Int))=false:=decide_eq_false (by omega);exact⟨_,by simp only[a2S,l,cF]<;>rfl,_,_,rfl⟩) (f.length-m) 0 (f,g,0,0,(m:Int),()) (by omega) ⟨0,0,rfl⟩
 subst o;obtain⟨a,c,p⟩:=b6y den.toNat d den (a27 _);unfold a4e;simp[n,p];cases hc:(c==0)with
 |true=>simp
 |false=>
  simp
  cases decide ((A0n .i64 a 15).tmod c<0)<;>exact⟨_,rfl⟩
theorem b9q{f:List Int}{order:Int}(y:1≤m)(r:g.length=f.length)(x:f.length<100000)(s:m<1000):
  ∃f' a:List Int,y0s a2K (order,(m:Int),k,((f.length:Nat):Int)-1,f,g,ks,())=some (order,(m:Int),f',a,ks,())∧f'.length=f.length∧a.length=f.length:=by
 obtain⟨b,t,f',a,u,v⟩:=a6r (f:=a2K) (fun i st=>∃f' a:List Int,st=(order,(m:Int),k,((f.length:Nat):Int)-1-(i:Int),f',a,ks,())∧f'.length=f.length∧a.length=f.length)
  (fun b=>∃f' a:List Int,b=(order,(m:Int),f',a,ks,())∧f'.length=f.length∧a.length=f.length) (f.length-m)
  (fun i st w h=>by
   obtain⟨f',a,rfl,c,d⟩:=h;have j:decide (((f.length:Nat):Int)-1-(i:Int)≥(m:Int))=true:=decide_eq_true (by omega);have l:decide ((0:Int)≤((f.length:Nat):Int)-1-(i:Int))=true:=decide_eq_true (by omega);have n:decide (((f.length:Nat):Int)-1-(i:Int)<((f'.length:Nat):Int))=true:=decide_eq_true (by omega);have o:decide (((f.length:Nat):Int)-1-(i:Int)<((a.length:Nat):Int))=true:=decide_eq_true (by omega);have e:wrap .i64 (((f.length:Nat):Int)-1-(i:Int)-1)=((f.length:Nat):Int)-1-((i+1:Nat):Int):=by grind[a0D]
   have p:decide ((0:Int)≤((f.length:Nat):Int)-1-((i+1:Nat):Int))=true:=decide_eq_true (by omega);have q:decide (((f.length:Nat):Int)-1-((i+1:Nat):Int)<((a.length:Nat):Int))=true:=decide_eq_true (by omega);exact⟨_,by simp only[a2K,j,l,n,o,e,p,q,cT,a03,a2n,oB]<;>rfl,_,_,rfl,by simp_all,by simp_all⟩)
  (fun st h=>by
   obtain⟨f',a,rfl,c,d⟩:=h;have j:decide (((f.length:Nat):Int)-1-((f.length-m:Nat):Int)≥(m:Int))=false:=decide_eq_false (by omega);exact⟨_,by simp only[a2K,j,cF]<;>rfl,f',a,rfl,c,d⟩) (f.length-m) 0 _ (by omega) ⟨f,g,rfl,rfl,r⟩
 grind
theorem c1i{f:List Int}(y:o≤32)(v:g.length=f.length)(x:f.length<100000):∃ks:List Int,y0s a2L ((o:Int),(1:Int),f,g,([]:List Int),())=some (ks,())∧ks.length=o:=by
 obtain⟨b,p,ks,t,u⟩:=a6r (f:=a2L) (fun i st=>∃f' a ks:List Int,st=((o:Int),((i+1:Nat):Int),f',a,ks,())∧f'.length=f.length∧a.length=f.length∧ks.length=i)
  (fun b=>∃ks:List Int,b=(ks,())∧ks.length=o) o
  (fun i st w h=>by
   obtain⟨f',a,ks,rfl,j,l,q⟩:=h;have d:decide (((i+1:Nat):Int)≤(o:Int))=true:=decide_eq_true (by omega);obtain⟨k,n⟩:=b6z (f:=f') (g:=a) (m:=i+1) (by omega) (by omega) (by omega) (by omega);have e:wrap .i64 (((f'.length:Nat):Int)-1)=((f'.length:Nat):Int)-1:=a0D (by omega);obtain⟨r,s,p,t,u⟩:=b9q (f:=f') (g:=a) (ks:=ks++[k]) (m:=i+1) (order:=(o:Int)) (k:=k) (by omega) (by omega) (by omega) (by omega);have c:lim (ks.length+1)=true:=a0Q (by omega);exact⟨_,by simp only[a2L,d,cT,n,oB,c,e,a06,p,a0C (show i+1<1000000 by omega)]<;>rfl,r,s,ks++[k],rfl,by omega,by omega,by grind⟩)
  (fun st h=>by
   obtain⟨f',a,ks,rfl,j,l,q⟩:=h;have d:decide (((o+1:Nat):Int)≤(o:Int))=false:=decide_eq_false (by omega);exact⟨_,by simp only[a2L,d,cF]<;>rfl,ks,rfl,q⟩) o 0 _ (by omega) ⟨f,g,[],rfl,rfl,v,rfl⟩
 simp_all
theorem c1j(h:l.all a0A=true)(t:l.length≤4096)(s:1≤o)(m:o≤32):∃ks:List Int,a5H (l,(o:Int))=some (ks,0)∧ks.length=o:=by
 have p:short l:=by unfold short;omega
 obtain⟨r,e,q⟩:=c2M h (by omega);have n:short r:=by unfold short;omega
 obtain⟨ks,i,j⟩:=c1i (f:=r) (g:=r) m rfl (by omega);have k:decide ((o:Int)<1)=false:=decide_eq_false (by omega);have a:decide ((o:Int) > 32)=false:=decide_eq_false (by omega);have b:decide (((l.length:Nat):Int) > 4096)=false:=decide_eq_false (by omega);have c:decide ((0:Int)≤(o:Int))=true:=by simp
 have d:lim o=true:=a0Q (by omega);refine⟨ks,?_,j⟩;unfold a5H;simp only[k,a,b,c,d,cF,cT,oB,a4Z p,h,bT,e,a6R n,tN,a03,i]
theorem b1l{σ β:Type}{f:σ→Option (σ ⊕ β)}(I:Nat→σ→Prop)(Q:β→Prop)(n:Nat)(g:∀i s,i<n→I i s→(∃s',f s=some (.inl s')∧I (i+1) s')∨(∃b,f s=some (.inr b)∧Q b))
  (a:∀s,I n s→∃b,f s=some (.inr b)∧Q b):∀(k i:Nat)(s:σ),i+k=n→I i s→∃b,y0s f s=some b∧Q b
 |0,i,s,h,hi=>by
  obtain rfl:i=n:=by omega
  grind[a0H]
 |k+1,i,s,h,hi=>by
  rcases g i s (by omega) hi with⟨s',c,d⟩|⟨b,c,d⟩;rw[a0I c];exact b1l I Q n g a k (i+1) s' (by omega) d;simp_all[a0H]
theorem c2N(k:ks.length≤32):∃b,y0s a1Q (ks,ks,(ks.length:Int),(0:Int),())=some b∧(b=.inl (ks,())∨b=.inr (([]:List Int),(1:Int),())):=
 b1l (f:=a1Q) (fun i s=>s=(ks,ks,(ks.length:Int),(i:Int),())) (fun b=>b=.inl (ks,())∨b=.inr (([]:List Int),(1:Int),())) ks.length
  (fun i s g h=>by
   subst h;cases h1:decide (ks[i]<(-16383:Int))with
   |true=>exact Or.inr ⟨_,by simp_all[a1Q,a0B],Or.inr rfl⟩
   |false=>
    cases h2:decide (ks[i] > (16383:Int))with
    |true=>exact Or.inr ⟨_,by simp_all[a1Q,a0B],Or.inr rfl⟩
    |false=>exact Or.inl ⟨_,by simp only[a1Q,dlt g,cT,cF,a0B g,oB,h1,h2,a0C (show i<1000000 by omega)]<;>rfl,rfl⟩)
  (fun s h=>by
   subst h;exact⟨_,by simp_all[a1Q],Or.inl rfl⟩) ks.length 0 _ (by omega) rfl
theorem c2O{a:List Int}(t:c.length=i)(u:i≤32):
  ∃g:List Int,y0s a3r (c,(i:Int),k,a,n,(i:Int),c,(c.length:Int),(0:Int),([]:List Int),())=some (k,a,n,(i:Int),g,())∧g.length=i:=by
 obtain⟨b,p,g,q,r⟩:=a6r (f:=a3r) (fun j s=>∃g:List Int,s=(c,(i:Int),k,a,n,(i:Int),c,(c.length:Int),(j:Int),g,())∧g.length=j)
  (fun b=>∃g:List Int,b=(k,a,n,(i:Int),g,())∧g.length=c.length) c.length
  (fun j s e h=>by
   obtain⟨g,rfl,l⟩:=h;have m:wrap .i64 ((i:Int)-1)=(i:Int)-1:=a0D (by omega);have o:wrap .i64 ((i:Int)-1-(j:Int))=((i-1-j:Nat):Int):=by grind[a0D]
   have d:lim (g.length+1)=true:=a0Q (by omega);exact⟨_,by simp only[a3r,dlt e,cT,a0B e,oB,m,o,a0B (show i-1-j<c.length by omega),d,a0C (show j<1000000 by omega),a06]<;>rfl,_,rfl,by grind⟩)
  (fun s h=>by
   obtain⟨g,rfl,l⟩:=h;exact⟨_,by simp_all[a3r],g,rfl,l⟩) c.length 0 _ (by omega) ⟨[],rfl,rfl⟩
 simp_all
theorem c4p(y:1≤ks.length)(w:ks.length≤32):∃c e,a7j ks=some (c,e)∧(e=0→c.length=ks.length):=by
 obtain⟨b,p,q⟩:=c2N w;have j:decide (((ks.length:Nat):Int)<1)=false:=decide_eq_false (by omega);have l:decide (((ks.length:Nat):Int) > 32)=false:=decide_eq_false (by omega);unfold a7j;simp[j,l,p];rcases q with rfl|rfl;obtain⟨r,t,c,u,v⟩:=a6r (f:=a4W) (fun i s=>∃c:List Int,s=(c,ks,(ks.length:Int),(i:Int),())∧c.length=i) (fun r=>∃c:List Int,r=(c,())∧c.length=ks.length) ks.length
  (fun i s d h=>by
   obtain⟨c,rfl,g⟩:=h;have o:wrap .i64 ((i:Int)+1)=((i+1:Nat):Int):=a0C (by omega);have m:decide ((0:Int)≤((i+1:Nat):Int))=true:=by rfl
   have l1:lim (i+1)=true:=a0Q (by omega);obtain⟨x,n1,n2⟩:=c2O (c:=c) (a:=ks) (i:=i) (k:=ks[i]) (n:=(ks.length:Int)) g (by omega);have l2:lim (x.length+1)=true:=a0Q (by omega);exact⟨_,by simp only[a4W,dlt d,cT,a0B d,oB,o,m,tN,l1,a03,n1,l2,a06]<;>rfl,_,rfl,by grind⟩)
  (fun s h=>by
   obtain⟨c,rfl,g⟩:=h;exact⟨_,by simp_all[a4W],c,rfl,g⟩) ks.length 0 _ (by omega) ⟨[],rfl,rfl⟩
 subst u;simp at t;exact⟨c,0,by simp_all,fun _=>v⟩
 grind
theorem c2P{s:Nat}{half:Int}(m:c.length≤32)(d:w≤32):
  ∃out:List Int,y0s a1S (c,(w:Int),(s:Int),half,c,(c.length:Int),(0:Int),([]:List Int),())=some (c,(w:Int),(s:Int),out,()):=by
 obtain⟨b,i,out,l⟩:=b1l (f:=a1S) (fun j st=>∃out:List Int,st=(c,(w:Int),(s:Int),half,c,(c.length:Int),(j:Int),out,())∧out.length=j)
  (fun b=>∃out:List Int,b=(c,(w:Int),(s:Int),out,())) c.length
  (fun j st k h=>by
   obtain⟨out,rfl,e⟩:=h;have a:decide ((s:Int)<0)=false:=decide_eq_false (by omega);have g:lim (out.length+1)=true:=a0Q (by omega);cases hf:a1u (A0o .i64 (wrap .i64 (c[j]+half)) (s:Int)) (w:Int)with
   |true=>exact Or.inl ⟨_,by simp only[a1S,dlt k,cT,a0B k,oB,a,cF,a5s d,hf,bT,g,a0C (show j<1000000 by omega),a06]<;>rfl,_,rfl,by grind⟩
   |false=>exact Or.inr ⟨_,by simp only[a1S,dlt k,cT,a0B k,oB,a,cF,a5s d,hf,a36]<;>rfl,out,rfl⟩)
  (fun st h=>by
   obtain⟨out,rfl,e⟩:=h;exact⟨_,by simp_all[a1S],out,rfl⟩) c.length 0 _ (by omega) ⟨[],rfl,rfl⟩
 simp_all
theorem c2Q{w:Int}(k:c.length≤32):∃b,y0s a1R (c,w,c,(c.length:Int),(0:Int),())=some b∧(b=.inl (c,w,())∨b=.inr ((0:Int),(1:Int),([]:List Int),())):=
 b1l (f:=a1R) (fun i s=>s=(c,w,c,(c.length:Int),(i:Int),())) (fun b=>b=.inl (c,w,())∨b=.inr ((0:Int),(1:Int),([]:List Int),())) c.length
  (fun i s g h=>by
   subst h;cases h1:decide (c[i]<(-35184372088832:Int))with
   |true=>exact Or.inr ⟨_,by simp_all[a1R,a0B],Or.inr rfl⟩
   |false=>
    cases h2:decide (c[i] > (35184372088832:Int))with
    |true=>exact Or.inr ⟨_,by simp_all[a1R,a0B],Or.inr rfl⟩
    |false=>exact Or.inl ⟨_,by simp only[a1R,dlt g,cT,cF,a0B g,oB,h1,h2,a0C (show i<1000000 by omega)]<;>rfl,rfl⟩)
  (fun s h=>by
   subst h;exact⟨_,by simp_all[a1R],Or.inl rfl⟩) c.length 0 _ (by omega) rfl
theorem c4q(y:1≤c.length)(m:c.length≤32)(B:2≤w∧w≤16):∃o sh e,a7k (c,(w:Int))=some (o,sh,e)∧(e=0→o.length=c.length):=by
 obtain⟨b,u,v⟩:=c2Q (w:=(w:Int)) m;have n:decide (((c.length:Nat):Int)<1)=false:=decide_eq_false (by omega);have p:decide (((c.length:Nat):Int) > 32)=false:=decide_eq_false (by omega);have q:decide ((w:Int)<2)=false:=decide_eq_false (by omega);have t:decide ((w:Int) > 16)=false:=decide_eq_false (by omega);unfold a7k;simp[n,p,q,t,u];rcases v with rfl|rfl
 ·obtain⟨r,z,x⟩:=b1l (f:=a2x) (fun i s=>s=(c,(w:Int),(i:Int),())) (fun r=>r=.inl ()∨∃(sh:Int)(o:List Int),r=.inr (sh,(0:Int),o,())∧o.length=c.length) 15
   (fun i s A h=>by
    subst h;have a:decide ((i:Int)≤14)=true:=decide_eq_true (by omega);have d:decide ((0:Int)≤((c.length:Nat):Int))=true:=by simp
    have l1:lim c.length=true:=a0Q (by omega);have step:∀g:Int,∃o:List Int,y0s a1S (c,(w:Int),(i:Int),g,c,(c.length:Int),(0:Int),([]:List Int),())=some (c,(w:Int),(i:Int),o,()):=fun g=>c2P m (by omega)
    by_cases hp:(i:Int) > 0
    ·have l:wrap .i64 ((i:Int)-1)=(i:Int)-1:=a0D (by omega);have j:decide ((i:Int)-1<0)=false:=decide_eq_false (by omega);obtain⟨o,k⟩:=step (A0n .i64 1 ((i:Int)-1));cases hc:((((o.length:Nat):Int))==((c.length:Nat):Int))with
     |true=>exact Or.inr ⟨_,by simp only[a2x,a,cT,hp,decide_true,l,j,cF,oB,d,tN,l1,a03,k,hc]<;>rfl,Or.inr ⟨_,o,rfl,by grind⟩⟩
     |false=>exact Or.inl ⟨_,by simp only[a2x,a,cT,hp,decide_true,l,j,cF,oB,d,tN,l1,a03,k,hc,a0C (show i<1000000 by omega)]<;>rfl,rfl⟩
    ·obtain⟨o,k⟩:=step 0;cases hc:((((o.length:Nat):Int))==((c.length:Nat):Int))with
     |true=>exact Or.inr ⟨_,by simp only[a2x,a,cT,hp,decide_false,cF,oB,d,tN,l1,a03,k,hc]<;>rfl,Or.inr ⟨_,o,rfl,by grind⟩⟩
     |false=>exact Or.inl ⟨_,by simp only[a2x,a,cT,hp,decide_false,cF,oB,d,tN,l1,a03,k,hc,a0C (show i<1000000 by omega)]<;>rfl,rfl⟩)
   (fun s h=>by
    subst h;have a:decide (((15:Nat):Int)≤14)=false:=by rfl
    exact⟨_,by rfl,Or.inl rfl⟩) 15 0 (c,(w:Int),(0:Int),()) (by rfl) rfl
  rcases x with rfl|⟨sh,o,rfl,k⟩;exact⟨[],0,6,by simp_all,fun h=>absurd h (by simp)⟩;exact⟨o,sh,0,by simp_all,fun _=>k⟩
 grind
theorem c5u(j:l.all a0A=true)(d:l.length≤4096)(k:1≤o)(a:o≤32)(b:2≤w∧w≤16):∃c sh e,a3l (l,(o:Int),(w:Int))=some (c,sh,e)∧(e=0→c.length=o):=by
 obtain⟨ks,g,n⟩:=c1j j d k a;obtain⟨c,e,f,p⟩:=c4p (ks:=ks) (by omega) (by omega);unfold a3l;simp[g,f]
 by_cases he:e=0
 subst he;obtain⟨s,sh,m,q,r⟩:=c4q (c:=c) (w:=w) (by omega) (by omega) b
 grind
 have i:(e != 0)=true:=by simp_all
 exact⟨[],0,e,by grind,fun h=>absurd h he⟩
theorem c4r(c:l.length<100000)(d:o≤4):∃v,a7W (l,(o:Int))=some v:=by
 obtain⟨b,k,v,a⟩:=a6r (f:=a3S) (fun i s=>∃v:Int,s=((o:Int),v,l,(l.length:Int),(i:Int),())) (fun b=>∃v:Int,b=(v,())) l.length
  (fun i s g h=>by
   obtain⟨v,rfl⟩:=h;cases hc:decide (wrap .i64 ((i:Int)+(o:Int))≥4)with
   |true=>exact⟨_,by simp only[a3S,dlt g,cT,a0B g,oB,hc,a0C (show i<1000000 by omega)]<;>rfl,_,rfl⟩
   |false=>exact⟨_,by simp only[a3S,dlt g,cT,cF,a0B g,oB,hc,a0C (show i<1000000 by omega)]<;>rfl,_,rfl⟩)
  (fun s h=>by
   obtain⟨v,rfl⟩:=h;exact⟨_,by simp_all[a3S],v,rfl⟩) l.length 0 ((o:Int),(0:Int),l,(l.length:Int),(0:Int),()) (by omega) ⟨0,rfl⟩
 simp_all[a7W]
theorem b6A(h:o≤4)(b:l.length<100000)(g:l.all a0A=true):∃r e,a3R (l,(o:Int))=some (r,e)∧r.length≤l.length:=by
 by_cases hn:o≤l.length
 ·rw[b3z h hn (by unfold short;omega) g];cases (a1V o l).all a0A with
  |true=>exact⟨_,_,rfl,by rw[a4P];omega⟩
  |false=>simp
 have f:decide ((o:Int)<0)=false:=decide_eq_false (by omega);have k:decide ((o:Int) > 4)=false:=decide_eq_false (by omega);have a:decide (((l.length:Nat):Int)<(o:Int))=true:=decide_eq_true (by omega);simp_all[a3R]
theorem b6B(d:l.length<100000)(j:l.all a0A=true):∃o:Nat,a5j l=some (o:Int)∧o≤4:=by
 obtain⟨b,n,o,p,q⟩:=a6r (f:=a3h) (fun i s=>∃(o:Nat)(v:Int),s=(l,(o:Int),v,(i:Int),())∧o≤4) (fun b=>∃o:Nat,b=((o:Int),())∧o≤4) 5
  (fun i s t h=>by
   obtain⟨o,v,rfl,a⟩:=h;have g:decide ((i:Int)≤4)=true:=decide_eq_true (by omega);obtain⟨r,e,k,m⟩:=b6A (o:=i) (by omega) d j;obtain⟨y,c⟩:=c4r (l:=r) (o:=i) (by omega) (by omega);cases hc:(e != 0)with
   |true=>exact⟨_,by simp only[a3h,g,cT,k,oB,hc,a0C (show i<1000000 by omega)]<;>rfl,o,v,rfl,a⟩
   |false=>
    cases h4:decide (v<0)with
    |true=>exact⟨_,by simp only[a3h,g,cT,cF,k,oB,hc,c,h4,a0C (show i<1000000 by omega)]<;>rfl,i,y,rfl,by omega⟩
    |false=>
     cases h5:decide (y<v)with
     |true=>exact⟨_,by simp only[a3h,g,cT,cF,k,oB,hc,c,h4,h5,a0C (show i<1000000 by omega)]<;>rfl,i,y,rfl,by omega⟩
     |false=>exact⟨_,by simp only[a3h,g,cT,cF,k,oB,hc,c,h4,h5,a0C (show i<1000000 by omega)]<;>rfl,o,v,rfl,a⟩)
  (fun s h=>by
   obtain⟨o,v,rfl,a⟩:=h;have g:decide (((5:Nat):Int)≤4)=false:=by rfl
   exact⟨_,by rfl,o,rfl,a⟩) 5 0 (l,(0:Int),(-1:Int),(0:Int),()) (by rfl) ⟨0,-1,rfl,by omega⟩
 grind[a5j]
def a8c(g:List Int→Int):List Int→List Int→List Int
 | [],_=>[]
 |x::r,done=>W (x-g done)::a8c g r (done++[x])
theorem b1m(g:List Int→Int):∀r done,(a8c g r done).length=r.length
 | [],_=>rfl
 |x::r,done=>by simp[a8c,b1m g r]
theorem c5v{x g:Int}(h:a0A x=true):W (W (x-g)+g)=x:=by
 have:=b4f h
 simp_all[a6Q]
theorem b2U(g:List Int→Int):∀(r done:List Int),r.all a0A=true→a3x g (a8c g r done) done=some (done++r)
 | [],done,_=>by simp[a8c,a3x]
 |x::r,done,h=>by
  rw[a07,bA]at h;simp only[a8c,a3x,c5v h.1,h.1,cT,b2U g r (done++[x]) h.2,aA,a73]
def a9A(g:List Int→Int)(r done:List Int):Option (List Int):=bif (a8c g r done).all a0A then some (a8c g r done)else none
def b1E{β:Type}(g:List Int→Int)(bad:β)(a:List Int×List Int)(x:Int):(List Int×List Int) ⊕ β:=
 bif a0A (W (x-g a.1))then .inl (a.1++[x],a.2++[W (x-g a.1)])else .inr bad
theorem b2V{β:Type}(g:List Int→Int)(f:β)(k:List Int×List Int→β):∀(r done acc:List Int),
  a6O k (a2v (b1E g f) r (done,acc))=match a9A g r done with|some e=>k (done++r,acc++e)|none=>f
 | [],done,acc=>by grind[a2v,a6O,a9A,a8c]
 |x::r,done,acc=>by
  simp[a2v,b1E];cases h:a0A (W (x-g done))with
  |true=>
   simp
   rw[b2V g f k r];simp only[a9A,a8c,a07,h,a39]
   grind
  |false=>simp_all[a6O,a9A,a8c]
theorem b6C{g:List Int→Int}{done e:List Int}(h:a9A g r done=some e):e=a8c g r done∧e.all a0A=true:=by
 unfold a9A at h
 grind
theorem b8l(h:i<l.length):l.take i++[l[i]]=l.take (i+1):=by simp
theorem b5F{l:List Int}{p:Int→Bool}(h:l.all p=true)(i:Nat):(l.take i).all p=true:=by
 grind
theorem c6y{p:Int→Bool}(h:l.all p=true)(i:Nat):(l.drop i).all p=true:=by
 grind
theorem b8m{σ β:Type}{f:σ→Option (σ ⊕ β)}(l:List Int)(k:Nat)(r:k≤l.length)(S:Nat→List Int→σ)(g:List Int×List Int→Int→(List Int×List Int) ⊕ β)(d:List Int→β)
  (j:∀i (h:i<l.length) c,k≤i→c.length=i-k→(∀a',g (l.take i,c) l[i]=.inl a'→f (S i c)=some (.inl (S (i+1) a'.2))∧a'.1=l.take (i+1)∧a'.2.length=i+1-k)∧(∀b,g (l.take i,c) l[i]=.inr b→f (S i c)=some (.inr b)))
  (e:∀c,c.length=l.length-k→f (S l.length c)=some (.inr (d c))):y0s f (S k [])=some (a6O (fun a=>d a.2) (a2v g (l.drop k) (l.take k,[]))):=by
 have h:=a1A (f:=f) (l.drop k) (fun i a=>S (k+i) a.2) g (fun i a=>a.1=l.take (k+i)∧a.2.length=i) (fun a=>d a.2)
  (fun i p a n=>by
   obtain⟨a1,c⟩:=a;obtain⟨m,o⟩:=n;simp only at m o;subst m;rw[a52]at p;have q:k+i<l.length:=by omega
   grind)
  (fun a n=>by
   simp_all) (a:=(l.take k,[])) ⟨by simp,rfl⟩
 omega
def b2W(l c:List Int)(s:Int):Option (List Int):=bif l.all a0A then a9A (a8U c s) (l.drop c.length) (l.take c.length)else none
theorem b2q{s:Int}(w:a8f c s=true)(u:c.length≤l.length)(z:l.length<100000):
  a5Z (l,c,s)=some (a4k (b2W l c s)):=by
 have n:short l:=by unfold short;omega
 have k:short c:=by unfold short;omega
 have e:0≤s:=by simp_all[a8f]
 have p:decide (((l.length:Nat):Int)<((c.length:Nat):Int))=false:=by simp_all
 unfold a5Z b2W;simp only[a7Z k,w,oB,bT,cF,p,a4Z n];cases hw:l.all a0A with
 |false=>rfl
 |true=>
  have q:wrap .i64 (((l.length:Nat):Int)-((c.length:Nat):Int))=((l.length-c.length:Nat):Int):=by grind[a0D]
  have y:decide ((0:Int)≤((l.length-c.length:Nat):Int))=true:=by simp
  have r:lim (l.length-c.length)=true:=a0Q (by omega);simp[q,r]
  have:=b8m (f:=a3T) l c.length u (fun i h=>(l,c,s,(i:Int),h,())) (b1E (a8U c s) (.inr ((6:Int),([]:List Int),()))) (fun h=>.inl (h,()))
   (fun i a h v d=>by
    have o:short (l.take i):=by unfold short;grind
    have j:decide ((0:Int)≤(i:Int))=true:=by simp
    have m:decide ((i:Int)≤((l.length:Nat):Int))=true:=by grind
    have t:lim (h.length+1)=true:=a0Q (by omega);constructor
    ·intro x g;unfold b1E at g;cases hq:a0A (W (l[i]-a8U c s (l.take i)))with
     |false=>simp_all
     |true=>
      simp only[hq,cT,Sum.inl.injEq]at g;subst g;refine⟨?_,b8l a,by grind⟩;simp only[a3T,dlt a,cT,a0B a,oB,j,m,a03,tN,b2N o k e,a5n,hq,bT,cF,t,a0C (a18 a n),a06]
    ·intro b hb;unfold b1E at hb;cases hq:a0A (W (l[i]-a8U c s (l.take i)))with
     |true=>simp_all
     |false=>
      simp[hq]at hb;subst hb;simp only[a3T,dlt a,cT,a0B a,oB,j,m,a03,tN,b2N o k e,a5n,hq,a36])
   (fun h d=>by simp[a3T])
  rw[this,b2V];cases a9A (a8U c s) (l.drop c.length) (l.take c.length)<;>rfl
theorem b2X{s:Int}(h:b2W l c s=some r):b1c (l.take c.length) r c s=some l∧r.all a0A=true∧r.length=l.length-c.length:=by
 unfold b2W at h;cases hw:l.all a0A with
 |false=>simp_all
 |true=>
  simp[hw]at h;obtain⟨e,g⟩:=b6C h;refine⟨?_,g,by simp_all[b1m]⟩;simp[b1c,b5F hw,g]
  grind[b2U,List.take_append_drop]
def b2r(l:List Int)(lag:Int)(t:List Int):Option (List Int):=bif l.all a0A then a9A (a8a lag t) l []else none
theorem c1k(p:a9w lag t=true)(d:t.length=3)(s:l.length<100000):
  a6n (l,lag,t)=some (a4k (b2r l lag t)):=by
 have c:short l:=by unfold short;omega
 obtain⟨j,m⟩:2≤lag∧lag≤1024:=by simp_all[a9w]
 unfold a6n b2r;simp only[b1T d,p,oB,bT,cF,b1w c];cases hw:l.all a0A with
 |false=>rfl
 |true=>
  have r:decide ((0:Int)≤((l.length:Nat):Int))=true:=by simp
  have e:lim l.length=true:=a0Q (by omega);simp[e]
  have:=b8m (f:=a5k) l 0 (Nat.zero_le _) (fun i h=>(l,lag,l,(l.length:Int),(i:Int),h,t,())) (b1E (a8a lag t) (.inr ((6:Int),([]:List Int),()))) (fun h=>.inl (h,()))
   (fun i a h o k=>by
    have n:lim (h.length+1)=true:=a0Q (by omega);have hp:=b1y (lag:=lag) (t:=t) (a82 a) c d j m;constructor
    ·intro q g;unfold b1E at g;cases hq:a0A (W (l[i]-a8a lag t (l.take i)))with
     |false=>simp_all
     |true=>
      simp only[hq,cT,Sum.inl.injEq]at g;subst g;refine⟨?_,b8l a,by simp_all⟩;simp only[a5k,dlt a,cT,a0B a,oB,hp,a6P,hq,bT,cF,n,a0C (a18 a c),a06]
    ·intro b hb;unfold b1E at hb;cases hq:a0A (W (l[i]-a8a lag t (l.take i)))with
     |true=>simp_all
     |false=>
      simp_all[a5k,a0B,a6P])
   (fun h k=>by simp[a5k])
  simp only[nZ]at this;rw[this,b2V,a28,List.take_zero];cases a9A (a8a lag t) l []<;>rfl
theorem b4j(h:b2r l lag t=some r):b1z r lag t=some l∧r.all a0A=true∧r.length=l.length:=by
 unfold b2r at h;cases hw:l.all a0A with
 |false=>simp_all
 |true=>
  simp[hw]at h;obtain⟨e,g⟩:=b6C h;refine⟨?_,g,by rw[e,b1m]⟩;simp[b1z,g];simp_all[b2U]
def rsG:List Int→Fil→List Int
 | [],_=>[]
 |x::r,f=>W (x-a1b f)::rsG r (b0J f x)
theorem b2Y:∀r f,(rsG r f).length=r.length
 | [],_=>rfl
 |x::r,f=>by simp[rsG,b2Y r]
def rsO:List Int→List Int→Fil→Option (List Int)
 | [],done,_=>some done
 |x::r,done,f=>bif a0A (W (x-a1b f))then rsO r (done++[W (x-a1b f)]) (b0J f x)else none
theorem c5w:∀(r done:List Int)(f:Fil),rsO r done f=bif (rsG r f).all a0A then some (done++rsG r f)else none
 | [],done,f=>by simp[rsO,rsG]
 |x::r,done,f=>by
  simp[rsO,rsG];cases a0A (W (x-a1b f))with
  |false=>rfl
  |true=>simp_all[c5w]
theorem c3g:∀(r z:List Int)(f:Fil),r.all a0A=true→stO (rsG r f) z f=some (z++r)
 | [],z,f,_=>by simp[rsG,stO]
 |x::r,z,f,h=>by
  rw[a07,bA]at h;have e:W (a1b f+W (x-a1b f))=x:=by grind[c5v]
  simp only[rsG,stO,e,h.1,cT,c3g r _ _ h.2,aA,a73]
theorem b1F{row:List Int}{a:List Stg}{b c:Int}(l:short row):∀(k i:Nat)(done:List Int)(f:Fil),i+k=row.length→done.length=i→FilOk f→
  y0s a4C (a,b,c,(row.length:Int),(i:Int),done++row.drop i,f,())=some (match rsO (row.drop i) done f with
   |some r=>.inl (a,b,c,r,())
   |none=>.inr ((6:Int),([]:List Int),()))
 |0,i,done,f,h,hd,hf=>by
  obtain rfl:i=row.length:=by omega
  rw[a50,a40];exact a0H (b:=Sum.inl (a,b,c,done,())) (by simp[a4C])
 |k+1,i,done,f,h,hd,hf=>by
  have g:i<row.length:=by omega
  have m:row.length<1000000:=l;have e:decide ((0:Int)≤(i:Int))=true:=by simp
  have n:(done++row.drop i).length=row.length:=by grind
  have j:decide ((i:Int)<(((done++row.drop i).length:Nat):Int))=true:=by simp_all
  have d:rsO (row.drop i) done f=bif a0A (W (row[i]-a1b f))then rsO (row.drop (i+1)) (done++[W (row[i]-a1b f)]) (b0J f row[i])else none:=by
   rw[a02 g];rfl
  rw[d];cases hw:a0A (W (row[i]-a1b f))with
  |true=>
   rw[a0I (s':=(a,b,c,(row.length:Int),((i+1:Nat):Int),(done++[W (row[i]-a1b f)])++row.drop (i+1),b0J f row[i],())) (by
    simp only[a4C,dlt g,e,j,cT,a03,a5p hf,oB,tN,b1A hd g,a4q,hw,bT,cF,b3u hf,c0U hd g,a0C (show i<1000000 by omega)])]
   exact b1F l k (i+1) _ _ (by omega) (by simp_all) (c0T hf _)
  |false=>
   exact a0H (by
    simp only[a4C,dlt g,e,j,cT,a03,a5p hf,oB,tN,b1A hd g,a4q,hw,a36];rfl)
def lRO:List Stg→List Int→Option (List Int)
 | [],row=>some row
 |s::r,row=>match rsO row [] (a8V s)with
  |some row'=>lRO r row'
  |none=>none
theorem c1l{f:Fil}(h:rsO row [] f=some d):d=rsG row f∧d.all a0A=true:=by
 rw[c5w]at h
 grind
theorem b8n:∀(a b:List Stg)(row:List Int),lO (a++b) row=match lO a row with|some r=>lO b r|none=>none
 | [],b,row=>rfl
 |s::a,b,row=>by
  simp only[a64,lO];split;exact b8n a b _;rfl
theorem c1m:∀(st:List Stg)(row d:List Int),row.all a0A=true→lRO st row=some d→lO st.reverse d=some row∧d.all a0A=true∧d.length=row.length
 | [],row,d,hw,h=>by
  simp[lRO]at h;subst h;exact⟨rfl,hw,rfl⟩
 |s::st,row,d,hw,h=>by
  simp only[lRO]at h
  split at h
  rename_i g c;obtain⟨e,f⟩:=c1l c;obtain⟨k,a,b⟩:=c1m st g d f h;refine⟨?_,a,by rw[b,e,b2Y]⟩;rw[List.reverse_cons,b8n,k];simp only[lO];rw[e,c3g row [] _ hw,a09];cases h
theorem a9W{st:List Stg}(f:∀s∈st,stageB s=true)(l:st.length≤3):∀(j k:Nat)(row:List Int),k+j=st.length→short row→
  y0s a4D (st,(st.length:Int),(k:Int),row,())=some (match lRO (st.drop k) row with
   |some r=>.inl (r,())
   |none=>.inr ((6:Int),([]:List Int),()))
 |0,k,row,h,hs=>by
  obtain rfl:k=st.length:=by omega
  simp_all[a0H,a4D,lRO]
 |j+1,k,row,h,hs=>by
  have d:k<st.length:=by omega
  have g:=f _ (a05 d);have e:=b1F (a:=st) (b:=(st.length:Int)) (c:=(k:Int)) hs row.length 0 [] (a8V st[k]) (by omega) rfl (c3e g);simp at e;have i:((0:Int) != 0)=false:=rfl;rw[a02 d];simp[lRO];cases hr:rsO row [] (a8V st[k])with
  |some r=>
   rw[hr]at e;rw[a0I (s':=(st,(st.length:Int),((k+1:Nat):Int),r,())) (by simp only[a4D,dlt d,cT,a0B d,oB,b1e g,i,cF,e,a0C (show k<1000000 by omega)])];exact a9W f l j (k+1) r (by omega) (by have:=(c1l hr).1;unfold short at hs⊢;simp_all[b2Y])
  |none=>
   simp_all[a0H,a4D,a0B,b1e]
def b0O(l:List Int)(st:List Stg):Option (List Int):=bif l.all a0A then lRO st l else none
theorem b9r(k:a7P st=true)(a:l.length<100000):a8z (l,st)=some (a4k (b0O l st)):=by
 have h:=k;simp only[a7P,bA,dT]at h;have f:short st:=by unfold short;omega
 have g:short l:=by unfold short;omega
 unfold a8z b0O;simp only[b1b f,k,oB,bT,cF,b1a g];cases hw:l.all a0A with
 |false=>rfl
 |true=>
  have:=a9W (lA.1 h.2) h.1 st.length 0 l (by omega) g
  simp at this;simp[a6R g,this];cases lRO st l<;>rfl
theorem b6D(h:b0O l st=some r):a9I r st=some l∧r.all a0A=true∧r.length=l.length:=by
 unfold b0O at h;cases hw:l.all a0A with
 |false=>simp_all
 |true=>
  simp[hw]at h;obtain⟨f,g,k⟩:=c1m st l r hw h;exact⟨by simp only[a9I,g,cT,f],g,k⟩
theorem p64{w:Nat}(h:w≤64):((2^w:Nat):Int) ∣ 18446744073709551616:=a20.2 (a55 2 h)
theorem c9e(n:Int):∃q,wrap .i64 n=n+18446744073709551616*q:=by
 rw[a6Q,Int.bmod];split;exact⟨-(n / 18446744073709551616),by omega⟩;exact⟨-(n / 18446744073709551616)-1,by omega⟩
theorem c6z(h:w≤64)(n:Int):((2^w:Nat):Int) ∣ wrap .i64 n↔((2^w:Nat):Int) ∣ n:=by
 obtain⟨q,g⟩:=c9e n;rw[g]
 grind[a65,a46,p64]
theorem b8o(h:w≤64)(a:Int):2^w ∣ (a04 64 a).toNat↔((2^w:Nat):Int) ∣ a:=by
 have e:(((a04 64 a).toNat:Nat):Int)=a+18446744073709551616*-(a / 18446744073709551616):=by
  rw[a80];omega
 rw[←a20,e]
 grind[a65,a46,p64]
theorem c4s(w x y:Nat):2^w ∣ (x ||| y)↔2^w ∣ x∧2^w ∣ y:=by
 simp_all[Nat.dvd_iff_mod_eq_zero,Nat.or_mod_two_pow]
theorem c9f(h:w≤64)(a b:Int):((2^w:Nat):Int) ∣ bits .i64 .or a b↔((2^w:Nat):Int) ∣ a∧((2^w:Nat):Int) ∣ b:=by
 show((2^w:Nat):Int) ∣ wrap .i64 ((((a04 64 a) ||| (a04 64 b)).toNat:Nat):Int)↔_;rw[c6z h,a20,a70,c4s,b8o h,b8o h]
def orI(l:List Int)(a:Int):Int:=l.foldl (fun a x=>bits .i64 .or a x) a
theorem b2t{w:Nat}(h:w≤64):∀(l:List Int)(a:Int),((2^w:Nat):Int) ∣ orI l a↔((2^w:Nat):Int) ∣ a∧∀x∈l,((2^w:Nat):Int) ∣ x
 | [],a=>by simp[orI]
 |x::l,a=>by
  show((2^w:Nat):Int) ∣ orI l (bits .i64 .or a x)↔_;rw[b2t h l,c9f h];simp_all[and_assoc]
theorem c1n:∀(l:List Int),(∀x∈l,x=0)→orI l 0=0
 | [],_=>rfl
 |x::l,h=>by
  have g:=h x (List.mem_cons_self);subst g;show orI l (bits .i64 .or 0 0)=0;rw[show bits .i64 .or 0 0=0 from by rfl];simp_all[c1n]
theorem c9g(k:l.all a0A=true)(h:∃x∈l,x≠0):orI l 0≠0:=by
 intro e;obtain⟨x,g,f⟩:=h;have b:=((b2t (w:=62) (by omega) l 0).1 (by omega)).2 x g;have a:=a1B.1 (lA.1 k x g);omega
def a7v(l:List Int)(w:Nat):Prop:=
 ((∀x∈l,x=0)∧w=0)∨((∃x∈l,x≠0)∧w≤30∧(∀x∈l,((2^w:Nat):Int) ∣ x)∧(w=30∨∃x∈l,¬ ((2^(w+1):Nat):Int) ∣ x))
theorem c4t{v w:Nat}(h:v≤w){x:Int}(g:((2^w:Nat):Int) ∣ x):((2^v:Nat):Int) ∣ x:=
 Int.dvd_trans (a20.2 (a55 2 h)) g
theorem a7v.unique(hv:a7v l v)(g:a7v l w):v=w:=by
 have key:∀{v w:Nat},v≤30→w≤30→(∀x∈l,((2^w:Nat):Int) ∣ x)→(v=30∨∃x∈l,¬ ((2^(v+1):Nat):Int) ∣ x)→w≤v:=by
  grind[c4t]
 rcases hv with⟨f,hv⟩|⟨⟨x,c,h⟩,hv1,hv2,hv3⟩
 ·rcases g with⟨-,g⟩|⟨⟨x,c,h⟩,-⟩
  all_goals grind
 ·rcases g with⟨f,-⟩|⟨-,k,a,b⟩
  all_goals grind
theorem c1o:∀(n N:Nat),N≤n→0<N→∃k m,N=2^k*(2*m+1)
 |0,N,h,h0=>absurd h0 (by omega)
 |n+1,N,h,h0=>by
  by_cases he:N%2=0
  obtain⟨k,m,e⟩:=c1o n (N / 2) (by omega) (by omega);refine⟨k+1,m,?_⟩;rw[a84,a67 (2^k) 2,Nat.mul_assoc,←e];omega;exact⟨0,N / 2,by omega⟩
theorem c7Y{k:Nat}(h:2^k*(2*m+1)<2^64):(2^k*(2*m+1)) &&& (2^64-2^k*(2*m+1))=2^k:=by
 have hp:1≤2^k:=a79;have n:k<64:=by
  refine a95 fun g=>?_
  have d:2^64≤2^k:=a08 (by simp) g
  grind
 have e:2^k*(2*m+1)=(2^k*(2*m)+(2^k-1))+1:=by grind
 have l:2^k*(2*m)+(2^k-1)<2^64:=by omega
 refine Nat.eq_of_testBit_eq fun i=>?_
 have a:(2^64-2^k*(2*m+1)).testBit i=(decide (i<64)&&!(2^k*(2*m)+(2^k-1)).testBit i):=by
  rw[e];exact Nat.testBit_two_pow_sub_succ l i
 have f:=a57 (2*m+1) (b:=0) (i:=k) (by omega) i;rw[a83]at f;have c:=a57 (2*m) (b:=2^k-1) (i:=k) (by omega) i;rw[Nat.testBit_and,a,f,c,Nat.testBit_two_pow]
 by_cases d:i<k
 grind
 by_cases h2:k=i
 simp_all;obtain⟨j,rfl⟩:∃j,i=k+(j+1):=⟨i-k-1,by omega⟩;have o:k+(j+1)-k=j+1:=by omega
 have p:(2*m+1) / 2=m:=by omega
 simp_all[Nat.testBit_succ]
theorem c6A:∀k:Nat,k<64→a9h[(2^k*285870213051353865)%18446744073709551616 / 288230376151711744]?=some (k:Int):=by
 have h:∀k:Fin 64,a9h[(2^k.val*285870213051353865)%18446744073709551616 / 288230376151711744]?=some (k.val:Int):=by decide
 exact fun k g=>h ⟨k,g⟩
theorem c2R{k:Nat}:¬ 2^(k+1) ∣ 2^k*(2*m+1):=by
 rintro⟨c,h⟩
 rw[a84,Nat.mul_assoc]at h
 grind[Nat.eq_of_mul_eq_mul_left]
theorem c6B(d:0<N)(h:N<18446744073709551616):∃k:Nat,a1w (N:Int)=some (k:Int)∧2^k ∣ N∧¬ 2^(k+1) ∣ N:=by
 obtain⟨k,m,e⟩:=c1o N N (a27 _) d;have n:2^k≤N:=by grind
 have i:k<64:=by
  refine a95 fun g=>?_
  have l:2^64≤2^k:=a08 (by simp) g;omega
 refine⟨k,?_,⟨_,e⟩,e▸c2R⟩;have hb:bits .u64 .and (N:Int) (wrap .u64 (0-(N:Int)))=((2^k:Nat):Int):=by
  have b:wrap .u64 (0-(N:Int))=((18446744073709551616-N:Nat):Int):=by
   grind[wrap,IntKind.bits,IntKind.signed]
  rw[b];show wrap .u64 (((a04 64 (N:Int)) &&& (a04 64 ((18446744073709551616-N:Nat):Int))).toNat:Int)=_;rw[a24,a24,a93,a29,a29,a23 h,a23 (by omega)]
  have:=c7Y (k:=k) (m:=m) (by omega)
  rw[←e]at this;rw[show(18446744073709551616:Nat)=2^64 from rfl,this];exact a0U (by omega)
 have j:((N:Int)==0)=false:=by grind
 unfold a1w;rw[hb,j,cF];have f:wrap .u64 (((2^k:Nat):Int)*285870213051353865)=(((2^k*285870213051353865)%18446744073709551616:Nat):Int):=by
  rfl
 have a:=c6A k i;generalize (2^k*285870213051353865)%18446744073709551616=M at f a;have c:=a5y (N:=M) (o:=58) (by omega);rw[f,show(58:Int)=((58:Nat):Int)from rfl,c,show 2^58=288230376151711744 from rfl];generalize M / 288230376151711744=J at a
 grind[a0B,a0D]
theorem c6C{n:Nat}(g:n≤62)(c:Int):A0o .i64 (((2^n:Nat):Int)*c) (n:Int)=c:=by
 have hp:0<2^n:=a16 n;have e:min (a42 (n:Int)) (IntKind.bits .i64)=n:=by grind[IntKind.bits]
 have h:((2^n:Nat):Int)=2^n:=by simp
 unfold A0o
 grind[a63]
theorem c3h{l:List Int}(f:short l):∀(k i:Nat)(a:Int),i+k=l.length→y0s a4y (a,l,(l.length:Int),(i:Int),())=some (orI (l.drop i) a,())
 |0,i,a,h=>by
  obtain rfl:i=l.length:=by omega
  simp_all[a0H,a4y,orI]
 |k+1,i,a,h=>by
  have g:i<l.length:=by omega
  have b:l.length<1000000:=f;rw[a02 g,a0I (s':=(bits .i64 .or a l[i],l,(l.length:Int),((i+1:Nat):Int),())) (by
   simp only[a4y,dlt g,cT,a0B g,oB,a0C (show i<1000000 by omega)])]
  exact c3h f k (i+1) _ (by omega)
theorem c2S{l:List Int}{r:Nat}(g:r≤30)(h:r=30∨¬ ((2^(r+1):Nat):Int) ∣ orI l 0):r=30∨∃x∈l,¬ ((2^(r+1):Nat):Int) ∣ x:=by
 grind[b2t,a85]
theorem b5G{l:List Int}(y:short l)(j:l.all a0A=true):∃w:Nat,a3g l=some (w:Int)∧w≤30∧a7v l w:=by
 have a:=c3h y l.length 0 0 (by omega);simp at a;unfold a3g;simp[a]
 by_cases hz:∀x∈l,x=0
 have e:=c1n l hz;exact⟨0,by simp_all,by omega,.inl ⟨hz,rfl⟩⟩
 ·have g:∃x∈l,x≠0:=Classical.byContradiction fun m=>hz fun x g=>Classical.byContradiction fun s=>m ⟨x,g,s⟩;have t:=c9g j g;have n:(orI l 0==0)=false:=by simp_all
  obtain⟨q,u⟩:∃q,wrap .u64 (orI l 0)=orI l 0+18446744073709551616*q:=⟨-(orI l 0 / 18446744073709551616),by
   grind[wrap,IntKind.bits,IntKind.signed]⟩
  obtain⟨B,r2⟩:=b4Y (orI l 0);obtain⟨N,d⟩:=a01 B;have b:∀v,v≤64→(2^v ∣ N↔((2^v:Nat):Int) ∣ orI l 0):=fun v hv=>by
   rw[←a20,←d,u]
   grind[a65,a46,p64]
  have h:0<N:=by
   refine Nat.pos_of_ne_zero fun C=>?_
   obtain⟨x,f,A⟩:=g;have E:=((b2t (w:=62) (by omega) l 0).1 ((b 62 (by omega)).1 (by omega))).2 x f;have z:=a1B.1 (lA.1 j x f);omega
  obtain⟨k,p,c,r⟩:=c6B h (by omega);have i:k≤63:=by
   refine Nat.le_of_not_lt fun o=>?_
   have a:2^64≤2^k:=a08 (by simp) (by omega)
   have:=Nat.le_of_dvd h c
   omega
  simp only[n,cF,d,p,oB];have D:v0s (k:Int) 30=((min k 30:Nat):Int):=by rw[c3d];omega
  refine⟨min k 30,by grind,by omega,.inr ⟨g,by omega,?_,?_⟩⟩
  all_goals grind[b2t,Nat.dvd_trans,a55,c2S]
theorem c7Z(g:w≤30)(d:l.all a0A=true)(h:a7v l w):a8I (w:Int) l=some (l.map fun x=>A0o .i64 x (w:Int)):=by
 have f:∀x∈l,((2^w:Nat):Int) ∣ x:=by
  rcases h with⟨h,-⟩|⟨-,-,h,-⟩
  all_goals grind[a85]
 have:l.all (a9z (w:Int))=true:=by
  rw[lA];intro x k;obtain⟨c,a⟩:=f x k;have b:a26 x (A0n .i64 1 (w:Int))=0:=by simp_all[c1h]
  simp_all[a9z]
 simp only[a8I,this,cT]
theorem a8Z{N n:Nat}(g:n≤63)(h:N<2^n)(L:List Int):(a0L (N:Int) n L).length=L.length+n:=by
 grind[a0L,a5y,a66,b1C]
def a4J(k:Nat)(x:Int):Nat:=if a0N x / 2^k<32 then a0N x / 2^k+1+k else 65
theorem c1p{k:Nat}(h:k≤25)(x:Int):a4J k x≤65:=by
 grind[a4J]
theorem c5x{k:Nat}(a:k≤25)(g:a0A x=true)(L:List Int):(a5K k x L).length=L.length+a4J k x:=by
 unfold a5K a4J;have hp:0<2^k:=a16 k;have h:a0N x%2^k<2^k:=a41 _ hp;have f:=a8g g;split;rw[a8Z (by omega) h,a8F];omega
 grind[a8Z,a8F]
theorem b6E{k:Nat}(g:k≤25):∀(l L:List Int),l.all a0A=true→(a3X k l L).length=L.length+(l.map (a4J k)).sum
 | [],L,_=>by rfl
 |x::l,L,h=>by
  simp only[a07,bA]at h;have e:a3X k (x::l) L=a3X k l (a5K k x L):=rfl;rw[e,b6E g l _ h.2,c5x g h.1,List.map_cons,a61];omega
theorem c1q{k:Nat}(c:k≤25)(g:a0A x=true):a6p ((k:Int),x)=some ((a4J k x:Nat):Int):=by
 have d:=a8g g;have f:A0o .u64 ((a0N x:Nat):Int) (k:Int)=((a0N x / 2^k:Nat):Int):=a5y (by omega);have a:wrap .i64 ((a0N x / 2^k:Nat):Int)=((a0N x / 2^k:Nat):Int):=b1k (a38 (a32 _ _) d);have h:decide ((k:Int)<0)=false:=by simp
 unfold a6p a4J;simp only[a7D c,a8G,g,oB,bT,cF,a8H g,h,f,a];generalize a0N x / 2^k=q
 by_cases hq:q<32
 have b:decide ((q:Int)<32)=true:=decide_eq_true (by omega);simp only[b,cT,if_pos hq]
 grind[a0D]
 grind
theorem c1r{f:Int→Nat}{M:Nat}(h:∀x,f x≤M):∀l:List Int,(l.map f).sum≤M*l.length
 | []=>by simp
 |x::l=>by
  have:=h x
  have:=c1r h l
  rw[List.map_cons,a61,lC,a91,a92];omega
theorem c1s{f:Int→Nat}{l:List Int}{i:Nat}(h:i<l.length):((l.take (i+1)).map f).sum=((l.take i).map f).sum+f l[i]:=by
 rw[a49 h,pA,List.sum_append];rfl
theorem b4Z{k:Nat}(a:k≤25)(d:l.all a0A=true)(j:l.length<10000):a2U ((k:Int),l)=some (((l.map (a4J k)).sum:Nat):Int):=by
 have:=a2u (f:=a3m) (fun i:Nat=>((k:Int),((((l.take i).map (a4J k)).sum:Nat):Int),l,(l.length:Int),(i:Int),())) l.length (b:=((((l.map (a4J k)).sum:Nat):Int),()))
  (fun i h=>by
   have c:=c1q a (lA.1 d _ (a05 h));have g:=c1r (c1p a) (l.take (i+1));rw[c1s h]at g;rw[a94]at g;have e:wrap .i64 (((((l.take i).map (a4J k)).sum:Nat):Int)+((a4J k l[i]:Nat):Int))=((((l.take (i+1)).map (a4J k)).sum:Nat):Int):=by
    grind[c1s,a0D]
   simp only[a3m,dlt h,cT,a0B h,oB,c,e,a0C (show i<1000000 by omega)])
  (by simp_all[a3m])
 unfold a2U;simp_all
theorem c6D(x:Int){n:Nat}(f:n≤62):∃N:Nat,a0S x n=(N:Int)∧N<2^n:=by
 obtain⟨h,g⟩:=b4Y x;obtain⟨y,k⟩:=a01 h;have hp:0<2^n:=a16 n;refine⟨y%2^n,?_,a41 _ hp⟩
 grind[a0S,c1c]
theorem b1G{n:Nat}(h:n≤62):∀(l L:List Int),(a1y n l L).length=L.length+n*l.length
 | [],L=>by rfl
 |x::l,L=>by
  have e:a1y n (x::l) L=a1y n l (a0L (a0S x n) n L):=rfl;obtain⟨N,g,f⟩:=c6D x h;rw[e,b1G h l,g,a8Z (by omega) f,lC,a91,a92];omega
theorem c9h{x:Int}(h:a0A x=true):a1u x ((31:Nat):Int)=true:=by
 have:=a1B.1 h
 have g:A0n .i64 (-1) (((31:Nat):Int)-1)=-1073741824:=by rfl
 have f:wrap .i64 (A0n .i64 1 (((31:Nat):Int)-1)-1)=1073741823:=by rfl
 unfold a1u
 grind
theorem b6F{x:Int}(h:a0A x=true):∀(k w:Nat),w+k=32→1≤k→a1F x k w≤31
 |k+1,w,hk,_=>by
  simp[a1F]
  by_cases h31:w=31
  grind[c9h]
  ·cases (x != 0)&&!a1u x w with
   |true=>exact b6F h k (w+1) (by omega) (by omega)
   |false=>grind
theorem b1H:∀(l:List Int)(w:Nat),l.all a0A=true→w≤31→l.foldl (fun w x=>a1F x (32-w) w) w≤31
 | [],w,_,h=>h
 |x::l,w,hl,h=>by
  simp only[a07,bA]at hl;exact b1H l _ hl.2 (b6F hl.1 (32-w) w (by omega) (by omega))
theorem a1L{l:List Int}(h:l.all a0A=true):a0G l≤31:=b1H l 0 h (by omega)
theorem b1n(g:l.length<10000):a4N l=some (((5+a0G l*l.length:Nat)):Int):=by
 have h:=a5x l;have f:a0G l*l.length≤32*l.length:=a25 _ h;unfold a4N;simp only[a1X (show short l by unfold short;omega),oB]
 grind[a0D]
def a9B(k:Int)(part:List Int):Nat:=5+(if k=31 then 5+a0G part*part.length else(part.map (a4J k.toNat)).sum)
def a4K:List Nat→List Int→List Int→Nat
 |z::zs,k::ks,l=>a9B k (l.take z)+a4K zs ks (l.drop z)
 |_,_,_=>0
theorem a3c{q:Nat}(h:q<2147483648):wrap .u64 (q:Int)=(q:Int):=a0U (by omega)
theorem c5y(h:kB k=true)(g:part.all a0A=true)(L:List Int):(a8b k part L).length=L.length+a9B k part:=by
 simp[kB]at h;obtain⟨K,rfl⟩:=a01 (show 0≤k by omega)
 grind[a8Z,a1L,a8b,a9B,a3c,b1G,b6E]
theorem b6G:∀(zs:List Nat)(ks l L:List Int),ks.all kB=true→l.all a0A=true→(a3Y zs ks l L).length=L.length+a4K zs ks l
 |z::zs,k::ks,l,L,h,hw=>by
  simp only[a07,bA]at h;have g:(l.take z).all a0A=true:=lA.2 fun x a=>lA.1 hw x (a34 a);have f:(l.drop z).all a0A=true:=lA.2 fun x a=>lA.1 hw x (a35 a);simp only[a3Y,a4K];rw[b6G zs ks _ _ h.2 f,c5y h.1 g];omega
 | [],_,_,_,_,_=>by rfl
 |_::_,[],_,_,_,_=>by rfl
theorem c6E(h:kB k=true)(part:List Int):a9B k part≤10+65*part.length:=by
 simp[kB]at h;unfold a9B;split;have g:a0G part*part.length≤32*part.length:=a25 _ (a5x part);omega
 have:=c1r (c1p (k:=k.toNat) (by omega)) part
 omega
theorem b1o{zn:List Nat}{p:Prt}(E:p.2.1.length=zn.length)(a:p.2.1.all kB=true)(F:zn.length≤256):∀(j i:Nat)(l:List Int)(c:Nat),i+j=zn.length→(zn.drop i).sum=l.length→l.all a0A=true→l.length≤5000→c+10*j+65*l.length<1000000→
  y0s a1n (l,(c:Int),(zn.length:Int),(i:Int),a1i zn,p,())=some (((c+a4K (zn.drop i) (p.2.1.drop i) l:Nat):Int),())
 |0,i,l,c,hi,_,_,_,_=>by
  obtain rfl:i=zn.length:=by omega
  grind[a0H,a1n,a4K]
 |j+1,i,l,c,hi,hsum,hw,hl5,hb=>by
  have h:i<zn.length:=by omega
  have f:i<p.2.1.length:=by omega
  have o:=lA.1 a _ (a05 f);rw[b2Q h]at hsum;have z:decide ((0:Int)≤(i:Int))=true:=by simp
  have A:decide ((i:Int)<(((a1i zn).length:Nat):Int))=true:=by simp_all[a1o]
  have B:decide ((0:Int)≤((zn[i]:Nat):Int))=true:=by simp
  have C:decide (((zn[i]:Nat):Int)≤((l.length:Nat):Int))=true:=by grind
  have d:(l.take zn[i]).length=zn[i]:=by simp_all
  have e:(l.drop zn[i]).length=(zn.drop (i+1)).sum:=by grind
  have v:(l.take zn[i]).all a0A=true:=lA.2 fun x y=>lA.1 hw x (a34 y);have w:(l.drop zn[i]).all a0A=true:=lA.2 fun x y=>lA.1 hw x (a35 y);have g:=c6E o (l.take zn[i]);rw[d]at g;have n:a1n (l,(c:Int),(zn.length:Int),(i:Int),a1i zn,p,())=some (.inl (l.drop zn[i],((c+a9B p.2.1[i] (l.take zn[i]):Nat):Int),(zn.length:Int),((i+1:Nat):Int),a1i zn,p,())):=by
   by_cases h31:p.2.1[i]=31
   have b:(p.2.1[i]==31)=true:=by simp_all
   have m:=b1n (l:=l.take zn[i]) (by omega);have u:a9B p.2.1[i] (l.take zn[i])=5+(5+a0G (l.take zn[i])*(l.take zn[i]).length):=by simp_all[a9B]
   rw[u]at g⊢;generalize 5+a0G (l.take zn[i])*(l.take zn[i]).length=r at m g⊢;have s:wrap .i64 (5+(r:Int))=5+(r:Int):=a0D (by omega);have t:wrap .i64 ((c:Int)+(5+(r:Int)))=((c+(5+r):Nat):Int):=by grind[a0D]
   simp only[a1n,dlt h,z,A,a6T h,B,C,cT,a03,tN,a0B f,oB,b,m,s,t,a19,a0C (show i<1000000 by omega)];have b:(p.2.1[i]==31)=false:=by simp_all
   have q:=o;simp[kB]at q;obtain⟨K,D⟩:=a01 (show 0≤p.2.1[i]by omega);have m:=b4Z (k:=K) (by omega) v (by omega);have u:a9B p.2.1[i] (l.take zn[i])=5+((l.take zn[i]).map (a4J K)).sum:=by simp_all[a9B]
   rw[←D]at m;rw[u]at g⊢;generalize ((l.take zn[i]).map (a4J K)).sum=r at m g⊢;have s:wrap .i64 (5+(r:Int))=5+(r:Int):=a0D (by omega);have t:wrap .i64 ((c:Int)+(5+(r:Int)))=((c+(5+r):Nat):Int):=by grind[a0D]
   simp only[a1n,dlt h,z,A,a6T h,B,C,cT,cF,a03,tN,a0B f,oB,b,m,s,t,a19,a0C (show i<1000000 by omega)]
  rw[a0I n,b1o E a F j (i+1) (l.drop zn[i]) _ (by omega) e.symm w (by omega) (by omega)];rw[a02 h,a02 f]
  grind[a4K]
theorem b9s(h:PartsOk p n warm l zn):a3U (p,n,warm,l)=some ((4+a4K zn p.2.1 l:Nat):Int):=by
 have f:Go.Ab.short p.2.1:=by have:=h.ks;have:=h.len;unfold Go.Ab.short;omega
 have k:=h.short;have a:=h.len;have g:=b1o h.ks h.all h.len zn.length 0 l 4 (by omega) (by rw[a28];exact h.sum) h.wide h.short (by omega);simp only[nZ,a30,a28]at g;unfold a3U;simp only[b1g f,h.may,a8X h.row h.rest h.wide h.short,oB,bT,cF,a1N,h.sizes,a1o,g]
theorem b9t(h:PartsOk p n warm l zn)(L:List Int):(a3B p zn l L).length=L.length+(4+a4K zn p.2.1 l):=by
 obtain⟨o,g⟩:=a01 h.order.1;have f:=h.order.2;unfold a3B;rw[b6G _ _ _ _ h.all h.wide,g,a3c (by omega),a8Z (by omega) (by omega)];omega
def a1O(o:Int):Sub:=((0:Int),(0:Int),o,(0:Int),(0:Int),([]:List Int),a00 3 (0:Int),([]:List Stg),([]:List Int),((0:Int),([]:List Int),()),([]:List Int),())
theorem c2T(o:Int):SmallS (a1O o):=⟨by simp[a1O],by rfl,by simp[a1O],by simp[a1O],by simp[a1O],by simp[a1O]⟩
def b4k(k:Nat)(l:List Int):Nat:=(l.map (a4J k)).sum
def rbN(l:List Int):Nat→Nat
 |0=>0
 |i+1=>if b4k (i+1) l<b4k (rbN l i) l then i+1 else rbN l i
theorem c1t(l:List Int):∀i,rbN l i≤i
 |0=>a27 _
 |i+1=>by
  have:=c1t l i
  simp only[rbN]
  split<;>omega
theorem b2Z{k:Nat}(h:k≤25)(f:l.all a0A=true)(g:l.length<10000):a2U ((k:Int),l)=some ((b4k k l:Nat):Int):=b4Z h f g
theorem c9i(h:a<b):decide ((a:Int)<(b:Int))=true:=decide_eq_true (by omega)
theorem c4u(h:¬ a<b):decide ((a:Int)<(b:Int))=false:=decide_eq_false (by omega)
theorem b4l(g:l.all a0A=true)(h:l.length<10000):a9s l=some ((rbN l 25:Nat):Int):=by
 have:=a2u (f:=a7l) (fun i:Nat=>(l,((rbN l i:Nat):Int),((b4k (rbN l i) l:Nat):Int),((i+1:Nat):Int),())) 25 (b:=(((rbN l 25:Nat):Int),()))
  (fun i n=>by
   have a:decide (((i+1:Nat):Int)≤25)=true:=decide_eq_true (by omega);have d:wrap .i64 (((i+1:Nat):Int)+1)=((i+1+1:Nat):Int):=a0C (by omega);have c:=b2Z (k:=i+1) (by omega) g h
   by_cases hlt:b4k (i+1) l<b4k (rbN l i) l
   simp_all[a7l,rbN];simp only[a7l,a,cT,cF,c,oB,d,c4u hlt,rbN,hlt,if_false])
  (by
   rfl)
 have m:=b2Z (k:=0) (by omega) g h;have j:((0+1:Nat):Int)=1:=rfl;have e:rbN l 0=0:=rfl;simp_all[a9s]
def b0P(l:List Int):Int:=if 5+a0G l*l.length<b4k (rbN l 25) l then 31 else((rbN l 25:Nat):Int)
theorem c4v(l:List Int):kB (b0P l)=true:=by
 have:=c1t l 25
 unfold b0P;split;rfl;simp only[kB,a98,bA,dT];omega
theorem b6H(g:l.all a0A=true)(h:l.length<10000):a7m l=some (b0P l):=by
 have a:=c1t l 25;have f:=b2Z (k:=rbN l 25) a g h;unfold a7m b0P
 by_cases hlt:5+a0G l*l.length<b4k (rbN l 25) l
 simp only[b4l g h,b1n h,f,oB,c9i hlt,cT,hlt,if_true];simp only[b4l g h,b1n h,f,oB,c4u hlt,cF,hlt,if_false]
def a2o:List Nat→List Int→List Int
 | [],_=>[]
 |z::zs,l=>b0P (l.take z)::a2o zs (l.drop z)
theorem b2u:∀zs l,(a2o zs l).length=zs.length
 | [],_=>rfl
 |z::zs,l=>by simp[a2o,b2u zs]
theorem b6I:∀zs l,(a2o zs l).all kB=true
 | [],_=>rfl
 |z::zs,l=>by simp[a2o,b6I zs,c4v]
theorem b3B{zn:List Nat}{n warm most least order:Int}{L:List Int}{a b:Prt}(m:zn.length≤256):∀(j i:Nat)(rest ks:List Int),i+j=zn.length→(zn.drop i).sum=rest.length→rest.all a0A=true→rest.length≤5000→ks.length=i→
  y0s a6C (n,warm,most,L,least,order,rest,((zn.length:Nat):Int),(i:Int),a1i zn,a,b,(order,ks,()),())=some (n,warm,most,L,least,order,a,b,(order,ks++a2o (zn.drop i) rest,()),())
 |0,i,rest,ks,h,_,_,_,_=>by
  obtain rfl:i=zn.length:=by omega
  simp_all[a0H,a6C,a2o]
 |j+1,i,rest,ks,h,hr,hwr,hr5,hki=>by
  have g:i<zn.length:=by omega
  rw[b2Q g]at hr;have k:decide ((0:Int)≤(i:Int))=true:=by simp
  have c:decide ((i:Int)<(((a1i zn).length:Nat):Int))=true:=by simp_all[a1o]
  have d:decide ((0:Int)≤((zn[i]:Nat):Int))=true:=by simp
  have e:decide (((zn[i]:Nat):Int)≤((rest.length:Nat):Int))=true:=by grind
  have l:=b6H (b5F hwr zn[i]) (by grind);have f:lim (ks.length+1)=true:=a0Q (by omega);rw[a02 g,a0I (s':=(n,warm,most,L,least,order,rest.drop zn[i],((zn.length:Nat):Int),((i+1:Nat):Int),a1i zn,a,b,(order,ks++[b0P (rest.take zn[i])],()),())) (by
   simp only[a6C,dlt g,k,c,a6T g,d,e,cT,a03,tN,l,oB,f,a19,a0C (show i<1000000 by omega),a06])]
  rw[b3B m j (i+1) _ _ (by omega) (by grind) (c6y hwr _) (by grind) (by simp_all)];simp_all[a2o]
def zsN(o n warm:Int):List Nat:=(a1E o n warm).map a42
def b0L(o n warm:Int)(l:List Int):Prt:=(o,a2o (zsN o n warm) l,())
def b6J(o n warm:Int)(l:List Int):Nat:=4+a4K (zsN o n warm) (a2o (zsN o n warm) l) l
def a1x(n warm:Int)(l:List Int):Nat→Prt×Nat
 |0=>((0,[],()),0)
 |i+1=>if(a1E (i:Int) n warm).length=0 then a1x n warm l i else
   if(a1x n warm l i).2=0∨b6J (i:Int) n warm l<(a1x n warm l i).2 then(b0L (i:Int) n warm l,b6J (i:Int) n warm l)else a1x n warm l i
def b4v(n warm:Int)(l:List Int):Prt:=(a1x n warm l 7).1
theorem c3i(b:(a1E (o:Int) n warm).length≠0)(a:(l.length:Int)=n-warm)(c:l.all a0A=true)(k:l.length≤5000):
  ∃h,a1E (o:Int) n warm=a1i h∧zsN (o:Int) n warm=h∧h.length≤256∧h.sum=l.length∧a4I (b0L (o:Int) n warm l) n warm=true∧PartsOk (b0L (o:Int) n warm l) n warm l h:=by
 obtain⟨h,e,i,j⟩:=b1W b;have d:zsN (o:Int) n warm=h:=by simp_all[zsN,b1X]
 have hp:a4I (b0L (o:Int) n warm l) n warm=true:=by
  simp only[a4I,b0L,bA,a33,beq_eq_false_iff_ne,ne_eq,beq_iff_eq];simp_all[a1o,b2u,b6I]
 obtain⟨f,g⟩:=PartsOk.of hp a c k
 have:f=h:=by
  have m:=g.sizes
  grind[b0L,b1X]
 grind
theorem b3a{n warm:Int}{l:List Int}(b:a5q n warm=true)(f:(l.length:Int)=n-warm)(a:l.all a0A=true)(g:l.length≤5000):∀i,1≤i→(a1x n warm l i).2≠0∧a4I (a1x n warm l i).1 n warm=true
 |0,h=>absurd h (by omega)
 |i+1,_=>by
  by_cases hs:(a1E (i:Int) n warm).length=0
  ·simp only[a1x,hs,if_true];cases i with
   |zero=>grind[c4n]
   |succ i=>exact b3a b f a g (i+1) (by omega)
  ·obtain⟨c,-,-,-,-,hp,-⟩:=c3i hs f a g;simp only[a1x,hs,if_false];split;simp_all[b6J]
   ·rename_i k;cases i with
    |zero=>exact absurd (Or.inl rfl) k
    |succ i=>exact b3a b f a g (i+1) (by omega)
theorem c6F(f:a5q n warm=true)(g:(l.length:Int)=n-warm)(k:l.all a0A=true)(h:l.length≤5000):a4I (b4v n warm l) n warm=true:=
 (b3a f g k h 7 (by omega)).2
theorem b9u(A:a5q n warm=true)(x:(l.length:Int)=n-warm)(t:l.all a0A=true)(s:l.length≤5000):
  a8A (n,warm,(6:Int),l)=some (b4v n warm l,0):=by
 have:=a2u (f:=a3i) (fun i:Nat=>(n,warm,(6:Int),l,(((a1x n warm l i).2:Nat):Int),(i:Int),((0:Int),([]:List Int),()),(a1x n warm l i).1,())) 7 (b:=(((0:Int),([]:List Int),()),b4v n warm l,()))
  (fun i z=>by
   have j:decide ((i:Int)≤v0s (v0r 6 0) 8)=true:=decide_eq_true (by have:v0s (v0r 6 0) 8=6:=rfl;omega);have r:wrap .i64 ((i:Int)+1)=((i+1:Nat):Int):=a0C (by omega)
   by_cases hs:(a1E (i:Int) n warm).length=0
   simp_all[a1x,a3i,a1N];have hb:((((a1E (i:Int) n warm).length:Nat):Int)==0)=false:=by simp_all
   obtain⟨h,p,o,w,y,-,q⟩:=c3i hs x t s;have d:=b3B (n:=n) (warm:=warm) (most:=6) (least:=(((a1x n warm l i).2:Nat):Int)) (order:=(i:Int)) (L:=l) (a:=((0:Int),([]:List Int),())) (b:=(a1x n warm l i).1) w h.length 0 l [] (by omega) (by simp_all) t s rfl;simp at d;have e:=b9s q;simp only[b0L,o]at e;have k:(((h.length:Nat):Int)==0)=false:=by simp_all[a1o]
   have m:(((a1i h).length:Nat):Int)=((h.length:Nat):Int):=by rw[a1o]
   have v:b0L (i:Int) n warm l=((i:Int),a2o h l,()):=by simp only[b0L,o]
   have u:b6J (i:Int) n warm l=4+a4K h (a2o h l) l:=by simp only[b6J,o]
   by_cases hz:(a1x n warm l i).2=0
   have g:((((a1x n warm l i).2:Nat):Int)==0)=true:=by simp_all
   have c:a1x n warm l (i+1)=(((i:Int),a2o h l,()),4+a4K h (a2o h l) l):=by simp_all[a1x]
   simp only[a3i,j,cT,a1N,oB,p,m,k,cF,d,e,r,c,g];have g:((((a1x n warm l i).2:Nat):Int)==0)=false:=by simp_all
   by_cases hlt:4+a4K h (a2o h l) l<(a1x n warm l i).2
   have c:a1x n warm l (i+1)=(((i:Int),a2o h l,()),4+a4K h (a2o h l) l):=by simp_all[a1x]
   simp only[a3i,j,cT,a1N,oB,p,m,k,cF,d,e,r,c,g,c9i hlt];have c:a1x n warm l (i+1)=a1x n warm l i:=by simp only[a1x,hs,if_false,hz,false_or,v,u,hlt]
   simp only[a3i,j,cT,a1N,oB,p,m,k,cF,d,e,r,c,g,c4u hlt])
  (by
   rfl)
 simp_all[a1x,a8A,a8X]
def a0V(k:Int)(s:Sub):Sub:=
 (k,(0:Int),(if k=2 then s.2.2.1 else 0),(if k=3∨k=4 then s.2.2.2.1 else 0),(if k=4 then s.2.2.2.2.1 else 0),(if k=3∨k=4 then s.2.2.2.2.2.1 else[]),
  ((if k=4 then s.2.2.2.2.2.2.1 else a00 3 (0:Int)),(if k=5 then s.2.2.2.2.2.2.2.1 else[]),([]:List Int),((0:Int),([]:List Int),()),([]:List Int),()))
def z0:Prt:=((0:Int),([]:List Int),())
def a1G(s:Sub)(w:Nat)(wm:List Int)(p:Prt)(r:List Int):Sub:=
 (s.1,(w:Int),s.2.2.1,s.2.2.2.1,s.2.2.2.2.1,s.2.2.2.2.2.1,s.2.2.2.2.2.2.1,s.2.2.2.2.2.2.2.1,wm,p,r,())
theorem c5z(h:SmallS s)(k:Int):a5c (k,s)=some (a0V k s):=by
 have f:short s.2.2.2.2.2.1:=by have:=h.coefs;unfold short;omega
 have g:short s.2.2.2.2.2.2.2.1:=by have:=h.stages;unfold short;omega
 grind[a5c,a0V,b0K,b4V]
theorem c1u(h:SmallS s)(k:Int):SmallS (a0V k s):=by
 have g:=h.coefs;have f:=h.taps;have a:=h.stages;refine⟨?_,?_,?_,by simp[a0V],by simp[a0V],by simp[a0V]⟩<;>simp only[a0V]<;>split<;>first|omega|simp
theorem c4w:a3n (a0V k s).1 (a0V k s) n↔a3n k s n:=by
 unfold a3n a0V
 grind
open Classical in
def a2D (l:List Int):Nat:=if h:∃w,a7v l w then h.choose else 0
theorem c8a{l:List Int}{w:Nat}(h:a7v l w):a2D l=w:=by
 unfold a2D;rw[dif_pos ⟨w,h⟩];exact(Classical.choose_spec (⟨w,h⟩:∃w,a7v l w)).unique h
def a1c(l:List Int):List Int:=l.map fun x=>A0o .i64 x (a2D l:Int)
theorem a7Q(h:short l)(g:l.all a0A=true):a3g l=some ((a2D l:Nat):Int)∧a2D l≤30∧a7v l (a2D l):=by
 grind[b5G,c8a]
theorem a5L(a:l.length≤4096)(f:l.all a0A=true):a8I ((a2D l:Nat):Int) l=some (a1c l)∧(a1c l).all a0A=true∧(a1c l).length=l.length∧upO ((a2D l:Nat):Int) (a1c l)=some l:=by
 obtain⟨-,g,k⟩:=a7Q (show short l by unfold short;omega) f;have h:=c7Z g f k;exact⟨h,c7X g h⟩
def a4L(k:Int)(s:Sub)(d:List Int):Option (List Int×List Int):=
 if k=2 then(bif (a1V s.2.2.1.toNat d).all a0A then some (d.take s.2.2.1.toNat,a1V s.2.2.1.toNat d)else none)
 else if k=3 then(b2W d s.2.2.2.2.2.1 s.2.2.2.1).map fun r=>(d.take s.2.2.2.2.2.1.length,r)
 else if k=4 then(b2r d s.2.2.2.2.1 s.2.2.2.2.2.2.1).bind fun x=>(b2W x s.2.2.2.2.2.1 s.2.2.2.1).map fun r=>(x.take s.2.2.2.2.2.1.length,r)
 else(b0O d s.2.2.2.2.2.2.2.1).map fun r=>([],r)
theorem c1v(j:k=2∨k=3∨k=4∨k=5)(i:a3n k s (d.length:Int))(n:d.all a0A=true)(h:a4L k s d=some (wm,r)):
  wm.length≤d.length∧r.length=d.length-wm.length∧r.all a0A=true∧wm.all a0A=true:=by
 have f:=i;simp only[a3n]at f;rcases j with rfl|rfl|rfl|rfl
 ·have:0≤s.2.2.1∧s.2.2.1≤(d.length:Int):=by omega
  simp[a4L]at h;cases hq:(a1V s.2.2.1.toNat d).all a0A with
  |false=>simp_all
  |true=>
   simp[hq]at h;obtain⟨rfl,rfl⟩:=h;simp_all[a4P,b5F]
 have:(s.2.2.2.2.2.1.length:Int)≤(d.length:Int):=by omega
 simp only[a4L,show ¬ (3:Int)=2 by simp,if_false,if_true,a21,pJ]at h;obtain⟨c,g,rfl,rfl⟩:=h;obtain⟨-,a,b⟩:=b2X g
 grind
 have:(s.2.2.2.2.2.1.length:Int)≤(d.length:Int):=by omega
 simp only[a4L,show ¬ (4:Int)=2 by simp,show ¬ (4:Int)=3 by simp,if_false,if_true,a44,a21,pJ]at h;obtain⟨x,e,c,g,rfl,rfl⟩:=h;obtain⟨-,l,m⟩:=b4j e;obtain⟨-,a,b⟩:=b2X g
 grind
 simp only[a4L,show ¬ (5:Int)=2 by simp,show ¬ (5:Int)=3 by simp,show ¬ (5:Int)=4 by simp,if_false,a21,pJ]at h;obtain⟨c,g,rfl,rfl⟩:=h;obtain⟨-,a,b⟩:=b6D g;simp_all
theorem c6G(v:k=2∨k=3∨k=4∨k=5)(h:SmallS s)(q:a3n k s (d.length:Int))(D:d.length≤4096)(y:d.all a0A=true)(w:Nat):
  a9r (a1G (a0V k s) w [] z0 [],d)=some (match a4L k s d with|none=>(6,a1G (a0V k s) w [] z0 [])|some (wm,r)=>(0,a1G (a0V k s) w wm z0 r)):=by
 have l:=h.taps;have g:=h.stages;have i:short d:=by unfold short;omega
 obtain⟨k',w',o,sh,lag,c,t,st,z,p,E,u⟩:=s;simp only[a3n]at q l g;unfold a9r;rcases v with rfl|rfl|rfl|rfl;obtain⟨n,C,e⟩:0≤o∧o≤4∧o≤(d.length:Int):=by omega
 obtain⟨O,rfl⟩:=a01 n;have g:short (d.take O):=by unfold short;grind
 have j:decide ((O:Int)≤((d.length:Nat):Int))=true:=by simp_all
 simp only[a1G,a0V,a4L,if_true,show((2:Int)==2)=true from rfl,cT,b3z (show O≤4 by omega) (show O≤d.length by omega) i y,oB,tN]
 grind[a9J,a1W,a6R]
 ·obtain⟨f,e⟩:a8f c sh=true∧(c.length:Int)≤(d.length:Int):=by simp_all
  have g:short (d.take c.length):=by unfold short;grind
  have m:decide ((0:Int)≤((c.length:Nat):Int))=true:=by simp
  have j:decide (((c.length:Nat):Int)≤((d.length:Nat):Int))=true:=by simp_all
  simp only[a1G,a0V,a4L,show((3:Int)==2)=false from rfl,show((3:Int)==3)=true from rfl,show ¬ (3:Int)=2 by simp,show ¬ (3:Int)=4 by simp,show ¬ (3:Int)=5 by simp,true_or,if_true,if_false,cT,cF,b2q f (show c.length≤d.length by omega) (show d.length<100000 by omega),oB];cases b2W d c sh with
  |none=>rfl
  |some r=>simp_all[a4k,a9J,a1W,a6R]
 ·obtain⟨f,e,a⟩:a8f c sh=true∧(c.length:Int)≤(d.length:Int)∧a9w lag t=true:=by simp_all
  simp[a1G,a0V,a4L,c1k a l (show d.length<100000 by omega)];cases hx:b2r d lag t with
  |none=>rfl
  |some x=>
   obtain⟨-,A,B⟩:=b4j hx;have g:short (x.take c.length):=by unfold short;grind
   have m:decide ((0:Int)≤((c.length:Nat):Int))=true:=by simp
   have j:decide (((c.length:Nat):Int)≤((x.length:Nat):Int))=true:=by simp_all
   simp[a4k,b2q f (show c.length≤x.length by omega) (show x.length<100000 by omega)]
   grind[a9J,a1W,a6R]
 ·obtain⟨e,b⟩:0<st.length∧a7P st=true:=by simp_all
  have g:short (d.take 0):=by simp[short]
  simp only[a1G,a0V,a4L,show((5:Int)==2)=false from rfl,show((5:Int)==3)=false from rfl,show((5:Int)==4)=false from rfl,show((5:Int)==5)=true from rfl,show ¬ (5:Int)=2 by simp,show ¬ (5:Int)=3 by simp,show ¬ (5:Int)=4 by simp,or_self,if_true,if_false,cT,cF,b9r b (show d.length<100000 by omega),oB];cases b0O d st with
  |none=>rfl
  |some r=>
   rfl
open Classical in

def a1k (k:Int) (l:List Int) (s:Sub):Sub×Int:=
 if ¬ (1≤l.length∧l.length≤4096∧a3n k s (l.length:Int))then(a1O 0,1)
 else if l.all a0A=false then(a1O 0,6)
 else if k=0 then(bif l.all (fun x=>x==l.headD 0)then(a1G (a0V 0 s) 0 [l.headD 0] z0 [],0)else(a1O 0,7))
 else if k=1 then(a1G (a0V 1 s) (a2D l) (a1c l) z0 [],0)
 else match a4L k s (a1c l)with
  |none=>(a1O 0,6)
  |some (wm,r)=>(a1G (a0V k s) (a2D l) wm (b4v (l.length:Int) (wm.length:Int) r) r,0)
theorem c4x(h:1≤l.length):m0k l 0=some (l.headD 0):=by
 cases l with
 |nil=>grind
 |cons a l=>rfl
theorem c1w(k:1≤l.length)(c:short l)(a b:Sub):
  y0s a4o (l,l,(l.length:Int),(0:Int),a,b,())=some (bif l.all (fun x=>x==l.headD 0)then .inl (l,a,b,())else .inr ((7:Int),a1O 0,())):=by
 have:=a1s (f:=a4o) l (fun i=>(l,l,(l.length:Int),(i:Int),a,b,())) (fun x=>x==l.headD 0) (bt:=Sum.inl (l,a,b,())) (bf:=Sum.inr ((7:Int),a1O 0,()))
  (fun i h hp=>by
   have g:(l[i] != l.headD 0)=false:=by simp_all
   simp only[a4o,dlt h,cT,a0B h,oB,c4x k,g,cF,a0C (a18 h c)])
  (fun i h hp=>by
   have g:(l[i] != l.headD 0)=true:=by simp_all
   simp only[a4o,dlt h,cT,a0B h,oB,c4x k,g];rfl)
  (by simp[a4o])
 omega
theorem b5a(h:a3n k s n)(g:k≠0)(f:k≠1):k=2∨k=3∨k=4∨k=5:=by
 rcases h with h|h|⟨h,-⟩|⟨h,-⟩|⟨h,-⟩|⟨h,-⟩;omega;omega
 all_goals omega
theorem c8b(h:SmallS s)(k:Int)(D:l.length≤100000):b0B (k,l,s)=some (a1k k l s):=by
 have j:short l:=by unfold short;omega
 unfold b0B a1k
 by_cases h1:1≤l.length
 rotate_left;have e:decide (((l.length:Nat):Int)<1)=true:=decide_eq_true (by omega);rw[if_pos (fun g=>h1 g.1)];simp only[e,cT,oB];rfl;have a:decide (((l.length:Nat):Int)<1)=false:=decide_eq_false (by omega)
 by_cases h2:l.length≤4096
 rotate_left;have e:decide (((l.length:Nat):Int) > 4096)=true:=decide_eq_true (by omega);rw[if_pos (fun g=>h2 g.2.1)];simp only[a,e,cT,cF,oB];rfl;have o:decide (((l.length:Nat):Int) > 4096)=false:=decide_eq_false (by omega)
 by_cases h3:a3n k s (l.length:Int)
 rotate_left;have b:b1i k s (l.length:Int)=false:=by simp[b1i,h3]
 rw[if_pos (fun g=>h3 g.2.2)];simp only[a,o,b2k h,b,cF,a36,cT,oB];rfl;have b:b1i k s (l.length:Int)=true:=by simp[b1i,h3]
 rw[if_neg (fun g=>g ⟨h1,h2,h3⟩)];simp only[a,o,b2k h,b,cF,bT,oB,a3L j];cases hw:l.all a0A with
 |false=>rfl
 |true=>
  simp only[bT,cF,c5z h,oB];rw[if_neg (by simp)]
  by_cases h0:k=0
  ·subst h0;have w:=c1w h1 j (a1O 0) (a0V 0 s);have v:a1O 0=((0:Int),(0:Int),(0:Int),(0:Int),(0:Int),([]:(List Int)),a00 3 (0:Int),([]:(List (Int×Int×Unit))),([]:(List Int)),((0:Int),([]:(List Int)),()),([]:(List Int)),()):=rfl;rw[←v,if_pos rfl];simp only[show((0:Int)==0)=true from rfl,cT,w,oB];cases l.all (fun x=>x==l.headD 0)with
   |false=>rfl
   |true=>simp only[cT,c4x h1,oB];rfl
  ·obtain⟨z,A,-⟩:=a7Q j hw;obtain⟨t,n,C,-⟩:=a5L h2 hw;have c:(k==0)=false:=by grind
   rw[if_neg h0];simp only[c,cF,z,oB,b2p A (show l.length<100000 by omega),t,a4k,show((0:Int) != 0)=false from rfl]
   by_cases hk1:k=1
   subst hk1;rfl
   ·have i:(k==1)=false:=by simp_all
    have p:=b5a h3 h0 hk1;rw[if_neg hk1];have m:=c6G p h (d:=a1c l) (by simp_all) (by omega) n (a2D l);have u:((a0V k s).1,((a2D l:Nat):Int),(a0V k s).2.2)=a1G (a0V k s) (a2D l) [] z0 []:=rfl;simp only[i,cF,u,m,oB];cases hr:a4L k s (a1c l)with
    |none=>rfl
    |some q=>
     obtain⟨B,r⟩:=q;obtain⟨E,r2,y,-⟩:=c1v p (by simp_all) n hr;have f:a5q (l.length:Int) (B.length:Int)=true:=by simp_all[a5q]
     have hb:=b9u f (l:=r) (by omega) y (by omega);simp only[show((0:Int) != 0)=false from rfl,cF,a1G,hb,oB]
theorem c5A(h:a4I p n warm=true):p.2.1.length≤256:=by
 simp only[a4I,bA,a33,beq_eq_false_iff_ne,ne_eq,beq_iff_eq]at h
 grind[b1W,a1o]
theorem b3b(h:SmallS s)(g:wm.length≤5000)(f:r.length≤5000)(k:p.2.1.length≤300):SmallS (a1G s w wm p r):=
 ⟨h.coefs,h.taps,h.stages,g,f,k⟩
theorem c4y(f:(a1k k l s).2=0):
  1≤l.length∧l.length≤4096∧a3n k s (l.length:Int)∧l.all a0A=true∧
   ((k=0∧l.all (fun x=>x==l.headD 0)=true∧(a1k k l s).1=a1G (a0V 0 s) 0 [l.headD 0] z0 [])∨
    (k=1∧(a1k k l s).1=a1G (a0V 1 s) (a2D l) (a1c l) z0 [])∨
     ((k=2∨k=3∨k=4∨k=5)∧∃wm r,a4L k s (a1c l)=some (wm,r)∧(a1k k l s).1=a1G (a0V k s) (a2D l) wm (b4v (l.length:Int) (wm.length:Int) r) r)):=by
 unfold a1k at f⊢
 split at f
 omega;rename_i g;have g:1≤l.length∧l.length≤4096∧a3n k s (l.length:Int):=Classical.byContradiction g;refine⟨g.1,g.2.1,g.2.2,?_⟩;rw[if_neg (fun h=>h g)]
 split at f
 omega;rename_i d;have a:l.all a0A=true:=by simp_all
 refine⟨a,?_⟩;rw[if_neg d]
 split at f
 grind
 rename_i b;rw[if_neg b]
 split at f
 simp_all;rename_i c;rw[if_neg c];refine .inr (.inr ⟨b5a g.2.2 b c,?_⟩)
 grind
theorem b1p:b2l (a1G (a0V k s) w wm p r):=by
 unfold b2l a1G a0V;simp_all
theorem b5H(h:a3n k s n):a3n (a1G (a0V k s) w wm p r).1 (a1G (a0V k s) w wm p r) n:=c4w.2 h
theorem c6H{l:List Int}(h:l.all (fun x=>x==l.headD 0)=true):a00 l.length (l.headD 0)=l:=by
 refine(List.eq_replicate_iff.2 ⟨rfl,fun x g=>?_⟩).symm
 grind
theorem b7T(H:SmallS s)(F:(a1k k l s).2=0):
  SmallS (a1k k l s).1∧(a1k k l s).1.1=k∧a1m (a1k k l s).1 (l.length:Int)∧a1U (a1k k l s).1 (l.length:Int)=some l:=by
 obtain⟨R,G,t,z,I⟩:=c4y F;have L:short l:=by unfold short;omega
 obtain⟨-,X,-⟩:=a7Q L z;obtain⟨N,u,O,C⟩:=a5L G z;have key:∀m:Sub,a1m m (l.length:Int)→c0X m (l.length:Int)=some l→a1U m (l.length:Int)=some l:=fun m i j=>by simp_all[a1U]
 have b:=c1u H k;rcases I with⟨rfl,w,e⟩|⟨rfl,e⟩|⟨y,d,r,f,e⟩
 ·rw[e];have g:a1m (a1G (a0V 0 s) 0 [l.headD 0] z0 []) (l.length:Int):=by
   have S:a0A (l.headD 0)=true:=by
    cases l with
    |nil=>rfl
    |cons a l=>simp_all
   exact⟨by omega,by omega,b5H t,b1p,Int.le_refl _,(by simp:(0:Int)≤30),fun _=>rfl,rfl,by simp_all[a1G],rfl,fun _=>⟨rfl,rfl,rfl⟩,fun h=>absurd rfl h.1⟩
  refine⟨b3b b (by simp) (by simp) (by simp[z0]),rfl,g,key _ g ?_⟩;show some (a00 (l.length:Int).toNat (l.headD 0))=some l
  grind[c6H]
 rw[e];have g:a1m (a1G (a0V 1 s) (a2D l) (a1c l) z0 []) (l.length:Int):=
  ⟨by omega,by omega,b5H t,b1p,a81 _,(by show((a2D l:Nat):Int)≤30;omega),fun h=>absurd h (by simp:¬ (1:Int)=0),by show(((a1c l).length:Nat):Int)=(l.length:Int);omega,u,rfl,fun _=>⟨rfl,rfl,rfl⟩,fun h=>absurd rfl h.2⟩
 refine⟨b3b b (by omega) (by simp) (by simp[z0]),rfl,g,key _ g ?_⟩;show upO ((a2D l:Nat):Int) (a1c l)=some l;omega
 ·rw[e];obtain⟨V,r2,B,M⟩:=c1v y (by simp_all) u f;have n:a5q (l.length:Int) (d.length:Int)=true:=by simp only[a5q,bA,dT];omega
  have hp:=c6F n (l:=r) (by omega) B (by omega);generalize b4v (l.length:Int) (d.length:Int) r=p at hp;have K:=c5A hp

  have q:a1W (a1G (a0V k s) (a2D l) d p r) (l.length:Int)=(d.length:Int)∧backP (a1G (a0V k s) (a2D l) d p r)=some (a1c l):=by
   simp only[a3n]at t;rcases y with rfl|rfl|rfl|rfl
   ·obtain⟨T,U,A⟩:0≤s.2.2.1∧s.2.2.1≤4∧s.2.2.1≤(l.length:Int):=by omega
    simp[a4L]at f;cases hq:(a1V s.2.2.1.toNat (a1c l)).all a0A with
    |false=>simp_all
    |true=>
     simp[hq]at f;obtain⟨rfl,rfl⟩:=f;refine⟨?_,?_⟩;show s.2.2.1=_
     grind
     show b5B ((a1c l).take s.2.2.1.toNat) (a1V s.2.2.1.toNat (a1c l)) s.2.2.1=some (a1c l);have hb:=c1g u (o:=s.2.2.1.toNat) (by omega) ((a1c l).length-s.2.2.1.toNat) 0 (by omega);rw[a28,a83]at hb
     grind[b5B]
   have A:(s.2.2.2.2.2.1.length:Int)≤(l.length:Int):=by omega
   simp only[a4L,show ¬ (3:Int)=2 by simp,if_false,if_true,a21,pJ]at f;obtain⟨v,i,rfl,rfl⟩:=f;obtain⟨j,-,-⟩:=b2X i;refine⟨?_,?_⟩;show((s.2.2.2.2.2.1.length:Nat):Int)=_;simp_all;exact j;have A:(s.2.2.2.2.2.1.length:Int)≤(l.length:Int):=by omega
   simp only[a4L,show ¬ (4:Int)=2 by simp,show ¬ (4:Int)=3 by simp,if_false,if_true,a44,a21,pJ]at f;obtain⟨x,E,v,i,rfl,rfl⟩:=f;obtain⟨P,-,Q⟩:=b4j E;obtain⟨j,-,-⟩:=b2X i;refine⟨?_,?_⟩;show((s.2.2.2.2.2.1.length:Nat):Int)=_;simp_all;show(b1c (x.take s.2.2.2.2.2.1.length) v s.2.2.2.2.2.1 s.2.2.2.1).bind (fun l=>b1z l s.2.2.2.2.1 s.2.2.2.2.2.2.1)=_;simp_all;simp only[a4L,show ¬ (5:Int)=2 by simp,show ¬ (5:Int)=3 by simp,show ¬ (5:Int)=4 by simp,if_false,a21,pJ]at f;obtain⟨v,i,rfl,rfl⟩:=f;obtain⟨j,-,-⟩:=b6D i;exact⟨rfl,j⟩
  have c:¬ (k=0∨k=1):=by omega
  have g:a1m (a1G (a0V k s) (a2D l) d p r) (l.length:Int):=by
   unfold a1m;rw[q.1];exact⟨by omega,by omega,b5H t,b1p,a81 _,(by show((a2D l:Nat):Int)≤30;omega),fun h=>absurd (.inl h) c,rfl,M,B,fun h=>absurd h c,fun _=>⟨(by show((r.length:Nat):Int)=_;omega),hp⟩⟩
  refine⟨b3b b (by omega) (by omega) (by omega),rfl,g,key _ g ?_⟩;have D:¬ (a1G (a0V k s) (a2D l) d p r).1=0:=fun h=>c (.inl h);unfold c0X;rw[if_neg D,q.2];exact C
theorem c4z:SmallS (a1O 0):=c2T 0
def cS(k o sh:Int)(c:List Int)(st:List Stg):Sub:=
 (k,(0:Int),o,sh,(0:Int),c,a00 3 (0:Int),st,([]:List Int),((0:Int),([]:List Int),()),([]:List Int),())
theorem a9a{k o sh:Int}{c:List Int}{st:List Stg}(h:c.length≤40)(g:st.length≤6):SmallS (cS k o sh c st):=
 ⟨h,rfl,g,by simp[cS],by simp[cS],by simp[cS]⟩
def b0M(d:List Int)(o w:Int):List Int×(Int×Int):=(a3l (d,o,w)).getD ([],0,1)
def a9b(d:List Int)(o w:Int):List Sub:=bif (b0M d o w).2.2==0 then[cS 3 0 (b0M d o w).2.1 (b0M d o w).1 []]else[]
def c4A(d:List Int):Int:=(a5j d).getD 0
def b3c(d:List Int):Sub×Bool:=(a3a d).getD (a1O 0,false)
def b5I(d:List Int):List Sub:=bif (b3c d).2 then[(b3c d).1]else[]
def a9c(i:Nat):List Sub:=(List.range i).map fun(j:Nat)=>cS 2 (j:Int) 0 [] []
def a1Y(d:List Int):List Sub:=[cS 0 0 0 [] [],cS 1 0 0 [] [],cS 2 (c4A d) 0 [] []]
def a3j(d:List Int)(k:Int):List Sub:=if 1≤k then a9b d 4 12++a9b d 8 12 else[]
def a9C(d:List Int)(k:Int):List Sub:=if 2≤k then[cS 5 0 0 [] [((16:Int),(4:Int),())],cS 5 0 0 [] [((32:Int),(3:Int),()),((16:Int),(5:Int),())]]++b5I d else[]
def b9B(d:List Int)(k:Int):List Sub:=if 3≤k then a9c 5++(a9b d 1 12++(a9b d 2 12++(a9b d 12 14++a9b d 16 14)))else[]
def a3y(d:List Int)(k:Int):List Sub:=a1Y d++(a3j d k++(a9C d k++b9B d k))
def b6K(d:List Int):Prop:=a3a d=some (b3c d)∧((b3c d).2=true→SmallS (b3c d).1)
theorem c1x(a:d.all a0A=true)(k:d.length≤4096)(h:1≤o)(g:o≤32)(f:2≤w∧w≤16):
  a3l (d,(o:Int),(w:Int))=some (b0M d o w)∧((b0M d o w).2.2=0→(b0M d o w).1.length=o):=by
 obtain⟨c,sh,e,b,i⟩:=c5u a k h g f;unfold b0M;simp_all
theorem a9d(d:List Int)(o w:Int):(a9b d o w).length≤1:=by
 grind[a9b]
theorem a9e(c:d.all a0A=true)(b:d.length≤4096)(f:1≤o)(k:o≤32)(a:2≤w∧w≤16){L:List Sub}(e:L.length<1000):
  a0M ((o:Int),(w:Int),d,L)=some (d,L++a9b d o w):=by
 obtain⟨g,-⟩:=c1x c b f k a;have h:lim (L.length+1)=true:=a0Q (by omega);unfold a0M a9b;simp only[g,oB];cases (b0M d o w).2.2==0 with
 |true=>simp only[cT,h];rfl
 |false=>simp
theorem c4B{L:List Sub}(k:L.length<1000):y0s a1Z ((0:Int),L,d,())=some (L++a9c 5,d,()):=by
 have:=a2u (f:=a1Z) (fun i:Nat=>((i:Int),L++a9c i,d,())) 5 (b:=(L++a9c 5,d,()))
  (fun i a=>by
   have g:decide ((i:Int)<5)=true:=decide_eq_true (by omega);have h:lim ((L++a9c i).length+1)=true:=a0Q (by simp[a9c];omega);have e:(L++a9c i)++[cS 2 (i:Int) 0 [] []]=L++a9c (i+1):=by simp[a9c,List.range_succ]
   rw[←e];simp only[a1Z,g,cT,h,a0C (show i<1000000 by omega)];rfl)
  (by
   rfl)
 simp at this;rw[show a9c 0=[]from rfl,a40]at this;omega
theorem c8c(a:d.all a0A=true)(c:d.length≤4096)(l:b6K d)(k:Int):a5I (d,k)=some (a3y d k):=by
 obtain⟨o,E,F⟩:=b6B (show d.length<100000 by omega) a;have hb:c4A d=(o:Int):=by simp_all[c4A]
 have D:(b5I d).length≤1:=by grind[b5I]
 have N:=a9d d 4 12;have O:=a9d d 8 12;have l1:=a9d d 1 12;have l2:=a9d d 2 12;have G:=a9d d 12 14;have y:=fun L (hL:L.length<1000)=>a9e (L:=L) a c (o:=4) (w:=12) (by omega) (by omega) (by omega) hL;have z:=fun L (hL:L.length<1000)=>a9e (L:=L) a c (o:=8) (w:=12) (by omega) (by omega) (by omega) hL;have v:=fun L (hL:L.length<1000)=>a9e (L:=L) a c (o:=1) (w:=12) (by omega) (by omega) (by omega) hL;have x:=fun L (hL:L.length<1000)=>a9e (L:=L) a c (o:=2) (w:=12) (by omega) (by omega) (by omega) hL;have i:=fun L (hL:L.length<1000)=>a9e (L:=L) a c (o:=12) (w:=14) (by omega) (by omega) (by omega) hL;have j:=fun L (hL:L.length<1000)=>a9e (L:=L) a c (o:=16) (w:=14) (by omega) (by omega) (by omega) hL;simp at y z v x i j;have P:(a1Y d).length=3:=rfl;have n1:(a3j d k).length≤2:=by unfold a3j;split<;>simp<;>omega
 have n2:(a9C d k).length≤3:=by unfold a9C;split<;>simp<;>omega
 have Q:(a9c 5).length=5:=rfl;have M:(bif decide (k≥1)then((a0M ((4:Int),(12:Int),d,a1Y d)).bind fun n=>(a0M ((8:Int),(12:Int),n.1,n.2)).bind fun p=>some (k,p.1,p.2,()))else some (k,d,a1Y d,()))=some (k,d,a1Y d++a3j d k,()):=by
  unfold a3j
  by_cases h:1≤k
  have e:decide (k≥1)=true:=decide_eq_true h;simp only[e,cT,y (a1Y d) (by omega),oB,z (a1Y d++a9b d 4 12) (by grind),if_pos h,aA]
  grind
 have C:a5I (d,k)=(a5j d).bind fun A=>
   (show Option (Int×((List Int)×((List Sub)×Unit)))from bif decide (k≥1)then((a0M ((4:Int),(12:Int),d,[cS 0 0 0 [] [],cS 1 0 0 [] [],cS 2 A 0 [] []])).bind fun n=>(a0M ((8:Int),(12:Int),n.1,n.2)).bind fun p=>some (k,p.1,p.2,()))else some (k,d,[cS 0 0 0 [] [],cS 1 0 0 [] [],cS 2 A 0 [] []],())).bind fun g=>
   (show Option (Int×((List Sub)×((List Int)×Unit)))from bif decide (g.1≥2)then(bif lim (g.2.2.1.length+1)then(bif lim ((g.2.2.1++[cS 5 0 0 [] [((16:Int),(4:Int),())]]).length+1)then((a3a g.2.1).bind fun q=>
    bif q.2 then(bif lim ((g.2.2.1++[cS 5 0 0 [] [((16:Int),(4:Int),())]]++[cS 5 0 0 [] [((32:Int),(3:Int),()),((16:Int),(5:Int),())]]).length+1)then some (g.1,g.2.2.1++[cS 5 0 0 [] [((16:Int),(4:Int),())]]++[cS 5 0 0 [] [((32:Int),(3:Int),()),((16:Int),(5:Int),())]]++[q.1],g.2.1,())else none)
    else some (g.1,g.2.2.1++[cS 5 0 0 [] [((16:Int),(4:Int),())]]++[cS 5 0 0 [] [((32:Int),(3:Int),()),((16:Int),(5:Int),())]],g.2.1,()))else none)else none)else some (g.1,g.2.2.1,g.2.1,())).bind fun t=>
   (show Option ((List Sub)×Unit)from bif decide (t.1≥3)then((y0s a1Z ((0:Int),t.2.1,t.2.2.1,())).bind fun m=>(a0M ((1:Int),(12:Int),m.2.1,m.1)).bind fun r=>(a0M ((2:Int),(12:Int),r.1,r.2)).bind fun s=>
    (a0M ((12:Int),(14:Int),s.1,s.2)).bind fun f=>(a0M ((16:Int),(14:Int),f.1,f.2)).bind fun b=>some (b.2,()))else some (t.2.1,())).bind fun u=>some u.1:=rfl
 have B:[cS 0 0 0 [] [],cS 1 0 0 [] [],cS 2 (o:Int) 0 [] []]=a1Y d:=by unfold a1Y;grind
 have R:(bif decide (k≥2)then(bif lim ((a1Y d++a3j d k).length+1)then(bif lim ((a1Y d++a3j d k++[cS 5 0 0 [] [((16:Int),(4:Int),())]]).length+1)then((a3a d).bind fun q=>
    bif q.2 then(bif lim ((a1Y d++a3j d k++[cS 5 0 0 [] [((16:Int),(4:Int),())]]++[cS 5 0 0 [] [((32:Int),(3:Int),()),((16:Int),(5:Int),())]]).length+1)then some (k,a1Y d++a3j d k++[cS 5 0 0 [] [((16:Int),(4:Int),())]]++[cS 5 0 0 [] [((32:Int),(3:Int),()),((16:Int),(5:Int),())]]++[q.1],d,())else none)
    else some (k,a1Y d++a3j d k++[cS 5 0 0 [] [((16:Int),(4:Int),())]]++[cS 5 0 0 [] [((32:Int),(3:Int),()),((16:Int),(5:Int),())]],d,()))else none)else none)else some (k,a1Y d++a3j d k,d,()):Option (Int×((List Sub)×((List Int)×Unit))))=some (k,a1Y d++(a3j d k++a9C d k),d,()):=by
  unfold a9C
  by_cases h:2≤k
  have e:decide (k≥2)=true:=decide_eq_true h;have H:lim ((a1Y d++a3j d k).length+1)=true:=a0Q (by grind);have I:lim ((a1Y d++a3j d k++[cS 5 0 0 [] [((16:Int),(4:Int),())]]).length+1)=true:=a0Q (by simp;omega);have K:lim ((a1Y d++a3j d k++[cS 5 0 0 [] [((16:Int),(4:Int),())]]++[cS 5 0 0 [] [((32:Int),(3:Int),()),((16:Int),(5:Int),())]]).length+1)=true:=a0Q (by simp;omega);simp only[e,H,I,K,cT,l.1,oB,if_pos h,b5I];cases (b3c d).2<;>simp
  grind
 have S:(bif decide (k≥3)then((y0s a1Z ((0:Int),a1Y d++(a3j d k++a9C d k),d,())).bind fun m=>(a0M ((1:Int),(12:Int),m.2.1,m.1)).bind fun r=>(a0M ((2:Int),(12:Int),r.1,r.2)).bind fun s=>
    (a0M ((12:Int),(14:Int),s.1,s.2)).bind fun f=>(a0M ((16:Int),(14:Int),f.1,f.2)).bind fun b=>some (b.2,()))else some (a1Y d++(a3j d k++a9C d k),()):Option ((List Sub)×Unit))=some (a3y d k,()):=by
  unfold a3y b9B
  by_cases h:3≤k
  have e:decide (k≥3)=true:=decide_eq_true h;simp only[e,cT,c4B (L:=a1Y d++(a3j d k++a9C d k)) (by simp;omega),oB,if_pos h];rw[v _ (by simp;omega)];simp only[oB];rw[x _ (by simp;omega)];simp only[oB];rw[i _ (by simp;omega)];simp only[oB];rw[j _ (by simp;omega)]
  simp
  grind
 rw[C,E,oB,B];simp only[];rw[M];simp only[oB];simp_all
theorem b6L(l:d.all a0A=true)(i:d.length≤4096)(f:b6K d)(k:Int):∀c∈a3y d k,SmallS c:=by
 have g:∀(o w:Nat),1≤o→o≤32→2≤w∧w≤16→∀c∈a9b d o w,SmallS c:=fun o w a b e c h=>by
  obtain⟨-,m⟩:=c1x l i a b e;unfold a9b at h;cases he:(b0M d o w).2.2==0 with
  |false=>simp_all
  |true=>
   rw[he]at h;simp at h
   grind[a9a]
 intro c h;simp[a3y]at h;rcases h with h|h|h|h;simp[a1Y]at h;rcases h with rfl|rfl|rfl<;>exact a9a (by simp) (by simp);unfold a3j at h
 split at h
 simp at h;rcases h with h|h;exact g 4 12 (by omega) (by omega) (by omega) c h;exact g 8 12 (by omega) (by omega) (by omega) c h;simp_all
 ·unfold a9C at h
  split at h
  ·simp only[mA,mC,a96,or_false]at h;rcases h with(rfl|rfl)|h;simp_all[a9a];simp_all[a9a]
   ·unfold b5I at h;cases hg:(b3c d).2 with
    |false=>simp_all
    |true=>
     rw[hg]at h;simp at h;subst h;exact f.2 hg
  simp_all
 unfold b9B at h
 split at h
 simp only[mA,a9c,List.mem_map]at h;rcases h with⟨j,-,rfl⟩|h|h|h|h;simp_all[a9a];exact g 1 12 (by omega) (by omega) (by omega) c h;exact g 2 12 (by omega) (by omega) (by omega) c h;exact g 12 14 (by omega) (by omega) (by omega) c h;exact g 16 14 (by omega) (by omega) (by omega) c h;simp_all
theorem c6I(g:d.length≤256):a3a d=some (a1O 0,false):=by
 have h:a9q (d,(16:Int),(256:Int))=some (0,7):=by
  unfold a9q
  grind
 unfold a3a;simp only[h,oB,show((7:Int) != 0)=true from rfl,cT];rfl
theorem c9j{d:List Int}(g:d.length≤256):b6K d:=by
 have h:=c6I g
 have:b3c d=(a1O 0,false):=by unfold b3c;simp_all
 exact⟨by simp_all,fun f=>by simp_all⟩
def b2v(l:List Int)(a:Int×(Bool×Sub))(c:Sub):Int×(Bool×Sub):=
 bif (a1k c.1 l c).2 != 0 then a else bif !a.2.1 || decide (a4h (a1k c.1 l c).1 (l.length:Int)<a.1)then(a4h (a1k c.1 l c).1 (l.length:Int),true,(a1k c.1 l c).1)else a
def b3d(l:List Int)(cs:List Sub):Int×(Bool×Sub):=cs.foldl (b2v l) (0,false,a1O 0)
theorem b3e{α A β:Type}(g:A→α→A)(h:A→β):∀(l:List α)(a:A),a6O h (a2v (fun a x=>.inl (g a x)) l a)=h (l.foldl g a)
 | [],_=>rfl
 |x::l,a=>b3e g h l (g a x)
theorem c2U(h:SmallS s):SmallS (a1k k l s).1:=by
 by_cases h0:(a1k k l s).2=0
 exact(b7T h h0).1
 have:(a1k k l s).1=a1O 0:=by
  unfold a1k at h0⊢
  grind
 simp_all[c4z]
theorem c5B{cs:List Sub}(j:∀c∈cs,SmallS c)(p:l.length≤4096)(o:cs.length<1000):
  y0s a6c (l,(0:Int),false,cs,((cs.length:Nat):Int),(0:Int),a1O 0,a1O 0,())=some (a1O 0,(b3d l cs).2.2,()):=by
 have:=a1A (f:=a6c) cs (fun i a=>(l,a.1,a.2.1,cs,((cs.length:Nat):Int),(i:Int),a1O 0,a.2.2,())) (fun a x=>.inl (b2v l a x)) (fun _ _=>True) (fun a=>(a1O 0,a.2.2,()))
  (fun i g a _=>by
   refine⟨fun n h=>?_,fun b hb=>by grind⟩;simp at h;subst h;refine⟨?_,trivial⟩;have d:=j _ (a05 g);have e:=c3f (c2U (k:=cs[i].1) (l:=l) d) (l.length:Int);unfold b2v;simp only[a6c,dlt g,cT,a0B g,oB,c8b d cs[i].1 (show l.length≤100000 by omega),e,a0C (show i<1000000 by omega)];cases (a1k cs[i].1 l cs[i]).2 != 0 with
   |true=>rfl
   |false=>
    have m:=a0C (show i<1000000 by omega)
    grind)
  (fun a _=>by simp_all[a6c]) (a:=((0:Int),false,a1O 0)) trivial
 simp at this;rw[this,b3e];rfl
theorem c8d(v:1≤l.length)(c:l.length≤4096)(a:l.all a0A=true)(h:b6K (a1c l))(u:0≤k)(x:k≤3):
  a4E (l,k)=some ((b3d l (a3y (a1c l) k)).2.2,0):=by
 have d:short l:=by unfold short;omega
 obtain⟨r,s,-⟩:=a7Q d a;obtain⟨e,b,t,-⟩:=a5L c a;have i:decide (((l.length:Nat):Int)<1)=false:=decide_eq_false (by omega);have j:decide (((l.length:Nat):Int) > 4096)=false:=decide_eq_false (by omega);have m:decide (k<0)=false:=decide_eq_false (by omega);have n:decide (k > 3)=false:=decide_eq_false (by omega);have f:(a3y (a1c l) k).length<1000:=by
  have g:=fun o w=>a9d (a1c l) o w;have y:=g 4 12;have z:=g 8 12;have A:=g 1 12;have B:=g 2 12;have C:=g 12 14;have D:=g 16 14;have p:(b5I (a1c l)).length≤1:=by grind[b5I]
  simp only[a3y,a1Y,a3j,a9C,b9B,lN]
  grind[a9c]
 have hb:=c5B (l:=l) (b6L b (by omega) h k) c f;have q:a1O 0=((0:Int),(0:Int),(0:Int),(0:Int),(0:Int),([]:(List Int)),a00 3 (0:Int),([]:(List (Int×Int×Unit))),([]:(List Int)),((0:Int),([]:(List Int)),()),([]:(List Int)),()):=rfl;unfold a4E;simp only[←q,i,j,m,n,cF,oB,a3L d,a,bT,r,b2p s (show l.length<100000 by omega),e,a4k,show((0:Int) != 0)=false from rfl,c8c b (show(a1c l).length≤4096 by omega) h,hb]
theorem a9f(v:Int)(n:Nat)(L:List Int):(a0L v n L).length=L.length+(a0L v n []).length:=by
 grind[a0L]
theorem b1I(n:Nat):∀(l L:List Int),(a1y n l L).length=L.length+(a1y n l []).length
 | [],L=>by rfl
 |x::l,L=>by
  show(a1y n l (a0L (a0S x n) n L)).length=L.length+(a1y n l (a0L (a0S x n) n [])).length;rw[b1I n l,b1I n l (a0L (a0S x n) n []),a9f];omega
theorem b1Z:∀(st:List Stg)(L:List Int),(a2O st L).length=L.length+(a2O st []).length
 | [],L=>by rfl
 |s::st,L=>by
  show(a2O st (a5t s L)).length=L.length+(a2O st (a5t s [])).length;rw[b1Z st,b1Z st (a5t s [])];unfold a5t;rw[a9f,a9f _ 5 L,a9f _ 4 (a0L _ 5 [])];omega
theorem c4C(s:Sub)(L:List Int):(a5u s L).length=L.length+(a5u s []).length:=by
 grind[a5u,b1I,a9f]
theorem b8p(s:Sub)(L:List Int):(a2i s L).length=L.length+(a2i s []).length:=by
 grind[a2i,a9f,c4C,b1I,b1Z]
theorem c6J(g:0≤s.1∧s.1≤5)(f:0≤s.2.1∧s.2.1≤30)(h:s.2.2.2.2.2.2.2.2.1.all a0A=true)(L:List Int):(a9y s L).length=L.length+13:=by
 grind[a01,a1L,a9y,a3c,a8Z]
def c4D(s:Sub)(zn:List Nat):Nat:=
 13+(a2i s []).length+a0G s.2.2.2.2.2.2.2.2.1*s.2.2.2.2.2.2.2.2.1.length+if s.1=0∨s.1=1 then 0 else 4+a4K zn s.2.2.2.2.2.2.2.2.2.1.2.1 s.2.2.2.2.2.2.2.2.2.2.1
theorem b3f(h:a3n k s n):0≤k∧k≤5:=by
 rcases h with h|h|⟨h,-⟩|⟨h,-⟩|⟨h,-⟩|⟨h,-⟩<;>omega
theorem b2a(h:(a1U s n).isSome=true):a1m s n:=by
 grind[a1U]
theorem c8e(h:(a1U s n).isSome=true)(d:s.1≠0∧s.1≠1→PartsOk s.2.2.2.2.2.2.2.2.2.1 n ((s.2.2.2.2.2.2.2.2.1.length:Nat):Int) s.2.2.2.2.2.2.2.2.2.2.1 zn)(L:List Int):
  (a4r s zn L).length=L.length+c4D s zn:=by
 obtain⟨e,i,b,-,k,a,-,-,f,-⟩:=b2a h;have c:=a1L f;have g:=c6J (b3f b) ⟨k,a⟩ f L;unfold a4r c4D
 by_cases hk:s.1=0∨s.1=1
 rw[if_pos hk,if_pos hk,b1G (by omega),b8p,g];omega;rw[if_neg hk,if_neg hk,b9t (d (not_or.1 hk)),b1G (by omega),b8p,g];omega
theorem c6K(h:SmallS s)(f:(a1U s n).isSome=true):∃g,a4h s n=((c4D s g:Nat):Int)∧(s.1≠0∧s.1≠1→PartsOk s.2.2.2.2.2.2.2.2.2.1 n ((s.2.2.2.2.2.2.2.2.1.length:Nat):Int) s.2.2.2.2.2.2.2.2.2.2.1 g):=by
 obtain⟨e,b,-,-,-,a,-⟩:=b2R h (n:=n) (L:=[]) (by simp);obtain⟨-,g,-,k⟩:=a f;refine⟨g,?_,k⟩;unfold a4h;rw[if_pos f,←b7R k,c8e f k]
 simp
structure Shifted (l m:List Int) (n:Nat):Prop where
 len:m.length=l.length
 wl:l.all a0A=true
 wm:m.all a0A=true
 down:a1c m=a1c l
 waste:a2D m=a2D l+n
 fl:l.all (fun x=>x==l.headD 0)=false
 fm:m.all (fun x=>x==m.headD 0)=false
structure BestIs (l:List Int) (cs:List Sub) (a:Int×(Bool×Sub)):Prop where
 one:a.2.1=true→∃c∈cs,(a1k c.1 l c).2=0∧a.2.2=(a1k c.1 l c).1∧a.1=a4h a.2.2 (l.length:Int)
 least:∀c∈cs,(a1k c.1 l c).2=0→a.2.1=true∧a.1≤a4h (a1k c.1 l c).1 (l.length:Int)
theorem b4m{l:List Int}:∀(cs ds:List Sub)(a:Int×(Bool×Sub)),BestIs l ds a→BestIs l (ds++cs) (cs.foldl (b2v l) a)
 | [],ds,a,h=>by simp_all
 |c::cs,ds,a,h=>by
  rw[b00,show ds++c::cs=(ds++[c])++cs by simp];refine b4m cs (ds++[c]) _ ?_
  unfold b2v
  by_cases h0:(a1k c.1 l c).2=0
  ·have n1:((a1k c.1 l c).2 != 0)=false:=by simp_all
   rw[n1,cF];cases hq:(!a.2.1 || decide (a4h (a1k c.1 l c).1 (l.length:Int)<a.1))with
   |true=>
    refine⟨fun _=>⟨c,by simp,h0,rfl,rfl⟩,fun d f k=>⟨rfl,?_⟩⟩;rcases mA.1 f with f|f;obtain⟨e,i⟩:=h.least d f k
    grind
    simp_all
   |false=>
    simp only[a75,Bool.not_eq_false',decide_eq_false_iff_not]at hq;refine⟨fun b=>?_,fun d f k=>?_⟩;obtain⟨d,f,g⟩:=h.one b
    grind
    rcases mA.1 f with f|f;exact h.least d f k;simp_all
  have n1:((a1k c.1 l c).2 != 0)=true:=by simp_all
  rw[n1,cT];refine⟨fun b=>?_,fun d f k=>?_⟩;obtain⟨d,f,g⟩:=h.one b
  grind
  rcases mA.1 f with f|f;exact h.least d f k;simp_all
theorem b7U(l:List Int)(cs:List Sub):BestIs l cs (b3d l cs):=
 b4m cs [] _ ⟨fun h=>(by grind),fun _ h=>(by grind)⟩
theorem b3g(h:1≤l.length)(g:l.length≤4096)(f:l.all a0A=true):a1k 1 l (cS 1 0 0 [] [])=(a1G (a0V 1 (cS 1 0 0 [] [])) (a2D l) (a1c l) z0 [],0):=by
 unfold a1k;rw[if_neg (fun q=>q ⟨h,g,.inr (.inl rfl)⟩),if_neg (by simp_all),if_neg (by simp),if_pos rfl]
theorem c4E(h:1≤l.length)(g:l.length≤4096)(f:l.all a0A=true)(d:List Int)(k:Int):(b3d l (a3y d k)).2.1=true:=
 ((b7U l (a3y d k)).least (cS 1 0 0 [] []) (by simp[a3y,a1Y]) (by rw[show(cS 1 0 0 [] []).1=1 from rfl,b3g h g f])).1
def inW(x:Int)(v:Nat):Bool:=decide (x=0) || a1u x (v:Int)
theorem c6L{x:Int}{v:Nat}:a1u x (v:Int)=true↔1≤v∧v≤31∧-((2^(v-1):Nat):Int)≤x∧x≤((2^(v-1):Nat):Int)-1:=by
 by_cases hv:1≤v∧v≤31
 have e:((v:Int)-1)=((v-1:Nat):Int):=by omega
 have hp:2^(v-1)≤2^30:=a08 (by omega) (by omega);have a:=a16 (v-1);have g:A0n .i64 1 ((v-1:Nat):Int)=((2^(v-1):Nat):Int):=c1h (by omega);have f:A0n .i64 (-1) ((v-1:Nat):Int)=-((2^(v-1):Nat):Int):=by
  grind[IntKind.bits,A0n,a0D]
 have k:wrap .i64 (((2^(v-1):Nat):Int)-1)=((2^(v-1):Nat):Int)-1:=a0D (by omega);simp only[a1u,e,g,f,k,bA,dT];omega;constructor;intro h;simp[a1u]at h;omega;omega
theorem b4w:inW x v=true↔x=0∨(1≤v∧v≤31∧-((2^(v-1):Nat):Int)≤x∧x≤((2^(v-1):Nat):Int)-1):=by
 simp_all[inW,c6L]
theorem c6M{x:Int}{v w:Nat}(h:v≤w)(c:w≤31)(g:inW x v=true):inW x w=true:=by
 rw[b4w]at g⊢;rcases g with g|⟨f,k,a,b⟩;omega
 have:2^(v-1)≤2^(w-1):=a08 (by omega) (by omega)
 omega
theorem c6N{x:Int}(h:a0A x=true):inW x 31=true:=by
 have:=a1B.1 h
 rw[b4w];omega
theorem b8q{x:Int}(j:a0A x=true):∀(k w:Nat),w+k=32→w≤31→w≤a1F x k w∧a1F x k w≤31∧inW x (a1F x k w)=true∧∀v,w≤v→inW x v=true→v≤31→a1F x k w≤v
 |0,w,h,g=>absurd g (by omega)
 |k+1,w,h,g=>by
  by_cases hin:inW x w=true
  ·have:a1F x (k+1) w=w:=by
    unfold a1F;cases a:(x != 0)&&!a1u x (w:Int)with
    |false=>rfl
    |true=>
     simp at a;simp_all[inW]
   simp_all
  have a:((x != 0)&&!a1u x (w:Int))=true:=by
   simp_all[inW]
  have i:w≠31:=fun e=>hin (by simp_all[c6N]);have e:a1F x (k+1) w=a1F x k (w+1):=by
   show(bif (x != 0)&&!a1u x (w:Int)then a1F x k (w+1)else w)=_
   grind
  obtain⟨l,b,c,d⟩:=b8q j k (w+1) (by omega) (by omega);rw[e];refine⟨by omega,b,c,fun v hv f g=>d v ?_ f g⟩;rcases Nat.lt_or_ge w v with q|q;exact q
  have:v=w:=by omega
  exact absurd (this▸f) hin
theorem a8J:∀(l:List Int)(w:Nat),l.all a0A=true→w≤31→
  w≤l.foldl (fun w x=>a1F x (32-w) w) w∧l.foldl (fun w x=>a1F x (32-w) w) w≤31∧(∀x∈l,inW x (l.foldl (fun w x=>a1F x (32-w) w) w)=true)∧∀v,w≤v→v≤31→(∀x∈l,inW x v=true)→l.foldl (fun w x=>a1F x (32-w) w) w≤v
 | [],w,_,h31=>⟨a27 _,h31,by simp,fun v hv _ _=>hv⟩
 |x::l,w,h,h31=>by
  rw[a07,bA]at h;obtain⟨i,b,j,m⟩:=b8q h.1 (32-w) w (by omega) h31;obtain⟨c,a,d,e⟩:=a8J l (a1F x (32-w) w) h.2 b;simp only[b00];refine⟨by omega,a,fun y k=>?_,fun v hv f g=>?_⟩
  ·rcases mC.1 k with rfl|k
   all_goals grind[c6M]
  simp_all
theorem c1y{l:List Int}(h:l.all a0A=true):∀x∈l,inW x (a0G l)=true:=(a8J l 0 h (by omega)).2.2.1
theorem c2V(h:l.all a0A=true)(hv:v≤31)(g:∀x∈l,inW x v=true):a0G l≤v:=(a8J l 0 h (by omega)).2.2.2 v (by omega) hv g
theorem c6O{x:Int}{w v:Nat}(e:w≤30)(k:((2^w:Nat):Int) ∣ x)(h:inW x v=true):inW (A0o .i64 x (w:Int)) v=true:=by
 obtain⟨c,rfl⟩:=k;rw[c6C (by omega)];rw[b4w]at h⊢;have hp:(1:Int)≤((2^w:Nat):Int):=by have:=a16 w;omega
 generalize ((2^w:Nat):Int)=p at h hp;rcases h with h|⟨g,f,b,d⟩
 grind[Int.mul_eq_zero]
 refine .inr ⟨g,f,?_,?_⟩
 by_cases hc:0≤c
 omega;have a:=a47 (show 0≤p-1 by omega) (show 0≤-c by omega)
 grind
 by_cases hc:0≤c
 have a:=a47 (show 0≤p-1 by omega) hc
 grind
 omega
theorem c4F(k:l.length≤4096)(h:l.all a0A=true):a0G (a1c l)≤a0G l:=by
 obtain⟨-,e,c⟩:=a7Q (show short l by unfold short;omega) h;obtain⟨-,f,-,-⟩:=a5L k h;have a:∀x∈l,((2^a2D l:Nat):Int) ∣ x:=by
  rcases c with⟨g,-⟩|⟨-,-,g,-⟩
  all_goals grind[a85]
 refine c2V f (a1L h) fun y b=>?_
 obtain⟨x,d,rfl⟩:=List.mem_map.1 b
 grind[c6O,c1y]
theorem c4G(a:1≤l.length)(h:l.length≤4096)(g:l.all a0A=true):a4h (a1k 1 l (cS 1 0 0 [] [])).1 (l.length:Int)=((13+a0G (a1c l)*l.length:Nat):Int):=by
 have b:SmallS (cS 1 0 0 [] []):=a9a (by simp) (by simp);have d:=b3g a h g;obtain⟨a1,-,-,f⟩:=b7T b (k:=1) (l:=l) (by grind);obtain⟨i,c,-⟩:=c6K a1 (by rw[f];rfl);obtain⟨-,-,j,-⟩:=a5L h g;rw[c,d];have e:c4D (a1G (a0V 1 (cS 1 0 0 [] [])) (a2D l) (a1c l) z0 []) i=13+0+a0G (a1c l)*(a1c l).length+0:=rfl;simp_all
theorem c4H{l:List Int}(b:1≤l.length)(f:l.length≤4096)(a:l.all a0A=true)(g:b6K (a1c l)){k:Int}(d:0≤k)(t:k≤3):
  ∃s,a4E (l,k)=some (s,0)∧SmallS s∧a1U s (l.length:Int)=some l∧s=(b3d l (a3y (a1c l) k)).2.2∧a4h s (l.length:Int)=(b3d l (a3y (a1c l) k)).1∧a4h s (l.length:Int)≤((13+a0G l*l.length:Nat):Int)∧
   (∀c∈a3y (a1c l) k,(a1k c.1 l c).2=0→a4h s (l.length:Int)≤a4h (a1k c.1 l c).1 (l.length:Int)):=by
 obtain⟨-,p,u,-⟩:=a5L f a;have hb:=c8d b f a g d t;have j:=c4E b f a (a1c l) k;obtain⟨c,i,q,r,o⟩:=(b7U l (a3y (a1c l) k)).one j;have e:=b6L p (by omega) g k c i;obtain⟨m,-,-,n⟩:=b7T e q;rw[←r]at m n;have h:∀c∈a3y (a1c l) k,(a1k c.1 l c).2=0→a4h (b3d l (a3y (a1c l) k)).2.2 (l.length:Int)≤a4h (a1k c.1 l c).1 (l.length:Int):=fun c i d=>by
  rw[←o];exact((b7U l (a3y (a1c l) k)).least c i d).2
 refine⟨_,hb,m,n,rfl,o.symm,?_,h⟩;have hp:=h (cS 1 0 0 [] []) (by simp[a3y,a1Y]) (by rw[show(cS 1 0 0 [] []).1=1 from rfl,b3g b f a]);rw[show(cS 1 0 0 [] []).1=1 from rfl,c4G b f a]at hp
 have:=a25 l.length (c4F f a)
 omega
@[reducible] def Rd:Type:=(List Int)×(Int×(Int×Unit))
def a1p(L:List Int):Prop:=∀b∈L,b=0∨b=1
def b0Q(bs:List Int)(i:Nat):Bool:=(bs.getD (i / 8) 0).toNat.testBit (7-i%8)
theorem or8{x y:Nat}(h:x<256)(g:y<256):bits .u8 .or (x:Int) (y:Int)=((x ||| y:Nat):Int):=by
 show wrap .u8 (((a04 8 (x:Int)) ||| (a04 8 (y:Int))).toNat:Int)=_;rw[a24,a24,a70,a29,a29,a23 h,a23 g,a8E]
 have:x ||| y<2^8:=a87 h g
 omega
theorem d3M{b:Int}(hb:b=0∨b=1){r:Nat}(h:r<8):A0n .u8 b (7-(r:Int))=((b.toNat*2^(7-r):Nat):Int):=by
 have key:∀r:Fin 8,A0n .u8 0 (7-(r.1:Int))=((0*2^(7-r.1):Nat):Int)∧A0n .u8 1 (7-(r.1:Int))=((1*2^(7-r.1):Nat):Int):=by decide +kernel
 rcases hb with rfl|rfl;exact(key ⟨r,h⟩).1;exact(key ⟨r,h⟩).2
theorem c6P{x:Nat}(h:x<256){r:Nat}(g:r<8):bits .u8 .and (A0o .u8 (x:Int) (7-(r:Int))) 1=if x.testBit (7-r)then 1 else 0:=by
 have e:A0o .u8 (x:Int) (7-(r:Int))=((x / 2^(7-r):Nat):Int):=by
  show a78 (x:Int) (2^(min (7-(r:Int)).toNat 8))=_
  grind
 rw[e];have f:x / 2^(7-r)<256:=a38 (a32 _ _) h;show wrap .u8 (((a04 8 ((x / 2^(7-r):Nat):Int)) &&& (a04 8 1)).toNat:Int)=_
 grind[a04,a8E]
theorem c5C(L:List Int)(b:Int)(i:Nat):(L++[b]).getD i 0=if i=L.length then b else L.getD i 0:=by
 grind
theorem c1z(h:List Int)(k:Nat)(y:Int)(g:k<h.length)(j:Nat):(h.set k y).getD j 0=if j=k then y else h.getD j 0:=by
 grind
theorem b8r:∀(n:Nat)(L:List Int),L.length=n→a1p L→(∀j,0≤(wL L).1.getD j 0∧(wL L).1.getD j 0<256)∧∀i,b0Q (wL L).1 i=decide (L.getD i 0=1)
 |0,L,h,_=>by
  simp_all[wL,b0Q]
 |n+1,L,h,hL=>by
  obtain⟨g,b,rfl⟩:∃g b,L=g++[b]:=by
   rcases a51 L with rfl|⟨g,b,e⟩
   all_goals simp_all
  have hb:b=0∨b=1:=hL b (by simp);obtain⟨v,w⟩:=b8r n g (by simp_all) fun c D=>hL c (by grind);obtain⟨o,p⟩:=a4O g;rw[b7O];generalize wL g=wr at o p v w⊢;obtain⟨d,m,u⟩:=wr;have o:m=(g.length:Int):=o;have p:d.length=(g.length+7) / 8:=p;subst o;have e8:((g.length:Int) / 8).toNat=g.length / 8:=by rfl
  have r:(g.length:Int)%8=((g.length%8:Nat):Int):=by rfl
  obtain⟨f,a,y,z⟩:∃f:List Int,(if(g.length:Int)%8=0 then d++[0]else d)=f∧g.length / 8<f.length∧∀j,f.getD j 0=d.getD j 0:=by
   grind
  rw[r]at a;have C:g.length%8<8:=a41 _ (by simp);obtain⟨x,s⟩:∃x:Nat,d.getD (g.length / 8) 0=(x:Int):=a01 (v _).1;have k:x<256:=by
   grind
  have t:b.toNat*2^(7-g.length%8)<256:=by
   have hp:2^(7-g.length%8)≤2^7:=a08 (by simp) (by omega)
   grind
  have B:x ||| b.toNat*2^(7-g.length%8)<2^8:=a87 k t;have l:(b7N (d,(g.length:Int),u) b).1=f.set (g.length / 8) ((x ||| b.toNat*2^(7-g.length%8):Nat):Int):=by
   unfold b7N;simp only[a,e8,r];rw[z,s,d3M hb C,or8 k t]
  rw[l];refine⟨fun j=>?_,fun i=>?_⟩
  grind[c1z]
  ·unfold b0Q;rw[c1z _ _ _ y,c5C];have q:=w i;unfold b0Q at q
   by_cases hk:i / 8=g.length / 8
   ·rw[if_pos hk,tN,Nat.testBit_or];rw[hk,s,tN]at q;rw[q];have A:(b.toNat*2^(7-g.length%8)).testBit (7-i%8)=(decide (b=1)&&decide (i=g.length)):=by
     rcases hb with rfl|rfl
     all_goals grind
    grind
   grind
theorem c8f(h:a1p L):(∀j,0≤(wL L).1.getD j 0∧(wL L).1.getD j 0<256)∧∀i,b0Q (wL L).1 i=decide (L.getD i 0=1):=b8r _ L rfl h
def rdr(P R:List Int):Rd:=((wL (P++R)).1,(P.length:Int),(0:Int),())
theorem b7V(k:a1p L)(o:L.length<1000000000)(l:i<L.length)(t:Int×(Int×Unit)):
  a1v (((wL L).1,t),(i:Int))=some (L.getD i 0,(wL L).1,t):=by
 obtain⟨d,e⟩:=c8f k;obtain⟨-,n⟩:=a4O L;have m:a26 (i:Int) 8=((i%8:Nat):Int):=by rfl
 have j:a54 (i:Int) 8=((i / 8:Nat):Int):=by rfl
 have b:wrap .i64 ((i / 8:Nat):Int)=((i / 8:Nat):Int):=a0D (by omega);have c:wrap .i64 (7-((i%8:Nat):Int))=7-((i%8:Nat):Int):=a0D (by omega);have g:decide (7-((i%8:Nat):Int)<0)=false:=by grind
 have hb:i / 8<(wL L).1.length:=by omega
 have f:(wL L).1[i / 8]=(wL L).1.getD (i / 8) 0:=by grind
 unfold a1v;simp only[m,j,b,c,g,a0B hb,oB,cF];obtain⟨x,a⟩:∃x:Nat,(wL L).1.getD (i / 8) 0=(x:Int):=a01 (d _).1;have h:x<256:=by grind
 rw[f,a,c6P h (a41 _ (by simp))]
 have:=e i
 unfold b0Q at this;rw[a,tN]at this;rw[this];have hv:L.getD i 0=0∨L.getD i 0=1:=by
  have:L.getD i 0=L[i]:=by simp_all
  rw[this];exact k _ (a05 l)
 grind
theorem c5D(hv:v<18446744073709551616)(h:i≤64):a5J (v:Int) i=((v / 2^i%2:Nat):Int):=by
 unfold a5J;rw[a5y h];have g:v / 2^i<18446744073709551616:=a38 (a32 _ _) hv;show wrap .u8 (wrap .u64 (((a04 64 ((v / 2^i:Nat):Int)) &&& (a04 64 1)).toNat:Int))=_
 grind[a04,a0U,a8E]
theorem a1p.app{A B:List Int}(h:a1p A)(g:a1p B):a1p (A++B):=fun b hb=>(mA.1 hb).elim (h b) (g b)
theorem orU(k:a<18446744073709551616)(hb:b<2)(f:a%2=0):bits .u64 .or (a:Int) (b:Int)=((a+b:Nat):Int):=by
 show wrap .u64 (((a04 64 (a:Int) ||| a04 64 (b:Int)).toNat:Nat):Int)=_;have g:(a04 64 (a:Int)).toNat=a:=by simp_all
 have h:(a04 64 (b:Int)).toNat=b:=by grind
 rw[a70,g,h];have e:a ||| b=a+b:=by
  have:=a58 (i:=1) (b:=b) (by omega) (a / 2)
  grind
 grind[a0U]
theorem c1A{v:Nat}(hv:v<9223372036854775808){n:Nat}(q:n≤62):∀(m:Nat)(P R:List Int),m≤n→a1p (P++(pb (v:Int) m++R))→(P++(pb (v:Int) m++R)).length<1000000000→
  y0s a3u (((v / 2^m:Nat):Int),(n:Int),((n-m:Nat):Int),rdr P (pb (v:Int) m++R),())=some ((v:Int),rdr (P++pb (v:Int) m) R,())
 |0,P,R,_,_,_=>by
  grind[a0H,a3u,pb]
 |m+1,P,R,hm,hok,hlen=>by
  have l:decide (((n-(m+1):Nat):Int)<(n:Int))=true:=by grind
  have a:a1v (rdr P (pb (v:Int) (m+1)++R),(P.length:Int))=some (a5J v m,rdr P (pb (v:Int) (m+1)++R)):=by
   have:=b7V hok hlen (i:=P.length) (by simp[pb]) ((P.length:Int),(0:Int),())
   rw[show(P++(pb (v:Int) (m+1)++R)).getD P.length 0=a5J v m from by simp_all[pb]]at this;exact this
  have g:=c5D (v:=v) (by omega) (i:=m) (by omega);have b:v / 2^m%2<2:=a41 _ (by simp);have f:v / 2^(m+1)=v / 2^m / 2:=by grind[Nat.div_div_eq_div_mul]
  have p:v / 2^m≤v:=a32 _ _;have d:A0n .u64 ((v / 2^(m+1):Nat):Int) 1=((v / 2^(m+1)*2^1:Nat):Int):=a9K (o:=1) (by omega) (by omega);have h:bits .u64 .or ((v / 2^(m+1)*2^1:Nat):Int) (wrap .u64 (a5J (v:Int) m))=((v / 2^m:Nat):Int):=by
   rw[g,a0U (by omega),orU (by omega) b (by omega),f];omega
  have e:wrap .i64 (((n-(m+1):Nat):Int)+1)=((n-m:Nat):Int):=by grind[a0D]
  have j:wrap .i64 ((P.length:Int)+1)=(((P++[a5J v m]).length:Nat):Int):=by
   grind[a0D]
  have k:P++(pb (v:Int) (m+1)++R)=(P++[a5J v m])++(pb (v:Int) m++R):=by simp[pb]
  have c:((rdr P (pb (v:Int) (m+1)++R)).1,(((P++[a5J v m]).length:Nat):Int),(rdr P (pb (v:Int) (m+1)++R)).2.2)=rdr (P++[a5J v m]) (pb (v:Int) m++R):=by
   unfold rdr;simp_all
  rw[a0I (s':=(((v / 2^m:Nat):Int),(n:Int),((n-m:Nat):Int),rdr (P++[a5J v m]) (pb (v:Int) m++R),())) (by
   simp only[a3u,l,cT];rw[show(rdr P (pb (v:Int) (m+1)++R)).2.1=(P.length:Int)from rfl,a];simp only[oB,d,h,e];rw[show(rdr P (pb (v:Int) (m+1)++R)).2.1=(P.length:Int)from rfl,j,c])]
  rw[c1A hv q m _ _ (by omega) (by simp_all) (by simp_all)];simp[pb]
theorem c5E{n:Nat}(a:n≤62)(hv:v<2^n)(g:a1p (P++(pb (v:Int) n++R)))(k:(P++(pb (v:Int) n++R)).length<200000000):
  a0E (rdr P (pb (v:Int) n++R),(n:Int))=some ((v:Int),rdr (P++pb (v:Int) n) R):=by
 have h:v<9223372036854775808:=Nat.lt_of_lt_of_le hv (Nat.le_trans (a08 (by simp) a) (by simp));have f:=c1A h a n P R (by omega) g (by omega);rw[a66 hv,a56]at f;simp at f;obtain⟨-,e⟩:=a4O (P++(pb (v:Int) n++R));have j:=b1C (v:Int) n;have i:(P++(pb (v:Int) n++R)).length=P.length+n+R.length:=by grind
 have e8:wrap .i64 ((8:Int)*(((wL (P++(pb (v:Int) n++R))).1.length:Nat):Int))=(8:Int)*(((wL (P++(pb (v:Int) n++R))).1.length:Nat):Int):=a0D (by omega);have d:wrap .i64 ((8:Int)*(((wL (P++(pb (v:Int) n++R))).1.length:Nat):Int)-(P.length:Int))=(8:Int)*(((wL (P++(pb (v:Int) n++R))).1.length:Nat):Int)-(P.length:Int):=a0D (by omega);have b:decide ((n:Int)<0)=false:=by simp
 have c:decide ((n:Int) > 64)=false:=by grind
 have l:decide ((n:Int) > (8:Int)*(((wL (P++(pb (v:Int) n++R))).1.length:Nat):Int)-(P.length:Int))=false:=by
  grind
 unfold a0E a2m;rw[show(rdr P (pb (v:Int) n++R)).2.2.1=0 from rfl];simp only[bne_self_eq_false,cF,b,c,oB];rw[show(rdr P (pb (v:Int) n++R)).1=(wL (P++(pb (v:Int) n++R))).1 from rfl,show(rdr P (pb (v:Int) n++R)).2.1=(P.length:Int)from rfl,e8,d]
 grind
def b2b(n:Nat)(x:Int):Prop:=-((2^n:Nat):Int)≤2*x∧2*x<((2^n:Nat):Int)
theorem b8s{n:Nat}(f:n≤62)(x:Int):∃v:Nat,a0S x n=(v:Int)∧v<2^n∧(v:Int)=x%((2^n:Nat):Int):=by
 have k:wrap .u64 x=x%18446744073709551616:=by rfl
 obtain⟨y,h⟩:∃y:Nat,x%18446744073709551616=(y:Int):=a01 (Int.emod_nonneg _ (by simp));have g:y<18446744073709551616:=by omega
 refine⟨y%2^n,?_,a41 _ (a16 n),?_⟩;simp_all[a0S,c1c];rw[Int.natCast_emod,←h];refine Int.emod_emod_of_dvd x ?_
 have:(2:Nat)^n ∣ 2^64:=a55 2 (by omega)
 exact a20.2 this
theorem c5F{n:Nat}(q:n≤62)(t:b2b n x)(c:a1p (P++(pb (a0S x n) n++R)))(g:(P++(pb (a0S x n) n++R)).length<200000000):
  a0X (rdr P (pb (a0S x n) n++R),(n:Int))=some (x,rdr (P++pb (a0S x n) n) R):=by
 obtain⟨v,hv,b,f⟩:=b8s q x;rw[hv]at c g⊢;have a:=c5E q b c g;obtain⟨i,j⟩:=t;have y:=a16 n;have o:(v:Int)=x∧0≤x∨(v:Int)=x+((2^n:Nat):Int)∧x<0:=by
  by_cases h0:0≤x
  exact .inl ⟨by rw[f];exact a88 h0 (by omega),h0⟩;refine .inr ⟨?_,by omega⟩;rw[f,←Int.add_emod_right];exact a88 (by omega) (by omega)
 unfold a0X;simp[a];rw[show(rdr (P++pb (v:Int) n) R).2.2.1=0 from rfl]
 simp
 cases n with
 |zero=>
  grind
 |succ k=>
  have l:(((k+1:Nat):Int)==0)=false:=by rfl
  have s:wrap .i64 ((64:Int)-((k+1:Nat):Int))=((64-(k+1):Nat):Int):=by grind[a0D]
  have r:decide (((64-(k+1):Nat):Int)<0)=false:=by simp
  simp only[l,cF,s,r];have p:64-(k+1)+(k+1)=64:=by omega
  generalize 64-(k+1)=m at p⊢;have u:2^m*2^(k+1)=18446744073709551616:=by rw[←Nat.pow_add,p]
  have d:((2^m:Nat):Int)*((2^(k+1):Nat):Int)=18446744073709551616:=by omega
  have hp:=a16 m;have w:A0n .u64 (v:Int) (m:Int)=(v:Int)*((2^m:Nat):Int):=by
   show wrap .u64 ((v:Int)*2^(min (m:Int).toNat 64))=_;rw[tN,a69 (by omega)];have e:(2:Int)^m=((2^m:Nat):Int):=by simp
   rw[e];refine a0U ⟨a47 (by omega) (by omega),?_⟩
   have:v*2^m<2^(k+1)*2^m:=Nat.mul_lt_mul_of_pos_right b hp
   grind
  have b1:-9223372036854775808≤x*((2^m:Nat):Int):=by
   have:=Int.mul_le_mul_of_nonneg_right i (show(0:Int)≤((2^m:Nat):Int)by omega)
   grind
  have b2:x*((2^m:Nat):Int)<9223372036854775808:=by
   have:=Int.mul_lt_mul_of_pos_right j (show(0:Int)<((2^m:Nat):Int)by omega)
   grind
  have A:wrap .i64 ((v:Int)*((2^m:Nat):Int))=x*((2^m:Nat):Int):=by
   rcases o with⟨h,-⟩|⟨h,-⟩
   grind[a0D]
   rw[h,Int.add_mul,Int.mul_comm ((2^(k+1):Nat):Int),d]
   grind[wrap,IntKind.bits,IntKind.signed]
  have z:A0o .i64 (x*((2^m:Nat):Int)) (m:Int)=x:=by
   show a78 (x*((2^m:Nat):Int)) (2^(min (m:Int).toNat 64))=x;rw[tN,a69 (by omega)]
   grind[Int.mul_ediv_cancel]
  simp_all
theorem c4I(P:List Int)(n:Nat)(R:List Int){c:Nat}(h:c<n):(P++(a00 n 0++1::R)).getD (P.length+c) 0=0:=by
 grind
theorem c6Q(P:List Int)(n:Nat)(R:List Int):(P++(a00 n 0++1::R)).getD (P.length+n) 0=1:=by
 simp
theorem c5G{n lm:Nat}(x:n≤lm)(t:lm<1000000)(o:a1p (P++(a00 n 0++1::R)))(p:(P++(a00 n 0++1::R)).length<200000000):
  a2J (rdr P (a00 n 0++1::R),(lm:Int))=some ((n:Int),rdr (P++(a00 n 0++[1])) R):=by
 obtain⟨-,r⟩:=a4O (P++(a00 n 0++1::R));have s:(P++(a00 n 0++1::R)).length=P.length+n+1+R.length:=by grind
 have e8:wrap .i64 ((8:Int)*(((wL (P++(a00 n 0++1::R))).1.length:Nat):Int))=(8:Int)*(((wL (P++(a00 n 0++1::R))).1.length:Nat):Int):=a0D (by omega);have g:∀c,c≤n→a1v (rdr P (a00 n 0++1::R),((P.length:Int)+(c:Int)))=some (if c=n then 1 else 0,rdr P (a00 n 0++1::R)):=fun c l=>by
  have:=b7V o (by omega) (i:=P.length+c) (by omega) ((P.length:Int),(0:Int),())
  rw[b01]at this;refine this.trans ?_
  by_cases e:c=n
  subst e;rw[c6Q,if_pos rfl];rfl;rw[c4I P n R (by omega),if_neg e];rfl
 have h:∀c:Nat,c≤n→(((P.length:Int)+(c:Int))==(8:Int)*(((wL (P++(a00 n 0++1::R))).1.length:Nat):Int))=false:=fun c l=>by
  grind
 have j:wrap .i64 ((P.length:Int)+(n:Int)+1)=(((P++(a00 n 0++[1])).length:Nat):Int):=by
  rw[a0D (by omega)];grind
 have a:P++(a00 n 0++1::R)=(P++(a00 n 0++[1]))++R:=by simp
 have v:((rdr P (a00 n 0++1::R)).1,(((P++(a00 n 0++[1])).length:Nat):Int),(rdr P (a00 n 0++1::R)).2.2)=rdr (P++(a00 n 0++[1])) R:=by
  unfold rdr;simp
 have k:(rdr P (a00 n 0++1::R)).1=(wL (P++(a00 n 0++1::R))).1:=rfl;have m:=a2u (f:=a2Q) (fun c:Nat=>((lm:Int),(c:Int),(P.length:Int)+(c:Int),rdr P (a00 n 0++1::R),())) n (b:=((n:Int),rdr (P++(a00 n 0++[1])) R,()))
  (fun c l=>by
   have d:((0:Int)==1)=false:=rfl;have q:(((c:Nat):Int)==(lm:Int))=false:=by grind
   have w:wrap .i64 ((c:Int)+1)=((c+1:Nat):Int):=a0C (by omega);have w2:wrap .i64 ((P.length:Int)+(c:Int)+1)=(P.length:Int)+((c+1:Nat):Int):=by rw[a0D (by omega)];rfl
   simp only[a2Q,k,e8,h c (by omega),cF,g c (by omega),oB,if_neg (Nat.ne_of_lt l),d,q,w,w2])
  (by
   have d:((1:Int)==1)=true:=rfl;simp only[a2Q,k,e8,h n (a27 _),cF,g n (a27 _),oB,if_pos rfl,d,cT,j]
   grind)
 unfold a2J;rw[show(rdr P (a00 n 0++1::R)).2.2.1=0 from rfl,show(rdr P (a00 n 0++1::R)).2.1=(P.length:Int)from rfl];have u:v0r (lm:Int) 0=(lm:Int):=by
  rfl
 grind
def OkR(P R:List Int):Prop:=a1p (P++R)∧(P++R).length<200000000
theorem OkR.shift{A:List Int}(h:OkR P (A++R)):OkR (P++A) R:=by
 unfold OkR at h⊢;simp_all
theorem a3d{n:Nat}(g:n≤62)(hv:v<2^n)(h:OkR P (pb (v:Int) n++R)):a0E (rdr P (pb (v:Int) n++R),(n:Int))=some ((v:Int),rdr (P++pb (v:Int) n) R):=c5E g hv h.1 h.2
theorem a8l{n:Nat}(f:n≤62)(g:b2b n x)(h:OkR P (pb (a0S x n) n++R)):a0X (rdr P (pb (a0S x n) n++R),(n:Int))=some (x,rdr (P++pb (a0S x n) n) R):=c5F f g h.1 h.2
def unB(n:Nat):List Int:=a00 n 0++[1]
theorem c1B{n lm:Nat}(f:n≤lm)(g:lm<1000000)(h:OkR P (unB n++R)):a2J (rdr P (unB n++R),(lm:Int))=some ((n:Int),rdr (P++unB n) R):=by
 have e:unB n++R=a00 n 0++1::R:=by simp[unB]
 rw[e]at h⊢;exact c5G f g h.1 h.2
theorem a3Z{v n:Nat}(h:n≤63)(hv:v<2^n)(L:List Int):a0L (v:Int) n L=L++pb (v:Int) n:=by
 grind[a0L,a5y,a66]
def a8d(k:Nat)(x:Int):List Int:=
 if a0N x / 2^k<32 then unB (a0N x / 2^k)++pb ((a0N x%2^k:Nat):Int) k else unB 32++pb ((a0N x:Nat):Int) 32
theorem c5H{k:Nat}(f:k≤25)(g:a0A x=true)(L:List Int):a5K k x L=L++a8d k x:=by
 have h:=a8g g;unfold a5K a8d;split;rw[a3Z (by omega) (a41 _ (a16 k))];simp[unL,unB]
 grind[a3Z,unL,unB]
theorem c5I(f:a0A x=true):a5V ((a0N x:Nat):Int)=some x:=by
 have b:=a8g f;have d:=a1B.1 f;have c:a26 ((a0N x:Nat):Int) 2=((a0N x:Nat):Int)%2:=a43 (by omega);have a:a54 ((a0N x:Nat):Int) 2=((a0N x:Nat):Int) / 2:=a60 (by omega);have k:decide (((a0N x:Nat):Int)≥2147483648)=false:=by grind
 unfold a5V;simp only[k,cF,c,a]
 by_cases h0:0≤x
 have e:((a0N x:Nat):Int)=2*x:=by unfold a0N;grind
 rw[e];have h:((2*x)%2==(0:Int))=true:=by simp
 have g:2*x / 2=x:=by omega
 simp only[h,cT,g]
 grind[a0U,a0D]
 have e:((a0N x:Nat):Int)=-2*x-1:=by unfold a0N;grind
 rw[e];have h:((-2*x-1)%2==(0:Int))=false:=by grind
 have g:(-2*x-1) / 2=-x-1:=by omega
 simp only[h,cF,g]
 grind[a0U,a0D]
theorem c2W{k:Nat}(r:k≤25)(c:a0A x=true)(h:OkR P (a8d k x++R)):a9Z (rdr P (a8d k x++R),(k:Int))=some (x,(0:Int),rdr (P++a8d k x) R):=by
 have m:=a8g c;have b:=c5I c;unfold a9Z a0K;unfold a8d at h⊢;have s:∀A B:List Int,(rdr A B).2.2.1=0:=fun _ _=>rfl;split;rename_i g;rw[if_pos g,aA]at h;have j:=c1B (n:=a0N x / 2^k) (lm:=32) (by omega) (by omega) h;have l:=a3d (n:=k) (v:=a0N x%2^k) (by omega) (a41 _ (a16 k)) h.shift;have i:wrap .u64 ((a0N x / 2^k:Nat):Int)=((a0N x / 2^k:Nat):Int):=a3c (by omega);have d:decide (((a0N x / 2^k:Nat):Int)<32)=true:=by grind
 have e:decide ((k:Int)<0)=false:=by simp
 have f:a0N x / 2^k*2^k≤a0N x:=a76 _ _;have o:A0n .u64 ((a0N x / 2^k:Nat):Int) (k:Int)=((a0N x / 2^k*2^k:Nat):Int):=a9K (by omega) (by omega);have a:wrap .u64 (((a0N x / 2^k*2^k:Nat):Int)+((a0N x%2^k:Nat):Int))=((a0N x:Nat):Int):=by
  rw[←b01,Nat.div_add_mod',a0U (by omega)]
 grind
 rename_i g;rw[if_neg g,aA]at h;have j:=c1B (n:=32) (lm:=32) (by omega) (by omega) h;have l:=a3d (n:=32) (v:=a0N x) (by omega) (by omega) h.shift;have i:wrap .u64 (32:Int)=32:=a0U (by omega);have d:decide ((32:Int)<32)=false:=by simp
 have e:decide ((k:Int)<0)=false:=by simp
 have q:decide (((a0N x:Nat):Int)≥2147483648)=false:=by grind
 have p:A0o .u64 ((a0N x:Nat):Int) (k:Int)=((a0N x / 2^k:Nat):Int):=a5y (by omega)
 grind
def a3e(k:Nat)(l:List Int):List Int:=l.flatMap (a8d k)
theorem b6M{k:Nat}(g:k≤25):∀(l L:List Int),l.all a0A=true→a3X k l L=L++a3e k l
 | [],L,_=>by simp[a3X,a3e]
 |x::l,L,h=>by
  simp only[a07,bA]at h;show a3X k l (a5K k x L)=_;rw[b6M g l _ h.2,c5H g h.1];simp[a3e]
theorem b3C{k:Nat}(g:k≤25){N:Nat}(f:N<1000000):∀(l done P R:List Int),l.all a0A=true→done.length+l.length=N→OkR P (a3e k l++R)→
  y0s a7V ((k:Int),(N:Int),(done.length:Int),done,rdr P (a3e k l++R),())=some (Sum.inl (done++l,rdr (P++a3e k l) R,()))
 | [],done,P,R,_,hl,_=>by
  have:done.length=N:=by omega
  subst this;have d:decide ((done.length:Int)<(done.length:Int))=false:=by simp
  simp_all[a0H,a7V,a3e]
 |x::l,done,P,R,h,hl,hok=>by
  simp only[a07,bA]at h;rw[lC]at hl;have e:a3e k (x::l)++R=a8d k x++(a3e k l++R):=by simp[a3e]
  rw[e]at hok⊢;have d:decide ((done.length:Int)<(N:Int))=true:=by grind
  have b:=c2W g h.1 hok;have a:lim (a37 done+1)=true:=a1e (by omega);have c:wrap .i64 ((done.length:Int)+1)=(((done++[x]).length:Nat):Int):=by grind[a0D]
  rw[a0I (s':=((k:Int),(N:Int),(((done++[x]).length:Nat):Int),done++[x],rdr (P++a8d k x) (a3e k l++R),())) (by
   simp_all[a7V])]
  rw[b3C g f l (done++[x]) (P++a8d k x) R h.2 (by grind) hok.shift];simp[a3e]
theorem c2X{k:Nat}(a:k≤25)(h:l.all a0A=true)(b:l.length<1000000)(f:OkR P (a3e k l++R)):
  b0A (rdr P (a3e k l++R),(k:Int),((l.length:Nat):Int))=some (l,(0:Int),rdr (P++a3e k l) R):=by
 have hp:a1J (k:Int)=some true:=by
  grind[a1J]
 have c:decide (((l.length:Nat):Int)<0)=false:=by simp
 have d:decide (((l.length:Nat):Int) > 4194304)=false:=by grind
 have e:∀A B:List Int,(rdr A B).2.2.1=0:=fun _ _=>rfl;have g:=b3C a b l [] P R h (by simp) f;simp at g;unfold b0A a0K
 grind
theorem c6R(h:inW x v=true):b2b v x:=by
 have hp:=a16 v;rcases b4w.1 h with rfl|⟨g,-,f,k⟩;exact⟨by omega,by omega⟩;have e:2^v=2^(v-1)*2:=by rw[←a84];simp_all
 unfold b2b;omega
theorem b3h(h:l.all a0A=true):∀x∈l,b2b (a0G l) x:=fun x g=>c6R (c1y h x g)
def sB(n:Nat)(l:List Int):List Int:=l.flatMap fun x=>pb (a0S x n) n
theorem a8m{n:Nat}(g:n≤62):∀(l L:List Int),a1y n l L=L++sB n l
 | [],L=>by simp[a1y,sB]
 |x::l,L=>by
  show a1y n l (a0L (a0S x n) n L)=_;obtain⟨v,hv,h,-⟩:=b8s g x;rw[a8m g l,hv,a3Z (by omega) h,←hv];simp[sB]
theorem b7W(n:Nat)(x:Int)(l R:List Int):sB n (x::l)++R=pb (a0S x n) n++(sB n l++R):=by simp[sB]
theorem b2w{k:Int}{n:Nat}(g:n≤62){N:Nat}(f:N<1000000):∀(l done P R:List Int),(∀x∈l,b2b n x)→done.length+l.length=N→OkR P (sB n l++R)→
  y0s a7f (k,(n:Int),(N:Int),(done.length:Int),done,rdr P (sB n l++R),())=some (k,(n:Int),done++l,rdr (P++sB n l) R,())
 | [],done,P,R,_,hl,_=>by
  have:done.length=N:=by omega
  subst this;have d:decide ((done.length:Int)<(done.length:Int))=false:=by simp
  simp_all[a0H,a7f,sB]
 |x::l,done,P,R,h,hl,hok=>by
  rw[lC]at hl;rw[b7W]at hok⊢;have d:decide ((done.length:Int)<(N:Int))=true:=by grind
  have b:=a8l g (h x (by simp)) hok;have a:lim (a37 done+1)=true:=a1e (by omega);have c:wrap .i64 ((done.length:Int)+1)=(((done++[x]).length:Nat):Int):=by grind[a0D]
  rw[a0I (s':=(k,(n:Int),(N:Int),(((done++[x]).length:Nat):Int),done++[x],rdr (P++pb (a0S x n) n) (sB n l++R),())) (by
   simp_all[a7f])]
  rw[b2w g f l (done++[x]) _ R (fun y e=>h y (by grind)) (by grind) hok.shift];simp[sB]
def a8K(k:Int)(part:List Int):List Int:=if k=31 then pb 31 5++(pb ((a0G part:Nat):Int) 5++sB (a0G part) part)else pb k 5++a3e k.toNat part
theorem c5J(h:kB k=true)(g:part.all a0A=true)(L:List Int):a8b k part L=L++a8K k part:=by
 have f:=a1L g;simp[kB]at h;obtain⟨K,rfl⟩:=a01 (show 0≤k by omega)
 grind[a8b,a8K,a3c,a3Z,a8m,b6M]
theorem c1C(o:kB k=true)(c:part.all a0A=true)(b:part.length<1000000)(h:OkR P (a8K k part++R)):
  a9n (rdr P (a8K k part++R),((part.length:Nat):Int))=some (k,part,(0:Int),rdr (P++a8K k part) R):=by
 have p:=a1L c;have e:∀A B:List Int,(rdr A B).2.2.1=0:=fun _ _=>rfl;simp[kB]at o;obtain⟨K,rfl⟩:=a01 (show 0≤k by omega);unfold a9n a0K;unfold a8K at h⊢;split;rename_i f;rw[if_pos f,aA,aA]at h;rw[aA,aA];obtain rfl:K=31:=by omega
 have d:a0E (rdr P (pb 31 5++(pb ((a0G part:Nat):Int) 5++(sB (a0G part) part++R))),(5:Int))=_:=a3d (v:=31) (n:=5) (by omega) (by omega) h;have g:=h.shift;have l:a0E (rdr (P++pb 31 5) (pb ((a0G part:Nat):Int) 5++(sB (a0G part) part++R)),(5:Int))=_:=a3d (v:=a0G part) (n:=5) (by omega) (by omega) g;have a:=b2w (k:=31) (n:=a0G part) (by omega) b part [] _ R (b3h c) (by simp) g.shift;simp only[a22,nZ,a09,a30]at a;have i:wrap .i64 ((31:Nat):Int)=31:=by rfl
 have w2:wrap .i64 ((a0G part:Nat):Int)=((a0G part:Nat):Int):=a0D (by omega);have j:decide ((31:Int)≤25)=false:=by rfl
 have q:((31:Int) != 31)=false:=by rfl
 rw[d];simp only[oB,e,bne_self_eq_false,cF,i,j]
 erw[l]
 simp only[oB,w2]
 erw[a]
 simp only[oB,e,bne_self_eq_false,cF,a1X (show short part from b)]
 simp
 rename_i f;rw[if_neg f,aA]at h;rw[aA];have m:K≤25:=by omega
 have d:a0E (rdr P (pb (K:Int) 5++(a3e ((K:Int).toNat) part++R)),(5:Int))=_:=a3d (v:=K) (n:=5) (by omega) (by omega) h;have r:=c2X m c b h.shift;have i:wrap .i64 (K:Int)=(K:Int):=a0D (by omega);simp_all
def a1I:List Nat→List Int→List Int→List Int
 |z::zs,k::ks,l=>a8K k (l.take z)++a1I zs ks (l.drop z)
 |_,_,_=>[]
theorem b8t(h:l.all a0A=true)(z:Nat):(l.take z).all a0A=true:=lA.2 fun x g=>lA.1 h x (a34 g)
theorem b8u(h:l.all a0A=true)(z:Nat):(l.drop z).all a0A=true:=lA.2 fun x g=>lA.1 h x (a35 g)
theorem b6N:∀(zs:List Nat)(ks l L:List Int),ks.all kB=true→l.all a0A=true→a3Y zs ks l L=L++a1I zs ks l
 |z::zs,k::ks,l,L,hk,hw=>by
  simp only[a07,bA]at hk;simp only[a3Y,a1I];rw[b6N zs ks _ _ hk.2 (b8u hw z),c5J hk.1 (b8t hw z)]
  simp
 | [],_,_,L,_,_=>by simp[a3Y,a1I]
 |_::_,[],_,L,_,_=>by simp[a3Y,a1I]
theorem c5K(h:List Nat)(z:Nat)(g:List Nat):(a1i (h++z::g)).getD h.length 0=(z:Int):=by
 simp_all[a1i]
theorem b2x{o:Int}{z0:Prt}:∀(zs:List Nat)(ks l dk acc P R:List Int)(dz:List Nat),ks.length=zs.length→ks.all kB=true→zs.sum=l.length→l.all a0A=true→
  dk.length=dz.length→(dz++zs).length≤256→acc.length+l.length≤10000→OkR P (a1I zs ks l++R)→
  y0s a7g (((a1i (dz++zs)).length:Int),(dz.length:Int),acc,a1i (dz++zs),rdr P (a1I zs ks l++R),z0,(o,dk,()),()) =
   some (Sum.inl (acc++l,z0,(o,dk++ks,()),rdr (P++a1I zs ks l) R,()))
 | [],ks,l,dk,acc,P,R,dz,hk,_,hs,_,_,_,_,_=>by
  obtain rfl:ks=[]:=a45.1 hk;obtain rfl:l=[]:=a45.1 (by simp_all);have d:decide ((dz.length:Int)<((a1i (dz++[])).length:Int))=false:=by simp[a1o]
  rw[a0H (b:=Sum.inl (acc,z0,(o,dk,()),rdr P R,())) (by simp only[a7g,d,cF];rfl)];simp[a1I]
 |z::zs,[],_,_,_,_,_,_,hk,_,_,_,_,_,_,_=>by simp_all
 |z::zs,k::ks,l,dk,acc,P,R,dz,hk,hkb,hs,hw,hd,h256,hacc,hok=>by
  simp only[a07,bA]at hkb;rw[a61]at hs;have p:z≤l.length:=by omega
  have a:(l.take z).length=z:=by simp_all
  have e:a1I (z::zs) (k::ks) l++R=a8K k (l.take z)++(a1I zs ks (l.drop z)++R):=by simp[a1I]
  rw[e]at hok⊢;have j:(a1i (dz++z::zs)).length=dz.length+1+zs.length:=by grind[a1o]
  have d:decide ((dz.length:Int)<((a1i (dz++z::zs)).length:Int))=true:=by grind
  have m:decide ((0:Int)≤(dz.length:Int))=true:=by simp
  have h:=c1C hkb.1 (b8t hw z) (by omega) hok;rw[a]at h;have i:((0:Int) != 0)=false:=rfl;rw[lN,lC]at h256;have g:lim (a37 dk+1)=true:=a1e (by omega);have f:lim (a37 acc+a37 (l.take z))=true:=a1e (by omega);have c:wrap .i64 ((dz.length:Int)+1)=(((dz++[z]).length:Nat):Int):=by grind[a0D]
  have n:dz++z::zs=(dz++[z])++zs:=by simp
  rw[a0I (s':=(((a1i ((dz++[z])++zs)).length:Int),(((dz++[z]).length:Nat):Int),acc++l.take z,a1i ((dz++[z])++zs),rdr (P++a8K k (l.take z)) (a1I zs ks (l.drop z)++R),z0,(o,dk++[k],()),())) (by
   simp only[a7g,d,m,a03,cT,tN,c5K,h,oB,i,cF,g,f,c,a06]
   simp)]
  rw[b2x zs ks (l.drop z) (dk++[k]) (acc++l.take z) _ R (dz++[z]) (by grind) hkb.2 (by grind) (b8u hw z) (by grind) (by grind) (by grind) hok.shift];simp[a1I]
def a5z(p:Prt)(zn:List Nat)(l:List Int):List Int:=pb p.1 4++a1I zn p.2.1 l
theorem b9v(h:PartsOk p n warm l zn)(L:List Int):a3B p zn l L=L++a5z p zn l:=by
 obtain⟨o,ks,u⟩:=p;have g:=h.order;simp only at g;obtain⟨O,rfl⟩:=a01 g.1;unfold a3B a5z;simp only;rw[a3c (by omega),a3Z (n:=4) (by omega) (by omega),b6N _ _ _ _ h.all h.wide]
 simp
theorem c1D(h:PartsOk p n warm l zn)(g:OkR P (a5z p zn l++R)):
  a9o (rdr P (a5z p zn l++R),n,warm)=some (p,l,(0:Int),rdr (P++a5z p zn l) R):=by
 obtain⟨o,ks,u⟩:=p;have c:=h.order;have m:=h.short;have b:=h.len;simp only at c;obtain⟨O,rfl⟩:=a01 c.1;have i:∀A B:List Int,(rdr A B).2.2.1=0:=fun _ _=>rfl;have f:=h.may;unfold a4I at f;simp only[bA,a33,beq_eq_false_iff_ne]at f;have d:=h.sizes;simp only at d;have a:(((a1i zn).length:Int)==0)=false:=by
  grind
 unfold a5z at g⊢;simp only at g⊢;rw[aA]at g⊢;have e:a0E (rdr P (pb (O:Int) 4++(a1I zn ks l++R)),(4:Int))=_:=a3d (v:=O) (n:=4) (by omega) (by omega) g;have j:wrap .i64 (O:Int)=(O:Int):=a0D (by omega);have k:=b2x (o:=(O:Int)) (z0:=((0:Int),([]:List Int),())) zn ks l [] [] _ R [] h.ks h.all h.sum h.wide rfl (by simp_all) (by grind) g.shift;simp only[a22,nZ,a09,a30]at k;unfold a9o a0K;simp[b1f,h.row];rw[e];simp[i,j,a1N,d,a];simp_all
def a6g(s:Sub):List Int:=
 pb ((s.2.2.2.2.2.1.length-1:Nat):Int) 5++(pb s.2.2.2.1 4++(pb ((a0G s.2.2.2.2.2.1:Nat):Int) 5++sB (a0G s.2.2.2.2.2.1) s.2.2.2.2.2.1))
theorem b8v{t:Int}(h:a8f c t=true):1≤c.length∧c.length≤32∧0≤t∧t≤15∧c.all a0A=true:=by
 simp only[a8f,bA,dT]at h;obtain⟨g,f,k,a,b⟩:=h;refine⟨g,f,k,a,lA.2 fun x d=>?_⟩
 have:=lA.1 b x d
 simp[b6m]at this;rw[a1B];omega
theorem b6O{s:Sub}(h:a8f s.2.2.2.2.2.1 s.2.2.2.1=true)(L:List Int):a5u s L=L++a6g s:=by
 obtain⟨a,b,g,d,f⟩:=b8v h;have k:=a1L f;unfold a5u a6g;generalize s.2.2.2.2.2.1=c at *;generalize s.2.2.2.1=t at *;obtain⟨T,rfl⟩:=a01 g
 grind[a0D,a0U,a8m,a3Z]
def b3i(s:Sub)(c:List Int):Sub:=(s.1,s.2.1,s.2.2.1,s.2.2.2.1,s.2.2.2.2.1,c,s.2.2.2.2.2.2)
def b7X(s:Sub)(t:Int):Sub:=(s.1,s.2.1,s.2.2.1,t,s.2.2.2.2)
theorem b6P{n:Nat}(g:n≤62){N:Nat}(f:N<1000000)(s:Sub):∀(l done P R:List Int),(∀x∈l,b2b n x)→done.length+l.length=N→OkR P (sB n l++R)→
  y0s a4V ((n:Int),(N:Int),(done.length:Int),rdr P (sB n l++R),b3i s done,())=some ((n:Int),b3i s (done++l),rdr (P++sB n l) R,())
 | [],done,P,R,_,hl,_=>by
  have:done.length=N:=by omega
  subst this;have d:decide ((done.length:Int)<(done.length:Int))=false:=by simp
  simp_all[a0H,a4V,sB]
 |x::l,done,P,R,h,hl,hok=>by
  rw[lC]at hl;rw[b7W]at hok⊢;have d:decide ((done.length:Int)<(N:Int))=true:=by grind
  have a:=a8l g (h x (by simp)) hok;have k:lim (a37 done+1)=true:=a1e (by omega);have b:wrap .i64 ((done.length:Int)+1)=(((done++[x]).length:Nat):Int):=by grind[a0D]
  rw[a0I (s':=((n:Int),(N:Int),(((done++[x]).length:Nat):Int),rdr (P++pb (a0S x n) n) (sB n l++R),b3i s (done++[x]),())) (by
   simp_all[a4V,b3i])]
  rw[b6P g f s l (done++[x]) _ R (fun y c=>h y (by grind)) (by grind) hok.shift];simp[sB]
theorem b5b{s0:Sub}(h:a8f s.2.2.2.2.2.1 s.2.2.2.1=true)(r:s0.2.2.2.2.2.1=[])(g:OkR P (a6g s++R)):
  a7e (rdr P (a6g s++R),s0)=some (true,rdr (P++a6g s) R,b3i (b7X s0 s.2.2.2.1) s.2.2.2.2.2.1):=by
 obtain⟨u,w,l,x,d⟩:=b8v h;have m:=a1L d;unfold a6g at g⊢;generalize s.2.2.2.2.2.1=c at *;generalize s.2.2.2.1=t at *;obtain⟨T,rfl⟩:=a01 l;simp at g⊢;have e:a0E (rdr P (pb ((c.length-1:Nat):Int) 5++(pb (T:Int) 4++(pb ((a0G c:Nat):Int) 5++(sB (a0G c) c++R)))),(5:Int))=_:=a3d (v:=c.length-1) (n:=5) (by omega) (by omega) g;have f:=g.shift;have i:a0E (rdr (P++pb ((c.length-1:Nat):Int) 5) (pb (T:Int) 4++(pb ((a0G c:Nat):Int) 5++(sB (a0G c) c++R))),(4:Int))=_:=a3d (v:=T) (n:=4) (by omega) (by omega) f;have k:=f.shift;have j:a0E (rdr (P++pb ((c.length-1:Nat):Int) 5++pb (T:Int) 4) (pb ((a0G c:Nat):Int) 5++(sB (a0G c) c++R)),(5:Int))=_:=a3d (v:=a0G c) (n:=5) (by omega) (by omega) k;have a:=b6P (n:=a0G c) (by omega) (N:=c.length) (by omega) (b7X s0 (T:Int)) c [] _ R (b3h d) (by simp) k.shift;simp only[a22,nZ,a09,a30]at a;have o:wrap .i64 ((c.length-1:Nat):Int)=((c.length-1:Nat):Int):=a0D (by omega);have w2:wrap .i64 (((c.length-1:Nat):Int)+1)=(c.length:Int):=by grind[a0D]
 have p:wrap .i64 (T:Int)=(T:Int):=a0D (by omega);have q:wrap .i64 ((a0G c:Nat):Int)=((a0G c:Nat):Int):=a0D (by omega);have b:((s0.1,s0.2.1,s0.2.2.1,(T:Int),s0.2.2.2.2):Sub)=b3i (b7X s0 (T:Int)) []:=by
  grind[b3i,b7X]
 unfold a7e;rw[e]
 simp
 rw[i];simp only[oB];rw[j];simp only[oB,o,w2,p,q]
 erw[b,a]
 simp only[oB];rw[show(b3i (b7X s0 (T:Int)) c).2.2.2.2.2.1=c from rfl,a1X (show short c by unfold short;omega)]
 simp
def a6U(st:List Stg):List Int:=st.flatMap fun g=>pb (g.1-1) 5++pb g.2.1 4
theorem b5c{g:Stg}(h:Ab.stageB g=true):1≤g.1∧g.1≤32∧0≤g.2.1∧g.2.1≤8:=by
 simp_all[Ab.stageB]
theorem b5d:∀(st:List Stg)(L:List Int),st.all Ab.stageB=true→a2O st L=L++a6U st
 | [],L,_=>by simp[a2O,a6U]
 |g::st,L,h=>by
  simp only[a07,bA]at h;obtain⟨k,c,f,d⟩:=b5c h.1;show a2O st (a5t g L)=_;rw[b5d st _ h.2];obtain⟨a,b,u⟩:=g;simp only at k c f d;obtain⟨B,rfl⟩:=a01 f;obtain⟨A,e⟩:=a01 (show 0≤a-1 by omega)
  grind[a5t,b1k,a3c,a3Z,a6U]
def a4i(s:Sub):List Int:=
 if s.1=2 then pb s.2.2.1 3
 else if s.1=3 then a6g s
 else if s.1=4 then pb (s.2.2.2.2.1-1) 10++(sB 8 s.2.2.2.2.2.2.1++a6g s)
 else if s.1=5 then pb ((s.2.2.2.2.2.2.2.1.length:Nat):Int) 2++a6U s.2.2.2.2.2.2.2.1
 else[]
theorem b8w(h:a3n s.1 s n)(L:List Int):a2i s L=L++a4i s:=by
 unfold a2i a4i;rcases h with k|k|⟨k,g,f,-⟩|⟨k,g,-⟩|⟨k,g,-,a⟩|⟨k,g,f⟩
 grind
 grind
 rw[if_pos k,if_pos k]
 grind[a01,a3c,a3Z]
 simp_all[b6O];rw[if_neg (by omega),if_neg (by omega),if_pos k,if_neg (by omega),if_neg (by omega),if_pos k,b6O g,a8m (by omega)];simp only[a9w,bA,dT]at a;obtain⟨A,b⟩:=a01 (show 0≤s.2.2.2.2.1-1 by omega)
 grind[b1k,a3c,a3Z]
 rw[if_neg (by omega),if_neg (by omega),if_neg (by omega),if_pos k,if_neg (by omega),if_neg (by omega),if_neg (by omega),if_pos k];simp only[a7P,bA,dT]at f
 grind[b5d,a3c,a3Z]
def b1J(s:Sub):List Int:=pb s.1 3++(pb s.2.1 5++pb ((a0G s.2.2.2.2.2.2.2.2.1:Nat):Int) 5)
theorem c5L(g:0≤s.1∧s.1≤5)(f:0≤s.2.1∧s.2.1≤30)(h:s.2.2.2.2.2.2.2.2.1.all a0A=true)(L:List Int):a9y s L=L++b1J s:=by
 grind[a01,a1L,a9y,b1J,a3c,a3Z]
def a3o(s:Sub):Sub:=(s.1,s.2.1,s.2.2.1,s.2.2.2.1,s.2.2.2.2.1,s.2.2.2.2.2.1,s.2.2.2.2.2.2.1,s.2.2.2.2.2.2.2.1,[],(0,[],()),[],())
theorem b5e{wd N:Nat}{ok:Bool}(m:N<1000)(k w:Int):∀(st done:List Stg)(P R:List Int),st.all Ab.stageB=true→done.length+st.length=N→OkR P (a6U st++R)→
  y0s a5D ((wd:Int),ok,(N:Int),(done.length:Int),rdr P (a6U st++R),(k,w,0,0,0,[],[0,0,0],done,[],(0,[],()),[],()),()) =
   some ((wd:Int),ok,(k,w,0,0,0,[],[0,0,0],done++st,[],(0,[],()),[],()),rdr (P++a6U st) R,())
 | [],done,P,R,_,hl,_=>by
  have:done.length=N:=by omega
  subst this;have d:decide ((done.length:Int)<(done.length:Int))=false:=by simp
  simp_all[a0H,a5D,a6U]
 |g::st,done,P,R,h,hl,hok=>by
  simp only[a07,bA]at h;rw[lC]at hl;obtain⟨i,j,c,l⟩:=b5c h.1;obtain⟨a,b,u⟩:=g;simp only at i j c l;obtain⟨B,rfl⟩:=a01 c;obtain⟨A,r⟩:=a01 (show 0≤a-1 by omega);obtain rfl:a=(A:Int)+1:=by omega
  have e:a6U (((A:Int)+1,(B:Int),u)::st)++R=pb (A:Int) 5++(pb (B:Int) 4++(a6U st++R)):=by simp[a6U]
  rw[e]at hok⊢;have d:decide ((done.length:Int)<(N:Int))=true:=by grind
  have p:a0E (rdr P (pb (A:Int) 5++(pb (B:Int) 4++(a6U st++R))),(5:Int))=_:=a3d (v:=A) (n:=5) (by omega) (by omega) hok;have f:=hok.shift;have q:a0E (rdr (P++pb (A:Int) 5) (pb (B:Int) 4++(a6U st++R)),(4:Int))=_:=a3d (v:=B) (n:=4) (by omega) (by omega) f;have o:lim (a37 done+1)=true:=a1e (by omega);have t:wrap .i64 (A:Int)=(A:Int):=a0D (by omega);have w2:wrap .i64 (B:Int)=(B:Int):=a0D (by omega);have x:wrap .i64 ((A:Int)+1)=(A:Int)+1:=a0D (by omega);have s:wrap .u64 ((done.length:Int)+1)=(((done++[((A:Int)+1,(B:Int),u)]).length:Nat):Int):=by grind[a0U]
  rw[a0I (s':=((wd:Int),ok,(N:Int),(((done++[((A:Int)+1,(B:Int),u)]).length:Nat):Int),rdr (P++pb (A:Int) 5++pb (B:Int) 4) (a6U st++R),(k,w,0,0,0,[],[0,0,0],done++[((A:Int)+1,(B:Int),u)],[],(0,[],()),[],()),())) (by
    simp_all[a5D])]
  rw[b5e m k w st (done++[((A:Int)+1,(B:Int),u)]) _ R h.2 (by grind) f.shift];simp[a6U]
theorem b7Y(h:b2M x=true):b2b 8 x:=by
 simp[b2M]at h;unfold b2b;omega
theorem c5M{wd:Nat}{w g:Int}{a b c:Int}(m:b2M a=true)(hb:b2M b=true)(o:b2M c=true)(f:OkR P (sB 8 [a,b,c]++R)):
  y0s a2N ((wd:Int),(0:Int),rdr P (sB 8 [a,b,c]++R),(k,w,0,0,g,[],[0,0,0],[],[],(0,[],()),[],()),()) =
   some ((wd:Int),rdr (P++sB 8 [a,b,c]) R,(k,w,0,0,g,[],[a,b,c],[],[],(0,[],()),[],()),()):=by
 have e:sB 8 [a,b,c]++R=pb (a0S a 8) 8++(pb (a0S b 8) 8++(pb (a0S c 8) 8++R)):=by rfl
 rw[e]at f⊢;have t:a0X (rdr P (pb (a0S a 8) 8++(pb (a0S b 8) 8++(pb (a0S c 8) 8++R))),(8:Int))=_:=a8l (n:=8) (by omega) (b7Y m) f;have h:=f.shift;have u:a0X (rdr (P++pb (a0S a 8) 8) (pb (a0S b 8) 8++(pb (a0S c 8) 8++R)),(8:Int))=_:=a8l (n:=8) (by omega) (b7Y hb) h;have d:=h.shift;have v:a0X (rdr (P++pb (a0S a 8) 8++pb (a0S b 8) 8) (pb (a0S c 8) 8++R),(8:Int))=_:=a8l (n:=8) (by omega) (b7Y o) d;have x:wrap .i64 ((0:Int)+1)=1:=by rfl
 have y:wrap .i64 ((1:Int)+1)=2:=by rfl
 have w2:wrap .i64 ((2:Int)+1)=3:=by rfl
 have p:decide ((0:Int)<3)=true:=by rfl
 have i:decide ((0:Int)≤0)=true:=by rfl
 have q:decide ((1:Int)<3)=true:=by rfl
 have j:decide ((0:Int)≤1)=true:=by rfl
 have r:decide ((2:Int)<3)=true:=by rfl
 have l:decide ((0:Int)≤2)=true:=by rfl
 have s:decide ((3:Int)<3)=false:=by rfl
 rw[a0I (s':=((wd:Int),(1:Int),rdr (P++pb (a0S a 8) 8) (pb (a0S b 8) 8++(pb (a0S c 8) 8++R)),(k,w,0,0,g,[],[a,0,0],[],[],(0,[],()),[],()),())) (by
  simp_all[a2N])]
 rw[a0I (s':=((wd:Int),(2:Int),rdr (P++pb (a0S a 8) 8++pb (a0S b 8) 8) (pb (a0S c 8) 8++R),(k,w,0,0,g,[],[a,b,0],[],[],(0,[],()),[],()),())) (by
  simp_all[a2N])]
 rw[a0I (s':=((wd:Int),(3:Int),rdr (P++pb (a0S a 8) 8++pb (a0S b 8) 8++pb (a0S c 8) 8) R,(k,w,0,0,g,[],[a,b,c],[],[],(0,[],()),[],()),())) (by
  simp_all[a2N])]
 simp_all[a0H,a2N,sB]
theorem c4J{s:Sub}{n:Int}(hs:a1m s n)(ht:s.2.2.2.2.2.2.1.length=3){P R:List Int}(i:OkR P (b1J s++(a4i s++R))):
  a7U (rdr P (b1J s++(a4i s++R)))=some (a3o s,((a0G s.2.2.2.2.2.2.2.2.1:Nat):Int),true,rdr (P++(b1J s++a4i s)) R):=by
 obtain⟨-,-,hf,ha,I,L,-,-,M,-⟩:=hs;obtain⟨k,w,o,sh,g,c,t,st,a,b,d,u⟩:=s;have hk:=b3f hf;simp only at hk I L M ht;have h0:=a1L M;obtain⟨K,rfl⟩:=a01 hk.1;obtain⟨W,rfl⟩:=a01 I;unfold b1J at i⊢;simp at i⊢;have Y:a0E (rdr P (pb (K:Int) 3++(pb (W:Int) 5++(pb ((a0G a:Nat):Int) 5++(a4i ((K:Int),(W:Int),o,sh,g,c,t,st,a,b,d,u)++R)))),(3:Int))=_:=a3d (v:=K) (n:=3) (by omega) (by omega) i;have j:=i.shift;have Z:a0E (rdr (P++pb (K:Int) 3) (pb (W:Int) 5++(pb ((a0G a:Nat):Int) 5++(a4i ((K:Int),(W:Int),o,sh,g,c,t,st,a,b,d,u)++R))),(5:Int))=_:=a3d (v:=W) (n:=5) (by omega) (by omega) j;have l:=j.shift;have g3:a0E (rdr (P++pb (K:Int) 3++pb (W:Int) 5) (pb ((a0G a:Nat):Int) 5++(a4i ((K:Int),(W:Int),o,sh,g,c,t,st,a,b,d,u)++R)),(5:Int))=_:=a3d (v:=a0G a) (n:=5) (by omega) (by omega) l;have f:=l.shift;have wK:wrap .i64 (K:Int)=(K:Int):=a0D (by omega);have wW:wrap .i64 (W:Int)=(W:Int):=a0D (by omega);have wd:wrap .i64 ((a0G a:Nat):Int)=((a0G a:Nat):Int):=a0D (by omega);unfold a7U;rw[Y];simp only[oB];rw[Z];simp only[oB];rw[g3];simp only[oB,wK,wW,wd];generalize hX:P++pb (K:Int) 3++pb (W:Int) 5++pb ((a0G a:Nat):Int) 5=X at f⊢;have H:∀B:List Int,P++(pb (K:Int) 3++(pb (W:Int) 5++(pb ((a0G a:Nat):Int) 5++B)))=X++B:=fun B=>by grind
 rw[H];obtain⟨a1,D,q,r,E,C⟩:=ha;simp only at a1 D q r E C;clear Y Z g3 i j l hX H;rcases hf with h|h|⟨h,m,G,-⟩|⟨h,m,-⟩|⟨h,m,-,Q⟩|⟨h,m,G⟩
 
 simp only at h;obtain rfl:=a1 (by omega);obtain rfl:=D (by omega);obtain rfl:=q (by omega);obtain rfl:=r (by omega);obtain rfl:=E (by omega);obtain rfl:=C (by omega);rw[h];have hb:a4i ((0:Int),(W:Int),0,0,0,[],[0,0,0],[],a,b,d,u)=[]:=rfl;rw[hb,a09,a40];rfl;simp only at h;obtain rfl:=a1 (by omega);obtain rfl:=D (by omega);obtain rfl:=q (by omega);obtain rfl:=r (by omega);obtain rfl:=E (by omega);obtain rfl:=C (by omega);rw[h];have hb:a4i ((1:Int),(W:Int),0,0,0,[],[0,0,0],[],a,b,d,u)=[]:=rfl;rw[hb,a09,a40];rfl;simp only at h m G;obtain rfl:=D (by omega);obtain rfl:=q (by omega);obtain rfl:=r (by omega);obtain rfl:=E (by omega);obtain rfl:=C (by omega);rw[h]at f⊢;obtain⟨O,rfl⟩:=a01 m;have hb:a4i ((2:Int),(W:Int),(O:Int),0,0,[],[0,0,0],[],a,b,d,u)=pb (O:Int) 3:=rfl;rw[hb]at f⊢;have e:((2:Int)==2)=true:=rfl;have F:a0E (rdr X (pb (O:Int) 3++R),(3:Int))=_:=a3d (v:=O) (n:=3) (by omega) (by omega) f;have wO:wrap .i64 (O:Int)=(O:Int):=a0D (by omega);simp only[e,cT,F,oB,wO];rfl;simp only at h m;obtain rfl:=a1 (by omega);obtain rfl:=q (by omega);obtain rfl:=r (by omega);obtain rfl:=C (by omega);rw[h]at f⊢;have hb:a4i ((3:Int),(W:Int),0,sh,0,c,[0,0,0],[],a,b,d,u)=a6g ((3:Int),(W:Int),0,sh,0,c,[0,0,0],[],a,b,d,u):=rfl;rw[hb]at f⊢;have T:((3:Int)==2)=false:=rfl;have U:((3:Int)==4)=false:=rfl;have V:((3:Int)==3)=true:=rfl;have F:=b5b (s:=((3:Int),(W:Int),0,sh,0,c,[0,0,0],[],a,b,d,u)) (s0:=((3:Int),(W:Int),0,0,0,[],a00 3 0,[],[],(0,[],()),[],())) m rfl f;simp only[T,V,U,cT,cF,oB]
 erw[F]
 rfl
 ·simp only at h m Q;obtain rfl:=a1 (by omega);obtain rfl:=C (by omega);rw[h]at f⊢;simp only[a9w,bA,dT]at Q;obtain⟨Q,h5,S⟩:=Q;obtain⟨A,hA⟩:=a01 (show 0≤g-1 by omega);obtain rfl:g=(A:Int)+1:=by omega
  obtain⟨x,y,z,rfl⟩:∃x y z,t=[x,y,z]:=by
   match t,ht with
   | [x,y,z],_=>simp
  simp at S;have hb:a4i ((4:Int),(W:Int),0,sh,(A:Int)+1,c,[x,y,z],[],a,b,d,u)=pb (A:Int) 10++(sB 8 [x,y,z]++a6g ((4:Int),(W:Int),0,sh,(A:Int)+1,c,[x,y,z],[],a,b,d,u)):=by
   show pb ((A:Int)+1-1) 10++_=_
   simp
  rw[hb]at f⊢;simp only[aA]at f⊢;have T:((4:Int)==2)=false:=rfl;have U:((4:Int)==4)=true:=rfl;have F:a0E (rdr X (pb (A:Int) 10++(sB 8 [x,y,z]++(a6g ((4:Int),(W:Int),0,sh,(A:Int)+1,c,[x,y,z],[],a,b,d,u)++R))),(10:Int))=_:=a3d (v:=A) (n:=10) (by omega) (by omega) f;have p:=f.shift;have wA:wrap .i64 (A:Int)=(A:Int):=a0D (by omega);have h4:wrap .i64 ((A:Int)+1)=(A:Int)+1:=a0D (by omega);have g5:=c5M (wd:=a0G a) (k:=4) (w:=(W:Int)) (g:=(A:Int)+1) S.1 S.2.1 S.2.2 p;have g6:=b5b (s:=((4:Int),(W:Int),0,sh,(A:Int)+1,c,[x,y,z],[],a,b,d,u)) (s0:=((4:Int),(W:Int),0,0,(A:Int)+1,[],[x,y,z],[],[],(0,[],()),[],())) m rfl p.shift;simp_all[a3o,b3i,b7X]
 simp only at h m G;obtain rfl:=a1 (by omega);obtain rfl:=D (by omega);obtain rfl:=q (by omega);obtain rfl:=r (by omega);obtain rfl:=E (by omega);rw[h]at f⊢;simp only[a7P,bA,dT]at G;have hb:a4i ((5:Int),(W:Int),0,0,0,[],[0,0,0],st,a,b,d,u)=pb ((st.length:Nat):Int) 2++a6U st:=rfl;rw[hb]at f⊢;simp only[aA]at f⊢;have T:((5:Int)==2)=false:=rfl;have U:((5:Int)==4)=false:=rfl;have V:((5:Int)==3)=false:=rfl;have e5:((5:Int)==5)=true:=rfl;have F:a0E (rdr X (pb ((st.length:Nat):Int) 2++(a6U st++R)),(2:Int))=_:=a3d (v:=st.length) (n:=2) (by omega) (by omega) f;have g5:=b5e (wd:=a0G a) (ok:=true) (N:=st.length) (by omega) (5:Int) (W:Int) st [] _ R G.2 (by simp) f.shift;simp_all[a3o]
def a6V(s:Sub)(zn:List Nat):List Int:=
 (b1J s++a4i s)++(sB (a0G s.2.2.2.2.2.2.2.2.1) s.2.2.2.2.2.2.2.2.1++if s.1=0∨s.1=1 then[]else a5z s.2.2.2.2.2.2.2.2.2.1 zn s.2.2.2.2.2.2.2.2.2.2.1)
theorem b5f(b:a1m s n)(d:s.1≠0∧s.1≠1→PartsOk s.2.2.2.2.2.2.2.2.2.1 n ((s.2.2.2.2.2.2.2.2.1.length:Nat):Int) s.2.2.2.2.2.2.2.2.2.2.1 zn)(L:List Int):
  a4r s zn L=L++a6V s zn:=by
 obtain⟨-,-,h,-,k,a,-,-,f,-⟩:=b;have c:=a1L f;have g:=c5L (b3f h) ⟨k,a⟩ f L;unfold a4r a6V
 by_cases hk:s.1=0∨s.1=1
 rw[if_pos hk,if_pos hk,a8m (by omega),b8w h,g]
 simp
 rw[if_neg hk,if_neg hk,b9v (d (not_or.1 hk)),a8m (by omega),b8w h,g]
 simp
def a6W(s:Sub)(l:List Int):Sub:=(s.1,s.2.1,s.2.2.1,s.2.2.2.1,s.2.2.2.2.1,s.2.2.2.2.2.1,s.2.2.2.2.2.2.1,s.2.2.2.2.2.2.2.1,l,s.2.2.2.2.2.2.2.2.2)
theorem b8x{wd:Nat}(g:wd≤62){N:Nat}(f:N<1000000)(n:Int)(ok:Bool)(z s:Sub):∀(l done P R:List Int),(∀x∈l,b2b wd x)→done.length+l.length=N→OkR P (sB wd l++R)→
  y0s a8w (n,(wd:Int),ok,(N:Int),(done.length:Int),rdr P (sB wd l++R),z,a6W s done,())=some (n,(wd:Int),ok,rdr (P++sB wd l) R,z,a6W s (done++l),())
 | [],done,P,R,_,hl,_=>by
  have:done.length=N:=by omega
  subst this;have d:decide ((done.length:Int)<(done.length:Int))=false:=by simp
  simp_all[a0H,a8w,sB]
 |x::l,done,P,R,h,hl,hok=>by
  rw[lC]at hl;rw[b7W]at hok⊢;have d:decide ((done.length:Int)<(N:Int))=true:=by grind
  have a:=a8l g (h x (by simp)) hok;have k:lim (a37 done+1)=true:=a1e (by omega);have b:wrap .i64 ((done.length:Int)+1)=(((done++[x]).length:Nat):Int):=by grind[a0D]
  rw[a0I (s':=(n,(wd:Int),ok,(N:Int),(((done++[x]).length:Nat):Int),rdr (P++pb (a0S x wd) wd) (sB wd l++R),z,a6W s (done++[x]),())) (by
   simp_all[a8w,a6W])]
  rw[b8x g f n ok z s l (done++[x]) _ R (fun y c=>h y (by grind)) (by grind) hok.shift];simp[sB]
theorem c4K(h:SmallS s):SmallS (a3o s) where
 coefs:=h.coefs
 taps:=h.taps
 stages:=h.stages
 warm:=by show([]:List Int).length≤5000;simp
 rest:=by show([]:List Int).length≤5000;simp
 ks:=by show([]:List Int).length≤_;simp
theorem c8g(h:SmallS s)(I:(a1U s n).isSome=true)(T:s.1≠0∧s.1≠1→PartsOk s.2.2.2.2.2.2.2.2.2.1 n ((s.2.2.2.2.2.2.2.2.1.length:Nat):Int) s.2.2.2.2.2.2.2.2.2.2.1 zn)(e:OkR P (a6V s zn++R)):a9F (rdr P (a6V s zn++R),n)=some (s,(0:Int),rdr (P++a6V s zn) R):=by
 have K:=b2a I;have d:=@c4J s n K h.taps P;have x:=K;obtain⟨U,V,O,-,-,-,-,S,r,-,v,-⟩:=x;have Q:=a1L r;have y:=h.warm;have L:decide (n<1)=false:=by simp_all
 have M:decide (n > 4096)=false:=by simp_all
 have j:∀A B:List Int,(rdr A B).2.2.1=0:=fun _ _=>rfl;have l:a6I ((a3o s).1,a3o s,n)=some true:=by
  rw[b2k (c4K h)];unfold b1i
  have:a3n (a3o s).1 (a3o s) n:=O
  simp_all
 have i:a3O (a3o s,n)=some ((s.2.2.2.2.2.2.2.2.1.length:Nat):Int):=by
  rw[a9J]
  have:a1W (a3o s) n=a1W s n:=rfl
  simp_all
 have p:=b6t h n;rw[I]at p;have f:a1l s.2.2.2.2.2.2.2.2.1=some ((a0G s.2.2.2.2.2.2.2.2.1:Nat):Int):=a1X (by unfold short;omega);unfold a9F a0K;unfold a6V at e⊢;simp only[aA]at e⊢;have a:OkR (P++(b1J s++a4i s)) (sB (a0G s.2.2.2.2.2.2.2.2.1) s.2.2.2.2.2.2.2.2.1++((if s.1=0∨s.1=1 then[]else a5z s.2.2.2.2.2.2.2.2.2.1 zn s.2.2.2.2.2.2.2.2.2.2.1)++R)):=OkR.shift (by simp_all)
 have G:=fun(ok:Bool) (z:Sub)=>b8x (wd:=a0G s.2.2.2.2.2.2.2.2.1) (by omega) (N:=s.2.2.2.2.2.2.2.2.1.length) (by omega) n ok z (a3o s) s.2.2.2.2.2.2.2.2.1 [] _ _ (b3h r) (by simp) a;simp only[a22,nZ,a09,a30]at G;simp only[L,M,cF,j,bne_self_eq_false,oB];rw[d e];simp only[j,bne_self_eq_false,cF,oB,l,bT,i];rw[show((a3o s:Sub))=a6W (a3o s) []from rfl]
 erw[G]
 simp only[oB,j,bne_self_eq_false,cF];rw[show(a6W (a3o s) s.2.2.2.2.2.2.2.2.1).1=s.1 from rfl,a5w];simp only[oB]
 by_cases hk:s.1=0∨s.1=1
 have H:decide (s.1≠0∧s.1≠1)=false:=by grind
 have q:a6W (a3o s) s.2.2.2.2.2.2.2.2.1=s:=by
  obtain⟨D,E,F⟩:=v hk;obtain⟨k,w,o,sh,g,c,t,st,wm,⟨X,Y,Z⟩,re,u⟩:=s;simp only at D E F;subst D E F;rfl
 grind
 have H:decide (s.1≠0∧s.1≠1)=true:=by simp_all
 have hp:=T (not_or.1 hk);have b:=a.shift;rw[if_neg hk]at b;have m:=c1D hp b;simp only[H,cT,if_neg hk];rw[show(a6W (a3o s) s.2.2.2.2.2.2.2.2.1).2.2.2.2.2.2.2.2.1=s.2.2.2.2.2.2.2.2.1 from rfl]
 erw[m]
 have C:((0:Int) != 0)=false:=rfl;simp only[oB,C,cF,bT,f,bne_self_eq_false];have q:((a6W (a3o s) s.2.2.2.2.2.2.2.2.1).1,(a6W (a3o s) s.2.2.2.2.2.2.2.2.1).2.1,(a6W (a3o s) s.2.2.2.2.2.2.2.2.1).2.2.1,(a6W (a3o s) s.2.2.2.2.2.2.2.2.1).2.2.2.1,(a6W (a3o s) s.2.2.2.2.2.2.2.2.1).2.2.2.2.1,(a6W (a3o s) s.2.2.2.2.2.2.2.2.1).2.2.2.2.2.1,(a6W (a3o s) s.2.2.2.2.2.2.2.2.1).2.2.2.2.2.2.1,(a6W (a3o s) s.2.2.2.2.2.2.2.2.1).2.2.2.2.2.2.2.1,s.2.2.2.2.2.2.2.2.1,s.2.2.2.2.2.2.2.2.2.1,s.2.2.2.2.2.2.2.2.2.2.1,(a6W (a3o s) s.2.2.2.2.2.2.2.2.1).2.2.2.2.2.2.2.2.2.2.2)=s:=rfl
 grind
theorem d1h(y:Int):bits .u64 .and y 1=y%2:=by
 have h:((a04 64 y) &&& (a04 64 1)).toNat=(y%18446744073709551616).toNat%2:=by
  simp
 show wrap .u64 ((((a04 64 y) &&& (a04 64 1)).toNat:Nat):Int)=_
 grind[a0U]
theorem a1P(v:Int):∀n,a1p (pb v n)
 |0=>fun b hb=>by cases hb
 |n+1=>fun b hb=>by
  rcases mC.1 hb with rfl|hb
  grind[a5J,d1h,a8E]
  exact a1P v n b hb
theorem c3j(n:Nat):a1p (unB n):=fun b hb=>by
 rcases mA.1 hb with hb|hb
 all_goals simp_all
theorem b1K{α:Type}{f:α→List Int}{l:List α}(h:∀x,a1p (f x)):a1p (l.flatMap f):=fun b hb=>by
 obtain⟨x,-,g⟩:=a97.1 hb;exact h x b g
theorem c5N(k:Nat)(x:Int):a1p (a8d k x):=by
 unfold a8d;split;exact(c3j _).app (a1P _ _);exact(c3j _).app (a1P _ _)
theorem b4x(n:Nat)(l:List Int):a1p (sB n l):=b1K fun _=>a1P _ _
theorem c5O(k:Int)(l:List Int):a1p (a8K k l):=by
 unfold a8K;split;exact(a1P _ _).app ((a1P _ _).app (b4x _ _));exact(a1P _ _).app (b1K fun _=>c5N _ _)
theorem b3j:a1p []:=fun b hb=>by grind
theorem b6Q:∀(zs:List Nat)(ks l:List Int),a1p (a1I zs ks l)
 |z::zs,k::ks,l=>by
  simp only[a1I];exact(c5O _ _).app (b6Q zs ks _)
 | [],_,_=>by simp_all[a1I,b3j]
 |_::_,[],_=>by simp_all[a1I,b3j]
theorem b6R(s:Sub):a1p (a6g s):=(a1P _ _).app ((a1P _ _).app ((a1P _ _).app (b4x _ _)))
theorem c5P(s:Sub):a1p (a4i s):=by
 unfold a4i;split;exact a1P _ _;split;exact b6R s;split;exact(a1P _ _).app ((b4x _ _).app (b6R s));split;exact(a1P _ _).app (b1K fun _=>(a1P _ _).app (a1P _ _));exact b3j
theorem c6S(s:Sub)(h:List Nat):a1p (a6V s h):=by
 refine(((a1P _ _).app ((a1P _ _).app (a1P _ _))).app (c5P s)).app ((b4x _ _).app ?_);split;exact b3j;exact(a1P _ _).app (b6Q _ _ _)
theorem c6T(h:SmallS s)(k:(a1U s n).isSome=true)(j:L.length<50000000):
  ∃g,a8k (wL L,s,n)=some (0,wL (L++a6V s g))∧a3w (s,n)=some (((a6V s g).length:Nat):Int)∧(a6V s g).length≤700000∧
   (s.1≠0∧s.1≠1→PartsOk s.2.2.2.2.2.2.2.2.2.1 n ((s.2.2.2.2.2.2.2.2.1.length:Nat):Int) s.2.2.2.2.2.2.2.2.2.2.1 g):=by
 obtain⟨e,i,a,-,c,d,-⟩:=b2R h (n:=n) (L:=L) (by omega);obtain⟨rfl,g,rfl,f⟩:=d k;have b:=b2a k;rw[b5f b f]at a c;refine⟨g,a,?_,by simp_all,f⟩;rw[c3f h];unfold a4h;rw[if_pos k,←b7R f,b5f b f]
 simp
theorem c9k(g:L.length<1000000000):a9Y (wL L).1=some (rdr [] L):=by
 obtain⟨-,h⟩:=a4O L;unfold a9Y;rw[a1e (by omega)];rfl
theorem c6U(h:L.length<1000000000):a4g (wL L)=some ((wL L).1,wL L):=by
 grind[a4O,a4g,a1e]
def a0P(n:Nat):List Int:=if h:n<128 then[(n:Int)]else((n%128+128:Nat):Int)::a0P (n / 128)
termination_by n
decreasing_by omega
theorem b2y{n:Nat}(h:n<128):a0P n=[(n:Int)]:=by rw[a0P,dif_pos h]
theorem b2z{n:Nat}(h:¬ n<128):a0P n=((n%128+128:Nat):Int)::a0P (n / 128):=by rw[a0P,dif_neg h]
theorem b5J:∀(k n:Nat),n<128^(k+1)→1≤(a0P n).length∧(a0P n).length≤k+1
 |0,n,h=>by simp_all[b2y]
 |k+1,n,h=>by
  by_cases hn:n<128
  rw[b2y hn];simp;rw[b2z hn]
  have:=b5J k (n / 128) (by omega)
  simp_all
theorem c3k:∀(k n:Nat)(a:List Int)(b c:Int)(out:List Int),n<128^(k+1)→k≤8→out.length+k<1000000→
  ∃r g,y0s a7q ((n:Int),a,b,c,out,())=some (((r:Nat):Int),a,b,c,out++g,())∧a0P n=g++[(r:Int)]∧r<128
 |k,n,a,b,c,out,h,hk,ho=>by
  by_cases hn:n<128
  refine⟨n,[],?_,by rw[b2y hn];rfl,hn⟩;rw[a0H (b:=((n:Int),a,b,c,out,())) (by
   have d:decide ((n:Int)≥128)=false:=by grind
   simp only[a7q,d,cF])]
  simp
  ·cases k with
   |zero=>omega
   |succ k=>
    have m:n / 128<128^(k+1):=by omega
    have f:n<18446744073709551616:=by
     have:128^(k+1+1)≤128^9:=a08 (by omega) (by omega)
     omega
    obtain⟨r,g,o,j,l⟩:=c3k k (n / 128) a b c (out++[((n%128+128:Nat):Int)]) m (by omega) (by grind);refine⟨r,((n%128+128:Nat):Int)::g,?_,by rw[b2z hn,j];rfl,l⟩;have d:decide ((n:Int)≥128)=true:=by grind
    have e:wrap .u64 (a54 (n:Int) 128)=((n / 128:Nat):Int):=by
     rw[show a54 (n:Int) 128=((n / 128:Nat):Int)from rfl];exact a0U (by omega)
    have i:wrap .u8 (wrap .u8 (a26 (n:Int) 128)+128)=((n%128+128:Nat):Int):=by
     rw[show a26 (n:Int) 128=((n%128:Nat):Int)from rfl,a8E,a8E];omega
    rw[a0I (s':=(((n / 128:Nat):Int),a,b,c,out++[((n%128+128:Nat):Int)],())) (by
     simp only[a7q,d,cT,a1e (show out.length+1<2147483648 by omega),e,i,a06])]
    simp_all
theorem a9g{α β γ:Type}(f:α→List γ):∀(l:List α)(a:List γ),a2v (β:=β) (fun a x=>.inl (a++f x)) l a=.inl (a++l.flatMap f)
 | [],a=>by simp[a2v]
 |x::l,a=>by simp only[a2v];rw[a9g f l];simp
def asI(ns:List Nat):List Int:=ns.map fun n:Nat=>(n:Int)
theorem c1E{ns:List Nat}(h:∀n∈ns,n<9223372036854775808)(u:ns.length≤1000):a7O (asI ns)=some (ns.flatMap a0P):=by
 have m:(asI ns).length=ns.length:=by simp[asI]
 have:=a1A (f:=a7r) (asI ns) (fun i (a:List Int)=>(asI ns,((asI ns).length:Int),(i:Int),a,())) (fun a x=>.inl (a++a0P x.toNat)) (fun i a=>a.length≤10*i) (fun a=>(a,()))
  (fun i l a q=>⟨fun s g=>by
   have c:i<ns.length:=by omega
   have o:(asI ns)[i]=((ns[i]:Nat):Int):=by simp[asI]
   have hb:=h ns[i] (a05 c);have k:ns[i]<128^(8+1):=by omega
   obtain⟨r,d,p,j,t⟩:=c3k 8 ns[i] (asI ns) ((asI ns).length:Int) (i:Int) a k (a27 _) (by omega);have hv:=b5J 8 ns[i] k;rw[j]at hv;simp only[lN,lC,a22]at hv;simp[o,j]at g;subst g;have e:wrap .u8 (r:Int)=(r:Int):=by rw[a8E];omega
   refine⟨?_,by grind⟩;simp only[a7r,dlt l,cT,a0B l,o,oB,p,a1e (show(a++d).length+1<2147483648 by grind),a0C (show i<1000000 by omega),e,a06,aA],fun b hb=>by grind⟩)
  (fun a q=>by simp_all[a7r]) (a:=[]) (by simp)
 simp_all[a7O,a9g,a6O,asI,List.flatMap_map]
theorem orA{k:Nat}(f:a<2^k)(c:b*2^k+a<18446744073709551616):bits .u64 .or (a:Int) ((b*2^k:Nat):Int)=((a+b*2^k:Nat):Int):=by
 show wrap .u64 (((a04 64 (a:Int) ||| a04 64 ((b*2^k:Nat):Int)).toNat:Nat):Int)=_;have g:(a04 64 (a:Int)).toNat=a:=by grind
 have h:(a04 64 ((b*2^k:Nat):Int)).toNat=b*2^k:=by grind[a80]
 grind[a58,a67,a0U]
theorem b5g{rest:List Int}:∀(j m i acc:Nat)(P:List Int),m<128^(j+1)→P.length=i→(i=0∨1≤m)→acc<2^(7*i)→m*2^(7*i)+acc<9223372036854775808→(P++(a0P m++rest)).length<1000000000→
  y0s a4R ((acc:Int),P++(a0P m++rest),((P++(a0P m++rest)).length:Nat),(i:Int),())=some (.inr (((acc+m*2^(7*i):Nat):Int),((i+(a0P m).length:Nat):Int),(0:Int),()))
 |j,m,i,acc,P,hj,hP,hm,ha,hs,hl=>by
  have p:i≤8:=by
   rcases hm with a|h1;omega;apply Classical.byContradiction;intro y;have w:2^(7*9)≤2^(7*i):=a08 (by omega) (by omega);have x:2^(7*i)≤m*2^(7*i):=Nat.le_mul_of_pos_left _ (by omega);omega
  have r:wrap .i64 ((7:Int)*(i:Int))=((7*i:Nat):Int):=by grind[a0D]
  have t:decide ((((7*i:Nat):Int))<0)=false:=by rfl
  have s:wrap .i64 ((i:Int)+1)=((i+1:Nat):Int):=a0C (by omega);have v:∀c:Nat,c<256→(i=9→False):=fun _ _ h=>by omega
  have b:((i:Int)==9)=false:=by grind
  have step:∀(c:Nat)(k:List Int),c<256→a0P m=(c:Int)::k→(i=0∨c≠0)→
    a4R ((acc:Int),P++(a0P m++rest),((P++(a0P m++rest)).length:Nat),(i:Int),()) =
     bif decide ((c:Int)<128)then some (.inr (Sum.inr (bits .u64 .or (acc:Int) (A0n .u64 (wrap .u64 (a26 (c:Int) 128)) ((7*i:Nat):Int)),((i+1:Nat):Int),(0:Int),())))
     else some (.inl (bits .u64 .or (acc:Int) (A0n .u64 (wrap .u64 (a26 (c:Int) 128)) ((7*i:Nat):Int)),P++(a0P m++rest),((P++(a0P m++rest)).length:Nat),((i+1:Nat):Int),())):=fun c k l hv a=>by
   have g:i<(P++(a0P m++rest)).length:=by simp_all
   have o:m0k (P++(a0P m++rest)) (i:Int)=some (c:Int):=by
    simp_all[a0B]
   have z:(decide ((i:Int) > 0)=true→((c:Int)==0)=false):=fun h=>by
    grind
   simp only[a4R,dlt g,cT,o,oB,b,cF]
   grind
  have val:∀c:Nat,c%128*2^(7*i)+acc<9223372036854775808→bits .u64 .or (acc:Int) (A0n .u64 (wrap .u64 (a26 (c:Int) 128)) ((7*i:Nat):Int))=((acc+c%128*2^(7*i):Nat):Int):=fun c l=>by
   rw[show a26 (c:Int) 128=((c%128:Nat):Int)from rfl,a0U (by omega),a9K (by omega) (by omega)];exact orA ha (by omega)
  by_cases hm128:m<128
  rw[a0H (step m [] (by omega) (b2y hm128) (by omega) |>.trans (by
   have d:decide ((m:Int)<128)=true:=by grind
   simp only[d,cT];rfl))]
  rw[val m (by simp_all[a23]),a23 hm128,b2y hm128];rfl
  ·cases j with
   |zero=>omega
   |succ j=>
    have n:m / 128<128^(j+1):=by omega
    have q:2^(7*(i+1))=128*2^(7*i):=by grind
    have f:m*2^(7*i)=m%128*2^(7*i)+m / 128*2^(7*(i+1)):=by
     grind
    have hb:m%128*2^(7*i)≤127*2^(7*i):=a25 _ (by omega);rw[a0I (step (m%128+128) (a0P (m / 128)) (by omega) (b2z hm128) (by omega) |>.trans (by
     have d:decide (((m%128+128:Nat):Int)<128)=false:=by grind
     simp only[d,cF];rfl))]
    rw[val (m%128+128) (by grind[a89,Nat.mod_mod]),a89,Nat.mod_mod];have e:P++(a0P m++rest)=(P++[((m%128+128:Nat):Int)])++(a0P (m / 128)++rest):=by rw[b2z hm128];simp
    rw[e]at hl⊢;have u:=b5g j (m / 128) (i+1) (acc+m%128*2^(7*i)) (P++[((m%128+128:Nat):Int)]) n (by simp[hP]) (.inr (by omega)) (by omega) (by omega) hl;rw[u,f,b2z hm128];congr 3;omega
    simp;omega
theorem c5Q{n:Nat}(h:n<9223372036854775808){rest:List Int}(g:(a0P n++rest).length<1000000000):a6Z (a0P n++rest)=some ((n:Int),(((a0P n).length:Nat):Int),(0:Int)):=by
 have:=b5g (rest:=rest) 8 n 0 0 [] (by omega) rfl (.inl rfl) (by simp) (by omega) g
 simp_all[a6Z]
def ord(P R:List Int):List Int×(Int×Int×Unit):=(P++R,(P.length:Int),(0:Int),())
theorem a6s{n:Nat}(c:n<9223372036854775808){most:Int}(e:(n:Int)≤most)(b:(P++(a0P n++R)).length<1000000000):
  a0O (ord P (a0P n++R),most)=some ((n:Int),ord (P++a0P n) R):=by
 have a:List.drop (a42 (P.length:Int)) (b02 (P++(a0P n++R)).length (P++(a0P n++R)))=a0P n++R:=by
  grind[tN]
 have k:((0:Int) != 0)=false:=rfl;have g:decide ((0:Int)≤(P.length:Int))=true:=by simp
 have f:decide ((P.length:Int)≤((P++(a0P n++R)).length:Int))=true:=by grind
 have d:decide ((n:Int) > most)=false:=by simp_all
 have h:(a0P n++R).length<1000000000:=by grind
 have i:wrap .i64 ((P.length:Int)+((a0P n).length:Int))=(((P++a0P n).length:Nat):Int):=by
  rw[a0D (by simp at b;omega)];simp
 unfold a0O ord;simp only[k,cF,g,f,a03,cT];rw[a,c5Q c h]
 grind
def a7E(g:Int):Nat:=if 0≤g then(2*g).toNat else(-2*g-1).toNat
theorem c9l{g:Int}(h:-100000≤g∧g≤100000):a9u g=some ((a7E g:Nat):Int):=by
 unfold a9u a7E
 by_cases hg:0≤g
 have d:decide (g≥0)=true:=by simp_all
 rw[d,cT,if_pos hg,a0U (n:=g) (by omega),a0U (by omega),a77 (by omega)];have d:decide (g≥0)=false:=by simp_all
 rw[d,cF,if_neg hg,a0D (n:=g+1) (by omega),a0D (by omega),a0U (n:=0-(g+1)) (by omega),a0U (n:=2*(0-(g+1))) (by omega),a0U (by omega),a77 (by omega)]
 grind
theorem c3l{g:Int}(h:-(m:Int)≤g∧g≤(m:Int)):a7E g≤2*m:=by
 grind[a7E]
theorem c9m{g:Int}(h:-100000≤g∧g≤100000):a9m ((a7E g:Nat):Int)=some g:=by
 unfold a9m;have f:a26 ((a7E g:Nat):Int) 2=((a7E g%2:Nat):Int):=rfl;have k:a54 ((a7E g:Nat):Int) 2=((a7E g / 2:Nat):Int):=rfl;rw[f,k];unfold a7E
 by_cases hg:0≤g
 rw[if_pos hg];have d:((((2*g).toNat%2:Nat):Int)==0)=true:=by grind
 rw[d,cT,a0U (by omega),a0D (by omega)]
 grind
 rw[if_neg hg];have d:((((-2*g-1).toNat%2:Nat):Int)==0)=false:=by grind
 rw[d,cF,a0U (by omega),a0D (n:=(((-2*g-1).toNat / 2:Nat):Int)) (by omega),a0D (n:=0-(((-2*g-1).toNat / 2:Nat):Int)) (by omega),a0D (by omega)]
 grind
def e8(s:Int):Int:=bif (A0o .u8 s 7)==(1:Int)then bits .u8 .xor (A0n .u8 s 1) 7 else A0n .u8 s 1
def e16(s:Int):Int:=bif (A0o .u16 s 15)==(1:Int)then bits .u16 .xor (A0n .u16 s 1) 32773 else A0n .u16 s 1
def rep{α:Type}(f:α→α):Nat→α→α
 |0,s=>s
 |n+1,s=>rep f n (f s)
def g8(s c:Int):Int:=rep e8 8 (bits .u8 .xor s c)
def g16(s c:Int):Int:=rep e16 8 (bits .u16 .xor s (A0n .u16 (wrap .u16 c) 8))
theorem b6S(l:List Int)(n i:Int):∀(j k:Nat)(s:Int),k+j=8→y0s a8v (s,l,n,i,(k:Int),())=some (rep e8 j s,l,n,i,())
 |0,k,s,h=>by
  obtain rfl:k=8:=by omega
  rfl
 |j+1,k,s,h=>by
  have d:decide ((k:Int)<8)=true:=by grind
  rw[a0I (s':=(e8 s,l,n,i,((k+1:Nat):Int),())) (by
   simp only[a8v,d,cT,a0C (show k<1000000 by omega),e8]
   grind)]
  exact b6S l n i j (k+1) (e8 s) (by omega)
theorem b4n(l:List Int)(n i:Int):∀(j k:Nat)(s:Int),k+j=8→y0s a7A (s,l,n,i,(k:Int),())=some (rep e16 j s,l,n,i,())
 |0,k,s,h=>by
  obtain rfl:k=8:=by omega
  rfl
 |j+1,k,s,h=>by
  have d:decide ((k:Int)<8)=true:=by grind
  rw[a0I (s':=(e16 s,l,n,i,((k+1:Nat):Int),())) (by
   simp only[a7A,d,cT,a0C (show k<1000000 by omega),e16]
   grind)]
  exact b4n l n i j (k+1) (e16 s) (by omega)
def b3k(l:List Int):Int:=l.foldl g8 0
def a3z(l:List Int):Int:=l.foldl g16 0
theorem c1F(h:short l):a6K l=some (b3k l):=by
 have:=a1A (f:=a6x) (β:=Int×Unit) l (fun i (a:Int)=>(a,l,(l.length:Int),(i:Int),())) (fun a x=>.inl (g8 a x)) (fun _ _=>True) (fun a=>(a,()))
  (fun i k a _=>⟨fun c g=>by
   simp at g;subst g
   have:=b6S l (l.length:Int) (i:Int) 8 0 (bits .u8 .xor a l[i]) rfl
   simp at this;refine⟨?_,trivial⟩;simp only[a6x,dlt k,cT,a0B k,oB,this,a0C (a18 k h),g8],fun b hb=>by grind⟩)
  (fun a d=>by simp_all[a6x]) (a:=0) trivial
 unfold a6K;simp at this;rw[this,b3e];rfl
theorem b6T(h:short l):a5f l=some (a3z l):=by
 have:=a1A (f:=a4T) (β:=Int×Unit) l (fun i (a:Int)=>(a,l,(l.length:Int),(i:Int),())) (fun a x=>.inl (g16 a x)) (fun _ _=>True) (fun a=>(a,()))
  (fun i k a _=>⟨fun c g=>by
   simp at g;subst g
   have:=b4n l (l.length:Int) (i:Int) 8 0 (bits .u16 .xor a (A0n .u16 (wrap .u16 l[i]) 8)) rfl
   simp at this;refine⟨?_,trivial⟩;simp only[a4T,dlt k,cT,a0B k,oB,this,a0C (a18 k h),g16],fun b hb=>by grind⟩)
  (fun a d=>by simp_all[a4T]) (a:=0) trivial
 unfold a5f;simp at this;rw[this,b3e];rfl
theorem b0R(n:Int):wrap .u16 n=n%65536:=by rfl
theorem c5R(s:Int):0≤e16 s∧e16 s<65536:=by
 unfold e16;cases (A0o .u16 s 15==1:Bool);simp only[cF,A0n,b0R];omega;simp only[cT,bits,b0R];omega
theorem b5h(l:List Int):0≤a3z l∧a3z l<65536:=by
 unfold a3z;rcases a51 l with rfl|⟨L,b,rfl⟩
 simp
 rw[List.concat_eq_append,List.foldl_append];exact c5R _
theorem d3N{v:Int}(h:0≤v∧v<65536):a6q (v,2)=some [v / 256,v%256]:=by
 have g:wrap .u64 (a54 v 256)=v / 256:=by grind[a0U]
 have f:wrap .u8 (a26 v 256)=v%256:=by simp_all[a43,a8E]
 have k:wrap .u8 (a26 (v / 256) 256)=v / 256:=by grind[a8E]
 have s0:a3V (v,(2:Int),(0:Int),([]:List Int),())=some (.inl (v / 256,(2:Int),(1:Int),[v%256],())):=by
  simp only[a3V,show decide ((0:Int)<2)=true from rfl,cT,a1e (show([]:List Int).length+1<2147483648 by simp),g,f];rfl
 have a:a3V (v / 256,(2:Int),(1:Int),[v%256],())=some (.inl (wrap .u64 (a54 (v / 256) 256),(2:Int),(2:Int),[v%256,v / 256],())):=by
  simp only[a3V,show decide ((1:Int)<2)=true from rfl,cT,a1e (show([v%256]:List Int).length+1<2147483648 by simp),k];rfl
 have c:a7Y (v,2)=some [v%256,v / 256]:=by
  unfold a7Y a7S
  simp
  rw[show v0s (v0r (2:Int) 0) 8=2 from rfl,a0I s0,a0I a,a0H (b:=([v%256,v / 256],())) rfl];rfl
 simp_all[a6q,a2C]
@[reducible] def a0T:Type:=Int×(Int×(Int×Unit))
@[reducible] def a1f:Type:=Int×(Int×(a0T×(List a0T×(List Sub×Unit))))
@[reducible] def a0Y:Type:=Int×(List (List Int)×Unit)
def a2j(n:Int)(s:a0T):Bool:=!(decide (s.1<0) || decide (s.1≥n) || decide (s.2.1<0) || decide (s.2.1≥n) || s.1==s.2.1)&&!(decide (s.2.2.1 < -1024) || decide (s.2.2.1 > 1024))
theorem a2B{n:Int}{s:a0T}:a2j n s=true↔0≤s.1∧s.1<n∧0≤s.2.1∧s.2.1<n∧s.1≠s.2.1∧-1024≤s.2.2.1∧s.2.2.1≤1024:=by
 simp only[a2j,bA,a33,a75,decide_eq_false_iff_not,beq_eq_false_iff_ne];omega
def a4l(l:List a0T)(n:Int):Prop:=1≤n∧n≤8∧l.length≤16∧l.all (a2j n)=true
instance (l:List a0T) (n:Int):Decidable (a4l l n):=by unfold a4l;infer_instance
theorem b2c(l:List a0T)(n:Int):a7a (l,n)=some (decide (a4l l n)):=by
 unfold a7a a4l
 by_cases h1:n<1
 grind
 by_cases h2:n > 8
 grind
 by_cases h3:((l.length:Nat):Int) > 16
 grind
 have g:=a1s (f:=a5O) (β:=Unit ⊕ (Bool×Unit)) l (fun i=>(n,l,(l.length:Int),(i:Int),())) (a2j n) (bt:=Sum.inl ()) (bf:=Sum.inr (false,()))
  (fun i h hp=>by
   obtain⟨a1,m,o,p,q,r,s⟩:=a2B.1 hp;have k:decide (l[i].1<0)=false:=by simp_all
   have a:decide (l[i].1≥n)=false:=by simp_all
   have b:decide (l[i].2.1<0)=false:=by simp_all
   have c:decide (l[i].2.1≥n)=false:=by simp_all
   have d:(l[i].1==l[i].2.1)=false:=by simp_all
   have e:decide (l[i].2.2.1 < -1024)=false:=by simp_all
   have j:decide (l[i].2.2.1 > 1024)=false:=by simp_all
   simp only[a5O,dlt h,cT,a0B h,oB,k,a,b,c,d,e,j,cF,a0C (show i<1000000 by omega)])
  (fun i h hp=>by
   simp only[a5O,dlt h,cT,a0B h,oB]
   grind[a2j])
  (by simp[a5O])
 grind
def b3l(f:a0T):Prop:=1≤f.1∧f.1≤1048576∧1≤f.2.1∧f.2.1≤8∧4≤f.2.2.1∧f.2.2.1≤24
instance (f:a0T):Decidable (b3l f):=by unfold b3l;infer_instance
theorem b2A(f:a0T):a2e f=some (decide (b3l f)):=by
 unfold a2e a5N b3l
 grind
def frP(f:a1f):Prop:=b3l f.2.2.1∧1≤f.2.1∧f.2.1≤4096∧0≤f.1∧f.1≤4194304-f.2.1∧a4l f.2.2.2.1 f.2.2.1.2.1
instance (f:a1f):Decidable (frP f):=by unfold frP;infer_instance
theorem b2B(f:a1f):a5P f=some (decide (frP f)):=by
 unfold a5P frP;rw[b2A,b2c]
 by_cases h1:b3l f.2.2.1<;>by_cases h2:1≤f.2.1<;>by_cases h3:f.2.1≤4096<;>by_cases h4:0≤f.1<;>simp[h1,h2,h3,h4]
 have h:wrap .i64 ((4194304:Int)-f.2.1)=4194304-f.2.1:=a0D (by omega);rw[h]
 grind
def a6h(s:a0T):List Nat:=[s.1.toNat,s.2.1.toNat,a7E s.2.2.1]
def a4M(s:a0T):List Int:=a0P s.1.toNat++(a0P s.2.1.toNat++a0P (a7E s.2.2.1))
def hb(f:a1f)(body:Nat):List Int:=
 [245,75]++(a0P f.1.toNat++(a0P f.2.1.toNat++(a0P f.2.2.1.1.toNat++(a0P f.2.2.1.2.1.toNat++(a0P f.2.2.1.2.2.1.toNat++(a0P f.2.2.2.1.length++(f.2.2.2.1.flatMap a4M++a0P body)))))))
def a1z(f:a1f)(body:Nat):List Int:=hb f body++[b3k (hb f body)]
theorem a8n{n:Nat}(h:n<9223372036854775808):1≤(a0P n).length∧(a0P n).length≤9:=b5J 8 n (by omega)
theorem c5S(g:n≤8){s:a0T}(h:a2j n s=true):(a4M s).length≤27:=by
 grind[a2B,a8n,a7E,a4M]
theorem b8y{n:Int}(g:n≤8):∀(l:List a0T),l.all (a2j n)=true→(l.flatMap a4M).length≤27*l.length
 | [],_=>by simp
 |s::l,h=>by
  simp only[a07,bA]at h
  have:=c5S g h.1
  have:=b8y g l h.2
  simp only[a62,lN,lC];omega
theorem c1G{f:a1f}(g:frP f){body:Nat}(h:body≤1048576):2≤(hb f body).length∧(hb f body).length≤600:=by
 obtain⟨⟨q,r2,k,a,b,c⟩,l1,l2,s1,s2,m1,m2,m3,m4⟩:=g;have d:=a8n (n:=f.1.toNat) (by omega);have e:=a8n (n:=f.2.1.toNat) (by omega);have i:=a8n (n:=f.2.2.1.1.toNat) (by omega);have j:=a8n (n:=f.2.2.1.2.1.toNat) (by omega);have l:=a8n (n:=f.2.2.1.2.2.1.toNat) (by omega);have m:=a8n (n:=f.2.2.2.1.length) (by omega);have o:=a8n (n:=body) (by omega);have p:=b8y m2 _ m4;simp only[hb,lN,lC,a22];omega
theorem c3m:∀l:List a0T,(l.flatMap a6h).length=3*l.length
 | []=>rfl
 |s::l=>by simp only[a62,lN,lC,c3m l];simp only[a6h,lC,a22];omega
theorem c4L{f:a1f}(A:frP f){body:Nat}(q:body≤1048576):a6D (f,(body:Int))=some (a1z f body):=by
 have t:=A;obtain⟨⟨O,r2,K,L,M,N⟩,l1,l2,s1,s2,m1,m2,m3,m4⟩:=t;have k:∀s∈f.2.2.2.1,a2j f.2.2.1.2.1 s=true:=fun s w=>lA.1 m4 s w;have h:=a1A (f:=a4H) (β:=Int×(List Int×Unit)) f.2.2.2.1 (fun i (a:List Int)=>((body:Int),f.2.2.2.1,((f.2.2.2.1.length:Nat):Int),(i:Int),a,())) (fun a x=>.inl (a++asI (a6h x))) (fun i a=>a.length=6+3*i) (fun a=>((body:Int),a,()))
  (fun i u a G=>⟨fun I j=>by
   simp at j;subst j;obtain⟨a1,C,D,E,F,y,z⟩:=a2B.1 (k _ (a05 u));refine⟨?_,by grind[asI,a6h]⟩;simp only[a4H,dlt u,cT,a0B u,oB,c9l (g:=f.2.2.2.1[i].2.2.1) (by omega),a1e (show a.length+3<2147483648 by omega),a0C (show i<1000000 by omega),a06]
   grind[a0U,asI,a6h],fun b hb=>by grind⟩)
  (fun a G=>by simp_all[a4H]) (a:=asI [f.1.toNat,f.2.1.toNat,f.2.2.1.1.toNat,f.2.2.1.2.1.toNat,f.2.2.1.2.2.1.toNat,f.2.2.2.1.length]) (by rfl)
 rw[a9g]at h;simp[a6O]at h;have d:([wrap .u64 f.1,wrap .u64 f.2.1,wrap .u64 f.2.2.1.1,wrap .u64 f.2.2.1.2.1,wrap .u64 f.2.2.1.2.2.1,wrap .u64 ((f.2.2.2.1.length:Nat):Int)]:List Int)=asI [f.1.toNat,f.2.1.toNat,f.2.2.1.1.toNat,f.2.2.1.2.1.toNat,f.2.2.1.2.2.1.toNat,f.2.2.2.1.length]:=by
  grind[a0U,asI]
 have o:asI [f.1.toNat,f.2.1.toNat,f.2.2.1.1.toNat,f.2.2.1.2.1.toNat,f.2.2.1.2.2.1.toNat,f.2.2.2.1.length]++f.2.2.2.1.flatMap (fun x=>asI (a6h x))++[((body:Nat):Int)]=asI ([f.1.toNat,f.2.1.toNat,f.2.2.1.1.toNat,f.2.2.1.2.1.toNat,f.2.2.1.2.2.1.toNat,f.2.2.2.1.length]++f.2.2.2.1.flatMap a6h++[body]):=by
  simp_all[asI,List.map_flatMap]
 have v:∀n∈[f.1.toNat,f.2.1.toNat,f.2.2.1.1.toNat,f.2.2.1.2.1.toNat,f.2.2.1.2.2.1.toNat,f.2.2.2.1.length]++f.2.2.2.1.flatMap a6h++[body],n<9223372036854775808:=fun n e=>by
  simp only[mA,mC,a96,or_false,a97]at e;rcases e with(e|⟨s,w,e⟩)|e;omega;obtain⟨a1,C,D,E,F,y,z⟩:=a2B.1 (k _ w)
  have:=c3l (m:=1024) ⟨y,z⟩
  simp[a6h]at e;omega;omega
 have B:=c3m f.2.2.2.1;have p:=c1E v (by grind);have c:(([f.1.toNat,f.2.1.toNat,f.2.2.1.1.toNat,f.2.2.1.2.1.toNat,f.2.2.1.2.2.1.toNat,f.2.2.2.1.length]++f.2.2.2.1.flatMap a6h++[body]).flatMap a0P)=(hb f body).drop 2:=by
  simp only[hb,List.flatMap_append,a62,List.flatMap_nil,a40,aA,List.flatMap_assoc,a64,a09,List.drop_succ_cons,a28];congr 7;exact congrArg (fun g=>List.flatMap g f.2.2.2.1) (funext fun s=>by simp[a4M,a6h])
 have r:[245,75]++(hb f body).drop 2=hb f body:=by rfl
 have H:=c1G A q;unfold a6D;simp only[d];rw[h];simp only[oB,a06];have l:=congrArg a37 o;rw[show(asI ([f.1.toNat,f.2.1.toNat,f.2.2.1.1.toNat,f.2.2.1.2.1.toNat,f.2.2.1.2.2.1.toNat,f.2.2.2.1.length]++f.2.2.2.1.flatMap a6h++[body])).length=7+3*f.2.2.2.1.length from by grind[asI,lC]]at l;rw[lN,a72]at l;rw[a0U (n:=(body:Int)) (by omega),a1e (by omega),cT,o,p];simp only[oB,c,a06,r];rw[a1e (by grind),cT,c1F (show short (hb f body)by unfold short;omega)]
 simp
 rw[a1e (by omega),cT];rfl
def c4M(f:a1f):a1f:=(f.1,f.2.1,f.2.2.1,f.2.2.2.1,[],())
theorem a3C{A:List Int}{k:Nat}(h:(P++(A++R)).length<k):((P++A)++R).length<k:=by rw[aA];exact h
theorem b6U{x:List Int}{ch:Int}(c:ch≤8)(s l:Int)(fm:a0T)(u:List Sub×Unit){N:Nat}(o:N≤16){R:List Int}:∀(rest done:List a0T)(P:List Int),rest.all (a2j ch)=true→done.length+rest.length=N→
  (P++(rest.flatMap a4M++R)).length<1000000000→
  y0s a4x (x,(N:Int),(done.length:Int),(s,l,fm,done,u),ord P (rest.flatMap a4M++R),())=some (x,(s,l,fm,done++rest,u),ord (P++rest.flatMap a4M) R,())
 | [],done,P,_,hl,_=>by
  have e:done.length=N:=by simpa using hl
  rw[e,a0H (b:=(x,(s,l,fm,done,u),ord P R,())) (by simp only[a4x,dge,cF];rfl)]
  simp
 |g::rest,done,P,h,hl,hlen=>by
  simp only[a07,bA]at h;rw[lC]at hl;obtain⟨a1,v,w,y,z,d,i⟩:=a2B.1 h.1;have A:=c3l (m:=1024) ⟨d,i⟩;have j:(g::rest).flatMap a4M++R=a0P g.1.toNat++(a0P g.2.1.toNat++(a0P (a7E g.2.2.1)++(rest.flatMap a4M++R))):=by simp[a4M]
  rw[j]at hlen⊢;have n1:=a6s (n:=g.1.toNat) (most:=7) (by omega) (by omega) hlen;have f:=a3C hlen;have n2:=a6s (n:=g.2.1.toNat) (most:=7) (by omega) (by omega) f;have k:=a3C f;have r:=a6s (n:=a7E g.2.2.1) (most:=2048) (by omega) (by omega) k;have a:=a3C k;have q:wrap .u64 ((done.length:Int)+1)=(((done++[g]).length:Nat):Int):=by rw[a0U (by omega)];simp
  have t:wrap .i64 ((g.1.toNat:Nat):Int)=g.1:=by rw[a0D (by omega)];omega
  have w2:wrap .i64 ((g.2.1.toNat:Nat):Int)=g.2.1:=by rw[a0D (by omega)];omega
  have p:decide ((done.length:Int)<(N:Int))=true:=by simp;omega
  rw[a0I (s':=(x,(N:Int),(((done++[g]).length:Nat):Int),(s,l,fm,done++[g],u),ord (P++a0P g.1.toNat++a0P g.2.1.toNat++a0P (a7E g.2.2.1)) (rest.flatMap a4M++R),())) (by
   simp only[a4x,p,cT,n1,n2,r,oB,c9m (g:=g.2.2.1) (by omega),a1e (show done.length+1<2147483648 by omega),t,w2,q,a06])]
  rw[b6U c s l fm u o rest (done++[g]) _ h.2 (by simp;omega) a];simp[a4M]
theorem c4N{f:a1f}(p:frP f){body:Nat}(o:body≤1048576)(hl:(a1z f body++R).length<1000000000):
  a6y (a1z f body++R)=some (c4M f,((a1z f body).length:Int),(body:Int),(0:Int)):=by
 have q:=p;obtain⟨⟨r1,r2,c1,c2,d1,d2⟩,l1,l2,s1,s2,m1,m2,m3,m4⟩:=q;have S:=c1G p o

 have d:a1z f body++R=[245,75]++(a0P f.1.toNat++(a0P f.2.1.toNat++(a0P f.2.2.1.1.toNat++(a0P f.2.2.1.2.1.toNat++(a0P f.2.2.1.2.2.1.toNat++(a0P f.2.2.2.1.length++(f.2.2.2.1.flatMap a4M++(a0P body++([b3k (hb f body)]++R))))))))):=by
  simp[a1z,hb]
 generalize hx:a1z f body++R=x at *;have U:2≤x.length:=by rw[d];simp
 have O:m0k x 0=some 245:=by rw[d];rfl
 have P:m0k x 1=some 75:=by rw[d];rfl
 have k:List.drop 2 (b02 x.length x)=a0P f.1.toNat++(a0P f.2.1.toNat++(a0P f.2.2.1.1.toNat++(a0P f.2.2.1.2.1.toNat++(a0P f.2.2.1.2.2.1.toNat++(a0P f.2.2.2.1.length++(f.2.2.2.1.flatMap a4M++(a0P body++([b3k (hb f body)]++R)))))))):=by
  rw[a19,d];rfl
 have h:([]++(a0P f.1.toNat++(a0P f.2.1.toNat++(a0P f.2.2.1.1.toNat++(a0P f.2.2.1.2.1.toNat++(a0P f.2.2.1.2.2.1.toNat++(a0P f.2.2.2.1.length++(f.2.2.2.1.flatMap a4M++(a0P body++([b3k (hb f body)]++R))))))))):List Int).length<1000000000:=by
  rw[←k];simp;omega
 have n1:=a6s (n:=f.1.toNat) (most:=4194304) (by omega) (by omega) h;have y:=a3C h;have n2:=a6s (n:=f.2.1.toNat) (most:=4096) (by omega) (by omega) y;have z:=a3C y;have E:=a6s (n:=f.2.2.1.1.toNat) (most:=1048576) (by omega) (by omega) z;have A:=a3C z;have F:=a6s (n:=f.2.2.1.2.1.toNat) (most:=8) (by omega) (by omega) A;have B:=a3C A;have G:=a6s (n:=f.2.2.1.2.2.1.toNat) (most:=24) (by omega) (by omega) B;have C:=a3C B;have H:=a6s (n:=f.2.2.2.1.length) (most:=16) (by omega) (by omega) C;have D:=a3C C;have a:=b6U (x:=x) m2 f.1 f.2.1 f.2.2.1 ([],()) m3 f.2.2.2.1 [] _ m4 (by simp) D;have Q:=a3C D;have i:=a6s (n:=body) (most:=1048576) (by omega) (by omega) Q;simp only[a22,nZ,a09,a30]at n1 n2 E F G H i a;have X:wrap .i64 ((f.1.toNat:Nat):Int)=f.1:=by rw[a0D (by omega)];omega
 have w2:wrap .i64 ((f.2.1.toNat:Nat):Int)=f.2.1:=by rw[a0D (by omega)];omega
 have Y:wrap .i64 ((f.2.2.1.1.toNat:Nat):Int)=f.2.2.1.1:=by rw[a0D (by omega)];omega
 have Z:wrap .i64 ((f.2.2.1.2.1.toNat:Nat):Int)=f.2.2.1.2.1:=by rw[a0D (by omega)];omega
 have w5:wrap .i64 ((f.2.2.1.2.2.1.toNat:Nat):Int)=f.2.2.1.2.2.1:=by rw[a0D (by omega)];omega
 have l:a0P f.1.toNat++a0P f.2.1.toNat++a0P f.2.2.1.1.toNat++a0P f.2.2.1.2.1.toNat++a0P f.2.2.1.2.2.1.toNat++a0P f.2.2.2.1.length++f.2.2.2.1.flatMap a4M++a0P body=(hb f body).drop 2:=by simp[hb]
 rw[l]at i;have u:ord ((hb f body).drop 2) ([b3k (hb f body)]++R)=(x.drop 2,(((hb f body).length-2:Nat):Int),(0:Int),()):=by
  unfold ord;rw[a52,←hx];congr 1;unfold a1z;rw[aA,List.drop_append_of_le_length (by omega)]
 rw[u]at i;have b:wrap .i64 (((x.drop 2).length:Int)-(((hb f body).length-2:Nat):Int))=((1+R.length:Nat):Int):=by
  have:x.length=(hb f body).length+(1+R.length):=by rw[←hx];simp[a1z];omega
  rw[a52,a0D (by omega)];omega
 have m:wrap .i64 ((2:Int)+(((hb f body).length-2:Nat):Int))=(((hb f body).length:Nat):Int):=by rw[a0D (by omega)];omega
 have t:(hb f body).length<x.length:=by rw[←hx];simp[a1z]
 have c:b02 (hb f body).length x=hb f body:=by rw[←hx];simp[a1z]
 have s:m0k x (((hb f body).length:Nat):Int)=some (b3k (hb f body)):=by rw[a0B t];congr 1;subst hx;simp[a1z]
 have N:decide (((x.length:Nat):Int)<2)=false:=by simp;omega
 have j:decide ((2:Int)≤((x.length:Nat):Int))=true:=by simp;omega
 have I:((245:Int) != 245)=false:=rfl;have b1:((75:Int) != 75)=false:=rfl;have e:∀T:List Int,T.length<1000000000→a7G T=some (ord [] T):=fun T d=>by unfold a7G;rw[a1e (by omega)];rfl
 have g:=h;rw[a09]at g;have z0:((0:Int) != 0)=false:=rfl;have K:decide (((1+R.length:Nat):Int)<1)=false:=by simp;omega
 have L:decide ((0:Int)≤(((hb f body).length:Nat):Int))=true:=by simp
 have M:decide ((((hb f body).length:Nat):Int)≤((x.length:Nat):Int))=true:=by simp;omega
 have V:(b3k (hb f body) != b3k (hb f body))=false:=bne_self_eq_false _;have r:frP (f.1,f.2.1,f.2.2.1,f.2.2.2.1,([]:List Sub),()):=p;have w:wrap .i64 ((((hb f body).length:Nat):Int)+1)=(((a1z f body).length:Nat):Int):=by rw[a0D (by omega)];simp[a1z]
 have v:wrap .i64 ((body:Nat):Int)=(body:Int):=a0D (by omega);unfold a6y;simp only[N,cF,O,P,oB,I,b1,j,cT];rw[k,e _ g];simp only[oB,n1,n2,E,F,G,H,X,w2,Y,Z,w5]
 erw[a]
 simp only[oB,i,a4s,z0,cF,a2F,a4S,b,K,m,L,M,a03,cT,tN,c,c1F (show short (hb f body)by unfold short;omega),s,V];rw[b2B,decide_eq_true r];simp only[oB,bT,cF,w,v];rfl
@[reducible] def PZ:Type:=Sub×List Nat
def c4O(n:Int)(p:PZ):Prop:=SmallS p.1∧(a1U p.1 n).isSome=true∧(p.1.1≠0∧p.1.1≠1→PartsOk p.1.2.2.2.2.2.2.2.2.2.1 n ((p.1.2.2.2.2.2.2.2.2.1.length:Nat):Int) p.1.2.2.2.2.2.2.2.2.2.2.1 p.2)
def a0J(l:List PZ):List Int:=l.flatMap fun p=>a6V p.1 p.2
theorem b8z(l:List PZ):a1p (a0J l):=b1K fun _=>c6S _ _
theorem b8A(x:a1f)(all:List Sub)(l:all.length≤8):∀(rest done:List Sub)(L:List Int),done++rest=all→(∀s∈rest,SmallS s∧(a1U s x.2.1).isSome=true)→L.length+700000*rest.length<40000000→
  ∃zs:List PZ,zs.map (·.1)=rest∧(∀p∈zs,c4O x.2.1 p)∧(a0J zs).length≤700000*rest.length∧((∀s∈rest,∃c,a3w (s,x.2.1)=some (c:Int))∧some (((a0J zs).length:Nat):Int)=rest.foldr (fun s a=>a.bind fun a=>(a3w (s,x.2.1)).bind fun c=>some (c+a)) (some 0))∧
   y0s a7s (all,(all.length:Int),(done.length:Int),wL L,x,())=some (.inl (wL (L++a0J zs),x,()))
 | [],done,L,hd,_,_=>by
  have e:done=all:=by simp_all
  subst e;refine⟨[],rfl,by simp,by simp[a0J],⟨by simp,by rfl⟩,?_⟩;simp_all[a0H,a7s,a0J]
 |s::rest,done,L,hd,h,hL=>by
  obtain⟨b,k⟩:=h s (by simp);rw[lC]at hL;obtain⟨f,d,i,q,j⟩:=c6T b k (L:=L) (by omega);obtain⟨zs,k1,k2,k3,⟨r,o⟩,k6⟩:=b8A x all l rest (done++[s]) (L++a6V s f) (by simp_all) (fun t n=>h t (by grind)) (by grind);have g:done.length<all.length:=by grind
  have m:m0k all (done.length:Int)=some s:=by grind[a0B]
  refine⟨(s,f)::zs,by grind,fun p hp=>?_,?_,⟨fun t n=>?_,?_⟩,?_⟩;rcases mC.1 hp with rfl|hp;exact⟨b,k,j⟩;simp_all
  grind[a0J]
  grind
  simp only[List.foldr_cons,←o,oB,i];simp[a0J];have z0:((0:Int) != 0)=false:=rfl;rw[a0I (s':=(all,(all.length:Int),(((done++[s]).length:Nat):Int),wL (L++a6V s f),x,())) (by
   simp only[a7s,dlt g,cT,m,oB,d,z0,cF,a0C (show done.length<1000000 by omega)]
   simp)]
  simp_all[a0J]
def a4a(k:Nat):Nat:=(8-k%8)%8
def a2p(L:List Int):List Int:=L++a00 (a4a L.length) 0
theorem b6V:∀(k:Nat)(L:List Int),a4a L.length=k→L.length+k<900000000→y0s a2W (wL L,())=some (wL (L++a00 k 0),())
 |k,L,hk,hL=>by
  have f:=(a4O L).1;have h:a26 (wL L).2.1 8=((L.length%8:Nat):Int):=by grind
  unfold a4a at hk;cases k with
  |zero=>
   grind[a0H,a2W]
  |succ k=>
   have hb:(((L.length%8:Nat):Int) != 0)=true:=by grind
   rw[a0I (s':=(wL (L++[0]),())) (by
    simp only[a2W,h,hb,cT,b6v (show L.length<1000000000 by omega),oB])]
   rw[b6V k (L++[0]) (by grind[a4a]) (by grind)]
   grind
theorem c6V(h:L.length<800000000):a4f (wL L)=some (wL (a2p L)):=by
 unfold a4f;rw[b6V _ L rfl (by unfold a4a;omega)];rfl
def a7w(L:List Int):List Int:=(wL (a2p L)).1
theorem b4o(L:List Int):(a7w L).length=(L.length+7) / 8∧8*(a7w L).length=(a2p L).length:=by
 grind[a4O,a2p,a7w,a4a]
def a7F(f:a1f)(L:List Int):List Int:=a1z f (a7w L).length++a7w L
def a5v(f:a1f)(L:List Int):List Int:=a7F f L++[a3z (a7F f L) / 256,a3z (a7F f L)%256]
theorem b5K{f:a1f}(g:frP f)(h:L.length≤5600000):(a7F f L).length≤700700∧(a7w L).length≤700000:=by
 grind[b4o,c1G,a7F,a1z]
theorem c1H{f:a1f}(j:a3A f=some true)(d:frP f)(e:f.2.2.2.2.1.length≤8)(m:∀s∈f.2.2.2.2.1,SmallS s∧(a1U s f.2.1).isSome=true):
  ∃zs:List PZ,zs.map (·.1)=f.2.2.2.2.1∧(∀p∈zs,c4O f.2.1 p)∧(a0J zs).length≤5600000∧
   some (((a0J zs).length:Nat):Int)=f.2.2.2.2.1.foldr (fun s a=>a.bind fun a=>(a3w (s,f.2.1)).bind fun c=>some (c+a)) (some 0)∧a1r f=some (a5v f (a0J zs),0):=by
 obtain⟨zs,k1,k2,k3,⟨-,n⟩,k6⟩:=b8A f f.2.2.2.2.1 e f.2.2.2.2.1 [] [] rfl m (by grind);have b:(a0J zs).length≤5600000:=by omega
 refine⟨zs,k1,k2,b,n,?_⟩;rw[a09,a22]at k6;have hp:=b5K d b;have k:wL []=(([]:List Int),(0:Int),()):=rfl;rw[k]at k6;have g:(a2p (a0J zs)).length<1000000000:=by
  grind[b4o]
 have l:=b5h (a7F f (a0J zs));have h:a1z f (a7w (a0J zs)).length++a7w (a0J zs)=a7F f (a0J zs):=rfl;have i:(a1z f (a7w (a0J zs)).length).length+(a7w (a0J zs)).length=(a7F f (a0J zs)).length:=by grind
 unfold a1r;simp only[j,oB,bT,cF]
 erw[k6]
 simp only[oB,c6V (show(a0J zs).length<800000000 by omega),c6U g]
 erw[c4L d (show(a7w (a0J zs)).length≤1048576 by omega)]
 simp only[oB,a06];rw[show(wL (a2p (a0J zs))).1=a7w (a0J zs)from rfl];rw[h,a1e (by omega),cT,b6T (show short (a7F f (a0J zs))by unfold short;omega)]
 simp
 rw[a0U (by omega),d3N l];simp only[oB];rw[a1e (by grind),cT];rfl
end Go.Ab
