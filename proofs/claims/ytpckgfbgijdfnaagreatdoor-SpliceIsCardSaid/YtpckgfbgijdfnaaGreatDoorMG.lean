/- Part of the proof: PA. Conditions: as each statement tells. -/
import Derived.KernelRfl
import Derived.Test.YtpckgfbgijdfnaaGreatDoorMF
noncomputable section
set_option linter.unusedSimpArgs false
set_option linter.unusedVariables false
open BitVec renaming ofInt→a04,ofInt_natCast→a24,toNat_ofNat→a29,toNat_or→a72,toNat_ofInt→a82,toNat_and→a94
open Bool renaming and_self→a03,not_eq_true'→a33,not_false→a36,true_and→a39,and_eq_true_iff→a76,or_eq_false_iff→a77,or_eq_true→a99,eq_iff_iff→b00
open Int renaming eq_ofNat_of_zero_le→a01,natCast_dvd_natCast→a20,tmod→a26,cast_ofNat_Int→a30,toNat→a42,tmod_eq_emod_of_nonneg→a43,dvd_mul_of_dvd_left→a46,mul_nonneg→a47,tdiv→a54,tdiv_eq_ediv_of_nonneg→a61,mul_fdiv_cancel_left→a64,dvd_add_left→a66,toNat_of_nonneg→a79,fdiv→a80,natCast_nonneg→a83,dvd_zero→a86,emod_eq_of_lt→a89,natCast_add→b02
open List renaming replicate→a00,drop_eq_getElem_cons→a02,getElem_mem→a05,append_eq→a06,all_cons→a07,nil_append→a09,take_length→a19,length_nil→a22,drop_zero→a28,zipWith→a31,mem_of_mem_take→a34,mem_of_mem_drop→a35,length→a37,append_nil→a40,length_eq_zero_iff→a45,take_of_length_le→a48,take_succ_eq_append_getElem→a49,drop_length→a50,eq_nil_or_concat→a51,length_drop→a52,replicate_succ'→a53,set_cons_zero→a60,sum_cons→a62,flatMap_cons→a63,cons_append→a65,set_append_right→a73,length_singleton→a74,singleton_append→a75,getD→a87,getElem_zip→a91,length_take→a95,not_mem_nil→a97,mem_flatMap→a98,foldl_cons→b01,take→b03
open Nat renaming pow_le_pow_right→a08,two_pow_pos→a16,lt_trans→a18,mod_eq_of_lt→a23,mul_le_mul_right→a25,le_refl→a27,div_le_self→a32,lt_of_le_of_lt→a38,mod_lt→a41,pow_dvd_pow→a55,sub_self→a56,mul_comm→a57,testBit_two_pow_mul_add→a58,two_pow_add_eq_or_of_lt→a59,div_eq_of_lt→a67,pow_succ→a68,div_div_eq_div_mul→a69,div_add_mod→a70,min_eq_left→a71,div_mul_le_self→a78,one_le_two_pow→a81,le_of_lt→a84,add_zero→a85,or_lt_two_pow→a88,add_mod_right→a90,mul_add→a92,mul_one→a93,lt_of_not_le→a96
open Option renaming map_eq_some_iff→a21,bind_eq_some_iff→a44
namespace Go.Ab
variable {L P R c d g ks l part r row t wm:List Int}{N a b i j m o v w:Nat}{k lag n warm x:Int}{zn:List Nat}
open IntKind(wrap)
section
variable {σ β:Type} {f:σ→Option (σ ⊕ β)}
theorem b6q:∀(n m:Nat)(s:σ){b:β},j0z f n s=some b→j0z f (n+m) s=some b
 |0,_,s,b,h=>by simp[j0z]at h
 |n+1,m,s,b,h=>by
  rw[show n+1+m=n+m+1 from by omega];simp only[j0z]at h⊢
  split at h
  cases h;rename_i s' g;exact b6q n m s' h;exact h
theorem c2w{n:Nat}{s:σ}{b b':β}(h:j0z f n s=some b)(k:j0z f m s=some b'):b=b':=by
 have a:=b6q n m s h;have g:=b6q m n s k;rw[Nat.add_comm,a]at g;exact Option.some.inj g
theorem c9o{n:Nat}{s:σ}{b:β}(h:j0z f n s=some b):v0v f s=some b:=by
 unfold v0v;have g:∃n b,j0z f n s=some b:=⟨n,b,h⟩;rw[dif_pos g];exact congrArg some (c2w g.choose_spec.choose_spec h)
theorem c1W{n:Nat}{s:σ}{b:β}(h:j0z f n s=some b):y0s f s=some b:=by
 unfold y0s;split;rename_i g hb;rw[c2w hb h];exact c9o h
theorem c2x{s:σ}(h:∀n,j0z f n s=none):y0s f s=none:=by
 unfold y0s;rw[h 400];show v0v f s=none;unfold v0v;rw[dif_neg]
 rintro⟨n,b,g⟩
 rw[h n]at g;cases g
theorem a0E{s:σ}{b:β}(h:f s=some (.inr b)):y0s f s=some b:=c1W (n:=1) (by simp[j0z,h])
theorem a0F{s s':σ}(h:f s=some (.inl s')):y0s f s=y0s f s':=by
 by_cases hx:∃n b,j0z f n s'=some b
 obtain⟨n,b,hb⟩:=hx;rw[c1W hb];exact c1W (n:=n+1) (by simp[j0z,h,hb])
 ·have g:∀n,j0z f n s'=none:=fun n=>by
   cases hn:j0z f n s' with
   |none=>rfl
   |some b=>exact absurd ⟨n,b,hn⟩ hx
  rw[c2x g];refine c2x fun n=>?_
  cases n with
  |zero=>rfl
  |succ n=>simp[j0z,h,g n]
theorem c5S(S:Nat→σ)(n:Nat){b:β}(g:∀i,i<n→f (S i)=some (.inl (S (i+1))))(h:f (S n)=some (.inr b)):∀(k:Nat),k≤n→y0s f (S (n-k))=some b
 |0,_=>a0E h
 |k+1,hk=>by
  rw[a0F (g (n-(k+1)) (by omega)),show n-(k+1)+1=n-k from by omega];exact c5S S n g h k (by omega)
theorem a1E(S:Nat→σ)(n:Nat){b:β}(g:∀i,i<n→f (S i)=some (.inl (S (i+1))))(h:f (S n)=some (.inr b)):y0s f (S 0)=some b:=by
 have:=c5S S n g h n (a27 _)
 rwa [a56]at this
end
theorem a0C{n:Int}(h:-9223372036854775808≤n∧n≤9223372036854775807):wrap .i64 n=n:=by
 simp only[wrap,IntKind.bits,IntKind.signed]
 simp
 split<;>omega
theorem a0M{n:Int}(h:0≤n∧n<18446744073709551616):wrap .u64 n=n:=by
 simp only[wrap,IntKind.bits,IntKind.signed]
 simp
 omega
theorem a8s(n:Int):wrap .u8 n=n%256:=by
 simp[wrap,IntKind.bits,IntKind.signed]
def leB:Nat→Nat→List Int
 |0,_=>[]
 |k+1,n=>((n%256:Nat):Int)::leB k (n / 256)
theorem b1k:∀k n,(leB k n).length=k
 |0,_=>rfl
 |k+1,n=>by simp[leB,b1k k]
theorem b9w:∀(k n:Nat),leB (k+1) n=leB k n++[((n / 256^k%256:Nat):Int)]
 |0,n=>by simp[leB]
 |k+1,n=>by
  rw[leB,b9w k (n / 256),leB,a69,a68,a57 (256^k)];rfl
theorem b1H(x y:Int):v0s x y=min x y:=by
 simp only[v0s,cond_eq_ite,dT]
 split<;>omega
theorem b8q(x y:Int):v0r x y=max x y:=by
 simp only[v0r,cond_eq_ite,dT]
 split<;>omega
theorem a0T{n:Nat}(h:n<2147483648):lim n=true:=by simp[lim,h]
section
variable {α A σ β:Type}
def a2R(g:A→α→A ⊕ β):List α→A→A ⊕ β
 | [],a=>.inl a
 |x::r,a=>match g a x with
  |.inl a'=>a2R g r a'
  |.inr b=>.inr b
def a8t(fin:A→β):A ⊕ β→β
 |.inl a=>fin a
 |.inr b=>b
theorem b5R{f:σ→Option (σ ⊕ β)}(l:List α)(S:Nat→A→σ)(g:A→α→A ⊕ β)(I:Nat→A→Prop)(e:A→β)
  (d:∀i (h:i<l.length) a,I i a→(∀a',g a l[i]=.inl a'→f (S i a)=some (.inl (S (i+1) a'))∧I (i+1) a')∧(∀b,g a l[i]=.inr b→f (S i a)=some (.inr b)))
  (c:∀a,I l.length a→f (S l.length a)=some (.inr (e a))):∀(k i:Nat)(a:A),i+k=l.length→I i a→y0s f (S i a)=some (a8t e (a2R g (l.drop i) a))
 |0,i,a,hi,ha=>by
  obtain rfl:i=l.length:=by omega
  rw[a50];exact a0E (c a ha)
 |k+1,i,a,hi,ha=>by
  have j:i<l.length:=by omega
  rw[a02 j];obtain⟨m,n⟩:=d i j a ha;simp[a2R];cases hg:g a l[i]with
  |inl a'=>
   obtain⟨o,p⟩:=m a' hg;rw[a0F o];exact b5R l S g I e d c k (i+1) a' (by omega) p
  |inr b=>exact a0E (n b hg)
theorem a1H{f:σ→Option (σ ⊕ β)}(l:List α)(S:Nat→A→σ)(g:A→α→A ⊕ β)(I:Nat→A→Prop)(k:A→β)
  (d:∀i (h:i<l.length) a,I i a→(∀a',g a l[i]=.inl a'→f (S i a)=some (.inl (S (i+1) a'))∧I (i+1) a')∧(∀b,g a l[i]=.inr b→f (S i a)=some (.inr b)))
  (c:∀a,I l.length a→f (S l.length a)=some (.inr (k a))){a:A}(e:I 0 a):y0s f (S 0 a)=some (a8t k (a2R g l a)):=by
 have:=b5R l S g I k d c l.length 0 a (by omega) e
 simp_all
theorem a1S{f:σ→Option (σ ⊕ β)}(l:List α)(S:Nat→σ)(p:α→Bool){bt bf:β}
  (k:∀i (h:i<l.length),p l[i]=true→f (S i)=some (.inl (S (i+1))))(b:∀i (h:i<l.length),p l[i]=false→f (S i)=some (.inr bf))
  (g:f (S l.length)=some (.inr bt)):y0s f (S 0)=some (bif l.all p then bt else bf):=by
 have h:=a1H (A:=Unit) l (fun i _=>S i) (fun _ x=>bif p x then .inl ()else .inr bf) (fun _ _=>True) (fun _=>bt) (fun i h a _=>?_) (fun _ _=>g) (a:=()) trivial
 ·rw[h];congr 1;clear h k b g
  induction l with
  |nil=>rfl
  |cons x l ih=>
   simp[a2R];cases p x with
   |true=>simp_all
   |false=>rfl
 grind
end
theorem a0D{α:Type}{l:List α}{i:Nat}(h:i<l.length):m0k l (i:Int)=some l[i]:=by
 simp_all[m0k]
def a0A(x:Int):Bool:=decide (-1073741824≤x)&&decide (x<1073741824)
theorem a1I{x:Int}:a0A x=true↔-1073741824≤x∧x<1073741824:=by simp[a0A]
def short{α:Type}(l:List α):Prop:=l.length<1000000
theorem a0B{i:Nat}(h:i<1000000):wrap .i64 ((i:Int)+1)=((i+1:Nat):Int):=by
 grind[a0C]
theorem dlt{n:Nat}(h:i<n):decide ((i:Int)<(n:Int))=true:=by simp_all
theorem dge(n:Nat):decide ((n:Int)<(n:Int))=false:=by simp
theorem a4E{l:List Int}(a:short l):a2y l=some (l.all a0A):=by
 unfold a2y
 have:=a1S (f:=a2E) l (fun i=>(l,(l.length:Int),(i:Int),())) a0A (bt:=Sum.inl ()) (bf:=Sum.inr (false,()))
  (fun i h hp=>by
   have hp:=a1I.1 hp;have g:decide (l[i] < -1073741824)=false:=by simp_all
   have k:decide (l[i]≥1073741824)=false:=by simp_all
   simp only[a2E,dlt h,cT,a0D h,oB,g,k,cF,a0B (a18 h a)])
  (fun i h hp=>by
   simp only[a2E,dlt h,cT,a0D h,oB]
   grind[a0A])
  (by simp[a2E])
 grind
theorem a6A(x:Int):a5l x=some (a0A x):=by
 grind[a5l,a0A]
theorem a8u(x:Int):a7H x=some (a0A x):=by
 grind[a7H,a0A]
theorem a5q(x:Int):a6r x=some (a0A x):=by
 grind[a6r,a0A]
theorem b5S(x:Int):a5m x=some (a0A x):=by
 grind[a5m,a0A]
theorem a6n(g:short l):a2F l=some (l.all a0A):=by
 unfold a2F
 have:=a1S (f:=a3e) l (fun i=>(l,(l.length:Int),(i:Int),())) a0A (bt:=Sum.inl ()) (bf:=Sum.inr (false,()))
  (fun i h hp=>by simp[a3e,a0D h,a6A,hp,a0B (a18 h g),h])
  (fun i h hp=>by simp_all[a3e,a0D,a6A])
  (by simp[a3e])
 grind
theorem b4P(g:short l):a4y l=some (l.all a0A):=by
 unfold a4y
 have:=a1S (f:=a4c) l (fun i=>(l,(l.length:Int),(i:Int),())) a0A (bt:=Sum.inl ()) (bf:=Sum.inr (false,()))
  (fun i h hp=>by simp[a4c,a0D h,a8u,hp,a0B (a18 h g),h])
  (fun i h hp=>by simp_all[a4c,a0D,a8u])
  (by simp[a4c])
 grind
theorem b4l(g:short l):a5w l=some (l.all a0A):=by
 unfold a5w
 have:=a1S (f:=a3z) l (fun i=>(l,(l.length:Int),(i:Int),())) a0A (bt:=Sum.inl ()) (bf:=Sum.inr (false,()))
  (fun i h hp=>by simp[a3z,a0D h,a5q,hp,a0B (a18 h g),h])
  (fun i h hp=>by simp_all[a3z,a0D,a5q])
  (by simp[a3z])
 grind
theorem a7C(h:short l):a2M l=some (l.all a0A):=by
 have e:b4I=a2E:=rfl
 have:a2M l=a2y l:=by rfl
 simp_all[a4E]
def c0I(x:Int):Bool:=decide (-32768≤x)&&decide (x<32768)
def b0A(c:List Int)(s:Int):Bool:=decide (1≤c.length)&&(decide (c.length≤32)&&(decide (0≤s)&&(decide (s≤15)&&c.all c0I)))
theorem a9R{c:List Int}{s:Int}(a:short c):a4H (c,s)=some (b0A c s):=by
 have:=a1S (f:=a5v) c (fun i=>(c,(c.length:Int),(i:Int),())) c0I (bt:=Sum.inl ()) (bf:=Sum.inr (false,()))
  (fun i h hp=>by
   simp[c0I]at hp;have g:¬ c[i] < -32768:=by omega
   have k:¬ c[i]≥32768:=by omega
   simp[a5v,a0D h,a0B (a18 h a),h,g,k])
  (fun i h hp=>by
   grind[c0I,a5v,a0D])
  (by simp[a5v])
 simp at this;unfold a4H b0A
 grind
def b6r(x:Int):Bool:=decide (-64≤x)&&decide (x≤64)
def b2v(lag:Int)(t:List Int):Bool:=decide (2≤lag)&&(decide (lag≤1024)&&t.all b6r)
theorem b5z(g:t.length=3):a8F (lag,t)=some (b2v lag t):=by
 have:=a1S (f:=a7l) t (fun i=>(t,(i:Int),())) b6r (bt:=Sum.inl ()) (bf:=Sum.inr (false,()))
  (fun i h hp=>by
   simp[b6r]at hp
   grind[a7l,a0D,a0B])
  (fun i h hp=>by
   grind[b6r,a7l,a0D])
  (by simp_all[a7l])
 simp at this;unfold a8F b2v
 grind
def stageB(s:Int×(Int×Unit)):Bool:=decide (1≤s.1)&&(decide (s.1≤32)&&(decide (0≤s.2.1)&&decide (s.2.1≤8)))
def a9F(l:List (Int×Int×Unit)):Bool:=decide (l.length≤3)&&l.all stageB
theorem b1I(s:Int×(Int×Unit)):a7m s=some (stageB s):=by
 grind[a7m,stageB]
theorem b4m{l:List (Int×Int×Unit)}(g:short l):a7F l=some (a9F l):=by
 have:=a1S (f:=a6p) l (fun i=>(l,(l.length:Int),(i:Int),())) stageB (bt:=Sum.inl ()) (bf:=Sum.inr (false,()))
  (fun i h hp=>by simp[a6p,a0D h,b1I,hp,a0B (a18 h g),h])
  (fun i h hp=>by simp_all[a6p,a0D,b1I])
  (by simp[a6p])
 simp at this;unfold a7F a9F
 grind
@[reducible] def W(n:Int):Int:=wrap .i64 n
theorem a8v(n:Int):wrap .i64 n=Int.bmod n 18446744073709551616:=by
 grind[wrap,IntKind.bits,IntKind.signed]
theorem b7R{n:Int}(h:a0A n=true):W n=n:=by
 grind[a1I,a0C]
def a4m(guess:List Int→Int):List Int→List Int→Option (List Int)
 | [],out=>some out
 |x::r,out=>bif a0A (W (x+guess out))then a4m guess r (out++[W (x+guess out)])else none
def b4Q{β:Type}(guess:List Int→Int)(bad:β)(out:List Int)(x:Int):List Int ⊕ β:=bif a0A (W (x+guess out))then .inl (out++[W (x+guess out)])else .inr bad
theorem b3A{β:Type}(h:List Int→Int)(g:β)(f:List Int→β):∀(l out:List Int),a8t f (a2R (b4Q h g) l out)=match a4m h l out with|some r=>f r|none=>g
 | [],out=>rfl
 |x::l,out=>by
  simp[a2R,b4Q,a4m];cases a0A (W (x+h out))with
  |true=>simp_all[b3A]
  |false=>rfl
theorem b3B(g:List Int→Int):∀(l out r:List Int),out.all a0A=true→a4m g l out=some r→r.all a0A=true∧r.length=out.length+l.length
 | [],out,r,h,e=>by simp_all[a4m]
 |x::l,out,r,h,e=>by
  simp[a4m]at e;cases hw:a0A (W (x+g out))with
  |true=>
   rw[hw]at e;obtain⟨f,k⟩:=b3B g l _ r (by simp_all) e
   grind
  |false=>simp_all
def a5h:Option (List Int)→List Int×Int
 |some r=>(r,0)
 |none=>([],6)
def atB(out:List Int)(i:Nat):Int:=out.getD (out.length-i) 0
def a6B(o:Nat)(out:List Int):Int:=match o with
 | 1=>atB out 1
 | 2=>2*atB out 1-atB out 2
 | 3=>3*atB out 1-3*atB out 2+atB out 3
 | 4=>4*atB out 1-6*atB out 2+4*atB out 3-atB out 4
 |_=>0
theorem b3C{out:List Int}(hi:1≤i)(h:i≤out.length)(g:short out):a1m ((i:Int),out)=some (atB out i,out):=by
 unfold a1m;have g:out.length<1000000:=g
 grind[a0C,a0D,atB]
theorem c1X{out:List Int}(e:o≤4)(h:o≤out.length)(a:short out):∃g,a9J (out,(o:Int))=some g∧∀x,W (x+g)=W (x+a6B o out):=by
 have f:=fun(h':1≤out.length)=>b3C (i:=1) (by omega) h' a;have k:=fun(h':2≤out.length)=>b3C (i:=2) (by omega) h' a;have b:=fun(h':3≤out.length)=>b3C (i:=3) (by omega) h' a;have c:=fun(h':4≤out.length)=>b3C (i:=4) (by omega) h' a;simp at f k b c;unfold a9J;have d:o=0∨o=1∨o=2∨o=3∨o=4:=by omega
 rcases d with rfl|rfl|rfl|rfl|rfl;exact⟨0,rfl,fun x=>rfl⟩;exact⟨_,by simp[f (by omega)];rfl,fun x=>rfl⟩;refine⟨_,by simp[f (by omega),k (by omega)];rfl,fun x=>?_⟩;simp_all[a8v,a6B];refine⟨_,by simp[f (by omega),k (by omega),b (by omega)];rfl,fun x=>?_⟩;simp_all[a8v,a6B];refine⟨_,by simp[f (by omega),k (by omega),b (by omega),c (by omega)];rfl,fun x=>?_⟩;simp_all[a8v,a6B]
theorem a0U{n:Nat}(h:n<1000000):lim n=true:=a0T (by omega)
theorem c3j{warm rest:List Int}(u:o≤4)(x:warm.length=o)(w:rest.length<100000):
  b0R (warm,rest,(o:Int))=some (a5h (bif warm.all a0A&&rest.all a0A then a4m (a6B o) rest warm else none)):=by
 have c:short warm:=by unfold short;omega
 have m:short rest:=by unfold short;omega
 unfold b0R;have p:¬ (o:Int)<0:=by omega
 have q:¬ (o:Int) > 4:=by omega
 have r:(((warm.length:Nat):Int) != (o:Int))=false:=by simp_all
 simp only[p,q,r,decide_false,cF,oB,a7C c,a7C m];cases hw1:warm.all a0A with
 |false=>rfl
 |true=>
  simp only[bT,cF,oB,a39];cases hw2:rest.all a0A with
  |false=>rfl
  |true=>
   simp[a0U c]
   have:=a1H (f:=a7U) rest (fun i out=>((o:Int),rest,(rest.length:Int),(i:Int),out,())) (b4Q (a6B o) (Sum.inr ((6:Int),([]:List Int),())))
    (fun i out=>o≤out.length∧out.length≤o+i) (fun out=>Sum.inl (out,()))
    (fun i h out s=>by
     have j:i<1000000:=by omega
     have l:short out:=by unfold short;omega
     obtain⟨g,t,d⟩:=c1X u s.1 l;have e:wrap .i64 (rest[i]+g)=W (rest[i]+a6B o out):=d _;have k:a2M [W (rest[i]+a6B o out)]=some (a0A (W (rest[i]+a6B o out))):=by rw[a7C (by simp[short])];simp
     simp only[a7U,dlt h,cT,a0D h,oB,t,e,k,b4Q];cases hb:a0A (W (rest[i]+a6B o out))with
     |true=>
      simp only[cT,bT,cF,a0U (show out.length+1<1000000 by omega),a0B j];refine⟨fun v n=>?_,fun b hb=>(by grind)⟩;simp at n;subst n;exact⟨rfl,by grind,by grind⟩
     |false=>
      simp)
    (fun out _=>by simp[a7U]) (a:=warm) ⟨by omega,by omega⟩
   simp[b3A]at this;rw[this];cases a4m (a6B o) rest warm<;>rfl
def c3P(out:List Int):List Int→Nat→Int→Int
 | [],_,acc=>acc
 |c::r,i,acc=>bif decide (i<out.length)then c3P out r (i+1) (W (acc+W (c*atB out (i+1))))else acc
def b1J(c:List Int)(s:Int)(out:List Int):Int:=A0o .i64 (c3P out c 0 0) s
theorem d3m{out:List Int}(h:i<out.length)(g:short out):m0k out (wrap .i64 (wrap .i64 (((out.length:Nat):Int)-1)-(i:Int)))=some (atB out (i+1)):=by
 have g:out.length<1000000:=g
 grind[a0C,a0D,atB]
theorem b7S{out c:List Int}{s:Int}(f:short out)(a:short c):∀(k i:Nat)(acc:Int),i+k=c.length→
  y0s a3f (out,s,acc,c,(c.length:Int),(i:Int),())=some (s,c3P out (c.drop i) i acc,())
 |0,i,acc,h=>by
  obtain rfl:i=c.length:=by omega
  simp_all[a0E,a3f,c3P]
 |k+1,i,acc,h=>by
  have g:i<c.length:=by omega
  have e:out.length<1000000:=f;have d:c.length<1000000:=a;rw[a02 g,c3P];have j:wrap .i64 (((out.length:Nat):Int)-1)=((out.length:Nat):Int)-1:=a0C (by omega);have l:wrap .i64 (((out.length:Nat):Int)-1-(i:Int))=((out.length:Nat):Int)-1-(i:Int):=a0C (by omega)
  by_cases hi:i<out.length
  have b:decide (wrap .i64 (wrap .i64 (((out.length:Nat):Int)-1)-(i:Int))<0)=false:=by grind
  simp[hi];rw[a0F (s':=(out,s,W (acc+W (c[i]*atB out (i+1))),c,(c.length:Int),((i+1:Nat):Int),())) (by
   simp only[a3f,dlt g,cT,a0D g,oB,b,cF,d3m hi f,a0B (show i<1000000 by omega)])]
  exact b7S f a k (i+1) _ (by omega);have b:decide (wrap .i64 (wrap .i64 (((out.length:Nat):Int)-1)-(i:Int))<0)=true:=by grind
  simp[hi];simp_all[a0E,a3f,a0D]
theorem b6s{out:List Int}{s:Int}(g:short out)(h:short c)(f:0≤s):a4J (out,c,s)=some (b1J c s out):=by
 have:=b7S (s:=s) g h c.length 0 0 (by omega)
 grind[a4J,b1J]
def b4n(warm rest c:List Int)(s:Int):Option (List Int):=bif warm.all a0A&&rest.all a0A then a4m (b1J c s) rest warm else none
theorem b5T{warm rest:List Int}{s:Int}(o:b0A c s=true)(w:warm.length=c.length)(v:rest.length<100000):
  a7n (warm,rest,c,s)=some (a5h (b4n warm rest c s)):=by
 have g:=o;simp only[b0A,bA,dT]at g;have k:short c:=by unfold short;omega
 have m:short warm:=by unfold short;omega
 have l:short rest:=by unfold short;omega
 unfold a7n;have q:(((warm.length:Nat):Int) != ((c.length:Nat):Int))=false:=by simp_all
 simp only[a9R k,o,oB,bT,cF,q,a6n m,a6n l,b4n];cases hw1:warm.all a0A with
 |false=>rfl
 |true=>
  simp only[bT,cF,oB,a39];cases hw2:rest.all a0A with
  |false=>rfl
  |true=>
   have p:wrap .i64 (((warm.length:Nat):Int)+((rest.length:Nat):Int))=((warm.length+rest.length:Nat):Int):=by grind[a0C]
   have r:(0:Int)≤((warm.length+rest.length:Nat):Int):=by omega
   simp only[bT,cF,cT,p,r,decide_true,tN,a0U (show warm.length+rest.length<1000000 by omega),a0U (show 0+warm.length<1000000 by omega),a03,a06,a09]
   have:=a1H (f:=a6R) rest (fun i out=>(c,s,rest,(rest.length:Int),(i:Int),out,())) (b4Q (b1J c s) (Sum.inr ((6:Int),([]:List Int),())))
    (fun i out=>out.length≤warm.length+i) (fun out=>Sum.inl (out,()))
    (fun i h out u=>by
     have d:i<1000000:=by omega
     have j:short out:=by unfold short;omega
     have e:wrap .i64 (b1J c s out+rest[i])=W (rest[i]+b1J c s out):=by grind
     simp only[a6R,dlt h,cT,a0D h,oB,b6s j k g.2.2.1,e,a6A,b4Q];cases hb:a0A (W (rest[i]+b1J c s out))with
     |true=>
      simp only[cT,bT,cF,a0U (show out.length+1<1000000 by omega),a0B d];refine⟨fun t n=>?_,fun b hb=>(by grind)⟩;simp at n;subst n;exact⟨rfl,by grind⟩
     |false=>
      simp)
    (fun out _=>by simp[a6R]) (a:=warm) (by omega)
   simp[b3A]at this;rw[this];cases a4m (b1J c s) rest warm<;>rfl
def c3Q(out:List Int)(lag:Int):List Int→Nat→Int→Int
 | [],_,acc=>acc
 |t::r,i,acc=>c3Q out lag r (i+1) (bif decide (0≤(out.length:Int)-lag-1+i)then W (acc+W (t*out.getD ((out.length:Int)-lag-1+i).toNat 0))else acc)
def a9S(lag:Int)(t:List Int)(out:List Int):Int:=A0o .i64 (c3Q out lag t 0 0) 6
theorem c3R{out:List Int}{j:Int}(g:0≤j)(h:j<out.length):m0k out j=some (out.getD j.toNat 0):=by
 obtain⟨n,rfl⟩:=a01 g;simp_all[a0D]
theorem d1M{n:Nat}(h:2≤lag)(g:lag≤1024)(f:n<1000000)(hi:i<3):
  wrap .i64 (wrap .i64 (wrap .i64 ((n:Int)-lag)-1)+(i:Int))=(n:Int)-lag-1+i:=by
 grind[a0C]
theorem c7V{n:Nat}(h:j<n):(l.take n).getD j 0=l.getD j 0:=by
 simp_all
theorem a9n{l t:List Int}{lag:Int}{n:Nat}(m:n≤l.length)(j:short l)(o:t.length=3)(a:2≤lag)(b:lag≤1024):∀(k i:Nat)(acc:Int),i+k=3→
  y0s a4d (l,(n:Int),lag,acc,t,(i:Int),())=some (c3Q (l.take n) lag (t.drop i) i acc,())
 |0,i,acc,h=>by
  obtain rfl:i=t.length:=by omega
  grind[a0E,a4d,c3Q]
 |k+1,i,acc,h=>by
  have g:i<t.length:=by omega
  have f:decide ((i:Int)<3)=true:=by grind
  have p:l.length<1000000:=j;have d:(l.take n).length=n:=by simp_all
  have e:=d1M (n:=n) (i:=i) a b (by omega) (by omega);rw[a02 g,c3Q,d]
  by_cases hp:0≤(n:Int)-lag-1+i
  have c:decide ((n:Int)-lag-1+i≥0)=true:=by simp_all
  simp only[hp,decide_true,cT];rw[c7V (show((n:Int)-lag-1+i).toNat<n by omega),a0F (s':=(l,(n:Int),lag,W (acc+W (t[i]*l.getD ((n:Int)-lag-1+i).toNat 0)),t,((i+1:Nat):Int),())) (by
   simp only[a4d,f,cT,a0D g,oB,e,c,c3R hp (show(n:Int)-lag-1+(i:Int)<(l.length:Int)by omega),a0B (show i<1000000 by omega)])]
  exact a9n m j o a b k (i+1) _ (by omega);have c:decide ((n:Int)-lag-1+i≥0)=false:=by simp_all
  simp[hp];rw[a0F (s':=(l,(n:Int),lag,acc,t,((i+1:Nat):Int),())) (by
   simp only[a4d,f,cT,a0D g,oB,e,c,cF,a0B (show i<1000000 by omega)])]
  exact a9n m j o a b k (i+1) _ (by omega)
theorem b4R{l t:List Int}{lag:Int}{n:Nat}(f:n≤l.length)(k:short l)(a:t.length=3)(h:2≤lag)(g:lag≤1024):
  a4z (l,(n:Int),lag,t)=some (a9S lag t (l.take n)):=by
 have:=a9n (t:=t) f k a h g 3 0 0 (by rfl)
 simp_all[a4z,a9S]
theorem c0J{out:List Int}(f:short out)(k:t.length=3)(h:2≤lag)(g:lag≤1024):a4z (out,(out.length:Int),lag,t)=some (a9S lag t out):=by
 simp_all[b4R]
def b4S(rest:List Int)(lag:Int)(t:List Int):Option (List Int):=bif rest.all a0A then a4m (a9S lag t) rest []else none
theorem c3S{rest:List Int}(d:b2v lag t=true)(e:t.length=3)(m:rest.length<100000):b2e (rest,lag,t)=some (a5h (b4S rest lag t)):=by
 have g:=d;simp only[b2v,bA,dT]at g;have k:short rest:=by unfold short;omega
 unfold b2e;simp only[b5z e,d,oB,bT,cF,b4P k,b4S];cases hw2:rest.all a0A with
 |false=>rfl
 |true=>
  have l:(0:Int)≤((rest.length:Nat):Int):=by omega
  simp[a0U k]
  have:=a1H (f:=a8H) rest (fun i out=>(lag,rest,(rest.length:Int),(i:Int),out,t,())) (b4Q (a9S lag t) (Sum.inr ((6:Int),([]:List Int),())))
   (fun i out=>out.length=i) (fun out=>Sum.inl (out,()))
   (fun i h out j=>by
    have b:i<1000000:=by omega
    have c:short out:=by unfold short;omega
    have hp:=c0J (out:=out) (t:=t) (lag:=lag) c e g.1 g.2.1;rw[j]at hp;simp only[a8H,dlt h,cT,a0D h,oB,hp,a8u,b4Q];cases hb:a0A (W (rest[i]+a9S lag t out))with
    |true=>
     simp only[cT,bT,cF,a0U (show out.length+1<1000000 by omega),a0B b];simp_all
    |false=>
     simp)
   (fun out _=>by simp[a8H]) (a:=[]) rfl
  simp[b3A]at this;rw[this];cases a4m (a9S lag t) rest []<;>rfl
def c0K{β:Type}(n:Int)(bad:β)(out:List Int)(x:Int):List Int ⊕ β:=bif a0A x&&a0A (A0n .i64 x n)then .inl (out++[A0n .i64 x n])else .inr bad
def upO(n:Int)(l:List Int):Option (List Int):=bif l.all (fun x=>a0A x&&a0A (A0n .i64 x n))then some (l.map fun x=>A0n .i64 x n)else none
theorem b8V{β:Type}(n:Int)(h:β)(g:List Int→β):∀(l out:List Int),a8t g (a2R (c0K n h) l out)=match upO n l with|some r=>g (out++r)|none=>h
 | [],out=>by simp[a2R,a8t,upO]
 |x::l,out=>by
  simp only[a2R,c0K,upO,a07];cases hx:(a0A x&&a0A (A0n .i64 x n))with
  |true=>
   simp only[cT,a39];rw[b8V n h g l _];simp only[upO];cases l.all (fun x=>a0A x&&a0A (A0n .i64 x n))with
   |true=>simp
   |false=>rfl
  |false=>rfl
theorem c3T(d:0≤n)(e:n≤30)(m:l.length<100000):a9u (l,n)=some (a5h (upO n l)):=by
 have c:short l:=by unfold short;omega
 have g:¬ n<0:=by omega
 have b:¬ n > 30:=by omega
 unfold a9u;simp[g,b]
 have:=a1H (f:=a8I) l (fun i out=>(n,l,(l.length:Int),(i:Int),out,())) (c0K n (Sum.inr ((6:Int),([]:List Int),())))
  (fun i out=>out.length=i) (fun out=>Sum.inl (out,()))
  (fun i h out j=>by
   have k:i<1000000:=by omega
   simp only[a8I,dlt h,cT,a0D h,oB,b5S,c0K,g,decide_false,cF];cases hb:a0A l[i]with
   |true=>
    cases hb2:a0A (A0n .i64 l[i] n)with
    |true=>
     simp only[cT,bT,cF,oB,g,decide_false,a0U (show out.length+1<1000000 by omega),a0B k,a03];simp_all
    |false=>
     simp
   |false=>
    simp)
  (fun out _=>by simp[a8I]) (a:=[]) rfl
 simp[b8V]at this;rw[this];cases upO n l<;>rfl
@[reducible] def Fil:Type:=Int×((List Int)×((List Int)×Unit))
def a2w(x:Int):Int:=v0s (v0r x (-1073741824)) 1073741823
def c0L(x:Int):Int:=v0s (v0r x (-1048576)) 1048576
theorem c3U(x:Int):-1048576≤c0L x∧c0L x≤1048576:=by
 grind[c0L,b1H,b8q]
def c6T:List Int→List Int→Int→Int
 |a::w,b::h,acc=>c6T w h (W (acc+W (a*b)))
 |_,_,acc=>acc
def a1j(f:Fil):Int:=a2w (A0o .i64 (c6T f.2.1 f.2.2.1 0) 16)
structure FilOk (f:Fil):Prop where
 len:f.2.1.length=f.2.2.1.length
 pos:1≤f.2.1.length
 most:f.2.1.length≤32
 rate:0≤f.1∧f.1≤8
 small:∀x∈f.2.1,-1048576≤x∧x≤1048576
theorem b9x(h:i<l.length):a87 l i 0=l[i]:=by
 simp_all
theorem b4o{f:Fil}(c:FilOk f):∀(k i:Nat)(acc:Int),i+k=f.2.1.length→
  y0s a3d (acc,(f.2.1.length:Int),(i:Int),f,())=some (c6T (f.2.1.drop i) (f.2.2.1.drop i) acc,f,())
 |0,i,acc,h=>by
  obtain rfl:i=f.2.1.length:=by omega
  rw[a50,a0E (b:=(acc,f,())) (by simp[a3d])];rfl
 |k+1,i,acc,h=>by
  have g:i<f.2.1.length:=by omega
  have a:i<f.2.2.1.length:=by rw[←c.len];omega
  have e:=c.most;rw[a02 g,a02 a,c6T];have d:decide ((0:Int)≤(i:Int))=true:=by simp
  rw[a0F (s':=(W (acc+W (f.2.1[i]*f.2.2.1[i])),(f.2.1.length:Int),((i+1:Nat):Int),f,())) (by
   simp only[a3d,dlt g,dlt a,d,cT,a03,tN,b9x g,b9x a,a0B (show i<1000000 by omega)])]
  exact b4o c k (i+1) _ (by omega)
theorem a6C{f:Fil}(h:FilOk f):a1Y f=some (a1j f,f):=by
 have:=b4o h f.2.1.length 0 0 (by omega)
 simp at this;unfold a1Y;simp only[this,oB,a5x];rfl
def b8r(x:Int):Int:=if 0<x then 1 else if x<0 then -1 else 0
def b2w(r:Int)(x g:Int):Int:=b8r (x-g)*2^r.toNat
def b6t(st:Int)(w h:Int):Int:=c0L (W (w+b8r h*st))
def b3D(f:Fil)(x:Int):Fil:=
 (f.1,a31 (b6t (b2w f.1 (a2w x) (a1j f))) f.2.1 f.2.2.1,a2w x::f.2.2.1.take (f.2.2.1.length-1),f.2.2.2)
theorem c3V{f:Fil}(k:FilOk f)(x:Int):FilOk (b3D f x):=by
 obtain⟨a,b,c,g,d⟩:=k;have e:(a31 (b6t (b2w f.1 (a2w x) (a1j f))) f.2.1 f.2.2.1).length=f.2.1.length:=by simp_all
 refine⟨?_,?_,?_,g,?_⟩;show(a31 _ _ _).length=(a2w x::f.2.2.1.take (f.2.2.1.length-1)).length;simp_all;show 1≤(a31 _ _ _).length;omega;show(a31 _ _ _).length≤32;omega;intro y h;have h:y∈a31 (b6t (b2w f.1 (a2w x) (a1j f))) f.2.1 f.2.2.1:=h;obtain⟨i,hi,rfl⟩:=List.mem_iff_getElem.1 h
 simp
 exact c3U _
theorem b5A(x:Int):(0<x∧b8r x=1)∨(x<0∧b8r x=-1)∨(x=0∧b8r x=0):=by
 unfold b8r;omega
theorem b9y{r:Int}(h:0≤r∧r≤8):(2:Int)^r.toNat≤256∧1≤(2:Int)^r.toNat:=by
 have:r.toNat=0∨r.toNat=1∨r.toNat=2∨r.toNat=3∨r.toNat=4∨r.toNat=5∨r.toNat=6∨r.toNat=7∨r.toNat=8:=by omega
 rcases this with e|e|e|e|e|e|e|e|e<;>rw[e]<;>decide
theorem c7W{r:Int}(h:0≤r∧r≤8)(g:-1≤x∧x≤1):A0n .i64 x r=x*2^r.toNat:=by
 have hp:=b9y h;have hb:min r.toNat 64=r.toNat:=by omega
 unfold A0n;show wrap .i64 (x*2^(min r.toNat 64))=_;rw[hb]
 have:x=-1∨x=0∨x=1:=by omega
 rcases this with rfl|rfl|rfl
 all_goals grind[a0C]
theorem c3k{f:Fil}(a:FilOk f)(x:Int):
  (bif decide (a2w x > a1j f)then bif decide (f.1<0)then(none:Option (Int×Int×Fil×Unit))else some (a2w x,A0n .i64 (1:Int) f.1,f,())
   else bif decide (a2w x<a1j f)then bif decide (f.1<0)then none else some (a2w x,wrap .i64 (0-(A0n .i64 (1:Int) f.1)),f,())
   else some (a2w x,(0:Int),f,()))=some (a2w x,b2w f.1 (a2w x) (a1j f),f,()):=by
 have d:¬ f.1<0:=by have:=a.rate;omega
 have hp:=b9y a.rate;have b:=c7W a.rate (x:=1) (by omega);rw[Int.one_mul]at b;rcases b5A (a2w x-a1j f)with⟨c,h⟩|⟨c,h⟩|⟨c,h⟩;have g:a2w x > a1j f:=by omega
 simp only[g,d,decide_true,decide_false,cT,cF,b2w,h,Int.one_mul,b];have g:¬ a2w x > a1j f:=by omega
 have k:a2w x<a1j f:=by omega
 simp only[g,k,d,decide_true,decide_false,cT,cF,b2w,h,b]
 grind[a0C]
 have g:¬ a2w x > a1j f:=by omega
 have k:¬ a2w x<a1j f:=by omega
 simp only[g,k,decide_false,cF,b2w,h,Int.zero_mul]
theorem c9p{z:List Int}(hi:i<l.length)(f:z.length=l.length):(z.take i++l.drop i).set i (z[i]'(by omega))=z.take (i+1)++l.drop (i+1):=by
 have h:(z.take i).length=i:=by grind
 have g:z.take (i+1)=z.take i++[z[i]'(by omega)]:=by simp
 rw[a73 _ _ (by omega),h,a56,a02 hi,a60,g,aA];rfl
theorem c9q{z:List Int}(hi:i<l.length)(h:z.length=l.length):a87 (z.take i++l.drop i) i 0=l[i]:=by
 grind
theorem c7X{f:Fil}(g:FilOk f)(h:i<f.2.1.length):-1048576≤f.2.1[i]∧f.2.1[i]≤1048576:=g.small _ (a05 h)
theorem c0M{f:Fil}(n:FilOk f){x1 st:Int}(t:-256≤st∧st≤256):
  y0s a2u (x1,st,(f.2.2.1.length:Int),(0:Int),f,())=some (x1,(f.1,a31 (b6t st) f.2.1 f.2.2.1,f.2.2),()):=by
 obtain⟨z,v⟩:∃z,a31 (b6t st) f.2.1 f.2.2.1=z:=⟨_,rfl⟩;have p:=n.len;have d:z.length=f.2.1.length:=by grind
 have u:=n.most
 have:=a1E (f:=a2u) (fun i=>(x1,st,(f.2.2.1.length:Int),(i:Int),(f.1,z.take i++f.2.1.drop i,f.2.2),()))
  f.2.2.1.length (b:=(x1,(f.1,z,f.2.2),())) (fun i hi=>by
   have k:i<f.2.1.length:=by omega
   have j:decide ((0:Int)≤(i:Int))=true:=by simp
   have r:(z.take i++f.2.1.drop i).length=f.2.1.length:=by grind
   have g:decide ((i:Int)<((z.take i++f.2.1.drop i).length:Int))=true:=by simp_all
   have o:z[i]'(by omega)=b6t st f.2.1[i] f.2.2.1[i]:=by grind
   have s:=c7X n k;have h:=c9p k d;rw[o]at h;simp only[a2u,dlt hi,j,g,cT,a03,tN,b9x hi,c9q k d];rcases b5A f.2.2.1[i]with⟨m,a⟩|⟨m,a⟩|⟨m,a⟩;have c:f.2.2.1[i] > 0:=m;simp[b6t,a]at h;simp only[c,decide_true,cT,oB,j,g,a03,tN,a0B (show i<1000000 by omega)];exact congrArg (fun l=>some (Sum.inl (x1,st,(f.2.2.1.length:Int),((i+1:Nat):Int),(f.1,l,f.2.2),()))) h;have c:¬ f.2.2.1[i] > 0:=by omega
   have e:f.2.1[i]+-1*st=f.2.1[i]-st:=by omega
   simp only[b6t,a,e]at h;simp only[c,m,decide_true,decide_false,cT,cF,oB,j,g,a03,tN,a0B (show i<1000000 by omega)];exact congrArg (fun l=>some (Sum.inl (x1,st,(f.2.2.1.length:Int),((i+1:Nat):Int),(f.1,l,f.2.2),()))) h;have c:¬ f.2.2.1[i] > 0:=by omega
   have q:¬ f.2.2.1[i]<0:=by omega
   have e:W (f.2.1[i]+0*st)=f.2.1[i]:=by rw[Int.zero_mul,Int.add_zero];exact a0C (by omega)
   simp only[b6t,a,e]at h;simp only[c,q,decide_false,cF,oB,j,g,cT,a03,tN,a0B (show i<1000000 by omega)];exact congrArg (fun l=>some (Sum.inl (x1,st,(f.2.2.1.length:Int),((i+1:Nat):Int),(f.1,l,f.2.2),()))) h)
  (by
   simp_all[a48,a2u])
 simp_all
theorem c5r{f:Fil}(k:FilOk f)(x g:Int):-256≤b2w f.1 x g∧b2w f.1 x g≤256:=by
 have hp:=b9y k.rate;unfold b2w;rcases b5A (x-g)with⟨-,h⟩|⟨-,h⟩|⟨-,h⟩<;>rw[h]<;>omega
theorem b7q{f:Fil}(h:FilOk f)(x:Int):a3g (f,x)=some (b3D f x):=by
 unfold a3g;have d:=c3k h x;simp only[a5x,oB,a6C h];have g:(bif decide (v0s (v0r x (-1073741824)) 1073741823 > a1j f)then bif decide (f.1<0)then(none:Option (Int×Int×Fil×Unit))else some (v0s (v0r x (-1073741824)) 1073741823,A0n .i64 (1:Int) f.1,f,())
   else bif decide (v0s (v0r x (-1073741824)) 1073741823<a1j f)then bif decide (f.1<0)then none else some (v0s (v0r x (-1073741824)) 1073741823,wrap .i64 (0-(A0n .i64 (1:Int) f.1)),f,())
   else some (v0s (v0r x (-1073741824)) 1073741823,(0:Int),f,()))=_:=d
 rw[g];simp only[oB,c0M h (c5r h _ _)];have i:f.2.2.1.length≥1:=by have:=h.pos;have:=h.len;omega
 have b:decide ((1:Int)≤((f.2.2.1.length:Nat):Int))=true:=by grind
 have e:p0h f.2.2.1 1 (f.2.2.1.length-1) f.2.2.1=f.2.2.1.take 1++f.2.2.1.take (f.2.2.1.length-1):=by
  simp_all[p0h]
 have j:(f.2.2.1.take 1++f.2.2.1.take (f.2.2.1.length-1)).length=f.2.2.1.length:=by simp_all
 have c:decide ((0:Int)<(((f.2.2.1.take 1++f.2.2.1.take (f.2.2.1.length-1)).length:Nat):Int))=true:=by grind
 simp only[b,cT,e,c];congr 1;have k:(f.2.2.1.take 1++f.2.2.1.take (f.2.2.1.length-1)).set 0 (a2w x)=a2w x::f.2.2.1.take (f.2.2.1.length-1):=by
  cases hc:f.2.2.1 with
  |nil=>simp_all
  |cons a l=>simp
 rw[k];rfl
@[reducible] def Stg:Type:=Int×(Int×Unit)
variable {st:List Stg}
theorem a8w{l:List Int}(h:short l):a1g l=some l:=by
 have g:lim (0+l.length)=true:=a0U (by unfold short at h;omega);simp_all[a1g,x0e]
def b1K(s:Stg):Fil:=(s.2.1,a00 s.1.toNat 0,a00 s.1.toNat 0,())
theorem c5T{s:Stg}(h:stageB s=true):FilOk (b1K s):=by
 simp[stageB]at h;refine⟨by rfl,by simp[b1K];omega,by simp[b1K];omega,⟨h.2.2.1,h.2.2.2⟩,fun x g=>?_⟩;simp_all[b1K]
theorem b4p{s:Stg}(h:stageB s=true):a9t s=some (b1K s,0):=by
 have g:=h;simp[stageB]at g;unfold a9t;have f:decide ((0:Int)≤s.1)=true:=by grind
 have k:decide (s.1≤s.1)=true:=by simp
 have a:lim s.1.toNat=true:=a0U (by omega);simp only[b1I,h,oB,bT,cF,f,k,a,a03,cT];rfl
def stO:List Int→List Int→Fil→Option (List Int)
 | [],done,_=>some done
 |r::rs,done,f=>bif a0A (W (a1j f+r))then stO rs (done++[W (a1j f+r)]) (b3D f (W (a1j f+r)))else none
theorem b6u:∀(l done:List Int)(f:Fil){r},stO l done f=some r→r.length=done.length+l.length
 | [],done,f,r,h=>by simp_all[stO]
 |x::l,done,f,r,h=>by
  simp[stO]at h;cases hw:a0A (W (a1j f+x))with
  |true=>rw[hw]at h;rw[b6u l _ _ h];grind
  |false=>simp_all
theorem b4T{done:List Int}(g:done.length=i)(h:i<row.length):a87 (done++row.drop i) i 0=row[i]:=by
 grind
theorem c3W{done:List Int}(g:done.length=i)(h:i<row.length)(y:Int):(done++row.drop i).set i y=(done++[y])++row.drop (i+1):=by
 rw[a73 _ _ (by omega),g,a56,a02 h,a60,aA];rfl
theorem b4U{row b4:List Int}{b5:Int}(d:short row):∀(k i:Nat)(done:List Int)(f:Fil),i+k=row.length→done.length=i→FilOk f→
  ∃z,y0s a5y ((row.length:Int),(i:Int),b4,b5,done++row.drop i,f,())=some z∧
   match stO (row.drop i) done f with
   |some r=>z=.inl (b4,b5,r,())
   |none=>∃q,z=.inr (([]:List Int),(6:Int),q,())
 |0,i,done,f,h,hd,hf=>by
  obtain rfl:i=row.length:=by omega
  rw[a50,a40];exact⟨_,a0E (b:=Sum.inl (b4,b5,done,())) (by simp[a5y]),rfl⟩
 |k+1,i,done,f,h,hd,hf=>by
  have hi:i<row.length:=by omega
  have e:row.length<1000000:=d;have a:decide ((0:Int)≤(i:Int))=true:=by simp
  have j:(done++row.drop i).length=row.length:=by grind
  have c:decide ((i:Int)<(((done++row.drop i).length:Nat):Int))=true:=by simp_all
  have g:stO (row.drop i) done f=bif a0A (W (a1j f+row[i]))then stO (row.drop (i+1)) (done++[W (a1j f+row[i])]) (b3D f (W (a1j f+row[i])))else none:=by
   rw[a02 hi];rfl
  rw[g];cases hw:a0A (W (a1j f+row[i]))with
  |true=>
   rw[a0F (s':=((row.length:Int),((i+1:Nat):Int),b4,b5,(done++[W (a1j f+row[i])])++row.drop (i+1),b3D f (W (a1j f+row[i])),())) (by
    simp only[a5y,dlt hi,a,c,cT,a03,a6C hf,oB,tN,b4T hd hi,a5q,hw,bT,cF,b7q hf,c3W hd hi,a0B (show i<1000000 by omega)])]
   exact b4U d k (i+1) _ _ (by omega) (by simp_all) (c3V hf _)
  |false=>
   exact⟨_,a0E (b:=Sum.inr (([]:List Int),(6:Int),done++row.drop i,())) (by
    simp only[a5y,dlt hi,a,c,cT,a03,a6C hf,oB,tN,b4T hd hi,a5q,hw,a36]),_,rfl⟩
def lO:List Stg→List Int→Option (List Int)
 | [],row=>some row
 |s::r,row=>match stO row [] (b1K s)with
  |some row'=>lO r row'
  |none=>none
theorem c5s{s:Stg}{b4:List Int}(h:stageB s=true)(b:short row):
  ∃z,a7V k s (st,b4,(0:Int),row,())=some z∧match stO row [] (b1K s)with
   |some r=>z=.inl (st,b4,(0:Int),r,())
   |none=>∃q,z=.inr (.ret,st,([]:List Int),(6:Int),q,()):=by
 obtain⟨z,g,f⟩:=b4U (b4:=b4) (b5:=0) b row.length 0 [] (b1K s) (by omega) rfl (c5T h);simp at g f;unfold a7V;have a:((0:Int) != 0)=false:=rfl;simp[b4p h,g];cases hst:stO row [] (b1K s)with
 |some r=>
  simp_all
 |none=>
  grind
theorem b8W{st l:List Stg}{b4:List Int}(f:∀s∈l,stageB s=true):∀(n:Nat)(row:List Int),n≤l.length→short row→
  ∃z,l0f a7V l n (st,b4,(0:Int),row,())=some z∧match lO (l.take n).reverse row with
   |some r=>z=.inl (st,b4,(0:Int),r,())
   |none=>∃q,z=.inr (.ret,st,([]:List Int),(6:Int),q,())
 |0,row,_,_=>⟨_,rfl,rfl⟩
 |n+1,row,hn,hs=>by
  have h:n<l.length:=by omega
  obtain⟨z,a,g⟩:=c5s (st:=st) (k:=(n:Int)) (b4:=b4) (f _ (a05 h)) hs;have b:(l.take (n+1)).reverse=l[n]::(l.take n).reverse:=by simp
  simp[l0f,lG h,a,b,lO];cases hst:stO row [] (b1K l[n])with
  |some r=>
   rw[hst]at g;simp at g;subst g;exact b8W f n r (by omega) (by have:=b6u _ _ _ hst;unfold short at hs⊢;simp_all)
  |none=>
   grind
def b2K(rest:List Int)(st:List Stg):Option (List Int):=bif rest.all a0A then lO st.reverse rest else none
theorem c3l{rest:List Int}(a:a9F st=true)(c:rest.length<100000):b0V (rest,st)=some (a5h (b2K rest st)):=by
 have f:=a;simp only[a9F,bA,dT]at f;have k:short st:=by unfold short;omega
 have h:short rest:=by unfold short;omega
 unfold b0V;simp only[b4m k,a,oB,bT,cF,b4l h,b2K];cases hw:rest.all a0A with
 |false=>rfl
 |true=>
  obtain⟨z,b,g⟩:=b8W (st:=st) (b4:=[]) (lA.1 f.2) st.length rest (a27 _) h;rw[a19]at g;simp[a8w h,a0U k,b];cases hst:lO st.reverse rest with
  |some r=>
   rw[hst]at g;simp at g;subst g;rfl
  |none=>
   rw[hst]at g;obtain⟨q,rfl⟩:=g;rfl
def a6D(n warm:Int):Bool:=decide (1≤n)&&(decide (n≤4096)&&(decide (0≤warm)&&decide (warm≤n)))
theorem b4q(n warm:Int):a7G (n,warm)=some (a6D n warm):=by
 grind[a7G,a6D]
theorem d3n(h:o≤8):1≤2^o∧2^o≤256:=by
 have:o=0∨o=1∨o=2∨o=3∨o=4∨o=5∨o=6∨o=7∨o=8:=by omega
 grind
theorem c3X(h:o≤64):A0o .i64 (N:Int) (o:Int)=((N / 2^o:Nat):Int):=by
 unfold A0o;show a80 (N:Int) (2^(min (o:Int).toNat 64))=_
 grind
theorem b9z(h:o≤64)(g:N*2^o<9223372036854775808):A0n .i64 (N:Int) (o:Int)=((N*2^o:Nat):Int):=by
 unfold A0n;show wrap .i64 ((N:Int)*2^(min (o:Int).toNat 64))=_
 grind[a0C]
def b5U(o N:Nat)(warm:Int):List Int:=
 if N%2^o=0∧warm≤((N / 2^o:Nat):Int)then(((N / 2^o:Nat):Int)-warm)::a00 (2^o-1) ((N / 2^o:Nat):Int)else[]
def a1K(order n warm:Int):List Int:=bif a6D n warm&&(decide (0≤order)&&decide (order≤8))then b5U order.toNat n.toNat warm else[]
theorem a2b(order n warm:Int):a3a (order,n,warm)=some (a1K order n warm):=by
 unfold a3a a1K;simp only[b4q,oB];cases hr:a6D n warm with
 |false=>rfl
 |true=>
  simp[a6D]at hr;simp only[bT,cF,a39]
  by_cases h1:order<0
  grind
  by_cases h2:order > 8
  grind
  obtain⟨o,rfl⟩:=a01 (show 0≤order by omega);obtain⟨N,rfl⟩:=a01 (show 0≤n by omega);have p:o≤8:=by omega
  have q:N≤4096:=by omega
  have hp:=d3n p;have m:N / 2^o*2^o≤N:=a78 N _;have l:(0:Int)≤(o:Int):=by omega
  have g8:(o:Int)≤8:=by omega
  simp only[h1,h2,l,g8,decide_true,decide_false,cF,cT,a03,oB,c3X (N:=N) (show o≤64 by omega),b9z (N:=N / 2^o) (show o≤64 by omega) (by omega),tN];have g:=a70 N (2^o);rw[a57]at g
  by_cases hm:N%2^o=0
  have k:(((N / 2^o*2^o:Nat):Int) != (N:Int))=false:=by simp_all
  by_cases hw:warm≤((N / 2^o:Nat):Int)
  have c:decide (((N / 2^o:Nat):Int)<warm)=false:=decide_eq_false (Int.not_lt.2 hw);have e:wrap .i64 (((N / 2^o:Nat):Int)-warm)=((N / 2^o:Nat):Int)-warm:=a0C (by have:=a32 N (2^o);omega);simp only[k,c,e,cF,oB,b5U,hm,hw,and_self,if_true];have d:A0n .i64 (1:Int) (o:Int)=((2^o:Nat):Int):=by have:=b9z (N:=1) (show o≤64 by omega) (by omega);simp_all
  have:=a1E (f:=a6P) (fun i=>((o:Int),((N / 2^o:Nat):Int),(((N / 2^o:Nat):Int)-warm)::a00 i ((N / 2^o:Nat):Int),())) (2^o-1)
   (b:=((((N / 2^o:Nat):Int)-warm)::a00 (2^o-1) ((N / 2^o:Nat):Int),())) (fun i hi=>by
    have a:decide ((((((N / 2^o:Nat):Int)-warm)::a00 i ((N / 2^o:Nat):Int)).length:Int)<((2^o:Nat):Int))=true:=by
     grind
    have h:lim (((((N / 2^o:Nat):Int)-warm)::a00 i ((N / 2^o:Nat):Int)).length+1)=true:=a0U (by grind);have j:a00 i ((N / 2^o:Nat):Int)++[((N / 2^o:Nat):Int)]=a00 (i+1) ((N / 2^o:Nat):Int):=by grind[a53]
    simp only[a6P,h1,decide_false,cF,d,a,cT,h,a06,a65,j])
   (by
    have a:decide ((((((N / 2^o:Nat):Int)-warm)::a00 (2^o-1) ((N / 2^o:Nat):Int)).length:Int)<((2^o:Nat):Int))=false:=by
     simp_all
    simp only[a6P,h1,decide_false,cF,d,a])
  simp_all;have c:decide (((N / 2^o:Nat):Int)<warm)=true:=decide_eq_true (Int.not_le.1 hw);simp_all[b5U];have k:(((N / 2^o*2^o:Nat):Int) != (N:Int))=true:=by grind
  simp only[k,cT,oB,b5U,hm,false_and,if_false]
@[reducible] def Prt:Type:=Int×((List Int)×Unit)
variable {p:Prt}
def kB(k:Int):Bool:=(decide (0≤k)&&decide (k≤25)) || (k==31)
def a5M(p:Prt)(n warm:Int):Bool:=!((a1K p.1 n warm).length==0)&&((a1K p.1 n warm).length==p.2.1.length&&p.2.1.all kB)
theorem b4r(g:short p.2.1):a9s (p,n,warm)=some (a5M p n warm):=by
 have:=a1S (f:=a4x) p.2.1 (fun i=>(p.2.1,(p.2.1.length:Int),(i:Int),())) kB (bt:=Sum.inl ()) (bf:=Sum.inr (false,()))
  (fun i h hp=>by
   simp[kB]at hp
   by_cases h1:p.2.1[i]<0
   omega
   by_cases h2:p.2.1[i] > 25
   have b:p.2.1[i]=31:=by omega
   have a:(p.2.1[i] != 31)=false:=by simp_all
   simp[a4x,a0D h,h,h1,h2,a,a0B (a18 h g)];simp[a4x,a0D h,h,h1,h2,a0B (a18 h g)])
  (fun i h hp=>by
   have hp:¬ (kB p.2.1[i]=true):=by simp_all
   simp only[kB,a99,bA,dT,beq_iff_eq]at hp
   grind[a4x,a0D])
  (by simp[a4x])
 simp at this;unfold a9s a5M;simp[a2b]
 by_cases h0:(a1K p.1 n warm).length=0
 simp_all
 ·have e:((((a1K p.1 n warm).length:Nat):Int)==0)=false:=by simp_all
  have k:((a1K p.1 n warm).length==0)=false:=by simp_all
  simp[e,k]
  by_cases h1:(a1K p.1 n warm).length=p.2.1.length
  all_goals grind
@[reducible] def Sub:Type:=Int×(Int×(Int×(Int×(Int×((List Int)×((List Int)×((List Stg)×((List Int)×(Prt×((List Int)×Unit))))))))))
variable {s:Sub}
structure SmallS (s:Sub):Prop where
 coefs:s.2.2.2.2.2.1.length≤40
 taps:s.2.2.2.2.2.2.1.length=3
 stages:s.2.2.2.2.2.2.2.1.length≤6
 warm:s.2.2.2.2.2.2.2.2.1.length≤5000
 rest:s.2.2.2.2.2.2.2.2.2.2.1.length≤5000
 ks:s.2.2.2.2.2.2.2.2.2.1.2.1.length≤300
theorem b4s(x y:List Int):eqT (.arr 3 (.int .i64)) x y=decide (x=y):=by
 show((a31 (fun(a b:Int)=>a==b) x y).all id&&x.length==y.length)=_
 induction x generalizing y with
 |nil=>cases y<;>simp
 |cons a x ih=>
  cases y with
  |nil=>simp
  |cons b y=>
   grind[List.zipWith_cons_cons]
theorem b3E{l:List Int}(h:short l):a2z l=some l:=a8w h
theorem b8X{l:List Stg}(h:short l):a1o l=some l:=by
 have g:lim (0+l.length)=true:=a0U (by unfold short at h;omega);simp_all[a1o,x0e]
def a3Z(k:Int)(s:Sub)(n:Int):Prop:=
 k=0∨k=1∨(k=2∧0≤s.2.2.1∧s.2.2.1≤4∧s.2.2.1≤n)∨(k=3∧b0A s.2.2.2.2.2.1 s.2.2.2.1=true∧(s.2.2.2.2.2.1.length:Int)≤n)∨
  (k=4∧b0A s.2.2.2.2.2.1 s.2.2.2.1=true∧(s.2.2.2.2.2.1.length:Int)≤n∧b2v s.2.2.2.2.1 s.2.2.2.2.2.2.1=true)∨
  (k=5∧0<s.2.2.2.2.2.2.2.1.length∧a9F s.2.2.2.2.2.2.2.1=true)
open Classical in
def b4t (k:Int) (s:Sub) (n:Int):Bool:=decide (a3Z k s n)
theorem b5V{s:Sub}(h:SmallS s)(k n:Int):a8j (k,s,n)=some (b4t k s n):=by
 have a:short s.2.2.2.2.2.1:=by have:=h.coefs;unfold short;omega
 have b:short s.2.2.2.2.2.2.2.1:=by have:=h.stages;unfold short;omega
 unfold a8j b4t a3Z
 by_cases k0:k=0
 simp_all
 by_cases k1:k=1
 simp_all;have g:(k==0)=false:=by grind
 have f:(k==1)=false:=by grind
 simp only[g,f,cF,oB]
 by_cases k2:k=2
 subst k2
 grind
 by_cases k3:k=3
 subst k3
 grind[a9R]
 by_cases k4:k=4
 subst k4;cases hl:b0A s.2.2.2.2.2.1 s.2.2.2.1<;>by_cases h2:(s.2.2.2.2.2.1.length:Int)≤n<;>simp[a9R a,b5z h.taps,hl,h2]
 by_cases k5:k=5
 ·subst k5
  by_cases h1:0<s.2.2.2.2.2.2.2.1.length
  all_goals simp_all[b4m]
 grind
def a2p(s:Sub)(n:Int):Int:=if s.1=0 then 1 else if s.1=1 then n else if s.1=2 then s.2.2.1 else if s.1=3∨s.1=4 then(s.2.2.2.2.2.1.length:Int)else 0
theorem b2L(s:Sub)(n:Int):a4I (s,n)=some (a2p s n):=by
 grind[a4I,a2p]
def b5W(s:Sub):Prop:=
 (s.1≠2→s.2.2.1=0)∧(s.1≠3∧s.1≠4→s.2.2.2.1=0)∧(s.1≠4→s.2.2.2.2.1=0)∧(s.1≠4→s.2.2.2.2.2.2.1=[0,0,0])∧(s.1≠3∧s.1≠4→s.2.2.2.2.2.1=[])∧(s.1≠5→s.2.2.2.2.2.2.2.1=[])
open Classical in
def b5X (s:Sub):Bool:=decide (b5W s)
theorem b1L{c x:Bool}:(bif c then some x else some false)=some (c&&x):=by grind
theorem d3o{α:Type}(l:List α):(((l.length:Nat):Int)==0)=decide (l=[]):=by
 cases l with
 |nil=>rfl
 |cons a l=>rfl
theorem c1Y(x:Int):(x==0)=decide (x=0):=rfl
theorem c3Y{s:Sub}(h:SmallS s):b2b s=some (b5X s):=by
 have e:short s.2.2.2.2.2.1:=by have:=h.coefs;unfold short;omega
 have g:short s.2.2.2.2.2.2.2.1:=by have:=h.stages;unfold short;omega
 obtain⟨k,w,o,sh,lag,c,t,st,j,p,r,u⟩:=s;simp only at e g;unfold b2b a6q b5X b5W;have i:(a00 3 (0:Int))=[0,0,0]:=rfl
 by_cases k2:k=2
 simp_all[b4s,b1L,c1Y]
 by_cases k4:k=4
 simp_all[b4s,b1L,c1Y,b3E]
 by_cases k3:k=3
 simp_all[b4s,b1L,c1Y,b3E]
 by_cases k5:k=5
 simp_all[b4s,b1L,c1Y,b8X];have f:(k==2)=false:=by grind
 have a:(k==3)=false:=by grind
 have b:(k==4)=false:=by grind
 have d:(k==5)=false:=by grind
 simp[f,a,b,d,k2,k3,k4,k5,b4s,i,b1L,d3o,c1Y]
theorem a6J(k:Int):a6o k=some (decide (k≠0∧k≠1)):=by
 unfold a6o
 by_cases h0:k=0
 simp_all
 ·by_cases h1:k=1
  all_goals grind
def a1u(s:Sub)(n:Int):Prop:=
 1≤n∧n≤4096∧a3Z s.1 s n∧b5W s∧0≤s.2.1∧s.2.1≤30∧(s.1=0→s.2.1=0)∧(s.2.2.2.2.2.2.2.2.1.length:Int)=a2p s n∧s.2.2.2.2.2.2.2.2.1.all a0A=true∧s.2.2.2.2.2.2.2.2.2.2.1.all a0A=true∧
  (s.1=0∨s.1=1→s.2.2.2.2.2.2.2.2.2.2.1=[]∧s.2.2.2.2.2.2.2.2.2.1.1=0∧s.2.2.2.2.2.2.2.2.2.1.2.1=[])∧
  (s.1≠0∧s.1≠1→(s.2.2.2.2.2.2.2.2.2.2.1.length:Int)=n-a2p s n∧a5M s.2.2.2.2.2.2.2.2.2.1 n (a2p s n)=true)
theorem c5t(h:SmallS s)(a:1≤n)(b:n≤4096)(f:a3Z s.1 s n):0≤a2p s n∧a2p s n≤4096:=by
 have c:=h.coefs;unfold a2p;rcases f with k|k|⟨k,g⟩|⟨k,g⟩|⟨k,g⟩|⟨k,g⟩<;>simp[k]<;>omega
open Classical in
theorem c7Y {s:Sub} (h:SmallS s) (n:Int):b0Q (s,n)=some (decide (a1u s n)):=by
 have hw:short s.2.2.2.2.2.2.2.2.1:=by have:=h.warm;unfold short;omega
 have hr:short s.2.2.2.2.2.2.2.2.2.2.1:=by have:=h.rest;unfold short;omega
 have hk:short s.2.2.2.2.2.2.2.2.2.1.2.1:=by have:=h.ks;unfold short;omega
 unfold b0Q
 by_cases h1:1≤n
 rotate_left
 ·have e1:decide (n<1)=true:=by simp_all
  have:¬ a1u s n:=fun hp=>h1 hp.1
  simp_all
 have e1:decide (n<1)=false:=by simp_all
 by_cases h2:n≤4096
 rotate_left
 ·have e2:decide (n > 4096)=true:=by simp_all
  have:¬ a1u s n:=fun hp=>h2 hp.2.1
  simp_all
 have e2:decide (n > 4096)=false:=by simp_all
 by_cases h3:a3Z s.1 s n
 rotate_left
 ·have e3:b4t s.1 s n=false:=by simp[b4t,h3]
  have:¬ a1u s n:=fun hp=>h3 hp.2.2.1
  simp_all[b5V]
 have e3:b4t s.1 s n=true:=by simp[b4t,h3]
 by_cases h4:b5W s
 rotate_left
 ·have e4:b5X s=false:=by simp[b5X,h4]
  have:¬ a1u s n:=fun hp=>h4 hp.2.2.2.1
  simp_all[b5V,c3Y]
 have e4:b5X s=true:=by simp[b5X,h4]
 simp only[e1,e2,b5V h,e3,c3Y h,e4,cF,bT,oB]
 by_cases h5:0≤s.2.1
 rotate_left
 ·have e5:decide (s.2.1<0)=true:=by simp_all
  have:¬ a1u s n:=fun hp=>h5 hp.2.2.2.2.1
  simp_all
 have e5:decide (s.2.1<0)=false:=by simp_all
 by_cases h6:s.2.1≤30
 rotate_left
 ·have e6:decide (s.2.1 > 30)=true:=by simp_all
  have:¬ a1u s n:=fun hp=>h6 hp.2.2.2.2.2.1
  simp_all
 have e6:decide (s.2.1 > 30)=false:=by simp_all
 simp only[e5,e6,cF]
 by_cases h7:s.1=0→s.2.1=0
 rotate_left
 ·have h7a:s.1=0:=Classical.byContradiction fun hc=>h7 fun e=>absurd e hc
  have h7b:(s.2.1 != 0)=true:=by
   simp_all
  have e7:(s.1==0)=true:=by simp_all
  have:¬ a1u s n:=fun hp=>h7 hp.2.2.2.2.2.2.1
  grind
 have e7:(bif s.1==0 then some (n,(s.2.1 != 0,(s,())))else some (n,(false,(s,()))))=some (n,(false,(s,()))):=by
  grind
 simp only[e7,oB,cF,b2L]
 by_cases h8:(s.2.2.2.2.2.2.2.2.1.length:Int)=a2p s n
 rotate_left
 ·have e8:(((s.2.2.2.2.2.2.2.2.1.length:Nat):Int) != a2p s n)=true:=by simp_all
  have:¬ a1u s n:=fun hp=>h8 hp.2.2.2.2.2.2.2.1
  grind
 have e8:(((s.2.2.2.2.2.2.2.2.1.length:Nat):Int) != a2p s n)=false:=by simp_all
 simp only[e8,cF,a4E hw,a4E hr,oB]
 cases h9:s.2.2.2.2.2.2.2.2.1.all a0A with
 |false=>
  have:¬ a1u s n:=fun hp=>by rw[hp.2.2.2.2.2.2.2.2.1]at h9;grind
  simp_all
 |true=>
  cases h10:s.2.2.2.2.2.2.2.2.2.2.1.all a0A with
  |false=>
   have:¬ a1u s n:=fun hp=>by rw[hp.2.2.2.2.2.2.2.2.2.1]at h10;grind
   simp_all
  |true=>
   simp only[bT,cF,oB,a6J]
   have hwr:=c5t h h1 h2 h3
   by_cases k01:s.1≠0∧s.1≠1
   ·have e11:wrap .i64 (n-a2p s n)=n-a2p s n:=a0C (by omega)
    simp[k01,e11,b4r hk]
    by_cases h11:(s.2.2.2.2.2.2.2.2.2.2.1.length:Int)=n-a2p s n
    ·have e12:(((s.2.2.2.2.2.2.2.2.2.2.1.length:Nat):Int)==n-a2p s n)=true:=by simp_all
     simp only[e12,cT]
     congr 1
     rw[b00,dT]
     constructor
     ·intro hp
      exact⟨h1,h2,h3,h4,h5,h6,h7,h8,h9,h10,fun hc=>absurd hc (by omega),fun _=>⟨h11,hp⟩⟩
     ·intro hp;exact(hp.2.2.2.2.2.2.2.2.2.2.2 k01).2
    ·have e12:(((s.2.2.2.2.2.2.2.2.2.2.1.length:Nat):Int)==n-a2p s n)=false:=by simp_all
     have:¬ a1u s n:=fun hp=>h11 (hp.2.2.2.2.2.2.2.2.2.2.2 k01).1
     grind
   ·have k01':s.1=0∨s.1=1:=by omega
    simp[k01,d3o]
    simp only[c1Y,b1L]
    congr 1
    rw[b00,dT]
    simp
    constructor
    ·rintro⟨g1,g2,g3⟩
     exact⟨h1,h2,h3,h4,h5,h6,h7,h8,h9,h10,fun _=>⟨g1,g2,g3⟩,fun hc=>absurd hc k01⟩
    ·intro hp;exact hp.2.2.2.2.2.2.2.2.2.2.1 k01'
theorem c0N{α:Type}[DecidableEq α](q:α→α→Bool)(g:∀a b,q a b=decide (a=b)):∀(x y:List α),x.length=y.length→((x.zip y).all fun p=>q p.1 p.2)=decide (x=y)
 | [],[],_=>by simp
 |a::x,b::y,h=>by
  have f:=c0N q g x y (by simp_all);simp_all
theorem c5u{x y:List Int}(h:short x):a7z (x,y)=some (decide (x=y)):=by
 unfold a7z
 by_cases hl:x.length=y.length
 have e:(((x.length:Nat):Int) != ((y.length:Nat):Int))=false:=by simp_all
 have j:(x.zip y).length=x.length:=by simp_all
 have:=a1S (f:=a4Q) (x.zip y) (fun i=>(x,y,(i:Int),())) (fun p=>p.1==p.2) (bt:=Sum.inl ()) (bf:=Sum.inr (false,()))
  (fun i hi hp=>by
   have k:i<x.length:=by omega
   have c:i<y.length:=by omega
   rw[a91]at hp;have hp:x[i]=y[i]:=by simp_all
   have g:(x[i] != y[i])=false:=by simp_all
   simp only[a4Q,dlt k,cT,a0D k,a0D c,oB,g,cF,a0B (a18 k h)])
  (fun i hi hp=>by
   have k:i<x.length:=by omega
   have c:i<y.length:=by omega
   rw[a91]at hp;have g:(x[i] != y[i])=true:=by simp_all
   simp only[a4Q,dlt k,cT,a0D k,a0D c,oB,g])
  (by simp_all[a4Q])
 simp at this;simp only[e,cF,this,c0N (fun(a b:Int)=>a==b) (fun _ _=>rfl) x y hl]
 grind
 have e:(((x.length:Nat):Int) != ((y.length:Nat):Int))=true:=by grind
 have:¬ x=y:=fun d=>hl (by grind)
 grind
theorem c7Z(h:a3Z k s n):k=0∨k=1∨k=2∨k=3∨k=4∨k=5:=by
 unfold a3Z at h;omega
def b9A(warm rest:List Int)(o:Int):Option (List Int):=bif warm.all a0A&&rest.all a0A then a4m (a6B o.toNat) rest warm else none
def backP(s:Sub):Option (List Int):=
 if s.1=1 then some s.2.2.2.2.2.2.2.2.1
 else if s.1=2 then b9A s.2.2.2.2.2.2.2.2.1 s.2.2.2.2.2.2.2.2.2.2.1 s.2.2.1
 else if s.1=3 then b4n s.2.2.2.2.2.2.2.2.1 s.2.2.2.2.2.2.2.2.2.2.1 s.2.2.2.2.2.1 s.2.2.2.1
 else if s.1=4 then(b4n s.2.2.2.2.2.2.2.2.1 s.2.2.2.2.2.2.2.2.2.2.1 s.2.2.2.2.2.1 s.2.2.2.1).bind fun l=>b4S l s.2.2.2.2.1 s.2.2.2.2.2.2.1
 else b2K s.2.2.2.2.2.2.2.2.2.2.1 s.2.2.2.2.2.2.2.1
def c3Z(s:Sub)(n:Int):Option (List Int):=
 if s.1=0 then some (a00 n.toNat (s.2.2.2.2.2.2.2.2.1.getD 0 0))else(backP s).bind (upO s.2.1)
theorem b5B{w r c:List Int}{s:Int}{l}(h:b4n w r c s=some l):l.length=w.length+r.length:=by
 unfold b4n at h;cases hc:(w.all a0A&&r.all a0A)with
 |false=>simp_all
 |true=>
  rw[hc]at h;exact(b3B _ r w l (a76.1 hc).1 h).2
theorem c5v{w r:List Int}{o:Int}{l}(h:b9A w r o=some l):l.length=w.length+r.length:=by
 unfold b9A at h;cases hc:(w.all a0A&&r.all a0A)with
 |false=>simp_all
 |true=>
  rw[hc]at h;exact(b3B _ r w l (a76.1 hc).1 h).2
theorem c4a{l}(h:b4S r lag t=some l):l.length=r.length:=by
 unfold b4S at h;cases hc:r.all a0A with
 |false=>simp_all
 |true=>
  rw[hc]at h
  have:=(b3B _ r [] l rfl h).2
  simp_all
theorem c2y:∀(st:List Stg)(r:List Int){l},lO st r=some l→l.length=r.length
 | [],r,l,h=>by simp_all[lO]
 |s::st,r,l,h=>by
  simp only[lO]at h
  split at h
  rename_i f g;rw[c2y st f h,b6u _ _ _ g];simp;cases h
theorem c3m{r:List Int}{st:List Stg}{l}(h:b2K r st=some l):l.length=r.length:=by
 grind[b2K,c2y]
theorem c4b(h:SmallS s){l}(g:backP s=some l):l.length<100000:=by
 have b:=h.warm;have a:=h.rest;unfold backP at g
 split at g
 grind
 split at g
 grind[c5v]
 split at g
 grind[b5B]
 split at g
 obtain⟨l1,f,k⟩:=a44.1 g;rw[c4a k,b5B f];omega
 grind[c3m]
theorem c8a(a:1≤n)(c:n≤4096)(d:s.2.2.2.2.2.2.2.2.1.length=1):
  y0s a7o (n,(0:Int),([]:List Int),s,())=some (a00 n.toNat (s.2.2.2.2.2.2.2.2.1.getD 0 0),()):=by
 obtain⟨N,rfl⟩:=a01 (show 0≤n by omega);have k:m0k s.2.2.2.2.2.2.2.2.1 (0:Int)=some (s.2.2.2.2.2.2.2.2.1.getD 0 0):=c3R (by omega) (by omega)
 have:=a1E (f:=a7o) (fun i=>((N:Int),(i:Int),a00 i (s.2.2.2.2.2.2.2.2.1.getD 0 0),s,())) N
  (b:=(a00 N (s.2.2.2.2.2.2.2.2.1.getD 0 0),())) (fun i hi=>by
   have h:lim ((a00 i (s.2.2.2.2.2.2.2.2.1.getD 0 0)).length+1)=true:=a0U (by grind);have g:a00 i (s.2.2.2.2.2.2.2.2.1.getD 0 0)++[s.2.2.2.2.2.2.2.2.1.getD 0 0]=a00 (i+1) (s.2.2.2.2.2.2.2.2.1.getD 0 0):=by grind[a53]
   simp only[a7o,dlt hi,cT,k,oB,h,a06,g,a0B (show i<1000000 by omega)])
  (by simp[a7o])
 simp_all
theorem c5w(h:SmallS s)(hp:a1u s n):b3q (s,n)=some (a5h (c3Z s n)):=by
 have a:=fun l (d:backP s=some l)=>c4b h d;obtain⟨z,A,C,-,x,v,-,g,K,I,-⟩:=hp;have F:=h.rest;have G:=h.warm;have H:=h.taps;have D:=c8a (s:=s) z A;obtain⟨k,w,o,sh,lag,c,t,st,f,p,r,u⟩:=s;simp only at *;have L:∀l,l.length<100000→a9u (l,w)=some (a5h (upO w l)):=fun l d=>c3T x v d;unfold b3q c3Z;rcases C with b|b|⟨b,j,m,y⟩|⟨b,j,m⟩|⟨b,j,m,y⟩|⟨b,j,m⟩
 grind[a2p,a5h]
 simp_all[backP]
 ·subst b;obtain⟨O,rfl⟩:=a01 j;have m:(O:Int)≤4:=m;simp only[a2p]at g;have q:f.length=O:=by grind
  have i:=c3j (warm:=f) (rest:=r) (o:=O) (by omega) q (by omega);simp only[backP]at a⊢;simp[i];have e:(bif f.all a0A&&r.all a0A then a4m (a6B O) r f else none)=b9A f r (O:Int):=rfl;rw[e];cases d:b9A f r (O:Int)with
  |none=>rfl
  |some l=>simp_all[a5h]
 ·subst b;simp only[a2p]at g;have q:f.length=c.length:=by grind
  have i:=b5T (rest:=r) j q (by omega);simp only[backP]at a⊢;simp[i];cases d:b4n f r c sh with
  |none=>rfl
  |some l=>simp_all[a5h]
 ·subst b;simp only[a2p]at g;have q:f.length=c.length:=by grind
  have i:=b5T (rest:=r) j q (by omega);simp only[backP]at a⊢;simp[i];cases d:b4n f r c sh with
  |none=>rfl
  |some l=>
   have E:=b5B d;have B:=c3S (rest:=l) y H (by omega);simp[a5h,B]
   grind[a5h]
 ·subst b;have i:=c3l (rest:=r) m (by omega);simp only[backP]at a⊢;simp[i];cases d:b2K r st with
  |none=>rfl
  |some l=>simp_all[a5h]
open Classical in
def a2n (s:Sub) (n:Int):Option (List Int):=if a1u s n then c3Z s n else none
theorem c0O(h:SmallS s)(n:Int):b2F (s,n)=some (match a2n s n with|some r=>(r,0)|none=>([],1)):=by
 unfold b2F a2n;simp only[c7Y h,oB]
 by_cases hp:a1u s n
 simp[hp,c5w h hp]
 grind[a5h]
 simp_all
theorem c0P(h:SmallS s)(n:Int):b0G (s,n)=some (a2n s n).isSome:=by
 unfold b0G;simp only[c0O h,oB];cases a2n s n<;>rfl
@[reducible] def Wr:Type:=(List Int)×(Int×Unit)
def c1Z(w:Wr)(b:Int):Wr:=
 let bs:=if w.2.1%8=0 then w.1++[0]else w.1
 (bs.set (w.2.1 / 8).toNat (bits .u8 .or (bs.getD (w.2.1 / 8).toNat 0) (A0n .u8 b (7-w.2.1%8))),w.2.1+1,())
def wL(L:List Int):Wr:=L.foldl c1Z ([],0,())
theorem c2a(L:List Int)(b:Int):wL (L++[b])=c1Z (wL L) b:=by simp[wL]
theorem c0Q:∀(n:Nat)(L:List Int),L.length=n→(wL L).2.1=L.length∧(wL L).1.length=(L.length+7) / 8
 |0,L,h=>by
  rw[a45.1 h];exact⟨rfl,rfl⟩
 |n+1,L,h=>by
  obtain⟨g,b,rfl⟩:∃g b,L=g++[b]:=by
   rcases a51 L with rfl|⟨g,b,e⟩
   all_goals simp_all
  obtain⟨f,k⟩:=c0Q n g (by simp_all);rw[c2a];simp only[c1Z,List.length_set,lN,a74,f]
  grind
theorem a5Y(L:List Int):(wL L).2.1=L.length∧(wL L).1.length=(L.length+7) / 8:=c0Q _ L rfl
theorem c0R{L:List Int}(l:L.length<1000000000)(b:Int):a2l (wL L,b)=some (wL (L++[b])):=by
 obtain⟨g,k⟩:=a5Y L;have p:a26 ((L.length:Nat):Int) 8=((L.length:Nat):Int)%8:=a43 (by omega);have m:a54 ((L.length:Nat):Int) 8=((L.length:Nat):Int) / 8:=a61 (by omega);have c:wrap .i64 (((L.length:Nat):Int) / 8)=((L.length:Nat):Int) / 8:=a0C (by omega);have d:wrap .i64 (7-((L.length:Nat):Int)%8)=7-((L.length:Nat):Int)%8:=a0C (by omega);have e:wrap .i64 (((L.length:Nat):Int)+1)=((L.length:Nat):Int)+1:=a0C (by omega);have i:decide ((0:Int)≤((L.length:Nat):Int) / 8)=true:=by rfl
 have j:decide (7-((L.length:Nat):Int)%8<0)=false:=by grind
 rw[c2a];generalize wL L=wr at g k⊢;obtain⟨f,n,u⟩:=wr;have g:n=((L.length:Nat):Int):=g;have k:f.length=(L.length+7) / 8:=k;subst g;unfold a2l c1Z
 by_cases h:((L.length:Nat):Int)%8=0
 have hb:(((L.length:Nat):Int)%8==0)=true:=by grind
 have o:lim (f.length+1)=true:=a0T (by omega);have a:decide (((L.length:Nat):Int) / 8<(((f++[0]).length:Nat):Int))=true:=by grind
 simp_all
 grind
def a7e(v:Int)(i:Nat):Int:=wrap .u8 (bits .u64 .and (A0o .u64 v (i:Int)) 1)
def pb(v:Int):Nat→List Int
 |0=>[]
 |i+1=>a7e v i::pb v i
theorem b4V(v:Int):∀n,(pb v n).length=n
 |0=>rfl
 |n+1=>by simp[pb,b4V v n]
def a0P(v:Int)(n:Nat)(L:List Int):List Int:=bif A0o .u64 v (n:Int) != 0 then L else L++pb v n
theorem a0W(v:Int)(n:Nat)(L:List Int):L.length≤(a0P v n L).length∧(a0P v n L).length≤L.length+n:=by
 grind[a0P,b4V]
def a8x(v:Int)(n:Nat):Int:=bif A0o .u64 v (n:Int) != 0 then 1 else 0
theorem c4c{v:Int}:∀(n:Nat)(L:List Int),L.length+n<1000000000→y0s a4h (v,(n:Int)-1,wL L,())=some (wL (L++pb v n),())
 |0,L,_=>by simp_all[a0E,a4h,pb]
 |n+1,L,h=>by
  have e:((n+1:Nat):Int)-1=(n:Int):=by omega
  have g:wrap .i64 ((n:Int)-1)=(n:Int)-1:=a0C (by omega);have f:decide ((n:Int)≥0)=true:=by simp
  have k:decide ((n:Int)<0)=false:=by simp
  rw[e,a0F (s':=(v,(n:Int)-1,wL (L++[a7e v n]),())) (by
   simp only[a4h,f,k,cT,cF,show wrap .u8 (bits .u64 .and (A0o .u64 v (n:Int)) 1)=a7e v n from rfl,c0R (show L.length<1000000000 by omega),oB,g])]
  rw[c4c n (L++[a7e v n]) (by simp;omega),pb]
  simp
theorem a3k{v:Int}{n:Nat}(a:n≤63)(k:L.length<999999000):a0H (wL L,v,(n:Int))=some (a8x v n,wL (a0P v n L)):=by
 unfold a0H a8x a0P;have g:decide ((n:Int)<0)=false:=by simp
 have f:decide ((n:Int) > 64)=false:=by grind
 have h:wrap .i64 ((n:Int)-1)=(n:Int)-1:=a0C (by omega);simp[g,f];cases (A0o .u64 v (n:Int) != 0)with
 |true=>rfl
 |false=>simp only[cF,h,c4c n L (by omega),oB]
def unL(n:Nat)(L:List Int):List Int:=L++a00 n 0++[1]
theorem c4d{n:Nat}(c:n≤4096)(a:L.length<999990000):a2t (wL L,(n:Int))=some (0,wL (unL n L)):=by
 unfold a2t unL;have g:decide ((n:Int)<0)=false:=by simp
 have k:decide ((n:Int) > 4096)=false:=by grind
 simp only[g,k,cF,oB]
 have:=a1E (f:=a3u) (fun i=>((n:Int),(i:Int),wL (L++a00 i 0),())) n (b:=(wL (L++a00 n 0),())) (fun i hi=>by
   have h:L++a00 i (0:Int)++[0]=L++a00 (i+1) 0:=by simp_all[a53]
   simp only[a3u,dlt hi,cT,c0R (show(L++a00 i (0:Int)).length<1000000000 by grind),oB,h,a0B (show i<1000000 by omega)])
  (by simp[a3u])
 grind[c0R]
theorem b1l(n:Nat)(L:List Int):(unL n L).length=L.length+n+1:=by simp[unL];rfl
def a0X(x:Int)(n:Nat):Int:=bits .u64 .and (wrap .u64 x) (wrap .u64 ((A0n .u64 1 (n:Int))-1))
def a1F(n:Nat)(l:List Int)(L:List Int):List Int:=l.foldl (fun L x=>a0P (a0X x n) n L) L
theorem a6E(n:Nat):∀(l L:List Int),L.length≤(a1F n l L).length∧(a1F n l L).length≤L.length+n*l.length
 | [],L=>by simp[a1F]
 |x::l,L=>by
  have h:=a0W (a0X x n) n L;have g:=a6E n l (a0P (a0X x n) n L);have e:a1F n (x::l) L=a1F n l (a0P (a0X x n) n L):=rfl;rw[e,lC,a92,a93];omega
theorem b4u{n:Nat}(f:n≤63)(g:L.length<999999000):a2P (wL L,x,(n:Int))=some (wL (a0P (a0X x n) n L)):=by
 unfold a2P;have h:decide ((n:Int)<0)=false:=by simp
 simp only[h,cF,show bits .u64 .and (wrap .u64 x) (wrap .u64 ((A0n .u64 1 (n:Int))-1))=a0X x n from rfl,a3k f g,oB]
def a1k(x w:Int):Bool:=decide (1≤w)&&(decide (w≤31)&&(decide (A0n .i64 (-1) (w-1)≤x)&&decide (x≤wrap .i64 (A0n .i64 1 (w-1)-1))))
theorem a6F(a:w≤32):a1U (x,(w:Int))=some (a1k x w):=by
 unfold a1U a1k b3U b2U
 by_cases h1:1≤(w:Int)
 by_cases h2:(w:Int)≤31
 have h:decide ((w:Int)<1)=false:=by simp_all
 have g:decide ((w:Int) > 31)=false:=by simp_all
 have e:wrap .i64 ((w:Int)-1)=(w:Int)-1:=a0C (by omega);have f:decide ((w:Int)-1<0)=false:=by simp_all
 have k:decide ((w:Int)≥1)=true:=by simp_all
 simp[h1,h2,h,g,f,e]
 grind
 grind
 grind
theorem c5x(b:w≤32):b2J (x,(w:Int))=some (a1k x w):=by
 unfold b2J a1k b9u b7Q
 by_cases h1:1≤(w:Int)
 by_cases h2:(w:Int)≤31
 have f:decide ((w:Int)<1)=false:=by simp_all
 have k:decide ((w:Int) > 31)=false:=by simp_all
 have e:wrap .i64 ((w:Int)-1)=(w:Int)-1:=a0C (by omega);have g:wrap .u64 ((w:Int)-1)=(w:Int)-1:=a0M (by omega);have a:decide ((w:Int)-1<0)=false:=by simp_all
 have h:decide ((w:Int)≥1)=true:=by simp_all
 simp only[h,h1,h2,f,k,a,e,g,decide_true,cT,cF,oB,a39]
 grind
 grind
 grind
def a1L(x:Int):Nat→Nat→Nat
 |0,w=>w
 |k+1,w=>bif (x != 0)&&!a1k x w then a1L x k (w+1)else w
theorem b9B(x:Int):∀(k w:Nat),a1L x k w≤w+k
 |0,w=>a27 _
 |k+1,w=>by
  simp[a1L];cases (x != 0)&&!a1k x w with
  |true=>have:=b9B x k (w+1);grind
  |false=>simp
def a0J(l:List Int):Nat:=l.foldl (fun w x=>a1L x (32-w) w) 0
theorem b7r:∀(l:List Int)(w:Nat),w≤32→l.foldl (fun w x=>a1L x (32-w) w) w≤32
 | [],w,h=>h
 |x::l,w,h=>b7r l _ (show a1L x (32-w) w≤32 by grind[b9B])
theorem a6K(l:List Int):a0J l≤32:=b7r l 0 (by omega)
theorem c2z{x:Int}{l:List Int}{n i:Int}:∀(k w:Nat),w+k=32→y0s a2U ((w:Int),x,l,n,i,())=some (((a1L x k w:Nat):Int),l,n,i,())
 |0,w,h=>by
  obtain rfl:w=32:=by omega
  simp_all[a0E,a2U,a1L]
 |k+1,w,h=>by
  have g:decide ((w:Int)<32)=true:=by grind
  simp[a1L];cases hx:(x != 0)with
  |false=>simp_all[a0E,a2U]
  |true=>
   cases hf:a1k x w with
   |true=>exact a0E (by simp only[a2U,hx,g,a6F (show w≤32 by omega),hf,oB,cT,cF,bT,Bool.and_false])
   |false=>
    rw[a0F (s':=(((w+1:Nat):Int),x,l,n,i,())) (by simp only[a2U,hx,g,a6F (show w≤32 by omega),hf,oB,cT,a36,a0B (show w<1000000 by omega)])];exact c2z k (w+1) (by omega)
theorem a2q(k:short l):a1t l=some ((a0J l:Nat):Int):=by
 have k:l.length<1000000:=k
 have:=a1H (f:=a6e) l (fun i (w:Nat)=>((w:Int),l,(l.length:Int),(i:Int),())) (fun w x=>(.inl (a1L x (32-w) w):Nat ⊕ (Int×Unit))) (fun _ w=>w≤32) (fun w=>((w:Int),()))
  (fun i h w d=>⟨fun c g=>by
   simp at g;subst g;refine⟨?_,by grind[b9B]⟩;simp only[a6e,dlt h,cT,a0D h,oB,c2z (32-w) w (by omega),a0B (show i<1000000 by omega)],fun b hb=>(by grind)⟩)
  (fun w _=>by simp[a6e]) (a:=0) (by omega)
 simp at this;unfold a1t;rw[this];have key:∀(l:List Int)(w:Nat),a2R (fun w x=>(.inl (a1L x (32-w) w):Nat ⊕ (Int×Unit))) l w=.inl (l.foldl (fun w x=>a1L x (32-w) w) w):=by
  intro l
  induction l with
  |nil=>intro w;rfl
  |cons x l ih=>simp_all[a2R]
 rw[key];rfl
theorem b1m(x:Int):a7K x=some (a0A x):=by
 grind[a7K,a0A]
def a0R(x:Int):Nat:=if 0≤x then(2*x).toNat else(-2*x-1).toNat
theorem b0B(h:a0A x=true):a0R x<2147483648:=by
 grind[a1I,a0R]
theorem b1n(h:a0A x=true):a9A x=some ((a0R x:Nat):Int):=by
 have f:=a1I.1 h;unfold a9A a0R;simp only[b1m,h,oB,bT,cF]
 by_cases h0:0≤x
 have g:decide (x≥0)=true:=by simp_all
 simp only[g,cT,if_pos h0]
 grind[a0C,a0M]
 have g:decide (x≥0)=false:=by simp_all
 simp only[g,cF,if_neg h0]
 grind[a0C,a0M]
theorem a6L{N o:Nat}(h:o≤64):A0o .u64 (N:Int) (o:Int)=((N / 2^o:Nat):Int):=c3X h
theorem b2M(h:o≤64)(g:N*2^o<9223372036854775808):A0n .u64 (N:Int) (o:Int)=((N*2^o:Nat):Int):=by
 unfold A0n;show wrap .u64 ((N:Int)*2^(min (o:Int).toNat 64))=_
 grind[a0M]
theorem c4e{y k:Nat}(c:y<18446744073709551616)(f:k≤62):bits .u64 .and (y:Int) (wrap .u64 (A0n .u64 1 (k:Int)-1))=((y%2^k:Nat):Int):=by
 have hp:2^k≤2^62:=a08 (by simp) f;have a:1≤2^k:=a81;have b:(2:Nat)^62=4611686018427387904:=by rfl
 have h:A0n .u64 1 (k:Int)=((2^k:Nat):Int):=by have:=b2M (N:=1) (o:=k) (by omega) (by omega);simp_all
 have g:wrap .u64 (((2^k:Nat):Int)-1)=((2^k-1:Nat):Int):=by grind[a0M]
 rw[h,g];show wrap .u64 (((a04 64 (y:Int)) &&& (a04 64 ((2^k-1:Nat):Int))).toNat:Int)=_;rw[a24,a24,a94,a29,a29,a23 c,a23 (by omega),Nat.and_two_pow_sub_one_eq_mod]
 have:y%2^k<2^k:=a41 _ (by omega)
 exact a0M (by omega)
theorem b4v{q:Nat}(h:q<2147483648):wrap .i64 (q:Int)=(q:Int):=a0C (by omega)
def a7f(k:Nat)(x:Int)(L:List Int):List Int:=
 if a0R x / 2^k<32 then a0P ((a0R x%2^k:Nat):Int) k (unL (a0R x / 2^k) L)else a0P ((a0R x:Nat):Int) 32 (unL 32 L)
def a4R(k:Nat)(l:List Int)(L:List Int):List Int:=l.foldl (fun L x=>a7f k x L) L
theorem b7T{k:Nat}(h:k≤25)(x:Int)(L:List Int):L.length≤(a7f k x L).length∧(a7f k x L).length≤L.length+100:=by
 grind[a7f,a0W,b1l]
theorem b7s{k:Nat}(h:k≤25):∀(l L:List Int),L.length≤(a4R k l L).length∧(a4R k l L).length≤L.length+100*l.length
 | [],L=>by simp[a4R]
 |x::l,L=>by
  have g:=b7T h x L;have f:=b7s h l (a7f k x L);have e:a4R k (x::l) L=a4R k l (a7f k x L):=rfl
  grind
theorem a9o{k:Nat}(h:k≤25):a1Q (k:Int)=some true:=by
 unfold a1Q
 grind
theorem c5y{k:Nat}(w:k≤25)(C:l.length<10000)(s:l.all a0A=true)(B:L.length<900000000):b3w (wL L,(k:Int),l)=some (0,wL (a4R k l L)):=by
 have z:=a1S (f:=a9P) l (fun i=>((k:Int),l,l,(l.length:Int),(i:Int),wL L,())) (fun _=>true) (bt:=Sum.inl ((k:Int),l,wL L,())) (bf:=Sum.inl ((k:Int),l,wL L,()))
  (fun i h _=>by
   have:=lA.1 s _ (a05 h)
   simp only[a9P,dlt h,cT,a0D h,oB,b1m,this,bT,cF,a0B (show i<1000000 by omega)])
  (fun i h hp=>by simp_all) (by simp[a9P])
 have key:∀(j i:Nat)(g:List Int),i+j=l.length→g.length+100*j<999990000→y0s a7x ((k:Int),l,(l.length:Int),(i:Int),wL g,())=some (wL (a4R k (l.drop i) g),()):=by
  intro j
  induction j with
  |zero=>
   intro i g hi _;obtain rfl:i=l.length:=by omega
   simp_all[a0E,a7x,a4R]
  |succ j ih=>
   intro i g hi hb;have a:i<l.length:=by omega
   have c:=lA.1 s _ (a05 a);have y:=b0B c;have x:=b7T w l[i] g;have e:decide ((k:Int)<0)=false:=by simp
   have p:A0o .u64 ((a0R l[i]:Nat):Int) (k:Int)=((a0R l[i] / 2^k:Nat):Int):=a6L (by omega);have o:=a32 (a0R l[i]) (2^k);have q:=a70 (a0R l[i]) (2^k);have d:A0n .u64 ((a0R l[i] / 2^k:Nat):Int) (k:Int)=((a0R l[i] / 2^k*2^k:Nat):Int):=b2M (by omega) (by grind);have t:wrap .u64 (((a0R l[i]:Nat):Int)-((a0R l[i] / 2^k*2^k:Nat):Int))=((a0R l[i]%2^k:Nat):Int):=by
    rw[a57 (a0R l[i] / 2^k)]
    grind[a0M]
   have u:wrap .i64 ((a0R l[i] / 2^k:Nat):Int)=((a0R l[i] / 2^k:Nat):Int):=b4v (a38 o y);rw[a02 a,a0F (s':=((k:Int),l,(l.length:Int),((i+1:Nat):Int),wL (a7f k l[i] g),())) (by
    by_cases hq:a0R l[i] / 2^k<32
    have m:decide (((a0R l[i] / 2^k:Nat):Int)<32)=true:=decide_eq_true (by omega);have r:(unL (a0R l[i] / 2^k) g).length<999999000:=by
     rw[b1l];omega
    have b:=c4d (L:=g) (n:=a0R l[i] / 2^k) (a84 (a18 hq (by simp))) (by omega);have hp:=a3k (L:=unL (a0R l[i] / 2^k) g) (v:=((a0R l[i]%2^k:Nat):Int)) (n:=k) (by omega) r;simp only[a7x,dlt a,cT,a0D a,oB,b1n c,e,cF,p,m,u,b,d,t,hp,a7f,if_pos hq,a0B (show i<1000000 by omega)];have m:decide (((a0R l[i] / 2^k:Nat):Int)<32)=false:=decide_eq_false (by omega);have r:=b1l 32 g;have b:a2t (wL g,(32:Int))=some (0,wL (unL 32 g)):=c4d (L:=g) (n:=32) (by omega) (by omega);have hp:a0H (wL (unL 32 g),((a0R l[i]:Nat):Int),(32:Int))=some (a8x ((a0R l[i]:Nat):Int) 32,wL (a0P ((a0R l[i]:Nat):Int) 32 (unL 32 g))):=a3k (L:=unL 32 g) (v:=((a0R l[i]:Nat):Int)) (n:=32) (by omega) (by omega);simp only[a7x,dlt a,cT,a0D a,oB,b1n c,e,cF,p,m,b,hp,a7f,if_neg hq,a0B (show i<1000000 by omega)])]
   exact ih (i+1) _ (by omega) (by omega)
 have A:=key l.length 0 L (by omega) (by omega);simp_all[b3w,a9o]
def a1p(zn:List Nat):List Int:=zn.map fun(a:Nat)=>(a:Int)
theorem c3n(n M:Nat):(a00 n M).sum=n*M:=by
 simp
theorem b5C{o n warm:Int}(h:(a1K o n warm).length≠0):∃zn:List Nat,a1K o n warm=a1p zn∧(zn.sum:Int)=n-warm∧zn.length≤256:=by
 unfold a1K at h⊢;cases hr:(a6D n warm&&(decide (0≤o)&&decide (o≤8)))with
 |false=>simp_all
 |true=>
  rw[hr]at h;simp only[cT]at h⊢;simp[a6D]at hr;unfold b5U at h⊢
  split at h
  rename_i g;rw[if_pos g];obtain⟨O,rfl⟩:=a01 hr.2.1;obtain⟨N,rfl⟩:=a01 (show 0≤n by omega);obtain⟨w,rfl⟩:=a01 (show 0≤warm by omega);simp only[tN]at g⊢;have hp:=d3n (o:=O) (by omega);have f:=a70 N (2^O);rw[g.1,a85]at f;have k:w≤N / 2^O:=by omega
  generalize N / 2^O=M at g k f⊢;generalize 2^O=P at hp f⊢;refine⟨(M-w)::a00 (P-1) M,?_,?_,?_⟩
  grind[a1p,List.map_replicate]
  rw[a62,c3n];obtain⟨q,rfl⟩:∃q,P=q+1:=⟨P-1,by omega⟩
  grind
  simp_all;simp_all
def a9T(k:Int)(part L:List Int):List Int:=
 if k=31 then a1F (a0J part) part (a0P ((a0J part:Nat):Int) 5 (a0P (wrap .u64 k) 5 L))else a4R k.toNat part (a0P (wrap .u64 k) 5 L)
def a4S:List Nat→List Int→List Int→List Int→List Int
 |z::zs,k::ks,l,L=>a4S zs ks (l.drop z) (a9T k (l.take z) L)
 |_,_,_,L=>L
theorem b7U(h:kB k=true)(part L:List Int):L.length≤(a9T k part L).length∧(a9T k part L).length≤L.length+10+100*part.length:=by
 unfold a9T;have a:=a0W (wrap .u64 k) 5 L;split;have b:=a0W ((a0J part:Nat):Int) 5 (a0P (wrap .u64 k) 5 L);have c:=a6E (a0J part) part (a0P ((a0J part:Nat):Int) 5 (a0P (wrap .u64 k) 5 L));have f:=a6K part
 have:a0J part*part.length≤32*part.length:=a25 _ f
 omega;rename_i g;simp[kB]at h
 grind[b7s]
theorem a8y(h:i<zn.length):a87 (a1p zn) i 0=((zn[i]:Nat):Int):=by
 simp_all[a1p]
theorem a1w(h:List Nat):(a1p h).length=h.length:=by simp[a1p]
theorem b6v(h:i<zn.length):(zn.drop i).sum=zn[i]+(zn.drop (i+1)).sum:=by
 grind[a02]
theorem c4f{part rest:List Int}{wd:Nat}{a b:Int}{z:List Int}{p:Prt}(k:wd≤32)(hp:part.length<10000):∀(j i:Nat)(L:List Int),i+j=part.length→L.length+64*j<999990000→
  y0s a8T (rest,(wd:Int),a,b,part,(part.length:Int),(i:Int),z,wL L,p,())=some (rest,a,b,z,wL (a1F wd (part.drop i) L),p,())
 |0,i,L,hi,_=>by
  obtain rfl:i=part.length:=by omega
  simp_all[a0E,a8T,a1F]
 |j+1,i,L,hi,hb=>by
  have h:i<part.length:=by omega
  have g:decide ((wd:Int)<0)=false:=by simp
  have f:=a0W (a0X part[i] wd) wd L;rw[a02 h,a0F (s':=(rest,(wd:Int),a,b,part,(part.length:Int),((i+1:Nat):Int),z,wL (a0P (a0X part[i] wd) wd L),p,())) (by
   simp only[a8T,dlt h,cT,a0D h,oB,g,cF,show bits .u64 .and (wrap .u64 part[i]) (wrap .u64 ((A0n .u64 1 (wd:Int))-1))=a0X part[i] wd from rfl,a3k (show wd≤63 by omega) (show L.length<999999000 by omega),a0B (show i<1000000 by omega)])]
  exact c4f k hp j (i+1) _ (by omega) (by omega)
theorem b5Y{zn:List Nat}{p:Prt}(N:p.2.1.length=zn.length)(c:p.2.1.all kB=true)(R:zn.length≤256):∀(j i:Nat)(l L:List Int),i+j=zn.length→(zn.drop i).sum=l.length→l.all a0A=true→l.length≤5000→L.length+10*j+100*l.length<800000000→
  y0s a4D (l,(zn.length:Int),(i:Int),a1p zn,wL L,p,())=some (wL (a4S (zn.drop i) (p.2.1.drop i) l L),())
 |0,i,l,L,hi,_,_,_,_=>by
  obtain rfl:i=zn.length:=by omega
  simp_all[a0E,a4D,a4S]
 |j+1,i,l,L,hi,hsum,hw,hl5,hb=>by
  have h:i<zn.length:=by omega
  have f:i<p.2.1.length:=by omega
  have s:=lA.1 c _ (a05 f);rw[b6v h]at hsum;have B:decide ((0:Int)≤(i:Int))=true:=by simp
  have C:decide ((i:Int)<(((a1p zn).length:Nat):Int))=true:=by simp_all[a1w]
  have D:decide ((0:Int)≤((zn[i]:Nat):Int))=true:=by simp
  have E:decide (((zn[i]:Nat):Int)≤((l.length:Nat):Int))=true:=by grind
  have t:(l.take zn[i]).length=zn[i]:=by simp_all
  have q:(l.drop zn[i]).length=(zn.drop (i+1)).sum:=by grind
  have w:(l.take zn[i]).all a0A=true:=lA.2 fun x A=>lA.1 hw x (a34 A);have y:(l.drop zn[i]).all a0A=true:=lA.2 fun x A=>lA.1 hw x (a35 A);have Q:=b7U s (l.take zn[i]) L;have O:=a0W (wrap .u64 p.2.1[i]) 5 L;have d:a0H (wL L,wrap .u64 p.2.1[i],(5:Int))=some (a8x (wrap .u64 p.2.1[i]) 5,wL (a0P (wrap .u64 p.2.1[i]) 5 L)):=a3k (n:=5) (by omega) (by omega);have G:zn.drop i=zn[i]::zn.drop (i+1):=a02 h;have H:p.2.1.drop i=p.2.1[i]::p.2.1.drop (i+1):=a02 f;rw[G,H,a4S];have r:a4D (l,(zn.length:Int),(i:Int),a1p zn,wL L,p,())=some (.inl (l.drop zn[i],(zn.length:Int),((i+1:Nat):Int),a1p zn,wL (a9T p.2.1[i] (l.take zn[i]) L),p,())):=by
   by_cases h31:p.2.1[i]=31
   have m:(p.2.1[i] != 31)=false:=by simp_all
   have v:=a6K (l.take zn[i]);have u:=a2q (l:=l.take zn[i]) (by unfold short;omega);have P:=a0W ((a0J (l.take zn[i]):Nat):Int) 5 (a0P (wrap .u64 p.2.1[i]) 5 L);have I:wrap .u64 ((a0J (l.take zn[i]):Nat):Int)=((a0J (l.take zn[i]):Nat):Int):=a0M (by omega);have o:a0H (wL (a0P (wrap .u64 p.2.1[i]) 5 L),((a0J (l.take zn[i]):Nat):Int),(5:Int))=some (a8x ((a0J (l.take zn[i]):Nat):Int) 5,wL (a0P ((a0J (l.take zn[i]):Nat):Int) 5 (a0P (wrap .u64 p.2.1[i]) 5 L))):=a3k (n:=5) (by omega) (by omega);have e:=c4f (part:=l.take zn[i]) (rest:=l.drop zn[i]) (a:=(zn.length:Int)) (b:=(i:Int)) (z:=a1p zn) (p:=p) v (by omega) (l.take zn[i]).length 0 (a0P ((a0J (l.take zn[i]):Nat):Int) 5 (a0P (wrap .u64 p.2.1[i]) 5 L)) (by omega) (by omega);simp only[nZ,a28]at e;simp only[a4D,dlt h,B,C,a8y h,D,E,cT,a03,tN,a0D f,oB,d,m,cF,u,I,o,a19,e,a0B (show i<1000000 by omega),a9T,if_pos h31];have m:(p.2.1[i] != 31)=true:=by simp_all
   simp[kB]at s;obtain⟨K,M⟩:=a01 (show 0≤p.2.1[i]by omega);have g:=c5y (k:=K) (l:=l.take zn[i]) (L:=a0P (wrap .u64 p.2.1[i]) 5 L) (by omega) (by omega) w (by omega);rw[←M]at g;have F:K=p.2.1[i].toNat:=by omega
   simp only[a4D,dlt h,B,C,a8y h,D,E,cT,a03,tN,a0D f,oB,d,m,g,a19,a0B (show i<1000000 by omega),a9T,if_neg h31,F]
  rw[a0F r];exact b5Y N c R j (i+1) (l.drop zn[i]) _ (by omega) q.symm y (by omega) (by omega)
theorem c2b{k:Nat}(d:k≤25)(g:a0A x=true):∃c,a7L ((k:Int),x)=some c∧0≤c∧c≤65:=by
 have e:=b0B g;have f:A0o .u64 ((a0R x:Nat):Int) (k:Int)=((a0R x / 2^k:Nat):Int):=a6L (by omega);have a:wrap .i64 ((a0R x / 2^k:Nat):Int)=((a0R x / 2^k:Nat):Int):=b4v (a38 (a32 _ _) e);have h:decide ((k:Int)<0)=false:=by simp
 unfold a7L;simp only[a9o d,b1m,g,oB,bT,cF,b1n g,h,f,a];generalize a0R x / 2^k=q
 by_cases hq:q<32
 have b:decide ((q:Int)<32)=true:=decide_eq_true (by omega);refine⟨(q:Int)+1+k,?_,by omega,by omega⟩;simp only[b,cT]
 grind[a0C]
 grind
theorem c3o{k:Nat}(n:k≤25)(o:l.all a0A=true)(r:l.length<10000):∃c,a3t ((k:Int),l)=some c∧0≤c∧c≤65*l.length:=by
 have key:∀(j i:Nat)(c:Int),i+j=l.length→0≤c→c≤65*i→∃c',y0s a3Y ((k:Int),c,l,(l.length:Int),(i:Int),())=some (c',())∧0≤c'∧c'≤65*l.length:=by
  intro j
  induction j with
  |zero=>
   intro i c hi f g;obtain rfl:i=l.length:=by omega
   simp_all[a0E,a3Y]
  |succ j ih=>
   intro i c hi f g;have h:i<l.length:=by omega
   obtain⟨d,a,b,m⟩:=c2b n (lA.1 o _ (a05 h));have e:wrap .i64 (c+d)=c+d:=a0C (by omega);rw[a0F (s':=((k:Int),c+d,l,(l.length:Int),((i+1:Nat):Int),())) (by simp only[a3Y,dlt h,cT,a0D h,oB,a,e,a0B (show i<1000000 by omega)])];exact ih (i+1) _ (by omega) (by omega) (by omega)
 obtain⟨c,g,p,q⟩:=key l.length 0 0 (by omega) (by omega) (by omega);simp_all[a3t]
theorem c8b{n:Nat}(g:w≤32)(f:n<10000):0≤(w:Int)*(n:Int)∧(w:Int)*(n:Int)≤32*n:=by
 have h:w*n≤32*n:=a25 _ g;omega
theorem c2c(h:l.length<10000):∃c,a5X l=some c∧0≤c∧c≤5+32*l.length:=by
 have g:=c8b (a6K l) h;refine⟨5+((a0J l:Nat):Int)*((l.length:Nat):Int),?_,by omega,by omega⟩;unfold a5X;simp only[a2q (show short l by unfold short;omega),oB]
 grind[a0C]
theorem b4W{zn:List Nat}{p:Prt}(H:p.2.1.length=zn.length)(g:p.2.1.all kB=true)(I:zn.length≤256):∀(j i:Nat)(l:List Int)(c:Int),i+j=zn.length→(zn.drop i).sum=l.length→l.all a0A=true→l.length≤5000→4≤c→c+10*j+65*l.length<1000000→
  ∃c',y0s a1v (l,c,(zn.length:Int),(i:Int),a1p zn,p,())=some (c',())∧4≤c'
 |0,i,l,c,hi,_,_,_,hc,_=>by
  obtain rfl:i=zn.length:=by omega
  simp_all[a0E,a1v]
 |j+1,i,l,c,hi,hsum,hw,hl5,hc,hb=>by
  have h:i<zn.length:=by omega
  have f:i<p.2.1.length:=by omega
  have q:=lA.1 g _ (a05 f);rw[b6v h]at hsum;have z:decide ((0:Int)≤(i:Int))=true:=by simp
  have A:decide ((i:Int)<(((a1p zn).length:Nat):Int))=true:=by simp_all[a1w]
  have B:decide ((0:Int)≤((zn[i]:Nat):Int))=true:=by simp
  have C:decide (((zn[i]:Nat):Int)≤((l.length:Nat):Int))=true:=by grind
  have s:(l.take zn[i]).length=zn[i]:=by simp_all
  have b:(l.drop zn[i]).length=(zn.drop (i+1)).sum:=by grind
  have v:(l.take zn[i]).all a0A=true:=lA.2 fun x y=>lA.1 hw x (a34 y);have w:(l.drop zn[i]).all a0A=true:=lA.2 fun x y=>lA.1 hw x (a35 y);have e:∃d,a1v (l,c,(zn.length:Int),(i:Int),a1p zn,p,())=some (.inl (l.drop zn[i],c+d,(zn.length:Int),((i+1:Nat):Int),a1p zn,p,()))∧0≤d∧d≤10+65*zn[i]:=by
   by_cases h31:p.2.1[i]=31
   have a:(p.2.1[i]==31)=true:=by simp_all
   obtain⟨r,m,t,u⟩:=c2c (l:=l.take zn[i]) (by omega);have n:wrap .i64 (5+r)=5+r:=a0C (by omega);have o:wrap .i64 (c+(5+r))=c+(5+r):=a0C (by omega);refine⟨5+r,?_,by omega,by omega⟩;simp only[a1v,dlt h,z,A,a8y h,B,C,cT,a03,tN,a0D f,oB,a,m,n,o,a19,a0B (show i<1000000 by omega)];have a:(p.2.1[i]==31)=false:=by simp_all
   simp[kB]at q;obtain⟨K,D⟩:=a01 (show 0≤p.2.1[i]by omega);obtain⟨r,m,t,u⟩:=c3o (k:=K) (by omega) v (by omega);rw[←D]at m;have n:wrap .i64 (5+r)=5+r:=a0C (by omega);have o:wrap .i64 (c+(5+r))=c+(5+r):=a0C (by omega);refine⟨5+r,?_,by omega,by omega⟩;simp only[a1v,dlt h,z,A,a8y h,B,C,cT,cF,a03,tN,a0D f,oB,a,m,n,o,a19,a0B (show i<1000000 by omega)]
  obtain⟨d,E,F,G⟩:=e;rw[a0F E];exact b4W H g I j (i+1) (l.drop zn[i]) _ (by omega) b.symm w (by omega) (by omega) (by omega)
structure PartsOk (p:Prt) (n warm:Int) (l:List Int) (zn:List Nat):Prop where
 may:a5M p n warm=true
 sizes:a1K p.1 n warm=a1p zn
 sum:zn.sum=l.length
 len:zn.length≤256
 ks:p.2.1.length=zn.length
 all:p.2.1.all kB=true
 wide:l.all a0A=true
 short:l.length≤5000
 row:a6D n warm=true
 rest:(l.length:Int)=n-warm
 order:0≤p.1∧p.1≤8
theorem PartsOk.of{p:Prt}{n warm:Int}{l:List Int}(h:a5M p n warm=true)(i:(l.length:Int)=n-warm)(j:l.all a0A=true)(e:l.length≤5000):∃g,PartsOk p n warm l g:=by
 have f:=h;simp only[a5M,bA,a33,beq_eq_false_iff_ne,ne_eq,beq_iff_eq]at f;obtain⟨c,o,d⟩:=f;obtain⟨g,a,m,b⟩:=b5C c;have k:a6D n warm=true∧0≤p.1∧p.1≤8:=by
  grind[a1K]
 exact⟨g,h,a,by omega,b,by simp_all[a1w],d,j,e,k.1,i,k.2⟩
theorem b1M{n warm:Int}{l:List Int}(h:a6D n warm=true)(c:(l.length:Int)=n-warm)(d:l.all a0A=true)(a:l.length≤5000):a7w (n,warm,l)=some true:=by
 have e:wrap .i64 (n-warm)=n-warm:=by
  simp[a6D]at h;exact a0C (by omega)
 have k:(((l.length:Nat):Int) != n-warm)=false:=by simp_all
 have f:b4h=a2E:=rfl;have g:short l:=by unfold short;omega
 have b:=a4E g;simp_all[a2y,a7w,b4q]
theorem c0S(h:PartsOk p n warm l zn):∃c,a4P (p,n,warm,l)=some c∧4≤c:=by
 have k:Go.Ab.short p.2.1:=by have:=h.ks;have:=h.len;unfold Go.Ab.short;omega
 have a:=h.short;have b:=h.len;obtain⟨c,g,f⟩:=b4W h.ks h.all h.len zn.length 0 l 4 (by omega) (by rw[a28];exact h.sum) h.wide h.short (by omega) (by omega);simp at g;refine⟨c,?_,f⟩;unfold a4P;simp only[b4r k,h.may,b1M h.row h.rest h.wide h.short,oB,bT,cF,a2b,h.sizes,a1w,g]
def a4u(p:Prt)(zn:List Nat)(l L:List Int):List Int:=a4S zn p.2.1 l (a0P (wrap .u64 p.1) 4 L)
theorem c4g(h:PartsOk p n warm l zn)(i:L.length<700000000):b2q (wL L,p,n,warm,l)=some (0,wL (a4u p zn l L)):=by
 have e:=h.short;have j:=h.len;obtain⟨c,a,b⟩:=c0S h;have k:(c==0)=false:=by grind
 have d:=a0W (wrap .u64 p.1) 4 L;have f:a0H (wL L,wrap .u64 p.1,(4:Int))=some (a8x (wrap .u64 p.1) 4,wL (a0P (wrap .u64 p.1) 4 L)):=a3k (n:=4) (by omega) (by omega);have g:=b5Y h.ks h.all h.len zn.length 0 l (a0P (wrap .u64 p.1) 4 L) (by omega) (by rw[a28];exact h.sum) h.wide h.short (by omega);simp at g;unfold b2q;simp only[a,oB,k,cF,f,a2b,h.sizes,a1w,g,a4u]
theorem c0T{c:List Int}{wd:Nat}(k:wd≤32)(g:c.length<10000):∀(j i:Nat)(L:List Int),i+j=c.length→L.length+64*j<999990000→
  y0s a6j ((wd:Int),c,(c.length:Int),(i:Int),wL L,())=some (wL (a1F wd (c.drop i) L),())
 |0,i,L,hi,_=>by
  obtain rfl:i=c.length:=by omega
  simp_all[a0E,a6j,a1F]
 |j+1,i,L,hi,hb=>by
  have h:i<c.length:=by omega
  have f:=a0W (a0X c[i] wd) wd L;rw[a02 h,a0F (s':=((wd:Int),c,(c.length:Int),((i+1:Nat):Int),wL (a0P (a0X c[i] wd) wd L),())) (by
   simp only[a6j,dlt h,cT,a0D h,oB,b4u (show wd≤63 by omega) (show L.length<999999000 by omega),a0B (show i<1000000 by omega)])]
  exact c0T k g j (i+1) _ (by omega) (by omega)
theorem c2A{t:List Int}{n wd:Int}{s:Sub}(a:t.length=3):∀(j i:Nat)(L:List Int),i+j=3→L.length+64*j<999990000→
  y0s b1f (n,wd,t,(i:Int),wL L,s,())=some (n,wd,wL (a1F 8 (t.drop i) L),s,())
 |0,i,L,hi,_=>by
  obtain rfl:i=t.length:=by omega
  grind[a0E,b1f,a1F]
 |j+1,i,L,hi,hb=>by
  have h:i<t.length:=by omega
  have f:decide ((i:Int)<3)=true:=by grind
  have k:=a0W (a0X t[i] 8) 8 L;have g:a2P (wL L,t[i],(8:Int))=some (wL (a0P (a0X t[i] 8) 8 L)):=b4u (n:=8) (by omega) (by omega);rw[a02 h,a0F (s':=(n,wd,t,((i+1:Nat):Int),wL (a0P (a0X t[i] 8) 8 L),s,())) (by
   simp only[b1f,f,cT,a0D h,oB,g,a0B (show i<1000000 by omega)])]
  exact c2A a j (i+1) _ (by omega) (by omega)
theorem c2B{l:List Int}{n:Int}{wd:Nat}{s:Sub}(k:wd≤32)(g:l.length<10000):∀(j i:Nat)(L:List Int),i+j=l.length→L.length+64*j<999990000→
  y0s b1h (n,(wd:Int),l,(l.length:Int),(i:Int),wL L,s,())=some (n,wL (a1F wd (l.drop i) L),s,())
 |0,i,L,hi,_=>by
  obtain rfl:i=l.length:=by omega
  simp_all[a0E,b1h,a1F]
 |j+1,i,L,hi,hb=>by
  have h:i<l.length:=by omega
  have f:=a0W (a0X l[i] wd) wd L;rw[a02 h,a0F (s':=(n,(wd:Int),l,(l.length:Int),((i+1:Nat):Int),wL (a0P (a0X l[i] wd) wd L),s,())) (by
   simp only[b1h,dlt h,cT,a0D h,oB,b4u (show wd≤63 by omega) (show L.length<999999000 by omega),a0B (show i<1000000 by omega)])]
  exact c2B k g j (i+1) _ (by omega) (by omega)
def a6G(s:Stg)(L:List Int):List Int:=a0P (wrap .u64 s.2.1) 4 (a0P (wrap .u64 (wrap .i64 (s.1-1))) 5 L)
def a3m(st:List Stg)(L:List Int):List Int:=st.foldl (fun L s=>a6G s L) L
theorem b7t(s:Stg)(L:List Int):(a6G s L).length≤L.length+9:=by
 grind[a0W,a6G]
theorem b5Z:∀(st:List Stg)(L:List Int),(a3m st L).length≤L.length+9*st.length
 | [],L=>by simp[a3m]
 |s::st,L=>by
  have h:=b7t s L;have g:=b5Z st (a6G s L);have e:a3m (s::st) L=a3m st (a6G s L):=rfl
  grind
theorem b8Y{st:List Stg}{n wd:Int}{s:Sub}(a:st.length<10000):∀(j i:Nat)(L:List Int),i+j=st.length→L.length+64*j<999990000→
  y0s b1g (n,wd,st,(st.length:Int),(i:Int),wL L,s,())=some (n,wd,wL (a3m (st.drop i) L),s,())
 |0,i,L,hi,_=>by
  obtain rfl:i=st.length:=by omega
  simp_all[a0E,b1g,a3m]
 |j+1,i,L,hi,hb=>by
  have h:i<st.length:=by omega
  have k:=a0W (wrap .u64 (wrap .i64 (st[i].1-1))) 5 L;have b:=b7t st[i] L;have g:a0H (wL L,wrap .u64 (wrap .i64 (st[i].1-1)),(5:Int))=some (a8x (wrap .u64 (wrap .i64 (st[i].1-1))) 5,wL (a0P (wrap .u64 (wrap .i64 (st[i].1-1))) 5 L)):=a3k (n:=5) (by omega) (by omega);have f:a0H (wL (a0P (wrap .u64 (wrap .i64 (st[i].1-1))) 5 L),wrap .u64 st[i].2.1,(4:Int))=some (a8x (wrap .u64 st[i].2.1) 4,wL (a6G st[i] L)):=a3k (n:=4) (by omega) (by omega);rw[a02 h,a0F (s':=(n,wd,st,(st.length:Int),((i+1:Nat):Int),wL (a6G st[i] L),s,())) (by
   simp only[b1g,dlt h,cT,a0D h,oB,g,f,a0B (show i<1000000 by omega)])]
  exact b8Y a j (i+1) _ (by omega) (by omega)
def a6H(s:Sub)(L:List Int):List Int:=
 a1F (a0J s.2.2.2.2.2.1) s.2.2.2.2.2.1 (a0P ((a0J s.2.2.2.2.2.1:Nat):Int) 5 (a0P (wrap .u64 s.2.2.2.1) 4 (a0P (wrap .u64 (wrap .i64 (((s.2.2.2.2.2.1.length:Nat):Int)-1))) 5 L)))
theorem c3p{s:Sub}(h:s.2.2.2.2.2.1.length≤40)(L:List Int):(a6H s L).length≤L.length+2000:=by
 unfold a6H;have f:=a0W (wrap .u64 (wrap .i64 (((s.2.2.2.2.2.1.length:Nat):Int)-1))) 5 L;have k:=a0W (wrap .u64 s.2.2.2.1) 4 (a0P (wrap .u64 (wrap .i64 (((s.2.2.2.2.2.1.length:Nat):Int)-1))) 5 L);have a:=a0W ((a0J s.2.2.2.2.2.1:Nat):Int) 5 (a0P (wrap .u64 s.2.2.2.1) 4 (a0P (wrap .u64 (wrap .i64 (((s.2.2.2.2.2.1.length:Nat):Int)-1))) 5 L));have b:=a6E (a0J s.2.2.2.2.2.1) s.2.2.2.2.2.1 (a0P ((a0J s.2.2.2.2.2.1:Nat):Int) 5 (a0P (wrap .u64 s.2.2.2.1) 4 (a0P (wrap .u64 (wrap .i64 (((s.2.2.2.2.2.1.length:Nat):Int)-1))) 5 L)));have g:=a6K s.2.2.2.2.2.1
 have:a0J s.2.2.2.2.2.1*s.2.2.2.2.2.1.length≤32*40:=Nat.mul_le_mul g h
 omega
theorem b8Z(h:s.2.2.2.2.2.1.length≤40)(l:L.length<900000000):a8S (wL L,s)=some (wL (a6H s L)):=by
 have e:=a0W (wrap .u64 (wrap .i64 (((s.2.2.2.2.2.1.length:Nat):Int)-1))) 5 L;have i:=a0W (wrap .u64 s.2.2.2.1) 4 (a0P (wrap .u64 (wrap .i64 (((s.2.2.2.2.2.1.length:Nat):Int)-1))) 5 L);have j:=a0W ((a0J s.2.2.2.2.2.1:Nat):Int) 5 (a0P (wrap .u64 s.2.2.2.1) 4 (a0P (wrap .u64 (wrap .i64 (((s.2.2.2.2.2.1.length:Nat):Int)-1))) 5 L));have k:=a6K s.2.2.2.2.2.1;have f:wrap .u64 ((a0J s.2.2.2.2.2.1:Nat):Int)=((a0J s.2.2.2.2.2.1:Nat):Int):=a0M (by omega);have a:a0H (wL L,wrap .u64 (wrap .i64 (((s.2.2.2.2.2.1.length:Nat):Int)-1)),(5:Int))=some (a8x (wrap .u64 (wrap .i64 (((s.2.2.2.2.2.1.length:Nat):Int)-1))) 5,wL (a0P (wrap .u64 (wrap .i64 (((s.2.2.2.2.2.1.length:Nat):Int)-1))) 5 L)):=a3k (n:=5) (by omega) (by omega);have b:a0H (wL (a0P (wrap .u64 (wrap .i64 (((s.2.2.2.2.2.1.length:Nat):Int)-1))) 5 L),wrap .u64 s.2.2.2.1,(4:Int))=some (a8x (wrap .u64 s.2.2.2.1) 4,wL (a0P (wrap .u64 s.2.2.2.1) 4 (a0P (wrap .u64 (wrap .i64 (((s.2.2.2.2.2.1.length:Nat):Int)-1))) 5 L))):=a3k (n:=4) (by omega) (by omega);have d:a0H (wL (a0P (wrap .u64 s.2.2.2.1) 4 (a0P (wrap .u64 (wrap .i64 (((s.2.2.2.2.2.1.length:Nat):Int)-1))) 5 L)),((a0J s.2.2.2.2.2.1:Nat):Int),(5:Int))=some (a8x ((a0J s.2.2.2.2.2.1:Nat):Int) 5,wL (a0P ((a0J s.2.2.2.2.2.1:Nat):Int) 5 (a0P (wrap .u64 s.2.2.2.1) 4 (a0P (wrap .u64 (wrap .i64 (((s.2.2.2.2.2.1.length:Nat):Int)-1))) 5 L)))):=a3k (n:=5) (by omega) (by omega);have g:=c0T (c:=s.2.2.2.2.2.1) k (by omega) s.2.2.2.2.2.1.length 0 (a0P ((a0J s.2.2.2.2.2.1:Nat):Int) 5 (a0P (wrap .u64 s.2.2.2.1) 4 (a0P (wrap .u64 (wrap .i64 (((s.2.2.2.2.2.1.length:Nat):Int)-1))) 5 L))) (by omega) (by omega);simp at g;unfold a8S;simp only[a,b,a2q (show short s.2.2.2.2.2.1 by unfold short;omega),f,d,g,oB,a6H]
def b2x(s:Sub)(L:List Int):List Int:=
 a0P ((a0J s.2.2.2.2.2.2.2.2.1:Nat):Int) 5 (a0P (wrap .u64 s.2.1) 5 (a0P (wrap .u64 s.1) 3 L))
def a2A(s:Sub)(L:List Int):List Int:=
 if s.1=2 then a0P (wrap .u64 s.2.2.1) 3 L
 else if s.1=3 then a6H s L
 else if s.1=4 then a6H s (a1F 8 s.2.2.2.2.2.2.1 (a0P (wrap .u64 (wrap .i64 (s.2.2.2.2.1-1))) 10 L))
 else if s.1=5 then a3m s.2.2.2.2.2.2.2.1 (a0P (wrap .u64 ((s.2.2.2.2.2.2.2.1.length:Nat):Int)) 2 L)
 else L
theorem c4h(h:SmallS s)(L:List Int):(a2A s L).length≤L.length+3000:=by
 have f:=h.coefs;have k:=h.taps;have g:=h.stages
 grind[a2A,a0W,c3p,a6E,b5Z]
theorem b7u:∀(zs:List Nat)(ks l L:List Int),ks.all kB=true→(a4S zs ks l L).length≤L.length+10*zs.length+100*l.length
 |z::zs,k::ks,l,L,h=>by
  simp only[a07,bA]at h;have g:=b7U h.1 (l.take z) L;have f:=b7u zs ks (l.drop z) (a9T k (l.take z) L) h.2;rw[a95]at g;rw[a52]at f;simp only[a4S,lC];omega
 | [],_,_,_,_=>by simp_all[a4S]
 |_::_,[],_,_,_=>by grind[a4S]
def a5r(s:Sub)(zn:List Nat)(L:List Int):List Int:=
 if s.1=0∨s.1=1 then a1F (a0J s.2.2.2.2.2.2.2.2.1) s.2.2.2.2.2.2.2.2.1 (a2A s (b2x s L))
 else a4u s.2.2.2.2.2.2.2.2.2.1 zn s.2.2.2.2.2.2.2.2.2.2.1 (a1F (a0J s.2.2.2.2.2.2.2.2.1) s.2.2.2.2.2.2.2.2.1 (a2A s (b2x s L)))
theorem b6w(h:SmallS s)(R:L.length<100000000):
  ∃(e:Int)(L':List Int),b0I (wL L,s,n)=some (e,wL L')∧(e=0∨L'=L)∧L'.length≤L.length+700000∧
   ((a2n s n).isSome=true→e=0∧∃a,L'=a5r s a L∧(s.1≠0∧s.1≠1→PartsOk s.2.2.2.2.2.2.2.2.2.1 n ((s.2.2.2.2.2.2.2.2.1.length:Nat):Int) s.2.2.2.2.2.2.2.2.2.2.1 a))∧((a2n s n).isSome=false→e=1∧L'=L):=by
 unfold b0I;simp only[c0P h,oB];cases hs:(a2n s n).isSome with
 |false=>exact⟨1,L,rfl,.inr rfl,by omega,fun h=>(by grind),fun _=>⟨rfl,rfl⟩⟩
 |true=>
  have hp:a1u s n:=by
   grind[a2n]
  obtain⟨P,Q,z,-,-,-,-,u,D,A,-,o⟩:=hp;have b:=c7Z z;have m:=a6K s.2.2.2.2.2.2.2.2.1;have r:short s.2.2.2.2.2.2.2.2.1:=by have:=h.warm;unfold short;omega
  have c:=h.warm;have q:=h.rest;have B:=h.stages;have C:=h.taps;have q1:=a0W (wrap .u64 s.1) 3 L;have S:=a0W (wrap .u64 s.2.1) 5 (a0P (wrap .u64 s.1) 3 L);have T:=a0W ((a0J s.2.2.2.2.2.2.2.2.1:Nat):Int) 5 (a0P (wrap .u64 s.2.1) 5 (a0P (wrap .u64 s.1) 3 L));have y:wrap .u64 ((a0J s.2.2.2.2.2.2.2.2.1:Nat):Int)=((a0J s.2.2.2.2.2.2.2.2.1:Nat):Int):=a0M (by omega);have H:a0H (wL L,wrap .u64 s.1,(3:Int))=some (a8x (wrap .u64 s.1) 3,wL (a0P (wrap .u64 s.1) 3 L)):=a3k (n:=3) (by omega) (by omega);have I:a0H (wL (a0P (wrap .u64 s.1) 3 L),wrap .u64 s.2.1,(5:Int))=some (a8x (wrap .u64 s.2.1) 5,wL (a0P (wrap .u64 s.2.1) 5 (a0P (wrap .u64 s.1) 3 L))):=a3k (n:=5) (by omega) (by omega);have v:a0H (wL (a0P (wrap .u64 s.2.1) 5 (a0P (wrap .u64 s.1) 3 L)),((a0J s.2.2.2.2.2.2.2.2.1:Nat):Int),(5:Int))=some (a8x ((a0J s.2.2.2.2.2.2.2.2.1:Nat):Int) 5,wL (b2x s L)):=a3k (n:=5) (by omega) (by omega);have K:(b2x s L).length≤L.length+13:=by unfold b2x;omega
  generalize hM:b2x s L=M at v K;have U:=c4h h M;have N:=a6E (a0J s.2.2.2.2.2.2.2.2.1) s.2.2.2.2.2.2.2.2.1 (a2A s M);have V:a0J s.2.2.2.2.2.2.2.2.1*s.2.2.2.2.2.2.2.2.1.length≤32*5000:=Nat.mul_le_mul m c;have g:=c2B (l:=s.2.2.2.2.2.2.2.2.1) (n:=n) (s:=s) m (by omega) s.2.2.2.2.2.2.2.2.1.length 0 (a2A s M) (by omega) (by omega);simp at g

  have i:=b8Y (st:=s.2.2.2.2.2.2.2.1) (n:=n) (wd:=((a0J s.2.2.2.2.2.2.2.2.1:Nat):Int)) (s:=s) (by omega) s.2.2.2.2.2.2.2.1.length 0 (a0P (wrap .u64 ((s.2.2.2.2.2.2.2.1.length:Nat):Int)) 2 M) (by omega) (by grind[a0W]);have X:=a0W (wrap .u64 (wrap .i64 (s.2.2.2.2.1-1))) 10 M;have Y:=a6E 8 s.2.2.2.2.2.2.1 (a0P (wrap .u64 (wrap .i64 (s.2.2.2.2.1-1))) 10 M);have j:=c2A (t:=s.2.2.2.2.2.2.1) (n:=n) (wd:=((a0J s.2.2.2.2.2.2.2.2.1:Nat):Int)) (s:=s) C 3 0 (a0P (wrap .u64 (wrap .i64 (s.2.2.2.2.1-1))) 10 M) (by rfl) (by omega);simp at i j;have E:a0H (wL M,wrap .u64 s.2.2.1,(3:Int))=some (a8x (wrap .u64 s.2.2.1) 3,wL (a0P (wrap .u64 s.2.2.1) 3 M)):=a3k (n:=3) (by omega) (by omega);have F:a0H (wL M,wrap .u64 (wrap .i64 (s.2.2.2.2.1-1)),(10:Int))=some (a8x (wrap .u64 (wrap .i64 (s.2.2.2.2.1-1))) 10,wL (a0P (wrap .u64 (wrap .i64 (s.2.2.2.2.1-1))) 10 M)):=a3k (n:=10) (by omega) (by omega);have G:a0H (wL M,wrap .u64 ((s.2.2.2.2.2.2.2.1.length:Nat):Int),(2:Int))=some (a8x (wrap .u64 ((s.2.2.2.2.2.2.2.1.length:Nat):Int)) 2,wL (a0P (wrap .u64 ((s.2.2.2.2.2.2.2.1.length:Nat):Int)) 2 M)):=a3k (n:=2) (by omega) (by omega);have w:=b8Z (s:=s) h.coefs (L:=M) (by omega);have x:=b8Z (s:=s) h.coefs (L:=a1F 8 s.2.2.2.2.2.2.1 (a0P (wrap .u64 (wrap .i64 (s.2.2.2.2.1-1))) 10 M)) (by omega);simp only[bT,cF,a2q r,oB,H,I,y,v];generalize hPM:a1F (a0J s.2.2.2.2.2.2.2.2.1) s.2.2.2.2.2.2.2.2.1 (a2A s M)=PM at g N

  have tail:∀(d:s.1≠0∧s.1≠1),∃a,PartsOk s.2.2.2.2.2.2.2.2.2.1 n ((s.2.2.2.2.2.2.2.2.1.length:Nat):Int) s.2.2.2.2.2.2.2.2.2.2.1 a:=fun d=>by
   simp_all[PartsOk.of]
  rcases b with k|k|k|k|k|k;have f:a2A s M=M:=by unfold a2A;grind
  rw[f]at g;refine⟨0,PM,?_,.inl rfl,by omega,fun _=>⟨rfl,[],by simp_all[a5r],fun h=>absurd k (by omega)⟩,fun h=>by grind⟩;simp only[k,show((0:Int)==2)=false from rfl,show((0:Int)==4)=false from rfl,show((0:Int)==3)=false from rfl,show((0:Int)==5)=false from rfl,cF,oB,g,a6J]
  simp
  have f:a2A s M=M:=by unfold a2A;grind
  rw[f]at g;refine⟨0,PM,?_,.inl rfl,by omega,fun _=>⟨rfl,[],by simp_all[a5r],fun h=>absurd k (by omega)⟩,fun h=>by grind⟩;simp only[k,show((1:Int)==2)=false from rfl,show((1:Int)==4)=false from rfl,show((1:Int)==3)=false from rfl,show((1:Int)==5)=false from rfl,cF,oB,g,a6J]
  simp
  all_goals
   obtain⟨a,p⟩:=tail (by omega);have Z:=c4g (L:=PM) p (by omega);have O:(a4u s.2.2.2.2.2.2.2.2.2.1 a s.2.2.2.2.2.2.2.2.2.2.1 PM).length≤L.length+700000:=by
    have z1:=a0W (wrap .u64 s.2.2.2.2.2.2.2.2.2.1.1) 4 PM;have z2:=b7u a s.2.2.2.2.2.2.2.2.2.1.2.1 s.2.2.2.2.2.2.2.2.2.2.1 (a0P (wrap .u64 s.2.2.2.2.2.2.2.2.2.1.1) 4 PM) p.all;have z3:=p.len
    grind[a4u]
   refine⟨0,a4u s.2.2.2.2.2.2.2.2.2.1 a s.2.2.2.2.2.2.2.2.2.2.1 PM,?_,.inl rfl,O,fun _=>⟨rfl,a,by simp_all[a5r],fun _=>p⟩,fun h=>by grind⟩
  have f:a2A s M=a0P (wrap .u64 s.2.2.1) 3 M:=by unfold a2A;grind
  rw[f]at g;simp only[k,show((2:Int)==2)=true from rfl,cT,E,oB,g,a6J]
  grind
  have f:a2A s M=a6H s M:=by unfold a2A;grind
  rw[f]at g;simp only[k,show((3:Int)==2)=false from rfl,show((3:Int)==4)=false from rfl,show((3:Int)==3)=true from rfl,cT,cF,w,oB,g,a6J]
  grind
  have f:a2A s M=a6H s (a1F 8 s.2.2.2.2.2.2.1 (a0P (wrap .u64 (wrap .i64 (s.2.2.2.2.1-1))) 10 M)):=by unfold a2A;grind
  rw[f]at g;simp only[k,show((4:Int)==2)=false from rfl,show((4:Int)==4)=true from rfl,cT,cF,F,j,x,oB,g,a6J]
  grind
  have f:a2A s M=a3m s.2.2.2.2.2.2.2.1 (a0P (wrap .u64 ((s.2.2.2.2.2.2.2.1.length:Nat):Int)) 2 M):=by unfold a2A;grind
  rw[f]at g;simp only[k,show((5:Int)==2)=false from rfl,show((5:Int)==4)=false from rfl,show((5:Int)==3)=false from rfl,show((5:Int)==5)=true from rfl,cT,cF,G,i,oB,g,a6J]
  grind
theorem b5D(h:List Nat):(a1p h).map a42=h:=by
 unfold a1p;rw[List.map_map]
 have:a42∘(fun(a:Nat)=>(a:Int))=id:=by rfl
 simp_all
def a5f(s:Sub)(n:Int):Int:=
 if(a2n s n).isSome=true then(((a5r s ((a1K s.2.2.2.2.2.2.2.2.2.1.1 n ((s.2.2.2.2.2.2.2.2.1.length:Nat):Int)).map a42) []).length:Nat):Int)else 0
theorem c2d(h:s.1≠0∧s.1≠1→PartsOk s.2.2.2.2.2.2.2.2.2.1 n ((s.2.2.2.2.2.2.2.2.1.length:Nat):Int) s.2.2.2.2.2.2.2.2.2.2.1 zn)(L:List Int):
  a5r s zn L=a5r s ((a1K s.2.2.2.2.2.2.2.2.2.1.1 n ((s.2.2.2.2.2.2.2.2.1.length:Nat):Int)).map a42) L:=by
 by_cases hk:s.1=0∨s.1=1
 simp_all[a5r];rw[(h (not_or.1 hk)).sizes,b5D]
theorem c5U(h:SmallS s)(n:Int):a4i (s,n)=some (a5f s n):=by
 obtain⟨e,f,g,-,-,k,c⟩:=b6w h (n:=n) (L:=[]) (by simp);have a:wL []=(([]:List Int),(0:Int),()):=rfl;rw[a]at g;obtain⟨d,-⟩:=a5Y f;unfold a4i a5f;simp[g,a9m];cases hs:(a2n s n).isSome with
 |false=>
  simp_all
 |true=>
  obtain⟨rfl,i,rfl,b⟩:=k hs;rw[if_pos rfl,←c2d b];simp_all
def dif:List Int→List Int
 |a::b::r=>W (b-a)::dif (b::r)
 |_=>[]
theorem a9b:∀l:List Int,(dif l).length=l.length-1
 | []=>rfl
 | [_]=>rfl
 |a::b::r=>by simp[dif,a9b (b::r)]
theorem c2e:∀(l:List Int)(i:Nat)(x y:Int),l[i]?=some x→l[i+1]?=some y→(dif l)[i]?=some (W (y-x))
 |a::b::r,0,x,y,h1,h2=>by simp at h1 h2;subst h1;subst h2;rfl
 |a::b::r,i+1,x,y,h1,h2=>by
  simp only[dif,List.getElem?_cons_succ]at h1 h2⊢;exact c2e (b::r) i x y h1 h2
 | [_],0,x,y,h1,h2=>by simp_all
 | [_],i+1,x,y,h1,h2=>by simp_all
 | [],i,x,y,h1,h2=>by simp_all
def a2o:Nat→List Int→List Int
 |0,l=>l
 |o+1,l=>dif (a2o o l)
theorem a5Z(l:List Int):∀o,(a2o o l).length=l.length-o
 |0=>rfl
 |o+1=>by simp only[a2o,a9b,a5Z l o];omega
theorem b6x{l:List Int}(h:short l)(o:Nat):short (a2o o l):=by
 have h:l.length<1000000:=h;show(a2o o l).length<1000000;rw[a5Z];omega
def b1N(l:List Int)(i:Nat):List Int:=(dif l).take i++l.drop i
theorem b5E(h:i≤l.length-1):(b1N l i).length=l.length:=by
 grind[b1N,a9b]
theorem c2C(h:i≤l.length-1)(g:i≤j):(b1N l i).getD j 0=l.getD j 0:=by
 simp_all[a9b,b1N,List.getElem?_append_right]
theorem c9r(h:i<l.length-1):(b1N l i).set i (W (l.getD (i+1) 0-l.getD i 0))=b1N l (i+1):=by
 have e:((dif l).take i).length=i:=by grind[a9b]
 have f:l[i]?=some l[i]:=lG (by omega);have k:l[i+1]?=some l[i+1]:=lG (by omega);have a:=c2e l i _ _ f k;have g:i<(dif l).length:=by grind
 simp only[b1N];rw[List.set_append,if_neg (by omega),e,a56,a02 (show i<l.length by omega),a60,a49 g,aA]
 grind
theorem c6U{l:List Int}{o k:Int}(g:short l)(h:1≤l.length):y0s a5C ((0:Int),o,k,l,())=some (o,k,b1N l (l.length-1),()):=by
 have g:l.length<1000000:=g;have r:b1N l 0=l:=by rfl
 have:=a1E (f:=a5C) (fun i:Nat=>((i:Int),o,k,b1N l i,())) (l.length-1) (b:=(o,k,b1N l (l.length-1),()))
  (fun i hi=>by
   have d:wrap .i64 ((i:Int)+1)=((i+1:Nat):Int):=a0B (by omega);have c:=b5E (l:=l) (i:=i) (by omega);have a:decide (((i+1:Nat):Int)<((l.length:Nat):Int))=true:=by grind
   have e:decide ((0:Int)≤((i+1:Nat):Int))=true:=by rfl
   have m:decide ((0:Int)≤(i:Int))=true:=by simp
   have n:decide ((i:Int)<((l.length:Nat):Int))=true:=by grind
   have n1:a42 ((i+1:Nat):Int)=i+1:=by rfl
   have n2:a42 (i:Int)=i:=by rfl
   have st:=c9r (l:=l) (i:=i) (by omega);have p:=c2C (l:=l) (i:=i) (j:=i+1) (by omega) (by omega);have q:=c2C (l:=l) (i:=i) (j:=i) (by omega) (by omega);simp_all[a5C])
  (by
   have c:=b5E (l:=l) (i:=l.length-1) (by omega);have d:wrap .i64 (((l.length-1:Nat):Int)+1)=((l.length:Nat):Int):=by grind[a0C]
   have a:decide (((l.length:Nat):Int)<((l.length:Nat):Int))=false:=by simp
   simp_all[a5C])
 simp_all
theorem c8c{l:List Int}:(b1N l (l.length-1)).take (l.length-1)=dif l:=by
 simp_all[a48,a9b,b1N]
theorem b7v(y:o≤4)(x:o≤l.length)(g:short l)(r:l.all a0A=true):
  a4M (l,(o:Int))=some (bif (a2o o l).all a0A then(a2o o l,0)else([],6)):=by
 have q:l.length<1000000:=g;have h:=a1E (f:=a8b) (fun k:Nat=>((o:Int),(k:Int),a2o k l,())) o (b:=(a2o o l,()))
  (fun k v=>by
   have n:1≤(a2o k l).length:=by rw[a5Z];omega
   have p:(a2o k l).length<1000000:=b6x g k;have j:decide ((k:Int)<(o:Int))=true:=by simp_all
   have w:=b5E (l:=a2o k l) (i:=(a2o k l).length-1) (by omega);have z:wrap .i64 ((((a2o k l).length:Nat):Int)-1)=(((a2o k l).length-1:Nat):Int):=by grind[a0C]
   have w2:wrap .i64 ((k:Int)+1)=((k+1:Nat):Int):=a0B (by omega);have s:decide ((0:Int)≤(((a2o k l).length-1:Nat):Int))=true:=by simp
   have t:decide ((((a2o k l).length-1:Nat):Int)≤(((a2o k l).length:Nat):Int))=true:=by simp
   have u:decide ((a2o k l).length-1≤(a2o k l).length)=true:=by simp
   simp_all[a2o,a8b,c6U,b6x,c8c])
  (by
   have j:decide ((o:Int)<(o:Int))=false:=by simp
   simp_all[a8b])
 have a:decide ((o:Int)<0)=false:=by simp
 have c:decide ((o:Int) > 4)=false:=by grind
 have d:decide (((l.length:Nat):Int)<(o:Int))=false:=by simp_all
 have e:lim l.length=true:=a0T (by omega);simp at h;have m:a2o 0 l=l:=rfl;rw[m]at h;unfold a4M;simp only[a,c,d,e,cF,cT,oB,a7C g,r,bT,h,a7C (b6x g o)]
 grind
def ex:Nat→(Nat→Int)→Nat→Int
 |0,f,i=>f i
 |o+1,f,i=>ex o f (i+1)-ex o f i
theorem b9C{l:List Int}(g:l.all a0A=true):∀(o i:Nat),i+o<l.length→(a2o o l)[i]?=some (W (ex o (fun j=>l.getD j 0) i))
 |0,i,h=>by
  simp_all[a2o,ex,b7R]
 |o+1,i,h=>by
  have f:=b9C g o i (by omega);have k:=b9C g o (i+1) (by omega);simp_all[a2o,ex,c2e,a8v]
theorem c8d(d:l.all a0A=true)(c:o≤4)(h:o+j<l.length):W (W (ex o (fun j=>l.getD j 0) j)+a6B o (l.take (o+j)))=l.getD (o+j) 0:=by
 have f:a0A (l.getD (o+j) 0)=true:=by
  simp_all
 have g:∀i:Nat,1≤i→i≤o→atB (l.take (o+j)) i=l.getD (o+j-i) 0:=fun i a b=>by
  simp[atB,a71 (a84 h),List.getElem?_take]
  grind
 have key:ex o (fun j=>l.getD j 0) j+a6B o (l.take (o+j))=l.getD (o+j) 0:=by
  have k:o=0∨o=1∨o=2∨o=3∨o=4:=by omega
  rcases k with rfl|rfl|rfl|rfl|rfl;simp[ex,a6B]
  all_goals grind[ex,a6B]
 have:W (W (ex o (fun j=>l.getD j 0) j)+a6B o (l.take (o+j)))=W (ex o (fun j=>l.getD j 0) j+a6B o (l.take (o+j))):=by
  simp_all[a8v]
 simp_all[b7R]
theorem c4i{l:List Int}(f:l.all a0A=true){o:Nat}(b:o≤4):∀(k j:Nat),o+j+k=l.length→a4m (a6B o) ((a2o o l).drop j) (l.take (o+j))=some l
 |0,j,h=>by
  rw[List.drop_of_length_le (by rw[a5Z];omega),a48 (by omega)];rfl
 |k+1,j,h=>by
  have g:j<(a2o o l).length:=by rw[a5Z];omega
  have a:=b9C f o j (by omega);rw[lG g]at a;have e:=Option.some.inj a;have c:l.getD (o+j) 0=l[o+j]:=by grind
  have st:=c8d f b (show o+j<l.length by omega);rw[c]at st;rw[a02 g,e];simp only[a4m,st,lA.1 f _ (a05 (show o+j<l.length by omega)),cT];have d:l.take (o+j)++[l[o+j]]=l.take (o+(j+1)):=by
   rw[show o+(j+1)=(o+j)+1 by rfl]
   simp
  rw[d];exact c4i f b k (j+1) (by omega)
theorem a7M{σ β:Type}{f:σ→Option (σ ⊕ β)}(I:Nat→σ→Prop)(Q:β→Prop)(n:Nat)(g:∀i s,i<n→I i s→∃s',f s=some (.inl s')∧I (i+1) s')
  (a:∀s,I n s→∃b,f s=some (.inr b)∧Q b):∀(k i:Nat)(s:σ),i+k=n→I i s→∃b,y0s f s=some b∧Q b
 |0,i,s,h,hi=>by
  obtain rfl:i=n:=by omega
  grind[a0E]
 |k+1,i,s,h,hi=>by
  obtain⟨s',c,d⟩:=g i s (by omega) hi;rw[a0F c];exact a7M I Q n g a k (i+1) s' (by omega) d
theorem b9a(y:Int):0≤wrap .u64 y∧wrap .u64 y<18446744073709551616:=by
 grind[wrap,IntKind.bits,IntKind.signed]
def b2y(n:Int)(x:Int):Bool:=a0A x&&!(a26 x (A0n .i64 1 n) != 0)
def b6y{β:Type}(n:Int)(bad:β)(out:List Int)(x:Int):List Int ⊕ β:=bif b2y n x then .inl (out++[A0o .i64 x n])else .inr bad
def b1o(n:Int)(l:List Int):Option (List Int):=bif l.all (b2y n)then some (l.map fun x=>A0o .i64 x n)else none
theorem b7w{β:Type}(n:Int)(h:β)(g:List Int→β):∀(l out:List Int),a8t g (a2R (b6y n h) l out)=match b1o n l with|some r=>g (out++r)|none=>h
 | [],out=>by grind[a2R,a8t,b1o]
 |x::l,out=>by
  simp only[a2R,b6y,b1o,a07];cases hx:b2y n x with
  |true=>
   simp only[cT,a39];rw[b7w n h g l _];simp only[b1o];cases l.all (b2y n)with
   |true=>simp
   |false=>rfl
  |false=>rfl
theorem c4j{o:Nat}(h:o≤30):A0n .i64 1 (o:Int)=((2^o:Nat):Int):=by
 have g:2^o≤2^30:=a08 (by omega) h
 have:=b9z (N:=1) (o:=o) (by omega) (by omega)
 simp_all
theorem b6a(d:o≤30)(m:l.length<100000):a7u (l,(o:Int))=some (a5h (b1o (o:Int) l)):=by
 have e:short l:=by unfold short;omega
 have g:¬ (o:Int)<0:=by omega
 have b:¬ (o:Int) > 30:=by omega
 have c:(A0n .i64 (1:Int) (o:Int)==0)=false:=by
  rw[c4j d]
  have:0<2^o:=a16 o
  grind
 unfold a7u;simp[g,b]
 have:=a1H (f:=a7b) l (fun i out=>((o:Int),l,(l.length:Int),(i:Int),out,())) (b6y (o:Int) (Sum.inr ((6:Int),([]:List Int),())))
  (fun i out=>out.length=i) (fun out=>Sum.inl (out,()))
  (fun i h out j=>by
   have k:i<1000000:=by omega
   simp only[a7b,dlt h,cT,a0D h,oB,b5S,b6y,b2y,g,c,decide_false,cF];cases hb:a0A l[i]with
   |true=>
    cases hb2:(a26 l[i] (A0n .i64 1 (o:Int)) != 0)with
    |false=>
     simp only[cT,bT,cF,oB,g,decide_false,a0U (show out.length+1<1000000 by omega),a0B k,a03,a36,hb2];simp_all
    |true=>
     simp
   |false=>
    simp)
  (fun out _=>by simp[a7b]) (a:=[]) rfl
 simp[b7w]at this;rw[this];cases b1o (o:Int) l<;>rfl
theorem b9D{o:Nat}(h:o≤30){x:Int}(k:b2y (o:Int) x=true):a0A (A0o .i64 x (o:Int))=true∧A0n .i64 (A0o .i64 x (o:Int)) (o:Int)=x∧a0A x=true:=by
 simp only[b2y,c4j h,bA,a33,bne_eq_false_iff_eq]at k;obtain⟨f,d⟩:=k;obtain⟨c,rfl⟩:=Int.dvd_of_tmod_eq_zero d;have g:=a1I.1 f;have e:min (a42 (o:Int)) (IntKind.bits .i64)=o:=by grind[IntKind.bits]
 have hp:(0:Int)<2^o:=Int.pow_pos (by omega);have b:((2^o:Nat):Int)=2^o:=by simp
 rw[b]at g f⊢;have a:A0o .i64 (2^o*c) (o:Int)=c:=by
  unfold A0o
  grind[a64]
 rw[a];refine⟨a1I.2 ?_,?_,f⟩;generalize (2:Int)^o=p at hp g;have i:p*c=(p-1)*c+c:=by grind
 by_cases hc:0≤c
 have:=a47 (show 0≤p-1 by omega) hc
 omega
 have:=a47 (show 0≤p-1 by omega) (show 0≤-c by omega)
 grind
 grind[A0n,a0C]
theorem d1N(h:o≤30)(f:b1o (o:Int) l=some d):d.all a0A=true∧d.length=l.length∧upO (o:Int) d=some l:=by
 unfold b1o at f;cases ha:l.all (b2y (o:Int))with
 |false=>simp_all
 |true=>
  rw[ha]at f;simp at f;subst f;have g:=lA.1 ha;refine⟨?_,by simp,?_⟩;simp_all[b9D];have a:(l.map fun x=>A0o .i64 x (o:Int)).all (fun x=>a0A x&&a0A (A0n .i64 x (o:Int)))=true:=by
   simp only[List.all_map];refine lA.2 fun x k=>?_
   obtain⟨c,e,i⟩:=b9D h (g x k);simp_all
  unfold upO;rw[a]
  simp
  have b:l.map ((fun x=>A0n .i64 x (o:Int))∘fun x=>A0o .i64 x (o:Int))=l.map id:=List.map_congr_left (fun x k=>(b9D h (g x k)).2.1);simp_all
theorem c6V{n warm:Int}(h:a6D n warm=true):(a1K 0 n warm).length≠0:=by
 have g:=h;simp[a6D]at g
 grind[a1K,b5U]
theorem c6W(h:-1048576≤x∧x≤1048575):v0s (v0r x (-1048576)) 1048575=x:=by
 unfold v0s v0r
 grind
theorem d5h(h:a0A x=true):-1048576≤A0o .i64 x ((10:Nat):Int)∧A0o .i64 x ((10:Nat):Int)≤1048575:=by
 have g:=a1I.1 h;have e:A0o .i64 x ((10:Nat):Int)=x / 1024:=by
  show a80 x 1024=_
  grind
 omega
theorem c2D{x:Int}(f:a0A x=true){a l:List Int}{n i:Int}:∀(k s:Nat),s+k=10→∃s':Nat,s'≤10∧y0s a3B (a,(s:Int),x,l,n,i,())=some (a,(s':Int),l,n,i,())
 |0,s,h=>by
  obtain rfl:s=10:=by omega
  have g:decide (((10:Nat):Int)<0)=false:=by rfl
  have d:=c6W (d5h f);refine⟨10,a27 _,a0E ?_⟩;simp_all[a3B,a2I]
 |k+1,s,h=>by
  have g:decide ((s:Int)<0)=false:=decide_eq_false (by omega);cases hc:(v0s (v0r (A0o .i64 x (s:Int)) (-1048576)) 1048575 != A0o .i64 x (s:Int))with
  |false=>exact⟨s,by omega,a0E (by simp only[a3B,g,cF,a2I,oB,hc])⟩
  |true=>
   obtain⟨s',b,c⟩:=c2D f (a:=a) (l:=l) (n:=n) (i:=i) k (s+1) (by omega);refine⟨s',b,?_⟩;rw[a0F (s':=(a,((s+1:Nat):Int),x,l,n,i,())) (by simp only[a3B,g,cF,a2I,oB,hc,cT,a0B (show s<1000000 by omega)])];omega
theorem c5z(v:l.all a0A=true)(z:l.length<100000):∃r,a8c l=some r∧r.length=l.length:=by
 obtain⟨b,x,s,y,u⟩:=a7M (f:=a5D) (fun i st=>∃s:Nat,s≤10∧st=(l,(s:Int),l,(l.length:Int),(i:Int),())) (fun b=>∃s:Nat,s≤10∧b=(l,(s:Int),())) l.length
  (fun i st hi h=>by
   obtain⟨s,p,rfl⟩:=h;obtain⟨s',g,e⟩:=c2D (lA.1 v _ (a05 hi)) (a:=l) (l:=l) (n:=(l.length:Int)) (i:=(i:Int)) (10-s) s (by omega);exact⟨_,by simp only[a5D,dlt hi,cT,a0D hi,oB,e,a0B (show i<1000000 by omega)]<;>rfl,s',g,rfl⟩)
  (fun st h=>by
   obtain⟨s,p,rfl⟩:=h;exact⟨_,by simp_all[a5D],s,p,rfl⟩) l.length 0 _ (by omega) ⟨0,by omega,rfl⟩
 subst u;obtain⟨c,w,o,q,t⟩:=a7M (f:=a5E) (fun i st=>∃o:List Int,st=((s:Int),l,(l.length:Int),(i:Int),o,())∧o.length=l.length) (fun b=>∃o:List Int,b=(o,())∧o.length=l.length) l.length
  (fun i st hi h=>by
   obtain⟨o,rfl,m⟩:=h;have k:decide ((s:Int)<0)=false:=decide_eq_false (by omega);have d:decide ((0:Int)≤(i:Int))=true:=by simp
   have j:decide ((i:Int)<((o.length:Nat):Int))=true:=decide_eq_true (by omega);exact⟨_,by simp only[a5E,dlt hi,cT,a0D hi,oB,k,cF,d,j,a03,a0B (show i<1000000 by omega)]<;>rfl,_,rfl,by grind⟩)
  (fun st h=>by
   obtain⟨o,rfl,m⟩:=h;exact⟨_,by simp_all[a5E],o,rfl,m⟩) l.length 0 _ (by omega) ⟨a00 l.length 0,rfl,by simp⟩
 subst q;refine⟨o,?_,t⟩;have k:decide ((0:Int)≤((l.length:Nat):Int))=true:=by simp
 have d:decide (((l.length:Nat):Int)≤((l.length:Nat):Int))=true:=by simp
 have j:lim l.length=true:=a0U (by omega);simp_all[a8c]
theorem c0U:∀(N:Nat)(num den:Int),den.toNat≤N→∃a b,y0s a3s (num,den,())=some (a,b,())
 |N,num,den,h=>by
  by_cases hd:den≥1099511627776
  ·have g:decide (den≥(1099511627776:Int))=true:=decide_eq_true hd;have e:A0o .i64 den 1=den / 2:=by
    show a80 den 2=_
    grind
   rw[a0F (s':=(A0o .i64 num 1,den / 2,())) (by simp_all[a3s])]
   match N with
   |0=>omega
   |N+1=>exact c0U N _ _ (by omega)
  have g:decide (den≥(1099511627776:Int))=false:=decide_eq_false hd;exact⟨num,den,a0E (by simp only[a3s,g,cF])⟩
theorem c0V{f:List Int}(t:1≤m)(r:g.length=f.length)(s:f.length<100000)(q:m<1000):∃k,a5c (f,g,(m:Int))=some k:=by
 obtain⟨b,n,d,den,o⟩:=a7M (f:=a3r) (fun i st=>∃d den:Int,st=(f,g,d,den,((m+i:Nat):Int),())) (fun b=>∃d den:Int,b=(d,den,())) (f.length-m)
  (fun i st hi h=>by
   obtain⟨d,den,rfl⟩:=h;have j:m+i<f.length:=by omega
   have e:wrap .i64 (((m+i:Nat):Int)-1)=((m+i-1:Nat):Int):=by grind[a0C]
   exact⟨_,by simp only[a3r,dlt j,cT,a0D j,e,a0D (show m+i-1<g.length by omega),oB,a0B (show m+i<1000000 by omega)]<;>rfl,_,_,rfl⟩)
  (fun st h=>by
   obtain⟨d,den,rfl⟩:=h;have l:decide (((m+(f.length-m):Nat):Int)<((f.length:Nat):Int))=false:=decide_eq_false (by omega);exact⟨_,by simp only[a3r,l,cF]<;>rfl,_,_,rfl⟩) (f.length-m) 0 (f,g,0,0,(m:Int),()) (by omega) ⟨0,0,rfl⟩
 subst o;obtain⟨a,c,p⟩:=c0U den.toNat d den (a27 _);unfold a5c;simp[n,p];cases hc:(c==0)with
 |true=>simp
 |false=>
  simp
  cases decide ((A0n .i64 a 15).tmod c<0)<;>exact⟨_,rfl⟩
theorem c3q{f:List Int}{order:Int}(x:1≤m)(r:g.length=f.length)(w:f.length<100000)(s:m<1000):
  ∃f' a:List Int,y0s a3i (order,(m:Int),k,((f.length:Nat):Int)-1,f,g,ks,())=some (order,(m:Int),f',a,ks,())∧f'.length=f.length∧a.length=f.length:=by
 obtain⟨b,t,f',a,u,v⟩:=a7M (f:=a3i) (fun i st=>∃f' a:List Int,st=(order,(m:Int),k,((f.length:Nat):Int)-1-(i:Int),f',a,ks,())∧f'.length=f.length∧a.length=f.length)
  (fun b=>∃f' a:List Int,b=(order,(m:Int),f',a,ks,())∧f'.length=f.length∧a.length=f.length) (f.length-m)
  (fun i st hi h=>by
   obtain⟨f',a,rfl,c,d⟩:=h;have j:decide (((f.length:Nat):Int)-1-(i:Int)≥(m:Int))=true:=decide_eq_true (by omega);have l:decide ((0:Int)≤((f.length:Nat):Int)-1-(i:Int))=true:=decide_eq_true (by omega);have n:decide (((f.length:Nat):Int)-1-(i:Int)<((f'.length:Nat):Int))=true:=decide_eq_true (by omega);have o:decide (((f.length:Nat):Int)-1-(i:Int)<((a.length:Nat):Int))=true:=decide_eq_true (by omega);have e:wrap .i64 (((f.length:Nat):Int)-1-(i:Int)-1)=((f.length:Nat):Int)-1-((i+1:Nat):Int):=by grind[a0C]
   have p:decide ((0:Int)≤((f.length:Nat):Int)-1-((i+1:Nat):Int))=true:=decide_eq_true (by omega);have q:decide (((f.length:Nat):Int)-1-((i+1:Nat):Int)<((a.length:Nat):Int))=true:=decide_eq_true (by omega);exact⟨_,by simp only[a3i,j,l,n,o,e,p,q,cT,a03,a2I,oB]<;>rfl,_,_,rfl,by simp_all,by simp_all⟩)
  (fun st h=>by
   obtain⟨f',a,rfl,c,d⟩:=h;have j:decide (((f.length:Nat):Int)-1-((f.length-m:Nat):Int)≥(m:Int))=false:=decide_eq_false (by omega);exact⟨_,by simp only[a3i,j,cF]<;>rfl,f',a,rfl,c,d⟩) (f.length-m) 0 _ (by omega) ⟨f,g,rfl,rfl,r⟩
 grind
theorem c4k{f:List Int}(x:o≤32)(v:g.length=f.length)(w:f.length<100000):∃ks:List Int,y0s a3j ((o:Int),(1:Int),f,g,([]:List Int),())=some (ks,())∧ks.length=o:=by
 obtain⟨b,p,ks,t,u⟩:=a7M (f:=a3j) (fun i st=>∃f' a ks:List Int,st=((o:Int),((i+1:Nat):Int),f',a,ks,())∧f'.length=f.length∧a.length=f.length∧ks.length=i)
  (fun b=>∃ks:List Int,b=(ks,())∧ks.length=o) o
  (fun i st hi h=>by
   obtain⟨f',a,ks,rfl,j,l,q⟩:=h;have d:decide (((i+1:Nat):Int)≤(o:Int))=true:=decide_eq_true (by omega);obtain⟨k,n⟩:=c0V (f:=f') (g:=a) (m:=i+1) (by omega) (by omega) (by omega) (by omega);have e:wrap .i64 (((f'.length:Nat):Int)-1)=((f'.length:Nat):Int)-1:=a0C (by omega);obtain⟨r,s,p,t,u⟩:=c3q (f:=f') (g:=a) (ks:=ks++[k]) (m:=i+1) (order:=(o:Int)) (k:=k) (by omega) (by omega) (by omega) (by omega);have c:lim (ks.length+1)=true:=a0U (by omega);exact⟨_,by simp only[a3j,d,cT,n,oB,c,e,a06,p,a0B (show i+1<1000000 by omega)]<;>rfl,r,s,ks++[k],rfl,by omega,by omega,by grind⟩)
  (fun st h=>by
   obtain⟨f',a,ks,rfl,j,l,q⟩:=h;have d:decide (((o+1:Nat):Int)≤(o:Int))=false:=decide_eq_false (by omega);exact⟨_,by simp only[a3j,d,cF]<;>rfl,ks,rfl,q⟩) o 0 _ (by omega) ⟨f,g,[],rfl,rfl,v,rfl⟩
 simp_all
theorem c4l(h:l.all a0A=true)(t:l.length≤4096)(s:1≤o)(m:o≤32):∃ks:List Int,a7c (l,(o:Int))=some (ks,0)∧ks.length=o:=by
 have p:short l:=by unfold short;omega
 obtain⟨r,e,q⟩:=c5z h (by omega);have n:short r:=by unfold short;omega
 obtain⟨ks,i,j⟩:=c4k (f:=r) (g:=r) m rfl (by omega);have k:decide ((o:Int)<1)=false:=decide_eq_false (by omega);have a:decide ((o:Int) > 32)=false:=decide_eq_false (by omega);have b:decide (((l.length:Nat):Int) > 4096)=false:=decide_eq_false (by omega);have c:decide ((0:Int)≤(o:Int))=true:=by simp
 have d:lim o=true:=a0U (by omega);refine⟨ks,?_,j⟩;unfold a7c;simp only[k,a,b,c,d,cF,cT,oB,a6n p,h,bT,e,a8w n,tN,a03,i]
theorem b4w{σ β:Type}{f:σ→Option (σ ⊕ β)}(I:Nat→σ→Prop)(Q:β→Prop)(n:Nat)(g:∀i s,i<n→I i s→(∃s',f s=some (.inl s')∧I (i+1) s')∨(∃b,f s=some (.inr b)∧Q b))
  (a:∀s,I n s→∃b,f s=some (.inr b)∧Q b):∀(k i:Nat)(s:σ),i+k=n→I i s→∃b,y0s f s=some b∧Q b
 |0,i,s,h,hi=>by
  obtain rfl:i=n:=by omega
  grind[a0E]
 |k+1,i,s,h,hi=>by
  rcases g i s (by omega) hi with⟨s',c,d⟩|⟨b,c,d⟩;rw[a0F c];exact b4w I Q n g a k (i+1) s' (by omega) d;simp_all[a0E]
theorem c5A(g:ks.length≤32):∃b,y0s a2i (ks,ks,(ks.length:Int),(0:Int),())=some b∧(b=.inl (ks,())∨b=.inr (([]:List Int),(1:Int),())):=
 b4w (f:=a2i) (fun i s=>s=(ks,ks,(ks.length:Int),(i:Int),())) (fun b=>b=.inl (ks,())∨b=.inr (([]:List Int),(1:Int),())) ks.length
  (fun i s hi h=>by
   subst h;cases h1:decide (ks[i]<(-16383:Int))with
   |true=>exact Or.inr ⟨_,by simp_all[a2i,a0D],Or.inr rfl⟩
   |false=>
    cases h2:decide (ks[i] > (16383:Int))with
    |true=>exact Or.inr ⟨_,by simp_all[a2i,a0D],Or.inr rfl⟩
    |false=>exact Or.inl ⟨_,by simp only[a2i,dlt hi,cT,cF,a0D hi,oB,h1,h2,a0B (show i<1000000 by omega)]<;>rfl,rfl⟩)
  (fun s h=>by
   subst h;exact⟨_,by simp_all[a2i],Or.inl rfl⟩) ks.length 0 _ (by omega) rfl
theorem c5B{a:List Int}(t:c.length=i)(hi:i≤32):
  ∃g:List Int,y0s a4e (c,(i:Int),k,a,n,(i:Int),c,(c.length:Int),(0:Int),([]:List Int),())=some (k,a,n,(i:Int),g,())∧g.length=i:=by
 obtain⟨b,p,g,q,r⟩:=a7M (f:=a4e) (fun j s=>∃g:List Int,s=(c,(i:Int),k,a,n,(i:Int),c,(c.length:Int),(j:Int),g,())∧g.length=j)
  (fun b=>∃g:List Int,b=(k,a,n,(i:Int),g,())∧g.length=c.length) c.length
  (fun j s e h=>by
   obtain⟨g,rfl,l⟩:=h;have m:wrap .i64 ((i:Int)-1)=(i:Int)-1:=a0C (by omega);have o:wrap .i64 ((i:Int)-1-(j:Int))=((i-1-j:Nat):Int):=by grind[a0C]
   have d:lim (g.length+1)=true:=a0U (by omega);exact⟨_,by simp only[a4e,dlt e,cT,a0D e,oB,m,o,a0D (show i-1-j<c.length by omega),d,a0B (show j<1000000 by omega),a06]<;>rfl,_,rfl,by grind⟩)
  (fun s h=>by
   obtain⟨g,rfl,l⟩:=h;exact⟨_,by simp_all[a4e],g,rfl,l⟩) c.length 0 _ (by omega) ⟨[],rfl,rfl⟩
 simp_all
theorem c6X(x:1≤ks.length)(v:ks.length≤32):∃c e,a8O ks=some (c,e)∧(e=0→c.length=ks.length):=by
 obtain⟨b,o,p⟩:=c5A v;have d:decide (((ks.length:Nat):Int)<1)=false:=decide_eq_false (by omega);have j:decide (((ks.length:Nat):Int) > 32)=false:=decide_eq_false (by omega);unfold a8O;simp[d,j,o];rcases p with rfl|rfl;obtain⟨r,q,c,t,u⟩:=a7M (f:=a6h) (fun i s=>∃c:List Int,s=(c,ks,(ks.length:Int),(i:Int),())∧c.length=i) (fun r=>∃c:List Int,r=(c,())∧c.length=ks.length) ks.length
  (fun i s hi h=>by
   obtain⟨c,rfl,g⟩:=h;have m:wrap .i64 ((i:Int)+1)=((i+1:Nat):Int):=a0B (by omega);have l:decide ((0:Int)≤((i+1:Nat):Int))=true:=by rfl
   have l1:lim (i+1)=true:=a0U (by omega);obtain⟨w,n1,n2⟩:=c5B (c:=c) (a:=ks) (i:=i) (k:=ks[i]) (n:=(ks.length:Int)) g (by omega);have l2:lim (w.length+1)=true:=a0U (by omega);exact⟨_,by simp only[a6h,dlt hi,cT,a0D hi,oB,m,l,tN,l1,a03,n1,l2,a06]<;>rfl,_,rfl,by grind⟩)
  (fun s h=>by
   obtain⟨c,rfl,g⟩:=h;exact⟨_,by simp_all[a6h],c,rfl,g⟩) ks.length 0 _ (by omega) ⟨[],rfl,rfl⟩
 subst t;simp at q;exact⟨c,0,by simp_all,fun _=>u⟩
 grind
theorem c5C{s:Nat}{half:Int}(m:c.length≤32)(d:w≤32):
  ∃out:List Int,y0s a2k (c,(w:Int),(s:Int),half,c,(c.length:Int),(0:Int),([]:List Int),())=some (c,(w:Int),(s:Int),out,()):=by
 obtain⟨b,i,out,l⟩:=b4w (f:=a2k) (fun j st=>∃out:List Int,st=(c,(w:Int),(s:Int),half,c,(c.length:Int),(j:Int),out,())∧out.length=j)
  (fun b=>∃out:List Int,b=(c,(w:Int),(s:Int),out,())) c.length
  (fun j st k h=>by
   obtain⟨out,rfl,e⟩:=h;have a:decide ((s:Int)<0)=false:=decide_eq_false (by omega);have g:lim (out.length+1)=true:=a0U (by omega);cases hf:a1k (A0o .i64 (wrap .i64 (c[j]+half)) (s:Int)) (w:Int)with
   |true=>exact Or.inl ⟨_,by simp only[a2k,dlt k,cT,a0D k,oB,a,cF,a6F d,hf,bT,g,a0B (show j<1000000 by omega),a06]<;>rfl,_,rfl,by grind⟩
   |false=>exact Or.inr ⟨_,by simp only[a2k,dlt k,cT,a0D k,oB,a,cF,a6F d,hf,a36]<;>rfl,out,rfl⟩)
  (fun st h=>by
   obtain⟨out,rfl,e⟩:=h;exact⟨_,by simp_all[a2k],out,rfl⟩) c.length 0 _ (by omega) ⟨[],rfl,rfl⟩
 simp_all
theorem c5D{w:Int}(g:c.length≤32):∃b,y0s a2j (c,w,c,(c.length:Int),(0:Int),())=some b∧(b=.inl (c,w,())∨b=.inr ((0:Int),(1:Int),([]:List Int),())):=
 b4w (f:=a2j) (fun i s=>s=(c,w,c,(c.length:Int),(i:Int),())) (fun b=>b=.inl (c,w,())∨b=.inr ((0:Int),(1:Int),([]:List Int),())) c.length
  (fun i s hi h=>by
   subst h;cases h1:decide (c[i]<(-35184372088832:Int))with
   |true=>exact Or.inr ⟨_,by simp_all[a2j,a0D],Or.inr rfl⟩
   |false=>
    cases h2:decide (c[i] > (35184372088832:Int))with
    |true=>exact Or.inr ⟨_,by simp_all[a2j,a0D],Or.inr rfl⟩
    |false=>exact Or.inl ⟨_,by simp only[a2j,dlt hi,cT,cF,a0D hi,oB,h1,h2,a0B (show i<1000000 by omega)]<;>rfl,rfl⟩)
  (fun s h=>by
   subst h;exact⟨_,by simp_all[a2j],Or.inl rfl⟩) c.length 0 _ (by omega) rfl
theorem c6Y(y:1≤c.length)(m:c.length≤32)(A:2≤w∧w≤16):∃o sh e,a8P (c,(w:Int))=some (o,sh,e)∧(e=0→o.length=c.length):=by
 obtain⟨b,u,v⟩:=c5D (w:=(w:Int)) m;have n:decide (((c.length:Nat):Int)<1)=false:=decide_eq_false (by omega);have p:decide (((c.length:Nat):Int) > 32)=false:=decide_eq_false (by omega);have q:decide ((w:Int)<2)=false:=decide_eq_false (by omega);have t:decide ((w:Int) > 16)=false:=decide_eq_false (by omega);unfold a8P;simp[n,p,q,t,u];rcases v with rfl|rfl
 ·obtain⟨r,z,x⟩:=b4w (f:=a2W) (fun i s=>s=(c,(w:Int),(i:Int),())) (fun r=>r=.inl ()∨∃(sh:Int)(o:List Int),r=.inr (sh,(0:Int),o,())∧o.length=c.length) 15
   (fun i s hi h=>by
    subst h;have a:decide ((i:Int)≤14)=true:=decide_eq_true (by omega);have d:decide ((0:Int)≤((c.length:Nat):Int))=true:=by simp
    have l1:lim c.length=true:=a0U (by omega);have step:∀g:Int,∃o:List Int,y0s a2k (c,(w:Int),(i:Int),g,c,(c.length:Int),(0:Int),([]:List Int),())=some (c,(w:Int),(i:Int),o,()):=fun g=>c5C m (by omega)
    by_cases hp:(i:Int) > 0
    ·have l:wrap .i64 ((i:Int)-1)=(i:Int)-1:=a0C (by omega);have j:decide ((i:Int)-1<0)=false:=decide_eq_false (by omega);obtain⟨o,k⟩:=step (A0n .i64 1 ((i:Int)-1));cases hc:((((o.length:Nat):Int))==((c.length:Nat):Int))with
     |true=>exact Or.inr ⟨_,by simp only[a2W,a,cT,hp,decide_true,l,j,cF,oB,d,tN,l1,a03,k,hc]<;>rfl,Or.inr ⟨_,o,rfl,by grind⟩⟩
     |false=>exact Or.inl ⟨_,by simp only[a2W,a,cT,hp,decide_true,l,j,cF,oB,d,tN,l1,a03,k,hc,a0B (show i<1000000 by omega)]<;>rfl,rfl⟩
    ·obtain⟨o,k⟩:=step 0;cases hc:((((o.length:Nat):Int))==((c.length:Nat):Int))with
     |true=>exact Or.inr ⟨_,by simp only[a2W,a,cT,hp,decide_false,cF,oB,d,tN,l1,a03,k,hc]<;>rfl,Or.inr ⟨_,o,rfl,by grind⟩⟩
     |false=>exact Or.inl ⟨_,by simp only[a2W,a,cT,hp,decide_false,cF,oB,d,tN,l1,a03,k,hc,a0B (show i<1000000 by omega)]<;>rfl,rfl⟩)
   (fun s h=>by
    subst h;have a:decide (((15:Nat):Int)≤14)=false:=by rfl
    exact⟨_,by rfl,Or.inl rfl⟩) 15 0 (c,(w:Int),(0:Int),()) (by rfl) rfl
  rcases x with rfl|⟨sh,o,rfl,k⟩;exact⟨[],0,6,by simp_all,fun h=>absurd h (by simp)⟩;exact⟨o,sh,0,by simp_all,fun _=>k⟩
 grind
theorem c8e(j:l.all a0A=true)(d:l.length≤4096)(k:1≤o)(a:o≤32)(b:2≤w∧w≤16):∃c sh e,a3X (l,(o:Int),(w:Int))=some (c,sh,e)∧(e=0→c.length=o):=by
 obtain⟨ks,g,n⟩:=c4l j d k a;obtain⟨c,e,f,p⟩:=c6X (ks:=ks) (by omega) (by omega);unfold a3X;simp[g,f]
 by_cases he:e=0
 subst he;obtain⟨s,sh,m,q,r⟩:=c6Y (c:=c) (w:=w) (by omega) (by omega) b
 grind
 have i:(e != 0)=true:=by simp_all
 exact⟨[],0,e,by grind,fun h=>absurd h he⟩
theorem c6Z(a:l.length<100000)(c:o≤4):∃v,a9O (l,(o:Int))=some v:=by
 obtain⟨b,g,v,k⟩:=a7M (f:=a4N) (fun i s=>∃v:Int,s=((o:Int),v,l,(l.length:Int),(i:Int),())) (fun b=>∃v:Int,b=(v,())) l.length
  (fun i s hi h=>by
   obtain⟨v,rfl⟩:=h;cases hc:decide (wrap .i64 ((i:Int)+(o:Int))≥4)with
   |true=>exact⟨_,by simp only[a4N,dlt hi,cT,a0D hi,oB,hc,a0B (show i<1000000 by omega)]<;>rfl,_,rfl⟩
   |false=>exact⟨_,by simp only[a4N,dlt hi,cT,cF,a0D hi,oB,hc,a0B (show i<1000000 by omega)]<;>rfl,_,rfl⟩)
  (fun s h=>by
   obtain⟨v,rfl⟩:=h;exact⟨_,by simp_all[a4N],v,rfl⟩) l.length 0 ((o:Int),(0:Int),l,(l.length:Int),(0:Int),()) (by omega) ⟨0,rfl⟩
 simp_all[a9O]
theorem c0W(h:o≤4)(b:l.length<100000)(g:l.all a0A=true):∃r e,a4M (l,(o:Int))=some (r,e)∧r.length≤l.length:=by
 by_cases hn:o≤l.length
 ·rw[b7v h hn (by unfold short;omega) g];cases (a2o o l).all a0A with
  |true=>exact⟨_,_,rfl,by rw[a5Z];omega⟩
  |false=>simp
 have f:decide ((o:Int)<0)=false:=decide_eq_false (by omega);have k:decide ((o:Int) > 4)=false:=decide_eq_false (by omega);have a:decide (((l.length:Nat):Int)<(o:Int))=true:=decide_eq_true (by omega);simp_all[a4M]
theorem c0X(d:l.length<100000)(j:l.all a0A=true):∃o:Nat,a6x l=some (o:Int)∧o≤4:=by
 obtain⟨b,n,o,p,q⟩:=a7M (f:=a3L) (fun i s=>∃(o:Nat)(v:Int),s=(l,(o:Int),v,(i:Int),())∧o≤4) (fun b=>∃o:Nat,b=((o:Int),())∧o≤4) 5
  (fun i s hi h=>by
   obtain⟨o,v,rfl,a⟩:=h;have g:decide ((i:Int)≤4)=true:=decide_eq_true (by omega);obtain⟨r,e,k,m⟩:=c0W (o:=i) (by omega) d j;obtain⟨y,c⟩:=c6Z (l:=r) (o:=i) (by omega) (by omega);cases hc:(e != 0)with
   |true=>exact⟨_,by simp only[a3L,g,cT,k,oB,hc,a0B (show i<1000000 by omega)]<;>rfl,o,v,rfl,a⟩
   |false=>
    cases h4:decide (v<0)with
    |true=>exact⟨_,by simp only[a3L,g,cT,cF,k,oB,hc,c,h4,a0B (show i<1000000 by omega)]<;>rfl,i,y,rfl,by omega⟩
    |false=>
     cases h5:decide (y<v)with
     |true=>exact⟨_,by simp only[a3L,g,cT,cF,k,oB,hc,c,h4,h5,a0B (show i<1000000 by omega)]<;>rfl,i,y,rfl,by omega⟩
     |false=>exact⟨_,by simp only[a3L,g,cT,cF,k,oB,hc,c,h4,h5,a0B (show i<1000000 by omega)]<;>rfl,o,v,rfl,a⟩)
  (fun s h=>by
   obtain⟨o,v,rfl,a⟩:=h;have g:decide (((5:Nat):Int)≤4)=false:=by rfl
   exact⟨_,by rfl,o,rfl,a⟩) 5 0 (l,(0:Int),(-1:Int),(0:Int),()) (by rfl) ⟨0,-1,rfl,by omega⟩
 grind[a6x]
def a9U(g:List Int→Int):List Int→List Int→List Int
 | [],_=>[]
 |x::r,done=>W (x-g done)::a9U g r (done++[x])
theorem b4x(g:List Int→Int):∀r done,(a9U g r done).length=r.length
 | [],_=>rfl
 |x::r,done=>by simp[a9U,b4x g r]
theorem c8f{x g:Int}(h:a0A x=true):W (W (x-g)+g)=x:=by
 have:=b7R h
 simp_all[a8v]
theorem b6z(g:List Int→Int):∀(r done:List Int),r.all a0A=true→a4m g (a9U g r done) done=some (done++r)
 | [],done,_=>by simp[a9U,a4m]
 |x::r,done,h=>by
  rw[a07,bA]at h;simp only[a9U,a4m,c8f h.1,h.1,cT,b6z g r (done++[x]) h.2,aA,a75]
def b2z(g:List Int→Int)(r done:List Int):Option (List Int):=bif (a9U g r done).all a0A then some (a9U g r done)else none
def b4X{β:Type}(g:List Int→Int)(bad:β)(a:List Int×List Int)(x:Int):(List Int×List Int) ⊕ β:=
 bif a0A (W (x-g a.1))then .inl (a.1++[x],a.2++[W (x-g a.1)])else .inr bad
theorem b6A{β:Type}(g:List Int→Int)(f:β)(k:List Int×List Int→β):∀(r done acc:List Int),
  a8t k (a2R (b4X g f) r (done,acc))=match b2z g r done with|some e=>k (done++r,acc++e)|none=>f
 | [],done,acc=>by grind[a2R,a8t,b2z,a9U]
 |x::r,done,acc=>by
  simp[a2R,b4X];cases h:a0A (W (x-g done))with
  |true=>
   simp
   rw[b6A g f k r];simp only[b2z,a9U,a07,h,a39]
   grind
  |false=>simp_all[a8t,b2z,a9U]
theorem c0Y{g:List Int→Int}{done e:List Int}(h:b2z g r done=some e):e=a9U g r done∧e.all a0A=true:=by
 unfold b2z at h
 grind
theorem c2E(h:i<l.length):l.take i++[l[i]]=l.take (i+1):=by simp
theorem b9E{l:List Int}{p:Int→Bool}(h:l.all p=true)(i:Nat):(l.take i).all p=true:=by
 grind
theorem c9s{p:Int→Bool}(h:l.all p=true)(i:Nat):(l.drop i).all p=true:=by
 grind
theorem c2F{σ β:Type}{f:σ→Option (σ ⊕ β)}(l:List Int)(k:Nat)(q:k≤l.length)(S:Nat→List Int→σ)(g:List Int×List Int→Int→(List Int×List Int) ⊕ β)(d:List Int→β)
  (j:∀i (h:i<l.length) c,k≤i→c.length=i-k→(∀a',g (l.take i,c) l[i]=.inl a'→f (S i c)=some (.inl (S (i+1) a'.2))∧a'.1=l.take (i+1)∧a'.2.length=i+1-k)∧(∀b,g (l.take i,c) l[i]=.inr b→f (S i c)=some (.inr b)))
  (e:∀c,c.length=l.length-k→f (S l.length c)=some (.inr (d c))):y0s f (S k [])=some (a8t (fun a=>d a.2) (a2R g (l.drop k) (l.take k,[]))):=by
 have h:=a1H (f:=f) (l.drop k) (fun i a=>S (k+i) a.2) g (fun i a=>a.1=l.take (k+i)∧a.2.length=i) (fun a=>d a.2)
  (fun i hi a n=>by
   obtain⟨a1,c⟩:=a;obtain⟨m,o⟩:=n;simp only at m o;subst m;rw[a52]at hi;have p:k+i<l.length:=by omega
   grind)
  (fun a n=>by
   simp_all) (a:=(l.take k,[])) ⟨by simp,rfl⟩
 omega
def b6B(l c:List Int)(s:Int):Option (List Int):=bif l.all a0A then b2z (b1J c s) (l.drop c.length) (l.take c.length)else none
theorem b6b{s:Int}(v:b0A c s=true)(t:c.length≤l.length)(y:l.length<100000):
  a7v (l,c,s)=some (a5h (b6B l c s)):=by
 have m:short l:=by unfold short;omega
 have k:short c:=by unfold short;omega
 have d:0≤s:=by simp_all[b0A]
 have o:decide (((l.length:Nat):Int)<((c.length:Nat):Int))=false:=by simp_all
 unfold a7v b6B;simp only[a9R k,v,oB,bT,cF,o,a6n m];cases hw:l.all a0A with
 |false=>rfl
 |true=>
  have p:wrap .i64 (((l.length:Nat):Int)-((c.length:Nat):Int))=((l.length-c.length:Nat):Int):=by grind[a0C]
  have x:decide ((0:Int)≤((l.length-c.length:Nat):Int))=true:=by simp
  have q:lim (l.length-c.length)=true:=a0U (by omega);simp[p,q]
  have:=c2F (f:=a4O) l c.length t (fun i h=>(l,c,s,(i:Int),h,())) (b4X (b1J c s) (.inr ((6:Int),([]:List Int),()))) (fun h=>.inl (h,()))
   (fun i hi h u a=>by
    have n:short (l.take i):=by unfold short;grind
    have e:decide ((0:Int)≤(i:Int))=true:=by simp
    have j:decide ((i:Int)≤((l.length:Nat):Int))=true:=by grind
    have r:lim (h.length+1)=true:=a0U (by omega);constructor
    ·intro w g;unfold b4X at g;cases hq:a0A (W (l[i]-b1J c s (l.take i)))with
     |false=>simp_all
     |true=>
      simp only[hq,cT,Sum.inl.injEq]at g;subst g;refine⟨?_,c2E hi,by grind⟩;simp only[a4O,dlt hi,cT,a0D hi,oB,e,j,a03,tN,b6s n k d,a6A,hq,bT,cF,r,a0B (a18 hi m),a06]
    ·intro b hb;unfold b4X at hb;cases hq:a0A (W (l[i]-b1J c s (l.take i)))with
     |true=>simp_all
     |false=>
      simp[hq]at hb;subst hb;simp only[a4O,dlt hi,cT,a0D hi,oB,e,j,a03,tN,b6s n k d,a6A,hq,a36])
   (fun h a=>by simp[a4O])
  rw[this,b6A];cases b2z (b1J c s) (l.drop c.length) (l.take c.length)<;>rfl
theorem b6C{s:Int}(h:b6B l c s=some r):b4n (l.take c.length) r c s=some l∧r.all a0A=true∧r.length=l.length-c.length:=by
 unfold b6B at h;cases hw:l.all a0A with
 |false=>simp_all
 |true=>
  simp[hw]at h;obtain⟨e,g⟩:=c0Y h;refine⟨?_,g,by simp_all[b4x]⟩;simp[b4n,b9E hw,g]
  grind[b6z,List.take_append_drop]
def b6c(l:List Int)(lag:Int)(t:List Int):Option (List Int):=bif l.all a0A then b2z (a9S lag t) l []else none
theorem c4m(o:b2v lag t=true)(c:t.length=3)(r:l.length<100000):
  a9y (l,lag,t)=some (a5h (b6c l lag t)):=by
 have a:short l:=by unfold short;omega
 obtain⟨e,j⟩:2≤lag∧lag≤1024:=by simp_all[b2v]
 unfold a9y b6c;simp only[b5z c,o,oB,bT,cF,b4P a];cases hw:l.all a0A with
 |false=>rfl
 |true=>
  have q:decide ((0:Int)≤((l.length:Nat):Int))=true:=by simp
  have d:lim l.length=true:=a0U (by omega);simp[d]
  have:=c2F (f:=a6y) l 0 (Nat.zero_le _) (fun i h=>(l,lag,l,(l.length:Int),(i:Int),h,t,())) (b4X (a9S lag t) (.inr ((6:Int),([]:List Int),()))) (fun h=>.inl (h,()))
   (fun i hi h n k=>by
    have m:lim (h.length+1)=true:=a0U (by omega);have hp:=b4R (lag:=lag) (t:=t) (a84 hi) a c e j;constructor
    ·intro p g;unfold b4X at g;cases hq:a0A (W (l[i]-a9S lag t (l.take i)))with
     |false=>simp_all
     |true=>
      simp only[hq,cT,Sum.inl.injEq]at g;subst g;refine⟨?_,c2E hi,by simp_all⟩;simp only[a6y,dlt hi,cT,a0D hi,oB,hp,a8u,hq,bT,cF,m,a0B (a18 hi a),a06]
    ·intro b hb;unfold b4X at hb;cases hq:a0A (W (l[i]-a9S lag t (l.take i)))with
     |true=>simp_all
     |false=>
      simp_all[a6y,a0D,a8u])
   (fun h k=>by simp[a6y])
  simp only[nZ]at this;rw[this,b6A,a28,List.take_zero];cases b2z (a9S lag t) l []<;>rfl
theorem b7V(h:b6c l lag t=some r):b4S r lag t=some l∧r.all a0A=true∧r.length=l.length:=by
 unfold b6c at h;cases hw:l.all a0A with
 |false=>simp_all
 |true=>
  simp[hw]at h;obtain⟨e,g⟩:=c0Y h;refine⟨?_,g,by rw[e,b4x]⟩;simp[b4S,g];simp_all[b6z]
def rsG:List Int→Fil→List Int
 | [],_=>[]
 |x::r,f=>W (x-a1j f)::rsG r (b3D f x)
theorem b6D:∀r f,(rsG r f).length=r.length
 | [],_=>rfl
 |x::r,f=>by simp[rsG,b6D r]
def rsO:List Int→List Int→Fil→Option (List Int)
 | [],done,_=>some done
 |x::r,done,f=>bif a0A (W (x-a1j f))then rsO r (done++[W (x-a1j f)]) (b3D f x)else none
theorem c8g:∀(r done:List Int)(f:Fil),rsO r done f=bif (rsG r f).all a0A then some (done++rsG r f)else none
 | [],done,f=>by simp[rsO,rsG]
 |x::r,done,f=>by
  simp[rsO,rsG];cases a0A (W (x-a1j f))with
  |false=>rfl
  |true=>simp_all[c8g]
theorem c5V:∀(r z:List Int)(f:Fil),r.all a0A=true→stO (rsG r f) z f=some (z++r)
 | [],z,f,_=>by simp[rsG,stO]
 |x::r,z,f,h=>by
  rw[a07,bA]at h;have e:W (a1j f+W (x-a1j f))=x:=by grind[c8f]
  simp only[rsG,stO,e,h.1,cT,c5V r _ _ h.2,aA,a75]
theorem b4Y{row:List Int}{a:List Stg}{b c:Int}(j:short row):∀(k i:Nat)(done:List Int)(f:Fil),i+k=row.length→done.length=i→FilOk f→
  y0s a5F (a,b,c,(row.length:Int),(i:Int),done++row.drop i,f,())=some (match rsO (row.drop i) done f with
   |some r=>.inl (a,b,c,r,())
   |none=>.inr ((6:Int),([]:List Int),()))
 |0,i,done,f,h,hd,hf=>by
  obtain rfl:i=row.length:=by omega
  rw[a50,a40];exact a0E (b:=Sum.inl (a,b,c,done,())) (by simp[a5F])
 |k+1,i,done,f,h,hd,hf=>by
  have hi:i<row.length:=by omega
  have l:row.length<1000000:=j;have d:decide ((0:Int)≤(i:Int))=true:=by simp
  have m:(done++row.drop i).length=row.length:=by grind
  have e:decide ((i:Int)<(((done++row.drop i).length:Nat):Int))=true:=by simp_all
  have g:rsO (row.drop i) done f=bif a0A (W (row[i]-a1j f))then rsO (row.drop (i+1)) (done++[W (row[i]-a1j f)]) (b3D f row[i])else none:=by
   rw[a02 hi];rfl
  rw[g];cases hw:a0A (W (row[i]-a1j f))with
  |true=>
   rw[a0F (s':=(a,b,c,(row.length:Int),((i+1:Nat):Int),(done++[W (row[i]-a1j f)])++row.drop (i+1),b3D f row[i],())) (by
    simp only[a5F,dlt hi,d,e,cT,a03,a6C hf,oB,tN,b4T hd hi,a5q,hw,bT,cF,b7q hf,c3W hd hi,a0B (show i<1000000 by omega)])]
   exact b4Y j k (i+1) _ _ (by omega) (by simp_all) (c3V hf _)
  |false=>
   exact a0E (by
    simp only[a5F,dlt hi,d,e,cT,a03,a6C hf,oB,tN,b4T hd hi,a5q,hw,a36];rfl)
def lRO:List Stg→List Int→Option (List Int)
 | [],row=>some row
 |s::r,row=>match rsO row [] (b1K s)with
  |some row'=>lRO r row'
  |none=>none
theorem c4n{f:Fil}(h:rsO row [] f=some d):d=rsG row f∧d.all a0A=true:=by
 rw[c8g]at h
 grind
theorem c2G:∀(a b:List Stg)(row:List Int),lO (a++b) row=match lO a row with|some r=>lO b r|none=>none
 | [],b,row=>rfl
 |s::a,b,row=>by
  simp only[a65,lO];split;exact c2G a b _;rfl
theorem c4o:∀(st:List Stg)(row d:List Int),row.all a0A=true→lRO st row=some d→lO st.reverse d=some row∧d.all a0A=true∧d.length=row.length
 | [],row,d,hw,h=>by
  simp[lRO]at h;subst h;exact⟨rfl,hw,rfl⟩
 |s::st,row,d,hw,h=>by
  simp only[lRO]at h
  split at h
  rename_i g c;obtain⟨e,f⟩:=c4n c;obtain⟨k,a,b⟩:=c4o st g d f h;refine⟨?_,a,by rw[b,e,b6D]⟩;rw[List.reverse_cons,c2G,k];simp only[lO];rw[e,c5V row [] _ hw,a09];cases h
theorem b3n{st:List Stg}(f:∀s∈st,stageB s=true)(l:st.length≤3):∀(j k:Nat)(row:List Int),k+j=st.length→short row→
  y0s a5G (st,(st.length:Int),(k:Int),row,())=some (match lRO (st.drop k) row with
   |some r=>.inl (r,())
   |none=>.inr ((6:Int),([]:List Int),()))
 |0,k,row,h,hs=>by
  obtain rfl:k=st.length:=by omega
  simp_all[a0E,a5G,lRO]
 |j+1,k,row,h,hs=>by
  have d:k<st.length:=by omega
  have g:=f _ (a05 d);have e:=b4Y (a:=st) (b:=(st.length:Int)) (c:=(k:Int)) hs row.length 0 [] (b1K st[k]) (by omega) rfl (c5T g);simp at e;have i:((0:Int) != 0)=false:=rfl;rw[a02 d];simp[lRO];cases hr:rsO row [] (b1K st[k])with
  |some r=>
   rw[hr]at e;rw[a0F (s':=(st,(st.length:Int),((k+1:Nat):Int),r,())) (by simp only[a5G,dlt d,cT,a0D d,oB,b4p g,i,cF,e,a0B (show k<1000000 by omega)])];exact b3n f l j (k+1) r (by omega) (by have:=(c4n hr).1;unfold short at hs⊢;simp_all[b6D])
  |none=>
   simp_all[a0E,a5G,a0D,b4p]
def b3L(l:List Int)(st:List Stg):Option (List Int):=bif l.all a0A then lRO st l else none
theorem c3r(k:a9F st=true)(a:l.length<100000):b1c (l,st)=some (a5h (b3L l st)):=by
 have h:=k;simp only[a9F,bA,dT]at h;have f:short st:=by unfold short;omega
 have g:short l:=by unfold short;omega
 unfold b1c b3L;simp only[b4m f,k,oB,bT,cF,b4l g];cases hw:l.all a0A with
 |false=>rfl
 |true=>
  have:=b3n (lA.1 h.2) h.1 st.length 0 l (by omega) g
  simp at this;simp[a8w g,this];cases lRO st l<;>rfl
theorem c0Z(h:b3L l st=some r):b2K r st=some l∧r.all a0A=true∧r.length=l.length:=by
 unfold b3L at h;cases hw:l.all a0A with
 |false=>simp_all
 |true=>
  simp[hw]at h;obtain⟨f,g,k⟩:=c4o st l r hw h;exact⟨by simp only[b2K,g,cT,f],g,k⟩
theorem p64{w:Nat}(h:w≤64):((2^w:Nat):Int) ∣ 18446744073709551616:=a20.2 (a55 2 h)
theorem d3p(n:Int):∃q,wrap .i64 n=n+18446744073709551616*q:=by
 rw[a8v,Int.bmod];split;exact⟨-(n / 18446744073709551616),by omega⟩;exact⟨-(n / 18446744073709551616)-1,by omega⟩
theorem c9t(h:w≤64)(n:Int):((2^w:Nat):Int) ∣ wrap .i64 n↔((2^w:Nat):Int) ∣ n:=by
 obtain⟨q,g⟩:=d3p n;rw[g]
 grind[a66,a46,p64]
theorem c2H(h:w≤64)(a:Int):2^w ∣ (a04 64 a).toNat↔((2^w:Nat):Int) ∣ a:=by
 have e:(((a04 64 a).toNat:Nat):Int)=a+18446744073709551616*-(a / 18446744073709551616):=by
  rw[a82];omega
 rw[←a20,e]
 grind[a66,a46,p64]
theorem c7a(w x y:Nat):2^w ∣ (x ||| y)↔2^w ∣ x∧2^w ∣ y:=by
 simp_all[Nat.dvd_iff_mod_eq_zero,Nat.or_mod_two_pow]
theorem d3q(h:w≤64)(a b:Int):((2^w:Nat):Int) ∣ bits .i64 .or a b↔((2^w:Nat):Int) ∣ a∧((2^w:Nat):Int) ∣ b:=by
 show((2^w:Nat):Int) ∣ wrap .i64 ((((a04 64 a) ||| (a04 64 b)).toNat:Nat):Int)↔_;rw[c9t h,a20,a72,c7a,c2H h,c2H h]
def orI(l:List Int)(a:Int):Int:=l.foldl (fun a x=>bits .i64 .or a x) a
theorem b6d{w:Nat}(h:w≤64):∀(l:List Int)(a:Int),((2^w:Nat):Int) ∣ orI l a↔((2^w:Nat):Int) ∣ a∧∀x∈l,((2^w:Nat):Int) ∣ x
 | [],a=>by simp[orI]
 |x::l,a=>by
  show((2^w:Nat):Int) ∣ orI l (bits .i64 .or a x)↔_;rw[b6d h l,d3q h];simp_all[and_assoc]
theorem c4p:∀(l:List Int),(∀x∈l,x=0)→orI l 0=0
 | [],_=>rfl
 |x::l,h=>by
  have g:=h x (List.mem_cons_self);subst g;show orI l (bits .i64 .or 0 0)=0;rw[show bits .i64 .or 0 0=0 from by rfl];simp_all[c4p]
theorem d3r(k:l.all a0A=true)(h:∃x∈l,x≠0):orI l 0≠0:=by
 intro e;obtain⟨x,g,f⟩:=h;have b:=((b6d (w:=62) (by omega) l 0).1 (by omega)).2 x g;have a:=a1I.1 (lA.1 k x g);omega
def a9c(l:List Int)(w:Nat):Prop:=
 ((∀x∈l,x=0)∧w=0)∨((∃x∈l,x≠0)∧w≤30∧(∀x∈l,((2^w:Nat):Int) ∣ x)∧(w=30∨∃x∈l,¬ ((2^(w+1):Nat):Int) ∣ x))
theorem c7b{v w:Nat}(h:v≤w){x:Int}(g:((2^w:Nat):Int) ∣ x):((2^v:Nat):Int) ∣ x:=
 Int.dvd_trans (a20.2 (a55 2 h)) g
theorem a9c.unique(hv:a9c l v)(g:a9c l w):v=w:=by
 have key:∀{v w:Nat},v≤30→w≤30→(∀x∈l,((2^w:Nat):Int) ∣ x)→(v=30∨∃x∈l,¬ ((2^(v+1):Nat):Int) ∣ x)→w≤v:=by
  grind[c7b]
 rcases hv with⟨f,hv⟩|⟨⟨x,c,h⟩,hv1,hv2,hv3⟩
 ·rcases g with⟨-,g⟩|⟨⟨x,c,h⟩,-⟩
  all_goals grind
 ·rcases g with⟨f,-⟩|⟨-,k,a,b⟩
  all_goals grind
theorem c4q:∀(n N:Nat),N≤n→0<N→∃k m,N=2^k*(2*m+1)
 |0,N,h,h0=>absurd h0 (by omega)
 |n+1,N,h,h0=>by
  by_cases he:N%2=0
  obtain⟨k,m,e⟩:=c4q n (N / 2) (by omega) (by omega);refine⟨k+1,m,?_⟩;rw[a68,a57 (2^k) 2,Nat.mul_assoc,←e];omega;exact⟨0,N / 2,by omega⟩
theorem d1O{k:Nat}(h:2^k*(2*m+1)<2^64):(2^k*(2*m+1)) &&& (2^64-2^k*(2*m+1))=2^k:=by
 have hp:1≤2^k:=a81;have n:k<64:=by
  refine a96 fun g=>?_
  have d:2^64≤2^k:=a08 (by simp) g
  grind
 have e:2^k*(2*m+1)=(2^k*(2*m)+(2^k-1))+1:=by grind
 have l:2^k*(2*m)+(2^k-1)<2^64:=by omega
 refine Nat.eq_of_testBit_eq fun i=>?_
 have a:(2^64-2^k*(2*m+1)).testBit i=(decide (i<64)&&!(2^k*(2*m)+(2^k-1)).testBit i):=by
  rw[e];exact Nat.testBit_two_pow_sub_succ l i
 have f:=a58 (2*m+1) (b:=0) (i:=k) (by omega) i;rw[a85]at f;have c:=a58 (2*m) (b:=2^k-1) (i:=k) (by omega) i;rw[Nat.testBit_and,a,f,c,Nat.testBit_two_pow]
 by_cases d:i<k
 grind
 by_cases h2:k=i
 simp_all;obtain⟨j,rfl⟩:∃j,i=k+(j+1):=⟨i-k-1,by omega⟩;have o:k+(j+1)-k=j+1:=by omega
 have p:(2*m+1) / 2=m:=by omega
 simp_all[Nat.testBit_succ]
theorem c9u:∀k:Nat,k<64→b1Z[(2^k*285870213051353865)%18446744073709551616 / 288230376151711744]?=some (k:Int):=by
 have h:∀k:Fin 64,b1Z[(2^k.val*285870213051353865)%18446744073709551616 / 288230376151711744]?=some (k.val:Int):=by decide
 exact fun k g=>h ⟨k,g⟩
theorem c5E{k:Nat}:¬ 2^(k+1) ∣ 2^k*(2*m+1):=by
 rintro⟨c,h⟩
 rw[a68,Nat.mul_assoc]at h
 grind[Nat.eq_of_mul_eq_mul_left]
theorem c9v(d:0<N)(h:N<18446744073709551616):∃k:Nat,a1B (N:Int)=some (k:Int)∧2^k ∣ N∧¬ 2^(k+1) ∣ N:=by
 obtain⟨k,m,e⟩:=c4q N N (a27 _) d;have n:2^k≤N:=by grind
 have i:k<64:=by
  refine a96 fun g=>?_
  have l:2^64≤2^k:=a08 (by simp) g;omega
 refine⟨k,?_,⟨_,e⟩,e▸c5E⟩;have hb:bits .u64 .and (N:Int) (wrap .u64 (0-(N:Int)))=((2^k:Nat):Int):=by
  have b:wrap .u64 (0-(N:Int))=((18446744073709551616-N:Nat):Int):=by
   grind[wrap,IntKind.bits,IntKind.signed]
  rw[b];show wrap .u64 (((a04 64 (N:Int)) &&& (a04 64 ((18446744073709551616-N:Nat):Int))).toNat:Int)=_;rw[a24,a24,a94,a29,a29,a23 h,a23 (by omega)]
  have:=d1O (k:=k) (m:=m) (by omega)
  rw[←e]at this;rw[show(18446744073709551616:Nat)=2^64 from rfl,this];exact a0M (by omega)
 have j:((N:Int)==0)=false:=by grind
 unfold a1B;rw[hb,j,cF];have f:wrap .u64 (((2^k:Nat):Int)*285870213051353865)=(((2^k*285870213051353865)%18446744073709551616:Nat):Int):=by
  rfl
 have a:=c9u k i;generalize (2^k*285870213051353865)%18446744073709551616=M at f a;have c:=a6L (N:=M) (o:=58) (by omega);rw[f,show(58:Int)=((58:Nat):Int)from rfl,c,show 2^58=288230376151711744 from rfl];generalize M / 288230376151711744=J at a
 grind[a0D,a0C]
theorem c9w{n:Nat}(g:n≤62)(c:Int):A0o .i64 (((2^n:Nat):Int)*c) (n:Int)=c:=by
 have hp:0<2^n:=a16 n;have e:min (a42 (n:Int)) (IntKind.bits .i64)=n:=by grind[IntKind.bits]
 have h:((2^n:Nat):Int)=2^n:=by simp
 unfold A0o
 grind[a64]
theorem c5W{l:List Int}(g:short l):∀(k i:Nat)(a:Int),i+k=l.length→y0s a5B (a,l,(l.length:Int),(i:Int),())=some (orI (l.drop i) a,())
 |0,i,a,h=>by
  obtain rfl:i=l.length:=by omega
  simp_all[a0E,a5B,orI]
 |k+1,i,a,h=>by
  have hi:i<l.length:=by omega
  have f:l.length<1000000:=g;rw[a02 hi,a0F (s':=(bits .i64 .or a l[i],l,(l.length:Int),((i+1:Nat):Int),())) (by
   simp only[a5B,dlt hi,cT,a0D hi,oB,a0B (show i<1000000 by omega)])]
  exact c5W g k (i+1) _ (by omega)
theorem c5F{l:List Int}{r:Nat}(g:r≤30)(h:r=30∨¬ ((2^(r+1):Nat):Int) ∣ orI l 0):r=30∨∃x∈l,¬ ((2^(r+1):Nat):Int) ∣ x:=by
 grind[b6d,a86]
theorem b9F{l:List Int}(y:short l)(j:l.all a0A=true):∃w:Nat,a3K l=some (w:Int)∧w≤30∧a9c l w:=by
 have a:=c5W y l.length 0 0 (by omega);simp at a;unfold a3K;simp[a]
 by_cases hz:∀x∈l,x=0
 have e:=c4p l hz;exact⟨0,by simp_all,by omega,.inl ⟨hz,rfl⟩⟩
 ·have g:∃x∈l,x≠0:=Classical.byContradiction fun m=>hz fun x g=>Classical.byContradiction fun s=>m ⟨x,g,s⟩;have t:=d3r j g;have n:(orI l 0==0)=false:=by simp_all
  obtain⟨q,u⟩:∃q,wrap .u64 (orI l 0)=orI l 0+18446744073709551616*q:=⟨-(orI l 0 / 18446744073709551616),by
   grind[wrap,IntKind.bits,IntKind.signed]⟩
  obtain⟨B,r2⟩:=b9a (orI l 0);obtain⟨N,d⟩:=a01 B;have b:∀v,v≤64→(2^v ∣ N↔((2^v:Nat):Int) ∣ orI l 0):=fun v hv=>by
   rw[←a20,←d,u]
   grind[a66,a46,p64]
  have h:0<N:=by
   refine Nat.pos_of_ne_zero fun C=>?_
   obtain⟨x,f,A⟩:=g;have E:=((b6d (w:=62) (by omega) l 0).1 ((b 62 (by omega)).1 (by omega))).2 x f;have z:=a1I.1 (lA.1 j x f);omega
  obtain⟨k,p,c,r⟩:=c9v h (by omega);have i:k≤63:=by
   refine Nat.le_of_not_lt fun o=>?_
   have a:2^64≤2^k:=a08 (by simp) (by omega)
   have:=Nat.le_of_dvd h c
   omega
  simp only[n,cF,d,p,oB];have D:v0s (k:Int) 30=((min k 30:Nat):Int):=by rw[b1H];omega
  refine⟨min k 30,by grind,by omega,.inr ⟨g,by omega,?_,?_⟩⟩
  all_goals grind[b6d,Nat.dvd_trans,a55,c5F]
theorem d1P(g:w≤30)(d:l.all a0A=true)(h:a9c l w):b1o (w:Int) l=some (l.map fun x=>A0o .i64 x (w:Int)):=by
 have f:∀x∈l,((2^w:Nat):Int) ∣ x:=by
  rcases h with⟨h,-⟩|⟨-,-,h,-⟩
  all_goals grind[a86]
 have:l.all (b2y (w:Int))=true:=by
  rw[lA];intro x k;obtain⟨c,a⟩:=f x k;have b:a26 x (A0n .i64 1 (w:Int))=0:=by simp_all[c4j]
  simp_all[b2y]
 simp only[b1o,this,cT]
theorem b1O{N n:Nat}(g:n≤63)(h:N<2^n)(L:List Int):(a0P (N:Int) n L).length=L.length+n:=by
 grind[a0P,a6L,a67,b4V]
def a5N(k:Nat)(x:Int):Nat:=if a0R x / 2^k<32 then a0R x / 2^k+1+k else 65
theorem c4r{k:Nat}(h:k≤25)(x:Int):a5N k x≤65:=by
 grind[a5N]
theorem c8h{k:Nat}(a:k≤25)(g:a0A x=true)(L:List Int):(a7f k x L).length=L.length+a5N k x:=by
 unfold a7f a5N;have hp:0<2^k:=a16 k;have h:a0R x%2^k<2^k:=a41 _ hp;have f:=b0B g;split;rw[b1O (by omega) h,b1l];omega
 grind[b1O,b1l]
theorem c1a{k:Nat}(g:k≤25):∀(l L:List Int),l.all a0A=true→(a4R k l L).length=L.length+(l.map (a5N k)).sum
 | [],L,_=>by rfl
 |x::l,L,h=>by
  simp only[a07,bA]at h;have e:a4R k (x::l) L=a4R k l (a7f k x L):=rfl;rw[e,c1a g l _ h.2,c8h g h.1,List.map_cons,a62];omega
theorem c4s{k:Nat}(c:k≤25)(g:a0A x=true):a7L ((k:Int),x)=some ((a5N k x:Nat):Int):=by
 have d:=b0B g;have f:A0o .u64 ((a0R x:Nat):Int) (k:Int)=((a0R x / 2^k:Nat):Int):=a6L (by omega);have a:wrap .i64 ((a0R x / 2^k:Nat):Int)=((a0R x / 2^k:Nat):Int):=b4v (a38 (a32 _ _) d);have h:decide ((k:Int)<0)=false:=by simp
 unfold a7L a5N;simp only[a9o c,b1m,g,oB,bT,cF,b1n g,h,f,a];generalize a0R x / 2^k=q
 by_cases hq:q<32
 have b:decide ((q:Int)<32)=true:=decide_eq_true (by omega);simp only[b,cT,if_pos hq]
 grind[a0C]
 grind
theorem c4t{f:Int→Nat}{M:Nat}(h:∀x,f x≤M):∀l:List Int,(l.map f).sum≤M*l.length
 | []=>by simp
 |x::l=>by
  have:=h x
  have:=c4t h l
  rw[List.map_cons,a62,lC,a92,a93];omega
theorem c4u{f:Int→Nat}{l:List Int}{i:Nat}(h:i<l.length):((l.take (i+1)).map f).sum=((l.take i).map f).sum+f l[i]:=by
 rw[a49 h,pA,List.sum_append];rfl
theorem b9b{k:Nat}(g:k≤25)(c:l.all a0A=true)(d:l.length<10000):a3t ((k:Int),l)=some (((l.map (a5N k)).sum:Nat):Int):=by
 have:=a1E (f:=a3Y) (fun i:Nat=>((k:Int),((((l.take i).map (a5N k)).sum:Nat):Int),l,(l.length:Int),(i:Int),())) l.length (b:=((((l.map (a5N k)).sum:Nat):Int),()))
  (fun i hi=>by
   have a:=c4s g (lA.1 c _ (a05 hi));have h:=c4t (c4r g) (l.take (i+1));rw[c4u hi]at h;rw[a95]at h;have e:wrap .i64 (((((l.take i).map (a5N k)).sum:Nat):Int)+((a5N k l[i]:Nat):Int))=((((l.take (i+1)).map (a5N k)).sum:Nat):Int):=by
    grind[c4u,a0C]
   simp only[a3Y,dlt hi,cT,a0D hi,oB,a,e,a0B (show i<1000000 by omega)])
  (by simp_all[a3Y])
 unfold a3t;simp_all
theorem c9x(x:Int){n:Nat}(f:n≤62):∃N:Nat,a0X x n=(N:Int)∧N<2^n:=by
 obtain⟨h,g⟩:=b9a x;obtain⟨y,k⟩:=a01 h;have hp:0<2^n:=a16 n;refine⟨y%2^n,?_,a41 _ hp⟩
 grind[a0X,c4e]
theorem b4Z{n:Nat}(h:n≤62):∀(l L:List Int),(a1F n l L).length=L.length+n*l.length
 | [],L=>by rfl
 |x::l,L=>by
  have e:a1F n (x::l) L=a1F n l (a0P (a0X x n) n L):=rfl;obtain⟨N,g,f⟩:=c9x x h;rw[e,b4Z h l,g,b1O (by omega) f,lC,a92,a93];omega
theorem d3s{x:Int}(h:a0A x=true):a1k x ((31:Nat):Int)=true:=by
 have:=a1I.1 h
 have g:A0n .i64 (-1) (((31:Nat):Int)-1)=-1073741824:=by rfl
 have f:wrap .i64 (A0n .i64 1 (((31:Nat):Int)-1)-1)=1073741823:=by rfl
 unfold a1k
 grind
theorem c1b{x:Int}(h:a0A x=true):∀(k w:Nat),w+k=32→1≤k→a1L x k w≤31
 |k+1,w,hk,_=>by
  simp[a1L]
  by_cases h31:w=31
  grind[d3s]
  ·cases (x != 0)&&!a1k x w with
   |true=>exact c1b h k (w+1) (by omega) (by omega)
   |false=>grind
theorem b5a:∀(l:List Int)(w:Nat),l.all a0A=true→w≤31→l.foldl (fun w x=>a1L x (32-w) w) w≤31
 | [],w,_,h=>h
 |x::l,w,hl,h=>by
  simp only[a07,bA]at hl;exact b5a l _ hl.2 (c1b hl.1 (32-w) w (by omega) (by omega))
theorem a1W{l:List Int}(h:l.all a0A=true):a0J l≤31:=b5a l 0 h (by omega)
theorem b4y(g:l.length<10000):a5X l=some (((5+a0J l*l.length:Nat)):Int):=by
 have h:=a6K l;have f:a0J l*l.length≤32*l.length:=a25 _ h;unfold a5X;simp only[a2q (show short l by unfold short;omega),oB]
 grind[a0C]
def b2A(k:Int)(part:List Int):Nat:=5+(if k=31 then 5+a0J part*part.length else(part.map (a5N k.toNat)).sum)
def a5O:List Nat→List Int→List Int→Nat
 |z::zs,k::ks,l=>b2A k (l.take z)+a5O zs ks (l.drop z)
 |_,_,_=>0
theorem a3D{q:Nat}(h:q<2147483648):wrap .u64 (q:Int)=(q:Int):=a0M (by omega)
theorem c8i(h:kB k=true)(g:part.all a0A=true)(L:List Int):(a9T k part L).length=L.length+b2A k part:=by
 simp[kB]at h;obtain⟨K,rfl⟩:=a01 (show 0≤k by omega)
 grind[b1O,a1W,a9T,b2A,a3D,b4Z,c1a]
theorem c1c:∀(zs:List Nat)(ks l L:List Int),ks.all kB=true→l.all a0A=true→(a4S zs ks l L).length=L.length+a5O zs ks l
 |z::zs,k::ks,l,L,h,hw=>by
  simp only[a07,bA]at h;have g:(l.take z).all a0A=true:=lA.2 fun x a=>lA.1 hw x (a34 a);have f:(l.drop z).all a0A=true:=lA.2 fun x a=>lA.1 hw x (a35 a);simp only[a4S,a5O];rw[c1c zs ks _ _ h.2 f,c8i h.1 g];omega
 | [],_,_,_,_,_=>by rfl
 |_::_,[],_,_,_,_=>by rfl
theorem c9y(h:kB k=true)(part:List Int):b2A k part≤10+65*part.length:=by
 simp[kB]at h;unfold b2A;split;have g:a0J part*part.length≤32*part.length:=a25 _ (a6K part);omega
 have:=c4t (c4r (k:=k.toNat) (by omega)) part
 omega
theorem b4z{zn:List Nat}{p:Prt}(E:p.2.1.length=zn.length)(a:p.2.1.all kB=true)(F:zn.length≤256):∀(j i:Nat)(l:List Int)(c:Nat),i+j=zn.length→(zn.drop i).sum=l.length→l.all a0A=true→l.length≤5000→c+10*j+65*l.length<1000000→
  y0s a1v (l,(c:Int),(zn.length:Int),(i:Int),a1p zn,p,())=some (((c+a5O (zn.drop i) (p.2.1.drop i) l:Nat):Int),())
 |0,i,l,c,hi,_,_,_,_=>by
  obtain rfl:i=zn.length:=by omega
  grind[a0E,a1v,a5O]
 |j+1,i,l,c,hi,hsum,hw,hl5,hb=>by
  have h:i<zn.length:=by omega
  have f:i<p.2.1.length:=by omega
  have o:=lA.1 a _ (a05 f);rw[b6v h]at hsum;have z:decide ((0:Int)≤(i:Int))=true:=by simp
  have A:decide ((i:Int)<(((a1p zn).length:Nat):Int))=true:=by simp_all[a1w]
  have B:decide ((0:Int)≤((zn[i]:Nat):Int))=true:=by simp
  have C:decide (((zn[i]:Nat):Int)≤((l.length:Nat):Int))=true:=by grind
  have d:(l.take zn[i]).length=zn[i]:=by simp_all
  have e:(l.drop zn[i]).length=(zn.drop (i+1)).sum:=by grind
  have v:(l.take zn[i]).all a0A=true:=lA.2 fun x y=>lA.1 hw x (a34 y);have w:(l.drop zn[i]).all a0A=true:=lA.2 fun x y=>lA.1 hw x (a35 y);have g:=c9y o (l.take zn[i]);rw[d]at g;have n:a1v (l,(c:Int),(zn.length:Int),(i:Int),a1p zn,p,())=some (.inl (l.drop zn[i],((c+b2A p.2.1[i] (l.take zn[i]):Nat):Int),(zn.length:Int),((i+1:Nat):Int),a1p zn,p,())):=by
   by_cases h31:p.2.1[i]=31
   have b:(p.2.1[i]==31)=true:=by simp_all
   have m:=b4y (l:=l.take zn[i]) (by omega);have u:b2A p.2.1[i] (l.take zn[i])=5+(5+a0J (l.take zn[i])*(l.take zn[i]).length):=by simp_all[b2A]
   rw[u]at g⊢;generalize 5+a0J (l.take zn[i])*(l.take zn[i]).length=r at m g⊢;have s:wrap .i64 (5+(r:Int))=5+(r:Int):=a0C (by omega);have t:wrap .i64 ((c:Int)+(5+(r:Int)))=((c+(5+r):Nat):Int):=by grind[a0C]
   simp only[a1v,dlt h,z,A,a8y h,B,C,cT,a03,tN,a0D f,oB,b,m,s,t,a19,a0B (show i<1000000 by omega)];have b:(p.2.1[i]==31)=false:=by simp_all
   have q:=o;simp[kB]at q;obtain⟨K,D⟩:=a01 (show 0≤p.2.1[i]by omega);have m:=b9b (k:=K) (by omega) v (by omega);have u:b2A p.2.1[i] (l.take zn[i])=5+((l.take zn[i]).map (a5N K)).sum:=by simp_all[b2A]
   rw[←D]at m;rw[u]at g⊢;generalize ((l.take zn[i]).map (a5N K)).sum=r at m g⊢;have s:wrap .i64 (5+(r:Int))=5+(r:Int):=a0C (by omega);have t:wrap .i64 ((c:Int)+(5+(r:Int)))=((c+(5+r):Nat):Int):=by grind[a0C]
   simp only[a1v,dlt h,z,A,a8y h,B,C,cT,cF,a03,tN,a0D f,oB,b,m,s,t,a19,a0B (show i<1000000 by omega)]
  rw[a0F n,b4z E a F j (i+1) (l.drop zn[i]) _ (by omega) e.symm w (by omega) (by omega)];rw[a02 h,a02 f]
  grind[a5O]
theorem c3s(h:PartsOk p n warm l zn):a4P (p,n,warm,l)=some ((4+a5O zn p.2.1 l:Nat):Int):=by
 have f:Go.Ab.short p.2.1:=by have:=h.ks;have:=h.len;unfold Go.Ab.short;omega
 have k:=h.short;have a:=h.len;have g:=b4z h.ks h.all h.len zn.length 0 l 4 (by omega) (by rw[a28];exact h.sum) h.wide h.short (by omega);simp only[nZ,a30,a28]at g;unfold a4P;simp only[b4r f,h.may,b1M h.row h.rest h.wide h.short,oB,bT,cF,a2b,h.sizes,a1w,g]
theorem c3t(h:PartsOk p n warm l zn)(L:List Int):(a4u p zn l L).length=L.length+(4+a5O zn p.2.1 l):=by
 obtain⟨o,g⟩:=a01 h.order.1;have f:=h.order.2;unfold a4u;rw[c1c _ _ _ _ h.all h.wide,g,a3D (by omega),b1O (by omega) (by omega)];omega
def a2c(o:Int):Sub:=((0:Int),(0:Int),o,(0:Int),(0:Int),([]:List Int),a00 3 (0:Int),([]:List Stg),([]:List Int),((0:Int),([]:List Int),()),([]:List Int),())
theorem c5G(o:Int):SmallS (a2c o):=⟨by simp[a2c],by rfl,by simp[a2c],by simp[a2c],by simp[a2c],by simp[a2c]⟩
def b7W(k:Nat)(l:List Int):Nat:=(l.map (a5N k)).sum
def rbN(l:List Int):Nat→Nat
 |0=>0
 |i+1=>if b7W (i+1) l<b7W (rbN l i) l then i+1 else rbN l i
theorem c4v(l:List Int):∀i,rbN l i≤i
 |0=>a27 _
 |i+1=>by
  have:=c4v l i
  simp only[rbN]
  split<;>omega
theorem b6E{k:Nat}(h:k≤25)(f:l.all a0A=true)(g:l.length<10000):a3t ((k:Int),l)=some ((b7W k l:Nat):Int):=b9b h f g
theorem d3t(h:a<b):decide ((a:Int)<(b:Int))=true:=decide_eq_true (by omega)
theorem c7c(h:¬ a<b):decide ((a:Int)<(b:Int))=false:=decide_eq_false (by omega)
theorem b7X(g:l.all a0A=true)(h:l.length<10000):b2p l=some ((rbN l 25:Nat):Int):=by
 have:=a1E (f:=a8Q) (fun i:Nat=>(l,((rbN l i:Nat):Int),((b7W (rbN l i) l:Nat):Int),((i+1:Nat):Int),())) 25 (b:=(((rbN l 25:Nat):Int),()))
  (fun i hi=>by
   have a:decide (((i+1:Nat):Int)≤25)=true:=decide_eq_true (by omega);have d:wrap .i64 (((i+1:Nat):Int)+1)=((i+1+1:Nat):Int):=a0B (by omega);have c:=b6E (k:=i+1) (by omega) g h
   by_cases hlt:b7W (i+1) l<b7W (rbN l i) l
   simp_all[a8Q,rbN];simp only[a8Q,a,cT,cF,c,oB,d,c7c hlt,rbN,hlt,if_false])
  (by
   rfl)
 have m:=b6E (k:=0) (by omega) g h;have j:((0+1:Nat):Int)=1:=rfl;have e:rbN l 0=0:=rfl;simp_all[b2p]
def b3M(l:List Int):Int:=if 5+a0J l*l.length<b7W (rbN l 25) l then 31 else((rbN l 25:Nat):Int)
theorem c7d(l:List Int):kB (b3M l)=true:=by
 have:=c4v l 25
 unfold b3M;split;rfl;simp only[kB,a99,bA,dT];omega
theorem c1d(g:l.all a0A=true)(h:l.length<10000):a8R l=some (b3M l):=by
 have a:=c4v l 25;have f:=b6E (k:=rbN l 25) a g h;unfold a8R b3M
 by_cases hlt:5+a0J l*l.length<b7W (rbN l 25) l
 simp only[b7X g h,b4y h,f,oB,d3t hlt,cT,hlt,if_true];simp only[b7X g h,b4y h,f,oB,c7c hlt,cF,hlt,if_false]
def a2J:List Nat→List Int→List Int
 | [],_=>[]
 |z::zs,l=>b3M (l.take z)::a2J zs (l.drop z)
theorem b6e:∀zs l,(a2J zs l).length=zs.length
 | [],_=>rfl
 |z::zs,l=>by simp[a2J,b6e zs]
theorem c1e:∀zs l,(a2J zs l).all kB=true
 | [],_=>rfl
 |z::zs,l=>by simp[a2J,c1e zs,c7d]
theorem b7x{zn:List Nat}{n warm most least order:Int}{L:List Int}{a b:Prt}(m:zn.length≤256):∀(j i:Nat)(rest ks:List Int),i+j=zn.length→(zn.drop i).sum=rest.length→rest.all a0A=true→rest.length≤5000→ks.length=i→
  y0s a8d (n,warm,most,L,least,order,rest,((zn.length:Nat):Int),(i:Int),a1p zn,a,b,(order,ks,()),())=some (n,warm,most,L,least,order,a,b,(order,ks++a2J (zn.drop i) rest,()),())
 |0,i,rest,ks,h,_,_,_,_=>by
  obtain rfl:i=zn.length:=by omega
  simp_all[a0E,a8d,a2J]
 |j+1,i,rest,ks,h,hr,hwr,hr5,hki=>by
  have g:i<zn.length:=by omega
  rw[b6v g]at hr;have k:decide ((0:Int)≤(i:Int))=true:=by simp
  have c:decide ((i:Int)<(((a1p zn).length:Nat):Int))=true:=by simp_all[a1w]
  have d:decide ((0:Int)≤((zn[i]:Nat):Int))=true:=by simp
  have e:decide (((zn[i]:Nat):Int)≤((rest.length:Nat):Int))=true:=by grind
  have l:=c1d (b9E hwr zn[i]) (by grind);have f:lim (ks.length+1)=true:=a0U (by omega);rw[a02 g,a0F (s':=(n,warm,most,L,least,order,rest.drop zn[i],((zn.length:Nat):Int),((i+1:Nat):Int),a1p zn,a,b,(order,ks++[b3M (rest.take zn[i])],()),())) (by
   simp only[a8d,dlt g,k,c,a8y g,d,e,cT,a03,tN,l,oB,f,a19,a0B (show i<1000000 by omega),a06])]
  rw[b7x m j (i+1) _ _ (by omega) (by grind) (c9s hwr _) (by grind) (by simp_all)];simp_all[a2J]
def zsN(o n warm:Int):List Nat:=(a1K o n warm).map a42
def b3F(o n warm:Int)(l:List Int):Prt:=(o,a2J (zsN o n warm) l,())
def c1f(o n warm:Int)(l:List Int):Nat:=4+a5O (zsN o n warm) (a2J (zsN o n warm) l) l
def a1C(n warm:Int)(l:List Int):Nat→Prt×Nat
 |0=>((0,[],()),0)
 |i+1=>if(a1K (i:Int) n warm).length=0 then a1C n warm l i else
   if(a1C n warm l i).2=0∨c1f (i:Int) n warm l<(a1C n warm l i).2 then(b3F (i:Int) n warm l,c1f (i:Int) n warm l)else a1C n warm l i
def b8s(n warm:Int)(l:List Int):Prt:=(a1C n warm l 7).1
theorem c5X(b:(a1K (o:Int) n warm).length≠0)(a:(l.length:Int)=n-warm)(c:l.all a0A=true)(k:l.length≤5000):
  ∃h,a1K (o:Int) n warm=a1p h∧zsN (o:Int) n warm=h∧h.length≤256∧h.sum=l.length∧a5M (b3F (o:Int) n warm l) n warm=true∧PartsOk (b3F (o:Int) n warm l) n warm l h:=by
 obtain⟨h,e,i,j⟩:=b5C b;have d:zsN (o:Int) n warm=h:=by simp_all[zsN,b5D]
 have hp:a5M (b3F (o:Int) n warm l) n warm=true:=by
  simp only[a5M,b3F,bA,a33,beq_eq_false_iff_ne,ne_eq,beq_iff_eq];simp_all[a1w,b6e,c1e]
 obtain⟨f,g⟩:=PartsOk.of hp a c k
 have:f=h:=by
  have m:=g.sizes
  grind[b3F,b5D]
 grind
theorem b6F{n warm:Int}{l:List Int}(b:a6D n warm=true)(f:(l.length:Int)=n-warm)(a:l.all a0A=true)(g:l.length≤5000):∀i,1≤i→(a1C n warm l i).2≠0∧a5M (a1C n warm l i).1 n warm=true
 |0,h=>absurd h (by omega)
 |i+1,_=>by
  by_cases hs:(a1K (i:Int) n warm).length=0
  ·simp only[a1C,hs,if_true];cases i with
   |zero=>grind[c6V]
   |succ i=>exact b6F b f a g (i+1) (by omega)
  ·obtain⟨c,-,-,-,-,hp,-⟩:=c5X hs f a g;simp only[a1C,hs,if_false];split;simp_all[c1f]
   ·rename_i k;cases i with
    |zero=>exact absurd (Or.inl rfl) k
    |succ i=>exact b6F b f a g (i+1) (by omega)
theorem c9z(f:a6D n warm=true)(g:(l.length:Int)=n-warm)(k:l.all a0A=true)(h:l.length≤5000):a5M (b8s n warm l) n warm=true:=
 (b6F f g k h 7 (by omega)).2
theorem c3u(z:a6D n warm=true)(x:(l.length:Int)=n-warm)(t:l.all a0A=true)(s:l.length≤5000):
  b1d (n,warm,(6:Int),l)=some (b8s n warm l,0):=by
 have:=a1E (f:=a3M) (fun i:Nat=>(n,warm,(6:Int),l,(((a1C n warm l i).2:Nat):Int),(i:Int),((0:Int),([]:List Int),()),(a1C n warm l i).1,())) 7 (b:=(((0:Int),([]:List Int),()),b8s n warm l,()))
  (fun i hi=>by
   have j:decide ((i:Int)≤v0s (v0r 6 0) 8)=true:=decide_eq_true (by have:v0s (v0r 6 0) 8=6:=rfl;omega);have r:wrap .i64 ((i:Int)+1)=((i+1:Nat):Int):=a0B (by omega)
   by_cases hs:(a1K (i:Int) n warm).length=0
   simp_all[a1C,a3M,a2b];have hb:((((a1K (i:Int) n warm).length:Nat):Int)==0)=false:=by simp_all
   obtain⟨h,p,o,w,y,-,q⟩:=c5X hs x t s;have d:=b7x (n:=n) (warm:=warm) (most:=6) (least:=(((a1C n warm l i).2:Nat):Int)) (order:=(i:Int)) (L:=l) (a:=((0:Int),([]:List Int),())) (b:=(a1C n warm l i).1) w h.length 0 l [] (by omega) (by simp_all) t s rfl;simp at d;have e:=c3s q;simp only[b3F,o]at e;have k:(((h.length:Nat):Int)==0)=false:=by simp_all[a1w]
   have m:(((a1p h).length:Nat):Int)=((h.length:Nat):Int):=by rw[a1w]
   have v:b3F (i:Int) n warm l=((i:Int),a2J h l,()):=by simp only[b3F,o]
   have u:c1f (i:Int) n warm l=4+a5O h (a2J h l) l:=by simp only[c1f,o]
   by_cases hz:(a1C n warm l i).2=0
   have g:((((a1C n warm l i).2:Nat):Int)==0)=true:=by simp_all
   have c:a1C n warm l (i+1)=(((i:Int),a2J h l,()),4+a5O h (a2J h l) l):=by simp_all[a1C]
   simp only[a3M,j,cT,a2b,oB,p,m,k,cF,d,e,r,c,g];have g:((((a1C n warm l i).2:Nat):Int)==0)=false:=by simp_all
   by_cases hlt:4+a5O h (a2J h l) l<(a1C n warm l i).2
   have c:a1C n warm l (i+1)=(((i:Int),a2J h l,()),4+a5O h (a2J h l) l):=by simp_all[a1C]
   simp only[a3M,j,cT,a2b,oB,p,m,k,cF,d,e,r,c,g,d3t hlt];have c:a1C n warm l (i+1)=a1C n warm l i:=by simp only[a1C,hs,if_false,hz,false_or,v,u,hlt]
   simp only[a3M,j,cT,a2b,oB,p,m,k,cF,d,e,r,c,g,c7c hlt])
  (by
   rfl)
 simp_all[a1C,b1d,b1M]
def a1a(k:Int)(s:Sub):Sub:=
 (k,(0:Int),(if k=2 then s.2.2.1 else 0),(if k=3∨k=4 then s.2.2.2.1 else 0),(if k=4 then s.2.2.2.2.1 else 0),(if k=3∨k=4 then s.2.2.2.2.2.1 else[]),
  ((if k=4 then s.2.2.2.2.2.2.1 else a00 3 (0:Int)),(if k=5 then s.2.2.2.2.2.2.2.1 else[]),([]:List Int),((0:Int),([]:List Int),()),([]:List Int),()))
def z0:Prt:=((0:Int),([]:List Int),())
def a1M(s:Sub)(w:Nat)(wm:List Int)(p:Prt)(r:List Int):Sub:=
 (s.1,(w:Int),s.2.2.1,s.2.2.2.1,s.2.2.2.2.1,s.2.2.2.2.2.1,s.2.2.2.2.2.2.1,s.2.2.2.2.2.2.2.1,wm,p,r,())
theorem c8j(h:SmallS s)(k:Int):a6q (k,s)=some (a1a k s):=by
 have f:short s.2.2.2.2.2.1:=by have:=h.coefs;unfold short;omega
 have g:short s.2.2.2.2.2.2.2.1:=by have:=h.stages;unfold short;omega
 grind[a6q,a1a,b3E,b8X]
theorem c4w(h:SmallS s)(k:Int):SmallS (a1a k s):=by
 have g:=h.coefs;have f:=h.taps;have a:=h.stages;refine⟨?_,?_,?_,by simp[a1a],by simp[a1a],by simp[a1a]⟩<;>simp only[a1a]<;>split<;>first|omega|simp
theorem c7e:a3Z (a1a k s).1 (a1a k s) n↔a3Z k s n:=by
 unfold a3Z a1a
 grind
open Classical in
def a3c (l:List Int):Nat:=if h:∃w,a9c l w then h.choose else 0
theorem d1Q{l:List Int}{w:Nat}(h:a9c l w):a3c l=w:=by
 unfold a3c;rw[dif_pos ⟨w,h⟩];exact(Classical.choose_spec (⟨w,h⟩:∃w,a9c l w)).unique h
def a1l(l:List Int):List Int:=l.map fun x=>A0o .i64 x (a3c l:Int)
theorem a9G(h:short l)(g:l.all a0A=true):a3K l=some ((a3c l:Nat):Int)∧a3c l≤30∧a9c l (a3c l):=by
 grind[b9F,d1Q]
theorem a7g(a:l.length≤4096)(f:l.all a0A=true):b1o ((a3c l:Nat):Int) l=some (a1l l)∧(a1l l).all a0A=true∧(a1l l).length=l.length∧upO ((a3c l:Nat):Int) (a1l l)=some l:=by
 obtain⟨-,g,k⟩:=a9G (show short l by unfold short;omega) f;have h:=d1P g f k;exact⟨h,d1N g h⟩
def a5P(k:Int)(s:Sub)(d:List Int):Option (List Int×List Int):=
 if k=2 then(bif (a2o s.2.2.1.toNat d).all a0A then some (d.take s.2.2.1.toNat,a2o s.2.2.1.toNat d)else none)
 else if k=3 then(b6B d s.2.2.2.2.2.1 s.2.2.2.1).map fun r=>(d.take s.2.2.2.2.2.1.length,r)
 else if k=4 then(b6c d s.2.2.2.2.1 s.2.2.2.2.2.2.1).bind fun x=>(b6B x s.2.2.2.2.2.1 s.2.2.2.1).map fun r=>(x.take s.2.2.2.2.2.1.length,r)
 else(b3L d s.2.2.2.2.2.2.2.1).map fun r=>([],r)
theorem c4x(j:k=2∨k=3∨k=4∨k=5)(i:a3Z k s (d.length:Int))(n:d.all a0A=true)(h:a5P k s d=some (wm,r)):
  wm.length≤d.length∧r.length=d.length-wm.length∧r.all a0A=true∧wm.all a0A=true:=by
 have f:=i;simp only[a3Z]at f;rcases j with rfl|rfl|rfl|rfl
 ·have:0≤s.2.2.1∧s.2.2.1≤(d.length:Int):=by omega
  simp[a5P]at h;cases hq:(a2o s.2.2.1.toNat d).all a0A with
  |false=>simp_all
  |true=>
   simp[hq]at h;obtain⟨rfl,rfl⟩:=h;simp_all[a5Z,b9E]
 have:(s.2.2.2.2.2.1.length:Int)≤(d.length:Int):=by omega
 simp only[a5P,show ¬ (3:Int)=2 by simp,if_false,if_true,a21,pJ]at h;obtain⟨c,g,rfl,rfl⟩:=h;obtain⟨-,a,b⟩:=b6C g
 grind
 have:(s.2.2.2.2.2.1.length:Int)≤(d.length:Int):=by omega
 simp only[a5P,show ¬ (4:Int)=2 by simp,show ¬ (4:Int)=3 by simp,if_false,if_true,a44,a21,pJ]at h;obtain⟨x,e,c,g,rfl,rfl⟩:=h;obtain⟨-,l,m⟩:=b7V e;obtain⟨-,a,b⟩:=b6C g
 grind
 simp only[a5P,show ¬ (5:Int)=2 by simp,show ¬ (5:Int)=3 by simp,show ¬ (5:Int)=4 by simp,if_false,a21,pJ]at h;obtain⟨c,g,rfl,rfl⟩:=h;obtain⟨-,a,b⟩:=c0Z g;simp_all
theorem c9A(v:k=2∨k=3∨k=4∨k=5)(h:SmallS s)(q:a3Z k s (d.length:Int))(D:d.length≤4096)(y:d.all a0A=true)(w:Nat):
  b2n (a1M (a1a k s) w [] z0 [],d)=some (match a5P k s d with|none=>(6,a1M (a1a k s) w [] z0 [])|some (wm,r)=>(0,a1M (a1a k s) w wm z0 r)):=by
 have l:=h.taps;have g:=h.stages;have i:short d:=by unfold short;omega
 obtain⟨k',w',o,sh,lag,c,t,st,z,p,E,u⟩:=s;simp only[a3Z]at q l g;unfold b2n;rcases v with rfl|rfl|rfl|rfl;obtain⟨n,C,e⟩:0≤o∧o≤4∧o≤(d.length:Int):=by omega
 obtain⟨O,rfl⟩:=a01 n;have g:short (d.take O):=by unfold short;grind
 have j:decide ((O:Int)≤((d.length:Nat):Int))=true:=by simp_all
 simp only[a1M,a1a,a5P,if_true,show((2:Int)==2)=true from rfl,cT,b7v (show O≤4 by omega) (show O≤d.length by omega) i y,oB,tN]
 grind[b2L,a2p,a8w]
 ·obtain⟨f,e⟩:b0A c sh=true∧(c.length:Int)≤(d.length:Int):=by simp_all
  have g:short (d.take c.length):=by unfold short;grind
  have m:decide ((0:Int)≤((c.length:Nat):Int))=true:=by simp
  have j:decide (((c.length:Nat):Int)≤((d.length:Nat):Int))=true:=by simp_all
  simp only[a1M,a1a,a5P,show((3:Int)==2)=false from rfl,show((3:Int)==3)=true from rfl,show ¬ (3:Int)=2 by simp,show ¬ (3:Int)=4 by simp,show ¬ (3:Int)=5 by simp,true_or,if_true,if_false,cT,cF,b6b f (show c.length≤d.length by omega) (show d.length<100000 by omega),oB];cases b6B d c sh with
  |none=>rfl
  |some r=>simp_all[a5h,b2L,a2p,a8w]
 ·obtain⟨f,e,a⟩:b0A c sh=true∧(c.length:Int)≤(d.length:Int)∧b2v lag t=true:=by simp_all
  simp[a1M,a1a,a5P,c4m a l (show d.length<100000 by omega)];cases hx:b6c d lag t with
  |none=>rfl
  |some x=>
   obtain⟨-,A,B⟩:=b7V hx;have g:short (x.take c.length):=by unfold short;grind
   have m:decide ((0:Int)≤((c.length:Nat):Int))=true:=by simp
   have j:decide (((c.length:Nat):Int)≤((x.length:Nat):Int))=true:=by simp_all
   simp[a5h,b6b f (show c.length≤x.length by omega) (show x.length<100000 by omega)]
   grind[b2L,a2p,a8w]
 ·obtain⟨e,b⟩:0<st.length∧a9F st=true:=by simp_all
  have g:short (d.take 0):=by simp[short]
  simp only[a1M,a1a,a5P,show((5:Int)==2)=false from rfl,show((5:Int)==3)=false from rfl,show((5:Int)==4)=false from rfl,show((5:Int)==5)=true from rfl,show ¬ (5:Int)=2 by simp,show ¬ (5:Int)=3 by simp,show ¬ (5:Int)=4 by simp,or_self,if_true,if_false,cT,cF,c3r b (show d.length<100000 by omega),oB];cases b3L d st with
  |none=>rfl
  |some r=>
   rfl
open Classical in

def a1q (k:Int) (l:List Int) (s:Sub):Sub×Int:=
 if ¬ (1≤l.length∧l.length≤4096∧a3Z k s (l.length:Int))then(a2c 0,1)
 else if l.all a0A=false then(a2c 0,6)
 else if k=0 then(bif l.all (fun x=>x==l.headD 0)then(a1M (a1a 0 s) 0 [l.headD 0] z0 [],0)else(a2c 0,7))
 else if k=1 then(a1M (a1a 1 s) (a3c l) (a1l l) z0 [],0)
 else match a5P k s (a1l l)with
  |none=>(a2c 0,6)
  |some (wm,r)=>(a1M (a1a k s) (a3c l) wm (b8s (l.length:Int) (wm.length:Int) r) r,0)
theorem c7f(h:1≤l.length):m0k l 0=some (l.headD 0):=by
 cases l with
 |nil=>grind
 |cons a l=>rfl
theorem c4y(k:1≤l.length)(c:short l)(a b:Sub):
  y0s a5o (l,l,(l.length:Int),(0:Int),a,b,())=some (bif l.all (fun x=>x==l.headD 0)then .inl (l,a,b,())else .inr ((7:Int),a2c 0,())):=by
 have:=a1S (f:=a5o) l (fun i=>(l,l,(l.length:Int),(i:Int),a,b,())) (fun x=>x==l.headD 0) (bt:=Sum.inl (l,a,b,())) (bf:=Sum.inr ((7:Int),a2c 0,()))
  (fun i h hp=>by
   have g:(l[i] != l.headD 0)=false:=by simp_all
   simp only[a5o,dlt h,cT,a0D h,oB,c7f k,g,cF,a0B (a18 h c)])
  (fun i h hp=>by
   have g:(l[i] != l.headD 0)=true:=by simp_all
   simp only[a5o,dlt h,cT,a0D h,oB,c7f k,g];rfl)
  (by simp[a5o])
 omega
theorem b9c(h:a3Z k s n)(g:k≠0)(f:k≠1):k=2∨k=3∨k=4∨k=5:=by
 rcases h with h|h|⟨h,-⟩|⟨h,-⟩|⟨h,-⟩|⟨h,-⟩;omega;omega
 all_goals omega
theorem d1R(h:SmallS s)(k:Int)(D:l.length≤100000):b3v (k,l,s)=some (a1q k l s):=by
 have j:short l:=by unfold short;omega
 unfold b3v a1q
 by_cases h1:1≤l.length
 rotate_left;have e:decide (((l.length:Nat):Int)<1)=true:=decide_eq_true (by omega);rw[if_pos (fun g=>h1 g.1)];simp only[e,cT,oB];rfl;have a:decide (((l.length:Nat):Int)<1)=false:=decide_eq_false (by omega)
 by_cases h2:l.length≤4096
 rotate_left;have e:decide (((l.length:Nat):Int) > 4096)=true:=decide_eq_true (by omega);rw[if_pos (fun g=>h2 g.2.1)];simp only[a,e,cT,cF,oB];rfl;have o:decide (((l.length:Nat):Int) > 4096)=false:=decide_eq_false (by omega)
 by_cases h3:a3Z k s (l.length:Int)
 rotate_left;have b:b4t k s (l.length:Int)=false:=by simp[b4t,h3]
 rw[if_pos (fun g=>h3 g.2.2)];simp only[a,o,b5V h,b,cF,a36,cT,oB];rfl;have b:b4t k s (l.length:Int)=true:=by simp[b4t,h3]
 rw[if_neg (fun g=>g ⟨h1,h2,h3⟩)];simp only[a,o,b5V h,b,cF,bT,oB,a4E j];cases hw:l.all a0A with
 |false=>rfl
 |true=>
  simp only[bT,cF,c8j h,oB];rw[if_neg (by simp)]
  by_cases h0:k=0
  ·subst h0;have w:=c4y h1 j (a2c 0) (a1a 0 s);have v:a2c 0=((0:Int),(0:Int),(0:Int),(0:Int),(0:Int),([]:(List Int)),a00 3 (0:Int),([]:(List (Int×Int×Unit))),([]:(List Int)),((0:Int),([]:(List Int)),()),([]:(List Int)),()):=rfl;rw[←v,if_pos rfl];simp only[show((0:Int)==0)=true from rfl,cT,w,oB];cases l.all (fun x=>x==l.headD 0)with
   |false=>rfl
   |true=>simp only[cT,c7f h1,oB];rfl
  ·obtain⟨z,A,-⟩:=a9G j hw;obtain⟨t,n,C,-⟩:=a7g h2 hw;have c:(k==0)=false:=by grind
   rw[if_neg h0];simp only[c,cF,z,oB,b6a A (show l.length<100000 by omega),t,a5h,show((0:Int) != 0)=false from rfl]
   by_cases hk1:k=1
   subst hk1;rfl
   ·have i:(k==1)=false:=by simp_all
    have p:=b9c h3 h0 hk1;rw[if_neg hk1];have m:=c9A p h (d:=a1l l) (by simp_all) (by omega) n (a3c l);have u:((a1a k s).1,((a3c l:Nat):Int),(a1a k s).2.2)=a1M (a1a k s) (a3c l) [] z0 []:=rfl;simp only[i,cF,u,m,oB];cases hr:a5P k s (a1l l)with
    |none=>rfl
    |some q=>
     obtain⟨B,r⟩:=q;obtain⟨E,r2,y,-⟩:=c4x p (by simp_all) n hr;have f:a6D (l.length:Int) (B.length:Int)=true:=by simp_all[a6D]
     have hb:=c3u f (l:=r) (by omega) y (by omega);simp only[show((0:Int) != 0)=false from rfl,cF,a1M,hb,oB]
theorem c8k(h:a5M p n warm=true):p.2.1.length≤256:=by
 simp only[a5M,bA,a33,beq_eq_false_iff_ne,ne_eq,beq_iff_eq]at h
 grind[b5C,a1w]
theorem b6G(h:SmallS s)(g:wm.length≤5000)(f:r.length≤5000)(k:p.2.1.length≤300):SmallS (a1M s w wm p r):=
 ⟨h.coefs,h.taps,h.stages,g,f,k⟩
theorem c7g(f:(a1q k l s).2=0):
  1≤l.length∧l.length≤4096∧a3Z k s (l.length:Int)∧l.all a0A=true∧
   ((k=0∧l.all (fun x=>x==l.headD 0)=true∧(a1q k l s).1=a1M (a1a 0 s) 0 [l.headD 0] z0 [])∨
    (k=1∧(a1q k l s).1=a1M (a1a 1 s) (a3c l) (a1l l) z0 [])∨
     ((k=2∨k=3∨k=4∨k=5)∧∃wm r,a5P k s (a1l l)=some (wm,r)∧(a1q k l s).1=a1M (a1a k s) (a3c l) wm (b8s (l.length:Int) (wm.length:Int) r) r)):=by
 unfold a1q at f⊢
 split at f
 omega;rename_i g;have g:1≤l.length∧l.length≤4096∧a3Z k s (l.length:Int):=Classical.byContradiction g;refine⟨g.1,g.2.1,g.2.2,?_⟩;rw[if_neg (fun h=>h g)]
 split at f
 omega;rename_i d;have a:l.all a0A=true:=by simp_all
 refine⟨a,?_⟩;rw[if_neg d]
 split at f
 grind
 rename_i b;rw[if_neg b]
 split at f
 simp_all;rename_i c;rw[if_neg c];refine .inr (.inr ⟨b9c g.2.2 b c,?_⟩)
 grind
theorem b4A:b5W (a1M (a1a k s) w wm p r):=by
 unfold b5W a1M a1a;simp_all
theorem b9G(h:a3Z k s n):a3Z (a1M (a1a k s) w wm p r).1 (a1M (a1a k s) w wm p r) n:=c7e.2 h
theorem c9B{l:List Int}(h:l.all (fun x=>x==l.headD 0)=true):a00 l.length (l.headD 0)=l:=by
 refine(List.eq_replicate_iff.2 ⟨rfl,fun x g=>?_⟩).symm
 grind
theorem c2f(H:SmallS s)(F:(a1q k l s).2=0):
  SmallS (a1q k l s).1∧(a1q k l s).1.1=k∧a1u (a1q k l s).1 (l.length:Int)∧a2n (a1q k l s).1 (l.length:Int)=some l:=by
 obtain⟨R,G,t,z,I⟩:=c7g F;have L:short l:=by unfold short;omega
 obtain⟨-,X,-⟩:=a9G L z;obtain⟨N,u,O,C⟩:=a7g G z;have key:∀m:Sub,a1u m (l.length:Int)→c3Z m (l.length:Int)=some l→a2n m (l.length:Int)=some l:=fun m i j=>by simp_all[a2n]
 have b:=c4w H k;rcases I with⟨rfl,w,e⟩|⟨rfl,e⟩|⟨y,d,r,f,e⟩
 ·rw[e];have g:a1u (a1M (a1a 0 s) 0 [l.headD 0] z0 []) (l.length:Int):=by
   have S:a0A (l.headD 0)=true:=by
    cases l with
    |nil=>rfl
    |cons a l=>simp_all
   exact⟨by omega,by omega,b9G t,b4A,Int.le_refl _,(by simp:(0:Int)≤30),fun _=>rfl,rfl,by simp_all[a1M],rfl,fun _=>⟨rfl,rfl,rfl⟩,fun h=>absurd rfl h.1⟩
  refine⟨b6G b (by simp) (by simp) (by simp[z0]),rfl,g,key _ g ?_⟩;show some (a00 (l.length:Int).toNat (l.headD 0))=some l
  grind[c9B]
 rw[e];have g:a1u (a1M (a1a 1 s) (a3c l) (a1l l) z0 []) (l.length:Int):=
  ⟨by omega,by omega,b9G t,b4A,a83 _,(by show((a3c l:Nat):Int)≤30;omega),fun h=>absurd h (by simp:¬ (1:Int)=0),by show(((a1l l).length:Nat):Int)=(l.length:Int);omega,u,rfl,fun _=>⟨rfl,rfl,rfl⟩,fun h=>absurd rfl h.2⟩
 refine⟨b6G b (by omega) (by simp) (by simp[z0]),rfl,g,key _ g ?_⟩;show upO ((a3c l:Nat):Int) (a1l l)=some l;omega
 ·rw[e];obtain⟨V,r2,B,M⟩:=c4x y (by simp_all) u f;have n:a6D (l.length:Int) (d.length:Int)=true:=by simp only[a6D,bA,dT];omega
  have hp:=c9z n (l:=r) (by omega) B (by omega);generalize b8s (l.length:Int) (d.length:Int) r=p at hp;have K:=c8k hp

  have q:a2p (a1M (a1a k s) (a3c l) d p r) (l.length:Int)=(d.length:Int)∧backP (a1M (a1a k s) (a3c l) d p r)=some (a1l l):=by
   simp only[a3Z]at t;rcases y with rfl|rfl|rfl|rfl
   ·obtain⟨T,U,A⟩:0≤s.2.2.1∧s.2.2.1≤4∧s.2.2.1≤(l.length:Int):=by omega
    simp[a5P]at f;cases hq:(a2o s.2.2.1.toNat (a1l l)).all a0A with
    |false=>simp_all
    |true=>
     simp[hq]at f;obtain⟨rfl,rfl⟩:=f;refine⟨?_,?_⟩;show s.2.2.1=_
     grind
     show b9A ((a1l l).take s.2.2.1.toNat) (a2o s.2.2.1.toNat (a1l l)) s.2.2.1=some (a1l l);have hb:=c4i u (o:=s.2.2.1.toNat) (by omega) ((a1l l).length-s.2.2.1.toNat) 0 (by omega);rw[a28,a85]at hb
     grind[b9A]
   have A:(s.2.2.2.2.2.1.length:Int)≤(l.length:Int):=by omega
   simp only[a5P,show ¬ (3:Int)=2 by simp,if_false,if_true,a21,pJ]at f;obtain⟨v,i,rfl,rfl⟩:=f;obtain⟨j,-,-⟩:=b6C i;refine⟨?_,?_⟩;show((s.2.2.2.2.2.1.length:Nat):Int)=_;simp_all;exact j;have A:(s.2.2.2.2.2.1.length:Int)≤(l.length:Int):=by omega
   simp only[a5P,show ¬ (4:Int)=2 by simp,show ¬ (4:Int)=3 by simp,if_false,if_true,a44,a21,pJ]at f;obtain⟨x,E,v,i,rfl,rfl⟩:=f;obtain⟨P,-,Q⟩:=b7V E;obtain⟨j,-,-⟩:=b6C i;refine⟨?_,?_⟩;show((s.2.2.2.2.2.1.length:Nat):Int)=_;simp_all;show(b4n (x.take s.2.2.2.2.2.1.length) v s.2.2.2.2.2.1 s.2.2.2.1).bind (fun l=>b4S l s.2.2.2.2.1 s.2.2.2.2.2.2.1)=_;simp_all;simp only[a5P,show ¬ (5:Int)=2 by simp,show ¬ (5:Int)=3 by simp,show ¬ (5:Int)=4 by simp,if_false,a21,pJ]at f;obtain⟨v,i,rfl,rfl⟩:=f;obtain⟨j,-,-⟩:=c0Z i;exact⟨rfl,j⟩
  have c:¬ (k=0∨k=1):=by omega
  have g:a1u (a1M (a1a k s) (a3c l) d p r) (l.length:Int):=by
   unfold a1u;rw[q.1];exact⟨by omega,by omega,b9G t,b4A,a83 _,(by show((a3c l:Nat):Int)≤30;omega),fun h=>absurd (.inl h) c,rfl,M,B,fun h=>absurd h c,fun _=>⟨(by show((r.length:Nat):Int)=_;omega),hp⟩⟩
  refine⟨b6G b (by omega) (by omega) (by omega),rfl,g,key _ g ?_⟩;have D:¬ (a1M (a1a k s) (a3c l) d p r).1=0:=fun h=>c (.inl h);unfold c3Z;rw[if_neg D,q.2];exact C
theorem c7h:SmallS (a2c 0):=c5G 0
def cS(k o sh:Int)(c:List Int)(st:List Stg):Sub:=
 (k,(0:Int),o,sh,(0:Int),c,a00 3 (0:Int),st,([]:List Int),((0:Int),([]:List Int),()),([]:List Int),())
theorem b1P{k o sh:Int}{c:List Int}{st:List Stg}(h:c.length≤40)(g:st.length≤6):SmallS (cS k o sh c st):=
 ⟨h,rfl,g,by simp[cS],by simp[cS],by simp[cS]⟩
def b3G(d:List Int)(o w:Int):List Int×(Int×Int):=(a3X (d,o,w)).getD ([],0,1)
def b1Q(d:List Int)(o w:Int):List Sub:=bif (b3G d o w).2.2==0 then[cS 3 0 (b3G d o w).2.1 (b3G d o w).1 []]else[]
def c7i(d:List Int):Int:=(a6x d).getD 0
def b6H(d:List Int):Sub×Bool:=(a3C d).getD (a2c 0,false)
def b9H(d:List Int):List Sub:=bif (b6H d).2 then[(b6H d).1]else[]
def b1R(i:Nat):List Sub:=(List.range i).map fun(j:Nat)=>cS 2 (j:Int) 0 [] []
def a2r(d:List Int):List Sub:=[cS 0 0 0 [] [],cS 1 0 0 [] [],cS 2 (c7i d) 0 [] []]
def a3P(d:List Int)(k:Int):List Sub:=if 1≤k then b1Q d 4 12++b1Q d 8 12 else[]
def b2B(d:List Int)(k:Int):List Sub:=if 2≤k then[cS 5 0 0 [] [((16:Int),(4:Int),())],cS 5 0 0 [] [((32:Int),(3:Int),()),((16:Int),(5:Int),())]]++b9H d else[]
def c3A(d:List Int)(k:Int):List Sub:=if 3≤k then b1R 5++(b1Q d 1 12++(b1Q d 2 12++(b1Q d 12 14++b1Q d 16 14)))else[]
def a4n(d:List Int)(k:Int):List Sub:=a2r d++(a3P d k++(b2B d k++c3A d k))
def c1g(d:List Int):Prop:=a3C d=some (b6H d)∧((b6H d).2=true→SmallS (b6H d).1)
theorem c4z(a:d.all a0A=true)(k:d.length≤4096)(h:1≤o)(g:o≤32)(f:2≤w∧w≤16):
  a3X (d,(o:Int),(w:Int))=some (b3G d o w)∧((b3G d o w).2.2=0→(b3G d o w).1.length=o):=by
 obtain⟨c,sh,e,b,i⟩:=c8e a k h g f;unfold b3G;simp_all
theorem b1S(d:List Int)(o w:Int):(b1Q d o w).length≤1:=by
 grind[b1Q]
theorem b1T(c:d.all a0A=true)(b:d.length≤4096)(f:1≤o)(k:o≤32)(a:2≤w∧w≤16){L:List Sub}(e:L.length<1000):
  a0Q ((o:Int),(w:Int),d,L)=some (d,L++b1Q d o w):=by
 obtain⟨g,-⟩:=c4z c b f k a;have h:lim (L.length+1)=true:=a0U (by omega);unfold a0Q b1Q;simp only[g,oB];cases (b3G d o w).2.2==0 with
 |true=>simp only[cT,h];rfl
 |false=>simp
theorem c7j{L:List Sub}(k:L.length<1000):y0s a2s ((0:Int),L,d,())=some (L++b1R 5,d,()):=by
 have:=a1E (f:=a2s) (fun i:Nat=>((i:Int),L++b1R i,d,())) 5 (b:=(L++b1R 5,d,()))
  (fun i hi=>by
   have g:decide ((i:Int)<5)=true:=decide_eq_true (by omega);have h:lim ((L++b1R i).length+1)=true:=a0U (by simp[b1R];omega);have e:(L++b1R i)++[cS 2 (i:Int) 0 [] []]=L++b1R (i+1):=by simp[b1R,List.range_succ]
   rw[←e];simp only[a2s,g,cT,h,a0B (show i<1000000 by omega)];rfl)
  (by
   rfl)
 simp at this;rw[show b1R 0=[]from rfl,a40]at this;omega
theorem d1S(a:d.all a0A=true)(c:d.length≤4096)(l:c1g d)(k:Int):a7d (d,k)=some (a4n d k):=by
 obtain⟨o,E,F⟩:=c0X (show d.length<100000 by omega) a;have hb:c7i d=(o:Int):=by simp_all[c7i]
 have D:(b9H d).length≤1:=by grind[b9H]
 have M:=b1S d 4 12;have N:=b1S d 8 12;have l1:=b1S d 1 12;have l2:=b1S d 2 12;have G:=b1S d 12 14;have y:=fun L (hL:L.length<1000)=>b1T (L:=L) a c (o:=4) (w:=12) (by omega) (by omega) (by omega) hL;have z:=fun L (hL:L.length<1000)=>b1T (L:=L) a c (o:=8) (w:=12) (by omega) (by omega) (by omega) hL;have v:=fun L (hL:L.length<1000)=>b1T (L:=L) a c (o:=1) (w:=12) (by omega) (by omega) (by omega) hL;have x:=fun L (hL:L.length<1000)=>b1T (L:=L) a c (o:=2) (w:=12) (by omega) (by omega) (by omega) hL;have i:=fun L (hL:L.length<1000)=>b1T (L:=L) a c (o:=12) (w:=14) (by omega) (by omega) (by omega) hL;have j:=fun L (hL:L.length<1000)=>b1T (L:=L) a c (o:=16) (w:=14) (by omega) (by omega) (by omega) hL;simp at y z v x i j;have O:(a2r d).length=3:=rfl;have n1:(a3P d k).length≤2:=by unfold a3P;split<;>simp<;>omega
 have n2:(b2B d k).length≤3:=by unfold b2B;split<;>simp<;>omega
 have P:(b1R 5).length=5:=rfl;have K:(bif decide (k≥1)then((a0Q ((4:Int),(12:Int),d,a2r d)).bind fun n=>(a0Q ((8:Int),(12:Int),n.1,n.2)).bind fun p=>some (k,p.1,p.2,()))else some (k,d,a2r d,()))=some (k,d,a2r d++a3P d k,()):=by
  unfold a3P
  by_cases h:1≤k
  have e:decide (k≥1)=true:=decide_eq_true h;simp only[e,cT,y (a2r d) (by omega),oB,z (a2r d++b1Q d 4 12) (by grind),if_pos h,aA]
  grind
 have C:a7d (d,k)=(a6x d).bind fun A=>
   (show Option (Int×((List Int)×((List Sub)×Unit)))from bif decide (k≥1)then((a0Q ((4:Int),(12:Int),d,[cS 0 0 0 [] [],cS 1 0 0 [] [],cS 2 A 0 [] []])).bind fun n=>(a0Q ((8:Int),(12:Int),n.1,n.2)).bind fun p=>some (k,p.1,p.2,()))else some (k,d,[cS 0 0 0 [] [],cS 1 0 0 [] [],cS 2 A 0 [] []],())).bind fun g=>
   (show Option (Int×((List Sub)×((List Int)×Unit)))from bif decide (g.1≥2)then(bif lim (g.2.2.1.length+1)then(bif lim ((g.2.2.1++[cS 5 0 0 [] [((16:Int),(4:Int),())]]).length+1)then((a3C g.2.1).bind fun q=>
    bif q.2 then(bif lim ((g.2.2.1++[cS 5 0 0 [] [((16:Int),(4:Int),())]]++[cS 5 0 0 [] [((32:Int),(3:Int),()),((16:Int),(5:Int),())]]).length+1)then some (g.1,g.2.2.1++[cS 5 0 0 [] [((16:Int),(4:Int),())]]++[cS 5 0 0 [] [((32:Int),(3:Int),()),((16:Int),(5:Int),())]]++[q.1],g.2.1,())else none)
    else some (g.1,g.2.2.1++[cS 5 0 0 [] [((16:Int),(4:Int),())]]++[cS 5 0 0 [] [((32:Int),(3:Int),()),((16:Int),(5:Int),())]],g.2.1,()))else none)else none)else some (g.1,g.2.2.1,g.2.1,())).bind fun t=>
   (show Option ((List Sub)×Unit)from bif decide (t.1≥3)then((y0s a2s ((0:Int),t.2.1,t.2.2.1,())).bind fun m=>(a0Q ((1:Int),(12:Int),m.2.1,m.1)).bind fun r=>(a0Q ((2:Int),(12:Int),r.1,r.2)).bind fun s=>
    (a0Q ((12:Int),(14:Int),s.1,s.2)).bind fun f=>(a0Q ((16:Int),(14:Int),f.1,f.2)).bind fun b=>some (b.2,()))else some (t.2.1,())).bind fun u=>some u.1:=rfl
 have B:[cS 0 0 0 [] [],cS 1 0 0 [] [],cS 2 (o:Int) 0 [] []]=a2r d:=by unfold a2r;grind
 have Q:(bif decide (k≥2)then(bif lim ((a2r d++a3P d k).length+1)then(bif lim ((a2r d++a3P d k++[cS 5 0 0 [] [((16:Int),(4:Int),())]]).length+1)then((a3C d).bind fun q=>
    bif q.2 then(bif lim ((a2r d++a3P d k++[cS 5 0 0 [] [((16:Int),(4:Int),())]]++[cS 5 0 0 [] [((32:Int),(3:Int),()),((16:Int),(5:Int),())]]).length+1)then some (k,a2r d++a3P d k++[cS 5 0 0 [] [((16:Int),(4:Int),())]]++[cS 5 0 0 [] [((32:Int),(3:Int),()),((16:Int),(5:Int),())]]++[q.1],d,())else none)
    else some (k,a2r d++a3P d k++[cS 5 0 0 [] [((16:Int),(4:Int),())]]++[cS 5 0 0 [] [((32:Int),(3:Int),()),((16:Int),(5:Int),())]],d,()))else none)else none)else some (k,a2r d++a3P d k,d,()):Option (Int×((List Sub)×((List Int)×Unit))))=some (k,a2r d++(a3P d k++b2B d k),d,()):=by
  unfold b2B
  by_cases h:2≤k
  have e:decide (k≥2)=true:=decide_eq_true h;have q1:lim ((a2r d++a3P d k).length+1)=true:=a0U (by grind);have H:lim ((a2r d++a3P d k++[cS 5 0 0 [] [((16:Int),(4:Int),())]]).length+1)=true:=a0U (by simp;omega);have I:lim ((a2r d++a3P d k++[cS 5 0 0 [] [((16:Int),(4:Int),())]]++[cS 5 0 0 [] [((32:Int),(3:Int),()),((16:Int),(5:Int),())]]).length+1)=true:=a0U (by simp;omega);simp only[e,q1,H,I,cT,l.1,oB,if_pos h,b9H];cases (b6H d).2<;>simp
  grind
 have R:(bif decide (k≥3)then((y0s a2s ((0:Int),a2r d++(a3P d k++b2B d k),d,())).bind fun m=>(a0Q ((1:Int),(12:Int),m.2.1,m.1)).bind fun r=>(a0Q ((2:Int),(12:Int),r.1,r.2)).bind fun s=>
    (a0Q ((12:Int),(14:Int),s.1,s.2)).bind fun f=>(a0Q ((16:Int),(14:Int),f.1,f.2)).bind fun b=>some (b.2,()))else some (a2r d++(a3P d k++b2B d k),()):Option ((List Sub)×Unit))=some (a4n d k,()):=by
  unfold a4n c3A
  by_cases h:3≤k
  have e:decide (k≥3)=true:=decide_eq_true h;simp only[e,cT,c7j (L:=a2r d++(a3P d k++b2B d k)) (by simp;omega),oB,if_pos h];rw[v _ (by simp;omega)];simp only[oB];rw[x _ (by simp;omega)];simp only[oB];rw[i _ (by simp;omega)];simp only[oB];rw[j _ (by simp;omega)]
  simp
  grind
 rw[C,E,oB,B];simp only[];rw[K];simp only[oB];simp_all
theorem c1h(l:d.all a0A=true)(i:d.length≤4096)(f:c1g d)(k:Int):∀c∈a4n d k,SmallS c:=by
 have g:∀(o w:Nat),1≤o→o≤32→2≤w∧w≤16→∀c∈b1Q d o w,SmallS c:=fun o w a b e c h=>by
  obtain⟨-,m⟩:=c4z l i a b e;unfold b1Q at h;cases he:(b3G d o w).2.2==0 with
  |false=>simp_all
  |true=>
   rw[he]at h;simp at h
   grind[b1P]
 intro c h;simp[a4n]at h;rcases h with h|h|h|h;simp[a2r]at h;rcases h with rfl|rfl|rfl<;>exact b1P (by simp) (by simp);unfold a3P at h
 split at h
 simp at h;rcases h with h|h;exact g 4 12 (by omega) (by omega) (by omega) c h;exact g 8 12 (by omega) (by omega) (by omega) c h;simp_all
 ·unfold b2B at h
  split at h
  ·simp only[mA,mC,a97,or_false]at h;rcases h with(rfl|rfl)|h;simp_all[b1P];simp_all[b1P]
   ·unfold b9H at h;cases hg:(b6H d).2 with
    |false=>simp_all
    |true=>
     rw[hg]at h;simp at h;subst h;exact f.2 hg
  simp_all
 unfold c3A at h
 split at h
 simp only[mA,b1R,List.mem_map]at h;rcases h with⟨j,-,rfl⟩|h|h|h|h;simp_all[b1P];exact g 1 12 (by omega) (by omega) (by omega) c h;exact g 2 12 (by omega) (by omega) (by omega) c h;exact g 12 14 (by omega) (by omega) (by omega) c h;exact g 16 14 (by omega) (by omega) (by omega) c h;simp_all
theorem c9C(g:d.length≤256):a3C d=some (a2c 0,false):=by
 have h:b2m (d,(16:Int),(256:Int))=some (0,7):=by
  unfold b2m
  grind
 unfold a3C;simp only[h,oB,show((7:Int) != 0)=true from rfl,cT];rfl
theorem d3u{d:List Int}(g:d.length≤256):c1g d:=by
 have h:=c9C g
 have:b6H d=(a2c 0,false):=by unfold b6H;simp_all
 exact⟨by simp_all,fun f=>by simp_all⟩
def b6f(l:List Int)(a:Int×(Bool×Sub))(c:Sub):Int×(Bool×Sub):=
 bif (a1q c.1 l c).2 != 0 then a else bif !a.2.1 || decide (a5f (a1q c.1 l c).1 (l.length:Int)<a.1)then(a5f (a1q c.1 l c).1 (l.length:Int),true,(a1q c.1 l c).1)else a
def b6I(l:List Int)(cs:List Sub):Int×(Bool×Sub):=cs.foldl (b6f l) (0,false,a2c 0)
theorem b6J{α A β:Type}(g:A→α→A)(h:A→β):∀(l:List α)(a:A),a8t h (a2R (fun a x=>.inl (g a x)) l a)=h (l.foldl g a)
 | [],_=>rfl
 |x::l,a=>b6J g h l (g a x)
theorem c5H(h:SmallS s):SmallS (a1q k l s).1:=by
 by_cases h0:(a1q k l s).2=0
 exact(c2f h h0).1
 have:(a1q k l s).1=a2c 0:=by
  unfold a1q at h0⊢
  grind
 simp_all[c7h]
theorem c8l{cs:List Sub}(e:∀c∈cs,SmallS c)(o:l.length≤4096)(n:cs.length<1000):
  y0s a7y (l,(0:Int),false,cs,((cs.length:Nat):Int),(0:Int),a2c 0,a2c 0,())=some (a2c 0,(b6I l cs).2.2,()):=by
 have:=a1H (f:=a7y) cs (fun i a=>(l,a.1,a.2.1,cs,((cs.length:Nat):Int),(i:Int),a2c 0,a.2.2,())) (fun a x=>.inl (b6f l a x)) (fun _ _=>True) (fun a=>(a2c 0,a.2.2,()))
  (fun i hi a _=>by
   refine⟨fun m h=>?_,fun b hb=>by grind⟩;simp at h;subst h;refine⟨?_,trivial⟩;have g:=e _ (a05 hi);have d:=c5U (c5H (k:=cs[i].1) (l:=l) g) (l.length:Int);unfold b6f;simp only[a7y,dlt hi,cT,a0D hi,oB,d1R g cs[i].1 (show l.length≤100000 by omega),d,a0B (show i<1000000 by omega)];cases (a1q cs[i].1 l cs[i]).2 != 0 with
   |true=>rfl
   |false=>
    have j:=a0B (show i<1000000 by omega)
    grind)
  (fun a _=>by simp_all[a7y]) (a:=((0:Int),false,a2c 0)) trivial
 simp at this;rw[this,b6J];rfl
theorem d1T(v:1≤l.length)(c:l.length≤4096)(a:l.all a0A=true)(h:c1g (a1l l))(u:0≤k)(x:k≤3):
  a5H (l,k)=some ((b6I l (a4n (a1l l) k)).2.2,0):=by
 have d:short l:=by unfold short;omega
 obtain⟨r,s,-⟩:=a9G d a;obtain⟨e,b,t,-⟩:=a7g c a;have i:decide (((l.length:Nat):Int)<1)=false:=decide_eq_false (by omega);have j:decide (((l.length:Nat):Int) > 4096)=false:=decide_eq_false (by omega);have m:decide (k<0)=false:=decide_eq_false (by omega);have n:decide (k > 3)=false:=decide_eq_false (by omega);have f:(a4n (a1l l) k).length<1000:=by
  have g:=fun o w=>b1S (a1l l) o w;have q1:=g 4 12;have y:=g 8 12;have z:=g 1 12;have A:=g 2 12;have B:=g 12 14;have C:=g 16 14;have p:(b9H (a1l l)).length≤1:=by grind[b9H]
  simp only[a4n,a2r,a3P,b2B,c3A,lN]
  grind[b1R]
 have hb:=c8l (l:=l) (c1h b (by omega) h k) c f;have q:a2c 0=((0:Int),(0:Int),(0:Int),(0:Int),(0:Int),([]:(List Int)),a00 3 (0:Int),([]:(List (Int×Int×Unit))),([]:(List Int)),((0:Int),([]:(List Int)),()),([]:(List Int)),()):=rfl;unfold a5H;simp only[←q,i,j,m,n,cF,oB,a4E d,a,bT,r,b6a s (show l.length<100000 by omega),e,a5h,show((0:Int) != 0)=false from rfl,d1S b (show(a1l l).length≤4096 by omega) h,hb]
theorem b1U(v:Int)(n:Nat)(L:List Int):(a0P v n L).length=L.length+(a0P v n []).length:=by
 grind[a0P]
theorem b5b(n:Nat):∀(l L:List Int),(a1F n l L).length=L.length+(a1F n l []).length
 | [],L=>by rfl
 |x::l,L=>by
  show(a1F n l (a0P (a0X x n) n L)).length=L.length+(a1F n l (a0P (a0X x n) n [])).length;rw[b5b n l,b5b n l (a0P (a0X x n) n []),b1U];omega
theorem b5F:∀(st:List Stg)(L:List Int),(a3m st L).length=L.length+(a3m st []).length
 | [],L=>by rfl
 |s::st,L=>by
  show(a3m st (a6G s L)).length=L.length+(a3m st (a6G s [])).length;rw[b5F st,b5F st (a6G s [])];unfold a6G;rw[b1U,b1U _ 5 L,b1U _ 4 (a0P _ 5 [])];omega
theorem c7k(s:Sub)(L:List Int):(a6H s L).length=L.length+(a6H s []).length:=by
 grind[a6H,b5b,b1U]
theorem c2I(s:Sub)(L:List Int):(a2A s L).length=L.length+(a2A s []).length:=by
 grind[a2A,b1U,c7k,b5b,b5F]
theorem c9D(g:0≤s.1∧s.1≤5)(f:0≤s.2.1∧s.2.1≤30)(h:s.2.2.2.2.2.2.2.2.1.all a0A=true)(L:List Int):(b2x s L).length=L.length+13:=by
 grind[a01,a1W,b2x,a3D,b1O]
def c7l(s:Sub)(zn:List Nat):Nat:=
 13+(a2A s []).length+a0J s.2.2.2.2.2.2.2.2.1*s.2.2.2.2.2.2.2.2.1.length+if s.1=0∨s.1=1 then 0 else 4+a5O zn s.2.2.2.2.2.2.2.2.2.1.2.1 s.2.2.2.2.2.2.2.2.2.2.1
theorem b6K(h:a3Z k s n):0≤k∧k≤5:=by
 rcases h with h|h|⟨h,-⟩|⟨h,-⟩|⟨h,-⟩|⟨h,-⟩<;>omega
theorem b5G(h:(a2n s n).isSome=true):a1u s n:=by
 grind[a2n]
theorem d1U(h:(a2n s n).isSome=true)(d:s.1≠0∧s.1≠1→PartsOk s.2.2.2.2.2.2.2.2.2.1 n ((s.2.2.2.2.2.2.2.2.1.length:Nat):Int) s.2.2.2.2.2.2.2.2.2.2.1 zn)(L:List Int):
  (a5r s zn L).length=L.length+c7l s zn:=by
 obtain⟨e,i,b,-,k,a,-,-,f,-⟩:=b5G h;have c:=a1W f;have g:=c9D (b6K b) ⟨k,a⟩ f L;unfold a5r c7l
 by_cases hk:s.1=0∨s.1=1
 rw[if_pos hk,if_pos hk,b4Z (by omega),c2I,g];omega;rw[if_neg hk,if_neg hk,c3t (d (not_or.1 hk)),b4Z (by omega),c2I,g];omega
theorem c9E(h:SmallS s)(f:(a2n s n).isSome=true):∃g,a5f s n=((c7l s g:Nat):Int)∧(s.1≠0∧s.1≠1→PartsOk s.2.2.2.2.2.2.2.2.2.1 n ((s.2.2.2.2.2.2.2.2.1.length:Nat):Int) s.2.2.2.2.2.2.2.2.2.2.1 g):=by
 obtain⟨e,b,-,-,-,a,-⟩:=b6w h (n:=n) (L:=[]) (by simp);obtain⟨-,g,-,k⟩:=a f;refine⟨g,?_,k⟩;unfold a5f;rw[if_pos f,←c2d k,d1U f k]
 simp
structure Shifted (l m:List Int) (n:Nat):Prop where
 len:m.length=l.length
 wl:l.all a0A=true
 wm:m.all a0A=true
 down:a1l m=a1l l
 waste:a3c m=a3c l+n
 fl:l.all (fun x=>x==l.headD 0)=false
 fm:m.all (fun x=>x==m.headD 0)=false
structure BestIs (l:List Int) (cs:List Sub) (a:Int×(Bool×Sub)):Prop where
 one:a.2.1=true→∃c∈cs,(a1q c.1 l c).2=0∧a.2.2=(a1q c.1 l c).1∧a.1=a5f a.2.2 (l.length:Int)
 least:∀c∈cs,(a1q c.1 l c).2=0→a.2.1=true∧a.1≤a5f (a1q c.1 l c).1 (l.length:Int)
theorem b7Y{l:List Int}:∀(cs ds:List Sub)(a:Int×(Bool×Sub)),BestIs l ds a→BestIs l (ds++cs) (cs.foldl (b6f l) a)
 | [],ds,a,h=>by simp_all
 |c::cs,ds,a,h=>by
  rw[b01,show ds++c::cs=(ds++[c])++cs by simp];refine b7Y cs (ds++[c]) _ ?_
  unfold b6f
  by_cases h0:(a1q c.1 l c).2=0
  ·have n1:((a1q c.1 l c).2 != 0)=false:=by simp_all
   rw[n1,cF];cases hq:(!a.2.1 || decide (a5f (a1q c.1 l c).1 (l.length:Int)<a.1))with
   |true=>
    refine⟨fun _=>⟨c,by simp,h0,rfl,rfl⟩,fun d f k=>⟨rfl,?_⟩⟩;rcases mA.1 f with f|f;obtain⟨e,i⟩:=h.least d f k
    grind
    simp_all
   |false=>
    simp only[a77,Bool.not_eq_false',decide_eq_false_iff_not]at hq;refine⟨fun b=>?_,fun d f k=>?_⟩;obtain⟨d,f,g⟩:=h.one b
    grind
    rcases mA.1 f with f|f;exact h.least d f k;simp_all
  have n1:((a1q c.1 l c).2 != 0)=true:=by simp_all
  rw[n1,cT];refine⟨fun b=>?_,fun d f k=>?_⟩;obtain⟨d,f,g⟩:=h.one b
  grind
  rcases mA.1 f with f|f;exact h.least d f k;simp_all
theorem c2g(l:List Int)(cs:List Sub):BestIs l cs (b6I l cs):=
 b7Y cs [] _ ⟨fun h=>(by grind),fun _ h=>(by grind)⟩
theorem b6L(h:1≤l.length)(g:l.length≤4096)(f:l.all a0A=true):a1q 1 l (cS 1 0 0 [] [])=(a1M (a1a 1 (cS 1 0 0 [] [])) (a3c l) (a1l l) z0 [],0):=by
 unfold a1q;rw[if_neg (fun q=>q ⟨h,g,.inr (.inl rfl)⟩),if_neg (by simp_all),if_neg (by simp),if_pos rfl]
theorem c7m(h:1≤l.length)(g:l.length≤4096)(f:l.all a0A=true)(d:List Int)(k:Int):(b6I l (a4n d k)).2.1=true:=
 ((c2g l (a4n d k)).least (cS 1 0 0 [] []) (by simp[a4n,a2r]) (by rw[show(cS 1 0 0 [] []).1=1 from rfl,b6L h g f])).1
def inW(x:Int)(v:Nat):Bool:=decide (x=0) || a1k x (v:Int)
theorem c9F{x:Int}{v:Nat}:a1k x (v:Int)=true↔1≤v∧v≤31∧-((2^(v-1):Nat):Int)≤x∧x≤((2^(v-1):Nat):Int)-1:=by
 by_cases hv:1≤v∧v≤31
 have e:((v:Int)-1)=((v-1:Nat):Int):=by omega
 have hp:2^(v-1)≤2^30:=a08 (by omega) (by omega);have a:=a16 (v-1);have g:A0n .i64 1 ((v-1:Nat):Int)=((2^(v-1):Nat):Int):=c4j (by omega);have f:A0n .i64 (-1) ((v-1:Nat):Int)=-((2^(v-1):Nat):Int):=by
  grind[IntKind.bits,A0n,a0C]
 have k:wrap .i64 (((2^(v-1):Nat):Int)-1)=((2^(v-1):Nat):Int)-1:=a0C (by omega);simp only[a1k,e,g,f,k,bA,dT];omega;constructor;intro h;simp[a1k]at h;omega;omega
theorem b8t:inW x v=true↔x=0∨(1≤v∧v≤31∧-((2^(v-1):Nat):Int)≤x∧x≤((2^(v-1):Nat):Int)-1):=by
 simp_all[inW,c9F]
theorem c9G{x:Int}{v w:Nat}(h:v≤w)(c:w≤31)(g:inW x v=true):inW x w=true:=by
 rw[b8t]at g⊢;rcases g with g|⟨f,k,a,b⟩;omega
 have:2^(v-1)≤2^(w-1):=a08 (by omega) (by omega)
 omega
theorem c9H{x:Int}(h:a0A x=true):inW x 31=true:=by
 have:=a1I.1 h
 rw[b8t];omega
theorem c2J{x:Int}(j:a0A x=true):∀(k w:Nat),w+k=32→w≤31→w≤a1L x k w∧a1L x k w≤31∧inW x (a1L x k w)=true∧∀v,w≤v→inW x v=true→v≤31→a1L x k w≤v
 |0,w,h,g=>absurd g (by omega)
 |k+1,w,h,g=>by
  by_cases hin:inW x w=true
  ·have:a1L x (k+1) w=w:=by
    unfold a1L;cases a:(x != 0)&&!a1k x (w:Int)with
    |false=>rfl
    |true=>
     simp at a;simp_all[inW]
   simp_all
  have a:((x != 0)&&!a1k x (w:Int))=true:=by
   simp_all[inW]
  have i:w≠31:=fun e=>hin (by simp_all[c9H]);have e:a1L x (k+1) w=a1L x k (w+1):=by
   show(bif (x != 0)&&!a1k x (w:Int)then a1L x k (w+1)else w)=_
   grind
  obtain⟨l,b,c,d⟩:=c2J j k (w+1) (by omega) (by omega);rw[e];refine⟨by omega,b,c,fun v hv f g=>d v ?_ f g⟩;rcases Nat.lt_or_ge w v with q|q;exact q
  have:v=w:=by omega
  exact absurd (this▸f) hin
theorem b1p:∀(l:List Int)(w:Nat),l.all a0A=true→w≤31→
  w≤l.foldl (fun w x=>a1L x (32-w) w) w∧l.foldl (fun w x=>a1L x (32-w) w) w≤31∧(∀x∈l,inW x (l.foldl (fun w x=>a1L x (32-w) w) w)=true)∧∀v,w≤v→v≤31→(∀x∈l,inW x v=true)→l.foldl (fun w x=>a1L x (32-w) w) w≤v
 | [],w,_,h31=>⟨a27 _,h31,by simp,fun v hv _ _=>hv⟩
 |x::l,w,h,h31=>by
  rw[a07,bA]at h;obtain⟨i,b,j,m⟩:=c2J h.1 (32-w) w (by omega) h31;obtain⟨c,a,d,e⟩:=b1p l (a1L x (32-w) w) h.2 b;simp only[b01];refine⟨by omega,a,fun y k=>?_,fun v hv f g=>?_⟩
  ·rcases mC.1 k with rfl|k
   all_goals grind[c9G]
  simp_all
theorem c4A{l:List Int}(h:l.all a0A=true):∀x∈l,inW x (a0J l)=true:=(b1p l 0 h (by omega)).2.2.1
theorem c5I(h:l.all a0A=true)(hv:v≤31)(g:∀x∈l,inW x v=true):a0J l≤v:=(b1p l 0 h (by omega)).2.2.2 v (by omega) hv g
theorem c9I{x:Int}{w v:Nat}(e:w≤30)(k:((2^w:Nat):Int) ∣ x)(h:inW x v=true):inW (A0o .i64 x (w:Int)) v=true:=by
 obtain⟨c,rfl⟩:=k;rw[c9w (by omega)];rw[b8t]at h⊢;have hp:(1:Int)≤((2^w:Nat):Int):=by have:=a16 w;omega
 generalize ((2^w:Nat):Int)=p at h hp;rcases h with h|⟨g,f,b,d⟩
 grind[Int.mul_eq_zero]
 refine .inr ⟨g,f,?_,?_⟩
 by_cases hc:0≤c
 omega;have a:=a47 (show 0≤p-1 by omega) (show 0≤-c by omega)
 grind
 by_cases hc:0≤c
 have a:=a47 (show 0≤p-1 by omega) hc
 grind
 omega
theorem c7n(k:l.length≤4096)(h:l.all a0A=true):a0J (a1l l)≤a0J l:=by
 obtain⟨-,e,c⟩:=a9G (show short l by unfold short;omega) h;obtain⟨-,f,-,-⟩:=a7g k h;have a:∀x∈l,((2^a3c l:Nat):Int) ∣ x:=by
  rcases c with⟨g,-⟩|⟨-,-,g,-⟩
  all_goals grind[a86]
 refine c5I f (a1W h) fun y b=>?_
 obtain⟨x,d,rfl⟩:=List.mem_map.1 b
 grind[c9I,c4A]
theorem c7o(a:1≤l.length)(h:l.length≤4096)(g:l.all a0A=true):a5f (a1q 1 l (cS 1 0 0 [] [])).1 (l.length:Int)=((13+a0J (a1l l)*l.length:Nat):Int):=by
 have b:SmallS (cS 1 0 0 [] []):=b1P (by simp) (by simp);have d:=b6L a h g;obtain⟨a1,-,-,f⟩:=c2f b (k:=1) (l:=l) (by grind);obtain⟨i,c,-⟩:=c9E a1 (by rw[f];rfl);obtain⟨-,-,j,-⟩:=a7g h g;rw[c,d];have e:c7l (a1M (a1a 1 (cS 1 0 0 [] [])) (a3c l) (a1l l) z0 []) i=13+0+a0J (a1l l)*(a1l l).length+0:=rfl;simp_all
theorem c7p{l:List Int}(b:1≤l.length)(f:l.length≤4096)(a:l.all a0A=true)(g:c1g (a1l l)){k:Int}(d:0≤k)(t:k≤3):
  ∃s,a5H (l,k)=some (s,0)∧SmallS s∧a2n s (l.length:Int)=some l∧s=(b6I l (a4n (a1l l) k)).2.2∧a5f s (l.length:Int)=(b6I l (a4n (a1l l) k)).1∧a5f s (l.length:Int)≤((13+a0J l*l.length:Nat):Int)∧
   (∀c∈a4n (a1l l) k,(a1q c.1 l c).2=0→a5f s (l.length:Int)≤a5f (a1q c.1 l c).1 (l.length:Int)):=by
 obtain⟨-,p,u,-⟩:=a7g f a;have hb:=d1T b f a g d t;have j:=c7m b f a (a1l l) k;obtain⟨c,i,q,r,o⟩:=(c2g l (a4n (a1l l) k)).one j;have e:=c1h p (by omega) g k c i;obtain⟨m,-,-,n⟩:=c2f e q;rw[←r]at m n;have h:∀c∈a4n (a1l l) k,(a1q c.1 l c).2=0→a5f (b6I l (a4n (a1l l) k)).2.2 (l.length:Int)≤a5f (a1q c.1 l c).1 (l.length:Int):=fun c i d=>by
  rw[←o];exact((c2g l (a4n (a1l l) k)).least c i d).2
 refine⟨_,hb,m,n,rfl,o.symm,?_,h⟩;have hp:=h (cS 1 0 0 [] []) (by simp[a4n,a2r]) (by rw[show(cS 1 0 0 [] []).1=1 from rfl,b6L b f a]);rw[show(cS 1 0 0 [] []).1=1 from rfl,c7o b f a]at hp
 have:=a25 l.length (c7n f a)
 omega
@[reducible] def Rd:Type:=(List Int)×(Int×(Int×Unit))
def a1x(L:List Int):Prop:=∀b∈L,b=0∨b=1
def b3N(bs:List Int)(i:Nat):Bool:=(bs.getD (i / 8) 0).toNat.testBit (7-i%8)
theorem or8{x y:Nat}(h:x<256)(g:y<256):bits .u8 .or (x:Int) (y:Int)=((x ||| y:Nat):Int):=by
 show wrap .u8 (((a04 8 (x:Int)) ||| (a04 8 (y:Int))).toNat:Int)=_;rw[a24,a24,a72,a29,a29,a23 h,a23 g,a8s]
 have:x ||| y<2^8:=a88 h g
 omega
theorem d7U{b:Int}(hb:b=0∨b=1){r:Nat}(h:r<8):A0n .u8 b (7-(r:Int))=((b.toNat*2^(7-r):Nat):Int):=by
 have key:∀r:Fin 8,A0n .u8 0 (7-(r.1:Int))=((0*2^(7-r.1):Nat):Int)∧A0n .u8 1 (7-(r.1:Int))=((1*2^(7-r.1):Nat):Int):=by decide +kernel
 rcases hb with rfl|rfl;exact(key ⟨r,h⟩).1;exact(key ⟨r,h⟩).2
theorem c9J{x:Nat}(h:x<256){r:Nat}(g:r<8):bits .u8 .and (A0o .u8 (x:Int) (7-(r:Int))) 1=if x.testBit (7-r)then 1 else 0:=by
 have e:A0o .u8 (x:Int) (7-(r:Int))=((x / 2^(7-r):Nat):Int):=by
  show a80 (x:Int) (2^(min (7-(r:Int)).toNat 8))=_
  grind
 rw[e];have f:x / 2^(7-r)<256:=a38 (a32 _ _) h;show wrap .u8 (((a04 8 ((x / 2^(7-r):Nat):Int)) &&& (a04 8 1)).toNat:Int)=_
 grind[a04,a8s]
theorem c8m(L:List Int)(b:Int)(i:Nat):(L++[b]).getD i 0=if i=L.length then b else L.getD i 0:=by
 grind
theorem c4B(h:List Int)(k:Nat)(y:Int)(g:k<h.length)(j:Nat):(h.set k y).getD j 0=if j=k then y else h.getD j 0:=by
 grind
theorem c2K:∀(n:Nat)(L:List Int),L.length=n→a1x L→(∀j,0≤(wL L).1.getD j 0∧(wL L).1.getD j 0<256)∧∀i,b3N (wL L).1 i=decide (L.getD i 0=1)
 |0,L,h,_=>by
  simp_all[wL,b3N]
 |n+1,L,h,hL=>by
  obtain⟨g,b,rfl⟩:∃g b,L=g++[b]:=by
   rcases a51 L with rfl|⟨g,b,e⟩
   all_goals simp_all
  have hb:b=0∨b=1:=hL b (by simp);obtain⟨t,v⟩:=c2K n g (by simp_all) fun c C=>hL c (by grind);obtain⟨o,p⟩:=a5Y g;rw[c2a];generalize wL g=wr at o p t v⊢;obtain⟨d,m,u⟩:=wr;have o:m=(g.length:Int):=o;have p:d.length=(g.length+7) / 8:=p;subst o;have e8:((g.length:Int) / 8).toNat=g.length / 8:=by rfl
  have q:(g.length:Int)%8=((g.length%8:Nat):Int):=by rfl
  obtain⟨f,a,w,y⟩:∃f:List Int,(if(g.length:Int)%8=0 then d++[0]else d)=f∧g.length / 8<f.length∧∀j,f.getD j 0=d.getD j 0:=by
   grind
  rw[q]at a;have B:g.length%8<8:=a41 _ (by simp);obtain⟨x,r⟩:∃x:Nat,d.getD (g.length / 8) 0=(x:Int):=a01 (t _).1;have k:x<256:=by
   grind
  have s:b.toNat*2^(7-g.length%8)<256:=by
   have hp:2^(7-g.length%8)≤2^7:=a08 (by simp) (by omega)
   grind
  have A:x ||| b.toNat*2^(7-g.length%8)<2^8:=a88 k s;have l:(c1Z (d,(g.length:Int),u) b).1=f.set (g.length / 8) ((x ||| b.toNat*2^(7-g.length%8):Nat):Int):=by
   unfold c1Z;simp only[a,e8,q];rw[y,r,d7U hb B,or8 k s]
  rw[l];refine⟨fun j=>?_,fun i=>?_⟩
  grind[c4B]
  ·unfold b3N;rw[c4B _ _ _ w,c8m];have hi:=v i;unfold b3N at hi
   by_cases hk:i / 8=g.length / 8
   ·rw[if_pos hk,tN,Nat.testBit_or];rw[hk,r,tN]at hi;rw[hi];have z:(b.toNat*2^(7-g.length%8)).testBit (7-i%8)=(decide (b=1)&&decide (i=g.length)):=by
     rcases hb with rfl|rfl
     all_goals grind
    grind
   grind
theorem d1V(h:a1x L):(∀j,0≤(wL L).1.getD j 0∧(wL L).1.getD j 0<256)∧∀i,b3N (wL L).1 i=decide (L.getD i 0=1):=c2K _ L rfl h
def rdr(P R:List Int):Rd:=((wL (P++R)).1,(P.length:Int),(0:Int),())
theorem c2h(k:a1x L)(n:L.length<1000000000)(hi:i<L.length)(t:Int×(Int×Unit)):
  a1A (((wL L).1,t),(i:Int))=some (L.getD i 0,(wL L).1,t):=by
 obtain⟨d,e⟩:=d1V k;obtain⟨-,m⟩:=a5Y L;have l:a26 (i:Int) 8=((i%8:Nat):Int):=by rfl
 have j:a54 (i:Int) 8=((i / 8:Nat):Int):=by rfl
 have b:wrap .i64 ((i / 8:Nat):Int)=((i / 8:Nat):Int):=a0C (by omega);have c:wrap .i64 (7-((i%8:Nat):Int))=7-((i%8:Nat):Int):=a0C (by omega);have g:decide (7-((i%8:Nat):Int)<0)=false:=by grind
 have hb:i / 8<(wL L).1.length:=by omega
 have f:(wL L).1[i / 8]=(wL L).1.getD (i / 8) 0:=by grind
 unfold a1A;simp only[l,j,b,c,g,a0D hb,oB,cF];obtain⟨x,a⟩:∃x:Nat,(wL L).1.getD (i / 8) 0=(x:Int):=a01 (d _).1;have h:x<256:=by grind
 rw[f,a,c9J h (a41 _ (by simp))]
 have:=e i
 unfold b3N at this;rw[a,tN]at this;rw[this];have hv:L.getD i 0=0∨L.getD i 0=1:=by
  have:L.getD i 0=L[i]:=by simp_all
  rw[this];exact k _ (a05 hi)
 grind
theorem c8n(hv:v<18446744073709551616)(hi:i≤64):a7e (v:Int) i=((v / 2^i%2:Nat):Int):=by
 unfold a7e;rw[a6L hi];have h:v / 2^i<18446744073709551616:=a38 (a32 _ _) hv;show wrap .u8 (wrap .u64 (((a04 64 ((v / 2^i:Nat):Int)) &&& (a04 64 1)).toNat:Int))=_
 grind[a04,a0M,a8s]
theorem a1x.app{A B:List Int}(h:a1x A)(g:a1x B):a1x (A++B):=fun b hb=>(mA.1 hb).elim (h b) (g b)
theorem orU(k:a<18446744073709551616)(hb:b<2)(f:a%2=0):bits .u64 .or (a:Int) (b:Int)=((a+b:Nat):Int):=by
 show wrap .u64 (((a04 64 (a:Int) ||| a04 64 (b:Int)).toNat:Nat):Int)=_;have g:(a04 64 (a:Int)).toNat=a:=by simp_all
 have h:(a04 64 (b:Int)).toNat=b:=by grind
 rw[a72,g,h];have e:a ||| b=a+b:=by
  have:=a59 (i:=1) (b:=b) (by omega) (a / 2)
  grind
 grind[a0M]
theorem c4C{v:Nat}(hv:v<9223372036854775808){n:Nat}(q:n≤62):∀(m:Nat)(P R:List Int),m≤n→a1x (P++(pb (v:Int) m++R))→(P++(pb (v:Int) m++R)).length<1000000000→
  y0s a4g (((v / 2^m:Nat):Int),(n:Int),((n-m:Nat):Int),rdr P (pb (v:Int) m++R),())=some ((v:Int),rdr (P++pb (v:Int) m) R,())
 |0,P,R,_,_,_=>by
  grind[a0E,a4g,pb]
 |m+1,P,R,hm,hok,hlen=>by
  have l:decide (((n-(m+1):Nat):Int)<(n:Int))=true:=by grind
  have a:a1A (rdr P (pb (v:Int) (m+1)++R),(P.length:Int))=some (a7e v m,rdr P (pb (v:Int) (m+1)++R)):=by
   have:=c2h hok hlen (i:=P.length) (by simp[pb]) ((P.length:Int),(0:Int),())
   rw[show(P++(pb (v:Int) (m+1)++R)).getD P.length 0=a7e v m from by simp_all[pb]]at this;exact this
  have g:=c8n (v:=v) (by omega) (i:=m) (by omega);have b:v / 2^m%2<2:=a41 _ (by simp);have f:v / 2^(m+1)=v / 2^m / 2:=by grind[a69]
  have p:v / 2^m≤v:=a32 _ _;have d:A0n .u64 ((v / 2^(m+1):Nat):Int) 1=((v / 2^(m+1)*2^1:Nat):Int):=b2M (o:=1) (by omega) (by omega);have h:bits .u64 .or ((v / 2^(m+1)*2^1:Nat):Int) (wrap .u64 (a7e (v:Int) m))=((v / 2^m:Nat):Int):=by
   rw[g,a0M (by omega),orU (by omega) b (by omega),f];omega
  have e:wrap .i64 (((n-(m+1):Nat):Int)+1)=((n-m:Nat):Int):=by grind[a0C]
  have j:wrap .i64 ((P.length:Int)+1)=(((P++[a7e v m]).length:Nat):Int):=by
   grind[a0C]
  have k:P++(pb (v:Int) (m+1)++R)=(P++[a7e v m])++(pb (v:Int) m++R):=by simp[pb]
  have c:((rdr P (pb (v:Int) (m+1)++R)).1,(((P++[a7e v m]).length:Nat):Int),(rdr P (pb (v:Int) (m+1)++R)).2.2)=rdr (P++[a7e v m]) (pb (v:Int) m++R):=by
   unfold rdr;simp_all
  rw[a0F (s':=(((v / 2^m:Nat):Int),(n:Int),((n-m:Nat):Int),rdr (P++[a7e v m]) (pb (v:Int) m++R),())) (by
   simp only[a4g,l,cT];rw[show(rdr P (pb (v:Int) (m+1)++R)).2.1=(P.length:Int)from rfl,a];simp only[oB,d,h,e];rw[show(rdr P (pb (v:Int) (m+1)++R)).2.1=(P.length:Int)from rfl,j,c])]
  rw[c4C hv q m _ _ (by omega) (by simp_all) (by simp_all)];simp[pb]
theorem c8o{n:Nat}(a:n≤62)(hv:v<2^n)(g:a1x (P++(pb (v:Int) n++R)))(k:(P++(pb (v:Int) n++R)).length<200000000):
  a0G (rdr P (pb (v:Int) n++R),(n:Int))=some ((v:Int),rdr (P++pb (v:Int) n) R):=by
 have h:v<9223372036854775808:=Nat.lt_of_lt_of_le hv (Nat.le_trans (a08 (by simp) a) (by simp));have f:=c4C h a n P R (by omega) g (by omega);rw[a67 hv,a56]at f;simp at f;obtain⟨-,e⟩:=a5Y (P++(pb (v:Int) n++R));have j:=b4V (v:Int) n;have i:(P++(pb (v:Int) n++R)).length=P.length+n+R.length:=by grind
 have e8:wrap .i64 ((8:Int)*(((wL (P++(pb (v:Int) n++R))).1.length:Nat):Int))=(8:Int)*(((wL (P++(pb (v:Int) n++R))).1.length:Nat):Int):=a0C (by omega);have d:wrap .i64 ((8:Int)*(((wL (P++(pb (v:Int) n++R))).1.length:Nat):Int)-(P.length:Int))=(8:Int)*(((wL (P++(pb (v:Int) n++R))).1.length:Nat):Int)-(P.length:Int):=a0C (by omega);have b:decide ((n:Int)<0)=false:=by simp
 have c:decide ((n:Int) > 64)=false:=by grind
 have l:decide ((n:Int) > (8:Int)*(((wL (P++(pb (v:Int) n++R))).1.length:Nat):Int)-(P.length:Int))=false:=by
  grind
 unfold a0G a2H;rw[show(rdr P (pb (v:Int) n++R)).2.2.1=0 from rfl];simp only[bne_self_eq_false,cF,b,c,oB];rw[show(rdr P (pb (v:Int) n++R)).1=(wL (P++(pb (v:Int) n++R))).1 from rfl,show(rdr P (pb (v:Int) n++R)).2.1=(P.length:Int)from rfl,e8,d]
 grind
def b5H(n:Nat)(x:Int):Prop:=-((2^n:Nat):Int)≤2*x∧2*x<((2^n:Nat):Int)
theorem c2L{n:Nat}(f:n≤62)(x:Int):∃v:Nat,a0X x n=(v:Int)∧v<2^n∧(v:Int)=x%((2^n:Nat):Int):=by
 have k:wrap .u64 x=x%18446744073709551616:=by rfl
 obtain⟨y,h⟩:∃y:Nat,x%18446744073709551616=(y:Int):=a01 (Int.emod_nonneg _ (by simp));have g:y<18446744073709551616:=by omega
 refine⟨y%2^n,?_,a41 _ (a16 n),?_⟩;simp_all[a0X,c4e];rw[Int.natCast_emod,←h];refine Int.emod_emod_of_dvd x ?_
 have:(2:Nat)^n ∣ 2^64:=a55 2 (by omega)
 exact a20.2 this
theorem c8p{n:Nat}(q:n≤62)(t:b5H n x)(c:a1x (P++(pb (a0X x n) n++R)))(g:(P++(pb (a0X x n) n++R)).length<200000000):
  a1d (rdr P (pb (a0X x n) n++R),(n:Int))=some (x,rdr (P++pb (a0X x n) n) R):=by
 obtain⟨v,hv,b,f⟩:=c2L q x;rw[hv]at c g⊢;have a:=c8o q b c g;obtain⟨i,j⟩:=t;have A:=a16 n;have o:(v:Int)=x∧0≤x∨(v:Int)=x+((2^n:Nat):Int)∧x<0:=by
  by_cases h0:0≤x
  exact .inl ⟨by rw[f];exact a89 h0 (by omega),h0⟩;refine .inr ⟨?_,by omega⟩;rw[f,←Int.add_emod_right];exact a89 (by omega) (by omega)
 unfold a1d;simp[a];rw[show(rdr (P++pb (v:Int) n) R).2.2.1=0 from rfl]
 simp
 cases n with
 |zero=>
  grind
 |succ k=>
  have l:(((k+1:Nat):Int)==0)=false:=by rfl
  have s:wrap .i64 ((64:Int)-((k+1:Nat):Int))=((64-(k+1):Nat):Int):=by grind[a0C]
  have r:decide (((64-(k+1):Nat):Int)<0)=false:=by simp
  simp only[l,cF,s,r];have p:64-(k+1)+(k+1)=64:=by omega
  generalize 64-(k+1)=m at p⊢;have u:2^m*2^(k+1)=18446744073709551616:=by rw[←Nat.pow_add,p]
  have d:((2^m:Nat):Int)*((2^(k+1):Nat):Int)=18446744073709551616:=by omega
  have hp:=a16 m;have w:A0n .u64 (v:Int) (m:Int)=(v:Int)*((2^m:Nat):Int):=by
   show wrap .u64 ((v:Int)*2^(min (m:Int).toNat 64))=_;rw[tN,a71 (by omega)];have e:(2:Int)^m=((2^m:Nat):Int):=by simp
   rw[e];refine a0M ⟨a47 (by omega) (by omega),?_⟩
   have:v*2^m<2^(k+1)*2^m:=Nat.mul_lt_mul_of_pos_right b hp
   grind
  have y:-9223372036854775808≤x*((2^m:Nat):Int):=by
   have:=Int.mul_le_mul_of_nonneg_right i (show(0:Int)≤((2^m:Nat):Int)by omega)
   grind
  have z:x*((2^m:Nat):Int)<9223372036854775808:=by
   have:=Int.mul_lt_mul_of_pos_right j (show(0:Int)<((2^m:Nat):Int)by omega)
   grind
  have C:wrap .i64 ((v:Int)*((2^m:Nat):Int))=x*((2^m:Nat):Int):=by
   rcases o with⟨h,-⟩|⟨h,-⟩
   grind[a0C]
   rw[h,Int.add_mul,Int.mul_comm ((2^(k+1):Nat):Int),d]
   grind[wrap,IntKind.bits,IntKind.signed]
  have B:A0o .i64 (x*((2^m:Nat):Int)) (m:Int)=x:=by
   show a80 (x*((2^m:Nat):Int)) (2^(min (m:Int).toNat 64))=x;rw[tN,a71 (by omega)]
   grind[Int.mul_ediv_cancel]
  simp_all
theorem c7q(P:List Int)(n:Nat)(R:List Int){c:Nat}(h:c<n):(P++(a00 n 0++1::R)).getD (P.length+c) 0=0:=by
 grind
theorem c9K(P:List Int)(n:Nat)(R:List Int):(P++(a00 n 0++1::R)).getD (P.length+n) 0=1:=by
 simp
theorem c8q{n lm:Nat}(x:n≤lm)(t:lm<1000000)(o:a1x (P++(a00 n 0++1::R)))(p:(P++(a00 n 0++1::R)).length<200000000):
  a3h (rdr P (a00 n 0++1::R),(lm:Int))=some ((n:Int),rdr (P++(a00 n 0++[1])) R):=by
 obtain⟨-,r⟩:=a5Y (P++(a00 n 0++1::R));have s:(P++(a00 n 0++1::R)).length=P.length+n+1+R.length:=by grind
 have e8:wrap .i64 ((8:Int)*(((wL (P++(a00 n 0++1::R))).1.length:Nat):Int))=(8:Int)*(((wL (P++(a00 n 0++1::R))).1.length:Nat):Int):=a0C (by omega);have g:∀c,c≤n→a1A (rdr P (a00 n 0++1::R),((P.length:Int)+(c:Int)))=some (if c=n then 1 else 0,rdr P (a00 n 0++1::R)):=fun c l=>by
  have:=c2h o (by omega) (i:=P.length+c) (by omega) ((P.length:Int),(0:Int),())
  rw[b02]at this;refine this.trans ?_
  by_cases e:c=n
  subst e;rw[c9K,if_pos rfl];rfl;rw[c7q P n R (by omega),if_neg e];rfl
 have h:∀c:Nat,c≤n→(((P.length:Int)+(c:Int))==(8:Int)*(((wL (P++(a00 n 0++1::R))).1.length:Nat):Int))=false:=fun c l=>by
  grind
 have j:wrap .i64 ((P.length:Int)+(n:Int)+1)=(((P++(a00 n 0++[1])).length:Nat):Int):=by
  rw[a0C (by omega)];grind
 have a:P++(a00 n 0++1::R)=(P++(a00 n 0++[1]))++R:=by simp
 have v:((rdr P (a00 n 0++1::R)).1,(((P++(a00 n 0++[1])).length:Nat):Int),(rdr P (a00 n 0++1::R)).2.2)=rdr (P++(a00 n 0++[1])) R:=by
  unfold rdr;simp
 have k:(rdr P (a00 n 0++1::R)).1=(wL (P++(a00 n 0++1::R))).1:=rfl;have m:=a1E (f:=a3p) (fun c:Nat=>((lm:Int),(c:Int),(P.length:Int)+(c:Int),rdr P (a00 n 0++1::R),())) n (b:=((n:Int),rdr (P++(a00 n 0++[1])) R,()))
  (fun c l=>by
   have d:((0:Int)==1)=false:=rfl;have q:(((c:Nat):Int)==(lm:Int))=false:=by grind
   have w:wrap .i64 ((c:Int)+1)=((c+1:Nat):Int):=a0B (by omega);have w2:wrap .i64 ((P.length:Int)+(c:Int)+1)=(P.length:Int)+((c+1:Nat):Int):=by rw[a0C (by omega)];rfl
   simp only[a3p,k,e8,h c (by omega),cF,g c (by omega),oB,if_neg (Nat.ne_of_lt l),d,q,w,w2])
  (by
   have d:((1:Int)==1)=true:=rfl;simp only[a3p,k,e8,h n (a27 _),cF,g n (a27 _),oB,if_pos rfl,d,cT,j]
   grind)
 unfold a3h;rw[show(rdr P (a00 n 0++1::R)).2.2.1=0 from rfl,show(rdr P (a00 n 0++1::R)).2.1=(P.length:Int)from rfl];have u:v0r (lm:Int) 0=(lm:Int):=by
  rfl
 grind
def OkR(P R:List Int):Prop:=a1x (P++R)∧(P++R).length<200000000
theorem OkR.shift{A:List Int}(h:OkR P (A++R)):OkR (P++A) R:=by
 unfold OkR at h⊢;simp_all
theorem a3E{n:Nat}(g:n≤62)(hv:v<2^n)(h:OkR P (pb (v:Int) n++R)):a0G (rdr P (pb (v:Int) n++R),(n:Int))=some ((v:Int),rdr (P++pb (v:Int) n) R):=c8o g hv h.1 h.2
theorem b0J{n:Nat}(f:n≤62)(g:b5H n x)(h:OkR P (pb (a0X x n) n++R)):a1d (rdr P (pb (a0X x n) n++R),(n:Int))=some (x,rdr (P++pb (a0X x n) n) R):=c8p f g h.1 h.2
def unB(n:Nat):List Int:=a00 n 0++[1]
theorem c4D{n lm:Nat}(f:n≤lm)(g:lm<1000000)(h:OkR P (unB n++R)):a3h (rdr P (unB n++R),(lm:Int))=some ((n:Int),rdr (P++unB n) R):=by
 have e:unB n++R=a00 n 0++1::R:=by simp[unB]
 rw[e]at h⊢;exact c8q f g h.1 h.2
theorem a4T{v n:Nat}(h:n≤63)(hv:v<2^n)(L:List Int):a0P (v:Int) n L=L++pb (v:Int) n:=by
 grind[a0P,a6L,a67]
def a9V(k:Nat)(x:Int):List Int:=
 if a0R x / 2^k<32 then unB (a0R x / 2^k)++pb ((a0R x%2^k:Nat):Int) k else unB 32++pb ((a0R x:Nat):Int) 32
theorem c8r{k:Nat}(f:k≤25)(g:a0A x=true)(L:List Int):a7f k x L=L++a9V k x:=by
 have h:=b0B g;unfold a7f a9V;split;rw[a4T (by omega) (a41 _ (a16 k))];simp[unL,unB]
 grind[a4T,unL,unB]
theorem c8s(f:a0A x=true):a7q ((a0R x:Nat):Int)=some x:=by
 have b:=b0B f;have d:=a1I.1 f;have c:a26 ((a0R x:Nat):Int) 2=((a0R x:Nat):Int)%2:=a43 (by omega);have a:a54 ((a0R x:Nat):Int) 2=((a0R x:Nat):Int) / 2:=a61 (by omega);have k:decide (((a0R x:Nat):Int)≥2147483648)=false:=by grind
 unfold a7q;simp only[k,cF,c,a]
 by_cases h0:0≤x
 have e:((a0R x:Nat):Int)=2*x:=by unfold a0R;grind
 rw[e];have h:((2*x)%2==(0:Int))=true:=by simp
 have g:2*x / 2=x:=by omega
 simp only[h,cT,g]
 grind[a0M,a0C]
 have e:((a0R x:Nat):Int)=-2*x-1:=by unfold a0R;grind
 rw[e];have h:((-2*x-1)%2==(0:Int))=false:=by grind
 have g:(-2*x-1) / 2=-x-1:=by omega
 simp only[h,cF,g]
 grind[a0M,a0C]
theorem c5J{k:Nat}(r:k≤25)(c:a0A x=true)(h:OkR P (a9V k x++R)):b3s (rdr P (a9V k x++R),(k:Int))=some (x,(0:Int),rdr (P++a9V k x) R):=by
 have m:=b0B c;have b:=c8s c;unfold b3s a0O;unfold a9V at h⊢;have s:∀A B:List Int,(rdr A B).2.2.1=0:=fun _ _=>rfl;split;rename_i g;rw[if_pos g,aA]at h;have j:=c4D (n:=a0R x / 2^k) (lm:=32) (by omega) (by omega) h;have l:=a3E (n:=k) (v:=a0R x%2^k) (by omega) (a41 _ (a16 k)) h.shift;have i:wrap .u64 ((a0R x / 2^k:Nat):Int)=((a0R x / 2^k:Nat):Int):=a3D (by omega);have d:decide (((a0R x / 2^k:Nat):Int)<32)=true:=by grind
 have e:decide ((k:Int)<0)=false:=by simp
 have f:a0R x / 2^k*2^k≤a0R x:=a78 _ _;have o:A0n .u64 ((a0R x / 2^k:Nat):Int) (k:Int)=((a0R x / 2^k*2^k:Nat):Int):=b2M (by omega) (by omega);have a:wrap .u64 (((a0R x / 2^k*2^k:Nat):Int)+((a0R x%2^k:Nat):Int))=((a0R x:Nat):Int):=by
  rw[←b02,Nat.div_add_mod',a0M (by omega)]
 grind
 rename_i g;rw[if_neg g,aA]at h;have j:=c4D (n:=32) (lm:=32) (by omega) (by omega) h;have l:=a3E (n:=32) (v:=a0R x) (by omega) (by omega) h.shift;have i:wrap .u64 (32:Int)=32:=a0M (by omega);have d:decide ((32:Int)<32)=false:=by simp
 have e:decide ((k:Int)<0)=false:=by simp
 have q:decide (((a0R x:Nat):Int)≥2147483648)=false:=by grind
 have p:A0o .u64 ((a0R x:Nat):Int) (k:Int)=((a0R x / 2^k:Nat):Int):=a6L (by omega)
 grind
def a3F(k:Nat)(l:List Int):List Int:=l.flatMap (a9V k)
theorem c1i{k:Nat}(g:k≤25):∀(l L:List Int),l.all a0A=true→a4R k l L=L++a3F k l
 | [],L,_=>by simp[a4R,a3F]
 |x::l,L,h=>by
  simp only[a07,bA]at h;show a4R k l (a7f k x L)=_;rw[c1i g l _ h.2,c8r g h.1];simp[a3F]
theorem b7y{k:Nat}(g:k≤25){N:Nat}(f:N<1000000):∀(l done P R:List Int),l.all a0A=true→done.length+l.length=N→OkR P (a3F k l++R)→
  y0s a9M ((k:Int),(N:Int),(done.length:Int),done,rdr P (a3F k l++R),())=some (Sum.inl (done++l,rdr (P++a3F k l) R,()))
 | [],done,P,R,_,hl,_=>by
  have:done.length=N:=by omega
  subst this;have d:decide ((done.length:Int)<(done.length:Int))=false:=by simp
  simp_all[a0E,a9M,a3F]
 |x::l,done,P,R,h,hl,hok=>by
  simp only[a07,bA]at h;rw[lC]at hl;have e:a3F k (x::l)++R=a9V k x++(a3F k l++R):=by simp[a3F]
  rw[e]at hok⊢;have d:decide ((done.length:Int)<(N:Int))=true:=by grind
  have b:=c5J g h.1 hok;have a:lim (a37 done+1)=true:=a0T (by omega);have c:wrap .i64 ((done.length:Int)+1)=(((done++[x]).length:Nat):Int):=by grind[a0C]
  rw[a0F (s':=((k:Int),(N:Int),(((done++[x]).length:Nat):Int),done++[x],rdr (P++a9V k x) (a3F k l++R),())) (by
   simp_all[a9M])]
  rw[b7y g f l (done++[x]) (P++a9V k x) R h.2 (by grind) hok.shift];simp[a3F]
theorem c5K{k:Nat}(a:k≤25)(h:l.all a0A=true)(b:l.length<1000000)(f:OkR P (a3F k l++R)):
  b3t (rdr P (a3F k l++R),(k:Int),((l.length:Nat):Int))=some (l,(0:Int),rdr (P++a3F k l) R):=by
 have hp:a1Q (k:Int)=some true:=by
  grind[a1Q]
 have c:decide (((l.length:Nat):Int)<0)=false:=by simp
 have d:decide (((l.length:Nat):Int) > 4194304)=false:=by grind
 have e:∀A B:List Int,(rdr A B).2.2.1=0:=fun _ _=>rfl;have g:=b7y a b l [] P R h (by simp) f;simp at g;unfold b3t a0O
 grind
theorem c9L(h:inW x v=true):b5H v x:=by
 have hp:=a16 v;rcases b8t.1 h with rfl|⟨g,-,f,k⟩;exact⟨by omega,by omega⟩;have e:2^v=2^(v-1)*2:=by rw[←a68];simp_all
 unfold b5H;omega
theorem b6M(h:l.all a0A=true):∀x∈l,b5H (a0J l) x:=fun x g=>c9L (c4A h x g)
def sB(n:Nat)(l:List Int):List Int:=l.flatMap fun x=>pb (a0X x n) n
theorem b0K{n:Nat}(g:n≤62):∀(l L:List Int),a1F n l L=L++sB n l
 | [],L=>by simp[a1F,sB]
 |x::l,L=>by
  show a1F n l (a0P (a0X x n) n L)=_;obtain⟨v,hv,h,-⟩:=c2L g x;rw[b0K g l,hv,a4T (by omega) h,←hv];simp[sB]
theorem c2i(n:Nat)(x:Int)(l R:List Int):sB n (x::l)++R=pb (a0X x n) n++(sB n l++R):=by simp[sB]
theorem b6g{k:Int}{n:Nat}(g:n≤62){N:Nat}(f:N<1000000):∀(l done P R:List Int),(∀x∈l,b5H n x)→done.length+l.length=N→OkR P (sB n l++R)→
  y0s a8K (k,(n:Int),(N:Int),(done.length:Int),done,rdr P (sB n l++R),())=some (k,(n:Int),done++l,rdr (P++sB n l) R,())
 | [],done,P,R,_,hl,_=>by
  have:done.length=N:=by omega
  subst this;have d:decide ((done.length:Int)<(done.length:Int))=false:=by simp
  simp_all[a0E,a8K,sB]
 |x::l,done,P,R,h,hl,hok=>by
  rw[lC]at hl;rw[c2i]at hok⊢;have d:decide ((done.length:Int)<(N:Int))=true:=by grind
  have b:=b0J g (h x (by simp)) hok;have a:lim (a37 done+1)=true:=a0T (by omega);have c:wrap .i64 ((done.length:Int)+1)=(((done++[x]).length:Nat):Int):=by grind[a0C]
  rw[a0F (s':=(k,(n:Int),(N:Int),(((done++[x]).length:Nat):Int),done++[x],rdr (P++pb (a0X x n) n) (sB n l++R),())) (by
   simp_all[a8K])]
  rw[b6g g f l (done++[x]) _ R (fun y e=>h y (by grind)) (by grind) hok.shift];simp[sB]
def b1q(k:Int)(part:List Int):List Int:=if k=31 then pb 31 5++(pb ((a0J part:Nat):Int) 5++sB (a0J part) part)else pb k 5++a3F k.toNat part
theorem c8t(h:kB k=true)(g:part.all a0A=true)(L:List Int):a9T k part L=L++b1q k part:=by
 have f:=a1W g;simp[kB]at h;obtain⟨K,rfl⟩:=a01 (show 0≤k by omega)
 grind[a9T,b1q,a3D,a4T,b0K,c1i]
theorem c4E(o:kB k=true)(c:part.all a0A=true)(b:part.length<1000000)(h:OkR P (b1q k part++R)):
  b2i (rdr P (b1q k part++R),((part.length:Nat):Int))=some (k,part,(0:Int),rdr (P++b1q k part) R):=by
 have p:=a1W c;have e:∀A B:List Int,(rdr A B).2.2.1=0:=fun _ _=>rfl;simp[kB]at o;obtain⟨K,rfl⟩:=a01 (show 0≤k by omega);unfold b2i a0O;unfold b1q at h⊢;split;rename_i f;rw[if_pos f,aA,aA]at h;rw[aA,aA];obtain rfl:K=31:=by omega
 have d:a0G (rdr P (pb 31 5++(pb ((a0J part:Nat):Int) 5++(sB (a0J part) part++R))),(5:Int))=_:=a3E (v:=31) (n:=5) (by omega) (by omega) h;have g:=h.shift;have l:a0G (rdr (P++pb 31 5) (pb ((a0J part:Nat):Int) 5++(sB (a0J part) part++R)),(5:Int))=_:=a3E (v:=a0J part) (n:=5) (by omega) (by omega) g;have a:=b6g (k:=31) (n:=a0J part) (by omega) b part [] _ R (b6M c) (by simp) g.shift;simp only[a22,nZ,a09,a30]at a;have i:wrap .i64 ((31:Nat):Int)=31:=by rfl
 have w2:wrap .i64 ((a0J part:Nat):Int)=((a0J part:Nat):Int):=a0C (by omega);have j:decide ((31:Int)≤25)=false:=by rfl
 have q:((31:Int) != 31)=false:=by rfl
 rw[d];simp only[oB,e,bne_self_eq_false,cF,i,j]
 erw[l]
 simp only[oB,w2]
 erw[a]
 simp only[oB,e,bne_self_eq_false,cF,a2q (show short part from b)]
 simp
 rename_i f;rw[if_neg f,aA]at h;rw[aA];have m:K≤25:=by omega
 have d:a0G (rdr P (pb (K:Int) 5++(a3F ((K:Int).toNat) part++R)),(5:Int))=_:=a3E (v:=K) (n:=5) (by omega) (by omega) h;have r:=c5K m c b h.shift;have i:wrap .i64 (K:Int)=(K:Int):=a0C (by omega);simp_all
def a1O:List Nat→List Int→List Int→List Int
 |z::zs,k::ks,l=>b1q k (l.take z)++a1O zs ks (l.drop z)
 |_,_,_=>[]
theorem c2M(h:l.all a0A=true)(z:Nat):(l.take z).all a0A=true:=lA.2 fun x g=>lA.1 h x (a34 g)
theorem c2N(h:l.all a0A=true)(z:Nat):(l.drop z).all a0A=true:=lA.2 fun x g=>lA.1 h x (a35 g)
theorem c1j:∀(zs:List Nat)(ks l L:List Int),ks.all kB=true→l.all a0A=true→a4S zs ks l L=L++a1O zs ks l
 |z::zs,k::ks,l,L,hk,hw=>by
  simp only[a07,bA]at hk;simp only[a4S,a1O];rw[c1j zs ks _ _ hk.2 (c2N hw z),c8t hk.1 (c2M hw z)]
  simp
 | [],_,_,L,_,_=>by simp[a4S,a1O]
 |_::_,[],_,L,_,_=>by simp[a4S,a1O]
theorem c8u(h:List Nat)(z:Nat)(g:List Nat):(a1p (h++z::g)).getD h.length 0=(z:Int):=by
 simp_all[a1p]
theorem b6h{o:Int}{z0:Prt}:∀(zs:List Nat)(ks l dk acc P R:List Int)(dz:List Nat),ks.length=zs.length→ks.all kB=true→zs.sum=l.length→l.all a0A=true→
  dk.length=dz.length→(dz++zs).length≤256→acc.length+l.length≤10000→OkR P (a1O zs ks l++R)→
  y0s a8L (((a1p (dz++zs)).length:Int),(dz.length:Int),acc,a1p (dz++zs),rdr P (a1O zs ks l++R),z0,(o,dk,()),()) =
   some (Sum.inl (acc++l,z0,(o,dk++ks,()),rdr (P++a1O zs ks l) R,()))
 | [],ks,l,dk,acc,P,R,dz,hk,_,hs,_,_,_,_,_=>by
  obtain rfl:ks=[]:=a45.1 hk;obtain rfl:l=[]:=a45.1 (by simp_all);have d:decide ((dz.length:Int)<((a1p (dz++[])).length:Int))=false:=by simp[a1w]
  rw[a0E (b:=Sum.inl (acc,z0,(o,dk,()),rdr P R,())) (by simp only[a8L,d,cF];rfl)];simp[a1O]
 |z::zs,[],_,_,_,_,_,_,hk,_,_,_,_,_,_,_=>by simp_all
 |z::zs,k::ks,l,dk,acc,P,R,dz,hk,hkb,hs,hw,hd,h256,hacc,hok=>by
  simp only[a07,bA]at hkb;rw[a62]at hs;have p:z≤l.length:=by omega
  have a:(l.take z).length=z:=by simp_all
  have e:a1O (z::zs) (k::ks) l++R=b1q k (l.take z)++(a1O zs ks (l.drop z)++R):=by simp[a1O]
  rw[e]at hok⊢;have j:(a1p (dz++z::zs)).length=dz.length+1+zs.length:=by grind[a1w]
  have d:decide ((dz.length:Int)<((a1p (dz++z::zs)).length:Int))=true:=by grind
  have m:decide ((0:Int)≤(dz.length:Int))=true:=by simp
  have h:=c4E hkb.1 (c2M hw z) (by omega) hok;rw[a]at h;have i:((0:Int) != 0)=false:=rfl;rw[lN,lC]at h256;have g:lim (a37 dk+1)=true:=a0T (by omega);have f:lim (a37 acc+a37 (l.take z))=true:=a0T (by omega);have c:wrap .i64 ((dz.length:Int)+1)=(((dz++[z]).length:Nat):Int):=by grind[a0C]
  have n:dz++z::zs=(dz++[z])++zs:=by simp
  rw[a0F (s':=(((a1p ((dz++[z])++zs)).length:Int),(((dz++[z]).length:Nat):Int),acc++l.take z,a1p ((dz++[z])++zs),rdr (P++b1q k (l.take z)) (a1O zs ks (l.drop z)++R),z0,(o,dk++[k],()),())) (by
   simp only[a8L,d,m,a03,cT,tN,c8u,h,oB,i,cF,g,f,c,a06]
   simp)]
  rw[b6h zs ks (l.drop z) (dk++[k]) (acc++l.take z) _ R (dz++[z]) (by grind) hkb.2 (by grind) (c2N hw z) (by grind) (by grind) (by grind) hok.shift];simp[a1O]
def a6M(p:Prt)(zn:List Nat)(l:List Int):List Int:=pb p.1 4++a1O zn p.2.1 l
theorem c3v(h:PartsOk p n warm l zn)(L:List Int):a4u p zn l L=L++a6M p zn l:=by
 obtain⟨o,ks,u⟩:=p;have g:=h.order;simp only at g;obtain⟨O,rfl⟩:=a01 g.1;unfold a4u a6M;simp only;rw[a3D (by omega),a4T (n:=4) (by omega) (by omega),c1j _ _ _ _ h.all h.wide]
 simp
theorem c4F(h:PartsOk p n warm l zn)(g:OkR P (a6M p zn l++R)):
  b2j (rdr P (a6M p zn l++R),n,warm)=some (p,l,(0:Int),rdr (P++a6M p zn l) R):=by
 obtain⟨o,ks,u⟩:=p;have c:=h.order;have m:=h.short;have b:=h.len;simp only at c;obtain⟨O,rfl⟩:=a01 c.1;have i:∀A B:List Int,(rdr A B).2.2.1=0:=fun _ _=>rfl;have f:=h.may;unfold a5M at f;simp only[bA,a33,beq_eq_false_iff_ne]at f;have d:=h.sizes;simp only at d;have a:(((a1p zn).length:Int)==0)=false:=by
  grind
 unfold a6M at g⊢;simp only at g⊢;rw[aA]at g⊢;have e:a0G (rdr P (pb (O:Int) 4++(a1O zn ks l++R)),(4:Int))=_:=a3E (v:=O) (n:=4) (by omega) (by omega) g;have j:wrap .i64 (O:Int)=(O:Int):=a0C (by omega);have k:=b6h (o:=(O:Int)) (z0:=((0:Int),([]:List Int),())) zn ks l [] [] _ R [] h.ks h.all h.sum h.wide rfl (by simp_all) (by grind) g.shift;simp only[a22,nZ,a09,a30]at k;unfold b2j a0O;simp[b4q,h.row];rw[e];simp[i,j,a2b,d,a];simp_all
def a7D(s:Sub):List Int:=
 pb ((s.2.2.2.2.2.1.length-1:Nat):Int) 5++(pb s.2.2.2.1 4++(pb ((a0J s.2.2.2.2.2.1:Nat):Int) 5++sB (a0J s.2.2.2.2.2.1) s.2.2.2.2.2.1))
theorem c2O{t:Int}(h:b0A c t=true):1≤c.length∧c.length≤32∧0≤t∧t≤15∧c.all a0A=true:=by
 simp only[b0A,bA,dT]at h;obtain⟨g,f,k,a,b⟩:=h;refine⟨g,f,k,a,lA.2 fun x d=>?_⟩
 have:=lA.1 b x d
 simp[c0I]at this;rw[a1I];omega
theorem c1k{s:Sub}(h:b0A s.2.2.2.2.2.1 s.2.2.2.1=true)(L:List Int):a6H s L=L++a7D s:=by
 obtain⟨a,b,g,d,f⟩:=c2O h;have k:=a1W f;unfold a6H a7D;generalize s.2.2.2.2.2.1=c at *;generalize s.2.2.2.1=t at *;obtain⟨T,rfl⟩:=a01 g
 grind[a0C,a0M,b0K,a4T]
def b6N(s:Sub)(c:List Int):Sub:=(s.1,s.2.1,s.2.2.1,s.2.2.2.1,s.2.2.2.2.1,c,s.2.2.2.2.2.2)
def c2j(s:Sub)(t:Int):Sub:=(s.1,s.2.1,s.2.2.1,t,s.2.2.2.2)
theorem c1l{n:Nat}(g:n≤62){N:Nat}(f:N<1000000)(s:Sub):∀(l done P R:List Int),(∀x∈l,b5H n x)→done.length+l.length=N→OkR P (sB n l++R)→
  y0s a6f ((n:Int),(N:Int),(done.length:Int),rdr P (sB n l++R),b6N s done,())=some ((n:Int),b6N s (done++l),rdr (P++sB n l) R,())
 | [],done,P,R,_,hl,_=>by
  have:done.length=N:=by omega
  subst this;have d:decide ((done.length:Int)<(done.length:Int))=false:=by simp
  simp_all[a0E,a6f,sB]
 |x::l,done,P,R,h,hl,hok=>by
  rw[lC]at hl;rw[c2i]at hok⊢;have d:decide ((done.length:Int)<(N:Int))=true:=by grind
  have a:=b0J g (h x (by simp)) hok;have k:lim (a37 done+1)=true:=a0T (by omega);have b:wrap .i64 ((done.length:Int)+1)=(((done++[x]).length:Nat):Int):=by grind[a0C]
  rw[a0F (s':=((n:Int),(N:Int),(((done++[x]).length:Nat):Int),rdr (P++pb (a0X x n) n) (sB n l++R),b6N s (done++[x]),())) (by
   simp_all[a6f,b6N])]
  rw[c1l g f s l (done++[x]) _ R (fun y c=>h y (by grind)) (by grind) hok.shift];simp[sB]
theorem b9d{s0:Sub}(h:b0A s.2.2.2.2.2.1 s.2.2.2.1=true)(r:s0.2.2.2.2.2.1=[])(g:OkR P (a7D s++R)):
  a8J (rdr P (a7D s++R),s0)=some (true,rdr (P++a7D s) R,b6N (c2j s0 s.2.2.2.1) s.2.2.2.2.2.1):=by
 obtain⟨u,w,l,x,d⟩:=c2O h;have m:=a1W d;unfold a7D at g⊢;generalize s.2.2.2.2.2.1=c at *;generalize s.2.2.2.1=t at *;obtain⟨T,rfl⟩:=a01 l;simp at g⊢;have e:a0G (rdr P (pb ((c.length-1:Nat):Int) 5++(pb (T:Int) 4++(pb ((a0J c:Nat):Int) 5++(sB (a0J c) c++R)))),(5:Int))=_:=a3E (v:=c.length-1) (n:=5) (by omega) (by omega) g;have f:=g.shift;have i:a0G (rdr (P++pb ((c.length-1:Nat):Int) 5) (pb (T:Int) 4++(pb ((a0J c:Nat):Int) 5++(sB (a0J c) c++R))),(4:Int))=_:=a3E (v:=T) (n:=4) (by omega) (by omega) f;have k:=f.shift;have j:a0G (rdr (P++pb ((c.length-1:Nat):Int) 5++pb (T:Int) 4) (pb ((a0J c:Nat):Int) 5++(sB (a0J c) c++R)),(5:Int))=_:=a3E (v:=a0J c) (n:=5) (by omega) (by omega) k;have a:=c1l (n:=a0J c) (by omega) (N:=c.length) (by omega) (c2j s0 (T:Int)) c [] _ R (b6M d) (by simp) k.shift;simp only[a22,nZ,a09,a30]at a;have o:wrap .i64 ((c.length-1:Nat):Int)=((c.length-1:Nat):Int):=a0C (by omega);have w2:wrap .i64 (((c.length-1:Nat):Int)+1)=(c.length:Int):=by grind[a0C]
 have p:wrap .i64 (T:Int)=(T:Int):=a0C (by omega);have q:wrap .i64 ((a0J c:Nat):Int)=((a0J c:Nat):Int):=a0C (by omega);have b:((s0.1,s0.2.1,s0.2.2.1,(T:Int),s0.2.2.2.2):Sub)=b6N (c2j s0 (T:Int)) []:=by
  grind[b6N,c2j]
 unfold a8J;rw[e]
 simp
 rw[i];simp only[oB];rw[j];simp only[oB,o,w2,p,q]
 erw[b,a]
 simp only[oB];rw[show(b6N (c2j s0 (T:Int)) c).2.2.2.2.2.1=c from rfl,a2q (show short c by unfold short;omega)]
 simp
def a8z(st:List Stg):List Int:=st.flatMap fun g=>pb (g.1-1) 5++pb g.2.1 4
theorem b9e{g:Stg}(h:Ab.stageB g=true):1≤g.1∧g.1≤32∧0≤g.2.1∧g.2.1≤8:=by
 simp_all[Ab.stageB]
theorem b9f:∀(st:List Stg)(L:List Int),st.all Ab.stageB=true→a3m st L=L++a8z st
 | [],L,_=>by simp[a3m,a8z]
 |g::st,L,h=>by
  simp only[a07,bA]at h;obtain⟨k,c,f,d⟩:=b9e h.1;show a3m st (a6G g L)=_;rw[b9f st _ h.2];obtain⟨a,b,u⟩:=g;simp only at k c f d;obtain⟨B,rfl⟩:=a01 f;obtain⟨A,e⟩:=a01 (show 0≤a-1 by omega)
  grind[a6G,b4v,a3D,a4T,a8z]
def a5g(s:Sub):List Int:=
 if s.1=2 then pb s.2.2.1 3
 else if s.1=3 then a7D s
 else if s.1=4 then pb (s.2.2.2.2.1-1) 10++(sB 8 s.2.2.2.2.2.2.1++a7D s)
 else if s.1=5 then pb ((s.2.2.2.2.2.2.2.1.length:Nat):Int) 2++a8z s.2.2.2.2.2.2.2.1
 else[]
theorem c2P(h:a3Z s.1 s n)(L:List Int):a2A s L=L++a5g s:=by
 unfold a2A a5g;rcases h with k|k|⟨k,g,f,-⟩|⟨k,g,-⟩|⟨k,g,-,a⟩|⟨k,g,f⟩
 grind
 grind
 rw[if_pos k,if_pos k]
 grind[a01,a3D,a4T]
 simp_all[c1k];rw[if_neg (by omega),if_neg (by omega),if_pos k,if_neg (by omega),if_neg (by omega),if_pos k,c1k g,b0K (by omega)];simp only[b2v,bA,dT]at a;obtain⟨A,b⟩:=a01 (show 0≤s.2.2.2.2.1-1 by omega)
 grind[b4v,a3D,a4T]
 rw[if_neg (by omega),if_neg (by omega),if_neg (by omega),if_pos k,if_neg (by omega),if_neg (by omega),if_neg (by omega),if_pos k];simp only[a9F,bA,dT]at f
 grind[b9f,a3D,a4T]
def b5c(s:Sub):List Int:=pb s.1 3++(pb s.2.1 5++pb ((a0J s.2.2.2.2.2.2.2.2.1:Nat):Int) 5)
theorem c8v(g:0≤s.1∧s.1≤5)(f:0≤s.2.1∧s.2.1≤30)(h:s.2.2.2.2.2.2.2.2.1.all a0A=true)(L:List Int):b2x s L=L++b5c s:=by
 grind[a01,a1W,b2x,b5c,a3D,a4T]
def a4a(s:Sub):Sub:=(s.1,s.2.1,s.2.2.1,s.2.2.2.1,s.2.2.2.2.1,s.2.2.2.2.2.1,s.2.2.2.2.2.2.1,s.2.2.2.2.2.2.2.1,[],(0,[],()),[],())
theorem b9g{wd N:Nat}{ok:Bool}(m:N<1000)(k w:Int):∀(st done:List Stg)(P R:List Int),st.all Ab.stageB=true→done.length+st.length=N→OkR P (a8z st++R)→
  y0s a6T ((wd:Int),ok,(N:Int),(done.length:Int),rdr P (a8z st++R),(k,w,0,0,0,[],[0,0,0],done,[],(0,[],()),[],()),()) =
   some ((wd:Int),ok,(k,w,0,0,0,[],[0,0,0],done++st,[],(0,[],()),[],()),rdr (P++a8z st) R,())
 | [],done,P,R,_,hl,_=>by
  have:done.length=N:=by omega
  subst this;have d:decide ((done.length:Int)<(done.length:Int))=false:=by simp
  simp_all[a0E,a6T,a8z]
 |g::st,done,P,R,h,hl,hok=>by
  simp only[a07,bA]at h;rw[lC]at hl;obtain⟨i,j,c,l⟩:=b9e h.1;obtain⟨a,b,u⟩:=g;simp only at i j c l;obtain⟨B,rfl⟩:=a01 c;obtain⟨A,r⟩:=a01 (show 0≤a-1 by omega);obtain rfl:a=(A:Int)+1:=by omega
  have e:a8z (((A:Int)+1,(B:Int),u)::st)++R=pb (A:Int) 5++(pb (B:Int) 4++(a8z st++R)):=by simp[a8z]
  rw[e]at hok⊢;have d:decide ((done.length:Int)<(N:Int))=true:=by grind
  have p:a0G (rdr P (pb (A:Int) 5++(pb (B:Int) 4++(a8z st++R))),(5:Int))=_:=a3E (v:=A) (n:=5) (by omega) (by omega) hok;have f:=hok.shift;have q:a0G (rdr (P++pb (A:Int) 5) (pb (B:Int) 4++(a8z st++R)),(4:Int))=_:=a3E (v:=B) (n:=4) (by omega) (by omega) f;have o:lim (a37 done+1)=true:=a0T (by omega);have t:wrap .i64 (A:Int)=(A:Int):=a0C (by omega);have w2:wrap .i64 (B:Int)=(B:Int):=a0C (by omega);have x:wrap .i64 ((A:Int)+1)=(A:Int)+1:=a0C (by omega);have s:wrap .u64 ((done.length:Int)+1)=(((done++[((A:Int)+1,(B:Int),u)]).length:Nat):Int):=by grind[a0M]
  rw[a0F (s':=((wd:Int),ok,(N:Int),(((done++[((A:Int)+1,(B:Int),u)]).length:Nat):Int),rdr (P++pb (A:Int) 5++pb (B:Int) 4) (a8z st++R),(k,w,0,0,0,[],[0,0,0],done++[((A:Int)+1,(B:Int),u)],[],(0,[],()),[],()),())) (by
    simp_all[a6T])]
  rw[b9g m k w st (done++[((A:Int)+1,(B:Int),u)]) _ R h.2 (by grind) f.shift];simp[a8z]
theorem c2k(h:b6r x=true):b5H 8 x:=by
 simp[b6r]at h;unfold b5H;omega
theorem c8w{wd:Nat}{w g:Int}{a b c:Int}(m:b6r a=true)(hb:b6r b=true)(o:b6r c=true)(f:OkR P (sB 8 [a,b,c]++R)):
  y0s a3l ((wd:Int),(0:Int),rdr P (sB 8 [a,b,c]++R),(k,w,0,0,g,[],[0,0,0],[],[],(0,[],()),[],()),()) =
   some ((wd:Int),rdr (P++sB 8 [a,b,c]) R,(k,w,0,0,g,[],[a,b,c],[],[],(0,[],()),[],()),()):=by
 have e:sB 8 [a,b,c]++R=pb (a0X a 8) 8++(pb (a0X b 8) 8++(pb (a0X c 8) 8++R)):=by rfl
 rw[e]at f⊢;have t:a1d (rdr P (pb (a0X a 8) 8++(pb (a0X b 8) 8++(pb (a0X c 8) 8++R))),(8:Int))=_:=b0J (n:=8) (by omega) (c2k m) f;have h:=f.shift;have u:a1d (rdr (P++pb (a0X a 8) 8) (pb (a0X b 8) 8++(pb (a0X c 8) 8++R)),(8:Int))=_:=b0J (n:=8) (by omega) (c2k hb) h;have d:=h.shift;have v:a1d (rdr (P++pb (a0X a 8) 8++pb (a0X b 8) 8) (pb (a0X c 8) 8++R),(8:Int))=_:=b0J (n:=8) (by omega) (c2k o) d;have x:wrap .i64 ((0:Int)+1)=1:=by rfl
 have y:wrap .i64 ((1:Int)+1)=2:=by rfl
 have w2:wrap .i64 ((2:Int)+1)=3:=by rfl
 have p:decide ((0:Int)<3)=true:=by rfl
 have i:decide ((0:Int)≤0)=true:=by rfl
 have q:decide ((1:Int)<3)=true:=by rfl
 have j:decide ((0:Int)≤1)=true:=by rfl
 have r:decide ((2:Int)<3)=true:=by rfl
 have l:decide ((0:Int)≤2)=true:=by rfl
 have s:decide ((3:Int)<3)=false:=by rfl
 rw[a0F (s':=((wd:Int),(1:Int),rdr (P++pb (a0X a 8) 8) (pb (a0X b 8) 8++(pb (a0X c 8) 8++R)),(k,w,0,0,g,[],[a,0,0],[],[],(0,[],()),[],()),())) (by
  simp_all[a3l])]
 rw[a0F (s':=((wd:Int),(2:Int),rdr (P++pb (a0X a 8) 8++pb (a0X b 8) 8) (pb (a0X c 8) 8++R),(k,w,0,0,g,[],[a,b,0],[],[],(0,[],()),[],()),())) (by
  simp_all[a3l])]
 rw[a0F (s':=((wd:Int),(3:Int),rdr (P++pb (a0X a 8) 8++pb (a0X b 8) 8++pb (a0X c 8) 8) R,(k,w,0,0,g,[],[a,b,c],[],[],(0,[],()),[],()),())) (by
  simp_all[a3l])]
 simp_all[a0E,a3l,sB]
theorem c7r{s:Sub}{n:Int}(hs:a1u s n)(ht:s.2.2.2.2.2.2.1.length=3){P R:List Int}(i:OkR P (b5c s++(a5g s++R))):
  a9L (rdr P (b5c s++(a5g s++R)))=some (a4a s,((a0J s.2.2.2.2.2.2.2.2.1:Nat):Int),true,rdr (P++(b5c s++a5g s)) R):=by
 obtain⟨-,-,hf,ha,I,L,-,-,M,-⟩:=hs;obtain⟨k,w,o,sh,g,c,t,st,a,b,d,u⟩:=s;have hk:=b6K hf;simp only at hk I L M ht;have h0:=a1W M;obtain⟨K,rfl⟩:=a01 hk.1;obtain⟨W,rfl⟩:=a01 I;unfold b5c at i⊢;simp at i⊢;have Y:a0G (rdr P (pb (K:Int) 3++(pb (W:Int) 5++(pb ((a0J a:Nat):Int) 5++(a5g ((K:Int),(W:Int),o,sh,g,c,t,st,a,b,d,u)++R)))),(3:Int))=_:=a3E (v:=K) (n:=3) (by omega) (by omega) i;have j:=i.shift;have Z:a0G (rdr (P++pb (K:Int) 3) (pb (W:Int) 5++(pb ((a0J a:Nat):Int) 5++(a5g ((K:Int),(W:Int),o,sh,g,c,t,st,a,b,d,u)++R))),(5:Int))=_:=a3E (v:=W) (n:=5) (by omega) (by omega) j;have l:=j.shift;have g3:a0G (rdr (P++pb (K:Int) 3++pb (W:Int) 5) (pb ((a0J a:Nat):Int) 5++(a5g ((K:Int),(W:Int),o,sh,g,c,t,st,a,b,d,u)++R)),(5:Int))=_:=a3E (v:=a0J a) (n:=5) (by omega) (by omega) l;have f:=l.shift;have wK:wrap .i64 (K:Int)=(K:Int):=a0C (by omega);have wW:wrap .i64 (W:Int)=(W:Int):=a0C (by omega);have wd:wrap .i64 ((a0J a:Nat):Int)=((a0J a:Nat):Int):=a0C (by omega);unfold a9L;rw[Y];simp only[oB];rw[Z];simp only[oB];rw[g3];simp only[oB,wK,wW,wd];generalize hX:P++pb (K:Int) 3++pb (W:Int) 5++pb ((a0J a:Nat):Int) 5=X at f⊢;have H:∀B:List Int,P++(pb (K:Int) 3++(pb (W:Int) 5++(pb ((a0J a:Nat):Int) 5++B)))=X++B:=fun B=>by grind
 rw[H];obtain⟨a1,D,q,r,E,C⟩:=ha;simp only at a1 D q r E C;clear Y Z g3 i j l hX H;rcases hf with h|h|⟨h,m,G,-⟩|⟨h,m,-⟩|⟨h,m,-,Q⟩|⟨h,m,G⟩
 
 simp only at h;obtain rfl:=a1 (by omega);obtain rfl:=D (by omega);obtain rfl:=q (by omega);obtain rfl:=r (by omega);obtain rfl:=E (by omega);obtain rfl:=C (by omega);rw[h];have hb:a5g ((0:Int),(W:Int),0,0,0,[],[0,0,0],[],a,b,d,u)=[]:=rfl;rw[hb,a09,a40];rfl;simp only at h;obtain rfl:=a1 (by omega);obtain rfl:=D (by omega);obtain rfl:=q (by omega);obtain rfl:=r (by omega);obtain rfl:=E (by omega);obtain rfl:=C (by omega);rw[h];have hb:a5g ((1:Int),(W:Int),0,0,0,[],[0,0,0],[],a,b,d,u)=[]:=rfl;rw[hb,a09,a40];rfl;simp only at h m G;obtain rfl:=D (by omega);obtain rfl:=q (by omega);obtain rfl:=r (by omega);obtain rfl:=E (by omega);obtain rfl:=C (by omega);rw[h]at f⊢;obtain⟨O,rfl⟩:=a01 m;have hb:a5g ((2:Int),(W:Int),(O:Int),0,0,[],[0,0,0],[],a,b,d,u)=pb (O:Int) 3:=rfl;rw[hb]at f⊢;have e:((2:Int)==2)=true:=rfl;have F:a0G (rdr X (pb (O:Int) 3++R),(3:Int))=_:=a3E (v:=O) (n:=3) (by omega) (by omega) f;have wO:wrap .i64 (O:Int)=(O:Int):=a0C (by omega);simp only[e,cT,F,oB,wO];rfl;simp only at h m;obtain rfl:=a1 (by omega);obtain rfl:=q (by omega);obtain rfl:=r (by omega);obtain rfl:=C (by omega);rw[h]at f⊢;have hb:a5g ((3:Int),(W:Int),0,sh,0,c,[0,0,0],[],a,b,d,u)=a7D ((3:Int),(W:Int),0,sh,0,c,[0,0,0],[],a,b,d,u):=rfl;rw[hb]at f⊢;have T:((3:Int)==2)=false:=rfl;have U:((3:Int)==4)=false:=rfl;have V:((3:Int)==3)=true:=rfl;have F:=b9d (s:=((3:Int),(W:Int),0,sh,0,c,[0,0,0],[],a,b,d,u)) (s0:=((3:Int),(W:Int),0,0,0,[],a00 3 0,[],[],(0,[],()),[],())) m rfl f;simp only[T,V,U,cT,cF,oB]
 erw[F]
 rfl
 ·simp only at h m Q;obtain rfl:=a1 (by omega);obtain rfl:=C (by omega);rw[h]at f⊢;simp only[b2v,bA,dT]at Q;obtain⟨Q,h5,S⟩:=Q;obtain⟨A,hA⟩:=a01 (show 0≤g-1 by omega);obtain rfl:g=(A:Int)+1:=by omega
  obtain⟨x,y,z,rfl⟩:∃x y z,t=[x,y,z]:=by
   match t,ht with
   | [x,y,z],_=>simp
  simp at S;have hb:a5g ((4:Int),(W:Int),0,sh,(A:Int)+1,c,[x,y,z],[],a,b,d,u)=pb (A:Int) 10++(sB 8 [x,y,z]++a7D ((4:Int),(W:Int),0,sh,(A:Int)+1,c,[x,y,z],[],a,b,d,u)):=by
   show pb ((A:Int)+1-1) 10++_=_
   simp
  rw[hb]at f⊢;simp only[aA]at f⊢;have T:((4:Int)==2)=false:=rfl;have U:((4:Int)==4)=true:=rfl;have F:a0G (rdr X (pb (A:Int) 10++(sB 8 [x,y,z]++(a7D ((4:Int),(W:Int),0,sh,(A:Int)+1,c,[x,y,z],[],a,b,d,u)++R))),(10:Int))=_:=a3E (v:=A) (n:=10) (by omega) (by omega) f;have p:=f.shift;have wA:wrap .i64 (A:Int)=(A:Int):=a0C (by omega);have h4:wrap .i64 ((A:Int)+1)=(A:Int)+1:=a0C (by omega);have g5:=c8w (wd:=a0J a) (k:=4) (w:=(W:Int)) (g:=(A:Int)+1) S.1 S.2.1 S.2.2 p;have g6:=b9d (s:=((4:Int),(W:Int),0,sh,(A:Int)+1,c,[x,y,z],[],a,b,d,u)) (s0:=((4:Int),(W:Int),0,0,(A:Int)+1,[],[x,y,z],[],[],(0,[],()),[],())) m rfl p.shift;simp_all[a4a,b6N,c2j]
 simp only at h m G;obtain rfl:=a1 (by omega);obtain rfl:=D (by omega);obtain rfl:=q (by omega);obtain rfl:=r (by omega);obtain rfl:=E (by omega);rw[h]at f⊢;simp only[a9F,bA,dT]at G;have hb:a5g ((5:Int),(W:Int),0,0,0,[],[0,0,0],st,a,b,d,u)=pb ((st.length:Nat):Int) 2++a8z st:=rfl;rw[hb]at f⊢;simp only[aA]at f⊢;have T:((5:Int)==2)=false:=rfl;have U:((5:Int)==4)=false:=rfl;have V:((5:Int)==3)=false:=rfl;have e5:((5:Int)==5)=true:=rfl;have F:a0G (rdr X (pb ((st.length:Nat):Int) 2++(a8z st++R)),(2:Int))=_:=a3E (v:=st.length) (n:=2) (by omega) (by omega) f;have g5:=b9g (wd:=a0J a) (ok:=true) (N:=st.length) (by omega) (5:Int) (W:Int) st [] _ R G.2 (by simp) f.shift;simp_all[a4a]
def a8A(s:Sub)(zn:List Nat):List Int:=
 (b5c s++a5g s)++(sB (a0J s.2.2.2.2.2.2.2.2.1) s.2.2.2.2.2.2.2.2.1++if s.1=0∨s.1=1 then[]else a6M s.2.2.2.2.2.2.2.2.2.1 zn s.2.2.2.2.2.2.2.2.2.2.1)
theorem b9h(b:a1u s n)(d:s.1≠0∧s.1≠1→PartsOk s.2.2.2.2.2.2.2.2.2.1 n ((s.2.2.2.2.2.2.2.2.1.length:Nat):Int) s.2.2.2.2.2.2.2.2.2.2.1 zn)(L:List Int):
  a5r s zn L=L++a8A s zn:=by
 obtain⟨-,-,h,-,k,a,-,-,f,-⟩:=b;have c:=a1W f;have g:=c8v (b6K h) ⟨k,a⟩ f L;unfold a5r a8A
 by_cases hk:s.1=0∨s.1=1
 rw[if_pos hk,if_pos hk,b0K (by omega),c2P h,g]
 simp
 rw[if_neg hk,if_neg hk,c3v (d (not_or.1 hk)),b0K (by omega),c2P h,g]
 simp
def a8B(s:Sub)(l:List Int):Sub:=(s.1,s.2.1,s.2.2.1,s.2.2.2.1,s.2.2.2.2.1,s.2.2.2.2.2.1,s.2.2.2.2.2.2.1,s.2.2.2.2.2.2.2.1,l,s.2.2.2.2.2.2.2.2.2)
theorem c2Q{wd:Nat}(g:wd≤62){N:Nat}(f:N<1000000)(n:Int)(ok:Bool)(z s:Sub):∀(l done P R:List Int),(∀x∈l,b5H wd x)→done.length+l.length=N→OkR P (sB wd l++R)→
  y0s b0X (n,(wd:Int),ok,(N:Int),(done.length:Int),rdr P (sB wd l++R),z,a8B s done,())=some (n,(wd:Int),ok,rdr (P++sB wd l) R,z,a8B s (done++l),())
 | [],done,P,R,_,hl,_=>by
  have:done.length=N:=by omega
  subst this;have d:decide ((done.length:Int)<(done.length:Int))=false:=by simp
  simp_all[a0E,b0X,sB]
 |x::l,done,P,R,h,hl,hok=>by
  rw[lC]at hl;rw[c2i]at hok⊢;have d:decide ((done.length:Int)<(N:Int))=true:=by grind
  have a:=b0J g (h x (by simp)) hok;have k:lim (a37 done+1)=true:=a0T (by omega);have b:wrap .i64 ((done.length:Int)+1)=(((done++[x]).length:Nat):Int):=by grind[a0C]
  rw[a0F (s':=(n,(wd:Int),ok,(N:Int),(((done++[x]).length:Nat):Int),rdr (P++pb (a0X x wd) wd) (sB wd l++R),z,a8B s (done++[x]),())) (by
   simp_all[b0X,a8B])]
  rw[c2Q g f n ok z s l (done++[x]) _ R (fun y c=>h y (by grind)) (by grind) hok.shift];simp[sB]
theorem c7s(h:SmallS s):SmallS (a4a s) where
 coefs:=h.coefs
 taps:=h.taps
 stages:=h.stages
 warm:=by show([]:List Int).length≤5000;simp
 rest:=by show([]:List Int).length≤5000;simp
 ks:=by show([]:List Int).length≤_;simp
theorem d1W(h:SmallS s)(I:(a2n s n).isSome=true)(T:s.1≠0∧s.1≠1→PartsOk s.2.2.2.2.2.2.2.2.2.1 n ((s.2.2.2.2.2.2.2.2.1.length:Nat):Int) s.2.2.2.2.2.2.2.2.2.2.1 zn)(e:OkR P (a8A s zn++R)):b2G (rdr P (a8A s zn++R),n)=some (s,(0:Int),rdr (P++a8A s zn) R):=by
 have K:=b5G I;have d:=@c7r s n K h.taps P;have x:=K;obtain⟨U,V,O,-,-,-,-,S,r,-,v,-⟩:=x;have Q:=a1W r;have y:=h.warm;have L:decide (n<1)=false:=by simp_all
 have M:decide (n > 4096)=false:=by simp_all
 have j:∀A B:List Int,(rdr A B).2.2.1=0:=fun _ _=>rfl;have l:a8j ((a4a s).1,a4a s,n)=some true:=by
  rw[b5V (c7s h)];unfold b4t
  have:a3Z (a4a s).1 (a4a s) n:=O
  simp_all
 have i:a4I (a4a s,n)=some ((s.2.2.2.2.2.2.2.2.1.length:Nat):Int):=by
  rw[b2L]
  have:a2p (a4a s) n=a2p s n:=rfl
  simp_all
 have p:=c0P h n;rw[I]at p;have f:a1t s.2.2.2.2.2.2.2.2.1=some ((a0J s.2.2.2.2.2.2.2.2.1:Nat):Int):=a2q (by unfold short;omega);unfold b2G a0O;unfold a8A at e⊢;simp only[aA]at e⊢;have a:OkR (P++(b5c s++a5g s)) (sB (a0J s.2.2.2.2.2.2.2.2.1) s.2.2.2.2.2.2.2.2.1++((if s.1=0∨s.1=1 then[]else a6M s.2.2.2.2.2.2.2.2.2.1 zn s.2.2.2.2.2.2.2.2.2.2.1)++R)):=OkR.shift (by simp_all)
 have G:=fun(ok:Bool) (z:Sub)=>c2Q (wd:=a0J s.2.2.2.2.2.2.2.2.1) (by omega) (N:=s.2.2.2.2.2.2.2.2.1.length) (by omega) n ok z (a4a s) s.2.2.2.2.2.2.2.2.1 [] _ _ (b6M r) (by simp) a;simp only[a22,nZ,a09,a30]at G;simp only[L,M,cF,j,bne_self_eq_false,oB];rw[d e];simp only[j,bne_self_eq_false,cF,oB,l,bT,i];rw[show((a4a s:Sub))=a8B (a4a s) []from rfl]
 erw[G]
 simp only[oB,j,bne_self_eq_false,cF];rw[show(a8B (a4a s) s.2.2.2.2.2.2.2.2.1).1=s.1 from rfl,a6J];simp only[oB]
 by_cases hk:s.1=0∨s.1=1
 have H:decide (s.1≠0∧s.1≠1)=false:=by grind
 have q:a8B (a4a s) s.2.2.2.2.2.2.2.2.1=s:=by
  obtain⟨D,E,F⟩:=v hk;obtain⟨k,w,o,sh,g,c,t,st,wm,⟨X,Y,Z⟩,re,u⟩:=s;simp only at D E F;subst D E F;rfl
 grind
 have H:decide (s.1≠0∧s.1≠1)=true:=by simp_all
 have hp:=T (not_or.1 hk);have b:=a.shift;rw[if_neg hk]at b;have m:=c4F hp b;simp only[H,cT,if_neg hk];rw[show(a8B (a4a s) s.2.2.2.2.2.2.2.2.1).2.2.2.2.2.2.2.2.1=s.2.2.2.2.2.2.2.2.1 from rfl]
 erw[m]
 have C:((0:Int) != 0)=false:=rfl;simp only[oB,C,cF,bT,f,bne_self_eq_false];have q:((a8B (a4a s) s.2.2.2.2.2.2.2.2.1).1,(a8B (a4a s) s.2.2.2.2.2.2.2.2.1).2.1,(a8B (a4a s) s.2.2.2.2.2.2.2.2.1).2.2.1,(a8B (a4a s) s.2.2.2.2.2.2.2.2.1).2.2.2.1,(a8B (a4a s) s.2.2.2.2.2.2.2.2.1).2.2.2.2.1,(a8B (a4a s) s.2.2.2.2.2.2.2.2.1).2.2.2.2.2.1,(a8B (a4a s) s.2.2.2.2.2.2.2.2.1).2.2.2.2.2.2.1,(a8B (a4a s) s.2.2.2.2.2.2.2.2.1).2.2.2.2.2.2.2.1,s.2.2.2.2.2.2.2.2.1,s.2.2.2.2.2.2.2.2.2.1,s.2.2.2.2.2.2.2.2.2.2.1,(a8B (a4a s) s.2.2.2.2.2.2.2.2.1).2.2.2.2.2.2.2.2.2.2.2)=s:=rfl
 grind
theorem d5i(y:Int):bits .u64 .and y 1=y%2:=by
 have h:((a04 64 y) &&& (a04 64 1)).toNat=(y%18446744073709551616).toNat%2:=by
  simp
 show wrap .u64 ((((a04 64 y) &&& (a04 64 1)).toNat:Nat):Int)=_
 grind[a0M]
theorem a2d(v:Int):∀n,a1x (pb v n)
 |0=>fun b hb=>by cases hb
 |n+1=>fun b hb=>by
  rcases mC.1 hb with rfl|hb
  grind[a7e,d5i,a8s]
  exact a2d v n b hb
theorem c5Y(n:Nat):a1x (unB n):=fun b hb=>by
 rcases mA.1 hb with hb|hb
 all_goals simp_all
theorem b5d{α:Type}{f:α→List Int}{l:List α}(h:∀x,a1x (f x)):a1x (l.flatMap f):=fun b hb=>by
 obtain⟨x,-,g⟩:=a98.1 hb;exact h x b g
theorem c8x(k:Nat)(x:Int):a1x (a9V k x):=by
 unfold a9V;split;exact(c5Y _).app (a2d _ _);exact(c5Y _).app (a2d _ _)
theorem b8u(n:Nat)(l:List Int):a1x (sB n l):=b5d fun _=>a2d _ _
theorem c8y(k:Int)(l:List Int):a1x (b1q k l):=by
 unfold b1q;split;exact(a2d _ _).app ((a2d _ _).app (b8u _ _));exact(a2d _ _).app (b5d fun _=>c8x _ _)
theorem b6O:a1x []:=fun b hb=>by grind
theorem c1m:∀(zs:List Nat)(ks l:List Int),a1x (a1O zs ks l)
 |z::zs,k::ks,l=>by
  simp only[a1O];exact(c8y _ _).app (c1m zs ks _)
 | [],_,_=>by simp_all[a1O,b6O]
 |_::_,[],_=>by simp_all[a1O,b6O]
theorem c1n(s:Sub):a1x (a7D s):=(a2d _ _).app ((a2d _ _).app ((a2d _ _).app (b8u _ _)))
theorem c8z(s:Sub):a1x (a5g s):=by
 unfold a5g;split;exact a2d _ _;split;exact c1n s;split;exact(a2d _ _).app ((b8u _ _).app (c1n s));split;exact(a2d _ _).app (b5d fun _=>(a2d _ _).app (a2d _ _));exact b6O
theorem c9M(s:Sub)(h:List Nat):a1x (a8A s h):=by
 refine(((a2d _ _).app ((a2d _ _).app (a2d _ _))).app (c8z s)).app ((b8u _ _).app ?_);split;exact b6O;exact(a2d _ _).app (c1m _ _ _)
theorem c9N(h:SmallS s)(k:(a2n s n).isSome=true)(j:L.length<50000000):
  ∃g,b0I (wL L,s,n)=some (0,wL (L++a8A s g))∧a4i (s,n)=some (((a8A s g).length:Nat):Int)∧(a8A s g).length≤700000∧
   (s.1≠0∧s.1≠1→PartsOk s.2.2.2.2.2.2.2.2.2.1 n ((s.2.2.2.2.2.2.2.2.1.length:Nat):Int) s.2.2.2.2.2.2.2.2.2.2.1 g):=by
 obtain⟨e,i,a,-,c,d,-⟩:=b6w h (n:=n) (L:=L) (by omega);obtain⟨rfl,g,rfl,f⟩:=d k;have b:=b5G k;rw[b9h b f]at a c;refine⟨g,a,?_,by simp_all,f⟩;rw[c5U h];unfold a5f;rw[if_pos k,←c2d f,b9h b f]
 simp
theorem d3v(g:L.length<1000000000):b3r (wL L).1=some (rdr [] L):=by
 obtain⟨-,h⟩:=a5Y L;unfold b3r;rw[a0T (by omega)];rfl
theorem c9O(h:L.length<1000000000):a5e (wL L)=some ((wL L).1,wL L):=by
 grind[a5Y,a5e,a0T]
def a0L(n:Nat):List Int:=if h:n<128 then[(n:Int)]else((n%128+128:Nat):Int)::a0L (n / 128)
termination_by n
decreasing_by omega
theorem b1V{n:Nat}(h:n<128):a0L n=[(n:Int)]:=by rw[a0L,dif_pos h]
theorem b3O{n:Nat}(h:¬ n<128):a0L n=((n%128+128:Nat):Int)::a0L (n / 128):=by rw[a0L,dif_neg h]
theorem b9I:∀(k n:Nat),n<128^(k+1)→1≤(a0L n).length∧(a0L n).length≤k+1
 |0,n,h=>by simp_all[b1V]
 |k+1,n,h=>by
  by_cases hn:n<128
  rw[b1V hn];simp;rw[b3O hn]
  have:=b9I k (n / 128) (by omega)
  simp_all
theorem c1o:∀(k n:Nat),n<128^(k+1)→∀b∈a0L n,0≤b∧b<256
 |0,n,h,b,hb=>by grind[b1V]
 |k+1,n,h,b,hb=>by
  by_cases hn:n<128
  grind[b1V]
  rw[b3O hn]at hb;rcases mC.1 hb with rfl|hb;omega;exact c1o k (n / 128) (by omega) b hb
theorem c5Z:∀(k n:Nat)(a:List Int)(b c:Int)(out:List Int),n<128^(k+1)→k≤8→out.length+k<1000000→
  ∃r g,y0s a8V ((n:Int),a,b,c,out,())=some (((r:Nat):Int),a,b,c,out++g,())∧a0L n=g++[(r:Int)]∧r<128
 |k,n,a,b,c,out,h,hk,ho=>by
  by_cases hn:n<128
  refine⟨n,[],?_,by rw[b1V hn];rfl,hn⟩;rw[a0E (b:=((n:Int),a,b,c,out,())) (by
   have d:decide ((n:Int)≥128)=false:=by grind
   simp only[a8V,d,cF])]
  simp
  ·cases k with
   |zero=>omega
   |succ k=>
    have m:n / 128<128^(k+1):=by omega
    have f:n<18446744073709551616:=by
     have:128^(k+1+1)≤128^9:=a08 (by omega) (by omega)
     omega
    obtain⟨r,g,o,j,l⟩:=c5Z k (n / 128) a b c (out++[((n%128+128:Nat):Int)]) m (by omega) (by grind);refine⟨r,((n%128+128:Nat):Int)::g,?_,by rw[b3O hn,j];rfl,l⟩;have d:decide ((n:Int)≥128)=true:=by grind
    have e:wrap .u64 (a54 (n:Int) 128)=((n / 128:Nat):Int):=by
     rw[show a54 (n:Int) 128=((n / 128:Nat):Int)from rfl];exact a0M (by omega)
    have i:wrap .u8 (wrap .u8 (a26 (n:Int) 128)+128)=((n%128+128:Nat):Int):=by
     rw[show a26 (n:Int) 128=((n%128:Nat):Int)from rfl,a8s,a8s];omega
    rw[a0F (s':=(((n / 128:Nat):Int),a,b,c,out++[((n%128+128:Nat):Int)],())) (by
     simp only[a8V,d,cT,a0T (show out.length+1<2147483648 by omega),e,i,a06])]
    simp_all
theorem b1W{α β γ:Type}(f:α→List γ):∀(l:List α)(a:List γ),a2R (β:=β) (fun a x=>.inl (a++f x)) l a=.inl (a++l.flatMap f)
 | [],a=>by simp[a2R]
 |x::l,a=>by simp only[a2R];rw[b1W f l];simp
def asI(ns:List Nat):List Int:=ns.map fun n:Nat=>(n:Int)
theorem b7Z{ns:List Nat}(h:∀n∈ns,n<9223372036854775808)(t:ns.length≤1000):a9B (asI ns)=some (ns.flatMap a0L):=by
 have l:(asI ns).length=ns.length:=by simp[asI]
 have:=a1H (f:=a8W) (asI ns) (fun i (a:List Int)=>(asI ns,((asI ns).length:Int),(i:Int),a,())) (fun a x=>.inl (a++a0L x.toNat)) (fun i a=>a.length≤10*i) (fun a=>(a,()))
  (fun i hi a p=>⟨fun q g=>by
   have c:i<ns.length:=by omega
   have m:(asI ns)[i]=((ns[i]:Nat):Int):=by simp[asI]
   have hb:=h ns[i] (a05 c);have k:ns[i]<128^(8+1):=by omega
   obtain⟨r,d,o,j,s⟩:=c5Z 8 ns[i] (asI ns) ((asI ns).length:Int) (i:Int) a k (a27 _) (by omega);have hv:=b9I 8 ns[i] k;rw[j]at hv;simp only[lN,lC,a22]at hv;simp[m,j]at g;subst g;have e:wrap .u8 (r:Int)=(r:Int):=by rw[a8s];omega
   refine⟨?_,by grind⟩;simp only[a8W,dlt hi,cT,a0D hi,m,oB,o,a0T (show(a++d).length+1<2147483648 by grind),a0B (show i<1000000 by omega),e,a06,aA],fun b hb=>by grind⟩)
  (fun a p=>by simp_all[a8W]) (a:=[]) (by simp)
 simp_all[a9B,b1W,a8t,asI,List.flatMap_map]
theorem orA{k:Nat}(f:a<2^k)(c:b*2^k+a<18446744073709551616):bits .u64 .or (a:Int) ((b*2^k:Nat):Int)=((a+b*2^k:Nat):Int):=by
 show wrap .u64 (((a04 64 (a:Int) ||| a04 64 ((b*2^k:Nat):Int)).toNat:Nat):Int)=_;have g:(a04 64 (a:Int)).toNat=a:=by grind
 have h:(a04 64 ((b*2^k:Nat):Int)).toNat=b*2^k:=by grind[a82]
 grind[a59,a57,a0M]
theorem b9i{rest:List Int}:∀(j m i acc:Nat)(P:List Int),m<128^(j+1)→P.length=i→(i=0∨1≤m)→acc<2^(7*i)→m*2^(7*i)+acc<9223372036854775808→(P++(a0L m++rest)).length<1000000000→
  y0s a6c ((acc:Int),P++(a0L m++rest),((P++(a0L m++rest)).length:Nat),(i:Int),())=some (.inr (((acc+m*2^(7*i):Nat):Int),((i+(a0L m).length:Nat):Int),(0:Int),()))
 |j,m,i,acc,P,hj,hP,hm,ha,hs,hl=>by
  have p:i≤8:=by
   rcases hm with a|h1;omega;apply Classical.byContradiction;intro hi;have w:2^(7*9)≤2^(7*i):=a08 (by omega) (by omega);have x:2^(7*i)≤m*2^(7*i):=Nat.le_mul_of_pos_left _ (by omega);omega
  have r:wrap .i64 ((7:Int)*(i:Int))=((7*i:Nat):Int):=by grind[a0C]
  have t:decide ((((7*i:Nat):Int))<0)=false:=by rfl
  have s:wrap .i64 ((i:Int)+1)=((i+1:Nat):Int):=a0B (by omega);have v:∀c:Nat,c<256→(i=9→False):=fun _ _ h=>by omega
  have b:((i:Int)==9)=false:=by grind
  have step:∀(c:Nat)(k:List Int),c<256→a0L m=(c:Int)::k→(i=0∨c≠0)→
    a6c ((acc:Int),P++(a0L m++rest),((P++(a0L m++rest)).length:Nat),(i:Int),()) =
     bif decide ((c:Int)<128)then some (.inr (Sum.inr (bits .u64 .or (acc:Int) (A0n .u64 (wrap .u64 (a26 (c:Int) 128)) ((7*i:Nat):Int)),((i+1:Nat):Int),(0:Int),())))
     else some (.inl (bits .u64 .or (acc:Int) (A0n .u64 (wrap .u64 (a26 (c:Int) 128)) ((7*i:Nat):Int)),P++(a0L m++rest),((P++(a0L m++rest)).length:Nat),((i+1:Nat):Int),())):=fun c k l hv a=>by
   have g:i<(P++(a0L m++rest)).length:=by simp_all
   have o:m0k (P++(a0L m++rest)) (i:Int)=some (c:Int):=by
    simp_all[a0D]
   have y:(decide ((i:Int) > 0)=true→((c:Int)==0)=false):=fun h=>by
    grind
   simp only[a6c,dlt g,cT,o,oB,b,cF]
   grind
  have val:∀c:Nat,c%128*2^(7*i)+acc<9223372036854775808→bits .u64 .or (acc:Int) (A0n .u64 (wrap .u64 (a26 (c:Int) 128)) ((7*i:Nat):Int))=((acc+c%128*2^(7*i):Nat):Int):=fun c l=>by
   rw[show a26 (c:Int) 128=((c%128:Nat):Int)from rfl,a0M (by omega),b2M (by omega) (by omega)];exact orA ha (by omega)
  by_cases hm128:m<128
  rw[a0E (step m [] (by omega) (b1V hm128) (by omega) |>.trans (by
   have d:decide ((m:Int)<128)=true:=by grind
   simp only[d,cT];rfl))]
  rw[val m (by simp_all[a23]),a23 hm128,b1V hm128];rfl
  ·cases j with
   |zero=>omega
   |succ j=>
    have n:m / 128<128^(j+1):=by omega
    have q:2^(7*(i+1))=128*2^(7*i):=by grind
    have f:m*2^(7*i)=m%128*2^(7*i)+m / 128*2^(7*(i+1)):=by
     grind
    have hb:m%128*2^(7*i)≤127*2^(7*i):=a25 _ (by omega);rw[a0F (step (m%128+128) (a0L (m / 128)) (by omega) (b3O hm128) (by omega) |>.trans (by
     have d:decide (((m%128+128:Nat):Int)<128)=false:=by grind
     simp only[d,cF];rfl))]
    rw[val (m%128+128) (by grind[a90,Nat.mod_mod]),a90,Nat.mod_mod];have e:P++(a0L m++rest)=(P++[((m%128+128:Nat):Int)])++(a0L (m / 128)++rest):=by rw[b3O hm128];simp
    rw[e]at hl⊢;have u:=b9i j (m / 128) (i+1) (acc+m%128*2^(7*i)) (P++[((m%128+128:Nat):Int)]) n (by simp[hP]) (.inr (by omega)) (by omega) (by omega) hl;rw[u,f,b3O hm128];congr 3;omega
    simp;omega
theorem c8A{n:Nat}(h:n<9223372036854775808){rest:List Int}(g:(a0L n++rest).length<1000000000):a8D (a0L n++rest)=some ((n:Int),(((a0L n).length:Nat):Int),(0:Int)):=by
 have:=b9i (rest:=rest) 8 n 0 0 [] (by omega) rfl (.inl rfl) (by simp) (by omega) g
 simp_all[a8D]
def ord(P R:List Int):List Int×(Int×Int×Unit):=(P++R,(P.length:Int),(0:Int),())
theorem a2Z{n:Nat}(c:n<9223372036854775808){most:Int}(e:(n:Int)≤most)(b:(P++(a0L n++R)).length<1000000000):
  a0S (ord P (a0L n++R),most)=some ((n:Int),ord (P++a0L n) R):=by
 have a:List.drop (a42 (P.length:Int)) (b03 (P++(a0L n++R)).length (P++(a0L n++R)))=a0L n++R:=by
  grind[tN]
 have k:((0:Int) != 0)=false:=rfl;have g:decide ((0:Int)≤(P.length:Int))=true:=by simp
 have f:decide ((P.length:Int)≤((P++(a0L n++R)).length:Int))=true:=by grind
 have d:decide ((n:Int) > most)=false:=by simp_all
 have h:(a0L n++R).length<1000000000:=by grind
 have i:wrap .i64 ((P.length:Int)+((a0L n).length:Int))=(((P++a0L n).length:Nat):Int):=by
  rw[a0C (by simp at b;omega)];simp
 unfold a0S ord;simp only[k,cF,g,f,a03,cT];rw[a,c8A c h]
 grind
def a9p(g:Int):Nat:=if 0≤g then(2*g).toNat else(-2*g-1).toNat
theorem d3w{g:Int}(h:-100000≤g∧g≤100000):b2t g=some ((a9p g:Nat):Int):=by
 unfold b2t a9p
 by_cases hg:0≤g
 have d:decide (g≥0)=true:=by simp_all
 rw[d,cT,if_pos hg,a0M (n:=g) (by omega),a0M (by omega),a79 (by omega)];have d:decide (g≥0)=false:=by simp_all
 rw[d,cF,if_neg hg,a0C (n:=g+1) (by omega),a0C (by omega),a0M (n:=0-(g+1)) (by omega),a0M (n:=2*(0-(g+1))) (by omega),a0M (by omega),a79 (by omega)]
 grind
theorem c6a{g:Int}(h:-(m:Int)≤g∧g≤(m:Int)):a9p g≤2*m:=by
 grind[a9p]
theorem d3x{g:Int}(h:-100000≤g∧g≤100000):b2h ((a9p g:Nat):Int)=some g:=by
 unfold b2h;have f:a26 ((a9p g:Nat):Int) 2=((a9p g%2:Nat):Int):=rfl;have k:a54 ((a9p g:Nat):Int) 2=((a9p g / 2:Nat):Int):=rfl;rw[f,k];unfold a9p
 by_cases hg:0≤g
 rw[if_pos hg];have d:((((2*g).toNat%2:Nat):Int)==0)=true:=by grind
 rw[d,cT,a0M (by omega),a0C (by omega)]
 grind
 rw[if_neg hg];have d:((((-2*g-1).toNat%2:Nat):Int)==0)=false:=by grind
 rw[d,cF,a0M (by omega),a0C (n:=(((-2*g-1).toNat / 2:Nat):Int)) (by omega),a0C (n:=0-(((-2*g-1).toNat / 2:Nat):Int)) (by omega),a0C (by omega)]
 grind
def e8(s:Int):Int:=bif (A0o .u8 s 7)==(1:Int)then bits .u8 .xor (A0n .u8 s 1) 7 else A0n .u8 s 1
def e16(s:Int):Int:=bif (A0o .u16 s 15)==(1:Int)then bits .u16 .xor (A0n .u16 s 1) 32773 else A0n .u16 s 1
def rep{α:Type}(f:α→α):Nat→α→α
 |0,s=>s
 |n+1,s=>rep f n (f s)
def g8(s c:Int):Int:=rep e8 8 (bits .u8 .xor s c)
def g16(s c:Int):Int:=rep e16 8 (bits .u16 .xor s (A0n .u16 (wrap .u16 c) 8))
theorem c1p(l:List Int)(n i:Int):∀(j k:Nat)(s:Int),k+j=8→y0s b0W (s,l,n,i,(k:Int),())=some (rep e8 j s,l,n,i,())
 |0,k,s,h=>by
  obtain rfl:k=8:=by omega
  rfl
 |j+1,k,s,h=>by
  have d:decide ((k:Int)<8)=true:=by grind
  rw[a0F (s':=(e8 s,l,n,i,((k+1:Nat):Int),())) (by
   simp only[b0W,d,cT,a0B (show k<1000000 by omega),e8]
   grind)]
  exact c1p l n i j (k+1) (e8 s) (by omega)
theorem b8a(l:List Int)(n i:Int):∀(j k:Nat)(s:Int),k+j=8→y0s a9j (s,l,n,i,(k:Int),())=some (rep e16 j s,l,n,i,())
 |0,k,s,h=>by
  obtain rfl:k=8:=by omega
  rfl
 |j+1,k,s,h=>by
  have d:decide ((k:Int)<8)=true:=by grind
  rw[a0F (s':=(e16 s,l,n,i,((k+1:Nat):Int),())) (by
   simp only[a9j,d,cT,a0B (show k<1000000 by omega),e16]
   grind)]
  exact b8a l n i j (k+1) (e16 s) (by omega)
def b6P(l:List Int):Int:=l.foldl g8 0
def a4o(l:List Int):Int:=l.foldl g16 0
theorem c4G(h:short l):a8m l=some (b6P l):=by
 have:=a1H (f:=a7W) (β:=Int×Unit) l (fun i (a:Int)=>(a,l,(l.length:Int),(i:Int),())) (fun a x=>.inl (g8 a x)) (fun _ _=>True) (fun a=>(a,()))
  (fun i hi a _=>⟨fun k g=>by
   simp at g;subst g
   have:=c1p l (l.length:Int) (i:Int) 8 0 (bits .u8 .xor a l[i]) rfl
   simp at this;refine⟨?_,trivial⟩;simp only[a7W,dlt hi,cT,a0D hi,oB,this,a0B (a18 hi h),g8],fun b hb=>by grind⟩)
  (fun a c=>by simp_all[a7W]) (a:=0) trivial
 unfold a8m;simp at this;rw[this,b6J];rfl
theorem c1q(h:short l):a6t l=some (a4o l):=by
 have:=a1H (f:=a6d) (β:=Int×Unit) l (fun i (a:Int)=>(a,l,(l.length:Int),(i:Int),())) (fun a x=>.inl (g16 a x)) (fun _ _=>True) (fun a=>(a,()))
  (fun i hi a _=>⟨fun k g=>by
   simp at g;subst g
   have:=b8a l (l.length:Int) (i:Int) 8 0 (bits .u16 .xor a (A0n .u16 (wrap .u16 l[i]) 8)) rfl
   simp at this;refine⟨?_,trivial⟩;simp only[a6d,dlt hi,cT,a0D hi,oB,this,a0B (a18 hi h),g16],fun b hb=>by grind⟩)
  (fun a c=>by simp_all[a6d]) (a:=0) trivial
 unfold a6t;simp at this;rw[this,b6J];rfl
theorem b3P(n:Int):wrap .u16 n=n%65536:=by rfl
theorem c8B(s:Int):0≤e16 s∧e16 s<65536:=by
 unfold e16;cases (A0o .u16 s 15==1:Bool);simp only[cF,A0n,b3P];omega;simp only[cT,bits,b3P];omega
theorem b9j(l:List Int):0≤a4o l∧a4o l<65536:=by
 unfold a4o;rcases a51 l with rfl|⟨L,b,rfl⟩
 simp
 rw[List.concat_eq_append,List.foldl_append];exact c8B _
theorem d7V{v:Int}(h:0≤v∧v<65536):a4t (v,2)=some [v / 256,v%256]:=by
 have g:wrap .u64 (a54 v 256)=v / 256:=by grind[a0M]
 have f:wrap .u8 (a26 v 256)=v%256:=by simp_all[a43,a8s]
 have k:wrap .u8 (a26 (v / 256) 256)=v / 256:=by grind[a8s]
 have s0:a1R (v,(2:Int),(0:Int),([]:List Int),())=some (.inl (v / 256,(2:Int),(1:Int),[v%256],())):=by
  simp only[a1R,show decide ((0:Int)<2)=true from rfl,cT,a0T (show([]:List Int).length+1<2147483648 by simp),g,f];rfl
 have a:a1R (v / 256,(2:Int),(1:Int),[v%256],())=some (.inl (wrap .u64 (a54 (v / 256) 256),(2:Int),(2:Int),[v%256,v / 256],())):=by
  simp only[a1R,show decide ((1:Int)<2)=true from rfl,cT,a0T (show([v%256]:List Int).length+1<2147483648 by simp),k];rfl
 have c:a5p (v,2)=some [v%256,v / 256]:=by
  unfold a5p a3U
  simp
  rw[show v0s (v0r (2:Int) 0) 8=2 from rfl,a0F s0,a0F a,a0E (b:=([v%256,v / 256],())) rfl];rfl
 simp_all[a4t,a1P]
@[reducible] def a0I:Type:=Int×(Int×(Int×Unit))
@[reducible] def a1f:Type:=Int×(Int×(a0I×(List a0I×(List Sub×Unit))))
@[reducible] def a1b:Type:=Int×(List (List Int)×Unit)
def a2B(n:Int)(s:a0I):Bool:=!(decide (s.1<0) || decide (s.1≥n) || decide (s.2.1<0) || decide (s.2.1≥n) || s.1==s.2.1)&&!(decide (s.2.2.1 < -1024) || decide (s.2.2.1 > 1024))
theorem a3b{n:Int}{s:a0I}:a2B n s=true↔0≤s.1∧s.1<n∧0≤s.2.1∧s.2.1<n∧s.1≠s.2.1∧-1024≤s.2.2.1∧s.2.2.1≤1024:=by
 simp only[a2B,bA,a33,a77,decide_eq_false_iff_not,beq_eq_false_iff_ne];omega
def a5i(l:List a0I)(n:Int):Prop:=1≤n∧n≤8∧l.length≤16∧l.all (a2B n)=true
instance (l:List a0I) (n:Int):Decidable (a5i l n):=by unfold a5i;infer_instance
theorem b5I(l:List a0I)(n:Int):a8E (l,n)=some (decide (a5i l n)):=by
 unfold a8E a5i
 by_cases h1:n<1
 grind
 by_cases h2:n > 8
 grind
 by_cases h3:((l.length:Nat):Int) > 16
 grind
 have g:=a1S (f:=a7j) (β:=Unit ⊕ (Bool×Unit)) l (fun i=>(n,l,(l.length:Int),(i:Int),())) (a2B n) (bt:=Sum.inl ()) (bf:=Sum.inr (false,()))
  (fun i h hp=>by
   obtain⟨a1,m,o,p,q,r,s⟩:=a3b.1 hp;have k:decide (l[i].1<0)=false:=by simp_all
   have a:decide (l[i].1≥n)=false:=by simp_all
   have b:decide (l[i].2.1<0)=false:=by simp_all
   have c:decide (l[i].2.1≥n)=false:=by simp_all
   have d:(l[i].1==l[i].2.1)=false:=by simp_all
   have e:decide (l[i].2.2.1 < -1024)=false:=by simp_all
   have j:decide (l[i].2.2.1 > 1024)=false:=by simp_all
   simp only[a7j,dlt h,cT,a0D h,oB,k,a,b,c,d,e,j,cF,a0B (show i<1000000 by omega)])
  (fun i h hp=>by
   simp only[a7j,dlt h,cT,a0D h,oB]
   grind[a2B])
  (by simp[a7j])
 grind
def a2e(f:a0I):Prop:=1≤f.1∧f.1≤1048576∧1≤f.2.1∧f.2.1≤8∧4≤f.2.2.1∧f.2.2.1≤24
instance (f:a0I):Decidable (a2e f):=by unfold a2e;infer_instance
theorem a4F(f:a0I):a1T f=some (decide (a2e f)):=by
 unfold a1T a7i a2e
 grind
def frP(f:a1f):Prop:=a2e f.2.2.1∧1≤f.2.1∧f.2.1≤4096∧0≤f.1∧f.1≤4194304-f.2.1∧a5i f.2.2.2.1 f.2.2.1.2.1
instance (f:a1f):Decidable (frP f):=by unfold frP;infer_instance
theorem b6i(f:a1f):a7k f=some (decide (frP f)):=by
 unfold a7k frP;rw[a4F,b5I]
 by_cases h1:a2e f.2.2.1<;>by_cases h2:1≤f.2.1<;>by_cases h3:f.2.1≤4096<;>by_cases h4:0≤f.1<;>simp[h1,h2,h3,h4]
 have h:wrap .i64 ((4194304:Int)-f.2.1)=4194304-f.2.1:=a0C (by omega);rw[h]
 grind
def a7E(s:a0I):List Nat:=[s.1.toNat,s.2.1.toNat,a9p s.2.2.1]
def a5Q(s:a0I):List Int:=a0L s.1.toNat++(a0L s.2.1.toNat++a0L (a9p s.2.2.1))
def hb(f:a1f)(body:Nat):List Int:=
 [245,75]++(a0L f.1.toNat++(a0L f.2.1.toNat++(a0L f.2.2.1.1.toNat++(a0L f.2.2.1.2.1.toNat++(a0L f.2.2.1.2.2.1.toNat++(a0L f.2.2.2.1.length++(f.2.2.2.1.flatMap a5Q++a0L body)))))))
def a1G(f:a1f)(body:Nat):List Int:=hb f body++[b6P (hb f body)]
theorem a9d{n:Nat}(h:n<9223372036854775808):1≤(a0L n).length∧(a0L n).length≤9:=b9I 8 n (by omega)
theorem c8C(g:n≤8){s:a0I}(h:a2B n s=true):(a5Q s).length≤27:=by
 grind[a3b,a9d,a9p,a5Q]
theorem c2R{n:Int}(g:n≤8):∀(l:List a0I),l.all (a2B n)=true→(l.flatMap a5Q).length≤27*l.length
 | [],_=>by simp
 |s::l,h=>by
  simp only[a07,bA]at h
  have:=c8C g h.1
  have:=c2R g l h.2
  simp only[a63,lN,lC];omega
theorem c4H{f:a1f}(g:frP f){body:Nat}(h:body≤1048576):2≤(hb f body).length∧(hb f body).length≤600:=by
 obtain⟨⟨q,r2,k,a,b,c⟩,l1,l2,s1,s2,m1,m2,m3,m4⟩:=g;have d:=a9d (n:=f.1.toNat) (by omega);have e:=a9d (n:=f.2.1.toNat) (by omega);have i:=a9d (n:=f.2.2.1.1.toNat) (by omega);have j:=a9d (n:=f.2.2.1.2.1.toNat) (by omega);have l:=a9d (n:=f.2.2.1.2.2.1.toNat) (by omega);have m:=a9d (n:=f.2.2.2.1.length) (by omega);have o:=a9d (n:=body) (by omega);have p:=c2R m2 _ m4;simp only[hb,lN,lC,a22];omega
theorem c6b:∀l:List a0I,(l.flatMap a7E).length=3*l.length
 | []=>rfl
 |s::l=>by simp only[a63,lN,lC,c6b l];simp only[a7E,lC,a22];omega
theorem c7t{f:a1f}(z:frP f){body:Nat}(q:body≤1048576):a8f (f,(body:Int))=some (a1G f body):=by
 have t:=z;obtain⟨⟨N,r2,I,K,L,M⟩,l1,l2,s1,s2,m1,m2,m3,m4⟩:=t;have k:∀s∈f.2.2.2.1,a2B f.2.2.1.2.1 s=true:=fun s v=>lA.1 m4 s v;have h:=a1H (f:=a5J) (β:=Int×(List Int×Unit)) f.2.2.2.1 (fun i (a:List Int)=>((body:Int),f.2.2.2.1,((f.2.2.2.1.length:Nat):Int),(i:Int),a,())) (fun a x=>.inl (a++asI (a7E x))) (fun i a=>a.length=6+3*i) (fun a=>((body:Int),a,()))
  (fun i hi a F=>⟨fun H j=>by
   simp at j;subst j;obtain⟨a1,B,C,D,E,w,y⟩:=a3b.1 (k _ (a05 hi));refine⟨?_,by grind[asI,a7E]⟩;simp only[a5J,dlt hi,cT,a0D hi,oB,d3w (g:=f.2.2.2.1[i].2.2.1) (by omega),a0T (show a.length+3<2147483648 by omega),a0B (show i<1000000 by omega),a06]
   grind[a0M,asI,a7E],fun b hb=>by grind⟩)
  (fun a F=>by simp_all[a5J]) (a:=asI [f.1.toNat,f.2.1.toNat,f.2.2.1.1.toNat,f.2.2.1.2.1.toNat,f.2.2.1.2.2.1.toNat,f.2.2.2.1.length]) (by rfl)
 rw[b1W]at h;simp[a8t]at h;have d:([wrap .u64 f.1,wrap .u64 f.2.1,wrap .u64 f.2.2.1.1,wrap .u64 f.2.2.1.2.1,wrap .u64 f.2.2.1.2.2.1,wrap .u64 ((f.2.2.2.1.length:Nat):Int)]:List Int)=asI [f.1.toNat,f.2.1.toNat,f.2.2.1.1.toNat,f.2.2.1.2.1.toNat,f.2.2.1.2.2.1.toNat,f.2.2.2.1.length]:=by
  grind[a0M,asI]
 have o:asI [f.1.toNat,f.2.1.toNat,f.2.2.1.1.toNat,f.2.2.1.2.1.toNat,f.2.2.1.2.2.1.toNat,f.2.2.2.1.length]++f.2.2.2.1.flatMap (fun x=>asI (a7E x))++[((body:Nat):Int)]=asI ([f.1.toNat,f.2.1.toNat,f.2.2.1.1.toNat,f.2.2.1.2.1.toNat,f.2.2.1.2.2.1.toNat,f.2.2.2.1.length]++f.2.2.2.1.flatMap a7E++[body]):=by
  simp_all[asI,List.map_flatMap]
 have u:∀n∈[f.1.toNat,f.2.1.toNat,f.2.2.1.1.toNat,f.2.2.1.2.1.toNat,f.2.2.1.2.2.1.toNat,f.2.2.2.1.length]++f.2.2.2.1.flatMap a7E++[body],n<9223372036854775808:=fun n e=>by
  simp only[mA,mC,a97,or_false,a98]at e;rcases e with(e|⟨s,v,e⟩)|e;omega;obtain⟨a1,B,C,D,E,w,y⟩:=a3b.1 (k _ v)
  have:=c6a (m:=1024) ⟨w,y⟩
  simp[a7E]at e;omega;omega
 have A:=c6b f.2.2.2.1;have p:=b7Z u (by grind);have c:(([f.1.toNat,f.2.1.toNat,f.2.2.1.1.toNat,f.2.2.1.2.1.toNat,f.2.2.1.2.2.1.toNat,f.2.2.2.1.length]++f.2.2.2.1.flatMap a7E++[body]).flatMap a0L)=(hb f body).drop 2:=by
  simp only[hb,List.flatMap_append,a63,List.flatMap_nil,a40,aA,List.flatMap_assoc,a65,a09,List.drop_succ_cons,a28];congr 7;exact congrArg (fun g=>List.flatMap g f.2.2.2.1) (funext fun s=>by simp[a5Q,a7E])
 have r:[245,75]++(hb f body).drop 2=hb f body:=by rfl
 have G:=c4H z q;unfold a8f;simp only[d];rw[h];simp only[oB,a06];have l:=congrArg a37 o;rw[show(asI ([f.1.toNat,f.2.1.toNat,f.2.2.1.1.toNat,f.2.2.1.2.1.toNat,f.2.2.1.2.2.1.toNat,f.2.2.2.1.length]++f.2.2.2.1.flatMap a7E++[body])).length=7+3*f.2.2.2.1.length from by grind[asI,lC]]at l;rw[lN,a74]at l;rw[a0M (n:=(body:Int)) (by omega),a0T (by omega),cT,o,p];simp only[oB,c,a06,r];rw[a0T (by grind),cT,c4G (show short (hb f body)by unfold short;omega)]
 simp
 rw[a0T (by omega),cT];rfl
def c7u(f:a1f):a1f:=(f.1,f.2.1,f.2.2.1,f.2.2.2.1,[],())
theorem a1D{A:List Int}{k:Nat}(h:(P++(A++R)).length<k):((P++A)++R).length<k:=by rw[aA];exact h
theorem c1r{x:List Int}{ch:Int}(c:ch≤8)(s l:Int)(fm:a0I)(u:List Sub×Unit){N:Nat}(o:N≤16){R:List Int}:∀(rest done:List a0I)(P:List Int),rest.all (a2B ch)=true→done.length+rest.length=N→
  (P++(rest.flatMap a5Q++R)).length<1000000000→
  y0s a5z (x,(N:Int),(done.length:Int),(s,l,fm,done,u),ord P (rest.flatMap a5Q++R),())=some (x,(s,l,fm,done++rest,u),ord (P++rest.flatMap a5Q) R,())
 | [],done,P,_,hl,_=>by
  have e:done.length=N:=by simpa using hl
  rw[e,a0E (b:=(x,(s,l,fm,done,u),ord P R,())) (by simp only[a5z,dge,cF];rfl)]
  simp
 |g::rest,done,P,h,hl,hlen=>by
  simp only[a07,bA]at h;rw[lC]at hl;obtain⟨a1,v,w,y,z,d,i⟩:=a3b.1 h.1;have A:=c6a (m:=1024) ⟨d,i⟩;have j:(g::rest).flatMap a5Q++R=a0L g.1.toNat++(a0L g.2.1.toNat++(a0L (a9p g.2.2.1)++(rest.flatMap a5Q++R))):=by simp[a5Q]
  rw[j]at hlen⊢;have n1:=a2Z (n:=g.1.toNat) (most:=7) (by omega) (by omega) hlen;have f:=a1D hlen;have n2:=a2Z (n:=g.2.1.toNat) (most:=7) (by omega) (by omega) f;have k:=a1D f;have r:=a2Z (n:=a9p g.2.2.1) (most:=2048) (by omega) (by omega) k;have a:=a1D k;have q:wrap .u64 ((done.length:Int)+1)=(((done++[g]).length:Nat):Int):=by rw[a0M (by omega)];simp
  have t:wrap .i64 ((g.1.toNat:Nat):Int)=g.1:=by rw[a0C (by omega)];omega
  have w2:wrap .i64 ((g.2.1.toNat:Nat):Int)=g.2.1:=by rw[a0C (by omega)];omega
  have p:decide ((done.length:Int)<(N:Int))=true:=by simp;omega
  rw[a0F (s':=(x,(N:Int),(((done++[g]).length:Nat):Int),(s,l,fm,done++[g],u),ord (P++a0L g.1.toNat++a0L g.2.1.toNat++a0L (a9p g.2.2.1)) (rest.flatMap a5Q++R),())) (by
   simp only[a5z,p,cT,n1,n2,r,oB,d3x (g:=g.2.2.1) (by omega),a0T (show done.length+1<2147483648 by omega),t,w2,q,a06])]
  rw[c1r c s l fm u o rest (done++[g]) _ h.2 (by simp;omega) a];simp[a5Q]
theorem c7v{f:a1f}(p:frP f){body:Nat}(o:body≤1048576)(hl:(a1G f body++R).length<1000000000):
  a7X (a1G f body++R)=some (c7u f,((a1G f body).length:Int),(body:Int),(0:Int)):=by
 have q:=p;obtain⟨⟨r1,r2,c1,c2,d1,d2⟩,l1,l2,s1,s2,m1,m2,m3,m4⟩:=q;have U:=c4H p o

 have d:a1G f body++R=[245,75]++(a0L f.1.toNat++(a0L f.2.1.toNat++(a0L f.2.2.1.1.toNat++(a0L f.2.2.1.2.1.toNat++(a0L f.2.2.1.2.2.1.toNat++(a0L f.2.2.2.1.length++(f.2.2.2.1.flatMap a5Q++(a0L body++([b6P (hb f body)]++R))))))))):=by
  simp[a1G,hb]
 generalize hx:a1G f body++R=x at *;have V:2≤x.length:=by rw[d];simp
 have P:m0k x 0=some 245:=by rw[d];rfl
 have Q:m0k x 1=some 75:=by rw[d];rfl
 have k:List.drop 2 (b03 x.length x)=a0L f.1.toNat++(a0L f.2.1.toNat++(a0L f.2.2.1.1.toNat++(a0L f.2.2.1.2.1.toNat++(a0L f.2.2.1.2.2.1.toNat++(a0L f.2.2.2.1.length++(f.2.2.2.1.flatMap a5Q++(a0L body++([b6P (hb f body)]++R)))))))):=by
  rw[a19,d];rfl
 have h:([]++(a0L f.1.toNat++(a0L f.2.1.toNat++(a0L f.2.2.1.1.toNat++(a0L f.2.2.1.2.1.toNat++(a0L f.2.2.1.2.2.1.toNat++(a0L f.2.2.2.1.length++(f.2.2.2.1.flatMap a5Q++(a0L body++([b6P (hb f body)]++R))))))))):List Int).length<1000000000:=by
  rw[←k];simp;omega
 have n1:=a2Z (n:=f.1.toNat) (most:=4194304) (by omega) (by omega) h;have y:=a1D h;have n2:=a2Z (n:=f.2.1.toNat) (most:=4096) (by omega) (by omega) y;have z:=a1D y;have E:=a2Z (n:=f.2.2.1.1.toNat) (most:=1048576) (by omega) (by omega) z;have A:=a1D z;have F:=a2Z (n:=f.2.2.1.2.1.toNat) (most:=8) (by omega) (by omega) A;have B:=a1D A;have G:=a2Z (n:=f.2.2.1.2.2.1.toNat) (most:=24) (by omega) (by omega) B;have C:=a1D B;have H:=a2Z (n:=f.2.2.2.1.length) (most:=16) (by omega) (by omega) C;have D:=a1D C;have a:=c1r (x:=x) m2 f.1 f.2.1 f.2.2.1 ([],()) m3 f.2.2.2.1 [] _ m4 (by simp) D;have S:=a1D D;have i:=a2Z (n:=body) (most:=1048576) (by omega) (by omega) S;simp only[a22,nZ,a09,a30]at n1 n2 E F G H i a;have Y:wrap .i64 ((f.1.toNat:Nat):Int)=f.1:=by rw[a0C (by omega)];omega
 have w2:wrap .i64 ((f.2.1.toNat:Nat):Int)=f.2.1:=by rw[a0C (by omega)];omega
 have Z:wrap .i64 ((f.2.2.1.1.toNat:Nat):Int)=f.2.2.1.1:=by rw[a0C (by omega)];omega
 have w4:wrap .i64 ((f.2.2.1.2.1.toNat:Nat):Int)=f.2.2.1.2.1:=by rw[a0C (by omega)];omega
 have w5:wrap .i64 ((f.2.2.1.2.2.1.toNat:Nat):Int)=f.2.2.1.2.2.1:=by rw[a0C (by omega)];omega
 have l:a0L f.1.toNat++a0L f.2.1.toNat++a0L f.2.2.1.1.toNat++a0L f.2.2.1.2.1.toNat++a0L f.2.2.1.2.2.1.toNat++a0L f.2.2.2.1.length++f.2.2.2.1.flatMap a5Q++a0L body=(hb f body).drop 2:=by simp[hb]
 rw[l]at i;have u:ord ((hb f body).drop 2) ([b6P (hb f body)]++R)=(x.drop 2,(((hb f body).length-2:Nat):Int),(0:Int),()):=by
  unfold ord;rw[a52,←hx];congr 1;unfold a1G;rw[aA,List.drop_append_of_le_length (by omega)]
 rw[u]at i;have b:wrap .i64 (((x.drop 2).length:Int)-(((hb f body).length-2:Nat):Int))=((1+R.length:Nat):Int):=by
  have:x.length=(hb f body).length+(1+R.length):=by rw[←hx];simp[a1G];omega
  rw[a52,a0C (by omega)];omega
 have m:wrap .i64 ((2:Int)+(((hb f body).length-2:Nat):Int))=(((hb f body).length:Nat):Int):=by rw[a0C (by omega)];omega
 have t:(hb f body).length<x.length:=by rw[←hx];simp[a1G]
 have c:b03 (hb f body).length x=hb f body:=by rw[←hx];simp[a1G]
 have s:m0k x (((hb f body).length:Nat):Int)=some (b6P (hb f body)):=by rw[a0D t];congr 1;subst hx;simp[a1G]
 have O:decide (((x.length:Nat):Int)<2)=false:=by simp;omega
 have j:decide ((2:Int)≤((x.length:Nat):Int))=true:=by simp;omega
 have I:((245:Int) != 245)=false:=rfl;have K:((75:Int) != 75)=false:=rfl;have e:∀T:List Int,T.length<1000000000→a5U T=some (ord [] T):=fun T d=>by unfold a5U;rw[a0T (by omega)];rfl
 have g:=h;rw[a09]at g;have z0:((0:Int) != 0)=false:=rfl;have L:decide (((1+R.length:Nat):Int)<1)=false:=by simp;omega
 have M:decide ((0:Int)≤(((hb f body).length:Nat):Int))=true:=by simp
 have N:decide ((((hb f body).length:Nat):Int)≤((x.length:Nat):Int))=true:=by simp;omega
 have X:(b6P (hb f body) != b6P (hb f body))=false:=bne_self_eq_false _;have r:frP (f.1,f.2.1,f.2.2.1,f.2.2.2.1,([]:List Sub),()):=p;have w:wrap .i64 ((((hb f body).length:Nat):Int)+1)=(((a1G f body).length:Nat):Int):=by rw[a0C (by omega)];simp[a1G]
 have v:wrap .i64 ((body:Nat):Int)=(body:Int):=a0C (by omega);unfold a7X;simp only[O,cF,P,Q,oB,I,K,j,cT];rw[k,e _ g];simp only[oB,n1,n2,E,F,G,H,Y,w2,Z,w4,w5]
 erw[a]
 simp only[oB,i,a3x,z0,cF,a1J,a4b,b,L,m,M,N,a03,cT,tN,c,c4G (show short (hb f body)by unfold short;omega),s,X];rw[b6i,decide_eq_true r];simp only[oB,bT,cF,w,v];rfl
@[reducible] def PZ:Type:=Sub×List Nat
def c7w(n:Int)(p:PZ):Prop:=SmallS p.1∧(a2n p.1 n).isSome=true∧(p.1.1≠0∧p.1.1≠1→PartsOk p.1.2.2.2.2.2.2.2.2.2.1 n ((p.1.2.2.2.2.2.2.2.2.1.length:Nat):Int) p.1.2.2.2.2.2.2.2.2.2.2.1 p.2)
def a0N(l:List PZ):List Int:=l.flatMap fun p=>a8A p.1 p.2
theorem c2S(l:List PZ):a1x (a0N l):=b5d fun _=>c9M _ _
theorem c2T(x:a1f)(all:List Sub)(l:all.length≤8):∀(rest done:List Sub)(L:List Int),done++rest=all→(∀s∈rest,SmallS s∧(a2n s x.2.1).isSome=true)→L.length+700000*rest.length<40000000→
  ∃zs:List PZ,zs.map (·.1)=rest∧(∀p∈zs,c7w x.2.1 p)∧(a0N zs).length≤700000*rest.length∧((∀s∈rest,∃c,a4i (s,x.2.1)=some (c:Int))∧some (((a0N zs).length:Nat):Int)=rest.foldr (fun s a=>a.bind fun a=>(a4i (s,x.2.1)).bind fun c=>some (c+a)) (some 0))∧
   y0s a8X (all,(all.length:Int),(done.length:Int),wL L,x,())=some (.inl (wL (L++a0N zs),x,()))
 | [],done,L,hd,_,_=>by
  have e:done=all:=by simp_all
  subst e;refine⟨[],rfl,by simp,by simp[a0N],⟨by simp,by rfl⟩,?_⟩;simp_all[a0E,a8X,a0N]
 |s::rest,done,L,hd,h,hL=>by
  obtain⟨b,k⟩:=h s (by simp);rw[lC]at hL;obtain⟨f,d,i,q,j⟩:=c9N b k (L:=L) (by omega);obtain⟨zs,k1,k2,k3,⟨r,o⟩,k6⟩:=c2T x all l rest (done++[s]) (L++a8A s f) (by simp_all) (fun t n=>h t (by grind)) (by grind);have g:done.length<all.length:=by grind
  have m:m0k all (done.length:Int)=some s:=by grind[a0D]
  refine⟨(s,f)::zs,by grind,fun p hp=>?_,?_,⟨fun t n=>?_,?_⟩,?_⟩;rcases mC.1 hp with rfl|hp;exact⟨b,k,j⟩;simp_all
  grind[a0N]
  grind
  simp only[List.foldr_cons,←o,oB,i];simp[a0N];have z0:((0:Int) != 0)=false:=rfl;rw[a0F (s':=(all,(all.length:Int),(((done++[s]).length:Nat):Int),wL (L++a8A s f),x,())) (by
   simp only[a8X,dlt g,cT,m,oB,d,z0,cF,a0B (show done.length<1000000 by omega)]
   simp)]
  simp_all[a0N]
def a4U(k:Nat):Nat:=(8-k%8)%8
def a2K(L:List Int):List Int:=L++a00 (a4U L.length) 0
theorem c1s:∀(k:Nat)(L:List Int),a4U L.length=k→L.length+k<900000000→y0s a3v (wL L,())=some (wL (L++a00 k 0),())
 |k,L,hk,hL=>by
  have f:=(a5Y L).1;have h:a26 (wL L).2.1 8=((L.length%8:Nat):Int):=by grind
  unfold a4U at hk;cases k with
  |zero=>
   grind[a0E,a3v]
  |succ k=>
   have hb:(((L.length%8:Nat):Int) != 0)=true:=by grind
   rw[a0F (s':=(wL (L++[0]),())) (by
    simp only[a3v,h,hb,cT,c0R (show L.length<1000000000 by omega),oB])]
   rw[c1s k (L++[0]) (by grind[a4U]) (by grind)]
   grind
theorem c9P(h:L.length<800000000):a5d (wL L)=some (wL (a2K L)):=by
 unfold a5d;rw[c1s _ L rfl (by unfold a4U;omega)];rfl
def a9e(L:List Int):List Int:=(wL (a2K L)).1
theorem b8b(L:List Int):(a9e L).length=(L.length+7) / 8∧8*(a9e L).length=(a2K L).length:=by
 grind[a5Y,a2K,a9e,a4U]
def a9q(f:a1f)(L:List Int):List Int:=a1G f (a9e L).length++a9e L
def a4V(f:a1f)(L:List Int):List Int:=a9q f L++[a4o (a9q f L) / 256,a4o (a9q f L)%256]
theorem b6Q{f:a1f}(g:frP f)(h:L.length≤5600000):(a9q f L).length≤700700∧(a9e L).length≤700000:=by
 grind[b8b,c4H,a9q,a1G]
theorem c4I{f:a1f}(j:a4s f=some true)(d:frP f)(e:f.2.2.2.2.1.length≤8)(m:∀s∈f.2.2.2.2.1,SmallS s∧(a2n s f.2.1).isSome=true):
  ∃zs:List PZ,zs.map (·.1)=f.2.2.2.2.1∧(∀p∈zs,c7w f.2.1 p)∧(a0N zs).length≤5600000∧
   some (((a0N zs).length:Nat):Int)=f.2.2.2.2.1.foldr (fun s a=>a.bind fun a=>(a4i (s,f.2.1)).bind fun c=>some (c+a)) (some 0)∧a2v f=some (a4V f (a0N zs),0):=by
 obtain⟨zs,k1,k2,k3,⟨-,n⟩,k6⟩:=c2T f f.2.2.2.2.1 e f.2.2.2.2.1 [] [] rfl m (by grind);have b:(a0N zs).length≤5600000:=by omega
 refine⟨zs,k1,k2,b,n,?_⟩;rw[a09,a22]at k6;have hp:=b6Q d b;have k:wL []=(([]:List Int),(0:Int),()):=rfl;rw[k]at k6;have g:(a2K (a0N zs)).length<1000000000:=by
  grind[b8b]
 have l:=b9j (a9q f (a0N zs));have h:a1G f (a9e (a0N zs)).length++a9e (a0N zs)=a9q f (a0N zs):=rfl;have i:(a1G f (a9e (a0N zs)).length).length+(a9e (a0N zs)).length=(a9q f (a0N zs)).length:=by grind
 unfold a2v;simp only[j,oB,bT,cF]
 erw[k6]
 simp only[oB,c9P (show(a0N zs).length<800000000 by omega),c9O g]
 erw[c7t d (show(a9e (a0N zs)).length≤1048576 by omega)]
 simp only[oB,a06];rw[show(wL (a2K (a0N zs))).1=a9e (a0N zs)from rfl];rw[h,a0T (by omega),cT,c1q (show short (a9q f (a0N zs))by unfold short;omega)]
 simp
 rw[a0M (by omega),d7V l];simp only[oB];rw[a0T (by grind),cT];rfl
end Go.Ab
