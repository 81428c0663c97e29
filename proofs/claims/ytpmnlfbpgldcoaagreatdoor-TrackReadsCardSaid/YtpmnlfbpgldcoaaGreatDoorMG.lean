/- Part of the proof: PA. Conditions: as each statement tells. -/
import Derived.KernelRfl
import Derived.Test.YtpmnlfbpgldcoaaGreatDoorMF
noncomputable section
set_option linter.unusedSimpArgs false
set_option linter.unusedVariables false
open BitVec renaming ofInt->a04,xor_assoc->a20,ofInt_natCast->a26,toNat_ofNat->a32,getLsbD_ushiftRight->a47,toNat_ofInt->a67,msb_eq_getLsbD_last->a68,eq_of_getLsbD_eq->a72,toNat_or->a77,xor_comm->a79,allOnes_xor->a93,toNat_not->b01,xor_zero->b08,allOnes->b09,getLsbD->b16,ofNat->b17
open Bool renaming and_self->a02,not_false->a15,true_and->a22,and_false->a52,eq_false_iff->a54,or_eq_true->a74,and_eq_true_iff->a88,not_eq_true'->a98,eq_iff_iff->b06
open Int renaming eq_ofNat_of_zero_le->a01,toNat_of_nonneg->a18,toNat->a24,tdiv_eq_ediv_of_nonneg->a44,tmod_eq_emod_of_nonneg->a45,cast_ofNat_Int->a50,emod_eq_of_lt->a53,tmod->a62,tdiv->a76,fdiv->a91,zero_mul->a96
open List renaming replicate->a00,drop_eq_getElem_cons->a03,getElem_mem->a05,append_eq->a06,nil_append->a09,length_nil->a19,zipWith->a23,all_cons->a25,length_take->a31,mem_of_mem_drop->a33,length_drop->a34,length_eq_zero_iff->a35,take_of_length_le->a36,getD->a37,length_singleton->a38,replicate_succ'->a41,mem_of_mem_take->a42,drop_length->a43,take_succ_eq_append_getElem->a56,take_length->a57,getElem_zip->a58,eq_nil_or_concat->a59,append_nil->a61,map_map->a64,getD_cons_succ->a65,replicate_succ->a66,take->a69,foldl_append->a70,range->a71,mem_map->a73,set->a78,foldl_cons->a80,set_append_right->a81,drop->a82,eq_replicate_iff->a83,drop_zero->a85,range_add->a86,mem_iff_getElem->a87,map_cons->a89,map_congr_left->a90,set_cons_zero->a92,cons_append->b00,not_mem_nil->b03,length_set->b07
open Nat renaming lt_trans->a07,pow_le_pow_right->a08,two_pow_pos->a16,div_le_self->a27,le_refl->a28,mod_eq_of_lt->a30,mul_le_mul->a39,two_pow_add_eq_or_of_lt->a40,div_eq_of_lt->a46,mod_lt->a48,lt_of_le_of_lt->a49,mul_comm->a51,div_div_eq_div_mul->a55,mul_le_mul_right->a60,sub_self->a63,min_eq_left->a75,add_mul_div_right->a84,lt_of_lt_of_le->a94,pow_succ->a95,le_trans->a97,or_lt_two_pow->a99,pow_add->b02,zero_le->b04,div_add_mod->b05
open Option renaming bind_eq_some_iff->a29
namespace Go.Ab
variable {L P R l row t:List Int}{N a b i k m n o v w:Nat}{c:List (List Int)}{g lag sign warm x:Int}{zn:List Nat}{α:Type}
open IntKind(wrap)
section
variable {M β:Type} {f:M->Option (M ⊕ β)}
theorem c0e:∀(n m:Nat)(s:M){b:β},a3I f n s=some b->a3I f (n+m) s=some b
 |0,_,s,b,h=>by simp[a3I]at h
 |n+1,m,s,b,h=>by
  rw[show n+1+m=n+m+1 from by omega];simp only[a3I]at h|-
  split at h
  cases h;rename_i s' g;exact c0e n m s' h;exact h
theorem d0q{s:M}{b b':β}(h:a3I f n s=some b)(k:a3I f m s=some b'):b=b':=by
 have a:=c0e n m s h;have g:=c0e m n s k;rw[Nat.add_comm,a]at g;exact Option.some.inj g
theorem e3b{s:M}{b:β}(h:a3I f n s=some b):b9G f s=some b:=by
 unfold b9G;have g:∃n b,a3I f n s=some b:=⟨n,b,h⟩;rw[dif_pos g];exact congrArg some (d0q g.choose_spec.choose_spec h)
theorem c9x{s:M}{b:β}(h:a3I f n s=some b):a0d f s=some b:=by
 unfold a0d;split;rename_i g hb;rw[d0q hb h];exact e3b h
theorem d0r{s:M}(h:∀n,a3I f n s=none):a0d f s=none:=by
 unfold a0d;rw[h 400];show b9G f s=none;unfold b9G;rw[dif_neg]
 rintro⟨n,b,g⟩
 rw[h n]at g;cases g
theorem a0g{s:M}{b:β}(h:f s=some (.inr b)):a0d f s=some b:=c9x (n:=1) (by simp[a3I,h])
theorem a0k{s s':M}(h:f s=some (.inl s')):a0d f s=a0d f s':=by
 by_cases hx:∃n b,a3I f n s'=some b
 obtain⟨n,b,hb⟩:=hx;rw[c9x hb];exact c9x (n:=n+1) (by simp[a3I,h,hb])
 ·have g:∀n,a3I f n s'=none:=fun n=>by
   cases hn:a3I f n s' with
   |none=>rfl
   |some b=>exact absurd ⟨n,b,hn⟩ hx
  rw[d0r g];refine d0r fun n=>?_
  cases n with
  |zero=>rfl
  |succ n=>simp[a3I,h,g n]
theorem d6K(S:Nat->M)(n:Nat){b:β}(g:∀i,i<n->f (S i)=some (.inl (S (i+1))))(h:f (S n)=some (.inr b)):∀(k:Nat),k<=n->a0d f (S (n-k))=some b
 |0,_=>a0g h
 |k+1,hk=>by
  rw[a0k (g (n-(k+1)) (by omega)),show n-(k+1)+1=n-k from by omega];exact d6K S n g h k (by omega)
theorem a1E(S:Nat->M)(n:Nat){b:β}(g:∀i,i<n->f (S i)=some (.inl (S (i+1))))(h:f (S n)=some (.inr b)):a0d f (S 0)=some b:=by
 have:=d6K S n g h n (a28 _)
 rwa [a63]at this
end
theorem a0c{n:Int}(h:-9223372036854775808<=n/\n<=9223372036854775807):wrap .i64 n=n:=by
 simp only[wrap,IntKind.bits,IntKind.signed]
 simp
 split<;>omega
theorem a0p{n:Int}(h:0<=n/\n<18446744073709551616):wrap .u64 n=n:=by
 simp only[wrap,IntKind.bits,IntKind.signed]
 simp
 omega
theorem a6U(n:Int):wrap .u8 n=n%256:=by
 simp[wrap,IntKind.bits,IntKind.signed]
def leB:Nat->Nat->List Int
 |0,_=>[]
 |k+1,n=>((n%256:Nat):Int)::leB k (n / 256)
theorem c0f:∀k n,(leB k n).length=k
 |0,_=>rfl
 |k+1,n=>by simp[leB,c0f k]
theorem c5O:∀(k n:Nat),leB (k+1) n=leB k n++[((n / 256^k%256:Nat):Int)]
 |0,n=>by simp[leB]
 |k+1,n=>by
  rw[leB,c5O k (n / 256),leB,a55,a95,a51 (256^k)];rfl
theorem b9e(x y:Int):a2P x y=min x y:=by
 simp only[a2P,cond_eq_ite,dT]
 split<;>omega
theorem c3B(x y:Int):a1s x y=max x y:=by
 simp only[a1s,cond_eq_ite,dT]
 split<;>omega
theorem a0H{n:Nat}(h:n<2147483648):lim n=true:=by simp[lim,h]
section
variable {α A M β:Type}
def a6j(g:A->α->A ⊕ β):List α->A->A ⊕ β
 | [],a=>.inl a
 |x::r,a=>match g a x with
  |.inl a'=>a6j g r a'
  |.inr b=>.inr b
def b6R(fin:A->β):A ⊕ β->β
 |.inl a=>fin a
 |.inr b=>b
theorem b9f{f:M->Option (M ⊕ β)}(l:List α)(S:Nat->A->M)(g:A->α->A ⊕ β)(I:Nat->A->Prop)(e:A->β)
  (d:∀i (h:i<l.length) a,I i a->(∀a',g a l[i]=.inl a'->f (S i a)=some (.inl (S (i+1) a'))/\I (i+1) a')/\(∀b,g a l[i]=.inr b->f (S i a)=some (.inr b)))
  (c:∀a,I l.length a->f (S l.length a)=some (.inr (e a))):∀(k i:Nat)(a:A),i+k=l.length->I i a->a0d f (S i a)=some (b6R e (a6j g (l.drop i) a))
 |0,i,a,hi,ha=>by
  obtain rfl:i=l.length:=by omega
  rw[a43];exact a0g (c a ha)
 |k+1,i,a,hi,ha=>by
  have j:i<l.length:=by omega
  rw[a03 j];obtain⟨m,n⟩:=d i j a ha;simp[a6j];cases hg:g a l[i]with
  |inl a'=>
   obtain⟨o,p⟩:=m a' hg;rw[a0k o];exact b9f l S g I e d c k (i+1) a' (by omega) p
  |inr b=>exact a0g (n b hg)
theorem a1S{f:M->Option (M ⊕ β)}(l:List α)(S:Nat->A->M)(g:A->α->A ⊕ β)(I:Nat->A->Prop)(k:A->β)
  (d:∀i (h:i<l.length) a,I i a->(∀a',g a l[i]=.inl a'->f (S i a)=some (.inl (S (i+1) a'))/\I (i+1) a')/\(∀b,g a l[i]=.inr b->f (S i a)=some (.inr b)))
  (c:∀a,I l.length a->f (S l.length a)=some (.inr (k a))){a:A}(e:I 0 a):a0d f (S 0 a)=some (b6R k (a6j g l a)):=by
 have:=b9f l S g I k d c l.length 0 a (by omega) e
 simp_all
theorem a1r{f:M->Option (M ⊕ β)}(l:List α)(S:Nat->M)(p:α->Bool){bt bf:β}
  (k:∀i (h:i<l.length),p l[i]=true->f (S i)=some (.inl (S (i+1))))(b:∀i (h:i<l.length),p l[i]=false->f (S i)=some (.inr bf))
  (g:f (S l.length)=some (.inr bt)):a0d f (S 0)=some (bif l.all p then bt else bf):=by
 have h:=a1S (A:=Unit) l (fun i _=>S i) (fun _ x=>bif p x then .inl ()else .inr bf) (fun _ _=>True) (fun _=>bt) (fun i h a _=>?_) (fun _ _=>g) (a:=()) trivial
 ·rw[h];congr 1;clear h k b g
  induction l with
  |nil=>rfl
  |cons x l ih=>
   simp[a6j];cases p x with
   |true=>simp_all
   |false=>rfl
 grind
end
theorem a0e{α:Type}{l:List α}{i:Nat}(h:i<l.length):a0m l (i:Int)=some l[i]:=by
 simp_all[a0m]
def a0i(x:Int):Bool:=decide (-1073741824<=x)&&decide (x<1073741824)
theorem a3G{x:Int}:a0i x=true↔-1073741824<=x/\x<1073741824:=by simp[a0i]
def short{α:Type}(l:List α):Prop:=l.length<1000000
theorem a0b{i:Nat}(h:i<1000000):wrap .i64 ((i:Int)+1)=((i+1:Nat):Int):=by
 grind[a0c]
theorem dlt(h:i<n):decide ((i:Int)<(n:Int))=true:=by simp_all
theorem dge(n:Nat):decide ((n:Int)<(n:Int))=false:=by simp
theorem b4b{l:List Int}(a:short l):a6q l=some (l.all a0i):=by
 unfold a6q
 have:=a1r (f:=a4B) l (fun i=>(l,(l.length:Int),(i:Int),())) a0i (bt:=Sum.inl ()) (bf:=Sum.inr (false,()))
  (fun i h hp=>by
   have hp:=a3G.1 hp;have g:decide (l[i] < -1073741824)=false:=by simp_all
   have k:decide (l[i]>=1073741824)=false:=by simp_all
   simp only[a4B,dlt h,cT,a0e h,oB,g,k,cF,a0b (a07 h a)])
  (fun i h hp=>by
   simp only[a4B,dlt h,cT,a0e h,oB]
   grind[a0i])
  (by simp[a4B])
 grind
theorem b4c(x:Int):a8S x=some (a0i x):=by
 grind[a8S,a0i]
theorem b6S(x:Int):b1o x=some (a0i x):=by
 grind[b1o,a0i]
theorem b1Y(x:Int):b0h x=some (a0i x):=by
 grind[b0h,a0i]
theorem a3d(x:Int):a3p x=some (a0i x):=by
 grind[a3p,a0i]
theorem c9y(x:Int):a8U x=some (a0i x):=by
 grind[a8U,a0i]
theorem b5A(g:short l):a5U l=some (l.all a0i):=by
 unfold a5U
 have:=a1r (f:=a4s) l (fun i=>(l,(l.length:Int),(i:Int),())) a0i (bt:=Sum.inl ()) (bf:=Sum.inr (false,()))
  (fun i h hp=>by simp[a4s,a0e h,b4c,hp,a0b (a07 h g),h])
  (fun i h hp=>by simp_all[a4s,a0e,b4c])
  (by simp[a4s])
 grind
theorem c7H(g:short l):b0B l=some (l.all a0i):=by
 unfold b0B
 have:=a1r (f:=a5p) l (fun i=>(l,(l.length:Int),(i:Int),())) a0i (bt:=Sum.inl ()) (bf:=Sum.inr (false,()))
  (fun i h hp=>by simp[a5p,a0e h,b6S,hp,a0b (a07 h g),h])
  (fun i h hp=>by simp_all[a5p,a0e,b6S])
  (by simp[a5p])
 grind
theorem c5P(g:short l):a9t l=some (l.all a0i):=by
 unfold a9t
 have:=a1r (f:=a4N) l (fun i=>(l,(l.length:Int),(i:Int),())) a0i (bt:=Sum.inl ()) (bf:=Sum.inr (false,()))
  (fun i h hp=>by simp[a4N,a0e h,b1Y,hp,a0b (a07 h g),h])
  (fun i h hp=>by simp_all[a4N,a0e,b1Y])
  (by simp[a4N])
 grind
theorem a2d(g:short l):a2g l=some (l.all a0i):=by
 unfold a2g
 have:=a1r (f:=a6H) l (fun i=>(l,(i:Int),())) a0i (bt:=Sum.inl ()) (bf:=Sum.inr (false,()))
  (fun i h hp=>by simp[a6H,a0e h,a3d,hp,a0b (a07 h g),h])
  (fun i h hp=>by simp_all[a6H,a0e,a3d])
  (by simp[a6H])
 grind
theorem b5r(h:short l):a5T l=some (l.all a0i):=by
 have e:b7C=a4B:=rfl
 have:a5T l=a6q l:=by rfl
 simp_all[b4b]
def b7N(x:Int):Bool:=decide (-32768<=x)&&decide (x<32768)
def b0l(c:List Int)(s:Int):Bool:=decide (1<=c.length)&&(decide (c.length<=32)&&(decide (0<=s)&&(decide (s<=15)&&c.all b7N)))
theorem b5s{c:List Int}{s:Int}(a:short c):a7H (c,s)=some (b0l c s):=by
 have:=a1r (f:=a6C) c (fun i=>(c,(c.length:Int),(i:Int),())) b7N (bt:=Sum.inl ()) (bf:=Sum.inr (false,()))
  (fun i h hp=>by
   simp[b7N]at hp;have g:¬ c[i] < -32768:=by omega
   have k:¬ c[i]>=32768:=by omega
   simp[a6C,a0e h,a0b (a07 h a),h,g,k])
  (fun i h hp=>by
   grind[b7N,a6C,a0e])
  (by simp[a6C])
 simp at this;unfold a7H b0l
 grind
theorem a8y{c:List Int}{s:Int}(a:short c):a5a (c,s)=some (b0l c s):=by
 have:=a1r (f:=a4O) c (fun i=>(c,s,(i:Int),())) b7N (bt:=Sum.inl (c,s,())) (bf:=Sum.inr (false,()))
  (fun i h hp=>by
   simp[b7N]at hp;have g:¬ c[i] < -32768:=by omega
   have k:¬ c[i]>=32768:=by omega
   simp[a4O,a0e h,a0b (a07 h a),h,g,k])
  (fun i h hp=>by
   grind[b7N,a4O,a0e])
  (by simp[a4O])
 simp at this;unfold a5a b0l
 grind
def c5Q(x:Int):Bool:=decide (-64<=x)&&decide (x<=64)
def b4G(lag:Int)(t:List Int):Bool:=decide (2<=lag)&&(decide (lag<=1024)&&t.all c5Q)
theorem c4M(g:t.length=3):b2T (lag,t)=some (b4G lag t):=by
 have:=a1r (f:=a8P) t (fun i=>(t,(i:Int),())) c5Q (bt:=Sum.inl ()) (bf:=Sum.inr (false,()))
  (fun i h hp=>by
   simp[c5Q]at hp
   grind[a8P,a0e,a0b])
  (fun i h hp=>by
   grind[c5Q,a8P,a0e])
  (by simp_all[a8P])
 simp at this;unfold b2T b4G
 grind
theorem b9g{t:List Int}{lag:Int}(g:t.length=3):a9a (lag,t)=some (b4G lag t):=by
 have:=a1r (f:=a6a) t (fun i=>(lag,(i:Int),t,())) c5Q (bt:=Sum.inl (lag,())) (bf:=Sum.inr (false,()))
  (fun i h hp=>by
   simp[c5Q]at hp
   grind[a6a,a0e,a0b])
  (fun i h hp=>by
   grind[c5Q,a6a,a0e])
  (by simp_all[a6a])
 simp at this;unfold a9a b4G
 grind
def stageB(s:Int×(Int×Unit)):Bool:=decide (1<=s.1)&&(decide (s.1<=32)&&(decide (0<=s.2.1)&&decide (s.2.1<=8)))
def b1w(l:List (Int×Int×Unit)):Bool:=decide (l.length<=3)&&l.all stageB
theorem b4d(s:Int×(Int×Unit)):a8Q s=some (stageB s):=by
 grind[a8Q,stageB]
theorem b3v(s:Int×(Int×Unit)):a7P s=some (stageB s):=by
 grind[a7P,stageB]
theorem c2u{l:List (Int×Int×Unit)}(g:short l):b1m l=some (b1w l):=by
 have:=a1r (f:=a7I) l (fun i=>(l,(l.length:Int),(i:Int),())) stageB (bt:=Sum.inl ()) (bf:=Sum.inr (false,()))
  (fun i h hp=>by simp[a7I,a0e h,b4d,hp,a0b (a07 h g),h])
  (fun i h hp=>by simp_all[a7I,a0e,b4d])
  (by simp[a7I])
 simp at this;unfold b1m b1w
 grind
theorem b7O{l:List (Int×Int×Unit)}(g:short l):a7Q l=some (b1w l):=by
 have:=a1r (f:=a5s) l (fun i=>(l,(i:Int),())) stageB (bt:=Sum.inl (l,())) (bf:=Sum.inr (false,()))
  (fun i h hp=>by simp[a5s,a0e h,b3v,hp,a0b (a07 h g),h])
  (fun i h hp=>by simp_all[a5s,a0e,b3v])
  (by simp[a5s])
 simp at this;unfold a7Q b1w;rw[this];cases l.all stageB with
 |false=>simp
 |true=>
  by_cases h:l.length<=3
  all_goals grind
@[reducible] def W(n:Int):Int:=wrap .i64 n
theorem b7P(n:Int):wrap .i64 n=Int.bmod n 18446744073709551616:=by
 grind[wrap,IntKind.bits,IntKind.signed]
theorem e0X{n:Int}(h:a0i n=true):W n=n:=by
 grind[a3G,a0c]
def a6k(guess:List Int->Int):List Int->List Int->Option (List Int)
 | [],out=>some out
 |x::r,out=>bif a0i (W (x+guess out))then a6k guess r (out++[W (x+guess out)])else none
def a9O{β:Type}(guess:List Int->Int)(bad:β)(out:List Int)(x:Int):List Int ⊕ β:=bif a0i (W (x+guess out))then .inl (out++[W (x+guess out)])else .inr bad
theorem a8z{β:Type}(h:List Int->Int)(g:β)(f:List Int->β):∀(l out:List Int),b6R f (a6j (a9O h g) l out)=match a6k h l out with|some r=>f r|none=>g
 | [],out=>rfl
 |x::l,out=>by
  simp[a6j,a9O,a6k];cases a0i (W (x+h out))with
  |true=>simp_all[a8z]
  |false=>rfl
theorem b5V(g:List Int->Int):∀(l out r:List Int),out.all a0i=true->a6k g l out=some r->r.all a0i=true/\r.length=out.length+l.length
 | [],out,r,h,e=>by simp_all[a6k]
 |x::l,out,r,h,e=>by
  simp[a6k]at e;cases hw:a0i (W (x+g out))with
  |true=>
   rw[hw]at e;obtain⟨f,k⟩:=b5V g l _ r (by simp_all) e
   grind
  |false=>simp_all
def a6c:Option (List Int)->List Int×Int
 |some r=>(r,0)
 |none=>([],6)
def atB(out:List Int)(i:Nat):Int:=out.getD (out.length-i) 0
def a7f(o:Nat)(out:List Int):Int:=match o with
 | 1=>atB out 1
 | 2=>2*atB out 1-atB out 2
 | 3=>3*atB out 1-3*atB out 2+atB out 3
 | 4=>4*atB out 1-6*atB out 2+4*atB out 3-atB out 4
 |_=>0
theorem b5W{out:List Int}(hi:1<=i)(h:i<=out.length)(g:short out):a1C ((i:Int),out)=some (atB out i,out):=by
 unfold a1C;have g:out.length<1000000:=g
 grind[a0c,a0e,atB]
theorem c9z{out:List Int}(e:o<=4)(h:o<=out.length)(a:short out):∃g,b1L (out,(o:Int))=some g/\∀x,W (x+g)=W (x+a7f o out):=by
 have f:=fun(h':1<=out.length)=>b5W (i:=1) (by omega) h' a;have k:=fun(h':2<=out.length)=>b5W (i:=2) (by omega) h' a;have b:=fun(h':3<=out.length)=>b5W (i:=3) (by omega) h' a;have c:=fun(h':4<=out.length)=>b5W (i:=4) (by omega) h' a;simp at f k b c;unfold b1L;have d:o=0\/o=1\/o=2\/o=3\/o=4:=by omega
 rcases d with rfl|rfl|rfl|rfl|rfl;exact⟨0,rfl,fun x=>rfl⟩;exact⟨_,by simp[f (by omega)];rfl,fun x=>rfl⟩;refine⟨_,by simp[f (by omega),k (by omega)];rfl,fun x=>?_⟩;simp_all[b7P,a7f];refine⟨_,by simp[f (by omega),k (by omega),b (by omega)];rfl,fun x=>?_⟩;simp_all[b7P,a7f];refine⟨_,by simp[f (by omega),k (by omega),b (by omega),c (by omega)];rfl,fun x=>?_⟩;simp_all[b7P,a7f]
theorem a1f(h:n<1000000):lim n=true:=a0H (by omega)
theorem d1H{warm rest:List Int}(u:o<=4)(x:warm.length=o)(w:rest.length<100000):
  b2V (warm,rest,(o:Int))=some (a6c (bif warm.all a0i&&rest.all a0i then a6k (a7f o) rest warm else none)):=by
 have c:short warm:=by unfold short;omega
 have m:short rest:=by unfold short;omega
 unfold b2V;have p:¬ (o:Int)<0:=by omega
 have q:¬ (o:Int) > 4:=by omega
 have r:(((warm.length:Nat):Int) != (o:Int))=false:=by simp_all
 simp only[p,q,r,decide_false,cF,oB,b5r c,b5r m];cases hw1:warm.all a0i with
 |false=>rfl
 |true=>
  simp only[bT,cF,oB,a22];cases hw2:rest.all a0i with
  |false=>rfl
  |true=>
   simp[a1f c]
   have:=a1S (f:=a9s) rest (fun i out=>((o:Int),rest,(rest.length:Int),(i:Int),out,())) (a9O (a7f o) (Sum.inr ((6:Int),([]:List Int),())))
    (fun i out=>o<=out.length/\out.length<=o+i) (fun out=>Sum.inl (out,()))
    (fun i h out s=>by
     have j:i<1000000:=by omega
     have l:short out:=by unfold short;omega
     obtain⟨g,t,d⟩:=c9z u s.1 l;have e:wrap .i64 (rest[i]+g)=W (rest[i]+a7f o out):=d _;have k:a5T [W (rest[i]+a7f o out)]=some (a0i (W (rest[i]+a7f o out))):=by rw[b5r (by simp[short])];simp
     simp only[a9s,dlt h,cT,a0e h,oB,t,e,k,a9O];cases hb:a0i (W (rest[i]+a7f o out))with
     |true=>
      simp only[cT,bT,cF,a1f (show out.length+1<1000000 by omega),a0b j];refine⟨fun v n=>?_,fun b hb=>(by grind)⟩;simp at n;subst n;exact⟨rfl,by grind,by grind⟩
     |false=>
      simp)
    (fun out _=>by simp[a9s]) (a:=warm) ⟨by omega,by omega⟩
   simp[a8z]at this;rw[this];cases a6k (a7f o) rest warm<;>rfl
def b5t(o:Nat):List Int:=match o with
 | 1=>[1]
 | 2=>[2,-1]
 | 3=>[3,-3,1]
 | 4=>[4,-6,4,-1]
 |_=>[]
theorem e0Y(g:o<=4):b6Q (o:Int)=some (b5t o):=by
 have h:o=0\/o=1\/o=2\/o=3\/o=4:=by omega
 rcases h with rfl|rfl|rfl|rfl|rfl<;>rfl
theorem d5Q{o:Nat}(g:o<=4):(b5t o).length=o:=by
 have h:o=0\/o=1\/o=2\/o=3\/o=4:=by omega
 rcases h with rfl|rfl|rfl|rfl|rfl<;>rfl
def c2v(o:Nat)(out:List Int)(x:Int):Nat->Int
 |0=>x
 |k+1=>W (c2v o out x k+W ((b5t o).getD k 0*atB out (k+1)))
theorem c7I{rest out:List Int}{i:Int}(q:o<=4)(h:o<=out.length)(g:short out)(r:a0i x=true):
  a0d a4P (rest,(o:Int),b5t o,i,x,(0:Int),out,())=some (rest,(o:Int),b5t o,i,W (x+a7f o out),out,()):=by
 have g:out.length<1000000:=g
 have:=a1E (f:=a4P) (fun k=>(rest,(o:Int),b5t o,i,c2v o out x k,(k:Int),out,()))
  o (b:=(rest,(o:Int),b5t o,i,c2v o out x o,out,())) (fun k n=>by
   have a:wrap .i64 (((out.length:Nat):Int)-1)=((out.length-1:Nat):Int):=by grind[a0c]
   have c:wrap .i64 (((out.length-1:Nat):Int)-(k:Int))=((out.length-(k+1):Nat):Int):=by grind[a0c]
   have d:(0:Int)<=((out.length-(k+1):Nat):Int):=by omega
   have e:((out.length-(k+1):Nat):Int)<((out.length:Nat):Int):=by omega
   have j:k<(b5t o).length:=by simp_all[d5Q]
   have l:(b5t o)[k]=(b5t o).getD k 0:=by simp_all
   simp only[a4P,dlt n,cT,a0e j,oB,a,c,d,e,decide_true,a02,tN,a0b (show k<1000000 by omega),c2v,atB,l])
  (by simp[a4P])
 simp[c2v]at this;rw[this];have p:c2v o out x o=W (x+a7f o out):=by
  have m:o=0\/o=1\/o=2\/o=3\/o=4:=by omega
  rcases m with rfl|rfl|rfl|rfl|rfl;simp_all[c2v,a7f,e0X]
  all_goals
   simp only[c2v,b5t,a7f,List.getD_cons_zero,a65,Nat.zero_add,Nat.reduceAdd,W,b7P,Int.add_bmod_bmod,Int.bmod_add_bmod]
   grind
 grind
theorem c5R{warm rest:List Int}{o:Nat}(m:o<=4)(u:warm.length=o)(t:rest.length<100000):
  a9A (warm,rest,(o:Int))=some (a6c (bif warm.all a0i&&rest.all a0i then a6k (a7f o) rest warm else none)):=by
 have e:short warm:=by unfold short;omega
 have d:short rest:=by unfold short;omega
 unfold a9A;have n:¬ (o:Int)<0:=by omega
 have p:¬ (o:Int) > 4:=by omega
 have q:(((warm.length:Nat):Int) != (o:Int))=false:=by simp_all
 simp only[n,p,q,decide_false,cF,oB,a2d e,a2d d];cases hw1:warm.all a0i with
 |false=>rfl
 |true=>
  simp only[bT,cF,oB,a22];cases hw2:rest.all a0i with
  |false=>rfl
  |true=>
   have k:lim (0+warm.length)=true:=a1f (by omega);simp only[bT,cF,cT,k,e0Y m,oB,a06,a09]
   have:=a1S (f:=a6J) rest (fun i out=>(rest,(o:Int),b5t o,(i:Int),out,())) (a9O (a7f o) (Sum.inr ((6:Int),([]:List Int),())))
    (fun i out=>o<=out.length/\out.length<=o+i) (fun out=>Sum.inl (out,()))
    (fun i h out r=>by
     have g:i<1000000:=by omega
     have c:short out:=by unfold short;omega
     have j:a0i rest[i]=true:=lA.1 hw2 _ (a05 h);simp only[a6J,dlt h,cT,a0e h,oB,c7I m r.1 c j,a3d,a9O];cases hb:a0i (W (rest[i]+a7f o out))with
     |true=>
      simp only[cT,bT,cF,a1f (show out.length+1<1000000 by omega),a0b g];refine⟨fun s l=>?_,fun b hb=>(by grind)⟩;simp at l;subst l;exact⟨rfl,by grind,by grind⟩
     |false=>
      simp)
    (fun out _=>by simp[a6J]) (a:=warm) ⟨by omega,by omega⟩
   simp[a8z]at this;rw[this];cases a6k (a7f o) rest warm<;>rfl
def c2w(out:List Int):List Int->Nat->Int->Int
 | [],_,acc=>acc
 |c::r,i,acc=>bif decide (i<out.length)then c2w out r (i+1) (W (acc+W (c*atB out (i+1))))else acc
def b3w(c:List Int)(s:Int)(out:List Int):Int:=a0v .i64 (c2w out c 0 0) s
theorem e0Z{out:List Int}(h:i<out.length)(g:short out):a0m out (wrap .i64 (wrap .i64 (((out.length:Nat):Int)-1)-(i:Int)))=some (atB out (i+1)):=by
 have g:out.length<1000000:=g
 grind[a0c,a0e,atB]
theorem e3c{out:List Int}(h:i<out.length)(g:out.all a0i=true):a0i (atB out (i+1))=true:=by
 grind[atB]
theorem c2x{out c:List Int}{s:Int}(f:short out)(a:short c):∀(k i:Nat)(acc:Int),i+k=c.length->
  a0d a4t (out,s,acc,c,(c.length:Int),(i:Int),())=some (s,c2w out (c.drop i) i acc,())
 |0,i,acc,h=>by
  obtain rfl:i=c.length:=by omega
  simp_all[a0g,a4t,c2w]
 |k+1,i,acc,h=>by
  have g:i<c.length:=by omega
  have e:out.length<1000000:=f;have d:c.length<1000000:=a;rw[a03 g,c2w];have j:wrap .i64 (((out.length:Nat):Int)-1)=((out.length:Nat):Int)-1:=a0c (by omega);have l:wrap .i64 (((out.length:Nat):Int)-1-(i:Int))=((out.length:Nat):Int)-1-(i:Int):=a0c (by omega)
  by_cases hi:i<out.length
  have b:decide (wrap .i64 (wrap .i64 (((out.length:Nat):Int)-1)-(i:Int))<0)=false:=by grind
  simp[hi];rw[a0k (s':=(out,s,W (acc+W (c[i]*atB out (i+1))),c,(c.length:Int),((i+1:Nat):Int),())) (by
   simp only[a4t,dlt g,cT,a0e g,oB,b,cF,e0Z hi f,a0b (show i<1000000 by omega)])]
  exact c2x f a k (i+1) _ (by omega);have b:decide (wrap .i64 (wrap .i64 (((out.length:Nat):Int)-1)-(i:Int))<0)=true:=by grind
  simp[hi];simp_all[a0g,a4t,a0e]
theorem d9s{out c:List Int}{s:Int}(g:short out)(h:short c)(f:0<=s):a8l (out,c,s)=some (b3w c s out):=by
 have:=c2x (s:=s) g h c.length 0 0 (by omega)
 grind[a8l,b3w]
theorem c7J{out c:List Int}{s:Int}(f:short out)(a:short c)(b:out.all a0i=true):∀(k i:Nat)(acc:Int),i+k=c.length->
  a0d a3Z (out,c,s,acc,(i:Int),())=some (Sum.inl (s,c2w out (c.drop i) i acc,()))
 |0,i,acc,h=>by
  obtain rfl:i=c.length:=by omega
  simp_all[a0g,a3Z,c2w]
 |k+1,i,acc,h=>by
  have g:i<c.length:=by omega
  have j:out.length<1000000:=f;have d:c.length<1000000:=a;rw[a03 g,c2w]
  by_cases hi:i<out.length
  simp[hi];rw[a0k (s':=(out,c,s,W (acc+W (c[i]*atB out (i+1))),((i+1:Nat):Int),())) (by
   simp only[a3Z,dlt g,dlt hi,cT,e0Z hi f,oB,a3d,e3c hi b,bT,cF,a0e g,a0b (show i<1000000 by omega)])]
  exact c7J f a b k (i+1) _ (by omega);have e:decide ((i:Int)<((out.length:Nat):Int))=false:=by simp_all
  simp[hi];exact a0g (by simp only[a3Z,dlt g,cT,e,cF])
theorem c4N{s:Int}(h:0<=s)(g:s<=64):wrap .u64 s=s:=a0p (by omega)
theorem c2y{out c:List Int}{s:Int}(f:short out)(h:short c)(k:out.all a0i=true)(g:b0l c s=true):a7p (out,c,s)=some (b3w c s out):=by
 have:=c7J (s:=s) f h k c.length 0 0 (by omega)
 simp at this;unfold a7p;simp[a8y h,g,this];simp only[b0l,bA9,dT]at g
 grind[c4N,b3w]
def b6T(warm rest c:List Int)(s:Int):Option (List Int):=bif warm.all a0i&&rest.all a0i then a6k (b3w c s) rest warm else none
theorem b9h{warm rest c:List Int}{s:Int}(o:b0l c s=true)(w:warm.length=c.length)(v:rest.length<100000):
  a8T (warm,rest,c,s)=some (a6c (b6T warm rest c s)):=by
 have g:=o;simp only[b0l,bA9,dT]at g;have k:short c:=by unfold short;omega
 have m:short warm:=by unfold short;omega
 have l:short rest:=by unfold short;omega
 unfold a8T;have q:(((warm.length:Nat):Int) != ((c.length:Nat):Int))=false:=by simp_all
 simp only[b5s k,o,oB,bT,cF,q,b5A m,b5A l,b6T];cases hw1:warm.all a0i with
 |false=>rfl
 |true=>
  simp only[bT,cF,oB,a22];cases hw2:rest.all a0i with
  |false=>rfl
  |true=>
   have p:wrap .i64 (((warm.length:Nat):Int)+((rest.length:Nat):Int))=((warm.length+rest.length:Nat):Int):=by grind[a0c]
   have r:(0:Int)<=((warm.length+rest.length:Nat):Int):=by omega
   simp only[bT,cF,cT,p,r,decide_true,tN,a1f (show warm.length+rest.length<1000000 by omega),a1f (show 0+warm.length<1000000 by omega),a02,a06,a09]
   have:=a1S (f:=a8m) rest (fun i out=>(c,s,rest,(rest.length:Int),(i:Int),out,())) (a9O (b3w c s) (Sum.inr ((6:Int),([]:List Int),())))
    (fun i out=>out.length<=warm.length+i) (fun out=>Sum.inl (out,()))
    (fun i h out u=>by
     have d:i<1000000:=by omega
     have j:short out:=by unfold short;omega
     have e:wrap .i64 (b3w c s out+rest[i])=W (rest[i]+b3w c s out):=by grind
     simp only[a8m,dlt h,cT,a0e h,oB,d9s j k g.2.2.1,e,b4c,a9O];cases hb:a0i (W (rest[i]+b3w c s out))with
     |true=>
      simp only[cT,bT,cF,a1f (show out.length+1<1000000 by omega),a0b d];refine⟨fun t n=>?_,fun b hb=>(by grind)⟩;simp at n;subst n;exact⟨rfl,by grind⟩
     |false=>
      simp)
    (fun out _=>by simp[a8m]) (a:=warm) (by omega)
   simp[a8z]at this;rw[this];cases a6k (b3w c s) rest warm<;>rfl
theorem b5B{warm rest c:List Int}{s:Int}(k:b0l c s=true)(t:warm.length=c.length)(r:rest.length<100000):
  a6b (warm,rest,c,s)=some (a6c (b6T warm rest c s)):=by
 have d:=k;simp only[b0l,bA9,dT]at d;have g:short c:=by unfold short;omega
 have m:short warm:=by unfold short;omega
 have l:short rest:=by unfold short;omega
 unfold a6b;have o:(((warm.length:Nat):Int) != ((c.length:Nat):Int))=false:=by simp_all
 simp only[a8y g,k,oB,bT,cF,o,a2d m,a2d l,b6T];cases hw1:warm.all a0i with
 |false=>rfl
 |true=>
  simp only[bT,cF,oB,a22];cases hw2:rest.all a0i with
  |false=>rfl
  |true=>
   simp only[bT,cF,cT,a1f (show 0+warm.length<1000000 by omega),a06,a09]
   have:=a1S (f:=a6i) rest (fun i out=>(rest,c,s,(i:Int),out,())) (a9O (b3w c s) (Sum.inr ((6:Int),([]:List Int),())))
    (fun i out=>out.length<=warm.length+i/\out.all a0i=true) (fun out=>Sum.inl (out,()))
    (fun i h out p=>by
     have e:i<1000000:=by omega
     have j:short out:=by unfold short;omega
     simp only[a6i,dlt h,cT,a0e h,oB,c2y j g p.2 k,a3d,a9O];cases hb:a0i (W (rest[i]+b3w c s out))with
     |true=>
      simp only[cT,bT,cF,a1f (show out.length+1<1000000 by omega),a0b e];refine⟨fun q n=>?_,fun b hb=>(by grind)⟩;simp at n;subst n;exact⟨rfl,by grind,by simp_all⟩
     |false=>
      simp)
    (fun out _=>by simp[a6i]) (a:=warm) ⟨by omega,hw1⟩
   simp[a8z]at this;rw[this];cases a6k (b3w c s) rest warm<;>rfl
def c2z(out:List Int)(lag:Int):List Int->Nat->Int->Int
 | [],_,acc=>acc
 |t::r,i,acc=>c2z out lag r (i+1) (bif decide (0<=(out.length:Int)-lag-1+i)then W (acc+W (t*out.getD ((out.length:Int)-lag-1+i).toNat 0))else acc)
def b0U(lag:Int)(t:List Int)(out:List Int):Int:=a0v .i64 (c2z out lag t 0 0) 6
theorem c0g{out:List Int}{j:Int}(g:0<=j)(h:j<out.length):a0m out j=some (out.getD j.toNat 0):=by
 obtain⟨n,rfl⟩:=a01 g;simp_all[a0e]
theorem d6L(h:2<=lag)(g:lag<=1024)(f:n<1000000)(hi:i<3):
  wrap .i64 (wrap .i64 (wrap .i64 ((n:Int)-lag)-1)+(i:Int))=(n:Int)-lag-1+i:=by
 grind[a0c]
theorem e1a{j:Nat}(h:j<n):(l.take n).getD j 0=l.getD j 0:=by
 simp_all
theorem b1f{l t:List Int}{lag:Int}{n:Nat}(m:n<=l.length)(j:short l)(o:t.length=3)(a:2<=lag)(b:lag<=1024):∀(k i:Nat)(acc:Int),i+k=3->
  a0d a5q (l,(n:Int),lag,acc,t,(i:Int),())=some (c2z (l.take n) lag (t.drop i) i acc,())
 |0,i,acc,h=>by
  obtain rfl:i=t.length:=by omega
  grind[a0g,a5q,c2z]
 |k+1,i,acc,h=>by
  have g:i<t.length:=by omega
  have f:decide ((i:Int)<3)=true:=by grind
  have p:l.length<1000000:=j;have d:(l.take n).length=n:=by simp_all
  have e:=d6L (n:=n) (i:=i) a b (by omega) (by omega);rw[a03 g,c2z,d]
  by_cases hp:0<=(n:Int)-lag-1+i
  have c:decide ((n:Int)-lag-1+i>=0)=true:=by simp_all
  simp only[hp,decide_true,cT];rw[e1a (show((n:Int)-lag-1+i).toNat<n by omega),a0k (s':=(l,(n:Int),lag,W (acc+W (t[i]*l.getD ((n:Int)-lag-1+i).toNat 0)),t,((i+1:Nat):Int),())) (by
   simp only[a5q,f,cT,a0e g,oB,e,c,c0g hp (show(n:Int)-lag-1+(i:Int)<(l.length:Int)by omega),a0b (show i<1000000 by omega)])]
  exact b1f m j o a b k (i+1) _ (by omega);have c:decide ((n:Int)-lag-1+i>=0)=false:=by simp_all
  simp[hp];rw[a0k (s':=(l,(n:Int),lag,acc,t,((i+1:Nat):Int),())) (by
   simp only[a5q,f,cT,a0e g,oB,e,c,cF,a0b (show i<1000000 by omega)])]
  exact b1f m j o a b k (i+1) _ (by omega)
theorem c7K{l t:List Int}{lag:Int}{n:Nat}(f:n<=l.length)(k:short l)(a:t.length=3)(h:2<=lag)(g:lag<=1024):
  a7J (l,(n:Int),lag,t)=some (b0U lag t (l.take n)):=by
 have:=b1f (t:=t) f k a h g 3 0 0 (by rfl)
 simp_all[a7J,b0U]
theorem c7L{out:List Int}(f:short out)(k:t.length=3)(h:2<=lag)(g:lag<=1024):a7J (out,(out.length:Int),lag,t)=some (b0U lag t out):=by
 simp_all[c7K]
theorem b0m{out t:List Int}{lag:Int}(d:short out)(l:t.length=3)(a:2<=lag)(b:lag<=1024):∀(k i:Nat)(acc:Int),i+k=3->
  a0d a4Q (out,lag,acc,(i:Int),t,())=some (c2z out lag (t.drop i) i acc,())
 |0,i,acc,h=>by
  obtain rfl:i=t.length:=by omega
  grind[a0g,a4Q,c2z]
 |k+1,i,acc,h=>by
  have f:i<t.length:=by omega
  have g:decide ((i:Int)<3)=true:=by grind
  have j:out.length<1000000:=d;have e:=d6L (i:=i) a b j (by omega);rw[a03 f,c2z]
  by_cases hp:0<=(out.length:Int)-lag-1+i
  have c:decide ((out.length:Int)-lag-1+i>=0)=true:=by simp_all
  simp only[hp,decide_true,cT];rw[a0k (s':=(out,lag,W (acc+W (t[i]*out.getD ((out.length:Int)-lag-1+i).toNat 0)),((i+1:Nat):Int),t,())) (by
   simp only[a4Q,g,cT,a0e f,oB,e,c,c0g hp (show(out.length:Int)-lag-1+(i:Int)<(out.length:Int)by omega),a0b (show i<1000000 by omega)])]
  exact b0m d l a b k (i+1) _ (by omega);have c:decide ((out.length:Int)-lag-1+i>=0)=false:=by simp_all
  simp[hp];rw[a0k (s':=(out,lag,acc,((i+1:Nat):Int),t,())) (by
   simp only[a4Q,g,cT,e,c,cF,a0b (show i<1000000 by omega)])]
  exact b0m d l a b k (i+1) _ (by omega)
theorem c5S{out:List Int}(f:short out)(k:t.length=3)(h:2<=lag)(g:lag<=1024):a9B (out,lag,t)=some (b0U lag t out):=by
 have:=b0m (out:=out) (t:=t) f k h g 3 0 0 (by rfl)
 simp_all[a9B,b0U]
def c0h(rest:List Int)(lag:Int)(t:List Int):Option (List Int):=bif rest.all a0i then a6k (b0U lag t) rest []else none
theorem d3K{rest:List Int}(d:b4G lag t=true)(e:t.length=3)(m:rest.length<100000):b4r (rest,lag,t)=some (a6c (c0h rest lag t)):=by
 have g:=d;simp only[b4G,bA9,dT]at g;have k:short rest:=by unfold short;omega
 unfold b4r;simp only[c4M e,d,oB,bT,cF,c7H k,c0h];cases hw2:rest.all a0i with
 |false=>rfl
 |true=>
  have l:(0:Int)<=((rest.length:Nat):Int):=by omega
  simp[a1f k]
  have:=a1S (f:=b0C) rest (fun i out=>(lag,rest,(rest.length:Int),(i:Int),out,t,())) (a9O (b0U lag t) (Sum.inr ((6:Int),([]:List Int),())))
   (fun i out=>out.length=i) (fun out=>Sum.inl (out,()))
   (fun i h out j=>by
    have b:i<1000000:=by omega
    have c:short out:=by unfold short;omega
    have hp:=c7L (out:=out) (t:=t) (lag:=lag) c e g.1 g.2.1;rw[j]at hp;simp only[b0C,dlt h,cT,a0e h,oB,hp,b6S,a9O];cases hb:a0i (W (rest[i]+b0U lag t out))with
    |true=>
     simp only[cT,bT,cF,a1f (show out.length+1<1000000 by omega),a0b b];simp_all
    |false=>
     simp)
   (fun out _=>by simp[b0C]) (a:=[]) rfl
  simp[a8z]at this;rw[this];cases a6k (b0U lag t) rest []<;>rfl
theorem c7M{rest t:List Int}{lag:Int}(d:b4G lag t=true)(e:t.length=3)(l:rest.length<100000):b0N (rest,lag,t)=some (a6c (c0h rest lag t)):=by
 have g:=d;simp only[b4G,bA9,dT]at g;have c:short rest:=by unfold short;omega
 unfold b0N;simp only[b9g e,d,oB,bT,cF,a2d c,c0h];cases hw2:rest.all a0i with
 |false=>rfl
 |true=>
  simp
  have:=a1S (f:=a7q) rest (fun i out=>(rest,lag,(i:Int),out,t,())) (a9O (b0U lag t) (Sum.inr ((6:Int),([]:List Int),())))
   (fun i out=>out.length=i) (fun out=>Sum.inl (out,()))
   (fun i h out j=>by
    have k:i<1000000:=by omega
    have b:short out:=by unfold short;omega
    simp only[a7q,dlt h,cT,a0e h,oB,c5S b e g.1 g.2.1,a3d,a9O];cases hb:a0i (W (rest[i]+b0U lag t out))with
    |true=>
     simp only[cT,bT,cF,a1f (show out.length+1<1000000 by omega),a0b k];simp_all
    |false=>
     simp)
   (fun out _=>by simp[a7q]) (a:=[]) rfl
  simp[a8z]at this;rw[this];cases a6k (b0U lag t) rest []<;>rfl
def b9i{β:Type}(n:Int)(bad:β)(out:List Int)(x:Int):List Int ⊕ β:=bif a0i x&&a0i (a0t .i64 x n)then .inl (out++[a0t .i64 x n])else .inr bad
def upO(n:Int)(l:List Int):Option (List Int):=bif l.all (fun x=>a0i x&&a0i (a0t .i64 x n))then some (l.map fun x=>a0t .i64 x n)else none
theorem b8A{β:Type}(n:Int)(h:β)(g:List Int->β):∀(l out:List Int),b6R g (a6j (b9i n h) l out)=match upO n l with|some r=>g (out++r)|none=>h
 | [],out=>by simp[a6j,b6R,upO]
 |x::l,out=>by
  simp only[a6j,b9i,upO,a25];cases hx:(a0i x&&a0i (a0t .i64 x n))with
  |true=>
   simp only[cT,a22];rw[b8A n h g l _];simp only[upO];cases l.all (fun x=>a0i x&&a0i (a0t .i64 x n))with
   |true=>simp
   |false=>rfl
  |false=>rfl
theorem d3L{n:Int}(d:0<=n)(e:n<=30)(m:l.length<100000):b1p (l,n)=some (a6c (upO n l)):=by
 have c:short l:=by unfold short;omega
 have g:¬ n<0:=by omega
 have b:¬ n > 30:=by omega
 unfold b1p;simp[g,b]
 have:=a1S (f:=b0D) l (fun i out=>(n,l,(l.length:Int),(i:Int),out,())) (b9i n (Sum.inr ((6:Int),([]:List Int),())))
  (fun i out=>out.length=i) (fun out=>Sum.inl (out,()))
  (fun i h out j=>by
   have k:i<1000000:=by omega
   simp only[b0D,dlt h,cT,a0e h,oB,c9y,b9i,g,decide_false,cF];cases hb:a0i l[i]with
   |true=>
    cases hb2:a0i (a0t .i64 l[i] n)with
    |true=>
     simp only[cT,bT,cF,oB,g,decide_false,a1f (show out.length+1<1000000 by omega),a0b k,a02];simp_all
    |false=>
     simp
   |false=>
    simp)
  (fun out _=>by simp[b0D]) (a:=[]) rfl
 simp[b8A]at this;rw[this];cases upO n l<;>rfl
theorem e1b{n:Int}(d:0<=n)(j:n<=30)(o:l.length<100000):c3y (l,n)=some (a6c (upO n l)):=by
 have e:short l:=by unfold short;omega
 have g:¬ n<0:=by omega
 have c:¬ n > 30:=by omega
 have b:=c4N d (by omega);unfold c3y;simp[g,c]
 have:=a1S (f:=b5Q) l (fun i out=>(l,n,(i:Int),out,())) (b9i n (Sum.inr ((6:Int),([]:List Int),())))
  (fun i out=>out.length=i) (fun out=>Sum.inl (out,()))
  (fun i h out m=>by
   have k:i<1000000:=by omega
   simp only[b5Q,dlt h,cT,a0e h,oB,a3d,b9i,b,g,decide_false,cF];cases hb:a0i l[i]with
   |true=>
    cases hb2:a0i (a0t .i64 l[i] n)with
    |true=>
     simp only[cT,bT,cF,oB,b,g,decide_false,a0e h,a1f (show out.length+1<1000000 by omega),a0b k,a02];simp_all
    |false=>
     simp
   |false=>
    simp)
  (fun out _=>by simp[b5Q]) (a:=[]) rfl
 simp[b8A]at this;rw[this];cases upO n l<;>rfl
abbrev Fil:Type:=Int×((List Int)×((List Int)×Unit))
variable {f:Fil}
def a1N(x:Int):Int:=a2P (a1s x (-1073741824)) 1073741823
def c7N(x:Int):Int:=a2P (a1s x (-1048576)) 1048576
theorem c2A(x:Int):-1073741824<=a1N x/\a1N x<=1073741823:=by
 grind[a1N,b9e,c3B]
theorem d3M(x:Int):-1048576<=c7N x/\c7N x<=1048576:=by
 grind[c7N,b9e,c3B]
def c9A:List Int->List Int->Int->Int
 |a::w,b::h,acc=>c9A w h (W (acc+W (a*b)))
 |_,_,acc=>acc
def a0Z(f:Fil):Int:=a1N (a0v .i64 (c9A f.2.1 f.2.2.1 0) 16)
structure FilOk (f:Fil):Prop where
 len:f.2.1.length=f.2.2.1.length
 pos:1<=f.2.1.length
 most:f.2.1.length<=32
 rate:0<=f.1/\f.1<=8
 small:∀x∈f.2.1,-1048576<=x/\x<=1048576
theorem b2r(h:i<l.length):a37 l i 0=l[i]:=by
 simp_all
theorem b6U{f:Fil}(c:FilOk f):∀(k i:Nat)(acc:Int),i+k=f.2.1.length->
  a0d a4p (acc,(f.2.1.length:Int),(i:Int),f,())=some (c9A (f.2.1.drop i) (f.2.2.1.drop i) acc,f,())
 |0,i,acc,h=>by
  obtain rfl:i=f.2.1.length:=by omega
  rw[a43,a0g (b:=(acc,f,())) (by simp[a4p])];rfl
 |k+1,i,acc,h=>by
  have g:i<f.2.1.length:=by omega
  have a:i<f.2.2.1.length:=by rw[<-c.len];omega
  have e:=c.most;rw[a03 g,a03 a,c9A];have d:decide ((0:Int)<=(i:Int))=true:=by simp
  rw[a0k (s':=(W (acc+W (f.2.1[i]*f.2.2.1[i])),(f.2.1.length:Int),((i+1:Nat):Int),f,())) (by
   simp only[a4p,dlt g,dlt a,d,cT,a02,tN,b2r g,b2r a,a0b (show i<1000000 by omega)])]
  exact b6U c k (i+1) _ (by omega)
theorem b4e(h:FilOk f):a3U f=some (a0Z f,f):=by
 have:=b6U h f.2.1.length 0 0 (by omega)
 simp at this;unfold a3U;simp only[this,oB,a6D];rfl
theorem b9j{f:Fil}(c:FilOk f):∀(k i:Nat)(acc:Int),i+k=f.2.1.length->
  a0d a5b (acc,(i:Int),f,())=some (c9A (f.2.1.drop i) (f.2.2.1.drop i) acc,f,())
 |0,i,acc,h=>by
  obtain rfl:i=f.2.1.length:=by omega
  rw[a43,a0g (b:=(acc,f,())) (by simp[a5b])];rfl
 |k+1,i,acc,h=>by
  have g:i<f.2.1.length:=by omega
  have a:i<f.2.2.1.length:=by rw[<-c.len];omega
  have e:=c.most;rw[a03 g,a03 a,c9A];have d:decide ((0:Int)<=(i:Int))=true:=by simp
  rw[a0k (s':=(W (acc+W (f.2.1[i]*f.2.2.1[i])),((i+1:Nat):Int),f,())) (by
   simp only[a5b,dlt g,dlt a,d,cT,a02,tN,b2r g,b2r a,a0b (show i<1000000 by omega)])]
  exact b9j c k (i+1) _ (by omega)
theorem b6V{f:Fil}(h:FilOk f):a4R f=some (a0Z f,f):=by
 have:=b9j h f.2.1.length 0 0 (by omega)
 simp at this;unfold a4R;simp only[this,oB,b3m];rfl
def a7x(x:Int):Int:=if 0<x then 1 else if x<0 then -1 else 0
def b4H(r:Int)(x g:Int):Int:=a7x (x-g)*2^r.toNat
def b5u(st:Int)(w h:Int):Int:=c7N (W (w+a7x h*st))
def b5X(f:Fil)(x:Int):Fil:=
 (f.1,a23 (b5u (b4H f.1 (a1N x) (a0Z f))) f.2.1 f.2.2.1,a1N x::f.2.2.1.take (f.2.2.1.length-1),f.2.2.2)
theorem d3N(k:FilOk f)(x:Int):FilOk (b5X f x):=by
 obtain⟨a,b,c,g,d⟩:=k;have e:(a23 (b5u (b4H f.1 (a1N x) (a0Z f))) f.2.1 f.2.2.1).length=f.2.1.length:=by simp_all
 refine⟨?_,?_,?_,g,?_⟩;show(a23 _ _ _).length=(a1N x::f.2.2.1.take (f.2.2.1.length-1)).length;simp_all;show 1<=(a23 _ _ _).length;omega;show(a23 _ _ _).length<=32;omega;intro y h;have h:y∈a23 (b5u (b4H f.1 (a1N x) (a0Z f))) f.2.1 f.2.2.1:=h;obtain⟨i,hi,rfl⟩:=a87.1 h
 simp
 exact d3M _
theorem a9i(x:Int):(0<x/\a7x x=1)\/(x<0/\a7x x=-1)\/(x=0/\a7x x=0):=by
 unfold a7x;omega
theorem c5T{r:Int}(h:0<=r/\r<=8):(2:Int)^r.toNat<=256/\1<=(2:Int)^r.toNat:=by
 have:r.toNat=0\/r.toNat=1\/r.toNat=2\/r.toNat=3\/r.toNat=4\/r.toNat=5\/r.toNat=6\/r.toNat=7\/r.toNat=8:=by omega
 rcases this with e|e|e|e|e|e|e|e|e<;>rw[e]<;>decide
theorem d0s{r:Int}(h:0<=r/\r<=8)(g:-1<=x/\x<=1):a0t .i64 x r=x*2^r.toNat:=by
 have hp:=c5T h;have hb:min r.toNat 64=r.toNat:=by omega
 unfold a0t;show wrap .i64 (x*2^(min r.toNat 64))=_;rw[hb]
 have:x=-1\/x=0\/x=1:=by omega
 rcases this with rfl|rfl|rfl
 all_goals grind[a0c]
theorem d1I(a:FilOk f)(x:Int):
  (bif decide (a1N x > a0Z f)then bif decide (f.1<0)then(none:Option (Int×Int×Fil×Unit))else some (a1N x,a0t .i64 (1:Int) f.1,f,())
   else bif decide (a1N x<a0Z f)then bif decide (f.1<0)then none else some (a1N x,wrap .i64 (0-(a0t .i64 (1:Int) f.1)),f,())
   else some (a1N x,(0:Int),f,()))=some (a1N x,b4H f.1 (a1N x) (a0Z f),f,()):=by
 have d:¬ f.1<0:=by have:=a.rate;omega
 have hp:=c5T a.rate;have b:=d0s a.rate (x:=1) (by omega);rw[Int.one_mul]at b;rcases a9i (a1N x-a0Z f)with⟨c,h⟩|⟨c,h⟩|⟨c,h⟩;have g:a1N x > a0Z f:=by omega
 simp only[g,d,decide_true,decide_false,cT,cF,b4H,h,Int.one_mul,b];have g:¬ a1N x > a0Z f:=by omega
 have k:a1N x<a0Z f:=by omega
 simp only[g,k,d,decide_true,decide_false,cT,cF,b4H,h,b]
 grind[a0c]
 have g:¬ a1N x > a0Z f:=by omega
 have k:¬ a1N x<a0Z f:=by omega
 simp only[g,k,decide_false,cF,b4H,h,a96]
theorem d3O{z:List Int}(hi:i<l.length)(f:z.length=l.length):(z.take i++l.drop i).set i (z[i]'(by omega))=z.take (i+1)++l.drop (i+1):=by
 have h:(z.take i).length=i:=by grind
 have g:z.take (i+1)=z.take i++[z[i]'(by omega)]:=by simp
 rw[a81 _ _ (by omega),h,a63,a03 hi,a92,g,aA];rfl
theorem e3d{z:List Int}(hi:i<l.length)(h:z.length=l.length):a37 (z.take i++l.drop i) i 0=l[i]:=by
 grind
theorem e1c(g:FilOk f)(h:i<f.2.1.length):-1048576<=f.2.1[i]/\f.2.1[i]<=1048576:=g.small _ (a05 h)
theorem c7O(n:FilOk f){x1 st:Int}(t:-256<=st/\st<=256):
  a0d a3s (x1,st,(f.2.2.1.length:Int),(0:Int),f,())=some (x1,(f.1,a23 (b5u st) f.2.1 f.2.2.1,f.2.2),()):=by
 obtain⟨z,v⟩:∃z,a23 (b5u st) f.2.1 f.2.2.1=z:=⟨_,rfl⟩;have p:=n.len;have d:z.length=f.2.1.length:=by grind
 have u:=n.most
 have:=a1E (f:=a3s) (fun i=>(x1,st,(f.2.2.1.length:Int),(i:Int),(f.1,z.take i++f.2.1.drop i,f.2.2),()))
  f.2.2.1.length (b:=(x1,(f.1,z,f.2.2),())) (fun i hi=>by
   have k:i<f.2.1.length:=by omega
   have j:decide ((0:Int)<=(i:Int))=true:=by simp
   have r:(z.take i++f.2.1.drop i).length=f.2.1.length:=by grind
   have g:decide ((i:Int)<((z.take i++f.2.1.drop i).length:Int))=true:=by simp_all
   have o:z[i]'(by omega)=b5u st f.2.1[i] f.2.2.1[i]:=by grind
   have s:=e1c n k;have h:=d3O k d;rw[o]at h;simp only[a3s,dlt hi,j,g,cT,a02,tN,b2r hi,e3d k d];rcases a9i f.2.2.1[i]with⟨m,a⟩|⟨m,a⟩|⟨m,a⟩;have c:f.2.2.1[i] > 0:=m;simp[b5u,a]at h;simp only[c,decide_true,cT,oB,j,g,a02,tN,a0b (show i<1000000 by omega)];exact congrArg (fun l=>some (Sum.inl (x1,st,(f.2.2.1.length:Int),((i+1:Nat):Int),(f.1,l,f.2.2),()))) h;have c:¬ f.2.2.1[i] > 0:=by omega
   have e:f.2.1[i]+-1*st=f.2.1[i]-st:=by omega
   simp only[b5u,a,e]at h;simp only[c,m,decide_true,decide_false,cT,cF,oB,j,g,a02,tN,a0b (show i<1000000 by omega)];exact congrArg (fun l=>some (Sum.inl (x1,st,(f.2.2.1.length:Int),((i+1:Nat):Int),(f.1,l,f.2.2),()))) h;have c:¬ f.2.2.1[i] > 0:=by omega
   have q:¬ f.2.2.1[i]<0:=by omega
   have e:W (f.2.1[i]+0*st)=f.2.1[i]:=by rw[a96,Int.add_zero];exact a0c (by omega)
   simp only[b5u,a,e]at h;simp only[c,q,decide_false,cF,oB,j,g,cT,a02,tN,a0b (show i<1000000 by omega)];exact congrArg (fun l=>some (Sum.inl (x1,st,(f.2.2.1.length:Int),((i+1:Nat):Int),(f.1,l,f.2.2),()))) h)
  (by
   simp_all[a36,a3s])
 simp_all
theorem d5R(k:FilOk f)(x g:Int):-256<=b4H f.1 x g/\b4H f.1 x g<=256:=by
 have hp:=c5T k.rate;unfold b4H;rcases a9i (x-g)with⟨-,h⟩|⟨-,h⟩|⟨-,h⟩<;>rw[h]<;>omega
theorem d1J(h:FilOk f)(x:Int):a6h (f,x)=some (b5X f x):=by
 unfold a6h;have d:=d1I h x;simp only[a6D,oB,b4e h];have g:(bif decide (a2P (a1s x (-1073741824)) 1073741823 > a0Z f)then bif decide (f.1<0)then(none:Option (Int×Int×Fil×Unit))else some (a2P (a1s x (-1073741824)) 1073741823,a0t .i64 (1:Int) f.1,f,())
   else bif decide (a2P (a1s x (-1073741824)) 1073741823<a0Z f)then bif decide (f.1<0)then none else some (a2P (a1s x (-1073741824)) 1073741823,wrap .i64 (0-(a0t .i64 (1:Int) f.1)),f,())
   else some (a2P (a1s x (-1073741824)) 1073741823,(0:Int),f,()))=_:=d
 rw[g];simp only[oB,c7O h (d5R h _ _)];have i:f.2.2.1.length>=1:=by have:=h.pos;have:=h.len;omega
 have b:decide ((1:Int)<=((f.2.2.1.length:Nat):Int))=true:=by grind
 have e:b5C f.2.2.1 1 (f.2.2.1.length-1) f.2.2.1=f.2.2.1.take 1++f.2.2.1.take (f.2.2.1.length-1):=by
  simp_all[b5C]
 have j:(f.2.2.1.take 1++f.2.2.1.take (f.2.2.1.length-1)).length=f.2.2.1.length:=by simp_all
 have c:decide ((0:Int)<(((f.2.2.1.take 1++f.2.2.1.take (f.2.2.1.length-1)).length:Nat):Int))=true:=by grind
 simp only[b,cT,e,c];congr 1;have k:(f.2.2.1.take 1++f.2.2.1.take (f.2.2.1.length-1)).set 0 (a1N x)=a1N x::f.2.2.1.take (f.2.2.1.length-1):=by
  cases hc:f.2.2.1 with
  |nil=>simp_all
  |cons a l=>simp
 rw[k];rfl
theorem c4O(x:Int):b3n x=some (a7x x):=by
 grind[b3n,a9i]
theorem d1K(k:FilOk f){x1 s:Int}(v:-1<=s/\s<=1):
  a0d a4a (x1,s,(0:Int),([]:List Int),([]:List Int),f,())=some (x1,a23 (b5u (s*2^f.1.toNat)) f.2.1 f.2.2.1,([]:List Int),f,()):=by
 obtain⟨z,w⟩:∃z,a23 (b5u (s*2^f.1.toNat)) f.2.1 f.2.2.1=z:=⟨_,rfl⟩;have e:=k.len;have t:z.length=f.2.1.length:=by grind
 have u:=k.most;have q:=k.rate;have r:wrap .u64 f.1=f.1:=a0p (by omega);have a:¬ f.1<0:=by omega
 have:=a1E (f:=a4a) (fun i=>(x1,s,(i:Int),z.take i,([]:List Int),f,()))
  f.2.1.length (b:=(x1,z,([]:List Int),f,())) (fun i hi=>by
   have h:i<f.2.2.1.length:=by omega
   have o:decide ((0:Int)<=(i:Int))=true:=by simp
   have d:z[i]'(by omega)=b5u (s*2^f.1.toNat) f.2.1[i] f.2.2.1[i]:=by grind
   have c:-1<=s*a7x f.2.2.1[i]/\s*a7x f.2.2.1[i]<=1:=by
    rcases a9i f.2.2.1[i]with⟨-,g⟩|⟨-,g⟩|⟨-,g⟩<;>rw[g]<;>omega
   have j:wrap .i64 (s*a7x f.2.2.1[i])=s*a7x f.2.2.1[i]:=a0c (by omega);have l:=d0s q c;have m:a2P (a1s (wrap .i64 (f.2.1[i]+s*a7x f.2.2.1[i]*2^f.1.toNat)) (-1048576)) 1048576=z[i]'(by omega):=by
    rw[d,show s*a7x f.2.2.1[i]*2^f.1.toNat=a7x f.2.2.1[i]*(s*2^f.1.toNat)by grind];rfl
   have n:z.take i++[z[i]'(by omega)]=z.take (i+1):=by simp
   have p:(z.take i).length+1<1000000:=by grind
   simp only[a4a,dlt hi,dlt h,o,cT,a02,tN,b2r hi,b2r h,c4O,oB,r,a,decide_false,cF,a1f p,j,l,m,a06,n,a0b (show i<1000000 by omega)])
  (by
   simp_all[a36,a4a])
 simp_all
theorem d3P(f:Fil):-1073741824<=a0Z f/\a0Z f<=1073741823:=c2A _
theorem d5S(h:FilOk f)(x:Int):a7r (f,x)=some (b5X f x):=by
 unfold a7r;have m:=c2A x;have n:=d3P f;have b:wrap .i64 (a1N x-a0Z f)=a1N x-a0Z f:=a0c (by omega);have l:-1<=a7x (a1N x-a0Z f)/\a7x (a1N x-a0Z f)<=1:=by
  rcases a9i (a1N x-a0Z f)with⟨-,g⟩|⟨-,g⟩|⟨-,g⟩<;>rw[g]<;>omega
 have d:b3m x=some (a1N x):=rfl;have o:=h.most;have k:=h.len;have a:=h.pos;have c:wrap .i64 (((f.2.2.1.length:Nat):Int)-1)=((f.2.2.1.length-1:Nat):Int):=by grind[a0c]
 have e:decide ((0:Int)<=((f.2.2.1.length-1:Nat):Int))=true:=by simp
 have i:decide (((f.2.2.1.length-1:Nat):Int)<=((f.2.2.1.length:Nat):Int))=true:=by simp
 have j:([a1N x]:List Int).length+(f.2.2.1.take (f.2.2.1.length-1)).length<1000000:=by grind
 simp only[d,oB,b6V h,b,c4O,d1K h l,a19,a1f (show 0+1<1000000 by omega),cT,c,e,i,a02,tN,a85,a06,a09,a1f j];rfl
abbrev Stg:Type:=Int×(Int×Unit)
theorem c5U(h:short l):a2L l=some l:=by
 have g:lim (0+l.length)=true:=a1f (by unfold short at h;omega);simp_all[a2L,b6w]
def b3x(s:Stg):Fil:=(s.2.1,a00 s.1.toNat 0,a00 s.1.toNat 0,())
theorem d6M{s:Stg}(h:stageB s=true):FilOk (b3x s):=by
 simp[stageB]at h;refine⟨by rfl,by simp[b3x];omega,by simp[b3x];omega,⟨h.2.2.1,h.2.2.2⟩,fun x g=>?_⟩;simp_all[b3x]
theorem d3Q{s:Stg}(h:stageB s=true):b4s s=some (b3x s,0):=by
 have g:=h;simp[stageB]at g;unfold b4s;have f:decide ((0:Int)<=s.1)=true:=by grind
 have k:decide (s.1<=s.1)=true:=by simp
 have a:lim s.1.toNat=true:=a1f (by omega);simp only[b4d,h,oB,bT,cF,f,k,a,a02,cT];rfl
theorem b6W{s:Stg}(h:stageB s=true):a9C s=some (b3x s,0):=by
 have g:=h;simp[stageB]at g;unfold a9C;have f:decide ((0:Int)<=s.1)=true:=by grind
 have k:decide (s.1<=s.1)=true:=by simp
 have a:lim s.1.toNat=true:=a1f (by omega);simp only[b3v,h,oB,bT,cF,f,k,a,a02,cT];rfl
def stO:List Int->List Int->Fil->Option (List Int)
 | [],done,_=>some done
 |r::rs,done,f=>bif a0i (W (a0Z f+r))then stO rs (done++[W (a0Z f+r)]) (b5X f (W (a0Z f+r)))else none
theorem b5Y:∀(l done:List Int)(f:Fil){r},stO l done f=some r->r.length=done.length+l.length
 | [],done,f,r,h=>by simp_all[stO]
 |x::l,done,f,r,h=>by
  simp[stO]at h;cases hw:a0i (W (a0Z f+x))with
  |true=>rw[hw]at h;rw[b5Y l _ _ h];grind
  |false=>simp_all
theorem c2B{done:List Int}(g:done.length=i)(h:i<row.length):a37 (done++row.drop i) i 0=row[i]:=by
 grind
theorem d3R{done:List Int}(g:done.length=i)(h:i<row.length)(y:Int):(done++row.drop i).set i y=(done++[y])++row.drop (i+1):=by
 rw[a81 _ _ (by omega),g,a63,a03 h,a92,aA];rfl
theorem b7Q{row b4:List Int}{b5:Int}(d:short row):∀(k i:Nat)(done:List Int)(f:Fil),i+k=row.length->done.length=i->FilOk f->
  ∃z,a0d a6E ((row.length:Int),(i:Int),b4,b5,done++row.drop i,f,())=some z/\
   match stO (row.drop i) done f with
   |some r=>z=.inl (b4,b5,r,())
   |none=>∃q,z=.inr (([]:List Int),(6:Int),q,())
 |0,i,done,f,h,hd,hf=>by
  obtain rfl:i=row.length:=by omega
  rw[a43,a61];exact⟨_,a0g (b:=Sum.inl (b4,b5,done,())) (by simp[a6E]),rfl⟩
 |k+1,i,done,f,h,hd,hf=>by
  have hi:i<row.length:=by omega
  have e:row.length<1000000:=d;have a:decide ((0:Int)<=(i:Int))=true:=by simp
  have j:(done++row.drop i).length=row.length:=by grind
  have c:decide ((i:Int)<(((done++row.drop i).length:Nat):Int))=true:=by simp_all
  have g:stO (row.drop i) done f=bif a0i (W (a0Z f+row[i]))then stO (row.drop (i+1)) (done++[W (a0Z f+row[i])]) (b5X f (W (a0Z f+row[i])))else none:=by
   rw[a03 hi];rfl
  rw[g];cases hw:a0i (W (a0Z f+row[i]))with
  |true=>
   rw[a0k (s':=((row.length:Int),((i+1:Nat):Int),b4,b5,(done++[W (a0Z f+row[i])])++row.drop (i+1),b5X f (W (a0Z f+row[i])),())) (by
    simp only[a6E,dlt hi,a,c,cT,a02,b4e hf,oB,tN,c2B hd hi,b1Y,hw,bT,cF,d1J hf,d3R hd hi,a0b (show i<1000000 by omega)])]
   exact b7Q d k (i+1) _ _ (by omega) (by simp_all) (d3N hf _)
  |false=>
   exact⟨_,a0g (b:=Sum.inr (([]:List Int),(6:Int),done++row.drop i,())) (by
    simp only[a6E,dlt hi,a,c,cT,a02,b4e hf,oB,tN,c2B hd hi,b1Y,hw,a15]),_,rfl⟩
theorem c0S{row:List Int}{st:List Stg}{n:Int}(a:short row):∀(k i:Nat)(done:List Int)(f:Fil),i+k=row.length->done.length=i->FilOk f->
  a0d a4S (st,n,(i:Int),done++row.drop i,f,())=some (match stO (row.drop i) done f with
   |some r=>.inl (st,n,r,())
   |none=>.inr ((6:Int),([]:List Int),()))
 |0,i,done,f,h,hd,hf=>by
  obtain rfl:i=row.length:=by omega
  rw[a43,a61];have j:done.length=row.length:=hd;exact a0g (b:=Sum.inl (st,n,done,())) (by simp_all[a4S])
 |k+1,i,done,f,h,hd,hf=>by
  have hi:i<row.length:=by omega
  have l:row.length<1000000:=a;have c:decide ((0:Int)<=(i:Int))=true:=by simp
  have j:(done++row.drop i).length=row.length:=by grind
  have d:decide ((i:Int)<(((done++row.drop i).length:Nat):Int))=true:=by simp_all
  have g:stO (row.drop i) done f=bif a0i (W (a0Z f+row[i]))then stO (row.drop (i+1)) (done++[W (a0Z f+row[i])]) (b5X f (W (a0Z f+row[i])))else none:=by
   rw[a03 hi];rfl
  have e:wrap .i64 (row[i]+a0Z f)=W (a0Z f+row[i]):=by grind
  rw[g];cases hw:a0i (W (a0Z f+row[i]))with
  |true=>
   rw[a0k (s':=(st,n,((i+1:Nat):Int),(done++[W (a0Z f+row[i])])++row.drop (i+1),b5X f (W (a0Z f+row[i])),())) (by
    simp only[a4S,c,d,cT,a02,b6V hf,oB,tN,c2B hd hi,e,a3d,hw,bT,cF,d5S hf,d3R hd hi,a0b (show i<1000000 by omega)])]
   exact c0S a k (i+1) _ _ (by omega) (by simp_all) (d3N hf _)
  |false=>
   exact a0g (by
    simp_all[a4S,b6V,a3d])
def lO:List Stg->List Int->Option (List Int)
 | [],row=>some row
 |s::r,row=>match stO row [] (b3x s)with
  |some row'=>lO r row'
  |none=>none
theorem d5T{st:List Stg}{s:Stg}{k:Int}{b4:List Int}(h:stageB s=true)(b:short row):
  ∃z,a9u k s (st,b4,(0:Int),row,())=some z/\match stO row [] (b3x s)with
   |some r=>z=.inl (st,b4,(0:Int),r,())
   |none=>∃q,z=.inr (.ret,st,([]:List Int),(6:Int),q,()):=by
 obtain⟨z,g,f⟩:=b7Q (b4:=b4) (b5:=0) b row.length 0 [] (b3x s) (by omega) rfl (d6M h);simp at g f;unfold a9u;have a:((0:Int) != 0)=false:=rfl;simp[d3Q h,g];cases hst:stO row [] (b3x s)with
 |some r=>
  simp_all
 |none=>
  grind
theorem c4P{st l:List Stg}{b4:List Int}(f:∀s∈l,stageB s=true):∀(n:Nat)(row:List Int),n<=l.length->short row->
  ∃z,a8i a9u l n (st,b4,(0:Int),row,())=some z/\match lO (l.take n).reverse row with
   |some r=>z=.inl (st,b4,(0:Int),r,())
   |none=>∃q,z=.inr (.ret,st,([]:List Int),(6:Int),q,())
 |0,row,_,_=>⟨_,rfl,rfl⟩
 |n+1,row,hn,hs=>by
  have h:n<l.length:=by omega
  obtain⟨z,a,g⟩:=d5T (st:=st) (k:=(n:Int)) (b4:=b4) (f _ (a05 h)) hs;have b:(l.take (n+1)).reverse=l[n]::(l.take n).reverse:=by simp
  simp[a8i,lG h,a,b,lO];cases hst:stO row [] (b3x l[n])with
  |some r=>
   rw[hst]at g;simp at g;subst g;exact c4P f n r (by omega) (by have:=b5Y _ _ _ hst;unfold short at hs|-;simp_all)
  |none=>
   grind
def b5b(rest:List Int)(st:List Stg):Option (List Int):=bif rest.all a0i then lO st.reverse rest else none
theorem d1L{rest:List Int}{st:List Stg}(a:b1w st=true)(c:rest.length<100000):b2X (rest,st)=some (a6c (b5b rest st)):=by
 have f:=a;simp only[b1w,bA9,dT]at f;have k:short st:=by unfold short;omega
 have h:short rest:=by unfold short;omega
 unfold b2X;simp only[c2u k,a,oB,bT,cF,c5P h,b5b];cases hw:rest.all a0i with
 |false=>rfl
 |true=>
  obtain⟨z,b,g⟩:=c4P (st:=st) (b4:=[]) (lA.1 f.2) st.length rest (a28 _) h;rw[a57]at g;simp[c5U h,a1f k,b];cases hst:lO st.reverse rest with
  |some r=>
   rw[hst]at g;simp at g;subst g;rfl
  |none=>
   rw[hst]at g;obtain⟨q,rfl⟩:=g;rfl
theorem c7P{l:List Stg}(a:∀s∈l,stageB s=true)(g:l.length<=3):∀(n:Nat)(row:List Int),n<=l.length->short row->
  a0d a6K (l,(n:Int)-1,row,())=some (match lO (l.take n).reverse row with
   |some r=>.inl (r,())
   |none=>.inr ((6:Int),([]:List Int),()))
 |0,row,_,_=>a0g (by rfl)
 |n+1,row,hn,hs=>by
  have f:n<l.length:=by omega
  have h:=a _ (a05 f);have k:=c0S (st:=l) (n:=(n:Int)) hs row.length 0 [] (b3x l[n]) (by omega) rfl (d6M h);simp at k;have c:(l.take (n+1)).reverse=l[n]::(l.take n).reverse:=by simp
  have b:((n+1:Nat):Int)-1=(n:Int):=by omega
  have e:decide ((n:Int)>=0)=true:=by simp
  have d:wrap .i64 ((n:Int)-1)=(n:Int)-1:=a0c (by omega);rw[c,b];simp[lO];cases hst:stO row [] (b3x l[n])with
  |some r=>
   rw[hst]at k;rw[a0k (s':=(l,(n:Int)-1,r,())) (by simp_all[a6K,a0e,b6W])];exact c7P a g n r (by omega) (by have:=b5Y _ _ _ hst;unfold short at hs|-;simp_all)
  |none=>
   simp_all[a0g,a6K,a0e,b6W]
theorem c5V{rest:List Int}{st:List Stg}(a:b1w st=true)(c:rest.length<100000):a9D (rest,st)=some (a6c (b5b rest st)):=by
 have h:=a;simp only[b1w,bA9,dT]at h;have f:short st:=by unfold short;omega
 have g:short rest:=by unfold short;omega
 unfold a9D;simp only[b7O f,a,oB,bT,cF,a2d g,b5b];cases hw:rest.all a0i with
 |false=>rfl
 |true=>
  have k:=c7P (lA.1 h.2) h.1 st.length rest (a28 _) g;rw[a57]at k;have b:wrap .i64 (((st.length:Nat):Int)-1)=((st.length:Nat):Int)-1:=a0c (by omega);simp only[bT,cF,cT,a1f (show 0+rest.length<1000000 by omega),b,a06,a09,k,oB];cases lO st.reverse rest<;>rfl
def a9o(n warm:Int):Bool:=decide (1<=n)&&(decide (n<=4096)&&(decide (0<=warm)&&decide (warm<=n)))
theorem c2C(n warm:Int):b1n (n,warm)=some (a9o n warm):=by
 grind[b1n,a9o]
theorem c7Q(n warm:Int):b6P (n,warm)=some (a9o n warm):=by
 grind[b6P,a9o]
theorem e3e(h:o<=8):1<=2^o/\2^o<=256:=by
 have:o=0\/o=1\/o=2\/o=3\/o=4\/o=5\/o=6\/o=7\/o=8:=by omega
 grind
theorem c0i(h:o<=64):a0v .i64 (N:Int) (o:Int)=((N / 2^o:Nat):Int):=by
 unfold a0v;show a91 (N:Int) (2^(min (o:Int).toNat 64))=_
 grind
theorem c0j(h:o<=64)(g:N*2^o<9223372036854775808):a0t .i64 (N:Int) (o:Int)=((N*2^o:Nat):Int):=by
 unfold a0t;show wrap .i64 ((N:Int)*2^(min (o:Int).toNat 64))=_
 grind[a0c]
def b5c(o N:Nat)(warm:Int):List Int:=
 if N%2^o=0/\warm<=((N / 2^o:Nat):Int)then(((N / 2^o:Nat):Int)-warm)::a00 (2^o-1) ((N / 2^o:Nat):Int)else[]
def a2N(order n warm:Int):List Int:=bif a9o n warm&&(decide (0<=order)&&decide (order<=8))then b5c order.toNat n.toNat warm else[]
theorem b9k(h n warm:Int):a8R (h,n,warm)=some (a2N h n warm):=by
 unfold a8R a2N;simp only[c2C,oB];cases hr:a9o n warm with
 |false=>rfl
 |true=>
  simp[a9o]at hr;simp only[bT,cF,a22]
  by_cases h1:h<0
  grind
  by_cases h2:h > 8
  grind
  obtain⟨o,rfl⟩:=a01 (show 0<=h by omega);obtain⟨N,rfl⟩:=a01 (show 0<=n by omega);have q:o<=8:=by omega
  have r:N<=4096:=by omega
  have hp:=e3e q;have p:N / 2^o*2^o<=N:=Nat.div_mul_le_self N _;have m:(0:Int)<=(o:Int):=by omega
  have g8:(o:Int)<=8:=by omega
  simp only[h1,h2,m,g8,decide_true,decide_false,cF,cT,a02,oB,c0i (N:=N) (show o<=64 by omega),c0j (N:=N / 2^o) (show o<=64 by omega) (by omega),tN];have k:=b05 N (2^o);rw[a51]at k
  by_cases hm:N%2^o=0
  have a:(((N / 2^o*2^o:Nat):Int) != (N:Int))=false:=by simp_all
  by_cases hw:warm<=((N / 2^o:Nat):Int)
  have d:decide (((N / 2^o:Nat):Int)<warm)=false:=decide_eq_false (Int.not_lt.2 hw);have j:wrap .i64 (((N / 2^o:Nat):Int)-warm)=((N / 2^o:Nat):Int)-warm:=a0c (by have:=a27 N (2^o);omega);simp only[a,d,j,cF,oB,b5c,hm,hw,and_self,if_true];have e:a0t .i64 (1:Int) (o:Int)=((2^o:Nat):Int):=by have:=c0j (N:=1) (show o<=64 by omega) (by omega);simp_all
  have:=a1E (f:=a8k) (fun i=>((o:Int),((N / 2^o:Nat):Int),(((N / 2^o:Nat):Int)-warm)::a00 i ((N / 2^o:Nat):Int),())) (2^o-1)
   (b:=((((N / 2^o:Nat):Int)-warm)::a00 (2^o-1) ((N / 2^o:Nat):Int),())) (fun i hi=>by
    have c:decide ((((((N / 2^o:Nat):Int)-warm)::a00 i ((N / 2^o:Nat):Int)).length:Int)<((2^o:Nat):Int))=true:=by
     grind
    have g:lim (((((N / 2^o:Nat):Int)-warm)::a00 i ((N / 2^o:Nat):Int)).length+1)=true:=a1f (by grind);have l:a00 i ((N / 2^o:Nat):Int)++[((N / 2^o:Nat):Int)]=a00 (i+1) ((N / 2^o:Nat):Int):=by grind[a41]
    simp only[a8k,h1,decide_false,cF,e,c,cT,g,a06,b00,l])
   (by
    have c:decide ((((((N / 2^o:Nat):Int)-warm)::a00 (2^o-1) ((N / 2^o:Nat):Int)).length:Int)<((2^o:Nat):Int))=false:=by
     simp_all
    simp only[a8k,h1,decide_false,cF,e,c])
  simp_all;have d:decide (((N / 2^o:Nat):Int)<warm)=true:=decide_eq_true (Int.not_le.1 hw);simp_all[b5c];have a:(((N / 2^o*2^o:Nat):Int) != (N:Int))=true:=by grind
  simp only[a,cT,oB,b5c,hm,false_and,if_false]
theorem a7y(h n warm:Int):a3Y (h,n,warm)=some (a2N h n warm):=by
 unfold a3Y a2N;simp only[c7Q,oB];cases hr:a9o n warm with
 |false=>rfl
 |true=>
  simp[a9o]at hr;simp only[bT,cF,a22]
  by_cases h1:h<0
  grind
  by_cases h2:h > 8
  grind
  obtain⟨o,rfl⟩:=a01 (show 0<=h by omega);obtain⟨N,rfl⟩:=a01 (show 0<=n by omega);have m:o<=8:=by omega
  have t:N<=4096:=by omega
  have hp:=e3e m;have l:(0:Int)<=(o:Int):=by omega
  have g8:(o:Int)<=8:=by omega
  have d:wrap .u64 (o:Int)=(o:Int):=a0p (by omega);have c:a0t .i64 (1:Int) (o:Int)=((2^o:Nat):Int):=by have:=c0j (N:=1) (show o<=64 by omega) (by omega);simp_all
  have r:(((2^o:Nat):Int)==0)=false:=by grind
  have p:a62 (N:Int) ((2^o:Nat):Int)=((N%2^o:Nat):Int):=by rfl
  simp only[h1,h2,l,g8,decide_true,decide_false,cF,cT,a02,d,c,r,p,c0i (N:=N) (show o<=64 by omega),tN]
  by_cases hm:N%2^o=0
  have k:(((0:Nat):Int) != 0)=false:=rfl
  by_cases hw:warm<=((N / 2^o:Nat):Int)
  have e:decide (((N / 2^o:Nat):Int)<warm)=false:=decide_eq_false (Int.not_lt.2 hw);have s:wrap .i64 (((N / 2^o:Nat):Int)-warm)=((N / 2^o:Nat):Int)-warm:=a0c (by have:=a27 N (2^o);omega);simp only[k,e,cF,oB,b5c,hm,hw,and_self,if_true]
  have:=a1E (f:=a6I) (fun i=>((o:Int),(N:Int),warm,(i:Int),a00 i ((N / 2^o:Nat):Int),())) (2^o)
   (b:=(warm,a00 (2^o) ((N / 2^o:Nat):Int),())) (fun i hi=>by
    have a:decide ((i:Int)<((2^o:Nat):Int))=true:=by grind
    have g:lim ((a00 i ((N / 2^o:Nat):Int)).length+1)=true:=a1f (by grind);have j:a00 i ((N / 2^o:Nat):Int)++[((N / 2^o:Nat):Int)]=a00 (i+1) ((N / 2^o:Nat):Int):=by grind[a41]
    simp only[a6I,d,h1,decide_false,cF,c,a,cT,g,c0i (N:=N) (show o<=64 by omega),a06,j,a0b (show i<1000000 by omega)])
   (by
    have a:decide (((2^o:Nat):Int)<((2^o:Nat):Int))=false:=by simp
    simp only[a6I,d,h1,decide_false,cF,c,a])
  simp only[nZ,List.replicate_zero]at this;have u:decide ((0:Int)<(((a00 (2^o) ((N / 2^o:Nat):Int)).length:Nat):Int))=true:=by grind
  obtain⟨q,hq⟩:∃q,2^o=q+1:=⟨2^o-1,by omega⟩
  grind
  have e:decide (((N / 2^o:Nat):Int)<warm)=true:=decide_eq_true (Int.not_le.1 hw);simp_all[b5c];have k:(((N%2^o:Nat):Int) != 0)=true:=by grind
  simp only[k,cT,oB,b5c,hm,false_and,if_false]
abbrev Prt:Type:=Int×((List Int)×Unit)
variable {p:Prt}
def kB(k:Int):Bool:=(decide (0<=k)&&decide (k<=25)) || (k==31)
def a7V(p:Prt)(n warm:Int):Bool:=!((a2N p.1 n warm).length==0)&&((a2N p.1 n warm).length==p.2.1.length&&p.2.1.all kB)
theorem c2D{n:Int}(g:short p.2.1):b4q (p,n,warm)=some (a7V p n warm):=by
 have:=a1r (f:=a5M) p.2.1 (fun i=>(p.2.1,(p.2.1.length:Int),(i:Int),())) kB (bt:=Sum.inl ()) (bf:=Sum.inr (false,()))
  (fun i h hp=>by
   simp[kB]at hp
   by_cases h1:p.2.1[i]<0
   omega
   by_cases h2:p.2.1[i] > 25
   have b:p.2.1[i]=31:=by omega
   have a:(p.2.1[i] != 31)=false:=by simp_all
   simp[a5M,a0e h,h,h1,h2,a,a0b (a07 h g)];simp[a5M,a0e h,h,h1,h2,a0b (a07 h g)])
  (fun i h hp=>by
   have hp:¬ (kB p.2.1[i]=true):=by simp_all
   simp only[kB,a74,bA9,dT,beq_iff_eq]at hp
   grind[a5M,a0e])
  (by simp[a5M])
 simp at this;unfold b4q a7V;simp[b9k]
 by_cases h0:(a2N p.1 n warm).length=0
 simp_all
 ·have e:((((a2N p.1 n warm).length:Nat):Int)==0)=false:=by simp_all
  have k:((a2N p.1 n warm).length==0)=false:=by simp_all
  simp[e,k]
  by_cases h1:(a2N p.1 n warm).length=p.2.1.length
  all_goals grind
theorem b3y{n:Int}(a:short p.2.1):a6s (p,n,warm)=some (a7V p n warm):=by
 have g:∀k:Int,a1J k=some (decide (0<=k)&&decide (k<=25)):=fun k=>by
  grind[a1J]
 have:=a1r (f:=a4C) p.2.1 (fun i=>((i:Int),p,())) kB (bt:=Sum.inl ()) (bf:=Sum.inr (false,()))
  (fun i h hp=>by
   simp only[kB,a74]at hp;cases hc:(decide (0<=p.2.1[i])&&decide (p.2.1[i]<=25))with
   |true=>simp[a4C,a0e h,h,g,hc,a0b (a07 h a)]
   |false=>
    have d:p.2.1[i]=31:=by simp_all
    have c:(p.2.1[i] != 31)=false:=by simp_all
    simp[a4C,a0e h,h,g,hc,c,a0b (a07 h a)])
  (fun i h hp=>by
   grind[kB,a4C,a0e])
  (by simp[a4C])
 simp at this;unfold a6s a7V;simp[a7y]
 by_cases h0:(a2N p.1 n warm).length=0
 simp_all
 ·have e:((((a2N p.1 n warm).length:Nat):Int)==0)=false:=by simp_all
  have b:((a2N p.1 n warm).length==0)=false:=by simp_all
  simp[e,b]
  by_cases h1:(a2N p.1 n warm).length=p.2.1.length
  all_goals grind
abbrev Sub:Type:=Int×(Int×(Int×(Int×(Int×((List Int)×((List Int)×((List Stg)×((List Int)×(Prt×((List Int)×Unit))))))))))
variable {s:Sub}
structure SmallS (s:Sub):Prop where
 coefs:s.2.2.2.2.2.1.length<=40
 taps:s.2.2.2.2.2.2.1.length=3
 stages:s.2.2.2.2.2.2.2.1.length<=6
 warm:s.2.2.2.2.2.2.2.2.1.length<=5000
 rest:s.2.2.2.2.2.2.2.2.2.2.1.length<=5000
 ks:s.2.2.2.2.2.2.2.2.2.1.2.1.length<=300
theorem b4f(x y:List Int):eqT (.arr 3 (.int .i64)) x y=decide (x=y):=by
 show((a23 (fun(a b:Int)=>a==b) x y).all id&&x.length==y.length)=_
 induction x generalizing y with
 |nil=>cases y<;>simp
 |cons a x ih=>
  cases y with
  |nil=>simp
  |cons b y=>
   grind[List.zipWith_cons_cons]
theorem c0k{l:List Int}(h:short l):a3x l=some l:=c5U h
theorem d5U{l:List Stg}(h:short l):a1P l=some l:=by
 have g:lim (0+l.length)=true:=a1f (by unfold short at h;omega);simp_all[a1P,b6w]
def b1g(k:Int)(s:Sub)(n:Int):Prop:=
 k=0\/k=1\/(k=2/\0<=s.2.2.1/\s.2.2.1<=4/\s.2.2.1<=n)\/(k=3/\b0l s.2.2.2.2.2.1 s.2.2.2.1=true/\(s.2.2.2.2.2.1.length:Int)<=n)\/
  (k=4/\b0l s.2.2.2.2.2.1 s.2.2.2.1=true/\(s.2.2.2.2.2.1.length:Int)<=n/\b4G s.2.2.2.2.1 s.2.2.2.2.2.2.1=true)\/
  (k=5/\0<s.2.2.2.2.2.2.2.1.length/\b1w s.2.2.2.2.2.2.2.1=true)
open Classical in
def c5W (k:Int) (s:Sub) (n:Int):Bool:=decide (b1g k s n)
theorem c7R{s:Sub}(h:SmallS s)(k n:Int):b4V (k,s,n)=some (c5W k s n):=by
 have a:short s.2.2.2.2.2.1:=by have:=h.coefs;unfold short;omega
 have b:short s.2.2.2.2.2.2.2.1:=by have:=h.stages;unfold short;omega
 unfold b4V c5W b1g
 by_cases k0:k=0
 simp_all
 by_cases k1:k=1
 simp_all;have g:(k==0)=false:=by grind
 have f:(k==1)=false:=by grind
 simp only[g,f,cF,oB]
 by_cases k2:k=2
 subst k2
 grind
 by_cases k3:k=3
 subst k3
 grind[b5s]
 by_cases k4:k=4
 subst k4;cases hl:b0l s.2.2.2.2.2.1 s.2.2.2.1<;>by_cases h2:(s.2.2.2.2.2.1.length:Int)<=n<;>simp[b5s a,c4M h.taps,hl,h2]
 by_cases k5:k=5
 ·subst k5
  by_cases h1:0<s.2.2.2.2.2.2.2.1.length
  all_goals simp_all[c2u]
 grind
def a1i(s:Sub)(n:Int):Int:=if s.1=0 then 1 else if s.1=1 then n else if s.1=2 then s.2.2.1 else if s.1=3\/s.1=4 then(s.2.2.2.2.2.1.length:Int)else 0
theorem d0t(s:Sub)(n:Int):b0g (s,n)=some (a1i s n):=by
 grind[b0g,a1i]
def b9l(s:Sub):Prop:=
 (s.1≠2->s.2.2.1=0)/\(s.1≠3/\s.1≠4->s.2.2.2.1=0)/\(s.1≠4->s.2.2.2.2.1=0)/\(s.1≠4->s.2.2.2.2.2.2.1=[0,0,0])/\(s.1≠3/\s.1≠4->s.2.2.2.2.2.1=[])/\(s.1≠5->s.2.2.2.2.2.2.2.1=[])
open Classical in
def b9m (s:Sub):Bool:=decide (b9l s)
theorem b2t{c x:Bool}:(bif c then some x else some false)=some (c&&x):=by grind
theorem e8r(l:List α):(((l.length:Nat):Int)==0)=decide (l=[]):=by
 cases l with
 |nil=>rfl
 |cons a l=>rfl
theorem c9B(x:Int):(x==0)=decide (x=0):=rfl
theorem d3S{s:Sub}(h:SmallS s):b4p s=some (b9m s):=by
 have e:short s.2.2.2.2.2.1:=by have:=h.coefs;unfold short;omega
 have g:short s.2.2.2.2.2.2.2.1:=by have:=h.stages;unfold short;omega
 obtain⟨k,w,o,sh,lag,c,t,st,j,p,r,u⟩:=s;simp only at e g;unfold b4p b6D b9m b9l;have i:(a00 3 (0:Int))=[0,0,0]:=rfl
 by_cases k2:k=2
 simp_all[b4f,b2t,c9B]
 by_cases k4:k=4
 simp_all[b4f,b2t,c9B,c0k]
 by_cases k3:k=3
 simp_all[b4f,b2t,c9B,c0k]
 by_cases k5:k=5
 simp_all[b4f,b2t,c9B,d5U];have f:(k==2)=false:=by grind
 have a:(k==3)=false:=by grind
 have b:(k==4)=false:=by grind
 have d:(k==5)=false:=by grind
 simp[f,a,b,d,k2,k3,k4,k5,b4f,i,b2t,e8r,c9B]
theorem d0u(k:Int):b0f k=some (decide (k≠0/\k≠1)):=by
 unfold b0f
 by_cases h0:k=0
 simp_all
 ·by_cases h1:k=1
  all_goals grind
def a2F(s:Sub)(n:Int):Prop:=
 1<=n/\n<=4096/\b1g s.1 s n/\b9l s/\0<=s.2.1/\s.2.1<=30/\(s.1=0->s.2.1=0)/\(s.2.2.2.2.2.2.2.2.1.length:Int)=a1i s n/\s.2.2.2.2.2.2.2.2.1.all a0i=true/\s.2.2.2.2.2.2.2.2.2.2.1.all a0i=true/\
  (s.1=0\/s.1=1->s.2.2.2.2.2.2.2.2.2.2.1=[]/\s.2.2.2.2.2.2.2.2.2.1.1=0/\s.2.2.2.2.2.2.2.2.2.1.2.1=[])/\
  (s.1≠0/\s.1≠1->(s.2.2.2.2.2.2.2.2.2.2.1.length:Int)=n-a1i s n/\a7V s.2.2.2.2.2.2.2.2.2.1 n (a1i s n)=true)
theorem b8B(h:SmallS s){n:Int}(a:1<=n)(b:n<=4096)(f:b1g s.1 s n):0<=a1i s n/\a1i s n<=4096:=by
 have c:=h.coefs;unfold a1i;rcases f with k|k|⟨k,g⟩|⟨k,g⟩|⟨k,g⟩|⟨k,g⟩<;>simp[k]<;>omega
open Classical in
theorem e1d {s:Sub} (h:SmallS s) (n:Int):b2U (s,n)=some (decide (a2F s n)):=by
 have hw:short s.2.2.2.2.2.2.2.2.1:=by have:=h.warm;unfold short;omega
 have hr:short s.2.2.2.2.2.2.2.2.2.2.1:=by have:=h.rest;unfold short;omega
 have hk:short s.2.2.2.2.2.2.2.2.2.1.2.1:=by have:=h.ks;unfold short;omega
 unfold b2U
 by_cases h1:1<=n
 rotate_left
 ·have e1:decide (n<1)=true:=by simp_all
  have:¬ a2F s n:=fun hp=>h1 hp.1
  simp_all
 have e1:decide (n<1)=false:=by simp_all
 by_cases h2:n<=4096
 rotate_left
 ·have e2:decide (n > 4096)=true:=by simp_all
  have:¬ a2F s n:=fun hp=>h2 hp.2.1
  simp_all
 have e2:decide (n > 4096)=false:=by simp_all
 by_cases h3:b1g s.1 s n
 rotate_left
 ·have e3:c5W s.1 s n=false:=by simp[c5W,h3]
  have:¬ a2F s n:=fun hp=>h3 hp.2.2.1
  simp_all[c7R]
 have e3:c5W s.1 s n=true:=by simp[c5W,h3]
 by_cases h4:b9l s
 rotate_left
 ·have e4:b9m s=false:=by simp[b9m,h4]
  have:¬ a2F s n:=fun hp=>h4 hp.2.2.2.1
  simp_all[c7R,d3S]
 have e4:b9m s=true:=by simp[b9m,h4]
 simp only[e1,e2,c7R h,e3,d3S h,e4,cF,bT,oB]
 by_cases h5:0<=s.2.1
 rotate_left
 ·have e5:decide (s.2.1<0)=true:=by simp_all
  have:¬ a2F s n:=fun hp=>h5 hp.2.2.2.2.1
  simp_all
 have e5:decide (s.2.1<0)=false:=by simp_all
 by_cases h6:s.2.1<=30
 rotate_left
 ·have e6:decide (s.2.1 > 30)=true:=by simp_all
  have:¬ a2F s n:=fun hp=>h6 hp.2.2.2.2.2.1
  simp_all
 have e6:decide (s.2.1 > 30)=false:=by simp_all
 simp only[e5,e6,cF]
 by_cases h7:s.1=0->s.2.1=0
 rotate_left
 ·have h7a:s.1=0:=Classical.byContradiction fun hc=>h7 fun e=>absurd e hc
  have h7b:(s.2.1 != 0)=true:=by
   simp_all
  have e7:(s.1==0)=true:=by simp_all
  have:¬ a2F s n:=fun hp=>h7 hp.2.2.2.2.2.2.1
  grind
 have e7:(bif s.1==0 then some (n,(s.2.1 != 0,(s,())))else some (n,(false,(s,()))))=some (n,(false,(s,()))):=by
  grind
 simp only[e7,oB,cF,d0t]
 by_cases h8:(s.2.2.2.2.2.2.2.2.1.length:Int)=a1i s n
 rotate_left
 ·have e8:(((s.2.2.2.2.2.2.2.2.1.length:Nat):Int) != a1i s n)=true:=by simp_all
  have:¬ a2F s n:=fun hp=>h8 hp.2.2.2.2.2.2.2.1
  grind
 have e8:(((s.2.2.2.2.2.2.2.2.1.length:Nat):Int) != a1i s n)=false:=by simp_all
 simp only[e8,cF,b4b hw,b4b hr,oB]
 cases h9:s.2.2.2.2.2.2.2.2.1.all a0i with
 |false=>
  have:¬ a2F s n:=fun hp=>by rw[hp.2.2.2.2.2.2.2.2.1]at h9;grind
  simp_all
 |true=>
  cases h10:s.2.2.2.2.2.2.2.2.2.2.1.all a0i with
  |false=>
   have:¬ a2F s n:=fun hp=>by rw[hp.2.2.2.2.2.2.2.2.2.1]at h10;grind
   simp_all
  |true=>
   simp only[bT,cF,oB,d0u]
   have hwr:=b8B h h1 h2 h3
   by_cases k01:s.1≠0/\s.1≠1
   ·have e11:wrap .i64 (n-a1i s n)=n-a1i s n:=a0c (by omega)
    simp[k01,e11,c2D hk]
    by_cases h11:(s.2.2.2.2.2.2.2.2.2.2.1.length:Int)=n-a1i s n
    ·have e12:(((s.2.2.2.2.2.2.2.2.2.2.1.length:Nat):Int)==n-a1i s n)=true:=by simp_all
     simp only[e12,cT]
     congr 1
     rw[b06,dT]
     constructor
     ·intro hp
      exact⟨h1,h2,h3,h4,h5,h6,h7,h8,h9,h10,fun hc=>absurd hc (by omega),fun _=>⟨h11,hp⟩⟩
     ·intro hp;exact(hp.2.2.2.2.2.2.2.2.2.2.2 k01).2
    ·have e12:(((s.2.2.2.2.2.2.2.2.2.2.1.length:Nat):Int)==n-a1i s n)=false:=by simp_all
     have:¬ a2F s n:=fun hp=>h11 (hp.2.2.2.2.2.2.2.2.2.2.2 k01).1
     grind
   ·have k01':s.1=0\/s.1=1:=by omega
    simp[k01,e8r]
    simp only[c9B,b2t]
    congr 1
    rw[b06,dT]
    simp
    constructor
    ·rintro⟨g1,g2,g3⟩
     exact⟨h1,h2,h3,h4,h5,h6,h7,h8,h9,h10,fun _=>⟨g1,g2,g3⟩,fun hc=>absurd hc k01⟩
    ·intro hp;exact hp.2.2.2.2.2.2.2.2.2.2.1 k01'
theorem c0l{α:Type}[DecidableEq α](q:α->α->Bool)(hq:∀a b,q a b=decide (a=b)):∀(x y:List α),x.length=y.length->((x.zip y).all fun p=>q p.1 p.2)=decide (x=y)
 | [],[],_=>by simp
 |a::x,b::y,h=>by
  have g:=c0l q hq x y (by simp_all);simp_all
theorem b4I{x y:List Int}(h:short x):a2p (x,y)=some (decide (x=y)):=by
 unfold a2p
 by_cases hl:x.length=y.length
 have e:(((x.length:Nat):Int) != ((y.length:Nat):Int))=false:=by simp_all
 have j:(x.zip y).length=x.length:=by simp_all
 have:=a1r (f:=a2T) (x.zip y) (fun i=>(x,y,(i:Int),())) (fun p=>p.1==p.2) (bt:=Sum.inl ()) (bf:=Sum.inr (false,()))
  (fun i hi hp=>by
   have k:i<x.length:=by omega
   have c:i<y.length:=by omega
   rw[a58]at hp;have hp:x[i]=y[i]:=by simp_all
   have g:(x[i] != y[i])=false:=by simp_all
   simp only[a2T,dlt k,cT,a0e k,a0e c,oB,g,cF,a0b (a07 k h)])
  (fun i hi hp=>by
   have k:i<x.length:=by omega
   have c:i<y.length:=by omega
   rw[a58]at hp;have g:(x[i] != y[i])=true:=by simp_all
   simp only[a2T,dlt k,cT,a0e k,a0e c,oB,g])
  (by simp_all[a2T])
 simp at this;simp only[e,cF,this,c0l (fun(a b:Int)=>a==b) (fun _ _=>rfl) x y hl]
 grind
 have e:(((x.length:Nat):Int) != ((y.length:Nat):Int))=true:=by grind
 have:¬ x=y:=fun d=>hl (by grind)
 grind
theorem d1M{x y:List Stg}(h:short x):a8v (x,y)=some (decide (x=y)):=by
 have k:∀a b:Stg,eqT (.pair (.int .i64) (.pair (.int .i64) .unit)) a b=decide (a=b):=by
  rintro⟨a1,a2,⟨⟩⟩ ⟨b1,b2,⟨⟩⟩
  show((a1==b1)&&((a2==b2)&&true))=_
  grind
 unfold a8v
 by_cases hl:x.length=y.length
 have e:(((x.length:Nat):Int) != ((y.length:Nat):Int))=false:=by simp_all
 have j:(x.zip y).length=x.length:=by simp_all
 have:=a1r (f:=a4v) (x.zip y) (fun i=>(x,y,(i:Int),())) (fun p=>decide (p.1=p.2)) (bt:=Sum.inl ()) (bf:=Sum.inr (false,()))
  (fun i hi hp=>by
   have g:i<x.length:=by omega
   have c:i<y.length:=by omega
   rw[a58]at hp;simp only[a4v,dlt g,cT,a0e g,a0e c,oB,k,hp,bT,cF,a0b (a07 g h)])
  (fun i hi hp=>by
   have g:i<x.length:=by omega
   have c:i<y.length:=by omega
   rw[a58]at hp;simp only[a4v,dlt g,cT,a0e g,a0e c,oB,k,hp,a15])
  (by simp_all[a4v])
 simp at this;simp only[e,cF,this,c0l (fun(a b:Stg)=>decide (a=b)) (fun _ _=>rfl) x y hl]
 grind
 have e:(((x.length:Nat):Int) != ((y.length:Nat):Int))=true:=by grind
 have:¬ x=y:=fun d=>hl (by grind)
 grind
open Classical in
theorem c7S {a b:Sub} (h:SmallS a):a8Z (a,b)=some (decide (a=b)):=by
 have hc:short a.2.2.2.2.2.1:=by have:=h.coefs;unfold short;omega
 have hst:short a.2.2.2.2.2.2.2.1:=by have:=h.stages;unfold short;omega
 have hw:short a.2.2.2.2.2.2.2.2.1:=by have:=h.warm;unfold short;omega
 have hr:short a.2.2.2.2.2.2.2.2.2.2.1:=by have:=h.rest;unfold short;omega
 have hk:short a.2.2.2.2.2.2.2.2.2.1.2.1:=by have:=h.ks;unfold short;omega
 unfold a8Z b3Z
 simp only[b4I hc,b4I hw,b4I hr,b4I hk,d1M hst,b4f,oB,b2t]
 congr 1
 grind
def b6X(s:Sub):Sub:=
 let z:List Int:=a00 3 0
 if s.1=0 then(0,0,0,0,0,[],z,[],s.2.2.2.2.2.2.2.2.1,(0,[],()),[],())
 else if s.1=1 then(1,s.2.1,0,0,0,[],z,[],s.2.2.2.2.2.2.2.2.1,(0,[],()),[],())
 else if s.1=2 then(2,s.2.1,s.2.2.1,0,0,[],z,[],s.2.2.2.2.2.2.2.2.1,s.2.2.2.2.2.2.2.2.2.1,s.2.2.2.2.2.2.2.2.2.2.1,())
 else if s.1=3 then(3,s.2.1,0,s.2.2.2.1,0,s.2.2.2.2.2.1,z,[],s.2.2.2.2.2.2.2.2.1,s.2.2.2.2.2.2.2.2.2.1,s.2.2.2.2.2.2.2.2.2.2.1,())
 else if s.1=4 then(4,s.2.1,0,s.2.2.2.1,s.2.2.2.2.1,s.2.2.2.2.2.1,s.2.2.2.2.2.2.1,[],s.2.2.2.2.2.2.2.2.1,s.2.2.2.2.2.2.2.2.2.1,s.2.2.2.2.2.2.2.2.2.2.1,())
 else if s.1=5 then(5,s.2.1,0,0,0,[],z,s.2.2.2.2.2.2.2.1,[],s.2.2.2.2.2.2.2.2.2.1,s.2.2.2.2.2.2.2.2.2.2.1,())
 else(s.1,s.2.1,0,0,0,[],z,[],s.2.2.2.2.2.2.2.2.1,s.2.2.2.2.2.2.2.2.2.1,s.2.2.2.2.2.2.2.2.2.2.1,())
theorem e3f(s:Sub):b4B s=some (b6X s):=by
 obtain⟨k,w,o,sh,lag,c,t,st,h,p,r,u⟩:=s;unfold b4B b6X
 grind
open Classical in
def b6Y (s:Sub) (n:Int):Int:=if b1g s.1 s n then a1i s n else -1
theorem d3T(h:SmallS s)(n:Int):a9h (s,n)=some (b6Y s n):=by
 have f:short s.2.2.2.2.2.1:=by have:=h.coefs;unfold short;omega
 have g:short s.2.2.2.2.2.2.2.1:=by have:=h.stages;unfold short;omega
 have a:=h.taps;obtain⟨k,w,o,sh,lag,c,t,st,b,p,r,u⟩:=s;simp only at f g a;unfold a9h b6Y a1i b1g
 by_cases k0:k=0
 simp_all
 by_cases k1:k=1
 simp_all
 by_cases k2:k=2
 grind
 by_cases k3:k=3
 grind[a8y]
 by_cases k4:k=4
 grind[a8y,b9g]
 grind[b7O]
theorem a6V(k:Int):a5k k=some (decide (2<=k/\k<=5)):=by
 grind[a5k]
def d9t(s:Sub)(n:Int):Prop:=
 1<=n/\n<=4096/\0<=s.1/\s.1<=5/\s=b6X s/\0<=s.2.1/\s.2.1<=30/\b1g s.1 s n/\(s.2.2.2.2.2.2.2.2.1.length:Int)=a1i s n/\s.2.2.2.2.2.2.2.2.1.all a0i=true/\s.2.2.2.2.2.2.2.2.2.2.1.all a0i=true/\
  (2<=s.1/\s.1<=5->(s.2.2.2.2.2.2.2.2.2.2.1.length:Int)=n-a1i s n/\a7V s.2.2.2.2.2.2.2.2.2.1 n (a1i s n)=true)
theorem c2E{k:Int}{s:Sub}{n:Int}(h:b1g k s n):k=0\/k=1\/k=2\/k=3\/k=4\/k=5:=by
 unfold b1g at h;omega
theorem d5V(s:Sub)(n:Int):a2F s n↔d9t s n:=by
 have f:b1g s.1 s n->((b9l s/\(s.1=0->s.2.1=0)/\(s.2.2.2.2.2.2.2.2.1.length:Int)=a1i s n/\(s.1=0\/s.1=1->s.2.2.2.2.2.2.2.2.2.2.1=[]/\s.2.2.2.2.2.2.2.2.2.1.1=0/\s.2.2.2.2.2.2.2.2.2.1.2.1=[]))↔
   (s=b6X s/\(s.2.2.2.2.2.2.2.2.1.length:Int)=a1i s n)):=by
  intro h;have g:(a00 3 (0:Int))=[0,0,0]:=rfl;obtain⟨k,w,o,sh,lag,c,t,st,wm,⟨po,ks,⟨⟩⟩,r,⟨⟩⟩:=s;rcases c2E h with k0|k0|k0|k0|k0|k0<;>simp only at k0<;>subst k0<;>simp[b9l,b6X,a1i,g]<;>(try constructor)<;>(try intros)<;>(try simp_all)<;>(try exact and_left_comm)<;>(grind)
 unfold a2F d9t
 grind[c2E]
def c9C(warm rest:List Int)(o:Int):Option (List Int):=bif warm.all a0i&&rest.all a0i then a6k (a7f o.toNat) rest warm else none
def backP(s:Sub):Option (List Int):=
 if s.1=1 then some s.2.2.2.2.2.2.2.2.1
 else if s.1=2 then c9C s.2.2.2.2.2.2.2.2.1 s.2.2.2.2.2.2.2.2.2.2.1 s.2.2.1
 else if s.1=3 then b6T s.2.2.2.2.2.2.2.2.1 s.2.2.2.2.2.2.2.2.2.2.1 s.2.2.2.2.2.1 s.2.2.2.1
 else if s.1=4 then(b6T s.2.2.2.2.2.2.2.2.1 s.2.2.2.2.2.2.2.2.2.2.1 s.2.2.2.2.2.1 s.2.2.2.1).bind fun l=>c0h l s.2.2.2.2.1 s.2.2.2.2.2.2.1
 else b5b s.2.2.2.2.2.2.2.2.2.2.1 s.2.2.2.2.2.2.2.1
def c9D(s:Sub)(n:Int):Option (List Int):=
 if s.1=0 then some (a00 n.toNat (s.2.2.2.2.2.2.2.2.1.getD 0 0))else(backP s).bind (upO s.2.1)
theorem a9j{w r c:List Int}{s:Int}{l}(h:b6T w r c s=some l):l.length=w.length+r.length:=by
 unfold b6T at h;cases hc:(w.all a0i&&r.all a0i)with
 |false=>simp_all
 |true=>
  rw[hc]at h;exact(b5V _ r w l (a88.1 hc).1 h).2
theorem c4Q{w r:List Int}{o:Int}{l}(h:c9C w r o=some l):l.length=w.length+r.length:=by
 unfold c9C at h;cases hc:(w.all a0i&&r.all a0i)with
 |false=>simp_all
 |true=>
  rw[hc]at h;exact(b5V _ r w l (a88.1 hc).1 h).2
theorem c2F{r:List Int}{l}(h:c0h r lag t=some l):l.length=r.length:=by
 unfold c0h at h;cases hc:r.all a0i with
 |false=>simp_all
 |true=>
  rw[hc]at h
  have:=(b5V _ r [] l rfl h).2
  simp_all
theorem d0v:∀(st:List Stg)(r:List Int){l},lO st r=some l->l.length=r.length
 | [],r,l,h=>by simp_all[lO]
 |s::st,r,l,h=>by
  simp only[lO]at h
  split at h
  rename_i f g;rw[d0v st f h,b5Y _ _ _ g];simp;cases h
theorem c0T{r:List Int}{st:List Stg}{l}(h:b5b r st=some l):l.length=r.length:=by
 grind[b5b,d0v]
theorem c2G(h:SmallS s){l}(g:backP s=some l):l.length<100000:=by
 have b:=h.warm;have a:=h.rest;unfold backP at g
 split at g
 grind
 split at g
 grind[c4Q]
 split at g
 grind[a9j]
 split at g
 obtain⟨l1,f,k⟩:=a29.1 g;rw[c2F k,a9j f];omega
 grind[c0T]
theorem e1e{n:Int}(a:1<=n)(c:n<=4096)(d:s.2.2.2.2.2.2.2.2.1.length=1):
  a0d a8V (n,(0:Int),([]:List Int),s,())=some (a00 n.toNat (s.2.2.2.2.2.2.2.2.1.getD 0 0),()):=by
 obtain⟨N,rfl⟩:=a01 (show 0<=n by omega);have k:a0m s.2.2.2.2.2.2.2.2.1 (0:Int)=some (s.2.2.2.2.2.2.2.2.1.getD 0 0):=c0g (by omega) (by omega)
 have:=a1E (f:=a8V) (fun i=>((N:Int),(i:Int),a00 i (s.2.2.2.2.2.2.2.2.1.getD 0 0),s,())) N
  (b:=(a00 N (s.2.2.2.2.2.2.2.2.1.getD 0 0),())) (fun i hi=>by
   have h:lim ((a00 i (s.2.2.2.2.2.2.2.2.1.getD 0 0)).length+1)=true:=a1f (by grind);have g:a00 i (s.2.2.2.2.2.2.2.2.1.getD 0 0)++[s.2.2.2.2.2.2.2.2.1.getD 0 0]=a00 (i+1) (s.2.2.2.2.2.2.2.2.1.getD 0 0):=by grind[a41]
   simp only[a8V,dlt hi,cT,k,oB,h,a06,g,a0b (show i<1000000 by omega)])
  (by simp[a8V])
 simp_all
theorem d1N{n:Int}(l:1<=n)(m:n<=4096)(p:s.2.2.2.2.2.2.2.2.1.length=1):
  a0d a6L (n,(0:Int),a00 n.toNat (0:Int),s,())=some (a00 n.toNat (s.2.2.2.2.2.2.2.2.1.getD 0 0),()):=by
 obtain⟨N,rfl⟩:=a01 (show 0<=n by omega);have j:a0m s.2.2.2.2.2.2.2.2.1 (0:Int)=some (s.2.2.2.2.2.2.2.2.1.getD 0 0):=c0g (by omega) (by omega);obtain⟨z,q⟩:∃z,a00 N (s.2.2.2.2.2.2.2.2.1.getD 0 0)=z:=⟨_,rfl⟩;have k:z.length=(a00 N (0:Int)).length:=by grind
 have d:(a00 N (0:Int)).length=N:=by simp
 have:=a1E (f:=a6L) (fun i=>((N:Int),(i:Int),z.take i++(a00 N (0:Int)).drop i,s,())) N
  (b:=(z,())) (fun i hi=>by
   have h:i<(a00 N (0:Int)).length:=by omega
   have o:(z.take i++(a00 N (0:Int)).drop i).length=N:=by grind
   have e:decide ((i:Int)<(((z.take i++(a00 N (0:Int)).drop i).length:Nat):Int))=true:=by simp_all
   have c:decide ((0:Int)<=(i:Int))=true:=by simp
   have a:=d3O h k;have g:z[i]'(by omega)=s.2.2.2.2.2.2.2.2.1.getD 0 0:=by grind
   rw[g]at a;simp only[a6L,dlt hi,cT,j,oB,c,e,a02,tN,a,a0b (show i<1000000 by omega)])
  (by
   simp_all[a36,a6L])
 simp_all
theorem d5W(h:SmallS s){n:Int}(hp:a2F s n)(x:s.1≠0):b5P s=some (a6c (backP s)):=by
 obtain⟨y,z,m,-,-,-,-,a,C,A,-⟩:=hp;have q:=h.rest;have v:=h.warm;have B:=h.taps;obtain⟨k,w,o,sh,lag,c,t,st,d,p,r,u⟩:=s;simp only at *;unfold b5P backP;rcases m with g|g|⟨g,f,b,e⟩|⟨g,f,b⟩|⟨g,f,b,e⟩|⟨g,f,b⟩;omega;subst g;rfl;subst g;obtain⟨O,rfl⟩:=a01 f
 grind[a1i,c5R,c9C]
 grind[a1i,b5B]
 ·subst g;simp only[a1i]at a;have j:d.length=c.length:=by grind
  have i:=b5B (rest:=r) f j (by omega);simp only[show((4:Int)==2)=false from rfl,show((4:Int)==3)=false from rfl,show((4:Int)==4)=true from rfl,cT,cF,i,oB];cases hl:b6T d r c sh with
  |none=>rfl
  |some l=>
   grind[a9j,c7M,a6c]
 grind[c5V]
theorem d5X(h:SmallS s){n:Int}(hp:a2F s n):b5M (s,n)=some (a6c (c9D s n)):=by
 have a:=fun l (d:backP s=some l)=>c2G h d;obtain⟨z,A,C,-,x,v,-,g,K,I,-⟩:=hp;have F:=h.rest;have G:=h.warm;have H:=h.taps;have D:=e1e (s:=s) z A;obtain⟨k,w,o,sh,lag,c,t,st,f,p,r,u⟩:=s;simp only at *;have L:∀l,l.length<100000->b1p (l,w)=some (a6c (upO w l)):=fun l d=>d3L x v d;unfold b5M c9D;rcases C with b|b|⟨b,j,m,y⟩|⟨b,j,m⟩|⟨b,j,m,y⟩|⟨b,j,m⟩
 grind[a1i,a6c]
 simp_all[backP]
 ·subst b;obtain⟨O,rfl⟩:=a01 j;have m:(O:Int)<=4:=m;simp only[a1i]at g;have q:f.length=O:=by grind
  have i:=d1H (warm:=f) (rest:=r) (o:=O) (by omega) q (by omega);simp only[backP]at a|-;simp[i];have e:(bif f.all a0i&&r.all a0i then a6k (a7f O) r f else none)=c9C f r (O:Int):=rfl;rw[e];cases d:c9C f r (O:Int)with
  |none=>rfl
  |some l=>simp_all[a6c]
 ·subst b;simp only[a1i]at g;have q:f.length=c.length:=by grind
  have i:=b9h (rest:=r) j q (by omega);simp only[backP]at a|-;simp[i];cases d:b6T f r c sh with
  |none=>rfl
  |some l=>simp_all[a6c]
 ·subst b;simp only[a1i]at g;have q:f.length=c.length:=by grind
  have i:=b9h (rest:=r) j q (by omega);simp only[backP]at a|-;simp[i];cases d:b6T f r c sh with
  |none=>rfl
  |some l=>
   have E:=a9j d;have B:=d3K (rest:=l) y H (by omega);simp[a6c,B]
   grind[a6c]
 ·subst b;have i:=d1L (rest:=r) m (by omega);simp only[backP]at a|-;simp[i];cases d:b5b r st with
  |none=>rfl
  |some l=>simp_all[a6c]
open Classical in
def a2J (s:Sub) (n:Int):Option (List Int):=if a2F s n then c9D s n else none
theorem c7T(h:SmallS s)(n:Int):b4W (s,n)=some (match a2J s n with|some r=>(r,0)|none=>([],1)):=by
 unfold b4W a2J;simp only[e1d h,oB]
 by_cases hp:a2F s n
 simp[hp,d5X h hp]
 grind[a6c]
 simp_all
theorem c7U(h:SmallS s)(n:Int):b2C (s,n)=some (a2J s n).isSome:=by
 unfold b2C;simp only[c7T h,oB];cases a2J s n<;>rfl
open Classical in
theorem c0U {s:Sub} (h:SmallS s) (n:Int):b0j (s,n)=some (match a2J s n with|some r=>(r,true)|none=>([],false)):=by
 have hw:short s.2.2.2.2.2.2.2.2.1:=by have:=h.warm;unfold short;omega
 have hr:short s.2.2.2.2.2.2.2.2.2.2.1:=by have:=h.rest;unfold short;omega
 have hk:short s.2.2.2.2.2.2.2.2.2.1.2.1:=by have:=h.ks;unfold short;omega
 have hiff:=d5V s n
 unfold b0j
 have no:¬ d9t s n->a2J s n=none:=fun hc=>by
  simp_all[a2J]
 by_cases h1:1<=n
 rotate_left
 ·have e1:decide (n<1)=true:=by simp_all
  rw[no fun hp=>h1 hp.1]
  simp_all
 have e1:decide (n<1)=false:=by simp_all
 by_cases h2:n<=4096
 rotate_left
 ·have e2:decide (n > 4096)=true:=by simp_all
  rw[no fun hp=>h2 hp.2.1]
  simp_all
 have e2:decide (n > 4096)=false:=by simp_all
 by_cases h3:0<=s.1
 rotate_left
 ·have e3:decide (s.1<0)=true:=by simp_all
  rw[no fun hp=>h3 hp.2.2.1]
  simp_all
 have e3:decide (s.1<0)=false:=by simp_all
 by_cases h4:s.1<=5
 rotate_left
 ·have e4:decide (s.1 > 5)=true:=by simp_all
  rw[no fun hp=>h4 hp.2.2.2.1]
  simp_all
 have e4:decide (s.1 > 5)=false:=by simp_all
 simp only[e1,e2,e3,e4,cF,e3f,c7S h,oB]
 by_cases h5:s=b6X s
 rotate_left
 ·rw[no fun hp=>h5 hp.2.2.2.2.1]
  simp_all
 have e5:decide (s=b6X s)=true:=decide_eq_true h5
 simp only[e5,bT,cF]
 by_cases h6:0<=s.2.1
 rotate_left
 ·have e6:decide (s.2.1<0)=true:=by grind
  rw[no fun hp=>h6 hp.2.2.2.2.2.1]
  grind
 have e6:decide (s.2.1<0)=false:=by grind
 by_cases h7:s.2.1<=30
 rotate_left
 ·have e7:decide (s.2.1 > 30)=true:=by grind
  rw[no fun hp=>h7 hp.2.2.2.2.2.2.1]
  grind
 have e7:decide (s.2.1 > 30)=false:=by grind
 simp only[e6,e7,cF,oB,d3T h]
 by_cases h8:b1g s.1 s n
 rotate_left
 ·have e8:decide (b6Y s n<0)=true:=by simp[b6Y,h8]
  rw[no fun hp=>h8 hp.2.2.2.2.2.2.2.1]
  grind
 have hwr:=b8B h h1 h2 h8
 have e8':b6Y s n=a1i s n:=by simp[b6Y,h8]
 have e8:decide (a1i s n<0)=false:=by grind
 simp only[e8',e8,cF]
 by_cases h9:(s.2.2.2.2.2.2.2.2.1.length:Int)=a1i s n
 rotate_left
 ·have e9:(((s.2.2.2.2.2.2.2.2.1.length:Nat):Int) != a1i s n)=true:=by grind
  rw[no fun hp=>h9 hp.2.2.2.2.2.2.2.2.1]
  grind
 have e9:(((s.2.2.2.2.2.2.2.2.1.length:Nat):Int) != a1i s n)=false:=by grind
 simp only[e9,cF,a2d hw,a2d hr,oB]
 cases h10:s.2.2.2.2.2.2.2.2.1.all a0i with
 |false=>
  rw[no fun hp=>by rw[hp.2.2.2.2.2.2.2.2.2.1]at h10;grind]
  rfl
 |true=>
  cases h11:s.2.2.2.2.2.2.2.2.2.2.1.all a0i with
  |false=>
   rw[no fun hp=>by rw[hp.2.2.2.2.2.2.2.2.2.2.1]at h11;grind]
   rfl
  |true=>
   simp only[bT,cF,oB,a6V]
   have e11:wrap .i64 (n-a1i s n)=n-a1i s n:=a0c (by omega)
   by_cases h12:2<=s.1/\s.1<=5->(s.2.2.2.2.2.2.2.2.2.2.1.length:Int)=n-a1i s n/\a7V s.2.2.2.2.2.2.2.2.2.1 n (a1i s n)=true
   rotate_left
   ·have hg:2<=s.1/\s.1<=5:=Classical.byContradiction fun hc=>h12 fun e=>absurd e hc
    have hn:¬ ((s.2.2.2.2.2.2.2.2.2.2.1.length:Int)=n-a1i s n/\a7V s.2.2.2.2.2.2.2.2.2.1 n (a1i s n)=true):=fun hc=>h12 fun _=>hc
    rw[no fun hp=>h12 hp.2.2.2.2.2.2.2.2.2.2.2]
    simp only[hg,and_self,decide_true,cT,e11,c2D hk,b3y hk,oB]
    grind
   have hrp:d9t s n:=⟨h1,h2,h3,h4,h5,h6,h7,h8,h9,h10,h11,h12⟩
   have hsp:=hiff.2 hrp
   have e12:(bif decide (2<=s.1/\s.1<=5)then bif (((s.2.2.2.2.2.2.2.2.2.2.1.length:Nat):Int) != wrap .i64 (n-a1i s n))then some (n,(true,(s,())))else(a6s (s.2.2.2.2.2.2.2.2.2.1,(n,a1i s n))).bind fun y9=>some (n,(!y9,(s,())))
     else some (n,(false,(s,()))))=some (n,(false,(s,()))):=by
    by_cases hg:2<=s.1/\s.1<=5
    ·obtain⟨g1,g2⟩:=h12 hg
     have e13:(((s.2.2.2.2.2.2.2.2.2.2.1.length:Nat):Int) != n-a1i s n)=false:=by grind
     simp only[hg,and_self,decide_true,cT,e11,e13,cF,b3y hk,g2,oB,bT]
    grind
   simp only[e12,oB,cF]
   have hsub:a2J s n=c9D s n:=by unfold a2J;grind
   rw[hsub]
   unfold c9D
   by_cases k0:s.1=0
   ·have ek:(s.1==0)=true:=by grind
    have hl1:s.2.2.2.2.2.2.2.2.1.length=1:=by
     have:=h9;unfold a1i at this;omega
    have g1:decide ((0:Int)<=n)=true:=by grind
    have g2:decide (n<=n)=true:=by simp
    have g3:lim n.toNat=true:=a1f (by omega)
    simp only[ek,cT,g1,g2,g3,a02,d1N h1 h2 hl1,oB,k0,if_true]
    rfl
   ·have ek:(s.1==0)=false:=by grind
    simp[ek,d5W h hsp k0,k0]
    cases hb:backP s with
    |none=>rfl
    |some l=>
     have hll:=c2G h hb
     simp only[a6c,e1b h6 h7 hll,oB]
     cases upO s.2.1 l<;>simp[a6c]
theorem d1O(h:SmallS s)(n:Int):b3o (s,n)=some (a2J s n).isSome:=by
 grind[b3o,c0U]
abbrev Wr:Type:=(List Int)×(Int×Unit)
def c5X(w:Wr)(b:Int):Wr:=
 let bs:=if w.2.1%8=0 then w.1++[0]else w.1
 (bs.set (w.2.1 / 8).toNat (bits .u8 .or (bs.getD (w.2.1 / 8).toNat 0) (a0t .u8 b (7-w.2.1%8))),w.2.1+1,())
def wL(L:List Int):Wr:=L.foldl c5X ([],0,())
theorem c3C(L:List Int)(b:Int):wL (L++[b])=c5X (wL L) b:=by simp[wL]
theorem c7V:∀(n:Nat)(L:List Int),L.length=n->(wL L).2.1=L.length/\(wL L).1.length=(L.length+7) / 8
 |0,L,h=>by
  rw[a35.1 h];exact⟨rfl,rfl⟩
 |n+1,L,h=>by
  obtain⟨g,b,rfl⟩:∃g b,L=g++[b]:=by
   rcases a59 L with rfl|⟨g,b,e⟩
   all_goals simp_all
  obtain⟨f,k⟩:=c7V n g (by simp_all);rw[c3C];simp only[c5X,b07,lN,a38,f]
  grind
theorem a7g(L:List Int):(wL L).2.1=L.length/\(wL L).1.length=(L.length+7) / 8:=c7V _ L rfl
def a4c(v:Int)(i:Nat):Int:=wrap .u8 (bits .u64 .and (a0v .u64 v (i:Int)) 1)
def pb(v:Int):Nat->List Int
 |0=>[]
 |i+1=>a4c v i::pb v i
theorem a3a(v:Int):∀n,(pb v n).length=n
 |0=>rfl
 |n+1=>by simp[pb,a3a v n]
def a0E(v:Int)(n:Nat)(L:List Int):List Int:=bif a0v .u64 v (n:Int) != 0 then L else L++pb v n
theorem a1a(v:Int)(n:Nat)(L:List Int):L.length<=(a0E v n L).length/\(a0E v n L).length<=L.length+n:=by
 grind[a0E,a3a]
def b0n(v:Int)(n:Nat):Int:=bif a0v .u64 v (n:Int) != 0 then 1 else 0
theorem c2H{v:Int}:∀(n:Nat)(L:List Int),n<=64->L.length+n<1000000000->a0d a6N (v,(n:Int)-1,(L,()),())=some ((L++pb v n,()),())
 |0,L,_,_=>by simp_all[a0g,a6N,pb]
 |n+1,L,h64,h=>by
  have e:((n+1:Nat):Int)-1=(n:Int):=by omega
  have g:wrap .i64 ((n:Int)-1)=(n:Int)-1:=a0c (by omega);have f:wrap .u64 (n:Int)=(n:Int):=a0p (by omega);have k:decide ((n:Int)>=0)=true:=by simp
  have a:decide ((n:Int)<0)=false:=by simp
  have b:lim (L.length+1)=true:=a0H (by omega);rw[e,a0k (s':=(v,(n:Int)-1,(L++[a4c v n],()),())) (by
   simp only[a6N,k,a,f,b,cT,cF,show wrap .u8 (bits .u64 .and (a0v .u64 v (n:Int)) 1)=a4c v n from rfl,a06,g])]
  rw[c2H n (L++[a4c v n]) (by omega) (by simp;omega),pb]
  simp
theorem a2j{v:Int}(c:n<=63)(b:L.length<999999000):a0s ((L,()),v,(n:Int))=some (b0n v n,a0E v n L,()):=by
 unfold a0s b0n a0E;have f:decide ((n:Int)<0)=false:=by simp
 have k:decide ((n:Int) > 64)=false:=by grind
 have a:decide ((n:Int)<64)=true:=by grind
 have h:wrap .i64 ((n:Int)-1)=(n:Int)-1:=a0c (by omega);have g:wrap .u64 (n:Int)=(n:Int):=a0p (by omega);simp[f,k,a,g];cases (a0v .u64 v (n:Int) != 0)with
 |true=>rfl
 |false=>simp only[cF,h,c2H n L (by omega) (by omega),oB]
def unL(n:Nat)(L:List Int):List Int:=L++a00 n 0++[1]
theorem c2I(d:n<=4096)(c:L.length<999990000):a4j ((L,()),(n:Int))=some (0,unL n L,()):=by
 unfold a4j unL;have k:decide ((n:Int)<0)=false:=by simp
 have a:decide ((n:Int) > 4096)=false:=by grind
 simp only[k,a,cF,oB]
 have:=a1E (f:=a5z) (fun i=>((n:Int),(i:Int),(L++a00 i 0,()),())) n (b:=((L++a00 n 0,()),())) (fun i hi=>by
   have g:L++a00 i (0:Int)++[0]=L++a00 (i+1) 0:=by simp_all[a41]
   have h:lim ((L++a00 i (0:Int)).length+1)=true:=a0H (by grind);simp only[a5z,dlt hi,cT,h,a06,g,a0b (show i<1000000 by omega)])
  (by simp[a5z])
 have h:lim ((L++a00 n (0:Int)).length+1)=true:=a0H (by grind);simp_all
theorem c0m(n:Nat)(L:List Int):(unL n L).length=L.length+n+1:=by simp[unL];rfl
def a5d(x:Int)(n:Nat):Int:=bits .u64 .and (wrap .u64 x) (wrap .u64 ((a0t .u64 1 (n:Int))-1))
def a5e(n:Nat)(l:List Int)(L:List Int):List Int:=l.foldl (fun L x=>a0E (a5d x n) n L) L
theorem a7W(n:Nat):∀(l L:List Int),L.length<=(a5e n l L).length/\(a5e n l L).length<=L.length+n*l.length
 | [],L=>by simp[a5e]
 |x::l,L=>by
  have h:=a1a (a5d x n) n L;have g:=a7W n l (a0E (a5d x n) n L);have e:a5e n (x::l) L=a5e n l (a0E (a5d x n) n L):=rfl;rw[e,lC,Nat.mul_add,Nat.mul_one];omega
theorem a8A(c:n<=63)(e:l.length<10000)(d:L.length<900000000):a3E ((L,()),l,(n:Int))=some (a5e n l L,()):=by
 have a:wrap .u64 (n:Int)=(n:Int):=a0p (by omega);have b:decide ((n:Int)<0)=false:=by simp
 have f:∀(k i:Nat)(h:List Int),i+k=l.length->h.length+64*k<999990000->a0d a7s (l,(n:Int),(i:Int),(h,()),())=some ((a5e n (l.drop i) h,()),()):=by
  intro k
  induction k with
  |zero=>
   intro i h hi _;obtain rfl:i=l.length:=by omega
   simp_all[a0g,a7s,a5e]
  |succ k ih=>
   intro i h hi hb;have g:i<l.length:=by omega
   have hp:=a1a (a5d l[i] n) n h;rw[a03 g,a0k (s':=(l,(n:Int),((i+1:Nat):Int),(a0E (a5d l[i] n) n h,()),())) (by
    simp only[a7s,dlt g,cT,a0e g,oB,a,b,cF,show bits .u64 .and (wrap .u64 l[i]) (wrap .u64 ((a0t .u64 1 (n:Int))-1))=a5d l[i] n from rfl,a2j c (show h.length<999999000 by omega),a0b (show i<1000000 by omega)])]
   exact ih (i+1) _ (by omega) (by omega)
 have:=f l.length 0 L (by omega) (by omega)
 simp_all[a3E]
def a2B(x w:Int):Bool:=decide (1<=w)&&(decide (w<=31)&&(decide (a0t .i64 (-1) (w-1)<=x)&&decide (x<=wrap .i64 (a0t .i64 1 (w-1)-1))))
theorem b4g(a:w<=32):a5h (x,(w:Int))=some (a2B x w):=by
 unfold a5h a2B b6C b5k
 by_cases h1:1<=(w:Int)
 by_cases h2:(w:Int)<=31
 have h:decide ((w:Int)<1)=false:=by simp_all
 have g:decide ((w:Int) > 31)=false:=by simp_all
 have e:wrap .i64 ((w:Int)-1)=(w:Int)-1:=a0c (by omega);have f:decide ((w:Int)-1<0)=false:=by simp_all
 have k:decide ((w:Int)>=1)=true:=by simp_all
 simp[h1,h2,h,g,f,e]
 grind
 grind
 grind
theorem b8C(b:w<=32):b0k (x,(w:Int))=some (a2B x w):=by
 unfold b0k a2B c5L c2s
 by_cases h1:1<=(w:Int)
 by_cases h2:(w:Int)<=31
 have f:decide ((w:Int)<1)=false:=by simp_all
 have k:decide ((w:Int) > 31)=false:=by simp_all
 have e:wrap .i64 ((w:Int)-1)=(w:Int)-1:=a0c (by omega);have g:wrap .u64 ((w:Int)-1)=(w:Int)-1:=a0p (by omega);have a:decide ((w:Int)-1<0)=false:=by simp_all
 have h:decide ((w:Int)>=1)=true:=by simp_all
 simp only[h,h1,h2,f,k,a,e,g,decide_true,cT,cF,oB,a22]
 grind
 grind
 grind
def a5f(x:Int):Nat->Nat->Nat
 |0,w=>w
 |k+1,w=>bif (x != 0)&&!a2B x w then a5f x k (w+1)else w
theorem c0n(x:Int):∀(k w:Nat),a5f x k w<=w+k
 |0,w=>a28 _
 |k+1,w=>by
  simp[a5f];cases (x != 0)&&!a2B x w with
  |true=>have:=c0n x k (w+1);grind
  |false=>simp
def a0r(l:List Int):Nat:=l.foldl (fun w x=>a5f x (32-w) w) 0
theorem c0V:∀(l:List Int)(w:Nat),w<=32->l.foldl (fun w x=>a5f x (32-w) w) w<=32
 | [],w,h=>h
 |x::l,w,h=>c0V l _ (show a5f x (32-w) w<=32 by grind[c0n])
theorem b0o(l:List Int):a0r l<=32:=c0V l 0 (by omega)
theorem d0w{x:Int}{l:List Int}{n i:Int}:∀(k w:Nat),w+k=32->a0d a4h ((w:Int),x,l,n,i,())=some (((a5f x k w:Nat):Int),l,n,i,())
 |0,w,h=>by
  obtain rfl:w=32:=by omega
  simp_all[a0g,a4h,a5f]
 |k+1,w,h=>by
  have g:decide ((w:Int)<32)=true:=by grind
  simp[a5f];cases hx:(x != 0)with
  |false=>simp_all[a0g,a4h]
  |true=>
   cases hf:a2B x w with
   |true=>exact a0g (by simp only[a4h,hx,g,b4g (show w<=32 by omega),hf,oB,cT,cF,bT,a52])
   |false=>
    rw[a0k (s':=(((w+1:Nat):Int),x,l,n,i,())) (by simp only[a4h,hx,g,b4g (show w<=32 by omega),hf,oB,cT,a15,a0b (show w<1000000 by omega)])];exact d0w k (w+1) (by omega)
theorem a6W{l:List Int}(c:short l):a3B l=some ((a0r l:Nat):Int):=by
 have c:l.length<1000000:=c
 have:=a1S (f:=a7k) l (fun i (w:Nat)=>((w:Int),l,(l.length:Int),(i:Int),())) (fun w x=>(.inl (a5f x (32-w) w):Nat ⊕ (Int×Unit))) (fun _ w=>w<=32) (fun w=>((w:Int),()))
  (fun i h w e=>⟨fun d k=>by
   simp at k;subst k;refine⟨?_,by grind[c0n]⟩;simp only[a7k,dlt h,cT,a0e h,oB,d0w (32-w) w (by omega),a0b (show i<1000000 by omega)],fun b hb=>(by grind)⟩)
  (fun w _=>by simp[a7k]) (a:=0) (by omega)
 simp at this;unfold a3B;rw[this];have g:∀(l:List Int)(w:Nat),a6j (fun w x=>(.inl (a5f x (32-w) w):Nat ⊕ (Int×Unit))) l w=.inl (l.foldl (fun w x=>a5f x (32-w) w) w):=by
  intro l
  induction l with
  |nil=>intro w;rfl
  |cons x l ih=>simp_all[a6j]
 rw[g];rfl
theorem c0W{l:List Int}{i:Nat}(hi:i<l.length):∀(k w:Nat),w+k=32->a0d a9b (l,(w:Int),(i:Int),())=some (l,((a5f l[i] k w:Nat):Int),(i:Int),())
 |0,w,h=>by
  obtain rfl:w=32:=by omega
  rfl
 |k+1,w,h=>by
  have g:decide ((w:Int)<32)=true:=by grind
  simp[a5f];cases hx:(l[i] != 0)with
  |false=>simp_all[a0g,a9b,a0e]
  |true=>
   cases hf:a2B l[i] w with
   |true=>exact a0g (by simp only[a9b,a0e hi,hx,g,b8C (show w<=32 by omega),hf,oB,cT,cF,bT,a52])
   |false=>
    rw[a0k (s':=(l,((w+1:Nat):Int),(i:Int),())) (by simp only[a9b,a0e hi,hx,g,b8C (show w<=32 by omega),hf,oB,cT,a15,a0b (show w<1000000 by omega)])];exact c0W hi k (w+1) (by omega)
theorem a7X{l:List Int}(c:short l):a6M l=some ((a0r l:Nat):Int):=by
 have c:l.length<1000000:=c
 have:=a1S (f:=b1Q) l (fun i (w:Nat)=>(l,(w:Int),(i:Int),())) (fun w x=>(.inl (a5f x (32-w) w):Nat ⊕ (Int×Unit))) (fun _ w=>w<=32) (fun w=>((w:Int),()))
  (fun i h w e=>⟨fun d k=>by
   simp at k;subst k;refine⟨?_,by grind[c0n]⟩;simp only[b1Q,dlt h,cT,oB,c0W h (32-w) w (by omega),a0b (show i<1000000 by omega)],fun b hb=>(by grind)⟩)
  (fun w _=>by simp[b1Q]) (a:=0) (by omega)
 simp at this;unfold a6M;rw[this];have g:∀(l:List Int)(w:Nat),a6j (fun w x=>(.inl (a5f x (32-w) w):Nat ⊕ (Int×Unit))) l w=.inl (l.foldl (fun w x=>a5f x (32-w) w) w):=by
  intro l
  induction l with
  |nil=>intro w;rfl
  |cons x l ih=>simp_all[a6j]
 rw[g];rfl
def a1b(x:Int):Nat:=if 0<=x then(2*x).toNat else(-2*x-1).toNat
theorem c0o(h:a0i x=true):a1b x<2147483648:=by
 grind[a3G,a1b]
theorem e1f{n:Int}(h:-18446744073709551616<=n/\n<0):wrap .u64 n=n+18446744073709551616:=by
 grind[wrap,IntKind.bits,IntKind.signed]
theorem d6N{y:Nat}(h:y<18446744073709551616):bits .u64 .xor (IntKind.max .u64) (y:Int)=((18446744073709551615-y:Nat):Int):=by
 show wrap .u64 (((a04 64 (IntKind.max .u64)) ^^^ (a04 64 (y:Int))).toNat:Int)=_;have g:a04 64 (IntKind.max .u64)=b09 64:=by rfl
 have f:a04 64 (y:Int)=b17 64 y:=a26 64 y;rw[g,f,a93,b01,a32,a30 h];rw[a0p (by omega)]
theorem b8D(h:a0i x=true):b4Z x=some ((a1b x:Nat):Int):=by
 have k:=a3G.1 h;unfold b4Z b4a a1b;simp only[a3d,h,oB,bT,cF];have f:∀y:Int,a0t .u64 y 1=wrap .u64 (y*2):=fun y=>rfl
 by_cases h0:0<=x
 have g:decide (x<0)=false:=by simp_all
 simp only[g,cF,oB,if_pos h0,f]
 grind[a0p]
 have g:decide (x<0)=true:=by simp_all
 simp only[g,cT,oB,if_neg h0,f]
 grind[wrap,IntKind.bits,IntKind.signed,d6N]
theorem a5G{N o:Nat}(h:o<=64):a0v .u64 (N:Int) (o:Int)=((N / 2^o:Nat):Int):=c0i h
theorem b5d(h:o<=64)(g:N*2^o<9223372036854775808):a0t .u64 (N:Int) (o:Int)=((N*2^o:Nat):Int):=by
 unfold a0t;show wrap .u64 ((N:Int)*2^(min (o:Int).toNat 64))=_
 grind[a0p]
theorem b6Z{y k:Nat}(c:y<18446744073709551616)(f:k<=62):bits .u64 .and (y:Int) (wrap .u64 (a0t .u64 1 (k:Int)-1))=((y%2^k:Nat):Int):=by
 have hp:2^k<=2^62:=a08 (by simp) f;have a:1<=2^k:=Nat.one_le_two_pow;have b:(2:Nat)^62=4611686018427387904:=by rfl
 have h:a0t .u64 1 (k:Int)=((2^k:Nat):Int):=by have:=b5d (N:=1) (o:=k) (by omega) (by omega);simp_all
 have g:wrap .u64 (((2^k:Nat):Int)-1)=((2^k-1:Nat):Int):=by grind[a0p]
 rw[h,g];show wrap .u64 (((a04 64 (y:Int)) &&& (a04 64 ((2^k-1:Nat):Int))).toNat:Int)=_;rw[a26,a26,BitVec.toNat_and,a32,a32,a30 c,a30 (by omega),Nat.and_two_pow_sub_one_eq_mod]
 have:y%2^k<2^k:=a48 _ (by omega)
 exact a0p (by omega)
theorem c0p{q:Nat}(h:q<2147483648):wrap .i64 (q:Int)=(q:Int):=a0c (by omega)
def b1Z(k:Nat)(x:Int)(L:List Int):List Int:=
 if a1b x / 2^k<32 then a0E ((a1b x%2^k:Nat):Int) k (unL (a1b x / 2^k) L)else a0E ((a1b x:Nat):Int) 32 (unL 32 L)
def a9d(k:Nat)(l:List Int)(L:List Int):List Int:=l.foldl (fun L x=>b1Z k x L) L
theorem c2J(h:k<=25)(x:Int)(L:List Int):L.length<=(b1Z k x L).length/\(b1Z k x L).length<=L.length+100:=by
 grind[b1Z,a1a,c0m]
theorem c0X{k:Nat}(h:k<=25):∀(l L:List Int),L.length<=(a9d k l L).length/\(a9d k l L).length<=L.length+100*l.length
 | [],L=>by simp[a9d]
 |x::l,L=>by
  have g:=c2J h x L;have f:=c0X h l (b1Z k x L);have e:a9d k (x::l) L=a9d k l (b1Z k x L):=rfl
  grind
theorem b7a(h:k<=25):a1J (k:Int)=some true:=by
 unfold a1J
 grind
theorem c9E(r:k<=25)(B:l.length<10000)(t:l.all a0i=true)(A:L.length<900000000):b3q ((L,()),(k:Int),l)=some (0,a9d k l L,()):=by
 have o:wrap .u64 (k:Int)=(k:Int):=a0p (by omega);have e:∀(j i:Nat)(h:List Int),i+j=l.length->h.length+100*j<999990000->a0d a6P ((k:Int),l,(i:Int),(h,()),())=some ((a9d k (l.drop i) h,()),()):=by
  intro j
  induction j with
  |zero=>
   intro i h hi _;obtain rfl:i=l.length:=by omega
   simp_all[a0g,a6P,a9d]
  |succ j ih=>
   intro i h hi hb;have g:i<l.length:=by omega
   have a:=lA.1 t _ (a05 g);have z:=c0o a;have w:=c2J r l[i] h;have b:decide ((k:Int)<0)=false:=by simp
   have m:a0v .u64 ((a1b l[i]:Nat):Int) (k:Int)=((a1b l[i] / 2^k:Nat):Int):=a5G (by omega);have d:=a27 (a1b l[i]) (2^k);have u:=b6Z (y:=a1b l[i]) (k:=k) (by omega) (by omega);have p:wrap .i64 ((a1b l[i] / 2^k:Nat):Int)=((a1b l[i] / 2^k:Nat):Int):=c0p (a49 d z);rw[a03 g,a0k (s':=((k:Int),l,((i+1:Nat):Int),(b1Z k l[i] h,()),())) (by
    by_cases hq:a1b l[i] / 2^k<32
    have c:decide (((a1b l[i] / 2^k:Nat):Int)<32)=true:=decide_eq_true (by omega);have s:(unL (a1b l[i] / 2^k) h).length<999999000:=by
     rw[c0m];omega
    have f:=c2I (L:=h) (n:=a1b l[i] / 2^k) (Nat.le_of_lt (a07 hq (by simp))) (by omega);have hp:=a2j (L:=unL (a1b l[i] / 2^k) h) (v:=((a1b l[i]%2^k:Nat):Int)) (n:=k) (by omega) s;simp only[a6P,dlt g,cT,a0e g,oB,b8D a,o,b,cF,m,c,p,f,u,hp,b1Z,if_pos hq,a0b (show i<1000000 by omega)];have c:decide (((a1b l[i] / 2^k:Nat):Int)<32)=false:=decide_eq_false (by omega);have s:=c0m 32 h;have f:a4j ((h,()),(32:Int))=some (0,unL 32 h,()):=c2I (L:=h) (n:=32) (by omega) (by omega);have hp:a0s ((unL 32 h,()),((a1b l[i]:Nat):Int),(32:Int))=some (b0n ((a1b l[i]:Nat):Int) 32,a0E ((a1b l[i]:Nat):Int) 32 (unL 32 h),()):=a2j (L:=unL 32 h) (v:=((a1b l[i]:Nat):Int)) (n:=32) (by omega) (by omega);simp only[a6P,dlt g,cT,a0e g,oB,b8D a,o,b,cF,m,c,p,f,hp,b1Z,if_neg hq,a0b (show i<1000000 by omega)])]
   exact ih (i+1) _ (by omega) (by omega)
 have q:=e l.length 0 L (by omega) (by omega);simp at q;have x:short l:=by unfold short;omega
 unfold b3q;simp only[b7a r,oB,bT,cF,a2d x,t,q]
def a2o(zn:List Nat):List Int:=zn.map fun(a:Nat)=>(a:Int)
theorem d1P(n M:Nat):(a00 n M).sum=n*M:=by
 simp
theorem c4R{o n:Int}(h:(a2N o n warm).length≠0):∃zn:List Nat,a2N o n warm=a2o zn/\(zn.sum:Int)=n-warm/\zn.length<=256:=by
 unfold a2N at h|-;cases hr:(a9o n warm&&(decide (0<=o)&&decide (o<=8)))with
 |false=>simp_all
 |true=>
  rw[hr]at h;simp only[cT]at h|-;simp[a9o]at hr;unfold b5c at h|-
  split at h
  rename_i g;rw[if_pos g];obtain⟨O,rfl⟩:=a01 hr.2.1;obtain⟨N,rfl⟩:=a01 (show 0<=n by omega);obtain⟨w,rfl⟩:=a01 (show 0<=warm by omega);simp only[tN]at g|-;have hp:=e3e (o:=O) (by omega);have f:=b05 N (2^O);rw[g.1,Nat.add_zero]at f;have k:w<=N / 2^O:=by omega
  generalize N / 2^O=M at g k f|-;generalize 2^O=P at hp f|-;refine⟨(M-w)::a00 (P-1) M,?_,?_,?_⟩
  grind[a2o,List.map_replicate]
  rw[List.sum_cons,d1P];obtain⟨q,rfl⟩:∃q,P=q+1:=⟨P-1,by omega⟩
  grind
  simp_all;simp_all
def b4J(k:Int)(part L:List Int):List Int:=
 if k=31 then a5e (a0r part) part (a0E ((a0r part:Nat):Int) 5 (a0E (wrap .u64 k) 5 L))else a9d k.toNat part (a0E (wrap .u64 k) 5 L)
def a7Y:List Nat->List Int->List Int->List Int->List Int
 |z::zs,k::ks,l,L=>a7Y zs ks (l.drop z) (b4J k (l.take z) L)
 |_,_,_,L=>L
theorem c2K{k:Int}(g:kB k=true)(h L:List Int):L.length<=(b4J k h L).length/\(b4J k h L).length<=L.length+10+100*h.length:=by
 unfold b4J;have b:=a1a (wrap .u64 k) 5 L;split;have c:=a1a ((a0r h:Nat):Int) 5 (a0E (wrap .u64 k) 5 L);have d:=a7W (a0r h) h (a0E ((a0r h:Nat):Int) 5 (a0E (wrap .u64 k) 5 L));have a:=b0o h
 have:a0r h*h.length<=32*h.length:=a60 _ a
 omega;rename_i f;simp[kB]at g
 grind[c0X]
theorem c2L(h:i<zn.length):a37 (a2o zn) i 0=((zn[i]:Nat):Int):=by
 simp_all[a2o]
theorem a4V(h:List Nat):(a2o h).length=h.length:=by simp[a2o]
theorem d3U(h:i<zn.length):(zn.drop i).sum=zn[i]+(zn.drop (i+1)).sum:=by
 grind[a03]
theorem b5e{zn:List Nat}{p:Prt}{l:List Int}(N:p.2.1.length=zn.length)(b:p.2.1.all kB=true)(T:zn.length<=256)(E:l.all a0i=true)(s:l.length<=5000):∀(j i off:Nat)(L:List Int),i+j=zn.length->off+(zn.drop i).sum=l.length->L.length+10*j+100*(l.length-off)<800000000->
  a0d a4D (l,(off:Int),(i:Int),a2o zn,(L,()),p,())=some ((a7Y (zn.drop i) (p.2.1.drop i) (l.drop off) L,()),())
 |0,i,off,L,hi,_,_=>by
  obtain rfl:i=zn.length:=by omega
  simp_all[a0g,a4D,a7Y,a4V]
 |j+1,i,off,L,hi,hsum,hb=>by
  have a:i<zn.length:=by omega
  have f:i<p.2.1.length:=by omega
  have q:=lA.1 b _ (a05 f);rw[d3U a]at hsum;have y:decide ((0:Int)<=(i:Int))=true:=by simp
  have z:decide ((i:Int)<(((a2o zn).length:Nat):Int))=true:=by simp_all[a4V]
  have w:wrap .i64 ((off:Int)+((zn[i]:Nat):Int))=((off+zn[i]:Nat):Int):=by grind[a0c]
  have A:decide ((0:Int)<=((off+zn[i]:Nat):Int))=true:=by rfl
  have B:decide (((off+zn[i]:Nat):Int)<=((l.length:Nat):Int))=true:=by grind
  have C:decide ((0:Int)<=(off:Int))=true:=by simp
  have D:decide ((off:Int)<=((off+zn[i]:Nat):Int))=true:=by grind
  have h:a82 off (a69 (off+zn[i]) l)=(l.drop off).take zn[i]:=by grind
  have d:(l.drop off).drop zn[i]=l.drop (off+zn[i]):=by simp
  have t:((l.drop off).take zn[i]).length=zn[i]:=by rw[a31,a34];omega
  have v:((l.drop off).take zn[i]).all a0i=true:=lA.2 fun x S=>lA.1 E x (a33 (a42 S));have Q:=c2K q ((l.drop off).take zn[i]) L;have O:=a1a (wrap .u64 p.2.1[i]) 5 L;have c:a0s ((L,()),wrap .u64 p.2.1[i],(5:Int))=some (b0n (wrap .u64 p.2.1[i]) 5,a0E (wrap .u64 p.2.1[i]) 5 L,()):=a2j (n:=5) (by omega) (by omega);have G:zn.drop i=zn[i]::zn.drop (i+1):=a03 a;have H:p.2.1.drop i=p.2.1[i]::p.2.1.drop (i+1):=a03 f;rw[G,H,a7Y,d];have o:a4D (l,(off:Int),(i:Int),a2o zn,(L,()),p,())=some (.inl (l,((off+zn[i]:Nat):Int),((i+1:Nat):Int),a2o zn,(b4J p.2.1[i] ((l.drop off).take zn[i]) L,()),p,())):=by
   by_cases h31:p.2.1[i]=31
   have e:(p.2.1[i]==31)=true:=by simp_all
   have R:=b0o ((l.drop off).take zn[i]);have u:=a7X (l:=(l.drop off).take zn[i]) (by unfold short;omega);have P:=a1a ((a0r ((l.drop off).take zn[i]):Nat):Int) 5 (a0E (wrap .u64 p.2.1[i]) 5 L);have I:wrap .u64 ((a0r ((l.drop off).take zn[i]):Nat):Int)=((a0r ((l.drop off).take zn[i]):Nat):Int):=a0p (by omega);have m:a0s ((a0E (wrap .u64 p.2.1[i]) 5 L,()),((a0r ((l.drop off).take zn[i]):Nat):Int),(5:Int))=some (b0n ((a0r ((l.drop off).take zn[i]):Nat):Int) 5,a0E ((a0r ((l.drop off).take zn[i]):Nat):Int) 5 (a0E (wrap .u64 p.2.1[i]) 5 L),()):=a2j (n:=5) (by omega) (by omega);have r:=a8A (l:=(l.drop off).take zn[i]) (L:=a0E ((a0r ((l.drop off).take zn[i]):Nat):Int) 5 (a0E (wrap .u64 p.2.1[i]) 5 L)) (n:=a0r ((l.drop off).take zn[i])) (by omega) (by omega) (by omega);simp only[a4D,y,z,c2L a,w,A,B,C,D,cT,a02,tN,a0e f,oB,c,e,h,u,I,m,r,a0b (show i<1000000 by omega),b4J,if_pos h31];have e:(p.2.1[i]==31)=false:=by simp_all
   simp[kB]at q;obtain⟨K,M⟩:=a01 (show 0<=p.2.1[i]by omega);have g:=c9E (k:=K) (l:=(l.drop off).take zn[i]) (L:=a0E (wrap .u64 p.2.1[i]) 5 L) (by omega) (by omega) v (by omega);rw[<-M]at g;have F:K=p.2.1[i].toNat:=by omega
   simp only[a4D,y,z,c2L a,w,A,B,C,D,cT,cF,a02,tN,a0e f,oB,c,e,h,g,a0b (show i<1000000 by omega),b4J,if_neg h31,F]
  rw[a0k o];exact b5e N b T E s j (i+1) (off+zn[i]) _ (by omega) (by omega) (by omega)
theorem c4a(e:k<=25)(g:a0i x=true):∃c,b1R ((k:Int),x)=some c/\0<=c/\c<=65:=by
 have i:=c0o g;have f:a0v .u64 ((a1b x:Nat):Int) (k:Int)=((a1b x / 2^k:Nat):Int):=a5G (by omega);have b:wrap .i64 ((a1b x / 2^k:Nat):Int)=((a1b x / 2^k:Nat):Int):=c0p (a49 (a27 _ _) i);have a:wrap .u64 (k:Int)=(k:Int):=a0p (by omega);have h:decide ((k:Int)<0)=false:=by simp
 unfold b1R;simp only[b7a e,a3d,g,oB,bT,cF,b8D g,a,h,f,b];generalize a1b x / 2^k=q
 by_cases hq:q<32
 have d:decide ((q:Int)<32)=true:=decide_eq_true (by omega);refine⟨(q:Int)+1+k,?_,by omega,by omega⟩;simp only[d,cT]
 grind[a0c]
 grind
theorem c5Y(o:k<=25)(p:l.all a0i=true)(s:l.length<10000):∃c,b3p ((k:Int),l)=some c/\0<=c/\c<=65*l.length:=by
 have g:∀(j i:Nat)(c:Int),i+j=l.length->0<=c->c<=65*i->∃c',a0d a9E ((k:Int),l,c,(i:Int),())=some (c',())/\0<=c'/\c'<=65*l.length:=by
  intro j
  induction j with
  |zero=>
   intro i c hi a f;obtain rfl:i=l.length:=by omega
   simp_all[a0g,a9E]
  |succ j ih=>
   intro i c hi a f;have h:i<l.length:=by omega
   obtain⟨d,b,m,n⟩:=c4a o (lA.1 p _ (a05 h));have e:wrap .i64 (c+d)=c+d:=a0c (by omega);rw[a0k (s':=((k:Int),l,c+d,((i+1:Nat):Int),())) (by simp only[a9E,dlt h,cT,a0e h,oB,b,e,a0b (show i<1000000 by omega)])];exact ih (i+1) _ (by omega) (by omega) (by omega)
 obtain⟨c,f,q,r⟩:=g l.length 0 0 (by omega) (by omega) (by omega);simp_all[b3p]
theorem e1g(g:w<=32)(f:n<10000):0<=(w:Int)*(n:Int)/\(w:Int)*(n:Int)<=32*n:=by
 have h:w*n<=32*n:=a60 _ g;omega
theorem b3K{zn:List Nat}{p:Prt}{l:List Int}(H:p.2.1.length=zn.length)(h:p.2.1.all kB=true)(N:zn.length<=256)(t:l.all a0i=true)(o:l.length<=5000):∀(j i off:Nat)(c:Int),i+j=zn.length->off+(zn.drop i).sum=l.length->4<=c->c+10*j+65*(l.length-off:Nat)<1000000->
  ∃c',a0d a7t (l,c,(off:Int),(i:Int),a2o zn,p,())=some (c',())/\4<=c'
 |0,i,off,c,hi,_,hc,_=>by
  obtain rfl:i=zn.length:=by omega
  simp_all[a0g,a7t,a4V]
 |j+1,i,off,c,hi,hsum,hc,hb=>by
  have b:i<zn.length:=by omega
  have a:i<p.2.1.length:=by omega
  have m:=lA.1 h _ (a05 a);rw[d3U b]at hsum;have y:decide ((0:Int)<=(i:Int))=true:=by simp
  have z:decide ((i:Int)<(((a2o zn).length:Nat):Int))=true:=by simp_all[a4V]
  have w:wrap .i64 ((off:Int)+((zn[i]:Nat):Int))=((off+zn[i]:Nat):Int):=by grind[a0c]
  have A:decide ((0:Int)<=((off+zn[i]:Nat):Int))=true:=by rfl
  have B:decide (((off+zn[i]:Nat):Int)<=((l.length:Nat):Int))=true:=by grind
  have C:decide ((0:Int)<=(off:Int))=true:=by simp
  have D:decide ((off:Int)<=((off+zn[i]:Nat):Int))=true:=by grind
  have g:a82 off (a69 (off+zn[i]) l)=(l.drop off).take zn[i]:=by grind
  have q:((l.drop off).take zn[i]).length=zn[i]:=by rw[a31,a34];omega
  have s:((l.drop off).take zn[i]).all a0i=true:=lA.2 fun x M=>lA.1 t x (a33 (a42 M));have f:∃d,b1S (p.2.1[i],(l.drop off).take zn[i])=some d/\0<=d/\d<=5+65*zn[i]:=by
   unfold b1S
   by_cases h31:p.2.1[i]=31
   have e:(p.2.1[i]==31)=true:=by simp_all
   have P:=e1g (b0o ((l.drop off).take zn[i])) (show((l.drop off).take zn[i]).length<10000 by omega);refine⟨5+((a0r ((l.drop off).take zn[i]):Nat):Int)*((((l.drop off).take zn[i]).length:Nat):Int),?_,by omega,by omega⟩;simp only[e,cT,a7X (show short ((l.drop off).take zn[i])by unfold short;omega),oB];rw[Int.mul_comm (((((l.drop off).take zn[i]).length:Nat):Int)),a0c (n:=((a0r ((l.drop off).take zn[i]):Nat):Int)*((((l.drop off).take zn[i]).length:Nat):Int)) (by omega),a0c (by omega)];have e:(p.2.1[i]==31)=false:=by simp_all
   simp[kB]at m;obtain⟨K,O⟩:=a01 (show 0<=p.2.1[i]by omega);obtain⟨r,Q,I,L⟩:=c5Y (k:=K) (by omega) s (by omega)
   grind
  obtain⟨d,E,F,G⟩:=f;have u:wrap .i64 (c+5)=c+5:=a0c (by omega);have v:wrap .i64 (c+5+d)=c+5+d:=a0c (by omega);rw[a0k (s':=(l,c+5+d,((off+zn[i]:Nat):Int),((i+1:Nat):Int),a2o zn,p,())) (by
   simp only[a7t,y,z,c2L b,w,A,B,C,D,cT,a02,tN,a0e a,oB,g,E,u,v,a0b (show i<1000000 by omega)])]
  exact b3K H h N t o j (i+1) (off+zn[i]) _ (by omega) (by omega) (by omega) (by omega)
structure PartsOk (p:Prt) (n warm:Int) (l:List Int) (zn:List Nat):Prop where
 may:a7V p n warm=true
 sizes:a2N p.1 n warm=a2o zn
 sum:zn.sum=l.length
 len:zn.length<=256
 ks:p.2.1.length=zn.length
 all:p.2.1.all kB=true
 wide:l.all a0i=true
 short:l.length<=5000
 row:a9o n warm=true
 rest:(l.length:Int)=n-warm
 order:0<=p.1/\p.1<=8
theorem PartsOk.of{p:Prt}{n warm:Int}{l:List Int}(h:a7V p n warm=true)(i:(l.length:Int)=n-warm)(j:l.all a0i=true)(e:l.length<=5000):∃g,PartsOk p n warm l g:=by
 have f:=h;simp only[a7V,bA9,a98,beq_eq_false_iff_ne,ne_eq,beq_iff_eq]at f;obtain⟨c,o,d⟩:=f;obtain⟨g,a,m,b⟩:=c4R c;have k:a9o n warm=true/\0<=p.1/\p.1<=8:=by
  grind[a2N]
 exact⟨g,h,a,by omega,b,by simp_all[a4V],d,j,e,k.1,i,k.2⟩
theorem c2M{n:Int}(h:PartsOk p n warm l zn):∃c,b0O (p,n,warm,l)=some c/\4<=c:=by
 have a:Go.Ab.short p.2.1:=by have:=h.ks;have:=h.len;unfold Go.Ab.short;omega
 have d:Go.Ab.short l:=by have:=h.short;unfold Go.Ab.short;omega
 have i:=h.short;have j:=h.len;have b:=h.row;simp[a9o]at b;have e:wrap .i64 (n-warm)=n-warm:=a0c (by omega);have k:(((l.length:Nat):Int) != n-warm)=false:=by rw[h.rest];simp
 obtain⟨c,g,f⟩:=b3K h.ks h.all h.len h.wide h.short zn.length 0 0 4 (by omega) (by rw[a85,h.sum];omega) (by omega) (by omega);simp at g;refine⟨c,?_,f⟩;unfold b0O;simp only[b3y a,h.may,oB,bT,cF,e,k,a2d d,h.wide,a7y,h.sizes,g]
def a8f(p:Prt)(zn:List Nat)(l L:List Int):List Int:=a7Y zn p.2.1 l (a0E (wrap .u64 p.1) 4 L)
theorem c7W{n:Int}(h:PartsOk p n warm l zn)(i:L.length<700000000):b1T ((L,()),p,n,warm,l)=some (0,a8f p zn l L,()):=by
 have e:=h.short;have j:=h.len;obtain⟨c,a,b⟩:=c2M h;have k:(c==0)=false:=by grind
 have d:=a1a (wrap .u64 p.1) 4 L;have f:a0s ((L,()),wrap .u64 p.1,(4:Int))=some (b0n (wrap .u64 p.1) 4,a0E (wrap .u64 p.1) 4 L,()):=a2j (n:=4) (by omega) (by omega);have g:=b5e h.ks h.all h.len h.wide h.short zn.length 0 0 (a0E (wrap .u64 p.1) 4 L) (by omega) (by rw[a85,h.sum];omega) (by omega);simp at g;unfold b1T;simp only[a,oB,k,cF,f,a7y,h.sizes,g,a8f]
def b3z(s:Stg)(L:List Int):List Int:=a0E (wrap .u64 s.2.1) 4 (a0E (wrap .u64 (wrap .i64 (s.1-1))) 5 L)
def a7Z(st:List Stg)(L:List Int):List Int:=st.foldl (fun L s=>b3z s L) L
theorem c0Y(s:Stg)(L:List Int):(b3z s L).length<=L.length+9:=by
 grind[a1a,b3z]
theorem b9n:∀(st:List Stg)(L:List Int),(a7Z st L).length<=L.length+9*st.length
 | [],L=>by simp[a7Z]
 |s::st,L=>by
  have h:=c0Y s L;have g:=b9n st (b3z s L);have e:a7Z (s::st) L=a7Z st (b3z s L):=rfl
  grind
theorem b7R{n wd:Int}{s:Sub}(a:s.2.2.2.2.2.2.2.1.length<10000):∀(j i:Nat)(L:List Int),i+j=s.2.2.2.2.2.2.2.1.length->L.length+64*j<999990000->
  a0d a9F (n,wd,(i:Int),(L,()),s,())=some (n,wd,(a7Z (s.2.2.2.2.2.2.2.1.drop i) L,()),s,())
 |0,i,L,hi,_=>by
  obtain rfl:i=s.2.2.2.2.2.2.2.1.length:=by omega
  simp_all[a0g,a9F,a7Z]
 |j+1,i,L,hi,hb=>by
  have h:i<s.2.2.2.2.2.2.2.1.length:=by omega
  have k:=a1a (wrap .u64 (wrap .i64 (s.2.2.2.2.2.2.2.1[i].1-1))) 5 L;have b:=c0Y s.2.2.2.2.2.2.2.1[i] L;have g:a0s ((L,()),wrap .u64 (wrap .i64 (s.2.2.2.2.2.2.2.1[i].1-1)),(5:Int))=some (b0n (wrap .u64 (wrap .i64 (s.2.2.2.2.2.2.2.1[i].1-1))) 5,a0E (wrap .u64 (wrap .i64 (s.2.2.2.2.2.2.2.1[i].1-1))) 5 L,()):=a2j (n:=5) (by omega) (by omega);have f:a0s ((a0E (wrap .u64 (wrap .i64 (s.2.2.2.2.2.2.2.1[i].1-1))) 5 L,()),wrap .u64 s.2.2.2.2.2.2.2.1[i].2.1,(4:Int))=some (b0n (wrap .u64 s.2.2.2.2.2.2.2.1[i].2.1) 4,b3z s.2.2.2.2.2.2.2.1[i] L,()):=a2j (n:=4) (by omega) (by omega);rw[a03 h,a0k (s':=(n,wd,((i+1:Nat):Int),(b3z s.2.2.2.2.2.2.2.1[i] L,()),s,())) (by
   simp only[a9F,dlt h,cT,a0e h,oB,g,f,a0b (show i<1000000 by omega)])]
  exact b7R a j (i+1) _ (by omega) (by omega)
def b1x(s:Sub)(L:List Int):List Int:=
 a5e (a0r s.2.2.2.2.2.1) s.2.2.2.2.2.1 (a0E ((a0r s.2.2.2.2.2.1:Nat):Int) 5 (a0E (wrap .u64 s.2.2.2.1) 4 (a0E (wrap .u64 (wrap .i64 (((s.2.2.2.2.2.1.length:Nat):Int)-1))) 5 L)))
theorem d1Q{s:Sub}(h:s.2.2.2.2.2.1.length<=40)(L:List Int):(b1x s L).length<=L.length+2000:=by
 unfold b1x;have f:=a1a (wrap .u64 (wrap .i64 (((s.2.2.2.2.2.1.length:Nat):Int)-1))) 5 L;have k:=a1a (wrap .u64 s.2.2.2.1) 4 (a0E (wrap .u64 (wrap .i64 (((s.2.2.2.2.2.1.length:Nat):Int)-1))) 5 L);have a:=a1a ((a0r s.2.2.2.2.2.1:Nat):Int) 5 (a0E (wrap .u64 s.2.2.2.1) 4 (a0E (wrap .u64 (wrap .i64 (((s.2.2.2.2.2.1.length:Nat):Int)-1))) 5 L));have b:=a7W (a0r s.2.2.2.2.2.1) s.2.2.2.2.2.1 (a0E ((a0r s.2.2.2.2.2.1:Nat):Int) 5 (a0E (wrap .u64 s.2.2.2.1) 4 (a0E (wrap .u64 (wrap .i64 (((s.2.2.2.2.2.1.length:Nat):Int)-1))) 5 L)));have g:=b0o s.2.2.2.2.2.1
 have:a0r s.2.2.2.2.2.1*s.2.2.2.2.2.1.length<=32*40:=a39 g h
 omega
theorem b7b(h:s.2.2.2.2.2.1.length<=40)(i:L.length<800000000):a6O ((L,()),s)=some (b1x s L,()):=by
 have c:=a1a (wrap .u64 (wrap .i64 (((s.2.2.2.2.2.1.length:Nat):Int)-1))) 5 L;have d:=a1a (wrap .u64 s.2.2.2.1) 4 (a0E (wrap .u64 (wrap .i64 (((s.2.2.2.2.2.1.length:Nat):Int)-1))) 5 L);have e:=a1a ((a0r s.2.2.2.2.2.1:Nat):Int) 5 (a0E (wrap .u64 s.2.2.2.1) 4 (a0E (wrap .u64 (wrap .i64 (((s.2.2.2.2.2.1.length:Nat):Int)-1))) 5 L));have j:=b0o s.2.2.2.2.2.1;have f:wrap .u64 ((a0r s.2.2.2.2.2.1:Nat):Int)=((a0r s.2.2.2.2.2.1:Nat):Int):=a0p (by omega);have k:a0s ((L,()),wrap .u64 (wrap .i64 (((s.2.2.2.2.2.1.length:Nat):Int)-1)),(5:Int))=some (b0n (wrap .u64 (wrap .i64 (((s.2.2.2.2.2.1.length:Nat):Int)-1))) 5,a0E (wrap .u64 (wrap .i64 (((s.2.2.2.2.2.1.length:Nat):Int)-1))) 5 L,()):=a2j (n:=5) (by omega) (by omega);have a:a0s ((a0E (wrap .u64 (wrap .i64 (((s.2.2.2.2.2.1.length:Nat):Int)-1))) 5 L,()),wrap .u64 s.2.2.2.1,(4:Int))=some (b0n (wrap .u64 s.2.2.2.1) 4,a0E (wrap .u64 s.2.2.2.1) 4 (a0E (wrap .u64 (wrap .i64 (((s.2.2.2.2.2.1.length:Nat):Int)-1))) 5 L),()):=a2j (n:=4) (by omega) (by omega);have b:a0s ((a0E (wrap .u64 s.2.2.2.1) 4 (a0E (wrap .u64 (wrap .i64 (((s.2.2.2.2.2.1.length:Nat):Int)-1))) 5 L),()),((a0r s.2.2.2.2.2.1:Nat):Int),(5:Int))=some (b0n ((a0r s.2.2.2.2.2.1:Nat):Int) 5,a0E ((a0r s.2.2.2.2.2.1:Nat):Int) 5 (a0E (wrap .u64 s.2.2.2.1) 4 (a0E (wrap .u64 (wrap .i64 (((s.2.2.2.2.2.1.length:Nat):Int)-1))) 5 L)),()):=a2j (n:=5) (by omega) (by omega);have g:=a8A (l:=s.2.2.2.2.2.1) (n:=a0r s.2.2.2.2.2.1) (L:=a0E ((a0r s.2.2.2.2.2.1:Nat):Int) 5 (a0E (wrap .u64 s.2.2.2.1) 4 (a0E (wrap .u64 (wrap .i64 (((s.2.2.2.2.2.1.length:Nat):Int)-1))) 5 L))) (by omega) (by omega) (by omega);unfold a6O;simp only[k,a,a7X (show short s.2.2.2.2.2.1 by unfold short;omega),f,b,g,oB,b1x]
def b7S(s:Sub)(L:List Int):List Int:=
 a0E ((a0r s.2.2.2.2.2.2.2.2.1:Nat):Int) 5 (a0E (wrap .u64 s.2.1) 5 (a0E (wrap .u64 s.1) 3 L))
def a4H(s:Sub)(L:List Int):List Int:=
 if s.1=2 then a0E (wrap .u64 s.2.2.1) 3 L
 else if s.1=3 then b1x s L
 else if s.1=4 then b1x s (a5e 8 s.2.2.2.2.2.2.1 (a0E (wrap .u64 (wrap .i64 (s.2.2.2.2.1-1))) 10 L))
 else if s.1=5 then a7Z s.2.2.2.2.2.2.2.1 (a0E (wrap .u64 ((s.2.2.2.2.2.2.2.1.length:Nat):Int)) 2 L)
 else L
theorem d3V(h:SmallS s)(L:List Int):(a4H s L).length<=L.length+3000:=by
 have f:=h.coefs;have k:=h.taps;have g:=h.stages
 grind[a4H,a1a,d1Q,a7W,b9n]
theorem c0Z:∀(zs:List Nat)(ks l L:List Int),ks.all kB=true->(a7Y zs ks l L).length<=L.length+10*zs.length+100*l.length
 |z::zs,k::ks,l,L,h=>by
  simp only[a25,bA9]at h;have g:=c2K h.1 (l.take z) L;have f:=c0Z zs ks (l.drop z) (b4J k (l.take z) L) h.2;rw[a31]at g;rw[a34]at f;simp only[a7Y,lC];omega
 | [],_,_,_,_=>by simp_all[a7Y]
 |_::_,[],_,_,_=>by grind[a7Y]
def a9k(s:Sub)(zn:List Nat)(L:List Int):List Int:=
 if s.1=0\/s.1=1 then a5e (a0r s.2.2.2.2.2.2.2.2.1) s.2.2.2.2.2.2.2.2.1 (a4H s (b7S s L))
 else a8f s.2.2.2.2.2.2.2.2.2.1 zn s.2.2.2.2.2.2.2.2.2.2.1 (a5e (a0r s.2.2.2.2.2.2.2.2.1) s.2.2.2.2.2.2.2.2.1 (a4H s (b7S s L)))
theorem c0q(h:SmallS s){n:Int}(Q:L.length<100000000):
  ∃(e:Int)(L':List Int),a3u ((L,()),s,n)=some (e,L',())/\(e=0\/L'=L)/\L'.length<=L.length+700000/\
   ((a2J s n).isSome=true->e=0/\∃a,L'=a9k s a L/\(s.1≠0/\s.1≠1->PartsOk s.2.2.2.2.2.2.2.2.2.1 n ((s.2.2.2.2.2.2.2.2.1.length:Nat):Int) s.2.2.2.2.2.2.2.2.2.2.1 a))/\((a2J s n).isSome=false->e=1/\L'=L):=by
 unfold a3u;simp only[d1O h,oB];cases hs:(a2J s n).isSome with
 |false=>grind
 |true=>
  have hp:a2F s n:=by
   grind[a2J]
  obtain⟨O,P,D,-,-,-,-,A,G,E,-,o⟩:=hp;have c:=c2E D;have w:=b0o s.2.2.2.2.2.2.2.2.1;have v:short s.2.2.2.2.2.2.2.2.1:=by have:=h.warm;unfold short;omega
  have d:=h.warm;have u:=h.rest;have F:=h.stages;have R:=h.taps;have q1:=a1a (wrap .u64 s.1) 3 L;have S:=a1a (wrap .u64 s.2.1) 5 (a0E (wrap .u64 s.1) 3 L);have T:=a1a ((a0r s.2.2.2.2.2.2.2.2.1:Nat):Int) 5 (a0E (wrap .u64 s.2.1) 5 (a0E (wrap .u64 s.1) 3 L));have C:wrap .u64 ((a0r s.2.2.2.2.2.2.2.2.1:Nat):Int)=((a0r s.2.2.2.2.2.2.2.2.1:Nat):Int):=a0p (by omega);have K:a0s ((L,()),wrap .u64 s.1,(3:Int))=some (b0n (wrap .u64 s.1) 3,a0E (wrap .u64 s.1) 3 L,()):=a2j (n:=3) (by omega) (by omega);have r2:a0s ((a0E (wrap .u64 s.1) 3 L,()),wrap .u64 s.2.1,(5:Int))=some (b0n (wrap .u64 s.2.1) 5,a0E (wrap .u64 s.2.1) 5 (a0E (wrap .u64 s.1) 3 L),()):=a2j (n:=5) (by omega) (by omega);have B:a0s ((a0E (wrap .u64 s.2.1) 5 (a0E (wrap .u64 s.1) 3 L),()),((a0r s.2.2.2.2.2.2.2.2.1:Nat):Int),(5:Int))=some (b0n ((a0r s.2.2.2.2.2.2.2.2.1:Nat):Int) 5,b7S s L,()):=a2j (n:=5) (by omega) (by omega);have H:(b7S s L).length<=L.length+13:=by unfold b7S;omega
  generalize hM:b7S s L=M at B H;have U:=d3V h M;have I:=a7W (a0r s.2.2.2.2.2.2.2.2.1) s.2.2.2.2.2.2.2.2.1 (a4H s M);have V:a0r s.2.2.2.2.2.2.2.2.1*s.2.2.2.2.2.2.2.2.1.length<=32*5000:=a39 w d;have g:=a8A (l:=s.2.2.2.2.2.2.2.2.1) (n:=a0r s.2.2.2.2.2.2.2.2.1) (L:=a4H s M) (by omega) (by omega) (by omega)

  have b:=b7R (n:=n) (wd:=((a0r s.2.2.2.2.2.2.2.2.1:Nat):Int)) (s:=s) (by omega) s.2.2.2.2.2.2.2.1.length 0 (a0E (wrap .u64 ((s.2.2.2.2.2.2.2.1.length:Nat):Int)) 2 M) (by omega) (by grind[a1a]);have X:=a1a (wrap .u64 (wrap .i64 (s.2.2.2.2.1-1))) 10 M;have Y:=a7W 8 s.2.2.2.2.2.2.1 (a0E (wrap .u64 (wrap .i64 (s.2.2.2.2.1-1))) 10 M);have j:a3E ((a0E (wrap .u64 (wrap .i64 (s.2.2.2.2.1-1))) 10 M,()),s.2.2.2.2.2.2.1,(8:Int))=some (a5e 8 s.2.2.2.2.2.2.1 (a0E (wrap .u64 (wrap .i64 (s.2.2.2.2.1-1))) 10 M),()):=a8A (n:=8) (by omega) (by omega) (by omega);have t:a69 3 s.2.2.2.2.2.2.1=s.2.2.2.2.2.2.1:=a36 (by omega);simp at b;have x:a0s ((M,()),wrap .u64 s.2.2.1,(3:Int))=some (b0n (wrap .u64 s.2.2.1) 3,a0E (wrap .u64 s.2.2.1) 3 M,()):=a2j (n:=3) (by omega) (by omega);have y:a0s ((M,()),wrap .u64 (wrap .i64 (s.2.2.2.2.1-1)),(10:Int))=some (b0n (wrap .u64 (wrap .i64 (s.2.2.2.2.1-1))) 10,a0E (wrap .u64 (wrap .i64 (s.2.2.2.2.1-1))) 10 M,()):=a2j (n:=10) (by omega) (by omega);have z:a0s ((M,()),wrap .u64 ((s.2.2.2.2.2.2.2.1.length:Nat):Int),(2:Int))=some (b0n (wrap .u64 ((s.2.2.2.2.2.2.2.1.length:Nat):Int)) 2,a0E (wrap .u64 ((s.2.2.2.2.2.2.2.1.length:Nat):Int)) 2 M,()):=a2j (n:=2) (by omega) (by omega);have q:=b7b (s:=s) h.coefs (L:=M) (by omega);have r:=b7b (s:=s) h.coefs (L:=a5e 8 s.2.2.2.2.2.2.1 (a0E (wrap .u64 (wrap .i64 (s.2.2.2.2.1-1))) 10 M)) (by omega);simp only[bT,cF,a7X v,oB,K,r2,C,B];generalize hPM:a5e (a0r s.2.2.2.2.2.2.2.2.1) s.2.2.2.2.2.2.2.2.1 (a4H s M)=PM at g I

  have m:∀(i:s.1≠0/\s.1≠1),∃a,PartsOk s.2.2.2.2.2.2.2.2.2.1 n ((s.2.2.2.2.2.2.2.2.1.length:Nat):Int) s.2.2.2.2.2.2.2.2.2.2.1 a:=fun i=>by
   simp_all[PartsOk.of]
  rcases c with k|k|k|k|k|k;have f:a4H s M=M:=by unfold a4H;grind
  rw[f]at g;refine⟨0,PM,?_,.inl rfl,by omega,fun _=>⟨rfl,[],by simp_all[a9k],fun h=>absurd k (by omega)⟩,fun h=>by grind⟩;simp only[k,show((0:Int)==2)=false from rfl,show((0:Int)==4)=false from rfl,show((0:Int)==3)=false from rfl,show((0:Int)==5)=false from rfl,cF,oB,g,a6V]
  simp
  have f:a4H s M=M:=by unfold a4H;grind
  rw[f]at g;refine⟨0,PM,?_,.inl rfl,by omega,fun _=>⟨rfl,[],by simp_all[a9k],fun h=>absurd k (by omega)⟩,fun h=>by grind⟩;simp only[k,show((1:Int)==2)=false from rfl,show((1:Int)==4)=false from rfl,show((1:Int)==3)=false from rfl,show((1:Int)==5)=false from rfl,cF,oB,g,a6V]
  simp
  all_goals
   obtain⟨a,p⟩:=m (by omega);have t2:=c7W (L:=PM) p (by omega);have N:(a8f s.2.2.2.2.2.2.2.2.2.1 a s.2.2.2.2.2.2.2.2.2.2.1 PM).length<=L.length+700000:=by
    have Z:=a1a (wrap .u64 s.2.2.2.2.2.2.2.2.2.1.1) 4 PM;have z2:=c0Z a s.2.2.2.2.2.2.2.2.2.1.2.1 s.2.2.2.2.2.2.2.2.2.2.1 (a0E (wrap .u64 s.2.2.2.2.2.2.2.2.2.1.1) 4 PM) p.all;have z3:=p.len
    grind[a8f]
   refine⟨0,a8f s.2.2.2.2.2.2.2.2.2.1 a s.2.2.2.2.2.2.2.2.2.2.1 PM,?_,.inl rfl,N,fun _=>⟨rfl,a,by simp_all[a9k],fun _=>p⟩,fun h=>by grind⟩
  have f:a4H s M=a0E (wrap .u64 s.2.2.1) 3 M:=by unfold a4H;grind
  rw[f]at g;simp only[k,show((2:Int)==2)=true from rfl,cT,x,oB,g,a6V]
  grind
  have f:a4H s M=b1x s M:=by unfold a4H;grind
  rw[f]at g;simp only[k,show((3:Int)==2)=false from rfl,show((3:Int)==3)=true from rfl,cT,cF,q,oB,g,a6V]
  grind
  have f:a4H s M=b1x s (a5e 8 s.2.2.2.2.2.2.1 (a0E (wrap .u64 (wrap .i64 (s.2.2.2.2.1-1))) 10 M)):=by unfold a4H;grind
  rw[f]at g;simp only[k,show((4:Int)==2)=false from rfl,show((4:Int)==3)=false from rfl,show((4:Int)==4)=true from rfl,cT,cF,y,t,j,r,oB,g,a6V]
  grind
  have f:a4H s M=a7Z s.2.2.2.2.2.2.2.1 (a0E (wrap .u64 ((s.2.2.2.2.2.2.2.1.length:Nat):Int)) 2 M):=by unfold a4H;grind
  rw[f]at g;simp only[k,show((5:Int)==2)=false from rfl,show((5:Int)==4)=false from rfl,show((5:Int)==3)=false from rfl,show((5:Int)==5)=true from rfl,cT,cF,z,b,oB,g,a6V]
  grind
theorem b8E(h:List Nat):(a2o h).map a24=h:=by
 unfold a2o;rw[a64]
 have:a24∘(fun(a:Nat)=>(a:Int))=id:=by rfl
 simp_all
theorem d0x{n:Int}{z z':List Nat}(h:PartsOk p n warm l z)(g:PartsOk p n warm l z'):z=z':=by
 rw[<-b8E z,<-h.sizes,g.sizes,b8E]
def e5e(s:Sub)(n:Int):Int:=
 if(a2J s n).isSome=true then(((a9k s ((a2N s.2.2.2.2.2.2.2.2.2.1.1 n ((s.2.2.2.2.2.2.2.2.1.length:Nat):Int)).map a24) []).length:Nat):Int)else 0
def b7c(L:List Int)(i:Nat):List Int:=(wL (L.take i)).1++a00 ((L.length+7) / 8-(i+7) / 8) 0
theorem d5Y{L:List Int}{i:Nat}(h:i<=L.length):(b7c L i).length=(L.length+7) / 8:=by
 grind[a7g,b7c]
theorem e1h(h:i<L.length):
  (b7c L i).set (i / 8) (bits .u8 .or ((b7c L i).getD (i / 8) 0) (a0t .u8 L[i] (7-(i:Int)%8)))=b7c L (i+1):=by
 obtain⟨g,f⟩:=a7g (L.take i);rw[a31,a75 (Nat.le_of_lt h)]at g f;have b:L.take (i+1)=L.take i++[L[i]]:=by simp
 unfold b7c;rw[b,c3C];generalize wL (L.take i)=wr at g f|-;obtain⟨a,n,u⟩:=wr;have g:n=(i:Int):=g;have f:a.length=(i+7) / 8:=f;subst g;have e8:((i:Int) / 8).toNat=i / 8:=by rfl
 unfold c5X;simp only[e8]
 by_cases hz:i%8=0
 have k:(i:Int)%8=0:=by omega
 rw[if_pos k];have c:(L.length+7) / 8-(i+7) / 8=((L.length+7) / 8-(i+1+7) / 8)+1:=by omega
 grind
 grind
theorem d3W(x:L.length<1000000000):a7v (L,())=some ((wL L).1,L,()):=by
 have q:wrap .i64 (((L.length:Nat):Int)+7)=((L.length:Nat):Int)+7:=a0c (by omega);have r:a76 (((L.length:Nat):Int)+7) 8=(((L.length:Nat):Int)+7) / 8:=a44 (by omega);have s:wrap .i64 ((((L.length:Nat):Int)+7) / 8)=(((L.length:Nat):Int)+7) / 8:=a0c (by omega);have t:a24 ((((L.length:Nat):Int)+7) / 8)=(L.length+7) / 8:=by rfl
 have u:decide ((0:Int)<=(((L.length:Nat):Int)+7) / 8)=true:=by rfl
 have v:decide ((((L.length:Nat):Int)+7) / 8<=(((L.length:Nat):Int)+7) / 8)=true:=by simp
 have w:lim ((L.length+7) / 8)=true:=a0H (by omega);have h:b7c L 0=a00 ((L.length+7) / 8) 0:=by rfl
 have l:b7c L L.length=(wL L).1:=by simp[b7c]
 have a:=a1E (f:=a5A) (fun i:Nat=>((i:Int),b7c L i,(L,()),())) L.length (b:=((wL L).1,(L,()),()))
  (fun i hi=>by
   have m:a76 (i:Int) 8=(i:Int) / 8:=a44 (by omega);have t2:a62 (i:Int) 8=(i:Int)%8:=a45 (by omega);have n:wrap .i64 ((i:Int) / 8)=(i:Int) / 8:=a0c (by omega);have w2:wrap .i64 (7-(i:Int)%8)=7-(i:Int)%8:=a0c (by omega);have o:wrap .u64 (7-(i:Int)%8)=7-(i:Int)%8:=a0p (by omega);have p:wrap .i64 ((i:Int)+1)=((i+1:Nat):Int):=by grind[a0c]
   have k:decide ((i:Int)<((L.length:Nat):Int))=true:=by simp_all
   have c:decide ((0:Int)<=(i:Int) / 8)=true:=by rfl
   have d:decide ((i:Int) / 8<(((b7c L i).length:Nat):Int))=true:=by grind[d5Y]
   have e:decide ((0:Int)<=(i:Int))=true:=by simp
   have j:decide (7-(i:Int)%8<0)=false:=by grind
   have n1:a24 ((i:Int) / 8)=i / 8:=by rfl
   have n2:a24 (i:Int)=i:=by rfl
   have g:L.getD i 0=L[i]:=by simp_all
   have st:=e1h hi;simp only[a5A,m,t2,n,w2,o,p,k,c,d,e,j,n1,n2,g,st,a02,cT,cF])
  (by
   have k:decide (((L.length:Nat):Int)<((L.length:Nat):Int))=false:=by simp
   simp_all[a5A])
 simp_all[a7v]
def dif:List Int->List Int
 |a::b::r=>W (b-a)::dif (b::r)
 |_=>[]
def e3g:Nat->List Int->List Int
 |0,l=>l
 |o+1,l=>dif (e3g o l)
theorem f4S(h:o<=30):a0t .i64 1 (o:Int)=((2^o:Nat):Int):=by
 have g:2^o<=2^30:=a08 (by omega) h
 have:=c0j (N:=1) (o:=o) (by omega) (by omega)
 simp_all
def d9u(g:List Int->Int):List Int->List Int->List Int
 | [],_=>[]
 |x::r,done=>W (x-g done)::d9u g r (done++[x])
def e5f(g:List Int->Int)(r done:List Int):Option (List Int):=bif (d9u g r done).all a0i then some (d9u g r done)else none
def e5g(l c:List Int)(s:Int):Option (List Int):=bif l.all a0i then e5f (b3w c s) (l.drop c.length) (l.take c.length)else none
def e8s(l:List Int)(lag:Int)(t:List Int):Option (List Int):=bif l.all a0i then e5f (b0U lag t) l []else none
def rsO:List Int->List Int->Fil->Option (List Int)
 | [],done,_=>some done
 |x::r,done,f=>bif a0i (W (x-a0Z f))then rsO r (done++[W (x-a0Z f)]) (b5X f x)else none
def lRO:List Stg->List Int->Option (List Int)
 | [],row=>some row
 |s::r,row=>match rsO row [] (b3x s)with
  |some row'=>lRO r row'
  |none=>none
def e6d(l:List Int)(st:List Stg):Option (List Int):=bif l.all a0i then lRO st l else none
def e6e(l:List Int)(w:Nat):Prop:=
 ((∀x∈l,x=0)/\w=0)\/((∃x∈l,x≠0)/\w<=30/\(∀x∈l,((2^w:Nat):Int) ∣ x)/\(w=30\/∃x∈l,¬ ((2^(w+1):Nat):Int) ∣ x))
def e5h(k:Nat)(x:Int):Nat:=if a1b x / 2^k<32 then a1b x / 2^k+1+k else 65
theorem e8t{x:Int}(h:a0i x=true):a2B x ((31:Nat):Int)=true:=by
 have:=a3G.1 h
 have g:a0t .i64 (-1) (((31:Nat):Int)-1)=-1073741824:=by rfl
 have f:wrap .i64 (a0t .i64 1 (((31:Nat):Int)-1)-1)=1073741823:=by rfl
 unfold a2B
 grind
theorem c7X{x:Int}(h:a0i x=true):∀(k w:Nat),w+k=32->1<=k->a5f x k w<=31
 |k+1,w,hk,_=>by
  simp[a5f]
  by_cases h31:w=31
  grind[e8t]
  ·cases (x != 0)&&!a2B x w with
   |true=>exact c7X h k (w+1) (by omega) (by omega)
   |false=>grind
theorem b7T:∀(l:List Int)(w:Nat),l.all a0i=true->w<=31->l.foldl (fun w x=>a5f x (32-w) w) w<=31
 | [],w,_,h=>h
 |x::l,w,hl,h=>by
  simp only[a25,bA9]at hl;exact b7T l _ hl.2 (c7X hl.1 (32-w) w (by omega) (by omega))
theorem b1y{l:List Int}(h:l.all a0i=true):a0r l<=31:=b7T l 0 h (by omega)
def f0Z(k:Int)(part:List Int):Nat:=5+(if k=31 then 5+a0r part*part.length else(part.map (e5h k.toNat)).sum)
def e1i:List Nat->List Int->List Int->Nat
 |z::zs,k::ks,l=>f0Z k (l.take z)+e1i zs ks (l.drop z)
 |_,_,_=>0
theorem b0p{q:Nat}(h:q<2147483648):wrap .u64 (q:Int)=(q:Int):=a0p (by omega)
def b0V(o:Int):Sub:=((0:Int),(0:Int),o,(0:Int),(0:Int),([]:List Int),a00 3 (0:Int),([]:List Stg),([]:List Int),((0:Int),([]:List Int),()),([]:List Int),())
def e3h(k:Nat)(l:List Int):Nat:=(l.map (e5h k)).sum
def rbN(l:List Int):Nat->Nat
 |0=>0
 |i+1=>if e3h (i+1) l<e3h (rbN l i) l then i+1 else rbN l i
def e6f(l:List Int):Int:=if 5+a0r l*l.length<e3h (rbN l 25) l then 31 else((rbN l 25:Nat):Int)
def c9F:List Nat->List Int->List Int
 | [],_=>[]
 |z::zs,l=>e6f (l.take z)::c9F zs (l.drop z)
def zsN(o n warm:Int):List Nat:=(a2N o n warm).map a24
def f1a(o n warm:Int)(l:List Int):Prt:=(o,c9F (zsN o n warm) l,())
def e5i(o n warm:Int)(l:List Int):Nat:=4+e1i (zsN o n warm) (c9F (zsN o n warm) l) l
def c2N(n warm:Int)(l:List Int):Nat->Prt×Nat
 |0=>((0,[],()),0)
 |i+1=>if(a2N (i:Int) n warm).length=0 then c2N n warm l i else
   if(c2N n warm l i).2=0\/e5i (i:Int) n warm l<(c2N n warm l i).2 then(f1a (i:Int) n warm l,e5i (i:Int) n warm l)else c2N n warm l i
def f1b(n warm:Int)(l:List Int):Prt:=(c2N n warm l 7).1
def c9G(k:Int)(s:Sub):Sub:=
 (k,(0:Int),(if k=2 then s.2.2.1 else 0),(if k=3\/k=4 then s.2.2.2.1 else 0),(if k=4 then s.2.2.2.2.1 else 0),(if k=3\/k=4 then s.2.2.2.2.2.1 else[]),
  ((if k=4 then s.2.2.2.2.2.2.1 else a00 3 (0:Int)),(if k=5 then s.2.2.2.2.2.2.2.1 else[]),([]:List Int),((0:Int),([]:List Int),()),([]:List Int),()))
def z0:Prt:=((0:Int),([]:List Int),())
def d9v(s:Sub)(w:Nat)(wm:List Int)(p:Prt)(r:List Int):Sub:=
 (s.1,(w:Int),s.2.2.1,s.2.2.2.1,s.2.2.2.2.1,s.2.2.2.2.2.1,s.2.2.2.2.2.2.1,s.2.2.2.2.2.2.2.1,wm,p,r,())
open Classical in
def d3X (l:List Int):Nat:=if h:∃w,e6e l w then h.choose else 0
def d2h(l:List Int):List Int:=l.map fun x=>a0v .i64 x (d3X l:Int)
def f1c(k:Int)(s:Sub)(d:List Int):Option (List Int×List Int):=
 if k=2 then(bif (e3g s.2.2.1.toNat d).all a0i then some (d.take s.2.2.1.toNat,e3g s.2.2.1.toNat d)else none)
 else if k=3 then(e5g d s.2.2.2.2.2.1 s.2.2.2.1).map fun r=>(d.take s.2.2.2.2.2.1.length,r)
 else if k=4 then(e8s d s.2.2.2.2.1 s.2.2.2.2.2.2.1).bind fun x=>(e5g x s.2.2.2.2.2.1 s.2.2.2.1).map fun r=>(x.take s.2.2.2.2.2.1.length,r)
 else(e6d d s.2.2.2.2.2.2.2.1).map fun r=>([],r)
open Classical in

def d2i (k:Int) (l:List Int) (s:Sub):Sub×Int:=
 if ¬ (1<=l.length/\l.length<=4096/\b1g k s (l.length:Int))then(b0V 0,1)
 else if l.all a0i=false then(b0V 0,6)
 else if k=0 then(bif l.all (fun x=>x==l.headD 0)then(d9v (c9G 0 s) 0 [l.headD 0] z0 [],0)else(b0V 0,7))
 else if k=1 then(d9v (c9G 1 s) (d3X l) (d2h l) z0 [],0)
 else match f1c k s (d2h l)with
  |none=>(b0V 0,6)
  |some (wm,r)=>(d9v (c9G k s) (d3X l) wm (f1b (l.length:Int) (wm.length:Int) r) r,0)
theorem b7d{α A β:Type}(g:A->α->A)(h:A->β):∀(l:List α)(a:A),b6R h (a6j (fun a x=>.inl (g a x)) l a)=h (l.foldl g a)
 | [],_=>rfl
 |x::l,a=>b7d g h l (g a x)
theorem c7Y{k n:Int}(h:b1g k s n):0<=k/\k<=5:=by
 rcases h with h|h|⟨h,-⟩|⟨h,-⟩|⟨h,-⟩|⟨h,-⟩<;>omega
theorem c4S{n:Int}(h:(a2J s n).isSome=true):a2F s n:=by
 grind[a2J]
structure Shifted (l m:List Int) (n:Nat):Prop where
 len:m.length=l.length
 wl:l.all a0i=true
 wm:m.all a0i=true
 down:d2h m=d2h l
 waste:d3X m=d3X l+n
 fl:l.all (fun x=>x==l.headD 0)=false
 fm:m.all (fun x=>x==m.headD 0)=false
structure BestIs (l:List Int) (cs:List Sub) (a:Int×(Bool×Sub)):Prop where
 one:a.2.1=true->∃c∈cs,(d2i c.1 l c).2=0/\a.2.2=(d2i c.1 l c).1/\a.1=e5e a.2.2 (l.length:Int)
 least:∀c∈cs,(d2i c.1 l c).2=0->a.2.1=true/\a.1<=e5e (d2i c.1 l c).1 (l.length:Int)
abbrev Rd:Type:=(List Int)×(Int×(Int×Unit))
variable {r r':Rd}
def a1t(L:List Int):Prop:=∀b∈L,b=0\/b=1
def b4h(bs:List Int)(i:Nat):Bool:=(bs.getD (i / 8) 0).toNat.testBit (7-i%8)
theorem or8{x y:Nat}(h:x<256)(g:y<256):bits .u8 .or (x:Int) (y:Int)=((x ||| y:Nat):Int):=by
 show wrap .u8 (((a04 8 (x:Int)) ||| (a04 8 (y:Int))).toNat:Int)=_;rw[a26,a26,a77,a32,a32,a30 h,a30 g,a6U]
 have:x ||| y<2^8:=a99 h g
 omega
theorem f4T{b:Int}(hb:b=0\/b=1){r:Nat}(g:r<8):a0t .u8 b (7-(r:Int))=((b.toNat*2^(7-r):Nat):Int):=by
 have h:∀r:Fin 8,a0t .u8 0 (7-(r.1:Int))=((0*2^(7-r.1):Nat):Int)/\a0t .u8 1 (7-(r.1:Int))=((1*2^(7-r.1):Nat):Int):=by decide +kernel
 rcases hb with rfl|rfl;exact(h ⟨r,g⟩).1;exact(h ⟨r,g⟩).2
theorem e3i{x:Nat}(h:x<256){r:Nat}(g:r<8):bits .u8 .and (a0v .u8 (x:Int) (7-(r:Int))) 1=if x.testBit (7-r)then 1 else 0:=by
 have e:a0v .u8 (x:Int) (7-(r:Int))=((x / 2^(7-r):Nat):Int):=by
  show a91 (x:Int) (2^(min (7-(r:Int)).toNat 8))=_
  grind
 rw[e];have f:x / 2^(7-r)<256:=a49 (a27 _ _) h;show wrap .u8 (((a04 8 ((x / 2^(7-r):Nat):Int)) &&& (a04 8 1)).toNat:Int)=_
 grind[a04,a6U]
theorem e1j(L:List Int)(b:Int)(i:Nat):(L++[b]).getD i 0=if i=L.length then b else L.getD i 0:=by
 grind
theorem d3Y(h:List Int)(k:Nat)(y:Int)(g:k<h.length)(j:Nat):(h.set k y).getD j 0=if j=k then y else h.getD j 0:=by
 grind
theorem d0y:∀(n:Nat)(L:List Int),L.length=n->a1t L->(∀j,0<=(wL L).1.getD j 0/\(wL L).1.getD j 0<256)/\∀i,b4h (wL L).1 i=decide (L.getD i 0=1)
 |0,L,h,_=>by
  simp_all[wL,b4h]
 |n+1,L,h,hL=>by
  obtain⟨g,b,rfl⟩:∃g b,L=g++[b]:=by
   rcases a59 L with rfl|⟨g,b,e⟩
   all_goals simp_all
  have hb:b=0\/b=1:=hL b (by simp);obtain⟨t,v⟩:=d0y n g (by simp_all) fun c C=>hL c (by grind);obtain⟨o,p⟩:=a7g g;rw[c3C];generalize wL g=wr at o p t v|-;obtain⟨d,m,u⟩:=wr;have o:m=(g.length:Int):=o;have p:d.length=(g.length+7) / 8:=p;subst o;have e8:((g.length:Int) / 8).toNat=g.length / 8:=by rfl
  have q:(g.length:Int)%8=((g.length%8:Nat):Int):=by rfl
  obtain⟨f,a,w,y⟩:∃f:List Int,(if(g.length:Int)%8=0 then d++[0]else d)=f/\g.length / 8<f.length/\∀j,f.getD j 0=d.getD j 0:=by
   grind
  rw[q]at a;have B:g.length%8<8:=a48 _ (by simp);obtain⟨x,r⟩:∃x:Nat,d.getD (g.length / 8) 0=(x:Int):=a01 (t _).1;have k:x<256:=by
   grind
  have s:b.toNat*2^(7-g.length%8)<256:=by
   have hp:2^(7-g.length%8)<=2^7:=a08 (by simp) (by omega)
   grind
  have A:x ||| b.toNat*2^(7-g.length%8)<2^8:=a99 k s;have l:(c5X (d,(g.length:Int),u) b).1=f.set (g.length / 8) ((x ||| b.toNat*2^(7-g.length%8):Nat):Int):=by
   unfold c5X;simp only[a,e8,q];rw[y,r,f4T hb B,or8 k s]
  rw[l];refine⟨fun j=>?_,fun i=>?_⟩
  grind[d3Y]
  ·unfold b4h;rw[d3Y _ _ _ w,e1j];have hi:=v i;unfold b4h at hi
   by_cases hk:i / 8=g.length / 8
   ·rw[if_pos hk,tN,Nat.testBit_or];rw[hk,r,tN]at hi;rw[hi];have z:(b.toNat*2^(7-g.length%8)).testBit (7-i%8)=(decide (b=1)&&decide (i=g.length)):=by
     rcases hb with rfl|rfl
     all_goals grind
    grind
   grind
theorem c9H(h:a1t L):(∀j,0<=(wL L).1.getD j 0/\(wL L).1.getD j 0<256)/\∀i,b4h (wL L).1 i=decide (L.getD i 0=1):=d0y _ L rfl h
def rdr(P R:List Int):Rd:=((wL (P++R)).1,(P.length:Int),(0:Int),())
theorem b9o(k:a1t L)(n:L.length<1000000000)(hi:i<L.length)(t:Int×(Int×Unit)):
  a1p (((wL L).1,t),(i:Int))=some (L.getD i 0,(wL L).1,t):=by
 obtain⟨d,e⟩:=c9H k;obtain⟨-,m⟩:=a7g L;have l:a62 (i:Int) 8=((i%8:Nat):Int):=by rfl
 have j:a76 (i:Int) 8=((i / 8:Nat):Int):=by rfl
 have b:wrap .i64 ((i / 8:Nat):Int)=((i / 8:Nat):Int):=a0c (by omega);have c:wrap .i64 (7-((i%8:Nat):Int))=7-((i%8:Nat):Int):=a0c (by omega);have g:decide (7-((i%8:Nat):Int)<0)=false:=by grind
 have hb:i / 8<(wL L).1.length:=by omega
 have f:(wL L).1[i / 8]=(wL L).1.getD (i / 8) 0:=by grind
 unfold a1p;simp only[l,j,b,c,g,a0e hb,oB,cF];obtain⟨x,a⟩:∃x:Nat,(wL L).1.getD (i / 8) 0=(x:Int):=a01 (d _).1;have h:x<256:=by grind
 rw[f,a,e3i h (a48 _ (by simp))]
 have:=e i
 unfold b4h at this;rw[a,tN]at this;rw[this];have hv:L.getD i 0=0\/L.getD i 0=1:=by
  have:L.getD i 0=L[i]:=by simp_all
  rw[this];exact k _ (a05 hi)
 grind
theorem b0q{v:Nat}(hv:v<18446744073709551616){i:Nat}(hi:i<=64):a4c (v:Int) i=((v / 2^i%2:Nat):Int):=by
 unfold a4c;rw[a5G hi];have h:v / 2^i<18446744073709551616:=a49 (a27 _ _) hv;show wrap .u8 (wrap .u64 (((a04 64 ((v / 2^i:Nat):Int)) &&& (a04 64 1)).toNat:Int))=_
 grind[a04,a0p,a6U]
theorem d9w{v:Nat}(hv:v<18446744073709551616):∀n,n<=64->a1t (pb (v:Int) n)
 |0,_=>fun b hb=>by cases hb
 |n+1,h=>fun b hb=>by
  rcases mC.1 hb with rfl|hb
  grind[b0q]
  exact d9w hv n (by omega) b hb
theorem a1t.app{A B:List Int}(h:a1t A)(g:a1t B):a1t (A++B):=fun b hb=>(mA.1 hb).elim (h b) (g b)
theorem orU(k:a<18446744073709551616)(hb:b<2)(f:a%2=0):bits .u64 .or (a:Int) (b:Int)=((a+b:Nat):Int):=by
 show wrap .u64 (((a04 64 (a:Int) ||| a04 64 (b:Int)).toNat:Nat):Int)=_;have g:(a04 64 (a:Int)).toNat=a:=by simp_all
 have h:(a04 64 (b:Int)).toNat=b:=by grind
 rw[a77,g,h];have e:a ||| b=a+b:=by
  have:=a40 (i:=1) (b:=b) (by omega) (a / 2)
  grind
 grind[a0p]
theorem d3Z{v:Nat}(hv:v<9223372036854775808){n:Nat}(q:n<=62):∀(m:Nat)(P R:List Int),m<=n->a1t (P++(pb (v:Int) m++R))->(P++(pb (v:Int) m++R)).length<1000000000->
  a0d a5x (((v / 2^m:Nat):Int),(n:Int),((n-m:Nat):Int),rdr P (pb (v:Int) m++R),())=some ((v:Int),rdr (P++pb (v:Int) m) R,())
 |0,P,R,_,_,_=>by
  grind[a0g,a5x,pb]
 |m+1,P,R,hm,hok,hlen=>by
  have l:decide (((n-(m+1):Nat):Int)<(n:Int))=true:=by grind
  have a:a1p (rdr P (pb (v:Int) (m+1)++R),(P.length:Int))=some (a4c v m,rdr P (pb (v:Int) (m+1)++R)):=by
   have:=b9o hok hlen (i:=P.length) (by simp[pb]) ((P.length:Int),(0:Int),())
   rw[show(P++(pb (v:Int) (m+1)++R)).getD P.length 0=a4c v m from by simp_all[pb]]at this;exact this
  have g:=b0q (v:=v) (by omega) (i:=m) (by omega);have b:v / 2^m%2<2:=a48 _ (by simp);have f:v / 2^(m+1)=v / 2^m / 2:=by grind[a55]
  have p:v / 2^m<=v:=a27 _ _;have d:a0t .u64 ((v / 2^(m+1):Nat):Int) 1=((v / 2^(m+1)*2^1:Nat):Int):=b5d (o:=1) (by omega) (by omega);have h:bits .u64 .or ((v / 2^(m+1)*2^1:Nat):Int) (wrap .u64 (a4c (v:Int) m))=((v / 2^m:Nat):Int):=by
   rw[g,a0p (by omega),orU (by omega) b (by omega),f];omega
  have e:wrap .i64 (((n-(m+1):Nat):Int)+1)=((n-m:Nat):Int):=by grind[a0c]
  have j:wrap .i64 ((P.length:Int)+1)=(((P++[a4c v m]).length:Nat):Int):=by
   grind[a0c]
  have k:P++(pb (v:Int) (m+1)++R)=(P++[a4c v m])++(pb (v:Int) m++R):=by simp[pb]
  have c:((rdr P (pb (v:Int) (m+1)++R)).1,(((P++[a4c v m]).length:Nat):Int),(rdr P (pb (v:Int) (m+1)++R)).2.2)=rdr (P++[a4c v m]) (pb (v:Int) m++R):=by
   unfold rdr;simp_all
  rw[a0k (s':=(((v / 2^m:Nat):Int),(n:Int),((n-m:Nat):Int),rdr (P++[a4c v m]) (pb (v:Int) m++R),())) (by
   simp only[a5x,l,cT];rw[show(rdr P (pb (v:Int) (m+1)++R)).2.1=(P.length:Int)from rfl,a];simp only[oB,d,h,e];rw[show(rdr P (pb (v:Int) (m+1)++R)).2.1=(P.length:Int)from rfl,j,c])]
  rw[d3Z hv q m _ _ (by omega) (by simp_all) (by simp_all)];simp[pb]
theorem e1k(a:n<=62)(hv:v<2^n)(g:a1t (P++(pb (v:Int) n++R)))(k:(P++(pb (v:Int) n++R)).length<200000000):
  a0x (rdr P (pb (v:Int) n++R),(n:Int))=some ((v:Int),rdr (P++pb (v:Int) n) R):=by
 have h:v<9223372036854775808:=a94 hv (a97 (a08 (by simp) a) (by simp));have f:=d3Z h a n P R (by omega) g (by omega);rw[a46 hv,a63]at f;simp at f;obtain⟨-,e⟩:=a7g (P++(pb (v:Int) n++R));have j:=a3a (v:Int) n;have i:(P++(pb (v:Int) n++R)).length=P.length+n+R.length:=by grind
 have e8:wrap .i64 ((8:Int)*(((wL (P++(pb (v:Int) n++R))).1.length:Nat):Int))=(8:Int)*(((wL (P++(pb (v:Int) n++R))).1.length:Nat):Int):=a0c (by omega);have d:wrap .i64 ((8:Int)*(((wL (P++(pb (v:Int) n++R))).1.length:Nat):Int)-(P.length:Int))=(8:Int)*(((wL (P++(pb (v:Int) n++R))).1.length:Nat):Int)-(P.length:Int):=a0c (by omega);have b:decide ((n:Int)<0)=false:=by simp
 have c:decide ((n:Int) > 64)=false:=by grind
 have l:decide ((n:Int) > (8:Int)*(((wL (P++(pb (v:Int) n++R))).1.length:Nat):Int)-(P.length:Int))=false:=by
  grind
 unfold a0x a3C;rw[show(rdr P (pb (v:Int) n++R)).2.2.1=0 from rfl];simp only[bne_self_eq_false,cF,b,c,oB];rw[show(rdr P (pb (v:Int) n++R)).1=(wL (P++(pb (v:Int) n++R))).1 from rfl,show(rdr P (pb (v:Int) n++R)).2.1=(P.length:Int)from rfl,e8,d]
 grind
def c2O(n:Nat)(x:Int):Prop:=-((2^n:Nat):Int)<=2*x/\2*x<((2^n:Nat):Int)
theorem b7U(f:n<=62)(x:Int):∃v:Nat,a5d x n=(v:Int)/\v<2^n/\(v:Int)=x%((2^n:Nat):Int):=by
 have k:wrap .u64 x=x%18446744073709551616:=by rfl
 obtain⟨y,h⟩:∃y:Nat,x%18446744073709551616=(y:Int):=a01 (Int.emod_nonneg _ (by simp));have g:y<18446744073709551616:=by omega
 refine⟨y%2^n,?_,a48 _ (a16 n),?_⟩;simp_all[a5d,b6Z];rw[Int.natCast_emod,<-h];refine Int.emod_emod_of_dvd x ?_
 have:(2:Nat)^n ∣ 2^64:=Nat.pow_dvd_pow 2 (by omega)
 exact Int.natCast_dvd_natCast.2 this
theorem e1l(q:n<=62)(t:c2O n x)(c:a1t (P++(pb (a5d x n) n++R)))(g:(P++(pb (a5d x n) n++R)).length<200000000):
  a0G (rdr P (pb (a5d x n) n++R),(n:Int))=some (x,rdr (P++pb (a5d x n) n) R):=by
 obtain⟨v,hv,b,f⟩:=b7U q x;rw[hv]at c g|-;have a:=e1k q b c g;obtain⟨i,j⟩:=t;have y:=a16 n;have o:(v:Int)=x/\0<=x\/(v:Int)=x+((2^n:Nat):Int)/\x<0:=by
  by_cases h0:0<=x
  exact .inl ⟨by rw[f];exact a53 h0 (by omega),h0⟩;refine .inr ⟨?_,by omega⟩;rw[f,<-Int.add_emod_right];exact a53 (by omega) (by omega)
 unfold a0G;simp[a];rw[show(rdr (P++pb (v:Int) n) R).2.2.1=0 from rfl]
 simp
 cases n with
 |zero=>
  grind
 |succ k=>
  have l:(((k+1:Nat):Int)==0)=false:=by rfl
  have s:wrap .i64 ((64:Int)-((k+1:Nat):Int))=((64-(k+1):Nat):Int):=by grind[a0c]
  have r:decide (((64-(k+1):Nat):Int)<0)=false:=by simp
  simp only[l,cF,s,r];have p:64-(k+1)+(k+1)=64:=by omega
  generalize 64-(k+1)=m at p|-;have u:2^m*2^(k+1)=18446744073709551616:=by rw[<-b02,p]
  have d:((2^m:Nat):Int)*((2^(k+1):Nat):Int)=18446744073709551616:=by omega
  have hp:=a16 m;have w:a0t .u64 (v:Int) (m:Int)=(v:Int)*((2^m:Nat):Int):=by
   show wrap .u64 ((v:Int)*2^(min (m:Int).toNat 64))=_;rw[tN,a75 (by omega)];have e:(2:Int)^m=((2^m:Nat):Int):=by simp
   rw[e];refine a0p ⟨Int.mul_nonneg (by omega) (by omega),?_⟩
   have:v*2^m<2^(k+1)*2^m:=Nat.mul_lt_mul_of_pos_right b hp
   grind
  have b1:-9223372036854775808<=x*((2^m:Nat):Int):=by
   have:=Int.mul_le_mul_of_nonneg_right i (show(0:Int)<=((2^m:Nat):Int)by omega)
   grind
  have b2:x*((2^m:Nat):Int)<9223372036854775808:=by
   have:=Int.mul_lt_mul_of_pos_right j (show(0:Int)<((2^m:Nat):Int)by omega)
   grind
  have z:wrap .i64 ((v:Int)*((2^m:Nat):Int))=x*((2^m:Nat):Int):=by
   rcases o with⟨h,-⟩|⟨h,-⟩
   grind[a0c]
   rw[h,Int.add_mul,Int.mul_comm ((2^(k+1):Nat):Int),d]
   grind[wrap,IntKind.bits,IntKind.signed]
  have s1:a0v .i64 (x*((2^m:Nat):Int)) (m:Int)=x:=by
   show a91 (x*((2^m:Nat):Int)) (2^(min (m:Int).toNat 64))=x;rw[tN,a75 (by omega)]
   grind[Int.mul_ediv_cancel]
  simp_all
def OkR(P R:List Int):Prop:=a1t (P++R)/\(P++R).length<200000000
theorem OkR.shift{A:List Int}(h:OkR P (A++R)):OkR (P++A) R:=by
 unfold OkR at h|-;simp_all
theorem d4a(g:n<=62)(hv:v<2^n)(h:OkR P (pb (v:Int) n++R)):a0x (rdr P (pb (v:Int) n++R),(n:Int))=some ((v:Int),rdr (P++pb (v:Int) n) R):=e1k g hv h.1 h.2
theorem e1m(f:n<=62)(g:c2O n x)(h:OkR P (pb (a5d x n) n++R)):a0G (rdr P (pb (a5d x n) n++R),(n:Int))=some (x,rdr (P++pb (a5d x n) n) R):=e1l f g h.1 h.2
def unB(n:Nat):List Int:=a00 n 0++[1]
theorem a6d{v n:Nat}(h:n<=63)(hv:v<2^n)(L:List Int):a0E (v:Int) n L=L++pb (v:Int) n:=by
 grind[a0E,a5G,a46]
def b4K(k:Nat)(x:Int):List Int:=
 if a1b x / 2^k<32 then unB (a1b x / 2^k)++pb ((a1b x%2^k:Nat):Int) k else unB 32++pb ((a1b x:Nat):Int) 32
theorem e1n(f:k<=25)(g:a0i x=true)(L:List Int):b1Z k x L=L++b4K k x:=by
 have h:=c0o g;unfold b1Z b4K;split;rw[a6d (by omega) (a48 _ (a16 k))];simp[unL,unB]
 grind[a6d,unL,unB]
theorem d0z(f:a0i x=true):a5i ((a1b x:Nat):Int)=some x:=by
 have b:=c0o f;have d:=a3G.1 f;have c:a62 ((a1b x:Nat):Int) 2=((a1b x:Nat):Int)%2:=a45 (by omega);have a:a76 ((a1b x:Nat):Int) 2=((a1b x:Nat):Int) / 2:=a44 (by omega);have k:decide (((a1b x:Nat):Int)>=2147483648)=false:=by grind
 unfold a5i;simp only[k,cF,c,a]
 by_cases h0:0<=x
 have e:((a1b x:Nat):Int)=2*x:=by unfold a1b;grind
 rw[e];have h:((2*x)%2==(0:Int))=true:=by simp
 have g:2*x / 2=x:=by omega
 simp only[h,cT,g]
 grind[a0p,a0c]
 have e:((a1b x:Nat):Int)=-2*x-1:=by unfold a1b;grind
 rw[e];have h:((-2*x-1)%2==(0:Int))=false:=by grind
 have g:(-2*x-1) / 2=-x-1:=by omega
 simp only[h,cF,g]
 grind[a0p,a0c]
def b9p(k:Nat)(l:List Int):List Int:=l.flatMap (b4K k)
theorem c7Z{k:Nat}(g:k<=25):∀(l L:List Int),l.all a0i=true->a9d k l L=L++b9p k l
 | [],L,_=>by simp[a9d,b9p]
 |x::l,L,h=>by
  simp only[a25,bA9]at h;show a9d k l (b1Z k x L)=_;rw[c7Z g l _ h.2,e1n g h.1];simp[b9p]
def sB(n:Nat)(l:List Int):List Int:=l.flatMap fun x=>pb (a5d x n) n
theorem b2E{n:Nat}(g:n<=62):∀(l L:List Int),a5e n l L=L++sB n l
 | [],L=>by simp[a5e,sB]
 |x::l,L=>by
  show a5e n l (a0E (a5d x n) n L)=_;obtain⟨v,hv,h,-⟩:=b7U g x;rw[b2E g l,hv,a6d (by omega) h,<-hv];simp[sB]
def b7V(k:Int)(part:List Int):List Int:=if k=31 then pb 31 5++(pb ((a0r part:Nat):Int) 5++sB (a0r part) part)else pb k 5++b9p k.toNat part
theorem e1o{k:Int}(h:kB k=true){part:List Int}(g:part.all a0i=true)(L:List Int):b4J k part L=L++b7V k part:=by
 have f:=b1y g;simp[kB]at h;obtain⟨K,rfl⟩:=a01 (show 0<=k by omega)
 grind[b4J,b7V,b0p,a6d,b2E,c7Z]
def a6u:List Nat->List Int->List Int->List Int
 |z::zs,k::ks,l=>b7V k (l.take z)++a6u zs ks (l.drop z)
 |_,_,_=>[]
theorem e1p(h:l.all a0i=true)(z:Nat):(l.take z).all a0i=true:=lA.2 fun x g=>lA.1 h x (a42 g)
theorem e1q(h:l.all a0i=true)(z:Nat):(l.drop z).all a0i=true:=lA.2 fun x g=>lA.1 h x (a33 g)
theorem c8a:∀(zs:List Nat)(ks l L:List Int),ks.all kB=true->l.all a0i=true->a7Y zs ks l L=L++a6u zs ks l
 |z::zs,k::ks,l,L,hk,hw=>by
  simp only[a25,bA9]at hk;simp only[a7Y,a6u];rw[c8a zs ks _ _ hk.2 (e1q hw z),e1o hk.1 (e1p hw z)]
  simp
 | [],_,_,L,_,_=>by simp[a7Y,a6u]
 |_::_,[],_,L,_,_=>by simp[a7Y,a6u]
theorem e1r(h:List Nat)(z:Nat)(g:List Nat):(a2o (h++z::g)).getD h.length 0=(z:Int):=by
 simp_all[a2o]
def a6X(p:Prt)(zn:List Nat)(l:List Int):List Int:=pb p.1 4++a6u zn p.2.1 l
theorem d1R{n:Int}(h:PartsOk p n warm l zn)(L:List Int):a8f p zn l L=L++a6X p zn l:=by
 obtain⟨o,f,u⟩:=p;have g:=h.order;simp only at g;obtain⟨O,rfl⟩:=a01 g.1;unfold a8f a6X;simp only;rw[b0p (by omega),a6d (n:=4) (by omega) (by omega),c8a _ _ _ _ h.all h.wide]
 simp
def b5f(s:Sub):List Int:=
 pb ((s.2.2.2.2.2.1.length-1:Nat):Int) 5++(pb s.2.2.2.1 4++(pb ((a0r s.2.2.2.2.2.1:Nat):Int) 5++sB (a0r s.2.2.2.2.2.1) s.2.2.2.2.2.1))
theorem d0A{c:List Int}{t:Int}(h:b0l c t=true):1<=c.length/\c.length<=32/\0<=t/\t<=15/\c.all a0i=true:=by
 simp only[b0l,bA9,dT]at h;obtain⟨g,f,k,a,b⟩:=h;refine⟨g,f,k,a,lA.2 fun x d=>?_⟩
 have:=lA.1 b x d
 simp[b7N]at this;rw[a3G];omega
theorem c8b{s:Sub}(h:b0l s.2.2.2.2.2.1 s.2.2.2.1=true)(L:List Int):b1x s L=L++b5f s:=by
 obtain⟨a,b,g,d,f⟩:=d0A h;have k:=b1y f;unfold b1x b5f;generalize s.2.2.2.2.2.1=c at *;generalize s.2.2.2.1=t at *;obtain⟨T,rfl⟩:=a01 g
 grind[a0c,a0p,b2E,a6d]
def b8F(s:Sub)(c:List Int):Sub:=(s.1,s.2.1,s.2.2.1,s.2.2.2.1,s.2.2.2.2.1,c,s.2.2.2.2.2.2)
def c5Z(s:Sub)(t:Int):Sub:=(s.1,s.2.1,s.2.2.1,t,s.2.2.2.2)
def c2P(st:List Stg):List Int:=st.flatMap fun g=>pb (g.1-1) 5++pb g.2.1 4
theorem d5Z{g:Stg}(h:Ab.stageB g=true):1<=g.1/\g.1<=32/\0<=g.2.1/\g.2.1<=8:=by
 simp_all[Ab.stageB]
theorem c4T:∀(st:List Stg)(L:List Int),st.all Ab.stageB=true->a7Z st L=L++c2P st
 | [],L,_=>by simp[a7Z,c2P]
 |g::st,L,h=>by
  simp only[a25,bA9]at h;obtain⟨k,c,f,d⟩:=d5Z h.1;show a7Z st (b3z g L)=_;rw[c4T st _ h.2];obtain⟨a,b,u⟩:=g;simp only at k c f d;obtain⟨B,rfl⟩:=a01 f;obtain⟨A,e⟩:=a01 (show 0<=a-1 by omega)
  grind[b3z,c0p,b0p,a6d,c2P]
def b2a(s:Sub):List Int:=
 if s.1=2 then pb s.2.2.1 3
 else if s.1=3 then b5f s
 else if s.1=4 then pb (s.2.2.2.2.1-1) 10++(sB 8 s.2.2.2.2.2.2.1++b5f s)
 else if s.1=5 then pb ((s.2.2.2.2.2.2.2.1.length:Nat):Int) 2++c2P s.2.2.2.2.2.2.2.1
 else[]
theorem d0B{n:Int}(h:b1g s.1 s n)(L:List Int):a4H s L=L++b2a s:=by
 unfold a4H b2a;rcases h with k|k|⟨k,g,f,-⟩|⟨k,g,-⟩|⟨k,g,-,a⟩|⟨k,g,f⟩
 grind
 grind
 rw[if_pos k,if_pos k]
 grind[a01,b0p,a6d]
 simp_all[c8b];rw[if_neg (by omega),if_neg (by omega),if_pos k,if_neg (by omega),if_neg (by omega),if_pos k,c8b g,b2E (by omega)];simp only[b4G,bA9,dT]at a;obtain⟨A,b⟩:=a01 (show 0<=s.2.2.2.2.1-1 by omega)
 grind[c0p,b0p,a6d]
 rw[if_neg (by omega),if_neg (by omega),if_neg (by omega),if_pos k,if_neg (by omega),if_neg (by omega),if_neg (by omega),if_pos k];simp only[b1w,bA9,dT]at f
 grind[c4T,b0p,a6d]
def b7W(s:Sub):List Int:=pb s.1 3++(pb s.2.1 5++pb ((a0r s.2.2.2.2.2.2.2.2.1:Nat):Int) 5)
theorem e1s(g:0<=s.1/\s.1<=5)(f:0<=s.2.1/\s.2.1<=30)(h:s.2.2.2.2.2.2.2.2.1.all a0i=true)(L:List Int):b7S s L=L++b7W s:=by
 grind[a01,b1y,b7S,b7W,b0p,a6d]
def bare(s:Sub):Sub:=(s.1,s.2.1,s.2.2.1,s.2.2.2.1,s.2.2.2.2.1,s.2.2.2.2.2.1,s.2.2.2.2.2.2.1,s.2.2.2.2.2.2.2.1,[],(0,[],()),[],())
def a4W(s:Sub)(zn:List Nat):List Int:=
 (b7W s++b2a s)++(sB (a0r s.2.2.2.2.2.2.2.2.1) s.2.2.2.2.2.2.2.2.1++if s.1=0\/s.1=1 then[]else a6X s.2.2.2.2.2.2.2.2.2.1 zn s.2.2.2.2.2.2.2.2.2.2.1)
theorem c4U{n:Int}(b:a2F s n)(d:s.1≠0/\s.1≠1->PartsOk s.2.2.2.2.2.2.2.2.2.1 n ((s.2.2.2.2.2.2.2.2.1.length:Nat):Int) s.2.2.2.2.2.2.2.2.2.2.1 zn)(L:List Int):
  a9k s zn L=L++a4W s zn:=by
 obtain⟨-,-,h,-,k,a,-,-,f,-⟩:=b;have c:=b1y f;have g:=e1s (c7Y h) ⟨k,a⟩ f L;unfold a9k a4W
 by_cases hk:s.1=0\/s.1=1
 rw[if_pos hk,if_pos hk,b2E (by omega),d0B h,g]
 simp
 rw[if_neg hk,if_neg hk,d1R (d (not_or.1 hk)),b2E (by omega),d0B h,g]
 simp
def a1F(s:Sub)(l:List Int):Sub:=(s.1,s.2.1,s.2.2.1,s.2.2.2.1,s.2.2.2.2.1,s.2.2.2.2.2.1,s.2.2.2.2.2.2.1,s.2.2.2.2.2.2.2.1,l,s.2.2.2.2.2.2.2.2.2)
theorem f1d(y:Int):bits .u64 .and y 1=y%2:=by
 have h:((a04 64 y) &&& (a04 64 1)).toNat=(y%18446744073709551616).toNat%2:=by
  simp
 show wrap .u64 ((((a04 64 y) &&& (a04 64 1)).toNat:Nat):Int)=_
 grind[a0p]
theorem a3i(v:Int):∀n,a1t (pb v n)
 |0=>fun b hb=>by cases hb
 |n+1=>fun b hb=>by
  rcases mC.1 hb with rfl|hb
  grind[a4c,f1d,a6U]
  exact a3i v n b hb
theorem d6O(n:Nat):a1t (unB n):=fun b hb=>by
 rcases mA.1 hb with hb|hb
 all_goals simp_all
theorem b7X{f:α->List Int}{l:List α}(h:∀x,a1t (f x)):a1t (l.flatMap f):=fun b hb=>by
 obtain⟨x,-,g⟩:=List.mem_flatMap.1 hb;exact h x b g
theorem e1t(k:Nat)(x:Int):a1t (b4K k x):=by
 unfold b4K;split;exact(d6O _).app (a3i _ _);exact(d6O _).app (a3i _ _)
theorem c3D(n:Nat)(l:List Int):a1t (sB n l):=b7X fun _=>a3i _ _
theorem e1u(k:Int)(l:List Int):a1t (b7V k l):=by
 unfold b7V;split;exact(a3i _ _).app ((a3i _ _).app (c3D _ _));exact(a3i _ _).app (b7X fun _=>e1t _ _)
theorem c0r:a1t []:=fun b hb=>by grind
theorem c8c:∀(zs:List Nat)(ks l:List Int),a1t (a6u zs ks l)
 |z::zs,k::ks,l=>by
  simp only[a6u];exact(e1u _ _).app (c8c zs ks _)
 | [],_,_=>by simp_all[a6u,c0r]
 |_::_,[],_=>by simp_all[a6u,c0r]
theorem c8d(s:Sub):a1t (b5f s):=(a3i _ _).app ((a3i _ _).app ((a3i _ _).app (c3D _ _)))
theorem e1v(s:Sub):a1t (b2a s):=by
 unfold b2a;split;exact a3i _ _;split;exact c8d s;split;exact(a3i _ _).app ((c3D _ _).app (c8d s));split;exact(a3i _ _).app (b7X fun _=>(a3i _ _).app (a3i _ _));exact c0r
theorem e3j(s:Sub)(h:List Nat):a1t (a4W s h):=by
 refine(((a3i _ _).app ((a3i _ _).app (a3i _ _))).app (e1v s)).app ((c3D _ _).app ?_);split;exact c0r;exact(a3i _ _).app (c8c _ _ _)
def a3w(n:Nat):List Int:=if h:n<128 then[(n:Int)]else((n%128+128:Nat):Int)::a3w (n / 128)
termination_by n
decreasing_by omega
theorem c3E{n:Nat}(h:n<128):a3w n=[(n:Int)]:=by rw[a3w,dif_pos h]
theorem c9I(h:¬ n<128):a3w n=((n%128+128:Nat):Int)::a3w (n / 128):=by rw[a3w,dif_neg h]
theorem c6a:∀(k n:Nat),n<128^(k+1)->1<=(a3w n).length/\(a3w n).length<=k+1
 |0,n,h=>by simp_all[c3E]
 |k+1,n,h=>by
  by_cases hn:n<128
  rw[c3E hn];simp;rw[c9I hn]
  have:=c6a k (n / 128) (by omega)
  simp_all
theorem b4i{α β γ:Type}(f:α->List γ):∀(l:List α)(a:List γ),a6j (β:=β) (fun a x=>.inl (a++f x)) l a=.inl (a++l.flatMap f)
 | [],a=>by simp[a6j]
 |x::l,a=>by simp only[a6j];rw[b4i f l];simp
def asI(ns:List Nat):List Int:=ns.map fun n:Nat=>(n:Int)
theorem orA(f:a<2^k)(c:b*2^k+a<18446744073709551616):bits .u64 .or (a:Int) ((b*2^k:Nat):Int)=((a+b*2^k:Nat):Int):=by
 show wrap .u64 (((a04 64 (a:Int) ||| a04 64 ((b*2^k:Nat):Int)).toNat:Nat):Int)=_;have g:(a04 64 (a:Int)).toNat=a:=by grind
 have h:(a04 64 ((b*2^k:Nat):Int)).toNat=b*2^k:=by grind[a67]
 grind[a40,a51,a0p]
def ord(P R:List Int):List Int×(Int×Int×Unit):=(P++R,(P.length:Int),(0:Int),())
def a8B(g:Int):Nat:=if 0<=g then(2*g).toNat else(-2*g-1).toNat
theorem e6g(h:-(m:Int)<=g/\g<=(m:Int)):a8B g<=2*m:=by
 grind[a8B]
theorem e1w{g:Int}(h:-100000<=g/\g<=100000):a3L ((a8B g:Nat):Int)=some g:=by
 unfold a3L;have f:a62 ((a8B g:Nat):Int) 2=((a8B g%2:Nat):Int):=rfl;have k:a76 ((a8B g:Nat):Int) 2=((a8B g / 2:Nat):Int):=rfl;rw[f,k];unfold a8B
 by_cases hg:0<=g
 rw[if_pos hg];have d:((((2*g).toNat%2:Nat):Int)==0)=true:=by grind
 rw[d,cT,a0p (by omega),a0c (by omega)]
 grind
 rw[if_neg hg];have d:((((-2*g-1).toNat%2:Nat):Int)==0)=false:=by grind
 rw[d,cF,a0p (by omega),a0c (n:=(((-2*g-1).toNat / 2:Nat):Int)) (by omega),a0c (n:=0-(((-2*g-1).toNat / 2:Nat):Int)) (by omega),a0c (by omega)]
 grind
def e8(s:Int):Int:=bif (a0v .u8 s 7)==(1:Int)then bits .u8 .xor (a0t .u8 s 1) 7 else a0t .u8 s 1
def e16(s:Int):Int:=bif (a0v .u16 s 15)==(1:Int)then bits .u16 .xor (a0t .u16 s 1) 32773 else a0t .u16 s 1
def rep{α:Type}(f:α->α):Nat->α->α
 |0,s=>s
 |n+1,s=>rep f n (f s)
def g8(s c:Int):Int:=rep e8 8 (bits .u8 .xor s c)
def g16(s c:Int):Int:=rep e16 8 (bits .u16 .xor s (a0t .u16 (wrap .u16 c) 8))
theorem c8e(l:List Int)(n i:Int):∀(j k:Nat)(s:Int),k+j=8->a0d b3a (s,l,n,i,(k:Int),())=some (rep e8 j s,l,n,i,())
 |0,k,s,h=>by
  obtain rfl:k=8:=by omega
  rfl
 |j+1,k,s,h=>by
  have d:decide ((k:Int)<8)=true:=by grind
  rw[a0k (s':=(e8 s,l,n,i,((k+1:Nat):Int),())) (by
   simp only[b3a,d,cT,a0b (show k<1000000 by omega),e8]
   grind)]
  exact c8e l n i j (k+1) (e8 s) (by omega)
theorem c2Q(l:List Int)(n i:Int):∀(j k:Nat)(s:Int),k+j=8->a0d b1b (s,l,n,i,(k:Int),())=some (rep e16 j s,l,n,i,())
 |0,k,s,h=>by
  obtain rfl:k=8:=by omega
  rfl
 |j+1,k,s,h=>by
  have d:decide ((k:Int)<8)=true:=by grind
  rw[a0k (s':=(e16 s,l,n,i,((k+1:Nat):Int),())) (by
   simp only[b1b,d,cT,a0b (show k<1000000 by omega),e16]
   grind)]
  exact c2Q l n i j (k+1) (e16 s) (by omega)
def c0s(l:List Int):Int:=l.foldl g8 0
def b2b(l:List Int):Int:=l.foldl g16 0
theorem e3k(h:short l):b3b l=some (c0s l):=by
 have:=a1S (f:=a9v) (β:=Int×Unit) l (fun i (a:Int)=>(a,l,(l.length:Int),(i:Int),())) (fun a x=>.inl (g8 a x)) (fun _ _=>True) (fun a=>(a,()))
  (fun i hi a _=>⟨fun k g=>by
   simp at g;subst g
   have:=c8e l (l.length:Int) (i:Int) 8 0 (bits .u8 .xor a l[i]) rfl
   simp at this;refine⟨?_,trivial⟩;simp only[a9v,dlt hi,cT,a0e hi,oB,this,a0b (a07 hi h),g8],fun b hb=>by grind⟩)
  (fun a c=>by simp_all[a9v]) (a:=0) trivial
 unfold b3b;simp at this;rw[this,b7d];rfl
theorem d9x(h:short l):b0E l=some (b2b l):=by
 have:=a1S (f:=a7j) (β:=Int×Unit) l (fun i (a:Int)=>(a,l,(l.length:Int),(i:Int),())) (fun a x=>.inl (g16 a x)) (fun _ _=>True) (fun a=>(a,()))
  (fun i hi a _=>⟨fun k g=>by
   simp at g;subst g
   have:=c2Q l (l.length:Int) (i:Int) 8 0 (bits .u16 .xor a (a0t .u16 (wrap .u16 l[i]) 8)) rfl
   simp at this;refine⟨?_,trivial⟩;simp only[a7j,dlt hi,cT,a0e hi,oB,this,a0b (a07 hi h),g16],fun b hb=>by grind⟩)
  (fun a c=>by simp_all[a7j]) (a:=0) trivial
 unfold b0E;simp at this;rw[this,b7d];rfl
theorem b4j(n:Int):wrap .u16 n=n%65536:=by rfl
theorem e3l(s:Int):0<=e8 s/\e8 s<256:=by
 unfold e8;cases (a0v .u8 s 7==1:Bool);simp only[cF,a0t,a6U];omega;simp only[cT,bits,a6U];omega
theorem d0C(s:Int):0<=e16 s/\e16 s<65536:=by
 unfold e16;cases (a0v .u16 s 15==1:Bool);simp only[cF,a0t,b4j];omega;simp only[cT,bits,b4j];omega
theorem c4V(l:List Int):0<=b2b l/\b2b l<65536:=by
 unfold b2b;rcases a59 l with rfl|⟨L,b,rfl⟩
 simp
 rw[List.concat_eq_append,a70];exact d0C _
abbrev a0I:Type:=Int×(Int×(Int×Unit))
abbrev a0M:Type:=Int×(Int×(a0I×(List a0I×(List Sub×Unit))))
abbrev a1h:Type:=Int×(List (List Int)×Unit)
def a6l(n:Int)(s:a0I):Bool:=!(decide (s.1<0) || decide (s.1>=n) || decide (s.2.1<0) || decide (s.2.1>=n) || s.1==s.2.1)&&!(decide (s.2.2.1 < -1024) || decide (s.2.2.1 > 1024))
theorem b0r{n:Int}{s:a0I}:a6l n s=true↔0<=s.1/\s.1<n/\0<=s.2.1/\s.2.1<n/\s.1≠s.2.1/\-1024<=s.2.2.1/\s.2.2.1<=1024:=by
 simp only[a6l,bA9,a98,Bool.or_eq_false_iff,decide_eq_false_iff_not,beq_eq_false_iff_ne];omega
def b1h(l:List a0I)(n:Int):Prop:=1<=n/\n<=8/\l.length<=16/\l.all (a6l n)=true
instance (l:List a0I) (n:Int):Decidable (b1h l n):=by unfold b1h;infer_instance
theorem c4W(l:List a0I)(n:Int):b2S (l,n)=some (decide (b1h l n)):=by
 unfold b2S b1h
 by_cases h1:n<1
 grind
 by_cases h2:n > 8
 grind
 by_cases h3:((l.length:Nat):Int) > 16
 grind
 have g:=a1r (f:=a8N) (β:=Unit ⊕ (Bool×Unit)) l (fun i=>(n,l,(l.length:Int),(i:Int),())) (a6l n) (bt:=Sum.inl ()) (bf:=Sum.inr (false,()))
  (fun i h hp=>by
   obtain⟨a1,m,o,p,q,r,s⟩:=b0r.1 hp;have k:decide (l[i].1<0)=false:=by simp_all
   have a:decide (l[i].1>=n)=false:=by simp_all
   have b:decide (l[i].2.1<0)=false:=by simp_all
   have c:decide (l[i].2.1>=n)=false:=by simp_all
   have d:(l[i].1==l[i].2.1)=false:=by simp_all
   have e:decide (l[i].2.2.1 < -1024)=false:=by simp_all
   have j:decide (l[i].2.2.1 > 1024)=false:=by simp_all
   simp only[a8N,dlt h,cT,a0e h,oB,k,a,b,c,d,e,j,cF,a0b (show i<1000000 by omega)])
  (fun i h hp=>by
   simp only[a8N,dlt h,cT,a0e h,oB]
   grind[a6l])
  (by simp[a8N])
 grind
def b2u(f:a0I):Prop:=1<=f.1/\f.1<=1048576/\1<=f.2.1/\f.2.1<=8/\4<=f.2.2.1/\f.2.2.1<=24
instance (f:a0I):Decidable (b2u f):=by unfold b2u;infer_instance
theorem b9q(f:a0I):a8L f=some (decide (b2u f)):=by
 unfold a8L a8K b2u
 grind
def frP(f:a0M):Prop:=b2u f.2.2.1/\1<=f.2.1/\f.2.1<=4096/\0<=f.1/\f.1<=4194304-f.2.1/\b1h f.2.2.2.1 f.2.2.1.2.1
instance (f:a0M):Decidable (frP f):=by unfold frP;infer_instance
theorem b9r(f:a0M):a8O f=some (decide (frP f)):=by
 unfold a8O frP;rw[b9q,c4W]
 by_cases h1:b2u f.2.2.1<;>by_cases h2:1<=f.2.1<;>by_cases h3:f.2.1<=4096<;>by_cases h4:0<=f.1<;>simp[h1,h2,h3,h4]
 have h:wrap .i64 ((4194304:Int)-f.2.1)=4194304-f.2.1:=a0c (by omega);rw[h]
 grind
def b9s(s:a0I):List Nat:=[s.1.toNat,s.2.1.toNat,a8B s.2.2.1]
def b2c(s:a0I):List Int:=a3w s.1.toNat++(a3w s.2.1.toNat++a3w (a8B s.2.2.1))
def hb(f:a0M)(body:Nat):List Int:=
 [245,75]++(a3w f.1.toNat++(a3w f.2.1.toNat++(a3w f.2.2.1.1.toNat++(a3w f.2.2.1.2.1.toNat++(a3w f.2.2.1.2.2.1.toNat++(a3w f.2.2.2.1.length++(f.2.2.2.1.flatMap b2c++a3w body)))))))
def c2R(f:a0M)(body:Nat):List Int:=hb f body++[c0s (hb f body)]
theorem b0W{n:Nat}(h:n<9223372036854775808):1<=(a3w n).length/\(a3w n).length<=9:=c6a 8 n (by omega)
theorem d0D{n:Int}(g:n<=8){s:a0I}(h:a6l n s=true):(b2c s).length<=27:=by
 grind[b0r,b0W,a8B,b2c]
theorem c2S{n:Int}(g:n<=8):∀(l:List a0I),l.all (a6l n)=true->(l.flatMap b2c).length<=27*l.length
 | [],_=>by simp
 |s::l,h=>by
  simp only[a25,bA9]at h
  have:=d0D g h.1
  have:=c2S g l h.2
  simp only[List.flatMap_cons,lN,lC];omega
theorem d4b{f:a0M}(g:frP f){body:Nat}(h:body<=1048576):2<=(hb f body).length/\(hb f body).length<=600:=by
 obtain⟨⟨q,r2,k,a,b,c⟩,l1,l2,s1,s2,m1,m2,m3,m4⟩:=g;have d:=b0W (n:=f.1.toNat) (by omega);have e:=b0W (n:=f.2.1.toNat) (by omega);have i:=b0W (n:=f.2.2.1.1.toNat) (by omega);have j:=b0W (n:=f.2.2.1.2.1.toNat) (by omega);have l:=b0W (n:=f.2.2.1.2.2.1.toNat) (by omega);have m:=b0W (n:=f.2.2.2.1.length) (by omega);have o:=b0W (n:=body) (by omega);have p:=c2S m2 _ m4;simp only[hb,lN,lC,a19];omega
abbrev PZ:Type:=Sub×List Nat
def c6b(n:Int)(p:PZ):Prop:=SmallS p.1/\(a2J p.1 n).isSome=true/\(p.1.1≠0/\p.1.1≠1->PartsOk p.1.2.2.2.2.2.2.2.2.2.1 n ((p.1.2.2.2.2.2.2.2.2.1.length:Nat):Int) p.1.2.2.2.2.2.2.2.2.2.2.1 p.2)
def a1W(l:List PZ):List Int:=l.flatMap fun p=>a4W p.1 p.2
theorem e1x(l:List PZ):a1t (a1W l):=b7X fun _=>e3j _ _
def d4c(k:Nat):Nat:=(8-k%8)%8
def d4d(L:List Int):List Int:=L++a00 (d4c L.length) 0
def a9P(L:List Int):List Int:=(wL (d4d L)).1
theorem d0E(L:List Int):(a9P L).length=(L.length+7) / 8/\8*(a9P L).length=(d4d L).length:=by
 grind[a7g,d4d,a9P,d4c]
def b7e(f:a0M)(L:List Int):List Int:=c2R f (a9P L).length++a9P L
def b7f(f:a0M)(L:List Int):List Int:=b7e f L++[b2b (b7e f L) / 256,b2b (b7e f L)%256]
theorem e3m{f:a0M}(g:frP f)(h:L.length<=5600000):(b7e f L).length<=700700/\(a9P L).length<=700000:=by
 grind[d0E,d4b,b7e,c2R]
def a4q(f:a0M)(l:List Sub):a0M:=(f.1,f.2.1,f.2.2.1,f.2.2.2.1,l,())
theorem f4U{v:Int}(h:0<=v/\v<65536):bits .u16 .or (a0t .u16 (wrap .u16 (v / 256)) 8) (wrap .u16 (v%256))=v:=by
 rw[b4j,b4j];have e:a0t .u16 (v / 256%65536) 8=((v.toNat / 256*256:Nat):Int):=by
  show wrap .u16 (v / 256%65536*256)=_;rw[b4j];omega
 rw[e];have g:v%256%65536=((v.toNat%256:Nat):Int):=by omega
 rw[g];show wrap .u16 (((a04 16 ((v.toNat / 256*256:Nat):Int) ||| a04 16 ((v.toNat%256:Nat):Int)).toNat:Nat):Int)=_;have f:(a04 16 ((v.toNat / 256*256:Nat):Int)).toNat=v.toNat / 256*256:=by rw[a67];omega
 have k:(a04 16 ((v.toNat%256:Nat):Int)).toNat=v.toNat%256:=by rw[a67];omega
 rw[a77,f,k];have e:v.toNat / 256*256 ||| v.toNat%256=v.toNat / 256*256+v.toNat%256:=by
  have:=a40 (i:=8) (b:=v.toNat%256) (by omega) (v.toNat / 256)
  rw[show 2^8*(v.toNat / 256)=v.toNat / 256*256 from by omega]at this;exact this.symm
 rw[e,b4j];omega
theorem b7g(x:Int):b1q x=some (a0i x):=by
 grind[b1q,a0i]
def a4d(c:List (List Int)):Prop:=1<=c.length/\c.length<=8/\(c.headD []).length<=4096/\c.all (fun r=>decide (r.length=(c.headD []).length)&&r.all a0i)=true
instance (c:List (List Int)):Decidable (a4d c):=by unfold a4d;infer_instance
theorem b0s{l:List α}{d:α}(h:0<l.length):l[0]=l.headD d:=by
 cases l with
 |nil=>grind
 |cons a l=>rfl
theorem e6h(c:List (List Int)):b4t c=some (decide (a4d c)):=by
 unfold b4t
 by_cases h1:((c.length:Nat):Int)<1
 have:¬ a4d c:=fun h=>by have:=h.1;omega
 simp_all
 by_cases h2:((c.length:Nat):Int) > 8
 have:¬ a4d c:=fun h=>by have:=h.2.1;omega
 simp_all;have b:0<c.length:=by omega
 have a:a0m c 0=some (c.headD []):=by rw[show(0:Int)=((0:Nat):Int)from rfl,a0e b,b0s (d:=[]) b]
 have l:decide (((c.length:Nat):Int)<1)=false:=by simp_all
 have m:decide (((c.length:Nat):Int) > 8)=false:=by simp_all
 simp only[l,m,cF,a,oB]
 by_cases h3:(((c.headD []).length:Nat):Int) > 4096
 rw[decide_eq_true h3,decide_eq_false (show ¬ a4d c from fun h=>by have:=h.2.2.1;omega)];rfl;have n:decide ((((c.headD []).length:Nat):Int) > 4096)=false:=by simp_all
 simp only[n,cF];have g:∀(i:Nat)(r:List Int),short r->a0d a5N (c,c,(c.length:Int),(i:Int),r,(r.length:Int),(0:Int),())=some (bif r.all a0i then Sum.inl (c,c,(c.length:Int),(i:Int),())else Sum.inr (false,())):=fun i r s=>by
  have:=a1r (f:=a5N) r (fun j=>(c,c,(c.length:Int),(i:Int),r,(r.length:Int),(j:Int),())) a0i (bt:=Sum.inl (c,c,(c.length:Int),(i:Int),())) (bf:=Sum.inr (false,()))
   (fun j h hp=>by simp only[a5N,dlt h,cT,a0e h,oB,b7g,hp,bT,cF,a0b (a07 h s)])
   (fun j h hp=>by simp_all[a5N,a0e,b7g])
   (by simp_all[a5N])
  omega
 have k:=a1r (f:=a5O) c (fun i=>(c,c,(c.length:Int),(i:Int),())) (fun r=>decide (r.length=(c.headD []).length)&&r.all a0i) (bt:=Sum.inl ()) (bf:=Sum.inr (false,()))
  (fun i h hp=>by
   simp only[bA9,dT]at hp;have e:((((c[i]).length:Nat):Int) != (((c.headD []).length:Nat):Int))=false:=by simp_all
   have hi:=g i c[i] (by unfold short;omega);rw[hp.2,cT]at hi;simp only[a5O,dlt h,cT,a0e h,oB,a,e,cF,hi,a0b (show i<1000000 by omega)])
  (fun i h hp=>by
   by_cases hl:(c[i]).length=(c.headD []).length
   have e:((((c[i]).length:Nat):Int) != (((c.headD []).length:Nat):Int))=false:=by simp_all
   have hi:=g i c[i] (by unfold short;omega);rw[decide_eq_true hl,a22]at hp;rw[hp,cF]at hi;simp_all[a5O,a0e];have e:((((c[i]).length:Nat):Int) != (((c.headD []).length:Nat):Int))=true:=by grind
   simp only[a5O,dlt h,cT,a0e h,oB,a,e])
  (by simp_all[a5O])
 simp only[nZ]at k;rw[k];have o:1<=c.length:=by omega
 have p:c.length<=8:=by omega
 have q:(c.headD []).length<=4096:=by omega
 by_cases hA:c.all (fun r=>decide (r.length=(c.headD []).length)&&r.all a0i)=true
 rw[hA,decide_eq_true (show a4d c from⟨o,p,q,hA⟩)];rfl;rw[a54.2 hA,decide_eq_false (show ¬ a4d c from fun h=>hA h.2.2.2)];rfl
def a7z(c:List (List Int))(n:Nat):Prop:=∀r∈c,r.length=n/\r.all a0i=true
theorem c3F(h:a4d c):a7z c (c.headD []).length:=fun r g=>by
 have:=lA.1 h.2.2.2 r g
 simp_all
theorem e3n{c:List (List Int)}{n:Nat}(h:a7z c n)(g:1<=c.length)(f:c.length<=8)(b:n<=4096):a4d c:=by
 have a:(c.headD []).length=n:=by
  rw[<-b0s (d:=[]) (show 0<c.length by omega)];exact(h _ (a05 _)).1
 refine⟨g,f,by omega,lA.2 fun r k=>?_⟩
 have:=h r k
 simp_all
theorem e1y(h:a7z c n)(l:n<=5000)(j:c.length<=100):b1M c=some c:=by
 have:=a1S (f:=a8o) (β:=List (List Int)×Unit) c (fun i (a:List (List Int))=>(c,(c.length:Int),(i:Int),a,())) (fun a x=>.inl (a++[x])) (fun i a=>a.length=i) (fun a=>(a,()))
  (fun i hi a k=>⟨fun e g=>by
   simp at g;subst g;have m:=(h _ (a05 hi)).1;have d:∀y:List Int,a78 ([([]:List Int)]:List (List Int)) 0 y=[y]:=fun _=>rfl;refine⟨?_,by grind⟩;simp only[a8o,dlt hi,cT,a0e hi,oB,c5U (show short c[i]by unfold short;omega),d];rw[a0H (by grind),cT,a0b (show i<1000000 by omega)];rfl,fun b hb=>by grind⟩)
  (fun a k=>by simp_all[a8o]) (a:=[]) rfl
 simp_all[b4i,b1M,b6R]
def a4I(sign g:Int)(x y:Int):Int:=y+sign*(g*x / 256)
def b4k(sign g:Int)(xs ys:List Int):List Int:=a23 (a4I sign g) xs ys
theorem e3o(sign g:Int){xs ys:List Int}(h:xs.length=ys.length):(b4k sign g xs ys).length=ys.length:=by simp[b4k,h]
theorem d4e{y:Int}(b:sign=1\/sign=-1)(c:-1024<=g/\g<=1024)(k:a0i x=true)(a:a0i y=true):
  wrap .i64 (y+wrap .i64 (sign*a0v .i64 (wrap .i64 (g*x)) 8))=a4I sign g x y:=by
 have k:=a3G.1 k;have a:=a3G.1 a;have f:-1099511627776<=g*x/\g*x<=1099511627776:=by
  have f:g.natAbs<=1024:=by omega
  have h:x.natAbs<=1073741824:=by omega
  have:=a39 f h
  rw[<-Int.natAbs_mul]at this;omega
 rw[a0c (n:=g*x) (by omega)];have h:a0v .i64 (g*x) 8=g*x / 256:=by
  unfold a0v;show(g*x).fdiv (2^8)=_
  grind
 rw[h];unfold a4I;rcases b with rfl|rfl
 all_goals grind[a0c]
theorem d6a(c:List α)(h:a≠b)(y d:α):(c.set b y).getD a d=c.getD a d:=by
 grind
theorem c4X(c:List α)(h:b<c.length)(y d:α):(c.set b y).getD b d=y:=by
 simp_all
theorem c8f{c:List (List Int)}{s:a0I}{sign:Int}(g:sign=1\/sign=-1)(b:-1024<=s.2.2.1/\s.2.2.1<=1024)(a0:0<=s.1)(i:0<=s.2.1)(f:s.1.toNat≠s.2.1.toNat)(hb:s.2.1.toNat<c.length)(k:s.2.1<(c.length:Int))
  {xs:List Int}(a:c.getD s.1.toNat []=xs)(w:xs.length<=5000):∀(sx suf px pre:List Int),px++sx=xs->px.length=pre.length->sx.length=suf.length->sx.all a0i=true->suf.all a0i=true->
  if(b4k sign s.2.2.1 sx suf).all a0i=true then
   a0d a4Z (sign,(xs.length:Int),(pre.length:Int),c.set s.2.1.toNat (pre++suf),s,((s.1.toNat:Nat):Int),())=some (.inl (c.set s.2.1.toNat (pre++b4k sign s.2.2.1 sx suf),()))
  else ∃c',a0d a4Z (sign,(xs.length:Int),(pre.length:Int),c.set s.2.1.toNat (pre++suf),s,((s.1.toNat:Nat):Int),())=some (.inr (false,c',()))
 | [],suf,px,pre,hx,hp,hl,_,_=>by
  have e:suf=[]:=a35.1 hl.symm;subst e;have p:pre.length=xs.length:=by simp_all
  rw[if_pos (by rfl),p];exact a0g (by simp only[a4Z,dge,cF];rfl)
 |x::sx,[],px,pre,_,_,hl,_,_=>by simp_all
 |x::sx,y::suf,px,pre,hx,hp,hl,hwx,hwy=>by
  simp only[a25,bA9]at hwx hwy;have v:pre.length<xs.length:=by grind
  have q:(c.set s.2.1.toNat (pre++y::suf)).getD (a24 ((s.1.toNat:Nat):Int)) []=xs:=by grind
  have r:(c.set s.2.1.toNat (pre++y::suf)).getD s.2.1.toNat []=pre++y::suf:=c4X _ hb _ _;have t:a37 xs (a24 (pre.length:Int)) 0=x:=by grind
  have u:a37 (pre++y::suf) (a24 (pre.length:Int)) 0=y:=by simp
  have j:decide ((0:Int)<=(pre.length:Int))=true:=by simp
  have l:decide ((pre.length:Int)<(xs.length:Int))=true:=by simp_all
  have m:decide ((0:Int)<=s.2.1)=true:=by simp_all
  have n:decide (s.2.1<(((c.set s.2.1.toNat (pre++y::suf)).length:Nat):Int))=true:=by simp_all
  have o:decide ((pre.length:Int)<(((pre++y::suf).length:Nat):Int))=true:=by grind
  have hv:=d4e g b hwx.1 hwy.1;have z:wrap .i64 ((pre.length:Int)+1)=((pre.length+1:Nat):Int):=a0b (by omega);have A:b4k sign s.2.2.1 (x::sx) (y::suf)=a4I sign s.2.2.1 x y::b4k sign s.2.2.1 sx suf:=rfl;have d:a78 (c.set s.2.1.toNat (pre++y::suf)) s.2.1.toNat (a78 (pre++y::suf) (a24 (pre.length:Int)) (a4I sign s.2.2.1 x y))=c.set s.2.1.toNat ((pre++[a4I sign s.2.2.1 x y])++suf):=by
   simp
  have h:a4Z (sign,(xs.length:Int),(pre.length:Int),c.set s.2.1.toNat (pre++y::suf),s,((s.1.toNat:Nat):Int),()) =
    bif !(a0i (a4I sign s.2.2.1 x y))then some (.inr (Sum.inr (false,c.set s.2.1.toNat (pre++y::suf),())))
    else some (.inl (sign,(xs.length:Int),((pre.length+1:Nat):Int),c.set s.2.1.toNat ((pre++[a4I sign s.2.2.1 x y])++suf),s,((s.1.toNat:Nat):Int),())):=by
   simp only[a4Z,l,cT,q,r,j,a02,m,n,o,t,u,b7g,hv,oB,z]
   simp
  cases hwv:a0i (a4I sign s.2.2.1 x y)with
  |false=>
   simp_all[a0g]
  |true=>
   rw[hwv]at h;have B:=c8f g b a0 i f hb k a w sx suf (px++[x]) (pre++[a4I sign s.2.2.1 x y]) (by simp_all) (by grind) (by simp_all) hwx.2 hwy.2;rw[a0k h,A];simp_all
def b0X(sign:Int)(s:a0I)(c:List (List Int)):Option (List (List Int)):=
 let r:=b4k sign s.2.2.1 (c.getD s.1.toNat []) (c.getD s.2.1.toNat [])
 if r.all a0i=true then some (c.set s.2.1.toNat r)else none
theorem b0t{c:List (List Int)}{n:Nat}(h:a7z c n){i:Nat}(hi:i<c.length):(c.getD i []).length=n/\(c.getD i []).all a0i=true:=by
 rw[lD,lG hi];exact h _ (a05 hi)
theorem e3p(a:a7z c n)(w:n<=5000){s:a0I}(p:a6l (c.length:Int) s=true)(k:sign=1\/sign=-1):
  ∃b f,b2Z (c,s,sign)=some (b,f)/\match b0X sign s c with|some r=>b=true/\f=r|none=>b=false:=by
 obtain⟨a1,u,d,e,v,j,l⟩:=b0r.1 p;have q:=b0t a (i:=s.1.toNat) (by omega);have t:=b0t a (i:=s.2.1.toNat) (by omega);have hb:s.2.1.toNat<c.length:=by omega
 have g:c.set s.2.1.toNat (c.getD s.2.1.toNat [])=c:=by
  simp_all
 have:=c8f k ⟨j,l⟩ a1 d (by omega) hb e (rfl:c.getD s.1.toNat []=_) (by omega) (c.getD s.1.toNat []) (c.getD s.2.1.toNat []) [] [] rfl rfl (by omega) q.2 t.2
 rw[a09,g]at this;simp only[a19,nZ,a09,a50]at this;have m:decide ((0:Int)<=s.1)=true:=by simp_all
 have o:decide (s.1<(c.length:Int))=true:=by simp_all
 unfold b2Z b0X;simp only[m,o,a02,cT]
 by_cases hA:(b4k sign s.2.2.1 (c.getD s.1.toNat []) (c.getD s.2.1.toNat [])).all a0i=true
 simp_all;rw[if_neg hA]at this|-;obtain⟨f,h⟩:=this;simp_all
theorem c0t{c c':List (List Int)}{n:Nat}(g:a7z c n){s:a0I}(k:a6l (c.length:Int) s=true){sign:Int}(h:b0X sign s c=some c'):a7z c' n/\c'.length=c.length:=by
 obtain⟨a1,a,b,d,e,j,l⟩:=b0r.1 k;have o:=b0t g (i:=s.1.toNat) (by omega);have p:=b0t g (i:=s.2.1.toNat) (by omega);unfold b0X at h;simp only at h
 split at h
 rename_i m;cases h;refine⟨fun r f=>?_,by simp⟩;rcases List.mem_or_eq_of_mem_set f with f|rfl;exact g r f;simp_all[e3o];simp_all
def a8C:List a0I->List (List Int)->Option (List (List Int))
 | [],c=>some c
 |s::l,c=>(a8C l c).bind (b0X (-1) s)
theorem c2T{n:Nat}{N:Nat}:∀(l:List a0I){c c':List (List Int)},a7z c n->c.length=N->l.all (a6l (N:Int))=true->a8C l c=some c'->a7z c' n/\c'.length=N
 | [],c,c',hc,hl,_,h=>by cases h;simp_all
 |s::l,c,c',hc,hl,hs,h=>by
  simp only[a25,bA9]at hs;simp[a8C,a29]at h;obtain⟨d,g,f⟩:=h;obtain⟨k,a⟩:=c2T l hc hl hs.2 g
  grind[c0t]
def d9y:Option (List (List Int))->List (List Int)×Int
 |some r=>(r,0)
 |none=>([],6)
theorem c0u(s:a0I):∀(l:List a0I)(c:List (List Int)),a8C (l++[s]) c=(b0X (-1) s c).bind (a8C l)
 | [],c=>by
  show b0X (-1) s c=_;cases b0X (-1) s c<;>rfl
 |t::l,c=>by
  simp only[b00,a8C,c0u s l];cases b0X (-1) s c<;>rfl
theorem d0F{n N:Nat}(g:n<=5000){l:List a0I}(i:l.all (a6l (N:Int))=true)(z:List (List Int))(e:Int):∀(k:Nat)(c:List (List Int)),k<=l.length->a7z c n->c.length=N->
  match a8C (l.take k) c with
  |some r=>a8i a7K l k (l,z,e,c,())=some (.inl (l,z,e,r,()))
  |none=>∃d,a8i a7K l k (l,z,e,c,())=some (.inr (.ret,l,[],6,d,()))
 |0,c,_,_,_=>rfl
 |k+1,c,hk,hc,hcl=>by
  have hi:k<l.length:=by omega
  have f:a6l (c.length:Int) l[k]=true:=by grind
  obtain⟨b,a,m,h⟩:=e3p hc g f (sign:=-1) (.inr rfl);rw[a56 hi,c0u];cases hst:b0X (-1) l[k] c with
  |none=>
   simp_all[a8i,a7K]
  |some r=>
   rw[hst]at h;obtain⟨rfl,rfl⟩:=h;obtain⟨j,p⟩:=c0t hc f hst;have o:=d0F g i z e k a (by omega) j (by omega);simp_all[a8i,a7K]
theorem e6i(c:List (List Int))(l:List a0I):b4v (c,l)=some (if a4d c/\b1h l (c.length:Int)then d9y (a8C l c)else([],1)):=by
 unfold b4v;simp only[e6h,oB]
 by_cases hq:a4d c
 ·have h:=c3F hq;simp only[hq,decide_true,bT,cF,c4W,oB,true_and]
  by_cases hm:b1h l (c.length:Int)
  ·simp[hm];rw[e1y h (by have:=hq.2.2.1;omega) (by have:=hq.2.1;omega)]
   have:=d0F (N:=c.length) (by have:=hq.2.2.1;omega:(c.headD []).length<=5000) hm.2.2.2 [] 0 l.length c (a28 _) h rfl
   rw[a57]at this;simp[a0H (show l.length<2147483648 by have:=hm.2.2.1;omega)];cases hu:a8C l c with
   |some r=>
    rw[hu]at this;simp only at this
    erw[this]
    rfl
   |none=>
    rw[hu]at this;obtain⟨d,g⟩:=this
    erw[g]
    rfl
  simp_all
 simp_all
def a1e(b:a1h):Nat:=(b.2.1.headD []).length
theorem a8a(b:a1h):a5E b=some ((a1e b:Nat):Int):=by
 unfold a5E a1e;obtain⟨d,c,u⟩:=b;cases c with
 |nil=>rfl
 |cons r c=>
  rfl
def a2R(b:a1h):Prop:=4<=b.1/\b.1<=24/\1<=b.2.1.length/\b.2.1.length<=8/\1<=a1e b/\a1e b<=4096/\b.2.1.all (fun r=>decide (r.length=a1e b)&&r.all fun x=>a2B x b.1)=true
instance (b:a1h):Decidable (a2R b):=by unfold a2R;infer_instance
theorem c6c{x w:Int}(h:4<=w/\w<=24):a5h (x,w)=some (a2B x w):=by
 have:=b4g (x:=x) (w:=w.toNat) (by omega)
 grind
theorem b3A(b:a1h):a7d b=some (decide (a2R b)):=by
 unfold a7d a8K
 by_cases h1:4<=b.1
 rotate_left;rw[decide_eq_false (show ¬ a2R b from fun h=>h1 h.1),decide_eq_false h1];rfl
 by_cases h2:b.1<=24
 rotate_left;rw[decide_eq_false (show ¬ a2R b from fun h=>h2 h.2.1),decide_eq_true h1,decide_eq_false h2];rfl
 by_cases h3:((b.2.1.length:Nat):Int)<1
 rw[decide_eq_false (show ¬ a2R b from fun h=>by have:=h.2.2.1;omega),decide_eq_true h1,decide_eq_true h2,decide_eq_true h3];rfl
 by_cases h4:((b.2.1.length:Nat):Int) > 8
 rw[decide_eq_false (show ¬ a2R b from fun h=>by have:=h.2.2.2.1;omega),decide_eq_true h1,decide_eq_true h2,decide_eq_false h3,decide_eq_true h4];rfl;have a:decide (((b.2.1.length:Nat):Int)<1)=false:=by simp_all
 have c:decide (((b.2.1.length:Nat):Int) > 8)=false:=by simp_all
 simp only[decide_eq_true h1,decide_eq_true h2,a,c,cT,cF,oB,bT,a8a]
 by_cases h5:((a1e b:Nat):Int)<1
 rw[decide_eq_false (show ¬ a2R b from fun h=>by have:=h.2.2.2.2.1;omega),decide_eq_true h5];rfl
 by_cases h6:((a1e b:Nat):Int) > 4096
 rw[decide_eq_false (show ¬ a2R b from fun h=>by have:=h.2.2.2.2.2.1;omega),decide_eq_false h5,decide_eq_true h6];rfl;have d:decide (((a1e b:Nat):Int)<1)=false:=by simp_all
 have l:decide (((a1e b:Nat):Int) > 4096)=false:=by simp_all
 simp[d,l];have g:∀(i:Nat)(r:List Int),short r->a0d a5K (b.2.1,(b.2.1.length:Int),(i:Int),r,(r.length:Int),(0:Int),b,())=some (bif r.all (fun x=>a2B x b.1)then Sum.inl (b.2.1,(b.2.1.length:Int),(i:Int),b,())else Sum.inr (false,())):=fun i r m=>by
  have:=a1r (f:=a5K) r (fun j=>(b.2.1,(b.2.1.length:Int),(i:Int),r,(r.length:Int),(j:Int),b,())) (fun x=>a2B x b.1) (bt:=Sum.inl (b.2.1,(b.2.1.length:Int),(i:Int),b,())) (bf:=Sum.inr (false,()))
   (fun j h hp=>by simp only[a5K,dlt h,cT,a0e h,oB,c6c ⟨h1,h2⟩,hp,bT,cF,a0b (a07 h m)])
   (fun j h hp=>by simp_all[a5K,a0e,c6c])
   (by simp_all[a5K])
  omega
 have k:=a1r (f:=a5L) b.2.1 (fun i=>(b.2.1,(b.2.1.length:Int),(i:Int),b,())) (fun r=>decide (r.length=a1e b)&&r.all fun x=>a2B x b.1) (bt:=Sum.inl ()) (bf:=Sum.inr (false,()))
  (fun i h hp=>by
   simp only[bA9,dT]at hp;have e:((((b.2.1[i]).length:Nat):Int) != ((a1e b:Nat):Int))=false:=by simp_all
   have hi:=g i b.2.1[i] (by unfold short;omega);rw[hp.2,cT]at hi;simp only[a5L,dlt h,cT,a0e h,oB,a8a,e,cF,hi,a0b (show i<1000000 by omega)])
  (fun i h hp=>by
   by_cases hl:(b.2.1[i]).length=a1e b
   have e:((((b.2.1[i]).length:Nat):Int) != ((a1e b:Nat):Int))=false:=by simp_all
   have hi:=g i b.2.1[i] (by unfold short;omega);rw[decide_eq_true hl,a22]at hp;rw[hp,cF]at hi;simp_all[a5L,a0e,a8a];have e:((((b.2.1[i]).length:Nat):Int) != ((a1e b:Nat):Int))=true:=by grind
   simp only[a5L,dlt h,cT,a0e h,oB,a8a,e])
  (by simp_all[a5L])
 simp at k;rw[k]
 by_cases hA:b.2.1.all (fun r=>decide (r.length=a1e b)&&r.all fun x=>a2B x b.1)=true
 rw[hA,decide_eq_true (show a2R b from⟨h1,h2,by omega,by omega,by omega,by omega,hA⟩)];rfl;rw[a54.2 hA,decide_eq_false (show ¬ a2R b from fun h=>hA h.2.2.2.2.2.2)];rfl
def a9p{α β:Type}(g:α->Option β):List α->Option (List β)
 | []=>some []
 |a::l=>(g a).bind fun b=>(a9p g l).bind fun r=>some (b::r)
theorem d4f{α β:Type}{g:α->Option β}:∀{l:List α}{r:List β},a9p g l=some r->r.length=l.length
 | [],r,h=>by cases h;rfl
 |a::l,r,h=>by
  simp only[a9p,a29]at h;obtain⟨b,-,c,f,k⟩:=h;cases k;simp[d4f f]
theorem d0G{α β:Type}{g:α->Option β}:∀{l:List α}{r:List β},a9p g l=some r->∀a∈l,(g a).isSome=true
 | [],r,h,a,ha=>by cases ha
 |a::l,r,h,x,hx=>by
  simp only[a9p,a29]at h;obtain⟨b,f,d,k,c⟩:=h;rcases mC.1 hx with rfl|hx;rw[f];rfl;exact d0G k x hx
def a2O(f:a0M):Option a1h:=
 if frP f/\((f.2.2.2.2.1.length:Nat):Int)=f.2.2.1.2.1 then
  (a9p (fun s=>a2J s f.2.1) f.2.2.2.2.1).bind fun rs=>
   if a4d rs/\b1h f.2.2.2.1 (rs.length:Int)then
    (a8C f.2.2.2.1 rs).bind fun ch=>if a2R (f.2.2.1.2.2.1,ch,())then some (f.2.2.1.2.2.1,ch,())else none
   else none
 else none
def a8b:a1h:=(0,[],())
def f4V:Option a1h->a1h×Int
 |some b=>(b,0)
 |none=>(a8b,1)
theorem c4Y(f:a0M)(all:List Sub)(d:all.length<=8):∀(rest done:List Sub)(rows:List (List Int)),done++rest=all->rows.length=done.length->(∀s∈rest,SmallS s)->
  a0d a5V (all,(all.length:Int),(done.length:Int),rows,a8b,f,())=some (match a9p (fun s=>a2J s f.2.1) rest with|some rs=>Sum.inl (rows++rs,a8b,f,())|none=>Sum.inr (1,a8b,()))
 | [],done,rows,hd,hr,_=>by
  have e:done=all:=by simpa using hd
  subst e;rw[a0g (b:=Sum.inl (rows,a8b,f,())) (by simp only[a5V,dge,cF])];simp[a9p]
 |s::rest,done,rows,hd,hr,h=>by
  have i:=h s (by simp);have k:done.length<all.length:=by rw[<-hd];simp
  have a:a0m all (done.length:Int)=some s:=by rw[a0e k];subst hd;simp
  have g:=c7T i f.2.1;simp only[a9p];cases ho:a2J s f.2.1 with
  |none=>
   rw[ho]at g;have b1:((1:Int) != 0)=true:=rfl;exact a0g (by simp only[a5V,dlt k,cT,a,oB,g,b1];rfl)
  |some r=>
   rw[ho]at g;have c:((0:Int) != 0)=false:=rfl;rw[a0k (s':=(all,(all.length:Int),(((done++[s]).length:Nat):Int),rows++[r],a8b,f,())) (by
    simp only[a5V,dlt k,cT,a,oB,g,c,cF,a0H (show rows.length+1<2147483648 by omega),a0b (show done.length<1000000 by omega)]
    simp)]
   rw[c4Y f all d rest (done++[s]) (rows++[r]) (by simpa using hd) (by simp[hr]) (fun t j=>h t (by simp[j]))];simp only[oB];cases a9p (fun s=>a2J s f.2.1) rest<;>simp
theorem c6d{f:a0M}(b:∀s∈f.2.2.2.2.1,SmallS s):a4m f=some (f4V (a2O f)):=by
 unfold a4m a2O;simp only[b9r,oB]
 by_cases hf:frP f
 rotate_left;simp only[hf,decide_false,a15,cT,oB,false_and,if_false];rfl
 by_cases hl:((f.2.2.2.2.1.length:Nat):Int)=f.2.2.1.2.1
 rotate_left;have e:(((f.2.2.2.2.1.length:Nat):Int) != f.2.2.1.2.1)=true:=by simpa using hl
 simp only[hf,decide_true,bT,cF,oB,e,cT,hl,and_false,if_false];rfl;have e:(((f.2.2.2.2.1.length:Nat):Int) != f.2.2.1.2.1)=false:=by simpa using hl
 have a:f.2.2.2.2.1.length<=8:=by have:=hf.1.2.2.2.1;omega
 have k:decide ((0:Int)<=((f.2.2.2.2.1.length:Nat):Int))=true:=by simp
 have h:=c4Y f f.2.2.2.2.1 a f.2.2.2.2.1 [] [] rfl rfl b;rw[a19]at h;rw[if_pos ⟨hf,hl⟩];simp only[hf,decide_true,bT,cF,oB,e,k,tN,a0H (show f.2.2.2.2.1.length<2147483648 by omega),a02,cT]
 erw[h]
 cases hm:a9p (fun s=>a2J s f.2.1) f.2.2.2.2.1 with
 |none=>rfl
 |some rs=>
  simp only[oB,a09,e6i]
  by_cases hq:a4d rs/\b1h f.2.2.2.1 (rs.length:Int)
  ·simp only[if_pos hq];cases hu:a8C f.2.2.2.1 rs with
   |none=>rfl
   |some ch=>
    have g:((0:Int) != 0)=false:=rfl;simp only[d9y,g,cF,b3A,oB]
    by_cases hb:a2R (f.2.2.1.2.2.1,ch,())
    simp only[hb,decide_true,bT,cF,if_true];rfl;simp only[hb,decide_false,a15,cT,if_false];rfl
  simp only[if_neg hq];rfl
theorem e8u{f:a0M}(h:∀s∈f.2.2.2.2.1,SmallS s):b1r f=some (a2O f).isSome:=by
 unfold b1r;rw[c6d h];cases a2O f<;>rfl
theorem b3B{f:a0M}{b:a1h}(h:a2O f=some b):frP f/\((f.2.2.2.2.1.length:Nat):Int)=f.2.2.1.2.1/\∀s∈f.2.2.2.2.1,(a2J s f.2.1).isSome=true:=by
 unfold a2O at h
 split at h
 rename_i g;simp only[a29]at h;obtain⟨a,k,-⟩:=h;exact⟨g.1,g.2,d0G k⟩;cases h
theorem d4g(x:a0I):eqT (.pair (.int .i64) (.pair (.int .i64) (.pair (.int .i64) .unit))) x x=true:=by
 show((x.1==x.1)&&((x.2.1==x.2.1)&&((x.2.2.1==x.2.2.1)&&true)))=true
 simp
theorem c9J{x:List a0I}(h:x.length<1000000):a9L (x,x)=some true:=by
 unfold a9L
 have:=a1r (f:=a6S) (β:=Unit ⊕ (Bool×Unit)) x (fun i=>(x,x,(i:Int),())) (fun _=>true) (bt:=Sum.inl ()) (bf:=Sum.inr (false,()))
  (fun i hi _=>by simp only[a6S,dlt hi,cT,a0e hi,oB,d4g,bT,cF,a0b (show i<1000000 by omega)])
  (fun i hi hp=>by grind) (by simp_all[a6S])
 grind
theorem c9K{f:a0M}(g:∀s∈f.2.2.2.2.1,SmallS s)(h:f.2.2.2.1.length<1000000)(k:f.2.2.2.2.1.length<1000000):a9M (f,f)=some true:=by
 unfold a9M
 have:=a1r (f:=a6T) (β:=Unit ⊕ (Bool×Unit)) f.2.2.2.2.1 (fun i=>((i:Int),f,f,())) (fun _=>true) (bt:=Sum.inl ()) (bf:=Sum.inr (false,()))
  (fun i hi _=>by simp only[a6T,dlt hi,cT,a0e hi,oB,c7S (g _ (a05 hi)),decide_true,bT,cF,a0b (show i<1000000 by omega)])
  (fun i hi hp=>by grind) (by simp_all[a6T])
 simp at this;simp[d4g,c9J h]
 grind
theorem d4h:b1u c=some (decide (1<=c.length/\c.length<=8/\c.all (fun r=>decide (r.length=(c.headD []).length))=true)):=by
 unfold b1u
 by_cases h1:((c.length:Nat):Int)<1
 grind
 by_cases h2:((c.length:Nat):Int) > 8
 grind
 have h:0<c.length:=by omega
 have g:a0m c 0=some (c.headD []):=by rw[show(0:Int)=((0:Nat):Int)from rfl,a0e h,b0s (d:=[]) h]
 have:=a1r (f:=a7S) (β:=Unit ⊕ (Bool×Unit)) c (fun i=>(c,(i:Int),())) (fun r=>decide (r.length=(c.headD []).length)) (bt:=Sum.inl ()) (bf:=Sum.inr (false,()))
  (fun i hi hp=>by
   simp only[dT]at hp;have e:((((c[i]).length:Nat):Int) != (((c.headD []).length:Nat):Int))=false:=by simp_all
   simp only[a7S,dlt hi,cT,a0e hi,oB,g,e,cF,a0b (show i<1000000 by omega)])
  (fun i hi hp=>by
   simp only[decide_eq_false_iff_not]at hp;have e:((((c[i]).length:Nat):Int) != (((c.headD []).length:Nat):Int))=true:=by grind
   simp only[a7S,dlt hi,cT,a0e hi,oB,g,e]) (by simp_all[a7S])
 grind
theorem b7h{w:Int}(h:4<=w/\w<=24):b0k (x,w)=some (a2B x w):=by
 have:=b8C (x:=x) (w:=w.toNat) (by omega)
 grind
theorem b7Y(b:a1h):a7U b=some (decide (a2R b)):=by
 unfold a7U
 by_cases h1:b.1<4
 rw[decide_eq_true h1,decide_eq_false (fun h:a2R b=>by have:=h.1;omega)];rfl
 by_cases h2:b.1 > 24
 rw[decide_eq_false h1,decide_eq_true h2,decide_eq_false (fun h:a2R b=>by have:=h.2.1;omega)];rfl;simp only[decide_eq_false h1,decide_eq_false h2,cF,d4h,oB]
 by_cases h3:1<=b.2.1.length/\b.2.1.length<=8/\b.2.1.all (fun r=>decide (r.length=(b.2.1.headD []).length))=true
 rotate_left;rw[decide_eq_false h3,decide_eq_false (fun h:a2R b=>h3 ⟨h.2.2.1,h.2.2.2.1,lA.2 fun r a=>by
  have:=lA.1 h.2.2.2.2.2.2 r a
  simp only[bA9]at this;exact this.1⟩)];rfl
 have c:0<b.2.1.length:=by omega
 have e:a0m b.2.1 0=some (b.2.1.headD []):=by rw[show(0:Int)=((0:Nat):Int)from rfl,a0e c,b0s (d:=[]) c]
 simp only[decide_eq_true h3,bT,cF,e,oB]
 by_cases h4:(((b.2.1.headD []).length:Nat):Int)<1
 rw[decide_eq_true h4,decide_eq_false (fun h:a2R b=>by have:=h.2.2.2.2.1;grind[a1e])];rfl
 by_cases h5:(((b.2.1.headD []).length:Nat):Int) > 4096
 rw[decide_eq_false h4,decide_eq_true h5,decide_eq_false (fun h:a2R b=>by have:=h.2.2.2.2.2.1;grind[a1e])];rfl;simp only[decide_eq_false h4,decide_eq_false h5,cF,oB];have hb:4<=b.1/\b.1<=24:=by omega
 have g:∀(i:Nat)(hi:i<b.2.1.length),a0d a4l ((i:Int),(0:Int),b,())=some (bif (b.2.1[i]).all (fun x=>a2B x b.1)then Sum.inl ((i:Int),b,())else Sum.inr (false,())):=fun i hi=>by
  have n:(b.2.1[i]).length=(b.2.1.headD []).length:=by simp_all
  have:=a1r (f:=a4l) (β:=(Int×a1h×Unit) ⊕ (Bool×Unit)) b.2.1[i] (fun j=>((i:Int),(j:Int),b,())) (fun x=>a2B x b.1) (bt:=Sum.inl ((i:Int),b,())) (bf:=Sum.inr (false,()))
   (fun j h hp=>by simp only[a4l,a0e hi,oB,dlt h,cT,a0e h,b7h hb,hp,bT,cF,a0b (show j<1000000 by omega)])
   (fun j h hp=>by simp only[a4l,a0e hi,oB,dlt h,cT,a0e h,b7h hb,hp,a15])
   (by simp_all[a4l,a0e])
  omega
 have k:=a1r (f:=a5v) (β:=Unit ⊕ (Bool×Unit)) b.2.1 (fun i=>((i:Int),b,())) (fun r=>r.all fun x=>a2B x b.1) (bt:=Sum.inl ()) (bf:=Sum.inr (false,()))
  (fun i h hp=>by
   have hi:=g i h;rw[hp,cT]at hi;simp only[a5v,dlt h,cT]
   grind[a0b])
  (fun i h hp=>by
   have hi:=g i h;rw[hp,cF]at hi;simp_all[a5v])
  (by simp_all[a5v])
 simp at k;rw[k]
 by_cases hA:b.2.1.all (fun r=>r.all fun x=>a2B x b.1)=true
 rw[hA,decide_eq_true (p:=a2R b) (⟨hb.1,hb.2,h3.1,h3.2.1,by unfold a1e;omega,by unfold a1e;omega,lA.2 fun r a=>by
  have l:=lA.1 h3.2.2 r a;have m:=lA.1 hA r a;simp_all[a1e]⟩:a2R b)]
 rfl;rw[a54.2 hA,decide_eq_false (p:=a2R b) (fun h=>hA (lA.2 fun r a=>by
  have:=lA.1 h.2.2.2.2.2.2 r a
  simp_all))]
 rfl
theorem e6j{w:Int}(b:4<=w/\w<=24)(h:a2B x w=true):-16777216<=x/\x<=16777216:=by
 unfold a2B at h;simp at h;obtain⟨-,-,f,g⟩:=h;obtain⟨o,k⟩:∃o:Nat,w-1=(o:Int):=⟨(w-1).toNat,by omega⟩;rw[k]at f g;rw[f4S (by omega)]at g;have hp:2^o<=2^24:=a08 (by omega) (by omega);have a:a0t .i64 (-1) (o:Int)=wrap .i64 (-((2^o:Nat):Int)):=by
  unfold a0t;show wrap .i64 (-1*2^(min (o:Int).toNat 64))=_
  grind
 grind[a0c]
theorem e1z{x w:Int}(g:4<=w/\w<=24)(h:a2B x w=true):a0i x=true:=a3G.2 (by have:=e6j g h;omega)
theorem e3q{b:a1h}(h:a2R b):a7z b.2.1 (a1e b)/\a4d b.2.1:=by
 obtain⟨k,a,c,d,e,i,g⟩:=h;have j:a7z b.2.1 (a1e b):=fun r f=>by
  have:=lA.1 g r f
  simp only[bA9,dT]at this
  grind[e1z]
 grind[e3n]
theorem b7i(f:a0I):a9g f=some (decide (b2u f)):=by
 unfold a9g b2u
 grind
theorem b9t(l:List a0I)(n:Int):a8X (l,n)=some (decide (b1h l n)):=by
 unfold a8X b1h
 by_cases h1:n<1
 grind
 by_cases h2:n > 8
 grind
 by_cases h3:((l.length:Nat):Int) > 16
 grind
 have g:=a1r (f:=a5Z) (β:=Unit ⊕ (Bool×Unit)) l (fun i=>(l,n,(i:Int),())) (a6l n) (bt:=Sum.inl ()) (bf:=Sum.inr (false,()))
  (fun i h hp=>by
   obtain⟨a1,m,o,p,q,r,s⟩:=b0r.1 hp;have k:decide (l[i].1<0)=false:=by simp_all
   have a:decide (l[i].1>=n)=false:=by simp_all
   have b:decide (l[i].2.1<0)=false:=by simp_all
   have c:decide (l[i].2.1>=n)=false:=by simp_all
   have d:(l[i].1==l[i].2.1)=false:=by simp_all
   have e:decide (l[i].2.2.1 < -1024)=false:=by simp_all
   have j:decide (l[i].2.2.1 > 1024)=false:=by simp_all
   simp only[a5Z,dlt h,cT,a0e h,oB,k,a,b,c,d,e,j,cF,a0b (show i<1000000 by omega)])
  (fun i h hp=>by
   simp only[a5Z,dlt h,cT,a0e h,oB]
   grind[a6l])
  (by simp[a5Z])
 grind
theorem d6b(c:List (List Int))(l:List a0I):b5R (c,l)=some (decide (a4d c/\b1h l (c.length:Int))):=by
 unfold b5R;simp only[d4h,oB]
 by_cases hl:1<=c.length/\c.length<=8/\c.all (fun r=>decide (r.length=(c.headD []).length))=true
 rotate_left;rw[decide_eq_false hl,decide_eq_false (fun h:a4d c/\_=>hl ⟨h.1.1,h.1.2.1,lA.2 fun r a=>by
  have:=lA.1 h.1.2.2.2 r a
  simp_all⟩)]
 rfl;have b:a0m c 0=some (c.headD []):=by rw[show(0:Int)=((0:Nat):Int)from rfl,a0e (show 0<c.length by omega),b0s (d:=[]) (by omega)]
 rw[decide_eq_true hl];simp only[bT,cF,b,oB]
 by_cases h3:(((c.headD []).length:Nat):Int) > 4096
 rw[decide_eq_true h3,decide_eq_false (fun h:a4d c/\_=>by have:=h.1.2.2.1;omega)];rfl;rw[decide_eq_false h3];simp only[cF,b9t,oB]
 by_cases hm:b1h l (c.length:Int)
 rotate_left;simp_all;rw[decide_eq_true hm];simp only[bT,cF];have k:∀r∈c,r.length=(c.headD []).length:=fun r a=>by simp_all
 have g:=a1r (f:=a9c) c (fun i=>(c,(i:Int),())) (fun r=>r.all a0i) (bt:=Sum.inl ()) (bf:=Sum.inr (false,()))
  (fun i h hp=>by
   have:=k c[i] (a05 h)
   simp only[a9c,dlt h,cT,a0e h,oB,a2d (show short c[i]by unfold short;omega),hp,bT,cF,a0b (show i<1000000 by omega)])
  (fun i h hp=>by
   have:=k c[i] (a05 h)
   simp only[a9c,dlt h,cT,a0e h,oB,a2d (show short c[i]by unfold short;omega),hp,a15])
  (by simp_all[a9c])
 simp at g;rw[g]
 by_cases hA:c.all (fun r=>r.all a0i)=true
 rw[hA,decide_eq_true (⟨⟨hl.1,hl.2.1,by omega,lA.2 fun r a=>by grind⟩,hm⟩:a4d c/\_)];rfl;rw[a54.2 hA,decide_eq_false (fun h:a4d c/\_=>hA (lA.2 fun r a=>by
  have:=lA.1 h.1.2.2.2 r a
  simp_all))];rfl
theorem d1S(h:a7z c n)(l:n<=5000)(j:c.length<=100):b3s c=some c:=by
 have:=a1S (f:=a9H) (β:=List (List Int)×Unit) c (fun i (a:List (List Int))=>(c,(i:Int),a,())) (fun a x=>.inl (a++[x])) (fun i a=>a.length=i) (fun a=>(a,()))
  (fun i hi a k=>⟨fun e g=>by
   simp at g;subst g;have m:=(h _ (a05 hi)).1;have d:∀y:List Int,a78 ([([]:List Int)]:List (List Int)) 0 y=[y]:=fun _=>rfl;refine⟨?_,by grind⟩;simp only[a9H,dlt hi,cT,a0e hi,oB,d,a06,a09,a38];rw[a0H (by omega),cT,a0H (by omega),cT,a0b (show i<1000000 by omega)],fun b hb=>by grind⟩)
  (fun a k=>by simp_all[a9H]) (a:=[]) rfl
 simp_all[b4i,b3s,b6R]
theorem e3r(S:a7z c n)(T:n<=5000){s:a0I}(p:sign=1\/sign=-1)(D:-1024<=s.2.2.1/\s.2.2.1<=1024)(a0:0<=s.1)(a1:s.1<(c.length:Int))(K:0<=s.2.1)(b1:s.2.1<(c.length:Int))(C:s.1.toNat≠s.2.1.toNat){xs:List Int}(H:c.getD s.1.toNat []=xs)(G:xs.length=n):∀(k g j h:List Int),j++k=xs->j.length=h.length->k.length=g.length->k.all a0i=true->g.all a0i=true->
  if(b4k sign s.2.2.1 k g).all a0i=true then
   a0d a7T (sign,(h.length:Int),c.set s.2.1.toNat (h++g),s,())=some (.inl (c.set s.2.1.toNat (h++b4k sign s.2.2.1 k g),()))
  else ∃c',a0d a7T (sign,(h.length:Int),c.set s.2.1.toNat (h++g),s,())=some (.inr (false,c',())):=by
 have hb:s.2.1.toNat<c.length:=by omega
 have F:∀r,(c.set s.2.1.toNat r).getD s.2.1.toNat []=r:=fun r=>c4X _ hb _ _;have E:∀r,(c.set s.2.1.toNat r).getD s.1.toNat []=xs:=fun r=>by grind
 have d:∀r,r.length=n->((c.set s.2.1.toNat r).getD 0 []).length=n:=fun r U=>by
  by_cases l:s.2.1.toNat=0
  grind
  rw[d6a _ (Ne.symm l)]
  grind[b0t]
 have w:decide ((0:Int)<(c.length:Int))=true:=by grind
 have N:decide ((0:Int)<=s.1)=true:=by simp_all
 have z:decide (s.1<(c.length:Int))=true:=by simp_all
 have O:decide ((0:Int)<=s.2.1)=true:=by simp_all
 have A:decide (s.2.1<(c.length:Int))=true:=by simp_all
 intro k
 induction k with
 |nil=>
  intro g j h u hp q _ _;have e:g=[]:=a35.1 q.symm;subst e;have B:h.length=n:=by simp_all
  have l:=d (h++[]) (by simp_all);rw[if_pos (by rfl)];refine a0g ?_
  simp only[a7T,b07,w,cT,l,B,dge,cF];rfl
 |cons x k v=>
  intro g j h u hp q a b;cases g with
  |nil=>simp_all
  |cons y g=>
   simp only[a25,bA9]at a b;have i:(h++y::g).length=n:=by grind
   have o:h.length<n:=by grind
   have P:a37 xs (a24 (h.length:Int)) 0=x:=by rw[tN,<-hp,<-u];simp
   have Q:a37 (h++y::g) (a24 (h.length:Int)) 0=y:=by simp
   have L:decide ((0:Int)<=(h.length:Int))=true:=by simp
   have M:decide ((h.length:Int)<(n:Int))=true:=dlt o;have l:=d _ i;have hv:=d4e p D a.1 b.1;have V:wrap .i64 ((h.length:Int)+1)=((h.length+1:Nat):Int):=a0b (by omega);have I:b4k sign s.2.2.1 (x::k) (y::g)=a4I sign s.2.2.1 x y::b4k sign s.2.2.1 k g:=rfl;have t:a78 (c.set s.2.1.toNat (h++y::g)) s.2.1.toNat (a78 (h++y::g) (a24 (h.length:Int)) (a4I sign s.2.2.1 x y))=c.set s.2.1.toNat (h++a4I sign s.2.2.1 x y::g):=by
    simp
   have m:(h++a4I sign s.2.2.1 x y::g).length=n:=by simp_all
   have R:a37 (h++a4I sign s.2.2.1 x y::g) (a24 (h.length:Int)) 0=a4I sign s.2.2.1 x y:=by simp
   have f:a7T (sign,(h.length:Int),c.set s.2.1.toNat (h++y::g),s,()) =
     bif !(a0i (a4I sign s.2.2.1 x y))then some (.inr (Sum.inr (false,c.set s.2.1.toNat (h++a4I sign s.2.2.1 x y::g),())))
     else some (.inl (sign,((h.length+1:Nat):Int),c.set s.2.1.toNat (h++a4I sign s.2.2.1 x y::g),s,())):=by
    simp_all[a7T,a3d]
   cases hwv:a0i (a4I sign s.2.2.1 x y)with
   |false=>
    simp_all[a0g]
   |true=>
    rw[hwv]at f;have v:=v g (j++[x]) (h++[a4I sign s.2.2.1 x y]) (by simp_all) (by simp[hp]) (by simp_all) a.2 b.2;rw[a0k f,I];simp_all
theorem d9z(k:a7z c n)(p:n<=5000){s:a0I}(q:a6l (c.length:Int) s=true)(a:sign=1\/sign=-1):
  ∃b f,b7H (c,s,sign)=some (b,f)/\match b0X sign s c with|some r=>b=true/\f=r|none=>b=false:=by
 obtain⟨a1,e,j,l,u,m,o⟩:=b0r.1 q;have d:=b0t k (i:=s.1.toNat) (by omega);have t:=b0t k (i:=s.2.1.toNat) (by omega);have hb:s.2.1.toNat<c.length:=by omega
 have g:c.set s.2.1.toNat (c.getD s.2.1.toNat [])=c:=by
  simp_all
 have:=e3r k p a ⟨m,o⟩ a1 e j l (by omega) (rfl:c.getD s.1.toNat []=_) d.1 (c.getD s.1.toNat []) (c.getD s.2.1.toNat []) [] [] rfl rfl (by omega) d.2 t.2
 rw[a09,g]at this;simp only[a19,nZ,a09,a50]at this;unfold b7H b0X
 by_cases hA:(b4k sign s.2.2.1 (c.getD s.1.toNat []) (c.getD s.2.1.toNat [])).all a0i=true
 simp_all;rw[if_neg hA]at this|-;obtain⟨f,h⟩:=this;simp_all
theorem c2U{n N:Nat}(f:n<=5000){l:List a0I}(i:l.length<=16)(e:l.all (a6l (N:Int))=true):∀(k:Nat)(c:List (List Int)),k<=l.length->a7z c n->c.length=N->
  a0d a7u (l,(k:Int)-1,c,())=some (match a8C (l.take k) c with|some r=>Sum.inl (r,())|none=>Sum.inr ([],6,()))
 |0,c,_,_,_=>a0g rfl
 |k+1,c,hk,hc,hcl=>by
  have hi:k<l.length:=by omega
  have a:a6l (c.length:Int) l[k]=true:=by grind
  obtain⟨b,h,m,g⟩:=d9z hc f a (sign:=-1) (.inr rfl);rw[a56 hi,c0u];rw[show((k+1:Nat):Int)-1=((k:Nat):Int)from by omega];have d:decide (((k:Nat):Int)>=0)=true:=by simp
  have w:wrap .i64 (((k:Nat):Int)-1)=((k:Nat):Int)-1:=a0c (by omega);cases hst:b0X (-1) l[k] c with
  |none=>
   simp_all[a0g,a7u,a0e]
  |some r=>
   rw[hst]at g;obtain⟨rfl,rfl⟩:=g;obtain⟨j,o⟩:=c0t hc a hst;rw[a0k (s':=(l,((k:Nat):Int)-1,h,())) (by
    simp_all[a7u,a0e])]
   rw[c2U f i e k h (by omega) j (by omega)];rfl
theorem c8g(c:List (List Int))(l:List a0I):b0P (c,l)=some (if a4d c/\b1h l (c.length:Int)then d9y (a8C l c)else([],1)):=by
 unfold b0P;simp only[d6b,oB]
 by_cases hq:a4d c/\b1h l (c.length:Int)
 have g:=c3F hq.1;have h:=hq.2;rw[decide_eq_true hq,if_pos hq]
 simp
 rw[d1S g (by have:=hq.1.2.2.1;omega) (by have:=hq.1.2.1;omega)]
 have:=c2U (N:=c.length) (by have:=hq.1.2.2.1;omega:(c.headD []).length<=5000) h.2.2.1 h.2.2.2 l.length c (a28 _) g rfl
 rw[a57]at this
 simp
 rw[a0c (n:=((l.length:Nat):Int)-1) (by have:=h.2.2.1;omega),this];cases a8C l c<;>rfl
 grind
theorem b9u(f:a0M):a8Y f=some (decide (frP f)):=by
 unfold a8Y;simp only[b7i,b9t,oB]
 by_cases h0:b2u f.2.2.1
 rotate_left;rw[decide_eq_false h0,decide_eq_false (fun h:frP f=>h0 h.1)];rfl
 by_cases h1:1<=f.2.1
 rotate_left;rw[decide_eq_true h0,decide_eq_false (fun h:f.2.1>=1=>h1 h),decide_eq_false (fun h:frP f=>h1 h.2.1)];rfl
 by_cases h2:f.2.1<=4096
 rotate_left;rw[decide_eq_true h0,decide_eq_true (show f.2.1>=1 from h1),decide_eq_false h2,decide_eq_false (fun h:frP f=>h2 h.2.2.1)];rfl
 by_cases h3:0<=f.1
 rotate_left;rw[decide_eq_true h0,decide_eq_true (show f.2.1>=1 from h1),decide_eq_true h2,decide_eq_false (fun h:f.1>=0=>h3 h),decide_eq_false (fun h:frP f=>h3 h.2.2.2.1)];rfl;rw[a0c (n:=4194304-f.2.1) (by omega)]
 by_cases h4:f.1<=4194304-f.2.1
 rotate_left;rw[decide_eq_true h0,decide_eq_true (show f.2.1>=1 from h1),decide_eq_true h2,decide_eq_true (show f.1>=0 from h3),decide_eq_false h4,decide_eq_false (fun h:frP f=>h4 h.2.2.2.2.1)];rfl;rw[decide_eq_true h0,decide_eq_true (show f.2.1>=1 from h1),decide_eq_true h2,decide_eq_true (show f.1>=0 from h3),decide_eq_true h4];simp only[cT];congr 1;exact decide_eq_decide.2 ⟨fun h=>⟨h0,h1,h2,h3,h4,h⟩,fun h=>h.2.2.2.2.2⟩
theorem b9v(f:a0M)(c:f.2.2.2.2.1.length<=8):∀(rest done:List Sub)(rows:List (List Int)),done++rest=f.2.2.2.2.1->rows.length=done.length->(∀s∈rest,SmallS s)->
  a0d a4w ((done.length:Int),rows,a8b,f,())=some (match a9p (fun s=>a2J s f.2.1) rest with|some rs=>Sum.inl (rows++rs,a8b,f,())|none=>Sum.inr (false,a8b,()))
 | [],done,rows,hd,hr,_=>by
  have e:f.2.2.2.2.1.length=done.length:=by rw[<-hd];simp
  rw[a0g (b:=Sum.inl (rows,a8b,f,())) (by simp only[a4w,e,dge,cF])];simp[a9p]
 |s::rest,done,rows,hd,hr,h=>by
  have d:=h s (by simp);have k:done.length<f.2.2.2.2.1.length:=by rw[<-hd];simp
  have a:a0m f.2.2.2.2.1 (done.length:Int)=some s:=by rw[a0e k];congr 1;simp[<-hd]
  have g:=c0U d f.2.1;simp only[a9p];cases ho:a2J s f.2.1 with
  |none=>
   rw[ho]at g;exact a0g (by simp only[a4w,dlt k,cT,a,oB,g,a15];rfl)
  |some r=>
   rw[ho]at g;rw[a0k (s':=((((done++[s]).length:Nat):Int),rows++[r],a8b,f,())) (by
    simp only[a4w,dlt k,cT,a,oB,g,bT,cF,a0H (show rows.length+1<2147483648 by omega),a0b (show done.length<1000000 by omega)]
    simp)]
   rw[b9v f c rest (done++[s]) (rows++[r]) (by simpa using hd) (by simp[hr]) (fun t i=>h t (by simp[i]))];simp only[oB];cases a9p (fun s=>a2J s f.2.1) rest<;>simp
def f1e:Option a1h->a1h×Bool
 |some b=>(b,true)
 |none=>(a8b,false)
theorem c2V{f:a0M}(a:∀s∈f.2.2.2.2.1,SmallS s):a2X f=some (f1e (a2O f)):=by
 unfold a2X a2O;simp only[b9u,oB]
 by_cases hf:frP f
 rotate_left;simp only[hf,decide_false,a15,cT,oB,false_and,if_false];rfl
 by_cases hl:((f.2.2.2.2.1.length:Nat):Int)=f.2.2.1.2.1
 rotate_left;have e:(((f.2.2.2.2.1.length:Nat):Int) != f.2.2.1.2.1)=true:=by simpa using hl
 simp only[hf,decide_true,bT,cF,oB,e,cT,hl,and_false,if_false];rfl;have e:(((f.2.2.2.2.1.length:Nat):Int) != f.2.2.1.2.1)=false:=by simpa using hl
 have k:f.2.2.2.2.1.length<=8:=by have:=hf.1.2.2.2.1;omega
 have h:=b9v f k f.2.2.2.2.1 [] [] rfl rfl a;rw[a19]at h;rw[if_pos ⟨hf,hl⟩];simp only[hf,decide_true,bT,cF,oB,e]
 erw[h]
 cases hm:a9p (fun s=>a2J s f.2.1) f.2.2.2.2.1 with
 |none=>rfl
 |some rs=>
  simp only[oB,a09,c8g]
  by_cases hq:a4d rs/\b1h f.2.2.2.1 (rs.length:Int)
  ·simp only[if_pos hq];cases hu:a8C f.2.2.2.1 rs with
   |none=>rfl
   |some ch=>
    have g:((0:Int) != 0)=false:=rfl;simp only[d9y,g,cF,b7Y,oB]
    by_cases hb:a2R (f.2.2.1.2.2.1,ch,())
    simp only[hb,decide_true,bT,cF,if_true];rfl;simp only[hb,decide_false,a15,cT,if_false];rfl
  simp only[if_neg hq];rfl
theorem c0v{f:a0M}(h:∀s∈f.2.2.2.2.1,SmallS s):a5Q f=some (a2O f).isSome:=by
 unfold a5Q;rw[c2V h];cases a2O f<;>rfl
def crE(s:BitVec 16):BitVec 16:=bif s.msb then(s <<< 1) ^^^ 32773#16 else s <<< 1
theorem d6P(s t:BitVec 16):crE (s ^^^ t)=crE s ^^^ crE t:=by
 unfold crE;rw[BitVec.msb_xor,BitVec.shiftLeft_xor_distrib];cases s.msb<;>cases t.msb<;>simp only[cT,cF,Bool.xor_true,Bool.xor_false,bT,a15];rw[a20];rw[a20,a20,a79 (t <<< 1)];rw[a20,a79 32773#16,a20,BitVec.xor_self,b08]
theorem e3s{s:BitVec 16}(h:crE s=0):s=0:=by
 unfold crE at h;cases hm:s.msb with
 |true=>
  rw[hm,cT]at h
  have:=congrArg (fun x=>b16 x 0) h
  simp at this
 |false=>
  rw[hm,cF]at h;refine a72 fun i hi=>?_
  by_cases h15:i=15
  subst h15;rw[a68]at hm;simpa using hm
  have:=congrArg (fun x=>b16 x (i+1)) h
  simp at this;simpa using this (by omega)
theorem f1f:crE 0=0:=by decide
theorem c6e{s:BitVec 16}:∀{n:Nat},rep crE n s=0->s=0
 |0,h=>h
 |n+1,h=>e3s (c6e (n:=n) h)
theorem e5j:∀n:Nat,rep crE n 0=0
 |0=>rfl
 |n+1=>by
  show rep crE n (crE 0)=0;rw[f1f,e5j n]
def crB(b:Bool):BitVec 16:=bif b then 32768#16 else 0#16
def crS(s:BitVec 16)(b:Bool):BitVec 16:=crE (s ^^^ crB b)
def crT:List Bool->BitVec 16
 | []=>0#16
 |b::w=>crB b ^^^ (crT w >>> 1)
theorem e6k(b:Bool)(j:Nat):(crB b).getLsbD j=(b&&decide (j=15)):=by
 cases b with
 |false=>simp[crB]
 |true=>
  simp only[crB,cT,a22];rw[show(32768#16)=b17 16 (2^15)from rfl,BitVec.getLsbD_ofNat,Nat.testBit_two_pow]
  by_cases h:j=15
  subst h;rfl;rw[decide_eq_false (by omega:¬ (15=j)),decide_eq_false h,a52]
theorem c3G:∀(w:List Bool)(j:Nat),(crT w).getLsbD j=(decide (j<16)&&w.getD (15-j) false)
 | [],j=>by simp[crT]
 |b::w,j=>by
  rw[crT,BitVec.getLsbD_xor,e6k,a47,c3G w]
  by_cases h:j=15
  subst h;simp
  by_cases h2:j<16
  rw[show 15-j=(15-(1+j))+1 from by omega,a65];simp[h,h2,show 1+j<16 from by omega];simp[h,h2,show ¬ (1+j<16)from by omega]
theorem e3t{w:List Bool}(h:w.length<=15):crE (crT w >>> 1)=crT w:=by
 have f:(crT w >>> 1).msb=false:=by
  rw[a68,a47,c3G];simp
 unfold crE;rw[f,cF];refine a72 fun i hi=>?_
 rw[BitVec.getLsbD_shiftLeft,a47];cases i with
 |zero=>
  have g:(crT w).getLsbD 0=false:=by
   rw[c3G,lD,List.getElem?_eq_none (by omega)];rfl
  rw[g];simp
 |succ i=>rw[show 1+(i+1-1)=i+1 from by omega];simp[hi]
theorem e8v:∀(w:List Bool)(s:BitVec 16),w.length<=16->w.foldl crS s=rep crE w.length (s ^^^ crT w)
 | [],s,_=>by simp[crT,rep]
 |b::w,s,h=>by
  rw[lC]at h;rw[a80,e8v w _ (by omega),crT,<-a20];show _=rep crE w.length (crE (s ^^^ crB b ^^^ (crT w >>> 1)));rw[d6P,e3t (by omega)];rfl
theorem d4i{α:Type}(f g:α->Bool):∀(L:List α)(s t:BitVec 16),(L.map fun j=>xor (f j) (g j)).foldl crS (s ^^^ t)=(L.map f).foldl crS s ^^^ (L.map g).foldl crS t
 | [],_,_=>rfl
 |a::L,s,t=>by
  simp only[a89,a80];rw[<-d4i f g L];congr 1;unfold crS;rw[<-d6P];congr 1
  have:crB (xor (f a) (g a))=crB (f a) ^^^ crB (g a):=by cases f a<;>cases g a<;>rfl
  rw[this];simp only[a20];rw[<-a20 t,a79 t,a20]
theorem c0w:∀(n:Nat)(s:BitVec 16),(a00 n false).foldl crS s=rep crE n s
 |0,_=>rfl
 |n+1,s=>by
  rw[a66,a80,c0w n];show rep crE n (crE (s ^^^ 0#16))=rep crE n (crE s);rw[b08]
theorem f1g{w:List Bool}(h:w.length<=16)(f:true∈w)(k m:Nat):(a00 k false++(w++a00 m false)).foldl crS 0≠0:=by
 rw[a70,a70,c0w,c0w,e5j,e8v w _ h];intro e;have e:=c6e (c6e e);have e:crT w=0:=by simpa using e
 obtain⟨i,hi,g⟩:=a87.1 f
 have:=c3G w (15-i)
 rw[e,show 15-(15-i)=i from by omega,lD,lG hi,g]at this;simp at this;omega
def byb(c:Int):List Bool:=[7,6,5,4,3,2,1,0].map fun i=>c.toNat.testBit i
theorem d4j(a b:Int):0<=bits .u16 .xor a b/\bits .u16 .xor a b<65536:=by
 simp only[bits,b4j];omega
def c3H(p:List Int):List Bool:=p.flatMap byb
def a3k:a0M:=(0,0,(0,0,0,()),[],[],())
theorem e1A{α β:Type}(f:α->β):∀l:List α,l.flatMap (fun x=>[f x])=l.map f
 | []=>rfl
 |x::l=>by simp[e1A f l]
def c6f(f t:Nat)(r:List Int):List Int:=a82 f (a69 t r)
def b5v(b:a1h)(f t:Nat):a1h:=(b.1,b.2.1.map (c6f f t),())
theorem e8w{b:a1h}(hb:a2R b){f t:Nat}(r:f<t)(s:t<=a1e b):b4y (b,(f:Int),(t:Int),())=some (b5v b f t,0):=by
 obtain⟨o,-⟩:=e3q hb;have c:decide ((f:Int)<0)=false:=by simp only[decide_eq_false_iff_not];omega
 have d:decide ((f:Int)>=(t:Int))=false:=by simp only[decide_eq_false_iff_not];omega
 have e:decide ((t:Int) > ((a1e b:Nat):Int))=false:=by simp only[decide_eq_false_iff_not];omega
 have u:=hb.2.2.2.2.2.1;have h:=a1S (f:=b0K) (β:=a1h×(a1h×Unit)) b.2.1 (fun i (a:List (List Int))=>(b.2.1,((b.2.1.length:Nat):Int),(i:Int),((0:Int),([]:List (List Int)),()),(b.1,a,()),((f:Int),(t:Int),()),())) (fun a x=>.inl (a++[c6f f t x])) (fun i a=>a.length=i) (fun a=>(((0:Int),([]:List (List Int)),()),(b.1,a,()),()))
  (fun i hi a k=>⟨fun q g=>by
   simp only[Sum.inl.injEq]at g;subst g;have v:=(o _ (a05 hi)).1;have j:decide ((0:Int)<=(t:Int))=true:=by simp
   have l:decide ((t:Int)<=((b.2.1[i].length:Nat):Int))=true:=by simp only[dT];omega
   have m:decide ((0:Int)<=(f:Int))=true:=by simp
   have n:decide ((f:Int)<=(t:Int))=true:=by simp only[dT];omega
   have p:=hb.2.2.2.1;refine⟨?_,by simp[k]⟩;simp only[b0K,dlt hi,cT,a0e hi,oB,tN,j,l,m,n,a02];rw[c0k (show short (a82 f (a69 t b.2.1[i]))by unfold short;rw[a34,a31];omega)];simp only[oB];rw[a0H (show a.length+1<2147483648 by omega),cT,a0b (show i<1000000 by omega)];rfl,fun b hb=>by cases hb⟩)
  (fun a k=>by simp only[b0K,dge,cF]) (a:=[]) rfl
 rw[b4i (fun x:List Int=>[c6f f t x])]at h;simp only[nZ,b6R,e1A,a09]at h;unfold b4y;simp only[b3A,decide_eq_true hb,oB,bT,cF,c,d,a8a,e]
 erw[h]
 rfl
theorem d6Q{b:a1h}(hb:a2R b){f t:Nat}(g:f<t)(k:t<=a1e b):a1e (b5v b f t)=t-f:=by
 unfold a1e b5v;have a:=hb.2.2.1;have h:0<b.2.1.length:=by omega
 have c:a1e b=(b.2.1[0]).length:=by unfold a1e;rw[b0s (d:=[]) h]
 rw[<-b0s (d:=[]) (show 0<(b.2.1.map (c6f f t)).length by simpa using h)];simp only[List.getElem_map,c6f,a34,a31];omega
theorem e8x{b:a1h}(hb:a2R b){f t:Nat}(e:f<t)(i:t<=a1e b):a2R (b5v b f t):=by
 have j:=d6Q hb e i;obtain⟨g,k,a,c,o,p,d⟩:=hb;refine⟨g,k,by simpa[b5v]using a,by simpa[b5v]using c,by omega,by omega,lA.2 fun r l=>?_⟩;obtain⟨n,h,rfl⟩:=a73.1 l
 have:=lA.1 d n h
 simp only[bA9,dT]at this;simp only[bA9,dT];refine⟨by rw[j];simp only[c6f,a34,a31];omega,lA.2 fun x m=>lA.1 this.2 x (a42 (a33 m))⟩
def e8y(c:Int):Prop:=0<=c/\c<256
def b2F(p:List Int)(j:Nat):Bool:=(p.getD (j / 8) 0).toNat.testBit (7-j%8)
theorem c6g:∀p:List Int,c3H p=(a71 (8*p.length)).map (b2F p)
 | []=>rfl
 |c::p=>by
  have e:c3H (c::p)=byb c++c3H p:=rfl;rw[e,c6g p,lC,show 8*(p.length+1)=8+8*p.length from by omega,a86,pA,a64];congr 1;refine a90 fun j _=>?_
  show b2F p j=b2F (c::p) (8+j);unfold b2F;rw[show(8+j) / 8=j / 8+1 from by omega,a65,show(8+j)%8=j%8 from by omega]
structure Turn (b k i:Nat) (p0 p:List Int) (sm:Bool):Prop where
 len:p.length=p0.length
 ok:∀c∈p,e8y c
 bit:∀j,b2F p j=xor (b2F p0 j) (decide (k<=j/\j<k+i)&&b.testBit (j-k))
 smk:sm=true↔∃t,t<i/\b.testBit t=true
 pre:p.take (k / 8)=p0.take (k / 8)
 same:sm=false->p=p0
theorem turned{p0 q:List Int}{s:Bool}(w:k<8*p0.length)(i:(c3H p0).foldl crS 0=0)(g:Turn b k (min 16 (8*p0.length-k)) p0 q s)(u:s=true):(c3H q).foldl crS 0≠0:=by
 obtain⟨n,r⟩:∃n,min 16 (8*p0.length-k)=n:=⟨_,rfl⟩;rw[r]at g;have e:c3H q=(a71 (8*p0.length)).map fun j=>xor (b2F p0 j) (decide (k<=j/\j<k+n)&&b.testBit (j-k)):=by
  rw[c6g,g.len];exact a90 fun j _=>g.bit j
 have h:=d4i (b2F p0) (fun j=>decide (k<=j/\j<k+n)&&b.testBit (j-k)) (a71 (8*p0.length)) 0 0;have a:∀x:BitVec 16,(0:BitVec 16) ^^^ x=x:=fun _=>BitVec.zero_xor;rw[a,<-e,<-c6g,i,a]at h;rw[h];obtain⟨m,p⟩:∃m,8*p0.length=k+(n+m):=⟨8*p0.length-k-n,by omega⟩;rw[p,a86,a86,pA,pA,pA,a64,a64,a64];have c:(a71 k).map (fun j=>decide (k<=j/\j<k+n)&&b.testBit (j-k))=a00 k false:=by
  rw[a83];refine⟨by simp,fun x f=>?_⟩;obtain⟨j,o,rfl⟩:=a73.1 f
  grind
 have d:(a71 m).map (((fun j=>decide (k<=j/\j<k+n)&&b.testBit (j-k))∘(k+·))∘(n+·))=a00 m false:=by
  rw[a83];refine⟨by simp,fun x f=>?_⟩;obtain⟨j,o,rfl⟩:=a73.1 f
  grind
 rw[c,d];refine f1g (by simp;omega) ?_ k m;obtain⟨t,l,v⟩:=g.smk.1 u;refine a73.2 ⟨t,List.mem_range.2 l,?_⟩;simp_all
theorem e6l(h:-100000<=g/\g<=100000):b4a g=some ((a8B g:Nat):Int):=by
 unfold b4a a8B
 by_cases hg:0<=g
 have d:decide (g<0)=false:=by simp only[decide_eq_false_iff_not];omega
 have e:a0t .u64 (wrap .u64 g) 1=2*g:=by
  show wrap .u64 (wrap .u64 g*2)=_;rw[a0p (n:=g) (by omega),a0p (by omega)];omega
 rw[d,cF,e,if_pos hg,a18 (by omega)];rfl;have d:decide (g<0)=true:=by simp only[dT];omega
 have e:a0t .u64 (wrap .u64 g) 1=((18446744073709551615-(-2*g-1).toNat:Nat):Int):=by
  show wrap .u64 (wrap .u64 g*2)=_;rw[e1f (n:=g) (by omega)];have f:∀n:Int,wrap .u64 n=n%18446744073709551616:=fun n=>by simp[wrap,IntKind.bits,IntKind.signed]
  rw[f];omega
 rw[d,cT,e,if_neg hg,d6N (by omega)];simp only[oB];congr 2;omega
theorem c4Z(a:List Int)(i:Int):∀(k n:Nat)(out:List Int),n<128^(k+1)->k<=8->out.length+k<1000000->
  ∃r g,a0d a8w (a,i,(n:Int),out,())=some (a,i,((r:Nat):Int),out++g,())/\a3w n=g++[(r:Int)]/\r<128
 |k,n,out,h,hk,ho=>by
  by_cases hn:n<128
  refine⟨n,[],?_,by rw[c3E hn];rfl,hn⟩;rw[a0g (b:=(a,i,(n:Int),out,())) (by
   have d:decide ((n:Int)>=128)=false:=by simp;omega
   simp only[a8w,d,cF])]
  simp
  ·cases k with
   |zero=>omega
   |succ k=>
    have q:n / 128<128^(k+1):=by rw[Nat.div_lt_iff_lt_mul (by omega)];rw[a95]at h;exact h
    have f:n<18446744073709551616:=by
     have:128^(k+1+1)<=128^9:=a08 (by omega) (by omega)
     have e:(128:Nat)^9=9223372036854775808:=by decide
     omega
    obtain⟨r,g,c,m,p⟩:=c4Z a i k (n / 128) (out++[((n%128+128:Nat):Int)]) q (by omega) (by simp;omega);refine⟨r,((n%128+128:Nat):Int)::g,?_,by rw[c9I hn,m];rfl,p⟩;have d:decide ((n:Int)>=128)=true:=by simp;omega
    have j:a0v .u64 (n:Int) 7=((n / 128:Nat):Int):=a5G (o:=7) (by omega);have l:wrap .u8 (bits .u64 .or (bits .u64 .and (n:Int) 127) 128)=((n%128+128:Nat):Int):=by
     have c:bits .u64 .and (n:Int) 127=((n%2^7:Nat):Int):=b6Z (k:=7) f (by omega);rw[c,show((128:Int))=((1*2^7:Nat):Int)from rfl,orA (a48 _ (by omega)) (by omega),a6U];omega
    rw[a0k (s':=(a,i,((n / 128:Nat):Int),out++[((n%128+128:Nat):Int)],())) (by
     simp only[a8w,d,cT,a0H (show out.length+1<2147483648 by omega),j,l,a06])]
    rw[c]
    simp
theorem b3C{ns:List Nat}(h:∀n∈ns,n<9223372036854775808)(t:ns.length<=1000):a3z (asI ns)=some (ns.flatMap a3w):=by
 have l:(asI ns).length=ns.length:=by simp[asI]
 have:=a1S (f:=a8x) (asI ns) (fun i (a:List Int)=>(asI ns,(i:Int),a,())) (fun a x=>.inl (a++a3w x.toNat)) (fun i a=>a.length<=10*i) (fun a=>(a,()))
  (fun i hi a p=>⟨fun q g=>by
   have c:i<ns.length:=by omega
   have m:(asI ns)[i]=((ns[i]:Nat):Int):=by simp[asI]
   have hb:=h ns[i] (a05 c);have k:ns[i]<128^(8+1):=by rw[show(128:Nat)^(8+1)=9223372036854775808 from by decide];exact hb
   obtain⟨r,d,o,j,s⟩:=c4Z (asI ns) (i:Int) 8 ns[i] a k (a28 _) (by omega);have hv:=c6a 8 ns[i] k;rw[j]at hv;simp only[lN,lC,a19]at hv;simp only[m,tN,j,Sum.inl.injEq]at g;subst g;have e:wrap .u8 (r:Int)=(r:Int):=by rw[a6U];omega
   refine⟨?_,by simp;omega⟩;simp only[a8x,dlt hi,cT,a0e hi,m,oB,o,a0H (show(a++d).length+1<2147483648 by simp;omega),a0b (show i<1000000 by omega),e,a06,aA],fun b hb=>by cases hb⟩)
  (fun a p=>by simp only[a8x,dge,cF]) (a:=[]) (by simp)
 unfold a3z;simp only[nZ]at this;rw[this,b4i];simp[b6R,asI,List.flatMap_map]
theorem d6c{f:a0M}(q:frP f){body:Nat}(o:body<=1048576):b5S (f,(body:Int))=some (hb f body):=by
 have p:=q;obtain⟨⟨N,r2,H,I,K,L⟩,l1,l2,s1,s2,m1,m2,m3,m4⟩:=p;have k:∀s∈f.2.2.2.1,a6l f.2.2.1.2.1 s=true:=fun s z=>lA.1 m4 s z;have y:=c2S m2 f.2.2.2.1 m4;have w:=d4b q o;have c:a3z [wrap .u64 f.1,wrap .u64 f.2.1,wrap .u64 f.2.2.1.1,wrap .u64 f.2.2.1.2.1,wrap .u64 f.2.2.1.2.2.1,wrap .u64 ((f.2.2.2.1.length:Nat):Int)]=some ([f.1.toNat,f.2.1.toNat,f.2.2.1.1.toNat,f.2.2.1.2.1.toNat,f.2.2.1.2.2.1.toNat,f.2.2.2.1.length].flatMap a3w):=by
  rw[<-b3C (fun n l=>by
   simp only[mC,b03,or_false]at l;omega) (by simp)]
  congr 1;rw[a0p (n:=f.1) (by omega),a0p (n:=f.2.1) (by omega),a0p (n:=f.2.2.1.1) (by omega),a0p (n:=f.2.2.1.2.1) (by omega),a0p (n:=f.2.2.1.2.2.1) (by omega),a0p (by omega)];simp only[asI,a89,List.map_nil,a18 (show 0<=f.1 by omega),a18 (show 0<=f.2.1 by omega),a18 (show 0<=f.2.2.1.1 by omega),a18 (show 0<=f.2.2.1.2.1 by omega),a18 (show 0<=f.2.2.1.2.2.1 by omega)]
 have A:([f.1.toNat,f.2.1.toNat,f.2.2.1.1.toNat,f.2.2.1.2.1.toNat,f.2.2.1.2.2.1.toNat,f.2.2.2.1.length].flatMap a3w).length<=600:=by
  have e:(hb f body).length=2+(([f.1.toNat,f.2.1.toNat,f.2.2.1.1.toNat,f.2.2.1.2.1.toNat,f.2.2.1.2.2.1.toNat,f.2.2.2.1.length].flatMap a3w).length+((f.2.2.2.1.flatMap b2c).length+(a3w body).length)):=by
   simp[hb];omega
  omega
 have h:=a1S (f:=b1U) (β:=Int×(List Int×Unit)) f.2.2.2.1 (fun i (a:List Int)=>((body:Int),(i:Int),a,f,())) (fun a x=>.inl (a++b2c x)) (fun i a=>a.length<=600+27*i) (fun a=>((body:Int),a,()))
  (fun i hi a v=>⟨fun D j=>by
   simp only[Sum.inl.injEq]at j;subst j;obtain⟨a1,E,r,F,G,t,u⟩:=b0r.1 (k _ (a05 hi));have C:=d0D m2 (k _ (a05 hi));have M:=e6g (g:=f.2.2.2.1[i].2.2.1) (m:=1024) ⟨t,u⟩;have hp:a3z [wrap .u64 f.2.2.2.1[i].1,wrap .u64 f.2.2.2.1[i].2.1,((a8B f.2.2.2.1[i].2.2.1:Nat):Int)]=some (b2c f.2.2.2.1[i]):=by
    have e:=b3C (ns:=b9s f.2.2.2.1[i]) (fun n l=>by
     simp only[b9s,mC,b03,or_false]at l;omega) (by simp[b9s])
    rw[show b2c f.2.2.2.1[i]=(b9s f.2.2.2.1[i]).flatMap a3w from by simp[b2c,b9s],<-e];congr 1;rw[a0p (n:=f.2.2.2.1[i].1) (by omega),a0p (n:=f.2.2.2.1[i].2.1) (by omega)];simp only[asI,b9s,a89,List.map_nil,a18 a1,a18 r]
   refine⟨?_,by simp;omega⟩;simp only[b1U,dlt hi,cT,a0e hi,oB,e6l (g:=f.2.2.2.1[i].2.2.1) (by omega),hp,a0H (show a.length+(b2c f.2.2.2.1[i]).length<2147483648 by omega),a0b (show i<1000000 by omega),a06],fun b hb=>by cases hb⟩)
  (fun a v=>by simp only[b1U,dge,cF]) (a:=[f.1.toNat,f.2.1.toNat,f.2.2.1.1.toNat,f.2.2.1.2.1.toNat,f.2.2.1.2.2.1.toNat,f.2.2.2.1.length].flatMap a3w) (by omega)
 rw[b4i]at h;simp only[b6R,nZ]at h;have d:a3z [wrap .u64 (body:Int)]=some (a3w body):=by
  have e:=b3C (ns:=[body]) (fun n l=>by simp at l;omega) (by simp);rw[a0p (by omega)];simpa[asI]using e
 have B:=b0W (n:=body) (by omega);unfold b5S;simp only[c,oB];rw[h];simp only[oB,d,a06];rw[a0H (by rw[lN];omega),cT,a0H (by simp only[lN];omega),cT];simp[hb]
theorem c2W{p:PZ}{n:Int}(hp:c6b n p)(o:L.length<50000000):a3u ((L,()),p.1,n)=some (0,L++a4W p.1 p.2,())/\(a4W p.1 p.2).length<=700000:=by
 obtain⟨c,k,a⟩:=hp;obtain⟨j,i,g,l,f,b,m⟩:=c0q c (n:=n) (L:=L) (by omega);obtain⟨rfl,d,rfl,h⟩:=b k;have e:a9k p.1 d L=a9k p.1 p.2 L:=by
  by_cases hk:p.1.1=0\/p.1.1=1
  unfold a9k;rw[if_pos hk,if_pos hk];rw[d0x (h (not_or.1 hk)) (a (not_or.1 hk))]
 rw[e,c4U (c4S k) a]at g f;exact⟨g,by rw[lN]at f;omega⟩
theorem b9w(l:List Int)(i:Int):∀(j k:Nat)(s:Int),k+j=8->0<=s/\s<256->a0d b5q (l,s,i,(k:Int),())=some (l,rep e8 j s,i,())
 |0,k,s,h,_=>by
  obtain rfl:k=8:=by omega
  rfl
 |j+1,k,s,h,hs=>by
  have d:decide ((k:Int)<8)=true:=by grind
  have e:decide (s>=128)=(a0v .u8 s 7==(1:Int)):=by
   obtain⟨n,rfl⟩:=a01 hs.1;have e:a0v .u8 (n:Int) 7=((n / 128:Nat):Int):=by
    show a91 (n:Int) ((128:Nat):Int)=_
    grind
   grind
  rw[a0k (s':=(l,e8 s,i,((k+1:Nat):Int),())) (by
   simp only[b5q,d,cT,a0b (show k<1000000 by omega),e8,e]
   grind)]
  exact b9w l i j (k+1) (e8 s) (by omega) (e3l s)
theorem b7j(l:List Int)(i:Int):∀(j k:Nat)(s:Int),k+j=8->0<=s/\s<65536->a0d b3l (l,s,i,(k:Int),())=some (l,rep e16 j s,i,())
 |0,k,s,h,_=>by
  obtain rfl:k=8:=by omega
  rfl
 |j+1,k,s,h,hs=>by
  have d:decide ((k:Int)<8)=true:=by grind
  have e:decide (s>=32768)=(a0v .u16 s 15==(1:Int)):=by
   obtain⟨n,rfl⟩:=a01 hs.1;have e:a0v .u16 (n:Int) 15=((n / 32768:Nat):Int):=by
    show a91 (n:Int) ((32768:Nat):Int)=_
    grind
   grind
  rw[a0k (s':=(l,e16 s,i,((k+1:Nat):Int),())) (by
   simp only[b3l,d,cT,a0b (show k<1000000 by omega),e16,e]
   grind)]
  exact b7j l i j (k+1) (e16 s) (by omega) (d0C s)
theorem d6d(a b:Int):0<=bits .u8 .xor a b/\bits .u8 .xor a b<256:=by
 grind[bits,a6U]
theorem c2X(h:short l):b3k l=some (c0s l):=by
 have:=a1S (f:=b1O) (β:=Int×Unit) l (fun i (a:Int)=>(l,a,(i:Int),())) (fun a x=>.inl (g8 a x)) (fun _ _=>True) (fun a=>(a,()))
  (fun i hi a _=>⟨fun k g=>by
   simp at g;subst g
   have:=b9w l (i:Int) 8 0 (bits .u8 .xor a l[i]) rfl (d6d _ _)
   simp at this;refine⟨?_,trivial⟩;simp only[b1O,dlt hi,cT,a0e hi,oB,this,a0b (a07 hi h),g8],fun b hb=>by grind⟩)
  (fun a c=>by simp_all[b1O]) (a:=0) trivial
 unfold b3k;simp at this;rw[this,b7d];rfl
theorem b9x(h:short l):b0i l=some (b2b l):=by
 have:=a1S (f:=a9z) (β:=Int×Unit) l (fun i (a:Int)=>(l,a,(i:Int),())) (fun a x=>.inl (g16 a x)) (fun _ _=>True) (fun a=>(a,()))
  (fun i hi a _=>⟨fun k g=>by
   simp at g;subst g
   have:=b7j l (i:Int) 8 0 (bits .u16 .xor a (a0t .u16 (wrap .u16 l[i]) 8)) rfl (d4j _ _)
   simp at this;refine⟨?_,trivial⟩;simp only[a9z,dlt hi,cT,a0e hi,oB,this,a0b (a07 hi h),g16],fun b hb=>by grind⟩)
  (fun a c=>by simp_all[a9z]) (a:=0) trivial
 unfold b0i;simp at this;rw[this,b7d];rfl
theorem d4k{v:Int}(h:0<=v/\v<65536):b6O (v,2)=some [v / 256,v%256]:=by
 obtain⟨n,rfl⟩:=a01 h.1;have g:wrap .u8 (a0v .u64 (n:Int) 8)=(n:Int) / 256:=by
  grind[a0v,a5G,a6U]
 have f:wrap .u8 (a0v .u64 (n:Int) 0)=(n:Int)%256:=by
  simp_all[a0v,a6U]
 have s0:b1t ((n:Int),(1:Int),([]:List Int),())=some (.inl ((n:Int),(0:Int),[(n:Int) / 256],())):=by
  simp only[b1t,show decide ((1:Int)>=0)=true from rfl,cT,show wrap .u64 (wrap .i64 (8*1))=8 from rfl,show decide ((8:Int)<0)=false from rfl,cF,a0H (show([]:List Int).length+1<2147483648 by simp),g];rfl
 have s1:b1t ((n:Int),(0:Int),[(n:Int) / 256],())=some (.inl ((n:Int),(-1:Int),[(n:Int) / 256,(n:Int)%256],())):=by
  simp only[b1t,show decide ((0:Int)>=0)=true from rfl,cT,show wrap .u64 (wrap .i64 (8*0))=0 from rfl,show decide ((0:Int)<0)=false from rfl,cF,a0H (show([(n:Int) / 256]:List Int).length+1<2147483648 by simp),f];rfl
 unfold b6O;rw[show wrap .i64 (a1s (a2P (2:Int) 8) 0-1)=1 from rfl,a0k s0,a0k s1,a0g (b:=([(n:Int) / 256,(n:Int)%256],())) rfl];rfl
theorem e6m(h:a1t L)(c:L.length%8≠0):(wL (L++[0])).1=(wL L).1:=by
 obtain⟨k,b⟩:=a7g L;have f:=(c9H h).1 (L.length / 8);rw[c3C];unfold c5X;simp only[];rw[k,if_neg (by omega),show(((L.length:Nat):Int) / 8).toNat=L.length / 8 from by rfl];have a:a0t .u8 0 (7-((L.length:Nat):Int)%8)=0:=by
  unfold a0t;rw[a96];rfl
 rw[a];generalize hx:(wL L).1.getD (L.length / 8) 0=x at f|-;have g:bits .u8 .or x 0=x:=by
  obtain⟨n,rfl⟩:=a01 f.1
  grind[or8]
 rw[g,<-hx];apply List.ext_getElem?
 grind
theorem d4l:∀(k:Nat){L:List Int},a1t L->d4c L.length=k->(wL (L++a00 k 0)).1=(wL L).1
 |0,L,_,_=>by simp
 |k+1,L,h,hk=>by
  have g:L.length%8≠0:=by intro e;unfold d4c at hk;omega
  have hb:a1t (L++[0]):=h.app fun b hb=>.inl (by simpa using hb);have f:=d4l k (L:=L++[0]) hb (by unfold d4c at hk|-;rw[lN,a38];omega);rw[a66,show L++(0:Int)::a00 k 0=(L++[0])++a00 k 0 from by simp,f];exact e6m h g
theorem e3u(h:a1t L):a9P L=(wL L).1:=d4l _ h rfl
theorem c5a{f:a0M}:∀(rest done:List PZ)(L:List Int),(done++rest).map (·.1)=f.2.2.2.2.1->(∀p∈rest,c6b f.2.1 p)->L.length+700000*rest.length<40000000->(done++rest).length<=8->
  a0d a7w ((done.length:Int),(L,()),f,())=some ((L++a1W rest,()),f,())
 | [],done,L,hd,_,_,_=>by
  have e:f.2.2.2.2.1.length=done.length:=by grind
  simp_all[a0g,a7w,a1W]
 |p::rest,done,L,hd,h,hL,h8=>by
  rw[lC]at hL;simp at h8;obtain⟨a,c⟩:=c2W (h p (by simp)) (L:=L) (by omega);have g:done.length<f.2.2.2.2.1.length:=by grind
  have b:a0m f.2.2.2.2.1 (done.length:Int)=some p.1:=by grind[a0e]
  have k:=c5a rest (done++[p]) (L++a4W p.1 p.2) (by simp_all) (fun q hq=>h q (by grind)) (by grind) (by simp_all);rw[a0k (s':=((((done++[p]).length:Nat):Int),(L++a4W p.1 p.2,()),f,())) (by
   simp only[a7w,dlt g,cT,b,oB,a,a0b (show done.length<1000000 by omega)]
   simp)]
  rw[k];simp[a1W]
theorem e1B(c:Nat)(hi:i<m)(h:v+c*2^m<18446744073709551616)(g:m<=63):a4c ((v+c*2^m:Nat):Int) i=a4c (v:Int) i:=by
 rw[b0q h (by omega),b0q (by omega) (by omega)];have e:c*2^m=(c*2^(m-i-1)*2)*2^i:=by
  rw[Nat.mul_assoc,Nat.mul_assoc,a51 2,<-a95,<-b02]
  grind
 simp_all[a84,a16]
theorem e1C{v m:Nat}(c:Nat)(h:v+c*2^m<18446744073709551616)(g:m<=63):∀k,k<=m->pb ((v+c*2^m:Nat):Int) k=pb (v:Int) k
 |0,_=>rfl
 |k+1,hk=>by simp only[pb];rw[e1B c (by omega) h g,e1C c h g k (by omega)]
theorem e1D:∀(n:Nat)(B:List Int),a1t B->B.length=n->n<=62->∃v:Nat,v<2^n/\B=pb (v:Int) n
 |0,B,_,h,_=>⟨0,by simp,by rw[a35.1 h];rfl⟩
 |n+1,[],_,h,_=>by grind
 |n+1,b::B,hb,h,hn=>by
  obtain⟨v,hv,e⟩:=e1D n B (fun x j=>hb x (by grind)) (by simp_all) (by omega);have g:b=0\/b=1:=hb b (by simp);have hp:2^(n+1)<=2^62:=a08 (by simp) hn;have i:2^(n+1)=2^n+2^n:=by omega
  obtain⟨c,k,a⟩:∃c:Nat,b=(c:Int)/\c<=1:=by
   rcases g with rfl|rfl
   grind
   exact⟨1,rfl,by simp⟩
  have d:c*2^n<=2^n:=by
   grind
  refine⟨v+c*2^n,by omega,?_⟩;have f:v+c*2^n<18446744073709551616:=by omega
  simp only[pb];rw[e1C c f (by omega) n (a28 _),<-e,b0q f (by omega),a84 _ _ (a16 n),a46 hv,k]
  grind
structure OkL (L:List Int):Prop where
 bits:a1t L
 len:L.length<1000000
 eight:L.length%8=0
def St(L:List Int)(r:Rd):Prop:=r.2.2.1≠0\/∃P R,P++R=L/\r=rdr P R
def Stp(L:List Int)(r r':Rd)(A:List Int):Prop:=r'.2.2.1=0->∃P R,P++(A++R)=L/\r=rdr P (A++R)/\r'=rdr (P++A) R
theorem c9L{P' R':List Int}(h:P++R=P'++R')(e:rdr P R=rdr P' R'):P=P'/\R=R':=by
 have:P.length=P'.length:=by
  have:=congrArg (fun x:Rd=>x.2.1) e
  grind[rdr]
 grind[List.append_inj]
theorem Stp.trans{L:List Int}{r r' r'':Rd}{A B:List Int}(h:Stp L r r' A)(k:Stp L r' r'' B):Stp L r r'' (A++B):=fun a=>by
 obtain⟨b,R1,c,g,d⟩:=k a;obtain⟨P,R,e,i,f⟩:=h (by rw[g];rfl);rw[g]at f;obtain⟨rfl,rfl⟩:=c9L (by simp_all) f
 grind
theorem Stp.ok{A:List Int}(h:Stp L r r' A)(g:r'.2.2.1=0):r.2.2.1=0:=by
 obtain⟨P,R,-,e,-⟩:=h g;rw[e];rfl
theorem Stp.refl(h:St L r):Stp L r r []:=fun g=>by
 rcases h with h|⟨P,R,e,rfl⟩;omega;exact⟨P,R,by simp_all,rfl,by simp⟩
theorem OkL.okr(h:OkL L)(e:P++R=L):OkR P R:=⟨by rw[e];exact h.bits,by rw[e];have:=h.len;omega⟩
theorem OkL.left(h:OkL L)(e:P++R=L):(wL (P++R)).1.length*8=P.length+R.length:=by
 obtain⟨-,f⟩:=a7g (P++R);have g:=h.eight
 grind
theorem a4e{r:Rd}(h:r.2.2.1≠0):(r.2.2.1 != (0:Int))=true:=by simp_all
theorem d6R{r:Rd}(h:r.2.2.1≠0)(n:Int):a0x (r,n)=some (0,r):=by
 simp_all[a0x,a4e]
theorem c6h(h:r.2.2.1≠0)(n:Int):a0z (r,n)=some (0,r):=by
 simp_all[a0z,a4e]
theorem d6e(x y:Int):wrap .u64 (bits .u8 .and x y)=bits .u8 .and x y:=by
 show wrap .u64 (wrap .u8 _)=wrap .u8 _
 grind[a6U,a0p]
theorem b6e(r:Rd)(i:Nat):a5c (r,(i:Int))=a1p (r,(i:Int)):=by
 unfold a5c a1p;have f:a62 (i:Int) 8=((i%8:Nat):Int):=by rfl
 have h:wrap .i64 (7-((i%8:Nat):Int))=7-((i%8:Nat):Int):=a0c (by omega);have g:wrap .u64 (7-((i%8:Nat):Int))=7-((i%8:Nat):Int):=a0p (by omega);simp_all[d6e]
theorem d0H{v:Nat}(hv:v<9223372036854775808){n:Nat}(e:n<=62){p0:Nat}:∀(m:Nat)(P R:List Int),m<=n->p0+(n-m)=P.length->a1t (P++(pb (v:Int) m++R))->(P++(pb (v:Int) m++R)).length<1000000000->
  a0d a6Q ((n:Int),((v / 2^m:Nat):Int),((n-m:Nat):Int),((wL (P++(pb (v:Int) m++R))).1,(p0:Int),(0:Int),()),())=some ((n:Int),(v:Int),((wL (P++(pb (v:Int) m++R))).1,(p0:Int),(0:Int),()),())
 |0,P,R,_,_,_,_=>by
  simp_all[a0g,a6Q]
 |m+1,P,R,hm,hp,hok,hlen=>by
  have p:decide (((n-(m+1):Nat):Int)<(n:Int))=true:=by grind
  have k:=b9o hok hlen (i:=P.length) (by simp[pb]) ((p0:Int),(0:Int),());rw[show(P++(pb (v:Int) (m+1)++R)).getD P.length 0=a4c v m from by simp_all[pb]]at k;have c:wrap .i64 ((p0:Int)+((n-(m+1):Nat):Int))=(P.length:Int):=by grind[a0c]
  have g:=b0q (v:=v) (by omega) (i:=m) (by omega);have a:v / 2^m%2<2:=a48 _ (by simp);have f:v / 2^(m+1)=v / 2^m / 2:=by grind[a55]
  have d:v / 2^m<=v:=a27 _ _;have j:a0t .u64 ((v / 2^(m+1):Nat):Int) 1=((v / 2^(m+1)*2^1:Nat):Int):=b5d (o:=1) (by omega) (by omega);have b:bits .u64 .or ((v / 2^(m+1)*2^1:Nat):Int) (a4c (v:Int) m)=((v / 2^m:Nat):Int):=by
   rw[g,orU (by omega) a (by omega),f];omega
  have l:wrap .i64 (((n-(m+1):Nat):Int)+1)=((n-m:Nat):Int):=by grind[a0c]
  have h:P++(pb (v:Int) (m+1)++R)=(P++[a4c v m])++(pb (v:Int) m++R):=by simp[pb]
  rw[a0k (s':=((n:Int),((v / 2^m:Nat):Int),((n-m:Nat):Int),((wL (P++(pb (v:Int) (m+1)++R))).1,(p0:Int),(0:Int),()),())) (by
   simp_all[a6Q,b6e])]
  rw[h];rw[d0H hv e m (P++[a4c v m]) R (by omega) (by grind) (by simp_all) (by simp_all)]
theorem e6n(b:n<=62)(hv:v<2^n)(h:OkR P (pb (v:Int) n++R)):a0z (rdr P (pb (v:Int) n++R),(n:Int))=some ((v:Int),rdr (P++pb (v:Int) n) R):=by
 obtain⟨f,a⟩:=h;have g:v<9223372036854775808:=a94 hv (a97 (a08 (by simp) b) (by simp));have k:=d0H g b (p0:=P.length) n P R (by omega) (by omega) f (by omega);rw[a46 hv,a63]at k;simp at k;obtain⟨-,j⟩:=a7g (P++(pb (v:Int) n++R));have l:(P++(pb (v:Int) n++R)).length=P.length+n+R.length:=by simp[a3a];omega
 have i:wrap .i64 (wrap .i64 ((8:Int)*(((wL (P++(pb (v:Int) n++R))).1.length:Nat):Int))-(P.length:Int))=(8:Int)*(((wL (P++(pb (v:Int) n++R))).1.length:Nat):Int)-(P.length:Int):=by
  grind[a0c]
 have c:decide ((n:Int)<0)=false:=by simp
 have d:decide ((n:Int) > 64)=false:=by grind
 have e:decide ((n:Int) > (8:Int)*(((wL (P++(pb (v:Int) n++R))).1.length:Nat):Int)-(P.length:Int))=false:=by
  grind
 have m:wrap .i64 ((P.length:Int)+(n:Int))=(((P++pb (v:Int) n).length:Nat):Int):=by grind[a0c]
 unfold a0z a1M;simp only[rdr,bne_self_eq_false,cF,c,d,oB,i,e];simp_all
theorem e1E(d:n<=62)(b:OkL L)(e:P++R=L)(i:R.length<n):
  a0x (rdr P R,(n:Int))=some (0,(wL (P++R)).1,(P.length:Int),(3:Int),())/\a0z (rdr P R,(n:Int))=some (0,(wL (P++R)).1,(P.length:Int),(3:Int),()):=by
 have c:=b.left e;have a:=b.len;rw[<-e]at a;simp at a;have k:wrap .i64 (wrap .i64 ((8:Int)*(((wL (P++R)).1.length:Nat):Int))-(P.length:Int))=(R.length:Int):=by
  grind[a0c]
 have h:decide ((n:Int)<0)=false:=by simp
 have g:decide ((n:Int) > 64)=false:=by grind
 have f:decide ((n:Int) > (R.length:Int))=true:=by simp_all
 constructor;unfold a0x a3C;simp only[rdr,bne_self_eq_false,cF,h,g,oB,k,f,cT];unfold a0z a1M;simp only[rdr,bne_self_eq_false,cF,h,g,oB,k,f,cT]
theorem a3b(a:OkL L)(g:St L r)(k:n<=62):
  ∃(v:Nat)(r':Rd),v<2^n/\a0x (r,(n:Int))=some ((v:Int),r')/\a0z (r,(n:Int))=some ((v:Int),r')/\St L r'/\Stp L r r' (pb (v:Int) n):=by
 rcases g with g|⟨P,R,e,rfl⟩;exact⟨0,r,a16 n,d6R g _,c6h g _,.inl g,fun c=>absurd c g⟩
 by_cases h:n<=R.length
 have hb:a1t (R.take n):=fun b hb=>a.bits b (by grind);obtain⟨v,hv,hp⟩:=e1D n (R.take n) hb (by simp_all) k;have d:R=pb (v:Int) n++R.drop n:=by grind[List.take_append_drop]
 have f:=a.okr e;generalize R.drop n=R' at d;subst d;exact⟨v,_,hv,d4a k hv f,e6n k hv f,.inr ⟨_,_,by simp_all,rfl⟩,fun _=>⟨P,R',e,rfl,rfl⟩⟩;obtain⟨i,j⟩:=e1E k a e (by omega:R.length<n);exact⟨0,_,a16 n,i,j,.inl (show(3:Int)≠0 by simp),fun c=>by grind⟩
theorem e6o(hv:v<2^n)(k:n<=62):∃x,c2O n x/\a5d x n=(v:Int):=by
 have hp:=a16 n
 by_cases h:2*v<2^n
 refine⟨(v:Int),⟨by omega,by omega⟩,?_⟩;obtain⟨w,g,a,f⟩:=b7U k (v:Int);rw[g,f,a53 (by omega) (by omega)];refine⟨(v:Int)-((2^n:Nat):Int),⟨by omega,by omega⟩,?_⟩;obtain⟨w,g,a,f⟩:=b7U k ((v:Int)-((2^n:Nat):Int));rw[g,f,Int.sub_emod_right,a53 (by omega) (by omega)]
theorem d9A(a:n<=62){v:Int}(f:a0x (r,(n:Int))=some (v,r'))(k:a0z (r,(n:Int))=some (v,r')):a3F (r,(n:Int))=a0G (r,(n:Int)):=by
 have h:wrap .i64 (64-(n:Int))=64-(n:Int):=a0c (by omega);have g:wrap .u64 (64-(n:Int))=64-(n:Int):=a0p (by omega);unfold a3F a0G
 grind
theorem d9B(h:r.2.2.1≠0)(n:Int):a0G (r,n)=some (0,r):=by
 simp_all[a0G,d6R,a4e]
theorem d6f(b:OkL L)(o:St L r)(f:n<=62):
  ∃(x:Int)(g:Rd),c2O n x/\a0G (r,(n:Int))=some (x,g)/\a3F (r,(n:Int))=some (x,g)/\St L g/\Stp L r g (pb (a5d x n) n):=by
 obtain⟨v,g,hv,e,i,j,a⟩:=a3b b o f;have l:=d9A f e i;have z0:c2O n 0:=by have:=a16 n;exact⟨by omega,by omega⟩
 rw[l]
 by_cases h0:g.2.2.1=0
 obtain⟨P,R,k,c,d⟩:=a h0;obtain⟨x,p,m⟩:=e6o hv f;rw[<-m]at k c d a
 have:=e1m f p (b.okr k)
 grind
 have:a0G (r,(n:Int))=some (0,g):=by
  simp_all[a0G,a4e]
 exact⟨0,g,z0,this,this,j,fun h=>absurd h h0⟩
theorem b8G:∀(R:List Int),a1t R->∃c R2,R=a00 c 0++R2/\(R2=[]\/∃R3,R2=1::R3)
 | [],_=>⟨0,[],rfl,.inl rfl⟩
 |b::R,h=>by
  rcases h b (by simp)with rfl|rfl;obtain⟨c,R2,e,g⟩:=b8G R fun x f=>h x (by simp[f]);exact⟨c+1,R2,by rw[e,a66];rfl,g⟩;exact⟨0,_,rfl,.inr ⟨R,rfl⟩⟩
theorem c2Y(P R:List Int)(i:Nat):(P++R).getD (P.length+i) 0=R.getD i 0:=by
 grind
theorem e3v{c:Nat}(h:i<c)(R:List Int):(a00 c (0:Int)++R).getD i 0=0:=by
 grind
theorem e1F(c:Nat)(R:List Int):(a00 c (0:Int)++1::R).getD c 0=1:=by
 simp
theorem d9C(y:OkL L)(s:St L r):
  ∃(v:Nat)(g:Rd),v<=32/\a3r (r,(32:Int))=some ((v:Int),g)/\a4k (r,(32:Int))=some ((v:Int),g)/\St L g/\Stp L r g (unB v)/\(g.2.2.1≠0->v=0):=by
 rcases s with s|⟨P,R,e,rfl⟩
 ·refine⟨0,r,by simp,?_,?_,.inl s,fun o=>absurd o s,fun _=>rfl⟩
  all_goals simp_all[a3r,a4e,a4k]
 have Q:=y.left e;have C:=y.len;obtain⟨p,E⟩:=y.okr e;rw[<-e]at C;simp at C;obtain⟨c,R2,D,z⟩:=b8G R fun b hb=>p b (List.mem_append_right _ hb);have H:R.length=c+R2.length:=by simp_all
 have j:∀i,i<R.length->∀t,a1p (((wL (P++R)).1,t),((P.length+i:Nat):Int))=some (R.getD i 0,(wL (P++R)).1,t):=fun i hi t=>by
  rw[<-c2Y P R i];exact b9o p (by omega) (by grind) t
 have e8:wrap .i64 ((8:Int)*(((wL (P++R)).1.length:Nat):Int))=((P.length+R.length:Nat):Int):=by grind[a0c]
 have q:wrap .i64 (((P.length+R.length:Nat):Int)-(P.length:Int))=(R.length:Int):=by grind[a0c]
 have F:a1s (32:Int) (0:Int)=32:=rfl

 have N:∀i,i<c->i<32->a1H ((32:Int),(i:Int),((P.length+i:Nat):Int),rdr P R,())=some (.inl ((32:Int),((i+1:Nat):Int),((P.length+(i+1):Nat):Int),rdr P R,())):=fun i hi x=>by
  have n1:(((P.length+i:Nat):Int)==((P.length+R.length:Nat):Int))=false:=by grind
  have n2:((i:Int)==32)=false:=by grind
  have u:R.getD i 0=0:=by grind
  have G:wrap .i64 ((i:Int)+1)=((i+1:Nat):Int):=a0b (by omega);have w2:wrap .i64 (((P.length+i:Nat):Int)+1)=((P.length+(i+1):Nat):Int):=by grind[a0c]
  simp only[a1H,rdr,e8,n1,cF]
  grind
 have q1:∀i,i<c->i<32->a2h ((32:Int),(i:Int),rdr P R,())=some (.inl ((32:Int),((i+1:Nat):Int),rdr P R,())):=fun i hi x=>by
  have n1:decide ((i:Int)<(R.length:Int))=true:=by grind
  have n2:decide ((i:Int)>=32)=false:=by grind
  have u:R.getD i 0=0:=by grind
  have G:wrap .i64 ((i:Int)+1)=((i+1:Nat):Int):=a0b (by omega);have w2:wrap .i64 ((P.length:Int)+(i:Int))=((P.length+i:Nat):Int):=by rw[a0c (by omega)];rfl
  simp only[a2h,a1M,rdr,e8,q,n1,cT,oB,w2,b6e];rw[j i (by omega)];simp only[oB,u,n2,G];rfl
 have K:(P.length:Int)=((P.length+0:Nat):Int):=rfl;have d:∀(m:Nat)(v:Int)(g:Rd)(w:(Rd×Unit) ⊕ (Int×Rd×Unit)),m<=c->m<=32->
   a1H ((32:Int),(m:Int),((P.length+m:Nat):Int),rdr P R,())=some (.inr (v,g,()))->
   a2h ((32:Int),(m:Int),rdr P R,())=some (.inr w)->
   (match w with|.inl a=>(0,a.1.1,a.1.2.1,(3:Int),a.1.2.2.2)|.inr b=>(b.1,b.2.1))=(v,g)->
   a3r (rdr P R,(32:Int))=some (v,g)/\a4k (rdr P R,(32:Int))=some (v,g):=fun m v g w S I hp hq T=>by
  have M:=a1E (f:=a1H) (fun i=>((32:Int),(i:Int),((P.length+i:Nat):Int),rdr P R,())) m (fun i hi=>N i (by omega) (by omega)) hp;have U:=a1E (f:=a2h) (fun i=>((32:Int),(i:Int),rdr P R,())) m (fun i hi=>q1 i (by omega) (by omega)) hq;constructor;unfold a3r;simp[show(rdr P R).2.2.1=0 from rfl,F]
  erw[M]
  rfl;unfold a4k;simp[show(rdr P R).2.2.1=0 from rfl,F]
  grind
 by_cases hc:c<=32
 rcases z with rfl|⟨n,rfl⟩
 
 have A:R.length=c:=by omega
 have h:=d c 0 ((wL (P++R)).1,(P.length:Int),(3:Int),()) (.inl (rdr P R,())) (a28 _) hc
  (by
   simp_all[a1H,rdr])
  (by
   have n1:decide ((c:Int)<(R.length:Int))=false:=by simp_all
   simp only[a2h,a1M,rdr,e8,q,n1,cF,oB])
  rfl
 exact⟨0,_,by simp,h.1,h.2,.inl (show(3:Int)≠0 by simp),(fun o=>by grind),fun _=>rfl⟩;have A:c<R.length:=by simp_all
 have b1:R.getD c 0=1:=by simp_all
 have n1:(((P.length+c:Nat):Int)==((P.length+R.length:Nat):Int))=false:=by grind
 have l:decide ((c:Int)<(R.length:Int))=true:=by grind
 have w2:wrap .i64 (((P.length+c:Nat):Int)+1)=((P.length+c+1:Nat):Int):=by rw[a0c (by omega)];rfl
 have B:wrap .i64 ((P.length:Int)+(c:Int))=((P.length+c:Nat):Int):=by rw[a0c (by omega)];rfl
 have k:((wL (P++R)).1,((P.length+c+1:Nat):Int),(0:Int),())=rdr (P++unB c) n:=by
  unfold rdr unB;rw[D]
  simp
  rfl
 have h:=d c (c:Int) (rdr (P++unB c) n) (.inr ((c:Int),rdr (P++unB c) n,())) (a28 _) hc
  (by
   rw[<-k];simp only[a1H,rdr,e8,n1,cF];simp_all)
  (by
   rw[<-k];simp only[a2h,a1M,rdr,e8,q,l,cT,oB,B,b6e];simp_all)
  rfl
 have O:R=unB c++n:=by rw[D];simp[unB]
 refine⟨c,_,hc,h.1,h.2,.inr ⟨P++unB c,n,by simp_all,rfl⟩,fun _=>⟨P,n,by simp_all,by simp_all,rfl⟩,fun o=>absurd rfl o⟩;have u:R.getD 32 0=0:=by grind
 have n1:(((P.length+32:Nat):Int)==((P.length+R.length:Nat):Int))=false:=by grind
 have l:decide (((32:Nat):Int)<(R.length:Int))=true:=by grind
 have B:wrap .i64 ((P.length:Int)+((32:Nat):Int))=((P.length+32:Nat):Int):=by rw[a0c (by omega)];rfl
 have h:=d 32 0 ((wL (P++R)).1,(P.length:Int),(2:Int),()) (.inr (0,((wL (P++R)).1,(P.length:Int),(2:Int),()),())) (by omega) (a28 _)
  (by
   simp only[a1H,rdr,e8,n1,cF];rw[j 32 (by omega)];simp_all)
  (by
   simp only[a2h,a1M,rdr,e8,q,l,cT,oB,B,b6e];rw[j 32 (by omega)];simp_all)
  rfl
 exact⟨0,_,by simp,h.1,h.2,.inl (show(2:Int)≠0 by simp),(fun o=>by grind),fun _=>rfl⟩
inductive Rds (n:Nat):Rd->List Int->Rd->Prop
 |nil (r:Rd):Rds n r [] r
 |cons {r r1 r2:Rd} {x:Int} {l:List Int} (h1:a0G (r,(n:Int))=some (x,r1)) (h2:r.2.2.1=0->a3F (r,(n:Int))=some (x,r1)) (h:Rds n r1 l r2):Rds n r (x::l) r2
theorem c2Z{L:List Int}(g:OkL L){n:Nat}(f:n<=62):∀(m:Nat){r:Rd},St L r->∃l h,Rds n r l h/\l.length=m/\(∀x∈l,c2O n x)/\St L h/\Stp L r h (sB n l)
 |0,r,hr=>⟨[],r,.nil r,rfl,by simp,hr,Stp.refl hr⟩
 |m+1,r,hr=>by
  obtain⟨x,s,j,k,a,b,c⟩:=d6f g hr f;obtain⟨l,h,d,p,q,e,i⟩:=c2Z g f m b;refine⟨x::l,h,.cons k (fun _=>a) d,by grind,fun y o=>?_,e,?_⟩
  grind
  exact Stp.trans c i
theorem d6S(h:Rds n r l r')(g:r.2.2.1≠0):r'=r:=by
 induction h with
 |nil=>rfl
 |cons h1 _ _ ih=>
  rw[d9B g]at h1;simp_all
theorem e1G(a:N<1000000)(h:Rds n r l r'):∀(d:List Int),d.length+l.length=N->
  ∃l',a0d a1V ((N:Int),(n:Int),(d.length:Int),d,r,())=some (d++l',r',())/\(r'.2.2.1=0->l'=l):=by
 induction h with
 |nil r=>
  intro d f
  have:d.length=N:=by omega
  refine⟨[],?_,fun _=>rfl⟩;simp_all[a0g,a1V]
 | @cons r r1 r2 x l h1 h2 h ih=>
  intro d f;rw[lC]at f
  by_cases h0:r.2.2.1=0
  obtain⟨l',b,c⟩:=ih (d++[x]) (by grind);refine⟨x::l',?_,fun k=>by simp_all⟩;have g:(r.2.2.1==(0:Int))=true:=by simp_all
  rw[a0k (s':=((N:Int),(n:Int),(((d++[x]).length:Nat):Int),d++[x],r1,())) (by
   simp only[a1V,dlt (show d.length<N by omega),cT,g,h2 h0,oB,a0H (show d.length+1<2147483648 by omega),a0b (show d.length<1000000 by omega)]
   simp)]
  simp_all;have hb:=d6S (Rds.cons h1 h2 h) h0;refine⟨[],?_,fun k=>absurd k (by simp_all)⟩;have g:(r.2.2.1==(0:Int))=false:=by simp_all
  rw[hb,a61];exact a0g (by simp only[a1V,dlt (show d.length<N by omega),cT,g,cF])
theorem c3I(g:l.length<1000000)(h:Rds n r l r'):∃l',a1K (r,(l.length:Int),(n:Int))=some (l',r')/\(r'.2.2.1=0->l'=l):=by
 obtain⟨l',f,k⟩:=e1G g h [] (by simp);simp_all[a1K]
theorem f1h(u:Nat)(h:u<18446744073709551616):bits .u64 .and (u:Int) 1=((u%2:Nat):Int):=by
 show wrap .u64 (((a04 64 (u:Int)) &&& (a04 64 1)).toNat:Int)=_
 grind[a0p]
theorem f4W{y:Nat}(g:y<9223372036854775808):bits .i64 .xor (-1) (y:Int)=-(y:Int)-1:=by
 show wrap .i64 (((a04 64 (-1)) ^^^ (a04 64 (y:Int))).toNat:Int)=_;have h:((a04 64 (-1)) ^^^ (a04 64 (y:Int))).toNat=18446744073709551615-y:=by
  rw[show a04 64 (-1)=b09 64 from by rfl,a93,b01,a26,a32,a30 (by omega)]
 grind[wrap,IntKind.bits,IntKind.signed]
theorem d6T{u:Nat}(b:u<18446744073709551616):b6N (u:Int)=a3L (u:Int):=by
 have a:a62 (u:Int) 2=((u%2:Nat):Int):=rfl;have f:a76 (u:Int) 2=((u / 2:Nat):Int):=rfl;have k:a0v .u64 (u:Int) 1=((u / 2:Nat):Int):=a5G (N:=u) (o:=1) (by omega);have c:wrap .u64 ((u / 2:Nat):Int)=((u / 2:Nat):Int):=a0p (by omega);have w2:wrap .i64 ((u / 2:Nat):Int)=((u / 2:Nat):Int):=a0c (by omega);unfold b6N a3L;simp only[a,f,k,c,w2,f1h u b];have g:u%2=0\/u%2=1:=by omega
 rcases g with h|h;simp_all;rw[h,f4W (by omega),a0c (n:=0-((u / 2:Nat):Int)) (by omega),a0c (n:=0-((u / 2:Nat):Int)-1) (by omega)]
 simp
theorem c8h{u:Nat}(h:u<18446744073709551616):b4C (u:Int)=a5i (u:Int):=by
 simp_all[b4C,a5i,d6T,a3L]
theorem d0I{u:Nat}(g:u<2147483648):∃x,a0i x=true/\a1b x=u:=by
 by_cases h:u%2=0
 refine⟨((u / 2:Nat):Int),a3G.2 (by omega),?_⟩;unfold a1b
 grind
 refine⟨-((u / 2:Nat):Int)-1,a3G.2 (by omega),?_⟩;unfold a1b
 grind
theorem e1H(S:OkL L)(hr:St L r)(hk:k<=25)(hi:i<N)(hN:N<1000000){acc:List Int}(ha:acc.length<1000000):
  (∃x r',a0i x=true/\r'.2.2.1=0/\St L r'/\Stp L r r' (b4K k x)/\
   a2c ((k:Int),(N:Int),(i:Int),acc,r,())=some (.inl ((k:Int),(N:Int),((i+1:Nat):Int),acc++[x],r',()))/\
   a1D ((k:Int),(N:Int),(i:Int),acc,r,())=some (.inl ((k:Int),(N:Int),((i+1:Nat):Int),acc++[x],r',())))\/
  ∃(e:Int)(r':Rd),e≠0/\a2c ((k:Int),(N:Int),(i:Int),acc,r,())=some (.inr (.inr (e,[],r',())))/\
   a1D ((k:Int),(N:Int),(i:Int),acc,r,())=some (.inr (.inr (e,[],r',()))):=by
 obtain⟨q,Q,hq,H,F,X,h4,h5⟩:=d9C S hr;have C:2^k<=33554432:=a97 (a08 (by simp) hk) (by simp);have T:=a16 k;have E:wrap .u64 (q:Int)=(q:Int):=a0p (by omega);have P:wrap .u64 (k:Int)=(k:Int):=a0p (by omega);have p:decide ((k:Int)<0)=false:=by simp
 have h:=dlt hi;have t:=a0H (show acc.length+1<2147483648 by omega);have z:=a0b (show i<1000000 by omega)
 by_cases e1:Q.2.2.1=0
 rotate_left
 
 have q0:=h5 e1;subst q0;refine .inr ⟨Q.2.2.1,Q,e1,?_,?_⟩;simp_all[a2c,a5y,a0n,a4e];have d:decide (((0:Nat):Int)<32)=true:=by rfl
 simp only[a1D,h,cT,F,d,P,p,cF,c6h e1,oB,a4e e1];have m:(Q.2.2.1 != (0:Int))=false:=by simp_all
 have Y:∀(c:Nat)(n:Nat),c<=62->(c:Int)=(n:Int)->c=n:=by omega
 by_cases hq32:q<32
 have d:decide ((q:Int)<32)=true:=by grind
 obtain⟨v,r2,hv,A,B,R,Z⟩:=a3b S X (n:=k) (by omega);have w:a0t .u64 (q:Int) (k:Int)=((q*2^k:Nat):Int):=b5d (by omega) (by
  have:q*2^k<=31*33554432:=a39 (by omega) C
  omega)
 have h0:q*2^k<=31*33554432:=a39 (by omega) C;have D:wrap .u64 (((q*2^k:Nat):Int)+(v:Int))=((q*2^k+v:Nat):Int):=by rw[a0p (by omega)];rfl
 have M:bits .u64 .or ((q*2^k:Nat):Int) (v:Int)=((q*2^k+v:Nat):Int):=by
  have:=orA (a:=v) (b:=q) (k:=k) hv (by omega)
  rw[Nat.add_comm,<-this];show wrap .u64 (((a04 64 _ ||| a04 64 _).toNat:Nat):Int)=wrap .u64 (((a04 64 _ ||| a04 64 _).toNat:Nat):Int)
  grind
 have U:q*2^k+v<2147483648:=by omega
 obtain⟨x,O,s⟩:=d0I U;have j:=d0z O;rw[s]at j;have f:=c8h (u:=q*2^k+v) (by omega);rw[j]at f
 by_cases e2:r2.2.2.1=0
 have l:(r2.2.2.1 != (0:Int))=false:=by grind
 refine .inl ⟨x,r2,O,e2,R,?_,?_,?_⟩;have hb:b4K k x=unB q++pb (v:Int) k:=by
  have I:a1b x / 2^k=q:=by rw[s,a51,Nat.mul_add_div T,a46 hv];rfl
  have K:a1b x%2^k=v:=by grind[a51,Nat.mul_add_mod,a30]
  unfold b4K;rw[I,if_pos hq32,K]
 grind[Stp.trans]
 simp only[a2c,a5y,a0n,h,cT,H,oB,m,cF,E,d,A,p,w,D,j,l,t,z,a06];simp only[a1D,h,cT,F,d,P,E,p,cF,B,oB,w,M,l,f,t,z,a06];refine .inr ⟨r2.2.2.1,r2,e2,?_,?_⟩;simp only[a2c,a5y,a0n,h,cT,H,oB,m,cF,E,d,A,p,w,D,j,a4e e2];simp only[a1D,h,cT,F,d,P,E,p,cF,B,oB,w,M,a4e e2]
 ·have V:q=32:=by omega
  subst V;have d:decide (((32:Nat):Int)<32)=false:=by rfl
  obtain⟨v,r2,hv,A,B,R,Z⟩:=a3b S X (n:=32) (by omega);rw[show((32:Nat):Int)=32 from rfl]at A B
  by_cases e2:r2.2.2.1=0
  rotate_left;have g:(r2.2.2.1==(0:Int))=false:=by simp_all
  refine .inr ⟨r2.2.2.1,r2,e2,?_,?_⟩;simp only[a2c,a5y,a0n,h,cT,H,oB,m,cF,E,d,A,a4e e2];simp only[a1D,h,cT,F,d,cF,B,oB,g,a4e e2];have l:(r2.2.2.1 != (0:Int))=false:=by simp_all
  have g:(r2.2.2.1==(0:Int))=true:=by simp_all
  have y:a0v .u64 (v:Int) (k:Int)=((v / 2^k:Nat):Int):=a5G (by omega);have h6:v<4294967296:=hv
  by_cases hbig:v<2147483648/\32<=v / 2^k
  have o:decide ((v:Int)>=2147483648)=false:=by grind
  have G:decide (((v / 2^k:Nat):Int)<32)=false:=by grind
  obtain⟨x,O,s⟩:=d0I hbig.1;have j:=d0z O;rw[s]at j;have f:=c8h (u:=v) (by omega);rw[j]at f;refine .inl ⟨x,r2,O,e2,R,?_,?_,?_⟩;have hb:b4K k x=unB 32++pb (v:Int) 32:=by
   unfold b4K
   grind
  grind[Stp.trans]
  simp only[a2c,a5y,a0n,h,cT,H,oB,m,cF,E,d,A,l,o,p,y,G,j,t,z,a06]
  simp
  simp only[a1D,h,cT,F,d,P,cF,B,oB,g,o,p,y,G,l,f,t,z,a06];refine .inr ⟨2,r2,by simp,?_,?_⟩
  by_cases hb1:v<2147483648
  have o:decide ((v:Int)>=2147483648)=false:=by grind
  have G:decide (((v / 2^k:Nat):Int)<32)=true:=by grind
  simp only[a2c,a5y,a0n,h,cT,H,oB,m,cF,E,d,A,l,o,p,y,G]
  simp
  have o:decide ((v:Int)>=2147483648)=true:=by grind
  simp only[a2c,a5y,a0n,h,cT,H,oB,m,cF,E,d,A,l,o]
  simp
  by_cases hb1:v<2147483648
  have o:decide ((v:Int)>=2147483648)=false:=by grind
  have G:decide (((v / 2^k:Nat):Int)<32)=true:=by grind
  simp only[a1D,h,cT,F,d,P,cF,B,oB,g,o,p,y,G];have o:decide ((v:Int)>=2147483648)=true:=by grind
  simp only[a1D,h,cT,F,d,cF,B,oB,g,o]
theorem d0J{L:List Int}(g:OkL L){k:Nat}(a:k<=25){N:Nat}(f:N<1000000):∀(m:Nat)(acc:List Int)(r:Rd),acc.length+m=N->St L r->r.2.2.1=0->
  (∃l h,l.length=m/\l.all a0i=true/\h.2.2.1=0/\St L h/\Stp L r h (b9p k l)/\
   a0d a2c ((k:Int),(N:Int),(acc.length:Int),acc,r,())=some (.inl (acc++l,h,()))/\
   a0d a1D ((k:Int),(N:Int),(acc.length:Int),acc,r,())=some (.inl (acc++l,h,())))\/
  ∃(e:Int)(h:Rd),e≠0/\a0d a2c ((k:Int),(N:Int),(acc.length:Int),acc,r,())=some (.inr (e,[],h,()))/\
   a0d a1D ((k:Int),(N:Int),(acc.length:Int),acc,r,())=some (.inr (e,[],h,()))
 |0,acc,r,hm,hr,h0=>by
  have:acc.length=N:=by omega
  refine .inl ⟨[],r,rfl,rfl,h0,hr,Stp.refl hr,?_,?_⟩
  all_goals simp_all[a0g,a2c,a1D]
 |m+1,acc,r,hm,hr,h0=>by
  rcases e1H g hr a (N:=N) (i:=acc.length) (by omega) f (acc:=acc) (by omega)with⟨x,u,w,b,s1,v,p,q⟩|⟨e,h,c,p,q⟩
  ·have d:(acc++[x]).length=acc.length+1:=by simp
   rw[a0k p,a0k q,<-d];rcases d0J g a f m (acc++[x]) u (by omega) s1 b with⟨l,h,y,z,j,n,o,s,t⟩|⟨e,h,c,s,t⟩
   ·refine .inl ⟨x::l,h,by grind,by simp_all,j,n,?_,?_,?_⟩;exact Stp.trans v o
    all_goals simp_all
   simp_all
  simp_all[a0g]
theorem e1I(b:OkL L)(d:k<=25)(i:m<1000000)(j:St L r)(a:r.2.2.1=0):
  (∃l h,l.length=m/\l.all a0i=true/\h.2.2.1=0/\St L h/\Stp L r h (b9p k l)/\b0H (r,(k:Int),(m:Int))=some (l,0,h)/\a7R (r,(k:Int),(m:Int))=some (l,0,h))\/
  ∃(e:Int)(h:Rd),e≠0/\b0H (r,(k:Int),(m:Int))=some ([],e,h)/\a7R (r,(k:Int),(m:Int))=some ([],e,h):=by
 have hp:a8q (k:Int)=some true:=by
  grind[a8q]
 have hq:a1J (k:Int)=some true:=by
  grind[a1J]
 have t:decide ((m:Int)<0)=false:=by simp
 have u:decide ((m:Int) > 4194304)=false:=by grind
 have v:(r.2.2.1 != (0:Int))=false:=by simp_all
 rcases d0J b d i m [] r (by simp) j a with⟨l,h,n,o,p,q,s,g,f⟩|⟨e,h,c,g,f⟩;simp only[a19,nZ,a50]at g f;refine .inl ⟨l,h,n,o,p,q,s,?_,?_⟩;unfold b0H a0n
 grind
 unfold a7R
 grind
 simp at g f;refine .inr ⟨e,h,c,?_,?_⟩;unfold b0H a0n
 grind
 unfold a7R
 grind
def a5g(x:List Int):Prop:=∀b∈x,0<=b/\b<256
theorem e8z{c:Int}(h:0<=c/\c<256):bits .u8 .and c 127=c%128:=by
 have g:∀k:Fin 256,bits .u8 .and (k.1:Int) 127=((k.1%128:Nat):Int):=by decide +kernel
 obtain⟨n,rfl⟩:=a01 h.1
 have:=g ⟨n,by omega⟩
 simp_all
def b5w(n c:Int)(i:Nat):Int:=bits .u64 .or n (a0t .u64 (c%128) ((7*i:Nat):Int))
def c3a(c:Int)(i:Nat):Bool:=(decide (i=9)&&decide (c > 1)) || (decide (0<i)&&decide (c=0))
theorem e8A(hb:a5g t)(l:t.length<1000000000)(hi:i<t.length)(j:i<=9)(n:Int):
  a3l (n,t,(t.length:Int),(i:Int),())=bif c3a t[i] i then some (.inr (.inr (0,0,2,())))else
   bif decide (t[i]<128)then some (.inr (.inr (b5w n t[i] i,((i+1:Nat):Int),0,())))else some (.inl (b5w n t[i] i,t,(t.length:Int),((i+1:Nat):Int),())):=by
 have g:=hb t[i] (a05 hi);have e:wrap .i64 (7*(i:Int))=((7*i:Nat):Int):=by grind[a0c]
 have k:decide (((7*i:Nat):Int)<0)=false:=decide_eq_false (by omega);have tm:a62 t[i] 128=t[i]%128:=a45 g.1;have f:wrap .u64 (t[i]%128)=t[i]%128:=a0p (by omega);have h:=a0b (show i<1000000 by omega);simp only[a3l,dlt hi,cT,a0e hi,oB];generalize t[i]=c at g tm f|-;have a:((i:Int)==9)=decide (i=9):=by grind
 have b:decide ((i:Int) > 0)=decide (0<i):=by simp
 have d:(c==0)=decide (c=0):=rfl;simp only[a,b,d,c3a];generalize decide (i=9)=b1;generalize decide (c > 1)=b2;generalize decide (0<i)=b3;generalize decide (c=0)=b4;cases b1<;>cases b2<;>cases b3<;>cases b4 <;>
  simp only[cT,cF,Bool.and_true,a52,Bool.or_true,Bool.or_false,oB,e,k,tm,f,h,b5w]
theorem e6p{x:List Int}(hb:a5g x)(s:x.length<1000000000){p:Nat}(hi:p+i<x.length)(r:i<=9)(h n:Int):
  a2V (h,n,(i:Int),(x,(p:Int),(0:Int),()),())=bif c3a x[p+i] i then some (.inr (.inr (0,(x,(p:Int),(2:Int),()),())))else
   bif decide (x[p+i]<128)then(bif decide (b5w n x[p+i] i > h)then some (.inr (.inr (0,(x,(p:Int),(4:Int),()),())))else some (.inr (.inr (b5w n x[p+i] i,(x,((p+(i+1):Nat):Int),(0:Int),()),()))))
   else some (.inl (h,b5w n x[p+i] i,((i+1:Nat):Int),(x,(p:Int),(0:Int),()),())):=by
 have b:=hb x[p+i] (a05 hi);have wp:wrap .i64 ((p:Int)+(i:Int))=((p+i:Nat):Int):=by grind[a0c]
 have q:wrap .i64 (7*(i:Int))=((7*i:Nat):Int):=by grind[a0c]
 have a:wrap .u64 ((7*i:Nat):Int)=((7*i:Nat):Int):=a0p (by omega);have j:decide (((7*i:Nat):Int)<0)=false:=decide_eq_false (by omega);have d:=e8z b;have e:wrap .u64 (x[p+i]%128)=x[p+i]%128:=a0p (by omega);have k:=a0b (show i<1000000 by omega);have f:wrap .i64 (((p+i:Nat):Int)+1)=((p+(i+1):Nat):Int):=by grind[a0c]
 simp only[a2V,wp,dlt hi,cT,a0e hi,oB];generalize x[p+i]=c at b d e|-;have g:decide (c>=128)=!decide (c<128):=by
  grind
 have l:((i:Int)==9)=decide (i=9):=by grind
 have m:decide ((i:Int) > 0)=decide (0<i):=by simp
 have o:(c==0)=decide (c=0):=rfl;simp only[l,m,o,c3a];generalize decide (i=9)=b1;generalize decide (c > 1)=b2;generalize decide (0<i)=b3;generalize decide (c=0)=b4;cases b1<;>cases b2<;>cases b3<;>cases b4 <;>
  simp only[cT,cF,Bool.and_true,a52,Bool.or_true,Bool.or_false,oB,wp,q,a,j,d,e,k,f,g,b5w] <;>
  (try (cases decide (c<128)<;>(try simp only[bT,a15,cT,cF])<;>rfl))
theorem d6g(n c:Int)(i:Nat):0<=b5w n c i:=by
 show 0<=wrap .u64 _
 grind[wrap,IntKind.signed]
theorem d6U{N i:Nat}{c:Int}(d:0<=c/\c<256)(f:N<2^(7*i))(h:i<=8\/(i=9/\c=1)):b5w (N:Int) c i=((N+(c%128).toNat*2^(7*i):Nat):Int)/\N+(c%128).toNat*2^(7*i)<2^(7*(i+1)):=by
 obtain⟨b,hb⟩:=a01 (show 0<=c%128 by omega);have k:b<128:=by omega
 have a:N+b*2^(7*i)<2^(7*(i+1)):=by
  rw[show 7*(i+1)=7*i+7 from by rfl,b02]
  have:b*2^(7*i)<=127*2^(7*i):=a60 _ (by omega)
  omega
 have g:a0t .u64 (b:Int) ((7*i:Nat):Int)=((b*2^(7*i):Nat):Int)/\b*2^(7*i)+N<18446744073709551616:=by
  rcases h with h|⟨rfl,rfl⟩;have hp:2^(7*i)<=2^56:=a08 (by simp) (by omega);have e:b*2^(7*i)<=127*2^56:=a39 (by omega) hp;exact⟨b5d (by omega) (by omega),by omega⟩;obtain rfl:b=1:=by omega
  exact⟨rfl,by omega⟩
 unfold b5w;rw[hb,g.1,orA f g.2];simp_all
theorem d0K{x:List Int}(hb:a5g x)(j:x.length<1000000000){p:Nat}(hp:p<=x.length)(g:Int):∀(m i:Nat)(n:Int),p+i+m=x.length->i<=9->
  (a0d a3l (n,x.drop p,((x.drop p).length:Int),(i:Int),())=some (.inl ())/\
   a0d a2V (g,n,(i:Int),(x,(p:Int),(0:Int),()),())=some (.inl ((x,(p:Int),(0:Int),()),())))\/
  (a0d a3l (n,x.drop p,((x.drop p).length:Int),(i:Int),())=some (.inr (0,0,2,()))/\
   a0d a2V (g,n,(i:Int),(x,(p:Int),(0:Int),()),())=some (.inr (0,(x,(p:Int),(2:Int),()),())))\/
  ∃(v:Int)(z:Nat),0<=v/\(∀N:Nat,n=(N:Int)->N<2^(7*i)->∃w:Nat,v=((N+w*2^(7*i):Nat):Int)/\z=i+(a3w w).length/\(0<i->1<=w))/\p+z<=x.length/\a0d a3l (n,x.drop p,((x.drop p).length:Int),(i:Int),())=some (.inr (v,(z:Int),0,()))/\
   a0d a2V (g,n,(i:Int),(x,(p:Int),(0:Int),()),())=bif decide (v > g)then some (.inr (0,(x,(p:Int),(4:Int),()),()))else some (.inr (v,(x,((p+z:Nat):Int),(0:Int),()),()))
 |0,i,n,hm,h9=>by
  have G:(x.drop p).length=i:=by grind
  have wp:wrap .i64 ((p:Int)+(i:Int))=(x.length:Int):=by grind[a0c]
  simp_all[a0g,a3l,a2V]
 |m+1,i,n,hm,h9=>by
  have hi:p+i<x.length:=by omega
  have c:i<(x.drop p).length:=by grind
  have a:a5g (x.drop p):=fun b h=>hb b (a33 h);have A:(x.drop p)[i]=x[p+i]:=by simp
  have f:=e8A a (by grind) c h9 n;have r2:=e6p hb j hi h9 g n;rw[A]at f;have t:=hb x[p+i] (a05 hi);cases hv:c3a x[p+i] i with
  |true=>
   simp_all[a0g]
  |false=>
   rw[hv]at f r2;simp only[cF]at f r2;have q:i<=8\/(i=9/\(x[p+i]<128->x[p+i]=1)):=by
    by_cases e:i<=8
    omega;obtain rfl:i=9:=by omega
    refine .inr ⟨rfl,fun _=>?_⟩
    grind[c3a]
   by_cases h128:x[p+i]<128
   rw[decide_eq_true h128]at f r2;simp only[cT]at f r2;refine .inr (.inr ⟨b5w n x[p+i] i,i+1,d6g _ _ _,fun N r k=>?_,by omega,a0g f,?_⟩)
   grind[c3E,d6U,c3a]
   grind[a0g]
   rw[decide_eq_false h128]at f r2;simp only[cF]at f r2;have u:i≠9:=fun h=>by
    grind[c3a]
   rw[a0k f,a0k r2];rcases d0K hb j hp g m (i+1) (b5w n x[p+i] i) (by omega) (by omega)with h|h|⟨v,z,B,C,D⟩;simp_all;simp_all;refine .inr (.inr ⟨v,z,B,fun N r k=>?_,D⟩);obtain⟨F,o⟩:=d6U (N:=N) t k (.inl (by omega));obtain⟨w,E,l,d⟩:=C _ (by simp_all) o;have d:=d (by omega);obtain⟨b,hb⟩:=a01 (show 0<=x[p+i]%128 by omega);have s:(x[p+i]%128).toNat=b:=by omega
   have y:(b+128*w) / 128=w:=by omega
   refine⟨b+128*w,?_,?_,fun _=>by omega⟩
   grind
   rw[l,c9I (show ¬ b+128*w<128 by omega),lC,y];omega
@[reducible] def oP(x:List Int)(k p:Nat)(e:Int):Rd:=(x.drop k,((p:Int),(e,())))
@[reducible] def oR(x:List Int)(k p:Nat)(e:Int):Rd:=(x,(((p+k:Nat):Int),(e,())))
theorem a3m{x:List Int}(hb:a5g x)(l:x.length<1000000000){p:Nat}(hp:p+k<=x.length)(e:Int)(g:Nat):
  ∃(v p':Nat)(e':Int),v<=g/\p'+k<=x.length/\(e'=0->e=0/\p'=p+(a3w v).length)/\a0B (oP x k p e,(g:Int))=some ((v:Int),oP x k p' e')/\a0J (oR x k p e,(g:Int))=some ((v:Int),oR x k p' e'):=by
 by_cases he:e=0
 rotate_left
 ·have hb:(e != (0:Int))=true:=by simp_all
  refine⟨0,p,e,b04 _,hp,fun h=>absurd h he,?_,?_⟩
  all_goals simp[a0B,hb,a0J]
 subst he;have i:decide ((0:Int)<=(p:Int))=true:=by simp
 have j:decide ((p:Int)<=((x.drop k).length:Int))=true:=by grind
 have c:a82 (a24 (p:Int)) (a69 (x.drop k).length (x.drop k))=x.drop (p+k):=by
  grind[List.drop_drop]
 have z0:((0:Int) != 0)=false:=rfl;unfold a0B a0J oP oR b3U;simp only[z0,cF,i,j,a02,cT,c];have d:=d0K hb l (p:=p+k) (by omega) (g:Int) (x.length-(p+k)) 0 0 (by omega) (by omega);simp only[nZ]at d;rcases d with⟨f,a⟩|⟨f,a⟩|⟨v,z,hv,b,q,f,a⟩
 erw[f,a]
 exact⟨0,p,3,b04 _,hp,fun h=>(by omega),rfl,rfl⟩
 erw[f,a]
 exact⟨0,p,2,b04 _,hp,fun h=>(by omega),rfl,rfl⟩
 erw[f,a]
 obtain⟨u,rfl⟩:=a01 hv
 by_cases hgt:(u:Int) > (g:Int)
 grind
 simp only[decide_eq_false hgt,cF];obtain⟨w,n,o,-⟩:=b 0 rfl (by simp);have m:w=u:=by omega
 refine⟨u,p+z,0,by omega,by omega,fun _=>⟨trivial,by simp_all⟩,?_,?_⟩;have w:wrap .i64 ((p:Int)+(z:Int))=((p+z:Nat):Int):=by grind[a0c]
 grind
 grind
theorem e3w{k:Int}(f:N<1000000)(h:Rds n r l r'):∀(d:List Int),d.length+l.length=N->
  a0d b0I (k,(n:Int),(N:Int),(d.length:Int),d,r,())=some (k,(n:Int),d++l,r',()):=by
 induction h with
 |nil r=>
  simp_all[a0g,b0I]
 | @cons r r1 r2 x l h1 h2 h ih=>
  intro d g;rw[lC]at g;rw[a0k (s':=(k,(n:Int),(N:Int),(((d++[x]).length:Nat):Int),d++[x],r1,())) (by
   simp only[b0I,dlt (show d.length<N by omega),cT,h1,oB,a0H (show d.length+1<2147483648 by omega),a0b (show d.length<1000000 by omega)]
   simp)]
  grind
theorem d0L(g:n<=31)(h:∀x∈l,c2O n x):l.all a0i=true:=lA.2 fun x f=>by
 have hp:2^n<=2^31:=a08 (by simp) g
 have:=h x f
 unfold c2O at this
 grind[a3G]
theorem e3x(y:OkL L)(R:St L r)(V:m<=5000):
  (∃(k:Nat)(l:List Int)(b:Rd),kB (k:Int)=true/\l.length=m/\l.all a0i=true/\b.2.2.1=0/\St L b/\Stp L r b (b7V (k:Int) l)/\a3t (r,(m:Int))=some ((k:Int),l,0,b)/\
   ∃h,a0z (r,(5:Int))=some ((k:Int),h)/\h.2.2.1=0/\a5F (h,(k:Int),(m:Int))=some (l,0,b))\/
  ∃(e:Int)(b:Rd)(k0:Int)(l0:List Int)(v:Nat)(h:Rd),e≠0/\v<32/\a3t (r,(m:Int))=some (k0,l0,e,b)/\a0z (r,(5:Int))=some ((v:Int),h)/\
   (h.2.2.1≠0\/(h.2.2.1=0/\∃(l1:List Int)(a:Int)(r2:Rd),a≠0/\a5F (h,(v:Int),(m:Int))=some (l1,a,r2))):=by
 obtain⟨k,h,i,x,c,E,F⟩:=a3b y R (n:=5) (by omega);have i:k<32:=i;rw[show((5:Nat):Int)=5 from rfl]at x c
 by_cases a:h.2.2.1=0
 rotate_left;refine .inr ⟨h.2.2.1,h,0,[],k,h,a,i,?_,c,.inl a⟩;simp_all[a3t,a0n,a4e];have o:(h.2.2.1 != (0:Int))=false:=by simp_all
 have C:wrap .i64 (k:Int)=(k:Int):=a0c (by omega);have g:a1J (k:Int)=some (decide ((k:Int)<=25)):=by
  rfl
 by_cases hk25:k<=25
 have j:decide ((k:Int)<=25)=true:=by grind
 have f:((k:Int) != 31)=true:=by grind
 rw[j]at g;rcases e1I y hk25 (show m<1000000 by omega) E a with⟨l,b,t,u,z,D,P,Q,A⟩|⟨e,b,G,Q,A⟩;refine .inl ⟨k,l,b,?_,t,u,z,D,?_,?_,h,c,a,?_⟩;simp[kB];omega;unfold b7V;rw[if_neg (by omega),tN];exact Stp.trans F P;simp_all[a3t,a0n];simp only[a5F,f,cT,g,oB,bT,cF,A];refine .inr ⟨e,b,(k:Int),[],k,h,G,i,?_,c,.inr ⟨a,[],e,b,G,?_⟩⟩;simp_all[a3t,a0n];simp only[a5F,f,cT,g,oB,bT,cF,A];have j:decide ((k:Int)<=25)=false:=by grind
 rw[j]at g
 by_cases hk31:k=31
 rotate_left;have f:((k:Int) != 31)=true:=by grind
 refine .inr ⟨2,h,0,[],k,h,by simp,i,?_,c,.inr ⟨a,[],2,h,by simp,?_⟩⟩;simp only[a3t,a0n,x,oB,o,cF,C,j,f,cT];simp only[a5F,f,cT,g,oB,a15];subst hk31;have q:((31:Nat):Int)=31:=rfl;rw[q]at x c F C j g;have f:((31:Int) != 31)=false:=by rfl
 obtain⟨w,r2,H,t,u,z,D⟩:=a3b y E (n:=5) (by omega);have H:w<32:=H;rw[show((5:Nat):Int)=5 from rfl]at t u;have O:wrap .i64 (w:Int)=(w:Int):=a0c (by omega);obtain⟨l,d,q1,I,S,T,X⟩:=c2Z y (n:=w) (by omega) m z;have K:=e3w (k:=(31:Int)) (N:=m) (by omega) q1 [] (by simp_all);obtain⟨l',M,U⟩:=c3I (by omega) q1;simp at K;rw[I]at M;have s:short l:=by unfold short;omega
 by_cases e3:d.2.2.1=0
 rotate_left
 ·refine .inr ⟨d.2.2.1,d,0,[],31,h,e3,i,?_,c,.inr ⟨a,[],d.2.2.1,d,e3,?_⟩⟩
  all_goals simp_all[a3t,a0n,a4e,a5F]
 have p:(d.2.2.1 != (0:Int))=false:=by simp_all
 obtain rfl:=U e3
 by_cases hwd:a0r l'=w
 ·have B:(((a0r l':Nat):Int) != (w:Int))=false:=by simp_all
  refine .inl ⟨31,l',d,by rfl,I,d0L (by omega) S,e3,T,?_,?_,h,c,a,?_⟩;unfold b7V;rw[if_pos (show((31:Nat):Int)=31 from rfl),hwd]
  grind[Stp.trans]
  all_goals simp_all[a3t,a0n,a6W,a5F,a7X]
 have B:(((a0r l':Nat):Int) != (w:Int))=true:=by grind
 refine .inr ⟨2,d,0,[],31,h,by simp,i,?_,c,.inr ⟨a,[],2,d,by simp,?_⟩⟩;simp[a3t,a0n,x,o,C,t,O]
 erw[K]
 simp only[oB,p,cF,a6W s,B,cT];rw[q];simp only[a5F,f,cF,u,O,oB,M,p,a7X s,B,cT]
def c3b:Prt:=(0,[],())
theorem b7Z{L:List Int}(F:OkL L){o:Int}{z0:Prt}{all:List Nat}(d:all.length<=256):∀(zs dz:List Nat)(dk acc:List Int)(r:Rd),dz++zs=all->dk.length=dz.length->acc.length+zs.sum<=5000->St L r->r.2.2.1=0->
  (∃(a l:List Int)(h:Rd),a.length=zs.length/\a.all kB=true/\l.length=zs.sum/\l.all a0i=true/\h.2.2.1=0/\St L h/\Stp L r h (a6u zs a l)/\
   a0d a3D (((a2o all).length:Int),(dz.length:Int),acc,a2o all,r,z0,(o,dk,()),())=some (.inl (acc++l,z0,(o,dk++a,()),h,()))/\
   a0d a2W ((dz.length:Int),a2o all,acc,r,z0,(o,dk,()),())=some (.inl (acc++l,z0,(o,dk++a,()),h,())))\/
  ∃(e x:Int)(h t:Rd),e≠0/\x≠0/\
   a0d a3D (((a2o all).length:Int),(dz.length:Int),acc,a2o all,r,z0,(o,dk,()),())=some (.inr (e,[],c3b,h,()))/\
   a0d a2W ((dz.length:Int),a2o all,acc,r,z0,(o,dk,()),())=some (.inr (x,[],c3b,t,()))
 | [],dz,dk,acc,r,hd,hk,hs,hr,h0=>by
  have hl:(a2o all).length=dz.length:=by simp_all[a4V]
  refine .inl ⟨[],[],r,rfl,rfl,rfl,rfl,h0,hr,Stp.refl hr,?_,?_⟩
  all_goals simp_all[a0g,a3D,a2W]
 |z::zs,dz,dk,acc,r,hd,hk,hs,hr,h0=>by
  rw[List.sum_cons]at hs;have N:(a2o all).length=all.length:=a4V all;have K:all.length=dz.length+1+zs.length:=by grind
  have g:dz.length<(a2o all).length:=by omega
  have u:decide ((0:Int)<=(dz.length:Int))=true:=by simp
  have w:a37 (a2o all) dz.length 0=(z:Int):=by grind[e1r]
  have b:lim (dk.length+1)=true:=a0H (by omega);have n:wrap .i64 ((dz.length:Int)+1)=(((dz++[z]).length:Nat):Int):=by grind[a0c]
  rcases e3x F hr (m:=z) (by omega)with⟨k,l,c,O,k2,k3,P,Q,k6,p,T,R,qb,S⟩|⟨e,h,k0,l0,v,c,B,hv,p,q,M⟩
  ·have U:wrap .i64 (k:Int)=(k:Int):=by
    have:(k:Int)<=31:=by
     simp only[kB,a74,bA9,dT,beq_iff_eq]at O;omega
    exact a0c (by omega)
   have s:lim (acc.length+l.length)=true:=a0H (by omega);have D:(T.2.2.1 != (0:Int))=false:=by simp_all
   rw[a0k (f:=a3D) (s':=(((a2o all).length:Int),(((dz++[z]).length:Nat):Int),acc++l,a2o all,c,z0,(o,dk++[(k:Int)],()),())) (by
    simp only[a3D,dlt g,u,a02,cT,tN,w,p,oB,bne_self_eq_false,cF,b,s,n,a06])]
   rw[a0k (f:=a2W) (s':=((((dz++[z]).length:Nat):Int),a2o all,acc++l,c,z0,(o,dk++[(k:Int)],()),())) (by
    simp only[a2W,dlt g,u,a02,cT,tN,w,R,oB,D,U,S,bne_self_eq_false,cF,b,s,n,a06])]
   rcases b7Z F (o:=o) (z0:=z0) d zs (dz++[z]) (dk++[(k:Int)]) (acc++l) c (by simp_all) (by grind) (by grind) Q P with⟨a,l2,h,V,X,Y,Z,G,H,g7,g8,I⟩|⟨e,x,h,t,B,i,g8,I⟩
   ·refine .inl ⟨(k:Int)::a,l++l2,h,by grind,by simp_all,by simp_all,by simp_all,G,H,?_,?_,?_⟩
    all_goals grind[a6u,Stp.trans]
   simp_all
  have wv:wrap .i64 (v:Int)=(v:Int):=a0c (by omega);have i:(e != (0:Int))=true:=by simp_all
  have hp:a0d a3D (((a2o all).length:Int),(dz.length:Int),acc,a2o all,r,z0,(o,dk,()),())=some (.inr (e,[],c3b,h,())):=
   a0g (by simp only[a3D,dlt g,u,a02,cT,tN,w,p,oB,i];rfl)
  rcases M with y|⟨y,l1,E,r2,C,hq⟩;exact .inr ⟨e,c.2.2.1,h,c,B,y,hp,a0g (by simp only[a2W,dlt g,cT,q,oB,a4e y];rfl)⟩;have A:(c.2.2.1 != (0:Int))=false:=by simp_all
  have j:(E != (0:Int))=true:=by simp_all
  exact .inr ⟨e,E,h,r2,B,C,hp,a0g (by simp only[a2W,dlt g,u,a02,cT,tN,w,q,oB,A,wv,cF,b,hq,j];rfl)⟩
theorem d9D(v:OkL L)(C:St L r){n:Int}(g:a9o n warm=true):
  (∃(p:Prt)(l:List Int)(b:List Nat)(h:Rd),PartsOk p n warm l b/\h.2.2.1=0/\St L h/\Stp L r h (a6X p b l)/\
   b1s (r,n,warm)=some (p,l,0,h)/\a6t (r,n,warm)=some (p,l,0,h))\/
  ∃(e d:Int)(p p':Prt)(l l':List Int)(h a:Rd),e≠0/\d≠0/\b1s (r,n,warm)=some (p,l,e,h)/\a6t (r,n,warm)=some (p',l',d,a):=by
 obtain⟨o,s,w,t,u,A,I⟩:=a3b v C (n:=4) (by omega);have w:o<16:=w;rw[show((4:Nat):Int)=4 from rfl]at t u;have G:wrap .i64 (o:Int)=(o:Int):=a0c (by omega);unfold b1s a6t a0n;simp only[c2C,c7Q,g,oB,bT,cF,t,u,G,b9k,a7y]
 by_cases e1:s.2.2.1=0
 rotate_left;simp only[a4e e1,cT];simp_all;have i:(s.2.2.1 != (0:Int))=false:=by simp_all
 simp only[i,cF]
 by_cases hz:(a2N (o:Int) n warm).length=0
 simp_all;have j:((((a2N (o:Int) n warm).length:Nat):Int)==0)=false:=by simp_all
 simp only[j,cF];obtain⟨b,y,H,z⟩:=c4R hz;have f:=g;simp[a9o]at f;rw[y];rcases b7Z v (o:=(o:Int)) (z0:=c3b) z b [] [] [] s rfl rfl (by grind) A e1 with⟨x,l,h,M,N,O,D,E,F,P,m,q⟩|⟨e,d,h,a,K,B,m,q⟩;simp at m q;have hb:a7V ((o:Int),x,()) n warm=true:=by
  simp_all[a7V,a4V]
 obtain⟨c,k⟩:=PartsOk.of (p:=((o:Int),x,())) (n:=n) (warm:=warm) (l:=l) hb (by omega) D (by omega);have e:c=b:=by
  have:=k.sizes
  grind[b8E]
 subst e;refine .inl ⟨_,l,c,h,k,E,F,?_,?_,?_⟩
 grind[a6X,Stp.trans]
 erw[m]
 rfl
 erw[q]
 rfl;simp_all[c3b]
theorem e3y{n:Nat}{N:Nat}(k:N<1000000){r r':Rd}{l:List Int}(h:Rds n r l r'):∀(d:List Int),d.length+l.length=N->
  ∃l',a0d a1V ((N:Int),(n:Int),(d.length:Int),d,r,())=some (d++l',r',())/\l'.length<=l.length:=by
 induction h with
 |nil r=>
  simp_all[a0g,a1V]
 | @cons r r1 r2 x l h1 h2 h ih=>
  intro d f;rw[lC]at f
  by_cases h0:r.2.2.1=0
  obtain⟨l',a,b⟩:=ih (d++[x]) (by grind);refine⟨x::l',?_,by simp_all⟩;have g:(r.2.2.1==(0:Int))=true:=by simp_all
  rw[a0k (s':=((N:Int),(n:Int),(((d++[x]).length:Nat):Int),d++[x],r1,())) (by
   simp only[a1V,dlt (show d.length<N by omega),cT,g,h2 h0,oB,a0H (show d.length+1<2147483648 by omega),a0b (show d.length<1000000 by omega)]
   simp)]
  simp_all;have hb:=d6S (Rds.cons h1 h2 h) h0;refine⟨[],?_,by simp⟩;have g:(r.2.2.1==(0:Int))=false:=by simp_all
  rw[hb,a61];exact a0g (by simp only[a1V,dlt (show d.length<N by omega),cT,g,cF])
theorem e1J(g:l.length<1000000)(h:Rds n r l r'):∃l',a1K (r,(l.length:Int),(n:Int))=some (l',r')/\(r'.2.2.1=0->l'=l)/\l'.length<=l.length:=by
 obtain⟨l',f,k⟩:=c3I g h
 grind[e3y,a1K,a19]
theorem e1K(f:N<1000000)(s:Sub)(h:Rds n r l r'):∀(d:List Int),d.length+l.length=N->
  a0d a7l ((n:Int),(N:Int),(d.length:Int),r,b8F s d,())=some ((n:Int),b8F s (d++l),r',()):=by
 induction h with
 |nil r=>
  simp_all[a0g,a7l]
 | @cons r r1 r2 x l h1 h2 h ih=>
  intro d g;rw[lC]at g;rw[a0k (s':=((n:Int),(N:Int),(((d++[x]).length:Nat):Int),r1,b8F s (d++[x]),())) (by
   simp only[a7l,dlt (show d.length<N by omega),cT,h1,oB,b8F,a0H (show d.length+1<2147483648 by omega),a0b (show d.length<1000000 by omega)]
   simp)]
  rw[ih (d++[x]) (by simp;omega)]
  simp
def b5g(v:Nat)(c:List Int)(t:Int):List Int:=pb ((c.length-1:Nat):Int) 5++(pb t 4++(pb (v:Int) 5++sB v c))
theorem c0x(b:OkL L)(A:St L r)(s:Sub)(H:s.2.2.2.2.2.1=[]):
  ∃(c:List Int)(t v:Nat)(h:Rd),1<=c.length/\c.length<=32/\t<16/\v<32/\St L h/\Stp L r h (b5g v c (t:Int))/\b0G (r,s)=some ((((a0r c:Nat):Int)==(v:Int)),h,b8F (c5Z s (t:Int)) c)/\
   ∃k,a3q (r,s)=some (h,b8F (c5Z s (t:Int)) k)/\(h.2.2.1=0->k=c):=by
 obtain⟨a,O,m,j,l,z,G⟩:=a3b b A (n:=5) (by omega);obtain⟨t,r2,d,e,i,y,F⟩:=a3b b z (n:=4) (by omega);obtain⟨v,P,hv,o,p,B,I⟩:=a3b b y (n:=5) (by omega);have m:a<32:=m;have d:t<16:=d;have hv:v<32:=hv;rw[show((5:Nat):Int)=5 from rfl]at j l o p;rw[show((4:Nat):Int)=4 from rfl]at e i;obtain⟨c,h,q1,C,K,D,M⟩:=c2Z b (n:=v) (by omega) (a+1) B;have w:wrap .i64 (a:Int)=(a:Int):=a0c (by omega);have f:wrap .i64 ((a:Int)+1)=((a+1:Nat):Int):=a0b (by omega);have x:wrap .i64 (t:Int)=(t:Int):=a0c (by omega);have wv:wrap .i64 (v:Int)=(v:Int):=a0c (by omega);have q:=e1K (N:=a+1) (by omega) (c5Z s (t:Int)) q1 [] (by simp_all);obtain⟨k,u,E⟩:=c3I (by omega) q1;rw[C]at u;simp only[a19,nZ,a50,a09]at q;have g:((s.1,s.2.1,s.2.2.1,(t:Int),s.2.2.2.2):Sub)=b8F (c5Z s (t:Int)) []:=by
  grind[b8F,c5Z]
 refine⟨c,t,v,h,by omega,by omega,d,hv,D,?_,?_,k,?_,E⟩
 grind[b5g,Stp.trans]
 simp only[b0G,j,e,o,oB,w,f,x,wv]
 erw[g,q]
 simp
 rw[show(b8F (c5Z s (t:Int)) c).2.2.2.2.2.1=c from rfl,a6W (show short c by unfold short;omega)];rfl;simp only[a3q,l,i,p,oB,w,f,x,wv,u];rfl
def b2d(s:Sub)(t:List Int):Sub:=(s.1,s.2.1,s.2.2.1,s.2.2.2.1,s.2.2.2.2.1,s.2.2.2.2.2.1,t,s.2.2.2.2.2.2.2)
theorem e3z(D:OkL L)(E:St L r)(w:Int)(s:Sub)(i:s.2.2.2.2.2.2.1=[0,0,0])(n k b:Int)(z:Sub):
  ∃(a c d:Int)(g:Rd),St L g/\Stp L r g (sB 8 [a,c,d])/\a0d a5W (w,(0:Int),r,s,())=some (w,g,b2d s [a,c,d],())/\
   ∃(l:List Int),a1K (r,(3:Int),(8:Int))=some (l,g)/\∃t,t.length=3/\a0d a4b (n,k,b,(0:Int),l,g,z,s,())=some (n,k,b,g,z,b2d s t,())/\(g.2.2.1=0->t=[a,c,d]):=by
 obtain⟨l,g,q1,q,N,G,H⟩:=c2Z D (n:=8) (by omega) 3 E;obtain⟨l',v,I,A⟩:=e1J (by omega) q1;rw[q]at v A
 match l,q with
 | [a,c,d],_=>
  have j:wrap .i64 ((0:Int)+1)=1:=by rfl
  have K:wrap .i64 ((1:Int)+1)=2:=by rfl
  have w2:wrap .i64 ((2:Int)+1)=3:=by rfl
  have e:decide ((0:Int)<3)=true:=by rfl
  have f:decide ((0:Int)<=0)=true:=by rfl
  have B:decide ((1:Int)<3)=true:=by rfl
  have m:decide ((0:Int)<=1)=true:=by rfl
  have C:decide ((2:Int)<3)=true:=by rfl
  have o:decide ((0:Int)<=2)=true:=by rfl
  have M:decide ((3:Int)<3)=false:=by rfl
  refine⟨a,c,d,g,G,H,?_,l',v,?_⟩
  ·cases q1 with
   |cons p1 _ q1=>cases q1 with
    |cons p2 _ q1=>cases q1 with
     |cons p3 _ q1=>
      cases q1;rw[show((8:Nat):Int)=8 from rfl]at p1 p2 p3;rw[a0k (s':=(w,(1:Int),_,b2d s [a,0,0],())) (by
       simp only[a5W,e,f,a02,cT,p1,oB,j,i];rfl)]
      rw[a0k (s':=(w,(2:Int),_,b2d s [a,c,0],())) (by
       simp only[a5W,B,m,a02,cT,p2,oB,K];rfl)]
      rw[a0k (s':=(w,(3:Int),_,b2d s [a,c,d],())) (by
       simp only[a5W,C,o,a02,cT,p3,oB,w2];rfl)]
      rfl
  ·have done:∀(t:List Int),a0d a4b (n,k,b,(l'.length:Int),l',g,z,b2d s t,())=some (n,k,b,g,z,b2d s t,()):=fun t=>
    a0g (by simp_all[a4b])
   have F:s=b2d s [0,0,0]:=by grind[b2d]
   have z0:decide ((0:Int)<0)=false:=by rfl
   match l',A with
   | [],_=>exact⟨[0,0,0],rfl,by grind,fun h=>by grind⟩
   | [x],_=>
    refine⟨[x,0,0],rfl,?_,fun h=>by grind⟩;rw[a0k (s':=(n,k,b,(1:Int),[x],g,z,b2d s [x,0,0],()))
     (by simp only[a4b,a38,Int.natCast_one,show decide ((0:Int)<1)=true from rfl,e,f,a02,cT,j,i];rfl)]
    rfl
   | [x,y],_=>
    refine⟨[x,y,0],rfl,?_,fun h=>by grind⟩;have p:((([x,y]:List Int).length:Nat):Int)=2:=rfl;rw[a0k (s':=(n,k,b,(1:Int),[x,y],g,z,b2d s [x,0,0],()))
     (by simp only[a4b,p,show decide ((0:Int)<2)=true from rfl,e,f,a02,cT,j,i];rfl)]
    rfl
   | [x,y,u],_=>
    refine⟨[x,y,u],rfl,?_,fun h=>I h⟩;have p:((([x,y,u]:List Int).length:Nat):Int)=3:=rfl;rw[a0k (s':=(n,k,b,(1:Int),[x,y,u],g,z,b2d s [x,0,0],()))
     (by simp only[a4b,p,e,f,a02,cT,j,i];rfl)]
    rfl
   |_::_::_::_::_,h=>simp at h
def c3c(s:Sub)(g:List Stg):Sub:=(s.1,s.2.1,s.2.2.1,s.2.2.2.1,s.2.2.2.2.1,s.2.2.2.2.2.1,s.2.2.2.2.2.2.1,g,s.2.2.2.2.2.2.2.2)
theorem c8i{L:List Int}(k:OkL L)(w:Int)(ok:Bool)(s:Sub)(n f b:Int)(z:Sub){N:Nat}(v:N<1000):∀(m:Nat)(d:List Stg)(r:Rd),d.length+m=N->St L r->
  ∃(g:List Stg)(h:Rd),g.length=m/\St L h/\Stp L r h (c2P g)/\
   a0d a8p (w,ok,(N:Int),(d.length:Int),r,c3c s d,())=some (w,ok,c3c s (d++g),h,())/\
   a0d a9G (n,f,b,(N:Int),(d.length:Int),r,z,c3c s d,())=some (n,f,b,h,z,c3c s (d++g),())
 |0,d,r,hm,hr=>by
  have:d.length=N:=by omega
  refine⟨[],r,rfl,hr,Stp.refl hr,?_,?_⟩
  all_goals simp_all[a0g,a8p,a9G]
 |m+1,d,r,hm,hr=>by
  obtain⟨a,K,c,p,q,u,E⟩:=a3b k hr (n:=5) (by omega);obtain⟨t,r2,i,j,l,o,D⟩:=a3b k u (n:=4) (by omega);have c:a<32:=c;have i:t<16:=i;rw[show((5:Nat):Int)=5 from rfl]at p q;rw[show((4:Nat):Int)=4 from rfl]at j l;have M:wrap .i64 (a:Int)=(a:Int):=a0c (by omega);have C:wrap .i64 ((a:Int)+1)=(a:Int)+1:=a0c (by omega);have O:wrap .i64 (t:Int)=(t:Int):=a0c (by omega);have y:=dlt (show d.length<N by omega);have x:=a0H (show d.length+1<2147483648 by omega);have A:wrap .i64 ((d.length:Int)+1)=(((d++[((a:Int)+1,(t:Int),())]).length:Nat):Int):=by grind[a0c]
  have e:wrap .u64 ((d.length:Int)+1)=(((d++[((a:Int)+1,(t:Int),())]).length:Nat):Int):=by grind[a0p]
  obtain⟨g,h,F,B,G,H,I⟩:=c8i k w ok s n f b z v m (d++[((a:Int)+1,(t:Int),())]) r2 (by grind) o;refine⟨((a:Int)+1,(t:Int),())::g,h,by grind,B,?_,?_,?_⟩
  grind[c2P,Stp.trans]
  rw[a0k (s':=(w,ok,(N:Int),(((d++[((a:Int)+1,(t:Int),())]).length:Nat):Int),r2,c3c s (d++[((a:Int)+1,(t:Int),())]),())) (by
   simp_all[a8p,c3c])]
  simp_all;rw[a0k (s':=(n,f,b,(N:Int),(((d++[((a:Int)+1,(t:Int),())]).length:Nat):Int),r2,z,c3c s (d++[((a:Int)+1,(t:Int),())]),())) (by
   simp_all[a9G,c3c])]
  simp_all
end Go.Ab
