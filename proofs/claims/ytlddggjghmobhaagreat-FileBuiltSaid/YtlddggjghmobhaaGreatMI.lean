/- Part of the proof: QA. Conditions: as each statement tells. -/
import Derived.Test.YtlddggjghmobhaaGreatMH
noncomputable section
set_option linter.unusedSimpArgs false
set_option linter.unusedVariables false
open BitVec renaming ofInt→a73,toNat_ofInt→a85
open Bool renaming and_true→a27,not_eq_true'→a57,not_false→a79
open Int renaming toNat→a08,tmod→a29,natCast_nonneg→a65,tmod_lt_of_pos→a67,fdiv_eq_ediv_of_nonneg→a69,toNat_of_nonneg→a82,tmod_nonneg→a94,natCast_pow→a97
open List renaming length_take→a00,length_pos_iff→a01,length_drop→a02,length_nil→a03,append_nil→a04,nil_append→a05,take_succ_eq_append_getElem→a06,length_singleton→a07,cons_append→a09,getD→a13,pairwise_append→a14,getElem_mem→a16,mem_singleton→a17,take_append_drop→a19,length_eq_zero_iff→a20,take_length→a23,mem_of_mem_take→a24,append_eq→a26,take_of_length_le→a28,drop_eq_nil_iff→a30,flatMap_cons→a31,flatMap_append→a32,flatMap_singleton→a33,drop_eq_getElem_cons→a34,singleton_append→a35,take_zero→a36,getElem?_append_right→a37,length_map→a38,mem_of_mem_drop→a40,flatMap_nil→a41,pairwise_singleton→a42,set_append_right→a47,getElem?_of_mem→a51,getElem?_append_left→a54,length_set→a56,drop_length→a59,not_mem_nil→a60,take→a63,drop_zero→a64,pairwise_cons→a68,pairwise_iff_getElem→a71,drop→a72,length→a74,append→a75,take_take→a78,mem_iff_getElem→a81,set_cons_zero→a83,reverse_cons→a88,take_append→a90,drop_append→a91,set→a95,drop_take→a98,drop_drop→a99,replicate→b00,drop_left→b01
open Nat renaming le_refl→a11,pow_succ→a43,min_eq_left→a44,div_lt_iff_lt_mul→a48,sub_self→a49,min_eq_right→a52,div_div_eq_div_mul→a58,pow_le_pow_right→a62,mul_le_mul→a80,lt_of_le_of_lt→a84,sub_zero→a86,zero_add→a87,add_mod_right→a89,mod_eq_of_lt→a92,strongRecOn→a93,div_le_self→a96
open Option renaming getD_some→a61
namespace Go.Ab
variable {P R:List Int}{b m most:Int}{i j k n r:Nat}{α β σ:Type}{f:σ→Option (σ ⊕ β)}
open IntKind(wrap)
section
variable {α A σ β:Type}
def a5g(g:A→α→A ⊕ β):List α→A→A ⊕ β
 | [],a=>.inl a
 |x::r,a=>match g a x with
  |.inl a'=>a5g g r a'
  |.inr b=>.inr b
def b0E(fin:A→β):A ⊕ β→β
 |.inl a=>fin a
 |.inr b=>b
theorem a4Z{f:σ→Option (σ ⊕ β)}(l:List α)(S:Nat→A→σ)(g:A→α→A ⊕ β)(I:Nat→A→Prop)(e:A→β)
  (d:∀i (h:i<l.length) a,I i a→(∀a',g a l[i]=.inl a'→f (S i a)=some (.inl (S (i+1) a'))∧I (i+1) a')∧(∀b,g a l[i]=.inr b→f (S i a)=some (.inr b)))
  (c:∀a,I l.length a→f (S l.length a)=some (.inr (e a))):∀(k i:Nat)(a:A),i+k=l.length→I i a→x0w f (S i a)=some (b0E e (a5g g (l.drop i) a))
 |0,i,a,hi,ha=>by
  obtain rfl:i=l.length:=by omega
  rw[a59];exact a1j (c a ha)
 |k+1,i,a,hi,ha=>by
  have j:i<l.length:=by omega
  rw[a34 j];obtain⟨m,n⟩:=d i j a ha;simp only[a5g];cases hg:g a l[i]with
  |inl a'=>
   obtain⟨o,p⟩:=m a' hg;rw[a1T o];exact a4Z l S g I e d c k (i+1) a' (by omega) p
  |inr b=>exact a1j (n b hg)
theorem a9x{f:σ→Option (σ ⊕ β)}(l:List α)(S:Nat→A→σ)(g:A→α→A ⊕ β)(I:Nat→A→Prop)(k:A→β)
  (d:∀i (h:i<l.length) a,I i a→(∀a',g a l[i]=.inl a'→f (S i a)=some (.inl (S (i+1) a'))∧I (i+1) a')∧(∀b,g a l[i]=.inr b→f (S i a)=some (.inr b)))
  (c:∀a,I l.length a→f (S l.length a)=some (.inr (k a))){a:A}(e:I 0 a):x0w f (S 0 a)=some (b0E k (a5g g l a)):=by
 have:=a4Z l S g I k d c l.length 0 a (by omega) e
 rwa [a64]at this
end
theorem a7T{l:List α}(h:i<l.length):n0o l (i:Int)=some l[i]:=by
 unfold n0o;rw[if_pos (a65 i),tN,lG h]
theorem a7e(h:i<1000000):wrap .i64 ((i:Int)+1)=((i+1:Nat):Int):=by
 rw[wrap64 (by omega)];omega
theorem dlt(h:i<n):decide ((i:Int)<(n:Int))=true:=by simp;omega
theorem dge(n:Nat):decide ((n:Int)<(n:Int))=false:=by simp
theorem b0F(I:Nat→σ→Prop)(Q:β→Prop)(h:∀i s,I i s→(∃s' j,f s=some (.inl s')∧j<i∧I j s')∨(∃b,f s=some (.inr b)∧Q b)):∀(i:Nat)(s:σ),I i s→∃b,x0w f s=some b∧Q b:=by
 intro i
 induction i using a93 with
 |_ i ih=>
  intro s c;rcases h i s c with⟨s',j,g,k,a⟩|⟨b,g,k⟩;rw[a1T g];exact ih j k s' a;exact⟨b,a1j g,k⟩
theorem a1E(I:Nat→σ→Prop)(Q:β→Prop){R:Prop}(i:Nat)(s:σ)(g:I i s)(c:∀b,x0w f s=some b→Q b→R)(h:∀i s,I i s→(∃s' j,f s=some (.inl s')∧j<i∧I j s')∨(∃b,f s=some (.inr b)∧Q b)):R:=by
 obtain⟨b,k,a⟩:=b0F I Q h i s g;exact c b k a
theorem w64{n:Int}(h:-9223372036854775808≤n∧n<9223372036854775808):wrap .i64 n=n:=by
 simp only[wrap,IntKind.bits,IntKind.signed]
 simp
 omega
theorem wu8(n:Int):0≤wrap .u8 n∧wrap .u8 n<256:=by
 simp only[wrap,IntKind.bits,IntKind.signed]
 simp
 omega
abbrev a3R:Type:=List Int×(Int×Unit)
variable {t:a3R}
def a1k(r:Nat)(t:a3R):Prop:=0≤t.2.1∧t.2.1+(r:Int)≤1000000
theorem a1k.mono{r':Nat}(h:a1k r t)(g:r'≤r):a1k r' t:=⟨h.1,by have:=h.2;omega⟩
theorem a9y(x:Int):∃v,a2b (x,(0:Int),(1073741824:Int))=some v∧0≤v:=by
 have f:wrap .i64 ((wrap .i64 ((1073741824:Int)-0))+(1:Int))=1073741825:=by decide
 unfold a2b;dsimp only
 by_cases h0:x≥0
 rw[decide_eq_true h0];simp only[cT,oB]
 by_cases h1:x≤1073741824
 rw[decide_eq_true h1];exact⟨x,rfl,h0⟩;rw[decide_eq_false h1];simp only[cF];rw[f];have a:0≤a29 x 1073741825:=a94 _ h0;have g:a29 x 1073741825<1073741825:=a67 _ (by decide);rw[decide_eq_false (show ¬ a29 x 1073741825<0 by omega)];have h:((1073741825:Int)==0)=false:=by decide
 simp only[h,cF,oB];refine⟨_,rfl,?_⟩;rw[w64 (by omega)];omega;rw[decide_eq_false h0];simp only[cF,oB];have g:-1073741825<a29 x 1073741825:=Int.lt_tmod_of_pos _ (by decide);have k:a29 x 1073741825<1073741825:=a67 _ (by decide);rw[f];have h:((1073741825:Int)==0)=false:=by decide
 simp only[h,cF]
 by_cases hn:a29 x 1073741825<0
 rw[decide_eq_true hn];simp only[cT,oB];refine⟨_,rfl,?_⟩;simp only[w64 (show -9223372036854775808≤a29 x 1073741825+1073741824∧a29 x 1073741825+1073741824<9223372036854775808 by omega)];simp only[w64 (show -9223372036854775808≤a29 x 1073741825+1073741824-0∧a29 x 1073741825+1073741824-0<9223372036854775808 by omega)];simp only[w64 (show -9223372036854775808≤a29 x 1073741825+1073741824-0+1∧a29 x 1073741825+1073741824-0+1<9223372036854775808 by omega)];rw[w64 (by omega)];omega;rw[decide_eq_false hn];simp only[cF,oB];refine⟨_,rfl,?_⟩;rw[w64 (by omega)];omega
theorem a1e{n:Int}(c:a1k (r+1) t)(f:0<n):∃v t',a0A (t,n)=some (v,t')∧0≤v∧v<n∧a1k r t':=by
 obtain⟨g,e⟩:=c;unfold a0A
 by_cases hc:t.2.1≥(t.1.length:Int)
 simp only[decide_eq_true hc,cT,oB];exact⟨0,t,rfl,Int.le_refl _,f,g,by omega⟩;simp only[decide_eq_false hc,cF,oB,decide_eq_false (show ¬ n<1 by omega)];have k:wrap .i64 (t.2.1+1)=t.2.1+1:=w64 (by omega);have a:wrap .i64 (t.2.1+1-1)=t.2.1:=by rw[w64 (by omega)];omega
 rw[k,a];obtain⟨y,d⟩:∃y,n0o t.1 t.2.1=some y:=by
  unfold n0o
  have:t.2.1.toNat<t.1.length:=by omega
  exact⟨_,by rw[if_pos g,lG this]⟩
 rw[d];obtain⟨v,hv,h⟩:=a9y y;simp only[oB,hv];have b:(n==0)=false:=by simp;omega
 simp only[b,cF];exact⟨_,_,rfl,a94 _ h,a67 _ f,by show 0≤t.2.1+1;omega,by show t.2.1+1+(r:Int)≤1000000;omega⟩
theorem b0G(r:Int×Unit):∃v r',a2C (r,(256:Int))=some (v,r'):=⟨_,_,rfl⟩
theorem a0L(h:n<2147483648):lim n=true:=by
 unfold lim;exact decide_eq_true (by omega)
theorem a9h{n:Int}(z:a1k (r+2) t)(F:0≤n∧n≤1000):∃b t',a1D (t,n)=some (b,t')∧(b.length:Int)≤n∧(∀v∈b,0≤v∧v<256)∧a1k r t':=by
 unfold a1D;obtain⟨B,H,m,-,-,q⟩:=a1e z (show(0:Int)<1048576 by decide);have p:wrap .i64 (n+1)=n+1:=w64 (by omega);obtain⟨l,t2,o,C,b2,s⟩:=a1e q (show(0:Int)<n+1 by omega);simp only[m,oB,p,o];refine a1E (f:=a1O) (fun i h=>h.1=(i:Int)∧(h.2.1.length:Int)+i≤n∧(∀v∈h.2.1,0≤v∧v<256)∧h.2.2.2.1=t2)
  (fun w=>(w.1.length:Int)≤n∧(∀v∈w.1,0≤v∧v<256)∧w.2.1=t2) l.toNat (l,[],(B,()),t2,()) ⟨by simp only;omega,by simp only[a03];omega,by simp,rfl⟩ (fun w A x=>?_) (fun i h k=>?_)
 obtain⟨a,c,d⟩:=x;rw[A];exact⟨_,_,rfl,a,c,by show a1k r w.2.1;rw[d];exact s⟩;obtain⟨D,E,e,j⟩:=k;unfold a1O
 by_cases hp:h.1 > 0
 left;obtain⟨v,G,y⟩:=b0G h.2.2.1;rw[decide_eq_true hp,y];simp only[cT,oB];rw[a0L (by omega)];refine⟨_,i-1,rfl,by omega,?_,?_,?_,j⟩;show wrap .i64 (h.1-1)=_;rw[w64 (by omega)];omega;show((h.2.1.append [_]).length:Int)+_≤n;simp only[a26,lN,a07];omega;intro u g;rcases mA.1 (show u∈h.2.1++[_]from g)with g|g;exact e u g;rw[a17]at g;rw[g];exact wu8 _;right;rw[decide_eq_false hp];exact⟨_,rfl,by show(h.2.1.length:Int)≤n;omega,e,j⟩
abbrev Pk:Type:=Int×(Int×(Int×(Bool×(Bool×(List Int×Unit)))))
variable {L:List (List Pk)}{X Y Z p s:List Pk}{x y z:Pk}
structure PkOk (s:Int) (p:Pk):Prop where
 st:p.1=s
 at0:0≤p.2.1
 at1:p.2.1≤1000
 len0:0≤p.2.2.1
 len1:p.2.2.1≤50
 dat:p.2.2.2.2.2.1.length≤900
 byt:∀v∈p.2.2.2.2.2.1,0≤v∧v<256
structure PksOk (s:Int) (n:Nat) (l:List Pk):Prop where
 ok:∀p∈l,PkOk s p
 len:l.length≤n
 asc:l.Pairwise fun p q=>p.2.1≤q.2.1
theorem a7U{s:Int}(ht:a1k (r+58) t)(hn:n≤8):∃l t',a1v (t,s,(n:Int))=some (l,t')∧PksOk s n l∧a1k r t':=by
 unfold a1v;obtain⟨v1,t1,F,a1,b1,R⟩:=a1e ht (show(0:Int)<40 by decide);have Q:wrap .i64 ((n:Int)+1)=n+1:=w64 (by omega);obtain⟨y,t2,G,a2,b2,S⟩:=a1e R (show(0:Int)<(n:Int)+1 by omega);simp only[F,oB,Q,G];refine a1E (f:=a1G) (fun i g=>g.1=s∧0≤g.2.1∧g.2.1+60*i≤40+60*(n:Int)∧g.2.2.1=(i:Int)∧(g.2.2.2.1.length:Int)+i≤n∧(∀p∈g.2.2.2.1,PkOk s p∧p.2.1≤g.2.1)∧g.2.2.2.1.Pairwise (fun p q=>p.2.1≤q.2.1)∧a1k (r+7*i) g.2.2.2.2.1)
  (fun w=>PksOk s n w.1∧a1k r w.2.1) y.toNat (s,v1,y,[],t2,()) ⟨rfl,a1,by simp only;omega,by simp only;omega,by simp only[a03];omega,by simp,.nil,S.mono (by omega)⟩ (fun w hw Z=>?_) (fun i g j=>?_)
 obtain⟨m,o⟩:=Z;rw[hw];exact⟨_,_,rfl,m,o⟩;obtain⟨u,E,c3,c4,c5,e,v,x⟩:=j;unfold a1G
 by_cases hp:g.2.2.1 > 0
 left;obtain⟨z,t3,H,A,b3,T⟩:=a1e (r:=r+7*(i-1)+6) (x.mono (by omega)) (show(0:Int)<50 by decide);obtain⟨x4,t4,I,a4,b4,U⟩:=a1e T (show(0:Int)<3 by decide);obtain⟨x5,t5,K,a5,b5,V⟩:=a1e U (show(0:Int)<8 by decide);obtain⟨a,t6,L,B,C,W⟩:=a1e V (show(0:Int)<3 by decide);have hd:0≤a13 ([20,300,900]:List Int) (a08 a) 0∧a13 ([20,300,900]:List Int) (a08 a) 0≤900:=by
  have:a08 a=0∨a08 a=1∨a08 a=2:=by omega
  rcases this with h|h|h<;>rw[h]<;>decide
 obtain⟨b,t7,M,a7,D,X⟩:=a9h W (n:=a13 ([20,300,900]:List Int) (a08 a) 0) (by omega);obtain⟨d,t8,N,a8,b8,Y⟩:=a1e X (show(0:Int)<60 by decide);rw[decide_eq_true hp];simp only[cT,oB,H,I,K,L,M,N,decide_eq_true B,decide_eq_true C,a27];rw[a0L (by omega)];have O:wrap .i64 (g.2.1+d)=g.2.1+d:=w64 (by omega);have P:wrap .i64 (g.2.2.1-1)=g.2.2.1-1:=w64 (by omega);rw[O,P];have c:PkOk s (g.1,g.2.1,z,decide (x4 > 0),x5==7,b,()):=⟨u,E,by show g.2.1≤1000;omega,A,by show z≤50;omega,by show b.length≤900;omega,D⟩;refine⟨_,i-1,rfl,by omega,u,by show 0≤g.2.1+d;omega,by show g.2.1+d+60*((i-1:Nat):Int)≤_;omega,by show g.2.2.1-1=_;omega,?_,?_,?_,Y⟩;show((g.2.2.2.1.append [_]).length:Int)+_≤n;simp only[a26,lN,a07];omega;intro p k;show PkOk s p∧p.2.1≤g.2.1+d;rcases mA.1 (show p∈g.2.2.2.1++[_]from k)with k|k
 have:=e p k
 exact⟨this.1,by omega⟩;rw[a17]at k;subst k;exact⟨c,by show g.2.1≤_;omega⟩;show(g.2.2.2.1++[_]).Pairwise _;refine a14.2 ⟨v,a42 ..,fun p hp q k=>?_⟩;rw[a17]at k;subst k;exact(e p hp).2;right;rw[decide_eq_false hp];exact⟨_,rfl,⟨fun p hp=>(e p hp).1,by show g.2.2.2.1.length≤n;omega,v⟩,x.mono (by omega)⟩
def klt(p q:Pk):Bool:=decide (p.2.1<q.2.1) || (decide (p.2.1=q.2.1)&&decide (p.1<q.1))
def sg(a b:Int):Int:=bif decide (a<b)then -1 else(bif decide (a > b)then 1 else 0)
theorem b2v(a b:Int):a2c (a,b)=some (sg a b):=by
 simp only[a2c,a2v,oB,bne_self_eq_false,cF,sg];cases decide (a<b)<;>cases decide (a > b)<;>rfl
theorem b3u(a b:Int):a2w (a,b)=some (sg a b):=by
 simp only[a2w,a2Q,oB,bne_self_eq_false,cF,sg];cases decide (a<b)<;>cases decide (a > b)<;>rfl
theorem a7V(a b:Int):(a<b∧sg a b=-1)∨(b<a∧sg a b=1)∨(a=b∧sg a b=0):=by
 unfold sg
 by_cases h1:a<b
 rw[decide_eq_true h1];exact .inl ⟨h1,rfl⟩;rw[decide_eq_false h1]
 by_cases h2:a > b
 rw[decide_eq_true h2];exact .inr (.inl ⟨h2,rfl⟩);rw[decide_eq_false h2];exact .inr (.inr ⟨by omega,rfl⟩)
theorem b1T(a b:Int)(h:a=-1∨a=1∨a=0)(g:b=-1∨b=1∨b=0):a4m [a,b]=some (if a=0 then b else a):=by
 rcases h with rfl|rfl|rfl<;>rcases g with rfl|rfl|rfl<;>kernel_rfl
theorem a6H(p q:Pk):∃c,a1Y (p,q)=some c∧decide (c<0)=klt p q:=by
 simp only[a1Y,b2v,b3u,oB];obtain⟨f,h⟩|⟨f,h⟩|⟨f,h⟩:=a7V p.2.1 q.2.1<;>obtain⟨k,g⟩|⟨k,g⟩|⟨k,g⟩:=a7V p.1 q.1 <;>
  (rw[h,g,b1T _ _ (by decide) (by decide)];refine⟨_,rfl,?_⟩;simp only[klt,oB];(try rw[decide_eq_true f]);simp[show ¬ q.2.1<p.2.1∨True from .inr trivial];try omega)
section
variable {α:Type}
theorem a4j(P T:List α)(x z:α)(h:i=P.length):a13 (P++x::T) i z=x:=by
 subst h;rw[lD,a37 (a11 _),a49];rfl
theorem a6I(P Q R:List α)(x y z:α)(h:j=P.length+1+Q.length):a13 (P++x::(Q++y::R)) j z=y:=by
 have:=a4j (P++x::Q) R y z (i:=j) (by simp;omega)
 simpa using this
theorem a6X(P Q R:List α)(x y:α)(h:i=P.length)(g:j=P.length+1+Q.length):a95 (a95 (P++x::(Q++y::R)) i y) j x=P++y::(Q++x::R):=by
 subst h g;rw[a47 _ _ (a11 _),a49];simp only[a83];rw[a47 _ _ (by omega)];rw[show P.length+1+Q.length-P.length=Q.length+1 by omega];simp only[List.set_cons_succ];rw[a47 _ _ (a11 _),a49];rfl
end
theorem a4B{M:List Pk}(h:X.length=Y.length)(t:(p++(X++(M++(Y++s)))).length<1000000){a n:Int}(w:a=p.length)(x:b=(p.length+X.length+M.length:Nat))(y:n=X.length):
  a0I (p++(X++(M++(Y++s))),a,b,n,())=some (p++(Y++(M++(X++s)))):=by
 simp only[lN]at t;unfold a0I;simp only
 have:=a0V (f:=a0W) (fun k=>(a,b,n,(k:Int),p++((Y.take k++X.drop k)++(M++((X.take k++Y.drop k)++s))),())) X.length (b:=(p++(Y++(M++(X++s))),())) (fun k j=>?_) ?_
 simp only[a36,a64,a05]at this;rw[show((0:Nat):Int)=0 from rfl]at this;rw[this];rfl;unfold a0W;simp only;have u:wrap .i64 (b+(k:Int))=b+k:=w64 (by omega);have w2:wrap .i64 (a+(k:Int))=a+k:=w64 (by omega);have v:wrap .i64 ((k:Int)+1)=((k+1:Nat):Int):=w64 (by omega);have g:k<Y.length:=by omega
 have q:X.drop k=X[k]::X.drop (k+1):=a34 j;have r:Y.drop k=Y[k]::Y.drop (k+1):=a34 g;have e:p++((Y.take k++X.drop k)++(M++((X.take k++Y.drop k)++s)))=(p++Y.take k)++X[k]::((X.drop (k+1)++(M++X.take k))++Y[k]::(Y.drop (k+1)++s)):=by
  rw[q,r];simp only[aA,a09,a05]
 have l:p++((Y.take (k+1)++X.drop (k+1))++(M++((X.take (k+1)++Y.drop (k+1))++s)))=(p++Y.take k)++Y[k]::((X.drop (k+1)++(M++X.take k))++X[k]::(Y.drop (k+1)++s)):=by
  rw[a06 j,a06 g];simp only[aA,a09,a05]
 have d:a08 (a+k)=(p++Y.take k).length:=by simp;omega
 have i:a08 (b+k)=(p++Y.take k).length+1+(X.drop (k+1)++(M++X.take k)).length:=by simp;omega
 rw[e,l,u,w2,v,decide_eq_true (show(k:Int)<n by omega)];rw[a4j _ _ _ _ d,a6I _ _ _ _ _ _ i,a6X _ _ _ _ _ d i];have c:((p++Y.take k)++X[k]::((X.drop (k+1)++(M++X.take k))++Y[k]::(Y.drop (k+1)++s))).length=p.length+(X.length+(M.length+(Y.length+s.length))):=by simp;omega
 simp only[a56,c];rw[decide_eq_true (show 0≤b+(k:Int)by omega),decide_eq_true (show 0≤a+(k:Int)by omega),decide_eq_true (show a+(k:Int)<((p.length+(X.length+(M.length+(Y.length+s.length))):Nat):Int)by omega),decide_eq_true (show b+(k:Int)<((p.length+(X.length+(M.length+(Y.length+s.length))):Nat):Int)by omega)];rfl;unfold a0W;simp only;rw[decide_eq_false (by omega)];have m:Y.take X.length=Y:=by rw[h];exact a23
 have o:Y.drop X.length=[]:=by rw[h];exact a59
 simp only[cF,m,o,a23,a59,a04]
theorem a9z(t:X≠[])(u:Y≠[])(z:(p++(X++(Y++s))).length<1000000){a:Int}(H:a=p.length)(K:m=(p.length+X.length:Nat))(I:b=(p.length+X.length+Y.length:Nat)):
  a1g (p++(X++(Y++s)),a,m,b,())=some (p++(Y++(X++s))):=by
 simp only[lN]at z;have O:=a01.2 t;have P:=a01.2 u;unfold a1g;simp only;have D:wrap .i64 (m-a)=(X.length:Int):=by rw[w64 (by omega)];omega
 have w2:wrap .i64 (b-m)=(Y.length:Int):=by rw[w64 (by omega)];omega
 rw[D,w2];refine a1E (f:=a1n) (fun k v=>∃A c g B:List Pk,v=(m,(),(c.length:Int),(g.length:Int),p++(A++(c++(g++(B++s)))),())∧A.length+c.length=X.length∧g.length+B.length=Y.length∧A++(g++(c++B))=Y++X∧c≠[]∧g≠[]∧k=c.length+g.length)
  (fun w=>∃A c g B:List Pk,w=(m,(),(c.length:Int),p++(A++(c++(g++(B++s)))),())∧A.length+c.length=X.length∧g.length+B.length=Y.length∧A++(g++(c++B))=Y++X∧c.length=g.length)
  (X.length+Y.length) (m,(),(X.length:Int),(Y.length:Int),p++(X++(Y++s)),()) ⟨[],X,Y,[],rfl,by simp,by simp,by simp,t,u,rfl⟩ (fun w C y=>?_) (fun k v l=>?_)
 obtain⟨A,c,g,B,rfl,q,r,d,j⟩:=y;rw[C];simp only[oB];have i:wrap .i64 (m-(c.length:Int))=m-c.length:=w64 (by omega)
 have:=a4B (p:=p++A) (X:=c) (M:=[]) (Y:=g) (s:=B++s) j (by simp only[lN,a03];omega) (a:=m-c.length) (b:=m) (n:=c.length) (by simp only[lN];omega) (by simp only[lN,a03];omega) rfl
 rw[i];simp only[aA,a05]at this;rw[this];simp only[oB];have e:p++(A++(g++(c++(B++s))))=p++((A++(g++(c++B)))++s):=by simp only[aA]
 rw[e,d];simp only[aA];obtain⟨A,c,g,B,rfl,q,r,d,j,x,G⟩:=l;have L:=a01.2 j;have N:=a01.2 x;unfold a1n;simp only
 by_cases hij:c.length=g.length
 right
 have:((c.length:Int) != (g.length:Int))=false:=by simp[hij]
 rw[this];exact⟨_,rfl,A,c,g,B,rfl,q,r,d,hij⟩;left
 have:((c.length:Int) != (g.length:Int))=true:=by simp;omega
 rw[this];have i:wrap .i64 (m-(c.length:Int))=m-c.length:=w64 (by omega)
 by_cases hgt:c.length > g.length
 rw[decide_eq_true (show(c.length:Int) > (g.length:Int)by omega)];simp only[cT];have F:c=c.take g.length++c.drop g.length:=(a19 _ _).symm
 have:=a4B (p:=p++A) (X:=c.take g.length) (M:=c.drop g.length) (Y:=g) (s:=B++s) (by simp;omega) (by simp only[lN,a00,a02];omega) (a:=m-c.length) (b:=m) (n:=g.length) (by simp only[lN];omega) (by simp only[lN,a00,a02];omega) (by simp;omega)
 simp only[aA]at this;rw[←aA (c.take g.length),a19]at this;rw[i,this];simp only[oB];have o:wrap .i64 ((c.length:Int)-g.length)=((c.drop g.length).length:Int):=by rw[w64 (by omega),a02];omega
 rw[o];refine⟨_,(c.drop g.length).length+g.length,rfl,by simp only[a02];omega,A++g,c.drop g.length,c.take g.length,B,?_,?_,?_,?_,?_,?_,?_⟩;rw[show(c.take g.length).length=g.length by simp;omega];simp only[aA];simp only[lN,a02];omega;simp only[a00];omega;rw[←d];simp only[aA];rw[←aA (c.take g.length),a19];intro h;have:=congrArg a74 h;simp only[a00,a02,a03]at this;omega;intro h;have:=congrArg a74 h;simp only[a00,a02,a03]at this;omega;simp only[a00,a02];omega;rw[decide_eq_false (show ¬ (c.length:Int) > (g.length:Int)by omega)];simp only[cF];have E:wrap .i64 ((wrap .i64 (m+(g.length:Int)))-c.length)=m+g.length-c.length:=by rw[w64 (n:=m+g.length) (by omega),w64 (by omega)]
 have:=a4B (p:=p++A) (X:=c) (M:=g.take (g.length-c.length)) (Y:=g.drop (g.length-c.length)) (s:=B++s) (by simp;omega) (by simp only[lN,a00,a02];omega) (a:=m-c.length) (b:=m+g.length-c.length) (n:=c.length) (by simp only[lN];omega) (by simp only[lN,a00,a02];omega) rfl
 simp only[aA]at this;rw[←aA (g.take _) (g.drop _) (B++s),a19]at this;rw[i,E,this];simp only[oB];have o:wrap .i64 ((g.length:Int)-c.length)=((g.take (g.length-c.length)).length:Int):=by rw[w64 (by omega),a00];omega
 rw[o];refine⟨_,c.length+(g.take (g.length-c.length)).length,rfl,by simp only[a00];omega,A,g.drop (g.length-c.length),g.take (g.length-c.length),c++B,?_,?_,?_,?_,?_,?_,?_⟩;rw[show(g.drop (g.length-c.length)).length=c.length by simp;omega];simp only[aA];simp only[a02];omega;simp only[a00,lN];omega;rw[←d];rw[←aA (g.take _) (g.drop _),a19];intro h;have:=congrArg a74 h;simp only[a00,a02,a03]at this;omega;intro h;have:=congrArg a74 h;simp only[a00,a02,a03]at this;omega;simp only[a00,a02];omega
theorem a5P(p q:Pk):klt p q=true↔p.2.1<q.2.1∨(p.2.1=q.2.1∧p.1<q.1):=by simp[klt]
theorem a5a(p q:Pk):klt p q=false↔¬ (p.2.1<q.2.1∨(p.2.1=q.2.1∧p.1<q.1)):=by rw[←a5P,Bool.not_eq_true]
theorem a3G(h:klt y x=false)(g:klt z y=false):klt z x=false:=by
 rw[a5a]at *;omega
theorem b2w(g:klt x y=true)(h:klt z y=false):klt x z=true:=by
 rw[a5P]at *;rw[a5a]at h;omega
theorem b1b(h:klt y x=false)(g:klt y z=true):klt x z=true:=by
 rw[a5P]at *;rw[a5a]at h;omega
theorem a5Q(h:klt x y=true):klt y x=false:=by
 rw[a5a];rw[a5P]at h;omega
def Asc(l:List Pk):Prop:=l.Pairwise fun x y=>klt y x=false
inductive Stb:List Pk→List Pk→Prop where
 |refl (l):Stb l l
 |swap (p:List Pk) (x y:Pk) (s:List Pk) (h:klt y x=true):Stb (p++x::y::s) (p++y::x::s)
 |trans {a b c}:Stb a b→Stb b c→Stb a c
theorem Stb.perm{a b:List Pk}(h:Stb a b):b.Perm a:=by
 induction h with
 |refl=>exact .refl _
 |swap p x y s _=>exact(List.Perm.swap x y s).append_left p
 |trans _ _ h1 h2=>exact h2.trans h1
theorem Stb.ctx{a b:List Pk}(h:Stb a b)(p s:List Pk):Stb (p++(a++s)) (p++(b++s)):=by
 induction h with
 |refl=>exact .refl _
 |swap q x y t h=>
  have:=Stb.swap (p++q) x y (t++s) h
  simpa only[aA,a09]using this
 |trans _ _ h1 h2=>exact h1.trans h2
theorem Stb.past(x:Pk):∀(Y:List Pk),(∀y∈Y,klt y x=true)→Stb (x::Y) (Y++[x])
 | [],_=>.refl _
 |y::Y,h=>by
  have f:=Stb.swap [] x y Y (h y (by simp));have g:=(Stb.past x Y fun z k=>h z (by simp[k])).ctx [y] [];simp only[a04]at g;exact f.trans g
theorem Stb.blocks:∀(X Y:List Pk),(∀x∈X,∀y∈Y,klt y x=true)→Stb (X++Y) (Y++X)
 | [],Y,_=>by rw[a04];exact .refl _
 |x::X,Y,h=>by
  have g:=(Stb.blocks X Y fun z k=>h z (by simp[k])).ctx [x] [];have f:=(Stb.past x Y (h x (by simp))).ctx [] X;simp only[a04,a05,aA,a09]at g f;exact g.trans f
theorem a6Y(S:Nat→Nat→σ)(E:Nat→β)(P:Nat→Bool)(lo b:Nat)(mono:∀h k,lo≤k→k≤h→h<b→P h=true→P k=true)(step:∀i j,lo≤i→i<j→j≤b→f (S i j)=some (.inl (bif P ((i+j) / 2)then S ((i+j) / 2+1) j else S i ((i+j) / 2))))(e:∀i,lo≤i→i≤b→f (S i i)=some (.inr (E i))):
  ∀(n i j:Nat),j=i+n→lo≤i→j≤b→(∀k,lo≤k→k<i→P k=true)→(∀k,j≤k→k<b→P k=false)→
  ∃c,lo≤c∧c≤b∧x0w f (S i j)=some (E c)∧(∀k,lo≤k→k<c→P k=true)∧(∀k,c≤k→k<b→P k=false):=by
 intro n
 induction n using a93 with
 |_ n ih=>
  intro i j q g a m o
  by_cases hn:n=0
  obtain rfl:i=j:=by omega
  exact⟨i,g,a,a1j (e i g a),m,o⟩
  ·have p:=step i j g (by omega) a;rw[a1T p];cases hP:P ((i+j) / 2)with
   |true=>
    exact ih (j-((i+j) / 2+1)) (by omega) _ _ (by omega) (by omega) a (fun k d l=>mono _ k d (by omega) (by omega) hP) o
   |false=>
    refine ih ((i+j) / 2-i) (by omega) _ _ (by omega) g (by omega) m fun k d l=>?_
    cases hk:P k with
    |false=>rfl
    |true=>
     have:=mono k ((i+j) / 2) (by omega) d l hk
     rw[hP]at this;cases this
theorem a5R(h:i+j<2147483648):wrap .i64 (D0o .u64 (wrap .u64 (wrap .i64 ((i:Int)+(j:Int)))) (1:Int))=(((i+j) / 2:Nat):Int):=by
 rw[w64 (n:=(i:Int)+j) (by omega)];have g:wrap .u64 ((i:Int)+(j:Int))=((i+j:Nat):Int):=by
  simp only[wrap,IntKind.bits,IntKind.signed]
  simp
  omega
 rw[g];have f:D0o .u64 ((i+j:Nat):Int) (1:Int)=(((i+j) / 2:Nat):Int):=by
  unfold D0o;show Int.fdiv _ 2=_;rw[a69 _ (by decide)];omega
 rw[f,w64 (by omega)]
theorem b1h(x:Pk):klt x x=false:=by rw[a5a];omega
theorem a3H(h:Asc Y)(g:i≤j)(f:j<Y.length):klt Y[j] (Y[i]'(by omega))=false:=by
 by_cases e:i=j
 subst e;exact b1h _;exact a71.1 h i j (by omega) f (by omega)
theorem a5h{q:List Pk}{t:Nat}(h:k=q.length+t)(g:t<Y.length):a13 (q++(Y++s)) k z=Y[t]:=by
 subst h;rw[lD,a37 (by omega),a54 (by omega),show q.length+t-q.length=t by omega,lG g];rfl
theorem a7W(P Q R:List α)(x y:α)(h:i=P.length)(g:j=P.length+1+Q.length):a95 (a95 (P++x::(Q++y::R)) j x) i y=P++y::(Q++x::R):=by
 rw[List.set_comm _ _ (by omega)];exact a6X P Q R x y h g
theorem a5i(h:y∈Y.take n):∃t,∃h:t<Y.length,t<n∧Y[t]=y:=by
 obtain⟨t,g,e⟩:=a81.1 h;rw[a00]at g;rw[List.getElem_take]at e;exact⟨t,by omega,by omega,e⟩
theorem a5j(h:y∈Y.drop n):∃t,∃h:t<Y.length,n≤t∧Y[t]=y:=by
 obtain⟨t,g,e⟩:=a81.1 h;rw[a02]at g;rw[List.getElem_drop]at e;exact⟨n+t,by omega,by omega,e⟩
theorem b3v(T:Nat)(O:Asc Y)(hl:(p++([x]++(Y++s))).length<1000000){a:Int}(P:a=p.length)(hm:m=(p.length+1:Nat))(V:b=(p.length+1+Y.length:Nat)):
  ∃Z,a0B (T+1) (p++([x]++(Y++s)),a,m,b,())=some (p++(Z++s))∧Asc Z∧Stb ([x]++Y) Z:=by
 simp only[lN,a07]at hl;have I:a13 (p++([x]++(Y++s))) p.length ((0:Int),(0:Int),(0:Int),false,false,([]:(List Int)),())=x:=a4j p (Y++s) x _ rfl;have d:∀t (A:t<Y.length),a13 (p++([x]++(Y++s))) (p.length+1+t) ((0:Int),(0:Int),(0:Int),false,false,([]:(List Int)),())=Y[t]:=fun t A=>by
  rw[←aA];exact a5h (q:=p++[x]) (by simp) A
 obtain⟨c,W,X,G,E,F⟩:=a6Y (f:=a0X) (fun i j=>(a,(),(i:Int),(j:Int),p++([x]++(Y++s)),())) (fun c=>(a,(c:Int),p++([x]++(Y++s)),()))
  (fun k=>klt (a13 (p++([x]++(Y++s))) k ((0:Int),(0:Int),(0:Int),false,false,([]:(List Int)),())) x) (p.length+1) (p.length+1+Y.length)
  (fun h k o r D N=>by
   obtain⟨t,rfl⟩:∃t,h=p.length+1+t:=⟨h-(p.length+1),by omega⟩;obtain⟨u,rfl⟩:∃u,k=p.length+1+u:=⟨k-(p.length+1),by omega⟩;rw[d t (by omega)]at N;rw[d u (by omega)];exact b1b (a3H O (show u≤t by omega) (by omega)) N)
  (fun i j o r D=>by
   unfold a0X;simp only;rw[a5R (by omega),decide_eq_true (show(i:Int)<(j:Int)by omega)];obtain⟨v,hv,H⟩:=a6H (a13 (p++([x]++(Y++s))) ((i+j) / 2) ((0:Int),(0:Int),(0:Int),false,false,([]:(List Int)),())) x;have g:(p++([x]++(Y++s))).length=p.length+(1+(Y.length+s.length)):=by simp only[lN,a07]
   rw[g,decide_eq_true (show(0:Int)≤(((i+j) / 2:Nat):Int)by omega),decide_eq_true (show(((i+j) / 2:Nat):Int)<((p.length+(1+(Y.length+s.length)):Nat):Int)by omega),decide_eq_true (show 0≤a by omega),decide_eq_true (show a<((p.length+(1+(Y.length+s.length)):Nat):Int)by omega)];simp only[a27,cT,tN,P,I,hv,oB,H];cases klt (a13 (p++([x]++(Y++s))) ((i+j) / 2) ((0:Int),(0:Int),(0:Int),false,false,([]:(List Int)),())) x with
   |true=>
    simp only[cT];rw[w64 (by omega)];rfl
   |false=>rfl)
  (fun i o r=>by
   unfold a0X;simp only;rw[decide_eq_false (by omega)];rfl) Y.length _ _ rfl (a11 _) (a11 _) (fun k o r=>by omega) (fun k o r=>by omega)
 obtain⟨n,rfl⟩:∃n,c=p.length+1+n:=⟨c-(p.length+1),by omega⟩;have hn:n≤Y.length:=by omega
 have M:∀y∈Y.take n,klt y x=true:=fun y w=>by
  obtain⟨t,A,l,rfl⟩:=a5i w
  have:=E (p.length+1+t) (by omega) (by omega)
  rwa [d t A]at this
 have U:∀y∈Y.drop n,klt y x=false:=fun y w=>by
  obtain⟨t,A,l,rfl⟩:=a5j w
  have:=F (p.length+1+t) (by omega) (by omega)
  rwa [d t A]at this
 have C:Y.take n++Y.drop n=Y:=a19 n Y;refine⟨Y.take n++x::Y.drop n,?_,?_,?_⟩;unfold a0B;simp only;rw[show wrap .i64 (m-a)=1 by rw[w64 (by omega)];omega];simp only[beq_self_eq_true,cT];rw[hm,V,G];simp only[oB]
 have:=a0V (f:=a0Y) (fun t=>(((p.length+1+n:Nat):Int),((p.length+t:Nat):Int),p++(((Y.take n).take t++x::(Y.take n).drop t)++(Y.drop n++s)),())) n (b:=(p++((Y.take n++x::Y.drop n)++s),())) (fun t A=>?_) ?_
 simp only[a36,a64,a05,Nat.add_zero,a09]at this;rw[←aA (Y.take n),C,←P]at this;rw[show[x]++(Y++s)=x::(Y++s)from rfl,this];rfl;unfold a0Y;simp only;have l:t<(Y.take n).length:=by rw[a00];omega
 have L:wrap .i64 (((p.length+1+n:Nat):Int)-1)=((p.length+n:Nat):Int):=by rw[w64 (by omega)];omega
 have w2:wrap .i64 (((p.length+t:Nat):Int)+1)=((p.length+(t+1):Nat):Int):=by rw[w64 (by omega)];omega
 rw[L,w2,decide_eq_true (show((p.length+t:Nat):Int)<((p.length+n:Nat):Int)by omega)];have e:p++(((Y.take n).take t++x::(Y.take n).drop t)++(Y.drop n++s))=(p++(Y.take n).take t)++x::([]++(Y.take n)[t]::((Y.take n).drop (t+1)++(Y.drop n++s))):=by
  rw[a34 l];simp only[aA,a09,a05]
 have S:p++(((Y.take n).take (t+1)++x::(Y.take n).drop (t+1))++(Y.drop n++s))=(p++(Y.take n).take t)++(Y.take n)[t]::([]++x::((Y.take n).drop (t+1)++(Y.drop n++s))):=by
  rw[a06 l];simp only[aA,a09,a05]
 have B:(p++(Y.take n).take t).length=p.length+t:=by simp only[lN,a00];omega
 have Q:a08 ((p.length+t:Nat):Int)=(p++(Y.take n).take t).length:=by rw[B];rfl
 have R:a08 ((p.length+(t+1):Nat):Int)=(p++(Y.take n).take t).length+1+([]:List Pk).length:=by rw[B];rfl
 rw[e,S,a4j _ _ _ _ Q,a6I _ _ _ _ _ _ R,a6X _ _ _ _ _ Q R];have g:((p++(Y.take n).take t)++x::([]++(Y.take n)[t]::((Y.take n).drop (t+1)++(Y.drop n++s)))).length=p.length+(1+(Y.length+s.length)):=by
  rw[←e];simp only[lN,lC,a00,a02];omega
 simp only[a56,g];rw[decide_eq_true (show(0:Int)≤((p.length+t:Nat):Int)by omega),decide_eq_true (show(0:Int)≤((p.length+(t+1):Nat):Int)by omega),decide_eq_true (show((p.length+t:Nat):Int)<((p.length+(1+(Y.length+s.length)):Nat):Int)by omega),decide_eq_true (show((p.length+(t+1):Nat):Int)<((p.length+(1+(Y.length+s.length)):Nat):Int)by omega)];rfl;unfold a0Y;simp only;have L:wrap .i64 (((p.length+1+n:Nat):Int)-1)=((p.length+n:Nat):Int):=by rw[w64 (by omega)];omega
 rw[L,decide_eq_false (by omega)];have o:(Y.take n).take n=Y.take n:=by rw[a78,Nat.min_self]
 have r:(Y.take n).drop n=[]:=by rw[a30,a00];omega
 simp only[cF,o,r,aA,a09,a05];have h:=O;rw[←C]at h;obtain⟨o,r,D⟩:=a14.1 h;refine a14.2 ⟨o,a68.2 ⟨fun y w=>U y w,r⟩,fun y w z K=>?_⟩;rcases mC.1 K with rfl|K;exact a5Q (M y w);exact D y w z K;have h:=(Stb.past x (Y.take n) M).ctx [] (Y.drop n);simp only[a05,aA,a09,C]at h;exact h
theorem b3w(Y:Nat)(R:Asc X)(h0:X.length≠1)(hl:(p++(X++([y]++s))).length<1000000){a:Int}(ha:a=p.length)(U:m=(p.length+X.length:Nat))(hb:b=(p.length+X.length+1:Nat)):
  ∃Z,a0B (Y+1) (p++(X++([y]++s)),a,m,b,())=some (p++(Z++s))∧Asc Z∧Stb (X++[y]) Z:=by
 simp only[lN,a07]at hl;have N:a13 (p++(X++([y]++s))) (p.length+X.length) ((0:Int),(0:Int),(0:Int),false,false,([]:(List Int)),())=y:=by
  rw[←aA];exact a4j (p++X) s y _ (by simp)
 have l:∀t (w:t<X.length),a13 (p++(X++([y]++s))) (p.length+t) ((0:Int),(0:Int),(0:Int),false,false,([]:(List Int)),())=X[t]:=fun t w=>a5h rfl w;obtain⟨c,h4,h5,B,G,H⟩:=a6Y (f:=a0Z) (fun i j=>(m,(),(i:Int),(j:Int),p++(X++([y]++s)),())) (fun c=>(m,(c:Int),p++(X++([y]++s)),()))
  (fun k=>!klt y (a13 (p++(X++([y]++s))) k ((0:Int),(0:Int),(0:Int),false,false,([]:(List Int)),()))) p.length (p.length+X.length)
  (fun h k o q F Q=>by
   obtain⟨t,rfl⟩:∃t,h=p.length+t:=⟨h-p.length,by omega⟩;obtain⟨u,rfl⟩:∃u,k=p.length+u:=⟨k-p.length,by omega⟩;rw[l t (by omega),a57]at Q;rw[l u (by omega),a57];exact a3G (a3H R (show u≤t by omega) (by omega)) Q)
  (fun i j o q F=>by
   unfold a0Z;simp only;rw[a5R (by omega),decide_eq_true (show(i:Int)<(j:Int)by omega)];obtain⟨v,hv,M⟩:=a6H y (a13 (p++(X++([y]++s))) ((i+j) / 2) ((0:Int),(0:Int),(0:Int),false,false,([]:(List Int)),()));have g:(p++(X++([y]++s))).length=p.length+(X.length+(1+s.length)):=by simp only[lN,a07]
   rw[g,decide_eq_true (show(0:Int)≤(((i+j) / 2:Nat):Int)by omega),decide_eq_true (show(((i+j) / 2:Nat):Int)<((p.length+(X.length+(1+s.length)):Nat):Int)by omega),decide_eq_true (show 0≤m by omega),decide_eq_true (show m<((p.length+(X.length+(1+s.length)):Nat):Int)by omega)];simp only[a27,cT,tN,U,N,hv,oB,M];cases klt y (a13 (p++(X++([y]++s))) ((i+j) / 2) ((0:Int),(0:Int),(0:Int),false,false,([]:(List Int)),()))with
   |false=>
    simp only[a79,cT];rw[w64 (by omega)];rfl
   |true=>rfl)
  (fun i o q=>by
   unfold a0Z;simp only;rw[decide_eq_false (by omega)];rfl) X.length _ _ rfl (a11 _) (a11 _) (fun k o q=>by omega) (fun k o q=>by omega)
 obtain⟨n,rfl⟩:∃n,c=p.length+n:=⟨c-p.length,by omega⟩;have hn:n≤X.length:=by omega
 have hA:∀x∈X.take n,klt y x=false:=fun x d=>by
  obtain⟨t,w,L,rfl⟩:=a5i d
  have:=G (p.length+t) (by omega) (by omega)
  rw[l t w]at this;simpa using this
 have P:∀x∈X.drop n,klt y x=true:=fun x d=>by
  obtain⟨t,w,L,rfl⟩:=a5j d
  have:=H (p.length+t) (by omega) (by omega)
  rw[l t w]at this;simpa using this
 have E:X.take n++X.drop n=X:=a19 n X;have lD:(X.drop n).length=X.length-n:=a02;refine⟨X.take n++y::X.drop n,?_,?_,?_⟩;unfold a0B;simp only;have w0:wrap .i64 (m-a)=(X.length:Int):=by rw[w64 (by omega)];omega
 have I:((X.length:Int)==1)=false:=by simp;omega
 rw[w0,I,show wrap .i64 (b-m)=1 by rw[w64 (by omega)];omega];simp only[beq_self_eq_true,cT,cF];have W:a=((p.length:Nat):Int):=ha;rw[W];have O:(((p.length+X.length:Nat):Int))=m:=U.symm;rw[O]at B;rw[B];simp only[oB]
 have:=a0V (f:=a1a) (fun t=>(((p.length+n:Nat):Int),((p.length+X.length-t:Nat):Int),p++(X.take n++((X.drop n).take (X.length-n-t)++y::(X.drop n).drop (X.length-n-t)))++s,())) (X.length-n) (b:=(p++((X.take n++y::X.drop n)++s),())) (fun t w=>?_) ?_
 have o:(X.drop n).take (X.length-n-0)=X.drop n:=by rw[a86,←lD];exact a23
 have q:(X.drop n).drop (X.length-n-0)=[]:=by rw[a86,←lD];exact a59
 rw[o,q]at this;simp only[a86]at this;rw[←aA (X.take n),E,O]at this;simp only[aA]at this;rw[this];simp only[oB,aA];unfold a1a;simp only;obtain⟨r,hr⟩:∃r,X.length-n-t=r+1:=⟨X.length-n-t-1,by omega⟩;have K:X.length-n-(t+1)=r:=by omega
 have D:r<(X.drop n).length:=by omega
 have w2:wrap .i64 (((p.length+X.length-t:Nat):Int)-1)=((p.length+n+r:Nat):Int):=by rw[w64 (by omega)];omega
 have w3:((p.length+X.length-t:Nat):Int)=((p.length+n+r+1:Nat):Int):=by omega
 have w4:((p.length+X.length-(t+1):Nat):Int)=((p.length+n+r:Nat):Int):=by omega
 rw[hr,K,w2,w3,w4,decide_eq_true (show((p.length+n+r+1:Nat):Int) > ((p.length+n:Nat):Int)by omega)];have e:p++(X.take n++((X.drop n).take (r+1)++y::(X.drop n).drop (r+1)))++s=(p++(X.take n++(X.drop n).take r))++(X.drop n)[r]::([]++y::((X.drop n).drop (r+1)++s)):=by
  rw[a06 D];simp only[aA,a09,a05]
 have V:p++(X.take n++((X.drop n).take r++y::(X.drop n).drop r))++s=(p++(X.take n++(X.drop n).take r))++y::([]++(X.drop n)[r]::((X.drop n).drop (r+1)++s)):=by
  rw[a34 D];simp only[aA,a09,a05]
 have C:(p++(X.take n++(X.drop n).take r)).length=p.length+n+r:=by simp only[lN,a00];omega
 have S:a08 ((p.length+n+r:Nat):Int)=(p++(X.take n++(X.drop n).take r)).length:=by rw[C];rfl
 have T:a08 ((p.length+n+r+1:Nat):Int)=(p++(X.take n++(X.drop n).take r)).length+1+([]:List Pk).length:=by rw[C];rfl
 rw[e,V,a4j _ _ _ _ S,a6I _ _ _ _ _ _ T,a7W _ _ _ _ _ S T];have g:((p++(X.take n++(X.drop n).take r))++(X.drop n)[r]::([]++y::((X.drop n).drop (r+1)++s))).length=p.length+(X.length+(1+s.length)):=by
  rw[←e];simp only[lN,lC,a00,a02];omega
 simp only[a56,g];rw[decide_eq_true (show(0:Int)≤((p.length+n+r:Nat):Int)by omega),decide_eq_true (show(0:Int)≤((p.length+n+r+1:Nat):Int)by omega),decide_eq_true (show((p.length+n+r:Nat):Int)<((p.length+(X.length+(1+s.length)):Nat):Int)by omega),decide_eq_true (show((p.length+n+r+1:Nat):Int)<((p.length+(X.length+(1+s.length)):Nat):Int)by omega)];rfl;unfold a1a;simp only;rw[decide_eq_false (by omega)];simp only[a49,a36,a64,a05,cF,aA];have h:=R;rw[←E]at h;obtain⟨o,q,F⟩:=a14.1 h;refine a14.2 ⟨o,a68.2 ⟨fun x d=>a5Q (P x d),q⟩,fun x d z A=>?_⟩;rcases mC.1 A with rfl|A;exact hA x d;exact F x d z A;have h:=(Stb.blocks (X.drop n) [y] (fun x d z A=>by rw[a17]at A;rw[A];exact P x d)).ctx (X.take n) [];simp only[a04]at h;rw[←aA,E]at h;exact h
theorem a0K{x:Option α}{f:α→Option β}{v:α}{r:Option β}(h:x=some v)(g:f v=r):x.bind f=r:=by rw[h];exact g
@[reducible] def zPk:Pk:=((0:Int),((0:Int),((0:Int),(false,(false,(([]:(List Int)),()))))))
theorem b1U(G:Asc X)(H:Asc Y)(W:(p++(X++(Y++s))).length<1000000){h:Nat}(hh:h=(X.length+Y.length) / 2)(u:Unit)(D F E m n:Int)(hn:n=(p.length+h+(p.length+X.length):Nat)):
  ∃t e,t+e=h∧t≤X.length∧e≤Y.length∧
   x0w a0N (D,F,E,u,m,n,((p.length+(h-Y.length):Nat):Int),((p.length+min h X.length:Nat):Int),n-1,p++(X++(Y++s)),())=some (D,F,E,u,m,n,((p.length+t:Nat):Int),p++(X++(Y++s)),())∧
   (∀y∈Y.take e,∀x∈X.drop t,klt y x=true)∧(∀x∈X.take t,∀y∈Y.drop e,klt y x=false):=by
 simp only[lN]at W;have d:∀t (r:t<X.length),a13 (p++(X++(Y++s))) (p.length+t) zPk=X[t]:=fun t r=>a5h rfl r;have l:∀t (r:t<Y.length),a13 (p++(X++(Y++s))) (p.length+X.length+t) zPk=Y[t]:=fun t r=>by
  rw[←aA];exact a5h (q:=p++X) (by simp) r
 have b:∀t,h-Y.length≤t→t<min h X.length→t<X.length∧h-1-t<Y.length∧(p.length+h+(p.length+X.length)-1-(p.length+t))=p.length+X.length+(h-1-t):=fun t a A=>by omega
 obtain⟨c,T,U,M,I,K⟩:=a6Y (f:=a0N) (fun i j=>(D,F,E,u,m,n,(i:Int),(j:Int),n-1,p++(X++(Y++s)),())) (fun c=>(D,F,E,u,m,n,(c:Int),p++(X++(Y++s)),()))
  (fun k=>!klt (a13 (p++(X++(Y++s))) (p.length+h+(p.length+X.length)-1-k) zPk) (a13 (p++(X++(Y++s))) k zPk)) (p.length+(h-Y.length)) (p.length+min h X.length)
  (fun g k a A S R=>by
   obtain⟨t,rfl⟩:∃t,g=p.length+t:=⟨g-p.length,by omega⟩;obtain⟨v,rfl⟩:∃u,k=p.length+u:=⟨k-p.length,by omega⟩;obtain⟨o,w,z⟩:=b t (by omega) (by omega);obtain⟨Z,r2,r3⟩:=b v (by omega) (by omega);rw[z,d t o,l _ w,a57]at R;rw[r3,d v Z,l _ r2,a57];exact a3G (a3G (a3H G (show v≤t by omega) o) R) (a3H H (show h-1-t≤h-1-v by omega) r2))
  (fun i j a A S=>by
   unfold a0N;simp only;obtain⟨t,r⟩:∃t,(i+j) / 2=p.length+t:=⟨(i+j) / 2-p.length,by omega⟩;obtain⟨o,w,z⟩:=b t (by omega) (by omega);rw[a5R (by omega),decide_eq_true (show(i:Int)<(j:Int)by omega),r,z];have wp:wrap .i64 (n-1-((p.length+t:Nat):Int))=((p.length+X.length+(h-1-t):Nat):Int):=by rw[w64 (by omega)];omega
   obtain⟨v,hv,O⟩:=a6H (a13 (p++(X++(Y++s))) (p.length+X.length+(h-1-t)) zPk) (a13 (p++(X++(Y++s))) (p.length+t) zPk);have C:(p++(X++(Y++s))).length=p.length+(X.length+(Y.length+s.length)):=by simp only[lN]
   rw[C,wp,decide_eq_true (show(0:Int)≤((p.length+t:Nat):Int)by omega),decide_eq_true (show((p.length+t:Nat):Int)<((p.length+(X.length+(Y.length+s.length)):Nat):Int)by omega),decide_eq_true (show(0:Int)≤((p.length+X.length+(h-1-t):Nat):Int)by omega),decide_eq_true (show((p.length+X.length+(h-1-t):Nat):Int)<((p.length+(X.length+(Y.length+s.length)):Nat):Int)by omega)];simp only[a27,cT,tN,hv,oB,O];cases klt (a13 (p++(X++(Y++s))) (p.length+X.length+(h-1-t)) zPk) (a13 (p++(X++(Y++s))) (p.length+t) zPk)with
   |false=>
    simp only[a79,cT];rw[w64 (by omega)];rfl
   |true=>rfl)
  (fun i a A=>by
   unfold a0N;simp only;rw[decide_eq_false (by omega)];rfl) (min h X.length-(h-Y.length)) _ _ (by omega) (a11 _) (a11 _) (fun k a A=>by omega) (fun k a A=>by omega)
 obtain⟨t,rfl⟩:∃t,c=p.length+t:=⟨c-p.length,by omega⟩;refine⟨t,h-t,by omega,by omega,by omega,M,fun y Q x P=>?_,fun x P y Q=>?_⟩;obtain⟨i,V,L,rfl⟩:=a5i Q;obtain⟨j,N,B,rfl⟩:=a5j P;obtain⟨o,w,z⟩:=b t (by omega) (by omega);have a:=K (p.length+t) (by omega) (by omega);rw[z,d t o,l _ w]at a;have a:klt Y[h-1-t] X[t]=true:=by simpa using a
 exact b2w (b1b (a3H H (show i≤h-1-t by omega) w) a) (a3H G B N);obtain⟨i,V,L,rfl⟩:=a5i P;obtain⟨j,N,B,rfl⟩:=a5j Q;obtain⟨o,w,z⟩:=b (t-1) (by omega) (by omega);have a:=I (p.length+(t-1)) (by omega) (by omega);rw[z,d _ o,l _ w]at a;have a:klt Y[h-1-(t-1)] X[t-1]=false:=by simpa using a
 exact a3G (a3G (a3H G (show i≤t-1 by omega) o) a) (a3H H (show h-1-(t-1)≤j by omega) N)
theorem len1{l:List α}(h:l.length=1):∃x,l=[x]:=by
 match l,h with
 | [x],_=>exact⟨x,rfl⟩
set_option maxHeartbeats 4000000 in
theorem a7X:∀(fu:Nat){p X Y s:List Pk},Asc X→Asc Y→X≠[]→Y≠[]→X.length+Y.length≤fu→(p++(X++(Y++s))).length<1000000→
  ∃Z,a0B fu (p++(X++(Y++s)),((p.length:Int),(((p.length+X.length:Nat):Int),(((p.length+X.length+Y.length:Nat):Int),()))))=some (p++(Z++s))∧Asc Z∧Stb (X++Y) Z
 |0,p,X,Y,s,_,_,h1,_,hf,_=>by
  have:=a01.2 h1
  omega
 |fu+1,p,X,Y,s,hX,hY,hX0,hY0,hf,hl=>by
  have lX:=a01.2 hX0
  have lY:=a01.2 hY0
  by_cases h1:X.length=1
  ·obtain⟨x,rfl⟩:=len1 h1
   exact b3v fu hY hl rfl rfl rfl
  by_cases h2:Y.length=1
  ·obtain⟨y,rfl⟩:=len1 h2
   exact b3w fu hX h1 hl rfl rfl rfl
  have hl':=hl
  simp only[lN]at hl'
  obtain⟨h,hh⟩:∃h,h=(X.length+Y.length) / 2:=⟨_,rfl⟩
  obtain⟨t,e,hte,ht,he,hit,hlt,hle⟩:=b1U hX hY hl hh () (p.length:Int) ((p.length+X.length:Nat):Int) ((p.length+X.length+Y.length:Nat):Int) ((p.length+h:Nat):Int) ((p.length+h+(p.length+X.length):Nat):Int) rfl
  have eX:X.take t++X.drop t=X:=a19 t X
  have eY:Y.take e++Y.drop e=Y:=a19 e Y
  have lX1:(X.take t).length=t:=by rw[a00];omega
  have lY1:(Y.take e).length=e:=by rw[a00];omega
  have lX2:(X.drop t).length=X.length-t:=a02
  have lY2:(Y.drop e).length=Y.length-e:=a02
  obtain⟨aX1,aX2,aX⟩:=a14.1 (show(X.take t++X.drop t).Pairwise _ by rw[eX];exact hX)
  obtain⟨aY1,aY2,aY⟩:=a14.1 (show(Y.take e++Y.drop e).Pairwise _ by rw[eY];exact hY)

  have m1:∃Z1,(t=0∨e=0∨a0B fu (p++(X.take t++(Y.take e++(X.drop t++(Y.drop e++s)))),((p.length:Int),(((p.length+t:Nat):Int),(((p.length+h:Nat):Int),()))))=some (p++(Z1++(X.drop t++(Y.drop e++s)))))∧((t=0∨e=0)→Z1=X.take t++Y.take e)∧Asc Z1∧Stb (X.take t++Y.take e) Z1:=by
   by_cases h0:t=0∨e=0
   ·refine⟨X.take t++Y.take e,by omega,fun _=>rfl,?_,.refl _⟩
    rcases h0 with rfl|rfl
    ·rw[a36,a05];exact aY1
    ·rw[a36,a04];exact aX1
   ·obtain⟨Z,z1,z2,z3⟩:=a7X fu (p:=p) (X:=X.take t) (Y:=Y.take e) (s:=X.drop t++(Y.drop e++s)) aX1 aY1 (a01.1 (by omega)) (a01.1 (by omega)) (by omega) (by simp only[lN];omega)
    rw[lX1,lY1,Nat.add_assoc,hte]at z1
    exact⟨Z,.inr (.inr z1),fun h=>absurd h h0,z2,z3⟩
  obtain⟨Z1,z1,z1e,z1a,z1s⟩:=m1
  have lZ1:Z1.length=h:=by rw[z1s.perm.length_eq,lN];omega
  have m2:∃Z2,(t=X.length∨e=Y.length∨a0B fu (p++(Z1++(X.drop t++(Y.drop e++s))),(((p.length+h:Nat):Int),(((p.length+X.length+e:Nat):Int),(((p.length+X.length+Y.length:Nat):Int),()))))=some (p++(Z1++(Z2++s))))∧((t=X.length∨e=Y.length)→Z2=X.drop t++Y.drop e)∧Asc Z2∧Stb (X.drop t++Y.drop e) Z2:=by
   by_cases h0:t=X.length∨e=Y.length
   ·refine⟨X.drop t++Y.drop e,by omega,fun _=>rfl,?_,.refl _⟩
    rcases h0 with h0|h0
    ·rw[a30.2 (by omega)];exact aY2
    ·rw[a30.2 (show Y.length≤e by omega),a04];exact aX2
   ·obtain⟨Z,q1,q2,q3⟩:=a7X fu (p:=p++Z1) (X:=X.drop t) (Y:=Y.drop e) (s:=s) aX2 aY2 (a01.1 (by omega)) (a01.1 (by omega)) (by omega) (by simp only[lN];omega)
    rw[lN,lZ1,lX2,lY2,show p.length+h+(X.length-t)=p.length+X.length+e by omega,show p.length+X.length+e+(Y.length-e)=p.length+X.length+Y.length by omega]at q1
    simp only[aA]at q1
    exact⟨Z,.inr (.inr q1),fun h=>absurd h h0,q2,q3⟩
  obtain⟨Z2,z2,z2e,z2a,z2s⟩:=m2
  refine⟨Z1++Z2,?_,?_,?_⟩
  ·unfold a0B
   simp only
   have w0:wrap .i64 (((p.length+X.length:Nat):Int)-(p.length:Int))=(X.length:Int):=by rw[w64 (by omega)];omega
   have w1:wrap .i64 (((p.length+X.length+Y.length:Nat):Int)-((p.length+X.length:Nat):Int))=(Y.length:Int):=by rw[w64 (by omega)];omega
   have n0:((X.length:Int)==1)=false:=by simp;omega
   have n1:((Y.length:Int)==1)=false:=by simp;omega
   have wm:wrap .i64 (D0o .u64 (wrap .u64 (wrap .i64 ((p.length:Int)+((p.length+X.length+Y.length:Nat):Int)))) (1:Int))=((p.length+h:Nat):Int):=by
    rw[a5R (by omega)];omega
   have wn:wrap .i64 (((p.length+h:Nat):Int)+((p.length+X.length:Nat):Int))=((p.length+h+(p.length+X.length):Nat):Int):=by rw[w64 (by omega)];omega
   rw[w0,w1,n0,n1,wm,wn]
   simp only[cF]
   refine a0K (v:=((p.length:Int),(((p.length+X.length:Nat):Int),(((p.length+X.length+Y.length:Nat):Int),((),(((p.length+h:Nat):Int),(((p.length+h+(p.length+X.length):Nat):Int),(((p.length+(h-Y.length):Nat):Int),(((p.length+min h X.length:Nat):Int),(p++(X++(Y++s)),())))))))))) ?_ ?_
   ·by_cases hA:h<X.length
    ·rw[decide_eq_true (show((p.length+X.length:Nat):Int) > ((p.length+h:Nat):Int)by omega)]
     have wb:wrap .i64 (((p.length+h+(p.length+X.length):Nat):Int)-((p.length+X.length+Y.length:Nat):Int))=((p.length+(h-Y.length):Nat):Int):=by rw[w64 (by omega)];omega
     rw[wb,a44 (by omega)]
     rfl
    ·rw[decide_eq_false (show ¬ ((p.length+X.length:Nat):Int) > ((p.length+h:Nat):Int)by omega),a52 (by omega),show h-Y.length=0 by omega]
     rfl
   simp only
   have wn1:wrap .i64 (((p.length+h+(p.length+X.length):Nat):Int)-1)=((p.length+h+(p.length+X.length):Nat):Int)-1:=w64 (by omega)
   rw[wn1]
   refine a0K hit ?_
   simp only
   have we:wrap .i64 (((p.length+h+(p.length+X.length):Nat):Int)-((p.length+t:Nat):Int))=((p.length+X.length+e:Nat):Int):=by rw[w64 (by omega)];omega
   rw[we]
   refine a0K (v:=((p.length:Int),(((p.length+X.length+Y.length:Nat):Int),((),(((p.length+h:Nat):Int),(((p.length+t:Nat):Int),(((p.length+X.length+e:Nat):Int),(p++(X.take t++(Y.take e++(X.drop t++(Y.drop e++s)))),())))))))) ?_ ?_
   ·by_cases hr:t<X.length∧0<e
    ·rw[decide_eq_true (show((p.length+t:Nat):Int)<((p.length+X.length:Nat):Int)by omega),decide_eq_true (show((p.length+X.length:Nat):Int)<((p.length+X.length+e:Nat):Int)by omega)]
     simp only[cT,oB]
     have hrot:=a9z (p:=p++X.take t) (X:=X.drop t) (Y:=Y.take e) (s:=Y.drop e++s) (a01.1 (by omega)) (a01.1 (by omega)) (by simp only[lN];omega) (a:=((p.length+t:Nat):Int)) (m:=((p.length+X.length:Nat):Int)) (b:=((p.length+X.length+e:Nat):Int)) (by simp only[lN];omega) (by simp only[lN];omega) (by simp only[lN];omega)
     have e1:(p++X.take t)++(X.drop t++(Y.take e++(Y.drop e++s)))=p++(X++(Y++s)):=by
      rw[←aA (Y.take e),eY,aA,←aA (X.take t),eX]
     rw[e1]at hrot
     rw[hrot]
     simp only[oB,aA]
    ·have e1:p++(X.take t++(Y.take e++(X.drop t++(Y.drop e++s))))=p++(X++(Y++s)):=by
      by_cases h0:e=0
      ·have q1:Y.take e=[]:=by rw[h0];rfl
       have q2:Y.drop e=Y:=by rw[h0];rfl
       rw[q1,q2,a05,←aA (X.take t),eX]
      ·have q1:X.drop t=[]:=a30.2 (by omega)
       have q2:X.take t=X:=a28 (by omega)
       rw[q1,q2,a05,←aA (Y.take e),eY]
     rw[e1]
     by_cases h0:t<X.length
     ·rw[decide_eq_true (show((p.length+t:Nat):Int)<((p.length+X.length:Nat):Int)by omega),decide_eq_false (show ¬ ((p.length+X.length:Nat):Int)<((p.length+X.length+e:Nat):Int)by omega)]
      rfl
     ·rw[decide_eq_false (show ¬ ((p.length+t:Nat):Int)<((p.length+X.length:Nat):Int)by omega)]
      rfl
   simp only
   refine a0K (v:=(((p.length+X.length+Y.length:Nat):Int),((),(((p.length+h:Nat):Int),(((p.length+X.length+e:Nat):Int),(p++(Z1++(X.drop t++(Y.drop e++s))),())))))) ?_ ?_
   ·by_cases h0:t=0∨e=0
    ·rw[z1e h0]
     by_cases h3:t=0
     ·rw[decide_eq_false (show ¬ (p.length:Int)<((p.length+t:Nat):Int)by omega)]
      simp only[cF,oB,aA]
     ·rw[decide_eq_true (show(p.length:Int)<((p.length+t:Nat):Int)by omega),decide_eq_false (show ¬ ((p.length+t:Nat):Int)<((p.length+h:Nat):Int)by omega)]
      simp only[cT,cF,oB,aA]
    ·rw[decide_eq_true (show(p.length:Int)<((p.length+t:Nat):Int)by omega),decide_eq_true (show((p.length+t:Nat):Int)<((p.length+h:Nat):Int)by omega)]
     simp only[cT,oB]
     rw[(z1.resolve_left (by omega)).resolve_left (by omega)]
     rfl
   simp only
   by_cases h0:t=X.length∨e=Y.length
   ·rw[z2e h0]
    by_cases h3:t=X.length
    ·rw[decide_eq_false (show ¬ ((p.length+h:Nat):Int)<((p.length+X.length+e:Nat):Int)by omega)]
     simp only[cF,oB,aA]
    ·rw[decide_eq_true (show((p.length+h:Nat):Int)<((p.length+X.length+e:Nat):Int)by omega),decide_eq_false (show ¬ ((p.length+X.length+e:Nat):Int)<((p.length+X.length+Y.length:Nat):Int)by omega)]
     simp only[cT,cF,oB,aA]
   ·rw[decide_eq_true (show((p.length+h:Nat):Int)<((p.length+X.length+e:Nat):Int)by omega),decide_eq_true (show((p.length+X.length+e:Nat):Int)<((p.length+X.length+Y.length:Nat):Int)by omega)]
    simp only[cT,oB]
    rw[(z2.resolve_left (by omega)).resolve_left (by omega)]
    simp only[oB,aA]
  ·refine a14.2 ⟨z1a,z2a,fun u hu v hv=>?_⟩
   have hu:=(z1s.perm.mem_iff).1 hu
   have hv:=(z2s.perm.mem_iff).1 hv
   rcases mA.1 hu with hu|hu<;>rcases mA.1 hv with hv|hv
   ·exact aX u hu v hv
   ·exact hle u hu v hv
   ·exact a5Q (hlt u hu v hv)
   ·exact aY u hu v hv
  ·have b1:=(Stb.blocks (X.drop t) (Y.take e) (fun x hx y hy=>hlt y hy x hx)).ctx (X.take t) (Y.drop e)
   simp only[aA]at b1
   rw[eY,←aA (X.take t),eX]at b1
   have b2:=z1s.ctx [] (X.drop t++Y.drop e)
   have b3:=z2s.ctx Z1 []
   simp only[a05,a04,aA]at b2 b3
   exact(b1.trans b2).trans b3
theorem a8O{l:List α}(h:l≠[]):∃a z,l=a++[z]:=⟨l.dropLast,l.getLast h,(List.dropLast_concat_getLast h).symm⟩
theorem b1V{r:List Pk}(s:Asc Z)(l:(p++(Z++(x::r))).length<1000000)(b i:Int):
  ∃A B,Z=A++B∧x0w a0R ((p.length:Int),b,(),i,((p.length+Z.length:Nat):Int),p++(Z++(x::r)),())=some ((p.length:Int),b,(),i,p++((A++x::B)++r),())∧Asc (A++x::B)∧Stb (Z++[x]) (A++x::B):=by
 simp only[lN,lC]at l;refine a1E (f:=a0R) (fun k G=>∃A B:List Pk,Z=A++B∧k=A.length∧(∀z∈B,klt x z=true)∧G=((p.length:Int),b,(),i,((p.length+A.length:Nat):Int),p++(A++(x::(B++r))),()))
  (fun w=>∃A B:List Pk,Z=A++B∧(∀z∈B,klt x z=true)∧(∀z∈A,klt x z=false)∧w=((p.length:Int),b,(),i,p++(A++(x::(B++r))),()))
  Z.length ((p.length:Int),b,(),i,((p.length+Z.length:Nat):Int),p++(Z++(x::r)),()) ⟨Z,[],by simp,rfl,by simp,rfl⟩ (fun w K I=>?_) (fun k G m=>?_)
 obtain⟨A,B,j,c,H,rfl⟩:=I;subst j;refine⟨A,B,rfl,?_,?_,?_⟩;rw[K];simp only[aA,a09];obtain⟨q,E,F⟩:=a14.1 s;refine a14.2 ⟨q,a68.2 ⟨fun z o=>a5Q (c z o),E⟩,fun u a v hv=>?_⟩;rcases mC.1 hv with rfl|hv;exact H u a;exact F u a v hv;have h:=(Stb.blocks B [x] (fun z o y D=>by rw[a17]at D;rw[D];exact c z o)).ctx A [];simp only[a04,aA,a35]at h⊢;exact h
 ·obtain⟨A,B,j,rfl,c,rfl⟩:=m;subst j;simp only[lN]at l;unfold a0R;simp only
  by_cases hA:A=[]
  right;subst hA;rw[decide_eq_false (by simp)];exact⟨_,rfl,[],B,rfl,c,by simp,rfl⟩
  ·obtain⟨g,z,rfl⟩:=a8O hA;simp only[lN,a07]at l;have L:(g++[z]).length=g.length+1:=by simp
   rw[L];rw[decide_eq_true (show((p.length+(g.length+1):Nat):Int) > (p.length:Int)by omega)];have N:wrap .i64 (((p.length+(g.length+1):Nat):Int)-1)=((p.length+g.length:Nat):Int):=by rw[w64 (by omega)];omega
   have e:p++((g++[z])++(x::(B++r)))=(p++g)++z::([]++x::(B++r)):=by simp only[aA,a09,a05]
   have t:a08 ((p.length+g.length:Nat):Int)=(p++g).length:=by rw[lN];rfl
   have C:a08 ((p.length+(g.length+1):Nat):Int)=(p++g).length+1+([]:List Pk).length:=by simp only[lN,a03,tN];omega
   have d:((p++g)++z::([]++x::(B++r))).length=p.length+g.length+(2+B.length+r.length):=by simp only[lN,lC,a03];omega
   rw[N,e,a4j _ _ _ _ t,a6I _ _ _ _ _ _ C,a7W _ _ _ _ _ t C];simp only[a56,d];rw[decide_eq_true (show(0:Int)≤((p.length+(g.length+1):Nat):Int)by omega),decide_eq_true (show((p.length+(g.length+1):Nat):Int)<((p.length+g.length+(2+B.length+r.length):Nat):Int)by omega),decide_eq_true (show(0:Int)≤((p.length+g.length:Nat):Int)by omega),decide_eq_true (show((p.length+g.length:Nat):Int)<((p.length+g.length+(2+B.length+r.length):Nat):Int)by omega)];obtain⟨v,hv,n⟩:=a6H x z;simp only[a27,cT,hv,oB,n];cases hk:klt x z with
   |true=>
    left;refine⟨_,g.length,rfl,by omega,g,z::B,by simp,rfl,fun u a=>?_,?_⟩;rcases mC.1 a with rfl|a;exact hk;exact c u a;simp only[aA,a09,a05]
   |false=>
    right;refine⟨_,rfl,g++[z],B,rfl,c,fun u a=>?_,?_⟩;rcases mA.1 a with a|a;obtain⟨q,E,F⟩:=a14.1 s;obtain⟨-,-,M⟩:=a14.1 q;exact a3G (M u a z (by simp)) hk;rw[a17]at a;rw[a];exact hk;simp only[aA,a09,a05]
theorem b1W(j:(p++(X++s)).length<1000000):∃Z,a0F (p++(X++s),(p.length:Int),((p.length+X.length:Nat):Int),())=some (p++(Z++s))∧Asc Z∧Stb X Z:=by
 simp only[lN]at j;unfold a0F;simp only;cases X with
 |nil=>
  refine⟨[],?_,.nil,.refl _⟩;rw[a1j (b:=(p++([]++s),())) ?_];rfl;unfold a0S;simp only;rw[w64 (by omega),decide_eq_false (by simp only[a03];omega)];rfl
 |cons x X=>
  simp only[lC]at j;have u:wrap .i64 ((p.length:Int)+1)=((p.length+[x].length:Nat):Int):=by rw[w64 (by omega)];rfl
  rw[u];refine a1E (f:=a0S) (fun k n=>∃Z Y:List Pk,k=Y.length∧Z.length+Y.length=X.length+1∧Asc Z∧Stb (x::X) (Z++Y)∧n=((p.length:Int),((p.length+(x::X).length:Nat):Int),(),((p.length+Z.length:Nat):Int),p++(Z++(Y++s)),()))
   (fun w=>∃Z:List Pk,Asc Z∧Stb (x::X) Z∧w=(p++(Z++s),())) X.length ((p.length:Int),((p.length+(x::X).length:Nat):Int),(),((p.length+[x].length:Nat):Int),p++(x::X++s),()) ⟨[x],X,rfl,by simp;omega,a42 ..,.refl _,rfl⟩ (fun w t o=>?_) (fun k n i=>?_)
  obtain⟨Z,g,a,rfl⟩:=o;exact⟨Z,by rw[t];rfl,g,a⟩
  ·obtain⟨Z,Y,rfl,g,a,c,rfl⟩:=i;unfold a0S;simp only;cases Y with
   |nil=>
    right;simp only[a03]at g;rw[decide_eq_false (by simp only[lC];omega)];rw[a04]at c;exact⟨_,rfl,Z,a,c,rfl⟩
   |cons y Y=>
    left;simp only[lC]at g;rw[decide_eq_true (show((p.length+Z.length:Nat):Int)<((p.length+(x::X).length:Nat):Int)by simp only[lC];omega)];obtain⟨A,B,e,d,q,l⟩:=b1V (p:=p) (Z:=Z) (r:=Y++s) (x:=y) a (by simp only[lN,lC];omega) ((p.length+(x::X).length:Nat):Int) ((p.length+Z.length:Nat):Int);have m:(A++y::B).length=Z.length+1:=by rw[l.perm.length_eq,lN];rfl
    rw[a09,d];simp only[cT,oB];have w2:wrap .i64 (((p.length+Z.length:Nat):Int)+1)=((p.length+(A++y::B).length:Nat):Int):=by rw[w64 (by omega),m];omega
    rw[w2];refine⟨_,Y.length,rfl,by simp,A++y::B,Y,rfl,by rw[m];omega,q,c.trans ?_,rfl⟩;have h:=l.ctx [] Y;simp only[a05,aA,a35]at h⊢;exact h
theorem a7Y{l:List Pk}{a:Int}(e:l=p++(X++s))(f:l.length<1000000)(h:a=p.length)(g:b=(p.length+X.length:Nat)):∃Z,a0F (l,a,b,())=some (p++(Z++s))∧Asc Z∧Stb X Z:=by
 subst e h g;exact b1W f
theorem a9A{l:List Pk}(h:l.length<40):∃Z,a1h (l,(l.length:Int),())=some Z∧Asc Z∧Stb l Z:=by
 unfold a1h;simp only
 by_cases h20:l.length<20
 obtain⟨Z,f,C,D⟩:=a7Y (l:=l) (p:=[]) (X:=l) (s:=[]) (a:=0) (b:=(l.length:Int)) (by simp) (by omega) rfl (by simp);refine⟨Z,?_,C,D⟩;refine a0K (v:=((l.length:Int),(),(20:Int),(0:Int),l,())) ?_ ?_
 refine a1j ?_
 unfold a0Q;simp only;rw[decide_eq_false (by omega)];rfl;simp only;refine a0K f ?_
 simp only[a05,a04];refine a0K (v:=(Z,())) ?_ rfl;refine a1j ?_
 unfold a0J;simp only;rw[decide_eq_false (by omega)];rfl;have n:l.take 20++l.drop 20=l:=a19 20 l;have lA:(l.take 20).length=20:=by rw[a00];omega
 have x:(l.drop 20).length=l.length-20:=a02;obtain⟨Z1,k,a1,o⟩:=a7Y (l:=l) (p:=[]) (X:=l.take 20) (s:=l.drop 20) (a:=0) (b:=20) (by rw[a05,n]) (by omega) rfl (by simp only[a03,lA];rfl);have y:Z1.length=20:=by rw[o.perm.length_eq,lA]
 simp only[a05]at k;obtain⟨Z2,g,r,q⟩:=a7Y (l:=Z1++l.drop 20) (p:=Z1) (X:=l.drop 20) (s:=[]) (a:=20) (b:=(l.length:Int)) (by rw[a04]) (by rw[lN];omega) (by omega) (by omega);have z:Z2.length=l.length-20:=by rw[q.perm.length_eq,x]
 rw[a04]at g;have e:Stb l (Z1++Z2):=by
  have b1:=o.ctx [] (l.drop 20);have b2:=q.ctx Z1 [];simp only[a05,a04]at b1 b2;rw[n]at b1;exact b1.trans b2
 have i:wrap .i64 ((20:Int)+20)=40:=by decide
 have j:wrap .i64 ((2:Int)*20)=40:=by decide
 have m:wrap .i64 ((20:Int)*2)=40:=by decide
 have B:wrap .i64 ((0:Int)+20)=20:=by decide
 have first:x0w a0Q ((l.length:Int),(),(20:Int),(0:Int),(20:Int),l,())=some ((l.length:Int),(),(20:Int),(20:Int),Z1++l.drop 20,()):=by
  rw[a1T (s':=((l.length:Int),(),(20:Int),(20:Int),(40:Int),Z1++l.drop 20,())) ?_];refine a1j ?_
  unfold a0Q;simp only;rw[decide_eq_false (by omega)];rfl;unfold a0Q;simp only;rw[decide_eq_true (by omega),k,i];rfl
 by_cases he:l.length=20
 have d:Z2=[]:=a20.1 (by omega);subst d;rw[a04]at e g;refine⟨Z1,?_,a1,e⟩;refine a0K first ?_
 simp only;refine a0K g ?_
 refine a0K (v:=(Z1,())) ?_ rfl;refine a1j ?_
 unfold a0J;simp only;rw[decide_eq_false (by omega)];rfl;obtain⟨Z,f,t,A⟩:=a7X 64 (p:=[]) (X:=Z1) (Y:=Z2) (s:=[]) a1 r (a01.1 (by omega)) (a01.1 (by omega)) (by omega) (by simp only[lN,a03];omega);simp only[a05,a04,a03,a87]at f;refine⟨Z,?_,t,e.trans A⟩;refine a0K first ?_
 simp only;refine a0K g ?_
 have c:x0w a0J ((l.length:Int),(),(20:Int),Z1++Z2,())=some (Z,()):=by
  rw[a1T (s':=((l.length:Int),(),(40:Int),Z,())) ?_];refine a1j ?_
  unfold a0J;simp only;rw[decide_eq_false (by omega)];rfl;unfold a0J;simp only;rw[decide_eq_true (show(20:Int)<(l.length:Int)by omega),j];simp only[cT];refine a0K (v:=((l.length:Int),(),(20:Int),(0:Int),Z1++Z2,())) ?_ ?_
  refine a1j ?_
  unfold a1M;simp only;rw[decide_eq_false (by omega)];rfl;simp only;rw[B,decide_eq_true (show(20:Int)<(l.length:Int)by omega),m];simp only[cT];have u:((Z1.length:Nat):Int)=20:=by omega
  have w:((Z1.length+Z2.length:Nat):Int)=(l.length:Int):=by omega
  rw[u,w]at f;refine a0K f rfl
 refine a0K c rfl
theorem b1i{l:List Pk}(h:l.length<40):∃Z,a0M (l,())=some Z∧Asc Z∧Stb l Z:=by
 obtain⟨Z,g,f,k⟩:=a9A h;exact⟨Z,by unfold a0M;exact a0K g rfl,f,k⟩
def a2o:Nat→Nat→List Int
 |_,0=>[]
 |n,k+1=>((n%256:Nat):Int)::a2o (n / 256) k
def a1f(n k:Nat):List Int:=(a2o n k).reverse
theorem a4t:∀(k n:Nat),(a2o n k).length=k
 |0,_=>rfl
 |k+1,n=>by rw[a2o,lC,a4t k]
theorem a6d:∀(k n:Nat),∀b∈a2o n k,0≤b∧b<256
 |0,_,b,h=>by cases h
 |k+1,n,b,h=>by
  rcases mC.1 h with rfl|h;omega;exact a6d k _ b h
theorem a6e:∀(k n:Nat),a2o n (k+1)=a2o n k++[((n / 256^k%256:Nat):Int)]
 |0,n=>by simp[a2o]
 |k+1,n=>by
  rw[a2o,a6e k,a2o,a09,a58,a43,Nat.mul_comm 256]
theorem a1c(n k:Nat):(a1f n k).length=k:=by rw[a1f,List.length_reverse,a4t]
theorem a7f(n k:Nat):∀b∈a1f n k,0≤b∧b<256:=fun b h=>a6d k n b (List.mem_reverse.1 h)
theorem a3F(h:n<18446744073709551616):wrap .u64 (n:Int)=n:=by
 simp only[wrap,IntKind.bits,IntKind.signed]
 simp
 omega
theorem b0H(h:n<256):wrap .u8 (n:Int)=n:=by
 simp only[wrap,IntKind.bits,IntKind.signed]
 simp
 omega
theorem b0I(g:n<18446744073709551616)(o:k≤8):a3B ((n:Int),(k:Int))=some (a2o n k):=by
 unfold a3B;have d:a1W (k:Int)=some (k:Int):=by
  unfold a1W x0t x0s;have a:¬ (8:Int)<(k:Int):=by omega
  have c:¬ (k:Int)<0:=by omega
  congr 1;simp[a,c]<;>omega
 simp only[d,oB]
 have:=a0V (f:=a2P) (fun i=>(((n / 256^i:Nat):Int),(k:Int),(i:Int),a2o n i,())) k (b:=(a2o n k,())) (fun i m=>?_) ?_
 rw[Nat.pow_zero,Nat.div_one]at this;refine a0K this rfl;unfold a2P;simp only;have l:n / 256^i<18446744073709551616:=a84 (a96 _ _) g;have e:Int.tdiv ((n / 256^i:Nat):Int) 256=((n / 256^(i+1):Nat):Int):=by
  rw[a43,←a58];exact Int.tdiv_eq_ediv_of_nonneg (a65 _)
 have j:a29 ((n / 256^i:Nat):Int) 256=((n / 256^i%256:Nat):Int):=by
  exact Int.tmod_eq_emod_of_nonneg (a65 _)
 have h:n / 256^(i+1)<18446744073709551616:=a84 (a96 _ _) g;rw[e,j,a3F h,b0H (Nat.mod_lt _ (by decide)),a4t,a0L (by omega),decide_eq_true (show(i:Int)<(k:Int)by omega),a6e,w64 (by omega)];rfl;unfold a2P;simp only;rw[decide_eq_false (by omega)];rfl
theorem a4C(g:n<18446744073709551616)(h:k≤8):a1C ((n:Int),(k:Int))=some (a1f n k):=by
 unfold a1C;simp only[b0I g h,oB];unfold a1I;rw[decide_eq_true (by rw[a4t];omega)];rfl
def a2d(p:Pk):Int:=bits .u8 .or (bif p.2.2.2.1 then 1 else 0) (bif p.2.2.2.2.1 then 2 else 0)
def a1B(p:Pk):List Int:=[wrap .u8 p.1,a2d p]++(a1f p.2.1.toNat 8++(a1f p.2.2.1.toNat 8++p.2.2.2.2.2.1))
theorem a4D(p:Pk):(a1B p).length=18+p.2.2.2.2.2.1.length:=by
 simp only[a1B,lN,a1c,lC,a03];omega
theorem a9B{p:Pk}{s:Int}(h:PkOk s p)(x:0≤s)(y:s<4):a3I p=some (a1B p,0):=by
 obtain⟨d,g,f,b,a,w,u⟩:=p;obtain⟨c,j,l,m,o,q,r⟩:=h;simp only at c j l m o q r;subst c;have t:wrap .u64 g=((g.toNat:Nat):Int):=by
  have:=a3F (n:=g.toNat) (by omega)
  rwa [show((g.toNat:Nat):Int)=g by omega]at this⊢
 have v:wrap .u64 f=((f.toNat:Nat):Int):=by
  have:=a3F (n:=f.toNat) (by omega)
  rwa [show((f.toNat:Nat):Int)=f by omega]at this⊢
 have b1:=a4C (n:=g.toNat) (k:=8) (by omega) (by omega);have b2:=a4C (n:=f.toNat) (k:=8) (by omega) (by omega);have e:a1t (b,1)=some (bif b then 1 else 0):=by cases b<;>rfl
 have i:a1t (a,2)=some (bif a then 2 else 0):=by cases a<;>rfl
 unfold a3I;simp only;rw[decide_eq_false (show ¬ d<0 by omega),decide_eq_false (show ¬ d≥4 by omega),decide_eq_false (show ¬ g<0 by omega),decide_eq_false (show ¬ g > 1125899906842624 by omega),decide_eq_false (show ¬ f<0 by omega),decide_eq_false (show ¬ f > 1125899906842624 by omega)];simp only[cF,oB];rw[decide_eq_false (show ¬ ((w.length:Nat):Int) > 65536 by omega)];simp only[cF,e,i,t,v,oB];rw[show((8:Nat):Int)=8 from rfl]at b1 b2;simp only[b1,b2,oB,a1c,a26,lN,lC,a03];rw[a0L (by omega),a0L (by omega),a0L (by omega)];simp only[cT,a1B,a2d,aA]
structure StrOk (n:Nat) (L:List (List Pk)):Prop where
 one:1≤L.length
 four:L.length≤4
 ok:∀(i:Nat) l,L[i]?=some l→PksOk (i:Int) n l
theorem a7Z(B:a1k (r+233) t)(A:n≤8):∃L j,a1w (t,(n:Int))=some (L,j)∧StrOk n L∧a1k r j:=by
 unfold a1w;obtain⟨a,D,u,a1,b1,x⟩:=a1e B (show(0:Int)<4 by decide);have v:wrap .i64 (1+a)=1+a:=w64 (by omega);simp only[u,oB,v];refine a1E (f:=a1H) (fun i h=>h.1=(n:Int)∧h.2.1=(i:Int)∧(h.2.2.1.length:Int)+i=1+a∧(∀(i:Nat) l,h.2.2.1[i]?=some l→PksOk (i:Int) n l)∧a1k (r+58*i) h.2.2.2.1)
  (fun w=>StrOk n w.1∧a1k r w.2.1) (1+a).toNat (n,1+a,[],D,()) ⟨rfl,by simp only;omega,by simp only[a03];omega,by simp,x.mono (by omega)⟩ (fun w C p=>?_) (fun i h c=>?_)
 rw[C];exact⟨_,_,rfl,p.1,p.2⟩;obtain⟨q,E,F,m,o⟩:=c;unfold a1H
 by_cases hp:h.2.1 > 0
 left;obtain⟨l,j,e,y,d⟩:=a7U (r:=r+58*(i-1)) (s:=(h.2.2.1.length:Int)) (o.mono (by omega)) A;rw[decide_eq_true hp,q];simp only[cT,oB,e];rw[a0L (by omega)];refine⟨_,i-1,rfl,by omega,rfl,?_,?_,?_,d⟩;show wrap .i64 (h.2.1-1)=_;rw[w64 (by omega)];omega;show((h.2.2.1.append [_]).length:Int)+_=_;simp only[a26,lN,a07];omega;intro k z g;have g:(h.2.2.1++[l])[k]?=some z:=g
 by_cases hk:k<h.2.2.1.length
 rw[a54 hk]at g;exact m k z g;rw[a37 (by omega)]at g;have b:k-h.2.2.1.length=0:=by
  have:=(lS.1 g).1
  simpa using this
 rw[b]at g;cases g
 have:k=h.2.2.1.length:=by omega
 rw[this];exact y;right;rw[decide_eq_false hp];exact⟨_,rfl,⟨by show 1≤h.2.2.1.length;omega,by show h.2.2.1.length≤4;omega,m⟩,o.mono (by omega)⟩
abbrev Inf:Type:=Int×((Int×(Int×Unit))×((Int×(Int×(Int×Unit)))×(Int×(Int×(Int×(Int×Unit))))))
variable {a:List Inf}
inductive InfOk:Inf→Prop where
 |sound (n d r c b:Int) (hn:1≤n∧n≤1048576) (hd:1≤d∧d≤1048576) (hr:1≤r∧r≤1048576) (hc:1≤c∧c≤8) (hb:b=4∨b=8∨b=16∨b=24):InfOk (1,((n,(d,())),((r,(c,(b,()))),(0,(0,(0,(0,())))))))
 |images (n d w h e p:Int) (hn:1≤n∧n≤1048576) (hd:1≤d∧d≤1048576) (hw:1≤w∧w≤64) (hh:1≤h∧h≤64) (he:1≤e∧e≤16) (hp:1≤p∧p≤4):InfOk (2,((n,(d,())),((0,(0,(0,()))),(w,(h,(e,(p,())))))))
theorem a9C{i:Inf}(h:InfOk i):a3m i=some true:=by
 cases h with
 |sound n d r c b hn hd hr hc hb=>
  have g:a4n b=some true:=by rcases hb with rfl|rfl|rfl|rfl<;>kernel_rfl
  simp only[a3m,a4s,a4o,decide_eq_true hn.1,decide_eq_true hn.2,decide_eq_true hd.1,decide_eq_true hd.2,decide_eq_true hr.1,decide_eq_true hr.2,decide_eq_true hc.1,decide_eq_true hc.2,g,ge_iff_le];rfl
 |images n d w h e p hn hd hw hh he hp=>
  simp only[a3m,a4s,a2s,decide_eq_true hn.1,decide_eq_true hn.2,decide_eq_true hd.1,decide_eq_true hd.2,decide_eq_true hw.1,decide_eq_true hw.2,decide_eq_true hh.1,decide_eq_true hh.2,decide_eq_true he.1,decide_eq_true he.2,decide_eq_true hp.1,decide_eq_true hp.2,ge_iff_le];rfl
theorem a7g(k:a1k (r+1) t):∃n d t',a1r t=some ((n,d,()),t')∧(1≤n∧n≤1048576)∧(1≤d∧d≤1048576)∧a1k r t':=by
 unfold a1r;obtain⟨v,a,g,a1,b1,f⟩:=a1e k (show(0:Int)<6 by decide);simp only[g,oB,decide_eq_true a1,decide_eq_true b1,a27,cT]
 have:a08 v=0∨a08 v=1∨a08 v=2∨a08 v=3∨a08 v=4∨a08 v=5:=by omega
 rcases this with h|h|h|h|h|h<;>rw[h]<;>exact⟨_,_,_,rfl,by decide,by decide,f⟩
theorem a8I(p:a1k (k+3) t):∃r c b t',a1A t=some ((r,c,b,()),t')∧(1≤r∧r≤1048576)∧(1≤c∧c≤8)∧(b=4∨b=8∨b=16∨b=24)∧a1k k t':=by
 unfold a1A;obtain⟨f,u,i,a1,b1,m⟩:=a1e p (show(0:Int)<50000 by decide);obtain⟨a,t2,j,s,b2,n⟩:=a1e m (show(0:Int)<3 by decide);obtain⟨g,v,l,d,e,o⟩:=a1e n (show(0:Int)<4 by decide);simp only[i,j,l,oB,decide_eq_true d,decide_eq_true e,a27,cT];have q:wrap .i64 (1+f)=1+f:=w64 (by omega);have w2:wrap .i64 (1+a)=1+a:=w64 (by omega);rw[q,w2]
 have:a08 g=0∨a08 g=1∨a08 g=2∨a08 g=3:=by omega
 rcases this with h|h|h|h<;>rw[h]<;>exact⟨_,_,_,_,rfl,by omega,by omega,by decide,o⟩
theorem b0J(ht:a1k (r+257) t)(hn:n≤8):∃a L e,a4g (t,(n:Int))=some (a,L,e)∧a.length=L.length∧(∀i∈a,InfOk i)∧StrOk n L∧a1k r e:=by
 unfold a4g;obtain⟨L,t1,N,y,W⟩:=a7Z (r:=r+24) ht hn;have g:=y.four;simp only[N,oB];refine a1E (f:=a4b) (fun i h=>h.1+(i:Int)=(L.length:Int)∧0≤h.1∧h.2.1=L∧(h.2.2.1.length:Int)=h.1∧(∀i∈h.2.2.1,InfOk i)∧a1k (r+6*i) h.2.2.2.1)
  (fun w=>w.1=L∧w.2.1.length=L.length∧(∀i∈w.2.1,InfOk i)∧a1k r w.2.2.1) L.length (0,L,[],t1,()) ⟨by simp,by simp,rfl,by simp,by simp,W.mono (by omega)⟩ (fun w hw hQ=>?_) (fun i h z=>?_)
 rw[hw];obtain⟨M,q2,q3,B⟩:=hQ;exact⟨w.2.1,w.1,w.2.2.1,rfl,by rw[M];exact q2,q3,by rw[M];exact y,B⟩;obtain⟨c1,c2,l,c4,H,I⟩:=z;have h4:=y.four;unfold a4b
 by_cases hp:h.1<(h.2.1.length:Int)
 left;rw[l]at hp;have S:wrap .i64 (h.1+1)=h.1+1:=w64 (by omega);have done:∀(x:Inf)(e:a3R),InfOk x→a1k (r+6*(i-1)) e→∃s' j,some (Sum.inl (β:=List (List Pk)×(List Inf×(a3R×Unit))) (h.1+1,L,a75 h.2.2.1 [x],e,()))=some (.inl s')∧j<i∧(s'.1+(j:Int)=(L.length:Int)∧0≤s'.1∧s'.2.1=L∧(s'.2.2.1.length:Int)=s'.1∧(∀i∈s'.2.2.1,InfOk i)∧a1k (r+6*j) s'.2.2.2.1):=by
  intro x e hx A;refine⟨_,i-1,rfl,by omega,by show h.1+1+((i-1:Nat):Int)=_;omega,by show 0≤h.1+1;omega,rfl,?_,?_,A⟩;show((h.2.2.1.append [_]).length:Int)=_;simp only[a26,lN,a07];omega;intro p d;rcases mA.1 (show p∈h.2.2.1++[_]from d)with d|d;exact H p d;rw[a17]at d;rw[d];exact hx
 obtain⟨C,t2,O,a2,b2,K⟩:=a1e (r:=r+6*(i-1)+5) (I.mono (by omega)) (show(0:Int)<2 by decide);rw[l,decide_eq_true hp];simp only[cT,oB,O,S]
 by_cases hv:C=0
 obtain⟨n1,m,t3,o,s,u,v⟩:=a7g K;obtain⟨r9,c,b,t4,q,T,U,V,g⟩:=a8I v;have k:(C==0)=true:=by simp[hv]
 simp only[k,cT,o,q,oB];rw[a0L (by omega)];exact done _ _ (.sound n1 m r9 c b s u T U V) (g.mono (by omega));obtain⟨n1,m,t3,o,s,u,v⟩:=a7g K;obtain⟨D,t4,q,a4,b4,g⟩:=a1e v (show(0:Int)<64 by decide);obtain⟨E,t5,P,a5,b5,X⟩:=a1e g (show(0:Int)<64 by decide);obtain⟨F,t6,Q,a6,b6,Y⟩:=a1e X (show(0:Int)<16 by decide);obtain⟨G,t7,R,a7,b7,Z⟩:=a1e Y (show(0:Int)<4 by decide);have k:(C==0)=false:=by simp[hv]
 have B:wrap .i64 (1+D)=1+D:=w64 (by omega);have q5:wrap .i64 (1+E)=1+E:=w64 (by omega);have q6:wrap .i64 (1+F)=1+F:=w64 (by omega);have q7:wrap .i64 (1+G)=1+G:=w64 (by omega);simp only[k,cF,o,q,P,Q,R,oB,B,q5,q6,q7];rw[a0L (by omega)];exact done _ _ (.images n1 m (1+D) (1+E) (1+F) (1+G) s u (by omega) (by omega) (by omega) (by omega)) Z;right;rw[decide_eq_false hp];rw[l]at hp;exact⟨_,rfl,l,by show h.2.2.1.length=_;omega,H,I.mono (by omega)⟩
theorem a6p{x:List Int}(h:x.length<1000000):a1X x=some x:=by
 unfold a1X;rw[a0L (by omega)];cases x with
 |nil=>exact w0u _
 |cons a x=>rfl
theorem a1q{l:List α}(h:k<l.length):n0o l (k:Int)=some l[k]:=by
 unfold n0o;rw[if_pos (by omega),tN,lG h]
theorem b1X{L':List (List Pk)}{n k s:Int}{ps:List Pk}(a:0≤s)(b:s<4)(h:∀p∈ps,PkOk s p)(c:ps.length<1000):
  x0w a2H (L,s,L',n,k,ps,((ps.length:Nat):Int),(0:Int),())=some (.inl (L,L',n,k,())):=by
 refine a0V (f:=a2H) (fun i=>(L,s,L',n,k,ps,((ps.length:Nat):Int),(i:Int),())) ps.length (fun i g=>?_) ?_
 unfold a2H;simp only;have hp:=h ps[i] (a16 g);rw[decide_eq_true (show(i:Int)<((ps.length:Nat):Int)by omega),a1q g];simp only[cT,oB,a9B hp a b,hp.st,bne_self_eq_false,cF];rw[w64 (by omega)];rfl;unfold a2H;simp only;rw[decide_eq_false (by omega)];rfl
theorem b1Y{n k:Int}{ps out:List Pk}{s:Int}{m:Nat}(h:PksOk s m ps)(d:out.length+ps.length<1000):
  x0w a2I (ps,L,n,k,ps,((ps.length:Nat):Int),(0:Int),out,())=some (.inl (L,n,k,out++ps,())):=by
 have:=a0V (f:=a2I) (fun i=>(ps,L,n,k,ps,((ps.length:Nat):Int),(i:Int),out++ps.take i,())) ps.length (b:=.inl (L,n,k,out++ps,())) (fun i g=>?_) ?_
 rw[a36,a04]at this;exact this;unfold a2I;simp only;have hp:=h.ok ps[i] (a16 g);have a:a3C ps[i]=some ps[i]:=by
  unfold a3C;rw[a6p (by have:=hp.dat;omega)];rfl
 have c:wrap .i64 ((i:Int)+1)=((i+1:Nat):Int):=by rw[w64 (by omega)];omega
 rw[decide_eq_true (show(i:Int)<((ps.length:Nat):Int)by omega),a1q g];simp only[cT,oB];refine a0K (v:=(ps,L,n,k,ps,((ps.length:Nat):Int),(i:Int),false,out++ps.take i,ps[i],()) ) ?_ ?_
 by_cases h0:i=0
 subst h0;rfl;rw[decide_eq_true (show(i:Int) > 0 by omega)];have w2:wrap .i64 ((i:Int)-1)=((i-1:Nat):Int):=by rw[w64 (by omega)];omega
 rw[w2,a1q (show i-1<ps.length by omega)]
 have:=a71.1 h.asc (i-1) i (by omega) g (by omega)
 simp only[cT,oB];rw[decide_eq_false (by omega)];simp only[cF,a,oB,c];rw[a0L (by simp only[lN,a00];omega),a06 g];simp only[cT,a26,aA];unfold a2I;simp only;rw[decide_eq_false (by omega),a23];rfl
theorem a5k{m:Nat}:∀{L:List (List Pk)},(∀l∈L,l.length≤m)→L.flatten.length≤m*L.length
 | [],_=>by simp
 |l::L,h=>by
  have f:=h l (by simp);have k:=a5k (L:=L) fun l g=>h l (by simp[g]);rw[List.flatten_cons,lN,lC,Nat.mul_succ];omega
theorem StrOk.lens(h:StrOk n L):∀l∈L,l.length≤n:=fun l f=>by
 obtain⟨i,g⟩:=a51 f;exact(h.ok i l g).len
theorem b0K(h:StrOk n L)(d:n≤8):∃Z,a2f L=some (Z,0)∧Asc Z∧Stb L.flatten Z:=by
 have e:=h.four;have t:=h.one;have i:L.flatten.length≤32:=by
  have:=a5k h.lens
  have:n*L.length≤8*4:=a80 d e
  omega
 obtain⟨Z,p,r,s⟩:=b1i (l:=L.flatten) (by omega);refine⟨Z,?_,r,s⟩;unfold a2f;rw[decide_eq_false (show ¬ ((L.length:Nat):Int)<1 by omega),decide_eq_false (show ¬ ((L.length:Nat):Int) > 4 by omega)];simp only[cF,oB];refine a0K (v:=.inl (L,())) ?_ ?_
 refine a0V (f:=a3k) (fun k=>(L,L,((L.length:Nat):Int),(k:Int),())) L.length (fun k a=>?_) ?_
 unfold a3k;simp only;have g:=h.ok k L[k] (lG a);have c:=g.len;rw[decide_eq_true (show(k:Int)<((L.length:Nat):Int)by omega),a1q a];simp only[cT,oB];rw[b1X (by omega) (by omega) g.ok (by omega)];simp only[oB];rw[w64 (by omega)];rfl;unfold a3k;simp only;rw[decide_eq_false (by omega)];rfl;simp only;refine a0K (v:=.inl (L.flatten,())) ?_ ?_
 have:=a0V (f:=a3l) (fun k=>(L,((L.length:Nat):Int),(k:Int),(L.take k).flatten,())) L.length (b:=.inl (L.flatten,())) (fun k a=>?_) ?_
 exact this;unfold a3l;simp only;have g:=h.ok k L[k] (lG a);have c:=g.len;have j:(L.take k).flatten.length≤32:=by
  have q:=a5k (m:=n) (L:=L.take k) fun l o=>h.lens l (a24 o)
  have:n*(L.take k).length≤8*4:=a80 d (by rw[a00];omega)
  omega
 rw[decide_eq_true (show(k:Int)<((L.length:Nat):Int)by omega),a1q a];simp only[cT,oB];rw[b1Y g (by omega)];simp only[oB];rw[w64 (by omega),a06 a,List.flatten_append,List.flatten_singleton];rfl;unfold a3l;simp only;rw[decide_eq_false (by omega),a23];rfl;simp only;refine a0K p rfl
abbrev Pge:Type:=Int×(Bool×(Bool×(Bool×(List Int×Unit))))
variable {g l:List Pge}
def a2q(first:Bool)(seq:Nat)(r:List Int):List Pge:=
 if h:r=[]then[]else((seq:Int),first,decide (r.length≤252),false,r.take 252,())::a2q false (seq+1) (r.drop 252)
termination_by r.length
decreasing_by
 have:=a01.2 h
 rw[a02];omega
theorem a2E(first:Bool)(h:Nat):a2q first h []=[]:=by rw[a2q,dif_pos rfl]
theorem a3h{first:Bool}{seq:Nat}{r:List Int}(h:r≠[]):a2q first seq r=((seq:Int),first,decide (r.length≤252),false,r.take 252,())::a2q false (seq+1) (r.drop 252):=by rw[a2q,dif_neg h]
theorem a5l:∀(n:Nat)(first:Bool)(seq:Nat)(r:List Int),r.length≤n→(a2q first seq r).length≤r.length
 |0,first,seq,r,h=>by
  have:r=[]:=a20.1 (by omega)
  rw[this,a2E];exact a11 _
 |n+1,first,seq,r,h=>by
  by_cases hr:r=[]
  rw[hr,a2E];exact a11 _
  have:=a01.2 hr
  rw[a3h hr,lC]
  have:=a5l n false (seq+1) (r.drop 252) (by rw[a02];omega)
  rw[a02]at this;omega
def a1z:Nat→List (List Int)→List Pge
 |_,[]=>[]
 |seq,b::bs=>a2q true seq b++a1z (seq+(a2q true seq b).length) bs
theorem b1Z{b:List Int}{n k:Int}{laid:List (List Int)}{pages:List Pge}(s:b≠[])(u:pages.length+b.length<1000000):
  x0w a3a ((0:Int),b,(0:Int),n,k,pages,laid,())=some (.inl ((0:Int),n,k,pages++a2q true pages.length b,laid,())):=by
 refine a1E (f:=a3a) (fun m e=>∃(i:Nat)(Q:List Pge),m=(b.drop i).length∧i≤b.length+252∧e=((0:Int),b,(i:Int),n,k,Q,laid,())∧Q.length+(b.drop i).length≤pages.length+b.length∧Q++a2q (decide (i=0)) Q.length (b.drop i)=pages++a2q true pages.length b)
  (fun w=>w=.inl ((0:Int),n,k,pages++a2q true pages.length b,laid,()))
  b.length ((0:Int),b,(0:Int),n,k,pages,laid,()) ⟨0,pages,rfl,by omega,rfl,a11 _,rfl⟩ (fun w q o=>by rw[q,o]) (fun m e d=>?_)
 obtain⟨i,Q,rfl,t,rfl,v,c⟩:=d;have x:(b.drop i).length=b.length-i:=a02;unfold a3a;simp only
 by_cases hlt:i<b.length
 left;have p:b.drop i≠[]:=a01.1 (by omega);rw[decide_eq_true (show(i:Int)<((b.length:Nat):Int)by omega)];have r:wrap .i64 ((0:Int)+((Q.length:Nat):Int))=((Q.length:Nat):Int):=by rw[w64 (by omega)];omega
 have w2:wrap .i64 ((i:Int)+252)=((i+252:Nat):Int):=by rw[w64 (by omega)];omega
 have a:x0t ((i+252:Nat):Int) ((b.length:Nat):Int)=((min (i+252) b.length:Nat):Int):=by
  unfold x0t
  by_cases hc:((b.length:Nat):Int)<((i+252:Nat):Int)
  rw[decide_eq_true hc,a52 (by omega)];rfl;rw[decide_eq_false hc,a44 (by omega)];rfl
 rw[r,w2,a,decide_eq_false (show ¬ ((Q.length:Nat):Int) > 2147483647 by omega)];have g:a72 (a08 (i:Int)) (a63 (a08 ((min (i+252) b.length:Nat):Int)) b)=(b.drop i).take 252:=by
  rw[tN,tN,a98]
  by_cases hc:i+252<b.length
  rw[a44 (by omega),show i+252-i=252 by omega];rw[a52 (by omega),a28 (by omega),a28 (by omega)]
 rw[g,a6p (by rw[a00];omega),tN,a0L (show Q.length+1<2147483648 by omega)];rw[decide_eq_true (show(0:Int)≤((min (i+252) b.length:Nat):Int)by omega),decide_eq_true (show((min (i+252) b.length:Nat):Int)≤((b.length:Nat):Int)by omega),decide_eq_true (show(0:Int)≤(i:Int)by omega),decide_eq_true (show(i:Int)≤((min (i+252) b.length:Nat):Int)by omega)];have j:((i:Int)==0)=decide (i=0):=by
  by_cases h:i=0
  rw[h];rfl;rw[decide_eq_false h];simp;omega
 have l:(((min (i+252) b.length:Nat):Int)==((b.length:Nat):Int))=decide ((b.drop i).length≤252):=by
  by_cases h:(b.drop i).length≤252
  rw[decide_eq_true h];simp;omega;rw[decide_eq_false h];simp;omega
 rw[j,l];simp only[cT,cF,a27,oB];refine⟨_,(b.drop (i+252)).length,rfl,by simp only[a02];omega,i+252,Q++[((Q.length:Int),decide (i=0),decide ((b.drop i).length≤252),false,(b.drop i).take 252,())],rfl,by omega,rfl,?_,?_⟩;simp only[lN,a07,a02];omega;rw[←c,a3h p,a99];simp only[aA,a35,lN,a07];rw[decide_eq_false (show ¬ i+252=0 by omega)];right;rw[decide_eq_false (show ¬ (i:Int)<((b.length:Nat):Int)by omega)];have h:b.drop i=[]:=a30.2 (by omega);rw[h,a2E,a04]at c;refine⟨_,rfl,?_⟩;rw[c]
def a5I(p:Pk):Prop:=∃s,PkOk s p∧0≤s∧s<4
theorem a6Z(p:Pk):a1B p≠[]:=a01.1 (by rw[a4D];omega)
theorem a6J:∀(bs:List (List Int)) (seq:Nat) (m:Nat),(∀b∈bs,b.length≤m)→(a1z seq bs).length≤m*bs.length
 | [],_,_,_=>by simp[a1z]
 |b::bs,seq,m,h=>by
  have f:=a6J bs (seq+(a2q true seq b).length) m fun c g=>h c (by simp[g]);have k:=a5l b.length true seq b (a11 _);have a:=h b (by simp);rw[a1z,lN,lC,Nat.mul_succ];omega
theorem a8a{bs:List (List Int)}:∀(rest done:List (List Int)) (pages:List Pge),done++rest=bs→(∀b∈rest,b≠[]∧b.length≤1000)→pages.length+1000*rest.length<1000000→bs.length<1000→
  x0w a2x ((0:Int),((bs.length:Nat):Int),((done.length:Nat):Int),pages,bs,())=some (.inl (pages++a1z pages.length rest,()))
 | [],done,pages,he,_,_,_=>by
  rw[a04]at he;subst he;refine a1j ?_
  unfold a2x;simp only;rw[decide_eq_false (by omega),a1z,a04];rfl
 |b::rest,done,pages,he,hb,hl,hn=>by
  have g:bs.length=done.length+(rest.length+1):=by rw[←he,lN,lC]
  obtain⟨h,f⟩:=hb b (by simp);have a:=a5l b.length true pages.length b (a11 _);have d:a13 bs (a08 ((done.length:Nat):Int)) ([]:List Int)=b:=by
   rw[←he];exact a4j done rest b [] rfl
  rw[lC]at hl;have step:a2x ((0:Int),((bs.length:Nat):Int),((done.length:Nat):Int),pages,bs,())=some (.inl ((0:Int),((bs.length:Nat):Int),(((done++[b]).length:Nat):Int),pages++a2q true pages.length b,bs,())):=by
   unfold a2x;simp only;rw[decide_eq_true (show((done.length:Nat):Int)<((bs.length:Nat):Int)by omega),decide_eq_true (show(0:Int)≤((done.length:Nat):Int)by omega),d];simp only[cT,a27];rw[b1Z h (by omega)];simp only[oB];rw[w64 (by omega),lN];rfl
  rw[a1T step,a8a rest (done++[b]) (pages++a2q true pages.length b) (by rw[←he,aA];rfl) (fun c k=>hb c (by simp[k])) (by rw[lN];omega) hn];rw[a1z,aA,lN]
theorem b0L{l:List Pk}(h:∀p∈l,a5I p)(n:l.length<40):a2j (l,0)=some (a1z 0 (l.map a1B),0):=by
 unfold a2j;simp only;rw[decide_eq_false (show ¬ (0:Int)<0 by decide),decide_eq_false (show ¬ (0:Int) > 2147483647 by decide)];simp only[cF,oB];rw[decide_eq_true (show(0:Int)≤((l.length:Nat):Int)by omega),decide_eq_true (Int.le_refl ((l.length:Nat):Int)),tN,a0L (by omega)];simp only[cT,a27];refine a0K (v:=.inl ((0:Int),l.map a1B,())) ?_ ?_
 have:=a0V (f:=a2Z) (fun i=>((0:Int),l,((l.length:Nat):Int),(i:Int),(l.take i).map a1B++b00 (l.length-i) ([]:List Int),())) l.length (b:=.inl ((0:Int),l.map a1B,())) (fun i k=>?_) ?_
 exact this;unfold a2Z;simp only;obtain⟨s,hp,c,d⟩:=h l[i] (a16 k);have a:((l.take i).map a1B).length=i:=by rw[a38,a00];omega
 have g:((l.take i).map a1B++b00 (l.length-i) ([]:List Int)).length=l.length:=by rw[lN,a,List.length_replicate];omega
 rw[decide_eq_true (show(i:Int)<((l.length:Nat):Int)by omega),a1q k];simp only[cT,oB,a9B hp c d,bne_self_eq_false,cF];rw[g,decide_eq_true (show(0:Int)≤(i:Int)by omega),decide_eq_true (show(i:Int)<((l.length:Nat):Int)by omega),tN];simp only[cT,a27];rw[w64 (by omega),a47 _ _ (by omega),a,a49];obtain⟨r,j⟩:∃r,l.length-i=r+1:=⟨l.length-i-1,by omega⟩;rw[j,List.replicate_succ,a83,a06 k,pA,show l.length-(i+1)=r by omega];simp only[aA,List.map_cons,List.map_nil,a35];rfl;unfold a2Z;simp only;rw[decide_eq_false (by omega),a23,a49,List.replicate_zero,a04];rfl;simp only
 have:=a8a (bs:=l.map a1B) (l.map a1B) [] [] rfl (fun b e=>by
  obtain⟨p,hp,rfl⟩:=List.mem_map.1 e;obtain⟨s,m,-⟩:=h p hp;exact⟨a6Z p,by rw[a4D];have:=m.dat;omega⟩) (by rw[a03,a38];omega) (by rw[a38];omega)
 refine a0K (v:=.inl (a1z 0 (l.map a1B),())) ?_ rfl;exact this
theorem b1j{l:List Int}(o:l.length<1000000):∃v,a1b l=some (bits .u32 .xor (IntKind.max .u32) v):=by
 unfold a1b;refine a1E (f:=a2Y) (fun k a=>∃(v:Int)(i:Nat),a=(v,l,((l.length:Nat):Int),(i:Int),())∧i+k=l.length) (fun _=>True) l.length ((4294967295:Int),l,((l.length:Nat):Int),(0:Int),()) ⟨_,0,rfl,by omega⟩ (fun w b _=>⟨w.1,by rw[b];rfl⟩) (fun k a g=>?_);obtain⟨v,i,rfl,e⟩:=g;unfold a2Y;simp only
 by_cases h:i<l.length
 ·left;rw[decide_eq_true (show(i:Int)<((l.length:Nat):Int)by omega),a1q h];simp only[cT,oB];refine a1E (f:=a2X) (fun m a=>∃(u:Int)(j:Nat),a=(u,l,((l.length:Nat):Int),(i:Int),(j:Int),())∧j+m=8) (fun w=>∃u:Int,w=(u,l,((l.length:Nat):Int),(i:Int),())) 8 (bits .u32 .xor v (wrap .u32 l[i]),l,((l.length:Nat):Int),(i:Int),(0:Int),()) ⟨_,0,rfl,rfl⟩ (fun w b c=>?_) (fun m a g=>?_);obtain⟨u,rfl⟩:=c;rw[b];simp only[oB];rw[w64 (by omega)];exact⟨_,k-1,rfl,by omega,u,i+1,rfl,by omega⟩
  ·obtain⟨u,j,rfl,n⟩:=g;unfold a2X;simp only
   by_cases h8:j<8
   ·left;have d:wrap .i64 ((j:Int)+1)=((j+1:Nat):Int):=by rw[w64 (by omega)];omega
    rw[decide_eq_true (show(j:Int)<8 by omega),d];simp only[cT];cases (bits .u32 .and u (1:Int))==(1:Int)with
    |true=>exact⟨_,m-1,rfl,by omega,_,j+1,rfl,by omega⟩
    |false=>exact⟨_,m-1,rfl,by omega,_,j+1,rfl,by omega⟩
   right;rw[decide_eq_false (show ¬ (j:Int)<8 by omega)];exact⟨_,rfl,u,rfl⟩
 right;rw[decide_eq_false (show ¬ (i:Int)<((l.length:Nat):Int)by omega)];exact⟨_,rfl,trivial⟩
def a1i(l:List Int):Int:=(a1b l).getD 0
theorem b3x(n:Int):0≤wrap .u32 n∧wrap .u32 n<4294967296:=by
 simp only[wrap,IntKind.bits,IntKind.signed]
 simp
 omega
theorem a6K{l:List Int}(h:l.length<1000000):a1b l=some (a1i l)∧0≤a1i l∧a1i l<4294967296:=by
 obtain⟨v,hv⟩:=b1j h;have e:a1i l=bits .u32 .xor (IntKind.max .u32) v:=by rw[a1i,hv];rfl
 refine⟨by rw[e];exact hv,?_⟩;rw[e];exact b3x _
structure PgOk (p:Pge):Prop where
 s0:0≤p.1
 s1:p.1≤1000000
 b0:1≤p.2.2.2.2.1.length
 b1:p.2.2.2.2.1.length≤(bif p.2.2.2.1 then 255 else 252)
def pgH(p:Pge):List Int:=[75,80,bits .u8 .or (bits .u8 .or (bif p.2.1 then 1 else 0) (bif p.2.2.1 then 2 else 0)) (bif p.2.2.2.1 then 4 else 0)]++(a1f p.1.toNat 4++([wrap .u8 ((p.2.2.2.2.1.length:Nat):Int)]++p.2.2.2.2.1))
def pgB(p:Pge):List Int:=pgH p++a1f (a1i (pgH p)).toNat 4
theorem a7a(p:Pge):(pgH p).length=8+p.2.2.2.2.1.length:=by
 simp only[pgH,lN,a1c,lC,a03];omega
theorem a8P(p:Pge):(pgB p).length=12+p.2.2.2.2.1.length:=by
 rw[pgB,lN,a7a,a1c];omega
theorem a6q{p:Pge}(h:PgOk p):a2k p=some (pgB p,0):=by
 obtain⟨m,o,q,c⟩:=h;have r:p.2.2.2.2.1.length≤255:=by
  revert c
  cases p.2.2.2.1<;>simp only[cT,cF]<;>omega
 have d:a2y p.2.2.2.1=some (((bif p.2.2.2.1 then 255 else 252:Nat):Nat):Int):=by
  unfold a2y;cases p.2.2.2.1<;>rfl
 have f:a1t (p.2.1,1)=some (bif p.2.1 then 1 else 0):=by cases p.2.1<;>rfl
 have a:a1t (p.2.2.1,2)=some (bif p.2.2.1 then 2 else 0):=by cases p.2.2.1<;>rfl
 have b:a1t (p.2.2.2.1,4)=some (bif p.2.2.2.1 then 4 else 0):=by cases p.2.2.2.1<;>rfl
 have i:wrap .u64 p.1=((p.1.toNat:Nat):Int):=by
  have:=a3F (n:=p.1.toNat) (by omega)
  rwa [show((p.1.toNat:Nat):Int)=p.1 by omega]at this⊢
 have b1:=a4C (n:=p.1.toNat) (k:=4) (by omega) (by omega);rw[show((4:Nat):Int)=4 from rfl]at b1;obtain⟨j,s,t⟩:=a6K (l:=pgH p) (by rw[a7a];omega);have e:wrap .u64 (a1i (pgH p))=(((a1i (pgH p)).toNat:Nat):Int):=by
  have:=a3F (n:=(a1i (pgH p)).toNat) (by omega)
  rwa [show(((a1i (pgH p)).toNat:Nat):Int)=a1i (pgH p)by omega]at this⊢
 have b2:=a4C (n:=(a1i (pgH p)).toNat) (k:=4) (by omega) (by omega);rw[show((4:Nat):Int)=4 from rfl]at b2;have g:a75 (a75 (a75 ([75,80,bits .u8 .or (bits .u8 .or (bif p.2.1 then 1 else 0) (bif p.2.2.1 then 2 else 0)) (bif p.2.2.2.1 then 4 else 0)]:List Int) (a1f p.1.toNat 4)) ([wrap .u8 ((p.2.2.2.2.1.length:Nat):Int)]:List Int)) p.2.2.2.2.1=pgH p:=by
  simp only[pgH,a26,aA]
 unfold a2k;rw[decide_eq_false (show ¬ p.1<0 by omega),decide_eq_false (show ¬ p.1 > 2147483647 by omega),decide_eq_false (show ¬ ((p.2.2.2.2.1.length:Nat):Int)<1 by omega)];simp only[cF,d,oB];rw[decide_eq_false (show ¬ ((p.2.2.2.2.1.length:Nat):Int) > (((bif p.2.2.2.1 then 255 else 252:Nat):Nat):Int)by omega)];simp only[cF,f,a,b,i,b1,oB,g,j,e,b2];simp only[a26,lN,a1c,a7a,lC,a03];rw[a0L (by omega),a0L (by omega),a0L (by omega),a0L (by omega)];rfl
theorem b2a{p:Pge}(h:PgOk p):a1U p=some true:=by
 unfold a1U;rw[a6q h];rfl
theorem a9D{p:Pge}(h:PgOk p):a2r p=some p:=by
 unfold a2r;have g:p.2.2.2.2.1.length≤255:=by
  have:=h.b1
  revert this
  cases p.2.2.2.1<;>simp only[cT,cF]<;>omega
 rw[a0L (by omega)];rfl
theorem b0M{to fr:List Int}(j:to.length<1000)(l:fr.length<1000):∃r,a3g (to,fr)=some (r,[])∧r.length=max to.length fr.length:=by
 unfold a3g;simp only;refine a1E (f:=a3J) (fun k a=>∃t:List Int,a=(fr,t,())∧to.length≤t.length∧t.length≤max to.length fr.length∧k=fr.length-t.length) (fun w=>∃t:List Int,w=(fr,t,())∧t.length=max to.length fr.length) (fr.length-to.length) (fr,to,()) ⟨to,rfl,a11 _,by omega,rfl⟩ (fun w c b=>?_) (fun k a g=>?_);obtain⟨t,rfl,e⟩:=b;rw[c];simp only[oB];refine a1E (f:=a3K) (fun k a=>∃(r:List Int)(i:Nat),a=(fr,((fr.length:Nat):Int),(i:Int),r,())∧r.length=max to.length fr.length∧i+k=fr.length) (fun w=>w.1.length=max to.length fr.length) fr.length (fr,((fr.length:Nat):Int),(0:Int),t,()) ⟨t,0,rfl,e,by omega⟩ (fun w c b=>⟨w.1,by rw[c];rfl,b⟩) (fun k a g=>?_);obtain⟨r,i,rfl,d,m⟩:=g;unfold a3K;simp only
 by_cases h:i<fr.length
 left;rw[decide_eq_true (show(i:Int)<((fr.length:Nat):Int)by omega),a1q h];simp only[cT,oB];rw[decide_eq_true (show(0:Int)≤(i:Int)by omega),decide_eq_true (show(i:Int)<((r.length:Nat):Int)by omega),w64 (by omega)];exact⟨_,k-1,rfl,by omega,_,i+1,rfl,by rw[a56];exact d,by omega⟩;right;rw[decide_eq_false (show ¬ (i:Int)<((fr.length:Nat):Int)by omega)];exact⟨_,rfl,d⟩;obtain⟨t,rfl,n,o,rfl⟩:=g;unfold a3J;simp only
 by_cases h:t.length<fr.length
 left;rw[decide_eq_true (show((t.length:Nat):Int)<((fr.length:Nat):Int)by omega),a0L (by omega)];exact⟨_,fr.length-(t.length+1),rfl,by omega,t++[0],rfl,by rw[lN];omega,by rw[lN,a07];omega,by rw[lN,a07]⟩;right;rw[decide_eq_false (show ¬ ((t.length:Nat):Int)<((fr.length:Nat):Int)by omega)];exact⟨_,rfl,t,rfl,by omega⟩
theorem a9E(p:Pge):∃v,a3f p=some v:=by
 obtain⟨a,f,l,g,b,u⟩:=p;unfold a3f;cases f<;>cases l<;>exact⟨_,rfl⟩
structure PgPlain (p:Pge):Prop extends PgOk p where
 ng:p.2.2.2.1=false
theorem PgPlain.b2{p:Pge}(h:PgPlain p):p.2.2.2.2.1.length≤252:=by
 have:=h.b1
 rw[h.ng]at this;exact this
theorem b0N(o:∀p∈g,PgPlain p)(c:g≠[])(B:g.length≤8):∃q sum v1 v2,a2J g=some q∧q=((g.head c).1,false,false,true,(((g.length:Nat):Int)::v1::v2::sum),())∧1≤sum.length∧sum.length≤252:=by
 have t:=a01.2 c;unfold a2J;refine a1E (f:=a3L) (fun k m=>∃(a b:Int)(i:Nat)(s:List Int)(z:Pge),m=(g,a,b,g,((g.length:Nat):Int),(i:Int),s,z,())∧i+k=g.length∧s.length≤252∧(0<i→1≤s.length)) (fun w=>∃(a b:Int)(s:List Int)(z:Pge),w=(g,a,b,s,z,())∧1≤s.length∧s.length≤252) g.length (g,(0:Int),(0:Int),g,((g.length:Nat):Int),(0:Int),([]:List Int),((0:Int),false,false,false,([]:List Int),()),()) ⟨0,0,0,[],_,rfl,by omega,by simp,by omega⟩ (fun w y n=>?_) (fun k m d=>?_);obtain⟨a,b,s,z,rfl,e,j⟩:=n;rw[y];simp only[oB];have A:n0o g (0:Int)=some (g.head c):=by
  have:=a1q (l:=g) (k:=0) t
  rw[show((0:Nat):Int)=0 from rfl]at this;rw[this,List.head_eq_getElem]
 rw[a0L (by omega),A,b0H (by omega)];exact⟨_,s,a,b,rfl,rfl,e,j⟩;obtain⟨a,b,i,s,z,rfl,C,e,j⟩:=d;unfold a3L;simp only
 by_cases h:i<g.length
 left;have hp:=o g[i] (a16 h);have E:=hp.b2;have D:=hp.b0;obtain⟨v,hv⟩:=a9E g[i];obtain⟨r,u,x⟩:=b0M (to:=s) (fr:=(g[i]).2.2.2.2.1) (by omega) (by omega);rw[decide_eq_true (show(i:Int)<((g.length:Nat):Int)by omega),a1q h];simp only[cT,oB,hv,u];rw[w64 (by omega)];exact⟨_,k-1,rfl,by omega,_,_,i+1,r,z,rfl,by omega,by omega,fun _=>by omega⟩;right;rw[decide_eq_false (show ¬ (i:Int)<((g.length:Nat):Int)by omega)];exact⟨_,rfl,a,b,s,z,rfl,j (by omega),e⟩
@[reducible] def zPg:Pge:=((0:Int),(false,(false,(false,(([]:List Int),())))))
def gOf(g:List Pge):Pge:=(a2J g).getD zPg
def a1m(l:List Pge):List Pge:=
 if h:l=[]then[]else l.take 8++gOf (l.take 8)::a1m (l.drop 8)
termination_by l.length
decreasing_by
 have:=a01.2 h
 rw[a02];omega
theorem a2e:a1m []=[]:=by rw[a1m,dif_pos rfl]
theorem a3y(h:l≠[]):a1m l=l.take 8++gOf (l.take 8)::a1m (l.drop 8):=by rw[a1m,dif_neg h]
def a9i(l:List Pge):Prop:=∀(i:Nat)(p:Pge),l[i]?=some p→p.1=(i:Int)
theorem a8b(l:∀p∈g,PgPlain p)(a:g≠[])(j:g.length≤8):a2J g=some (gOf g)∧∃h f k,gOf g=((g.head a).1,false,false,true,(((g.length:Nat):Int)::f::k::h),())∧1≤h.length∧h.length≤252:=by
 obtain⟨q,h,f,k,b,c,d,i⟩:=b0N l a j;have e:gOf g=q:=by rw[gOf,b];rfl
 rw[e];exact⟨b,h,f,k,c,d,i⟩
theorem b0O(hp:∀p∈l,PgPlain p)(b:a9i l)(j:l.length<1000000):x0w a2z (l,l,((l.length:Nat):Int),(0:Int),())=some (.inl (l,())):=by
 refine a0V (f:=a2z) (fun i=>(l,l,((l.length:Nat):Int),(i:Int),())) l.length (fun i g=>?_) ?_
 unfold a2z;simp only;have h:=hp l[i] (a16 g);have k:=b i l[i] (lG g);have d:wrap .i64 ((i:Int)+1)=((i+1:Nat):Int):=by rw[w64 (by omega)];omega
 rw[decide_eq_true (show(i:Int)<((l.length:Nat):Int)by omega),a1q g];simp only[cT,oB,b2a h.toPgOk,bT,cF,h.ng]
 by_cases h0:i=0
 subst h0;have c:wrap .i64 (((0:Nat):Int)+1)=((0+1:Nat):Int):=by decide
 rw[decide_eq_false (show ¬ ((0:Nat):Int) > 0 by decide)];simp only[cF,oB,c];rw[decide_eq_true (show(i:Int) > 0 by omega)];have w2:wrap .i64 ((i:Int)-1)=((i-1:Nat):Int):=by rw[w64 (by omega)];omega
 rw[w2,a1q (show i-1<l.length by omega)];have a:=b (i-1) l[i-1] (lG (by omega));simp only[cT,oB,k,a];have e:wrap .i64 (((i-1:Nat):Int)+1)=(i:Int):=by rw[w64 (by omega)];omega
 rw[e,d];simp only[bne_self_eq_false,cF];unfold a2z;simp only;rw[decide_eq_false (by omega)];rfl
theorem b0P{out:List Pge}{a:Int}(hp:∀p∈g,PgPlain p)(c:out.length+g.length<1000000):x0w a2A (l,a,g,g,((g.length:Nat):Int),(0:Int),out,())=some (l,a,g,out++g,()):=by
 have:=a0V (f:=a2A) (fun i=>(l,a,g,g,((g.length:Nat):Int),(i:Int),out++g.take i,())) g.length (b:=(l,a,g,out++g,())) (fun i h=>?_) ?_
 rw[a36,a04]at this;exact this;unfold a2A;simp only;have k:=hp g[i] (a16 h);rw[decide_eq_true (show(i:Int)<((g.length:Nat):Int)by omega),a1q h];simp only[cT,oB,a9D k.toPgOk];rw[a0L (by rw[lN,a00];omega),a06 h,w64 (by omega)];simp only[cT,a26,aA];rfl;unfold a2A;simp only;rw[decide_eq_false (by omega),a23];rfl
theorem a9F(hp:∀p∈l,PgPlain p)(r:a9i l)(u:l.length<100000):a2l l=some (a1m l,0):=by
 unfold a2l;refine a0K (b0O hp r (by omega)) ?_
 simp only;refine a0K (v:=(a1m l,())) ?_ rfl;refine a1E (f:=a3M) (fun k j=>∃(i:Nat)(out:List Pge),j=(l,(i:Int),out,())∧k=(l.drop i).length∧i≤l.length+8∧out.length≤2*i∧out++a1m (l.drop i)=a1m l) (fun w=>w=(a1m l,())) l.length (l,(0:Int),([]:List Pge),()) ⟨0,[],rfl,rfl,by omega,by simp,rfl⟩ (fun w s o=>by rw[s,o]) (fun k j d=>?_);obtain⟨i,out,rfl,rfl,t,x,b⟩:=d;have y:(l.drop i).length=l.length-i:=a02;unfold a3M;simp only
 by_cases h:i<l.length
 left;have c:l.drop i≠[]:=a01.1 (by omega);have w2:wrap .i64 ((i:Int)+8)=((i+8:Nat):Int):=by rw[w64 (by omega)];omega
 have a:x0t ((i+8:Nat):Int) ((l.length:Nat):Int)=((min (i+8) l.length:Nat):Int):=by
  unfold x0t
  by_cases hc:((l.length:Nat):Int)<((i+8:Nat):Int)
  rw[decide_eq_true hc,a52 (by omega)];rfl;rw[decide_eq_false hc,a44 (by omega)];rfl
 have g:a72 (a08 (i:Int)) (a63 (a08 ((min (i+8) l.length:Nat):Int)) l)=(l.drop i).take 8:=by
  rw[tN,tN,a98]
  by_cases hc:i+8<l.length
  rw[a44 (by omega),show i+8-i=8 by omega];rw[a52 (by omega),a28 (by omega),a28 (by omega)]
 have e:∀p∈(l.drop i).take 8,PgPlain p:=fun p q=>hp p (a40 (a24 q));have lg:((l.drop i).take 8).length≤8:=by rw[a00];omega
 obtain⟨m,-⟩:=a8b e (a01.1 (by rw[a00];omega)) lg;rw[w2,a,g,decide_eq_true (show(i:Int)<((l.length:Nat):Int)by omega),tN];rw[decide_eq_true (show(0:Int)≤((min (i+8) l.length:Nat):Int)by omega),decide_eq_true (show((min (i+8) l.length:Nat):Int)≤((l.length:Nat):Int)by omega),decide_eq_true (show(0:Int)≤(i:Int)by omega),decide_eq_true (show(i:Int)≤((min (i+8) l.length:Nat):Int)by omega)];simp only[cT,a27];rw[b0P e (by omega)];simp only[oB,m];rw[a0L (by rw[lN];omega),w2];refine⟨_,(l.drop (i+8)).length,rfl,by simp only[a02];omega,i+8,(out++(l.drop i).take 8)++[gOf ((l.drop i).take 8)],rfl,rfl,by omega,?_,?_⟩;simp only[lN,a07,a00];omega;rw[←b,a3y c,a99];simp only[aA,a35];right;rw[decide_eq_false (show ¬ (i:Int)<((l.length:Nat):Int)by omega)];have n:l.drop i=[]:=a30.2 (by omega);rw[n,a2e,a04]at b;exact⟨_,rfl,by rw[b]⟩
theorem a8Q:∀(n:Nat)(f:Bool)(s:Nat)(r:List Int),r.length≤n→s+r.length≤1000000→∀(i:Nat)(p:Pge),(a2q f s r)[i]?=some p→p.1=((s+i:Nat):Int)∧PgPlain p
 |0,f,s,r,h,_,i,p,hp=>by
  have:r=[]:=a20.1 (by omega)
  rw[this,a2E]at hp;cases hp
 |n+1,f,s,r,h,hs,i,p,hp=>by
  by_cases hr:r=[]
  rw[hr,a2E]at hp;cases hp
  ·have g:=a01.2 hr;rw[a3h hr]at hp;cases i with
   |zero=>
    cases hp;exact⟨by simp,⟨⟨by simp,by show(s:Int)≤1000000;omega,by show 1≤(r.take 252).length;rw[a00];omega,by show(r.take 252).length≤252;rw[a00];omega⟩,rfl⟩⟩
   |succ i=>
    have:=a8Q n false (s+1) (r.drop 252) (by rw[a02];omega) (by rw[a02];omega) i p hp
    exact⟨by rw[this.1];congr 1;omega,this.2⟩
theorem a7h:∀(bs:List (List Int)) (s:Nat),(∀b∈bs,b.length≤1000)→s+1000*bs.length≤1000000→∀(i:Nat)(p:Pge),(a1z s bs)[i]?=some p→p.1=((s+i:Nat):Int)∧PgPlain p
 | [],s,_,_,i,p,hp=>by cases hp
 |b::bs,s,hb,hs,i,p,hp=>by
  rw[lC]at hs;have g:=hb b (by simp);have f:=a5l b.length true s b (a11 _);rw[a1z]at hp
  by_cases hi:i<(a2q true s b).length
  rw[a54 hi]at hp;exact a8Q b.length true s b (a11 _) (by omega) i p hp;rw[a37 (by omega)]at hp
  have:=a7h bs _ (fun c h=>hb c (by simp[h])) (by omega) _ p hp
  exact⟨by rw[this.1];congr 1;omega,this.2⟩
theorem a6L:∀(n:Nat)(l:List Pge),l.length≤n→(∀p∈l,PgPlain p)→∀q∈a1m l,PgOk q
 |0,l,h,_,q,f=>by
  have:l=[]:=a20.1 (by omega)
  rw[this,a2e]at f;cases f
 |n+1,l,h,hp,q,f=>by
  by_cases hl:l=[]
  rw[hl,a2e]at f;cases f;have i:=a01.2 hl;rw[a3y hl]at f;rcases mA.1 f with f|f;exact(hp q (a24 f)).toPgOk;rcases mC.1 f with rfl|f;have a:l.take 8≠[]:=a01.1 (by rw[a00];omega);obtain⟨-,k,c,d,e,j,m⟩:=a8b (g:=l.take 8) (fun p f=>hp p (a24 f)) a (by rw[a00];omega);have b:=(hp ((l.take 8).head a) (a24 (List.head_mem a))).toPgOk;rw[e];exact⟨b.s0,b.s1,by show 1≤(_::c::d::k).length;simp,by show(_::c::d::k).length≤255;simp only[lC];omega⟩;exact a6L n (l.drop 8) (by rw[a02];omega) (fun p f=>hp p (a40 f)) q f
theorem a4u:∀(n:Nat)(l:List Pge),l.length≤n→(a1m l).length≤2*l.length
 |0,l,h=>by
  have:l=[]:=a20.1 (by omega)
  rw[this,a2e];simp
 |n+1,l,h=>by
  by_cases hl:l=[]
  rw[hl,a2e];simp;have g:=a01.2 hl;have f:=a4u n (l.drop 8) (by rw[a02];omega);rw[a02]at f;rw[a3y hl,lN,lC,a00];omega
def a2W(l:List Pge):List Int:=l.flatMap pgB
theorem a5m:∀(l:List Pge),(∀p∈l,PgOk p)→(a2W l).length≤267*l.length
 | [],_=>by simp[a2W]
 |p::l,h=>by
  have k:=a5m l fun q g=>h q (by simp[g]);have hp:=h p (by simp);have f:p.2.2.2.2.1.length≤255:=by
   have:=hp.b1
   revert this
   cases p.2.2.2.1<;>simp only[cT,cF]<;>omega
  have e:a2W (p::l)=pgB p++a2W l:=rfl;rw[e,lN,a8P,lC];omega
theorem a5J(h:∀p∈l,PgOk p)(d:l.length<1000000):a1P l=some (a2W l,0):=by
 unfold a1P;refine a0K (v:=.inl (a2W l,())) ?_ rfl
 have:=a0V (f:=a3c) (fun i=>(l,((l.length:Nat):Int),(i:Int),a2W (l.take i),())) l.length (b:=.inl (a2W l,())) (fun i k=>?_) ?_
 exact this;unfold a3c;simp only;have hp:=h l[i] (a16 k);have c:(l[i]).2.2.2.2.1.length≤255:=by
  have:=hp.b1
  revert this
  cases (l[i]).2.2.2.1<;>simp only[cT,cF]<;>omega
 have g:=a5m (l.take i) fun q a=>h q (a24 a);rw[a00]at g;rw[decide_eq_true (show(i:Int)<((l.length:Nat):Int)by omega),a1q k];simp only[cT,oB,a6q hp,bne_self_eq_false,cF];rw[a0L (by rw[a8P];omega),w64 (by omega),a06 k];have e:a2W (l.take i++[l[i]])=a2W (l.take i)++pgB l[i]:=by unfold a2W;rw[a32,a33]
 rw[e];rfl;unfold a3c;simp only;rw[decide_eq_false (by omega),a23];rfl
def rdr(P R:List Int):List Int×(Int×Int×Unit):=(P++R,((P.length:Nat):Int),(0:Int),())
theorem a8R{A:List Int}(g:(P++(A++R)).length<1000000):a1J (rdr P (A++R),((A.length:Nat):Int))=some (A,rdr (P++A) R):=by
 simp only[lN]at g;unfold a1J rdr a1s;have f:x0s ((A.length:Nat):Int) 0=((A.length:Nat):Int):=by
  unfold x0s
  by_cases h:((A.length:Nat):Int)<0
  omega;simp[h]<;>omega
 have k:wrap .i64 (((P++(A++R)).length:Int)-((P.length:Nat):Int))=((A.length+R.length:Nat):Int):=by
  rw[w64 (by simp only[lN];omega)];simp only[lN];omega
 have w2:wrap .i64 (((P.length:Nat):Int)+((A.length:Nat):Int))=((P.length+A.length:Nat):Int):=by rw[w64 (by omega)];omega
 simp only[bne_self_eq_false,cF,oB,f,k,w2];rw[decide_eq_false (show ¬ ((A.length:Nat):Int) > ((A.length+R.length:Nat):Int)by omega),decide_eq_true (show(0:Int)≤((P.length+A.length:Nat):Int)by omega),decide_eq_true (show((P.length+A.length:Nat):Int)≤(((P++(A++R)).length:Nat):Int)by simp only[lN];omega),decide_eq_true (show(0:Int)≤((P.length:Nat):Int)by omega),tN,tN,decide_eq_true (show((P.length:Nat):Int)≤((P.length+A.length:Nat):Int)by omega)];have e:a72 P.length (a63 (P.length+A.length) (P++(A++R)))=A:=by
  rw[a90,a91]
  simp
 rw[e,a0L (by omega)];simp only[cF,cT,a27,aA,lN]
def a3S(l:List Int):Int:=l.foldl (fun a b=>a*256+b) 0
theorem a5K(l:List Int)(b:Int):a3S (l++[b])=a3S l*256+b:=by simp[a3S,List.foldl_append]
theorem a6M:∀(n:Nat)(l:List Int),l.length=n→(∀b∈l,0≤b∧b<256)→0≤a3S l∧a3S l<((256^n:Nat):Int)
 |0,l,h,_=>by
  have:l=[]:=a20.1 h
  rw[this];decide
 |n+1,l,h,hb=>by
  have f:l≠[]:=a01.1 (by omega);obtain⟨a,z,rfl⟩:=a8O f;rw[lN,a07]at h;have k:=a6M n a (by omega) fun b g=>hb b (by simp[g]);have c:=hb z (by simp);rw[a5K,a43];generalize 256^n=N at k⊢;omega
theorem a8c:∀(k n:Nat),n<256^k→a3S (a1f n k)=(n:Int)
 |0,n,h=>by
  have:n=0:=by simpa using h
  subst this;rfl
 |k+1,n,h=>by
  have e:a1f n (k+1)=a1f (n / 256) k++[((n%256:Nat):Int)]:=by
   rw[a1f,a2o,a88];rfl
  rw[e,a5K,a8c k (n / 256) (by rw[a43]at h;omega)];omega
theorem a7b{A:List Int}(o:A.length≤8)(d:∀b∈A,0≤b∧b<256)(l:(P++(A++R)).length<1000000):a0E (rdr P (A++R),((A.length:Nat):Int))=some (a3S A,rdr (P++A) R):=by
 have e:a1W ((A.length:Nat):Int)=some ((A.length:Nat):Int):=by
  unfold a1W x0t x0s;have a:¬ (8:Int)<((A.length:Nat):Int):=by omega
  have c:¬ ((A.length:Nat):Int)<0:=by omega
  congr 1;simp[a,c]<;>omega
 unfold a0E;simp only[e,oB,a8R l]
 have:=a0V (f:=a1V) (fun i=>(a3S (A.take i),((A.length:Nat):Int),(i:Int),A,rdr (P++A) R,())) A.length (b:=(a3S A,rdr (P++A) R,())) (fun i g=>?_) ?_
 refine a0K this rfl;unfold a1V;simp only;have p:=a6M i (A.take i) (by rw[a00];omega) fun b h=>d b (a24 h);have hp:256^i≤256^7:=a62 (by decide) (by omega);have m:256^7=72057594037927936:=by decide
 have q:=d A[i] (a16 g);have k:∀z:Int,0≤z→z<18446744073709551616→wrap .u64 z=z:=fun z a c=>by
  have:=a3F (n:=z.toNat) (by omega)
  rwa [show((z.toNat:Nat):Int)=z by omega]at this
 have j:a13 A (a08 (i:Int)) 0=A[i]:=by rw[tN,lD,lG g];rfl
 rw[decide_eq_true (show(i:Int)<((A.length:Nat):Int)by omega),decide_eq_true (show(0:Int)≤(i:Int)by omega),j,k (a3S (A.take i)*256) (by omega) (by omega),k A[i] (by omega) (by omega),k _ (by omega) (by omega),w64 (by omega),a06 g,a5K];rfl;unfold a1V;simp only;rw[decide_eq_false (by omega),a23];rfl
theorem a6r(h:k≤8)(f:n<256^k)(g:(P++(a1f n k++R)).length<1000000):a0E (rdr P (a1f n k++R),((k:Nat):Int))=some ((n:Int),rdr (P++a1f n k) R):=by
 have:=a7b (P:=P) (A:=a1f n k) (R:=R) (by rw[a1c];exact h) (a7f n k) g
 rwa [a1c,a8c k n f]at this
def a4d(p:Pk):List Int:=[p.1]++([a2d p]++(a1f p.2.1.toNat 8++a1f p.2.2.1.toNat 8))
theorem a4E(p:Pk):(a4d p).length=18:=by
 simp only[a4d,lN,a1c,lC,a03]
theorem b1k{p:Pk}(h:a5I p):a1B p=a4d p++p.2.2.2.2.2.1:=by
 obtain⟨s,g,f,k⟩:=h;have e:wrap .u8 p.1=p.1:=by
  have:=b0H (n:=p.1.toNat) (by rw[g.st];omega)
  rwa [show((p.1.toNat:Nat):Int)=p.1 by rw[g.st];omega]at this
 simp only[a1B,a4d,e,aA,a09,a05]
theorem a5n(p:Pk):a2d p=(bif p.2.2.2.1 then 1 else 0)+(bif p.2.2.2.2.1 then 2 else 0):=by
 unfold a2d;cases p.2.2.2.1<;>cases p.2.2.2.2.1<;>decide
theorem a9G{x:List Int}(h:x.length<1000000):a1u x=some (rdr [] x):=by
 unfold a1u;rw[a0L (by omega)];rfl
theorem a8S{p:Pk}(h:a5I p){d:List Int}(y:d.length≤60000):a2D (a4d p++d)=some ((p.1,p.2.1,p.2.2.1,p.2.2.2.1,p.2.2.2.2.1,d,()),0):=by
 obtain⟨s,a,w,x⟩:=h;have c:(a4d p++d).length=18+d.length:=by rw[lN,a4E]
 have i:=a.st;have a0:=a.at0;have a1:=a.at1;have B:=a.len0;have l1:=a.len1;have z:0≤a2d p∧a2d p≤3:=by
  rw[a5n];cases p.2.2.2.1<;>cases p.2.2.2.2.1<;>decide
 have g:256^8=18446744073709551616:=by decide
 have e:a4d p++d=[p.1]++([a2d p]++(a1f p.2.1.toNat 8++(a1f p.2.2.1.toNat 8++d))):=by simp only[a4d,aA]
 have m:=a7b (P:=[]) (A:=[p.1]) (R:=[a2d p]++(a1f p.2.1.toNat 8++(a1f p.2.2.1.toNat 8++d))) (by simp) (fun b f=>by rw[a17]at f;rw[f,i];omega) (by rw[←e,a05,c];omega);have r2:=a7b (P:=[]++[p.1]) (A:=[a2d p]) (R:=a1f p.2.1.toNat 8++(a1f p.2.2.1.toNat 8++d)) (by simp) (fun b f=>by rw[a17]at f;rw[f];omega) (by rw[a05,←e,c];omega);have j:=a6r (P:=[]++[p.1]++[a2d p]) (R:=a1f p.2.2.1.toNat 8++d) (n:=p.2.1.toNat) (k:=8) (by omega) (by rw[g];omega) (by simp only[lN,a1c,lC,a03];omega);have l:=a6r (P:=[]++[p.1]++[a2d p]++a1f p.2.1.toNat 8) (R:=d) (n:=p.2.2.1.toNat) (k:=8) (by omega) (by rw[g];omega) (by simp only[lN,a1c,lC,a03];omega);rw[show(([p.1].length:Nat):Int)=1 from rfl,show a3S [p.1]=p.1 by simp[a3S]]at m;rw[show(([a2d p].length:Nat):Int)=1 from rfl,show a3S [a2d p]=a2d p by simp[a3S]]at r2;rw[show((8:Nat):Int)=8 from rfl]at j l;have o:((p.2.1.toNat:Nat):Int)=p.2.1:=by omega
 have r:((p.2.2.1.toNat:Nat):Int)=p.2.2.1:=by omega
 rw[o]at j;rw[r]at l;have t:a1u (a4d p++d)=some (rdr [] ([p.1]++([a2d p]++(a1f p.2.1.toNat 8++(a1f p.2.2.1.toNat 8++d))))):=by rw[a9G (by omega),←e]
 unfold a2D;rw[c,decide_eq_false (show ¬ ((18+d.length:Nat):Int)<18 by omega),decide_eq_false (show ¬ ((18+d.length:Nat):Int) > 65554 by omega)];simp only[cF,t,m,r2,j,l,oB];rw[decide_eq_false (show ¬ p.1≥4 by omega),decide_eq_false (show ¬ a2d p > 3 by omega),decide_eq_false (show ¬ p.2.1 > 1125899906842624 by omega),decide_eq_false (show ¬ p.2.2.1 > 1125899906842624 by omega)];simp only[cF,oB];rw[c,decide_eq_true (show(18:Int)≤((18+d.length:Nat):Int)by omega)];have q:a72 18 (a63 (18+d.length) (a4d p++d))=d:=by
  rw[a28 (by omega),a91,a30.2 (by rw[a4E];omega),a4E];rfl
 rw[q,a6p (by omega),w64 (by omega),w64 (by omega),w64 (by omega)];have u:((bits .u64 .and (a2d p) 1) != 0)=p.2.2.2.1:=by
  rw[a5n];cases p.2.2.2.1<;>cases p.2.2.2.2.1<;>decide
 have v:((bits .u64 .and (a2d p) 2) != 0)=p.2.2.2.2.1:=by
  rw[a5n];cases p.2.2.2.1<;>cases p.2.2.2.2.1<;>decide
 simp only[cT,oB,u,v]
def a3T(p:Pge):Prop:=p.2.1=true→p.2.2.2.1=false→∃q,a5I q∧p.2.2.2.2.1.take 18=a4d q∧18≤p.2.2.2.2.1.length
abbrev Mk:Type:=Int×(Int×(Int×Unit))
def a0O(p:Pge):List Mk:=
 bif p.2.1&&!p.2.2.2.1 then(match a2D (p.2.2.2.2.1.take 18)with
  |some y=>bif y.1.2.2.2.1 then[(y.1.1,y.1.2.1,p.1,())]else[]
  |none=>[])else[]
theorem a4F{p:Pge}(h:p.2.2.2.1=true):a0O p=[]:=by
 unfold a0O;rw[h];cases p.2.1<;>rfl
theorem a4V{p:Pge}{q:Pk}(h:p.2.1=true)(g:p.2.2.2.1=false)(k:a5I q)(f:p.2.2.2.2.1.take 18=a4d q):a0O p=bif q.2.2.2.1 then[(q.1,q.2.1,p.1,())]else[]:=by
 unfold a0O
 have:=a8S k (d:=[]) (by simp)
 rw[a04]at this;rw[h,g,f,this];rfl
theorem a9j{p:Pge}:(a0O p).length≤1:=by
 unfold a0O;cases p.2.1&&!p.2.2.2.1 with
 |false=>simp
 |true=>
  simp only[cT];cases a2D (p.2.2.2.2.1.take 18)with
  |none=>simp
  |some y=>simp only;cases y.1.2.2.2.1<;>simp
theorem a4N:∀(l:List Pge),(l.flatMap a0O).length≤l.length
 | []=>by simp
 |p::l=>by
  have h:=a4N l;have g:=a9j (p:=p);rw[a31,lN,lC];omega
theorem b1c(h:∀p∈l,PgOk p∧a3T p)(u:l.length<1000000):a3p l=some (l.flatMap a0O):=by
 unfold a3p
 have:=a0V (f:=a3E) (fun i=>(l,((l.length:Nat):Int),(i:Int),(l.take i).flatMap a0O,())) l.length (b:=(l.flatMap a0O,())) (fun i a=>?_) ?_
 refine a0K this rfl
 ·unfold a3E;simp only;obtain⟨hp,o⟩:=h l[i] (a16 a);have s:wrap .i64 ((i:Int)+1)=((i+1:Nat):Int):=by rw[w64 (by omega)];omega
  have c:=a4N (l.take i);rw[a00]at c;have e:(l.take (i+1)).flatMap a0O=(l.take i).flatMap a0O++a0O l[i]:=by rw[a06 a,a32,a33]
  rw[decide_eq_true (show(i:Int)<((l.length:Nat):Int)by omega),a1q a,s,e];simp only[cT,oB]
  by_cases g:(l[i]).2.1=true
  ·by_cases k:(l[i]).2.2.2.1=true
   rw[a4F k,g,k,a04];rfl
   ·have k:(l[i]).2.2.2.1=false:=by simpa using k
    obtain⟨q,n,j,t⟩:=o g k;rw[a4V g k n j,g,k];have m:=a8S n (d:=[]) (by simp);rw[a04]at m;rw[decide_eq_false (show ¬ (((l[i]).2.2.2.2.1.length:Nat):Int)<18 by omega),decide_eq_true (show(18:Int)≤(((l[i]).2.2.2.2.1.length:Nat):Int)by omega),j];simp only[bT,cF,cT,a6q hp,oB,bne_self_eq_false,m];cases hk:q.2.2.2.1 with
    |false=>simp only[a79,cT,cF,a04]
    |true=>
     simp only[bT,cF,cT];rw[a0L (by omega)];rfl
  have g:(l[i]).2.1=false:=by simpa using g
  have r:a0O l[i]=[]:=by unfold a0O;rw[g];rfl
  rw[r,g,a04];rfl
 unfold a3E;simp only;rw[decide_eq_false (by omega),a23];rfl
theorem a7i(k:∀p∈g,PgPlain p)(h:g≠[])(f:g.length≤8):(gOf g).2.2.2.1=true:=by
 obtain⟨-,a,b,c,e,-⟩:=a8b k h f;rw[e]
theorem a5L:∀(n:Nat)(l:List Pge),l.length≤n→(∀p∈l,PgPlain p)→(a1m l).flatMap a0O=l.flatMap a0O
 |0,l,h,_=>by
  have:l=[]:=a20.1 (by omega)
  rw[this,a2e]
 |n+1,l,h,hp=>by
  by_cases hl:l=[]
  rw[hl,a2e];have a:=a01.2 hl;have b:l.take 8≠[]:=a01.1 (by rw[a00];omega);have k:=a7i (g:=l.take 8) (fun p f=>hp p (a24 f)) b (by rw[a00];omega);have c:=a5L n (l.drop 8) (by rw[a02];omega) (fun p f=>hp p (a40 f));rw[a3y hl,a32,a31,a4F k,c,a05,←a32,a19]
theorem a6f:∀(n:Nat)(l:List Pge),l.length≤n→(∀p∈l,PgPlain p)→(∀p∈l,a3T p)→∀q∈a1m l,a3T q
 |0,l,h,_,_,q,f=>by
  have:l=[]:=a20.1 (by omega)
  rw[this,a2e]at f;cases f
 |n+1,l,h,hp,hh,q,f=>by
  by_cases hl:l=[]
  rw[hl,a2e]at f;cases f;have b:=a01.2 hl;have c:l.take 8≠[]:=a01.1 (by rw[a00];omega);have a:=a7i (g:=l.take 8) (fun p f=>hp p (a24 f)) c (by rw[a00];omega);rw[a3y hl]at f;rcases mA.1 f with f|f;exact hh q (a24 f);rcases mC.1 f with rfl|f;intro _ k;rw[a]at k;cases k;exact a6f n (l.drop 8) (by rw[a02];omega) (fun p f=>hp p (a40 f)) (fun p f=>hh p (a40 f)) q f
theorem a6N:∀(n:Nat)(s:Nat)(r:List Int),r.length≤n→∀p∈a2q false s r,p.2.1=false
 |0,s,r,h,p,hp=>by
  have:r=[]:=a20.1 (by omega)
  rw[this,a2E]at hp;cases hp
 |n+1,s,r,h,p,hp=>by
  by_cases hr:r=[]
  rw[hr,a2E]at hp;cases hp;have g:=a01.2 hr;rw[a3h hr]at hp;rcases mC.1 hp with rfl|hp;rfl;exact a6N n (s+1) (r.drop 252) (by rw[a02];omega) p hp
theorem a9H{q:Pk}(g:a5I q)(s:Nat):∀p∈a2q true s (a1B q),a3T p:=by
 intro p hp h _;rw[a3h (a6Z q)]at hp;have f:=a4D q;rcases mC.1 hp with rfl|hp;refine⟨q,g,?_,?_⟩;show((a1B q).take 252).take 18=a4d q;rw[a78,b1k g,show min 18 252=18 from rfl,a90,a4E,a49,a36,a04,a28 (by rw[a4E];omega)];show 18≤((a1B q).take 252).length;rw[a00];omega;rw[a6N _ _ _ (a11 _) p hp]at h;cases h
theorem a6g:∀(l:List Pk)(s:Nat),(∀p∈l,a5I p)→∀q∈a1z s (l.map a1B),a3T q
 | [],_,_,q,hq=>by cases hq
 |p::l,s,h,q,hq=>by
  rw[List.map_cons,a1z]at hq;rcases mA.1 hq with hq|hq;exact a9H (h p (by simp)) s q hq;exact a6g l _ (fun p hp=>h p (by simp[hp])) q hq
def a0C(n:Nat):List Int:=if h:n<128 then[(n:Int)]else((n%128+128:Nat):Int)::a0C (n / 128)
termination_by n
decreasing_by omega
theorem a4e(h:n<128):a0C n=[(n:Int)]:=by rw[a0C,dif_pos h]
theorem a4w(h:¬ n<128):a0C n=((n%128+128:Nat):Int)::a0C (n / 128):=by rw[a0C,dif_neg h]
theorem a5o:∀(k n:Nat),n<128^(k+1)→1≤(a0C n).length∧(a0C n).length≤k+1
 |0,n,h=>by rw[a4e (by omega)];simp
 |k+1,n,h=>by
  by_cases hn:n<128
  rw[a4e hn];simp;rw[a4w hn]
  have:=a5o k (n / 128) (by rw[a48 (by omega)];rw[a43]at h;exact h)
  simp only[lC];omega
theorem a3U:∀(k n:Nat),n<128^(k+1)→∀b∈a0C n,0≤b∧b<256
 |0,n,h,b,hb=>by rw[a4e (by omega)]at hb;simp at hb;omega
 |k+1,n,h,b,hb=>by
  by_cases hn:n<128
  rw[a4e hn]at hb;simp at hb;omega;rw[a4w hn]at hb;rcases mC.1 hb with rfl|hb;omega;exact a3U k (n / 128) (by rw[a48 (by omega)];rw[a43]at h;exact h) b hb
theorem a8T:∀(k n:Nat)(a:List Int)(b c:Int)(out:List Int),n<128^(k+1)→k≤8→out.length+k<1000000→
  ∃r g,x0w a3n ((n:Int),a,b,c,out,())=some (((r:Nat):Int),a,b,c,out++g,())∧a0C n=g++[(r:Int)]∧r<128
 |k,n,a,b,c,out,h,hk,ho=>by
  by_cases hn:n<128
  refine⟨n,[],?_,by rw[a4e hn];rfl,hn⟩;rw[a1j (b:=((n:Int),a,b,c,out,())) (by
   have d:decide ((n:Int)≥128)=false:=by simp;omega
   simp only[a3n,d,cF])]
  simp
  ·cases k with
   |zero=>omega
   |succ k=>
    have p:n / 128<128^(k+1):=by rw[a48 (by omega)];rw[a43]at h;exact h
    have f:n<18446744073709551616:=by
     have:128^(k+1+1)≤128^9:=a62 (by omega) (by omega)
     have e:(128:Nat)^9=9223372036854775808:=by decide
     omega
    obtain⟨r,g,l,m,o⟩:=a8T k (n / 128) a b c (out++[((n%128+128:Nat):Int)]) p (by omega) (by simp;omega);refine⟨r,((n%128+128:Nat):Int)::g,?_,by rw[a4w hn,m];rfl,o⟩;have d:decide ((n:Int)≥128)=true:=by simp;omega
    have i:wrap .u64 (Int.tdiv (n:Int) 128)=((n / 128:Nat):Int):=by
     rw[show Int.tdiv (n:Int) 128=((n / 128:Nat):Int)from rfl];exact a3s (by omega)
    have j:wrap .u8 (wrap .u8 (a29 (n:Int) 128)+128)=((n%128+128:Nat):Int):=by
     rw[show a29 (n:Int) 128=((n%128:Nat):Int)from rfl,a7K,a7K];omega
    rw[a1T (s':=(((n / 128:Nat):Int),a,b,c,out++[((n%128+128:Nat):Int)],())) (by
     simp only[a3n,d,cT,a9u (show out.length+1<2147483648 by omega),i,j,a26])]
    rw[l]
    simp
theorem a8d{α β γ:Type}(f:α→List γ):∀(l:List α)(a:List γ),a5g (β:=β) (fun a x=>.inl (a++f x)) l a=.inl (a++l.flatMap f)
 | [],a=>by simp[a5g]
 |x::l,a=>by simp only[a5g];rw[a8d f l];simp
def asI(ns:List Nat):List Int:=ns.map fun n:Nat=>(n:Int)
theorem a3V{ns:List Nat}(h:∀n∈ns,n<9223372036854775808)(v:ns.length≤1000):a1l (asI ns)=some (ns.flatMap a0C):=by
 have o:(asI ns).length=ns.length:=by simp[asI]
 have:=a9x (f:=a3o) (asI ns) (fun i (a:List Int)=>(asI ns,((asI ns).length:Int),(i:Int),a,())) (fun a x=>.inl (a++a0C x.toNat)) (fun i a=>a.length≤10*i) (fun a=>(a,()))
  (fun i m a s=>⟨fun t g=>by
   have d:i<ns.length:=by omega
   have p:(asI ns)[i]=((ns[i]:Nat):Int):=by simp[asI]
   have c:=h ns[i] (a16 d);have k:ns[i]<128^(8+1):=by rw[show(128:Nat)^(8+1)=9223372036854775808 from by decide];exact c
   obtain⟨r,j,q,l,u⟩:=a8T 8 ns[i] (asI ns) ((asI ns).length:Int) (i:Int) a k (a11 _) (by omega);have hv:=a5o 8 ns[i] k;rw[l]at hv;simp only[lN,lC,a03]at hv;simp only[p,tN,l,Sum.inl.injEq]at g;subst g;have e:wrap .u8 (r:Int)=(r:Int):=by rw[a7K];omega
   refine⟨?_,by simp;omega⟩;simp only[a3o,dlt m,cT,a7T m,p,oB,q,a9u (show(a++j).length+1<2147483648 by simp;omega),a7e (show i<1000000 by omega),e,a26,aA],fun b c=>by cases c⟩)
  (fun a s=>by simp only[a3o,dge,cF]) (a:=[]) (by simp)
 unfold a1l;simp only[nZ]at this;rw[this,a8d];simp[b0E,asI,List.flatMap_map]
theorem orA{a b:Nat}(f:a<2^k)(c:b*2^k+a<18446744073709551616):bits .u64 .or (a:Int) ((b*2^k:Nat):Int)=((a+b*2^k:Nat):Int):=by
 show wrap .u64 (((a73 64 (a:Int) ||| a73 64 ((b*2^k:Nat):Int)).toNat:Nat):Int)=_;have g:(a73 64 (a:Int)).toNat=a:=by rw[a85];omega
 have h:(a73 64 ((b*2^k:Nat):Int)).toNat=b*2^k:=by rw[a85];omega
 rw[BitVec.toNat_or,g,h];have e:a ||| b*2^k=a+b*2^k:=by
  have:=Nat.two_pow_add_eq_or_of_lt (i:=k) (b:=a) f b
  rw[Nat.or_comm,Nat.mul_comm b,←this,Nat.add_comm]
 rw[e];exact a3s (by omega)
theorem a9I{N o:Nat}(h:o≤64)(g:N*2^o<9223372036854775808):D0n .u64 (N:Int) (o:Int)=((N*2^o:Nat):Int):=by
 unfold D0n;show wrap .u64 ((N:Int)*2^(min (o:Int).toNat 64))=_;rw[tN,a44 h];have e:(N:Int)*2^o=((N*2^o:Nat):Int):=by rw[Int.natCast_mul,a97];rfl
 rw[e];exact a3s (by omega)
theorem a6h{rest:List Int}:∀(j m i acc:Nat)(P:List Int),m<128^(j+1)→P.length=i→(i=0∨1≤m)→acc<2^(7*i)→m*2^(7*i)+acc<9223372036854775808→(P++(a0C m++rest)).length<1000000000→
  x0w a2F ((acc:Int),P++(a0C m++rest),((P++(a0C m++rest)).length:Nat),(i:Int),())=some (.inr (((acc+m*2^(7*i):Nat):Int),((i+(a0C m).length:Nat):Int),(0:Int),()))
 |j,m,i,acc,P,hj,hP,hm,ha,hs,hl=>by
  have t:i≤8:=by
   rcases hm with p|h1;omega;apply Classical.byContradiction;intro A;have x:2^(7*9)≤2^(7*i):=a62 (by omega) (by omega);have y:2^(7*i)≤m*2^(7*i):=Nat.le_mul_of_pos_left _ (by omega);have e:(2:Nat)^(7*9)=9223372036854775808:=by decide
   omega
  have k:wrap .i64 ((7:Int)*(i:Int))=((7*i:Nat):Int):=by rw[wrap64 (by omega)];omega
  have b:decide ((((7*i:Nat):Int))<0)=false:=by simp;omega
  have a:wrap .i64 ((i:Int)+1)=((i+1:Nat):Int):=a7e (by omega);have w:∀c:Nat,c<256→(i=9→False):=fun _ _ h=>by omega
  have q:((i:Int)==9)=false:=by simp;omega
  have step:∀(c:Nat)(o:List Int),c<256→a0C m=(c:Int)::o→(i=0∨c≠0)→
    a2F ((acc:Int),P++(a0C m++rest),((P++(a0C m++rest)).length:Nat),(i:Int),()) =
     bif decide ((c:Int)<128)then some (.inr (Sum.inr (bits .u64 .or (acc:Int) (D0n .u64 (wrap .u64 (a29 (c:Int) 128)) ((7*i:Nat):Int)),((i+1:Nat):Int),(0:Int),())))
     else some (.inl (bits .u64 .or (acc:Int) (D0n .u64 (wrap .u64 (a29 (c:Int) 128)) ((7*i:Nat):Int)),P++(a0C m++rest),((P++(a0C m++rest)).length:Nat),((i+1:Nat):Int),())):=fun c o r hv p=>by
   have g:i<(P++(a0C m++rest)).length:=by rw[hv];simp;omega
   have s:n0o (P++(a0C m++rest)) (i:Int)=some (c:Int):=by
    rw[a7T g];congr 1;subst hP;simp[hv]
   have u:(decide ((i:Int) > 0)=true→((c:Int)==0)=false):=fun h=>by
    simp only[dT]at h;simp only[beq_eq_false_iff_ne,ne_eq];omega
   simp only[a2F,dlt g,cT,s,oB,q,cF];cases l:decide ((i:Int) > 0)with
   |true=>simp only[cT,oB,u l,cF,k,b,a]
   |false=>simp only[oB,cF,k,b,a]
  have val:∀c:Nat,c%128*2^(7*i)+acc<9223372036854775808→bits .u64 .or (acc:Int) (D0n .u64 (wrap .u64 (a29 (c:Int) 128)) ((7*i:Nat):Int))=((acc+c%128*2^(7*i):Nat):Int):=fun c r=>by
   rw[show a29 (c:Int) 128=((c%128:Nat):Int)from rfl,a3s (by omega),a9I (by omega) (by omega)];exact orA ha (by omega)
  by_cases hm128:m<128
  rw[a1j (step m [] (by omega) (a4e hm128) (by omega) |>.trans (by
   have d:decide ((m:Int)<128)=true:=by simp;omega
   simp only[d,cT];rfl))]
  rw[val m (by rw[a92 hm128];exact hs),a92 hm128,a4e hm128];rfl
  ·cases j with
   |zero=>omega
   |succ j=>
    have l:m / 128<128^(j+1):=by rw[a48 (by omega)];rw[a43]at hj;exact hj
    have f:2^(7*(i+1))=128*2^(7*i):=by rw[show 7*(i+1)=7+7*i from by omega,Nat.pow_add]
    have n:m*2^(7*i)=m%128*2^(7*i)+m / 128*2^(7*(i+1)):=by
     rw[f,←Nat.mul_assoc,←Nat.add_mul];congr 1;omega
    have z:m%128*2^(7*i)≤127*2^(7*i):=Nat.mul_le_mul_right _ (by omega);rw[a1T (step (m%128+128) (a0C (m / 128)) (by omega) (a4w hm128) (by omega) |>.trans (by
     have d:decide (((m%128+128:Nat):Int)<128)=false:=by simp;omega
     simp only[d,cF];rfl))]
    rw[val (m%128+128) (by rw[a89,Nat.mod_mod];omega),a89,Nat.mod_mod];have e:P++(a0C m++rest)=(P++[((m%128+128:Nat):Int)])++(a0C (m / 128)++rest):=by rw[a4w hm128];simp
    rw[e]at hl⊢;have v:=a6h j (m / 128) (i+1) (acc+m%128*2^(7*i)) (P++[((m%128+128:Nat):Int)]) l (by simp[hP]) (.inr (by omega)) (by rw[f];omega) (by omega) hl;rw[v,n,a4w hm128];congr 3;omega
    simp;omega
theorem a9J(h:n<9223372036854775808){rest:List Int}(g:(a0C n++rest).length<1000000000):a3q (a0C n++rest)=some ((n:Int),(((a0C n).length:Nat):Int),(0:Int)):=by
 have:=a6h (rest:=rest) 8 n 0 0 [] (by rw[show(128:Nat)^(8+1)=9223372036854775808 from by decide];exact h) rfl (.inl rfl) (by simp) (by simpa using h) g
 simp only[a05,nZ,Nat.mul_zero,Nat.pow_zero,Nat.mul_one,a87,Int.cast_ofNat_Int]at this;unfold a3q;rw[this];rfl
theorem b1l(d:n<9223372036854775808)(i:(n:Int)≤most)(f:(P++(a0C n++R)).length<1000000000):
  a0D (rdr P (a0C n++R),most)=some ((n:Int),rdr (P++a0C n) R):=by
 have c:a72 (a08 (P.length:Int)) (a63 (P++(a0C n++R)).length (P++(a0C n++R)))=a0C n++R:=by
  rw[a23,tN,b01]
 have g:((0:Int) != 0)=false:=rfl;have k:decide ((0:Int)≤(P.length:Int))=true:=by simp
 have a:decide ((P.length:Int)≤((P++(a0C n++R)).length:Int))=true:=by simp;omega
 have b:decide ((n:Int) > most)=false:=by simp;omega
 have h:(a0C n++R).length<1000000000:=by rw[lN]at f;omega
 have e:wrap .i64 ((P.length:Int)+((a0C n).length:Int))=(((P++a0C n).length:Nat):Int):=by
  rw[wrap64 (by simp only[lN]at f;omega)];simp
 unfold a0D rdr;simp only[g,cF,k,a,Bool.and_self,cT];rw[c,a9J d h];simp only[oB,beq_self_eq_true,cT,b,cF,g,e,aA]
theorem a9K(f:n<9223372036854775808)(g:(n:Int)≤most)(h:(P++(a0C n++R)).length<1000000):
  a0D (rdr P (a0C n++R),most)=some ((n:Int),rdr (P++a0C n) R):=b1l f g (Nat.lt_trans h (by decide))
def a2N(g:Int):Nat:=if 0≤g then(2*g).toNat else(-2*g-1).toNat
theorem a9L{g:Int}(h:-100000≤g∧g≤100000):a3w g=some ((a2N g:Nat):Int):=by
 unfold a3w a2N
 by_cases hg:0≤g
 have d:decide (g≥0)=true:=by simpa using hg
 rw[d,cT,if_pos hg,a3s (n:=g) (by omega),a3s (by omega),a82 (by omega)];have d:decide (g≥0)=false:=by simp;omega
 rw[d,cF,if_neg hg,wrap64 (n:=g+1) (by omega),wrap64 (by omega),a3s (n:=0-(g+1)) (by omega),a3s (n:=2*(0-(g+1))) (by omega),a3s (by omega),a82 (by omega)];congr 1;omega
theorem a5S{g:Int}{m:Nat}(h:-(m:Int)≤g∧g≤(m:Int)):a2N g≤2*m:=by
 unfold a2N
 split<;>omega
structure MkOk (m:Mk):Prop where
 s0:0≤m.1
 s4:m.1<4
 a0:0≤m.2.1
 a1:m.2.1≤1000
 p0:0≤m.2.2.1
 p1:m.2.2.1≤50000
def a4G:Int→Int→List Mk→List Int
 |_,_,[]=>[]
 |a,s,m::l=>(a0C m.1.toNat++(a0C (a2N (m.2.1-a))++a0C (a2N (m.2.2.1-s))))++a4G m.2.1 m.2.2.1 l
theorem b3y{x y z:Nat}(g:x<1000000)(f:y<1000000)(k:z<1000000):a1l [(x:Int),(y:Int),(z:Int)]=some (a0C x++(a0C y++a0C z)):=by
 have:=a3V (ns:=[x,y,z]) (fun n h=>by simp only[mC,a60,or_false]at h;omega) (by simp)
 rw[show asI [x,y,z]=[(x:Int),(y:Int),(z:Int)]from rfl]at this;rw[this];simp only[a31,a41,a04]
theorem a5M(h:n<1000000):(a0C n).length≤3:=(a5o 2 n (by omega)).2
theorem a9M:∀(rest done:List Mk)(l:List Mk)(a s:Int)(out:List Int),done++rest=l→(∀m∈rest,MkOk m)→(0≤a∧a≤1000)→(0≤s∧s≤50000)→l.length<100000→out.length+9*rest.length<1000000→
  x0w a2m (a,s,l,((l.length:Nat):Int),((done.length:Nat):Int),out,())=some (out++a4G a s rest,())
 | [],done,l,a,s,out,he,_,_,_,_,_=>by
  rw[a04]at he;subst he;refine a1j ?_
  unfold a2m;simp only;rw[decide_eq_false (by omega),a4G,a04];rfl
 |m::rest,done,l,a,s,out,he,hm,ha,hs,hl,ho=>by
  have h:l.length=done.length+(rest.length+1):=by rw[←he,lN,lC]
  obtain⟨b,d,e,i,j,o⟩:=hm m (by simp);rw[lC]at ho;have k:n0o l ((done.length:Nat):Int)=some m:=by
   rw[a1q (by omega)];congr 1;subst he;rw[List.getElem_append_right (a11 _)]
   simp
  have t:a2N (m.2.1-a)≤2000:=a5S (m:=1000) (by omega);have u:a2N (m.2.2.1-s)≤100000:=a5S (m:=50000) (by omega);have p:=a5M (n:=m.1.toNat) (by omega);have q:=a5M (n:=a2N (m.2.1-a)) (by omega);have r:=a5M (n:=a2N (m.2.2.1-s)) (by omega);have g:wrap .u64 m.1=((m.1.toNat:Nat):Int):=by
   have:=a3F (n:=m.1.toNat) (by omega)
   rwa [show((m.1.toNat:Nat):Int)=m.1 by omega]at this⊢
  have hp:=b3y (x:=m.1.toNat) (y:=a2N (m.2.1-a)) (z:=a2N (m.2.2.1-s)) (by omega) (by omega) (by omega);have step:a2m (a,s,l,((l.length:Nat):Int),((done.length:Nat):Int),out,())=some (.inl (m.2.1,m.2.2.1,l,((l.length:Nat):Int),(((done++[m]).length:Nat):Int),out++(a0C m.1.toNat++(a0C (a2N (m.2.1-a))++a0C (a2N (m.2.2.1-s)))),())):=by
   unfold a2m;simp only;rw[decide_eq_true (show((done.length:Nat):Int)<((l.length:Nat):Int)by omega),k];simp only[cT,oB];rw[w64 (n:=m.2.1-a) (by omega),a9L (by omega)];simp only[oB];rw[w64 (n:=m.2.2.1-s) (by omega),a9L (by omega)];simp only[oB];rw[g,hp];simp only[oB];rw[a0L (by simp only[lN];omega),w64 (by omega),lN];rfl
  rw[a1T step,a9M rest (done++[m]) l m.2.1 m.2.2.1 _ (by rw[←he,aA];rfl) (fun c f=>hm c (by simp[f])) (by omega) (by omega) hl (by simp only[lN];omega)];rw[a4G,aA]
theorem a6s:∀(l:List Mk)(a s:Int),(∀m∈l,MkOk m)→(0≤a∧a≤1000)→(0≤s∧s≤50000)→(a4G a s l).length≤9*l.length
 | [],_,_,_,_,_=>by simp[a4G]
 |m::l,a,s,hm,ha,hs=>by
  obtain⟨f,k,b,d,e,i⟩:=hm m (by simp);have g:=a6s l m.2.1 m.2.2.1 (fun c h=>hm c (by simp[h])) (by omega) (by omega);have q:a2N (m.2.1-a)≤2000:=a5S (m:=1000) (by omega);have r:a2N (m.2.2.1-s)≤100000:=a5S (m:=50000) (by omega);have j:=a5M (n:=m.1.toNat) (by omega);have o:=a5M (n:=a2N (m.2.1-a)) (by omega);have p:=a5M (n:=a2N (m.2.2.1-s)) (by omega);rw[a4G];simp only[lN,lC];omega
def a3W(l:List Mk):List Int:=a0C l.length++a4G 0 0 l
def a4H(l:List Mk):List Int:=a3W l++a1f (a1i (a3W l)).toNat 4
theorem b2b{x:Nat}(g:x<1000000):a1l [(x:Int)]=some (a0C x):=by
 have:=a3V (ns:=[x]) (fun n h=>by simp only[mC,a60,or_false]at h;omega) (by simp)
 rw[show asI [x]=[(x:Int)]from rfl]at this;rw[this];simp only[a31,a41,a04]
theorem a6t{l:List Mk}(h:∀m∈l,MkOk m)(t:l.length<50000):a1Z l=some (a4H l,0):=by
 have x:=a5M (n:=l.length) (by omega);have e:=a6s l 0 0 h (by omega) (by omega);have a:(a3W l).length≤3+9*l.length:=by rw[a3W,lN];omega
 obtain⟨d,u,w⟩:=a6K (l:=a3W l) (by omega);have c:wrap .u64 (a1i (a3W l))=(((a1i (a3W l)).toNat:Nat):Int):=by
  have:=a3F (n:=(a1i (a3W l)).toNat) (by omega)
  rwa [show(((a1i (a3W l)).toNat:Nat):Int)=a1i (a3W l)by omega]at this⊢
 have b2:=a4C (n:=(a1i (a3W l)).toNat) (k:=4) (by omega) (by omega);rw[show((4:Nat):Int)=4 from rfl]at b2;have b:=a9M l [] l 0 0 (a0C l.length) rfl h (by omega) (by omega) (by omega) (by omega);unfold a1Z;refine a0K (v:=.inl (l,())) ?_ ?_
 refine a0V (f:=a2S) (fun i=>(l,l,((l.length:Nat):Int),(i:Int),())) l.length (fun i g=>?_) ?_
 unfold a2S;simp only;obtain⟨j,o,p,q,r,s⟩:=h l[i] (a16 g);rw[decide_eq_true (show(i:Int)<((l.length:Nat):Int)by omega),a1q g];simp only[cT,oB,a2R];rw[decide_eq_false (show ¬ (l[i]).1<0 by omega),decide_eq_false (show ¬ (l[i]).1≥4 by omega),decide_eq_true (show(l[i]).2.1≥0 by omega),decide_eq_true (show(l[i]).2.1≤1125899906842624 by omega),decide_eq_true (show(l[i]).2.2.1≥0 by omega),decide_eq_true (show(l[i]).2.2.1≤2147483647 by omega)];simp only[cT,cF,oB,bT];rw[w64 (by omega)];rfl;unfold a2S;simp only;rw[decide_eq_false (by omega)];rfl;simp only;rw[a3F (by omega),b2b (by omega)];simp only[oB];refine a0K b ?_
 simp only;rw[show a0C l.length++a4G 0 0 l=a3W l from rfl];simp only[d,oB,c,b2,a1c];rw[a0L (by omega)];rfl
def a1L(l:List Int):List Int:=l.flatMap fun c=>[wrap .u8 (96+D0o .u8 c 4),wrap .u8 (96+bits .u8 .and c 15)]
theorem a3X(l:List Int):(a1L l).length=2*l.length:=by
 induction l with
 |nil=>rfl
 |cons a l ih=>
  have e:a1L (a::l)=[_,_]++a1L l:=rfl;rw[e,lN,ih,lC];simp only[lC,a03];omega
def a3Y(l:List Mk):List Int:=a1L (a4H l)++(a1f (2*(a4H l).length) 4++[75,69,78,68])
theorem a6u{l:List Mk}(h:∀m∈l,MkOk m)(f:l.length<50000):(a4H l).length≤7+9*l.length:=by
 have k:=a5M (n:=l.length) (by omega);have g:=a6s l 0 0 h (by omega) (by omega);rw[a4H,lN,a1c,a3W,lN];omega
theorem b1m(h:∀p∈l,PgOk p∧a3T p)(q:l.length<50000)(d:∀m∈l.flatMap a0O,MkOk m):a2V l=some (a3Y (l.flatMap a0O),0):=by
 have r:=a4N l;have o:=a6u d (by omega);unfold a2V;rw[b1c h (by omega)];simp only[oB];rw[a6t d (by omega)];simp only[oB,bne_self_eq_false,cF];unfold a3Y;generalize a4H (l.flatMap a0O)=b at o;have g:=a3X b
 have:=a0V (f:=a2T) (fun i=>(((b.length:Nat):Int),(i:Int),a1L (b.take i),b,())) b.length (b:=(a1L b,())) (fun i c=>?_) ?_
 refine a0K this ?_
 simp only;have e:wrap .u64 (((a1L b).length:Nat):Int)=((2*b.length:Nat):Int):=by rw[g];exact a3F (by omega)
 have b2:=a4C (n:=2*b.length) (k:=4) (by omega) (by omega);rw[show((4:Nat):Int)=4 from rfl]at b2;rw[e,b2];simp only[oB,a1c,g,a26,lN];rw[a0L (by omega),a0L (by omega)];simp only[cT,aA];unfold a2T;simp only;have e:a1L (b.take (i+1))=a1L (b.take i)++[wrap .u8 (96+D0o .u8 b[i] 4),wrap .u8 (96+bits .u8 .and b[i] 15)]:=by
  unfold a1L;rw[a06 c,a32,a33]
 have j:a13 b (a08 (i:Int)) 0=b[i]:=by rw[tN,lD,lG c];rfl
 have a:=a3X (b.take i);rw[a00]at a;rw[decide_eq_true (show(i:Int)<((b.length:Nat):Int)by omega),decide_eq_true (show(0:Int)≤(i:Int)by omega),j,a0L (by omega),e,w64 (by omega)];rfl;unfold a2T;simp only;rw[decide_eq_false (by omega),a23];rfl
def a1x(i:Inf):List Int:=
 (a0C i.1.toNat++(a0C i.2.1.1.toNat++a0C i.2.1.2.1.toNat))++(bif i.1==1 then(a0C i.2.2.1.1.toNat++(a0C i.2.2.1.2.1.toNat++a0C i.2.2.1.2.2.1.toNat))
  else(a0C i.2.2.2.1.toNat++(a0C i.2.2.2.2.1.toNat++(a0C i.2.2.2.2.2.1.toNat++a0C i.2.2.2.2.2.2.1.toNat))))
def a0P(a:List Inf):List Int:=[75,73,78,79,82,65]++(a0C a.length++a.flatMap a1x)
def a1N(a:List Inf):List Int:=a0P a++a1f (a1i (a0P a)).toNat 4
theorem b3z{x y z w:Nat}(f:x<1000000)(k:y<1000000)(a:z<1000000)(g:w<1000000):a1l [(x:Int),(y:Int),(z:Int),(w:Int)]=some (a0C x++(a0C y++(a0C z++a0C w))):=by
 have:=a3V (ns:=[x,y,z,w]) (fun n h=>by simp only[mC,a60,or_false]at h;omega) (by simp)
 rw[show asI [x,y,z,w]=[(x:Int),(y:Int),(z:Int),(w:Int)]from rfl]at this;rw[this];simp only[a31,a41,a04]
theorem a9k{x y z:Nat}(g:x<2000000)(f:y<2000000)(k:z<2000000):a1l [(x:Int),(y:Int),(z:Int)]=some (a0C x++(a0C y++a0C z)):=by
 have:=a3V (ns:=[x,y,z]) (fun n h=>by simp only[mC,a60,or_false]at h;omega) (by simp)
 rw[show asI [x,y,z]=[(x:Int),(y:Int),(z:Int)]from rfl]at this;rw[this];simp only[a31,a41,a04]
theorem a0U(h:n<2000000):(a0C n).length≤3:=(a5o 2 n (by omega)).2
theorem wuI{z:Int}(h:0≤z)(g:z<2000000):wrap .u64 z=((z.toNat:Nat):Int):=by
 have:=a3F (n:=z.toNat) (by omega)
 rwa [show((z.toNat:Nat):Int)=z by omega]at this⊢
theorem a8e{i:Inf}(h:InfOk i):(a1x i).length≤21:=by
 cases h with
 |sound n d r c b hn hd hr hc hb=>
  have g:=a0U (n:=(1:Int).toNat) (by decide);have f:=a0U (n:=n.toNat) (by omega);have k:=a0U (n:=d.toNat) (by omega);have a:=a0U (n:=r.toNat) (by omega);have j:=a0U (n:=c.toNat) (by omega);have l:=a0U (n:=b.toNat) (by omega);unfold a1x;simp only[beq_self_eq_true,cT,lN];omega
 |images n d w h e p hn hd hw hh he hp=>
  have g:=a0U (n:=(2:Int).toNat) (by decide);have f:=a0U (n:=n.toNat) (by omega);have k:=a0U (n:=d.toNat) (by omega);have a:=a0U (n:=w.toNat) (by omega);have j:=a0U (n:=h.toNat) (by omega);have l:=a0U (n:=e.toNat) (by omega);have m:=a0U (n:=p.toNat) (by omega);unfold a1x;rw[show((2:Int)==1)=false by decide];simp only[cF,lN];omega
theorem a9N{n:Int}{out:List Int}(l:k<a.length)(j:n=((a.length:Nat):Int))(f:InfOk a[k])(x:out.length<100000)(v:a.length<1000):
  a2n (a,n,(k:Int),out,())=some (.inl (a,n,((k+1:Nat):Int),out++a1x a[k],())):=by
 unfold a2n;simp only;rw[decide_eq_true (show(k:Int)<n by omega),a1q l,w64 (n:=(k:Int)+1) (by omega)];simp only[cT,oB];generalize a[k]=i at f;cases f with
 |sound n d r c b j hd hr hc hb=>
  have m:=a0U (n:=(1:Int).toNat) (by decide);have o:=a0U (n:=n.toNat) (by omega);have q:=a0U (n:=d.toNat) (by omega);have s:=a0U (n:=r.toNat) (by omega);have t:=a0U (n:=c.toNat) (by omega);have u:=a0U (n:=b.toNat) (by omega);simp only;rw[wuI (z:=1) (by decide) (by decide),wuI (z:=n) (by omega) (by omega),wuI (z:=d) (by omega) (by omega),wuI (z:=r) (by omega) (by omega),wuI (z:=c) (by omega) (by omega),wuI (z:=b) (by omega) (by omega)];rw[a9k (by decide) (by omega) (by omega),a9k (by omega) (by omega) (by omega)];simp only[oB,beq_self_eq_true,cT,a26,lN];rw[a0L (by omega),a0L (by omega)];simp only[cT,a1x,beq_self_eq_true,aA];rfl
 |images n d w h e p j hd hw hh he hp=>
  have m:=a0U (n:=(2:Int).toNat) (by decide);have o:=a0U (n:=n.toNat) (by omega);have q:=a0U (n:=d.toNat) (by omega);have s:=a0U (n:=w.toNat) (by omega);have t:=a0U (n:=h.toNat) (by omega);have u:=a0U (n:=e.toNat) (by omega);have y:=a0U (n:=p.toNat) (by omega);simp only;rw[wuI (z:=2) (by decide) (by decide),wuI (z:=n) (by omega) (by omega),wuI (z:=d) (by omega) (by omega),wuI (z:=w) (by omega) (by omega),wuI (z:=h) (by omega) (by omega),wuI (z:=e) (by omega) (by omega),wuI (z:=p) (by omega) (by omega)];rw[a9k (by decide) (by omega) (by omega),b3z (by omega) (by omega) (by omega) (by omega)];have g:((2:Int)==1)=false:=by decide
  simp only[oB,g,cF,cT,a26,lN];rw[a0L (by omega),a0L (by omega)];simp only[cT,cF,a1x,g,aA];rfl
theorem a4I:∀(a:List Inf),(∀i∈a,InfOk i)→(a.flatMap a1x).length≤21*a.length
 | [],_=>by simp
 |i::a,h=>by
  have f:=a8e (h i (by simp));have k:=a4I a fun j g=>h j (by simp[g]);rw[a31,lN,lC];omega
theorem a8U(h:∀i∈a,InfOk i)(q:a.length≤4):a2t a=some (a1N a):=by
 have u:=a0U (n:=a.length) (by omega);have r:=a4I a h;have c:(a0P a).length≤93:=by
  simp only[a0P,lN,lC,a03];omega
 obtain⟨o,s,t⟩:=a6K (l:=a0P a) (by omega);have m:wrap .u64 (a1i (a0P a))=(((a1i (a0P a)).toNat:Nat):Int):=by
  have:=a3F (n:=(a1i (a0P a)).toNat) (by omega)
  rwa [show(((a1i (a0P a)).toNat:Nat):Int)=a1i (a0P a)by omega]at this⊢
 have b2:=a4C (n:=(a1i (a0P a)).toNat) (k:=4) (by omega) (by omega);rw[show((4:Nat):Int)=4 from rfl]at b2;unfold a2t;rw[a3F (by omega),b2b (by omega)];simp only[oB];rw[a0L (by omega)];simp only[cT]
 have:=a0V (f:=a2n) (fun k=>(a,((a.length:Nat):Int),(k:Int),[75,73,78,79,82,65]++(a0C a.length++(a.take k).flatMap a1x),())) a.length (b:=(a0P a,())) (fun k g=>?_) ?_
 rw[a36,a41,a04]at this;refine a0K this ?_
 simp only[o,oB,m,b2,a1c];rw[a0L (by omega)];rfl;have d:=a4I (a.take k) fun j e=>h j (a24 e);rw[a00]at d;have p:=a9N (a:=a) (n:=((a.length:Nat):Int)) (k:=k) (out:=[75,73,78,79,82,65]++(a0C a.length++(a.take k).flatMap a1x)) g rfl (h _ (a16 g)) (by simp only[lN,lC,a03];omega) (by omega);rw[p,a06 g,a32,a33];simp only[aA];unfold a2n;simp only;rw[decide_eq_false (by omega),a23];rfl
theorem wI{z:Int}(h:0≤z)(g:z<2000000):wrap .i64 ((z.toNat:Nat):Int)=z:=by rw[w64 (by omega)];omega
theorem a4f{z:Int}(g:0≤z)(f:z<2000000)(k:z≤most)(h:(P++(a0C z.toNat++R)).length<1000000):
  a0D (rdr P (a0C z.toNat++R),most)=some (((z.toNat:Nat):Int),rdr (P++a0C z.toNat) R):=a9K (by omega) (by omega) h
theorem b1n{i:Inf}(h:InfOk i)(g:(P++(a1x i++R)).length<900000):a3x (rdr P (a1x i++R))=some (i,rdr (P++a1x i) R):=by
 have k:=a8e h;simp only[lN]at g;cases h with
 |sound n d r c b hn hd hr hc hb=>
  have j:=a0U (n:=(1:Int).toNat) (by decide);have l:=a0U (n:=n.toNat) (by omega);have m:=a0U (n:=d.toNat) (by omega);have o:=a0U (n:=r.toNat) (by omega);have q:=a0U (n:=c.toNat) (by omega);have s:=a0U (n:=b.toNat) (by omega);have e:a1x (1,(n,d,()),(r,c,b,()),0,0,0,0,())=a0C (1:Int).toNat++(a0C n.toNat++(a0C d.toNat++(a0C r.toNat++(a0C c.toNat++a0C b.toNat)))):=by
   unfold a1x;simp only[beq_self_eq_true,cT,aA]
  rw[e]at g⊢;simp only[lN]at g;simp only[aA];unfold a3x;rw[a4f (z:=1) (by decide) (by decide) (by decide) (by simp only[lN];omega)];simp only[oB];rw[a4f (z:=n) (by omega) (by omega) (by omega) (by simp only[lN];omega)];simp only[oB];rw[a4f (z:=d) (by omega) (by omega) (by omega) (by simp only[lN];omega)];simp only[oB];rw[wI (z:=1) (by decide) (by decide)];simp only[beq_self_eq_true,cT];rw[a4f (z:=r) (by omega) (by omega) (by omega) (by simp only[lN];omega)];simp only[oB];rw[a4f (z:=c) (by omega) (by omega) (by omega) (by simp only[lN];omega)];simp only[oB];rw[a4f (z:=b) (by omega) (by omega) (by omega) (by simp only[lN];omega)];simp only[oB];rw[wI (z:=n) (by omega) (by omega),wI (z:=d) (by omega) (by omega),wI (z:=r) (by omega) (by omega),wI (z:=c) (by omega) (by omega),wI (z:=b) (by omega) (by omega)];simp only[aA]
 |images n d w h e p hn hd hw hh he hp=>
  have j:=a0U (n:=(2:Int).toNat) (by decide);have l:=a0U (n:=n.toNat) (by omega);have m:=a0U (n:=d.toNat) (by omega);have o:=a0U (n:=w.toNat) (by omega);have q:=a0U (n:=h.toNat) (by omega);have s:=a0U (n:=e.toNat) (by omega);have t:=a0U (n:=p.toNat) (by omega);have f:((2:Int)==1)=false:=by decide
  have a:a1x (2,(n,d,()),(0,0,0,()),w,h,e,p,())=a0C (2:Int).toNat++(a0C n.toNat++(a0C d.toNat++(a0C w.toNat++(a0C h.toNat++(a0C e.toNat++a0C p.toNat))))):=by
   unfold a1x;simp only[f,cF,aA]
  rw[a]at g⊢;simp only[lN]at g;simp only[aA];unfold a3x;rw[a4f (z:=2) (by decide) (by decide) (by decide) (by simp only[lN];omega)];simp only[oB];rw[a4f (z:=n) (by omega) (by omega) (by omega) (by simp only[lN];omega)];simp only[oB];rw[a4f (z:=d) (by omega) (by omega) (by omega) (by simp only[lN];omega)];simp only[oB];rw[wI (z:=2) (by decide) (by decide)];simp only[f,cF];rw[a4f (z:=w) (by omega) (by omega) (by omega) (by simp only[lN];omega)];simp only[oB];rw[a4f (z:=h) (by omega) (by omega) (by omega) (by simp only[lN];omega)];simp only[oB];rw[a4f (z:=e) (by omega) (by omega) (by omega) (by simp only[lN];omega)];simp only[oB];rw[a4f (z:=p) (by omega) (by omega) (by omega) (by simp only[lN];omega)];simp only[oB];rw[wI (z:=n) (by omega) (by omega),wI (z:=d) (by omega) (by omega),wI (z:=w) (by omega) (by omega),wI (z:=h) (by omega) (by omega),wI (z:=e) (by omega) (by omega),wI (z:=p) (by omega) (by omega)];simp only[aA]
theorem a6O{x:List Int}:∀(rest:List Inf)(out:List Inf)(P R:List Int),(∀i∈rest,InfOk i)→(P++(rest.flatMap a1x++R)).length<800000→out.length+rest.length<100→
  x0w a2K (x,((rest.length:Nat):Int),out,rdr P (rest.flatMap a1x++R),())=some (x,out++rest,rdr (P++rest.flatMap a1x) R,())
 | [],out,P,R,_,_,_=>by
  refine a1j ?_
  unfold a2K;simp only;rw[decide_eq_false (by simp)];simp only[cF,a04,a41,a05]
 |i::rest,out,P,R,h,hl,ho=>by
  rw[a31]at hl⊢;rw[lC]at ho;have g:=hl;simp only[lN]at g;have step:a2K (x,(((i::rest).length:Nat):Int),out,rdr P ((a1x i++rest.flatMap a1x)++R),())=some (.inl (x,((rest.length:Nat):Int),out++[i],rdr (P++a1x i) (rest.flatMap a1x++R),())):=by
   unfold a2K;simp only;rw[decide_eq_true (show(((i::rest).length:Nat):Int) > 0 by simp only[lC];omega),aA,b1n (h i (by simp)) (by simp only[lN];omega)];simp only[cT,oB];have w:wrap .u64 ((((i::rest).length:Nat):Int)-1)=((rest.length:Nat):Int):=by
    rw[show(((i::rest).length:Nat):Int)-1=((rest.length:Nat):Int)by simp only[lC];omega];exact a3F (by omega)
   rw[a0L (by omega),w];rfl
  rw[a1T step,a6O rest (out++[i]) (P++a1x i) R (fun j f=>h j (by simp[f])) (by simp only[lN];omega) (by simp only[lN,a07];omega)];simp only[aA,a35]
theorem b1o{x:List Int}{r:List Int×(Int×Int×Unit)}(h:∀i∈a,InfOk i)(b:a.length<1000):x0w a2L (x,((a.length:Nat):Int),(0:Int),a,r,())=some (.inl (x,a,r,())):=by
 refine a0V (f:=a2L) (fun i=>(x,((a.length:Nat):Int),(i:Int),a,r,())) a.length (fun i g=>?_) ?_
 unfold a2L;simp only;have k:∀z,a13 a (a08 (i:Int)) z=a[i]:=fun z=>by rw[tN,lD,lG g];rfl
 rw[decide_eq_true (show(i:Int)<((a.length:Nat):Int)by omega),decide_eq_true (show(0:Int)≤(i:Int)by omega),k,a9C (h _ (a16 g))];simp only[cT,a27,oB,bT,cF];rw[w64 (by omega)];rfl;unfold a2L;simp only;rw[decide_eq_false (by omega)];rfl
theorem b0Q(h:∀i∈a,InfOk i)(u:1≤a.length)(v:a.length≤4)(y:R.length<500000):a2g (a1N a++R)=some (a,(((a1N a).length:Nat):Int),0):=by
 have D:=a0U (n:=a.length) (by omega);have z:=a4I a h;have w:(a0P a).length=6+((a0C a.length).length+(a.flatMap a1x).length):=by
  simp only[a0P,lN,lC,a03]
 have f:(a1N a).length=(a0P a).length+4:=by rw[a1N,lN,a1c]
 obtain⟨s,B,C⟩:=a6K (l:=a0P a) (by omega);have e:a1N a++R=[75,73,78,79,82,65]++(a0C a.length++(a.flatMap a1x++(a1f (a1i (a0P a)).toNat 4++R))):=by
  simp only[a1N,a0P,aA]
 have b:(a1N a++R).length=(a0P a).length+4+R.length:=by rw[lN,f]
 unfold a2g;rw[b,decide_eq_false (show ¬ (((a0P a).length+4+R.length:Nat):Int)<6 by omega),decide_eq_true (show(6:Int)≤(((a0P a).length+4+R.length:Nat):Int)by omega)];have o:a63 6 (a1N a++R)=[75,73,78,79,82,65]:=by rw[e];rfl
 have j:(b2s ([75,73,78,79,82,65]:List Int) != ([75,73,78,79,82,65]:List Int))=false:=by decide
 rw[o,j,a9G (by omega)];simp only[cF,cT,oB];rw[e];have c:=a8R (P:=[]) (A:=[75,73,78,79,82,65]) (R:=a0C a.length++(a.flatMap a1x++(a1f (a1i (a0P a)).toNat 4++R))) (by rw[a05,←e,b];omega);rw[show((([75,73,78,79,82,65]:List Int).length:Nat):Int)=6 from rfl]at c;rw[c];simp only[oB];rw[a9K (n:=a.length) (by omega) (by omega) (by simp only[lN,a1c,lC,a03];omega)];simp only[oB];have r:=a6O (x:=[75,73,78,79,82,65]++(a0C a.length++(a.flatMap a1x++(a1f (a1i (a0P a)).toNat 4++R)))) a [] ([]++[75,73,78,79,82,65]++a0C a.length) (a1f (a1i (a0P a)).toNat 4++R) h (by simp only[lN,a1c,lC,a03];omega) (by simp only[a03];omega);refine a0K r ?_
 have m:[]++[75,73,78,79,82,65]++a0C a.length++a.flatMap a1x=a0P a:=by simp only[a0P,aA,a05]
 rw[m];simp only[a05,a1R,rdr,oB,bne_self_eq_false,cF];have p:(((a.length:Nat):Int)==0)=false:=by rw[beq_eq_false_iff_ne];omega
 rw[p];simp only[cF];refine a0K (b1o h (by omega)) ?_
 simp only[a1s,a2G,oB];have g:=a6r (P:=a0P a) (R:=R) (n:=(a1i (a0P a)).toNat) (k:=4) (by omega) (by rw[show 256^4=4294967296 by decide];omega) (by simp only[lN,a1c];omega);simp only[rdr]at g;rw[show((4:Nat):Int)=4 from rfl]at g;have q:wrap .u64 (a1i (a0P a))=(((a1i (a0P a)).toNat:Nat):Int):=by
  have:=a3F (n:=(a1i (a0P a)).toNat) (by omega)
  rwa [show(((a1i (a0P a)).toNat:Nat):Int)=a1i (a0P a)by omega]at this⊢
 have t:wrap .i64 (((a0P a++(a1f (a1i (a0P a)).toNat 4++R)).length:Int)-(((a0P a).length:Nat):Int))=((4+R.length:Nat):Int):=by
  rw[w64 (by simp only[lN,a1c];omega)];simp only[lN,a1c];omega
 have d:[75,73,78,79,82,65]++(a0C a.length++(a.flatMap a1x++(a1f (a1i (a0P a)).toNat 4++R)))=a0P a++(a1f (a1i (a0P a)).toNat 4++R):=by simp only[a0P,aA]
 rw[t,d,decide_eq_false (show ¬ ((4+R.length:Nat):Int)<4 by omega),decide_eq_true (show(0:Int)≤(((a0P a).length:Nat):Int)by omega),decide_eq_true (show(((a0P a).length:Nat):Int)≤(((a0P a++(a1f (a1i (a0P a)).toNat 4++R)).length:Nat):Int)by simp only[lN];omega),tN,List.take_left];simp only[cF,cT,a27,s,oB,g,q,bne_self_eq_false];rw[lN,a1c,f]
structure Drawn (n:Nat) (a:List Inf) (L:List (List Pk)):Prop where
 len:a.length=L.length
 inf:∀i∈a,InfOk i
 str:StrOk n L
structure Woven (Z:List Pk):Prop where
 pk:∀p∈Z,a5I p
 len:Z.length≤32
 asc:Asc Z
def a0G(Z:List Pk):List Pge:=a1z 0 (Z.map a1B)
theorem a8f(h:Woven Z):∀b∈Z.map a1B,b.length≤918:=by
 intro b g;obtain⟨p,hp,rfl⟩:=List.mem_map.1 g;obtain⟨s,f,_⟩:=h.pk p hp
 have:=f.dat
 rw[a4D];omega
theorem a4O(h:Woven Z):(a0G Z).length≤29376:=by
 have:=a6J (Z.map a1B) 0 918 (a8f h)
 rw[a38]at this;have g:=h.len;unfold a0G;omega
theorem a6v(h:Woven Z):∀(i:Nat)(p:Pge),(a0G Z)[i]?=some p→p.1=(i:Int)∧PgPlain p:=by
 intro i p hp;have f:=h.len
 have:=a7h (Z.map a1B) 0 (fun b g=>Nat.le_trans (a8f h b g) (by decide)) (by rw[a38];omega) i p hp
 rw[a87]at this;exact this
theorem a3z(h:Woven Z):∀p∈a0G Z,PgPlain p:=by
 intro p hp;obtain⟨i,g⟩:=a51 hp;exact(a6v h i p g).2
theorem a9O(h:Woven Z):a9i (a0G Z):=fun i p hp=>(a6v h i p hp).1
theorem a4v(h:Woven Z):∀p∈a0G Z,a3T p:=a6g Z 0 h.pk
theorem a9P(h:Woven Z):∀p∈a0G Z,0≤p.1∧p.1≤50000:=by
 intro p hp;obtain⟨i,g⟩:=a51 hp;have f:=(a6v h i p g).1;have k:=(lS.1 g).1;have a:=a4O h;omega
theorem b0R{P:List Pge}(c:∀p∈P,a3T p)(d:∀p∈P,0≤p.1∧p.1≤50000):∀m∈P.flatMap a0O,MkOk m:=by
 intro m h;obtain⟨p,hp,h⟩:=List.mem_flatMap.1 h
 by_cases f:p.2.1=true
 ·by_cases g:p.2.2.2.1=true
  rw[a4F g]at h;cases h
  ·have g:p.2.2.2.1=false:=by simpa using g
   obtain⟨q,⟨s,k,a,b⟩,e,_⟩:=c p hp f g;rw[a4V f g ⟨s,k,a,b⟩ e]at h;cases hk:q.2.2.2.1 with
   |false=>rw[hk]at h;cases h
   |true=>
    rw[hk]at h;have h:=a17.1 (show m∈[(q.1,q.2.1,p.1,())]from h);subst h;obtain⟨i,j⟩:=d p hp;exact⟨by rw[k.st];exact a,by rw[k.st];exact b,k.at0,k.at1,i,j⟩
 have f:p.2.1=false:=by simpa using f
 have e:a0O p=[]:=by unfold a0O;rw[f];rfl
 rw[e]at h;cases h
def a3A(Z:List Pk):List Int:=a2W (a1m (a0G Z))
def a3Z(a:List Inf)(Z:List Pk):List Int:=a1N a++(a3A Z++a3Y ((a0G Z).flatMap a0O))
theorem a6w(h:Woven Z):a2l (a0G Z)=some (a1m (a0G Z),0):=a9F (a3z h) (a9O h) (by have:=a4O h;omega)
theorem a6P(h:Woven Z):∀q∈a1m (a0G Z),PgOk q:=a6L _ _ (a11 _) (a3z h)
theorem a8g(h:Woven Z):(a1m (a0G Z)).length≤58752:=by
 have:=a4u _ _ (a11 (a0G Z).length)
 have:=a4O h
 omega
theorem a8h:∀(n:Nat)(f:Bool)(s:Nat)(r:List Int),r.length≤252*n→(a2q f s r).length≤n
 |0,f,s,r,h=>by
  have:r=[]:=a20.1 (by omega)
  subst this;rw[a2E];exact a11 _
 |n+1,f,s,r,h=>by
  by_cases hr:r=[]
  subst hr;rw[a2E];exact Nat.zero_le _;rw[a3h hr,lC]
  have:=a8h n false (s+1) (r.drop 252) (by rw[a02];omega)
  omega
theorem a6Q:∀(bs:List (List Int)) (s:Nat),(∀b∈bs,b.length≤918)→(a1z s bs).length≤4*bs.length
 | [],s,_=>by simp[a1z]
 |b::bs,s,h=>by
  have f:=a8h 4 true s b (by have:=h b (by simp);omega);have k:=a6Q bs (s+(a2q true s b).length) fun c g=>h c (by simp[g]);rw[a1z,lN,lC];omega
theorem a5N(h:Woven Z):(a0G Z).length≤128:=by
 have:=a6Q (Z.map a1B) 0 (a8f h)
 rw[a38]at this
 have:=h.len
 unfold a0G;omega
theorem a8i(h:Woven Z):(a3A Z).length≤68352:=by
 have g:=a5m _ (a6P h);have f:=a4u _ _ (a11 (a0G Z).length);have k:=a5N h;unfold a3A;omega
theorem b1p(h:Woven Z):∀q∈a1m (a0G Z),a3T q:=a6f _ _ (a11 _) (a3z h) (a4v h)
theorem b0S(h:Woven Z):(a1m (a0G Z)).flatMap a0O=(a0G Z).flatMap a0O:=a5L _ _ (a11 _) (a3z h)
theorem a5p(h:Woven Z):∀m∈(a0G Z).flatMap a0O,MkOk m:=b0R (a4v h) (a9P h)
theorem a8j(h:Woven Z):((a0G Z).flatMap a0O).length≤128:=Nat.le_trans (a4N _) (a5N h)
theorem a9l(h:Woven Z):a2V (a1m (a0G Z))=some (a3Y ((a0G Z).flatMap a0O),0):=by
 have e:=b0S h;rw[←e];refine b1m (fun p hp=>⟨a6P h p hp,b1p h p hp⟩) ?_ ?_
 have:=a4u _ _ (a11 (a0G Z).length)
 have:=a5N h
 omega;rw[e];exact a5p h
theorem a8k(h:Woven Z):(a3Y ((a0G Z).flatMap a0O)).length≤2400:=by
 have g:=a6u (a5p h) (by have:=a8j h;omega);have f:=a8j h;rw[a3Y,lN,a3X,lN,a1c];simp only[lC,a03];omega
theorem Drawn.weave(h:Drawn n a L)(k:n≤8):∃Z,a2f L=some (Z,0)∧Woven Z∧Stb L.flatten Z:=by
 obtain⟨Z,b,c,g⟩:=b0K h.str k;refine⟨Z,b,⟨fun p hp=>?_,?_,c⟩,g⟩;have hp:=(g.perm.mem_iff).1 hp;obtain⟨l,d,hp⟩:=List.mem_flatten.1 hp;obtain⟨i,f⟩:=a51 d
 have:=(lS.1 f).1
 have:=h.str.four
 exact⟨(i:Int),(h.str.ok i l f).ok p hp,by omega,by omega⟩;rw[g.perm.length_eq]
 have:=a5k h.str.lens
 have:=h.str.four
 have:n*L.length≤8*4:=a80 k this
 omega
theorem a9Q(h:∀i∈a,InfOk i)(g:a.length≤4):(a1N a).length≤200:=by
 have k:=a0U (n:=a.length) (by omega);have f:=a4I a h;rw[a1N,lN,a1c,a0P,lN,lN];simp only[lC,a03];omega
theorem a4W(h:Woven Z):a2j (Z,0)=some (a0G Z,0):=b0L h.pk (by have:=h.len;omega)
theorem a9R(h:∀i∈a,InfOk i)(k:a.length<1000):x0w a2B (a,L,a,((a.length:Nat):Int),(0:Int),())=some (.inl (a,L,())):=by
 have:=a0V (f:=a2B) (fun i=>(a,L,a,((a.length:Nat):Int),(i:Int),())) a.length (b:=.inl (a,L,())) (fun i g=>?_) ?_
 exact this;unfold a2B;simp only;rw[decide_eq_true (show(i:Int)<((a.length:Nat):Int)by omega),a1q g];simp only[cT,oB,a9C (h _ (a16 g)),bT,cF];rw[w64 (by omega)];rfl;unfold a2B;simp only;rw[decide_eq_false (by omega)];rfl
theorem Drawn.write(h:Drawn n a L)(c:a2f L=some (Z,0))(g:Woven Z):a1Q (a,L)=some (a3Z a Z,0):=by
 have e:=h.str.one;have i:=h.str.four;have b:=h.len;have b1:=a8i g;have b2:=a8k g;have d:=a9Q h.inf (by omega);have f:a1P (a1m (a0G Z))=some (a3A Z,0):=a5J (a6P g) (by have:=a8g g;omega);unfold a1Q;simp only;have k:(((L.length:Nat):Int) != ((a.length:Nat):Int))=false:=by rw[b,bne_self_eq_false]
 rw[decide_eq_false (show ¬ ((a.length:Nat):Int)<1 by omega),decide_eq_false (show ¬ ((a.length:Nat):Int) > 4 by omega),k];simp only[cF,oB];refine a0K (a9R h.inf (by omega)) ?_
 simp only[c,oB,bne_self_eq_false,cF,a4W g,a6w g,f,a9l g,a8U h.inf (by omega),a26,lN];rw[a0L (by omega),a0L (by omega)];simp only[cT,a3Z,aA]
theorem a9m{N o:Nat}(h:o≤64):D0o .i64 (N:Int) (o:Int)=((N / 2^o:Nat):Int):=by
 have e:min (o:Int).toNat IntKind.i64.bits=o:=by rw[tN];show min o 64=o;omega
 unfold D0o;rw[e,a69 _ (by exact Int.le_of_lt (Int.pow_pos (by decide)))];rw[Int.natCast_ediv,a97];rfl
theorem a5T(a b:List Int):b2s (a++b)=b2s a++b2s b:=pA
theorem a7y(n:Nat):wrap .u8 (n:Int)=((n%256:Nat):Int):=by
 simp only[wrap,IntKind.bits,IntKind.signed]
 simp
theorem b0T:a1f n 4=[wrap .u8 (D0o .i64 (n:Int) (24:Int)),wrap .u8 (D0o .i64 (n:Int) (16:Int)),wrap .u8 (D0o .i64 (n:Int) (8:Int)),wrap .u8 (n:Int)]:=by
 have h:=a9m (N:=n) (o:=24) (by omega);have g:=a9m (N:=n) (o:=16) (by omega);have f:=a9m (N:=n) (o:=8) (by omega);rw[show((24:Nat):Int)=24 from rfl]at h;rw[show((16:Nat):Int)=16 from rfl]at g;rw[show((8:Nat):Int)=8 from rfl]at f;rw[h,g,f,a7y,a7y,a7y,a7y];simp only[a1f,a2o,a88,List.reverse_nil,a05,a09,a58,Nat.reduceMul,Nat.reducePow]
def a9S(c:Int):Bool:=(bits .u8 .or (96:Int) (D0o .u8 c (4:Int))==wrap .u8 (96+D0o .u8 c 4))&&(bits .u8 .or (96:Int) (bits .u8 .and c (15:Int))==wrap .u8 (96+bits .u8 .and c 15))
theorem b0U:((List.range 256).all fun n=>a9S (n:Int))=true:=by kernel_rfl
theorem b1q{c:Int}(g:0≤c)(f:c<256):[bits .u8 .or (96:Int) (D0o .u8 c (4:Int)),bits .u8 .or (96:Int) (bits .u8 .and c (15:Int))]=[wrap .u8 (96+D0o .u8 c 4),wrap .u8 (96+bits .u8 .and c 15)]:=by
 have h:=lA.1 b0U c.toNat (List.mem_range.2 (by omega));rw[show((c.toNat:Nat):Int)=c by omega]at h;simp only[a9S,bA,beq_iff_eq]at h;rw[h.1,h.2]
theorem a7j:∀(l:List Mk)(a s:Int),(∀m∈l,MkOk m)→(0≤a∧a≤1000)→(0≤s∧s≤50000)→∀b∈a4G a s l,0≤b∧b<256
 | [],_,_,_,_,_,b,hb=>by cases hb
 |m::l,a,s,h,ha,hs,b,hb=>by
  have g:=h m (by simp);obtain⟨d,e,a0,a1,k,c⟩:=g;rw[a4G]at hb;rcases mA.1 hb with hb|hb;rcases mA.1 hb with hb|hb;exact a3U 2 _ (by omega) b hb;rcases mA.1 hb with hb|hb;exact a3U 2 _ (by unfold a2N;split<;>omega) b hb;exact a3U 2 _ (by unfold a2N;split<;>omega) b hb;exact a7j l _ _ (fun x f=>h x (by simp[f])) ⟨a0,a1⟩ ⟨k,c⟩ b hb
theorem b0V{l:List Mk}(h:∀m∈l,MkOk m)(f:l.length<1000):∀b∈a4H l,0≤b∧b<256:=by
 intro b g;rw[a4H]at g;rcases mA.1 g with g|g;rw[a3W]at g;rcases mA.1 g with g|g;exact a3U 2 _ (by omega) b g;exact a7j l 0 0 h (by omega) (by omega) b g;exact a7f _ _ b g
theorem a9n{n:Int}{f g y:List Int}(d:∀b∈y,0≤b∧b<256)(j:y.length<100000):x0w a1S (n,(0:Int),f,g,y,([]:List Int),())=some (n,f,g,a1L y,()):=by
 have:=a0V (f:=a1S) (fun i=>(n,(i:Int),f,g,y,a1L (y.take i),())) y.length (b:=(n,f,g,a1L y,())) (fun i h=>?_) ?_
 exact this;unfold a1S;simp only;have e:a1L (y.take (i+1))=a1L (y.take i)++[wrap .u8 (96+D0o .u8 y[i] 4),wrap .u8 (96+bits .u8 .and y[i] 15)]:=by
  unfold a1L;rw[a06 h,a32,a33]
 have c:a13 y (a08 (i:Int)) 0=y[i]:=by rw[tN,lD,lG h];rfl
 have k:=a3X (y.take i);rw[a00]at k;have a:=d _ (a16 h);rw[decide_eq_true (show(i:Int)<((y.length:Nat):Int)by omega),decide_eq_true (show(0:Int)≤(i:Int)by omega),c,b1q a.1 a.2,a0L (by omega),e,w64 (by omega)];rfl;unfold a1S;simp only;rw[decide_eq_false (by omega),a23];rfl
def a5O:Inf:=(2,(1,1,()),(0,0,0,()),1,1,1,1,())
def pk0:Pk:=((0:Int),(5:Int),(0:Int),true,false,([(120:Int)]:List Int),())
def a9o:List Int:=((a1P ((a2l ((a2j ([pk0],0)).getD ([],0)).1).getD ([],0)).1).getD ([],0)).1
def a9p:List Int:=((a1Z [((0:Int),(5:Int),(0:Int),())]).getD ([],0)).1
def b1d:List Int:=((a2t [a5O]).getD [])++(a9o++(a1L a9p++(a1f (2*a9p.length) 4++[75,69,78,68])))
theorem a8l:PkOk 0 pk0:=⟨rfl,by decide,by decide,by decide,by decide,by decide,by decide⟩
theorem a8V:∀i∈[a5O],InfOk i:=fun i h=>by
 rw[a17]at h;subst h;exact .images 1 1 1 1 1 1 (by decide) (by decide) (by decide) (by decide) (by decide) (by decide)
theorem a3i:Woven [pk0]:=⟨fun p hp=>by rw[a17]at hp;subst hp;exact⟨0,a8l,by decide,by decide⟩,by decide,a42 ..⟩
theorem a7k:(a0G [pk0]).flatMap a0O=[((0:Int),(5:Int),(0:Int),())]:=by
 have k:(a1B pk0).length=19:=by rw[a4D];rfl
 have g:(a1B pk0).drop 252=[]:=List.drop_eq_nil_of_le (by omega);have h:a0G [pk0]=[((0:Int),true,decide ((a1B pk0).length≤252),false,(a1B pk0).take 252,())]:=by
  show a1z 0 [a1B pk0]=_;rw[a1z,a1z,a3h (a6Z pk0),g,a2E];rfl
 rw[h,a33];obtain⟨q,a,f,_⟩:=a4v a3i _ (by rw[h];exact List.mem_singleton_self _) rfl rfl;rw[a4V (q:=pk0) rfl rfl ⟨0,a8l,by decide,by decide⟩ (by rw[a78];rfl)];rfl
theorem a8J:a1Q ([a5O],[[pk0]])=some (b1d,0):=by
 have b:StrOk 8 [[pk0]]:=⟨by decide,by decide,fun i l h=>by
  cases i with
  |zero=>cases h;exact⟨fun p hp=>by rw[a17]at hp;subst hp;exact a8l,by decide,a42 ..⟩
  |succ i=>simp at h⟩
 have a:Drawn 8 [a5O] [[pk0]]:=⟨rfl,a8V,b⟩;have c:a2f [[pk0]]=some ([pk0],0):=by kernel_rfl
 have h:=a.write c a3i;rw[h];have g:a1N [a5O]=(a2t [a5O]).getD []:=by rw[a8U a8V (by decide)];rfl
 have f:a3A [pk0]=a9o:=by
  unfold a9o;rw[a4W a3i,a61,a6w a3i,a61,a5J (a6P a3i) (by have:=a8g a3i;omega),a61];rfl
 have k:a4H [((0:Int),(5:Int),(0:Int),())]=a9p:=by
  unfold a9p;rw[a6t (by rw[←a7k];exact a5p a3i) (by decide),a61]
 rw[a3Z,a7k,g,f,a3Y,k];rfl
theorem b1r:a4h ()=some true:=by
 unfold a4h;rw[show a3O ()=some a5O from by kernel_rfl];simp only[oB];rw[show a1Q (([a5O]:List Inf),([[((0:Int),(5:Int),(0:Int),true,false,([(120:Int)]:List Int),())]]:List (List Pk)))=some (b1d,0)from a8J]
 kernel_rfl
theorem a7x(x:List Int):a3P x=some true:=by
 have i:a3t x=some (x,(0:Int),()):=rfl;obtain⟨a,L,G,d,l1,e,c,-⟩:=b0J (r:=0) (t:=(x,(0:Int),())) (n:=7) ⟨by simp,by simp⟩ (by omega);rw[show((7:Nat):Int)=7 from rfl]at d;have k:Drawn 7 a L:=⟨l1,e,c⟩;obtain⟨Z,w,h,F⟩:=k.weave (by omega);have C:=c.one;have D:=c.four;have b1:=a8i h;have b2:=a8k h;have A:=a9Q k.inf (by omega);have b:=a5p h;have E:=a8j h;have m:a1P (a1m (a0G Z))=some (a3A Z,0):=a5J (a6P h) (by have:=a8g h;omega);have q:a2g (a3Z a Z)=some (a,(((a1N a).length:Nat):Int),0):=b0Q e (by omega) (by omega) (by rw[lN];omega);have u:a3p (a0G Z)=some ((a0G Z).flatMap a0O):=b1c (fun p hp=>⟨(a3z h p hp).toPgOk,a4v h p hp⟩) (by have:=a4O h;omega);have s:a1Z ((a0G Z).flatMap a0O)=some (a4H ((a0G Z).flatMap a0O),0):=a6t b (by omega);have g:=b0V b (by omega);have z:=a6u b (by omega);have B:(a3Z a Z).length=(a1N a).length+((a3A Z).length+(a3Y ((a0G Z).flatMap a0O)).length):=by rw[a3Z,lN,lN]
 unfold a3P;simp only[i,d,oB,k.write w h,q,w,a4W h,a6w h,m,u,s,bne_self_eq_false,cF];rw[decide_eq_false (show ¬ (((a1N a).length:Nat):Int)<0 by omega),decide_eq_false (show ¬ (((a1N a).length:Nat):Int) > (((a3Z a Z).length:Nat):Int)by omega)];simp only[cF,oB];generalize hI:a4H ((a0G Z).flatMap a0O)=y at g z;refine a0K (a9n g (by omega)) ?_
 have v:=a3X y;have f:∀l:List Int,(b2s l).length=l.length:=fun l=>a38 ..;simp only[v,f,a26,lN,lC,a03,←b0T];have o:a63 ((a3Z a Z).length-a08 (((a1N a).length:Nat):Int)) (a72 (a08 (((a1N a).length:Nat):Int)) (a3Z a Z))=a3A Z++a3Y ((a0G Z).flatMap a0O):=by
  rw[tN];unfold a3Z;rw[b01,a28 (by simp only[lN];omega)]
 rw[a0L (by omega),o,decide_eq_true (show(0:Int)≤(((a1N a).length:Nat):Int)by omega),decide_eq_true (show(((a1N a).length:Nat):Int)≤(((a3Z a Z).length:Nat):Int)by omega)];simp only[cT,a27];have j:b2s (a3A Z++a3Y ((a0G Z).flatMap a0O))=b2s (a3A Z)++b2s (a1L y++a1f (2*y.length) 4)++[75,69,78,68]:=by
  rw[a3Y,hI,a5T,a5T,a5T,a5T,aA,aA];rfl
 rw[j,decide_eq_true (by simp only[b0T,lC,a03];omega),decide_eq_true (by simp only[b0T,lC,a03];omega)];simp only[cT,beq_self_eq_true,b1r,oB]
end Go.Ab
