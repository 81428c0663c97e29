/- Part of the proof: QA. Conditions: as each statement tells. -/
import Derived.Test.YtlddggjghmobhaaGreatMH
noncomputable section
set_option linter.unusedSimpArgs false
set_option linter.unusedVariables false
open BitVec renaming ofInt→a91,toNat_ofInt→b06
open Bool renaming and_true→a19,not_eq_true'→a58,not_false→a68,and_self→b01
open Int renaming toNat→a11,tmod→a30,natCast_nonneg→a82,tmod_lt_of_pos→a83,toNat_of_nonneg→b02,tmod_nonneg→b23
open List renaming length_take→a00,length_drop→a01,length_pos_iff→a02,append_nil→a03,nil_append→a04,length_nil→a05,length_singleton→a06,take_succ_eq_append_getElem→a07,cons_append→a09,pairwise_append→a13,take_append_drop→a14,append_eq→a16,mem_singleton→a17,length_eq_zero_iff→a20,getD→a23,take_length→a24,getElem_mem→a26,mem_of_mem_take→a27,getElem?_of_mem→a28,take_of_length_le→a29,drop_eq_nil_iff→a31,mem_of_mem_drop→a32,flatMap_cons→a33,flatMap_append→a34,flatMap_singleton→a35,getElem?_append_right→a36,drop_eq_getElem_cons→a37,singleton_append→a38,getElem?_eq_none→a40,take_zero→a41,take→a42,length_filter_le→a43,length_set→a44,length_map→a47,getElem?_append_left→a48,flatMap_nil→a49,pairwise_singleton→a51,drop→a54,set_append_right→a57,not_mem_nil→a63,pairwise_iff_getElem→a65,getElem_append_right→a67,drop_left→a69,drop_eq_nil_of_le→a72,drop_length→a73,length→a74,headD_cons→a78,range_succ→a79,range→a80,drop_zero→a81,pairwise_cons→a84,filter_append→a85,map_cons→a86,length_range→a87,ext_getElem?→a88,mem_flatten→a89,filter_eq_nil_iff→a92,append→a93,length_replicate→a94,take_take→a95,replicate→a97,take_left→a98,mem_iff_getElem→a99,head_eq_getElem→b00,filter_eq_self→b03,set_cons_zero→b04,flatten_cons→b08,foldl_append→b09,reverse_cons→b12,take_append→b15,drop_append→b17,mem_flatMap→b20,set→b24,drop_take→b26,drop_drop→b27,mem_range→b28
open Nat renaming le_refl→a08,pow_succ→a52,min_eq_left→a56,div_lt_iff_lt_mul→a59,sub_self→a60,zero_add→a61,min_eq_right→a62,div_div_eq_div_mul→a71,pow_le_pow_right→a75,sub_zero→a90,mul_le_mul→a96,lt_of_le_of_lt→b05,add_mod_right→b14,mod_eq_of_lt→b18,strongRecOn→b21,div_le_self→b25
open Option renaming getD_some→a64,isSome_none→b07
namespace Go.Ab
variable {A P R:List Int}{b m most:Int}{i j n r:Nat}{α β σ:Type}{f:σ→Option (σ ⊕ β)}
open IntKind(wrap)
section
variable {α A σ β:Type}
def a5I(g:A→α→A ⊕ β):List α→A→A ⊕ β
 | [],a=>.inl a
 |x::r,a=>match g a x with
  |.inl a'=>a5I g r a'
  |.inr b=>.inr b
def b1X(fin:A→β):A ⊕ β→β
 |.inl a=>fin a
 |.inr b=>b
theorem a5z{f:σ→Option (σ ⊕ β)}(l:List α)(S:Nat→A→σ)(g:A→α→A ⊕ β)(I:Nat→A→Prop)(e:A→β)
  (d:∀i (h:i<l.length) a,I i a→(∀a',g a l[i]=.inl a'→f (S i a)=some (.inl (S (i+1) a'))∧I (i+1) a')∧(∀b,g a l[i]=.inr b→f (S i a)=some (.inr b)))
  (c:∀a,I l.length a→f (S l.length a)=some (.inr (e a))):∀(k i:Nat)(a:A),i+k=l.length→I i a→x0y f (S i a)=some (b1X e (a5I g (l.drop i) a))
 |0,i,a,hi,ha=>by
  obtain rfl:i=l.length:=by omega
  rw[a73];exact a1e (c a ha)
 |k+1,i,a,hi,ha=>by
  have j:i<l.length:=by omega
  rw[a37 j];obtain⟨m,n⟩:=d i j a ha;simp only[a5I];cases hg:g a l[i]with
  |inl a'=>
   obtain⟨o,p⟩:=m a' hg;rw[a1x o];exact a5z l S g I e d c k (i+1) a' (by omega) p
  |inr b=>exact a1e (n b hg)
theorem b1l{f:σ→Option (σ ⊕ β)}(l:List α)(S:Nat→A→σ)(g:A→α→A ⊕ β)(I:Nat→A→Prop)(c:A→β)
  (e:∀i (h:i<l.length) a,I i a→(∀a',g a l[i]=.inl a'→f (S i a)=some (.inl (S (i+1) a'))∧I (i+1) a')∧(∀b,g a l[i]=.inr b→f (S i a)=some (.inr b)))
  (d:∀a,I l.length a→f (S l.length a)=some (.inr (c a))){a:A}(j:I 0 a):x0y f (S 0 a)=some (b1X c (a5I g l a)):=by
 have:=a5z l S g I c e d l.length 0 a (by omega) j
 rwa [a81]at this
end
theorem a8F{l:List α}(h:i<l.length):n0p l (i:Int)=some l[i]:=by
 unfold n0p;rw[if_pos (a82 i),tN,lG h]
theorem a7L(h:i<1000000):wrap .i64 ((i:Int)+1)=((i+1:Nat):Int):=by
 rw[wrap64 (by omega)];omega
theorem dlt(h:i<n):decide ((i:Int)<(n:Int))=true:=by simp;omega
theorem dge(n:Nat):decide ((n:Int)<(n:Int))=false:=by simp
theorem b1Y(I:Nat→σ→Prop)(Q:β→Prop)(h:∀i s,I i s→(∃s' j,f s=some (.inl s')∧j<i∧I j s')∨(∃b,f s=some (.inr b)∧Q b)):∀(i:Nat)(s:σ),I i s→∃b,x0y f s=some b∧Q b:=by
 intro i
 induction i using b21 with
 |_ i ih=>
  intro s d;rcases h i s d with⟨s',j,g,a,c⟩|⟨b,g,a⟩;rw[a1x g];exact ih j a s' c;exact⟨b,a1e g,a⟩
theorem a1O(I:Nat→σ→Prop)(Q:β→Prop){R:Prop}(i:Nat)(s:σ)(g:I i s)(d:∀b,x0y f s=some b→Q b→R)(h:∀i s,I i s→(∃s' j,f s=some (.inl s')∧j<i∧I j s')∨(∃b,f s=some (.inr b)∧Q b)):R:=by
 obtain⟨b,a,c⟩:=b1Y I Q h i s g;exact d b a c
theorem w64{n:Int}(h:-9223372036854775808≤n∧n<9223372036854775808):wrap .i64 n=n:=by
 simp only[wrap,IntKind.bits,IntKind.signed]
 simp
 omega
theorem wu8(n:Int):0≤wrap .u8 n∧wrap .u8 n<256:=by
 simp only[wrap,IntKind.bits,IntKind.signed]
 simp
 omega
abbrev a4o:Type:=List Int×(Int×Unit)
variable {t:a4o}
def a1u(r:Nat)(t:a4o):Prop:=0≤t.2.1∧t.2.1+(r:Int)≤1000000
theorem a1u.mono{r':Nat}(h:a1u r t)(g:r'≤r):a1u r' t:=⟨h.1,by have:=h.2;omega⟩
theorem b1m(x:Int):∃v,a2h (x,(0:Int),(1073741824:Int))=some v∧0≤v:=by
 have f:wrap .i64 ((wrap .i64 ((1073741824:Int)-0))+(1:Int))=1073741825:=by decide
 unfold a2h;dsimp only
 by_cases h0:x≥0
 rw[decide_eq_true h0];simp only[cT,oB]
 by_cases h1:x≤1073741824
 rw[decide_eq_true h1];exact⟨x,rfl,h0⟩;rw[decide_eq_false h1];simp only[cF];rw[f];have b:0≤a30 x 1073741825:=b23 _ h0;have g:a30 x 1073741825<1073741825:=a83 _ (by decide);rw[decide_eq_false (show ¬ a30 x 1073741825<0 by omega)];have h:((1073741825:Int)==0)=false:=by decide
 simp only[h,cF,oB];refine⟨_,rfl,?_⟩;rw[w64 (by omega)];omega;rw[decide_eq_false h0];simp only[cF,oB];have g:-1073741825<a30 x 1073741825:=Int.lt_tmod_of_pos _ (by decide);have a:a30 x 1073741825<1073741825:=a83 _ (by decide);rw[f];have h:((1073741825:Int)==0)=false:=by decide
 simp only[h,cF]
 by_cases hn:a30 x 1073741825<0
 rw[decide_eq_true hn];simp only[cT,oB];refine⟨_,rfl,?_⟩;simp only[w64 (show -9223372036854775808≤a30 x 1073741825+1073741824∧a30 x 1073741825+1073741824<9223372036854775808 by omega)];simp only[w64 (show -9223372036854775808≤a30 x 1073741825+1073741824-0∧a30 x 1073741825+1073741824-0<9223372036854775808 by omega)];simp only[w64 (show -9223372036854775808≤a30 x 1073741825+1073741824-0+1∧a30 x 1073741825+1073741824-0+1<9223372036854775808 by omega)];rw[w64 (by omega)];omega;rw[decide_eq_false hn];simp only[cF,oB];refine⟨_,rfl,?_⟩;rw[w64 (by omega)];omega
theorem a1p{n:Int}(d:a1u (r+1) t)(f:0<n):∃v t',a0A (t,n)=some (v,t')∧0≤v∧v<n∧a1u r t':=by
 obtain⟨g,i⟩:=d;unfold a0A
 by_cases hc:t.2.1≥(t.1.length:Int)
 simp only[decide_eq_true hc,cT,oB];exact⟨0,t,rfl,Int.le_refl _,f,g,by omega⟩;simp only[decide_eq_false hc,cF,oB,decide_eq_false (show ¬ n<1 by omega)];have a:wrap .i64 (t.2.1+1)=t.2.1+1:=w64 (by omega);have b:wrap .i64 (t.2.1+1-1)=t.2.1:=by rw[w64 (by omega)];omega
 rw[a,b];obtain⟨y,e⟩:∃y,n0p t.1 t.2.1=some y:=by
  unfold n0p
  have:t.2.1.toNat<t.1.length:=by omega
  exact⟨_,by rw[if_pos g,lG this]⟩
 rw[e];obtain⟨v,hv,h⟩:=b1m y;simp only[oB,hv];have c:(n==0)=false:=by simp;omega
 simp only[c,cF];exact⟨_,_,rfl,b23 _ h,a83 _ f,by show 0≤t.2.1+1;omega,by show t.2.1+1+(r:Int)≤1000000;omega⟩
theorem b1Z(r:Int×Unit):∃v r',a2K (r,(256:Int))=some (v,r'):=⟨_,_,rfl⟩
theorem a0F(h:n<2147483648):lim n=true:=by
 unfold lim;exact decide_eq_true (by omega)
theorem b0J{n:Int}(A:a1u (r+2) t)(G:0≤n∧n≤1000):∃b t',a1L (t,n)=some (b,t')∧(b.length:Int)≤n∧(∀v∈b,0≤v∧v<256)∧a1u r t':=by
 unfold a1L;obtain⟨C,I,o,-,-,s⟩:=a1p A (show(0:Int)<1048576 by decide);have q:wrap .i64 (n+1)=n+1:=w64 (by omega);obtain⟨m,t2,p,D,b2,x⟩:=a1p s (show(0:Int)<n+1 by omega);simp only[o,oB,q,p];refine a1O (f:=a1Y) (fun i h=>h.1=(i:Int)∧(h.2.1.length:Int)+i≤n∧(∀v∈h.2.1,0≤v∧v<256)∧h.2.2.2.1=t2)
  (fun w=>(w.1.length:Int)≤n∧(∀v∈w.1,0≤v∧v<256)∧w.2.1=t2) m.toNat (m,[],(C,()),t2,()) ⟨by simp only;omega,by simp only[a05];omega,by simp,rfl⟩ (fun w B y=>?_) (fun i h a=>?_)
 obtain⟨c,d,e⟩:=y;rw[B];exact⟨_,_,rfl,c,d,by show a1u r w.2.1;rw[e];exact x⟩;obtain⟨E,F,j,l⟩:=a;unfold a1Y
 by_cases hp:h.1 > 0
 left;obtain⟨v,H,z⟩:=b1Z h.2.2.1;rw[decide_eq_true hp,z];simp only[cT,oB];rw[a0F (by omega)];refine⟨_,i-1,rfl,by omega,?_,?_,?_,l⟩;show wrap .i64 (h.1-1)=_;rw[w64 (by omega)];omega;show((h.2.1.append [_]).length:Int)+_≤n;simp only[a16,lN,a06];omega;intro u g;rcases mA.1 (show u∈h.2.1++[_]from g)with g|g;exact j u g;rw[a17]at g;rw[g];exact wu8 _;right;rw[decide_eq_false hp];exact⟨_,rfl,by show(h.2.1.length:Int)≤n;omega,j,l⟩
abbrev Pk:Type:=Int×(Int×(Int×(Bool×(Bool×(List Int×Unit)))))
variable {L:List (List Pk)}{X Y Z s:List Pk}{q x y z:Pk}
structure PkOk (s:Int) (p:Pk):Prop where
 st:p.1=s
 at0:0≤p.2.1
 at1:p.2.1≤1000
 len0:0≤p.2.2.1
 len1:p.2.2.1≤50
 dat:p.2.2.2.2.2.1.length≤900
 byt:∀v∈p.2.2.2.2.2.1,0≤v∧v<256
structure PksOk (s:Int) (n:Nat) (l:List Pk):Prop where
 ok:∀p∈l,PkOk s p
 len:l.length≤n
 asc:l.Pairwise fun p q=>p.2.1≤q.2.1
theorem a8G{s:Int}(ht:a1u (r+58) t)(hn:n≤8):∃l t',a1E (t,s,(n:Int))=some (l,t')∧PksOk s n l∧a1u r t':=by
 unfold a1E;obtain⟨v1,t1,G,a1,b1,S⟩:=a1p ht (show(0:Int)<40 by decide);have R:wrap .i64 ((n:Int)+1)=n+1:=w64 (by omega);obtain⟨z,t2,H,a2,b2,T⟩:=a1p S (show(0:Int)<(n:Int)+1 by omega);simp only[G,oB,R,H];refine a1O (f:=a1S) (fun i g=>g.1=s∧0≤g.2.1∧g.2.1+60*i≤40+60*(n:Int)∧g.2.2.1=(i:Int)∧(g.2.2.2.1.length:Int)+i≤n∧(∀p∈g.2.2.2.1,PkOk s p∧p.2.1≤g.2.1)∧g.2.2.2.1.Pairwise (fun p q=>p.2.1≤q.2.1)∧a1u (r+7*i) g.2.2.2.2.1)
  (fun w=>PksOk s n w.1∧a1u r w.2.1) z.toNat (s,v1,z,[],t2,()) ⟨rfl,a1,by simp only;omega,by simp only;omega,by simp only[a05];omega,by simp,.nil,T.mono (by omega)⟩ (fun w hw hQ=>?_) (fun i g m=>?_)
 obtain⟨o,u⟩:=hQ;rw[hw];exact⟨_,_,rfl,o,u⟩;obtain⟨v,F,c3,c4,c5,j,x,y⟩:=m;unfold a1S
 by_cases hp:g.2.2.1 > 0
 left;obtain⟨A,t3,I,B,b3,U⟩:=a1p (r:=r+7*(i-1)+6) (y.mono (by omega)) (show(0:Int)<50 by decide);obtain⟨x4,t4,K,a4,b4,V⟩:=a1p U (show(0:Int)<3 by decide);obtain⟨x5,t5,L,a5,b5,W⟩:=a1p V (show(0:Int)<8 by decide);obtain⟨c,t6,M,C,D,X⟩:=a1p W (show(0:Int)<3 by decide);have hd:0≤a23 ([20,300,900]:List Int) (a11 c) 0∧a23 ([20,300,900]:List Int) (a11 c) 0≤900:=by
  have:a11 c=0∨a11 c=1∨a11 c=2:=by omega
  rcases this with h|h|h<;>rw[h]<;>decide
 obtain⟨b,t7,N,a7,E,Y⟩:=b0J X (n:=a23 ([20,300,900]:List Int) (a11 c) 0) (by omega);obtain⟨e,t8,O,a8,b8,Z⟩:=a1p Y (show(0:Int)<60 by decide);rw[decide_eq_true hp];simp only[cT,oB,I,K,L,M,N,O,decide_eq_true C,decide_eq_true D,a19];rw[a0F (by omega)];have P:wrap .i64 (g.2.1+e)=g.2.1+e:=w64 (by omega);have Q:wrap .i64 (g.2.2.1-1)=g.2.2.1-1:=w64 (by omega);rw[P,Q];have d:PkOk s (g.1,g.2.1,A,decide (x4 > 0),x5==7,b,()):=⟨v,F,by show g.2.1≤1000;omega,B,by show A≤50;omega,by show b.length≤900;omega,E⟩;refine⟨_,i-1,rfl,by omega,v,by show 0≤g.2.1+e;omega,by show g.2.1+e+60*((i-1:Nat):Int)≤_;omega,by show g.2.2.1-1=_;omega,?_,?_,?_,Z⟩;show((g.2.2.2.1.append [_]).length:Int)+_≤n;simp only[a16,lN,a06];omega;intro p a;show PkOk s p∧p.2.1≤g.2.1+e;rcases mA.1 (show p∈g.2.2.2.1++[_]from a)with a|a
 have:=j p a
 exact⟨this.1,by omega⟩;rw[a17]at a;subst a;exact⟨d,by show g.2.1≤_;omega⟩;show(g.2.2.2.1++[_]).Pairwise _;refine a13.2 ⟨x,a51 ..,fun p hp q a=>?_⟩;rw[a17]at a;subst a;exact(j p hp).2;right;rw[decide_eq_false hp];exact⟨_,rfl,⟨fun p hp=>(j p hp).1,by show g.2.2.2.1.length≤n;omega,x⟩,y.mono (by omega)⟩
def klt(p q:Pk):Bool:=decide (p.2.1<q.2.1) || (decide (p.2.1=q.2.1)&&decide (p.1<q.1))
def sg(a b:Int):Int:=bif decide (a<b)then -1 else(bif decide (a > b)then 1 else 0)
theorem b3Q(a b:Int):a2i (a,b)=some (sg a b):=by
 simp only[a2i,a2C,oB,bne_self_eq_false,cF,sg];cases decide (a<b)<;>cases decide (a > b)<;>rfl
theorem b4Y(a b:Int):a2D (a,b)=some (sg a b):=by
 simp only[a2D,a3c,oB,bne_self_eq_false,cF,sg];cases decide (a<b)<;>cases decide (a > b)<;>rfl
theorem a8H(a b:Int):(a<b∧sg a b=-1)∨(b<a∧sg a b=1)∨(a=b∧sg a b=0):=by
 unfold sg
 by_cases h1:a<b
 rw[decide_eq_true h1];exact .inl ⟨h1,rfl⟩;rw[decide_eq_false h1]
 by_cases h2:a > b
 rw[decide_eq_true h2];exact .inr (.inl ⟨h2,rfl⟩);rw[decide_eq_false h2];exact .inr (.inr ⟨by omega,rfl⟩)
theorem b3o(a b:Int)(h:a=-1∨a=1∨a=0)(g:b=-1∨b=1∨b=0):a4O [a,b]=some (if a=0 then b else a):=by
 rcases h with rfl|rfl|rfl<;>rcases g with rfl|rfl|rfl<;>kernel_rfl
theorem a7j(p q:Pk):∃c,a2e (p,q)=some c∧decide (c<0)=klt p q:=by
 simp only[a2e,b3Q,b4Y,oB];obtain⟨f,h⟩|⟨f,h⟩|⟨f,h⟩:=a8H p.2.1 q.2.1<;>obtain⟨a,g⟩|⟨a,g⟩|⟨a,g⟩:=a8H p.1 q.1 <;>
  (rw[h,g,b3o _ _ (by decide) (by decide)];refine⟨_,rfl,?_⟩;simp only[klt,oB];(try rw[decide_eq_true f]);simp[show ¬ q.2.1<p.2.1∨True from .inr trivial];try omega)
section
variable {α:Type}
theorem a4K(P T:List α)(x z:α)(h:i=P.length):a23 (P++x::T) i z=x:=by
 subst h;rw[lD,a36 (a08 _),a60];rfl
theorem a7k(P Q R:List α)(x y z:α)(h:j=P.length+1+Q.length):a23 (P++x::(Q++y::R)) j z=y:=by
 have:=a4K (P++x::Q) R y z (i:=j) (by simp;omega)
 simpa using this
theorem a7F(P Q R:List α)(x y:α)(h:i=P.length)(g:j=P.length+1+Q.length):b24 (b24 (P++x::(Q++y::R)) i y) j x=P++y::(Q++x::R):=by
 subst h g;rw[a57 _ _ (a08 _),a60];simp only[b04];rw[a57 _ _ (by omega)];rw[show P.length+1+Q.length-P.length=Q.length+1 by omega];simp only[List.set_cons_succ];rw[a57 _ _ (a08 _),a60];rfl
end
theorem a5b{p M:List Pk}(h:X.length=Y.length)(t:(p++(X++(M++(Y++s)))).length<1000000){a n:Int}(w:a=p.length)(x:b=(p.length+X.length+M.length:Nat))(y:n=X.length):
  a0L (p++(X++(M++(Y++s))),a,b,n,())=some (p++(Y++(M++(X++s)))):=by
 simp only[lN]at t;unfold a0L;simp only
 have:=a0K (f:=a1d) (fun k=>(a,b,n,(k:Int),p++((Y.take k++X.drop k)++(M++((X.take k++Y.drop k)++s))),())) X.length (b:=(p++(Y++(M++(X++s))),())) (fun k j=>?_) ?_
 simp only[a41,a81,a04]at this;rw[show((0:Nat):Int)=0 from rfl]at this;rw[this];rfl;unfold a1d;simp only;have u:wrap .i64 (b+(k:Int))=b+k:=w64 (by omega);have w2:wrap .i64 (a+(k:Int))=a+k:=w64 (by omega);have v:wrap .i64 ((k:Int)+1)=((k+1:Nat):Int):=w64 (by omega);have g:k<Y.length:=by omega
 have q:X.drop k=X[k]::X.drop (k+1):=a37 j;have r:Y.drop k=Y[k]::Y.drop (k+1):=a37 g;have e:p++((Y.take k++X.drop k)++(M++((X.take k++Y.drop k)++s)))=(p++Y.take k)++X[k]::((X.drop (k+1)++(M++X.take k))++Y[k]::(Y.drop (k+1)++s)):=by
  rw[q,r];simp only[aA,a09,a04]
 have l:p++((Y.take (k+1)++X.drop (k+1))++(M++((X.take (k+1)++Y.drop (k+1))++s)))=(p++Y.take k)++Y[k]::((X.drop (k+1)++(M++X.take k))++X[k]::(Y.drop (k+1)++s)):=by
  rw[a07 j,a07 g];simp only[aA,a09,a04]
 have d:a11 (a+k)=(p++Y.take k).length:=by simp;omega
 have i:a11 (b+k)=(p++Y.take k).length+1+(X.drop (k+1)++(M++X.take k)).length:=by simp;omega
 rw[e,l,u,w2,v,decide_eq_true (show(k:Int)<n by omega)];rw[a4K _ _ _ _ d,a7k _ _ _ _ _ _ i,a7F _ _ _ _ _ d i];have c:((p++Y.take k)++X[k]::((X.drop (k+1)++(M++X.take k))++Y[k]::(Y.drop (k+1)++s))).length=p.length+(X.length+(M.length+(Y.length+s.length))):=by simp;omega
 simp only[a44,c];rw[decide_eq_true (show 0≤b+(k:Int)by omega),decide_eq_true (show 0≤a+(k:Int)by omega),decide_eq_true (show a+(k:Int)<((p.length+(X.length+(M.length+(Y.length+s.length))):Nat):Int)by omega),decide_eq_true (show b+(k:Int)<((p.length+(X.length+(M.length+(Y.length+s.length))):Nat):Int)by omega)];rfl;unfold a1d;simp only;rw[decide_eq_false (by omega)];have m:Y.take X.length=Y:=by rw[h];exact a24
 have o:Y.drop X.length=[]:=by rw[h];exact a73
 simp only[cF,m,o,a24,a73,a03]
theorem b1n{p:List Pk}(t:X≠[])(u:Y≠[])(z:(p++(X++(Y++s))).length<1000000){a:Int}(H:a=p.length)(K:m=(p.length+X.length:Nat))(I:b=(p.length+X.length+Y.length:Nat)):
  a1q (p++(X++(Y++s)),a,m,b,())=some (p++(Y++(X++s))):=by
 simp only[lN]at z;have O:=a02.2 t;have P:=a02.2 u;unfold a1q;simp only;have D:wrap .i64 (m-a)=(X.length:Int):=by rw[w64 (by omega)];omega
 have w2:wrap .i64 (b-m)=(Y.length:Int):=by rw[w64 (by omega)];omega
 rw[D,w2];refine a1O (f:=a1y) (fun k v=>∃A c g B:List Pk,v=(m,(),(c.length:Int),(g.length:Int),p++(A++(c++(g++(B++s)))),())∧A.length+c.length=X.length∧g.length+B.length=Y.length∧A++(g++(c++B))=Y++X∧c≠[]∧g≠[]∧k=c.length+g.length)
  (fun w=>∃A c g B:List Pk,w=(m,(),(c.length:Int),p++(A++(c++(g++(B++s)))),())∧A.length+c.length=X.length∧g.length+B.length=Y.length∧A++(g++(c++B))=Y++X∧c.length=g.length)
  (X.length+Y.length) (m,(),(X.length:Int),(Y.length:Int),p++(X++(Y++s)),()) ⟨[],X,Y,[],rfl,by simp,by simp,by simp,t,u,rfl⟩ (fun w C y=>?_) (fun k v l=>?_)
 obtain⟨A,c,g,B,rfl,q,r,d,j⟩:=y;rw[C];simp only[oB];have i:wrap .i64 (m-(c.length:Int))=m-c.length:=w64 (by omega)
 have:=a5b (p:=p++A) (X:=c) (M:=[]) (Y:=g) (s:=B++s) j (by simp only[lN,a05];omega) (a:=m-c.length) (b:=m) (n:=c.length) (by simp only[lN];omega) (by simp only[lN,a05];omega) rfl
 rw[i];simp only[aA,a04]at this;rw[this];simp only[oB];have e:p++(A++(g++(c++(B++s))))=p++((A++(g++(c++B)))++s):=by simp only[aA]
 rw[e,d];simp only[aA];obtain⟨A,c,g,B,rfl,q,r,d,j,x,G⟩:=l;have L:=a02.2 j;have N:=a02.2 x;unfold a1y;simp only
 by_cases hij:c.length=g.length
 right
 have:((c.length:Int) != (g.length:Int))=false:=by simp[hij]
 rw[this];exact⟨_,rfl,A,c,g,B,rfl,q,r,d,hij⟩;left
 have:((c.length:Int) != (g.length:Int))=true:=by simp;omega
 rw[this];have i:wrap .i64 (m-(c.length:Int))=m-c.length:=w64 (by omega)
 by_cases hgt:c.length > g.length
 rw[decide_eq_true (show(c.length:Int) > (g.length:Int)by omega)];simp only[cT];have F:c=c.take g.length++c.drop g.length:=(a14 _ _).symm
 have:=a5b (p:=p++A) (X:=c.take g.length) (M:=c.drop g.length) (Y:=g) (s:=B++s) (by simp;omega) (by simp only[lN,a00,a01];omega) (a:=m-c.length) (b:=m) (n:=g.length) (by simp only[lN];omega) (by simp only[lN,a00,a01];omega) (by simp;omega)
 simp only[aA]at this;rw[←aA (c.take g.length),a14]at this;rw[i,this];simp only[oB];have o:wrap .i64 ((c.length:Int)-g.length)=((c.drop g.length).length:Int):=by rw[w64 (by omega),a01];omega
 rw[o];refine⟨_,(c.drop g.length).length+g.length,rfl,by simp only[a01];omega,A++g,c.drop g.length,c.take g.length,B,?_,?_,?_,?_,?_,?_,?_⟩;rw[show(c.take g.length).length=g.length by simp;omega];simp only[aA];simp only[lN,a01];omega;simp only[a00];omega;rw[←d];simp only[aA];rw[←aA (c.take g.length),a14];intro h;have:=congrArg a74 h;simp only[a00,a01,a05]at this;omega;intro h;have:=congrArg a74 h;simp only[a00,a01,a05]at this;omega;simp only[a00,a01];omega;rw[decide_eq_false (show ¬ (c.length:Int) > (g.length:Int)by omega)];simp only[cF];have E:wrap .i64 ((wrap .i64 (m+(g.length:Int)))-c.length)=m+g.length-c.length:=by rw[w64 (n:=m+g.length) (by omega),w64 (by omega)]
 have:=a5b (p:=p++A) (X:=c) (M:=g.take (g.length-c.length)) (Y:=g.drop (g.length-c.length)) (s:=B++s) (by simp;omega) (by simp only[lN,a00,a01];omega) (a:=m-c.length) (b:=m+g.length-c.length) (n:=c.length) (by simp only[lN];omega) (by simp only[lN,a00,a01];omega) rfl
 simp only[aA]at this;rw[←aA (g.take _) (g.drop _) (B++s),a14]at this;rw[i,E,this];simp only[oB];have o:wrap .i64 ((g.length:Int)-c.length)=((g.take (g.length-c.length)).length:Int):=by rw[w64 (by omega),a00];omega
 rw[o];refine⟨_,c.length+(g.take (g.length-c.length)).length,rfl,by simp only[a00];omega,A,g.drop (g.length-c.length),g.take (g.length-c.length),c++B,?_,?_,?_,?_,?_,?_,?_⟩;rw[show(g.drop (g.length-c.length)).length=c.length by simp;omega];simp only[aA];simp only[a01];omega;simp only[a00,lN];omega;rw[←d];rw[←aA (g.take _) (g.drop _),a14];intro h;have:=congrArg a74 h;simp only[a00,a01,a05]at this;omega;intro h;have:=congrArg a74 h;simp only[a00,a01,a05]at this;omega;simp only[a00,a01];omega
theorem a5A(p q:Pk):klt p q=true↔p.2.1<q.2.1∨(p.2.1=q.2.1∧p.1<q.1):=by simp[klt]
theorem a5B(p q:Pk):klt p q=false↔¬ (p.2.1<q.2.1∨(p.2.1=q.2.1∧p.1<q.1)):=by rw[←a5A,Bool.not_eq_true]
theorem a4d(h:klt y x=false)(g:klt z y=false):klt z x=false:=by
 rw[a5B]at *;omega
theorem b3R(g:klt x y=true)(h:klt z y=false):klt x z=true:=by
 rw[a5A]at *;rw[a5B]at h;omega
theorem b2z(h:klt y x=false)(g:klt y z=true):klt x z=true:=by
 rw[a5A]at *;rw[a5B]at h;omega
theorem a6t(h:klt x y=true):klt y x=false:=by
 rw[a5B];rw[a5A]at h;omega
def Asc(l:List Pk):Prop:=l.Pairwise fun x y=>klt y x=false
inductive Stb:List Pk→List Pk→Prop where
 |refl (l):Stb l l
 |swap (p:List Pk) (x y:Pk) (s:List Pk) (h:klt y x=true):Stb (p++x::y::s) (p++y::x::s)
 |trans {a b c}:Stb a b→Stb b c→Stb a c
theorem Stb.perm{a b:List Pk}(h:Stb a b):b.Perm a:=by
 induction h with
 |refl=>exact .refl _
 |swap p x y s _=>exact(List.Perm.swap x y s).append_left p
 |trans _ _ h1 h2=>exact h2.trans h1
theorem Stb.ctx{a b:List Pk}(h:Stb a b)(p s:List Pk):Stb (p++(a++s)) (p++(b++s)):=by
 induction h with
 |refl=>exact .refl _
 |swap q x y t h=>
  have:=Stb.swap (p++q) x y (t++s) h
  simpa only[aA,a09]using this
 |trans _ _ h1 h2=>exact h1.trans h2
theorem Stb.past(x:Pk):∀(Y:List Pk),(∀y∈Y,klt y x=true)→Stb (x::Y) (Y++[x])
 | [],_=>.refl _
 |y::Y,h=>by
  have f:=Stb.swap [] x y Y (h y (by simp));have g:=(Stb.past x Y fun z a=>h z (by simp[a])).ctx [y] [];simp only[a03]at g;exact f.trans g
theorem Stb.blocks:∀(X Y:List Pk),(∀x∈X,∀y∈Y,klt y x=true)→Stb (X++Y) (Y++X)
 | [],Y,_=>by rw[a03];exact .refl _
 |x::X,Y,h=>by
  have g:=(Stb.blocks X Y fun z a=>h z (by simp[a])).ctx [x] [];have f:=(Stb.past x Y (h x (by simp))).ctx [] X;simp only[a03,a04,aA,a09]at g f;exact g.trans f
theorem a7G(S:Nat→Nat→σ)(E:Nat→β)(P:Nat→Bool)(lo b:Nat)(mono:∀h k,lo≤k→k≤h→h<b→P h=true→P k=true)(step:∀i j,lo≤i→i<j→j≤b→f (S i j)=some (.inl (bif P ((i+j) / 2)then S ((i+j) / 2+1) j else S i ((i+j) / 2))))(e:∀i,lo≤i→i≤b→f (S i i)=some (.inr (E i))):
  ∀(n i j:Nat),j=i+n→lo≤i→j≤b→(∀k,lo≤k→k<i→P k=true)→(∀k,j≤k→k<b→P k=false)→
  ∃c,lo≤c∧c≤b∧x0y f (S i j)=some (E c)∧(∀k,lo≤k→k<c→P k=true)∧(∀k,c≤k→k<b→P k=false):=by
 intro n
 induction n using b21 with
 |_ n ih=>
  intro i j q g a m o
  by_cases hn:n=0
  obtain rfl:i=j:=by omega
  exact⟨i,g,a,a1e (e i g a),m,o⟩
  ·have p:=step i j g (by omega) a;rw[a1x p];cases hP:P ((i+j) / 2)with
   |true=>
    exact ih (j-((i+j) / 2+1)) (by omega) _ _ (by omega) (by omega) a (fun k d l=>mono _ k d (by omega) (by omega) hP) o
   |false=>
    refine ih ((i+j) / 2-i) (by omega) _ _ (by omega) g (by omega) m fun k d l=>?_
    cases hk:P k with
    |false=>rfl
    |true=>
     have:=mono k ((i+j) / 2) (by omega) d l hk
     rw[hP]at this;cases this
theorem a6u(h:i+j<2147483648):wrap .i64 (D0r .u64 (wrap .u64 (wrap .i64 ((i:Int)+(j:Int)))) (1:Int))=(((i+j) / 2:Nat):Int):=by
 rw[w64 (n:=(i:Int)+j) (by omega)];have g:wrap .u64 ((i:Int)+(j:Int))=((i+j:Nat):Int):=by
  simp only[wrap,IntKind.bits,IntKind.signed]
  simp
  omega
 rw[g];have f:D0r .u64 ((i+j:Nat):Int) (1:Int)=(((i+j) / 2:Nat):Int):=by
  unfold D0r;show Int.fdiv _ 2=_;rw[Int.fdiv_eq_ediv_of_nonneg _ (by decide)];omega
 rw[f,w64 (by omega)]
theorem b2E(x:Pk):klt x x=false:=by rw[a5B];omega
theorem a4e(h:Asc Y)(g:i≤j)(f:j<Y.length):klt Y[j] (Y[i]'(by omega))=false:=by
 by_cases e:i=j
 subst e;exact b2E _;exact a65.1 h i j (by omega) f (by omega)
theorem a5J{q:List Pk}{k t:Nat}(h:k=q.length+t)(g:t<Y.length):a23 (q++(Y++s)) k z=Y[t]:=by
 subst h;rw[lD,a36 (by omega),a48 (by omega),show q.length+t-q.length=t by omega,lG g];rfl
theorem a8I(P Q R:List α)(x y:α)(h:i=P.length)(g:j=P.length+1+Q.length):b24 (b24 (P++x::(Q++y::R)) j x) i y=P++y::(Q++x::R):=by
 rw[List.set_comm _ _ (by omega)];exact a7F P Q R x y h g
theorem a5K(h:y∈Y.take n):∃t,∃h:t<Y.length,t<n∧Y[t]=y:=by
 obtain⟨t,g,e⟩:=a99.1 h;rw[a00]at g;rw[List.getElem_take]at e;exact⟨t,by omega,by omega,e⟩
theorem a5L(h:y∈Y.drop n):∃t,∃h:t<Y.length,n≤t∧Y[t]=y:=by
 obtain⟨t,g,e⟩:=a99.1 h;rw[a01]at g;rw[List.getElem_drop]at e;exact⟨n+t,by omega,by omega,e⟩
theorem b4Z(T:Nat){p:List Pk}(O:Asc Y)(hl:(p++([x]++(Y++s))).length<1000000){a:Int}(P:a=p.length)(hm:m=(p.length+1:Nat))(V:b=(p.length+1+Y.length:Nat)):
  ∃Z,a0B (T+1) (p++([x]++(Y++s)),a,m,b,())=some (p++(Z++s))∧Asc Z∧Stb ([x]++Y) Z:=by
 simp only[lN,a06]at hl;have I:a23 (p++([x]++(Y++s))) p.length ((0:Int),(0:Int),(0:Int),false,false,([]:(List Int)),())=x:=a4K p (Y++s) x _ rfl;have d:∀t (A:t<Y.length),a23 (p++([x]++(Y++s))) (p.length+1+t) ((0:Int),(0:Int),(0:Int),false,false,([]:(List Int)),())=Y[t]:=fun t A=>by
  rw[←aA];exact a5J (q:=p++[x]) (by simp) A
 obtain⟨c,W,X,G,E,F⟩:=a7G (f:=a1h) (fun i j=>(a,(),(i:Int),(j:Int),p++([x]++(Y++s)),())) (fun c=>(a,(c:Int),p++([x]++(Y++s)),()))
  (fun k=>klt (a23 (p++([x]++(Y++s))) k ((0:Int),(0:Int),(0:Int),false,false,([]:(List Int)),())) x) (p.length+1) (p.length+1+Y.length)
  (fun h k o r D N=>by
   obtain⟨t,rfl⟩:∃t,h=p.length+1+t:=⟨h-(p.length+1),by omega⟩;obtain⟨u,rfl⟩:∃u,k=p.length+1+u:=⟨k-(p.length+1),by omega⟩;rw[d t (by omega)]at N;rw[d u (by omega)];exact b2z (a4e O (show u≤t by omega) (by omega)) N)
  (fun i j o r D=>by
   unfold a1h;simp only;rw[a6u (by omega),decide_eq_true (show(i:Int)<(j:Int)by omega)];obtain⟨v,hv,H⟩:=a7j (a23 (p++([x]++(Y++s))) ((i+j) / 2) ((0:Int),(0:Int),(0:Int),false,false,([]:(List Int)),())) x;have g:(p++([x]++(Y++s))).length=p.length+(1+(Y.length+s.length)):=by simp only[lN,a06]
   rw[g,decide_eq_true (show(0:Int)≤(((i+j) / 2:Nat):Int)by omega),decide_eq_true (show(((i+j) / 2:Nat):Int)<((p.length+(1+(Y.length+s.length)):Nat):Int)by omega),decide_eq_true (show 0≤a by omega),decide_eq_true (show a<((p.length+(1+(Y.length+s.length)):Nat):Int)by omega)];simp only[a19,cT,tN,P,I,hv,oB,H];cases klt (a23 (p++([x]++(Y++s))) ((i+j) / 2) ((0:Int),(0:Int),(0:Int),false,false,([]:(List Int)),())) x with
   |true=>
    simp only[cT];rw[w64 (by omega)];rfl
   |false=>rfl)
  (fun i o r=>by
   unfold a1h;simp only;rw[decide_eq_false (by omega)];rfl) Y.length _ _ rfl (a08 _) (a08 _) (fun k o r=>by omega) (fun k o r=>by omega)
 obtain⟨n,rfl⟩:∃n,c=p.length+1+n:=⟨c-(p.length+1),by omega⟩;have hn:n≤Y.length:=by omega
 have M:∀y∈Y.take n,klt y x=true:=fun y w=>by
  obtain⟨t,A,l,rfl⟩:=a5K w
  have:=E (p.length+1+t) (by omega) (by omega)
  rwa [d t A]at this
 have U:∀y∈Y.drop n,klt y x=false:=fun y w=>by
  obtain⟨t,A,l,rfl⟩:=a5L w
  have:=F (p.length+1+t) (by omega) (by omega)
  rwa [d t A]at this
 have C:Y.take n++Y.drop n=Y:=a14 n Y;refine⟨Y.take n++x::Y.drop n,?_,?_,?_⟩;unfold a0B;simp only;rw[show wrap .i64 (m-a)=1 by rw[w64 (by omega)];omega];simp only[beq_self_eq_true,cT];rw[hm,V,G];simp only[oB]
 have:=a0K (f:=a1i) (fun t=>(((p.length+1+n:Nat):Int),((p.length+t:Nat):Int),p++(((Y.take n).take t++x::(Y.take n).drop t)++(Y.drop n++s)),())) n (b:=(p++((Y.take n++x::Y.drop n)++s),())) (fun t A=>?_) ?_
 simp only[a41,a81,a04,Nat.add_zero,a09]at this;rw[←aA (Y.take n),C,←P]at this;rw[show[x]++(Y++s)=x::(Y++s)from rfl,this];rfl;unfold a1i;simp only;have l:t<(Y.take n).length:=by rw[a00];omega
 have L:wrap .i64 (((p.length+1+n:Nat):Int)-1)=((p.length+n:Nat):Int):=by rw[w64 (by omega)];omega
 have w2:wrap .i64 (((p.length+t:Nat):Int)+1)=((p.length+(t+1):Nat):Int):=by rw[w64 (by omega)];omega
 rw[L,w2,decide_eq_true (show((p.length+t:Nat):Int)<((p.length+n:Nat):Int)by omega)];have e:p++(((Y.take n).take t++x::(Y.take n).drop t)++(Y.drop n++s))=(p++(Y.take n).take t)++x::([]++(Y.take n)[t]::((Y.take n).drop (t+1)++(Y.drop n++s))):=by
  rw[a37 l];simp only[aA,a09,a04]
 have S:p++(((Y.take n).take (t+1)++x::(Y.take n).drop (t+1))++(Y.drop n++s))=(p++(Y.take n).take t)++(Y.take n)[t]::([]++x::((Y.take n).drop (t+1)++(Y.drop n++s))):=by
  rw[a07 l];simp only[aA,a09,a04]
 have B:(p++(Y.take n).take t).length=p.length+t:=by simp only[lN,a00];omega
 have Q:a11 ((p.length+t:Nat):Int)=(p++(Y.take n).take t).length:=by rw[B];rfl
 have R:a11 ((p.length+(t+1):Nat):Int)=(p++(Y.take n).take t).length+1+([]:List Pk).length:=by rw[B];rfl
 rw[e,S,a4K _ _ _ _ Q,a7k _ _ _ _ _ _ R,a7F _ _ _ _ _ Q R];have g:((p++(Y.take n).take t)++x::([]++(Y.take n)[t]::((Y.take n).drop (t+1)++(Y.drop n++s)))).length=p.length+(1+(Y.length+s.length)):=by
  rw[←e];simp only[lN,lC,a00,a01];omega
 simp only[a44,g];rw[decide_eq_true (show(0:Int)≤((p.length+t:Nat):Int)by omega),decide_eq_true (show(0:Int)≤((p.length+(t+1):Nat):Int)by omega),decide_eq_true (show((p.length+t:Nat):Int)<((p.length+(1+(Y.length+s.length)):Nat):Int)by omega),decide_eq_true (show((p.length+(t+1):Nat):Int)<((p.length+(1+(Y.length+s.length)):Nat):Int)by omega)];rfl;unfold a1i;simp only;have L:wrap .i64 (((p.length+1+n:Nat):Int)-1)=((p.length+n:Nat):Int):=by rw[w64 (by omega)];omega
 rw[L,decide_eq_false (by omega)];have o:(Y.take n).take n=Y.take n:=by rw[a95,Nat.min_self]
 have r:(Y.take n).drop n=[]:=by rw[a31,a00];omega
 simp only[cF,o,r,aA,a09,a04];have h:=O;rw[←C]at h;obtain⟨o,r,D⟩:=a13.1 h;refine a13.2 ⟨o,a84.2 ⟨fun y w=>U y w,r⟩,fun y w z K=>?_⟩;rcases mC.1 K with rfl|K;exact a6t (M y w);exact D y w z K;have h:=(Stb.past x (Y.take n) M).ctx [] (Y.drop n);simp only[a04,aA,a09,C]at h;exact h
theorem b5a(Y:Nat){p:List Pk}(R:Asc X)(h0:X.length≠1)(hl:(p++(X++([y]++s))).length<1000000){a:Int}(ha:a=p.length)(U:m=(p.length+X.length:Nat))(hb:b=(p.length+X.length+1:Nat)):
  ∃Z,a0B (Y+1) (p++(X++([y]++s)),a,m,b,())=some (p++(Z++s))∧Asc Z∧Stb (X++[y]) Z:=by
 simp only[lN,a06]at hl;have N:a23 (p++(X++([y]++s))) (p.length+X.length) ((0:Int),(0:Int),(0:Int),false,false,([]:(List Int)),())=y:=by
  rw[←aA];exact a4K (p++X) s y _ (by simp)
 have l:∀t (w:t<X.length),a23 (p++(X++([y]++s))) (p.length+t) ((0:Int),(0:Int),(0:Int),false,false,([]:(List Int)),())=X[t]:=fun t w=>a5J rfl w;obtain⟨c,h4,h5,B,G,H⟩:=a7G (f:=a1j) (fun i j=>(m,(),(i:Int),(j:Int),p++(X++([y]++s)),())) (fun c=>(m,(c:Int),p++(X++([y]++s)),()))
  (fun k=>!klt y (a23 (p++(X++([y]++s))) k ((0:Int),(0:Int),(0:Int),false,false,([]:(List Int)),()))) p.length (p.length+X.length)
  (fun h k o q F Q=>by
   obtain⟨t,rfl⟩:∃t,h=p.length+t:=⟨h-p.length,by omega⟩;obtain⟨u,rfl⟩:∃u,k=p.length+u:=⟨k-p.length,by omega⟩;rw[l t (by omega),a58]at Q;rw[l u (by omega),a58];exact a4d (a4e R (show u≤t by omega) (by omega)) Q)
  (fun i j o q F=>by
   unfold a1j;simp only;rw[a6u (by omega),decide_eq_true (show(i:Int)<(j:Int)by omega)];obtain⟨v,hv,M⟩:=a7j y (a23 (p++(X++([y]++s))) ((i+j) / 2) ((0:Int),(0:Int),(0:Int),false,false,([]:(List Int)),()));have g:(p++(X++([y]++s))).length=p.length+(X.length+(1+s.length)):=by simp only[lN,a06]
   rw[g,decide_eq_true (show(0:Int)≤(((i+j) / 2:Nat):Int)by omega),decide_eq_true (show(((i+j) / 2:Nat):Int)<((p.length+(X.length+(1+s.length)):Nat):Int)by omega),decide_eq_true (show 0≤m by omega),decide_eq_true (show m<((p.length+(X.length+(1+s.length)):Nat):Int)by omega)];simp only[a19,cT,tN,U,N,hv,oB,M];cases klt y (a23 (p++(X++([y]++s))) ((i+j) / 2) ((0:Int),(0:Int),(0:Int),false,false,([]:(List Int)),()))with
   |false=>
    simp only[a68,cT];rw[w64 (by omega)];rfl
   |true=>rfl)
  (fun i o q=>by
   unfold a1j;simp only;rw[decide_eq_false (by omega)];rfl) X.length _ _ rfl (a08 _) (a08 _) (fun k o q=>by omega) (fun k o q=>by omega)
 obtain⟨n,rfl⟩:∃n,c=p.length+n:=⟨c-p.length,by omega⟩;have hn:n≤X.length:=by omega
 have hA:∀x∈X.take n,klt y x=false:=fun x d=>by
  obtain⟨t,w,L,rfl⟩:=a5K d
  have:=G (p.length+t) (by omega) (by omega)
  rw[l t w]at this;simpa using this
 have P:∀x∈X.drop n,klt y x=true:=fun x d=>by
  obtain⟨t,w,L,rfl⟩:=a5L d
  have:=H (p.length+t) (by omega) (by omega)
  rw[l t w]at this;simpa using this
 have E:X.take n++X.drop n=X:=a14 n X;have lD:(X.drop n).length=X.length-n:=a01;refine⟨X.take n++y::X.drop n,?_,?_,?_⟩;unfold a0B;simp only;have w0:wrap .i64 (m-a)=(X.length:Int):=by rw[w64 (by omega)];omega
 have I:((X.length:Int)==1)=false:=by simp;omega
 rw[w0,I,show wrap .i64 (b-m)=1 by rw[w64 (by omega)];omega];simp only[beq_self_eq_true,cT,cF];have W:a=((p.length:Nat):Int):=ha;rw[W];have O:(((p.length+X.length:Nat):Int))=m:=U.symm;rw[O]at B;rw[B];simp only[oB]
 have:=a0K (f:=a1k) (fun t=>(((p.length+n:Nat):Int),((p.length+X.length-t:Nat):Int),p++(X.take n++((X.drop n).take (X.length-n-t)++y::(X.drop n).drop (X.length-n-t)))++s,())) (X.length-n) (b:=(p++((X.take n++y::X.drop n)++s),())) (fun t w=>?_) ?_
 have o:(X.drop n).take (X.length-n-0)=X.drop n:=by rw[a90,←lD];exact a24
 have q:(X.drop n).drop (X.length-n-0)=[]:=by rw[a90,←lD];exact a73
 rw[o,q]at this;simp only[a90]at this;rw[←aA (X.take n),E,O]at this;simp only[aA]at this;rw[this];simp only[oB,aA];unfold a1k;simp only;obtain⟨r,hr⟩:∃r,X.length-n-t=r+1:=⟨X.length-n-t-1,by omega⟩;have K:X.length-n-(t+1)=r:=by omega
 have D:r<(X.drop n).length:=by omega
 have w2:wrap .i64 (((p.length+X.length-t:Nat):Int)-1)=((p.length+n+r:Nat):Int):=by rw[w64 (by omega)];omega
 have w3:((p.length+X.length-t:Nat):Int)=((p.length+n+r+1:Nat):Int):=by omega
 have w4:((p.length+X.length-(t+1):Nat):Int)=((p.length+n+r:Nat):Int):=by omega
 rw[hr,K,w2,w3,w4,decide_eq_true (show((p.length+n+r+1:Nat):Int) > ((p.length+n:Nat):Int)by omega)];have e:p++(X.take n++((X.drop n).take (r+1)++y::(X.drop n).drop (r+1)))++s=(p++(X.take n++(X.drop n).take r))++(X.drop n)[r]::([]++y::((X.drop n).drop (r+1)++s)):=by
  rw[a07 D];simp only[aA,a09,a04]
 have V:p++(X.take n++((X.drop n).take r++y::(X.drop n).drop r))++s=(p++(X.take n++(X.drop n).take r))++y::([]++(X.drop n)[r]::((X.drop n).drop (r+1)++s)):=by
  rw[a37 D];simp only[aA,a09,a04]
 have C:(p++(X.take n++(X.drop n).take r)).length=p.length+n+r:=by simp only[lN,a00];omega
 have S:a11 ((p.length+n+r:Nat):Int)=(p++(X.take n++(X.drop n).take r)).length:=by rw[C];rfl
 have T:a11 ((p.length+n+r+1:Nat):Int)=(p++(X.take n++(X.drop n).take r)).length+1+([]:List Pk).length:=by rw[C];rfl
 rw[e,V,a4K _ _ _ _ S,a7k _ _ _ _ _ _ T,a8I _ _ _ _ _ S T];have g:((p++(X.take n++(X.drop n).take r))++(X.drop n)[r]::([]++y::((X.drop n).drop (r+1)++s))).length=p.length+(X.length+(1+s.length)):=by
  rw[←e];simp only[lN,lC,a00,a01];omega
 simp only[a44,g];rw[decide_eq_true (show(0:Int)≤((p.length+n+r:Nat):Int)by omega),decide_eq_true (show(0:Int)≤((p.length+n+r+1:Nat):Int)by omega),decide_eq_true (show((p.length+n+r:Nat):Int)<((p.length+(X.length+(1+s.length)):Nat):Int)by omega),decide_eq_true (show((p.length+n+r+1:Nat):Int)<((p.length+(X.length+(1+s.length)):Nat):Int)by omega)];rfl;unfold a1k;simp only;rw[decide_eq_false (by omega)];simp only[a60,a41,a81,a04,cF,aA];have h:=R;rw[←E]at h;obtain⟨o,q,F⟩:=a13.1 h;refine a13.2 ⟨o,a84.2 ⟨fun x d=>a6t (P x d),q⟩,fun x d z A=>?_⟩;rcases mC.1 A with rfl|A;exact hA x d;exact F x d z A;have h:=(Stb.blocks (X.drop n) [y] (fun x d z A=>by rw[a17]at A;rw[A];exact P x d)).ctx (X.take n) [];simp only[a03]at h;rw[←aA,E]at h;exact h
theorem a0E{x:Option α}{f:α→Option β}{v:α}{r:Option β}(h:x=some v)(g:f v=r):x.bind f=r:=by rw[h];exact g
@[reducible] def zPk:Pk:=((0:Int),((0:Int),((0:Int),(false,(false,(([]:(List Int)),()))))))
theorem b3p{p:List Pk}(G:Asc X)(H:Asc Y)(W:(p++(X++(Y++s))).length<1000000){h:Nat}(hh:h=(X.length+Y.length) / 2)(u:Unit)(D F E m n:Int)(hn:n=(p.length+h+(p.length+X.length):Nat)):
  ∃t e,t+e=h∧t≤X.length∧e≤Y.length∧
   x0y a0S (D,F,E,u,m,n,((p.length+(h-Y.length):Nat):Int),((p.length+min h X.length:Nat):Int),n-1,p++(X++(Y++s)),())=some (D,F,E,u,m,n,((p.length+t:Nat):Int),p++(X++(Y++s)),())∧
   (∀y∈Y.take e,∀x∈X.drop t,klt y x=true)∧(∀x∈X.take t,∀y∈Y.drop e,klt y x=false):=by
 simp only[lN]at W;have d:∀t (r:t<X.length),a23 (p++(X++(Y++s))) (p.length+t) zPk=X[t]:=fun t r=>a5J rfl r;have l:∀t (r:t<Y.length),a23 (p++(X++(Y++s))) (p.length+X.length+t) zPk=Y[t]:=fun t r=>by
  rw[←aA];exact a5J (q:=p++X) (by simp) r
 have b:∀t,h-Y.length≤t→t<min h X.length→t<X.length∧h-1-t<Y.length∧(p.length+h+(p.length+X.length)-1-(p.length+t))=p.length+X.length+(h-1-t):=fun t a A=>by omega
 obtain⟨c,T,U,M,I,K⟩:=a7G (f:=a0S) (fun i j=>(D,F,E,u,m,n,(i:Int),(j:Int),n-1,p++(X++(Y++s)),())) (fun c=>(D,F,E,u,m,n,(c:Int),p++(X++(Y++s)),()))
  (fun k=>!klt (a23 (p++(X++(Y++s))) (p.length+h+(p.length+X.length)-1-k) zPk) (a23 (p++(X++(Y++s))) k zPk)) (p.length+(h-Y.length)) (p.length+min h X.length)
  (fun g k a A S R=>by
   obtain⟨t,rfl⟩:∃t,g=p.length+t:=⟨g-p.length,by omega⟩;obtain⟨v,rfl⟩:∃u,k=p.length+u:=⟨k-p.length,by omega⟩;obtain⟨o,w,z⟩:=b t (by omega) (by omega);obtain⟨Z,r2,r3⟩:=b v (by omega) (by omega);rw[z,d t o,l _ w,a58]at R;rw[r3,d v Z,l _ r2,a58];exact a4d (a4d (a4e G (show v≤t by omega) o) R) (a4e H (show h-1-t≤h-1-v by omega) r2))
  (fun i j a A S=>by
   unfold a0S;simp only;obtain⟨t,r⟩:∃t,(i+j) / 2=p.length+t:=⟨(i+j) / 2-p.length,by omega⟩;obtain⟨o,w,z⟩:=b t (by omega) (by omega);rw[a6u (by omega),decide_eq_true (show(i:Int)<(j:Int)by omega),r,z];have wp:wrap .i64 (n-1-((p.length+t:Nat):Int))=((p.length+X.length+(h-1-t):Nat):Int):=by rw[w64 (by omega)];omega
   obtain⟨v,hv,O⟩:=a7j (a23 (p++(X++(Y++s))) (p.length+X.length+(h-1-t)) zPk) (a23 (p++(X++(Y++s))) (p.length+t) zPk);have C:(p++(X++(Y++s))).length=p.length+(X.length+(Y.length+s.length)):=by simp only[lN]
   rw[C,wp,decide_eq_true (show(0:Int)≤((p.length+t:Nat):Int)by omega),decide_eq_true (show((p.length+t:Nat):Int)<((p.length+(X.length+(Y.length+s.length)):Nat):Int)by omega),decide_eq_true (show(0:Int)≤((p.length+X.length+(h-1-t):Nat):Int)by omega),decide_eq_true (show((p.length+X.length+(h-1-t):Nat):Int)<((p.length+(X.length+(Y.length+s.length)):Nat):Int)by omega)];simp only[a19,cT,tN,hv,oB,O];cases klt (a23 (p++(X++(Y++s))) (p.length+X.length+(h-1-t)) zPk) (a23 (p++(X++(Y++s))) (p.length+t) zPk)with
   |false=>
    simp only[a68,cT];rw[w64 (by omega)];rfl
   |true=>rfl)
  (fun i a A=>by
   unfold a0S;simp only;rw[decide_eq_false (by omega)];rfl) (min h X.length-(h-Y.length)) _ _ (by omega) (a08 _) (a08 _) (fun k a A=>by omega) (fun k a A=>by omega)
 obtain⟨t,rfl⟩:∃t,c=p.length+t:=⟨c-p.length,by omega⟩;refine⟨t,h-t,by omega,by omega,by omega,M,fun y Q x P=>?_,fun x P y Q=>?_⟩;obtain⟨i,V,L,rfl⟩:=a5K Q;obtain⟨j,N,B,rfl⟩:=a5L P;obtain⟨o,w,z⟩:=b t (by omega) (by omega);have a:=K (p.length+t) (by omega) (by omega);rw[z,d t o,l _ w]at a;have a:klt Y[h-1-t] X[t]=true:=by simpa using a
 exact b3R (b2z (a4e H (show i≤h-1-t by omega) w) a) (a4e G B N);obtain⟨i,V,L,rfl⟩:=a5K P;obtain⟨j,N,B,rfl⟩:=a5L Q;obtain⟨o,w,z⟩:=b (t-1) (by omega) (by omega);have a:=I (p.length+(t-1)) (by omega) (by omega);rw[z,d _ o,l _ w]at a;have a:klt Y[h-1-(t-1)] X[t-1]=false:=by simpa using a
 exact a4d (a4d (a4e G (show i≤t-1 by omega) o) a) (a4e H (show h-1-(t-1)≤j by omega) N)
theorem len1{l:List α}(h:l.length=1):∃x,l=[x]:=by
 match l,h with
 | [x],_=>exact⟨x,rfl⟩
set_option maxHeartbeats 4000000 in
theorem a8J:∀(fu:Nat){p X Y s:List Pk},Asc X→Asc Y→X≠[]→Y≠[]→X.length+Y.length≤fu→(p++(X++(Y++s))).length<1000000→
  ∃Z,a0B fu (p++(X++(Y++s)),((p.length:Int),(((p.length+X.length:Nat):Int),(((p.length+X.length+Y.length:Nat):Int),()))))=some (p++(Z++s))∧Asc Z∧Stb (X++Y) Z
 |0,p,X,Y,s,_,_,h1,_,hf,_=>by
  have:=a02.2 h1
  omega
 |fu+1,p,X,Y,s,hX,hY,hX0,hY0,hf,hl=>by
  have lX:=a02.2 hX0
  have lY:=a02.2 hY0
  by_cases h1:X.length=1
  ·obtain⟨x,rfl⟩:=len1 h1
   exact b4Z fu hY hl rfl rfl rfl
  by_cases h2:Y.length=1
  ·obtain⟨y,rfl⟩:=len1 h2
   exact b5a fu hX h1 hl rfl rfl rfl
  have hl':=hl
  simp only[lN]at hl'
  obtain⟨h,hh⟩:∃h,h=(X.length+Y.length) / 2:=⟨_,rfl⟩
  obtain⟨t,e,hte,ht,he,hit,hlt,hle⟩:=b3p hX hY hl hh () (p.length:Int) ((p.length+X.length:Nat):Int) ((p.length+X.length+Y.length:Nat):Int) ((p.length+h:Nat):Int) ((p.length+h+(p.length+X.length):Nat):Int) rfl
  have eX:X.take t++X.drop t=X:=a14 t X
  have eY:Y.take e++Y.drop e=Y:=a14 e Y
  have lX1:(X.take t).length=t:=by rw[a00];omega
  have lY1:(Y.take e).length=e:=by rw[a00];omega
  have lX2:(X.drop t).length=X.length-t:=a01
  have lY2:(Y.drop e).length=Y.length-e:=a01
  obtain⟨aX1,aX2,aX⟩:=a13.1 (show(X.take t++X.drop t).Pairwise _ by rw[eX];exact hX)
  obtain⟨aY1,aY2,aY⟩:=a13.1 (show(Y.take e++Y.drop e).Pairwise _ by rw[eY];exact hY)

  have m1:∃Z1,(t=0∨e=0∨a0B fu (p++(X.take t++(Y.take e++(X.drop t++(Y.drop e++s)))),((p.length:Int),(((p.length+t:Nat):Int),(((p.length+h:Nat):Int),()))))=some (p++(Z1++(X.drop t++(Y.drop e++s)))))∧((t=0∨e=0)→Z1=X.take t++Y.take e)∧Asc Z1∧Stb (X.take t++Y.take e) Z1:=by
   by_cases h0:t=0∨e=0
   ·refine⟨X.take t++Y.take e,by omega,fun _=>rfl,?_,.refl _⟩
    rcases h0 with rfl|rfl
    ·rw[a41,a04];exact aY1
    ·rw[a41,a03];exact aX1
   ·obtain⟨Z,z1,z2,z3⟩:=a8J fu (p:=p) (X:=X.take t) (Y:=Y.take e) (s:=X.drop t++(Y.drop e++s)) aX1 aY1 (a02.1 (by omega)) (a02.1 (by omega)) (by omega) (by simp only[lN];omega)
    rw[lX1,lY1,Nat.add_assoc,hte]at z1
    exact⟨Z,.inr (.inr z1),fun h=>absurd h h0,z2,z3⟩
  obtain⟨Z1,z1,z1e,z1a,z1s⟩:=m1
  have lZ1:Z1.length=h:=by rw[z1s.perm.length_eq,lN];omega
  have m2:∃Z2,(t=X.length∨e=Y.length∨a0B fu (p++(Z1++(X.drop t++(Y.drop e++s))),(((p.length+h:Nat):Int),(((p.length+X.length+e:Nat):Int),(((p.length+X.length+Y.length:Nat):Int),()))))=some (p++(Z1++(Z2++s))))∧((t=X.length∨e=Y.length)→Z2=X.drop t++Y.drop e)∧Asc Z2∧Stb (X.drop t++Y.drop e) Z2:=by
   by_cases h0:t=X.length∨e=Y.length
   ·refine⟨X.drop t++Y.drop e,by omega,fun _=>rfl,?_,.refl _⟩
    rcases h0 with h0|h0
    ·rw[a31.2 (by omega)];exact aY2
    ·rw[a31.2 (show Y.length≤e by omega),a03];exact aX2
   ·obtain⟨Z,q1,q2,q3⟩:=a8J fu (p:=p++Z1) (X:=X.drop t) (Y:=Y.drop e) (s:=s) aX2 aY2 (a02.1 (by omega)) (a02.1 (by omega)) (by omega) (by simp only[lN];omega)
    rw[lN,lZ1,lX2,lY2,show p.length+h+(X.length-t)=p.length+X.length+e by omega,show p.length+X.length+e+(Y.length-e)=p.length+X.length+Y.length by omega]at q1
    simp only[aA]at q1
    exact⟨Z,.inr (.inr q1),fun h=>absurd h h0,q2,q3⟩
  obtain⟨Z2,z2,z2e,z2a,z2s⟩:=m2
  refine⟨Z1++Z2,?_,?_,?_⟩
  ·unfold a0B
   simp only
   have w0:wrap .i64 (((p.length+X.length:Nat):Int)-(p.length:Int))=(X.length:Int):=by rw[w64 (by omega)];omega
   have w1:wrap .i64 (((p.length+X.length+Y.length:Nat):Int)-((p.length+X.length:Nat):Int))=(Y.length:Int):=by rw[w64 (by omega)];omega
   have n0:((X.length:Int)==1)=false:=by simp;omega
   have n1:((Y.length:Int)==1)=false:=by simp;omega
   have wm:wrap .i64 (D0r .u64 (wrap .u64 (wrap .i64 ((p.length:Int)+((p.length+X.length+Y.length:Nat):Int)))) (1:Int))=((p.length+h:Nat):Int):=by
    rw[a6u (by omega)];omega
   have wn:wrap .i64 (((p.length+h:Nat):Int)+((p.length+X.length:Nat):Int))=((p.length+h+(p.length+X.length):Nat):Int):=by rw[w64 (by omega)];omega
   rw[w0,w1,n0,n1,wm,wn]
   simp only[cF]
   refine a0E (v:=((p.length:Int),(((p.length+X.length:Nat):Int),(((p.length+X.length+Y.length:Nat):Int),((),(((p.length+h:Nat):Int),(((p.length+h+(p.length+X.length):Nat):Int),(((p.length+(h-Y.length):Nat):Int),(((p.length+min h X.length:Nat):Int),(p++(X++(Y++s)),())))))))))) ?_ ?_
   ·by_cases hA:h<X.length
    ·rw[decide_eq_true (show((p.length+X.length:Nat):Int) > ((p.length+h:Nat):Int)by omega)]
     have wb:wrap .i64 (((p.length+h+(p.length+X.length):Nat):Int)-((p.length+X.length+Y.length:Nat):Int))=((p.length+(h-Y.length):Nat):Int):=by rw[w64 (by omega)];omega
     rw[wb,a56 (by omega)]
     rfl
    ·rw[decide_eq_false (show ¬ ((p.length+X.length:Nat):Int) > ((p.length+h:Nat):Int)by omega),a62 (by omega),show h-Y.length=0 by omega]
     rfl
   simp only
   have wn1:wrap .i64 (((p.length+h+(p.length+X.length):Nat):Int)-1)=((p.length+h+(p.length+X.length):Nat):Int)-1:=w64 (by omega)
   rw[wn1]
   refine a0E hit ?_
   simp only
   have we:wrap .i64 (((p.length+h+(p.length+X.length):Nat):Int)-((p.length+t:Nat):Int))=((p.length+X.length+e:Nat):Int):=by rw[w64 (by omega)];omega
   rw[we]
   refine a0E (v:=((p.length:Int),(((p.length+X.length+Y.length:Nat):Int),((),(((p.length+h:Nat):Int),(((p.length+t:Nat):Int),(((p.length+X.length+e:Nat):Int),(p++(X.take t++(Y.take e++(X.drop t++(Y.drop e++s)))),())))))))) ?_ ?_
   ·by_cases hr:t<X.length∧0<e
    ·rw[decide_eq_true (show((p.length+t:Nat):Int)<((p.length+X.length:Nat):Int)by omega),decide_eq_true (show((p.length+X.length:Nat):Int)<((p.length+X.length+e:Nat):Int)by omega)]
     simp only[cT,oB]
     have hrot:=b1n (p:=p++X.take t) (X:=X.drop t) (Y:=Y.take e) (s:=Y.drop e++s) (a02.1 (by omega)) (a02.1 (by omega)) (by simp only[lN];omega) (a:=((p.length+t:Nat):Int)) (m:=((p.length+X.length:Nat):Int)) (b:=((p.length+X.length+e:Nat):Int)) (by simp only[lN];omega) (by simp only[lN];omega) (by simp only[lN];omega)
     have e1:(p++X.take t)++(X.drop t++(Y.take e++(Y.drop e++s)))=p++(X++(Y++s)):=by
      rw[←aA (Y.take e),eY,aA,←aA (X.take t),eX]
     rw[e1]at hrot
     rw[hrot]
     simp only[oB,aA]
    ·have e1:p++(X.take t++(Y.take e++(X.drop t++(Y.drop e++s))))=p++(X++(Y++s)):=by
      by_cases h0:e=0
      ·have q1:Y.take e=[]:=by rw[h0];rfl
       have q2:Y.drop e=Y:=by rw[h0];rfl
       rw[q1,q2,a04,←aA (X.take t),eX]
      ·have q1:X.drop t=[]:=a31.2 (by omega)
       have q2:X.take t=X:=a29 (by omega)
       rw[q1,q2,a04,←aA (Y.take e),eY]
     rw[e1]
     by_cases h0:t<X.length
     ·rw[decide_eq_true (show((p.length+t:Nat):Int)<((p.length+X.length:Nat):Int)by omega),decide_eq_false (show ¬ ((p.length+X.length:Nat):Int)<((p.length+X.length+e:Nat):Int)by omega)]
      rfl
     ·rw[decide_eq_false (show ¬ ((p.length+t:Nat):Int)<((p.length+X.length:Nat):Int)by omega)]
      rfl
   simp only
   refine a0E (v:=(((p.length+X.length+Y.length:Nat):Int),((),(((p.length+h:Nat):Int),(((p.length+X.length+e:Nat):Int),(p++(Z1++(X.drop t++(Y.drop e++s))),())))))) ?_ ?_
   ·by_cases h0:t=0∨e=0
    ·rw[z1e h0]
     by_cases h3:t=0
     ·rw[decide_eq_false (show ¬ (p.length:Int)<((p.length+t:Nat):Int)by omega)]
      simp only[cF,oB,aA]
     ·rw[decide_eq_true (show(p.length:Int)<((p.length+t:Nat):Int)by omega),decide_eq_false (show ¬ ((p.length+t:Nat):Int)<((p.length+h:Nat):Int)by omega)]
      simp only[cT,cF,oB,aA]
    ·rw[decide_eq_true (show(p.length:Int)<((p.length+t:Nat):Int)by omega),decide_eq_true (show((p.length+t:Nat):Int)<((p.length+h:Nat):Int)by omega)]
     simp only[cT,oB]
     rw[(z1.resolve_left (by omega)).resolve_left (by omega)]
     rfl
   simp only
   by_cases h0:t=X.length∨e=Y.length
   ·rw[z2e h0]
    by_cases h3:t=X.length
    ·rw[decide_eq_false (show ¬ ((p.length+h:Nat):Int)<((p.length+X.length+e:Nat):Int)by omega)]
     simp only[cF,oB,aA]
    ·rw[decide_eq_true (show((p.length+h:Nat):Int)<((p.length+X.length+e:Nat):Int)by omega),decide_eq_false (show ¬ ((p.length+X.length+e:Nat):Int)<((p.length+X.length+Y.length:Nat):Int)by omega)]
     simp only[cT,cF,oB,aA]
   ·rw[decide_eq_true (show((p.length+h:Nat):Int)<((p.length+X.length+e:Nat):Int)by omega),decide_eq_true (show((p.length+X.length+e:Nat):Int)<((p.length+X.length+Y.length:Nat):Int)by omega)]
    simp only[cT,oB]
    rw[(z2.resolve_left (by omega)).resolve_left (by omega)]
    simp only[oB,aA]
  ·refine a13.2 ⟨z1a,z2a,fun u hu v hv=>?_⟩
   have hu:=(z1s.perm.mem_iff).1 hu
   have hv:=(z2s.perm.mem_iff).1 hv
   rcases mA.1 hu with hu|hu<;>rcases mA.1 hv with hv|hv
   ·exact aX u hu v hv
   ·exact hle u hu v hv
   ·exact a6t (hlt u hu v hv)
   ·exact aY u hu v hv
  ·have b1:=(Stb.blocks (X.drop t) (Y.take e) (fun x hx y hy=>hlt y hy x hx)).ctx (X.take t) (Y.drop e)
   simp only[aA]at b1
   rw[eY,←aA (X.take t),eX]at b1
   have b2:=z1s.ctx [] (X.drop t++Y.drop e)
   have b3:=z2s.ctx Z1 []
   simp only[a04,a03,aA]at b2 b3
   exact(b1.trans b2).trans b3
theorem a9P{l:List α}(h:l≠[]):∃a z,l=a++[z]:=⟨l.dropLast,l.getLast h,(List.dropLast_concat_getLast h).symm⟩
theorem b3q{p r:List Pk}(s:Asc Z)(l:(p++(Z++(x::r))).length<1000000)(b i:Int):
  ∃A B,Z=A++B∧x0y a0X ((p.length:Int),b,(),i,((p.length+Z.length:Nat):Int),p++(Z++(x::r)),())=some ((p.length:Int),b,(),i,p++((A++x::B)++r),())∧Asc (A++x::B)∧Stb (Z++[x]) (A++x::B):=by
 simp only[lN,lC]at l;refine a1O (f:=a0X) (fun k G=>∃A B:List Pk,Z=A++B∧k=A.length∧(∀z∈B,klt x z=true)∧G=((p.length:Int),b,(),i,((p.length+A.length:Nat):Int),p++(A++(x::(B++r))),()))
  (fun w=>∃A B:List Pk,Z=A++B∧(∀z∈B,klt x z=true)∧(∀z∈A,klt x z=false)∧w=((p.length:Int),b,(),i,p++(A++(x::(B++r))),()))
  Z.length ((p.length:Int),b,(),i,((p.length+Z.length:Nat):Int),p++(Z++(x::r)),()) ⟨Z,[],by simp,rfl,by simp,rfl⟩ (fun w K I=>?_) (fun k G m=>?_)
 obtain⟨A,B,j,c,H,rfl⟩:=I;subst j;refine⟨A,B,rfl,?_,?_,?_⟩;rw[K];simp only[aA,a09];obtain⟨q,E,F⟩:=a13.1 s;refine a13.2 ⟨q,a84.2 ⟨fun z o=>a6t (c z o),E⟩,fun u a v hv=>?_⟩;rcases mC.1 hv with rfl|hv;exact H u a;exact F u a v hv;have h:=(Stb.blocks B [x] (fun z o y D=>by rw[a17]at D;rw[D];exact c z o)).ctx A [];simp only[a03,aA,a38]at h⊢;exact h
 ·obtain⟨A,B,j,rfl,c,rfl⟩:=m;subst j;simp only[lN]at l;unfold a0X;simp only
  by_cases hA:A=[]
  right;subst hA;rw[decide_eq_false (by simp)];exact⟨_,rfl,[],B,rfl,c,by simp,rfl⟩
  ·obtain⟨g,z,rfl⟩:=a9P hA;simp only[lN,a06]at l;have L:(g++[z]).length=g.length+1:=by simp
   rw[L];rw[decide_eq_true (show((p.length+(g.length+1):Nat):Int) > (p.length:Int)by omega)];have N:wrap .i64 (((p.length+(g.length+1):Nat):Int)-1)=((p.length+g.length:Nat):Int):=by rw[w64 (by omega)];omega
   have e:p++((g++[z])++(x::(B++r)))=(p++g)++z::([]++x::(B++r)):=by simp only[aA,a09,a04]
   have t:a11 ((p.length+g.length:Nat):Int)=(p++g).length:=by rw[lN];rfl
   have C:a11 ((p.length+(g.length+1):Nat):Int)=(p++g).length+1+([]:List Pk).length:=by simp only[lN,a05,tN];omega
   have d:((p++g)++z::([]++x::(B++r))).length=p.length+g.length+(2+B.length+r.length):=by simp only[lN,lC,a05];omega
   rw[N,e,a4K _ _ _ _ t,a7k _ _ _ _ _ _ C,a8I _ _ _ _ _ t C];simp only[a44,d];rw[decide_eq_true (show(0:Int)≤((p.length+(g.length+1):Nat):Int)by omega),decide_eq_true (show((p.length+(g.length+1):Nat):Int)<((p.length+g.length+(2+B.length+r.length):Nat):Int)by omega),decide_eq_true (show(0:Int)≤((p.length+g.length:Nat):Int)by omega),decide_eq_true (show((p.length+g.length:Nat):Int)<((p.length+g.length+(2+B.length+r.length):Nat):Int)by omega)];obtain⟨v,hv,n⟩:=a7j x z;simp only[a19,cT,hv,oB,n];cases hk:klt x z with
   |true=>
    left;refine⟨_,g.length,rfl,by omega,g,z::B,by simp,rfl,fun u a=>?_,?_⟩;rcases mC.1 a with rfl|a;exact hk;exact c u a;simp only[aA,a09,a04]
   |false=>
    right;refine⟨_,rfl,g++[z],B,rfl,c,fun u a=>?_,?_⟩;rcases mA.1 a with a|a;obtain⟨q,E,F⟩:=a13.1 s;obtain⟨-,-,M⟩:=a13.1 q;exact a4d (M u a z (by simp)) hk;rw[a17]at a;rw[a];exact hk;simp only[aA,a09,a04]
theorem b3r{p:List Pk}(j:(p++(X++s)).length<1000000):∃Z,a0J (p++(X++s),(p.length:Int),((p.length+X.length:Nat):Int),())=some (p++(Z++s))∧Asc Z∧Stb X Z:=by
 simp only[lN]at j;unfold a0J;simp only;cases X with
 |nil=>
  refine⟨[],?_,.nil,.refl _⟩;rw[a1e (b:=(p++([]++s),())) ?_];rfl;unfold a0Y;simp only;rw[w64 (by omega),decide_eq_false (by simp only[a05];omega)];rfl
 |cons x X=>
  simp only[lC]at j;have u:wrap .i64 ((p.length:Int)+1)=((p.length+[x].length:Nat):Int):=by rw[w64 (by omega)];rfl
  rw[u];refine a1O (f:=a0Y) (fun k n=>∃Z Y:List Pk,k=Y.length∧Z.length+Y.length=X.length+1∧Asc Z∧Stb (x::X) (Z++Y)∧n=((p.length:Int),((p.length+(x::X).length:Nat):Int),(),((p.length+Z.length:Nat):Int),p++(Z++(Y++s)),()))
   (fun w=>∃Z:List Pk,Asc Z∧Stb (x::X) Z∧w=(p++(Z++s),())) X.length ((p.length:Int),((p.length+(x::X).length:Nat):Int),(),((p.length+[x].length:Nat):Int),p++(x::X++s),()) ⟨[x],X,rfl,by simp;omega,a51 ..,.refl _,rfl⟩ (fun w t o=>?_) (fun k n i=>?_)
  obtain⟨Z,g,a,rfl⟩:=o;exact⟨Z,by rw[t];rfl,g,a⟩
  ·obtain⟨Z,Y,rfl,g,a,c,rfl⟩:=i;unfold a0Y;simp only;cases Y with
   |nil=>
    right;simp only[a05]at g;rw[decide_eq_false (by simp only[lC];omega)];rw[a03]at c;exact⟨_,rfl,Z,a,c,rfl⟩
   |cons y Y=>
    left;simp only[lC]at g;rw[decide_eq_true (show((p.length+Z.length:Nat):Int)<((p.length+(x::X).length:Nat):Int)by simp only[lC];omega)];obtain⟨A,B,e,d,q,l⟩:=b3q (p:=p) (Z:=Z) (r:=Y++s) (x:=y) a (by simp only[lN,lC];omega) ((p.length+(x::X).length:Nat):Int) ((p.length+Z.length:Nat):Int);have m:(A++y::B).length=Z.length+1:=by rw[l.perm.length_eq,lN];rfl
    rw[a09,d];simp only[cT,oB];have w2:wrap .i64 (((p.length+Z.length:Nat):Int)+1)=((p.length+(A++y::B).length:Nat):Int):=by rw[w64 (by omega),m];omega
    rw[w2];refine⟨_,Y.length,rfl,by simp,A++y::B,Y,rfl,by rw[m];omega,q,c.trans ?_,rfl⟩;have h:=l.ctx [] Y;simp only[a04,aA,a38]at h⊢;exact h
theorem a8K{l p:List Pk}{a:Int}(e:l=p++(X++s))(f:l.length<1000000)(h:a=p.length)(g:b=(p.length+X.length:Nat)):∃Z,a0J (l,a,b,())=some (p++(Z++s))∧Asc Z∧Stb X Z:=by
 subst e h g;exact b3r f
theorem b1o{l:List Pk}(h:l.length<40):∃Z,a1r (l,(l.length:Int),())=some Z∧Asc Z∧Stb l Z:=by
 unfold a1r;simp only
 by_cases h20:l.length<20
 obtain⟨Z,f,D,E⟩:=a8K (l:=l) (p:=[]) (X:=l) (s:=[]) (a:=0) (b:=(l.length:Int)) (by simp) (by omega) rfl (by simp);refine⟨Z,?_,D,E⟩;refine a0E (v:=((l.length:Int),(),(20:Int),(0:Int),l,())) ?_ ?_
 refine a1e ?_
 unfold a0V;simp only;rw[decide_eq_false (by omega)];rfl;simp only;refine a0E f ?_
 simp only[a04,a03];refine a0E (v:=(Z,())) ?_ rfl;refine a1e ?_
 unfold a0M;simp only;rw[decide_eq_false (by omega)];rfl;have o:l.take 20++l.drop 20=l:=a14 20 l;have lA:(l.take 20).length=20:=by rw[a00];omega
 have y:(l.drop 20).length=l.length-20:=a01;obtain⟨Z1,c,a1,q⟩:=a8K (l:=l) (p:=[]) (X:=l.take 20) (s:=l.drop 20) (a:=0) (b:=20) (by rw[a04,o]) (by omega) rfl (by simp only[a05,lA];rfl);have z:Z1.length=20:=by rw[q.perm.length_eq,lA]
 simp only[a04]at c;obtain⟨Z2,g,t,r⟩:=a8K (l:=Z1++l.drop 20) (p:=Z1) (X:=l.drop 20) (s:=[]) (a:=20) (b:=(l.length:Int)) (by rw[a03]) (by rw[lN];omega) (by omega) (by omega);have A:Z2.length=l.length-20:=by rw[r.perm.length_eq,y]
 rw[a03]at g;have i:Stb l (Z1++Z2):=by
  have b1:=q.ctx [] (l.drop 20);have b2:=r.ctx Z1 [];simp only[a04,a03]at b1 b2;rw[o]at b1;exact b1.trans b2
 have j:wrap .i64 ((20:Int)+20)=40:=by decide
 have m:wrap .i64 ((2:Int)*20)=40:=by decide
 have n:wrap .i64 ((20:Int)*2)=40:=by decide
 have C:wrap .i64 ((0:Int)+20)=20:=by decide
 have first:x0y a0V ((l.length:Int),(),(20:Int),(0:Int),(20:Int),l,())=some ((l.length:Int),(),(20:Int),(20:Int),Z1++l.drop 20,()):=by
  rw[a1x (s':=((l.length:Int),(),(20:Int),(20:Int),(40:Int),Z1++l.drop 20,())) ?_];refine a1e ?_
  unfold a0V;simp only;rw[decide_eq_false (by omega)];rfl;unfold a0V;simp only;rw[decide_eq_true (by omega),c,j];rfl
 by_cases he:l.length=20
 have e:Z2=[]:=a20.1 (by omega);subst e;rw[a03]at i g;refine⟨Z1,?_,a1,i⟩;refine a0E first ?_
 simp only;refine a0E g ?_
 refine a0E (v:=(Z1,())) ?_ rfl;refine a1e ?_
 unfold a0M;simp only;rw[decide_eq_false (by omega)];rfl;obtain⟨Z,f,u,B⟩:=a8J 64 (p:=[]) (X:=Z1) (Y:=Z2) (s:=[]) a1 t (a02.1 (by omega)) (a02.1 (by omega)) (by omega) (by simp only[lN,a05];omega);simp only[a04,a03,a05,a61]at f;refine⟨Z,?_,u,i.trans B⟩;refine a0E first ?_
 simp only;refine a0E g ?_
 have d:x0y a0M ((l.length:Int),(),(20:Int),Z1++Z2,())=some (Z,()):=by
  rw[a1x (s':=((l.length:Int),(),(40:Int),Z,())) ?_];refine a1e ?_
  unfold a0M;simp only;rw[decide_eq_false (by omega)];rfl;unfold a0M;simp only;rw[decide_eq_true (show(20:Int)<(l.length:Int)by omega),m];simp only[cT];refine a0E (v:=((l.length:Int),(),(20:Int),(0:Int),Z1++Z2,())) ?_ ?_
  refine a1e ?_
  unfold a1X;simp only;rw[decide_eq_false (by omega)];rfl;simp only;rw[C,decide_eq_true (show(20:Int)<(l.length:Int)by omega),n];simp only[cT];have w:((Z1.length:Nat):Int)=20:=by omega
  have x:((Z1.length+Z2.length:Nat):Int)=(l.length:Int):=by omega
  rw[w,x]at f;refine a0E f rfl
 refine a0E d rfl
theorem b2F{l:List Pk}(h:l.length<40):∃Z,a0O (l,())=some Z∧Asc Z∧Stb l Z:=by
 obtain⟨Z,g,f,a⟩:=b1o h;exact⟨Z,by unfold a0O;exact a0E g rfl,f,a⟩
def a2t:Nat→Nat→List Int
 |_,0=>[]
 |n,k+1=>((n%256:Nat):Int)::a2t (n / 256) k
def a0Q(n k:Nat):List Int:=(a2t n k).reverse
theorem a4U:∀(k n:Nat),(a2t n k).length=k
 |0,_=>rfl
 |k+1,n=>by rw[a2t,lC,a4U k]
theorem a6H:∀(k n:Nat),∀b∈a2t n k,0≤b∧b<256
 |0,_,b,h=>by cases h
 |k+1,n,b,h=>by
  rcases mC.1 h with rfl|h;omega;exact a6H k _ b h
theorem a6I:∀(k n:Nat),a2t n (k+1)=a2t n k++[((n / 256^k%256:Nat):Int)]
 |0,n=>by simp[a2t]
 |k+1,n=>by
  rw[a2t,a6I k,a2t,a09,a71,a52,Nat.mul_comm 256]
theorem a0N(n k:Nat):(a0Q n k).length=k:=by rw[a0Q,List.length_reverse,a4U]
theorem a7M(n k:Nat):∀b∈a0Q n k,0≤b∧b<256:=fun b h=>a6H k n b (List.mem_reverse.1 h)
theorem a3S(h:n<18446744073709551616):wrap .u64 (n:Int)=n:=by
 simp only[wrap,IntKind.bits,IntKind.signed]
 simp
 omega
theorem b0K(h:n<256):wrap .u8 (n:Int)=n:=by
 simp only[wrap,IntKind.bits,IntKind.signed]
 simp
 omega
theorem b2a{k:Nat}(g:n<18446744073709551616)(o:k≤8):a3Y ((n:Int),(k:Int))=some (a2t n k):=by
 unfold a3Y;have d:a2c (k:Int)=some (k:Int):=by
  unfold a2c x0v x0u;have a:¬ (8:Int)<(k:Int):=by omega
  have c:¬ (k:Int)<0:=by omega
  congr 1;simp[a,c]<;>omega
 simp only[d,oB]
 have:=a0K (f:=a3b) (fun i=>(((n / 256^i:Nat):Int),(k:Int),(i:Int),a2t n i,())) k (b:=(a2t n k,())) (fun i m=>?_) ?_
 rw[Nat.pow_zero,Nat.div_one]at this;refine a0E this rfl;unfold a3b;simp only;have l:n / 256^i<18446744073709551616:=b05 (b25 _ _) g;have e:Int.tdiv ((n / 256^i:Nat):Int) 256=((n / 256^(i+1):Nat):Int):=by
  rw[a52,←a71];exact Int.tdiv_eq_ediv_of_nonneg (a82 _)
 have j:a30 ((n / 256^i:Nat):Int) 256=((n / 256^i%256:Nat):Int):=by
  exact Int.tmod_eq_emod_of_nonneg (a82 _)
 have h:n / 256^(i+1)<18446744073709551616:=b05 (b25 _ _) g;rw[e,j,a3S h,b0K (Nat.mod_lt _ (by decide)),a4U,a0F (by omega),decide_eq_true (show(i:Int)<(k:Int)by omega),a6I,w64 (by omega)];rfl;unfold a3b;simp only;rw[decide_eq_false (by omega)];rfl
theorem a5c{k:Nat}(g:n<18446744073709551616)(h:k≤8):a1K ((n:Int),(k:Int))=some (a0Q n k):=by
 unfold a1K;simp only[b2a g h,oB];unfold a1U;rw[decide_eq_true (by rw[a4U];omega)];rfl
def a2k(p:Pk):Int:=bits .u8 .or (bif p.2.2.2.1 then 1 else 0) (bif p.2.2.2.2.1 then 2 else 0)
def a0R(p:Pk):List Int:=[wrap .u8 p.1,a2k p]++(a0Q p.2.1.toNat 8++(a0Q p.2.2.1.toNat 8++p.2.2.2.2.2.1))
theorem a4c(p:Pk):(a0R p).length=18+p.2.2.2.2.2.1.length:=by
 simp only[a0R,lN,a0N,lC,a05];omega
theorem b1p{p:Pk}{s:Int}(h:PkOk s p)(x:0≤s)(y:s<4):a4g p=some (a0R p,0):=by
 obtain⟨d,g,f,b,a,w,u⟩:=p;obtain⟨c,j,l,m,o,q,r⟩:=h;simp only at c j l m o q r;subst c;have t:wrap .u64 g=((g.toNat:Nat):Int):=by
  have:=a3S (n:=g.toNat) (by omega)
  rwa [show((g.toNat:Nat):Int)=g by omega]at this⊢
 have v:wrap .u64 f=((f.toNat:Nat):Int):=by
  have:=a3S (n:=f.toNat) (by omega)
  rwa [show((f.toNat:Nat):Int)=f by omega]at this⊢
 have b1:=a5c (n:=g.toNat) (k:=8) (by omega) (by omega);have b2:=a5c (n:=f.toNat) (k:=8) (by omega) (by omega);have e:a1D (b,1)=some (bif b then 1 else 0):=by cases b<;>rfl
 have i:a1D (a,2)=some (bif a then 2 else 0):=by cases a<;>rfl
 unfold a4g;simp only;rw[decide_eq_false (show ¬ d<0 by omega),decide_eq_false (show ¬ d≥4 by omega),decide_eq_false (show ¬ g<0 by omega),decide_eq_false (show ¬ g > 1125899906842624 by omega),decide_eq_false (show ¬ f<0 by omega),decide_eq_false (show ¬ f > 1125899906842624 by omega)];simp only[cF,oB];rw[decide_eq_false (show ¬ ((w.length:Nat):Int) > 65536 by omega)];simp only[cF,e,i,t,v,oB];rw[show((8:Nat):Int)=8 from rfl]at b1 b2;simp only[b1,b2,oB,a0N,a16,lN,lC,a05];rw[a0F (by omega),a0F (by omega),a0F (by omega)];simp only[cT,a0R,a2k,aA]
structure StrOk (n:Nat) (L:List (List Pk)):Prop where
 one:1≤L.length
 four:L.length≤4
 ok:∀(i:Nat) l,L[i]?=some l→PksOk (i:Int) n l
theorem a8L(B:a1u (r+233) t)(A:n≤8):∃L j,a1F (t,(n:Int))=some (L,j)∧StrOk n L∧a1u r j:=by
 unfold a1F;obtain⟨a,D,u,a1,b1,x⟩:=a1p B (show(0:Int)<4 by decide);have v:wrap .i64 (1+a)=1+a:=w64 (by omega);simp only[u,oB,v];refine a1O (f:=a1T) (fun i h=>h.1=(n:Int)∧h.2.1=(i:Int)∧(h.2.2.1.length:Int)+i=1+a∧(∀(i:Nat) l,h.2.2.1[i]?=some l→PksOk (i:Int) n l)∧a1u (r+58*i) h.2.2.2.1)
  (fun w=>StrOk n w.1∧a1u r w.2.1) (1+a).toNat (n,1+a,[],D,()) ⟨rfl,by simp only;omega,by simp only[a05];omega,by simp,x.mono (by omega)⟩ (fun w C p=>?_) (fun i h c=>?_)
 rw[C];exact⟨_,_,rfl,p.1,p.2⟩;obtain⟨q,E,F,m,o⟩:=c;unfold a1T
 by_cases hp:h.2.1 > 0
 left;obtain⟨l,j,e,y,d⟩:=a8G (r:=r+58*(i-1)) (s:=(h.2.2.1.length:Int)) (o.mono (by omega)) A;rw[decide_eq_true hp,q];simp only[cT,oB,e];rw[a0F (by omega)];refine⟨_,i-1,rfl,by omega,rfl,?_,?_,?_,d⟩;show wrap .i64 (h.2.1-1)=_;rw[w64 (by omega)];omega;show((h.2.2.1.append [_]).length:Int)+_=_;simp only[a16,lN,a06];omega;intro k z g;have g:(h.2.2.1++[l])[k]?=some z:=g
 by_cases hk:k<h.2.2.1.length
 rw[a48 hk]at g;exact m k z g;rw[a36 (by omega)]at g;have b:k-h.2.2.1.length=0:=by
  have:=(lS.1 g).1
  simpa using this
 rw[b]at g;cases g
 have:k=h.2.2.1.length:=by omega
 rw[this];exact y;right;rw[decide_eq_false hp];exact⟨_,rfl,⟨by show 1≤h.2.2.1.length;omega,by show h.2.2.1.length≤4;omega,m⟩,o.mono (by omega)⟩
abbrev Inf:Type:=Int×((Int×(Int×Unit))×((Int×(Int×(Int×Unit)))×(Int×(Int×(Int×(Int×Unit))))))
variable {a:List Inf}
inductive InfOk:Inf→Prop where
 |sound (n d r c b:Int) (hn:1≤n∧n≤1048576) (hd:1≤d∧d≤1048576) (hr:1≤r∧r≤1048576) (hc:1≤c∧c≤8) (hb:b=4∨b=8∨b=16∨b=24):InfOk (1,((n,(d,())),((r,(c,(b,()))),(0,(0,(0,(0,())))))))
 |images (n d w h e p:Int) (hn:1≤n∧n≤1048576) (hd:1≤d∧d≤1048576) (hw:1≤w∧w≤64) (hh:1≤h∧h≤64) (he:1≤e∧e≤16) (hp:1≤p∧p≤4):InfOk (2,((n,(d,())),((0,(0,(0,()))),(w,(h,(e,(p,())))))))
theorem b1q{i:Inf}(h:InfOk i):a3G i=some true:=by
 cases h with
 |sound n d r c b hn hd hr hc hb=>
  have g:a4P b=some true:=by rcases hb with rfl|rfl|rfl|rfl<;>kernel_rfl
  simp only[a3G,a4S,a4Q,decide_eq_true hn.1,decide_eq_true hn.2,decide_eq_true hd.1,decide_eq_true hd.2,decide_eq_true hr.1,decide_eq_true hr.2,decide_eq_true hc.1,decide_eq_true hc.2,g,ge_iff_le];rfl
 |images n d w h e p hn hd hw hh he hp=>
  simp only[a3G,a4S,a2z,decide_eq_true hn.1,decide_eq_true hn.2,decide_eq_true hd.1,decide_eq_true hd.2,decide_eq_true hw.1,decide_eq_true hw.2,decide_eq_true hh.1,decide_eq_true hh.2,decide_eq_true he.1,decide_eq_true he.2,decide_eq_true hp.1,decide_eq_true hp.2,ge_iff_le];rfl
theorem a7N(a:a1u (r+1) t):∃n d t',a1A t=some ((n,d,()),t')∧(1≤n∧n≤1048576)∧(1≤d∧d≤1048576)∧a1u r t':=by
 unfold a1A;obtain⟨v,b,g,a1,b1,f⟩:=a1p a (show(0:Int)<6 by decide);simp only[g,oB,decide_eq_true a1,decide_eq_true b1,a19,cT]
 have:a11 v=0∨a11 v=1∨a11 v=2∨a11 v=3∨a11 v=4∨a11 v=5:=by omega
 rcases this with h|h|h|h|h|h<;>rw[h]<;>exact⟨_,_,_,rfl,by decide,by decide,f⟩
theorem a9C{k:Nat}(p:a1u (k+3) t):∃r c b t',a1J t=some ((r,c,b,()),t')∧(1≤r∧r≤1048576)∧(1≤c∧c≤8)∧(b=4∨b=8∨b=16∨b=24)∧a1u k t':=by
 unfold a1J;obtain⟨f,u,i,a1,b1,m⟩:=a1p p (show(0:Int)<50000 by decide);obtain⟨a,t2,j,s,b2,n⟩:=a1p m (show(0:Int)<3 by decide);obtain⟨g,v,l,d,e,o⟩:=a1p n (show(0:Int)<4 by decide);simp only[i,j,l,oB,decide_eq_true d,decide_eq_true e,a19,cT];have q:wrap .i64 (1+f)=1+f:=w64 (by omega);have w2:wrap .i64 (1+a)=1+a:=w64 (by omega);rw[q,w2]
 have:a11 g=0∨a11 g=1∨a11 g=2∨a11 g=3:=by omega
 rcases this with h|h|h|h<;>rw[h]<;>exact⟨_,_,_,_,rfl,by omega,by omega,by decide,o⟩
theorem b2b(ht:a1u (r+257) t)(hn:n≤8):∃a L l,a4F (t,(n:Int))=some (a,L,l)∧a.length=L.length∧(∀i∈a,InfOk i)∧StrOk n L∧a1u r l:=by
 unfold a4F;obtain⟨L,t1,O,z,X⟩:=a8L (r:=r+24) ht hn;have g:=z.four;simp only[O,oB];refine a1O (f:=a4x) (fun i h=>h.1+(i:Int)=(L.length:Int)∧0≤h.1∧h.2.1=L∧(h.2.2.1.length:Int)=h.1∧(∀i∈h.2.2.1,InfOk i)∧a1u (r+6*i) h.2.2.2.1)
  (fun w=>w.1=L∧w.2.1.length=L.length∧(∀i∈w.2.1,InfOk i)∧a1u r w.2.2.1) L.length (0,L,[],t1,()) ⟨by simp,by simp,rfl,by simp,by simp,X.mono (by omega)⟩ (fun w hw hQ=>?_) (fun i h A=>?_)
 rw[hw];obtain⟨N,q2,q3,C⟩:=hQ;exact⟨w.2.1,w.1,w.2.2.1,rfl,by rw[N];exact q2,q3,by rw[N];exact z,C⟩;obtain⟨c1,c2,m,c4,I,K⟩:=A;have h4:=z.four;unfold a4x
 by_cases hp:h.1<(h.2.1.length:Int)
 left;rw[m]at hp;have T:wrap .i64 (h.1+1)=h.1+1:=w64 (by omega);have done:∀(x:Inf)(l:a4o),InfOk x→a1u (r+6*(i-1)) l→∃s' j,some (Sum.inl (β:=List (List Pk)×(List Inf×(a4o×Unit))) (h.1+1,L,a93 h.2.2.1 [x],l,()))=some (.inl s')∧j<i∧(s'.1+(j:Int)=(L.length:Int)∧0≤s'.1∧s'.2.1=L∧(s'.2.2.1.length:Int)=s'.1∧(∀i∈s'.2.2.1,InfOk i)∧a1u (r+6*j) s'.2.2.2.1):=by
  intro x l hx B;refine⟨_,i-1,rfl,by omega,by show h.1+1+((i-1:Nat):Int)=_;omega,by show 0≤h.1+1;omega,rfl,?_,?_,B⟩;show((h.2.2.1.append [_]).length:Int)=_;simp only[a16,lN,a06];omega;intro p e;rcases mA.1 (show p∈h.2.2.1++[_]from e)with e|e;exact I p e;rw[a17]at e;rw[e];exact hx
 obtain⟨D,t2,P,a2,b2,M⟩:=a1p (r:=r+6*(i-1)+5) (K.mono (by omega)) (show(0:Int)<2 by decide);rw[m,decide_eq_true hp];simp only[cT,oB,P,T]
 by_cases hv:D=0
 obtain⟨n1,o,t3,q,u,v,y⟩:=a7N M;obtain⟨r9,c,b,t4,s,U,V,W,g⟩:=a9C y;have d:(D==0)=true:=by simp[hv]
 simp only[d,cT,q,s,oB];rw[a0F (by omega)];exact done _ _ (.sound n1 o r9 c b u v U V W) (g.mono (by omega));obtain⟨n1,o,t3,q,u,v,y⟩:=a7N M;obtain⟨E,t4,s,a4,b4,g⟩:=a1p y (show(0:Int)<64 by decide);obtain⟨F,t5,Q,a5,b5,Y⟩:=a1p g (show(0:Int)<64 by decide);obtain⟨G,t6,R,a6,b6,Z⟩:=a1p Y (show(0:Int)<16 by decide);obtain⟨H,t7,S,a7,b7,h7⟩:=a1p Z (show(0:Int)<4 by decide);have d:(D==0)=false:=by simp[hv]
 have C:wrap .i64 (1+E)=1+E:=w64 (by omega);have q5:wrap .i64 (1+F)=1+F:=w64 (by omega);have q6:wrap .i64 (1+G)=1+G:=w64 (by omega);have q7:wrap .i64 (1+H)=1+H:=w64 (by omega);simp only[d,cF,q,s,Q,R,S,oB,C,q5,q6,q7];rw[a0F (by omega)];exact done _ _ (.images n1 o (1+E) (1+F) (1+G) (1+H) u v (by omega) (by omega) (by omega) (by omega)) h7;right;rw[decide_eq_false hp];rw[m]at hp;exact⟨_,rfl,m,by show h.2.2.1.length=_;omega,I,K.mono (by omega)⟩
theorem a5M{x:List Int}(h:x.length<1000000):a2d x=some x:=by
 unfold a2d;rw[a0F (by omega)];cases x with
 |nil=>exact w0y _
 |cons a x=>rfl
theorem a1o{l:List α}{k:Nat}(h:k<l.length):n0p l (k:Int)=some l[k]:=by
 unfold n0p;rw[if_pos (by omega),tN,lG h]
theorem b3s{L':List (List Pk)}{n k s:Int}{ps:List Pk}(a:0≤s)(b:s<4)(h:∀p∈ps,PkOk s p)(c:ps.length<1000):
  x0y a2Q (L,s,L',n,k,ps,((ps.length:Nat):Int),(0:Int),())=some (.inl (L,L',n,k,())):=by
 refine a0K (f:=a2Q) (fun i=>(L,s,L',n,k,ps,((ps.length:Nat):Int),(i:Int),())) ps.length (fun i g=>?_) ?_
 unfold a2Q;simp only;have hp:=h ps[i] (a26 g);rw[decide_eq_true (show(i:Int)<((ps.length:Nat):Int)by omega),a1o g];simp only[cT,oB,b1p hp a b,hp.st,bne_self_eq_false,cF];rw[w64 (by omega)];rfl;unfold a2Q;simp only;rw[decide_eq_false (by omega)];rfl
theorem b3t{n k:Int}{ps out:List Pk}{s:Int}{m:Nat}(h:PksOk s m ps)(d:out.length+ps.length<1000):
  x0y a2R (ps,L,n,k,ps,((ps.length:Nat):Int),(0:Int),out,())=some (.inl (L,n,k,out++ps,())):=by
 have:=a0K (f:=a2R) (fun i=>(ps,L,n,k,ps,((ps.length:Nat):Int),(i:Int),out++ps.take i,())) ps.length (b:=.inl (L,n,k,out++ps,())) (fun i g=>?_) ?_
 rw[a41,a03]at this;exact this;unfold a2R;simp only;have hp:=h.ok ps[i] (a26 g);have a:a3Z ps[i]=some ps[i]:=by
  unfold a3Z;rw[a5M (by have:=hp.dat;omega)];rfl
 have c:wrap .i64 ((i:Int)+1)=((i+1:Nat):Int):=by rw[w64 (by omega)];omega
 rw[decide_eq_true (show(i:Int)<((ps.length:Nat):Int)by omega),a1o g];simp only[cT,oB];refine a0E (v:=(ps,L,n,k,ps,((ps.length:Nat):Int),(i:Int),false,out++ps.take i,ps[i],()) ) ?_ ?_
 by_cases h0:i=0
 subst h0;rfl;rw[decide_eq_true (show(i:Int) > 0 by omega)];have w2:wrap .i64 ((i:Int)-1)=((i-1:Nat):Int):=by rw[w64 (by omega)];omega
 rw[w2,a1o (show i-1<ps.length by omega)]
 have:=a65.1 h.asc (i-1) i (by omega) g (by omega)
 simp only[cT,oB];rw[decide_eq_false (by omega)];simp only[cF,a,oB,c];rw[a0F (by simp only[lN,a00];omega),a07 g];simp only[cT,a16,aA];unfold a2R;simp only;rw[decide_eq_false (by omega),a24];rfl
theorem a5N{m:Nat}:∀{L:List (List Pk)},(∀l∈L,l.length≤m)→L.flatten.length≤m*L.length
 | [],_=>by simp
 |l::L,h=>by
  have f:=h l (by simp);have a:=a5N (L:=L) fun l g=>h l (by simp[g]);rw[b08,lN,lC,Nat.mul_succ];omega
theorem StrOk.lens(h:StrOk n L):∀l∈L,l.length≤n:=fun l f=>by
 obtain⟨i,g⟩:=a28 f;exact(h.ok i l g).len
theorem b2c(h:StrOk n L)(d:n≤8):∃Z,a2L L=some (Z,0)∧Asc Z∧Stb L.flatten Z:=by
 have e:=h.four;have t:=h.one;have i:L.flatten.length≤32:=by
  have:=a5N h.lens
  have:n*L.length≤8*4:=a96 d e
  omega
 obtain⟨Z,p,r,s⟩:=b2F (l:=L.flatten) (by omega);refine⟨Z,?_,r,s⟩;unfold a2L;rw[decide_eq_false (show ¬ ((L.length:Nat):Int)<1 by omega),decide_eq_false (show ¬ ((L.length:Nat):Int) > 4 by omega)];simp only[cF,oB];refine a0E (v:=.inl (L,())) ?_ ?_
 refine a0K (f:=a3E) (fun k=>(L,L,((L.length:Nat):Int),(k:Int),())) L.length (fun k a=>?_) ?_
 unfold a3E;simp only;have g:=h.ok k L[k] (lG a);have c:=g.len;rw[decide_eq_true (show(k:Int)<((L.length:Nat):Int)by omega),a1o a];simp only[cT,oB];rw[b3s (by omega) (by omega) g.ok (by omega)];simp only[oB];rw[w64 (by omega)];rfl;unfold a3E;simp only;rw[decide_eq_false (by omega)];rfl;simp only;refine a0E (v:=.inl (L.flatten,())) ?_ ?_
 have:=a0K (f:=a3F) (fun k=>(L,((L.length:Nat):Int),(k:Int),(L.take k).flatten,())) L.length (b:=.inl (L.flatten,())) (fun k a=>?_) ?_
 exact this;unfold a3F;simp only;have g:=h.ok k L[k] (lG a);have c:=g.len;have j:(L.take k).flatten.length≤32:=by
  have q:=a5N (m:=n) (L:=L.take k) fun l o=>h.lens l (a27 o)
  have:n*(L.take k).length≤8*4:=a96 d (by rw[a00];omega)
  omega
 rw[decide_eq_true (show(k:Int)<((L.length:Nat):Int)by omega),a1o a];simp only[cT,oB];rw[b3t g (by omega)];simp only[oB];rw[w64 (by omega),a07 a,List.flatten_append,List.flatten_singleton];rfl;unfold a3F;simp only;rw[decide_eq_false (by omega),a24];rfl;simp only;refine a0E p rfl
abbrev Pge:Type:=Int×(Bool×(Bool×(Bool×(List Int×Unit))))
variable {g l:List Pge}{p:Pge}
def a1G(first:Bool)(seq:Nat)(r:List Int):List Pge:=
 if h:r=[]then[]else((seq:Int),first,decide (r.length≤252),false,r.take 252,())::a1G false (seq+1) (r.drop 252)
termination_by r.length
decreasing_by
 have:=a02.2 h
 rw[a01];omega
theorem a2u(first:Bool)(h:Nat):a1G first h []=[]:=by rw[a1G,dif_pos rfl]
theorem a2J{first:Bool}{seq:Nat}{r:List Int}(h:r≠[]):a1G first seq r=((seq:Int),first,decide (r.length≤252),false,r.take 252,())::a1G false (seq+1) (r.drop 252):=by rw[a1G,dif_neg h]
theorem a5d:∀(n:Nat)(first:Bool)(seq:Nat)(r:List Int),r.length≤n→(a1G first seq r).length≤r.length
 |0,first,seq,r,h=>by
  have:r=[]:=a20.1 (by omega)
  rw[this,a2u];exact a08 _
 |n+1,first,seq,r,h=>by
  by_cases hr:r=[]
  rw[hr,a2u];exact a08 _
  have:=a02.2 hr
  rw[a2J hr,lC]
  have:=a5d n false (seq+1) (r.drop 252) (by rw[a01];omega)
  rw[a01]at this;omega
def a0P:Nat→List (List Int)→List Pge
 |_,[]=>[]
 |seq,b::bs=>a1G true seq b++a0P (seq+(a1G true seq b).length) bs
theorem b3u{b:List Int}{n k:Int}{laid:List (List Int)}{pages:List Pge}(s:b≠[])(u:pages.length+b.length<1000000):
  x0y a3t ((0:Int),b,(0:Int),n,k,pages,laid,())=some (.inl ((0:Int),n,k,pages++a1G true pages.length b,laid,())):=by
 refine a1O (f:=a3t) (fun m e=>∃(i:Nat)(Q:List Pge),m=(b.drop i).length∧i≤b.length+252∧e=((0:Int),b,(i:Int),n,k,Q,laid,())∧Q.length+(b.drop i).length≤pages.length+b.length∧Q++a1G (decide (i=0)) Q.length (b.drop i)=pages++a1G true pages.length b)
  (fun w=>w=.inl ((0:Int),n,k,pages++a1G true pages.length b,laid,()))
  b.length ((0:Int),b,(0:Int),n,k,pages,laid,()) ⟨0,pages,rfl,by omega,rfl,a08 _,rfl⟩ (fun w q o=>by rw[q,o]) (fun m e d=>?_)
 obtain⟨i,Q,rfl,t,rfl,v,c⟩:=d;have x:(b.drop i).length=b.length-i:=a01;unfold a3t;simp only
 by_cases hlt:i<b.length
 left;have p:b.drop i≠[]:=a02.1 (by omega);rw[decide_eq_true (show(i:Int)<((b.length:Nat):Int)by omega)];have r:wrap .i64 ((0:Int)+((Q.length:Nat):Int))=((Q.length:Nat):Int):=by rw[w64 (by omega)];omega
 have w2:wrap .i64 ((i:Int)+252)=((i+252:Nat):Int):=by rw[w64 (by omega)];omega
 have a:x0v ((i+252:Nat):Int) ((b.length:Nat):Int)=((min (i+252) b.length:Nat):Int):=by
  unfold x0v
  by_cases hc:((b.length:Nat):Int)<((i+252:Nat):Int)
  rw[decide_eq_true hc,a62 (by omega)];rfl;rw[decide_eq_false hc,a56 (by omega)];rfl
 rw[r,w2,a,decide_eq_false (show ¬ ((Q.length:Nat):Int) > 2147483647 by omega)];have g:a54 (a11 (i:Int)) (a42 (a11 ((min (i+252) b.length:Nat):Int)) b)=(b.drop i).take 252:=by
  rw[tN,tN,b26]
  by_cases hc:i+252<b.length
  rw[a56 (by omega),show i+252-i=252 by omega];rw[a62 (by omega),a29 (by omega),a29 (by omega)]
 rw[g,a5M (by rw[a00];omega),tN,a0F (show Q.length+1<2147483648 by omega)];rw[decide_eq_true (show(0:Int)≤((min (i+252) b.length:Nat):Int)by omega),decide_eq_true (show((min (i+252) b.length:Nat):Int)≤((b.length:Nat):Int)by omega),decide_eq_true (show(0:Int)≤(i:Int)by omega),decide_eq_true (show(i:Int)≤((min (i+252) b.length:Nat):Int)by omega)];have j:((i:Int)==0)=decide (i=0):=by
  by_cases h:i=0
  rw[h];rfl;rw[decide_eq_false h];simp;omega
 have l:(((min (i+252) b.length:Nat):Int)==((b.length:Nat):Int))=decide ((b.drop i).length≤252):=by
  by_cases h:(b.drop i).length≤252
  rw[decide_eq_true h];simp;omega;rw[decide_eq_false h];simp;omega
 rw[j,l];simp only[cT,cF,a19,oB];refine⟨_,(b.drop (i+252)).length,rfl,by simp only[a01];omega,i+252,Q++[((Q.length:Int),decide (i=0),decide ((b.drop i).length≤252),false,(b.drop i).take 252,())],rfl,by omega,rfl,?_,?_⟩;simp only[lN,a06,a01];omega;rw[←c,a2J p,b27];simp only[aA,a38,lN,a06];rw[decide_eq_false (show ¬ i+252=0 by omega)];right;rw[decide_eq_false (show ¬ (i:Int)<((b.length:Nat):Int)by omega)];have h:b.drop i=[]:=a31.2 (by omega);rw[h,a2u,a03]at c;refine⟨_,rfl,?_⟩;rw[c]
def a5e(p:Pk):Prop:=∃s,PkOk s p∧0≤s∧s<4
theorem a6v(p:Pk):a0R p≠[]:=a02.1 (by rw[a4c];omega)
theorem a7l:∀(bs:List (List Int)) (seq:Nat) (m:Nat),(∀b∈bs,b.length≤m)→(a0P seq bs).length≤m*bs.length
 | [],_,_,_=>by simp[a0P]
 |b::bs,seq,m,h=>by
  have f:=a7l bs (seq+(a1G true seq b).length) m fun c g=>h c (by simp[g]);have a:=a5d b.length true seq b (a08 _);have d:=h b (by simp);rw[a0P,lN,lC,Nat.mul_succ];omega
theorem a8M{bs:List (List Int)}:∀(rest done:List (List Int)) (pages:List Pge),done++rest=bs→(∀b∈rest,b≠[]∧b.length≤1000)→pages.length+1000*rest.length<1000000→bs.length<1000→
  x0y a2E ((0:Int),((bs.length:Nat):Int),((done.length:Nat):Int),pages,bs,())=some (.inl (pages++a0P pages.length rest,()))
 | [],done,pages,he,_,_,_=>by
  rw[a03]at he;subst he;refine a1e ?_
  unfold a2E;simp only;rw[decide_eq_false (by omega),a0P,a03];rfl
 |b::rest,done,pages,he,hb,hl,hn=>by
  have g:bs.length=done.length+(rest.length+1):=by rw[←he,lN,lC]
  obtain⟨h,f⟩:=hb b (by simp);have d:=a5d b.length true pages.length b (a08 _);have e:a23 bs (a11 ((done.length:Nat):Int)) ([]:List Int)=b:=by
   rw[←he];exact a4K done rest b [] rfl
  rw[lC]at hl;have step:a2E ((0:Int),((bs.length:Nat):Int),((done.length:Nat):Int),pages,bs,())=some (.inl ((0:Int),((bs.length:Nat):Int),(((done++[b]).length:Nat):Int),pages++a1G true pages.length b,bs,())):=by
   unfold a2E;simp only;rw[decide_eq_true (show((done.length:Nat):Int)<((bs.length:Nat):Int)by omega),decide_eq_true (show(0:Int)≤((done.length:Nat):Int)by omega),e];simp only[cT,a19];rw[b3u h (by omega)];simp only[oB];rw[w64 (by omega),lN];rfl
  rw[a1x step,a8M rest (done++[b]) (pages++a1G true pages.length b) (by rw[←he,aA];rfl) (fun c a=>hb c (by simp[a])) (by rw[lN];omega) hn];rw[a0P,aA,lN]
theorem b2d{l:List Pk}(h:∀p∈l,a5e p)(o:l.length<40):a2S (l,0)=some (a0P 0 (l.map a0R),0):=by
 unfold a2S;simp only;rw[decide_eq_false (show ¬ (0:Int)<0 by decide),decide_eq_false (show ¬ (0:Int) > 2147483647 by decide)];simp only[cF,oB];rw[decide_eq_true (show(0:Int)≤((l.length:Nat):Int)by omega),decide_eq_true (Int.le_refl ((l.length:Nat):Int)),tN,a0F (by omega)];simp only[cT,a19];refine a0E (v:=.inl ((0:Int),l.map a0R,())) ?_ ?_
 have:=a0K (f:=a3s) (fun i=>((0:Int),l,((l.length:Nat):Int),(i:Int),(l.take i).map a0R++a97 (l.length-i) ([]:List Int),())) l.length (b:=.inl ((0:Int),l.map a0R,())) (fun i a=>?_) ?_
 exact this;unfold a3s;simp only;obtain⟨s,hp,d,e⟩:=h l[i] (a26 a);have c:((l.take i).map a0R).length=i:=by rw[a47,a00];omega
 have g:((l.take i).map a0R++a97 (l.length-i) ([]:List Int)).length=l.length:=by rw[lN,c,a94];omega
 rw[decide_eq_true (show(i:Int)<((l.length:Nat):Int)by omega),a1o a];simp only[cT,oB,b1p hp d e,bne_self_eq_false,cF];rw[g,decide_eq_true (show(0:Int)≤(i:Int)by omega),decide_eq_true (show(i:Int)<((l.length:Nat):Int)by omega),tN];simp only[cT,a19];rw[w64 (by omega),a57 _ _ (by omega),c,a60];obtain⟨r,m⟩:∃r,l.length-i=r+1:=⟨l.length-i-1,by omega⟩;rw[m,List.replicate_succ,b04,a07 a,pA,show l.length-(i+1)=r by omega];simp only[aA,a86,List.map_nil,a38];rfl;unfold a3s;simp only;rw[decide_eq_false (by omega),a24,a60,List.replicate_zero,a03];rfl;simp only
 have:=a8M (bs:=l.map a0R) (l.map a0R) [] [] rfl (fun b j=>by
  obtain⟨p,hp,rfl⟩:=List.mem_map.1 j;obtain⟨s,n,-⟩:=h p hp;exact⟨a6v p,by rw[a4c];have:=n.dat;omega⟩) (by rw[a05,a47];omega) (by rw[a47];omega)
 refine a0E (v:=.inl (a0P 0 (l.map a0R),())) ?_ rfl;exact this
theorem b2G{l:List Int}(o:l.length<1000000):∃v,a1l l=some (bits .u32 .xor (IntKind.max .u32) v):=by
 unfold a1l;refine a1O (f:=a3q) (fun k a=>∃(v:Int)(i:Nat),a=(v,l,((l.length:Nat):Int),(i:Int),())∧i+k=l.length) (fun _=>True) l.length ((4294967295:Int),l,((l.length:Nat):Int),(0:Int),()) ⟨_,0,rfl,by omega⟩ (fun w b _=>⟨w.1,by rw[b];rfl⟩) (fun k a g=>?_);obtain⟨v,i,rfl,e⟩:=g;unfold a3q;simp only
 by_cases h:i<l.length
 ·left;rw[decide_eq_true (show(i:Int)<((l.length:Nat):Int)by omega),a1o h];simp only[cT,oB];refine a1O (f:=a3p) (fun m a=>∃(u:Int)(j:Nat),a=(u,l,((l.length:Nat):Int),(i:Int),(j:Int),())∧j+m=8) (fun w=>∃u:Int,w=(u,l,((l.length:Nat):Int),(i:Int),())) 8 (bits .u32 .xor v (wrap .u32 l[i]),l,((l.length:Nat):Int),(i:Int),(0:Int),()) ⟨_,0,rfl,rfl⟩ (fun w b c=>?_) (fun m a g=>?_);obtain⟨u,rfl⟩:=c;rw[b];simp only[oB];rw[w64 (by omega)];exact⟨_,k-1,rfl,by omega,u,i+1,rfl,by omega⟩
  ·obtain⟨u,j,rfl,n⟩:=g;unfold a3p;simp only
   by_cases h8:j<8
   ·left;have d:wrap .i64 ((j:Int)+1)=((j+1:Nat):Int):=by rw[w64 (by omega)];omega
    rw[decide_eq_true (show(j:Int)<8 by omega),d];simp only[cT];cases (bits .u32 .and u (1:Int))==(1:Int)with
    |true=>exact⟨_,m-1,rfl,by omega,_,j+1,rfl,by omega⟩
    |false=>exact⟨_,m-1,rfl,by omega,_,j+1,rfl,by omega⟩
   right;rw[decide_eq_false (show ¬ (j:Int)<8 by omega)];exact⟨_,rfl,u,rfl⟩
 right;rw[decide_eq_false (show ¬ (i:Int)<((l.length:Nat):Int)by omega)];exact⟨_,rfl,trivial⟩
def a1c(l:List Int):Int:=(a1l l).getD 0
theorem b5b(n:Int):0≤wrap .u32 n∧wrap .u32 n<4294967296:=by
 simp only[wrap,IntKind.bits,IntKind.signed]
 simp
 omega
theorem a6l{l:List Int}(h:l.length<1000000):a1l l=some (a1c l)∧0≤a1c l∧a1c l<4294967296:=by
 obtain⟨v,hv⟩:=b2G h;have e:a1c l=bits .u32 .xor (IntKind.max .u32) v:=by rw[a1c,hv];rfl
 refine⟨by rw[e];exact hv,?_⟩;rw[e];exact b5b _
structure PgOk (p:Pge):Prop where
 s0:0≤p.1
 s1:p.1≤1000000
 b0:1≤p.2.2.2.2.1.length
 b1:p.2.2.2.2.1.length≤(bif p.2.2.2.1 then 255 else 252)
def pgH(p:Pge):List Int:=[75,80,bits .u8 .or (bits .u8 .or (bif p.2.1 then 1 else 0) (bif p.2.2.1 then 2 else 0)) (bif p.2.2.2.1 then 4 else 0)]++(a0Q p.1.toNat 4++([wrap .u8 ((p.2.2.2.2.1.length:Nat):Int)]++p.2.2.2.2.1))
def pgB(p:Pge):List Int:=pgH p++a0Q (a1c (pgH p)).toNat 4
theorem a6w(p:Pge):(pgH p).length=8+p.2.2.2.2.1.length:=by
 simp only[pgH,lN,a0N,lC,a05];omega
theorem a6x(p:Pge):(pgB p).length=12+p.2.2.2.2.1.length:=by
 rw[pgB,lN,a6w,a0N];omega
theorem a4A(h:PgOk p):a2q p=some (pgB p,0):=by
 obtain⟨m,o,q,c⟩:=h;have r:p.2.2.2.2.1.length≤255:=by
  revert c
  cases p.2.2.2.1<;>simp only[cT,cF]<;>omega
 have d:a1M p.2.2.2.1=some (((bif p.2.2.2.1 then 255 else 252:Nat):Nat):Int):=by
  unfold a1M;cases p.2.2.2.1<;>rfl
 have f:a1D (p.2.1,1)=some (bif p.2.1 then 1 else 0):=by cases p.2.1<;>rfl
 have a:a1D (p.2.2.1,2)=some (bif p.2.2.1 then 2 else 0):=by cases p.2.2.1<;>rfl
 have b:a1D (p.2.2.2.1,4)=some (bif p.2.2.2.1 then 4 else 0):=by cases p.2.2.2.1<;>rfl
 have i:wrap .u64 p.1=((p.1.toNat:Nat):Int):=by
  have:=a3S (n:=p.1.toNat) (by omega)
  rwa [show((p.1.toNat:Nat):Int)=p.1 by omega]at this⊢
 have b1:=a5c (n:=p.1.toNat) (k:=4) (by omega) (by omega);rw[show((4:Nat):Int)=4 from rfl]at b1;obtain⟨j,s,t⟩:=a6l (l:=pgH p) (by rw[a6w];omega);have e:wrap .u64 (a1c (pgH p))=(((a1c (pgH p)).toNat:Nat):Int):=by
  have:=a3S (n:=(a1c (pgH p)).toNat) (by omega)
  rwa [show(((a1c (pgH p)).toNat:Nat):Int)=a1c (pgH p)by omega]at this⊢
 have b2:=a5c (n:=(a1c (pgH p)).toNat) (k:=4) (by omega) (by omega);rw[show((4:Nat):Int)=4 from rfl]at b2;have g:a93 (a93 (a93 ([75,80,bits .u8 .or (bits .u8 .or (bif p.2.1 then 1 else 0) (bif p.2.2.1 then 2 else 0)) (bif p.2.2.2.1 then 4 else 0)]:List Int) (a0Q p.1.toNat 4)) ([wrap .u8 ((p.2.2.2.2.1.length:Nat):Int)]:List Int)) p.2.2.2.2.1=pgH p:=by
  simp only[pgH,a16,aA]
 unfold a2q;rw[decide_eq_false (show ¬ p.1<0 by omega),decide_eq_false (show ¬ p.1 > 2147483647 by omega),decide_eq_false (show ¬ ((p.2.2.2.2.1.length:Nat):Int)<1 by omega)];simp only[cF,d,oB];rw[decide_eq_false (show ¬ ((p.2.2.2.2.1.length:Nat):Int) > (((bif p.2.2.2.1 then 255 else 252:Nat):Nat):Int)by omega)];simp only[cF,f,a,b,i,b1,oB,g,j,e,b2];simp only[a16,lN,a0N,a6w,lC,a05];rw[a0F (by omega),a0F (by omega),a0F (by omega),a0F (by omega)];rfl
theorem a8N(h:PgOk p):a2a p=some true:=by
 unfold a2a;rw[a4A h];rfl
theorem a7O(h:PgOk p):a2y p=some p:=by
 unfold a2y;have g:p.2.2.2.2.1.length≤255:=by
  have:=h.b1
  revert this
  cases p.2.2.2.1<;>simp only[cT,cF]<;>omega
 rw[a0F (by omega)];rfl
theorem b2e{to fr:List Int}(j:to.length<1000)(l:fr.length<1000):∃r,a3B (to,fr)=some (r,[])∧r.length=max to.length fr.length:=by
 unfold a3B;simp only;refine a1O (f:=a4h) (fun k a=>∃t:List Int,a=(fr,t,())∧to.length≤t.length∧t.length≤max to.length fr.length∧k=fr.length-t.length) (fun w=>∃t:List Int,w=(fr,t,())∧t.length=max to.length fr.length) (fr.length-to.length) (fr,to,()) ⟨to,rfl,a08 _,by omega,rfl⟩ (fun w c b=>?_) (fun k a g=>?_);obtain⟨t,rfl,e⟩:=b;rw[c];simp only[oB];refine a1O (f:=a4i) (fun k a=>∃(r:List Int)(i:Nat),a=(fr,((fr.length:Nat):Int),(i:Int),r,())∧r.length=max to.length fr.length∧i+k=fr.length) (fun w=>w.1.length=max to.length fr.length) fr.length (fr,((fr.length:Nat):Int),(0:Int),t,()) ⟨t,0,rfl,e,by omega⟩ (fun w c b=>⟨w.1,by rw[c];rfl,b⟩) (fun k a g=>?_);obtain⟨r,i,rfl,d,m⟩:=g;unfold a4i;simp only
 by_cases h:i<fr.length
 left;rw[decide_eq_true (show(i:Int)<((fr.length:Nat):Int)by omega),a1o h];simp only[cT,oB];rw[decide_eq_true (show(0:Int)≤(i:Int)by omega),decide_eq_true (show(i:Int)<((r.length:Nat):Int)by omega),w64 (by omega)];exact⟨_,k-1,rfl,by omega,_,i+1,rfl,by rw[a44];exact d,by omega⟩;right;rw[decide_eq_false (show ¬ (i:Int)<((fr.length:Nat):Int)by omega)];exact⟨_,rfl,d⟩;obtain⟨t,rfl,n,o,rfl⟩:=g;unfold a4h;simp only
 by_cases h:t.length<fr.length
 left;rw[decide_eq_true (show((t.length:Nat):Int)<((fr.length:Nat):Int)by omega),a0F (by omega)];exact⟨_,fr.length-(t.length+1),rfl,by omega,t++[0],rfl,by rw[lN];omega,by rw[lN,a06];omega,by rw[lN,a06]⟩;right;rw[decide_eq_false (show ¬ ((t.length:Nat):Int)<((fr.length:Nat):Int)by omega)];exact⟨_,rfl,t,rfl,by omega⟩
theorem b1r(p:Pge):∃v,a3A p=some v:=by
 obtain⟨a,f,l,g,b,u⟩:=p;unfold a3A;cases f<;>cases l<;>exact⟨_,rfl⟩
structure PgPlain (p:Pge):Prop extends PgOk p where
 ng:p.2.2.2.1=false
theorem PgPlain.b2(h:PgPlain p):p.2.2.2.2.1.length≤252:=by
 have:=h.b1
 rw[h.ng]at this;exact this
theorem b2f(o:∀p∈g,PgPlain p)(c:g≠[])(B:g.length≤8):∃q sum v1 v2,a2T g=some q∧q=((g.head c).1,false,false,true,(((g.length:Nat):Int)::v1::v2::sum),())∧1≤sum.length∧sum.length≤252:=by
 have t:=a02.2 c;unfold a2T;refine a1O (f:=a4j) (fun k m=>∃(a b:Int)(i:Nat)(s:List Int)(z:Pge),m=(g,a,b,g,((g.length:Nat):Int),(i:Int),s,z,())∧i+k=g.length∧s.length≤252∧(0<i→1≤s.length)) (fun w=>∃(a b:Int)(s:List Int)(z:Pge),w=(g,a,b,s,z,())∧1≤s.length∧s.length≤252) g.length (g,(0:Int),(0:Int),g,((g.length:Nat):Int),(0:Int),([]:List Int),((0:Int),false,false,false,([]:List Int),()),()) ⟨0,0,0,[],_,rfl,by omega,by simp,by omega⟩ (fun w y n=>?_) (fun k m d=>?_);obtain⟨a,b,s,z,rfl,e,j⟩:=n;rw[y];simp only[oB];have A:n0p g (0:Int)=some (g.head c):=by
  have:=a1o (l:=g) (k:=0) t
  rw[show((0:Nat):Int)=0 from rfl]at this;rw[this,b00]
 rw[a0F (by omega),A,b0K (by omega)];exact⟨_,s,a,b,rfl,rfl,e,j⟩;obtain⟨a,b,i,s,z,rfl,C,e,j⟩:=d;unfold a4j;simp only
 by_cases h:i<g.length
 left;have hp:=o g[i] (a26 h);have E:=hp.b2;have D:=hp.b0;obtain⟨v,hv⟩:=b1r g[i];obtain⟨r,u,x⟩:=b2e (to:=s) (fr:=(g[i]).2.2.2.2.1) (by omega) (by omega);rw[decide_eq_true (show(i:Int)<((g.length:Nat):Int)by omega),a1o h];simp only[cT,oB,hv,u];rw[w64 (by omega)];exact⟨_,k-1,rfl,by omega,_,_,i+1,r,z,rfl,by omega,by omega,fun _=>by omega⟩;right;rw[decide_eq_false (show ¬ (i:Int)<((g.length:Nat):Int)by omega)];exact⟨_,rfl,a,b,s,z,rfl,j (by omega),e⟩
@[reducible] def zPg:Pge:=((0:Int),(false,(false,(false,(([]:List Int),())))))
def gOf(g:List Pge):Pge:=(a2T g).getD zPg
def a0T(l:List Pge):List Pge:=
 if h:l=[]then[]else l.take 8++gOf (l.take 8)::a0T (l.drop 8)
termination_by l.length
decreasing_by
 have:=a02.2 h
 rw[a01];omega
theorem a1P:a0T []=[]:=by rw[a0T,dif_pos rfl]
theorem a3n(h:l≠[]):a0T l=l.take 8++gOf (l.take 8)::a0T (l.drop 8):=by rw[a0T,dif_neg h]
def b0L(l:List Pge):Prop:=∀(i:Nat)(p:Pge),l[i]?=some p→p.1=(i:Int)
theorem a7m(m:∀p∈g,PgPlain p)(b:g≠[])(l:g.length≤8):a2T g=some (gOf g)∧∃h f a,gOf g=((g.head b).1,false,false,true,(((g.length:Nat):Int)::f::a::h),())∧1≤h.length∧h.length≤252:=by
 obtain⟨q,h,f,a,c,d,i,j⟩:=b2f m b l;have e:gOf g=q:=by rw[gOf,c];rfl
 rw[e];exact⟨c,h,f,a,d,i,j⟩
theorem b2g(hp:∀p∈l,PgPlain p)(c:b0L l)(m:l.length<1000000):x0y a2F (l,l,((l.length:Nat):Int),(0:Int),())=some (.inl (l,())):=by
 refine a0K (f:=a2F) (fun i=>(l,l,((l.length:Nat):Int),(i:Int),())) l.length (fun i g=>?_) ?_
 unfold a2F;simp only;have h:=hp l[i] (a26 g);have a:=c i l[i] (lG g);have e:wrap .i64 ((i:Int)+1)=((i+1:Nat):Int):=by rw[w64 (by omega)];omega
 rw[decide_eq_true (show(i:Int)<((l.length:Nat):Int)by omega),a1o g];simp only[cT,oB,a8N h.toPgOk,bT,cF,h.ng]
 by_cases h0:i=0
 subst h0;have d:wrap .i64 (((0:Nat):Int)+1)=((0+1:Nat):Int):=by decide
 rw[decide_eq_false (show ¬ ((0:Nat):Int) > 0 by decide)];simp only[cF,oB,d];rw[decide_eq_true (show(i:Int) > 0 by omega)];have w2:wrap .i64 ((i:Int)-1)=((i-1:Nat):Int):=by rw[w64 (by omega)];omega
 rw[w2,a1o (show i-1<l.length by omega)];have b:=c (i-1) l[i-1] (lG (by omega));simp only[cT,oB,a,b];have j:wrap .i64 (((i-1:Nat):Int)+1)=(i:Int):=by rw[w64 (by omega)];omega
 rw[j,e];simp only[bne_self_eq_false,cF];unfold a2F;simp only;rw[decide_eq_false (by omega)];rfl
theorem b2h{out:List Pge}{a:Int}(hp:∀p∈g,PgPlain p)(d:out.length+g.length<1000000):x0y a2G (l,a,g,g,((g.length:Nat):Int),(0:Int),out,())=some (l,a,g,out++g,()):=by
 have:=a0K (f:=a2G) (fun i=>(l,a,g,g,((g.length:Nat):Int),(i:Int),out++g.take i,())) g.length (b:=(l,a,g,out++g,())) (fun i h=>?_) ?_
 rw[a41,a03]at this;exact this;unfold a2G;simp only;have c:=hp g[i] (a26 h);rw[decide_eq_true (show(i:Int)<((g.length:Nat):Int)by omega),a1o h];simp only[cT,oB,a7O c.toPgOk];rw[a0F (by rw[lN,a00];omega),a07 h,w64 (by omega)];simp only[cT,a16,aA];rfl;unfold a2G;simp only;rw[decide_eq_false (by omega),a24];rfl
theorem b1s(hp:∀p∈l,PgPlain p)(r:b0L l)(u:l.length<100000):a2U l=some (a0T l,0):=by
 unfold a2U;refine a0E (b2g hp r (by omega)) ?_
 simp only;refine a0E (v:=(a0T l,())) ?_ rfl;refine a1O (f:=a4k) (fun k j=>∃(i:Nat)(out:List Pge),j=(l,(i:Int),out,())∧k=(l.drop i).length∧i≤l.length+8∧out.length≤2*i∧out++a0T (l.drop i)=a0T l) (fun w=>w=(a0T l,())) l.length (l,(0:Int),([]:List Pge),()) ⟨0,[],rfl,rfl,by omega,by simp,rfl⟩ (fun w s o=>by rw[s,o]) (fun k j d=>?_);obtain⟨i,out,rfl,rfl,t,x,b⟩:=d;have y:(l.drop i).length=l.length-i:=a01;unfold a4k;simp only
 by_cases h:i<l.length
 left;have c:l.drop i≠[]:=a02.1 (by omega);have w2:wrap .i64 ((i:Int)+8)=((i+8:Nat):Int):=by rw[w64 (by omega)];omega
 have a:x0v ((i+8:Nat):Int) ((l.length:Nat):Int)=((min (i+8) l.length:Nat):Int):=by
  unfold x0v
  by_cases hc:((l.length:Nat):Int)<((i+8:Nat):Int)
  rw[decide_eq_true hc,a62 (by omega)];rfl;rw[decide_eq_false hc,a56 (by omega)];rfl
 have g:a54 (a11 (i:Int)) (a42 (a11 ((min (i+8) l.length:Nat):Int)) l)=(l.drop i).take 8:=by
  rw[tN,tN,b26]
  by_cases hc:i+8<l.length
  rw[a56 (by omega),show i+8-i=8 by omega];rw[a62 (by omega),a29 (by omega),a29 (by omega)]
 have e:∀p∈(l.drop i).take 8,PgPlain p:=fun p q=>hp p (a32 (a27 q));have lg:((l.drop i).take 8).length≤8:=by rw[a00];omega
 obtain⟨m,-⟩:=a7m e (a02.1 (by rw[a00];omega)) lg;rw[w2,a,g,decide_eq_true (show(i:Int)<((l.length:Nat):Int)by omega),tN];rw[decide_eq_true (show(0:Int)≤((min (i+8) l.length:Nat):Int)by omega),decide_eq_true (show((min (i+8) l.length:Nat):Int)≤((l.length:Nat):Int)by omega),decide_eq_true (show(0:Int)≤(i:Int)by omega),decide_eq_true (show(i:Int)≤((min (i+8) l.length:Nat):Int)by omega)];simp only[cT,a19];rw[b2h e (by omega)];simp only[oB,m];rw[a0F (by rw[lN];omega),w2];refine⟨_,(l.drop (i+8)).length,rfl,by simp only[a01];omega,i+8,(out++(l.drop i).take 8)++[gOf ((l.drop i).take 8)],rfl,rfl,by omega,?_,?_⟩;simp only[lN,a06,a00];omega;rw[←b,a3n c,b27];simp only[aA,a38];right;rw[decide_eq_false (show ¬ (i:Int)<((l.length:Nat):Int)by omega)];have n:l.drop i=[]:=a31.2 (by omega);rw[n,a1P,a03]at b;exact⟨_,rfl,by rw[b]⟩
theorem a7H:∀(n:Nat)(f:Bool)(s:Nat)(r:List Int),r.length≤n→s+r.length≤1000000→∀(i:Nat)(p:Pge),(a1G f s r)[i]?=some p→p.1=((s+i:Nat):Int)∧PgPlain p
 |0,f,s,r,h,_,i,p,hp=>by
  have:r=[]:=a20.1 (by omega)
  rw[this,a2u]at hp;cases hp
 |n+1,f,s,r,h,hs,i,p,hp=>by
  by_cases hr:r=[]
  rw[hr,a2u]at hp;cases hp
  ·have g:=a02.2 hr;rw[a2J hr]at hp;cases i with
   |zero=>
    cases hp;exact⟨by simp,⟨⟨by simp,by show(s:Int)≤1000000;omega,by show 1≤(r.take 252).length;rw[a00];omega,by show(r.take 252).length≤252;rw[a00];omega⟩,rfl⟩⟩
   |succ i=>
    have:=a7H n false (s+1) (r.drop 252) (by rw[a01];omega) (by rw[a01];omega) i p hp
    exact⟨by rw[this.1];congr 1;omega,this.2⟩
theorem a7P:∀(bs:List (List Int)) (s:Nat),(∀b∈bs,b.length≤1000)→s+1000*bs.length≤1000000→∀(i:Nat)(p:Pge),(a0P s bs)[i]?=some p→p.1=((s+i:Nat):Int)∧PgPlain p
 | [],s,_,_,i,p,hp=>by cases hp
 |b::bs,s,hb,hs,i,p,hp=>by
  rw[lC]at hs;have g:=hb b (by simp);have f:=a5d b.length true s b (a08 _);rw[a0P]at hp
  by_cases hi:i<(a1G true s b).length
  rw[a48 hi]at hp;exact a7H b.length true s b (a08 _) (by omega) i p hp;rw[a36 (by omega)]at hp
  have:=a7P bs _ (fun c h=>hb c (by simp[h])) (by omega) _ p hp
  exact⟨by rw[this.1];congr 1;omega,this.2⟩
theorem a7n:∀(n:Nat)(l:List Pge),l.length≤n→(∀p∈l,PgPlain p)→∀q∈a0T l,PgOk q
 |0,l,h,_,q,f=>by
  have:l=[]:=a20.1 (by omega)
  rw[this,a1P]at f;cases f
 |n+1,l,h,hp,q,f=>by
  by_cases hl:l=[]
  rw[hl,a1P]at f;cases f;have j:=a02.2 hl;rw[a3n hl]at f;rcases mA.1 f with f|f;exact(hp q (a27 f)).toPgOk;rcases mC.1 f with rfl|f;have b:l.take 8≠[]:=a02.1 (by rw[a00];omega);obtain⟨-,a,d,i,e,m,o⟩:=a7m (g:=l.take 8) (fun p f=>hp p (a27 f)) b (by rw[a00];omega);have c:=(hp ((l.take 8).head b) (a27 (List.head_mem b))).toPgOk;rw[e];exact⟨c.s0,c.s1,by show 1≤(_::d::i::a).length;simp,by show(_::d::i::a).length≤255;simp only[lC];omega⟩;exact a7n n (l.drop 8) (by rw[a01];omega) (fun p f=>hp p (a32 f)) q f
theorem a4p:∀(n:Nat)(l:List Pge),l.length≤n→(a0T l).length≤2*l.length
 |0,l,h=>by
  have:l=[]:=a20.1 (by omega)
  rw[this,a1P];simp
 |n+1,l,h=>by
  by_cases hl:l=[]
  rw[hl,a1P];simp;have g:=a02.2 hl;have f:=a4p n (l.drop 8) (by rw[a01];omega);rw[a01]at f;rw[a3n hl,lN,lC,a00];omega
def a0W(l:List Pge):List Int:=l.flatMap pgB
theorem a5O:∀(l:List Pge),(∀p∈l,PgOk p)→(a0W l).length≤267*l.length
 | [],_=>by simp[a0W]
 |p::l,h=>by
  have a:=a5O l fun q g=>h q (by simp[g]);have hp:=h p (by simp);have f:p.2.2.2.2.1.length≤255:=by
   have:=hp.b1
   revert this
   cases p.2.2.2.1<;>simp only[cT,cF]<;>omega
  have e:a0W (p::l)=pgB p++a0W l:=rfl;rw[e,lN,a6x,lC];omega
theorem a7Q(h:∀p∈l,PgOk p)(j:l.length<1000000):a2V l=some (a0W l,0):=by
 unfold a2V;refine a0E (v:=.inl (a0W l,())) ?_ rfl
 have:=a0K (f:=a3v) (fun i=>(l,((l.length:Nat):Int),(i:Int),a0W (l.take i),())) l.length (b:=.inl (a0W l,())) (fun i a=>?_) ?_
 exact this;unfold a3v;simp only;have hp:=h l[i] (a26 a);have d:(l[i]).2.2.2.2.1.length≤255:=by
  have:=hp.b1
  revert this
  cases (l[i]).2.2.2.1<;>simp only[cT,cF]<;>omega
 have g:=a5O (l.take i) fun q c=>h q (a27 c);rw[a00]at g;rw[decide_eq_true (show(i:Int)<((l.length:Nat):Int)by omega),a1o a];simp only[cT,oB,a4A hp,bne_self_eq_false,cF];rw[a0F (by rw[a6x];omega),w64 (by omega),a07 a];have e:a0W (l.take i++[l[i]])=a0W (l.take i)++pgB l[i]:=by unfold a0W;rw[a34,a35]
 rw[e];rfl;unfold a3v;simp only;rw[decide_eq_false (by omega),a24];rfl
def rdr(P R:List Int):List Int×(Int×Int×Unit):=(P++R,((P.length:Nat):Int),(0:Int),())
theorem a9Q(g:(P++(A++R)).length<1000000):a1V (rdr P (A++R),((A.length:Nat):Int))=some (A,rdr (P++A) R):=by
 simp only[lN]at g;unfold a1V rdr a1B;have f:x0u ((A.length:Nat):Int) 0=((A.length:Nat):Int):=by
  unfold x0u
  by_cases h:((A.length:Nat):Int)<0
  omega;simp[h]<;>omega
 have a:wrap .i64 (((P++(A++R)).length:Int)-((P.length:Nat):Int))=((A.length+R.length:Nat):Int):=by
  rw[w64 (by simp only[lN];omega)];simp only[lN];omega
 have w2:wrap .i64 (((P.length:Nat):Int)+((A.length:Nat):Int))=((P.length+A.length:Nat):Int):=by rw[w64 (by omega)];omega
 simp only[bne_self_eq_false,cF,oB,f,a,w2];rw[decide_eq_false (show ¬ ((A.length:Nat):Int) > ((A.length+R.length:Nat):Int)by omega),decide_eq_true (show(0:Int)≤((P.length+A.length:Nat):Int)by omega),decide_eq_true (show((P.length+A.length:Nat):Int)≤(((P++(A++R)).length:Nat):Int)by simp only[lN];omega),decide_eq_true (show(0:Int)≤((P.length:Nat):Int)by omega),tN,tN,decide_eq_true (show((P.length:Nat):Int)≤((P.length+A.length:Nat):Int)by omega)];have e:a54 P.length (a42 (P.length+A.length) (P++(A++R)))=A:=by
  rw[b15,b17]
  simp
 rw[e,a0F (by omega)];simp only[cF,cT,a19,aA,lN]
def a3r(l:List Int):Int:=l.foldl (fun a b=>a*256+b) 0
theorem a6m(l:List Int)(b:Int):a3r (l++[b])=a3r l*256+b:=by simp[a3r,b09]
theorem a7o:∀(n:Nat)(l:List Int),l.length=n→(∀b∈l,0≤b∧b<256)→0≤a3r l∧a3r l<((256^n:Nat):Int)
 |0,l,h,_=>by
  have:l=[]:=a20.1 h
  rw[this];decide
 |n+1,l,h,hb=>by
  have f:l≠[]:=a02.1 (by omega);obtain⟨a,z,rfl⟩:=a9P f;rw[lN,a06]at h;have c:=a7o n a (by omega) fun b g=>hb b (by simp[g]);have d:=hb z (by simp);rw[a6m,a52];generalize 256^n=N at c⊢;omega
theorem a8O:∀(k n:Nat),n<256^k→a3r (a0Q n k)=(n:Int)
 |0,n,h=>by
  have:n=0:=by simpa using h
  subst this;rfl
 |k+1,n,h=>by
  have e:a0Q n (k+1)=a0Q (n / 256) k++[((n%256:Nat):Int)]:=by
   rw[a0Q,a2t,b12];rfl
  rw[e,a6m,a8O k (n / 256) (by rw[a52]at h;omega)];omega
theorem a5C(p:A.length≤8)(e:∀b∈A,0≤b∧b<256)(m:(P++(A++R)).length<1000000):a0I (rdr P (A++R),((A.length:Nat):Int))=some (a3r A,rdr (P++A) R):=by
 have j:a2c ((A.length:Nat):Int)=some ((A.length:Nat):Int):=by
  unfold a2c x0v x0u;have c:¬ (8:Int)<((A.length:Nat):Int):=by omega
  have d:¬ ((A.length:Nat):Int)<0:=by omega
  congr 1;simp[c,d]<;>omega
 unfold a0I;simp only[j,oB,a9Q m]
 have:=a0K (f:=a2b) (fun i=>(a3r (A.take i),((A.length:Nat):Int),(i:Int),A,rdr (P++A) R,())) A.length (b:=(a3r A,rdr (P++A) R,())) (fun i g=>?_) ?_
 refine a0E this rfl;unfold a2b;simp only;have q:=a7o i (A.take i) (by rw[a00];omega) fun b h=>e b (a27 h);have hp:256^i≤256^7:=a75 (by decide) (by omega);have o:256^7=72057594037927936:=by decide
 have r:=e A[i] (a26 g);have a:∀z:Int,0≤z→z<18446744073709551616→wrap .u64 z=z:=fun z c d=>by
  have:=a3S (n:=z.toNat) (by omega)
  rwa [show((z.toNat:Nat):Int)=z by omega]at this
 have l:a23 A (a11 (i:Int)) 0=A[i]:=by rw[tN,lD,lG g];rfl
 rw[decide_eq_true (show(i:Int)<((A.length:Nat):Int)by omega),decide_eq_true (show(0:Int)≤(i:Int)by omega),l,a (a3r (A.take i)*256) (by omega) (by omega),a A[i] (by omega) (by omega),a _ (by omega) (by omega),w64 (by omega),a07 g,a6m];rfl;unfold a2b;simp only;rw[decide_eq_false (by omega),a24];rfl
theorem a5f{k:Nat}(h:k≤8)(f:n<256^k)(g:(P++(a0Q n k++R)).length<1000000):a0I (rdr P (a0Q n k++R),((k:Nat):Int))=some ((n:Int),rdr (P++a0Q n k) R):=by
 have:=a5C (P:=P) (A:=a0Q n k) (R:=R) (by rw[a0N];exact h) (a7M n k) g
 rwa [a0N,a8O k n f]at this
def a4B(p:Pk):List Int:=[p.1]++([a2k p]++(a0Q p.2.1.toNat 8++a0Q p.2.2.1.toNat 8))
theorem a5g(p:Pk):(a4B p).length=18:=by
 simp only[a4B,lN,a0N,lC,a05]
theorem a9R{p:Pk}(h:a5e p):a0R p=a4B p++p.2.2.2.2.2.1:=by
 obtain⟨s,g,f,a⟩:=h;have e:wrap .u8 p.1=p.1:=by
  have:=b0K (n:=p.1.toNat) (by rw[g.st];omega)
  rwa [show((p.1.toNat:Nat):Int)=p.1 by rw[g.st];omega]at this
 simp only[a0R,a4B,e,aA,a09,a04]
theorem a5P(p:Pk):a2k p=(bif p.2.2.2.1 then 1 else 0)+(bif p.2.2.2.2.1 then 2 else 0):=by
 unfold a2k;cases p.2.2.2.1<;>cases p.2.2.2.2.1<;>decide
theorem a7p{x:List Int}(h:x.length<1000000):a1w x=some (rdr [] x):=by
 unfold a1w;rw[a0F (by omega)];rfl
theorem a7I{p:Pk}(h:a5e p){d:List Int}(y:d.length≤60000):a2l (a4B p++d)=some ((p.1,p.2.1,p.2.2.1,p.2.2.2.1,p.2.2.2.2.1,d,()),0):=by
 obtain⟨s,a,w,x⟩:=h;have c:(a4B p++d).length=18+d.length:=by rw[lN,a5g]
 have i:=a.st;have a0:=a.at0;have a1:=a.at1;have B:=a.len0;have l1:=a.len1;have z:0≤a2k p∧a2k p≤3:=by
  rw[a5P];cases p.2.2.2.1<;>cases p.2.2.2.2.1<;>decide
 have g:256^8=18446744073709551616:=by decide
 have e:a4B p++d=[p.1]++([a2k p]++(a0Q p.2.1.toNat 8++(a0Q p.2.2.1.toNat 8++d))):=by simp only[a4B,aA]
 have m:=a5C (P:=[]) (A:=[p.1]) (R:=[a2k p]++(a0Q p.2.1.toNat 8++(a0Q p.2.2.1.toNat 8++d))) (by simp) (fun b f=>by rw[a17]at f;rw[f,i];omega) (by rw[←e,a04,c];omega);have r2:=a5C (P:=[]++[p.1]) (A:=[a2k p]) (R:=a0Q p.2.1.toNat 8++(a0Q p.2.2.1.toNat 8++d)) (by simp) (fun b f=>by rw[a17]at f;rw[f];omega) (by rw[a04,←e,c];omega);have j:=a5f (P:=[]++[p.1]++[a2k p]) (R:=a0Q p.2.2.1.toNat 8++d) (n:=p.2.1.toNat) (k:=8) (by omega) (by rw[g];omega) (by simp only[lN,a0N,lC,a05];omega);have l:=a5f (P:=[]++[p.1]++[a2k p]++a0Q p.2.1.toNat 8) (R:=d) (n:=p.2.2.1.toNat) (k:=8) (by omega) (by rw[g];omega) (by simp only[lN,a0N,lC,a05];omega);rw[show(([p.1].length:Nat):Int)=1 from rfl,show a3r [p.1]=p.1 by simp[a3r]]at m;rw[show(([a2k p].length:Nat):Int)=1 from rfl,show a3r [a2k p]=a2k p by simp[a3r]]at r2;rw[show((8:Nat):Int)=8 from rfl]at j l;have o:((p.2.1.toNat:Nat):Int)=p.2.1:=by omega
 have r:((p.2.2.1.toNat:Nat):Int)=p.2.2.1:=by omega
 rw[o]at j;rw[r]at l;have t:a1w (a4B p++d)=some (rdr [] ([p.1]++([a2k p]++(a0Q p.2.1.toNat 8++(a0Q p.2.2.1.toNat 8++d))))):=by rw[a7p (by omega),←e]
 unfold a2l;rw[c,decide_eq_false (show ¬ ((18+d.length:Nat):Int)<18 by omega),decide_eq_false (show ¬ ((18+d.length:Nat):Int) > 65554 by omega)];simp only[cF,t,m,r2,j,l,oB];rw[decide_eq_false (show ¬ p.1≥4 by omega),decide_eq_false (show ¬ a2k p > 3 by omega),decide_eq_false (show ¬ p.2.1 > 1125899906842624 by omega),decide_eq_false (show ¬ p.2.2.1 > 1125899906842624 by omega)];simp only[cF,oB];rw[c,decide_eq_true (show(18:Int)≤((18+d.length:Nat):Int)by omega)];have q:a54 18 (a42 (18+d.length) (a4B p++d))=d:=by
  rw[a29 (by omega),b17,a31.2 (by rw[a5g];omega),a5g];rfl
 rw[q,a5M (by omega),w64 (by omega),w64 (by omega),w64 (by omega)];have u:((bits .u64 .and (a2k p) 1) != 0)=p.2.2.2.1:=by
  rw[a5P];cases p.2.2.2.1<;>cases p.2.2.2.2.1<;>decide
 have v:((bits .u64 .and (a2k p) 2) != 0)=p.2.2.2.2.1:=by
  rw[a5P];cases p.2.2.2.1<;>cases p.2.2.2.2.1<;>decide
 simp only[cT,oB,u,v]
def a4q(p:Pge):Prop:=p.2.1=true→p.2.2.2.1=false→∃q,a5e q∧p.2.2.2.2.1.take 18=a4B q∧18≤p.2.2.2.2.1.length
abbrev Mk:Type:=Int×(Int×(Int×Unit))
def a1a(p:Pge):List Mk:=
 bif p.2.1&&!p.2.2.2.1 then(match a2l (p.2.2.2.2.1.take 18)with
  |some y=>bif y.1.2.2.2.1 then[(y.1.1,y.1.2.1,p.1,())]else[]
  |none=>[])else[]
theorem a5h(h:p.2.2.2.1=true):a1a p=[]:=by
 unfold a1a;rw[h];cases p.2.1<;>rfl
theorem a5w(h:p.2.1=true)(g:p.2.2.2.1=false)(a:a5e q)(f:p.2.2.2.2.1.take 18=a4B q):a1a p=bif q.2.2.2.1 then[(q.1,q.2.1,p.1,())]else[]:=by
 unfold a1a
 have:=a7I a (d:=[]) (by simp)
 rw[a03]at this;rw[h,g,f,this];rfl
theorem b0M:(a1a p).length≤1:=by
 unfold a1a;cases p.2.1&&!p.2.2.2.1 with
 |false=>simp
 |true=>
  simp only[cT];cases a2l (p.2.2.2.2.1.take 18)with
  |none=>simp
  |some y=>simp only;cases y.1.2.2.2.1<;>simp
theorem a5q:∀(l:List Pge),(l.flatMap a1a).length≤l.length
 | []=>by simp
 |p::l=>by
  have h:=a5q l;have g:=b0M (p:=p);rw[a33,lN,lC];omega
theorem b3S(h:∀p∈l,PgOk p∧a4q p)(v:l.length<1000000):a4T l=some (l.flatMap a1a):=by
 unfold a4T
 have:=a0K (f:=a4b) (fun i=>(l,((l.length:Nat):Int),(i:Int),(l.take i).flatMap a1a,())) l.length (b:=(l.flatMap a1a,())) (fun i c=>?_) ?_
 refine a0E this rfl
 ·unfold a4b;simp only;obtain⟨hp,r⟩:=h l[i] (a26 c);have t:wrap .i64 ((i:Int)+1)=((i+1:Nat):Int):=by rw[w64 (by omega)];omega
  have j:=a5q (l.take i);rw[a00]at j;have e:(l.take (i+1)).flatMap a1a=(l.take i).flatMap a1a++a1a l[i]:=by rw[a07 c,a34,a35]
  rw[decide_eq_true (show(i:Int)<((l.length:Nat):Int)by omega),a1o c,t,e];simp only[cT,oB]
  by_cases g:(l[i]).2.1=true
  ·by_cases a:(l[i]).2.2.2.1=true
   rw[a5h a,g,a,a03];rfl
   ·have a:(l[i]).2.2.2.1=false:=by simpa using a
    obtain⟨q,o,m,u⟩:=r g a;rw[a5w g a o m,g,a];have n:=a7I o (d:=[]) (by simp);rw[a03]at n;rw[decide_eq_false (show ¬ (((l[i]).2.2.2.2.1.length:Nat):Int)<18 by omega),decide_eq_true (show(18:Int)≤(((l[i]).2.2.2.2.1.length:Nat):Int)by omega),m];simp only[bT,cF,cT,a4A hp,oB,bne_self_eq_false,n];cases hk:q.2.2.2.1 with
    |false=>simp only[a68,cT,cF,a03]
    |true=>
     simp only[bT,cF,cT];rw[a0F (by omega)];rfl
  have g:(l[i]).2.1=false:=by simpa using g
  have s:a1a l[i]=[]:=by unfold a1a;rw[g];rfl
  rw[s,g,a03];rfl
 unfold a4b;simp only;rw[decide_eq_false (by omega),a24];rfl
theorem a7R(a:∀p∈g,PgPlain p)(h:g≠[])(f:g.length≤8):(gOf g).2.2.2.1=true:=by
 obtain⟨-,b,c,d,e,-⟩:=a7m a h f;rw[e]
theorem a6n:∀(n:Nat)(l:List Pge),l.length≤n→(∀p∈l,PgPlain p)→(a0T l).flatMap a1a=l.flatMap a1a
 |0,l,h,_=>by
  have:l=[]:=a20.1 (by omega)
  rw[this,a1P]
 |n+1,l,h,hp=>by
  by_cases hl:l=[]
  rw[hl,a1P];have b:=a02.2 hl;have c:l.take 8≠[]:=a02.1 (by rw[a00];omega);have a:=a7R (g:=l.take 8) (fun p f=>hp p (a27 f)) c (by rw[a00];omega);have d:=a6n n (l.drop 8) (by rw[a01];omega) (fun p f=>hp p (a32 f));rw[a3n hl,a34,a33,a5h a,d,a04,←a34,a14]
theorem a6J:∀(n:Nat)(l:List Pge),l.length≤n→(∀p∈l,PgPlain p)→(∀p∈l,a4q p)→∀q∈a0T l,a4q q
 |0,l,h,_,_,q,f=>by
  have:l=[]:=a20.1 (by omega)
  rw[this,a1P]at f;cases f
 |n+1,l,h,hp,hh,q,f=>by
  by_cases hl:l=[]
  rw[hl,a1P]at f;cases f;have c:=a02.2 hl;have d:l.take 8≠[]:=a02.1 (by rw[a00];omega);have b:=a7R (g:=l.take 8) (fun p f=>hp p (a27 f)) d (by rw[a00];omega);rw[a3n hl]at f;rcases mA.1 f with f|f;exact hh q (a27 f);rcases mC.1 f with rfl|f;intro _ a;rw[b]at a;cases a;exact a6J n (l.drop 8) (by rw[a01];omega) (fun p f=>hp p (a32 f)) (fun p f=>hh p (a32 f)) q f
theorem a7q:∀(n:Nat)(s:Nat)(r:List Int),r.length≤n→∀p∈a1G false s r,p.2.1=false
 |0,s,r,h,p,hp=>by
  have:r=[]:=a20.1 (by omega)
  rw[this,a2u]at hp;cases hp
 |n+1,s,r,h,p,hp=>by
  by_cases hr:r=[]
  rw[hr,a2u]at hp;cases hp;have g:=a02.2 hr;rw[a2J hr]at hp;rcases mC.1 hp with rfl|hp;rfl;exact a7q n (s+1) (r.drop 252) (by rw[a01];omega) p hp
theorem b1t(g:a5e q)(s:Nat):∀p∈a1G true s (a0R q),a4q p:=by
 intro p hp h _;rw[a2J (a6v q)]at hp;have f:=a4c q;rcases mC.1 hp with rfl|hp;refine⟨q,g,?_,?_⟩;show((a0R q).take 252).take 18=a4B q;rw[a95,a9R g,show min 18 252=18 from rfl,b15,a5g,a60,a41,a03,a29 (by rw[a5g];omega)];show 18≤((a0R q).take 252).length;rw[a00];omega;rw[a7q _ _ _ (a08 _) p hp]at h;cases h
theorem a6K:∀(l:List Pk)(s:Nat),(∀p∈l,a5e p)→∀q∈a0P s (l.map a0R),a4q q
 | [],_,_,q,hq=>by cases hq
 |p::l,s,h,q,hq=>by
  rw[a86,a0P]at hq;rcases mA.1 hq with hq|hq;exact b1t (h p (by simp)) s q hq;exact a6K l _ (fun p hp=>h p (by simp[hp])) q hq
def a0C(n:Nat):List Int:=if h:n<128 then[(n:Int)]else((n%128+128:Nat):Int)::a0C (n / 128)
termination_by n
decreasing_by omega
theorem a4C(h:n<128):a0C n=[(n:Int)]:=by rw[a0C,dif_pos h]
theorem a4W(h:¬ n<128):a0C n=((n%128+128:Nat):Int)::a0C (n / 128):=by rw[a0C,dif_neg h]
theorem a5Q:∀(k n:Nat),n<128^(k+1)→1≤(a0C n).length∧(a0C n).length≤k+1
 |0,n,h=>by rw[a4C (by omega)];simp
 |k+1,n,h=>by
  by_cases hn:n<128
  rw[a4C hn];simp;rw[a4W hn]
  have:=a5Q k (n / 128) (by rw[a59 (by omega)];rw[a52]at h;exact h)
  simp only[lC];omega
theorem a4r:∀(k n:Nat),n<128^(k+1)→∀b∈a0C n,0≤b∧b<256
 |0,n,h,b,hb=>by rw[a4C (by omega)]at hb;simp at hb;omega
 |k+1,n,h,b,hb=>by
  by_cases hn:n<128
  rw[a4C hn]at hb;simp at hb;omega;rw[a4W hn]at hb;rcases mC.1 hb with rfl|hb;omega;exact a4r k (n / 128) (by rw[a59 (by omega)];rw[a52]at h;exact h) b hb
theorem a9S:∀(k n:Nat)(a:List Int)(b c:Int)(out:List Int),n<128^(k+1)→k≤8→out.length+k<1000000→
  ∃r g,x0y a3H ((n:Int),a,b,c,out,())=some (((r:Nat):Int),a,b,c,out++g,())∧a0C n=g++[(r:Int)]∧r<128
 |k,n,a,b,c,out,h,hk,ho=>by
  by_cases hn:n<128
  refine⟨n,[],?_,by rw[a4C hn];rfl,hn⟩;rw[a1e (b:=((n:Int),a,b,c,out,())) (by
   have d:decide ((n:Int)≥128)=false:=by simp;omega
   simp only[a3H,d,cF])]
  simp
  ·cases k with
   |zero=>omega
   |succ k=>
    have p:n / 128<128^(k+1):=by rw[a59 (by omega)];rw[a52]at h;exact h
    have f:n<18446744073709551616:=by
     have:128^(k+1+1)≤128^9:=a75 (by omega) (by omega)
     have e:(128:Nat)^9=9223372036854775808:=by decide
     omega
    obtain⟨r,g,l,m,o⟩:=a9S k (n / 128) a b c (out++[((n%128+128:Nat):Int)]) p (by omega) (by simp;omega);refine⟨r,((n%128+128:Nat):Int)::g,?_,by rw[a4W hn,m];rfl,o⟩;have d:decide ((n:Int)≥128)=true:=by simp;omega
    have i:wrap .u64 (Int.tdiv (n:Int) 128)=((n / 128:Nat):Int):=by
     rw[show Int.tdiv (n:Int) 128=((n / 128:Nat):Int)from rfl];exact a3O (by omega)
    have j:wrap .u8 (wrap .u8 (a30 (n:Int) 128)+128)=((n%128+128:Nat):Int):=by
     rw[show a30 (n:Int) 128=((n%128:Nat):Int)from rfl,a8w,a8w];omega
    rw[a1x (s':=(((n / 128:Nat):Int),a,b,c,out++[((n%128+128:Nat):Int)],())) (by
     simp only[a3H,d,cT,b1i (show out.length+1<2147483648 by omega),i,j,a16])]
    rw[l]
    simp
theorem a8P{α β γ:Type}(f:α→List γ):∀(l:List α)(a:List γ),a5I (β:=β) (fun a x=>.inl (a++f x)) l a=.inl (a++l.flatMap f)
 | [],a=>by simp[a5I]
 |x::l,a=>by simp only[a5I];rw[a8P f l];simp
def asI(ns:List Nat):List Int:=ns.map fun n:Nat=>(n:Int)
theorem a4s{ns:List Nat}(h:∀n∈ns,n<9223372036854775808)(w:ns.length≤1000):a1v (asI ns)=some (ns.flatMap a0C):=by
 have p:(asI ns).length=ns.length:=by simp[asI]
 have:=b1l (f:=a3I) (asI ns) (fun i (a:List Int)=>(asI ns,((asI ns).length:Int),(i:Int),a,())) (fun a x=>.inl (a++a0C x.toNat)) (fun i a=>a.length≤10*i) (fun a=>(a,()))
  (fun i o a t=>⟨fun u g=>by
   have j:i<ns.length:=by omega
   have q:(asI ns)[i]=((ns[i]:Nat):Int):=by simp[asI]
   have d:=h ns[i] (a26 j);have c:ns[i]<128^(8+1):=by rw[show(128:Nat)^(8+1)=9223372036854775808 from by decide];exact d
   obtain⟨r,l,s,m,v⟩:=a9S 8 ns[i] (asI ns) ((asI ns).length:Int) (i:Int) a c (a08 _) (by omega);have hv:=a5Q 8 ns[i] c;rw[m]at hv;simp only[lN,lC,a05]at hv;simp only[q,tN,m,Sum.inl.injEq]at g;subst g;have e:wrap .u8 (r:Int)=(r:Int):=by rw[a8w];omega
   refine⟨?_,by simp;omega⟩;simp only[a3I,dlt o,cT,a8F o,q,oB,s,b1i (show(a++l).length+1<2147483648 by simp;omega),a7L (show i<1000000 by omega),e,a16,aA],fun b d=>by cases d⟩)
  (fun a t=>by simp only[a3I,dge,cF]) (a:=[]) (by simp)
 unfold a1v;simp only[nZ]at this;rw[this,a8P];simp[b1X,asI,List.flatMap_map]
theorem orA{a b k:Nat}(f:a<2^k)(c:b*2^k+a<18446744073709551616):bits .u64 .or (a:Int) ((b*2^k:Nat):Int)=((a+b*2^k:Nat):Int):=by
 show wrap .u64 (((a91 64 (a:Int) ||| a91 64 ((b*2^k:Nat):Int)).toNat:Nat):Int)=_;have g:(a91 64 (a:Int)).toNat=a:=by rw[b06];omega
 have h:(a91 64 ((b*2^k:Nat):Int)).toNat=b*2^k:=by rw[b06];omega
 rw[BitVec.toNat_or,g,h];have e:a ||| b*2^k=a+b*2^k:=by
  have:=Nat.two_pow_add_eq_or_of_lt (i:=k) (b:=a) f b
  rw[Nat.or_comm,Nat.mul_comm b,←this,Nat.add_comm]
 rw[e];exact a3O (by omega)
theorem b1u{N o:Nat}(h:o≤64)(g:N*2^o<9223372036854775808):D0q .u64 (N:Int) (o:Int)=((N*2^o:Nat):Int):=by
 unfold D0q;show wrap .u64 ((N:Int)*2^(min (o:Int).toNat 64))=_;rw[tN,a56 h];have e:(N:Int)*2^o=((N*2^o:Nat):Int):=by rw[Int.natCast_mul,Int.natCast_pow];rfl
 rw[e];exact a3O (by omega)
theorem a6L{rest:List Int}:∀(j m i acc:Nat)(P:List Int),m<128^(j+1)→P.length=i→(i=0∨1≤m)→acc<2^(7*i)→m*2^(7*i)+acc<9223372036854775808→(P++(a0C m++rest)).length<1000000000→
  x0y a2M ((acc:Int),P++(a0C m++rest),((P++(a0C m++rest)).length:Nat),(i:Int),())=some (.inr (((acc+m*2^(7*i):Nat):Int),((i+(a0C m).length:Nat):Int),(0:Int),()))
 |j,m,i,acc,P,hj,hP,hm,ha,hs,hl=>by
  have u:i≤8:=by
   rcases hm with q|h1;omega;apply Classical.byContradiction;intro B;have y:2^(7*9)≤2^(7*i):=a75 (by omega) (by omega);have z:2^(7*i)≤m*2^(7*i):=Nat.le_mul_of_pos_left _ (by omega);have e:(2:Nat)^(7*9)=9223372036854775808:=by decide
   omega
  have a:wrap .i64 ((7:Int)*(i:Int))=((7*i:Nat):Int):=by rw[wrap64 (by omega)];omega
  have l:decide ((((7*i:Nat):Int))<0)=false:=by simp;omega
  have b:wrap .i64 ((i:Int)+1)=((i+1:Nat):Int):=a7L (by omega);have x:∀c:Nat,c<256→(i=9→False):=fun _ _ h=>by omega
  have r:((i:Int)==9)=false:=by simp;omega
  have step:∀(c:Nat)(p:List Int),c<256→a0C m=(c:Int)::p→(i=0∨c≠0)→
    a2M ((acc:Int),P++(a0C m++rest),((P++(a0C m++rest)).length:Nat),(i:Int),()) =
     bif decide ((c:Int)<128)then some (.inr (Sum.inr (bits .u64 .or (acc:Int) (D0q .u64 (wrap .u64 (a30 (c:Int) 128)) ((7*i:Nat):Int)),((i+1:Nat):Int),(0:Int),())))
     else some (.inl (bits .u64 .or (acc:Int) (D0q .u64 (wrap .u64 (a30 (c:Int) 128)) ((7*i:Nat):Int)),P++(a0C m++rest),((P++(a0C m++rest)).length:Nat),((i+1:Nat):Int),())):=fun c p s hv q=>by
   have g:i<(P++(a0C m++rest)).length:=by rw[hv];simp;omega
   have t:n0p (P++(a0C m++rest)) (i:Int)=some (c:Int):=by
    rw[a8F g];congr 1;subst hP;simp[hv]
   have v:(decide ((i:Int) > 0)=true→((c:Int)==0)=false):=fun h=>by
    simp only[dT]at h;simp only[beq_eq_false_iff_ne,ne_eq];omega
   simp only[a2M,dlt g,cT,t,oB,r,cF];cases n:decide ((i:Int) > 0)with
   |true=>simp only[cT,oB,v n,cF,a,l,b]
   |false=>simp only[oB,cF,a,l,b]
  have val:∀c:Nat,c%128*2^(7*i)+acc<9223372036854775808→bits .u64 .or (acc:Int) (D0q .u64 (wrap .u64 (a30 (c:Int) 128)) ((7*i:Nat):Int))=((acc+c%128*2^(7*i):Nat):Int):=fun c s=>by
   rw[show a30 (c:Int) 128=((c%128:Nat):Int)from rfl,a3O (by omega),b1u (by omega) (by omega)];exact orA ha (by omega)
  by_cases hm128:m<128
  rw[a1e (step m [] (by omega) (a4C hm128) (by omega) |>.trans (by
   have d:decide ((m:Int)<128)=true:=by simp;omega
   simp only[d,cT];rfl))]
  rw[val m (by rw[b18 hm128];exact hs),b18 hm128,a4C hm128];rfl
  ·cases j with
   |zero=>omega
   |succ j=>
    have n:m / 128<128^(j+1):=by rw[a59 (by omega)];rw[a52]at hj;exact hj
    have f:2^(7*(i+1))=128*2^(7*i):=by rw[show 7*(i+1)=7+7*i from by omega,Nat.pow_add]
    have o:m*2^(7*i)=m%128*2^(7*i)+m / 128*2^(7*(i+1)):=by
     rw[f,←Nat.mul_assoc,←Nat.add_mul];congr 1;omega
    have A:m%128*2^(7*i)≤127*2^(7*i):=Nat.mul_le_mul_right _ (by omega);rw[a1x (step (m%128+128) (a0C (m / 128)) (by omega) (a4W hm128) (by omega) |>.trans (by
     have d:decide (((m%128+128:Nat):Int)<128)=false:=by simp;omega
     simp only[d,cF];rfl))]
    rw[val (m%128+128) (by rw[b14,Nat.mod_mod];omega),b14,Nat.mod_mod];have e:P++(a0C m++rest)=(P++[((m%128+128:Nat):Int)])++(a0C (m / 128)++rest):=by rw[a4W hm128];simp
    rw[e]at hl⊢;have w:=a6L j (m / 128) (i+1) (acc+m%128*2^(7*i)) (P++[((m%128+128:Nat):Int)]) n (by simp[hP]) (.inr (by omega)) (by rw[f];omega) (by omega) hl;rw[w,o,a4W hm128];congr 3;omega
    simp;omega
theorem b1v(h:n<9223372036854775808){rest:List Int}(g:(a0C n++rest).length<1000000000):a3J (a0C n++rest)=some ((n:Int),(((a0C n).length:Nat):Int),(0:Int)):=by
 have:=a6L (rest:=rest) 8 n 0 0 [] (by rw[show(128:Nat)^(8+1)=9223372036854775808 from by decide];exact h) rfl (.inl rfl) (by simp) (by simpa using h) g
 simp only[a04,nZ,Nat.mul_zero,Nat.pow_zero,Nat.mul_one,a61,Int.cast_ofNat_Int]at this;unfold a3J;rw[this];rfl
theorem b2H(e:n<9223372036854775808)(j:(n:Int)≤most)(f:(P++(a0C n++R)).length<1000000000):
  a0D (rdr P (a0C n++R),most)=some ((n:Int),rdr (P++a0C n) R):=by
 have d:a54 (a11 (P.length:Int)) (a42 (P++(a0C n++R)).length (P++(a0C n++R)))=a0C n++R:=by
  rw[a24,tN,a69]
 have g:((0:Int) != 0)=false:=rfl;have a:decide ((0:Int)≤(P.length:Int))=true:=by simp
 have b:decide ((P.length:Int)≤((P++(a0C n++R)).length:Int))=true:=by simp;omega
 have c:decide ((n:Int) > most)=false:=by simp;omega
 have h:(a0C n++R).length<1000000000:=by rw[lN]at f;omega
 have i:wrap .i64 ((P.length:Int)+((a0C n).length:Int))=(((P++a0C n).length:Nat):Int):=by
  rw[wrap64 (by simp only[lN]at f;omega)];simp
 unfold a0D rdr;simp only[g,cF,a,b,b01,cT];rw[d,b1v e h];simp only[oB,beq_self_eq_true,cT,c,cF,g,i,aA]
theorem b1w(f:n<9223372036854775808)(g:(n:Int)≤most)(h:(P++(a0C n++R)).length<1000000):
  a0D (rdr P (a0C n++R),most)=some ((n:Int),rdr (P++a0C n) R):=b2H f g (Nat.lt_trans h (by decide))
def a2Y(g:Int):Nat:=if 0≤g then(2*g).toNat else(-2*g-1).toNat
theorem b1x{g:Int}(h:-100000≤g∧g≤100000):a3U g=some ((a2Y g:Nat):Int):=by
 unfold a3U a2Y
 by_cases hg:0≤g
 have d:decide (g≥0)=true:=by simpa using hg
 rw[d,cT,if_pos hg,a3O (n:=g) (by omega),a3O (by omega),b02 (by omega)];have d:decide (g≥0)=false:=by simp;omega
 rw[d,cF,if_neg hg,wrap64 (n:=g+1) (by omega),wrap64 (by omega),a3O (n:=0-(g+1)) (by omega),a3O (n:=2*(0-(g+1))) (by omega),a3O (by omega),b02 (by omega)];congr 1;omega
theorem a6y{g:Int}{m:Nat}(h:-(m:Int)≤g∧g≤(m:Int)):a2Y g≤2*m:=by
 unfold a2Y
 split<;>omega
structure MkOk (m:Mk):Prop where
 s0:0≤m.1
 s4:m.1<4
 a0:0≤m.2.1
 a1:m.2.1≤1000
 p0:0≤m.2.2.1
 p1:m.2.2.1≤50000
def a5i:Int→Int→List Mk→List Int
 |_,_,[]=>[]
 |a,s,m::l=>(a0C m.1.toNat++(a0C (a2Y (m.2.1-a))++a0C (a2Y (m.2.2.1-s))))++a5i m.2.1 m.2.2.1 l
theorem b5c{x y z:Nat}(g:x<1000000)(f:y<1000000)(a:z<1000000):a1v [(x:Int),(y:Int),(z:Int)]=some (a0C x++(a0C y++a0C z)):=by
 have:=a4s (ns:=[x,y,z]) (fun n h=>by simp only[mC,a63,or_false]at h;omega) (by simp)
 rw[show asI [x,y,z]=[(x:Int),(y:Int),(z:Int)]from rfl]at this;rw[this];simp only[a33,a49,a03]
theorem a6o(h:n<1000000):(a0C n).length≤3:=(a5Q 2 n (by omega)).2
theorem b1y:∀(rest done:List Mk)(l:List Mk)(a s:Int)(out:List Int),done++rest=l→(∀m∈rest,MkOk m)→(0≤a∧a≤1000)→(0≤s∧s≤50000)→l.length<100000→out.length+9*rest.length<1000000→
  x0y a2r (a,s,l,((l.length:Nat):Int),((done.length:Nat):Int),out,())=some (out++a5i a s rest,())
 | [],done,l,a,s,out,he,_,_,_,_,_=>by
  rw[a03]at he;subst he;refine a1e ?_
  unfold a2r;simp only;rw[decide_eq_false (by omega),a5i,a03];rfl
 |m::rest,done,l,a,s,out,he,hm,ha,hs,hl,ho=>by
  have h:l.length=done.length+(rest.length+1):=by rw[←he,lN,lC]
  obtain⟨d,e,i,j,o,p⟩:=hm m (by simp);rw[lC]at ho;have b:n0p l ((done.length:Nat):Int)=some m:=by
   rw[a1o (by omega)];congr 1;subst he;rw[a67 (a08 _)]
   simp
  have u:a2Y (m.2.1-a)≤2000:=a6y (m:=1000) (by omega);have v:a2Y (m.2.2.1-s)≤100000:=a6y (m:=50000) (by omega);have q:=a6o (n:=m.1.toNat) (by omega);have r:=a6o (n:=a2Y (m.2.1-a)) (by omega);have t:=a6o (n:=a2Y (m.2.2.1-s)) (by omega);have g:wrap .u64 m.1=((m.1.toNat:Nat):Int):=by
   have:=a3S (n:=m.1.toNat) (by omega)
   rwa [show((m.1.toNat:Nat):Int)=m.1 by omega]at this⊢
  have hp:=b5c (x:=m.1.toNat) (y:=a2Y (m.2.1-a)) (z:=a2Y (m.2.2.1-s)) (by omega) (by omega) (by omega);have step:a2r (a,s,l,((l.length:Nat):Int),((done.length:Nat):Int),out,())=some (.inl (m.2.1,m.2.2.1,l,((l.length:Nat):Int),(((done++[m]).length:Nat):Int),out++(a0C m.1.toNat++(a0C (a2Y (m.2.1-a))++a0C (a2Y (m.2.2.1-s)))),())):=by
   unfold a2r;simp only;rw[decide_eq_true (show((done.length:Nat):Int)<((l.length:Nat):Int)by omega),b];simp only[cT,oB];rw[w64 (n:=m.2.1-a) (by omega),b1x (by omega)];simp only[oB];rw[w64 (n:=m.2.2.1-s) (by omega),b1x (by omega)];simp only[oB];rw[g,hp];simp only[oB];rw[a0F (by simp only[lN];omega),w64 (by omega),lN];rfl
  rw[a1x step,b1y rest (done++[m]) l m.2.1 m.2.2.1 _ (by rw[←he,aA];rfl) (fun c f=>hm c (by simp[f])) (by omega) (by omega) hl (by simp only[lN];omega)];rw[a5i,aA]
theorem a6U:∀(l:List Mk)(a s:Int),(∀m∈l,MkOk m)→(0≤a∧a≤1000)→(0≤s∧s≤50000)→(a5i a s l).length≤9*l.length
 | [],_,_,_,_,_=>by simp[a5i]
 |m::l,a,s,hm,ha,hs=>by
  obtain⟨f,b,d,e,i,j⟩:=hm m (by simp);have g:=a6U l m.2.1 m.2.2.1 (fun c h=>hm c (by simp[h])) (by omega) (by omega);have r:a2Y (m.2.1-a)≤2000:=a6y (m:=1000) (by omega);have t:a2Y (m.2.2.1-s)≤100000:=a6y (m:=50000) (by omega);have o:=a6o (n:=m.1.toNat) (by omega);have p:=a6o (n:=a2Y (m.2.1-a)) (by omega);have q:=a6o (n:=a2Y (m.2.2.1-s)) (by omega);rw[a5i];simp only[lN,lC];omega
def a4t(l:List Mk):List Int:=a0C l.length++a5i 0 0 l
def a5x(l:List Mk):List Int:=a4t l++a0Q (a1c (a4t l)).toNat 4
theorem b3v{x:Nat}(g:x<1000000):a1v [(x:Int)]=some (a0C x):=by
 have:=a4s (ns:=[x]) (fun n h=>by simp only[mC,a63,or_false]at h;omega) (by simp)
 rw[show asI [x]=[(x:Int)]from rfl]at this;rw[this];simp only[a33,a49,a03]
theorem a8Q{l:List Mk}(h:∀m∈l,MkOk m)(t:l.length<50000):a3j l=some (a5x l,0):=by
 have x:=a6o (n:=l.length) (by omega);have e:=a6U l 0 0 h (by omega) (by omega);have a:(a4t l).length≤3+9*l.length:=by rw[a4t,lN];omega
 obtain⟨d,u,w⟩:=a6l (l:=a4t l) (by omega);have c:wrap .u64 (a1c (a4t l))=(((a1c (a4t l)).toNat:Nat):Int):=by
  have:=a3S (n:=(a1c (a4t l)).toNat) (by omega)
  rwa [show(((a1c (a4t l)).toNat:Nat):Int)=a1c (a4t l)by omega]at this⊢
 have b2:=a5c (n:=(a1c (a4t l)).toNat) (k:=4) (by omega) (by omega);rw[show((4:Nat):Int)=4 from rfl]at b2;have b:=b1y l [] l 0 0 (a0C l.length) rfl h (by omega) (by omega) (by omega) (by omega);unfold a3j;refine a0E (v:=.inl (l,())) ?_ ?_
 refine a0K (f:=a3e) (fun i=>(l,l,((l.length:Nat):Int),(i:Int),())) l.length (fun i g=>?_) ?_
 unfold a3e;simp only;obtain⟨j,o,p,q,r,s⟩:=h l[i] (a26 g);rw[decide_eq_true (show(i:Int)<((l.length:Nat):Int)by omega),a1o g];simp only[cT,oB,a3d];rw[decide_eq_false (show ¬ (l[i]).1<0 by omega),decide_eq_false (show ¬ (l[i]).1≥4 by omega),decide_eq_true (show(l[i]).2.1≥0 by omega),decide_eq_true (show(l[i]).2.1≤1125899906842624 by omega),decide_eq_true (show(l[i]).2.2.1≥0 by omega),decide_eq_true (show(l[i]).2.2.1≤2147483647 by omega)];simp only[cT,cF,oB,bT];rw[w64 (by omega)];rfl;unfold a3e;simp only;rw[decide_eq_false (by omega)];rfl;simp only;rw[a3S (by omega),b3v (by omega)];simp only[oB];refine a0E b ?_
 simp only;rw[show a0C l.length++a5i 0 0 l=a4t l from rfl];simp only[d,oB,c,b2,a0N];rw[a0F (by omega)];rfl
def a3l(l:List Int):List Int:=l.flatMap fun c=>[wrap .u8 (96+D0r .u8 c 4),wrap .u8 (96+bits .u8 .and c 15)]
theorem a5R(l:List Int):(a3l l).length=2*l.length:=by
 induction l with
 |nil=>rfl
 |cons a l ih=>
  have e:a3l (a::l)=[_,_]++a3l l:=rfl;rw[e,lN,ih,lC];simp only[lC,a05];omega
def a3P(l:List Mk):List Int:=a3l (a5x l)++(a0Q (2*(a5x l).length) 4++[75,69,78,68])
theorem a6V{l:List Mk}(h:∀m∈l,MkOk m)(f:l.length<50000):(a5x l).length≤7+9*l.length:=by
 have a:=a6o (n:=l.length) (by omega);have g:=a6U l 0 0 h (by omega) (by omega);rw[a5x,lN,a0N,a4t,lN];omega
theorem b2I(h:∀p∈l,PgOk p∧a4q p)(q:l.length<50000)(d:∀m∈l.flatMap a1a,MkOk m):a3k l=some (a3P (l.flatMap a1a),0):=by
 have r:=a5q l;have o:=a6V d (by omega);unfold a3k;rw[b3S h (by omega)];simp only[oB];rw[a8Q d (by omega)];simp only[oB,bne_self_eq_false,cF];unfold a3P;generalize a5x (l.flatMap a1a)=b at o;have g:=a5R b
 have:=a0K (f:=a3f) (fun i=>(((b.length:Nat):Int),(i:Int),a3l (b.take i),b,())) b.length (b:=(a3l b,())) (fun i c=>?_) ?_
 refine a0E this ?_
 simp only;have e:wrap .u64 (((a3l b).length:Nat):Int)=((2*b.length:Nat):Int):=by rw[g];exact a3S (by omega)
 have b2:=a5c (n:=2*b.length) (k:=4) (by omega) (by omega);rw[show((4:Nat):Int)=4 from rfl]at b2;rw[e,b2];simp only[oB,a0N,g,a16,lN];rw[a0F (by omega),a0F (by omega)];simp only[cT,aA];unfold a3f;simp only;have e:a3l (b.take (i+1))=a3l (b.take i)++[wrap .u8 (96+D0r .u8 b[i] 4),wrap .u8 (96+bits .u8 .and b[i] 15)]:=by
  unfold a3l;rw[a07 c,a34,a35]
 have j:a23 b (a11 (i:Int)) 0=b[i]:=by rw[tN,lD,lG c];rfl
 have a:=a5R (b.take i);rw[a00]at a;rw[decide_eq_true (show(i:Int)<((b.length:Nat):Int)by omega),decide_eq_true (show(0:Int)≤(i:Int)by omega),j,a0F (by omega),e,w64 (by omega)];rfl;unfold a3f;simp only;rw[decide_eq_false (by omega),a24];rfl
def a1H(i:Inf):List Int:=
 (a0C i.1.toNat++(a0C i.2.1.1.toNat++a0C i.2.1.2.1.toNat))++(bif i.1==1 then(a0C i.2.2.1.1.toNat++(a0C i.2.2.1.2.1.toNat++a0C i.2.2.1.2.2.1.toNat))
  else(a0C i.2.2.2.1.toNat++(a0C i.2.2.2.2.1.toNat++(a0C i.2.2.2.2.2.1.toNat++a0C i.2.2.2.2.2.2.1.toNat))))
def a0U(a:List Inf):List Int:=[75,73,78,79,82,65]++(a0C a.length++a.flatMap a1H)
def a2x(a:List Inf):List Int:=a0U a++a0Q (a1c (a0U a)).toNat 4
theorem b5d{x y z w:Nat}(f:x<1000000)(a:y<1000000)(b:z<1000000)(g:w<1000000):a1v [(x:Int),(y:Int),(z:Int),(w:Int)]=some (a0C x++(a0C y++(a0C z++a0C w))):=by
 have:=a4s (ns:=[x,y,z,w]) (fun n h=>by simp only[mC,a63,or_false]at h;omega) (by simp)
 rw[show asI [x,y,z,w]=[(x:Int),(y:Int),(z:Int),(w:Int)]from rfl]at this;rw[this];simp only[a33,a49,a03]
theorem b0N{x y z:Nat}(g:x<2000000)(f:y<2000000)(a:z<2000000):a1v [(x:Int),(y:Int),(z:Int)]=some (a0C x++(a0C y++a0C z)):=by
 have:=a4s (ns:=[x,y,z]) (fun n h=>by simp only[mC,a63,or_false]at h;omega) (by simp)
 rw[show asI [x,y,z]=[(x:Int),(y:Int),(z:Int)]from rfl]at this;rw[this];simp only[a33,a49,a03]
theorem a1b(h:n<2000000):(a0C n).length≤3:=(a5Q 2 n (by omega)).2
theorem wuI{z:Int}(h:0≤z)(g:z<2000000):wrap .u64 z=((z.toNat:Nat):Int):=by
 have:=a3S (n:=z.toNat) (by omega)
 rwa [show((z.toNat:Nat):Int)=z by omega]at this⊢
theorem a8R{i:Inf}(h:InfOk i):(a1H i).length≤21:=by
 cases h with
 |sound n d r c b hn hd hr hc hb=>
  have g:=a1b (n:=(1:Int).toNat) (by decide);have f:=a1b (n:=n.toNat) (by omega);have a:=a1b (n:=d.toNat) (by omega);have j:=a1b (n:=r.toNat) (by omega);have l:=a1b (n:=c.toNat) (by omega);have m:=a1b (n:=b.toNat) (by omega);unfold a1H;simp only[beq_self_eq_true,cT,lN];omega
 |images n d w h e p hn hd hw hh he hp=>
  have g:=a1b (n:=(2:Int).toNat) (by decide);have f:=a1b (n:=n.toNat) (by omega);have a:=a1b (n:=d.toNat) (by omega);have j:=a1b (n:=w.toNat) (by omega);have l:=a1b (n:=h.toNat) (by omega);have m:=a1b (n:=e.toNat) (by omega);have o:=a1b (n:=p.toNat) (by omega);unfold a1H;rw[show((2:Int)==1)=false by decide];simp only[cF,lN];omega
theorem b1z{n:Int}{k:Nat}{out:List Int}(l:k<a.length)(j:n=((a.length:Nat):Int))(f:InfOk a[k])(x:out.length<100000)(v:a.length<1000):
  a2s (a,n,(k:Int),out,())=some (.inl (a,n,((k+1:Nat):Int),out++a1H a[k],())):=by
 unfold a2s;simp only;rw[decide_eq_true (show(k:Int)<n by omega),a1o l,w64 (n:=(k:Int)+1) (by omega)];simp only[cT,oB];generalize a[k]=i at f;cases f with
 |sound n d r c b j hd hr hc hb=>
  have m:=a1b (n:=(1:Int).toNat) (by decide);have o:=a1b (n:=n.toNat) (by omega);have q:=a1b (n:=d.toNat) (by omega);have s:=a1b (n:=r.toNat) (by omega);have t:=a1b (n:=c.toNat) (by omega);have u:=a1b (n:=b.toNat) (by omega);simp only;rw[wuI (z:=1) (by decide) (by decide),wuI (z:=n) (by omega) (by omega),wuI (z:=d) (by omega) (by omega),wuI (z:=r) (by omega) (by omega),wuI (z:=c) (by omega) (by omega),wuI (z:=b) (by omega) (by omega)];rw[b0N (by decide) (by omega) (by omega),b0N (by omega) (by omega) (by omega)];simp only[oB,beq_self_eq_true,cT,a16,lN];rw[a0F (by omega),a0F (by omega)];simp only[cT,a1H,beq_self_eq_true,aA];rfl
 |images n d w h e p j hd hw hh he hp=>
  have m:=a1b (n:=(2:Int).toNat) (by decide);have o:=a1b (n:=n.toNat) (by omega);have q:=a1b (n:=d.toNat) (by omega);have s:=a1b (n:=w.toNat) (by omega);have t:=a1b (n:=h.toNat) (by omega);have u:=a1b (n:=e.toNat) (by omega);have y:=a1b (n:=p.toNat) (by omega);simp only;rw[wuI (z:=2) (by decide) (by decide),wuI (z:=n) (by omega) (by omega),wuI (z:=d) (by omega) (by omega),wuI (z:=w) (by omega) (by omega),wuI (z:=h) (by omega) (by omega),wuI (z:=e) (by omega) (by omega),wuI (z:=p) (by omega) (by omega)];rw[b0N (by decide) (by omega) (by omega),b5d (by omega) (by omega) (by omega) (by omega)];have g:((2:Int)==1)=false:=by decide
  simp only[oB,g,cF,cT,a16,lN];rw[a0F (by omega),a0F (by omega)];simp only[cT,cF,a1H,g,aA];rfl
theorem a5j:∀(a:List Inf),(∀i∈a,InfOk i)→(a.flatMap a1H).length≤21*a.length
 | [],_=>by simp
 |i::a,h=>by
  have f:=a8R (h i (by simp));have b:=a5j a fun j g=>h j (by simp[g]);rw[a33,lN,lC];omega
theorem a9T(h:∀i∈a,InfOk i)(q:a.length≤4):a2A a=some (a2x a):=by
 have u:=a1b (n:=a.length) (by omega);have r:=a5j a h;have c:(a0U a).length≤93:=by
  simp only[a0U,lN,lC,a05];omega
 obtain⟨o,s,t⟩:=a6l (l:=a0U a) (by omega);have m:wrap .u64 (a1c (a0U a))=(((a1c (a0U a)).toNat:Nat):Int):=by
  have:=a3S (n:=(a1c (a0U a)).toNat) (by omega)
  rwa [show(((a1c (a0U a)).toNat:Nat):Int)=a1c (a0U a)by omega]at this⊢
 have b2:=a5c (n:=(a1c (a0U a)).toNat) (k:=4) (by omega) (by omega);rw[show((4:Nat):Int)=4 from rfl]at b2;unfold a2A;rw[a3S (by omega),b3v (by omega)];simp only[oB];rw[a0F (by omega)];simp only[cT]
 have:=a0K (f:=a2s) (fun k=>(a,((a.length:Nat):Int),(k:Int),[75,73,78,79,82,65]++(a0C a.length++(a.take k).flatMap a1H),())) a.length (b:=(a0U a,())) (fun k g=>?_) ?_
 rw[a41,a49,a03]at this;refine a0E this ?_
 simp only[o,oB,m,b2,a0N];rw[a0F (by omega)];rfl;have d:=a5j (a.take k) fun j e=>h j (a27 e);rw[a00]at d;have p:=b1z (a:=a) (n:=((a.length:Nat):Int)) (k:=k) (out:=[75,73,78,79,82,65]++(a0C a.length++(a.take k).flatMap a1H)) g rfl (h _ (a26 g)) (by simp only[lN,lC,a05];omega) (by omega);rw[p,a07 g,a34,a35];simp only[aA];unfold a2s;simp only;rw[decide_eq_false (by omega),a24];rfl
theorem wI{z:Int}(h:0≤z)(g:z<2000000):wrap .i64 ((z.toNat:Nat):Int)=z:=by rw[w64 (by omega)];omega
theorem a4D{z:Int}(g:0≤z)(f:z<2000000)(a:z≤most)(h:(P++(a0C z.toNat++R)).length<1000000):
  a0D (rdr P (a0C z.toNat++R),most)=some (((z.toNat:Nat):Int),rdr (P++a0C z.toNat) R):=b1w (by omega) (by omega) h
theorem b2J{i:Inf}(h:InfOk i)(g:(P++(a1H i++R)).length<900000):a3V (rdr P (a1H i++R))=some (i,rdr (P++a1H i) R):=by
 have a:=a8R h;simp only[lN]at g;cases h with
 |sound n d r c b hn hd hr hc hb=>
  have l:=a1b (n:=(1:Int).toNat) (by decide);have m:=a1b (n:=n.toNat) (by omega);have o:=a1b (n:=d.toNat) (by omega);have q:=a1b (n:=r.toNat) (by omega);have s:=a1b (n:=c.toNat) (by omega);have t:=a1b (n:=b.toNat) (by omega);have e:a1H (1,(n,d,()),(r,c,b,()),0,0,0,0,())=a0C (1:Int).toNat++(a0C n.toNat++(a0C d.toNat++(a0C r.toNat++(a0C c.toNat++a0C b.toNat)))):=by
   unfold a1H;simp only[beq_self_eq_true,cT,aA]
  rw[e]at g⊢;simp only[lN]at g;simp only[aA];unfold a3V;rw[a4D (z:=1) (by decide) (by decide) (by decide) (by simp only[lN];omega)];simp only[oB];rw[a4D (z:=n) (by omega) (by omega) (by omega) (by simp only[lN];omega)];simp only[oB];rw[a4D (z:=d) (by omega) (by omega) (by omega) (by simp only[lN];omega)];simp only[oB];rw[wI (z:=1) (by decide) (by decide)];simp only[beq_self_eq_true,cT];rw[a4D (z:=r) (by omega) (by omega) (by omega) (by simp only[lN];omega)];simp only[oB];rw[a4D (z:=c) (by omega) (by omega) (by omega) (by simp only[lN];omega)];simp only[oB];rw[a4D (z:=b) (by omega) (by omega) (by omega) (by simp only[lN];omega)];simp only[oB];rw[wI (z:=n) (by omega) (by omega),wI (z:=d) (by omega) (by omega),wI (z:=r) (by omega) (by omega),wI (z:=c) (by omega) (by omega),wI (z:=b) (by omega) (by omega)];simp only[aA]
 |images n d w h e p hn hd hw hh he hp=>
  have l:=a1b (n:=(2:Int).toNat) (by decide);have m:=a1b (n:=n.toNat) (by omega);have o:=a1b (n:=d.toNat) (by omega);have q:=a1b (n:=w.toNat) (by omega);have s:=a1b (n:=h.toNat) (by omega);have t:=a1b (n:=e.toNat) (by omega);have u:=a1b (n:=p.toNat) (by omega);have f:((2:Int)==1)=false:=by decide
  have j:a1H (2,(n,d,()),(0,0,0,()),w,h,e,p,())=a0C (2:Int).toNat++(a0C n.toNat++(a0C d.toNat++(a0C w.toNat++(a0C h.toNat++(a0C e.toNat++a0C p.toNat))))):=by
   unfold a1H;simp only[f,cF,aA]
  rw[j]at g⊢;simp only[lN]at g;simp only[aA];unfold a3V;rw[a4D (z:=2) (by decide) (by decide) (by decide) (by simp only[lN];omega)];simp only[oB];rw[a4D (z:=n) (by omega) (by omega) (by omega) (by simp only[lN];omega)];simp only[oB];rw[a4D (z:=d) (by omega) (by omega) (by omega) (by simp only[lN];omega)];simp only[oB];rw[wI (z:=2) (by decide) (by decide)];simp only[f,cF];rw[a4D (z:=w) (by omega) (by omega) (by omega) (by simp only[lN];omega)];simp only[oB];rw[a4D (z:=h) (by omega) (by omega) (by omega) (by simp only[lN];omega)];simp only[oB];rw[a4D (z:=e) (by omega) (by omega) (by omega) (by simp only[lN];omega)];simp only[oB];rw[a4D (z:=p) (by omega) (by omega) (by omega) (by simp only[lN];omega)];simp only[oB];rw[wI (z:=n) (by omega) (by omega),wI (z:=d) (by omega) (by omega),wI (z:=w) (by omega) (by omega),wI (z:=h) (by omega) (by omega),wI (z:=e) (by omega) (by omega),wI (z:=p) (by omega) (by omega)];simp only[aA]
theorem a7r{x:List Int}:∀(rest:List Inf)(out:List Inf)(P R:List Int),(∀i∈rest,InfOk i)→(P++(rest.flatMap a1H++R)).length<800000→out.length+rest.length<100→
  x0y a2W (x,((rest.length:Nat):Int),out,rdr P (rest.flatMap a1H++R),())=some (x,out++rest,rdr (P++rest.flatMap a1H) R,())
 | [],out,P,R,_,_,_=>by
  refine a1e ?_
  unfold a2W;simp only;rw[decide_eq_false (by simp)];simp only[cF,a03,a49,a04]
 |i::rest,out,P,R,h,hl,ho=>by
  rw[a33]at hl⊢;rw[lC]at ho;have g:=hl;simp only[lN]at g;have step:a2W (x,(((i::rest).length:Nat):Int),out,rdr P ((a1H i++rest.flatMap a1H)++R),())=some (.inl (x,((rest.length:Nat):Int),out++[i],rdr (P++a1H i) (rest.flatMap a1H++R),())):=by
   unfold a2W;simp only;rw[decide_eq_true (show(((i::rest).length:Nat):Int) > 0 by simp only[lC];omega),aA,b2J (h i (by simp)) (by simp only[lN];omega)];simp only[cT,oB];have w:wrap .u64 ((((i::rest).length:Nat):Int)-1)=((rest.length:Nat):Int):=by
    rw[show(((i::rest).length:Nat):Int)-1=((rest.length:Nat):Int)by simp only[lC];omega];exact a3S (by omega)
   rw[a0F (by omega),w];rfl
  rw[a1x step,a7r rest (out++[i]) (P++a1H i) R (fun j f=>h j (by simp[f])) (by simp only[lN];omega) (by simp only[lN,a06];omega)];simp only[aA,a38]
theorem b2K{x:List Int}{r:List Int×(Int×Int×Unit)}(h:∀i∈a,InfOk i)(c:a.length<1000):x0y a2X (x,((a.length:Nat):Int),(0:Int),a,r,())=some (.inl (x,a,r,())):=by
 refine a0K (f:=a2X) (fun i=>(x,((a.length:Nat):Int),(i:Int),a,r,())) a.length (fun i g=>?_) ?_
 unfold a2X;simp only;have b:∀z,a23 a (a11 (i:Int)) z=a[i]:=fun z=>by rw[tN,lD,lG g];rfl
 rw[decide_eq_true (show(i:Int)<((a.length:Nat):Int)by omega),decide_eq_true (show(0:Int)≤(i:Int)by omega),b,b1q (h _ (a26 g))];simp only[cT,a19,oB,bT,cF];rw[w64 (by omega)];rfl;unfold a2X;simp only;rw[decide_eq_false (by omega)];rfl
theorem b2i(h:∀i∈a,InfOk i)(u:1≤a.length)(v:a.length≤4)(y:R.length<500000):a2m (a2x a++R)=some (a,(((a2x a).length:Nat):Int),0):=by
 have D:=a1b (n:=a.length) (by omega);have z:=a5j a h;have w:(a0U a).length=6+((a0C a.length).length+(a.flatMap a1H).length):=by
  simp only[a0U,lN,lC,a05]
 have f:(a2x a).length=(a0U a).length+4:=by rw[a2x,lN,a0N]
 obtain⟨s,B,C⟩:=a6l (l:=a0U a) (by omega);have e:a2x a++R=[75,73,78,79,82,65]++(a0C a.length++(a.flatMap a1H++(a0Q (a1c (a0U a)).toNat 4++R))):=by
  simp only[a2x,a0U,aA]
 have b:(a2x a++R).length=(a0U a).length+4+R.length:=by rw[lN,f]
 unfold a2m;rw[b,decide_eq_false (show ¬ (((a0U a).length+4+R.length:Nat):Int)<6 by omega),decide_eq_true (show(6:Int)≤(((a0U a).length+4+R.length:Nat):Int)by omega)];have o:a42 6 (a2x a++R)=[75,73,78,79,82,65]:=by rw[e];rfl
 have j:(b2s ([75,73,78,79,82,65]:List Int) != ([75,73,78,79,82,65]:List Int))=false:=by decide
 rw[o,j,a7p (by omega)];simp only[cF,cT,oB];rw[e];have c:=a9Q (P:=[]) (A:=[75,73,78,79,82,65]) (R:=a0C a.length++(a.flatMap a1H++(a0Q (a1c (a0U a)).toNat 4++R))) (by rw[a04,←e,b];omega);rw[show((([75,73,78,79,82,65]:List Int).length:Nat):Int)=6 from rfl]at c;rw[c];simp only[oB];rw[b1w (n:=a.length) (by omega) (by omega) (by simp only[lN,a0N,lC,a05];omega)];simp only[oB];have r:=a7r (x:=[75,73,78,79,82,65]++(a0C a.length++(a.flatMap a1H++(a0Q (a1c (a0U a)).toNat 4++R)))) a [] ([]++[75,73,78,79,82,65]++a0C a.length) (a0Q (a1c (a0U a)).toNat 4++R) h (by simp only[lN,a0N,lC,a05];omega) (by simp only[a05];omega);refine a0E r ?_
 have m:[]++[75,73,78,79,82,65]++a0C a.length++a.flatMap a1H=a0U a:=by simp only[a0U,aA,a04]
 rw[m];simp only[a04,a1Z,rdr,oB,bne_self_eq_false,cF];have p:(((a.length:Nat):Int)==0)=false:=by rw[beq_eq_false_iff_ne];omega
 rw[p];simp only[cF];refine a0E (b2K h (by omega)) ?_
 simp only[a1B,a2N,oB];have g:=a5f (P:=a0U a) (R:=R) (n:=(a1c (a0U a)).toNat) (k:=4) (by omega) (by rw[show 256^4=4294967296 by decide];omega) (by simp only[lN,a0N];omega);simp only[rdr]at g;rw[show((4:Nat):Int)=4 from rfl]at g;have q:wrap .u64 (a1c (a0U a))=(((a1c (a0U a)).toNat:Nat):Int):=by
  have:=a3S (n:=(a1c (a0U a)).toNat) (by omega)
  rwa [show(((a1c (a0U a)).toNat:Nat):Int)=a1c (a0U a)by omega]at this⊢
 have t:wrap .i64 (((a0U a++(a0Q (a1c (a0U a)).toNat 4++R)).length:Int)-(((a0U a).length:Nat):Int))=((4+R.length:Nat):Int):=by
  rw[w64 (by simp only[lN,a0N];omega)];simp only[lN,a0N];omega
 have d:[75,73,78,79,82,65]++(a0C a.length++(a.flatMap a1H++(a0Q (a1c (a0U a)).toNat 4++R)))=a0U a++(a0Q (a1c (a0U a)).toNat 4++R):=by simp only[a0U,aA]
 rw[t,d,decide_eq_false (show ¬ ((4+R.length:Nat):Int)<4 by omega),decide_eq_true (show(0:Int)≤(((a0U a).length:Nat):Int)by omega),decide_eq_true (show(((a0U a).length:Nat):Int)≤(((a0U a++(a0Q (a1c (a0U a)).toNat 4++R)).length:Nat):Int)by simp only[lN];omega),tN,a98];simp only[cF,cT,a19,s,oB,g,q,bne_self_eq_false];rw[lN,a0N,f]
structure Drawn (n:Nat) (a:List Inf) (L:List (List Pk)):Prop where
 len:a.length=L.length
 inf:∀i∈a,InfOk i
 str:StrOk n L
structure Woven (Z:List Pk):Prop where
 pk:∀p∈Z,a5e p
 len:Z.length≤32
 asc:Asc Z
def a0G(Z:List Pk):List Pge:=a0P 0 (Z.map a0R)
theorem a8S(h:Woven Z):∀b∈Z.map a0R,b.length≤918:=by
 intro b g;obtain⟨p,hp,rfl⟩:=List.mem_map.1 g;obtain⟨s,f,_⟩:=h.pk p hp
 have:=f.dat
 rw[a4c];omega
theorem a4L(h:Woven Z):(a0G Z).length≤29376:=by
 have:=a7l (Z.map a0R) 0 918 (a8S h)
 rw[a47]at this;have g:=h.len;unfold a0G;omega
theorem a5k(h:Woven Z):∀(i:Nat)(p:Pge),(a0G Z)[i]?=some p→p.1=(i:Int)∧PgPlain p:=by
 intro i p hp;have f:=h.len
 have:=a7P (Z.map a0R) 0 (fun b g=>Nat.le_trans (a8S h b g) (by decide)) (by rw[a47];omega) i p hp
 rw[a61]at this;exact this
theorem a4J(h:Woven Z):∀p∈a0G Z,PgPlain p:=by
 intro p hp;obtain⟨i,g⟩:=a28 hp;exact(a5k h i p g).2
theorem b1A(h:Woven Z):b0L (a0G Z):=fun i p hp=>(a5k h i p hp).1
theorem a5S(h:Woven Z):∀p∈a0G Z,a4q p:=a6K Z 0 h.pk
theorem b1B(h:Woven Z):∀p∈a0G Z,0≤p.1∧p.1≤50000:=by
 intro p hp;obtain⟨i,g⟩:=a28 hp;have f:=(a5k h i p g).1;have a:=(lS.1 g).1;have b:=a4L h;omega
theorem b2j{P:List Pge}(d:∀p∈P,a4q p)(i:∀p∈P,0≤p.1∧p.1≤50000):∀m∈P.flatMap a1a,MkOk m:=by
 intro m h;obtain⟨p,hp,h⟩:=b20.1 h
 by_cases f:p.2.1=true
 ·by_cases g:p.2.2.2.1=true
  rw[a5h g]at h;cases h
  ·have g:p.2.2.2.1=false:=by simpa using g
   obtain⟨q,⟨s,a,b,c⟩,e,_⟩:=d p hp f g;rw[a5w f g ⟨s,a,b,c⟩ e]at h;cases hk:q.2.2.2.1 with
   |false=>rw[hk]at h;cases h
   |true=>
    rw[hk]at h;have h:=a17.1 (show m∈[(q.1,q.2.1,p.1,())]from h);subst h;obtain⟨j,l⟩:=i p hp;exact⟨by rw[a.st];exact b,by rw[a.st];exact c,a.at0,a.at1,j,l⟩
 have f:p.2.1=false:=by simpa using f
 have e:a1a p=[]:=by unfold a1a;rw[f];rfl
 rw[e]at h;cases h
def a4u(Z:List Pk):List Int:=a0W (a0T (a0G Z))
def a4v(a:List Inf)(Z:List Pk):List Int:=a2x a++(a4u Z++a3P ((a0G Z).flatMap a1a))
theorem a8T(h:Woven Z):a2U (a0G Z)=some (a0T (a0G Z),0):=b1s (a4J h) (b1A h) (by have:=a4L h;omega)
theorem a7s(h:Woven Z):∀q∈a0T (a0G Z),PgOk q:=a7n _ _ (a08 _) (a4J h)
theorem a8U(h:Woven Z):(a0T (a0G Z)).length≤58752:=by
 have:=a4p _ _ (a08 (a0G Z).length)
 have:=a4L h
 omega
theorem a8V:∀(n:Nat)(f:Bool)(s:Nat)(r:List Int),r.length≤252*n→(a1G f s r).length≤n
 |0,f,s,r,h=>by
  have:r=[]:=a20.1 (by omega)
  subst this;rw[a2u];exact a08 _
 |n+1,f,s,r,h=>by
  by_cases hr:r=[]
  subst hr;rw[a2u];exact Nat.zero_le _;rw[a2J hr,lC]
  have:=a8V n false (s+1) (r.drop 252) (by rw[a01];omega)
  omega
theorem a7t:∀(bs:List (List Int)) (s:Nat),(∀b∈bs,b.length≤918)→(a0P s bs).length≤4*bs.length
 | [],s,_=>by simp[a0P]
 |b::bs,s,h=>by
  have f:=a8V 4 true s b (by have:=h b (by simp);omega);have a:=a7t bs (s+(a1G true s b).length) fun c g=>h c (by simp[g]);rw[a0P,lN,lC];omega
theorem a6p(h:Woven Z):(a0G Z).length≤128:=by
 have:=a7t (Z.map a0R) 0 (a8S h)
 rw[a47]at this
 have:=h.len
 unfold a0G;omega
theorem a6W(h:Woven Z):(a4u Z).length≤68352:=by
 have g:=a5O _ (a7s h);have f:=a4p _ _ (a08 (a0G Z).length);have a:=a6p h;unfold a4u;omega
theorem b2L(h:Woven Z):∀q∈a0T (a0G Z),a4q q:=a6J _ _ (a08 _) (a4J h) (a5S h)
theorem b2k(h:Woven Z):(a0T (a0G Z)).flatMap a1a=(a0G Z).flatMap a1a:=a6n _ _ (a08 _) (a4J h)
theorem a5T(h:Woven Z):∀m∈(a0G Z).flatMap a1a,MkOk m:=b2j (a5S h) (b1B h)
theorem a8W(h:Woven Z):((a0G Z).flatMap a1a).length≤128:=Nat.le_trans (a5q _) (a6p h)
theorem b0O(h:Woven Z):a3k (a0T (a0G Z))=some (a3P ((a0G Z).flatMap a1a),0):=by
 have e:=b2k h;rw[←e];refine b2I (fun p hp=>⟨a7s h p hp,b2L h p hp⟩) ?_ ?_
 have:=a4p _ _ (a08 (a0G Z).length)
 have:=a6p h
 omega;rw[e];exact a5T h
theorem a6X(h:Woven Z):(a3P ((a0G Z).flatMap a1a)).length≤2400:=by
 have g:=a6V (a5T h) (by have:=a8W h;omega);have f:=a8W h;rw[a3P,lN,a5R,lN,a0N];simp only[lC,a05];omega
theorem Drawn.weave(h:Drawn n a L)(b:n≤8):∃Z,a2L L=some (Z,0)∧Woven Z∧Stb L.flatten Z:=by
 obtain⟨Z,c,d,g⟩:=b2c h.str b;refine⟨Z,c,⟨fun p hp=>?_,?_,d⟩,g⟩;have hp:=(g.perm.mem_iff).1 hp;obtain⟨l,e,hp⟩:=a89.1 hp;obtain⟨i,f⟩:=a28 e
 have:=(lS.1 f).1
 have:=h.str.four
 exact⟨(i:Int),(h.str.ok i l f).ok p hp,by omega,by omega⟩;rw[g.perm.length_eq]
 have:=a5N h.str.lens
 have:=h.str.four
 have:n*L.length≤8*4:=a96 b this
 omega
theorem b3w(h:∀i∈a,InfOk i)(g:a.length≤4):(a2x a).length≤200:=by
 have b:=a1b (n:=a.length) (by omega);have f:=a5j a h;rw[a2x,lN,a0N,a0U,lN,lN];simp only[lC,a05];omega
theorem a6M(h:Woven Z):a2S (Z,0)=some (a0G Z,0):=b2d h.pk (by have:=h.len;omega)
theorem b1C(h:∀i∈a,InfOk i)(c:a.length<1000):x0y a2H (a,L,a,((a.length:Nat):Int),(0:Int),())=some (.inl (a,L,())):=by
 have:=a0K (f:=a2H) (fun i=>(a,L,a,((a.length:Nat):Int),(i:Int),())) a.length (b:=.inl (a,L,())) (fun i g=>?_) ?_
 exact this;unfold a2H;simp only;rw[decide_eq_true (show(i:Int)<((a.length:Nat):Int)by omega),a1o g];simp only[cT,oB,b1q (h _ (a26 g)),bT,cF];rw[w64 (by omega)];rfl;unfold a2H;simp only;rw[decide_eq_false (by omega)];rfl
theorem Drawn.write(h:Drawn n a L)(d:a2L L=some (Z,0))(g:Woven Z):a1N (a,L)=some (a4v a Z,0):=by
 have i:=h.str.one;have j:=h.str.four;have c:=h.len;have b1:=a6W g;have b2:=a6X g;have e:=b3w h.inf (by omega);have f:a2V (a0T (a0G Z))=some (a4u Z,0):=a7Q (a7s g) (by have:=a8U g;omega);unfold a1N;simp only;have b:(((L.length:Nat):Int) != ((a.length:Nat):Int))=false:=by rw[c,bne_self_eq_false]
 rw[decide_eq_false (show ¬ ((a.length:Nat):Int)<1 by omega),decide_eq_false (show ¬ ((a.length:Nat):Int) > 4 by omega),b];simp only[cF,oB];refine a0E (b1C h.inf (by omega)) ?_
 simp only[d,oB,bne_self_eq_false,cF,a6M g,a8T g,f,b0O g,a9T h.inf (by omega),a16,lN];rw[a0F (by omega),a0F (by omega)];simp only[cT,a4v,aA]
def pgF(p:Pge):Int:=bits .u8 .or (bits .u8 .or (bif p.2.1 then 1 else 0) (bif p.2.2.1 then 2 else 0)) (bif p.2.2.2.1 then 4 else 0)
theorem b2M(p:Pge):pgF p=(bif p.2.1 then 1 else 0)+((bif p.2.2.1 then 2 else 0)+(bif p.2.2.2.1 then 4 else 0)):=by
 unfold pgF;cases p.2.1<;>cases p.2.2.1<;>cases p.2.2.2.1<;>decide
theorem b2l(p:Pge):0≤pgF p∧pgF p≤7∧((bits .u64 .and (pgF p) 1) != 0)=p.2.1∧((bits .u64 .and (pgF p) 2) != 0)=p.2.2.1∧((bits .u64 .and (pgF p) 4) != 0)=p.2.2.2.1:=by
 rw[b2M];cases p.2.1<;>cases p.2.2.1<;>cases p.2.2.2.1<;>decide
theorem a8X(p:Pge):pgB p=[75,80]++(([pgF p]++(a0Q p.1.toNat 4++[wrap .u8 ((p.2.2.2.2.1.length:Nat):Int)]))++(p.2.2.2.2.1++a0Q (a1c (pgH p)).toNat 4)):=by
 simp only[pgB,pgH,pgF,aA,a09,a04]
theorem b2m(hp:PgOk p)(B:(P++(pgB p++R)).length<1000000):a3m (P++(pgB p++R),((P.length:Nat):Int))=some (p,(((pgB p).length:Nat):Int),0):=by
 obtain⟨O,Q,S,y⟩:=hp;have g:p.2.2.2.2.1.length≤255:=by
  revert y
  cases p.2.2.2.1<;>simp only[cT,cF]<;>omega
 have h:=a6x p;have f:=a6w p;simp only[lN]at B;have C:a1M p.2.2.2.1=some (((bif p.2.2.2.1 then 255 else 252:Nat):Nat):Int):=by
  unfold a1M;cases p.2.2.2.1<;>rfl
 obtain⟨H,T,U⟩:=a6l (l:=pgH p) (by omega);have E:wrap .u64 (a1c (pgH p))=(((a1c (pgH p)).toNat:Nat):Int):=by
  have:=a3S (n:=(a1c (pgH p)).toNat) (by omega)
  rwa [show(((a1c (pgH p)).toNat:Nat):Int)=a1c (pgH p)by omega]at this⊢
 obtain⟨M,N,u,v,w⟩:=b2l p;have a:wrap .u8 ((p.2.2.2.2.1.length:Nat):Int)=((p.2.2.2.2.1.length:Nat):Int):=b0K (by omega);generalize hD:pgB p++R=D;have z:D.length=12+p.2.2.2.2.1.length+R.length:=by rw[←hD,lN,h]
 have q:a54 (a11 ((P.length:Nat):Int)) (a42 (P++D).length (P++D))=D:=by rw[tN,a24,a69]
 have j:n0p D 0=some 75:=by rw[←hD,a8X];rfl
 have m:n0p D 1=some 80:=by rw[←hD,a8X];rfl
 have s:a54 2 (a42 8 D)=[pgF p]++(a0Q p.1.toNat 4++[wrap .u8 ((p.2.2.2.2.1.length:Nat):Int)]):=by
  rw[←hD,a8X]
  have:([75,80]++(([pgF p]++(a0Q p.1.toNat 4++[wrap .u8 ((p.2.2.2.2.1.length:Nat):Int)]))++(p.2.2.2.2.1++a0Q (a1c (pgH p)).toNat 4))++R:List Int)=([75,80]++([pgF p]++(a0Q p.1.toNat 4++[wrap .u8 ((p.2.2.2.2.1.length:Nat):Int)])))++(p.2.2.2.2.1++a0Q (a1c (pgH p)).toNat 4++R):=by
   simp only[aA]
  rw[this,List.take_left' (by simp only[lN,a0N,lC,a05])];rfl
 have r:a42 (8+p.2.2.2.2.1.length) D=pgH p:=by
  rw[←hD,pgB,aA,←f,a98]
 have o:a54 8 (pgH p)=p.2.2.2.2.1:=by
  have:pgH p=([75,80]++([pgF p]++(a0Q p.1.toNat 4++[wrap .u8 ((p.2.2.2.2.1.length:Nat):Int)])))++p.2.2.2.2.1:=by
   simp only[pgH,pgF,aA,a09,a04]
  rw[this,List.drop_left' (by simp only[lN,a0N,lC,a05])]
 have t:a54 (8+p.2.2.2.2.1.length) (a42 (12+p.2.2.2.2.1.length) D)=a0Q (a1c (pgH p)).toNat 4:=by
  have:a42 (12+p.2.2.2.2.1.length) D=pgB p:=by rw[←hD,←h,a98]
  rw[this,pgB,←f,a69]
 have e:=a5C (P:=[]) (A:=[pgF p]) (R:=a0Q p.1.toNat 4++[wrap .u8 ((p.2.2.2.2.1.length:Nat):Int)]) (by simp) (fun b g=>by rw[a17]at g;rw[g];omega) (by simp only[lN,a0N,lC,a05];omega);have r2:=a5f (P:=[]++[pgF p]) (R:=[wrap .u8 ((p.2.2.2.2.1.length:Nat):Int)]) (n:=p.1.toNat) (k:=4) (by omega) (by rw[show 256^4=4294967296 by decide];omega) (by simp only[lN,a0N,lC,a05];omega);have i:=a5C (P:=[]++[pgF p]++a0Q p.1.toNat 4) (A:=[wrap .u8 ((p.2.2.2.2.1.length:Nat):Int)]) (R:=[]) (by simp) (fun b g=>by rw[a17]at g;rw[g];exact wu8 _) (by simp only[lN,a0N,lC,a05];omega);have c:=a5f (P:=[]) (R:=[]) (n:=(a1c (pgH p)).toNat) (k:=4) (by omega) (by rw[show 256^4=4294967296 by decide];omega) (by simp only[lN,a0N,lC,a05];omega);rw[show((([pgF p]:List Int).length:Nat):Int)=1 from rfl,show a3r [pgF p]=pgF p by simp[a3r]]at e;rw[show((([wrap .u8 ((p.2.2.2.2.1.length:Nat):Int)]:List Int).length:Nat):Int)=1 from rfl,show a3r [wrap .u8 ((p.2.2.2.2.1.length:Nat):Int)]=((p.2.2.2.2.1.length:Nat):Int)by simp[a3r,a],a03]at i;rw[show((4:Nat):Int)=4 from rfl]at r2 c;rw[a03]at c;rw[show((p.1.toNat:Nat):Int)=p.1 by omega]at r2;have K:wrap .i64 ((p.2.2.2.2.1.length:Nat):Int)=((p.2.2.2.2.1.length:Nat):Int):=w64 (by omega);have I:wrap .i64 (8+((p.2.2.2.2.1.length:Nat):Int))=((8+p.2.2.2.2.1.length:Nat):Int):=by rw[w64 (by omega)];omega
 have d:wrap .i64 (((8+p.2.2.2.2.1.length:Nat):Int)+4)=((12+p.2.2.2.2.1.length:Nat):Int):=by rw[w64 (by omega)];omega
 have L:wrap .i64 p.1=p.1:=w64 (by omega);have F:a1w ([pgF p]++(a0Q p.1.toNat 4++[wrap .u8 ((p.2.2.2.2.1.length:Nat):Int)]))=some (rdr [] ([pgF p]++(a0Q p.1.toNat 4++[wrap .u8 ((p.2.2.2.2.1.length:Nat):Int)]))):=a7p (by simp only[lN,a0N,lC,a05];omega);have G:a1w (a0Q (a1c (pgH p)).toNat 4)=some (rdr [] (a0Q (a1c (pgH p)).toNat 4)):=a7p (by rw[a0N];omega);unfold a3m;rw[decide_eq_false (show ¬ ((P.length:Nat):Int)<0 by omega),decide_eq_false (show ¬ ((P.length:Nat):Int) > (((P++D).length:Nat):Int)by rw[lN];omega)];simp only[cF,oB];rw[decide_eq_true (show(0:Int)≤((P.length:Nat):Int)by omega),decide_eq_true (show((P.length:Nat):Int)≤(((P++D).length:Nat):Int)by rw[lN];omega),q,j,m];rw[decide_eq_false (show ¬ ((D.length:Nat):Int)<2 by omega)];simp only[cF,cT,a19,oB,bne_self_eq_false];rw[decide_eq_false (show ¬ ((D.length:Nat):Int)<8 by omega),decide_eq_true (show(8:Int)≤((D.length:Nat):Int)by omega),s,F];simp only[cF,cT,oB,e,r2,i];rw[decide_eq_false (show ¬ pgF p > 7 by omega),decide_eq_false (show ¬ p.1 > 2147483647 by omega),K,decide_eq_false (show ¬ ((p.2.2.2.2.1.length:Nat):Int)<1 by omega),w,C];simp only[cF,cT,oB];rw[decide_eq_false (show ¬ ((p.2.2.2.2.1.length:Nat):Int) > (((bif p.2.2.2.1 then 255 else 252:Nat):Nat):Int)by omega),I,d];simp only[cF,tN,t,r,G,oB];rw[decide_eq_false (show ¬ ((D.length:Nat):Int)<((12+p.2.2.2.2.1.length:Nat):Int)by omega),decide_eq_true (show(0:Int)≤((12+p.2.2.2.2.1.length:Nat):Int)by omega),decide_eq_true (show((12+p.2.2.2.2.1.length:Nat):Int)≤((D.length:Nat):Int)by omega),decide_eq_true (show(0:Int)≤((8+p.2.2.2.2.1.length:Nat):Int)by omega),decide_eq_true (show((8+p.2.2.2.2.1.length:Nat):Int)≤((12+p.2.2.2.2.1.length:Nat):Int)by omega),decide_eq_true (show((8+p.2.2.2.2.1.length:Nat):Int)≤((D.length:Nat):Int)by omega),decide_eq_true (show(8:Int)≤((8+p.2.2.2.2.1.length:Nat):Int)by omega)];simp only[cF,cT,a19,c,H,E,o,oB,bne_self_eq_false,a5M (x:=p.2.2.2.2.1) (by omega),L,u,v,h]
def b3x:List Int→Prop
 | []=>True
 | [_]=>True
 |a::b::_=>a≠75∨b≠80
theorem b2n{D:List Int}(h:b3x D):∃e,a3m (P++D,((P.length:Nat):Int))=some (((0:Int),false,false,false,([]:List Int),()),(0:Int),e)∧e≠0:=by
 have d:a54 (a11 ((P.length:Nat):Int)) (a42 (P++D).length (P++D))=D:=by rw[tN,a24,a69]
 unfold a3m;rw[decide_eq_false (show ¬ ((P.length:Nat):Int)<0 by omega),decide_eq_false (show ¬ ((P.length:Nat):Int) > (((P++D).length:Nat):Int)by rw[lN];omega)];simp only[cF,oB];rw[decide_eq_true (show(0:Int)≤((P.length:Nat):Int)by omega),decide_eq_true (show((P.length:Nat):Int)≤(((P++D).length:Nat):Int)by rw[lN];omega),d];simp only[cT,a19]
 match D,h with
 | [],_=>exact⟨3,rfl,by decide⟩
 | [a],_=>exact⟨3,rfl,by decide⟩
 |a::b::D,h=>
  rw[decide_eq_false (show ¬ (((a::b::D).length:Nat):Int)<2 by simp only[lC];omega)];have f:n0p (a::b::D) 0=some a:=rfl;have c:n0p (a::b::D) 1=some b:=rfl;simp only[cF,f,c,oB];refine⟨2,?_,by decide⟩
  by_cases ha:a=75
  have j:b≠80:=by
   rcases h with h|h;exact absurd ha h;exact h
  have g:(a != 75)=false:=by rw[ha];rfl
  have i:(b != 80)=true:=by rw[bne_iff_ne];exact j
  simp only[g,i,cF,oB,cT];have g:(a != 75)=true:=by rw[bne_iff_ne];exact ha
  simp only[g,cT,oB]
theorem a7S:∀(l:List Mk)(a s:Int),(∀m∈l,MkOk m)→(0≤a∧a≤1000)→(0≤s∧s≤50000)→∀b∈a5i a s l,0≤b∧b<256
 | [],_,_,_,_,_,b,hb=>by cases hb
 |m::l,a,s,h,ha,hs,b,hb=>by
  have g:=h m (by simp);obtain⟨e,i,a0,a1,c,d⟩:=g;rw[a5i]at hb;rcases mA.1 hb with hb|hb;rcases mA.1 hb with hb|hb;exact a4r 2 _ (by omega) b hb;rcases mA.1 hb with hb|hb;exact a4r 2 _ (by unfold a2Y;split<;>omega) b hb;exact a4r 2 _ (by unfold a2Y;split<;>omega) b hb;exact a7S l _ _ (fun x f=>h x (by simp[f])) ⟨a0,a1⟩ ⟨c,d⟩ b hb
theorem b2o{l:List Mk}(h:∀m∈l,MkOk m)(f:l.length<1000):∀b∈a5x l,0≤b∧b<256:=by
 intro b g;rw[a5x]at g;rcases mA.1 g with g|g;rw[a4t]at g;rcases mA.1 g with g|g;exact a4r 2 _ (by omega) b g;exact a7S l 0 0 h (by omega) (by omega) b g;exact a7M _ _ b g
def a6q:Inf:=(2,(1,1,()),(0,0,0,()),1,1,1,1,())
def pk0:Pk:=((0:Int),(5:Int),(0:Int),true,false,([(120:Int)]:List Int),())
def b0P:List Int:=((a2V ((a2U ((a2S ([pk0],0)).getD ([],0)).1).getD ([],0)).1).getD ([],0)).1
def b0Q:List Int:=((a3j [((0:Int),(5:Int),(0:Int),())]).getD ([],0)).1
def b2A:List Int:=((a2A [a6q]).getD [])++(b0P++(a3l b0Q++(a0Q (2*b0Q.length) 4++[75,69,78,68])))
theorem a8Y:PkOk 0 pk0:=⟨rfl,by decide,by decide,by decide,by decide,by decide,by decide⟩
theorem a9U:∀i∈[a6q],InfOk i:=fun i h=>by
 rw[a17]at h;subst h;exact .images 1 1 1 1 1 1 (by decide) (by decide) (by decide) (by decide) (by decide) (by decide)
theorem a3C:Woven [pk0]:=⟨fun p hp=>by rw[a17]at hp;subst hp;exact⟨0,a8Y,by decide,by decide⟩,by decide,a51 ..⟩
theorem a7T:(a0G [pk0]).flatMap a1a=[((0:Int),(5:Int),(0:Int),())]:=by
 have a:(a0R pk0).length=19:=by rw[a4c];rfl
 have g:(a0R pk0).drop 252=[]:=a72 (by omega);have h:a0G [pk0]=[((0:Int),true,decide ((a0R pk0).length≤252),false,(a0R pk0).take 252,())]:=by
  show a0P 0 [a0R pk0]=_;rw[a0P,a0P,a2J (a6v pk0),g,a2u];rfl
 rw[h,a35];obtain⟨q,b,f,_⟩:=a5S a3C _ (by rw[h];exact List.mem_singleton_self _) rfl rfl;rw[a5w (q:=pk0) rfl rfl ⟨0,a8Y,by decide,by decide⟩ (by rw[a95];rfl)];rfl
theorem a9D:a1N ([a6q],[[pk0]])=some (b2A,0):=by
 have c:StrOk 8 [[pk0]]:=⟨by decide,by decide,fun i l h=>by
  cases i with
  |zero=>cases h;exact⟨fun p hp=>by rw[a17]at hp;subst hp;exact a8Y,by decide,a51 ..⟩
  |succ i=>simp at h⟩
 have b:Drawn 8 [a6q] [[pk0]]:=⟨rfl,a9U,c⟩;have d:a2L [[pk0]]=some ([pk0],0):=by kernel_rfl
 have h:=b.write d a3C;rw[h];have g:a2x [a6q]=(a2A [a6q]).getD []:=by rw[a9T a9U (by decide)];rfl
 have f:a4u [pk0]=b0P:=by
  unfold b0P;rw[a6M a3C,a64,a8T a3C,a64,a7Q (a7s a3C) (by have:=a8U a3C;omega),a64];rfl
 have a:a5x [((0:Int),(5:Int),(0:Int),())]=b0Q:=by
  unfold b0Q;rw[a8Q (by rw[←a7T];exact a5T a3C) (by decide),a64]
 rw[a4v,a7T,g,f,a3P,a];rfl
theorem b2N:a4H ()=some true:=by
 unfold a4H;rw[show a4n ()=some a6q from by kernel_rfl];simp only[oB];rw[show a1N (([a6q]:List Inf),([[((0:Int),(5:Int),(0:Int),true,false,([(120:Int)]:List Int),())]]:List (List Pk)))=some (b2A,0)from a9D]
 kernel_rfl
def a4X:List Int→Prop
 | []=>True
 |a::B=>b3x (a::B)∧a4X B
theorem a7U{x:List Int}{W:List Pge}(c:x.length<1000000):∀(B A:List Int)(n:Nat),x=A++B→a4X B→n+B.length<1000000→
  x0y a1I (x,(n:Int),((A.length:Nat):Int),W,())=some (((n+B.length:Nat):Int),W,())
 | [],A,n,hx,_,_=>by
  refine a1e ?_
  unfold a1I;simp only;rw[hx,a03,decide_eq_false (by omega)];rfl
 |a::B,A,n,hx,h,hn=>by
  rw[lC]at hn;have i:=a7U (W:=W) c B (A++[a]) (n+1) (by rw[hx,aA];rfl) h.2 (by omega);have d:A.length<x.length:=by rw[hx,lN,lC];omega
  rw[a1x (s':=(x,((n+1:Nat):Int),(((A++[a]).length:Nat):Int),W,()))];rw[i,lC];congr 3;omega;obtain⟨e,f,g⟩:=b2n (P:=A) h.1;rw[←hx]at f;unfold a1I;simp only;rw[decide_eq_true (show((A.length:Nat):Int)<((x.length:Nat):Int)by omega),f];have b:(e != 0)=true:=by rw[bne_iff_ne];exact g
  simp only[cT,oB,b];rw[w64 (by omega),w64 (by omega),lN,a06];rfl
theorem a7u{x T:List Int}(c:x.length<1000000):∀(rest done:List Pge),x=a0W done++(a0W rest++T)→(∀p∈rest,PgOk p)→done.length+rest.length<1000000→
  x0y a1I (x,(0:Int),(((a0W done).length:Nat):Int),done,())=x0y a1I (x,(0:Int),(((a0W (done++rest)).length:Nat):Int),done++rest,())
 | [],done,_,_,_=>by rw[a03]
 |p::rest,done,hx,h,hn=>by
  rw[lC]at hn;have a:a0W (done++[p])=a0W done++pgB p:=by unfold a0W;rw[a34,a35]
  have g:a0W (p::rest)=pgB p++a0W rest:=rfl;have f:x=a0W (done++[p])++(a0W rest++T):=by rw[hx,a,g];simp only[aA]
  have j:=a7u c rest (done++[p]) f (fun q e=>h q (by simp[e])) (by rw[lN,a06];omega);have d:=a6x p;have i:x.length=(a0W done).length+((pgB p).length+(a0W rest++T).length):=by rw[hx,g];simp only[lN];omega
  rw[a1x (s':=(x,(0:Int),(((a0W (done++[p])).length:Nat):Int),done++[p],())),j,aA];rfl;have b:=b2m (P:=a0W done) (R:=a0W rest++T) (h p (by simp)) (by rw[lN,lN];omega);rw[←aA (pgB p),←g,←hx]at b;unfold a1I;simp only;rw[decide_eq_true (show(((a0W done).length:Nat):Int)<((x.length:Nat):Int)by omega),b];simp only[cT,oB,bne_self_eq_false,cF];rw[a0F (by omega),w64 (by omega),a,lN];rfl
theorem b2O{W:List Pge}{T:List Int}(h:∀p∈W,PgOk p)(c:a4X T)(g:(a0W W++T).length<1000000)(d:W.length<1000000):a4G (a0W W++T)=some (W,((T.length:Nat):Int)):=by
 have a:=a7u (x:=a0W W++T) (T:=T) g W [] rfl h (by simpa using d);have f:=a7U (x:=a0W W++T) (W:=W) g T (a0W W) 0 rfl c (by rw[lN]at g;omega);rw[a61]at f;have b:x0y a1I (a0W W++T,(0:Int),(0:Int),([]:List Pge),())=some (((T.length:Nat):Int),W,()):=a.trans f;unfold a4G;exact a0E b rfl
theorem a8k{B:List Int}(h:∀a∈A,a≠75)(g:a4X B):a4X (A++B):=by
 induction A with
 |nil=>exact g
 |cons a A ih=>
  refine⟨?_,ih fun b f=>h b (by simp[f])⟩
  have:=h a (by simp)
  match A,B with
  | [],[]=>trivial
  | [],b::B=>exact .inl this
  |b::A,B=>exact .inl this
def b1D(c:Int):Bool:=(wrap .u8 (96+D0r .u8 c 4) != 75)&&(wrap .u8 (96+bits .u8 .and c 15) != 75)
theorem a9E:((a80 256).all fun n=>b1D (n:Int))=true:=by kernel_rfl
theorem b1E{l:List Int}(h:∀b∈l,0≤b∧b<256):∀b∈a3l l,b≠75:=by
 intro b g;obtain⟨c,f,g⟩:=b20.1 g;have a:=h c f;have h:=lA.1 a9E c.toNat (b28.2 (by omega));rw[show((c.toNat:Nat):Int)=c by omega]at h;simp only[b1D,bA,bne_iff_ne]at h;simp only[mC,a63,or_false]at g;rcases g with rfl|rfl;exact h.1;exact h.2
theorem b2P{l:List Mk}(h:∀m∈l,MkOk m)(f:l.length<1000):a4X (a3P l):=by
 have g:=b2o h f;have b:=a6V h (by omega);unfold a3P;refine a8k (b1E g) ?_
 generalize hn:2*(a5x l).length=n at *;have a:n<19000:=by omega
 have e:a0Q n 4=[((n / 16777216%256:Nat):Int),((n / 65536%256:Nat):Int),((n / 256%256:Nat):Int),((n%256:Nat):Int)]:=by
  simp only[a0Q,a2t,b12,List.reverse_nil,a04,a09,a71,Nat.reduceMul]
 rw[e];refine⟨.inl ?_,.inl ?_,.inl ?_,.inr ?_,.inr (by decide),.inl (by decide),.inl (by decide),trivial,trivial⟩;omega;omega;omega;decide
structure PlOk (p:Pge):Prop extends PgPlain p where
 n0:0≤p.1
 n1:p.1≤50000
structure GdOk (p:Pge):Prop extends PgOk p where
 gd:p.2.2.2.1=true
 n0:0≤p.1
 n1:p.1≤50000
 bd:∃(k:Nat)(v1 v2:Int)(sum:List Int),p.2.2.2.2.1=(k:Int)::v1::v2::sum∧1≤k∧k≤8∧1≤sum.length
def gdK(p:Pge):Nat:=(p.2.2.2.2.1.headD 0).toNat
theorem GdOk.k{p:Pge}(h:GdOk p):n0p p.2.2.2.2.1 0=some ((gdK p:Nat):Int)∧1≤gdK p∧gdK p≤8∧3<p.2.2.2.2.1.length:=by
 obtain⟨k,c,d,a,e,g,f,b⟩:=h.bd;unfold gdK;rw[e];refine⟨by show some (k:Int)=_;rw[a78,tN],by rw[a78,tN];exact g,by rw[a78,tN];exact f,by simp only[lC];omega⟩
def isG(p:Pge):Bool:=p.2.2.2.1
def a2Z(l:List Pge):List Pge:=l.filter fun p=>!isG p
def a4E(l:List Pge):List Pge:=l.filter isG
def kv(l:List Pge):List (Int×Pge):=l.map fun p=>(p.1,p)
def a4V(p:Pge):Int:=if isG p then p.1+(gdK p:Int)-1 else p.1
def a6r(t:Int)(l:List Pge):Int:=l.foldl (fun t p=>x0u t (a4V p)) t
theorem b3y(h:GdOk p):a3K p=some true:=by
 obtain⟨e,g,f,a⟩:=h.k;unfold a3K;rw[h.gd,e,decide_eq_true (show((p.2.2.2.2.1.length:Nat):Int) > 3 by omega)];simp only[cT,oB];rw[decide_eq_true (show((gdK p:Nat):Int)≥1 by omega),decide_eq_true (show((gdK p:Nat):Int)≤8 by omega)];rfl
theorem a7v{k:Int}:∀{l:List Pge},(∀p∈l,p.1≠k)→g0l k (kv l)=none
 | [],_=>rfl
 |p::l,h=>by
  have g:(p.1==k)=false:=by rw[beq_eq_false_iff_ne];exact h p (by simp)
  show(bif p.1==k then some p else g0l k (kv l))=none;rw[g];exact a7v fun q f=>h q (by simp[f])
theorem b2Q{a c:Int}(h:a≤c)(g:b≤c):x0u a b≤c:=by rw[a9L];omega
theorem a9V{c:Int}:∀(l:List Pge)(t:Int),t≤c→(∀p∈l,a4V p≤c)→a6r t l≤c
 | [],_,h,_=>h
 |p::l,t,h,hp=>a9V l _ (b2Q h (hp p (by simp))) fun q g=>hp q (by simp[g])
def Fit(l:List Pge):Prop:=(∀p∈l,PlOk p∨GdOk p)∧(a2Z l).Pairwise fun p q=>p.1≠q.1
theorem a6Y(a b:List Pge):a2Z (a++b)=a2Z a++a2Z b:=a85 ..
theorem b2p(a b:List Pge):a4E (a++b)=a4E a++a4E b:=a85 ..
theorem a7w{l:List Pge}(b:Fit l)(t:l.length<1000000):∀(rest done:List Pge),done++rest=l→
  x0y a1f (((0:Int),a6r (-1) done,l,((l.length:Nat):Int),((done.length:Nat):Int),a4E done,a2Z done,()),(0:Int),kv (a2Z done))
   = some (((0:Int),a6r (-1) l,a4E l,a2Z l,()),(0:Int),kv (a2Z l))
 | [],done,e=>by
  rw[a03]at e;subst e;refine a1e ?_
  unfold a1f;simp only;rw[decide_eq_false (by omega)];rfl
 |p::rest,done,e=>by
  have x:=a7w b t rest (done++[p]) (by rw[←e,aA];rfl);have d:done.length+(rest.length+1)=l.length:=by rw[←e,lN,lC]
  have r:n0p l ((done.length:Nat):Int)=some p:=by
   have:done.length<l.length:=by omega
   rw[a1o this];congr 1;subst e;rw[a67 (a08 _)]
   simp
  have c:p∈l:=by rw[←e];simp
  rw[←x];have j:a6r (-1) (done++[p])=x0u (a6r (-1) done) (a4V p):=by unfold a6r;rw[b09];rfl
  have s:(a4E done).length≤done.length:=a43 ..;have w:(a2Z done).length≤done.length:=a43 ..;refine a1x ?_
  unfold a1f;simp only;rw[decide_eq_true (show((done.length:Nat):Int)<((l.length:Nat):Int)by omega),r,j,b2p,a6Y];have i:wrap .i64 (((done.length:Nat):Int)+1)=(((done++[p]).length:Nat):Int):=by rw[w64 (by omega),lN,a06];omega
  rcases b.1 p c with hp|hp;have h:isG p=false:=hp.ng;have g:a4E [p]=[]:=by simp[a4E,h]
  have f:a2Z [p]=[p]:=by simp[a2Z,h]
  have a:a4V p=p.1:=by simp[a4V,h]
  have u:g0l p.1 (kv (a2Z done))=none:=by
   refine a7v fun q v=>?_
   have:=b.2
   rw[←e,a6Y]at this;have o:=(a13.1 this).2.2 q v p (by simp[a2Z,h]);exact o
  have n1:=hp.n1;simp only[cT,oB,a8N hp.toPgOk,bT,cF,show p.2.2.2.1=false from h,beq_self_eq_true,u,b07,Option.isNone_none,b01,a7O hp.toPgOk];rw[a0F (by omega),g,f,a,i,a03];simp only[cT,kv,pA,a86,List.map_nil,a16];have h:isG p=true:=hp.gd;have g:a4E [p]=[p]:=by simp[a4E,h]
  have f:a2Z [p]=[]:=by simp[a2Z,h]
  obtain⟨y,z,A,B⟩:=hp.k;have C:=hp.n0;have n1:=hp.n1;have a:a4V p=p.1+(gdK p:Int)-1:=by simp[a4V,h]
  have m:wrap .i64 (wrap .i64 (p.1+wrap .i64 ((gdK p:Nat):Int))-1)=p.1+(gdK p:Int)-1:=by
   rw[w64 (n:=((gdK p:Nat):Int)) (by omega),w64 (n:=p.1+((gdK p:Nat):Int)) (by omega),w64 (by omega)]
  simp only[cT,oB,a8N hp.toPgOk,bT,cF,hp.gd,b3y hp,y];rw[a0F (by omega),g,f,a,i,a03,m];rfl
def a3X(L:List (Int×Pge))(s:Int)(k:Nat):List Pge:=(a80 k).filterMap fun(j:Nat)=>g0l (s+(j:Int)) L
def a2P(L:List (Int×Pge))(s:Int)(k:Nat):List Nat:=(a80 k).filter fun(j:Nat)=>(g0l (s+(j:Int)) L).isNone
def a6s(s:Int)(l:List Nat):Int:=match l.getLast? with|some j=>s+(j:Int)|none=>0
theorem b2R{L:List (Int×Pge)}{g:Pge}(h:GdOk g):a1W 0 L (g,0)=some (a6s g.1 (a2P L g.1 (gdK g)),a3X L g.1 (gdK g),(((a2P L g.1 (gdK g)).length:Nat):Int)==1):=by
 obtain⟨d,s,t,u⟩:=h.k;have v:=h.n0;have n1:=h.n1;have l:wrap .i64 (g.1+wrap .i64 ((gdK g:Nat):Int))=g.1+((gdK g:Nat):Int):=by rw[w64 (n:=((gdK g:Nat):Int)) (by omega),w64 (by omega)]
 unfold a1W
 have:=a0K (f:=a1s 0 L) (fun i=>((0:Int),(((a2P L g.1 i).length:Nat):Int),a6s g.1 (a2P L g.1 i),g.1+(i:Int),a3X L g.1 i,g,())) (gdK g)
  (b:=((((a2P L g.1 (gdK g)).length:Nat):Int),a6s g.1 (a2P L g.1 (gdK g)),a3X L g.1 (gdK g),())) (fun i r=>?_) ?_
 rw[show g.1+((0:Nat):Int)=g.1 by omega]at this;simp only;refine a0E this rfl
 ·unfold a1s;simp only[d,oB,l];rw[decide_eq_true (show g.1+(i:Int)<g.1+((gdK g:Nat):Int)by omega)];simp only[cT,beq_self_eq_true];have e:wrap .i64 (g.1+(i:Int)+1)=g.1+((i+1:Nat):Int):=by rw[w64 (by omega)];omega
  have o:(a2P L g.1 i).length≤i:=by
   have:=a43 (fun j=>(g0l (g.1+((j:Nat):Int)) L).isNone) (a80 i)
   rw[a87]at this;exact this
  have p:(a3X L g.1 i).length≤i:=by
   have:=List.length_filterMap_le (fun j:Nat=>g0l (g.1+(j:Int)) L) (a80 i)
   rw[a87]at this;exact this
  cases hm:g0l (g.1+(i:Int)) L with
  |some q=>
   have a:a2P L g.1 (i+1)=a2P L g.1 i:=by simp[a2P,a79,hm]
   have c:a3X L g.1 (i+1)=a3X L g.1 i++[q]:=by simp[a3X,a79,hm]
   simp only[Option.isSome_some,cT,a64];rw[a0F (by omega),a,c,e];rfl
  |none=>
   have a:a2P L g.1 (i+1)=a2P L g.1 i++[i]:=by simp[a2P,a79,hm]
   have c:a3X L g.1 (i+1)=a3X L g.1 i:=by simp[a3X,a79,hm]
   have m:a6s g.1 (a2P L g.1 i++[i])=g.1+(i:Int):=by unfold a6s;rw[List.getLast?_concat]
   simp only[b07,cF];rw[a,c,m,e,w64 (by omega),lN,a06];rfl
 unfold a1s;simp only[d,oB,l];rw[decide_eq_false (by omega)];rfl
def a2v(s:Nat)(l:List Pge):Prop:=∀(i:Nat)(p:Pge),l[i]?=some p→p.1=((s+i:Nat):Int)∧PgPlain p
theorem a2v.tail{s:Nat}(h:a2v s (p::l)):a2v (s+1) l:=fun i q g=>by
 have:=h (i+1) q (by simpa using g)
 rw[show s+(i+1)=s+1+i by omega]at this;exact this
theorem a2v.drop{s:Nat}{l:List Pge}(h:a2v s l)(k:Nat):a2v (s+k) (l.drop k):=fun i q g=>by
 rw[List.getElem?_drop]at g
 have:=h (k+i) q g
 rw[show s+(k+i)=s+k+i by omega]at this;exact this
theorem a2v.take{s:Nat}(h:a2v s l)(k:Nat):a2v s (l.take k):=fun i q g=>by
 rw[List.getElem?_take]at g
 by_cases hi:i<k
 rw[if_pos hi]at g;exact h i q g;rw[if_neg hi]at g;cases g
theorem a2v.plain{s:Nat}(h:a2v s l):∀p∈l,PgPlain p:=fun p hp=>by
 obtain⟨i,g⟩:=a28 hp;exact(h i p g).2
theorem a2v.num{s:Nat}(h:a2v s l):∀p∈l,(s:Int)≤p.1∧p.1<((s+l.length:Nat):Int):=fun p hp=>by
 obtain⟨i,g⟩:=a28 hp;have f:=(h i p g).1;have a:=(lS.1 g).1;omega
theorem b0R(h:∀p∈l,PgPlain p):a2Z l=l:=b03.2 fun p hp=>by have:isG p=false:=(h p hp).ng;rw[this];rfl
theorem b0S{q:Pge}(h:q.2.2.2.1=true)(l:List Pge):a2Z (q::l)=a2Z l:=by
 have:isG q=true:=h
 simp[a2Z,this]
theorem b2S{s:Nat}(c:a2v s g)(f:g≠[])(b:g.length≤8)(n:s≤50000):GdOk (gOf g)∧(gOf g).1=(s:Int)∧gdK (gOf g)=g.length:=by
 obtain⟨_,a,j,l,e,i,m⟩:=a7m c.plain f b;have hp:=a02.2 f;have h:(g.head f).1=(s:Int):=by
  have:=(c 0 (g.head f) (by rw[b00,lG])).1
  simpa using this
 have d:gdK (gOf g)=g.length:=by rw[e];unfold gdK;rw[a78,tN]
 refine⟨⟨⟨?_,?_,?_,?_⟩,?_,?_,?_,?_⟩,?_,d⟩;rw[e,h];omega;rw[e,h];omega;rw[e];simp only[lC];omega;rw[e];simp only[lC,cT];omega;rw[e];rw[e,h];omega;rw[e,h];omega;exact⟨g.length,j,l,a,by rw[e],hp,b,i⟩;rw[e,h]
theorem a7x:∀(n:Nat)(l:List Pge)(s:Nat),l.length≤n→a2v s l→(l≠[]→s+l.length≤50000)→
  a2Z (a0T l)=l∧∀q∈a0T l,(q∈l∧PlOk q)∨(GdOk q∧(s:Int)≤q.1∧q.1+(gdK q:Int)≤((s+l.length:Nat):Int))
 |n,[],s,_,_,_=>by rw[a1P];exact⟨rfl,fun q g=>by cases g⟩
 |0,p::l,s,h,_,_=>by simp at h
 |n+1,p::l0,s,h,hf,m=>by
  have b:(p::l0)≠[]:=by simp
  generalize hL:p::l0=l at *;have j:=a02.2 b;have m:=m b;obtain⟨v,w⟩:=a7x n (l.drop 8) (s+8) (by rw[a01];omega) (hf.drop 8) (fun h=>by
   have:=a02.2 h
   rw[a01]at this⊢;omega)
  have u:l.take 8≠[]:=a02.1 (by rw[a00];omega);have c:(l.take 8).length≤8:=by rw[a00];omega
  obtain⟨d,o,e⟩:=b2S (hf.take 8) u c (by omega);rw[a00]at e;have r:=hf.num;have hp:=hf.plain;rw[a3n b];constructor;rw[a6Y,b0S d.gd,v,b0R (hf.take 8).plain,a14];intro q g;rcases mA.1 g with g|g;have f:=a27 g
  have:=r q f
  exact .inl ⟨f,hp q f,by omega,by omega⟩;rcases mC.1 g with g|g;subst g;refine .inr ⟨d,by omega,?_⟩;rw[o,e];omega;rcases w q g with⟨g,a⟩|⟨g,t,a⟩;exact .inl ⟨a32 g,a⟩;have x:(l.drop 8).length=l.length-8:=a01
  by_cases h8:8≤l.length
  exact .inr ⟨g,by omega,by omega⟩
  have:l.drop 8=[]:=a72 (by omega)
  rename_i i;rw[this,a1P]at i;cases i
theorem a8Z:∀(l:List Pge)(s:Nat),a2v s l→∀j:Nat,g0l (((s+j:Nat):Nat):Int) (kv l)=l[j]?
 | [],_,_,_=>rfl
 |p::l,s,h,0=>by
  have g:=(h 0 p rfl).1;show(bif p.1==((s+0:Nat):Int)then some p else g0l _ (kv l))=_;rw[show(p.1==((s+0:Nat):Int))=true by rw[beq_iff_eq];exact g];rfl
 |p::l,s,h,j+1=>by
  have g:=(h 0 p rfl).1;show(bif p.1==((s+(j+1):Nat):Int)then some p else g0l _ (kv l))=_;rw[show(p.1==((s+(j+1):Nat):Int))=false by rw[beq_eq_false_iff_ne];omega]
  have:=a8Z l (s+1) h.tail j
  rw[show s+1+j=s+(j+1)by omega]at this;exact this
theorem b1F{a:Int}{k:Nat}(h:a2v 0 l)(f:0≤a)(b:a+(k:Int)≤(l.length:Int)):a2P (kv l) a k=[]:=by
 refine a92.2 fun j g=>?_
 rw[b28]at g
 have:=a8Z l 0 h (a.toNat+j)
 rw[show((0+(a.toNat+j):Nat):Int)=a+(j:Int)by omega,lG (by omega)]at this;rw[this]
 simp
theorem a9F{gs:List Pge}{top:Int}{L:List (Int×Pge)}(e:∀g∈gs,GdOk g∧a2P L g.1 (gdK g)=[])(j:gs.length<1000000):
  x0y a1g (((0:Int),top,((gs.length:Nat):Int),(0:Int),l,gs,()),(0:Int),L)=some ((top,l,()),(0:Int),L):=by
 have:=a0K (f:=a1g) (fun i=>(((0:Int),top,((gs.length:Nat):Int),(i:Int),l,gs,()),(0:Int),L)) gs.length (b:=((top,l,()),(0:Int),L)) (fun i a=>?_) ?_
 exact this;obtain⟨c,d⟩:=e gs[i] (a26 a);have h:a23 gs (a11 (i:Int)) ((0:Int),false,false,false,([]:List Int),())=gs[i]:=by rw[tN,lD,lG a];rfl
 unfold a1g;simp only;rw[decide_eq_true (show(i:Int)<((gs.length:Nat):Int)by omega),decide_eq_true (show(0:Int)≤(i:Int)by omega),h,b2R c,d,w64 (by omega)];rfl;unfold a1g;simp only;rw[decide_eq_false (by omega)];rfl
theorem a7V:∀(l:List Pge)(s:Nat),a2v s l→a1z l=l
 | [],_,_=>rfl
 |p::l,s,h=>by
  have g:=a7V l (s+1) h.tail;show a3T p (a1z l)=p::l;rw[g]
  match l,h with
  | [],_=>rfl
  |q::l,h=>
   have f:=(h 0 p rfl).1;have a:=(h 1 q rfl).1;show(bif decide (p.1≤q.1)then p::q::l else q::a3T p l)=p::q::l;rw[decide_eq_true (by omega)];rfl
theorem a6N:∀(l:List Pge)(s:Nat),a2v s l→s+l.length<1000000→a2B l=true
 | [],_,_,_=>rfl
 |p::l,s,h,hs=>by
  rw[lC]at hs;have f:=a6N l (s+1) h.tail (by omega);have a:=(h 0 p rfl).1;show(decide (0≤p.1)&&decide (p.1<4611686018427387904)&&l.all (fun q=>!decide (q.1=p.1))&&a2B l)=true;rw[f,decide_eq_true (by omega),decide_eq_true (by omega)];simp only[a19,Bool.true_and,lA,a58,decide_eq_false_iff_not];intro q g
  have:=h.tail.num q g
  omega
theorem b0T(h:a2v 0 l)(g:l.length<1000000):a1m (l,())=some l:=by
 unfold a1m;simp only;rw[a6N l 0 h (by omega),a7V l 0 h,decide_eq_true (by omega)];rfl
theorem b0U{top:Int}(h:a2v 0 l)(c:l.length<1000000)(d:top<(l.length:Int)):a4l (l,top)=some []:=by
 unfold a4l
 have:=a0K (f:=a3x) (fun i=>(top,(i:Int),l,((l.length:Nat):Int),(i:Int),([]:List (Int×Int×Unit)),())) l.length (b:=(top,((l.length:Nat):Int),([]:List (Int×Int×Unit)),())) (fun i g=>?_) ?_
 refine a0E this ?_
 simp only;rw[decide_eq_false (by omega)];rfl;have a:=(h i l[i] (lG g)).1;unfold a3x;simp only;rw[decide_eq_true (show(i:Int)<((l.length:Nat):Int)by omega),a1o g];simp only[cT,oB];rw[decide_eq_false (by omega)];simp only[cF,oB];rw[w64 (by omega),w64 (by omega)];congr 4<;>omega;unfold a3x;simp only;rw[decide_eq_false (by omega)];rfl
theorem a9G(l:List Pge):(a0T l).length≤2*l.length:=a4p _ _ (a08 _)
theorem b0V(h:a2v 0 l)(A:l.length≤50000):a3W (a0T l)=some (l,[]):=by
 obtain⟨t,o⟩:=a7x l.length l 0 (a08 _) h (fun _=>by omega);have B:=a9G l;have m:Fit (a0T l):=by
  refine⟨fun p hp=>?_,?_⟩;rcases o p hp with⟨_,f⟩|⟨f,_⟩;exact .inl f;exact .inr f;rw[t];refine a65.2 fun i j w y x=>?_
  have a:=(h i _ (lG w)).1;have b:=(h j _ (lG y)).1;omega
 have u:=a7w m (by omega) (a0T l) [] rfl;have z:a6r (-1) (a0T l)<(l.length:Int):=by
  have:=a9V (c:=(l.length:Int)-1) (a0T l) (-1) (by omega) (fun p hp=>by
   rcases o p hp with⟨f,e⟩|⟨f,s,e⟩;have d:isG p=false:=e.ng
   have:=h.num p f
   unfold a4V;rw[d];simp only[Bool.false_eq_true,if_false];omega;have d:isG p=true:=f.gd;unfold a4V;rw[d];simp only[if_true];omega)
  omega
 rw[t]at u;have v:=a9F (l:=l) (gs:=a4E (a0T l)) (top:=a6r (-1) (a0T l)) (L:=kv l) (fun g r=>by
  obtain⟨r,n⟩:=List.mem_filter.1 r;rcases o g r with⟨_,f⟩|⟨f,s,e⟩
  have:isG g=false:=f.ng
  rw[this]at n;cases n;exact⟨f,b1F h (by omega) (by omega)⟩) (by have:=a43 isG (a0T l);show(a4E _).length<_;unfold a4E;omega)
 unfold a3W a2f;have q:x0y a1f (((0:Int),(-1:Int),a0T l,((a74 (a0T l):Nat):Int),(0:Int),([]:List Pge),([]:List Pge),()),(0:Int),([]:List (Int×Pge)))=_:=u;refine a0E q ?_
 simp only;refine a0E v ?_
 simp only[b0T h (by omega),b0U h (by omega) z,oB]
abbrev Jn:Type:=Int×(Bool×(List Int×(Int×Unit)))
def a5l:Jn→List Pge→List Pk→Jn→Prop
 |J,[],o,J'=>o=[]∧J'=J
 |J,p::l,o,J'=>∃o1 h J1 o2,a1t (J,p)=some (o1,h,J1)∧a5l J1 l o2 J'∧o=o1++o2
theorem a5l.app:∀{l:List Pge}{J J1 J2:Jn}{l2:List Pge}{o1 o2:List Pk},a5l J l o1 J1→a5l J1 l2 o2 J2→a5l J (l++l2) (o1++o2) J2
 | [],J,J1,J2,l2,o1,o2,h1,h2=>by obtain⟨rfl,rfl⟩:=h1;exact h2
 |p::l,J,J1,J2,l2,o1,o2,h1,h2=>by
  obtain⟨a,h,g,b,f,c,rfl⟩:=h1;exact⟨a,h,g,b++o2,f,c.app h2,by rw[aA]⟩
theorem a9a{l:List Pge}(d:l.length<1000000):∀(rest done:List Pge)(J J':Jn)(out o:List Pk),done++rest=l→a5l J rest o J'→out.length+o.length<1000000→
  x0y a3g (l,((l.length:Nat):Int),((done.length:Nat):Int),out,J,())=some (out++o,())
 | [],done,J,J',out,o,e,h,_=>by
  obtain⟨rfl,rfl⟩:=h;rw[a03]at e;subst e;refine a1e ?_
  unfold a3g;simp only;rw[decide_eq_false (by omega),a03];rfl
 |p::rest,done,J,J',out,o,e,h,ho=>by
  obtain⟨o1,j,f,o2,a,b,rfl⟩:=h;rw[lN]at ho;have i:=a9a d rest (done++[p]) f J' (out++o1) o2 (by rw[←e,aA];rfl) b (by rw[lN];omega);have g:done.length+(rest.length+1)=l.length:=by rw[←e,lN,lC]
  have c:n0p l ((done.length:Nat):Int)=some p:=by
   have:done.length<l.length:=by omega
   rw[a1o this];congr 1;subst e;rw[a67 (a08 _)]
   simp
  rw[←aA,←i];refine a1x ?_
  unfold a3g;simp only;rw[decide_eq_true (show((done.length:Nat):Int)<((l.length:Nat):Int)by omega),c];simp only[cT,oB,a];rw[a0F (by omega),w64 (by omega),lN,a06];rfl
theorem b0W{n:Int}{o:List Pk}{J':Jn}(a:0≤n)(g:l.length<1000000)(f:o.length<1000000)(h:a5l (n,false,[],0,()) l o J'):a1R (n,l)=some o:=by
 unfold a1R a5G;have e:x0u n 0=n:=by rw[a9L];omega
 simp only[e,oB]
 have:=a9a g l [] _ J' [] o rfl h (by simpa using f)
 rw[a04]at this;exact a0E this rfl
theorem b2q{J:Jn}(hp:PgPlain p)(h:p.1<J.1):a1t (J,p)=some ([],[],J):=by
 unfold a1t;simp only[a4A hp.toPgOk,oB,bne_self_eq_false,cF,hp.ng];rw[decide_eq_true h];rfl
theorem b2r{b:Bool}{acc:List Int}{k:Int}(hp:PgPlain p)(h:p.2.2.1=false)(f:p.2.1=true→acc=[]∧b=false)(a:p.2.1=false→b=true)(d:acc.length≤60000):
  a1t ((p.1,b,acc,k,()),p)=some ([],[],p.1+1,true,acc++p.2.2.2.2.1,k,()):=by
 have e:=hp.s0;have i:=hp.s1;have b2:=hp.b2;have c:wrap .i64 (p.1+1)=p.1+1:=w64 (by omega);unfold a1t;simp only[a4A hp.toPgOk,oB,bne_self_eq_false,cF,hp.ng];rw[decide_eq_false (show ¬ p.1<p.1 by omega)];simp only[cF,oB,c];cases hf:p.2.1 with
 |true=>
  obtain⟨rfl,rfl⟩:=f hf;have g:a1C (p.1+1,false,([]:List Int),k,())=some (p.1+1,false,[],k,()):=rfl;simp only[cT,g,oB,bT,cF,a05,a16,a04,h,a68];rw[a0F (by omega),decide_eq_false (show ¬ ((p.2.2.2.2.1.length:Nat):Int) > 65554 by omega)];rfl
 |false=>
  obtain rfl:=a hf;simp only[cT,oB,bT,cF,a16,h,a68,lN];rw[a0F (by omega),decide_eq_false (by omega)];rfl
theorem b2t{b:Bool}{acc:List Int}{k:Int}(hp:PgPlain p)(f:p.2.2.1=true)(e:p.2.1=true→acc=[]∧b=false)(i:p.2.1=false→b=true)(m:acc.length≤60000)(g:a5e q)(h:acc++p.2.2.2.2.1=a0R q):
  a1t ((p.1,b,acc,k,()),p)=some ([q],[],p.1+1,false,[],k,()):=by
 have n:=hp.s0;have o:=hp.s1;have b2:=hp.b2;have l:wrap .i64 (p.1+1)=p.1+1:=w64 (by omega);have c:a2l (a0R q)=some (q,0):=by
  rw[a9R g];refine(a7I g ?_).trans rfl;obtain⟨s,j,_⟩:=g
  have:=j.dat
  omega
 unfold a1t;simp only[a4A hp.toPgOk,oB,bne_self_eq_false,cF,hp.ng];rw[decide_eq_false (show ¬ p.1<p.1 by omega)];simp only[cF,oB,l];have a:(a0R q).length=acc.length+p.2.2.2.2.1.length:=by rw[←h,lN]
 cases hf:p.2.1 with
 |true=>
  obtain⟨rfl,rfl⟩:=e hf;have d:a1C (p.1+1,false,([]:List Int),k,())=some (p.1+1,false,[],k,()):=rfl;simp only[cT,d,oB,bT,cF,a16,h,f];rw[a0F (by omega),decide_eq_false (show ¬ (((a0R q).length:Nat):Int) > 65554 by omega)];simp only[cT,cF,c,oB,bne_self_eq_false]
 |false=>
  obtain rfl:=i hf;simp only[cT,oB,bT,cF,a16,h,f];rw[a0F (by omega),decide_eq_false (show ¬ (((a0R q).length:Nat):Int) > 65554 by omega)];simp only[cT,cF,c,oB,bne_self_eq_false]
theorem a9W{q:Pk}(c:a5e q){k:Int}:∀(n:Nat)(f:Bool)(s:Nat)(r acc:List Int)(b:Bool),r.length≤n→r≠[]→acc++r=a0R q→(f=true→acc=[]∧b=false)→(f=false→b=true)→s+r.length≤1000000→
  a5l ((s:Int),b,acc,k,()) (a1G f s r) [q] (((s+(a1G f s r).length:Nat):Int),false,[],k,())
 |0,f,s,r,acc,b,h,hr,_,_,_,_=>absurd (a20.1 (by omega)) hr
 |n+1,f,s,r,acc,b,h,hr,he,h1,h2,hs=>by
  have a:(a0R q).length≤918:=by
   obtain⟨t,l,_⟩:=c
   have:=l.dat
   rw[a4c];omega
  have i:acc.length+r.length≤918:=by rw[←lN,he];exact a
  have hp:=(a7H _ f s r (a08 _) hs 0 _ (by rw[a2J hr];rfl)).2;rw[a2J hr]
  by_cases hl:r.length≤252
  have d:r.drop 252=[]:=a72 hl;have e:r.take 252=r:=a29 hl;rw[d,a2u];have g:=b2t (b:=b) (acc:=acc) (k:=k) (q:=q) hp (decide_eq_true hl) h1 h2 (by omega) c (by show acc++r.take 252=_;rw[e];exact he);refine⟨[q],_,_,[],g,⟨rfl,?_⟩,rfl⟩;simp only[lC,a05];rfl;have j:r.drop 252≠[]:=a02.1 (by rw[a01];omega);have g:=b2r (b:=b) (acc:=acc) (k:=k) hp (decide_eq_false hl) h1 h2 (by omega);have m:=a9W c (k:=k) n false (s+1) (r.drop 252) (acc++r.take 252) true (by rw[a01];omega) j (by rw[aA,a14];exact he) (by simp) (by simp) (by rw[a01];omega);refine⟨[],_,_,[q],g,?_,rfl⟩;rw[lC,show s+((a1G false (s+1) (r.drop 252)).length+1)=s+1+(a1G false (s+1) (r.drop 252)).length by omega];exact m
theorem a7W{k:Int}:∀(Z:List Pk)(s:Nat),(∀p∈Z,a5e p)→s+1000*Z.length≤1000000→a5l ((s:Int),false,[],k,()) (a0P s (Z.map a0R)) Z (((s+(a0P s (Z.map a0R)).length:Nat):Int),false,[],k,())
 | [],s,_,_=>⟨rfl,rfl⟩
 |q::Z,s,h,hs=>by
  rw[lC]at hs;have f:=h q (by simp);have g:(a0R q).length≤918:=by
   obtain⟨t,d,_⟩:=f
   have:=d.dat
   rw[a4c];omega
  have e:=a5d _ true s (a0R q) (a08 _);have a:=a9W f (k:=k) (a0R q).length true s (a0R q) [] false (a08 _) (a6v q) rfl (by simp) (by simp) (by omega);have b:=a7W (k:=k) Z (s+(a1G true s (a0R q)).length) (fun p hp=>h p (by simp[hp])) (by omega);have c:=a.app b;rw[a86,a0P,lN];rw[show s+((a1G true s (a0R q)).length+(a0P (s+(a1G true s (a0R q)).length) (Z.map a0R)).length)=s+(a1G true s (a0R q)).length+(a0P (s+(a1G true s (a0R q)).length) (Z.map a0R)).length by omega];exact c
theorem a9b{J:Jn}:∀(l:List Pge),(∀p∈l,PgPlain p∧p.1<J.1)→a5l J l [] J
 | [],_=>⟨rfl,rfl⟩
 |p::l,h=>⟨[],[],J,[],b2q (h p (by simp)).1 (h p (by simp)).2,a9b l fun q g=>h q (by simp[g]),rfl⟩
theorem a7y:∀(a b:List (List Int)) (s:Nat),a0P s (a++b)=a0P s a++a0P (s+(a0P s a).length) b
 | [],b,s=>by simp[a0P]
 |x::a,b,s=>by
  rw[a09,a0P,a0P,a7y a b,aA,lN,Nat.add_assoc]
theorem b0X(h:Woven Z):a2v 0 (a0G Z):=fun i p hp=>by
 rw[a61];exact a5k h i p hp
def a3o(Z:List Pk)(i:Nat):Nat:=(a0P 0 ((Z.take i).map a0R)).length
theorem b0Y(Z:List Pk)(i:Nat):a0G Z=a0P 0 ((Z.take i).map a0R)++a0P (a3o Z i) ((Z.drop i).map a0R):=by
 have:=a7y ((Z.take i).map a0R) ((Z.drop i).map a0R) 0
 rw[←pA,a14,a61]at this;exact this
theorem a9H(h:Woven Z)(i:Nat):a1R (((a3o Z i:Nat):Int),a0G Z)=some (Z.drop i):=by
 have r:=h.len;have o:=a4L h;have hp:=b0Y Z i;have q:a3o Z i≤(a0G Z).length:=by
  have:=congrArg a74 hp
  rw[lN]at this
  have:a3o Z i=(a0P 0 ((Z.take i).map a0R)).length:=rfl
  omega
 have l:a5l (((a3o Z i:Nat):Int),false,[],(0:Int),()) (a0P 0 ((Z.take i).map a0R)) [] (((a3o Z i:Nat):Int),false,[],0,()):=by
  refine a9b _ fun p c=>?_
  obtain⟨j,e⟩:=a28 c;have f:=(lS.1 e).1;have g:(a0G Z)[j]?=some p:=by rw[hp,a48 f];exact e
  obtain⟨a,b⟩:=a5k h j p g;refine⟨b,?_⟩;show p.1<((a3o Z i:Nat):Int)
  have:a3o Z i=(a0P 0 ((Z.take i).map a0R)).length:=rfl
  omega
 have n:(Z.drop i).length≤Z.length:=by rw[a01];omega
 have m:=a7W (k:=0) (Z.drop i) (a3o Z i) (fun p hp=>h.pk p (a32 hp)) (by omega);have d:=l.app m;rw[←hp,a04]at d;exact b0W (by omega) (by omega) (by omega) d
theorem b0Z(h:Woven Z):a1R (0,a0G Z)=some Z:=by
 have:=a9H h 0
 simpa[a3o,a0P]using this
theorem b1a(h:Woven Z):a2o (a4u Z++a3P ((a0G Z).flatMap a1a))=some (a0G Z,[]):=by
 have b1:=a6W h;have b2:=a6X h;have g:=b2O (W:=a0T (a0G Z)) (T:=a3P ((a0G Z).flatMap a1a)) (a7s h) (b2P (a5T h) (by have:=a8W h;omega)) (by rw[lN];have:(a4u Z).length=(a0W (a0T (a0G Z))).length:=rfl;omega) (by have:=a8U h;omega);unfold a2o;refine a0E g ?_
 simp only[b0V (b0X h) (by have:=a4L h;omega),oB]
theorem b1G(h:Drawn n a L)(g:Woven Z):a2m (a4v a Z)=some (a,(((a2x a).length:Nat):Int),0):=by
 have f:=h.str.one;have b:=h.str.four;have c:=h.len;have b1:=a6W g;have b2:=a6X g;exact b2i h.inf (by omega) (by omega) (by rw[lN];omega)
theorem a9I(p:Pk):a3h (p,p)=some true:=by
 unfold a3h;simp only[beq_self_eq_true,cT]
theorem a9c{l:List Pk}(g:l.length<1000000):a1Q (l,l)=some true:=by
 unfold a1Q;simp only[bne_self_eq_false,cF]
 have:=a0K (f:=a2j) (fun i=>(l,l,(i:Int),())) l.length (b:=.inl ()) (fun i h=>?_) ?_
 exact a0E this rfl;unfold a2j;simp only;rw[decide_eq_true (show(i:Int)<((l.length:Nat):Int)by omega),a1o h];simp only[cT,oB,a9I,bT,cF];rw[w64 (by omega)];rfl;unfold a2j;simp only;rw[decide_eq_false (by omega)];rfl
def ofS(s:Nat)(l:List Pk):List Pk:=l.filter fun p=>decide (p.1=(s:Int))
theorem a6z(s:Nat)(a b:List Pk):ofS s (a++b)=ofS s a++ofS s b:=a85 ..
def b1b(l:List Pk):Prop:=∀s,(ofS s l).Pairwise fun p q=>p.2.1≤q.2.1
theorem b2T{a b:List Pk}(h:Stb a b):b1b a→(∀p∈a,0≤p.1)→b1b b∧∀s,ofS s b=ofS s a:=by
 induction h with
 |refl l=>exact fun h _=>⟨h,fun s=>rfl⟩
 |swap p x y s hk=>
  intro h c;have key:∀n,ofS n (p++y::x::s)=ofS n (p++x::y::s):=by
   intro n;have i:p++y::x::s=p++([y]++([x]++s)):=rfl;have d:p++x::y::s=p++([x]++([y]++s)):=rfl;rw[i,d];simp only[a6z]
   by_cases hx:x.1=(n:Int)
   by_cases hy:y.1=(n:Int)
   exfalso
   have hp:=h n;rw[d]at hp;simp only[a6z]at hp;have g:ofS n [x]=[x]:=by simp[ofS,hx]
   have f:ofS n [y]=[y]:=by simp[ofS,hy]
   rw[g,f]at hp;have j:=(a13.1 hp).2.1;have m:=(a13.1 j).2.2 x (by simp) y (by simp);rw[a5A]at hk;omega;have f:ofS n [y]=[]:=by simp[ofS,hy]
   rw[f,a04,a04];have g:ofS n [x]=[]:=by simp[ofS,hx]
   rw[g,a04,a04]
  exact⟨fun n=>by rw[key];exact h n,key⟩
 |trans h1 h2 i1 i2=>
  intro h c;obtain⟨a1,e⟩:=i1 h c;obtain⟨b1,b2⟩:=i2 a1 fun p hp=>c p ((h1.perm.mem_iff).1 hp);exact⟨b1,fun s=>(b2 s).trans (e s)⟩
theorem a9X{s:Nat}{l:List Pk}(h:∀p∈l,p.1=(s:Int)):ofS s l=l:=b03.2 fun p hp=>decide_eq_true (h p hp)
theorem a6Z{s:Nat}{l:List Pk}(h:∀p∈l,p.1≠(s:Int)):ofS s l=[]:=a92.2 fun p hp=>by simp[h p hp]
theorem a9d(s:Nat):∀(L:List (List Pk)) (o:Nat),(∀(i:Nat) l,L[i]?=some l→∀p∈l,p.1=((o+i:Nat):Int))→ofS s L.flatten=if o≤s then(L[s-o]?).getD []else[]
 | [],o,_=>by simp[ofS]
 |l::L,o,h=>by
  have a:=a9d s L (o+1) fun i l f p hp=>by
   have:=h (i+1) l (by simpa using f) p hp
   rw[show o+(i+1)=o+1+i by omega]at this;exact this
  have g:∀p∈l,p.1=(o:Int):=h 0 l rfl;rw[b08,a6z,a]
  by_cases hs:o≤s
  rw[if_pos hs]
  by_cases he:o=s
  subst he;rw[if_neg (by omega),a9X g]
  simp
  rw[if_pos (by omega),a6Z fun p hp=>by rw[g p hp];omega];rw[show s-o=s-(o+1)+1 by omega]
  simp
  rw[if_neg hs,if_neg (by omega),a6Z fun p hp=>by rw[g p hp];omega];rfl
def a2w(n:Nat)(l:List Pk):List (List Pk):=(a80 n).map fun s=>ofS s l
theorem a3i(n:Nat)(l:List Pk):(a2w n l).length=n:=by rw[a2w,a47,a87]
theorem a4f{s:Nat}(l:List Pk)(h:s<n):(a2w n l)[s]?=some (ofS s l):=by
 rw[a2w,List.getElem?_map,List.getElem?_range h];rfl
theorem b1c(n:Nat):a2w n []=a97 n []:=by
 refine a88 fun i=>?_
 by_cases hi:i<n
 rw[a4f _ hi,List.getElem?_replicate,if_pos hi];rfl;rw[a40 (by rw[a3i];omega),a40 (by rw[a94];omega)]
theorem a9J{s:Nat}{l:List Pk}{p:Pk}(hp:p.1=(s:Int))(f:s<n):a2w n (l++[p])=(a2w n l).set s (((a2w n l).getD s [])++[p]):=by
 have g:(a2w n l).getD s []=ofS s l:=by rw[lD,a4f l f];rfl
 rw[g];refine a88 fun i=>?_
 by_cases hi:i<n
 rw[a4f _ hi,List.getElem?_set,a6z]
 by_cases he:s=i
 subst he;rw[if_pos rfl,if_pos (by rw[a3i];exact hi),a9X (l:=[p]) (by simpa using hp)];rw[if_neg he,a4f l hi,a6Z (l:=[p]) (fun q h=>by rw[a17]at h;rw[h,hp];omega),a03];rw[a40 (by rw[a3i];omega),a40 (by rw[a44,a3i];omega)]
theorem a7X{a:List Inf}{h:List (Int×Int×Unit)}{n:Nat}{Z:List Pk}(d:Z.length<1000000)(g:∀p∈Z,0≤p.1∧p.1<(n:Int)):∀(rest done:List Pk),done++rest=Z→
  x0y a3M (((Z.length:Nat):Int),((done.length:Nat):Int),a,h,a2w n done,Z,())=some (a,h,a2w n Z,())
 | [],done,e=>by
  rw[a03]at e;subst e;refine a1e ?_
  unfold a3M;simp only;rw[decide_eq_false (by omega)];rfl
 |q::rest,done,e=>by
  have b:=a7X (a:=a) (h:=h) d g rest (done++[q]) (by rw[←e,aA];rfl);have f:done.length+(rest.length+1)=Z.length:=by rw[←e,lN,lC]
  have i:a23 Z (a11 ((done.length:Nat):Int)) ((0:Int),(0:Int),(0:Int),false,false,([]:List Int),())=q:=by
   rw[tN,←e,lD,a36 (a08 _)]
   simp
  obtain⟨r,c⟩:=g q (by rw[←e];simp);have o:wrap .i64 (((done.length:Nat):Int)+1)=(((done++[q]).length:Nat):Int):=by rw[w64 (by omega),lN,a06];omega
  have m:((a2w n done).getD q.1.toNat []).length≤done.length:=by
   rw[lD,a4f done (by omega)];exact a43 ..
  have j:=a9J (n:=n) (s:=q.1.toNat) (l:=done) (p:=q) (by omega) (by omega);rw[←b];clear b;refine a1x ?_
  unfold a3M;simp only;rw[decide_eq_true (show((done.length:Nat):Int)<((Z.length:Nat):Int)by omega),decide_eq_true (show(0:Int)≤((done.length:Nat):Int)by omega),i,decide_eq_true (show q.1≥0 by omega),decide_eq_true (show q.1<(((a2w n done).length:Nat):Int)by rw[a3i];exact c)];simp only[cT,a19,oB,a44];rw[decide_eq_true (show(0:Int)≤q.1 by omega),decide_eq_true (show q.1<(((a2w n done).length:Nat):Int)by rw[a3i];exact c),a0F (by omega)];simp only[cT,a19,beq_self_eq_true,o,j,a16]
theorem Drawn.rows(h:Drawn n a L)(j:Stb L.flatten Z):a2w a.length Z=L:=by
 have g:∀(i:Nat) l,L[i]?=some l→∀p∈l,p.1=((0+i:Nat):Int):=fun i l f p hp=>by
  rw[a61];exact((h.str.ok i l f).ok p hp).st
 have b:∀s,ofS s L.flatten=(L[s]?).getD []:=fun s=>by
  have:=a9d s L 0 g
  rw[if_pos (Nat.zero_le _),a90]at this;exact this
 have m:b1b L.flatten:=fun s=>by
  rw[b];cases f:L[s]? with
  |none=>exact .nil
  |some l=>exact(h.str.ok s l f).asc
 have d:∀p∈L.flatten,0≤p.1:=fun p hp=>by
  obtain⟨l,f,hp⟩:=a89.1 hp;obtain⟨i,c⟩:=a28 f;rw[g i l c p hp];omega
 obtain⟨_,e⟩:=b2T j m d;refine a88 fun i=>?_
 by_cases c:i<L.length
 rw[a4f _ (by rw[h.len];exact c),e,b,lG c];rfl;rw[a40 (by rw[a3i,h.len];omega),a40 (by omega)]
theorem Drawn.in(h:Drawn n a L)(b:Stb L.flatten Z):∀p∈Z,0≤p.1∧p.1<(a.length:Int):=fun p hp=>by
 have hp:=(b.perm.mem_iff).1 hp;obtain⟨l,f,hp⟩:=a89.1 hp;obtain⟨i,g⟩:=a28 f;have c:=((h.str.ok i l g).ok p hp).st;have d:=(lS.1 g).1
 have:=h.len
 omega
theorem b1H(h:Drawn n a L)(g:Woven Z)(f:Stb L.flatten Z):a4I (a4v a Z)=some (a,L,[],0):=by
 have c:(a4v a Z).length=(a2x a).length+(a4u Z++a3P ((a0G Z).flatMap a1a)).length:=by unfold a4v;rw[lN]
 have b:a54 (a11 (((a2x a).length:Nat):Int)) (a42 (a4v a Z).length (a4v a Z))=a4u Z++a3P ((a0G Z).flatMap a1a):=by rw[a24,tN];unfold a4v;rw[a69]
 have e:=h.str.four;have i:=h.len;have d:=g.len;unfold a4I;simp only[b1G h g,oB,bne_self_eq_false,cF];rw[decide_eq_true (show(0:Int)≤(((a2x a).length:Nat):Int)by omega),decide_eq_true (show(((a2x a).length:Nat):Int)≤(((a4v a Z).length:Nat):Int)by omega),b,decide_eq_true (show(0:Int)≤((a.length:Nat):Int)by omega),decide_eq_true (show((a.length:Nat):Int)≤((a.length:Nat):Int)by omega),tN,a0F (by omega)];simp only[cT,a19,b1a g,b0Z g,oB]
 have:=a7X (a:=a) (h:=[]) (n:=a.length) (Z:=Z) (by omega) (h.in f) Z [] rfl
 rw[b1c,h.rows f]at this;refine a0E this rfl
theorem b1I(i:Inf):eqT (.pair (.int .i64) (.pair (.pair (.int .i64) (.pair (.int .i64) .unit)) (.pair (.pair (.int .i64) (.pair (.int .i64) (.pair (.int .i64) .unit))) (.pair (.int .i64) (.pair (.int .i64) (.pair (.int .i64) (.pair (.int .i64) .unit))))))) i i=true:=by
 have b:∀x:Int,(x==x)=true:=fun x=>beq_self_eq_true x;show((i.1==i.1)&&(((i.2.1.1==i.2.1.1)&&((i.2.1.2.1==i.2.1.2.1)&&true))&&(((i.2.2.1.1==i.2.2.1.1)&&((i.2.2.1.2.1==i.2.2.1.2.1)&&((i.2.2.1.2.2.1==i.2.2.1.2.2.1)&&true)))&&((i.2.2.2.1==i.2.2.2.1)&&((i.2.2.2.2.1==i.2.2.2.2.1)&&((i.2.2.2.2.2.1==i.2.2.2.2.2.1)&&((i.2.2.2.2.2.2.1==i.2.2.2.2.2.2.1)&&true)))))))=true;simp only[b,b01]
theorem b1d{l:List Inf}(g:l.length<1000000):a3y (l,l)=some true:=by
 unfold a3y;simp only[bne_self_eq_false,cF]
 have:=a0K (f:=a2I) (fun i=>(l,l,(i:Int),())) l.length (b:=.inl ()) (fun i h=>?_) ?_
 exact a0E this rfl;unfold a2I;simp only;rw[decide_eq_true (show(i:Int)<((l.length:Nat):Int)by omega),a1o h];simp only[cT,oB];rw[b1I l[i],w64 (by omega)];rfl;unfold a2I;simp only;rw[decide_eq_false (by omega)];rfl
theorem b1J{l:List (List Pk)}(a:l.length<1000000)(h:∀x∈l,x.length<1000000):a3N (l,l)=some true:=by
 unfold a3N;simp only[bne_self_eq_false,cF]
 have:=a0K (f:=a2O) (fun i=>(l,l,(i:Int),())) l.length (b:=.inl ()) (fun i g=>?_) ?_
 exact a0E this rfl;unfold a2O;simp only;rw[decide_eq_true (show(i:Int)<((l.length:Nat):Int)by omega),a1o g];simp only[cT,oB,a9c (h _ (a26 g)),bT,cF];rw[w64 (by omega)];rfl;unfold a2O;simp only;rw[decide_eq_false (by omega)];rfl
theorem a9e(x:List Int):a4y x=some true:=by
 have d:a3Q x=some (x,(0:Int),()):=rfl;obtain⟨a,L,o,b,l1,i,f,-⟩:=b2b (r:=0) (t:=(x,(0:Int),())) (n:=8) ⟨by simp,by simp⟩ (by omega);rw[show((8:Nat):Int)=8 from rfl]at b;have g:Drawn 8 a L:=⟨l1,i,f⟩;obtain⟨Z,w,c,j⟩:=g.weave (by omega);have m:=f.four;have h:=f.lens;unfold a4y;simp only[d,b,oB,g.write w c,b1H g c j,beq_self_eq_true,cT,b1d (l:=a) (by omega),b1J (l:=L) (by omega) (fun l e=>by have:=h l e;omega),a05,b2N];rfl
end Go.Ab
