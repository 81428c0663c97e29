/- Part of the proof: QA. Conditions: as each statement tells. -/
import Derived.Test.YtlddggjghmobhaaGreatMH
noncomputable section
set_option linter.unusedSimpArgs false
set_option linter.unusedVariables false
open BitVec renaming ofInt→a91,toNat_ofInt→b05
open Bool renaming and_true→a11,not_eq_true'→a61,not_false→a64
open Int renaming toNat→a13,tmod→a28,tmod_lt_of_pos→a57,natCast_nonneg→a85,tmod_eq_emod_of_nonneg→a89,tmod_nonneg→a92,toNat_of_nonneg→b01,lt_tmod_of_pos→b02,tdiv→b25
open List renaming length_take→a00,append_nil→a01,length_drop→a02,length_nil→a03,length_pos_iff→a04,nil_append→a05,length_singleton→a06,take_succ_eq_append_getElem→a07,cons_append→a09,take_length→a14,take_append_drop→a16,getElem_mem→a17,pairwise_append→a19,append_eq→a20,mem_singleton→a23,length_eq_zero_iff→a24,getD→a26,mem_of_mem_take→a27,take_of_length_le→a29,getElem?_append_right→a30,flatMap_append→a31,flatMap_cons→a32,drop_eq_nil_iff→a33,getElem?_of_mem→a34,mem_of_mem_drop→a35,drop→a36,flatMap_singleton→a37,drop_eq_getElem_cons→a38,getElem?_append_left→a40,singleton_append→a41,take→a42,take_zero→a43,drop_left→a47,getElem_append_right→a48,not_mem_nil→a49,flatMap_nil→a51,pairwise_singleton→a52,length_map→a59,set_append_right→a60,length_filter_le→a63,take_left→a65,pairwise_iff_getElem→a69,map_cons→a71,length_set→a72,drop_eq_nil_of_le→a74,drop_length→a75,length→a78,headD_cons→a80,range_succ→a81,range→a82,drop_zero→a83,take_take→a84,pairwise_cons→a86,mem_flatMap→a90,take_left'→a93,drop_left'→a94,append→a96,mem_range→a98,mem_iff_getElem→a99,head_eq_getElem→b00,set_cons_zero→b03,filter_append→b06,map_nil→b08,foldl_append→b09,reverse_cons→b12,length_range→b15,take_append→b17,drop_append→b18,set→b23,drop_take→b26,drop_drop→b27,replicate→b28
open Nat renaming le_refl→a08,zero_add→a54,pow_succ→a56,min_eq_left→a58,div_lt_iff_lt_mul→a62,sub_self→a67,min_eq_right→a68,div_div_eq_div_mul→a73,pow_le_pow_right→a79,mul_le_mul→a97,lt_of_le_of_lt→b04,sub_zero→b07,add_mod_right→b14,mod_eq_of_lt→b20,strongRecOn→b21,div_le_self→b24
open Option renaming getD_some→a44,isSome_none→a87,isSome_some→a88,map_some→a95
namespace Go.Ab
variable {A P R x:List Int}{b m most u:Int}{i j n r:Nat}{α β σ:Type}{f:σ→Option (σ ⊕ β)}
open IntKind(wrap)
section
variable {α A σ β:Type}
def a5U(g:A→α→A ⊕ β):List α→A→A ⊕ β
 | [],a=>.inl a
 |x::r,a=>match g a x with
  |.inl a'=>a5U g r a'
  |.inr b=>.inr b
def b2d(fin:A→β):A ⊕ β→β
 |.inl a=>fin a
 |.inr b=>b
theorem a5J{f:σ→Option (σ ⊕ β)}(l:List α)(S:Nat→A→σ)(g:A→α→A ⊕ β)(I:Nat→A→Prop)(e:A→β)
  (d:∀i (h:i<l.length) a,I i a→(∀a',g a l[i]=.inl a'→f (S i a)=some (.inl (S (i+1) a'))∧I (i+1) a')∧(∀b,g a l[i]=.inr b→f (S i a)=some (.inr b)))
  (c:∀a,I l.length a→f (S l.length a)=some (.inr (e a))):∀(k i:Nat)(a:A),i+k=l.length→I i a→x0w f (S i a)=some (b2d e (a5U g (l.drop i) a))
 |0,i,a,hi,ha=>by
  obtain rfl:i=l.length:=by omega
  rw[a75];exact a1c (c a ha)
 |k+1,i,a,hi,ha=>by
  have j:i<l.length:=by omega
  rw[a38 j];obtain⟨m,n⟩:=d i j a ha;simp only[a5U];cases hg:g a l[i]with
  |inl a'=>
   obtain⟨o,p⟩:=m a' hg;rw[a1t o];exact a5J l S g I e d c k (i+1) a' (by omega) p
  |inr b=>exact a1c (n b hg)
theorem b1q{f:σ→Option (σ ⊕ β)}(l:List α)(S:Nat→A→σ)(g:A→α→A ⊕ β)(I:Nat→A→Prop)(c:A→β)
  (e:∀i (h:i<l.length) a,I i a→(∀a',g a l[i]=.inl a'→f (S i a)=some (.inl (S (i+1) a'))∧I (i+1) a')∧(∀b,g a l[i]=.inr b→f (S i a)=some (.inr b)))
  (d:∀a,I l.length a→f (S l.length a)=some (.inr (c a))){a:A}(j:I 0 a):x0w f (S 0 a)=some (b2d c (a5U g l a)):=by
 have:=a5J l S g I c e d l.length 0 a (by omega) j
 rwa [a83]at this
end
theorem a8O{l:List α}(h:i<l.length):n0o l (i:Int)=some l[i]:=by
 unfold n0o;rw[if_pos (a85 i),tN,lG h]
theorem a7Q(h:i<1000000):wrap .i64 ((i:Int)+1)=((i+1:Nat):Int):=by
 rw[wrap64 (by omega)];omega
theorem dlt(h:i<n):decide ((i:Int)<(n:Int))=true:=by simp;omega
theorem dge(n:Nat):decide ((n:Int)<(n:Int))=false:=by simp
theorem b2e(I:Nat→σ→Prop)(Q:β→Prop)(h:∀i s,I i s→(∃s' j,f s=some (.inl s')∧j<i∧I j s')∨(∃b,f s=some (.inr b)∧Q b)):∀(i:Nat)(s:σ),I i s→∃b,x0w f s=some b∧Q b:=by
 intro i
 induction i using b21 with
 |_ i ih=>
  intro s hi;rcases h i s hi with⟨s',j,g,a,c⟩|⟨b,g,a⟩;rw[a1t g];exact ih j a s' c;exact⟨b,a1c g,a⟩
theorem a1V(I:Nat→σ→Prop)(Q:β→Prop){R:Prop}(i:Nat)(s:σ)(g:I i s)(d:∀b,x0w f s=some b→Q b→R)(h:∀i s,I i s→(∃s' j,f s=some (.inl s')∧j<i∧I j s')∨(∃b,f s=some (.inr b)∧Q b)):R:=by
 obtain⟨b,a,c⟩:=b2e I Q h i s g;exact d b a c
theorem w64{n:Int}(h:-9223372036854775808≤n∧n<9223372036854775808):wrap .i64 n=n:=by
 simp only[wrap,IntKind.bits,IntKind.signed]
 simp
 omega
theorem wu8(n:Int):0≤wrap .u8 n∧wrap .u8 n<256:=by
 simp only[wrap,IntKind.bits,IntKind.signed]
 simp
 omega
abbrev a4D:Type:=List Int×(Int×Unit)
variable {t:a4D}
def a1y(r:Nat)(t:a4D):Prop:=0≤t.2.1∧t.2.1+(r:Int)≤1000000
theorem a1y.mono{r':Nat}(h:a1y r t)(g:r'≤r):a1y r' t:=⟨h.1,by have:=h.2;omega⟩
theorem b1r(x:Int):∃v,a1p (x,(0:Int),(1073741824:Int))=some v∧0≤v:=by
 have f:wrap .i64 ((wrap .i64 ((1073741824:Int)-0))+(1:Int))=1073741825:=by decide
 unfold a1p;dsimp only
 by_cases h0:x≥0
 rw[decide_eq_true h0];simp only[cT,oB]
 by_cases h1:x≤1073741824
 rw[decide_eq_true h1];exact⟨x,rfl,h0⟩;rw[decide_eq_false h1];simp only[cF];rw[f];have b:0≤a28 x 1073741825:=a92 _ h0;have g:a28 x 1073741825<1073741825:=a57 _ (by decide);rw[decide_eq_false (show ¬ a28 x 1073741825<0 by omega)];have h:((1073741825:Int)==0)=false:=by decide
 simp only[h,cF,oB];refine⟨_,rfl,?_⟩;rw[w64 (by omega)];omega;rw[decide_eq_false h0];simp only[cF,oB];have g:-1073741825<a28 x 1073741825:=b02 _ (by decide);have a:a28 x 1073741825<1073741825:=a57 _ (by decide);rw[f];have h:((1073741825:Int)==0)=false:=by decide
 simp only[h,cF]
 by_cases hn:a28 x 1073741825<0
 rw[decide_eq_true hn];simp only[cT,oB];refine⟨_,rfl,?_⟩;simp only[w64 (show -9223372036854775808≤a28 x 1073741825+1073741824∧a28 x 1073741825+1073741824<9223372036854775808 by omega)];simp only[w64 (show -9223372036854775808≤a28 x 1073741825+1073741824-0∧a28 x 1073741825+1073741824-0<9223372036854775808 by omega)];simp only[w64 (show -9223372036854775808≤a28 x 1073741825+1073741824-0+1∧a28 x 1073741825+1073741824-0+1<9223372036854775808 by omega)];rw[w64 (by omega)];omega;rw[decide_eq_false hn];simp only[cF,oB];refine⟨_,rfl,?_⟩;rw[w64 (by omega)];omega
theorem a1q{n:Int}(d:a1y (r+1) t)(f:0<n):∃v t',a0A (t,n)=some (v,t')∧0≤v∧v<n∧a1y r t':=by
 obtain⟨g,i⟩:=d;unfold a0A
 by_cases hc:t.2.1≥(t.1.length:Int)
 simp only[decide_eq_true hc,cT,oB];exact⟨0,t,rfl,Int.le_refl _,f,g,by omega⟩;simp only[decide_eq_false hc,cF,oB,decide_eq_false (show ¬ n<1 by omega)];have a:wrap .i64 (t.2.1+1)=t.2.1+1:=w64 (by omega);have b:wrap .i64 (t.2.1+1-1)=t.2.1:=by rw[w64 (by omega)];omega
 rw[a,b];obtain⟨y,e⟩:∃y,n0o t.1 t.2.1=some y:=by
  unfold n0o
  have:t.2.1.toNat<t.1.length:=by omega
  exact⟨_,by rw[if_pos g,lG this]⟩
 rw[e];obtain⟨v,hv,h⟩:=b1r y;simp only[oB,hv];have c:(n==0)=false:=by simp;omega
 simp only[c,cF];exact⟨_,_,rfl,a92 _ h,a57 _ f,by show 0≤t.2.1+1;omega,by show t.2.1+1+(r:Int)≤1000000;omega⟩
theorem b2f(r:Int×Unit):∃v r',a2S (r,(256:Int))=some (v,r'):=⟨_,_,rfl⟩
theorem a0G(h:n<2147483648):lim n=true:=by
 unfold lim;exact decide_eq_true (by omega)
theorem b0P{n:Int}(A:a1y (r+2) t)(G:0≤n∧n≤1000):∃b t',a1T (t,n)=some (b,t')∧(b.length:Int)≤n∧(∀v∈b,0≤v∧v<256)∧a1y r t':=by
 unfold a1T;obtain⟨C,I,o,-,-,s⟩:=a1q A (show(0:Int)<1048576 by decide);have q:wrap .i64 (n+1)=n+1:=w64 (by omega);obtain⟨m,t2,p,D,b2,x⟩:=a1q s (show(0:Int)<n+1 by omega);simp only[o,oB,q,p];refine a1V (f:=a2g) (fun i h=>h.1=(i:Int)∧(h.2.1.length:Int)+i≤n∧(∀v∈h.2.1,0≤v∧v<256)∧h.2.2.2.1=t2)
  (fun w=>(w.1.length:Int)≤n∧(∀v∈w.1,0≤v∧v<256)∧w.2.1=t2) m.toNat (m,[],(C,()),t2,()) ⟨by simp only;omega,by simp only[a03];omega,by simp,rfl⟩ (fun w B y=>?_) (fun i h a=>?_)
 obtain⟨c,d,e⟩:=y;rw[B];exact⟨_,_,rfl,c,d,by show a1y r w.2.1;rw[e];exact x⟩;obtain⟨E,F,j,l⟩:=a;unfold a2g
 by_cases hp:h.1 > 0
 left;obtain⟨v,H,z⟩:=b2f h.2.2.1;rw[decide_eq_true hp,z];simp only[cT,oB];rw[a0G (by omega)];refine⟨_,i-1,rfl,by omega,?_,?_,?_,l⟩;show wrap .i64 (h.1-1)=_;rw[w64 (by omega)];omega;show((h.2.1.append [_]).length:Int)+_≤n;simp only[a20,lN,a06];omega;intro u g;rcases mA.1 (show u∈h.2.1++[_]from g)with g|g;exact j u g;rw[a23]at g;rw[g];exact wu8 _;right;rw[decide_eq_false hp];exact⟨_,rfl,by show(h.2.1.length:Int)≤n;omega,j,l⟩
abbrev Pk:Type:=Int×(Int×(Int×(Bool×(Bool×(List Int×Unit)))))
variable {L:List (List Pk)}{X Y Z s:List Pk}{q y z:Pk}
structure PkOk (s:Int) (p:Pk):Prop where
 st:p.1=s
 at0:0≤p.2.1
 at1:p.2.1≤1000
 len0:0≤p.2.2.1
 len1:p.2.2.1≤50
 dat:p.2.2.2.2.2.1.length≤900
 byt:∀v∈p.2.2.2.2.2.1,0≤v∧v<256
structure PksOk (s:Int) (n:Nat) (l:List Pk):Prop where
 ok:∀p∈l,PkOk s p
 len:l.length≤n
 asc:l.Pairwise fun p q=>p.2.1≤q.2.1
theorem a8P{s:Int}(ht:a1y (r+58) t)(hn:n≤8):∃l t',a1L (t,s,(n:Int))=some (l,t')∧PksOk s n l∧a1y r t':=by
 unfold a1L;obtain⟨v1,t1,G,a1,b1,S⟩:=a1q ht (show(0:Int)<40 by decide);have R:wrap .i64 ((n:Int)+1)=n+1:=w64 (by omega);obtain⟨z,t2,H,a2,b2,T⟩:=a1q S (show(0:Int)<(n:Int)+1 by omega);simp only[G,oB,R,H];refine a1V (f:=a1Y) (fun i g=>g.1=s∧0≤g.2.1∧g.2.1+60*i≤40+60*(n:Int)∧g.2.2.1=(i:Int)∧(g.2.2.2.1.length:Int)+i≤n∧(∀p∈g.2.2.2.1,PkOk s p∧p.2.1≤g.2.1)∧g.2.2.2.1.Pairwise (fun p q=>p.2.1≤q.2.1)∧a1y (r+7*i) g.2.2.2.2.1)
  (fun w=>PksOk s n w.1∧a1y r w.2.1) z.toNat (s,v1,z,[],t2,()) ⟨rfl,a1,by simp only;omega,by simp only;omega,by simp only[a03];omega,by simp,.nil,T.mono (by omega)⟩ (fun w hw hQ=>?_) (fun i g m=>?_)
 obtain⟨o,u⟩:=hQ;rw[hw];exact⟨_,_,rfl,o,u⟩;obtain⟨v,F,c3,c4,c5,j,x,y⟩:=m;unfold a1Y
 by_cases hp:g.2.2.1 > 0
 left;obtain⟨A,t3,I,B,b3,U⟩:=a1q (r:=r+7*(i-1)+6) (y.mono (by omega)) (show(0:Int)<50 by decide);obtain⟨x4,t4,K,a4,b4,V⟩:=a1q U (show(0:Int)<3 by decide);obtain⟨x5,t5,L,a5,b5,W⟩:=a1q V (show(0:Int)<8 by decide);obtain⟨c,t6,M,C,D,X⟩:=a1q W (show(0:Int)<3 by decide);have hd:0≤a26 ([20,300,900]:List Int) (a13 c) 0∧a26 ([20,300,900]:List Int) (a13 c) 0≤900:=by
  have:a13 c=0∨a13 c=1∨a13 c=2:=by omega
  rcases this with h|h|h<;>rw[h]<;>decide
 obtain⟨b,t7,N,a7,E,Y⟩:=b0P X (n:=a26 ([20,300,900]:List Int) (a13 c) 0) (by omega);obtain⟨e,t8,O,a8,b8,Z⟩:=a1q Y (show(0:Int)<60 by decide);rw[decide_eq_true hp];simp only[cT,oB,I,K,L,M,N,O,decide_eq_true C,decide_eq_true D,a11];rw[a0G (by omega)];have P:wrap .i64 (g.2.1+e)=g.2.1+e:=w64 (by omega);have Q:wrap .i64 (g.2.2.1-1)=g.2.2.1-1:=w64 (by omega);rw[P,Q];have d:PkOk s (g.1,g.2.1,A,decide (x4 > 0),x5==7,b,()):=⟨v,F,by show g.2.1≤1000;omega,B,by show A≤50;omega,by show b.length≤900;omega,E⟩;refine⟨_,i-1,rfl,by omega,v,by show 0≤g.2.1+e;omega,by show g.2.1+e+60*((i-1:Nat):Int)≤_;omega,by show g.2.2.1-1=_;omega,?_,?_,?_,Z⟩;show((g.2.2.2.1.append [_]).length:Int)+_≤n;simp only[a20,lN,a06];omega;intro p a;show PkOk s p∧p.2.1≤g.2.1+e;rcases mA.1 (show p∈g.2.2.2.1++[_]from a)with a|a
 have:=j p a
 exact⟨this.1,by omega⟩;rw[a23]at a;subst a;exact⟨d,by show g.2.1≤_;omega⟩;show(g.2.2.2.1++[_]).Pairwise _;refine a19.2 ⟨x,a52 ..,fun p hp q a=>?_⟩;rw[a23]at a;subst a;exact(j p hp).2;right;rw[decide_eq_false hp];exact⟨_,rfl,⟨fun p hp=>(j p hp).1,by show g.2.2.2.1.length≤n;omega,x⟩,y.mono (by omega)⟩
def klt(p q:Pk):Bool:=decide (p.2.1<q.2.1) || (decide (p.2.1=q.2.1)&&decide (p.1<q.1))
def sg(a b:Int):Int:=bif decide (a<b)then -1 else(bif decide (a > b)then 1 else 0)
theorem b4f(a b:Int):a2q (a,b)=some (sg a b):=by
 simp only[a2q,a2J,oB,bne_self_eq_false,cF,sg];cases decide (a<b)<;>cases decide (a > b)<;>rfl
theorem b5h(a b:Int):a2K (a,b)=some (sg a b):=by
 simp only[a2K,a3n,oB,bne_self_eq_false,cF,sg];cases decide (a<b)<;>cases decide (a > b)<;>rfl
theorem a8Q(a b:Int):(a<b∧sg a b=-1)∨(b<a∧sg a b=1)∨(a=b∧sg a b=0):=by
 unfold sg
 by_cases h1:a<b
 rw[decide_eq_true h1];exact .inl ⟨h1,rfl⟩;rw[decide_eq_false h1]
 by_cases h2:a > b
 rw[decide_eq_true h2];exact .inr (.inl ⟨h2,rfl⟩);rw[decide_eq_false h2];exact .inr (.inr ⟨by omega,rfl⟩)
theorem b3C(a b:Int)(h:a=-1∨a=1∨a=0)(g:b=-1∨b=1∨b=0):a5c [a,b]=some (if a=0 then b else a):=by
 rcases h with rfl|rfl|rfl<;>rcases g with rfl|rfl|rfl<;>kernel_rfl
theorem a7n(p q:Pk):∃c,a2m (p,q)=some c∧decide (c<0)=klt p q:=by
 simp only[a2m,b4f,b5h,oB];obtain⟨f,h⟩|⟨f,h⟩|⟨f,h⟩:=a8Q p.2.1 q.2.1<;>obtain⟨a,g⟩|⟨a,g⟩|⟨a,g⟩:=a8Q p.1 q.1 <;>
  (rw[h,g,b3C _ _ (by decide) (by decide)];refine⟨_,rfl,?_⟩;simp only[klt,oB];(try rw[decide_eq_true f]);simp[show ¬ q.2.1<p.2.1∨True from .inr trivial];try omega)
section
variable {α:Type}
theorem a4Y(P T:List α)(x z:α)(hi:i=P.length):a26 (P++x::T) i z=x:=by
 subst hi;rw[lD,a30 (a08 _),a67];rfl
theorem a7o(P Q R:List α)(x y z:α)(h:j=P.length+1+Q.length):a26 (P++x::(Q++y::R)) j z=y:=by
 have:=a4Y (P++x::Q) R y z (i:=j) (by simp;omega)
 simpa using this
theorem a7J(P Q R:List α)(x y:α)(hi:i=P.length)(h:j=P.length+1+Q.length):b23 (b23 (P++x::(Q++y::R)) i y) j x=P++y::(Q++x::R):=by
 subst hi h;rw[a60 _ _ (a08 _),a67];simp only[b03];rw[a60 _ _ (by omega)];rw[show P.length+1+Q.length-P.length=Q.length+1 by omega];simp only[List.set_cons_succ];rw[a60 _ _ (a08 _),a67];rfl
end
theorem a5s{p M:List Pk}(h:X.length=Y.length)(r:(p++(X++(M++(Y++s)))).length<1000000){a n:Int}(v:a=p.length)(w:b=(p.length+X.length+M.length:Nat))(x:n=X.length):
  a0Q (p++(X++(M++(Y++s))),a,b,n,())=some (p++(Y++(M++(X++s)))):=by
 simp only[lN]at r;unfold a0Q;simp only
 have:=a0O (f:=a1e) (fun k=>(a,b,n,(k:Int),p++((Y.take k++X.drop k)++(M++((X.take k++Y.drop k)++s))),())) X.length (b:=(p++(Y++(M++(X++s))),())) (fun k i=>?_) ?_
 simp only[a43,a83,a05]at this;rw[show((0:Nat):Int)=0 from rfl]at this;rw[this];rfl;unfold a1e;simp only;have t:wrap .i64 (b+(k:Int))=b+k:=w64 (by omega);have w2:wrap .i64 (a+(k:Int))=a+k:=w64 (by omega);have u:wrap .i64 ((k:Int)+1)=((k+1:Nat):Int):=w64 (by omega);have g:k<Y.length:=by omega
 have o:X.drop k=X[k]::X.drop (k+1):=a38 i;have q:Y.drop k=Y[k]::Y.drop (k+1):=a38 g;have e:p++((Y.take k++X.drop k)++(M++((X.take k++Y.drop k)++s)))=(p++Y.take k)++X[k]::((X.drop (k+1)++(M++X.take k))++Y[k]::(Y.drop (k+1)++s)):=by
  rw[o,q];simp only[aA,a09,a05]
 have j:p++((Y.take (k+1)++X.drop (k+1))++(M++((X.take (k+1)++Y.drop (k+1))++s)))=(p++Y.take k)++Y[k]::((X.drop (k+1)++(M++X.take k))++X[k]::(Y.drop (k+1)++s)):=by
  rw[a07 i,a07 g];simp only[aA,a09,a05]
 have hi:a13 (a+k)=(p++Y.take k).length:=by simp;omega
 have d:a13 (b+k)=(p++Y.take k).length+1+(X.drop (k+1)++(M++X.take k)).length:=by simp;omega
 rw[e,j,t,w2,u,decide_eq_true (show(k:Int)<n by omega)];rw[a4Y _ _ _ _ hi,a7o _ _ _ _ _ _ d,a7J _ _ _ _ _ hi d];have c:((p++Y.take k)++X[k]::((X.drop (k+1)++(M++X.take k))++Y[k]::(Y.drop (k+1)++s))).length=p.length+(X.length+(M.length+(Y.length+s.length))):=by simp;omega
 simp only[a72,c];rw[decide_eq_true (show 0≤b+(k:Int)by omega),decide_eq_true (show 0≤a+(k:Int)by omega),decide_eq_true (show a+(k:Int)<((p.length+(X.length+(M.length+(Y.length+s.length))):Nat):Int)by omega),decide_eq_true (show b+(k:Int)<((p.length+(X.length+(M.length+(Y.length+s.length))):Nat):Int)by omega)];rfl;unfold a1e;simp only;rw[decide_eq_false (by omega)];have l:Y.take X.length=Y:=by rw[h];exact a14
 have m:Y.drop X.length=[]:=by rw[h];exact a75
 simp only[cF,l,m,a14,a75,a01]
theorem b1s{p:List Pk}(t:X≠[])(u:Y≠[])(z:(p++(X++(Y++s))).length<1000000){a:Int}(H:a=p.length)(K:m=(p.length+X.length:Nat))(I:b=(p.length+X.length+Y.length:Nat)):
  a1u (p++(X++(Y++s)),a,m,b,())=some (p++(Y++(X++s))):=by
 simp only[lN]at z;have O:=a04.2 t;have P:=a04.2 u;unfold a1u;simp only;have D:wrap .i64 (m-a)=(X.length:Int):=by rw[w64 (by omega)];omega
 have w2:wrap .i64 (b-m)=(Y.length:Int):=by rw[w64 (by omega)];omega
 rw[D,w2];refine a1V (f:=a1D) (fun k v=>∃A c g B:List Pk,v=(m,(),(c.length:Int),(g.length:Int),p++(A++(c++(g++(B++s)))),())∧A.length+c.length=X.length∧g.length+B.length=Y.length∧A++(g++(c++B))=Y++X∧c≠[]∧g≠[]∧k=c.length+g.length)
  (fun w=>∃A c g B:List Pk,w=(m,(),(c.length:Int),p++(A++(c++(g++(B++s)))),())∧A.length+c.length=X.length∧g.length+B.length=Y.length∧A++(g++(c++B))=Y++X∧c.length=g.length)
  (X.length+Y.length) (m,(),(X.length:Int),(Y.length:Int),p++(X++(Y++s)),()) ⟨[],X,Y,[],rfl,by simp,by simp,by simp,t,u,rfl⟩ (fun w C y=>?_) (fun k v l=>?_)
 obtain⟨A,c,g,B,rfl,q,r,d,j⟩:=y;rw[C];simp only[oB];have i:wrap .i64 (m-(c.length:Int))=m-c.length:=w64 (by omega)
 have:=a5s (p:=p++A) (X:=c) (M:=[]) (Y:=g) (s:=B++s) j (by simp only[lN,a03];omega) (a:=m-c.length) (b:=m) (n:=c.length) (by simp only[lN];omega) (by simp only[lN,a03];omega) rfl
 rw[i];simp only[aA,a05]at this;rw[this];simp only[oB];have e:p++(A++(g++(c++(B++s))))=p++((A++(g++(c++B)))++s):=by simp only[aA]
 rw[e,d];simp only[aA];obtain⟨A,c,g,B,rfl,q,r,d,j,x,G⟩:=l;have L:=a04.2 j;have N:=a04.2 x;unfold a1D;simp only
 by_cases hij:c.length=g.length
 right
 have:((c.length:Int) != (g.length:Int))=false:=by simp[hij]
 rw[this];exact⟨_,rfl,A,c,g,B,rfl,q,r,d,hij⟩;left
 have:((c.length:Int) != (g.length:Int))=true:=by simp;omega
 rw[this];have i:wrap .i64 (m-(c.length:Int))=m-c.length:=w64 (by omega)
 by_cases hgt:c.length > g.length
 rw[decide_eq_true (show(c.length:Int) > (g.length:Int)by omega)];simp only[cT];have F:c=c.take g.length++c.drop g.length:=(a16 _ _).symm
 have:=a5s (p:=p++A) (X:=c.take g.length) (M:=c.drop g.length) (Y:=g) (s:=B++s) (by simp;omega) (by simp only[lN,a00,a02];omega) (a:=m-c.length) (b:=m) (n:=g.length) (by simp only[lN];omega) (by simp only[lN,a00,a02];omega) (by simp;omega)
 simp only[aA]at this;rw[←aA (c.take g.length),a16]at this;rw[i,this];simp only[oB];have o:wrap .i64 ((c.length:Int)-g.length)=((c.drop g.length).length:Int):=by rw[w64 (by omega),a02];omega
 rw[o];refine⟨_,(c.drop g.length).length+g.length,rfl,by simp only[a02];omega,A++g,c.drop g.length,c.take g.length,B,?_,?_,?_,?_,?_,?_,?_⟩;rw[show(c.take g.length).length=g.length by simp;omega];simp only[aA];simp only[lN,a02];omega;simp only[a00];omega;rw[←d];simp only[aA];rw[←aA (c.take g.length),a16];intro h;have:=congrArg a78 h;simp only[a00,a02,a03]at this;omega;intro h;have:=congrArg a78 h;simp only[a00,a02,a03]at this;omega;simp only[a00,a02];omega;rw[decide_eq_false (show ¬ (c.length:Int) > (g.length:Int)by omega)];simp only[cF];have E:wrap .i64 ((wrap .i64 (m+(g.length:Int)))-c.length)=m+g.length-c.length:=by rw[w64 (n:=m+g.length) (by omega),w64 (by omega)]
 have:=a5s (p:=p++A) (X:=c) (M:=g.take (g.length-c.length)) (Y:=g.drop (g.length-c.length)) (s:=B++s) (by simp;omega) (by simp only[lN,a00,a02];omega) (a:=m-c.length) (b:=m+g.length-c.length) (n:=c.length) (by simp only[lN];omega) (by simp only[lN,a00,a02];omega) rfl
 simp only[aA]at this;rw[←aA (g.take _) (g.drop _) (B++s),a16]at this;rw[i,E,this];simp only[oB];have o:wrap .i64 ((g.length:Int)-c.length)=((g.take (g.length-c.length)).length:Int):=by rw[w64 (by omega),a00];omega
 rw[o];refine⟨_,c.length+(g.take (g.length-c.length)).length,rfl,by simp only[a00];omega,A,g.drop (g.length-c.length),g.take (g.length-c.length),c++B,?_,?_,?_,?_,?_,?_,?_⟩;rw[show(g.drop (g.length-c.length)).length=c.length by simp;omega];simp only[aA];simp only[a02];omega;simp only[a00,lN];omega;rw[←d];rw[←aA (g.take _) (g.drop _),a16];intro h;have:=congrArg a78 h;simp only[a00,a02,a03]at this;omega;intro h;have:=congrArg a78 h;simp only[a00,a02,a03]at this;omega;simp only[a00,a02];omega
theorem a6G(p q:Pk):klt p q=true↔p.2.1<q.2.1∨(p.2.1=q.2.1∧p.1<q.1):=by simp[klt]
theorem a5l(p q:Pk):klt p q=false↔¬ (p.2.1<q.2.1∨(p.2.1=q.2.1∧p.1<q.1)):=by rw[←a6G,Bool.not_eq_true]
theorem a4o{x:Pk}(h:klt y x=false)(g:klt z y=false):klt z x=false:=by
 rw[a5l]at *;omega
theorem b4g{x:Pk}(g:klt x y=true)(h:klt z y=false):klt x z=true:=by
 rw[a6G]at *;rw[a5l]at h;omega
theorem b2J{x:Pk}(h:klt y x=false)(g:klt y z=true):klt x z=true:=by
 rw[a6G]at *;rw[a5l]at h;omega
theorem a6H{x:Pk}(h:klt x y=true):klt y x=false:=by
 rw[a5l];rw[a6G]at h;omega
def Asc(l:List Pk):Prop:=l.Pairwise fun x y=>klt y x=false
inductive Stb:List Pk→List Pk→Prop where
 |refl (l):Stb l l
 |swap (p:List Pk) (x y:Pk) (s:List Pk) (h:klt y x=true):Stb (p++x::y::s) (p++y::x::s)
 |trans {a b c}:Stb a b→Stb b c→Stb a c
theorem Stb.perm{a b:List Pk}(h:Stb a b):b.Perm a:=by
 induction h with
 |refl=>exact .refl _
 |swap p x y s _=>exact(List.Perm.swap x y s).append_left p
 |trans _ _ h1 h2=>exact h2.trans h1
theorem Stb.ctx{a b:List Pk}(h:Stb a b)(p s:List Pk):Stb (p++(a++s)) (p++(b++s)):=by
 induction h with
 |refl=>exact .refl _
 |swap q x y t h=>
  have:=Stb.swap (p++q) x y (t++s) h
  simpa only[aA,a09]using this
 |trans _ _ h1 h2=>exact h1.trans h2
theorem Stb.past(x:Pk):∀(Y:List Pk),(∀y∈Y,klt y x=true)→Stb (x::Y) (Y++[x])
 | [],_=>.refl _
 |y::Y,h=>by
  have f:=Stb.swap [] x y Y (h y (by simp));have g:=(Stb.past x Y fun z a=>h z (by simp[a])).ctx [y] [];simp only[a01]at g;exact f.trans g
theorem Stb.blocks:∀(X Y:List Pk),(∀x∈X,∀y∈Y,klt y x=true)→Stb (X++Y) (Y++X)
 | [],Y,_=>by rw[a01];exact .refl _
 |x::X,Y,h=>by
  have g:=(Stb.blocks X Y fun z a=>h z (by simp[a])).ctx [x] [];have f:=(Stb.past x Y (h x (by simp))).ctx [] X;simp only[a01,a05,aA,a09]at g f;exact g.trans f
theorem a7K(S:Nat→Nat→σ)(E:Nat→β)(P:Nat→Bool)(lo hi:Nat)(mono:∀h k,lo≤k→k≤h→h<hi→P h=true→P k=true)(step:∀i j,lo≤i→i<j→j≤hi→f (S i j)=some (.inl (bif P ((i+j) / 2)then S ((i+j) / 2+1) j else S i ((i+j) / 2))))(d:∀i,lo≤i→i≤hi→f (S i i)=some (.inr (E i))):
  ∀(n i j:Nat),j=i+n→lo≤i→j≤hi→(∀k,lo≤k→k<i→P k=true)→(∀k,j≤k→k<hi→P k=false)→
  ∃c,lo≤c∧c≤hi∧x0w f (S i j)=some (E c)∧(∀k,lo≤k→k<c→P k=true)∧(∀k,c≤k→k<hi→P k=false):=by
 intro n
 induction n using b21 with
 |_ n ih=>
  intro i j p g a l m
  by_cases hn:n=0
  obtain rfl:i=j:=by omega
  exact⟨i,g,a,a1c (d i g a),l,m⟩
  ·have o:=step i j g (by omega) a;rw[a1t o];cases hP:P ((i+j) / 2)with
   |true=>
    exact ih (j-((i+j) / 2+1)) (by omega) _ _ (by omega) (by omega) a (fun k b e=>mono _ k b (by omega) (by omega) hP) m
   |false=>
    refine ih ((i+j) / 2-i) (by omega) _ _ (by omega) g (by omega) l fun k b e=>?_
    cases hk:P k with
    |false=>rfl
    |true=>
     have:=mono k ((i+j) / 2) (by omega) b e hk
     rw[hP]at this;cases this
theorem a6I(h:i+j<2147483648):wrap .i64 (D0o .u64 (wrap .u64 (wrap .i64 ((i:Int)+(j:Int)))) (1:Int))=(((i+j) / 2:Nat):Int):=by
 rw[w64 (n:=(i:Int)+j) (by omega)];have g:wrap .u64 ((i:Int)+(j:Int))=((i+j:Nat):Int):=by
  simp only[wrap,IntKind.bits,IntKind.signed]
  simp
  omega
 rw[g];have f:D0o .u64 ((i+j:Nat):Int) (1:Int)=(((i+j) / 2:Nat):Int):=by
  unfold D0o;show Int.fdiv _ 2=_;rw[Int.fdiv_eq_ediv_of_nonneg _ (by decide)];omega
 rw[f,w64 (by omega)]
theorem b2O(x:Pk):klt x x=false:=by rw[a5l];omega
theorem a4p(h:Asc Y)(g:i≤j)(f:j<Y.length):klt Y[j] (Y[i]'(by omega))=false:=by
 by_cases e:i=j
 subst e;exact b2O _;exact a69.1 h i j (by omega) f (by omega)
theorem a5V{q:List Pk}{k t:Nat}(h:k=q.length+t)(g:t<Y.length):a26 (q++(Y++s)) k z=Y[t]:=by
 subst h;rw[lD,a30 (by omega),a40 (by omega),show q.length+t-q.length=t by omega,lG g];rfl
theorem a8R(P Q R:List α)(x y:α)(hi:i=P.length)(h:j=P.length+1+Q.length):b23 (b23 (P++x::(Q++y::R)) j x) i y=P++y::(Q++x::R):=by
 rw[List.set_comm _ _ (by omega)];exact a7J P Q R x y hi h
theorem a5W(h:y∈Y.take n):∃t,∃h:t<Y.length,t<n∧Y[t]=y:=by
 obtain⟨t,g,e⟩:=a99.1 h;rw[a00]at g;rw[List.getElem_take]at e;exact⟨t,by omega,by omega,e⟩
theorem a5X(h:y∈Y.drop n):∃t,∃h:t<Y.length,n≤t∧Y[t]=y:=by
 obtain⟨t,g,e⟩:=a99.1 h;rw[a02]at g;rw[List.getElem_drop]at e;exact⟨n+t,by omega,by omega,e⟩
theorem b5i(S:Nat){p:List Pk}{x:Pk}(O:Asc Y)(X:(p++([x]++(Y++s))).length<1000000){a:Int}(P:a=p.length)(hm:m=(p.length+1:Nat))(U:b=(p.length+1+Y.length:Nat)):
  ∃Z,a0C (S+1) (p++([x]++(Y++s)),a,m,b,())=some (p++(Z++s))∧Asc Z∧Stb ([x]++Y) Z:=by
 simp only[lN,a06]at X;have I:a26 (p++([x]++(Y++s))) p.length ((0:Int),(0:Int),(0:Int),false,false,([]:(List Int)),())=x:=a4Y p (Y++s) x _ rfl;have d:∀t (A:t<Y.length),a26 (p++([x]++(Y++s))) (p.length+1+t) ((0:Int),(0:Int),(0:Int),false,false,([]:(List Int)),())=Y[t]:=fun t A=>by
  rw[←aA];exact a5V (q:=p++[x]) (by simp) A
 obtain⟨c,V,W,G,E,F⟩:=a7K (f:=a1h) (fun i j=>(a,(),(i:Int),(j:Int),p++([x]++(Y++s)),())) (fun c=>(a,(c:Int),p++([x]++(Y++s)),()))
  (fun k=>klt (a26 (p++([x]++(Y++s))) k ((0:Int),(0:Int),(0:Int),false,false,([]:(List Int)),())) x) (p.length+1) (p.length+1+Y.length)
  (fun h k o r D N=>by
   obtain⟨t,rfl⟩:∃t,h=p.length+1+t:=⟨h-(p.length+1),by omega⟩;obtain⟨u,rfl⟩:∃u,k=p.length+1+u:=⟨k-(p.length+1),by omega⟩;rw[d t (by omega)]at N;rw[d u (by omega)];exact b2J (a4p O (show u≤t by omega) (by omega)) N)
  (fun i j o r D=>by
   unfold a1h;simp only;rw[a6I (by omega),decide_eq_true (show(i:Int)<(j:Int)by omega)];obtain⟨v,hv,H⟩:=a7n (a26 (p++([x]++(Y++s))) ((i+j) / 2) ((0:Int),(0:Int),(0:Int),false,false,([]:(List Int)),())) x;have g:(p++([x]++(Y++s))).length=p.length+(1+(Y.length+s.length)):=by simp only[lN,a06]
   rw[g,decide_eq_true (show(0:Int)≤(((i+j) / 2:Nat):Int)by omega),decide_eq_true (show(((i+j) / 2:Nat):Int)<((p.length+(1+(Y.length+s.length)):Nat):Int)by omega),decide_eq_true (show 0≤a by omega),decide_eq_true (show a<((p.length+(1+(Y.length+s.length)):Nat):Int)by omega)];simp only[a11,cT,tN,P,I,hv,oB,H];cases klt (a26 (p++([x]++(Y++s))) ((i+j) / 2) ((0:Int),(0:Int),(0:Int),false,false,([]:(List Int)),())) x with
   |true=>
    simp only[cT];rw[w64 (by omega)];rfl
   |false=>rfl)
  (fun i o r=>by
   unfold a1h;simp only;rw[decide_eq_false (by omega)];rfl) Y.length _ _ rfl (a08 _) (a08 _) (fun k o r=>by omega) (fun k o r=>by omega)
 obtain⟨n,rfl⟩:∃n,c=p.length+1+n:=⟨c-(p.length+1),by omega⟩;have hn:n≤Y.length:=by omega
 have M:∀y∈Y.take n,klt y x=true:=fun y w=>by
  obtain⟨t,A,l,rfl⟩:=a5W w
  have:=E (p.length+1+t) (by omega) (by omega)
  rwa [d t A]at this
 have T:∀y∈Y.drop n,klt y x=false:=fun y w=>by
  obtain⟨t,A,l,rfl⟩:=a5X w
  have:=F (p.length+1+t) (by omega) (by omega)
  rwa [d t A]at this
 have C:Y.take n++Y.drop n=Y:=a16 n Y;refine⟨Y.take n++x::Y.drop n,?_,?_,?_⟩;unfold a0C;simp only;rw[show wrap .i64 (m-a)=1 by rw[w64 (by omega)];omega];simp only[beq_self_eq_true,cT];rw[hm,U,G];simp only[oB]
 have:=a0O (f:=a1i) (fun t=>(((p.length+1+n:Nat):Int),((p.length+t:Nat):Int),p++(((Y.take n).take t++x::(Y.take n).drop t)++(Y.drop n++s)),())) n (b:=(p++((Y.take n++x::Y.drop n)++s),())) (fun t A=>?_) ?_
 simp only[a43,a83,a05,Nat.add_zero,a09]at this;rw[←aA (Y.take n),C,←P]at this;rw[show[x]++(Y++s)=x::(Y++s)from rfl,this];rfl;unfold a1i;simp only;have l:t<(Y.take n).length:=by rw[a00];omega
 have L:wrap .i64 (((p.length+1+n:Nat):Int)-1)=((p.length+n:Nat):Int):=by rw[w64 (by omega)];omega
 have w2:wrap .i64 (((p.length+t:Nat):Int)+1)=((p.length+(t+1):Nat):Int):=by rw[w64 (by omega)];omega
 rw[L,w2,decide_eq_true (show((p.length+t:Nat):Int)<((p.length+n:Nat):Int)by omega)];have e:p++(((Y.take n).take t++x::(Y.take n).drop t)++(Y.drop n++s))=(p++(Y.take n).take t)++x::([]++(Y.take n)[t]::((Y.take n).drop (t+1)++(Y.drop n++s))):=by
  rw[a38 l];simp only[aA,a09,a05]
 have R:p++(((Y.take n).take (t+1)++x::(Y.take n).drop (t+1))++(Y.drop n++s))=(p++(Y.take n).take t)++(Y.take n)[t]::([]++x::((Y.take n).drop (t+1)++(Y.drop n++s))):=by
  rw[a07 l];simp only[aA,a09,a05]
 have B:(p++(Y.take n).take t).length=p.length+t:=by simp only[lN,a00];omega
 have hi:a13 ((p.length+t:Nat):Int)=(p++(Y.take n).take t).length:=by rw[B];rfl
 have Q:a13 ((p.length+(t+1):Nat):Int)=(p++(Y.take n).take t).length+1+([]:List Pk).length:=by rw[B];rfl
 rw[e,R,a4Y _ _ _ _ hi,a7o _ _ _ _ _ _ Q,a7J _ _ _ _ _ hi Q];have g:((p++(Y.take n).take t)++x::([]++(Y.take n)[t]::((Y.take n).drop (t+1)++(Y.drop n++s)))).length=p.length+(1+(Y.length+s.length)):=by
  rw[←e];simp only[lN,lC,a00,a02];omega
 simp only[a72,g];rw[decide_eq_true (show(0:Int)≤((p.length+t:Nat):Int)by omega),decide_eq_true (show(0:Int)≤((p.length+(t+1):Nat):Int)by omega),decide_eq_true (show((p.length+t:Nat):Int)<((p.length+(1+(Y.length+s.length)):Nat):Int)by omega),decide_eq_true (show((p.length+(t+1):Nat):Int)<((p.length+(1+(Y.length+s.length)):Nat):Int)by omega)];rfl;unfold a1i;simp only;have L:wrap .i64 (((p.length+1+n:Nat):Int)-1)=((p.length+n:Nat):Int):=by rw[w64 (by omega)];omega
 rw[L,decide_eq_false (by omega)];have o:(Y.take n).take n=Y.take n:=by rw[a84,Nat.min_self]
 have r:(Y.take n).drop n=[]:=by rw[a33,a00];omega
 simp only[cF,o,r,aA,a09,a05];have h:=O;rw[←C]at h;obtain⟨o,r,D⟩:=a19.1 h;refine a19.2 ⟨o,a86.2 ⟨fun y w=>T y w,r⟩,fun y w z K=>?_⟩;rcases mC.1 K with rfl|K;exact a6H (M y w);exact D y w z K;have h:=(Stb.past x (Y.take n) M).ctx [] (Y.drop n);simp only[a05,aA,a09,C]at h;exact h
theorem b5j(W:Nat){p:List Pk}(R:Asc X)(h0:X.length≠1)(hl:(p++(X++([y]++s))).length<1000000){a:Int}(ha:a=p.length)(T:m=(p.length+X.length:Nat))(hb:b=(p.length+X.length+1:Nat)):
  ∃Z,a0C (W+1) (p++(X++([y]++s)),a,m,b,())=some (p++(Z++s))∧Asc Z∧Stb (X++[y]) Z:=by
 simp only[lN,a06]at hl;have N:a26 (p++(X++([y]++s))) (p.length+X.length) ((0:Int),(0:Int),(0:Int),false,false,([]:(List Int)),())=y:=by
  rw[←aA];exact a4Y (p++X) s y _ (by simp)
 have l:∀t (w:t<X.length),a26 (p++(X++([y]++s))) (p.length+t) ((0:Int),(0:Int),(0:Int),false,false,([]:(List Int)),())=X[t]:=fun t w=>a5V rfl w;obtain⟨c,h4,h5,B,G,H⟩:=a7K (f:=a1j) (fun i j=>(m,(),(i:Int),(j:Int),p++(X++([y]++s)),())) (fun c=>(m,(c:Int),p++(X++([y]++s)),()))
  (fun k=>!klt y (a26 (p++(X++([y]++s))) k ((0:Int),(0:Int),(0:Int),false,false,([]:(List Int)),()))) p.length (p.length+X.length)
  (fun h k o q F Q=>by
   obtain⟨t,rfl⟩:∃t,h=p.length+t:=⟨h-p.length,by omega⟩;obtain⟨u,rfl⟩:∃u,k=p.length+u:=⟨k-p.length,by omega⟩;rw[l t (by omega),a61]at Q;rw[l u (by omega),a61];exact a4o (a4p R (show u≤t by omega) (by omega)) Q)
  (fun i j o q F=>by
   unfold a1j;simp only;rw[a6I (by omega),decide_eq_true (show(i:Int)<(j:Int)by omega)];obtain⟨v,hv,M⟩:=a7n y (a26 (p++(X++([y]++s))) ((i+j) / 2) ((0:Int),(0:Int),(0:Int),false,false,([]:(List Int)),()));have g:(p++(X++([y]++s))).length=p.length+(X.length+(1+s.length)):=by simp only[lN,a06]
   rw[g,decide_eq_true (show(0:Int)≤(((i+j) / 2:Nat):Int)by omega),decide_eq_true (show(((i+j) / 2:Nat):Int)<((p.length+(X.length+(1+s.length)):Nat):Int)by omega),decide_eq_true (show 0≤m by omega),decide_eq_true (show m<((p.length+(X.length+(1+s.length)):Nat):Int)by omega)];simp only[a11,cT,tN,T,N,hv,oB,M];cases klt y (a26 (p++(X++([y]++s))) ((i+j) / 2) ((0:Int),(0:Int),(0:Int),false,false,([]:(List Int)),()))with
   |false=>
    simp only[a64,cT];rw[w64 (by omega)];rfl
   |true=>rfl)
  (fun i o q=>by
   unfold a1j;simp only;rw[decide_eq_false (by omega)];rfl) X.length _ _ rfl (a08 _) (a08 _) (fun k o q=>by omega) (fun k o q=>by omega)
 obtain⟨n,rfl⟩:∃n,c=p.length+n:=⟨c-p.length,by omega⟩;have hn:n≤X.length:=by omega
 have Y:∀x∈X.take n,klt y x=false:=fun x d=>by
  obtain⟨t,w,L,rfl⟩:=a5W d
  have:=G (p.length+t) (by omega) (by omega)
  rw[l t w]at this;simpa using this
 have P:∀x∈X.drop n,klt y x=true:=fun x d=>by
  obtain⟨t,w,L,rfl⟩:=a5X d
  have:=H (p.length+t) (by omega) (by omega)
  rw[l t w]at this;simpa using this
 have E:X.take n++X.drop n=X:=a16 n X;have lD:(X.drop n).length=X.length-n:=a02;refine⟨X.take n++y::X.drop n,?_,?_,?_⟩;unfold a0C;simp only;have w0:wrap .i64 (m-a)=(X.length:Int):=by rw[w64 (by omega)];omega
 have I:((X.length:Int)==1)=false:=by simp;omega
 rw[w0,I,show wrap .i64 (b-m)=1 by rw[w64 (by omega)];omega];simp only[beq_self_eq_true,cT,cF];have V:a=((p.length:Nat):Int):=ha;rw[V];have O:(((p.length+X.length:Nat):Int))=m:=T.symm;rw[O]at B;rw[B];simp only[oB]
 have:=a0O (f:=a1k) (fun t=>(((p.length+n:Nat):Int),((p.length+X.length-t:Nat):Int),p++(X.take n++((X.drop n).take (X.length-n-t)++y::(X.drop n).drop (X.length-n-t)))++s,())) (X.length-n) (b:=(p++((X.take n++y::X.drop n)++s),())) (fun t w=>?_) ?_
 have o:(X.drop n).take (X.length-n-0)=X.drop n:=by rw[b07,←lD];exact a14
 have q:(X.drop n).drop (X.length-n-0)=[]:=by rw[b07,←lD];exact a75
 rw[o,q]at this;simp only[b07]at this;rw[←aA (X.take n),E,O]at this;simp only[aA]at this;rw[this];simp only[oB,aA];unfold a1k;simp only;obtain⟨r,hr⟩:∃r,X.length-n-t=r+1:=⟨X.length-n-t-1,by omega⟩;have K:X.length-n-(t+1)=r:=by omega
 have D:r<(X.drop n).length:=by omega
 have w2:wrap .i64 (((p.length+X.length-t:Nat):Int)-1)=((p.length+n+r:Nat):Int):=by rw[w64 (by omega)];omega
 have w3:((p.length+X.length-t:Nat):Int)=((p.length+n+r+1:Nat):Int):=by omega
 have w4:((p.length+X.length-(t+1):Nat):Int)=((p.length+n+r:Nat):Int):=by omega
 rw[hr,K,w2,w3,w4,decide_eq_true (show((p.length+n+r+1:Nat):Int) > ((p.length+n:Nat):Int)by omega)];have e:p++(X.take n++((X.drop n).take (r+1)++y::(X.drop n).drop (r+1)))++s=(p++(X.take n++(X.drop n).take r))++(X.drop n)[r]::([]++y::((X.drop n).drop (r+1)++s)):=by
  rw[a07 D];simp only[aA,a09,a05]
 have U:p++(X.take n++((X.drop n).take r++y::(X.drop n).drop r))++s=(p++(X.take n++(X.drop n).take r))++y::([]++(X.drop n)[r]::((X.drop n).drop (r+1)++s)):=by
  rw[a38 D];simp only[aA,a09,a05]
 have C:(p++(X.take n++(X.drop n).take r)).length=p.length+n+r:=by simp only[lN,a00];omega
 have hi:a13 ((p.length+n+r:Nat):Int)=(p++(X.take n++(X.drop n).take r)).length:=by rw[C];rfl
 have S:a13 ((p.length+n+r+1:Nat):Int)=(p++(X.take n++(X.drop n).take r)).length+1+([]:List Pk).length:=by rw[C];rfl
 rw[e,U,a4Y _ _ _ _ hi,a7o _ _ _ _ _ _ S,a8R _ _ _ _ _ hi S];have g:((p++(X.take n++(X.drop n).take r))++(X.drop n)[r]::([]++y::((X.drop n).drop (r+1)++s))).length=p.length+(X.length+(1+s.length)):=by
  rw[←e];simp only[lN,lC,a00,a02];omega
 simp only[a72,g];rw[decide_eq_true (show(0:Int)≤((p.length+n+r:Nat):Int)by omega),decide_eq_true (show(0:Int)≤((p.length+n+r+1:Nat):Int)by omega),decide_eq_true (show((p.length+n+r:Nat):Int)<((p.length+(X.length+(1+s.length)):Nat):Int)by omega),decide_eq_true (show((p.length+n+r+1:Nat):Int)<((p.length+(X.length+(1+s.length)):Nat):Int)by omega)];rfl;unfold a1k;simp only;rw[decide_eq_false (by omega)];simp only[a67,a43,a83,a05,cF,aA];have h:=R;rw[←E]at h;obtain⟨o,q,F⟩:=a19.1 h;refine a19.2 ⟨o,a86.2 ⟨fun x d=>a6H (P x d),q⟩,fun x d z A=>?_⟩;rcases mC.1 A with rfl|A;exact Y x d;exact F x d z A;have h:=(Stb.blocks (X.drop n) [y] (fun x d z A=>by rw[a23]at A;rw[A];exact P x d)).ctx (X.take n) [];simp only[a01]at h;rw[←aA,E]at h;exact h
theorem a0E{x:Option α}{f:α→Option β}{v:α}{r:Option β}(h:x=some v)(g:f v=r):x.bind f=r:=by rw[h];exact g
@[reducible] def zPk:Pk:=((0:Int),((0:Int),((0:Int),(false,(false,(([]:(List Int)),()))))))
theorem b3D{p:List Pk}(G:Asc X)(H:Asc Y)(V:(p++(X++(Y++s))).length<1000000){h:Nat}(hh:h=(X.length+Y.length) / 2)(u:Unit)(D F E m n:Int)(hn:n=(p.length+h+(p.length+X.length):Nat)):
  ∃t e,t+e=h∧t≤X.length∧e≤Y.length∧
   x0w a0U (D,F,E,u,m,n,((p.length+(h-Y.length):Nat):Int),((p.length+min h X.length:Nat):Int),n-1,p++(X++(Y++s)),())=some (D,F,E,u,m,n,((p.length+t:Nat):Int),p++(X++(Y++s)),())∧
   (∀y∈Y.take e,∀x∈X.drop t,klt y x=true)∧(∀x∈X.take t,∀y∈Y.drop e,klt y x=false):=by
 simp only[lN]at V;have d:∀t (r:t<X.length),a26 (p++(X++(Y++s))) (p.length+t) zPk=X[t]:=fun t r=>a5V rfl r;have l:∀t (r:t<Y.length),a26 (p++(X++(Y++s))) (p.length+X.length+t) zPk=Y[t]:=fun t r=>by
  rw[←aA];exact a5V (q:=p++X) (by simp) r
 have b:∀t,h-Y.length≤t→t<min h X.length→t<X.length∧h-1-t<Y.length∧(p.length+h+(p.length+X.length)-1-(p.length+t))=p.length+X.length+(h-1-t):=fun t a A=>by omega
 obtain⟨c,T,U,M,I,K⟩:=a7K (f:=a0U) (fun i j=>(D,F,E,u,m,n,(i:Int),(j:Int),n-1,p++(X++(Y++s)),())) (fun c=>(D,F,E,u,m,n,(c:Int),p++(X++(Y++s)),()))
  (fun k=>!klt (a26 (p++(X++(Y++s))) (p.length+h+(p.length+X.length)-1-k) zPk) (a26 (p++(X++(Y++s))) k zPk)) (p.length+(h-Y.length)) (p.length+min h X.length)
  (fun g k a A S R=>by
   obtain⟨t,rfl⟩:∃t,g=p.length+t:=⟨g-p.length,by omega⟩;obtain⟨v,rfl⟩:∃u,k=p.length+u:=⟨k-p.length,by omega⟩;obtain⟨o,w,z⟩:=b t (by omega) (by omega);obtain⟨W,r2,Z⟩:=b v (by omega) (by omega);rw[z,d t o,l _ w,a61]at R;rw[Z,d v W,l _ r2,a61];exact a4o (a4o (a4p G (show v≤t by omega) o) R) (a4p H (show h-1-t≤h-1-v by omega) r2))
  (fun i j a A S=>by
   unfold a0U;simp only;obtain⟨t,r⟩:∃t,(i+j) / 2=p.length+t:=⟨(i+j) / 2-p.length,by omega⟩;obtain⟨o,w,z⟩:=b t (by omega) (by omega);rw[a6I (by omega),decide_eq_true (show(i:Int)<(j:Int)by omega),r,z];have wp:wrap .i64 (n-1-((p.length+t:Nat):Int))=((p.length+X.length+(h-1-t):Nat):Int):=by rw[w64 (by omega)];omega
   obtain⟨v,hv,O⟩:=a7n (a26 (p++(X++(Y++s))) (p.length+X.length+(h-1-t)) zPk) (a26 (p++(X++(Y++s))) (p.length+t) zPk);have C:(p++(X++(Y++s))).length=p.length+(X.length+(Y.length+s.length)):=by simp only[lN]
   rw[C,wp,decide_eq_true (show(0:Int)≤((p.length+t:Nat):Int)by omega),decide_eq_true (show((p.length+t:Nat):Int)<((p.length+(X.length+(Y.length+s.length)):Nat):Int)by omega),decide_eq_true (show(0:Int)≤((p.length+X.length+(h-1-t):Nat):Int)by omega),decide_eq_true (show((p.length+X.length+(h-1-t):Nat):Int)<((p.length+(X.length+(Y.length+s.length)):Nat):Int)by omega)];simp only[a11,cT,tN,hv,oB,O];cases klt (a26 (p++(X++(Y++s))) (p.length+X.length+(h-1-t)) zPk) (a26 (p++(X++(Y++s))) (p.length+t) zPk)with
   |false=>
    simp only[a64,cT];rw[w64 (by omega)];rfl
   |true=>rfl)
  (fun i a A=>by
   unfold a0U;simp only;rw[decide_eq_false (by omega)];rfl) (min h X.length-(h-Y.length)) _ _ (by omega) (a08 _) (a08 _) (fun k a A=>by omega) (fun k a A=>by omega)
 obtain⟨t,rfl⟩:∃t,c=p.length+t:=⟨c-p.length,by omega⟩;refine⟨t,h-t,by omega,by omega,by omega,M,fun y Q x P=>?_,fun x P y Q=>?_⟩;obtain⟨i,hi,L,rfl⟩:=a5W Q;obtain⟨j,N,B,rfl⟩:=a5X P;obtain⟨o,w,z⟩:=b t (by omega) (by omega);have a:=K (p.length+t) (by omega) (by omega);rw[z,d t o,l _ w]at a;have a:klt Y[h-1-t] X[t]=true:=by simpa using a
 exact b4g (b2J (a4p H (show i≤h-1-t by omega) w) a) (a4p G B N);obtain⟨i,hi,L,rfl⟩:=a5W P;obtain⟨j,N,B,rfl⟩:=a5X Q;obtain⟨o,w,z⟩:=b (t-1) (by omega) (by omega);have a:=I (p.length+(t-1)) (by omega) (by omega);rw[z,d _ o,l _ w]at a;have a:klt Y[h-1-(t-1)] X[t-1]=false:=by simpa using a
 exact a4o (a4o (a4p G (show i≤t-1 by omega) o) a) (a4p H (show h-1-(t-1)≤j by omega) N)
theorem len1{l:List α}(h:l.length=1):∃x,l=[x]:=by
 match l,h with
 | [x],_=>exact⟨x,rfl⟩
set_option maxHeartbeats 4000000 in
theorem a8S:∀(fu:Nat){p X Y s:List Pk},Asc X→Asc Y→X≠[]→Y≠[]→X.length+Y.length≤fu→(p++(X++(Y++s))).length<1000000→
  ∃Z,a0C fu (p++(X++(Y++s)),((p.length:Int),(((p.length+X.length:Nat):Int),(((p.length+X.length+Y.length:Nat):Int),()))))=some (p++(Z++s))∧Asc Z∧Stb (X++Y) Z
 |0,p,X,Y,s,_,_,h1,_,hf,_=>by
  have:=a04.2 h1
  omega
 |fu+1,p,X,Y,s,hX,hY,hX0,hY0,hf,hl=>by
  have lX:=a04.2 hX0
  have lY:=a04.2 hY0
  by_cases h1:X.length=1
  ·obtain⟨x,rfl⟩:=len1 h1
   exact b5i fu hY hl rfl rfl rfl
  by_cases h2:Y.length=1
  ·obtain⟨y,rfl⟩:=len1 h2
   exact b5j fu hX h1 hl rfl rfl rfl
  have hl':=hl
  simp only[lN]at hl'
  obtain⟨h,hh⟩:∃h,h=(X.length+Y.length) / 2:=⟨_,rfl⟩
  obtain⟨t,e,hte,ht,he,hit,hlt,hle⟩:=b3D hX hY hl hh () (p.length:Int) ((p.length+X.length:Nat):Int) ((p.length+X.length+Y.length:Nat):Int) ((p.length+h:Nat):Int) ((p.length+h+(p.length+X.length):Nat):Int) rfl
  have eX:X.take t++X.drop t=X:=a16 t X
  have eY:Y.take e++Y.drop e=Y:=a16 e Y
  have lX1:(X.take t).length=t:=by rw[a00];omega
  have lY1:(Y.take e).length=e:=by rw[a00];omega
  have lX2:(X.drop t).length=X.length-t:=a02
  have lY2:(Y.drop e).length=Y.length-e:=a02
  obtain⟨aX1,aX2,aX⟩:=a19.1 (show(X.take t++X.drop t).Pairwise _ by rw[eX];exact hX)
  obtain⟨aY1,aY2,aY⟩:=a19.1 (show(Y.take e++Y.drop e).Pairwise _ by rw[eY];exact hY)

  have m1:∃Z1,(t=0∨e=0∨a0C fu (p++(X.take t++(Y.take e++(X.drop t++(Y.drop e++s)))),((p.length:Int),(((p.length+t:Nat):Int),(((p.length+h:Nat):Int),()))))=some (p++(Z1++(X.drop t++(Y.drop e++s)))))∧((t=0∨e=0)→Z1=X.take t++Y.take e)∧Asc Z1∧Stb (X.take t++Y.take e) Z1:=by
   by_cases h0:t=0∨e=0
   ·refine⟨X.take t++Y.take e,by omega,fun _=>rfl,?_,.refl _⟩
    rcases h0 with rfl|rfl
    ·rw[a43,a05];exact aY1
    ·rw[a43,a01];exact aX1
   ·obtain⟨Z,z1,z2,z3⟩:=a8S fu (p:=p) (X:=X.take t) (Y:=Y.take e) (s:=X.drop t++(Y.drop e++s)) aX1 aY1 (a04.1 (by omega)) (a04.1 (by omega)) (by omega) (by simp only[lN];omega)
    rw[lX1,lY1,Nat.add_assoc,hte]at z1
    exact⟨Z,.inr (.inr z1),fun h=>absurd h h0,z2,z3⟩
  obtain⟨Z1,z1,z1e,z1a,z1s⟩:=m1
  have lZ1:Z1.length=h:=by rw[z1s.perm.length_eq,lN];omega
  have m2:∃Z2,(t=X.length∨e=Y.length∨a0C fu (p++(Z1++(X.drop t++(Y.drop e++s))),(((p.length+h:Nat):Int),(((p.length+X.length+e:Nat):Int),(((p.length+X.length+Y.length:Nat):Int),()))))=some (p++(Z1++(Z2++s))))∧((t=X.length∨e=Y.length)→Z2=X.drop t++Y.drop e)∧Asc Z2∧Stb (X.drop t++Y.drop e) Z2:=by
   by_cases h0:t=X.length∨e=Y.length
   ·refine⟨X.drop t++Y.drop e,by omega,fun _=>rfl,?_,.refl _⟩
    rcases h0 with h0|h0
    ·rw[a33.2 (by omega)];exact aY2
    ·rw[a33.2 (show Y.length≤e by omega),a01];exact aX2
   ·obtain⟨Z,q1,q2,q3⟩:=a8S fu (p:=p++Z1) (X:=X.drop t) (Y:=Y.drop e) (s:=s) aX2 aY2 (a04.1 (by omega)) (a04.1 (by omega)) (by omega) (by simp only[lN];omega)
    rw[lN,lZ1,lX2,lY2,show p.length+h+(X.length-t)=p.length+X.length+e by omega,show p.length+X.length+e+(Y.length-e)=p.length+X.length+Y.length by omega]at q1
    simp only[aA]at q1
    exact⟨Z,.inr (.inr q1),fun h=>absurd h h0,q2,q3⟩
  obtain⟨Z2,z2,z2e,z2a,z2s⟩:=m2
  refine⟨Z1++Z2,?_,?_,?_⟩
  ·unfold a0C
   simp only
   have w0:wrap .i64 (((p.length+X.length:Nat):Int)-(p.length:Int))=(X.length:Int):=by rw[w64 (by omega)];omega
   have w1:wrap .i64 (((p.length+X.length+Y.length:Nat):Int)-((p.length+X.length:Nat):Int))=(Y.length:Int):=by rw[w64 (by omega)];omega
   have n0:((X.length:Int)==1)=false:=by simp;omega
   have n1:((Y.length:Int)==1)=false:=by simp;omega
   have wm:wrap .i64 (D0o .u64 (wrap .u64 (wrap .i64 ((p.length:Int)+((p.length+X.length+Y.length:Nat):Int)))) (1:Int))=((p.length+h:Nat):Int):=by
    rw[a6I (by omega)];omega
   have wn:wrap .i64 (((p.length+h:Nat):Int)+((p.length+X.length:Nat):Int))=((p.length+h+(p.length+X.length):Nat):Int):=by rw[w64 (by omega)];omega
   rw[w0,w1,n0,n1,wm,wn]
   simp only[cF]
   refine a0E (v:=((p.length:Int),(((p.length+X.length:Nat):Int),(((p.length+X.length+Y.length:Nat):Int),((),(((p.length+h:Nat):Int),(((p.length+h+(p.length+X.length):Nat):Int),(((p.length+(h-Y.length):Nat):Int),(((p.length+min h X.length:Nat):Int),(p++(X++(Y++s)),())))))))))) ?_ ?_
   ·by_cases hA:h<X.length
    ·rw[decide_eq_true (show((p.length+X.length:Nat):Int) > ((p.length+h:Nat):Int)by omega)]
     have wb:wrap .i64 (((p.length+h+(p.length+X.length):Nat):Int)-((p.length+X.length+Y.length:Nat):Int))=((p.length+(h-Y.length):Nat):Int):=by rw[w64 (by omega)];omega
     rw[wb,a58 (by omega)]
     rfl
    ·rw[decide_eq_false (show ¬ ((p.length+X.length:Nat):Int) > ((p.length+h:Nat):Int)by omega),a68 (by omega),show h-Y.length=0 by omega]
     rfl
   simp only
   have wn1:wrap .i64 (((p.length+h+(p.length+X.length):Nat):Int)-1)=((p.length+h+(p.length+X.length):Nat):Int)-1:=w64 (by omega)
   rw[wn1]
   refine a0E hit ?_
   simp only
   have we:wrap .i64 (((p.length+h+(p.length+X.length):Nat):Int)-((p.length+t:Nat):Int))=((p.length+X.length+e:Nat):Int):=by rw[w64 (by omega)];omega
   rw[we]
   refine a0E (v:=((p.length:Int),(((p.length+X.length+Y.length:Nat):Int),((),(((p.length+h:Nat):Int),(((p.length+t:Nat):Int),(((p.length+X.length+e:Nat):Int),(p++(X.take t++(Y.take e++(X.drop t++(Y.drop e++s)))),())))))))) ?_ ?_
   ·by_cases hr:t<X.length∧0<e
    ·rw[decide_eq_true (show((p.length+t:Nat):Int)<((p.length+X.length:Nat):Int)by omega),decide_eq_true (show((p.length+X.length:Nat):Int)<((p.length+X.length+e:Nat):Int)by omega)]
     simp only[cT,oB]
     have hrot:=b1s (p:=p++X.take t) (X:=X.drop t) (Y:=Y.take e) (s:=Y.drop e++s) (a04.1 (by omega)) (a04.1 (by omega)) (by simp only[lN];omega) (a:=((p.length+t:Nat):Int)) (m:=((p.length+X.length:Nat):Int)) (b:=((p.length+X.length+e:Nat):Int)) (by simp only[lN];omega) (by simp only[lN];omega) (by simp only[lN];omega)
     have e1:(p++X.take t)++(X.drop t++(Y.take e++(Y.drop e++s)))=p++(X++(Y++s)):=by
      rw[←aA (Y.take e),eY,aA,←aA (X.take t),eX]
     rw[e1]at hrot
     rw[hrot]
     simp only[oB,aA]
    ·have e1:p++(X.take t++(Y.take e++(X.drop t++(Y.drop e++s))))=p++(X++(Y++s)):=by
      by_cases h0:e=0
      ·have q1:Y.take e=[]:=by rw[h0];rfl
       have q2:Y.drop e=Y:=by rw[h0];rfl
       rw[q1,q2,a05,←aA (X.take t),eX]
      ·have q1:X.drop t=[]:=a33.2 (by omega)
       have q2:X.take t=X:=a29 (by omega)
       rw[q1,q2,a05,←aA (Y.take e),eY]
     rw[e1]
     by_cases h0:t<X.length
     ·rw[decide_eq_true (show((p.length+t:Nat):Int)<((p.length+X.length:Nat):Int)by omega),decide_eq_false (show ¬ ((p.length+X.length:Nat):Int)<((p.length+X.length+e:Nat):Int)by omega)]
      rfl
     ·rw[decide_eq_false (show ¬ ((p.length+t:Nat):Int)<((p.length+X.length:Nat):Int)by omega)]
      rfl
   simp only
   refine a0E (v:=(((p.length+X.length+Y.length:Nat):Int),((),(((p.length+h:Nat):Int),(((p.length+X.length+e:Nat):Int),(p++(Z1++(X.drop t++(Y.drop e++s))),())))))) ?_ ?_
   ·by_cases h0:t=0∨e=0
    ·rw[z1e h0]
     by_cases h3:t=0
     ·rw[decide_eq_false (show ¬ (p.length:Int)<((p.length+t:Nat):Int)by omega)]
      simp only[cF,oB,aA]
     ·rw[decide_eq_true (show(p.length:Int)<((p.length+t:Nat):Int)by omega),decide_eq_false (show ¬ ((p.length+t:Nat):Int)<((p.length+h:Nat):Int)by omega)]
      simp only[cT,cF,oB,aA]
    ·rw[decide_eq_true (show(p.length:Int)<((p.length+t:Nat):Int)by omega),decide_eq_true (show((p.length+t:Nat):Int)<((p.length+h:Nat):Int)by omega)]
     simp only[cT,oB]
     rw[(z1.resolve_left (by omega)).resolve_left (by omega)]
     rfl
   simp only
   by_cases h0:t=X.length∨e=Y.length
   ·rw[z2e h0]
    by_cases h3:t=X.length
    ·rw[decide_eq_false (show ¬ ((p.length+h:Nat):Int)<((p.length+X.length+e:Nat):Int)by omega)]
     simp only[cF,oB,aA]
    ·rw[decide_eq_true (show((p.length+h:Nat):Int)<((p.length+X.length+e:Nat):Int)by omega),decide_eq_false (show ¬ ((p.length+X.length+e:Nat):Int)<((p.length+X.length+Y.length:Nat):Int)by omega)]
     simp only[cT,cF,oB,aA]
   ·rw[decide_eq_true (show((p.length+h:Nat):Int)<((p.length+X.length+e:Nat):Int)by omega),decide_eq_true (show((p.length+X.length+e:Nat):Int)<((p.length+X.length+Y.length:Nat):Int)by omega)]
    simp only[cT,oB]
    rw[(z2.resolve_left (by omega)).resolve_left (by omega)]
    simp only[oB,aA]
  ·refine a19.2 ⟨z1a,z2a,fun u hu v hv=>?_⟩
   have hu:=(z1s.perm.mem_iff).1 hu
   have hv:=(z2s.perm.mem_iff).1 hv
   rcases mA.1 hu with hu|hu<;>rcases mA.1 hv with hv|hv
   ·exact aX u hu v hv
   ·exact hle u hu v hv
   ·exact a6H (hlt u hu v hv)
   ·exact aY u hu v hv
  ·have b1:=(Stb.blocks (X.drop t) (Y.take e) (fun x hx y hy=>hlt y hy x hx)).ctx (X.take t) (Y.drop e)
   simp only[aA]at b1
   rw[eY,←aA (X.take t),eX]at b1
   have b2:=z1s.ctx [] (X.drop t++Y.drop e)
   have b3:=z2s.ctx Z1 []
   simp only[a05,a01,aA]at b2 b3
   exact(b1.trans b2).trans b3
theorem a9W{l:List α}(h:l≠[]):∃a z,l=a++[z]:=⟨l.dropLast,l.getLast h,(List.dropLast_concat_getLast h).symm⟩
theorem b3E{p r:List Pk}{x:Pk}(s:Asc Z)(l:(p++(Z++(x::r))).length<1000000)(b i:Int):
  ∃A B,Z=A++B∧x0w a0Z ((p.length:Int),b,(),i,((p.length+Z.length:Nat):Int),p++(Z++(x::r)),())=some ((p.length:Int),b,(),i,p++((A++x::B)++r),())∧Asc (A++x::B)∧Stb (Z++[x]) (A++x::B):=by
 simp only[lN,lC]at l;refine a1V (f:=a0Z) (fun k F=>∃A B:List Pk,Z=A++B∧k=A.length∧(∀z∈B,klt x z=true)∧F=((p.length:Int),b,(),i,((p.length+A.length:Nat):Int),p++(A++(x::(B++r))),()))
  (fun w=>∃A B:List Pk,Z=A++B∧(∀z∈B,klt x z=true)∧(∀z∈A,klt x z=false)∧w=((p.length:Int),b,(),i,p++(A++(x::(B++r))),()))
  Z.length ((p.length:Int),b,(),i,((p.length+Z.length:Nat):Int),p++(Z++(x::r)),()) ⟨Z,[],by simp,rfl,by simp,rfl⟩ (fun w I H=>?_) (fun k F m=>?_)
 obtain⟨A,B,j,c,G,rfl⟩:=H;subst j;refine⟨A,B,rfl,?_,?_,?_⟩;rw[I];simp only[aA,a09];obtain⟨q,D,E⟩:=a19.1 s;refine a19.2 ⟨q,a86.2 ⟨fun z o=>a6H (c z o),D⟩,fun u a v hv=>?_⟩;rcases mC.1 hv with rfl|hv;exact G u a;exact E u a v hv;have h:=(Stb.blocks B [x] (fun z o y C=>by rw[a23]at C;rw[C];exact c z o)).ctx A [];simp only[a01,aA,a41]at h⊢;exact h
 ·obtain⟨A,B,j,rfl,c,rfl⟩:=m;subst j;simp only[lN]at l;unfold a0Z;simp only
  by_cases hA:A=[]
  right;subst hA;rw[decide_eq_false (by simp)];exact⟨_,rfl,[],B,rfl,c,by simp,rfl⟩
  ·obtain⟨g,z,rfl⟩:=a9W hA;simp only[lN,a06]at l;have K:(g++[z]).length=g.length+1:=by simp
   rw[K];rw[decide_eq_true (show((p.length+(g.length+1):Nat):Int) > (p.length:Int)by omega)];have M:wrap .i64 (((p.length+(g.length+1):Nat):Int)-1)=((p.length+g.length:Nat):Int):=by rw[w64 (by omega)];omega
   have e:p++((g++[z])++(x::(B++r)))=(p++g)++z::([]++x::(B++r)):=by simp only[aA,a09,a05]
   have hi:a13 ((p.length+g.length:Nat):Int)=(p++g).length:=by rw[lN];rfl
   have t:a13 ((p.length+(g.length+1):Nat):Int)=(p++g).length+1+([]:List Pk).length:=by simp only[lN,a03,tN];omega
   have d:((p++g)++z::([]++x::(B++r))).length=p.length+g.length+(2+B.length+r.length):=by simp only[lN,lC,a03];omega
   rw[M,e,a4Y _ _ _ _ hi,a7o _ _ _ _ _ _ t,a8R _ _ _ _ _ hi t];simp only[a72,d];rw[decide_eq_true (show(0:Int)≤((p.length+(g.length+1):Nat):Int)by omega),decide_eq_true (show((p.length+(g.length+1):Nat):Int)<((p.length+g.length+(2+B.length+r.length):Nat):Int)by omega),decide_eq_true (show(0:Int)≤((p.length+g.length:Nat):Int)by omega),decide_eq_true (show((p.length+g.length:Nat):Int)<((p.length+g.length+(2+B.length+r.length):Nat):Int)by omega)];obtain⟨v,hv,n⟩:=a7n x z;simp only[a11,cT,hv,oB,n];cases hk:klt x z with
   |true=>
    left;refine⟨_,g.length,rfl,by omega,g,z::B,by simp,rfl,fun u a=>?_,?_⟩;rcases mC.1 a with rfl|a;exact hk;exact c u a;simp only[aA,a09,a05]
   |false=>
    right;refine⟨_,rfl,g++[z],B,rfl,c,fun u a=>?_,?_⟩;rcases mA.1 a with a|a;obtain⟨q,D,E⟩:=a19.1 s;obtain⟨-,-,L⟩:=a19.1 q;exact a4o (L u a z (by simp)) hk;rw[a23]at a;rw[a];exact hk;simp only[aA,a09,a05]
theorem b3F{p:List Pk}(j:(p++(X++s)).length<1000000):∃Z,a0J (p++(X++s),(p.length:Int),((p.length+X.length:Nat):Int),())=some (p++(Z++s))∧Asc Z∧Stb X Z:=by
 simp only[lN]at j;unfold a0J;simp only;cases X with
 |nil=>
  refine⟨[],?_,.nil,.refl _⟩;rw[a1c (b:=(p++([]++s),())) ?_];rfl;unfold a1a;simp only;rw[w64 (by omega),decide_eq_false (by simp only[a03];omega)];rfl
 |cons x X=>
  simp only[lC]at j;have u:wrap .i64 ((p.length:Int)+1)=((p.length+[x].length:Nat):Int):=by rw[w64 (by omega)];rfl
  rw[u];refine a1V (f:=a1a) (fun k n=>∃Z Y:List Pk,k=Y.length∧Z.length+Y.length=X.length+1∧Asc Z∧Stb (x::X) (Z++Y)∧n=((p.length:Int),((p.length+(x::X).length:Nat):Int),(),((p.length+Z.length:Nat):Int),p++(Z++(Y++s)),()))
   (fun w=>∃Z:List Pk,Asc Z∧Stb (x::X) Z∧w=(p++(Z++s),())) X.length ((p.length:Int),((p.length+(x::X).length:Nat):Int),(),((p.length+[x].length:Nat):Int),p++(x::X++s),()) ⟨[x],X,rfl,by simp;omega,a52 ..,.refl _,rfl⟩ (fun w t o=>?_) (fun k n i=>?_)
  obtain⟨Z,g,a,rfl⟩:=o;exact⟨Z,by rw[t];rfl,g,a⟩
  ·obtain⟨Z,Y,rfl,g,a,c,rfl⟩:=i;unfold a1a;simp only;cases Y with
   |nil=>
    right;simp only[a03]at g;rw[decide_eq_false (by simp only[lC];omega)];rw[a01]at c;exact⟨_,rfl,Z,a,c,rfl⟩
   |cons y Y=>
    left;simp only[lC]at g;rw[decide_eq_true (show((p.length+Z.length:Nat):Int)<((p.length+(x::X).length:Nat):Int)by simp only[lC];omega)];obtain⟨A,B,e,d,q,l⟩:=b3E (p:=p) (Z:=Z) (r:=Y++s) (x:=y) a (by simp only[lN,lC];omega) ((p.length+(x::X).length:Nat):Int) ((p.length+Z.length:Nat):Int);have m:(A++y::B).length=Z.length+1:=by rw[l.perm.length_eq,lN];rfl
    rw[a09,d];simp only[cT,oB];have w2:wrap .i64 (((p.length+Z.length:Nat):Int)+1)=((p.length+(A++y::B).length:Nat):Int):=by rw[w64 (by omega),m];omega
    rw[w2];refine⟨_,Y.length,rfl,by simp,A++y::B,Y,rfl,by rw[m];omega,q,c.trans ?_,rfl⟩;have h:=l.ctx [] Y;simp only[a05,aA,a41]at h⊢;exact h
theorem a8T{l p:List Pk}{a:Int}(e:l=p++(X++s))(f:l.length<1000000)(h:a=p.length)(g:b=(p.length+X.length:Nat)):∃Z,a0J (l,a,b,())=some (p++(Z++s))∧Asc Z∧Stb X Z:=by
 subst e h g;exact b3F f
theorem b1t{l:List Pk}(h:l.length<40):∃Z,a1v (l,(l.length:Int),())=some Z∧Asc Z∧Stb l Z:=by
 unfold a1v;simp only
 by_cases h20:l.length<20
 obtain⟨Z,f,D,E⟩:=a8T (l:=l) (p:=[]) (X:=l) (s:=[]) (a:=0) (b:=(l.length:Int)) (by simp) (by omega) rfl (by simp);refine⟨Z,?_,D,E⟩;refine a0E (v:=((l.length:Int),(),(20:Int),(0:Int),l,())) ?_ ?_
 refine a1c ?_
 unfold a0X;simp only;rw[decide_eq_false (by omega)];rfl;simp only;refine a0E f ?_
 simp only[a05,a01];refine a0E (v:=(Z,())) ?_ rfl;refine a1c ?_
 unfold a0R;simp only;rw[decide_eq_false (by omega)];rfl;have o:l.take 20++l.drop 20=l:=a16 20 l;have lA:(l.take 20).length=20:=by rw[a00];omega
 have y:(l.drop 20).length=l.length-20:=a02;obtain⟨Z1,c,a1,q⟩:=a8T (l:=l) (p:=[]) (X:=l.take 20) (s:=l.drop 20) (a:=0) (b:=20) (by rw[a05,o]) (by omega) rfl (by simp only[a03,lA];rfl);have z:Z1.length=20:=by rw[q.perm.length_eq,lA]
 simp only[a05]at c;obtain⟨Z2,g,t,r⟩:=a8T (l:=Z1++l.drop 20) (p:=Z1) (X:=l.drop 20) (s:=[]) (a:=20) (b:=(l.length:Int)) (by rw[a01]) (by rw[lN];omega) (by omega) (by omega);have A:Z2.length=l.length-20:=by rw[r.perm.length_eq,y]
 rw[a01]at g;have i:Stb l (Z1++Z2):=by
  have b1:=q.ctx [] (l.drop 20);have b2:=r.ctx Z1 [];simp only[a05,a01]at b1 b2;rw[o]at b1;exact b1.trans b2
 have j:wrap .i64 ((20:Int)+20)=40:=by decide
 have m:wrap .i64 ((2:Int)*20)=40:=by decide
 have n:wrap .i64 ((20:Int)*2)=40:=by decide
 have C:wrap .i64 ((0:Int)+20)=20:=by decide
 have first:x0w a0X ((l.length:Int),(),(20:Int),(0:Int),(20:Int),l,())=some ((l.length:Int),(),(20:Int),(20:Int),Z1++l.drop 20,()):=by
  rw[a1t (s':=((l.length:Int),(),(20:Int),(20:Int),(40:Int),Z1++l.drop 20,())) ?_];refine a1c ?_
  unfold a0X;simp only;rw[decide_eq_false (by omega)];rfl;unfold a0X;simp only;rw[decide_eq_true (by omega),c,j];rfl
 by_cases he:l.length=20
 have e:Z2=[]:=a24.1 (by omega);subst e;rw[a01]at i g;refine⟨Z1,?_,a1,i⟩;refine a0E first ?_
 simp only;refine a0E g ?_
 refine a0E (v:=(Z1,())) ?_ rfl;refine a1c ?_
 unfold a0R;simp only;rw[decide_eq_false (by omega)];rfl;obtain⟨Z,f,u,B⟩:=a8S 64 (p:=[]) (X:=Z1) (Y:=Z2) (s:=[]) a1 t (a04.1 (by omega)) (a04.1 (by omega)) (by omega) (by simp only[lN,a03];omega);simp only[a05,a01,a03,a54]at f;refine⟨Z,?_,u,i.trans B⟩;refine a0E first ?_
 simp only;refine a0E g ?_
 have d:x0w a0R ((l.length:Int),(),(20:Int),Z1++Z2,())=some (Z,()):=by
  rw[a1t (s':=((l.length:Int),(),(40:Int),Z,())) ?_];refine a1c ?_
  unfold a0R;simp only;rw[decide_eq_false (by omega)];rfl;unfold a0R;simp only;rw[decide_eq_true (show(20:Int)<(l.length:Int)by omega),m];simp only[cT];refine a0E (v:=((l.length:Int),(),(20:Int),(0:Int),Z1++Z2,())) ?_ ?_
  refine a1c ?_
  unfold a2f;simp only;rw[decide_eq_false (by omega)];rfl;simp only;rw[C,decide_eq_true (show(20:Int)<(l.length:Int)by omega),n];simp only[cT];have w:((Z1.length:Nat):Int)=20:=by omega
  have x:((Z1.length+Z2.length:Nat):Int)=(l.length:Int):=by omega
  rw[w,x]at f;refine a0E f rfl
 refine a0E d rfl
theorem b2P{l:List Pk}(h:l.length<40):∃Z,a0S (l,())=some Z∧Asc Z∧Stb l Z:=by
 obtain⟨Z,g,f,a⟩:=b1t h;exact⟨Z,by unfold a0S;exact a0E g rfl,f,a⟩
def a2B:Nat→Nat→List Int
 |_,0=>[]
 |n,k+1=>((n%256:Nat):Int)::a2B (n / 256) k
def a0P(n k:Nat):List Int:=(a2B n k).reverse
theorem a5i:∀(k n:Nat),(a2B n k).length=k
 |0,_=>rfl
 |k+1,n=>by rw[a2B,lC,a5i k]
theorem a6R:∀(k n:Nat),∀b∈a2B n k,0≤b∧b<256
 |0,_,b,h=>by cases h
 |k+1,n,b,h=>by
  rcases mC.1 h with rfl|h;omega;exact a6R k _ b h
theorem a6S:∀(k n:Nat),a2B n (k+1)=a2B n k++[((n / 256^k%256:Nat):Int)]
 |0,n=>by simp[a2B]
 |k+1,n=>by
  rw[a2B,a6S k,a2B,a09,a73,a56,Nat.mul_comm 256]
theorem a0H(n k:Nat):(a0P n k).length=k:=by rw[a0P,List.length_reverse,a5i]
theorem a7R(n k:Nat):∀b∈a0P n k,0≤b∧b<256:=fun b h=>a6R k n b (List.mem_reverse.1 h)
theorem a3j(h:n<18446744073709551616):wrap .u64 (n:Int)=n:=by
 simp only[wrap,IntKind.bits,IntKind.signed]
 simp
 omega
theorem b0Q(h:n<256):wrap .u8 (n:Int)=n:=by
 simp only[wrap,IntKind.bits,IntKind.signed]
 simp
 omega
theorem b2g{k:Nat}(g:n<18446744073709551616)(m:k≤8):a4j ((n:Int),(k:Int))=some (a2B n k):=by
 unfold a4j;have d:a2k (k:Int)=some (k:Int):=by
  unfold a2k x0t x0s;have a:¬ (8:Int)<(k:Int):=by omega
  have c:¬ (k:Int)<0:=by omega
  congr 1;simp[a,c]<;>omega
 simp only[d,oB]
 have:=a0O (f:=a3m) (fun i=>(((n / 256^i:Nat):Int),(k:Int),(i:Int),a2B n i,())) k (b:=(a2B n k,())) (fun i hi=>?_) ?_
 rw[Nat.pow_zero,Nat.div_one]at this;refine a0E this rfl;unfold a3m;simp only;have l:n / 256^i<18446744073709551616:=b04 (b24 _ _) g;have e:b25 ((n / 256^i:Nat):Int) 256=((n / 256^(i+1):Nat):Int):=by
  rw[a56,←a73];exact Int.tdiv_eq_ediv_of_nonneg (a85 _)
 have j:a28 ((n / 256^i:Nat):Int) 256=((n / 256^i%256:Nat):Int):=by
  exact a89 (a85 _)
 have h:n / 256^(i+1)<18446744073709551616:=b04 (b24 _ _) g;rw[e,j,a3j h,b0Q (Nat.mod_lt _ (by decide)),a5i,a0G (by omega),decide_eq_true (show(i:Int)<(k:Int)by omega),a6S,w64 (by omega)];rfl;unfold a3m;simp only;rw[decide_eq_false (by omega)];rfl
theorem a5t{k:Nat}(g:n<18446744073709551616)(h:k≤8):a1S ((n:Int),(k:Int))=some (a0P n k):=by
 unfold a1S;simp only[b2g g h,oB];unfold a2a;rw[decide_eq_true (by rw[a5i];omega)];rfl
def a2s(p:Pk):Int:=bits .u8 .or (bif p.2.2.2.1 then 1 else 0) (bif p.2.2.2.2.1 then 2 else 0)
def a0K(p:Pk):List Int:=[wrap .u8 p.1,a2s p]++(a0P p.2.1.toNat 8++(a0P p.2.2.1.toNat 8++p.2.2.2.2.2.1))
theorem a3M(p:Pk):(a0K p).length=18+p.2.2.2.2.2.1.length:=by
 simp only[a0K,lN,a0H,lC,a03];omega
theorem b1u{p:Pk}{s:Int}(h:PkOk s p)(x:0≤s)(y:s<4):a4q p=some (a0K p,0):=by
 obtain⟨d,g,f,b,a,w,u⟩:=p;obtain⟨c,j,l,m,o,q,r⟩:=h;simp only at c j l m o q r;subst c;have t:wrap .u64 g=((g.toNat:Nat):Int):=by
  have:=a3j (n:=g.toNat) (by omega)
  rwa [show((g.toNat:Nat):Int)=g by omega]at this⊢
 have v:wrap .u64 f=((f.toNat:Nat):Int):=by
  have:=a3j (n:=f.toNat) (by omega)
  rwa [show((f.toNat:Nat):Int)=f by omega]at this⊢
 have b1:=a5t (n:=g.toNat) (k:=8) (by omega) (by omega);have b2:=a5t (n:=f.toNat) (k:=8) (by omega) (by omega);have e:a1K (b,1)=some (bif b then 1 else 0):=by cases b<;>rfl
 have i:a1K (a,2)=some (bif a then 2 else 0):=by cases a<;>rfl
 unfold a4q;simp only;rw[decide_eq_false (show ¬ d<0 by omega),decide_eq_false (show ¬ d≥4 by omega),decide_eq_false (show ¬ g<0 by omega),decide_eq_false (show ¬ g > 1125899906842624 by omega),decide_eq_false (show ¬ f<0 by omega),decide_eq_false (show ¬ f > 1125899906842624 by omega)];simp only[cF,oB];rw[decide_eq_false (show ¬ ((w.length:Nat):Int) > 65536 by omega)];simp only[cF,e,i,t,v,oB];rw[show((8:Nat):Int)=8 from rfl]at b1 b2;simp only[b1,b2,oB,a0H,a20,lN,lC,a03];rw[a0G (by omega),a0G (by omega),a0G (by omega)];simp only[cT,a0K,a2s,aA]
structure StrOk (n:Nat) (L:List (List Pk)):Prop where
 one:1≤L.length
 four:L.length≤4
 ok:∀(i:Nat) l,L[i]?=some l→PksOk (i:Int) n l
theorem a8U(B:a1y (r+233) t)(A:n≤8):∃L j,a1M (t,(n:Int))=some (L,j)∧StrOk n L∧a1y r j:=by
 unfold a1M;obtain⟨a,D,u,a1,b1,x⟩:=a1q B (show(0:Int)<4 by decide);have v:wrap .i64 (1+a)=1+a:=w64 (by omega);simp only[u,oB,v];refine a1V (f:=a1Z) (fun i h=>h.1=(n:Int)∧h.2.1=(i:Int)∧(h.2.2.1.length:Int)+i=1+a∧(∀(i:Nat) l,h.2.2.1[i]?=some l→PksOk (i:Int) n l)∧a1y (r+58*i) h.2.2.2.1)
  (fun w=>StrOk n w.1∧a1y r w.2.1) (1+a).toNat (n,1+a,[],D,()) ⟨rfl,by simp only;omega,by simp only[a03];omega,by simp,x.mono (by omega)⟩ (fun w C p=>?_) (fun i h c=>?_)
 rw[C];exact⟨_,_,rfl,p.1,p.2⟩;obtain⟨q,E,F,m,o⟩:=c;unfold a1Z
 by_cases hp:h.2.1 > 0
 left;obtain⟨l,j,e,y,d⟩:=a8P (r:=r+58*(i-1)) (s:=(h.2.2.1.length:Int)) (o.mono (by omega)) A;rw[decide_eq_true hp,q];simp only[cT,oB,e];rw[a0G (by omega)];refine⟨_,i-1,rfl,by omega,rfl,?_,?_,?_,d⟩;show wrap .i64 (h.2.1-1)=_;rw[w64 (by omega)];omega;show((h.2.2.1.append [_]).length:Int)+_=_;simp only[a20,lN,a06];omega;intro k z g;have g:(h.2.2.1++[l])[k]?=some z:=g
 by_cases hk:k<h.2.2.1.length
 rw[a40 hk]at g;exact m k z g;rw[a30 (by omega)]at g;have b:k-h.2.2.1.length=0:=by
  have:=(lS.1 g).1
  simpa using this
 rw[b]at g;cases g
 have:k=h.2.2.1.length:=by omega
 rw[this];exact y;right;rw[decide_eq_false hp];exact⟨_,rfl,⟨by show 1≤h.2.2.1.length;omega,by show h.2.2.1.length≤4;omega,m⟩,o.mono (by omega)⟩
abbrev Inf:Type:=Int×((Int×(Int×Unit))×((Int×(Int×(Int×Unit)))×(Int×(Int×(Int×(Int×Unit))))))
variable {a:List Inf}
inductive InfOk:Inf→Prop where
 |sound (n d r c b:Int) (hn:1≤n∧n≤1048576) (hd:1≤d∧d≤1048576) (hr:1≤r∧r≤1048576) (hc:1≤c∧c≤8) (hb:b=4∨b=8∨b=16∨b=24):InfOk (1,((n,(d,())),((r,(c,(b,()))),(0,(0,(0,(0,())))))))
 |images (n d w h e p:Int) (hn:1≤n∧n≤1048576) (hd:1≤d∧d≤1048576) (hw:1≤w∧w≤64) (hh:1≤h∧h≤64) (he:1≤e∧e≤16) (hp:1≤p∧p≤4):InfOk (2,((n,(d,())),((0,(0,(0,()))),(w,(h,(e,(p,())))))))
theorem b1v{i:Inf}(h:InfOk i):a3T i=some true:=by
 cases h with
 |sound n d r c b hn hd hr hc hb=>
  have g:a5d b=some true:=by rcases hb with rfl|rfl|rfl|rfl<;>kernel_rfl
  simp only[a3T,a5g,a5e,decide_eq_true hn.1,decide_eq_true hn.2,decide_eq_true hd.1,decide_eq_true hd.2,decide_eq_true hr.1,decide_eq_true hr.2,decide_eq_true hc.1,decide_eq_true hc.2,g,ge_iff_le];rfl
 |images n d w h e p hn hd hw hh he hp=>
  simp only[a3T,a5g,a2G,decide_eq_true hn.1,decide_eq_true hn.2,decide_eq_true hd.1,decide_eq_true hd.2,decide_eq_true hw.1,decide_eq_true hw.2,decide_eq_true hh.1,decide_eq_true hh.2,decide_eq_true he.1,decide_eq_true he.2,decide_eq_true hp.1,decide_eq_true hp.2,ge_iff_le];rfl
theorem a7S(a:a1y (r+1) t):∃n d t',a1I t=some ((n,d,()),t')∧(1≤n∧n≤1048576)∧(1≤d∧d≤1048576)∧a1y r t':=by
 unfold a1I;obtain⟨v,b,g,a1,b1,f⟩:=a1q a (show(0:Int)<6 by decide);simp only[g,oB,decide_eq_true a1,decide_eq_true b1,a11,cT]
 have:a13 v=0∨a13 v=1∨a13 v=2∨a13 v=3∨a13 v=4∨a13 v=5:=by omega
 rcases this with h|h|h|h|h|h<;>rw[h]<;>exact⟨_,_,_,rfl,by decide,by decide,f⟩
theorem a9K{k:Nat}(p:a1y (k+3) t):∃r c b t',a1R t=some ((r,c,b,()),t')∧(1≤r∧r≤1048576)∧(1≤c∧c≤8)∧(b=4∨b=8∨b=16∨b=24)∧a1y k t':=by
 unfold a1R;obtain⟨f,u,i,a1,b1,m⟩:=a1q p (show(0:Int)<50000 by decide);obtain⟨a,t2,j,s,b2,n⟩:=a1q m (show(0:Int)<3 by decide);obtain⟨g,v,l,d,e,o⟩:=a1q n (show(0:Int)<4 by decide);simp only[i,j,l,oB,decide_eq_true d,decide_eq_true e,a11,cT];have q:wrap .i64 (1+f)=1+f:=w64 (by omega);have w2:wrap .i64 (1+a)=1+a:=w64 (by omega);rw[q,w2]
 have:a13 g=0∨a13 g=1∨a13 g=2∨a13 g=3:=by omega
 rcases this with h|h|h|h<;>rw[h]<;>exact⟨_,_,_,_,rfl,by omega,by omega,by decide,o⟩
theorem b2h(ht:a1y (r+257) t)(hn:n≤8):∃a L l,a4U (t,(n:Int))=some (a,L,l)∧a.length=L.length∧(∀i∈a,InfOk i)∧StrOk n L∧a1y r l:=by
 unfold a4U;obtain⟨L,t1,O,z,X⟩:=a8U (r:=r+24) ht hn;have g:=z.four;simp only[O,oB];refine a1V (f:=a4L) (fun i h=>h.1+(i:Int)=(L.length:Int)∧0≤h.1∧h.2.1=L∧(h.2.2.1.length:Int)=h.1∧(∀i∈h.2.2.1,InfOk i)∧a1y (r+6*i) h.2.2.2.1)
  (fun w=>w.1=L∧w.2.1.length=L.length∧(∀i∈w.2.1,InfOk i)∧a1y r w.2.2.1) L.length (0,L,[],t1,()) ⟨by simp,by simp,rfl,by simp,by simp,X.mono (by omega)⟩ (fun w hw hQ=>?_) (fun i h A=>?_)
 rw[hw];obtain⟨N,q2,q3,C⟩:=hQ;exact⟨w.2.1,w.1,w.2.2.1,rfl,by rw[N];exact q2,q3,by rw[N];exact z,C⟩;obtain⟨c1,c2,m,c4,I,K⟩:=A;have h4:=z.four;unfold a4L
 by_cases hp:h.1<(h.2.1.length:Int)
 left;rw[m]at hp;have T:wrap .i64 (h.1+1)=h.1+1:=w64 (by omega);have done:∀(x:Inf)(l:a4D),InfOk x→a1y (r+6*(i-1)) l→∃s' j,some (Sum.inl (β:=List (List Pk)×(List Inf×(a4D×Unit))) (h.1+1,L,a96 h.2.2.1 [x],l,()))=some (.inl s')∧j<i∧(s'.1+(j:Int)=(L.length:Int)∧0≤s'.1∧s'.2.1=L∧(s'.2.2.1.length:Int)=s'.1∧(∀i∈s'.2.2.1,InfOk i)∧a1y (r+6*j) s'.2.2.2.1):=by
  intro x l hx B;refine⟨_,i-1,rfl,by omega,by show h.1+1+((i-1:Nat):Int)=_;omega,by show 0≤h.1+1;omega,rfl,?_,?_,B⟩;show((h.2.2.1.append [_]).length:Int)=_;simp only[a20,lN,a06];omega;intro p e;rcases mA.1 (show p∈h.2.2.1++[_]from e)with e|e;exact I p e;rw[a23]at e;rw[e];exact hx
 obtain⟨D,t2,P,a2,b2,M⟩:=a1q (r:=r+6*(i-1)+5) (K.mono (by omega)) (show(0:Int)<2 by decide);rw[m,decide_eq_true hp];simp only[cT,oB,P,T]
 by_cases hv:D=0
 obtain⟨n1,o,t3,q,u,v,y⟩:=a7S M;obtain⟨r9,c,b,t4,s,U,V,W,g⟩:=a9K y;have d:(D==0)=true:=by simp[hv]
 simp only[d,cT,q,s,oB];rw[a0G (by omega)];exact done _ _ (.sound n1 o r9 c b u v U V W) (g.mono (by omega));obtain⟨n1,o,t3,q,u,v,y⟩:=a7S M;obtain⟨E,t4,s,a4,b4,g⟩:=a1q y (show(0:Int)<64 by decide);obtain⟨F,t5,Q,a5,b5,Y⟩:=a1q g (show(0:Int)<64 by decide);obtain⟨G,t6,R,a6,b6,Z⟩:=a1q Y (show(0:Int)<16 by decide);obtain⟨H,t7,S,a7,b7,h7⟩:=a1q Z (show(0:Int)<4 by decide);have d:(D==0)=false:=by simp[hv]
 have C:wrap .i64 (1+E)=1+E:=w64 (by omega);have q5:wrap .i64 (1+F)=1+F:=w64 (by omega);have q6:wrap .i64 (1+G)=1+G:=w64 (by omega);have q7:wrap .i64 (1+H)=1+H:=w64 (by omega);simp only[d,cF,q,s,Q,R,S,oB,C,q5,q6,q7];rw[a0G (by omega)];exact done _ _ (.images n1 o (1+E) (1+F) (1+G) (1+H) u v (by omega) (by omega) (by omega) (by omega)) h7;right;rw[decide_eq_false hp];rw[m]at hp;exact⟨_,rfl,m,by show h.2.2.1.length=_;omega,I,K.mono (by omega)⟩
theorem a5Y(h:x.length<1000000):a2l x=some x:=by
 unfold a2l;rw[a0G (by omega)];cases x with
 |nil=>exact w0u _
 |cons a x=>rfl
theorem a1o{l:List α}{k:Nat}(h:k<l.length):n0o l (k:Int)=some l[k]:=by
 unfold n0o;rw[if_pos (by omega),tN,lG h]
theorem b3G{L':List (List Pk)}{n k s:Int}{ps:List Pk}(g:0≤s)(a:s<4)(h:∀p∈ps,PkOk s p)(b:ps.length<1000):
  x0w a2Z (L,s,L',n,k,ps,((ps.length:Nat):Int),(0:Int),())=some (.inl (L,L',n,k,())):=by
 refine a0O (f:=a2Z) (fun i=>(L,s,L',n,k,ps,((ps.length:Nat):Int),(i:Int),())) ps.length (fun i hi=>?_) ?_
 unfold a2Z;simp only;have hp:=h ps[i] (a17 hi);rw[decide_eq_true (show(i:Int)<((ps.length:Nat):Int)by omega),a1o hi];simp only[cT,oB,b1u hp g a,hp.st,bne_self_eq_false,cF];rw[w64 (by omega)];rfl;unfold a2Z;simp only;rw[decide_eq_false (by omega)];rfl
theorem b3H{n k:Int}{ps out:List Pk}{s:Int}{m:Nat}(h:PksOk s m ps)(c:out.length+ps.length<1000):
  x0w a3a (ps,L,n,k,ps,((ps.length:Nat):Int),(0:Int),out,())=some (.inl (L,n,k,out++ps,())):=by
 have:=a0O (f:=a3a) (fun i=>(ps,L,n,k,ps,((ps.length:Nat):Int),(i:Int),out++ps.take i,())) ps.length (b:=.inl (L,n,k,out++ps,())) (fun i hi=>?_) ?_
 rw[a43,a01]at this;exact this;unfold a3a;simp only;have hp:=h.ok ps[i] (a17 hi);have g:a4k ps[i]=some ps[i]:=by
  unfold a4k;rw[a5Y (by have:=hp.dat;omega)];rfl
 have a:wrap .i64 ((i:Int)+1)=((i+1:Nat):Int):=by rw[w64 (by omega)];omega
 rw[decide_eq_true (show(i:Int)<((ps.length:Nat):Int)by omega),a1o hi];simp only[cT,oB];refine a0E (v:=(ps,L,n,k,ps,((ps.length:Nat):Int),(i:Int),false,out++ps.take i,ps[i],()) ) ?_ ?_
 by_cases h0:i=0
 subst h0;rfl;rw[decide_eq_true (show(i:Int) > 0 by omega)];have w2:wrap .i64 ((i:Int)-1)=((i-1:Nat):Int):=by rw[w64 (by omega)];omega
 rw[w2,a1o (show i-1<ps.length by omega)]
 have:=a69.1 h.asc (i-1) i (by omega) hi (by omega)
 simp only[cT,oB];rw[decide_eq_false (by omega)];simp only[cF,g,oB,a];rw[a0G (by simp only[lN,a00];omega),a07 hi];simp only[cT,a20,aA];unfold a3a;simp only;rw[decide_eq_false (by omega),a14];rfl
theorem a5Z{m:Nat}:∀{L:List (List Pk)},(∀l∈L,l.length≤m)→L.flatten.length≤m*L.length
 | [],_=>by simp
 |l::L,h=>by
  have f:=h l (by simp);have a:=a5Z (L:=L) fun l g=>h l (by simp[g]);rw[List.flatten_cons,lN,lC,Nat.mul_succ];omega
theorem StrOk.lens(h:StrOk n L):∀l∈L,l.length≤n:=fun l g=>by
 obtain⟨i,hi⟩:=a34 g;exact(h.ok i l hi).len
theorem b2i(h:StrOk n L)(d:n≤8):∃Z,a2T L=some (Z,0)∧Asc Z∧Stb L.flatten Z:=by
 have e:=h.four;have t:=h.one;have i:L.flatten.length≤32:=by
  have:=a5Z h.lens
  have:n*L.length≤8*4:=a97 d e
  omega
 obtain⟨Z,p,r,s⟩:=b2P (l:=L.flatten) (by omega);refine⟨Z,?_,r,s⟩;unfold a2T;rw[decide_eq_false (show ¬ ((L.length:Nat):Int)<1 by omega),decide_eq_false (show ¬ ((L.length:Nat):Int) > 4 by omega)];simp only[cF,oB];refine a0E (v:=.inl (L,())) ?_ ?_
 refine a0O (f:=a3R) (fun k=>(L,L,((L.length:Nat):Int),(k:Int),())) L.length (fun k a=>?_) ?_
 unfold a3R;simp only;have g:=h.ok k L[k] (lG a);have c:=g.len;rw[decide_eq_true (show(k:Int)<((L.length:Nat):Int)by omega),a1o a];simp only[cT,oB];rw[b3G (by omega) (by omega) g.ok (by omega)];simp only[oB];rw[w64 (by omega)];rfl;unfold a3R;simp only;rw[decide_eq_false (by omega)];rfl;simp only;refine a0E (v:=.inl (L.flatten,())) ?_ ?_
 have:=a0O (f:=a3S) (fun k=>(L,((L.length:Nat):Int),(k:Int),(L.take k).flatten,())) L.length (b:=.inl (L.flatten,())) (fun k a=>?_) ?_
 exact this;unfold a3S;simp only;have g:=h.ok k L[k] (lG a);have c:=g.len;have j:(L.take k).flatten.length≤32:=by
  have q:=a5Z (m:=n) (L:=L.take k) fun l o=>h.lens l (a27 o)
  have:n*(L.take k).length≤8*4:=a97 d (by rw[a00];omega)
  omega
 rw[decide_eq_true (show(k:Int)<((L.length:Nat):Int)by omega),a1o a];simp only[cT,oB];rw[b3H g (by omega)];simp only[oB];rw[w64 (by omega),a07 a,List.flatten_append,List.flatten_singleton];rfl;unfold a3S;simp only;rw[decide_eq_false (by omega),a14];rfl;simp only;refine a0E p rfl
abbrev Pge:Type:=Int×(Bool×(Bool×(Bool×(List Int×Unit))))
variable {g l:List Pge}{p:Pge}
def a1H(first:Bool)(seq:Nat)(r:List Int):List Pge:=
 if h:r=[]then[]else((seq:Int),first,decide (r.length≤252),false,r.take 252,())::a1H false (seq+1) (r.drop 252)
termination_by r.length
decreasing_by
 have:=a04.2 h
 rw[a02];omega
theorem a2C(first:Bool)(seq:Nat):a1H first seq []=[]:=by rw[a1H,dif_pos rfl]
theorem a2v{first:Bool}{seq:Nat}{r:List Int}(h:r≠[]):a1H first seq r=((seq:Int),first,decide (r.length≤252),false,r.take 252,())::a1H false (seq+1) (r.drop 252):=by rw[a1H,dif_neg h]
theorem a4M:∀(n:Nat)(first:Bool)(seq:Nat)(r:List Int),r.length≤n→(a1H first seq r).length≤r.length
 |0,first,seq,r,h=>by
  have:r=[]:=a24.1 (by omega)
  rw[this,a2C];exact a08 _
 |n+1,first,seq,r,h=>by
  by_cases hr:r=[]
  rw[hr,a2C];exact a08 _
  have:=a04.2 hr
  rw[a2v hr,lC]
  have:=a4M n false (seq+1) (r.drop 252) (by rw[a02];omega)
  rw[a02]at this;omega
def a0N:Nat→List (List Int)→List Pge
 |_,[]=>[]
 |seq,b::bs=>a1H true seq b++a0N (seq+(a1H true seq b).length) bs
theorem b3I{b:List Int}{n k:Int}{laid:List (List Int)}{pages:List Pge}(s:b≠[])(t:pages.length+b.length<1000000):
  x0w a3C ((0:Int),b,(0:Int),n,k,pages,laid,())=some (.inl ((0:Int),n,k,pages++a1H true pages.length b,laid,())):=by
 refine a1V (f:=a3C) (fun m e=>∃(i:Nat)(Q:List Pge),m=(b.drop i).length∧i≤b.length+252∧e=((0:Int),b,(i:Int),n,k,Q,laid,())∧Q.length+(b.drop i).length≤pages.length+b.length∧Q++a1H (decide (i=0)) Q.length (b.drop i)=pages++a1H true pages.length b)
  (fun w=>w=.inl ((0:Int),n,k,pages++a1H true pages.length b,laid,()))
  b.length ((0:Int),b,(0:Int),n,k,pages,laid,()) ⟨0,pages,rfl,by omega,rfl,a08 _,rfl⟩ (fun w q o=>by rw[q,o]) (fun m e d=>?_)
 obtain⟨i,Q,rfl,hi,rfl,u,c⟩:=d;have v:(b.drop i).length=b.length-i:=a02;unfold a3C;simp only
 by_cases hlt:i<b.length
 left;have p:b.drop i≠[]:=a04.1 (by omega);rw[decide_eq_true (show(i:Int)<((b.length:Nat):Int)by omega)];have r:wrap .i64 ((0:Int)+((Q.length:Nat):Int))=((Q.length:Nat):Int):=by rw[w64 (by omega)];omega
 have w2:wrap .i64 ((i:Int)+252)=((i+252:Nat):Int):=by rw[w64 (by omega)];omega
 have a:x0t ((i+252:Nat):Int) ((b.length:Nat):Int)=((min (i+252) b.length:Nat):Int):=by
  unfold x0t
  by_cases hc:((b.length:Nat):Int)<((i+252:Nat):Int)
  rw[decide_eq_true hc,a68 (by omega)];rfl;rw[decide_eq_false hc,a58 (by omega)];rfl
 rw[r,w2,a,decide_eq_false (show ¬ ((Q.length:Nat):Int) > 2147483647 by omega)];have g:a36 (a13 (i:Int)) (a42 (a13 ((min (i+252) b.length:Nat):Int)) b)=(b.drop i).take 252:=by
  rw[tN,tN,b26]
  by_cases hc:i+252<b.length
  rw[a58 (by omega),show i+252-i=252 by omega];rw[a68 (by omega),a29 (by omega),a29 (by omega)]
 rw[g,a5Y (by rw[a00];omega),tN,a0G (show Q.length+1<2147483648 by omega)];rw[decide_eq_true (show(0:Int)≤((min (i+252) b.length:Nat):Int)by omega),decide_eq_true (show((min (i+252) b.length:Nat):Int)≤((b.length:Nat):Int)by omega),decide_eq_true (show(0:Int)≤(i:Int)by omega),decide_eq_true (show(i:Int)≤((min (i+252) b.length:Nat):Int)by omega)];have j:((i:Int)==0)=decide (i=0):=by
  by_cases h:i=0
  rw[h];rfl;rw[decide_eq_false h];simp;omega
 have l:(((min (i+252) b.length:Nat):Int)==((b.length:Nat):Int))=decide ((b.drop i).length≤252):=by
  by_cases h:(b.drop i).length≤252
  rw[decide_eq_true h];simp;omega;rw[decide_eq_false h];simp;omega
 rw[j,l];simp only[cT,cF,a11,oB];refine⟨_,(b.drop (i+252)).length,rfl,by simp only[a02];omega,i+252,Q++[((Q.length:Int),decide (i=0),decide ((b.drop i).length≤252),false,(b.drop i).take 252,())],rfl,by omega,rfl,?_,?_⟩;simp only[lN,a06,a02];omega;rw[←c,a2v p,b27];simp only[aA,a41,lN,a06];rw[decide_eq_false (show ¬ i+252=0 by omega)];right;rw[decide_eq_false (show ¬ (i:Int)<((b.length:Nat):Int)by omega)];have h:b.drop i=[]:=a33.2 (by omega);rw[h,a2C,a01]at c;refine⟨_,rfl,?_⟩;rw[c]
def a4N(p:Pk):Prop:=∃s,PkOk s p∧0≤s∧s<4
theorem a5K(p:Pk):a0K p≠[]:=a04.1 (by rw[a3M];omega)
theorem a7p:∀(bs:List (List Int)) (seq:Nat) (m:Nat),(∀b∈bs,b.length≤m)→(a0N seq bs).length≤m*bs.length
 | [],_,_,_=>by simp[a0N]
 |b::bs,seq,m,h=>by
  have f:=a7p bs (seq+(a1H true seq b).length) m fun c g=>h c (by simp[g]);have a:=a4M b.length true seq b (a08 _);have d:=h b (by simp);rw[a0N,lN,lC,Nat.mul_succ];omega
theorem a8V{bs:List (List Int)}:∀(rest done:List (List Int)) (pages:List Pge),done++rest=bs→(∀b∈rest,b≠[]∧b.length≤1000)→pages.length+1000*rest.length<1000000→bs.length<1000→
  x0w a2L ((0:Int),((bs.length:Nat):Int),((done.length:Nat):Int),pages,bs,())=some (.inl (pages++a0N pages.length rest,()))
 | [],done,pages,he,_,_,_=>by
  rw[a01]at he;subst he;refine a1c ?_
  unfold a2L;simp only;rw[decide_eq_false (by omega),a0N,a01];rfl
 |b::rest,done,pages,he,hb,hl,hn=>by
  have g:bs.length=done.length+(rest.length+1):=by rw[←he,lN,lC]
  obtain⟨h,f⟩:=hb b (by simp);have d:=a4M b.length true pages.length b (a08 _);have e:a26 bs (a13 ((done.length:Nat):Int)) ([]:List Int)=b:=by
   rw[←he];exact a4Y done rest b [] rfl
  rw[lC]at hl;have step:a2L ((0:Int),((bs.length:Nat):Int),((done.length:Nat):Int),pages,bs,())=some (.inl ((0:Int),((bs.length:Nat):Int),(((done++[b]).length:Nat):Int),pages++a1H true pages.length b,bs,())):=by
   unfold a2L;simp only;rw[decide_eq_true (show((done.length:Nat):Int)<((bs.length:Nat):Int)by omega),decide_eq_true (show(0:Int)≤((done.length:Nat):Int)by omega),e];simp only[cT,a11];rw[b3I h (by omega)];simp only[oB];rw[w64 (by omega),lN];rfl
  rw[a1t step,a8V rest (done++[b]) (pages++a1H true pages.length b) (by rw[←he,aA];rfl) (fun c a=>hb c (by simp[a])) (by rw[lN];omega) hn];rw[a0N,aA,lN]
theorem b2j{l:List Pk}(h:∀p∈l,a4N p)(n:l.length<40):a3b (l,0)=some (a0N 0 (l.map a0K),0):=by
 unfold a3b;simp only;rw[decide_eq_false (show ¬ (0:Int)<0 by decide),decide_eq_false (show ¬ (0:Int) > 2147483647 by decide)];simp only[cF,oB];rw[decide_eq_true (show(0:Int)≤((l.length:Nat):Int)by omega),decide_eq_true (Int.le_refl ((l.length:Nat):Int)),tN,a0G (by omega)];simp only[cT,a11];refine a0E (v:=.inl ((0:Int),l.map a0K,())) ?_ ?_
 have:=a0O (f:=a3B) (fun i=>((0:Int),l,((l.length:Nat):Int),(i:Int),(l.take i).map a0K++b28 (l.length-i) ([]:List Int),())) l.length (b:=.inl ((0:Int),l.map a0K,())) (fun i hi=>?_) ?_
 exact this;unfold a3B;simp only;obtain⟨s,hp,c,d⟩:=h l[i] (a17 hi);have a:((l.take i).map a0K).length=i:=by rw[a59,a00];omega
 have g:((l.take i).map a0K++b28 (l.length-i) ([]:List Int)).length=l.length:=by rw[lN,a,List.length_replicate];omega
 rw[decide_eq_true (show(i:Int)<((l.length:Nat):Int)by omega),a1o hi];simp only[cT,oB,b1u hp c d,bne_self_eq_false,cF];rw[g,decide_eq_true (show(0:Int)≤(i:Int)by omega),decide_eq_true (show(i:Int)<((l.length:Nat):Int)by omega),tN];simp only[cT,a11];rw[w64 (by omega),a60 _ _ (by omega),a,a67];obtain⟨r,j⟩:∃r,l.length-i=r+1:=⟨l.length-i-1,by omega⟩;rw[j,List.replicate_succ,b03,a07 hi,pA,show l.length-(i+1)=r by omega];simp only[aA,a71,b08,a41];rfl;unfold a3B;simp only;rw[decide_eq_false (by omega),a14,a67,List.replicate_zero,a01];rfl;simp only
 have:=a8V (bs:=l.map a0K) (l.map a0K) [] [] rfl (fun b e=>by
  obtain⟨p,hp,rfl⟩:=List.mem_map.1 e;obtain⟨s,m,-⟩:=h p hp;exact⟨a5K p,by rw[a3M];have:=m.dat;omega⟩) (by rw[a03,a59];omega) (by rw[a59];omega)
 refine a0E (v:=.inl (a0N 0 (l.map a0K),())) ?_ rfl;exact this
theorem b2Q{l:List Int}(n:l.length<1000000):∃v,a1l l=some (bits .u32 .xor (IntKind.max .u32) v):=by
 unfold a1l;refine a1V (f:=a3z) (fun k a=>∃(v:Int)(i:Nat),a=(v,l,((l.length:Nat):Int),(i:Int),())∧i+k=l.length) (fun _=>True) l.length ((4294967295:Int),l,((l.length:Nat):Int),(0:Int),()) ⟨_,0,rfl,by omega⟩ (fun w b _=>⟨w.1,by rw[b];rfl⟩) (fun k a g=>?_);obtain⟨v,i,rfl,hi⟩:=g;unfold a3z;simp only
 by_cases h:i<l.length
 ·left;rw[decide_eq_true (show(i:Int)<((l.length:Nat):Int)by omega),a1o h];simp only[cT,oB];refine a1V (f:=a3y) (fun m a=>∃(u:Int)(j:Nat),a=(u,l,((l.length:Nat):Int),(i:Int),(j:Int),())∧j+m=8) (fun w=>∃u:Int,w=(u,l,((l.length:Nat):Int),(i:Int),())) 8 (bits .u32 .xor v (wrap .u32 l[i]),l,((l.length:Nat):Int),(i:Int),(0:Int),()) ⟨_,0,rfl,rfl⟩ (fun w b c=>?_) (fun m a g=>?_);obtain⟨u,rfl⟩:=c;rw[b];simp only[oB];rw[w64 (by omega)];exact⟨_,k-1,rfl,by omega,u,i+1,rfl,by omega⟩
  ·obtain⟨u,j,rfl,e⟩:=g;unfold a3y;simp only
   by_cases h8:j<8
   ·left;have d:wrap .i64 ((j:Int)+1)=((j+1:Nat):Int):=by rw[w64 (by omega)];omega
    rw[decide_eq_true (show(j:Int)<8 by omega),d];simp only[cT];cases (bits .u32 .and u (1:Int))==(1:Int)with
    |true=>exact⟨_,m-1,rfl,by omega,_,j+1,rfl,by omega⟩
    |false=>exact⟨_,m-1,rfl,by omega,_,j+1,rfl,by omega⟩
   right;rw[decide_eq_false (show ¬ (j:Int)<8 by omega)];exact⟨_,rfl,u,rfl⟩
 right;rw[decide_eq_false (show ¬ (i:Int)<((l.length:Nat):Int)by omega)];exact⟨_,rfl,trivial⟩
def a0T(l:List Int):Int:=(a1l l).getD 0
theorem b5k(n:Int):0≤wrap .u32 n∧wrap .u32 n<4294967296:=by
 simp only[wrap,IntKind.bits,IntKind.signed]
 simp
 omega
theorem a5L{l:List Int}(h:l.length<1000000):a1l l=some (a0T l)∧0≤a0T l∧a0T l<4294967296:=by
 obtain⟨v,hv⟩:=b2Q h;have e:a0T l=bits .u32 .xor (IntKind.max .u32) v:=by rw[a0T,hv];rfl
 refine⟨by rw[e];exact hv,?_⟩;rw[e];exact b5k _
structure PgOk (p:Pge):Prop where
 s0:0≤p.1
 s1:p.1≤1000000
 b0:1≤p.2.2.2.2.1.length
 b1:p.2.2.2.2.1.length≤(bif p.2.2.2.1 then 255 else 252)
def pgH(p:Pge):List Int:=[75,80,bits .u8 .or (bits .u8 .or (bif p.2.1 then 1 else 0) (bif p.2.2.1 then 2 else 0)) (bif p.2.2.2.1 then 4 else 0)]++(a0P p.1.toNat 4++([wrap .u8 ((p.2.2.2.2.1.length:Nat):Int)]++p.2.2.2.2.1))
def pgB(p:Pge):List Int:=pgH p++a0P (a0T (pgH p)).toNat 4
theorem a6J(p:Pge):(pgH p).length=8+p.2.2.2.2.1.length:=by
 simp only[pgH,lN,a0H,lC,a03];omega
theorem a6K(p:Pge):(pgB p).length=12+p.2.2.2.2.1.length:=by
 rw[pgB,lN,a6J,a0H];omega
theorem a4O(h:PgOk p):a2y p=some (pgB p,0):=by
 obtain⟨m,o,q,c⟩:=h;have r:p.2.2.2.2.1.length≤255:=by
  revert c
  cases p.2.2.2.1<;>simp only[cT,cF]<;>omega
 have d:a1U p.2.2.2.1=some (((bif p.2.2.2.1 then 255 else 252:Nat):Nat):Int):=by
  unfold a1U;cases p.2.2.2.1<;>rfl
 have f:a1K (p.2.1,1)=some (bif p.2.1 then 1 else 0):=by cases p.2.1<;>rfl
 have a:a1K (p.2.2.1,2)=some (bif p.2.2.1 then 2 else 0):=by cases p.2.2.1<;>rfl
 have b:a1K (p.2.2.2.1,4)=some (bif p.2.2.2.1 then 4 else 0):=by cases p.2.2.2.1<;>rfl
 have i:wrap .u64 p.1=((p.1.toNat:Nat):Int):=by
  have:=a3j (n:=p.1.toNat) (by omega)
  rwa [show((p.1.toNat:Nat):Int)=p.1 by omega]at this⊢
 have b1:=a5t (n:=p.1.toNat) (k:=4) (by omega) (by omega);rw[show((4:Nat):Int)=4 from rfl]at b1;obtain⟨j,s,t⟩:=a5L (l:=pgH p) (by rw[a6J];omega);have e:wrap .u64 (a0T (pgH p))=(((a0T (pgH p)).toNat:Nat):Int):=by
  have:=a3j (n:=(a0T (pgH p)).toNat) (by omega)
  rwa [show(((a0T (pgH p)).toNat:Nat):Int)=a0T (pgH p)by omega]at this⊢
 have b2:=a5t (n:=(a0T (pgH p)).toNat) (k:=4) (by omega) (by omega);rw[show((4:Nat):Int)=4 from rfl]at b2;have g:a96 (a96 (a96 ([75,80,bits .u8 .or (bits .u8 .or (bif p.2.1 then 1 else 0) (bif p.2.2.1 then 2 else 0)) (bif p.2.2.2.1 then 4 else 0)]:List Int) (a0P p.1.toNat 4)) ([wrap .u8 ((p.2.2.2.2.1.length:Nat):Int)]:List Int)) p.2.2.2.2.1=pgH p:=by
  simp only[pgH,a20,aA]
 unfold a2y;rw[decide_eq_false (show ¬ p.1<0 by omega),decide_eq_false (show ¬ p.1 > 2147483647 by omega),decide_eq_false (show ¬ ((p.2.2.2.2.1.length:Nat):Int)<1 by omega)];simp only[cF,d,oB];rw[decide_eq_false (show ¬ ((p.2.2.2.2.1.length:Nat):Int) > (((bif p.2.2.2.1 then 255 else 252:Nat):Nat):Int)by omega)];simp only[cF,f,a,b,i,b1,oB,g,j,e,b2];simp only[a20,lN,a0H,a6J,lC,a03];rw[a0G (by omega),a0G (by omega),a0G (by omega),a0G (by omega)];rfl
theorem a8W(h:PgOk p):a2i p=some true:=by
 unfold a2i;rw[a4O h];rfl
theorem a7T(h:PgOk p):a2F p=some p:=by
 unfold a2F;have g:p.2.2.2.2.1.length≤255:=by
  have:=h.b1
  revert this
  cases p.2.2.2.1<;>simp only[cT,cF]<;>omega
 rw[a0G (by omega)];rfl
theorem b2k{to fr:List Int}(j:to.length<1000)(l:fr.length<1000):∃r,a3L (to,fr)=some (r,[])∧r.length=max to.length fr.length:=by
 unfold a3L;simp only;refine a1V (f:=a4r) (fun k a=>∃t:List Int,a=(fr,t,())∧to.length≤t.length∧t.length≤max to.length fr.length∧k=fr.length-t.length) (fun w=>∃t:List Int,w=(fr,t,())∧t.length=max to.length fr.length) (fr.length-to.length) (fr,to,()) ⟨to,rfl,a08 _,by omega,rfl⟩ (fun w c b=>?_) (fun k a g=>?_);obtain⟨t,rfl,e⟩:=b;rw[c];simp only[oB];refine a1V (f:=a4s) (fun k a=>∃(r:List Int)(i:Nat),a=(fr,((fr.length:Nat):Int),(i:Int),r,())∧r.length=max to.length fr.length∧i+k=fr.length) (fun w=>w.1.length=max to.length fr.length) fr.length (fr,((fr.length:Nat):Int),(0:Int),t,()) ⟨t,0,rfl,e,by omega⟩ (fun w c b=>⟨w.1,by rw[c];rfl,b⟩) (fun k a g=>?_);obtain⟨r,i,rfl,d,hi⟩:=g;unfold a4s;simp only
 by_cases h:i<fr.length
 left;rw[decide_eq_true (show(i:Int)<((fr.length:Nat):Int)by omega),a1o h];simp only[cT,oB];rw[decide_eq_true (show(0:Int)≤(i:Int)by omega),decide_eq_true (show(i:Int)<((r.length:Nat):Int)by omega),w64 (by omega)];exact⟨_,k-1,rfl,by omega,_,i+1,rfl,by rw[a72];exact d,by omega⟩;right;rw[decide_eq_false (show ¬ (i:Int)<((fr.length:Nat):Int)by omega)];exact⟨_,rfl,d⟩;obtain⟨t,rfl,m,n,rfl⟩:=g;unfold a4r;simp only
 by_cases h:t.length<fr.length
 left;rw[decide_eq_true (show((t.length:Nat):Int)<((fr.length:Nat):Int)by omega),a0G (by omega)];exact⟨_,fr.length-(t.length+1),rfl,by omega,t++[0],rfl,by rw[lN];omega,by rw[lN,a06];omega,by rw[lN,a06]⟩;right;rw[decide_eq_false (show ¬ ((t.length:Nat):Int)<((fr.length:Nat):Int)by omega)];exact⟨_,rfl,t,rfl,by omega⟩
theorem b1w(p:Pge):∃v,a3K p=some v:=by
 obtain⟨a,f,l,g,b,u⟩:=p;unfold a3K;cases f<;>cases l<;>exact⟨_,rfl⟩
structure PgPlain (p:Pge):Prop extends PgOk p where
 ng:p.2.2.2.1=false
theorem PgPlain.b2(h:PgPlain p):p.2.2.2.2.1.length≤252:=by
 have:=h.b1
 rw[h.ng]at this;exact this
theorem b2l(o:∀p∈g,PgPlain p)(c:g≠[])(B:g.length≤8):∃q sum v1 v2,a3c g=some q∧q=((g.head c).1,false,false,true,(((g.length:Nat):Int)::v1::v2::sum),())∧1≤sum.length∧sum.length≤252:=by
 have t:=a04.2 c;unfold a3c;refine a1V (f:=a4t) (fun k m=>∃(a b:Int)(i:Nat)(s:List Int)(z:Pge),m=(g,a,b,g,((g.length:Nat):Int),(i:Int),s,z,())∧i+k=g.length∧s.length≤252∧(0<i→1≤s.length)) (fun w=>∃(a b:Int)(s:List Int)(z:Pge),w=(g,a,b,s,z,())∧1≤s.length∧s.length≤252) g.length (g,(0:Int),(0:Int),g,((g.length:Nat):Int),(0:Int),([]:List Int),((0:Int),false,false,false,([]:List Int),()),()) ⟨0,0,0,[],_,rfl,by omega,by simp,by omega⟩ (fun w y n=>?_) (fun k m d=>?_);obtain⟨a,b,s,z,rfl,e,j⟩:=n;rw[y];simp only[oB];have A:n0o g (0:Int)=some (g.head c):=by
  have:=a1o (l:=g) (k:=0) t
  rw[show((0:Nat):Int)=0 from rfl]at this;rw[this,b00]
 rw[a0G (by omega),A,b0Q (by omega)];exact⟨_,s,a,b,rfl,rfl,e,j⟩;obtain⟨a,b,i,s,z,rfl,hi,e,j⟩:=d;unfold a4t;simp only
 by_cases h:i<g.length
 left;have hp:=o g[i] (a17 h);have D:=hp.b2;have C:=hp.b0;obtain⟨v,hv⟩:=b1w g[i];obtain⟨r,u,x⟩:=b2k (to:=s) (fr:=(g[i]).2.2.2.2.1) (by omega) (by omega);rw[decide_eq_true (show(i:Int)<((g.length:Nat):Int)by omega),a1o h];simp only[cT,oB,hv,u];rw[w64 (by omega)];exact⟨_,k-1,rfl,by omega,_,_,i+1,r,z,rfl,by omega,by omega,fun _=>by omega⟩;right;rw[decide_eq_false (show ¬ (i:Int)<((g.length:Nat):Int)by omega)];exact⟨_,rfl,a,b,s,z,rfl,j (by omega),e⟩
@[reducible] def zPg:Pge:=((0:Int),(false,(false,(false,(([]:List Int),())))))
def gOf(g:List Pge):Pge:=(a3c g).getD zPg
def a0V(l:List Pge):List Pge:=
 if h:l=[]then[]else l.take 8++gOf (l.take 8)::a0V (l.drop 8)
termination_by l.length
decreasing_by
 have:=a04.2 h
 rw[a02];omega
theorem a1W:a0V []=[]:=by rw[a0V,dif_pos rfl]
theorem a3x(h:l≠[]):a0V l=l.take 8++gOf (l.take 8)::a0V (l.drop 8):=by rw[a0V,dif_neg h]
def b0R(l:List Pge):Prop:=∀(i:Nat)(p:Pge),l[i]?=some p→p.1=(i:Int)
theorem a7q(m:∀p∈g,PgPlain p)(b:g≠[])(l:g.length≤8):a3c g=some (gOf g)∧∃h f a,gOf g=((g.head b).1,false,false,true,(((g.length:Nat):Int)::f::a::h),())∧1≤h.length∧h.length≤252:=by
 obtain⟨q,h,f,a,c,d,i,j⟩:=b2l m b l;have e:gOf g=q:=by rw[gOf,c];rfl
 rw[e];exact⟨c,h,f,a,d,i,j⟩
theorem b2m(hp:∀p∈l,PgPlain p)(b:b0R l)(j:l.length<1000000):x0w a2M (l,l,((l.length:Nat):Int),(0:Int),())=some (.inl (l,())):=by
 refine a0O (f:=a2M) (fun i=>(l,l,((l.length:Nat):Int),(i:Int),())) l.length (fun i hi=>?_) ?_
 unfold a2M;simp only;have h:=hp l[i] (a17 hi);have g:=b i l[i] (lG hi);have d:wrap .i64 ((i:Int)+1)=((i+1:Nat):Int):=by rw[w64 (by omega)];omega
 rw[decide_eq_true (show(i:Int)<((l.length:Nat):Int)by omega),a1o hi];simp only[cT,oB,a8W h.toPgOk,bT,cF,h.ng]
 by_cases h0:i=0
 subst h0;have c:wrap .i64 (((0:Nat):Int)+1)=((0+1:Nat):Int):=by decide
 rw[decide_eq_false (show ¬ ((0:Nat):Int) > 0 by decide)];simp only[cF,oB,c];rw[decide_eq_true (show(i:Int) > 0 by omega)];have w2:wrap .i64 ((i:Int)-1)=((i-1:Nat):Int):=by rw[w64 (by omega)];omega
 rw[w2,a1o (show i-1<l.length by omega)];have a:=b (i-1) l[i-1] (lG (by omega));simp only[cT,oB,g,a];have e:wrap .i64 (((i-1:Nat):Int)+1)=(i:Int):=by rw[w64 (by omega)];omega
 rw[e,d];simp only[bne_self_eq_false,cF];unfold a2M;simp only;rw[decide_eq_false (by omega)];rfl
theorem b2n{out:List Pge}{a:Int}(hp:∀p∈g,PgPlain p)(c:out.length+g.length<1000000):x0w a2N (l,a,g,g,((g.length:Nat):Int),(0:Int),out,())=some (l,a,g,out++g,()):=by
 have:=a0O (f:=a2N) (fun i=>(l,a,g,g,((g.length:Nat):Int),(i:Int),out++g.take i,())) g.length (b:=(l,a,g,out++g,())) (fun i hi=>?_) ?_
 rw[a43,a01]at this;exact this;unfold a2N;simp only;have h:=hp g[i] (a17 hi);rw[decide_eq_true (show(i:Int)<((g.length:Nat):Int)by omega),a1o hi];simp only[cT,oB,a7T h.toPgOk];rw[a0G (by rw[lN,a00];omega),a07 hi,w64 (by omega)];simp only[cT,a20,aA];rfl;unfold a2N;simp only;rw[decide_eq_false (by omega),a14];rfl
theorem b1x(hp:∀p∈l,PgPlain p)(r:b0R l)(t:l.length<100000):a3d l=some (a0V l,0):=by
 unfold a3d;refine a0E (b2m hp r (by omega)) ?_
 simp only;refine a0E (v:=(a0V l,())) ?_ rfl;refine a1V (f:=a4u) (fun k j=>∃(i:Nat)(out:List Pge),j=(l,(i:Int),out,())∧k=(l.drop i).length∧i≤l.length+8∧out.length≤2*i∧out++a0V (l.drop i)=a0V l) (fun w=>w=(a0V l,())) l.length (l,(0:Int),([]:List Pge),()) ⟨0,[],rfl,rfl,by omega,by simp,rfl⟩ (fun w s o=>by rw[s,o]) (fun k j d=>?_);obtain⟨i,out,rfl,rfl,hi,u,b⟩:=d;have x:(l.drop i).length=l.length-i:=a02;unfold a4u;simp only
 by_cases h:i<l.length
 left;have c:l.drop i≠[]:=a04.1 (by omega);have w2:wrap .i64 ((i:Int)+8)=((i+8:Nat):Int):=by rw[w64 (by omega)];omega
 have a:x0t ((i+8:Nat):Int) ((l.length:Nat):Int)=((min (i+8) l.length:Nat):Int):=by
  unfold x0t
  by_cases hc:((l.length:Nat):Int)<((i+8:Nat):Int)
  rw[decide_eq_true hc,a68 (by omega)];rfl;rw[decide_eq_false hc,a58 (by omega)];rfl
 have g:a36 (a13 (i:Int)) (a42 (a13 ((min (i+8) l.length:Nat):Int)) l)=(l.drop i).take 8:=by
  rw[tN,tN,b26]
  by_cases hc:i+8<l.length
  rw[a58 (by omega),show i+8-i=8 by omega];rw[a68 (by omega),a29 (by omega),a29 (by omega)]
 have e:∀p∈(l.drop i).take 8,PgPlain p:=fun p q=>hp p (a35 (a27 q));have lg:((l.drop i).take 8).length≤8:=by rw[a00];omega
 obtain⟨m,-⟩:=a7q e (a04.1 (by rw[a00];omega)) lg;rw[w2,a,g,decide_eq_true (show(i:Int)<((l.length:Nat):Int)by omega),tN];rw[decide_eq_true (show(0:Int)≤((min (i+8) l.length:Nat):Int)by omega),decide_eq_true (show((min (i+8) l.length:Nat):Int)≤((l.length:Nat):Int)by omega),decide_eq_true (show(0:Int)≤(i:Int)by omega),decide_eq_true (show(i:Int)≤((min (i+8) l.length:Nat):Int)by omega)];simp only[cT,a11];rw[b2n e (by omega)];simp only[oB,m];rw[a0G (by rw[lN];omega),w2];refine⟨_,(l.drop (i+8)).length,rfl,by simp only[a02];omega,i+8,(out++(l.drop i).take 8)++[gOf ((l.drop i).take 8)],rfl,rfl,by omega,?_,?_⟩;simp only[lN,a06,a00];omega;rw[←b,a3x c,b27];simp only[aA,a41];right;rw[decide_eq_false (show ¬ (i:Int)<((l.length:Nat):Int)by omega)];have n:l.drop i=[]:=a33.2 (by omega);rw[n,a1W,a01]at b;exact⟨_,rfl,by rw[b]⟩
theorem a7L:∀(n:Nat)(f:Bool)(s:Nat)(r:List Int),r.length≤n→s+r.length≤1000000→∀(i:Nat)(p:Pge),(a1H f s r)[i]?=some p→p.1=((s+i:Nat):Int)∧PgPlain p
 |0,f,s,r,h,_,i,p,hp=>by
  have:r=[]:=a24.1 (by omega)
  rw[this,a2C]at hp;cases hp
 |n+1,f,s,r,h,hs,i,p,hp=>by
  by_cases hr:r=[]
  rw[hr,a2C]at hp;cases hp
  ·have g:=a04.2 hr;rw[a2v hr]at hp;cases i with
   |zero=>
    cases hp;exact⟨by simp,⟨⟨by simp,by show(s:Int)≤1000000;omega,by show 1≤(r.take 252).length;rw[a00];omega,by show(r.take 252).length≤252;rw[a00];omega⟩,rfl⟩⟩
   |succ i=>
    have:=a7L n false (s+1) (r.drop 252) (by rw[a02];omega) (by rw[a02];omega) i p hp
    exact⟨by rw[this.1];congr 1;omega,this.2⟩
theorem a7U:∀(bs:List (List Int)) (s:Nat),(∀b∈bs,b.length≤1000)→s+1000*bs.length≤1000000→∀(i:Nat)(p:Pge),(a0N s bs)[i]?=some p→p.1=((s+i:Nat):Int)∧PgPlain p
 | [],s,_,_,i,p,hp=>by cases hp
 |b::bs,s,hb,hs,i,p,hp=>by
  rw[lC]at hs;have g:=hb b (by simp);have f:=a4M b.length true s b (a08 _);rw[a0N]at hp
  by_cases hi:i<(a1H true s b).length
  rw[a40 hi]at hp;exact a7L b.length true s b (a08 _) (by omega) i p hp;rw[a30 (by omega)]at hp
  have:=a7U bs _ (fun c h=>hb c (by simp[h])) (by omega) _ p hp
  exact⟨by rw[this.1];congr 1;omega,this.2⟩
theorem a7r:∀(n:Nat)(l:List Pge),l.length≤n→(∀p∈l,PgPlain p)→∀q∈a0V l,PgOk q
 |0,l,h,_,q,f=>by
  have:l=[]:=a24.1 (by omega)
  rw[this,a1W]at f;cases f
 |n+1,l,h,hp,q,f=>by
  by_cases hl:l=[]
  rw[hl,a1W]at f;cases f;have j:=a04.2 hl;rw[a3x hl]at f;rcases mA.1 f with f|f;exact(hp q (a27 f)).toPgOk;rcases mC.1 f with rfl|f;have b:l.take 8≠[]:=a04.1 (by rw[a00];omega);obtain⟨-,a,d,i,e,m,o⟩:=a7q (g:=l.take 8) (fun p f=>hp p (a27 f)) b (by rw[a00];omega);have c:=(hp ((l.take 8).head b) (a27 (List.head_mem b))).toPgOk;rw[e];exact⟨c.s0,c.s1,by show 1≤(_::d::i::a).length;simp,by show(_::d::i::a).length≤255;simp only[lC];omega⟩;exact a7r n (l.drop 8) (by rw[a02];omega) (fun p f=>hp p (a35 f)) q f
theorem a4E:∀(n:Nat)(l:List Pge),l.length≤n→(a0V l).length≤2*l.length
 |0,l,h=>by
  have:l=[]:=a24.1 (by omega)
  rw[this,a1W];simp
 |n+1,l,h=>by
  by_cases hl:l=[]
  rw[hl,a1W];simp;have g:=a04.2 hl;have f:=a4E n (l.drop 8) (by rw[a02];omega);rw[a02]at f;rw[a3x hl,lN,lC,a00];omega
def a0Y(l:List Pge):List Int:=l.flatMap pgB
theorem a6a:∀(l:List Pge),(∀p∈l,PgOk p)→(a0Y l).length≤267*l.length
 | [],_=>by simp[a0Y]
 |p::l,h=>by
  have a:=a6a l fun q g=>h q (by simp[g]);have hp:=h p (by simp);have f:p.2.2.2.2.1.length≤255:=by
   have:=hp.b1
   revert this
   cases p.2.2.2.1<;>simp only[cT,cF]<;>omega
  have e:a0Y (p::l)=pgB p++a0Y l:=rfl;rw[e,lN,a6K,lC];omega
theorem a7V(h:∀p∈l,PgOk p)(d:l.length<1000000):a3e l=some (a0Y l,0):=by
 unfold a3e;refine a0E (v:=.inl (a0Y l,())) ?_ rfl
 have:=a0O (f:=a3E) (fun i=>(l,((l.length:Nat):Int),(i:Int),a0Y (l.take i),())) l.length (b:=.inl (a0Y l,())) (fun i hi=>?_) ?_
 exact this;unfold a3E;simp only;have hp:=h l[i] (a17 hi);have c:(l[i]).2.2.2.2.1.length≤255:=by
  have:=hp.b1
  revert this
  cases (l[i]).2.2.2.1<;>simp only[cT,cF]<;>omega
 have g:=a6a (l.take i) fun q a=>h q (a27 a);rw[a00]at g;rw[decide_eq_true (show(i:Int)<((l.length:Nat):Int)by omega),a1o hi];simp only[cT,oB,a4O hp,bne_self_eq_false,cF];rw[a0G (by rw[a6K];omega),w64 (by omega),a07 hi];have e:a0Y (l.take i++[l[i]])=a0Y (l.take i)++pgB l[i]:=by unfold a0Y;rw[a31,a37]
 rw[e];rfl;unfold a3E;simp only;rw[decide_eq_false (by omega),a14];rfl
def rdr(P R:List Int):List Int×(Int×Int×Unit):=(P++R,((P.length:Nat):Int),(0:Int),())
theorem a9X(g:(P++(A++R)).length<1000000):a2c (rdr P (A++R),((A.length:Nat):Int))=some (A,rdr (P++A) R):=by
 simp only[lN]at g;unfold a2c rdr a1B;have f:x0s ((A.length:Nat):Int) 0=((A.length:Nat):Int):=by
  unfold x0s
  by_cases h:((A.length:Nat):Int)<0
  omega;simp[h]<;>omega
 have a:wrap .i64 (((P++(A++R)).length:Int)-((P.length:Nat):Int))=((A.length+R.length:Nat):Int):=by
  rw[w64 (by simp only[lN];omega)];simp only[lN];omega
 have w2:wrap .i64 (((P.length:Nat):Int)+((A.length:Nat):Int))=((P.length+A.length:Nat):Int):=by rw[w64 (by omega)];omega
 simp only[bne_self_eq_false,cF,oB,f,a,w2];rw[decide_eq_false (show ¬ ((A.length:Nat):Int) > ((A.length+R.length:Nat):Int)by omega),decide_eq_true (show(0:Int)≤((P.length+A.length:Nat):Int)by omega),decide_eq_true (show((P.length+A.length:Nat):Int)≤(((P++(A++R)).length:Nat):Int)by simp only[lN];omega),decide_eq_true (show(0:Int)≤((P.length:Nat):Int)by omega),tN,tN,decide_eq_true (show((P.length:Nat):Int)≤((P.length+A.length:Nat):Int)by omega)];have e:a36 P.length (a42 (P.length+A.length) (P++(A++R)))=A:=by
  rw[b17,b18]
  simp
 rw[e,a0G (by omega)];simp only[cF,cT,a11,aA,lN]
def a3A(l:List Int):Int:=l.foldl (fun a b=>a*256+b) 0
theorem a6A(l:List Int)(b:Int):a3A (l++[b])=a3A l*256+b:=by simp[a3A,b09]
theorem a7s:∀(n:Nat)(l:List Int),l.length=n→(∀b∈l,0≤b∧b<256)→0≤a3A l∧a3A l<((256^n:Nat):Int)
 |0,l,h,_=>by
  have:l=[]:=a24.1 h
  rw[this];decide
 |n+1,l,h,hb=>by
  have f:l≠[]:=a04.1 (by omega);obtain⟨a,z,rfl⟩:=a9W f;rw[lN,a06]at h;have c:=a7s n a (by omega) fun b g=>hb b (by simp[g]);have d:=hb z (by simp);rw[a6A,a56];generalize 256^n=N at c⊢;omega
theorem a8X:∀(k n:Nat),n<256^k→a3A (a0P n k)=(n:Int)
 |0,n,h=>by
  have:n=0:=by simpa using h
  subst this;rfl
 |k+1,n,h=>by
  have e:a0P n (k+1)=a0P (n / 256) k++[((n%256:Nat):Int)]:=by
   rw[a0P,a2B,b12];rfl
  rw[e,a6A,a8X k (n / 256) (by rw[a56]at h;omega)];omega
theorem a5M(o:A.length≤8)(d:∀b∈A,0≤b∧b<256)(l:(P++(A++R)).length<1000000):a0I (rdr P (A++R),((A.length:Nat):Int))=some (a3A A,rdr (P++A) R):=by
 have e:a2k ((A.length:Nat):Int)=some ((A.length:Nat):Int):=by
  unfold a2k x0t x0s;have a:¬ (8:Int)<((A.length:Nat):Int):=by omega
  have c:¬ ((A.length:Nat):Int)<0:=by omega
  congr 1;simp[a,c]<;>omega
 unfold a0I;simp only[e,oB,a9X l]
 have:=a0O (f:=a2j) (fun i=>(a3A (A.take i),((A.length:Nat):Int),(i:Int),A,rdr (P++A) R,())) A.length (b:=(a3A A,rdr (P++A) R,())) (fun i hi=>?_) ?_
 refine a0E this rfl;unfold a2j;simp only;have p:=a7s i (A.take i) (by rw[a00];omega) fun b h=>d b (a27 h);have hp:256^i≤256^7:=a79 (by decide) (by omega);have m:256^7=72057594037927936:=by decide
 have q:=d A[i] (a17 hi);have g:∀z:Int,0≤z→z<18446744073709551616→wrap .u64 z=z:=fun z a c=>by
  have:=a3j (n:=z.toNat) (by omega)
  rwa [show((z.toNat:Nat):Int)=z by omega]at this
 have j:a26 A (a13 (i:Int)) 0=A[i]:=by rw[tN,lD,lG hi];rfl
 rw[decide_eq_true (show(i:Int)<((A.length:Nat):Int)by omega),decide_eq_true (show(0:Int)≤(i:Int)by omega),j,g (a3A (A.take i)*256) (by omega) (by omega),g A[i] (by omega) (by omega),g _ (by omega) (by omega),w64 (by omega),a07 hi,a6A];rfl;unfold a2j;simp only;rw[decide_eq_false (by omega),a14];rfl
theorem a4n{k:Nat}(h:k≤8)(f:n<256^k)(g:(P++(a0P n k++R)).length<1000000):a0I (rdr P (a0P n k++R),((k:Nat):Int))=some ((n:Int),rdr (P++a0P n k) R):=by
 have:=a5M (P:=P) (A:=a0P n k) (R:=R) (by rw[a0H];exact h) (a7R n k) g
 rwa [a0H,a8X k n f]at this
def a4F(p:Pk):List Int:=[p.1]++([a2s p]++(a0P p.2.1.toNat 8++a0P p.2.2.1.toNat 8))
theorem a4P(p:Pk):(a4F p).length=18:=by
 simp only[a4F,lN,a0H,lC,a03]
theorem a7M{p:Pk}(h:a4N p):a0K p=a4F p++p.2.2.2.2.2.1:=by
 obtain⟨s,g,f,a⟩:=h;have e:wrap .u8 p.1=p.1:=by
  have:=b0Q (n:=p.1.toNat) (by rw[g.st];omega)
  rwa [show((p.1.toNat:Nat):Int)=p.1 by rw[g.st];omega]at this
 simp only[a0K,a4F,e,aA,a09,a05]
theorem a6b(p:Pk):a2s p=(bif p.2.2.2.1 then 1 else 0)+(bif p.2.2.2.2.1 then 2 else 0):=by
 unfold a2s;cases p.2.2.2.1<;>cases p.2.2.2.2.1<;>decide
theorem a5u(h:x.length<1000000):a1A x=some (rdr [] x):=by
 unfold a1A;rw[a0G (by omega)];rfl
theorem a7N{p:Pk}(h:a4N p){d:List Int}(y:d.length≤60000):a2u (a4F p++d)=some ((p.1,p.2.1,p.2.2.1,p.2.2.2.1,p.2.2.2.2.1,d,()),0):=by
 obtain⟨s,a,w,x⟩:=h;have c:(a4F p++d).length=18+d.length:=by rw[lN,a4P]
 have i:=a.st;have a0:=a.at0;have a1:=a.at1;have B:=a.len0;have l1:=a.len1;have z:0≤a2s p∧a2s p≤3:=by
  rw[a6b];cases p.2.2.2.1<;>cases p.2.2.2.2.1<;>decide
 have g:256^8=18446744073709551616:=by decide
 have e:a4F p++d=[p.1]++([a2s p]++(a0P p.2.1.toNat 8++(a0P p.2.2.1.toNat 8++d))):=by simp only[a4F,aA]
 have m:=a5M (P:=[]) (A:=[p.1]) (R:=[a2s p]++(a0P p.2.1.toNat 8++(a0P p.2.2.1.toNat 8++d))) (by simp) (fun b f=>by rw[a23]at f;rw[f,i];omega) (by rw[←e,a05,c];omega);have r2:=a5M (P:=[]++[p.1]) (A:=[a2s p]) (R:=a0P p.2.1.toNat 8++(a0P p.2.2.1.toNat 8++d)) (by simp) (fun b f=>by rw[a23]at f;rw[f];omega) (by rw[a05,←e,c];omega);have j:=a4n (P:=[]++[p.1]++[a2s p]) (R:=a0P p.2.2.1.toNat 8++d) (n:=p.2.1.toNat) (k:=8) (by omega) (by rw[g];omega) (by simp only[lN,a0H,lC,a03];omega);have l:=a4n (P:=[]++[p.1]++[a2s p]++a0P p.2.1.toNat 8) (R:=d) (n:=p.2.2.1.toNat) (k:=8) (by omega) (by rw[g];omega) (by simp only[lN,a0H,lC,a03];omega);rw[show(([p.1].length:Nat):Int)=1 from rfl,show a3A [p.1]=p.1 by simp[a3A]]at m;rw[show(([a2s p].length:Nat):Int)=1 from rfl,show a3A [a2s p]=a2s p by simp[a3A]]at r2;rw[show((8:Nat):Int)=8 from rfl]at j l;have o:((p.2.1.toNat:Nat):Int)=p.2.1:=by omega
 have r:((p.2.2.1.toNat:Nat):Int)=p.2.2.1:=by omega
 rw[o]at j;rw[r]at l;have t:a1A (a4F p++d)=some (rdr [] ([p.1]++([a2s p]++(a0P p.2.1.toNat 8++(a0P p.2.2.1.toNat 8++d))))):=by rw[a5u (by omega),←e]
 unfold a2u;rw[c,decide_eq_false (show ¬ ((18+d.length:Nat):Int)<18 by omega),decide_eq_false (show ¬ ((18+d.length:Nat):Int) > 65554 by omega)];simp only[cF,t,m,r2,j,l,oB];rw[decide_eq_false (show ¬ p.1≥4 by omega),decide_eq_false (show ¬ a2s p > 3 by omega),decide_eq_false (show ¬ p.2.1 > 1125899906842624 by omega),decide_eq_false (show ¬ p.2.2.1 > 1125899906842624 by omega)];simp only[cF,oB];rw[c,decide_eq_true (show(18:Int)≤((18+d.length:Nat):Int)by omega)];have q:a36 18 (a42 (18+d.length) (a4F p++d))=d:=by
  rw[a29 (by omega),b18,a33.2 (by rw[a4P];omega),a4P];rfl
 rw[q,a5Y (by omega),w64 (by omega),w64 (by omega),w64 (by omega)];have u:((bits .u64 .and (a2s p) 1) != 0)=p.2.2.2.1:=by
  rw[a6b];cases p.2.2.2.1<;>cases p.2.2.2.2.1<;>decide
 have v:((bits .u64 .and (a2s p) 2) != 0)=p.2.2.2.2.1:=by
  rw[a6b];cases p.2.2.2.1<;>cases p.2.2.2.2.1<;>decide
 simp only[cT,oB,u,v]
def a4G(p:Pge):Prop:=p.2.1=true→p.2.2.2.1=false→∃q,a4N q∧p.2.2.2.2.1.take 18=a4F q∧18≤p.2.2.2.2.1.length
abbrev Mk:Type:=Int×(Int×(Int×Unit))
def a0L(p:Pge):List Mk:=
 bif p.2.1&&!p.2.2.2.1 then(match a2u (p.2.2.2.2.1.take 18)with
  |some y=>bif y.1.2.2.2.1 then[(y.1.1,y.1.2.1,p.1,())]else[]
  |none=>[])else[]
theorem a5v(h:p.2.2.2.1=true):a0L p=[]:=by
 unfold a0L;rw[h];cases p.2.1<;>rfl
theorem a4W(h:p.2.1=true)(g:p.2.2.2.1=false)(a:a4N q)(f:p.2.2.2.2.1.take 18=a4F q):a0L p=bif q.2.2.2.1 then[(q.1,q.2.1,p.1,())]else[]:=by
 unfold a0L
 have:=a7N a (d:=[]) (by simp)
 rw[a01]at this;rw[h,g,f,this];rfl
theorem b0S:(a0L p).length≤1:=by
 unfold a0L;cases p.2.1&&!p.2.2.2.1 with
 |false=>simp
 |true=>
  simp only[cT];cases a2u (p.2.2.2.2.1.take 18)with
  |none=>simp
  |some y=>simp only;cases y.1.2.2.2.1<;>simp
theorem a5E:∀(l:List Pge),(l.flatMap a0L).length≤l.length
 | []=>by simp
 |p::l=>by
  have h:=a5E l;have g:=b0S (p:=p);rw[a32,lN,lC];omega
theorem b4h(h:∀p∈l,PgOk p∧a4G p)(u:l.length<1000000):a5h l=some (l.flatMap a0L):=by
 unfold a5h
 have:=a0O (f:=a4m) (fun i=>(l,((l.length:Nat):Int),(i:Int),(l.take i).flatMap a0L,())) l.length (b:=(l.flatMap a0L,())) (fun i hi=>?_) ?_
 refine a0E this rfl
 ·unfold a4m;simp only;obtain⟨hp,o⟩:=h l[i] (a17 hi);have s:wrap .i64 ((i:Int)+1)=((i+1:Nat):Int):=by rw[w64 (by omega)];omega
  have c:=a5E (l.take i);rw[a00]at c;have e:(l.take (i+1)).flatMap a0L=(l.take i).flatMap a0L++a0L l[i]:=by rw[a07 hi,a31,a37]
  rw[decide_eq_true (show(i:Int)<((l.length:Nat):Int)by omega),a1o hi,s,e];simp only[cT,oB]
  by_cases g:(l[i]).2.1=true
  ·by_cases a:(l[i]).2.2.2.1=true
   rw[a5v a,g,a,a01];rfl
   ·have a:(l[i]).2.2.2.1=false:=by simpa using a
    obtain⟨q,n,j,t⟩:=o g a;rw[a4W g a n j,g,a];have m:=a7N n (d:=[]) (by simp);rw[a01]at m;rw[decide_eq_false (show ¬ (((l[i]).2.2.2.2.1.length:Nat):Int)<18 by omega),decide_eq_true (show(18:Int)≤(((l[i]).2.2.2.2.1.length:Nat):Int)by omega),j];simp only[bT,cF,cT,a4O hp,oB,bne_self_eq_false,m];cases hk:q.2.2.2.1 with
    |false=>simp only[a64,cT,cF,a01]
    |true=>
     simp only[bT,cF,cT];rw[a0G (by omega)];rfl
  have g:(l[i]).2.1=false:=by simpa using g
  have r:a0L l[i]=[]:=by unfold a0L;rw[g];rfl
  rw[r,g,a01];rfl
 unfold a4m;simp only;rw[decide_eq_false (by omega),a14];rfl
theorem a7W(a:∀p∈g,PgPlain p)(h:g≠[])(f:g.length≤8):(gOf g).2.2.2.1=true:=by
 obtain⟨-,b,c,d,e,-⟩:=a7q a h f;rw[e]
theorem a6B:∀(n:Nat)(l:List Pge),l.length≤n→(∀p∈l,PgPlain p)→(a0V l).flatMap a0L=l.flatMap a0L
 |0,l,h,_=>by
  have:l=[]:=a24.1 (by omega)
  rw[this,a1W]
 |n+1,l,h,hp=>by
  by_cases hl:l=[]
  rw[hl,a1W];have b:=a04.2 hl;have c:l.take 8≠[]:=a04.1 (by rw[a00];omega);have a:=a7W (g:=l.take 8) (fun p f=>hp p (a27 f)) c (by rw[a00];omega);have d:=a6B n (l.drop 8) (by rw[a02];omega) (fun p f=>hp p (a35 f));rw[a3x hl,a31,a32,a5v a,d,a05,←a31,a16]
theorem a6T:∀(n:Nat)(l:List Pge),l.length≤n→(∀p∈l,PgPlain p)→(∀p∈l,a4G p)→∀q∈a0V l,a4G q
 |0,l,h,_,_,q,f=>by
  have:l=[]:=a24.1 (by omega)
  rw[this,a1W]at f;cases f
 |n+1,l,h,hp,hh,q,f=>by
  by_cases hl:l=[]
  rw[hl,a1W]at f;cases f;have c:=a04.2 hl;have d:l.take 8≠[]:=a04.1 (by rw[a00];omega);have b:=a7W (g:=l.take 8) (fun p f=>hp p (a27 f)) d (by rw[a00];omega);rw[a3x hl]at f;rcases mA.1 f with f|f;exact hh q (a27 f);rcases mC.1 f with rfl|f;intro _ a;rw[b]at a;cases a;exact a6T n (l.drop 8) (by rw[a02];omega) (fun p f=>hp p (a35 f)) (fun p f=>hh p (a35 f)) q f
theorem a6c:∀(n:Nat)(s:Nat)(r:List Int),r.length≤n→∀p∈a1H false s r,p.2.1=false
 |0,s,r,h,p,hp=>by
  have:r=[]:=a24.1 (by omega)
  rw[this,a2C]at hp;cases hp
 |n+1,s,r,h,p,hp=>by
  by_cases hr:r=[]
  rw[hr,a2C]at hp;cases hp;have g:=a04.2 hr;rw[a2v hr]at hp;rcases mC.1 hp with rfl|hp;rfl;exact a6c n (s+1) (r.drop 252) (by rw[a02];omega) p hp
theorem a7X(g:a4N q)(s:Nat):∀p∈a1H true s (a0K q),a4G p:=by
 intro p hp h _;rw[a2v (a5K q)]at hp;have f:=a3M q;rcases mC.1 hp with rfl|hp;refine⟨q,g,?_,?_⟩;show((a0K q).take 252).take 18=a4F q;rw[a84,a7M g,show min 18 252=18 from rfl,b17,a4P,a67,a43,a01,a29 (by rw[a4P];omega)];show 18≤((a0K q).take 252).length;rw[a00];omega;rw[a6c _ _ _ (a08 _) p hp]at h;cases h
theorem a6U:∀(l:List Pk)(s:Nat),(∀p∈l,a4N p)→∀q∈a0N s (l.map a0K),a4G q
 | [],_,_,q,hq=>by cases hq
 |p::l,s,h,q,hq=>by
  rw[a71,a0N]at hq;rcases mA.1 hq with hq|hq;exact a7X (h p (by simp)) s q hq;exact a6U l _ (fun p hp=>h p (by simp[hp])) q hq
def a0B(n:Nat):List Int:=if h:n<128 then[(n:Int)]else((n%128+128:Nat):Int)::a0B (n / 128)
termination_by n
decreasing_by omega
theorem a4Q(h:n<128):a0B n=[(n:Int)]:=by rw[a0B,dif_pos h]
theorem a5m(h:¬ n<128):a0B n=((n%128+128:Nat):Int)::a0B (n / 128):=by rw[a0B,dif_neg h]
theorem a4R:∀(k n:Nat),n<128^(k+1)→1≤(a0B n).length∧(a0B n).length≤k+1
 |0,n,h=>by rw[a4Q (by omega)];simp
 |k+1,n,h=>by
  by_cases hn:n<128
  rw[a4Q hn];simp;rw[a5m hn]
  have:=a4R k (n / 128) (by rw[a62 (by omega)];rw[a56]at h;exact h)
  simp only[lC];omega
theorem a4H:∀(k n:Nat),n<128^(k+1)→∀b∈a0B n,0≤b∧b<256
 |0,n,h,b,hb=>by rw[a4Q (by omega)]at hb;simp at hb;omega
 |k+1,n,h,b,hb=>by
  by_cases hn:n<128
  rw[a4Q hn]at hb;simp at hb;omega;rw[a5m hn]at hb;rcases mC.1 hb with rfl|hb;omega;exact a4H k (n / 128) (by rw[a62 (by omega)];rw[a56]at h;exact h) b hb
theorem a9Y:∀(k n:Nat)(a:List Int)(b c:Int)(out:List Int),n<128^(k+1)→k≤8→out.length+k<1000000→
  ∃r g,x0w a3U ((n:Int),a,b,c,out,())=some (((r:Nat):Int),a,b,c,out++g,())∧a0B n=g++[(r:Int)]∧r<128
 |k,n,a,b,c,out,h,hk,ho=>by
  by_cases hn:n<128
  refine⟨n,[],?_,by rw[a4Q hn];rfl,hn⟩;rw[a1c (b:=((n:Int),a,b,c,out,())) (by
   have d:decide ((n:Int)≥128)=false:=by simp;omega
   simp only[a3U,d,cF])]
  simp
  ·cases k with
   |zero=>omega
   |succ k=>
    have p:n / 128<128^(k+1):=by rw[a62 (by omega)];rw[a56]at h;exact h
    have f:n<18446744073709551616:=by
     have:128^(k+1+1)≤128^9:=a79 (by omega) (by omega)
     have e:(128:Nat)^9=9223372036854775808:=by decide
     omega
    obtain⟨r,g,l,m,o⟩:=a9Y k (n / 128) a b c (out++[((n%128+128:Nat):Int)]) p (by omega) (by simp;omega);refine⟨r,((n%128+128:Nat):Int)::g,?_,by rw[a5m hn,m];rfl,o⟩;have d:decide ((n:Int)≥128)=true:=by simp;omega
    have i:wrap .u64 (b25 (n:Int) 128)=((n / 128:Nat):Int):=by
     rw[show b25 (n:Int) 128=((n / 128:Nat):Int)from rfl];exact a3i (by omega)
    have j:wrap .u8 (wrap .u8 (a28 (n:Int) 128)+128)=((n%128+128:Nat):Int):=by
     rw[show a28 (n:Int) 128=((n%128:Nat):Int)from rfl,a8F,a8F];omega
    rw[a1t (s':=(((n / 128:Nat):Int),a,b,c,out++[((n%128+128:Nat):Int)],())) (by
     simp only[a3U,d,cT,b1n (show out.length+1<2147483648 by omega),i,j,a20])]
    rw[l]
    simp
theorem a8Y{α β γ:Type}(f:α→List γ):∀(l:List α)(a:List γ),a5U (β:=β) (fun a x=>.inl (a++f x)) l a=.inl (a++l.flatMap f)
 | [],a=>by simp[a5U]
 |x::l,a=>by simp only[a5U];rw[a8Y f l];simp
def asI(ns:List Nat):List Int:=ns.map fun n:Nat=>(n:Int)
theorem a4I{ns:List Nat}(h:∀n∈ns,n<9223372036854775808)(v:ns.length≤1000):a1z (asI ns)=some (ns.flatMap a0B):=by
 have o:(asI ns).length=ns.length:=by simp[asI]
 have:=b1q (f:=a3V) (asI ns) (fun i (a:List Int)=>(asI ns,((asI ns).length:Int),(i:Int),a,())) (fun a x=>.inl (a++a0B x.toNat)) (fun i a=>a.length≤10*i) (fun a=>(a,()))
  (fun i hi a s=>⟨fun t g=>by
   have j:i<ns.length:=by omega
   have p:(asI ns)[i]=((ns[i]:Nat):Int):=by simp[asI]
   have d:=h ns[i] (a17 j);have c:ns[i]<128^(8+1):=by rw[show(128:Nat)^(8+1)=9223372036854775808 from by decide];exact d
   obtain⟨r,l,q,m,u⟩:=a9Y 8 ns[i] (asI ns) ((asI ns).length:Int) (i:Int) a c (a08 _) (by omega);have hv:=a4R 8 ns[i] c;rw[m]at hv;simp only[lN,lC,a03]at hv;simp only[p,tN,m,Sum.inl.injEq]at g;subst g;have e:wrap .u8 (r:Int)=(r:Int):=by rw[a8F];omega
   refine⟨?_,by simp;omega⟩;simp only[a3V,dlt hi,cT,a8O hi,p,oB,q,b1n (show(a++l).length+1<2147483648 by simp;omega),a7Q (show i<1000000 by omega),e,a20,aA],fun b d=>by cases d⟩)
  (fun a s=>by simp only[a3V,dge,cF]) (a:=[]) (by simp)
 unfold a1z;simp only[nZ]at this;rw[this,a8Y];simp[b2d,asI,List.flatMap_map]
theorem orA{a b k:Nat}(f:a<2^k)(c:b*2^k+a<18446744073709551616):bits .u64 .or (a:Int) ((b*2^k:Nat):Int)=((a+b*2^k:Nat):Int):=by
 show wrap .u64 (((a91 64 (a:Int) ||| a91 64 ((b*2^k:Nat):Int)).toNat:Nat):Int)=_;have g:(a91 64 (a:Int)).toNat=a:=by rw[b05];omega
 have h:(a91 64 ((b*2^k:Nat):Int)).toNat=b*2^k:=by rw[b05];omega
 rw[BitVec.toNat_or,g,h];have e:a ||| b*2^k=a+b*2^k:=by
  have:=Nat.two_pow_add_eq_or_of_lt (i:=k) (b:=a) f b
  rw[Nat.or_comm,Nat.mul_comm b,←this,Nat.add_comm]
 rw[e];exact a3i (by omega)
theorem b1y{N o:Nat}(h:o≤64)(g:N*2^o<9223372036854775808):D0n .u64 (N:Int) (o:Int)=((N*2^o:Nat):Int):=by
 unfold D0n;show wrap .u64 ((N:Int)*2^(min (o:Int).toNat 64))=_;rw[tN,a58 h];have e:(N:Int)*2^o=((N*2^o:Nat):Int):=by rw[Int.natCast_mul,Int.natCast_pow];rfl
 rw[e];exact a3i (by omega)
theorem a6V{rest:List Int}:∀(j m i acc:Nat)(P:List Int),m<128^(j+1)→P.length=i→(i=0∨1≤m)→acc<2^(7*i)→m*2^(7*i)+acc<9223372036854775808→(P++(a0B m++rest)).length<1000000000→
  x0w a2W ((acc:Int),P++(a0B m++rest),((P++(a0B m++rest)).length:Nat),(i:Int),())=some (.inr (((acc+m*2^(7*i):Nat):Int),((i+(a0B m).length:Nat):Int),(0:Int),()))
 |j,m,i,acc,P,hj,hP,hm,ha,hs,hl=>by
  have u:i≤8:=by
   rcases hm with q|h1;omega;apply Classical.byContradiction;intro hi;have y:2^(7*9)≤2^(7*i):=a79 (by omega) (by omega);have z:2^(7*i)≤m*2^(7*i):=Nat.le_mul_of_pos_left _ (by omega);have e:(2:Nat)^(7*9)=9223372036854775808:=by decide
   omega
  have a:wrap .i64 ((7:Int)*(i:Int))=((7*i:Nat):Int):=by rw[wrap64 (by omega)];omega
  have l:decide ((((7*i:Nat):Int))<0)=false:=by simp;omega
  have b:wrap .i64 ((i:Int)+1)=((i+1:Nat):Int):=a7Q (by omega);have x:∀c:Nat,c<256→(i=9→False):=fun _ _ h=>by omega
  have r:((i:Int)==9)=false:=by simp;omega
  have step:∀(c:Nat)(p:List Int),c<256→a0B m=(c:Int)::p→(i=0∨c≠0)→
    a2W ((acc:Int),P++(a0B m++rest),((P++(a0B m++rest)).length:Nat),(i:Int),()) =
     bif decide ((c:Int)<128)then some (.inr (Sum.inr (bits .u64 .or (acc:Int) (D0n .u64 (wrap .u64 (a28 (c:Int) 128)) ((7*i:Nat):Int)),((i+1:Nat):Int),(0:Int),())))
     else some (.inl (bits .u64 .or (acc:Int) (D0n .u64 (wrap .u64 (a28 (c:Int) 128)) ((7*i:Nat):Int)),P++(a0B m++rest),((P++(a0B m++rest)).length:Nat),((i+1:Nat):Int),())):=fun c p s hv q=>by
   have g:i<(P++(a0B m++rest)).length:=by rw[hv];simp;omega
   have t:n0o (P++(a0B m++rest)) (i:Int)=some (c:Int):=by
    rw[a8O g];congr 1;subst hP;simp[hv]
   have v:(decide ((i:Int) > 0)=true→((c:Int)==0)=false):=fun h=>by
    simp only[dT]at h;simp only[beq_eq_false_iff_ne,ne_eq];omega
   simp only[a2W,dlt g,cT,t,oB,r,cF];cases n:decide ((i:Int) > 0)with
   |true=>simp only[cT,oB,v n,cF,a,l,b]
   |false=>simp only[oB,cF,a,l,b]
  have val:∀c:Nat,c%128*2^(7*i)+acc<9223372036854775808→bits .u64 .or (acc:Int) (D0n .u64 (wrap .u64 (a28 (c:Int) 128)) ((7*i:Nat):Int))=((acc+c%128*2^(7*i):Nat):Int):=fun c s=>by
   rw[show a28 (c:Int) 128=((c%128:Nat):Int)from rfl,a3i (by omega),b1y (by omega) (by omega)];exact orA ha (by omega)
  by_cases hm128:m<128
  rw[a1c (step m [] (by omega) (a4Q hm128) (by omega) |>.trans (by
   have d:decide ((m:Int)<128)=true:=by simp;omega
   simp only[d,cT];rfl))]
  rw[val m (by rw[b20 hm128];exact hs),b20 hm128,a4Q hm128];rfl
  ·cases j with
   |zero=>omega
   |succ j=>
    have n:m / 128<128^(j+1):=by rw[a62 (by omega)];rw[a56]at hj;exact hj
    have f:2^(7*(i+1))=128*2^(7*i):=by rw[show 7*(i+1)=7+7*i from by omega,Nat.pow_add]
    have o:m*2^(7*i)=m%128*2^(7*i)+m / 128*2^(7*(i+1)):=by
     rw[f,←Nat.mul_assoc,←Nat.add_mul];congr 1;omega
    have A:m%128*2^(7*i)≤127*2^(7*i):=Nat.mul_le_mul_right _ (by omega);rw[a1t (step (m%128+128) (a0B (m / 128)) (by omega) (a5m hm128) (by omega) |>.trans (by
     have d:decide (((m%128+128:Nat):Int)<128)=false:=by simp;omega
     simp only[d,cF];rfl))]
    rw[val (m%128+128) (by rw[b14,Nat.mod_mod];omega),b14,Nat.mod_mod];have e:P++(a0B m++rest)=(P++[((m%128+128:Nat):Int)])++(a0B (m / 128)++rest):=by rw[a5m hm128];simp
    rw[e]at hl⊢;have w:=a6V j (m / 128) (i+1) (acc+m%128*2^(7*i)) (P++[((m%128+128:Nat):Int)]) n (by simp[hP]) (.inr (by omega)) (by rw[f];omega) (by omega) hl;rw[w,o,a5m hm128];congr 3;omega
    simp;omega
theorem b1z(h:n<9223372036854775808){rest:List Int}(g:(a0B n++rest).length<1000000000):a3W (a0B n++rest)=some ((n:Int),(((a0B n).length:Nat):Int),(0:Int)):=by
 have:=a6V (rest:=rest) 8 n 0 0 [] (by rw[show(128:Nat)^(8+1)=9223372036854775808 from by decide];exact h) rfl (.inl rfl) (by simp) (by simpa using h) g
 simp only[a05,nZ,Nat.mul_zero,Nat.pow_zero,Nat.mul_one,a54,Int.cast_ofNat_Int]at this;unfold a3W;rw[this];rfl
theorem b2R(e:n<9223372036854775808)(j:(n:Int)≤most)(f:(P++(a0B n++R)).length<1000000000):
  a0D (rdr P (a0B n++R),most)=some ((n:Int),rdr (P++a0B n) R):=by
 have d:a36 (a13 (P.length:Int)) (a42 (P++(a0B n++R)).length (P++(a0B n++R)))=a0B n++R:=by
  rw[a14,tN,a47]
 have g:((0:Int) != 0)=false:=rfl;have a:decide ((0:Int)≤(P.length:Int))=true:=by simp
 have b:decide ((P.length:Int)≤((P++(a0B n++R)).length:Int))=true:=by simp;omega
 have c:decide ((n:Int) > most)=false:=by simp;omega
 have h:(a0B n++R).length<1000000000:=by rw[lN]at f;omega
 have i:wrap .i64 ((P.length:Int)+((a0B n).length:Int))=(((P++a0B n).length:Nat):Int):=by
  rw[wrap64 (by simp only[lN]at f;omega)];simp
 unfold a0D rdr;simp only[g,cF,a,b,Bool.and_self,cT];rw[d,b1z e h];simp only[oB,beq_self_eq_true,cT,c,cF,g,i,aA]
theorem a5N(f:n<9223372036854775808)(g:(n:Int)≤most)(h:(P++(a0B n++R)).length<1000000):
  a0D (rdr P (a0B n++R),most)=some ((n:Int),rdr (P++a0B n) R):=b2R f g (Nat.lt_trans h (by decide))
def a1s(g:Int):Nat:=if 0≤g then(2*g).toNat else(-2*g-1).toNat
theorem b1A{g:Int}(h:-100000≤g∧g≤100000):a4c g=some ((a1s g:Nat):Int):=by
 unfold a4c a1s
 by_cases hg:0≤g
 have d:decide (g≥0)=true:=by simpa using hg
 rw[d,cT,if_pos hg,a3i (n:=g) (by omega),a3i (by omega),b01 (by omega)];have d:decide (g≥0)=false:=by simp;omega
 rw[d,cF,if_neg hg,wrap64 (n:=g+1) (by omega),wrap64 (by omega),a3i (n:=0-(g+1)) (by omega),a3i (n:=2*(0-(g+1))) (by omega),a3i (by omega),b01 (by omega)];congr 1;omega
theorem a5n{g:Int}{m:Nat}(h:-(m:Int)≤g∧g≤(m:Int)):a1s g≤2*m:=by
 unfold a1s
 split<;>omega
theorem b1B{g:Int}(h:-100000≤g∧g≤100000):a4g ((a1s g:Nat):Int)=some g:=by
 unfold a4g;have f:a28 ((a1s g:Nat):Int) 2=((a1s g%2:Nat):Int):=rfl;have a:b25 ((a1s g:Nat):Int) 2=((a1s g / 2:Nat):Int):=rfl;rw[f,a];unfold a1s
 by_cases hg:0≤g
 rw[if_pos hg];have d:((((2*g).toNat%2:Nat):Int)==0)=true:=by simp;omega
 rw[d,cT,a3i (by omega),wrap64 (by omega)];congr 1;omega;rw[if_neg hg];have d:((((-2*g-1).toNat%2:Nat):Int)==0)=false:=by simp;omega
 rw[d,cF,a3i (by omega),wrap64 (n:=(((-2*g-1).toNat / 2:Nat):Int)) (by omega),wrap64 (n:=0-(((-2*g-1).toNat / 2:Nat):Int)) (by omega),wrap64 (by omega)];congr 1;omega
structure MkOk (m:Mk):Prop where
 s0:0≤m.1
 s4:m.1<4
 a0:0≤m.2.1
 a1:m.2.1≤1000
 p0:0≤m.2.2.1
 p1:m.2.2.1≤50000
def a1N:Int→Int→List Mk→List Int
 |_,_,[]=>[]
 |a,s,m::l=>(a0B m.1.toNat++(a0B (a1s (m.2.1-a))++a0B (a1s (m.2.2.1-s))))++a1N m.2.1 m.2.2.1 l
theorem b5l{x y z:Nat}(g:x<1000000)(f:y<1000000)(a:z<1000000):a1z [(x:Int),(y:Int),(z:Int)]=some (a0B x++(a0B y++a0B z)):=by
 have:=a4I (ns:=[x,y,z]) (fun n h=>by simp only[mC,a49,or_false]at h;omega) (by simp)
 rw[show asI [x,y,z]=[(x:Int),(y:Int),(z:Int)]from rfl]at this;rw[this];simp only[a32,a51,a01]
theorem a6d(h:n<1000000):(a0B n).length≤3:=(a4R 2 n (by omega)).2
theorem b1C:∀(rest done:List Mk)(l:List Mk)(a s:Int)(out:List Int),done++rest=l→(∀m∈rest,MkOk m)→(0≤a∧a≤1000)→(0≤s∧s≤50000)→l.length<100000→out.length+9*rest.length<1000000→
  x0w a2z (a,s,l,((l.length:Nat):Int),((done.length:Nat):Int),out,())=some (out++a1N a s rest,())
 | [],done,l,a,s,out,he,_,_,_,_,_=>by
  rw[a01]at he;subst he;refine a1c ?_
  unfold a2z;simp only;rw[decide_eq_false (by omega),a1N,a01];rfl
 |m::rest,done,l,a,s,out,he,hm,ha,hs,hl,ho=>by
  have h:l.length=done.length+(rest.length+1):=by rw[←he,lN,lC]
  obtain⟨d,e,i,j,o,p⟩:=hm m (by simp);rw[lC]at ho;have b:n0o l ((done.length:Nat):Int)=some m:=by
   rw[a1o (by omega)];congr 1;subst he;rw[a48 (a08 _)]
   simp
  have u:a1s (m.2.1-a)≤2000:=a5n (m:=1000) (by omega);have v:a1s (m.2.2.1-s)≤100000:=a5n (m:=50000) (by omega);have q:=a6d (n:=m.1.toNat) (by omega);have r:=a6d (n:=a1s (m.2.1-a)) (by omega);have t:=a6d (n:=a1s (m.2.2.1-s)) (by omega);have g:wrap .u64 m.1=((m.1.toNat:Nat):Int):=by
   have:=a3j (n:=m.1.toNat) (by omega)
   rwa [show((m.1.toNat:Nat):Int)=m.1 by omega]at this⊢
  have hp:=b5l (x:=m.1.toNat) (y:=a1s (m.2.1-a)) (z:=a1s (m.2.2.1-s)) (by omega) (by omega) (by omega);have step:a2z (a,s,l,((l.length:Nat):Int),((done.length:Nat):Int),out,())=some (.inl (m.2.1,m.2.2.1,l,((l.length:Nat):Int),(((done++[m]).length:Nat):Int),out++(a0B m.1.toNat++(a0B (a1s (m.2.1-a))++a0B (a1s (m.2.2.1-s)))),())):=by
   unfold a2z;simp only;rw[decide_eq_true (show((done.length:Nat):Int)<((l.length:Nat):Int)by omega),b];simp only[cT,oB];rw[w64 (n:=m.2.1-a) (by omega),b1A (by omega)];simp only[oB];rw[w64 (n:=m.2.2.1-s) (by omega),b1A (by omega)];simp only[oB];rw[g,hp];simp only[oB];rw[a0G (by simp only[lN];omega),w64 (by omega),lN];rfl
  rw[a1t step,b1C rest (done++[m]) l m.2.1 m.2.2.1 _ (by rw[←he,aA];rfl) (fun c f=>hm c (by simp[f])) (by omega) (by omega) hl (by simp only[lN];omega)];rw[a1N,aA]
theorem a6e:∀(l:List Mk)(a s:Int),(∀m∈l,MkOk m)→(0≤a∧a≤1000)→(0≤s∧s≤50000)→(a1N a s l).length≤9*l.length
 | [],_,_,_,_,_=>by simp[a1N]
 |m::l,a,s,hm,ha,hs=>by
  obtain⟨f,b,d,e,i,j⟩:=hm m (by simp);have g:=a6e l m.2.1 m.2.2.1 (fun c h=>hm c (by simp[h])) (by omega) (by omega);have r:a1s (m.2.1-a)≤2000:=a5n (m:=1000) (by omega);have t:a1s (m.2.2.1-s)≤100000:=a5n (m:=50000) (by omega);have o:=a6d (n:=m.1.toNat) (by omega);have p:=a6d (n:=a1s (m.2.1-a)) (by omega);have q:=a6d (n:=a1s (m.2.2.1-s)) (by omega);rw[a1N];simp only[lN,lC];omega
def a1C(l:List Mk):List Int:=a0B l.length++a1N 0 0 l
def a2E(l:List Mk):List Int:=a1C l++a0P (a0T (a1C l)).toNat 4
theorem b3J{x:Nat}(g:x<1000000):a1z [(x:Int)]=some (a0B x):=by
 have:=a4I (ns:=[x]) (fun n h=>by simp only[mC,a49,or_false]at h;omega) (by simp)
 rw[show asI [x]=[(x:Int)]from rfl]at this;rw[this];simp only[a32,a51,a01]
theorem a8Z{l:List Mk}(h:∀m∈l,MkOk m)(s:l.length<50000):a3t l=some (a2E l,0):=by
 have w:=a6d (n:=l.length) (by omega);have d:=a6e l 0 0 h (by omega) (by omega);have g:(a1C l).length≤3+9*l.length:=by rw[a1C,lN];omega
 obtain⟨c,t,u⟩:=a5L (l:=a1C l) (by omega);have b:wrap .u64 (a0T (a1C l))=(((a0T (a1C l)).toNat:Nat):Int):=by
  have:=a3j (n:=(a0T (a1C l)).toNat) (by omega)
  rwa [show(((a0T (a1C l)).toNat:Nat):Int)=a0T (a1C l)by omega]at this⊢
 have b2:=a5t (n:=(a0T (a1C l)).toNat) (k:=4) (by omega) (by omega);rw[show((4:Nat):Int)=4 from rfl]at b2;have a:=b1C l [] l 0 0 (a0B l.length) rfl h (by omega) (by omega) (by omega) (by omega);unfold a3t;refine a0E (v:=.inl (l,())) ?_ ?_
 refine a0O (f:=a3o) (fun i=>(l,l,((l.length:Nat):Int),(i:Int),())) l.length (fun i hi=>?_) ?_
 unfold a3o;simp only;obtain⟨e,j,o,p,q,r⟩:=h l[i] (a17 hi);rw[decide_eq_true (show(i:Int)<((l.length:Nat):Int)by omega),a1o hi];simp only[cT,oB,a2d];rw[decide_eq_false (show ¬ (l[i]).1<0 by omega),decide_eq_false (show ¬ (l[i]).1≥4 by omega),decide_eq_true (show(l[i]).2.1≥0 by omega),decide_eq_true (show(l[i]).2.1≤1125899906842624 by omega),decide_eq_true (show(l[i]).2.2.1≥0 by omega),decide_eq_true (show(l[i]).2.2.1≤2147483647 by omega)];simp only[cT,cF,oB,bT];rw[w64 (by omega)];rfl;unfold a3o;simp only;rw[decide_eq_false (by omega)];rfl;simp only;rw[a3j (by omega),b3J (by omega)];simp only[oB];refine a0E a ?_
 simp only;rw[show a0B l.length++a1N 0 0 l=a1C l from rfl];simp only[c,oB,b,b2,a0H];rw[a0G (by omega)];rfl
def a1r(l:List Int):List Int:=l.flatMap fun c=>[wrap .u8 (96+D0o .u8 c 4),wrap .u8 (96+bits .u8 .and c 15)]
theorem a4J(l:List Int):(a1r l).length=2*l.length:=by
 induction l with
 |nil=>rfl
 |cons a l ih=>
  have e:a1r (a::l)=[_,_]++a1r l:=rfl;rw[e,lN,ih,lC];simp only[lC,a03];omega
def a2t(l:List Mk):List Int:=a1r (a2E l)++(a0P (2*(a2E l).length) 4++[75,69,78,68])
theorem a6f{l:List Mk}(h:∀m∈l,MkOk m)(f:l.length<50000):(a2E l).length≤7+9*l.length:=by
 have a:=a6d (n:=l.length) (by omega);have g:=a6e l 0 0 h (by omega) (by omega);rw[a2E,lN,a0H,a1C,lN];omega
theorem b2S(h:∀p∈l,PgOk p∧a4G p)(o:l.length<50000)(c:∀m∈l.flatMap a0L,MkOk m):a3u l=some (a2t (l.flatMap a0L),0):=by
 have q:=a5E l;have j:=a6f c (by omega);unfold a3u;rw[b4h h (by omega)];simp only[oB];rw[a8Z c (by omega)];simp only[oB,bne_self_eq_false,cF];unfold a2t;generalize a2E (l.flatMap a0L)=b at j;have g:=a4J b
 have:=a0O (f:=a3p) (fun i=>(((b.length:Nat):Int),(i:Int),a1r (b.take i),b,())) b.length (b:=(a1r b,())) (fun i hi=>?_) ?_
 refine a0E this ?_
 simp only;have e:wrap .u64 (((a1r b).length:Nat):Int)=((2*b.length:Nat):Int):=by rw[g];exact a3j (by omega)
 have b2:=a5t (n:=2*b.length) (k:=4) (by omega) (by omega);rw[show((4:Nat):Int)=4 from rfl]at b2;rw[e,b2];simp only[oB,a0H,g,a20,lN];rw[a0G (by omega),a0G (by omega)];simp only[cT,aA];unfold a3p;simp only;have e:a1r (b.take (i+1))=a1r (b.take i)++[wrap .u8 (96+D0o .u8 b[i] 4),wrap .u8 (96+bits .u8 .and b[i] 15)]:=by
  unfold a1r;rw[a07 hi,a31,a37]
 have d:a26 b (a13 (i:Int)) 0=b[i]:=by rw[tN,lD,lG hi];rfl
 have a:=a4J (b.take i);rw[a00]at a;rw[decide_eq_true (show(i:Int)<((b.length:Nat):Int)by omega),decide_eq_true (show(0:Int)≤(i:Int)by omega),d,a0G (by omega),e,w64 (by omega)];rfl;unfold a3p;simp only;rw[decide_eq_false (by omega),a14];rfl
def a1O(i:Inf):List Int:=
 (a0B i.1.toNat++(a0B i.2.1.1.toNat++a0B i.2.1.2.1.toNat))++(bif i.1==1 then(a0B i.2.2.1.1.toNat++(a0B i.2.2.1.2.1.toNat++a0B i.2.2.1.2.2.1.toNat))
  else(a0B i.2.2.2.1.toNat++(a0B i.2.2.2.2.1.toNat++(a0B i.2.2.2.2.2.1.toNat++a0B i.2.2.2.2.2.2.1.toNat))))
def a0W(a:List Inf):List Int:=[75,73,78,79,82,65]++(a0B a.length++a.flatMap a1O)
def a2b(a:List Inf):List Int:=a0W a++a0P (a0T (a0W a)).toNat 4
theorem b5m{x y z w:Nat}(f:x<1000000)(a:y<1000000)(b:z<1000000)(g:w<1000000):a1z [(x:Int),(y:Int),(z:Int),(w:Int)]=some (a0B x++(a0B y++(a0B z++a0B w))):=by
 have:=a4I (ns:=[x,y,z,w]) (fun n h=>by simp only[mC,a49,or_false]at h;omega) (by simp)
 rw[show asI [x,y,z,w]=[(x:Int),(y:Int),(z:Int),(w:Int)]from rfl]at this;rw[this];simp only[a32,a51,a01]
theorem b0T{x y z:Nat}(g:x<2000000)(f:y<2000000)(a:z<2000000):a1z [(x:Int),(y:Int),(z:Int)]=some (a0B x++(a0B y++a0B z)):=by
 have:=a4I (ns:=[x,y,z]) (fun n h=>by simp only[mC,a49,or_false]at h;omega) (by simp)
 rw[show asI [x,y,z]=[(x:Int),(y:Int),(z:Int)]from rfl]at this;rw[this];simp only[a32,a51,a01]
theorem a1d(h:n<2000000):(a0B n).length≤3:=(a4R 2 n (by omega)).2
theorem wuI{z:Int}(h:0≤z)(g:z<2000000):wrap .u64 z=((z.toNat:Nat):Int):=by
 have:=a3j (n:=z.toNat) (by omega)
 rwa [show((z.toNat:Nat):Int)=z by omega]at this⊢
theorem a9a{i:Inf}(h:InfOk i):(a1O i).length≤21:=by
 cases h with
 |sound n d r c b hn hd hr hc hb=>
  have g:=a1d (n:=(1:Int).toNat) (by decide);have f:=a1d (n:=n.toNat) (by omega);have a:=a1d (n:=d.toNat) (by omega);have j:=a1d (n:=r.toNat) (by omega);have l:=a1d (n:=c.toNat) (by omega);have m:=a1d (n:=b.toNat) (by omega);unfold a1O;simp only[beq_self_eq_true,cT,lN];omega
 |images n d w h e p hn hd hw hh he hp=>
  have g:=a1d (n:=(2:Int).toNat) (by decide);have f:=a1d (n:=n.toNat) (by omega);have a:=a1d (n:=d.toNat) (by omega);have j:=a1d (n:=w.toNat) (by omega);have l:=a1d (n:=h.toNat) (by omega);have m:=a1d (n:=e.toNat) (by omega);have o:=a1d (n:=p.toNat) (by omega);unfold a1O;rw[show((2:Int)==1)=false by decide];simp only[cF,lN];omega
theorem b1D{n:Int}{k:Nat}{out:List Int}(j:k<a.length)(f:n=((a.length:Nat):Int))(hi:InfOk a[k])(v:out.length<100000)(u:a.length<1000):
  a2A (a,n,(k:Int),out,())=some (.inl (a,n,((k+1:Nat):Int),out++a1O a[k],())):=by
 unfold a2A;simp only;rw[decide_eq_true (show(k:Int)<n by omega),a1o j,w64 (n:=(k:Int)+1) (by omega)];simp only[cT,oB];generalize a[k]=i at hi;cases hi with
 |sound n d r c b f hd hr hc hb=>
  have l:=a1d (n:=(1:Int).toNat) (by decide);have m:=a1d (n:=n.toNat) (by omega);have o:=a1d (n:=d.toNat) (by omega);have q:=a1d (n:=r.toNat) (by omega);have s:=a1d (n:=c.toNat) (by omega);have t:=a1d (n:=b.toNat) (by omega);simp only;rw[wuI (z:=1) (by decide) (by decide),wuI (z:=n) (by omega) (by omega),wuI (z:=d) (by omega) (by omega),wuI (z:=r) (by omega) (by omega),wuI (z:=c) (by omega) (by omega),wuI (z:=b) (by omega) (by omega)];rw[b0T (by decide) (by omega) (by omega),b0T (by omega) (by omega) (by omega)];simp only[oB,beq_self_eq_true,cT,a20,lN];rw[a0G (by omega),a0G (by omega)];simp only[cT,a1O,beq_self_eq_true,aA];rfl
 |images n d w h e p f hd hw hh he hp=>
  have l:=a1d (n:=(2:Int).toNat) (by decide);have m:=a1d (n:=n.toNat) (by omega);have o:=a1d (n:=d.toNat) (by omega);have q:=a1d (n:=w.toNat) (by omega);have s:=a1d (n:=h.toNat) (by omega);have t:=a1d (n:=e.toNat) (by omega);have x:=a1d (n:=p.toNat) (by omega);simp only;rw[wuI (z:=2) (by decide) (by decide),wuI (z:=n) (by omega) (by omega),wuI (z:=d) (by omega) (by omega),wuI (z:=w) (by omega) (by omega),wuI (z:=h) (by omega) (by omega),wuI (z:=e) (by omega) (by omega),wuI (z:=p) (by omega) (by omega)];rw[b0T (by decide) (by omega) (by omega),b5m (by omega) (by omega) (by omega) (by omega)];have g:((2:Int)==1)=false:=by decide
  simp only[oB,g,cF,cT,a20,lN];rw[a0G (by omega),a0G (by omega)];simp only[cT,cF,a1O,g,aA];rfl
theorem a5w:∀(a:List Inf),(∀i∈a,InfOk i)→(a.flatMap a1O).length≤21*a.length
 | [],_=>by simp
 |i::a,h=>by
  have f:=a9a (h i (by simp));have b:=a5w a fun j g=>h j (by simp[g]);rw[a32,lN,lC];omega
theorem a9Z(h:∀i∈a,InfOk i)(p:a.length≤4):a2H a=some (a2b a):=by
 have t:=a1d (n:=a.length) (by omega);have q:=a5w a h;have c:(a0W a).length≤93:=by
  simp only[a0W,lN,lC,a03];omega
 obtain⟨m,r,s⟩:=a5L (l:=a0W a) (by omega);have e:wrap .u64 (a0T (a0W a))=(((a0T (a0W a)).toNat:Nat):Int):=by
  have:=a3j (n:=(a0T (a0W a)).toNat) (by omega)
  rwa [show(((a0T (a0W a)).toNat:Nat):Int)=a0T (a0W a)by omega]at this⊢
 have b2:=a5t (n:=(a0T (a0W a)).toNat) (k:=4) (by omega) (by omega);rw[show((4:Nat):Int)=4 from rfl]at b2;unfold a2H;rw[a3j (by omega),b3J (by omega)];simp only[oB];rw[a0G (by omega)];simp only[cT]
 have:=a0O (f:=a2A) (fun k=>(a,((a.length:Nat):Int),(k:Int),[75,73,78,79,82,65]++(a0B a.length++(a.take k).flatMap a1O),())) a.length (b:=(a0W a,())) (fun k g=>?_) ?_
 rw[a43,a51,a01]at this;refine a0E this ?_
 simp only[m,oB,e,b2,a0H];rw[a0G (by omega)];rfl;have hi:=a5w (a.take k) fun j d=>h j (a27 d);rw[a00]at hi;have o:=b1D (a:=a) (n:=((a.length:Nat):Int)) (k:=k) (out:=[75,73,78,79,82,65]++(a0B a.length++(a.take k).flatMap a1O)) g rfl (h _ (a17 g)) (by simp only[lN,lC,a03];omega) (by omega);rw[o,a07 g,a31,a37];simp only[aA];unfold a2A;simp only;rw[decide_eq_false (by omega),a14];rfl
theorem wI{z:Int}(h:0≤z)(g:z<2000000):wrap .i64 ((z.toNat:Nat):Int)=z:=by rw[w64 (by omega)];omega
theorem a4S{z:Int}(g:0≤z)(f:z<2000000)(a:z≤most)(h:(P++(a0B z.toNat++R)).length<1000000):
  a0D (rdr P (a0B z.toNat++R),most)=some (((z.toNat:Nat):Int),rdr (P++a0B z.toNat) R):=a5N (by omega) (by omega) h
theorem b2T{i:Inf}(h:InfOk i)(g:(P++(a1O i++R)).length<900000):a4d (rdr P (a1O i++R))=some (i,rdr (P++a1O i) R):=by
 have a:=a9a h;simp only[lN]at g;cases h with
 |sound n d r c b hn hd hr hc hb=>
  have l:=a1d (n:=(1:Int).toNat) (by decide);have m:=a1d (n:=n.toNat) (by omega);have o:=a1d (n:=d.toNat) (by omega);have q:=a1d (n:=r.toNat) (by omega);have s:=a1d (n:=c.toNat) (by omega);have t:=a1d (n:=b.toNat) (by omega);have e:a1O (1,(n,d,()),(r,c,b,()),0,0,0,0,())=a0B (1:Int).toNat++(a0B n.toNat++(a0B d.toNat++(a0B r.toNat++(a0B c.toNat++a0B b.toNat)))):=by
   unfold a1O;simp only[beq_self_eq_true,cT,aA]
  rw[e]at g⊢;simp only[lN]at g;simp only[aA];unfold a4d;rw[a4S (z:=1) (by decide) (by decide) (by decide) (by simp only[lN];omega)];simp only[oB];rw[a4S (z:=n) (by omega) (by omega) (by omega) (by simp only[lN];omega)];simp only[oB];rw[a4S (z:=d) (by omega) (by omega) (by omega) (by simp only[lN];omega)];simp only[oB];rw[wI (z:=1) (by decide) (by decide)];simp only[beq_self_eq_true,cT];rw[a4S (z:=r) (by omega) (by omega) (by omega) (by simp only[lN];omega)];simp only[oB];rw[a4S (z:=c) (by omega) (by omega) (by omega) (by simp only[lN];omega)];simp only[oB];rw[a4S (z:=b) (by omega) (by omega) (by omega) (by simp only[lN];omega)];simp only[oB];rw[wI (z:=n) (by omega) (by omega),wI (z:=d) (by omega) (by omega),wI (z:=r) (by omega) (by omega),wI (z:=c) (by omega) (by omega),wI (z:=b) (by omega) (by omega)];simp only[aA]
 |images n d w h e p hn hd hw hh he hp=>
  have l:=a1d (n:=(2:Int).toNat) (by decide);have m:=a1d (n:=n.toNat) (by omega);have o:=a1d (n:=d.toNat) (by omega);have q:=a1d (n:=w.toNat) (by omega);have s:=a1d (n:=h.toNat) (by omega);have t:=a1d (n:=e.toNat) (by omega);have u:=a1d (n:=p.toNat) (by omega);have f:((2:Int)==1)=false:=by decide
  have j:a1O (2,(n,d,()),(0,0,0,()),w,h,e,p,())=a0B (2:Int).toNat++(a0B n.toNat++(a0B d.toNat++(a0B w.toNat++(a0B h.toNat++(a0B e.toNat++a0B p.toNat))))):=by
   unfold a1O;simp only[f,cF,aA]
  rw[j]at g⊢;simp only[lN]at g;simp only[aA];unfold a4d;rw[a4S (z:=2) (by decide) (by decide) (by decide) (by simp only[lN];omega)];simp only[oB];rw[a4S (z:=n) (by omega) (by omega) (by omega) (by simp only[lN];omega)];simp only[oB];rw[a4S (z:=d) (by omega) (by omega) (by omega) (by simp only[lN];omega)];simp only[oB];rw[wI (z:=2) (by decide) (by decide)];simp only[f,cF];rw[a4S (z:=w) (by omega) (by omega) (by omega) (by simp only[lN];omega)];simp only[oB];rw[a4S (z:=h) (by omega) (by omega) (by omega) (by simp only[lN];omega)];simp only[oB];rw[a4S (z:=e) (by omega) (by omega) (by omega) (by simp only[lN];omega)];simp only[oB];rw[a4S (z:=p) (by omega) (by omega) (by omega) (by simp only[lN];omega)];simp only[oB];rw[wI (z:=n) (by omega) (by omega),wI (z:=d) (by omega) (by omega),wI (z:=w) (by omega) (by omega),wI (z:=h) (by omega) (by omega),wI (z:=e) (by omega) (by omega),wI (z:=p) (by omega) (by omega)];simp only[aA]
theorem a7t{x:List Int}:∀(rest:List Inf)(out:List Inf)(P R:List Int),(∀i∈rest,InfOk i)→(P++(rest.flatMap a1O++R)).length<800000→out.length+rest.length<100→
  x0w a3f (x,((rest.length:Nat):Int),out,rdr P (rest.flatMap a1O++R),())=some (x,out++rest,rdr (P++rest.flatMap a1O) R,())
 | [],out,P,R,_,_,_=>by
  refine a1c ?_
  unfold a3f;simp only;rw[decide_eq_false (by simp)];simp only[cF,a01,a51,a05]
 |i::rest,out,P,R,h,hl,ho=>by
  rw[a32]at hl⊢;rw[lC]at ho;have g:=hl;simp only[lN]at g;have step:a3f (x,(((i::rest).length:Nat):Int),out,rdr P ((a1O i++rest.flatMap a1O)++R),())=some (.inl (x,((rest.length:Nat):Int),out++[i],rdr (P++a1O i) (rest.flatMap a1O++R),())):=by
   unfold a3f;simp only;rw[decide_eq_true (show(((i::rest).length:Nat):Int) > 0 by simp only[lC];omega),aA,b2T (h i (by simp)) (by simp only[lN];omega)];simp only[cT,oB];have w:wrap .u64 ((((i::rest).length:Nat):Int)-1)=((rest.length:Nat):Int):=by
    rw[show(((i::rest).length:Nat):Int)-1=((rest.length:Nat):Int)by simp only[lC];omega];exact a3j (by omega)
   rw[a0G (by omega),w];rfl
  rw[a1t step,a7t rest (out++[i]) (P++a1O i) R (fun j f=>h j (by simp[f])) (by simp only[lN];omega) (by simp only[lN,a06];omega)];simp only[aA,a41]
theorem b2U{r:List Int×(Int×Int×Unit)}(h:∀i∈a,InfOk i)(b:a.length<1000):x0w a3g (x,((a.length:Nat):Int),(0:Int),a,r,())=some (.inl (x,a,r,())):=by
 refine a0O (f:=a3g) (fun i=>(x,((a.length:Nat):Int),(i:Int),a,r,())) a.length (fun i hi=>?_) ?_
 unfold a3g;simp only;have g:∀z,a26 a (a13 (i:Int)) z=a[i]:=fun z=>by rw[tN,lD,lG hi];rfl
 rw[decide_eq_true (show(i:Int)<((a.length:Nat):Int)by omega),decide_eq_true (show(0:Int)≤(i:Int)by omega),g,b1v (h _ (a17 hi))];simp only[cT,a11,oB,bT,cF];rw[w64 (by omega)];rfl;unfold a3g;simp only;rw[decide_eq_false (by omega)];rfl
theorem b2o(h:∀i∈a,InfOk i)(u:1≤a.length)(v:a.length≤4)(y:R.length<500000):a2U (a2b a++R)=some (a,(((a2b a).length:Nat):Int),0):=by
 have D:=a1d (n:=a.length) (by omega);have z:=a5w a h;have w:(a0W a).length=6+((a0B a.length).length+(a.flatMap a1O).length):=by
  simp only[a0W,lN,lC,a03]
 have f:(a2b a).length=(a0W a).length+4:=by rw[a2b,lN,a0H]
 obtain⟨s,B,C⟩:=a5L (l:=a0W a) (by omega);have e:a2b a++R=[75,73,78,79,82,65]++(a0B a.length++(a.flatMap a1O++(a0P (a0T (a0W a)).toNat 4++R))):=by
  simp only[a2b,a0W,aA]
 have b:(a2b a++R).length=(a0W a).length+4+R.length:=by rw[lN,f]
 unfold a2U;rw[b,decide_eq_false (show ¬ (((a0W a).length+4+R.length:Nat):Int)<6 by omega),decide_eq_true (show(6:Int)≤(((a0W a).length+4+R.length:Nat):Int)by omega)];have o:a42 6 (a2b a++R)=[75,73,78,79,82,65]:=by rw[e];rfl
 have j:(b2s ([75,73,78,79,82,65]:List Int) != ([75,73,78,79,82,65]:List Int))=false:=by decide
 rw[o,j,a5u (by omega)];simp only[cF,cT,oB];rw[e];have c:=a9X (P:=[]) (A:=[75,73,78,79,82,65]) (R:=a0B a.length++(a.flatMap a1O++(a0P (a0T (a0W a)).toNat 4++R))) (by rw[a05,←e,b];omega);rw[show((([75,73,78,79,82,65]:List Int).length:Nat):Int)=6 from rfl]at c;rw[c];simp only[oB];rw[a5N (n:=a.length) (by omega) (by omega) (by simp only[lN,a0H,lC,a03];omega)];simp only[oB];have r:=a7t (x:=[75,73,78,79,82,65]++(a0B a.length++(a.flatMap a1O++(a0P (a0T (a0W a)).toNat 4++R)))) a [] ([]++[75,73,78,79,82,65]++a0B a.length) (a0P (a0T (a0W a)).toNat 4++R) h (by simp only[lN,a0H,lC,a03];omega) (by simp only[a03];omega);refine a0E r ?_
 have m:[]++[75,73,78,79,82,65]++a0B a.length++a.flatMap a1O=a0W a:=by simp only[a0W,aA,a05]
 rw[m];simp only[a05,a1G,rdr,oB,bne_self_eq_false,cF];have p:(((a.length:Nat):Int)==0)=false:=by rw[beq_eq_false_iff_ne];omega
 rw[p];simp only[cF];refine a0E (b2U h (by omega)) ?_
 simp only[a1B,a2X,oB];have g:=a4n (P:=a0W a) (R:=R) (n:=(a0T (a0W a)).toNat) (k:=4) (by omega) (by rw[show 256^4=4294967296 by decide];omega) (by simp only[lN,a0H];omega);simp only[rdr]at g;rw[show((4:Nat):Int)=4 from rfl]at g;have q:wrap .u64 (a0T (a0W a))=(((a0T (a0W a)).toNat:Nat):Int):=by
  have:=a3j (n:=(a0T (a0W a)).toNat) (by omega)
  rwa [show(((a0T (a0W a)).toNat:Nat):Int)=a0T (a0W a)by omega]at this⊢
 have t:wrap .i64 (((a0W a++(a0P (a0T (a0W a)).toNat 4++R)).length:Int)-(((a0W a).length:Nat):Int))=((4+R.length:Nat):Int):=by
  rw[w64 (by simp only[lN,a0H];omega)];simp only[lN,a0H];omega
 have d:[75,73,78,79,82,65]++(a0B a.length++(a.flatMap a1O++(a0P (a0T (a0W a)).toNat 4++R)))=a0W a++(a0P (a0T (a0W a)).toNat 4++R):=by simp only[a0W,aA]
 rw[t,d,decide_eq_false (show ¬ ((4+R.length:Nat):Int)<4 by omega),decide_eq_true (show(0:Int)≤(((a0W a).length:Nat):Int)by omega),decide_eq_true (show(((a0W a).length:Nat):Int)≤(((a0W a++(a0P (a0T (a0W a)).toNat 4++R)).length:Nat):Int)by simp only[lN];omega),tN,a65];simp only[cF,cT,a11,s,oB,g,q,bne_self_eq_false];rw[lN,a0H,f]
structure Drawn (n:Nat) (a:List Inf) (L:List (List Pk)):Prop where
 len:a.length=L.length
 inf:∀i∈a,InfOk i
 str:StrOk n L
structure Woven (Z:List Pk):Prop where
 pk:∀p∈Z,a4N p
 len:Z.length≤32
 asc:Asc Z
def a0F(Z:List Pk):List Pge:=a0N 0 (Z.map a0K)
theorem a9b(h:Woven Z):∀b∈Z.map a0K,b.length≤918:=by
 intro b g;obtain⟨p,hp,rfl⟩:=List.mem_map.1 g;obtain⟨s,f,_⟩:=h.pk p hp
 have:=f.dat
 rw[a3M];omega
theorem a4Z(h:Woven Z):(a0F Z).length≤29376:=by
 have:=a7p (Z.map a0K) 0 918 (a9b h)
 rw[a59]at this;have g:=h.len;unfold a0F;omega
theorem a5x(h:Woven Z):∀(i:Nat)(p:Pge),(a0F Z)[i]?=some p→p.1=(i:Int)∧PgPlain p:=by
 intro i p hp;have f:=h.len
 have:=a7U (Z.map a0K) 0 (fun b g=>Nat.le_trans (a9b h b g) (by decide)) (by rw[a59];omega) i p hp
 rw[a54]at this;exact this
theorem a4X(h:Woven Z):∀p∈a0F Z,PgPlain p:=by
 intro p hp;obtain⟨i,hi⟩:=a34 hp;exact(a5x h i p hi).2
theorem b1E(h:Woven Z):b0R (a0F Z):=fun i p hp=>(a5x h i p hp).1
theorem a6g(h:Woven Z):∀p∈a0F Z,a4G p:=a6U Z 0 h.pk
theorem b1F(h:Woven Z):∀p∈a0F Z,0≤p.1∧p.1≤50000:=by
 intro p hp;obtain⟨i,hi⟩:=a34 hp;have g:=(a5x h i p hi).1;have f:=(lS.1 hi).1;have a:=a4Z h;omega
theorem b2p{P:List Pge}(d:∀p∈P,a4G p)(i:∀p∈P,0≤p.1∧p.1≤50000):∀m∈P.flatMap a0L,MkOk m:=by
 intro m h;obtain⟨p,hp,h⟩:=a90.1 h
 by_cases f:p.2.1=true
 ·by_cases g:p.2.2.2.1=true
  rw[a5v g]at h;cases h
  ·have g:p.2.2.2.1=false:=by simpa using g
   obtain⟨q,⟨s,a,b,c⟩,e,_⟩:=d p hp f g;rw[a4W f g ⟨s,a,b,c⟩ e]at h;cases hk:q.2.2.2.1 with
   |false=>rw[hk]at h;cases h
   |true=>
    rw[hk]at h;have h:=a23.1 (show m∈[(q.1,q.2.1,p.1,())]from h);subst h;obtain⟨j,l⟩:=i p hp;exact⟨by rw[a.st];exact b,by rw[a.st];exact c,a.at0,a.at1,j,l⟩
 have f:p.2.1=false:=by simpa using f
 have e:a0L p=[]:=by unfold a0L;rw[f];rfl
 rw[e]at h;cases h
def a3N(Z:List Pk):List Int:=a0Y (a0V (a0F Z))
def a2R(a:List Inf)(Z:List Pk):List Int:=a2b a++(a3N Z++a2t ((a0F Z).flatMap a0L))
theorem a9c(h:Woven Z):a3d (a0F Z)=some (a0V (a0F Z),0):=b1x (a4X h) (b1E h) (by have:=a4Z h;omega)
theorem a7u(h:Woven Z):∀q∈a0V (a0F Z),PgOk q:=a7r _ _ (a08 _) (a4X h)
theorem a9d(h:Woven Z):(a0V (a0F Z)).length≤58752:=by
 have:=a4E _ _ (a08 (a0F Z).length)
 have:=a4Z h
 omega
theorem a9e:∀(n:Nat)(f:Bool)(s:Nat)(r:List Int),r.length≤252*n→(a1H f s r).length≤n
 |0,f,s,r,h=>by
  have:r=[]:=a24.1 (by omega)
  subst this;rw[a2C];exact a08 _
 |n+1,f,s,r,h=>by
  by_cases hr:r=[]
  subst hr;rw[a2C];exact Nat.zero_le _;rw[a2v hr,lC]
  have:=a9e n false (s+1) (r.drop 252) (by rw[a02];omega)
  omega
theorem a7v:∀(bs:List (List Int)) (s:Nat),(∀b∈bs,b.length≤918)→(a0N s bs).length≤4*bs.length
 | [],s,_=>by simp[a0N]
 |b::bs,s,h=>by
  have f:=a9e 4 true s b (by have:=h b (by simp);omega);have a:=a7v bs (s+(a1H true s b).length) fun c g=>h c (by simp[g]);rw[a0N,lN,lC];omega
theorem a6C(h:Woven Z):(a0F Z).length≤128:=by
 have:=a7v (Z.map a0K) 0 (a9b h)
 rw[a59]at this
 have:=h.len
 unfold a0F;omega
theorem a6h(h:Woven Z):(a3N Z).length≤68352:=by
 have g:=a6a _ (a7u h);have f:=a4E _ _ (a08 (a0F Z).length);have a:=a6C h;unfold a3N;omega
theorem b2V(h:Woven Z):∀q∈a0V (a0F Z),a4G q:=a6T _ _ (a08 _) (a4X h) (a6g h)
theorem b2q(h:Woven Z):(a0V (a0F Z)).flatMap a0L=(a0F Z).flatMap a0L:=a6B _ _ (a08 _) (a4X h)
theorem a5y(h:Woven Z):∀m∈(a0F Z).flatMap a0L,MkOk m:=b2p (a6g h) (b1F h)
theorem a7w(h:Woven Z):((a0F Z).flatMap a0L).length≤128:=Nat.le_trans (a5E _) (a6C h)
theorem b0U(h:Woven Z):a3u (a0V (a0F Z))=some (a2t ((a0F Z).flatMap a0L),0):=by
 have e:=b2q h;rw[←e];refine b2S (fun p hp=>⟨a7u h p hp,b2V h p hp⟩) ?_ ?_
 have:=a4E _ _ (a08 (a0F Z).length)
 have:=a6C h
 omega;rw[e];exact a5y h
theorem a7h(h:Woven Z):(a2t ((a0F Z).flatMap a0L)).length≤2400:=by
 have g:=a6f (a5y h) (by have:=a7w h;omega);have f:=a7w h;rw[a2t,lN,a4J,lN,a0H];simp only[lC,a03];omega
theorem Drawn.weave(h:Drawn n a L)(f:n≤8):∃Z,a2T L=some (Z,0)∧Woven Z∧Stb L.flatten Z:=by
 obtain⟨Z,b,c,g⟩:=b2i h.str f;refine⟨Z,b,⟨fun p hp=>?_,?_,c⟩,g⟩;have hp:=(g.perm.mem_iff).1 hp;obtain⟨l,d,hp⟩:=List.mem_flatten.1 hp;obtain⟨i,hi⟩:=a34 d
 have:=(lS.1 hi).1
 have:=h.str.four
 exact⟨(i:Int),(h.str.ok i l hi).ok p hp,by omega,by omega⟩;rw[g.perm.length_eq]
 have:=a5Z h.str.lens
 have:=h.str.four
 have:n*L.length≤8*4:=a97 f this
 omega
theorem b3K(h:∀i∈a,InfOk i)(g:a.length≤4):(a2b a).length≤200:=by
 have b:=a1d (n:=a.length) (by omega);have f:=a5w a h;rw[a2b,lN,a0H,a0W,lN,lN];simp only[lC,a03];omega
theorem a6W(h:Woven Z):a3b (Z,0)=some (a0F Z,0):=b2j h.pk (by have:=h.len;omega)
theorem b1G(h:∀i∈a,InfOk i)(g:a.length<1000):x0w a2O (a,L,a,((a.length:Nat):Int),(0:Int),())=some (.inl (a,L,())):=by
 have:=a0O (f:=a2O) (fun i=>(a,L,a,((a.length:Nat):Int),(i:Int),())) a.length (b:=.inl (a,L,())) (fun i hi=>?_) ?_
 exact this;unfold a2O;simp only;rw[decide_eq_true (show(i:Int)<((a.length:Nat):Int)by omega),a1o hi];simp only[cT,oB,b1v (h _ (a17 hi)),bT,cF];rw[w64 (by omega)];rfl;unfold a2O;simp only;rw[decide_eq_false (by omega)];rfl
theorem Drawn.write(h:Drawn n a L)(d:a2T L=some (Z,0))(g:Woven Z):a2h (a,L)=some (a2R a Z,0):=by
 have i:=h.str.one;have j:=h.str.four;have c:=h.len;have b1:=a6h g;have b2:=a7h g;have e:=b3K h.inf (by omega);have f:a3e (a0V (a0F Z))=some (a3N Z,0):=a7V (a7u g) (by have:=a9d g;omega);unfold a2h;simp only;have b:(((L.length:Nat):Int) != ((a.length:Nat):Int))=false:=by rw[c,bne_self_eq_false]
 rw[decide_eq_false (show ¬ ((a.length:Nat):Int)<1 by omega),decide_eq_false (show ¬ ((a.length:Nat):Int) > 4 by omega),b];simp only[cF,oB];refine a0E (b1G h.inf (by omega)) ?_
 simp only[d,oB,bne_self_eq_false,cF,a6W g,a9c g,f,b0U g,a9Z h.inf (by omega),a20,lN];rw[a0G (by omega),a0G (by omega)];simp only[cT,a2R,aA]
def pgF(p:Pge):Int:=bits .u8 .or (bits .u8 .or (bif p.2.1 then 1 else 0) (bif p.2.2.1 then 2 else 0)) (bif p.2.2.2.1 then 4 else 0)
theorem b2W(p:Pge):pgF p=(bif p.2.1 then 1 else 0)+((bif p.2.2.1 then 2 else 0)+(bif p.2.2.2.1 then 4 else 0)):=by
 unfold pgF;cases p.2.1<;>cases p.2.2.1<;>cases p.2.2.2.1<;>decide
theorem b2r(p:Pge):0≤pgF p∧pgF p≤7∧((bits .u64 .and (pgF p) 1) != 0)=p.2.1∧((bits .u64 .and (pgF p) 2) != 0)=p.2.2.1∧((bits .u64 .and (pgF p) 4) != 0)=p.2.2.2.1:=by
 rw[b2W];cases p.2.1<;>cases p.2.2.1<;>cases p.2.2.2.1<;>decide
theorem a9f(p:Pge):pgB p=[75,80]++(([pgF p]++(a0P p.1.toNat 4++[wrap .u8 ((p.2.2.2.2.1.length:Nat):Int)]))++(p.2.2.2.2.1++a0P (a0T (pgH p)).toNat 4)):=by
 simp only[pgB,pgH,pgF,aA,a09,a05]
theorem b2t(hp:PgOk p)(B:(P++(pgB p++R)).length<1000000):a3v (P++(pgB p++R),((P.length:Nat):Int))=some (p,(((pgB p).length:Nat):Int),0):=by
 obtain⟨O,Q,S,y⟩:=hp;have g:p.2.2.2.2.1.length≤255:=by
  revert y
  cases p.2.2.2.1<;>simp only[cT,cF]<;>omega
 have h:=a6K p;have f:=a6J p;simp only[lN]at B;have C:a1U p.2.2.2.1=some (((bif p.2.2.2.1 then 255 else 252:Nat):Nat):Int):=by
  unfold a1U;cases p.2.2.2.1<;>rfl
 obtain⟨H,T,U⟩:=a5L (l:=pgH p) (by omega);have E:wrap .u64 (a0T (pgH p))=(((a0T (pgH p)).toNat:Nat):Int):=by
  have:=a3j (n:=(a0T (pgH p)).toNat) (by omega)
  rwa [show(((a0T (pgH p)).toNat:Nat):Int)=a0T (pgH p)by omega]at this⊢
 obtain⟨M,N,u,v,w⟩:=b2r p;have a:wrap .u8 ((p.2.2.2.2.1.length:Nat):Int)=((p.2.2.2.2.1.length:Nat):Int):=b0Q (by omega);generalize hD:pgB p++R=D;have z:D.length=12+p.2.2.2.2.1.length+R.length:=by rw[←hD,lN,h]
 have q:a36 (a13 ((P.length:Nat):Int)) (a42 (P++D).length (P++D))=D:=by rw[tN,a14,a47]
 have j:n0o D 0=some 75:=by rw[←hD,a9f];rfl
 have m:n0o D 1=some 80:=by rw[←hD,a9f];rfl
 have s:a36 2 (a42 8 D)=[pgF p]++(a0P p.1.toNat 4++[wrap .u8 ((p.2.2.2.2.1.length:Nat):Int)]):=by
  rw[←hD,a9f]
  have:([75,80]++(([pgF p]++(a0P p.1.toNat 4++[wrap .u8 ((p.2.2.2.2.1.length:Nat):Int)]))++(p.2.2.2.2.1++a0P (a0T (pgH p)).toNat 4))++R:List Int)=([75,80]++([pgF p]++(a0P p.1.toNat 4++[wrap .u8 ((p.2.2.2.2.1.length:Nat):Int)])))++(p.2.2.2.2.1++a0P (a0T (pgH p)).toNat 4++R):=by
   simp only[aA]
  rw[this,a93 (by simp only[lN,a0H,lC,a03])];rfl
 have r:a42 (8+p.2.2.2.2.1.length) D=pgH p:=by
  rw[←hD,pgB,aA,←f,a65]
 have o:a36 8 (pgH p)=p.2.2.2.2.1:=by
  have:pgH p=([75,80]++([pgF p]++(a0P p.1.toNat 4++[wrap .u8 ((p.2.2.2.2.1.length:Nat):Int)])))++p.2.2.2.2.1:=by
   simp only[pgH,pgF,aA,a09,a05]
  rw[this,a94 (by simp only[lN,a0H,lC,a03])]
 have t:a36 (8+p.2.2.2.2.1.length) (a42 (12+p.2.2.2.2.1.length) D)=a0P (a0T (pgH p)).toNat 4:=by
  have:a42 (12+p.2.2.2.2.1.length) D=pgB p:=by rw[←hD,←h,a65]
  rw[this,pgB,←f,a47]
 have e:=a5M (P:=[]) (A:=[pgF p]) (R:=a0P p.1.toNat 4++[wrap .u8 ((p.2.2.2.2.1.length:Nat):Int)]) (by simp) (fun b g=>by rw[a23]at g;rw[g];omega) (by simp only[lN,a0H,lC,a03];omega);have r2:=a4n (P:=[]++[pgF p]) (R:=[wrap .u8 ((p.2.2.2.2.1.length:Nat):Int)]) (n:=p.1.toNat) (k:=4) (by omega) (by rw[show 256^4=4294967296 by decide];omega) (by simp only[lN,a0H,lC,a03];omega);have i:=a5M (P:=[]++[pgF p]++a0P p.1.toNat 4) (A:=[wrap .u8 ((p.2.2.2.2.1.length:Nat):Int)]) (R:=[]) (by simp) (fun b g=>by rw[a23]at g;rw[g];exact wu8 _) (by simp only[lN,a0H,lC,a03];omega);have c:=a4n (P:=[]) (R:=[]) (n:=(a0T (pgH p)).toNat) (k:=4) (by omega) (by rw[show 256^4=4294967296 by decide];omega) (by simp only[lN,a0H,lC,a03];omega);rw[show((([pgF p]:List Int).length:Nat):Int)=1 from rfl,show a3A [pgF p]=pgF p by simp[a3A]]at e;rw[show((([wrap .u8 ((p.2.2.2.2.1.length:Nat):Int)]:List Int).length:Nat):Int)=1 from rfl,show a3A [wrap .u8 ((p.2.2.2.2.1.length:Nat):Int)]=((p.2.2.2.2.1.length:Nat):Int)by simp[a3A,a],a01]at i;rw[show((4:Nat):Int)=4 from rfl]at r2 c;rw[a01]at c;rw[show((p.1.toNat:Nat):Int)=p.1 by omega]at r2;have K:wrap .i64 ((p.2.2.2.2.1.length:Nat):Int)=((p.2.2.2.2.1.length:Nat):Int):=w64 (by omega);have I:wrap .i64 (8+((p.2.2.2.2.1.length:Nat):Int))=((8+p.2.2.2.2.1.length:Nat):Int):=by rw[w64 (by omega)];omega
 have d:wrap .i64 (((8+p.2.2.2.2.1.length:Nat):Int)+4)=((12+p.2.2.2.2.1.length:Nat):Int):=by rw[w64 (by omega)];omega
 have L:wrap .i64 p.1=p.1:=w64 (by omega);have F:a1A ([pgF p]++(a0P p.1.toNat 4++[wrap .u8 ((p.2.2.2.2.1.length:Nat):Int)]))=some (rdr [] ([pgF p]++(a0P p.1.toNat 4++[wrap .u8 ((p.2.2.2.2.1.length:Nat):Int)]))):=a5u (by simp only[lN,a0H,lC,a03];omega);have G:a1A (a0P (a0T (pgH p)).toNat 4)=some (rdr [] (a0P (a0T (pgH p)).toNat 4)):=a5u (by rw[a0H];omega);unfold a3v;rw[decide_eq_false (show ¬ ((P.length:Nat):Int)<0 by omega),decide_eq_false (show ¬ ((P.length:Nat):Int) > (((P++D).length:Nat):Int)by rw[lN];omega)];simp only[cF,oB];rw[decide_eq_true (show(0:Int)≤((P.length:Nat):Int)by omega),decide_eq_true (show((P.length:Nat):Int)≤(((P++D).length:Nat):Int)by rw[lN];omega),q,j,m];rw[decide_eq_false (show ¬ ((D.length:Nat):Int)<2 by omega)];simp only[cF,cT,a11,oB,bne_self_eq_false];rw[decide_eq_false (show ¬ ((D.length:Nat):Int)<8 by omega),decide_eq_true (show(8:Int)≤((D.length:Nat):Int)by omega),s,F];simp only[cF,cT,oB,e,r2,i];rw[decide_eq_false (show ¬ pgF p > 7 by omega),decide_eq_false (show ¬ p.1 > 2147483647 by omega),K,decide_eq_false (show ¬ ((p.2.2.2.2.1.length:Nat):Int)<1 by omega),w,C];simp only[cF,cT,oB];rw[decide_eq_false (show ¬ ((p.2.2.2.2.1.length:Nat):Int) > (((bif p.2.2.2.1 then 255 else 252:Nat):Nat):Int)by omega),I,d];simp only[cF,tN,t,r,G,oB];rw[decide_eq_false (show ¬ ((D.length:Nat):Int)<((12+p.2.2.2.2.1.length:Nat):Int)by omega),decide_eq_true (show(0:Int)≤((12+p.2.2.2.2.1.length:Nat):Int)by omega),decide_eq_true (show((12+p.2.2.2.2.1.length:Nat):Int)≤((D.length:Nat):Int)by omega),decide_eq_true (show(0:Int)≤((8+p.2.2.2.2.1.length:Nat):Int)by omega),decide_eq_true (show((8+p.2.2.2.2.1.length:Nat):Int)≤((12+p.2.2.2.2.1.length:Nat):Int)by omega),decide_eq_true (show((8+p.2.2.2.2.1.length:Nat):Int)≤((D.length:Nat):Int)by omega),decide_eq_true (show(8:Int)≤((8+p.2.2.2.2.1.length:Nat):Int)by omega)];simp only[cF,cT,a11,c,H,E,o,oB,bne_self_eq_false,a5Y (x:=p.2.2.2.2.1) (by omega),L,u,v,h]
def b3L:List Int→Prop
 | []=>True
 | [_]=>True
 |a::b::_=>a≠75∨b≠80
theorem b2u{D:List Int}(h:b3L D):∃e,a3v (P++D,((P.length:Nat):Int))=some (((0:Int),false,false,false,([]:List Int),()),(0:Int),e)∧e≠0:=by
 have d:a36 (a13 ((P.length:Nat):Int)) (a42 (P++D).length (P++D))=D:=by rw[tN,a14,a47]
 unfold a3v;rw[decide_eq_false (show ¬ ((P.length:Nat):Int)<0 by omega),decide_eq_false (show ¬ ((P.length:Nat):Int) > (((P++D).length:Nat):Int)by rw[lN];omega)];simp only[cF,oB];rw[decide_eq_true (show(0:Int)≤((P.length:Nat):Int)by omega),decide_eq_true (show((P.length:Nat):Int)≤(((P++D).length:Nat):Int)by rw[lN];omega),d];simp only[cT,a11]
 match D,h with
 | [],_=>exact⟨3,rfl,by decide⟩
 | [a],_=>exact⟨3,rfl,by decide⟩
 |a::b::D,h=>
  rw[decide_eq_false (show ¬ (((a::b::D).length:Nat):Int)<2 by simp only[lC];omega)];have f:n0o (a::b::D) 0=some a:=rfl;have c:n0o (a::b::D) 1=some b:=rfl;simp only[cF,f,c,oB];refine⟨2,?_,by decide⟩
  by_cases ha:a=75
  have j:b≠80:=by
   rcases h with h|h;exact absurd ha h;exact h
  have g:(a != 75)=false:=by rw[ha];rfl
  have i:(b != 80)=true:=by rw[bne_iff_ne];exact j
  simp only[g,i,cF,oB,cT];have g:(a != 75)=true:=by rw[bne_iff_ne];exact ha
  simp only[g,cT,oB]
theorem a7Y:∀(l:List Mk)(a s:Int),(∀m∈l,MkOk m)→(0≤a∧a≤1000)→(0≤s∧s≤50000)→∀b∈a1N a s l,0≤b∧b<256
 | [],_,_,_,_,_,b,hb=>by cases hb
 |m::l,a,s,h,ha,hs,b,hb=>by
  have g:=h m (by simp);obtain⟨e,i,a0,a1,c,d⟩:=g;rw[a1N]at hb;rcases mA.1 hb with hb|hb;rcases mA.1 hb with hb|hb;exact a4H 2 _ (by omega) b hb;rcases mA.1 hb with hb|hb;exact a4H 2 _ (by unfold a1s;split<;>omega) b hb;exact a4H 2 _ (by unfold a1s;split<;>omega) b hb;exact a7Y l _ _ (fun x f=>h x (by simp[f])) ⟨a0,a1⟩ ⟨c,d⟩ b hb
theorem a9g{l:List Mk}(h:∀m∈l,MkOk m)(f:l.length<1000):∀b∈a2E l,0≤b∧b<256:=by
 intro b g;rw[a2E]at g;rcases mA.1 g with g|g;rw[a1C]at g;rcases mA.1 g with g|g;exact a4H 2 _ (by omega) b g;exact a7Y l 0 0 h (by omega) (by omega) b g;exact a7R _ _ b g
def a6D:Inf:=(2,(1,1,()),(0,0,0,()),1,1,1,1,())
def pk0:Pk:=((0:Int),(5:Int),(0:Int),true,false,([(120:Int)]:List Int),())
def b0V:List Int:=((a3e ((a3d ((a3b ([pk0],0)).getD ([],0)).1).getD ([],0)).1).getD ([],0)).1
def b0W:List Int:=((a3t [((0:Int),(5:Int),(0:Int),())]).getD ([],0)).1
def b2K:List Int:=((a2H [a6D]).getD [])++(b0V++(a1r b0W++(a0P (2*b0W.length) 4++[75,69,78,68])))
theorem a9h:PkOk 0 pk0:=⟨rfl,by decide,by decide,by decide,by decide,by decide,by decide⟩
theorem b0A:∀i∈[a6D],InfOk i:=fun i hi=>by
 rw[a23]at hi;subst hi;exact .images 1 1 1 1 1 1 (by decide) (by decide) (by decide) (by decide) (by decide) (by decide)
theorem a3O:Woven [pk0]:=⟨fun p hp=>by rw[a23]at hp;subst hp;exact⟨0,a9h,by decide,by decide⟩,by decide,a52 ..⟩
theorem a7Z:(a0F [pk0]).flatMap a0L=[((0:Int),(5:Int),(0:Int),())]:=by
 have a:(a0K pk0).length=19:=by rw[a3M];rfl
 have g:(a0K pk0).drop 252=[]:=a74 (by omega);have h:a0F [pk0]=[((0:Int),true,decide ((a0K pk0).length≤252),false,(a0K pk0).take 252,())]:=by
  show a0N 0 [a0K pk0]=_;rw[a0N,a0N,a2v (a5K pk0),g,a2C];rfl
 rw[h,a37];obtain⟨q,b,f,_⟩:=a6g a3O _ (by rw[h];exact List.mem_singleton_self _) rfl rfl;rw[a4W (q:=pk0) rfl rfl ⟨0,a9h,by decide,by decide⟩ (by rw[a84];rfl)];rfl
theorem a9L:a2h ([a6D],[[pk0]])=some (b2K,0):=by
 have c:StrOk 8 [[pk0]]:=⟨by decide,by decide,fun i l h=>by
  cases i with
  |zero=>cases h;exact⟨fun p hp=>by rw[a23]at hp;subst hp;exact a9h,by decide,a52 ..⟩
  |succ i=>simp at h⟩
 have b:Drawn 8 [a6D] [[pk0]]:=⟨rfl,b0A,c⟩;have d:a2T [[pk0]]=some ([pk0],0):=by kernel_rfl
 have h:=b.write d a3O;rw[h];have g:a2b [a6D]=(a2H [a6D]).getD []:=by rw[a9Z b0A (by decide)];rfl
 have f:a3N [pk0]=b0V:=by
  unfold b0V;rw[a6W a3O,a44,a9c a3O,a44,a7V (a7u a3O) (by have:=a9d a3O;omega),a44];rfl
 have a:a2E [((0:Int),(5:Int),(0:Int),())]=b0W:=by
  unfold b0W;rw[a8Z (by rw[←a7Z];exact a5y a3O) (by decide),a44]
 rw[a2R,a7Z,g,f,a2t,a];rfl
theorem b0B:a4h ()=some true:=by
 unfold a4h;rw[show a4A ()=some a6D from by kernel_rfl];simp only[oB];rw[show a2h (([a6D]:List Inf),([[((0:Int),(5:Int),(0:Int),true,false,([(120:Int)]:List Int),())]]:List (List Pk)))=some (b2K,0)from a9L]
 kernel_rfl
def a5o:List Int→Prop
 | []=>True
 |a::B=>b3L (a::B)∧a5o B
theorem a8a{x:List Int}{W:List Pge}(c:x.length<1000000):∀(B A:List Int)(n:Nat),x=A++B→a5o B→n+B.length<1000000→
  x0w a1P (x,(n:Int),((A.length:Nat):Int),W,())=some (((n+B.length:Nat):Int),W,())
 | [],A,n,hx,_,_=>by
  refine a1c ?_
  unfold a1P;simp only;rw[hx,a01,decide_eq_false (by omega)];rfl
 |a::B,A,n,hx,h,hn=>by
  rw[lC]at hn;have i:=a8a (W:=W) c B (A++[a]) (n+1) (by rw[hx,aA];rfl) h.2 (by omega);have d:A.length<x.length:=by rw[hx,lN,lC];omega
  rw[a1t (s':=(x,((n+1:Nat):Int),(((A++[a]).length:Nat):Int),W,()))];rw[i,lC];congr 3;omega;obtain⟨e,f,g⟩:=b2u (P:=A) h.1;rw[←hx]at f;unfold a1P;simp only;rw[decide_eq_true (show((A.length:Nat):Int)<((x.length:Nat):Int)by omega),f];have b:(e != 0)=true:=by rw[bne_iff_ne];exact g
  simp only[cT,oB,b];rw[w64 (by omega),w64 (by omega),lN,a06];rfl
theorem a7x{x T:List Int}(c:x.length<1000000):∀(rest done:List Pge),x=a0Y done++(a0Y rest++T)→(∀p∈rest,PgOk p)→done.length+rest.length<1000000→
  x0w a1P (x,(0:Int),(((a0Y done).length:Nat):Int),done,())=x0w a1P (x,(0:Int),(((a0Y (done++rest)).length:Nat):Int),done++rest,())
 | [],done,_,_,_=>by rw[a01]
 |p::rest,done,hx,h,hn=>by
  rw[lC]at hn;have a:a0Y (done++[p])=a0Y done++pgB p:=by unfold a0Y;rw[a31,a37]
  have g:a0Y (p::rest)=pgB p++a0Y rest:=rfl;have f:x=a0Y (done++[p])++(a0Y rest++T):=by rw[hx,a,g];simp only[aA]
  have j:=a7x c rest (done++[p]) f (fun q e=>h q (by simp[e])) (by rw[lN,a06];omega);have d:=a6K p;have i:x.length=(a0Y done).length+((pgB p).length+(a0Y rest++T).length):=by rw[hx,g];simp only[lN];omega
  rw[a1t (s':=(x,(0:Int),(((a0Y (done++[p])).length:Nat):Int),done++[p],())),j,aA];rfl;have b:=b2t (P:=a0Y done) (R:=a0Y rest++T) (h p (by simp)) (by rw[lN,lN];omega);rw[←aA (pgB p),←g,←hx]at b;unfold a1P;simp only;rw[decide_eq_true (show(((a0Y done).length:Nat):Int)<((x.length:Nat):Int)by omega),b];simp only[cT,oB,bne_self_eq_false,cF];rw[a0G (by omega),w64 (by omega),a,lN];rfl
theorem b2X{W:List Pge}{T:List Int}(h:∀p∈W,PgOk p)(c:a5o T)(g:(a0Y W++T).length<1000000)(d:W.length<1000000):a4V (a0Y W++T)=some (W,((T.length:Nat):Int)):=by
 have a:=a7x (x:=a0Y W++T) (T:=T) g W [] rfl h (by simpa using d);have f:=a8a (x:=a0Y W++T) (W:=W) g T (a0Y W) 0 rfl c (by rw[lN]at g;omega);rw[a54]at f;have b:x0w a1P (a0Y W++T,(0:Int),(0:Int),([]:List Pge),())=some (((T.length:Nat):Int),W,()):=a.trans f;unfold a4V;exact a0E b rfl
theorem a8s{B:List Int}(h:∀a∈A,a≠75)(g:a5o B):a5o (A++B):=by
 induction A with
 |nil=>exact g
 |cons a A ih=>
  refine⟨?_,ih fun b f=>h b (by simp[f])⟩
  have:=h a (by simp)
  match A,B with
  | [],[]=>trivial
  | [],b::B=>exact .inl this
  |b::A,B=>exact .inl this
def b1H(c:Int):Bool:=(wrap .u8 (96+D0o .u8 c 4) != 75)&&(wrap .u8 (96+bits .u8 .and c 15) != 75)
theorem a9M:((a82 256).all fun n=>b1H (n:Int))=true:=by kernel_rfl
theorem b1I{l:List Int}(h:∀b∈l,0≤b∧b<256):∀b∈a1r l,b≠75:=by
 intro b g;obtain⟨c,f,g⟩:=a90.1 g;have a:=h c f;have h:=lA.1 a9M c.toNat (a98.2 (by omega));rw[show((c.toNat:Nat):Int)=c by omega]at h;simp only[b1H,bA,bne_iff_ne]at h;simp only[mC,a49,or_false]at g;rcases g with rfl|rfl;exact h.1;exact h.2
theorem b2Y{l:List Mk}(h:∀m∈l,MkOk m)(f:l.length<1000):a5o (a2t l):=by
 have g:=a9g h f;have b:=a6f h (by omega);unfold a2t;refine a8s (b1I g) ?_
 generalize hn:2*(a2E l).length=n at *;have a:n<19000:=by omega
 have e:a0P n 4=[((n / 16777216%256:Nat):Int),((n / 65536%256:Nat):Int),((n / 256%256:Nat):Int),((n%256:Nat):Int)]:=by
  simp only[a0P,a2B,b12,List.reverse_nil,a05,a09,a73,Nat.reduceMul]
 rw[e];refine⟨.inl ?_,.inl ?_,.inl ?_,.inr ?_,.inr (by decide),.inl (by decide),.inl (by decide),trivial,trivial⟩;omega;omega;omega;decide
structure PlOk (p:Pge):Prop extends PgPlain p where
 n0:0≤p.1
 n1:p.1≤50000
structure GdOk (p:Pge):Prop extends PgOk p where
 gd:p.2.2.2.1=true
 n0:0≤p.1
 n1:p.1≤50000
 bd:∃(k:Nat)(v1 v2:Int)(sum:List Int),p.2.2.2.2.1=(k:Int)::v1::v2::sum∧1≤k∧k≤8∧1≤sum.length
def gdK(p:Pge):Nat:=(p.2.2.2.2.1.headD 0).toNat
theorem GdOk.k{p:Pge}(h:GdOk p):n0o p.2.2.2.2.1 0=some ((gdK p:Nat):Int)∧1≤gdK p∧gdK p≤8∧3<p.2.2.2.2.1.length:=by
 obtain⟨k,c,d,a,e,g,f,b⟩:=h.bd;unfold gdK;rw[e];refine⟨by show some (k:Int)=_;rw[a80,tN],by rw[a80,tN];exact g,by rw[a80,tN];exact f,by simp only[lC];omega⟩
def isG(p:Pge):Bool:=p.2.2.2.1
def a3k(l:List Pge):List Pge:=l.filter fun p=>!isG p
def a4T(l:List Pge):List Pge:=l.filter isG
def kv(l:List Pge):List (Int×Pge):=l.map fun p=>(p.1,p)
def a5j(p:Pge):Int:=if isG p then p.1+(gdK p:Int)-1 else p.1
def a6E(t:Int)(l:List Pge):Int:=l.foldl (fun t p=>x0s t (a5j p)) t
theorem b3M(h:GdOk p):a3X p=some true:=by
 obtain⟨e,g,f,a⟩:=h.k;unfold a3X;rw[h.gd,e,decide_eq_true (show((p.2.2.2.2.1.length:Nat):Int) > 3 by omega)];simp only[cT,oB];rw[decide_eq_true (show((gdK p:Nat):Int)≥1 by omega),decide_eq_true (show((gdK p:Nat):Int)≤8 by omega)];rfl
theorem a7y{k:Int}:∀{l:List Pge},(∀p∈l,p.1≠k)→g0k k (kv l)=none
 | [],_=>rfl
 |p::l,h=>by
  have g:(p.1==k)=false:=by rw[beq_eq_false_iff_ne];exact h p (by simp)
  show(bif p.1==k then some p else g0k k (kv l))=none;rw[g];exact a7y fun q f=>h q (by simp[f])
theorem b2Z{a c:Int}(h:a≤c)(g:b≤c):x0s a b≤c:=by rw[a9S];omega
theorem b0C{c:Int}:∀(l:List Pge)(t:Int),t≤c→(∀p∈l,a5j p≤c)→a6E t l≤c
 | [],_,h,_=>h
 |p::l,t,h,hp=>b0C l _ (b2Z h (hp p (by simp))) fun q g=>hp q (by simp[g])
def Fit(l:List Pge):Prop:=(∀p∈l,PlOk p∨GdOk p)∧(a3k l).Pairwise fun p q=>p.1≠q.1
theorem a7i(a b:List Pge):a3k (a++b)=a3k a++a3k b:=b06 ..
theorem b2v(a b:List Pge):a4T (a++b)=a4T a++a4T b:=b06 ..
theorem a7z{l:List Pge}(b:Fit l)(t:l.length<1000000):∀(rest done:List Pge),done++rest=l→
  x0w a1f (((0:Int),a6E (-1) done,l,((l.length:Nat):Int),((done.length:Nat):Int),a4T done,a3k done,()),(0:Int),kv (a3k done))
   = some (((0:Int),a6E (-1) l,a4T l,a3k l,()),(0:Int),kv (a3k l))
 | [],done,e=>by
  rw[a01]at e;subst e;refine a1c ?_
  unfold a1f;simp only;rw[decide_eq_false (by omega)];rfl
 |p::rest,done,e=>by
  have x:=a7z b t rest (done++[p]) (by rw[←e,aA];rfl);have d:done.length+(rest.length+1)=l.length:=by rw[←e,lN,lC]
  have r:n0o l ((done.length:Nat):Int)=some p:=by
   have:done.length<l.length:=by omega
   rw[a1o this];congr 1;subst e;rw[a48 (a08 _)]
   simp
  have c:p∈l:=by rw[←e];simp
  rw[←x];have j:a6E (-1) (done++[p])=x0s (a6E (-1) done) (a5j p):=by unfold a6E;rw[b09];rfl
  have s:(a4T done).length≤done.length:=a63 ..;have w:(a3k done).length≤done.length:=a63 ..;refine a1t ?_
  unfold a1f;simp only;rw[decide_eq_true (show((done.length:Nat):Int)<((l.length:Nat):Int)by omega),r,j,b2v,a7i];have i:wrap .i64 (((done.length:Nat):Int)+1)=(((done++[p]).length:Nat):Int):=by rw[w64 (by omega),lN,a06];omega
  rcases b.1 p c with hp|hp;have h:isG p=false:=hp.ng;have g:a4T [p]=[]:=by simp[a4T,h]
  have f:a3k [p]=[p]:=by simp[a3k,h]
  have a:a5j p=p.1:=by simp[a5j,h]
  have u:g0k p.1 (kv (a3k done))=none:=by
   refine a7y fun q v=>?_
   have:=b.2
   rw[←e,a7i]at this;have o:=(a19.1 this).2.2 q v p (by simp[a3k,h]);exact o
  have n1:=hp.n1;simp only[cT,oB,a8W hp.toPgOk,bT,cF,show p.2.2.2.1=false from h,beq_self_eq_true,u,a87,Option.isNone_none,Bool.and_self,a7T hp.toPgOk];rw[a0G (by omega),g,f,a,i,a01];simp only[cT,kv,pA,a71,b08,a20];have h:isG p=true:=hp.gd;have g:a4T [p]=[p]:=by simp[a4T,h]
  have f:a3k [p]=[]:=by simp[a3k,h]
  obtain⟨y,z,A,B⟩:=hp.k;have C:=hp.n0;have n1:=hp.n1;have a:a5j p=p.1+(gdK p:Int)-1:=by simp[a5j,h]
  have m:wrap .i64 (wrap .i64 (p.1+wrap .i64 ((gdK p:Nat):Int))-1)=p.1+(gdK p:Int)-1:=by
   rw[w64 (n:=((gdK p:Nat):Int)) (by omega),w64 (n:=p.1+((gdK p:Nat):Int)) (by omega),w64 (by omega)]
  simp only[cT,oB,a8W hp.toPgOk,bT,cF,hp.gd,b3M hp,y];rw[a0G (by omega),g,f,a,i,a01,m];rfl
def a4i(L:List (Int×Pge))(s:Int)(k:Nat):List Pge:=(a82 k).filterMap fun(j:Nat)=>g0k (s+(j:Int)) L
def a2Y(L:List (Int×Pge))(s:Int)(k:Nat):List Nat:=(a82 k).filter fun(j:Nat)=>(g0k (s+(j:Int)) L).isNone
def a6F(s:Int)(l:List Nat):Int:=match l.getLast? with|some j=>s+(j:Int)|none=>0
theorem b3a{L:List (Int×Pge)}{g:Pge}(h:GdOk g):a2e 0 L (g,0)=some (a6F g.1 (a2Y L g.1 (gdK g)),a4i L g.1 (gdK g),(((a2Y L g.1 (gdK g)).length:Nat):Int)==1):=by
 obtain⟨d,r,s,t⟩:=h.k;have u:=h.n0;have n1:=h.n1;have l:wrap .i64 (g.1+wrap .i64 ((gdK g:Nat):Int))=g.1+((gdK g:Nat):Int):=by rw[w64 (n:=((gdK g:Nat):Int)) (by omega),w64 (by omega)]
 unfold a2e
 have:=a0O (f:=a1w 0 L) (fun i=>((0:Int),(((a2Y L g.1 i).length:Nat):Int),a6F g.1 (a2Y L g.1 i),g.1+(i:Int),a4i L g.1 i,g,())) (gdK g)
  (b:=((((a2Y L g.1 (gdK g)).length:Nat):Int),a6F g.1 (a2Y L g.1 (gdK g)),a4i L g.1 (gdK g),())) (fun i hi=>?_) ?_
 rw[show g.1+((0:Nat):Int)=g.1 by omega]at this;simp only;refine a0E this rfl
 ·unfold a1w;simp only[d,oB,l];rw[decide_eq_true (show g.1+(i:Int)<g.1+((gdK g:Nat):Int)by omega)];simp only[cT,beq_self_eq_true];have e:wrap .i64 (g.1+(i:Int)+1)=g.1+((i+1:Nat):Int):=by rw[w64 (by omega)];omega
  have o:(a2Y L g.1 i).length≤i:=by
   have:=a63 (fun j=>(g0k (g.1+((j:Nat):Int)) L).isNone) (a82 i)
   rw[b15]at this;exact this
  have p:(a4i L g.1 i).length≤i:=by
   have:=List.length_filterMap_le (fun j:Nat=>g0k (g.1+(j:Int)) L) (a82 i)
   rw[b15]at this;exact this
  cases hm:g0k (g.1+(i:Int)) L with
  |some q=>
   have a:a2Y L g.1 (i+1)=a2Y L g.1 i:=by simp[a2Y,a81,hm]
   have c:a4i L g.1 (i+1)=a4i L g.1 i++[q]:=by simp[a4i,a81,hm]
   simp only[a88,cT,a44];rw[a0G (by omega),a,c,e];rfl
  |none=>
   have a:a2Y L g.1 (i+1)=a2Y L g.1 i++[i]:=by simp[a2Y,a81,hm]
   have c:a4i L g.1 (i+1)=a4i L g.1 i:=by simp[a4i,a81,hm]
   have m:a6F g.1 (a2Y L g.1 i++[i])=g.1+(i:Int):=by unfold a6F;rw[List.getLast?_concat]
   simp only[a87,cF];rw[a,c,m,e,w64 (by omega),lN,a06];rfl
 unfold a1w;simp only[d,oB,l];rw[decide_eq_false (by omega)];rfl
def a2D(s:Nat)(l:List Pge):Prop:=∀(i:Nat)(p:Pge),l[i]?=some p→p.1=((s+i:Nat):Int)∧PgPlain p
theorem a2D.tail{s:Nat}(h:a2D s (p::l)):a2D (s+1) l:=fun i q g=>by
 have:=h (i+1) q (by simpa using g)
 rw[show s+(i+1)=s+1+i by omega]at this;exact this
theorem a2D.drop{s:Nat}{l:List Pge}(h:a2D s l)(k:Nat):a2D (s+k) (l.drop k):=fun i q g=>by
 rw[List.getElem?_drop]at g
 have:=h (k+i) q g
 rw[show s+(k+i)=s+k+i by omega]at this;exact this
theorem a2D.take{s:Nat}(h:a2D s l)(k:Nat):a2D s (l.take k):=fun i q g=>by
 rw[List.getElem?_take]at g
 by_cases hi:i<k
 rw[if_pos hi]at g;exact h i q g;rw[if_neg hi]at g;cases g
theorem a2D.plain{s:Nat}(h:a2D s l):∀p∈l,PgPlain p:=fun p hp=>by
 obtain⟨i,hi⟩:=a34 hp;exact(h i p hi).2
theorem a2D.num{s:Nat}(h:a2D s l):∀p∈l,(s:Int)≤p.1∧p.1<((s+l.length:Nat):Int):=fun p hp=>by
 obtain⟨i,hi⟩:=a34 hp;have g:=(h i p hi).1;have f:=(lS.1 hi).1;omega
theorem b0X(h:∀p∈l,PgPlain p):a3k l=l:=List.filter_eq_self.2 fun p hp=>by have:isG p=false:=(h p hp).ng;rw[this];rfl
theorem b0Y{q:Pge}(h:q.2.2.2.1=true)(l:List Pge):a3k (q::l)=a3k l:=by
 have:isG q=true:=h
 simp[a3k,this]
theorem b3b{s:Nat}(c:a2D s g)(f:g≠[])(b:g.length≤8)(n:s≤50000):GdOk (gOf g)∧(gOf g).1=(s:Int)∧gdK (gOf g)=g.length:=by
 obtain⟨_,a,j,l,e,i,m⟩:=a7q c.plain f b;have hp:=a04.2 f;have h:(g.head f).1=(s:Int):=by
  have:=(c 0 (g.head f) (by rw[b00,lG])).1
  simpa using this
 have d:gdK (gOf g)=g.length:=by rw[e];unfold gdK;rw[a80,tN]
 refine⟨⟨⟨?_,?_,?_,?_⟩,?_,?_,?_,?_⟩,?_,d⟩;rw[e,h];omega;rw[e,h];omega;rw[e];simp only[lC];omega;rw[e];simp only[lC,cT];omega;rw[e];rw[e,h];omega;rw[e,h];omega;exact⟨g.length,j,l,a,by rw[e],hp,b,i⟩;rw[e,h]
theorem a7A:∀(n:Nat)(l:List Pge)(s:Nat),l.length≤n→a2D s l→(l≠[]→s+l.length≤50000)→
  a3k (a0V l)=l∧∀q∈a0V l,(q∈l∧PlOk q)∨(GdOk q∧(s:Int)≤q.1∧q.1+(gdK q:Int)≤((s+l.length:Nat):Int))
 |n,[],s,_,_,_=>by rw[a1W];exact⟨rfl,fun q g=>by cases g⟩
 |0,p::l,s,h,_,_=>by simp at h
 |n+1,p::l0,s,h,hf,m=>by
  have b:(p::l0)≠[]:=by simp
  generalize hL:p::l0=l at *;have j:=a04.2 b;have m:=m b;obtain⟨v,w⟩:=a7A n (l.drop 8) (s+8) (by rw[a02];omega) (hf.drop 8) (fun h=>by
   have:=a04.2 h
   rw[a02]at this⊢;omega)
  have u:l.take 8≠[]:=a04.1 (by rw[a00];omega);have c:(l.take 8).length≤8:=by rw[a00];omega
  obtain⟨d,o,e⟩:=b3b (hf.take 8) u c (by omega);rw[a00]at e;have r:=hf.num;have hp:=hf.plain;rw[a3x b];constructor;rw[a7i,b0Y d.gd,v,b0X (hf.take 8).plain,a16];intro q g;rcases mA.1 g with g|g;have f:=a27 g
  have:=r q f
  exact .inl ⟨f,hp q f,by omega,by omega⟩;rcases mC.1 g with g|g;subst g;refine .inr ⟨d,by omega,?_⟩;rw[o,e];omega;rcases w q g with⟨g,a⟩|⟨g,t,a⟩;exact .inl ⟨a35 g,a⟩;have x:(l.drop 8).length=l.length-8:=a02
  by_cases h8:8≤l.length
  exact .inr ⟨g,by omega,by omega⟩
  have:l.drop 8=[]:=a74 (by omega)
  rename_i i;rw[this,a1W]at i;cases i
theorem a9i:∀(l:List Pge)(s:Nat),a2D s l→∀j:Nat,g0k (((s+j:Nat):Nat):Int) (kv l)=l[j]?
 | [],_,_,_=>rfl
 |p::l,s,h,0=>by
  have g:=(h 0 p rfl).1;show(bif p.1==((s+0:Nat):Int)then some p else g0k _ (kv l))=_;rw[show(p.1==((s+0:Nat):Int))=true by rw[beq_iff_eq];exact g];rfl
 |p::l,s,h,j+1=>by
  have g:=(h 0 p rfl).1;show(bif p.1==((s+(j+1):Nat):Int)then some p else g0k _ (kv l))=_;rw[show(p.1==((s+(j+1):Nat):Int))=false by rw[beq_eq_false_iff_ne];omega]
  have:=a9i l (s+1) h.tail j
  rw[show s+1+j=s+(j+1)by omega]at this;exact this
theorem b1J{a:Int}{k:Nat}(h:a2D 0 l)(f:0≤a)(b:a+(k:Int)≤(l.length:Int)):a2Y (kv l) a k=[]:=by
 refine List.filter_eq_nil_iff.2 fun j g=>?_
 rw[a98]at g
 have:=a9i l 0 h (a.toNat+j)
 rw[show((0+(a.toNat+j):Nat):Int)=a+(j:Int)by omega,lG (by omega)]at this;rw[this]
 simp
theorem a9N{gs:List Pge}{top:Int}{L:List (Int×Pge)}(d:∀g∈gs,GdOk g∧a2Y L g.1 (gdK g)=[])(e:gs.length<1000000):
  x0w a1g (((0:Int),top,((gs.length:Nat):Int),(0:Int),l,gs,()),(0:Int),L)=some ((top,l,()),(0:Int),L):=by
 have:=a0O (f:=a1g) (fun i=>(((0:Int),top,((gs.length:Nat):Int),(i:Int),l,gs,()),(0:Int),L)) gs.length (b:=((top,l,()),(0:Int),L)) (fun i hi=>?_) ?_
 exact this;obtain⟨a,c⟩:=d gs[i] (a17 hi);have h:a26 gs (a13 (i:Int)) ((0:Int),false,false,false,([]:List Int),())=gs[i]:=by rw[tN,lD,lG hi];rfl
 unfold a1g;simp only;rw[decide_eq_true (show(i:Int)<((gs.length:Nat):Int)by omega),decide_eq_true (show(0:Int)≤(i:Int)by omega),h,b3a a,c,w64 (by omega)];rfl;unfold a1g;simp only;rw[decide_eq_false (by omega)];rfl
theorem a8b:∀(l:List Pge)(s:Nat),a2D s l→a1F l=l
 | [],_,_=>rfl
 |p::l,s,h=>by
  have g:=a8b l (s+1) h.tail;show a4b p (a1F l)=p::l;rw[g]
  match l,h with
  | [],_=>rfl
  |q::l,h=>
   have f:=(h 0 p rfl).1;have a:=(h 1 q rfl).1;show(bif decide (p.1≤q.1)then p::q::l else q::a4b p l)=p::q::l;rw[decide_eq_true (by omega)];rfl
theorem a6X:∀(l:List Pge)(s:Nat),a2D s l→s+l.length<1000000→a2I l=true
 | [],_,_,_=>rfl
 |p::l,s,h,hs=>by
  rw[lC]at hs;have f:=a6X l (s+1) h.tail (by omega);have a:=(h 0 p rfl).1;show(decide (0≤p.1)&&decide (p.1<4611686018427387904)&&l.all (fun q=>!decide (q.1=p.1))&&a2I l)=true;rw[f,decide_eq_true (by omega),decide_eq_true (by omega)];simp only[a11,Bool.true_and,lA,a61,decide_eq_false_iff_not];intro q g
  have:=h.tail.num q g
  omega
theorem b0Z(h:a2D 0 l)(g:l.length<1000000):a1m (l,())=some l:=by
 unfold a1m;simp only;rw[a6X l 0 h (by omega),a8b l 0 h,decide_eq_true (by omega)];rfl
theorem b1a{top:Int}(h:a2D 0 l)(a:l.length<1000000)(c:top<(l.length:Int)):a4v (l,top)=some []:=by
 unfold a4v
 have:=a0O (f:=a3G) (fun i=>(top,(i:Int),l,((l.length:Nat):Int),(i:Int),([]:List (Int×Int×Unit)),())) l.length (b:=(top,((l.length:Nat):Int),([]:List (Int×Int×Unit)),())) (fun i hi=>?_) ?_
 refine a0E this ?_
 simp only;rw[decide_eq_false (by omega)];rfl;have g:=(h i l[i] (lG hi)).1;unfold a3G;simp only;rw[decide_eq_true (show(i:Int)<((l.length:Nat):Int)by omega),a1o hi];simp only[cT,oB];rw[decide_eq_false (by omega)];simp only[cF,oB];rw[w64 (by omega),w64 (by omega)];congr 4<;>omega;unfold a3G;simp only;rw[decide_eq_false (by omega)];rfl
theorem a9O(l:List Pge):(a0V l).length≤2*l.length:=a4E _ _ (a08 _)
theorem b1b(h:a2D 0 l)(z:l.length≤50000):a4e (a0V l)=some (l,[]):=by
 obtain⟨t,o⟩:=a7A l.length l 0 (a08 _) h (fun _=>by omega);have A:=a9O l;have m:Fit (a0V l):=by
  refine⟨fun p hp=>?_,?_⟩;rcases o p hp with⟨_,f⟩|⟨f,_⟩;exact .inl f;exact .inr f;rw[t];refine a69.2 fun i j hi x w=>?_
  have a:=(h i _ (lG hi)).1;have b:=(h j _ (lG x)).1;omega
 have u:=a7z m (by omega) (a0V l) [] rfl;have y:a6E (-1) (a0V l)<(l.length:Int):=by
  have:=b0C (c:=(l.length:Int)-1) (a0V l) (-1) (by omega) (fun p hp=>by
   rcases o p hp with⟨f,e⟩|⟨f,s,e⟩;have d:isG p=false:=e.ng
   have:=h.num p f
   unfold a5j;rw[d];simp only[Bool.false_eq_true,if_false];omega;have d:isG p=true:=f.gd;unfold a5j;rw[d];simp only[if_true];omega)
  omega
 rw[t]at u;have v:=a9N (l:=l) (gs:=a4T (a0V l)) (top:=a6E (-1) (a0V l)) (L:=kv l) (fun g r=>by
  obtain⟨r,n⟩:=List.mem_filter.1 r;rcases o g r with⟨_,f⟩|⟨f,s,e⟩
  have:isG g=false:=f.ng
  rw[this]at n;cases n;exact⟨f,b1J h (by omega) (by omega)⟩) (by have:=a63 isG (a0V l);show(a4T _).length<_;unfold a4T;omega)
 unfold a4e a2n;have q:x0w a1f (((0:Int),(-1:Int),a0V l,((a78 (a0V l):Nat):Int),(0:Int),([]:List Pge),([]:List Pge),()),(0:Int),([]:List (Int×Pge)))=_:=u;refine a0E q ?_
 simp only;refine a0E v ?_
 simp only[b0Z h (by omega),b1a h (by omega) y,oB]
abbrev Jn:Type:=Int×(Bool×(List Int×(Int×Unit)))
def a5z:Jn→List Pge→List Pk→Jn→Prop
 |J,[],o,J'=>o=[]∧J'=J
 |J,p::l,o,J'=>∃o1 h J1 o2,a1x (J,p)=some (o1,h,J1)∧a5z J1 l o2 J'∧o=o1++o2
theorem a5z.app:∀{l:List Pge}{J J1 J2:Jn}{l2:List Pge}{o1 o2:List Pk},a5z J l o1 J1→a5z J1 l2 o2 J2→a5z J (l++l2) (o1++o2) J2
 | [],J,J1,J2,l2,o1,o2,h1,h2=>by obtain⟨rfl,rfl⟩:=h1;exact h2
 |p::l,J,J1,J2,l2,o1,o2,h1,h2=>by
  obtain⟨a,h,g,b,f,c,rfl⟩:=h1;exact⟨a,h,g,b++o2,f,c.app h2,by rw[aA]⟩
theorem a9j{l:List Pge}(d:l.length<1000000):∀(rest done:List Pge)(J J':Jn)(out o:List Pk),done++rest=l→a5z J rest o J'→out.length+o.length<1000000→
  x0w a3q (l,((l.length:Nat):Int),((done.length:Nat):Int),out,J,())=some (out++o,())
 | [],done,J,J',out,o,e,h,_=>by
  obtain⟨rfl,rfl⟩:=h;rw[a01]at e;subst e;refine a1c ?_
  unfold a3q;simp only;rw[decide_eq_false (by omega),a01];rfl
 |p::rest,done,J,J',out,o,e,h,ho=>by
  obtain⟨o1,j,f,o2,a,b,rfl⟩:=h;rw[lN]at ho;have i:=a9j d rest (done++[p]) f J' (out++o1) o2 (by rw[←e,aA];rfl) b (by rw[lN];omega);have g:done.length+(rest.length+1)=l.length:=by rw[←e,lN,lC]
  have c:n0o l ((done.length:Nat):Int)=some p:=by
   have:done.length<l.length:=by omega
   rw[a1o this];congr 1;subst e;rw[a48 (a08 _)]
   simp
  rw[←aA,←i];refine a1t ?_
  unfold a3q;simp only;rw[decide_eq_true (show((done.length:Nat):Int)<((l.length:Nat):Int)by omega),c];simp only[cT,oB,a];rw[a0G (by omega),w64 (by omega),lN,a06];rfl
theorem b1c{n:Int}{o:List Pk}{J':Jn}(a:0≤n)(g:l.length<1000000)(f:o.length<1000000)(h:a5z (n,false,[],0,()) l o J'):a2o (n,l)=some o:=by
 unfold a2o a5S;have e:x0s n 0=n:=by rw[a9S];omega
 simp only[e,oB]
 have:=a9j g l [] _ J' [] o rfl h (by simpa using f)
 rw[a05]at this;exact a0E this rfl
theorem b2w{J:Jn}(hp:PgPlain p)(h:p.1<J.1):a1x (J,p)=some ([],[],J):=by
 unfold a1x;simp only[a4O hp.toPgOk,oB,bne_self_eq_false,cF,hp.ng];rw[decide_eq_true h];rfl
theorem b2x{b:Bool}{acc:List Int}{k:Int}(hp:PgPlain p)(h:p.2.2.1=false)(f:p.2.1=true→acc=[]∧b=false)(a:p.2.1=false→b=true)(d:acc.length≤60000):
  a1x ((p.1,b,acc,k,()),p)=some ([],[],p.1+1,true,acc++p.2.2.2.2.1,k,()):=by
 have e:=hp.s0;have i:=hp.s1;have b2:=hp.b2;have c:wrap .i64 (p.1+1)=p.1+1:=w64 (by omega);unfold a1x;simp only[a4O hp.toPgOk,oB,bne_self_eq_false,cF,hp.ng];rw[decide_eq_false (show ¬ p.1<p.1 by omega)];simp only[cF,oB,c];cases hf:p.2.1 with
 |true=>
  obtain⟨rfl,rfl⟩:=f hf;have g:a1J (p.1+1,false,([]:List Int),k,())=some (p.1+1,false,[],k,()):=rfl;simp only[cT,g,oB,bT,cF,a03,a20,a05,h,a64];rw[a0G (by omega),decide_eq_false (show ¬ ((p.2.2.2.2.1.length:Nat):Int) > 65554 by omega)];rfl
 |false=>
  obtain rfl:=a hf;simp only[cT,oB,bT,cF,a20,h,a64,lN];rw[a0G (by omega),decide_eq_false (by omega)];rfl
theorem b2y{b:Bool}{acc:List Int}{k:Int}(hp:PgPlain p)(f:p.2.2.1=true)(e:p.2.1=true→acc=[]∧b=false)(i:p.2.1=false→b=true)(m:acc.length≤60000)(g:a4N q)(h:acc++p.2.2.2.2.1=a0K q):
  a1x ((p.1,b,acc,k,()),p)=some ([q],[],p.1+1,false,[],k,()):=by
 have n:=hp.s0;have o:=hp.s1;have b2:=hp.b2;have l:wrap .i64 (p.1+1)=p.1+1:=w64 (by omega);have c:a2u (a0K q)=some (q,0):=by
  rw[a7M g];refine(a7N g ?_).trans rfl;obtain⟨s,j,_⟩:=g
  have:=j.dat
  omega
 unfold a1x;simp only[a4O hp.toPgOk,oB,bne_self_eq_false,cF,hp.ng];rw[decide_eq_false (show ¬ p.1<p.1 by omega)];simp only[cF,oB,l];have a:(a0K q).length=acc.length+p.2.2.2.2.1.length:=by rw[←h,lN]
 cases hf:p.2.1 with
 |true=>
  obtain⟨rfl,rfl⟩:=e hf;have d:a1J (p.1+1,false,([]:List Int),k,())=some (p.1+1,false,[],k,()):=rfl;simp only[cT,d,oB,bT,cF,a20,h,f];rw[a0G (by omega),decide_eq_false (show ¬ (((a0K q).length:Nat):Int) > 65554 by omega)];simp only[cT,cF,c,oB,bne_self_eq_false]
 |false=>
  obtain rfl:=i hf;simp only[cT,oB,bT,cF,a20,h,f];rw[a0G (by omega),decide_eq_false (show ¬ (((a0K q).length:Nat):Int) > 65554 by omega)];simp only[cT,cF,c,oB,bne_self_eq_false]
theorem b0D{q:Pk}(c:a4N q){k:Int}:∀(n:Nat)(f:Bool)(s:Nat)(r acc:List Int)(b:Bool),r.length≤n→r≠[]→acc++r=a0K q→(f=true→acc=[]∧b=false)→(f=false→b=true)→s+r.length≤1000000→
  a5z ((s:Int),b,acc,k,()) (a1H f s r) [q] (((s+(a1H f s r).length:Nat):Int),false,[],k,())
 |0,f,s,r,acc,b,h,hr,_,_,_,_=>absurd (a24.1 (by omega)) hr
 |n+1,f,s,r,acc,b,h,hr,he,h1,h2,hs=>by
  have a:(a0K q).length≤918:=by
   obtain⟨t,l,_⟩:=c
   have:=l.dat
   rw[a3M];omega
  have i:acc.length+r.length≤918:=by rw[←lN,he];exact a
  have hp:=(a7L _ f s r (a08 _) hs 0 _ (by rw[a2v hr];rfl)).2;rw[a2v hr]
  by_cases hl:r.length≤252
  have d:r.drop 252=[]:=a74 hl;have e:r.take 252=r:=a29 hl;rw[d,a2C];have g:=b2y (b:=b) (acc:=acc) (k:=k) (q:=q) hp (decide_eq_true hl) h1 h2 (by omega) c (by show acc++r.take 252=_;rw[e];exact he);refine⟨[q],_,_,[],g,⟨rfl,?_⟩,rfl⟩;simp only[lC,a03];rfl;have j:r.drop 252≠[]:=a04.1 (by rw[a02];omega);have g:=b2x (b:=b) (acc:=acc) (k:=k) hp (decide_eq_false hl) h1 h2 (by omega);have m:=b0D c (k:=k) n false (s+1) (r.drop 252) (acc++r.take 252) true (by rw[a02];omega) j (by rw[aA,a16];exact he) (by simp) (by simp) (by rw[a02];omega);refine⟨[],_,_,[q],g,?_,rfl⟩;rw[lC,show s+((a1H false (s+1) (r.drop 252)).length+1)=s+1+(a1H false (s+1) (r.drop 252)).length by omega];exact m
theorem a8c{k:Int}:∀(Z:List Pk)(s:Nat),(∀p∈Z,a4N p)→s+1000*Z.length≤1000000→a5z ((s:Int),false,[],k,()) (a0N s (Z.map a0K)) Z (((s+(a0N s (Z.map a0K)).length:Nat):Int),false,[],k,())
 | [],s,_,_=>⟨rfl,rfl⟩
 |q::Z,s,h,hs=>by
  rw[lC]at hs;have f:=h q (by simp);have g:(a0K q).length≤918:=by
   obtain⟨t,d,_⟩:=f
   have:=d.dat
   rw[a3M];omega
  have e:=a4M _ true s (a0K q) (a08 _);have a:=b0D f (k:=k) (a0K q).length true s (a0K q) [] false (a08 _) (a5K q) rfl (by simp) (by simp) (by omega);have b:=a8c (k:=k) Z (s+(a1H true s (a0K q)).length) (fun p hp=>h p (by simp[hp])) (by omega);have c:=a.app b;rw[a71,a0N,lN];rw[show s+((a1H true s (a0K q)).length+(a0N (s+(a1H true s (a0K q)).length) (Z.map a0K)).length)=s+(a1H true s (a0K q)).length+(a0N (s+(a1H true s (a0K q)).length) (Z.map a0K)).length by omega];exact c
theorem a9k{J:Jn}:∀(l:List Pge),(∀p∈l,PgPlain p∧p.1<J.1)→a5z J l [] J
 | [],_=>⟨rfl,rfl⟩
 |p::l,h=>⟨[],[],J,[],b2w (h p (by simp)).1 (h p (by simp)).2,a9k l fun q g=>h q (by simp[g]),rfl⟩
theorem a6i:∀(a b:List (List Int)) (s:Nat),a0N s (a++b)=a0N s a++a0N (s+(a0N s a).length) b
 | [],b,s=>by simp[a0N]
 |x::a,b,s=>by
  rw[a09,a0N,a0N,a6i a b,aA,lN,Nat.add_assoc]
theorem b1d(h:Woven Z):a2D 0 (a0F Z):=fun i p hp=>by
 rw[a54];exact a5x h i p hp
def a1E(Z:List Pk)(i:Nat):Nat:=(a0N 0 ((Z.take i).map a0K)).length
theorem b1e(Z:List Pk)(i:Nat):a0F Z=a0N 0 ((Z.take i).map a0K)++a0N (a1E Z i) ((Z.drop i).map a0K):=by
 have:=a6i ((Z.take i).map a0K) ((Z.drop i).map a0K) 0
 rw[←pA,a16,a54]at this;exact this
theorem a6Y(h:Woven Z)(i:Nat):a2o (((a1E Z i:Nat):Int),a0F Z)=some (Z.drop i):=by
 have r:=h.len;have o:=a4Z h;have hp:=b1e Z i;have q:a1E Z i≤(a0F Z).length:=by
  have:=congrArg a78 hp
  rw[lN]at this
  have:a1E Z i=(a0N 0 ((Z.take i).map a0K)).length:=rfl
  omega
 have l:a5z (((a1E Z i:Nat):Int),false,[],(0:Int),()) (a0N 0 ((Z.take i).map a0K)) [] (((a1E Z i:Nat):Int),false,[],0,()):=by
  refine a9k _ fun p c=>?_
  obtain⟨j,e⟩:=a34 c;have f:=(lS.1 e).1;have g:(a0F Z)[j]?=some p:=by rw[hp,a40 f];exact e
  obtain⟨a,b⟩:=a5x h j p g;refine⟨b,?_⟩;show p.1<((a1E Z i:Nat):Int)
  have:a1E Z i=(a0N 0 ((Z.take i).map a0K)).length:=rfl
  omega
 have n:(Z.drop i).length≤Z.length:=by rw[a02];omega
 have m:=a8c (k:=0) (Z.drop i) (a1E Z i) (fun p hp=>h.pk p (a35 hp)) (by omega);have d:=l.app m;rw[←hp,a05]at d;exact b1c (by omega) (by omega) (by omega) d
theorem b1f(h:Woven Z):a2o (0,a0F Z)=some Z:=by
 have:=a6Y h 0
 simpa[a1E,a0N]using this
theorem a7B(h:Woven Z):a3h (a3N Z++a2t ((a0F Z).flatMap a0L))=some (a0F Z,[]):=by
 have b1:=a6h h;have b2:=a7h h;have g:=b2X (W:=a0V (a0F Z)) (T:=a2t ((a0F Z).flatMap a0L)) (a7u h) (b2Y (a5y h) (by have:=a7w h;omega)) (by rw[lN];have:(a3N Z).length=(a0Y (a0V (a0F Z))).length:=rfl;omega) (by have:=a9d h;omega);unfold a3h;refine a0E g ?_
 simp only[b1b (b1d h) (by have:=a4Z h;omega),oB]
theorem a8d(h:Drawn n a L)(g:Woven Z):a2U (a2R a Z)=some (a,(((a2b a).length:Nat):Int),0):=by
 have f:=h.str.one;have b:=h.str.four;have c:=h.len;have b1:=a6h g;have b2:=a7h g;exact b2o h.inf (by omega) (by omega) (by rw[lN];omega)
theorem b1K(h:Drawn n a L)(g:Woven Z):a4f (a2R a Z)=some (Z,[],0):=by
 unfold a4f;rw[a8d h g];simp only[oB,bne_self_eq_false,cF];have b:(a2R a Z).length=(a2b a).length+(a3N Z++a2t ((a0F Z).flatMap a0L)).length:=by unfold a2R;rw[lN]
 rw[decide_eq_true (show(0:Int)≤(((a2b a).length:Nat):Int)by omega),decide_eq_true (show(((a2b a).length:Nat):Int)≤(((a2R a Z).length:Nat):Int)by omega),a14,tN];have f:a36 (a2b a).length (a2R a Z)=a3N Z++a2t ((a0F Z).flatMap a0L):=by unfold a2R;rw[a47]
 simp only[cT,a11,f,a7B g,b1f g,oB]
theorem b2z{a s:Int}(h:0≤a∧a≤1000)(g:0≤s∧s≤50000):a2d (a,s)=some true:=by
 unfold a2d;rw[decide_eq_true (show a≥0 by omega),decide_eq_true (show a≤1125899906842624 by omega),decide_eq_true (show s≥0 by omega),decide_eq_true (show s≤2147483647 by omega)];rfl
theorem a9l:∀(rest:List Mk)(a s:Int)(P:List Int)(out:List Mk),(∀m∈rest,MkOk m)→(0≤a∧a≤1000)→(0≤s∧s≤50000)→(P++a1N a s rest).length<1000000→out.length+rest.length<1000000→
  x0w a3H (((rest.length:Nat):Int),a,s,out,rdr P (a1N a s rest),())=some (.inl (out++rest,rdr (P++a1N a s rest) [],()))
 | [],a,s,P,out,_,_,_,_,_=>by
  refine a1c ?_
  unfold a3H;simp only[a1N,a01];rfl
 |m::rest,a,s,P,out,h,ha,hs,hl,ho=>by
  obtain⟨u,v,a0,a1,f,b⟩:=h m (by simp);rw[lC]at ho;have e:a1N a s (m::rest)=a0B m.1.toNat++(a0B (a1s (m.2.1-a))++(a0B (a1s (m.2.2.1-s))++a1N m.2.1 m.2.2.1 rest)):=by rw[a1N];simp only[aA]
  have j:=a5n (g:=m.2.1-a) (m:=1000) (by omega);have l:=a5n (g:=m.2.2.1-s) (m:=50000) (by omega);rw[e]at hl⊢;simp only[lN]at hl;have o:=a9l rest m.2.1 m.2.2.1 (P++a0B m.1.toNat++a0B (a1s (m.2.1-a))++a0B (a1s (m.2.2.1-s))) (out++[m]) (fun x i=>h x (by simp[i])) ⟨a0,a1⟩ ⟨f,b⟩ (by simp only[lN];omega) (by rw[lN,a06];omega);have c:out++m::rest=out++[m]++rest:=by rw[aA];rfl
  have d:P++(a0B m.1.toNat++(a0B (a1s (m.2.1-a))++(a0B (a1s (m.2.2.1-s))++a1N m.2.1 m.2.2.1 rest)))=P++a0B m.1.toNat++a0B (a1s (m.2.1-a))++a0B (a1s (m.2.2.1-s))++a1N m.2.1 m.2.2.1 rest:=by simp only[aA]
  rw[c,d,←o];have n1:=a5N (n:=m.1.toNat) (by omega) (most:=3) (by omega) (P:=P) (R:=a0B (a1s (m.2.1-a))++(a0B (a1s (m.2.2.1-s))++a1N m.2.1 m.2.2.1 rest)) (by simp only[lN];omega);have n2:=a5N (n:=a1s (m.2.1-a)) (by omega) (most:=4611686018427387904) (by omega) (P:=P++a0B m.1.toNat) (R:=a0B (a1s (m.2.2.1-s))++a1N m.2.1 m.2.2.1 rest) (by simp only[lN];omega);have p:=a5N (n:=a1s (m.2.2.1-s)) (by omega) (most:=4611686018427387904) (by omega) (P:=P++a0B m.1.toNat++a0B (a1s (m.2.1-a))) (R:=a1N m.2.1 m.2.2.1 rest) (by simp only[lN];omega);refine a1t ?_
  unfold a3H;simp only;rw[decide_eq_true (show(((m::rest).length:Nat):Int) > 0 by rw[lC];omega)];have q:wrap .i64 (a+(m.2.1-a))=m.2.1:=by rw[w64 (by omega)];omega
  have w2:wrap .i64 (s+(m.2.2.1-s))=m.2.2.1:=by rw[w64 (by omega)];omega
  have r:wrap .u64 ((((m::rest).length:Nat):Int)-1)=((rest.length:Nat):Int):=by
   rw[lC,show((rest.length+1:Nat):Int)-1=((rest.length:Nat):Int)by omega];exact a3j (by omega)
  have t:wrap .i64 ((m.1.toNat:Nat):Int)=m.1:=by rw[w64 (by omega)];omega
  simp only[cT,n1,n2,p,oB,b1B (g:=m.2.1-a) (by omega),b1B (g:=m.2.2.1-s) (by omega),a1G];rw[show(rdr (P++a0B m.1.toNat++a0B (a1s (m.2.1-a))++a0B (a1s (m.2.2.1-s))) (a1N m.2.1 m.2.2.1 rest)).2.2.1=0 from rfl,q,w2,b2z ⟨a0,a1⟩ ⟨f,b⟩,r,t,a0G (by omega)];rfl
theorem b2A{l:List Mk}(g:∀m∈l,MkOk m)(u:l.length<1000):a4x (a2E l)=some (l,0):=by
 have x:=a6d (n:=l.length) (by omega);have r:=a6e l 0 0 g (by omega) (by omega);have t:(a1C l).length=(a0B l.length).length+(a1N 0 0 l).length:=by rw[a1C,lN]
 have y:=(a4R 2 l.length (by omega)).1;obtain⟨j,v,w⟩:=a5L (l:=a1C l) (by omega);have e:(a2E l).length=(a1C l).length+4:=by rw[a2E,lN,a0H]
 have i:wrap .u64 (a0T (a1C l))=(((a0T (a1C l)).toNat:Nat):Int):=by
  have:=a3j (n:=(a0T (a1C l)).toNat) (by omega)
  rwa [show(((a0T (a1C l)).toNat:Nat):Int)=a0T (a1C l)by omega]at this⊢
 have o:wrap .i64 ((((a2E l).length:Nat):Int)-4)=(((a1C l).length:Nat):Int):=by rw[w64 (by omega),e];omega
 have d:a42 (a1C l).length (a2E l)=a1C l:=by rw[a2E,a65]
 have c:a36 (a1C l).length (a2E l)=a0P (a0T (a1C l)).toNat 4:=by rw[a2E,a47]
 have f:=a4n (P:=[]) (R:=[]) (n:=(a0T (a1C l)).toNat) (k:=4) (by omega) (by rw[show 256^4=4294967296 by decide];omega) (by simp only[lN,a0H,a03];omega);rw[show((4:Nat):Int)=4 from rfl,a01]at f;have p:wrap .u64 (((a1C l).length:Nat):Int)=(((a1C l).length:Nat):Int):=a3j (by omega);have h:l.length≤(a1C l).length:=by
  have:∀(l:List Mk)(a s:Int),l.length≤(a1N a s l).length:=by
   intro l
   induction l with
   |nil=>intro a s;exact Nat.zero_le _
   |cons m l ih=>
    intro a s
    have:=ih m.2.1 m.2.2.1
    have hv:1≤(a0B m.1.toNat).length:=by
     have:=(a4R m.1.toNat m.1.toNat (Nat.lt_trans (Nat.lt_pow_self (by decide)) (Nat.pow_lt_pow_right (by decide) (by omega)))).1
     exact this
    rw[a1N];simp only[lN,lC];omega
  have:=this l 0 0
  omega
 have n1:=a5N (n:=l.length) (by omega) (most:=(((a1C l).length:Nat):Int)) (by omega) (P:=[]) (R:=a1N 0 0 l) (by simp only[lN,a03];omega);have b:=a9l l 0 0 ([]++a0B l.length) [] g (by omega) (by omega) (by simp only[lN,a03];omega) (by simp;omega);unfold a4x;rw[o,tN,d,a14];rw[decide_eq_false (show ¬ (((a2E l).length:Nat):Int)<4 by omega),decide_eq_true (show(0:Int)≤(((a1C l).length:Nat):Int)by omega),decide_eq_true (show(((a1C l).length:Nat):Int)≤(((a2E l).length:Nat):Int)by omega),tN,c,a5u (by rw[a0H];omega)];simp only[cF,cT,a11,oB,f,j,i,bne_self_eq_false,p];rw[a5u (by omega)];have q:a1C l=a0B l.length++a1N 0 0 l:=rfl;simp only[oB];rw[show rdr [] (a1C l)=rdr [] (a0B l.length++a1N 0 0 l)from rfl,n1];simp only[oB,a1G];rw[show(rdr ([]++a0B l.length) (a1N 0 0 l)).2.2.1=0 from rfl];simp only[bne_self_eq_false,cF];refine a0E b ?_
 simp only[a1B,oB,rdr,a01];rw[Int.sub_self];rfl
def b1L(c:Int):Bool:=(bits .u8 .or (D0n .u8 (wrap .u8 (wrap .u8 (96+D0o .u8 c 4)-96)) 4) (wrap .u8 (wrap .u8 (96+bits .u8 .and c 15)-96))==c) &&
 decide (96≤wrap .u8 (96+D0o .u8 c 4))&&decide (wrap .u8 (96+D0o .u8 c 4)≤111)&&decide (96≤wrap .u8 (96+bits .u8 .and c 15))&&decide (wrap .u8 (96+bits .u8 .and c 15)≤111)
theorem b1g:((a82 256).all fun n=>b1L (n:Int))=true:=by kernel_rfl
theorem b1M{c:Int}(h:0≤c∧c<256):bits .u8 .or (D0n .u8 (wrap .u8 (wrap .u8 (96+D0o .u8 c 4)-96)) 4) (wrap .u8 (wrap .u8 (96+bits .u8 .and c 15)-96))=c∧
  96≤wrap .u8 (96+D0o .u8 c 4)∧wrap .u8 (96+D0o .u8 c 4)≤111∧96≤wrap .u8 (96+bits .u8 .and c 15)∧wrap .u8 (96+bits .u8 .and c 15)≤111:=by
 have g:=lA.1 b1g c.toNat (a98.2 (by omega));rw[show((c.toNat:Nat):Int)=c by omega]at g;simp only[b1L,bA,beq_iff_eq,dT]at g;exact⟨g.1.1.1.1,g.1.1.1.2,g.1.1.2,g.1.2,g.2⟩
theorem b1N{y:List Int}(h:∀b∈y,0≤b∧b<256):∀b∈a1r y,96≤b∧b≤111:=by
 intro b g;obtain⟨c,i,g⟩:=a90.1 g;obtain⟨_,f,a,d,e⟩:=b1M (h c i);simp only[mC,a49,or_false]at g;rcases g with rfl|rfl;exact⟨f,a⟩;exact⟨d,e⟩
theorem b2B{l:List Int}(h:∀b∈l,96≤b∧b≤111)(c:l.length<1000000):x0w a2P (x,l,((l.length:Nat):Int),(0:Int),())=some (.inl (x,())):=by
 have:=a0O (f:=a2P) (fun i=>(x,l,((l.length:Nat):Int),(i:Int),())) l.length (b:=.inl (x,())) (fun i hi=>?_) ?_
 exact this;obtain⟨g,a⟩:=h l[i] (a17 hi);unfold a2P;simp only;rw[decide_eq_true (show(i:Int)<((l.length:Nat):Int)by omega),a1o hi];simp only[cT,oB];rw[decide_eq_false (show ¬ l[i]<96 by omega),decide_eq_false (show ¬ l[i] > 111 by omega)];simp only[cF,oB];rw[w64 (by omega)];rfl;unfold a2P;simp only;rw[decide_eq_false (by omega)];rfl
theorem a8e:∀(y:List Int)(i:Nat)(hi:i<y.length),(a1r y)[2*i]?=some (wrap .u8 (96+D0o .u8 y[i] 4))∧(a1r y)[2*i+1]?=some (wrap .u8 (96+bits .u8 .and y[i] 15))
 | [],i,hi=>by simp at hi
 |a::y,0,_=>⟨rfl,rfl⟩
 |a::y,i+1,hi=>by
  have h:=a8e y i (by simpa using hi);have e:a1r (a::y)=wrap .u8 (96+D0o .u8 a 4)::wrap .u8 (96+bits .u8 .and a 15)::a1r y:=rfl;rw[e,show 2*(i+1)=2*i+1+1 by omega];exact h
theorem b2C{y:List Int}(h:∀b∈y,0≤b∧b<256)(l:y.length<100000):x0w a2Q (a1r y,(0:Int),([]:List Int),())=some (y,()):=by
 have e:=a4J y
 have:=a0O (f:=a2Q) (fun i=>(a1r y,((2*i:Nat):Int),y.take i,())) y.length (b:=(y,())) (fun i hi=>?_) ?_
 exact this;obtain⟨c,d⟩:=a8e y i hi;have g:n0o (a1r y) ((2*i:Nat):Int)=some (wrap .u8 (96+D0o .u8 y[i] 4)):=by unfold n0o;rw[if_pos (by omega),tN];exact c
 have j:wrap .i64 (((2*i:Nat):Int)+1)=((2*i+1:Nat):Int):=by rw[w64 (by omega)];omega
 have w2:wrap .i64 (((2*i:Nat):Int)+2)=((2*(i+1):Nat):Int):=by rw[w64 (by omega)];omega
 have a:n0o (a1r y) ((2*i+1:Nat):Int)=some (wrap .u8 (96+bits .u8 .and y[i] 15)):=by unfold n0o;rw[if_pos (by omega),tN];exact d
 obtain⟨u,_⟩:=b1M (h y[i] (a17 hi));unfold a2Q;simp only;rw[decide_eq_true (show((2*i:Nat):Int)<(((a1r y).length:Nat):Int)by omega),g,j,a];simp only[cT,oB,u];rw[a0G (by rw[a00];omega),w2,a07 hi];rfl;unfold a2Q;simp only;rw[decide_eq_false (by omega),a14];rfl
theorem b1h{l:List Mk}(a:∀m∈l,MkOk m)(e:l.length<1000)(x:A.length<900000):a4y (A++a2t l)=some (l,0):=by
 have d:=a9g a e;have z:=a6f a (by omega);have g:=a4J (a2E l);have r:=b2A a e;generalize hy:a2E l=y at *;have c:a2t l=a1r y++(a0P (2*y.length) 4++[75,69,78,68]):=by rw[a2t,hy]
 have h:(A++a2t l).length=A.length+2*y.length+8:=by rw[c];simp only[lN,g,a0H,lC,a03];omega
 rw[c]at h⊢;generalize hD:A++(a1r y++(a0P (2*y.length) 4++[75,69,78,68]))=D at *;have b:D=(A++a1r y)++(a0P (2*y.length) 4++[75,69,78,68]):=by rw[←hD];simp only[aA]
 have f:D=(A++a1r y++a0P (2*y.length) 4)++[75,69,78,68]:=by rw[←hD];simp only[aA]
 have s:wrap .i64 (((D.length:Nat):Int)-4)=((A.length+2*y.length+4:Nat):Int):=by rw[w64 (by omega),h];omega
 have w2:wrap .i64 (((A.length+2*y.length+4:Nat):Int)-4)=((A.length+2*y.length:Nat):Int):=by rw[w64 (by omega)];omega
 have t:wrap .i64 (((A.length+2*y.length:Nat):Int)+4)=((A.length+2*y.length+4:Nat):Int):=by rw[w64 (by omega)];omega
 have j:a36 (A.length+2*y.length+4) D=[75,69,78,68]:=by
  rw[f,a94 (by simp only[lN,g,a0H])]
 have o:a36 (A.length+2*y.length) D=a0P (2*y.length) 4++[75,69,78,68]:=by
  rw[b,a94 (by simp only[lN,g])]
 have t2:a42 (A.length+2*y.length) D=A++a1r y:=by
  rw[b,a93 (by simp only[lN,g])]
 have p:a36 A.length (A++a1r y)=a1r y:=a47 ..;have i:=a4n (P:=[]) (R:=[75,69,78,68]) (n:=2*y.length) (k:=4) (by omega) (by rw[show 256^4=4294967296 by decide];omega) (by simp only[lN,a0H,lC,a03];omega);rw[show((4:Nat):Int)=4 from rfl]at i;have v:wrap .u64 ((A.length+2*y.length:Nat):Int)=((A.length+2*y.length:Nat):Int):=a3j (by omega);have tm:a28 ((2*y.length:Nat):Int) 2=0:=by
  rw[a89 (by omega)];omega
 have w:wrap .i64 ((2*y.length:Nat):Int)=((2*y.length:Nat):Int):=w64 (by omega);have u:wrap .i64 (((A.length+2*y.length:Nat):Int)-((2*y.length:Nat):Int))=((A.length:Nat):Int):=by rw[w64 (by omega)];omega
 unfold a4y;rw[s,w2,t,a14];rw[decide_eq_false (show ¬ ((A.length+2*y.length:Nat):Int)<0 by omega),decide_eq_true (show(0:Int)≤((A.length+2*y.length+4:Nat):Int)by omega),decide_eq_true (show((A.length+2*y.length+4:Nat):Int)≤((D.length:Nat):Int)by omega),decide_eq_true (show(0:Int)≤((A.length+2*y.length:Nat):Int)by omega),decide_eq_true (show((A.length+2*y.length:Nat):Int)≤((D.length:Nat):Int)by omega),tN,tN,j,o];have q:(b2s ([75,69,78,68]:List Int) != ([75,69,78,68]:List Int))=false:=by decide
 rw[q,a5u (by simp only[lN,a0H,lC,a03];omega)];simp only[cF,cT,a11,oB,i,tm,bne_self_eq_false,v];rw[decide_eq_false (show ¬ ((2*y.length:Nat):Int) > ((A.length+2*y.length:Nat):Int)by omega)];simp only[cF,tN,t2,w,u];rw[decide_eq_true (show(0:Int)≤((A.length+2*y.length:Nat):Int)by omega),decide_eq_true (show((A.length+2*y.length:Nat):Int)≤((D.length:Nat):Int)by omega),decide_eq_true (show(0:Int)≤((A.length:Nat):Int)by omega),decide_eq_true (show((A.length:Nat):Int)≤((A.length+2*y.length:Nat):Int)by omega),p];simp only[cT,a11];refine a0E (b2B (b1N d) (by omega)) ?_
 simp only;refine a0E (b2C d (by omega)) ?_
 simp only[r,oB]
theorem b0E(x:Int){hi:Int}(c:0≤hi)(d:hi≤1000000):∃v,a1p (x,(0:Int),hi)=some v∧0≤v∧v≤hi:=by
 have f:wrap .i64 ((wrap .i64 (hi-0))+(1:Int))=hi+1:=by rw[w64 (n:=hi-0) (by omega),w64 (by omega)];omega
 unfold a1p;simp only
 by_cases hx:x≥0
 rw[decide_eq_true hx];simp only[cT,oB]
 by_cases hy:x≤hi
 rw[decide_eq_true hy];exact⟨x,rfl,hx,hy⟩;rw[decide_eq_false hy];simp only[cF];rw[f];have e:0≤a28 x (hi+1):=a92 _ hx;have g:a28 x (hi+1)<hi+1:=a57 _ (by omega);have h:((hi+1)==0)=false:=by rw[beq_eq_false_iff_ne];omega
 rw[decide_eq_false (show ¬ a28 x (hi+1)<0 by omega),h];simp only[cF,oB];exact⟨_,rfl,by rw[w64 (by omega)];omega,by rw[w64 (by omega)];omega⟩;rw[decide_eq_false hx];simp only[cF,oB];rw[f];have g:-(hi+1)<a28 x (hi+1):=b02 _ (by omega);have b:a28 x (hi+1)<hi+1:=a57 _ (by omega);have h:((hi+1)==0)=false:=by rw[beq_eq_false_iff_ne];omega
 rw[h];simp only[cF]
 by_cases hn:a28 x (hi+1)<0
 rw[decide_eq_true hn];simp only[cT,oB];have a:wrap .i64 (wrap .i64 (wrap .i64 (a28 x (hi+1)+hi)-0)+1)=a28 x (hi+1)+hi+1:=by
  rw[w64 (n:=a28 x (hi+1)+hi) (by omega),w64 (n:=a28 x (hi+1)+hi-0) (by omega),w64 (by omega)];omega
 rw[a];exact⟨_,rfl,by rw[w64 (by omega)];omega,by rw[w64 (by omega)];omega⟩;rw[decide_eq_false hn];simp only[cF,oB];exact⟨_,rfl,by rw[w64 (by omega)];omega,by rw[w64 (by omega)];omega⟩
def a2V(f:Pk→Bool):Nat→Option Nat→List Pk→Option Nat
 |_,b,[]=>b
 |i,b,q::Z=>a2V f (i+1) (if f q then some i else b) Z
def a3s(f:Pk→Bool)(Z:List Pk):Option Nat:=a2V f 0 none Z
theorem a6n(f:Pk→Bool)(q:Pk):∀(Z:List Pk)(i:Nat)(b:Option Nat),a2V f i b (Z++[q])=if f q then some (i+Z.length)else a2V f i b Z
 | [],i,b=>by simp[a2V]
 |x::Z,i,b=>by
  rw[a09,a2V,a6n f q Z,a2V,lC];rw[show i+1+Z.length=i+(Z.length+1)by omega]
theorem a7C(f:Pk→Bool)(Z:List Pk)(q:Pk):a3s f (Z++[q])=if f q then some Z.length else a3s f Z:=by
 unfold a3s;rw[a6n,a54]
theorem a6Z(f:Pk→Bool):∀(Z:List Pk)(i:Nat)(b:Option Nat)(j:Nat),a2V f i b Z=some j→b=some j∨(i≤j∧j<i+Z.length)
 | [],i,b,j,h=>.inl h
 |x::Z,i,b,j,h=>by
  rw[a2V]at h;rw[lC];rcases a6Z f Z (i+1) _ j h with h1|h1
  by_cases hx:f x
  rw[if_pos hx]at h1;cases h1;exact .inr ⟨a08 _,by omega⟩;rw[if_neg hx]at h1;exact .inl h1;exact .inr ⟨by omega,by omega⟩
theorem a9m{f:Pk→Bool}(h:a3s f Z=some j):j<Z.length:=by
 rcases a6Z f Z 0 none j h with h1|h1;cases h1;omega
def tkM(s u:Int)(b:Option Mk)(m:Mk):Bool:=(m.1==s)&&(decide (m.2.1≤u)&&(match b with|none=>true|some m0=>decide (m.2.1≥m0.2.1)))
def a5k(s u:Int):Option Mk→List Mk→Option Mk
 |b,[]=>b
 |b,m::l=>a5k s u (if tkM s u b m then some m else b) l
def zMk:Mk:=((0:Int),(0:Int),(0:Int),())
theorem a8f{s u:Int}{l:List Mk}(j:l.length<1000000):∀(rest done:List Mk)(b:Option Mk),done++rest=l→
  x0w a3I (s,u,b.isSome,l,((l.length:Nat):Int),((done.length:Nat):Int),zMk,b.getD zMk,())=some ((a5k s u b rest).isSome,zMk,(a5k s u b rest).getD zMk,())
 | [],done,b,e=>by
  rw[a01]at e;subst e;refine a1c ?_
  unfold a3I;simp only;rw[decide_eq_false (by omega)];rfl
 |m::rest,done,b,e=>by
  have d:=a8f (s:=s) (u:=u) j rest (done++[m]) (if tkM s u b m then some m else b) (by rw[←e,aA];rfl)
  have c:done.length+(rest.length+1)=l.length:=by rw[←e,lN,lC]
  have i:n0o l ((done.length:Nat):Int)=some m:=by
   have:done.length<l.length:=by omega
   rw[a1o this];congr 1;subst e;rw[a48 (a08 _)]
   simp
  have f:wrap .i64 (((done.length:Nat):Int)+1)=(((done++[m]).length:Nat):Int):=by rw[w64 (by omega),lN,a06];omega
  rw[a5k,←d];refine a1t ?_
  unfold a3I;simp only;rw[decide_eq_true (show((done.length:Nat):Int)<((l.length:Nat):Int)by omega),i];simp only[cT,oB];clear d
  by_cases h1:m.1=s
  ·have a:(m.1 != s)=false:=by rw[h1,bne_self_eq_false]
   have g:(m.1==s)=true:=by rw[beq_iff_eq];exact h1
   rw[a]
   by_cases h2:m.2.1≤u
   ·rw[decide_eq_false (show ¬ m.2.1 > u by omega)];cases b with
    |none=>
     have h:tkM s u none m=true:=by unfold tkM;rw[g,decide_eq_true h2];rfl
     rw[h];simp only[a87,a64,cT,cF,oB,f];rfl
    |some m0=>
     simp only[a88,bT,cF,oB,a44]
     by_cases h3:m.2.1≥m0.2.1
     have h:tkM s u (some m0) m=true:=by unfold tkM;rw[g,decide_eq_true h2];simp only[decide_eq_true h3];rfl
     rw[h,decide_eq_true h3];simp only[cT,f];rfl;have h:tkM s u (some m0) m=false:=by unfold tkM;rw[g,decide_eq_true h2];simp only[decide_eq_false h3];rfl
     rw[h,decide_eq_false h3];simp only[cF,f];rfl
   rw[decide_eq_true (show m.2.1 > u by omega)];have h:tkM s u b m=false:=by unfold tkM;rw[decide_eq_false h2];simp
   rw[h];simp only[cT,cF,f];rfl
  have a:(m.1 != s)=true:=by rw[bne_iff_ne];exact h1
  have h:tkM s u b m=false:=by unfold tkM;rw[show(m.1==s)=false by rw[beq_eq_false_iff_ne];exact h1];rfl
  rw[a,h];simp only[cT,f];rfl
theorem b3c{s:Int}{l:List Mk}(h:l.length<1000000):a4z (l,s,u)=some ((a5k s u none l).getD zMk,(a5k s u none l).isSome):=by
 unfold a4z
 have:=a8f (s:=s) (u:=u) h l [] none rfl
 exact a0E this rfl
def a5O:Nat→List Pk→List Mk
 |_,[]=>[]
 |n,q::Z=>(bif q.2.2.2.1 then[(q.1,q.2.1,(n:Int),())]else[])++a5O (n+(a1H true n (a0K q)).length) Z
theorem b1O(h:a4N q)(n:Nat):(a1H true n (a0K q)).flatMap a0L=bif q.2.2.2.1 then[(q.1,q.2.1,(n:Int),())]else[]:=by
 have b:=a7X h n;have a:=a6c ((a0K q).drop 252).length (n+1) ((a0K q).drop 252) (a08 _);have f:=a2v (first:=true) (seq:=n) (a5K q)
 rw[f,a32];have g:((a1H false (n+1) ((a0K q).drop 252)).flatMap a0L)=[]:=by
  rw[List.flatMap_eq_nil_iff];intro p hp
  have:p.2.1=false:=a p hp
  unfold a0L;rw[this];rfl
 rw[g,a01];have e:((a0K q).take 252).take 18=a4F q:=by
  rw[a84,a7M h,show min 18 252=18 from rfl,←a4P q,a65]
 exact a4W (q:=q) rfl rfl h e
theorem a7a:∀(Z:List Pk)(n:Nat),(∀p∈Z,a4N p)→n+1000*Z.length≤900000→(a0N n (Z.map a0K)).flatMap a0L=a5O n Z
 | [],_,_,_=>rfl
 |q::Z,n,h,hn=>by
  rw[lC]at hn;have f:=h q (by simp);have g:(a0K q).length≤918:=by
   obtain⟨t,a,_⟩:=f
   have:=a.dat
   rw[a3M];omega
  have b:=a4M _ true n (a0K q) (a08 _);rw[a71,a0N,a31,b1O f n,a7a Z _ (fun p hp=>h p (by simp[hp])) (by omega),a5O]
theorem a9P(h:Woven Z):(a0F Z).flatMap a0L=a5O 0 Z:=a7a Z 0 h.pk (by have:=h.len;omega)
def a3P(s u:Int)(q:Pk):Bool:=(q.1==s)&&(q.2.2.2.1&&decide (q.2.1≤u))
def b2D:Pk:=((0:Int),(0:Int),(0:Int),false,false,([]:List Int),())
def a6j(Z:List Pk)(j:Nat):Mk:=((Z.getD j b2D).1,(Z.getD j b2D).2.1,((a1E Z j:Nat):Int),())
theorem b1i{a b:List Pk}(e:a++q::b=Z):a1E Z (a.length+1)=a1E Z a.length+(a1H true (a1E Z a.length) (a0K q)).length:=by
 have h:Z.take a.length=a:=by rw[←e,a65]
 have g:Z.take (a.length+1)=a++[q]:=by rw[←e,show a++q::b=(a++[q])++b by simp,a93 (by simp)]
 unfold a1E;rw[h,g,pA,a6i,lN,a54];simp only[a71,b08,a0N,a01]
theorem a7D{s u:Int}{Z:List Pk}(b:Asc Z):∀(rest done:List Pk),done++rest=Z→a5k s u ((a3s (a3P s u) done).map (a6j Z)) (a5O (a1E Z done.length) rest)=(a3s (a3P s u) Z).map (a6j Z)
 | [],done,e=>by
  rw[a01]at e;subst e;rfl
 |q::rest,done,e=>by
  have n:=a7D (s:=s) (u:=u) b rest (done++[q]) (by rw[←e,aA];rfl);rw[←n,a7C,lN,a06,b1i e,a5O];have m:Z.getD done.length b2D=q:=by
   rw[←e,lD,a30 (a08 _)]
   simp
  cases hk:q.2.2.2.1 with
  |false=>
   have:a3P s u q=false:=by unfold a3P;rw[hk];simp
   rw[this];rfl
  |true=>
   simp only[cT,a09,a05,a5k];have c:a6j Z done.length=(q.1,q.2.1,((a1E Z done.length:Nat):Int),()):=by unfold a6j;rw[m]
   have d:tkM s u ((a3s (a3P s u) done).map (a6j Z)) (q.1,q.2.1,((a1E Z done.length:Nat):Int),())=a3P s u q:=by
    have h:a3P s u q=((q.1==s)&&(true&&decide (q.2.1≤u))):=by unfold a3P;rw[hk]
    rw[h];unfold tkM;cases hd:a3s (a3P s u) done with
    |none=>simp
    |some j=>
     have f:=a9m hd;have g:Z[j]?=some (done[j]):=by rw[←e,a40 f,lG f]
     have l:¬ (q.2.1<(done[j]).2.1):=by
      have a:=b;rw[←e]at a;have i:=(a19.1 a).2.2 done[j] (a17 f) q (by simp);rw[a5l]at i;omega
     have:(a6j Z j).2.1=(done[j]).2.1:=by unfold a6j;rw[lD,g];rfl
     simp only[a95];rw[this,decide_eq_true (show q.2.1≥(done[j]).2.1 by omega)]
     simp
   rw[d]
   by_cases hm:a3P s u q=true
   rw[if_pos hm,if_pos hm,a95,c];rw[if_neg hm,if_neg hm]
theorem b1P{s:Int}(h:Woven Z):a5k s u none ((a0F Z).flatMap a0L)=(a3s (a3P s u) Z).map (a6j Z):=by
 rw[a9P h]
 have:=a7D (s:=s) (u:=u) h.asc Z [] rfl
 simpa[a3s,a2V,a1E,a0N]using this
theorem a9Q(p:Pk):a3r (p,p)=some true:=by
 unfold a3r;simp only[beq_self_eq_true,cT]
theorem a9n{l:List Pk}(h:l.length<1000000):a1X (l,l)=some true:=by
 unfold a1X;simp only[bne_self_eq_false,cF]
 have:=a0O (f:=a2r) (fun i=>(l,l,(i:Int),())) l.length (b:=.inl ()) (fun i hi=>?_) ?_
 exact a0E this rfl;unfold a2r;simp only;rw[decide_eq_true (show(i:Int)<((l.length:Nat):Int)by omega),a1o hi];simp only[cT,oB,a9Q,bT,cF];rw[w64 (by omega)];rfl;unfold a2r;simp only;rw[decide_eq_false (by omega)];rfl
theorem b1Q(h:Drawn n a L)(g:Woven Z){s:Int}(d:0≤s∧s<(a.length:Int))(e:0≤u∧u≤600):
  a3w (a2R a Z,s,u)=some (match a3s (a3P s u) Z with|none=>([],7)|some j=>(Z.drop j,0)):=by
 have b:(a2R a Z).length=(a2b a).length+(a3N Z++a2t ((a0F Z).flatMap a0L)).length:=by unfold a2R;rw[lN]
 have f:a36 (a13 (((a2b a).length:Nat):Int)) (a42 (a2R a Z).length (a2R a Z))=a3N Z++a2t ((a0F Z).flatMap a0L):=by rw[a14,tN];unfold a2R;rw[a47]
 have c:=a5y g;have i:=a7w g;have b1:=a6h g;unfold a3w;simp only[a8d h g,oB,bne_self_eq_false,cF];rw[decide_eq_false (show ¬ s<0 by omega),decide_eq_false (show ¬ s≥((a.length:Nat):Int)by omega),decide_eq_false (show ¬ u<0 by omega),decide_eq_false (show ¬ u > 1125899906842624 by omega)];simp only[cF,oB];rw[decide_eq_true (show(0:Int)≤(((a2b a).length:Nat):Int)by omega),decide_eq_true (show(((a2b a).length:Nat):Int)≤(((a2R a Z).length:Nat):Int)by omega),f,b1h c (by omega) (by omega)];simp only[cT,a11,oB,bne_self_eq_false,cF,b3c (s:=s) (u:=u) (l:=(a0F Z).flatMap a0L) (by omega),b1P g];cases hd:a3s (a3P s u) Z with
 |none=>rfl
 |some j=>
  simp only[a95,a88,bT,cF,a44,a7B g,oB];rw[show(a6j Z j).2.2.1=((a1E Z j:Nat):Int)from rfl,a6Y g j];rfl
def b3N:Option Nat→Int
 |none=>-1
 |some j=>(j:Int)
theorem a6k{s u g:Int}{Z x:List Pk}(c:Z.length<1000000):∀(rest done:List Pk),done++rest=Z→
  x0w a1Q (s,u,g,b3N (a3s (a3P s u) done),((done.length:Nat):Int),Z,x,())=some (g,b3N (a3s (a3P s u) Z),Z,x,())
 | [],done,e=>by
  rw[a01]at e;subst e;refine a1c ?_
  unfold a1Q;simp only;rw[decide_eq_false (by omega)];rfl
 |q::rest,done,e=>by
  have a:=a6k (s:=s) (u:=u) (g:=g) (x:=x) c rest (done++[q]) (by rw[←e,aA];rfl);have f:done.length+(rest.length+1)=Z.length:=by rw[←e,lN,lC]
  have d:a26 Z (a13 ((done.length:Nat):Int)) ((0:Int),(0:Int),(0:Int),false,false,([]:List Int),())=q:=by
   rw[tN,←e,lD,a30 (a08 _)]
   simp
  have h:wrap .i64 (((done.length:Nat):Int)+1)=(((done++[q]).length:Nat):Int):=by rw[w64 (by omega),lN,a06];omega
  rw[←a,a7C];clear a;have b:a3P s u q=((q.1==s)&&(q.2.2.2.1&&decide (q.2.1≤u))):=rfl;refine a1t ?_
  unfold a1Q;simp only;rw[decide_eq_true (show((done.length:Nat):Int)<((Z.length:Nat):Int)by omega),decide_eq_true (show(0:Int)≤((done.length:Nat):Int)by omega),d,b];simp only[cT,a11]
  by_cases h1:q.1=s
  ·rw[show(q.1==s)=true by rw[beq_iff_eq];exact h1];cases hk:q.2.2.2.1 with
   |false=>
    simp only[cT,cF,oB,h];rfl
   |true=>
    by_cases h2:q.2.1≤u
    rw[decide_eq_true h2];simp only[cT,oB,h];rfl;rw[decide_eq_false h2];simp only[cT,cF,oB,h];rfl
  rw[show(q.1==s)=false by rw[beq_eq_false_iff_ne];exact h1];simp only[cF,oB,h];rfl
theorem a8t(x:List Int×(Int×Int)):a4B x=some true:=by
 have e:a3Z x.1=some (x.1,(0:Int),()):=rfl;obtain⟨a,L,F,d,l1,o,c,-⟩:=b2h (r:=0) (t:=(x.1,(0:Int),())) (n:=8) ⟨by simp,by simp⟩ (by omega);rw[show((8:Nat):Int)=8 from rfl]at d;have f:Drawn 8 a L:=⟨l1,o,c⟩;obtain⟨Z,w,h,E⟩:=f.weave (by omega);have z:=c.one;have A:=c.four;have C:=h.len;have y:wrap .i64 (((a.length:Nat):Int)-1)=((a.length:Nat):Int)-1:=w64 (by omega);obtain⟨s,i,p,D⟩:=b0E x.2.1 (hi:=((a.length:Nat):Int)-1) (by omega) (by omega);obtain⟨u,l,q,v⟩:=b0E (bits .i64 .and x.2.2 (16777215:Int)) (hi:=600) (by decide) (by decide);have m:=b1Q f h (s:=s) (u:=u) ⟨p,by omega⟩ ⟨q,v⟩;unfold a4B;simp only[e,d,oB,f.write w h,y,i,l,b1K f h,m,bne_self_eq_false,cF];cases hq:a3s (a3P s u) Z with
 |none=>
  have b:x0w a1Q (s,u,(7:Int),(-1:Int),(0:Int),Z,([]:List Pk),())=some ((7:Int),(-1:Int),Z,([]:List Pk),()):=by
   have:=a6k (Z:=Z) (s:=s) (u:=u) (g:=7) (x:=[]) (by omega) Z [] rfl
   rw[hq]at this;exact this
  refine a0E b ?_
  simp only;rw[decide_eq_true (show(-1:Int)<0 by decide)];simp only[cT,beq_self_eq_true,a03,b0B,oB];rfl
 |some j=>
  have B:=a9m hq;have b:x0w a1Q (s,u,(0:Int),(-1:Int),(0:Int),Z,Z.drop j,())=some ((0:Int),(j:Int),Z,Z.drop j,()):=by
   have:=a6k (Z:=Z) (s:=s) (u:=u) (g:=0) (x:=Z.drop j) (by omega) Z [] rfl
   rw[hq]at this;exact this
  refine a0E b ?_
  simp only;rw[decide_eq_false (show ¬ (j:Int)<0 by omega),decide_eq_true (show(0:Int)≤(j:Int)by omega),decide_eq_true (show(j:Int)≤((Z.length:Nat):Int)by omega),tN,a29 (by rw[a02];omega),a9n (by rw[a02];omega)];simp only[cF,cT,beq_self_eq_true,a11,oB,b0B]
end Go.Ab
