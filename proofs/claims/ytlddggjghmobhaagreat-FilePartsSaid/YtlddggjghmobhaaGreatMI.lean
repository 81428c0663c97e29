/- Part of the proof: QA. Conditions: as each statement tells. -/
import Derived.Test.YtlddggjghmobhaaGreatMH
noncomputable section
set_option linter.unusedSimpArgs false
set_option linter.unusedVariables false
open BitVec renaming ofInt→a36,xor_zero→a97,toNat_ofInt→b20,zero_xor→b30,ofInt_natCast→b36,ofNat_toNat→b49,setWidth_eq→b50,xor_assoc→b61,xor_self→b68
open Bool renaming and_true→a23,not_eq_true'→a86,not_false→a91,and_self→b40
open Int renaming toNat→a26,tmod→a58,natCast_nonneg→b17,tmod_lt_of_pos→b18,fdiv_eq_ediv_of_nonneg→b21,le_refl→b31,toNat_of_nonneg→b41,tmod_nonneg→b64,natCast_pow→b66
open List renaming length_take→a00,length_drop→a01,append_nil→a02,length_pos_iff→a03,take_succ_eq_append_getElem→a04,nil_append→a05,length_nil→a06,length_singleton→a07,take_length→a08,mem_of_mem_take→a09,mem_singleton→a16,pairwise_append→a17,getElem_mem→a19,append_eq→a20,cons_append→a24,length→a27,replicate→a28,take_append_drop→a29,take_of_length_le→a30,append→a31,length_set→a32,mem_of_mem_drop→a33,pairwise_cons→a34,length_eq_zero_iff→a35,getD→a37,getElem?_append_right→a38,length_replicate→a40,getElem?_of_mem→a41,length_map→a42,pairwise_singleton→a43,drop_eq_nil_iff→a44,singleton_append→a47,mem_filter→a48,flatMap_singleton→a49,drop_eq_getElem_cons→a51,take→a52,map_cons→a54,flatMap_append→a56,take_zero→a57,drop→a59,flatMap_cons→a60,range→a62,getElem?_append_left→a63,not_mem_nil→a65,getElem_append_right→a67,length_filter_le→a68,filter_cons→a69,range_succ→a72,set_append_right→a75,getElem?_eq_none→a78,pairwise_iff_getElem→a80,length_range→a81,drop_zero→a82,flatMap_nil→a83,filter_append→a84,foldl_append→a87,getElem?_map→a89,filterMap_append→a90,drop_drop→a92,head_eq_getElem→a93,mem_cons_of_mem→a94,getElem?_range→a96,set_cons_zero→a98,getElem?_drop→a99,getElem?_cons_zero→b00,drop_left→b01,mem_range→b02,drop_eq_nil_of_le→b03,drop_length→b04,sum_cons→b05,mem_append_right→b06,headD_cons→b08,filterMap_cons→b09,take_left→b14,flatten_cons→b24,mem_flatten→b25,map_nil→b28,getElem?_replicate→b29,take_take→b32,drop_take→b34,mem_iff_getElem→b35,mem_append_left→b37,replicate_succ→b38,replicate_zero→b39,filter_eq_self→b42,set→b43,set_cons_succ→b44,getElem?_take→b48,mem_map→b52,reverse_cons→b53,getElem?_set→b55,take_append→b57,drop_append→b58,mem_flatMap→b60,filter→b62,foldl_cons→b67
open Nat renaming le_refl→a13,min_eq_left→a61,min_eq_right→a64,lt_succ_iff_lt_or_eq→a71,sub_self→a73,zero_add→a74,pow_succ→a79,div_div_eq_div_mul→a85,div_lt_iff_lt_mul→a88,pow_le_pow_right→b07,sub_zero→b27,mul_le_mul→b33,lt_of_le_of_lt→b45,mul_comm→b51,add_mod_right→b54,mod_eq_of_lt→b59,strongRecOn→b63,div_le_self→b65
open Option renaming getD_some→a95,isSome_none→b46,isNone_none→b47,mem_toList→b56
namespace Go.Ab
variable {A b:List Int}{N i j n o r s z:Nat}{m most:Int}{α β σ:Type}{f:σ→Option (σ ⊕ β)}
open IntKind(wrap)
section
variable {α A σ β:Type}
def a7u(g:A→α→A ⊕ β):List α→A→A ⊕ β
 | [],a=>.inl a
 |x::r,a=>match g a x with
  |.inl a'=>a7u g r a'
  |.inr b=>.inr b
def b5r(fin:A→β):A ⊕ β→β
 |.inl a=>fin a
 |.inr b=>b
theorem a7f{f:σ→Option (σ ⊕ β)}(l:List α)(S:Nat→A→σ)(g:A→α→A ⊕ β)(I:Nat→A→Prop)(j:A→β)
  (e:∀i (h:i<l.length) a,I i a→(∀a',g a l[i]=.inl a'→f (S i a)=some (.inl (S (i+1) a'))∧I (i+1) a')∧(∀b,g a l[i]=.inr b→f (S i a)=some (.inr b)))
  (c:∀a,I l.length a→f (S l.length a)=some (.inr (j a))):∀(k i:Nat)(a:A),i+k=l.length→I i a→y0h f (S i a)=some (b5r j (a7u g (l.drop i) a))
 |0,i,a,hi,ha=>by
  obtain rfl:i=l.length:=by omega
  rw[b04];exact a1g (c a ha)
 |k+1,i,a,hi,ha=>by
  have m:i<l.length:=by omega
  rw[a51 m];obtain⟨n,o⟩:=e i m a ha;simp only[a7u];cases hg:g a l[i]with
  |inl a'=>
   obtain⟨p,q⟩:=n a' hg;rw[a1A p];exact a7f l S g I j e c k (i+1) a' (by omega) q
  |inr b=>exact a1g (o b hg)
theorem b4v{f:σ→Option (σ ⊕ β)}(l:List α)(S:Nat→A→σ)(g:A→α→A ⊕ β)(I:Nat→A→Prop)(c:A→β)
  (j:∀i (h:i<l.length) a,I i a→(∀a',g a l[i]=.inl a'→f (S i a)=some (.inl (S (i+1) a'))∧I (i+1) a')∧(∀b,g a l[i]=.inr b→f (S i a)=some (.inr b)))
  (e:∀a,I l.length a→f (S l.length a)=some (.inr (c a))){a:A}(m:I 0 a):y0h f (S 0 a)=some (b5r c (a7u g l a)):=by
 have:=a7f l S g I c j e l.length 0 a (by omega) m
 rwa [a82]at this
end
theorem b1I{l:List α}(h:i<l.length):n0s l (i:Int)=some l[i]:=by
 unfold n0s;rw[if_pos (b17 i),tN,lG h]
theorem b0A(h:i<1000000):wrap .i64 ((i:Int)+1)=((i+1:Nat):Int):=by
 rw[wrap64 (by omega)];omega
theorem dlt(h:i<n):decide ((i:Int)<(n:Int))=true:=by simp;omega
theorem dge(n:Nat):decide ((n:Int)<(n:Int))=false:=by simp
theorem b1J(I:Nat→σ→Prop)(Q:β→Prop)(h:∀i s,I i s→(∃s' j,f s=some (.inl s')∧j<i∧I j s')∨(∃b,f s=some (.inr b)∧Q b)):∀(i:Nat)(s:σ),I i s→∃b,y0h f s=some b∧Q b:=by
 intro i
 induction i using b63 with
 |_ i ih=>
  intro s e;rcases h i s e with⟨s',j,g,a,c⟩|⟨b,g,a⟩;rw[a1A g];exact ih j a s' c;exact⟨b,a1g g,a⟩
theorem a1F(I:Nat→σ→Prop)(Q:β→Prop){R:Prop}(i:Nat)(s:σ)(g:I i s)(e:∀b,y0h f s=some b→Q b→R)(h:∀i s,I i s→(∃s' j,f s=some (.inl s')∧j<i∧I j s')∨(∃b,f s=some (.inr b)∧Q b)):R:=by
 obtain⟨b,a,c⟩:=b1J I Q h i s g;exact e b a c
theorem w64{n:Int}(h:-9223372036854775808≤n∧n<9223372036854775808):wrap .i64 n=n:=by
 simp only[wrap,IntKind.bits,IntKind.signed]
 simp
 omega
theorem wu8(n:Int):0≤wrap .u8 n∧wrap .u8 n<256:=by
 simp only[wrap,IntKind.bits,IntKind.signed]
 simp
 omega
abbrev a5B:Type:=List Int×(Int×Unit)
variable {t:a5B}
def a1B(r:Nat)(t:a5B):Prop:=0≤t.2.1∧t.2.1+(r:Int)≤1000000
theorem a1B.mono{r':Nat}(h:a1B r t)(g:r'≤r):a1B r' t:=⟨h.1,by have:=h.2;omega⟩
theorem b4w(x:Int):∃v,a2N (x,(0:Int),(1073741824:Int))=some v∧0≤v:=by
 have f:wrap .i64 ((wrap .i64 ((1073741824:Int)-0))+(1:Int))=1073741825:=by decide
 unfold a2N;dsimp only
 by_cases h0:x≥0
 rw[decide_eq_true h0];simp only[cT,oB]
 by_cases h1:x≤1073741824
 rw[decide_eq_true h1];exact⟨x,rfl,h0⟩;rw[decide_eq_false h1];simp only[cF];rw[f];have b:0≤a58 x 1073741825:=b64 _ h0;have g:a58 x 1073741825<1073741825:=b18 _ (by decide);rw[decide_eq_false (show ¬ a58 x 1073741825<0 by omega)];have h:((1073741825:Int)==0)=false:=by decide
 simp only[h,cF,oB];refine⟨_,rfl,?_⟩;rw[w64 (by omega)];omega;rw[decide_eq_false h0];simp only[cF,oB];have g:-1073741825<a58 x 1073741825:=Int.lt_tmod_of_pos _ (by decide);have a:a58 x 1073741825<1073741825:=b18 _ (by decide);rw[f];have h:((1073741825:Int)==0)=false:=by decide
 simp only[h,cF]
 by_cases hn:a58 x 1073741825<0
 rw[decide_eq_true hn];simp only[cT,oB];refine⟨_,rfl,?_⟩;simp only[w64 (show -9223372036854775808≤a58 x 1073741825+1073741824∧a58 x 1073741825+1073741824<9223372036854775808 by omega)];simp only[w64 (show -9223372036854775808≤a58 x 1073741825+1073741824-0∧a58 x 1073741825+1073741824-0<9223372036854775808 by omega)];simp only[w64 (show -9223372036854775808≤a58 x 1073741825+1073741824-0+1∧a58 x 1073741825+1073741824-0+1<9223372036854775808 by omega)];rw[w64 (by omega)];omega;rw[decide_eq_false hn];simp only[cF,oB];refine⟨_,rfl,?_⟩;rw[w64 (by omega)];omega
theorem a1t{n:Int}(e:a1B (r+1) t)(f:0<n):∃v t',a0B (t,n)=some (v,t')∧0≤v∧v<n∧a1B r t':=by
 obtain⟨g,j⟩:=e;unfold a0B
 by_cases hc:t.2.1≥(t.1.length:Int)
 simp only[decide_eq_true hc,cT,oB];exact⟨0,t,rfl,b31 _,f,g,by omega⟩;simp only[decide_eq_false hc,cF,oB,decide_eq_false (show ¬ n<1 by omega)];have a:wrap .i64 (t.2.1+1)=t.2.1+1:=w64 (by omega);have b:wrap .i64 (t.2.1+1-1)=t.2.1:=by rw[w64 (by omega)];omega
 rw[a,b];obtain⟨y,i⟩:∃y,n0s t.1 t.2.1=some y:=by
  unfold n0s
  have:t.2.1.toNat<t.1.length:=by omega
  exact⟨_,by rw[if_pos g,lG this]⟩
 rw[i];obtain⟨v,hv,h⟩:=b4w y;simp only[oB,hv];have c:(n==0)=false:=by simp;omega
 simp only[c,cF];exact⟨_,_,rfl,b64 _ h,b18 _ f,by show 0≤t.2.1+1;omega,by show t.2.1+1+(r:Int)≤1000000;omega⟩
theorem b5s(r:Int×Unit):∃v r',a3s (r,(256:Int))=some (v,r'):=⟨_,_,rfl⟩
theorem a0A(h:n<2147483648):lim n=true:=by
 unfold lim;exact decide_eq_true (by omega)
theorem b3Q{n:Int}(B:a1B (r+2) t)(H:0≤n∧n≤1000):∃b t',a1V (t,n)=some (b,t')∧(b.length:Int)≤n∧(∀v∈b,0≤v∧v<256)∧a1B r t':=by
 unfold a1V;obtain⟨D,K,p,-,-,x⟩:=a1t B (show(0:Int)<1048576 by decide);have s:wrap .i64 (n+1)=n+1:=w64 (by omega);obtain⟨o,t2,q,E,b2,y⟩:=a1t x (show(0:Int)<n+1 by omega);simp only[p,oB,s,q];refine a1F (f:=a2o) (fun i h=>h.1=(i:Int)∧(h.2.1.length:Int)+i≤n∧(∀v∈h.2.1,0≤v∧v<256)∧h.2.2.2.1=t2)
  (fun w=>(w.1.length:Int)≤n∧(∀v∈w.1,0≤v∧v<256)∧w.2.1=t2) o.toNat (o,[],(D,()),t2,()) ⟨by simp only;omega,by simp only[a06];omega,by simp,rfl⟩ (fun w C z=>?_) (fun i h a=>?_)
 obtain⟨c,e,j⟩:=z;rw[C];exact⟨_,_,rfl,c,e,by show a1B r w.2.1;rw[j];exact y⟩;obtain⟨F,G,l,m⟩:=a;unfold a2o
 by_cases hp:h.1 > 0
 left;obtain⟨v,I,A⟩:=b5s h.2.2.1;rw[decide_eq_true hp,A];simp only[cT,oB];rw[a0A (by omega)];refine⟨_,i-1,rfl,by omega,?_,?_,?_,m⟩;show wrap .i64 (h.1-1)=_;rw[w64 (by omega)];omega;show((h.2.1.append [_]).length:Int)+_≤n;simp only[a20,lN,a07];omega;intro u g;rcases mA.1 (show u∈h.2.1++[_]from g)with g|g;exact l u g;rw[a16]at g;rw[g];exact wu8 _;right;rw[decide_eq_false hp];exact⟨_,rfl,by show(h.2.1.length:Int)≤n;omega,l,m⟩
abbrev Pk:Type:=Int×(Int×(Int×(Bool×(Bool×(List Int×Unit)))))
variable {L:List (List Pk)}{X Y Z:List Pk}{x y:Pk}
structure PkOk (s:Int) (p:Pk):Prop where
 st:p.1=s
 at0:0≤p.2.1
 at1:p.2.1≤1000
 len0:0≤p.2.2.1
 len1:p.2.2.1≤50
 dat:p.2.2.2.2.2.1.length≤900
 byt:∀v∈p.2.2.2.2.2.1,0≤v∧v<256
structure PksOk (s:Int) (n:Nat) (l:List Pk):Prop where
 ok:∀p∈l,PkOk s p
 len:l.length≤n
 asc:l.Pairwise fun p q=>p.2.1≤q.2.1
theorem b1K{s:Int}(ht:a1B (r+58) t)(hn:n≤8):∃l t',a1N (t,s,(n:Int))=some (l,t')∧PksOk s n l∧a1B r t':=by
 unfold a1N;obtain⟨v1,t1,H,a1,b1,T⟩:=a1t ht (show(0:Int)<40 by decide);have S:wrap .i64 ((n:Int)+1)=n+1:=w64 (by omega);obtain⟨A,t2,I,a2,b2,U⟩:=a1t T (show(0:Int)<(n:Int)+1 by omega);simp only[H,oB,S,I];refine a1F (f:=a2d) (fun i g=>g.1=s∧0≤g.2.1∧g.2.1+60*i≤40+60*(n:Int)∧g.2.2.1=(i:Int)∧(g.2.2.2.1.length:Int)+i≤n∧(∀p∈g.2.2.2.1,PkOk s p∧p.2.1≤g.2.1)∧g.2.2.2.1.Pairwise (fun p q=>p.2.1≤q.2.1)∧a1B (r+7*i) g.2.2.2.2.1)
  (fun w=>PksOk s n w.1∧a1B r w.2.1) A.toNat (s,v1,A,[],t2,()) ⟨rfl,a1,by simp only;omega,by simp only;omega,by simp only[a06];omega,by simp,.nil,U.mono (by omega)⟩ (fun w hw hQ=>?_) (fun i g o=>?_)
 obtain⟨u,v⟩:=hQ;rw[hw];exact⟨_,_,rfl,u,v⟩;obtain⟨x,G,c3,c4,c5,m,y,z⟩:=o;unfold a2d
 by_cases hp:g.2.2.1 > 0
 left;obtain⟨B,t3,K,C,b3,V⟩:=a1t (r:=r+7*(i-1)+6) (z.mono (by omega)) (show(0:Int)<50 by decide);obtain⟨x4,t4,L,a4,b4,W⟩:=a1t V (show(0:Int)<3 by decide);obtain⟨x5,t5,M,a5,b5,X⟩:=a1t W (show(0:Int)<8 by decide);obtain⟨c,t6,N,D,E,Y⟩:=a1t X (show(0:Int)<3 by decide);have hd:0≤a37 ([20,300,900]:List Int) (a26 c) 0∧a37 ([20,300,900]:List Int) (a26 c) 0≤900:=by
  have:a26 c=0∨a26 c=1∨a26 c=2:=by omega
  rcases this with h|h|h<;>rw[h]<;>decide
 obtain⟨b,t7,O,a7,F,Z⟩:=b3Q Y (n:=a37 ([20,300,900]:List Int) (a26 c) 0) (by omega);obtain⟨j,t8,P,a8,b8,h8⟩:=a1t Z (show(0:Int)<60 by decide);rw[decide_eq_true hp];simp only[cT,oB,K,L,M,N,O,P,decide_eq_true D,decide_eq_true E,a23];rw[a0A (by omega)];have Q:wrap .i64 (g.2.1+j)=g.2.1+j:=w64 (by omega);have R:wrap .i64 (g.2.2.1-1)=g.2.2.1-1:=w64 (by omega);rw[Q,R];have e:PkOk s (g.1,g.2.1,B,decide (x4 > 0),x5==7,b,()):=⟨x,G,by show g.2.1≤1000;omega,C,by show B≤50;omega,by show b.length≤900;omega,F⟩;refine⟨_,i-1,rfl,by omega,x,by show 0≤g.2.1+j;omega,by show g.2.1+j+60*((i-1:Nat):Int)≤_;omega,by show g.2.2.1-1=_;omega,?_,?_,?_,h8⟩;show((g.2.2.2.1.append [_]).length:Int)+_≤n;simp only[a20,lN,a07];omega;intro p a;show PkOk s p∧p.2.1≤g.2.1+j;rcases mA.1 (show p∈g.2.2.2.1++[_]from a)with a|a
 have:=m p a
 exact⟨this.1,by omega⟩;rw[a16]at a;subst a;exact⟨e,by show g.2.1≤_;omega⟩;show(g.2.2.2.1++[_]).Pairwise _;refine a17.2 ⟨y,a43 ..,fun p hp q a=>?_⟩;rw[a16]at a;subst a;exact(m p hp).2;right;rw[decide_eq_false hp];exact⟨_,rfl,⟨fun p hp=>(m p hp).1,by show g.2.2.2.1.length≤n;omega,y⟩,z.mono (by omega)⟩
def klt(p q:Pk):Bool:=decide (p.2.1<q.2.1) || (decide (p.2.1=q.2.1)&&decide (p.1<q.1))
def sg(a b:Int):Int:=bif decide (a<b)then -1 else(bif decide (a > b)then 1 else 0)
theorem b7O(a b:Int):a2O (a,b)=some (sg a b):=by
 simp only[a2O,a3f,oB,bne_self_eq_false,cF,sg];cases decide (a<b)<;>cases decide (a > b)<;>rfl
theorem b9o(a b:Int):a3g (a,b)=some (sg a b):=by
 simp only[a3g,a3R,oB,bne_self_eq_false,cF,sg];cases decide (a<b)<;>cases decide (a > b)<;>rfl
theorem b1L(a b:Int):(a<b∧sg a b=-1)∨(b<a∧sg a b=1)∨(a=b∧sg a b=0):=by
 unfold sg
 by_cases h1:a<b
 rw[decide_eq_true h1];exact .inl ⟨h1,rfl⟩;rw[decide_eq_false h1]
 by_cases h2:a > b
 rw[decide_eq_true h2];exact .inr (.inl ⟨h2,rfl⟩);rw[decide_eq_false h2];exact .inr (.inr ⟨by omega,rfl⟩)
theorem b7e(a b:Int)(h:a=-1∨a=1∨a=0)(g:b=-1∨b=1∨b=0):a6h [a,b]=some (if a=0 then b else a):=by
 rcases h with rfl|rfl|rfl<;>rcases g with rfl|rfl|rfl<;>kernel_rfl
theorem a9h(p q:Pk):∃c,a2F (p,q)=some c∧decide (c<0)=klt p q:=by
 simp only[a2F,b7O,b9o,oB];obtain⟨f,h⟩|⟨f,h⟩|⟨f,h⟩:=b1L p.2.1 q.2.1<;>obtain⟨a,g⟩|⟨a,g⟩|⟨a,g⟩:=b1L p.1 q.1 <;>
  (rw[h,g,b7e _ _ (by decide) (by decide)];refine⟨_,rfl,?_⟩;simp only[klt,oB];(try rw[decide_eq_true f]);simp[show ¬ q.2.1<p.2.1∨True from .inr trivial];try omega)
section
variable {α:Type}
theorem a6c(P T:List α)(x z:α)(h:i=P.length):a37 (P++x::T) i z=x:=by
 subst h;rw[lD,a38 (a13 _),a73];rfl
theorem a9i(P Q R:List α)(x y z:α)(h:j=P.length+1+Q.length):a37 (P++x::(Q++y::R)) j z=y:=by
 have:=a6c (P++x::Q) R y z (i:=j) (by simp;omega)
 simpa using this
theorem a9P(P Q R:List α)(x y:α)(h:i=P.length)(g:j=P.length+1+Q.length):b43 (b43 (P++x::(Q++y::R)) i y) j x=P++y::(Q++x::R):=by
 subst h g;rw[a75 _ _ (a13 _),a73];simp only[a98];rw[a75 _ _ (by omega)];rw[show P.length+1+Q.length-P.length=Q.length+1 by omega];simp only[b44];rw[a75 _ _ (a13 _),a73];rfl
end
theorem a6z{p M s:List Pk}(h:X.length=Y.length)(u:(p++(X++(M++(Y++s)))).length<1000000){a b n:Int}(x:a=p.length)(y:b=(p.length+X.length+M.length:Nat))(z:n=X.length):
  a0R (p++(X++(M++(Y++s))),a,b,n,())=some (p++(Y++(M++(X++s)))):=by
 simp only[lN]at u;unfold a0R;simp only
 have:=a0D (f:=a1h) (fun k=>(a,b,n,(k:Int),p++((Y.take k++X.drop k)++(M++((X.take k++Y.drop k)++s))),())) X.length (b:=(p++(Y++(M++(X++s))),())) (fun k l=>?_) ?_
 simp only[a57,a82,a05]at this;rw[show((0:Nat):Int)=0 from rfl]at this;rw[this];rfl;unfold a1h;simp only;have v:wrap .i64 (b+(k:Int))=b+k:=w64 (by omega);have w2:wrap .i64 (a+(k:Int))=a+k:=w64 (by omega);have w:wrap .i64 ((k:Int)+1)=((k+1:Nat):Int):=w64 (by omega);have g:k<Y.length:=by omega
 have r:X.drop k=X[k]::X.drop (k+1):=a51 l;have t:Y.drop k=Y[k]::Y.drop (k+1):=a51 g;have e:p++((Y.take k++X.drop k)++(M++((X.take k++Y.drop k)++s)))=(p++Y.take k)++X[k]::((X.drop (k+1)++(M++X.take k))++Y[k]::(Y.drop (k+1)++s)):=by
  rw[r,t];simp only[aA,a24,a05]
 have m:p++((Y.take (k+1)++X.drop (k+1))++(M++((X.take (k+1)++Y.drop (k+1))++s)))=(p++Y.take k)++Y[k]::((X.drop (k+1)++(M++X.take k))++X[k]::(Y.drop (k+1)++s)):=by
  rw[a04 l,a04 g];simp only[aA,a24,a05]
 have i:a26 (a+k)=(p++Y.take k).length:=by simp;omega
 have j:a26 (b+k)=(p++Y.take k).length+1+(X.drop (k+1)++(M++X.take k)).length:=by simp;omega
 rw[e,m,v,w2,w,decide_eq_true (show(k:Int)<n by omega)];rw[a6c _ _ _ _ i,a9i _ _ _ _ _ _ j,a9P _ _ _ _ _ i j];have c:((p++Y.take k)++X[k]::((X.drop (k+1)++(M++X.take k))++Y[k]::(Y.drop (k+1)++s))).length=p.length+(X.length+(M.length+(Y.length+s.length))):=by simp;omega
 simp only[a32,c];rw[decide_eq_true (show 0≤b+(k:Int)by omega),decide_eq_true (show 0≤a+(k:Int)by omega),decide_eq_true (show a+(k:Int)<((p.length+(X.length+(M.length+(Y.length+s.length))):Nat):Int)by omega),decide_eq_true (show b+(k:Int)<((p.length+(X.length+(M.length+(Y.length+s.length))):Nat):Int)by omega)];rfl;unfold a1h;simp only;rw[decide_eq_false (by omega)];have o:Y.take X.length=Y:=by rw[h];exact a08
 have q:Y.drop X.length=[]:=by rw[h];exact b04
 simp only[cF,o,q,a08,b04,a02]
theorem b4x{p s:List Pk}(u:X≠[])(v:Y≠[])(C:(p++(X++(Y++s))).length<1000000){a b:Int}(I:a=p.length)(L:m=(p.length+X.length:Nat))(K:b=(p.length+X.length+Y.length:Nat)):
  a1w (p++(X++(Y++s)),a,m,b,())=some (p++(Y++(X++s))):=by
 simp only[lN]at C;have P:=a03.2 u;have Q:=a03.2 v;unfold a1w;simp only;have E:wrap .i64 (m-a)=(X.length:Int):=by rw[w64 (by omega)];omega
 have w2:wrap .i64 (b-m)=(Y.length:Int):=by rw[w64 (by omega)];omega
 rw[E,w2];refine a1F (f:=a1G) (fun k x=>∃A c g B:List Pk,x=(m,(),(c.length:Int),(g.length:Int),p++(A++(c++(g++(B++s)))),())∧A.length+c.length=X.length∧g.length+B.length=Y.length∧A++(g++(c++B))=Y++X∧c≠[]∧g≠[]∧k=c.length+g.length)
  (fun w=>∃A c g B:List Pk,w=(m,(),(c.length:Int),p++(A++(c++(g++(B++s)))),())∧A.length+c.length=X.length∧g.length+B.length=Y.length∧A++(g++(c++B))=Y++X∧c.length=g.length)
  (X.length+Y.length) (m,(),(X.length:Int),(Y.length:Int),p++(X++(Y++s)),()) ⟨[],X,Y,[],rfl,by simp,by simp,by simp,u,v,rfl⟩ (fun w D z=>?_) (fun k x o=>?_)
 obtain⟨A,c,g,B,rfl,r,t,i,l⟩:=z;rw[D];simp only[oB];have j:wrap .i64 (m-(c.length:Int))=m-c.length:=w64 (by omega)
 have:=a6z (p:=p++A) (X:=c) (M:=[]) (Y:=g) (s:=B++s) l (by simp only[lN,a06];omega) (a:=m-c.length) (b:=m) (n:=c.length) (by simp only[lN];omega) (by simp only[lN,a06];omega) rfl
 rw[j];simp only[aA,a05]at this;rw[this];simp only[oB];have e:p++(A++(g++(c++(B++s))))=p++((A++(g++(c++B)))++s):=by simp only[aA]
 rw[e,i];simp only[aA];obtain⟨A,c,g,B,rfl,r,t,i,l,y,H⟩:=o;have N:=a03.2 l;have O:=a03.2 y;unfold a1G;simp only
 by_cases hij:c.length=g.length
 right
 have:((c.length:Int) != (g.length:Int))=false:=by simp[hij]
 rw[this];exact⟨_,rfl,A,c,g,B,rfl,r,t,i,hij⟩;left
 have:((c.length:Int) != (g.length:Int))=true:=by simp;omega
 rw[this];have j:wrap .i64 (m-(c.length:Int))=m-c.length:=w64 (by omega)
 by_cases hgt:c.length > g.length
 rw[decide_eq_true (show(c.length:Int) > (g.length:Int)by omega)];simp only[cT];have G:c=c.take g.length++c.drop g.length:=(a29 _ _).symm
 have:=a6z (p:=p++A) (X:=c.take g.length) (M:=c.drop g.length) (Y:=g) (s:=B++s) (by simp;omega) (by simp only[lN,a00,a01];omega) (a:=m-c.length) (b:=m) (n:=g.length) (by simp only[lN];omega) (by simp only[lN,a00,a01];omega) (by simp;omega)
 simp only[aA]at this;rw[←aA (c.take g.length),a29]at this;rw[j,this];simp only[oB];have q:wrap .i64 ((c.length:Int)-g.length)=((c.drop g.length).length:Int):=by rw[w64 (by omega),a01];omega
 rw[q];refine⟨_,(c.drop g.length).length+g.length,rfl,by simp only[a01];omega,A++g,c.drop g.length,c.take g.length,B,?_,?_,?_,?_,?_,?_,?_⟩;rw[show(c.take g.length).length=g.length by simp;omega];simp only[aA];simp only[lN,a01];omega;simp only[a00];omega;rw[←i];simp only[aA];rw[←aA (c.take g.length),a29];intro h;have:=congrArg a27 h;simp only[a00,a01,a06]at this;omega;intro h;have:=congrArg a27 h;simp only[a00,a01,a06]at this;omega;simp only[a00,a01];omega;rw[decide_eq_false (show ¬ (c.length:Int) > (g.length:Int)by omega)];simp only[cF];have F:wrap .i64 ((wrap .i64 (m+(g.length:Int)))-c.length)=m+g.length-c.length:=by rw[w64 (n:=m+g.length) (by omega),w64 (by omega)]
 have:=a6z (p:=p++A) (X:=c) (M:=g.take (g.length-c.length)) (Y:=g.drop (g.length-c.length)) (s:=B++s) (by simp;omega) (by simp only[lN,a00,a01];omega) (a:=m-c.length) (b:=m+g.length-c.length) (n:=c.length) (by simp only[lN];omega) (by simp only[lN,a00,a01];omega) rfl
 simp only[aA]at this;rw[←aA (g.take _) (g.drop _) (B++s),a29]at this;rw[j,F,this];simp only[oB];have q:wrap .i64 ((g.length:Int)-c.length)=((g.take (g.length-c.length)).length:Int):=by rw[w64 (by omega),a00];omega
 rw[q];refine⟨_,c.length+(g.take (g.length-c.length)).length,rfl,by simp only[a00];omega,A,g.drop (g.length-c.length),g.take (g.length-c.length),c++B,?_,?_,?_,?_,?_,?_,?_⟩;rw[show(g.drop (g.length-c.length)).length=c.length by simp;omega];simp only[aA];simp only[a01];omega;simp only[a00,lN];omega;rw[←i];rw[←aA (g.take _) (g.drop _),a29];intro h;have:=congrArg a27 h;simp only[a00,a01,a06]at this;omega;intro h;have:=congrArg a27 h;simp only[a00,a01,a06]at this;omega;simp only[a00,a01];omega
theorem a7g(p q:Pk):klt p q=true↔p.2.1<q.2.1∨(p.2.1=q.2.1∧p.1<q.1):=by simp[klt]
theorem a7h(p q:Pk):klt p q=false↔¬ (p.2.1<q.2.1∨(p.2.1=q.2.1∧p.1<q.1)):=by rw[←a7g,Bool.not_eq_true]
theorem a5o{z:Pk}(h:klt y x=false)(g:klt z y=false):klt z x=false:=by
 rw[a7h]at *;omega
theorem b7P{z:Pk}(g:klt x y=true)(h:klt z y=false):klt x z=true:=by
 rw[a7g]at *;rw[a7h]at h;omega
theorem b5W{z:Pk}(h:klt y x=false)(g:klt y z=true):klt x z=true:=by
 rw[a7g]at *;rw[a7h]at h;omega
theorem a8t(h:klt x y=true):klt y x=false:=by
 rw[a7h];rw[a7g]at h;omega
def Asc(l:List Pk):Prop:=l.Pairwise fun x y=>klt y x=false
inductive Stb:List Pk→List Pk→Prop where
 |refl (l):Stb l l
 |swap (p:List Pk) (x y:Pk) (s:List Pk) (h:klt y x=true):Stb (p++x::y::s) (p++y::x::s)
 |trans {a b c}:Stb a b→Stb b c→Stb a c
theorem Stb.perm{a b:List Pk}(h:Stb a b):b.Perm a:=by
 induction h with
 |refl=>exact .refl _
 |swap p x y s _=>exact(List.Perm.swap x y s).append_left p
 |trans _ _ h1 h2=>exact h2.trans h1
theorem Stb.ctx{a b:List Pk}(h:Stb a b)(p s:List Pk):Stb (p++(a++s)) (p++(b++s)):=by
 induction h with
 |refl=>exact .refl _
 |swap q x y t h=>
  have:=Stb.swap (p++q) x y (t++s) h
  simpa only[aA,a24]using this
 |trans _ _ h1 h2=>exact h1.trans h2
theorem Stb.past(x:Pk):∀(Y:List Pk),(∀y∈Y,klt y x=true)→Stb (x::Y) (Y++[x])
 | [],_=>.refl _
 |y::Y,h=>by
  have f:=Stb.swap [] x y Y (h y (by simp));have g:=(Stb.past x Y fun z a=>h z (by simp[a])).ctx [y] [];simp only[a02]at g;exact f.trans g
theorem Stb.blocks:∀(X Y:List Pk),(∀x∈X,∀y∈Y,klt y x=true)→Stb (X++Y) (Y++X)
 | [],Y,_=>by rw[a02];exact .refl _
 |x::X,Y,h=>by
  have g:=(Stb.blocks X Y fun z a=>h z (by simp[a])).ctx [x] [];have f:=(Stb.past x Y (h x (by simp))).ctx [] X;simp only[a02,a05,aA,a24]at g f;exact g.trans f
theorem a9Q(S:Nat→Nat→σ)(E:Nat→β)(P:Nat→Bool)(lo b:Nat)(mono:∀h k,lo≤k→k≤h→h<b→P h=true→P k=true)(step:∀i j,lo≤i→i<j→j≤b→f (S i j)=some (.inl (bif P ((i+j) / 2)then S ((i+j) / 2+1) j else S i ((i+j) / 2))))(l:∀i,lo≤i→i≤b→f (S i i)=some (.inr (E i))):
  ∀(n i j:Nat),j=i+n→lo≤i→j≤b→(∀k,lo≤k→k<i→P k=true)→(∀k,j≤k→k<b→P k=false)→
  ∃c,lo≤c∧c≤b∧y0h f (S i j)=some (E c)∧(∀k,lo≤k→k<c→P k=true)∧(∀k,c≤k→k<b→P k=false):=by
 intro n
 induction n using b63 with
 |_ n ih=>
  intro i j r g a o p
  by_cases hn:n=0
  obtain rfl:i=j:=by omega
  exact⟨i,g,a,a1g (l i g a),o,p⟩
  ·have q:=step i j g (by omega) a;rw[a1A q];cases hP:P ((i+j) / 2)with
   |true=>
    exact ih (j-((i+j) / 2+1)) (by omega) _ _ (by omega) (by omega) a (fun k e m=>mono _ k e (by omega) (by omega) hP) p
   |false=>
    refine ih ((i+j) / 2-i) (by omega) _ _ (by omega) g (by omega) o fun k e m=>?_
    cases hk:P k with
    |false=>rfl
    |true=>
     have:=mono k ((i+j) / 2) (by omega) e m hk
     rw[hP]at this;cases this
theorem a8u(h:i+j<2147483648):wrap .i64 (E0j .u64 (wrap .u64 (wrap .i64 ((i:Int)+(j:Int)))) (1:Int))=(((i+j) / 2:Nat):Int):=by
 rw[w64 (n:=(i:Int)+j) (by omega)];have g:wrap .u64 ((i:Int)+(j:Int))=((i+j:Nat):Int):=by
  simp only[wrap,IntKind.bits,IntKind.signed]
  simp
  omega
 rw[g];have f:E0j .u64 ((i+j:Nat):Int) (1:Int)=(((i+j) / 2:Nat):Int):=by
  unfold E0j;show Int.fdiv _ 2=_;rw[b21 _ (by decide)];omega
 rw[f,w64 (by omega)]
theorem b6c(x:Pk):klt x x=false:=by rw[a7h];omega
theorem a5p(h:Asc Y)(g:i≤j)(f:j<Y.length):klt Y[j] (Y[i]'(by omega))=false:=by
 by_cases e:i=j
 subst e;exact b6c _;exact a80.1 h i j (by omega) f (by omega)
theorem a7v{q s:List Pk}{k t:Nat}{z:Pk}(h:k=q.length+t)(g:t<Y.length):a37 (q++(Y++s)) k z=Y[t]:=by
 subst h;rw[lD,a38 (by omega),a63 (by omega),show q.length+t-q.length=t by omega,lG g];rfl
theorem b1M(P Q R:List α)(x y:α)(h:i=P.length)(g:j=P.length+1+Q.length):b43 (b43 (P++x::(Q++y::R)) j x) i y=P++y::(Q++x::R):=by
 rw[List.set_comm _ _ (by omega)];exact a9P P Q R x y h g
theorem a7w(h:y∈Y.take n):∃t,∃h:t<Y.length,t<n∧Y[t]=y:=by
 obtain⟨t,g,e⟩:=b35.1 h;rw[a00]at g;rw[List.getElem_take]at e;exact⟨t,by omega,by omega,e⟩
theorem a7x(h:y∈Y.drop n):∃t,∃h:t<Y.length,n≤t∧Y[t]=y:=by
 obtain⟨t,g,e⟩:=b35.1 h;rw[a01]at g;rw[List.getElem_drop]at e;exact⟨n+t,by omega,by omega,e⟩
theorem b9p(U:Nat){p s:List Pk}(P:Asc Y)(hl:(p++([x]++(Y++s))).length<1000000){a b:Int}(Q:a=p.length)(hm:m=(p.length+1:Nat))(W:b=(p.length+1+Y.length:Nat)):
  ∃Z,a0C (U+1) (p++([x]++(Y++s)),a,m,b,())=some (p++(Z++s))∧Asc Z∧Stb ([x]++Y) Z:=by
 simp only[lN,a07]at hl;have K:a37 (p++([x]++(Y++s))) p.length ((0:Int),(0:Int),(0:Int),false,false,([]:(List Int)),())=x:=a6c p (Y++s) x _ rfl;have l:∀t (B:t<Y.length),a37 (p++([x]++(Y++s))) (p.length+1+t) ((0:Int),(0:Int),(0:Int),false,false,([]:(List Int)),())=Y[t]:=fun t B=>by
  rw[←aA];exact a7v (q:=p++[x]) (by simp) B
 obtain⟨c,X,h0,H,F,G⟩:=a9Q (f:=a1m) (fun i j=>(a,(),(i:Int),(j:Int),p++([x]++(Y++s)),())) (fun c=>(a,(c:Int),p++([x]++(Y++s)),()))
  (fun k=>klt (a37 (p++([x]++(Y++s))) k ((0:Int),(0:Int),(0:Int),false,false,([]:(List Int)),())) x) (p.length+1) (p.length+1+Y.length)
  (fun h k r w E O=>by
   obtain⟨t,rfl⟩:∃t,h=p.length+1+t:=⟨h-(p.length+1),by omega⟩;obtain⟨u,rfl⟩:∃u,k=p.length+1+u:=⟨k-(p.length+1),by omega⟩;rw[l t (by omega)]at O;rw[l u (by omega)];exact b5W (a5p P (show u≤t by omega) (by omega)) O)
  (fun i j r w E=>by
   unfold a1m;simp only;rw[a8u (by omega),decide_eq_true (show(i:Int)<(j:Int)by omega)];obtain⟨v,hv,I⟩:=a9h (a37 (p++([x]++(Y++s))) ((i+j) / 2) ((0:Int),(0:Int),(0:Int),false,false,([]:(List Int)),())) x;have g:(p++([x]++(Y++s))).length=p.length+(1+(Y.length+s.length)):=by simp only[lN,a07]
   rw[g,decide_eq_true (show(0:Int)≤(((i+j) / 2:Nat):Int)by omega),decide_eq_true (show(((i+j) / 2:Nat):Int)<((p.length+(1+(Y.length+s.length)):Nat):Int)by omega),decide_eq_true (show 0≤a by omega),decide_eq_true (show a<((p.length+(1+(Y.length+s.length)):Nat):Int)by omega)];simp only[a23,cT,tN,Q,K,hv,oB,I];cases klt (a37 (p++([x]++(Y++s))) ((i+j) / 2) ((0:Int),(0:Int),(0:Int),false,false,([]:(List Int)),())) x with
   |true=>
    simp only[cT];rw[w64 (by omega)];rfl
   |false=>rfl)
  (fun i r w=>by
   unfold a1m;simp only;rw[decide_eq_false (by omega)];rfl) Y.length _ _ rfl (a13 _) (a13 _) (fun k r w=>by omega) (fun k r w=>by omega)
 obtain⟨n,rfl⟩:∃n,c=p.length+1+n:=⟨c-(p.length+1),by omega⟩;have hn:n≤Y.length:=by omega
 have N:∀y∈Y.take n,klt y x=true:=fun y A=>by
  obtain⟨t,B,o,rfl⟩:=a7w A
  have:=F (p.length+1+t) (by omega) (by omega)
  rwa [l t B]at this
 have V:∀y∈Y.drop n,klt y x=false:=fun y A=>by
  obtain⟨t,B,o,rfl⟩:=a7x A
  have:=G (p.length+1+t) (by omega) (by omega)
  rwa [l t B]at this
 have D:Y.take n++Y.drop n=Y:=a29 n Y;refine⟨Y.take n++x::Y.drop n,?_,?_,?_⟩;unfold a0C;simp only;rw[show wrap .i64 (m-a)=1 by rw[w64 (by omega)];omega];simp only[beq_self_eq_true,cT];rw[hm,W,H];simp only[oB]
 have:=a0D (f:=a1n) (fun t=>(((p.length+1+n:Nat):Int),((p.length+t:Nat):Int),p++(((Y.take n).take t++x::(Y.take n).drop t)++(Y.drop n++s)),())) n (b:=(p++((Y.take n++x::Y.drop n)++s),())) (fun t B=>?_) ?_
 simp only[a57,a82,a05,Nat.add_zero,a24]at this;rw[←aA (Y.take n),D,←Q]at this;rw[show[x]++(Y++s)=x::(Y++s)from rfl,this];rfl;unfold a1n;simp only;have o:t<(Y.take n).length:=by rw[a00];omega
 have M:wrap .i64 (((p.length+1+n:Nat):Int)-1)=((p.length+n:Nat):Int):=by rw[w64 (by omega)];omega
 have w2:wrap .i64 (((p.length+t:Nat):Int)+1)=((p.length+(t+1):Nat):Int):=by rw[w64 (by omega)];omega
 rw[M,w2,decide_eq_true (show((p.length+t:Nat):Int)<((p.length+n:Nat):Int)by omega)];have e:p++(((Y.take n).take t++x::(Y.take n).drop t)++(Y.drop n++s))=(p++(Y.take n).take t)++x::([]++(Y.take n)[t]::((Y.take n).drop (t+1)++(Y.drop n++s))):=by
  rw[a51 o];simp only[aA,a24,a05]
 have T:p++(((Y.take n).take (t+1)++x::(Y.take n).drop (t+1))++(Y.drop n++s))=(p++(Y.take n).take t)++(Y.take n)[t]::([]++x::((Y.take n).drop (t+1)++(Y.drop n++s))):=by
  rw[a04 o];simp only[aA,a24,a05]
 have C:(p++(Y.take n).take t).length=p.length+t:=by simp only[lN,a00];omega
 have R:a26 ((p.length+t:Nat):Int)=(p++(Y.take n).take t).length:=by rw[C];rfl
 have S:a26 ((p.length+(t+1):Nat):Int)=(p++(Y.take n).take t).length+1+([]:List Pk).length:=by rw[C];rfl
 rw[e,T,a6c _ _ _ _ R,a9i _ _ _ _ _ _ S,a9P _ _ _ _ _ R S];have g:((p++(Y.take n).take t)++x::([]++(Y.take n)[t]::((Y.take n).drop (t+1)++(Y.drop n++s)))).length=p.length+(1+(Y.length+s.length)):=by
  rw[←e];simp only[lN,lC,a00,a01];omega
 simp only[a32,g];rw[decide_eq_true (show(0:Int)≤((p.length+t:Nat):Int)by omega),decide_eq_true (show(0:Int)≤((p.length+(t+1):Nat):Int)by omega),decide_eq_true (show((p.length+t:Nat):Int)<((p.length+(1+(Y.length+s.length)):Nat):Int)by omega),decide_eq_true (show((p.length+(t+1):Nat):Int)<((p.length+(1+(Y.length+s.length)):Nat):Int)by omega)];rfl;unfold a1n;simp only;have M:wrap .i64 (((p.length+1+n:Nat):Int)-1)=((p.length+n:Nat):Int):=by rw[w64 (by omega)];omega
 rw[M,decide_eq_false (by omega)];have r:(Y.take n).take n=Y.take n:=by rw[b32,Nat.min_self]
 have w:(Y.take n).drop n=[]:=by rw[a44,a00];omega
 simp only[cF,r,w,aA,a24,a05];have h:=P;rw[←D]at h;obtain⟨r,w,E⟩:=a17.1 h;refine a17.2 ⟨r,a34.2 ⟨fun y A=>V y A,w⟩,fun y A z L=>?_⟩;rcases mC.1 L with rfl|L;exact a8t (N y A);exact E y A z L;have h:=(Stb.past x (Y.take n) N).ctx [] (Y.drop n);simp only[a05,aA,a24,D]at h;exact h
theorem b9q(fu:Nat){p s:List Pk}(S:Asc X)(h0:X.length≠1)(hl:(p++(X++([y]++s))).length<1000000){a b:Int}(ha:a=p.length)(V:m=(p.length+X.length:Nat))(hb:b=(p.length+X.length+1:Nat)):
  ∃Z,a0C (fu+1) (p++(X++([y]++s)),a,m,b,())=some (p++(Z++s))∧Asc Z∧Stb (X++[y]) Z:=by
 simp only[lN,a07]at hl;have O:a37 (p++(X++([y]++s))) (p.length+X.length) ((0:Int),(0:Int),(0:Int),false,false,([]:(List Int)),())=y:=by
  rw[←aA];exact a6c (p++X) s y _ (by simp)
 have o:∀t (A:t<X.length),a37 (p++(X++([y]++s))) (p.length+t) ((0:Int),(0:Int),(0:Int),false,false,([]:(List Int)),())=X[t]:=fun t A=>a7v rfl A;obtain⟨c,h4,h5,C,H,I⟩:=a9Q (f:=a1o) (fun i j=>(m,(),(i:Int),(j:Int),p++(X++([y]++s)),())) (fun c=>(m,(c:Int),p++(X++([y]++s)),()))
  (fun k=>!klt y (a37 (p++(X++([y]++s))) k ((0:Int),(0:Int),(0:Int),false,false,([]:(List Int)),()))) p.length (p.length+X.length)
  (fun h k q w G R=>by
   obtain⟨t,rfl⟩:∃t,h=p.length+t:=⟨h-p.length,by omega⟩;obtain⟨u,rfl⟩:∃u,k=p.length+u:=⟨k-p.length,by omega⟩;rw[o t (by omega),a86]at R;rw[o u (by omega),a86];exact a5o (a5p S (show u≤t by omega) (by omega)) R)
  (fun i j q w G=>by
   unfold a1o;simp only;rw[a8u (by omega),decide_eq_true (show(i:Int)<(j:Int)by omega)];obtain⟨v,hv,N⟩:=a9h y (a37 (p++(X++([y]++s))) ((i+j) / 2) ((0:Int),(0:Int),(0:Int),false,false,([]:(List Int)),()));have g:(p++(X++([y]++s))).length=p.length+(X.length+(1+s.length)):=by simp only[lN,a07]
   rw[g,decide_eq_true (show(0:Int)≤(((i+j) / 2:Nat):Int)by omega),decide_eq_true (show(((i+j) / 2:Nat):Int)<((p.length+(X.length+(1+s.length)):Nat):Int)by omega),decide_eq_true (show 0≤m by omega),decide_eq_true (show m<((p.length+(X.length+(1+s.length)):Nat):Int)by omega)];simp only[a23,cT,tN,V,O,hv,oB,N];cases klt y (a37 (p++(X++([y]++s))) ((i+j) / 2) ((0:Int),(0:Int),(0:Int),false,false,([]:(List Int)),()))with
   |false=>
    simp only[a91,cT];rw[w64 (by omega)];rfl
   |true=>rfl)
  (fun i q w=>by
   unfold a1o;simp only;rw[decide_eq_false (by omega)];rfl) X.length _ _ rfl (a13 _) (a13 _) (fun k q w=>by omega) (fun k q w=>by omega)
 obtain⟨n,rfl⟩:∃n,c=p.length+n:=⟨c-p.length,by omega⟩;have hn:n≤X.length:=by omega
 have hA:∀x∈X.take n,klt y x=false:=fun x l=>by
  obtain⟨t,A,M,rfl⟩:=a7w l
  have:=H (p.length+t) (by omega) (by omega)
  rw[o t A]at this;simpa using this
 have Q:∀x∈X.drop n,klt y x=true:=fun x l=>by
  obtain⟨t,A,M,rfl⟩:=a7x l
  have:=I (p.length+t) (by omega) (by omega)
  rw[o t A]at this;simpa using this
 have F:X.take n++X.drop n=X:=a29 n X;have lD:(X.drop n).length=X.length-n:=a01;refine⟨X.take n++y::X.drop n,?_,?_,?_⟩;unfold a0C;simp only;have w0:wrap .i64 (m-a)=(X.length:Int):=by rw[w64 (by omega)];omega
 have K:((X.length:Int)==1)=false:=by simp;omega
 rw[w0,K,show wrap .i64 (b-m)=1 by rw[w64 (by omega)];omega];simp only[beq_self_eq_true,cT,cF];have Y:a=((p.length:Nat):Int):=ha;rw[Y];have P:(((p.length+X.length:Nat):Int))=m:=V.symm;rw[P]at C;rw[C];simp only[oB]
 have:=a0D (f:=a1p) (fun t=>(((p.length+n:Nat):Int),((p.length+X.length-t:Nat):Int),p++(X.take n++((X.drop n).take (X.length-n-t)++y::(X.drop n).drop (X.length-n-t)))++s,())) (X.length-n) (b:=(p++((X.take n++y::X.drop n)++s),())) (fun t A=>?_) ?_
 have q:(X.drop n).take (X.length-n-0)=X.drop n:=by rw[b27,←lD];exact a08
 have w:(X.drop n).drop (X.length-n-0)=[]:=by rw[b27,←lD];exact b04
 rw[q,w]at this;simp only[b27]at this;rw[←aA (X.take n),F,P]at this;simp only[aA]at this;rw[this];simp only[oB,aA];unfold a1p;simp only;obtain⟨r,hr⟩:∃r,X.length-n-t=r+1:=⟨X.length-n-t-1,by omega⟩;have L:X.length-n-(t+1)=r:=by omega
 have E:r<(X.drop n).length:=by omega
 have w2:wrap .i64 (((p.length+X.length-t:Nat):Int)-1)=((p.length+n+r:Nat):Int):=by rw[w64 (by omega)];omega
 have w3:((p.length+X.length-t:Nat):Int)=((p.length+n+r+1:Nat):Int):=by omega
 have w4:((p.length+X.length-(t+1):Nat):Int)=((p.length+n+r:Nat):Int):=by omega
 rw[hr,L,w2,w3,w4,decide_eq_true (show((p.length+n+r+1:Nat):Int) > ((p.length+n:Nat):Int)by omega)];have e:p++(X.take n++((X.drop n).take (r+1)++y::(X.drop n).drop (r+1)))++s=(p++(X.take n++(X.drop n).take r))++(X.drop n)[r]::([]++y::((X.drop n).drop (r+1)++s)):=by
  rw[a04 E];simp only[aA,a24,a05]
 have W:p++(X.take n++((X.drop n).take r++y::(X.drop n).drop r))++s=(p++(X.take n++(X.drop n).take r))++y::([]++(X.drop n)[r]::((X.drop n).drop (r+1)++s)):=by
  rw[a51 E];simp only[aA,a24,a05]
 have D:(p++(X.take n++(X.drop n).take r)).length=p.length+n+r:=by simp only[lN,a00];omega
 have T:a26 ((p.length+n+r:Nat):Int)=(p++(X.take n++(X.drop n).take r)).length:=by rw[D];rfl
 have U:a26 ((p.length+n+r+1:Nat):Int)=(p++(X.take n++(X.drop n).take r)).length+1+([]:List Pk).length:=by rw[D];rfl
 rw[e,W,a6c _ _ _ _ T,a9i _ _ _ _ _ _ U,b1M _ _ _ _ _ T U];have g:((p++(X.take n++(X.drop n).take r))++(X.drop n)[r]::([]++y::((X.drop n).drop (r+1)++s))).length=p.length+(X.length+(1+s.length)):=by
  rw[←e];simp only[lN,lC,a00,a01];omega
 simp only[a32,g];rw[decide_eq_true (show(0:Int)≤((p.length+n+r:Nat):Int)by omega),decide_eq_true (show(0:Int)≤((p.length+n+r+1:Nat):Int)by omega),decide_eq_true (show((p.length+n+r:Nat):Int)<((p.length+(X.length+(1+s.length)):Nat):Int)by omega),decide_eq_true (show((p.length+n+r+1:Nat):Int)<((p.length+(X.length+(1+s.length)):Nat):Int)by omega)];rfl;unfold a1p;simp only;rw[decide_eq_false (by omega)];simp only[a73,a57,a82,a05,cF,aA];have h:=S;rw[←F]at h;obtain⟨q,w,G⟩:=a17.1 h;refine a17.2 ⟨q,a34.2 ⟨fun x l=>a8t (Q x l),w⟩,fun x l z B=>?_⟩;rcases mC.1 B with rfl|B;exact hA x l;exact G x l z B;have h:=(Stb.blocks (X.drop n) [y] (fun x l z B=>by rw[a16]at B;rw[B];exact Q x l)).ctx (X.take n) [];simp only[a02]at h;rw[←aA,F]at h;exact h
theorem a0E{x:Option α}{f:α→Option β}{v:α}{r:Option β}(h:x=some v)(g:f v=r):x.bind f=r:=by rw[h];exact g
@[reducible] def zPk:Pk:=((0:Int),((0:Int),((0:Int),(false,(false,(([]:(List Int)),()))))))
theorem b7f{p s:List Pk}(H:Asc X)(I:Asc Y)(Z:(p++(X++(Y++s))).length<1000000){h:Nat}(hh:h=(X.length+Y.length) / 2)(u:Unit)(E G F n o:Int)(hn:o=(p.length+h+(p.length+X.length):Nat)):
  ∃t e,t+e=h∧t≤X.length∧e≤Y.length∧
   y0h a0W (E,G,F,u,n,o,((p.length+(h-Y.length):Nat):Int),((p.length+min h X.length:Nat):Int),o-1,p++(X++(Y++s)),())=some (E,G,F,u,n,o,((p.length+t:Nat):Int),p++(X++(Y++s)),())∧
   (∀y∈Y.take e,∀x∈X.drop t,klt y x=true)∧(∀x∈X.take t,∀y∈Y.drop e,klt y x=false):=by
 simp only[lN]at Z;have l:∀t (w:t<X.length),a37 (p++(X++(Y++s))) (p.length+t) zPk=X[t]:=fun t w=>a7v rfl w;have m:∀t (w:t<Y.length),a37 (p++(X++(Y++s))) (p.length+X.length+t) zPk=Y[t]:=fun t w=>by
  rw[←aA];exact a7v (q:=p++X) (by simp) w
 have b:∀t,h-Y.length≤t→t<min h X.length→t<X.length∧h-1-t<Y.length∧(p.length+h+(p.length+X.length)-1-(p.length+t))=p.length+X.length+(h-1-t):=fun t a B=>by omega
 obtain⟨c,U,V,N,K,L⟩:=a9Q (f:=a0W) (fun i j=>(E,G,F,u,n,o,(i:Int),(j:Int),o-1,p++(X++(Y++s)),())) (fun c=>(E,G,F,u,n,o,(c:Int),p++(X++(Y++s)),()))
  (fun k=>!klt (a37 (p++(X++(Y++s))) (p.length+h+(p.length+X.length)-1-k) zPk) (a37 (p++(X++(Y++s))) k zPk)) (p.length+(h-Y.length)) (p.length+min h X.length)
  (fun g k a B T S=>by
   obtain⟨t,rfl⟩:∃t,g=p.length+t:=⟨g-p.length,by omega⟩;obtain⟨v,rfl⟩:∃u,k=p.length+u:=⟨k-p.length,by omega⟩;obtain⟨r,z,A⟩:=b t (by omega) (by omega);obtain⟨r1,r2,r3⟩:=b v (by omega) (by omega);rw[A,l t r,m _ z,a86]at S;rw[r3,l v r1,m _ r2,a86];exact a5o (a5o (a5p H (show v≤t by omega) r) S) (a5p I (show h-1-t≤h-1-v by omega) r2))
  (fun i j a B T=>by
   unfold a0W;simp only;obtain⟨t,w⟩:∃t,(i+j) / 2=p.length+t:=⟨(i+j) / 2-p.length,by omega⟩;obtain⟨r,z,A⟩:=b t (by omega) (by omega);rw[a8u (by omega),decide_eq_true (show(i:Int)<(j:Int)by omega),w,A];have wp:wrap .i64 (o-1-((p.length+t:Nat):Int))=((p.length+X.length+(h-1-t):Nat):Int):=by rw[w64 (by omega)];omega
   obtain⟨v,hv,P⟩:=a9h (a37 (p++(X++(Y++s))) (p.length+X.length+(h-1-t)) zPk) (a37 (p++(X++(Y++s))) (p.length+t) zPk);have D:(p++(X++(Y++s))).length=p.length+(X.length+(Y.length+s.length)):=by simp only[lN]
   rw[D,wp,decide_eq_true (show(0:Int)≤((p.length+t:Nat):Int)by omega),decide_eq_true (show((p.length+t:Nat):Int)<((p.length+(X.length+(Y.length+s.length)):Nat):Int)by omega),decide_eq_true (show(0:Int)≤((p.length+X.length+(h-1-t):Nat):Int)by omega),decide_eq_true (show((p.length+X.length+(h-1-t):Nat):Int)<((p.length+(X.length+(Y.length+s.length)):Nat):Int)by omega)];simp only[a23,cT,tN,hv,oB,P];cases klt (a37 (p++(X++(Y++s))) (p.length+X.length+(h-1-t)) zPk) (a37 (p++(X++(Y++s))) (p.length+t) zPk)with
   |false=>
    simp only[a91,cT];rw[w64 (by omega)];rfl
   |true=>rfl)
  (fun i a B=>by
   unfold a0W;simp only;rw[decide_eq_false (by omega)];rfl) (min h X.length-(h-Y.length)) _ _ (by omega) (a13 _) (a13 _) (fun k a B=>by omega) (fun k a B=>by omega)
 obtain⟨t,rfl⟩:∃t,c=p.length+t:=⟨c-p.length,by omega⟩;refine⟨t,h-t,by omega,by omega,by omega,N,fun y R x Q=>?_,fun x Q y R=>?_⟩;obtain⟨i,W,M,rfl⟩:=a7w R;obtain⟨j,O,C,rfl⟩:=a7x Q;obtain⟨r,z,A⟩:=b t (by omega) (by omega);have a:=L (p.length+t) (by omega) (by omega);rw[A,l t r,m _ z]at a;have a:klt Y[h-1-t] X[t]=true:=by simpa using a
 exact b7P (b5W (a5p I (show i≤h-1-t by omega) z) a) (a5p H C O);obtain⟨i,W,M,rfl⟩:=a7w Q;obtain⟨j,O,C,rfl⟩:=a7x R;obtain⟨r,z,A⟩:=b (t-1) (by omega) (by omega);have a:=K (p.length+(t-1)) (by omega) (by omega);rw[A,l _ r,m _ z]at a;have a:klt Y[h-1-(t-1)] X[t-1]=false:=by simpa using a
 exact a5o (a5o (a5p H (show i≤t-1 by omega) r) a) (a5p I (show h-1-(t-1)≤j by omega) O)
theorem len1{l:List α}(h:l.length=1):∃x,l=[x]:=by
 match l,h with
 | [x],_=>exact⟨x,rfl⟩
set_option maxHeartbeats 4000000 in
theorem b1N:∀(fu:Nat){p X Y s:List Pk},Asc X→Asc Y→X≠[]→Y≠[]→X.length+Y.length≤fu→(p++(X++(Y++s))).length<1000000→
  ∃Z,a0C fu (p++(X++(Y++s)),((p.length:Int),(((p.length+X.length:Nat):Int),(((p.length+X.length+Y.length:Nat):Int),()))))=some (p++(Z++s))∧Asc Z∧Stb (X++Y) Z
 |0,p,X,Y,s,_,_,h1,_,hf,_=>by
  have:=a03.2 h1
  omega
 |fu+1,p,X,Y,s,hX,hY,hX0,hY0,hf,hl=>by
  have lX:=a03.2 hX0
  have lY:=a03.2 hY0
  by_cases h1:X.length=1
  ·obtain⟨x,rfl⟩:=len1 h1
   exact b9p fu hY hl rfl rfl rfl
  by_cases h2:Y.length=1
  ·obtain⟨y,rfl⟩:=len1 h2
   exact b9q fu hX h1 hl rfl rfl rfl
  have hl':=hl
  simp only[lN]at hl'
  obtain⟨h,hh⟩:∃h,h=(X.length+Y.length) / 2:=⟨_,rfl⟩
  obtain⟨t,e,hte,ht,he,hit,hlt,hle⟩:=b7f hX hY hl hh () (p.length:Int) ((p.length+X.length:Nat):Int) ((p.length+X.length+Y.length:Nat):Int) ((p.length+h:Nat):Int) ((p.length+h+(p.length+X.length):Nat):Int) rfl
  have eX:X.take t++X.drop t=X:=a29 t X
  have eY:Y.take e++Y.drop e=Y:=a29 e Y
  have lX1:(X.take t).length=t:=by rw[a00];omega
  have lY1:(Y.take e).length=e:=by rw[a00];omega
  have lX2:(X.drop t).length=X.length-t:=a01
  have lY2:(Y.drop e).length=Y.length-e:=a01
  obtain⟨aX1,aX2,aX⟩:=a17.1 (show(X.take t++X.drop t).Pairwise _ by rw[eX];exact hX)
  obtain⟨aY1,aY2,aY⟩:=a17.1 (show(Y.take e++Y.drop e).Pairwise _ by rw[eY];exact hY)

  have m1:∃Z1,(t=0∨e=0∨a0C fu (p++(X.take t++(Y.take e++(X.drop t++(Y.drop e++s)))),((p.length:Int),(((p.length+t:Nat):Int),(((p.length+h:Nat):Int),()))))=some (p++(Z1++(X.drop t++(Y.drop e++s)))))∧((t=0∨e=0)→Z1=X.take t++Y.take e)∧Asc Z1∧Stb (X.take t++Y.take e) Z1:=by
   by_cases h0:t=0∨e=0
   ·refine⟨X.take t++Y.take e,by omega,fun _=>rfl,?_,.refl _⟩
    rcases h0 with rfl|rfl
    ·rw[a57,a05];exact aY1
    ·rw[a57,a02];exact aX1
   ·obtain⟨Z,z1,z2,z3⟩:=b1N fu (p:=p) (X:=X.take t) (Y:=Y.take e) (s:=X.drop t++(Y.drop e++s)) aX1 aY1 (a03.1 (by omega)) (a03.1 (by omega)) (by omega) (by simp only[lN];omega)
    rw[lX1,lY1,Nat.add_assoc,hte]at z1
    exact⟨Z,.inr (.inr z1),fun h=>absurd h h0,z2,z3⟩
  obtain⟨Z1,z1,z1e,z1a,z1s⟩:=m1
  have lZ1:Z1.length=h:=by rw[z1s.perm.length_eq,lN];omega
  have m2:∃Z2,(t=X.length∨e=Y.length∨a0C fu (p++(Z1++(X.drop t++(Y.drop e++s))),(((p.length+h:Nat):Int),(((p.length+X.length+e:Nat):Int),(((p.length+X.length+Y.length:Nat):Int),()))))=some (p++(Z1++(Z2++s))))∧((t=X.length∨e=Y.length)→Z2=X.drop t++Y.drop e)∧Asc Z2∧Stb (X.drop t++Y.drop e) Z2:=by
   by_cases h0:t=X.length∨e=Y.length
   ·refine⟨X.drop t++Y.drop e,by omega,fun _=>rfl,?_,.refl _⟩
    rcases h0 with h0|h0
    ·rw[a44.2 (by omega)];exact aY2
    ·rw[a44.2 (show Y.length≤e by omega),a02];exact aX2
   ·obtain⟨Z,q1,q2,q3⟩:=b1N fu (p:=p++Z1) (X:=X.drop t) (Y:=Y.drop e) (s:=s) aX2 aY2 (a03.1 (by omega)) (a03.1 (by omega)) (by omega) (by simp only[lN];omega)
    rw[lN,lZ1,lX2,lY2,show p.length+h+(X.length-t)=p.length+X.length+e by omega,show p.length+X.length+e+(Y.length-e)=p.length+X.length+Y.length by omega]at q1
    simp only[aA]at q1
    exact⟨Z,.inr (.inr q1),fun h=>absurd h h0,q2,q3⟩
  obtain⟨Z2,z2,z2e,z2a,z2s⟩:=m2
  refine⟨Z1++Z2,?_,?_,?_⟩
  ·unfold a0C
   simp only
   have w0:wrap .i64 (((p.length+X.length:Nat):Int)-(p.length:Int))=(X.length:Int):=by rw[w64 (by omega)];omega
   have w1:wrap .i64 (((p.length+X.length+Y.length:Nat):Int)-((p.length+X.length:Nat):Int))=(Y.length:Int):=by rw[w64 (by omega)];omega
   have n0:((X.length:Int)==1)=false:=by simp;omega
   have n1:((Y.length:Int)==1)=false:=by simp;omega
   have wm:wrap .i64 (E0j .u64 (wrap .u64 (wrap .i64 ((p.length:Int)+((p.length+X.length+Y.length:Nat):Int)))) (1:Int))=((p.length+h:Nat):Int):=by
    rw[a8u (by omega)];omega
   have wn:wrap .i64 (((p.length+h:Nat):Int)+((p.length+X.length:Nat):Int))=((p.length+h+(p.length+X.length):Nat):Int):=by rw[w64 (by omega)];omega
   rw[w0,w1,n0,n1,wm,wn]
   simp only[cF]
   refine a0E (v:=((p.length:Int),(((p.length+X.length:Nat):Int),(((p.length+X.length+Y.length:Nat):Int),((),(((p.length+h:Nat):Int),(((p.length+h+(p.length+X.length):Nat):Int),(((p.length+(h-Y.length):Nat):Int),(((p.length+min h X.length:Nat):Int),(p++(X++(Y++s)),())))))))))) ?_ ?_
   ·by_cases hA:h<X.length
    ·rw[decide_eq_true (show((p.length+X.length:Nat):Int) > ((p.length+h:Nat):Int)by omega)]
     have wb:wrap .i64 (((p.length+h+(p.length+X.length):Nat):Int)-((p.length+X.length+Y.length:Nat):Int))=((p.length+(h-Y.length):Nat):Int):=by rw[w64 (by omega)];omega
     rw[wb,a61 (by omega)]
     rfl
    ·rw[decide_eq_false (show ¬ ((p.length+X.length:Nat):Int) > ((p.length+h:Nat):Int)by omega),a64 (by omega),show h-Y.length=0 by omega]
     rfl
   simp only
   have wn1:wrap .i64 (((p.length+h+(p.length+X.length):Nat):Int)-1)=((p.length+h+(p.length+X.length):Nat):Int)-1:=w64 (by omega)
   rw[wn1]
   refine a0E hit ?_
   simp only
   have we:wrap .i64 (((p.length+h+(p.length+X.length):Nat):Int)-((p.length+t:Nat):Int))=((p.length+X.length+e:Nat):Int):=by rw[w64 (by omega)];omega
   rw[we]
   refine a0E (v:=((p.length:Int),(((p.length+X.length+Y.length:Nat):Int),((),(((p.length+h:Nat):Int),(((p.length+t:Nat):Int),(((p.length+X.length+e:Nat):Int),(p++(X.take t++(Y.take e++(X.drop t++(Y.drop e++s)))),())))))))) ?_ ?_
   ·by_cases hr:t<X.length∧0<e
    ·rw[decide_eq_true (show((p.length+t:Nat):Int)<((p.length+X.length:Nat):Int)by omega),decide_eq_true (show((p.length+X.length:Nat):Int)<((p.length+X.length+e:Nat):Int)by omega)]
     simp only[cT,oB]
     have hrot:=b4x (p:=p++X.take t) (X:=X.drop t) (Y:=Y.take e) (s:=Y.drop e++s) (a03.1 (by omega)) (a03.1 (by omega)) (by simp only[lN];omega) (a:=((p.length+t:Nat):Int)) (m:=((p.length+X.length:Nat):Int)) (b:=((p.length+X.length+e:Nat):Int)) (by simp only[lN];omega) (by simp only[lN];omega) (by simp only[lN];omega)
     have e1:(p++X.take t)++(X.drop t++(Y.take e++(Y.drop e++s)))=p++(X++(Y++s)):=by
      rw[←aA (Y.take e),eY,aA,←aA (X.take t),eX]
     rw[e1]at hrot
     rw[hrot]
     simp only[oB,aA]
    ·have e1:p++(X.take t++(Y.take e++(X.drop t++(Y.drop e++s))))=p++(X++(Y++s)):=by
      by_cases h0:e=0
      ·have q1:Y.take e=[]:=by rw[h0];rfl
       have q2:Y.drop e=Y:=by rw[h0];rfl
       rw[q1,q2,a05,←aA (X.take t),eX]
      ·have q1:X.drop t=[]:=a44.2 (by omega)
       have q2:X.take t=X:=a30 (by omega)
       rw[q1,q2,a05,←aA (Y.take e),eY]
     rw[e1]
     by_cases h0:t<X.length
     ·rw[decide_eq_true (show((p.length+t:Nat):Int)<((p.length+X.length:Nat):Int)by omega),decide_eq_false (show ¬ ((p.length+X.length:Nat):Int)<((p.length+X.length+e:Nat):Int)by omega)]
      rfl
     ·rw[decide_eq_false (show ¬ ((p.length+t:Nat):Int)<((p.length+X.length:Nat):Int)by omega)]
      rfl
   simp only
   refine a0E (v:=(((p.length+X.length+Y.length:Nat):Int),((),(((p.length+h:Nat):Int),(((p.length+X.length+e:Nat):Int),(p++(Z1++(X.drop t++(Y.drop e++s))),())))))) ?_ ?_
   ·by_cases h0:t=0∨e=0
    ·rw[z1e h0]
     by_cases h3:t=0
     ·rw[decide_eq_false (show ¬ (p.length:Int)<((p.length+t:Nat):Int)by omega)]
      simp only[cF,oB,aA]
     ·rw[decide_eq_true (show(p.length:Int)<((p.length+t:Nat):Int)by omega),decide_eq_false (show ¬ ((p.length+t:Nat):Int)<((p.length+h:Nat):Int)by omega)]
      simp only[cT,cF,oB,aA]
    ·rw[decide_eq_true (show(p.length:Int)<((p.length+t:Nat):Int)by omega),decide_eq_true (show((p.length+t:Nat):Int)<((p.length+h:Nat):Int)by omega)]
     simp only[cT,oB]
     rw[(z1.resolve_left (by omega)).resolve_left (by omega)]
     rfl
   simp only
   by_cases h0:t=X.length∨e=Y.length
   ·rw[z2e h0]
    by_cases h3:t=X.length
    ·rw[decide_eq_false (show ¬ ((p.length+h:Nat):Int)<((p.length+X.length+e:Nat):Int)by omega)]
     simp only[cF,oB,aA]
    ·rw[decide_eq_true (show((p.length+h:Nat):Int)<((p.length+X.length+e:Nat):Int)by omega),decide_eq_false (show ¬ ((p.length+X.length+e:Nat):Int)<((p.length+X.length+Y.length:Nat):Int)by omega)]
     simp only[cT,cF,oB,aA]
   ·rw[decide_eq_true (show((p.length+h:Nat):Int)<((p.length+X.length+e:Nat):Int)by omega),decide_eq_true (show((p.length+X.length+e:Nat):Int)<((p.length+X.length+Y.length:Nat):Int)by omega)]
    simp only[cT,oB]
    rw[(z2.resolve_left (by omega)).resolve_left (by omega)]
    simp only[oB,aA]
  ·refine a17.2 ⟨z1a,z2a,fun u hu v hv=>?_⟩
   have hu:=(z1s.perm.mem_iff).1 hu
   have hv:=(z2s.perm.mem_iff).1 hv
   rcases mA.1 hu with hu|hu<;>rcases mA.1 hv with hv|hv
   ·exact aX u hu v hv
   ·exact hle u hu v hv
   ·exact a8t (hlt u hu v hv)
   ·exact aY u hu v hv
  ·have b1:=(Stb.blocks (X.drop t) (Y.take e) (fun x hx y hy=>hlt y hy x hx)).ctx (X.take t) (Y.drop e)
   simp only[aA]at b1
   rw[eY,←aA (X.take t),eX]at b1
   have b2:=z1s.ctx [] (X.drop t++Y.drop e)
   have b3:=z2s.ctx Z1 []
   simp only[a05,a02,aA]at b2 b3
   exact(b1.trans b2).trans b3
theorem b3h{l:List α}(h:l≠[]):∃a z,l=a++[z]:=⟨l.dropLast,l.getLast h,(List.dropLast_concat_getLast h).symm⟩
theorem b7g{p r:List Pk}(t:Asc Z)(m:(p++(Z++(x::r))).length<1000000)(b i:Int):
  ∃A B,Z=A++B∧y0h a1b ((p.length:Int),b,(),i,((p.length+Z.length:Nat):Int),p++(Z++(x::r)),())=some ((p.length:Int),b,(),i,p++((A++x::B)++r),())∧Asc (A++x::B)∧Stb (Z++[x]) (A++x::B):=by
 simp only[lN,lC]at m;refine a1F (f:=a1b) (fun k H=>∃A B:List Pk,Z=A++B∧k=A.length∧(∀z∈B,klt x z=true)∧H=((p.length:Int),b,(),i,((p.length+A.length:Nat):Int),p++(A++(x::(B++r))),()))
  (fun w=>∃A B:List Pk,Z=A++B∧(∀z∈B,klt x z=true)∧(∀z∈A,klt x z=false)∧w=((p.length:Int),b,(),i,p++(A++(x::(B++r))),()))
  Z.length ((p.length:Int),b,(),i,((p.length+Z.length:Nat):Int),p++(Z++(x::r)),()) ⟨Z,[],by simp,rfl,by simp,rfl⟩ (fun w L K=>?_) (fun k H n=>?_)
 obtain⟨A,B,l,c,I,rfl⟩:=K;subst l;refine⟨A,B,rfl,?_,?_,?_⟩;rw[L];simp only[aA,a24];obtain⟨s,F,G⟩:=a17.1 t;refine a17.2 ⟨s,a34.2 ⟨fun z q=>a8t (c z q),F⟩,fun u a v hv=>?_⟩;rcases mC.1 hv with rfl|hv;exact I u a;exact G u a v hv;have h:=(Stb.blocks B [x] (fun z q y E=>by rw[a16]at E;rw[E];exact c z q)).ctx A [];simp only[a02,aA,a47]at h⊢;exact h
 ·obtain⟨A,B,l,rfl,c,rfl⟩:=n;subst l;simp only[lN]at m;unfold a1b;simp only
  by_cases hA:A=[]
  right;subst hA;rw[decide_eq_false (by simp)];exact⟨_,rfl,[],B,rfl,c,by simp,rfl⟩
  ·obtain⟨g,z,rfl⟩:=b3h hA;simp only[lN,a07]at m;have M:(g++[z]).length=g.length+1:=by simp
   rw[M];rw[decide_eq_true (show((p.length+(g.length+1):Nat):Int) > (p.length:Int)by omega)];have O:wrap .i64 (((p.length+(g.length+1):Nat):Int)-1)=((p.length+g.length:Nat):Int):=by rw[w64 (by omega)];omega
   have e:p++((g++[z])++(x::(B++r)))=(p++g)++z::([]++x::(B++r)):=by simp only[aA,a24,a05]
   have C:a26 ((p.length+g.length:Nat):Int)=(p++g).length:=by rw[lN];rfl
   have D:a26 ((p.length+(g.length+1):Nat):Int)=(p++g).length+1+([]:List Pk).length:=by simp only[lN,a06,tN];omega
   have j:((p++g)++z::([]++x::(B++r))).length=p.length+g.length+(2+B.length+r.length):=by simp only[lN,lC,a06];omega
   rw[O,e,a6c _ _ _ _ C,a9i _ _ _ _ _ _ D,b1M _ _ _ _ _ C D];simp only[a32,j];rw[decide_eq_true (show(0:Int)≤((p.length+(g.length+1):Nat):Int)by omega),decide_eq_true (show((p.length+(g.length+1):Nat):Int)<((p.length+g.length+(2+B.length+r.length):Nat):Int)by omega),decide_eq_true (show(0:Int)≤((p.length+g.length:Nat):Int)by omega),decide_eq_true (show((p.length+g.length:Nat):Int)<((p.length+g.length+(2+B.length+r.length):Nat):Int)by omega)];obtain⟨v,hv,o⟩:=a9h x z;simp only[a23,cT,hv,oB,o];cases hk:klt x z with
   |true=>
    left;refine⟨_,g.length,rfl,by omega,g,z::B,by simp,rfl,fun u a=>?_,?_⟩;rcases mC.1 a with rfl|a;exact hk;exact c u a;simp only[aA,a24,a05]
   |false=>
    right;refine⟨_,rfl,g++[z],B,rfl,c,fun u a=>?_,?_⟩;rcases mA.1 a with a|a;obtain⟨s,F,G⟩:=a17.1 t;obtain⟨-,-,N⟩:=a17.1 s;exact a5o (N u a z (by simp)) hk;rw[a16]at a;rw[a];exact hk;simp only[aA,a24,a05]
theorem b7h{p s:List Pk}(l:(p++(X++s)).length<1000000):∃Z,a0N (p++(X++s),(p.length:Int),((p.length+X.length:Nat):Int),())=some (p++(Z++s))∧Asc Z∧Stb X Z:=by
 simp only[lN]at l;unfold a0N;simp only;cases X with
 |nil=>
  refine⟨[],?_,.nil,.refl _⟩;rw[a1g (b:=(p++([]++s),())) ?_];rfl;unfold a1c;simp only;rw[w64 (by omega),decide_eq_false (by simp only[a06];omega)];rfl
 |cons x X=>
  simp only[lC]at l;have u:wrap .i64 ((p.length:Int)+1)=((p.length+[x].length:Nat):Int):=by rw[w64 (by omega)];rfl
  rw[u];refine a1F (f:=a1c) (fun k n=>∃Z Y:List Pk,k=Y.length∧Z.length+Y.length=X.length+1∧Asc Z∧Stb (x::X) (Z++Y)∧n=((p.length:Int),((p.length+(x::X).length:Nat):Int),(),((p.length+Z.length:Nat):Int),p++(Z++(Y++s)),()))
   (fun w=>∃Z:List Pk,Asc Z∧Stb (x::X) Z∧w=(p++(Z++s),())) X.length ((p.length:Int),((p.length+(x::X).length:Nat):Int),(),((p.length+[x].length:Nat):Int),p++(x::X++s),()) ⟨[x],X,rfl,by simp;omega,a43 ..,.refl _,rfl⟩ (fun w t o=>?_) (fun k n j=>?_)
  obtain⟨Z,g,a,rfl⟩:=o;exact⟨Z,by rw[t];rfl,g,a⟩
  ·obtain⟨Z,Y,rfl,g,a,c,rfl⟩:=j;unfold a1c;simp only;cases Y with
   |nil=>
    right;simp only[a06]at g;rw[decide_eq_false (by simp only[lC];omega)];rw[a02]at c;exact⟨_,rfl,Z,a,c,rfl⟩
   |cons y Y=>
    left;simp only[lC]at g;rw[decide_eq_true (show((p.length+Z.length:Nat):Int)<((p.length+(x::X).length:Nat):Int)by simp only[lC];omega)];obtain⟨A,B,e,i,q,hs⟩:=b7g (p:=p) (Z:=Z) (r:=Y++s) (x:=y) a (by simp only[lN,lC];omega) ((p.length+(x::X).length:Nat):Int) ((p.length+Z.length:Nat):Int);have m:(A++y::B).length=Z.length+1:=by rw[hs.perm.length_eq,lN];rfl
    rw[a24,i];simp only[cT,oB];have w2:wrap .i64 (((p.length+Z.length:Nat):Int)+1)=((p.length+(A++y::B).length:Nat):Int):=by rw[w64 (by omega),m];omega
    rw[w2];refine⟨_,Y.length,rfl,by simp,A++y::B,Y,rfl,by rw[m];omega,q,c.trans ?_,rfl⟩;have h:=hs.ctx [] Y;simp only[a05,aA,a47]at h⊢;exact h
theorem b1O{l p s:List Pk}{a b:Int}(e:l=p++(X++s))(f:l.length<1000000)(h:a=p.length)(g:b=(p.length+X.length:Nat)):∃Z,a0N (l,a,b,())=some (p++(Z++s))∧Asc Z∧Stb X Z:=by
 subst e h g;exact b7h f
theorem b4y{l:List Pk}(h:l.length<40):∃Z,a1x (l,(l.length:Int),())=some Z∧Asc Z∧Stb l Z:=by
 unfold a1x;simp only
 by_cases h20:l.length<20
 obtain⟨Z,f,E,F⟩:=b1O (l:=l) (p:=[]) (X:=l) (s:=[]) (a:=0) (b:=(l.length:Int)) (by simp) (by omega) rfl (by simp);refine⟨Z,?_,E,F⟩;refine a0E (v:=((l.length:Int),(),(20:Int),(0:Int),l,())) ?_ ?_
 refine a1g ?_
 unfold a1a;simp only;rw[decide_eq_false (by omega)];rfl;simp only;refine a0E f ?_
 simp only[a05,a02];refine a0E (v:=(Z,())) ?_ rfl;refine a1g ?_
 unfold a0S;simp only;rw[decide_eq_false (by omega)];rfl;have q:l.take 20++l.drop 20=l:=a29 20 l;have lA:(l.take 20).length=20:=by rw[a00];omega
 have z:(l.drop 20).length=l.length-20:=a01;obtain⟨Z1,c,a1,r⟩:=b1O (l:=l) (p:=[]) (X:=l.take 20) (s:=l.drop 20) (a:=0) (b:=20) (by rw[a05,q]) (by omega) rfl (by simp only[a06,lA];rfl);have A:Z1.length=20:=by rw[r.perm.length_eq,lA]
 simp only[a05]at c;obtain⟨Z2,g,u,t⟩:=b1O (l:=Z1++l.drop 20) (p:=Z1) (X:=l.drop 20) (s:=[]) (a:=20) (b:=(l.length:Int)) (by rw[a02]) (by rw[lN];omega) (by omega) (by omega);have B:Z2.length=l.length-20:=by rw[t.perm.length_eq,z]
 rw[a02]at g;have j:Stb l (Z1++Z2):=by
  have b1:=r.ctx [] (l.drop 20);have b2:=t.ctx Z1 [];simp only[a05,a02]at b1 b2;rw[q]at b1;exact b1.trans b2
 have m:wrap .i64 ((20:Int)+20)=40:=by decide
 have n:wrap .i64 ((2:Int)*20)=40:=by decide
 have o:wrap .i64 ((20:Int)*2)=40:=by decide
 have D:wrap .i64 ((0:Int)+20)=20:=by decide
 have first:y0h a1a ((l.length:Int),(),(20:Int),(0:Int),(20:Int),l,())=some ((l.length:Int),(),(20:Int),(20:Int),Z1++l.drop 20,()):=by
  rw[a1A (s':=((l.length:Int),(),(20:Int),(20:Int),(40:Int),Z1++l.drop 20,())) ?_];refine a1g ?_
  unfold a1a;simp only;rw[decide_eq_false (by omega)];rfl;unfold a1a;simp only;rw[decide_eq_true (by omega),c,m];rfl
 by_cases he:l.length=20
 have i:Z2=[]:=a35.1 (by omega);subst i;rw[a02]at j g;refine⟨Z1,?_,a1,j⟩;refine a0E first ?_
 simp only;refine a0E g ?_
 refine a0E (v:=(Z1,())) ?_ rfl;refine a1g ?_
 unfold a0S;simp only;rw[decide_eq_false (by omega)];rfl;obtain⟨Z,f,w,C⟩:=b1N 64 (p:=[]) (X:=Z1) (Y:=Z2) (s:=[]) a1 u (a03.1 (by omega)) (a03.1 (by omega)) (by omega) (by simp only[lN,a06];omega);simp only[a05,a02,a06,a74]at f;refine⟨Z,?_,w,j.trans C⟩;refine a0E first ?_
 simp only;refine a0E g ?_
 have e:y0h a0S ((l.length:Int),(),(20:Int),Z1++Z2,())=some (Z,()):=by
  rw[a1A (s':=((l.length:Int),(),(40:Int),Z,())) ?_];refine a1g ?_
  unfold a0S;simp only;rw[decide_eq_false (by omega)];rfl;unfold a0S;simp only;rw[decide_eq_true (show(20:Int)<(l.length:Int)by omega),n];simp only[cT];refine a0E (v:=((l.length:Int),(),(20:Int),(0:Int),Z1++Z2,())) ?_ ?_
  refine a1g ?_
  unfold a2l;simp only;rw[decide_eq_false (by omega)];rfl;simp only;rw[D,decide_eq_true (show(20:Int)<(l.length:Int)by omega),o];simp only[cT];have x:((Z1.length:Nat):Int)=20:=by omega
  have y:((Z1.length+Z2.length:Nat):Int)=(l.length:Int):=by omega
  rw[x,y]at f;refine a0E f rfl
 refine a0E e rfl
theorem b6d{l:List Pk}(h:l.length<40):∃Z,a0U (l,())=some Z∧Asc Z∧Stb l Z:=by
 obtain⟨Z,g,f,a⟩:=b4y h;exact⟨Z,by unfold a0U;exact a0E g rfl,f,a⟩
def a2i:Nat→Nat→List Int
 |_,0=>[]
 |n,k+1=>((n%256:Nat):Int)::a2i (n / 256) k
def a0P(n k:Nat):List Int:=(a2i n k).reverse
theorem a4R:∀(k n:Nat),(a2i n k).length=k
 |0,_=>rfl
 |k+1,n=>by rw[a2i,lC,a4R k]
theorem a8E:∀(k n:Nat),∀b∈a2i n k,0≤b∧b<256
 |0,_,b,h=>by cases h
 |k+1,n,b,h=>by
  rcases mC.1 h with rfl|h;omega;exact a8E k _ b h
theorem a8F:∀(k n:Nat),a2i n (k+1)=a2i n k++[((n / 256^k%256:Nat):Int)]
 |0,n=>by simp[a2i]
 |k+1,n=>by
  rw[a2i,a8F k,a2i,a24,a85,a79,b51 256]
theorem a0O(n k:Nat):(a0P n k).length=k:=by rw[a0P,List.length_reverse,a4R]
theorem a6R(n k:Nat):∀b∈a0P n k,0≤b∧b<256:=fun b h=>a8E k n b (List.mem_reverse.1 h)
theorem a3v(h:n<18446744073709551616):wrap .u64 (n:Int)=n:=by
 simp only[wrap,IntKind.bits,IntKind.signed]
 simp
 omega
theorem a5N(h:n<256):wrap .u8 (n:Int)=n:=by
 simp only[wrap,IntKind.bits,IntKind.signed]
 simp
 omega
theorem b5t{k:Nat}(g:n<18446744073709551616)(p:k≤8):a5f ((n:Int),(k:Int))=some (a2i n k):=by
 unfold a5f;have e:a2D (k:Int)=some (k:Int):=by
  unfold a2D y0e y0d;have a:¬ (8:Int)<(k:Int):=by omega
  have c:¬ (k:Int)<0:=by omega
  congr 1;simp[a,c]<;>omega
 simp only[e,oB]
 have:=a0D (f:=a3Q) (fun i=>(((n / 256^i:Nat):Int),(k:Int),(i:Int),a2i n i,())) k (b:=(a2i n k,())) (fun i o=>?_) ?_
 rw[Nat.pow_zero,Nat.div_one]at this;refine a0E this rfl;unfold a3Q;simp only;have m:n / 256^i<18446744073709551616:=b45 (b65 _ _) g;have j:Int.tdiv ((n / 256^i:Nat):Int) 256=((n / 256^(i+1):Nat):Int):=by
  rw[a79,←a85];exact Int.tdiv_eq_ediv_of_nonneg (b17 _)
 have l:a58 ((n / 256^i:Nat):Int) 256=((n / 256^i%256:Nat):Int):=by
  exact Int.tmod_eq_emod_of_nonneg (b17 _)
 have h:n / 256^(i+1)<18446744073709551616:=b45 (b65 _ _) g;rw[j,l,a3v h,a5N (Nat.mod_lt _ (by decide)),a4R,a0A (by omega),decide_eq_true (show(i:Int)<(k:Int)by omega),a8F,w64 (by omega)];rfl;unfold a3Q;simp only;rw[decide_eq_false (by omega)];rfl
theorem a6A{k:Nat}(g:n<18446744073709551616)(h:k≤8):a1U ((n:Int),(k:Int))=some (a0P n k):=by
 unfold a1U;simp only[b5t g h,oB];unfold a2f;rw[decide_eq_true (by rw[a4R];omega)];rfl
def a1Z(p:Pk):Int:=bits .u8 .or (bif p.2.2.2.1 then 1 else 0) (bif p.2.2.2.2.1 then 2 else 0)
def a1l(p:Pk):List Int:=[wrap .u8 p.1,a1Z p]++(a0P p.2.1.toNat 8++(a0P p.2.2.1.toNat 8++p.2.2.2.2.2.1))
theorem a5l(p:Pk):(a1l p).length=18+p.2.2.2.2.2.1.length:=by
 simp only[a1l,lN,a0O,lC,a06];omega
theorem b4z{p:Pk}{s:Int}(h:PkOk s p)(y:0≤s)(z:s<4):a5s p=some (a1l p,0):=by
 obtain⟨e,g,f,b,a,x,u⟩:=p;obtain⟨c,l,m,o,q,r,t⟩:=h;simp only at c l m o q r t;subst c;have v:wrap .u64 g=((g.toNat:Nat):Int):=by
  have:=a3v (n:=g.toNat) (by omega)
  rwa [show((g.toNat:Nat):Int)=g by omega]at this⊢
 have w:wrap .u64 f=((f.toNat:Nat):Int):=by
  have:=a3v (n:=f.toNat) (by omega)
  rwa [show((f.toNat:Nat):Int)=f by omega]at this⊢
 have b1:=a6A (n:=g.toNat) (k:=8) (by omega) (by omega);have b2:=a6A (n:=f.toNat) (k:=8) (by omega) (by omega);have i:a1M (b,1)=some (bif b then 1 else 0):=by cases b<;>rfl
 have j:a1M (a,2)=some (bif a then 2 else 0):=by cases a<;>rfl
 unfold a5s;simp only;rw[decide_eq_false (show ¬ e<0 by omega),decide_eq_false (show ¬ e≥4 by omega),decide_eq_false (show ¬ g<0 by omega),decide_eq_false (show ¬ g > 1125899906842624 by omega),decide_eq_false (show ¬ f<0 by omega),decide_eq_false (show ¬ f > 1125899906842624 by omega)];simp only[cF,oB];rw[decide_eq_false (show ¬ ((x.length:Nat):Int) > 65536 by omega)];simp only[cF,i,j,v,w,oB];rw[show((8:Nat):Int)=8 from rfl]at b1 b2;simp only[b1,b2,oB,a0O,a20,lN,lC,a06];rw[a0A (by omega),a0A (by omega),a0A (by omega)];simp only[cT,a1l,a1Z,aA]
structure StrOk (n:Nat) (L:List (List Pk)):Prop where
 one:1≤L.length
 four:L.length≤4
 ok:∀(i:Nat) l,L[i]?=some l→PksOk (i:Int) n l
theorem b1P(C:a1B (r+233) t)(B:n≤8):∃L m,a1O (t,(n:Int))=some (L,m)∧StrOk n L∧a1B r m:=by
 unfold a1O;obtain⟨a,E,v,a1,b1,y⟩:=a1t C (show(0:Int)<4 by decide);have x:wrap .i64 (1+a)=1+a:=w64 (by omega);simp only[v,oB,x];refine a1F (f:=a2e) (fun i h=>h.1=(n:Int)∧h.2.1=(i:Int)∧(h.2.2.1.length:Int)+i=1+a∧(∀(i:Nat) l,h.2.2.1[i]?=some l→PksOk (i:Int) n l)∧a1B (r+58*i) h.2.2.2.1)
  (fun w=>StrOk n w.1∧a1B r w.2.1) (1+a).toNat (n,1+a,[],E,()) ⟨rfl,by simp only;omega,by simp only[a06];omega,by simp,y.mono (by omega)⟩ (fun w D q=>?_) (fun i h c=>?_)
 rw[D];exact⟨_,_,rfl,q.1,q.2⟩;obtain⟨u,F,G,o,p⟩:=c;unfold a2e
 by_cases hp:h.2.1 > 0
 left;obtain⟨l,m,e,A,j⟩:=b1K (r:=r+58*(i-1)) (s:=(h.2.2.1.length:Int)) (p.mono (by omega)) B;rw[decide_eq_true hp,u];simp only[cT,oB,e];rw[a0A (by omega)];refine⟨_,i-1,rfl,by omega,rfl,?_,?_,?_,j⟩;show wrap .i64 (h.2.1-1)=_;rw[w64 (by omega)];omega;show((h.2.2.1.append [_]).length:Int)+_=_;simp only[a20,lN,a07];omega;intro k z g;have g:(h.2.2.1++[l])[k]?=some z:=g
 by_cases hk:k<h.2.2.1.length
 rw[a63 hk]at g;exact o k z g;rw[a38 (by omega)]at g;have b:k-h.2.2.1.length=0:=by
  have:=(lS.1 g).1
  simpa using this
 rw[b]at g;cases g
 have:k=h.2.2.1.length:=by omega
 rw[this];exact A;right;rw[decide_eq_false hp];exact⟨_,rfl,⟨by show 1≤h.2.2.1.length;omega,by show h.2.2.1.length≤4;omega,o⟩,p.mono (by omega)⟩
abbrev Inf:Type:=Int×((Int×(Int×Unit))×((Int×(Int×(Int×Unit)))×(Int×(Int×(Int×(Int×Unit))))))
variable {a:List Inf}
inductive InfOk:Inf→Prop where
 |sound (n d r c b:Int) (hn:1≤n∧n≤1048576) (hd:1≤d∧d≤1048576) (hr:1≤r∧r≤1048576) (hc:1≤c∧c≤8) (hb:b=4∨b=8∨b=16∨b=24):InfOk (1,((n,(d,())),((r,(c,(b,()))),(0,(0,(0,(0,())))))))
 |images (n d w h e p:Int) (hn:1≤n∧n≤1048576) (hd:1≤d∧d≤1048576) (hw:1≤w∧w≤64) (hh:1≤h∧h≤64) (he:1≤e∧e≤16) (hp:1≤p∧p≤4):InfOk (2,((n,(d,())),((0,(0,(0,()))),(w,(h,(e,(p,())))))))
theorem b4A{i:Inf}(h:InfOk i):a4H i=some true:=by
 cases h with
 |sound n d r c b hn hd hr hc hb=>
  have g:a6i b=some true:=by rcases hb with rfl|rfl|rfl|rfl<;>kernel_rfl
  simp only[a4H,a6l,a6j,decide_eq_true hn.1,decide_eq_true hn.2,decide_eq_true hd.1,decide_eq_true hd.2,decide_eq_true hr.1,decide_eq_true hr.2,decide_eq_true hc.1,decide_eq_true hc.2,g,ge_iff_le];rfl
 |images n d w h e p hn hd hw hh he hp=>
  simp only[a4H,a6l,a3c,decide_eq_true hn.1,decide_eq_true hn.2,decide_eq_true hd.1,decide_eq_true hd.2,decide_eq_true hw.1,decide_eq_true hw.2,decide_eq_true hh.1,decide_eq_true hh.2,decide_eq_true he.1,decide_eq_true he.2,decide_eq_true hp.1,decide_eq_true hp.2,ge_iff_le];rfl
theorem b0B(a:a1B (r+1) t):∃n d t',a1J t=some ((n,d,()),t')∧(1≤n∧n≤1048576)∧(1≤d∧d≤1048576)∧a1B r t':=by
 unfold a1J;obtain⟨v,b,g,a1,b1,f⟩:=a1t a (show(0:Int)<6 by decide);simp only[g,oB,decide_eq_true a1,decide_eq_true b1,a23,cT]
 have:a26 v=0∨a26 v=1∨a26 v=2∨a26 v=3∨a26 v=4∨a26 v=5:=by omega
 rcases this with h|h|h|h|h|h<;>rw[h]<;>exact⟨_,_,_,rfl,by decide,by decide,f⟩
theorem b2X{k:Nat}(q:a1B (k+3) t):∃r c b t',a1T t=some ((r,c,b,()),t')∧(1≤r∧r≤1048576)∧(1≤c∧c≤8)∧(b=4∨b=8∨b=16∨b=24)∧a1B k t':=by
 unfold a1T;obtain⟨f,v,j,a1,b1,n⟩:=a1t q (show(0:Int)<50000 by decide);obtain⟨a,t2,l,u,b2,o⟩:=a1t n (show(0:Int)<3 by decide);obtain⟨g,w,m,e,i,p⟩:=a1t o (show(0:Int)<4 by decide);simp only[j,l,m,oB,decide_eq_true e,decide_eq_true i,a23,cT];have s:wrap .i64 (1+f)=1+f:=w64 (by omega);have w2:wrap .i64 (1+a)=1+a:=w64 (by omega);rw[s,w2]
 have:a26 g=0∨a26 g=1∨a26 g=2∨a26 g=3:=by omega
 rcases this with h|h|h|h<;>rw[h]<;>exact⟨_,_,_,_,rfl,by omega,by omega,by decide,p⟩
theorem b5u(ht:a1B (r+257) t)(hn:n≤8):∃a L m,a5X (t,(n:Int))=some (a,L,m)∧a.length=L.length∧(∀i∈a,InfOk i)∧StrOk n L∧a1B r m:=by
 unfold a5X;obtain⟨L,t1,P,A,Y⟩:=b1P (r:=r+24) ht hn;have g:=A.four;simp only[P,oB];refine a1F (f:=a5L) (fun i h=>h.1+(i:Int)=(L.length:Int)∧0≤h.1∧h.2.1=L∧(h.2.2.1.length:Int)=h.1∧(∀i∈h.2.2.1,InfOk i)∧a1B (r+6*i) h.2.2.2.1)
  (fun w=>w.1=L∧w.2.1.length=L.length∧(∀i∈w.2.1,InfOk i)∧a1B r w.2.2.1) L.length (0,L,[],t1,()) ⟨by simp,by simp,rfl,by simp,by simp,Y.mono (by omega)⟩ (fun w hw hQ=>?_) (fun i h B=>?_)
 rw[hw];obtain⟨O,q2,q3,D⟩:=hQ;exact⟨w.2.1,w.1,w.2.2.1,rfl,by rw[O];exact q2,q3,by rw[O];exact A,D⟩;obtain⟨c1,c2,o,c4,K,M⟩:=B;have h4:=A.four;unfold a5L
 by_cases hp:h.1<(h.2.1.length:Int)
 left;rw[o]at hp;have U:wrap .i64 (h.1+1)=h.1+1:=w64 (by omega);have done:∀(x:Inf)(m:a5B),InfOk x→a1B (r+6*(i-1)) m→∃s' j,some (Sum.inl (β:=List (List Pk)×(List Inf×(a5B×Unit))) (h.1+1,L,a31 h.2.2.1 [x],m,()))=some (.inl s')∧j<i∧(s'.1+(j:Int)=(L.length:Int)∧0≤s'.1∧s'.2.1=L∧(s'.2.2.1.length:Int)=s'.1∧(∀i∈s'.2.2.1,InfOk i)∧a1B (r+6*j) s'.2.2.2.1):=by
  intro x m hx C;refine⟨_,i-1,rfl,by omega,by show h.1+1+((i-1:Nat):Int)=_;omega,by show 0≤h.1+1;omega,rfl,?_,?_,C⟩;show((h.2.2.1.append [_]).length:Int)=_;simp only[a20,lN,a07];omega;intro p l;rcases mA.1 (show p∈h.2.2.1++[_]from l)with l|l;exact K p l;rw[a16]at l;rw[l];exact hx
 obtain⟨E,t2,Q,a2,b2,N⟩:=a1t (r:=r+6*(i-1)+5) (M.mono (by omega)) (show(0:Int)<2 by decide);rw[o,decide_eq_true hp];simp only[cT,oB,Q,U]
 by_cases hv:E=0
 obtain⟨n1,q,t3,s,v,y,z⟩:=b0B N;obtain⟨r9,c,b,t4,u,V,W,X,g⟩:=b2X z;have e:(E==0)=true:=by simp[hv]
 simp only[e,cT,s,u,oB];rw[a0A (by omega)];exact done _ _ (.sound n1 q r9 c b v y V W X) (g.mono (by omega));obtain⟨n1,q,t3,s,v,y,z⟩:=b0B N;obtain⟨F,t4,u,a4,b4,g⟩:=a1t z (show(0:Int)<64 by decide);obtain⟨G,t5,R,a5,b5,Z⟩:=a1t g (show(0:Int)<64 by decide);obtain⟨H,t6,S,a6,b6,h6⟩:=a1t Z (show(0:Int)<16 by decide);obtain⟨I,t7,T,a7,b7,h7⟩:=a1t h6 (show(0:Int)<4 by decide);have e:(E==0)=false:=by simp[hv]
 have D:wrap .i64 (1+F)=1+F:=w64 (by omega);have q5:wrap .i64 (1+G)=1+G:=w64 (by omega);have q6:wrap .i64 (1+H)=1+H:=w64 (by omega);have q7:wrap .i64 (1+I)=1+I:=w64 (by omega);simp only[e,cF,s,u,R,S,T,oB,D,q5,q6,q7];rw[a0A (by omega)];exact done _ _ (.images n1 q (1+F) (1+G) (1+H) (1+I) v y (by omega) (by omega) (by omega) (by omega)) h7;right;rw[decide_eq_false hp];rw[o]at hp;exact⟨_,rfl,o,by show h.2.2.1.length=_;omega,K,M.mono (by omega)⟩
theorem a7y{x:List Int}(h:x.length<1000000):a2E x=some x:=by
 unfold a2E;rw[a0A (by omega)];cases x with
 |nil=>exact x0g _
 |cons a x=>rfl
theorem a0F{l:List α}{k:Nat}(h:k<l.length):n0s l (k:Int)=some l[k]:=by
 unfold n0s;rw[if_pos (by omega),tN,lG h]
theorem b7i{L':List (List Pk)}{n k s:Int}{ps:List Pk}(a:0≤s)(b:s<4)(h:∀p∈ps,PkOk s p)(c:ps.length<1000):
  y0h a3C (L,s,L',n,k,ps,((ps.length:Nat):Int),(0:Int),())=some (.inl (L,L',n,k,())):=by
 refine a0D (f:=a3C) (fun i=>(L,s,L',n,k,ps,((ps.length:Nat):Int),(i:Int),())) ps.length (fun i g=>?_) ?_
 unfold a3C;simp only;have hp:=h ps[i] (a19 g);rw[decide_eq_true (show(i:Int)<((ps.length:Nat):Int)by omega),a0F g];simp only[cT,oB,b4z hp a b,hp.st,bne_self_eq_false,cF];rw[w64 (by omega)];rfl;unfold a3C;simp only;rw[decide_eq_false (by omega)];rfl
theorem b7j{n k:Int}{ps out:List Pk}{s:Int}{m:Nat}(h:PksOk s m ps)(e:out.length+ps.length<1000):
  y0h a3D (ps,L,n,k,ps,((ps.length:Nat):Int),(0:Int),out,())=some (.inl (L,n,k,out++ps,())):=by
 have:=a0D (f:=a3D) (fun i=>(ps,L,n,k,ps,((ps.length:Nat):Int),(i:Int),out++ps.take i,())) ps.length (b:=.inl (L,n,k,out++ps,())) (fun i g=>?_) ?_
 rw[a57,a02]at this;exact this;unfold a3D;simp only;have hp:=h.ok ps[i] (a19 g);have a:a5g ps[i]=some ps[i]:=by
  unfold a5g;rw[a7y (by have:=hp.dat;omega)];rfl
 have c:wrap .i64 ((i:Int)+1)=((i+1:Nat):Int):=by rw[w64 (by omega)];omega
 rw[decide_eq_true (show(i:Int)<((ps.length:Nat):Int)by omega),a0F g];simp only[cT,oB];refine a0E (v:=(ps,L,n,k,ps,((ps.length:Nat):Int),(i:Int),false,out++ps.take i,ps[i],()) ) ?_ ?_
 by_cases h0:i=0
 subst h0;rfl;rw[decide_eq_true (show(i:Int) > 0 by omega)];have w2:wrap .i64 ((i:Int)-1)=((i-1:Nat):Int):=by rw[w64 (by omega)];omega
 rw[w2,a0F (show i-1<ps.length by omega)]
 have:=a80.1 h.asc (i-1) i (by omega) g (by omega)
 simp only[cT,oB];rw[decide_eq_false (by omega)];simp only[cF,a,oB,c];rw[a0A (by simp only[lN,a00];omega),a04 g];simp only[cT,a20,aA];unfold a3D;simp only;rw[decide_eq_false (by omega),a08];rfl
theorem a7z{m:Nat}:∀{L:List (List Pk)},(∀l∈L,l.length≤m)→L.flatten.length≤m*L.length
 | [],_=>by simp
 |l::L,h=>by
  have f:=h l (by simp);have a:=a7z (L:=L) fun l g=>h l (by simp[g]);rw[b24,lN,lC,Nat.mul_succ];omega
theorem StrOk.lens(h:StrOk n L):∀l∈L,l.length≤n:=fun l f=>by
 obtain⟨i,g⟩:=a41 f;exact(h.ok i l g).len
theorem b5v(h:StrOk n L)(e:n≤8):∃Z,a3t L=some (Z,0)∧Asc Z∧Stb L.flatten Z:=by
 have i:=h.four;have u:=h.one;have j:L.flatten.length≤32:=by
  have:=a7z h.lens
  have:n*L.length≤8*4:=b33 e i
  omega
 obtain⟨Z,r,s,t⟩:=b6d (l:=L.flatten) (by omega);refine⟨Z,?_,s,t⟩;unfold a3t;rw[decide_eq_false (show ¬ ((L.length:Nat):Int)<1 by omega),decide_eq_false (show ¬ ((L.length:Nat):Int) > 4 by omega)];simp only[cF,oB];refine a0E (v:=.inl (L,())) ?_ ?_
 refine a0D (f:=a4F) (fun k=>(L,L,((L.length:Nat):Int),(k:Int),())) L.length (fun k a=>?_) ?_
 unfold a4F;simp only;have g:=h.ok k L[k] (lG a);have c:=g.len;rw[decide_eq_true (show(k:Int)<((L.length:Nat):Int)by omega),a0F a];simp only[cT,oB];rw[b7i (by omega) (by omega) g.ok (by omega)];simp only[oB];rw[w64 (by omega)];rfl;unfold a4F;simp only;rw[decide_eq_false (by omega)];rfl;simp only;refine a0E (v:=.inl (L.flatten,())) ?_ ?_
 have:=a0D (f:=a4G) (fun k=>(L,((L.length:Nat):Int),(k:Int),(L.take k).flatten,())) L.length (b:=.inl (L.flatten,())) (fun k a=>?_) ?_
 exact this;unfold a4G;simp only;have g:=h.ok k L[k] (lG a);have c:=g.len;have o:(L.take k).flatten.length≤32:=by
  have q:=a7z (m:=n) (L:=L.take k) fun l p=>h.lens l (a09 p)
  have:n*(L.take k).length≤8*4:=b33 e (by rw[a00];omega)
  omega
 rw[decide_eq_true (show(k:Int)<((L.length:Nat):Int)by omega),a0F a];simp only[cT,oB];rw[b7j g (by omega)];simp only[oB];rw[w64 (by omega),a04 a,List.flatten_append,List.flatten_singleton];rfl;unfold a4G;simp only;rw[decide_eq_false (by omega),a08];rfl;simp only;refine a0E r rfl
abbrev Pge:Type:=Int×(Bool×(Bool×(Bool×(List Int×Unit))))
variable {P R g l:List Pge}{p q:Pge}
def a1P(first:Bool)(seq:Nat)(r:List Int):List Pge:=
 if h:r=[]then[]else((seq:Int),first,decide (r.length≤252),false,r.take 252,())::a1P false (seq+1) (r.drop 252)
termination_by r.length
decreasing_by
 have:=a03.2 h
 rw[a01];omega
theorem a2k(first:Bool)(h:Nat):a1P first h []=[]:=by rw[a1P,dif_pos rfl]
theorem a2Q{first:Bool}{seq:Nat}{r:List Int}(h:r≠[]):a1P first seq r=((seq:Int),first,decide (r.length≤252),false,r.take 252,())::a1P false (seq+1) (r.drop 252):=by rw[a1P,dif_neg h]
theorem a6B:∀(n:Nat)(first:Bool)(seq:Nat)(r:List Int),r.length≤n→(a1P first seq r).length≤r.length
 |0,first,seq,r,h=>by
  have:r=[]:=a35.1 (by omega)
  rw[this,a2k];exact a13 _
 |n+1,first,seq,r,h=>by
  by_cases hr:r=[]
  rw[hr,a2k];exact a13 _
  have:=a03.2 hr
  rw[a2Q hr,lC]
  have:=a6B n false (seq+1) (r.drop 252) (by rw[a01];omega)
  rw[a01]at this;omega
def a1z:Nat→List (List Int)→List Pge
 |_,[]=>[]
 |seq,b::bs=>a1P true seq b++a1z (seq+(a1P true seq b).length) bs
theorem b7k{n k:Int}{laid:List (List Int)}{pages:List Pge}(t:b≠[])(v:pages.length+b.length<1000000):
  y0h a4p ((0:Int),b,(0:Int),n,k,pages,laid,())=some (.inl ((0:Int),n,k,pages++a1P true pages.length b,laid,())):=by
 refine a1F (f:=a4p) (fun m j=>∃(i:Nat)(Q:List Pge),m=(b.drop i).length∧i≤b.length+252∧j=((0:Int),b,(i:Int),n,k,Q,laid,())∧Q.length+(b.drop i).length≤pages.length+b.length∧Q++a1P (decide (i=0)) Q.length (b.drop i)=pages++a1P true pages.length b)
  (fun w=>w=.inl ((0:Int),n,k,pages++a1P true pages.length b,laid,()))
  b.length ((0:Int),b,(0:Int),n,k,pages,laid,()) ⟨0,pages,rfl,by omega,rfl,a13 _,rfl⟩ (fun w r p=>by rw[r,p]) (fun m j e=>?_)
 obtain⟨i,Q,rfl,u,rfl,x,c⟩:=e;have y:(b.drop i).length=b.length-i:=a01;unfold a4p;simp only
 by_cases hlt:i<b.length
 left;have q:b.drop i≠[]:=a03.1 (by omega);rw[decide_eq_true (show(i:Int)<((b.length:Nat):Int)by omega)];have s:wrap .i64 ((0:Int)+((Q.length:Nat):Int))=((Q.length:Nat):Int):=by rw[w64 (by omega)];omega
 have w2:wrap .i64 ((i:Int)+252)=((i+252:Nat):Int):=by rw[w64 (by omega)];omega
 have a:y0e ((i+252:Nat):Int) ((b.length:Nat):Int)=((min (i+252) b.length:Nat):Int):=by
  unfold y0e
  by_cases hc:((b.length:Nat):Int)<((i+252:Nat):Int)
  rw[decide_eq_true hc,a64 (by omega)];rfl;rw[decide_eq_false hc,a61 (by omega)];rfl
 rw[s,w2,a,decide_eq_false (show ¬ ((Q.length:Nat):Int) > 2147483647 by omega)];have g:a59 (a26 (i:Int)) (a52 (a26 ((min (i+252) b.length:Nat):Int)) b)=(b.drop i).take 252:=by
  rw[tN,tN,b34]
  by_cases hc:i+252<b.length
  rw[a61 (by omega),show i+252-i=252 by omega];rw[a64 (by omega),a30 (by omega),a30 (by omega)]
 rw[g,a7y (by rw[a00];omega),tN,a0A (show Q.length+1<2147483648 by omega)];rw[decide_eq_true (show(0:Int)≤((min (i+252) b.length:Nat):Int)by omega),decide_eq_true (show((min (i+252) b.length:Nat):Int)≤((b.length:Nat):Int)by omega),decide_eq_true (show(0:Int)≤(i:Int)by omega),decide_eq_true (show(i:Int)≤((min (i+252) b.length:Nat):Int)by omega)];have l:((i:Int)==0)=decide (i=0):=by
  by_cases h:i=0
  rw[h];rfl;rw[decide_eq_false h];simp;omega
 have o:(((min (i+252) b.length:Nat):Int)==((b.length:Nat):Int))=decide ((b.drop i).length≤252):=by
  by_cases h:(b.drop i).length≤252
  rw[decide_eq_true h];simp;omega;rw[decide_eq_false h];simp;omega
 rw[l,o];simp only[cT,cF,a23,oB];refine⟨_,(b.drop (i+252)).length,rfl,by simp only[a01];omega,i+252,Q++[((Q.length:Int),decide (i=0),decide ((b.drop i).length≤252),false,(b.drop i).take 252,())],rfl,by omega,rfl,?_,?_⟩;simp only[lN,a07,a01];omega;rw[←c,a2Q q,a92];simp only[aA,a47,lN,a07];rw[decide_eq_false (show ¬ i+252=0 by omega)];right;rw[decide_eq_false (show ¬ (i:Int)<((b.length:Nat):Int)by omega)];have h:b.drop i=[]:=a44.2 (by omega);rw[h,a2k,a02]at c;refine⟨_,rfl,?_⟩;rw[c]
def a5O(p:Pk):Prop:=∃s,PkOk s p∧0≤s∧s<4
theorem a7i(p:Pk):a1l p≠[]:=a03.1 (by rw[a5l];omega)
theorem a9j:∀(bs:List (List Int)) (seq:Nat) (m:Nat),(∀b∈bs,b.length≤m)→(a1z seq bs).length≤m*bs.length
 | [],_,_,_=>by simp[a1z]
 |b::bs,seq,m,h=>by
  have f:=a9j bs (seq+(a1P true seq b).length) m fun c g=>h c (by simp[g]);have a:=a6B b.length true seq b (a13 _);have e:=h b (by simp);rw[a1z,lN,lC,Nat.mul_succ];omega
theorem b1Q{bs:List (List Int)}:∀(rest done:List (List Int)) (pages:List Pge),done++rest=bs→(∀b∈rest,b≠[]∧b.length≤1000)→pages.length+1000*rest.length<1000000→bs.length<1000→
  y0h a3h ((0:Int),((bs.length:Nat):Int),((done.length:Nat):Int),pages,bs,())=some (.inl (pages++a1z pages.length rest,()))
 | [],done,pages,he,_,_,_=>by
  rw[a02]at he;subst he;refine a1g ?_
  unfold a3h;simp only;rw[decide_eq_false (by omega),a1z,a02];rfl
 |b::rest,done,pages,he,hb,hl,hn=>by
  have g:bs.length=done.length+(rest.length+1):=by rw[←he,lN,lC]
  obtain⟨h,f⟩:=hb b (by simp);have e:=a6B b.length true pages.length b (a13 _);have i:a37 bs (a26 ((done.length:Nat):Int)) ([]:List Int)=b:=by
   rw[←he];exact a6c done rest b [] rfl
  rw[lC]at hl;have step:a3h ((0:Int),((bs.length:Nat):Int),((done.length:Nat):Int),pages,bs,())=some (.inl ((0:Int),((bs.length:Nat):Int),(((done++[b]).length:Nat):Int),pages++a1P true pages.length b,bs,())):=by
   unfold a3h;simp only;rw[decide_eq_true (show((done.length:Nat):Int)<((bs.length:Nat):Int)by omega),decide_eq_true (show(0:Int)≤((done.length:Nat):Int)by omega),i];simp only[cT,a23];rw[b7k h (by omega)];simp only[oB];rw[w64 (by omega),lN];rfl
  rw[a1A step,b1Q rest (done++[b]) (pages++a1P true pages.length b) (by rw[←he,aA];rfl) (fun c a=>hb c (by simp[a])) (by rw[lN];omega) hn];rw[a1z,aA,lN]
theorem b5w{l:List Pk}(h:∀p∈l,a5O p)(o:l.length<40):a3E (l,0)=some (a1z 0 (l.map a1l),0):=by
 unfold a3E;simp only;rw[decide_eq_false (show ¬ (0:Int)<0 by decide),decide_eq_false (show ¬ (0:Int) > 2147483647 by decide)];simp only[cF,oB];rw[decide_eq_true (show(0:Int)≤((l.length:Nat):Int)by omega),decide_eq_true (b31 ((l.length:Nat):Int)),tN,a0A (by omega)];simp only[cT,a23];refine a0E (v:=.inl ((0:Int),l.map a1l,())) ?_ ?_
 have:=a0D (f:=a4o) (fun i=>((0:Int),l,((l.length:Nat):Int),(i:Int),(l.take i).map a1l++a28 (l.length-i) ([]:List Int),())) l.length (b:=.inl ((0:Int),l.map a1l,())) (fun i a=>?_) ?_
 exact this;unfold a4o;simp only;obtain⟨s,hp,e,j⟩:=h l[i] (a19 a);have c:((l.take i).map a1l).length=i:=by rw[a42,a00];omega
 have g:((l.take i).map a1l++a28 (l.length-i) ([]:List Int)).length=l.length:=by rw[lN,c,a40];omega
 rw[decide_eq_true (show(i:Int)<((l.length:Nat):Int)by omega),a0F a];simp only[cT,oB,b4z hp e j,bne_self_eq_false,cF];rw[g,decide_eq_true (show(0:Int)≤(i:Int)by omega),decide_eq_true (show(i:Int)<((l.length:Nat):Int)by omega),tN];simp only[cT,a23];rw[w64 (by omega),a75 _ _ (by omega),c,a73];obtain⟨r,n⟩:∃r,l.length-i=r+1:=⟨l.length-i-1,by omega⟩;rw[n,b38,a98,a04 a,pA,show l.length-(i+1)=r by omega];simp only[aA,a54,b28,a47];rfl;unfold a4o;simp only;rw[decide_eq_false (by omega),a08,a73,b39,a02];rfl;simp only
 have:=b1Q (bs:=l.map a1l) (l.map a1l) [] [] rfl (fun b m=>by
  obtain⟨p,hp,rfl⟩:=b52.1 m;obtain⟨s,hs,-⟩:=h p hp;exact⟨a7i p,by rw[a5l];have:=hs.dat;omega⟩) (by rw[a06,a42];omega) (by rw[a42];omega)
 refine a0E (v:=.inl (a1z 0 (l.map a1l),())) ?_ rfl;exact this
theorem b6e{l:List Int}(p:l.length<1000000):∃v,a0Z l=some (bits .u32 .xor (IntKind.max .u32) v):=by
 unfold a0Z;refine a1F (f:=a1E) (fun k a=>∃(v:Int)(i:Nat),a=(v,l,((l.length:Nat):Int),(i:Int),())∧i+k=l.length) (fun _=>True) l.length ((4294967295:Int),l,((l.length:Nat):Int),(0:Int),()) ⟨_,0,rfl,by omega⟩ (fun w b _=>⟨w.1,by rw[b];rfl⟩) (fun k a g=>?_);obtain⟨v,i,rfl,n⟩:=g;unfold a1E;simp only
 by_cases h:i<l.length
 ·left;rw[decide_eq_true (show(i:Int)<((l.length:Nat):Int)by omega),a0F h];simp only[cT,oB];refine a1F (f:=a0Y) (fun m a=>∃(u:Int)(j:Nat),a=(u,l,((l.length:Nat):Int),(i:Int),(j:Int),())∧j+m=8) (fun w=>∃u:Int,w=(u,l,((l.length:Nat):Int),(i:Int),())) 8 (bits .u32 .xor v (wrap .u32 l[i]),l,((l.length:Nat):Int),(i:Int),(0:Int),()) ⟨_,0,rfl,rfl⟩ (fun w b c=>?_) (fun m a g=>?_);obtain⟨u,rfl⟩:=c;rw[b];simp only[oB];rw[w64 (by omega)];exact⟨_,k-1,rfl,by omega,u,i+1,rfl,by omega⟩
  ·obtain⟨u,j,rfl,o⟩:=g;unfold a0Y;simp only
   by_cases h8:j<8
   ·left;have e:wrap .i64 ((j:Int)+1)=((j+1:Nat):Int):=by rw[w64 (by omega)];omega
    rw[decide_eq_true (show(j:Int)<8 by omega),e];simp only[cT];cases (bits .u32 .and u (1:Int))==(1:Int)with
    |true=>exact⟨_,m-1,rfl,by omega,_,j+1,rfl,by omega⟩
    |false=>exact⟨_,m-1,rfl,by omega,_,j+1,rfl,by omega⟩
   right;rw[decide_eq_false (show ¬ (j:Int)<8 by omega)];exact⟨_,rfl,u,rfl⟩
 right;rw[decide_eq_false (show ¬ (i:Int)<((l.length:Nat):Int)by omega)];exact⟨_,rfl,trivial⟩
def a0V(l:List Int):Int:=(a0Z l).getD 0
theorem b9r(n:Int):0≤wrap .u32 n∧wrap .u32 n<4294967296:=by
 simp only[wrap,IntKind.bits,IntKind.signed]
 simp
 omega
theorem a7j{l:List Int}(h:l.length<1000000):a0Z l=some (a0V l)∧0≤a0V l∧a0V l<4294967296:=by
 obtain⟨v,hv⟩:=b6e h;have e:a0V l=bits .u32 .xor (IntKind.max .u32) v:=by rw[a0V,hv];rfl
 refine⟨by rw[e];exact hv,?_⟩;rw[e];exact b9r _
structure PgOk (p:Pge):Prop where
 s0:0≤p.1
 s1:p.1≤1000000
 b0:1≤p.2.2.2.2.1.length
 b1:p.2.2.2.2.1.length≤(bif p.2.2.2.1 then 255 else 252)
def pgH(p:Pge):List Int:=[75,80,bits .u8 .or (bits .u8 .or (bif p.2.1 then 1 else 0) (bif p.2.2.1 then 2 else 0)) (bif p.2.2.2.1 then 4 else 0)]++(a0P p.1.toNat 4++([wrap .u8 ((p.2.2.2.2.1.length:Nat):Int)]++p.2.2.2.2.1))
def pgB(p:Pge):List Int:=pgH p++a0P (a0V (pgH p)).toNat 4
theorem a6s(p:Pge):(pgH p).length=8+p.2.2.2.2.1.length:=by
 simp only[pgH,lN,a0O,lC,a06];omega
theorem a7k(p:Pge):(pgB p).length=12+p.2.2.2.2.1.length:=by
 rw[pgB,lN,a6s,a0O];omega
theorem a7A(h:PgOk p):a2V p=some (pgB p,0):=by
 obtain⟨m,o,q,c⟩:=h;have r:p.2.2.2.2.1.length≤255:=by
  revert c
  cases p.2.2.2.1<;>simp only[cT,cF]<;>omega
 have e:a1W p.2.2.2.1=some (((bif p.2.2.2.1 then 255 else 252:Nat):Nat):Int):=by
  unfold a1W;cases p.2.2.2.1<;>rfl
 have f:a1M (p.2.1,1)=some (bif p.2.1 then 1 else 0):=by cases p.2.1<;>rfl
 have a:a1M (p.2.2.1,2)=some (bif p.2.2.1 then 2 else 0):=by cases p.2.2.1<;>rfl
 have b:a1M (p.2.2.2.1,4)=some (bif p.2.2.2.1 then 4 else 0):=by cases p.2.2.2.1<;>rfl
 have i:wrap .u64 p.1=((p.1.toNat:Nat):Int):=by
  have:=a3v (n:=p.1.toNat) (by omega)
  rwa [show((p.1.toNat:Nat):Int)=p.1 by omega]at this⊢
 have b1:=a6A (n:=p.1.toNat) (k:=4) (by omega) (by omega);rw[show((4:Nat):Int)=4 from rfl]at b1;obtain⟨j,s,t⟩:=a7j (l:=pgH p) (by rw[a6s];omega);have hs:wrap .u64 (a0V (pgH p))=(((a0V (pgH p)).toNat:Nat):Int):=by
  have:=a3v (n:=(a0V (pgH p)).toNat) (by omega)
  rwa [show(((a0V (pgH p)).toNat:Nat):Int)=a0V (pgH p)by omega]at this⊢
 have b2:=a6A (n:=(a0V (pgH p)).toNat) (k:=4) (by omega) (by omega);rw[show((4:Nat):Int)=4 from rfl]at b2;have g:a31 (a31 (a31 ([75,80,bits .u8 .or (bits .u8 .or (bif p.2.1 then 1 else 0) (bif p.2.2.1 then 2 else 0)) (bif p.2.2.2.1 then 4 else 0)]:List Int) (a0P p.1.toNat 4)) ([wrap .u8 ((p.2.2.2.2.1.length:Nat):Int)]:List Int)) p.2.2.2.2.1=pgH p:=by
  simp only[pgH,a20,aA]
 unfold a2V;rw[decide_eq_false (show ¬ p.1<0 by omega),decide_eq_false (show ¬ p.1 > 2147483647 by omega),decide_eq_false (show ¬ ((p.2.2.2.2.1.length:Nat):Int)<1 by omega)];simp only[cF,e,oB];rw[decide_eq_false (show ¬ ((p.2.2.2.2.1.length:Nat):Int) > (((bif p.2.2.2.1 then 255 else 252:Nat):Nat):Int)by omega)];simp only[cF,f,a,b,i,b1,oB,g,j,hs,b2];simp only[a20,lN,a0O,a6s,lC,a06];rw[a0A (by omega),a0A (by omega),a0A (by omega),a0A (by omega)];rfl
theorem a9k(h:PgOk p):a2x p=some true:=by
 unfold a2x;rw[a7A h];rfl
theorem a8c(h:PgOk p):a3b p=some p:=by
 unfold a3b;have g:p.2.2.2.2.1.length≤255:=by
  have:=h.b1
  revert this
  cases p.2.2.2.1<;>simp only[cT,cF]<;>omega
 rw[a0A (by omega)];rfl
theorem b5x{to fr:List Int}(l:to.length<1000)(m:fr.length<1000):∃r,a2W (to,fr)=some (r,[])∧r.length=max to.length fr.length:=by
 unfold a2W;simp only;refine a1F (f:=a2y) (fun k a=>∃t:List Int,a=(fr,t,())∧to.length≤t.length∧t.length≤max to.length fr.length∧k=fr.length-t.length) (fun w=>∃t:List Int,w=(fr,t,())∧t.length=max to.length fr.length) (fr.length-to.length) (fr,to,()) ⟨to,rfl,a13 _,by omega,rfl⟩ (fun w c b=>?_) (fun k a g=>?_);obtain⟨t,rfl,j⟩:=b;rw[c];simp only[oB];refine a1F (f:=a2z) (fun k a=>∃(r:List Int)(i:Nat),a=(fr,((fr.length:Nat):Int),(i:Int),r,())∧r.length=max to.length fr.length∧i+k=fr.length) (fun w=>w.1.length=max to.length fr.length) fr.length (fr,((fr.length:Nat):Int),(0:Int),t,()) ⟨t,0,rfl,j,by omega⟩ (fun w c b=>⟨w.1,by rw[c];rfl,b⟩) (fun k a g=>?_);obtain⟨r,i,rfl,e,n⟩:=g;unfold a2z;simp only
 by_cases h:i<fr.length
 left;rw[decide_eq_true (show(i:Int)<((fr.length:Nat):Int)by omega),a0F h];simp only[cT,oB];rw[decide_eq_true (show(0:Int)≤(i:Int)by omega),decide_eq_true (show(i:Int)<((r.length:Nat):Int)by omega),w64 (by omega)];exact⟨_,k-1,rfl,by omega,_,i+1,rfl,by rw[a32];exact e,by omega⟩;right;rw[decide_eq_false (show ¬ (i:Int)<((fr.length:Nat):Int)by omega)];exact⟨_,rfl,e⟩;obtain⟨t,rfl,o,p,rfl⟩:=g;unfold a2y;simp only
 by_cases h:t.length<fr.length
 left;rw[decide_eq_true (show((t.length:Nat):Int)<((fr.length:Nat):Int)by omega),a0A (by omega)];exact⟨_,fr.length-(t.length+1),rfl,by omega,t++[0],rfl,by rw[lN];omega,by rw[lN,a07];omega,by rw[lN,a07]⟩;right;rw[decide_eq_false (show ¬ ((t.length:Nat):Int)<((fr.length:Nat):Int)by omega)];exact⟨_,rfl,t,rfl,by omega⟩
theorem b4B(p:Pge):∃v,a3F p=some v:=by
 obtain⟨a,f,l,g,b,u⟩:=p;unfold a3F;cases f<;>cases l<;>exact⟨_,rfl⟩
structure PgPlain (p:Pge):Prop extends PgOk p where
 ng:p.2.2.2.1=false
theorem PgPlain.b2(h:PgPlain p):p.2.2.2.2.1.length≤252:=by
 have:=h.b1
 rw[h.ng]at this;exact this
theorem b5y(t:∀p∈g,PgPlain p)(c:g≠[])(C:g.length≤8):∃q sum v1 v2,a2p g=some q∧q=((g.head c).1,false,false,true,(((g.length:Nat):Int)::v1::v2::sum),())∧1≤sum.length∧sum.length≤252:=by
 have u:=a03.2 c;unfold a2p;refine a1F (f:=a1X) (fun k n=>∃(a b:Int)(i:Nat)(s:List Int)(z:Pge),n=(g,a,b,g,((g.length:Nat):Int),(i:Int),s,z,())∧i+k=g.length∧s.length≤252∧(0<i→1≤s.length)) (fun w=>∃(a b:Int)(s:List Int)(z:Pge),w=(g,a,b,s,z,())∧1≤s.length∧s.length≤252) g.length (g,(0:Int),(0:Int),g,((g.length:Nat):Int),(0:Int),([]:List Int),((0:Int),false,false,false,([]:List Int),()),()) ⟨0,0,0,[],_,rfl,by omega,by simp,by omega⟩ (fun w A o=>?_) (fun k n e=>?_);obtain⟨a,b,s,z,rfl,j,m⟩:=o;rw[A];simp only[oB];have B:n0s g (0:Int)=some (g.head c):=by
  have:=a0F (l:=g) (k:=0) u
  rw[show((0:Nat):Int)=0 from rfl]at this;rw[this,a93]
 rw[a0A (by omega),B,a5N (by omega)];exact⟨_,s,a,b,rfl,rfl,j,m⟩;obtain⟨a,b,i,s,z,rfl,D,j,m⟩:=e;unfold a1X;simp only
 by_cases h:i<g.length
 left;have hp:=t g[i] (a19 h);have F:=hp.b2;have E:=hp.b0;obtain⟨v,hv⟩:=b4B g[i];obtain⟨r,x,y⟩:=b5x (to:=s) (fr:=(g[i]).2.2.2.2.1) (by omega) (by omega);rw[decide_eq_true (show(i:Int)<((g.length:Nat):Int)by omega),a0F h];simp only[cT,oB,hv,x];rw[w64 (by omega)];exact⟨_,k-1,rfl,by omega,_,_,i+1,r,z,rfl,by omega,by omega,fun _=>by omega⟩;right;rw[decide_eq_false (show ¬ (i:Int)<((g.length:Nat):Int)by omega)];exact⟨_,rfl,a,b,s,z,rfl,m (by omega),j⟩
@[reducible] def zPg:Pge:=((0:Int),(false,(false,(false,(([]:List Int),())))))
def gOf(g:List Pge):Pge:=(a2p g).getD zPg
def a0Q(l:List Pge):List Pge:=
 if h:l=[]then[]else l.take 8++gOf (l.take 8)::a0Q (l.drop 8)
termination_by l.length
decreasing_by
 have:=a03.2 h
 rw[a01];omega
theorem a1I:a0Q []=[]:=by rw[a0Q,dif_pos rfl]
theorem a2R(h:l≠[]):a0Q l=l.take 8++gOf (l.take 8)::a0Q (l.drop 8):=by rw[a0Q,dif_neg h]
def b3R(l:List Pge):Prop:=∀(i:Nat)(p:Pge),l[i]?=some p→p.1=(i:Int)
theorem a9l(n:∀p∈g,PgPlain p)(b:g≠[])(m:g.length≤8):a2p g=some (gOf g)∧∃h f a,gOf g=((g.head b).1,false,false,true,(((g.length:Nat):Int)::f::a::h),())∧1≤h.length∧h.length≤252:=by
 obtain⟨q,h,f,a,c,i,j,l⟩:=b5y n b m;have e:gOf g=q:=by rw[gOf,c];rfl
 rw[e];exact⟨c,h,f,a,i,j,l⟩
theorem b5z(hp:∀p∈l,PgPlain p)(hs:b3R l)(m:l.length<1000000):y0h a3i (l,l,((l.length:Nat):Int),(0:Int),())=some (.inl (l,())):=by
 refine a0D (f:=a3i) (fun i=>(l,l,((l.length:Nat):Int),(i:Int),())) l.length (fun i g=>?_) ?_
 unfold a3i;simp only;have h:=hp l[i] (a19 g);have a:=hs i l[i] (lG g);have e:wrap .i64 ((i:Int)+1)=((i+1:Nat):Int):=by rw[w64 (by omega)];omega
 rw[decide_eq_true (show(i:Int)<((l.length:Nat):Int)by omega),a0F g];simp only[cT,oB,a9k h.toPgOk,bT,cF,h.ng]
 by_cases h0:i=0
 subst h0;have c:wrap .i64 (((0:Nat):Int)+1)=((0+1:Nat):Int):=by decide
 rw[decide_eq_false (show ¬ ((0:Nat):Int) > 0 by decide)];simp only[cF,oB,c];rw[decide_eq_true (show(i:Int) > 0 by omega)];have w2:wrap .i64 ((i:Int)-1)=((i-1:Nat):Int):=by rw[w64 (by omega)];omega
 rw[w2,a0F (show i-1<l.length by omega)];have b:=hs (i-1) l[i-1] (lG (by omega));simp only[cT,oB,a,b];have j:wrap .i64 (((i-1:Nat):Int)+1)=(i:Int):=by rw[w64 (by omega)];omega
 rw[j,e];simp only[bne_self_eq_false,cF];unfold a3i;simp only;rw[decide_eq_false (by omega)];rfl
theorem b5A{out:List Pge}{a:Int}(hp:∀p∈g,PgPlain p)(e:out.length+g.length<1000000):y0h a3j (l,a,g,g,((g.length:Nat):Int),(0:Int),out,())=some (l,a,g,out++g,()):=by
 have:=a0D (f:=a3j) (fun i=>(l,a,g,g,((g.length:Nat):Int),(i:Int),out++g.take i,())) g.length (b:=(l,a,g,out++g,())) (fun i h=>?_) ?_
 rw[a57,a02]at this;exact this;unfold a3j;simp only;have c:=hp g[i] (a19 h);rw[decide_eq_true (show(i:Int)<((g.length:Nat):Int)by omega),a0F h];simp only[cT,oB,a8c c.toPgOk];rw[a0A (by rw[lN,a00];omega),a04 h,w64 (by omega)];simp only[cT,a20,aA];rfl;unfold a3j;simp only;rw[decide_eq_false (by omega),a08];rfl
theorem b4C(hp:∀p∈l,PgPlain p)(hs:b3R l)(u:l.length<100000):a3G l=some (a0Q l,0):=by
 unfold a3G;refine a0E (b5z hp hs (by omega)) ?_
 simp only;refine a0E (v:=(a0Q l,())) ?_ rfl;refine a1F (f:=a5t) (fun k m=>∃(i:Nat)(out:List Pge),m=(l,(i:Int),out,())∧k=(l.drop i).length∧i≤l.length+8∧out.length≤2*i∧out++a0Q (l.drop i)=a0Q l) (fun w=>w=(a0Q l,())) l.length (l,(0:Int),([]:List Pge),()) ⟨0,[],rfl,rfl,by omega,by simp,rfl⟩ (fun w s q=>by rw[s,q]) (fun k m e=>?_);obtain⟨i,out,rfl,rfl,t,x,b⟩:=e;have y:(l.drop i).length=l.length-i:=a01;unfold a5t;simp only
 by_cases h:i<l.length
 left;have c:l.drop i≠[]:=a03.1 (by omega);have w2:wrap .i64 ((i:Int)+8)=((i+8:Nat):Int):=by rw[w64 (by omega)];omega
 have a:y0e ((i+8:Nat):Int) ((l.length:Nat):Int)=((min (i+8) l.length:Nat):Int):=by
  unfold y0e
  by_cases hc:((l.length:Nat):Int)<((i+8:Nat):Int)
  rw[decide_eq_true hc,a64 (by omega)];rfl;rw[decide_eq_false hc,a61 (by omega)];rfl
 have g:a59 (a26 (i:Int)) (a52 (a26 ((min (i+8) l.length:Nat):Int)) l)=(l.drop i).take 8:=by
  rw[tN,tN,b34]
  by_cases hc:i+8<l.length
  rw[a61 (by omega),show i+8-i=8 by omega];rw[a64 (by omega),a30 (by omega),a30 (by omega)]
 have j:∀p∈(l.drop i).take 8,PgPlain p:=fun p r=>hp p (a33 (a09 r));have lg:((l.drop i).take 8).length≤8:=by rw[a00];omega
 obtain⟨n,-⟩:=a9l j (a03.1 (by rw[a00];omega)) lg;rw[w2,a,g,decide_eq_true (show(i:Int)<((l.length:Nat):Int)by omega),tN];rw[decide_eq_true (show(0:Int)≤((min (i+8) l.length:Nat):Int)by omega),decide_eq_true (show((min (i+8) l.length:Nat):Int)≤((l.length:Nat):Int)by omega),decide_eq_true (show(0:Int)≤(i:Int)by omega),decide_eq_true (show(i:Int)≤((min (i+8) l.length:Nat):Int)by omega)];simp only[cT,a23];rw[b5A j (by omega)];simp only[oB,n];rw[a0A (by rw[lN];omega),w2];refine⟨_,(l.drop (i+8)).length,rfl,by simp only[a01];omega,i+8,(out++(l.drop i).take 8)++[gOf ((l.drop i).take 8)],rfl,rfl,by omega,?_,?_⟩;simp only[lN,a07,a00];omega;rw[←b,a2R c,a92];simp only[aA,a47];right;rw[decide_eq_false (show ¬ (i:Int)<((l.length:Nat):Int)by omega)];have o:l.drop i=[]:=a44.2 (by omega);rw[o,a1I,a02]at b;exact⟨_,rfl,by rw[b]⟩
theorem b3i:∀(n:Nat)(f:Bool)(s:Nat)(r:List Int),r.length≤n→s+r.length≤1000000→∀(i:Nat)(p:Pge),(a1P f s r)[i]?=some p→p.1=((s+i:Nat):Int)∧PgPlain p
 |0,f,s,r,h,_,i,p,hp=>by
  have:r=[]:=a35.1 (by omega)
  rw[this,a2k]at hp;cases hp
 |n+1,f,s,r,h,hs,i,p,hp=>by
  by_cases hr:r=[]
  rw[hr,a2k]at hp;cases hp
  ·have g:=a03.2 hr;rw[a2Q hr]at hp;cases i with
   |zero=>
    cases hp;exact⟨by simp,⟨⟨by simp,by show(s:Int)≤1000000;omega,by show 1≤(r.take 252).length;rw[a00];omega,by show(r.take 252).length≤252;rw[a00];omega⟩,rfl⟩⟩
   |succ i=>
    have:=b3i n false (s+1) (r.drop 252) (by rw[a01];omega) (by rw[a01];omega) i p hp
    exact⟨by rw[this.1];congr 1;omega,this.2⟩
theorem b0C:∀(bs:List (List Int)) (s:Nat),(∀b∈bs,b.length≤1000)→s+1000*bs.length≤1000000→∀(i:Nat)(p:Pge),(a1z s bs)[i]?=some p→p.1=((s+i:Nat):Int)∧PgPlain p
 | [],s,_,_,i,p,hp=>by cases hp
 |b::bs,s,hb,hs,i,p,hp=>by
  rw[lC]at hs;have g:=hb b (by simp);have f:=a6B b.length true s b (a13 _);rw[a1z]at hp
  by_cases hi:i<(a1P true s b).length
  rw[a63 hi]at hp;exact b3i b.length true s b (a13 _) (by omega) i p hp;rw[a38 (by omega)]at hp
  have:=b0C bs _ (fun c h=>hb c (by simp[h])) (by omega) _ p hp
  exact⟨by rw[this.1];congr 1;omega,this.2⟩
theorem a9m:∀(n:Nat)(l:List Pge),l.length≤n→(∀p∈l,PgPlain p)→∀q∈a0Q l,PgOk q
 |0,l,h,_,q,f=>by
  have:l=[]:=a35.1 (by omega)
  rw[this,a1I]at f;cases f
 |n+1,l,h,hp,q,f=>by
  by_cases hl:l=[]
  rw[hl,a1I]at f;cases f;have m:=a03.2 hl;rw[a2R hl]at f;rcases mA.1 f with f|f;exact(hp q (a09 f)).toPgOk;rcases mC.1 f with rfl|f;have b:l.take 8≠[]:=a03.1 (by rw[a00];omega);obtain⟨-,a,i,j,e,o,r⟩:=a9l (g:=l.take 8) (fun p f=>hp p (a09 f)) b (by rw[a00];omega);have c:=(hp ((l.take 8).head b) (a09 (List.head_mem b))).toPgOk;rw[e];exact⟨c.s0,c.s1,by show 1≤(_::i::j::a).length;simp,by show(_::i::j::a).length≤255;simp only[lC];omega⟩;exact a9m n (l.drop 8) (by rw[a01];omega) (fun p f=>hp p (a33 f)) q f
theorem a5C:∀(n:Nat)(l:List Pge),l.length≤n→(a0Q l).length≤2*l.length
 |0,l,h=>by
  have:l=[]:=a35.1 (by omega)
  rw[this,a1I];simp
 |n+1,l,h=>by
  by_cases hl:l=[]
  rw[hl,a1I];simp;have g:=a03.2 hl;have f:=a5C n (l.drop 8) (by rw[a01];omega);rw[a01]at f;rw[a2R hl,lN,lC,a00];omega
def a0K(l:List Pge):List Int:=l.flatMap pgB
theorem a6p:∀(l:List Pge),(∀p∈l,PgOk p)→(a0K l).length≤267*l.length
 | [],_=>by simp[a0K]
 |p::l,h=>by
  have a:=a6p l fun q g=>h q (by simp[g]);have hp:=h p (by simp);have f:p.2.2.2.2.1.length≤255:=by
   have:=hp.b1
   revert this
   cases p.2.2.2.1<;>simp only[cT,cF]<;>omega
  have e:a0K (p::l)=pgB p++a0K l:=rfl;rw[e,lN,a7k,lC];omega
theorem b0D(h:∀p∈l,PgOk p)(m:l.length<1000000):a3H l=some (a0K l,0):=by
 unfold a3H;refine a0E (v:=.inl (a0K l,())) ?_ rfl
 have:=a0D (f:=a4r) (fun i=>(l,((l.length:Nat):Int),(i:Int),a0K (l.take i),())) l.length (b:=.inl (a0K l,())) (fun i a=>?_) ?_
 exact this;unfold a4r;simp only;have hp:=h l[i] (a19 a);have j:(l[i]).2.2.2.2.1.length≤255:=by
  have:=hp.b1
  revert this
  cases (l[i]).2.2.2.1<;>simp only[cT,cF]<;>omega
 have g:=a6p (l.take i) fun q c=>h q (a09 c);rw[a00]at g;rw[decide_eq_true (show(i:Int)<((l.length:Nat):Int)by omega),a0F a];simp only[cT,oB,a7A hp,bne_self_eq_false,cF];rw[a0A (by rw[a7k];omega),w64 (by omega),a04 a];have e:a0K (l.take i++[l[i]])=a0K (l.take i)++pgB l[i]:=by unfold a0K;rw[a56,a49]
 rw[e];rfl;unfold a4r;simp only;rw[decide_eq_false (by omega),a08];rfl
def rdr(P R:List Int):List Int×(Int×Int×Unit):=(P++R,((P.length:Nat):Int),(0:Int),())
theorem b3j{P R:List Int}(g:(P++(A++R)).length<1000000):a2h (rdr P (A++R),((A.length:Nat):Int))=some (A,rdr (P++A) R):=by
 simp only[lN]at g;unfold a2h rdr a1L;have f:y0d ((A.length:Nat):Int) 0=((A.length:Nat):Int):=by
  unfold y0d
  by_cases h:((A.length:Nat):Int)<0
  omega;simp[h]<;>omega
 have a:wrap .i64 (((P++(A++R)).length:Int)-((P.length:Nat):Int))=((A.length+R.length:Nat):Int):=by
  rw[w64 (by simp only[lN];omega)];simp only[lN];omega
 have w2:wrap .i64 (((P.length:Nat):Int)+((A.length:Nat):Int))=((P.length+A.length:Nat):Int):=by rw[w64 (by omega)];omega
 simp only[bne_self_eq_false,cF,oB,f,a,w2];rw[decide_eq_false (show ¬ ((A.length:Nat):Int) > ((A.length+R.length:Nat):Int)by omega),decide_eq_true (show(0:Int)≤((P.length+A.length:Nat):Int)by omega),decide_eq_true (show((P.length+A.length:Nat):Int)≤(((P++(A++R)).length:Nat):Int)by simp only[lN];omega),decide_eq_true (show(0:Int)≤((P.length:Nat):Int)by omega),tN,tN,decide_eq_true (show((P.length:Nat):Int)≤((P.length+A.length:Nat):Int)by omega)];have e:a59 P.length (a52 (P.length+A.length) (P++(A++R)))=A:=by
  rw[b57,b58]
  simp
 rw[e,a0A (by omega)];simp only[cF,cT,a23,aA,lN]
def a4n(l:List Int):Int:=l.foldl (fun a b=>a*256+b) 0
theorem a8d(l:List Int)(b:Int):a4n (l++[b])=a4n l*256+b:=by simp[a4n,a87]
theorem a9n:∀(n:Nat)(l:List Int),l.length=n→(∀b∈l,0≤b∧b<256)→0≤a4n l∧a4n l<((256^n:Nat):Int)
 |0,l,h,_=>by
  have:l=[]:=a35.1 h
  rw[this];decide
 |n+1,l,h,hb=>by
  have f:l≠[]:=a03.1 (by omega);obtain⟨a,z,rfl⟩:=b3h f;rw[lN,a07]at h;have c:=a9n n a (by omega) fun b g=>hb b (by simp[g]);have e:=hb z (by simp);rw[a8d,a79];generalize 256^n=N at c⊢;omega
theorem b1R:∀(k n:Nat),n<256^k→a4n (a0P n k)=(n:Int)
 |0,n,h=>by
  have:n=0:=by simpa using h
  subst this;rfl
 |k+1,n,h=>by
  have e:a0P n (k+1)=a0P (n / 256) k++[((n%256:Nat):Int)]:=by
   rw[a0P,a2i,b53];rfl
  rw[e,a8d,b1R k (n / 256) (by rw[a79]at h;omega)];omega
theorem a7l{P R:List Int}(q:A.length≤8)(j:∀b∈A,0≤b∧b<256)(o:(P++(A++R)).length<1000000):a0M (rdr P (A++R),((A.length:Nat):Int))=some (a4n A,rdr (P++A) R):=by
 have l:a2D ((A.length:Nat):Int)=some ((A.length:Nat):Int):=by
  unfold a2D y0e y0d;have c:¬ (8:Int)<((A.length:Nat):Int):=by omega
  have e:¬ ((A.length:Nat):Int)<0:=by omega
  congr 1;simp[c,e]<;>omega
 unfold a0M;simp only[l,oB,b3j o]
 have:=a0D (f:=a2A) (fun i=>(a4n (A.take i),((A.length:Nat):Int),(i:Int),A,rdr (P++A) R,())) A.length (b:=(a4n A,rdr (P++A) R,())) (fun i g=>?_) ?_
 refine a0E this rfl;unfold a2A;simp only;have r:=a9n i (A.take i) (by rw[a00];omega) fun b h=>j b (a09 h);have hp:256^i≤256^7:=b07 (by decide) (by omega);have p:256^7=72057594037927936:=by decide
 have s:=j A[i] (a19 g);have a:∀z:Int,0≤z→z<18446744073709551616→wrap .u64 z=z:=fun z c e=>by
  have:=a3v (n:=z.toNat) (by omega)
  rwa [show((z.toNat:Nat):Int)=z by omega]at this
 have m:a37 A (a26 (i:Int)) 0=A[i]:=by rw[tN,lD,lG g];rfl
 rw[decide_eq_true (show(i:Int)<((A.length:Nat):Int)by omega),decide_eq_true (show(0:Int)≤(i:Int)by omega),m,a (a4n (A.take i)*256) (by omega) (by omega),a A[i] (by omega) (by omega),a _ (by omega) (by omega),w64 (by omega),a04 g,a8d];rfl;unfold a2A;simp only;rw[decide_eq_false (by omega),a08];rfl
theorem a6C{P R:List Int}{k:Nat}(h:k≤8)(f:n<256^k)(g:(P++(a0P n k++R)).length<1000000):a0M (rdr P (a0P n k++R),((k:Nat):Int))=some ((n:Int),rdr (P++a0P n k) R):=by
 have:=a7l (P:=P) (A:=a0P n k) (R:=R) (by rw[a0O];exact h) (a6R n k) g
 rwa [a0O,b1R k n f]at this
def a5P(p:Pk):List Int:=[p.1]++([a1Z p]++(a0P p.2.1.toNat 8++a0P p.2.2.1.toNat 8))
theorem a6D(p:Pk):(a5P p).length=18:=by
 simp only[a5P,lN,a0O,lC,a06]
theorem b3k{p:Pk}(h:a5O p):a1l p=a5P p++p.2.2.2.2.2.1:=by
 obtain⟨s,hs,g,f⟩:=h;have e:wrap .u8 p.1=p.1:=by
  have:=a5N (n:=p.1.toNat) (by rw[hs.st];omega)
  rwa [show((p.1.toNat:Nat):Int)=p.1 by rw[hs.st];omega]at this
 simp only[a1l,a5P,e,aA,a24,a05]
theorem a7B(p:Pk):a1Z p=(bif p.2.2.2.1 then 1 else 0)+(bif p.2.2.2.2.1 then 2 else 0):=by
 unfold a1Z;cases p.2.2.2.1<;>cases p.2.2.2.2.1<;>decide
theorem a9o{x:List Int}(h:x.length<1000000):a1D x=some (rdr [] x):=by
 unfold a1D;rw[a0A (by omega)];rfl
theorem a9R{p:Pk}(h:a5O p){d:List Int}(x:d.length≤60000):a2m (a5P p++d)=some ((p.1,p.2.1,p.2.2.1,p.2.2.2.1,p.2.2.2.2.1,d,()),0):=by
 obtain⟨s,hs,v,w⟩:=h;have a:(a5P p++d).length=18+d.length:=by rw[lN,a6D]
 have c:=hs.st;have a0:=hs.at0;have a1:=hs.at1;have z:=hs.len0;have l1:=hs.len1;have y:0≤a1Z p∧a1Z p≤3:=by
  rw[a7B];cases p.2.2.2.1<;>cases p.2.2.2.2.1<;>decide
 have g:256^8=18446744073709551616:=by decide
 have e:a5P p++d=[p.1]++([a1Z p]++(a0P p.2.1.toNat 8++(a0P p.2.2.1.toNat 8++d))):=by simp only[a5P,aA]
 have l:=a7l (P:=[]) (A:=[p.1]) (R:=[a1Z p]++(a0P p.2.1.toNat 8++(a0P p.2.2.1.toNat 8++d))) (by simp) (fun b f=>by rw[a16]at f;rw[f,c];omega) (by rw[←e,a05,a];omega);have r2:=a7l (P:=[]++[p.1]) (A:=[a1Z p]) (R:=a0P p.2.1.toNat 8++(a0P p.2.2.1.toNat 8++d)) (by simp) (fun b f=>by rw[a16]at f;rw[f];omega) (by rw[a05,←e,a];omega);have i:=a6C (P:=[]++[p.1]++[a1Z p]) (R:=a0P p.2.2.1.toNat 8++d) (n:=p.2.1.toNat) (k:=8) (by omega) (by rw[g];omega) (by simp only[lN,a0O,lC,a06];omega);have j:=a6C (P:=[]++[p.1]++[a1Z p]++a0P p.2.1.toNat 8) (R:=d) (n:=p.2.2.1.toNat) (k:=8) (by omega) (by rw[g];omega) (by simp only[lN,a0O,lC,a06];omega);rw[show(([p.1].length:Nat):Int)=1 from rfl,show a4n [p.1]=p.1 by simp[a4n]]at l;rw[show(([a1Z p].length:Nat):Int)=1 from rfl,show a4n [a1Z p]=a1Z p by simp[a4n]]at r2;rw[show((8:Nat):Int)=8 from rfl]at i j;have m:((p.2.1.toNat:Nat):Int)=p.2.1:=by omega
 have q:((p.2.2.1.toNat:Nat):Int)=p.2.2.1:=by omega
 rw[m]at i;rw[q]at j;have r:a1D (a5P p++d)=some (rdr [] ([p.1]++([a1Z p]++(a0P p.2.1.toNat 8++(a0P p.2.2.1.toNat 8++d))))):=by rw[a9o (by omega),←e]
 unfold a2m;rw[a,decide_eq_false (show ¬ ((18+d.length:Nat):Int)<18 by omega),decide_eq_false (show ¬ ((18+d.length:Nat):Int) > 65554 by omega)];simp only[cF,r,l,r2,i,j,oB];rw[decide_eq_false (show ¬ p.1≥4 by omega),decide_eq_false (show ¬ a1Z p > 3 by omega),decide_eq_false (show ¬ p.2.1 > 1125899906842624 by omega),decide_eq_false (show ¬ p.2.2.1 > 1125899906842624 by omega)];simp only[cF,oB];rw[a,decide_eq_true (show(18:Int)≤((18+d.length:Nat):Int)by omega)];have o:a59 18 (a52 (18+d.length) (a5P p++d))=d:=by
  rw[a30 (by omega),b58,a44.2 (by rw[a6D];omega),a6D];rfl
 rw[o,a7y (by omega),w64 (by omega),w64 (by omega),w64 (by omega)];have t:((bits .u64 .and (a1Z p) 1) != 0)=p.2.2.2.1:=by
  rw[a7B];cases p.2.2.2.1<;>cases p.2.2.2.2.1<;>decide
 have u:((bits .u64 .and (a1Z p) 2) != 0)=p.2.2.2.2.1:=by
  rw[a7B];cases p.2.2.2.1<;>cases p.2.2.2.2.1<;>decide
 simp only[cT,oB,t,u]
def a5D(p:Pge):Prop:=p.2.1=true→p.2.2.2.1=false→∃q,a5O q∧p.2.2.2.2.1.take 18=a5P q∧18≤p.2.2.2.2.1.length
abbrev Mk:Type:=Int×(Int×(Int×Unit))
def a1e(p:Pge):List Mk:=
 bif p.2.1&&!p.2.2.2.1 then(match a2m (p.2.2.2.2.1.take 18)with
  |some y=>bif y.1.2.2.2.1 then[(y.1.1,y.1.2.1,p.1,())]else[]
  |none=>[])else[]
theorem a6E(h:p.2.2.2.1=true):a1e p=[]:=by
 unfold a1e;rw[h];cases p.2.1<;>rfl
theorem a7a{q:Pk}(h:p.2.1=true)(g:p.2.2.2.1=false)(a:a5O q)(f:p.2.2.2.2.1.take 18=a5P q):a1e p=bif q.2.2.2.1 then[(q.1,q.2.1,p.1,())]else[]:=by
 unfold a1e
 have:=a9R a (d:=[]) (by simp)
 rw[a02]at this;rw[h,g,f,this];rfl
theorem b3S:(a1e p).length≤1:=by
 unfold a1e;cases p.2.1&&!p.2.2.2.1 with
 |false=>simp
 |true=>
  simp only[cT];cases a2m (p.2.2.2.2.1.take 18)with
  |none=>simp
  |some y=>simp only;cases y.1.2.2.2.1<;>simp
theorem a6S:∀(l:List Pge),(l.flatMap a1e).length≤l.length
 | []=>by simp
 |p::l=>by
  have h:=a6S l;have g:=b3S (p:=p);rw[a60,lN,lC];omega
theorem b7Q(h:∀p∈l,PgOk p∧a5D p)(v:l.length<1000000):a6m l=some (l.flatMap a1e):=by
 unfold a6m
 have:=a0D (f:=a5i) (fun i=>(l,((l.length:Nat):Int),(i:Int),(l.take i).flatMap a1e,())) l.length (b:=(l.flatMap a1e,())) (fun i c=>?_) ?_
 refine a0E this rfl
 ·unfold a5i;simp only;obtain⟨hp,r⟩:=h l[i] (a19 c);have t:wrap .i64 ((i:Int)+1)=((i+1:Nat):Int):=by rw[w64 (by omega)];omega
  have j:=a6S (l.take i);rw[a00]at j;have e:(l.take (i+1)).flatMap a1e=(l.take i).flatMap a1e++a1e l[i]:=by rw[a04 c,a56,a49]
  rw[decide_eq_true (show(i:Int)<((l.length:Nat):Int)by omega),a0F c,t,e];simp only[cT,oB]
  by_cases g:(l[i]).2.1=true
  ·by_cases a:(l[i]).2.2.2.1=true
   rw[a6E a,g,a,a02];rfl
   ·have a:(l[i]).2.2.2.1=false:=by simpa using a
    obtain⟨q,o,m,u⟩:=r g a;rw[a7a g a o m,g,a];have n:=a9R o (d:=[]) (by simp);rw[a02]at n;rw[decide_eq_false (show ¬ (((l[i]).2.2.2.2.1.length:Nat):Int)<18 by omega),decide_eq_true (show(18:Int)≤(((l[i]).2.2.2.2.1.length:Nat):Int)by omega),m];simp only[bT,cF,cT,a7A hp,oB,bne_self_eq_false,n];cases hk:q.2.2.2.1 with
    |false=>simp only[a91,cT,cF,a02]
    |true=>
     simp only[bT,cF,cT];rw[a0A (by omega)];rfl
  have g:(l[i]).2.1=false:=by simpa using g
  have s:a1e l[i]=[]:=by unfold a1e;rw[g];rfl
  rw[s,g,a02];rfl
 unfold a5i;simp only;rw[decide_eq_false (by omega),a08];rfl
theorem b0E(a:∀p∈g,PgPlain p)(h:g≠[])(f:g.length≤8):(gOf g).2.2.2.1=true:=by
 obtain⟨-,b,c,i,e,-⟩:=a9l a h f;rw[e]
theorem a8e:∀(n:Nat)(l:List Pge),l.length≤n→(∀p∈l,PgPlain p)→(a0Q l).flatMap a1e=l.flatMap a1e
 |0,l,h,_=>by
  have:l=[]:=a35.1 (by omega)
  rw[this,a1I]
 |n+1,l,h,hp=>by
  by_cases hl:l=[]
  rw[hl,a1I];have b:=a03.2 hl;have c:l.take 8≠[]:=a03.1 (by rw[a00];omega);have a:=b0E (g:=l.take 8) (fun p f=>hp p (a09 f)) c (by rw[a00];omega);have e:=a8e n (l.drop 8) (by rw[a01];omega) (fun p f=>hp p (a33 f));rw[a2R hl,a56,a60,a6E a,e,a05,←a56,a29]
theorem a8G:∀(n:Nat)(l:List Pge),l.length≤n→(∀p∈l,PgPlain p)→(∀p∈l,a5D p)→∀q∈a0Q l,a5D q
 |0,l,h,_,_,q,f=>by
  have:l=[]:=a35.1 (by omega)
  rw[this,a1I]at f;cases f
 |n+1,l,h,hp,hh,q,f=>by
  by_cases hl:l=[]
  rw[hl,a1I]at f;cases f;have c:=a03.2 hl;have e:l.take 8≠[]:=a03.1 (by rw[a00];omega);have b:=b0E (g:=l.take 8) (fun p f=>hp p (a09 f)) e (by rw[a00];omega);rw[a2R hl]at f;rcases mA.1 f with f|f;exact hh q (a09 f);rcases mC.1 f with rfl|f;intro _ a;rw[b]at a;cases a;exact a8G n (l.drop 8) (by rw[a01];omega) (fun p f=>hp p (a33 f)) (fun p f=>hh p (a33 f)) q f
theorem a9p:∀(n:Nat)(s:Nat)(r:List Int),r.length≤n→∀p∈a1P false s r,p.2.1=false
 |0,s,r,h,p,hp=>by
  have:r=[]:=a35.1 (by omega)
  rw[this,a2k]at hp;cases hp
 |n+1,s,r,h,p,hp=>by
  by_cases hr:r=[]
  rw[hr,a2k]at hp;cases hp;have g:=a03.2 hr;rw[a2Q hr]at hp;rcases mC.1 hp with rfl|hp;rfl;exact a9p n (s+1) (r.drop 252) (by rw[a01];omega) p hp
theorem b4D{q:Pk}(g:a5O q)(s:Nat):∀p∈a1P true s (a1l q),a5D p:=by
 intro p hp h _;rw[a2Q (a7i q)]at hp;have f:=a5l q;rcases mC.1 hp with rfl|hp;refine⟨q,g,?_,?_⟩;show((a1l q).take 252).take 18=a5P q;rw[b32,b3k g,show min 18 252=18 from rfl,b57,a6D,a73,a57,a02,a30 (by rw[a6D];omega)];show 18≤((a1l q).take 252).length;rw[a00];omega;rw[a9p _ _ _ (a13 _) p hp]at h;cases h
theorem a8H:∀(l:List Pk)(s:Nat),(∀p∈l,a5O p)→∀q∈a1z s (l.map a1l),a5D q
 | [],_,_,q,hq=>by cases hq
 |p::l,s,h,q,hq=>by
  rw[a54,a1z]at hq;rcases mA.1 hq with hq|hq;exact b4D (h p (by simp)) s q hq;exact a8H l _ (fun p hp=>h p (by simp[hp])) q hq
def a0G(n:Nat):List Int:=if h:n<128 then[(n:Int)]else((n%128+128:Nat):Int)::a0G (n / 128)
termination_by n
decreasing_by omega
theorem a5Q(h:n<128):a0G n=[(n:Int)]:=by rw[a0G,dif_pos h]
theorem a6t(h:¬ n<128):a0G n=((n%128+128:Nat):Int)::a0G (n / 128):=by rw[a0G,dif_neg h]
theorem a7C:∀(k n:Nat),n<128^(k+1)→1≤(a0G n).length∧(a0G n).length≤k+1
 |0,n,h=>by rw[a5Q (by omega)];simp
 |k+1,n,h=>by
  by_cases hn:n<128
  rw[a5Q hn];simp;rw[a6t hn]
  have:=a7C k (n / 128) (by rw[a88 (by omega)];rw[a79]at h;exact h)
  simp only[lC];omega
theorem a5E:∀(k n:Nat),n<128^(k+1)→∀b∈a0G n,0≤b∧b<256
 |0,n,h,b,hb=>by rw[a5Q (by omega)]at hb;simp at hb;omega
 |k+1,n,h,b,hb=>by
  by_cases hn:n<128
  rw[a5Q hn]at hb;simp at hb;omega;rw[a6t hn]at hb;rcases mC.1 hb with rfl|hb;omega;exact a5E k (n / 128) (by rw[a88 (by omega)];rw[a79]at h;exact h) b hb
theorem b3l:∀(k n:Nat)(a:List Int)(b c:Int)(out:List Int),n<128^(k+1)→k≤8→out.length+k<1000000→
  ∃r g,y0h a4I ((n:Int),a,b,c,out,())=some (((r:Nat):Int),a,b,c,out++g,())∧a0G n=g++[(r:Int)]∧r<128
 |k,n,a,b,c,out,h,hk,ho=>by
  by_cases hn:n<128
  refine⟨n,[],?_,by rw[a5Q hn];rfl,hn⟩;rw[a1g (b:=((n:Int),a,b,c,out,())) (by
   have d:decide ((n:Int)≥128)=false:=by simp;omega
   simp only[a4I,d,cF])]
  simp
  ·cases k with
   |zero=>omega
   |succ k=>
    have p:n / 128<128^(k+1):=by rw[a88 (by omega)];rw[a79]at h;exact h
    have f:n<18446744073709551616:=by
     have:128^(k+1+1)≤128^9:=b07 (by omega) (by omega)
     have e:(128:Nat)^9=9223372036854775808:=by decide
     omega
    obtain⟨r,g,l,m,o⟩:=b3l k (n / 128) a b c (out++[((n%128+128:Nat):Int)]) p (by omega) (by simp;omega);refine⟨r,((n%128+128:Nat):Int)::g,?_,by rw[a6t hn,m];rfl,o⟩;have d:decide ((n:Int)≥128)=true:=by simp;omega
    have i:wrap .u64 (Int.tdiv (n:Int) 128)=((n / 128:Nat):Int):=by
     rw[show Int.tdiv (n:Int) 128=((n / 128:Nat):Int)from rfl];exact a4Q (by omega)
    have j:wrap .u8 (wrap .u8 (a58 (n:Int) 128)+128)=((n%128+128:Nat):Int):=by
     rw[show a58 (n:Int) 128=((n%128:Nat):Int)from rfl,b1z,b1z];omega
    rw[a1A (s':=(((n / 128:Nat):Int),a,b,c,out++[((n%128+128:Nat):Int)],())) (by
     simp only[a4I,d,cT,b4s (show out.length+1<2147483648 by omega),i,j,a20])]
    rw[l]
    simp
theorem b1S{α β γ:Type}(f:α→List γ):∀(l:List α)(a:List γ),a7u (β:=β) (fun a x=>.inl (a++f x)) l a=.inl (a++l.flatMap f)
 | [],a=>by simp[a7u]
 |x::l,a=>by simp only[a7u];rw[b1S f l];simp
def asI(ns:List Nat):List Int:=ns.map fun n:Nat=>(n:Int)
theorem a5F{ns:List Nat}(h:∀n∈ns,n<9223372036854775808)(y:ns.length≤1000):a1C (asI ns)=some (ns.flatMap a0G):=by
 have q:(asI ns).length=ns.length:=by simp[asI]
 have:=b4v (f:=a4J) (asI ns) (fun i (a:List Int)=>(asI ns,((asI ns).length:Int),(i:Int),a,())) (fun a x=>.inl (a++a0G x.toNat)) (fun i a=>a.length≤10*i) (fun a=>(a,()))
  (fun i p a u=>⟨fun v g=>by
   have l:i<ns.length:=by omega
   have s:(asI ns)[i]=((ns[i]:Nat):Int):=by simp[asI]
   have j:=h ns[i] (a19 l);have c:ns[i]<128^(8+1):=by rw[show(128:Nat)^(8+1)=9223372036854775808 from by decide];exact j
   obtain⟨r,m,t,o,w⟩:=b3l 8 ns[i] (asI ns) ((asI ns).length:Int) (i:Int) a c (a13 _) (by omega);have hv:=a7C 8 ns[i] c;rw[o]at hv;simp only[lN,lC,a06]at hv;simp only[s,tN,o,Sum.inl.injEq]at g;subst g;have e:wrap .u8 (r:Int)=(r:Int):=by rw[b1z];omega
   refine⟨?_,by simp;omega⟩;simp only[a4J,dlt p,cT,b1I p,s,oB,t,b4s (show(a++m).length+1<2147483648 by simp;omega),b0A (show i<1000000 by omega),e,a20,aA],fun b j=>by cases j⟩)
  (fun a u=>by simp only[a4J,dge,cF]) (a:=[]) (by simp)
 unfold a1C;simp only[nZ]at this;rw[this,b1S];simp[b5r,asI,List.flatMap_map]
theorem orA{a b k:Nat}(f:a<2^k)(hs:b*2^k+a<18446744073709551616):bits .u64 .or (a:Int) ((b*2^k:Nat):Int)=((a+b*2^k:Nat):Int):=by
 show wrap .u64 (((a36 64 (a:Int) ||| a36 64 ((b*2^k:Nat):Int)).toNat:Nat):Int)=_;have g:(a36 64 (a:Int)).toNat=a:=by rw[b20];omega
 have h:(a36 64 ((b*2^k:Nat):Int)).toNat=b*2^k:=by rw[b20];omega
 rw[BitVec.toNat_or,g,h];have e:a ||| b*2^k=a+b*2^k:=by
  have:=Nat.two_pow_add_eq_or_of_lt (i:=k) (b:=a) f b
  rw[Nat.or_comm,b51 b,←this,Nat.add_comm]
 rw[e];exact a4Q (by omega)
theorem b4E(h:o≤64)(hs:N*2^o<9223372036854775808):E0i .u64 (N:Int) (o:Int)=((N*2^o:Nat):Int):=by
 unfold E0i;show wrap .u64 ((N:Int)*2^(min (o:Int).toNat 64))=_;rw[tN,a61 h];have e:(N:Int)*2^o=((N*2^o:Nat):Int):=by rw[Int.natCast_mul,b66];rfl
 rw[e];exact a4Q (by omega)
theorem a8I{rest:List Int}:∀(j m i acc:Nat)(P:List Int),m<128^(j+1)→P.length=i→(i=0∨1≤m)→acc<2^(7*i)→m*2^(7*i)+acc<9223372036854775808→(P++(a0G m++rest)).length<1000000000→
  y0h a3x ((acc:Int),P++(a0G m++rest),((P++(a0G m++rest)).length:Nat),(i:Int),())=some (.inr (((acc+m*2^(7*i):Nat):Int),((i+(a0G m).length:Nat):Int),(0:Int),()))
 |j,m,i,acc,P,hj,hP,hm,ha,hs,hl=>by
  have u:i≤8:=by
   rcases hm with q|h1;omega;apply Classical.byContradiction;intro B;have y:2^(7*9)≤2^(7*i):=b07 (by omega) (by omega);have z:2^(7*i)≤m*2^(7*i):=Nat.le_mul_of_pos_left _ (by omega);have e:(2:Nat)^(7*9)=9223372036854775808:=by decide
   omega
  have a:wrap .i64 ((7:Int)*(i:Int))=((7*i:Nat):Int):=by rw[wrap64 (by omega)];omega
  have l:decide ((((7*i:Nat):Int))<0)=false:=by simp;omega
  have b:wrap .i64 ((i:Int)+1)=((i+1:Nat):Int):=b0A (by omega);have x:∀c:Nat,c<256→(i=9→False):=fun _ _ h=>by omega
  have r:((i:Int)==9)=false:=by simp;omega
  have step:∀(c:Nat)(p:List Int),c<256→a0G m=(c:Int)::p→(i=0∨c≠0)→
    a3x ((acc:Int),P++(a0G m++rest),((P++(a0G m++rest)).length:Nat),(i:Int),()) =
     bif decide ((c:Int)<128)then some (.inr (Sum.inr (bits .u64 .or (acc:Int) (E0i .u64 (wrap .u64 (a58 (c:Int) 128)) ((7*i:Nat):Int)),((i+1:Nat):Int),(0:Int),())))
     else some (.inl (bits .u64 .or (acc:Int) (E0i .u64 (wrap .u64 (a58 (c:Int) 128)) ((7*i:Nat):Int)),P++(a0G m++rest),((P++(a0G m++rest)).length:Nat),((i+1:Nat):Int),())):=fun c p s hv q=>by
   have g:i<(P++(a0G m++rest)).length:=by rw[hv];simp;omega
   have t:n0s (P++(a0G m++rest)) (i:Int)=some (c:Int):=by
    rw[b1I g];congr 1;subst hP;simp[hv]
   have v:(decide ((i:Int) > 0)=true→((c:Int)==0)=false):=fun h=>by
    simp only[dT]at h;simp only[beq_eq_false_iff_ne,ne_eq];omega
   simp only[a3x,dlt g,cT,t,oB,r,cF];cases n:decide ((i:Int) > 0)with
   |true=>simp only[cT,oB,v n,cF,a,l,b]
   |false=>simp only[oB,cF,a,l,b]
  have val:∀c:Nat,c%128*2^(7*i)+acc<9223372036854775808→bits .u64 .or (acc:Int) (E0i .u64 (wrap .u64 (a58 (c:Int) 128)) ((7*i:Nat):Int))=((acc+c%128*2^(7*i):Nat):Int):=fun c s=>by
   rw[show a58 (c:Int) 128=((c%128:Nat):Int)from rfl,a4Q (by omega),b4E (by omega) (by omega)];exact orA ha (by omega)
  by_cases hm128:m<128
  rw[a1g (step m [] (by omega) (a5Q hm128) (by omega) |>.trans (by
   have d:decide ((m:Int)<128)=true:=by simp;omega
   simp only[d,cT];rfl))]
  rw[val m (by rw[b59 hm128];exact hs),b59 hm128,a5Q hm128];rfl
  ·cases j with
   |zero=>omega
   |succ j=>
    have n:m / 128<128^(j+1):=by rw[a88 (by omega)];rw[a79]at hj;exact hj
    have f:2^(7*(i+1))=128*2^(7*i):=by rw[show 7*(i+1)=7+7*i from by omega,Nat.pow_add]
    have o:m*2^(7*i)=m%128*2^(7*i)+m / 128*2^(7*(i+1)):=by
     rw[f,←Nat.mul_assoc,←Nat.add_mul];congr 1;omega
    have A:m%128*2^(7*i)≤127*2^(7*i):=Nat.mul_le_mul_right _ (by omega);rw[a1A (step (m%128+128) (a0G (m / 128)) (by omega) (a6t hm128) (by omega) |>.trans (by
     have d:decide (((m%128+128:Nat):Int)<128)=false:=by simp;omega
     simp only[d,cF];rfl))]
    rw[val (m%128+128) (by rw[b54,Nat.mod_mod];omega),b54,Nat.mod_mod];have e:P++(a0G m++rest)=(P++[((m%128+128:Nat):Int)])++(a0G (m / 128)++rest):=by rw[a6t hm128];simp
    rw[e]at hl⊢;have w:=a8I j (m / 128) (i+1) (acc+m%128*2^(7*i)) (P++[((m%128+128:Nat):Int)]) n (by simp[hP]) (.inr (by omega)) (by rw[f];omega) (by omega) hl;rw[w,o,a6t hm128];congr 3;omega
    simp;omega
theorem b4F(h:n<9223372036854775808){rest:List Int}(g:(a0G n++rest).length<1000000000):a4K (a0G n++rest)=some ((n:Int),(((a0G n).length:Nat):Int),(0:Int)):=by
 have:=a8I (rest:=rest) 8 n 0 0 [] (by rw[show(128:Nat)^(8+1)=9223372036854775808 from by decide];exact h) rfl (.inl rfl) (by simp) (by simpa using h) g
 simp only[a05,nZ,Nat.mul_zero,Nat.pow_zero,Nat.mul_one,a74,Int.cast_ofNat_Int]at this;unfold a4K;rw[this];rfl
theorem b6f(i:n<9223372036854775808)(l:(n:Int)≤most){P R:List Int}(f:(P++(a0G n++R)).length<1000000000):
  a0I (rdr P (a0G n++R),most)=some ((n:Int),rdr (P++a0G n) R):=by
 have e:a59 (a26 (P.length:Int)) (a52 (P++(a0G n++R)).length (P++(a0G n++R)))=a0G n++R:=by
  rw[a08,tN,b01]
 have g:((0:Int) != 0)=false:=rfl;have a:decide ((0:Int)≤(P.length:Int))=true:=by simp
 have b:decide ((P.length:Int)≤((P++(a0G n++R)).length:Int))=true:=by simp;omega
 have c:decide ((n:Int) > most)=false:=by simp;omega
 have h:(a0G n++R).length<1000000000:=by rw[lN]at f;omega
 have j:wrap .i64 ((P.length:Int)+((a0G n).length:Int))=(((P++a0G n).length:Nat):Int):=by
  rw[wrap64 (by simp only[lN]at f;omega)];simp
 unfold a0I rdr;simp only[g,cF,a,b,b40,cT];rw[e,b4F i h];simp only[oB,beq_self_eq_true,cT,c,cF,g,j,aA]
theorem b4G(f:n<9223372036854775808)(g:(n:Int)≤most){P R:List Int}(h:(P++(a0G n++R)).length<1000000):
  a0I (rdr P (a0G n++R),most)=some ((n:Int),rdr (P++a0G n) R):=b6f f g (Nat.lt_trans h (by decide))
def a3N(g:Int):Nat:=if 0≤g then(2*g).toNat else(-2*g-1).toNat
theorem b4H{g:Int}(h:-100000≤g∧g≤100000):a5a g=some ((a3N g:Nat):Int):=by
 unfold a5a a3N
 by_cases hg:0≤g
 have d:decide (g≥0)=true:=by simpa using hg
 rw[d,cT,if_pos hg,a4Q (n:=g) (by omega),a4Q (by omega),b41 (by omega)];have d:decide (g≥0)=false:=by simp;omega
 rw[d,cF,if_neg hg,wrap64 (n:=g+1) (by omega),wrap64 (by omega),a4Q (n:=0-(g+1)) (by omega),a4Q (n:=2*(0-(g+1))) (by omega),a4Q (by omega),b41 (by omega)];congr 1;omega
theorem a8v{g:Int}{m:Nat}(h:-(m:Int)≤g∧g≤(m:Int)):a3N g≤2*m:=by
 unfold a3N
 split<;>omega
structure MkOk (m:Mk):Prop where
 s0:0≤m.1
 s4:m.1<4
 a0:0≤m.2.1
 a1:m.2.1≤1000
 p0:0≤m.2.2.1
 p1:m.2.2.1≤50000
def a6F:Int→Int→List Mk→List Int
 |_,_,[]=>[]
 |a,s,m::l=>(a0G m.1.toNat++(a0G (a3N (m.2.1-a))++a0G (a3N (m.2.2.1-s))))++a6F m.2.1 m.2.2.1 l
theorem b9s{x y:Nat}(g:x<1000000)(f:y<1000000)(a:z<1000000):a1C [(x:Int),(y:Int),(z:Int)]=some (a0G x++(a0G y++a0G z)):=by
 have:=a5F (ns:=[x,y,z]) (fun n h=>by simp only[mC,a65,or_false]at h;omega) (by simp)
 rw[show asI [x,y,z]=[(x:Int),(y:Int),(z:Int)]from rfl]at this;rw[this];simp only[a60,a83,a02]
theorem a8f(h:n<1000000):(a0G n).length≤3:=(a7C 2 n (by omega)).2
theorem b4I:∀(rest done:List Mk)(l:List Mk)(a s:Int)(out:List Int),done++rest=l→(∀m∈rest,MkOk m)→(0≤a∧a≤1000)→(0≤s∧s≤50000)→l.length<100000→out.length+9*rest.length<1000000→
  y0h a2X (a,s,l,((l.length:Nat):Int),((done.length:Nat):Int),out,())=some (out++a6F a s rest,())
 | [],done,l,a,s,out,he,_,_,_,_,_=>by
  rw[a02]at he;subst he;refine a1g ?_
  unfold a2X;simp only;rw[decide_eq_false (by omega),a6F,a02];rfl
 |m::rest,done,l,a,s,out,he,hm,ha,hs,hl,ho=>by
  have h:l.length=done.length+(rest.length+1):=by rw[←he,lN,lC]
  obtain⟨e,i,j,o,p,q⟩:=hm m (by simp);rw[lC]at ho;have b:n0s l ((done.length:Nat):Int)=some m:=by
   rw[a0F (by omega)];congr 1;subst he;rw[a67 (a13 _)]
   simp
  have v:a3N (m.2.1-a)≤2000:=a8v (m:=1000) (by omega);have w:a3N (m.2.2.1-s)≤100000:=a8v (m:=50000) (by omega);have r:=a8f (n:=m.1.toNat) (by omega);have t:=a8f (n:=a3N (m.2.1-a)) (by omega);have u:=a8f (n:=a3N (m.2.2.1-s)) (by omega);have g:wrap .u64 m.1=((m.1.toNat:Nat):Int):=by
   have:=a3v (n:=m.1.toNat) (by omega)
   rwa [show((m.1.toNat:Nat):Int)=m.1 by omega]at this⊢
  have hp:=b9s (x:=m.1.toNat) (y:=a3N (m.2.1-a)) (z:=a3N (m.2.2.1-s)) (by omega) (by omega) (by omega);have step:a2X (a,s,l,((l.length:Nat):Int),((done.length:Nat):Int),out,())=some (.inl (m.2.1,m.2.2.1,l,((l.length:Nat):Int),(((done++[m]).length:Nat):Int),out++(a0G m.1.toNat++(a0G (a3N (m.2.1-a))++a0G (a3N (m.2.2.1-s)))),())):=by
   unfold a2X;simp only;rw[decide_eq_true (show((done.length:Nat):Int)<((l.length:Nat):Int)by omega),b];simp only[cT,oB];rw[w64 (n:=m.2.1-a) (by omega),b4H (by omega)];simp only[oB];rw[w64 (n:=m.2.2.1-s) (by omega),b4H (by omega)];simp only[oB];rw[g,hp];simp only[oB];rw[a0A (by simp only[lN];omega),w64 (by omega),lN];rfl
  rw[a1A step,b4I rest (done++[m]) l m.2.1 m.2.2.1 _ (by rw[←he,aA];rfl) (fun c f=>hm c (by simp[f])) (by omega) (by omega) hl (by simp only[lN];omega)];rw[a6F,aA]
theorem a8Q:∀(l:List Mk)(a s:Int),(∀m∈l,MkOk m)→(0≤a∧a≤1000)→(0≤s∧s≤50000)→(a6F a s l).length≤9*l.length
 | [],_,_,_,_,_=>by simp[a6F]
 |m::l,a,s,hm,ha,hs=>by
  obtain⟨f,b,e,i,j,o⟩:=hm m (by simp);have g:=a8Q l m.2.1 m.2.2.1 (fun c h=>hm c (by simp[h])) (by omega) (by omega);have t:a3N (m.2.1-a)≤2000:=a8v (m:=1000) (by omega);have u:a3N (m.2.2.1-s)≤100000:=a8v (m:=50000) (by omega);have p:=a8f (n:=m.1.toNat) (by omega);have q:=a8f (n:=a3N (m.2.1-a)) (by omega);have r:=a8f (n:=a3N (m.2.2.1-s)) (by omega);rw[a6F];simp only[lN,lC];omega
def a5G(l:List Mk):List Int:=a0G l.length++a6F 0 0 l
def a7b(l:List Mk):List Int:=a5G l++a0P (a0V (a5G l)).toNat 4
theorem b7l{x:Nat}(g:x<1000000):a1C [(x:Int)]=some (a0G x):=by
 have:=a5F (ns:=[x]) (fun n h=>by simp only[mC,a65,or_false]at h;omega) (by simp)
 rw[show asI [x]=[(x:Int)]from rfl]at this;rw[this];simp only[a60,a83,a02]
theorem b1T{l:List Mk}(h:∀m∈l,MkOk m)(t:l.length<50000):a3Z l=some (a7b l,0):=by
 have x:=a8f (n:=l.length) (by omega);have e:=a8Q l 0 0 h (by omega) (by omega);have a:(a5G l).length≤3+9*l.length:=by rw[a5G,lN];omega
 obtain⟨c,u,w⟩:=a7j (l:=a5G l) (by omega);have hs:wrap .u64 (a0V (a5G l))=(((a0V (a5G l)).toNat:Nat):Int):=by
  have:=a3v (n:=(a0V (a5G l)).toNat) (by omega)
  rwa [show(((a0V (a5G l)).toNat:Nat):Int)=a0V (a5G l)by omega]at this⊢
 have b2:=a6A (n:=(a0V (a5G l)).toNat) (k:=4) (by omega) (by omega);rw[show((4:Nat):Int)=4 from rfl]at b2;have b:=b4I l [] l 0 0 (a0G l.length) rfl h (by omega) (by omega) (by omega) (by omega);unfold a3Z;refine a0E (v:=.inl (l,())) ?_ ?_
 refine a0D (f:=a3T) (fun i=>(l,l,((l.length:Nat):Int),(i:Int),())) l.length (fun i g=>?_) ?_
 unfold a3T;simp only;obtain⟨j,o,p,q,r,s⟩:=h l[i] (a19 g);rw[decide_eq_true (show(i:Int)<((l.length:Nat):Int)by omega),a0F g];simp only[cT,oB,a3S];rw[decide_eq_false (show ¬ (l[i]).1<0 by omega),decide_eq_false (show ¬ (l[i]).1≥4 by omega),decide_eq_true (show(l[i]).2.1≥0 by omega),decide_eq_true (show(l[i]).2.1≤1125899906842624 by omega),decide_eq_true (show(l[i]).2.2.1≥0 by omega),decide_eq_true (show(l[i]).2.2.1≤2147483647 by omega)];simp only[cT,cF,oB,bT];rw[w64 (by omega)];rfl;unfold a3T;simp only;rw[decide_eq_false (by omega)];rfl;simp only;rw[a3v (by omega),b7l (by omega)];simp only[oB];refine a0E b ?_
 simp only;rw[show a0G l.length++a6F 0 0 l=a5G l from rfl];simp only[c,oB,hs,b2,a0O];rw[a0A (by omega)];rfl
def a4i(l:List Int):List Int:=l.flatMap fun c=>[wrap .u8 (96+E0j .u8 c 4),wrap .u8 (96+bits .u8 .and c 15)]
theorem a7D(l:List Int):(a4i l).length=2*l.length:=by
 induction l with
 |nil=>rfl
 |cons a l ih=>
  have e:a4i (a::l)=[_,_]++a4i l:=rfl;rw[e,lN,ih,lC];simp only[lC,a06];omega
def a4S(l:List Mk):List Int:=a4i (a7b l)++(a0P (2*(a7b l).length) 4++[75,69,78,68])
theorem a8R{l:List Mk}(h:∀m∈l,MkOk m)(f:l.length<50000):(a7b l).length≤7+9*l.length:=by
 have a:=a8f (n:=l.length) (by omega);have g:=a8Q l 0 0 h (by omega) (by omega);rw[a7b,lN,a0O,a5G,lN];omega
theorem b6g(h:∀p∈l,PgOk p∧a5D p)(r:l.length<50000)(j:∀m∈l.flatMap a1e,MkOk m):a4a l=some (a4S (l.flatMap a1e),0):=by
 have s:=a6S l;have q:=a8R j (by omega);unfold a4a;rw[b7Q h (by omega)];simp only[oB];rw[b1T j (by omega)];simp only[oB,bne_self_eq_false,cF];unfold a4S;generalize a7b (l.flatMap a1e)=b at q;have g:=a7D b
 have:=a0D (f:=a3U) (fun i=>(((b.length:Nat):Int),(i:Int),a4i (b.take i),b,())) b.length (b:=(a4i b,())) (fun i c=>?_) ?_
 refine a0E this ?_
 simp only;have e:wrap .u64 (((a4i b).length:Nat):Int)=((2*b.length:Nat):Int):=by rw[g];exact a3v (by omega)
 have b2:=a6A (n:=2*b.length) (k:=4) (by omega) (by omega);rw[show((4:Nat):Int)=4 from rfl]at b2;rw[e,b2];simp only[oB,a0O,g,a20,lN];rw[a0A (by omega),a0A (by omega)];simp only[cT,aA];unfold a3U;simp only;have e:a4i (b.take (i+1))=a4i (b.take i)++[wrap .u8 (96+E0j .u8 b[i] 4),wrap .u8 (96+bits .u8 .and b[i] 15)]:=by
  unfold a4i;rw[a04 c,a56,a49]
 have o:a37 b (a26 (i:Int)) 0=b[i]:=by rw[tN,lD,lG c];rfl
 have a:=a7D (b.take i);rw[a00]at a;rw[decide_eq_true (show(i:Int)<((b.length:Nat):Int)by omega),decide_eq_true (show(0:Int)≤(i:Int)by omega),o,a0A (by omega),e,w64 (by omega)];rfl;unfold a3U;simp only;rw[decide_eq_false (by omega),a08];rfl
def a1Q(i:Inf):List Int:=
 (a0G i.1.toNat++(a0G i.2.1.1.toNat++a0G i.2.1.2.1.toNat))++(bif i.1==1 then(a0G i.2.2.1.1.toNat++(a0G i.2.2.1.2.1.toNat++a0G i.2.2.1.2.2.1.toNat))
  else(a0G i.2.2.2.1.toNat++(a0G i.2.2.2.2.1.toNat++(a0G i.2.2.2.2.2.1.toNat++a0G i.2.2.2.2.2.2.1.toNat))))
def a0X(a:List Inf):List Int:=[75,73,78,79,82,65]++(a0G a.length++a.flatMap a1Q)
def a1q(a:List Inf):List Int:=a0X a++a0P (a0V (a0X a)).toNat 4
theorem b9t{x y w:Nat}(f:x<1000000)(a:y<1000000)(b:z<1000000)(g:w<1000000):a1C [(x:Int),(y:Int),(z:Int),(w:Int)]=some (a0G x++(a0G y++(a0G z++a0G w))):=by
 have:=a5F (ns:=[x,y,z,w]) (fun n h=>by simp only[mC,a65,or_false]at h;omega) (by simp)
 rw[show asI [x,y,z,w]=[(x:Int),(y:Int),(z:Int),(w:Int)]from rfl]at this;rw[this];simp only[a60,a83,a02]
theorem b3T{x y:Nat}(g:x<2000000)(f:y<2000000)(a:z<2000000):a1C [(x:Int),(y:Int),(z:Int)]=some (a0G x++(a0G y++a0G z)):=by
 have:=a5F (ns:=[x,y,z]) (fun n h=>by simp only[mC,a65,or_false]at h;omega) (by simp)
 rw[show asI [x,y,z]=[(x:Int),(y:Int),(z:Int)]from rfl]at this;rw[this];simp only[a60,a83,a02]
theorem a1f(h:n<2000000):(a0G n).length≤3:=(a7C 2 n (by omega)).2
theorem wuI{z:Int}(h:0≤z)(g:z<2000000):wrap .u64 z=((z.toNat:Nat):Int):=by
 have:=a3v (n:=z.toNat) (by omega)
 rwa [show((z.toNat:Nat):Int)=z by omega]at this⊢
theorem b1U{i:Inf}(h:InfOk i):(a1Q i).length≤21:=by
 cases h with
 |sound n d r c b hn hd hr hc hb=>
  have g:=a1f (n:=(1:Int).toNat) (by decide);have f:=a1f (n:=n.toNat) (by omega);have a:=a1f (n:=d.toNat) (by omega);have j:=a1f (n:=r.toNat) (by omega);have l:=a1f (n:=c.toNat) (by omega);have m:=a1f (n:=b.toNat) (by omega);unfold a1Q;simp only[beq_self_eq_true,cT,lN];omega
 |images n d w h e p hn hd hw hh he hp=>
  have g:=a1f (n:=(2:Int).toNat) (by decide);have f:=a1f (n:=n.toNat) (by omega);have a:=a1f (n:=d.toNat) (by omega);have j:=a1f (n:=w.toNat) (by omega);have l:=a1f (n:=h.toNat) (by omega);have m:=a1f (n:=e.toNat) (by omega);have o:=a1f (n:=p.toNat) (by omega);unfold a1Q;rw[show((2:Int)==1)=false by decide];simp only[cF,lN];omega
theorem b4J{n:Int}{k:Nat}{out:List Int}(l:k<a.length)(j:n=((a.length:Nat):Int))(f:InfOk a[k])(x:out.length<100000)(v:a.length<1000):
  a2Y (a,n,(k:Int),out,())=some (.inl (a,n,((k+1:Nat):Int),out++a1Q a[k],())):=by
 unfold a2Y;simp only;rw[decide_eq_true (show(k:Int)<n by omega),a0F l,w64 (n:=(k:Int)+1) (by omega)];simp only[cT,oB];generalize a[k]=i at f;cases f with
 |sound n d r c b j hd hr hc hb=>
  have m:=a1f (n:=(1:Int).toNat) (by decide);have o:=a1f (n:=n.toNat) (by omega);have q:=a1f (n:=d.toNat) (by omega);have s:=a1f (n:=r.toNat) (by omega);have t:=a1f (n:=c.toNat) (by omega);have u:=a1f (n:=b.toNat) (by omega);simp only;rw[wuI (z:=1) (by decide) (by decide),wuI (z:=n) (by omega) (by omega),wuI (z:=d) (by omega) (by omega),wuI (z:=r) (by omega) (by omega),wuI (z:=c) (by omega) (by omega),wuI (z:=b) (by omega) (by omega)];rw[b3T (by decide) (by omega) (by omega),b3T (by omega) (by omega) (by omega)];simp only[oB,beq_self_eq_true,cT,a20,lN];rw[a0A (by omega),a0A (by omega)];simp only[cT,a1Q,beq_self_eq_true,aA];rfl
 |images n d w h e p j hd hw hh he hp=>
  have m:=a1f (n:=(2:Int).toNat) (by decide);have o:=a1f (n:=n.toNat) (by omega);have q:=a1f (n:=d.toNat) (by omega);have s:=a1f (n:=w.toNat) (by omega);have t:=a1f (n:=h.toNat) (by omega);have u:=a1f (n:=e.toNat) (by omega);have y:=a1f (n:=p.toNat) (by omega);simp only;rw[wuI (z:=2) (by decide) (by decide),wuI (z:=n) (by omega) (by omega),wuI (z:=d) (by omega) (by omega),wuI (z:=w) (by omega) (by omega),wuI (z:=h) (by omega) (by omega),wuI (z:=e) (by omega) (by omega),wuI (z:=p) (by omega) (by omega)];rw[b3T (by decide) (by omega) (by omega),b9t (by omega) (by omega) (by omega) (by omega)];have g:((2:Int)==1)=false:=by decide
  simp only[oB,g,cF,cT,a20,lN];rw[a0A (by omega),a0A (by omega)];simp only[cT,cF,a1Q,g,aA];rfl
theorem a6G:∀(a:List Inf),(∀i∈a,InfOk i)→(a.flatMap a1Q).length≤21*a.length
 | [],_=>by simp
 |i::a,h=>by
  have f:=b1U (h i (by simp));have b:=a6G a fun j g=>h j (by simp[g]);rw[a60,lN,lC];omega
theorem b3m(h:∀i∈a,InfOk i)(q:a.length≤4):a3d a=some (a1q a):=by
 have u:=a1f (n:=a.length) (by omega);have r:=a6G a h;have c:(a0X a).length≤93:=by
  simp only[a0X,lN,lC,a06];omega
 obtain⟨o,s,t⟩:=a7j (l:=a0X a) (by omega);have hs:wrap .u64 (a0V (a0X a))=(((a0V (a0X a)).toNat:Nat):Int):=by
  have:=a3v (n:=(a0V (a0X a)).toNat) (by omega)
  rwa [show(((a0V (a0X a)).toNat:Nat):Int)=a0V (a0X a)by omega]at this⊢
 have b2:=a6A (n:=(a0V (a0X a)).toNat) (k:=4) (by omega) (by omega);rw[show((4:Nat):Int)=4 from rfl]at b2;unfold a3d;rw[a3v (by omega),b7l (by omega)];simp only[oB];rw[a0A (by omega)];simp only[cT]
 have:=a0D (f:=a2Y) (fun k=>(a,((a.length:Nat):Int),(k:Int),[75,73,78,79,82,65]++(a0G a.length++(a.take k).flatMap a1Q),())) a.length (b:=(a0X a,())) (fun k g=>?_) ?_
 rw[a57,a83,a02]at this;refine a0E this ?_
 simp only[o,oB,hs,b2,a0O];rw[a0A (by omega)];rfl;have e:=a6G (a.take k) fun j m=>h j (a09 m);rw[a00]at e;have p:=b4J (a:=a) (n:=((a.length:Nat):Int)) (k:=k) (out:=[75,73,78,79,82,65]++(a0G a.length++(a.take k).flatMap a1Q)) g rfl (h _ (a19 g)) (by simp only[lN,lC,a06];omega) (by omega);rw[p,a04 g,a56,a49];simp only[aA];unfold a2Y;simp only;rw[decide_eq_false (by omega),a08];rfl
theorem wI{z:Int}(h:0≤z)(g:z<2000000):wrap .i64 ((z.toNat:Nat):Int)=z:=by rw[w64 (by omega)];omega
theorem a5R{z:Int}(g:0≤z)(f:z<2000000)(a:z≤most){P R:List Int}(h:(P++(a0G z.toNat++R)).length<1000000):
  a0I (rdr P (a0G z.toNat++R),most)=some (((z.toNat:Nat):Int),rdr (P++a0G z.toNat) R):=b4G (by omega) (by omega) h
theorem b6h{i:Inf}(h:InfOk i){P R:List Int}(g:(P++(a1Q i++R)).length<900000):a5b (rdr P (a1Q i++R))=some (i,rdr (P++a1Q i) R):=by
 have a:=b1U h;simp only[lN]at g;cases h with
 |sound n d r c b hn hd hr hc hb=>
  have l:=a1f (n:=(1:Int).toNat) (by decide);have m:=a1f (n:=n.toNat) (by omega);have o:=a1f (n:=d.toNat) (by omega);have q:=a1f (n:=r.toNat) (by omega);have s:=a1f (n:=c.toNat) (by omega);have t:=a1f (n:=b.toNat) (by omega);have e:a1Q (1,(n,d,()),(r,c,b,()),0,0,0,0,())=a0G (1:Int).toNat++(a0G n.toNat++(a0G d.toNat++(a0G r.toNat++(a0G c.toNat++a0G b.toNat)))):=by
   unfold a1Q;simp only[beq_self_eq_true,cT,aA]
  rw[e]at g⊢;simp only[lN]at g;simp only[aA];unfold a5b;rw[a5R (z:=1) (by decide) (by decide) (by decide) (by simp only[lN];omega)];simp only[oB];rw[a5R (z:=n) (by omega) (by omega) (by omega) (by simp only[lN];omega)];simp only[oB];rw[a5R (z:=d) (by omega) (by omega) (by omega) (by simp only[lN];omega)];simp only[oB];rw[wI (z:=1) (by decide) (by decide)];simp only[beq_self_eq_true,cT];rw[a5R (z:=r) (by omega) (by omega) (by omega) (by simp only[lN];omega)];simp only[oB];rw[a5R (z:=c) (by omega) (by omega) (by omega) (by simp only[lN];omega)];simp only[oB];rw[a5R (z:=b) (by omega) (by omega) (by omega) (by simp only[lN];omega)];simp only[oB];rw[wI (z:=n) (by omega) (by omega),wI (z:=d) (by omega) (by omega),wI (z:=r) (by omega) (by omega),wI (z:=c) (by omega) (by omega),wI (z:=b) (by omega) (by omega)];simp only[aA]
 |images n d w h e p hn hd hw hh he hp=>
  have l:=a1f (n:=(2:Int).toNat) (by decide);have m:=a1f (n:=n.toNat) (by omega);have o:=a1f (n:=d.toNat) (by omega);have q:=a1f (n:=w.toNat) (by omega);have s:=a1f (n:=h.toNat) (by omega);have t:=a1f (n:=e.toNat) (by omega);have u:=a1f (n:=p.toNat) (by omega);have f:((2:Int)==1)=false:=by decide
  have j:a1Q (2,(n,d,()),(0,0,0,()),w,h,e,p,())=a0G (2:Int).toNat++(a0G n.toNat++(a0G d.toNat++(a0G w.toNat++(a0G h.toNat++(a0G e.toNat++a0G p.toNat))))):=by
   unfold a1Q;simp only[f,cF,aA]
  rw[j]at g⊢;simp only[lN]at g;simp only[aA];unfold a5b;rw[a5R (z:=2) (by decide) (by decide) (by decide) (by simp only[lN];omega)];simp only[oB];rw[a5R (z:=n) (by omega) (by omega) (by omega) (by simp only[lN];omega)];simp only[oB];rw[a5R (z:=d) (by omega) (by omega) (by omega) (by simp only[lN];omega)];simp only[oB];rw[wI (z:=2) (by decide) (by decide)];simp only[f,cF];rw[a5R (z:=w) (by omega) (by omega) (by omega) (by simp only[lN];omega)];simp only[oB];rw[a5R (z:=h) (by omega) (by omega) (by omega) (by simp only[lN];omega)];simp only[oB];rw[a5R (z:=e) (by omega) (by omega) (by omega) (by simp only[lN];omega)];simp only[oB];rw[a5R (z:=p) (by omega) (by omega) (by omega) (by simp only[lN];omega)];simp only[oB];rw[wI (z:=n) (by omega) (by omega),wI (z:=d) (by omega) (by omega),wI (z:=w) (by omega) (by omega),wI (z:=h) (by omega) (by omega),wI (z:=e) (by omega) (by omega),wI (z:=p) (by omega) (by omega)];simp only[aA]
theorem a9q{x:List Int}:∀(rest:List Inf)(out:List Inf)(P R:List Int),(∀i∈rest,InfOk i)→(P++(rest.flatMap a1Q++R)).length<800000→out.length+rest.length<100→
  y0h a3I (x,((rest.length:Nat):Int),out,rdr P (rest.flatMap a1Q++R),())=some (x,out++rest,rdr (P++rest.flatMap a1Q) R,())
 | [],out,P,R,_,_,_=>by
  refine a1g ?_
  unfold a3I;simp only;rw[decide_eq_false (by simp)];simp only[cF,a02,a83,a05]
 |i::rest,out,P,R,h,hl,ho=>by
  rw[a60]at hl⊢;rw[lC]at ho;have g:=hl;simp only[lN]at g;have step:a3I (x,(((i::rest).length:Nat):Int),out,rdr P ((a1Q i++rest.flatMap a1Q)++R),())=some (.inl (x,((rest.length:Nat):Int),out++[i],rdr (P++a1Q i) (rest.flatMap a1Q++R),())):=by
   unfold a3I;simp only;rw[decide_eq_true (show(((i::rest).length:Nat):Int) > 0 by simp only[lC];omega),aA,b6h (h i (by simp)) (by simp only[lN];omega)];simp only[cT,oB];have w:wrap .u64 ((((i::rest).length:Nat):Int)-1)=((rest.length:Nat):Int):=by
    rw[show(((i::rest).length:Nat):Int)-1=((rest.length:Nat):Int)by simp only[lC];omega];exact a3v (by omega)
   rw[a0A (by omega),w];rfl
  rw[a1A step,a9q rest (out++[i]) (P++a1Q i) R (fun j f=>h j (by simp[f])) (by simp only[lN];omega) (by simp only[lN,a07];omega)];simp only[aA,a47]
theorem b6i{x:List Int}{r:List Int×(Int×Int×Unit)}(h:∀i∈a,InfOk i)(c:a.length<1000):y0h a3J (x,((a.length:Nat):Int),(0:Int),a,r,())=some (.inl (x,a,r,())):=by
 refine a0D (f:=a3J) (fun i=>(x,((a.length:Nat):Int),(i:Int),a,r,())) a.length (fun i g=>?_) ?_
 unfold a3J;simp only;have b:∀z,a37 a (a26 (i:Int)) z=a[i]:=fun z=>by rw[tN,lD,lG g];rfl
 rw[decide_eq_true (show(i:Int)<((a.length:Nat):Int)by omega),decide_eq_true (show(0:Int)≤(i:Int)by omega),b,b4A (h _ (a19 g))];simp only[cT,a23,oB,bT,cF];rw[w64 (by omega)];rfl;unfold a3J;simp only;rw[decide_eq_false (by omega)];rfl
theorem b1V{R:List Int}(h:∀i∈a,InfOk i)(u:1≤a.length)(v:a.length≤4)(y:R.length<500000):a2n (a1q a++R)=some (a,(((a1q a).length:Nat):Int),0):=by
 have D:=a1f (n:=a.length) (by omega);have z:=a6G a h;have w:(a0X a).length=6+((a0G a.length).length+(a.flatMap a1Q).length):=by
  simp only[a0X,lN,lC,a06]
 have f:(a1q a).length=(a0X a).length+4:=by rw[a1q,lN,a0O]
 obtain⟨s,B,C⟩:=a7j (l:=a0X a) (by omega);have e:a1q a++R=[75,73,78,79,82,65]++(a0G a.length++(a.flatMap a1Q++(a0P (a0V (a0X a)).toNat 4++R))):=by
  simp only[a1q,a0X,aA]
 have b:(a1q a++R).length=(a0X a).length+4+R.length:=by rw[lN,f]
 unfold a2n;rw[b,decide_eq_false (show ¬ (((a0X a).length+4+R.length:Nat):Int)<6 by omega),decide_eq_true (show(6:Int)≤(((a0X a).length+4+R.length:Nat):Int)by omega)];have p:a52 6 (a1q a++R)=[75,73,78,79,82,65]:=by rw[e];rfl
 have m:(b2s ([75,73,78,79,82,65]:List Int) != ([75,73,78,79,82,65]:List Int))=false:=by decide
 rw[p,m,a9o (by omega)];simp only[cF,cT,oB];rw[e];have c:=b3j (P:=[]) (A:=[75,73,78,79,82,65]) (R:=a0G a.length++(a.flatMap a1Q++(a0P (a0V (a0X a)).toNat 4++R))) (by rw[a05,←e,b];omega);rw[show((([75,73,78,79,82,65]:List Int).length:Nat):Int)=6 from rfl]at c;rw[c];simp only[oB];rw[b4G (n:=a.length) (by omega) (by omega) (by simp only[lN,a0O,lC,a06];omega)];simp only[oB];have r:=a9q (x:=[75,73,78,79,82,65]++(a0G a.length++(a.flatMap a1Q++(a0P (a0V (a0X a)).toNat 4++R)))) a [] ([]++[75,73,78,79,82,65]++a0G a.length) (a0P (a0V (a0X a)).toNat 4++R) h (by simp only[lN,a0O,lC,a06];omega) (by simp only[a06];omega);refine a0E r ?_
 have o:[]++[75,73,78,79,82,65]++a0G a.length++a.flatMap a1Q=a0X a:=by simp only[a0X,aA,a05]
 rw[o];simp only[a05,a2r,rdr,oB,bne_self_eq_false,cF];have q:(((a.length:Nat):Int)==0)=false:=by rw[beq_eq_false_iff_ne];omega
 rw[q];simp only[cF];refine a0E (b6i h (by omega)) ?_
 simp only[a1L,a3y,oB];have g:=a6C (P:=a0X a) (R:=R) (n:=(a0V (a0X a)).toNat) (k:=4) (by omega) (by rw[show 256^4=4294967296 by decide];omega) (by simp only[lN,a0O];omega);simp only[rdr]at g;rw[show((4:Nat):Int)=4 from rfl]at g;have hs:wrap .u64 (a0V (a0X a))=(((a0V (a0X a)).toNat:Nat):Int):=by
  have:=a3v (n:=(a0V (a0X a)).toNat) (by omega)
  rwa [show(((a0V (a0X a)).toNat:Nat):Int)=a0V (a0X a)by omega]at this⊢
 have t:wrap .i64 (((a0X a++(a0P (a0V (a0X a)).toNat 4++R)).length:Int)-(((a0X a).length:Nat):Int))=((4+R.length:Nat):Int):=by
  rw[w64 (by simp only[lN,a0O];omega)];simp only[lN,a0O];omega
 have j:[75,73,78,79,82,65]++(a0G a.length++(a.flatMap a1Q++(a0P (a0V (a0X a)).toNat 4++R)))=a0X a++(a0P (a0V (a0X a)).toNat 4++R):=by simp only[a0X,aA]
 rw[t,j,decide_eq_false (show ¬ ((4+R.length:Nat):Int)<4 by omega),decide_eq_true (show(0:Int)≤(((a0X a).length:Nat):Int)by omega),decide_eq_true (show(((a0X a).length:Nat):Int)≤(((a0X a++(a0P (a0V (a0X a)).toNat 4++R)).length:Nat):Int)by simp only[lN];omega),tN,b14];simp only[cF,cT,a23,s,oB,g,hs,bne_self_eq_false];rw[lN,a0O,f]
structure Drawn (n:Nat) (a:List Inf) (L:List (List Pk)):Prop where
 len:a.length=L.length
 inf:∀i∈a,InfOk i
 str:StrOk n L
structure Woven (Z:List Pk):Prop where
 pk:∀p∈Z,a5O p
 len:Z.length≤32
 asc:Asc Z
def a0J(Z:List Pk):List Pge:=a1z 0 (Z.map a1l)
theorem b1W(h:Woven Z):∀b∈Z.map a1l,b.length≤918:=by
 intro b g;obtain⟨p,hp,rfl⟩:=b52.1 g;obtain⟨s,hs,_⟩:=h.pk p hp
 have:=hs.dat
 rw[a5l];omega
theorem a5q(h:Woven Z):(a0J Z).length≤29376:=by
 have:=a9j (Z.map a1l) 0 918 (b1W h)
 rw[a42]at this;have g:=h.len;unfold a0J;omega
theorem a7E(h:Woven Z):∀(i:Nat)(p:Pge),(a0J Z)[i]?=some p→p.1=(i:Int)∧PgPlain p:=by
 intro i p hp;have f:=h.len
 have:=b0C (Z.map a1l) 0 (fun b g=>Nat.le_trans (b1W h b g) (by decide)) (by rw[a42];omega) i p hp
 rw[a74]at this;exact this
theorem a5e(h:Woven Z):∀p∈a0J Z,PgPlain p:=by
 intro p hp;obtain⟨i,g⟩:=a41 hp;exact(a7E h i p g).2
theorem b4K(h:Woven Z):b3R (a0J Z):=fun i p hp=>(a7E h i p hp).1
theorem a7F(h:Woven Z):∀p∈a0J Z,a5D p:=a8H Z 0 h.pk
theorem b4L(h:Woven Z):∀p∈a0J Z,0≤p.1∧p.1≤50000:=by
 intro p hp;obtain⟨i,g⟩:=a41 hp;have f:=(a7E h i p g).1;have a:=(lS.1 g).1;have b:=a5q h;omega
theorem b5B(i:∀p∈P,a5D p)(j:∀p∈P,0≤p.1∧p.1≤50000):∀m∈P.flatMap a1e,MkOk m:=by
 intro m h;obtain⟨p,hp,h⟩:=b60.1 h
 by_cases f:p.2.1=true
 ·by_cases g:p.2.2.2.1=true
  rw[a6E g]at h;cases h
  ·have g:p.2.2.2.1=false:=by simpa using g
   obtain⟨q,⟨s,a,b,c⟩,e,_⟩:=i p hp f g;rw[a7a f g ⟨s,a,b,c⟩ e]at h;cases hk:q.2.2.2.1 with
   |false=>rw[hk]at h;cases h
   |true=>
    rw[hk]at h;have h:=a16.1 (show m∈[(q.1,q.2.1,p.1,())]from h);subst h;obtain⟨l,n⟩:=j p hp;exact⟨by rw[a.st];exact b,by rw[a.st];exact c,a.at0,a.at1,l,n⟩
 have f:p.2.1=false:=by simpa using f
 have e:a1e p=[]:=by unfold a1e;rw[f];rfl
 rw[e]at h;cases h
def a7m(Z:List Pk):List Int:=a0K (a0Q (a0J Z))
def a8w(a:List Inf)(Z:List Pk):List Int:=a1q a++(a7m Z++a4S ((a0J Z).flatMap a1e))
theorem b1X(h:Woven Z):a3G (a0J Z)=some (a0Q (a0J Z),0):=b4C (a5e h) (b4K h) (by have:=a5q h;omega)
theorem a9r(h:Woven Z):∀q∈a0Q (a0J Z),PgOk q:=a9m _ _ (a13 _) (a5e h)
theorem b1Y(h:Woven Z):(a0Q (a0J Z)).length≤58752:=by
 have:=a5C _ _ (a13 (a0J Z).length)
 have:=a5q h
 omega
theorem b1Z:∀(n:Nat)(f:Bool)(s:Nat)(r:List Int),r.length≤252*n→(a1P f s r).length≤n
 |0,f,s,r,h=>by
  have:r=[]:=a35.1 (by omega)
  subst this;rw[a2k];exact a13 _
 |n+1,f,s,r,h=>by
  by_cases hr:r=[]
  subst hr;rw[a2k];exact Nat.zero_le _;rw[a2Q hr,lC]
  have:=b1Z n false (s+1) (r.drop 252) (by rw[a01];omega)
  omega
theorem a9s:∀(bs:List (List Int)) (s:Nat),(∀b∈bs,b.length≤918)→(a1z s bs).length≤4*bs.length
 | [],s,_=>by simp[a1z]
 |b::bs,s,h=>by
  have f:=b1Z 4 true s b (by have:=h b (by simp);omega);have a:=a9s bs (s+(a1P true s b).length) fun c g=>h c (by simp[g]);rw[a1z,lN,lC];omega
theorem a8g(h:Woven Z):(a0J Z).length≤128:=by
 have:=a9s (Z.map a1l) 0 (b1W h)
 rw[a42]at this
 have:=h.len
 unfold a0J;omega
theorem a8S(h:Woven Z):(a7m Z).length≤68352:=by
 have g:=a6p _ (a9r h);have f:=a5C _ _ (a13 (a0J Z).length);have a:=a8g h;unfold a7m;omega
theorem b6j(h:Woven Z):∀q∈a0Q (a0J Z),a5D q:=a8G _ _ (a13 _) (a5e h) (a7F h)
theorem b5C(h:Woven Z):(a0Q (a0J Z)).flatMap a1e=(a0J Z).flatMap a1e:=a8e _ _ (a13 _) (a5e h)
theorem a7G(h:Woven Z):∀m∈(a0J Z).flatMap a1e,MkOk m:=b5B (a7F h) (b4L h)
theorem b2a(h:Woven Z):((a0J Z).flatMap a1e).length≤128:=Nat.le_trans (a6S _) (a8g h)
theorem b3U(h:Woven Z):a4a (a0Q (a0J Z))=some (a4S ((a0J Z).flatMap a1e),0):=by
 have e:=b5C h;rw[←e];refine b6g (fun p hp=>⟨a9r h p hp,b6j h p hp⟩) ?_ ?_
 have:=a5C _ _ (a13 (a0J Z).length)
 have:=a8g h
 omega;rw[e];exact a7G h
theorem a8T(h:Woven Z):(a4S ((a0J Z).flatMap a1e)).length≤2400:=by
 have g:=a8R (a7G h) (by have:=b2a h;omega);have f:=b2a h;rw[a4S,lN,a7D,lN,a0O];simp only[lC,a06];omega
theorem Drawn.weave(h:Drawn n a L)(b:n≤8):∃Z,a3t L=some (Z,0)∧Woven Z∧Stb L.flatten Z:=by
 obtain⟨Z,c,e,g⟩:=b5v h.str b;refine⟨Z,c,⟨fun p hp=>?_,?_,e⟩,g⟩;have hp:=(g.perm.mem_iff).1 hp;obtain⟨l,j,hp⟩:=b25.1 hp;obtain⟨i,f⟩:=a41 j
 have:=(lS.1 f).1
 have:=h.str.four
 exact⟨(i:Int),(h.str.ok i l f).ok p hp,by omega,by omega⟩;rw[g.perm.length_eq]
 have:=a7z h.str.lens
 have:=h.str.four
 have:n*L.length≤8*4:=b33 b this
 omega
theorem b4M(h:∀i∈a,InfOk i)(g:a.length≤4):(a1q a).length≤200:=by
 have b:=a1f (n:=a.length) (by omega);have f:=a6G a h;rw[a1q,lN,a0O,a0X,lN,lN];simp only[lC,a06];omega
theorem a8J(h:Woven Z):a3E (Z,0)=some (a0J Z,0):=b5w h.pk (by have:=h.len;omega)
theorem b4N(h:∀i∈a,InfOk i)(c:a.length<1000):y0h a3k (a,L,a,((a.length:Nat):Int),(0:Int),())=some (.inl (a,L,())):=by
 have:=a0D (f:=a3k) (fun i=>(a,L,a,((a.length:Nat):Int),(i:Int),())) a.length (b:=.inl (a,L,())) (fun i g=>?_) ?_
 exact this;unfold a3k;simp only;rw[decide_eq_true (show(i:Int)<((a.length:Nat):Int)by omega),a0F g];simp only[cT,oB,b4A (h _ (a19 g)),bT,cF];rw[w64 (by omega)];rfl;unfold a3k;simp only;rw[decide_eq_false (by omega)];rfl
theorem Drawn.write(h:Drawn n a L)(e:a3t L=some (Z,0))(g:Woven Z):a2q (a,L)=some (a8w a Z,0):=by
 have j:=h.str.one;have l:=h.str.four;have c:=h.len;have b1:=a8S g;have b2:=a8T g;have i:=b4M h.inf (by omega);have f:a3H (a0Q (a0J Z))=some (a7m Z,0):=b0D (a9r g) (by have:=b1Y g;omega);unfold a2q;simp only;have b:(((L.length:Nat):Int) != ((a.length:Nat):Int))=false:=by rw[c,bne_self_eq_false]
 rw[decide_eq_false (show ¬ ((a.length:Nat):Int)<1 by omega),decide_eq_false (show ¬ ((a.length:Nat):Int) > 4 by omega),b];simp only[cF,oB];refine a0E (b4N h.inf (by omega)) ?_
 simp only[e,oB,bne_self_eq_false,cF,a8J g,b1X g,f,b3U g,b3m h.inf (by omega),a20,lN];rw[a0A (by omega),a0A (by omega)];simp only[cT,a8w,aA]
def pgF(p:Pge):Int:=bits .u8 .or (bits .u8 .or (bif p.2.1 then 1 else 0) (bif p.2.2.1 then 2 else 0)) (bif p.2.2.2.1 then 4 else 0)
theorem b3n(p:Pge):pgF p=(bif p.2.1 then 1 else 0)+((bif p.2.2.1 then 2 else 0)+(bif p.2.2.2.1 then 4 else 0)):=by
 unfold pgF;cases p.2.1<;>cases p.2.2.1<;>cases p.2.2.2.1<;>decide
theorem b5D(p:Pge):0≤pgF p∧pgF p≤7∧((bits .u64 .and (pgF p) 1) != 0)=p.2.1∧((bits .u64 .and (pgF p) 2) != 0)=p.2.2.1∧((bits .u64 .and (pgF p) 4) != 0)=p.2.2.2.1:=by
 rw[b3n];cases p.2.1<;>cases p.2.2.1<;>cases p.2.2.2.1<;>decide
theorem b2b(p:Pge):pgB p=[75,80]++(([pgF p]++(a0P p.1.toNat 4++[wrap .u8 ((p.2.2.2.2.1.length:Nat):Int)]))++(p.2.2.2.2.1++a0P (a0V (pgH p)).toNat 4)):=by
 simp only[pgB,pgH,pgF,aA,a24,a05]
theorem b5E{P R:List Int}(hp:PgOk p)(C:(P++(pgB p++R)).length<1000000):a4j (P++(pgB p++R),((P.length:Nat):Int))=some (p,(((pgB p).length:Nat):Int),0):=by
 obtain⟨O,Q,S,z⟩:=hp;have g:p.2.2.2.2.1.length≤255:=by
  revert z
  cases p.2.2.2.1<;>simp only[cT,cF]<;>omega
 have h:=a7k p;have f:=a6s p;simp only[lN]at C;have E:a1W p.2.2.2.1=some (((bif p.2.2.2.1 then 255 else 252:Nat):Nat):Int):=by
  unfold a1W;cases p.2.2.2.1<;>rfl
 obtain⟨H,T,U⟩:=a7j (l:=pgH p) (by omega);have hs:wrap .u64 (a0V (pgH p))=(((a0V (pgH p)).toNat:Nat):Int):=by
  have:=a3v (n:=(a0V (pgH p)).toNat) (by omega)
  rwa [show(((a0V (pgH p)).toNat:Nat):Int)=a0V (pgH p)by omega]at this⊢
 obtain⟨M,N,v,w,y⟩:=b5D p;have a:wrap .u8 ((p.2.2.2.2.1.length:Nat):Int)=((p.2.2.2.2.1.length:Nat):Int):=a5N (by omega);generalize hD:pgB p++R=D;have B:D.length=12+p.2.2.2.2.1.length+R.length:=by rw[←hD,lN,h]
 have r:a59 (a26 ((P.length:Nat):Int)) (a52 (P++D).length (P++D))=D:=by rw[tN,a08,b01]
 have m:n0s D 0=some 75:=by rw[←hD,b2b];rfl
 have o:n0s D 1=some 80:=by rw[←hD,b2b];rfl
 have t:a59 2 (a52 8 D)=[pgF p]++(a0P p.1.toNat 4++[wrap .u8 ((p.2.2.2.2.1.length:Nat):Int)]):=by
  rw[←hD,b2b]
  have:([75,80]++(([pgF p]++(a0P p.1.toNat 4++[wrap .u8 ((p.2.2.2.2.1.length:Nat):Int)]))++(p.2.2.2.2.1++a0P (a0V (pgH p)).toNat 4))++R:List Int)=([75,80]++([pgF p]++(a0P p.1.toNat 4++[wrap .u8 ((p.2.2.2.2.1.length:Nat):Int)])))++(p.2.2.2.2.1++a0P (a0V (pgH p)).toNat 4++R):=by
   simp only[aA]
  rw[this,List.take_left' (by simp only[lN,a0O,lC,a06])];rfl
 have s:a52 (8+p.2.2.2.2.1.length) D=pgH p:=by
  rw[←hD,pgB,aA,←f,b14]
 have q:a59 8 (pgH p)=p.2.2.2.2.1:=by
  have:pgH p=([75,80]++([pgF p]++(a0P p.1.toNat 4++[wrap .u8 ((p.2.2.2.2.1.length:Nat):Int)])))++p.2.2.2.2.1:=by
   simp only[pgH,pgF,aA,a24,a05]
  rw[this,List.drop_left' (by simp only[lN,a0O,lC,a06])]
 have u:a59 (8+p.2.2.2.2.1.length) (a52 (12+p.2.2.2.2.1.length) D)=a0P (a0V (pgH p)).toNat 4:=by
  have:a52 (12+p.2.2.2.2.1.length) D=pgB p:=by rw[←hD,←h,b14]
  rw[this,pgB,←f,b01]
 have i:=a7l (P:=[]) (A:=[pgF p]) (R:=a0P p.1.toNat 4++[wrap .u8 ((p.2.2.2.2.1.length:Nat):Int)]) (by simp) (fun b g=>by rw[a16]at g;rw[g];omega) (by simp only[lN,a0O,lC,a06];omega);have r2:=a6C (P:=[]++[pgF p]) (R:=[wrap .u8 ((p.2.2.2.2.1.length:Nat):Int)]) (n:=p.1.toNat) (k:=4) (by omega) (by rw[show 256^4=4294967296 by decide];omega) (by simp only[lN,a0O,lC,a06];omega);have j:=a7l (P:=[]++[pgF p]++a0P p.1.toNat 4) (A:=[wrap .u8 ((p.2.2.2.2.1.length:Nat):Int)]) (R:=[]) (by simp) (fun b g=>by rw[a16]at g;rw[g];exact wu8 _) (by simp only[lN,a0O,lC,a06];omega);have c:=a6C (P:=[]) (R:=[]) (n:=(a0V (pgH p)).toNat) (k:=4) (by omega) (by rw[show 256^4=4294967296 by decide];omega) (by simp only[lN,a0O,lC,a06];omega);rw[show((([pgF p]:List Int).length:Nat):Int)=1 from rfl,show a4n [pgF p]=pgF p by simp[a4n]]at i;rw[show((([wrap .u8 ((p.2.2.2.2.1.length:Nat):Int)]:List Int).length:Nat):Int)=1 from rfl,show a4n [wrap .u8 ((p.2.2.2.2.1.length:Nat):Int)]=((p.2.2.2.2.1.length:Nat):Int)by simp[a4n,a],a02]at j;rw[show((4:Nat):Int)=4 from rfl]at r2 c;rw[a02]at c;rw[show((p.1.toNat:Nat):Int)=p.1 by omega]at r2;have K:wrap .i64 ((p.2.2.2.2.1.length:Nat):Int)=((p.2.2.2.2.1.length:Nat):Int):=w64 (by omega);have I:wrap .i64 (8+((p.2.2.2.2.1.length:Nat):Int))=((8+p.2.2.2.2.1.length:Nat):Int):=by rw[w64 (by omega)];omega
 have e:wrap .i64 (((8+p.2.2.2.2.1.length:Nat):Int)+4)=((12+p.2.2.2.2.1.length:Nat):Int):=by rw[w64 (by omega)];omega
 have L:wrap .i64 p.1=p.1:=w64 (by omega);have F:a1D ([pgF p]++(a0P p.1.toNat 4++[wrap .u8 ((p.2.2.2.2.1.length:Nat):Int)]))=some (rdr [] ([pgF p]++(a0P p.1.toNat 4++[wrap .u8 ((p.2.2.2.2.1.length:Nat):Int)]))):=a9o (by simp only[lN,a0O,lC,a06];omega);have G:a1D (a0P (a0V (pgH p)).toNat 4)=some (rdr [] (a0P (a0V (pgH p)).toNat 4)):=a9o (by rw[a0O];omega);unfold a4j;rw[decide_eq_false (show ¬ ((P.length:Nat):Int)<0 by omega),decide_eq_false (show ¬ ((P.length:Nat):Int) > (((P++D).length:Nat):Int)by rw[lN];omega)];simp only[cF,oB];rw[decide_eq_true (show(0:Int)≤((P.length:Nat):Int)by omega),decide_eq_true (show((P.length:Nat):Int)≤(((P++D).length:Nat):Int)by rw[lN];omega),r,m,o];rw[decide_eq_false (show ¬ ((D.length:Nat):Int)<2 by omega)];simp only[cF,cT,a23,oB,bne_self_eq_false];rw[decide_eq_false (show ¬ ((D.length:Nat):Int)<8 by omega),decide_eq_true (show(8:Int)≤((D.length:Nat):Int)by omega),t,F];simp only[cF,cT,oB,i,r2,j];rw[decide_eq_false (show ¬ pgF p > 7 by omega),decide_eq_false (show ¬ p.1 > 2147483647 by omega),K,decide_eq_false (show ¬ ((p.2.2.2.2.1.length:Nat):Int)<1 by omega),y,E];simp only[cF,cT,oB];rw[decide_eq_false (show ¬ ((p.2.2.2.2.1.length:Nat):Int) > (((bif p.2.2.2.1 then 255 else 252:Nat):Nat):Int)by omega),I,e];simp only[cF,tN,u,s,G,oB];rw[decide_eq_false (show ¬ ((D.length:Nat):Int)<((12+p.2.2.2.2.1.length:Nat):Int)by omega),decide_eq_true (show(0:Int)≤((12+p.2.2.2.2.1.length:Nat):Int)by omega),decide_eq_true (show((12+p.2.2.2.2.1.length:Nat):Int)≤((D.length:Nat):Int)by omega),decide_eq_true (show(0:Int)≤((8+p.2.2.2.2.1.length:Nat):Int)by omega),decide_eq_true (show((8+p.2.2.2.2.1.length:Nat):Int)≤((12+p.2.2.2.2.1.length:Nat):Int)by omega),decide_eq_true (show((8+p.2.2.2.2.1.length:Nat):Int)≤((D.length:Nat):Int)by omega),decide_eq_true (show(8:Int)≤((8+p.2.2.2.2.1.length:Nat):Int)by omega)];simp only[cF,cT,a23,c,H,hs,q,oB,bne_self_eq_false,a7y (x:=p.2.2.2.2.1) (by omega),L,v,w,h]
def b7m:List Int→Prop
 | []=>True
 | [_]=>True
 |a::b::_=>a≠75∨b≠80
theorem b5F{P D:List Int}(h:b7m D):∃e,a4j (P++D,((P.length:Nat):Int))=some (((0:Int),false,false,false,([]:List Int),()),(0:Int),e)∧e≠0:=by
 have i:a59 (a26 ((P.length:Nat):Int)) (a52 (P++D).length (P++D))=D:=by rw[tN,a08,b01]
 unfold a4j;rw[decide_eq_false (show ¬ ((P.length:Nat):Int)<0 by omega),decide_eq_false (show ¬ ((P.length:Nat):Int) > (((P++D).length:Nat):Int)by rw[lN];omega)];simp only[cF,oB];rw[decide_eq_true (show(0:Int)≤((P.length:Nat):Int)by omega),decide_eq_true (show((P.length:Nat):Int)≤(((P++D).length:Nat):Int)by rw[lN];omega),i];simp only[cT,a23]
 match D,h with
 | [],_=>exact⟨3,rfl,by decide⟩
 | [a],_=>exact⟨3,rfl,by decide⟩
 |a::b::D,h=>
  rw[decide_eq_false (show ¬ (((a::b::D).length:Nat):Int)<2 by simp only[lC];omega)];have f:n0s (a::b::D) 0=some a:=rfl;have c:n0s (a::b::D) 1=some b:=rfl;simp only[cF,f,c,oB];refine⟨2,?_,by decide⟩
  by_cases ha:a=75
  have l:b≠80:=by
   rcases h with h|h;exact absurd ha h;exact h
  have g:(a != 75)=false:=by rw[ha];rfl
  have j:(b != 80)=true:=by rw[bne_iff_ne];exact l
  simp only[g,j,cF,oB,cT];have g:(a != 75)=true:=by rw[bne_iff_ne];exact ha
  simp only[g,cT,oB]
theorem b7R(h:o≤64):E0j .i64 (N:Int) (o:Int)=((N / 2^o:Nat):Int):=by
 have e:min (o:Int).toNat IntKind.i64.bits=o:=by rw[tN];show min o 64=o;omega
 unfold E0j;rw[e,b21 _ (by exact Int.le_of_lt (Int.pow_pos (by decide)))];rw[Int.natCast_ediv,b66];rfl
theorem b7S(n:Nat):wrap .u8 (n:Int)=((n%256:Nat):Int):=by
 simp only[wrap,IntKind.bits,IntKind.signed]
 simp
theorem b0F:∀(l:List Mk)(a s:Int),(∀m∈l,MkOk m)→(0≤a∧a≤1000)→(0≤s∧s≤50000)→∀b∈a6F a s l,0≤b∧b<256
 | [],_,_,_,_,_,b,hb=>by cases hb
 |m::l,a,s,h,ha,hs,b,hb=>by
  have g:=h m (by simp);obtain⟨i,j,a0,a1,c,e⟩:=g;rw[a6F]at hb;rcases mA.1 hb with hb|hb;rcases mA.1 hb with hb|hb;exact a5E 2 _ (by omega) b hb;rcases mA.1 hb with hb|hb;exact a5E 2 _ (by unfold a3N;split<;>omega) b hb;exact a5E 2 _ (by unfold a3N;split<;>omega) b hb;exact b0F l _ _ (fun x f=>h x (by simp[f])) ⟨a0,a1⟩ ⟨c,e⟩ b hb
theorem b5G{l:List Mk}(h:∀m∈l,MkOk m)(f:l.length<1000):∀b∈a7b l,0≤b∧b<256:=by
 intro b g;rw[a7b]at g;rcases mA.1 g with g|g;rw[a5G]at g;rcases mA.1 g with g|g;exact a5E 2 _ (by omega) b g;exact b0F l 0 0 h (by omega) (by omega) b g;exact a6R _ _ b g
def a8h:Inf:=(2,(1,1,()),(0,0,0,()),1,1,1,1,())
def pk0:Pk:=((0:Int),(5:Int),(0:Int),true,false,([(120:Int)]:List Int),())
def b3V:List Int:=((a3H ((a3G ((a3E ([pk0],0)).getD ([],0)).1).getD ([],0)).1).getD ([],0)).1
def b3W:List Int:=((a3Z [((0:Int),(5:Int),(0:Int),())]).getD ([],0)).1
def b5X:List Int:=((a3d [a8h]).getD [])++(b3V++(a4i b3W++(a0P (2*b3W.length) 4++[75,69,78,68])))
theorem b2c:PkOk 0 pk0:=⟨rfl,by decide,by decide,by decide,by decide,by decide,by decide⟩
theorem b3o:∀i∈[a8h],InfOk i:=fun i h=>by
 rw[a16]at h;subst h;exact .images 1 1 1 1 1 1 (by decide) (by decide) (by decide) (by decide) (by decide) (by decide)
theorem a4C:Woven [pk0]:=⟨fun p hp=>by rw[a16]at hp;subst hp;exact⟨0,b2c,by decide,by decide⟩,by decide,a43 ..⟩
theorem b0G:(a0J [pk0]).flatMap a1e=[((0:Int),(5:Int),(0:Int),())]:=by
 have a:(a1l pk0).length=19:=by rw[a5l];rfl
 have g:(a1l pk0).drop 252=[]:=b03 (by omega);have h:a0J [pk0]=[((0:Int),true,decide ((a1l pk0).length≤252),false,(a1l pk0).take 252,())]:=by
  show a1z 0 [a1l pk0]=_;rw[a1z,a1z,a2Q (a7i pk0),g,a2k];rfl
 rw[h,a49];obtain⟨q,b,f,_⟩:=a7F a4C _ (by rw[h];exact List.mem_singleton_self _) rfl rfl;rw[a7a (q:=pk0) rfl rfl ⟨0,b2c,by decide,by decide⟩ (by rw[b32];rfl)];rfl
theorem b2Y:a2q ([a8h],[[pk0]])=some (b5X,0):=by
 have hs:StrOk 8 [[pk0]]:=⟨by decide,by decide,fun i l h=>by
  cases i with
  |zero=>cases h;exact⟨fun p hp=>by rw[a16]at hp;subst hp;exact b2c,by decide,a43 ..⟩
  |succ i=>simp at h⟩
 have b:Drawn 8 [a8h] [[pk0]]:=⟨rfl,b3o,hs⟩;have c:a3t [[pk0]]=some ([pk0],0):=by kernel_rfl
 have h:=b.write c a4C;rw[h];have g:a1q [a8h]=(a3d [a8h]).getD []:=by rw[b3m b3o (by decide)];rfl
 have f:a7m [pk0]=b3V:=by
  unfold b3V;rw[a8J a4C,a95,b1X a4C,a95,b0D (a9r a4C) (by have:=b1Y a4C;omega),a95];rfl
 have a:a7b [((0:Int),(5:Int),(0:Int),())]=b3W:=by
  unfold b3W;rw[b1T (by rw[←b0G];exact a7G a4C) (by decide),a95]
 rw[a8w,b0G,g,f,a4S,a];rfl
theorem b6k:a5Z ()=some true:=by
 unfold a5Z;rw[show a5w ()=some a8h from by kernel_rfl];simp only[oB];rw[show a2q (([a8h]:List Inf),([[((0:Int),(5:Int),(0:Int),true,false,([(120:Int)]:List Int),())]]:List (List Pk)))=some (b5X,0)from b2Y]
 kernel_rfl
def a5S:List Int→Prop
 | []=>True
 |a::B=>b7m (a::B)∧a5S B
theorem b0H{x:List Int}{W:List Pge}(c:x.length<1000000):∀(B A:List Int)(n:Nat),x=A++B→a5S B→n+B.length<1000000→
  y0h a1S (x,(n:Int),((A.length:Nat):Int),W,())=some (((n+B.length:Nat):Int),W,())
 | [],A,n,hx,_,_=>by
  refine a1g ?_
  unfold a1S;simp only;rw[hx,a02,decide_eq_false (by omega)];rfl
 |a::B,A,n,hx,h,hn=>by
  rw[lC]at hn;have j:=b0H (W:=W) c B (A++[a]) (n+1) (by rw[hx,aA];rfl) h.2 (by omega);have i:A.length<x.length:=by rw[hx,lN,lC];omega
  rw[a1A (s':=(x,((n+1:Nat):Int),(((A++[a]).length:Nat):Int),W,()))];rw[j,lC];congr 3;omega;obtain⟨e,f,g⟩:=b5F (P:=A) h.1;rw[←hx]at f;unfold a1S;simp only;rw[decide_eq_true (show((A.length:Nat):Int)<((x.length:Nat):Int)by omega),f];have b:(e != 0)=true:=by rw[bne_iff_ne];exact g
  simp only[cT,oB,b];rw[w64 (by omega),w64 (by omega),lN,a07];rfl
theorem a9t{x T:List Int}(c:x.length<1000000):∀(rest done:List Pge),x=a0K done++(a0K rest++T)→(∀p∈rest,PgOk p)→done.length+rest.length<1000000→
  y0h a1S (x,(0:Int),(((a0K done).length:Nat):Int),done,())=y0h a1S (x,(0:Int),(((a0K (done++rest)).length:Nat):Int),done++rest,())
 | [],done,_,_,_=>by rw[a02]
 |p::rest,done,hx,h,hn=>by
  rw[lC]at hn;have a:a0K (done++[p])=a0K done++pgB p:=by unfold a0K;rw[a56,a49]
  have g:a0K (p::rest)=pgB p++a0K rest:=rfl;have f:x=a0K (done++[p])++(a0K rest++T):=by rw[hx,a,g];simp only[aA]
  have l:=a9t c rest (done++[p]) f (fun q i=>h q (by simp[i])) (by rw[lN,a07];omega);have e:=a7k p;have j:x.length=(a0K done).length+((pgB p).length+(a0K rest++T).length):=by rw[hx,g];simp only[lN];omega
  rw[a1A (s':=(x,(0:Int),(((a0K (done++[p])).length:Nat):Int),done++[p],())),l,aA];rfl;have b:=b5E (P:=a0K done) (R:=a0K rest++T) (h p (by simp)) (by rw[lN,lN];omega);rw[←aA (pgB p),←g,←hx]at b;unfold a1S;simp only;rw[decide_eq_true (show(((a0K done).length:Nat):Int)<((x.length:Nat):Int)by omega),b];simp only[cT,oB,bne_self_eq_false,cF];rw[a0A (by omega),w64 (by omega),a,lN];rfl
theorem b6l{W:List Pge}{T:List Int}(h:∀p∈W,PgOk p)(hT:a5S T)(g:(a0K W++T).length<1000000)(c:W.length<1000000):a5Y (a0K W++T)=some (W,((T.length:Nat):Int)):=by
 have a:=a9t (x:=a0K W++T) (T:=T) g W [] rfl h (by simpa using c);have f:=b0H (x:=a0K W++T) (W:=W) g T (a0K W) 0 rfl hT (by rw[lN]at g;omega);rw[a74]at f;have b:y0h a1S (a0K W++T,(0:Int),(0:Int),([]:List Pge),())=some (((T.length:Nat):Int),W,()):=a.trans f;unfold a5Y;exact a0E b rfl
theorem b1g{B:List Int}(h:∀a∈A,a≠75)(g:a5S B):a5S (A++B):=by
 induction A with
 |nil=>exact g
 |cons a A ih=>
  refine⟨?_,ih fun b f=>h b (by simp[f])⟩
  have:=h a (by simp)
  match A,B with
  | [],[]=>trivial
  | [],b::B=>exact .inl this
  |b::A,B=>exact .inl this
def b4O(c:Int):Bool:=(wrap .u8 (96+E0j .u8 c 4) != 75)&&(wrap .u8 (96+bits .u8 .and c 15) != 75)
theorem b2Z:((a62 256).all fun n=>b4O (n:Int))=true:=by kernel_rfl
theorem b4P{l:List Int}(h:∀b∈l,0≤b∧b<256):∀b∈a4i l,b≠75:=by
 intro b g;obtain⟨c,f,g⟩:=b60.1 g;have a:=h c f;have h:=lA.1 b2Z c.toNat (b02.2 (by omega));rw[show((c.toNat:Nat):Int)=c by omega]at h;simp only[b4O,bA,bne_iff_ne]at h;simp only[mC,a65,or_false]at g;rcases g with rfl|rfl;exact h.1;exact h.2
theorem b6m{l:List Mk}(h:∀m∈l,MkOk m)(f:l.length<1000):a5S (a4S l):=by
 have g:=b5G h f;have b:=a8R h (by omega);unfold a4S;refine b1g (b4P g) ?_
 generalize hn:2*(a7b l).length=n at *;have a:n<19000:=by omega
 have e:a0P n 4=[((n / 16777216%256:Nat):Int),((n / 65536%256:Nat):Int),((n / 256%256:Nat):Int),((n%256:Nat):Int)]:=by
  simp only[a0P,a2i,b53,List.reverse_nil,a05,a24,a85,Nat.reduceMul]
 rw[e];refine⟨.inl ?_,.inl ?_,.inl ?_,.inr ?_,.inr (by decide),.inl (by decide),.inl (by decide),trivial,trivial⟩;omega;omega;omega;decide
structure PlOk (p:Pge):Prop extends PgPlain p where
 n0:0≤p.1
 n1:p.1≤50000
structure GdOk (p:Pge):Prop extends PgOk p where
 gd:p.2.2.2.1=true
 n0:0≤p.1
 n1:p.1≤50000
 bd:∃(k:Nat)(v1 v2:Int)(sum:List Int),p.2.2.2.2.1=(k:Int)::v1::v2::sum∧1≤k∧k≤8∧1≤sum.length
def gdK(p:Pge):Nat:=(p.2.2.2.2.1.headD 0).toNat
theorem GdOk.k{p:Pge}(h:GdOk p):n0s p.2.2.2.2.1 0=some ((gdK p:Nat):Int)∧1≤gdK p∧gdK p≤8∧3<p.2.2.2.2.1.length:=by
 obtain⟨k,b,c,a,e,g,f,hs⟩:=h.bd;unfold gdK;rw[e];refine⟨by show some (k:Int)=_;rw[b08,tN],by rw[b08,tN];exact g,by rw[b08,tN];exact f,by simp only[lC];omega⟩
def isG(p:Pge):Bool:=p.2.2.2.1
def a1i(l:List Pge):List Pge:=l.filter fun p=>!isG p
def a2g(l:List Pge):List Pge:=l.filter isG
def kv(l:List Pge):List (Int×Pge):=l.map fun p=>(p.1,p)
def a4T(p:Pge):Int:=if isG p then p.1+(gdK p:Int)-1 else p.1
def a5m(t:Int)(l:List Pge):Int:=l.foldl (fun t p=>y0d t (a4T p)) t
theorem b7n(h:GdOk p):a4L p=some true:=by
 obtain⟨e,g,f,a⟩:=h.k;unfold a4L;rw[h.gd,e,decide_eq_true (show((p.2.2.2.2.1.length:Nat):Int) > 3 by omega)];simp only[cT,oB];rw[decide_eq_true (show((gdK p:Nat):Int)≥1 by omega),decide_eq_true (show((gdK p:Nat):Int)≤8 by omega)];rfl
theorem a7H{k:Int}:∀{l:List Pge},(∀p∈l,p.1≠k)→g0l k (kv l)=none
 | [],_=>rfl
 |p::l,h=>by
  have g:(p.1==k)=false:=by rw[beq_eq_false_iff_ne];exact h p (by simp)
  show(bif p.1==k then some p else g0l k (kv l))=none;rw[g];exact a7H fun q f=>h q (by simp[f])
theorem b6n{a b c:Int}(h:a≤c)(g:b≤c):y0d a b≤c:=by rw[a8s];omega
theorem b3p{c:Int}:∀(l:List Pge)(t:Int),t≤c→(∀p∈l,a4T p≤c)→a5m t l≤c
 | [],_,h,_=>h
 |p::l,t,h,hp=>b3p l _ (b6n h (hp p (by simp))) fun q g=>hp q (by simp[g])
def Fit(l:List Pge):Prop:=(∀p∈l,PlOk p∨GdOk p)∧(a1i l).Pairwise fun p q=>p.1≠q.1
theorem a5T(a b:List Pge):a1i (a++b)=a1i a++a1i b:=a84 ..
theorem a7I(a b:List Pge):a2g (a++b)=a2g a++a2g b:=a84 ..
theorem a9u{l:List Pge}(b:Fit l)(u:l.length<1000000):∀(rest done:List Pge),done++rest=l→
  y0h a1j (((0:Int),a5m (-1) done,l,((l.length:Nat):Int),((done.length:Nat):Int),a2g done,a1i done,()),(0:Int),kv (a1i done))
   = some (((0:Int),a5m (-1) l,a2g l,a1i l,()),(0:Int),kv (a1i l))
 | [],done,e=>by
  rw[a02]at e;subst e;refine a1g ?_
  unfold a1j;simp only;rw[decide_eq_false (by omega)];rfl
 |p::rest,done,e=>by
  have y:=a9u b u rest (done++[p]) (by rw[←e,aA];rfl);have i:done.length+(rest.length+1)=l.length:=by rw[←e,lN,lC]
  have s:n0s l ((done.length:Nat):Int)=some p:=by
   have:done.length<l.length:=by omega
   rw[a0F this];congr 1;subst e;rw[a67 (a13 _)]
   simp
  have c:p∈l:=by rw[←e];simp
  rw[←y];have m:a5m (-1) (done++[p])=y0d (a5m (-1) done) (a4T p):=by unfold a5m;rw[a87];rfl
  have t:(a2g done).length≤done.length:=a68 ..;have x:(a1i done).length≤done.length:=a68 ..;refine a1A ?_
  unfold a1j;simp only;rw[decide_eq_true (show((done.length:Nat):Int)<((l.length:Nat):Int)by omega),s,m,a7I,a5T];have j:wrap .i64 (((done.length:Nat):Int)+1)=(((done++[p]).length:Nat):Int):=by rw[w64 (by omega),lN,a07];omega
  rcases b.1 p c with hp|hp;have h:isG p=false:=hp.ng;have g:a2g [p]=[]:=by simp[a2g,h]
  have f:a1i [p]=[p]:=by simp[a1i,h]
  have a:a4T p=p.1:=by simp[a4T,h]
  have v:g0l p.1 (kv (a1i done))=none:=by
   refine a7H fun q w=>?_
   have:=b.2
   rw[←e,a5T]at this;have r:=(a17.1 this).2.2 q w p (by simp[a1i,h]);exact r
  have n1:=hp.n1;simp only[cT,oB,a9k hp.toPgOk,bT,cF,show p.2.2.2.1=false from h,beq_self_eq_true,v,b46,b47,b40,a8c hp.toPgOk];rw[a0A (by omega),g,f,a,j,a02];simp only[cT,kv,pA,a54,b28,a20];have h:isG p=true:=hp.gd;have g:a2g [p]=[p]:=by simp[a2g,h]
  have f:a1i [p]=[]:=by simp[a1i,h]
  obtain⟨z,A,B,C⟩:=hp.k;have D:=hp.n0;have n1:=hp.n1;have a:a4T p=p.1+(gdK p:Int)-1:=by simp[a4T,h]
  have o:wrap .i64 (wrap .i64 (p.1+wrap .i64 ((gdK p:Nat):Int))-1)=p.1+(gdK p:Int)-1:=by
   rw[w64 (n:=((gdK p:Nat):Int)) (by omega),w64 (n:=p.1+((gdK p:Nat):Int)) (by omega),w64 (by omega)]
  simp only[cT,oB,a9k hp.toPgOk,bT,cF,hp.gd,b7n hp,z];rw[a0A (by omega),g,f,a,j,a02,o];rfl
def a1K(L:List (Int×Pge))(s:Int)(k:Nat):List Pge:=(a62 k).filterMap fun(j:Nat)=>g0l (s+(j:Int)) L
def a1H(L:List (Int×Pge))(s:Int)(k:Nat):List Nat:=(a62 k).filter fun(j:Nat)=>(g0l (s+(j:Int)) L).isNone
def a7n(s:Int)(l:List Nat):Int:=match l.getLast? with|some j=>s+(j:Int)|none=>0
theorem b6o{L:List (Int×Pge)}{g:Pge}(h:GdOk g):a2j 0 L (g,0)=some (a7n g.1 (a1H L g.1 (gdK g)),a1K L g.1 (gdK g),(((a1H L g.1 (gdK g)).length:Nat):Int)==1):=by
 obtain⟨e,t,u,v⟩:=h.k;have w:=h.n0;have n1:=h.n1;have m:wrap .i64 (g.1+wrap .i64 ((gdK g:Nat):Int))=g.1+((gdK g:Nat):Int):=by rw[w64 (n:=((gdK g:Nat):Int)) (by omega),w64 (by omega)]
 unfold a2j
 have:=a0D (f:=a1y 0 L) (fun i=>((0:Int),(((a1H L g.1 i).length:Nat):Int),a7n g.1 (a1H L g.1 i),g.1+(i:Int),a1K L g.1 i,g,())) (gdK g)
  (b:=((((a1H L g.1 (gdK g)).length:Nat):Int),a7n g.1 (a1H L g.1 (gdK g)),a1K L g.1 (gdK g),())) (fun i s=>?_) ?_
 rw[show g.1+((0:Nat):Int)=g.1 by omega]at this;simp only;refine a0E this rfl
 ·unfold a1y;simp only[e,oB,m];rw[decide_eq_true (show g.1+(i:Int)<g.1+((gdK g:Nat):Int)by omega)];simp only[cT,beq_self_eq_true];have l:wrap .i64 (g.1+(i:Int)+1)=g.1+((i+1:Nat):Int):=by rw[w64 (by omega)];omega
  have p:(a1H L g.1 i).length≤i:=by
   have:=a68 (fun j=>(g0l (g.1+((j:Nat):Int)) L).isNone) (a62 i)
   rw[a81]at this;exact this
  have r:(a1K L g.1 i).length≤i:=by
   have:=List.length_filterMap_le (fun j:Nat=>g0l (g.1+(j:Int)) L) (a62 i)
   rw[a81]at this;exact this
  cases hm:g0l (g.1+(i:Int)) L with
  |some q=>
   have a:a1H L g.1 (i+1)=a1H L g.1 i:=by simp[a1H,a72,hm]
   have c:a1K L g.1 (i+1)=a1K L g.1 i++[q]:=by simp[a1K,a72,hm]
   simp only[Option.isSome_some,cT,a95];rw[a0A (by omega),a,c,l];rfl
  |none=>
   have a:a1H L g.1 (i+1)=a1H L g.1 i++[i]:=by simp[a1H,a72,hm]
   have c:a1K L g.1 (i+1)=a1K L g.1 i:=by simp[a1K,a72,hm]
   have o:a7n g.1 (a1H L g.1 i++[i])=g.1+(i:Int):=by unfold a7n;rw[List.getLast?_concat]
   simp only[b46,cF];rw[a,c,o,l,w64 (by omega),lN,a07];rfl
 unfold a1y;simp only[e,oB,m];rw[decide_eq_false (by omega)];rfl
def a1v(s:Nat)(l:List Pge):Prop:=∀(i:Nat)(p:Pge),l[i]?=some p→p.1=((s+i:Nat):Int)∧PgPlain p
theorem a1v.tail(h:a1v s (p::l)):a1v (s+1) l:=fun i q g=>by
 have:=h (i+1) q (by simpa using g)
 rw[show s+(i+1)=s+1+i by omega]at this;exact this
theorem a1v.drop{s:Nat}{l:List Pge}(h:a1v s l)(k:Nat):a1v (s+k) (l.drop k):=fun i q g=>by
 rw[a99]at g
 have:=h (k+i) q g
 rw[show s+(k+i)=s+k+i by omega]at this;exact this
theorem a1v.take(h:a1v s l)(k:Nat):a1v s (l.take k):=fun i q g=>by
 rw[b48]at g
 by_cases hi:i<k
 rw[if_pos hi]at g;exact h i q g;rw[if_neg hi]at g;cases g
theorem a1v.plain(h:a1v s l):∀p∈l,PgPlain p:=fun p hp=>by
 obtain⟨i,g⟩:=a41 hp;exact(h i p g).2
theorem a1v.num(h:a1v s l):∀p∈l,(s:Int)≤p.1∧p.1<((s+l.length:Nat):Int):=fun p hp=>by
 obtain⟨i,g⟩:=a41 hp;have f:=(h i p g).1;have a:=(lS.1 g).1;omega
theorem b3X(h:∀p∈l,PgPlain p):a1i l=l:=b42.2 fun p hp=>by have:isG p=false:=(h p hp).ng;rw[this];rfl
theorem b3Y(h:q.2.2.2.1=true)(l:List Pge):a1i (q::l)=a1i l:=by
 have:isG q=true:=h
 simp[a1i,this]
theorem b3q(c:a1v s g)(f:g≠[])(b:g.length≤8)(hs:s≤50000):GdOk (gOf g)∧(gOf g).1=(s:Int)∧gdK (gOf g)=g.length:=by
 obtain⟨_,a,l,m,e,j,n⟩:=a9l c.plain f b;have hp:=a03.2 f;have h:(g.head f).1=(s:Int):=by
  have:=(c 0 (g.head f) (by rw[a93,lG])).1
  simpa using this
 have i:gdK (gOf g)=g.length:=by rw[e];unfold gdK;rw[b08,tN]
 refine⟨⟨⟨?_,?_,?_,?_⟩,?_,?_,?_,?_⟩,?_,i⟩;rw[e,h];omega;rw[e,h];omega;rw[e];simp only[lC];omega;rw[e];simp only[lC,cT];omega;rw[e];rw[e,h];omega;rw[e,h];omega;exact⟨g.length,l,m,a,by rw[e],hp,b,j⟩;rw[e,h]
theorem a9v:∀(n:Nat)(l:List Pge)(s:Nat),l.length≤n→a1v s l→(l≠[]→s+l.length≤50000)→
  a1i (a0Q l)=l∧∀q∈a0Q l,(q∈l∧PlOk q)∨(GdOk q∧(s:Int)≤q.1∧q.1+(gdK q:Int)≤((s+l.length:Nat):Int))
 |n,[],s,_,_,_=>by rw[a1I];exact⟨rfl,fun q g=>by cases g⟩
 |0,p::l,s,h,_,_=>by simp at h
 |n+1,p::l0,s,h,hf,hs=>by
  have b:(p::l0)≠[]:=by simp
  generalize hL:p::l0=l at *;have m:=a03.2 b;have hs:=hs b;obtain⟨v,w⟩:=a9v n (l.drop 8) (s+8) (by rw[a01];omega) (hf.drop 8) (fun h=>by
   have:=a03.2 h
   rw[a01]at this⊢;omega)
  have u:l.take 8≠[]:=a03.1 (by rw[a00];omega);have c:(l.take 8).length≤8:=by rw[a00];omega
  obtain⟨e,o,i⟩:=b3q (hf.take 8) u c (by omega);rw[a00]at i;have r:=hf.num;have hp:=hf.plain;rw[a2R b];constructor;rw[a5T,b3Y e.gd,v,b3X (hf.take 8).plain,a29];intro q g;rcases mA.1 g with g|g;have f:=a09 g
  have:=r q f
  exact .inl ⟨f,hp q f,by omega,by omega⟩;rcases mC.1 g with g|g;subst g;refine .inr ⟨e,by omega,?_⟩;rw[o,i];omega;rcases w q g with⟨g,a⟩|⟨g,t,a⟩;exact .inl ⟨a33 g,a⟩;have x:(l.drop 8).length=l.length-8:=a01
  by_cases h8:8≤l.length
  exact .inr ⟨g,by omega,by omega⟩
  have:l.drop 8=[]:=b03 (by omega)
  rename_i j;rw[this,a1I]at j;cases j
theorem b3a(l:List Pge):(a0Q l).length≤2*l.length:=a5C _ _ (a13 _)
abbrev Jn:Type:=Int×(Bool×(List Int×(Int×Unit)))
def a7c:Jn→List Pge→List Pk→Jn→Prop
 |J,[],o,J'=>o=[]∧J'=J
 |J,p::l,o,J'=>∃o1 h J1 o2,a2b (J,p)=some (o1,h,J1)∧a7c J1 l o2 J'∧o=o1++o2
theorem a7c.app:∀{l:List Pge}{J J1 J2:Jn}{l2:List Pge}{o1 o2:List Pk},a7c J l o1 J1→a7c J1 l2 o2 J2→a7c J (l++l2) (o1++o2) J2
 | [],J,J1,J2,l2,o1,o2,h1,h2=>by obtain⟨rfl,rfl⟩:=h1;exact h2
 |p::l,J,J1,J2,l2,o1,o2,h1,h2=>by
  obtain⟨a,h,g,b,f,c,rfl⟩:=h1;exact⟨a,h,g,b++o2,f,c.app h2,by rw[aA]⟩
theorem b2d{l:List Pge}(i:l.length<1000000):∀(rest done:List Pge)(J J':Jn)(out o:List Pk),done++rest=l→a7c J rest o J'→out.length+o.length<1000000→
  y0h a3V (l,((l.length:Nat):Int),((done.length:Nat):Int),out,J,())=some (out++o,())
 | [],done,J,J',out,o,e,h,_=>by
  obtain⟨rfl,rfl⟩:=h;rw[a02]at e;subst e;refine a1g ?_
  unfold a3V;simp only;rw[decide_eq_false (by omega),a02];rfl
 |p::rest,done,J,J',out,o,e,h,ho=>by
  obtain⟨o1,m,f,o2,a,b,rfl⟩:=h;rw[lN]at ho;have j:=b2d i rest (done++[p]) f J' (out++o1) o2 (by rw[←e,aA];rfl) b (by rw[lN];omega);have g:done.length+(rest.length+1)=l.length:=by rw[←e,lN,lC]
  have c:n0s l ((done.length:Nat):Int)=some p:=by
   have:done.length<l.length:=by omega
   rw[a0F this];congr 1;subst e;rw[a67 (a13 _)]
   simp
  rw[←aA,←j];refine a1A ?_
  unfold a3V;simp only;rw[decide_eq_true (show((done.length:Nat):Int)<((l.length:Nat):Int)by omega),c];simp only[cT,oB,a];rw[a0A (by omega),w64 (by omega),lN,a07];rfl
theorem b3Z{n:Int}{o:List Pk}{J':Jn}(a:0≤n)(g:l.length<1000000)(f:o.length<1000000)(h:a7c (n,false,[],0,()) l o J'):a2H (n,l)=some o:=by
 unfold a2H a5v;have e:y0d n 0=n:=by rw[a8s];omega
 simp only[e,oB]
 have:=b2d g l [] _ J' [] o rfl h (by simpa using f)
 rw[a05]at this;exact a0E this rfl
theorem a7J(h:Woven Z):a1v 0 (a0J Z):=fun i p hp=>by
 rw[a74];exact a7E h i p hp
theorem b4Q(h:Drawn n a L)(g:Woven Z):a2n (a8w a Z)=some (a,(((a1q a).length:Nat):Int),0):=by
 have f:=h.str.one;have b:=h.str.four;have c:=h.len;have b1:=a8S g;have b2:=a8T g;exact b1V h.inf (by omega) (by omega) (by rw[lN];omega)
theorem b3b(p:Pk):a3W (p,p)=some true:=by
 unfold a3W;simp only[beq_self_eq_true,cT]
theorem b2e{l:List Pk}(g:l.length<1000000):a2c (l,l)=some true:=by
 unfold a2c;simp only[bne_self_eq_false,cF]
 have:=a0D (f:=a2P) (fun i=>(l,l,(i:Int),())) l.length (b:=.inl ()) (fun i h=>?_) ?_
 exact a0E this rfl;unfold a2P;simp only;rw[decide_eq_true (show(i:Int)<((l.length:Nat):Int)by omega),a0F h];simp only[cT,oB,b3b,bT,cF];rw[w64 (by omega)];rfl;unfold a2P;simp only;rw[decide_eq_false (by omega)];rfl
def a6H:Option Nat→Int
 |none=>-1
 |some j=>(j:Int)
def ofS(s:Nat)(l:List Pk):List Pk:=l.filter fun p=>decide (p.1=(s:Int))
theorem a8x(s:Nat)(a b:List Pk):ofS s (a++b)=ofS s a++ofS s b:=a84 ..
def b4a(l:List Pk):Prop:=∀s,(ofS s l).Pairwise fun p q=>p.2.1≤q.2.1
theorem b6p{a b:List Pk}(h:Stb a b):b4a a→(∀p∈a,0≤p.1)→b4a b∧∀s,ofS s b=ofS s a:=by
 induction h with
 |refl l=>exact fun h _=>⟨h,fun s=>rfl⟩
 |swap p x y s hk=>
  intro h c;have key:∀n,ofS n (p++y::x::s)=ofS n (p++x::y::s):=by
   intro n;have j:p++y::x::s=p++([y]++([x]++s)):=rfl;have e:p++x::y::s=p++([x]++([y]++s)):=rfl;rw[j,e];simp only[a8x]
   by_cases hx:x.1=(n:Int)
   by_cases hy:y.1=(n:Int)
   exfalso
   have hp:=h n;rw[e]at hp;simp only[a8x]at hp;have g:ofS n [x]=[x]:=by simp[ofS,hx]
   have f:ofS n [y]=[y]:=by simp[ofS,hy]
   rw[g,f]at hp;have m:=(a17.1 hp).2.1;have o:=(a17.1 m).2.2 x (by simp) y (by simp);rw[a7g]at hk;omega;have f:ofS n [y]=[]:=by simp[ofS,hy]
   rw[f,a05,a05];have g:ofS n [x]=[]:=by simp[ofS,hx]
   rw[g,a05,a05]
  exact⟨fun n=>by rw[key];exact h n,key⟩
 |trans h1 h2 i1 i2=>
  intro h c;obtain⟨a1,i⟩:=i1 h c;obtain⟨b1,b2⟩:=i2 a1 fun p hp=>c p ((h1.perm.mem_iff).1 hp);exact⟨b1,fun s=>(b2 s).trans (i s)⟩
theorem b3r{l:List Pk}(h:∀p∈l,p.1=(s:Int)):ofS s l=l:=b42.2 fun p hp=>decide_eq_true (h p hp)
theorem a6I{l:List Pk}(h:∀p∈l,p.1≠(s:Int)):ofS s l=[]:=List.filter_eq_nil_iff.2 fun p hp=>by simp[h p hp]
theorem b2f(s:Nat):∀(L:List (List Pk)) (o:Nat),(∀(i:Nat) l,L[i]?=some l→∀p∈l,p.1=((o+i:Nat):Int))→ofS s L.flatten=if o≤s then(L[s-o]?).getD []else[]
 | [],o,_=>by simp[ofS]
 |l::L,o,h=>by
  have a:=b2f s L (o+1) fun i l f p hp=>by
   have:=h (i+1) l (by simpa using f) p hp
   rw[show o+(i+1)=o+1+i by omega]at this;exact this
  have g:∀p∈l,p.1=(o:Int):=h 0 l rfl;rw[b24,a8x,a]
  by_cases hs:o≤s
  rw[if_pos hs]
  by_cases he:o=s
  subst he;rw[if_neg (by omega),b3r g]
  simp
  rw[if_pos (by omega),a6I fun p hp=>by rw[g p hp];omega];rw[show s-o=s-(o+1)+1 by omega]
  simp
  rw[if_neg hs,if_neg (by omega),a6I fun p hp=>by rw[g p hp];omega];rfl
def a8i(n:Nat)(l:List Pk):List (List Pk):=(a62 n).map fun s=>ofS s l
theorem b4b(n:Nat)(l:List Pk):(a8i n l).length=n:=by rw[a8i,a42,a81]
theorem b0I(l:List Pk)(h:s<n):(a8i n l)[s]?=some (ofS s l):=by
 rw[a8i,a89,a96 h];rfl
theorem Drawn.rows(h:Drawn n a L)(hs:Stb L.flatten Z):a8i a.length Z=L:=by
 have g:∀(i:Nat) l,L[i]?=some l→∀p∈l,p.1=((0+i:Nat):Int):=fun i l f p hp=>by
  rw[a74];exact((h.str.ok i l f).ok p hp).st
 have b:∀s,ofS s L.flatten=(L[s]?).getD []:=fun s=>by
  have:=b2f s L 0 g
  rw[if_pos (Nat.zero_le _),b27]at this;exact this
 have m:b4a L.flatten:=fun s=>by
  rw[b];cases f:L[s]? with
  |none=>exact .nil
  |some l=>exact(h.str.ok s l f).asc
 have e:∀p∈L.flatten,0≤p.1:=fun p hp=>by
  obtain⟨l,f,hp⟩:=b25.1 hp;obtain⟨i,c⟩:=a41 f;rw[g i l c p hp];omega
 obtain⟨_,j⟩:=b6p hs m e;refine List.ext_getElem? fun i=>?_
 by_cases c:i<L.length
 rw[b0I _ (by rw[h.len];exact c),j,b,lG c];rfl;rw[a78 (by rw[b4b,h.len];omega),a78 (by omega)]
theorem Drawn.in(h:Drawn n a L)(hs:Stb L.flatten Z):∀p∈Z,0≤p.1∧p.1<(a.length:Int):=fun p hp=>by
 have hp:=(hs.perm.mem_iff).1 hp;obtain⟨l,f,hp⟩:=b25.1 hp;obtain⟨i,g⟩:=a41 f;have b:=((h.str.ok i l g).ok p hp).st;have c:=(lS.1 g).1
 have:=h.len
 omega
def bx(a b:Int):Int:=bits .u8 .xor a b
theorem b2g(a b:Int):bx a b=(((a36 8 a ^^^ a36 8 b).toNat:Nat):Int):=by
 show wrap .u8 (((a36 8 a ^^^ a36 8 b).toNat:Nat):Int)=_;exact a5N (BitVec.isLt _)
theorem b7T(a b:Int):a36 8 (bx a b)=a36 8 a ^^^ a36 8 b:=by
 rw[b2g,b36,b49,b50]
theorem a9S{a:Int}(h:0≤a∧a<256):(((a36 8 a).toNat:Nat):Int)=a:=by
 rw[b20];omega
theorem b6q(a b:Int):0≤bx a b∧bx a b<256:=wu8 _
theorem b3s{a:Int}(h:0≤a∧a<256):bx a 0=a:=by
 rw[b2g,show a36 8 0=0#8 from rfl,a97,a9S h]
def Byt(l:List Int):Prop:=∀b∈l,0≤b∧b<256
theorem Byt.at{l:List Int}(h:Byt l)(i:Nat):0≤l.getD i 0∧l.getD i 0<256:=by
 rw[lD];cases e:l[i]? with
 |none=>exact⟨by decide,by decide⟩
 |some b=>exact h b (List.mem_of_getElem? e)
theorem a3a{a:List Int}(c:a.length=b.length)(h:∀i,i<a.length→a.getD i 0=b.getD i 0):a=b:=by
 refine List.ext_getElem c fun i g f=>?_
 have:=h i g
 rw[lD,lD,lG g,lG f]at this;exact this
theorem a2a{l:List Int}(h:l.length≤i):l.getD i 0=0:=by
 rw[lD,a78 h];rfl
def a4Y(a b:List Int):List Int:=(a62 (max a.length b.length)).map fun i=>bx (a.getD i 0) (b.getD i 0)
theorem a5n(a b:List Int):(a4Y a b).length=max a.length b.length:=by rw[a4Y,a42,a81]
theorem a4U(a b:List Int)(i:Nat):(a4Y a b).getD i 0=bx (a.getD i 0) (b.getD i 0):=by
 by_cases h:i<max a.length b.length
 rw[lD,a4Y,a89,a96 h];rfl;rw[a2a (by rw[a5n];omega),a2a (l:=a) (by omega),a2a (l:=b) (by omega)];rfl
theorem b2h(a b:List Int):Byt (a4Y a b):=by
 intro x h;obtain⟨i,_,rfl⟩:=b52.1 h;exact b6q _ _
def mkI(p:Pge):Int:=(bif p.2.1 then 1 else 0)+(bif p.2.2.1 then 2 else 0)
def pgD(p:Pge):List Int:=[mkI p,((p.2.2.2.2.1.length:Nat):Int)]++p.2.2.2.2.1
theorem a3O(p:Pge):(pgD p).length=2+p.2.2.2.2.1.length:=by rw[pgD,lN];rfl
theorem a6J(p:Pge):0≤mkI p∧mkI p≤3:=by unfold mkI;cases p.2.1<;>cases p.2.2.1<;>decide
structure PgByt (p:Pge):Prop where
 len:p.2.2.2.2.1.length≤252
 byt:Byt p.2.2.2.2.1
theorem PgByt.d(h:PgByt p):Byt (pgD p):=by
 intro b g;have a:=a6J p;have f:=h.len;rcases mA.1 g with g|g;simp only[mC,a65,or_false]at g;rcases g with rfl|rfl<;>omega;exact h.byt b g
def xrF(a:List Int)(l:List Pge):List Int:=l.foldl (fun a p=>a4Y a (pgD p)) a
def xr(l:List Pge):List Int:=xrF [0,0] l
theorem b2i(a:List Int)(p:Pge)(l:List Pge):xrF a (p::l)=xrF (a4Y a (pgD p)) l:=rfl
theorem a9T(a:List Int)(l m:List Pge):xrF a (l++m)=xrF (xrF a l) m:=a87 ..
theorem a9U:∀(l:List Pge)(a:List Int),Byt a→Byt (xrF a l)
 | [],a,h=>h
 |p::l,a,_=>a9U l _ (b2h _ _)
theorem a8j(l:List Pge):Byt (xr l):=a9U l _ (by intro b h;simp only[mC,a65,or_false]at h;rcases h with rfl|rfl<;>decide)
def sx(l:List Pge)(i:Nat):BitVec 8:=l.foldl (fun v p=>v ^^^ a36 8 ((pgD p).getD i 0)) 0#8
theorem a9V(i:Nat):∀(l:List Pge)(v:BitVec 8),l.foldl (fun v p=>v ^^^ a36 8 ((pgD p).getD i 0)) v=v ^^^ sx l i
 | [],v=>(a97).symm
 |p::l,v=>by
  rw[b67,a9V i l];show _=v ^^^ l.foldl _ (0#8 ^^^ a36 8 ((pgD p).getD i 0));rw[a9V i l,b30,b61]
theorem a9w(a b:List Pge)(i:Nat):sx (a++b) i=sx a i ^^^ sx b i:=by
 unfold sx;rw[a87,a9V];rfl
theorem b4R(p:Pge)(i:Nat):sx [p] i=a36 8 ((pgD p).getD i 0):=by
 show 0#8 ^^^ _=_;rw[b30]
theorem a8k(i:Nat):∀(l:List Pge)(a:List Int),Byt a→(xrF a l).getD i 0=(((a36 8 (a.getD i 0) ^^^ sx l i).toNat:Nat):Int)
 | [],a,h=>by
  show a.getD i 0=_;rw[show sx [] i=0#8 from rfl,a97,a9S (h.at i)]
 |p::l,a,h=>by
  rw[b2i,a8k i l _ (b2h _ _),a4U,b7T,b61,←b4R,←a9w];rfl
theorem a6u:∀(l:List Pge)(a:List Int)(n:Nat),a.length≤n→(∀p∈l,(pgD p).length≤n)→a.length≤(xrF a l).length∧(xrF a l).length≤n∧∀p∈l,(pgD p).length≤(xrF a l).length
 | [],a,n,h,_=>⟨a13 _,h,fun p hp=>by cases hp⟩
 |p::l,a,n,h,hp=>by
  have e:=hp p (by simp);obtain⟨f,b,c⟩:=a6u l (a4Y a (pgD p)) n (by rw[a5n];omega) fun q g=>hp q (by simp[g]);rw[a5n]at f;rw[b2i];refine⟨by omega,b,fun q g=>?_⟩;rcases mC.1 g with rfl|g;omega;exact c q g
theorem b3t{A B:List Pge}(hp:PgByt p)(l:∀q∈A,PgByt q)(m:∀q∈B,PgByt q):
  ∃z,xrF (xr (A++p::B)) (A++B)=pgD p++a28 z 0∧2+p.2.2.2.2.1.length+z=(xr (A++p::B)).length:=by
 have n:∀q∈A++p::B,(pgD q).length≤254:=fun q h=>by
  rw[a3O];rcases mA.1 h with h|h
  have:=(l q h).len;omega
  rcases mC.1 h with rfl|h
  have:=hp.len;omega
  have:=(m q h).len;omega
 obtain⟨l1,l2,f⟩:=a6u (A++p::B) [0,0] 254 (by decide) n;have r:(pgD p).length≤(xr (A++p::B)).length:=f p (by simp);obtain⟨t,u,v⟩:=a6u (A++B) (xr (A++p::B)) (xr (A++p::B)).length (a13 _) (fun q h=>f q (by
  rcases mA.1 h with h|h;simp[h];simp[h]))
 have o:=a3O p;refine⟨(xr (A++p::B)).length-(pgD p).length,a3a ?_ fun i s=>?_,by omega⟩;rw[lN,a40];omega
 ·rw[a8k i _ _ (a8j _)];have c:(xr (A++p::B)).getD i 0=(((sx (A++p::B) i).toNat:Nat):Int):=by
   unfold xr;rw[a8k i _ _ (by intro b g;simp only[mC,a65,or_false]at g;rcases g with rfl|rfl<;>decide)]
   have:a36 8 (([0,0]:List Int).getD i 0)=0#8:=by
    match i with
    |0=>rfl
    | 1=>rfl
    |i+2=>rfl
   rw[this,b30]
  have e:a36 8 ((xr (A++p::B)).getD i 0)=sx (A++p::B) i:=by
   rw[c,b36,b49,b50]
  have j:sx (A++p::B) i ^^^ sx (A++B) i=a36 8 ((pgD p).getD i 0):=by
   rw[show A++p::B=A++([p]++B)from rfl,a9w,a9w,a9w,b4R];generalize a36 8 ((pgD p).getD i 0)=d;generalize sx A i=a;generalize sx B i=b
   have:a ^^^ (d ^^^ b) ^^^ (a ^^^ b)=d ^^^ ((a ^^^ a) ^^^ (b ^^^ b)):=by ac_rfl
   rw[this,b68,b68,a97,a97]
  rw[e,j,a9S (hp.d.at i)]
  by_cases hi2:i<(pgD p).length
  rw[lD,lD,a63 hi2];rw[a2a (by omega),lD,a38 (by omega),b29]
  split<;>rfl
theorem b3u(p:Pge):a3F p=some (mkI p):=by
 obtain⟨a,b,c,d⟩:=p;cases b<;>cases c<;>kernel_rfl
def zz(to fr:List Int)(i:Nat):List Int:=(a62 (max to.length fr.length)).map fun j=>if j<i then bx (to.getD j 0) (fr.getD j 0)else to.getD j 0
theorem a6K(to fr:List Int)(i:Nat):(zz to fr i).length=max to.length fr.length:=by rw[zz,a42,a81]
theorem a9x(to fr:List Int)(i j:Nat):(zz to fr i).getD j 0=if j<i then bx (to.getD j 0) (fr.getD j 0)else to.getD j 0:=by
 by_cases h:j<max to.length fr.length
 rw[lD,zz,a89,a96 h];rfl;rw[a2a (by rw[a6K];omega),a2a (l:=to) (by omega),a2a (l:=fr) (by omega)]
 split<;>rfl
theorem a7K(l:List Int)(i j:Nat)(v:Int):(l.set i v).getD j 0=if i=j∧i<l.length then v else l.getD j 0:=by
 rw[lD,lD,b55]
 by_cases h:i=j
 subst h
 by_cases h2:i<l.length
 rw[if_pos rfl,if_pos h2,if_pos ⟨rfl,h2⟩];rfl;rw[if_pos rfl,if_neg h2,if_neg (by omega),a78 (by omega)];rw[if_neg h,if_neg (by omega)]
theorem b0J(l:List Int)(n j:Nat):(l.drop n).getD j 0=l.getD (n+j) 0:=by
 rw[lD,lD,a99]
theorem a4D(l:List Int)(n j:Nat):(l++a28 n (0:Int)).getD j 0=l.getD j 0:=by
 rw[lD,lD]
 by_cases h:j<l.length
 rw[a63 h];rw[a38 (by omega),a78 (l:=l) (by omega),b29]
 split<;>rfl
theorem b3v{to fr:List Int}(o:Byt to)(p:to.length<1000)(q:fr.length<1000):a2W (to,fr)=some (a4Y to fr,[]):=by
 have g:=a0D (f:=a2y) (fun i=>(fr,to++a28 i (0:Int),())) (fr.length-to.length) (b:=(fr,to++a28 (fr.length-to.length) (0:Int),())) (fun i h=>by
  unfold a2y;simp only;rw[decide_eq_true (show(((to++a28 i (0:Int)).length:Nat):Int)<((fr.length:Nat):Int)by rw[lN,a40];omega),a0A (by rw[lN,a40];omega)];simp only[cT,a20,aA];rw[←List.replicate_succ']) (by
  unfold a2y;simp only;rw[decide_eq_false (show ¬ (((to++a28 (fr.length-to.length) (0:Int)).length:Nat):Int)<((fr.length:Nat):Int)by rw[lN,a40];omega)];rfl)
 rw[b39,a02]at g;have n:to++a28 (fr.length-to.length) (0:Int)=zz to fr 0:=a3a (by rw[lN,a40,a6K];omega) fun j a=>by
  rw[a9x,if_neg (by omega),a4D]
 rw[n]at g;have c:=a0D (f:=a2z) (fun i=>(fr,((fr.length:Nat):Int),(i:Int),zz to fr i,())) fr.length (b:=(zz to fr fr.length,())) (fun i h=>by
  unfold a2z;simp only;have hs:(zz to fr i).set i (bits .u8 .xor ((zz to fr i).getD i 0) fr[i])=zz to fr (i+1):=a3a (by rw[a32,a6K,a6K]) fun j a=>by
   rw[a7K,a9x,a9x,a9x,a6K];have e:fr.getD i 0=fr[i]:=by rw[lD,lG h];rfl
   by_cases hij:i=j
   subst hij;rw[if_pos ⟨rfl,by omega⟩,if_neg (by omega),if_pos (by omega),e];rfl;rw[if_neg (by omega)]
   by_cases hj2:j<i
   rw[if_pos hj2,if_pos (by omega)];rw[if_neg hj2,if_neg (by omega)]
  rw[decide_eq_true (show(i:Int)<((fr.length:Nat):Int)by omega),a0F h,decide_eq_true (show(0:Int)≤(i:Int)by omega),decide_eq_true (show(i:Int)<(((zz to fr i).length:Nat):Int)by rw[a6K];omega),tN];simp only[cT,a23,oB,hs];rw[w64 (by omega)];rfl) (by
  unfold a2z;simp only;rw[decide_eq_false (by omega)];rfl)
 have m:zz to fr fr.length=a4Y to fr:=a3a (by rw[a6K,a5n]) fun j a=>by
  rw[a9x,a4U]
  by_cases hj2:j<fr.length
  rw[if_pos hj2];rw[if_neg hj2,a2a (l:=fr) (by omega),b3s (o.at j)]
 rw[m]at c;unfold a2W;refine a0E g ?_
 simp only;refine a0E c rfl
theorem b2j{a:List Int}(g:2≤a.length)(p:Pge):(a4Y a (pgD p)).drop 2=a4Y (a.drop 2) p.2.2.2.2.1:=by
 have h:=a3O p;refine a3a ?_ fun j f=>?_
 rw[a01,a5n,a5n,a01,h];omega;rw[b0J,a4U,a4U,b0J]
 have:(pgD p).getD (2+j) 0=p.2.2.2.2.1.getD j 0:=by
  rw[lD,lD,pgD,a38 (by simp)];congr 2
  simp
 rw[this]
theorem b1i(p:Pge):(pgD p).getD 0 0=mkI p:=rfl
theorem b1j(p:Pge):(pgD p).getD 1 0=((p.2.2.2.2.1.length:Nat):Int):=rfl
theorem b7o{l:List Int}(h:2≤l.length):l=l.getD 0 0::l.getD 1 0::l.drop 2:=by
 match l,h with
 |a::b::l,_=>rfl
theorem a5r{a:List Int}(c:2≤a.length)(f:a.length≤254)(l:List Pge)(h:∀p∈l,PgByt p):2≤(xrF a l).length∧(xrF a l).length≤254:=by
 obtain⟨b,g,_⟩:=a6u l a 254 f fun p hp=>by rw[a3O];have:=(h p hp).len;omega
 exact⟨by omega,g⟩
theorem b4c{z:Pge}(j:∀p∈g,PgByt p)(r:g.length≤8):
  y0h a1X (g,(0:Int),(0:Int),g,((g.length:Nat):Int),(0:Int),([]:List Int),z,())=some (g,(xr g).getD 0 0,(xr g).getD 1 0,(xr g).drop 2,z,()):=by
 have:=a0D (f:=a1X) (fun i=>(g,(xr (g.take i)).getD 0 0,(xr (g.take i)).getD 1 0,g,((g.length:Nat):Int),(i:Int),(xr (g.take i)).drop 2,z,())) g.length (b:=(g,(xr g).getD 0 0,(xr g).getD 1 0,(xr g).drop 2,z,())) (fun i h=>?_) ?_
 exact this;have hp:=j g[i] (a19 h);obtain⟨c,t2⟩:=a5r (a:=[0,0]) (by decide) (by decide) (g.take i) fun p hp=>j p (a09 hp);have c:2≤(xr (g.take i)).length:=c;have e:xr (g.take (i+1))=a4Y (xr (g.take i)) (pgD g[i]):=by
  rw[a04 h];unfold xr;rw[a9T];rfl
 have l:=hp.len;have n:Byt ((xr (g.take i)).drop 2):=fun b m=>a8j _ b (a33 m);have q:wrap .u8 (((g[i]).2.2.2.2.1.length:Nat):Int)=(((g[i]).2.2.2.2.1.length:Nat):Int):=a5N (by omega);unfold a1X;simp only;have o:((xr (g.take i)).drop 2).length<1000:=by rw[a01];have:(xr (g.take i)).length≤254:=t2;omega
 rw[decide_eq_true (show(i:Int)<((g.length:Nat):Int)by omega),a0F h];simp only[cT,oB,b3u,b3v n o (by omega:(g[i]).2.2.2.2.1.length<1000),q];rw[w64 (by omega),e,a4U,a4U,b1i,b1j,b2j c];rfl;unfold a1X;simp only;rw[decide_eq_false (by omega),a08];rfl
def b4d(g:List Pge):List Int:=((g.length:Nat):Int)::xr g
theorem b6r(b:∀p∈g,PgByt p)(h:g≠[])(e:g.length≤8):a2p g=some ((g.head h).1,false,false,true,b4d g,()):=by
 obtain⟨f,t2⟩:=a5r (a:=[0,0]) (by decide) (by decide) g b;have f:2≤(xr g).length:=f;have t2:(xr g).length≤254:=t2;unfold a2p;refine a0E (b4c b e) ?_
 simp only;have hp:=a03.2 h;have c:n0s g 0=some (g.head h):=by
  have:=a0F (l:=g) (k:=0) hp
  rw[show((0:Nat):Int)=0 from rfl]at this;rw[this,a93]
 rw[a0A (by rw[a01];omega),c];have i:wrap .u8 ((g.length:Nat):Int)=((g.length:Nat):Int):=a5N (by omega);simp only[cT,oB,i,a20]
 have:([((g.length:Nat):Int),(xr g).getD 0 0,(xr g).getD 1 0]:List Int)++(xr g).drop 2=b4d g:=by
  unfold b4d
  conv=>rhs;rw[b7o f]
  rfl
 rw[this]
theorem b5Y(a:∀p∈g,PgByt p)(h:g≠[])(f:g.length≤8):gOf g=((g.head h).1,false,false,true,b4d g,()):=by
 unfold gOf;rw[b6r a h f];rfl
theorem b2k(p:Pge):((bits .u8 .and (mkI p) 1) != 0)=p.2.1∧((bits .u8 .and (mkI p) 2) != 0)=p.2.2.1∧((bits .u8 .and (mkI p) 1)==1)=p.2.1∧((bits .u8 .and (mkI p) 2)==2)=p.2.2.1:=by
 unfold mkI;cases p.2.1<;>cases p.2.2.1<;>decide
theorem b4S{z:Pge}{s:Int}{Y:List Int}(m:Byt Y)(j:2≤Y.length)(h:Y.length≤254)(a:∀p∈l,PgByt p)(u:l.length≤1000):
  y0h a2s (s,Y.getD 0 0,Y.getD 1 0,l,((l.length:Nat):Int),(0:Int),Y.drop 2,z,())=some (s,(xrF Y l).getD 0 0,(xrF Y l).getD 1 0,(xrF Y l).drop 2,z,()):=by
 have:=a0D (f:=a2s) (fun i=>(s,(xrF Y (l.take i)).getD 0 0,(xrF Y (l.take i)).getD 1 0,l,((l.length:Nat):Int),(i:Int),(xrF Y (l.take i)).drop 2,z,())) l.length (b:=(s,(xrF Y l).getD 0 0,(xrF Y l).getD 1 0,(xrF Y l).drop 2,z,())) (fun i g=>?_) ?_
 exact this;have hp:=a l[i] (a19 g);obtain⟨q,t2⟩:=a5r j h (l.take i) fun p hp=>a p (a09 hp);have e:xrF Y (l.take (i+1))=a4Y (xrF Y (l.take i)) (pgD l[i]):=by
  rw[a04 g,a9T];rfl
 have c:=hp.len;have o:Byt ((xrF Y (l.take i)).drop 2):=fun b n=>a9U _ _ m b (a33 n);have t:wrap .u8 (((l[i]).2.2.2.2.1.length:Nat):Int)=(((l[i]).2.2.2.2.1.length:Nat):Int):=a5N (by omega);have r:((xrF Y (l.take i)).drop 2).length<1000:=by rw[a01];omega
 unfold a2s;simp only;rw[decide_eq_true (show(i:Int)<((l.length:Nat):Int)by omega),a0F g];simp only[cT,oB,b3u,b3v o r (by omega:(l[i]).2.2.2.2.1.length<1000),t];rw[w64 (by omega),e,a4U,a4U,b1i,b1j,b2j q];rfl;unfold a2s;simp only;rw[decide_eq_false (by omega),a08];rfl
theorem b4T{s f n:Int}{Y:List Int}(g:z<1000):
  y0h a2t (s,f,Y,n,a28 z (0:Int),((z:Nat):Int),(0:Int),q,())=some (.inl (s,f,Y,n,q,())):=by
 have:=a0D (f:=a2t) (fun i=>(s,f,Y,n,a28 z (0:Int),((z:Nat):Int),(i:Int),q,())) z (b:=.inl (s,f,Y,n,q,())) (fun i h=>?_) ?_
 exact this;unfold a2t;simp only;rw[decide_eq_true (show(i:Int)<((z:Nat):Int)by omega),a0F (l:=a28 z (0:Int)) (k:=i) (by rw[a40];exact h),List.getElem_replicate];simp only[cT,oB,bne_self_eq_false,cF];rw[w64 (by omega)];rfl;unfold a2t;simp only;rw[decide_eq_false (by omega)];rfl
theorem b4e{gd:Pge}{k:Int}{Y:List Int}(c:gd.2.2.2.2.1=k::Y)(x:Byt Y)(g:2≤Y.length)(h:Y.length≤254)(j:∀q∈l,PgByt q)(e:l.length≤1000)(hp:PgPlain p)(i:PgByt p)(f:xrF Y l=pgD p++a28 z (0:Int)):a3l (gd,l,p.1)=some (p,true):=by
 obtain⟨E,t2⟩:=a5r g h l j;have y:=hp.b0;have A:=i.len;have B:2+p.2.2.2.2.1.length+z≤254:=by
  have:=congrArg a27 f
  rw[lN,a40,a3O]at this;omega
 have s:(xrF Y l).getD 0 0=mkI p:=by rw[f,a4D,b1i]
 have t:(xrF Y l).getD 1 0=((p.2.2.2.2.1.length:Nat):Int):=by rw[f,a4D,b1j]
 have u:(xrF Y l).drop 2=p.2.2.2.2.1++a28 z (0:Int):=by rw[f];rfl
 have v:n0s (k::Y) 1=some (Y.getD 0 0):=by
  match Y,g with
  |a::b::Y,_=>rfl
 have w:n0s (k::Y) 2=some (Y.getD 1 0):=by
  match Y,g with
  |a::b::Y,_=>rfl
 have m:a59 3 (a52 (k::Y).length (k::Y))=Y.drop 2:=by rw[a08];rfl
 have C:wrap .i64 ((p.2.2.2.2.1.length:Nat):Int)=((p.2.2.2.2.1.length:Nat):Int):=w64 (by omega);obtain⟨m0,D⟩:=a6J p;obtain⟨b1,b2,_,_⟩:=b2k p;unfold a3l;simp only[c,v,w,m,oB];rw[decide_eq_true (show(3:Int)≤(((k::Y).length:Nat):Int)by rw[lC];omega),a0A (by rw[a01];omega)];simp only[cT];refine a0E (b4S x g h j e) ?_
 simp only[s,t,u,C];rw[decide_eq_false (show ¬ mkI p > 3 by omega),decide_eq_false (show ¬ ((p.2.2.2.2.1.length:Nat):Int)<1 by omega),decide_eq_false (show ¬ ((p.2.2.2.2.1.length:Nat):Int) > 252 by omega),decide_eq_false (show ¬ ((p.2.2.2.2.1.length:Nat):Int) > (((p.2.2.2.2.1++a28 z (0:Int)).length:Nat):Int)by rw[lN];omega)];simp only[cF,oB,tN];rw[decide_eq_true (show(0:Int)≤((p.2.2.2.2.1.length:Nat):Int)by omega),decide_eq_true (show((p.2.2.2.2.1.length:Nat):Int)≤(((p.2.2.2.2.1++a28 z (0:Int)).length:Nat):Int)by rw[lN];omega)];have r:a52 ((p.2.2.2.2.1++a28 z (0:Int)).length-p.2.2.2.2.1.length) (a59 p.2.2.2.2.1.length (p.2.2.2.2.1++a28 z (0:Int)))=a28 z (0:Int):=by
  rw[b01,a30 (by rw[lN];omega)]
 have n:(p.2.2.2.2.1++a28 z (0:Int)).length-p.2.2.2.2.1.length=z:=by rw[lN,a40];omega
 simp only[cT,a23];rw[r,n];refine a0E (b4T (by omega)) ?_
 simp only;rw[decide_eq_true (show(0:Int)≤((p.2.2.2.2.1.length:Nat):Int)by omega),decide_eq_true (show((p.2.2.2.2.1.length:Nat):Int)≤(((p.2.2.2.2.1++a28 z (0:Int)).length:Nat):Int)by rw[lN];omega),tN,b14,a0A (by omega),b1,b2];have o:(p.1,p.2.1,p.2.2.1,false,p.2.2.2.2.1,())=p:=by rw[←hp.ng]
 simp only[cT,a23,o,a9k hp.toPgOk,oB]
theorem b0K:∀(k n i:Nat),i<k→(a2i n k)[i]?=some ((n / 256^i%256:Nat):Int)
 |0,_,_,h=>absurd h (Nat.not_lt_zero _)
 |k+1,n,0,_=>by simp[a2i]
 |k+1,n,i+1,h=>by
  have:=b0K k (n / 256) i (by omega)
  rw[a2i,List.getElem?_cons_succ,this,a85,a79,b51]
theorem b6s{k:Nat}(h:i<k):(a0P n k)[i]?=some ((n / 256^(k-1-i)%256:Nat):Int):=by
 rw[a0P,List.getElem?_reverse (by rw[a4R];exact h),a4R,b0K k n _ (by omega)]
theorem b7U(h:o≤64):E0j .u64 (N:Int) (o:Int)=((N / 2^o:Nat):Int):=b7R h
theorem a9y{k:Nat}(q:1≤k)(l:k≤8):a2Z ((n:Int),(k:Int))=some (a0P n k):=by
 unfold a2Z;have e:wrap .i64 (y0d (y0e (k:Int) 8) 0-1)=((k-1:Nat):Int):=by
  have j:y0e (k:Int) 8=(k:Int):=by
   unfold y0e;rw[decide_eq_false (show ¬ (8:Int)<(k:Int)by omega)];rfl
  rw[j,a8s,w64 (by omega)];omega
 simp only[e];have m:=a0O n k
 have:=a0D (f:=a6a) (fun i=>((n:Int),(((k:Int)-1)-(i:Int)),(a0P n k).take i,())) k (b:=(a0P n k,())) (fun i g=>?_) ?_
 rw[a57,show(k:Int)-1-((0:Nat):Int)=((k-1:Nat):Int)by omega]at this;exact a0E this rfl;unfold a6a;simp only;have o:wrap .i64 (8*((k:Int)-1-(i:Int)))=((8*(k-1-i):Nat):Int):=by rw[w64 (by omega)];omega
 have w2:wrap .u64 ((8*(k-1-i):Nat):Int)=((8*(k-1-i):Nat):Int):=a3v (by omega);have p:wrap .i64 ((k:Int)-1-(i:Int)-1)=(k:Int)-1-((i+1:Nat):Int):=by rw[w64 (by omega)];omega
 have a:2^(8*(k-1-i))=256^(k-1-i):=by rw[Nat.pow_mul]
 have h:i<(a0P n k).length:=by rw[m];exact g
 have c:(a0P n k)[i]=((n / 256^(k-1-i)%256:Nat):Int):=by
  have:=b6s (n:=n) g
  rw[lG h]at this;exact Option.some.inj this
 rw[decide_eq_true (show(k:Int)-1-(i:Int)≥0 by omega),o,w2,p,b7U (by omega),b7S,a];rw[decide_eq_false (show ¬ ((8*(k-1-i):Nat):Int)<0 by omega),a0A (by rw[a00];omega),a04 h,c];rfl;unfold a6a;simp only;rw[decide_eq_false (show ¬ (k:Int)-1-(k:Int)≥0 by omega),a30 (by omega)];rfl
theorem b5H(l:List Int):a3K l=a0Z l:=by
 have o:∀(s:Int)(n i:Int),y0h a3A (l,s,i,(0:Int),())=(y0h a0Y (s,l,n,i,(0:Int),())).map fun r=>(r.2.1,r.1,r.2.2.2.1,()):=fun s n i=>by
  have:=a6y (f:=a0Y) (g:=a3A) (fun a=>(a.2.1,a.1,a.2.2.2.1,a.2.2.2.2.1,())) (fun r=>(r.2.1,r.1,r.2.2.2.1,())) (fun _=>True) (fun a _=>⟨by
   unfold a3A a0Y;simp only;cases decide (a.2.2.2.2.1<8)with
   |false=>rfl
   |true=>
    simp only[cT];cases (bits .u32 .and a.1 1)==1<;>rfl,fun _ _=>trivial⟩) (s:=(s,l,n,i,(0:Int),())) trivial
  exact this
 have p:=a6y (f:=a1E) (g:=a3B) (fun a=>(a.2.1,a.1,a.2.2.2.1,())) (fun r=>(r.1,())) (fun a=>a.2.1=l∧a.2.2.1=((l.length:Nat):Int)) (fun a j=>by
  obtain⟨s,x,n,i,u⟩:=a;obtain⟨rfl,B⟩:=j;simp only at B;subst B;have z:∀(s n i:Int) r,y0h a0Y (s,x,n,i,(0:Int),())=some r→r.2.1=x∧r.2.2.1=n:=fun s n i r q=>by
   have h:=b1J (f:=a0Y) (fun m a=>a.2.1=x∧a.2.2.1=n∧(a.2.2.2.2.1+(m:Int)=8)∧0≤a.2.2.2.2.1) (fun r=>r.2.1=x∧r.2.2.1=n) (fun m a j=>by
    obtain⟨t,y,D,E⟩:=j;unfold a0Y
    by_cases h8:a.2.2.2.2.1<8
    left;rw[decide_eq_true h8];simp only[cT];have w:wrap .i64 (a.2.2.2.2.1+1)=a.2.2.2.2.1+1:=w64 (by omega);rw[w];cases (bits .u32 .and a.1 1)==1;exact⟨_,m-1,rfl,by omega,t,y,by show a.2.2.2.2.1+1+((m-1:Nat):Int)=8;omega,by show 0≤a.2.2.2.2.1+1;omega⟩;exact⟨_,m-1,rfl,by omega,t,y,by show a.2.2.2.2.1+1+((m-1:Nat):Int)=8;omega,by show 0≤a.2.2.2.2.1+1;omega⟩;right;rw[decide_eq_false h8];exact⟨_,rfl,t,y⟩) 8 (s,x,n,i,(0:Int),()) ⟨rfl,rfl,rfl,b31 0⟩
   obtain⟨b,A,C⟩:=h;rw[q]at A;cases A;exact C
  refine⟨?_,fun s' c=>?_⟩
  ·unfold a3B a1E;simp only;cases hd:decide (i<((x.length:Nat):Int))with
   |false=>rfl
   |true=>
    simp only[cT];cases hg:n0s x i with
    |none=>rfl
    |some v=>
     simp only[oB];rw[o (bits .u32 .xor s (wrap .u32 v)) ((x.length:Nat):Int) i];cases y0h a0Y (bits .u32 .xor s (wrap .u32 v),x,((x.length:Nat):Int),i,(0:Int),())<;>rfl
  ·unfold a1E at c;simp only at c;cases hd:decide (i<((x.length:Nat):Int))with
   |false=>rw[hd]at c;cases c
   |true=>
    rw[hd]at c;simp only[cT]at c;cases hg:n0s x i with
    |none=>rw[hg]at c;cases c
    |some v=>
     rw[hg]at c;simp only[oB]at c;cases q:y0h a0Y (bits .u32 .xor s (wrap .u32 v),x,((x.length:Nat):Int),i,(0:Int),())with
     |none=>rw[q]at c;cases c
     |some r=>
      rw[q]at c;cases c;exact z _ _ _ r q) (s:=((4294967295:Int),l,((l.length:Nat):Int),(0:Int),())) ⟨rfl,rfl⟩
 unfold a3K a0Z;have e:y0h a3B (l,(4294967295:Int),(0:Int),())=_:=p;rw[e];cases y0h a1E ((4294967295:Int),l,((l.length:Nat):Int),(0:Int),())<;>rfl
theorem b4U{p:Pk}{s:Int}(h:PkOk s p)(D:0≤s)(E:s<4):a4b p=some (a1l p,0):=by
 obtain⟨a,g,f,l,j,c,u⟩:=p;obtain⟨o,q,r,t,v,w,x⟩:=h;simp only at o q r t v w x;subst o;have y:wrap .u64 g=((g.toNat:Nat):Int):=by
  have:=a3v (n:=g.toNat) (by omega)
  rwa [show((g.toNat:Nat):Int)=g by omega]at this⊢
 have z:wrap .u64 f=((f.toNat:Nat):Int):=by
  have:=a3v (n:=f.toNat) (by omega)
  rwa [show((f.toNat:Nat):Int)=f by omega]at this⊢
 have b1:=a9y (n:=g.toNat) (k:=8) (by omega) (by omega);have b2:=a9y (n:=f.toNat) (k:=8) (by omega) (by omega);rw[show((8:Nat):Int)=8 from rfl]at b1 b2;have A:a5x a=some true:=by
  unfold a5x;rw[decide_eq_true (show a≥0 by omega),decide_eq_true (show a<4 by omega)];rfl
 have B:a3u g=some true:=by
  unfold a3u;rw[decide_eq_true (show g≥0 by omega),decide_eq_true (show g≤1125899906842624 by omega)];rfl
 have C:a3u f=some true:=by
  unfold a3u;rw[decide_eq_true (show f≥0 by omega),decide_eq_true (show f≤1125899906842624 by omega)];rfl
 unfold a4b;simp only[A,B,C,oB,bT,cF];rw[decide_eq_false (show ¬ ((c.length:Nat):Int) > 65536 by omega)];simp only[cF];have key:∀b:Int,wrap .u8 b=a1Z (a,g,f,l,j,c,u)→
   ((a2Z (wrap .u64 g,8)).bind fun e=>
    bif lim (2+(a27 e))then(
    (a2Z (wrap .u64 f,8)).bind fun m=>
    bif lim ((a27 (a31 ([wrap .u8 a,wrap .u8 b]:List Int) e))+(a27 m))then(
    bif lim ((a27 (a31 (a31 ([wrap .u8 a,wrap .u8 b]:List Int) e) m))+(a27 c))then some (a31 (a31 (a31 ([wrap .u8 a,wrap .u8 b]:List Int) e) m) c,(0:Int))
    else none)
    else none)
    else none)=some (a1l (a,g,f,l,j,c,u),0):=fun b i=>by
  rw[y,z,b1,b2];simp only[oB,a0O,a20,lN,lC,a06,i];rw[a0A (by omega),a0A (by omega),a0A (by omega)];simp only[cT,a1l,aA]
 cases l<;>cases j;simp only[cF,oB];exact key 0 (by kernel_rfl);simp only[cT,cF,oB];exact key _ (by kernel_rfl);simp only[cT,cF,oB];exact key 1 (by kernel_rfl);simp only[cT,oB];exact key _ (by kernel_rfl)
theorem b3w(p:Pge):a6b p=some (mkI p):=by
 obtain⟨a,b,c,d⟩:=p;cases b<;>cases c<;>kernel_rfl
theorem a5U(h:PgOk p):a1Y p=some (pgB p,0):=by
 obtain⟨r,s,t,a⟩:=h;have u:p.2.2.2.2.1.length≤255:=by
  revert a
  cases p.2.2.2.1<;>simp only[cT,cF]<;>omega
 have e:a5y (((p.2.2.2.2.1.length:Nat):Int),p.2.2.2.1)=some true:=by
  unfold a5y;simp only;rw[decide_eq_true (show((p.2.2.2.2.1.length:Nat):Int)≥1 by omega)];simp only[cT]
  by_cases h252:((p.2.2.2.2.1.length:Nat):Int)≤252
  rw[decide_eq_true h252];rfl;rw[decide_eq_false h252]
  revert a
  cases p.2.2.2.1;simp only[cF];intro a;omega;intro _;rw[decide_eq_true (show((p.2.2.2.2.1.length:Nat):Int)≤255 by omega)];rfl
 have j:wrap .u64 p.1=((p.1.toNat:Nat):Int):=by
  have:=a3v (n:=p.1.toNat) (by omega)
  rwa [show((p.1.toNat:Nat):Int)=p.1 by omega]at this⊢
 have b1:=a9y (n:=p.1.toNat) (k:=4) (by omega) (by omega);rw[show((4:Nat):Int)=4 from rfl]at b1;obtain⟨m,w,x⟩:=a7j (l:=pgH p) (by rw[a6s];omega);have hs:wrap .u64 (a0V (pgH p))=(((a0V (pgH p)).toNat:Nat):Int):=by
  have:=a3v (n:=(a0V (pgH p)).toNat) (by omega)
  rwa [show(((a0V (pgH p)).toNat:Nat):Int)=a0V (pgH p)by omega]at this⊢
 have b2:=a9y (n:=(a0V (pgH p)).toNat) (k:=4) (by omega) (by omega);rw[show((4:Nat):Int)=4 from rfl]at b2;obtain⟨m0,v⟩:=a6J p;have key:∀g:Int,wrap .u8 g=pgF p→
   ((a2Z (wrap .u64 p.1,4)).bind fun f=>
    bif lim (3+(a27 f))then(
    bif lim ((a27 (a31 ([75,80,wrap .u8 g]:List Int) f))+1)then(
    bif lim ((a27 (a31 (a31 ([75,80,wrap .u8 g]:List Int) f) ([wrap .u8 ((a27 p.2.2.2.2.1:Nat):Int)]:List Int)))+(a27 p.2.2.2.2.1))then(
    (a3K (a31 (a31 (a31 ([75,80,wrap .u8 g]:List Int) f) ([wrap .u8 ((a27 p.2.2.2.2.1:Nat):Int)]:List Int)) p.2.2.2.2.1)).bind fun q=>
    (a2Z (wrap .u64 q,4)).bind fun c=>
    bif lim ((a27 (a31 (a31 (a31 ([75,80,wrap .u8 g]:List Int) f) ([wrap .u8 ((a27 p.2.2.2.2.1:Nat):Int)]:List Int)) p.2.2.2.2.1))+(a27 c))then some (a31 (a31 (a31 (a31 ([75,80,wrap .u8 g]:List Int) f) ([wrap .u8 ((a27 p.2.2.2.2.1:Nat):Int)]:List Int)) p.2.2.2.2.1) c,(0:Int))
    else none)
    else none)
    else none)
    else none)=some (pgB p,0):=fun g b=>by
  have i:a31 (a31 (a31 ([75,80,pgF p]:List Int) (a0P p.1.toNat 4)) ([wrap .u8 ((a27 p.2.2.2.2.1:Nat):Int)]:List Int)) p.2.2.2.2.1=pgH p:=by
   simp only[pgH,pgF,a20,aA]
  rw[j,b1,b];simp only[oB,i,b5H,m,hs,b2];simp only[a0O,a20,lN,lC,a06,a6s];rw[a0A (by omega),a0A (by omega),a0A (by omega),a0A (by omega)];rfl
 unfold a1Y;rw[decide_eq_false (show ¬ p.1<0 by omega),decide_eq_false (show ¬ p.1 > 2147483647 by omega)];simp only[cF,e,oB,bT,b3w];have hv:=b3n p;cases hg:p.2.2.2.1 with
 |false=>
  rw[hg]at hv;simp only[cF,oB];refine key (mkI p) ?_
  have:wrap .u8 (mkI p)=mkI p:=by
   have:=a5N (n:=(mkI p).toNat) (by omega)
   rwa [show(((mkI p).toNat:Nat):Int)=mkI p by omega]at this
  rw[this,hv];unfold mkI;simp only[cF];omega
 |true=>
  rw[hg]at hv;simp only[cT,oB];refine key _ ?_
  have o:wrap .i64 (mkI p+4)=mkI p+4:=w64 (by omega)
  have:wrap .u8 (mkI p+4)=mkI p+4:=by
   have:=a5N (n:=(mkI p+4).toNat) (by omega)
   rwa [show(((mkI p+4).toNat:Nat):Int)=mkI p+4 by omega]at this
  rw[o,this,hv];unfold mkI;simp only[cT];omega
theorem b0L(h:∀p∈l,PgOk p)(m:l.length<1000000):a3p l=some (a0K l,0):=by
 unfold a3p;refine a0E (v:=.inl (a0K l,())) ?_ rfl
 have:=a0D (f:=a3o) (fun i=>(l,(i:Int),a0K (l.take i),())) l.length (b:=.inl (a0K l,())) (fun i a=>?_) ?_
 exact this;unfold a3o;simp only;have hp:=h l[i] (a19 a);have j:(l[i]).2.2.2.2.1.length≤255:=by
  have:=hp.b1
  revert this
  cases (l[i]).2.2.2.1<;>simp only[cT,cF]<;>omega
 have g:=a6p (l.take i) fun q c=>h q (a09 c);rw[a00]at g;rw[decide_eq_true (show(i:Int)<((l.length:Nat):Int)by omega),a0F a];simp only[cT,oB,a5U hp,bne_self_eq_false,cF];rw[a0A (by rw[a7k];omega),w64 (by omega),a04 a];have e:a0K (l.take i++[l[i]])=a0K (l.take i)++pgB l[i]:=by unfold a0K;rw[a56,a49]
 rw[e];rfl;unfold a3o;simp only;rw[decide_eq_false (by omega),a08];rfl
theorem b2l(a b:Nat):y0e (a:Int) (b:Int)=((min a b:Nat):Int):=by
 unfold y0e
 by_cases hc:((b:Nat):Int)<((a:Nat):Int)
 rw[decide_eq_true hc,a64 (by omega)];rfl;rw[decide_eq_false hc,a61 (by omega)];rfl
theorem b7p{i0:Int}{x:List Pk}{pages:List Pge}(r:b≠[])(o:pages.length+b.length<1000000):
  y0h a3m (x,(0:Int),i0,(0:Int),pages,b,())=some (x,(0:Int),i0,pages++a1P true pages.length b,()):=by
 refine a1F (f:=a3m) (fun k j=>∃(i:Nat)(Q:List Pge),j=(x,(0:Int),i0,(i:Int),Q,b,())∧k=(b.drop i).length∧i≤b.length+252∧Q.length+(b.drop i).length<1000000∧Q++a1P (decide (i=0)) Q.length (b.drop i)=pages++a1P true pages.length b)
  (fun w=>w=(x,(0:Int),i0,pages++a1P true pages.length b,())) b.length (x,((0:Nat):Int),i0,((0:Nat):Int),pages,b,()) ⟨0,pages,rfl,rfl,by omega,o,rfl⟩ (fun w e n=>by rw[n]at e;exact e) (fun k j c=>?_)
 obtain⟨i,Q,rfl,rfl,s,t,a⟩:=c;have u:(b.drop i).length=b.length-i:=a01;unfold a3m;simp only
 by_cases hlt:i<b.length
 left;have p:b.drop i≠[]:=a03.1 (by omega);rw[decide_eq_true (show(i:Int)<((b.length:Nat):Int)by omega)];have q:wrap .i64 ((0:Int)+((Q.length:Nat):Int))=((Q.length:Nat):Int):=by rw[w64 (by omega)];omega
 have w2:wrap .i64 ((i:Int)+252)=((i+252:Nat):Int):=by rw[w64 (by omega)];omega
 rw[q,w2,b2l];have g:a52 ((a26 ((min (i+252) b.length:Nat):Int))-(a26 (i:Int))) (a59 (a26 (i:Int)) b)=(b.drop i).take 252:=by
  rw[tN,tN]
  by_cases hc:i+252<b.length
  rw[a61 (by omega),show i+252-i=252 by omega];rw[a64 (by omega),a30 (by omega),a30 (by omega)]
 rw[g,tN,a0A (show 0+((b.drop i).take 252).length<2147483648 by rw[a00];omega),a0A (show Q.length+1<2147483648 by omega)];rw[decide_eq_true (show(0:Int)≤((min (i+252) b.length:Nat):Int)by omega),decide_eq_true (show((min (i+252) b.length:Nat):Int)≤((b.length:Nat):Int)by omega),decide_eq_true (show(0:Int)≤(i:Int)by omega),decide_eq_true (show(i:Int)≤((min (i+252) b.length:Nat):Int)by omega)];have l:((i:Int)==0)=decide (i=0):=by
  by_cases h:i=0
  rw[h];rfl;rw[decide_eq_false h];simp;omega
 have m:(((min (i+252) b.length:Nat):Int)==((b.length:Nat):Int))=decide ((b.drop i).length≤252):=by
  by_cases h:(b.drop i).length≤252
  rw[decide_eq_true h];simp;omega;rw[decide_eq_false h];simp;omega
 rw[l,m];simp only[cT,a23];refine⟨_,(b.drop (i+252)).length,rfl,by simp only[a01];omega,i+252,Q++[((Q.length:Int),decide (i=0),decide ((b.drop i).length≤252),false,(b.drop i).take 252,())],rfl,rfl,by omega,?_,?_⟩;simp only[lN,a07,a01];omega;rw[←a,a2Q p,a92];simp only[aA,a47,lN,a07];rw[decide_eq_false (show ¬ i+252=0 by omega)];right;rw[decide_eq_false (show ¬ (i:Int)<((b.length:Nat):Int)by omega)];have h:b.drop i=[]:=a44.2 (by omega);rw[h,a2k,a02]at a;exact⟨_,rfl,by rw[a]⟩
theorem b2m{Z:List Pk}(h:∀p∈Z,a5O p)(i:Z.length<40):∀(rest done:List Pk)(pages:List Pge),done++rest=Z→pages.length+1000*rest.length<1000000→
  y0h a3n (Z,(0:Int),((done.length:Nat):Int),pages,())=some (.inl ((0:Int),pages++a1z pages.length (rest.map a1l),()))
 | [],done,pages,he,_=>by
  rw[a02]at he;subst he;refine a1g ?_
  unfold a3n;simp only;rw[decide_eq_false (by omega),b28,a1z,a02];rfl
 |q::rest,done,pages,he,hn=>by
  have f:done.length+(rest.length+1)=Z.length:=by rw[←he,lN,lC]
  rw[lC]at hn;obtain⟨s,hs,a,b⟩:=h q (by rw[←he];simp);have g:(a1l q).length≤918:=by
   have:=hs.dat
   rw[a5l];omega
  have c:=a6B (a1l q).length true pages.length (a1l q) (a13 _);have e:n0s Z ((done.length:Nat):Int)=some q:=by
   have:done.length<Z.length:=by omega
   rw[a0F this];congr 1;subst he;rw[a67 (a13 _)]
   simp
  have j:=b2m h i rest (done++[q]) (pages++a1P true pages.length (a1l q)) (by rw[←he,aA];rfl) (by rw[lN];omega);rw[a54,a1z,←aA,show pages.length+(a1P true pages.length (a1l q)).length=(pages++a1P true pages.length (a1l q)).length by rw[lN],←j];refine a1A ?_
  unfold a3n;simp only;rw[decide_eq_true (show((done.length:Nat):Int)<((Z.length:Nat):Int)by omega),e];simp only[cT,oB,b4U hs a b,bne_self_eq_false,cF];rw[b7p (a7i q) (by omega)];simp only[oB];rw[w64 (by omega),lN,a07];rfl
theorem b5I(h:Woven Z):a4u (Z,0)=some (a0J Z,0):=by
 have a:=h.len;have g:=a5q h;unfold a4u;simp only;rw[decide_eq_false (show ¬ (0:Int)<0 by decide),decide_eq_false (show ¬ (0:Int) > 2147483647 by decide)];simp only[cF,oB]
 have:=b2m h.pk (by omega) Z [] [] rfl (by rw[a06];omega)
 rw[a05,a06]at this;refine a0E (v:=.inl ((0:Int),a0J Z,())) this ?_
 simp only
 by_cases hp:((a27 (a0J Z):Nat):Int) > 0
 rw[decide_eq_true hp];have f:wrap .i64 ((0:Int)+((a27 (a0J Z):Nat):Int))=((a27 (a0J Z):Nat):Int):=by rw[w64 (by omega)];omega
 have w2:wrap .i64 (((a27 (a0J Z):Nat):Int)-1)=((a27 (a0J Z):Nat):Int)-1:=w64 (by omega);rw[f,w2];simp only[cT,oB];rw[decide_eq_false (by omega)];rfl;rw[decide_eq_false hp];rfl
def yy(y0 b:List Int)(k:Nat):List Int:=(a62 (2+max (y0.length-2) k)).map fun j=>if 2≤j∧j<k+2 then bx (y0.getD j 0) (b.getD (j-2) 0)else y0.getD j 0
theorem a8l(h b:List Int)(k:Nat):(yy h b k).length=2+max (h.length-2) k:=by rw[yy,a42,a81]
theorem a9z{y0:List Int}{k:Nat}(g:2≤y0.length)(j:Nat):(yy y0 b k).getD j 0=if 2≤j∧j<k+2 then bx (y0.getD j 0) (b.getD (j-2) 0)else y0.getD j 0:=by
 by_cases h:j<2+max (y0.length-2) k
 rw[lD,yy,a89,a96 h];rfl;rw[a2a (by rw[a8l];omega),if_neg (by omega),a2a (by omega)]
theorem b4V{y0:List Int}(hp:n0s l (i:Int)=some p)(w:p.2.2.2.2.1.length≤252)(e:2≤y0.length)(v:y0.length≤300):
  y0h a3L (l,(i:Int),(0:Int),y0,())=some (l,(i:Int),yy y0 p.2.2.2.2.1 p.2.2.2.2.1.length,()):=by
 have:=a0D (f:=a3L) (fun k=>(l,(i:Int),(k:Int),yy y0 p.2.2.2.2.1 k,())) p.2.2.2.2.1.length (b:=(l,(i:Int),yy y0 p.2.2.2.2.1 p.2.2.2.2.1.length,())) (fun k n=>?_) ?_
 have o:yy y0 p.2.2.2.2.1 0=y0:=a3a (by rw[a8l];omega) fun j _=>by rw[a9z e,if_neg (by omega)]
 rw[o]at this;exact this
 ·unfold a3L;simp only[hp,oB];have w2:wrap .i64 ((k:Int)+2)=((k+2:Nat):Int):=by rw[w64 (by omega)];omega
  have s:=a8l y0 p.2.2.2.2.1 k;have q:p.2.2.2.2.1.getD k 0=p.2.2.2.2.1[k]:=by rw[lD,lG n];rfl
  rw[decide_eq_true (show(k:Int)<((p.2.2.2.2.1.length:Nat):Int)by omega),w2];have a:∀g:List Int,g.length=2+max (y0.length-2) (k+1)→(∀j,g.getD j 0=(yy y0 p.2.2.2.2.1 k).getD j 0)→
    ((show Option (List Pge×(Int×(Int×(List Int×Unit))))from some (l,(i:Int),(k:Int),g,())).bind fun h=>
     bif (decide ((0:Int)≤(wrap .i64 (h.2.2.1+2))))&&(decide ((wrap .i64 (h.2.2.1+2))<((a27 h.2.2.2.1:Nat):Int)))then(
     (n0s h.1 h.2.1).bind fun t=>
     (n0s t.2.2.2.2.1 h.2.2.1).bind fun u=>
     bif (decide ((0:Int)≤(wrap .i64 (h.2.2.1+2))))&&(decide ((wrap .i64 (h.2.2.1+2))<((a27 h.2.2.2.1:Nat):Int)))then(some (Sum.inl (h.1,h.2.1,wrap .i64 (h.2.2.1+1),b43 h.2.2.2.1 (a26 (wrap .i64 (h.2.2.1+2))) (bits .u8 .xor (a37 h.2.2.2.1 (a26 (wrap .i64 (h.2.2.1+2))) (0:Int)) u),())):Option ((List Pge×(Int×(Int×(List Int×Unit)))) ⊕ (List Pge×(Int×(List Int×Unit)))))
     else none)
     else none)=(some (Sum.inl (l,(i:Int),((k+1:Nat):Int),yy y0 p.2.2.2.2.1 (k+1),())):Option ((List Pge×(Int×(Int×(List Int×Unit)))) ⊕ (List Pge×(Int×(List Int×Unit))))):=fun g m c=>by
   simp only[oB,w2,hp];rw[decide_eq_true (show(0:Int)≤((k+2:Nat):Int)by omega),decide_eq_true (show((k+2:Nat):Int)<((g.length:Nat):Int)by omega),a0F n,tN];simp only[cT,a23,oB];have r:g.set (k+2) (bits .u8 .xor (g.getD (k+2) 0) p.2.2.2.2.1[k])=yy y0 p.2.2.2.2.1 (k+1):=a3a (by rw[a32,a8l];exact m) fun j x=>by
    rw[a7K,a9z e,c,c,a9z e,a9z e]
    by_cases hjk:k+2=j
    subst hjk;rw[if_pos ⟨rfl,by omega⟩,if_neg (by omega),if_pos (by omega),show k+2-2=k by omega,q];rfl;rw[if_neg (by omega)]
    by_cases hj2:2≤j∧j<k+2
    rw[if_pos hj2,if_pos (by omega)];rw[if_neg hj2,if_neg (by omega)]
   rw[r,w64 (by omega)];rfl
  simp only[cT]
  by_cases hpad:(((yy y0 p.2.2.2.2.1 k).length:Nat):Int)≤((k+2:Nat):Int)
  rw[decide_eq_true hpad,a0A (by omega)];simp only[cT];refine a _ (by rw[a20,lN,a07];omega) fun j=>?_
  have:=a4D (yy y0 p.2.2.2.2.1 k) 1 j
  exact this;rw[decide_eq_false hpad];simp only[cF];exact a _ (by omega) fun j=>rfl
 unfold a3L;simp only[hp,oB];rw[decide_eq_false (by omega)];rfl
theorem b3x(q:∀p∈l,PgByt p)(x:l.length≤1000):a4m l=some (xr l):=by
 unfold a4m
 have:=a0D (f:=a4O) (fun i=>(l,(i:Int),xr (l.take i),())) l.length (b:=(xr l,())) (fun i g=>?_) ?_
 exact a0E this rfl
 ·have hp:=q l[i] (a19 g);have h:=hp.len;obtain⟨c,t2⟩:=a5r (a:=[0,0]) (by decide) (by decide) (l.take i) fun p hp=>q p (a09 hp);have c:2≤(xr (l.take i)).length:=c;have t2:(xr (l.take i)).length≤254:=t2;have o:=a8j (l.take i);obtain⟨m0,y⟩:=a6J l[i];have e:xr (l.take (i+1))=a4Y (xr (l.take i)) (pgD l[i]):=by
   rw[a04 g];unfold xr;rw[a9T];rfl
  have v:wrap .u8 (mkI l[i])=mkI l[i]:=by
   have:=a5N (n:=(mkI l[i]).toNat) (by omega)
   rwa [show(((mkI l[i]).toNat:Nat):Int)=mkI l[i]by omega]at this
  have u:wrap .u8 (((l[i]).2.2.2.2.1.length:Nat):Int)=(((l[i]).2.2.2.2.1.length:Nat):Int):=a5N (by omega);unfold a4O;simp only;rw[decide_eq_true (show(i:Int)<((l.length:Nat):Int)by omega),decide_eq_true (show(0:Int)<(((xr (l.take i)).length:Nat):Int)by omega),a0F g,decide_eq_true (show(1:Int)<(((xr (l.take i)).length:Nat):Int)by omega)];simp only[cT,oB,b3w,a32,v,u]
  try rw[decide_eq_true (show(0:Int)<(((xr (l.take i)).length:Nat):Int)by omega)]
  try rw[decide_eq_true (show(1:Int)<(((xr (l.take i)).length:Nat):Int)by omega)]
  try simp only[cT]
  rw[b4V (a0F g) h (by rw[a32,a32];exact c) (by rw[a32,a32];omega)];simp only[oB];rw[e,w64 (by omega)];have t:=a3O l[i];have s:yy (((xr (l.take i)).set 0 (bits .u8 .xor ((xr (l.take i)).getD 0 0) (mkI l[i]))).set 1 (bits .u8 .xor ((xr (l.take i)).getD 1 0) (((l[i]).2.2.2.2.1.length:Nat):Int))) (l[i]).2.2.2.2.1 (l[i]).2.2.2.2.1.length=a4Y (xr (l.take i)) (pgD l[i]):=by
   refine a3a ?_ fun j w=>?_
   rw[a8l,a5n,t,a32,a32];omega
   ·rw[a9z (by rw[a32,a32];exact c),a4U];simp only[a7K,a32]
    match j with
    |0=>rw[if_neg (by omega),if_neg (by omega),if_pos ⟨rfl,by omega⟩];rfl
    | 1=>rw[if_neg (by omega),if_pos ⟨rfl,by omega⟩];rfl
    |j+2=>
     have r:(pgD l[i]).getD (j+2) 0=(l[i]).2.2.2.2.1.getD j 0:=by
      rw[lD,lD,pgD,a38 (by simp)];congr 2
     rw[r]
     by_cases hj2:j<(l[i]).2.2.2.2.1.length
     rw[if_pos ⟨by omega,by omega⟩,if_neg (by omega),if_neg (by omega),show j+2-2=j by omega];rw[if_neg (by omega),if_neg (by omega),if_neg (by omega),a2a (l:=(l[i]).2.2.2.2.1) (by omega),b3s (o.at _)]
  have m:=s;rw[m];rfl
 unfold a4O;simp only;rw[decide_eq_false (by omega),a08];rfl
theorem b4W(hp:∀p∈l,PgPlain p)(hs:a1v 0 l)(m:l.length<1000000):y0h a2u (l,(0:Int),())=some (.inl (l,())):=by
 have:=a0D (f:=a2u) (fun i=>(l,(i:Int),())) l.length (b:=.inl (l,())) (fun i c=>?_) ?_
 exact this;have h:=hp l[i] (a19 c);have g:=(hs i l[i] (lG c)).1;rw[a74]at g;have e:wrap .i64 ((i:Int)+1)=((i+1:Nat):Int):=by rw[w64 (by omega)];omega
 unfold a2u;simp only;rw[decide_eq_true (show(i:Int)<((l.length:Nat):Int)by omega),a0F c];simp only[cT,oB,a5U h.toPgOk,bne_self_eq_false,cF,h.ng]
 by_cases h0:i=0
 subst h0;rw[decide_eq_false (show ¬ ((0:Nat):Int) > 0 by decide)];simp only[cF,oB,e];rw[decide_eq_true (show(i:Int) > 0 by omega)];have w2:wrap .i64 ((i:Int)-1)=((i-1:Nat):Int):=by rw[w64 (by omega)];omega
 have a:=(hs (i-1) l[i-1] (lG (by omega))).1;rw[a74]at a;rw[w2,a0F (show i-1<l.length by omega)];have j:wrap .i64 (((i-1:Nat):Int)+1)=(i:Int):=by rw[w64 (by omega)];omega
 simp only[cT,oB,g,a,j,bne_self_eq_false,cF,e];unfold a2u;simp only;rw[decide_eq_false (by omega)];rfl
theorem b4X{out:List Pge}{a:Int}(hp:∀p∈g,PgPlain p)(e:out.length+g.length<1000000):y0h a2v (l,a,g,(0:Int),out,())=some (l,a,g,out++g,()):=by
 have:=a0D (f:=a2v) (fun i=>(l,a,g,(i:Int),out++g.take i,())) g.length (b:=(l,a,g,out++g,())) (fun i h=>?_) ?_
 rw[a57,a02]at this;exact this;have c:=(hp g[i] (a19 h)).b2;unfold a2v;simp only;rw[decide_eq_true (show(i:Int)<((g.length:Nat):Int)by omega),a0F h];simp only[cT,oB];rw[a0A (by omega),a0A (by rw[lN,a00];omega),a04 h,w64 (by omega)];simp only[cT,a20,aA,a05];rfl;unfold a2v;simp only;rw[decide_eq_false (by omega),a08];rfl
theorem b5J(hp:∀p∈l,PgPlain p)(A:∀p∈l,PgByt p)(hs:a1v 0 l)(E:l.length<100000):a4v l=some (a0Q l,0):=by
 unfold a4v;refine a0E (b4W hp hs (by omega)) ?_
 simp only;refine a0E (v:=(a0Q l,())) ?_ rfl;refine a1F (f:=a4A) (fun k s=>∃(i:Nat)(out:List Pge),s=(l,(i:Int),out,())∧k=(l.drop i).length∧i≤l.length+8∧out.length≤2*i∧out++a0Q (l.drop i)=a0Q l) (fun w=>w=(a0Q l,())) l.length (l,(0:Int),([]:List Pge),()) ⟨0,[],rfl,rfl,by omega,by simp,rfl⟩ (fun w r z=>by rw[z]at r;exact r) (fun k s q=>?_);obtain⟨i,out,rfl,rfl,D,F,j⟩:=q;have G:(l.drop i).length=l.length-i:=a01;unfold a4A;simp only
 by_cases h:i<l.length
 left;have n:l.drop i≠[]:=a03.1 (by omega);have w2:wrap .i64 ((i:Int)+8)=((i+8:Nat):Int):=by rw[w64 (by omega)];omega
 have b:a59 (a26 (i:Int)) (a52 (a26 ((min (i+8) l.length:Nat):Int)) l)=(l.drop i).take 8:=by
  rw[tN,tN,b34]
  by_cases hc:i+8<l.length
  rw[a61 (by omega),show i+8-i=8 by omega];rw[a64 (by omega),a30 (by omega),a30 (by omega)]
 have B:∀p∈(l.drop i).take 8,PgPlain p:=fun p o=>hp p (a33 (a09 o));have g:∀p∈(l.drop i).take 8,PgByt p:=fun p o=>A p (a33 (a09 o));have lg:((l.drop i).take 8).length≤8:=by rw[a00];omega
 have c:(l.drop i).take 8≠[]:=a03.1 (by rw[a00];omega);obtain⟨H,t⟩:=a5r (a:=[0,0]) (by decide) (by decide) ((l.drop i).take 8) g;have t:(xr ((l.drop i).take 8)).length≤254:=t;have m:=a03.2 c;have u:n0s ((l.drop i).take 8) 0=some (((l.drop i).take 8).head c):=by
  have:=a0F (l:=(l.drop i).take 8) (k:=0) m
  rw[show((0:Nat):Int)=0 from rfl]at this;rw[this,a93]
 have C:wrap .u8 ((((l.drop i).take 8).length:Nat):Int)=((((l.drop i).take 8).length:Nat):Int):=a5N (by omega);rw[w2,b2l,b,decide_eq_true (show(i:Int)<((l.length:Nat):Int)by omega),tN];rw[decide_eq_true (show(0:Int)≤((min (i+8) l.length:Nat):Int)by omega),decide_eq_true (show((min (i+8) l.length:Nat):Int)≤((l.length:Nat):Int)by omega),decide_eq_true (show(0:Int)≤(i:Int)by omega),decide_eq_true (show(i:Int)≤((min (i+8) l.length:Nat):Int)by omega)];simp only[cT,a23];rw[b4X B (by omega)];simp only[oB,u,b3x g (by omega),C];rw[a0A (by omega),a0A (by rw[lN];omega),w2];simp only[cT];have x:(((((l.drop i).take 8).head c).1,false,false,true,a31 ([((((l.drop i).take 8).length:Nat):Int)]:List Int) (xr ((l.drop i).take 8)),()):Pge)=gOf ((l.drop i).take 8):=by
  rw[b5Y g c lg];rfl
 have e:=x;refine⟨_,(l.drop (i+8)).length,rfl,by simp only[a01];omega,i+8,(out++(l.drop i).take 8)++[gOf ((l.drop i).take 8)],by rw[←e];rfl,rfl,by omega,?_,?_⟩;simp only[lN,a07,a00];omega;rw[←j,a2R n,a92];simp only[aA,a47];right;rw[decide_eq_false (show ¬ (i:Int)<((l.length:Nat):Int)by omega)];have y:l.drop i=[]:=a44.2 (by omega);rw[y,a1I,a02]at j;exact⟨_,rfl,by rw[j]⟩
theorem a9A:∀{A B:List Pk},Asc A→Asc B→(∀p∈A,0≤p.1)→(∀p∈B,0≤p.1)→(∀s,ofS s A=ofS s B)→A=B
 | [],[],_,_,_,_,_=>rfl
 | [],q::B,_,_,_,hB,h=>by
  have f:=h q.1.toNat
  have i:=hB q (by simp)
  have:q∈ofS q.1.toNat (q::B):=a48.2 ⟨by simp,decide_eq_true (by omega)⟩
  rw[←f]at this;cases this
 |p::A,[],_,_,hA,_,h=>by
  have f:=h p.1.toNat
  have i:=hA p (by simp)
  have:p∈ofS p.1.toNat (p::A):=a48.2 ⟨by simp,decide_eq_true (by omega)⟩
  rw[f]at this;cases this
 |p::A,q::B,aA,aB,hA,hB,h=>by
  have l:=hA p (by simp);have m:=hB q (by simp);have hp:p∈q::B:=by
   have:p∈ofS p.1.toNat (p::A):=a48.2 ⟨by simp,decide_eq_true (by omega)⟩
   rw[h]at this;exact(a48.1 this).1
  have j:q∈p::A:=by
   have:q∈ofS q.1.toNat (q::B):=a48.2 ⟨by simp,decide_eq_true (by omega)⟩
   rw[←h]at this;exact(a48.1 this).1
  have e:p=q:=by
   rcases mC.1 hp with f|f;exact f;rcases mC.1 j with h2|h2;exact h2.symm;have b:=(a34.1 aB).1 p f;have c:=(a34.1 aA).1 q h2;unfold klt at b c;simp only[Bool.or_eq_false_iff,Bool.and_eq_false_iff,decide_eq_false_iff_not]at b c;have g:=h p.1.toNat
   unfold ofS at g;rw[a69,a69,if_pos (decide_eq_true (by omega)),if_pos (decide_eq_true (by omega))]at g;exact(List.cons.inj g).1
  subst e;rw[a9A (a34.1 aA).2 (a34.1 aB).2 (fun x a=>hA x (by simp[a])) (fun x a=>hB x (by simp[a])) fun s=>?_];have g:=h s;unfold ofS at g⊢;rw[a69,a69]at g
  by_cases hs:p.1=(s:Int)
  rw[if_pos (decide_eq_true hs),if_pos (decide_eq_true hs)]at g;exact(List.cons.inj g).2;rw[if_neg (by rw[decide_eq_false hs];decide),if_neg (by rw[decide_eq_false hs];decide)]at g;exact g
abbrev a4Z:Type:=List Pk×(Int×(Bool×Unit))
def a5H:Int×(Bool×Unit):=((0:Int),false,())
theorem b4f{L:List α}{l:α}(f:L[i]?=some l):n0s L (i:Int)=some l:=by
 obtain⟨h,g⟩:=lS.1 f;rw[a0F h,g]
theorem b7V{l:List Pk}{R:List a4Z}(c:L[i]?=some l)(h:∀p∈l,PkOk (i:Int) p)(e:i<4)(j:l.length<1000000):
  y0h a2J (L,(i:Int),(0:Int),R,())=some (.inl (L,(i:Int),R,())):=by
 have g:=b4f c
 have:=a0D (f:=a2J) (fun k=>(L,(i:Int),(k:Int),R,())) l.length (b:=.inl (L,(i:Int),R,())) (fun k a=>?_) ?_
 exact this;have hp:=h l[k] (a19 a);unfold a2J;simp only[g,oB];rw[decide_eq_true (show(k:Int)<((l.length:Nat):Int)by omega),a0F a];simp only[cT,oB,b4U hp (show(0:Int)≤(i:Int)by omega) (by omega),bne_self_eq_false,cF,hp.st];rw[w64 (by omega)];rfl;unfold a2J;simp only[g,oB];rw[decide_eq_false (by omega)];rfl
theorem b7W{l:List Pk}{R:List a4Z}(a:L[i]?=some l)(h:l.Pairwise fun p q=>p.2.1≤q.2.1)(j:l.length<1000000):
  y0h a2L (L,(i:Int),(1:Int),R,())=some (.inl (L,(i:Int),R,())):=by
 have g:=b4f a
 have:=a0D (f:=a2L) (fun k=>(L,(i:Int),((k+1:Nat):Int),R,())) (l.length-1) (b:=.inl (L,(i:Int),R,())) (fun k e=>?_) ?_
 exact this;have hp:=a80.1 h k (k+1) (by omega) (by omega) (by omega);have c:wrap .i64 (((k+1:Nat):Int)-1)=(k:Int):=by rw[w64 (by omega)];omega
 unfold a2L;simp only[g,oB];rw[decide_eq_true (show((k+1:Nat):Int)<((l.length:Nat):Int)by omega),a0F (show k+1<l.length by omega),c,a0F (show k<l.length by omega)];simp only[cT,oB];rw[decide_eq_false (by omega),w64 (by omega)];rfl;unfold a2L;simp only[g,oB];rw[decide_eq_false (by omega)];rfl
def a2B(L:List (List Pk))(k:Nat):List a4Z:=(L.take k).map (fun l=>(l,a5H))++a28 (L.length-k) ([],a5H)
theorem b7X(h:StrOk n L)(r:n≤1000):y0h a2K (L,(0:Int),a2B L 0,())=some (.inl (L,a2B L L.length,())):=by
 have q:=h.four
 have:=a0D (f:=a2K) (fun k=>(L,(k:Int),a2B L k,())) L.length (b:=.inl (L,a2B L L.length,())) (fun k a=>?_) ?_
 exact this;have i:L[k]?=some L[k]:=lG a;have g:=h.ok k _ i;have p:=g.len;have c:((L.take k).map (fun l=>((l,a5H):a4Z))).length=k:=by rw[a42,a00];omega
 have e:a28 (L.length-k) (([],a5H):a4Z)=([],a5H)::a28 (L.length-(k+1)) ([],a5H):=by
  rw[←b38];congr 1;omega
 have j:(a2B L k).getD k (([]:List Pk),(0:Int),false,())=([],a5H):=by
  rw[a2B,e,lD,a38 (by omega),c,a73];rfl
 have m:(a2B L k).set k (L[k],a5H)=a2B L (k+1):=by
  rw[a2B,e,a75 _ _ (by omega),c,a73,a98,a2B,a04 a,pA,aA];rfl
 have o:(a2B L k).length=L.length:=by rw[a2B,lN,c,a40];omega
 unfold a2K;simp only;rw[decide_eq_true (show(k:Int)<((L.length:Nat):Int)by omega)];simp only[cT];rw[b7V i g.ok (by omega) (by omega)];simp only[oB,a0F a,o];rw[a0A (by omega),decide_eq_true (show(0:Int)≤(k:Int)by omega),decide_eq_true (show(k:Int)<((L.length:Nat):Int)by omega),tN,j,w64 (by omega)];simp only[cT,a23,a20,a05,m];rfl;unfold a2K;simp only;rw[decide_eq_false (by omega)];rfl
theorem b7Y{R:List a4Z}(h:StrOk n L)(j:n≤1000):y0h a2M (L,(0:Int),R,())=some (.inl (R,())):=by
 have i:=h.four
 have:=a0D (f:=a2M) (fun k=>(L,(k:Int),R,())) L.length (b:=.inl (R,())) (fun k c=>?_) ?_
 exact this;have a:L[k]?=some L[k]:=lG c;have g:=h.ok k _ a;have e:=g.len;unfold a2M;simp only;rw[decide_eq_true (show(k:Int)<((L.length:Nat):Int)by omega)];simp only[cT];rw[b7W a g.asc (by omega)];simp only[oB];rw[w64 (by omega)];rfl;unfold a2M;simp only;rw[decide_eq_false (by omega)];rfl
def a9B(R:List a4Z)(k:Nat):Option Nat→Prop
 |none=>∀(j:Nat) x,j<k→R[j]?=some x→x.1=[]
 |some b=>b<k∧∃x p r,R[b]?=some x∧x.1=p::r∧∀(j:Nat) y q s,j<k→R[j]?=some y→y.1=q::s→p.2.1<q.2.1∨(p.2.1=q.2.1∧b≤j)
theorem b3y{R:List a4Z}(K:R.length<1000):∃b,a4l R=some (a6H b)∧a9B R R.length b:=by
 refine a1F (f:=a5M) (fun k C=>∃(i:Nat)(b:Option Nat),C=(R,a6H b,(i:Int),())∧k=R.length-i∧i≤R.length∧a9B R i b) (fun w=>∃b,w=(a6H b,())∧a9B R R.length b) R.length (R,a6H none,((0:Nat):Int),()) ⟨0,none,rfl,rfl,by omega,fun j x e=>by omega⟩ (fun w H F=>?_) (fun k C A=>?_);obtain⟨b,rfl,G⟩:=F;refine⟨b,?_,G⟩;unfold a4l;exact a0E H rfl
 ·obtain⟨i,b,rfl,rfl,I,o⟩:=A;unfold a5M;simp only
  by_cases h:i<R.length
  ·left;rw[decide_eq_true (show(i:Int)<((R.length:Nat):Int)by omega),a0F h];simp only[cT,oB];have z:wrap .i64 ((i:Int)+1)=((i+1:Nat):Int):=by rw[w64 (by omega)];omega
   have a:R[i]?=some R[i]:=lG h;cases hx:(R[i]).1 with
   |nil=>
    rw[a06,decide_eq_false (show ¬ ((0:Nat):Int) > 0 by decide)];simp only[cF,oB,z];refine⟨_,R.length-(i+1),rfl,by omega,i+1,b,rfl,rfl,by omega,?_⟩;cases b with
    |none=>
     intro j x e m;rcases a71.1 e with n|n;exact o j x n m;subst n;rw[a]at m;cases m;exact hx
    |some b=>
     obtain⟨n,x,p,r,t,u,v⟩:=o;refine⟨by omega,x,p,r,t,u,fun j y q s e c g=>?_⟩;rcases a71.1 e with h5|h5;exact v j y q s h5 c g;subst h5;rw[a]at c;cases c;rw[hx]at g;cases g
   |cons p r=>
    rw[lC,decide_eq_true (show((r.length+1:Nat):Int) > 0 by omega)];cases b with
    |none=>
     rw[show a6H none=-1 from rfl,decide_eq_true (show(-1:Int)<0 by decide)];simp only[cT,oB,z];refine⟨_,R.length-(i+1),rfl,by omega,i+1,some i,rfl,rfl,by omega,by omega,R[i],p,r,a,hx,fun j y q s e c g=>?_⟩;rcases a71.1 e with h5|h5;rw[o j y h5 c]at g;cases g;subst h5;rw[a]at c;cases c;rw[hx]at g;cases g;exact .inr ⟨rfl,a13 _⟩
    |some b=>
     obtain⟨n,x,p',B,t,u,v⟩:=o;rw[show a6H (some b)=(b:Int)from rfl,decide_eq_false (show ¬ (b:Int)<0 by omega),b4f t];have D:n0s (p::r) (0:Int)=some p:=by exact a0F (l:=p::r) (k:=0) (by simp)
     have E:n0s (p'::B) (0:Int)=some p':=by exact a0F (l:=p'::B) (k:=0) (by simp)
     simp only[cT,cF,oB,hx,u,D,E]
     by_cases hlt:p.2.1<p'.2.1
     rw[decide_eq_true hlt];simp only[cT,z];refine⟨_,R.length-(i+1),rfl,by omega,i+1,some i,rfl,rfl,by omega,by omega,R[i],p,r,a,hx,fun j y q s e c g=>?_⟩;rcases a71.1 e with h5|h5
     have:=v j y q s h5 c g
     omega;subst h5;rw[a]at c;cases c;rw[hx]at g;cases g;exact .inr ⟨rfl,a13 _⟩;rw[decide_eq_false hlt];simp only[cF,z];refine⟨_,R.length-(i+1),rfl,by omega,i+1,some b,rfl,rfl,by omega,by omega,x,p',B,t,u,fun j y q s e c g=>?_⟩;rcases a71.1 e with h5|h5;exact v j y q s h5 c g;subst h5;rw[a]at c;cases c;rw[hx]at g;cases g;omega
  right;rw[decide_eq_false (show ¬ (i:Int)<((R.length:Nat):Int)by omega)]
  have:i=R.length:=by omega
  exact⟨_,rfl,b,rfl,by rw[←this];exact o⟩
def a5I(R:List a4Z):Nat:=(R.map fun x=>x.1.length).sum
theorem b0M:∀(R:List a4Z)(b:Nat)(x:a4Z)(p:Pk)(r:List Pk)(z:Int×(Bool×Unit)),R[b]?=some x→x.1=p::r→a5I (R.set b (r,z))+1=a5I R
 | [],b,x,p,r,z,h,_=>by cases b<;>simp at h
 |y::R,0,x,p,r,z,h,hx=>by
  simp only[b00,sj]at h;subst h;unfold a5I;rw[a98,a54,a54,b05,b05,hx,lC];simp only;omega
 |y::R,b+1,x,p,r,z,h,hx=>by
  have:=b0M R b x p r z (by simpa using h) hx
  unfold a5I at this⊢;rw[b44,a54,a54,b05,b05];omega
structure WInv (L:List (List Pk)) (R:List a4Z) (out:List Pk):Prop where
 len:R.length=L.length
 row:∀(s:Nat) l x,L[s]?=some l→R[s]?=some x→ofS s out++x.1=l
 asc:Asc out
 le:∀p∈out,∀(s:Nat) x q,R[s]?=some x→q∈x.1→klt q p=false
 dom:∀p∈out,0≤p.1∧p.1<(L.length:Int)
theorem b7Z(h:StrOk n L)(hN:N<1000000){R0:List a4Z}{b0:Option Nat}(hb:a4l R0=some (a6H b0))(hf:a9B R0 R0.length b0)(hv:WInv L R0 [])(hr:a5I R0=N):
  ∃out,y0h a3z (a6H b0,R0,([]:List Pk),())=some (out,())∧Asc out∧(∀(s:Nat) l,L[s]?=some l→ofS s out=l)∧(∀p∈out,0≤p.1∧p.1<(L.length:Int)):=by
 have h4:=h.four;refine a1F (f:=a3z) (fun k st=>∃(R:List a4Z)(b:Option Nat)(out:List Pk),st=(a6H b,R,out,())∧k=a5I R∧a9B R R.length b∧WInv L R out∧out.length+a5I R=N)
  (fun w=>∃out,w=(out,())∧Asc out∧(∀(s:Nat) l,L[s]?=some l→ofS s out=l)∧(∀p∈out,0≤p.1∧p.1<(L.length:Int))) N _ ⟨R0,b0,[],rfl,hr.symm,hf,hv,by rw[a06];omega⟩ (fun w hw hQ=>?_) (fun k st S=>?_)
 obtain⟨out,rfl,g⟩:=hQ;exact⟨out,hw,g⟩
 ·obtain⟨R,b,out,rfl,rfl,U,a,Y⟩:=S;unfold a3z;simp only;cases b with
  |none=>
   right;rw[show a6H none=-1 from rfl,decide_eq_false (show ¬ (-1:Int)≥0 by decide)];refine⟨_,rfl,out,rfl,a.asc,fun s l E=>?_,a.dom⟩;have hs:=(lS.1 E).1;have V:R[s]?=some (R[s]'(by rw[a.len];exact hs)):=lG _
   have:=a.row s l _ E V
   rw[U s _ (by rw[a.len];exact hs) V,a02]at this;exact this
  |some b=>
   left;obtain⟨T,x,p,r,D,o,G⟩:=U;have Q:b<L.length:=by rw[←a.len];exact T
   have v:L[b]?=some L[b]:=lG Q;have t:=a.row b _ x v D;have hx:R.getD b (([]:List Pk),(0:Int),false,())=x:=by rw[lD,D];rfl
   have B:p.1=(b:Int):=((h.ok b _ v).ok p (by rw[←t,o];simp)).st;have Z:=b0M R b x p r x.2 D o;have g1:n0s (p::r) (0:Int)=some p:=by exact a0F (l:=p::r) (k:=0) (by simp)

   have F:∀(s:Nat) y q,R[s]?=some y→q∈y.1→q.1=(s:Int)∧∀C I,y.1=C::I→C.2.1≤q.2.1:=fun s y q j g=>by
    have hs:s<L.length:=by rw[←a.len];exact(lS.1 j).1
    have A:L[s]?=some L[s]:=lG hs;have H:=a.row s _ y A j;refine⟨((h.ok s _ A).ok q (by rw[←H];exact b06 _ g)).st,fun C I X=>?_⟩;have W:=(h.ok s _ A).asc;rw[←H,X,a17]at W;rw[X]at g;rcases mC.1 g with h5|h5;rw[h5];exact b31 _;exact(a34.1 W.2.1).1 q h5
   have O:WInv L (R.set b (r,x.2)) (out++[p]):=by
    have u:∀(s:Nat) y,(R.set b (r,x.2))[s]?=some y→(s=b∧y=(r,x.2))∨(s≠b∧R[s]?=some y):=fun s y j=>by
     rw[b55]at j
     by_cases c:b=s
     rw[if_pos c,if_pos T]at j;cases j;exact .inl ⟨c.symm,rfl⟩;rw[if_neg c]at j;exact .inr ⟨fun e=>c e.symm,j⟩
    refine⟨by rw[a32];exact a.len,fun s l y E j=>?_,?_,fun q g s y z j m=>?_,fun q g=>?_⟩;rw[a8x];rcases u s y j with⟨rfl,rfl⟩|⟨c,i⟩
    have:l=L[s]:=by rw[v]at E;cases E;rfl
    rw[this,←t,o,b3r (l:=[p]) (fun q g=>by rw[a16]at g;rw[g];exact B),aA];rfl;rw[a6I (l:=[p]) (fun q g=>by rw[a16]at g;rw[g,B];omega),a02];exact a.row s l y E i;refine a17.2 ⟨a.asc,a43 ..,fun q g z m=>?_⟩;rw[a16]at m;rw[m];exact a.le q g b x p D (by rw[o];simp)
    ·rcases mA.1 g with g|g;rcases u s y j with⟨rfl,rfl⟩|⟨c,i⟩;exact a.le q g s x z D (by rw[o];exact a94 _ m);exact a.le q g s y z i m
     ·rw[a16]at g;subst g;unfold klt;rcases u s y j with⟨rfl,rfl⟩|⟨c,i⟩;obtain⟨e1,K⟩:=F s x z D (by rw[o];exact a94 _ m)
      have:=K q r o
      rw[decide_eq_false (by omega),decide_eq_false (show ¬ z.1<q.1 by omega)]
      simp
      ·obtain⟨e1,K⟩:=F s y z i m;cases hyy:y.1 with
       |nil=>rw[hyy]at m;cases m
       |cons C I=>
        have k1:=K C I hyy;have k2:=G s y C I (lS.1 i).1 i hyy;rw[decide_eq_false (by omega)]
        by_cases hc:z.2.1=q.2.1
        rw[decide_eq_false (show ¬ z.1<q.1 by omega)];simp;rw[decide_eq_false hc];rfl
    rcases mA.1 g with g|g;exact a.dom q g;rw[a16]at g;rw[g,B];omega
   obtain⟨b',P,M⟩:=b3y (R:=R.set b (r,x.2)) (by rw[a32,a.len];omega);rw[show a6H (some b)=(b:Int)from rfl,decide_eq_true (show(b:Int)≥0 by omega),decide_eq_true (show(b:Int)<((R.length:Nat):Int)by omega),tN,hx,o,g1,a0A (by omega),lC,decide_eq_true (show(1:Int)≤((r.length+1:Nat):Int)by omega)];have ed:a59 1 (a52 (r.length+1) (p::r))=r:=by rw[List.take_succ_cons,a08];rfl
   simp only[cT,a23,oB,ed,P];exact⟨_,a5I (R.set b (r,x.2)),rfl,by omega,R.set b (r,x.2),b',out++[p],rfl,rfl,M,O,by rw[lN,a07];omega⟩
theorem a8K:∀(L:List (List Pk)),a5I (L.map fun l=>((l,a5H):a4Z))=L.flatten.length
 | []=>rfl
 |l::L=>by
  have:=a8K L
  unfold a5I at this⊢;rw[a54,a54,b05,this,b24,lN]
theorem b4g(h:Drawn n a L)(F:n≤8)(r:Woven Z)(hs:Stb L.flatten Z):a4N L=some (Z,0):=by
 have D:=h.str.four;have C:=h.str.one;have E:=h.len;have m:a2B L L.length=L.map fun l=>((l,a5H):a4Z):=by rw[a2B,a08,a73];simp
 have w:a2B L 0=a28 L.length ([],a5H):=by rw[a2B];simp
 obtain⟨b,t,y⟩:=b3y (R:=a2B L L.length) (by rw[m,a42];omega);have z:WInv L (a2B L L.length) []:=by
  refine⟨by rw[m,a42],fun s l x q u=>?_,.nil,fun p hp=>(by cases hp),fun p hp=>(by cases hp)⟩;rw[m,a89,q]at u;cases u;rfl
 have A:a5I (a2B L L.length)=L.flatten.length:=by rw[m,a8K]
 have o:L.flatten.length<1000000:=by
  rw[←hs.perm.length_eq]
  have:=r.len
  omega
 obtain⟨out,B,c,j,g⟩:=b7Z h.str o t y z A;have f:=h.rows hs;have i:=h.in hs;have e:out=Z:=a9A c r.asc (fun p hp=>(g p hp).1) (fun p hp=>(i p hp).1) fun s=>by
  by_cases hsl:s<L.length
  rw[j s _ (lG hsl)]
  have:=b0I Z (show s<a.length by omega)
  rw[f,lG hsl]at this;exact Option.some.inj this;rw[a6I fun p hp=>by have:=g p hp;omega,a6I fun p hp=>by have:=i p hp;omega]
 subst e;unfold a4N;simp only;rw[decide_eq_false (show ¬ ((L.length:Nat):Int)<1 by omega),decide_eq_false (show ¬ ((L.length:Nat):Int) > 4 by omega)];simp only[cF,oB];rw[decide_eq_true (show(0:Int)≤((L.length:Nat):Int)by omega),decide_eq_true (show((L.length:Nat):Int)≤((L.length:Nat):Int)by omega),tN,a0A (by omega)];simp only[cT,a23];refine a0E (v:=.inl (L,a2B L L.length,())) ?_ ?_
 have:=b7X h.str (by omega)
 rw[w]at this;exact this;simp only;refine a0E (b7Y h.str (by omega)) ?_
 simp only[t,oB,B]
def zRd:Pge:=((0:Int),false,false,false,([]:List Int),())
def GOf(P:List Pge)(g:Pge)(s:Nat):Prop:=s<P.length∧g=gOf ((P.drop s).take 8)
theorem a8m:∀(n:Nat)(l:List Pge),l.length≤n→(∀q∈a0Q l,q∈l∨∃s,GOf l q s)∧(∀p∈l,∃s,s<l.length∧p∈(l.drop s).take 8∧gOf ((l.drop s).take 8)∈a0Q l)∧(∀p∈l,p∈a0Q l)
 |n,[],_=>by rw[a1I];exact⟨fun q g=>(by cases g),fun p hp=>(by cases hp),fun p hp=>(by cases hp)⟩
 |0,p::l,h=>by simp at h
 |n+1,p::l0,h=>by
  have c:(p::l0)≠[]:=by simp
  generalize p::l0=l at *;have f:=a03.2 c;obtain⟨i,j,m⟩:=a8m n (l.drop 8) (by rw[a01];omega);rw[a2R c];refine⟨fun q g=>?_,fun p hp=>?_,fun p hp=>?_⟩;rcases mA.1 g with g|g;exact .inl (a09 g);rcases mC.1 g with g|g;exact .inr ⟨0,f,by rw[a82];exact g⟩;rcases i q g with g|⟨s,hs,e⟩;exact .inl (a33 g);refine .inr ⟨8+s,by rw[a01]at hs;omega,?_⟩;rw[e,a92];rw[←a29 8 l]at hp;rcases mA.1 hp with hp|hp;exact⟨0,f,by rw[a82];exact hp,by rw[a82];simp⟩;obtain⟨s,hs,a,b⟩:=j p hp;rw[a92]at a b;exact⟨8+s,by rw[a01]at hs;omega,a,b06 _ (a94 _ b)⟩;rw[←a29 8 l]at hp;rcases mA.1 hp with hp|hp;exact b37 _ hp;exact b06 _ (a94 _ (m p hp))
theorem a9W(f:a1v s P)(hp:p∈P)(e:q∈P)(h:p.1=q.1):p=q:=by
 obtain⟨i,c⟩:=a41 hp;obtain⟨j,g⟩:=a41 e;have a:=(f i p c).1;have b:=(f j q g).1
 have:i=j:=by omega
 subst this;rw[c]at g;exact Option.some.inj g
theorem a6T{P:List Pge}(g:a1v 0 P){p:Pge}(hp:p∈P):∀(R:List Pge),(∀q∈R,q∈P)→p∈R→g0l p.1 (kv R)=some p
 | [],_,h=>by cases h
 |q::R,hR,h=>by
  show(bif q.1==p.1 then some q else g0l p.1 (kv R))=some p
  by_cases e:q.1=p.1
  rw[show(q.1==p.1)=true by rw[beq_iff_eq];exact e,a9W g (hR q (by simp)) hp e];rfl;rw[show(q.1==p.1)=false by rw[beq_eq_false_iff_ne];exact e];rcases mC.1 h with h|h;exact absurd (by rw[h]) e;exact a6T g hp R (fun x f=>hR x (by simp[f])) h
theorem a8n(f:a1v 0 P)(hp:p∈P)(a:∀q∈R,q∈P)(h:p∉R):g0l p.1 (kv R)=none:=
 a7H fun q g e=>h (by rw[←a9W f (a q g) hp e];exact g)
def a5k(P R:List Pge)(s:Nat):List Pge:=match a1H (kv R) (s:Int) ((P.drop s).take 8).length with
 | [j]=>R++(P[s+j]?).toList
 |_=>R
def a2C(P R:List Pge)(gs:List Pge):List Pge:=gs.foldl (fun R g=>a5k P R g.1.toNat) R
structure Sub (P R:List Pge):Prop where
 sub:∀q∈R,q∈P
 dif:R.Pairwise fun p q=>p.1≠q.1
theorem b2n(f:a1v 0 P)(c:∀q∈R,q∈P)(e:j<((P.drop s).take 8).length):(j∈a1H (kv R) (s:Int) ((P.drop s).take 8).length↔∀p,P[s+j]?=some p→p∉R)∧∃p,P[s+j]?=some p∧((P.drop s).take 8)[j]?=some p∧p∈P∧p.1=((s+j:Nat):Int):=by
 rw[a00,a01]at e;have g:s+j<P.length:=by omega
 have hp:P[s+j]?=some P[s+j]:=lG g;have a:P[s+j]∈P:=a19 g;have b:=(f (s+j) _ hp).1;rw[a74]at b;refine⟨?_,P[s+j],hp,?_,a,b⟩;unfold a1H;rw[a48,b02,show(s:Int)+(j:Int)=(P[s+j]).1 by rw[b];omega];constructor
 rintro⟨_,h⟩ p hp' hpR
 rw[hp]at hp';cases hp';rw[a6T f a R c hpR]at h;cases h;intro h;refine⟨by rw[a00,a01];omega,?_⟩;rw[a8n f a c (h _ hp)];rfl;rw[b48,if_pos (by omega),a99,hp]
theorem b6t{L:List (Int×Pge)}{a:Int}{k:Nat}(h:j∈a1H L a k):j<k:=b02.1 (a48.1 h).1
theorem a7L(e:a1v 0 P)(i:Sub P R)(s:Nat):(a5k P R s=R∧(a1H (kv R) (s:Int) ((P.drop s).take 8).length).length≠1)∨
  ∃j p,a1H (kv R) (s:Int) ((P.drop s).take 8).length=[j]∧j<((P.drop s).take 8).length∧P[s+j]?=some p∧((P.drop s).take 8)[j]?=some p∧p∈P∧p.1=((s+j:Nat):Int)∧p∉R∧a5k P R s=R++[p]:=by
 match hg:a1H (kv R) (s:Int) ((P.drop s).take 8).length with
 | []=>exact .inl ⟨by unfold a5k;rw[hg],by simp⟩
 | [j]=>
  have g:j<((P.drop s).take 8).length:=b6t (by rw[hg];simp);obtain⟨f,p,h,a,b,c⟩:=b2n e i.sub g;exact .inr ⟨j,p,rfl,g,h,a,b,c,f.1 (by rw[hg];simp) p h,by unfold a5k;rw[hg];show R++(P[s+j]?).toList=_;rw[h];rfl⟩
 |_::_::_=>exact .inl ⟨by unfold a5k;rw[hg],by simp⟩
theorem b0N(c:a1v 0 P)(f:Sub P R)(s:Nat):Sub P (a5k P R s)∧(a5k P R s).length≤R.length+1∧∀q∈R,q∈a5k P R s:=by
 rcases a7L c f s with⟨h,_⟩|⟨j,p,_,_,_,_,hp,_,m,h⟩;rw[h];exact⟨f,by omega,fun q g=>g⟩;rw[h];refine⟨⟨fun q g=>?_,a17.2 ⟨f.dif,a43 ..,fun a i b l e=>?_⟩⟩,by rw[lN];simp,fun q g=>b37 _ g⟩;rcases mA.1 g with g|g;exact f.sub q g;rw[a16]at g;rw[g];exact hp;rw[a16]at l;subst l;exact m (by rw[←a9W c (f.sub a i) hp e];exact i)
theorem a6d{P:List Pge}(f:a1v 0 P):∀(gs R:List Pge),Sub P R→Sub P (a2C P R gs)∧(a2C P R gs).length≤R.length+gs.length∧∀q∈R,q∈a2C P R gs
 | [],R,hR=>⟨hR,by simp[a2C],fun q h=>h⟩
 |g::gs,R,hR=>by
  obtain⟨a,j,b⟩:=b0N f hR g.1.toNat
  obtain⟨c,e,i⟩:=a6d f gs _ a;exact⟨c,by rw[lC];unfold a2C at e⊢;rw[b67];omega,fun q h=>i q (b q h)⟩
theorem a9C(P R:List Pge)(gs:List Pge)(g:Pge):a2C P R (gs++[g])=a5k P (a2C P R gs) g.1.toNat:=by
 unfold a2C;rw[a87];rfl
theorem a6q{α β:Type}{f g:α→Option β}:∀{l:List α},(∀i∈l,f i=g i)→l.filterMap f=l.filterMap g
 | [],_=>rfl
 |a::l,h=>by
  rw[b09,b09,h a (by simp),a6q (l:=l) fun i b=>h i (by simp[b])]
theorem a6L{α:Type}(G:List α):∀n,n≤G.length→(a62 n).filterMap (fun i=>G[i]?)=G.take n
 |0,_=>by simp
 |n+1,h=>by
  rw[a72,a90,a6L G n (by omega),a04 (by omega)];rw[b09,lG (by omega)];rfl
theorem b2o(g:a1v 0 P)(f:Sub P R)(l:a1H (kv R) (s:Int) ((P.drop s).take 8).length=[j])(y:j<((P.drop s).take 8).length):
  a1K (kv R) (s:Int) ((P.drop s).take 8).length=((P.drop s).take 8).take j++((P.drop s).take 8).drop (j+1):=by
 have key:∀i,i<((P.drop s).take 8).length→g0l ((s:Int)+(i:Int)) (kv R)=if i=j then none else((P.drop s).take 8)[i]?:=fun i h=>by
  obtain⟨a,p,b,u,c,v⟩:=b2n g f.sub h;rw[show(s:Int)+(i:Int)=p.1 by rw[v];omega]
  by_cases e:i=j
  rw[if_pos e,a8n g c f.sub (a.1 (by rw[l,e];simp) p b)];rw[if_neg e,u]
  have:p∈R:=Classical.byContradiction fun w=>by
   have:=a.2 fun q m=>by rw[b]at m;cases m;exact w
   rw[l,a16]at this;exact e this
  exact a6T g c R f.sub this
 generalize (P.drop s).take 8=G at *;unfold a1K;have r:(a62 G.length).filterMap (fun(i:Nat)=>g0l ((s:Int)+(i:Int)) (kv R))=(a62 G.length).filterMap (fun i=>if i=j then none else G[i]?):=by
  refine a6q fun i h=>?_
  exact key i (b02.1 h)
 rw[r];have t:G.length=(j+1)+(G.length-(j+1)):=by omega
 rw[t,List.range_add,a90,a72,a90,List.filterMap_map];have a1:(a62 j).filterMap (fun i=>if i=j then none else G[i]?)=G.take j:=by
  rw[←a6L G j (by omega)];refine a6q fun i h=>?_
  have:=b02.1 h
  rw[if_neg (by omega)]
 have n:[j].filterMap (fun i=>if i=j then none else G[i]?)=[]:=by simp
 have o:(a62 (G.length-(j+1))).filterMap ((fun i=>if i=j then none else G[i]?)∘fun x=>j+1+x)=G.drop (j+1):=by
  have:=a6L (G.drop (j+1)) (G.length-(j+1)) (by rw[a01];omega)
  rw[a30 (by rw[a01];omega)]at this;rw[←this];refine a6q fun i h=>?_
  simp only[Function.comp];rw[if_neg (by omega),a99]
 rw[a1,n,o,a02]
theorem b2p{G:List α}{p:α}(h:G[j]?=some p):G=G.take j++p::G.drop (j+1):=by
 obtain⟨g,f⟩:=lS.1 h;rw[←f,←a51 g,a29]
theorem GOf.fit(l:a1v 0 P)(m:∀p∈P,PgByt p)(o:P.length≤50000){g:Pge}(h:GOf P g s):
  GdOk g∧g.1=(s:Int)∧gdK g=((P.drop s).take 8).length∧g.2.2.2.2.1=(((((P.drop s).take 8).length:Nat):Int))::xr ((P.drop s).take 8)∧∀q∈(P.drop s).take 8,PgByt q:=by
 obtain⟨hs,rfl⟩:=h;have a:(P.drop s).take 8≠[]:=a03.1 (by rw[a00,a01];omega);have b:((P.drop s).take 8).length≤8:=by rw[a00];omega
 have c:=(l.drop s).take 8;rw[a74]at c;have f:∀q∈(P.drop s).take 8,PgByt q:=fun q n=>m q (a33 (a09 n));obtain⟨e,i,j⟩:=b3q c a b (by omega);refine⟨e,i,j,?_,f⟩;rw[b5Y f a b];rfl
theorem b4h(e:a1v 0 P)(i:∀p∈P,PgByt p)(u:P.length≤50000)(o:Sub P R){g:Pge}(h:GOf P g s)(r:a1H (kv R) (s:Int) ((P.drop s).take 8).length=[j])(t:j<((P.drop s).take 8).length)(hp:((P.drop s).take 8)[j]?=some p)(b:p∈P):a3l (g,a1K (kv R) (s:Int) ((P.drop s).take 8).length,p.1)=some (p,true):=by
 obtain⟨_,_,_,n,c⟩:=h.fit e i u;rw[b2o e o r t];have x:((P.drop s).take 8).length≤8:=by rw[a00];omega
 generalize (P.drop s).take 8=G at *;have l:=b2p hp;obtain⟨z,m,_⟩:=b3t (A:=G.take j) (B:=G.drop (j+1)) (i p b) (fun q f=>c q (a09 f)) (fun q f=>c q (a33 f));rw[←l]at m;obtain⟨v,w⟩:=a5r (a:=[0,0]) (by decide) (by decide) G c;refine b4e n (a8j G) v w (fun q f=>?_) ?_ (e.plain p b) (i p b) m;rcases mA.1 f with f|f;exact c q (a09 f);exact c q (a33 f);rw[lN,a00,a01];omega
theorem b2q{R0 gs:List Pge}{top:Int}(c:a1v 0 P)(w:∀p∈P,PgByt p)(x:P.length≤50000)(G:∀g∈gs,∃s,GOf P g s)(m:Sub P R0)(H:R0.length+gs.length<1000000):
  y0h a1k (((0:Int),top,((gs.length:Nat):Int),(0:Int),R0,gs,()),(0:Int),kv R0)=some ((top,a2C P R0 gs,()),(0:Int),kv (a2C P R0 gs)):=by
 have:=a0D (f:=a1k) (fun i=>(((0:Int),top,((gs.length:Nat):Int),(i:Int),a2C P R0 (gs.take i),gs,()),(0:Int),kv (a2C P R0 (gs.take i)))) gs.length (b:=((top,a2C P R0 gs,()),(0:Int),kv (a2C P R0 gs))) (fun i q=>?_) ?_
 exact this;obtain⟨s,hs⟩:=G gs[i] (a19 q);obtain⟨z,u,A,K,M⟩:=hs.fit c w x;obtain⟨t,I,Q⟩:=a6d c (gs.take i) R0 m;rw[a00]at I;have o:a37 gs (a26 (i:Int)) ((0:Int),false,false,false,([]:List Int),())=gs[i]:=by rw[tN,lD,lG q];rfl
 have e:=b6o (L:=kv (a2C P R0 (gs.take i))) z;rw[u,A]at e;have y:(gs[i]).1.toNat=s:=by rw[u,tN]
 rw[a04 q,a9C,y];generalize a2C P R0 (gs.take i)=R at *;unfold a1k;simp only;rw[decide_eq_true (show(i:Int)<((gs.length:Nat):Int)by omega),decide_eq_true (show(0:Int)≤(i:Int)by omega),o,e];rcases a7L c t s with⟨h,O⟩|⟨j,p,v,B,N,C,l,D,E,F⟩;have n:((((a1H (kv R) (s:Int) ((P.drop s).take 8).length).length:Nat):Int)==1)=false:=by rw[beq_eq_false_iff_ne];omega
 rw[h,n,w64 (by omega)];rfl;have r:=b4h c w x t hs v B C l;have a:a7n (s:Int) [j]=p.1:=by rw[D];show(s:Int)+(j:Int)=_;omega
 rw[v,a];simp only[cT,a23,oB,a07];rw[show((((1:Nat):Int)==1))=true from rfl];simp only[bT,cF,r,oB,cT,beq_self_eq_true,a8n c l t.sub E,b47,b40,a8c (c.plain p l).toPgOk];rw[a0A (by omega),w64 (by omega),F];simp only[cT,kv,pA,a54,b28,a20];rfl;unfold a1k;simp only;rw[decide_eq_false (by omega),a08];rfl
theorem a6r(p q:Pge):∀l:List Pge,q∈a1R p l↔q=p∨q∈l
 | []=>by simp[a1R]
 |r::l=>by
  show q∈(bif decide (p.1≤r.1)then p::r::l else r::a1R p l)↔_;cases decide (p.1≤r.1)with
  |true=>simp
  |false=>
   simp only[cF,mC,a6r p q l];constructor
   rintro(h|h|h)
   exact .inr (.inl h);exact .inl h;exact .inr (.inr h)
   rintro(h|h|h)
   exact .inr (.inl h);exact .inl h;exact .inr (.inr h)
theorem a3w(q:Pge):∀l:List Pge,q∈a0H l↔q∈l
 | []=>Iff.rfl
 |p::l=>by
  show q∈a1R p (a0H l)↔_;rw[a6r,a3w q l,mC]
def Up(l:List Pge):Prop:=l.Pairwise fun p q=>p.1<q.1
theorem a8o{p:Pge}:∀{l:List Pge},Up l→(∀q∈l,q.1≠p.1)→Up (a1R p l)
 | [],_,_=>a43 ..
 |r::l,h,hn=>by
  show Up (bif decide (p.1≤r.1)then p::r::l else r::a1R p l);have b:=hn r (by simp);obtain⟨f,a⟩:=a34.1 h
  by_cases e:p.1≤r.1
  rw[decide_eq_true e];refine a34.2 ⟨fun q g=>?_,h⟩;rcases mC.1 g with rfl|g;omega
  have:=f q g;omega
  rw[decide_eq_false e];refine a34.2 ⟨fun q g=>?_,a8o a fun q g=>hn q (by simp[g])⟩;rcases(a6r p q l).1 g with rfl|g;omega;exact f q g
theorem a7o:∀{l:List Pge},l.Pairwise (fun p q=>p.1≠q.1)→Up (a0H l)
 | [],_=>.nil
 |p::l,h=>by
  obtain⟨g,f⟩:=a34.1 h;exact a8o (a7o f) fun q a=>fun e=>g q ((a3w q l).1 a) e.symm
theorem a6U:∀{A B:List Pge},Up A→Up B→(∀q,q∈A↔q∈B)→A=B
 | [],[],_,_,_=>rfl
 | [],q::B,_,_,h=>by have:=(h q).2 (by simp);cases this
 |p::A,[],_,_,h=>by have:=(h p).1 (by simp);cases this
 |p::A,q::B,hA,hB,h=>by
  obtain⟨a1,a⟩:=a34.1 hA;obtain⟨b1,b2⟩:=a34.1 hB;have e:p=q:=by
   rcases mC.1 ((h p).1 (by simp))with e|e;exact e;rcases mC.1 ((h q).2 (by simp))with e2|e2;exact e2.symm
   have:=b1 p e
   have:=a1 q e2
   omega
  subst e;rw[a6U a b2 fun x=>?_];have f:=h x;rw[mC,mC]at f;constructor;intro g;rcases f.1 (.inr g)with e|e
  have:=a1 x g;rw[e]at this;omega
  exact e;intro g;rcases f.2 (.inr g)with e|e
  have:=b1 x g;rw[e]at this;omega
  exact e
theorem b3z(h:a1v s P):Up P:=by
 refine a80.2 fun i j g c f=>?_
 have a:=(h i _ (lG g)).1;have b:=(h j _ (lG c)).1;omega
theorem a9D{P:List Pge}(f:a1v 0 P)(c:P.length<1000000):∀{R:List Pge},Sub P R→a3e R=true
 | [],_=>rfl
 |p::R,h=>by
  obtain⟨a,b⟩:=a34.1 h.dif;have i:=a9D f c (R:=R) ⟨fun q g=>h.sub q (by simp[g]),b⟩;have j:=f.num p (h.sub p (by simp));show(decide (0≤p.1)&&decide (p.1<4611686018427387904)&&R.all (fun q=>!decide (q.1=p.1))&&a3e R)=true;rw[i,decide_eq_true (by omega),decide_eq_true (by omega)];simp only[a23,Bool.true_and,lA,a86,decide_eq_false_iff_not];intro q g e;exact a q g e.symm
theorem b4Y(g:a1v 0 P)(f:P.length<1000000)(h:Sub P R)(a:R.length<1000000):a1r (R,())=some (a0H R):=by
 unfold a1r;simp only;rw[a9D g f h,decide_eq_true (by omega)];rfl
structure Some (P l:List Pge):Prop where
 sl:l.Sublist (a0Q P)
theorem Some.fit(i:a1v 0 P)(s:P.length≤50000)(h:Some P l):Fit l∧Sub P (a1i l)∧(a5m (-1) l<(P.length:Int))∧l.length≤100000:=by
 obtain⟨n,j⟩:=a9v P.length P 0 (a13 _) i (fun _=>by omega);have t:=b3a P;have r:=h.sl.length_le;have b:(a1i l).Sublist P:=by
  have:(a1i l).Sublist (a1i (a0Q P)):=h.sl.filter _
  rwa [n]at this
 have a:P.Pairwise fun p q=>p.1≠q.1:=(b3z i).imp fun h=>by omega
 have m:=a.sublist b;refine⟨⟨fun p hp=>?_,m⟩,⟨fun q g=>b.subset g,m⟩,?_,by omega⟩;rcases j p (h.sl.subset hp)with⟨_,g⟩|⟨g,_⟩;exact .inl g;exact .inr g
 have:=b3p (c:=(P.length:Int)-1) l (-1) (by omega) (fun p hp=>by
  rcases j p (h.sl.subset hp)with⟨g,e⟩|⟨g,o,e⟩;have f:isG p=false:=e.ng
  have:=i.num p g
  unfold a4T;rw[f];simp only[Bool.false_eq_true,if_false];omega;have f:isG p=true:=g.gd;unfold a4T;rw[f];simp only[if_true];omega)
 omega
theorem b2r:p∈a1i l↔p∈l∧isG p=false:=by
 unfold a1i;rw[a48]
 simp
theorem a7M:p∈a2g l↔p∈l∧isG p=true:=by
 unfold a2g;rw[a48]
theorem Some.gs(b:a1v 0 P)(h:Some P l):∀g∈a2g l,∃s,GOf P g s:=fun g c=>by
 obtain⟨a,f⟩:=a7M.1 c;rcases(a8m P.length P (a13 _)).1 g (h.sl.subset a)with h3|h3
 have:isG g=false:=(b.plain g h3).ng
 rw[this]at f;cases f;exact h3
def a5V(P l:List Pge):List Pge:=a2C P (a1i l) (a2g l)
theorem b5K(g:a1v 0 P)(i:∀p∈P,PgByt p)(b:P.length≤50000)(h:Some P l):Sub P (a5V P l)∧a4k l=(a4z (a0H (a5V P l),a5m (-1) l)).bind fun hs=>some (a0H (a5V P l),hs):=by
 obtain⟨e,a,q,r⟩:=h.fit g b;have m:(a1i l).length≤l.length:=a68 ..;have j:(a2g l).length≤l.length:=a68 ..;obtain⟨c,s,t⟩:=a6d g (a2g l) (a1i l) a;have n:=a9u e (by omega) l [] rfl;have o:=b2q (top:=a5m (-1) l) g i b (h.gs g) a (by omega);refine⟨c,?_⟩;unfold a4k a2G;have f:y0h a1j (((0:Int),(-1:Int),l,((a27 l:Nat):Int),(0:Int),([]:List Pge),([]:List Pge),()),(0:Int),([]:List (Int×Pge)))=_:=n;refine a0E f ?_
 simp only;refine a0E o ?_
 simp only[b4Y g (by omega) c (by omega),oB];rfl
def WF:List Int→List Pge→Prop
 |_,[]=>True
 |acc,p::l=>(p.2.1=true→acc=[])∧(p.2.1=false→acc≠[])∧(p.2.2.1=true→∃q,a5O q∧acc++p.2.2.2.2.1=a1l q)∧(acc.length≤60000)∧WF (if p.2.2.1 then[]else acc++p.2.2.2.2.1) l
theorem b4Z{q:Pk}(e:a5O q):∀(n:Nat)(f:Bool)(s:Nat)(r acc:List Int)(l:List Pge),r.length≤n→r≠[]→acc++r=a1l q→(f=true→acc=[])→(f=false→acc≠[])→WF [] l→WF acc (a1P f s r++l)
 |0,f,s,r,acc,l,h,h0,_,_,_,_=>absurd (a35.1 (Nat.le_zero.1 h)) h0
 |n+1,f,s,r,acc,l,h,h0,he,h1,h2,hw=>by
  have b:=a03.2 h0;obtain⟨_,hs,_⟩:=e;have a:=hs.dat
  have g:=congrArg a27 he;rw[a5l,lN]at g;rw[a2Q h0,a24];refine⟨h1,h2,fun c=>⟨q,⟨_,hs,by assumption⟩,?_⟩,by omega,?_⟩
  have:r.length≤252:=of_decide_eq_true c
  show acc++r.take 252=a1l q;rw[a30 this];exact he;show WF (if decide (r.length≤252)=true then[]else acc++r.take 252) _
  by_cases hc:r.length≤252
  rw[if_pos (decide_eq_true hc),b03 hc,a2k,a05];exact hw;rw[if_neg (by rw[decide_eq_false hc];decide)];refine b4Z ⟨_,hs,by assumption⟩ n false (s+1) (r.drop 252) (acc++r.take 252) l (by rw[a01];omega) (a03.1 (by rw[a01];omega)) (by rw[aA,a29];exact he) (fun h=>by cases h) (fun _=>?_) hw;exact a03.1 (by rw[lN,a00];omega)
theorem b2t:∀(Z:List Pk)(s:Nat),(∀p∈Z,a5O p)→WF [] (a1z s (Z.map a1l))
 | [],s,_=>trivial
 |q::Z,s,h=>by
  rw[a54,a1z];exact b4Z (h q (by simp)) _ true s (a1l q) [] _ (a13 _) (a7i q) rfl (fun _=>rfl) (fun h=>by cases h) (b2t Z _ fun p hp=>h p (by simp[hp]))
theorem b5L{q:Pk}(h:a5O q):a2m (a1l q)=some (q,0):=by
 rw[b3k h];refine(a9R h ?_).trans rfl;obtain⟨s,hs,_⟩:=h
 have:=hs.dat
 omega
structure JInv (J:Jn) (s:Nat) (acc:List Int):Prop where
 le:J.1≤(s:Int)
 nn:0≤J.1
 on:J.2.1=true→J.1=(s:Int)→J.2.2.1=acc
 off:J.2.1=false→J.2.2.1=[]
theorem b6u{J:Jn}{acc:List Int}(hp:PgPlain p)(hs:p.1=(s:Int))(z:s<1000000)(c:JInv J s acc)(A:WF acc (p::l)):
  ∃o h J1,a2b (J,p)=some (o,h,J1)∧JInv J1 (s+1) (if p.2.2.1 then[]else acc++p.2.2.2.2.1)∧o.length≤1:=by
 obtain⟨t,w2,B,F,_⟩:=A;obtain⟨j0,r,i,D,E⟩:=J;have C:=hp.b2;have v:=hp.b0;have x:j0≤(s:Int):=c.le;have b:wrap .i64 ((s:Int)+1)=((s+1:Nat):Int):=by rw[w64 (by omega)];omega

 have g:∀(a:List (Int×Int×Unit)) (j:Int×Unit) (Y:Option (List Pk×(List (Int×Int×Unit)×Jn))),∃o h J1,
   (bif lim ((a27 acc)+(a27 p.2.2.2.2.1))then(
    bif decide (((a27 (a31 acc p.2.2.2.2.1):Nat):Int) > (65554:Int))then Y
    else(
    bif !p.2.2.1 then some (([]:List Pk),a,(((s+1:Nat):Int)),true,a31 acc p.2.2.2.2.1,j)
    else(
    (a2m (a31 acc p.2.2.2.2.1)).bind fun u=>
    bif u.2 != (0:Int)then none
    else some (([u.1]:List Pk),a,(((s+1:Nat):Int)),false,([]:List Int),j))))
   else none)=some (o,h,J1)∧JInv J1 (s+1) (if p.2.2.1 then[]else acc++p.2.2.2.2.1)∧o.length≤1:=fun a j Y=>by
  rw[a0A (by omega),decide_eq_false (by rw[a20,lN];omega)];simp only[cT,cF];cases hl:p.2.2.1 with
  |false=>
   exact⟨[],a,_,rfl,⟨by show((s+1:Nat):Int)≤_;omega,by show(0:Int)≤((s+1:Nat):Int);omega,fun _ _=>rfl,fun h=>(by cases h)⟩,by simp⟩
  |true=>
   obtain⟨q,y,w⟩:=B hl;rw[a20,w,b5L y];exact⟨[q],a,_,rfl,⟨by show((s+1:Nat):Int)≤_;omega,by show(0:Int)≤((s+1:Nat):Int);omega,fun h=>(by cases h),fun _=>rfl⟩,by simp⟩
 unfold a2b;simp only[a7A hp.toPgOk,oB,bne_self_eq_false,cF,hp.ng];rw[hs,decide_eq_false (show ¬ (s:Int)<j0 by omega)];have e:∀(a:List (Int×Int×Unit)) (j:Int×Unit),∃o h J1,(some (([]:List Pk),a,(((s+1:Nat):Int)),false,([]:List Int),j):Option (List Pk×(List (Int×Int×Unit)×Jn)))=some (o,h,J1)∧JInv J1 (s+1) (if p.2.2.1 then[]else acc++p.2.2.2.2.1)∧o.length≤1:=fun a j=>
  ⟨[],a,_,rfl,⟨by show((s+1:Nat):Int)≤_;omega,by show(0:Int)≤((s+1:Nat):Int);omega,fun h=>(by cases h),fun _=>rfl⟩,by simp⟩
 by_cases hgt:(s:Int) > j0
 ·rw[decide_eq_true hgt];cases hf:p.2.1 with
  |true=>
   have m:=t hf;cases r with
   |true=>
    simp only[cT,a0T,oB,cF,hs,b,hf,bT];rw[m]at g⊢;exact g _ _ _
   |false=>
    have f:i=[]:=c.off rfl;subst f;simp only[cT,a0T,oB,cF,hs,b,hf,bT];rw[m]at g⊢;exact g _ _ _
  |false=>
   cases r with
   |true=>
    simp only[cT,a0T,oB,cF,hs,b,hf,a91];exact e _ _
   |false=>
    have f:i=[]:=c.off rfl;subst f;simp only[cT,a0T,oB,cF,hs,b,hf,a91];exact e _ _
 ·rw[decide_eq_false hgt];have n:j0=(s:Int):=by omega
  cases hf:p.2.1 with
  |true=>
   have m:=t hf;cases r with
   |true=>
    have f:i=acc:=c.on rfl n;subst f;simp only[cT,a0T,oB,cF,hs,b,hf,bT];rw[m]at g⊢;exact g _ _ _
   |false=>
    have f:i=[]:=c.off rfl;subst f;simp only[cT,a0T,oB,cF,hs,b,hf,bT];rw[m]at g⊢;exact g _ _ _
  |false=>
   cases r with
   |true=>
    have f:i=acc:=c.on rfl n;subst f;simp only[cT,a0T,oB,cF,hs,b,hf,bT];exact g _ _ _
   |false=>
    have f:i=[]:=c.off rfl;subst f;simp only[cT,a0T,oB,cF,hs,b,hf,a91];exact e _ _
theorem b6v:∀{R P:List Pge},R.Sublist P→∀{J:Jn}{s:Nat}{acc:List Int},a1v s P→s+P.length<1000000→JInv J s acc→WF acc P→∃o f,a7c J R o f∧o.length≤R.length:=by
 intro R P h
 induction h with
 |slnil=>intro J s acc _ _ _ _;exact⟨[],J,⟨rfl,rfl⟩,by simp⟩
 |cons p h ih=>
  intro J s acc a i g b;rw[lC]at i;obtain⟨o,f,c,l⟩:=ih (J:=J) a.tail (by omega) (acc:=if p.2.2.1 then[]else acc++p.2.2.2.2.1) ⟨by have:=g.le;omega,g.nn,fun _ e=>by have:=g.le;omega,g.off⟩ b.2.2.2.2
  exact⟨o,f,c,l⟩
 |cons_cons p h ih=>
  intro J s acc a i g b;rw[lC]at i;have j:=a 0 p rfl;obtain⟨o1,r,m,n,q,t⟩:=b6u j.2 j.1 (by omega) g b;obtain⟨o,f,c,l⟩:=ih a.tail (by omega) q b.2.2.2.2;exact⟨o1++o,f,⟨o1,r,m,o,n,c,rfl⟩,by rw[lN,lC];omega⟩
theorem b4i(g:Woven Z)(h:R.Sublist (a0J Z)):∃o J',a7c ((0:Int),false,([]:List Int),(0:Int),()) R o J'∧o.length≤R.length:=
 b6v h (a7J g) (by have:=a5q g;omega) ⟨by show(0:Int)≤_;omega,by show(0:Int)≤0;omega,fun h=>(by cases h),fun _=>rfl⟩ (b2t Z 0 g.pk)
theorem b0O{l:List Pge}{c:List Int}{hs:List (Int×Int×Unit)}(j:l.length<1000000):∀(rest done:List Pge)(J J':Jn)(out o:List Pk),done++rest=l→a7c J rest o J'→out.length+o.length<1000000→
  y0h a3r (l,((done.length:Nat):Int),c,hs,out,J,())=some (c,hs,out++o,())
 | [],done,J,J',out,o,e,h,_=>by
  obtain⟨rfl,rfl⟩:=h;rw[a02]at e;subst e;refine a1g ?_
  unfold a3r;simp only;rw[decide_eq_false (by omega),a02];rfl
 |p::rest,done,J,J',out,o,e,h,ho=>by
  obtain⟨o1,n,f,o2,a,b,rfl⟩:=h;rw[lN]at ho;have m:=b0O (c:=c) (hs:=hs) j rest (done++[p]) f J' (out++o1) o2 (by rw[←e,aA];rfl) b (by rw[lN];omega);have g:done.length+(rest.length+1)=l.length:=by rw[←e,lN,lC]
  have i:n0s l ((done.length:Nat):Int)=some p:=by
   have:done.length<l.length:=by omega
   rw[a0F this];congr 1;subst e;rw[a67 (a13 _)]
   simp
  rw[←aA,←m];refine a1A ?_
  unfold a3r;simp only;rw[decide_eq_true (show((done.length:Nat):Int)<((l.length:Nat):Int)by omega),i];simp only[cT,oB,a];rw[a0A (by omega),w64 (by omega),lN,a07];rfl
def a6M(p:Pge):List Pge→Nat
 | []=>0
 |q::l=>if p.1≤q.1 then 0 else a6M p l+1
theorem a9X(p:Pge):∀l,a6M p l≤l.length
 | []=>a13 _
 |q::l=>by
  rw[a6M,lC]
  have:=a9X p l
  split<;>omega
theorem a8p(p:Pge):∀l,a1R p l=(l.take (a6M p l)++[p])++l.drop (a6M p l)
 | []=>rfl
 |q::l=>by
  show(bif decide (p.1≤q.1)then p::q::l else q::a1R p l)=_
  by_cases h:p.1≤q.1
  rw[decide_eq_true h,a6M,if_pos h];rfl;rw[decide_eq_false h,a6M,if_neg h,a8p p l];rfl
theorem b3A(p:Pge):∀(l:List Pge)(j:Nat) q,l[j]?=some q→(j<a6M p l→q.1<p.1)∧(j=a6M p l→p.1≤q.1)
 | [],j,q,h=>by simp at h
 |r::l,j,q,h=>by
  rw[a6M]
  by_cases hr:p.1≤r.1
  rw[if_pos hr];refine⟨fun h=>by omega,fun g=>?_⟩;subst g;simp only[b00,sj]at h;rw[←h];exact hr
  ·rw[if_neg hr]
   match j,h with
   |0,h=>
    simp only[b00,sj]at h;refine⟨fun _=>by rw[←h];omega,fun g=>by omega⟩
   |j+1,h=>
    obtain⟨f,a⟩:=b3A p l j q (by simpa using h);exact⟨fun g=>f (by omega),fun g=>a (by omega)⟩
theorem b2u(j:∀q∈l,q.1≠p.1)(n:l.length<1000000):a4B (l,p)=some (a1R p l,true):=by
 have e:=a9X p l;have h:=b3A p l;rw[a8p];generalize a6M p l=k at *;unfold a4B
 have:=a0D (f:=a4w) (fun i=>(l,(i:Int),p,())) k (b:=(l,(k:Int),p,())) (fun i c=>?_) ?_
 refine a0E this ?_
 simp only;have o:(a52 k l).length≤l.length:=by rw[a00];omega
 have m:(a59 k l).length≤l.length:=by rw[a01];omega
 by_cases hk:k<l.length
 have g:=(h k l[k] (lG hk)).2 rfl;have a:=j l[k] (a19 hk);rw[decide_eq_true (show(k:Int)<((l.length:Nat):Int)by omega),a0F hk];simp only[cT,oB];rw[show((l[k]).1==p.1)=false by rw[beq_eq_false_iff_ne];exact a,decide_eq_true (show(0:Int)≤(k:Int)by omega),decide_eq_true (show(k:Int)≤((l.length:Nat):Int)by omega),tN,a08];simp only[cF,cT,a23,a20,a05];rw[a0A (by omega),a0A (by omega),a0A (by rw[lN,a07];omega)];rfl;rw[decide_eq_false (show ¬ (k:Int)<((l.length:Nat):Int)by omega)];simp only[cF,oB];rw[decide_eq_true (show(0:Int)≤(k:Int)by omega),decide_eq_true (show(k:Int)≤((l.length:Nat):Int)by omega),tN,a08];simp only[cF,cT,a23,a20,a05];rw[a0A (by omega),a0A (by omega),a0A (by rw[lN,a07];omega)];rfl;have g:=(h i l[i] (lG (by omega))).1 c;unfold a4w;simp only;rw[decide_eq_true (show(i:Int)<((l.length:Nat):Int)by omega),a0F (show i<l.length by omega)];simp only[cT,oB];rw[decide_eq_true g,w64 (by omega)];rfl;unfold a4w;simp only
 by_cases hk:k<l.length
 have g:=(h k l[k] (lG hk)).2 rfl;rw[decide_eq_true (show(k:Int)<((l.length:Nat):Int)by omega),a0F hk];simp only[cT,oB];rw[decide_eq_false (by omega)];rfl;rw[decide_eq_false (by omega)];rfl
theorem b4j(p:Pge)(l:List Pge):(a1R p l).length=l.length+1:=by
 have:=a9X p l
 rw[a8p,lN,lN,a00,a01,a07];omega
theorem a6N:∀l:List Pge,(a0H l).length=l.length
 | []=>rfl
 |p::l=>by
  show(a1R p (a0H l)).length=_;rw[b4j,a6N l,lC]
theorem b0P(h:(R++[p]).Pairwise fun p q=>p.1≠q.1):a0H (R++[p])=a1R p (a0H R):=by
 have g:=(a17.1 h).1;have f:∀q∈a0H R,q.1≠p.1:=fun q a=>(a17.1 h).2.2 q ((a3w q R).1 a) p (by simp);refine a6U (a7o h) (a8o (a7o g) f) fun q=>?_
 rw[a3w,a6r,a3w,mA,a16];exact Or.comm
def inG(s k:Int)(p:Pge):Bool:=decide (p.1≥s)&&decide (p.1<s+k)
theorem b6w{s k:Int}(hs:0≤s∧s≤1000000)(c:0≤k∧k≤1000000)(j:l.length<1000000):a5d (l,s,k)=some (l.filter (inG s k)):=by
 unfold a5d
 have:=a0D (f:=a4P) (fun i=>(l,s,k,(i:Int),(l.take i).filter (inG s k),())) l.length (b:=(l.filter (inG s k),())) (fun i h=>?_) ?_
 exact a0E this rfl;have a:=a68 (inG s k) (l.take i);rw[a00]at a;have g:wrap .i64 ((i:Int)+1)=((i+1:Nat):Int):=by rw[w64 (by omega)];omega
 unfold a4P;simp only;rw[decide_eq_true (show(i:Int)<((l.length:Nat):Int)by omega),a0F h,a04 h,a84,w64 (n:=s+k) (by omega)];simp only[cT,oB]
 by_cases h1:(l[i]).1≥s
 by_cases h2:(l[i]).1<s+k
 have e:b62 (inG s k) [l[i]]=[l[i]]:=by
  rw[a69,if_pos (by unfold inG;rw[decide_eq_true h1,decide_eq_true h2];rfl)];rfl
 rw[decide_eq_true h1,decide_eq_true h2,e];simp only[cT,oB,a0F h,g];rw[a0A (by omega)];rfl;have e:b62 (inG s k) [l[i]]=[]:=by
  rw[a69,if_neg (by unfold inG;rw[decide_eq_false h2,Bool.and_false];decide)];rfl
 rw[decide_eq_true h1,decide_eq_false h2,e,a02];simp only[cT,cF,oB,g];have e:b62 (inG s k) [l[i]]=[]:=by
  rw[a69,if_neg (by unfold inG;rw[decide_eq_false h1,Bool.false_and];decide)];rfl
 rw[decide_eq_false h1,e,a02];simp only[cT,cF,oB,g];unfold a4P;simp only;rw[decide_eq_false (by omega),a08];rfl
theorem a8q{n:Int}{q:Pge}:∀{R:List Pge},g0l n (kv R)=some q→q∈R∧q.1=n
 | [],h=>by cases h
 |p::R,h=>by
  have g:(bif p.1==n then some p else g0l n (kv R))=some q:=h;cases e:p.1==n with
  |true=>
   rw[e]at g;cases g;exact⟨by simp,by rw[beq_iff_eq]at e;exact e⟩
  |false=>
   rw[e]at g;obtain⟨f,a⟩:=a8q g;exact⟨by simp[f],a⟩
theorem a9E(L:List (Int×Pge))(s:Int)(k:Nat):a1K L s (k+1)=a1K L s k++(g0l (s+(k:Int)) L).toList:=by
 unfold a1K;rw[a72,a90];congr 1
theorem b2v{P R:List Pge}(i:a1v 0 P)(g:∀q∈R,q∈P)(s:Int):∀k:Nat,Up (a1K (kv R) s k)∧∀q,q∈a1K (kv R) s k↔q∈R∧s≤q.1∧q.1<s+(k:Int)
 |0=>⟨.nil,fun q=>⟨fun h=>(by cases h),fun h=>by omega⟩⟩
 |k+1=>by
  obtain⟨l,f⟩:=b2v i g s k;rw[a9E];refine⟨a17.2 ⟨l,?_,fun a m b j=>?_⟩,fun q=>?_⟩
  ·cases g0l (s+(k:Int)) (kv R)with
   |none=>exact .nil
   |some x=>exact a43 ..
  have n:=(f a).1 m;rw[b56]at j
  have:=(a8q j).2
  omega;rw[mA,f,b56];constructor
  rintro(h|h)
  exact⟨h.1,h.2.1,by omega⟩;obtain⟨a,b⟩:=a8q h;exact⟨a,by omega,by omega⟩
  rintro⟨a,b,c⟩
  by_cases e:q.1=s+(k:Int)
  right;rw[←e];exact a6T i (g q a) R g a;exact .inl ⟨a,b,by omega⟩
theorem a9F(L:List (Int×Pge))(s:Int):∀k:Nat,(a1K L s k).length+(a1H L s k).length=k
 |0=>rfl
 |k+1=>by
  have g:=a9F L s k;have h:a1H L s (k+1)=a1H L s k++(if(g0l (s+(k:Int)) L).isNone then[k]else[]):=by
   unfold a1H;rw[a72,a84,a69];rfl
  rw[a9E,h,lN,lN];cases g0l (s+(k:Int)) L with
  |none=>simp;omega
  |some x=>simp;omega
theorem b3c(b:a1v 0 P)(g:Sub P R){k:Nat}(hs:s≤1000000)(c:k≤1000000)(e:R.length<1000000)(h:(a0H R).length<1000000):a5d (a0H R,(s:Int),(k:Int))=some (a1K (kv R) (s:Int) k):=by
 rw[b6w ⟨by omega,by omega⟩ ⟨by omega,by omega⟩ h];congr 1;obtain⟨f,a⟩:=b2v b g.sub (s:Int) k;refine a6U ((a7o g.dif).filter _) f fun q=>?_
 unfold inG;rw[a48,a3w,a,bA,decide_eq_true_iff,decide_eq_true_iff]
def a1u:Int→List Pge→List (Int×Int×Unit)×Int
 |n,[]=>([],n)
 |n,p::l=>((if p.1 > n then[(n,p.1-1,())]else[])++(a1u (p.1+1) l).1,(a1u (p.1+1) l).2)
theorem a7d(p:Pge):∀(l:List Pge)(n:Int),a1u n (l++[p])=((a1u n l).1++(if p.1 > (a1u n l).2 then[((a1u n l).2,p.1-1,())]else[]),p.1+1)
 | [],n=>by simp[a1u]
 |q::l,n=>by
  rw[a24,a1u,a7d p l,a1u];simp only[aA]
theorem a4V:∀(l:List Pge)(n:Int),(a1u n l).1.length≤l.length
 | [],_=>by simp[a1u]
 |p::l,n=>by
  have:=a4V l (p.1+1)
  rw[a1u,lN,lC]
  split<;>simp<;>omega
def a7p(l:List Pge)(top:Int):List (Int×Int×Unit):=(a1u 0 l).1++(if top≥(a1u 0 l).2 then[((a1u 0 l).2,top,())]else[])
theorem b6x{top:Int}(j:∀p∈l,0≤p.1∧p.1≤1000000)(n:l.length<1000000):a4z (l,top)=some (a7p l top):=by
 unfold a4z
 have:=a0D (f:=a4t) (fun i=>(top,(a1u 0 (l.take i)).2,l,((l.length:Nat):Int),(i:Int),(a1u 0 (l.take i)).1,())) l.length (b:=(top,(a1u 0 l).2,(a1u 0 l).1,())) (fun i a=>?_) ?_
 refine a0E this ?_
 have g:=a4V l 0;unfold a7p;simp only
 by_cases h:top≥(a1u 0 l).2
 rw[decide_eq_true h,if_pos h,a0A (by omega)];rfl;rw[decide_eq_false h,if_neg h,a02];rfl;have m:=j l[i] (a19 a);have g:=a4V (l.take i) 0;rw[a00]at g;have e:wrap .i64 ((i:Int)+1)=((i+1:Nat):Int):=by rw[w64 (by omega)];omega
 have c:wrap .i64 ((l[i]).1+1)=(l[i]).1+1:=w64 (by omega);have w2:wrap .i64 ((l[i]).1-1)=(l[i]).1-1:=w64 (by omega);unfold a4t;simp only;rw[decide_eq_true (show(i:Int)<((l.length:Nat):Int)by omega),a0F a,a04 a,a7d];simp only[cT,oB,w2]
 by_cases h:(l[i]).1 > (a1u 0 (l.take i)).2
 rw[decide_eq_true h,if_pos h,a0A (by omega)];simp only[cT,oB,c,e];rfl;rw[decide_eq_false h,if_neg h,a02];simp only[cF,oB,c,e];unfold a4t;simp only;rw[decide_eq_false (by omega),a08];rfl
theorem b5a{top:Int}(q:-1≤top∧top≤1000000)(j:∀p∈l,0≤p.1∧p.1≤1000000)(o:l.length<1000000):a5j (l,top+1)=some (a7p l top):=by
 unfold a5j
 have:=a0D (f:=a3X) (fun i=>(l,top+1,(a1u 0 (l.take i)).2,(i:Int),(a1u 0 (l.take i)).1,())) l.length (b:=(top+1,(a1u 0 l).2,(a1u 0 l).1,())) (fun i a=>?_) ?_
 refine a0E this ?_
 have g:=a4V l 0;have n:wrap .i64 (top+1-1)=top:=by rw[w64 (by omega)];omega
 unfold a7p;simp only
 by_cases h:top≥(a1u 0 l).2
 rw[decide_eq_true (show top+1 > (a1u 0 l).2 by omega),if_pos h,a0A (by omega),n];rfl;rw[decide_eq_false (show ¬ top+1 > (a1u 0 l).2 by omega),if_neg h,a02];rfl;have m:=j l[i] (a19 a);have g:=a4V (l.take i) 0;rw[a00]at g;have e:wrap .i64 ((i:Int)+1)=((i+1:Nat):Int):=by rw[w64 (by omega)];omega
 have c:wrap .i64 ((l[i]).1+1)=(l[i]).1+1:=w64 (by omega);have w2:wrap .i64 ((l[i]).1-1)=(l[i]).1-1:=w64 (by omega);unfold a3X;simp only;rw[decide_eq_true (show(i:Int)<((l.length:Nat):Int)by omega),a0F a,a04 a,a7d];simp only[cT,oB,w2]
 by_cases h:(l[i]).1 > (a1u 0 (l.take i)).2
 rw[decide_eq_true h,if_pos h,a0A (by omega)];simp only[cT,oB,a0F a,c,e];rfl;rw[decide_eq_false h,if_neg h,a02];simp only[cF,oB,a0F a,c,e];unfold a3X;simp only;rw[decide_eq_false (by omega),a08];rfl
theorem b5b(h:Int×(Int×Unit)):eqT (.pair (.int .i64) (.pair (.int .i64) .unit)) h h=true:=by
 obtain⟨a,b,u⟩:=h;simp[eqT]
theorem b4k{l:List (Int×Int×Unit)}(g:l.length<1000000):a4x (l,l)=some true:=by
 unfold a4x;simp only[bne_self_eq_false,cF]
 have:=a0D (f:=a3q) (fun i=>(l,l,(i:Int),())) l.length (b:=.inl ()) (fun i h=>?_) ?_
 exact a0E this rfl;unfold a3q;simp only;rw[decide_eq_true (show(i:Int)<((l.length:Nat):Int)by omega),a0F h];simp only[cT,oB,b5b,bT,cF];rw[w64 (by omega)];rfl;unfold a3q;simp only;rw[decide_eq_false (by omega)];rfl
end Go.Ab
