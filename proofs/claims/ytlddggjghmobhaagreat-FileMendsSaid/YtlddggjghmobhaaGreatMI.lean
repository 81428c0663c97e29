/- Part of the proof: QA. Conditions: as each statement tells. -/
import Derived.Test.YtlddggjghmobhaaGreatMH
noncomputable section
set_option linter.unusedSimpArgs false
set_option linter.unusedVariables false
open BitVec renaming ofInt→a32,xor_zero→a94,toNat_ofInt→b12,zero_xor→b30,ofInt_natCast→b36,ofNat_toNat→b48,setWidth_eq→b49,xor_assoc→b57,xor_self→b62
open Bool renaming and_true→a07,not_false→a79,not_eq_true'→a84,and_self→b20
open Int renaming toNat→a23,tmod→a42,tmod_lt_of_pos→a82,natCast_nonneg→b09,fdiv_eq_ediv_of_nonneg→b17,tmod_nonneg→b29,le_refl→b31,toNat_of_nonneg→b39,lt_tmod_of_pos→b42,natCast_pow→b60
open List renaming length_drop→a00,length_take→a01,length_pos_iff→a02,append_nil→a03,take_succ_eq_append_getElem→a04,nil_append→a05,length_nil→a06,length_singleton→a08,mem_of_mem_take→a09,mem_singleton→a13,append_eq→a16,getElem_mem→a17,mem_of_mem_drop→a19,take_length→a20,pairwise_append→a24,take_append_drop→a26,replicate→a27,take_of_length_le→a28,cons_append→a29,length→a30,length_set→a31,append→a33,pairwise_cons→a34,getElem?_append_right→a35,getD→a36,length_eq_zero_iff→a37,take→a38,getElem?_of_mem→a40,length_replicate→a41,drop→a43,length_map→a44,getElem?_eq_none→a47,drop_eq_nil_iff→a48,singleton_append→a49,pairwise_singleton→a51,drop_eq_getElem_cons→a52,getElem?_append_left→a54,map_cons→a56,take_zero→a57,mem_filter→a58,flatMap_cons→a59,range→a61,not_mem_nil→a63,length_filter_le→a64,flatMap_append→a69,flatMap_singleton→a71,set_append_right→a72,pairwise_iff_getElem→a73,getElem_append_right→a74,length_range→a75,drop_zero→a78,flatMap_nil→a80,range_succ→a83,foldl_append→a85,getElem?_map→a86,mem_append_right→a87,drop_drop→a88,head_eq_getElem→a89,mem_cons_of_mem→a91,getElem?_range→a93,set_cons_zero→a95,getElem?_drop→a96,getElem?_replicate→a97,mem_range→a98,drop_eq_nil_of_le→b00,drop_length→b01,filter_cons→b03,sum_cons→b04,filterMap_append→b05,mem_append_left→b06,headD_cons→b07,filterMap_cons→b08,filter_append→b14,flatten_cons→b18,ext_getElem?→b21,getElem?_set→b24,mem_flatten→b25,map_nil→b28,take_take→b32,drop_take→b34,mem_iff_getElem→b35,replicate_succ→b37,replicate_zero→b38,filter_eq_self→b40,set→b41,set_cons_succ→b43,getElem?_take→b47,mem_map→b51,take_append→b53,drop_append→b54,mem_flatMap→b56,foldl_cons→b61,drop_left→b63,take_left→b64
open Nat renaming le_refl→a11,min_eq_left→a60,min_eq_right→a62,lt_succ_iff_lt_or_eq→a65,sub_self→a67,zero_add→a68,pow_succ→a81,pow_le_pow_right→a90,div_div_eq_div_mul→a99,div_lt_iff_lt_mul→b02,sub_zero→b27,mul_le_mul→b33,lt_of_le_of_lt→b44,mul_comm→b50,add_mod_right→b52,mod_eq_of_lt→b55,strongRecOn→b58,div_le_self→b59
open Option renaming getD_some→a92,isSome_none→b45,isNone_none→b46
namespace Go.Ab
variable {A R b x:List Int}{N i j n o r s z:Nat}{m most:Int}{α β σ:Type}{f:σ→Option (σ ⊕ β)}
open IntKind(wrap)
section
variable {α A σ β:Type}
def a7a(g:A→α→A ⊕ β):List α→A→A ⊕ β
 | [],a=>.inl a
 |x::r,a=>match g a x with
  |.inl a'=>a7a g r a'
  |.inr b=>.inr b
def b4S(fin:A→β):A ⊕ β→β
 |.inl a=>fin a
 |.inr b=>b
theorem a6K{f:σ→Option (σ ⊕ β)}(l:List α)(S:Nat→A→σ)(g:A→α→A ⊕ β)(I:Nat→A→Prop)(j:A→β)
  (e:∀i (h:i<l.length) a,I i a→(∀a',g a l[i]=.inl a'→f (S i a)=some (.inl (S (i+1) a'))∧I (i+1) a')∧(∀b,g a l[i]=.inr b→f (S i a)=some (.inr b)))
  (c:∀a,I l.length a→f (S l.length a)=some (.inr (j a))):∀(k i:Nat)(a:A),i+k=l.length→I i a→y0h f (S i a)=some (b4S j (a7a g (l.drop i) a))
 |0,i,a,hi,ha=>by
  obtain rfl:i=l.length:=by omega
  rw[b01];exact a0V (c a ha)
 |k+1,i,a,hi,ha=>by
  have m:i<l.length:=by omega
  rw[a52 m];obtain⟨n,o⟩:=e i m a ha;simp only[a7a];cases hg:g a l[i]with
  |inl a'=>
   obtain⟨p,q⟩:=n a' hg;rw[a1t p];exact a6K l S g I j e c k (i+1) a' (by omega) q
  |inr b=>exact a0V (o b hg)
theorem b3U{f:σ→Option (σ ⊕ β)}(l:List α)(S:Nat→A→σ)(g:A→α→A ⊕ β)(I:Nat→A→Prop)(c:A→β)
  (j:∀i (h:i<l.length) a,I i a→(∀a',g a l[i]=.inl a'→f (S i a)=some (.inl (S (i+1) a'))∧I (i+1) a')∧(∀b,g a l[i]=.inr b→f (S i a)=some (.inr b)))
  (e:∀a,I l.length a→f (S l.length a)=some (.inr (c a))){a:A}(m:I 0 a):y0h f (S 0 a)=some (b4S c (a7a g l a)):=by
 have:=a6K l S g I c j e l.length 0 a (by omega) m
 rwa [a78]at this
end
theorem b1l{l:List α}(h:i<l.length):n0s l (i:Int)=some l[i]:=by
 unfold n0s;rw[if_pos (b09 i),tN,lG h]
theorem a9K(h:i<1000000):wrap .i64 ((i:Int)+1)=((i+1:Nat):Int):=by
 rw[wrap64 (by omega)];omega
theorem dlt(h:i<n):decide ((i:Int)<(n:Int))=true:=by simp;omega
theorem dge(n:Nat):decide ((n:Int)<(n:Int))=false:=by simp
theorem b1m(I:Nat→σ→Prop)(Q:β→Prop)(h:∀i s,I i s→(∃s' j,f s=some (.inl s')∧j<i∧I j s')∨(∃b,f s=some (.inr b)∧Q b)):∀(i:Nat)(s:σ),I i s→∃b,y0h f s=some b∧Q b:=by
 intro i
 induction i using b58 with
 |_ i ih=>
  intro s hi;rcases h i s hi with⟨s',j,g,a,c⟩|⟨b,g,a⟩;rw[a1t g];exact ih j a s' c;exact⟨b,a0V g,a⟩
theorem a1H(I:Nat→σ→Prop)(Q:β→Prop){R:Prop}(i:Nat)(s:σ)(g:I i s)(e:∀b,y0h f s=some b→Q b→R)(h:∀i s,I i s→(∃s' j,f s=some (.inl s')∧j<i∧I j s')∨(∃b,f s=some (.inr b)∧Q b)):R:=by
 obtain⟨b,a,c⟩:=b1m I Q h i s g;exact e b a c
theorem w64{n:Int}(h:-9223372036854775808≤n∧n<9223372036854775808):wrap .i64 n=n:=by
 simp only[wrap,IntKind.bits,IntKind.signed]
 simp
 omega
theorem wu8(n:Int):0≤wrap .u8 n∧wrap .u8 n<256:=by
 simp only[wrap,IntKind.bits,IntKind.signed]
 simp
 omega
abbrev a5p:Type:=List Int×(Int×Unit)
variable {t:a5p}
def a1B(r:Nat)(t:a5p):Prop:=0≤t.2.1∧t.2.1+(r:Int)≤1000000
theorem a1B.mono{r':Nat}(h:a1B r t)(g:r'≤r):a1B r' t:=⟨h.1,by have:=h.2;omega⟩
theorem b3V(x:Int):∃v,a1C (x,(0:Int),(1073741824:Int))=some v∧0≤v:=by
 have f:wrap .i64 ((wrap .i64 ((1073741824:Int)-0))+(1:Int))=1073741825:=by decide
 unfold a1C;dsimp only
 by_cases h0:x≥0
 rw[decide_eq_true h0];simp only[cT,oB]
 by_cases h1:x≤1073741824
 rw[decide_eq_true h1];exact⟨x,rfl,h0⟩;rw[decide_eq_false h1];simp only[cF];rw[f];have b:0≤a42 x 1073741825:=b29 _ h0;have g:a42 x 1073741825<1073741825:=a82 _ (by decide);rw[decide_eq_false (show ¬ a42 x 1073741825<0 by omega)];have h:((1073741825:Int)==0)=false:=by decide
 simp only[h,cF,oB];refine⟨_,rfl,?_⟩;rw[w64 (by omega)];omega;rw[decide_eq_false h0];simp only[cF,oB];have g:-1073741825<a42 x 1073741825:=b42 _ (by decide);have a:a42 x 1073741825<1073741825:=a82 _ (by decide);rw[f];have h:((1073741825:Int)==0)=false:=by decide
 simp only[h,cF]
 by_cases hn:a42 x 1073741825<0
 rw[decide_eq_true hn];simp only[cT,oB];refine⟨_,rfl,?_⟩;simp only[w64 (show -9223372036854775808≤a42 x 1073741825+1073741824∧a42 x 1073741825+1073741824<9223372036854775808 by omega)];simp only[w64 (show -9223372036854775808≤a42 x 1073741825+1073741824-0∧a42 x 1073741825+1073741824-0<9223372036854775808 by omega)];simp only[w64 (show -9223372036854775808≤a42 x 1073741825+1073741824-0+1∧a42 x 1073741825+1073741824-0+1<9223372036854775808 by omega)];rw[w64 (by omega)];omega;rw[decide_eq_false hn];simp only[cF,oB];refine⟨_,rfl,?_⟩;rw[w64 (by omega)];omega
theorem a1u{n:Int}(e:a1B (r+1) t)(f:0<n):∃v t',a0A (t,n)=some (v,t')∧0≤v∧v<n∧a1B r t':=by
 obtain⟨g,j⟩:=e;unfold a0A
 by_cases hc:t.2.1≥(t.1.length:Int)
 simp only[decide_eq_true hc,cT,oB];exact⟨0,t,rfl,b31 _,f,g,by omega⟩;simp only[decide_eq_false hc,cF,oB,decide_eq_false (show ¬ n<1 by omega)];have a:wrap .i64 (t.2.1+1)=t.2.1+1:=w64 (by omega);have b:wrap .i64 (t.2.1+1-1)=t.2.1:=by rw[w64 (by omega)];omega
 rw[a,b];obtain⟨y,i⟩:∃y,n0s t.1 t.2.1=some y:=by
  unfold n0s
  have:t.2.1.toNat<t.1.length:=by omega
  exact⟨_,by rw[if_pos g,lG this]⟩
 rw[i];obtain⟨v,hv,h⟩:=b3V y;simp only[oB,hv];have c:(n==0)=false:=by simp;omega
 simp only[c,cF];exact⟨_,_,rfl,b29 _ h,a82 _ f,by show 0≤t.2.1+1;omega,by show t.2.1+1+(r:Int)≤1000000;omega⟩
theorem b4T(r:Int×Unit):∃v r',a3s (r,(256:Int))=some (v,r'):=⟨_,_,rfl⟩
theorem a0C(h:n<2147483648):lim n=true:=by
 unfold lim;exact decide_eq_true (by omega)
theorem b3m{n:Int}(B:a1B (r+2) t)(H:0≤n∧n≤1000):∃b t',a1X (t,n)=some (b,t')∧(b.length:Int)≤n∧(∀v∈b,0≤v∧v<256)∧a1B r t':=by
 unfold a1X;obtain⟨D,K,p,-,-,x⟩:=a1u B (show(0:Int)<1048576 by decide);have s:wrap .i64 (n+1)=n+1:=w64 (by omega);obtain⟨o,t2,q,E,b2,y⟩:=a1u x (show(0:Int)<n+1 by omega);simp only[p,oB,s,q];refine a1H (f:=a2m) (fun i h=>h.1=(i:Int)∧(h.2.1.length:Int)+i≤n∧(∀v∈h.2.1,0≤v∧v<256)∧h.2.2.2.1=t2)
  (fun w=>(w.1.length:Int)≤n∧(∀v∈w.1,0≤v∧v<256)∧w.2.1=t2) o.toNat (o,[],(D,()),t2,()) ⟨by simp only;omega,by simp only[a06];omega,by simp,rfl⟩ (fun w C z=>?_) (fun i h a=>?_)
 obtain⟨c,e,j⟩:=z;rw[C];exact⟨_,_,rfl,c,e,by show a1B r w.2.1;rw[j];exact y⟩;obtain⟨F,G,l,m⟩:=a;unfold a2m
 by_cases hp:h.1 > 0
 left;obtain⟨v,I,A⟩:=b4T h.2.2.1;rw[decide_eq_true hp,A];simp only[cT,oB];rw[a0C (by omega)];refine⟨_,i-1,rfl,by omega,?_,?_,?_,m⟩;show wrap .i64 (h.1-1)=_;rw[w64 (by omega)];omega;show((h.2.1.append [_]).length:Int)+_≤n;simp only[a16,lN,a08];omega;intro u g;rcases mA.1 (show u∈h.2.1++[_]from g)with g|g;exact l u g;rw[a13]at g;rw[g];exact wu8 _;right;rw[decide_eq_false hp];exact⟨_,rfl,by show(h.2.1.length:Int)≤n;omega,l,m⟩
abbrev Pk:Type:=Int×(Int×(Int×(Bool×(Bool×(List Int×Unit)))))
variable {L:List (List Pk)}{X Y Z:List Pk}{y:Pk}
structure PkOk (s:Int) (p:Pk):Prop where
 st:p.1=s
 at0:0≤p.2.1
 at1:p.2.1≤1000
 len0:0≤p.2.2.1
 len1:p.2.2.1≤50
 dat:p.2.2.2.2.2.1.length≤900
 byt:∀v∈p.2.2.2.2.2.1,0≤v∧v<256
structure PksOk (s:Int) (n:Nat) (l:List Pk):Prop where
 ok:∀p∈l,PkOk s p
 len:l.length≤n
 asc:l.Pairwise fun p q=>p.2.1≤q.2.1
theorem b1n{s:Int}(ht:a1B (r+58) t)(hn:n≤8):∃l t',a1Q (t,s,(n:Int))=some (l,t')∧PksOk s n l∧a1B r t':=by
 unfold a1Q;obtain⟨v1,t1,H,a1,b1,T⟩:=a1u ht (show(0:Int)<40 by decide);have S:wrap .i64 ((n:Int)+1)=n+1:=w64 (by omega);obtain⟨A,t2,I,a2,b2,U⟩:=a1u T (show(0:Int)<(n:Int)+1 by omega);simp only[H,oB,S,I];refine a1H (f:=a2d) (fun i g=>g.1=s∧0≤g.2.1∧g.2.1+60*i≤40+60*(n:Int)∧g.2.2.1=(i:Int)∧(g.2.2.2.1.length:Int)+i≤n∧(∀p∈g.2.2.2.1,PkOk s p∧p.2.1≤g.2.1)∧g.2.2.2.1.Pairwise (fun p q=>p.2.1≤q.2.1)∧a1B (r+7*i) g.2.2.2.2.1)
  (fun w=>PksOk s n w.1∧a1B r w.2.1) A.toNat (s,v1,A,[],t2,()) ⟨rfl,a1,by simp only;omega,by simp only;omega,by simp only[a06];omega,by simp,.nil,U.mono (by omega)⟩ (fun w hw hQ=>?_) (fun i g o=>?_)
 obtain⟨u,v⟩:=hQ;rw[hw];exact⟨_,_,rfl,u,v⟩;obtain⟨x,G,c3,c4,c5,m,y,z⟩:=o;unfold a2d
 by_cases hp:g.2.2.1 > 0
 left;obtain⟨B,t3,K,C,b3,V⟩:=a1u (r:=r+7*(i-1)+6) (z.mono (by omega)) (show(0:Int)<50 by decide);obtain⟨x4,t4,L,a4,b4,W⟩:=a1u V (show(0:Int)<3 by decide);obtain⟨x5,t5,M,a5,b5,X⟩:=a1u W (show(0:Int)<8 by decide);obtain⟨c,t6,N,D,E,Y⟩:=a1u X (show(0:Int)<3 by decide);have hd:0≤a36 ([20,300,900]:List Int) (a23 c) 0∧a36 ([20,300,900]:List Int) (a23 c) 0≤900:=by
  have:a23 c=0∨a23 c=1∨a23 c=2:=by omega
  rcases this with h|h|h<;>rw[h]<;>decide
 obtain⟨b,t7,O,a7,F,Z⟩:=b3m Y (n:=a36 ([20,300,900]:List Int) (a23 c) 0) (by omega);obtain⟨j,t8,P,a8,b8,h8⟩:=a1u Z (show(0:Int)<60 by decide);rw[decide_eq_true hp];simp only[cT,oB,K,L,M,N,O,P,decide_eq_true D,decide_eq_true E,a07];rw[a0C (by omega)];have Q:wrap .i64 (g.2.1+j)=g.2.1+j:=w64 (by omega);have R:wrap .i64 (g.2.2.1-1)=g.2.2.1-1:=w64 (by omega);rw[Q,R];have e:PkOk s (g.1,g.2.1,B,decide (x4 > 0),x5==7,b,()):=⟨x,G,by show g.2.1≤1000;omega,C,by show B≤50;omega,by show b.length≤900;omega,F⟩;refine⟨_,i-1,rfl,by omega,x,by show 0≤g.2.1+j;omega,by show g.2.1+j+60*((i-1:Nat):Int)≤_;omega,by show g.2.2.1-1=_;omega,?_,?_,?_,h8⟩;show((g.2.2.2.1.append [_]).length:Int)+_≤n;simp only[a16,lN,a08];omega;intro p a;show PkOk s p∧p.2.1≤g.2.1+j;rcases mA.1 (show p∈g.2.2.2.1++[_]from a)with a|a
 have:=m p a
 exact⟨this.1,by omega⟩;rw[a13]at a;subst a;exact⟨e,by show g.2.1≤_;omega⟩;show(g.2.2.2.1++[_]).Pairwise _;refine a24.2 ⟨y,a51 ..,fun p hp q a=>?_⟩;rw[a13]at a;subst a;exact(m p hp).2;right;rw[decide_eq_false hp];exact⟨_,rfl,⟨fun p hp=>(m p hp).1,by show g.2.2.2.1.length≤n;omega,y⟩,z.mono (by omega)⟩
def klt(p q:Pk):Bool:=decide (p.2.1<q.2.1) || (decide (p.2.1=q.2.1)&&decide (p.1<q.1))
def sg(a b:Int):Int:=bif decide (a<b)then -1 else(bif decide (a > b)then 1 else 0)
theorem b7h(a b:Int):a2N (a,b)=some (sg a b):=by
 simp only[a2N,a3i,oB,bne_self_eq_false,cF,sg];cases decide (a<b)<;>cases decide (a > b)<;>rfl
theorem b8M(a b:Int):a3j (a,b)=some (sg a b):=by
 simp only[a3j,a3Q,oB,bne_self_eq_false,cF,sg];cases decide (a<b)<;>cases decide (a > b)<;>rfl
theorem b1o(a b:Int):(a<b∧sg a b=-1)∨(b<a∧sg a b=1)∨(a=b∧sg a b=0):=by
 unfold sg
 by_cases h1:a<b
 rw[decide_eq_true h1];exact .inl ⟨h1,rfl⟩;rw[decide_eq_false h1]
 by_cases h2:a > b
 rw[decide_eq_true h2];exact .inr (.inl ⟨h2,rfl⟩);rw[decide_eq_false h2];exact .inr (.inr ⟨by omega,rfl⟩)
theorem b6y(a b:Int)(h:a=-1∨a=1∨a=0)(g:b=-1∨b=1∨b=0):a5V [a,b]=some (if a=0 then b else a):=by
 rcases h with rfl|rfl|rfl<;>rcases g with rfl|rfl|rfl<;>kernel_rfl
theorem a8P(p q:Pk):∃c,a2E (p,q)=some c∧decide (c<0)=klt p q:=by
 simp only[a2E,b7h,b8M,oB];obtain⟨f,h⟩|⟨f,h⟩|⟨f,h⟩:=b1o p.2.1 q.2.1<;>obtain⟨a,g⟩|⟨a,g⟩|⟨a,g⟩:=b1o p.1 q.1 <;>
  (rw[h,g,b6y _ _ (by decide) (by decide)];refine⟨_,rfl,?_⟩;simp only[klt,oB];(try rw[decide_eq_true f]);simp[show ¬ q.2.1<p.2.1∨True from .inr trivial];try omega)
section
variable {α:Type}
theorem a5R(P T:List α)(x z:α)(hi:i=P.length):a36 (P++x::T) i z=x:=by
 subst hi;rw[lD,a35 (a11 _),a67];rfl
theorem a8Q(P Q R:List α)(x y z:α)(h:j=P.length+1+Q.length):a36 (P++x::(Q++y::R)) j z=y:=by
 have:=a5R (P++x::Q) R y z (i:=j) (by simp;omega)
 simpa using this
theorem a9y(P Q R:List α)(x y:α)(hi:i=P.length)(h:j=P.length+1+Q.length):b41 (b41 (P++x::(Q++y::R)) i y) j x=P++y::(Q++x::R):=by
 subst hi h;rw[a72 _ _ (a11 _),a67];simp only[a95];rw[a72 _ _ (by omega)];rw[show P.length+1+Q.length-P.length=Q.length+1 by omega];simp only[b43];rw[a72 _ _ (a11 _),a67];rfl
end
theorem a6m{p M s:List Pk}(h:X.length=Y.length)(t:(p++(X++(M++(Y++s)))).length<1000000){a b n:Int}(w:a=p.length)(x:b=(p.length+X.length+M.length:Nat))(y:n=X.length):
  a0P (p++(X++(M++(Y++s))),a,b,n,())=some (p++(Y++(M++(X++s)))):=by
 simp only[lN]at t;unfold a0P;simp only
 have:=a0E (f:=a1i) (fun k=>(a,b,n,(k:Int),p++((Y.take k++X.drop k)++(M++((X.take k++Y.drop k)++s))),())) X.length (b:=(p++(Y++(M++(X++s))),())) (fun k j=>?_) ?_
 simp only[a57,a78,a05]at this;rw[show((0:Nat):Int)=0 from rfl]at this;rw[this];rfl;unfold a1i;simp only;have u:wrap .i64 (b+(k:Int))=b+k:=w64 (by omega);have w2:wrap .i64 (a+(k:Int))=a+k:=w64 (by omega);have v:wrap .i64 ((k:Int)+1)=((k+1:Nat):Int):=w64 (by omega);have g:k<Y.length:=by omega
 have q:X.drop k=X[k]::X.drop (k+1):=a52 j;have r:Y.drop k=Y[k]::Y.drop (k+1):=a52 g;have e:p++((Y.take k++X.drop k)++(M++((X.take k++Y.drop k)++s)))=(p++Y.take k)++X[k]::((X.drop (k+1)++(M++X.take k))++Y[k]::(Y.drop (k+1)++s)):=by
  rw[q,r];simp only[aA,a29,a05]
 have l:p++((Y.take (k+1)++X.drop (k+1))++(M++((X.take (k+1)++Y.drop (k+1))++s)))=(p++Y.take k)++Y[k]::((X.drop (k+1)++(M++X.take k))++X[k]::(Y.drop (k+1)++s)):=by
  rw[a04 j,a04 g];simp only[aA,a29,a05]
 have hi:a23 (a+k)=(p++Y.take k).length:=by simp;omega
 have i:a23 (b+k)=(p++Y.take k).length+1+(X.drop (k+1)++(M++X.take k)).length:=by simp;omega
 rw[e,l,u,w2,v,decide_eq_true (show(k:Int)<n by omega)];rw[a5R _ _ _ _ hi,a8Q _ _ _ _ _ _ i,a9y _ _ _ _ _ hi i];have c:((p++Y.take k)++X[k]::((X.drop (k+1)++(M++X.take k))++Y[k]::(Y.drop (k+1)++s))).length=p.length+(X.length+(M.length+(Y.length+s.length))):=by simp;omega
 simp only[a31,c];rw[decide_eq_true (show 0≤b+(k:Int)by omega),decide_eq_true (show 0≤a+(k:Int)by omega),decide_eq_true (show a+(k:Int)<((p.length+(X.length+(M.length+(Y.length+s.length))):Nat):Int)by omega),decide_eq_true (show b+(k:Int)<((p.length+(X.length+(M.length+(Y.length+s.length))):Nat):Int)by omega)];rfl;unfold a1i;simp only;rw[decide_eq_false (by omega)];have m:Y.take X.length=Y:=by rw[h];exact a20
 have o:Y.drop X.length=[]:=by rw[h];exact b01
 simp only[cF,m,o,a20,b01,a03]
theorem b3W{p s:List Pk}(u:X≠[])(v:Y≠[])(C:(p++(X++(Y++s))).length<1000000){a b:Int}(I:a=p.length)(L:m=(p.length+X.length:Nat))(K:b=(p.length+X.length+Y.length:Nat)):
  a1v (p++(X++(Y++s)),a,m,b,())=some (p++(Y++(X++s))):=by
 simp only[lN]at C;have P:=a02.2 u;have Q:=a02.2 v;unfold a1v;simp only;have E:wrap .i64 (m-a)=(X.length:Int):=by rw[w64 (by omega)];omega
 have w2:wrap .i64 (b-m)=(Y.length:Int):=by rw[w64 (by omega)];omega
 rw[E,w2];refine a1H (f:=a1I) (fun k x=>∃A c g B:List Pk,x=(m,(),(c.length:Int),(g.length:Int),p++(A++(c++(g++(B++s)))),())∧A.length+c.length=X.length∧g.length+B.length=Y.length∧A++(g++(c++B))=Y++X∧c≠[]∧g≠[]∧k=c.length+g.length)
  (fun w=>∃A c g B:List Pk,w=(m,(),(c.length:Int),p++(A++(c++(g++(B++s)))),())∧A.length+c.length=X.length∧g.length+B.length=Y.length∧A++(g++(c++B))=Y++X∧c.length=g.length)
  (X.length+Y.length) (m,(),(X.length:Int),(Y.length:Int),p++(X++(Y++s)),()) ⟨[],X,Y,[],rfl,by simp,by simp,by simp,u,v,rfl⟩ (fun w D z=>?_) (fun k x o=>?_)
 obtain⟨A,c,g,B,rfl,r,t,i,l⟩:=z;rw[D];simp only[oB];have j:wrap .i64 (m-(c.length:Int))=m-c.length:=w64 (by omega)
 have:=a6m (p:=p++A) (X:=c) (M:=[]) (Y:=g) (s:=B++s) l (by simp only[lN,a06];omega) (a:=m-c.length) (b:=m) (n:=c.length) (by simp only[lN];omega) (by simp only[lN,a06];omega) rfl
 rw[j];simp only[aA,a05]at this;rw[this];simp only[oB];have e:p++(A++(g++(c++(B++s))))=p++((A++(g++(c++B)))++s):=by simp only[aA]
 rw[e,i];simp only[aA];obtain⟨A,c,g,B,rfl,r,t,i,l,y,H⟩:=o;have N:=a02.2 l;have O:=a02.2 y;unfold a1I;simp only
 by_cases hij:c.length=g.length
 right
 have:((c.length:Int) != (g.length:Int))=false:=by simp[hij]
 rw[this];exact⟨_,rfl,A,c,g,B,rfl,r,t,i,hij⟩;left
 have:((c.length:Int) != (g.length:Int))=true:=by simp;omega
 rw[this];have j:wrap .i64 (m-(c.length:Int))=m-c.length:=w64 (by omega)
 by_cases hgt:c.length > g.length
 rw[decide_eq_true (show(c.length:Int) > (g.length:Int)by omega)];simp only[cT];have G:c=c.take g.length++c.drop g.length:=(a26 _ _).symm
 have:=a6m (p:=p++A) (X:=c.take g.length) (M:=c.drop g.length) (Y:=g) (s:=B++s) (by simp;omega) (by simp only[lN,a01,a00];omega) (a:=m-c.length) (b:=m) (n:=g.length) (by simp only[lN];omega) (by simp only[lN,a01,a00];omega) (by simp;omega)
 simp only[aA]at this;rw[←aA (c.take g.length),a26]at this;rw[j,this];simp only[oB];have q:wrap .i64 ((c.length:Int)-g.length)=((c.drop g.length).length:Int):=by rw[w64 (by omega),a00];omega
 rw[q];refine⟨_,(c.drop g.length).length+g.length,rfl,by simp only[a00];omega,A++g,c.drop g.length,c.take g.length,B,?_,?_,?_,?_,?_,?_,?_⟩;rw[show(c.take g.length).length=g.length by simp;omega];simp only[aA];simp only[lN,a00];omega;simp only[a01];omega;rw[←i];simp only[aA];rw[←aA (c.take g.length),a26];intro h;have:=congrArg a30 h;simp only[a01,a00,a06]at this;omega;intro h;have:=congrArg a30 h;simp only[a01,a00,a06]at this;omega;simp only[a01,a00];omega;rw[decide_eq_false (show ¬ (c.length:Int) > (g.length:Int)by omega)];simp only[cF];have F:wrap .i64 ((wrap .i64 (m+(g.length:Int)))-c.length)=m+g.length-c.length:=by rw[w64 (n:=m+g.length) (by omega),w64 (by omega)]
 have:=a6m (p:=p++A) (X:=c) (M:=g.take (g.length-c.length)) (Y:=g.drop (g.length-c.length)) (s:=B++s) (by simp;omega) (by simp only[lN,a01,a00];omega) (a:=m-c.length) (b:=m+g.length-c.length) (n:=c.length) (by simp only[lN];omega) (by simp only[lN,a01,a00];omega) rfl
 simp only[aA]at this;rw[←aA (g.take _) (g.drop _) (B++s),a26]at this;rw[j,F,this];simp only[oB];have q:wrap .i64 ((g.length:Int)-c.length)=((g.take (g.length-c.length)).length:Int):=by rw[w64 (by omega),a01];omega
 rw[q];refine⟨_,c.length+(g.take (g.length-c.length)).length,rfl,by simp only[a01];omega,A,g.drop (g.length-c.length),g.take (g.length-c.length),c++B,?_,?_,?_,?_,?_,?_,?_⟩;rw[show(g.drop (g.length-c.length)).length=c.length by simp;omega];simp only[aA];simp only[a00];omega;simp only[a01,lN];omega;rw[←i];rw[←aA (g.take _) (g.drop _),a26];intro h;have:=congrArg a30 h;simp only[a01,a00,a06]at this;omega;intro h;have:=congrArg a30 h;simp only[a01,a00,a06]at this;omega;simp only[a01,a00];omega
theorem a6L(p q:Pk):klt p q=true↔p.2.1<q.2.1∨(p.2.1=q.2.1∧p.1<q.1):=by simp[klt]
theorem a6M(p q:Pk):klt p q=false↔¬ (p.2.1<q.2.1∨(p.2.1=q.2.1∧p.1<q.1)):=by rw[←a6L,Bool.not_eq_true]
theorem a5e{x z:Pk}(h:klt y x=false)(g:klt z y=false):klt z x=false:=by
 rw[a6M]at *;omega
theorem b7i{x z:Pk}(g:klt x y=true)(h:klt z y=false):klt x z=true:=by
 rw[a6L]at *;rw[a6M]at h;omega
theorem b5C{x z:Pk}(h:klt y x=false)(g:klt y z=true):klt x z=true:=by
 rw[a6L]at *;rw[a6M]at h;omega
theorem a7S{x:Pk}(h:klt x y=true):klt y x=false:=by
 rw[a6M];rw[a6L]at h;omega
def Asc(l:List Pk):Prop:=l.Pairwise fun x y=>klt y x=false
inductive Stb:List Pk→List Pk→Prop where
 |refl (l):Stb l l
 |swap (p:List Pk) (x y:Pk) (s:List Pk) (h:klt y x=true):Stb (p++x::y::s) (p++y::x::s)
 |trans {a b c}:Stb a b→Stb b c→Stb a c
theorem Stb.perm{a b:List Pk}(h:Stb a b):b.Perm a:=by
 induction h with
 |refl=>exact .refl _
 |swap p x y s _=>exact(List.Perm.swap x y s).append_left p
 |trans _ _ h1 h2=>exact h2.trans h1
theorem Stb.ctx{a b:List Pk}(h:Stb a b)(p s:List Pk):Stb (p++(a++s)) (p++(b++s)):=by
 induction h with
 |refl=>exact .refl _
 |swap q x y t h=>
  have:=Stb.swap (p++q) x y (t++s) h
  simpa only[aA,a29]using this
 |trans _ _ h1 h2=>exact h1.trans h2
theorem Stb.past(x:Pk):∀(Y:List Pk),(∀y∈Y,klt y x=true)→Stb (x::Y) (Y++[x])
 | [],_=>.refl _
 |y::Y,h=>by
  have f:=Stb.swap [] x y Y (h y (by simp));have g:=(Stb.past x Y fun z a=>h z (by simp[a])).ctx [y] [];simp only[a03]at g;exact f.trans g
theorem Stb.blocks:∀(X Y:List Pk),(∀x∈X,∀y∈Y,klt y x=true)→Stb (X++Y) (Y++X)
 | [],Y,_=>by rw[a03];exact .refl _
 |x::X,Y,h=>by
  have g:=(Stb.blocks X Y fun z a=>h z (by simp[a])).ctx [x] [];have f:=(Stb.past x Y (h x (by simp))).ctx [] X;simp only[a03,a05,aA,a29]at g f;exact g.trans f
theorem a9z(S:Nat→Nat→σ)(E:Nat→β)(P:Nat→Bool)(lo hi:Nat)(mono:∀h k,lo≤k→k≤h→h<hi→P h=true→P k=true)(step:∀i j,lo≤i→i<j→j≤hi→f (S i j)=some (.inl (bif P ((i+j) / 2)then S ((i+j) / 2+1) j else S i ((i+j) / 2))))(e:∀i,lo≤i→i≤hi→f (S i i)=some (.inr (E i))):
  ∀(n i j:Nat),j=i+n→lo≤i→j≤hi→(∀k,lo≤k→k<i→P k=true)→(∀k,j≤k→k<hi→P k=false)→
  ∃c,lo≤c∧c≤hi∧y0h f (S i j)=some (E c)∧(∀k,lo≤k→k<c→P k=true)∧(∀k,c≤k→k<hi→P k=false):=by
 intro n
 induction n using b58 with
 |_ n ih=>
  intro i j q g a m o
  by_cases hn:n=0
  obtain rfl:i=j:=by omega
  exact⟨i,g,a,a0V (e i g a),m,o⟩
  ·have p:=step i j g (by omega) a;rw[a1t p];cases hP:P ((i+j) / 2)with
   |true=>
    exact ih (j-((i+j) / 2+1)) (by omega) _ _ (by omega) (by omega) a (fun k b l=>mono _ k b (by omega) (by omega) hP) o
   |false=>
    refine ih ((i+j) / 2-i) (by omega) _ _ (by omega) g (by omega) m fun k b l=>?_
    cases hk:P k with
    |false=>rfl
    |true=>
     have:=mono k ((i+j) / 2) (by omega) b l hk
     rw[hP]at this;cases this
theorem a7T(h:i+j<2147483648):wrap .i64 (E0j .u64 (wrap .u64 (wrap .i64 ((i:Int)+(j:Int)))) (1:Int))=(((i+j) / 2:Nat):Int):=by
 rw[w64 (n:=(i:Int)+j) (by omega)];have g:wrap .u64 ((i:Int)+(j:Int))=((i+j:Nat):Int):=by
  simp only[wrap,IntKind.bits,IntKind.signed]
  simp
  omega
 rw[g];have f:E0j .u64 ((i+j:Nat):Int) (1:Int)=(((i+j) / 2:Nat):Int):=by
  unfold E0j;show Int.fdiv _ 2=_;rw[b17 _ (by decide)];omega
 rw[f,w64 (by omega)]
theorem b5J(x:Pk):klt x x=false:=by rw[a6M];omega
theorem a5f(h:Asc Y)(g:i≤j)(f:j<Y.length):klt Y[j] (Y[i]'(by omega))=false:=by
 by_cases e:i=j
 subst e;exact b5J _;exact a73.1 h i j (by omega) f (by omega)
theorem a7b{q s:List Pk}{k t:Nat}{z:Pk}(h:k=q.length+t)(g:t<Y.length):a36 (q++(Y++s)) k z=Y[t]:=by
 subst h;rw[lD,a35 (by omega),a54 (by omega),show q.length+t-q.length=t by omega,lG g];rfl
theorem b1p(P Q R:List α)(x y:α)(hi:i=P.length)(h:j=P.length+1+Q.length):b41 (b41 (P++x::(Q++y::R)) j x) i y=P++y::(Q++x::R):=by
 rw[List.set_comm _ _ (by omega)];exact a9y P Q R x y hi h
theorem a7c(h:y∈Y.take n):∃t,∃h:t<Y.length,t<n∧Y[t]=y:=by
 obtain⟨t,g,e⟩:=b35.1 h;rw[a01]at g;rw[List.getElem_take]at e;exact⟨t,by omega,by omega,e⟩
theorem a7d(h:y∈Y.drop n):∃t,∃h:t<Y.length,n≤t∧Y[t]=y:=by
 obtain⟨t,g,e⟩:=b35.1 h;rw[a00]at g;rw[List.getElem_drop]at e;exact⟨n+t,by omega,by omega,e⟩
theorem b8N(T:Nat){p s:List Pk}{x:Pk}(P:Asc Y)(hl:(p++([x]++(Y++s))).length<1000000){a b:Int}(Q:a=p.length)(hm:m=(p.length+1:Nat))(V:b=(p.length+1+Y.length:Nat)):
  ∃Z,a0B (T+1) (p++([x]++(Y++s)),a,m,b,())=some (p++(Z++s))∧Asc Z∧Stb ([x]++Y) Z:=by
 simp only[lN,a08]at hl;have K:a36 (p++([x]++(Y++s))) p.length ((0:Int),(0:Int),(0:Int),false,false,([]:(List Int)),())=x:=a5R p (Y++s) x _ rfl;have l:∀t (B:t<Y.length),a36 (p++([x]++(Y++s))) (p.length+1+t) ((0:Int),(0:Int),(0:Int),false,false,([]:(List Int)),())=Y[t]:=fun t B=>by
  rw[←aA];exact a7b (q:=p++[x]) (by simp) B
 obtain⟨c,W,X,H,F,G⟩:=a9z (f:=a1m) (fun i j=>(a,(),(i:Int),(j:Int),p++([x]++(Y++s)),())) (fun c=>(a,(c:Int),p++([x]++(Y++s)),()))
  (fun k=>klt (a36 (p++([x]++(Y++s))) k ((0:Int),(0:Int),(0:Int),false,false,([]:(List Int)),())) x) (p.length+1) (p.length+1+Y.length)
  (fun h k r w E O=>by
   obtain⟨t,rfl⟩:∃t,h=p.length+1+t:=⟨h-(p.length+1),by omega⟩;obtain⟨u,rfl⟩:∃u,k=p.length+1+u:=⟨k-(p.length+1),by omega⟩;rw[l t (by omega)]at O;rw[l u (by omega)];exact b5C (a5f P (show u≤t by omega) (by omega)) O)
  (fun i j r w E=>by
   unfold a1m;simp only;rw[a7T (by omega),decide_eq_true (show(i:Int)<(j:Int)by omega)];obtain⟨v,hv,I⟩:=a8P (a36 (p++([x]++(Y++s))) ((i+j) / 2) ((0:Int),(0:Int),(0:Int),false,false,([]:(List Int)),())) x;have g:(p++([x]++(Y++s))).length=p.length+(1+(Y.length+s.length)):=by simp only[lN,a08]
   rw[g,decide_eq_true (show(0:Int)≤(((i+j) / 2:Nat):Int)by omega),decide_eq_true (show(((i+j) / 2:Nat):Int)<((p.length+(1+(Y.length+s.length)):Nat):Int)by omega),decide_eq_true (show 0≤a by omega),decide_eq_true (show a<((p.length+(1+(Y.length+s.length)):Nat):Int)by omega)];simp only[a07,cT,tN,Q,K,hv,oB,I];cases klt (a36 (p++([x]++(Y++s))) ((i+j) / 2) ((0:Int),(0:Int),(0:Int),false,false,([]:(List Int)),())) x with
   |true=>
    simp only[cT];rw[w64 (by omega)];rfl
   |false=>rfl)
  (fun i r w=>by
   unfold a1m;simp only;rw[decide_eq_false (by omega)];rfl) Y.length _ _ rfl (a11 _) (a11 _) (fun k r w=>by omega) (fun k r w=>by omega)
 obtain⟨n,rfl⟩:∃n,c=p.length+1+n:=⟨c-(p.length+1),by omega⟩;have hn:n≤Y.length:=by omega
 have N:∀y∈Y.take n,klt y x=true:=fun y A=>by
  obtain⟨t,B,o,rfl⟩:=a7c A
  have:=F (p.length+1+t) (by omega) (by omega)
  rwa [l t B]at this
 have U:∀y∈Y.drop n,klt y x=false:=fun y A=>by
  obtain⟨t,B,o,rfl⟩:=a7d A
  have:=G (p.length+1+t) (by omega) (by omega)
  rwa [l t B]at this
 have D:Y.take n++Y.drop n=Y:=a26 n Y;refine⟨Y.take n++x::Y.drop n,?_,?_,?_⟩;unfold a0B;simp only;rw[show wrap .i64 (m-a)=1 by rw[w64 (by omega)];omega];simp only[beq_self_eq_true,cT];rw[hm,V,H];simp only[oB]
 have:=a0E (f:=a1n) (fun t=>(((p.length+1+n:Nat):Int),((p.length+t:Nat):Int),p++(((Y.take n).take t++x::(Y.take n).drop t)++(Y.drop n++s)),())) n (b:=(p++((Y.take n++x::Y.drop n)++s),())) (fun t B=>?_) ?_
 simp only[a57,a78,a05,Nat.add_zero,a29]at this;rw[←aA (Y.take n),D,←Q]at this;rw[show[x]++(Y++s)=x::(Y++s)from rfl,this];rfl;unfold a1n;simp only;have o:t<(Y.take n).length:=by rw[a01];omega
 have M:wrap .i64 (((p.length+1+n:Nat):Int)-1)=((p.length+n:Nat):Int):=by rw[w64 (by omega)];omega
 have w2:wrap .i64 (((p.length+t:Nat):Int)+1)=((p.length+(t+1):Nat):Int):=by rw[w64 (by omega)];omega
 rw[M,w2,decide_eq_true (show((p.length+t:Nat):Int)<((p.length+n:Nat):Int)by omega)];have e:p++(((Y.take n).take t++x::(Y.take n).drop t)++(Y.drop n++s))=(p++(Y.take n).take t)++x::([]++(Y.take n)[t]::((Y.take n).drop (t+1)++(Y.drop n++s))):=by
  rw[a52 o];simp only[aA,a29,a05]
 have S:p++(((Y.take n).take (t+1)++x::(Y.take n).drop (t+1))++(Y.drop n++s))=(p++(Y.take n).take t)++(Y.take n)[t]::([]++x::((Y.take n).drop (t+1)++(Y.drop n++s))):=by
  rw[a04 o];simp only[aA,a29,a05]
 have C:(p++(Y.take n).take t).length=p.length+t:=by simp only[lN,a01];omega
 have hi:a23 ((p.length+t:Nat):Int)=(p++(Y.take n).take t).length:=by rw[C];rfl
 have R:a23 ((p.length+(t+1):Nat):Int)=(p++(Y.take n).take t).length+1+([]:List Pk).length:=by rw[C];rfl
 rw[e,S,a5R _ _ _ _ hi,a8Q _ _ _ _ _ _ R,a9y _ _ _ _ _ hi R];have g:((p++(Y.take n).take t)++x::([]++(Y.take n)[t]::((Y.take n).drop (t+1)++(Y.drop n++s)))).length=p.length+(1+(Y.length+s.length)):=by
  rw[←e];simp only[lN,lC,a01,a00];omega
 simp only[a31,g];rw[decide_eq_true (show(0:Int)≤((p.length+t:Nat):Int)by omega),decide_eq_true (show(0:Int)≤((p.length+(t+1):Nat):Int)by omega),decide_eq_true (show((p.length+t:Nat):Int)<((p.length+(1+(Y.length+s.length)):Nat):Int)by omega),decide_eq_true (show((p.length+(t+1):Nat):Int)<((p.length+(1+(Y.length+s.length)):Nat):Int)by omega)];rfl;unfold a1n;simp only;have M:wrap .i64 (((p.length+1+n:Nat):Int)-1)=((p.length+n:Nat):Int):=by rw[w64 (by omega)];omega
 rw[M,decide_eq_false (by omega)];have r:(Y.take n).take n=Y.take n:=by rw[b32,Nat.min_self]
 have w:(Y.take n).drop n=[]:=by rw[a48,a01];omega
 simp only[cF,r,w,aA,a29,a05];have h:=P;rw[←D]at h;obtain⟨r,w,E⟩:=a24.1 h;refine a24.2 ⟨r,a34.2 ⟨fun y A=>U y A,w⟩,fun y A z L=>?_⟩;rcases mC.1 L with rfl|L;exact a7S (N y A);exact E y A z L;have h:=(Stb.past x (Y.take n) N).ctx [] (Y.drop n);simp only[a05,aA,a29,D]at h;exact h
theorem b8O(Y:Nat){p s:List Pk}(S:Asc X)(h0:X.length≠1)(hl:(p++(X++([y]++s))).length<1000000){a b:Int}(ha:a=p.length)(U:m=(p.length+X.length:Nat))(hb:b=(p.length+X.length+1:Nat)):
  ∃Z,a0B (Y+1) (p++(X++([y]++s)),a,m,b,())=some (p++(Z++s))∧Asc Z∧Stb (X++[y]) Z:=by
 simp only[lN,a08]at hl;have O:a36 (p++(X++([y]++s))) (p.length+X.length) ((0:Int),(0:Int),(0:Int),false,false,([]:(List Int)),())=y:=by
  rw[←aA];exact a5R (p++X) s y _ (by simp)
 have o:∀t (A:t<X.length),a36 (p++(X++([y]++s))) (p.length+t) ((0:Int),(0:Int),(0:Int),false,false,([]:(List Int)),())=X[t]:=fun t A=>a7b rfl A;obtain⟨c,h4,h5,C,H,I⟩:=a9z (f:=a1o) (fun i j=>(m,(),(i:Int),(j:Int),p++(X++([y]++s)),())) (fun c=>(m,(c:Int),p++(X++([y]++s)),()))
  (fun k=>!klt y (a36 (p++(X++([y]++s))) k ((0:Int),(0:Int),(0:Int),false,false,([]:(List Int)),()))) p.length (p.length+X.length)
  (fun h k q w G R=>by
   obtain⟨t,rfl⟩:∃t,h=p.length+t:=⟨h-p.length,by omega⟩;obtain⟨u,rfl⟩:∃u,k=p.length+u:=⟨k-p.length,by omega⟩;rw[o t (by omega),a84]at R;rw[o u (by omega),a84];exact a5e (a5f S (show u≤t by omega) (by omega)) R)
  (fun i j q w G=>by
   unfold a1o;simp only;rw[a7T (by omega),decide_eq_true (show(i:Int)<(j:Int)by omega)];obtain⟨v,hv,N⟩:=a8P y (a36 (p++(X++([y]++s))) ((i+j) / 2) ((0:Int),(0:Int),(0:Int),false,false,([]:(List Int)),()));have g:(p++(X++([y]++s))).length=p.length+(X.length+(1+s.length)):=by simp only[lN,a08]
   rw[g,decide_eq_true (show(0:Int)≤(((i+j) / 2:Nat):Int)by omega),decide_eq_true (show(((i+j) / 2:Nat):Int)<((p.length+(X.length+(1+s.length)):Nat):Int)by omega),decide_eq_true (show 0≤m by omega),decide_eq_true (show m<((p.length+(X.length+(1+s.length)):Nat):Int)by omega)];simp only[a07,cT,tN,U,O,hv,oB,N];cases klt y (a36 (p++(X++([y]++s))) ((i+j) / 2) ((0:Int),(0:Int),(0:Int),false,false,([]:(List Int)),()))with
   |false=>
    simp only[a79,cT];rw[w64 (by omega)];rfl
   |true=>rfl)
  (fun i q w=>by
   unfold a1o;simp only;rw[decide_eq_false (by omega)];rfl) X.length _ _ rfl (a11 _) (a11 _) (fun k q w=>by omega) (fun k q w=>by omega)
 obtain⟨n,rfl⟩:∃n,c=p.length+n:=⟨c-p.length,by omega⟩;have hn:n≤X.length:=by omega
 have hA:∀x∈X.take n,klt y x=false:=fun x l=>by
  obtain⟨t,A,M,rfl⟩:=a7c l
  have:=H (p.length+t) (by omega) (by omega)
  rw[o t A]at this;simpa using this
 have Q:∀x∈X.drop n,klt y x=true:=fun x l=>by
  obtain⟨t,A,M,rfl⟩:=a7d l
  have:=I (p.length+t) (by omega) (by omega)
  rw[o t A]at this;simpa using this
 have F:X.take n++X.drop n=X:=a26 n X;have lD:(X.drop n).length=X.length-n:=a00;refine⟨X.take n++y::X.drop n,?_,?_,?_⟩;unfold a0B;simp only;have w0:wrap .i64 (m-a)=(X.length:Int):=by rw[w64 (by omega)];omega
 have K:((X.length:Int)==1)=false:=by simp;omega
 rw[w0,K,show wrap .i64 (b-m)=1 by rw[w64 (by omega)];omega];simp only[beq_self_eq_true,cT,cF];have W:a=((p.length:Nat):Int):=ha;rw[W];have P:(((p.length+X.length:Nat):Int))=m:=U.symm;rw[P]at C;rw[C];simp only[oB]
 have:=a0E (f:=a1p) (fun t=>(((p.length+n:Nat):Int),((p.length+X.length-t:Nat):Int),p++(X.take n++((X.drop n).take (X.length-n-t)++y::(X.drop n).drop (X.length-n-t)))++s,())) (X.length-n) (b:=(p++((X.take n++y::X.drop n)++s),())) (fun t A=>?_) ?_
 have q:(X.drop n).take (X.length-n-0)=X.drop n:=by rw[b27,←lD];exact a20
 have w:(X.drop n).drop (X.length-n-0)=[]:=by rw[b27,←lD];exact b01
 rw[q,w]at this;simp only[b27]at this;rw[←aA (X.take n),F,P]at this;simp only[aA]at this;rw[this];simp only[oB,aA];unfold a1p;simp only;obtain⟨r,hr⟩:∃r,X.length-n-t=r+1:=⟨X.length-n-t-1,by omega⟩;have L:X.length-n-(t+1)=r:=by omega
 have E:r<(X.drop n).length:=by omega
 have w2:wrap .i64 (((p.length+X.length-t:Nat):Int)-1)=((p.length+n+r:Nat):Int):=by rw[w64 (by omega)];omega
 have w3:((p.length+X.length-t:Nat):Int)=((p.length+n+r+1:Nat):Int):=by omega
 have w4:((p.length+X.length-(t+1):Nat):Int)=((p.length+n+r:Nat):Int):=by omega
 rw[hr,L,w2,w3,w4,decide_eq_true (show((p.length+n+r+1:Nat):Int) > ((p.length+n:Nat):Int)by omega)];have e:p++(X.take n++((X.drop n).take (r+1)++y::(X.drop n).drop (r+1)))++s=(p++(X.take n++(X.drop n).take r))++(X.drop n)[r]::([]++y::((X.drop n).drop (r+1)++s)):=by
  rw[a04 E];simp only[aA,a29,a05]
 have V:p++(X.take n++((X.drop n).take r++y::(X.drop n).drop r))++s=(p++(X.take n++(X.drop n).take r))++y::([]++(X.drop n)[r]::((X.drop n).drop (r+1)++s)):=by
  rw[a52 E];simp only[aA,a29,a05]
 have D:(p++(X.take n++(X.drop n).take r)).length=p.length+n+r:=by simp only[lN,a01];omega
 have hi:a23 ((p.length+n+r:Nat):Int)=(p++(X.take n++(X.drop n).take r)).length:=by rw[D];rfl
 have T:a23 ((p.length+n+r+1:Nat):Int)=(p++(X.take n++(X.drop n).take r)).length+1+([]:List Pk).length:=by rw[D];rfl
 rw[e,V,a5R _ _ _ _ hi,a8Q _ _ _ _ _ _ T,b1p _ _ _ _ _ hi T];have g:((p++(X.take n++(X.drop n).take r))++(X.drop n)[r]::([]++y::((X.drop n).drop (r+1)++s))).length=p.length+(X.length+(1+s.length)):=by
  rw[←e];simp only[lN,lC,a01,a00];omega
 simp only[a31,g];rw[decide_eq_true (show(0:Int)≤((p.length+n+r:Nat):Int)by omega),decide_eq_true (show(0:Int)≤((p.length+n+r+1:Nat):Int)by omega),decide_eq_true (show((p.length+n+r:Nat):Int)<((p.length+(X.length+(1+s.length)):Nat):Int)by omega),decide_eq_true (show((p.length+n+r+1:Nat):Int)<((p.length+(X.length+(1+s.length)):Nat):Int)by omega)];rfl;unfold a1p;simp only;rw[decide_eq_false (by omega)];simp only[a67,a57,a78,a05,cF,aA];have h:=S;rw[←F]at h;obtain⟨q,w,G⟩:=a24.1 h;refine a24.2 ⟨q,a34.2 ⟨fun x l=>a7S (Q x l),w⟩,fun x l z B=>?_⟩;rcases mC.1 B with rfl|B;exact hA x l;exact G x l z B;have h:=(Stb.blocks (X.drop n) [y] (fun x l z B=>by rw[a13]at B;rw[B];exact Q x l)).ctx (X.take n) [];simp only[a03]at h;rw[←aA,F]at h;exact h
theorem a0D{x:Option α}{f:α→Option β}{v:α}{r:Option β}(h:x=some v)(g:f v=r):x.bind f=r:=by rw[h];exact g
@[reducible] def zPk:Pk:=((0:Int),((0:Int),((0:Int),(false,(false,(([]:(List Int)),()))))))
theorem b6z{p s:List Pk}(H:Asc X)(I:Asc Y)(W:(p++(X++(Y++s))).length<1000000){h:Nat}(hh:h=(X.length+Y.length) / 2)(u:Unit)(E G F n o:Int)(hn:o=(p.length+h+(p.length+X.length):Nat)):
  ∃t e,t+e=h∧t≤X.length∧e≤Y.length∧
   y0h a0U (E,G,F,u,n,o,((p.length+(h-Y.length):Nat):Int),((p.length+min h X.length:Nat):Int),o-1,p++(X++(Y++s)),())=some (E,G,F,u,n,o,((p.length+t:Nat):Int),p++(X++(Y++s)),())∧
   (∀y∈Y.take e,∀x∈X.drop t,klt y x=true)∧(∀x∈X.take t,∀y∈Y.drop e,klt y x=false):=by
 simp only[lN]at W;have l:∀t (w:t<X.length),a36 (p++(X++(Y++s))) (p.length+t) zPk=X[t]:=fun t w=>a7b rfl w;have m:∀t (w:t<Y.length),a36 (p++(X++(Y++s))) (p.length+X.length+t) zPk=Y[t]:=fun t w=>by
  rw[←aA];exact a7b (q:=p++X) (by simp) w
 have b:∀t,h-Y.length≤t→t<min h X.length→t<X.length∧h-1-t<Y.length∧(p.length+h+(p.length+X.length)-1-(p.length+t))=p.length+X.length+(h-1-t):=fun t a B=>by omega
 obtain⟨c,U,V,N,K,L⟩:=a9z (f:=a0U) (fun i j=>(E,G,F,u,n,o,(i:Int),(j:Int),o-1,p++(X++(Y++s)),())) (fun c=>(E,G,F,u,n,o,(c:Int),p++(X++(Y++s)),()))
  (fun k=>!klt (a36 (p++(X++(Y++s))) (p.length+h+(p.length+X.length)-1-k) zPk) (a36 (p++(X++(Y++s))) k zPk)) (p.length+(h-Y.length)) (p.length+min h X.length)
  (fun g k a B T S=>by
   obtain⟨t,rfl⟩:∃t,g=p.length+t:=⟨g-p.length,by omega⟩;obtain⟨v,rfl⟩:∃u,k=p.length+u:=⟨k-p.length,by omega⟩;obtain⟨r,z,A⟩:=b t (by omega) (by omega);obtain⟨Z,r2,r3⟩:=b v (by omega) (by omega);rw[A,l t r,m _ z,a84]at S;rw[r3,l v Z,m _ r2,a84];exact a5e (a5e (a5f H (show v≤t by omega) r) S) (a5f I (show h-1-t≤h-1-v by omega) r2))
  (fun i j a B T=>by
   unfold a0U;simp only;obtain⟨t,w⟩:∃t,(i+j) / 2=p.length+t:=⟨(i+j) / 2-p.length,by omega⟩;obtain⟨r,z,A⟩:=b t (by omega) (by omega);rw[a7T (by omega),decide_eq_true (show(i:Int)<(j:Int)by omega),w,A];have wp:wrap .i64 (o-1-((p.length+t:Nat):Int))=((p.length+X.length+(h-1-t):Nat):Int):=by rw[w64 (by omega)];omega
   obtain⟨v,hv,P⟩:=a8P (a36 (p++(X++(Y++s))) (p.length+X.length+(h-1-t)) zPk) (a36 (p++(X++(Y++s))) (p.length+t) zPk);have D:(p++(X++(Y++s))).length=p.length+(X.length+(Y.length+s.length)):=by simp only[lN]
   rw[D,wp,decide_eq_true (show(0:Int)≤((p.length+t:Nat):Int)by omega),decide_eq_true (show((p.length+t:Nat):Int)<((p.length+(X.length+(Y.length+s.length)):Nat):Int)by omega),decide_eq_true (show(0:Int)≤((p.length+X.length+(h-1-t):Nat):Int)by omega),decide_eq_true (show((p.length+X.length+(h-1-t):Nat):Int)<((p.length+(X.length+(Y.length+s.length)):Nat):Int)by omega)];simp only[a07,cT,tN,hv,oB,P];cases klt (a36 (p++(X++(Y++s))) (p.length+X.length+(h-1-t)) zPk) (a36 (p++(X++(Y++s))) (p.length+t) zPk)with
   |false=>
    simp only[a79,cT];rw[w64 (by omega)];rfl
   |true=>rfl)
  (fun i a B=>by
   unfold a0U;simp only;rw[decide_eq_false (by omega)];rfl) (min h X.length-(h-Y.length)) _ _ (by omega) (a11 _) (a11 _) (fun k a B=>by omega) (fun k a B=>by omega)
 obtain⟨t,rfl⟩:∃t,c=p.length+t:=⟨c-p.length,by omega⟩;refine⟨t,h-t,by omega,by omega,by omega,N,fun y R x Q=>?_,fun x Q y R=>?_⟩;obtain⟨i,hi,M,rfl⟩:=a7c R;obtain⟨j,O,C,rfl⟩:=a7d Q;obtain⟨r,z,A⟩:=b t (by omega) (by omega);have a:=L (p.length+t) (by omega) (by omega);rw[A,l t r,m _ z]at a;have a:klt Y[h-1-t] X[t]=true:=by simpa using a
 exact b7i (b5C (a5f I (show i≤h-1-t by omega) z) a) (a5f H C O);obtain⟨i,hi,M,rfl⟩:=a7c Q;obtain⟨j,O,C,rfl⟩:=a7d R;obtain⟨r,z,A⟩:=b (t-1) (by omega) (by omega);have a:=K (p.length+(t-1)) (by omega) (by omega);rw[A,l _ r,m _ z]at a;have a:klt Y[h-1-(t-1)] X[t-1]=false:=by simpa using a
 exact a5e (a5e (a5f H (show i≤t-1 by omega) r) a) (a5f I (show h-1-(t-1)≤j by omega) O)
theorem len1{l:List α}(h:l.length=1):∃x,l=[x]:=by
 match l,h with
 | [x],_=>exact⟨x,rfl⟩
set_option maxHeartbeats 4000000 in
theorem b1q:∀(fu:Nat){p X Y s:List Pk},Asc X→Asc Y→X≠[]→Y≠[]→X.length+Y.length≤fu→(p++(X++(Y++s))).length<1000000→
  ∃Z,a0B fu (p++(X++(Y++s)),((p.length:Int),(((p.length+X.length:Nat):Int),(((p.length+X.length+Y.length:Nat):Int),()))))=some (p++(Z++s))∧Asc Z∧Stb (X++Y) Z
 |0,p,X,Y,s,_,_,h1,_,hf,_=>by
  have:=a02.2 h1
  omega
 |fu+1,p,X,Y,s,hX,hY,hX0,hY0,hf,hl=>by
  have lX:=a02.2 hX0
  have lY:=a02.2 hY0
  by_cases h1:X.length=1
  ·obtain⟨x,rfl⟩:=len1 h1
   exact b8N fu hY hl rfl rfl rfl
  by_cases h2:Y.length=1
  ·obtain⟨y,rfl⟩:=len1 h2
   exact b8O fu hX h1 hl rfl rfl rfl
  have hl':=hl
  simp only[lN]at hl'
  obtain⟨h,hh⟩:∃h,h=(X.length+Y.length) / 2:=⟨_,rfl⟩
  obtain⟨t,e,hte,ht,he,hit,hlt,hle⟩:=b6z hX hY hl hh () (p.length:Int) ((p.length+X.length:Nat):Int) ((p.length+X.length+Y.length:Nat):Int) ((p.length+h:Nat):Int) ((p.length+h+(p.length+X.length):Nat):Int) rfl
  have eX:X.take t++X.drop t=X:=a26 t X
  have eY:Y.take e++Y.drop e=Y:=a26 e Y
  have lX1:(X.take t).length=t:=by rw[a01];omega
  have lY1:(Y.take e).length=e:=by rw[a01];omega
  have lX2:(X.drop t).length=X.length-t:=a00
  have lY2:(Y.drop e).length=Y.length-e:=a00
  obtain⟨aX1,aX2,aX⟩:=a24.1 (show(X.take t++X.drop t).Pairwise _ by rw[eX];exact hX)
  obtain⟨aY1,aY2,aY⟩:=a24.1 (show(Y.take e++Y.drop e).Pairwise _ by rw[eY];exact hY)

  have m1:∃Z1,(t=0∨e=0∨a0B fu (p++(X.take t++(Y.take e++(X.drop t++(Y.drop e++s)))),((p.length:Int),(((p.length+t:Nat):Int),(((p.length+h:Nat):Int),()))))=some (p++(Z1++(X.drop t++(Y.drop e++s)))))∧((t=0∨e=0)→Z1=X.take t++Y.take e)∧Asc Z1∧Stb (X.take t++Y.take e) Z1:=by
   by_cases h0:t=0∨e=0
   ·refine⟨X.take t++Y.take e,by omega,fun _=>rfl,?_,.refl _⟩
    rcases h0 with rfl|rfl
    ·rw[a57,a05];exact aY1
    ·rw[a57,a03];exact aX1
   ·obtain⟨Z,z1,z2,z3⟩:=b1q fu (p:=p) (X:=X.take t) (Y:=Y.take e) (s:=X.drop t++(Y.drop e++s)) aX1 aY1 (a02.1 (by omega)) (a02.1 (by omega)) (by omega) (by simp only[lN];omega)
    rw[lX1,lY1,Nat.add_assoc,hte]at z1
    exact⟨Z,.inr (.inr z1),fun h=>absurd h h0,z2,z3⟩
  obtain⟨Z1,z1,z1e,z1a,z1s⟩:=m1
  have lZ1:Z1.length=h:=by rw[z1s.perm.length_eq,lN];omega
  have m2:∃Z2,(t=X.length∨e=Y.length∨a0B fu (p++(Z1++(X.drop t++(Y.drop e++s))),(((p.length+h:Nat):Int),(((p.length+X.length+e:Nat):Int),(((p.length+X.length+Y.length:Nat):Int),()))))=some (p++(Z1++(Z2++s))))∧((t=X.length∨e=Y.length)→Z2=X.drop t++Y.drop e)∧Asc Z2∧Stb (X.drop t++Y.drop e) Z2:=by
   by_cases h0:t=X.length∨e=Y.length
   ·refine⟨X.drop t++Y.drop e,by omega,fun _=>rfl,?_,.refl _⟩
    rcases h0 with h0|h0
    ·rw[a48.2 (by omega)];exact aY2
    ·rw[a48.2 (show Y.length≤e by omega),a03];exact aX2
   ·obtain⟨Z,q1,q2,q3⟩:=b1q fu (p:=p++Z1) (X:=X.drop t) (Y:=Y.drop e) (s:=s) aX2 aY2 (a02.1 (by omega)) (a02.1 (by omega)) (by omega) (by simp only[lN];omega)
    rw[lN,lZ1,lX2,lY2,show p.length+h+(X.length-t)=p.length+X.length+e by omega,show p.length+X.length+e+(Y.length-e)=p.length+X.length+Y.length by omega]at q1
    simp only[aA]at q1
    exact⟨Z,.inr (.inr q1),fun h=>absurd h h0,q2,q3⟩
  obtain⟨Z2,z2,z2e,z2a,z2s⟩:=m2
  refine⟨Z1++Z2,?_,?_,?_⟩
  ·unfold a0B
   simp only
   have w0:wrap .i64 (((p.length+X.length:Nat):Int)-(p.length:Int))=(X.length:Int):=by rw[w64 (by omega)];omega
   have w1:wrap .i64 (((p.length+X.length+Y.length:Nat):Int)-((p.length+X.length:Nat):Int))=(Y.length:Int):=by rw[w64 (by omega)];omega
   have n0:((X.length:Int)==1)=false:=by simp;omega
   have n1:((Y.length:Int)==1)=false:=by simp;omega
   have wm:wrap .i64 (E0j .u64 (wrap .u64 (wrap .i64 ((p.length:Int)+((p.length+X.length+Y.length:Nat):Int)))) (1:Int))=((p.length+h:Nat):Int):=by
    rw[a7T (by omega)];omega
   have wn:wrap .i64 (((p.length+h:Nat):Int)+((p.length+X.length:Nat):Int))=((p.length+h+(p.length+X.length):Nat):Int):=by rw[w64 (by omega)];omega
   rw[w0,w1,n0,n1,wm,wn]
   simp only[cF]
   refine a0D (v:=((p.length:Int),(((p.length+X.length:Nat):Int),(((p.length+X.length+Y.length:Nat):Int),((),(((p.length+h:Nat):Int),(((p.length+h+(p.length+X.length):Nat):Int),(((p.length+(h-Y.length):Nat):Int),(((p.length+min h X.length:Nat):Int),(p++(X++(Y++s)),())))))))))) ?_ ?_
   ·by_cases hA:h<X.length
    ·rw[decide_eq_true (show((p.length+X.length:Nat):Int) > ((p.length+h:Nat):Int)by omega)]
     have wb:wrap .i64 (((p.length+h+(p.length+X.length):Nat):Int)-((p.length+X.length+Y.length:Nat):Int))=((p.length+(h-Y.length):Nat):Int):=by rw[w64 (by omega)];omega
     rw[wb,a60 (by omega)]
     rfl
    ·rw[decide_eq_false (show ¬ ((p.length+X.length:Nat):Int) > ((p.length+h:Nat):Int)by omega),a62 (by omega),show h-Y.length=0 by omega]
     rfl
   simp only
   have wn1:wrap .i64 (((p.length+h+(p.length+X.length):Nat):Int)-1)=((p.length+h+(p.length+X.length):Nat):Int)-1:=w64 (by omega)
   rw[wn1]
   refine a0D hit ?_
   simp only
   have we:wrap .i64 (((p.length+h+(p.length+X.length):Nat):Int)-((p.length+t:Nat):Int))=((p.length+X.length+e:Nat):Int):=by rw[w64 (by omega)];omega
   rw[we]
   refine a0D (v:=((p.length:Int),(((p.length+X.length+Y.length:Nat):Int),((),(((p.length+h:Nat):Int),(((p.length+t:Nat):Int),(((p.length+X.length+e:Nat):Int),(p++(X.take t++(Y.take e++(X.drop t++(Y.drop e++s)))),())))))))) ?_ ?_
   ·by_cases hr:t<X.length∧0<e
    ·rw[decide_eq_true (show((p.length+t:Nat):Int)<((p.length+X.length:Nat):Int)by omega),decide_eq_true (show((p.length+X.length:Nat):Int)<((p.length+X.length+e:Nat):Int)by omega)]
     simp only[cT,oB]
     have hrot:=b3W (p:=p++X.take t) (X:=X.drop t) (Y:=Y.take e) (s:=Y.drop e++s) (a02.1 (by omega)) (a02.1 (by omega)) (by simp only[lN];omega) (a:=((p.length+t:Nat):Int)) (m:=((p.length+X.length:Nat):Int)) (b:=((p.length+X.length+e:Nat):Int)) (by simp only[lN];omega) (by simp only[lN];omega) (by simp only[lN];omega)
     have e1:(p++X.take t)++(X.drop t++(Y.take e++(Y.drop e++s)))=p++(X++(Y++s)):=by
      rw[←aA (Y.take e),eY,aA,←aA (X.take t),eX]
     rw[e1]at hrot
     rw[hrot]
     simp only[oB,aA]
    ·have e1:p++(X.take t++(Y.take e++(X.drop t++(Y.drop e++s))))=p++(X++(Y++s)):=by
      by_cases h0:e=0
      ·have q1:Y.take e=[]:=by rw[h0];rfl
       have q2:Y.drop e=Y:=by rw[h0];rfl
       rw[q1,q2,a05,←aA (X.take t),eX]
      ·have q1:X.drop t=[]:=a48.2 (by omega)
       have q2:X.take t=X:=a28 (by omega)
       rw[q1,q2,a05,←aA (Y.take e),eY]
     rw[e1]
     by_cases h0:t<X.length
     ·rw[decide_eq_true (show((p.length+t:Nat):Int)<((p.length+X.length:Nat):Int)by omega),decide_eq_false (show ¬ ((p.length+X.length:Nat):Int)<((p.length+X.length+e:Nat):Int)by omega)]
      rfl
     ·rw[decide_eq_false (show ¬ ((p.length+t:Nat):Int)<((p.length+X.length:Nat):Int)by omega)]
      rfl
   simp only
   refine a0D (v:=(((p.length+X.length+Y.length:Nat):Int),((),(((p.length+h:Nat):Int),(((p.length+X.length+e:Nat):Int),(p++(Z1++(X.drop t++(Y.drop e++s))),())))))) ?_ ?_
   ·by_cases h0:t=0∨e=0
    ·rw[z1e h0]
     by_cases h3:t=0
     ·rw[decide_eq_false (show ¬ (p.length:Int)<((p.length+t:Nat):Int)by omega)]
      simp only[cF,oB,aA]
     ·rw[decide_eq_true (show(p.length:Int)<((p.length+t:Nat):Int)by omega),decide_eq_false (show ¬ ((p.length+t:Nat):Int)<((p.length+h:Nat):Int)by omega)]
      simp only[cT,cF,oB,aA]
    ·rw[decide_eq_true (show(p.length:Int)<((p.length+t:Nat):Int)by omega),decide_eq_true (show((p.length+t:Nat):Int)<((p.length+h:Nat):Int)by omega)]
     simp only[cT,oB]
     rw[(z1.resolve_left (by omega)).resolve_left (by omega)]
     rfl
   simp only
   by_cases h0:t=X.length∨e=Y.length
   ·rw[z2e h0]
    by_cases h3:t=X.length
    ·rw[decide_eq_false (show ¬ ((p.length+h:Nat):Int)<((p.length+X.length+e:Nat):Int)by omega)]
     simp only[cF,oB,aA]
    ·rw[decide_eq_true (show((p.length+h:Nat):Int)<((p.length+X.length+e:Nat):Int)by omega),decide_eq_false (show ¬ ((p.length+X.length+e:Nat):Int)<((p.length+X.length+Y.length:Nat):Int)by omega)]
     simp only[cT,cF,oB,aA]
   ·rw[decide_eq_true (show((p.length+h:Nat):Int)<((p.length+X.length+e:Nat):Int)by omega),decide_eq_true (show((p.length+X.length+e:Nat):Int)<((p.length+X.length+Y.length:Nat):Int)by omega)]
    simp only[cT,oB]
    rw[(z2.resolve_left (by omega)).resolve_left (by omega)]
    simp only[oB,aA]
  ·refine a24.2 ⟨z1a,z2a,fun u hu v hv=>?_⟩
   have hu:=(z1s.perm.mem_iff).1 hu
   have hv:=(z2s.perm.mem_iff).1 hv
   rcases mA.1 hu with hu|hu<;>rcases mA.1 hv with hv|hv
   ·exact aX u hu v hv
   ·exact hle u hu v hv
   ·exact a7S (hlt u hu v hv)
   ·exact aY u hu v hv
  ·have b1:=(Stb.blocks (X.drop t) (Y.take e) (fun x hx y hy=>hlt y hy x hx)).ctx (X.take t) (Y.drop e)
   simp only[aA]at b1
   rw[eY,←aA (X.take t),eX]at b1
   have b2:=z1s.ctx [] (X.drop t++Y.drop e)
   have b3:=z2s.ctx Z1 []
   simp only[a05,a03,aA]at b2 b3
   exact(b1.trans b2).trans b3
theorem b2I{l:List α}(h:l≠[]):∃a z,l=a++[z]:=⟨l.dropLast,l.getLast h,(List.dropLast_concat_getLast h).symm⟩
theorem b6A{p r:List Pk}{x:Pk}(t:Asc Z)(m:(p++(Z++(x::r))).length<1000000)(b i:Int):
  ∃A B,Z=A++B∧y0h a1a ((p.length:Int),b,(),i,((p.length+Z.length:Nat):Int),p++(Z++(x::r)),())=some ((p.length:Int),b,(),i,p++((A++x::B)++r),())∧Asc (A++x::B)∧Stb (Z++[x]) (A++x::B):=by
 simp only[lN,lC]at m;refine a1H (f:=a1a) (fun k G=>∃A B:List Pk,Z=A++B∧k=A.length∧(∀z∈B,klt x z=true)∧G=((p.length:Int),b,(),i,((p.length+A.length:Nat):Int),p++(A++(x::(B++r))),()))
  (fun w=>∃A B:List Pk,Z=A++B∧(∀z∈B,klt x z=true)∧(∀z∈A,klt x z=false)∧w=((p.length:Int),b,(),i,p++(A++(x::(B++r))),()))
  Z.length ((p.length:Int),b,(),i,((p.length+Z.length:Nat):Int),p++(Z++(x::r)),()) ⟨Z,[],by simp,rfl,by simp,rfl⟩ (fun w K I=>?_) (fun k G n=>?_)
 obtain⟨A,B,l,c,H,rfl⟩:=I;subst l;refine⟨A,B,rfl,?_,?_,?_⟩;rw[K];simp only[aA,a29];obtain⟨s,E,F⟩:=a24.1 t;refine a24.2 ⟨s,a34.2 ⟨fun z q=>a7S (c z q),E⟩,fun u a v hv=>?_⟩;rcases mC.1 hv with rfl|hv;exact H u a;exact F u a v hv;have h:=(Stb.blocks B [x] (fun z q y D=>by rw[a13]at D;rw[D];exact c z q)).ctx A [];simp only[a03,aA,a49]at h⊢;exact h
 ·obtain⟨A,B,l,rfl,c,rfl⟩:=n;subst l;simp only[lN]at m;unfold a1a;simp only
  by_cases hA:A=[]
  right;subst hA;rw[decide_eq_false (by simp)];exact⟨_,rfl,[],B,rfl,c,by simp,rfl⟩
  ·obtain⟨g,z,rfl⟩:=b2I hA;simp only[lN,a08]at m;have L:(g++[z]).length=g.length+1:=by simp
   rw[L];rw[decide_eq_true (show((p.length+(g.length+1):Nat):Int) > (p.length:Int)by omega)];have N:wrap .i64 (((p.length+(g.length+1):Nat):Int)-1)=((p.length+g.length:Nat):Int):=by rw[w64 (by omega)];omega
   have e:p++((g++[z])++(x::(B++r)))=(p++g)++z::([]++x::(B++r)):=by simp only[aA,a29,a05]
   have hi:a23 ((p.length+g.length:Nat):Int)=(p++g).length:=by rw[lN];rfl
   have C:a23 ((p.length+(g.length+1):Nat):Int)=(p++g).length+1+([]:List Pk).length:=by simp only[lN,a06,tN];omega
   have j:((p++g)++z::([]++x::(B++r))).length=p.length+g.length+(2+B.length+r.length):=by simp only[lN,lC,a06];omega
   rw[N,e,a5R _ _ _ _ hi,a8Q _ _ _ _ _ _ C,b1p _ _ _ _ _ hi C];simp only[a31,j];rw[decide_eq_true (show(0:Int)≤((p.length+(g.length+1):Nat):Int)by omega),decide_eq_true (show((p.length+(g.length+1):Nat):Int)<((p.length+g.length+(2+B.length+r.length):Nat):Int)by omega),decide_eq_true (show(0:Int)≤((p.length+g.length:Nat):Int)by omega),decide_eq_true (show((p.length+g.length:Nat):Int)<((p.length+g.length+(2+B.length+r.length):Nat):Int)by omega)];obtain⟨v,hv,o⟩:=a8P x z;simp only[a07,cT,hv,oB,o];cases hk:klt x z with
   |true=>
    left;refine⟨_,g.length,rfl,by omega,g,z::B,by simp,rfl,fun u a=>?_,?_⟩;rcases mC.1 a with rfl|a;exact hk;exact c u a;simp only[aA,a29,a05]
   |false=>
    right;refine⟨_,rfl,g++[z],B,rfl,c,fun u a=>?_,?_⟩;rcases mA.1 a with a|a;obtain⟨s,E,F⟩:=a24.1 t;obtain⟨-,-,M⟩:=a24.1 s;exact a5e (M u a z (by simp)) hk;rw[a13]at a;rw[a];exact hk;simp only[aA,a29,a05]
theorem b6B{p s:List Pk}(l:(p++(X++s)).length<1000000):∃Z,a0M (p++(X++s),(p.length:Int),((p.length+X.length:Nat):Int),())=some (p++(Z++s))∧Asc Z∧Stb X Z:=by
 simp only[lN]at l;unfold a0M;simp only;cases X with
 |nil=>
  refine⟨[],?_,.nil,.refl _⟩;rw[a0V (b:=(p++([]++s),())) ?_];rfl;unfold a1b;simp only;rw[w64 (by omega),decide_eq_false (by simp only[a06];omega)];rfl
 |cons x X=>
  simp only[lC]at l;have v:wrap .i64 ((p.length:Int)+1)=((p.length+[x].length:Nat):Int):=by rw[w64 (by omega)];rfl
  rw[v];refine a1H (f:=a1b) (fun k o=>∃Z Y:List Pk,k=Y.length∧Z.length+Y.length=X.length+1∧Asc Z∧Stb (x::X) (Z++Y)∧o=((p.length:Int),((p.length+(x::X).length:Nat):Int),(),((p.length+Z.length:Nat):Int),p++(Z++(Y++s)),()))
   (fun w=>∃Z:List Pk,Asc Z∧Stb (x::X) Z∧w=(p++(Z++s),())) X.length ((p.length:Int),((p.length+(x::X).length:Nat):Int),(),((p.length+[x].length:Nat):Int),p++(x::X++s),()) ⟨[x],X,rfl,by simp;omega,a51 ..,.refl _,rfl⟩ (fun w u q=>?_) (fun k o j=>?_)
  obtain⟨Z,g,a,rfl⟩:=q;exact⟨Z,by rw[u];rfl,g,a⟩
  ·obtain⟨Z,Y,rfl,g,a,c,rfl⟩:=j;unfold a1b;simp only;cases Y with
   |nil=>
    right;simp only[a06]at g;rw[decide_eq_false (by simp only[lC];omega)];rw[a03]at c;exact⟨_,rfl,Z,a,c,rfl⟩
   |cons y Y=>
    left;simp only[lC]at g;rw[decide_eq_true (show((p.length+Z.length:Nat):Int)<((p.length+(x::X).length:Nat):Int)by simp only[lC];omega)];obtain⟨A,B,e,i,t,m⟩:=b6A (p:=p) (Z:=Z) (r:=Y++s) (x:=y) a (by simp only[lN,lC];omega) ((p.length+(x::X).length:Nat):Int) ((p.length+Z.length:Nat):Int);have n:(A++y::B).length=Z.length+1:=by rw[m.perm.length_eq,lN];rfl
    rw[a29,i];simp only[cT,oB];have w2:wrap .i64 (((p.length+Z.length:Nat):Int)+1)=((p.length+(A++y::B).length:Nat):Int):=by rw[w64 (by omega),n];omega
    rw[w2];refine⟨_,Y.length,rfl,by simp,A++y::B,Y,rfl,by rw[n];omega,t,c.trans ?_,rfl⟩;have h:=m.ctx [] Y;simp only[a05,aA,a49]at h⊢;exact h
theorem b1r{l p s:List Pk}{a b:Int}(e:l=p++(X++s))(f:l.length<1000000)(h:a=p.length)(g:b=(p.length+X.length:Nat)):∃Z,a0M (l,a,b,())=some (p++(Z++s))∧Asc Z∧Stb X Z:=by
 subst e h g;exact b6B f
theorem b3X{l:List Pk}(h:l.length<40):∃Z,a1w (l,(l.length:Int),())=some Z∧Asc Z∧Stb l Z:=by
 unfold a1w;simp only
 by_cases h20:l.length<20
 obtain⟨Z,f,E,F⟩:=b1r (l:=l) (p:=[]) (X:=l) (s:=[]) (a:=0) (b:=(l.length:Int)) (by simp) (by omega) rfl (by simp);refine⟨Z,?_,E,F⟩;refine a0D (v:=((l.length:Int),(),(20:Int),(0:Int),l,())) ?_ ?_
 refine a0V ?_
 unfold a0Z;simp only;rw[decide_eq_false (by omega)];rfl;simp only;refine a0D f ?_
 simp only[a05,a03];refine a0D (v:=(Z,())) ?_ rfl;refine a0V ?_
 unfold a0Q;simp only;rw[decide_eq_false (by omega)];rfl;have q:l.take 20++l.drop 20=l:=a26 20 l;have lA:(l.take 20).length=20:=by rw[a01];omega
 have z:(l.drop 20).length=l.length-20:=a00;obtain⟨Z1,c,a1,r⟩:=b1r (l:=l) (p:=[]) (X:=l.take 20) (s:=l.drop 20) (a:=0) (b:=20) (by rw[a05,q]) (by omega) rfl (by simp only[a06,lA];rfl);have A:Z1.length=20:=by rw[r.perm.length_eq,lA]
 simp only[a05]at c;obtain⟨Z2,g,u,t⟩:=b1r (l:=Z1++l.drop 20) (p:=Z1) (X:=l.drop 20) (s:=[]) (a:=20) (b:=(l.length:Int)) (by rw[a03]) (by rw[lN];omega) (by omega) (by omega);have B:Z2.length=l.length-20:=by rw[t.perm.length_eq,z]
 rw[a03]at g;have j:Stb l (Z1++Z2):=by
  have b1:=r.ctx [] (l.drop 20);have b2:=t.ctx Z1 [];simp only[a05,a03]at b1 b2;rw[q]at b1;exact b1.trans b2
 have m:wrap .i64 ((20:Int)+20)=40:=by decide
 have n:wrap .i64 ((2:Int)*20)=40:=by decide
 have o:wrap .i64 ((20:Int)*2)=40:=by decide
 have D:wrap .i64 ((0:Int)+20)=20:=by decide
 have first:y0h a0Z ((l.length:Int),(),(20:Int),(0:Int),(20:Int),l,())=some ((l.length:Int),(),(20:Int),(20:Int),Z1++l.drop 20,()):=by
  rw[a1t (s':=((l.length:Int),(),(20:Int),(20:Int),(40:Int),Z1++l.drop 20,())) ?_];refine a0V ?_
  unfold a0Z;simp only;rw[decide_eq_false (by omega)];rfl;unfold a0Z;simp only;rw[decide_eq_true (by omega),c,m];rfl
 by_cases he:l.length=20
 have i:Z2=[]:=a37.1 (by omega);subst i;rw[a03]at j g;refine⟨Z1,?_,a1,j⟩;refine a0D first ?_
 simp only;refine a0D g ?_
 refine a0D (v:=(Z1,())) ?_ rfl;refine a0V ?_
 unfold a0Q;simp only;rw[decide_eq_false (by omega)];rfl;obtain⟨Z,f,w,C⟩:=b1q 64 (p:=[]) (X:=Z1) (Y:=Z2) (s:=[]) a1 u (a02.1 (by omega)) (a02.1 (by omega)) (by omega) (by simp only[lN,a06];omega);simp only[a05,a03,a06,a68]at f;refine⟨Z,?_,w,j.trans C⟩;refine a0D first ?_
 simp only;refine a0D g ?_
 have e:y0h a0Q ((l.length:Int),(),(20:Int),Z1++Z2,())=some (Z,()):=by
  rw[a1t (s':=((l.length:Int),(),(40:Int),Z,())) ?_];refine a0V ?_
  unfold a0Q;simp only;rw[decide_eq_false (by omega)];rfl;unfold a0Q;simp only;rw[decide_eq_true (show(20:Int)<(l.length:Int)by omega),n];simp only[cT];refine a0D (v:=((l.length:Int),(),(20:Int),(0:Int),Z1++Z2,())) ?_ ?_
  refine a0V ?_
  unfold a2l;simp only;rw[decide_eq_false (by omega)];rfl;simp only;rw[D,decide_eq_true (show(20:Int)<(l.length:Int)by omega),o];simp only[cT];have x:((Z1.length:Nat):Int)=20:=by omega
  have y:((Z1.length+Z2.length:Nat):Int)=(l.length:Int):=by omega
  rw[x,y]at f;refine a0D f rfl
 refine a0D e rfl
theorem b5K{l:List Pk}(h:l.length<40):∃Z,a0S (l,())=some Z∧Asc Z∧Stb l Z:=by
 obtain⟨Z,g,f,a⟩:=b3X h;exact⟨Z,by unfold a0S;exact a0D g rfl,f,a⟩
def a2v:Nat→Nat→List Int
 |_,0=>[]
 |n,k+1=>((n%256:Nat):Int)::a2v (n / 256) k
def a1h(n k:Nat):List Int:=(a2v n k).reverse
theorem a4P:∀(k n:Nat),(a2v n k).length=k
 |0,_=>rfl
 |k+1,n=>by rw[a2v,lC,a4P k]
theorem a8g:∀(k n:Nat),∀b∈a2v n k,0≤b∧b<256
 |0,_,b,h=>by cases h
 |k+1,n,b,h=>by
  rcases mC.1 h with rfl|h;omega;exact a8g k _ b h
theorem a8h:∀(k n:Nat),a2v n (k+1)=a2v n k++[((n / 256^k%256:Nat):Int)]
 |0,n=>by simp[a2v]
 |k+1,n=>by
  rw[a2v,a8h k,a2v,a29,a99,a81,b50 256]
theorem a1d(n k:Nat):(a1h n k).length=k:=by rw[a1h,List.length_reverse,a4P]
theorem a5g(n k:Nat):∀b∈a1h n k,0≤b∧b<256:=fun b h=>a8g k n b (List.mem_reverse.1 h)
theorem a3v(h:n<18446744073709551616):wrap .u64 (n:Int)=n:=by
 simp only[wrap,IntKind.bits,IntKind.signed]
 simp
 omega
theorem a5Y(h:n<256):wrap .u8 (n:Int)=n:=by
 simp only[wrap,IntKind.bits,IntKind.signed]
 simp
 omega
theorem b4U{k:Nat}(g:n<18446744073709551616)(o:k≤8):a4Z ((n:Int),(k:Int))=some (a2v n k):=by
 unfold a4Z;have e:a2C (k:Int)=some (k:Int):=by
  unfold a2C y0e y0d;have a:¬ (8:Int)<(k:Int):=by omega
  have c:¬ (k:Int)<0:=by omega
  congr 1;simp[a,c]<;>omega
 simp only[e,oB]
 have:=a0E (f:=a3P) (fun i=>(((n / 256^i:Nat):Int),(k:Int),(i:Int),a2v n i,())) k (b:=(a2v n k,())) (fun i hi=>?_) ?_
 rw[Nat.pow_zero,Nat.div_one]at this;refine a0D this rfl;unfold a3P;simp only;have m:n / 256^i<18446744073709551616:=b44 (b59 _ _) g;have j:Int.tdiv ((n / 256^i:Nat):Int) 256=((n / 256^(i+1):Nat):Int):=by
  rw[a81,←a99];exact Int.tdiv_eq_ediv_of_nonneg (b09 _)
 have l:a42 ((n / 256^i:Nat):Int) 256=((n / 256^i%256:Nat):Int):=by
  exact Int.tmod_eq_emod_of_nonneg (b09 _)
 have h:n / 256^(i+1)<18446744073709551616:=b44 (b59 _ _) g;rw[j,l,a3v h,a5Y (Nat.mod_lt _ (by decide)),a4P,a0C (by omega),decide_eq_true (show(i:Int)<(k:Int)by omega),a8h,w64 (by omega)];rfl;unfold a3P;simp only;rw[decide_eq_false (by omega)];rfl
theorem a6n{k:Nat}(g:n<18446744073709551616)(h:k≤8):a1V ((n:Int),(k:Int))=some (a1h n k):=by
 unfold a1V;simp only[b4U g h,oB];unfold a2f;rw[decide_eq_true (by rw[a4P];omega)];rfl
def a2a(p:Pk):Int:=bits .u8 .or (bif p.2.2.2.1 then 1 else 0) (bif p.2.2.2.2.1 then 2 else 0)
def a0N(p:Pk):List Int:=[wrap .u8 p.1,a2a p]++(a1h p.2.1.toNat 8++(a1h p.2.2.1.toNat 8++p.2.2.2.2.2.1))
theorem a4v(p:Pk):(a0N p).length=18+p.2.2.2.2.2.1.length:=by
 simp only[a0N,lN,a1d,lC,a06];omega
theorem b3Y{p:Pk}{s:Int}(h:PkOk s p)(y:0≤s)(z:s<4):a5h p=some (a0N p,0):=by
 obtain⟨e,g,f,b,a,x,u⟩:=p;obtain⟨c,l,m,o,q,r,t⟩:=h;simp only at c l m o q r t;subst c;have v:wrap .u64 g=((g.toNat:Nat):Int):=by
  have:=a3v (n:=g.toNat) (by omega)
  rwa [show((g.toNat:Nat):Int)=g by omega]at this⊢
 have w:wrap .u64 f=((f.toNat:Nat):Int):=by
  have:=a3v (n:=f.toNat) (by omega)
  rwa [show((f.toNat:Nat):Int)=f by omega]at this⊢
 have b1:=a6n (n:=g.toNat) (k:=8) (by omega) (by omega);have b2:=a6n (n:=f.toNat) (k:=8) (by omega) (by omega);have i:a1P (b,1)=some (bif b then 1 else 0):=by cases b<;>rfl
 have j:a1P (a,2)=some (bif a then 2 else 0):=by cases a<;>rfl
 unfold a5h;simp only;rw[decide_eq_false (show ¬ e<0 by omega),decide_eq_false (show ¬ e≥4 by omega),decide_eq_false (show ¬ g<0 by omega),decide_eq_false (show ¬ g > 1125899906842624 by omega),decide_eq_false (show ¬ f<0 by omega),decide_eq_false (show ¬ f > 1125899906842624 by omega)];simp only[cF,oB];rw[decide_eq_false (show ¬ ((x.length:Nat):Int) > 65536 by omega)];simp only[cF,i,j,v,w,oB];rw[show((8:Nat):Int)=8 from rfl]at b1 b2;simp only[b1,b2,oB,a1d,a16,lN,lC,a06];rw[a0C (by omega),a0C (by omega),a0C (by omega)];simp only[cT,a0N,a2a,aA]
structure StrOk (n:Nat) (L:List (List Pk)):Prop where
 one:1≤L.length
 four:L.length≤4
 ok:∀(i:Nat) l,L[i]?=some l→PksOk (i:Int) n l
theorem b1s(C:a1B (r+233) t)(B:n≤8):∃L m,a1R (t,(n:Int))=some (L,m)∧StrOk n L∧a1B r m:=by
 unfold a1R;obtain⟨a,E,v,a1,b1,y⟩:=a1u C (show(0:Int)<4 by decide);have x:wrap .i64 (1+a)=1+a:=w64 (by omega);simp only[v,oB,x];refine a1H (f:=a2e) (fun i h=>h.1=(n:Int)∧h.2.1=(i:Int)∧(h.2.2.1.length:Int)+i=1+a∧(∀(i:Nat) l,h.2.2.1[i]?=some l→PksOk (i:Int) n l)∧a1B (r+58*i) h.2.2.2.1)
  (fun w=>StrOk n w.1∧a1B r w.2.1) (1+a).toNat (n,1+a,[],E,()) ⟨rfl,by simp only;omega,by simp only[a06];omega,by simp,y.mono (by omega)⟩ (fun w D q=>?_) (fun i h c=>?_)
 rw[D];exact⟨_,_,rfl,q.1,q.2⟩;obtain⟨u,F,G,o,p⟩:=c;unfold a2e
 by_cases hp:h.2.1 > 0
 left;obtain⟨l,m,e,A,j⟩:=b1n (r:=r+58*(i-1)) (s:=(h.2.2.1.length:Int)) (p.mono (by omega)) B;rw[decide_eq_true hp,u];simp only[cT,oB,e];rw[a0C (by omega)];refine⟨_,i-1,rfl,by omega,rfl,?_,?_,?_,j⟩;show wrap .i64 (h.2.1-1)=_;rw[w64 (by omega)];omega;show((h.2.2.1.append [_]).length:Int)+_=_;simp only[a16,lN,a08];omega;intro k z g;have g:(h.2.2.1++[l])[k]?=some z:=g
 by_cases hk:k<h.2.2.1.length
 rw[a54 hk]at g;exact o k z g;rw[a35 (by omega)]at g;have b:k-h.2.2.1.length=0:=by
  have:=(lS.1 g).1
  simpa using this
 rw[b]at g;cases g
 have:k=h.2.2.1.length:=by omega
 rw[this];exact A;right;rw[decide_eq_false hp];exact⟨_,rfl,⟨by show 1≤h.2.2.1.length;omega,by show h.2.2.1.length≤4;omega,o⟩,p.mono (by omega)⟩
abbrev Inf:Type:=Int×((Int×(Int×Unit))×((Int×(Int×(Int×Unit)))×(Int×(Int×(Int×(Int×Unit))))))
variable {a:List Inf}
inductive InfOk:Inf→Prop where
 |sound (n d r c b:Int) (hn:1≤n∧n≤1048576) (hd:1≤d∧d≤1048576) (hr:1≤r∧r≤1048576) (hc:1≤c∧c≤8) (hb:b=4∨b=8∨b=16∨b=24):InfOk (1,((n,(d,())),((r,(c,(b,()))),(0,(0,(0,(0,())))))))
 |images (n d w h e p:Int) (hn:1≤n∧n≤1048576) (hd:1≤d∧d≤1048576) (hw:1≤w∧w≤64) (hh:1≤h∧h≤64) (he:1≤e∧e≤16) (hp:1≤p∧p≤4):InfOk (2,((n,(d,())),((0,(0,(0,()))),(w,(h,(e,(p,())))))))
theorem b3Z{i:Inf}(h:InfOk i):a4C i=some true:=by
 cases h with
 |sound n d r c b hn hd hr hc hb=>
  have g:a5W b=some true:=by rcases hb with rfl|rfl|rfl|rfl<;>kernel_rfl
  simp only[a4C,a6b,a5X,decide_eq_true hn.1,decide_eq_true hn.2,decide_eq_true hd.1,decide_eq_true hd.2,decide_eq_true hr.1,decide_eq_true hr.2,decide_eq_true hc.1,decide_eq_true hc.2,g,ge_iff_le];rfl
 |images n d w h e p hn hd hw hh he hp=>
  simp only[a4C,a6b,a3e,decide_eq_true hn.1,decide_eq_true hn.2,decide_eq_true hd.1,decide_eq_true hd.2,decide_eq_true hw.1,decide_eq_true hw.2,decide_eq_true hh.1,decide_eq_true hh.2,decide_eq_true he.1,decide_eq_true he.2,decide_eq_true hp.1,decide_eq_true hp.2,ge_iff_le];rfl
theorem a9L(a:a1B (r+1) t):∃n d t',a1M t=some ((n,d,()),t')∧(1≤n∧n≤1048576)∧(1≤d∧d≤1048576)∧a1B r t':=by
 unfold a1M;obtain⟨v,b,g,a1,b1,f⟩:=a1u a (show(0:Int)<6 by decide);simp only[g,oB,decide_eq_true a1,decide_eq_true b1,a07,cT]
 have:a23 v=0∨a23 v=1∨a23 v=2∨a23 v=3∨a23 v=4∨a23 v=5:=by omega
 rcases this with h|h|h|h|h|h<;>rw[h]<;>exact⟨_,_,_,rfl,by decide,by decide,f⟩
theorem b2x{k:Nat}(q:a1B (k+3) t):∃r c b t',a1U t=some ((r,c,b,()),t')∧(1≤r∧r≤1048576)∧(1≤c∧c≤8)∧(b=4∨b=8∨b=16∨b=24)∧a1B k t':=by
 unfold a1U;obtain⟨f,v,j,a1,b1,n⟩:=a1u q (show(0:Int)<50000 by decide);obtain⟨a,t2,l,u,b2,o⟩:=a1u n (show(0:Int)<3 by decide);obtain⟨g,w,m,e,i,p⟩:=a1u o (show(0:Int)<4 by decide);simp only[j,l,m,oB,decide_eq_true e,decide_eq_true i,a07,cT];have s:wrap .i64 (1+f)=1+f:=w64 (by omega);have w2:wrap .i64 (1+a)=1+a:=w64 (by omega);rw[s,w2]
 have:a23 g=0∨a23 g=1∨a23 g=2∨a23 g=3:=by omega
 rcases this with h|h|h|h<;>rw[h]<;>exact⟨_,_,_,_,rfl,by omega,by omega,by decide,p⟩
theorem b4V(ht:a1B (r+257) t)(hn:n≤8):∃a L m,a5K (t,(n:Int))=some (a,L,m)∧a.length=L.length∧(∀i∈a,InfOk i)∧StrOk n L∧a1B r m:=by
 unfold a5K;obtain⟨L,t1,P,A,Y⟩:=b1s (r:=r+24) ht hn;have g:=A.four;simp only[P,oB];refine a1H (f:=a5y) (fun i h=>h.1+(i:Int)=(L.length:Int)∧0≤h.1∧h.2.1=L∧(h.2.2.1.length:Int)=h.1∧(∀i∈h.2.2.1,InfOk i)∧a1B (r+6*i) h.2.2.2.1)
  (fun w=>w.1=L∧w.2.1.length=L.length∧(∀i∈w.2.1,InfOk i)∧a1B r w.2.2.1) L.length (0,L,[],t1,()) ⟨by simp,by simp,rfl,by simp,by simp,Y.mono (by omega)⟩ (fun w hw hQ=>?_) (fun i h B=>?_)
 rw[hw];obtain⟨O,q2,q3,D⟩:=hQ;exact⟨w.2.1,w.1,w.2.2.1,rfl,by rw[O];exact q2,q3,by rw[O];exact A,D⟩;obtain⟨c1,c2,o,c4,K,M⟩:=B;have h4:=A.four;unfold a5y
 by_cases hp:h.1<(h.2.1.length:Int)
 left;rw[o]at hp;have U:wrap .i64 (h.1+1)=h.1+1:=w64 (by omega);have done:∀(x:Inf)(m:a5p),InfOk x→a1B (r+6*(i-1)) m→∃s' j,some (Sum.inl (β:=List (List Pk)×(List Inf×(a5p×Unit))) (h.1+1,L,a33 h.2.2.1 [x],m,()))=some (.inl s')∧j<i∧(s'.1+(j:Int)=(L.length:Int)∧0≤s'.1∧s'.2.1=L∧(s'.2.2.1.length:Int)=s'.1∧(∀i∈s'.2.2.1,InfOk i)∧a1B (r+6*j) s'.2.2.2.1):=by
  intro x m hx C;refine⟨_,i-1,rfl,by omega,by show h.1+1+((i-1:Nat):Int)=_;omega,by show 0≤h.1+1;omega,rfl,?_,?_,C⟩;show((h.2.2.1.append [_]).length:Int)=_;simp only[a16,lN,a08];omega;intro p l;rcases mA.1 (show p∈h.2.2.1++[_]from l)with l|l;exact K p l;rw[a13]at l;rw[l];exact hx
 obtain⟨E,t2,Q,a2,b2,N⟩:=a1u (r:=r+6*(i-1)+5) (M.mono (by omega)) (show(0:Int)<2 by decide);rw[o,decide_eq_true hp];simp only[cT,oB,Q,U]
 by_cases hv:E=0
 obtain⟨n1,q,t3,s,v,y,z⟩:=a9L N;obtain⟨r9,c,b,t4,u,V,W,X,g⟩:=b2x z;have e:(E==0)=true:=by simp[hv]
 simp only[e,cT,s,u,oB];rw[a0C (by omega)];exact done _ _ (.sound n1 q r9 c b v y V W X) (g.mono (by omega));obtain⟨n1,q,t3,s,v,y,z⟩:=a9L N;obtain⟨F,t4,u,a4,b4,g⟩:=a1u z (show(0:Int)<64 by decide);obtain⟨G,t5,R,a5,b5,Z⟩:=a1u g (show(0:Int)<64 by decide);obtain⟨H,t6,S,a6,b6,h6⟩:=a1u Z (show(0:Int)<16 by decide);obtain⟨I,t7,T,a7,b7,h7⟩:=a1u h6 (show(0:Int)<4 by decide);have e:(E==0)=false:=by simp[hv]
 have D:wrap .i64 (1+F)=1+F:=w64 (by omega);have q5:wrap .i64 (1+G)=1+G:=w64 (by omega);have q6:wrap .i64 (1+H)=1+H:=w64 (by omega);have q7:wrap .i64 (1+I)=1+I:=w64 (by omega);simp only[e,cF,s,u,R,S,T,oB,D,q5,q6,q7];rw[a0C (by omega)];exact done _ _ (.images n1 q (1+F) (1+G) (1+H) (1+I) v y (by omega) (by omega) (by omega) (by omega)) h7;right;rw[decide_eq_false hp];rw[o]at hp;exact⟨_,rfl,o,by show h.2.2.1.length=_;omega,K,M.mono (by omega)⟩
theorem a7e(h:x.length<1000000):a2D x=some x:=by
 unfold a2D;rw[a0C (by omega)];cases x with
 |nil=>exact x0g _
 |cons a x=>rfl
theorem a0F{l:List α}{k:Nat}(h:k<l.length):n0s l (k:Int)=some l[k]:=by
 unfold n0s;rw[if_pos (by omega),tN,lG h]
theorem b6C{L':List (List Pk)}{n k s:Int}{ps:List Pk}(g:0≤s)(a:s<4)(h:∀p∈ps,PkOk s p)(b:ps.length<1000):
  y0h a3C (L,s,L',n,k,ps,((ps.length:Nat):Int),(0:Int),())=some (.inl (L,L',n,k,())):=by
 refine a0E (f:=a3C) (fun i=>(L,s,L',n,k,ps,((ps.length:Nat):Int),(i:Int),())) ps.length (fun i hi=>?_) ?_
 unfold a3C;simp only;have hp:=h ps[i] (a17 hi);rw[decide_eq_true (show(i:Int)<((ps.length:Nat):Int)by omega),a0F hi];simp only[cT,oB,b3Y hp g a,hp.st,bne_self_eq_false,cF];rw[w64 (by omega)];rfl;unfold a3C;simp only;rw[decide_eq_false (by omega)];rfl
theorem b6D{n k:Int}{ps out:List Pk}{s:Int}{m:Nat}(h:PksOk s m ps)(c:out.length+ps.length<1000):
  y0h a3D (ps,L,n,k,ps,((ps.length:Nat):Int),(0:Int),out,())=some (.inl (L,n,k,out++ps,())):=by
 have:=a0E (f:=a3D) (fun i=>(ps,L,n,k,ps,((ps.length:Nat):Int),(i:Int),out++ps.take i,())) ps.length (b:=.inl (L,n,k,out++ps,())) (fun i hi=>?_) ?_
 rw[a57,a03]at this;exact this;unfold a3D;simp only;have hp:=h.ok ps[i] (a17 hi);have g:a5a ps[i]=some ps[i]:=by
  unfold a5a;rw[a7e (by have:=hp.dat;omega)];rfl
 have a:wrap .i64 ((i:Int)+1)=((i+1:Nat):Int):=by rw[w64 (by omega)];omega
 rw[decide_eq_true (show(i:Int)<((ps.length:Nat):Int)by omega),a0F hi];simp only[cT,oB];refine a0D (v:=(ps,L,n,k,ps,((ps.length:Nat):Int),(i:Int),false,out++ps.take i,ps[i],()) ) ?_ ?_
 by_cases h0:i=0
 subst h0;rfl;rw[decide_eq_true (show(i:Int) > 0 by omega)];have w2:wrap .i64 ((i:Int)-1)=((i-1:Nat):Int):=by rw[w64 (by omega)];omega
 rw[w2,a0F (show i-1<ps.length by omega)]
 have:=a73.1 h.asc (i-1) i (by omega) hi (by omega)
 simp only[cT,oB];rw[decide_eq_false (by omega)];simp only[cF,g,oB,a];rw[a0C (by simp only[lN,a01];omega),a04 hi];simp only[cT,a16,aA];unfold a3D;simp only;rw[decide_eq_false (by omega),a20];rfl
theorem a7f{m:Nat}:∀{L:List (List Pk)},(∀l∈L,l.length≤m)→L.flatten.length≤m*L.length
 | [],_=>by simp
 |l::L,h=>by
  have f:=h l (by simp);have a:=a7f (L:=L) fun l g=>h l (by simp[g]);rw[b18,lN,lC,Nat.mul_succ];omega
theorem StrOk.lens(h:StrOk n L):∀l∈L,l.length≤n:=fun l g=>by
 obtain⟨i,hi⟩:=a40 g;exact(h.ok i l hi).len
theorem b4W(h:StrOk n L)(e:n≤8):∃Z,a3t L=some (Z,0)∧Asc Z∧Stb L.flatten Z:=by
 have i:=h.four;have u:=h.one;have j:L.flatten.length≤32:=by
  have:=a7f h.lens
  have:n*L.length≤8*4:=b33 e i
  omega
 obtain⟨Z,r,s,t⟩:=b5K (l:=L.flatten) (by omega);refine⟨Z,?_,s,t⟩;unfold a3t;rw[decide_eq_false (show ¬ ((L.length:Nat):Int)<1 by omega),decide_eq_false (show ¬ ((L.length:Nat):Int) > 4 by omega)];simp only[cF,oB];refine a0D (v:=.inl (L,())) ?_ ?_
 refine a0E (f:=a4A) (fun k=>(L,L,((L.length:Nat):Int),(k:Int),())) L.length (fun k a=>?_) ?_
 unfold a4A;simp only;have g:=h.ok k L[k] (lG a);have c:=g.len;rw[decide_eq_true (show(k:Int)<((L.length:Nat):Int)by omega),a0F a];simp only[cT,oB];rw[b6C (by omega) (by omega) g.ok (by omega)];simp only[oB];rw[w64 (by omega)];rfl;unfold a4A;simp only;rw[decide_eq_false (by omega)];rfl;simp only;refine a0D (v:=.inl (L.flatten,())) ?_ ?_
 have:=a0E (f:=a4B) (fun k=>(L,((L.length:Nat):Int),(k:Int),(L.take k).flatten,())) L.length (b:=.inl (L.flatten,())) (fun k a=>?_) ?_
 exact this;unfold a4B;simp only;have g:=h.ok k L[k] (lG a);have c:=g.len;have o:(L.take k).flatten.length≤32:=by
  have q:=a7f (m:=n) (L:=L.take k) fun l p=>h.lens l (a09 p)
  have:n*(L.take k).length≤8*4:=b33 e (by rw[a01];omega)
  omega
 rw[decide_eq_true (show(k:Int)<((L.length:Nat):Int)by omega),a0F a];simp only[cT,oB];rw[b6D g (by omega)];simp only[oB];rw[w64 (by omega),a04 a,List.flatten_append,List.flatten_singleton];rfl;unfold a4B;simp only;rw[decide_eq_false (by omega),a20];rfl;simp only;refine a0D r rfl
abbrev Pge:Type:=Int×(Bool×(Bool×(Bool×(List Int×Unit))))
variable {P g l:List Pge}{p q:Pge}
def a1D(first:Bool)(seq:Nat)(r:List Int):List Pge:=
 if h:r=[]then[]else((seq:Int),first,decide (r.length≤252),false,r.take 252,())::a1D false (seq+1) (r.drop 252)
termination_by r.length
decreasing_by
 have:=a02.2 h
 rw[a00];omega
theorem a2k(first:Bool)(h:Nat):a1D first h []=[]:=by rw[a1D,dif_pos rfl]
theorem a2w{first:Bool}{seq:Nat}{r:List Int}(h:r≠[]):a1D first seq r=((seq:Int),first,decide (r.length≤252),false,r.take 252,())::a1D false (seq+1) (r.drop 252):=by rw[a1D,dif_neg h]
theorem a5A:∀(n:Nat)(first:Bool)(seq:Nat)(r:List Int),r.length≤n→(a1D first seq r).length≤r.length
 |0,first,seq,r,h=>by
  have:r=[]:=a37.1 (by omega)
  rw[this,a2k];exact a11 _
 |n+1,first,seq,r,h=>by
  by_cases hr:r=[]
  rw[hr,a2k];exact a11 _
  have:=a02.2 hr
  rw[a2w hr,lC]
  have:=a5A n false (seq+1) (r.drop 252) (by rw[a00];omega)
  rw[a00]at this;omega
def a0O:Nat→List (List Int)→List Pge
 |_,[]=>[]
 |seq,b::bs=>a1D true seq b++a0O (seq+(a1D true seq b).length) bs
theorem b6E{n k:Int}{laid:List (List Int)}{pages:List Pge}(t:b≠[])(u:pages.length+b.length<1000000):
  y0h a4i ((0:Int),b,(0:Int),n,k,pages,laid,())=some (.inl ((0:Int),n,k,pages++a1D true pages.length b,laid,())):=by
 refine a1H (f:=a4i) (fun m j=>∃(i:Nat)(Q:List Pge),m=(b.drop i).length∧i≤b.length+252∧j=((0:Int),b,(i:Int),n,k,Q,laid,())∧Q.length+(b.drop i).length≤pages.length+b.length∧Q++a1D (decide (i=0)) Q.length (b.drop i)=pages++a1D true pages.length b)
  (fun w=>w=.inl ((0:Int),n,k,pages++a1D true pages.length b,laid,()))
  b.length ((0:Int),b,(0:Int),n,k,pages,laid,()) ⟨0,pages,rfl,by omega,rfl,a11 _,rfl⟩ (fun w r p=>by rw[r,p]) (fun m j e=>?_)
 obtain⟨i,Q,rfl,hi,rfl,v,c⟩:=e;have x:(b.drop i).length=b.length-i:=a00;unfold a4i;simp only
 by_cases hlt:i<b.length
 left;have q:b.drop i≠[]:=a02.1 (by omega);rw[decide_eq_true (show(i:Int)<((b.length:Nat):Int)by omega)];have s:wrap .i64 ((0:Int)+((Q.length:Nat):Int))=((Q.length:Nat):Int):=by rw[w64 (by omega)];omega
 have w2:wrap .i64 ((i:Int)+252)=((i+252:Nat):Int):=by rw[w64 (by omega)];omega
 have a:y0e ((i+252:Nat):Int) ((b.length:Nat):Int)=((min (i+252) b.length:Nat):Int):=by
  unfold y0e
  by_cases hc:((b.length:Nat):Int)<((i+252:Nat):Int)
  rw[decide_eq_true hc,a62 (by omega)];rfl;rw[decide_eq_false hc,a60 (by omega)];rfl
 rw[s,w2,a,decide_eq_false (show ¬ ((Q.length:Nat):Int) > 2147483647 by omega)];have g:a43 (a23 (i:Int)) (a38 (a23 ((min (i+252) b.length:Nat):Int)) b)=(b.drop i).take 252:=by
  rw[tN,tN,b34]
  by_cases hc:i+252<b.length
  rw[a60 (by omega),show i+252-i=252 by omega];rw[a62 (by omega),a28 (by omega),a28 (by omega)]
 rw[g,a7e (by rw[a01];omega),tN,a0C (show Q.length+1<2147483648 by omega)];rw[decide_eq_true (show(0:Int)≤((min (i+252) b.length:Nat):Int)by omega),decide_eq_true (show((min (i+252) b.length:Nat):Int)≤((b.length:Nat):Int)by omega),decide_eq_true (show(0:Int)≤(i:Int)by omega),decide_eq_true (show(i:Int)≤((min (i+252) b.length:Nat):Int)by omega)];have l:((i:Int)==0)=decide (i=0):=by
  by_cases h:i=0
  rw[h];rfl;rw[decide_eq_false h];simp;omega
 have o:(((min (i+252) b.length:Nat):Int)==((b.length:Nat):Int))=decide ((b.drop i).length≤252):=by
  by_cases h:(b.drop i).length≤252
  rw[decide_eq_true h];simp;omega;rw[decide_eq_false h];simp;omega
 rw[l,o];simp only[cT,cF,a07,oB];refine⟨_,(b.drop (i+252)).length,rfl,by simp only[a00];omega,i+252,Q++[((Q.length:Int),decide (i=0),decide ((b.drop i).length≤252),false,(b.drop i).take 252,())],rfl,by omega,rfl,?_,?_⟩;simp only[lN,a08,a00];omega;rw[←c,a2w q,a88];simp only[aA,a49,lN,a08];rw[decide_eq_false (show ¬ i+252=0 by omega)];right;rw[decide_eq_false (show ¬ (i:Int)<((b.length:Nat):Int)by omega)];have h:b.drop i=[]:=a48.2 (by omega);rw[h,a2k,a03]at c;refine⟨_,rfl,?_⟩;rw[c]
def a5Z(p:Pk):Prop:=∃s,PkOk s p∧0≤s∧s<4
theorem a6N(p:Pk):a0N p≠[]:=a02.1 (by rw[a4v];omega)
theorem a8R:∀(bs:List (List Int)) (seq:Nat) (m:Nat),(∀b∈bs,b.length≤m)→(a0O seq bs).length≤m*bs.length
 | [],_,_,_=>by simp[a0O]
 |b::bs,seq,m,h=>by
  have f:=a8R bs (seq+(a1D true seq b).length) m fun c g=>h c (by simp[g]);have a:=a5A b.length true seq b (a11 _);have e:=h b (by simp);rw[a0O,lN,lC,Nat.mul_succ];omega
theorem b1t{bs:List (List Int)}:∀(rest done:List (List Int)) (pages:List Pge),done++rest=bs→(∀b∈rest,b≠[]∧b.length≤1000)→pages.length+1000*rest.length<1000000→bs.length<1000→
  y0h a3k ((0:Int),((bs.length:Nat):Int),((done.length:Nat):Int),pages,bs,())=some (.inl (pages++a0O pages.length rest,()))
 | [],done,pages,he,_,_,_=>by
  rw[a03]at he;subst he;refine a0V ?_
  unfold a3k;simp only;rw[decide_eq_false (by omega),a0O,a03];rfl
 |b::rest,done,pages,he,hb,hl,hn=>by
  have g:bs.length=done.length+(rest.length+1):=by rw[←he,lN,lC]
  obtain⟨h,f⟩:=hb b (by simp);have e:=a5A b.length true pages.length b (a11 _);have i:a36 bs (a23 ((done.length:Nat):Int)) ([]:List Int)=b:=by
   rw[←he];exact a5R done rest b [] rfl
  rw[lC]at hl;have step:a3k ((0:Int),((bs.length:Nat):Int),((done.length:Nat):Int),pages,bs,())=some (.inl ((0:Int),((bs.length:Nat):Int),(((done++[b]).length:Nat):Int),pages++a1D true pages.length b,bs,())):=by
   unfold a3k;simp only;rw[decide_eq_true (show((done.length:Nat):Int)<((bs.length:Nat):Int)by omega),decide_eq_true (show(0:Int)≤((done.length:Nat):Int)by omega),i];simp only[cT,a07];rw[b6E h (by omega)];simp only[oB];rw[w64 (by omega),lN];rfl
  rw[a1t step,b1t rest (done++[b]) (pages++a1D true pages.length b) (by rw[←he,aA];rfl) (fun c a=>hb c (by simp[a])) (by rw[lN];omega) hn];rw[a0O,aA,lN]
theorem b4X{l:List Pk}(h:∀p∈l,a5Z p)(o:l.length<40):a3E (l,0)=some (a0O 0 (l.map a0N),0):=by
 unfold a3E;simp only;rw[decide_eq_false (show ¬ (0:Int)<0 by decide),decide_eq_false (show ¬ (0:Int) > 2147483647 by decide)];simp only[cF,oB];rw[decide_eq_true (show(0:Int)≤((l.length:Nat):Int)by omega),decide_eq_true (b31 ((l.length:Nat):Int)),tN,a0C (by omega)];simp only[cT,a07];refine a0D (v:=.inl ((0:Int),l.map a0N,())) ?_ ?_
 have:=a0E (f:=a4h) (fun i=>((0:Int),l,((l.length:Nat):Int),(i:Int),(l.take i).map a0N++a27 (l.length-i) ([]:List Int),())) l.length (b:=.inl ((0:Int),l.map a0N,())) (fun i hi=>?_) ?_
 exact this;unfold a4h;simp only;obtain⟨s,hp,c,e⟩:=h l[i] (a17 hi);have a:((l.take i).map a0N).length=i:=by rw[a44,a01];omega
 have g:((l.take i).map a0N++a27 (l.length-i) ([]:List Int)).length=l.length:=by rw[lN,a,a41];omega
 rw[decide_eq_true (show(i:Int)<((l.length:Nat):Int)by omega),a0F hi];simp only[cT,oB,b3Y hp c e,bne_self_eq_false,cF];rw[g,decide_eq_true (show(0:Int)≤(i:Int)by omega),decide_eq_true (show(i:Int)<((l.length:Nat):Int)by omega),tN];simp only[cT,a07];rw[w64 (by omega),a72 _ _ (by omega),a,a67];obtain⟨r,m⟩:∃r,l.length-i=r+1:=⟨l.length-i-1,by omega⟩;rw[m,b37,a95,a04 hi,pA,show l.length-(i+1)=r by omega];simp only[aA,a56,b28,a49];rfl;unfold a4h;simp only;rw[decide_eq_false (by omega),a20,a67,b38,a03];rfl;simp only
 have:=b1t (bs:=l.map a0N) (l.map a0N) [] [] rfl (fun b j=>by
  obtain⟨p,hp,rfl⟩:=b51.1 j;obtain⟨s,n,-⟩:=h p hp;exact⟨a6N p,by rw[a4v];have:=n.dat;omega⟩) (by rw[a06,a44];omega) (by rw[a44];omega)
 refine a0D (v:=.inl (a0O 0 (l.map a0N),())) ?_ rfl;exact this
theorem b5L{l:List Int}(o:l.length<1000000):∃v,a0Y l=some (bits .u32 .xor (IntKind.max .u32) v):=by
 unfold a0Y;refine a1H (f:=a1G) (fun k a=>∃(v:Int)(i:Nat),a=(v,l,((l.length:Nat):Int),(i:Int),())∧i+k=l.length) (fun _=>True) l.length ((4294967295:Int),l,((l.length:Nat):Int),(0:Int),()) ⟨_,0,rfl,by omega⟩ (fun w b _=>⟨w.1,by rw[b];rfl⟩) (fun k a g=>?_);obtain⟨v,i,rfl,hi⟩:=g;unfold a1G;simp only
 by_cases h:i<l.length
 ·left;rw[decide_eq_true (show(i:Int)<((l.length:Nat):Int)by omega),a0F h];simp only[cT,oB];refine a1H (f:=a0X) (fun m a=>∃(u:Int)(j:Nat),a=(u,l,((l.length:Nat):Int),(i:Int),(j:Int),())∧j+m=8) (fun w=>∃u:Int,w=(u,l,((l.length:Nat):Int),(i:Int),())) 8 (bits .u32 .xor v (wrap .u32 l[i]),l,((l.length:Nat):Int),(i:Int),(0:Int),()) ⟨_,0,rfl,rfl⟩ (fun w b c=>?_) (fun m a g=>?_);obtain⟨u,rfl⟩:=c;rw[b];simp only[oB];rw[w64 (by omega)];exact⟨_,k-1,rfl,by omega,u,i+1,rfl,by omega⟩
  ·obtain⟨u,j,rfl,n⟩:=g;unfold a0X;simp only
   by_cases h8:j<8
   ·left;have e:wrap .i64 ((j:Int)+1)=((j+1:Nat):Int):=by rw[w64 (by omega)];omega
    rw[decide_eq_true (show(j:Int)<8 by omega),e];simp only[cT];cases (bits .u32 .and u (1:Int))==(1:Int)with
    |true=>exact⟨_,m-1,rfl,by omega,_,j+1,rfl,by omega⟩
    |false=>exact⟨_,m-1,rfl,by omega,_,j+1,rfl,by omega⟩
   right;rw[decide_eq_false (show ¬ (j:Int)<8 by omega)];exact⟨_,rfl,u,rfl⟩
 right;rw[decide_eq_false (show ¬ (i:Int)<((l.length:Nat):Int)by omega)];exact⟨_,rfl,trivial⟩
def a1j(l:List Int):Int:=(a0Y l).getD 0
theorem b8P(n:Int):0≤wrap .u32 n∧wrap .u32 n<4294967296:=by
 simp only[wrap,IntKind.bits,IntKind.signed]
 simp
 omega
theorem a6O{l:List Int}(h:l.length<1000000):a0Y l=some (a1j l)∧0≤a1j l∧a1j l<4294967296:=by
 obtain⟨v,hv⟩:=b5L h;have e:a1j l=bits .u32 .xor (IntKind.max .u32) v:=by rw[a1j,hv];rfl
 refine⟨by rw[e];exact hv,?_⟩;rw[e];exact b8P _
structure PgOk (p:Pge):Prop where
 s0:0≤p.1
 s1:p.1≤1000000
 b0:1≤p.2.2.2.2.1.length
 b1:p.2.2.2.2.1.length≤(bif p.2.2.2.1 then 255 else 252)
def pgH(p:Pge):List Int:=[75,80,bits .u8 .or (bits .u8 .or (bif p.2.1 then 1 else 0) (bif p.2.2.1 then 2 else 0)) (bif p.2.2.2.1 then 4 else 0)]++(a1h p.1.toNat 4++([wrap .u8 ((p.2.2.2.2.1.length:Nat):Int)]++p.2.2.2.2.1))
def pgB(p:Pge):List Int:=pgH p++a1h (a1j (pgH p)).toNat 4
theorem a6P(p:Pge):(pgH p).length=8+p.2.2.2.2.1.length:=by
 simp only[pgH,lN,a1d,lC,a06];omega
theorem a7U(p:Pge):(pgB p).length=12+p.2.2.2.2.1.length:=by
 rw[pgB,lN,a6P,a1d];omega
theorem a5B(h:PgOk p):a2U p=some (pgB p,0):=by
 obtain⟨o,q,r,c⟩:=h;have s:p.2.2.2.2.1.length≤255:=by
  revert c
  cases p.2.2.2.1<;>simp only[cT,cF]<;>omega
 have e:a1Y p.2.2.2.1=some (((bif p.2.2.2.1 then 255 else 252:Nat):Nat):Int):=by
  unfold a1Y;cases p.2.2.2.1<;>rfl
 have f:a1P (p.2.1,1)=some (bif p.2.1 then 1 else 0):=by cases p.2.1<;>rfl
 have a:a1P (p.2.2.1,2)=some (bif p.2.2.1 then 2 else 0):=by cases p.2.2.1<;>rfl
 have b:a1P (p.2.2.2.1,4)=some (bif p.2.2.2.1 then 4 else 0):=by cases p.2.2.2.1<;>rfl
 have j:wrap .u64 p.1=((p.1.toNat:Nat):Int):=by
  have:=a3v (n:=p.1.toNat) (by omega)
  rwa [show((p.1.toNat:Nat):Int)=p.1 by omega]at this⊢
 have b1:=a6n (n:=p.1.toNat) (k:=4) (by omega) (by omega);rw[show((4:Nat):Int)=4 from rfl]at b1;obtain⟨m,t,u⟩:=a6O (l:=pgH p) (by rw[a6P];omega);have i:wrap .u64 (a1j (pgH p))=(((a1j (pgH p)).toNat:Nat):Int):=by
  have:=a3v (n:=(a1j (pgH p)).toNat) (by omega)
  rwa [show(((a1j (pgH p)).toNat:Nat):Int)=a1j (pgH p)by omega]at this⊢
 have b2:=a6n (n:=(a1j (pgH p)).toNat) (k:=4) (by omega) (by omega);rw[show((4:Nat):Int)=4 from rfl]at b2;have g:a33 (a33 (a33 ([75,80,bits .u8 .or (bits .u8 .or (bif p.2.1 then 1 else 0) (bif p.2.2.1 then 2 else 0)) (bif p.2.2.2.1 then 4 else 0)]:List Int) (a1h p.1.toNat 4)) ([wrap .u8 ((p.2.2.2.2.1.length:Nat):Int)]:List Int)) p.2.2.2.2.1=pgH p:=by
  simp only[pgH,a16,aA]
 unfold a2U;rw[decide_eq_false (show ¬ p.1<0 by omega),decide_eq_false (show ¬ p.1 > 2147483647 by omega),decide_eq_false (show ¬ ((p.2.2.2.2.1.length:Nat):Int)<1 by omega)];simp only[cF,e,oB];rw[decide_eq_false (show ¬ ((p.2.2.2.2.1.length:Nat):Int) > (((bif p.2.2.2.1 then 255 else 252:Nat):Nat):Int)by omega)];simp only[cF,f,a,b,j,b1,oB,g,m,i,b2];simp only[a16,lN,a1d,a6P,lC,a06];rw[a0C (by omega),a0C (by omega),a0C (by omega),a0C (by omega)];rfl
theorem a8S(h:PgOk p):a2x p=some true:=by
 unfold a2x;rw[a5B h];rfl
theorem a7I(h:PgOk p):a3d p=some p:=by
 unfold a3d;have g:p.2.2.2.2.1.length≤255:=by
  have:=h.b1
  revert this
  cases p.2.2.2.1<;>simp only[cT,cF]<;>omega
 rw[a0C (by omega)];rfl
theorem b4Y{to fr:List Int}(l:to.length<1000)(m:fr.length<1000):∃r,a2V (to,fr)=some (r,[])∧r.length=max to.length fr.length:=by
 unfold a2V;simp only;refine a1H (f:=a2y) (fun k a=>∃t:List Int,a=(fr,t,())∧to.length≤t.length∧t.length≤max to.length fr.length∧k=fr.length-t.length) (fun w=>∃t:List Int,w=(fr,t,())∧t.length=max to.length fr.length) (fr.length-to.length) (fr,to,()) ⟨to,rfl,a11 _,by omega,rfl⟩ (fun w c b=>?_) (fun k a g=>?_);obtain⟨t,rfl,j⟩:=b;rw[c];simp only[oB];refine a1H (f:=a2z) (fun k a=>∃(r:List Int)(i:Nat),a=(fr,((fr.length:Nat):Int),(i:Int),r,())∧r.length=max to.length fr.length∧i+k=fr.length) (fun w=>w.1.length=max to.length fr.length) fr.length (fr,((fr.length:Nat):Int),(0:Int),t,()) ⟨t,0,rfl,j,by omega⟩ (fun w c b=>⟨w.1,by rw[c];rfl,b⟩) (fun k a g=>?_);obtain⟨r,i,rfl,e,hi⟩:=g;unfold a2z;simp only
 by_cases h:i<fr.length
 left;rw[decide_eq_true (show(i:Int)<((fr.length:Nat):Int)by omega),a0F h];simp only[cT,oB];rw[decide_eq_true (show(0:Int)≤(i:Int)by omega),decide_eq_true (show(i:Int)<((r.length:Nat):Int)by omega),w64 (by omega)];exact⟨_,k-1,rfl,by omega,_,i+1,rfl,by rw[a31];exact e,by omega⟩;right;rw[decide_eq_false (show ¬ (i:Int)<((fr.length:Nat):Int)by omega)];exact⟨_,rfl,e⟩;obtain⟨t,rfl,n,o,rfl⟩:=g;unfold a2y;simp only
 by_cases h:t.length<fr.length
 left;rw[decide_eq_true (show((t.length:Nat):Int)<((fr.length:Nat):Int)by omega),a0C (by omega)];exact⟨_,fr.length-(t.length+1),rfl,by omega,t++[0],rfl,by rw[lN];omega,by rw[lN,a08];omega,by rw[lN,a08]⟩;right;rw[decide_eq_false (show ¬ ((t.length:Nat):Int)<((fr.length:Nat):Int)by omega)];exact⟨_,rfl,t,rfl,by omega⟩
theorem b4a(p:Pge):∃v,a3F p=some v:=by
 obtain⟨a,f,l,g,b,u⟩:=p;unfold a3F;cases f<;>cases l<;>exact⟨_,rfl⟩
structure PgPlain (p:Pge):Prop extends PgOk p where
 ng:p.2.2.2.1=false
theorem PgPlain.b2(h:PgPlain p):p.2.2.2.2.1.length≤252:=by
 have:=h.b1
 rw[h.ng]at this;exact this
theorem b4Z(t:∀p∈g,PgPlain p)(c:g≠[])(C:g.length≤8):∃q sum v1 v2,a2n g=some q∧q=((g.head c).1,false,false,true,(((g.length:Nat):Int)::v1::v2::sum),())∧1≤sum.length∧sum.length≤252:=by
 have u:=a02.2 c;unfold a2n;refine a1H (f:=a1Z) (fun k n=>∃(a b:Int)(i:Nat)(s:List Int)(z:Pge),n=(g,a,b,g,((g.length:Nat):Int),(i:Int),s,z,())∧i+k=g.length∧s.length≤252∧(0<i→1≤s.length)) (fun w=>∃(a b:Int)(s:List Int)(z:Pge),w=(g,a,b,s,z,())∧1≤s.length∧s.length≤252) g.length (g,(0:Int),(0:Int),g,((g.length:Nat):Int),(0:Int),([]:List Int),((0:Int),false,false,false,([]:List Int),()),()) ⟨0,0,0,[],_,rfl,by omega,by simp,by omega⟩ (fun w A o=>?_) (fun k n e=>?_);obtain⟨a,b,s,z,rfl,j,m⟩:=o;rw[A];simp only[oB];have B:n0s g (0:Int)=some (g.head c):=by
  have:=a0F (l:=g) (k:=0) u
  rw[show((0:Nat):Int)=0 from rfl]at this;rw[this,a89]
 rw[a0C (by omega),B,a5Y (by omega)];exact⟨_,s,a,b,rfl,rfl,j,m⟩;obtain⟨a,b,i,s,z,rfl,hi,j,m⟩:=e;unfold a1Z;simp only
 by_cases h:i<g.length
 left;have hp:=t g[i] (a17 h);have E:=hp.b2;have D:=hp.b0;obtain⟨v,hv⟩:=b4a g[i];obtain⟨r,x,y⟩:=b4Y (to:=s) (fr:=(g[i]).2.2.2.2.1) (by omega) (by omega);rw[decide_eq_true (show(i:Int)<((g.length:Nat):Int)by omega),a0F h];simp only[cT,oB,hv,x];rw[w64 (by omega)];exact⟨_,k-1,rfl,by omega,_,_,i+1,r,z,rfl,by omega,by omega,fun _=>by omega⟩;right;rw[decide_eq_false (show ¬ (i:Int)<((g.length:Nat):Int)by omega)];exact⟨_,rfl,a,b,s,z,rfl,m (by omega),j⟩
@[reducible] def zPg:Pge:=((0:Int),(false,(false,(false,(([]:List Int),())))))
def gOf(g:List Pge):Pge:=(a2n g).getD zPg
def a0J(l:List Pge):List Pge:=
 if h:l=[]then[]else l.take 8++gOf (l.take 8)::a0J (l.drop 8)
termination_by l.length
decreasing_by
 have:=a02.2 h
 rw[a00];omega
theorem a1L:a0J []=[]:=by rw[a0J,dif_pos rfl]
theorem a2R(h:l≠[]):a0J l=l.take 8++gOf (l.take 8)::a0J (l.drop 8):=by rw[a0J,dif_neg h]
def b3n(l:List Pge):Prop:=∀(i:Nat)(p:Pge),l[i]?=some p→p.1=(i:Int)
theorem a8T(n:∀p∈g,PgPlain p)(b:g≠[])(m:g.length≤8):a2n g=some (gOf g)∧∃h f a,gOf g=((g.head b).1,false,false,true,(((g.length:Nat):Int)::f::a::h),())∧1≤h.length∧h.length≤252:=by
 obtain⟨q,h,f,a,c,i,j,l⟩:=b4Z n b m;have e:gOf g=q:=by rw[gOf,c];rfl
 rw[e];exact⟨c,h,f,a,i,j,l⟩
theorem b5a(hp:∀p∈l,PgPlain p)(b:b3n l)(m:l.length<1000000):y0h a3l (l,l,((l.length:Nat):Int),(0:Int),())=some (.inl (l,())):=by
 refine a0E (f:=a3l) (fun i=>(l,l,((l.length:Nat):Int),(i:Int),())) l.length (fun i hi=>?_) ?_
 unfold a3l;simp only;have h:=hp l[i] (a17 hi);have g:=b i l[i] (lG hi);have e:wrap .i64 ((i:Int)+1)=((i+1:Nat):Int):=by rw[w64 (by omega)];omega
 rw[decide_eq_true (show(i:Int)<((l.length:Nat):Int)by omega),a0F hi];simp only[cT,oB,a8S h.toPgOk,bT,cF,h.ng]
 by_cases h0:i=0
 subst h0;have c:wrap .i64 (((0:Nat):Int)+1)=((0+1:Nat):Int):=by decide
 rw[decide_eq_false (show ¬ ((0:Nat):Int) > 0 by decide)];simp only[cF,oB,c];rw[decide_eq_true (show(i:Int) > 0 by omega)];have w2:wrap .i64 ((i:Int)-1)=((i-1:Nat):Int):=by rw[w64 (by omega)];omega
 rw[w2,a0F (show i-1<l.length by omega)];have a:=b (i-1) l[i-1] (lG (by omega));simp only[cT,oB,g,a];have j:wrap .i64 (((i-1:Nat):Int)+1)=(i:Int):=by rw[w64 (by omega)];omega
 rw[j,e];simp only[bne_self_eq_false,cF];unfold a3l;simp only;rw[decide_eq_false (by omega)];rfl
theorem b5b{out:List Pge}{a:Int}(hp:∀p∈g,PgPlain p)(c:out.length+g.length<1000000):y0h a3m (l,a,g,g,((g.length:Nat):Int),(0:Int),out,())=some (l,a,g,out++g,()):=by
 have:=a0E (f:=a3m) (fun i=>(l,a,g,g,((g.length:Nat):Int),(i:Int),out++g.take i,())) g.length (b:=(l,a,g,out++g,())) (fun i hi=>?_) ?_
 rw[a57,a03]at this;exact this;unfold a3m;simp only;have h:=hp g[i] (a17 hi);rw[decide_eq_true (show(i:Int)<((g.length:Nat):Int)by omega),a0F hi];simp only[cT,oB,a7I h.toPgOk];rw[a0C (by rw[lN,a01];omega),a04 hi,w64 (by omega)];simp only[cT,a16,aA];rfl;unfold a3m;simp only;rw[decide_eq_false (by omega),a20];rfl
theorem b4b(hp:∀p∈l,PgPlain p)(s:b3n l)(u:l.length<100000):a3G l=some (a0J l,0):=by
 unfold a3G;refine a0D (b5a hp s (by omega)) ?_
 simp only;refine a0D (v:=(a0J l,())) ?_ rfl;refine a1H (f:=a5i) (fun k m=>∃(i:Nat)(out:List Pge),m=(l,(i:Int),out,())∧k=(l.drop i).length∧i≤l.length+8∧out.length≤2*i∧out++a0J (l.drop i)=a0J l) (fun w=>w=(a0J l,())) l.length (l,(0:Int),([]:List Pge),()) ⟨0,[],rfl,rfl,by omega,by simp,rfl⟩ (fun w t q=>by rw[t,q]) (fun k m e=>?_);obtain⟨i,out,rfl,rfl,hi,x,b⟩:=e;have y:(l.drop i).length=l.length-i:=a00;unfold a5i;simp only
 by_cases h:i<l.length
 left;have c:l.drop i≠[]:=a02.1 (by omega);have w2:wrap .i64 ((i:Int)+8)=((i+8:Nat):Int):=by rw[w64 (by omega)];omega
 have a:y0e ((i+8:Nat):Int) ((l.length:Nat):Int)=((min (i+8) l.length:Nat):Int):=by
  unfold y0e
  by_cases hc:((l.length:Nat):Int)<((i+8:Nat):Int)
  rw[decide_eq_true hc,a62 (by omega)];rfl;rw[decide_eq_false hc,a60 (by omega)];rfl
 have g:a43 (a23 (i:Int)) (a38 (a23 ((min (i+8) l.length:Nat):Int)) l)=(l.drop i).take 8:=by
  rw[tN,tN,b34]
  by_cases hc:i+8<l.length
  rw[a60 (by omega),show i+8-i=8 by omega];rw[a62 (by omega),a28 (by omega),a28 (by omega)]
 have j:∀p∈(l.drop i).take 8,PgPlain p:=fun p r=>hp p (a19 (a09 r));have lg:((l.drop i).take 8).length≤8:=by rw[a01];omega
 obtain⟨n,-⟩:=a8T j (a02.1 (by rw[a01];omega)) lg;rw[w2,a,g,decide_eq_true (show(i:Int)<((l.length:Nat):Int)by omega),tN];rw[decide_eq_true (show(0:Int)≤((min (i+8) l.length:Nat):Int)by omega),decide_eq_true (show((min (i+8) l.length:Nat):Int)≤((l.length:Nat):Int)by omega),decide_eq_true (show(0:Int)≤(i:Int)by omega),decide_eq_true (show(i:Int)≤((min (i+8) l.length:Nat):Int)by omega)];simp only[cT,a07];rw[b5b j (by omega)];simp only[oB,n];rw[a0C (by rw[lN];omega),w2];refine⟨_,(l.drop (i+8)).length,rfl,by simp only[a00];omega,i+8,(out++(l.drop i).take 8)++[gOf ((l.drop i).take 8)],rfl,rfl,by omega,?_,?_⟩;simp only[lN,a08,a01];omega;rw[←b,a2R c,a88];simp only[aA,a49];right;rw[decide_eq_false (show ¬ (i:Int)<((l.length:Nat):Int)by omega)];have o:l.drop i=[]:=a48.2 (by omega);rw[o,a1L,a03]at b;exact⟨_,rfl,by rw[b]⟩
theorem a9A:∀(n:Nat)(f:Bool)(s:Nat)(r:List Int),r.length≤n→s+r.length≤1000000→∀(i:Nat)(p:Pge),(a1D f s r)[i]?=some p→p.1=((s+i:Nat):Int)∧PgPlain p
 |0,f,s,r,h,_,i,p,hp=>by
  have:r=[]:=a37.1 (by omega)
  rw[this,a2k]at hp;cases hp
 |n+1,f,s,r,h,hs,i,p,hp=>by
  by_cases hr:r=[]
  rw[hr,a2k]at hp;cases hp
  ·have g:=a02.2 hr;rw[a2w hr]at hp;cases i with
   |zero=>
    cases hp;exact⟨by simp,⟨⟨by simp,by show(s:Int)≤1000000;omega,by show 1≤(r.take 252).length;rw[a01];omega,by show(r.take 252).length≤252;rw[a01];omega⟩,rfl⟩⟩
   |succ i=>
    have:=a9A n false (s+1) (r.drop 252) (by rw[a00];omega) (by rw[a00];omega) i p hp
    exact⟨by rw[this.1];congr 1;omega,this.2⟩
theorem a9M:∀(bs:List (List Int)) (s:Nat),(∀b∈bs,b.length≤1000)→s+1000*bs.length≤1000000→∀(i:Nat)(p:Pge),(a0O s bs)[i]?=some p→p.1=((s+i:Nat):Int)∧PgPlain p
 | [],s,_,_,i,p,hp=>by cases hp
 |b::bs,s,hb,hs,i,p,hp=>by
  rw[lC]at hs;have g:=hb b (by simp);have f:=a5A b.length true s b (a11 _);rw[a0O]at hp
  by_cases hi:i<(a1D true s b).length
  rw[a54 hi]at hp;exact a9A b.length true s b (a11 _) (by omega) i p hp;rw[a35 (by omega)]at hp
  have:=a9M bs _ (fun c h=>hb c (by simp[h])) (by omega) _ p hp
  exact⟨by rw[this.1];congr 1;omega,this.2⟩
theorem a8U:∀(n:Nat)(l:List Pge),l.length≤n→(∀p∈l,PgPlain p)→∀q∈a0J l,PgOk q
 |0,l,h,_,q,f=>by
  have:l=[]:=a37.1 (by omega)
  rw[this,a1L]at f;cases f
 |n+1,l,h,hp,q,f=>by
  by_cases hl:l=[]
  rw[hl,a1L]at f;cases f;have m:=a02.2 hl;rw[a2R hl]at f;rcases mA.1 f with f|f;exact(hp q (a09 f)).toPgOk;rcases mC.1 f with rfl|f;have b:l.take 8≠[]:=a02.1 (by rw[a01];omega);obtain⟨-,a,i,j,e,o,r⟩:=a8T (g:=l.take 8) (fun p f=>hp p (a09 f)) b (by rw[a01];omega);have c:=(hp ((l.take 8).head b) (a09 (List.head_mem b))).toPgOk;rw[e];exact⟨c.s0,c.s1,by show 1≤(_::i::j::a).length;simp,by show(_::i::j::a).length≤255;simp only[lC];omega⟩;exact a8U n (l.drop 8) (by rw[a00];omega) (fun p f=>hp p (a19 f)) q f
theorem a5q:∀(n:Nat)(l:List Pge),l.length≤n→(a0J l).length≤2*l.length
 |0,l,h=>by
  have:l=[]:=a37.1 (by omega)
  rw[this,a1L];simp
 |n+1,l,h=>by
  by_cases hl:l=[]
  rw[hl,a1L];simp;have g:=a02.2 hl;have f:=a5q n (l.drop 8) (by rw[a00];omega);rw[a00]at f;rw[a2R hl,lN,lC,a01];omega
def a0R(l:List Pge):List Int:=l.flatMap pgB
theorem a6d:∀(l:List Pge),(∀p∈l,PgOk p)→(a0R l).length≤267*l.length
 | [],_=>by simp[a0R]
 |p::l,h=>by
  have a:=a6d l fun q g=>h q (by simp[g]);have hp:=h p (by simp);have f:p.2.2.2.2.1.length≤255:=by
   have:=hp.b1
   revert this
   cases p.2.2.2.1<;>simp only[cT,cF]<;>omega
  have e:a0R (p::l)=pgB p++a0R l:=rfl;rw[e,lN,a7U,lC];omega
theorem a9N(h:∀p∈l,PgOk p)(j:l.length<1000000):a3H l=some (a0R l,0):=by
 unfold a3H;refine a0D (v:=.inl (a0R l,())) ?_ rfl
 have:=a0E (f:=a4k) (fun i=>(l,((l.length:Nat):Int),(i:Int),a0R (l.take i),())) l.length (b:=.inl (a0R l,())) (fun i hi=>?_) ?_
 exact this;unfold a4k;simp only;have hp:=h l[i] (a17 hi);have c:(l[i]).2.2.2.2.1.length≤255:=by
  have:=hp.b1
  revert this
  cases (l[i]).2.2.2.1<;>simp only[cT,cF]<;>omega
 have g:=a6d (l.take i) fun q a=>h q (a09 a);rw[a01]at g;rw[decide_eq_true (show(i:Int)<((l.length:Nat):Int)by omega),a0F hi];simp only[cT,oB,a5B hp,bne_self_eq_false,cF];rw[a0C (by rw[a7U];omega),w64 (by omega),a04 hi];have e:a0R (l.take i++[l[i]])=a0R (l.take i)++pgB l[i]:=by unfold a0R;rw[a69,a71]
 rw[e];rfl;unfold a4k;simp only;rw[decide_eq_false (by omega),a20];rfl
def rdr(P R:List Int):List Int×(Int×Int×Unit):=(P++R,((P.length:Nat):Int),(0:Int),())
theorem b2J{P:List Int}(g:(P++(A++R)).length<1000000):a2g (rdr P (A++R),((A.length:Nat):Int))=some (A,rdr (P++A) R):=by
 simp only[lN]at g;unfold a2g rdr a1N;have f:y0d ((A.length:Nat):Int) 0=((A.length:Nat):Int):=by
  unfold y0d
  by_cases h:((A.length:Nat):Int)<0
  omega;simp[h]<;>omega
 have a:wrap .i64 (((P++(A++R)).length:Int)-((P.length:Nat):Int))=((A.length+R.length:Nat):Int):=by
  rw[w64 (by simp only[lN];omega)];simp only[lN];omega
 have w2:wrap .i64 (((P.length:Nat):Int)+((A.length:Nat):Int))=((P.length+A.length:Nat):Int):=by rw[w64 (by omega)];omega
 simp only[bne_self_eq_false,cF,oB,f,a,w2];rw[decide_eq_false (show ¬ ((A.length:Nat):Int) > ((A.length+R.length:Nat):Int)by omega),decide_eq_true (show(0:Int)≤((P.length+A.length:Nat):Int)by omega),decide_eq_true (show((P.length+A.length:Nat):Int)≤(((P++(A++R)).length:Nat):Int)by simp only[lN];omega),decide_eq_true (show(0:Int)≤((P.length:Nat):Int)by omega),tN,tN,decide_eq_true (show((P.length:Nat):Int)≤((P.length+A.length:Nat):Int)by omega)];have e:a43 P.length (a38 (P.length+A.length) (P++(A++R)))=A:=by
  rw[b53,b54]
  simp
 rw[e,a0C (by omega)];simp only[cF,cT,a07,aA,lN]
def a2G(l:List Int):Int:=l.foldl (fun a b=>a*256+b) 0
theorem a6z(l:List Int)(b:Int):a2G (l++[b])=a2G l*256+b:=by simp[a2G,a85]
theorem a6e:∀(n:Nat)(l:List Int),l.length=n→(∀b∈l,0≤b∧b<256)→0≤a2G l∧a2G l<((256^n:Nat):Int)
 |0,l,h,_=>by
  have:l=[]:=a37.1 h
  rw[this];decide
 |n+1,l,h,hb=>by
  have f:l≠[]:=a02.1 (by omega);obtain⟨a,z,rfl⟩:=b2I f;rw[lN,a08]at h;have c:=a6e n a (by omega) fun b g=>hb b (by simp[g]);have e:=hb z (by simp);rw[a6z,a81];generalize 256^n=N at c⊢;omega
theorem b1u:∀(k n:Nat),n<256^k→a2G (a1h n k)=(n:Int)
 |0,n,h=>by
  have:n=0:=by simpa using h
  subst this;rfl
 |k+1,n,h=>by
  have e:a1h n (k+1)=a1h (n / 256) k++[((n%256:Nat):Int)]:=by
   rw[a1h,a2v,List.reverse_cons];rfl
  rw[e,a6z,b1u k (n / 256) (by rw[a81]at h;omega)];omega
theorem a5C{P:List Int}(p:A.length≤8)(e:∀b∈A,0≤b∧b<256)(m:(P++(A++R)).length<1000000):a0L (rdr P (A++R),((A.length:Nat):Int))=some (a2G A,rdr (P++A) R):=by
 have j:a2C ((A.length:Nat):Int)=some ((A.length:Nat):Int):=by
  unfold a2C y0e y0d;have a:¬ (8:Int)<((A.length:Nat):Int):=by omega
  have c:¬ ((A.length:Nat):Int)<0:=by omega
  congr 1;simp[a,c]<;>omega
 unfold a0L;simp only[j,oB,b2J m]
 have:=a0E (f:=a2A) (fun i=>(a2G (A.take i),((A.length:Nat):Int),(i:Int),A,rdr (P++A) R,())) A.length (b:=(a2G A,rdr (P++A) R,())) (fun i hi=>?_) ?_
 refine a0D this rfl;unfold a2A;simp only;have q:=a6e i (A.take i) (by rw[a01];omega) fun b h=>e b (a09 h);have hp:256^i≤256^7:=a90 (by decide) (by omega);have o:256^7=72057594037927936:=by decide
 have r:=e A[i] (a17 hi);have g:∀z:Int,0≤z→z<18446744073709551616→wrap .u64 z=z:=fun z a c=>by
  have:=a3v (n:=z.toNat) (by omega)
  rwa [show((z.toNat:Nat):Int)=z by omega]at this
 have l:a36 A (a23 (i:Int)) 0=A[i]:=by rw[tN,lD,lG hi];rfl
 rw[decide_eq_true (show(i:Int)<((A.length:Nat):Int)by omega),decide_eq_true (show(0:Int)≤(i:Int)by omega),l,g (a2G (A.take i)*256) (by omega) (by omega),g A[i] (by omega) (by omega),g _ (by omega) (by omega),w64 (by omega),a04 hi,a6z];rfl;unfold a2A;simp only;rw[decide_eq_false (by omega),a20];rfl
theorem a8s{P:List Int}{k:Nat}(h:k≤8)(f:n<256^k)(g:(P++(a1h n k++R)).length<1000000):a0L (rdr P (a1h n k++R),((k:Nat):Int))=some ((n:Int),rdr (P++a1h n k) R):=by
 have:=a5C (P:=P) (A:=a1h n k) (R:=R) (by rw[a1d];exact h) (a5g n k) g
 rwa [a1d,b1u k n f]at this
def a5D(p:Pk):List Int:=[p.1]++([a2a p]++(a1h p.2.1.toNat 8++a1h p.2.2.1.toNat 8))
theorem a6o(p:Pk):(a5D p).length=18:=by
 simp only[a5D,lN,a1d,lC,a06]
theorem b2K{p:Pk}(h:a5Z p):a0N p=a5D p++p.2.2.2.2.2.1:=by
 obtain⟨s,g,f,a⟩:=h;have e:wrap .u8 p.1=p.1:=by
  have:=a5Y (n:=p.1.toNat) (by rw[g.st];omega)
  rwa [show((p.1.toNat:Nat):Int)=p.1 by rw[g.st];omega]at this
 simp only[a0N,a5D,e,aA,a29,a05]
theorem a7g(p:Pk):a2a p=(bif p.2.2.2.1 then 1 else 0)+(bif p.2.2.2.2.1 then 2 else 0):=by
 unfold a2a;cases p.2.2.2.1<;>cases p.2.2.2.2.1<;>decide
theorem a8V(h:x.length<1000000):a1F x=some (rdr [] x):=by
 unfold a1F;rw[a0C (by omega)];rfl
theorem a9B{p:Pk}(h:a5Z p){d:List Int}(y:d.length≤60000):a2Q (a5D p++d)=some ((p.1,p.2.1,p.2.2.1,p.2.2.2.1,p.2.2.2.2.1,d,()),0):=by
 obtain⟨s,a,w,x⟩:=h;have c:(a5D p++d).length=18+d.length:=by rw[lN,a6o]
 have i:=a.st;have a0:=a.at0;have a1:=a.at1;have B:=a.len0;have l1:=a.len1;have z:0≤a2a p∧a2a p≤3:=by
  rw[a7g];cases p.2.2.2.1<;>cases p.2.2.2.2.1<;>decide
 have g:256^8=18446744073709551616:=by decide
 have e:a5D p++d=[p.1]++([a2a p]++(a1h p.2.1.toNat 8++(a1h p.2.2.1.toNat 8++d))):=by simp only[a5D,aA]
 have m:=a5C (P:=[]) (A:=[p.1]) (R:=[a2a p]++(a1h p.2.1.toNat 8++(a1h p.2.2.1.toNat 8++d))) (by simp) (fun b f=>by rw[a13]at f;rw[f,i];omega) (by rw[←e,a05,c];omega);have r2:=a5C (P:=[]++[p.1]) (A:=[a2a p]) (R:=a1h p.2.1.toNat 8++(a1h p.2.2.1.toNat 8++d)) (by simp) (fun b f=>by rw[a13]at f;rw[f];omega) (by rw[a05,←e,c];omega);have j:=a8s (P:=[]++[p.1]++[a2a p]) (R:=a1h p.2.2.1.toNat 8++d) (n:=p.2.1.toNat) (k:=8) (by omega) (by rw[g];omega) (by simp only[lN,a1d,lC,a06];omega);have l:=a8s (P:=[]++[p.1]++[a2a p]++a1h p.2.1.toNat 8) (R:=d) (n:=p.2.2.1.toNat) (k:=8) (by omega) (by rw[g];omega) (by simp only[lN,a1d,lC,a06];omega);rw[show(([p.1].length:Nat):Int)=1 from rfl,show a2G [p.1]=p.1 by simp[a2G]]at m;rw[show(([a2a p].length:Nat):Int)=1 from rfl,show a2G [a2a p]=a2a p by simp[a2G]]at r2;rw[show((8:Nat):Int)=8 from rfl]at j l;have o:((p.2.1.toNat:Nat):Int)=p.2.1:=by omega
 have r:((p.2.2.1.toNat:Nat):Int)=p.2.2.1:=by omega
 rw[o]at j;rw[r]at l;have t:a1F (a5D p++d)=some (rdr [] ([p.1]++([a2a p]++(a1h p.2.1.toNat 8++(a1h p.2.2.1.toNat 8++d))))):=by rw[a8V (by omega),←e]
 unfold a2Q;rw[c,decide_eq_false (show ¬ ((18+d.length:Nat):Int)<18 by omega),decide_eq_false (show ¬ ((18+d.length:Nat):Int) > 65554 by omega)];simp only[cF,t,m,r2,j,l,oB];rw[decide_eq_false (show ¬ p.1≥4 by omega),decide_eq_false (show ¬ a2a p > 3 by omega),decide_eq_false (show ¬ p.2.1 > 1125899906842624 by omega),decide_eq_false (show ¬ p.2.2.1 > 1125899906842624 by omega)];simp only[cF,oB];rw[c,decide_eq_true (show(18:Int)≤((18+d.length:Nat):Int)by omega)];have q:a43 18 (a38 (18+d.length) (a5D p++d))=d:=by
  rw[a28 (by omega),b54,a48.2 (by rw[a6o];omega),a6o];rfl
 rw[q,a7e (by omega),w64 (by omega),w64 (by omega),w64 (by omega)];have u:((bits .u64 .and (a2a p) 1) != 0)=p.2.2.2.1:=by
  rw[a7g];cases p.2.2.2.1<;>cases p.2.2.2.2.1<;>decide
 have v:((bits .u64 .and (a2a p) 2) != 0)=p.2.2.2.2.1:=by
  rw[a7g];cases p.2.2.2.1<;>cases p.2.2.2.2.1<;>decide
 simp only[cT,oB,u,v]
def a5r(p:Pge):Prop:=p.2.1=true→p.2.2.2.1=false→∃q,a5Z q∧p.2.2.2.2.1.take 18=a5D q∧18≤p.2.2.2.2.1.length
abbrev Mk:Type:=Int×(Int×(Int×Unit))
def a1g(p:Pge):List Mk:=
 bif p.2.1&&!p.2.2.2.1 then(match a2Q (p.2.2.2.2.1.take 18)with
  |some y=>bif y.1.2.2.2.1 then[(y.1.1,y.1.2.1,p.1,())]else[]
  |none=>[])else[]
theorem a6p(h:p.2.2.2.1=true):a1g p=[]:=by
 unfold a1g;rw[h];cases p.2.1<;>rfl
theorem a6I{q:Pk}(h:p.2.1=true)(g:p.2.2.2.1=false)(a:a5Z q)(f:p.2.2.2.2.1.take 18=a5D q):a1g p=bif q.2.2.2.1 then[(q.1,q.2.1,p.1,())]else[]:=by
 unfold a1g
 have:=a9B a (d:=[]) (by simp)
 rw[a03]at this;rw[h,g,f,this];rfl
theorem b3o:(a1g p).length≤1:=by
 unfold a1g;cases p.2.1&&!p.2.2.2.1 with
 |false=>simp
 |true=>
  simp only[cT];cases a2Q (p.2.2.2.2.1.take 18)with
  |none=>simp
  |some y=>simp only;cases y.1.2.2.2.1<;>simp
theorem a6A:∀(l:List Pge),(l.flatMap a1g).length≤l.length
 | []=>by simp
 |p::l=>by
  have h:=a6A l;have g:=b3o (p:=p);rw[a59,lN,lC];omega
theorem b7j(h:∀p∈l,PgOk p∧a5r p)(u:l.length<1000000):a6c l=some (l.flatMap a1g):=by
 unfold a6c
 have:=a0E (f:=a5c) (fun i=>(l,((l.length:Nat):Int),(i:Int),(l.take i).flatMap a1g,())) l.length (b:=(l.flatMap a1g,())) (fun i hi=>?_) ?_
 refine a0D this rfl
 ·unfold a5c;simp only;obtain⟨hp,o⟩:=h l[i] (a17 hi);have s:wrap .i64 ((i:Int)+1)=((i+1:Nat):Int):=by rw[w64 (by omega)];omega
  have c:=a6A (l.take i);rw[a01]at c;have e:(l.take (i+1)).flatMap a1g=(l.take i).flatMap a1g++a1g l[i]:=by rw[a04 hi,a69,a71]
  rw[decide_eq_true (show(i:Int)<((l.length:Nat):Int)by omega),a0F hi,s,e];simp only[cT,oB]
  by_cases g:(l[i]).2.1=true
  ·by_cases a:(l[i]).2.2.2.1=true
   rw[a6p a,g,a,a03];rfl
   ·have a:(l[i]).2.2.2.1=false:=by simpa using a
    obtain⟨q,n,j,t⟩:=o g a;rw[a6I g a n j,g,a];have m:=a9B n (d:=[]) (by simp);rw[a03]at m;rw[decide_eq_false (show ¬ (((l[i]).2.2.2.2.1.length:Nat):Int)<18 by omega),decide_eq_true (show(18:Int)≤(((l[i]).2.2.2.2.1.length:Nat):Int)by omega),j];simp only[bT,cF,cT,a5B hp,oB,bne_self_eq_false,m];cases hk:q.2.2.2.1 with
    |false=>simp only[a79,cT,cF,a03]
    |true=>
     simp only[bT,cF,cT];rw[a0C (by omega)];rfl
  have g:(l[i]).2.1=false:=by simpa using g
  have r:a1g l[i]=[]:=by unfold a1g;rw[g];rfl
  rw[r,g,a03];rfl
 unfold a5c;simp only;rw[decide_eq_false (by omega),a20];rfl
theorem a9O(a:∀p∈g,PgPlain p)(h:g≠[])(f:g.length≤8):(gOf g).2.2.2.1=true:=by
 obtain⟨-,b,c,i,e,-⟩:=a8T a h f;rw[e]
theorem a7J:∀(n:Nat)(l:List Pge),l.length≤n→(∀p∈l,PgPlain p)→(a0J l).flatMap a1g=l.flatMap a1g
 |0,l,h,_=>by
  have:l=[]:=a37.1 (by omega)
  rw[this,a1L]
 |n+1,l,h,hp=>by
  by_cases hl:l=[]
  rw[hl,a1L];have b:=a02.2 hl;have c:l.take 8≠[]:=a02.1 (by rw[a01];omega);have a:=a9O (g:=l.take 8) (fun p f=>hp p (a09 f)) c (by rw[a01];omega);have e:=a7J n (l.drop 8) (by rw[a00];omega) (fun p f=>hp p (a19 f));rw[a2R hl,a69,a59,a6p a,e,a05,←a69,a26]
theorem a8i:∀(n:Nat)(l:List Pge),l.length≤n→(∀p∈l,PgPlain p)→(∀p∈l,a5r p)→∀q∈a0J l,a5r q
 |0,l,h,_,_,q,f=>by
  have:l=[]:=a37.1 (by omega)
  rw[this,a1L]at f;cases f
 |n+1,l,h,hp,hh,q,f=>by
  by_cases hl:l=[]
  rw[hl,a1L]at f;cases f;have c:=a02.2 hl;have e:l.take 8≠[]:=a02.1 (by rw[a01];omega);have b:=a9O (g:=l.take 8) (fun p f=>hp p (a09 f)) e (by rw[a01];omega);rw[a2R hl]at f;rcases mA.1 f with f|f;exact hh q (a09 f);rcases mC.1 f with rfl|f;intro _ a;rw[b]at a;cases a;exact a8i n (l.drop 8) (by rw[a00];omega) (fun p f=>hp p (a19 f)) (fun p f=>hh p (a19 f)) q f
theorem a8W:∀(n:Nat)(s:Nat)(r:List Int),r.length≤n→∀p∈a1D false s r,p.2.1=false
 |0,s,r,h,p,hp=>by
  have:r=[]:=a37.1 (by omega)
  rw[this,a2k]at hp;cases hp
 |n+1,s,r,h,p,hp=>by
  by_cases hr:r=[]
  rw[hr,a2k]at hp;cases hp;have g:=a02.2 hr;rw[a2w hr]at hp;rcases mC.1 hp with rfl|hp;rfl;exact a8W n (s+1) (r.drop 252) (by rw[a00];omega) p hp
theorem b4c{q:Pk}(g:a5Z q)(s:Nat):∀p∈a1D true s (a0N q),a5r p:=by
 intro p hp h _;rw[a2w (a6N q)]at hp;have f:=a4v q;rcases mC.1 hp with rfl|hp;refine⟨q,g,?_,?_⟩;show((a0N q).take 252).take 18=a5D q;rw[b32,b2K g,show min 18 252=18 from rfl,b53,a6o,a67,a57,a03,a28 (by rw[a6o];omega)];show 18≤((a0N q).take 252).length;rw[a01];omega;rw[a8W _ _ _ (a11 _) p hp]at h;cases h
theorem a8j:∀(l:List Pk)(s:Nat),(∀p∈l,a5Z p)→∀q∈a0O s (l.map a0N),a5r q
 | [],_,_,q,hq=>by cases hq
 |p::l,s,h,q,hq=>by
  rw[a56,a0O]at hq;rcases mA.1 hq with hq|hq;exact b4c (h p (by simp)) s q hq;exact a8j l _ (fun p hp=>h p (by simp[hp])) q hq
def a0G(n:Nat):List Int:=if h:n<128 then[(n:Int)]else((n%128+128:Nat):Int)::a0G (n / 128)
termination_by n
decreasing_by omega
theorem a6Q(h:n<128):a0G n=[(n:Int)]:=by rw[a0G,dif_pos h]
theorem a6R(h:¬ n<128):a0G n=((n%128+128:Nat):Int)::a0G (n / 128):=by rw[a0G,dif_neg h]
theorem a7h:∀(k n:Nat),n<128^(k+1)→1≤(a0G n).length∧(a0G n).length≤k+1
 |0,n,h=>by rw[a6Q (by omega)];simp
 |k+1,n,h=>by
  by_cases hn:n<128
  rw[a6Q hn];simp;rw[a6R hn]
  have:=a7h k (n / 128) (by rw[b02 (by omega)];rw[a81]at h;exact h)
  simp only[lC];omega
theorem b2L:∀(k n:Nat)(a:List Int)(b c:Int)(out:List Int),n<128^(k+1)→k≤8→out.length+k<1000000→
  ∃r g,y0h a4D ((n:Int),a,b,c,out,())=some (((r:Nat):Int),a,b,c,out++g,())∧a0G n=g++[(r:Int)]∧r<128
 |k,n,a,b,c,out,h,hk,ho=>by
  by_cases hn:n<128
  refine⟨n,[],?_,by rw[a6Q hn];rfl,hn⟩;rw[a0V (b:=((n:Int),a,b,c,out,())) (by
   have d:decide ((n:Int)≥128)=false:=by simp;omega
   simp only[a4D,d,cF])]
  simp
  ·cases k with
   |zero=>omega
   |succ k=>
    have p:n / 128<128^(k+1):=by rw[b02 (by omega)];rw[a81]at h;exact h
    have f:n<18446744073709551616:=by
     have:128^(k+1+1)≤128^9:=a90 (by omega) (by omega)
     have e:(128:Nat)^9=9223372036854775808:=by decide
     omega
    obtain⟨r,g,l,m,o⟩:=b2L k (n / 128) a b c (out++[((n%128+128:Nat):Int)]) p (by omega) (by simp;omega);refine⟨r,((n%128+128:Nat):Int)::g,?_,by rw[a6R hn,m];rfl,o⟩;have d:decide ((n:Int)≥128)=true:=by simp;omega
    have i:wrap .u64 (Int.tdiv (n:Int) 128)=((n / 128:Nat):Int):=by
     rw[show Int.tdiv (n:Int) 128=((n / 128:Nat):Int)from rfl];exact a4O (by omega)
    have j:wrap .u8 (wrap .u8 (a42 (n:Int) 128)+128)=((n%128+128:Nat):Int):=by
     rw[show a42 (n:Int) 128=((n%128:Nat):Int)from rfl,b1b,b1b];omega
    rw[a1t (s':=(((n / 128:Nat):Int),a,b,c,out++[((n%128+128:Nat):Int)],())) (by
     simp only[a4D,d,cT,b3R (show out.length+1<2147483648 by omega),i,j,a16])]
    rw[l]
    simp
theorem b1v{α β γ:Type}(f:α→List γ):∀(l:List α)(a:List γ),a7a (β:=β) (fun a x=>.inl (a++f x)) l a=.inl (a++l.flatMap f)
 | [],a=>by simp[a7a]
 |x::l,a=>by simp only[a7a];rw[b1v f l];simp
def asI(ns:List Nat):List Int:=ns.map fun n:Nat=>(n:Int)
theorem a5s{ns:List Nat}(h:∀n∈ns,n<9223372036854775808)(w:ns.length≤1000):a1E (asI ns)=some (ns.flatMap a0G):=by
 have p:(asI ns).length=ns.length:=by simp[asI]
 have:=b3U (f:=a4E) (asI ns) (fun i (a:List Int)=>(asI ns,((asI ns).length:Int),(i:Int),a,())) (fun a x=>.inl (a++a0G x.toNat)) (fun i a=>a.length≤10*i) (fun a=>(a,()))
  (fun i hi a t=>⟨fun u g=>by
   have l:i<ns.length:=by omega
   have q:(asI ns)[i]=((ns[i]:Nat):Int):=by simp[asI]
   have j:=h ns[i] (a17 l);have c:ns[i]<128^(8+1):=by rw[show(128:Nat)^(8+1)=9223372036854775808 from by decide];exact j
   obtain⟨r,m,s,o,v⟩:=b2L 8 ns[i] (asI ns) ((asI ns).length:Int) (i:Int) a c (a11 _) (by omega);have hv:=a7h 8 ns[i] c;rw[o]at hv;simp only[lN,lC,a06]at hv;simp only[q,tN,o,Sum.inl.injEq]at g;subst g;have e:wrap .u8 (r:Int)=(r:Int):=by rw[b1b];omega
   refine⟨?_,by simp;omega⟩;simp only[a4E,dlt hi,cT,b1l hi,q,oB,s,b3R (show(a++m).length+1<2147483648 by simp;omega),a9K (show i<1000000 by omega),e,a16,aA],fun b j=>by cases j⟩)
  (fun a t=>by simp only[a4E,dge,cF]) (a:=[]) (by simp)
 unfold a1E;simp only[nZ]at this;rw[this,b1v];simp[b4S,asI,List.flatMap_map]
theorem orA{a b k:Nat}(f:a<2^k)(c:b*2^k+a<18446744073709551616):bits .u64 .or (a:Int) ((b*2^k:Nat):Int)=((a+b*2^k:Nat):Int):=by
 show wrap .u64 (((a32 64 (a:Int) ||| a32 64 ((b*2^k:Nat):Int)).toNat:Nat):Int)=_;have g:(a32 64 (a:Int)).toNat=a:=by rw[b12];omega
 have h:(a32 64 ((b*2^k:Nat):Int)).toNat=b*2^k:=by rw[b12];omega
 rw[BitVec.toNat_or,g,h];have e:a ||| b*2^k=a+b*2^k:=by
  have:=Nat.two_pow_add_eq_or_of_lt (i:=k) (b:=a) f b
  rw[Nat.or_comm,b50 b,←this,Nat.add_comm]
 rw[e];exact a4O (by omega)
theorem a9P(h:o≤64)(g:N*2^o<9223372036854775808):E0i .u64 (N:Int) (o:Int)=((N*2^o:Nat):Int):=by
 unfold E0i;show wrap .u64 ((N:Int)*2^(min (o:Int).toNat 64))=_;rw[tN,a60 h];have e:(N:Int)*2^o=((N*2^o:Nat):Int):=by rw[Int.natCast_mul,b60];rfl
 rw[e];exact a4O (by omega)
theorem a8k{rest:List Int}:∀(j m i acc:Nat)(P:List Int),m<128^(j+1)→P.length=i→(i=0∨1≤m)→acc<2^(7*i)→m*2^(7*i)+acc<9223372036854775808→(P++(a0G m++rest)).length<1000000000→
  y0h a3w ((acc:Int),P++(a0G m++rest),((P++(a0G m++rest)).length:Nat),(i:Int),())=some (.inr (((acc+m*2^(7*i):Nat):Int),((i+(a0G m).length:Nat):Int),(0:Int),()))
 |j,m,i,acc,P,hj,hP,hm,ha,hs,hl=>by
  have u:i≤8:=by
   rcases hm with q|h1;omega;apply Classical.byContradiction;intro hi;have y:2^(7*9)≤2^(7*i):=a90 (by omega) (by omega);have z:2^(7*i)≤m*2^(7*i):=Nat.le_mul_of_pos_left _ (by omega);have e:(2:Nat)^(7*9)=9223372036854775808:=by decide
   omega
  have a:wrap .i64 ((7:Int)*(i:Int))=((7*i:Nat):Int):=by rw[wrap64 (by omega)];omega
  have l:decide ((((7*i:Nat):Int))<0)=false:=by simp;omega
  have b:wrap .i64 ((i:Int)+1)=((i+1:Nat):Int):=a9K (by omega);have x:∀c:Nat,c<256→(i=9→False):=fun _ _ h=>by omega
  have r:((i:Int)==9)=false:=by simp;omega
  have step:∀(c:Nat)(p:List Int),c<256→a0G m=(c:Int)::p→(i=0∨c≠0)→
    a3w ((acc:Int),P++(a0G m++rest),((P++(a0G m++rest)).length:Nat),(i:Int),()) =
     bif decide ((c:Int)<128)then some (.inr (Sum.inr (bits .u64 .or (acc:Int) (E0i .u64 (wrap .u64 (a42 (c:Int) 128)) ((7*i:Nat):Int)),((i+1:Nat):Int),(0:Int),())))
     else some (.inl (bits .u64 .or (acc:Int) (E0i .u64 (wrap .u64 (a42 (c:Int) 128)) ((7*i:Nat):Int)),P++(a0G m++rest),((P++(a0G m++rest)).length:Nat),((i+1:Nat):Int),())):=fun c p s hv q=>by
   have g:i<(P++(a0G m++rest)).length:=by rw[hv];simp;omega
   have t:n0s (P++(a0G m++rest)) (i:Int)=some (c:Int):=by
    rw[b1l g];congr 1;subst hP;simp[hv]
   have v:(decide ((i:Int) > 0)=true→((c:Int)==0)=false):=fun h=>by
    simp only[dT]at h;simp only[beq_eq_false_iff_ne,ne_eq];omega
   simp only[a3w,dlt g,cT,t,oB,r,cF];cases n:decide ((i:Int) > 0)with
   |true=>simp only[cT,oB,v n,cF,a,l,b]
   |false=>simp only[oB,cF,a,l,b]
  have val:∀c:Nat,c%128*2^(7*i)+acc<9223372036854775808→bits .u64 .or (acc:Int) (E0i .u64 (wrap .u64 (a42 (c:Int) 128)) ((7*i:Nat):Int))=((acc+c%128*2^(7*i):Nat):Int):=fun c s=>by
   rw[show a42 (c:Int) 128=((c%128:Nat):Int)from rfl,a4O (by omega),a9P (by omega) (by omega)];exact orA ha (by omega)
  by_cases hm128:m<128
  rw[a0V (step m [] (by omega) (a6Q hm128) (by omega) |>.trans (by
   have d:decide ((m:Int)<128)=true:=by simp;omega
   simp only[d,cT];rfl))]
  rw[val m (by rw[b55 hm128];exact hs),b55 hm128,a6Q hm128];rfl
  ·cases j with
   |zero=>omega
   |succ j=>
    have n:m / 128<128^(j+1):=by rw[b02 (by omega)];rw[a81]at hj;exact hj
    have f:2^(7*(i+1))=128*2^(7*i):=by rw[show 7*(i+1)=7+7*i from by omega,Nat.pow_add]
    have o:m*2^(7*i)=m%128*2^(7*i)+m / 128*2^(7*(i+1)):=by
     rw[f,←Nat.mul_assoc,←Nat.add_mul];congr 1;omega
    have A:m%128*2^(7*i)≤127*2^(7*i):=Nat.mul_le_mul_right _ (by omega);rw[a1t (step (m%128+128) (a0G (m / 128)) (by omega) (a6R hm128) (by omega) |>.trans (by
     have d:decide (((m%128+128:Nat):Int)<128)=false:=by simp;omega
     simp only[d,cF];rfl))]
    rw[val (m%128+128) (by rw[b52,Nat.mod_mod];omega),b52,Nat.mod_mod];have e:P++(a0G m++rest)=(P++[((m%128+128:Nat):Int)])++(a0G (m / 128)++rest):=by rw[a6R hm128];simp
    rw[e]at hl⊢;have w:=a8k j (m / 128) (i+1) (acc+m%128*2^(7*i)) (P++[((m%128+128:Nat):Int)]) n (by simp[hP]) (.inr (by omega)) (by rw[f];omega) (by omega) hl;rw[w,o,a6R hm128];congr 3;omega
    simp;omega
theorem b4d(h:n<9223372036854775808){rest:List Int}(g:(a0G n++rest).length<1000000000):a4F (a0G n++rest)=some ((n:Int),(((a0G n).length:Nat):Int),(0:Int)):=by
 have:=a8k (rest:=rest) 8 n 0 0 [] (by rw[show(128:Nat)^(8+1)=9223372036854775808 from by decide];exact h) rfl (.inl rfl) (by simp) (by simpa using h) g
 simp only[a05,nZ,Nat.mul_zero,Nat.pow_zero,Nat.mul_one,a68,Int.cast_ofNat_Int]at this;unfold a4F;rw[this];rfl
theorem b5M(i:n<9223372036854775808)(l:(n:Int)≤most){P:List Int}(f:(P++(a0G n++R)).length<1000000000):
  a0I (rdr P (a0G n++R),most)=some ((n:Int),rdr (P++a0G n) R):=by
 have e:a43 (a23 (P.length:Int)) (a38 (P++(a0G n++R)).length (P++(a0G n++R)))=a0G n++R:=by
  rw[a20,tN,b63]
 have g:((0:Int) != 0)=false:=rfl;have a:decide ((0:Int)≤(P.length:Int))=true:=by simp
 have b:decide ((P.length:Int)≤((P++(a0G n++R)).length:Int))=true:=by simp;omega
 have c:decide ((n:Int) > most)=false:=by simp;omega
 have h:(a0G n++R).length<1000000000:=by rw[lN]at f;omega
 have j:wrap .i64 ((P.length:Int)+((a0G n).length:Int))=(((P++a0G n).length:Nat):Int):=by
  rw[wrap64 (by simp only[lN]at f;omega)];simp
 unfold a0I rdr;simp only[g,cF,a,b,b20,cT];rw[e,b4d i h];simp only[oB,beq_self_eq_true,cT,c,cF,g,j,aA]
theorem b4e(f:n<9223372036854775808)(g:(n:Int)≤most){P:List Int}(h:(P++(a0G n++R)).length<1000000):
  a0I (rdr P (a0G n++R),most)=some ((n:Int),rdr (P++a0G n) R):=b5M f g (Nat.lt_trans h (by decide))
def a4f(g:Int):Nat:=if 0≤g then(2*g).toNat else(-2*g-1).toNat
theorem b4f{g:Int}(h:-100000≤g∧g≤100000):a4W g=some ((a4f g:Nat):Int):=by
 unfold a4W a4f
 by_cases hg:0≤g
 have d:decide (g≥0)=true:=by simpa using hg
 rw[d,cT,if_pos hg,a4O (n:=g) (by omega),a4O (by omega),b39 (by omega)];have d:decide (g≥0)=false:=by simp;omega
 rw[d,cF,if_neg hg,wrap64 (n:=g+1) (by omega),wrap64 (by omega),a4O (n:=0-(g+1)) (by omega),a4O (n:=2*(0-(g+1))) (by omega),a4O (by omega),b39 (by omega)];congr 1;omega
theorem a7V{g:Int}{m:Nat}(h:-(m:Int)≤g∧g≤(m:Int)):a4f g≤2*m:=by
 unfold a4f
 split<;>omega
structure MkOk (m:Mk):Prop where
 s0:0≤m.1
 s4:m.1<4
 a0:0≤m.2.1
 a1:m.2.1≤1000
 p0:0≤m.2.2.1
 p1:m.2.2.1≤50000
def a7i:Int→Int→List Mk→List Int
 |_,_,[]=>[]
 |a,s,m::l=>(a0G m.1.toNat++(a0G (a4f (m.2.1-a))++a0G (a4f (m.2.2.1-s))))++a7i m.2.1 m.2.2.1 l
theorem b8Q{x y:Nat}(g:x<1000000)(f:y<1000000)(a:z<1000000):a1E [(x:Int),(y:Int),(z:Int)]=some (a0G x++(a0G y++a0G z)):=by
 have:=a5s (ns:=[x,y,z]) (fun n h=>by simp only[mC,a63,or_false]at h;omega) (by simp)
 rw[show asI [x,y,z]=[(x:Int),(y:Int),(z:Int)]from rfl]at this;rw[this];simp only[a59,a80,a03]
theorem a7K(h:n<1000000):(a0G n).length≤3:=(a7h 2 n (by omega)).2
theorem b4g:∀(rest done:List Mk)(l:List Mk)(a s:Int)(out:List Int),done++rest=l→(∀m∈rest,MkOk m)→(0≤a∧a≤1000)→(0≤s∧s≤50000)→l.length<100000→out.length+9*rest.length<1000000→
  y0h a2W (a,s,l,((l.length:Nat):Int),((done.length:Nat):Int),out,())=some (out++a7i a s rest,())
 | [],done,l,a,s,out,he,_,_,_,_,_=>by
  rw[a03]at he;subst he;refine a0V ?_
  unfold a2W;simp only;rw[decide_eq_false (by omega),a7i,a03];rfl
 |m::rest,done,l,a,s,out,he,hm,ha,hs,hl,ho=>by
  have h:l.length=done.length+(rest.length+1):=by rw[←he,lN,lC]
  obtain⟨e,i,j,o,p,q⟩:=hm m (by simp);rw[lC]at ho;have b:n0s l ((done.length:Nat):Int)=some m:=by
   rw[a0F (by omega)];congr 1;subst he;rw[a74 (a11 _)]
   simp
  have v:a4f (m.2.1-a)≤2000:=a7V (m:=1000) (by omega);have w:a4f (m.2.2.1-s)≤100000:=a7V (m:=50000) (by omega);have r:=a7K (n:=m.1.toNat) (by omega);have t:=a7K (n:=a4f (m.2.1-a)) (by omega);have u:=a7K (n:=a4f (m.2.2.1-s)) (by omega);have g:wrap .u64 m.1=((m.1.toNat:Nat):Int):=by
   have:=a3v (n:=m.1.toNat) (by omega)
   rwa [show((m.1.toNat:Nat):Int)=m.1 by omega]at this⊢
  have hp:=b8Q (x:=m.1.toNat) (y:=a4f (m.2.1-a)) (z:=a4f (m.2.2.1-s)) (by omega) (by omega) (by omega);have step:a2W (a,s,l,((l.length:Nat):Int),((done.length:Nat):Int),out,())=some (.inl (m.2.1,m.2.2.1,l,((l.length:Nat):Int),(((done++[m]).length:Nat):Int),out++(a0G m.1.toNat++(a0G (a4f (m.2.1-a))++a0G (a4f (m.2.2.1-s)))),())):=by
   unfold a2W;simp only;rw[decide_eq_true (show((done.length:Nat):Int)<((l.length:Nat):Int)by omega),b];simp only[cT,oB];rw[w64 (n:=m.2.1-a) (by omega),b4f (by omega)];simp only[oB];rw[w64 (n:=m.2.2.1-s) (by omega),b4f (by omega)];simp only[oB];rw[g,hp];simp only[oB];rw[a0C (by simp only[lN];omega),w64 (by omega),lN];rfl
  rw[a1t step,b4g rest (done++[m]) l m.2.1 m.2.2.1 _ (by rw[←he,aA];rfl) (fun c f=>hm c (by simp[f])) (by omega) (by omega) hl (by simp only[lN];omega)];rw[a7i,aA]
theorem a8t:∀(l:List Mk)(a s:Int),(∀m∈l,MkOk m)→(0≤a∧a≤1000)→(0≤s∧s≤50000)→(a7i a s l).length≤9*l.length
 | [],_,_,_,_,_=>by simp[a7i]
 |m::l,a,s,hm,ha,hs=>by
  obtain⟨f,b,e,i,j,o⟩:=hm m (by simp);have g:=a8t l m.2.1 m.2.2.1 (fun c h=>hm c (by simp[h])) (by omega) (by omega);have t:a4f (m.2.1-a)≤2000:=a7V (m:=1000) (by omega);have u:a4f (m.2.2.1-s)≤100000:=a7V (m:=50000) (by omega);have p:=a7K (n:=m.1.toNat) (by omega);have q:=a7K (n:=a4f (m.2.1-a)) (by omega);have r:=a7K (n:=a4f (m.2.2.1-s)) (by omega);rw[a7i];simp only[lN,lC];omega
def a5E(l:List Mk):List Int:=a0G l.length++a7i 0 0 l
def a8u(l:List Mk):List Int:=a5E l++a1h (a1j (a5E l)).toNat 4
theorem b6F{x:Nat}(g:x<1000000):a1E [(x:Int)]=some (a0G x):=by
 have:=a5s (ns:=[x]) (fun n h=>by simp only[mC,a63,or_false]at h;omega) (by simp)
 rw[show asI [x]=[(x:Int)]from rfl]at this;rw[this];simp only[a59,a80,a03]
theorem b1w{l:List Mk}(h:∀m∈l,MkOk m)(t:l.length<50000):a3X l=some (a8u l,0):=by
 have x:=a7K (n:=l.length) (by omega);have e:=a8t l 0 0 h (by omega) (by omega);have g:(a5E l).length≤3+9*l.length:=by rw[a5E,lN];omega
 obtain⟨c,u,w⟩:=a6O (l:=a5E l) (by omega);have b:wrap .u64 (a1j (a5E l))=(((a1j (a5E l)).toNat:Nat):Int):=by
  have:=a3v (n:=(a1j (a5E l)).toNat) (by omega)
  rwa [show(((a1j (a5E l)).toNat:Nat):Int)=a1j (a5E l)by omega]at this⊢
 have b2:=a6n (n:=(a1j (a5E l)).toNat) (k:=4) (by omega) (by omega);rw[show((4:Nat):Int)=4 from rfl]at b2;have a:=b4g l [] l 0 0 (a0G l.length) rfl h (by omega) (by omega) (by omega) (by omega);unfold a3X;refine a0D (v:=.inl (l,())) ?_ ?_
 refine a0E (f:=a3S) (fun i=>(l,l,((l.length:Nat):Int),(i:Int),())) l.length (fun i hi=>?_) ?_
 unfold a3S;simp only;obtain⟨j,o,p,q,r,s⟩:=h l[i] (a17 hi);rw[decide_eq_true (show(i:Int)<((l.length:Nat):Int)by omega),a0F hi];simp only[cT,oB,a3R];rw[decide_eq_false (show ¬ (l[i]).1<0 by omega),decide_eq_false (show ¬ (l[i]).1≥4 by omega),decide_eq_true (show(l[i]).2.1≥0 by omega),decide_eq_true (show(l[i]).2.1≤1125899906842624 by omega),decide_eq_true (show(l[i]).2.2.1≥0 by omega),decide_eq_true (show(l[i]).2.2.1≤2147483647 by omega)];simp only[cT,cF,oB,bT];rw[w64 (by omega)];rfl;unfold a3S;simp only;rw[decide_eq_false (by omega)];rfl;simp only;rw[a3v (by omega),b6F (by omega)];simp only[oB];refine a0D a ?_
 simp only;rw[show a0G l.length++a7i 0 0 l=a5E l from rfl];simp only[c,oB,b,b2,a1d];rw[a0C (by omega)];rfl
def a4a(l:List Int):List Int:=l.flatMap fun c=>[wrap .u8 (96+E0j .u8 c 4),wrap .u8 (96+bits .u8 .and c 15)]
theorem a7j(l:List Int):(a4a l).length=2*l.length:=by
 induction l with
 |nil=>rfl
 |cons a l ih=>
  have e:a4a (a::l)=[_,_]++a4a l:=rfl;rw[e,lN,ih,lC];simp only[lC,a06];omega
def a5t(l:List Mk):List Int:=a4a (a8u l)++(a1h (2*(a8u l).length) 4++[75,69,78,68])
theorem b1x{l:List Mk}(h:∀m∈l,MkOk m)(f:l.length<50000):(a8u l).length≤7+9*l.length:=by
 have a:=a7K (n:=l.length) (by omega);have g:=a8t l 0 0 h (by omega) (by omega);rw[a8u,lN,a1d,a5E,lN];omega
theorem b5N(h:∀p∈l,PgOk p∧a5r p)(q:l.length<50000)(c:∀m∈l.flatMap a1g,MkOk m):a3Y l=some (a5t (l.flatMap a1g),0):=by
 have r:=a6A l;have o:=b1x c (by omega);unfold a3Y;rw[b7j h (by omega)];simp only[oB];rw[b1w c (by omega)];simp only[oB,bne_self_eq_false,cF];unfold a5t;generalize a8u (l.flatMap a1g)=b at o;have g:=a7j b
 have:=a0E (f:=a3T) (fun i=>(((b.length:Nat):Int),(i:Int),a4a (b.take i),b,())) b.length (b:=(a4a b,())) (fun i hi=>?_) ?_
 refine a0D this ?_
 simp only;have e:wrap .u64 (((a4a b).length:Nat):Int)=((2*b.length:Nat):Int):=by rw[g];exact a3v (by omega)
 have b2:=a6n (n:=2*b.length) (k:=4) (by omega) (by omega);rw[show((4:Nat):Int)=4 from rfl]at b2;rw[e,b2];simp only[oB,a1d,g,a16,lN];rw[a0C (by omega),a0C (by omega)];simp only[cT,aA];unfold a3T;simp only;have e:a4a (b.take (i+1))=a4a (b.take i)++[wrap .u8 (96+E0j .u8 b[i] 4),wrap .u8 (96+bits .u8 .and b[i] 15)]:=by
  unfold a4a;rw[a04 hi,a69,a71]
 have j:a36 b (a23 (i:Int)) 0=b[i]:=by rw[tN,lD,lG hi];rfl
 have a:=a7j (b.take i);rw[a01]at a;rw[decide_eq_true (show(i:Int)<((b.length:Nat):Int)by omega),decide_eq_true (show(0:Int)≤(i:Int)by omega),j,a0C (by omega),e,w64 (by omega)];rfl;unfold a3T;simp only;rw[decide_eq_false (by omega),a20];rfl
def a1S(i:Inf):List Int:=
 (a0G i.1.toNat++(a0G i.2.1.1.toNat++a0G i.2.1.2.1.toNat))++(bif i.1==1 then(a0G i.2.2.1.1.toNat++(a0G i.2.2.1.2.1.toNat++a0G i.2.2.1.2.2.1.toNat))
  else(a0G i.2.2.2.1.toNat++(a0G i.2.2.2.2.1.toNat++(a0G i.2.2.2.2.2.1.toNat++a0G i.2.2.2.2.2.2.1.toNat))))
def a0W(a:List Inf):List Int:=[75,73,78,79,82,65]++(a0G a.length++a.flatMap a1S)
def a0T(a:List Inf):List Int:=a0W a++a1h (a1j (a0W a)).toNat 4
theorem b8R{x y w:Nat}(f:x<1000000)(a:y<1000000)(b:z<1000000)(g:w<1000000):a1E [(x:Int),(y:Int),(z:Int),(w:Int)]=some (a0G x++(a0G y++(a0G z++a0G w))):=by
 have:=a5s (ns:=[x,y,z,w]) (fun n h=>by simp only[mC,a63,or_false]at h;omega) (by simp)
 rw[show asI [x,y,z,w]=[(x:Int),(y:Int),(z:Int),(w:Int)]from rfl]at this;rw[this];simp only[a59,a80,a03]
theorem b3p{x y:Nat}(g:x<2000000)(f:y<2000000)(a:z<2000000):a1E [(x:Int),(y:Int),(z:Int)]=some (a0G x++(a0G y++a0G z)):=by
 have:=a5s (ns:=[x,y,z]) (fun n h=>by simp only[mC,a63,or_false]at h;omega) (by simp)
 rw[show asI [x,y,z]=[(x:Int),(y:Int),(z:Int)]from rfl]at this;rw[this];simp only[a59,a80,a03]
theorem a1e(h:n<2000000):(a0G n).length≤3:=(a7h 2 n (by omega)).2
theorem wuI{z:Int}(h:0≤z)(g:z<2000000):wrap .u64 z=((z.toNat:Nat):Int):=by
 have:=a3v (n:=z.toNat) (by omega)
 rwa [show((z.toNat:Nat):Int)=z by omega]at this⊢
theorem b1y{i:Inf}(h:InfOk i):(a1S i).length≤21:=by
 cases h with
 |sound n d r c b hn hd hr hc hb=>
  have g:=a1e (n:=(1:Int).toNat) (by decide);have f:=a1e (n:=n.toNat) (by omega);have a:=a1e (n:=d.toNat) (by omega);have j:=a1e (n:=r.toNat) (by omega);have l:=a1e (n:=c.toNat) (by omega);have m:=a1e (n:=b.toNat) (by omega);unfold a1S;simp only[beq_self_eq_true,cT,lN];omega
 |images n d w h e p hn hd hw hh he hp=>
  have g:=a1e (n:=(2:Int).toNat) (by decide);have f:=a1e (n:=n.toNat) (by omega);have a:=a1e (n:=d.toNat) (by omega);have j:=a1e (n:=w.toNat) (by omega);have l:=a1e (n:=h.toNat) (by omega);have m:=a1e (n:=e.toNat) (by omega);have o:=a1e (n:=p.toNat) (by omega);unfold a1S;rw[show((2:Int)==1)=false by decide];simp only[cF,lN];omega
theorem b4h{n:Int}{k:Nat}{out:List Int}(j:k<a.length)(f:n=((a.length:Nat):Int))(hi:InfOk a[k])(v:out.length<100000)(u:a.length<1000):
  a2X (a,n,(k:Int),out,())=some (.inl (a,n,((k+1:Nat):Int),out++a1S a[k],())):=by
 unfold a2X;simp only;rw[decide_eq_true (show(k:Int)<n by omega),a0F j,w64 (n:=(k:Int)+1) (by omega)];simp only[cT,oB];generalize a[k]=i at hi;cases hi with
 |sound n d r c b f hd hr hc hb=>
  have l:=a1e (n:=(1:Int).toNat) (by decide);have m:=a1e (n:=n.toNat) (by omega);have o:=a1e (n:=d.toNat) (by omega);have q:=a1e (n:=r.toNat) (by omega);have s:=a1e (n:=c.toNat) (by omega);have t:=a1e (n:=b.toNat) (by omega);simp only;rw[wuI (z:=1) (by decide) (by decide),wuI (z:=n) (by omega) (by omega),wuI (z:=d) (by omega) (by omega),wuI (z:=r) (by omega) (by omega),wuI (z:=c) (by omega) (by omega),wuI (z:=b) (by omega) (by omega)];rw[b3p (by decide) (by omega) (by omega),b3p (by omega) (by omega) (by omega)];simp only[oB,beq_self_eq_true,cT,a16,lN];rw[a0C (by omega),a0C (by omega)];simp only[cT,a1S,beq_self_eq_true,aA];rfl
 |images n d w h e p f hd hw hh he hp=>
  have l:=a1e (n:=(2:Int).toNat) (by decide);have m:=a1e (n:=n.toNat) (by omega);have o:=a1e (n:=d.toNat) (by omega);have q:=a1e (n:=w.toNat) (by omega);have s:=a1e (n:=h.toNat) (by omega);have t:=a1e (n:=e.toNat) (by omega);have x:=a1e (n:=p.toNat) (by omega);simp only;rw[wuI (z:=2) (by decide) (by decide),wuI (z:=n) (by omega) (by omega),wuI (z:=d) (by omega) (by omega),wuI (z:=w) (by omega) (by omega),wuI (z:=h) (by omega) (by omega),wuI (z:=e) (by omega) (by omega),wuI (z:=p) (by omega) (by omega)];rw[b3p (by decide) (by omega) (by omega),b8R (by omega) (by omega) (by omega) (by omega)];have g:((2:Int)==1)=false:=by decide
  simp only[oB,g,cF,cT,a16,lN];rw[a0C (by omega),a0C (by omega)];simp only[cT,cF,a1S,g,aA];rfl
theorem a6q:∀(a:List Inf),(∀i∈a,InfOk i)→(a.flatMap a1S).length≤21*a.length
 | [],_=>by simp
 |i::a,h=>by
  have f:=b1y (h i (by simp));have b:=a6q a fun j g=>h j (by simp[g]);rw[a59,lN,lC];omega
theorem b2M(h:∀i∈a,InfOk i)(q:a.length≤4):a3f a=some (a0T a):=by
 have u:=a1e (n:=a.length) (by omega);have r:=a6q a h;have c:(a0W a).length≤93:=by
  simp only[a0W,lN,lC,a06];omega
 obtain⟨o,s,t⟩:=a6O (l:=a0W a) (by omega);have m:wrap .u64 (a1j (a0W a))=(((a1j (a0W a)).toNat:Nat):Int):=by
  have:=a3v (n:=(a1j (a0W a)).toNat) (by omega)
  rwa [show(((a1j (a0W a)).toNat:Nat):Int)=a1j (a0W a)by omega]at this⊢
 have b2:=a6n (n:=(a1j (a0W a)).toNat) (k:=4) (by omega) (by omega);rw[show((4:Nat):Int)=4 from rfl]at b2;unfold a3f;rw[a3v (by omega),b6F (by omega)];simp only[oB];rw[a0C (by omega)];simp only[cT]
 have:=a0E (f:=a2X) (fun k=>(a,((a.length:Nat):Int),(k:Int),[75,73,78,79,82,65]++(a0G a.length++(a.take k).flatMap a1S),())) a.length (b:=(a0W a,())) (fun k g=>?_) ?_
 rw[a57,a80,a03]at this;refine a0D this ?_
 simp only[o,oB,m,b2,a1d];rw[a0C (by omega)];rfl;have hi:=a6q (a.take k) fun j e=>h j (a09 e);rw[a01]at hi;have p:=b4h (a:=a) (n:=((a.length:Nat):Int)) (k:=k) (out:=[75,73,78,79,82,65]++(a0G a.length++(a.take k).flatMap a1S)) g rfl (h _ (a17 g)) (by simp only[lN,lC,a06];omega) (by omega);rw[p,a04 g,a69,a71];simp only[aA];unfold a2X;simp only;rw[decide_eq_false (by omega),a20];rfl
theorem wI{z:Int}(h:0≤z)(g:z<2000000):wrap .i64 ((z.toNat:Nat):Int)=z:=by rw[w64 (by omega)];omega
theorem a5F{z:Int}(g:0≤z)(f:z<2000000)(a:z≤most){P:List Int}(h:(P++(a0G z.toNat++R)).length<1000000):
  a0I (rdr P (a0G z.toNat++R),most)=some (((z.toNat:Nat):Int),rdr (P++a0G z.toNat) R):=b4e (by omega) (by omega) h
theorem b5O{i:Inf}(h:InfOk i){P:List Int}(g:(P++(a1S i++R)).length<900000):a4X (rdr P (a1S i++R))=some (i,rdr (P++a1S i) R):=by
 have a:=b1y h;simp only[lN]at g;cases h with
 |sound n d r c b hn hd hr hc hb=>
  have l:=a1e (n:=(1:Int).toNat) (by decide);have m:=a1e (n:=n.toNat) (by omega);have o:=a1e (n:=d.toNat) (by omega);have q:=a1e (n:=r.toNat) (by omega);have s:=a1e (n:=c.toNat) (by omega);have t:=a1e (n:=b.toNat) (by omega);have e:a1S (1,(n,d,()),(r,c,b,()),0,0,0,0,())=a0G (1:Int).toNat++(a0G n.toNat++(a0G d.toNat++(a0G r.toNat++(a0G c.toNat++a0G b.toNat)))):=by
   unfold a1S;simp only[beq_self_eq_true,cT,aA]
  rw[e]at g⊢;simp only[lN]at g;simp only[aA];unfold a4X;rw[a5F (z:=1) (by decide) (by decide) (by decide) (by simp only[lN];omega)];simp only[oB];rw[a5F (z:=n) (by omega) (by omega) (by omega) (by simp only[lN];omega)];simp only[oB];rw[a5F (z:=d) (by omega) (by omega) (by omega) (by simp only[lN];omega)];simp only[oB];rw[wI (z:=1) (by decide) (by decide)];simp only[beq_self_eq_true,cT];rw[a5F (z:=r) (by omega) (by omega) (by omega) (by simp only[lN];omega)];simp only[oB];rw[a5F (z:=c) (by omega) (by omega) (by omega) (by simp only[lN];omega)];simp only[oB];rw[a5F (z:=b) (by omega) (by omega) (by omega) (by simp only[lN];omega)];simp only[oB];rw[wI (z:=n) (by omega) (by omega),wI (z:=d) (by omega) (by omega),wI (z:=r) (by omega) (by omega),wI (z:=c) (by omega) (by omega),wI (z:=b) (by omega) (by omega)];simp only[aA]
 |images n d w h e p hn hd hw hh he hp=>
  have l:=a1e (n:=(2:Int).toNat) (by decide);have m:=a1e (n:=n.toNat) (by omega);have o:=a1e (n:=d.toNat) (by omega);have q:=a1e (n:=w.toNat) (by omega);have s:=a1e (n:=h.toNat) (by omega);have t:=a1e (n:=e.toNat) (by omega);have u:=a1e (n:=p.toNat) (by omega);have f:((2:Int)==1)=false:=by decide
  have j:a1S (2,(n,d,()),(0,0,0,()),w,h,e,p,())=a0G (2:Int).toNat++(a0G n.toNat++(a0G d.toNat++(a0G w.toNat++(a0G h.toNat++(a0G e.toNat++a0G p.toNat))))):=by
   unfold a1S;simp only[f,cF,aA]
  rw[j]at g⊢;simp only[lN]at g;simp only[aA];unfold a4X;rw[a5F (z:=2) (by decide) (by decide) (by decide) (by simp only[lN];omega)];simp only[oB];rw[a5F (z:=n) (by omega) (by omega) (by omega) (by simp only[lN];omega)];simp only[oB];rw[a5F (z:=d) (by omega) (by omega) (by omega) (by simp only[lN];omega)];simp only[oB];rw[wI (z:=2) (by decide) (by decide)];simp only[f,cF];rw[a5F (z:=w) (by omega) (by omega) (by omega) (by simp only[lN];omega)];simp only[oB];rw[a5F (z:=h) (by omega) (by omega) (by omega) (by simp only[lN];omega)];simp only[oB];rw[a5F (z:=e) (by omega) (by omega) (by omega) (by simp only[lN];omega)];simp only[oB];rw[a5F (z:=p) (by omega) (by omega) (by omega) (by simp only[lN];omega)];simp only[oB];rw[wI (z:=n) (by omega) (by omega),wI (z:=d) (by omega) (by omega),wI (z:=w) (by omega) (by omega),wI (z:=h) (by omega) (by omega),wI (z:=e) (by omega) (by omega),wI (z:=p) (by omega) (by omega)];simp only[aA]
theorem a8X{x:List Int}:∀(rest:List Inf)(out:List Inf)(P R:List Int),(∀i∈rest,InfOk i)→(P++(rest.flatMap a1S++R)).length<800000→out.length+rest.length<100→
  y0h a3I (x,((rest.length:Nat):Int),out,rdr P (rest.flatMap a1S++R),())=some (x,out++rest,rdr (P++rest.flatMap a1S) R,())
 | [],out,P,R,_,_,_=>by
  refine a0V ?_
  unfold a3I;simp only;rw[decide_eq_false (by simp)];simp only[cF,a03,a80,a05]
 |i::rest,out,P,R,h,hl,ho=>by
  rw[a59]at hl⊢;rw[lC]at ho;have g:=hl;simp only[lN]at g;have step:a3I (x,(((i::rest).length:Nat):Int),out,rdr P ((a1S i++rest.flatMap a1S)++R),())=some (.inl (x,((rest.length:Nat):Int),out++[i],rdr (P++a1S i) (rest.flatMap a1S++R),())):=by
   unfold a3I;simp only;rw[decide_eq_true (show(((i::rest).length:Nat):Int) > 0 by simp only[lC];omega),aA,b5O (h i (by simp)) (by simp only[lN];omega)];simp only[cT,oB];have w:wrap .u64 ((((i::rest).length:Nat):Int)-1)=((rest.length:Nat):Int):=by
    rw[show(((i::rest).length:Nat):Int)-1=((rest.length:Nat):Int)by simp only[lC];omega];exact a3v (by omega)
   rw[a0C (by omega),w];rfl
  rw[a1t step,a8X rest (out++[i]) (P++a1S i) R (fun j f=>h j (by simp[f])) (by simp only[lN];omega) (by simp only[lN,a08];omega)];simp only[aA,a49]
theorem b5P{r:List Int×(Int×Int×Unit)}(h:∀i∈a,InfOk i)(b:a.length<1000):y0h a3J (x,((a.length:Nat):Int),(0:Int),a,r,())=some (.inl (x,a,r,())):=by
 refine a0E (f:=a3J) (fun i=>(x,((a.length:Nat):Int),(i:Int),a,r,())) a.length (fun i hi=>?_) ?_
 unfold a3J;simp only;have g:∀z,a36 a (a23 (i:Int)) z=a[i]:=fun z=>by rw[tN,lD,lG hi];rfl
 rw[decide_eq_true (show(i:Int)<((a.length:Nat):Int)by omega),decide_eq_true (show(0:Int)≤(i:Int)by omega),g,b3Z (h _ (a17 hi))];simp only[cT,a07,oB,bT,cF];rw[w64 (by omega)];rfl;unfold a3J;simp only;rw[decide_eq_false (by omega)];rfl
theorem b1z(h:∀i∈a,InfOk i)(v:1≤a.length)(w:a.length≤4)(z:R.length<500000):a1W (a0T a++R)=some (a,(((a0T a).length:Nat):Int),0):=by
 have E:=a1e (n:=a.length) (by omega);have B:=a6q a h;have y:(a0W a).length=6+((a0G a.length).length+(a.flatMap a1S).length):=by
  simp only[a0W,lN,lC,a06]
 have f:(a0T a).length=(a0W a).length+4:=by rw[a0T,lN,a1d]
 obtain⟨t,C,D⟩:=a6O (l:=a0W a) (by omega);have e:a0T a++R=[75,73,78,79,82,65]++(a0G a.length++(a.flatMap a1S++(a1h (a1j (a0W a)).toNat 4++R))):=by
  simp only[a0T,a0W,aA]
 have b:(a0T a++R).length=(a0W a).length+4+R.length:=by rw[lN,f]
 unfold a1W;rw[b,decide_eq_false (show ¬ (((a0W a).length+4+R.length:Nat):Int)<6 by omega),decide_eq_true (show(6:Int)≤(((a0W a).length+4+R.length:Nat):Int)by omega)];have p:a38 6 (a0T a++R)=[75,73,78,79,82,65]:=by rw[e];rfl
 have m:(b2s ([75,73,78,79,82,65]:List Int) != ([75,73,78,79,82,65]:List Int))=false:=by decide
 rw[p,m,a8V (by omega)];simp only[cF,cT,oB];rw[e];have c:=b2J (P:=[]) (A:=[75,73,78,79,82,65]) (R:=a0G a.length++(a.flatMap a1S++(a1h (a1j (a0W a)).toNat 4++R))) (by rw[a05,←e,b];omega);rw[show((([75,73,78,79,82,65]:List Int).length:Nat):Int)=6 from rfl]at c;rw[c];simp only[oB];rw[b4e (n:=a.length) (by omega) (by omega) (by simp only[lN,a1d,lC,a06];omega)];simp only[oB];have s:=a8X (x:=[75,73,78,79,82,65]++(a0G a.length++(a.flatMap a1S++(a1h (a1j (a0W a)).toNat 4++R)))) a [] ([]++[75,73,78,79,82,65]++a0G a.length) (a1h (a1j (a0W a)).toNat 4++R) h (by simp only[lN,a1d,lC,a06];omega) (by simp only[a06];omega);refine a0D s ?_
 have o:[]++[75,73,78,79,82,65]++a0G a.length++a.flatMap a1S=a0W a:=by simp only[a0W,aA,a05]
 rw[o];simp only[a05,a2p,rdr,oB,bne_self_eq_false,cF];have q:(((a.length:Nat):Int)==0)=false:=by rw[beq_eq_false_iff_ne];omega
 rw[q];simp only[cF];refine a0D (b5P h (by omega)) ?_
 simp only[a1N,a3x,oB];have g:=a8s (P:=a0W a) (R:=R) (n:=(a1j (a0W a)).toNat) (k:=4) (by omega) (by rw[show 256^4=4294967296 by decide];omega) (by simp only[lN,a1d];omega);simp only[rdr]at g;rw[show((4:Nat):Int)=4 from rfl]at g;have r:wrap .u64 (a1j (a0W a))=(((a1j (a0W a)).toNat:Nat):Int):=by
  have:=a3v (n:=(a1j (a0W a)).toNat) (by omega)
  rwa [show(((a1j (a0W a)).toNat:Nat):Int)=a1j (a0W a)by omega]at this⊢
 have u:wrap .i64 (((a0W a++(a1h (a1j (a0W a)).toNat 4++R)).length:Int)-(((a0W a).length:Nat):Int))=((4+R.length:Nat):Int):=by
  rw[w64 (by simp only[lN,a1d];omega)];simp only[lN,a1d];omega
 have j:[75,73,78,79,82,65]++(a0G a.length++(a.flatMap a1S++(a1h (a1j (a0W a)).toNat 4++R)))=a0W a++(a1h (a1j (a0W a)).toNat 4++R):=by simp only[a0W,aA]
 rw[u,j,decide_eq_false (show ¬ ((4+R.length:Nat):Int)<4 by omega),decide_eq_true (show(0:Int)≤(((a0W a).length:Nat):Int)by omega),decide_eq_true (show(((a0W a).length:Nat):Int)≤(((a0W a++(a1h (a1j (a0W a)).toNat 4++R)).length:Nat):Int)by simp only[lN];omega),tN,b64];simp only[cF,cT,a07,t,oB,g,r,bne_self_eq_false];rw[lN,a1d,f]
structure Drawn (n:Nat) (a:List Inf) (L:List (List Pk)):Prop where
 len:a.length=L.length
 inf:∀i∈a,InfOk i
 str:StrOk n L
structure Woven (Z:List Pk):Prop where
 pk:∀p∈Z,a5Z p
 len:Z.length≤32
 asc:Asc Z
def a0H(Z:List Pk):List Pge:=a0O 0 (Z.map a0N)
theorem b1A(h:Woven Z):∀b∈Z.map a0N,b.length≤918:=by
 intro b g;obtain⟨p,hp,rfl⟩:=b51.1 g;obtain⟨s,f,_⟩:=h.pk p hp
 have:=f.dat
 rw[a4v];omega
theorem a3O(h:Woven Z):(a0H Z).length≤29376:=by
 have:=a8R (Z.map a0N) 0 918 (b1A h)
 rw[a44]at this;have g:=h.len;unfold a0H;omega
theorem a6r(h:Woven Z):∀(i:Nat)(p:Pge),(a0H Z)[i]?=some p→p.1=(i:Int)∧PgPlain p:=by
 intro i p hp;have f:=h.len
 have:=a9M (Z.map a0N) 0 (fun b g=>Nat.le_trans (b1A h b g) (by decide)) (by rw[a44];omega) i p hp
 rw[a68]at this;exact this
theorem a4Y(h:Woven Z):∀p∈a0H Z,PgPlain p:=by
 intro p hp;obtain⟨i,hi⟩:=a40 hp;exact(a6r h i p hi).2
theorem b4i(h:Woven Z):b3n (a0H Z):=fun i p hp=>(a6r h i p hp).1
theorem a7k(h:Woven Z):∀p∈a0H Z,a5r p:=a8j Z 0 h.pk
theorem b4j(h:Woven Z):∀p∈a0H Z,0≤p.1∧p.1≤50000:=by
 intro p hp;obtain⟨i,hi⟩:=a40 hp;have g:=(a6r h i p hi).1;have f:=(lS.1 hi).1;have a:=a3O h;omega
theorem b5c(i:∀p∈P,a5r p)(j:∀p∈P,0≤p.1∧p.1≤50000):∀m∈P.flatMap a1g,MkOk m:=by
 intro m h;obtain⟨p,hp,h⟩:=b56.1 h
 by_cases f:p.2.1=true
 ·by_cases g:p.2.2.2.1=true
  rw[a6p g]at h;cases h
  ·have g:p.2.2.2.1=false:=by simpa using g
   obtain⟨q,⟨s,a,b,c⟩,e,_⟩:=i p hp f g;rw[a6I f g ⟨s,a,b,c⟩ e]at h;cases hk:q.2.2.2.1 with
   |false=>rw[hk]at h;cases h
   |true=>
    rw[hk]at h;have h:=a13.1 (show m∈[(q.1,q.2.1,p.1,())]from h);subst h;obtain⟨l,n⟩:=j p hp;exact⟨by rw[a.st];exact b,by rw[a.st];exact c,a.at0,a.at1,l,n⟩
 have f:p.2.1=false:=by simpa using f
 have e:a1g p=[]:=by unfold a1g;rw[f];rfl
 rw[e]at h;cases h
def a6S(Z:List Pk):List Int:=a0R (a0J (a0H Z))
def a7W(a:List Inf)(Z:List Pk):List Int:=a0T a++(a6S Z++a5t ((a0H Z).flatMap a1g))
theorem b1B(h:Woven Z):a3G (a0H Z)=some (a0J (a0H Z),0):=b4b (a4Y h) (b4i h) (by have:=a3O h;omega)
theorem a8Y(h:Woven Z):∀q∈a0J (a0H Z),PgOk q:=a8U _ _ (a11 _) (a4Y h)
theorem b1C(h:Woven Z):(a0J (a0H Z)).length≤58752:=by
 have:=a5q _ _ (a11 (a0H Z).length)
 have:=a3O h
 omega
theorem b1D:∀(n:Nat)(f:Bool)(s:Nat)(r:List Int),r.length≤252*n→(a1D f s r).length≤n
 |0,f,s,r,h=>by
  have:r=[]:=a37.1 (by omega)
  subst this;rw[a2k];exact a11 _
 |n+1,f,s,r,h=>by
  by_cases hr:r=[]
  subst hr;rw[a2k];exact Nat.zero_le _;rw[a2w hr,lC]
  have:=b1D n false (s+1) (r.drop 252) (by rw[a00];omega)
  omega
theorem a8Z:∀(bs:List (List Int)) (s:Nat),(∀b∈bs,b.length≤918)→(a0O s bs).length≤4*bs.length
 | [],s,_=>by simp[a0O]
 |b::bs,s,h=>by
  have f:=b1D 4 true s b (by have:=h b (by simp);omega);have a:=a8Z bs (s+(a1D true s b).length) fun c g=>h c (by simp[g]);rw[a0O,lN,lC];omega
theorem a7L(h:Woven Z):(a0H Z).length≤128:=by
 have:=a8Z (Z.map a0N) 0 (b1A h)
 rw[a44]at this
 have:=h.len
 unfold a0H;omega
theorem a8v(h:Woven Z):(a6S Z).length≤68352:=by
 have g:=a6d _ (a8Y h);have f:=a5q _ _ (a11 (a0H Z).length);have a:=a7L h;unfold a6S;omega
theorem b5Q(h:Woven Z):∀q∈a0J (a0H Z),a5r q:=a8i _ _ (a11 _) (a4Y h) (a7k h)
theorem b5d(h:Woven Z):(a0J (a0H Z)).flatMap a1g=(a0H Z).flatMap a1g:=a7J _ _ (a11 _) (a4Y h)
theorem a8w(h:Woven Z):∀m∈(a0H Z).flatMap a1g,MkOk m:=b5c (a7k h) (b4j h)
theorem b4k(h:Woven Z):((a0H Z).flatMap a1g).length≤128:=Nat.le_trans (a6A _) (a7L h)
theorem b3q(h:Woven Z):a3Y (a0J (a0H Z))=some (a5t ((a0H Z).flatMap a1g),0):=by
 have e:=b5d h;rw[←e];refine b5N (fun p hp=>⟨a8Y h p hp,b5Q h p hp⟩) ?_ ?_
 have:=a5q _ _ (a11 (a0H Z).length)
 have:=a7L h
 omega;rw[e];exact a8w h
theorem a8x(h:Woven Z):(a5t ((a0H Z).flatMap a1g)).length≤2400:=by
 have g:=b1x (a8w h) (by have:=b4k h;omega);have f:=b4k h;rw[a5t,lN,a7j,lN,a1d];simp only[lC,a06];omega
theorem Drawn.weave(h:Drawn n a L)(f:n≤8):∃Z,a3t L=some (Z,0)∧Woven Z∧Stb L.flatten Z:=by
 obtain⟨Z,b,c,g⟩:=b4W h.str f;refine⟨Z,b,⟨fun p hp=>?_,?_,c⟩,g⟩;have hp:=(g.perm.mem_iff).1 hp;obtain⟨l,e,hp⟩:=b25.1 hp;obtain⟨i,hi⟩:=a40 e
 have:=(lS.1 hi).1
 have:=h.str.four
 exact⟨(i:Int),(h.str.ok i l hi).ok p hp,by omega,by omega⟩;rw[g.perm.length_eq]
 have:=a7f h.str.lens
 have:=h.str.four
 have:n*L.length≤8*4:=b33 f this
 omega
theorem b4l(h:∀i∈a,InfOk i)(g:a.length≤4):(a0T a).length≤200:=by
 have b:=a1e (n:=a.length) (by omega);have f:=a6q a h;rw[a0T,lN,a1d,a0W,lN,lN];simp only[lC,a06];omega
theorem a8l(h:Woven Z):a3E (Z,0)=some (a0H Z,0):=b4X h.pk (by have:=h.len;omega)
theorem b4m(h:∀i∈a,InfOk i)(g:a.length<1000):y0h a3n (a,L,a,((a.length:Nat):Int),(0:Int),())=some (.inl (a,L,())):=by
 have:=a0E (f:=a3n) (fun i=>(a,L,a,((a.length:Nat):Int),(i:Int),())) a.length (b:=.inl (a,L,())) (fun i hi=>?_) ?_
 exact this;unfold a3n;simp only;rw[decide_eq_true (show(i:Int)<((a.length:Nat):Int)by omega),a0F hi];simp only[cT,oB,b3Z (h _ (a17 hi)),bT,cF];rw[w64 (by omega)];rfl;unfold a3n;simp only;rw[decide_eq_false (by omega)];rfl
theorem Drawn.write(h:Drawn n a L)(e:a3t L=some (Z,0))(g:Woven Z):a2o (a,L)=some (a7W a Z,0):=by
 have j:=h.str.one;have l:=h.str.four;have c:=h.len;have b1:=a8v g;have b2:=a8x g;have i:=b4l h.inf (by omega);have f:a3H (a0J (a0H Z))=some (a6S Z,0):=a9N (a8Y g) (by have:=b1C g;omega);unfold a2o;simp only;have b:(((L.length:Nat):Int) != ((a.length:Nat):Int))=false:=by rw[c,bne_self_eq_false]
 rw[decide_eq_false (show ¬ ((a.length:Nat):Int)<1 by omega),decide_eq_false (show ¬ ((a.length:Nat):Int) > 4 by omega),b];simp only[cF,oB];refine a0D (b4m h.inf (by omega)) ?_
 simp only[e,oB,bne_self_eq_false,cF,a8l g,b1B g,f,b3q g,b2M h.inf (by omega),a16,lN];rw[a0C (by omega),a0C (by omega)];simp only[cT,a7W,aA]
def pgF(p:Pge):Int:=bits .u8 .or (bits .u8 .or (bif p.2.1 then 1 else 0) (bif p.2.2.1 then 2 else 0)) (bif p.2.2.2.1 then 4 else 0)
theorem b2N(p:Pge):pgF p=(bif p.2.1 then 1 else 0)+((bif p.2.2.1 then 2 else 0)+(bif p.2.2.2.1 then 4 else 0)):=by
 unfold pgF;cases p.2.1<;>cases p.2.2.1<;>cases p.2.2.2.1<;>decide
theorem b5e(p:Pge):0≤pgF p∧pgF p≤7∧((bits .u64 .and (pgF p) 1) != 0)=p.2.1∧((bits .u64 .and (pgF p) 2) != 0)=p.2.2.1∧((bits .u64 .and (pgF p) 4) != 0)=p.2.2.2.1:=by
 rw[b2N];cases p.2.1<;>cases p.2.2.1<;>cases p.2.2.2.1<;>decide
theorem b6G(p:Pge):pgB p=[75,80]++(([pgF p]++(a1h p.1.toNat 4++[wrap .u8 ((p.2.2.2.2.1.length:Nat):Int)]))++(p.2.2.2.2.1++a1h (a1j (pgH p)).toNat 4)):=by
 simp only[pgB,pgH,pgF,aA,a29,a05]
theorem b7k(h:o≤64):E0j .i64 (N:Int) (o:Int)=((N / 2^o:Nat):Int):=by
 have e:min (o:Int).toNat IntKind.i64.bits=o:=by rw[tN];show min o 64=o;omega
 unfold E0j;rw[e,b17 _ (by exact Int.le_of_lt (Int.pow_pos (by decide)))];rw[Int.natCast_ediv,b60];rfl
theorem a7M:∀{l:List Int},(∀b∈l,0≤b∧b<256)→b2s l=l
 | [],_=>rfl
 |a::l,h=>by
  have c:=h a (by simp);have g:=a7M (l:=l) fun b f=>h b (by simp[f]);show((a.toNat%256:Nat):Int)::b2s l=a::l;rw[g];congr 1;omega
theorem b7l(n:Nat):wrap .u8 (n:Int)=((n%256:Nat):Int):=by
 simp only[wrap,IntKind.bits,IntKind.signed]
 simp
theorem b2y{l:List Int}:∀b∈a4a l,0≤b∧b<256:=by
 intro b h;obtain⟨c,_,h⟩:=b56.1 h;simp only[mC,a63,or_false]at h;rcases h with rfl|rfl<;>exact wu8 _
def a7N:Inf:=(2,(1,1,()),(0,0,0,()),1,1,1,1,())
def pk0:Pk:=((0:Int),(5:Int),(0:Int),true,false,([(120:Int)]:List Int),())
def b3r:List Int:=((a3H ((a3G ((a3E ([pk0],0)).getD ([],0)).1).getD ([],0)).1).getD ([],0)).1
def b3s:List Int:=((a3X [((0:Int),(5:Int),(0:Int),())]).getD ([],0)).1
def b5D:List Int:=((a3f [a7N]).getD [])++(b3r++(a4a b3s++(a1h (2*b3s.length) 4++[75,69,78,68])))
theorem b1E:PkOk 0 pk0:=⟨rfl,by decide,by decide,by decide,by decide,by decide,by decide⟩
theorem b2O:∀i∈[a7N],InfOk i:=fun i hi=>by
 rw[a13]at hi;subst hi;exact .images 1 1 1 1 1 1 (by decide) (by decide) (by decide) (by decide) (by decide) (by decide)
theorem a4w:Woven [pk0]:=⟨fun p hp=>by rw[a13]at hp;subst hp;exact⟨0,b1E,by decide,by decide⟩,by decide,a51 ..⟩
theorem a9Q:(a0H [pk0]).flatMap a1g=[((0:Int),(5:Int),(0:Int),())]:=by
 have a:(a0N pk0).length=19:=by rw[a4v];rfl
 have g:(a0N pk0).drop 252=[]:=b00 (by omega);have h:a0H [pk0]=[((0:Int),true,decide ((a0N pk0).length≤252),false,(a0N pk0).take 252,())]:=by
  show a0O 0 [a0N pk0]=_;rw[a0O,a0O,a2w (a6N pk0),g,a2k];rfl
 rw[h,a71];obtain⟨q,b,f,_⟩:=a7k a4w _ (by rw[h];exact List.mem_singleton_self _) rfl rfl;rw[a6I (q:=pk0) rfl rfl ⟨0,b1E,by decide,by decide⟩ (by rw[b32];rfl)];rfl
theorem b2z:a2o ([a7N],[[pk0]])=some (b5D,0):=by
 have c:StrOk 8 [[pk0]]:=⟨by decide,by decide,fun i l h=>by
  cases i with
  |zero=>cases h;exact⟨fun p hp=>by rw[a13]at hp;subst hp;exact b1E,by decide,a51 ..⟩
  |succ i=>simp at h⟩
 have b:Drawn 8 [a7N] [[pk0]]:=⟨rfl,b2O,c⟩;have e:a3t [[pk0]]=some ([pk0],0):=by kernel_rfl
 have h:=b.write e a4w;rw[h];have g:a0T [a7N]=(a3f [a7N]).getD []:=by rw[b2M b2O (by decide)];rfl
 have f:a6S [pk0]=b3r:=by
  unfold b3r;rw[a8l a4w,a92,b1B a4w,a92,a9N (a8Y a4w) (by have:=b1C a4w;omega),a92];rfl
 have a:a8u [((0:Int),(5:Int),(0:Int),())]=b3s:=by
  unfold b3s;rw[b1w (by rw[←a9Q];exact a8w a4w) (by decide),a92]
 rw[a7W,a9Q,g,f,a5t,a];rfl
theorem a7X:a4c ()=some true:=by
 unfold a4c;rw[show a5k ()=some a7N from by kernel_rfl];simp only[oB];rw[show a2o (([a7N]:List Inf),([[((0:Int),(5:Int),(0:Int),true,false,([(120:Int)]:List Int),())]]:List (List Pk)))=some (b5D,0)from b2z]
 kernel_rfl
structure PlOk (p:Pge):Prop extends PgPlain p where
 n0:0≤p.1
 n1:p.1≤50000
structure GdOk (p:Pge):Prop extends PgOk p where
 gd:p.2.2.2.1=true
 n0:0≤p.1
 n1:p.1≤50000
 bd:∃(k:Nat)(v1 v2:Int)(sum:List Int),p.2.2.2.2.1=(k:Int)::v1::v2::sum∧1≤k∧k≤8∧1≤sum.length
def gdK(p:Pge):Nat:=(p.2.2.2.2.1.headD 0).toNat
theorem GdOk.k{p:Pge}(h:GdOk p):n0s p.2.2.2.2.1 0=some ((gdK p:Nat):Int)∧1≤gdK p∧gdK p≤8∧3<p.2.2.2.2.1.length:=by
 obtain⟨k,c,i,a,e,g,f,b⟩:=h.bd;unfold gdK;rw[e];refine⟨by show some (k:Int)=_;rw[b07,tN],by rw[b07,tN];exact g,by rw[b07,tN];exact f,by simp only[lC];omega⟩
def isG(p:Pge):Bool:=p.2.2.2.1
def a1T(l:List Pge):List Pge:=l.filter fun p=>!isG p
def a4g(l:List Pge):List Pge:=l.filter isG
def kv(l:List Pge):List (Int×Pge):=l.map fun p=>(p.1,p)
def a6f(p:Pge):Int:=if isG p then p.1+(gdK p:Int)-1 else p.1
def a7l(t:Int)(l:List Pge):Int:=l.foldl (fun t p=>y0d t (a6f p)) t
theorem b6H(h:GdOk p):a4G p=some true:=by
 obtain⟨e,g,f,a⟩:=h.k;unfold a4G;rw[h.gd,e,decide_eq_true (show((p.2.2.2.2.1.length:Nat):Int) > 3 by omega)];simp only[cT,oB];rw[decide_eq_true (show((gdK p:Nat):Int)≥1 by omega),decide_eq_true (show((gdK p:Nat):Int)≤8 by omega)];rfl
theorem a7m{k:Int}:∀{l:List Pge},(∀p∈l,p.1≠k)→g0l k (kv l)=none
 | [],_=>rfl
 |p::l,h=>by
  have g:(p.1==k)=false:=by rw[beq_eq_false_iff_ne];exact h p (by simp)
  show(bif p.1==k then some p else g0l k (kv l))=none;rw[g];exact a7m fun q f=>h q (by simp[f])
theorem b5R{a b c:Int}(h:a≤c)(g:b≤c):y0d a b≤c:=by rw[a9u];omega
theorem b2P{c:Int}:∀(l:List Pge)(t:Int),t≤c→(∀p∈l,a6f p≤c)→a7l t l≤c
 | [],_,h,_=>h
 |p::l,t,h,hp=>b2P l _ (b5R h (hp p (by simp))) fun q g=>hp q (by simp[g])
def Fit(l:List Pge):Prop:=(∀p∈l,PlOk p∨GdOk p)∧(a1T l).Pairwise fun p q=>p.1≠q.1
theorem a8y(a b:List Pge):a1T (a++b)=a1T a++a1T b:=b14 ..
theorem b5f(a b:List Pge):a4g (a++b)=a4g a++a4g b:=b14 ..
theorem a9a{l:List Pge}(b:Fit l)(u:l.length<1000000):∀(rest done:List Pge),done++rest=l→
  y0h a1k (((0:Int),a7l (-1) done,l,((l.length:Nat):Int),((done.length:Nat):Int),a4g done,a1T done,()),(0:Int),kv (a1T done))
   = some (((0:Int),a7l (-1) l,a4g l,a1T l,()),(0:Int),kv (a1T l))
 | [],done,e=>by
  rw[a03]at e;subst e;refine a0V ?_
  unfold a1k;simp only;rw[decide_eq_false (by omega)];rfl
 |p::rest,done,e=>by
  have y:=a9a b u rest (done++[p]) (by rw[←e,aA];rfl);have i:done.length+(rest.length+1)=l.length:=by rw[←e,lN,lC]
  have s:n0s l ((done.length:Nat):Int)=some p:=by
   have:done.length<l.length:=by omega
   rw[a0F this];congr 1;subst e;rw[a74 (a11 _)]
   simp
  have c:p∈l:=by rw[←e];simp
  rw[←y];have m:a7l (-1) (done++[p])=y0d (a7l (-1) done) (a6f p):=by unfold a7l;rw[a85];rfl
  have t:(a4g done).length≤done.length:=a64 ..;have x:(a1T done).length≤done.length:=a64 ..;refine a1t ?_
  unfold a1k;simp only;rw[decide_eq_true (show((done.length:Nat):Int)<((l.length:Nat):Int)by omega),s,m,b5f,a8y];have j:wrap .i64 (((done.length:Nat):Int)+1)=(((done++[p]).length:Nat):Int):=by rw[w64 (by omega),lN,a08];omega
  rcases b.1 p c with hp|hp;have h:isG p=false:=hp.ng;have g:a4g [p]=[]:=by simp[a4g,h]
  have f:a1T [p]=[p]:=by simp[a1T,h]
  have a:a6f p=p.1:=by simp[a6f,h]
  have v:g0l p.1 (kv (a1T done))=none:=by
   refine a7m fun q w=>?_
   have:=b.2
   rw[←e,a8y]at this;have r:=(a24.1 this).2.2 q w p (by simp[a1T,h]);exact r
  have n1:=hp.n1;simp only[cT,oB,a8S hp.toPgOk,bT,cF,show p.2.2.2.1=false from h,beq_self_eq_true,v,b45,b46,b20,a7I hp.toPgOk];rw[a0C (by omega),g,f,a,j,a03];simp only[cT,kv,pA,a56,b28,a16];have h:isG p=true:=hp.gd;have g:a4g [p]=[p]:=by simp[a4g,h]
  have f:a1T [p]=[]:=by simp[a1T,h]
  obtain⟨z,A,B,C⟩:=hp.k;have D:=hp.n0;have n1:=hp.n1;have a:a6f p=p.1+(gdK p:Int)-1:=by simp[a6f,h]
  have o:wrap .i64 (wrap .i64 (p.1+wrap .i64 ((gdK p:Nat):Int))-1)=p.1+(gdK p:Int)-1:=by
   rw[w64 (n:=((gdK p:Nat):Int)) (by omega),w64 (n:=p.1+((gdK p:Nat):Int)) (by omega),w64 (by omega)]
  simp only[cT,oB,a8S hp.toPgOk,bT,cF,hp.gd,b6H hp,z];rw[a0C (by omega),g,f,a,j,a03,o];rfl
def a3M(L:List (Int×Pge))(s:Int)(k:Nat):List Pge:=(a61 k).filterMap fun(j:Nat)=>g0l (s+(j:Int)) L
def a1J(L:List (Int×Pge))(s:Int)(k:Nat):List Nat:=(a61 k).filter fun(j:Nat)=>(g0l (s+(j:Int)) L).isNone
def a6T(s:Int)(l:List Nat):Int:=match l.getLast? with|some j=>s+(j:Int)|none=>0
theorem b5S{L:List (Int×Pge)}{g:Pge}(h:GdOk g):a2h 0 L (g,0)=some (a6T g.1 (a1J L g.1 (gdK g)),a3M L g.1 (gdK g),(((a1J L g.1 (gdK g)).length:Nat):Int)==1):=by
 obtain⟨e,s,t,u⟩:=h.k;have v:=h.n0;have n1:=h.n1;have m:wrap .i64 (g.1+wrap .i64 ((gdK g:Nat):Int))=g.1+((gdK g:Nat):Int):=by rw[w64 (n:=((gdK g:Nat):Int)) (by omega),w64 (by omega)]
 unfold a2h
 have:=a0E (f:=a1x 0 L) (fun i=>((0:Int),(((a1J L g.1 i).length:Nat):Int),a6T g.1 (a1J L g.1 i),g.1+(i:Int),a3M L g.1 i,g,())) (gdK g)
  (b:=((((a1J L g.1 (gdK g)).length:Nat):Int),a6T g.1 (a1J L g.1 (gdK g)),a3M L g.1 (gdK g),())) (fun i hi=>?_) ?_
 rw[show g.1+((0:Nat):Int)=g.1 by omega]at this;simp only;refine a0D this rfl
 ·unfold a1x;simp only[e,oB,m];rw[decide_eq_true (show g.1+(i:Int)<g.1+((gdK g:Nat):Int)by omega)];simp only[cT,beq_self_eq_true];have l:wrap .i64 (g.1+(i:Int)+1)=g.1+((i+1:Nat):Int):=by rw[w64 (by omega)];omega
  have p:(a1J L g.1 i).length≤i:=by
   have:=a64 (fun j=>(g0l (g.1+((j:Nat):Int)) L).isNone) (a61 i)
   rw[a75]at this;exact this
  have r:(a3M L g.1 i).length≤i:=by
   have:=List.length_filterMap_le (fun j:Nat=>g0l (g.1+(j:Int)) L) (a61 i)
   rw[a75]at this;exact this
  cases hm:g0l (g.1+(i:Int)) L with
  |some q=>
   have a:a1J L g.1 (i+1)=a1J L g.1 i:=by simp[a1J,a83,hm]
   have c:a3M L g.1 (i+1)=a3M L g.1 i++[q]:=by simp[a3M,a83,hm]
   simp only[Option.isSome_some,cT,a92];rw[a0C (by omega),a,c,l];rfl
  |none=>
   have a:a1J L g.1 (i+1)=a1J L g.1 i++[i]:=by simp[a1J,a83,hm]
   have c:a3M L g.1 (i+1)=a3M L g.1 i:=by simp[a3M,a83,hm]
   have o:a6T g.1 (a1J L g.1 i++[i])=g.1+(i:Int):=by unfold a6T;rw[List.getLast?_concat]
   simp only[b45,cF];rw[a,c,o,l,w64 (by omega),lN,a08];rfl
 unfold a1x;simp only[e,oB,m];rw[decide_eq_false (by omega)];rfl
def a1K(s:Nat)(l:List Pge):Prop:=∀(i:Nat)(p:Pge),l[i]?=some p→p.1=((s+i:Nat):Int)∧PgPlain p
theorem a1K.drop{s:Nat}{l:List Pge}(h:a1K s l)(k:Nat):a1K (s+k) (l.drop k):=fun i q g=>by
 rw[a96]at g
 have:=h (k+i) q g
 rw[show s+(k+i)=s+k+i by omega]at this;exact this
theorem a1K.take(h:a1K s l)(k:Nat):a1K s (l.take k):=fun i q g=>by
 rw[b47]at g
 by_cases hi:i<k
 rw[if_pos hi]at g;exact h i q g;rw[if_neg hi]at g;cases g
theorem a1K.plain(h:a1K s l):∀p∈l,PgPlain p:=fun p hp=>by
 obtain⟨i,hi⟩:=a40 hp;exact(h i p hi).2
theorem a1K.num(h:a1K s l):∀p∈l,(s:Int)≤p.1∧p.1<((s+l.length:Nat):Int):=fun p hp=>by
 obtain⟨i,hi⟩:=a40 hp;have g:=(h i p hi).1;have f:=(lS.1 hi).1;omega
theorem b3t(h:∀p∈l,PgPlain p):a1T l=l:=b40.2 fun p hp=>by have:isG p=false:=(h p hp).ng;rw[this];rfl
theorem b3u(h:q.2.2.2.1=true)(l:List Pge):a1T (q::l)=a1T l:=by
 have:isG q=true:=h
 simp[a1T,this]
theorem b2Q(c:a1K s g)(f:g≠[])(b:g.length≤8)(o:s≤50000):GdOk (gOf g)∧(gOf g).1=(s:Int)∧gdK (gOf g)=g.length:=by
 obtain⟨_,a,l,m,e,j,n⟩:=a8T c.plain f b;have hp:=a02.2 f;have h:(g.head f).1=(s:Int):=by
  have:=(c 0 (g.head f) (by rw[a89,lG])).1
  simpa using this
 have i:gdK (gOf g)=g.length:=by rw[e];unfold gdK;rw[b07,tN]
 refine⟨⟨⟨?_,?_,?_,?_⟩,?_,?_,?_,?_⟩,?_,i⟩;rw[e,h];omega;rw[e,h];omega;rw[e];simp only[lC];omega;rw[e];simp only[lC,cT];omega;rw[e];rw[e,h];omega;rw[e,h];omega;exact⟨g.length,l,m,a,by rw[e],hp,b,j⟩;rw[e,h]
theorem a9b:∀(n:Nat)(l:List Pge)(s:Nat),l.length≤n→a1K s l→(l≠[]→s+l.length≤50000)→
  a1T (a0J l)=l∧∀q∈a0J l,(q∈l∧PlOk q)∨(GdOk q∧(s:Int)≤q.1∧q.1+(gdK q:Int)≤((s+l.length:Nat):Int))
 |n,[],s,_,_,_=>by rw[a1L];exact⟨rfl,fun q g=>by cases g⟩
 |0,p::l,s,h,_,_=>by simp at h
 |n+1,p::l0,s,h,hf,o=>by
  have b:(p::l0)≠[]:=by simp
  generalize hL:p::l0=l at *;have m:=a02.2 b;have o:=o b;obtain⟨w,x⟩:=a9b n (l.drop 8) (s+8) (by rw[a00];omega) (hf.drop 8) (fun h=>by
   have:=a02.2 h
   rw[a00]at this⊢;omega)
  have v:l.take 8≠[]:=a02.1 (by rw[a01];omega);have c:(l.take 8).length≤8:=by rw[a01];omega
  obtain⟨e,r,i⟩:=b2Q (hf.take 8) v c (by omega);rw[a01]at i;have t:=hf.num;have hp:=hf.plain;rw[a2R b];constructor;rw[a8y,b3u e.gd,w,b3t (hf.take 8).plain,a26];intro q g;rcases mA.1 g with g|g;have f:=a09 g
  have:=t q f
  exact .inl ⟨f,hp q f,by omega,by omega⟩;rcases mC.1 g with g|g;subst g;refine .inr ⟨e,by omega,?_⟩;rw[r,i];omega;rcases x q g with⟨g,a⟩|⟨g,u,a⟩;exact .inl ⟨a19 g,a⟩;have y:(l.drop 8).length=l.length-8:=a00
  by_cases h8:8≤l.length
  exact .inr ⟨g,by omega,by omega⟩
  have:l.drop 8=[]:=b00 (by omega)
  rename_i j;rw[this,a1L]at j;cases j
theorem b3v{top:Int}(h:a1K 0 l)(a:l.length<1000000)(c:top<(l.length:Int)):a4t (l,top)=some []:=by
 unfold a4t
 have:=a0E (f:=a4m) (fun i=>(top,(i:Int),l,((l.length:Nat):Int),(i:Int),([]:List (Int×Int×Unit)),())) l.length (b:=(top,((l.length:Nat):Int),([]:List (Int×Int×Unit)),())) (fun i hi=>?_) ?_
 refine a0D this ?_
 simp only;rw[decide_eq_false (by omega)];rfl;have g:=(h i l[i] (lG hi)).1;unfold a4m;simp only;rw[decide_eq_true (show(i:Int)<((l.length:Nat):Int)by omega),a0F hi];simp only[cT,oB];rw[decide_eq_false (by omega)];simp only[cF,oB];rw[w64 (by omega),w64 (by omega)];congr 4<;>omega;unfold a4m;simp only;rw[decide_eq_false (by omega)];rfl
theorem b2A(l:List Pge):(a0J l).length≤2*l.length:=a5q _ _ (a11 _)
abbrev Jn:Type:=Int×(Bool×(List Int×(Int×Unit)))
def a6s:Jn→List Pge→List Pk→Jn→Prop
 |J,[],o,J'=>o=[]∧J'=J
 |J,p::l,o,J'=>∃o1 h J1 o2,a1y (J,p)=some (o1,h,J1)∧a6s J1 l o2 J'∧o=o1++o2
theorem a6s.app:∀{l:List Pge}{J J1 J2:Jn}{l2:List Pge}{o1 o2:List Pk},a6s J l o1 J1→a6s J1 l2 o2 J2→a6s J (l++l2) (o1++o2) J2
 | [],J,J1,J2,l2,o1,o2,h1,h2=>by obtain⟨rfl,rfl⟩:=h1;exact h2
 |p::l,J,J1,J2,l2,o1,o2,h1,h2=>by
  obtain⟨a,h,g,b,f,c,rfl⟩:=h1;exact⟨a,h,g,b++o2,f,c.app h2,by rw[aA]⟩
theorem b1F{l:List Pge}(i:l.length<1000000):∀(rest done:List Pge)(J J':Jn)(out o:List Pk),done++rest=l→a6s J rest o J'→out.length+o.length<1000000→
  y0h a3U (l,((l.length:Nat):Int),((done.length:Nat):Int),out,J,())=some (out++o,())
 | [],done,J,J',out,o,e,h,_=>by
  obtain⟨rfl,rfl⟩:=h;rw[a03]at e;subst e;refine a0V ?_
  unfold a3U;simp only;rw[decide_eq_false (by omega),a03];rfl
 |p::rest,done,J,J',out,o,e,h,ho=>by
  obtain⟨o1,m,f,o2,a,b,rfl⟩:=h;rw[lN]at ho;have j:=b1F i rest (done++[p]) f J' (out++o1) o2 (by rw[←e,aA];rfl) b (by rw[lN];omega);have g:done.length+(rest.length+1)=l.length:=by rw[←e,lN,lC]
  have c:n0s l ((done.length:Nat):Int)=some p:=by
   have:done.length<l.length:=by omega
   rw[a0F this];congr 1;subst e;rw[a74 (a11 _)]
   simp
  rw[←aA,←j];refine a1t ?_
  unfold a3U;simp only;rw[decide_eq_true (show((done.length:Nat):Int)<((l.length:Nat):Int)by omega),c];simp only[cT,oB,a];rw[a0C (by omega),w64 (by omega),lN,a08];rfl
theorem b3w{n:Int}{o:List Pk}{J':Jn}(a:0≤n)(g:l.length<1000000)(f:o.length<1000000)(h:a6s (n,false,[],0,()) l o J'):a2c (n,l)=some o:=by
 unfold a2c a6Y;have e:y0d n 0=n:=by rw[a9u];omega
 simp only[e,oB]
 have:=b1F g l [] _ J' [] o rfl h (by simpa using f)
 rw[a05]at this;exact a0D this rfl
theorem b5g{J:Jn}(hp:PgPlain p)(h:p.1<J.1):a1y (J,p)=some ([],[],J):=by
 unfold a1y;simp only[a5B hp.toPgOk,oB,bne_self_eq_false,cF,hp.ng];rw[decide_eq_true h];rfl
theorem b5h{b:Bool}{acc:List Int}{k:Int}(hp:PgPlain p)(h:p.2.2.1=false)(f:p.2.1=true→acc=[]∧b=false)(a:p.2.1=false→b=true)(e:acc.length≤60000):
  a1y ((p.1,b,acc,k,()),p)=some ([],[],p.1+1,true,acc++p.2.2.2.2.1,k,()):=by
 have i:=hp.s0;have j:=hp.s1;have b2:=hp.b2;have c:wrap .i64 (p.1+1)=p.1+1:=w64 (by omega);unfold a1y;simp only[a5B hp.toPgOk,oB,bne_self_eq_false,cF,hp.ng];rw[decide_eq_false (show ¬ p.1<p.1 by omega)];simp only[cF,oB,c];cases hf:p.2.1 with
 |true=>
  obtain⟨rfl,rfl⟩:=f hf;have g:a1O (p.1+1,false,([]:List Int),k,())=some (p.1+1,false,[],k,()):=rfl;simp only[cT,g,oB,bT,cF,a06,a16,a05,h,a79];rw[a0C (by omega),decide_eq_false (show ¬ ((p.2.2.2.2.1.length:Nat):Int) > 65554 by omega)];rfl
 |false=>
  obtain rfl:=a hf;simp only[cT,oB,bT,cF,a16,h,a79,lN];rw[a0C (by omega),decide_eq_false (by omega)];rfl
theorem b5i{b:Bool}{acc:List Int}{k:Int}{q:Pk}(hp:PgPlain p)(f:p.2.2.1=true)(i:p.2.1=true→acc=[]∧b=false)(j:p.2.1=false→b=true)(n:acc.length≤60000)(g:a5Z q)(h:acc++p.2.2.2.2.1=a0N q):
  a1y ((p.1,b,acc,k,()),p)=some ([q],[],p.1+1,false,[],k,()):=by
 have o:=hp.s0;have r:=hp.s1;have b2:=hp.b2;have m:wrap .i64 (p.1+1)=p.1+1:=w64 (by omega);have c:a2Q (a0N q)=some (q,0):=by
  rw[b2K g];refine(a9B g ?_).trans rfl;obtain⟨s,l,_⟩:=g
  have:=l.dat
  omega
 unfold a1y;simp only[a5B hp.toPgOk,oB,bne_self_eq_false,cF,hp.ng];rw[decide_eq_false (show ¬ p.1<p.1 by omega)];simp only[cF,oB,m];have a:(a0N q).length=acc.length+p.2.2.2.2.1.length:=by rw[←h,lN]
 cases hf:p.2.1 with
 |true=>
  obtain⟨rfl,rfl⟩:=i hf;have e:a1O (p.1+1,false,([]:List Int),k,())=some (p.1+1,false,[],k,()):=rfl;simp only[cT,e,oB,bT,cF,a16,h,f];rw[a0C (by omega),decide_eq_false (show ¬ (((a0N q).length:Nat):Int) > 65554 by omega)];simp only[cT,cF,c,oB,bne_self_eq_false]
 |false=>
  obtain rfl:=j hf;simp only[cT,oB,bT,cF,a16,h,f];rw[a0C (by omega),decide_eq_false (show ¬ (((a0N q).length:Nat):Int) > 65554 by omega)];simp only[cT,cF,c,oB,bne_self_eq_false]
theorem b2R{q:Pk}(c:a5Z q){k:Int}:∀(n:Nat)(f:Bool)(s:Nat)(r acc:List Int)(b:Bool),r.length≤n→r≠[]→acc++r=a0N q→(f=true→acc=[]∧b=false)→(f=false→b=true)→s+r.length≤1000000→
  a6s ((s:Int),b,acc,k,()) (a1D f s r) [q] (((s+(a1D f s r).length:Nat):Int),false,[],k,())
 |0,f,s,r,acc,b,h,hr,_,_,_,_=>absurd (a37.1 (by omega)) hr
 |n+1,f,s,r,acc,b,h,hr,he,h1,h2,hs=>by
  have a:(a0N q).length≤918:=by
   obtain⟨t,m,_⟩:=c
   have:=m.dat
   rw[a4v];omega
  have j:acc.length+r.length≤918:=by rw[←lN,he];exact a
  have hp:=(a9A _ f s r (a11 _) hs 0 _ (by rw[a2w hr];rfl)).2;rw[a2w hr]
  by_cases hl:r.length≤252
  have e:r.drop 252=[]:=b00 hl;have i:r.take 252=r:=a28 hl;rw[e,a2k];have g:=b5i (b:=b) (acc:=acc) (k:=k) (q:=q) hp (decide_eq_true hl) h1 h2 (by omega) c (by show acc++r.take 252=_;rw[i];exact he);refine⟨[q],_,_,[],g,⟨rfl,?_⟩,rfl⟩;simp only[lC,a06];rfl;have l:r.drop 252≠[]:=a02.1 (by rw[a00];omega);have g:=b5h (b:=b) (acc:=acc) (k:=k) hp (decide_eq_false hl) h1 h2 (by omega);have o:=b2R c (k:=k) n false (s+1) (r.drop 252) (acc++r.take 252) true (by rw[a00];omega) l (by rw[aA,a26];exact he) (by simp) (by simp) (by rw[a00];omega);refine⟨[],_,_,[q],g,?_,rfl⟩;rw[lC,show s+((a1D false (s+1) (r.drop 252)).length+1)=s+1+(a1D false (s+1) (r.drop 252)).length by omega];exact o
theorem a9R{k:Int}:∀(Z:List Pk)(s:Nat),(∀p∈Z,a5Z p)→s+1000*Z.length≤1000000→a6s ((s:Int),false,[],k,()) (a0O s (Z.map a0N)) Z (((s+(a0O s (Z.map a0N)).length:Nat):Int),false,[],k,())
 | [],s,_,_=>⟨rfl,rfl⟩
 |q::Z,s,h,hs=>by
  rw[lC]at hs;have f:=h q (by simp);have g:(a0N q).length≤918:=by
   obtain⟨t,e,_⟩:=f
   have:=e.dat
   rw[a4v];omega
  have i:=a5A _ true s (a0N q) (a11 _);have a:=b2R f (k:=k) (a0N q).length true s (a0N q) [] false (a11 _) (a6N q) rfl (by simp) (by simp) (by omega);have b:=a9R (k:=k) Z (s+(a1D true s (a0N q)).length) (fun p hp=>h p (by simp[hp])) (by omega);have c:=a.app b;rw[a56,a0O,lN];rw[show s+((a1D true s (a0N q)).length+(a0O (s+(a1D true s (a0N q)).length) (Z.map a0N)).length)=s+(a1D true s (a0N q)).length+(a0O (s+(a1D true s (a0N q)).length) (Z.map a0N)).length by omega];exact c
theorem b1G{J:Jn}:∀(l:List Pge),(∀p∈l,PgPlain p∧p.1<J.1)→a6s J l [] J
 | [],_=>⟨rfl,rfl⟩
 |p::l,h=>⟨[],[],J,[],b5g (h p (by simp)).1 (h p (by simp)).2,b1G l fun q g=>h q (by simp[g]),rfl⟩
theorem a9c:∀(a b:List (List Int)) (s:Nat),a0O s (a++b)=a0O s a++a0O (s+(a0O s a).length) b
 | [],b,s=>by simp[a0O]
 |x::a,b,s=>by
  rw[a29,a0O,a0O,a9c a b,aA,lN,Nat.add_assoc]
theorem a7n(h:Woven Z):a1K 0 (a0H Z):=fun i p hp=>by
 rw[a68];exact a6r h i p hp
def a4e(Z:List Pk)(i:Nat):Nat:=(a0O 0 ((Z.take i).map a0N)).length
theorem b3x(Z:List Pk)(i:Nat):a0H Z=a0O 0 ((Z.take i).map a0N)++a0O (a4e Z i) ((Z.drop i).map a0N):=by
 have:=a9c ((Z.take i).map a0N) ((Z.drop i).map a0N) 0
 rw[←pA,a26,a68]at this;exact this
theorem b2B(h:Woven Z)(i:Nat):a2c (((a4e Z i:Nat):Int),a0H Z)=some (Z.drop i):=by
 have s:=h.len;have q:=a3O h;have hp:=b3x Z i;have r:a4e Z i≤(a0H Z).length:=by
  have:=congrArg a30 hp
  rw[lN]at this
  have:a4e Z i=(a0O 0 ((Z.take i).map a0N)).length:=rfl
  omega
 have m:a6s (((a4e Z i:Nat):Int),false,[],(0:Int),()) (a0O 0 ((Z.take i).map a0N)) [] (((a4e Z i:Nat):Int),false,[],0,()):=by
  refine b1G _ fun p c=>?_
  obtain⟨j,l⟩:=a40 c;have f:=(lS.1 l).1;have g:(a0H Z)[j]?=some p:=by rw[hp,a54 f];exact l
  obtain⟨a,b⟩:=a6r h j p g;refine⟨b,?_⟩;show p.1<((a4e Z i:Nat):Int)
  have:a4e Z i=(a0O 0 ((Z.take i).map a0N)).length:=rfl
  omega
 have o:(Z.drop i).length≤Z.length:=by rw[a00];omega
 have n:=a9R (k:=0) (Z.drop i) (a4e Z i) (fun p hp=>h.pk p (a19 hp)) (by omega);have e:=m.app n;rw[←hp,a05]at e;exact b3w (by omega) (by omega) (by omega) e
theorem b3y(h:Woven Z):a2c (0,a0H Z)=some Z:=by
 have:=b2B h 0
 simpa[a4e,a0O]using this
theorem b4n(h:Drawn n a L)(g:Woven Z):a1W (a7W a Z)=some (a,(((a0T a).length:Nat):Int),0):=by
 have f:=h.str.one;have b:=h.str.four;have c:=h.len;have b1:=a8v g;have b2:=a8x g;exact b1z h.inf (by omega) (by omega) (by rw[lN];omega)
theorem b5T(x:Int){hi:Int}(c:0≤hi)(e:hi≤1000000):∃v,a1C (x,(0:Int),hi)=some v∧0≤v∧v≤hi:=by
 have f:wrap .i64 ((wrap .i64 (hi-0))+(1:Int))=hi+1:=by rw[w64 (n:=hi-0) (by omega),w64 (by omega)];omega
 unfold a1C;simp only
 by_cases hx:x≥0
 rw[decide_eq_true hx];simp only[cT,oB]
 by_cases hy:x≤hi
 rw[decide_eq_true hy];exact⟨x,rfl,hx,hy⟩;rw[decide_eq_false hy];simp only[cF];rw[f];have i:0≤a42 x (hi+1):=b29 _ hx;have g:a42 x (hi+1)<hi+1:=a82 _ (by omega);have h:((hi+1)==0)=false:=by rw[beq_eq_false_iff_ne];omega
 rw[decide_eq_false (show ¬ a42 x (hi+1)<0 by omega),h];simp only[cF,oB];exact⟨_,rfl,by rw[w64 (by omega)];omega,by rw[w64 (by omega)];omega⟩;rw[decide_eq_false hx];simp only[cF,oB];rw[f];have g:-(hi+1)<a42 x (hi+1):=b42 _ (by omega);have b:a42 x (hi+1)<hi+1:=a82 _ (by omega);have h:((hi+1)==0)=false:=by rw[beq_eq_false_iff_ne];omega
 rw[h];simp only[cF]
 by_cases hn:a42 x (hi+1)<0
 rw[decide_eq_true hn];simp only[cT,oB];have a:wrap .i64 (wrap .i64 (wrap .i64 (a42 x (hi+1)+hi)-0)+1)=a42 x (hi+1)+hi+1:=by
  rw[w64 (n:=a42 x (hi+1)+hi) (by omega),w64 (n:=a42 x (hi+1)+hi-0) (by omega),w64 (by omega)];omega
 rw[a];exact⟨_,rfl,by rw[w64 (by omega)];omega,by rw[w64 (by omega)];omega⟩;rw[decide_eq_false hn];simp only[cF,oB];exact⟨_,rfl,by rw[w64 (by omega)];omega,by rw[w64 (by omega)];omega⟩
theorem b2C(p:Pk):a3V (p,p)=some true:=by
 unfold a3V;simp only[beq_self_eq_true,cT]
theorem b1H{l:List Pk}(h:l.length<1000000):a2b (l,l)=some true:=by
 unfold a2b;simp only[bne_self_eq_false,cF]
 have:=a0E (f:=a2O) (fun i=>(l,l,(i:Int),())) l.length (b:=.inl ()) (fun i hi=>?_) ?_
 exact a0D this rfl;unfold a2O;simp only;rw[decide_eq_true (show(i:Int)<((l.length:Nat):Int)by omega),a0F hi];simp only[cT,oB,b2C,bT,cF];rw[w64 (by omega)];rfl;unfold a2O;simp only;rw[decide_eq_false (by omega)];rfl
def a6t:Option Nat→Int
 |none=>-1
 |some j=>(j:Int)
def ofS(s:Nat)(l:List Pk):List Pk:=l.filter fun p=>decide (p.1=(s:Int))
theorem a6U(s:Nat)(a b:List Pk):ofS s (a++b)=ofS s a++ofS s b:=b14 ..
def b3z(l:List Pk):Prop:=∀s,(ofS s l).Pairwise fun p q=>p.2.1≤q.2.1
theorem b5U{a b:List Pk}(h:Stb a b):b3z a→(∀p∈a,0≤p.1)→b3z b∧∀s,ofS s b=ofS s a:=by
 induction h with
 |refl l=>exact fun h _=>⟨h,fun s=>rfl⟩
 |swap p x y s hk=>
  intro h c;have key:∀n,ofS n (p++y::x::s)=ofS n (p++x::y::s):=by
   intro n;have j:p++y::x::s=p++([y]++([x]++s)):=rfl;have e:p++x::y::s=p++([x]++([y]++s)):=rfl;rw[j,e];simp only[a6U]
   by_cases hx:x.1=(n:Int)
   by_cases hy:y.1=(n:Int)
   exfalso
   have hp:=h n;rw[e]at hp;simp only[a6U]at hp;have g:ofS n [x]=[x]:=by simp[ofS,hx]
   have f:ofS n [y]=[y]:=by simp[ofS,hy]
   rw[g,f]at hp;have m:=(a24.1 hp).2.1;have o:=(a24.1 m).2.2 x (by simp) y (by simp);rw[a6L]at hk;omega;have f:ofS n [y]=[]:=by simp[ofS,hy]
   rw[f,a05,a05];have g:ofS n [x]=[]:=by simp[ofS,hx]
   rw[g,a05,a05]
  exact⟨fun n=>by rw[key];exact h n,key⟩
 |trans h1 h2 i1 i2=>
  intro h c;obtain⟨a1,i⟩:=i1 h c;obtain⟨b1,b2⟩:=i2 a1 fun p hp=>c p ((h1.perm.mem_iff).1 hp);exact⟨b1,fun s=>(b2 s).trans (i s)⟩
theorem a9C{l:List Pk}(h:∀p∈l,p.1=(s:Int)):ofS s l=l:=b40.2 fun p hp=>decide_eq_true (h p hp)
theorem a5G{l:List Pk}(h:∀p∈l,p.1≠(s:Int)):ofS s l=[]:=List.filter_eq_nil_iff.2 fun p hp=>by simp[h p hp]
theorem b1I(s:Nat):∀(L:List (List Pk)) (o:Nat),(∀(i:Nat) l,L[i]?=some l→∀p∈l,p.1=((o+i:Nat):Int))→ofS s L.flatten=if o≤s then(L[s-o]?).getD []else[]
 | [],o,_=>by simp[ofS]
 |l::L,o,h=>by
  have a:=b1I s L (o+1) fun i l f p hp=>by
   have:=h (i+1) l (by simpa using f) p hp
   rw[show o+(i+1)=o+1+i by omega]at this;exact this
  have g:∀p∈l,p.1=(o:Int):=h 0 l rfl;rw[b18,a6U,a]
  by_cases hs:o≤s
  rw[if_pos hs]
  by_cases he:o=s
  subst he;rw[if_neg (by omega),a9C g]
  simp
  rw[if_pos (by omega),a5G fun p hp=>by rw[g p hp];omega];rw[show s-o=s-(o+1)+1 by omega]
  simp
  rw[if_neg hs,if_neg (by omega),a5G fun p hp=>by rw[g p hp];omega];rfl
def a3a(n:Nat)(l:List Pk):List (List Pk):=(a61 n).map fun s=>ofS s l
theorem a3W(n:Nat)(l:List Pk):(a3a n l).length=n:=by rw[a3a,a44,a75]
theorem a4x(l:List Pk)(h:s<n):(a3a n l)[s]?=some (ofS s l):=by
 rw[a3a,a86,a93 h];rfl
theorem b3A(n:Nat):a3a n []=a27 n []:=by
 refine b21 fun i=>?_
 by_cases hi:i<n
 rw[a4x _ hi,a97,if_pos hi];rfl;rw[a47 (by rw[a3W];omega),a47 (by rw[a41];omega)]
theorem b2D{l:List Pk}{p:Pk}(hp:p.1=(s:Int))(f:s<n):a3a n (l++[p])=(a3a n l).set s (((a3a n l).getD s [])++[p]):=by
 have g:(a3a n l).getD s []=ofS s l:=by rw[lD,a4x l f];rfl
 rw[g];refine b21 fun i=>?_
 by_cases hi:i<n
 rw[a4x _ hi,b24,a6U]
 by_cases he:s=i
 subst he;rw[if_pos rfl,if_pos (by rw[a3W];exact hi),a9C (l:=[p]) (by simpa using hp)];rw[if_neg he,a4x l hi,a5G (l:=[p]) (fun q h=>by rw[a13]at h;rw[h,hp];omega),a03];rw[a47 (by rw[a3W];omega),a47 (by rw[a31,a3W];omega)]
theorem a9S{a:List Inf}{h:List (Int×Int×Unit)}{n:Nat}{Z:List Pk}(i:Z.length<1000000)(g:∀p∈Z,0≤p.1∧p.1<(n:Int)):∀(rest done:List Pk),done++rest=Z→
  y0h a4K (((Z.length:Nat):Int),((done.length:Nat):Int),a,h,a3a n done,Z,())=some (a,h,a3a n Z,())
 | [],done,e=>by
  rw[a03]at e;subst e;refine a0V ?_
  unfold a4K;simp only;rw[decide_eq_false (by omega)];rfl
 |q::rest,done,e=>by
  have b:=a9S (a:=a) (h:=h) i g rest (done++[q]) (by rw[←e,aA];rfl);have f:done.length+(rest.length+1)=Z.length:=by rw[←e,lN,lC]
  have j:a36 Z (a23 ((done.length:Nat):Int)) ((0:Int),(0:Int),(0:Int),false,false,([]:List Int),())=q:=by
   rw[tN,←e,lD,a35 (a11 _)]
   simp
  obtain⟨t,c⟩:=g q (by rw[←e];simp);have r:wrap .i64 (((done.length:Nat):Int)+1)=(((done++[q]).length:Nat):Int):=by rw[w64 (by omega),lN,a08];omega
  have o:((a3a n done).getD q.1.toNat []).length≤done.length:=by
   rw[lD,a4x done (by omega)];exact a64 ..
  have m:=b2D (n:=n) (s:=q.1.toNat) (l:=done) (p:=q) (by omega) (by omega);rw[←b];clear b;refine a1t ?_
  unfold a4K;simp only;rw[decide_eq_true (show((done.length:Nat):Int)<((Z.length:Nat):Int)by omega),decide_eq_true (show(0:Int)≤((done.length:Nat):Int)by omega),j,decide_eq_true (show q.1≥0 by omega),decide_eq_true (show q.1<(((a3a n done).length:Nat):Int)by rw[a3W];exact c)];simp only[cT,a07,oB,a31];rw[decide_eq_true (show(0:Int)≤q.1 by omega),decide_eq_true (show q.1<(((a3a n done).length:Nat):Int)by rw[a3W];exact c),a0C (by omega)];simp only[cT,a07,beq_self_eq_true,r,m,a16]
theorem Drawn.rows(h:Drawn n a L)(j:Stb L.flatten Z):a3a a.length Z=L:=by
 have g:∀(i:Nat) l,L[i]?=some l→∀p∈l,p.1=((0+i:Nat):Int):=fun i l f p hp=>by
  rw[a68];exact((h.str.ok i l f).ok p hp).st
 have b:∀s,ofS s L.flatten=(L[s]?).getD []:=fun s=>by
  have:=b1I s L 0 g
  rw[if_pos (Nat.zero_le _),b27]at this;exact this
 have m:b3z L.flatten:=fun s=>by
  rw[b];cases f:L[s]? with
  |none=>exact .nil
  |some l=>exact(h.str.ok s l f).asc
 have c:∀p∈L.flatten,0≤p.1:=fun p hp=>by
  obtain⟨l,f,hp⟩:=b25.1 hp;obtain⟨i,hi⟩:=a40 f;rw[g i l hi p hp];omega
 obtain⟨_,e⟩:=b5U j m c;refine b21 fun i=>?_
 by_cases hi:i<L.length
 rw[a4x _ (by rw[h.len];exact hi),e,b,lG hi];rfl;rw[a47 (by rw[a3W,h.len];omega),a47 (by omega)]
theorem Drawn.in(h:Drawn n a L)(f:Stb L.flatten Z):∀p∈Z,0≤p.1∧p.1<(a.length:Int):=fun p hp=>by
 have hp:=(f.perm.mem_iff).1 hp;obtain⟨l,g,hp⟩:=b25.1 hp;obtain⟨i,hi⟩:=a40 g;have b:=((h.str.ok i l hi).ok p hp).st;have c:=(lS.1 hi).1
 have:=h.len
 omega
theorem b4o(i:Inf):eqT (.pair (.int .i64) (.pair (.pair (.int .i64) (.pair (.int .i64) .unit)) (.pair (.pair (.int .i64) (.pair (.int .i64) (.pair (.int .i64) .unit))) (.pair (.int .i64) (.pair (.int .i64) (.pair (.int .i64) (.pair (.int .i64) .unit))))))) i i=true:=by
 have b:∀x:Int,(x==x)=true:=fun x=>beq_self_eq_true x;show((i.1==i.1)&&(((i.2.1.1==i.2.1.1)&&((i.2.1.2.1==i.2.1.2.1)&&true))&&(((i.2.2.1.1==i.2.2.1.1)&&((i.2.2.1.2.1==i.2.2.1.2.1)&&((i.2.2.1.2.2.1==i.2.2.1.2.2.1)&&true)))&&((i.2.2.2.1==i.2.2.2.1)&&((i.2.2.2.2.1==i.2.2.2.2.1)&&((i.2.2.2.2.2.1==i.2.2.2.2.2.1)&&((i.2.2.2.2.2.2.1==i.2.2.2.2.2.2.1)&&true)))))))=true;simp only[b,b20]
theorem b3B{l:List Inf}(h:l.length<1000000):a4q (l,l)=some true:=by
 unfold a4q;simp only[bne_self_eq_false,cF]
 have:=a0E (f:=a3r) (fun i=>(l,l,(i:Int),())) l.length (b:=.inl ()) (fun i hi=>?_) ?_
 exact a0D this rfl;unfold a3r;simp only;rw[decide_eq_true (show(i:Int)<((l.length:Nat):Int)by omega),a0F hi];simp only[cT,oB];rw[b4o l[i],w64 (by omega)];rfl;unfold a3r;simp only;rw[decide_eq_false (by omega)];rfl
theorem b4p{l:List (List Pk)}(g:l.length<1000000)(h:∀x∈l,x.length<1000000):a4L (l,l)=some true:=by
 unfold a4L;simp only[bne_self_eq_false,cF]
 have:=a0E (f:=a3B) (fun i=>(l,l,(i:Int),())) l.length (b:=.inl ()) (fun i hi=>?_) ?_
 exact a0D this rfl;unfold a3B;simp only;rw[decide_eq_true (show(i:Int)<((l.length:Nat):Int)by omega),a0F hi];simp only[cT,oB,b1H (h _ (a17 hi)),bT,cF];rw[w64 (by omega)];rfl;unfold a3B;simp only;rw[decide_eq_false (by omega)];rfl
def bx(a b:Int):Int:=bits .u8 .xor a b
theorem b4q(a b:Int):bx a b=(((a32 8 a ^^^ a32 8 b).toNat:Nat):Int):=by
 show wrap .u8 (((a32 8 a ^^^ a32 8 b).toNat:Nat):Int)=_;exact a5Y (BitVec.isLt _)
theorem b7m(a b:Int):a32 8 (bx a b)=a32 8 a ^^^ a32 8 b:=by
 rw[b4q,b36,b48,b49]
theorem a9D{a:Int}(h:0≤a∧a<256):(((a32 8 a).toNat:Nat):Int)=a:=by
 rw[b12];omega
theorem b2S(a b:Int):0≤bx a b∧bx a b<256:=wu8 _
theorem b2T{a:Int}(h:0≤a∧a<256):bx a 0=a:=by
 rw[b4q,show a32 8 0=0#8 from rfl,a94,a9D h]
def Byt(l:List Int):Prop:=∀b∈l,0≤b∧b<256
theorem Byt.at{l:List Int}(h:Byt l)(i:Nat):0≤l.getD i 0∧l.getD i 0<256:=by
 rw[lD];cases e:l[i]? with
 |none=>exact⟨by decide,by decide⟩
 |some b=>exact h b (List.mem_of_getElem? e)
theorem a4y{a:List Int}(c:a.length=b.length)(h:∀i,i<a.length→a.getD i 0=b.getD i 0):a=b:=by
 refine List.ext_getElem c fun i g f=>?_
 have:=h i g
 rw[lD,lD,lG g,lG f]at this;exact this
theorem a3b{l:List Int}(h:l.length≤i):l.getD i 0=0:=by
 rw[lD,a47 h];rfl
def a4U(a b:List Int):List Int:=(a61 (max a.length b.length)).map fun i=>bx (a.getD i 0) (b.getD i 0)
theorem a5d(a b:List Int):(a4U a b).length=max a.length b.length:=by rw[a4U,a44,a75]
theorem a4Q(a b:List Int)(i:Nat):(a4U a b).getD i 0=bx (a.getD i 0) (b.getD i 0):=by
 by_cases h:i<max a.length b.length
 rw[lD,a4U,a86,a93 h];rfl;rw[a3b (by rw[a5d];omega),a3b (l:=a) (by omega),a3b (l:=b) (by omega)];rfl
theorem b1J(a b:List Int):Byt (a4U a b):=by
 intro x h;obtain⟨i,_,rfl⟩:=b51.1 h;exact b2S _ _
def mkI(p:Pge):Int:=(bif p.2.1 then 1 else 0)+(bif p.2.2.1 then 2 else 0)
def pgD(p:Pge):List Int:=[mkI p,((p.2.2.2.2.1.length:Nat):Int)]++p.2.2.2.2.1
theorem a6h(p:Pge):(pgD p).length=2+p.2.2.2.2.1.length:=by rw[pgD,lN];rfl
theorem a7o(p:Pge):0≤mkI p∧mkI p≤3:=by unfold mkI;cases p.2.1<;>cases p.2.2.1<;>decide
structure PgByt (p:Pge):Prop where
 len:p.2.2.2.2.1.length≤252
 byt:Byt p.2.2.2.2.1
theorem PgByt.d(h:PgByt p):Byt (pgD p):=by
 intro b g;have a:=a7o p;have f:=h.len;rcases mA.1 g with g|g;simp only[mC,a63,or_false]at g;rcases g with rfl|rfl<;>omega;exact h.byt b g
def xrF(a:List Int)(l:List Pge):List Int:=l.foldl (fun a p=>a4U a (pgD p)) a
def xr(l:List Pge):List Int:=xrF [0,0] l
theorem b1K(a:List Int)(p:Pge)(l:List Pge):xrF a (p::l)=xrF (a4U a (pgD p)) l:=rfl
theorem a9E(a:List Int)(l m:List Pge):xrF a (l++m)=xrF (xrF a l) m:=a85 ..
theorem a9F:∀(l:List Pge)(a:List Int),Byt a→Byt (xrF a l)
 | [],a,h=>h
 |p::l,a,_=>a9F l _ (b1J _ _)
theorem a7O(l:List Pge):Byt (xr l):=a9F l _ (by intro b h;simp only[mC,a63,or_false]at h;rcases h with rfl|rfl<;>decide)
def sx(l:List Pge)(i:Nat):BitVec 8:=l.foldl (fun v p=>v ^^^ a32 8 ((pgD p).getD i 0)) 0#8
theorem a9G(i:Nat):∀(l:List Pge)(v:BitVec 8),l.foldl (fun v p=>v ^^^ a32 8 ((pgD p).getD i 0)) v=v ^^^ sx l i
 | [],v=>(a94).symm
 |p::l,v=>by
  rw[b61,a9G i l];show _=v ^^^ l.foldl _ (0#8 ^^^ a32 8 ((pgD p).getD i 0));rw[a9G i l,b30,b57]
theorem a9d(a b:List Pge)(i:Nat):sx (a++b) i=sx a i ^^^ sx b i:=by
 unfold sx;rw[a85,a9G];rfl
theorem b4r(p:Pge)(i:Nat):sx [p] i=a32 8 ((pgD p).getD i 0):=by
 show 0#8 ^^^ _=_;rw[b30]
theorem b1L(i:Nat):∀(l:List Pge)(a:List Int),Byt a→(xrF a l).getD i 0=(((a32 8 (a.getD i 0) ^^^ sx l i).toNat:Nat):Int)
 | [],a,h=>by
  show a.getD i 0=_;rw[show sx [] i=0#8 from rfl,a94,a9D (h.at i)]
 |p::l,a,h=>by
  rw[b1K,b1L i l _ (b1J _ _),a4Q,b7m,b57,←b4r,←a9d];rfl
theorem a7Y:∀(l:List Pge)(a:List Int)(n:Nat),a.length≤n→(∀p∈l,(pgD p).length≤n)→a.length≤(xrF a l).length∧(xrF a l).length≤n∧∀p∈l,(pgD p).length≤(xrF a l).length
 | [],a,n,h,_=>⟨a11 _,h,fun p hp=>by cases hp⟩
 |p::l,a,n,h,hp=>by
  have e:=hp p (by simp);obtain⟨f,b,c⟩:=a7Y l (a4U a (pgD p)) n (by rw[a5d];omega) fun q g=>hp q (by simp[g]);rw[a5d]at f;rw[b1K];refine⟨by omega,b,fun q g=>?_⟩;rcases mC.1 g with rfl|g;omega;exact c q g
theorem b5V{A B:List Pge}(hp:PgByt p)(l:∀q∈A,PgByt q)(m:∀q∈B,PgByt q):
  ∃z,xrF (xr (A++p::B)) (A++B)=pgD p++a27 z 0∧2+p.2.2.2.2.1.length+z=(xr (A++p::B)).length:=by
 have n:∀q∈A++p::B,(pgD q).length≤254:=fun q h=>by
  rw[a6h];rcases mA.1 h with h|h
  have:=(l q h).len;omega
  rcases mC.1 h with rfl|h
  have:=hp.len;omega
  have:=(m q h).len;omega
 obtain⟨l1,l2,f⟩:=a7Y (A++p::B) [0,0] 254 (by decide) n;have r:(pgD p).length≤(xr (A++p::B)).length:=f p (by simp);obtain⟨s,t,u⟩:=a7Y (A++B) (xr (A++p::B)) (xr (A++p::B)).length (a11 _) (fun q h=>f q (by
  rcases mA.1 h with h|h;simp[h];simp[h]))
 have o:=a6h p;refine⟨(xr (A++p::B)).length-(pgD p).length,a4y ?_ fun i hi=>?_,by omega⟩;rw[lN,a41];omega
 ·rw[b1L i _ _ (a7O _)];have c:(xr (A++p::B)).getD i 0=(((sx (A++p::B) i).toNat:Nat):Int):=by
   unfold xr;rw[b1L i _ _ (by intro b g;simp only[mC,a63,or_false]at g;rcases g with rfl|rfl<;>decide)]
   have:a32 8 (([0,0]:List Int).getD i 0)=0#8:=by
    match i with
    |0=>rfl
    | 1=>rfl
    |i+2=>rfl
   rw[this,b30]
  have e:a32 8 ((xr (A++p::B)).getD i 0)=sx (A++p::B) i:=by
   rw[c,b36,b48,b49]
  have j:sx (A++p::B) i ^^^ sx (A++B) i=a32 8 ((pgD p).getD i 0):=by
   rw[show A++p::B=A++([p]++B)from rfl,a9d,a9d,a9d,b4r];generalize a32 8 ((pgD p).getD i 0)=d;generalize sx A i=a;generalize sx B i=b
   have:a ^^^ (d ^^^ b) ^^^ (a ^^^ b)=d ^^^ ((a ^^^ a) ^^^ (b ^^^ b)):=by ac_rfl
   rw[this,b62,b62,a94,a94]
  rw[e,j,a9D (hp.d.at i)]
  by_cases hi2:i<(pgD p).length
  rw[lD,lD,a54 hi2];rw[a3b (by omega),lD,a35 (by omega),a97]
  split<;>rfl
theorem b2U(p:Pge):a3F p=some (mkI p):=by
 obtain⟨a,b,c,d⟩:=p;cases b<;>cases c<;>kernel_rfl
def zz(to fr:List Int)(i:Nat):List Int:=(a61 (max to.length fr.length)).map fun j=>if j<i then bx (to.getD j 0) (fr.getD j 0)else to.getD j 0
theorem a6u(to fr:List Int)(i:Nat):(zz to fr i).length=max to.length fr.length:=by rw[zz,a44,a75]
theorem a9e(to fr:List Int)(i j:Nat):(zz to fr i).getD j 0=if j<i then bx (to.getD j 0) (fr.getD j 0)else to.getD j 0:=by
 by_cases h:j<max to.length fr.length
 rw[lD,zz,a86,a93 h];rfl;rw[a3b (by rw[a6u];omega),a3b (l:=to) (by omega),a3b (l:=fr) (by omega)]
 split<;>rfl
theorem a8z(l:List Int)(i j:Nat)(v:Int):(l.set i v).getD j 0=if i=j∧i<l.length then v else l.getD j 0:=by
 rw[lD,lD,b24]
 by_cases h:i=j
 subst h
 by_cases h2:i<l.length
 rw[if_pos rfl,if_pos h2,if_pos ⟨rfl,h2⟩];rfl;rw[if_pos rfl,if_neg h2,if_neg (by omega),a47 (by omega)];rw[if_neg h,if_neg (by omega)]
theorem a9T(l:List Int)(n j:Nat):(l.drop n).getD j 0=l.getD (n+j) 0:=by
 rw[lD,lD,a96]
theorem a7p(l:List Int)(n j:Nat):(l++a27 n (0:Int)).getD j 0=l.getD j 0:=by
 rw[lD,lD]
 by_cases h:j<l.length
 rw[a54 h];rw[a35 (by omega),a47 (l:=l) (by omega),a97]
 split<;>rfl
theorem b2V{to fr:List Int}(o:Byt to)(p:to.length<1000)(q:fr.length<1000):a2V (to,fr)=some (a4U to fr,[]):=by
 have h:=a0E (f:=a2y) (fun i=>(fr,to++a27 i (0:Int),())) (fr.length-to.length) (b:=(fr,to++a27 (fr.length-to.length) (0:Int),())) (fun i hi=>by
  unfold a2y;simp only;rw[decide_eq_true (show(((to++a27 i (0:Int)).length:Nat):Int)<((fr.length:Nat):Int)by rw[lN,a41];omega),a0C (by rw[lN,a41];omega)];simp only[cT,a16,aA];rw[←List.replicate_succ']) (by
  unfold a2y;simp only;rw[decide_eq_false (show ¬ (((to++a27 (fr.length-to.length) (0:Int)).length:Nat):Int)<((fr.length:Nat):Int)by rw[lN,a41];omega)];rfl)
 rw[b38,a03]at h;have m:to++a27 (fr.length-to.length) (0:Int)=zz to fr 0:=a4y (by rw[lN,a41,a6u];omega) fun j g=>by
  rw[a9e,if_neg (by omega),a7p]
 rw[m]at h;have a:=a0E (f:=a2z) (fun i=>(fr,((fr.length:Nat):Int),(i:Int),zz to fr i,())) fr.length (b:=(zz to fr fr.length,())) (fun i hi=>by
  unfold a2z;simp only;have n:(zz to fr i).set i (bits .u8 .xor ((zz to fr i).getD i 0) fr[i])=zz to fr (i+1):=a4y (by rw[a31,a6u,a6u]) fun j g=>by
   rw[a8z,a9e,a9e,a9e,a6u];have c:fr.getD i 0=fr[i]:=by rw[lD,lG hi];rfl
   by_cases hij:i=j
   subst hij;rw[if_pos ⟨rfl,by omega⟩,if_neg (by omega),if_pos (by omega),c];rfl;rw[if_neg (by omega)]
   by_cases hj2:j<i
   rw[if_pos hj2,if_pos (by omega)];rw[if_neg hj2,if_neg (by omega)]
  rw[decide_eq_true (show(i:Int)<((fr.length:Nat):Int)by omega),a0F hi,decide_eq_true (show(0:Int)≤(i:Int)by omega),decide_eq_true (show(i:Int)<(((zz to fr i).length:Nat):Int)by rw[a6u];omega),tN];simp only[cT,a07,oB,n];rw[w64 (by omega)];rfl) (by
  unfold a2z;simp only;rw[decide_eq_false (by omega)];rfl)
 have e:zz to fr fr.length=a4U to fr:=a4y (by rw[a6u,a5d]) fun j g=>by
  rw[a9e,a4Q]
  by_cases hj2:j<fr.length
  rw[if_pos hj2];rw[if_neg hj2,a3b (l:=fr) (by omega),b2T (o.at j)]
 rw[e]at a;unfold a2V;refine a0D h ?_
 simp only;refine a0D a rfl
theorem b1M{a:List Int}(g:2≤a.length)(p:Pge):(a4U a (pgD p)).drop 2=a4U (a.drop 2) p.2.2.2.2.1:=by
 have h:=a6h p;refine a4y ?_ fun j f=>?_
 rw[a00,a5d,a5d,a00,h];omega;rw[a9T,a4Q,a4Q,a9T]
 have:(pgD p).getD (2+j) 0=p.2.2.2.2.1.getD j 0:=by
  rw[lD,lD,pgD,a35 (by simp)];congr 2
  simp
 rw[this]
theorem b3C(p:Pge):(pgD p).getD 0 0=mkI p:=rfl
theorem b3D(p:Pge):(pgD p).getD 1 0=((p.2.2.2.2.1.length:Nat):Int):=rfl
theorem b6I{l:List Int}(h:2≤l.length):l=l.getD 0 0::l.getD 1 0::l.drop 2:=by
 match l,h with
 |a::b::l,_=>rfl
theorem a5H{a:List Int}(c:2≤a.length)(f:a.length≤254)(l:List Pge)(h:∀p∈l,PgByt p):2≤(xrF a l).length∧(xrF a l).length≤254:=by
 obtain⟨b,g,_⟩:=a7Y l a 254 f fun p hp=>by rw[a6h];have:=(h p hp).len;omega
 exact⟨by omega,g⟩
theorem b3E{z:Pge}(c:∀p∈g,PgByt p)(q:g.length≤8):
  y0h a1Z (g,(0:Int),(0:Int),g,((g.length:Nat):Int),(0:Int),([]:List Int),z,())=some (g,(xr g).getD 0 0,(xr g).getD 1 0,(xr g).drop 2,z,()):=by
 have:=a0E (f:=a1Z) (fun i=>(g,(xr (g.take i)).getD 0 0,(xr (g.take i)).getD 1 0,g,((g.length:Nat):Int),(i:Int),(xr (g.take i)).drop 2,z,())) g.length (b:=(g,(xr g).getD 0 0,(xr g).getD 1 0,(xr g).drop 2,z,())) (fun i hi=>?_) ?_
 exact this;have hp:=c g[i] (a17 hi);obtain⟨h,t2⟩:=a5H (a:=[0,0]) (by decide) (by decide) (g.take i) fun p hp=>c p (a09 hp);have h:2≤(xr (g.take i)).length:=h;have e:xr (g.take (i+1))=a4U (xr (g.take i)) (pgD g[i]):=by
  rw[a04 hi];unfold xr;rw[a9E];rfl
 have j:=hp.len;have m:Byt ((xr (g.take i)).drop 2):=fun b l=>a7O _ b (a19 l);have o:wrap .u8 (((g[i]).2.2.2.2.1.length:Nat):Int)=(((g[i]).2.2.2.2.1.length:Nat):Int):=a5Y (by omega);unfold a1Z;simp only;have n:((xr (g.take i)).drop 2).length<1000:=by rw[a00];have:(xr (g.take i)).length≤254:=t2;omega
 rw[decide_eq_true (show(i:Int)<((g.length:Nat):Int)by omega),a0F hi];simp only[cT,oB,b2U,b2V m n (by omega:(g[i]).2.2.2.2.1.length<1000),o];rw[w64 (by omega),e,a4Q,a4Q,b3C,b3D,b1M h];rfl;unfold a1Z;simp only;rw[decide_eq_false (by omega),a20];rfl
def b3F(g:List Pge):List Int:=((g.length:Nat):Int)::xr g
theorem b5W(b:∀p∈g,PgByt p)(h:g≠[])(e:g.length≤8):a2n g=some ((g.head h).1,false,false,true,b3F g,()):=by
 obtain⟨f,t2⟩:=a5H (a:=[0,0]) (by decide) (by decide) g b;have f:2≤(xr g).length:=f;have t2:(xr g).length≤254:=t2;unfold a2n;refine a0D (b3E b e) ?_
 simp only;have hp:=a02.2 h;have c:n0s g 0=some (g.head h):=by
  have:=a0F (l:=g) (k:=0) hp
  rw[show((0:Nat):Int)=0 from rfl]at this;rw[this,a89]
 rw[a0C (by rw[a00];omega),c];have i:wrap .u8 ((g.length:Nat):Int)=((g.length:Nat):Int):=a5Y (by omega);simp only[cT,oB,i,a16]
 have:([((g.length:Nat):Int),(xr g).getD 0 0,(xr g).getD 1 0]:List Int)++(xr g).drop 2=b3F g:=by
  unfold b3F
  conv=>rhs;rw[b6I f]
  rfl
 rw[this]
theorem b5E(a:∀p∈g,PgByt p)(h:g≠[])(f:g.length≤8):gOf g=((g.head h).1,false,false,true,b3F g,()):=by
 unfold gOf;rw[b5W a h f];rfl
theorem b5j(p:Pge):((bits .u8 .and (mkI p) 1) != 0)=p.2.1∧((bits .u8 .and (mkI p) 2) != 0)=p.2.2.1∧((bits .u8 .and (mkI p) 1)==1)=p.2.1∧((bits .u8 .and (mkI p) 2)==2)=p.2.2.1:=by
 unfold mkI;cases p.2.1<;>cases p.2.2.1<;>decide
theorem b4s{z:Pge}{s:Int}{Y:List Int}(j:Byt Y)(c:2≤Y.length)(h:Y.length≤254)(g:∀p∈l,PgByt p)(t:l.length≤1000):
  y0h a2q (s,Y.getD 0 0,Y.getD 1 0,l,((l.length:Nat):Int),(0:Int),Y.drop 2,z,())=some (s,(xrF Y l).getD 0 0,(xrF Y l).getD 1 0,(xrF Y l).drop 2,z,()):=by
 have:=a0E (f:=a2q) (fun i=>(s,(xrF Y (l.take i)).getD 0 0,(xrF Y (l.take i)).getD 1 0,l,((l.length:Nat):Int),(i:Int),(xrF Y (l.take i)).drop 2,z,())) l.length (b:=(s,(xrF Y l).getD 0 0,(xrF Y l).getD 1 0,(xrF Y l).drop 2,z,())) (fun i hi=>?_) ?_
 exact this;have hp:=g l[i] (a17 hi);obtain⟨o,t2⟩:=a5H c h (l.take i) fun p hp=>g p (a09 hp);have e:xrF Y (l.take (i+1))=a4U (xrF Y (l.take i)) (pgD l[i]):=by
  rw[a04 hi,a9E];rfl
 have a:=hp.len;have n:Byt ((xrF Y (l.take i)).drop 2):=fun b m=>a9F _ _ j b (a19 m);have r:wrap .u8 (((l[i]).2.2.2.2.1.length:Nat):Int)=(((l[i]).2.2.2.2.1.length:Nat):Int):=a5Y (by omega);have q:((xrF Y (l.take i)).drop 2).length<1000:=by rw[a00];omega
 unfold a2q;simp only;rw[decide_eq_true (show(i:Int)<((l.length:Nat):Int)by omega),a0F hi];simp only[cT,oB,b2U,b2V n q (by omega:(l[i]).2.2.2.2.1.length<1000),r];rw[w64 (by omega),e,a4Q,a4Q,b3C,b3D,b1M o];rfl;unfold a2q;simp only;rw[decide_eq_false (by omega),a20];rfl
theorem b4t{s f n:Int}{Y:List Int}(h:z<1000):
  y0h a2r (s,f,Y,n,a27 z (0:Int),((z:Nat):Int),(0:Int),q,())=some (.inl (s,f,Y,n,q,())):=by
 have:=a0E (f:=a2r) (fun i=>(s,f,Y,n,a27 z (0:Int),((z:Nat):Int),(i:Int),q,())) z (b:=.inl (s,f,Y,n,q,())) (fun i hi=>?_) ?_
 exact this;unfold a2r;simp only;rw[decide_eq_true (show(i:Int)<((z:Nat):Int)by omega),a0F (l:=a27 z (0:Int)) (k:=i) (by rw[a41];exact hi),List.getElem_replicate];simp only[cT,oB,bne_self_eq_false,cF];rw[w64 (by omega)];rfl;unfold a2r;simp only;rw[decide_eq_false (by omega)];rfl
theorem b3G{gd:Pge}{k:Int}{Y:List Int}(c:gd.2.2.2.2.1=k::Y)(x:Byt Y)(g:2≤Y.length)(h:Y.length≤254)(j:∀q∈l,PgByt q)(e:l.length≤1000)(hp:PgPlain p)(i:PgByt p)(f:xrF Y l=pgD p++a27 z (0:Int)):a3o (gd,l,p.1)=some (p,true):=by
 obtain⟨E,t2⟩:=a5H g h l j;have y:=hp.b0;have A:=i.len;have B:2+p.2.2.2.2.1.length+z≤254:=by
  have:=congrArg a30 f
  rw[lN,a41,a6h]at this;omega
 have s:(xrF Y l).getD 0 0=mkI p:=by rw[f,a7p,b3C]
 have t:(xrF Y l).getD 1 0=((p.2.2.2.2.1.length:Nat):Int):=by rw[f,a7p,b3D]
 have u:(xrF Y l).drop 2=p.2.2.2.2.1++a27 z (0:Int):=by rw[f];rfl
 have v:n0s (k::Y) 1=some (Y.getD 0 0):=by
  match Y,g with
  |a::b::Y,_=>rfl
 have w:n0s (k::Y) 2=some (Y.getD 1 0):=by
  match Y,g with
  |a::b::Y,_=>rfl
 have m:a43 3 (a38 (k::Y).length (k::Y))=Y.drop 2:=by rw[a20];rfl
 have C:wrap .i64 ((p.2.2.2.2.1.length:Nat):Int)=((p.2.2.2.2.1.length:Nat):Int):=w64 (by omega);obtain⟨m0,D⟩:=a7o p;obtain⟨b1,b2,_,_⟩:=b5j p;unfold a3o;simp only[c,v,w,m,oB];rw[decide_eq_true (show(3:Int)≤(((k::Y).length:Nat):Int)by rw[lC];omega),a0C (by rw[a00];omega)];simp only[cT];refine a0D (b4s x g h j e) ?_
 simp only[s,t,u,C];rw[decide_eq_false (show ¬ mkI p > 3 by omega),decide_eq_false (show ¬ ((p.2.2.2.2.1.length:Nat):Int)<1 by omega),decide_eq_false (show ¬ ((p.2.2.2.2.1.length:Nat):Int) > 252 by omega),decide_eq_false (show ¬ ((p.2.2.2.2.1.length:Nat):Int) > (((p.2.2.2.2.1++a27 z (0:Int)).length:Nat):Int)by rw[lN];omega)];simp only[cF,oB,tN];rw[decide_eq_true (show(0:Int)≤((p.2.2.2.2.1.length:Nat):Int)by omega),decide_eq_true (show((p.2.2.2.2.1.length:Nat):Int)≤(((p.2.2.2.2.1++a27 z (0:Int)).length:Nat):Int)by rw[lN];omega)];have r:a38 ((p.2.2.2.2.1++a27 z (0:Int)).length-p.2.2.2.2.1.length) (a43 p.2.2.2.2.1.length (p.2.2.2.2.1++a27 z (0:Int)))=a27 z (0:Int):=by
  rw[b63,a28 (by rw[lN];omega)]
 have n:(p.2.2.2.2.1++a27 z (0:Int)).length-p.2.2.2.2.1.length=z:=by rw[lN,a41];omega
 simp only[cT,a07];rw[r,n];refine a0D (b4t (by omega)) ?_
 simp only;rw[decide_eq_true (show(0:Int)≤((p.2.2.2.2.1.length:Nat):Int)by omega),decide_eq_true (show((p.2.2.2.2.1.length:Nat):Int)≤(((p.2.2.2.2.1++a27 z (0:Int)).length:Nat):Int)by rw[lN];omega),tN,b64,a0C (by omega),b1,b2];have o:(p.1,p.2.1,p.2.2.1,false,p.2.2.2.2.1,())=p:=by rw[←hp.ng]
 simp only[cT,a07,o,a8S hp.toPgOk,oB]
theorem a9U:∀(k n i:Nat),i<k→(a2v n k)[i]?=some ((n / 256^i%256:Nat):Int)
 |0,_,_,h=>absurd h (Nat.not_lt_zero _)
 |k+1,n,0,_=>by simp[a2v]
 |k+1,n,i+1,h=>by
  have:=a9U k (n / 256) i (by omega)
  rw[a2v,List.getElem?_cons_succ,this,a99,a81,b50]
theorem b5X{k:Nat}(h:i<k):(a1h n k)[i]?=some ((n / 256^(k-1-i)%256:Nat):Int):=by
 rw[a1h,List.getElem?_reverse (by rw[a4P];exact h),a4P,a9U k n _ (by omega)]
theorem b7n(h:o≤64):E0j .u64 (N:Int) (o:Int)=((N / 2^o:Nat):Int):=b7k h
theorem a9f{k:Nat}(p:1≤k)(j:k≤8):a2Y ((n:Int),(k:Int))=some (a1h n k):=by
 unfold a2Y;have e:wrap .i64 (y0d (y0e (k:Int) 8) 0-1)=((k-1:Nat):Int):=by
  have c:y0e (k:Int) 8=(k:Int):=by
   unfold y0e;rw[decide_eq_false (show ¬ (8:Int)<(k:Int)by omega)];rfl
  rw[c,a9u,w64 (by omega)];omega
 simp only[e];have l:=a1d n k
 have:=a0E (f:=a5M) (fun i=>((n:Int),(((k:Int)-1)-(i:Int)),(a1h n k).take i,())) k (b:=(a1h n k,())) (fun i hi=>?_) ?_
 rw[a57,show(k:Int)-1-((0:Nat):Int)=((k-1:Nat):Int)by omega]at this;exact a0D this rfl;unfold a5M;simp only;have m:wrap .i64 (8*((k:Int)-1-(i:Int)))=((8*(k-1-i):Nat):Int):=by rw[w64 (by omega)];omega
 have w2:wrap .u64 ((8*(k-1-i):Nat):Int)=((8*(k-1-i):Nat):Int):=a3v (by omega);have o:wrap .i64 ((k:Int)-1-(i:Int)-1)=(k:Int)-1-((i+1:Nat):Int):=by rw[w64 (by omega)];omega
 have g:2^(8*(k-1-i))=256^(k-1-i):=by rw[Nat.pow_mul]
 have h:i<(a1h n k).length:=by rw[l];exact hi
 have a:(a1h n k)[i]=((n / 256^(k-1-i)%256:Nat):Int):=by
  have:=b5X (n:=n) hi
  rw[lG h]at this;exact Option.some.inj this
 rw[decide_eq_true (show(k:Int)-1-(i:Int)≥0 by omega),m,w2,o,b7n (by omega),b7l,g];rw[decide_eq_false (show ¬ ((8*(k-1-i):Nat):Int)<0 by omega),a0C (by rw[a01];omega),a04 h,a];rfl;unfold a5M;simp only;rw[decide_eq_false (show ¬ (k:Int)-1-(k:Int)≥0 by omega),a28 (by omega)];rfl
theorem b1N(l:List Int):a2j l=a0Y l:=by
 have o:∀(s:Int)(n i:Int),y0h a3z (l,s,i,(0:Int),())=(y0h a0X (s,l,n,i,(0:Int),())).map fun r=>(r.2.1,r.1,r.2.2.2.1,()):=fun s n i=>by
  have:=a6l (f:=a0X) (g:=a3z) (fun a=>(a.2.1,a.1,a.2.2.2.1,a.2.2.2.2.1,())) (fun r=>(r.2.1,r.1,r.2.2.2.1,())) (fun _=>True) (fun a _=>⟨by
   unfold a3z a0X;simp only;cases decide (a.2.2.2.2.1<8)with
   |false=>rfl
   |true=>
    simp only[cT];cases (bits .u32 .and a.1 1)==1<;>rfl,fun _ _=>trivial⟩) (s:=(s,l,n,i,(0:Int),())) trivial
  exact this
 have p:=a6l (f:=a1G) (g:=a3A) (fun a=>(a.2.1,a.1,a.2.2.2.1,())) (fun r=>(r.1,())) (fun a=>a.2.1=l∧a.2.2.1=((l.length:Nat):Int)) (fun a j=>by
  obtain⟨s,x,n,i,u⟩:=a;obtain⟨rfl,B⟩:=j;simp only at B;subst B;have z:∀(s n i:Int) r,y0h a0X (s,x,n,i,(0:Int),())=some r→r.2.1=x∧r.2.2.1=n:=fun s n i r q=>by
   have h:=b1m (f:=a0X) (fun m a=>a.2.1=x∧a.2.2.1=n∧(a.2.2.2.2.1+(m:Int)=8)∧0≤a.2.2.2.2.1) (fun r=>r.2.1=x∧r.2.2.1=n) (fun m a j=>by
    obtain⟨t,y,D,E⟩:=j;unfold a0X
    by_cases h8:a.2.2.2.2.1<8
    left;rw[decide_eq_true h8];simp only[cT];have w:wrap .i64 (a.2.2.2.2.1+1)=a.2.2.2.2.1+1:=w64 (by omega);rw[w];cases (bits .u32 .and a.1 1)==1;exact⟨_,m-1,rfl,by omega,t,y,by show a.2.2.2.2.1+1+((m-1:Nat):Int)=8;omega,by show 0≤a.2.2.2.2.1+1;omega⟩;exact⟨_,m-1,rfl,by omega,t,y,by show a.2.2.2.2.1+1+((m-1:Nat):Int)=8;omega,by show 0≤a.2.2.2.2.1+1;omega⟩;right;rw[decide_eq_false h8];exact⟨_,rfl,t,y⟩) 8 (s,x,n,i,(0:Int),()) ⟨rfl,rfl,rfl,b31 0⟩
   obtain⟨b,A,C⟩:=h;rw[q]at A;cases A;exact C
  refine⟨?_,fun s' c=>?_⟩
  ·unfold a3A a1G;simp only;cases hd:decide (i<((x.length:Nat):Int))with
   |false=>rfl
   |true=>
    simp only[cT];cases hg:n0s x i with
    |none=>rfl
    |some v=>
     simp only[oB];rw[o (bits .u32 .xor s (wrap .u32 v)) ((x.length:Nat):Int) i];cases y0h a0X (bits .u32 .xor s (wrap .u32 v),x,((x.length:Nat):Int),i,(0:Int),())<;>rfl
  ·unfold a1G at c;simp only at c;cases hd:decide (i<((x.length:Nat):Int))with
   |false=>rw[hd]at c;cases c
   |true=>
    rw[hd]at c;simp only[cT]at c;cases hg:n0s x i with
    |none=>rw[hg]at c;cases c
    |some v=>
     rw[hg]at c;simp only[oB]at c;cases q:y0h a0X (bits .u32 .xor s (wrap .u32 v),x,((x.length:Nat):Int),i,(0:Int),())with
     |none=>rw[q]at c;cases c
     |some r=>
      rw[q]at c;cases c;exact z _ _ _ r q) (s:=((4294967295:Int),l,((l.length:Nat):Int),(0:Int),())) ⟨rfl,rfl⟩
 unfold a2j a0Y;have e:y0h a3A (l,(4294967295:Int),(0:Int),())=_:=p;rw[e];cases y0h a1G ((4294967295:Int),l,((l.length:Nat):Int),(0:Int),())<;>rfl
theorem b4u{p:Pk}{s:Int}(h:PkOk s p)(D:0≤s)(E:s<4):a3Z p=some (a0N p,0):=by
 obtain⟨a,g,f,l,j,c,u⟩:=p;obtain⟨o,q,r,t,v,w,x⟩:=h;simp only at o q r t v w x;subst o;have y:wrap .u64 g=((g.toNat:Nat):Int):=by
  have:=a3v (n:=g.toNat) (by omega)
  rwa [show((g.toNat:Nat):Int)=g by omega]at this⊢
 have z:wrap .u64 f=((f.toNat:Nat):Int):=by
  have:=a3v (n:=f.toNat) (by omega)
  rwa [show((f.toNat:Nat):Int)=f by omega]at this⊢
 have b1:=a9f (n:=g.toNat) (k:=8) (by omega) (by omega);have b2:=a9f (n:=f.toNat) (k:=8) (by omega) (by omega);rw[show((8:Nat):Int)=8 from rfl]at b1 b2;have A:a5l a=some true:=by
  unfold a5l;rw[decide_eq_true (show a≥0 by omega),decide_eq_true (show a<4 by omega)];rfl
 have B:a3u g=some true:=by
  unfold a3u;rw[decide_eq_true (show g≥0 by omega),decide_eq_true (show g≤1125899906842624 by omega)];rfl
 have C:a3u f=some true:=by
  unfold a3u;rw[decide_eq_true (show f≥0 by omega),decide_eq_true (show f≤1125899906842624 by omega)];rfl
 unfold a3Z;simp only[A,B,C,oB,bT,cF];rw[decide_eq_false (show ¬ ((c.length:Nat):Int) > 65536 by omega)];simp only[cF];have key:∀b:Int,wrap .u8 b=a2a (a,g,f,l,j,c,u)→
   ((a2Y (wrap .u64 g,8)).bind fun e=>
    bif lim (2+(a30 e))then(
    (a2Y (wrap .u64 f,8)).bind fun m=>
    bif lim ((a30 (a33 ([wrap .u8 a,wrap .u8 b]:List Int) e))+(a30 m))then(
    bif lim ((a30 (a33 (a33 ([wrap .u8 a,wrap .u8 b]:List Int) e) m))+(a30 c))then some (a33 (a33 (a33 ([wrap .u8 a,wrap .u8 b]:List Int) e) m) c,(0:Int))
    else none)
    else none)
    else none)=some (a0N (a,g,f,l,j,c,u),0):=fun b i=>by
  rw[y,z,b1,b2];simp only[oB,a1d,a16,lN,lC,a06,i];rw[a0C (by omega),a0C (by omega),a0C (by omega)];simp only[cT,a0N,aA]
 cases l<;>cases j;simp only[cF,oB];exact key 0 (by kernel_rfl);simp only[cT,cF,oB];exact key _ (by kernel_rfl);simp only[cT,cF,oB];exact key 1 (by kernel_rfl);simp only[cT,oB];exact key _ (by kernel_rfl)
theorem b2W(p:Pge):a5N p=some (mkI p):=by
 obtain⟨a,b,c,d⟩:=p;cases b<;>cases c<;>kernel_rfl
theorem b5k(h:PgOk p):a4o p=some (pgB p,0):=by
 obtain⟨s,t,u,a⟩:=h;have v:p.2.2.2.2.1.length≤255:=by
  revert a
  cases p.2.2.2.1<;>simp only[cT,cF]<;>omega
 have e:a2Z (((p.2.2.2.2.1.length:Nat):Int),p.2.2.2.1)=some true:=by
  unfold a2Z;simp only;rw[decide_eq_true (show((p.2.2.2.2.1.length:Nat):Int)≥1 by omega)];simp only[cT]
  by_cases h252:((p.2.2.2.2.1.length:Nat):Int)≤252
  rw[decide_eq_true h252];rfl;rw[decide_eq_false h252]
  revert a
  cases p.2.2.2.1;simp only[cF];intro a;omega;intro _;rw[decide_eq_true (show((p.2.2.2.2.1.length:Nat):Int)≤255 by omega)];rfl
 have m:wrap .u64 p.1=((p.1.toNat:Nat):Int):=by
  have:=a3v (n:=p.1.toNat) (by omega)
  rwa [show((p.1.toNat:Nat):Int)=p.1 by omega]at this⊢
 have b1:=a9f (n:=p.1.toNat) (k:=4) (by omega) (by omega);rw[show((4:Nat):Int)=4 from rfl]at b1;obtain⟨o,x,y⟩:=a6O (l:=pgH p) (by rw[a6P];omega);have j:wrap .u64 (a1j (pgH p))=(((a1j (pgH p)).toNat:Nat):Int):=by
  have:=a3v (n:=(a1j (pgH p)).toNat) (by omega)
  rwa [show(((a1j (pgH p)).toNat:Nat):Int)=a1j (pgH p)by omega]at this⊢
 have b2:=a9f (n:=(a1j (pgH p)).toNat) (k:=4) (by omega) (by omega);rw[show((4:Nat):Int)=4 from rfl]at b2;obtain⟨m0,w⟩:=a7o p;have key:∀g:Int,wrap .u8 g=pgF p→
   ((a2Y (wrap .u64 p.1,4)).bind fun f=>
    bif lim (3+(a30 f))then(
    bif lim ((a30 (a33 ([75,80,wrap .u8 g]:List Int) f))+1)then(
    bif lim ((a30 (a33 (a33 ([75,80,wrap .u8 g]:List Int) f) ([wrap .u8 ((a30 p.2.2.2.2.1:Nat):Int)]:List Int)))+(a30 p.2.2.2.2.1))then(
    (a2j (a33 (a33 (a33 ([75,80,wrap .u8 g]:List Int) f) ([wrap .u8 ((a30 p.2.2.2.2.1:Nat):Int)]:List Int)) p.2.2.2.2.1)).bind fun r=>
    (a2Y (wrap .u64 r,4)).bind fun c=>
    bif lim ((a30 (a33 (a33 (a33 ([75,80,wrap .u8 g]:List Int) f) ([wrap .u8 ((a30 p.2.2.2.2.1:Nat):Int)]:List Int)) p.2.2.2.2.1))+(a30 c))then some (a33 (a33 (a33 (a33 ([75,80,wrap .u8 g]:List Int) f) ([wrap .u8 ((a30 p.2.2.2.2.1:Nat):Int)]:List Int)) p.2.2.2.2.1) c,(0:Int))
    else none)
    else none)
    else none)
    else none)=some (pgB p,0):=fun g b=>by
  have i:a33 (a33 (a33 ([75,80,pgF p]:List Int) (a1h p.1.toNat 4)) ([wrap .u8 ((a30 p.2.2.2.2.1:Nat):Int)]:List Int)) p.2.2.2.2.1=pgH p:=by
   simp only[pgH,pgF,a16,aA]
  rw[m,b1,b];simp only[oB,i,b1N,o,j,b2];simp only[a1d,a16,lN,lC,a06,a6P];rw[a0C (by omega),a0C (by omega),a0C (by omega),a0C (by omega)];rfl
 unfold a4o;rw[decide_eq_false (show ¬ p.1<0 by omega),decide_eq_false (show ¬ p.1 > 2147483647 by omega)];simp only[cF,e,oB,bT,b2W];have hv:=b2N p;cases hg:p.2.2.2.1 with
 |false=>
  rw[hg]at hv;simp only[cF,oB];refine key (mkI p) ?_
  have:wrap .u8 (mkI p)=mkI p:=by
   have:=a5Y (n:=(mkI p).toNat) (by omega)
   rwa [show(((mkI p).toNat:Nat):Int)=mkI p by omega]at this
  rw[this,hv];unfold mkI;simp only[cF];omega
 |true=>
  rw[hg]at hv;simp only[cT,oB];refine key _ ?_
  have q:wrap .i64 (mkI p+4)=mkI p+4:=w64 (by omega)
  have:wrap .u8 (mkI p+4)=mkI p+4:=by
   have:=a5Y (n:=(mkI p+4).toNat) (by omega)
   rwa [show(((mkI p+4).toNat:Nat):Int)=mkI p+4 by omega]at this
  rw[q,this,hv];unfold mkI;simp only[cT];omega
theorem b1O(a b:Nat):y0e (a:Int) (b:Int)=((min a b:Nat):Int):=by
 unfold y0e
 by_cases hc:((b:Nat):Int)<((a:Nat):Int)
 rw[decide_eq_true hc,a62 (by omega)];rfl;rw[decide_eq_false hc,a60 (by omega)];rfl
theorem b6J{i0:Int}{x:List Pk}{pages:List Pge}(r:b≠[])(o:pages.length+b.length<1000000):
  y0h a3p (x,(0:Int),i0,(0:Int),pages,b,())=some (x,(0:Int),i0,pages++a1D true pages.length b,()):=by
 refine a1H (f:=a3p) (fun k j=>∃(i:Nat)(Q:List Pge),j=(x,(0:Int),i0,(i:Int),Q,b,())∧k=(b.drop i).length∧i≤b.length+252∧Q.length+(b.drop i).length<1000000∧Q++a1D (decide (i=0)) Q.length (b.drop i)=pages++a1D true pages.length b)
  (fun w=>w=(x,(0:Int),i0,pages++a1D true pages.length b,())) b.length (x,((0:Nat):Int),i0,((0:Nat):Int),pages,b,()) ⟨0,pages,rfl,rfl,by omega,o,rfl⟩ (fun w e n=>by rw[n]at e;exact e) (fun k j c=>?_)
 obtain⟨i,Q,rfl,rfl,hi,s,a⟩:=c;have t:(b.drop i).length=b.length-i:=a00;unfold a3p;simp only
 by_cases hlt:i<b.length
 left;have p:b.drop i≠[]:=a02.1 (by omega);rw[decide_eq_true (show(i:Int)<((b.length:Nat):Int)by omega)];have q:wrap .i64 ((0:Int)+((Q.length:Nat):Int))=((Q.length:Nat):Int):=by rw[w64 (by omega)];omega
 have w2:wrap .i64 ((i:Int)+252)=((i+252:Nat):Int):=by rw[w64 (by omega)];omega
 rw[q,w2,b1O];have g:a38 ((a23 ((min (i+252) b.length:Nat):Int))-(a23 (i:Int))) (a43 (a23 (i:Int)) b)=(b.drop i).take 252:=by
  rw[tN,tN]
  by_cases hc:i+252<b.length
  rw[a60 (by omega),show i+252-i=252 by omega];rw[a62 (by omega),a28 (by omega),a28 (by omega)]
 rw[g,tN,a0C (show 0+((b.drop i).take 252).length<2147483648 by rw[a01];omega),a0C (show Q.length+1<2147483648 by omega)];rw[decide_eq_true (show(0:Int)≤((min (i+252) b.length:Nat):Int)by omega),decide_eq_true (show((min (i+252) b.length:Nat):Int)≤((b.length:Nat):Int)by omega),decide_eq_true (show(0:Int)≤(i:Int)by omega),decide_eq_true (show(i:Int)≤((min (i+252) b.length:Nat):Int)by omega)];have l:((i:Int)==0)=decide (i=0):=by
  by_cases h:i=0
  rw[h];rfl;rw[decide_eq_false h];simp;omega
 have m:(((min (i+252) b.length:Nat):Int)==((b.length:Nat):Int))=decide ((b.drop i).length≤252):=by
  by_cases h:(b.drop i).length≤252
  rw[decide_eq_true h];simp;omega;rw[decide_eq_false h];simp;omega
 rw[l,m];simp only[cT,a07];refine⟨_,(b.drop (i+252)).length,rfl,by simp only[a00];omega,i+252,Q++[((Q.length:Int),decide (i=0),decide ((b.drop i).length≤252),false,(b.drop i).take 252,())],rfl,rfl,by omega,?_,?_⟩;simp only[lN,a08,a00];omega;rw[←a,a2w p,a88];simp only[aA,a49,lN,a08];rw[decide_eq_false (show ¬ i+252=0 by omega)];right;rw[decide_eq_false (show ¬ (i:Int)<((b.length:Nat):Int)by omega)];have h:b.drop i=[]:=a48.2 (by omega);rw[h,a2k,a03]at a;exact⟨_,rfl,by rw[a]⟩
theorem b1P{Z:List Pk}(h:∀p∈Z,a5Z p)(j:Z.length<40):∀(rest done:List Pk)(pages:List Pge),done++rest=Z→pages.length+1000*rest.length<1000000→
  y0h a3q (Z,(0:Int),((done.length:Nat):Int),pages,())=some (.inl ((0:Int),pages++a0O pages.length (rest.map a0N),()))
 | [],done,pages,he,_=>by
  rw[a03]at he;subst he;refine a0V ?_
  unfold a3q;simp only;rw[decide_eq_false (by omega),b28,a0O,a03];rfl
 |q::rest,done,pages,he,hn=>by
  have f:done.length+(rest.length+1)=Z.length:=by rw[←he,lN,lC]
  rw[lC]at hn;obtain⟨s,a,b,c⟩:=h q (by rw[←he];simp);have g:(a0N q).length≤918:=by
   have:=a.dat
   rw[a4v];omega
  have e:=a5A (a0N q).length true pages.length (a0N q) (a11 _);have i:n0s Z ((done.length:Nat):Int)=some q:=by
   have:done.length<Z.length:=by omega
   rw[a0F this];congr 1;subst he;rw[a74 (a11 _)]
   simp
  have l:=b1P h j rest (done++[q]) (pages++a1D true pages.length (a0N q)) (by rw[←he,aA];rfl) (by rw[lN];omega);rw[a56,a0O,←aA,show pages.length+(a1D true pages.length (a0N q)).length=(pages++a1D true pages.length (a0N q)).length by rw[lN],←l];refine a1t ?_
  unfold a3q;simp only;rw[decide_eq_true (show((done.length:Nat):Int)<((Z.length:Nat):Int)by omega),i];simp only[cT,oB,b4u a b c,bne_self_eq_false,cF];rw[b6J (a6N q) (by omega)];simp only[oB];rw[w64 (by omega),lN,a08];rfl
theorem b5l(h:Woven Z):a4n (Z,0)=some (a0H Z,0):=by
 have a:=h.len;have g:=a3O h;unfold a4n;simp only;rw[decide_eq_false (show ¬ (0:Int)<0 by decide),decide_eq_false (show ¬ (0:Int) > 2147483647 by decide)];simp only[cF,oB]
 have:=b1P h.pk (by omega) Z [] [] rfl (by rw[a06];omega)
 rw[a05,a06]at this;refine a0D (v:=.inl ((0:Int),a0H Z,())) this ?_
 simp only
 by_cases hp:((a30 (a0H Z):Nat):Int) > 0
 rw[decide_eq_true hp];have f:wrap .i64 ((0:Int)+((a30 (a0H Z):Nat):Int))=((a30 (a0H Z):Nat):Int):=by rw[w64 (by omega)];omega
 have w2:wrap .i64 (((a30 (a0H Z):Nat):Int)-1)=((a30 (a0H Z):Nat):Int)-1:=w64 (by omega);rw[f,w2];simp only[cT,oB];rw[decide_eq_false (by omega)];rfl;rw[decide_eq_false hp];rfl
def yy(y0 b:List Int)(k:Nat):List Int:=(a61 (2+max (y0.length-2) k)).map fun j=>if 2≤j∧j<k+2 then bx (y0.getD j 0) (b.getD (j-2) 0)else y0.getD j 0
theorem a7P(h b:List Int)(k:Nat):(yy h b k).length=2+max (h.length-2) k:=by rw[yy,a44,a75]
theorem a9g{y0:List Int}{k:Nat}(g:2≤y0.length)(j:Nat):(yy y0 b k).getD j 0=if 2≤j∧j<k+2 then bx (y0.getD j 0) (b.getD (j-2) 0)else y0.getD j 0:=by
 by_cases h:j<2+max (y0.length-2) k
 rw[lD,yy,a86,a93 h];rfl;rw[a3b (by rw[a7P];omega),if_neg (by omega),a3b (by omega)]
theorem b4v{y0:List Int}(hp:n0s l (i:Int)=some p)(w:p.2.2.2.2.1.length≤252)(e:2≤y0.length)(v:y0.length≤300):
  y0h a3L (l,(i:Int),(0:Int),y0,())=some (l,(i:Int),yy y0 p.2.2.2.2.1 p.2.2.2.2.1.length,()):=by
 have:=a0E (f:=a3L) (fun k=>(l,(i:Int),(k:Int),yy y0 p.2.2.2.2.1 k,())) p.2.2.2.2.1.length (b:=(l,(i:Int),yy y0 p.2.2.2.2.1 p.2.2.2.2.1.length,())) (fun k n=>?_) ?_
 have o:yy y0 p.2.2.2.2.1 0=y0:=a4y (by rw[a7P];omega) fun j _=>by rw[a9g e,if_neg (by omega)]
 rw[o]at this;exact this
 ·unfold a3L;simp only[hp,oB];have w2:wrap .i64 ((k:Int)+2)=((k+2:Nat):Int):=by rw[w64 (by omega)];omega
  have s:=a7P y0 p.2.2.2.2.1 k;have q:p.2.2.2.2.1.getD k 0=p.2.2.2.2.1[k]:=by rw[lD,lG n];rfl
  rw[decide_eq_true (show(k:Int)<((p.2.2.2.2.1.length:Nat):Int)by omega),w2];have a:∀g:List Int,g.length=2+max (y0.length-2) (k+1)→(∀j,g.getD j 0=(yy y0 p.2.2.2.2.1 k).getD j 0)→
    ((show Option (List Pge×(Int×(Int×(List Int×Unit))))from some (l,(i:Int),(k:Int),g,())).bind fun h=>
     bif (decide ((0:Int)≤(wrap .i64 (h.2.2.1+2))))&&(decide ((wrap .i64 (h.2.2.1+2))<((a30 h.2.2.2.1:Nat):Int)))then(
     (n0s h.1 h.2.1).bind fun t=>
     (n0s t.2.2.2.2.1 h.2.2.1).bind fun u=>
     bif (decide ((0:Int)≤(wrap .i64 (h.2.2.1+2))))&&(decide ((wrap .i64 (h.2.2.1+2))<((a30 h.2.2.2.1:Nat):Int)))then(some (Sum.inl (h.1,h.2.1,wrap .i64 (h.2.2.1+1),b41 h.2.2.2.1 (a23 (wrap .i64 (h.2.2.1+2))) (bits .u8 .xor (a36 h.2.2.2.1 (a23 (wrap .i64 (h.2.2.1+2))) (0:Int)) u),())):Option ((List Pge×(Int×(Int×(List Int×Unit)))) ⊕ (List Pge×(Int×(List Int×Unit)))))
     else none)
     else none)=(some (Sum.inl (l,(i:Int),((k+1:Nat):Int),yy y0 p.2.2.2.2.1 (k+1),())):Option ((List Pge×(Int×(Int×(List Int×Unit)))) ⊕ (List Pge×(Int×(List Int×Unit))))):=fun g m c=>by
   simp only[oB,w2,hp];rw[decide_eq_true (show(0:Int)≤((k+2:Nat):Int)by omega),decide_eq_true (show((k+2:Nat):Int)<((g.length:Nat):Int)by omega),a0F n,tN];simp only[cT,a07,oB];have r:g.set (k+2) (bits .u8 .xor (g.getD (k+2) 0) p.2.2.2.2.1[k])=yy y0 p.2.2.2.2.1 (k+1):=a4y (by rw[a31,a7P];exact m) fun j x=>by
    rw[a8z,a9g e,c,c,a9g e,a9g e]
    by_cases hjk:k+2=j
    subst hjk;rw[if_pos ⟨rfl,by omega⟩,if_neg (by omega),if_pos (by omega),show k+2-2=k by omega,q];rfl;rw[if_neg (by omega)]
    by_cases hj2:2≤j∧j<k+2
    rw[if_pos hj2,if_pos (by omega)];rw[if_neg hj2,if_neg (by omega)]
   rw[r,w64 (by omega)];rfl
  simp only[cT]
  by_cases hpad:(((yy y0 p.2.2.2.2.1 k).length:Nat):Int)≤((k+2:Nat):Int)
  rw[decide_eq_true hpad,a0C (by omega)];simp only[cT];refine a _ (by rw[a16,lN,a08];omega) fun j=>?_
  have:=a7p (yy y0 p.2.2.2.2.1 k) 1 j
  exact this;rw[decide_eq_false hpad];simp only[cF];exact a _ (by omega) fun j=>rfl
 unfold a3L;simp only[hp,oB];rw[decide_eq_false (by omega)];rfl
theorem b5Y(o:∀p∈l,PgByt p)(w:l.length≤1000):a5O l=some (xr l):=by
 unfold a5O
 have:=a0E (f:=a4J) (fun i=>(l,(i:Int),xr (l.take i),())) l.length (b:=(xr l,())) (fun i hi=>?_) ?_
 exact a0D this rfl
 ·have hp:=o l[i] (a17 hi);have h:=hp.len;obtain⟨g,t2⟩:=a5H (a:=[0,0]) (by decide) (by decide) (l.take i) fun p hp=>o p (a09 hp);have g:2≤(xr (l.take i)).length:=g;have t2:(xr (l.take i)).length≤254:=t2;have m:=a7O (l.take i);obtain⟨m0,x⟩:=a7o l[i];have e:xr (l.take (i+1))=a4U (xr (l.take i)) (pgD l[i]):=by
   rw[a04 hi];unfold xr;rw[a9E];rfl
  have u:wrap .u8 (mkI l[i])=mkI l[i]:=by
   have:=a5Y (n:=(mkI l[i]).toNat) (by omega)
   rwa [show(((mkI l[i]).toNat:Nat):Int)=mkI l[i]by omega]at this
  have t:wrap .u8 (((l[i]).2.2.2.2.1.length:Nat):Int)=(((l[i]).2.2.2.2.1.length:Nat):Int):=a5Y (by omega);unfold a4J;simp only;rw[decide_eq_true (show(i:Int)<((l.length:Nat):Int)by omega),decide_eq_true (show(0:Int)<(((xr (l.take i)).length:Nat):Int)by omega),a0F hi,decide_eq_true (show(1:Int)<(((xr (l.take i)).length:Nat):Int)by omega)];simp only[cT,oB,b2W,a31,u,t]
  try rw[decide_eq_true (show(0:Int)<(((xr (l.take i)).length:Nat):Int)by omega)]
  try rw[decide_eq_true (show(1:Int)<(((xr (l.take i)).length:Nat):Int)by omega)]
  try simp only[cT]
  rw[b4v (a0F hi) h (by rw[a31,a31];exact g) (by rw[a31,a31];omega)];simp only[oB];rw[e,w64 (by omega)];have s:=a6h l[i];have r:yy (((xr (l.take i)).set 0 (bits .u8 .xor ((xr (l.take i)).getD 0 0) (mkI l[i]))).set 1 (bits .u8 .xor ((xr (l.take i)).getD 1 0) (((l[i]).2.2.2.2.1.length:Nat):Int))) (l[i]).2.2.2.2.1 (l[i]).2.2.2.2.1.length=a4U (xr (l.take i)) (pgD l[i]):=by
   refine a4y ?_ fun j v=>?_
   rw[a7P,a5d,s,a31,a31];omega
   ·rw[a9g (by rw[a31,a31];exact g),a4Q];simp only[a8z,a31]
    match j with
    |0=>rw[if_neg (by omega),if_neg (by omega),if_pos ⟨rfl,by omega⟩];rfl
    | 1=>rw[if_neg (by omega),if_pos ⟨rfl,by omega⟩];rfl
    |j+2=>
     have q:(pgD l[i]).getD (j+2) 0=(l[i]).2.2.2.2.1.getD j 0:=by
      rw[lD,lD,pgD,a35 (by simp)];congr 2
     rw[q]
     by_cases hj2:j<(l[i]).2.2.2.2.1.length
     rw[if_pos ⟨by omega,by omega⟩,if_neg (by omega),if_neg (by omega),show j+2-2=j by omega];rw[if_neg (by omega),if_neg (by omega),if_neg (by omega),a3b (l:=(l[i]).2.2.2.2.1) (by omega),b2T (m.at _)]
  have c:=r;rw[c];rfl
 unfold a4J;simp only;rw[decide_eq_false (by omega),a20];rfl
theorem b4w(hp:∀p∈l,PgPlain p)(c:a1K 0 l)(m:l.length<1000000):y0h a2s (l,(0:Int),())=some (.inl (l,())):=by
 have:=a0E (f:=a2s) (fun i=>(l,(i:Int),())) l.length (b:=.inl (l,())) (fun i hi=>?_) ?_
 exact this;have h:=hp l[i] (a17 hi);have g:=(c i l[i] (lG hi)).1;rw[a68]at g;have e:wrap .i64 ((i:Int)+1)=((i+1:Nat):Int):=by rw[w64 (by omega)];omega
 unfold a2s;simp only;rw[decide_eq_true (show(i:Int)<((l.length:Nat):Int)by omega),a0F hi];simp only[cT,oB,b5k h.toPgOk,bne_self_eq_false,cF,h.ng]
 by_cases h0:i=0
 subst h0;rw[decide_eq_false (show ¬ ((0:Nat):Int) > 0 by decide)];simp only[cF,oB,e];rw[decide_eq_true (show(i:Int) > 0 by omega)];have w2:wrap .i64 ((i:Int)-1)=((i-1:Nat):Int):=by rw[w64 (by omega)];omega
 have a:=(c (i-1) l[i-1] (lG (by omega))).1;rw[a68]at a;rw[w2,a0F (show i-1<l.length by omega)];have j:wrap .i64 (((i-1:Nat):Int)+1)=(i:Int):=by rw[w64 (by omega)];omega
 simp only[cT,oB,g,a,j,bne_self_eq_false,cF,e];unfold a2s;simp only;rw[decide_eq_false (by omega)];rfl
theorem b4x{out:List Pge}{a:Int}(hp:∀p∈g,PgPlain p)(c:out.length+g.length<1000000):y0h a2t (l,a,g,(0:Int),out,())=some (l,a,g,out++g,()):=by
 have:=a0E (f:=a2t) (fun i=>(l,a,g,(i:Int),out++g.take i,())) g.length (b:=(l,a,g,out++g,())) (fun i hi=>?_) ?_
 rw[a57,a03]at this;exact this;have h:=(hp g[i] (a17 hi)).b2;unfold a2t;simp only;rw[decide_eq_true (show(i:Int)<((g.length:Nat):Int)by omega),a0F hi];simp only[cT,oB];rw[a0C (by omega),a0C (by rw[lN,a01];omega),a04 hi,w64 (by omega)];simp only[cT,a16,aA,a05];rfl;unfold a2t;simp only;rw[decide_eq_false (by omega),a20];rfl
theorem b5m(hp:∀p∈l,PgPlain p)(A:∀p∈l,PgByt p)(C:a1K 0 l)(E:l.length<100000):a4p l=some (a0J l,0):=by
 unfold a4p;refine a0D (b4w hp C (by omega)) ?_
 simp only;refine a0D (v:=(a0J l,())) ?_ rfl;refine a1H (f:=a4u) (fun k s=>∃(i:Nat)(out:List Pge),s=(l,(i:Int),out,())∧k=(l.drop i).length∧i≤l.length+8∧out.length≤2*i∧out++a0J (l.drop i)=a0J l) (fun w=>w=(a0J l,())) l.length (l,(0:Int),([]:List Pge),()) ⟨0,[],rfl,rfl,by omega,by simp,rfl⟩ (fun w r z=>by rw[z]at r;exact r) (fun k s q=>?_);obtain⟨i,out,rfl,rfl,hi,F,j⟩:=q;have G:(l.drop i).length=l.length-i:=a00;unfold a4u;simp only
 by_cases h:i<l.length
 left;have n:l.drop i≠[]:=a02.1 (by omega);have w2:wrap .i64 ((i:Int)+8)=((i+8:Nat):Int):=by rw[w64 (by omega)];omega
 have b:a43 (a23 (i:Int)) (a38 (a23 ((min (i+8) l.length:Nat):Int)) l)=(l.drop i).take 8:=by
  rw[tN,tN,b34]
  by_cases hc:i+8<l.length
  rw[a60 (by omega),show i+8-i=8 by omega];rw[a62 (by omega),a28 (by omega),a28 (by omega)]
 have B:∀p∈(l.drop i).take 8,PgPlain p:=fun p o=>hp p (a19 (a09 o));have g:∀p∈(l.drop i).take 8,PgByt p:=fun p o=>A p (a19 (a09 o));have lg:((l.drop i).take 8).length≤8:=by rw[a01];omega
 have c:(l.drop i).take 8≠[]:=a02.1 (by rw[a01];omega);obtain⟨H,t⟩:=a5H (a:=[0,0]) (by decide) (by decide) ((l.drop i).take 8) g;have t:(xr ((l.drop i).take 8)).length≤254:=t;have m:=a02.2 c;have u:n0s ((l.drop i).take 8) 0=some (((l.drop i).take 8).head c):=by
  have:=a0F (l:=(l.drop i).take 8) (k:=0) m
  rw[show((0:Nat):Int)=0 from rfl]at this;rw[this,a89]
 have D:wrap .u8 ((((l.drop i).take 8).length:Nat):Int)=((((l.drop i).take 8).length:Nat):Int):=a5Y (by omega);rw[w2,b1O,b,decide_eq_true (show(i:Int)<((l.length:Nat):Int)by omega),tN];rw[decide_eq_true (show(0:Int)≤((min (i+8) l.length:Nat):Int)by omega),decide_eq_true (show((min (i+8) l.length:Nat):Int)≤((l.length:Nat):Int)by omega),decide_eq_true (show(0:Int)≤(i:Int)by omega),decide_eq_true (show(i:Int)≤((min (i+8) l.length:Nat):Int)by omega)];simp only[cT,a07];rw[b4x B (by omega)];simp only[oB,u,b5Y g (by omega),D];rw[a0C (by omega),a0C (by rw[lN];omega),w2];simp only[cT];have x:(((((l.drop i).take 8).head c).1,false,false,true,a33 ([((((l.drop i).take 8).length:Nat):Int)]:List Int) (xr ((l.drop i).take 8)),()):Pge)=gOf ((l.drop i).take 8):=by
  rw[b5E g c lg];rfl
 have e:=x;refine⟨_,(l.drop (i+8)).length,rfl,by simp only[a00];omega,i+8,(out++(l.drop i).take 8)++[gOf ((l.drop i).take 8)],by rw[←e];rfl,rfl,by omega,?_,?_⟩;simp only[lN,a08,a01];omega;rw[←j,a2R n,a88];simp only[aA,a49];right;rw[decide_eq_false (show ¬ (i:Int)<((l.length:Nat):Int)by omega)];have y:l.drop i=[]:=a48.2 (by omega);rw[y,a1L,a03]at j;exact⟨_,rfl,by rw[j]⟩
theorem a9h:∀{A B:List Pk},Asc A→Asc B→(∀p∈A,0≤p.1)→(∀p∈B,0≤p.1)→(∀s,ofS s A=ofS s B)→A=B
 | [],[],_,_,_,_,_=>rfl
 | [],q::B,_,_,_,hB,h=>by
  have f:=h q.1.toNat
  have i:=hB q (by simp)
  have:q∈ofS q.1.toNat (q::B):=a58.2 ⟨by simp,decide_eq_true (by omega)⟩
  rw[←f]at this;cases this
 |p::A,[],_,_,hA,_,h=>by
  have f:=h p.1.toNat
  have i:=hA p (by simp)
  have:p∈ofS p.1.toNat (p::A):=a58.2 ⟨by simp,decide_eq_true (by omega)⟩
  rw[f]at this;cases this
 |p::A,q::B,aA,aB,hA,hB,h=>by
  have l:=hA p (by simp);have m:=hB q (by simp);have hp:p∈q::B:=by
   have:p∈ofS p.1.toNat (p::A):=a58.2 ⟨by simp,decide_eq_true (by omega)⟩
   rw[h]at this;exact(a58.1 this).1
  have j:q∈p::A:=by
   have:q∈ofS q.1.toNat (q::B):=a58.2 ⟨by simp,decide_eq_true (by omega)⟩
   rw[←h]at this;exact(a58.1 this).1
  have e:p=q:=by
   rcases mC.1 hp with f|f;exact f;rcases mC.1 j with h2|h2;exact h2.symm;have b:=(a34.1 aB).1 p f;have c:=(a34.1 aA).1 q h2;unfold klt at b c;simp only[Bool.or_eq_false_iff,Bool.and_eq_false_iff,decide_eq_false_iff_not]at b c;have g:=h p.1.toNat
   unfold ofS at g;rw[b03,b03,if_pos (decide_eq_true (by omega)),if_pos (decide_eq_true (by omega))]at g;exact(List.cons.inj g).1
  subst e;rw[a9h (a34.1 aA).2 (a34.1 aB).2 (fun x a=>hA x (by simp[a])) (fun x a=>hB x (by simp[a])) fun s=>?_];have g:=h s;unfold ofS at g⊢;rw[b03,b03]at g
  by_cases hs:p.1=(s:Int)
  rw[if_pos (decide_eq_true hs),if_pos (decide_eq_true hs)]at g;exact(List.cons.inj g).2;rw[if_neg (by rw[decide_eq_false hs];decide),if_neg (by rw[decide_eq_false hs];decide)]at g;exact g
abbrev a4V:Type:=List Pk×(Int×(Bool×Unit))
def a5u:Int×(Bool×Unit):=((0:Int),false,())
theorem b3H{L:List α}{l:α}(hi:L[i]?=some l):n0s L (i:Int)=some l:=by
 obtain⟨h,g⟩:=lS.1 hi;rw[a0F h,g]
theorem b7o{l:List Pk}{R:List a4V}(hi:L[i]?=some l)(h:∀p∈l,PkOk (i:Int) p)(c:i<4)(e:l.length<1000000):
  y0h a2I (L,(i:Int),(0:Int),R,())=some (.inl (L,(i:Int),R,())):=by
 have g:=b3H hi
 have:=a0E (f:=a2I) (fun k=>(L,(i:Int),(k:Int),R,())) l.length (b:=.inl (L,(i:Int),R,())) (fun k a=>?_) ?_
 exact this;have hp:=h l[k] (a17 a);unfold a2I;simp only[g,oB];rw[decide_eq_true (show(k:Int)<((l.length:Nat):Int)by omega),a0F a];simp only[cT,oB,b4u hp (show(0:Int)≤(i:Int)by omega) (by omega),bne_self_eq_false,cF,hp.st];rw[w64 (by omega)];rfl;unfold a2I;simp only[g,oB];rw[decide_eq_false (by omega)];rfl
theorem b7p{l:List Pk}{R:List a4V}(hi:L[i]?=some l)(h:l.Pairwise fun p q=>p.2.1≤q.2.1)(e:l.length<1000000):
  y0h a2K (L,(i:Int),(1:Int),R,())=some (.inl (L,(i:Int),R,())):=by
 have g:=b3H hi
 have:=a0E (f:=a2K) (fun k=>(L,(i:Int),((k+1:Nat):Int),R,())) (l.length-1) (b:=.inl (L,(i:Int),R,())) (fun k c=>?_) ?_
 exact this;have hp:=a73.1 h k (k+1) (by omega) (by omega) (by omega);have a:wrap .i64 (((k+1:Nat):Int)-1)=(k:Int):=by rw[w64 (by omega)];omega
 unfold a2K;simp only[g,oB];rw[decide_eq_true (show((k+1:Nat):Int)<((l.length:Nat):Int)by omega),a0F (show k+1<l.length by omega),a,a0F (show k<l.length by omega)];simp only[cT,oB];rw[decide_eq_false (by omega),w64 (by omega)];rfl;unfold a2K;simp only[g,oB];rw[decide_eq_false (by omega)];rfl
def a2B(L:List (List Pk))(k:Nat):List a4V:=(L.take k).map (fun l=>(l,a5u))++a27 (L.length-k) ([],a5u)
theorem b7q(h:StrOk n L)(q:n≤1000):y0h a2J (L,(0:Int),a2B L 0,())=some (.inl (L,a2B L L.length,())):=by
 have p:=h.four
 have:=a0E (f:=a2J) (fun k=>(L,(k:Int),a2B L k,())) L.length (b:=.inl (L,a2B L L.length,())) (fun k a=>?_) ?_
 exact this;have hi:L[k]?=some L[k]:=lG a;have g:=h.ok k _ hi;have o:=g.len;have c:((L.take k).map (fun l=>((l,a5u):a4V))).length=k:=by rw[a44,a01];omega
 have e:a27 (L.length-k) (([],a5u):a4V)=([],a5u)::a27 (L.length-(k+1)) ([],a5u):=by
  rw[←b37];congr 1;omega
 have i:(a2B L k).getD k (([]:List Pk),(0:Int),false,())=([],a5u):=by
  rw[a2B,e,lD,a35 (by omega),c,a67];rfl
 have j:(a2B L k).set k (L[k],a5u)=a2B L (k+1):=by
  rw[a2B,e,a72 _ _ (by omega),c,a67,a95,a2B,a04 a,pA,aA];rfl
 have m:(a2B L k).length=L.length:=by rw[a2B,lN,c,a41];omega
 unfold a2J;simp only;rw[decide_eq_true (show(k:Int)<((L.length:Nat):Int)by omega)];simp only[cT];rw[b7o hi g.ok (by omega) (by omega)];simp only[oB,a0F a,m];rw[a0C (by omega),decide_eq_true (show(0:Int)≤(k:Int)by omega),decide_eq_true (show(k:Int)<((L.length:Nat):Int)by omega),tN,i,w64 (by omega)];simp only[cT,a07,a16,a05,j];rfl;unfold a2J;simp only;rw[decide_eq_false (by omega)];rfl
theorem b7r{R:List a4V}(h:StrOk n L)(i:n≤1000):y0h a2L (L,(0:Int),R,())=some (.inl (R,())):=by
 have e:=h.four
 have:=a0E (f:=a2L) (fun k=>(L,(k:Int),R,())) L.length (b:=.inl (R,())) (fun k a=>?_) ?_
 exact this;have hi:L[k]?=some L[k]:=lG a;have g:=h.ok k _ hi;have c:=g.len;unfold a2L;simp only;rw[decide_eq_true (show(k:Int)<((L.length:Nat):Int)by omega)];simp only[cT];rw[b7p hi g.asc (by omega)];simp only[oB];rw[w64 (by omega)];rfl;unfold a2L;simp only;rw[decide_eq_false (by omega)];rfl
def a9i(R:List a4V)(k:Nat):Option Nat→Prop
 |none=>∀(j:Nat) x,j<k→R[j]?=some x→x.1=[]
 |some b=>b<k∧∃x p r,R[b]?=some x∧x.1=p::r∧∀(j:Nat) y q s,j<k→R[j]?=some y→y.1=q::s→p.2.1<q.2.1∨(p.2.1=q.2.1∧b≤j)
theorem b2X{R:List a4V}(I:R.length<1000):∃b,a4d R=some (a6t b)∧a9i R R.length b:=by
 refine a1H (f:=a5z) (fun k C=>∃(i:Nat)(b:Option Nat),C=(R,a6t b,(i:Int),())∧k=R.length-i∧i≤R.length∧a9i R i b) (fun w=>∃b,w=(a6t b,())∧a9i R R.length b) R.length (R,a6t none,((0:Nat):Int),()) ⟨0,none,rfl,rfl,by omega,fun j x e=>by omega⟩ (fun w H F=>?_) (fun k C A=>?_);obtain⟨b,rfl,G⟩:=F;refine⟨b,?_,G⟩;unfold a4d;exact a0D H rfl
 ·obtain⟨i,b,rfl,rfl,hi,o⟩:=A;unfold a5z;simp only
  by_cases h:i<R.length
  ·left;rw[decide_eq_true (show(i:Int)<((R.length:Nat):Int)by omega),a0F h];simp only[cT,oB];have z:wrap .i64 ((i:Int)+1)=((i+1:Nat):Int):=by rw[w64 (by omega)];omega
   have a:R[i]?=some R[i]:=lG h;cases hx:(R[i]).1 with
   |nil=>
    rw[a06,decide_eq_false (show ¬ ((0:Nat):Int) > 0 by decide)];simp only[cF,oB,z];refine⟨_,R.length-(i+1),rfl,by omega,i+1,b,rfl,rfl,by omega,?_⟩;cases b with
    |none=>
     intro j x e m;rcases a65.1 e with n|n;exact o j x n m;subst n;rw[a]at m;cases m;exact hx
    |some b=>
     obtain⟨n,x,p,r,t,u,v⟩:=o;refine⟨by omega,x,p,r,t,u,fun j y q s e c g=>?_⟩;rcases a65.1 e with h5|h5;exact v j y q s h5 c g;subst h5;rw[a]at c;cases c;rw[hx]at g;cases g
   |cons p r=>
    rw[lC,decide_eq_true (show((r.length+1:Nat):Int) > 0 by omega)];cases b with
    |none=>
     rw[show a6t none=-1 from rfl,decide_eq_true (show(-1:Int)<0 by decide)];simp only[cT,oB,z];refine⟨_,R.length-(i+1),rfl,by omega,i+1,some i,rfl,rfl,by omega,by omega,R[i],p,r,a,hx,fun j y q s e c g=>?_⟩;rcases a65.1 e with h5|h5;rw[o j y h5 c]at g;cases g;subst h5;rw[a]at c;cases c;rw[hx]at g;cases g;exact .inr ⟨rfl,a11 _⟩
    |some b=>
     obtain⟨n,x,p',B,t,u,v⟩:=o;rw[show a6t (some b)=(b:Int)from rfl,decide_eq_false (show ¬ (b:Int)<0 by omega),b3H t];have D:n0s (p::r) (0:Int)=some p:=by exact a0F (l:=p::r) (k:=0) (by simp)
     have E:n0s (p'::B) (0:Int)=some p':=by exact a0F (l:=p'::B) (k:=0) (by simp)
     simp only[cT,cF,oB,hx,u,D,E]
     by_cases hlt:p.2.1<p'.2.1
     rw[decide_eq_true hlt];simp only[cT,z];refine⟨_,R.length-(i+1),rfl,by omega,i+1,some i,rfl,rfl,by omega,by omega,R[i],p,r,a,hx,fun j y q s e c g=>?_⟩;rcases a65.1 e with h5|h5
     have:=v j y q s h5 c g
     omega;subst h5;rw[a]at c;cases c;rw[hx]at g;cases g;exact .inr ⟨rfl,a11 _⟩;rw[decide_eq_false hlt];simp only[cF,z];refine⟨_,R.length-(i+1),rfl,by omega,i+1,some b,rfl,rfl,by omega,by omega,x,p',B,t,u,fun j y q s e c g=>?_⟩;rcases a65.1 e with h5|h5;exact v j y q s h5 c g;subst h5;rw[a]at c;cases c;rw[hx]at g;cases g;omega
  right;rw[decide_eq_false (show ¬ (i:Int)<((R.length:Nat):Int)by omega)]
  have:i=R.length:=by omega
  exact⟨_,rfl,b,rfl,by rw[←this];exact o⟩
def a5v(R:List a4V):Nat:=(R.map fun x=>x.1.length).sum
theorem a9V:∀(R:List a4V)(b:Nat)(x:a4V)(p:Pk)(r:List Pk)(z:Int×(Bool×Unit)),R[b]?=some x→x.1=p::r→a5v (R.set b (r,z))+1=a5v R
 | [],b,x,p,r,z,h,_=>by cases b<;>simp at h
 |y::R,0,x,p,r,z,h,hx=>by
  simp only[List.getElem?_cons_zero,sj]at h;subst h;unfold a5v;rw[a95,a56,a56,b04,b04,hx,lC];simp only;omega
 |y::R,b+1,x,p,r,z,h,hx=>by
  have:=a9V R b x p r z (by simpa using h) hx
  unfold a5v at this⊢;rw[b43,a56,a56,b04,b04];omega
structure WInv (L:List (List Pk)) (R:List a4V) (out:List Pk):Prop where
 len:R.length=L.length
 row:∀(s:Nat) l x,L[s]?=some l→R[s]?=some x→ofS s out++x.1=l
 asc:Asc out
 le:∀p∈out,∀(s:Nat) x q,R[s]?=some x→q∈x.1→klt q p=false
 dom:∀p∈out,0≤p.1∧p.1<(L.length:Int)
theorem b7s(h:StrOk n L)(hN:N<1000000){R0:List a4V}{b0:Option Nat}(hb:a4d R0=some (a6t b0))(hf:a9i R0 R0.length b0)(hv:WInv L R0 [])(hr:a5v R0=N):
  ∃out,y0h a3y (a6t b0,R0,([]:List Pk),())=some (out,())∧Asc out∧(∀(s:Nat) l,L[s]?=some l→ofS s out=l)∧(∀p∈out,0≤p.1∧p.1<(L.length:Int)):=by
 have h4:=h.four;refine a1H (f:=a3y) (fun k st=>∃(R:List a4V)(b:Option Nat)(out:List Pk),st=(a6t b,R,out,())∧k=a5v R∧a9i R R.length b∧WInv L R out∧out.length+a5v R=N)
  (fun w=>∃out,w=(out,())∧Asc out∧(∀(s:Nat) l,L[s]?=some l→ofS s out=l)∧(∀p∈out,0≤p.1∧p.1<(L.length:Int))) N _ ⟨R0,b0,[],rfl,hr.symm,hf,hv,by rw[a06];omega⟩ (fun w hw hQ=>?_) (fun k st T=>?_)
 obtain⟨out,rfl,g⟩:=hQ;exact⟨out,hw,g⟩
 ·obtain⟨R,b,out,rfl,rfl,V,a,Z⟩:=T;unfold a3y;simp only;cases b with
  |none=>
   right;rw[show a6t none=-1 from rfl,decide_eq_false (show ¬ (-1:Int)≥0 by decide)];refine⟨_,rfl,out,rfl,a.asc,fun s l E=>?_,a.dom⟩;have K:=(lS.1 E).1;have W:R[s]?=some (R[s]'(by rw[a.len];exact K)):=lG _
   have:=a.row s l _ E W
   rw[V s _ (by rw[a.len];exact K) W,a03]at this;exact this
  |some b=>
   left;obtain⟨U,x,p,r,D,o,G⟩:=V;have S:b<L.length:=by rw[←a.len];exact U
   have v:L[b]?=some L[b]:=lG S;have t:=a.row b _ x v D;have hx:R.getD b (([]:List Pk),(0:Int),false,())=x:=by rw[lD,D];rfl
   have B:p.1=(b:Int):=((h.ok b _ v).ok p (by rw[←t,o];simp)).st;have h6:=a9V R b x p r x.2 D o;have g1:n0s (p::r) (0:Int)=some p:=by exact a0F (l:=p::r) (k:=0) (by simp)

   have F:∀(s:Nat) y q,R[s]?=some y→q∈y.1→q.1=(s:Int)∧∀C I,y.1=C::I→C.2.1≤q.2.1:=fun s y q j g=>by
    have K:s<L.length:=by rw[←a.len];exact(lS.1 j).1
    have A:L[s]?=some L[s]:=lG K;have H:=a.row s _ y A j;refine⟨((h.ok s _ A).ok q (by rw[←H];exact a87 _ g)).st,fun C I Y=>?_⟩;have X:=(h.ok s _ A).asc;rw[←H,Y,a24]at X;rw[Y]at g;rcases mC.1 g with h5|h5;rw[h5];exact b31 _;exact(a34.1 X.2.1).1 q h5
   have P:WInv L (R.set b (r,x.2)) (out++[p]):=by
    have u:∀(s:Nat) y,(R.set b (r,x.2))[s]?=some y→(s=b∧y=(r,x.2))∨(s≠b∧R[s]?=some y):=fun s y j=>by
     rw[b24]at j
     by_cases c:b=s
     rw[if_pos c,if_pos U]at j;cases j;exact .inl ⟨c.symm,rfl⟩;rw[if_neg c]at j;exact .inr ⟨fun e=>c e.symm,j⟩
    refine⟨by rw[a31];exact a.len,fun s l y E j=>?_,?_,fun q g s y z j m=>?_,fun q g=>?_⟩;rw[a6U];rcases u s y j with⟨rfl,rfl⟩|⟨c,i⟩
    have:l=L[s]:=by rw[v]at E;cases E;rfl
    rw[this,←t,o,a9C (l:=[p]) (fun q g=>by rw[a13]at g;rw[g];exact B),aA];rfl;rw[a5G (l:=[p]) (fun q g=>by rw[a13]at g;rw[g,B];omega),a03];exact a.row s l y E i;refine a24.2 ⟨a.asc,a51 ..,fun q g z m=>?_⟩;rw[a13]at m;rw[m];exact a.le q g b x p D (by rw[o];simp)
    ·rcases mA.1 g with g|g;rcases u s y j with⟨rfl,rfl⟩|⟨c,i⟩;exact a.le q g s x z D (by rw[o];exact a91 _ m);exact a.le q g s y z i m
     ·rw[a13]at g;subst g;unfold klt;rcases u s y j with⟨rfl,rfl⟩|⟨c,i⟩;obtain⟨e1,M⟩:=F s x z D (by rw[o];exact a91 _ m)
      have:=M q r o
      rw[decide_eq_false (by omega),decide_eq_false (show ¬ z.1<q.1 by omega)]
      simp
      ·obtain⟨e1,M⟩:=F s y z i m;cases hyy:y.1 with
       |nil=>rw[hyy]at m;cases m
       |cons C I=>
        have k1:=M C I hyy;have k2:=G s y C I (lS.1 i).1 i hyy;rw[decide_eq_false (by omega)]
        by_cases hc:z.2.1=q.2.1
        rw[decide_eq_false (show ¬ z.1<q.1 by omega)];simp;rw[decide_eq_false hc];rfl
    rcases mA.1 g with g|g;exact a.dom q g;rw[a13]at g;rw[g,B];omega
   obtain⟨b',Q,O⟩:=b2X (R:=R.set b (r,x.2)) (by rw[a31,a.len];omega);rw[show a6t (some b)=(b:Int)from rfl,decide_eq_true (show(b:Int)≥0 by omega),decide_eq_true (show(b:Int)<((R.length:Nat):Int)by omega),tN,hx,o,g1,a0C (by omega),lC,decide_eq_true (show(1:Int)≤((r.length+1:Nat):Int)by omega)];have ed:a43 1 (a38 (r.length+1) (p::r))=r:=by rw[List.take_succ_cons,a20];rfl
   simp only[cT,a07,oB,ed,Q];exact⟨_,a5v (R.set b (r,x.2)),rfl,by omega,R.set b (r,x.2),b',out++[p],rfl,rfl,O,P,by rw[lN,a08];omega⟩
theorem a8m:∀(L:List (List Pk)),a5v (L.map fun l=>((l,a5u):a4V))=L.flatten.length
 | []=>rfl
 |l::L=>by
  have:=a8m L
  unfold a5v at this⊢;rw[a56,a56,b04,this,b18,lN]
theorem b3I(h:Drawn n a L)(G:n≤8)(t:Woven Z)(r:Stb L.flatten Z):a4I L=some (Z,0):=by
 have E:=h.str.four;have D:=h.str.one;have F:=h.len;have m:a2B L L.length=L.map fun l=>((l,a5u):a4V):=by rw[a2B,a20,a67];simp
 have y:a2B L 0=a27 L.length ([],a5u):=by rw[a2B];simp
 obtain⟨b,u,z⟩:=b2X (R:=a2B L L.length) (by rw[m,a44];omega);have A:WInv L (a2B L L.length) []:=by
  refine⟨by rw[m,a44],fun s l x q w=>?_,.nil,fun p hp=>(by cases hp),fun p hp=>(by cases hp)⟩;rw[m,a86,q]at w;cases w;rfl
 have B:a5v (a2B L L.length)=L.flatten.length:=by rw[m,a8m]
 have o:L.flatten.length<1000000:=by
  rw[←r.perm.length_eq]
  have:=t.len
  omega
 obtain⟨out,C,c,j,g⟩:=b7s h.str o u z A B;have f:=h.rows r;have i:=h.in r;have e:out=Z:=a9h c t.asc (fun p hp=>(g p hp).1) (fun p hp=>(i p hp).1) fun s=>by
  by_cases hsl:s<L.length
  rw[j s _ (lG hsl)]
  have:=a4x Z (show s<a.length by omega)
  rw[f,lG hsl]at this;exact Option.some.inj this;rw[a5G fun p hp=>by have:=g p hp;omega,a5G fun p hp=>by have:=i p hp;omega]
 subst e;unfold a4I;simp only;rw[decide_eq_false (show ¬ ((L.length:Nat):Int)<1 by omega),decide_eq_false (show ¬ ((L.length:Nat):Int) > 4 by omega)];simp only[cF,oB];rw[decide_eq_true (show(0:Int)≤((L.length:Nat):Int)by omega),decide_eq_true (show((L.length:Nat):Int)≤((L.length:Nat):Int)by omega),tN,a0C (by omega)];simp only[cT,a07];refine a0D (v:=.inl (L,a2B L L.length,())) ?_ ?_
 have:=b7q h.str (by omega)
 rw[y]at this;exact this;simp only;refine a0D (b7r h.str (by omega)) ?_
 simp only[u,oB,C]
theorem orB{a b k:Nat}(h:a<2^k)(g:b*2^k+a<18446744073709551616):bits .u64 .or ((b*2^k:Nat):Int) (a:Int)=((a+b*2^k:Nat):Int):=by
 rw[←orA h g];show wrap .u64 (((a32 64 _ ||| a32 64 _).toNat:Nat):Int)=wrap .u64 (((a32 64 _ ||| a32 64 _).toNat:Nat):Int);rw[BitVec.or_comm]
theorem b5F(q:A.length≤4)(a:Byt A):a5Q A=some (a2G A):=by
 unfold a5Q
 have:=a0E (f:=a5m) (fun i=>(A,a2G (A.take i),(i:Int),())) A.length (b:=(a2G A,())) (fun i hi=>?_) ?_
 exact a0D this rfl;have l:=a6e i (A.take i) (by rw[a01];omega) fun b h=>a b (a09 h);have hp:256^i≤256^3:=a90 (by decide) (by omega);have p:256^3=16777216:=by decide
 have m:=a A[i] (a17 hi);obtain⟨v,hv⟩:∃v:Nat,a2G (A.take i)=(v:Int):=⟨(a2G (A.take i)).toNat,by omega⟩;obtain⟨c,e⟩:∃c:Nat,A[i]=(c:Int):=⟨(A[i]).toNat,by omega⟩;rw[hv]at l;rw[e]at m;have g:=a9P (N:=v) (o:=8) (by decide) (by omega);rw[show((8:Nat):Int)=8 from rfl]at g;have j:((c+v*2^8:Nat):Int)=(v:Int)*256+(c:Int):=by
  rw[show(2:Nat)^8=256 by decide];omega
 unfold a5m;simp only;rw[decide_eq_true (show(i:Int)<((A.length:Nat):Int)by omega),a0F hi,a04 hi,a6z,e,hv];simp only[cT,oB];rw[g,a3v (n:=c) (by omega),orB (k:=8) (by omega) (by omega),w64 (by omega),j];rfl;unfold a5m;simp only;rw[decide_eq_false (by omega),a20];rfl
def zRd:Pge:=((0:Int),false,false,false,([]:List Int),())
def b4y(f:Int):Bool:=(((bits .u64 .and f 1) != 0)==((bits .u8 .and f 1)==1))&&((((bits .u64 .and f 2) != 0)==((bits .u8 .and f 2)==2))&&(((bits .u64 .and f 4) != 0)==((bits .u8 .and f 4)==4)))
theorem b4z:((a61 8).all fun n=>b4y (n:Int))=true:=by kernel_rfl
theorem b5n{f:Int}(h:0≤f)(g:f≤7):((bits .u8 .and f 1)==1)=((bits .u64 .and f 1) != 0)∧((bits .u8 .and f 2)==2)=((bits .u64 .and f 2) != 0)∧((bits .u8 .and f 4)==4)=((bits .u64 .and f 4) != 0):=by
 have:=lA.1 b4z f.toNat (a98.2 (by omega))
 rw[show((f.toNat:Nat):Int)=f by omega]at this;unfold b4y at this;simp only[bA,beq_iff_eq]at this;exact⟨this.1.symm,this.2.1.symm,this.2.2.symm⟩
theorem b7t:∀(D:List Int)(h:8≤D.length),a43 2 (a38 8 D)=[D[2]]++(a43 3 (a38 7 D)++[D[7]])
 |c0::c1::c2::c3::c4::c5::c6::c7::R,_=>rfl
 | [],h=>by simp at h
 | [_],h=>by simp at h
 | [_,_],h=>by simp at h
 | [_,_,_],h=>by simp at h
 | [_,_,_,_],h=>by simp at h
 | [_,_,_,_,_],h=>by simp at h
 | [_,_,_,_,_,_],h=>by simp at h
 | [_,_,_,_,_,_,_],h=>by simp at h
def Red(x:List Int)(n:Nat)(r:Pge×(Int×Int)):Prop:=r.2.2=0→∃m:Nat,r.2.1=(m:Int)∧1≤m∧n+m≤x.length∧Byt r.1.2.2.2.2.1
theorem b4A(hx:Byt x)(hl:x.length<1000000)(hn:n≤x.length):∃r,a1z (x,(n:Int))=some r∧a1f (x,(n:Int))=some r∧Red x n r:=by
 have a1:decide ((n:Int)<0)=false:=decide_eq_false (by omega);have a:decide ((n:Int) > ((x.length:Nat):Int))=false:=decide_eq_false (by omega);have c:decide ((0:Int)≤(n:Int))=true:=decide_eq_true (by omega);have i:decide ((n:Int)≤((x.length:Nat):Int))=true:=decide_eq_true (by omega);have j:a43 (a23 (n:Int)) (a38 x.length x)=x.drop n:=by rw[tN,a20]
 have eE:a43 n (a38 x.length x)=x.drop n:=by rw[a20]
 have g9:(x.drop n).length=x.length-n:=a00;have z:Byt (x.drop n):=fun b w=>hx b (a19 w);have m:∀e:Int,e≠0→Red x n (zRd,(0:Int),e):=fun e he h=>absurd h he;generalize x.drop n=D at *
 by_cases h2:D.length<2
 have b1:decide (((D.length:Nat):Int)<2)=true:=decide_eq_true (by omega);refine⟨(zRd,(0:Int),(3:Int)),?_,?_,m _ (by decide)⟩;unfold a1z;simp only[a1,a,c,i,j,b1,cF,cT,oB,a07]
 try rfl
 unfold a1f;simp only[a1,a,c,i,j,b1,cF,cT,oB,a07]
 try rfl
 have b1:decide (((D.length:Nat):Int)<2)=false:=decide_eq_false (by omega);have o:n0s D 0=some D[0]:=a0F (k:=0) (by omega);have q:n0s D 1=some D[1]:=a0F (k:=1) (by omega)
 by_cases h75:¬ D[0]=75
 have b2:(D[0] != 75)=true:=by rw[bne_iff_ne];exact h75
 refine⟨(zRd,(0:Int),(2:Int)),?_,?_,m _ (by decide)⟩;unfold a1z;simp only[a1,a,c,i,j,b1,o,b2,cF,cT,oB,a07]
 try rfl
 unfold a1f;simp only[a1,a,c,i,j,b1,o,b2,cF,cT,oB,a07]
 try rfl
 have b2:(D[0] != 75)=false:=by rw[Classical.not_not.1 h75];rfl
 by_cases h80:¬ D[1]=80
 have p:(D[1] != 80)=true:=by rw[bne_iff_ne];exact h80
 refine⟨(zRd,(0:Int),(2:Int)),?_,?_,m _ (by decide)⟩;unfold a1z;simp only[a1,a,c,i,j,b1,o,q,b2,p,cF,cT,oB,a07]
 try rfl
 unfold a1f;simp only[a1,a,c,i,j,b1,o,q,b2,p,cF,cT,oB,a07]
 try rfl
 have p:(D[1] != 80)=false:=by rw[Classical.not_not.1 h80];rfl
 by_cases h8:D.length<8
 have s:decide (((D.length:Nat):Int)<8)=true:=decide_eq_true (by omega);refine⟨(zRd,(0:Int),(3:Int)),?_,?_,m _ (by decide)⟩;unfold a1z;simp only[a1,a,c,i,j,b1,o,q,b2,p,s,cF,cT,oB,a07]
 try rfl
 unfold a1f;simp only[a1,a,c,i,j,b1,o,q,b2,p,s,cF,cT,oB,a07]
 try rfl
 have s:decide (((D.length:Nat):Int)<8)=false:=decide_eq_false (by omega);have N:decide ((8:Int)≤((D.length:Nat):Int))=true:=decide_eq_true (by omega);have O:decide ((7:Int)≤((D.length:Nat):Int))=true:=decide_eq_true (by omega);have Y:n0s D 2=some D[2]:=a0F (k:=2) (by omega);have H:n0s D 7=some D[7]:=a0F (k:=7) (by omega);have hf:=z D[2] (a17 _);have hL:=z D[7] (a17 _);have F:=b7t D (by omega);have h5:(a43 3 (a38 7 D)).length=4:=by rw[a00,a01];omega
 have Z:Byt (a43 3 (a38 7 D)):=fun b w=>z b (a09 (a19 w));generalize hQ:a43 3 (a38 7 D)=Q at *;generalize D[2]=f at *;obtain⟨L,g4⟩:∃k:Nat,D[7]=(k:Int):=⟨(D[7]).toNat,by omega⟩;rw[g4]at hL H F;have hV:=a6e 4 Q h5 Z;rw[show((256^4:Nat):Int)=4294967296 by decide]at hV;have g:=b5F (by omega) Z;have nM:a1F ([f]++(Q++[(L:Int)]))=some (rdr [] ([f]++(Q++[(L:Int)]))):=a8V (by simp only[lN,lC,a06];omega);have I:=a5C (P:=[]) (A:=[f]) (R:=Q++[(L:Int)]) (by simp) (fun b w=>by rw[a13]at w;rw[w];exact hf) (by simp only[lN,lC,a06];omega);have r2:=a5C (P:=[]++[f]) (A:=Q) (R:=[(L:Int)]) (by omega) Z (by simp only[lN,lC,a06];omega);have K:=a5C (P:=[]++[f]++Q) (A:=[(L:Int)]) (R:=[]) (by simp) (fun b w=>by rw[a13]at w;rw[w];exact hL) (by simp only[lN,lC,a06];omega);rw[show((([f]:List Int).length:Nat):Int)=1 from rfl,show a2G [f]=f by simp[a2G]]at I;rw[h5,show((4:Nat):Int)=4 from rfl]at r2;rw[show((([(L:Int)]:List Int).length:Nat):Int)=1 from rfl,show a2G [(L:Int)]=(L:Int)by simp[a2G],a03]at K;generalize hVe:a2G Q=V at *;have C:wrap .i64 (L:Int)=(L:Int):=w64 (by omega);have wV:wrap .i64 V=V:=w64 (by omega)
 by_cases h7:f > 7
 have u:decide (f > 7)=true:=decide_eq_true h7;refine⟨(zRd,(0:Int),(2:Int)),?_,?_,m _ (by decide)⟩;unfold a1z;simp only[a1,a,c,i,j,b1,o,q,b2,p,s,N,F,nM,I,r2,K,u,cF,cT,oB,a07]
 try rfl
 unfold a1f;simp only[a1,a,c,i,j,b1,o,q,b2,p,s,O,hQ,g,Y,H,u,cF,cT,oB,a07]
 try rfl
 have u:decide (f > 7)=false:=decide_eq_false h7
 by_cases hVb:V > 2147483647
 have v:decide (V > 2147483647)=true:=decide_eq_true hVb;refine⟨(zRd,(0:Int),(2:Int)),?_,?_,m _ (by decide)⟩;unfold a1z;simp only[a1,a,c,i,j,b1,o,q,b2,p,s,N,F,nM,I,r2,K,u,v,cF,cT,oB,a07]
 try rfl
 unfold a1f;simp only[a1,a,c,i,j,b1,o,q,b2,p,s,O,hQ,g,Y,H,u,wV,v,cF,cT,oB,a07]
 try rfl
 have v:decide (V > 2147483647)=false:=decide_eq_false hVb;obtain⟨h3,h4,y⟩:=b5n hf.1 (by omega);generalize hG:((bits .u64 .and f 4) != 0)=G at *;have hm:a1Y G=some (((bif G then 255 else 252:Nat):Nat):Int):=by
  unfold a1Y;cases G<;>rfl
 have t:a2Z ((L:Int),G)=some (decide (1≤L)&&decide (L≤(bif G then 255 else 252:Nat))):=by
  unfold a2Z;simp only
  by_cases E:1≤L
  ·rw[decide_eq_true (show(L:Int)≥1 by omega),decide_eq_true E];simp only[cT,Bool.true_and]
   by_cases e2:L≤252
   rw[decide_eq_true (show(L:Int)≤252 by omega),decide_eq_true (show L≤(bif G then 255 else 252:Nat)by cases G<;>simp only[cT,cF]<;>omega)];rfl
   ·rw[decide_eq_false (show ¬ (L:Int)≤252 by omega)];cases G with
    |true=>
     simp only[cT,cF];congr 1
     by_cases e3:L≤255
     rw[decide_eq_true e3];exact decide_eq_true (by omega);rw[decide_eq_false e3];exact decide_eq_false (by omega)
    |false=>
     simp only[cF];rw[decide_eq_false e2]
  rw[decide_eq_false (show ¬ (L:Int)≥1 by omega),decide_eq_false E];rfl
 generalize (bif G then 255 else 252:Nat)=M at *
 by_cases hLo:L<1
 have c3:decide ((L:Int)<1)=true:=decide_eq_true (by omega);have T:(decide (1≤L)&&decide (L≤M))=false:=by rw[decide_eq_false (by omega)];rfl
 rw[T]at t;refine⟨(zRd,(0:Int),(2:Int)),?_,?_,m _ (by decide)⟩;unfold a1z;simp only[a1,a,c,i,j,b1,o,q,b2,p,s,N,F,nM,I,r2,K,u,v,hG,C,c3,cF,cT,oB,a07]
 try rfl
 unfold a1f;simp only[a1,a,c,i,j,b1,o,q,b2,p,s,O,hQ,g,Y,H,u,wV,v,C,y,t,a79,cF,cT,oB,a07]
 try rfl
 have c3:decide ((L:Int)<1)=false:=decide_eq_false (by omega)
 by_cases hHi:L > M
 have T:decide ((L:Int) > (M:Int))=true:=decide_eq_true (by omega);have c5:(decide (1≤L)&&decide (L≤M))=false:=by rw[decide_eq_false (show ¬ L≤M by omega),Bool.and_false]
 rw[c5]at t;refine⟨(zRd,(0:Int),(2:Int)),?_,?_,m _ (by decide)⟩;unfold a1z;simp only[a1,a,c,i,j,b1,o,q,b2,p,s,N,F,nM,I,r2,K,u,v,hG,C,c3,hm,T,cF,cT,oB,a07]
 try rfl
 unfold a1f;simp only[a1,a,c,i,j,b1,o,q,b2,p,s,O,hQ,g,Y,H,u,wV,v,C,y,t,a79,cF,cT,oB,a07]
 try rfl
 have T:decide ((L:Int) > (M:Int))=false:=decide_eq_false (by omega);have c5:(decide (1≤L)&&decide (L≤M))=true:=by rw[decide_eq_true (show 1≤L by omega),decide_eq_true (show L≤M by omega)];rfl
 rw[c5]at t;have w8:wrap .i64 (8+(L:Int))=((8+L:Nat):Int):=by rw[w64 (by omega)];omega
 have h1:wrap .i64 (((8+L:Nat):Int)+4)=((12+L:Nat):Int):=by rw[w64 (by omega)];omega
 have v8:wrap .i64 ((L:Int)+8)=((8+L:Nat):Int):=by rw[w64 (by omega)];omega
 have h0:wrap .i64 ((L:Int)+12)=((12+L:Nat):Int):=by rw[w64 (by omega)];omega
 by_cases hS:D.length<12+L
 have X:decide (((D.length:Nat):Int)<((12+L:Nat):Int))=true:=decide_eq_true (by omega);refine⟨(zRd,(0:Int),(3:Int)),?_,?_,m _ (by decide)⟩;unfold a1z;simp only[a1,a,c,i,j,b1,o,q,b2,p,s,N,F,nM,I,r2,K,u,v,hG,C,c3,hm,T,w8,h1,X,cF,cT,oB,a07]
 try rfl
 unfold a1f;simp only[a1,a,c,i,j,b1,o,q,b2,p,s,O,hQ,g,Y,H,u,wV,v,C,y,t,bT,h0,X,cF,cT,oB,a07]
 try rfl
 have X:decide (((D.length:Nat):Int)<((12+L:Nat):Int))=false:=decide_eq_false (by omega);have d2:decide ((0:Int)≤((12+L:Nat):Int))=true:=decide_eq_true (by omega);have d3:decide (((12+L:Nat):Int)≤((D.length:Nat):Int))=true:=decide_eq_true (by omega);have d4:decide ((0:Int)≤((8+L:Nat):Int))=true:=decide_eq_true (by omega);have d5:decide (((8+L:Nat):Int)≤((12+L:Nat):Int))=true:=decide_eq_true (by omega);have d6:decide (((8+L:Nat):Int)≤((D.length:Nat):Int))=true:=decide_eq_true (by omega);have d7:decide ((8:Int)≤((8+L:Nat):Int))=true:=decide_eq_true (by omega);have g5:(a43 (8+L) (a38 (12+L) D)).length=4:=by rw[a00,a01];omega
 have h6:Byt (a43 (8+L) (a38 (12+L) D)):=fun b w=>z b (a09 (a19 w));have g8:(a43 8 (a38 (8+L) D)).length=L:=by rw[a00,a01];omega
 have g3:Byt (a43 8 (a38 (8+L) D)):=fun b w=>z b (a09 (a19 w));obtain⟨q1,q2,q3⟩:=a6O (l:=a38 (8+L) D) (by rw[a01];omega);have q4:a2j (a38 (8+L) D)=some (a1j (a38 (8+L) D)):=by rw[b1N];exact q1
 have lB:lim (0+(a43 8 (a38 (8+L) D)).length)=true:=a0C (by omega);have g6:=a7e (x:=a43 8 (a38 (8+L) D)) (by omega);generalize hBe:a43 8 (a38 (8+L) D)=B at *;generalize hSe:a43 (8+L) (a38 (12+L) D)=S at *;have r4:=a5C (P:=[]) (A:=S) (R:=[]) (by omega) h6 (by simp only[lN,a06];omega);rw[g5,show((4:Nat):Int)=4 from rfl,a03]at r4;have h9:=b5F (by omega) h6;have nS:a1F S=some (rdr [] S):=a8V (by omega);generalize a2G S=W at *;generalize a1j (a38 (8+L) D)=U at *
 by_cases hWU:W=wrap .u64 U
 have E:(W != wrap .u64 U)=false:=by rw[hWU,bne_self_eq_false]
 refine⟨((V,((bits .u64 .and f 1) != 0),((bits .u64 .and f 2) != 0),G,B,()),((12+L:Nat):Int),(0:Int)),?_,?_,fun _=>⟨12+L,rfl,by omega,by omega,g3⟩⟩;unfold a1z;simp only[a1,a,c,i,j,b1,o,q,b2,p,s,N,F,nM,I,r2,K,u,v,hG,C,c3,hm,T,w8,h1,X,d2,d3,d4,d5,d6,d7,tN,eE,hBe,hSe,nS,r4,q1,E,g6,wV,cF,cT,oB,a07];unfold a1f;simp only[a1,a,c,i,j,b1,o,q,b2,p,s,O,hQ,g,Y,H,u,wV,v,C,h3,h4,y,t,bT,h0,v8,X,d2,d3,d4,d5,d6,d7,tN,eE,hBe,hSe,lB,h9,q4,E,a16,a05,cF,cT,oB,a07];have E:(W != wrap .u64 U)=true:=by rw[bne_iff_ne];exact hWU
 refine⟨(zRd,(0:Int),(5:Int)),?_,?_,m _ (by decide)⟩;unfold a1z;simp only[a1,a,c,i,j,b1,o,q,b2,p,s,N,F,nM,I,r2,K,u,v,hG,C,c3,hm,T,w8,h1,X,d2,d3,d4,d5,d6,d7,tN,eE,hBe,hSe,nS,r4,q1,E,cF,cT,oB,a07]
 try rfl
 unfold a1f;simp only[a1,a,c,i,j,b1,o,q,b2,p,s,O,hQ,g,Y,H,u,wV,v,C,h3,h4,y,t,bT,h0,v8,X,d2,d3,d4,d5,d6,d7,tN,eE,hBe,hSe,lB,h9,q4,E,a16,a05,cF,cT,oB,a07]
 try rfl
theorem a5I{x:List Int}(l:Byt x)(j:x.length<1000000):∀(k n u:Nat)(W:List Pge),x.length-n≤k→n≤x.length→u≤n→W.length≤n→(∀p∈W,Byt p.2.2.2.2.1)→
  ∃g f,y0h a3K (x,(u:Int),(n:Int),W,())=some (f,g,())∧y0h a2M (x,(u:Int),(n:Int),W,())=some (f,g,())∧g.length≤x.length∧∀p∈g,Byt p.2.2.2.2.1
 |k,n,u,W,hk,hn,hu,hWn,hW=>by
  by_cases h:n<x.length
  ·obtain⟨r,o,q,y⟩:=b4A l j hn
   match k,hk with
   |0,hk=>omega
   |k+1,hk=>
    by_cases he:r.2.2=0
    obtain⟨m,w,B,z,A⟩:=y he;have a:(r.2.2 != 0)=false:=by rw[he];rfl
    obtain⟨g,f,b,c,e,i⟩:=a5I l j k (n+m) u (W++[r.1]) (by omega) z (by omega) (by rw[lN,a08];omega) (fun p hp=>by
     rcases mA.1 hp with hp|hp;exact hW p hp;rw[a13]at hp;rw[hp];exact A)
    have s:wrap .i64 ((n:Int)+r.2.1)=((n+m:Nat):Int):=by rw[w,w64 (by omega)];omega
    refine⟨g,f,?_,?_,e,i⟩;rw[←b];refine a1t ?_
    unfold a3K;simp only;rw[decide_eq_true (show(n:Int)<((x.length:Nat):Int)by omega),o];simp only[cT,oB,a,cF];rw[a0C (by omega),s];rfl;rw[←c];refine a1t ?_
    unfold a2M;simp only;rw[decide_eq_true (show(n:Int)<((x.length:Nat):Int)by omega),q];simp only[cT,oB,a,cF];rw[a0C (by omega),s];rfl;have a:(r.2.2 != 0)=true:=by rw[bne_iff_ne];exact he
    obtain⟨g,f,b,c,e,i⟩:=a5I l j k (n+1) (u+1) W (by omega) (by omega) (by omega) (by omega) hW;have t:wrap .i64 ((n:Int)+1)=((n+1:Nat):Int):=by rw[w64 (by omega)];omega
    have v:wrap .i64 ((u:Int)+1)=((u+1:Nat):Int):=by rw[w64 (by omega)];omega
    refine⟨g,f,?_,?_,e,i⟩;rw[←b];refine a1t ?_
    unfold a3K;simp only;rw[decide_eq_true (show(n:Int)<((x.length:Nat):Int)by omega),o];simp only[cT,oB,a,t,v];rw[←c];refine a1t ?_
    unfold a2M;simp only;rw[decide_eq_true (show(n:Int)<((x.length:Nat):Int)by omega),q];simp only[cT,oB,a,t,v]
  refine⟨W,u,a0V ?_,a0V ?_,by omega,hW⟩;unfold a3K;simp only;rw[decide_eq_false (by omega)];rfl;unfold a2M;simp only;rw[decide_eq_false (by omega)];rfl
theorem b4B(c:Byt x)(b:x.length<1000000):∃W u,a5L x=some (W,u)∧a4M x=some (W,u)∧W.length≤x.length∧∀p∈W,Byt p.2.2.2.2.1:=by
 obtain⟨W,u,h,g,f,a⟩:=a5I c b x.length 0 0 [] (by omega) (by omega) (by omega) (by simp) (fun p hp=>by cases hp);refine⟨W,u,?_,?_,f,a⟩;unfold a5L;exact a0D h rfl;unfold a4M;exact a0D g rfl
def GOf(P:List Pge)(g:Pge)(s:Nat):Prop:=s<P.length∧g=gOf ((P.drop s).take 8)
theorem a5w:∀(n:Nat)(l:List Pge),l.length≤n→(∀q∈a0J l,q∈l∨∃s,GOf l q s)∧(∀p∈l,∃s,s<l.length∧p∈(l.drop s).take 8∧gOf ((l.drop s).take 8)∈a0J l)∧(∀p∈l,p∈a0J l)
 |n,[],_=>by rw[a1L];exact⟨fun q g=>(by cases g),fun p hp=>(by cases hp),fun p hp=>(by cases hp)⟩
 |0,p::l,h=>by simp at h
 |n+1,p::l0,h=>by
  have e:(p::l0)≠[]:=by simp
  generalize p::l0=l at *;have f:=a02.2 e;obtain⟨j,m,o⟩:=a5w n (l.drop 8) (by rw[a00];omega);rw[a2R e];refine⟨fun q g=>?_,fun p hp=>?_,fun p hp=>?_⟩;rcases mA.1 g with g|g;exact .inl (a09 g);rcases mC.1 g with g|g;exact .inr ⟨0,f,by rw[a78];exact g⟩;rcases j q g with g|⟨s,a,i⟩;exact .inl (a19 g);refine .inr ⟨8+s,by rw[a00]at a;omega,?_⟩;rw[i,a88];rw[←a26 8 l]at hp;rcases mA.1 hp with hp|hp;exact⟨0,f,by rw[a78];exact hp,by rw[a78];simp⟩;obtain⟨s,a,b,c⟩:=m p hp;rw[a88]at b c;exact⟨8+s,by rw[a00]at a;omega,b,a87 _ (a91 _ c)⟩;rw[←a26 8 l]at hp;rcases mA.1 hp with hp|hp;exact b06 _ hp;exact a87 _ (a91 _ (o p hp))
theorem a9H(f:a1K s P)(hp:p∈P)(c:q∈P)(h:p.1=q.1):p=q:=by
 obtain⟨i,hi⟩:=a40 hp;obtain⟨j,g⟩:=a40 c;have a:=(f i p hi).1;have b:=(f j q g).1
 have:i=j:=by omega
 subst this;rw[hi]at g;exact Option.some.inj g
theorem a7Q{P:List Pge}(g:a1K 0 P){p:Pge}(hp:p∈P):∀(R:List Pge),(∀q∈R,q∈P)→p∈R→g0l p.1 (kv R)=some p
 | [],_,h=>by cases h
 |q::R,hR,h=>by
  show(bif q.1==p.1 then some q else g0l p.1 (kv R))=some p
  by_cases e:q.1=p.1
  rw[show(q.1==p.1)=true by rw[beq_iff_eq];exact e,a9H g (hR q (by simp)) hp e];rfl;rw[show(q.1==p.1)=false by rw[beq_eq_false_iff_ne];exact e];rcases mC.1 h with h|h;exact absurd (by rw[h]) e;exact a7Q g hp R (fun x f=>hR x (by simp[f])) h
theorem a7R(f:a1K 0 P)(hp:p∈P){R:List Pge}(a:∀q∈R,q∈P)(h:p∉R):g0l p.1 (kv R)=none:=
 a7m fun q g e=>h (by rw[←a9H f (a q g) hp e];exact g)
def a4R(P R:List Pge)(s:Nat):List Pge:=match a1J (kv R) (s:Int) ((P.drop s).take 8).length with
 | [j]=>R++(P[s+j]?).toList
 |_=>R
def a2P(P R:List Pge)(gs:List Pge):List Pge:=gs.foldl (fun R g=>a4R P R g.1.toNat) R
structure Sub (P R:List Pge):Prop where
 sub:∀q∈R,q∈P
 dif:R.Pairwise fun p q=>p.1≠q.1
theorem a7q{R:List Pge}(f:a1K 0 P)(c:∀q∈R,q∈P)(e:j<((P.drop s).take 8).length):(j∈a1J (kv R) (s:Int) ((P.drop s).take 8).length↔∀p,P[s+j]?=some p→p∉R)∧∃p,P[s+j]?=some p∧((P.drop s).take 8)[j]?=some p∧p∈P∧p.1=((s+j:Nat):Int):=by
 rw[a01,a00]at e;have g:s+j<P.length:=by omega
 have hp:P[s+j]?=some P[s+j]:=lG g;have a:P[s+j]∈P:=a17 g;have b:=(f (s+j) _ hp).1;rw[a68]at b;refine⟨?_,P[s+j],hp,?_,a,b⟩;unfold a1J;rw[a58,a98,show(s:Int)+(j:Int)=(P[s+j]).1 by rw[b];omega];constructor
 rintro⟨_,h⟩ p hp' hpR
 rw[hp]at hp';cases hp';rw[a7Q f a R c hpR]at h;cases h;intro h;refine⟨by rw[a01,a00];omega,?_⟩;rw[a7R f a c (h _ hp)];rfl;rw[b47,if_pos (by omega),a96,hp]
theorem b2Y{L:List (Int×Pge)}{a:Int}{k:Nat}(h:j∈a1J L a k):j<k:=a98.1 (a58.1 h).1
theorem a9j{R:List Pge}(e:a1K 0 P)(i:Sub P R)(s:Nat):(a4R P R s=R∧(a1J (kv R) (s:Int) ((P.drop s).take 8).length).length≠1)∨
  ∃j p,a1J (kv R) (s:Int) ((P.drop s).take 8).length=[j]∧j<((P.drop s).take 8).length∧P[s+j]?=some p∧((P.drop s).take 8)[j]?=some p∧p∈P∧p.1=((s+j:Nat):Int)∧p∉R∧a4R P R s=R++[p]:=by
 match hg:a1J (kv R) (s:Int) ((P.drop s).take 8).length with
 | []=>exact .inl ⟨by unfold a4R;rw[hg],by simp⟩
 | [j]=>
  have g:j<((P.drop s).take 8).length:=b2Y (by rw[hg];simp);obtain⟨f,p,h,a,b,c⟩:=a7q e i.sub g;exact .inr ⟨j,p,rfl,g,h,a,b,c,f.1 (by rw[hg];simp) p h,by unfold a4R;rw[hg];show R++(P[s+j]?).toList=_;rw[h];rfl⟩
 |_::_::_=>exact .inl ⟨by unfold a4R;rw[hg],by simp⟩
theorem a9W{R:List Pge}(c:a1K 0 P)(f:Sub P R)(s:Nat):Sub P (a4R P R s)∧(a4R P R s).length≤R.length+1∧∀q∈R,q∈a4R P R s:=by
 rcases a9j c f s with⟨h,_⟩|⟨j,p,_,_,_,_,hp,_,m,h⟩;rw[h];exact⟨f,by omega,fun q g=>g⟩;rw[h];refine⟨⟨fun q g=>?_,a24.2 ⟨f.dif,a51 ..,fun a i b l e=>?_⟩⟩,by rw[lN];simp,fun q g=>b06 _ g⟩;rcases mA.1 g with g|g;exact f.sub q g;rw[a13]at g;rw[g];exact hp;rw[a13]at l;subst l;exact m (by rw[←a9H c (f.sub a i) hp e];exact i)
theorem a5S{P:List Pge}(f:a1K 0 P):∀(gs R:List Pge),Sub P R→Sub P (a2P P R gs)∧(a2P P R gs).length≤R.length+gs.length∧∀q∈R,q∈a2P P R gs
 | [],R,hR=>⟨hR,by simp[a2P],fun q h=>h⟩
 |g::gs,R,hR=>by
  obtain⟨a,j,b⟩:=a9W f hR g.1.toNat
  obtain⟨c,e,i⟩:=a5S f gs _ a;exact⟨c,by rw[lC];unfold a2P at e⊢;rw[b61];omega,fun q h=>i q (b q h)⟩
theorem b3J(P R:List Pge)(gs:List Pge)(g:Pge):a2P P R (gs++[g])=a4R P (a2P P R gs) g.1.toNat:=by
 unfold a2P;rw[a85];rfl
theorem a6g{α β:Type}{f g:α→Option β}:∀{l:List α},(∀i∈l,f i=g i)→l.filterMap f=l.filterMap g
 | [],_=>rfl
 |a::l,h=>by
  rw[b08,b08,h a (by simp),a6g (l:=l) fun i hi=>h i (by simp[hi])]
theorem a6v{α:Type}(G:List α):∀n,n≤G.length→(a61 n).filterMap (fun i=>G[i]?)=G.take n
 |0,_=>by simp
 |n+1,h=>by
  rw[a83,b05,a6v G n (by omega),a04 (by omega)];rw[b08,lG (by omega)];rfl
theorem b5o{R:List Pge}(h:a1K 0 P)(g:Sub P R)(c:a1J (kv R) (s:Int) ((P.drop s).take 8).length=[j])(w:j<((P.drop s).take 8).length):
  a3M (kv R) (s:Int) ((P.drop s).take 8).length=((P.drop s).take 8).take j++((P.drop s).take 8).drop (j+1):=by
 have key:∀i,i<((P.drop s).take 8).length→g0l ((s:Int)+(i:Int)) (kv R)=if i=j then none else((P.drop s).take 8)[i]?:=fun i hi=>by
  obtain⟨f,p,a,t,b,u⟩:=a7q h g.sub hi;rw[show(s:Int)+(i:Int)=p.1 by rw[u];omega]
  by_cases e:i=j
  rw[if_pos e,a7R h b g.sub (f.1 (by rw[c,e];simp) p a)];rw[if_neg e,t]
  have:p∈R:=Classical.byContradiction fun v=>by
   have:=f.2 fun q l=>by rw[a]at l;cases l;exact v
   rw[c,a13]at this;exact e this
  exact a7Q h b R g.sub this
 generalize (P.drop s).take 8=G at *;unfold a3M;have o:(a61 G.length).filterMap (fun(i:Nat)=>g0l ((s:Int)+(i:Int)) (kv R))=(a61 G.length).filterMap (fun i=>if i=j then none else G[i]?):=by
  refine a6g fun i hi=>?_
  exact key i (a98.1 hi)
 rw[o];have r:G.length=(j+1)+(G.length-(j+1)):=by omega
 rw[r,List.range_add,b05,a83,b05,List.filterMap_map];have a1:(a61 j).filterMap (fun i=>if i=j then none else G[i]?)=G.take j:=by
  rw[←a6v G j (by omega)];refine a6g fun i hi=>?_
  have:=a98.1 hi
  rw[if_neg (by omega)]
 have m:[j].filterMap (fun i=>if i=j then none else G[i]?)=[]:=by simp
 have n:(a61 (G.length-(j+1))).filterMap ((fun i=>if i=j then none else G[i]?)∘fun x=>j+1+x)=G.drop (j+1):=by
  have:=a6v (G.drop (j+1)) (G.length-(j+1)) (by rw[a00];omega)
  rw[a28 (by rw[a00];omega)]at this;rw[←this];refine a6g fun i hi=>?_
  simp only[Function.comp];rw[if_neg (by omega),a96]
 rw[a1,m,n,a03]
theorem a8A{G:List α}{p:α}(h:G[j]?=some p):G=G.take j++p::G.drop (j+1):=by
 obtain⟨g,f⟩:=lS.1 h;rw[←f,←a52 g,a26]
theorem GOf.fit(l:a1K 0 P)(m:∀p∈P,PgByt p)(o:P.length≤50000){g:Pge}(h:GOf P g s):
  GdOk g∧g.1=(s:Int)∧gdK g=((P.drop s).take 8).length∧g.2.2.2.2.1=(((((P.drop s).take 8).length:Nat):Int))::xr ((P.drop s).take 8)∧∀q∈(P.drop s).take 8,PgByt q:=by
 obtain⟨r,rfl⟩:=h;have a:(P.drop s).take 8≠[]:=a02.1 (by rw[a01,a00];omega);have b:((P.drop s).take 8).length≤8:=by rw[a01];omega
 have c:=(l.drop s).take 8;rw[a68]at c;have f:∀q∈(P.drop s).take 8,PgByt q:=fun q n=>m q (a19 (a09 n));obtain⟨e,i,j⟩:=b2Q c a b (by omega);refine⟨e,i,j,?_,f⟩;rw[b5E f a b];rfl
theorem b3K{R:List Pge}(e:a1K 0 P)(i:∀p∈P,PgByt p)(u:P.length≤50000)(o:Sub P R){g:Pge}(h:GOf P g s)(r:a1J (kv R) (s:Int) ((P.drop s).take 8).length=[j])(t:j<((P.drop s).take 8).length)(hp:((P.drop s).take 8)[j]?=some p)(b:p∈P):a3o (g,a3M (kv R) (s:Int) ((P.drop s).take 8).length,p.1)=some (p,true):=by
 obtain⟨_,_,_,n,c⟩:=h.fit e i u;rw[b5o e o r t];have x:((P.drop s).take 8).length≤8:=by rw[a01];omega
 generalize (P.drop s).take 8=G at *;have l:=a8A hp;obtain⟨z,m,_⟩:=b5V (A:=G.take j) (B:=G.drop (j+1)) (i p b) (fun q f=>c q (a09 f)) (fun q f=>c q (a19 f));rw[←l]at m;obtain⟨v,w⟩:=a5H (a:=[0,0]) (by decide) (by decide) G c;refine b3G n (a7O G) v w (fun q f=>?_) ?_ (e.plain p b) (i p b) m;rcases mA.1 f with f|f;exact c q (a09 f);exact c q (a19 f);rw[lN,a01,a00];omega
theorem b1Q{R0 gs:List Pge}{top:Int}(c:a1K 0 P)(v:∀p∈P,PgByt p)(w:P.length≤50000)(G:∀g∈gs,∃s,GOf P g s)(m:Sub P R0)(H:R0.length+gs.length<1000000):
  y0h a1l (((0:Int),top,((gs.length:Nat):Int),(0:Int),R0,gs,()),(0:Int),kv R0)=some ((top,a2P P R0 gs,()),(0:Int),kv (a2P P R0 gs)):=by
 have:=a0E (f:=a1l) (fun i=>(((0:Int),top,((gs.length:Nat):Int),(i:Int),a2P P R0 (gs.take i),gs,()),(0:Int),kv (a2P P R0 (gs.take i)))) gs.length (b:=((top,a2P P R0 gs,()),(0:Int),kv (a2P P R0 gs))) (fun i hi=>?_) ?_
 exact this;obtain⟨s,x⟩:=G gs[i] (a17 hi);obtain⟨z,t,A,K,M⟩:=x.fit c v w;obtain⟨r,I,Q⟩:=a5S c (gs.take i) R0 m;rw[a01]at I;have o:a36 gs (a23 (i:Int)) ((0:Int),false,false,false,([]:List Int),())=gs[i]:=by rw[tN,lD,lG hi];rfl
 have e:=b5S (L:=kv (a2P P R0 (gs.take i))) z;rw[t,A]at e;have y:(gs[i]).1.toNat=s:=by rw[t,tN]
 rw[a04 hi,b3J,y];generalize a2P P R0 (gs.take i)=R at *;unfold a1l;simp only;rw[decide_eq_true (show(i:Int)<((gs.length:Nat):Int)by omega),decide_eq_true (show(0:Int)≤(i:Int)by omega),o,e];rcases a9j c r s with⟨h,O⟩|⟨j,p,u,B,N,C,l,D,E,F⟩;have n:((((a1J (kv R) (s:Int) ((P.drop s).take 8).length).length:Nat):Int)==1)=false:=by rw[beq_eq_false_iff_ne];omega
 rw[h,n,w64 (by omega)];rfl;have q:=b3K c v w r x u B C l;have a:a6T (s:Int) [j]=p.1:=by rw[D];show(s:Int)+(j:Int)=_;omega
 rw[u,a];simp only[cT,a07,oB,a08];rw[show((((1:Nat):Int)==1))=true from rfl];simp only[bT,cF,q,oB,cT,beq_self_eq_true,a7R c l r.sub E,b46,b20,a7I (c.plain p l).toPgOk];rw[a0C (by omega),w64 (by omega),F];simp only[cT,kv,pA,a56,b28,a16];rfl;unfold a1l;simp only;rw[decide_eq_false (by omega),a20];rfl
theorem a7r(p q:Pge):∀l:List Pge,q∈a3h p l↔q=p∨q∈l
 | []=>by simp[a3h]
 |r::l=>by
  show q∈(bif decide (p.1≤r.1)then p::r::l else r::a3h p l)↔_;cases decide (p.1≤r.1)with
  |true=>simp
  |false=>
   simp only[cF,mC,a7r p q l];constructor
   rintro(h|h|h)
   exact .inr (.inl h);exact .inl h;exact .inr (.inr h)
   rintro(h|h|h)
   exact .inr (.inl h);exact .inl h;exact .inr (.inr h)
theorem a8B(q:Pge):∀l:List Pge,q∈a1s l↔q∈l
 | []=>Iff.rfl
 |p::l=>by
  show q∈a3h p (a1s l)↔_;rw[a7r,a8B q l,mC]
def Up(l:List Pge):Prop:=l.Pairwise fun p q=>p.1<q.1
theorem a9X{p:Pge}:∀{l:List Pge},Up l→(∀q∈l,q.1≠p.1)→Up (a3h p l)
 | [],_,_=>a51 ..
 |r::l,h,hn=>by
  show Up (bif decide (p.1≤r.1)then p::r::l else r::a3h p l);have b:=hn r (by simp);obtain⟨f,a⟩:=a34.1 h
  by_cases e:p.1≤r.1
  rw[decide_eq_true e];refine a34.2 ⟨fun q g=>?_,h⟩;rcases mC.1 g with rfl|g;omega
  have:=f q g;omega
  rw[decide_eq_false e];refine a34.2 ⟨fun q g=>?_,a9X a fun q g=>hn q (by simp[g])⟩;rcases(a7r p q l).1 g with rfl|g;omega;exact f q g
theorem b2Z:∀{l:List Pge},l.Pairwise (fun p q=>p.1≠q.1)→Up (a1s l)
 | [],_=>.nil
 |p::l,h=>by
  obtain⟨g,f⟩:=a34.1 h;exact a9X (b2Z f) fun q a=>fun e=>g q ((a8B q l).1 a) e.symm
theorem a9Y:∀{A B:List Pge},Up A→Up B→(∀q,q∈A↔q∈B)→A=B
 | [],[],_,_,_=>rfl
 | [],q::B,_,_,h=>by have:=(h q).2 (by simp);cases this
 |p::A,[],_,_,h=>by have:=(h p).1 (by simp);cases this
 |p::A,q::B,hA,hB,h=>by
  obtain⟨a1,a⟩:=a34.1 hA;obtain⟨b1,b2⟩:=a34.1 hB;have e:p=q:=by
   rcases mC.1 ((h p).1 (by simp))with e|e;exact e;rcases mC.1 ((h q).2 (by simp))with e2|e2;exact e2.symm
   have:=b1 p e
   have:=a1 q e2
   omega
  subst e;rw[a9Y a b2 fun x=>?_];have f:=h x;rw[mC,mC]at f;constructor;intro g;rcases f.1 (.inr g)with e|e
  have:=a1 x g;rw[e]at this;omega
  exact e;intro g;rcases f.2 (.inr g)with e|e
  have:=b1 x g;rw[e]at this;omega
  exact e
theorem b3a(h:a1K s P):Up P:=by
 refine a73.2 fun i j hi f g=>?_
 have a:=(h i _ (lG hi)).1;have b:=(h j _ (lG f)).1;omega
theorem a9k{P:List Pge}(f:a1K 0 P)(c:P.length<1000000):∀{R:List Pge},Sub P R→a3g R=true
 | [],_=>rfl
 |p::R,h=>by
  obtain⟨a,b⟩:=a34.1 h.dif;have i:=a9k f c (R:=R) ⟨fun q g=>h.sub q (by simp[g]),b⟩;have j:=f.num p (h.sub p (by simp));show(decide (0≤p.1)&&decide (p.1<4611686018427387904)&&R.all (fun q=>!decide (q.1=p.1))&&a3g R)=true;rw[i,decide_eq_true (by omega),decide_eq_true (by omega)];simp only[a07,Bool.true_and,lA,a84,decide_eq_false_iff_not];intro q g e;exact a q g e.symm
theorem b4C{R:List Pge}(g:a1K 0 P)(f:P.length<1000000)(h:Sub P R)(a:R.length<1000000):a1q (R,())=some (a1s R):=by
 unfold a1q;simp only;rw[a9k g f h,decide_eq_true (by omega)];rfl
structure Some (P l:List Pge):Prop where
 sl:l.Sublist (a0J P)
theorem Some.fit(i:a1K 0 P)(s:P.length≤50000)(h:Some P l):Fit l∧Sub P (a1T l)∧(a7l (-1) l<(P.length:Int))∧l.length≤100000:=by
 obtain⟨n,j⟩:=a9b P.length P 0 (a11 _) i (fun _=>by omega);have t:=b2A P;have r:=h.sl.length_le;have b:(a1T l).Sublist P:=by
  have:(a1T l).Sublist (a1T (a0J P)):=h.sl.filter _
  rwa [n]at this
 have a:P.Pairwise fun p q=>p.1≠q.1:=(b3a i).imp fun h=>by omega
 have m:=a.sublist b;refine⟨⟨fun p hp=>?_,m⟩,⟨fun q g=>b.subset g,m⟩,?_,by omega⟩;rcases j p (h.sl.subset hp)with⟨_,g⟩|⟨g,_⟩;exact .inl g;exact .inr g
 have:=b2P (c:=(P.length:Int)-1) l (-1) (by omega) (fun p hp=>by
  rcases j p (h.sl.subset hp)with⟨g,e⟩|⟨g,o,e⟩;have f:isG p=false:=e.ng
  have:=i.num p g
  unfold a6f;rw[f];simp only[Bool.false_eq_true,if_false];omega;have f:isG p=true:=g.gd;unfold a6f;rw[f];simp only[if_true];omega)
 omega
theorem b1R:p∈a1T l↔p∈l∧isG p=false:=by
 unfold a1T;rw[a58]
 simp
theorem b1S:p∈a4g l↔p∈l∧isG p=true:=by
 unfold a4g;rw[a58]
theorem Some.gs(b:a1K 0 P)(h:Some P l):∀g∈a4g l,∃s,GOf P g s:=fun g c=>by
 obtain⟨a,f⟩:=b1S.1 c;rcases(a5w P.length P (a11 _)).1 g (h.sl.subset a)with h3|h3
 have:isG g=false:=(b.plain g h3).ng
 rw[this]at f;cases f;exact h3
def b1T(P l:List Pge):List Pge:=a2P P (a1T l) (a4g l)
theorem b5p(g:a1K 0 P)(i:∀p∈P,PgByt p)(b:P.length≤50000)(h:Some P l):Sub P (b1T P l)∧a4b l=(a4t (a1s (b1T P l),a7l (-1) l)).bind fun n=>some (a1s (b1T P l),n):=by
 obtain⟨e,a,r,s⟩:=h.fit g b;have m:(a1T l).length≤l.length:=a64 ..;have j:(a4g l).length≤l.length:=a64 ..;obtain⟨c,t,u⟩:=a5S g (a4g l) (a1T l) a;have o:=a9a e (by omega) l [] rfl;have q:=b1Q (top:=a7l (-1) l) g i b (h.gs g) a (by omega);refine⟨c,?_⟩;unfold a4b a2F;have f:y0h a1k (((0:Int),(-1:Int),l,((a30 l:Nat):Int),(0:Int),([]:List Pge),([]:List Pge),()),(0:Int),([]:List (Int×Pge)))=_:=o;refine a0D f ?_
 simp only;refine a0D q ?_
 simp only[b4C g (by omega) c (by omega),oB];rfl
theorem b1U{P:List Pge}(c:a1K 0 P){p:Pge}(hp:p∈P){s:Nat}(N:s<P.length)(o:p∈(P.drop s).take 8):∀(gs R:List Pge),Sub P R→(∀q∈P,q≠p→q∈R)→(∃g∈gs,g.1=(s:Int))→p∈a2P P R gs
 | [],R,_,_,h=>by obtain⟨g,a,_⟩:=h;cases a
 |g::gs,R,hR,hq,h=>by
  obtain⟨G,r2,C⟩:=a9W c hR g.1.toNat
  obtain⟨U,V,O⟩:=a5S c gs _ G
  by_cases hpR:p∈a4R P R g.1.toNat
  exact O p hpR
  ·by_cases e:g.1=(s:Int)
   ·exfalso
    have L:g.1.toNat=s:=by omega
    rw[L]at hpR C;have y:p∉R:=fun h=>hpR (C p h);obtain⟨j,F⟩:=a40 o;have x:=(lS.1 F).1;obtain⟨a1,p',D,E,Q,S⟩:=a7q c hR.sub x;rw[F]at E;cases E;have l:=a1.2 fun q t=>by rw[D]at t;cases t;exact y
    have f:∀i∈a1J (kv R) (s:Int) ((P.drop s).take 8).length,i=j:=fun i hi=>by
     have w:=b2Y hi;obtain⟨b1,q,b2,T,H,I⟩:=a7q c hR.sub w;have B:=b1.1 hi q b2
     by_cases hqp:q=p
     rw[hqp]at I;omega;exact absurd (hq q H hqp) B
    have m:(a1J (kv R) (s:Int) ((P.drop s).take 8).length).Nodup:=List.nodup_range.filter _;have n:a1J (kv R) (s:Int) ((P.drop s).take 8).length=[j]:=by
     match a:a1J (kv R) (s:Int) ((P.drop s).take 8).length with
     | []=>rw[a]at l;cases l
     | [i]=>rw[f i (by rw[a];simp)]
     |i::i2::r=>
      have K:=f i (by rw[a];simp);have b:=f i2 (by rw[a];simp);rw[a]at m
      have:=(List.nodup_cons.1 m).1
      exact absurd (by rw[K,b];simp) this
    refine hpR ?_
    unfold a4R;rw[n];show p∈R++(P[s+j]?).toList;rw[D]
    simp
   show p∈a2P P (a4R P R g.1.toNat) gs;refine b1U c hp N o gs _ G (fun q z A=>C q (hq q z A)) ?_
   obtain⟨M,v,u⟩:=h;rcases mC.1 v with b|b;rw[b]at u;exact absurd u e;exact⟨M,b,u⟩
theorem b5q(f:a1K 0 P)(x:∀p∈P,PgByt p)(t:P.length≤50000)(hi:i<(a0J P).length):a4b ((a0J P).take i++(a0J P).drop (i+1))=some (P,[]):=by
 have n:=a8A (lG hi);have w:Some P ((a0J P).take i++(a0J P).drop (i+1)):=⟨by
  have:((a0J P).take i++(a0J P).drop (i+1)).Sublist ((a0J P).take i++(a0J P)[i]::(a0J P).drop (i+1)):=(List.Sublist.refl _).append (List.sublist_cons_self _ _)
  rwa [←n]at this⟩
 obtain⟨S,w2,A⟩:=a5w P.length P (a11 _);have b:∀q∈a0J P,q≠(a0J P)[i]→q∈(a0J P).take i++(a0J P).drop (i+1):=fun q h I=>by
  rw[n]at h;rcases mA.1 h with h|h;exact b06 _ h;rcases mC.1 h with h|h;exact absurd h I;exact a87 _ h
 generalize (a0J P)[i]=e at *;generalize (a0J P).take i++(a0J P).drop (i+1)=l at *;obtain⟨M,v,C,N⟩:=w.fit f t;obtain⟨z,L⟩:=b5p f x t w;obtain⟨Q,R,K⟩:=a5S f (a4g l) (a1T l) v;have j:∀p∈P,p∈b1T P l:=fun p hp=>by
  have m:isG p=false:=(f.plain p hp).ng
  by_cases hpe:p=e
  obtain⟨s,y,G,H⟩:=w2 p hp;have O:(P.drop s).take 8≠[]:=a02.1 (by rw[a01,a00];omega);obtain⟨o,r,D,E,F⟩:=GOf.fit f x t (g:=gOf ((P.drop s).take 8)) (s:=s) ⟨y,rfl⟩;have a:isG (gOf ((P.drop s).take 8))=true:=o.gd;refine b1U f hp y G (a4g l) (a1T l) v (fun q h u=>?_) ⟨gOf ((P.drop s).take 8),b1S.2 ⟨b _ H fun B=>?_,a⟩,r⟩;exact b1R.2 ⟨b q (A q h) (by rw[←hpe];exact u),(f.plain q h).ng⟩;rw[B,←hpe,m]at a;cases a;exact K p (b1R.2 ⟨b p (A p hp) hpe,m⟩)
 have c:a1s (b1T P l)=P:=a9Y (b2Z z.dif) (b3a f) fun q=>by
  rw[a8B];exact⟨z.sub q,j q⟩
 rw[L,c,b3v f (by omega) C];rfl
end Go.Ab
