/- Part of the proof: QXW. Conditions: as each statement tells. -/
import Derived.Test.YtlddggjghmobhaaGreatMI
noncomputable section
set_option linter.unusedSimpArgs false
set_option linter.unusedVariables false
open Bool renaming not_false→a13
open List renaming take_succ_eq_append_getElem→a00,length_take→a01,take_of_length_le→a02,mem_of_mem_take→a03,take→a04,drop→a05,mem_of_mem_drop→a06,flatMap_append→a07,length_drop→a08,getElem_mem→a09,take_length→a11,drop_left→a16
namespace Go.Ab
variable {Z:List Pk}
open IntKind(wrap)
theorem Byt.app{a b:List Int}(h:Byt a)(g:Byt b):Byt (a++b):=fun x f=>(mA.1 f).elim (h x) (g x)
theorem a5J{x:Int}(h:0≤x∧x<256):Byt [x]:=fun b g=>by rw[List.mem_singleton]at g;rw[g];exact h
theorem b5Z{p:Pk}{s:Int}(h:PkOk s p):Byt (a0N p):=by
 have g:0≤a2a p∧a2a p<256:=by unfold a2a;cases p.2.2.2.1<;>cases p.2.2.2.2.1<;>decide
 unfold a0N;refine Byt.app (Byt.app (a5J (wu8 _)) (a5J g)) (Byt.app (a5g _ _) (Byt.app (a5g _ _) h.byt))
theorem b3b:∀(n:Nat)(f:Bool)(s:Nat)(r:List Int),r.length≤n→Byt r→∀p∈a1D f s r,PgByt p
 |n,f,s,[],_,_=>by rw[a2k];intro p hp;cases hp
 |0,f,s,a::r,h,_=>by simp at h
 |n+1,f,s,a::r0,h,hb=>by
  have c:(a::r0)≠[]:=by simp
  generalize a::r0=r at *
  have:=List.length_pos_iff.2 c
  rw[a2w c];intro p hp;rcases mC.1 hp with rfl|hp;exact⟨by show(r.take 252).length≤252;rw[a01];omega,fun b g=>hb b (a03 g)⟩;exact b3b n false (s+1) (r.drop 252) (by rw[a08];omega) (fun b g=>hb b (a06 g)) p hp
theorem a9Z:∀(bs:List (List Int)) (s:Nat),(∀b∈bs,Byt b)→∀p∈a0O s bs,PgByt p
 | [],s,_=>by intro p hp;cases hp
 |b::bs,s,h=>by
  rw[a0O];intro p hp;rcases mA.1 hp with hp|hp;exact b3b _ true s b (Nat.le_refl _) (h b (by simp)) p hp;exact a9Z bs _ (fun c g=>h c (by simp[g])) p hp
theorem a6B(h:Woven Z):∀p∈a0H Z,PgByt p:=a9Z _ _ fun b g=>by
 obtain⟨p,hp,rfl⟩:=List.mem_map.1 g;obtain⟨s,f,_⟩:=h.pk p hp;exact b5Z f
theorem b6K(h:Woven Z):∀q∈a0J (a0H Z),Byt q.2.2.2.2.1:=fun q f=>by
 rcases(a5w (a0H Z).length (a0H Z) (Nat.le_refl _)).1 q f with g|⟨s,g⟩;exact(a6B h q g).byt;obtain⟨_,_,_,e,_⟩:=g.fit (a7n h) (a6B h) (by have:=a3O h;omega);rw[e];exact Byt.app (a:=[_]) (a5J ⟨by omega,by rw[a01];omega⟩) (a7O _)
theorem b6a{p:Pge}(h:Byt p.2.2.2.2.1):Byt (pgB p):=by
 obtain⟨g,f,_⟩:=b5e p;rw[b6G];exact Byt.app (Byt.app (a5J (by decide)) (a5J (by decide)):Byt ([75]++[80])) (Byt.app (Byt.app (a5J ⟨g,by omega⟩) (Byt.app (a5g _ _) (a5J (wu8 _)))) (Byt.app h (a5g _ _)))
theorem a9l:∀{l:List Pge},(∀p∈l,Byt p.2.2.2.2.1)→Byt (a0R l)
 | [],_=>by intro b g;cases g
 |p::l,h=>Byt.app (b6a (h p (by simp))) (a9l fun q f=>h q (by simp[f]))
theorem b5r(l:List Mk):Byt (a5t l):=by
 unfold a5t;exact Byt.app b2y (Byt.app (a5g _ _) (fun b h=>by
  simp only[mC,List.not_mem_nil,or_false]at h;rcases h with rfl|rfl|rfl|rfl<;>decide))
theorem b4D{p q:Pge}(hp:Byt p.2.2.2.2.1)(g:Byt q.2.2.2.2.1):∃b,a4N (p,q)=some b∧(b=true→p=q):=by
 obtain⟨f,a,c,e,i,r⟩:=p;obtain⟨j,l,m,n,o,s⟩:=q;unfold a4N;simp only;simp only at hp g;rw[a7M hp,a7M g];cases h1:f==j with
 |false=>exact⟨false,rfl,fun h=>by cases h⟩
 |true=>
 cases h2:a==l with
 |false=>exact⟨false,rfl,fun h=>by cases h⟩
 |true=>
 cases h3:c==m with
 |false=>exact⟨false,rfl,fun h=>by cases h⟩
 |true=>
 cases h4:e==n with
 |false=>exact⟨false,rfl,fun h=>by cases h⟩
 |true=>
  refine⟨i==o,rfl,fun h=>?_⟩;rw[beq_iff_eq]at h h1 h2 h3 h4;subst h h1 h2 h3 h4;rfl
theorem a6C{A B:List Pge}(g:∀p∈A,Byt p.2.2.2.2.1)(f:∀p∈B,Byt p.2.2.2.2.1)(j:A.length=B.length)(l:A.length<1000000):∀(k i:Nat),A.length-i≤k→i≤A.length→A.take i=B.take i→
  y0h a1A (A,B,(i:Int),())=some (.inr (false,()))∨(y0h a1A (A,B,(i:Int),())=some (.inl ())∧A=B)
 |k,i,hk,hi,ht=>by
  by_cases h:i<A.length
  ·match k,hk with
   |0,hk=>omega
   |k+1,hk=>
    obtain⟨b,a,c⟩:=b4D (g A[i] (a09 h)) (f (B[i]'(by omega)) (a09 _));cases b with
    |false=>
     left;refine a0V ?_
     unfold a1A;simp only;rw[decide_eq_true (show(i:Int)<((A.length:Nat):Int)by omega),a0F h,a0F (show i<B.length by omega)];simp only[cT,oB,a,a13]
    |true=>
     have e:=c rfl;have m:=a6C g f j l k (i+1) (by omega) (by omega) (by rw[a00 h,a00 (show i<B.length by omega),ht,e]);have step:y0h a1A (A,B,(i:Int),())=y0h a1A (A,B,((i+1:Nat):Int),()):=by
      refine a1t ?_
      unfold a1A;simp only;rw[decide_eq_true (show(i:Int)<((A.length:Nat):Int)by omega),a0F h,a0F (show i<B.length by omega)];simp only[cT,oB,a,bT,cF];rw[w64 (by omega)];rfl
     rw[step];exact m
  right;refine⟨a0V ?_,?_⟩;unfold a1A;simp only;rw[decide_eq_false (by omega)];rfl;rw[a02 (by omega),a02 (by omega)]at ht;exact ht
theorem b3L{A B:List Pge}(g:∀p∈A,Byt p.2.2.2.2.1)(f:∀p∈B,Byt p.2.2.2.2.1)(a:A.length<1000000):∃b,a4r (A,B)=some b∧(b=true→A=B):=by
 unfold a4r;simp only
 by_cases hl:A.length=B.length
 rw[show(((A.length:Nat):Int) != ((B.length:Nat):Int))=false by rw[hl,bne_self_eq_false]];simp only[cF];rcases a6C g f hl a A.length 0 (by omega) (by omega) rfl with h|⟨h,e⟩;exact⟨false,a0D h rfl,fun h=>by cases h⟩;exact⟨true,a0D h rfl,fun _=>e⟩;rw[show(((A.length:Nat):Int) != ((B.length:Nat):Int))=true by rw[bne_iff_ne];omega];exact⟨false,rfl,fun h=>by cases h⟩
theorem b5s{n:Nat}{a:List Inf}{L:List (List Pk)}(h:Drawn n a L)(g:Woven Z)(f:Stb L.flatten Z){X:List Int}(c:a2i X=some (a0H Z,[]))(l:X.length<500000):a5P (a0T a++X)=some (a,L,[],0):=by
 have o:=h.str.one;have p:=h.str.four;have e:=h.len;have m:=g.len;have j:a1W (a0T a++X)=some (a,(((a0T a).length:Nat):Int),0):=b1z h.inf (by omega) (by omega) l;have i:(a0T a++X).length=(a0T a).length+X.length:=lN;have b:a05 (Int.toNat (((a0T a).length:Nat):Int)) (a04 (a0T a++X).length (a0T a++X))=X:=by rw[a11,tN,a16]
 unfold a5P;simp only[j,oB,bne_self_eq_false,cF];rw[decide_eq_true (show(0:Int)≤(((a0T a).length:Nat):Int)by omega),decide_eq_true (show(((a0T a).length:Nat):Int)≤(((a0T a++X).length:Nat):Int)by omega),b,decide_eq_true (show(0:Int)≤((a.length:Nat):Int)by omega),decide_eq_true (show((a.length:Nat):Int)≤((a.length:Nat):Int)by omega),tN,a0C (by omega)];simp only[cT,Bool.and_true,c,b3y g,oB]
 have:=a9S (a:=a) (h:=[]) (n:=a.length) (Z:=Z) (by omega) (h.in f) Z [] rfl
 rw[b3A,h.rows f]at this;refine a0D this rfl
theorem b6b{c:Int}{a:List Inf}{L:List (List Pk)}{h:Int}{W:List Pge}{i at0:Nat}{f:List Int}(l:∀q∈W,PgOk q)(s:W.length<100000)(hi:i<W.length)(p:at0<1000000):
  y0h a2u (c,a,L,h,W,(i:Int),(at0:Int),(0:Int),f,())=some (c,a,L,h,W,(i:Int),((at0+(a0R (W.take i)).length:Nat):Int),f,()):=by
 have:=a0E (f:=a2u) (fun k=>(c,a,L,h,W,(i:Int),((at0+(a0R (W.take k)).length:Nat):Int),(k:Int),f,())) i (b:=(c,a,L,h,W,(i:Int),((at0+(a0R (W.take i)).length:Nat):Int),f,())) (fun k r=>?_) ?_
 exact this;have g:k<W.length:=by omega
 have j:=a6d (W.take (k+1)) fun q m=>l q (a03 m);have e:(a0R (W.take (k+1))).length=(a0R (W.take k)).length+(12+(W[k]).2.2.2.2.1.length):=by
  rw[a00 g,show a0R (W.take k++[W[k]])=a0R (W.take k)++pgB W[k]by unfold a0R;rw[a07,List.flatMap_singleton],lN,a7U]
 rw[a01]at j;have o:wrap .i64 (wrap .i64 (((at0+(a0R (W.take k)).length:Nat):Int)+12)+(((W[k]).2.2.2.2.1.length:Nat):Int))=((at0+(a0R (W.take (k+1))).length:Nat):Int):=by
  rw[w64 (n:=((at0+(a0R (W.take k)).length:Nat):Int)+12) (by omega),w64 (by omega),e];omega
 unfold a2u;simp only;rw[decide_eq_true (show(k:Int)<(i:Int)by omega),a0F g];simp only[cT,oB,o];rw[w64 (by omega)];rfl;unfold a2u;simp only;rw[decide_eq_false (by omega)];rfl
theorem b0N(x:List Int×(Int×Int)):a5n x=some true:=by
 obtain⟨x,c,n⟩:=x;have e0:a4S x=some (x,(0:Int),()):=rfl;obtain⟨a,L,t',Y,l1,i1,V,-⟩:=b4V (r:=0) (t:=(x,(0:Int),())) (n:=6) ⟨by simp,by simp⟩ (by omega);rw[show((6:Nat):Int)=6 from rfl]at Y;have s:Drawn 6 a L:=⟨l1,i1,V⟩;obtain⟨Z,w,g,st⟩:=s.weave (by omega);have h4:=V.four;have A:=V.lens;have U:=b3I s (by omega) g st;have P:=b5m (a4Y g) (a6B g) (a7n g) (by have:=a3O g;omega);have N:=a8v g;have h6:=a8x g;have h3:=b4l s.inf (by omega);have h7:=b1C g;unfold a5n;simp only[e0,Y,oB,s.write w g,b4n s g,bne_self_eq_false,cF,U,b5l g,P];have G:=a8Y g;have j:=b6K g;have B:∀i,i<(a0J (a0H Z)).length→_:=fun i hi=>b5q (a7n g) (a6B g) (by have:=a3O g;omega) hi;have e:a7W a Z=a0T a++(a0R (a0J (a0H Z))++a5t ((a0H Z).flatMap a1g)):=rfl;have m:a6S Z=a0R (a0J (a0H Z)):=rfl;rw[m]at N;have E:=b5r ((a0H Z).flatMap a1g);generalize a5t ((a0H Z).flatMap a1g)=T at *;generalize a0J (a0H Z)=W at *;generalize a7W a Z=F at *
 by_cases hW0:W.length=0
 rw[show((((W.length:Nat):Int))==0)=true by rw[beq_iff_eq];omega];simp only[cT,oB,a7X]
 ·rw[show((((W.length:Nat):Int))==0)=false by rw[beq_eq_false_iff_ne];omega];simp only[cF,oB];cases hc:(n==0)with
  |true=>simp only[cT,oB,a7X]
  |false=>
   simp only[cF];have w0:wrap .i64 (((W.length:Nat):Int)-1)=((W.length:Nat):Int)-1:=w64 (by omega);obtain⟨v,hv,v0,v1⟩:=b5T c (hi:=((W.length:Nat):Int)-1) (by omega) (by omega);obtain⟨i,hi⟩:∃i:Nat,v=(i:Int):=⟨v.toNat,by omega⟩;subst hi;have o:i<W.length:=by omega
   have w8:wrap .i64 ((((a0T a).length:Nat):Int)+8)=(((a0T a).length+8:Nat):Int):=by rw[w64 (by omega)];omega
   have q:=b6b (c:=n) (a:=a) (L:=L) (h:=(((a0T a).length:Nat):Int)) (W:=W) (i:=i) (at0:=(a0T a).length+8) (f:=F) G (by omega) o (by omega);have S:a0R W=a0R (W.take i)++(pgB W[i]++a0R (W.drop (i+1))):=by
    have:=congrArg a0R (a8A (lG o))
    refine this.trans ?_
    unfold a0R;rw[a07,List.flatMap_cons]
   have h5:=a7U W[i];have C:=congrArg List.length S;rw[lN,lN]at C;have h1:F.length=(a0T a).length+((a0R W).length+T.length):=by rw[e,lN,lN]
   have h0:(a0T a).length+8+(a0R (W.take i)).length<F.length:=by omega
   have D:Byt (a0R W++T):=Byt.app (a9l j) E;have hX:∃X:List Int,F.set ((a0T a).length+8+(a0R (W.take i)).length) (bits .u8 .xor (F.getD ((a0T a).length+8+(a0R (W.take i)).length) 0) n)=a0T a++X∧Byt X∧X.length=(a0R W).length+T.length:=by
    have z:=b2S (F.getD ((a0T a).length+8+(a0R (W.take i)).length) 0) n;unfold bx at z;generalize bits .u8 .xor (F.getD ((a0T a).length+8+(a0R (W.take i)).length) 0) n=y at *;refine⟨(a0R W++T).set ((a0T a).length+8+(a0R (W.take i)).length-(a0T a).length) y,?_,fun b K=>?_,by rw[List.length_set,lN]⟩;rw[e,List.set_append_right _ _ (by omega)];rcases List.mem_or_eq_of_mem_set K with h|h;exact D b h;rw[h];exact z
   rw[w0,hv];simp only[oB,w8];rw[q];simp only[oB,List.append_eq,List.nil_append,tN];generalize (a0T a).length+8+(a0R (W.take i)).length=pos at *;obtain⟨X,I,H,h2⟩:=hX;simp only[I];have w1:wrap .i64 ((i:Int)+1)=((i+1:Nat):Int):=by rw[w64 (by omega)];omega
   rw[w1,decide_eq_false (show ¬ (pos:Int)≥((F.length:Nat):Int)by omega),a0C (show 0+F.length<2147483648 by omega),decide_eq_true (show(0:Int)≤(pos:Int)by omega),decide_eq_true (show(pos:Int)<((F.length:Nat):Int)by omega),decide_eq_true (show(0:Int)≤(((a0T a).length:Nat):Int)by omega),decide_eq_true (show(((a0T a).length:Nat):Int)≤(((a0T a++X).length:Nat):Int)by rw[lN];omega),decide_eq_true (show(0:Int)≤(i:Int)by omega),decide_eq_true (show(i:Int)≤((W.length:Nat):Int)by omega),a0C (show 0+(a04 i W).length<2147483648 by rw[a01];omega),decide_eq_true (show(0:Int)≤((i+1:Nat):Int)by omega),decide_eq_true (show((i+1:Nat):Int)≤((W.length:Nat):Int)by omega),tN,a11,a0C (show(a04 i W).length+(a05 (i+1) W).length<2147483648 by rw[a01,a08];omega)];have eX:a04 ((a0T a++X).length-(a0T a).length) (a05 (a0T a).length (a0T a++X))=X:=by rw[a16,a02 (by rw[lN];omega)]
   rw[eX];simp only[cT,cF,Bool.and_true];obtain⟨W',u,q1,q2,q3,q4⟩:=b4B H (by omega);have Q:∀p∈a04 i W++a05 (i+1) W,Byt p.2.2.2.2.1:=fun p hp=>by
    rcases mA.1 hp with hp|hp;exact j p (a03 hp);exact j p (a06 hp)
   obtain⟨b,K,M⟩:=b3L q4 Q (by omega);have O:a3c (X,a04 i W++a05 (i+1) W)=some b:=by
    unfold a3c;simp only[q2,K,oB]
   rw[O];cases b with
   |false=>simp only[oB,a13,cT,a7X]
   |true=>
    have R:a2i X=some (a0H Z,[]):=by
     unfold a2i;simp only[q1,oB,M rfl,B i o]
    simp only[oB,bT,cF,b5s s g st R (by omega),beq_self_eq_true,cT,b3B (l:=a) (by omega),b4p (l:=L) (by omega) (fun l hl=>by have:=A l hl;omega),List.length_nil,a7X];rfl
end Go.Ab
