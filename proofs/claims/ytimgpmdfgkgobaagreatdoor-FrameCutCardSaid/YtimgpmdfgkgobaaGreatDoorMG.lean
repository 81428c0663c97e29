/- Part of the proof: QUP. Conditions: as each statement tells. -/
import Derived.Test.YtimgpmdfgkgobaaGreatDoorRows
import Derived.ProofKit
import Derived.LaidMore
import Derived.LaidLaws
import Derived.LaidHandle
import Derived.LaidByTextLater
import Derived.OpenShut
import Derived.Handed
import Derived.KernelRfl
import Derived.Test.YtimgpmdfgkgobaaGreatDoorMF
noncomputable section
set_option linter.unusedSimpArgs false
set_option linter.unusedVariables false
open BitVec renaming xor_assoc→a00,getLsbD_ushiftRight→a02,msb_eq_getLsbD_last→a08,eq_of_getLsbD_eq→a17,xor_comm→a20,xor_zero→a31,getLsbD→a33
open Int renaming cast_ofNat_Int→a26
open List renaming nil_append→a01,append_eq→a03,replicate→a04,take_of_length_le→a05,length_take→a06,take_append_of_le_length→a07,take_append→a09,range→a16,map_map→a18,append_nil→a19,foldl_cons→a21,eq_replicate_iff→a22,range_add→a23,getD_cons_succ→a24,map_congr_left→a25,mem_map→a27,foldl_append→a28,take_length→a29,length_nil→a30,take_zero→a32
namespace Go.Ab
open IntKind(wrap)
theorem c4I{r:List Int}{n:Nat}(e:r.length=n∧r.all a0A=true)(m:1≤n)(o:n≤256){k:Int}(b:0≤k)(c:k≤3):
  ∃s,a4N (r,k)=some (s,0)∧SmallS s∧a2g s (n:Int)=some r∧a4p s (n:Int)≤((13+a0G r*n:Nat):Int):=by
 obtain⟨h,g⟩:=e;have d:=a5T (l:=r) (by omega) g;obtain⟨s,i,j,f,-,-,a,-⟩:=c2K (l:=r) (by omega) (by omega) g (c6D (by have:=d.1;omega)) b c;exact⟨s,i,j,by rw[h]at f;exact f,by rw[h]at a;exact a⟩
theorem b7E{effort:Int}(b:0≤effort)(j:effort≤3){rows:List (List Int)}{n:Nat}(l:a3g rows n)(c:1≤n)(i:n≤256)(p:rows.length≤8)(f:a1k):∀(rest d:List (List Int)) (done:List Sub),d++rest=rows→done.length=d.length→
  ∃outs,x0r a4O (effort,rows,(rows.length:Int),(d.length:Int),b3I,a7B f done,())=some (.inl (b3I,a7B f (done++outs),()))∧a6I (fun s=>a2g s (n:Int)) outs=some rest∧(∀s∈outs,SmallS s)∧a6I (fun r=>a4N (r,effort)) rest=some (outs.map fun s=>(s,0))
 | [],d,done,hd,hdl=>by
  have e:d=rows:=by simpa using hd
  subst e;refine⟨[],?_,rfl,by simp,rfl⟩;rw[a19];exact a0I (by simp only[a4O,dge,cF])
 |r::rest,d,done,hd,hdl=>by
  have h:d.length<rows.length:=by rw[←hd];simp
  have q:l0z rows (d.length:Int)=some r:=by rw[a0B h];subst hd;simp
  obtain⟨s,a,m,o,-⟩:=c4I (l r (by rw[←hd];simp)) c i b j;have z0:((0:Int) != 0)=false:=rfl;have g:a4O (effort,rows,(rows.length:Int),(d.length:Int),b3I,a7B f done,())=some (.inl (effort,rows,(rows.length:Int),(((d++[r]).length:Nat):Int),b3I,a7B f (done++[s]),())):=by
   simp only[a4O,dlt h,cT,q,oB,a,z0,cF];rw[show(a7B f done).2.2.2.2.1=done from rfl,a1c (show done.length+1<2147483648 by omega),cT,a0C (show d.length<1000000 by omega)];rw[show(((d++[r]).length:Nat):Int)=((d.length+1:Nat):Int)from by simp];rfl
  rw[a0J g];obtain⟨outs,u,v,w,x⟩:=b7E b j l c i p f rest (d++[r]) (done++[s]) (by simpa using hd) (by simp[hdl]);refine⟨s::outs,?_,?_,fun t k=>?_,?_⟩;rw[u];simp;simp only[a6I,o,v,oB];rcases mC.1 k with rfl|k;exact m;exact w t k;simp only[a6I,a,x,oB,List.map_cons]
theorem c2V{b:a1B}(hb:a2O b)(k:a1E b≤256){rate start effort:Int}(p:1≤rate∧rate≤1048576)(E:0≤start∧start≤4194304-((a1E b:Nat):Int))(B:0≤effort)(C:effort≤3):
  ∃l g outs,a5p (b,(rate,((b.2.1.length:Nat):Int),b.1,()),start,effort)=some ((start,((a1E b:Nat):Int),(rate,((b.2.1.length:Nat):Int),b.1,()),l,outs,()),0)∧
   a4u l (b.2.1.length:Int)∧doO l b.2.1=some g∧a6I (fun s=>a2g s ((a1E b:Nat):Int)) outs=some g∧(∀s∈outs,SmallS s)∧a6I (fun r=>a4N (r,effort)) g=some (outs.map fun s=>(s,0))∧
   (effort=0→l=[])∧(0<effort→a6B b=some l):=by
 obtain⟨D,o⟩:=b4o hb;have j:=hb;obtain⟨z,A,G,H,I,K,-⟩:=j;have m:b6w (rate,((b.2.1.length:Nat):Int),b.1,()):=⟨p.1,p.2,by show(1:Int)≤((b.2.1.length:Nat):Int);omega,by show((b.2.1.length:Nat):Int)≤8;omega,z,A⟩;have f:∃l g,a4u l (b.2.1.length:Int)∧doO l b.2.1=some g∧(effort=0→l=[])∧(0<effort→a6B b=some l):=by
  by_cases he:effort=0
  exact⟨[],b.2.1,⟨by omega,by omega,by simp,rfl⟩,rfl,fun _=>rfl,fun h=>by omega⟩;obtain⟨l,c,n,q,F⟩:=c0Q hb;exact⟨l,c,q,F,fun h=>absurd h he,fun _=>n⟩
 obtain⟨l,g,i,e,a,d⟩:=f;obtain⟨n,q⟩:=b1w l D rfl i.2.2.2 e;obtain⟨outs,j1,j2,j3,j4⟩:=b7E B C n (by omega) k (by omega) (start,((a1E b:Nat):Int),(rate,((b.2.1.length:Nat):Int),b.1,()),l,([]:List Sub),()) g [] [] rfl rfl;refine⟨l,g,outs,?_,i,e,j2,j3,j4,a,d⟩;have x:(b.1 != b.1)=false:=bne_self_eq_false _;have y:(((b.2.1.length:Nat):Int) != ((b.2.1.length:Nat):Int))=false:=bne_self_eq_false _;have t:decide (effort<0)=false:=by simp only[decide_eq_false_iff_not];omega
 have u:decide (effort > 3)=false:=by simp only[decide_eq_false_iff_not];omega
 have v:decide (start<0)=false:=by simp only[decide_eq_false_iff_not];omega
 have w:decide (start > wrap .i64 (4194304-((a1E b:Nat):Int)))=false:=by rw[a0D (by omega)];simp only[decide_eq_false_iff_not];omega
 have z0:((0:Int) != 0)=false:=rfl;unfold a5p;simp only[b2f,decide_eq_true hb,oB,bT,cF,b3F,decide_eq_true m,x,y,t,u,v,a7g,w];cases he:decide (effort > 0)with
 |true=>
  have:=d (by simpa using he)
  simp only[cT,this,oB,b9j,if_pos (show a2A b.2.1∧a4u l (b.2.1.length:Int)from⟨o,i⟩),e,b6y,z0,cF]
  erw[j1]
  rfl
 |false=>
  have:=a (by simp only[decide_eq_false_iff_not]at he;omega)
  subst this;simp only[cF,oB,b9j,if_pos (show a2A b.2.1∧a4u ([]:List a0V) (b.2.1.length:Int)from⟨o,i⟩),e,b6y,z0]
  erw[j1]
  rfl
theorem made{b:a1B}(hb:a2O b)(f:a1E b≤256){rate start effort:Int}(e:1≤rate∧rate≤1048576)(a:0≤start∧start≤4194304-((a1E b:Nat):Int))(j:0≤effort)(n:effort≤3):
  ∃g:Int×(a0V×(List a0V×(List Sub×Unit))),a5p (b,(rate,((b.2.1.length:Nat):Int),b.1,()),start,effort)=some ((start,g),0)∧g.1=((a1E b:Nat):Int)∧g.2.1=(rate,((b.2.1.length:Nat):Int),b.1,())∧
   g.2.2.1.length≤16∧g.2.2.2.1.length≤8∧(∀s∈g.2.2.2.1,SmallS s)∧∀h,0≤h∧h≤4194304-((a1E b:Nat):Int)→a7U (h,g)=some b:=by
 obtain⟨l,i,outs,m,k,c,d,o,-⟩:=c2V hb f e a j n;obtain⟨p,-⟩:=b4o hb;have t:=b6z d;have q:=(b1w l p rfl k.2.2.2 c).2;exact⟨_,m,rfl,rfl,k.2.2.1,by have:=hb.2.2.2.1;show outs.length≤8;omega,o,fun h r=>c2T hb k c d r e⟩
theorem b8N{n:Nat}:∀(j m i acc:Nat)(P:List Int)(k:Nat),m<128^(j+1)→P.length=i→(i=0∨1≤m)→acc<2^(7*i)→m*2^(7*i)+acc<9223372036854775808→k<(a0E m).length→(P++a0E m).length≤n→n<1000000→
  x0r a1Z ((acc:Int),P++(a0E m).take k,((P++(a0E m).take k).length:Nat),(i:Int),())=some (.inl ())
 |j,m,i,acc,P,k,hj,hP,hm,ha,hs,hk,hl,hn=>by
  cases k with
  |zero=>
   rw[a32,a19];exact a0I (by
    have d:decide ((i:Int)<(P.length:Int))=false:=by simp;omega
    simp only[a1Z,d,cF])
  |succ k=>
   have g:¬ m<128:=fun h=>by rw[b1u h]at hk;simp at hk
   cases j with
   |zero=>omega
   |succ j=>
    have r:m / 128<128^(j+1):=by rw[Nat.div_lt_iff_lt_mul (by omega)];rw[Nat.pow_succ]at hj;exact hj
    have t:i≤8:=by
     apply Classical.byContradiction;intro y;have w:2^(7*9)≤2^(7*i):=Nat.pow_le_pow_right (by omega) (by omega);have x:2^(7*i)≤m*2^(7*i):=Nat.le_mul_of_pos_left _ (by omega);have e:(2:Nat)^(7*9)=9223372036854775808:=by decide
     omega
    have b:2^(7*(i+1))=128*2^(7*i):=by rw[show 7*(i+1)=7+7*i from by omega,Nat.pow_add]
    have u:m*2^(7*i)=m%128*2^(7*i)+m / 128*2^(7*(i+1)):=by
     rw[b,←Nat.mul_assoc,←Nat.add_mul];congr 1;omega
    have hb:m%128*2^(7*i)≤127*2^(7*i):=Nat.mul_le_mul_right _ (by omega);have c:wrap .i64 ((7:Int)*(i:Int))=((7*i:Nat):Int):=by rw[a0D (by omega)];omega
    have o:decide ((((7*i:Nat):Int))<0)=false:=by simp;omega
    have l:wrap .i64 ((i:Int)+1)=((i+1:Nat):Int):=a0C (by omega);have q:((i:Int)==9)=false:=by simp;omega
    have e:P++(a0E m).take (k+1)=(P++[((m%128+128:Nat):Int)])++(a0E (m / 128)).take k:=by rw[a7A g];simp
    have a:i<(P++(a0E m).take (k+1)).length:=by rw[e];simp;omega
    have s:l0z (P++(a0E m).take (k+1)) (i:Int)=some ((m%128+128:Nat):Int):=by
     rw[a0B a];congr 1;subst hP;simp[a7A g]
    have v:(((m%128+128:Nat):Int)==0)=false:=by simp;omega
    have f:decide (((m%128+128:Nat):Int)<128)=false:=by simp;omega
    have p:bits .u64 .or (acc:Int) (z0g .u64 (wrap .u64 (Int.tmod ((m%128+128:Nat):Int) 128)) ((7*i:Nat):Int))=((acc+m%128*2^(7*i):Nat):Int):=by
     rw[show Int.tmod ((m%128+128:Nat):Int) 128=(((m%128+128)%128:Nat):Int)from rfl,Nat.add_mod_right,Nat.mod_mod,a0P (by omega),a8q (by omega) (by omega)];exact orA ha (by omega)
    rw[a0J (s':=(((acc+m%128*2^(7*i):Nat):Int),P++(a0E m).take (k+1),(((P++(a0E m).take (k+1)).length:Nat):Int),((i+1:Nat):Int),())) (by
     simp only[a1Z,dlt a,cT,s,oB,q,cF];cases hd0:decide ((i:Int) > 0)with
     |true=>simp only[cT,oB,v,cF,c,o,f,p,l]
     |false=>simp only[oB,cF,c,o,f,p,l])]
    rw[e];exact b8N (n:=n) j (m / 128) (i+1) (acc+m%128*2^(7*i)) (P++[((m%128+128:Nat):Int)]) k r (by simp[hP]) (.inr (by omega)) (by rw[b];omega) (by omega) (by rw[a7A g]at hk;simpa using hk) (by rw[a7A g]at hl;simpa using hl) hn
theorem c0R{m:Nat}(h:m<9223372036854775808){k:Nat}(g:k<(a0E m).length):a3W ((a0E m).take k)=some (0,0,3):=by
 have hv:=a5z h
 have:=b8N (n:=100) 8 m 0 0 [] k (by rw[show(128:Nat)^(8+1)=9223372036854775808 from by decide];exact h) rfl (.inl rfl) (by simp) (by simpa using h) g (by simp;omega) (by omega)
 simp only[a01,nZ,a26]at this;unfold a3W
 erw[this]
 rfl
def dead(T:List Int)(a:Int):List Int×(Int×Int×Unit):=(T,a,(3:Int),())
theorem a4X(T:List Int)(a most:Int):a0Q (dead T a,most)=some (0,dead T a):=rfl
theorem c5U{n:Nat}(e:n<9223372036854775808){k:Nat}(d:k<(a0E n).length)(P:List Int)(most:Int):
  a0Q (ord P ((a0E n).take k),most)=some (0,dead (P++(a0E n).take k) (P.length:Int)):=by
 have c:List.drop (Int.toNat (P.length:Int)) (List.take (P++(a0E n).take k).length (P++(a0E n).take k))=(a0E n).take k:=by
  rw[a29,tN,List.drop_left]
 have a:((0:Int) != 0)=false:=rfl;have b:((3:Int) != 0)=true:=rfl;have h:((3:Int)==0)=false:=rfl;have g:decide ((0:Int)≤(P.length:Int))=true:=by simp
 have f:decide ((P.length:Int)≤((P++(a0E n).take k).length:Int))=true:=by simp;omega
 unfold a0Q ord;simp only[a,cF,g,f,Bool.and_self,cT];rw[c,c0R e d];simp only[oB,h,cF,b,cT];rfl
theorem a6E{n:Nat}(h:n<9223372036854775808){most:Int}(f:(n:Int)≤most){P R:List Int}{k:Nat}(g:(P++(a0E n++R)).length<1000000):
  (∃k',(a0E n++R).take k=a0E n++R.take k'∧k=(a0E n).length+k'∧a0Q (ord P ((a0E n++R).take k),most)=some ((n:Int),ord (P++a0E n) (R.take k')))∨
  (k<(a0E n).length∧∃T a,a0Q (ord P ((a0E n++R).take k),most)=some (0,dead T a)):=by
 by_cases hk:k<(a0E n).length
 rw[a07 (by omega)];exact .inr ⟨hk,_,_,c5U h hk P most⟩;refine .inl ⟨k-(a0E n).length,?_,by omega,?_⟩;rw[a09,a05 (by omega)];rw[a09,a05 (by omega)];exact a7f h f (by simp only[lN,a06]at g⊢;omega)
theorem b7F{x:List Int}(s l:Int)(g:a0V)(u:List Sub×Unit){N:Nat}(b:N≤16)(T:List Int)(a:Int):∀(j:Nat)(done:List a0V),done.length+j=N→
  ∃k,x0r a0R (x,(N:Int),(done.length:Int),(s,l,g,done,u),dead T a,())=some (x,(s,l,g,k,u),dead T a,())
 |0,done,h=>by
  have e:done.length=N:=by omega
  rw[e];exact⟨done,a0I (by simp only[a0R,dge,cF])⟩
 |j+1,done,h=>by
  have d:wrap .u64 ((done.length:Int)+1)=(((done++[((0:Int),(0:Int),(0:Int),())]).length:Nat):Int):=by rw[a0P (by omega)];simp
  have c:decide ((done.length:Int)<(N:Int))=true:=by simp;omega
  have i:a6A 0=some 0:=rfl;have m:wrap .i64 0=0:=rfl;obtain⟨k,f⟩:=b7F (x:=x) s l g u b T a j (done++[(0,0,0,())]) (by simp;omega);refine⟨k,?_⟩;rw[←f];exact a0J (by
   simp only[a0R,c,cT,a4X,oB,i,a1c (show done.length+1<2147483648 by omega),m,d,a03])
theorem b8O{x:List Int}{ch:Int}(z:ch≤8)(s l:Int)(f:a0V)(u:List Sub×Unit){N:Nat}(C:N≤16){R:List Int}:∀(rest done:List a0V)(P:List Int)(k:Nat),rest.all (a1M ch)=true→done.length+rest.length=N→
  (P++(rest.flatMap a1j++R)).length<1000000→
  (∃k',k=(rest.flatMap a1j).length+k'∧x0r a0R (x,(N:Int),(done.length:Int),(s,l,f,done,u),ord P ((rest.flatMap a1j++R).take k),())=some (x,(s,l,f,done++rest,u),ord (P++rest.flatMap a1j) (R.take k'),()))∨
  (k<(rest.flatMap a1j).length∧∃q T a,x0r a0R (x,(N:Int),(done.length:Int),(s,l,f,done,u),ord P ((rest.flatMap a1j++R).take k),())=some (x,(s,l,f,q,u),dead T a,()))
 | [],done,P,k,_,hl,_=>by
  have e:done.length=N:=by simpa using hl
  refine .inl ⟨k,by simp,?_⟩;rw[e,a0I (b:=(x,(s,l,f,done,u),ord P (R.take k),())) (by simp only[a0R,dge,cF];rfl)]
  simp
 |g::rest,done,P,k,h,hl,hlen=>by
  simp only[List.all_cons,bA]at h;rw[lC]at hl;obtain⟨a1,S,U,V,X,F,G⟩:=a2z.1 h.1;have Y:=b5u (m:=1024) ⟨F,G⟩;have K:(g::rest).flatMap a1j++R=a0E g.1.toNat++(a0E g.2.1.toNat++(a0E (a3L g.2.2.1)++(rest.flatMap a1j++R))):=by simp[a1j]
  have I:((g::rest).flatMap a1j).length=(a0E g.1.toNat).length+((a0E g.2.1.toNat).length+((a0E (a3L g.2.2.1)).length+(rest.flatMap a1j).length)):=by simp[a1j]
  rw[K]at hlen⊢;rw[I];have t:decide ((done.length:Int)<(N:Int))=true:=by simp;omega
  have z0:a6A 0=some 0:=rfl

  have c:∀(p:a0V)(T:List Int)(a:Int),a0R (x,(N:Int),(done.length:Int),(s,l,f,done,u),ord P ((a0E g.1.toNat++(a0E g.2.1.toNat++(a0E (a3L g.2.2.1)++(rest.flatMap a1j++R)))).take k),()) =
    some (.inl (x,(N:Int),(((done++[p]).length:Nat):Int),(s,l,f,done++[p],u),dead T a,()))→
    ∃q T a,x0r a0R (x,(N:Int),(done.length:Int),(s,l,f,done,u),ord P ((a0E g.1.toNat++(a0E g.2.1.toNat++(a0E (a3L g.2.2.1)++(rest.flatMap a1j++R)))).take k),())=some (x,(s,l,f,q,u),dead T a,()):=fun p T a L=>by
   obtain⟨q,A⟩:=b7F (x:=x) s l f u C T a rest.length (done++[p]) (by simp;omega);exact⟨q,T,a,by rw[a0J L];exact A⟩
  have v:∀p:a0V,wrap .u64 ((done.length:Int)+1)=(((done++[p]).length:Nat):Int):=fun p=>by rw[a0P (by omega)];simp
  rcases a6E (n:=g.1.toNat) (most:=7) (by omega) (by omega) (k:=k) hlen with⟨M,-,Z,r⟩|⟨D,T,a,r⟩;rotate_left;exact .inr ⟨by omega,c _ T a (by
   simp only[a0R,t,cT,r,a4X,z0,oB,a1c (show done.length+1<2147483648 by omega),v ((0:Int),(0:Int),(0:Int),()),a03];rfl)⟩
  have d:=a1l hlen;rcases a6E (n:=g.2.1.toNat) (most:=7) (by omega) (by omega) (k:=M) d with⟨O,-,q2,w⟩|⟨D,T,a,w⟩;rotate_left;exact .inr ⟨by omega,c _ T a (by
   simp only[a0R,t,cT,r,w,a4X,z0,oB,a1c (show done.length+1<2147483648 by omega),v (wrap .i64 ((g.1.toNat:Nat):Int),wrap .i64 0,(0:Int),()),a03];rfl)⟩
  have i:=a1l d;rcases a6E (n:=a3L g.2.2.1) (most:=2048) (by omega) (by omega) (k:=O) i with⟨E,-,q3,B⟩|⟨D,T,a,B⟩;rotate_left;exact .inr ⟨by omega,c _ T a (by
   simp only[a0R,t,cT,r,w,B,z0,oB,a1c (show done.length+1<2147483648 by omega),v (wrap .i64 ((g.1.toNat:Nat):Int),wrap .i64 ((g.2.1.toNat:Nat):Int),(0:Int),()),a03];rfl)⟩
  have o:=a1l i;have Q:wrap .i64 ((g.1.toNat:Nat):Int)=g.1:=by rw[a0D (by omega)];omega
  have w2:wrap .i64 ((g.2.1.toNat:Nat):Int)=g.2.1:=by rw[a0D (by omega)];omega
  have j:a0R (x,(N:Int),(done.length:Int),(s,l,f,done,u),ord P ((a0E g.1.toNat++(a0E g.2.1.toNat++(a0E (a3L g.2.2.1)++(rest.flatMap a1j++R)))).take k),()) =
    some (.inl (x,(N:Int),(((done++[g]).length:Nat):Int),(s,l,f,done++[g],u),ord (P++a0E g.1.toNat++a0E g.2.1.toNat++a0E (a3L g.2.2.1)) ((rest.flatMap a1j++R).take E),())):=by
   simp only[a0R,t,cT,r,w,B,oB,c3H (g:=g.2.2.1) (by omega),a1c (show done.length+1<2147483648 by omega),Q,w2,v g,a03]
  rcases b8O z s l f u C rest (done++[g]) (P++a0E g.1.toNat++a0E g.2.1.toNat++a0E (a3L g.2.2.1)) E h.2 (by simp;omega) o with⟨k',H,y⟩|⟨H,q,T,a,y⟩;refine .inl ⟨k',by omega,?_⟩;rw[a0J j,y];simp[a1j];exact .inr ⟨by omega,q,T,a,by rw[a0J j];exact y⟩
def c3P:a1k×(Int×Int×Int):=(b3I,0,0,3)
theorem c1s{f:a1k}(R:frP f){body:Nat}(C:body≤1048576){k:Nat}(hk:k<(a0X f body).length):a2h ((a0X f body).take k)=some c3P:=by
 obtain⟨⟨r1,r2,c1,c2,d1,d2⟩,l1,l2,s1,s2,m1,m2,m3,m4⟩:=id R;have Z:=b7v R C;have D:(a0X f body).length=(hb f body).length+1:=by simp[a0X]
 by_cases hk2:k<2
 have d:decide ((((a0X f body).take k).length:Int)<2)=true:=by simp only[a06,dT];omega
 unfold a2h;simp only[d,cT];rfl;have B:a0X f body=[245,75]++(a0E f.1.toNat++(a0E f.2.1.toNat++(a0E f.2.2.1.1.toNat++(a0E f.2.2.1.2.1.toNat++(a0E f.2.2.1.2.2.1.toNat++(a0E f.2.2.2.1.length++(f.2.2.2.1.flatMap a1j++(a0E body++[a8l (hb f body)])))))))):=by
  simp[a0X,hb]
 obtain⟨j,rfl⟩:∃j,k=j+2:=⟨k-2,by omega⟩;have l:(a0E f.1.toNat++(a0E f.2.1.toNat++(a0E f.2.2.1.1.toNat++(a0E f.2.2.1.2.1.toNat++(a0E f.2.2.1.2.2.1.toNat++(a0E f.2.2.2.1.length++(f.2.2.2.1.flatMap a1j++(a0E body++[a8l (hb f body)])))))))).length=(hb f body).length-1:=by
  have:=congrArg List.length B
  rw[lN,D]at this;simp only[lC,a30]at this;omega
 have b:([]++(a0E f.1.toNat++(a0E f.2.1.toNat++(a0E f.2.2.1.1.toNat++(a0E f.2.2.1.2.1.toNat++(a0E f.2.2.1.2.2.1.toNat++(a0E f.2.2.2.1.length++(f.2.2.2.1.flatMap a1j++(a0E body++[a8l (hb f body)])))))))):List Int).length<1000000:=by
  rw[a01,l];omega
 have v:(a0X f body).take (j+2)=245::75::(a0E f.1.toNat++(a0E f.2.1.toNat++(a0E f.2.2.1.1.toNat++(a0E f.2.2.1.2.1.toNat++(a0E f.2.2.1.2.2.1.toNat++(a0E f.2.2.2.1.length++(f.2.2.2.1.flatMap a1j++(a0E body++[a8l (hb f body)])))))))).take j:=by
  rw[B];rfl
 generalize hX:(a0X f body).take (j+2)=x at *;have h0:2≤x.length:=by rw[v];simp
 have X:l0z x 0=some 245:=by rw[v];rfl
 have Y:l0z x 1=some 75:=by rw[v];rfl
 have m:List.drop 2 (List.take x.length x)=(a0E f.1.toNat++(a0E f.2.1.toNat++(a0E f.2.2.1.1.toNat++(a0E f.2.2.1.2.1.toNat++(a0E f.2.2.1.2.2.1.toNat++(a0E f.2.2.2.1.length++(f.2.2.2.1.flatMap a1j++(a0E body++[a8l (hb f body)])))))))).take j:=by
  rw[a29,v];rfl
 have t:∀T:List Int,T.length<1000000→a6z T=some (ord [] T):=fun T B=>by unfold a6z;rw[a1c (by omega)];rfl
 have F:((a0E f.1.toNat++(a0E f.2.1.toNat++(a0E f.2.2.1.1.toNat++(a0E f.2.2.1.2.1.toNat++(a0E f.2.2.1.2.2.1.toNat++(a0E f.2.2.2.1.length++(f.2.2.2.1.flatMap a1j++(a0E body++[a8l (hb f body)])))))))).take j).length<1000000:=by
  rw[a06,l];omega
 have V:decide (((x.length:Nat):Int)<2)=false:=by simp;omega
 have z:decide ((2:Int)≤((x.length:Nat):Int))=true:=by simp;omega
 have S:((245:Int) != 245)=false:=rfl;have U:((75:Int) != 75)=false:=rfl;have i:((3:Int) != 0)=true:=rfl;have z0:((0:Int) != 0)=false:=rfl;have h:∀(A:a1k)(r:List Int×(Int×Int×Unit)),x0r a0R (x,(0:Int),(0:Int),A,r,())=some (x,A,r,()):=fun A r=>a0I rfl;have g:∀T a,(dead T a).2.2.1=3:=fun _ _=>rfl;have w1:wrap .i64 ((f.1.toNat:Nat):Int)=f.1:=by rw[a0D (by omega)];omega
 have w2:wrap .i64 ((f.2.1.toNat:Nat):Int)=f.2.1:=by rw[a0D (by omega)];omega
 have w3:wrap .i64 ((f.2.2.1.1.toNat:Nat):Int)=f.2.2.1.1:=by rw[a0D (by omega)];omega
 have w4:wrap .i64 ((f.2.2.1.2.1.toNat:Nat):Int)=f.2.2.1.2.1:=by rw[a0D (by omega)];omega
 have w5:wrap .i64 ((f.2.2.1.2.2.1.toNat:Nat):Int)=f.2.2.1.2.2.1:=by rw[a0D (by omega)];omega
 unfold a2h;simp only[V,cF,X,Y,oB,S,U,z,cT];rw[m,t _ F];simp only[oB];rcases a6E (n:=f.1.toNat) (most:=4194304) (by omega) (by omega) (k:=j) b with⟨k1,-,q1,c⟩|⟨-,T,a,c⟩;rotate_left;simp only[c,a4X,oB,h,a1a,g,i,cT];rfl;have H:=a1l b;rcases a6E (n:=f.2.1.toNat) (most:=4096) (by omega) (by omega) (k:=k1) H with⟨k2,-,q2,p⟩|⟨-,T,a,p⟩;rotate_left;simp only[c,p,a4X,oB,h,a1a,g,i,cT];rfl;have I:=a1l H;rcases a6E (n:=f.2.2.1.1.toNat) (most:=1048576) (by omega) (by omega) (k:=k2) I with⟨k3,-,q3,q⟩|⟨-,T,a,q⟩;rotate_left;simp only[c,p,q,a4X,oB,h,a1a,g,i,cT];rfl;have K:=a1l I;rcases a6E (n:=f.2.2.1.2.1.toNat) (most:=8) (by omega) (by omega) (k:=k3) K with⟨k4,-,q4,u⟩|⟨-,T,a,u⟩;rotate_left;simp only[c,p,q,u,a4X,oB,h,a1a,g,i,cT];rfl;have L:=a1l K;rcases a6E (n:=f.2.2.1.2.2.1.toNat) (most:=24) (by omega) (by omega) (k:=k4) L with⟨k5,-,q5,w⟩|⟨-,T,a,w⟩;rotate_left;simp only[c,p,q,u,w,a4X,oB,h,a1a,g,i,cT];rfl;have M:=a1l L;rcases a6E (n:=f.2.2.2.1.length) (most:=16) (by omega) (by omega) (k:=k5) M with⟨k6,-,q6,G⟩|⟨-,T,a,G⟩;rotate_left;simp only[c,p,q,u,w,G,a4X,oB,h,a1a,g,i,cT];rfl;have N:=a1l M;have Q:=b8O (x:=x) m2 f.1 f.2.1 f.2.2.1 ([],()) m3 f.2.2.2.1 [] _ k6 m4 (by simp) N;simp only[a30,nZ,a01,a26]at Q;simp only[c,p,q,u,w,G,oB,w1,w2,w3,w4,w5];rcases Q with⟨k7,q7,e⟩|⟨-,ls,T,a,e⟩;rotate_left
 erw[e]
 simp only[a4X,oB,a1a,g,i,cT];rfl
 erw[e]
 have O:=a1l N;rcases a6E (n:=body) (most:=1048576) (by omega) (by omega) (k:=k7) O with⟨k8,-,q8,s⟩|⟨-,T,a,s⟩;rotate_left;simp only[a01]at s;simp only[s,oB,a1a,g,i,cT];rfl

 have E:k8=0:=by
  have:=l
  simp only[lN,List.length_singleton]at this;omega
 subst E;rw[a32]at s;simp only[a01]at s;have hz:∀P:List Int,(ord P []).2.2.1=0:=fun _=>rfl;have o:∀P:List Int,P.length<1000000→wrap .i64 (((ord P []).1.length:Int)-(ord P []).2.1)=0:=fun P hP=>by
  show wrap .i64 (((P++[]).length:Int)-(P.length:Int))=0;rw[a19,Int.sub_self];rfl
 have y:decide ((0:Int)<1)=true:=rfl;simp only[s,oB,a1a,hz,z0,cF,a4m];rw[o _ (by
  have:=a1l O
  simp only[a01,lN]at this⊢;omega)]
 simp only[y,cT];rfl
theorem c4J{f:a1k}(b:frP f){L:List Int}(l:L.length≤5600000){k:Nat}(q:k<(a1e f L).length):a2D ((a1e f L).take k)=some (b3I,0,3):=by
 have n:=b4n b l;have m:(a1e f L).length=(a1S f L).length+2:=by simp[a1e]
 have a:a1S f L=a0X f (a1v L).length++a1v L:=rfl;have i:(a1S f L).length=(a0X f (a1v L).length).length+(a1v L).length:=by rw[a,lN]
 have p:((3:Int) != 0)=true:=rfl;have z0:((0:Int) != 0)=false:=rfl;have g:a1e f L=a0X f (a1v L).length++(a1v L++[a1L (a1S f L) / 256,a1L (a1S f L)%256]):=by simp[a1e,a1S]
 by_cases h:k<(a0X f (a1v L).length).length
 have e:(a1e f L).take k=(a0X f (a1v L).length).take k:=by rw[g,a07 (by omega)]
 unfold a2D;rw[e,c1s b (by omega) h];simp only[oB,c3P,p,cT];rfl;have e:(a1e f L).take k=a0X f (a1v L).length++(a1v L++[a1L (a1S f L) / 256,a1L (a1S f L)%256]).take (k-(a0X f (a1v L).length).length):=by
  rw[g,a09,a05 (by omega)]
 have d:((a1e f L).take k).length=k:=by rw[a06];omega
 have c:=b4m b (body:=(a1v L).length) (by omega) (R:=(a1v L++[a1L (a1S f L) / 256,a1L (a1S f L)%256]).take (k-(a0X f (a1v L).length).length)) (by rw[←e,d];omega);rw[←e]at c;have o:wrap .i64 (((a0X f (a1v L).length).length:Int)+((a1v L).length:Int))=((a1S f L).length:Int):=by rw[a0D (by omega)];omega
 have w2:wrap .i64 (((a1S f L).length:Int)+2)=(((a1S f L).length+2:Nat):Int):=by rw[a0D (by omega)];omega
 have j:decide ((((a1e f L).take k).length:Int)<(((a1S f L).length+2:Nat):Int))=true:=by rw[d];simp only[dT];omega
 unfold a2D;rw[c];simp only[oB,z0,cF,o,w2,j,cT];rfl
theorem c0S(x:a1B×(Int×Int)):a9m x=some true:=by
 obtain⟨b,effort,cut⟩:=x;unfold a9m;simp only[c5R,oB,bT,cF];obtain⟨G,i,l⟩:=c3M b 60;rw[show((60:Nat):Int)=60 from rfl]at i;simp only[i,oB];cases G with
 |false=>rfl
 |true=>
  obtain⟨l,m⟩:=l rfl;obtain⟨t2,q,hb⟩:=c1q (b:=b) (fun r z=>by have:=m r z;omega);simp only[bT,cF,q,oB];cases t2 with
  |false=>rfl
  |true=>
   have hb:=hb rfl;simp only[bT,cF,oB];have u:a1E b≤60:=by
    unfold a1E;rw[←b0I (d:=[]) (show 0<b.2.1.length by have:=hb.2.2.1;omega)];exact m _ (List.getElem_mem _)
   obtain⟨v,hv,A⟩:=c6I 16 (by omega) cut;obtain⟨w,j,e⟩:=c6I 2 (by omega) effort;rw[show((2^16-1:Nat):Int)=65535 from rfl]at hv;rw[show((2^2-1:Nat):Int)=3 from rfl]at j;have B:w<4:=e;obtain⟨g,C,H,I,K,M,D,E⟩:=made hb (by omega) (rate:=44100) (start:=7) (effort:=(w:Int)) (by omega) (by omega) (by omega) (by omega);have h:=E 7 (by omega);obtain⟨L,s,-,a,-,-⟩:=c2S (f:=((7:Int),g)) D h;have c:=(b5l h).1;have k:0<(a1e ((7:Int),g) L).length:=by simp[a1e]
   have z0:((0:Int) != 0)=false:=rfl;have F:((((a1e ((7:Int),g) L).length:Nat):Int)==0)=false:=by simp only[beq_eq_false_iff_ne,ne_eq];omega
   have p:Int.tmod (v:Int) (((a1e ((7:Int),g) L).length:Nat):Int)=((v%(a1e ((7:Int),g) L).length:Nat):Int):=rfl;have y:v%(a1e ((7:Int),g) L).length<(a1e ((7:Int),g) L).length:=Nat.mod_lt _ k;have n:decide ((0:Int)≤((v%(a1e ((7:Int),g) L).length:Nat):Int))=true:=by simp only[dT];omega
   have o:decide (((v%(a1e ((7:Int),g) L).length:Nat):Int)≤(((a1e ((7:Int),g) L).length:Nat):Int))=true:=by simp only[dT];omega
   have t:=c4J c s y;simp only[j,C,oB,a,z0,cF,F,hv,p,n,o,Bool.and_self,cT,tN,List.drop_zero,t,beq_self_eq_true]
def crE(s:BitVec 16):BitVec 16:=bif s.msb then(s <<< 1) ^^^ 32773#16 else s <<< 1
theorem c1J(s t:BitVec 16):crE (s ^^^ t)=crE s ^^^ crE t:=by
 unfold crE;rw[BitVec.msb_xor,BitVec.shiftLeft_xor_distrib];cases s.msb<;>cases t.msb<;>simp only[cT,cF,Bool.xor_true,Bool.xor_false,bT,Bool.not_false];rw[a00];rw[a00,a00,a20 (t <<< 1)];rw[a00,a20 32773#16,a00,BitVec.xor_self,a31]
theorem c4K{s:BitVec 16}(h:crE s=0):s=0:=by
 unfold crE at h;cases hm:s.msb with
 |true=>
  rw[hm,cT]at h
  have:=congrArg (fun x=>a33 x 0) h
  simp at this
 |false=>
  rw[hm,cF]at h;refine a17 fun i g=>?_
  by_cases h15:i=15
  subst h15;rw[a08]at hm;simpa using hm
  have:=congrArg (fun x=>a33 x (i+1)) h
  simp at this;simpa using this (by omega)
theorem c8g:crE 0=0:=by decide
theorem b6B{s:BitVec 16}:∀{n:Nat},rep crE n s=0→s=0
 |0,h=>h
 |n+1,h=>c4K (b6B (n:=n) h)
theorem c5r:∀n:Nat,rep crE n 0=0
 |0=>rfl
 |n+1=>by
  show rep crE n (crE 0)=0;rw[c8g,c5r n]
def crB(b:Bool):BitVec 16:=bif b then 32768#16 else 0#16
def crS(s:BitVec 16)(b:Bool):BitVec 16:=crE (s ^^^ crB b)
def crT:List Bool→BitVec 16
 | []=>0#16
 |b::w=>crB b ^^^ (crT w >>> 1)
theorem c5V(b:Bool)(j:Nat):(crB b).getLsbD j=(b&&decide (j=15)):=by
 cases b with
 |false=>simp[crB]
 |true=>
  simp only[crB,cT,Bool.true_and];rw[show(32768#16)=BitVec.ofNat 16 (2^15)from rfl,BitVec.getLsbD_ofNat,Nat.testBit_two_pow]
  by_cases h:j=15
  subst h;rfl;rw[decide_eq_false (by omega:¬ (15=j)),decide_eq_false h,Bool.and_false]
theorem b5v:∀(w:List Bool)(j:Nat),(crT w).getLsbD j=(decide (j<16)&&w.getD (15-j) false)
 | [],j=>by simp[crT]
 |b::w,j=>by
  rw[crT,BitVec.getLsbD_xor,c5V,a02,b5v w]
  by_cases h:j=15
  subst h;simp
  by_cases h2:j<16
  rw[show 15-j=(15-(1+j))+1 from by omega,a24];simp[h,h2,show 1+j<16 from by omega];simp[h,h2,show ¬ (1+j<16)from by omega]
theorem c4L{w:List Bool}(h:w.length≤15):crE (crT w >>> 1)=crT w:=by
 have k:(crT w >>> 1).msb=false:=by
  rw[a08,a02,b5v];simp
 unfold crE;rw[k,cF];refine a17 fun i f=>?_
 rw[BitVec.getLsbD_shiftLeft,a02];cases i with
 |zero=>
  have g:(crT w).getLsbD 0=false:=by
   rw[b5v,lD,List.getElem?_eq_none (by omega)];rfl
  rw[g];simp
 |succ i=>rw[show 1+(i+1-1)=i+1 from by omega];simp[f]
theorem c6J:∀(w:List Bool)(s:BitVec 16),w.length≤16→w.foldl crS s=rep crE w.length (s ^^^ crT w)
 | [],s,_=>by simp[crT,rep]
 |b::w,s,h=>by
  rw[lC]at h;rw[a21,c6J w _ (by omega),crT,←a00];show _=rep crE w.length (crE (s ^^^ crB b ^^^ (crT w >>> 1)));rw[c1J,c4L (by omega)];rfl
theorem c0T{α:Type}(f g:α→Bool):∀(L:List α)(s t:BitVec 16),(L.map fun j=>xor (f j) (g j)).foldl crS (s ^^^ t)=(L.map f).foldl crS s ^^^ (L.map g).foldl crS t
 | [],_,_=>rfl
 |a::L,s,t=>by
  simp only[List.map_cons,a21];rw[←c0T f g L];congr 1;unfold crS;rw[←c1J];congr 1
  have:crB (xor (f a) (g a))=crB (f a) ^^^ crB (g a):=by cases f a<;>cases g a<;>rfl
  rw[this];simp only[a00];rw[←a00 t,a20 t,a00]
theorem b4p:∀(n:Nat)(s:BitVec 16),(a04 n false).foldl crS s=rep crE n s
 |0,_=>rfl
 |n+1,s=>by
  rw[List.replicate_succ,a21,b4p n];show rep crE n (crE (s ^^^ 0#16))=rep crE n (crE s);rw[a31]
theorem c8h{w:List Bool}(h:w.length≤16)(a:true∈w)(k m:Nat):(a04 k false++(w++a04 m false)).foldl crS 0≠0:=by
 rw[a28,a28,b4p,b4p,c5r,c6J w _ h];intro e;have e:=b6B (b6B e);have e:crT w=0:=by simpa using e
 obtain⟨i,f,g⟩:=List.mem_iff_getElem.1 a
 have:=b5v w (15-i)
 rw[e,show 15-(15-i)=i from by omega,lD,lG f,g]at this;simp at this;omega
def byb(c:Int):List Bool:=[7,6,5,4,3,2,1,0].map fun i=>c.toNat.testBit i
def b5w(p:List Int):List Bool:=p.flatMap byb
def c6K(c:Int):Prop:=0≤c∧c<256
def a8u(p:List Int)(j:Nat):Bool:=(p.getD (j / 8) 0).toNat.testBit (7-j%8)
theorem b6C:∀p:List Int,b5w p=(a16 (8*p.length)).map (a8u p)
 | []=>rfl
 |c::p=>by
  have e:b5w (c::p)=byb c++b5w p:=rfl;rw[e,b6C p,lC,show 8*(p.length+1)=8+8*p.length from by omega,a23,pA,a18];congr 1;refine a25 fun j _=>?_
  show a8u p j=a8u (c::p) (8+j);unfold a8u;rw[show(8+j) / 8=j / 8+1 from by omega,a24,show(8+j)%8=j%8 from by omega]
structure Turn (b k i:Nat) (p0 p:List Int) (sm:Bool):Prop where
 len:p.length=p0.length
 ok:∀c∈p,c6K c
 bit:∀j,a8u p j=xor (a8u p0 j) (decide (k≤j∧j<k+i)&&b.testBit (j-k))
 smk:sm=true↔∃t,t<i∧b.testBit t=true
 pre:p.take (k / 8)=p0.take (k / 8)
 same:sm=false→p=p0
theorem turned{b k:Nat}{p0 q:List Int}{s:Bool}(w:k<8*p0.length)(i:(b5w p0).foldl crS 0=0)(g:Turn b k (min 16 (8*p0.length-k)) p0 q s)(u:s=true):(b5w q).foldl crS 0≠0:=by
 obtain⟨n,r⟩:∃n,min 16 (8*p0.length-k)=n:=⟨_,rfl⟩;rw[r]at g;have e:b5w q=(a16 (8*p0.length)).map fun j=>xor (a8u p0 j) (decide (k≤j∧j<k+n)&&b.testBit (j-k)):=by
  rw[b6C,g.len];exact a25 fun j _=>g.bit j
 have h:=c0T (a8u p0) (fun j=>decide (k≤j∧j<k+n)&&b.testBit (j-k)) (a16 (8*p0.length)) 0 0;have a:∀x:BitVec 16,(0:BitVec 16) ^^^ x=x:=fun _=>BitVec.zero_xor;rw[a,←e,←b6C,i,a]at h;rw[h];obtain⟨m,p⟩:∃m,8*p0.length=k+(n+m):=⟨8*p0.length-k-n,by omega⟩;rw[p,a23,a23,pA,pA,pA,a18,a18,a18];have c:(a16 k).map (fun j=>decide (k≤j∧j<k+n)&&b.testBit (j-k))=a04 k false:=by
  rw[a22];refine⟨by simp,fun x f=>?_⟩;obtain⟨j,o,rfl⟩:=a27.1 f
  grind
 have d:(a16 m).map (((fun j=>decide (k≤j∧j<k+n)&&b.testBit (j-k))∘(k+·))∘(n+·))=a04 m false:=by
  rw[a22];refine⟨by simp,fun x f=>?_⟩;obtain⟨j,o,rfl⟩:=a27.1 f
  grind
 rw[c,d];refine c8h (by simp;omega) ?_ k m;obtain⟨t,l,v⟩:=g.smk.1 u;refine a27.2 ⟨t,List.mem_range.2 l,?_⟩;simp_all
end Go.Ab
namespace Go.Proofs.YtimgpmdfgkgobaaGreatDoor
open Go.Ab Go.ChangeShapes Go.WideShapes Go.ChangeAt Go.RowKit
theorem b5n{α:Type}{f:Nat→Option (α×b0a×List Nat)}:∀(L:List α)(i:Nat),(∀(j:Nat) x,L[j]?=some x→f (i+j)=some (x,[],[]))→a0c f L.length i=some (L,[],[])
 | [],_,_=>rfl
 |a::L,i,h=>by
  have g:=h 0 a rfl;have k:=b5n L (i+1) (fun j x b=>by have:=h (j+1) x (by simpa using b);rw[←this];congr 1;omega);simp only[lC,a0c];simp only[Nat.add_zero]at g;rw[g,k];rfl
section
variable {H:Type} {enc:TypeId×Value→H} {P:Program} {w:World} {base:Nat} {spare:Nat→Bool} {held:Bool}
theorem b9f{k:IntKind}{n:Nat}{t e:TypeId}{fuel:Nat}{cs:List Value}{L:List Int}{p:List MemPlace}(B:P.underlying t=some (.array n e))(u:P.underlying e=some (.int k))(s:P.cellsOf e=1)
  (h:DataW.trod enc P w base spare held fuel t cs=some (.agg (L.map fun i=>.lit (.int k i)),p)):L.length=n∧∀(j:Nat) x,L[j]?=some x→cs[j]?=some (.int k x):=by
 obtain⟨C,m,rfl,b,-,A,a⟩:=DataW.trod_array B h;simp only[pJ,DataW.agg.injEq]at b;have z:L.length=n:=by rw[←A];simpa using congrArg List.length b.1
 refine⟨z,fun j x c=>?_⟩;obtain⟨v,-⟩:=lS.1 c;have g:=a j (by omega);rw[s]at g;obtain⟨y,d⟩:∃y,C[j]?=some y:=⟨_,lG (by omega)⟩;rw[d]at g;obtain⟨i,o,q,-⟩:=DataW.trod_int u g;have f:=congrArg (fun l=>l[j]?) b.1;simp only[List.getElem?_map,c,d,Option.map_some,q]at f;simp only[sj,DataW.lit.injEq,Lit.int.injEq,true_and]at f;subst f;have r:=congrArg (fun l=>l[0]?) o;simpa[List.getElem?_drop,List.getElem?_take]using r
end
def c1K : String := (Rows.frameTellsRow.laid.map Prod.fst).headD ""
theorem d1H:Tryz.prog.globalNamed c1K=some 0:=by kernel_rfl
def c4M:TypeId:=((Tryz.prog.globals[0]?).map (·.type)).getD 0
theorem c5W:(Tryz.prog.globals[0]?).map (·.type)=some c4M:=by kernel_rfl
def c4N:TypeId:=match Tryz.prog.underlying c4M with
 |some (.array _ e)=>e
 |_=>0
theorem d1I:Tryz.prog.underlying c4M=some (.array 64 c4N):=by kernel_rfl
theorem c8i:Tryz.prog.underlying c4N=some (.int .u8):=by kernel_rfl
theorem c8j:Tryz.prog.cellsOf c4N=1:=by kernel_rfl
@[reducible] def laidTab:List (String×DataW Unit):=[(c1K,Rows.laid_math_bits_deBruijn64tab)]

theorem c6L {g:Nat} {t:Ty} {x:t.den} (h:G0 g=some ⟨t,x⟩):g=0∧(⟨t,x⟩:(t:Ty)×t.den)=⟨.arr 64 (.int .u8),a9w⟩:=by
 unfold G0 find at h
 cases g with
 |zero=>exact⟨rfl,(Option.some.inj h).symm⟩
 |succ n=>exact absurd h (by simp[find])
theorem c0U{W:World}(h:laidMetH Tryz.prog laidTab W):∀g t x,G0 g=some ⟨t,x⟩→g<W.heap.size∧dec (a0a W none) t ((Src.at g 0).rd (a0a W none))=some (x,[],[]):=by
 rw[MakeChecks.laidMetH_plain _ _ _ (by kernel_rfl)]at h;obtain⟨ps,⟨r,w,m,q,u,v,b,c,d,a,_⟩,_,_⟩:=h;obtain rfl:=Option.some.inj (d1H.symm.trans b);obtain rfl:=Option.some.inj (c5W.symm.trans c);have n:(Rows.laid_math_bits_deBruijn64tab:DataW Unit)=.agg (a9w.map fun i=>.lit (.int .u8 i)):=rfl;rw[n]at a;obtain⟨s,p⟩:=b9f d1I c8i c8j a;have k:∀(j:Nat) x,a9w[j]?=some x→W.cell? ⟨0,j,none⟩=some (.int .u8 x):=fun j x l=>by
  rw[World.var?_cell b d j];simpa using p j x l
 intro g t x o;obtain⟨rfl,e⟩:=c6L o;cases e;refine⟨y0k (k 0 0 rfl),?_⟩;exact b5n (f:=fun i=>dec (a0a W none) (.int .u8) fun j=>(Src.at 0 0).rd (a0a W none) (i*1+j)) a9w 0 (fun j x l=>by
  have:=k j x l
  simp only[dec,Src.rd,a0a,Nat.zero_add,Nat.mul_one,Nat.add_zero,this,if_true])
set_option maxRecDepth 100000 in
theorem c4O (os:Os) (args:Array Value):laidMetH Tryz.prog laidTab ((World.doorLaid Tryz.prog 400 os).forCall (fun _ _=>0) ⟨#[],args,[]⟩).memory:=
 laidMetH_of_parts3 (fuel:=8) (laidMet_of_run' 8 (by kernel_rfl) (by kernel_rfl)) (by kernel_rfl) (by kernel_rfl)
end Go.Proofs.YtimgpmdfgkgobaaGreatDoor
