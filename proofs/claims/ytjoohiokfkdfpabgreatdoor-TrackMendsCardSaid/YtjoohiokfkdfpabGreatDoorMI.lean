/- Part of the proof: QKH. Conditions: as each statement tells. -/
import Derived.KernelRfl
import Derived.Test.YtjoohiokfkdfpabGreatDoorRows
import Derived.ProofKit
import Derived.LaidMore
import Derived.LaidLaws
import Derived.LaidHandle
import Derived.LaidByTextLater
import Derived.OpenShut
import Derived.Handed
import Derived.Test.YtjoohiokfkdfpabGreatDoorMH
noncomputable section
set_option linter.unusedSimpArgs false
set_option linter.unusedVariables false
open Bool renaming and_self→a01,not_false→a04,eq_iff_iff→a31
open Int renaming natCast_nonneg→a02,eq_ofNat_of_zero_le→a06,cast_ofNat_Int→a20
open List renaming take_length→a00,append_eq→a03,nil_append→a05,length_nil→a08,length_singleton→a09,length_drop→a16,drop_eq_getElem_cons→a18,append_nil→a19,flatMap_cons→a22,take_succ_cons→a23,drop→a24,take→a25,length_take→a26,mem_of_mem_drop→a29,getElem_mem→a30,range_succ→a32,drop_take→a33,take_zero→a34
open Nat renaming testBit_lt_two_pow→a27,mul_le_mul→a28
open Option renaming bind_eq_some_iff→a07
namespace Go.Ab
theorem d2b(b1 b2:Bool){α:Type}(E:α):(bif !b1 then E else bif b2 then E else E)=E:=by cases b1<;>cases b2<;>rfl
theorem d0P{b1 b2:Bool}(h:¬ (b1=true∧b2=false)){α:Type}(E F:α):(bif !b1 then E else bif b2 then E else F)=E:=by
 cases b1<;>cases b2<;>first|rfl|exact absurd ⟨rfl,rfl⟩ h
theorem b8o{l:List Int}(h:l.all a0C=true):a0H l<32:=by have:=a7w h;omega
theorem c4Q{L P R:List Int}(K:OkL L)(e:P++R=L){n:Int}(n1:1≤n)(n2:n≤4096):
  (∃(s:Sub)(a:List Nat)(R':List Int),SmallS s∧(a1R s n).isSome=true∧(s.1≠0∧s.1≠1→PartsOk s.2.2.2.2.2.2.2.2.2.1 n ((s.2.2.2.2.2.2.2.2.1.length:Nat):Int) s.2.2.2.2.2.2.2.2.2.2.1 a)∧R=a5n s a++R'∧
   a9m (rdr P R,n)=some (s,(0:Int),rdr (P++a5n s a) R')∧a2g (rdr P R,n)=some (s,(0:Int),rdr (P++a5n s a) R'))∨
  ∃(s s':Sub)(q q':Int)(r' r'':Rd),q≠0∧q'≠0∧a9m (rdr P R,n)=some (s,q,r')∧a2g (rdr P R,n)=some (s',q',r''):=by
 obtain⟨s,s',w,v,r1,f,h7,V,hp,hq,h5⟩:=c8f K (r:=rdr P R) (.inr ⟨P,R,e,rfl⟩) n1 n2;have hw:=f.width;have hv:=f.cw;have d1:decide (n<1)=false:=by simp;omega
 have d2:decide (n > 4096)=false:=by simp;omega
 have z0:((rdr P R).2.2.1 != (0:Int))=false:=rfl;have zz:(rdr P R).2.1=(P.length:Int):=rfl;rw[hq];unfold a9m a0F c5e;simp only[d1,d2,cF,z0,hp,oB]
 by_cases e1:r1.2.2.1=0
 rotate_left;simp only[a2h e1,cT];exact .inr ⟨_,_,_,_,_,_,e1,e1,rfl,rfl⟩;have h0:(r1.2.2.1 != (0:Int))=false:=by simpa using e1
 have h6:=h5 e1;subst h6;simp only[h0,cF,b7Z f.small,b6F,c3d f.small,b0Y,oB]
 by_cases hf:a7i s'.1 s' n
 rotate_left;simp only[hf,decide_false,a04,cT,if_false,show decide ((-1:Int)<0)=true from rfl];exact .inr ⟨_,_,_,_,_,_,by decide,by decide,rfl,rfl⟩;obtain⟨m0,m1⟩:=b1S f.small n1 n2 hf;obtain⟨m,hm⟩:=a06 m0;have g3:(m:Int)≤n:=by
  rw[←hm];unfold a0U;rcases hf with k|k|⟨k,t⟩|⟨k,t⟩|⟨k,t⟩|⟨k,t⟩<;>simp[k]<;>omega
 have m2:m≤4096:=by omega
 have dm:decide ((m:Int)<0)=false:=by simp
 simp only[hf,decide_true,bT,cF,if_true,b9N,oB,hm,dm];obtain⟨l,r2,q1,q2,q3,q4,q5⟩:=b4K K (n:=w) (by omega) m h7;have hW:=c8Z (N:=m) (by omega) n (((a0H s'.2.2.2.2.2.1:Nat):Int)==(v:Int)) (a7b 0) s' q1 [] (by simpa using q2);obtain⟨l',q7,q8⟩:=b4U (by omega) q1;rw[q2]at q7;have hb:a1e s' []=s':=by rw[f.bare];rfl
 simp only[a08,nZ,a20,a05,hb]at hW
 erw[hW]
 simp only[q7,oB]
 by_cases e2:r2.2.2.1=0
 rotate_left;simp only[a2h e2,cT];exact .inr ⟨_,_,_,_,_,_,e2,e2,rfl,rfl⟩;have h1:(r2.2.2.1 != (0:Int))=false:=by simpa using e2
 have h2:=q8 e2;subst h2;have h4:=c0E (n:=w) (by omega) q3;have X:=b8o h4;have c:short l':=by unfold short;omega
 have h9:a0H s'.2.2.2.2.2.1<33:=by have:=a6E s'.2.2.2.2.2.1;omega
 have g0:=b8f hf;simp only[h1,cF,b9O,a4A,oB]

 have M:a0H s'.2.2.2.2.2.1<32:=by
  by_cases h34:s'.1≠3∧s'.1≠4
  rw[←f.same h34];exact hv
  have:a6B s'.2.2.2.2.2.1 s'.2.2.2.1=true:=by
   rcases hf with k|k|⟨k,t⟩|⟨k,t⟩|⟨k,t⟩|⟨k,t⟩;omega;omega;omega;exact t.1;exact t.1;omega
  exact b8o (b9T this).2.2.2.2
 have I:=Stp.trans V q5
 by_cases hk:s'.1=0∨s'.1=1
 ·have dk:decide (s'.1≠0∧s'.1≠1)=false:=by rw[decide_eq_false_iff_not];omega
  have dg:decide (2≤s'.1∧s'.1≤5)=false:=by rw[decide_eq_false_iff_not];omega
  have y:decide ((a1e s' l').1≠0∧(a1e s' l').1≠1)=false:=dk;obtain⟨P0,R0,H,f2,f3⟩:=I e2;obtain⟨rfl,rfl⟩:=b9H (by rw[e,H]) f2;have C:SmallS (a1e s' l'):=⟨f.small.coefs,f.small.taps,f.small.stages,by show l'.length≤5000;omega,f.small.rest,f.small.ks⟩;have Y:(a1e s' l').1≠0∧(a1e s' l').1≠1→PartsOk (a1e s' l').2.2.2.2.2.2.2.2.2.1 n (((a1e s' l').2.2.2.2.2.2.2.2.1.length:Nat):Int) (a1e s' l').2.2.2.2.2.2.2.2.2.2.1 []:=fun h=>by
   have:s'.1≠0∧s'.1≠1:=h
   omega
  obtain⟨q,B,p1,Z,p3⟩:=c0F K H C n Y;have g:=d0O (s:=a1e s' l') (w:=w) (v:=v) hw hv X M f.same [];have j:=b8b C n;have F:a5n (a1e s' l') []=(b1C (a1e s' l')++a9j (a1e s' l'))++(sB (a0H (a1e s' l').2.2.2.2.2.2.2.2.1) (a1e s' l').2.2.2.2.2.2.2.2.1++[]):=by
   unfold a5n;rw[if_pos (show(a1e s' l').1=0∨(a1e s' l').1=1 from hk)]
  rw[←F,a19]at g;have g:a5n (a1e s' l') []=(pb s'.1 3++(pb s'.2.1 5++(pb (w:Int) 5++a6u v s')))++sB w l'↔(a0H l'=w∧a0H s'.2.2.2.2.2.1=v):=g;simp only[y,dg,cF];rw[show(a1e s' l').2.2.2.2.2.2.2.2.1=l' from rfl,a4B c];simp only[oB,j];have E:a3n ((([]:List Int),()),(s'.1,s'.2.1,s'.2.2.1,s'.2.2.2.1,s'.2.2.2.2.1,s'.2.2.2.2.2.1,s'.2.2.2.2.2.2.1,s'.2.2.2.2.2.2.2.1,l',s'.2.2.2.2.2.2.2.2.2),n)=some (q,B,()):=p1;simp only[E,oB];cases i:(a1R (a1e s' l') n).isSome with
  |false=>
   obtain rfl:=Z i;simp only[a04,cT,d2b,show((1:Int) != 0)=true from rfl,oB];exact .inr ⟨_,_,_,_,_,_,by decide,by decide,rfl,rfl⟩
  |true=>
   obtain⟨rfl,p4⟩:=p3 i;rw[f3,zz];simp only[bT,cF,show((0:Int) != 0)=false from rfl,p4,oB]
   by_cases hc:a0H l'=w∧a0H s'.2.2.2.2.2.1=v
   have b1:((((a0H s'.2.2.2.2.2.1:Nat):Int))==(v:Int))=true:=by rw[hc.2];simp
   have b2:((((a0H l':Nat):Int)) != (w:Int))=false:=by rw[hc.1];simp
   have d:=g.2 hc;simp only[b1,b2,bT,cF,decide_eq_true d];refine .inl ⟨a1e s' l',[],R0,C,i,Y,by rw[d],?_,?_⟩;rw[d];rw[d];rfl;have D:¬ (((((a0H s'.2.2.2.2.2.1:Nat):Int))==(v:Int))=true∧((((a0H l':Nat):Int)) != (w:Int))=false):=by
    rintro⟨z,A⟩
    simp at z A;exact hc ⟨by omega,by omega⟩
   have d:¬ a5n (a1e s' l') []=(pb s'.1 3++(pb s'.2.1 5++(pb (w:Int) 5++a6u v s')))++sB w l':=fun h=>hc (g.1 h);simp only[d0P D,decide_eq_false d,a04,cT];exact .inr ⟨_,_,_,_,_,_,by decide,by decide,rfl,rfl⟩
 ·have dk:decide (s'.1≠0∧s'.1≠1)=true:=by rw[dT];omega
  have dg:decide (2≤s'.1∧s'.1≤5)=true:=by rw[dT];omega
  have y:decide ((a1e s' l').1≠0∧(a1e s' l').1≠1)=true:=dk;have U:a6d n (m:Int)=true:=by
   simp only[a6d,bA,dT];omega
  simp only[y,dg,cT];rw[show(a1e s' l').2.2.2.2.2.2.2.2.1=l' from rfl,q2];rcases c6Y K q4 U with⟨p,u,a,r3,x,e3,h8,G,z,A⟩|⟨q,q',p,p',u,u',r3,r4,O,S,z,A⟩;rotate_left;have Q:(q != (0:Int))=true:=by simpa using O
  have T:(q' != (0:Int))=true:=by simpa using S
  simp only[z,A,oB,Q,T,cT];exact .inr ⟨_,_,_,_,_,_,O,S,rfl,rfl⟩;simp only[z,A,oB,show((0:Int) != 0)=false from rfl,cF];obtain⟨P0,R0,H,f2,f3⟩:=(Stp.trans I G) e3;obtain⟨rfl,rfl⟩:=b9H (by rw[e,H]) f2;have C:SmallS (a5C (a1e s' l') p u):=⟨f.small.coefs,f.small.taps,f.small.stages,by show l'.length≤5000;omega,x.short,by show p.2.1.length≤300;have:=x.ks;have:=x.len;omega⟩;have Y:(a5C (a1e s' l') p u).1≠0∧(a5C (a1e s' l') p u).1≠1→PartsOk (a5C (a1e s' l') p u).2.2.2.2.2.2.2.2.2.1 n (((a5C (a1e s' l') p u).2.2.2.2.2.2.2.2.1.length:Nat):Int) (a5C (a1e s' l') p u).2.2.2.2.2.2.2.2.2.2.1 a:=fun _=>by
   show PartsOk p n ((l'.length:Nat):Int) u a;rw[q2];exact x
  obtain⟨q,B,p1,Z,p3⟩:=c0F K H C n Y;have g:=d0O (s:=a5C (a1e s' l') p u) (w:=w) (v:=v) hw hv X M f.same (a4C p a u);have j:=b8b C n;have F:a5n (a5C (a1e s' l') p u) a=(b1C (a5C (a1e s' l') p u)++a9j (a5C (a1e s' l') p u))++(sB (a0H (a5C (a1e s' l') p u).2.2.2.2.2.2.2.2.1) (a5C (a1e s' l') p u).2.2.2.2.2.2.2.2.1++a4C p a u):=by
   unfold a5n;rw[if_neg (show ¬ ((a5C (a1e s' l') p u).1=0∨(a5C (a1e s' l') p u).1=1)from hk)];rfl
  rw[←F]at g;have g:a5n (a5C (a1e s' l') p u) a=(pb s'.1 3++(pb s'.2.1 5++(pb (w:Int) 5++a6u v s')))++sB w l'++a4C p a u↔(a0H l'=w∧a0H s'.2.2.2.2.2.1=v):=by
   rw[aA];exact g
  have o:a6w ((s'.1,s'.2.1,s'.2.2.1,s'.2.2.2.1,s'.2.2.2.2.1,s'.2.2.2.2.2.1,s'.2.2.2.2.2.2.1,s'.2.2.2.2.2.2.2.1,l',p,u,s'.2.2.2.2.2.2.2.2.2.2.2),n)=some (a1R (a5C (a1e s' l') p u) n).isSome:=j;have E:a3n ((([]:List Int),()),(s'.1,s'.2.1,s'.2.2.1,s'.2.2.2.1,s'.2.2.2.2.1,s'.2.2.2.2.2.1,s'.2.2.2.2.2.2.1,s'.2.2.2.2.2.2.2.1,l',p,u,s'.2.2.2.2.2.2.2.2.2.2.2),n)=some (q,B,()):=p1;obtain⟨bm,i⟩:∃b,(a1R (a5C (a1e s' l') p u) n).isSome=b:=⟨_,rfl⟩;rw[i]at o Z p3;simp only[a1e,a4B c,oB,o,E];cases bm with
  |false=>
   obtain rfl:=Z rfl;simp only[a04,cT,d2b,show((1:Int) != 0)=true from rfl,oB];exact .inr ⟨_,_,_,_,_,_,by decide,by decide,rfl,rfl⟩
  |true=>
   obtain⟨rfl,p4⟩:=p3 rfl;rw[f3,zz];simp only[bT,cF,show((0:Int) != 0)=false from rfl,p4,oB]
   by_cases hc:a0H l'=w∧a0H s'.2.2.2.2.2.1=v
   have b1:((((a0H s'.2.2.2.2.2.1:Nat):Int))==(v:Int))=true:=by rw[hc.2];simp
   have b2:((((a0H l':Nat):Int)) != (w:Int))=false:=by rw[hc.1];simp
   have d:=g.2 hc;simp only[b1,b2,bT,cF,decide_eq_true d];refine .inl ⟨a5C (a1e s' l') p u,a,R0,C,i,Y,by rw[d],?_,?_⟩;rw[d];rfl;rw[d];rfl;have D:¬ (((((a0H s'.2.2.2.2.2.1:Nat):Int))==(v:Int))=true∧((((a0H l':Nat):Int)) != (w:Int))=false):=by
    rintro⟨z,A⟩
    simp at z A;exact hc ⟨by omega,by omega⟩
   have d:¬ a5n (a5C (a1e s' l') p u) a=(pb s'.1 3++(pb s'.2.1 5++(pb (w:Int) 5++a6u v s')))++sB w l'++a4C p a u:=fun h=>hc (g.1 h);simp only[d0P D,decide_eq_false d,a04,cT];exact .inr ⟨_,_,_,_,_,_,by decide,by decide,rfl,rfl⟩
open IntKind(wrap)
def a1U(bs:List Int):List Int:=bs.flatMap fun b=>pb b 8
theorem a8v:∀(bs:List Int),(a1U bs).length=bs.length*8
 | []=>rfl
 |b::bs=>by
  have:=a8v bs
  unfold a1U at this⊢;rw[a22,lN,a1J,this,lC];omega
theorem b1Y:∀(bs:List Int),a4D bs→a2q (a1U bs)
 | [],_=>fun b hb=>by cases hb
 |b::bs,h=>by
  obtain⟨n,f⟩:=a06 (h b (by simp)).1;have k:=(h b (by simp)).2;unfold a1U;rw[a22,f];exact a2q.app (c6Q (by omega) 8 (by omega)) (b1Y bs fun c g=>h c (by simp[g]))
theorem c5f(v:Int):∀(n i:Nat),i<n→(pb v n).getD i 0=a2J v (n-1-i)
 |0,_,h=>by omega
 |n+1,0,_=>rfl
 |n+1,i+1,h=>by
  have:=c5f v n i (by omega)
  simp only[pb,List.getD_cons_succ,this];congr 1;omega
theorem b3l:∀(bs:List Int)(j k:Nat),j<bs.length→k<8→(a1U bs).getD (8*j+k) 0=a2J (bs.getD j 0) (7-k)
 | [],_,_,h,_=>by simp at h
 |b::bs,0,k,_,hk=>by
  unfold a1U;rw[a22,lD,List.getElem?_append_left (by rw[a1J];omega),←lD];rw[show 8*0+k=k from by omega,c5f b 8 k hk];rfl
 |b::bs,j+1,k,h,hk=>by
  have:=b3l bs j k (by simpa using h) hk
  unfold a1U at this⊢;rw[a22,lD,List.getElem?_append_right (by rw[a1J];omega),a1J,←lD];rw[show 8*(j+1)+k-8=8*j+k from by omega,this];rfl
theorem b5V{bs:List Int}(hb:a4D bs):(wL (a1U bs)).1=bs:=by
 obtain⟨k,n⟩:=c4Z (b1Y bs hb);obtain⟨-,o⟩:=a8M (a1U bs);rw[a8v]at o;have q:(wL (a1U bs)).1.length=bs.length:=by omega
 apply List.ext_getElem q;intro j m g;obtain⟨a,b⟩:=a06 (k j).1;have p:=(k j).2;have f:=hb bs[j] (a30 g);obtain⟨c,d⟩:=a06 f.1;have e:(wL (a1U bs)).1[j]=(wL (a1U bs)).1.getD j 0:=by simp[lD,m]
 have l:bs.getD j 0=bs[j]:=by simp[lD,g]
 rw[e,b,d]
 have:a=c:=by
  apply Nat.eq_of_testBit_eq;intro i
  by_cases hi:i<8
  have h:=n (8*j+(7-i));rw[b3l bs j (7-i) g (by omega),l,d,a6H (by omega) (by omega)]at h;unfold a8P at h;rw[show(8*j+(7-i)) / 8=j from by omega,show 7-(8*j+(7-i))%8=i from by omega,b,tN,show 7-(7-i)=i from by omega]at h;rw[h,Nat.testBit_eq_decide_div_mod_eq]
  have:c / 2^i%2<2:=Nat.mod_lt _ (by decide)
  by_cases hh:c / 2^i%2=1
  simp[hh]
  have:c / 2^i%2=0:=by omega
  simp[this];have hp:2^8≤2^i:=Nat.pow_le_pow_right (by decide) (by omega);rw[a27 (by omega),a27 (by omega)]
 omega
theorem c3x{bs:List Int}(hb:a4D bs)(h:bs.length<100000):OkL (a1U bs):=⟨b1Y bs hb,by rw[a8v];omega,by rw[a8v];omega⟩
theorem c6Z{L P R:List Int}(p:OkL L)(e:P++R=L):
  ∃r':Rd,a2P (rdr P R)=some r'∧a3E (rdr P R)=some r'∧(r'.2.2.1≠0∨(r'.2.2.1=0∧r'.1=(wL L).1∧r'.2.1=(((P.length+7) / 8*8:Nat):Int))):=by
 have H:=p.eight;have G:=p.len;obtain⟨l,z⟩:=p.okr e;obtain⟨c,R2,q,r⟩:=b1X R fun b hb=>l b (List.mem_append_right _ hb);have u:R.length=c+R2.length:=by rw[q];simp
 have C:P.length+R.length=L.length:=by rw[←e];simp
 have d:∀i,i<R.length→∀t,a0V (((wL (P++R)).1,t),((P.length+i:Nat):Int))=some (R.getD i 0,(wL (P++R)).1,t):=fun i g t=>by
  rw[←b4J P R i];exact b2p l (by omega) (by simp;omega) t
 obtain⟨k,D⟩:∃k,(P.length+7) / 8*8=P.length+k:=⟨(P.length+7) / 8*8-P.length,by omega⟩;have F:k≤R.length:=by omega
 have E:k<8:=by omega
 have j:wrap .i64 (wrap .i64 (Int.tdiv (wrap .i64 ((P.length:Int)+7)) 8)*8)=((P.length+k:Nat):Int):=by
  rw[a0D (n:=(P.length:Int)+7) (by omega),Int.tdiv_eq_ediv_of_nonneg (by omega),a0D (n:=((P.length:Int)+7) / 8) (by omega),a0D (by omega)];omega
 have z0:((rdr P R).2.2.1 != (0:Int))=false:=rfl;have tm:∀i,Int.tmod ((P.length+i:Nat):Int) 8=(((P.length+i)%8:Nat):Int):=fun i=>by rw[Int.tmod_eq_emod_of_nonneg (by omega)];omega
 have y:∀i,i<c→R.getD i 0=0:=fun i g=>by rw[q];exact b2V g _
 have o:∀i,i<100→wrap .i64 (((P.length+i:Nat):Int)+1)=((P.length+(i+1):Nat):Int):=fun i g=>by rw[a0D (by omega)];omega

 have A:∀i,i<k→i<c→a1y (((P.length+k:Nat):Int),((P.length+i:Nat):Int),rdr P R,())=some (.inl (((P.length+k:Nat):Int),((P.length+(i+1):Nat):Int),rdr P R,())):=fun i g s=>by
  simp only[a1y,dlt (show P.length+i<P.length+k by omega),cT,rdr];rw[d i (by omega)];simp only[oB,y i s,o i (by omega)];rfl
 have B:∀i,i<k→i<c→a1G (((P.length+i:Nat):Int),rdr P R,())=some (.inl (((P.length+(i+1):Nat):Int),rdr P R,())):=fun i g s=>by
  have a:((((P.length+i)%8:Nat):Int) != 0)=true:=by simp;omega
  simp only[a1G,tm,a,cT,b0B,rdr];rw[d i (by omega)];simp only[oB,y i s,o i (by omega)];rfl
 by_cases hkc:k≤c
 have v:=a1o (f:=a1y) (fun i=>(((P.length+k:Nat):Int),((P.length+i:Nat):Int),rdr P R,())) k (b:=.inl (((P.length+k:Nat):Int),rdr P R,())) (fun i g=>A i g (by omega))
  (by simp only[a1y,dge,cF])
 have w:=a1o (f:=a1G) (fun i=>(((P.length+i:Nat):Int),rdr P R,())) k (b:=.inl (((P.length+k:Nat):Int),rdr P R,())) (fun i g=>B i g (by omega))
  (by
   have a:((((P.length+k)%8:Nat):Int) != 0)=false:=by simp;omega
   simp only[a1G,tm,a,cF])
 refine⟨((wL L).1,((P.length+k:Nat):Int),(0:Int),()),?_,?_,.inr ⟨rfl,rfl,by rw[D]⟩⟩;unfold a2P;simp only[z0,cF];rw[show(rdr P R).2.1=(P.length:Int)from rfl,j]
 erw[v]
 simp only[oB,rdr,e];unfold a3E;simp only[z0,cF]
 erw[w]
 simp only[oB,rdr,e];have m:∃x,R2=1::x:=by
  rcases r with rfl|h;simp at u;omega;exact h
 obtain⟨x,rfl⟩:=m;have b1:R.getD c 0=1:=by rw[q];exact c0A _ _
 have v:=a1o (f:=a1y) (fun i=>(((P.length+k:Nat):Int),((P.length+i:Nat):Int),rdr P R,())) c (b:=.inr (((wL (P++R)).1,(P.length:Int),(2:Int),()),())) (fun i g=>A i (by omega) g)
  (by
   simp only[a1y,dlt (show P.length+c<P.length+k by omega),cT,rdr];rw[d c (by omega)];simp only[oB,b1];rfl)
 have w:=a1o (f:=a1G) (fun i=>(((P.length+i:Nat):Int),rdr P R,())) c (b:=.inr (((wL (P++R)).1,(P.length:Int),(2:Int),()),())) (fun i g=>B i (by omega) g)
  (by
   have a:((((P.length+c)%8:Nat):Int) != 0)=true:=by simp;omega
   simp only[a1G,tm,a,cT,b0B,rdr];rw[d c (by omega)];simp only[oB,b1];rfl)
 refine⟨((wL (P++R)).1,(P.length:Int),(2:Int),()),?_,?_,.inl (show(2:Int)≠0 by decide)⟩;unfold a2P;simp only[z0,cF];rw[show(rdr P R).2.1=(P.length:Int)from rfl,j]
 erw[v]
 rfl;unfold a3E;simp only[z0,cF]
 erw[w]
 rfl
def b1Z(f:a1F)(l:List a1r):a1F:=(f.1,f.2.1,f.2.2.1,l,f.2.2.2.2)
theorem c9a(u:Int):∃g,a4F u=some g:=by
 unfold a4F;cases (Int.tmod u 2==0)<;>exact⟨_,rfl⟩
theorem b8p{x:List Int}(hb:a4D x)(o:x.length<1000000000)(f z:a1F){N:Nat}(F:N≤16):∀(m:Nat)(d:List a1r)(p:Nat)(e:Int),d.length+m=N→p+2≤x.length→
  ∃(l:List a1r)(p':Nat)(n:Int),l.length=m∧p'+2≤x.length∧
   y0s a4n (x,(N:Int),(d.length:Int),b1Z f d,oP x 2 p e,())=some (x,b1Z f (d++l),oP x 2 p' n,())∧
   y0s a7A (x,(N:Int),(d.length:Int),z,oR x 2 p e,b1Z f d,())=some (x,z,oR x 2 p' n,b1Z f (d++l),())
 |0,d,p,e,hm,hp=>by
  have:d.length=N:=by omega
  refine⟨[],p,e,rfl,hp,?_,?_⟩;rw[a19];exact a0E (by simp only[a4n,this,dge,cF]);rw[a19];exact a0E (by simp only[a7A,this,dge,cF])
 |m+1,d,p,e,hm,hp=>by
  obtain⟨a,P,D,M,r,a1,y⟩:=a4H hb o hp e 7;obtain⟨b,Q,E,G,s,b1,b2⟩:=a4H hb o r D 7;obtain⟨c,w,q,O,t,A,B⟩:=a4H hb o s E 2048;rw[show((7:Nat):Int)=7 from rfl]at a1 y b1 b2;rw[show((2048:Nat):Int)=2048 from rfl]at A B;obtain⟨g,C⟩:=c9a (c:Int);have h:=c5d (u:=c) (by omega);rw[C]at h;have i:=dlt (show d.length<N by omega);have k:=a1h (show d.length+1<2147483648 by omega);have v:wrap .i64 ((d.length:Int)+1)=(((d++[(wrap .i64 (a:Int),wrap .i64 (b:Int),g,())]).length:Nat):Int):=by rw[a0D (by omega)];simp
  have j:wrap .u64 ((d.length:Int)+1)=(((d++[(wrap .i64 (a:Int),wrap .i64 (b:Int),g,())]).length:Nat):Int):=by rw[a0P (by omega)];simp
  obtain⟨l,p',n,H,I,K,L⟩:=b8p hb o f z F m (d++[(wrap .i64 (a:Int),wrap .i64 (b:Int),g,())]) w q (by simp;omega) t;refine⟨(wrap .i64 (a:Int),wrap .i64 (b:Int),g,())::l,p',n,by simp[H],I,?_,?_⟩;rw[a0G (s':=(x,(N:Int),(((d++[(wrap .i64 (a:Int),wrap .i64 (b:Int),g,())]).length:Nat):Int),b1Z f (d++[(wrap .i64 (a:Int),wrap .i64 (b:Int),g,())]),oP x 2 w q,())) (by
   simp only[a4n,i,cT,a1,b1,A,C,oB,b1Z,k,j,a03])]
  rw[K]
  simp
  rw[a0G (s':=(x,(N:Int),(((d++[(wrap .i64 (a:Int),wrap .i64 (b:Int),g,())]).length:Nat):Int),z,oR x 2 w q,b1Z f (d++[(wrap .i64 (a:Int),wrap .i64 (b:Int),g,())]),())) (by
   simp only[a7A,i,cT,y,b2,B,h,oB,b1Z,k,v,a03])]
  rw[L]
  simp
theorem d1q{x:List Int}{i:Nat}(h:i<x.length):a24 i (a25 (i+1) x)=[x.getD i 0]:=by
 rw[a33,show i+1-i=1 from by omega,a18 h,a23,a34,lD,lG h];rfl
theorem d1r{x:List Int}{i:Nat}(h:i+1<x.length):a24 i (a25 (i+2) x)=[x.getD i 0,x.getD (i+1) 0]:=by
 rw[a33,show i+2-i=1+1 from by omega,a18 (show i<x.length by omega),a23,a18 h,a23,a34,lD,lG (show i<x.length by omega),lD,lG h];rfl
theorem b1h{x:List Int}{i:Nat}(h:i<x.length):m0k x (i:Int)=some (x.getD i 0):=by
 rw[a0A h];simp[lD,h]
theorem c7a{x:List Int}(hb:a4D x)(hl:x.length<1000000):
  ∃(f:a1F)(hd body:Nat)(e:Int),a6i x=some (f,(hd:Int),(body:Int),e)∧a9V x=some (f,(body:Int),(hd:Int),e)∧
   (e=0→frP f∧f.2.2.2.2.1=[]∧hd≤x.length∧body≤1048576∧3≤hd)∧(e≠0→f=a1Y∧hd=0∧body=0):=by
 unfold a6i a9V
 by_cases h2:x.length<2
 have d:decide (((x.length:Nat):Int)<2)=true:=by simp;omega
 simp only[d,cT];exact⟨a1Y,0,0,3,rfl,rfl,fun h=>(by cases h),fun _=>⟨rfl,rfl,rfl⟩⟩;have d:decide (((x.length:Nat):Int)<2)=false:=by simp;omega
 have g0:m0k x (0:Int)=some (x.getD 0 0):=b1h (i:=0) (by omega);have g1:m0k x (1:Int)=some (x.getD 1 0):=b1h (i:=1) (by omega);have R:decide ((2:Int)≤((x.length:Nat):Int))=true:=by simp;omega
 simp only[d,cF,g0,g1,oB];cases hm0:(x.getD 0 0 != (245:Int))with
 |true=>
  simp only[cT,oB];exact⟨a1Y,0,0,2,rfl,rfl,fun h=>(by cases h),fun _=>⟨rfl,rfl,rfl⟩⟩
 |false=>
 simp only[cF,oB];cases hm1:(x.getD 1 0 != (75:Int))with
 |true=>
  simp only[cT];exact⟨a1Y,0,0,2,rfl,rfl,fun h=>(by cases h),fun _=>⟨rfl,rfl,rfl⟩⟩
 |false=>
 simp only[cF,R,cT];have n:a7q (a24 2 (a25 x.length x))=some (oP x 2 0 0):=by
  unfold a7q oP;rw[a00,a1h (by rw[a16];omega)];rfl
 have b:a1j ((x,(0:Int),(0:Int),()),(2:Int))=some (x.take 2,oR x 2 0 0):=by
  have D:wrap .i64 (((x.length:Nat):Int)-0)=(x.length:Int):=by rw[a0D (by omega)];omega
  have y:v0r (2:Int) (0:Int)=2:=rfl;have l:decide ((2:Int) > (x.length:Int))=false:=by simp;omega
  have w2:wrap .i64 ((0:Int)+2)=2:=rfl;have w:decide ((0:Int)≤2)=true:=rfl;have B:decide ((0:Int)≤((Int.toNat 2:Nat):Int))=true:=rfl;have C:decide ((0:Int)≤0)=true:=rfl;unfold a1j a3Y oR;simp only[bne_self_eq_false,cF,oB,D,y,l,w2,w,R,B,C,a01,cT];rw[a1h (by simp;omega)];rfl
 unfold a8G;simp only[n,b,oB];obtain⟨n1,p1,D,l1,q1,a1,V⟩:=a4H hb (by omega) (k:=2) (p:=0) (by omega) 0 4194304;obtain⟨n2,p2,e2,l2,q2,I,r2⟩:=a4H hb (by omega) q1 D 4096;obtain⟨s,p3,e3,l3,q3,K,X⟩:=a4H hb (by omega) q2 e2 1048576;obtain⟨t,p4,e4,l4,q4,L,Y⟩:=a4H hb (by omega) q3 e3 8;obtain⟨u,p5,e5,l5,q5,M,Z⟩:=a4H hb (by omega) q4 e4 24;obtain⟨z,p6,e6,l6,q6,O,r6⟩:=a4H hb (by omega) q5 e5 16;rw[show((4194304:Nat):Int)=4194304 from rfl]at a1 V;rw[show((4096:Nat):Int)=4096 from rfl]at I r2;rw[show((1048576:Nat):Int)=1048576 from rfl]at K X;rw[show((8:Nat):Int)=8 from rfl]at L Y;rw[show((24:Nat):Int)=24 from rfl]at M Z;rw[show((16:Nat):Int)=16 from rfl]at O r6;have w1:wrap .i64 (n1:Int)=(n1:Int):=a0D (by omega);have w2:wrap .i64 (n2:Int)=(n2:Int):=a0D (by omega);have w3:wrap .i64 (s:Int)=(s:Int):=a0D (by omega);have w4:wrap .i64 (t:Int)=(t:Int):=a0D (by omega);have w5:wrap .i64 (u:Int)=(u:Int):=a0D (by omega);have w6:wrap .i64 (z:Int)=(z:Int):=a0D (by omega);simp only[a1,I,K,L,M,O,V,r2,X,Y,Z,r6,w1,w2,w3,w4,w5,w6,oB];obtain⟨U,p7,e7,k1,q7,P,r7⟩:=b8p hb (by omega) ((n1:Int),(n2:Int),((s:Int),(t:Int),(u:Int),()),[],[],()) a1Y (N:=z) l6 z [] p6 e6 (by simp) q6;simp only[a08,nZ,a20,a05]at P r7
 erw[P,r7]
 simp only[oB];obtain⟨G,g,e8,l8,q8,Q,r8⟩:=a4H hb (by omega) q7 e7 1048576;rw[show((1048576:Nat):Int)=1048576 from rfl]at Q r8;have w8:wrap .i64 (G:Int)=(G:Int):=a0D (by omega);simp only[Q,r8,w8,oB,a4m,a2O,a4L]
 by_cases he:e8=0
 rotate_left;have a:(e8 != (0:Int))=true:=by simpa using he
 have r:a1j (oR x 2 g e8,(1:Int))=some ([],oR x 2 g e8):=by
  unfold a1j oR;simp only[a,cT]
 simp only[r,oB];simp only[oP,oR,a,cT];exact⟨a1Y,0,0,e8,rfl,rfl,fun h=>absurd h he,fun _=>⟨rfl,rfl,rfl⟩⟩;subst he;have E:(x.drop 2).length=x.length-2:=a16;have S:wrap .i64 ((((x.drop 2).length:Nat):Int)-(g:Int))=((x.length-2-g:Nat):Int):=by rw[E,a0D (by omega)];omega
 have T:wrap .i64 (((x.length:Nat):Int)-((g+2:Nat):Int))=((x.length-2-g:Nat):Int):=by rw[a0D (by omega)];omega
 have y:v0r (1:Int) (0:Int)=1:=rfl
 by_cases hlast:x.length-2-g<1
 have l:decide (((x.length-2-g:Nat):Int)<1)=true:=by simp;omega
 have A:decide ((1:Int) > ((x.length-2-g:Nat):Int))=true:=by simp;omega
 have r:a1j (oR x 2 g 0,(1:Int))=some ([],oR x 2 g 3):=by
  unfold a1j a3Y oR;simp only[bne_self_eq_false,cF,oB,T,y,A,cT]
 simp only[r,oB];simp only[oP,oR,bne_self_eq_false,cF,S,l,cT,show((3:Int) != 0)=true from rfl];exact⟨a1Y,0,0,3,rfl,rfl,fun h=>(by cases h),fun _=>⟨rfl,rfl,rfl⟩⟩;have l:decide (((x.length-2-g:Nat):Int)<1)=false:=by simp;omega
 have A:decide ((1:Int) > ((x.length-2-g:Nat):Int))=false:=by simp;omega
 have o:g+2<x.length:=by omega
 have v:wrap .i64 (((g+2:Nat):Int)+1)=((g+2+1:Nat):Int):=by rw[a0D (by omega)];omega
 have H:wrap .i64 ((2:Int)+(g:Int))=((g+2:Nat):Int):=by rw[a0D (by omega)];omega
 have w:decide ((0:Int)≤((g+2:Nat):Int))=true:=decide_eq_true (a02 _);have B:decide (((g+2:Nat):Int)≤((x.length:Nat):Int))=true:=by rw[dT];omega
 have C:decide ((0:Int)≤((g+2+1:Nat):Int))=true:=decide_eq_true (a02 _);have c6:decide (((g+2+1:Nat):Int)≤((x.length:Nat):Int))=true:=by rw[dT];omega
 have c7:decide (((g+2:Nat):Int)≤((g+2+1:Nat):Int))=true:=by rw[dT];omega
 have m:a24 (g+2) (a25 (g+2+1) x)=[x.getD (g+2) 0]:=d1q o;have r:a1j (oR x 2 g 0,(1:Int))=some ([x.getD (g+2) 0],oR x 2 (g+1) 0):=by
  unfold a1j a3Y oR;simp only[bne_self_eq_false,cF,oB,T,y,A,v,C,c6,w,c7,a01,cT,tN,m,a1h (show 0+[x.getD (g+2) 0].length<2147483648 by simp),a03,a05]
  try rw[show g+2+1=g+1+2 from by omega]
 have g8:=b1h o;have q:short (x.take (g+2)):=by unfold short;rw[a26];omega
 have c8:decide ((0:Int)<(([x.getD (g+2) 0].length:Nat):Int))=true:=rfl;have F:List.getD [x.getD (g+2) 0] 0 (0:Int)=x.getD (g+2) 0:=rfl;simp only[r,oB];simp only[oP,oR,bne_self_eq_false,cF,S,l,H,w,B,a01,cT,tN,c8M q,c3v q,g8,c8,F]
 by_cases hsum:b6J (x.take (g+2))=x.getD (g+2) 0
 rotate_left;have c:(b6J (x.take (g+2)) != x.getD (g+2) 0)=true:=by simpa using hsum
 have j:(x.getD (g+2) 0 != b6J (x.take (g+2)))=true:=by simpa using fun h=>hsum h.symm
 simp only[oB,c,j,cT];exact⟨a1Y,0,0,5,rfl,rfl,fun h=>(by cases h),fun _=>⟨rfl,rfl,rfl⟩⟩;have c:(b6J (x.take (g+2)) != x.getD (g+2) 0)=false:=by simpa using hsum
 have j:(x.getD (g+2) 0 != b6J (x.take (g+2)))=false:=by simpa using hsum.symm
 simp only[oB,c,j,cF,b2r,b2u,oB]
 by_cases hf:frP (b1Z ((n1:Int),(n2:Int),((s:Int),(t:Int),(u:Int),()),[],[],()) U)
 rw[decide_eq_true hf];refine⟨b1Z ((n1:Int),(n2:Int),((s:Int),(t:Int),(u:Int),()),[],[],()) U,g+3,G,0,?_,?_,fun _=>⟨hf,rfl,by omega,l8,by omega⟩,fun h=>absurd rfl h⟩;simp only[bT,cF,v];have wq:wrap .i64 (((g+2:Nat):Int)+1)=((g+3:Nat):Int):=by rw[a0D (by omega)];omega
 simp only[bT,cF,wq];rw[decide_eq_false hf];exact⟨a1Y,0,0,2,rfl,rfl,fun h=>(by cases h),fun _=>⟨rfl,rfl,rfl⟩⟩
theorem c0G{L:List Int}(B:OkL L)(h:Int)(z f:a1F)(x:1≤f.2.1)(A:f.2.1≤4096){ch:Nat}(g:f.2.2.1.2.1=(ch:Int))(E:ch≤8):∀(m:Nat)(d:List Sub)(P R:List Int),d.length+m=ch→P++R=L→
  (∃(i:List Sub)(j c:List Int),(∀s∈i,SmallS s)∧i.length=m∧j++c=L∧
   y0s a2s (h,(ch:Int),(d.length:Int),z,a3c f d,rdr P R,())=some (.inl (h,z,a3c f (d++i),rdr j c,()))∧
   y0s a1P (h,(d.length:Int),z,a3c f d,rdr P R,())=some (.inl (h,z,a3c f (d++i),rdr j c,())))∨
  (y0s a2s (h,(ch:Int),(d.length:Int),z,a3c f d,rdr P R,())=some (.inr (0,2,a1Y,()))∧
   y0s a1P (h,(d.length:Int),z,a3c f d,rdr P R,())=some (.inr (0,2,a1Y,())))
 |0,d,P,R,hm,e=>by
  have C:(ch:Int)=(d.length:Int):=by omega
  refine .inl ⟨[],P,R,(fun s I=>by cases I),rfl,e,?_,?_⟩;rw[a19];exact a0E (by simp only[a2s,C,dge,cF]);rw[a19];exact a0E (by simp only[a1P,a3c,g,C,dge,cF])
 |m+1,d,P,R,hm,e=>by
  have k:=dlt (show d.length<ch by omega);have l:=a1h (show d.length+1<2147483648 by omega);rcases c4Q B e x A with⟨s,o,c,G,-,-,F,p,q⟩|⟨s,s',a,b,Q,O,H,hb,p,q⟩;have n:wrap .i64 ((d.length:Int)+1)=(((d++[s]).length:Nat):Int):=by rw[a0D (by omega)];simp
  have D:(P++a5n s o)++c=L:=by rw[←e,F];simp
  rw[a0G (f:=a2s) (s':=(h,(ch:Int),(((d++[s]).length:Nat):Int),z,a3c f (d++[s]),rdr (P++a5n s o) c,())) (by
   simp only[a2s,k,cT,a3c,p,oB,bne_self_eq_false,cF,l,n,a03])]
  rw[a0G (f:=a1P) (s':=(h,(((d++[s]).length:Nat):Int),z,a3c f (d++[s]),rdr (P++a5n s o) c,())) (by
   simp only[a1P,a3c,g,k,cT,q,oB,bne_self_eq_false,cF,l,n,a03])]
  rcases c0G B h z f x A g E m (d++[s]) (P++a5n s o) c (by simp;omega) D with⟨i,j,R2,K,M,N,v,w⟩|⟨v,w⟩;refine .inl ⟨s::i,j,R2,fun y u=>?_,by simp[M],N,?_,?_⟩;rcases mC.1 u with rfl|u;exact G;exact K y u;rw[v];simp;rw[w];simp;exact .inr ⟨v,w⟩;have r:(a != (0:Int))=true:=by simpa using H
  have t:(b != (0:Int))=true:=by simpa using hb
  refine .inr ⟨a0E ?_,a0E ?_⟩;simp only[a2s,k,cT,a3c,p,oB,r];rfl;simp only[a1P,a3c,g,k,cT,q,oB,t];rfl
theorem c9b{s c d:Int}(k:0≤s∧s<65536)(g:0≤c∧c<256)(f:0≤d∧d<256):
  (s != bits .u16 .or (A0n .u16 (wrap .u16 c) 8) (wrap .u16 d))=!decide (s / 256=c∧s%256=d)∧b1p ([s / 256,s%256],[c,d])=some (decide (s / 256=c∧s%256=d)):=by
 have h:=d8T (v:=256*c+d) (by omega);rw[show(256*c+d) / 256=c from by omega,show(256*c+d)%256=d from by omega]at h;rw[h];constructor
 by_cases hh:s / 256=c∧s%256=d
 have:s=256*c+d:=by omega
 rw[decide_eq_true hh,this];simp
 have:s≠256*c+d:=by omega
 rw[decide_eq_false hh];simpa using this;unfold b1p b2s;simp only[List.map_cons,List.map_nil];congr 1;rw[a31,beq_iff_eq,dT];simp only[List.cons.injEq,and_true];omega
theorem c8g{x:List Int}(hb:a4D x)(hl:x.length<100000):
  ∃(f:a1F)(n e:Int),a3h x=some (f,n,e)∧a2x x=some (f,n,e)∧(∀s∈f.2.2.2.2.1,SmallS s)∧f.2.2.2.1.length≤16∧f.2.2.2.2.1.length≤8∧
   (e=0→(a3F f).isSome=true∧frP f∧5≤n∧n≤(x.length:Int))∧(e≠0→f=a1Y∧n=0):=by
 have j:∀s∈a1Y.2.2.2.2.1,SmallS s:=fun s F=>by cases F
 obtain⟨f,g,body,e,h1,h2,h3,h4⟩:=c7a hb (by omega);unfold a3h a2x;simp only[h1,h2,oB]
 by_cases he:e=0
 rotate_left;have P:(e != (0:Int))=true:=by simpa using he
 simp only[P,cT];exact⟨a1Y,0,e,rfl,rfl,j,by decide,by decide,fun h=>absurd h he,fun _=>⟨rfl,rfl⟩⟩;subst he;obtain⟨Z,G,h9,O,h7⟩:=h3 rfl;have w1:wrap .i64 ((g:Int)+(body:Int))=((g+body:Nat):Int):=by rw[a0D (by omega)];omega
 have w2:wrap .i64 (((g+body:Nat):Int)+2)=((g+body+2:Nat):Int):=by rw[a0D (by omega)];omega
 have w3:wrap .i64 (((g+body:Nat):Int)+1)=((g+body+1:Nat):Int):=by rw[a0D (by omega)];omega
 simp only[bne_self_eq_false,cF,w1,w2,w3]
 by_cases hsh:x.length<g+body+2
 have d:decide (((x.length:Nat):Int)<((g+body+2:Nat):Int))=true:=by rw[dT];omega
 simp only[d,cT];exact⟨a1Y,0,3,rfl,rfl,j,by decide,by decide,fun h=>(by cases h),fun _=>⟨rfl,rfl⟩⟩;have d:decide (((x.length:Nat):Int)<((g+body+2:Nat):Int))=false:=by rw[decide_eq_false_iff_not];omega
 have c1:decide ((0:Int)≤((g+body:Nat):Int))=true:=decide_eq_true (a02 _);have c2:decide (((g+body:Nat):Int)≤((x.length:Nat):Int))=true:=by rw[dT];omega
 have c3:decide ((0:Int)≤(g:Int))=true:=decide_eq_true (a02 _);have c4:decide ((g:Int)≤((g+body:Nat):Int))=true:=by rw[dT];omega
 have c5:decide ((0:Int)≤((g+body+2:Nat):Int))=true:=decide_eq_true (a02 _);have c6:decide (((g+body+2:Nat):Int)≤((x.length:Nat):Int))=true:=by rw[dT];omega
 have c7:decide (((g+body:Nat):Int)≤((g+body+2:Nat):Int))=true:=by rw[dT];omega
 have g1:=b1h (x:=x) (i:=g+body) (by omega);have g2:=b1h (x:=x) (i:=g+body+1) (by omega);have c:short (x.take (g+body)):=by unfold short;rw[a26];omega
 have hr:=c4I (x.take (g+body));have wu:wrap .u64 (b0A (x.take (g+body)))=b0A (x.take (g+body)):=a0P (by omega);have A:a24 (g+body) (a25 (g+body+2) x)=[x.getD (g+body) 0,x.getD (g+body+1) 0]:=d1r (by omega);have z:∀i,i<x.length→0≤x.getD i 0∧x.getD i 0<256:=fun i hi=>by
  have:x.getD i 0=x[i]:=by simp[lD,hi]
  rw[this];exact hb _ (a30 hi)
 obtain⟨t1,t2⟩:=c9b hr (z (g+body) (by omega)) (z (g+body+1) (by omega));simp only[d,cF,c1,c2,a01,cT,tN,c6R c,b9G c,oB,g1,g2,wu,c8U hr,c3,c4,c5,c6,c7,A,t1,t2]
 by_cases hsum:b0A (x.take (g+body)) / 256=x.getD (g+body) 0∧b0A (x.take (g+body))%256=x.getD (g+body+1) 0
 rotate_left;rw[decide_eq_false hsum];simp only[a04,cT];exact⟨a1Y,0,5,rfl,rfl,j,by decide,by decide,fun h=>(by cases h),fun _=>⟨rfl,rfl⟩⟩;rw[decide_eq_true hsum];simp only[bT,cF]

 obtain⟨B,N⟩:∃B,a24 g (a25 (g+body) x)=B:=⟨_,rfl⟩;have m:a4D B:=fun b h=>by rw[←N]at h;exact hb b (List.mem_of_mem_take (a29 h))
 have h0:B.length=body:=by rw[←N,a16,a26];omega
 have y:=c3x m (by omega);have E:a9Q B=some (rdr [] (a1U B)):=by
  unfold a9Q rdr;rw[a1h (by omega),cT,a05,b5V m];rfl
 have q:a6Y B=some (rdr [] (a1U B)):=by
  unfold a6Y rdr;rw[a05,b5V m];rfl
 rw[N];simp only[E,q,oB];obtain⟨q1,q2,q3,q4,q5,q6⟩:=id Z;obtain⟨f1,f2,f3,f4,f5,f6⟩:=q1;obtain⟨L,o⟩:∃L:Nat,f.2.2.1.2.1=(L:Int):=⟨f.2.2.1.2.1.toNat,by omega⟩;have R:a3c f []=f:=by unfold a3c;rw[←G]
 have r:=c0G y ((g+body:Nat):Int) a1Y f q2 q3 o (by omega) L [] [] (a1U B) (by simp) rfl;rw[R]at r;simp only[a08,nZ,a20,a05]at r;have C:=q6.2.2.1;rcases r with⟨t,w,a,S,k2,H,T,U⟩|⟨T,U⟩;rotate_left;rw[o]
 erw[T,U]
 exact⟨a1Y,0,2,rfl,rfl,j,by decide,by decide,fun h=>(by cases h),fun _=>⟨rfl,rfl⟩⟩;rw[o]
 erw[T,U]
 have Q:=y.left H;have h8:=y.eight;have h5:=y.len;have h6:w.length+a.length=(a1U B).length:=by rw[←H];simp
 obtain⟨v,a1,a2,k⟩:=c6Z y H;have D:a5X (a3c f t)=some (a3F (a3c f t)).isSome:=d1W (fun s F=>S s F);have p:a5h (a3c f t)=some (a3F (a3c f t)).isSome:=c6U (fun s F=>S s F);have wl:wrap .i64 (wrap .i64 ((8:Int)*(((rdr w a).1.length:Nat):Int))-(rdr w a).2.1)=(a.length:Int):=by
  show wrap .i64 (wrap .i64 ((8:Int)*(((wL (w++a)).1.length:Nat):Int))-(w.length:Int))=_;rw[a0D (n:=(8:Int)*_) (by omega),a0D (by omega)];omega
 simp only[oB,a2m,a1k,a0F,wl,a1,a2];have V:∀{b:Bool}{X Y:Option (a1F×Int×Int)},b=true→X=Y→(bif b then X else Y)=Y:=fun _ h=>by rw[h];simp
 by_cases hR8:a.length<8
 ·have M:decide ((a.length:Int)≥8)=false:=by simp;omega
  simp only[M,cF];rcases k with k|⟨k,I,K⟩;simp only[a2h k,cT];exact⟨a1Y,0,2,rfl,rfl,j,by decide,by decide,fun h=>(by cases h),fun _=>⟨rfl,rfl⟩⟩
  ·have l:(v.2.2.1 != (0:Int))=false:=by simpa using k
   have u:wrap .i64 (wrap .i64 ((8:Int)*((v.1.length:Nat):Int))-v.2.1)=0:=by
    rw[I,K,←H,a0D (n:=(8:Int)*_) (by omega),a0D (by omega)];omega
   simp only[l,cF,u,show decide ((0:Int) > 0)=false from rfl,D,p,oB];cases hbo:(a3F (a3c f t)).isSome with
   |false=>
    simp only[a04,cT];exact⟨a1Y,0,2,rfl,rfl,j,by decide,by decide,fun h=>(by cases h),fun _=>⟨rfl,rfl⟩⟩
   |true=>
    simp only[bT,cF,w2];exact⟨a3c f t,_,0,rfl,rfl,S,C,by show t.length≤8;omega,fun _=>⟨hbo,Z,by omega,by omega⟩,fun h=>absurd rfl h⟩
 have M:decide ((a.length:Int)≥8)=true:=by simp;omega
 simp only[M,cT];rcases k with k|⟨k,I,K⟩;simp only[a2h k,cT];exact⟨a1Y,0,2,rfl,rfl,j,by decide,by decide,fun h=>(by cases h),fun _=>⟨rfl,rfl⟩⟩;have l:(v.2.2.1 != (0:Int))=false:=by simpa using k
 have u:decide (wrap .i64 (wrap .i64 ((8:Int)*((v.1.length:Nat):Int))-v.2.1) > 0)=true:=by
  rw[I,K,←H,a0D (n:=(8:Int)*_) (by omega),a0D (by omega),dT];omega
 simp only[l,cF,u,cT];exact⟨a1Y,0,2,rfl,rfl,j,by decide,by decide,fun h=>(by cases h),fun _=>⟨rfl,rfl⟩⟩
theorem c9c{n:Int}(h:Wf (.int .u8) n):0≤n∧n<256:=by
 have h:(decide (IntKind.min .u8≤n)&&decide (n≤IntKind.max .u8))=true:=h;simp only[bA,dT]at h;have g:IntKind.min .u8=0:=rfl;have f:IntKind.max .u8=255:=rfl;omega
theorem c7b{i:Nat}(h:i<1000000000):wrap .i64 ((i:Int)+1)=((i+1:Nat):Int):=by rw[a0D (by omega)];omega
def wv(n:Nat)(rows:List (List Int)):List Int:=(List.range n).flatMap fun i=>rows.map fun r=>r.getD i 0
def wvB(b:a1S):List Int:=wv (a2a b) b.2.1
theorem c3y{rows:List (List Int)}:∀n,(wv n rows).length=n*rows.length:=fun n=>by
 simp_all[wv,List.map_const']
def d8W(y0 d q r:Nat):Prop:=4294967296≤q∨4294967296*r+d<q*y0
instance (y0 d q r:Nat):Decidable (d8W y0 d q r):=inferInstanceAs (Decidable (_∨_))
theorem c3z(b:a1S)(N:Int){i:Nat}:∀(rest done:List (List Int)) (out:List Int),done++rest=b.2.1→b.2.1.length≤8→(∀r∈rest,i<r.length)→out.length+rest.length<1000000→
  y0s a5s ((i:Int),N,(i:Int),b.2.1,(b.2.1.length:Int),(done.length:Int),out,b,())=some (N,(i:Int),out++rest.map (fun r=>r.getD i 0),b,())
 | [],done,out,hd,_,_,_=>by
  simp_all[a0E,a5s]
 |r::rest,done,out,hd,h8,hr,ho=>by
  have g:done.length<b.2.1.length:=by grind
  have f:m0k b.2.1 (done.length:Int)=some r:=by grind[a0A]
  have k:=hr r (by simp);have h:m0k r (i:Int)=some (r.getD i 0):=by simp_all[a0A]
  simp at ho;rw[a0G (s':=((i:Int),N,(i:Int),b.2.1,(b.2.1.length:Int),(((done++[r]).length:Nat):Int),out++[r.getD i 0],b,())) (by
   simp only[a5s,dlt g,cT,f,h,oB,a1h (show out.length+1<2147483648 by omega),a0B (show done.length<1000000 by omega)]
   simp)]
  rw[c3z b N rest (done++[r]) _ (by simp_all) h8 (fun q a=>hr q (by grind)) (by grind)]
  simp
theorem c9d{b:a1S}(hb:a2Y b):a3v b=some (wvB b):=by
 obtain⟨g1,g2,g3,g4,g5,g6,g7⟩:=id hb;have hlen:∀r∈b.2.1,r.length=a2a b:=fun r hr=>by
  simp_all
 have hw:∀i,i≤4096→(wv i b.2.1).length≤32768:=fun i hi=>by
  rw[c3y]
  calc i*b.2.1.length≤4096*8:=a28 hi g4
   _=32768:=rfl
 have h:=a1o (f:=a5t) (fun i=>(((a2a b:Nat):Int),(i:Int),wv i b.2.1,b,())) (a2a b) (b:=(wv (a2a b) b.2.1,())) (fun i hi=>by
  have h0:=c3z b ((a2a b:Nat):Int) (i:=i) b.2.1 [] (wv i b.2.1) rfl g4 (fun r hr=>by simp_all) (by grind);rw[a08]at h0;simp only[a5t,dlt hi,cT]
  grind[a0B,wv,a32]) (by simp_all[a5t])
 unfold a3v;simp[b4F,hb,a6J]
 erw[h]
 rfl
theorem d1s{b:a1S}:(wvB b).length=a2a b*b.2.1.length:=c3y _
theorem c3A{α β:Type}{g:α→Option β}:∀{l:List α}{r:List β},a7k g l=some r→∀b∈r,∃a∈l,g a=some b
 | [],r,h,b,hb=>by cases h;cases hb
 |a::l,r,h,b,hb=>by
  simp only[a7k,a07]at h;obtain⟨c,k,m,d,e⟩:=h;cases e;rcases mC.1 hb with rfl|hb;exact⟨a,by simp,k⟩;obtain⟨f,i,j⟩:=c3A d b hb;exact⟨f,by simp[i],j⟩
theorem c7c:∀(k:Int)(l:List Int){r},upO k l=some r→r.length=l.length:=fun k l r h=>by
 unfold upO at h;cases hc:l.all (fun x=>a0C x&&a0C (A0n .i64 x k))with
 |false=>rw[hc]at h;cases h
 |true=>rw[hc]at h;cases h;simp
theorem c4R{s:Sub}(u:SmallS s){n:Int}{r:List Int}(h:a1R s n=some r):((r.length:Nat):Int)=n:=by
 unfold a1R at h
 split at h
 rename_i hp;obtain⟨v,w,x,y,z,A,B,a,C,q,t,b⟩:=hp;unfold b9A at h
 split at h
 cases h;simp;omega;rename_i c;obtain⟨l,g,p⟩:=a07.1 h;rw[c7c _ _ p];unfold backP at g;unfold a0U at a b
 split at g
 rename_i k;cases g;simp only[k]at a;simpa using a;rename_i d;obtain⟨f,-⟩:=b ⟨c,d⟩
 split at g
 rename_i k;rw[b5P g];simp[k]at a f;omega;rename_i e
 split at g
 rename_i k;rw[a6a g];simp[k]at a f;omega;rename_i i
 split at g
 rename_i k;obtain⟨m,o,g⟩:=a07.1 g;rw[b4u g,a6a o];simp[k]at a f;omega;rename_i j;rw[b3d g];simp only[c,d,e,i,j,if_false,or_self]at f;omega;cases h
theorem c7d{f:a1F}(o:∀s∈f.2.2.2.2.1,SmallS s){b:a1S}(h:a3F f=some b):a2Y b∧b.1=f.2.2.1.2.2.1∧f.2.1=((a2a b:Nat):Int):=by
 obtain⟨t,p,-⟩:=c3p h;unfold a3F at h
 split at h
 ·obtain⟨k,u,h⟩:=a07.1 h
  split at h
  ·rename_i e;obtain⟨g,v,h⟩:=a07.1 h
   split at h
   ·rename_i hb;cases h;refine⟨hb,rfl,?_⟩;have n:=b9F e.1;have i:∀r∈k,((r.length:Nat):Int)=f.2.1:=fun r i=>by
     obtain⟨s,j,m⟩:=c3A u r i;exact c4R (o s j) m
    have q:k.headD []∈k:=by
     have:=e.1.1
     cases k with
     |nil=>simp at this
     |cons a l=>simp
    obtain⟨w,x⟩:=b9W f.2.2.2.1 n rfl e.2.2.2.2 v;have c:1≤g.length:=hb.2.2.1;have d:g.headD []∈g:=by
     cases g with
     |nil=>simp at c
     |cons a l=>simp
    have:=(w _ d).1
    show f.2.1=(((g.headD []).length:Nat):Int);rw[this];exact(i _ q).symm
   cases h
  cases h
 cases h
theorem b5W(b:a1S):a6V b=some ((a2a b:Nat):Int):=by
 unfold a6V a2a;cases hc:b.2.1 with
 |nil=>rfl
 |cons r c=>
  have d:((((r::c).length:Nat):Int)==0)=false:=by simp;omega
  simp only[d,cF,show m0k (r::c) (0:Int)=some r from rfl,oB,List.headD_cons]
theorem b4M(b:a1S){i:Nat}:∀(rest done:List (List Int)) (out:List Int),done++rest=b.2.1→b.2.1.length≤8→(∀r∈rest,i<r.length)→out.length+rest.length<1000000→
  y0s a6W ((i:Int),(done.length:Int),out,b,())=some ((i:Int),out++rest.map (fun r=>r.getD i 0),b,())
 | [],done,out,hd,_,_,_=>by
  have e:done=b.2.1:=by simpa using hd
  rw[a0E (b:=((i:Int),out,b,())) (by rw[e];simp only[a6W,dge,cF])]
  simp
 |r::rest,done,out,hd,h8,hr,ho=>by
  have g:done.length<b.2.1.length:=by rw[←hd];simp
  have k:m0k b.2.1 (done.length:Int)=some r:=by rw[a0A g];simp[←hd]
  have h:=hr r (by simp);have f:m0k r (i:Int)=some (r.getD i 0):=by rw[a0A h,lD,lG h];rfl
  simp only[lC]at ho;rw[a0G (s':=((i:Int),(((done++[r]).length:Nat):Int),out++[r.getD i 0],b,())) (by
   simp only[a6W,dlt g,cT,k,f,oB,a1h (show out.length+1<2147483648 by omega),a0B (show done.length<1000000 by omega)]
   simp)]
  rw[b4M b rest (done++[r]) _ (by simpa using hd) h8 (fun q a=>hr q (by simp[a])) (by simp only[lN,a09];omega)]
  simp
theorem c3B{b:a1S}(hb:a2Y b):a9b b=some (wvB b):=by
 obtain⟨g1,g2,g3,g4,g5,g6,g7⟩:=id hb;have hlen:∀r∈b.2.1,r.length=a2a b:=fun r hr=>by
  have:=lA.1 g7 r hr
  simp only[bA,dT]at this;exact this.1
 have hw:∀i,i≤4096→(wv i b.2.1).length≤32768:=fun i hi=>by
  rw[c3y]
  calc i*b.2.1.length≤4096*8:=a28 hi g4
   _=32768:=rfl
 have h:=a1o (f:=a6X) (fun i=>((i:Int),wv i b.2.1,b,())) (a2a b) (b:=(wv (a2a b) b.2.1,())) (fun i hi=>by
  have h0:=b4M b (i:=i) b.2.1 [] (wv i b.2.1) rfl g4 (fun r hr=>by rw[hlen r hr];exact hi) (by have:=hw i (by omega);omega);rw[a08]at h0;simp only[a6X,b5W,oB,dlt hi,cT]
  erw[h0]
  simp only[oB,a0B (show i<1000000 by omega)];unfold wv;rw[a32,List.flatMap_append]
  simp) (by simp only[a6X,b5W,oB,dge,cF])
 unfold a9b;simp only[b1E,hb,decide_true,oB,bT,cF]
 erw[h]
 rfl
theorem c3C(x y:a1r):eqT (.pair (.int .i64) (.pair (.int .i64) (.pair (.int .i64) .unit))) x y=decide (x=y):=by
 obtain⟨a,b,c,u⟩:=x;obtain⟨h,g,f,k⟩:=y;show((a==h)&&((b==g)&&((c==f)&&true)))=_;rw[a31]
 simp
set_option maxRecDepth 100000 in
theorem d1t:b1Q ()=some true:=by kernel_rfl
def c9e(x:List Int)(p:Nat)(f:a1F)(n:Int)(b:a1S):Prop:=
 a3h (x.drop p)=some (f,n,0)∧a2x (x.drop p)=some (f,n,0)∧5≤n∧n≤(x.length:Int)-(p:Int)∧frP f∧a2F f=some (b,0)∧a2W f=some (b,true)∧a2Y b
theorem d4J{x:List Int}(hb:a4D x)(t:x.length<100000)(p:Nat)(hp:p≤x.length):
  ∃(f:a1F)(n e:Int),a3h (x.drop p)=some (f,n,e)∧a2x (x.drop p)=some (f,n,e)∧(e=0→∃b,c9e x p f n b):=by
 have a:a4D (x.drop p):=fun b h=>hb b (a29 h);obtain⟨f,n,e,i,j,k,-,-,l,-⟩:=c8g a (by rw[a16];omega);refine⟨f,n,e,i,j,fun m=>?_⟩;subst m;obtain⟨o,q,r,s⟩:=l rfl;rw[a16]at s;obtain⟨b,g⟩:=Option.isSome_iff_exists.1 o;have c:=c3o k;have d:=b4I k;rw[g]at c d;exact⟨b,i,j,r,by omega,q,c,d,(c7d k g).1⟩
theorem c0H{x:List Int}(hb:a4D x)(m:x.length<100000):∀(k i:Nat),i+k=x.length→
  (y0s a2t (x,(i:Int),())=some (.inl ())∧y0s a1Q (x,(i:Int),())=some (.inl ()))∨
  ∃p f n b,i≤p∧p<x.length∧c9e x p f n b∧y0s a2t (x,(i:Int),())=some (.inr ((p:Int),()))∧y0s a1Q (x,(i:Int),())=some (.inr ((p:Int),()))
 |0,i,h=>by
  have e:i=x.length:=by omega
  refine .inl ⟨a0E ?_,a0E ?_⟩;simp only[a2t,e,dge,cF];simp only[a1Q,e,dge,cF]
 |k+1,i,h=>by
  have g:i<x.length:=by omega
  have c:decide ((0:Int)≤(i:Int))=true:=decide_eq_true (a02 _);have d:decide ((i:Int)≤(x.length:Int))=true:=by rw[dT];omega
  obtain⟨f,n,e,j,l,o⟩:=d4J hb m i (by omega)
  by_cases he:e=0
  subst he;obtain⟨b,q⟩:=o rfl;refine .inr ⟨i,f,n,b,Nat.le_refl _,g,q,a0E ?_,a0E ?_⟩;simp only[a2t,dlt g,c,d,a01,cT,tN,a00,j,oB,beq_self_eq_true];simp only[a1Q,dlt g,c,d,a01,cT,tN,a00,l,oB,beq_self_eq_true];have a:(e==(0:Int))=false:=by simpa using he
  rw[a0G (f:=a2t) (s':=(x,((i+1:Nat):Int),())) (by
   simp only[a2t,dlt g,c,d,a01,cT,tN,a00,j,oB,a,cF,a0B (show i<1000000 by omega)])]
  rw[a0G (f:=a1Q) (s':=(x,((i+1:Nat):Int),())) (by
   simp only[a1Q,dlt g,c,d,a01,cT,tN,a00,l,oB,a,cF,a0B (show i<1000000 by omega)])]
  rcases c0H hb m k (i+1) (by omega)with h|⟨p,f,n,b,v,r,s,t,u⟩;exact .inl h;exact .inr ⟨p,f,n,b,by omega,r,s,t,u⟩
def c7e(x:List Int)(i:Nat)(r:Int):Prop:=r=-1∨∃p f n b,r=((p:Nat):Int)∧i≤p∧p<x.length∧c9e x p f n b
theorem c0I{x:List Int}(hb:a4D x)(k:x.length<100000){i:Nat}(m:i≤x.length):∃r,a6z (x,(i:Int))=some r∧a4y (x,(i:Int))=some r∧c7e x i r:=by
 have a:v0r (i:Int) (0:Int)=(i:Int):=by rw[b9u];omega
 unfold a6z a4y;simp only[a];rcases c0H hb k (x.length-i) i (by omega)with⟨h,g⟩|⟨p,f,n,b,c,d,e,j,l⟩;rw[h,g];exact⟨-1,rfl,rfl,.inl rfl⟩;rw[j,l];exact⟨(p:Int),rfl,rfl,.inr ⟨p,f,n,b,rfl,c,d,e⟩⟩
@[reducible] def a9k:Type:=Int×(Int×Unit)
def d0Q(found:Bool)(en:Int)(S:List a9k)(fp fr:a1r):Prop:=
 (found=false∧en=0∧S=[])∨(found=true∧fp=fr∧0≤en∧en≤4194304∧∃S0 a,S=S0++[(a,en,())])
theorem c8h{α:Type}(a:List α)(x d:α):(a++[x]).getD a.length d=x:=by simp[lD]
theorem c0J{x:List Int}(hb:a4D x)(hl:x.length≤1000):∀(k i:Nat)(r:Int)(found:Bool)(en:Int)(S:List a9k)(l:List Int)(fp fr:a1r),i+k=x.length+1→c7e x i r→d0Q found en S fp fr→l.length≤32768*i→S.length≤i→
  ∃(q:List a9k)(l':List Int),y0s a1C (x,found,en,r,S,l,fp,())=some (q,l',())∧y0s a1g (x,r,S,l,fr,())=some (q,l',())∧l'.length≤100000000∧q.length≤100000
 |k,i,r,found,en,S,l,fp,fr,hk,hr,hI,hll,hS=>by
  rcases hr with rfl|⟨p,f,n,b,rfl,g9,k0,hF⟩;refine⟨S,l,a0E ?_,a0E ?_,by omega,by omega⟩;simp only[a1C,show decide ((-1:Int)≥0)=false from rfl,cF];simp only[a1g,show decide ((-1:Int)≥0)=false from rfl,cF]
  match k with
  |0=>omega
  |k+1=>
  obtain⟨O,P,h3,h4,h5,Z,h7,X⟩:=hF;have v:decide (((p:Nat):Int)≥0)=true:=decide_eq_true (a02 _);have e:decide ((0:Int)≤((p:Nat):Int))=true:=decide_eq_true (a02 _);have w:decide ((p:Int)≤(x.length:Int))=true:=by rw[dT];omega
  obtain⟨N,rfl⟩:=a06 (show 0≤n by omega);have z:wrap .i64 ((p:Int)+(N:Int))=((p+N:Nat):Int):=by rw[a0D (by omega)];omega
  obtain⟨Y,R,T,s3⟩:=c0I hb (by omega) (i:=p+N) (by omega);have z0:((0:Int) != 0)=false:=rfl;obtain⟨f1,f2,f3,f4,f5,f6⟩:=h5;have H:=c9d X;have G:=c3B X;have k1:(wvB b).length≤4096*8:=by rw[d1s];exact a28 X.2.2.2.2.2.1 X.2.2.2.1
  have u:lim (l.length+(wvB b).length)=true:=a1h (by omega);have D:lim (S.length+1)=true:=a1h (by omega);have o:wrap .i64 (f.1+f.2.1)=f.1+f.2.1:=a0D (by omega);have n0:((0:Int)==0)=true:=rfl;have M:∀(c:Bool)(A:Int)(q:List a9k)(l':List Int)(B C:a1r),
    a1C (x,found,en,(p:Int),S,l,fp,())=some (.inl (x,c,A,Y,q,l',B,()))→
    a1g (x,(p:Int),S,l,fr,())=some (.inl (x,Y,q,l',C,()))→d0Q c A q B C→l'.length≤32768*(p+1)→q.length≤p+1→
    ∃(q:List a9k)(l':List Int),y0s a1C (x,found,en,(p:Int),S,l,fp,())=some (q,l',())∧y0s a1g (x,(p:Int),S,l,fr,())=some (q,l',())∧l'.length≤100000000∧q.length≤100000:=
   fun c A q l' B C e1 e2 h0 g0 h9=>by
    rw[a0G e1,a0G e2];have g5:c7e x (p+1) Y:=by
     rcases s3 with h|⟨p',f',n',b',g1,g2,g3,g4⟩;exact .inl h;exact .inr ⟨p',f',n',b',g1,by omega,g3,g4⟩
    exact c0J hb hl (x.length-p) (p+1) Y c A q l' B C (by omega) g5 h0 g0 h9
  rcases hI with⟨rfl,rfl,rfl⟩|⟨rfl,rfl,e0,e4,g,a,rfl⟩
  
  have t:decide (f.1<(0:Int))=false:=decide_eq_false (by omega);have m:decide (f.1≥(-1:Int))=true:=decide_eq_true (by omega);have Q:(f.1==(-1:Int))=false:=by rw[beq_eq_false_iff_ne];omega
  have F:wrap .i64 ((((([]:List a9k).length:Nat):Int))-1)=-1:=rfl;have s:=c8Q f.2.2.1;have g6:lim (0+1)=true:=rfl;refine M true (f.1+f.2.1) [(f.1,f.1+f.2.1,())] (l++wvB b) f.2.2.1 f.2.2.1 ?_ ?_ (.inr ⟨rfl,rfl,by omega,by omega,[],f.1,rfl⟩) (by rw[lN];omega) (by simp);simp only[a1C,v,e,w,a01,cT,tN,a00,O,z0,cF,oB,z,R,a04,s,bT,t,Z,F,show decide ((-1:Int)≥0)=false from rfl,D,o,H,u,a03,a05];simp only[a1g,v,e,w,a01,cT,tN,a00,P,a08,nZ,n0,oB,show decide ((0:Int) > 0)=false from rfl,cF,s,m,Q,g6,D,o,h7,G,u,z,T,a03,a05]
  ·have j:(((g++[(a,en,())]).length:Nat):Int)=((g.length+1:Nat):Int):=by simp
   have F:wrap .i64 (((g.length+1:Nat):Int)-1)=(g.length:Int):=by
    simp only[lN,a09]at hS;rw[a0D (by omega)];omega
   have c1:decide ((g.length:Int)≥0)=true:=decide_eq_true (a02 _);have I:decide ((0:Int)≤(g.length:Int))=true:=decide_eq_true (a02 _);have K:decide ((g.length:Int)<((g.length+1:Nat):Int))=true:=by rw[dT];omega
   have U:decide (((g.length+1:Nat):Int) > 0)=true:=by rw[dT];omega
   have V:(((g.length+1:Nat):Int)==0)=false:=by rw[beq_eq_false_iff_ne];omega
   have L:∀d:a9k,List.getD (g++[(a,en,())]) g.length d=(a,en,()):=fun d=>c8h g _ d;have E:∀y:a9k,List.set (g++[(a,en,())]) g.length y=g++[y]:=fun y=>by
    rw[List.set_append_right _ _ (Nat.le_refl _),Nat.sub_self];rfl
   have s:=c3C f.2.2.1 fp
   by_cases hfm:f.2.2.1=fp
   rotate_left;rw[decide_eq_false hfm]at s;refine M true en (g++[(a,en,())]) l fp fp ?_ ?_ (.inr ⟨rfl,rfl,e0,e4,g,a,rfl⟩) (by omega) (by omega);simp only[a1C,v,e,w,a01,cT,tN,a00,O,z0,cF,oB,z,R,bT,a04,s];simp only[a1g,v,e,w,a01,cT,tN,a00,P,j,V,cF,oB,U,F,I,K,L,s,z,T];rw[decide_eq_true hfm]at s
   by_cases hlt:f.1<en
   have t:decide (f.1<en)=true:=decide_eq_true hlt;have m:decide (f.1≥en)=false:=decide_eq_false (by omega);refine M true en (g++[(a,en,())]) l fp fp ?_ ?_ (.inr ⟨rfl,rfl,e0,e4,g,a,rfl⟩) (by omega) (by omega);simp only[a1C,v,e,w,a01,cT,tN,a00,O,z0,cF,oB,z,R,bT,s,t];simp only[a1g,v,e,w,a01,cT,tN,a00,P,j,V,cF,oB,U,F,I,K,L,s,m,z,T];have t:decide (f.1<en)=false:=decide_eq_false hlt;have m:decide (f.1≥en)=true:=decide_eq_true (by omega)
   by_cases heq:en=f.1
   have q1:(en==f.1)=true:=by rw[beq_iff_eq];exact heq
   have q2:(f.1==en)=true:=by rw[beq_iff_eq];exact heq.symm
   have g7:wrap .i64 (en+f.2.1)=f.1+f.2.1:=by rw[heq];exact o
   refine M true (f.1+f.2.1) (g++[(a,f.1+f.2.1,())]) (l++wvB b) fp fp ?_ ?_ (.inr ⟨rfl,rfl,by omega,by omega,g,a,rfl⟩) (by rw[lN];omega) (by simp only[lN,a09]at hS⊢;omega);simp only[a1C,v,e,w,a01,cT,tN,a00,O,z0,cF,oB,z,R,bT,s,t,Z,j,F,c1,I,K,L,q1,E,g7,o,H,u,a03];simp only[a1g,v,e,w,a01,cT,tN,a00,P,j,V,cF,oB,U,F,I,K,L,s,m,q2,E,o,h7,G,u,z,T,a03];have q1:(en==f.1)=false:=by rw[beq_eq_false_iff_ne];exact heq
   have q2:(f.1==en)=false:=by rw[beq_eq_false_iff_ne];exact fun h=>heq h.symm
   refine M true (f.1+f.2.1) ((g++[(a,en,())])++[(f.1,f.1+f.2.1,())]) (l++wvB b) fp fp ?_ ?_ (.inr ⟨rfl,rfl,by omega,by omega,g++[(a,en,())],f.1,rfl⟩) (by rw[lN];omega) (by rw[lN,a09];omega);simp only[a1C,v,e,w,a01,cT,tN,a00,O,z0,cF,oB,z,R,bT,s,t,Z,j,F,c1,I,K,L,q1,D,o,H,u,a03];simp only[a1g,v,e,w,a01,cT,tN,a00,P,j,V,cF,oB,U,F,I,K,L,s,m,q2,D,o,h7,G,u,z,T,a03]
 termination_by k=>k
theorem c1L{x:List Int}(h:x.length<1000000000):a1A (x,x)=some true:=by
 have e:(((x.length:Nat):Int) != ((x.length:Nat):Int))=false:=by simp
 have:=a1o (f:=a1M) (fun i=>(x,x,(i:Int),())) x.length (b:=.inl ())
  (fun i g=>by simp only[a1M,dlt g,cT,a0A g,oB,bne_self_eq_false,cF,c7b (show i<1000000000 by omega)])
  (by simp only[a1M,dge,cF])
 unfold a1A;simp only[e,cF];simp only[nZ]at this;rw[this];rfl
theorem c7f{S:List a9k}(h:S.length<1000000):a6s (S,S)=some true:=by
 have e:(((S.length:Nat):Int) != ((S.length:Nat):Int))=false:=by simp
 have k:∀s:a9k,eqT (.pair (.int .i64) (.pair (.int .i64) .unit)) s s=true:=fun s=>by
  show((s.1==s.1)&&((s.2.1==s.2.1)&&true))=true
  simp
 have:=a1o (f:=a4z) (fun i=>(S,S,(i:Int),())) S.length (b:=.inl ())
  (fun i g=>by simp only[a4z,dlt g,cT,a0A g,oB,k,bT,cF,a0B (show i<1000000 by omega)])
  (by simp only[a4z,dge,cF])
 unfold a6s;simp only[e,cF];simp only[nZ]at this;rw[this];rfl
theorem b9I(x:List Int)(hb:∀b∈x,0≤b∧b<256):a7J x=some true:=by
 unfold a7J;simp only[d1t,oB,bT,cF]
 by_cases h5:x.length > 500
 have d:decide (((x.length:Nat):Int) > 500)=true:=by simp;omega
 simp only[d,cT];have d:decide (((x.length:Nat):Int) > 500)=false:=by simp;omega
 obtain⟨r,h,g,a⟩:=c0I hb (by omega) (i:=0) (by omega);simp only[nZ,a20]at h g;obtain⟨S,l,f,k,c,e⟩:=c0J hb (by omega) (x.length+1) 0 r false 0 [] [] (0,0,0,()) (0,0,0,()) (by omega) a (.inl ⟨rfl,rfl,rfl⟩) (by simp) (by simp);simp only[d,cF,b0O,a8o,h,g,oB]
 erw[f,k]
 simp only[oB,c7f (show S.length<1000000 by omega),cT,c1L (show l.length<1000000000 by omega)]
end Go.Ab
namespace Go.Proofs.YtjoohiokfkdfpabGreatDoor
open Go.Ab Go.ChangeShapes Go.WideShapes Go.ChangeAt Go.RowKit
theorem b4N{α:Type}{f:Nat→Option (α×a0z×List Nat)}:∀(L:List α)(i:Nat),(∀(j:Nat) x,L[j]?=some x→f (i+j)=some (x,[],[]))→a0d f L.length i=some (L,[],[])
 | [],_,_=>rfl
 |a::L,i,h=>by
  have g:=h 0 a rfl;have k:=b4N L (i+1) (fun j x b=>by have:=h (j+1) x (by simpa using b);rw[←this];congr 1;omega);simp only[lC,a0d];simp only[Nat.add_zero]at g;rw[g,k];rfl
section
variable {H:Type} {enc:TypeId×Value→H} {P:Program} {w:World} {base:Nat} {spare:Nat→Bool} {held:Bool}
theorem c1M{k:IntKind}{n:Nat}{t e:TypeId}{fuel:Nat}{cs:List Value}{L:List Int}{p:List MemPlace}(B:P.underlying t=some (.array n e))(u:P.underlying e=some (.int k))(s:P.cellsOf e=1)
  (h:DataW.trod enc P w base spare held fuel t cs=some (.agg (L.map fun i=>.lit (.int k i)),p)):L.length=n∧∀(j:Nat) x,L[j]?=some x→cs[j]?=some (.int k x):=by
 obtain⟨C,m,rfl,b,-,A,a⟩:=DataW.trod_array B h;simp only[pJ,DataW.agg.injEq]at b;have z:L.length=n:=by rw[←A];simpa using congrArg List.length b.1
 refine⟨z,fun j x c=>?_⟩;obtain⟨v,-⟩:=lS.1 c;have g:=a j (by omega);rw[s]at g;obtain⟨y,d⟩:∃y,C[j]?=some y:=⟨_,lG (by omega)⟩;rw[d]at g;obtain⟨i,o,q,-⟩:=DataW.trod_int u g;have f:=congrArg (fun l=>l[j]?) b.1;simp only[List.getElem?_map,c,d,Option.map_some,q]at f;simp only[sj,DataW.lit.injEq,Lit.int.injEq,true_and]at f;subst f;have r:=congrArg (fun l=>l[0]?) o;simpa[List.getElem?_drop,List.getElem?_take]using r
end
def c5g : String := (Rows.trackEncodesRow.laid.map Prod.fst).headD ""
theorem d8X:Tryz.prog.globalNamed c5g=some 2:=by kernel_rfl
def c9f:TypeId:=((Tryz.prog.globals[2]?).map (·.type)).getD 0
theorem d1u:(Tryz.prog.globals[2]?).map (·.type)=some c9f:=by kernel_rfl
def c9g:TypeId:=match Tryz.prog.underlying c9f with
 |some (.array _ e)=>e
 |_=>0
theorem d8Y:Tryz.prog.underlying c9f=some (.array 64 c9g):=by kernel_rfl
theorem d4K:Tryz.prog.underlying c9g=some (.int .u8):=by kernel_rfl
theorem d4L:Tryz.prog.cellsOf c9g=1:=by kernel_rfl
@[reducible] def laidTab:List (String×DataW Unit):=[(c5g,Rows.laid_math_bits_deBruijn64tab)]

theorem d2c {g:Nat} {t:Ty} {x:t.den} (h:G0 g=some ⟨t,x⟩):g=2∧(⟨t,x⟩:(t:Ty)×t.den)=⟨.arr 64 (.int .u8),b1i⟩:=by
 by_cases e:g=2
 ·subst e
  exact⟨rfl,(Option.some.inj h).symm⟩
 ·have e2:(2==g)=false:=by rw[beq_eq_false_iff_ne];exact fun h=>e h.symm
  unfold G0 find at h
  rw[e2]at h
  exact absurd h (by simp[find])
theorem c3D{W:World}(h:laidMetH Tryz.prog laidTab W):∀g t x,G0 g=some ⟨t,x⟩→g<W.heap.size∧dec (a0a W none) t ((Src.at g 0).rd (a0a W none))=some (x,[],[]):=by
 rw[MakeChecks.laidMetH_plain _ _ _ (by kernel_rfl)]at h;obtain⟨ps,⟨r,v,m,q,p0,u,b,c,d,a,_⟩,_,_⟩:=h;obtain rfl:=Option.some.inj (d8X.symm.trans b);obtain rfl:=Option.some.inj (d1u.symm.trans c);have n:(Rows.laid_math_bits_deBruijn64tab:DataW Unit)=.agg (b1i.map fun i=>.lit (.int .u8 i)):=rfl;rw[n]at a;obtain⟨s,p⟩:=c1M d8Y d4K d4L a;have k:∀(j:Nat) x,b1i[j]?=some x→W.cell? ⟨2,j,none⟩=some (.int .u8 x):=fun j x l=>by
  rw[World.var?_cell b d j];simpa using p j x l
 intro g t x o;obtain⟨rfl,e⟩:=d2c o;cases e;refine⟨z0m (k 0 0 rfl),?_⟩;exact b4N (f:=fun i=>dec (a0a W none) (.int .u8) fun j=>(Src.at 2 0).rd (a0a W none) (i*1+j)) b1i 0 (fun j x l=>by
  have:=k j x l
  simp only[dec,Src.rd,a0a,Nat.zero_add,Nat.mul_one,Nat.add_zero,this,if_true])
set_option maxRecDepth 100000 in
theorem c9h (os:Os) (args:Array Value):laidMetH Tryz.prog laidTab ((World.doorLaid Tryz.prog 400 os).forCall (fun _ _=>0) ⟨#[],args,[]⟩).memory:=
 laidMetH_of_parts3 (fuel:=8) (laidMet_of_run' 8 (by kernel_rfl) (by kernel_rfl)) (by kernel_rfl) (by kernel_rfl)
end Go.Proofs.YtjoohiokfkdfpabGreatDoor
