/- Part of the proof: QKH. Conditions: as each statement tells. -/
import Derived.Test.YtjoohiokfkdfpaaGreatDoorRows
import Derived.ProofKit
import Derived.LaidMore
import Derived.LaidLaws
import Derived.LaidHandle
import Derived.LaidByTextLater
import Derived.OpenShut
import Derived.Handed
import Derived.KernelRfl
import Derived.Test.YtjoohiokfkdfpaaGreatDoorMG
noncomputable section
set_option linter.unusedSimpArgs false
set_option linter.unusedVariables false
open Bool renaming not_false→a00,and_self→a18
open Int renaming eq_ofNat_of_zero_le→a01,natCast_nonneg→a02,cast_ofNat_Int→a09
open List renaming nil_append→a03,drop_eq_getElem_cons→a04,append_nil→a05,append_eq→a06,flatMap_cons→a07,take_succ_cons→a08,drop→a16,take→a17,length_drop→a19,length_take→a20,length_nil→a22,getElem_mem→a24,drop_take→a25,take_zero→a26
open Nat renaming testBit_lt_two_pow→a23
namespace Go.Ab
theorem c8L(b1 b2:Bool){α:Type}(E:α):(bif !b1 then E else bif b2 then E else E)=E:=by cases b1<;>cases b2<;>rfl
theorem c7z{b1 b2:Bool}(h:¬ (b1=true∧b2=false)){α:Type}(E F:α):(bif !b1 then E else bif b2 then E else F)=E:=by
 cases b1<;>cases b2<;>first|rfl|exact absurd ⟨rfl,rfl⟩ h
theorem b6R{l:List Int}(h:l.all a0B=true):a0H l<32:=by have:=a7c h;omega
theorem c2J{L P R:List Int}(K:OkL L)(e:P++R=L){n:Int}(n1:1≤n)(n2:n≤4096):
  (∃(s:Sub)(a:List Nat)(R':List Int),SmallS s∧(a1Y s n).isSome=true∧(s.1≠0∧s.1≠1→PartsOk s.2.2.2.2.2.2.2.2.2.1 n ((s.2.2.2.2.2.2.2.2.1.length:Nat):Int) s.2.2.2.2.2.2.2.2.2.2.1 a)∧R=a4W s a++R'∧
   a8Q (rdr P R,n)=some (s,(0:Int),rdr (P++a4W s a) R')∧a1X (rdr P R,n)=some (s,(0:Int),rdr (P++a4W s a) R'))∨
  ∃(s s':Sub)(q q':Int)(r' r'':Rd),q≠0∧q'≠0∧a8Q (rdr P R,n)=some (s,q,r')∧a1X (rdr P R,n)=some (s',q',r''):=by
 obtain⟨s,s',w,v,r1,f,h7,V,hp,hq,h5⟩:=c5D K (r:=rdr P R) (.inr ⟨P,R,e,rfl⟩) n1 n2;have hw:=f.width;have hv:=f.cw;have d1:decide (n<1)=false:=by simp;omega
 have d2:decide (n > 4096)=false:=by simp;omega
 have z0:((rdr P R).2.2.1 != (0:Int))=false:=rfl;have zz:(rdr P R).2.1=(P.length:Int):=rfl;rw[hq];unfold a8Q a0F c2X;simp only[d1,d2,cF,z0,hp,oB]
 by_cases e1:r1.2.2.1=0
 rotate_left;simp only[a1Z e1,cT];exact .inr ⟨_,_,_,_,_,_,e1,e1,rfl,rfl⟩;have h0:(r1.2.2.1 != (0:Int))=false:=by simpa using e1
 have h6:=h5 e1;subst h6;simp only[h0,cF,b6z f.small,b5k,c1g f.small,a9Q,oB]
 by_cases hf:a6R s'.1 s' n
 rotate_left;simp only[hf,decide_false,a00,cT,if_false,show decide ((-1:Int)<0)=true from rfl];exact .inr ⟨_,_,_,_,_,_,by decide,by decide,rfl,rfl⟩;obtain⟨m0,m1⟩:=b1f f.small n1 n2 hf;obtain⟨m,hm⟩:=a01 m0;have g3:(m:Int)≤n:=by
  rw[←hm];unfold a0U;rcases hf with k|k|⟨k,t⟩|⟨k,t⟩|⟨k,t⟩|⟨k,t⟩<;>simp[k]<;>omega
 have m2:m≤4096:=by omega
 have dm:decide ((m:Int)<0)=false:=by simp
 simp only[hf,decide_true,bT,cF,if_true,b8h,oB,hm,dm];obtain⟨l,r2,q1,q2,q3,q4,q5⟩:=b3E K (n:=w) (by omega) m h7;have hW:=c6x (N:=m) (by omega) n (((a0H s'.2.2.2.2.2.1:Nat):Int)==(v:Int)) (a6L 0) s' q1 [] (by simpa using q2);obtain⟨l',q7,q8⟩:=b3M (by omega) q1;rw[q2]at q7;have hb:a1e s' []=s':=by rw[f.bare];rfl
 simp only[a22,nZ,a09,a03,hb]at hW
 erw[hW]
 simp only[q7,oB]
 by_cases e2:r2.2.2.1=0
 rotate_left;simp only[a1Z e2,cT];exact .inr ⟨_,_,_,_,_,_,e2,e2,rfl,rfl⟩;have h1:(r2.2.2.1 != (0:Int))=false:=by simpa using e2
 have h2:=q8 e2;subst h2;have h4:=b8w (n:=w) (by omega) q3;have X:=b6R h4;have c:short l':=by unfold short;omega
 have h9:a0H s'.2.2.2.2.2.1<33:=by have:=a6s s'.2.2.2.2.2.1;omega
 have g0:=b6G hf;simp only[h1,cF,b8i,a4l,oB]

 have M:a0H s'.2.2.2.2.2.1<32:=by
  by_cases h34:s'.1≠3∧s'.1≠4
  rw[←f.same h34];exact hv
  have:a6p s'.2.2.2.2.2.1 s'.2.2.2.1=true:=by
   rcases hf with k|k|⟨k,t⟩|⟨k,t⟩|⟨k,t⟩|⟨k,t⟩;omega;omega;omega;exact t.1;exact t.1;omega
  exact b6R (b8n this).2.2.2.2
 have I:=Stp.trans V q5
 by_cases hk:s'.1=0∨s'.1=1
 ·have dk:decide (s'.1≠0∧s'.1≠1)=false:=by rw[decide_eq_false_iff_not];omega
  have dg:decide (2≤s'.1∧s'.1≤5)=false:=by rw[decide_eq_false_iff_not];omega
  have y:decide ((a1e s' l').1≠0∧(a1e s' l').1≠1)=false:=dk;obtain⟨P0,R0,H,f2,f3⟩:=I e2;obtain⟨rfl,rfl⟩:=b8b (by rw[e,H]) f2;have C:SmallS (a1e s' l'):=⟨f.small.coefs,f.small.taps,f.small.stages,by show l'.length≤5000;omega,f.small.rest,f.small.ks⟩;have Y:(a1e s' l').1≠0∧(a1e s' l').1≠1→PartsOk (a1e s' l').2.2.2.2.2.2.2.2.2.1 n (((a1e s' l').2.2.2.2.2.2.2.2.1.length:Nat):Int) (a1e s' l').2.2.2.2.2.2.2.2.2.2.1 []:=fun h=>by
   have:s'.1≠0∧s'.1≠1:=h
   omega
  obtain⟨q,B,p1,Z,p3⟩:=b8x K H C n Y;have g:=c7y (s:=a1e s' l') (w:=w) (v:=v) hw hv X M f.same [];have j:=b6C C n;have F:a4W (a1e s' l') []=(b0T (a1e s' l')++a8O (a1e s' l'))++(sB (a0H (a1e s' l').2.2.2.2.2.2.2.2.1) (a1e s' l').2.2.2.2.2.2.2.2.1++[]):=by
   unfold a4W;rw[if_pos (show(a1e s' l').1=0∨(a1e s' l').1=1 from hk)]
  rw[←F,a05]at g;have g:a4W (a1e s' l') []=(pb s'.1 3++(pb s'.2.1 5++(pb (w:Int) 5++a6i v s')))++sB w l'↔(a0H l'=w∧a0H s'.2.2.2.2.2.1=v):=g;simp only[y,dg,cF];rw[show(a1e s' l').2.2.2.2.2.2.2.2.1=l' from rfl,a4m c];simp only[oB,j];have E:a2V ((([]:List Int),()),(s'.1,s'.2.1,s'.2.2.1,s'.2.2.2.1,s'.2.2.2.2.1,s'.2.2.2.2.2.1,s'.2.2.2.2.2.2.1,s'.2.2.2.2.2.2.2.1,l',s'.2.2.2.2.2.2.2.2.2),n)=some (q,B,()):=p1;simp only[E,oB];cases i:(a1Y (a1e s' l') n).isSome with
  |false=>
   obtain rfl:=Z i;simp only[a00,cT,c8L,show((1:Int) != 0)=true from rfl,oB];exact .inr ⟨_,_,_,_,_,_,by decide,by decide,rfl,rfl⟩
  |true=>
   obtain⟨rfl,p4⟩:=p3 i;rw[f3,zz];simp only[bT,cF,show((0:Int) != 0)=false from rfl,p4,oB]
   by_cases hc:a0H l'=w∧a0H s'.2.2.2.2.2.1=v
   have b1:((((a0H s'.2.2.2.2.2.1:Nat):Int))==(v:Int))=true:=by rw[hc.2];simp
   have b2:((((a0H l':Nat):Int)) != (w:Int))=false:=by rw[hc.1];simp
   have d:=g.2 hc;simp only[b1,b2,bT,cF,decide_eq_true d];refine .inl ⟨a1e s' l',[],R0,C,i,Y,by rw[d],?_,?_⟩;rw[d];rw[d];rfl;have D:¬ (((((a0H s'.2.2.2.2.2.1:Nat):Int))==(v:Int))=true∧((((a0H l':Nat):Int)) != (w:Int))=false):=by
    rintro⟨z,A⟩
    simp at z A;exact hc ⟨by omega,by omega⟩
   have d:¬ a4W (a1e s' l') []=(pb s'.1 3++(pb s'.2.1 5++(pb (w:Int) 5++a6i v s')))++sB w l':=fun h=>hc (g.1 h);simp only[c7z D,decide_eq_false d,a00,cT];exact .inr ⟨_,_,_,_,_,_,by decide,by decide,rfl,rfl⟩
 ·have dk:decide (s'.1≠0∧s'.1≠1)=true:=by rw[dT];omega
  have dg:decide (2≤s'.1∧s'.1≤5)=true:=by rw[dT];omega
  have y:decide ((a1e s' l').1≠0∧(a1e s' l').1≠1)=true:=dk;have U:a5P n (m:Int)=true:=by
   simp only[a5P,bA,dT];omega
  simp only[y,dg,cT];rw[show(a1e s' l').2.2.2.2.2.2.2.2.1=l' from rfl,q2];rcases c4D K q4 U with⟨p,u,a,r3,x,e3,h8,G,z,A⟩|⟨q,q',p,p',u,u',r3,r4,O,S,z,A⟩;rotate_left;have Q:(q != (0:Int))=true:=by simpa using O
  have T:(q' != (0:Int))=true:=by simpa using S
  simp only[z,A,oB,Q,T,cT];exact .inr ⟨_,_,_,_,_,_,O,S,rfl,rfl⟩;simp only[z,A,oB,show((0:Int) != 0)=false from rfl,cF];obtain⟨P0,R0,H,f2,f3⟩:=(Stp.trans I G) e3;obtain⟨rfl,rfl⟩:=b8b (by rw[e,H]) f2;have C:SmallS (a5k (a1e s' l') p u):=⟨f.small.coefs,f.small.taps,f.small.stages,by show l'.length≤5000;omega,x.short,by show p.2.1.length≤300;have:=x.ks;have:=x.len;omega⟩;have Y:(a5k (a1e s' l') p u).1≠0∧(a5k (a1e s' l') p u).1≠1→PartsOk (a5k (a1e s' l') p u).2.2.2.2.2.2.2.2.2.1 n (((a5k (a1e s' l') p u).2.2.2.2.2.2.2.2.1.length:Nat):Int) (a5k (a1e s' l') p u).2.2.2.2.2.2.2.2.2.2.1 a:=fun _=>by
   show PartsOk p n ((l'.length:Nat):Int) u a;rw[q2];exact x
  obtain⟨q,B,p1,Z,p3⟩:=b8x K H C n Y;have g:=c7y (s:=a5k (a1e s' l') p u) (w:=w) (v:=v) hw hv X M f.same (a4n p a u);have j:=b6C C n;have F:a4W (a5k (a1e s' l') p u) a=(b0T (a5k (a1e s' l') p u)++a8O (a5k (a1e s' l') p u))++(sB (a0H (a5k (a1e s' l') p u).2.2.2.2.2.2.2.2.1) (a5k (a1e s' l') p u).2.2.2.2.2.2.2.2.1++a4n p a u):=by
   unfold a4W;rw[if_neg (show ¬ ((a5k (a1e s' l') p u).1=0∨(a5k (a1e s' l') p u).1=1)from hk)];rfl
  rw[←F]at g;have g:a4W (a5k (a1e s' l') p u) a=(pb s'.1 3++(pb s'.2.1 5++(pb (w:Int) 5++a6i v s')))++sB w l'++a4n p a u↔(a0H l'=w∧a0H s'.2.2.2.2.2.1=v):=by
   rw[aA];exact g
  have o:a6j ((s'.1,s'.2.1,s'.2.2.1,s'.2.2.2.1,s'.2.2.2.2.1,s'.2.2.2.2.2.1,s'.2.2.2.2.2.2.1,s'.2.2.2.2.2.2.2.1,l',p,u,s'.2.2.2.2.2.2.2.2.2.2.2),n)=some (a1Y (a5k (a1e s' l') p u) n).isSome:=j;have E:a2V ((([]:List Int),()),(s'.1,s'.2.1,s'.2.2.1,s'.2.2.2.1,s'.2.2.2.2.1,s'.2.2.2.2.2.1,s'.2.2.2.2.2.2.1,s'.2.2.2.2.2.2.2.1,l',p,u,s'.2.2.2.2.2.2.2.2.2.2.2),n)=some (q,B,()):=p1;obtain⟨bm,i⟩:∃b,(a1Y (a5k (a1e s' l') p u) n).isSome=b:=⟨_,rfl⟩;rw[i]at o Z p3;simp only[a1e,a4m c,oB,o,E];cases bm with
  |false=>
   obtain rfl:=Z rfl;simp only[a00,cT,c8L,show((1:Int) != 0)=true from rfl,oB];exact .inr ⟨_,_,_,_,_,_,by decide,by decide,rfl,rfl⟩
  |true=>
   obtain⟨rfl,p4⟩:=p3 rfl;rw[f3,zz];simp only[bT,cF,show((0:Int) != 0)=false from rfl,p4,oB]
   by_cases hc:a0H l'=w∧a0H s'.2.2.2.2.2.1=v
   have b1:((((a0H s'.2.2.2.2.2.1:Nat):Int))==(v:Int))=true:=by rw[hc.2];simp
   have b2:((((a0H l':Nat):Int)) != (w:Int))=false:=by rw[hc.1];simp
   have d:=g.2 hc;simp only[b1,b2,bT,cF,decide_eq_true d];refine .inl ⟨a5k (a1e s' l') p u,a,R0,C,i,Y,by rw[d],?_,?_⟩;rw[d];rfl;rw[d];rfl;have D:¬ (((((a0H s'.2.2.2.2.2.1:Nat):Int))==(v:Int))=true∧((((a0H l':Nat):Int)) != (w:Int))=false):=by
    rintro⟨z,A⟩
    simp at z A;exact hc ⟨by omega,by omega⟩
   have d:¬ a4W (a5k (a1e s' l') p u) a=(pb s'.1 3++(pb s'.2.1 5++(pb (w:Int) 5++a6i v s')))++sB w l'++a4n p a u:=fun h=>hc (g.1 h);simp only[c7z D,decide_eq_false d,a00,cT];exact .inr ⟨_,_,_,_,_,_,by decide,by decide,rfl,rfl⟩
open IntKind(wrap)
def a1M(bs:List Int):List Int:=bs.flatMap fun b=>pb b 8
theorem a8a:∀(bs:List Int),(a1M bs).length=bs.length*8
 | []=>rfl
 |b::bs=>by
  have:=a8a bs
  unfold a1M at this⊢;rw[a07,lN,a1D,this,lC];omega
theorem b1l:∀(bs:List Int),a7m bs→a2g (a1M bs)
 | [],_=>fun b hb=>by cases hb
 |b::bs,h=>by
  obtain⟨n,f⟩:=a01 (h b (by simp)).1;have k:=(h b (by simp)).2;unfold a1M;rw[a07,f];exact a2g.app (c4v (by omega) 8 (by omega)) (b1l bs fun c g=>h c (by simp[g]))
theorem c2Y(v:Int):∀(n i:Nat),i<n→(pb v n).getD i 0=a2x v (n-1-i)
 |0,_,h=>by omega
 |n+1,0,_=>rfl
 |n+1,i+1,h=>by
  have:=c2Y v n i (by omega)
  simp only[pb,List.getD_cons_succ,this];congr 1;omega
theorem b2t:∀(bs:List Int)(j k:Nat),j<bs.length→k<8→(a1M bs).getD (8*j+k) 0=a2x (bs.getD j 0) (7-k)
 | [],_,_,h,_=>by simp at h
 |b::bs,0,k,_,hk=>by
  unfold a1M;rw[a07,lD,List.getElem?_append_left (by rw[a1D];omega),←lD];rw[show 8*0+k=k from by omega,c2Y b 8 k hk];rfl
 |b::bs,j+1,k,h,hk=>by
  have:=b2t bs j k (by simpa using h) hk
  unfold a1M at this⊢;rw[a07,lD,List.getElem?_append_right (by rw[a1D];omega),a1D,←lD];rw[show 8*(j+1)+k-8=8*j+k from by omega,this];rfl
theorem b4G{bs:List Int}(hb:a7m bs):(wL (a1M bs)).1=bs:=by
 obtain⟨k,n⟩:=c2R (b1l bs hb);obtain⟨-,o⟩:=a8r (a1M bs);rw[a8a]at o;have q:(wL (a1M bs)).1.length=bs.length:=by omega
 apply List.ext_getElem q;intro j m g;obtain⟨a,b⟩:=a01 (k j).1;have p:=(k j).2;have f:=hb bs[j] (a24 g);obtain⟨c,d⟩:=a01 f.1;have e:(wL (a1M bs)).1[j]=(wL (a1M bs)).1.getD j 0:=by simp[lD,m]
 have l:bs.getD j 0=bs[j]:=by simp[lD,g]
 rw[e,b,d]
 have:a=c:=by
  apply Nat.eq_of_testBit_eq;intro i
  by_cases hi:i<8
  have h:=n (8*j+(7-i));rw[b2t bs j (7-i) g (by omega),l,d,a6v (by omega) (by omega)]at h;unfold a8u at h;rw[show(8*j+(7-i)) / 8=j from by omega,show 7-(8*j+(7-i))%8=i from by omega,b,tN,show 7-(7-i)=i from by omega]at h;rw[h,Nat.testBit_eq_decide_div_mod_eq]
  have:c / 2^i%2<2:=Nat.mod_lt _ (by decide)
  by_cases hh:c / 2^i%2=1
  simp[hh]
  have:c / 2^i%2=0:=by omega
  simp[this];have hp:2^8≤2^i:=Nat.pow_le_pow_right (by decide) (by omega);rw[a23 (by omega),a23 (by omega)]
 omega
theorem c1B{bs:List Int}(hb:a7m bs)(h:bs.length<100000):OkL (a1M bs):=⟨b1l bs hb,by rw[a8a];omega,by rw[a8a];omega⟩
theorem c4E{L P R:List Int}(p:OkL L)(e:P++R=L):
  ∃r':Rd,a2C (rdr P R)=some r'∧a3m (rdr P R)=some r'∧(r'.2.2.1≠0∨(r'.2.2.1=0∧r'.1=(wL L).1∧r'.2.1=(((P.length+7) / 8*8:Nat):Int))):=by
 have H:=p.eight;have G:=p.len;obtain⟨l,z⟩:=p.okr e;obtain⟨c,R2,q,r⟩:=b1k R fun b hb=>l b (List.mem_append_right _ hb);have u:R.length=c+R2.length:=by rw[q];simp
 have C:P.length+R.length=L.length:=by rw[←e];simp
 have d:∀i,i<R.length→∀t,a0V (((wL (P++R)).1,t),((P.length+i:Nat):Int))=some (R.getD i 0,(wL (P++R)).1,t):=fun i g t=>by
  rw[←b3D P R i];exact b1B l (by omega) (by simp;omega) t
 obtain⟨k,D⟩:∃k,(P.length+7) / 8*8=P.length+k:=⟨(P.length+7) / 8*8-P.length,by omega⟩;have F:k≤R.length:=by omega
 have E:k<8:=by omega
 have j:wrap .i64 (wrap .i64 (Int.tdiv (wrap .i64 ((P.length:Int)+7)) 8)*8)=((P.length+k:Nat):Int):=by
  rw[a0D (n:=(P.length:Int)+7) (by omega),Int.tdiv_eq_ediv_of_nonneg (by omega),a0D (n:=((P.length:Int)+7) / 8) (by omega),a0D (by omega)];omega
 have z0:((rdr P R).2.2.1 != (0:Int))=false:=rfl;have tm:∀i,Int.tmod ((P.length+i:Nat):Int) 8=(((P.length+i)%8:Nat):Int):=fun i=>by rw[Int.tmod_eq_emod_of_nonneg (by omega)];omega
 have y:∀i,i<c→R.getD i 0=0:=fun i g=>by rw[q];exact b2d g _
 have o:∀i,i<100→wrap .i64 (((P.length+i:Nat):Int)+1)=((P.length+(i+1):Nat):Int):=fun i g=>by rw[a0D (by omega)];omega

 have A:∀i,i<k→i<c→a1t (((P.length+k:Nat):Int),((P.length+i:Nat):Int),rdr P R,())=some (.inl (((P.length+k:Nat):Int),((P.length+(i+1):Nat):Int),rdr P R,())):=fun i g s=>by
  simp only[a1t,dlt (show P.length+i<P.length+k by omega),cT,rdr];rw[d i (by omega)];simp only[oB,y i s,o i (by omega)];rfl
 have B:∀i,i<k→i<c→a1A (((P.length+i:Nat):Int),rdr P R,())=some (.inl (((P.length+(i+1):Nat):Int),rdr P R,())):=fun i g s=>by
  have a:((((P.length+i)%8:Nat):Int) != 0)=true:=by simp;omega
  simp only[a1A,tm,a,cT,a9x,rdr];rw[d i (by omega)];simp only[oB,y i s,o i (by omega)];rfl
 by_cases hkc:k≤c
 have v:=a1F (f:=a1t) (fun i=>(((P.length+k:Nat):Int),((P.length+i:Nat):Int),rdr P R,())) k (b:=.inl (((P.length+k:Nat):Int),rdr P R,())) (fun i g=>A i g (by omega))
  (by simp only[a1t,dge,cF])
 have w:=a1F (f:=a1A) (fun i=>(((P.length+i:Nat):Int),rdr P R,())) k (b:=.inl (((P.length+k:Nat):Int),rdr P R,())) (fun i g=>B i g (by omega))
  (by
   have a:((((P.length+k)%8:Nat):Int) != 0)=false:=by simp;omega
   simp only[a1A,tm,a,cF])
 refine⟨((wL L).1,((P.length+k:Nat):Int),(0:Int),()),?_,?_,.inr ⟨rfl,rfl,by rw[D]⟩⟩;unfold a2C;simp only[z0,cF];rw[show(rdr P R).2.1=(P.length:Int)from rfl,j]
 erw[v]
 simp only[oB,rdr,e];unfold a3m;simp only[z0,cF]
 erw[w]
 simp only[oB,rdr,e];have m:∃x,R2=1::x:=by
  rcases r with rfl|h;simp at u;omega;exact h
 obtain⟨x,rfl⟩:=m;have b1:R.getD c 0=1:=by rw[q];exact b8s _ _
 have v:=a1F (f:=a1t) (fun i=>(((P.length+k:Nat):Int),((P.length+i:Nat):Int),rdr P R,())) c (b:=.inr (((wL (P++R)).1,(P.length:Int),(2:Int),()),())) (fun i g=>A i (by omega) g)
  (by
   simp only[a1t,dlt (show P.length+c<P.length+k by omega),cT,rdr];rw[d c (by omega)];simp only[oB,b1];rfl)
 have w:=a1F (f:=a1A) (fun i=>(((P.length+i:Nat):Int),rdr P R,())) c (b:=.inr (((wL (P++R)).1,(P.length:Int),(2:Int),()),())) (fun i g=>B i (by omega) g)
  (by
   have a:((((P.length+c)%8:Nat):Int) != 0)=true:=by simp;omega
   simp only[a1A,tm,a,cT,a9x,rdr];rw[d c (by omega)];simp only[oB,b1];rfl)
 refine⟨((wL (P++R)).1,(P.length:Int),(2:Int),()),?_,?_,.inl (show(2:Int)≠0 by decide)⟩;unfold a2C;simp only[z0,cF];rw[show(rdr P R).2.1=(P.length:Int)from rfl,j]
 erw[v]
 rfl;unfold a3m;simp only[z0,cF]
 erw[w]
 rfl
def b1m(f:a1K)(l:List a1y):a1K:=(f.1,f.2.1,f.2.2.1,l,f.2.2.2.2)
theorem c6y(u:Int):∃g,a4p u=some g:=by
 unfold a4p;cases (Int.tmod u 2==0)<;>exact⟨_,rfl⟩
theorem b6S{x:List Int}(hb:a7m x)(o:x.length<1000000000)(f z:a1K){N:Nat}(F:N≤16):∀(m:Nat)(d:List a1y)(p:Nat)(e:Int),d.length+m=N→p+2≤x.length→
  ∃(l:List a1y)(p':Nat)(n:Int),l.length=m∧p'+2≤x.length∧
   y0s a3W (x,(N:Int),(d.length:Int),b1m f d,oP x 2 p e,())=some (x,b1m f (d++l),oP x 2 p' n,())∧
   y0s a7f (x,(N:Int),(d.length:Int),z,oR x 2 p e,b1m f d,())=some (x,z,oR x 2 p' n,b1m f (d++l),())
 |0,d,p,e,hm,hp=>by
  have:d.length=N:=by omega
  refine⟨[],p,e,rfl,hp,?_,?_⟩;rw[a05];exact a0E (by simp only[a3W,this,dge,cF]);rw[a05];exact a0E (by simp only[a7f,this,dge,cF])
 |m+1,d,p,e,hm,hp=>by
  obtain⟨a,P,D,M,r,a1,y⟩:=a4r hb o hp e 7;obtain⟨b,Q,E,G,s,b1,b2⟩:=a4r hb o r D 7;obtain⟨c,w,q,O,t,A,B⟩:=a4r hb o s E 2048;rw[show((7:Nat):Int)=7 from rfl]at a1 y b1 b2;rw[show((2048:Nat):Int)=2048 from rfl]at A B;obtain⟨g,C⟩:=c6y (c:Int);have h:=c2W (u:=c) (by omega);rw[C]at h;have i:=dlt (show d.length<N by omega);have k:=a1u (show d.length+1<2147483648 by omega);have v:wrap .i64 ((d.length:Int)+1)=(((d++[(wrap .i64 (a:Int),wrap .i64 (b:Int),g,())]).length:Nat):Int):=by rw[a0D (by omega)];simp
  have j:wrap .u64 ((d.length:Int)+1)=(((d++[(wrap .i64 (a:Int),wrap .i64 (b:Int),g,())]).length:Nat):Int):=by rw[a0O (by omega)];simp
  obtain⟨l,p',n,H,I,K,L⟩:=b6S hb o f z F m (d++[(wrap .i64 (a:Int),wrap .i64 (b:Int),g,())]) w q (by simp;omega) t;refine⟨(wrap .i64 (a:Int),wrap .i64 (b:Int),g,())::l,p',n,by simp[H],I,?_,?_⟩;rw[a0G (s':=(x,(N:Int),(((d++[(wrap .i64 (a:Int),wrap .i64 (b:Int),g,())]).length:Nat):Int),b1m f (d++[(wrap .i64 (a:Int),wrap .i64 (b:Int),g,())]),oP x 2 w q,())) (by
   simp only[a3W,i,cT,a1,b1,A,C,oB,b1m,k,j,a06])]
  rw[K]
  simp
  rw[a0G (s':=(x,(N:Int),(((d++[(wrap .i64 (a:Int),wrap .i64 (b:Int),g,())]).length:Nat):Int),z,oR x 2 w q,b1m f (d++[(wrap .i64 (a:Int),wrap .i64 (b:Int),g,())]),())) (by
   simp only[a7f,i,cT,y,b2,B,h,oB,b1m,k,v,a06])]
  rw[L]
  simp
theorem c7Z{x:List Int}{i:Nat}(h:i<x.length):a16 i (a17 (i+1) x)=[x.getD i 0]:=by
 rw[a25,show i+1-i=1 from by omega,a04 h,a08,a26,lD,lG h];rfl
theorem c8a{x:List Int}{i:Nat}(h:i+1<x.length):a16 i (a17 (i+2) x)=[x.getD i 0,x.getD (i+1) 0]:=by
 rw[a25,show i+2-i=1+1 from by omega,a04 (show i<x.length by omega),a08,a04 h,a08,a26,lD,lG (show i<x.length by omega),lD,lG h];rfl
theorem a9Z{x:List Int}{i:Nat}(h:i<x.length):m0k x (i:Int)=some (x.getD i 0):=by
 rw[a0A h];simp[lD,h]
theorem b6T{x:List Int}(hb:a7m x)(hl:x.length<1000000):
  ∃(f:a1K)(hd body:Nat)(e:Int),a3X x=some (f,(hd:Int),(body:Int),e)∧a7I x=some (f,(body:Int),(hd:Int),e)∧
   (e=0→frP f∧f.2.2.2.2.1=[]∧hd≤x.length∧body≤1048576∧3≤hd)∧(e≠0→f=a1Q∧hd=0∧body=0):=by
 unfold a3X a7I
 by_cases h2:x.length<2
 have d:decide (((x.length:Nat):Int)<2)=true:=by simp;omega
 simp only[d,cT];exact⟨a1Q,0,0,3,rfl,rfl,fun h=>(by cases h),fun _=>⟨rfl,rfl,rfl⟩⟩;have d:decide (((x.length:Nat):Int)<2)=false:=by simp;omega
 have g0:m0k x (0:Int)=some (x.getD 0 0):=a9Z (i:=0) (by omega);have g1:m0k x (1:Int)=some (x.getD 1 0):=a9Z (i:=1) (by omega);have R:decide ((2:Int)≤((x.length:Nat):Int))=true:=by simp;omega
 simp only[d,cF,g0,g1,oB];cases hm0:(x.getD 0 0 != (245:Int))with
 |true=>
  simp only[cT,oB];exact⟨a1Q,0,0,2,rfl,rfl,fun h=>(by cases h),fun _=>⟨rfl,rfl,rfl⟩⟩
 |false=>
 simp only[cF,oB];cases hm1:(x.getD 1 0 != (75:Int))with
 |true=>
  simp only[cT];exact⟨a1Q,0,0,2,rfl,rfl,fun h=>(by cases h),fun _=>⟨rfl,rfl,rfl⟩⟩
 |false=>
 simp only[cF,R,cT];have n:a8D (a16 2 (a17 x.length x))=some (oP x 2 0 0):=by
  unfold a8D oP;rw[List.take_length,a1u (by rw[a19];omega)];rfl
 have b:a1h ((x,(0:Int),(0:Int),()),(2:Int))=some (x.take 2,oR x 2 0 0):=by
  have D:wrap .i64 (((x.length:Nat):Int)-0)=(x.length:Int):=by rw[a0D (by omega)];omega
  have y:v0r (2:Int) (0:Int)=2:=rfl;have l:decide ((2:Int) > (x.length:Int))=false:=by simp;omega
  have w2:wrap .i64 ((0:Int)+2)=2:=rfl;have w:decide ((0:Int)≤2)=true:=rfl;have B:decide ((0:Int)≤((Int.toNat 2:Nat):Int))=true:=rfl;have C:decide ((0:Int)≤0)=true:=rfl;unfold a1h a3E oR;simp only[bne_self_eq_false,cF,oB,D,y,l,w2,w,R,B,C,a18,cT];rw[a1u (by simp;omega)];rfl
 unfold a8l;simp only[n,b,oB];obtain⟨n1,p1,D,l1,q1,a1,V⟩:=a4r hb (by omega) (k:=2) (p:=0) (by omega) 0 4194304;obtain⟨n2,p2,e2,l2,q2,I,r2⟩:=a4r hb (by omega) q1 D 4096;obtain⟨s,p3,e3,l3,q3,K,X⟩:=a4r hb (by omega) q2 e2 1048576;obtain⟨t,p4,e4,l4,q4,L,Y⟩:=a4r hb (by omega) q3 e3 8;obtain⟨u,p5,e5,l5,q5,M,Z⟩:=a4r hb (by omega) q4 e4 24;obtain⟨z,p6,e6,l6,q6,O,r6⟩:=a4r hb (by omega) q5 e5 16;rw[show((4194304:Nat):Int)=4194304 from rfl]at a1 V;rw[show((4096:Nat):Int)=4096 from rfl]at I r2;rw[show((1048576:Nat):Int)=1048576 from rfl]at K X;rw[show((8:Nat):Int)=8 from rfl]at L Y;rw[show((24:Nat):Int)=24 from rfl]at M Z;rw[show((16:Nat):Int)=16 from rfl]at O r6;have w1:wrap .i64 (n1:Int)=(n1:Int):=a0D (by omega);have w2:wrap .i64 (n2:Int)=(n2:Int):=a0D (by omega);have w3:wrap .i64 (s:Int)=(s:Int):=a0D (by omega);have w4:wrap .i64 (t:Int)=(t:Int):=a0D (by omega);have w5:wrap .i64 (u:Int)=(u:Int):=a0D (by omega);have w6:wrap .i64 (z:Int)=(z:Int):=a0D (by omega);simp only[a1,I,K,L,M,O,V,r2,X,Y,Z,r6,w1,w2,w3,w4,w5,w6,oB];obtain⟨U,p7,e7,k1,q7,P,r7⟩:=b6S hb (by omega) ((n1:Int),(n2:Int),((s:Int),(t:Int),(u:Int),()),[],[],()) a1Q (N:=z) l6 z [] p6 e6 (by simp) q6;simp only[a22,nZ,a09,a03]at P r7
 erw[P,r7]
 simp only[oB];obtain⟨G,g,e8,l8,q8,Q,r8⟩:=a4r hb (by omega) q7 e7 1048576;rw[show((1048576:Nat):Int)=1048576 from rfl]at Q r8;have w8:wrap .i64 (G:Int)=(G:Int):=a0D (by omega);simp only[Q,r8,w8,oB,a6m,a5O,a6P]
 by_cases he:e8=0
 rotate_left;have a:(e8 != (0:Int))=true:=by simpa using he
 have r:a1h (oR x 2 g e8,(1:Int))=some ([],oR x 2 g e8):=by
  unfold a1h oR;simp only[a,cT]
 simp only[r,oB];simp only[oP,oR,a,cT];exact⟨a1Q,0,0,e8,rfl,rfl,fun h=>absurd h he,fun _=>⟨rfl,rfl,rfl⟩⟩;subst he;have E:(x.drop 2).length=x.length-2:=a19;have S:wrap .i64 ((((x.drop 2).length:Nat):Int)-(g:Int))=((x.length-2-g:Nat):Int):=by rw[E,a0D (by omega)];omega
 have T:wrap .i64 (((x.length:Nat):Int)-((g+2:Nat):Int))=((x.length-2-g:Nat):Int):=by rw[a0D (by omega)];omega
 have y:v0r (1:Int) (0:Int)=1:=rfl
 by_cases hlast:x.length-2-g<1
 have l:decide (((x.length-2-g:Nat):Int)<1)=true:=by simp;omega
 have A:decide ((1:Int) > ((x.length-2-g:Nat):Int))=true:=by simp;omega
 have r:a1h (oR x 2 g 0,(1:Int))=some ([],oR x 2 g 3):=by
  unfold a1h a3E oR;simp only[bne_self_eq_false,cF,oB,T,y,A,cT]
 simp only[r,oB];simp only[oP,oR,bne_self_eq_false,cF,S,l,cT,show((3:Int) != 0)=true from rfl];exact⟨a1Q,0,0,3,rfl,rfl,fun h=>(by cases h),fun _=>⟨rfl,rfl,rfl⟩⟩;have l:decide (((x.length-2-g:Nat):Int)<1)=false:=by simp;omega
 have A:decide ((1:Int) > ((x.length-2-g:Nat):Int))=false:=by simp;omega
 have o:g+2<x.length:=by omega
 have v:wrap .i64 (((g+2:Nat):Int)+1)=((g+2+1:Nat):Int):=by rw[a0D (by omega)];omega
 have H:wrap .i64 ((2:Int)+(g:Int))=((g+2:Nat):Int):=by rw[a0D (by omega)];omega
 have w:decide ((0:Int)≤((g+2:Nat):Int))=true:=decide_eq_true (a02 _);have B:decide (((g+2:Nat):Int)≤((x.length:Nat):Int))=true:=by rw[dT];omega
 have C:decide ((0:Int)≤((g+2+1:Nat):Int))=true:=decide_eq_true (a02 _);have c6:decide (((g+2+1:Nat):Int)≤((x.length:Nat):Int))=true:=by rw[dT];omega
 have c7:decide (((g+2:Nat):Int)≤((g+2+1:Nat):Int))=true:=by rw[dT];omega
 have m:a16 (g+2) (a17 (g+2+1) x)=[x.getD (g+2) 0]:=c7Z o;have r:a1h (oR x 2 g 0,(1:Int))=some ([x.getD (g+2) 0],oR x 2 (g+1) 0):=by
  unfold a1h a3E oR;simp only[bne_self_eq_false,cF,oB,T,y,A,v,C,c6,w,c7,a18,cT,tN,m,a1u (show 0+[x.getD (g+2) 0].length<2147483648 by simp),a06,a03]
  try rw[show g+2+1=g+1+2 from by omega]
 have g8:=a9Z o;have q:short (x.take (g+2)):=by unfold short;rw[a20];omega
 have c8:decide ((0:Int)<(([x.getD (g+2) 0].length:Nat):Int))=true:=rfl;have F:List.getD [x.getD (g+2) 0] 0 (0:Int)=x.getD (g+2) 0:=rfl;simp only[r,oB];simp only[oP,oR,bne_self_eq_false,cF,S,l,H,w,B,a18,cT,tN,c6k q,c1z q,g8,c8,F]
 by_cases hsum:b5o (x.take (g+2))=x.getD (g+2) 0
 rotate_left;have c:(b5o (x.take (g+2)) != x.getD (g+2) 0)=true:=by simpa using hsum
 have j:(x.getD (g+2) 0 != b5o (x.take (g+2)))=true:=by simpa using fun h=>hsum h.symm
 simp only[oB,c,j,cT];exact⟨a1Q,0,0,5,rfl,rfl,fun h=>(by cases h),fun _=>⟨rfl,rfl,rfl⟩⟩;have c:(b5o (x.take (g+2)) != x.getD (g+2) 0)=false:=by simpa using hsum
 have j:(x.getD (g+2) 0 != b5o (x.take (g+2)))=false:=by simpa using hsum.symm
 simp only[oB,c,j,cF,b1D,b1F,oB]
 by_cases hf:frP (b1m ((n1:Int),(n2:Int),((s:Int),(t:Int),(u:Int),()),[],[],()) U)
 rw[decide_eq_true hf];refine⟨b1m ((n1:Int),(n2:Int),((s:Int),(t:Int),(u:Int),()),[],[],()) U,g+3,G,0,?_,?_,fun _=>⟨hf,rfl,by omega,l8,by omega⟩,fun h=>absurd rfl h⟩;simp only[bT,cF,v];have wq:wrap .i64 (((g+2:Nat):Int)+1)=((g+3:Nat):Int):=by rw[a0D (by omega)];omega
 simp only[bT,cF,wq];rw[decide_eq_false hf];exact⟨a1Q,0,0,2,rfl,rfl,fun h=>(by cases h),fun _=>⟨rfl,rfl,rfl⟩⟩
theorem b8y{L:List Int}(B:OkL L)(h:Int)(z f:a1K)(x:1≤f.2.1)(A:f.2.1≤4096){ch:Nat}(g:f.2.2.1.2.1=(ch:Int))(E:ch≤8):∀(m:Nat)(d:List Sub)(P R:List Int),d.length+m=ch→P++R=L→
  (∃(i:List Sub)(j c:List Int),(∀s∈i,SmallS s)∧i.length=m∧j++c=L∧
   y0s a2i (h,(ch:Int),(d.length:Int),z,a2L f d,rdr P R,())=some (.inl (h,z,a2L f (d++i),rdr j c,()))∧
   y0s a1J (h,(d.length:Int),z,a2L f d,rdr P R,())=some (.inl (h,z,a2L f (d++i),rdr j c,())))∨
  (y0s a2i (h,(ch:Int),(d.length:Int),z,a2L f d,rdr P R,())=some (.inr (0,2,a1Q,()))∧
   y0s a1J (h,(d.length:Int),z,a2L f d,rdr P R,())=some (.inr (0,2,a1Q,())))
 |0,d,P,R,hm,e=>by
  have C:(ch:Int)=(d.length:Int):=by omega
  refine .inl ⟨[],P,R,(fun s I=>by cases I),rfl,e,?_,?_⟩;rw[a05];exact a0E (by simp only[a2i,C,dge,cF]);rw[a05];exact a0E (by simp only[a1J,a2L,g,C,dge,cF])
 |m+1,d,P,R,hm,e=>by
  have k:=dlt (show d.length<ch by omega);have l:=a1u (show d.length+1<2147483648 by omega);rcases c2J B e x A with⟨s,o,c,G,-,-,F,p,q⟩|⟨s,s',a,b,Q,O,H,hb,p,q⟩;have n:wrap .i64 ((d.length:Int)+1)=(((d++[s]).length:Nat):Int):=by rw[a0D (by omega)];simp
  have D:(P++a4W s o)++c=L:=by rw[←e,F];simp
  rw[a0G (f:=a2i) (s':=(h,(ch:Int),(((d++[s]).length:Nat):Int),z,a2L f (d++[s]),rdr (P++a4W s o) c,())) (by
   simp only[a2i,k,cT,a2L,p,oB,bne_self_eq_false,cF,l,n,a06])]
  rw[a0G (f:=a1J) (s':=(h,(((d++[s]).length:Nat):Int),z,a2L f (d++[s]),rdr (P++a4W s o) c,())) (by
   simp only[a1J,a2L,g,k,cT,q,oB,bne_self_eq_false,cF,l,n,a06])]
  rcases b8y B h z f x A g E m (d++[s]) (P++a4W s o) c (by simp;omega) D with⟨i,j,R2,K,M,N,v,w⟩|⟨v,w⟩;refine .inl ⟨s::i,j,R2,fun y u=>?_,by simp[M],N,?_,?_⟩;rcases mC.1 u with rfl|u;exact G;exact K y u;rw[v];simp;rw[w];simp;exact .inr ⟨v,w⟩;have r:(a != (0:Int))=true:=by simpa using H
  have t:(b != (0:Int))=true:=by simpa using hb
  refine .inr ⟨a0E ?_,a0E ?_⟩;simp only[a2i,k,cT,a2L,p,oB,r];rfl;simp only[a1J,a2L,g,k,cT,q,oB,t];rfl
theorem c6z{s c d:Int}(k:0≤s∧s<65536)(g:0≤c∧c<256)(f:0≤d∧d<256):
  (s != bits .u16 .or (A0n .u16 (wrap .u16 c) 8) (wrap .u16 d))=!decide (s / 256=c∧s%256=d)∧b0G ([s / 256,s%256],[c,d])=some (decide (s / 256=c∧s%256=d)):=by
 have h:=d5g (v:=256*c+d) (by omega);rw[show(256*c+d) / 256=c from by omega,show(256*c+d)%256=d from by omega]at h;rw[h];constructor
 by_cases hh:s / 256=c∧s%256=d
 have:s=256*c+d:=by omega
 rw[decide_eq_true hh,this];simp
 have:s≠256*c+d:=by omega
 rw[decide_eq_false hh];simpa using this;unfold b0G b2s;simp only[List.map_cons,List.map_nil];congr 1;rw[Bool.eq_iff_iff,beq_iff_eq,dT];simp only[List.cons.injEq,and_true];omega
theorem c5E{x:List Int}(hb:a7m x)(hl:x.length<100000):
  ∃(f:a1K)(n e:Int),a4K x=some (f,n,e)∧a6e x=some (f,n,e)∧(∀s∈f.2.2.2.2.1,SmallS s)∧f.2.2.2.1.length≤16∧f.2.2.2.2.1.length≤8∧
   (e=0→(a5C f).isSome=true∧frP f∧5≤n∧n≤(x.length:Int))∧(e≠0→f=a1Q∧n=0):=by
 have j:∀s∈a1Q.2.2.2.2.1,SmallS s:=fun s F=>by cases F
 obtain⟨f,g,body,e,h1,h2,h3,h4⟩:=b6T hb (by omega);unfold a4K a6e;simp only[h1,h2,oB]
 by_cases he:e=0
 rotate_left;have P:(e != (0:Int))=true:=by simpa using he
 simp only[P,cT];exact⟨a1Q,0,e,rfl,rfl,j,by decide,by decide,fun h=>absurd h he,fun _=>⟨rfl,rfl⟩⟩;subst he;obtain⟨Z,G,h9,O,h7⟩:=h3 rfl;have w1:wrap .i64 ((g:Int)+(body:Int))=((g+body:Nat):Int):=by rw[a0D (by omega)];omega
 have w2:wrap .i64 (((g+body:Nat):Int)+2)=((g+body+2:Nat):Int):=by rw[a0D (by omega)];omega
 have w3:wrap .i64 (((g+body:Nat):Int)+1)=((g+body+1:Nat):Int):=by rw[a0D (by omega)];omega
 simp only[bne_self_eq_false,cF,w1,w2,w3]
 by_cases hsh:x.length<g+body+2
 have d:decide (((x.length:Nat):Int)<((g+body+2:Nat):Int))=true:=by rw[dT];omega
 simp only[d,cT];exact⟨a1Q,0,3,rfl,rfl,j,by decide,by decide,fun h=>(by cases h),fun _=>⟨rfl,rfl⟩⟩;have d:decide (((x.length:Nat):Int)<((g+body+2:Nat):Int))=false:=by rw[decide_eq_false_iff_not];omega
 have c1:decide ((0:Int)≤((g+body:Nat):Int))=true:=decide_eq_true (a02 _);have c2:decide (((g+body:Nat):Int)≤((x.length:Nat):Int))=true:=by rw[dT];omega
 have c3:decide ((0:Int)≤(g:Int))=true:=decide_eq_true (a02 _);have c4:decide ((g:Int)≤((g+body:Nat):Int))=true:=by rw[dT];omega
 have c5:decide ((0:Int)≤((g+body+2:Nat):Int))=true:=decide_eq_true (a02 _);have c6:decide (((g+body+2:Nat):Int)≤((x.length:Nat):Int))=true:=by rw[dT];omega
 have c7:decide (((g+body:Nat):Int)≤((g+body+2:Nat):Int))=true:=by rw[dT];omega
 have g1:=a9Z (x:=x) (i:=g+body) (by omega);have g2:=a9Z (x:=x) (i:=g+body+1) (by omega);have c:short (x.take (g+body)):=by unfold short;rw[a20];omega
 have hr:=c2B (x.take (g+body));have wu:wrap .u64 (a9w (x.take (g+body)))=a9w (x.take (g+body)):=a0O (by omega);have A:a16 (g+body) (a17 (g+body+2) x)=[x.getD (g+body) 0,x.getD (g+body+1) 0]:=c8a (by omega);have z:∀i,i<x.length→0≤x.getD i 0∧x.getD i 0<256:=fun i hi=>by
  have:x.getD i 0=x[i]:=by simp[lD,hi]
  rw[this];exact hb _ (a24 hi)
 obtain⟨t1,t2⟩:=c6z hr (z (g+body) (by omega)) (z (g+body+1) (by omega));simp only[d,cF,c1,c2,a18,cT,tN,c4w c,b8a c,oB,g1,g2,wu,c6s hr,c3,c4,c5,c6,c7,A,t1,t2]
 by_cases hsum:a9w (x.take (g+body)) / 256=x.getD (g+body) 0∧a9w (x.take (g+body))%256=x.getD (g+body+1) 0
 rotate_left;rw[decide_eq_false hsum];simp only[a00,cT];exact⟨a1Q,0,5,rfl,rfl,j,by decide,by decide,fun h=>(by cases h),fun _=>⟨rfl,rfl⟩⟩;rw[decide_eq_true hsum];simp only[bT,cF]

 obtain⟨B,N⟩:∃B,a16 g (a17 (g+body) x)=B:=⟨_,rfl⟩;have m:a7m B:=fun b h=>by rw[←N]at h;exact hb b (List.mem_of_mem_take (List.mem_of_mem_drop h))
 have h0:B.length=body:=by rw[←N,a19,a20];omega
 have y:=c1B m (by omega);have E:a9n B=some (rdr [] (a1M B)):=by
  unfold a9n rdr;rw[a1u (by omega),cT,a03,b4G m];rfl
 have q:a6F B=some (rdr [] (a1M B)):=by
  unfold a6F rdr;rw[a03,b4G m];rfl
 rw[N];simp only[E,q,oB];obtain⟨q1,q2,q3,q4,q5,q6⟩:=id Z;obtain⟨f1,f2,f3,f4,f5,f6⟩:=q1;obtain⟨L,o⟩:∃L:Nat,f.2.2.1.2.1=(L:Int):=⟨f.2.2.1.2.1.toNat,by omega⟩;have R:a2L f []=f:=by unfold a2L;rw[←G]
 have r:=b8y y ((g+body:Nat):Int) a1Q f q2 q3 o (by omega) L [] [] (a1M B) (by simp) rfl;rw[R]at r;simp only[a22,nZ,a09,a03]at r;have C:=q6.2.2.1;rcases r with⟨t,w,a,S,k2,H,T,U⟩|⟨T,U⟩;rotate_left;rw[o]
 erw[T,U]
 exact⟨a1Q,0,2,rfl,rfl,j,by decide,by decide,fun h=>(by cases h),fun _=>⟨rfl,rfl⟩⟩;rw[o]
 erw[T,U]
 have Q:=y.left H;have h8:=y.eight;have h5:=y.len;have h6:w.length+a.length=(a1M B).length:=by rw[←H];simp
 obtain⟨v,a1,a2,k⟩:=c4E y H;have D:a5J (a2L f t)=some (a5C (a2L f t)).isSome:=c8G (fun s F=>S s F);have p:a4Q (a2L f t)=some (a5C (a2L f t)).isSome:=c4z (fun s F=>S s F);have wl:wrap .i64 (wrap .i64 ((8:Int)*(((rdr w a).1.length:Nat):Int))-(rdr w a).2.1)=(a.length:Int):=by
  show wrap .i64 (wrap .i64 ((8:Int)*(((wL (w++a)).1.length:Nat):Int))-(w.length:Int))=_;rw[a0D (n:=(8:Int)*_) (by omega),a0D (by omega)];omega
 simp only[oB,a2c,a1i,a0F,wl,a1,a2];have V:∀{b:Bool}{X Y:Option (a1K×Int×Int)},b=true→X=Y→(bif b then X else Y)=Y:=fun _ h=>by rw[h];simp
 by_cases hR8:a.length<8
 ·have M:decide ((a.length:Int)≥8)=false:=by simp;omega
  simp only[M,cF];rcases k with k|⟨k,I,K⟩;simp only[a1Z k,cT];exact⟨a1Q,0,2,rfl,rfl,j,by decide,by decide,fun h=>(by cases h),fun _=>⟨rfl,rfl⟩⟩
  ·have l:(v.2.2.1 != (0:Int))=false:=by simpa using k
   have u:wrap .i64 (wrap .i64 ((8:Int)*((v.1.length:Nat):Int))-v.2.1)=0:=by
    rw[I,K,←H,a0D (n:=(8:Int)*_) (by omega),a0D (by omega)];omega
   simp only[l,cF,u,show decide ((0:Int) > 0)=false from rfl,D,p,oB];cases hbo:(a5C (a2L f t)).isSome with
   |false=>
    simp only[a00,cT];exact⟨a1Q,0,2,rfl,rfl,j,by decide,by decide,fun h=>(by cases h),fun _=>⟨rfl,rfl⟩⟩
   |true=>
    simp only[bT,cF,w2];exact⟨a2L f t,_,0,rfl,rfl,S,C,by show t.length≤8;omega,fun _=>⟨hbo,Z,by omega,by omega⟩,fun h=>absurd rfl h⟩
 have M:decide ((a.length:Int)≥8)=true:=by simp;omega
 simp only[M,cT];rcases k with k|⟨k,I,K⟩;simp only[a1Z k,cT];exact⟨a1Q,0,2,rfl,rfl,j,by decide,by decide,fun h=>(by cases h),fun _=>⟨rfl,rfl⟩⟩;have l:(v.2.2.1 != (0:Int))=false:=by simpa using k
 have u:decide (wrap .i64 (wrap .i64 ((8:Int)*((v.1.length:Nat):Int))-v.2.1) > 0)=true:=by
  rw[I,K,←H,a0D (n:=(8:Int)*_) (by omega),a0D (by omega),dT];omega
 simp only[l,cF,u,cT];exact⟨a1Q,0,2,rfl,rfl,j,by decide,by decide,fun h=>(by cases h),fun _=>⟨rfl,rfl⟩⟩
theorem c6A{n:Int}(h:Wf (.int .u8) n):0≤n∧n<256:=by
 have h:(decide (IntKind.min .u8≤n)&&decide (n≤IntKind.max .u8))=true:=h;simp only[bA,dT]at h;have g:IntKind.min .u8=0:=rfl;have f:IntKind.max .u8=255:=rfl;omega
theorem b8c(x:List Int)(hb:∀b∈x,0≤b∧b<256):a7n x=some true:=by
 unfold a7n;simp only[c7U,oB,bT,cF]
 by_cases h7:x.length > 700
 have d:decide (((x.length:Nat):Int) > 700)=true:=by simp;omega
 simp only[d,cT];have d:decide (((x.length:Nat):Int) > 700)=false:=by simp;omega
 obtain⟨f,n,e,p,r2,q,t,u,-,-⟩:=c5E hb (by omega:x.length<100000);obtain⟨g,s,body,h,l,m,r,o⟩:=b6T hb (by omega:x.length<1000000);have j:=b7Z q (by omega) (by omega);have i:∃a b c,a6n x=some (a,b,c,h)∧a6f x=some (a,b,c,h):=by
  unfold a6n a6f;simp only[l,m,oB]
  by_cases he:h=0
  subst he;exact⟨_,_,_,rfl,rfl⟩;have k:(h != (0:Int))=true:=by simpa using he
  obtain⟨rfl,-,-⟩:=o he;simp only[k,cT];exact⟨_,_,_,rfl,rfl⟩
 obtain⟨a,b,c,l1,l2⟩:=i;simp only[d,cF,p,r2,l1,l2,j,oB,cT,beq_self_eq_true]
 erw[b5p]
 rfl
end Go.Ab
namespace Go.Proofs.YtjoohiokfkdfpaaGreatDoor
open Go.Ab Go.ChangeShapes Go.WideShapes Go.ChangeAt Go.RowKit
theorem b3G{α:Type}{f:Nat→Option (α×a0z×List Nat)}:∀(L:List α)(i:Nat),(∀(j:Nat) x,L[j]?=some x→f (i+j)=some (x,[],[]))→a0d f L.length i=some (L,[],[])
 | [],_,_=>rfl
 |a::L,i,h=>by
  have g:=h 0 a rfl;have k:=b3G L (i+1) (fun j x b=>by have:=h (j+1) x (by simpa using b);rw[←this];congr 1;omega);simp only[lC,a0d];simp only[Nat.add_zero]at g;rw[g,k];rfl
section
variable {H:Type} {enc:TypeId×Value→H} {P:Program} {w:World} {base:Nat} {spare:Nat→Bool} {held:Bool}
theorem b9z{k:IntKind}{n:Nat}{t e:TypeId}{fuel:Nat}{cs:List Value}{L:List Int}{p:List MemPlace}(B:P.underlying t=some (.array n e))(u:P.underlying e=some (.int k))(s:P.cellsOf e=1)
  (h:DataW.trod enc P w base spare held fuel t cs=some (.agg (L.map fun i=>.lit (.int k i)),p)):L.length=n∧∀(j:Nat) x,L[j]?=some x→cs[j]?=some (.int k x):=by
 obtain⟨C,m,rfl,b,-,A,a⟩:=DataW.trod_array B h;simp only[pJ,DataW.agg.injEq]at b;have z:L.length=n:=by rw[←A];simpa using congrArg List.length b.1
 refine⟨z,fun j x c=>?_⟩;obtain⟨v,-⟩:=lS.1 c;have g:=a j (by omega);rw[s]at g;obtain⟨y,d⟩:∃y,C[j]?=some y:=⟨_,lG (by omega)⟩;rw[d]at g;obtain⟨i,o,q,-⟩:=DataW.trod_int u g;have f:=congrArg (fun l=>l[j]?) b.1;simp only[List.getElem?_map,c,d,Option.map_some,q]at f;simp only[sj,DataW.lit.injEq,Lit.int.injEq,true_and]at f;subst f;have r:=congrArg (fun l=>l[0]?) o;simpa[List.getElem?_drop,List.getElem?_take]using r
end
def c2Z : String := (Rows.frameMovedRow.laid.map Prod.fst).headD ""
theorem d5j:Tryz.prog.globalNamed c2Z=some 0:=by kernel_rfl
def c6B:TypeId:=((Tryz.prog.globals[0]?).map (·.type)).getD 0
theorem c8b:(Tryz.prog.globals[0]?).map (·.type)=some c6B:=by kernel_rfl
def c6C:TypeId:=match Tryz.prog.underlying c6B with
 |some (.array _ e)=>e
 |_=>0
theorem d5k:Tryz.prog.underlying c6B=some (.array 64 c6C):=by kernel_rfl
theorem d1y:Tryz.prog.underlying c6C=some (.int .u8):=by kernel_rfl
theorem d1z:Tryz.prog.cellsOf c6C=1:=by kernel_rfl
@[reducible] def laidTab:List (String×DataW Unit):=[(c2Z,Rows.laid_math_bits_deBruijn64tab)]

theorem c8M {g:Nat} {t:Ty} {x:t.den} (h:G0 g=some ⟨t,x⟩):g=0∧(⟨t,x⟩:(t:Ty)×t.den)=⟨.arr 64 (.int .u8),b0A⟩:=by
 unfold G0 find at h
 cases g with
 |zero=>exact⟨rfl,(Option.some.inj h).symm⟩
 |succ n=>exact absurd h (by simp[find])
theorem c1C{W:World}(h:laidMetH Tryz.prog laidTab W):∀g t x,G0 g=some ⟨t,x⟩→g<W.heap.size∧dec (a0a W none) t ((Src.at g 0).rd (a0a W none))=some (x,[],[]):=by
 rw[MakeChecks.laidMetH_plain _ _ _ (by kernel_rfl)]at h;obtain⟨ps,⟨r,v,m,q,p0,u,b,c,d,a,_⟩,_,_⟩:=h;obtain rfl:=Option.some.inj (d5j.symm.trans b);obtain rfl:=Option.some.inj (c8b.symm.trans c);have n:(Rows.laid_math_bits_deBruijn64tab:DataW Unit)=.agg (b0A.map fun i=>.lit (.int .u8 i)):=rfl;rw[n]at a;obtain⟨s,p⟩:=b9z d5k d1y d1z a;have k:∀(j:Nat) x,b0A[j]?=some x→W.cell? ⟨0,j,none⟩=some (.int .u8 x):=fun j x l=>by
  rw[World.var?_cell b d j];simpa using p j x l
 intro g t x o;obtain⟨rfl,e⟩:=c8M o;cases e;refine⟨z0m (k 0 0 rfl),?_⟩;exact b3G (f:=fun i=>dec (a0a W none) (.int .u8) fun j=>(Src.at 0 0).rd (a0a W none) (i*1+j)) b0A 0 (fun j x l=>by
  have:=k j x l
  simp only[dec,Src.rd,a0a,Nat.zero_add,Nat.mul_one,Nat.add_zero,this,if_true])
set_option maxRecDepth 100000 in
theorem c6D (os:Os) (args:Array Value):laidMetH Tryz.prog laidTab ((World.doorLaid Tryz.prog 400 os).forCall (fun _ _=>0) ⟨#[],args,[]⟩).memory:=
 laidMetH_of_parts3 (fuel:=8) (laidMet_of_run' 8 (by kernel_rfl) (by kernel_rfl)) (by kernel_rfl) (by kernel_rfl)
end Go.Proofs.YtjoohiokfkdfpaaGreatDoor
