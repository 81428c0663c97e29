/- Part of the proof: QZN. Conditions: as each statement tells. -/
import Derived.KernelRfl
import Derived.Test.YtjoohiokfkdfpaaGreatDoorRows
import Derived.ProofKit
import Derived.LaidMore
import Derived.LaidLaws
import Derived.LaidHandle
import Derived.LaidByTextLater
import Derived.OpenShut
import Derived.Handed
import Derived.Test.YtjoohiokfkdfpaaGreatDoorMG
noncomputable section
set_option linter.unusedSimpArgs false
set_option linter.unusedVariables false
open BitVec renaming ofInt→a06
open Bool renaming and_self→a01,and_eq_false_iff→a09,false_or→a20,not_false→a29,or_eq_false_iff→a31,false_and→a46
open Int renaming cast_ofNat_Int→a02,mul_nonneg→a28,natCast_nonneg→a33,toNat→a38
open List renaming take_succ_eq_append_getElem→a00,replicate→a03,append_eq→a04,length_map→a05,drop_eq_getElem_cons→a07,getElem_mem→a16,all_append→a17,nil_append→a18,drop_eq_nil_of_le→a19,drop_zero→a22,all_cons→a23,take_length→a24,length_take→a25,range_succ→a26,append_nil→a27,take_zero→a30,map_congr_left→a32,mem_singleton→a34,map_nil→a35,all_map→a36,getD→a37,length_drop→a39,drop_length→a40,ext_getElem→a41,range→a44
open Nat renaming le_refl→a08,pow_le_pow_right→a21,two_pow_pos→a42,div_le_self→a43,mod_lt→a45
namespace Go.Ab
open IntKind(wrap)
def inW(x:Int)(v:Nat):Bool:=decide (x=0) || a1P x (v:Int)
theorem c4R{x:Int}{v:Nat}:a1P x (v:Int)=true↔1≤v∧v≤31∧-((2^(v-1):Nat):Int)≤x∧x≤((2^(v-1):Nat):Int)-1:=by
 by_cases hv:1≤v∧v≤31
 have e:((v:Int)-1)=((v-1:Nat):Int):=by omega
 have hp:2^(v-1)≤2^30:=a21 (by omega) (by omega);have a:=a42 (v-1);have g:A0n .i64 1 ((v-1:Nat):Int)=((2^(v-1):Nat):Int):=c3h (by omega);have f:A0n .i64 (-1) ((v-1:Nat):Int)=-((2^(v-1):Nat):Int):=by
  grind[IntKind.bits,A0n,a0G]
 have k:wrap .i64 (((2^(v-1):Nat):Int)-1)=((2^(v-1):Nat):Int)-1:=a0G (by omega);simp only[a1P,e,g,f,k,bA,dT];omega;constructor;intro h;simp[a1P]at h;omega;omega
theorem b7B{x:Int}{v:Nat}:inW x v=true↔x=0∨(1≤v∧v≤31∧-((2^(v-1):Nat):Int)≤x∧x≤((2^(v-1):Nat):Int)-1):=by
 simp_all[inW,c4R]
theorem c4S{x:Int}{v w:Nat}(h:v≤w)(c:w≤31)(g:inW x v=true):inW x w=true:=by
 rw[b7B]at g⊢;rcases g with g|⟨f,k,a,b⟩;omega
 have:2^(v-1)≤2^(w-1):=a21 (by omega) (by omega)
 omega
theorem c4T{x:Int}(h:a0A x=true):inW x 31=true:=by
 have:=a2i.1 h
 rw[b7B];omega
theorem b7T{x:Int}(j:a0A x=true):∀(k w:Nat),w+k=32→w≤31→w≤a1E x k w∧a1E x k w≤31∧inW x (a1E x k w)=true∧∀v,w≤v→inW x v=true→v≤31→a1E x k w≤v
 |0,w,h,g=>absurd g (by omega)
 |k+1,w,h,g=>by
  by_cases hin:inW x w=true
  ·have:a1E x (k+1) w=w:=by
    unfold a1E;cases a:(x != 0)&&!a1P x (w:Int)with
    |false=>rfl
    |true=>
     simp at a;simp_all[inW]
   simp_all
  have a:((x != 0)&&!a1P x (w:Int))=true:=by
   simp_all[inW]
  have i:w≠31:=fun e=>hin (by simp_all[c4T]);have e:a1E x (k+1) w=a1E x k (w+1):=by
   show(bif (x != 0)&&!a1P x (w:Int)then a1E x k (w+1)else w)=_
   grind
  obtain⟨l,b,c,d⟩:=b7T j k (w+1) (by omega) (by omega);rw[e];refine⟨by omega,b,c,fun v hv f g=>d v ?_ f g⟩;rcases Nat.lt_or_ge w v with q|q;exact q
  have:v=w:=by omega
  exact absurd (this▸f) hin
theorem a9t:∀(l:List Int)(w:Nat),l.all a0A=true→w≤31→
  w≤l.foldl (fun w x=>a1E x (32-w) w) w∧l.foldl (fun w x=>a1E x (32-w) w) w≤31∧(∀x∈l,inW x (l.foldl (fun w x=>a1E x (32-w) w) w)=true)∧∀v,w≤v→v≤31→(∀x∈l,inW x v=true)→l.foldl (fun w x=>a1E x (32-w) w) w≤v
 | [],w,_,h31=>⟨a08 _,h31,by simp,fun v hv _ _=>hv⟩
 |x::l,w,h,h31=>by
  rw[a23,bA]at h;obtain⟨i,b,j,m⟩:=b7T h.1 (32-w) w (by omega) h31;obtain⟨c,a,d,e⟩:=a9t l (a1E x (32-w) w) h.2 b;simp only[List.foldl_cons];refine⟨by omega,a,fun y k=>?_,fun v hv f g=>?_⟩
  ·rcases mC.1 k with rfl|k
   all_goals grind[c4S]
  simp_all
theorem c4U{l:List Int}(h:l.all a0A=true):∀x∈l,inW x (a0J l)=true:=(a9t l 0 h (by omega)).2.2.1
theorem c1J{l:List Int}(h:l.all a0A=true){v:Nat}(hv:v≤31)(g:∀x∈l,inW x v=true):a0J l≤v:=(a9t l 0 h (by omega)).2.2.2 v (by omega) hv g
theorem c4V{x:Int}{w v:Nat}(e:w≤30)(k:((2^w:Nat):Int) ∣ x)(h:inW x v=true):inW (A0o .i64 x (w:Int)) v=true:=by
 obtain⟨c,rfl⟩:=k;rw[c0A (by omega)];rw[b7B]at h⊢;have hp:(1:Int)≤((2^w:Nat):Int):=by have:=a42 w;omega
 generalize ((2^w:Nat):Int)=p at h hp;rcases h with h|⟨g,f,b,d⟩
 grind[Int.mul_eq_zero]
 refine .inr ⟨g,f,?_,?_⟩
 by_cases hc:0≤c
 omega;have a:=a28 (show 0≤p-1 by omega) (show 0≤-c by omega)
 grind
 by_cases hc:0≤c
 have a:=a28 (show 0≤p-1 by omega) hc
 grind
 omega
theorem c3w{l:List Int}(k:l.length≤4096)(h:l.all a0A=true):a0J (a0T l)≤a0J l:=by
 obtain⟨-,e,c⟩:=a6X (show short l by unfold short;omega) h;obtain⟨-,f,-,-⟩:=a4i k h;have a:∀x∈l,((2^a1J l:Nat):Int) ∣ x:=by
  rcases c with⟨g,-⟩|⟨-,-,g,-⟩
  all_goals grind[Int.dvd_zero]
 refine c1J f (b0C h) fun y b=>?_
 obtain⟨x,d,rfl⟩:=List.mem_map.1 b
 grind[c4V,c4U]
theorem c3x{l:List Int}(a:1≤l.length)(h:l.length≤4096)(g:l.all a0A=true):a3O (a1e 1 l (cS 1 0 0 [] [])).1 (l.length:Int)=((13+a0J (a0T l)*l.length:Nat):Int):=by
 have b:SmallS (cS 1 0 0 [] []):=a9J (by simp) (by simp);have d:=b3u a h g;obtain⟨a1,-,-,f⟩:=b4x b (k:=1) (l:=l) (by grind);obtain⟨i,c,-⟩:=c0J a1 (by rw[f];rfl);obtain⟨-,-,j,-⟩:=a4i h g;rw[c,d];have e:c0I (a1w (a0O 1 (cS 1 0 0 [] [])) (a1J l) (a0T l) z0 []) i=13+0+a0J (a0T l)*(a0T l).length+0:=rfl;simp_all
theorem c3y{l:List Int}(b:1≤l.length)(f:l.length≤4096)(a:l.all a0A=true)(g:b3r (a0T l)){k:Int}(d:0≤k)(t:k≤3):
  ∃s,a7H (l,k)=some (s,0)∧SmallS s∧a2M s (l.length:Int)=some l∧s=(b1i l (a2v (a0T l) k)).2.2∧a3O s (l.length:Int)=(b1i l (a2v (a0T l) k)).1∧a3O s (l.length:Int)≤((13+a0J l*l.length:Nat):Int)∧
   (∀c∈a2v (a0T l) k,(a1e c.1 l c).2=0→a3O s (l.length:Int)≤a3O (a1e c.1 l c).1 (l.length:Int)):=by
 obtain⟨-,p,u,-⟩:=a4i f a;have hb:=c6q b f a g d t;have j:=c3v b f a (a0T l) k;obtain⟨c,i,q,r,o⟩:=(b7A l (a2v (a0T l) k)).one j;have e:=b3s p (by omega) g k c i;obtain⟨m,-,-,n⟩:=b4x e q;rw[←r]at m n;have h:∀c∈a2v (a0T l) k,(a1e c.1 l c).2=0→a3O (b1i l (a2v (a0T l) k)).2.2 (l.length:Int)≤a3O (a1e c.1 l c).1 (l.length:Int):=fun c i d=>by
  rw[←o];exact((b7A l (a2v (a0T l) k)).least c i d).2
 refine⟨_,hb,m,n,rfl,o.symm,?_,h⟩;have hp:=h (cS 1 0 0 [] []) (by simp[a2v,a1a]) (by rw[show(cS 1 0 0 [] []).1=1 from rfl,b3u b f a]);rw[show(cS 1 0 0 [] []).1=1 from rfl,c3x b f a]at hp
 have:=Nat.mul_le_mul_right l.length (c3w f a)
 omega
def b5H(x:Int):Int:=v0r x (wrap .i64 (0-x))
def a4L(l:List Int):Int:=l.foldl (fun a x=>wrap .i64 (a+b5H x)) 0
theorem b4n(l:List Int)(x:Int):a4L (l++[x])=wrap .i64 (a4L l+b5H x):=by simp[a4L]
theorem c4n{x:Int}(h:a0A x=true):0≤b5H x∧b5H x≤1073741824:=by
 have:=a2i.1 h
 unfold b5H;rw[a0G (by omega)];simp only[v0r]
 grind
theorem b3D:∀(n:Nat)(l:List Int),l.length=n→n≤1000000→l.all a0A=true→0≤a4L l∧a4L l≤1073741824*(n:Int)
 |0,l,h,_,_=>by
  simp_all[a4L]
 |n+1,l,h,hn,hw=>by
  obtain⟨L,b,rfl⟩:∃L b,l=L++[b]:=by
   rcases List.eq_nil_or_concat l with rfl|⟨L,b,e⟩
   all_goals simp_all
  rw[a17,bA]at hw;obtain⟨g,f⟩:=b3D n L (by simp_all) (by omega) hw.1;have hb:=c4n (x:=b) (by simp_all)
  grind[b4n,a0G]
theorem c1K{l:List Int}(h:l.length≤1000000)(g:l.all a0A=true):0≤a4L l:=(b3D _ l rfl h g).1
theorem b2M{r:List Int}{i m:Nat}(h:i<r.length)(g:m≤i):(r.take (i+1)).drop m=(r.take i).drop m++[r[i]]:=by
 grind[a00]
theorem c4W{r:List Int}{o:Nat}(k:o≤4)(a:r.length<100000):a4V (r,(o:Int))=some (a4L (r.drop (4-o))):=by
 have:=a0Q (f:=a1M) (fun i:Nat=>((o:Int),a4L ((r.take i).drop (4-o)),r,(r.length:Int),(i:Int),())) r.length (b:=(a4L (r.drop (4-o)),()))
  (fun i h=>by
   have g:wrap .i64 ((i:Int)+(o:Int))=(i:Int)+(o:Int):=a0G (by omega)
   by_cases hm:4-o≤i
   have d:decide ((i:Int)+(o:Int)≥4)=true:=by grind
   simp only[a1M,dlt h,cT,a0C h,oB,g,d,a0B (show i<1000000 by omega)];rw[b2M h hm,b4n];rfl;have d:decide ((i:Int)+(o:Int)≥4)=false:=by grind
   simp only[a1M,dlt h,cT,a0C h,oB,g,d,cF,a0B (show i<1000000 by omega)]
   grind[a19])
  (by
   have d:decide ((r.length:Int)<(r.length:Int))=false:=by simp
   simp_all[a1M])
 simp at this;unfold a4V;rw[show a4L []=0 from rfl]at this;simp_all
theorem c0K{r:List Int}{m:Nat}(c:m≤4)(i:r.length<100000):a6T (r,(m:Int))=some (a4L (r.drop m)):=by
 have g:v0r (m:Int) 0=(m:Int):=by
  rfl
 unfold a6T
 by_cases hl:m≤r.length
 have:=a0Q (f:=a5Y) (fun j:Nat=>(r,a4L ((r.take (m+j)).drop m),((m+j:Nat):Int),())) (r.length-m) (b:=(a4L (r.drop m),()))
  (fun j a=>by
   have h:m+j<r.length:=by omega
   simp only[a5Y,dlt h,cT,a0C h,oB,b0F,a0B (show m+j<1000000 by omega)];rw[show m+(j+1)=(m+j)+1 from rfl,b2M h (by omega),b4n];rfl)
  (by
   have e:m+(r.length-m)=r.length:=by omega
   rw[e];have d:decide ((r.length:Int)<(r.length:Int))=false:=by simp
   simp_all[a5Y])
 have k:(r.take m).drop m=[]:=a19 (by simp_all);simp at this;rw[show a4L []=0 from rfl]at this;simp_all;have d:decide ((m:Int)<(r.length:Int))=false:=by grind
 rw[g,a0D (b:=((0:Int),())) (by simp only[a5Y,d,cF])];rw[a19 (by omega)];rfl
def a3x(l:List Int)(o:Nat):List Int×Int:=if o≤l.length then(bif (a1D o l).all a0A then(a1D o l,0)else([],6))else([],1)
theorem c4o{l:List Int}{o:Nat}(h:o≤4)(b:l.length<100000)(g:l.all a0A=true):a2O (l,(o:Int))=some (a3x l o):=by
 unfold a3x
 by_cases hn:o≤l.length
 rw[if_pos hn,b0R h hn (by unfold short;omega) g];rw[if_neg hn];have f:decide ((o:Int)<0)=false:=decide_eq_false (by omega);have k:decide ((o:Int) > 4)=false:=decide_eq_false (by omega);have a:decide (((l.length:Nat):Int)<(o:Int))=true:=decide_eq_true (by omega);simp_all[a2O]
theorem c0L{l:List Int}{o:Nat}(h:o≤4)(b:l.length<100000)(g:l.all a0A=true):a2h (l,(o:Int))=some (a3x l o):=by
 unfold a3x
 by_cases hn:o≤l.length
 rw[if_pos hn,b1F h hn (by unfold short;omega) g];rw[if_neg hn];have f:decide ((o:Int)<0)=false:=decide_eq_false (by omega);have k:decide ((o:Int) > 4)=false:=decide_eq_false (by omega);have a:decide (((l.length:Nat):Int)<(o:Int))=true:=decide_eq_true (by omega);simp_all[a2h]
theorem c0M{l:List Int}{o:Nat}(h:(a3x l o).2=0):(a3x l o).1.all a0A=true∧(a3x l o).1.length≤l.length:=by
 unfold a3x at h⊢
 by_cases hn:o≤l.length
 ·rw[if_pos hn]at h⊢;cases hb:(a1D o l).all a0A with
  |false=>simp
  |true=>simp_all[a4k]
 simp_all
theorem c3z{l:List Int}{o:Nat}(g:o≤4)(f:l.length<100000)(k:l.all a0A=true):
  a5K (l,(o:Int))=some (bif (a3x l o).2 != 0 then 0 else a4L ((a3x l o).1.drop (4-o))):=by
 unfold a5K;simp only[c0L g f k,oB];cases hb:((a3x l o).2 != 0)with
 |true=>rfl
 |false=>
  have h:(a3x l o).2=0:=by simp_all
  have e:wrap .i64 ((4:Int)-(o:Int))=((4-o:Nat):Int):=by grind[a0G]
  have:=(c0M h).2
  simp only[cF,e,c0K (show 4-o≤4 by omega) (show(a3x l o).1.length<100000 by omega),oB]
def c8z(a b:Int×Int):Prop:=(a=(0,-1)∧b=(-1,0))∨(a=b∧0≤a.1∧0≤a.2)
theorem b0K{l:List Int}(e:l.length<100000)(m:l.all a0A=true):∀(j i:Nat)(a b:Int×Int),i+j=5→c8z a b→
  ∃x y:Int,y0s a1A (l,a.1,a.2,(i:Int),())=some (x,())∧y0s a2B (l,b.1,b.2,(i:Int),())=some (y,())∧v0r y 0=x
 |0,i,a,b,hi,hR=>by
  obtain rfl:i=5:=by omega
  refine⟨a.1,b.1,a0D (by rfl),a0D (by rfl),?_⟩;rcases hR with⟨rfl,rfl⟩|⟨rfl,B,-⟩;rfl;have d:decide ((0:Int) > a.1)=false:=by simp_all
  simp only[v0r,d,cF]
 |j+1,i,a,b,hi,hR=>by
  have s:i≤4:=by omega
  have w:decide ((i:Int)≤4)=true:=by grind
  have z:decide ((i:Int)<5)=true:=by grind
  have o:=c4o s e m;have p:=c0L s e m;have f:=c3z s e m;have k:wrap .i64 ((i:Int)+1)=((i+1:Nat):Int):=a0B (by omega)
  by_cases h0:(a3x l i).2=0
  ·obtain⟨F,r2⟩:=c0M h0;have g:((a3x l i).2 != 0)=false:=by simp_all
   have c:((a3x l i).2==0)=true:=by simp_all
   have q:=c4W (r:=(a3x l i).1) s (by omega);have h:0≤a4L ((a3x l i).1.drop (4-i)):=c1K (by grind) (lA.2 fun x E=>lA.1 F x (List.mem_of_mem_drop E));rw[g,cF]at f;generalize hv:a4L ((a3x l i).1.drop (4-i))=v at f q h;rcases hR with⟨rfl,rfl⟩|⟨rfl,B,D⟩;obtain⟨x,y,t,u,n⟩:=b0K e m j (i+1) ((i:Int),v) ((i:Int),v) (by omega) (.inr ⟨rfl,by simp,h⟩);have A:decide ((-1:Int)<0)=true:=rfl;simp_all[a0E,a1A,a2B]
   ·have A:decide (a.2<0)=false:=by simp_all
    have C:decide (a.1<0)=false:=by simp_all
    cases hlt:decide (v<a.2)with
    |true=>
     obtain⟨x,y,t,u,n⟩:=b0K e m j (i+1) ((i:Int),v) ((i:Int),v) (by omega) (.inr ⟨rfl,by simp,h⟩);refine⟨x,y,?_,?_,n⟩;rw[a0E (s':=(l,(i:Int),v,((i+1:Nat):Int),())) (by simp_all[a1A])];omega;rw[a0E (s':=(l,(i:Int),v,((i+1:Nat):Int),())) (by simp_all[a2B])];omega
    |false=>
     obtain⟨x,y,t,u,n⟩:=b0K e m j (i+1) a a (by omega) (.inr ⟨rfl,B,D⟩);refine⟨x,y,?_,?_,n⟩;rw[a0E (s':=(l,a.1,a.2,((i+1:Nat):Int),())) (by simp only[a1A,w,cT,o,oB,g,cF,q,A,hlt,k])];omega;rw[a0E (s':=(l,a.1,a.2,((i+1:Nat):Int),())) (by simp only[a2B,z,cT,p,oB,c,f,C,cF,hlt,k])];omega
  have g:((a3x l i).2 != 0)=true:=by simp_all
  have c:((a3x l i).2==0)=false:=by simp_all
  obtain⟨x,y,t,u,n⟩:=b0K e m j (i+1) a b (by omega) hR;refine⟨x,y,?_,?_,n⟩;rw[a0E (s':=(l,a.1,a.2,((i+1:Nat):Int),())) (by simp only[a1A,w,cT,o,oB,g,k])];omega;rw[a0E (s':=(l,b.1,b.2,((i+1:Nat):Int),())) (by simp only[a2B,z,cT,p,oB,c,f,cF,k])];omega
theorem b6O{l:List Int}(h:l.length<100000)(g:l.all a0A=true):∃o,a3z l=some o∧a5l l=some o:=by
 obtain⟨x,y,f,k,a⟩:=b0K h g 5 0 (0,-1) (-1,0) rfl (.inl ⟨rfl,rfl⟩);simp_all[a3z,a5l]
def b6P(c:List Int)(k:Int)(j:Nat):Int:=wrap .i64 (c.getD j 0-A0o .i64 (wrap .i64 (k*c.getD (c.length-1-j) 0)) 14)
def a2J(c:List Int)(k:Int)(j:Nat):List Int:=(a44 j).map (b6P c k)
theorem b5a(c:List Int)(k:Int)(j:Nat):a2J c k (j+1)=a2J c k j++[b6P c k j]:=by simp[a2J,a26]
theorem a5a(c:List Int)(k:Int)(j:Nat):(a2J c k j).length=j:=by simp[a2J]
def b4o(c:List Int)(k:Int):List Int:=a2J c k c.length++[k]
def a6i(ks:List Int)(i:Nat):List Int:=(ks.take i).foldl b4o []
theorem b2A{ks:List Int}{i:Nat}(h:i<ks.length):a6i ks (i+1)=b4o (a6i ks i) ks[i]:=by
 unfold a6i;rw[a00 h,List.foldl_append];rfl
theorem b0T{ks:List Int}:∀i,i≤ks.length→(a6i ks i).length=i
 |0,_=>rfl
 |i+1,h=>by
  rw[b2A (by omega),b4o,lN,a5a,b0T i (by omega)];rfl
def a7S(x:Int):Bool:=decide (-16383≤x)&&decide (x≤16383)
theorem b1H{ks:List Int}(a:ks.length≤32):y0s a0Y (ks,ks,(ks.length:Int),(0:Int),())=some (bif ks.all a7S then .inl (ks,())else .inr (([]:List Int),(1:Int),())):=by
 refine a1y (f:=a0Y) ks (fun i=>(ks,ks,(ks.length:Int),(i:Int),())) a7S (bt:=.inl (ks,())) (bf:=.inr (([]:List Int),(1:Int),())) (fun i h hp=>?_) (fun i h hp=>?_) (by simp[a0Y]);simp only[a7S,bA,dT]at hp;have g:decide (ks[i]<(-16383:Int))=false:=by simp;omega
 have k:decide (ks[i] > (16383:Int))=false:=by simp;omega
 simp only[a0Y,dlt h,cT,cF,a0C h,oB,g,k,a0B (show i<1000000 by omega)]
 ·simp only[a7S,a09,decide_eq_false_iff_not]at hp;cases g:decide (ks[i]<(-16383:Int))with
  |true=>simp only[a0Y,dlt h,cT,a0C h,oB,g]
  |false=>
   have k:decide (ks[i] > (16383:Int))=true:=by simp at g⊢;omega
   simp only[a0Y,dlt h,cT,cF,a0C h,oB,g,k]
theorem b2j{ks:List Int}(a:ks.length≤32):y0s a1N (ks,(0:Int),())=some (bif ks.all a7S then .inl (ks,())else .inr ((1:Int),([]:List Int),())):=by
 refine a1y (f:=a1N) ks (fun i=>(ks,(i:Int),())) a7S (bt:=.inl (ks,())) (bf:=.inr ((1:Int),([]:List Int),())) (fun i h hp=>?_) (fun i h hp=>?_) (by simp[a1N]);simp only[a7S,bA,dT]at hp;have g:decide (ks[i]≤(-16384:Int))=false:=by simp;omega
 have k:decide (ks[i]≥(16384:Int))=false:=by simp;omega
 simp only[a1N,dlt h,cT,cF,a0C h,oB,g,k,a0B (show i<1000000 by omega)]
 ·simp only[a7S,a09,decide_eq_false_iff_not]at hp;cases g:decide (ks[i]≤(-16384:Int))with
  |true=>simp only[a1N,dlt h,cT,a0C h,oB,g]
  |false=>
   have k:decide (ks[i]≥(16384:Int))=true:=by simp at g⊢;omega
   simp only[a1N,dlt h,cT,cF,a0C h,oB,g,k]
theorem a6A{l:List Int}{i:Nat}(h:i<l.length):l[i]=l.getD i 0:=by simp[lD,h]
theorem b5I{c a:List Int}{k n:Int}(i:c.length≤32):
  y0s a1G (c,(c.length:Int),k,a,n,(c.length:Int),c,(c.length:Int),(0:Int),([]:List Int),())=some (k,a,n,(c.length:Int),a2J c k c.length,()):=by
 have:=a0Q (f:=a1G) (fun j:Nat=>(c,(c.length:Int),k,a,n,(c.length:Int),c,(c.length:Int),(j:Int),a2J c k j,())) c.length (b:=(k,a,n,(c.length:Int),a2J c k c.length,()))
  (fun j g=>by
   have d:wrap .i64 ((c.length:Int)-1)=(c.length:Int)-1:=a0G (by omega);have e:wrap .i64 ((c.length:Int)-1-(j:Int))=((c.length-1-j:Nat):Int):=by rw[a0G (by omega)];omega
   have h:lim ((a2J c k j).length+1)=true:=a0I (by rw[a5a];omega);simp only[a1G,dlt g,cT,a0C g,oB,d,e,a0C (show c.length-1-j<c.length by omega),h,a0B (show j<1000000 by omega),a04,b5a];rw[a6A g,a6A (show c.length-1-j<c.length by omega)];rfl)
  (by simp[a1G])
 exact this
theorem b5J{A B:List Int}{x y:Int}:(A++x::B).set A.length y=A++y::B:=by simp
theorem b6Q{c ks:List Int}(p:c.length≤32)(o:c.length<ks.length):
  y0s a2R (ks,(c.length:Int),(0:Int),c,c,())=some (ks,(c.length:Int),a2J c ks[c.length] c.length,()):=by
 have:=a0Q (f:=a2R) (fun j:Nat=>(ks,(c.length:Int),(j:Int),a2J c ks[c.length] j++c.drop j,c,())) c.length (b:=(ks,(c.length:Int),a2J c ks[c.length] c.length,()))
  (fun j k=>by
   have m:wrap .i64 ((c.length:Int)-1)=(c.length:Int)-1:=a0G (by omega);have n:wrap .i64 ((c.length:Int)-1-(j:Int))=((c.length-1-j:Nat):Int):=by rw[a0G (by omega)];omega
   have a:decide ((0:Int)≤(j:Int))=true:=by simp
   have e:decide ((0:Int)≤((c.length-1-j:Nat):Int))=true:=by simp
   have i:decide (((c.length-1-j:Nat):Int)<(c.length:Int))=true:=by simp;omega
   have h:(a2J c ks[c.length] j++c.drop j).length=c.length:=by rw[lN,a5a,a39];omega
   have l:decide ((j:Int)<(((a2J c ks[c.length] j++c.drop j).length:Nat):Int))=true:=by rw[h];exact dlt k
   have g:(a2J c ks[c.length] j++c.drop j).set j (b6P c ks[c.length] j)=a2J c ks[c.length] (j+1)++c.drop (j+1):=by
    rw[a07 k,b5a]
    have:=b5J (A:=a2J c ks[c.length] j) (B:=c.drop (j+1)) (x:=c[j]) (y:=b6P c ks[c.length] j)
    rw[a5a]at this;rw[this]
    simp
   simp only[a2R,dlt k,a,cT,a01,a0C o,oB,m,n,e,i,l,tN,a0B (show j<1000000 by omega)];rw[←g];rfl)
  (by
   have d:decide ((c.length:Int)<(c.length:Int))=false:=by simp
   simp only[a2R,d,cF,a40,a27])
 simp only[nZ,a22,a02]at this;exact this
theorem c3A{ks:List Int}(t:1≤ks.length)(m:ks.length≤32):∃r,a3p ks=some r∧a3W ks=some r:=by
 have j:decide (((ks.length:Nat):Int)<1)=false:=decide_eq_false (by omega);have l:decide (((ks.length:Nat):Int) > 32)=false:=decide_eq_false (by omega);cases hall:ks.all a7S with
 |false=>
  refine⟨([],1),?_,?_⟩;unfold a3p;simp only[j,l,cF,oB,b1H m,hall];unfold a3W;simp only[j,l,cF,oB,b2j m,hall]
 |true=>
  have s:=a0Q (f:=a2f) (fun i:Nat=>(a6i ks i,ks,(ks.length:Int),(i:Int),())) ks.length (b:=(a6i ks ks.length,()))
   (fun i d=>by
    have h:=b0T i (Nat.le_of_lt d);have p:wrap .i64 ((i:Int)+1)=((i+1:Nat):Int):=a0B (by omega);have o:decide ((0:Int)≤((i+1:Nat):Int))=true:=by simp;omega
    have l1:lim (i+1)=true:=a0I (by omega);have g:=b5I (c:=a6i ks i) (a:=ks) (k:=ks[i]) (n:=(ks.length:Int)) (by omega);have l2:lim ((a2J (a6i ks i) ks[i] i).length+1)=true:=a0I (by rw[a5a];omega);rw[h]at g;simp only[a2f,dlt d,cT,a0C d,oB,p,o,tN,l1,a01,h,g,l2,a04,b2A d,b4o])
   (by simp[a2f])
  have r2:=a0Q (f:=a4f) (fun i:Nat=>(ks,(i:Int),a6i ks i,())) ks.length (b:=(a6i ks ks.length,()))
   (fun i d=>by
    have h:=b0T i (Nat.le_of_lt d);have q:lim (0+i)=true:=a0I (by omega);have g:=b6Q (c:=a6i ks i) (ks:=ks) (by omega) (by omega);simp only[h]at g;have l2:lim ((a2J (a6i ks i) ks[i] i).length+1)=true:=a0I (by rw[a5a];omega);simp only[a4f,dlt d,cT,q,a04,a18,g,oB,a0C d,l2,a0B (show i<1000000 by omega),b2A d,b4o,h])
   (by simp[a4f])
  refine⟨(a6i ks ks.length,0),?_,?_⟩;unfold a3p;simp only[j,l,cF,oB,b1H m,hall,cT];exact(congrArg (fun z=>Option.bind z fun e=>some (e.1,(0:Int))) s).trans rfl;unfold a3W;simp only[j,l,cF,oB,b2j m,hall,cT];exact(congrArg (fun z=>Option.bind z fun e=>some (e.1,(0:Int))) r2).trans rfl
def a7T(x:Int):Bool:=decide (-35184372088832≤x)&&decide (x≤35184372088832)
@[reducible] def d1G:Type:=Int×(Int×((List Int)×Unit))
def c3B:d1G:=((0:Int),(1:Int),([]:List Int),())
theorem b5K{c:List Int}{w:Int}(a:c.length≤32):y0s a0Z (c,w,c,(c.length:Int),(0:Int),())=some (bif c.all a7T then .inl (c,w,())else .inr c3B):=by
 refine a1y (f:=a0Z) c (fun i=>(c,w,c,(c.length:Int),(i:Int),())) a7T (bt:=.inl (c,w,())) (bf:=.inr c3B) (fun i h hp=>?_) (fun i h hp=>?_) (by simp[a0Z]);simp[a7T]at hp;have g:decide (c[i]<(-35184372088832:Int))=false:=by simp_all
 have k:decide (c[i] > (35184372088832:Int))=false:=by simp_all
 simp only[a0Z,dlt h,cT,cF,a0C h,oB,g,k,a0B (show i<1000000 by omega)]
 ·simp only[a7T,a09,decide_eq_false_iff_not]at hp;cases g:decide (c[i]<(-35184372088832:Int))with
  |true=>simp only[a0Z,dlt h,cT,a0C h,oB,g];rfl
  |false=>
   have k:decide (c[i] > (35184372088832:Int))=true:=by grind
   simp only[a0Z,dlt h,cT,cF,a0C h,oB,g,k];rfl
theorem b6R{c:List Int}{w:Int}(a:c.length≤32):y0s a1O (c,w,(0:Int),())=some (bif c.all a7T then .inl (c,w,())else .inr c3B):=by
 refine a1y (f:=a1O) c (fun i=>(c,w,(i:Int),())) a7T (bt:=.inl (c,w,())) (bf:=.inr c3B) (fun i h hp=>?_) (fun i h hp=>?_) (by simp[a1O]);simp[a7T]at hp;have g:decide (c[i]<(-35184372088832:Int))=false:=by simp_all
 have k:decide (c[i] > (35184372088832:Int))=false:=by simp_all
 simp only[a1O,dlt h,cT,cF,a0C h,oB,g,k,a0B (show i<1000000 by omega)]
 ·simp only[a7T,a09,decide_eq_false_iff_not]at hp;cases g:decide (c[i]<(-35184372088832:Int))with
  |true=>simp only[a1O,dlt h,cT,a0C h,oB,g];rfl
  |false=>
   have k:decide (c[i] > (35184372088832:Int))=true:=by grind
   simp only[a1O,dlt h,cT,cF,a0C h,oB,g,k];rfl
def a5H(s:Nat)(half x:Int):Int:=A0o .i64 (wrap .i64 (x+half)) (s:Int)
theorem b1I{c:List Int}{w s:Nat}{half:Int}(l:c.length≤32)(d:w≤32):∀(m j:Nat),j+m=c.length→
  ∃a:List Int,y0s a1j (c,(w:Int),(s:Int),half,c,(c.length:Int),(j:Int),(c.take j).map (a5H s half),())=some (c,(w:Int),(s:Int),a,())∧
   ((c.drop j).all (fun x=>a1P (a5H s half x) (w:Int))=true→a=c.map (a5H s half))∧((c.drop j).all (fun x=>a1P (a5H s half x) (w:Int))=false→a.length≠c.length)
 |0,j,hj=>by
  obtain rfl:j=c.length:=by omega
  simp_all[a0D,a1j]
 |m+1,j,hj=>by
  have f:j<c.length:=by omega
  have b:decide ((s:Int)<0)=false:=by simp
  have g:a4T (A0o .i64 (wrap .i64 (c[j]+half)) (s:Int),(w:Int))=some (a1P (a5H s half c[j]) (w:Int)):=a6g d;rw[a07 f,a23];cases hf:a1P (a5H s half c[j]) (w:Int)with
  |false=>
   rw[hf]at g;refine⟨(c.take j).map (a5H s half),a0D (by simp only[a1j,dlt f,cT,a0C f,oB,b,cF,g,a29]),fun h=>(by grind),fun _=>?_⟩
   grind
  |true=>
   rw[hf]at g;have k:lim (((c.take j).map (a5H s half)).length+1)=true:=a0I (by grind);obtain⟨a,n,e,i⟩:=b1I (s:=s) (half:=half) l d m (j+1) (by omega);refine⟨a,?_,fun h=>e (by simp_all),fun h=>i (by simp_all)⟩;rw[a0E (s':=(c,(w:Int),(s:Int),half,c,(c.length:Int),((j+1:Nat):Int),(c.take (j+1)).map (a5H s half),())) (by
    simp only[a1j,dlt f,cT,a0C f,oB,b,cF,g,bT,k,a04,a0B (show j<1000000 by omega)];rw[a00 f,pA];rfl)]
   omega
theorem b6S{c:List Int}{w s:Nat}{half:Int}(m:c.length≤32)(l:w≤32)(n:s≤14):
  y0s a2a (c,(w:Int),(s:Int),half,true,(0:Int),([]:List Int),())=some (c,(w:Int),(s:Int),c.all (fun x=>a1P (a5H s half x) (w:Int)),c.map (a5H s half),()):=by
 have i:wrap .u64 (s:Int)=(s:Int):=a1c (by omega);have a:decide ((s:Int)<0)=false:=by simp
 have:=a0Q (f:=a2a) (fun j:Nat=>(c,(w:Int),(s:Int),half,(c.take j).all (fun x=>a1P (a5H s half x) (w:Int)),(j:Int),(c.take j).map (a5H s half),())) c.length
  (b:=(c,(w:Int),(s:Int),c.all (fun x=>a1P (a5H s half x) (w:Int)),c.map (a5H s half),()))
  (fun j k=>by
   have g:a8D (A0o .i64 (wrap .i64 (c[j]+half)) (s:Int),(w:Int))=some (a1P (a5H s half c[j]) (w:Int)):=b2u l;have h:lim (((c.take j).map (a5H s half)).length+1)=true:=a0I (by grind);have e:c.take (j+1)=c.take j++[c[j]]:=a00 k;cases ha:(c.take j).all (fun x=>a1P (a5H s half x) (w:Int))with
   |true=>
    simp only[a2a,dlt k,cT,a0C k,oB,i,a,cF,h,ha,g,a04,a0B (show j<1000000 by omega),e,a17,pA,Bool.true_and,a23,List.all_nil,Bool.and_true];rfl
   |false=>
    simp only[a2a,dlt k,cT,a0C k,oB,i,a,cF,h,ha,a04,a0B (show j<1000000 by omega),e,a17,pA,a46];rfl)
  (by
   have d:decide ((c.length:Int)<(c.length:Int))=false:=by simp
   simp_all[a2a])
 simp_all
theorem b6T{c:List Int}{w:Nat}(k:c.length≤32)(i:w≤32):∀(m s:Nat),s+m=15→
  ∃b,y0s a1v (c,(w:Int),(s:Int),())=some b∧y0s a2S (c,(w:Int),(s:Int),())=some b
 |0,s,hs=>by
  obtain rfl:s=15:=by omega
  simp_all[a0D,a1v,a2S]
 |m+1,s,hs=>by
  have d:decide ((s:Int)≤14)=true:=by grind
  have r:decide ((0:Int)≤(c.length:Int))=true:=by simp
  have B:lim c.length=true:=a0I (by omega);have p:wrap .i64 ((s:Int)+1)=((s+1:Nat):Int):=a0B (by omega);obtain⟨half,hp,o⟩:∃half:Int,
    ((show Option ((List Int)×(Int×Int×Int×Unit))from
     bif decide ((s:Int) > (0:Int))then(
     bif decide ((wrap .i64 ((s:Int)-(1:Int)))<0)then none
     else some (c,(w:Int),(s:Int),A0n .i64 (1:Int) (wrap .i64 ((s:Int)-(1:Int))),()))
     else some (c,(w:Int),(s:Int),(0:Int),()))=some (c,(w:Int),(s:Int),half,()))∧
    ((show Option ((List Int)×(Int×Int×Int×Unit))from
     bif decide ((s:Int) > (0:Int))then(
     bif decide ((wrap .u64 (wrap .i64 ((s:Int)-(1:Int))))<0)then none
     else some (c,(w:Int),(s:Int),A0n .i64 (1:Int) (wrap .u64 (wrap .i64 ((s:Int)-(1:Int)))),()))
     else some (c,(w:Int),(s:Int),(0:Int),()))=some (c,(w:Int),(s:Int),half,())):=by
   by_cases h0:s=0
   simp_all;have t:decide ((s:Int) > 0)=true:=by grind
   have u:wrap .i64 ((s:Int)-1)=(s:Int)-1:=a0G (by omega);have v:wrap .u64 ((s:Int)-1)=(s:Int)-1:=a1c (by omega);have y:decide ((s:Int)-1<0)=false:=by grind
   exact⟨A0n .i64 1 ((s:Int)-1),by grind,by grind⟩
  obtain⟨q,n,j,l⟩:=b1I (c:=c) (w:=w) (s:=s) (half:=half) k i c.length 0 (by omega);simp only[nZ,a30,a35,a22,a02]at n j l;have f:=b6S (c:=c) (w:=w) (s:=s) (half:=half) k i (by omega);have a:=hp;have e:=o;simp only[]at a e;cases hall:c.all (fun x=>a1P (a5H s half x) (w:Int))with
  |true=>
   have g:=j hall;subst g;rw[hall]at f;have h:((((c.map (a5H s half)).length:Nat):Int)==(c.length:Int))=true:=by simp
   refine⟨.inr (wrap .i64 ((14:Int)-(s:Int)),(0:Int),c.map (a5H s half),()),a0D ?_,a0D ?_⟩
   all_goals simp_all[a1v,a2S]
  |false=>
   have g:=l hall;rw[hall]at f;have h:(((q.length:Nat):Int)==(c.length:Int))=false:=by grind
   obtain⟨b,z,A⟩:=b6T k i m (s+1) (by omega);refine⟨b,?_,?_⟩;rw[a0E (s':=(c,(w:Int),((s+1:Nat):Int),())) (by
    simp only[a1v,d,cT]
    grind)]
   omega;rw[a0E (s':=(c,(w:Int),((s+1:Nat):Int),())) (by
    simp_all[a2S])]
   omega
theorem c3C{c:List Int}{w:Nat}(j:1≤c.length)(h:c.length≤32)(l:2≤w∧w≤16):∃r,a4p (c,(w:Int))=some r∧a5L (c,(w:Int))=some r:=by
 have f:decide (((c.length:Nat):Int)<1)=false:=decide_eq_false (by omega);have k:decide (((c.length:Nat):Int) > 32)=false:=decide_eq_false (by omega);have a:decide ((w:Int)<2)=false:=decide_eq_false (by omega);have d:decide ((w:Int) > 16)=false:=decide_eq_false (by omega);have hp:=b5K (c:=c) (w:=(w:Int)) h;have g:=b6R (c:=c) (w:=(w:Int)) h;obtain⟨b,e,i⟩:=b6T (c:=c) (w:=w) h (by omega) 15 0 rfl;simp at e i;unfold a4p a5L;cases hall:c.all a7T with
 |false=>
  rw[hall]at hp g;refine⟨([],0,1),?_,?_⟩;simp only[f,k,a,d,cF,oB,hp];rfl;simp only[f,k,a,d,cF,oB,g];rfl
 |true=>
  rw[hall]at hp g;cases b with
  |inl u=>
   refine⟨([],0,6),?_,?_⟩
   all_goals grind
  |inr b=>
   refine⟨(b.2.2.1,b.1,b.2.1),?_,?_⟩
   all_goals grind
def f20(x:Int):Bool:=decide (-1048576≤x)&&decide (x≤1048575)
theorem b2N{x:Int}:f20 x=true↔-1048576≤x∧x≤1048575:=by simp[f20]
theorem b5L(x:Int):(v0s (v0r x (-1048576)) 1048575==x)=f20 x:=by
 rw[Bool.eq_iff_iff,beq_iff_eq,b2N];unfold v0s v0r;cases h:decide ((-1048576:Int) > x)with
 |true=>
  have h:x < -1048576:=by simpa using h
  show(-1048576:Int)=x↔_;omega
 |false=>
  have h:¬ x < -1048576:=by simpa using h
  simp only[cF];cases g:decide ((1048575:Int)<x)with
  |true=>
   have g:1048575<x:=by simpa using g
   show(1048575:Int)=x↔_;omega
  |false=>
   have g:¬ 1048575<x:=by simpa using g
   show x=x↔_;simp only[true_iff];omega
theorem b4p(x:Int){s:Nat}(h:s≤64):A0o .i64 x (s:Int)=x / ((2^s:Nat):Int):=by
 show Int.fdiv x (2^(min (s:Int).toNat 64))=_;rw[tN,Nat.min_eq_left h,Int.fdiv_eq_ediv_of_nonneg _ (Int.le_of_lt (Int.pow_pos (by decide)))]
 simp
theorem c1X(x:Int){s:Nat}(f:s≤63):A0o .i64 (A0o .i64 x (s:Int)) 1=A0o .i64 x ((s+1:Nat):Int):=by
 have g:A0o .i64 (A0o .i64 x (s:Int)) ((1:Nat):Int)=A0o .i64 x (s:Int) / ((2^1:Nat):Int):=b4p _ (by omega);have h:A0o .i64 (A0o .i64 x (s:Int)) 1=A0o .i64 x (s:Int) / ((2^1:Nat):Int):=g;rw[h,b4p x (by omega),b4p x (by omega),Int.ediv_ediv_of_nonneg (a33 _),←Int.natCast_mul,←Nat.pow_succ]
theorem c4X{x:Int}(h:f20 x=true):f20 (A0o .i64 x 1)=true:=by
 have e:A0o .i64 x 1=x / ((2^1:Nat):Int):=b4p x (s:=1) (by omega);rw[b2N]at h⊢;rw[e];omega
theorem c0N{x:Int}{s:Nat}:∀(d:Nat),s+d≤60→f20 (A0o .i64 x (s:Int))=true→f20 (A0o .i64 x ((s+d:Nat):Int))=true
 |0,_,h=>h
 |d+1,hd,h=>by
  have:=c4X (c0N d (by omega) h)
  rw[c1X x (by omega)]at this;exact this
def b0L(l:List Int)(s:Nat):Prop:=s≤10∧(∀x∈l,f20 (A0o .i64 x (s:Int))=true)∧∀t,t<s→∃x∈l,f20 (A0o .i64 x (t:Int))=false
theorem c4p{l:List Int}{s s':Nat}(h:b0L l s)(a:b0L l s'):s=s':=by
 rcases Nat.lt_trichotomy s s' with g|g|g;obtain⟨x,k,f⟩:=a.2.2 s g;rw[h.2.1 x k]at f;cases f;exact g;obtain⟨x,k,f⟩:=h.2.2 s' g;rw[a.2.1 x k]at f;cases f
theorem b2O{x:Int}(c:a0A x=true){a l:List Int}{n i:Int}:∀(k s:Nat),s+k=10→
  ∃s':Nat,s≤s'∧s'≤10∧f20 (A0o .i64 x (s':Int))=true∧(∀t,s≤t→t<s'→f20 (A0o .i64 x (t:Int))=false)∧
   y0s a1L (a,(s:Int),x,l,n,i,())=some (a,(s':Int),l,n,i,())
 |k,s,hk=>by
  have f:decide ((s:Int)<0)=false:=by simp
  cases hf:f20 (A0o .i64 x (s:Int))with
  |true=>
   refine⟨s,a08 _,by omega,hf,fun t d b=>by omega,a0D ?_⟩;have h:(v0s (v0r (A0o .i64 x (s:Int)) (-1048576)) 1048575 != A0o .i64 x (s:Int))=false:=by
    rw[bne,b5L,hf];rfl
   simp only[a1L,f,cF,a1I,oB,h]
  |false=>
   cases k with
   |zero=>
    obtain rfl:s=10:=by omega
    have:=b9c c
    rw[b2N.2 this]at hf;cases hf
   |succ k=>
    obtain⟨s',d,b,j,m,o⟩:=b2O c (a:=a) (l:=l) (n:=n) (i:=i) k (s+1) (by omega);refine⟨s',by omega,b,j,fun t p g=>?_,?_⟩
    by_cases e:t=s
    subst e;exact hf;exact m t (by omega) g;have h:(v0s (v0r (A0o .i64 x (s:Int)) (-1048576)) 1048575 != A0o .i64 x (s:Int))=true:=by
     rw[bne,b5L,hf];rfl
    rw[a0E (s':=(a,((s+1:Nat):Int),x,l,n,i,())) (by
     simp only[a1L,f,cF,a1I,oB,h,cT,a0B (show s<1000000 by omega)])]
    exact o
theorem c1L{l:List Int}(M:l.all a0A=true)(P:l.length<100000):∃s,b0L l s∧a2Q l=some (l.map fun x=>A0o .i64 x (s:Int)):=by
 have p:∀(m i s:Nat),i+m=l.length→b0L (l.take i) s→∃s',b0L l s'∧y0s a1V (l,(s:Int),l,(l.length:Int),(i:Int),())=some (l,(s':Int),()):=by
  intro m
  induction m with
  |zero=>
   intro i s e d;obtain rfl:i=l.length:=by omega
   rw[a24]at d;exact⟨s,d,a0D (by simp[a1V])⟩
  |succ m ih=>
   intro i s e d;have g:i<l.length:=by omega
   obtain⟨s',r,q,H,I,K⟩:=b2O (lA.1 M l[i] (a16 g)) (a:=l) (l:=l) (n:=(l.length:Int)) (i:=(i:Int)) (10-s) s (by have:=d.1;omega);have u:b0L (l.take (i+1)) s':=by
    rw[a00 g];refine⟨q,fun x k=>?_,fun t v=>?_⟩;rcases mA.1 k with k|k
    have:=c0N (s'-s) (by omega) (d.2.1 x k)
    rwa [Nat.add_sub_cancel' r]at this
    rw[a34.1 k];exact H
    by_cases hts:t<s
    obtain⟨x,k,L⟩:=d.2.2 t hts;exact⟨x,List.mem_append_left _ k,L⟩;exact⟨l[i],List.mem_append_right _ (a34.2 rfl),I t (by omega) v⟩
   obtain⟨O,F,G⟩:=ih (i+1) s' (by omega) u;refine⟨O,F,?_⟩;rw[a0E (s':=(l,(s':Int),l,(l.length:Int),((i+1:Nat):Int),())) (by
    simp only[a1V,dlt g,cT,a0C g,oB,K,a0B (show i<1000000 by omega)])]
   exact G
 obtain⟨s,r,q⟩:=p l.length 0 0 (by omega) ⟨by omega,fun x k=>by simp at k,fun t v=>by omega⟩;simp only[nZ,a02]at q;refine⟨s,r,?_⟩;have w:decide ((0:Int)≤(l.length:Int))=true:=by simp
 have z:decide ((l.length:Int)≤(l.length:Int))=true:=by simp
 have N:lim l.length=true:=a0I (by omega);have h:=a0Q (f:=a1W) (fun i:Nat=>((s:Int),l,(l.length:Int),(i:Int),(l.take i).map (fun x=>A0o .i64 x (s:Int))++a03 (l.length-i) 0,())) l.length (b:=(l.map (fun x=>A0o .i64 x (s:Int)),()))
  (fun i e=>by
   have C:decide ((s:Int)<0)=false:=by simp
   have D:decide ((0:Int)≤(i:Int))=true:=by simp
   have E:decide ((i:Int)<((((l.take i).map (fun x=>A0o .i64 x (s:Int))++a03 (l.length-i) 0).length:Nat):Int))=true:=by
    rw[lN,a05,a25,List.length_replicate];simp;omega
   have j:((l.take i).map (fun x=>A0o .i64 x (s:Int))).length=i:=by rw[a05,a25];omega
   have c:=b5J (A:=(l.take i).map (fun x=>A0o .i64 x (s:Int))) (B:=a03 (l.length-(i+1)) 0) (x:=0) (y:=A0o .i64 l[i] (s:Int));rw[j]at c;have o:a03 (l.length-i) (0:Int)=0::a03 (l.length-(i+1)) 0:=by rw[←List.replicate_succ];congr 1;omega
   simp only[a1W,dlt e,cT,a0C e,oB,C,cF,D,E,a01,tN,a0B (show i<1000000 by omega)];rw[o,c,a00 e,pA,aA];rfl)
  (by simp[a1W])
 simp only[nZ,a30,a35,a18,Nat.sub_zero,a02]at h;unfold a2Q;simp only[q,oB,w,z,tN,N,a01,cT,h]
theorem c4q(P:List Int)(b:Int)(R:List Int):(P++b::R).getD P.length 0=b:=by
 simp[lD]
theorem b1J{l:List Int}(c:l.length<100000):y0s a3K (true,(0:Int),l,())=some (l.all f20,l,()):=by
 have:=a0Q (f:=a3K) (fun i:Nat=>((l.take i).all f20,(i:Int),l,())) l.length (b:=(l.all f20,l,()))
  (fun i h=>by
   have k:decide ((0:Int)≤(i:Int))=true:=by simp
   have g:l.take (i+1)=l.take i++[l[i]]:=a00 h;have a:l.getD i 0=l[i]:=(a6A h).symm;cases ha:(l.take i).all f20 with
   |true=>
    simp only[a3K,dlt h,cT,ha,k,a01,tN,a7J,oB,a0B (show i<1000000 by omega),a,b5L,g,a17,Bool.true_and,a23,List.all_nil,Bool.and_true]
   |false=>
    simp only[a3K,dlt h,cT,ha,cF,a0B (show i<1000000 by omega),g,a17,a46])
  (by
   have d:decide ((l.length:Int)<(l.length:Int))=false:=by simp
   simp only[a3K,d,cF,a24])
 exact this
theorem b5M{l:List Int}(m:l.length<100000):y0s a5m ((0:Int),l,())=some (l.map (fun x=>A0o .i64 x 1),()):=by
 have:=a0Q (f:=a5m) (fun i:Nat=>((i:Int),(l.take i).map (fun x=>A0o .i64 x 1)++l.drop i,())) l.length (b:=(l.map (fun x=>A0o .i64 x 1),()))
  (fun i c=>by
   have j:decide ((0:Int)≤(i:Int))=true:=by simp
   have h:((l.take i).map (fun x=>A0o .i64 x 1)).length=i:=by rw[a05,a25];omega
   have k:((l.take i).map (fun x=>A0o .i64 x 1)++l.drop i).length=l.length:=by rw[lN,h,a39];omega
   have g:=b5J (A:=(l.take i).map (fun x=>A0o .i64 x 1)) (B:=l.drop (i+1)) (x:=l[i]) (y:=A0o .i64 l[i] 1);rw[h]at g;have a:((l.take i).map (fun x=>A0o .i64 x 1)++l.drop i).getD i 0=l[i]:=by
    rw[a07 c]
    have:=c4q ((l.take i).map (fun x=>A0o .i64 x 1)) l[i] (l.drop (i+1))
    rwa [h]at this
   have e:decide ((i:Int)<((((l.take i).map (fun x=>A0o .i64 x 1)++l.drop i).length:Nat):Int))=true:=by rw[k];exact dlt c
   simp only[a5m,e,cT,j,a01,tN,a,a0B (show i<1000000 by omega)];rw[a07 c,g,a00 c,pA,aA];rfl)
  (by
   have d:decide ((l.length:Int)<(l.length:Int))=false:=by simp
   simp only[a5m,a24,a40,a27,a05,d,cF])
 simp only[nZ,a30,a35,a18,a22,a02]at this;exact this
theorem c3D{l:List Int}(q:l.all a0A=true)(o:l.length<100000):∃s,b0L l s∧a5Z l=some (l.map fun x=>A0o .i64 x (s:Int)):=by
 have d:∀(m k:Nat),k+m=10→(∀t,t<k→∃x∈l,f20 (A0o .i64 x (t:Int))=false)→
   ∃s,b0L l s∧y0s a5n (l.map (fun x=>A0o .i64 x (k:Int)),())=some (l.map (fun x=>A0o .i64 x (s:Int)),()):=by
  intro m
  induction m with
  |zero=>
   intro k v g;obtain rfl:k=10:=by omega
   have h:(l.map (fun x=>A0o .i64 x ((10:Nat):Int))).all f20=true:=by
    rw[a36];exact lA.2 fun x c=>b2N.2 (b9c (lA.1 q x c))
   refine⟨10,⟨a08 _,fun x c=>b2N.2 (b9c (lA.1 q x c)),g⟩,a0D ?_⟩;simp only[a5n,b1J (l:=l.map (fun x=>A0o .i64 x ((10:Nat):Int))) (by rw[a05];exact o),oB,h,cT]
  |succ m ih=>
   intro k v g;have b:=b1J (l:=l.map (fun x=>A0o .i64 x (k:Int))) (by rw[a05];exact o);cases h:(l.map (fun x=>A0o .i64 x (k:Int))).all f20 with
   |true=>
    rw[h]at b;have f:=h;rw[a36]at f;refine⟨k,⟨by omega,fun x c=>lA.1 f x c,g⟩,a0D ?_⟩;simp only[a5n,b,oB,cT]
   |false=>
    rw[h]at b;have n:∃x∈l,f20 (A0o .i64 x (k:Int))=false:=by
     rw[a36]at h;obtain⟨x,c,u⟩:=List.all_eq_false.1 h;exact⟨x,c,by simpa using u⟩
    obtain⟨s,j,i⟩:=ih (k+1) (by omega) (fun t w=>by
     by_cases e:t=k
     subst e;exact n;exact g t (by omega))
    refine⟨s,j,?_⟩;have a:=b5M (l:=l.map (fun x=>A0o .i64 x (k:Int))) (by rw[a05];exact o);have p:(l.map (fun x=>A0o .i64 x (k:Int))).map (fun x=>A0o .i64 x 1)=l.map (fun x=>A0o .i64 x ((k+1:Nat):Int)):=by
     rw[List.map_map];exact a32 fun x _=>c1X x (by omega)
    rw[p]at a;rw[a0E (s':=(l.map (fun x=>A0o .i64 x ((k+1:Nat):Int)),())) (by
     simp only[a5n,b,oB,cF,a])]
    exact i
 obtain⟨s,j,i⟩:=d 10 0 rfl (fun t w=>by omega);have r:l.map (fun x=>A0o .i64 x ((0:Nat):Int))=l:=by
  refine(a32 fun x _=>?_).trans (List.map_id _);rw[b4p x (by omega)]
  simp
 rw[r]at i;refine⟨s,j,?_⟩;have y:lim (0+l.length)=true:=a0I (by omega);unfold a5Z;simp only[y,cT,a04,a18,i,oB]
theorem c1M{l:List Int}(g:l.all a0A=true)(h:l.length<100000):∃r,a2Q l=some r∧a5Z l=some r∧r.length=l.length:=by
 obtain⟨s,a,b⟩:=c1L g h;obtain⟨s',f,k⟩:=c3D g h
 have:=c4p a f
 subst this;exact⟨_,b,k,by rw[a05]⟩
theorem b5N(n:Int):wrap .i64 n=if 9223372036854775808≤n%18446744073709551616 then n%18446744073709551616-18446744073709551616 else n%18446744073709551616:=by
 simp[wrap,IntKind.bits,IntKind.signed]
theorem b6U(a b:Int):wrap .i64 (a+wrap .i64 b)=wrap .i64 (a+b):=by
 rw[b5N b,b5N,b5N];have e:(a+if 9223372036854775808≤b%18446744073709551616 then b%18446744073709551616-18446744073709551616 else b%18446744073709551616)%18446744073709551616=(a+b)%18446744073709551616:=by
  split<;>omega
 rw[e]
theorem c4s(a b:Int):wrap .i64 (wrap .i64 a+b)=wrap .i64 (a+b):=by
 rw[Int.add_comm,b6U,Int.add_comm]
theorem c4t:a1Q=a6Y:=by
 funext st;unfold a1Q a6Y;have e:∀d a b:Int,wrap .i64 (d+wrap .i64 (wrap .i64 a+wrap .i64 b))=wrap .i64 (wrap .i64 (d+wrap .i64 a)+wrap .i64 b):=fun d a b=>by
  rw[b6U,c4s,Int.add_assoc]
 simp only[e]
theorem c3E:a2n=a9v:=rfl
theorem b6V(x:(List Int)×((List Int)×Int)):a2k x=a4D x:=by
 unfold a2k a4D b2S;rw[c4t,c3E];congr 1;funext f;congr 1;funext g;have e:A0n .i64 g.1 15=wrap .i64 (g.1*32768):=rfl;rw[e];cases h:(g.2.1==(0:Int))with
 |true=>rfl
 |false=>
  simp only[h,cF];cases decide (Int.tmod (wrap .i64 (g.1*32768)) g.2.1<0)<;>rfl
def c20(x:Int):Int:=v0s (v0r x (-1048576)) 1048575
def a3h(f b:List Int)(k:Int)(i:Nat):Int:=c20 (wrap .i64 (f.getD i 0-A0o .i64 (wrap .i64 (k*b.getD (i-1) 0)) 14))
def a3t(f b:List Int)(k:Int)(i:Nat):Int:=c20 (wrap .i64 (b.getD (i-1) 0-A0o .i64 (wrap .i64 (k*f.getD i 0)) 14))
def upd(g:Nat→Int)(f:List Int)(lo hi:Nat):List Int:=(a44 f.length).map fun i=>if lo≤i∧i<hi then g i else f.getD i 0
theorem a2e(g:Nat→Int)(f:List Int)(lo h:Nat):(upd g f lo h).length=f.length:=by simp[upd]
theorem a8A(g:Nat→Int)(f:List Int)(lo k:Nat){i:Nat}(h:i<f.length):(upd g f lo k).getD i 0=if lo≤i∧i<k then g i else f.getD i 0:=by
 simp[upd,lD,h]
theorem a7x(g:Nat→Int)(f:List Int){lo hi:Nat}(h:hi≤lo∨f.length≤lo):upd g f lo hi=f:=by
 refine a41 (a2e _ _ _ _) fun i a k=>?_
 rw[a6A a,a6A k,a8A g f lo hi k,if_neg (by omega)]
theorem b4z{g:Nat→Int}{f:List Int}{lo hi lo' hi' i:Nat}(d:i<f.length)(h:∀j,j<f.length→((lo'≤j∧j<hi')↔(j=i∨(lo≤j∧j<hi)))):(upd g f lo hi).set i (g i)=upd g f lo' hi':=by
 refine a41 (by rw[List.length_set,a2e,a2e]) fun j l a=>?_
 have k:j<f.length:=by rw[a2e]at a;exact a
 rw[List.getElem_set]
 by_cases e:i=j
 subst e;rw[if_pos rfl,a6A a,a8A g f _ _ k,if_pos ((h i k).2 (.inl rfl))];rw[if_neg e,a6A (by rw[a2e];exact k),a6A a,a8A g f _ _ k,a8A g f _ _ k]
 have:=h j k
 by_cases hc:lo≤j∧j<hi
 rw[if_pos hc,if_pos (this.2 (.inr hc))];rw[if_neg hc,if_neg (fun c=>(this.1 c).elim (fun b=>e b.symm) hc)]
theorem b2k{f b ks:List Int}{o m:Nat}{k:Int}(u:1≤m)(a:m≤40)(hb:b.length=f.length)(t:f.length<100000):∀(j i:Nat),i+1=m+j→i<f.length→
  y0s a1g ((o:Int),(m:Int),k,(i:Int),upd (a3h f b k) f (i+1) f.length,upd (a3t f b k) b (i+1) f.length,ks,()) =
   some ((o:Int),(m:Int),upd (a3h f b k) f m f.length,upd (a3t f b k) b m f.length,ks,())
 |0,i,hj,hi=>by
  obtain rfl:m=i+1:=by omega
  have d:decide ((i:Int)≥((i+1:Nat):Int))=false:=decide_eq_false (by omega);exact a0D (by simp only[a1g,d,cF])
 |j+1,i,hj,hi=>by
  have d:decide ((i:Int)≥(m:Int))=true:=by simp;omega
  have q:wrap .i64 ((i:Int)-1)=((i-1:Nat):Int):=by rw[a0G (by omega)];omega
  have c:decide ((0:Int)≤(i:Int))=true:=by simp
  have e:decide ((0:Int)≤((i-1:Nat):Int))=true:=by simp
  have l1:=a2e (a3h f b k) f (i+1) f.length;have l2:=a2e (a3t f b k) b (i+1) f.length;have l:decide ((i:Int)<(((upd (a3h f b k) f (i+1) f.length).length:Nat):Int))=true:=by rw[l1];exact dlt hi
  have n:decide (((i-1:Nat):Int)<(((upd (a3t f b k) b (i+1) f.length).length:Nat):Int))=true:=by rw[l2,hb];exact dlt (by omega)
  have p:decide ((i:Int)<(((upd (a3t f b k) b (i+1) f.length).length:Nat):Int))=true:=by rw[l2,hb];exact dlt hi
  have r:(upd (a3h f b k) f (i+1) f.length).getD i 0=f.getD i 0:=by rw[a8A _ _ _ _ hi,if_neg (by omega)]
  have s:(upd (a3t f b k) b (i+1) f.length).getD (i-1) 0=b.getD (i-1) 0:=by rw[a8A _ _ _ _ (by omega),if_neg (by omega)]
  have w:(upd (a3h f b k) f (i+1) f.length).set i (a3h f b k i)=upd (a3h f b k) f i f.length:=b4z hi fun v g=>by omega
  have x:(upd (a3t f b k) b (i+1) f.length).set i (a3t f b k i)=upd (a3t f b k) b i f.length:=b4z (by omega) fun v g=>by omega
  have h:i-1+1=i:=by omega
  rw[a0E (s':=((o:Int),(m:Int),k,((i-1:Nat):Int),upd (a3h f b k) f i f.length,upd (a3t f b k) b i f.length,ks,())) (by
   simp only[a1g,d,cT,c,l,a01,q,e,n,tN,a1I,oB,p,r,s];rw[←w,←x];rfl)]
  have:=b2k (ks:=ks) (o:=o) (k:=k) u a hb t j (i-1) (by omega) (by omega)
  rw[h]at this;exact this
theorem b2P{f b ks:List Int}{o m:Nat}{k:Int}(s:1≤m)(a:m≤40)(hb:b.length=f.length)(r:f.length<100000):∀(j i:Nat),i+j=f.length→m≤i→
  y0s a1R ((o:Int),b,(m:Int),k,(i:Int),upd (a3h f b k) f m i,ks,upd (a3t f b k) b m i,()) =
   some ((o:Int),(m:Int),k,upd (a3h f b k) f m f.length,ks,upd (a3t f b k) b m f.length,())
 |0,i,hj,hi=>by
  obtain rfl:i=f.length:=by omega
  have d:decide ((f.length:Int)<(((upd (a3h f b k) f m f.length).length:Nat):Int))=false:=by rw[a2e];simp
  exact a0D (by simp only[a1R,d,cF])
 |j+1,i,hj,hi=>by
  have h:i<f.length:=by omega
  have n:wrap .i64 ((i:Int)-1)=((i-1:Nat):Int):=by rw[a0G (by omega)];omega
  have c:decide ((0:Int)≤(i:Int))=true:=by simp
  have l1:=a2e (a3h f b k) f m i;have l2:=a2e (a3t f b k) b m i;have e:decide ((i:Int)<(((upd (a3h f b k) f m i).length:Nat):Int))=true:=by rw[l1];exact dlt h
  have l:decide ((i:Int)<(((upd (a3t f b k) b m i).length:Nat):Int))=true:=by rw[l2,hb];exact dlt h
  have q:m0k b ((i-1:Nat):Int)=some (b.getD (i-1) 0):=by rw[a0C (show i-1<b.length by omega),a6A (show i-1<b.length by omega)]
  have p:(upd (a3h f b k) f m i).getD i 0=f.getD i 0:=by rw[a8A _ _ _ _ h,if_neg (by omega)]
  have u:(upd (a3h f b k) f m i).set i (a3h f b k i)=upd (a3h f b k) f m (i+1):=b4z h fun t g=>by omega
  have v:(upd (a3t f b k) b m i).set i (a3t f b k i)=upd (a3t f b k) b m (i+1):=b4z (by omega) fun t g=>by omega
  rw[a0E (s':=((o:Int),b,(m:Int),k,((i+1:Nat):Int),upd (a3h f b k) f m (i+1),ks,upd (a3t f b k) b m (i+1),())) (by
   simp only[a1R,e,cT,c,a01,n,q,oB,tN,a7J,p,l,a0B (show i<1000000 by omega)];rw[←u,←v];rfl)]
  exact b2P (ks:=ks) (o:=o) (k:=k) s a hb r j (i+1) (by omega) (by omega)
theorem b8Q{f b ks:List Int}{o m:Nat}{k:Int}(c:1≤m)(g:m≤40)(hb:b.length=f.length)(a:f.length<100000):
  y0s a1g ((o:Int),(m:Int),k,wrap .i64 ((f.length:Int)-1),f,b,ks,()) =
   some ((o:Int),(m:Int),upd (a3h f b k) f m f.length,upd (a3t f b k) b m f.length,ks,()):=by
 rw[a0G (n:=(f.length:Int)-1) (by omega)]
 by_cases h:m<f.length
 have:=b2k (ks:=ks) (o:=o) (k:=k) c g hb a (f.length-m) (f.length-1) (by omega) (by omega)
 rw[show f.length-1+1=f.length from by omega,a7x (a3h f b k) f (.inl (a08 _)),a7x (a3t f b k) b (.inl (a08 _)),show((f.length-1:Nat):Int)=(f.length:Int)-1 from by omega]at this;exact this;rw[a7x (a3h f b k) f (.inl (by omega)),a7x (a3t f b k) b (.inl (by omega))];have d:decide ((f.length:Int)-1≥(m:Int))=false:=by simp only[decide_eq_false_iff_not];omega
 exact a0D (by simp only[a1g,d,cF])
theorem c0O{f b ks:List Int}{o m:Nat}{k:Int}(c:1≤m)(g:m≤40)(hb:b.length=f.length)(a:f.length<100000):
  y0s a1R ((o:Int),b,(m:Int),k,(m:Int),f,ks,b,()) =
   some ((o:Int),(m:Int),k,upd (a3h f b k) f m f.length,ks,upd (a3t f b k) b m f.length,()):=by
 by_cases h:m<f.length
 have:=b2P (ks:=ks) (o:=o) (k:=k) c g hb a (f.length-m) m (by omega) (a08 _)
 rw[a7x (a3h f b k) f (.inl (a08 _)),a7x (a3t f b k) b (.inl (a08 _))]at this;exact this;rw[a7x (a3h f b k) f (.inl (by omega)),a7x (a3t f b k) b (.inl (by omega))];have d:decide ((m:Int)<(f.length:Int))=false:=by simp only[decide_eq_false_iff_not];omega
 exact a0D (by simp only[a1R,d,cF])
theorem b2Q{o:Nat}(l:o≤32):∀(j m:Nat)(f b ks:List Int),m+j=o+1→1≤m→b.length=f.length→f.length<100000→ks.length+1=m→
  ∃r,y0s a1F ((o:Int),(m:Int),f,b,ks,())=some (r,())∧y0s a3w ((o:Int),b,(m:Int),f,ks,())=some (r,())
 |0,m,f,b,ks,hj,_,_,_,_=>by
  have d:decide ((m:Int)≤(o:Int))=false:=by simp only[decide_eq_false_iff_not];omega
  exact⟨ks,a0D (by simp only[a1F,d,cF]),a0D (by simp only[a3w,d,cF])⟩
 |j+1,m,f,b,ks,hj,hm,hb,hf,hk=>by
  have d:decide ((m:Int)≤(o:Int))=true:=by simp only[dT];omega
  obtain⟨k,a⟩:=b1Y hm hb hf (show m<1000 by omega);have i:a4D (f,b,(m:Int))=some k:=by rw[←b6V];exact a
  have w:=a0B (show m<1000000 by omega);have h:=a7o (show ks.length+1<2147483648 by omega);have g:=a7o (show 0+b.length<2147483648 by omega);obtain⟨r,c,e⟩:=b2Q l j (m+1) (upd (a3h f b k) f m f.length) (upd (a3t f b k) b m f.length) (ks++[k]) (by omega) (by omega) (by rw[a2e,a2e,hb]) (by rw[a2e];exact hf) (by rw[lN,List.length_singleton];omega);refine⟨r,?_,?_⟩;rw[a0E (s':=((o:Int),((m+1:Nat):Int),upd (a3h f b k) f m f.length,upd (a3t f b k) b m f.length,ks++[k],())) (by
   simp only[a1F,d,cT,a,oB,h,a04];rw[b8Q hm (by omega) hb hf];simp only[oB,w])]
  exact c;rw[a0E (s':=((o:Int),upd (a3t f b k) b m f.length,((m+1:Nat):Int),upd (a3h f b k) f m f.length,ks++[k],())) (by
   simp only[a3w,d,cT,i,oB,g,a04,a18];rw[c0O hm (by omega) hb hf];simp only[oB,h,cT,w])]
  exact e
theorem c0P{l:List Int}(k:l.all a0A=true)(q:l.length≤4096){o:Nat}(p:1≤o)(j:o≤32):∃ks:List Int,a2y (l,(o:Int))=some (ks,0)∧a4M (l,(o:Int))=some (ks,0)∧ks.length=o:=by
 obtain⟨ks,h,a⟩:=b4f k q p j;refine⟨ks,h,?_,a⟩;obtain⟨f,s,t,u⟩:=c1M k (by omega);obtain⟨r,e,i⟩:=b2Q j o 1 f f [] (by omega) (by omega) rfl (by omega) rfl;have g:short l:=by unfold short;omega
 have b:decide ((o:Int)<1)=false:=by simp only[decide_eq_false_iff_not];omega
 have c:decide ((o:Int) > 32)=false:=by simp only[decide_eq_false_iff_not];omega
 have d:decide (((l.length:Nat):Int) > 4096)=false:=by simp only[decide_eq_false_iff_not];omega
 have m:decide ((0:Int)≤(o:Int))=true:=by simp
 have n:a2y (l,(o:Int))=some (r,0):=by
  unfold a2y;simp only[b,c,d,cF,oB,a4d g,k,bT,s,a7r (show short f by unfold short;omega),m,tN,a7o (show o<2147483648 by omega),a01,cT];simp only[a02]at e
  erw[e]
  rfl
 rw[n]at h;simp only[sj,pJ,and_true]at h;subst h;unfold a4M;simp only[b,c,d,cF,oB,a0N g,k,bT,t];simp only[a02]at i
 erw[i]
 rfl
theorem b7U{l:List Int}(j:l.all a0A=true)(i:l.length≤4096){o w:Nat}(k:1≤o)(a:o≤32)(b:2≤w∧w≤16):
  ∃c sh e,a2q (l,(o:Int),(w:Int))=some (c,sh,e)∧a6p (l,(o:Int),(w:Int))=some (c,sh,e)∧(e=0→c.length=o):=by
 obtain⟨c,sh,e,d,p⟩:=b7P j i k a b;refine⟨c,sh,e,d,?_,p⟩;rw[←d];obtain⟨ks,x,r2,y⟩:=c0P j i k a;unfold a2q a6p;have z0:((0:Int) != 0)=false:=rfl;simp only[x,r2,oB,z0,cF];obtain⟨r,g,n⟩:=c3A (ks:=ks) (by omega) (by omega);obtain⟨m,f,h,t⟩:=b6y (ks:=ks) (by omega) (by omega);rw[g]at h;simp only[sj]at h;subst h;simp only[g,n,oB]
 by_cases he:f=0
 subst he;have s:=t rfl;obtain⟨q,u,v⟩:=c3C (c:=m) (by omega) (by omega) b;simp only[z0,cF,u,v,oB]
 have:(f != 0)=true:=by simpa using he
 simp only[this,cT]
theorem b3E{d:List Int}(i:d.all a0A=true)(b:d.length≤4096){o w:Nat}(g:1≤o)(f:o≤32)(k:2≤w∧w≤16):
  a7m (d,(o:Int),(w:Int))=some (cS 3 0 (a5C d o w).2.1 (a5C d o w).1 [],(a5C d o w).2.2==0):=by
 obtain⟨c,sh,e,j,h,-⟩:=b7U i b g f k;have a:a5C d o w=(c,sh,e):=by simp_all[a5C]
 unfold a7m;simp only[h,oB,a];rfl
theorem a9M{d:List Int}(b:d.all a0A=true)(a:d.length≤4096){o w:Nat}(g:1≤o)(f:o≤32)(k:2≤w∧w≤16){L:List Sub}(c:L.length<1000):
  a1b (L,d,(o:Int),(w:Int))=some (L++a7X d o w,[]):=by
 have h:lim (L.length+1)=true:=a0I (by omega);unfold a1b a7X;simp only[b3E b a g f k,oB];cases (a5C d o w).2.2==0 with
 |true=>simp_all
 |false=>simp
theorem c1N{d:List Int}{L:List Sub}(k:L.length<1000):y0s a4t (d,(0:Int),L,())=some (d,L++a4j 5,()):=by
 have:=a0Q (f:=a4t) (fun i:Nat=>(d,(i:Int),L++a4j i,())) 5 (b:=(d,L++a4j 5,()))
  (fun i a=>by
   have g:decide ((i:Int)<5)=true:=decide_eq_true (by omega);have h:lim ((L++a4j i).length+1)=true:=a0I (by simp[a4j];omega);have e:(L++a4j i)++[cS 2 (i:Int) 0 [] []]=L++a4j (i+1):=by simp[a4j,a26]
   rw[←e];simp only[a4t,g,cT,h,a0B (show i<1000000 by omega)];rfl)
  (by
   rfl)
 simp at this;rw[show a4j 0=[]from rfl,a27]at this;omega
def b2R(d:List Int):Prop:=∃r,a2b d=some r∧r.2=(a5G d).2∧(r.2=true→r.1=(a5G d).1)
theorem c4Y{d:List Int}(a:d.all a0A=true)(i:d.length≤4096)(m:b2R d)(k:Int):a9T (d,k)=some (a2v d k):=by
 obtain⟨o,G,F⟩:=b6O (show d.length<100000 by omega) a;have hb:b6N d=o:=by simp_all[b6N]
 obtain⟨O,q,H,I⟩:=m;have E:(b0S d).length≤1:=by grind[b0S]
 have Q:=a3T d 4 12;have R:=a3T d 8 12;have l1:=a3T d 1 12;have l2:=a3T d 2 12;have K:=a3T d 12 14;have z:=fun L (hL:L.length<1000)=>a9M (L:=L) a i (o:=4) (w:=12) (by omega) (by omega) (by omega) hL;have A:=fun L (hL:L.length<1000)=>a9M (L:=L) a i (o:=8) (w:=12) (by omega) (by omega) (by omega) hL;have x:=fun L (hL:L.length<1000)=>a9M (L:=L) a i (o:=1) (w:=12) (by omega) (by omega) (by omega) hL;have y:=fun L (hL:L.length<1000)=>a9M (L:=L) a i (o:=2) (w:=12) (by omega) (by omega) (by omega) hL;have j:=fun L (hL:L.length<1000)=>a9M (L:=L) a i (o:=12) (w:=14) (by omega) (by omega) (by omega) hL;have l:=fun L (hL:L.length<1000)=>a9M (L:=L) a i (o:=16) (w:=14) (by omega) (by omega) (by omega) hL;simp at z A x y j l;have S:(a1a d).length=3:=rfl;have n1:(a1x d k).length≤2:=by unfold a1x;split<;>simp<;>omega
 have n2:(a4Q d k).length≤3:=by unfold a4Q;split<;>simp<;>omega
 have T:(a4j 5).length=5:=rfl;have D:a9T (d,k)=(a5l d).bind fun B=>
   (show Option ((List Int)×(Int×((List Sub)×Unit)))from bif decide (k≥1)then((a1b ([cS 0 0 0 [] [],cS 1 0 0 [] [],cS 2 B 0 [] []],d,(4:Int),(12:Int))).bind fun r=>(a1b (r.1,d,(8:Int),(12:Int))).bind fun s=>some (d,k,s.1,()))else some (d,k,[cS 0 0 0 [] [],cS 1 0 0 [] [],cS 2 B 0 [] []],())).bind fun g=>
   (show Option ((List Int)×(Int×((List Sub)×Unit)))from bif decide (g.2.1≥2)then(bif lim (g.2.2.1.length+2)then((a2b g.1).bind fun n=>
    bif n.2 then(bif lim ((g.2.2.1++[cS 5 0 0 [] [((16:Int),(4:Int),())],cS 5 0 0 [] [((32:Int),(3:Int),()),((16:Int),(5:Int),())]]).length+1)then some (g.1,g.2.1,g.2.2.1++[cS 5 0 0 [] [((16:Int),(4:Int),())],cS 5 0 0 [] [((32:Int),(3:Int),()),((16:Int),(5:Int),())]]++[n.1],())else none)
    else some (g.1,g.2.1,g.2.2.1++[cS 5 0 0 [] [((16:Int),(4:Int),())],cS 5 0 0 [] [((32:Int),(3:Int),()),((16:Int),(5:Int),())]],()))else none)else some (g.1,g.2.1,g.2.2.1,())).bind fun p=>
   (show Option ((List Sub)×Unit)from bif decide (p.2.1≥3)then((y0s a4t (p.1,(0:Int),p.2.2.1,())).bind fun f=>(a1b (f.2.1,f.1,(1:Int),(12:Int))).bind fun t=>(a1b (t.1,f.1,(2:Int),(12:Int))).bind fun u=>
    (a1b (u.1,f.1,(12:Int),(14:Int))).bind fun b=>(a1b (b.1,f.1,(16:Int),(14:Int))).bind fun c=>some (c.1,()))else some (p.2.2.1,())).bind fun v=>some v.1:=rfl
 have C:[cS 0 0 0 [] [],cS 1 0 0 [] [],cS 2 o 0 [] []]=a1a d:=by unfold a1a;grind
 have P:(bif decide (k≥1)then((a1b (a1a d,d,(4:Int),(12:Int))).bind fun r=>(a1b (r.1,d,(8:Int),(12:Int))).bind fun s=>some (d,k,s.1,()))else some (d,k,a1a d,()):Option ((List Int)×(Int×((List Sub)×Unit))))=some (d,k,a1a d++a1x d k,()):=by
  unfold a1x
  by_cases h:1≤k
  have e:decide (k≥1)=true:=decide_eq_true h;simp only[e,cT,z (a1a d) (by omega),oB,A (a1a d++a7X d 4 12) (by grind),if_pos h,aA]
  grind
 have U:(bif decide (k≥2)then(bif lim ((a1a d++a1x d k).length+2)then((a2b d).bind fun n=>
    bif n.2 then(bif lim ((a1a d++a1x d k++[cS 5 0 0 [] [((16:Int),(4:Int),())],cS 5 0 0 [] [((32:Int),(3:Int),()),((16:Int),(5:Int),())]]).length+1)then some (d,k,a1a d++a1x d k++[cS 5 0 0 [] [((16:Int),(4:Int),())],cS 5 0 0 [] [((32:Int),(3:Int),()),((16:Int),(5:Int),())]]++[n.1],())else none)
    else some (d,k,a1a d++a1x d k++[cS 5 0 0 [] [((16:Int),(4:Int),())],cS 5 0 0 [] [((32:Int),(3:Int),()),((16:Int),(5:Int),())]],()))else none)else some (d,k,a1a d++a1x d k,()):Option ((List Int)×(Int×((List Sub)×Unit))))=some (d,k,a1a d++(a1x d k++a4Q d k),()):=by
  unfold a4Q
  by_cases h:2≤k
  ·have e:decide (k≥2)=true:=decide_eq_true h;have M:lim ((a1a d++a1x d k).length+2)=true:=a0I (by grind);have N:lim ((a1a d++a1x d k++[cS 5 0 0 [] [((16:Int),(4:Int),())],cS 5 0 0 [] [((32:Int),(3:Int),()),((16:Int),(5:Int),())]]).length+1)=true:=a0I (by simp;omega);simp only[e,M,N,cT,q,oB,if_pos h,b0S];cases hg:O.2 with
   |true=>
    simp_all
   |false=>simp_all
  grind
 have V:(bif decide (k≥3)then((y0s a4t (d,(0:Int),a1a d++(a1x d k++a4Q d k),())).bind fun f=>(a1b (f.2.1,f.1,(1:Int),(12:Int))).bind fun t=>(a1b (t.1,f.1,(2:Int),(12:Int))).bind fun u=>
    (a1b (u.1,f.1,(12:Int),(14:Int))).bind fun b=>(a1b (b.1,f.1,(16:Int),(14:Int))).bind fun c=>some (c.1,()))else some (a1a d++(a1x d k++a4Q d k),()):Option ((List Sub)×Unit))=some (a2v d k,()):=by
  unfold a2v b4y
  by_cases h:3≤k
  have e:decide (k≥3)=true:=decide_eq_true h;simp only[e,cT,c1N (L:=a1a d++(a1x d k++a4Q d k)) (by simp;omega),oB,if_pos h];rw[x _ (by simp;omega)];simp only[oB];rw[y _ (by simp;omega)];simp only[oB];rw[j _ (by simp;omega)];simp only[oB];rw[l _ (by simp;omega)]
  simp
  grind
 rw[D,F,oB,C];simp only[];rw[P];simp only[oB];simp_all
theorem b8R{d:List Int}(f:d.length≤256):b2R d:=by
 have h:=c0H f;have hp:a5G d=(a0V 0,false):=by unfold a5G;simp_all
 have k:decide (((d.length:Nat):Int) > 4096)=false:=decide_eq_false (by omega);have a:decide (((d.length:Nat):Int)≤256)=true:=decide_eq_true (by omega);have g:a4r (d,(16:Int),(256:Int))=some (0,7):=by
  unfold a4r
  grind
 refine⟨(a0V 0,false),?_,by grind,fun h=>by grind⟩;unfold a2b;simp only[g,oB,show((7:Int) != 0)=true from rfl,cT];rfl
def b7C(a:Int×(Bool×Sub)):Prop:=(a.2.1=false→a.1=0)∧(a.2.1=true→a.1≠0)
theorem c3F{l:List Int}{c:Sub}(g:SmallS c){a:Int×(Bool×Sub)}(h:b7C a):b7C (a7R l a c):=by
 unfold a7R;cases he:(a1e c.1 l c).2 != 0 with
 |true=>grind
 |false=>
  simp
  cases !a.2.1 || decide (a3O (a1e c.1 l c).1 (l.length:Int)<a.1)with
  |false=>grind
  |true=>
   simp
   obtain⟨a1,-,-,f⟩:=b4x g (show(a1e c.1 l c).2=0 by simp_all)
   have:=c4m a1 (n:=(l.length:Int)) (by simp_all)
   exact⟨fun h=>(by grind),fun _=>(by omega)⟩
theorem b8S{l:List Int}{cs:List Sub}(q:∀c∈cs,SmallS c)(v:l.length≤4096)(u:cs.length<1000):
  y0s a4G (l,(0:Int),(0:Int),cs,a0V 0,a0V 0,())=some (a0V 0,(b1i l cs).2.2,()):=by
 have:=a1S (f:=a4G) cs (fun i (a:Int×(Bool×Sub))=>(l,a.1,(i:Int),cs,a0V 0,a.2.2,())) (fun a x=>.inl (a7R l a x)) (fun _ a=>b7C a) (fun a=>(a0V 0,a.2.2,()))
  (fun i m a j=>by
   refine⟨fun t g=>?_,fun b hb=>by grind⟩;simp at g;subst g;have d:=q _ (a16 m);refine⟨?_,c3F d j⟩;have n:=c1z (b4Z (k:=cs[i].1) (l:=l) d) (l.length:Int);have p:a37 cs (a38 (i:Int)) (a0V 0)=cs[i]:=by simp_all
   have s:a0V 0=((0:Int),(0:Int),(0:Int),(0:Int),(0:Int),([]:(List Int)),a03 3 (0:Int),([]:(List (Int×Int×Unit))),([]:(List Int)),((0:Int),([]:(List Int)),()),([]:(List Int)),()):=rfl;have o:decide ((0:Int)≤(i:Int))=true:=by simp
   have r:=a0B (show i<1000000 by omega);unfold a7R;simp only[a4G,dlt m,cT,o,a01,←s,p,c1H d cs[i].1 (show l.length≤100000 by omega),oB,n];cases (a1e cs[i].1 l cs[i]).2 != 0 with
   |true=>simp_all
   |false=>
    cases hf:a.2.1 with
    |false=>
     have e:(a.1==(0:Int))=true:=by rw[j.1 hf];rfl
     simp_all
    |true=>
     have e:(a.1==(0:Int))=false:=by simpa using j.2 hf
     grind)
  (fun a _=>by simp_all[a4G]) (a:=((0:Int),false,a0V 0)) ⟨fun _=>rfl,fun h=>(by grind)⟩
 simp at this;rw[this,b3t];rfl
theorem c1O{l:List Int}(u:1≤l.length)(b:l.length≤4096)(a:l.all a0A=true)(h:b3r (a0T l))(c:b2R (a0T l)){k:Int}(t:0≤k)(v:k≤3):
  a8q (l,k)=some ((b1i l (a2v (a0T l) k)).2.2,0):=by
 have e:short l:=by unfold short;omega
 have r:=b4l e a;obtain⟨-,d,s,-⟩:=a4i b a;have i:decide (((l.length:Nat):Int)<1)=false:=decide_eq_false (by omega);have j:decide (((l.length:Nat):Int) > 4096)=false:=decide_eq_false (by omega);have m:decide (k<0)=false:=decide_eq_false (by omega);have n:decide (k > 3)=false:=decide_eq_false (by omega);have f:(a2v (a0T l) k).length<1000:=by
  have g:=fun o w=>a3T (a0T l) o w;have x:=g 4 12;have y:=g 8 12;have z:=g 1 12;have A:=g 2 12;have B:=g 12 14;have C:=g 16 14;have p:(b0S (a0T l)).length≤1:=by grind[b0S]
  simp only[a2v,a1a,a1x,a4Q,b4y,lN]
  grind[a4j]
 have hb:=b8S (l:=l) (b3s d (by omega) h k) b f;have q:a0V 0=((0:Int),(0:Int),(0:Int),(0:Int),(0:Int),([]:(List Int)),a03 3 (0:Int),([]:(List (Int×Int×Unit))),([]:(List Int)),((0:Int),([]:(List Int)),()),([]:(List Int)),()):=rfl;unfold a8q;simp only[←q,i,j,m,n,cF,oB,a0N e,a,bT,r,b4Y b a,c4Y d (show(a0T l).length≤4096 by omega) c,hb]
theorem b5b{l:List Int}{lag:Nat}(o:l.length≤4096)(a1 a b c e r2 j:Int):∀(k n:Nat)(s:Int),n+k=l.length→lag≤n→
  ∃s',y0s a7F (l,a1,a,b,c,(lag:Int),s,(n:Int),())=some (l,a1,a,b,c,(lag:Int),s',())∧
   y0s a5M (l,e,r2,j,(lag:Int),s,(n:Int),())=some (l,e,r2,j,(lag:Int),s',())
 |0,n,s,hn,h=>by
  obtain rfl:n=l.length:=by omega
  exact⟨s,a0D (by simp only[a7F,dge,cF]),a0D (by simp only[a5M,dge,cF])⟩
 |k+1,n,s,hn,h=>by
  have f:n<l.length:=by omega
  have m:wrap .i64 ((n:Int)-(lag:Int))=((n-lag:Nat):Int):=by rw[a0G (by omega)];omega
  have d:n-lag<l.length:=by omega
  have g:=a0C (l:=l) (i:=n-lag) d;have w:=a0B (show n<1000000 by omega);obtain⟨s',p,q⟩:=b5b (lag:=lag) o a1 a b c e r2 j k (n+1) (wrap .i64 (s+v0r (wrap .i64 (l[n]-l[n-lag])) (wrap .i64 (0-wrap .i64 (l[n]-l[n-lag]))))) (by omega) (by omega);refine⟨s',?_,?_⟩;rw[←p];exact a0E (by simp only[a7F,dlt f,cT,a0C f,oB,m,g,w]);rw[←q];exact a0E (by simp only[a5M,b0F,dlt f,cT,a0C f,oB,m,g,w])
theorem b1K{l:List Int}(f:l.length≤4096)(m:256<l.length):∀(k lag best:Nat)(sum:Int),lag+k=257→(lag=16∧best=0∨16<lag∧16≤best∧best≤256)→
  ∃best':Nat,16≤best'∧best'≤256∧y0s a7G (l,(16:Int),(256:Int),(best:Int),sum,(lag:Int),())=some ((best':Int),())∧
   y0s a5N (l,(256:Int),(best:Int),sum,(lag:Int),())=some ((best':Int),())
 |0,lag,best,sum,hk,hb=>by
  obtain rfl:lag=257:=by omega
  refine⟨best,by omega,by omega,a0D rfl,a0D rfl⟩
 |k+1,lag,best,sum,hk,hb=>by
  have d:decide ((lag:Int)≤256)=true:=by simp only[dT];omega
  obtain⟨s',a,b⟩:=b5b (lag:=lag) f 16 256 (best:Int) sum 256 (best:Int) sum (l.length-256) 256 0 (by omega) (by omega);simp only[a02]at a b;have w:=a0B (show lag<1000000 by omega);have j:((lag:Int)==16)=((best:Int)==0):=by
   rcases hb with⟨rfl,rfl⟩|⟨p,q,r⟩;rfl;rw[show((lag:Int)==16)=false from by simp;omega,show((best:Int)==0)=false from by simp;omega]
  cases hc:((best:Int)==0) || decide (s'<sum)with
  |true=>
   obtain⟨g,c,r2,e,i⟩:=b1K f m k (lag+1) lag s' (by omega) (.inr (by omega));refine⟨g,c,r2,?_,?_⟩
   ·rw[←e];refine a0E ?_
    simp only[a7G,d,cT]
    erw[a]
    simp only[oB,j];cases h:((best:Int)==0)with
    |true=>simp only[cT,oB,w]
    |false=>
     rw[h,a20]at hc;simp only[cF,oB,hc,cT,w]
   ·rw[←i];refine a0E ?_
    simp only[a5N,d,cT]
    erw[b]
    simp only[oB];cases h:((best:Int)==0)with
    |true=>simp only[cT,oB,w]
    |false=>
     rw[h,a20]at hc;simp only[cF,oB,hc,cT,w]
  |false=>
   simp only[a31]at hc;obtain⟨h,o⟩:=hc;have n:best≠0:=by simpa using h
   obtain⟨g,c,r2,e,i⟩:=b1K f m k (lag+1) best sum (by omega) (.inr (by omega));refine⟨g,c,r2,?_,?_⟩;rw[←e];refine a0E ?_
   simp only[a7G,d,cT]
   erw[a]
   simp only[oB,j,h,cF,o,w];rw[←i];refine a0E ?_
   simp only[a5N,d,cT]
   erw[b]
   simp only[oB,h,cF,o,w]
theorem b8T{l:List Int}(k:l.all a0A=true)(d:l.length≤4096)(c:256<l.length):∃b:Nat,16≤b∧b≤256∧a6S (l,(16:Int),(256:Int))=some ((b:Int),0)∧a4r (l,(16:Int),(256:Int))=some ((b:Int),0):=by
 obtain⟨b,b1,b2,a,r2⟩:=b1K d c 241 16 0 0 rfl (.inl ⟨rfl,rfl⟩);simp only[nZ,a02]at a r2;have f:short l:=by unfold short;omega
 have h:decide (((l.length:Nat):Int) > 4096)=false:=decide_eq_false (by omega);have g:decide (((l.length:Nat):Int)≤256)=false:=decide_eq_false (by omega);refine⟨b,b1,b2,?_,?_⟩;unfold a6S;simp only[show decide ((16:Int)<2)=false from rfl,show decide ((16:Int) > 256)=false from rfl,show decide ((256:Int) > 1024)=false from rfl,cF,h,oB,g,a9f f,k,bT]
 erw[a]
 rfl;unfold a4r;simp only[show decide ((16:Int)<2)=false from rfl,show decide ((256:Int)<16)=false from rfl,show decide ((256:Int) > 1024)=false from rfl,cF,h,oB,g,a0N f,k,bT]
 erw[r2]
 rfl
def a3H:List (List Int):=[[0,0,0],[0,64,0],[0,32,0],[16,32,16],[21,22,21],[0,48,0],[-8,64,-8],[32,32,0],[0,32,32]]
theorem c1Y{lag:Nat}(f:2≤lag)(k:lag≤1024):∀i (h:i<a3H.length),a3H[i].length=3∧a4P (lag:Int) a3H[i]=true:=by
 have h:a3H.all (fun t=>decide (t.length=3)&&t.all b3P)=true:=by decide
 intro i g
 have:=lA.1 h _ (a16 g)
 simp only[bA,dT]at this;refine⟨this.1,?_⟩;simp only[a4P,bA,dT];exact⟨by omega,by omega,this.2⟩
theorem c6s(l:List Int)(lag g:Int)(k:Bool)(n i:Int)(tab:List (List Int))(c d e:List Int){r:List Int}(s:r.length<100000):
  y0s a5W (l,lag,g,k,(0:Int),n,i,(r.length:Int),(0:Int),tab,r,c,d,e,())=some (l,lag,g,k,a4L r,n,i,tab,c,d,e,()):=by
 have:=a1S (f:=a5W) r (fun j (a:Int)=>(l,lag,g,k,a,n,i,(r.length:Int),(j:Int),tab,r,c,d,e,()))
  (fun a x=>.inl (wrap .i64 (a+b5H x))) (fun _ _=>True) (fun a=>(l,lag,g,k,a,n,i,tab,c,d,e,()))
  (fun j m a _=>⟨fun q h=>by
   simp only[Sum.inl.injEq]at h;subst h;have o:decide ((0:Int)≤(j:Int))=true:=by simp
   have p:a37 r (a38 (j:Int)) 0=r[j]:=by rw[tN,lD,lG m];rfl
   refine⟨?_,trivial⟩;simp only[a5W,dlt m,cT,o,a01,p,a0B (show j<1000000 by omega),b5H],fun b hb=>by cases hb⟩)
  (fun a _=>by simp only[a5W,dge,cF]) (a:=(0:Int)) trivial
 simp only[nZ]at this;rw[this,b3t];rfl
theorem b2l{l:List Int}(x:l.length≤4096)(A:l.all a0A=true){lag:Nat}(t:2≤lag)(u:lag≤1024)(z:List Int):∀(k i:Nat)(bs:Int)(fd:Bool)(best:List Int)(bi:Int),i+k=9→
  (fd=false∧bi=-1∨fd=true∧∃j:Nat,j<9∧bi=(j:Int)∧a3H[j]?=some best)→
  ∃(a:Bool)(g:List Int)(f:Int),y0s a5X (l,(lag:Int),bs,fd,(9:Int),(i:Int),a3H,z,best,())=some (a,z,g,())∧
   y0s a3X (l,(lag:Int),bi,bs,(i:Int),a3H,z,())=some (f,a3H,z,())∧
   (a=false∧f=-1∨a=true∧∃j:Nat,j<9∧f=(j:Int)∧a3H[j]?=some g)
 |0,i,bs,fd,best,bi,hk,hr=>by
  obtain rfl:i=9:=by omega
  exact⟨fd,best,bi,a0D rfl,a0D rfl,hr⟩
 |k+1,i,bs,fd,best,bi,hk,hr=>by
  have v:i<a3H.length:=by show i<9;omega
  have c:decide ((i:Int)<9)=true:=by simp only[dT];omega
  have b:decide ((i:Int)<((a3H.length:Nat):Int))=true:=dlt v;have d:decide ((0:Int)≤(i:Int))=true:=by simp
  have e:a37 a3H (a38 (i:Int)) (a03 3 0)=a3H[i]:=by rw[tN,lD,lG v];rfl
  obtain⟨B,t2⟩:=c1Y t u i v;have q:=b1C (l:=l) t2 B (by omega);have r2:=a9q (l:=l) t2 B (by omega);have w:=a0B (show i<1000000 by omega);have y:a3H[i]?=some a3H[i]:=lG v;cases ho:a7w l (lag:Int) a3H[i]with
  |none=>
   rw[ho]at q r2;obtain⟨a,g,f,n,o,p⟩:=b2l x A t u z k (i+1) bs fd best bi (by omega) hr;have G:((6:Int) != 0)=true:=rfl;have F:((6:Int)==0)=false:=rfl;have s:a6T ([],(0:Int))=some 0:=rfl;refine⟨a,g,f,?_,?_,p⟩;rw[←n];exact a0E (by simp only[a5X,c,b,d,a01,cT,e,q,a1q,oB,G,w]);rw[←o];exact a0E (by simp only[a3X,b,d,a01,cT,e,r2,a1q,oB,s,F,cF,w])
  |some r=>
   rw[ho]at q r2;have E:r.length≤l.length:=Nat.le_of_eq (a8G ho).2.2;have z0:((0:Int) != 0)=false:=rfl;have D:((0:Int)==0)=true:=rfl;have s:=c0K (r:=r) (m:=0) (by omega) (by omega);simp only[nZ,a22]at s;have C:=c6s l (lag:Int) bs fd 9 (i:Int) a3H z best a3H[i] (r:=r) (by omega);have h:(!fd || decide (a4L r<bs))=(decide (bi<0) || decide (a4L r<bs)):=by
    rcases hr with⟨rfl,rfl⟩|⟨rfl,j,-,rfl,-⟩;rfl;rw[show decide ((j:Int)<0)=false from by simp];rfl
   cases hc:(!fd || decide (a4L r<bs))with
   |true=>
    obtain⟨a,g,f,n,o,p⟩:=b2l x A t u z k (i+1) (a4L r) true a3H[i] (i:Int) (by omega) (.inr ⟨rfl,i,by omega,rfl,y⟩);refine⟨a,g,f,?_,?_,p⟩
    ·rw[←n];refine a0E ?_
     simp only[a5X,c,b,d,a01,cT,e,q,a1q,oB,z0,cF];rw[C];simp only[oB];cases fd with
     |false=>simp only[a29,cT,oB,w]
     |true=>
      simp only[bT,a20]at hc;simp only[bT,cF,oB,hc,cT,w]
    ·rw[←o];rw[hc]at h;refine a0E ?_
     simp only[a3X,b,d,a01,cT,e,r2,a1q,oB,s,D];cases hb:decide (bi<0)with
     |true=>simp only[cT,oB,w]
     |false=>
      rw[hb,a20]at h;simp only[cF,oB,←h,cT,w]
   |false=>
    obtain⟨a,g,f,n,o,p⟩:=b2l x A t u z k (i+1) bs fd best bi (by omega) hr;refine⟨a,g,f,?_,?_,p⟩
    ·rw[←n];refine a0E ?_
     simp only[a5X,c,b,d,a01,cT,e,q,a1q,oB,z0,cF];rw[C];simp only[oB];cases fd with
     |false=>simp at hc
     |true=>
      simp only[bT,a20]at hc;simp only[bT,cF,oB,hc,w]
    rw[←o];rw[hc]at h;have h:=h.symm;simp only[a31]at h;refine a0E ?_
    simp only[a3X,b,d,a01,cT,e,r2,a1q,oB,s,D,h.1,h.2,cF,w]
theorem c4u{l:List Int}(s:l.length≤4096)(u:l.all a0A=true){lag:Nat}(i:2≤lag)(m:lag≤1024):
  ∃(t:List Int)(e:Int),a8d (l,(lag:Int))=some (t,e)∧a6a (l,(lag:Int))=some (t,e)∧(e=0→t.length=3∧a4P (lag:Int) t=true):=by
 have k:decide ((lag:Int)<2)=false:=by simp only[decide_eq_false_iff_not];omega
 have a:decide ((lag:Int) > 1024)=false:=by simp only[decide_eq_false_iff_not];omega
 obtain⟨x,d,w,b,c,v⟩:=b2l s u i m (a03 3 0) 9 0 0 false (a03 3 0) (-1) rfl (.inl ⟨rfl,rfl⟩);simp only[nZ]at b c;have n:b1o ()=some a3H:=rfl;have t2:a8V ()=some a3H:=rfl;have f:((a3H.length:Nat):Int)=9:=rfl;rcases v with⟨rfl,rfl⟩|⟨rfl,j,y,rfl,hb⟩;refine⟨a03 3 0,6,?_,?_,fun h=>by cases h⟩;unfold a8d;simp only[k,a,cF,oB,n,f,b,a29,cT];unfold a6a;simp only[k,a,cF,oB,t2,c,show decide ((-1:Int)<0)=true from rfl,cT];obtain⟨g,rfl⟩:=lS.1 hb;refine⟨a3H[j],0,?_,?_,fun _=>c1Y i m j g⟩;unfold a8d;simp only[k,a,cF,oB,n,f,b,bT];have o:decide ((j:Int)<0)=false:=by simp
 have p:decide ((0:Int)≤(j:Int))=true:=by simp
 have q:decide ((j:Int)<((a3H.length:Nat):Int))=true:=dlt g;have r:a37 a3H (a38 (j:Int)) (a03 3 0)=a3H[j]:=by rw[tN,lD,lG g];rfl
 unfold a6a;simp only[k,a,cF,oB,t2,c,o,p,q,a01,cT,r]
theorem c4Z{d:List Int}(B:d.all a0A=true)(A:d.length≤4096):b3r d∧b2R d:=by
 by_cases h256:d.length≤256
 exact⟨c6Q h256,b8R h256⟩;obtain⟨b,b1,b2,p,q⟩:=b8T B A (by omega);obtain⟨t,e,u,v,H⟩:=c4u A B (lag:=b) (by omega) (by omega);have z0:((0:Int) != 0)=false:=rfl;have G:SmallS (a0V 0):=b6M
 by_cases he:e=0
 rotate_left;have k:(e != 0)=true:=by simpa using he
 have hp:a1k d=some (a0V 0,false):=by
  unfold a1k;simp only[p,oB,z0,cF,u,k,cT];rfl
 have i:a2b d=some (a0V 0,false):=by
  unfold a2b;simp only[q,oB,z0,cF,v,k,cT];rfl
 have g:a5G d=(a0V 0,false):=by unfold a5G;rw[hp];rfl
 exact⟨⟨by rw[g];exact hp,fun h=>by rw[g]at h;cases h⟩,⟨_,i,by rw[g],fun h=>by cases h⟩⟩;subst he;obtain⟨z,tb⟩:=H rfl;have j:=b1C (l:=d) tb z (by omega);have r2:=a9q (l:=d) tb z (by omega);cases ho:a7w d (b:Int) t with
 |none=>
  rw[ho]at j r2;have C:((6:Int) != 0)=true:=rfl;have hp:a1k d=some (a0V 0,false):=by
   unfold a1k;simp only[p,oB,z0,cF,u,j,a1q,C,cT];rfl
  have i:a2b d=some (a0V 0,false):=by
   unfold a2b;simp only[q,oB,z0,cF,v,r2,a1q,C,cT];rfl
  have g:a5G d=(a0V 0,false):=by unfold a5G;rw[hp];rfl
  exact⟨⟨by rw[g];exact hp,fun h=>by rw[g]at h;cases h⟩,⟨_,i,by rw[g],fun h=>by cases h⟩⟩
 |some r=>
  rw[ho]at j r2;obtain⟨-,m,I⟩:=a8G ho;obtain⟨c,sh,n,s,D,E⟩:=b7U m (by omega) (o:=4) (w:=12) (by omega) (by omega) (by omega);have f:=b3E m (by omega) (o:=4) (w:=12) (by omega) (by omega) (by omega);have y:a5C r (4:Nat) (12:Nat)=(c,sh,n):=by unfold a5C;rw[s];rfl
  rw[y]at f;simp only[a02]at s D f
  by_cases h0:n=0
  subst h0;obtain⟨S,x⟩:∃S:Sub,S=((4:Int),(0:Int),(0:Int),sh,(b:Int),c,t,([]:List Stg),([]:List Int),((0:Int),([]:List Int),()),([]:List Int),()):=⟨_,rfl⟩;have hp:a1k d=some (S,true):=by
   unfold a1k;simp only[p,oB,z0,cF,u,j,a1q,s,x]
  have i:a2b d=some (S,true):=by
   unfold a2b;simp only[q,oB,z0,cF,v,r2,a1q,f,x];rfl
  have g:a5G d=(S,true):=by unfold a5G;rw[hp];rfl
  have F:=E rfl;refine⟨⟨by rw[g];exact hp,fun _=>?_⟩,⟨_,i,by rw[g],fun _=>by rw[g]⟩⟩;rw[g];subst x;exact⟨by show c.length≤40;omega,z,by simp,by simp,by simp,by simp⟩;have k:(n != 0)=true:=by simpa using h0
  have a:(n==0)=false:=by simpa using h0
  have hp:a1k d=some (a0V 0,false):=by
   unfold a1k;simp only[p,oB,z0,cF,u,j,a1q,s,k,cT];rfl
  have g:a5G d=(a0V 0,false):=by unfold a5G;rw[hp];rfl
  refine⟨⟨by rw[g];exact hp,fun h=>by rw[g]at h;cases h⟩,?_⟩;unfold b2R a2b;simp only[q,oB,z0,cF,v,r2,a1q,f,a];exact⟨_,rfl,by rw[g],fun h=>by cases h⟩
def c6R(L:List Int):Prop:=∀b∈L,b=0∨b=1
def OkR(P R:List Int):Prop:=c6R (P++R)∧(P++R).length<200000000
theorem OkR.shift{P A R:List Int}(h:OkR P (A++R)):OkR (P++A) R:=by
 unfold OkR at h⊢;simp_all
def b1L(n:Nat):List Int:=if h:n<128 then[(n:Int)]else((n%128+128:Nat):Int)::b1L (n / 128)
termination_by n
decreasing_by omega
def d1H(g:Int):Nat:=if 0≤g then(2*g).toNat else(-2*g-1).toNat
def e8(s:Int):Int:=bif (A0o .u8 s 7)==(1:Int)then bits .u8 .xor (A0n .u8 s 1) 7 else A0n .u8 s 1
def rep{α:Type}(f:α→α):Nat→α→α
 |0,s=>s
 |n+1,s=>rep f n (f s)
def g8(s c:Int):Int:=rep e8 8 (bits .u8 .xor s c)
@[reducible] def b2m:Type:=Int×(Int×(Int×Unit))
@[reducible] def c0Q:Type:=Int×(Int×(b2m×(List b2m×(List Sub×Unit))))
@[reducible] def c0R:Type:=Int×(List (List Int)×Unit)
def c8A(n:Int)(s:b2m):Bool:=!(decide (s.1<0) || decide (s.1≥n) || decide (s.2.1<0) || decide (s.2.1≥n) || s.1==s.2.1)&&!(decide (s.2.2.1 < -1024) || decide (s.2.2.1 > 1024))
def c5a(l:List b2m)(n:Int):Prop:=1≤n∧n≤8∧l.length≤16∧l.all (c8A n)=true
instance (l:List b2m) (n:Int):Decidable (c5a l n):=by unfold c5a;infer_instance
def c5b(f:b2m):Prop:=1≤f.1∧f.1≤1048576∧1≤f.2.1∧f.2.1≤8∧4≤f.2.2.1∧f.2.2.1≤24
instance (f:b2m):Decidable (c5b f):=by unfold c5b;infer_instance
def frP(f:c0Q):Prop:=c5b f.2.2.1∧1≤f.2.1∧f.2.1≤4096∧0≤f.1∧f.1≤4194304-f.2.1∧c5a f.2.2.2.1 f.2.2.1.2.1
instance (f:c0Q):Decidable (frP f):=by unfold frP;infer_instance
def c8B(s:b2m):List Int:=b1L s.1.toNat++(b1L s.2.1.toNat++b1L (d1H s.2.2.1))
def hb(f:c0Q)(body:Nat):List Int:=
 [245,75]++(b1L f.1.toNat++(b1L f.2.1.toNat++(b1L f.2.2.1.1.toNat++(b1L f.2.2.1.2.1.toNat++(b1L f.2.2.1.2.2.1.toNat++(b1L f.2.2.2.1.length++(f.2.2.2.1.flatMap c8B++b1L body)))))))
def c5X(c:List (List Int)):Prop:=1≤c.length∧c.length≤8∧(c.headD []).length≤4096∧c.all (fun r=>decide (r.length=(c.headD []).length)&&r.all a0A)=true
instance (c:List (List Int)):Decidable (c5X c):=by unfold c5X;infer_instance
def c5c(b:c0R):Nat:=(b.2.1.headD []).length
def c6S(b:c0R):Prop:=4≤b.1∧b.1≤24∧1≤b.2.1.length∧b.2.1.length≤8∧1≤c5c b∧c5c b≤4096∧b.2.1.all (fun r=>decide (r.length=c5c b)&&r.all fun x=>a1P x b.1)=true
instance (b:c0R):Decidable (c6S b):=by unfold c6S;infer_instance
theorem d1I(k:Nat)(a:k≤62)(y:Int):∃v:Nat,bits .i64 .and y ((2^k-1:Nat):Int)=(v:Int)∧v<2^k:=by
 have hp:2^k≤2^62:=a21 (by omega) a;have f:0<2^k:=Nat.pow_pos (by omega);have h:((a06 64 y) &&& (a06 64 ((2^k-1:Nat):Int))).toNat=(a06 64 y).toNat%2^k:=by
  rw[BitVec.toNat_and];have e:(a06 64 ((2^k-1:Nat):Int)).toNat=2^k-1:=by
   rw[BitVec.toNat_ofInt];generalize 2^k=p at *;omega
  rw[e,Nat.and_two_pow_sub_one_eq_mod]
 have g:=a45 (a06 64 y).toNat f;refine⟨(a06 64 y).toNat%2^k,?_,g⟩;show wrap .i64 ((((a06 64 y) &&& (a06 64 ((2^k-1:Nat):Int))).toNat:Nat):Int)=_;rw[h];generalize (a06 64 y).toNat%2^k=z at *;exact a0G (by omega)
def b1M(l:List Int)(lo:Int)(i:Nat):Int:=l.getD (i%l.length) 0+((i / l.length:Nat):Int)*(lo%5)
def a8i(l:List Int)(lo:Int)(n:Nat):List Int:=(a44 n).map (b1M l lo)
theorem b7V{l:List Int}{lo:Int}{i:Nat}(f:i<290):0≤((i / l.length:Nat):Int)*(lo%5)∧((i / l.length:Nat):Int)*(lo%5)≤1156:=by
 have g:i / l.length≤i:=a43 _ _;generalize i / l.length=q at g⊢;have h:0≤lo%5∧lo%5≤4:=by omega
 refine⟨a28 (by omega) h.1,?_⟩
 have:=Int.mul_le_mul (a:=(q:Int)) (b:=lo%5) (c:=289) (d:=4) (by omega) h.2 h.1 (by omega)
 omega
theorem b5c{l:List Int}(h:∀a∈l,-32768≤a∧a≤32767)(c:1≤l.length){lo:Int}{i:Nat}(k:i<290):-32768≤b1M l lo i∧b1M l lo i≤34000:=by
 have g:i%l.length<l.length:=a45 _ (by omega);have f:l.getD (i%l.length) 0∈l:=by rw[lD,lG g];exact a16 g
 have:=h _ f
 obtain⟨b,hp⟩:=b7V (l:=l) (lo:=lo) k;unfold b1M;omega
theorem c3G{l:List Int}(h:∀a∈l,-32768≤a∧a≤32767)(q:1≤l.length)(r:l.length≤40){lo:Int}(c:0≤lo)(k:Int):
  y0s a4c (l,lo,k,((l.length:Nat):Int),(0:Int),[],())=some (k,a8i l lo 290,()):=by
 have:=a0Q (f:=a4c) (fun i:Nat=>(l,lo,k,((l.length:Nat):Int),(i:Int),a8i l lo i,())) 290 (b:=(k,a8i l lo 290,()))
  (fun i j=>by
   have d:decide ((i:Int)<290)=true:=by simp only[dT];omega
   have z:(((l.length:Nat):Int)==0)=false:=by simp only[beq_eq_false_iff_ne,ne_eq];omega
   have m:Int.tmod (i:Int) ((l.length:Nat):Int)=((i%l.length:Nat):Int):=rfl;have o:Int.tdiv (i:Int) ((l.length:Nat):Int)=((i / l.length:Nat):Int):=rfl;have e:i%l.length<l.length:=a45 _ (by omega);have p:Int.tmod lo 5=lo%5:=Int.tmod_eq_emod_of_nonneg c;have x:=b5c h q (lo:=lo) j;have g:(a8i l lo i).length=i:=by simp[a8i]
   have w:=h _ (a16 e);have hv:b1M l lo i=l[i%l.length]+((i / l.length:Nat):Int)*(lo%5):=by
    unfold b1M;rw[lD,lG e];rfl
   obtain⟨s,hp⟩:=b7V (l:=l) (lo:=lo) j;have t:0≤((i / l.length:Nat):Int):=a33 _;have u:((i / l.length:Nat):Int)≤(i:Int):=Int.ofNat_le.2 (a43 _ _);have v:a8i l lo (i+1)=a8i l lo i++[b1M l lo i]:=by simp[a8i,a26]
   simp only[a4c,d,cT,z,cF,m,a0C e,oB,o,p,g,a7o (show i+1<2147483648 by omega),a0B (show i<1000000 by omega),a04,v];rw[a0G (n:=l[i%l.length]) (by omega),a0G (n:=((i / l.length:Nat):Int)) (by omega),a0G (n:=lo%5) (by omega),a0G (n:=((i / l.length:Nat):Int)*(lo%5)) (by omega),←hv,a0G (by omega)])
  (by
   have d:decide (((290:Nat):Int)<290)=false:=by decide
   simp only[a4c,d,cF])
 simp only[nZ]at this;exact this
theorem c6T{n:Int}(h:Wf (.int .i16) n):-32768≤n∧n≤32767:=by
 have h:(decide (IntKind.min .i16≤n)&&decide (n≤IntKind.max .i16))=true:=h;simp only[bA,dT]at h;have g:IntKind.min .i16=-32768:=rfl;have f:IntKind.max .i16=32767:=rfl;omega
theorem c8C{n:Int}(h:Wf (.int .u8) n):0≤n:=by
 have h:(decide (IntKind.min .u8≤n)&&decide (n≤IntKind.max .u8))=true:=h;simp only[bA,dT]at h;have g:IntKind.min .u8=0:=rfl;omega
theorem c0S(x:List Int×(Int×Int))(h:∀a∈x.1,-32768≤a∧a≤32767)(f:0≤x.2.1):a9z x=some true:=by
 obtain⟨l,lo,k⟩:=x;have h:∀a∈l,-32768≤a∧a≤32767:=h;have f:0≤lo:=f;unfold a9z;simp only[c3f,oB,bT,cF]
 by_cases h1:((l.length:Nat):Int)<1
 rw[decide_eq_true h1];rfl;rw[decide_eq_false h1]
 by_cases h2:((l.length:Nat):Int) > 40
 rw[decide_eq_true h2];rfl;rw[decide_eq_false h2];simp only[cF,oB];have q:=c3G h (by omega) (by omega) f k;rw[q];obtain⟨w,e,c⟩:=d1I 2 (by omega) k;rw[show((2^2-1:Nat):Int)=3 from rfl]at e;have u:w<4:=c;generalize hm:a8i l lo 290=m;have t:m.length=290:=by rw[←hm];simp[a8i]
 have b:m.all a0A=true:=lA.2 fun x j=>by
  rw[←hm]at j;obtain⟨i,r,rfl⟩:=List.mem_map.1 j
  have:=b5c h (by omega) (lo:=lo) (List.mem_range.1 r)
  exact a2i.2 (by omega)
 obtain⟨-,o,v,-⟩:=a4i (l:=m) (by omega) b;obtain⟨d,p⟩:=c4Z o (by omega);obtain⟨s,b1,b2,n,b4,-⟩:=c3y (l:=m) (by omega) (by omega) b d (k:=(w:Int)) (by omega) (by omega);have b5:=c1O (l:=m) (by omega) (by omega) b d p (k:=(w:Int)) (by omega) (by omega);rw[←b4]at b5;have g:=b6r b2 ((m.length:Nat):Int);rw[n]at g;simp only[oB,e,b1,b5,g,b6q b2,decide_true,cT,beq_self_eq_true,a8g (show short m by unfold short;omega)]
end Go.Ab
namespace Go.Proofs.YtjoohiokfkdfpaaGreatDoor
open Go.Ab Go.ChangeShapes Go.WideShapes Go.ChangeAt Go.RowKit
theorem b4q{α:Type}{f:Nat→Option (α×a0z×List Nat)}:∀(L:List α)(i:Nat),(∀(j:Nat) x,L[j]?=some x→f (i+j)=some (x,[],[]))→a0d f L.length i=some (L,[],[])
 | [],_,_=>rfl
 |a::L,i,h=>by
  have g:=h 0 a rfl;have k:=b4q L (i+1) (fun j x b=>by have:=h (j+1) x (by simpa using b);rw[←this];congr 1;omega);simp only[lC,a0d];simp only[Nat.add_zero]at g;rw[g,k];rfl
section
variable {H:Type} {enc:TypeId×Value→H} {P:Program} {w:World} {base:Nat} {spare:Nat→Bool} {held:Bool}
theorem b8U{k:IntKind}{n:Nat}{t e:TypeId}{fuel:Nat}{cs:List Value}{L:List Int}{p:List MemPlace}(B:P.underlying t=some (.array n e))(u:P.underlying e=some (.int k))(s:P.cellsOf e=1)
  (h:DataW.trod enc P w base spare held fuel t cs=some (.agg (L.map fun i=>.lit (.int k i)),p)):L.length=n∧∀(j:Nat) x,L[j]?=some x→cs[j]?=some (.int k x):=by
 obtain⟨C,m,rfl,b,-,A,a⟩:=DataW.trod_array B h;simp only[pJ,DataW.agg.injEq]at b;have z:L.length=n:=by rw[←A];simpa using congrArg List.length b.1
 refine⟨z,fun j x c=>?_⟩;obtain⟨v,-⟩:=lS.1 c;have g:=a j (by omega);rw[s]at g;obtain⟨y,d⟩:∃y,C[j]?=some y:=⟨_,lG (by omega)⟩;rw[d]at g;obtain⟨i,o,q,-⟩:=DataW.trod_int u g;have f:=congrArg (fun l=>l[j]?) b.1;simp only[List.getElem?_map,c,d,Option.map_some,q]at f;simp only[sj,DataW.lit.injEq,Lit.int.injEq,true_and]at f;subst f;have r:=congrArg (fun l=>l[0]?) o;simpa[List.getElem?_drop,List.getElem?_take]using r
end
def c1Z : String := (Rows.frameMovedRow.laid.map Prod.fst).headD ""
theorem d1J:Tryz.prog.globalNamed c1Z=some 0:=by kernel_rfl
def c5d:TypeId:=((Tryz.prog.globals[0]?).map (·.type)).getD 0
theorem c6t:(Tryz.prog.globals[0]?).map (·.type)=some c5d:=by kernel_rfl
def c5e:TypeId:=match Tryz.prog.underlying c5d with
 |some (.array _ e)=>e
 |_=>0
theorem d1K:Tryz.prog.underlying c5d=some (.array 64 c5e):=by kernel_rfl
theorem c8D:Tryz.prog.underlying c5e=some (.int .u8):=by kernel_rfl
theorem c8E:Tryz.prog.cellsOf c5e=1:=by kernel_rfl
@[reducible] def laidTab:List (String×DataW Unit):=[(c1Z,Rows.laid_math_bits_deBruijn64tab)]

theorem c6U {g:Nat} {t:Ty} {x:t.den} (h:G0 g=some ⟨t,x⟩):g=0∧(⟨t,x⟩:(t:Ty)×t.den)=⟨.arr 64 (.int .u8),a9N⟩:=by
 unfold G0 find at h
 cases g with
 |zero=>exact⟨rfl,(Option.some.inj h).symm⟩
 |succ n=>exact absurd h (by simp[find])
theorem c0T{W:World}(h:laidMetH Tryz.prog laidTab W):∀g t x,G0 g=some ⟨t,x⟩→g<W.heap.size∧dec (a0a W none) t ((Src.at g 0).rd (a0a W none))=some (x,[],[]):=by
 rw[MakeChecks.laidMetH_plain _ _ _ (by kernel_rfl)]at h;obtain⟨ps,⟨r,w,m,q,u,v,b,c,d,a,_⟩,_,_⟩:=h;obtain rfl:=Option.some.inj (d1J.symm.trans b);obtain rfl:=Option.some.inj (c6t.symm.trans c);have n:(Rows.laid_math_bits_deBruijn64tab:DataW Unit)=.agg (a9N.map fun i=>.lit (.int .u8 i)):=rfl;rw[n]at a;obtain⟨s,p⟩:=b8U d1K c8D c8E a;have k:∀(j:Nat) x,a9N[j]?=some x→W.cell? ⟨0,j,none⟩=some (.int .u8 x):=fun j x l=>by
  rw[World.var?_cell b d j];simpa using p j x l
 intro g t x o;obtain⟨rfl,e⟩:=c6U o;cases e;refine⟨z0m (k 0 0 rfl),?_⟩;exact b4q (f:=fun i=>dec (a0a W none) (.int .u8) fun j=>(Src.at 0 0).rd (a0a W none) (i*1+j)) a9N 0 (fun j x l=>by
  have:=k j x l
  simp only[dec,Src.rd,a0a,Nat.zero_add,Nat.mul_one,Nat.add_zero,this,if_true])
set_option maxRecDepth 100000 in
theorem c5f (os:Os) (args:Array Value):laidMetH Tryz.prog laidTab ((World.doorLaid Tryz.prog 400 os).forCall (fun _ _=>0) ⟨#[],args,[]⟩).memory:=
 laidMetH_of_parts3 (fuel:=8) (laidMet_of_run' 8 (by kernel_rfl) (by kernel_rfl)) (by kernel_rfl) (by kernel_rfl)
end Go.Proofs.YtjoohiokfkdfpaaGreatDoor
