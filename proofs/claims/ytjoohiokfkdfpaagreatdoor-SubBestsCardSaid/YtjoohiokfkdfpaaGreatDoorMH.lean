/- Part of the proof: QZN. Conditions: as each statement tells. -/
import Derived.Test.YtjoohiokfkdfpaaGreatDoorRows
import Derived.ProofKit
import Derived.LaidMore
import Derived.LaidLaws
import Derived.LaidHandle
import Derived.LaidByTextLater
import Derived.OpenShut
import Derived.Handed
import Derived.KernelRfl
import Derived.Test.YtjoohiokfkdfpaaGreatDoorMG
noncomputable section
set_option linter.unusedSimpArgs false
set_option linter.unusedVariables false
open Bool renaming and_self→a01,and_eq_false_iff→a08,not_false→a23,false_and→a36
open Int renaming cast_ofNat_Int→a02
open List renaming take_succ_eq_append_getElem→a00,append_eq→a03,length_map→a04,replicate→a05,drop_eq_getElem_cons→a06,all_append→a09,nil_append→a16,drop_eq_nil_of_le→a17,all_cons→a18,take_length→a19,length_take→a20,append_nil→a21,drop_zero→a22,take_zero→a24,map_congr_left→a26,mem_singleton→a27,map_nil→a28,all_map→a29,length_drop→a30,drop_length→a31,getElem_mem→a32,ext_getElem→a33,range_succ→a35
open Nat renaming le_refl→a07,pow_le_pow_right→a25,two_pow_pos→a34
namespace Go.Ab
open IntKind(wrap)
def inW(x:Int)(v:Nat):Bool:=decide (x=0) || a1R x (v:Int)
theorem c4y{x:Int}{v:Nat}:a1R x (v:Int)=true↔1≤v∧v≤31∧-((2^(v-1):Nat):Int)≤x∧x≤((2^(v-1):Nat):Int)-1:=by
 by_cases hv:1≤v∧v≤31
 have e:((v:Int)-1)=((v-1:Nat):Int):=by omega
 have hp:2^(v-1)≤2^30:=a25 (by omega) (by omega);have a:=a34 (v-1);have g:A0n .i64 1 ((v-1:Nat):Int)=((2^(v-1):Nat):Int):=c2O (by omega);have f:A0n .i64 (-1) ((v-1:Nat):Int)=-((2^(v-1):Nat):Int):=by
  grind[IntKind.bits,A0n,a0I]
 have k:wrap .i64 (((2^(v-1):Nat):Int)-1)=((2^(v-1):Nat):Int)-1:=a0I (by omega);simp only[a1R,e,g,f,k,bA,dT];omega;constructor;intro h;simp[a1R]at h;omega;omega
theorem b7m{x:Int}{v:Nat}:inW x v=true↔x=0∨(1≤v∧v≤31∧-((2^(v-1):Nat):Int)≤x∧x≤((2^(v-1):Nat):Int)-1):=by
 simp_all[inW,c4y]
theorem c4z{x:Int}{v w:Nat}(h:v≤w)(c:w≤31)(g:inW x v=true):inW x w=true:=by
 rw[b7m]at g⊢;rcases g with g|⟨f,k,a,b⟩;omega
 have:2^(v-1)≤2^(w-1):=a25 (by omega) (by omega)
 omega
theorem c4A{x:Int}(h:a0A x=true):inW x 31=true:=by
 have:=a2D.1 h
 rw[b7m];omega
theorem b7F{x:Int}(j:a0A x=true):∀(k w:Nat),w+k=32→w≤31→w≤a1C x k w∧a1C x k w≤31∧inW x (a1C x k w)=true∧∀v,w≤v→inW x v=true→v≤31→a1C x k w≤v
 |0,w,h,g=>absurd g (by omega)
 |k+1,w,h,g=>by
  by_cases hin:inW x w=true
  ·have:a1C x (k+1) w=w:=by
    unfold a1C;cases a:(x != 0)&&!a1R x (w:Int)with
    |false=>rfl
    |true=>
     simp at a;simp_all[inW]
   simp_all
  have a:((x != 0)&&!a1R x (w:Int))=true:=by
   simp_all[inW]
  have i:w≠31:=fun e=>hin (by simp_all[c4A]);have e:a1C x (k+1) w=a1C x k (w+1):=by
   show(bif (x != 0)&&!a1R x (w:Int)then a1C x k (w+1)else w)=_
   grind
  obtain⟨l,b,c,d⟩:=b7F j k (w+1) (by omega) (by omega);rw[e];refine⟨by omega,b,c,fun v hv f g=>d v ?_ f g⟩;rcases Nat.lt_or_ge w v with q|q;exact q
  have:v=w:=by omega
  exact absurd (this▸f) hin
theorem a8Z:∀(l:List Int)(w:Nat),l.all a0A=true→w≤31→
  w≤l.foldl (fun w x=>a1C x (32-w) w) w∧l.foldl (fun w x=>a1C x (32-w) w) w≤31∧(∀x∈l,inW x (l.foldl (fun w x=>a1C x (32-w) w) w)=true)∧∀v,w≤v→v≤31→(∀x∈l,inW x v=true)→l.foldl (fun w x=>a1C x (32-w) w) w≤v
 | [],w,_,h31=>⟨a07 _,h31,by simp,fun v hv _ _=>hv⟩
 |x::l,w,h,h31=>by
  rw[a18,bA]at h;obtain⟨i,b,j,m⟩:=b7F h.1 (32-w) w (by omega) h31;obtain⟨c,a,d,e⟩:=a8Z l (a1C x (32-w) w) h.2 b;simp only[List.foldl_cons];refine⟨by omega,a,fun y k=>?_,fun v hv f g=>?_⟩
  ·rcases mC.1 k with rfl|k
   all_goals grind[c4z]
  simp_all
theorem c4B{l:List Int}(h:l.all a0A=true):∀x∈l,inW x (a0J l)=true:=(a8Z l 0 h (by omega)).2.2.1
theorem c1s{l:List Int}(h:l.all a0A=true){v:Nat}(hv:v≤31)(g:∀x∈l,inW x v=true):a0J l≤v:=(a8Z l 0 h (by omega)).2.2.2 v (by omega) hv g
theorem c4C{x:Int}{w v:Nat}(e:w≤30)(k:((2^w:Nat):Int) ∣ x)(h:inW x v=true):inW (A0o .i64 x (w:Int)) v=true:=by
 obtain⟨c,rfl⟩:=k;rw[b9L (by omega)];rw[b7m]at h⊢;have hp:(1:Int)≤((2^w:Nat):Int):=by have:=a34 w;omega
 generalize ((2^w:Nat):Int)=p at h hp;rcases h with h|⟨g,f,b,d⟩
 grind[Int.mul_eq_zero]
 refine .inr ⟨g,f,?_,?_⟩
 by_cases hc:0≤c
 omega;have a:=Int.mul_nonneg (show 0≤p-1 by omega) (show 0≤-c by omega)
 grind
 by_cases hc:0≤c
 have a:=Int.mul_nonneg (show 0≤p-1 by omega) hc
 grind
 omega
theorem c3c{l:List Int}(k:l.length≤4096)(h:l.all a0A=true):a0J (a0T l)≤a0J l:=by
 obtain⟨-,e,c⟩:=a6L (show short l by unfold short;omega) h;obtain⟨-,f,-,-⟩:=a4h k h;have a:∀x∈l,((2^a1G l:Nat):Int) ∣ x:=by
  rcases c with⟨g,-⟩|⟨-,-,g,-⟩
  all_goals grind[Int.dvd_zero]
 refine c1s f (a9L h) fun y b=>?_
 obtain⟨x,d,rfl⟩:=List.mem_map.1 b
 grind[c4C,c4B]
theorem c3d{l:List Int}(a:1≤l.length)(h:l.length≤4096)(g:l.all a0A=true):a3P (a1e 1 l (cS 1 0 0 [] [])).1 (l.length:Int)=((13+a0J (a0T l)*l.length:Nat):Int):=by
 have b:SmallS (cS 1 0 0 [] []):=a9p (by simp) (by simp);have d:=b2Y a h g;obtain⟨a1,-,-,f⟩:=b4a b (k:=1) (l:=l) (by grind);obtain⟨i,c,-⟩:=b9U a1 (by rw[f];rfl);obtain⟨-,-,j,-⟩:=a4h h g;rw[c,d];have e:b9T (a1u (a0O 1 (cS 1 0 0 [] [])) (a1G l) (a0T l) z0 []) i=13+0+a0J (a0T l)*(a0T l).length+0:=rfl;simp_all
theorem c3e{l:List Int}(b:1≤l.length)(f:l.length≤4096)(a:l.all a0A=true)(g:b4c (a0T l)){k:Int}(d:0≤k)(t:k≤3):
  ∃s,a2Q (l,k)=some (s,0)∧SmallS s∧a2L s (l.length:Int)=some l∧s=(b0R l (a2t (a0T l) k)).2.2∧a3P s (l.length:Int)=(b0R l (a2t (a0T l) k)).1∧a3P s (l.length:Int)≤((13+a0J l*l.length:Nat):Int)∧
   (∀c∈a2t (a0T l) k,(a1e c.1 l c).2=0→a3P s (l.length:Int)≤a3P (a1e c.1 l c).1 (l.length:Int)):=by
 obtain⟨-,p,v,-⟩:=a4h f a;have u:=c5T b f a g d t;have j:=c3b b f a (a0T l) k;obtain⟨c,i,q,r,o⟩:=(b7l l (a2t (a0T l) k)).one j;have e:=b2X p (by omega) g k c i;obtain⟨m,-,-,n⟩:=b4a e q;rw[←r]at m n;have h:∀c∈a2t (a0T l) k,(a1e c.1 l c).2=0→a3P (b0R l (a2t (a0T l) k)).2.2 (l.length:Int)≤a3P (a1e c.1 l c).1 (l.length:Int):=fun c i d=>by
  rw[←o];exact((b7l l (a2t (a0T l) k)).least c i d).2
 refine⟨_,u,m,n,rfl,o.symm,?_,h⟩;have hp:=h (cS 1 0 0 [] []) (by simp[a2t,a1a]) (by rw[show(cS 1 0 0 [] []).1=1 from rfl,b2Y b f a]);rw[show(cS 1 0 0 [] []).1=1 from rfl,c3d b f a]at hp
 have:=Nat.mul_le_mul_right l.length (c3c f a)
 omega
def b9V(x:Int):Int:=v0r x (wrap .i64 (0-x))
def a6N(l:List Int):Int:=l.foldl (fun a x=>wrap .i64 (a+b9V x)) 0
theorem b3Q(l:List Int)(x:Int):a6N (l++[x])=wrap .i64 (a6N l+b9V x):=by simp[a6N]
theorem c3T{x:Int}(h:a0A x=true):0≤b9V x∧b9V x≤1073741824:=by
 have:=a2D.1 h
 unfold b9V;rw[a0I (by omega)];simp only[v0r]
 grind
theorem b3h:∀(n:Nat)(l:List Int),l.length=n→n≤1000000→l.all a0A=true→0≤a6N l∧a6N l≤1073741824*(n:Int)
 |0,l,h,_,_=>by
  simp_all[a6N]
 |n+1,l,h,hn,hw=>by
  obtain⟨L,b,rfl⟩:∃L b,l=L++[b]:=by
   rcases List.eq_nil_or_concat l with rfl|⟨L,b,e⟩
   all_goals simp_all
  rw[a09,bA]at hw;obtain⟨g,f⟩:=b3h n L (by simp_all) (by omega) hw.1;have k:=c3T (x:=b) (by simp_all)
  grind[b3Q,a0I]
theorem c1t{l:List Int}(h:l.length≤1000000)(g:l.all a0A=true):0≤a6N l:=(b3h _ l rfl h g).1
theorem b2t{r:List Int}{i m:Nat}(h:i<r.length)(g:m≤i):(r.take (i+1)).drop m=(r.take i).drop m++[r[i]]:=by
 grind[a00]
theorem c4D{r:List Int}{o:Nat}(k:o≤4)(a:r.length<100000):a4Q (r,(o:Int))=some (a6N (r.drop (4-o))):=by
 have:=a0R (f:=a1J) (fun i:Nat=>((o:Int),a6N ((r.take i).drop (4-o)),r,(r.length:Int),(i:Int),())) r.length (b:=(a6N (r.drop (4-o)),()))
  (fun i h=>by
   have g:wrap .i64 ((i:Int)+(o:Int))=(i:Int)+(o:Int):=a0I (by omega)
   by_cases hm:4-o≤i
   have d:decide ((i:Int)+(o:Int)≥4)=true:=by grind
   simp only[a1J,dlt h,cT,a0C h,oB,g,d,a0B (show i<1000000 by omega)];rw[b2t h hm,b3Q];rfl;have d:decide ((i:Int)+(o:Int)≥4)=false:=by grind
   simp only[a1J,dlt h,cT,a0C h,oB,g,d,cF,a0B (show i<1000000 by omega)]
   grind[a17])
  (by
   have d:decide ((r.length:Int)<(r.length:Int))=false:=by simp
   simp_all[a1J])
 simp at this;unfold a4Q;rw[show a6N []=0 from rfl]at this;simp_all
theorem c4E{r:List Int}{m:Nat}(c:m≤4)(i:r.length<100000):a7P (r,(m:Int))=some (a6N (r.drop m)):=by
 have g:v0r (m:Int) 0=(m:Int):=by
  rfl
 unfold a7P
 by_cases hl:m≤r.length
 have:=a0R (f:=a5N) (fun j:Nat=>(r,a6N ((r.take (m+j)).drop m),((m+j:Nat):Int),())) (r.length-m) (b:=(a6N (r.drop m),()))
  (fun j a=>by
   have h:m+j<r.length:=by omega
   simp only[a5N,dlt h,cT,a0C h,oB,b1v,a0B (show m+j<1000000 by omega)];rw[show m+(j+1)=(m+j)+1 from rfl,b2t h (by omega),b3Q];rfl)
  (by
   have e:m+(r.length-m)=r.length:=by omega
   rw[e];have d:decide ((r.length:Int)<(r.length:Int))=false:=by simp
   simp_all[a5N])
 have k:(r.take m).drop m=[]:=a17 (by simp_all);simp at this;rw[show a6N []=0 from rfl]at this;simp_all;have d:decide ((m:Int)<(r.length:Int))=false:=by grind
 rw[g,a0D (b:=((0:Int),())) (by simp only[a5N,d,cF])];rw[a17 (by omega)];rfl
def a3y(l:List Int)(o:Nat):List Int×Int:=if o≤l.length then(bif (a1B o l).all a0A then(a1B o l,0)else([],6))else([],1)
theorem c3U{l:List Int}{o:Nat}(h:o≤4)(b:l.length<100000)(g:l.all a0A=true):a2N (l,(o:Int))=some (a3y l o):=by
 unfold a3y
 by_cases hn:o≤l.length
 rw[if_pos hn,b0A h hn (by unfold short;omega) g];rw[if_neg hn];have f:decide ((o:Int)<0)=false:=decide_eq_false (by omega);have k:decide ((o:Int) > 4)=false:=decide_eq_false (by omega);have a:decide (((l.length:Nat):Int)<(o:Int))=true:=decide_eq_true (by omega);simp_all[a2N]
theorem b9W{l:List Int}{o:Nat}(h:o≤4)(b:l.length<100000)(g:l.all a0A=true):a2f (l,(o:Int))=some (a3y l o):=by
 unfold a3y
 by_cases hn:o≤l.length
 rw[if_pos hn,b1m h hn (by unfold short;omega) g];rw[if_neg hn];have f:decide ((o:Int)<0)=false:=decide_eq_false (by omega);have k:decide ((o:Int) > 4)=false:=decide_eq_false (by omega);have a:decide (((l.length:Nat):Int)<(o:Int))=true:=decide_eq_true (by omega);simp_all[a2f]
theorem b9X{l:List Int}{o:Nat}(h:(a3y l o).2=0):(a3y l o).1.all a0A=true∧(a3y l o).1.length≤l.length:=by
 unfold a3y at h⊢
 by_cases hn:o≤l.length
 ·rw[if_pos hn]at h⊢;cases hb:(a1B o l).all a0A with
  |false=>simp
  |true=>simp_all[a4j]
 simp_all
theorem c3f{l:List Int}{o:Nat}(g:o≤4)(f:l.length<100000)(k:l.all a0A=true):
  a5D (l,(o:Int))=some (bif (a3y l o).2 != 0 then 0 else a6N ((a3y l o).1.drop (4-o))):=by
 unfold a5D;simp only[b9W g f k,oB];cases hb:((a3y l o).2 != 0)with
 |true=>rfl
 |false=>
  have h:(a3y l o).2=0:=by simp_all
  have e:wrap .i64 ((4:Int)-(o:Int))=((4-o:Nat):Int):=by grind[a0I]
  have:=(b9X h).2
  simp only[cF,e,c4E (show 4-o≤4 by omega) (show(a3y l o).1.length<100000 by omega),oB]
def c7Z(a b:Int×Int):Prop:=(a=(0,-1)∧b=(-1,0))∨(a=b∧0≤a.1∧0≤a.2)
theorem a9T{l:List Int}(e:l.length<100000)(m:l.all a0A=true):∀(j i:Nat)(a b:Int×Int),i+j=5→c7Z a b→
  ∃x y:Int,y0s a1y (l,a.1,a.2,(i:Int),())=some (x,())∧y0s a2z (l,b.1,b.2,(i:Int),())=some (y,())∧v0r y 0=x
 |0,i,a,b,hi,hR=>by
  obtain rfl:i=5:=by omega
  refine⟨a.1,b.1,a0D (by rfl),a0D (by rfl),?_⟩;rcases hR with⟨rfl,rfl⟩|⟨rfl,B,-⟩;rfl;have d:decide ((0:Int) > a.1)=false:=by simp_all
  simp only[v0r,d,cF]
 |j+1,i,a,b,hi,hR=>by
  have s:i≤4:=by omega
  have w:decide ((i:Int)≤4)=true:=by grind
  have z:decide ((i:Int)<5)=true:=by grind
  have o:=c3U s e m;have p:=b9W s e m;have f:=c3f s e m;have k:wrap .i64 ((i:Int)+1)=((i+1:Nat):Int):=a0B (by omega)
  by_cases h0:(a3y l i).2=0
  ·obtain⟨F,r2⟩:=b9X h0;have g:((a3y l i).2 != 0)=false:=by simp_all
   have c:((a3y l i).2==0)=true:=by simp_all
   have q:=c4D (r:=(a3y l i).1) s (by omega);have h:0≤a6N ((a3y l i).1.drop (4-i)):=c1t (by grind) (lA.2 fun x E=>lA.1 F x (List.mem_of_mem_drop E));rw[g,cF]at f;generalize hv:a6N ((a3y l i).1.drop (4-i))=v at f q h;rcases hR with⟨rfl,rfl⟩|⟨rfl,B,D⟩;obtain⟨x,y,t,u,n⟩:=a9T e m j (i+1) ((i:Int),v) ((i:Int),v) (by omega) (.inr ⟨rfl,by simp,h⟩);have A:decide ((-1:Int)<0)=true:=rfl;simp_all[a0H,a1y,a2z]
   ·have A:decide (a.2<0)=false:=by simp_all
    have C:decide (a.1<0)=false:=by simp_all
    cases hlt:decide (v<a.2)with
    |true=>
     obtain⟨x,y,t,u,n⟩:=a9T e m j (i+1) ((i:Int),v) ((i:Int),v) (by omega) (.inr ⟨rfl,by simp,h⟩);refine⟨x,y,?_,?_,n⟩;rw[a0H (s':=(l,(i:Int),v,((i+1:Nat):Int),())) (by simp_all[a1y])];omega;rw[a0H (s':=(l,(i:Int),v,((i+1:Nat):Int),())) (by simp_all[a2z])];omega
    |false=>
     obtain⟨x,y,t,u,n⟩:=a9T e m j (i+1) a a (by omega) (.inr ⟨rfl,B,D⟩);refine⟨x,y,?_,?_,n⟩;rw[a0H (s':=(l,a.1,a.2,((i+1:Nat):Int),())) (by simp only[a1y,w,cT,o,oB,g,cF,q,A,hlt,k])];omega;rw[a0H (s':=(l,a.1,a.2,((i+1:Nat):Int),())) (by simp only[a2z,z,cT,p,oB,c,f,C,cF,hlt,k])];omega
  have g:((a3y l i).2 != 0)=true:=by simp_all
  have c:((a3y l i).2==0)=false:=by simp_all
  obtain⟨x,y,t,u,n⟩:=a9T e m j (i+1) a b (by omega) hR;refine⟨x,y,?_,?_,n⟩;rw[a0H (s':=(l,a.1,a.2,((i+1:Nat):Int),())) (by simp only[a1y,w,cT,o,oB,g,k])];omega;rw[a0H (s':=(l,b.1,b.2,((i+1:Nat):Int),())) (by simp only[a2z,z,cT,p,oB,c,f,cF,k])];omega
theorem b6v{l:List Int}(h:l.length<100000)(g:l.all a0A=true):∃o,a3A l=some o∧a5g l=some o:=by
 obtain⟨x,y,f,k,a⟩:=a9T h g 5 0 (0,-1) (-1,0) rfl (.inl ⟨rfl,rfl⟩);simp_all[a3A,a5g]
def b6w(c:List Int)(k:Int)(j:Nat):Int:=wrap .i64 (c.getD j 0-A0o .i64 (wrap .i64 (k*c.getD (c.length-1-j) 0)) 14)
def a2I(c:List Int)(k:Int)(j:Nat):List Int:=(List.range j).map (b6w c k)
theorem b4I(c:List Int)(k:Int)(j:Nat):a2I c k (j+1)=a2I c k j++[b6w c k j]:=by simp[a2I,a35]
theorem a4V(c:List Int)(k:Int)(j:Nat):(a2I c k j).length=j:=by simp[a2I]
def b3R(c:List Int)(k:Int):List Int:=a2I c k c.length++[k]
def a5W(ks:List Int)(i:Nat):List Int:=(ks.take i).foldl b3R []
theorem b2f{ks:List Int}{i:Nat}(h:i<ks.length):a5W ks (i+1)=b3R (a5W ks i) ks[i]:=by
 unfold a5W;rw[a00 h,List.foldl_append];rfl
theorem b0C{ks:List Int}:∀i,i≤ks.length→(a5W ks i).length=i
 |0,_=>rfl
 |i+1,h=>by
  rw[b2f (by omega),b3R,lN,a4V,b0C i (by omega)];rfl
def a7E(x:Int):Bool:=decide (-16383≤x)&&decide (x≤16383)
theorem b1o{ks:List Int}(a:ks.length≤32):y0s a0Y (ks,ks,(ks.length:Int),(0:Int),())=some (bif ks.all a7E then .inl (ks,())else .inr (([]:List Int),(1:Int),())):=by
 refine a1w (f:=a0Y) ks (fun i=>(ks,ks,(ks.length:Int),(i:Int),())) a7E (bt:=.inl (ks,())) (bf:=.inr (([]:List Int),(1:Int),())) (fun i h hp=>?_) (fun i h hp=>?_) (by simp[a0Y]);simp only[a7E,bA,dT]at hp;have g:decide (ks[i]<(-16383:Int))=false:=by simp;omega
 have k:decide (ks[i] > (16383:Int))=false:=by simp;omega
 simp only[a0Y,dlt h,cT,cF,a0C h,oB,g,k,a0B (show i<1000000 by omega)]
 ·simp only[a7E,a08,decide_eq_false_iff_not]at hp;cases g:decide (ks[i]<(-16383:Int))with
  |true=>simp only[a0Y,dlt h,cT,a0C h,oB,g]
  |false=>
   have k:decide (ks[i] > (16383:Int))=true:=by simp at g⊢;omega
   simp only[a0Y,dlt h,cT,cF,a0C h,oB,g,k]
theorem b1R{ks:List Int}(a:ks.length≤32):y0s a1K (ks,(0:Int),())=some (bif ks.all a7E then .inl (ks,())else .inr ((1:Int),([]:List Int),())):=by
 refine a1w (f:=a1K) ks (fun i=>(ks,(i:Int),())) a7E (bt:=.inl (ks,())) (bf:=.inr ((1:Int),([]:List Int),())) (fun i h hp=>?_) (fun i h hp=>?_) (by simp[a1K]);simp only[a7E,bA,dT]at hp;have g:decide (ks[i]≤(-16384:Int))=false:=by simp;omega
 have k:decide (ks[i]≥(16384:Int))=false:=by simp;omega
 simp only[a1K,dlt h,cT,cF,a0C h,oB,g,k,a0B (show i<1000000 by omega)]
 ·simp only[a7E,a08,decide_eq_false_iff_not]at hp;cases g:decide (ks[i]≤(-16384:Int))with
  |true=>simp only[a1K,dlt h,cT,a0C h,oB,g]
  |false=>
   have k:decide (ks[i]≥(16384:Int))=true:=by simp at g⊢;omega
   simp only[a1K,dlt h,cT,cF,a0C h,oB,g,k]
theorem a6q{l:List Int}{i:Nat}(h:i<l.length):l[i]=l.getD i 0:=by simp[lD,h]
theorem b5p{c a:List Int}{k n:Int}(i:c.length≤32):
  y0s a1E (c,(c.length:Int),k,a,n,(c.length:Int),c,(c.length:Int),(0:Int),([]:List Int),())=some (k,a,n,(c.length:Int),a2I c k c.length,()):=by
 have:=a0R (f:=a1E) (fun j:Nat=>(c,(c.length:Int),k,a,n,(c.length:Int),c,(c.length:Int),(j:Int),a2I c k j,())) c.length (b:=(k,a,n,(c.length:Int),a2I c k c.length,()))
  (fun j g=>by
   have d:wrap .i64 ((c.length:Int)-1)=(c.length:Int)-1:=a0I (by omega);have e:wrap .i64 ((c.length:Int)-1-(j:Int))=((c.length-1-j:Nat):Int):=by rw[a0I (by omega)];omega
   have h:lim ((a2I c k j).length+1)=true:=a0G (by rw[a4V];omega);simp only[a1E,dlt g,cT,a0C g,oB,d,e,a0C (show c.length-1-j<c.length by omega),h,a0B (show j<1000000 by omega),a03,b4I];rw[a6q g,a6q (show c.length-1-j<c.length by omega)];rfl)
  (by simp[a1E])
 exact this
theorem b5q{A B:List Int}{x y:Int}:(A++x::B).set A.length y=A++y::B:=by simp
theorem b6x{c ks:List Int}(p:c.length≤32)(o:c.length<ks.length):
  y0s a2R (ks,(c.length:Int),(0:Int),c,c,())=some (ks,(c.length:Int),a2I c ks[c.length] c.length,()):=by
 have:=a0R (f:=a2R) (fun j:Nat=>(ks,(c.length:Int),(j:Int),a2I c ks[c.length] j++c.drop j,c,())) c.length (b:=(ks,(c.length:Int),a2I c ks[c.length] c.length,()))
  (fun j k=>by
   have m:wrap .i64 ((c.length:Int)-1)=(c.length:Int)-1:=a0I (by omega);have n:wrap .i64 ((c.length:Int)-1-(j:Int))=((c.length-1-j:Nat):Int):=by rw[a0I (by omega)];omega
   have a:decide ((0:Int)≤(j:Int))=true:=by simp
   have e:decide ((0:Int)≤((c.length-1-j:Nat):Int))=true:=by simp
   have i:decide (((c.length-1-j:Nat):Int)<(c.length:Int))=true:=by simp;omega
   have h:(a2I c ks[c.length] j++c.drop j).length=c.length:=by rw[lN,a4V,a30];omega
   have l:decide ((j:Int)<(((a2I c ks[c.length] j++c.drop j).length:Nat):Int))=true:=by rw[h];exact dlt k
   have g:(a2I c ks[c.length] j++c.drop j).set j (b6w c ks[c.length] j)=a2I c ks[c.length] (j+1)++c.drop (j+1):=by
    rw[a06 k,b4I]
    have:=b5q (A:=a2I c ks[c.length] j) (B:=c.drop (j+1)) (x:=c[j]) (y:=b6w c ks[c.length] j)
    rw[a4V]at this;rw[this]
    simp
   simp only[a2R,dlt k,a,cT,a01,a0C o,oB,m,n,e,i,l,tN,a0B (show j<1000000 by omega)];rw[←g];rfl)
  (by
   have d:decide ((c.length:Int)<(c.length:Int))=false:=by simp
   simp only[a2R,d,cF,a31,a21])
 simp only[nZ,a22,a02]at this;exact this
theorem c3g{ks:List Int}(t:1≤ks.length)(m:ks.length≤32):∃r,a3p ks=some r∧a3X ks=some r:=by
 have j:decide (((ks.length:Nat):Int)<1)=false:=decide_eq_false (by omega);have l:decide (((ks.length:Nat):Int) > 32)=false:=decide_eq_false (by omega);cases hall:ks.all a7E with
 |false=>
  refine⟨([],1),?_,?_⟩;unfold a3p;simp only[j,l,cF,oB,b1o m,hall];unfold a3X;simp only[j,l,cF,oB,b1R m,hall]
 |true=>
  have s:=a0R (f:=a2d) (fun i:Nat=>(a5W ks i,ks,(ks.length:Int),(i:Int),())) ks.length (b:=(a5W ks ks.length,()))
   (fun i d=>by
    have h:=b0C i (Nat.le_of_lt d);have p:wrap .i64 ((i:Int)+1)=((i+1:Nat):Int):=a0B (by omega);have o:decide ((0:Int)≤((i+1:Nat):Int))=true:=by simp;omega
    have l1:lim (i+1)=true:=a0G (by omega);have g:=b5p (c:=a5W ks i) (a:=ks) (k:=ks[i]) (n:=(ks.length:Int)) (by omega);have l2:lim ((a2I (a5W ks i) ks[i] i).length+1)=true:=a0G (by rw[a4V];omega);rw[h]at g;simp only[a2d,dlt d,cT,a0C d,oB,p,o,tN,l1,a01,h,g,l2,a03,b2f d,b3R])
   (by simp[a2d])
  have r2:=a0R (f:=a4e) (fun i:Nat=>(ks,(i:Int),a5W ks i,())) ks.length (b:=(a5W ks ks.length,()))
   (fun i d=>by
    have h:=b0C i (Nat.le_of_lt d);have q:lim (0+i)=true:=a0G (by omega);have g:=b6x (c:=a5W ks i) (ks:=ks) (by omega) (by omega);simp only[h]at g;have l2:lim ((a2I (a5W ks i) ks[i] i).length+1)=true:=a0G (by rw[a4V];omega);simp only[a4e,dlt d,cT,q,a03,a16,g,oB,a0C d,l2,a0B (show i<1000000 by omega),b2f d,b3R,h])
   (by simp[a4e])
  refine⟨(a5W ks ks.length,0),?_,?_⟩;unfold a3p;simp only[j,l,cF,oB,b1o m,hall,cT];exact(congrArg (fun z=>Option.bind z fun e=>some (e.1,(0:Int))) s).trans rfl;unfold a3X;simp only[j,l,cF,oB,b1R m,hall,cT];exact(congrArg (fun z=>Option.bind z fun e=>some (e.1,(0:Int))) r2).trans rfl
def a7F(x:Int):Bool:=decide (-35184372088832≤x)&&decide (x≤35184372088832)
@[reducible] def d1d:Type:=Int×(Int×((List Int)×Unit))
def c3h:d1d:=((0:Int),(1:Int),([]:List Int),())
theorem b5r{c:List Int}{w:Int}(a:c.length≤32):y0s a0Z (c,w,c,(c.length:Int),(0:Int),())=some (bif c.all a7F then .inl (c,w,())else .inr c3h):=by
 refine a1w (f:=a0Z) c (fun i=>(c,w,c,(c.length:Int),(i:Int),())) a7F (bt:=.inl (c,w,())) (bf:=.inr c3h) (fun i h hp=>?_) (fun i h hp=>?_) (by simp[a0Z]);simp[a7F]at hp;have g:decide (c[i]<(-35184372088832:Int))=false:=by simp_all
 have k:decide (c[i] > (35184372088832:Int))=false:=by simp_all
 simp only[a0Z,dlt h,cT,cF,a0C h,oB,g,k,a0B (show i<1000000 by omega)]
 ·simp only[a7F,a08,decide_eq_false_iff_not]at hp;cases g:decide (c[i]<(-35184372088832:Int))with
  |true=>simp only[a0Z,dlt h,cT,a0C h,oB,g];rfl
  |false=>
   have k:decide (c[i] > (35184372088832:Int))=true:=by grind
   simp only[a0Z,dlt h,cT,cF,a0C h,oB,g,k];rfl
theorem b6y{c:List Int}{w:Int}(a:c.length≤32):y0s a1L (c,w,(0:Int),())=some (bif c.all a7F then .inl (c,w,())else .inr c3h):=by
 refine a1w (f:=a1L) c (fun i=>(c,w,(i:Int),())) a7F (bt:=.inl (c,w,())) (bf:=.inr c3h) (fun i h hp=>?_) (fun i h hp=>?_) (by simp[a1L]);simp[a7F]at hp;have g:decide (c[i]<(-35184372088832:Int))=false:=by simp_all
 have k:decide (c[i] > (35184372088832:Int))=false:=by simp_all
 simp only[a1L,dlt h,cT,cF,a0C h,oB,g,k,a0B (show i<1000000 by omega)]
 ·simp only[a7F,a08,decide_eq_false_iff_not]at hp;cases g:decide (c[i]<(-35184372088832:Int))with
  |true=>simp only[a1L,dlt h,cT,a0C h,oB,g];rfl
  |false=>
   have k:decide (c[i] > (35184372088832:Int))=true:=by grind
   simp only[a1L,dlt h,cT,cF,a0C h,oB,g,k];rfl
def a5A(s:Nat)(half x:Int):Int:=A0o .i64 (wrap .i64 (x+half)) (s:Int)
theorem b1p{c:List Int}{w s:Nat}{half:Int}(l:c.length≤32)(d:w≤32):∀(m j:Nat),j+m=c.length→
  ∃a:List Int,y0s a1j (c,(w:Int),(s:Int),half,c,(c.length:Int),(j:Int),(c.take j).map (a5A s half),())=some (c,(w:Int),(s:Int),a,())∧
   ((c.drop j).all (fun x=>a1R (a5A s half x) (w:Int))=true→a=c.map (a5A s half))∧((c.drop j).all (fun x=>a1R (a5A s half x) (w:Int))=false→a.length≠c.length)
 |0,j,hj=>by
  obtain rfl:j=c.length:=by omega
  simp_all[a0D,a1j]
 |m+1,j,hj=>by
  have f:j<c.length:=by omega
  have b:decide ((s:Int)<0)=false:=by simp
  have g:a4O (A0o .i64 (wrap .i64 (c[j]+half)) (s:Int),(w:Int))=some (a1R (a5A s half c[j]) (w:Int)):=a5U d;rw[a06 f,a18];cases hf:a1R (a5A s half c[j]) (w:Int)with
  |false=>
   rw[hf]at g;refine⟨(c.take j).map (a5A s half),a0D (by simp only[a1j,dlt f,cT,a0C f,oB,b,cF,g,a23]),fun h=>(by grind),fun _=>?_⟩
   grind
  |true=>
   rw[hf]at g;have k:lim (((c.take j).map (a5A s half)).length+1)=true:=a0G (by grind);obtain⟨a,n,e,i⟩:=b1p (s:=s) (half:=half) l d m (j+1) (by omega);refine⟨a,?_,fun h=>e (by simp_all),fun h=>i (by simp_all)⟩;rw[a0H (s':=(c,(w:Int),(s:Int),half,c,(c.length:Int),((j+1:Nat):Int),(c.take (j+1)).map (a5A s half),())) (by
    simp only[a1j,dlt f,cT,a0C f,oB,b,cF,g,bT,k,a03,a0B (show j<1000000 by omega)];rw[a00 f,pA];rfl)]
   omega
theorem b6z{c:List Int}{w s:Nat}{half:Int}(m:c.length≤32)(l:w≤32)(n:s≤14):
  y0s a1Z (c,(w:Int),(s:Int),half,true,(0:Int),([]:List Int),())=some (c,(w:Int),(s:Int),c.all (fun x=>a1R (a5A s half x) (w:Int)),c.map (a5A s half),()):=by
 have i:wrap .u64 (s:Int)=(s:Int):=a1c (by omega);have a:decide ((s:Int)<0)=false:=by simp
 have:=a0R (f:=a1Z) (fun j:Nat=>(c,(w:Int),(s:Int),half,(c.take j).all (fun x=>a1R (a5A s half x) (w:Int)),(j:Int),(c.take j).map (a5A s half),())) c.length
  (b:=(c,(w:Int),(s:Int),c.all (fun x=>a1R (a5A s half x) (w:Int)),c.map (a5A s half),()))
  (fun j k=>by
   have g:a8m (A0o .i64 (wrap .i64 (c[j]+half)) (s:Int),(w:Int))=some (a1R (a5A s half c[j]) (w:Int)):=b1Z l;have h:lim (((c.take j).map (a5A s half)).length+1)=true:=a0G (by grind);have e:c.take (j+1)=c.take j++[c[j]]:=a00 k;cases ha:(c.take j).all (fun x=>a1R (a5A s half x) (w:Int))with
   |true=>
    simp only[a1Z,dlt k,cT,a0C k,oB,i,a,cF,h,ha,g,a03,a0B (show j<1000000 by omega),e,a09,pA,Bool.true_and,a18,List.all_nil,Bool.and_true];rfl
   |false=>
    simp only[a1Z,dlt k,cT,a0C k,oB,i,a,cF,h,ha,a03,a0B (show j<1000000 by omega),e,a09,pA,a36];rfl)
  (by
   have d:decide ((c.length:Int)<(c.length:Int))=false:=by simp
   simp_all[a1Z])
 simp_all
theorem b6A{c:List Int}{w:Nat}(k:c.length≤32)(i:w≤32):∀(m s:Nat),s+m=15→
  ∃b,y0s a1t (c,(w:Int),(s:Int),())=some b∧y0s a2S (c,(w:Int),(s:Int),())=some b
 |0,s,hs=>by
  obtain rfl:s=15:=by omega
  simp_all[a0D,a1t,a2S]
 |m+1,s,hs=>by
  have d:decide ((s:Int)≤14)=true:=by grind
  have r:decide ((0:Int)≤(c.length:Int))=true:=by simp
  have B:lim c.length=true:=a0G (by omega);have p:wrap .i64 ((s:Int)+1)=((s+1:Nat):Int):=a0B (by omega);obtain⟨half,hp,o⟩:∃half:Int,
    ((show Option ((List Int)×(Int×Int×Int×Unit))from
     bif decide ((s:Int) > (0:Int))then(
     bif decide ((wrap .i64 ((s:Int)-(1:Int)))<0)then none
     else some (c,(w:Int),(s:Int),A0n .i64 (1:Int) (wrap .i64 ((s:Int)-(1:Int))),()))
     else some (c,(w:Int),(s:Int),(0:Int),()))=some (c,(w:Int),(s:Int),half,()))∧
    ((show Option ((List Int)×(Int×Int×Int×Unit))from
     bif decide ((s:Int) > (0:Int))then(
     bif decide ((wrap .u64 (wrap .i64 ((s:Int)-(1:Int))))<0)then none
     else some (c,(w:Int),(s:Int),A0n .i64 (1:Int) (wrap .u64 (wrap .i64 ((s:Int)-(1:Int)))),()))
     else some (c,(w:Int),(s:Int),(0:Int),()))=some (c,(w:Int),(s:Int),half,())):=by
   by_cases h0:s=0
   simp_all;have t:decide ((s:Int) > 0)=true:=by grind
   have u:wrap .i64 ((s:Int)-1)=(s:Int)-1:=a0I (by omega);have v:wrap .u64 ((s:Int)-1)=(s:Int)-1:=a1c (by omega);have y:decide ((s:Int)-1<0)=false:=by grind
   exact⟨A0n .i64 1 ((s:Int)-1),by grind,by grind⟩
  obtain⟨q,n,j,l⟩:=b1p (c:=c) (w:=w) (s:=s) (half:=half) k i c.length 0 (by omega);simp only[nZ,a24,a28,a22,a02]at n j l;have f:=b6z (c:=c) (w:=w) (s:=s) (half:=half) k i (by omega);have a:=hp;have e:=o;simp only[]at a e;cases hall:c.all (fun x=>a1R (a5A s half x) (w:Int))with
  |true=>
   have g:=j hall;subst g;rw[hall]at f;have h:((((c.map (a5A s half)).length:Nat):Int)==(c.length:Int))=true:=by simp
   refine⟨.inr (wrap .i64 ((14:Int)-(s:Int)),(0:Int),c.map (a5A s half),()),a0D ?_,a0D ?_⟩
   all_goals simp_all[a1t,a2S]
  |false=>
   have g:=l hall;rw[hall]at f;have h:(((q.length:Nat):Int)==(c.length:Int))=false:=by grind
   obtain⟨b,z,A⟩:=b6A k i m (s+1) (by omega);refine⟨b,?_,?_⟩;rw[a0H (s':=(c,(w:Int),((s+1:Nat):Int),())) (by
    simp only[a1t,d,cT]
    grind)]
   omega;rw[a0H (s':=(c,(w:Int),((s+1:Nat):Int),())) (by
    simp_all[a2S])]
   omega
theorem c3i{c:List Int}{w:Nat}(j:1≤c.length)(h:c.length≤32)(l:2≤w∧w≤16):∃r,a4o (c,(w:Int))=some r∧a5E (c,(w:Int))=some r:=by
 have f:decide (((c.length:Nat):Int)<1)=false:=decide_eq_false (by omega);have k:decide (((c.length:Nat):Int) > 32)=false:=decide_eq_false (by omega);have a:decide ((w:Int)<2)=false:=decide_eq_false (by omega);have d:decide ((w:Int) > 16)=false:=decide_eq_false (by omega);have hp:=b5r (c:=c) (w:=(w:Int)) h;have g:=b6y (c:=c) (w:=(w:Int)) h;obtain⟨b,e,i⟩:=b6A (c:=c) (w:=w) h (by omega) 15 0 rfl;simp at e i;unfold a4o a5E;cases hall:c.all a7F with
 |false=>
  rw[hall]at hp g;refine⟨([],0,1),?_,?_⟩;simp only[f,k,a,d,cF,oB,hp];rfl;simp only[f,k,a,d,cF,oB,g];rfl
 |true=>
  rw[hall]at hp g;cases b with
  |inl u=>
   refine⟨([],0,6),?_,?_⟩
   all_goals grind
  |inr b=>
   refine⟨(b.2.2.1,b.1,b.2.1),?_,?_⟩
   all_goals grind
def f20(x:Int):Bool:=decide (-1048576≤x)&&decide (x≤1048575)
theorem b2u{x:Int}:f20 x=true↔-1048576≤x∧x≤1048575:=by simp[f20]
theorem b5s(x:Int):(v0s (v0r x (-1048576)) 1048575==x)=f20 x:=by
 rw[Bool.eq_iff_iff,beq_iff_eq,b2u];unfold v0s v0r;cases h:decide ((-1048576:Int) > x)with
 |true=>
  have h:x < -1048576:=by simpa using h
  show(-1048576:Int)=x↔_;omega
 |false=>
  have h:¬ x < -1048576:=by simpa using h
  simp only[cF];cases g:decide ((1048575:Int)<x)with
  |true=>
   have g:1048575<x:=by simpa using g
   show(1048575:Int)=x↔_;omega
  |false=>
   have g:¬ 1048575<x:=by simpa using g
   show x=x↔_;simp only[true_iff];omega
theorem b3S(x:Int){s:Nat}(h:s≤64):A0o .i64 x (s:Int)=x / ((2^s:Nat):Int):=by
 show Int.fdiv x (2^(min (s:Int).toNat 64))=_;rw[tN,Nat.min_eq_left h,Int.fdiv_eq_ediv_of_nonneg _ (Int.le_of_lt (Int.pow_pos (by decide)))]
 simp
theorem c1G(x:Int){s:Nat}(f:s≤63):A0o .i64 (A0o .i64 x (s:Int)) 1=A0o .i64 x ((s+1:Nat):Int):=by
 have g:A0o .i64 (A0o .i64 x (s:Int)) ((1:Nat):Int)=A0o .i64 x (s:Int) / ((2^1:Nat):Int):=b3S _ (by omega);have h:A0o .i64 (A0o .i64 x (s:Int)) 1=A0o .i64 x (s:Int) / ((2^1:Nat):Int):=g;rw[h,b3S x (by omega),b3S x (by omega),Int.ediv_ediv_of_nonneg (Int.natCast_nonneg _),←Int.natCast_mul,←Nat.pow_succ]
theorem c4F{x:Int}(h:f20 x=true):f20 (A0o .i64 x 1)=true:=by
 have e:A0o .i64 x 1=x / ((2^1:Nat):Int):=b3S x (s:=1) (by omega);rw[b2u]at h⊢;rw[e];omega
theorem b9Y{x:Int}{s:Nat}:∀(d:Nat),s+d≤60→f20 (A0o .i64 x (s:Int))=true→f20 (A0o .i64 x ((s+d:Nat):Int))=true
 |0,_,h=>h
 |d+1,hd,h=>by
  have:=c4F (b9Y d (by omega) h)
  rw[c1G x (by omega)]at this;exact this
def a9U(l:List Int)(s:Nat):Prop:=s≤10∧(∀x∈l,f20 (A0o .i64 x (s:Int))=true)∧∀t,t<s→∃x∈l,f20 (A0o .i64 x (t:Int))=false
theorem c3V{l:List Int}{s s':Nat}(h:a9U l s)(a:a9U l s'):s=s':=by
 rcases Nat.lt_trichotomy s s' with g|g|g;obtain⟨x,k,f⟩:=a.2.2 s g;rw[h.2.1 x k]at f;cases f;exact g;obtain⟨x,k,f⟩:=h.2.2 s' g;rw[a.2.1 x k]at f;cases f
theorem b2v{x:Int}(c:a0A x=true){a l:List Int}{n i:Int}:∀(k s:Nat),s+k=10→
  ∃s':Nat,s≤s'∧s'≤10∧f20 (A0o .i64 x (s':Int))=true∧(∀t,s≤t→t<s'→f20 (A0o .i64 x (t:Int))=false)∧
   y0s a1I (a,(s:Int),x,l,n,i,())=some (a,(s':Int),l,n,i,())
 |k,s,hk=>by
  have f:decide ((s:Int)<0)=false:=by simp
  cases hf:f20 (A0o .i64 x (s:Int))with
  |true=>
   refine⟨s,a07 _,by omega,hf,fun t d b=>by omega,a0D ?_⟩;have h:(v0s (v0r (A0o .i64 x (s:Int)) (-1048576)) 1048575 != A0o .i64 x (s:Int))=false:=by
    rw[bne,b5s,hf];rfl
   simp only[a1I,f,cF,a1F,oB,h]
  |false=>
   cases k with
   |zero=>
    obtain rfl:s=10:=by omega
    have:=b8M c
    rw[b2u.2 this]at hf;cases hf
   |succ k=>
    obtain⟨s',d,b,j,m,o⟩:=b2v c (a:=a) (l:=l) (n:=n) (i:=i) k (s+1) (by omega);refine⟨s',by omega,b,j,fun t p g=>?_,?_⟩
    by_cases e:t=s
    subst e;exact hf;exact m t (by omega) g;have h:(v0s (v0r (A0o .i64 x (s:Int)) (-1048576)) 1048575 != A0o .i64 x (s:Int))=true:=by
     rw[bne,b5s,hf];rfl
    rw[a0H (s':=(a,((s+1:Nat):Int),x,l,n,i,())) (by
     simp only[a1I,f,cF,a1F,oB,h,cT,a0B (show s<1000000 by omega)])]
    exact o
theorem c1u{l:List Int}(M:l.all a0A=true)(P:l.length<100000):∃s,a9U l s∧a2P l=some (l.map fun x=>A0o .i64 x (s:Int)):=by
 have p:∀(m i s:Nat),i+m=l.length→a9U (l.take i) s→∃s',a9U l s'∧y0s a1S (l,(s:Int),l,(l.length:Int),(i:Int),())=some (l,(s':Int),()):=by
  intro m
  induction m with
  |zero=>
   intro i s e d;obtain rfl:i=l.length:=by omega
   rw[a19]at d;exact⟨s,d,a0D (by simp[a1S])⟩
  |succ m ih=>
   intro i s e d;have g:i<l.length:=by omega
   obtain⟨s',r,q,H,I,K⟩:=b2v (lA.1 M l[i] (a32 g)) (a:=l) (l:=l) (n:=(l.length:Int)) (i:=(i:Int)) (10-s) s (by have:=d.1;omega);have u:a9U (l.take (i+1)) s':=by
    rw[a00 g];refine⟨q,fun x k=>?_,fun t v=>?_⟩;rcases mA.1 k with k|k
    have:=b9Y (s'-s) (by omega) (d.2.1 x k)
    rwa [Nat.add_sub_cancel' r]at this
    rw[a27.1 k];exact H
    by_cases hts:t<s
    obtain⟨x,k,L⟩:=d.2.2 t hts;exact⟨x,List.mem_append_left _ k,L⟩;exact⟨l[i],List.mem_append_right _ (a27.2 rfl),I t (by omega) v⟩
   obtain⟨O,F,G⟩:=ih (i+1) s' (by omega) u;refine⟨O,F,?_⟩;rw[a0H (s':=(l,(s':Int),l,(l.length:Int),((i+1:Nat):Int),())) (by
    simp only[a1S,dlt g,cT,a0C g,oB,K,a0B (show i<1000000 by omega)])]
   exact G
 obtain⟨s,r,q⟩:=p l.length 0 0 (by omega) ⟨by omega,fun x k=>by simp at k,fun t v=>by omega⟩;simp only[nZ,a02]at q;refine⟨s,r,?_⟩;have w:decide ((0:Int)≤(l.length:Int))=true:=by simp
 have z:decide ((l.length:Int)≤(l.length:Int))=true:=by simp
 have N:lim l.length=true:=a0G (by omega);have h:=a0R (f:=a1T) (fun i:Nat=>((s:Int),l,(l.length:Int),(i:Int),(l.take i).map (fun x=>A0o .i64 x (s:Int))++a05 (l.length-i) 0,())) l.length (b:=(l.map (fun x=>A0o .i64 x (s:Int)),()))
  (fun i e=>by
   have C:decide ((s:Int)<0)=false:=by simp
   have D:decide ((0:Int)≤(i:Int))=true:=by simp
   have E:decide ((i:Int)<((((l.take i).map (fun x=>A0o .i64 x (s:Int))++a05 (l.length-i) 0).length:Nat):Int))=true:=by
    rw[lN,a04,a20,List.length_replicate];simp;omega
   have j:((l.take i).map (fun x=>A0o .i64 x (s:Int))).length=i:=by rw[a04,a20];omega
   have c:=b5q (A:=(l.take i).map (fun x=>A0o .i64 x (s:Int))) (B:=a05 (l.length-(i+1)) 0) (x:=0) (y:=A0o .i64 l[i] (s:Int));rw[j]at c;have o:a05 (l.length-i) (0:Int)=0::a05 (l.length-(i+1)) 0:=by rw[←List.replicate_succ];congr 1;omega
   simp only[a1T,dlt e,cT,a0C e,oB,C,cF,D,E,a01,tN,a0B (show i<1000000 by omega)];rw[o,c,a00 e,pA,aA];rfl)
  (by simp[a1T])
 simp only[nZ,a24,a28,a16,Nat.sub_zero,a02]at h;unfold a2P;simp only[q,oB,w,z,tN,N,a01,cT,h]
theorem c3W(P:List Int)(b:Int)(R:List Int):(P++b::R).getD P.length 0=b:=by
 simp[lD]
theorem b1q{l:List Int}(c:l.length<100000):y0s a3L (true,(0:Int),l,())=some (l.all f20,l,()):=by
 have:=a0R (f:=a3L) (fun i:Nat=>((l.take i).all f20,(i:Int),l,())) l.length (b:=(l.all f20,l,()))
  (fun i h=>by
   have k:decide ((0:Int)≤(i:Int))=true:=by simp
   have g:l.take (i+1)=l.take i++[l[i]]:=a00 h;have a:l.getD i 0=l[i]:=(a6q h).symm;cases ha:(l.take i).all f20 with
   |true=>
    simp only[a3L,dlt h,cT,ha,k,a01,tN,a7t,oB,a0B (show i<1000000 by omega),a,b5s,g,a09,Bool.true_and,a18,List.all_nil,Bool.and_true]
   |false=>
    simp only[a3L,dlt h,cT,ha,cF,a0B (show i<1000000 by omega),g,a09,a36])
  (by
   have d:decide ((l.length:Int)<(l.length:Int))=false:=by simp
   simp only[a3L,d,cF,a19])
 exact this
theorem b5t{l:List Int}(m:l.length<100000):y0s a5h ((0:Int),l,())=some (l.map (fun x=>A0o .i64 x 1),()):=by
 have:=a0R (f:=a5h) (fun i:Nat=>((i:Int),(l.take i).map (fun x=>A0o .i64 x 1)++l.drop i,())) l.length (b:=(l.map (fun x=>A0o .i64 x 1),()))
  (fun i c=>by
   have j:decide ((0:Int)≤(i:Int))=true:=by simp
   have h:((l.take i).map (fun x=>A0o .i64 x 1)).length=i:=by rw[a04,a20];omega
   have k:((l.take i).map (fun x=>A0o .i64 x 1)++l.drop i).length=l.length:=by rw[lN,h,a30];omega
   have g:=b5q (A:=(l.take i).map (fun x=>A0o .i64 x 1)) (B:=l.drop (i+1)) (x:=l[i]) (y:=A0o .i64 l[i] 1);rw[h]at g;have a:((l.take i).map (fun x=>A0o .i64 x 1)++l.drop i).getD i 0=l[i]:=by
    rw[a06 c]
    have:=c3W ((l.take i).map (fun x=>A0o .i64 x 1)) l[i] (l.drop (i+1))
    rwa [h]at this
   have e:decide ((i:Int)<((((l.take i).map (fun x=>A0o .i64 x 1)++l.drop i).length:Nat):Int))=true:=by rw[k];exact dlt c
   simp only[a5h,e,cT,j,a01,tN,a,a0B (show i<1000000 by omega)];rw[a06 c,g,a00 c,pA,aA];rfl)
  (by
   have d:decide ((l.length:Int)<(l.length:Int))=false:=by simp
   simp only[a5h,a19,a31,a21,a04,d,cF])
 simp only[nZ,a24,a28,a16,a22,a02]at this;exact this
theorem c3j{l:List Int}(q:l.all a0A=true)(o:l.length<100000):∃s,a9U l s∧a5O l=some (l.map fun x=>A0o .i64 x (s:Int)):=by
 have d:∀(m k:Nat),k+m=10→(∀t,t<k→∃x∈l,f20 (A0o .i64 x (t:Int))=false)→
   ∃s,a9U l s∧y0s a5i (l.map (fun x=>A0o .i64 x (k:Int)),())=some (l.map (fun x=>A0o .i64 x (s:Int)),()):=by
  intro m
  induction m with
  |zero=>
   intro k v g;obtain rfl:k=10:=by omega
   have h:(l.map (fun x=>A0o .i64 x ((10:Nat):Int))).all f20=true:=by
    rw[a29];exact lA.2 fun x c=>b2u.2 (b8M (lA.1 q x c))
   refine⟨10,⟨a07 _,fun x c=>b2u.2 (b8M (lA.1 q x c)),g⟩,a0D ?_⟩;simp only[a5i,b1q (l:=l.map (fun x=>A0o .i64 x ((10:Nat):Int))) (by rw[a04];exact o),oB,h,cT]
  |succ m ih=>
   intro k v g;have b:=b1q (l:=l.map (fun x=>A0o .i64 x (k:Int))) (by rw[a04];exact o);cases h:(l.map (fun x=>A0o .i64 x (k:Int))).all f20 with
   |true=>
    rw[h]at b;have f:=h;rw[a29]at f;refine⟨k,⟨by omega,fun x c=>lA.1 f x c,g⟩,a0D ?_⟩;simp only[a5i,b,oB,cT]
   |false=>
    rw[h]at b;have n:∃x∈l,f20 (A0o .i64 x (k:Int))=false:=by
     rw[a29]at h;obtain⟨x,c,u⟩:=List.all_eq_false.1 h;exact⟨x,c,by simpa using u⟩
    obtain⟨s,j,i⟩:=ih (k+1) (by omega) (fun t w=>by
     by_cases e:t=k
     subst e;exact n;exact g t (by omega))
    refine⟨s,j,?_⟩;have a:=b5t (l:=l.map (fun x=>A0o .i64 x (k:Int))) (by rw[a04];exact o);have p:(l.map (fun x=>A0o .i64 x (k:Int))).map (fun x=>A0o .i64 x 1)=l.map (fun x=>A0o .i64 x ((k+1:Nat):Int)):=by
     rw[List.map_map];exact a26 fun x _=>c1G x (by omega)
    rw[p]at a;rw[a0H (s':=(l.map (fun x=>A0o .i64 x ((k+1:Nat):Int)),())) (by
     simp only[a5i,b,oB,cF,a])]
    exact i
 obtain⟨s,j,i⟩:=d 10 0 rfl (fun t w=>by omega);have r:l.map (fun x=>A0o .i64 x ((0:Nat):Int))=l:=by
  refine(a26 fun x _=>?_).trans (List.map_id _);rw[b3S x (by omega)]
  simp
 rw[r]at i;refine⟨s,j,?_⟩;have y:lim (0+l.length)=true:=a0G (by omega);unfold a5O;simp only[y,cT,a03,a16,i,oB]
theorem c1v{l:List Int}(g:l.all a0A=true)(h:l.length<100000):∃r,a2P l=some r∧a5O l=some r∧r.length=l.length:=by
 obtain⟨s,a,b⟩:=c1u g h;obtain⟨s',f,k⟩:=c3j g h
 have:=c3V a f
 subst this;exact⟨_,b,k,by rw[a04]⟩
theorem b5u(n:Int):wrap .i64 n=if 9223372036854775808≤n%18446744073709551616 then n%18446744073709551616-18446744073709551616 else n%18446744073709551616:=by
 simp[wrap,IntKind.bits,IntKind.signed]
theorem b6B(a b:Int):wrap .i64 (a+wrap .i64 b)=wrap .i64 (a+b):=by
 rw[b5u b,b5u,b5u];have e:(a+if 9223372036854775808≤b%18446744073709551616 then b%18446744073709551616-18446744073709551616 else b%18446744073709551616)%18446744073709551616=(a+b)%18446744073709551616:=by
  split<;>omega
 rw[e]
theorem c3X(a b:Int):wrap .i64 (wrap .i64 a+b)=wrap .i64 (a+b):=by
 rw[Int.add_comm,b6B,Int.add_comm]
theorem c3Y:a1N=a6M:=by
 funext st;unfold a1N a6M;have e:∀d a b:Int,wrap .i64 (d+wrap .i64 (wrap .i64 a+wrap .i64 b))=wrap .i64 (wrap .i64 (d+wrap .i64 a)+wrap .i64 b):=fun d a b=>by
  rw[b6B,c3X,Int.add_assoc]
 simp only[e]
theorem c3k:a2k=a9b:=rfl
theorem b6C(x:(List Int)×((List Int)×Int)):a2h x=a4A x:=by
 unfold a2h a4A b2y;rw[c3Y,c3k];congr 1;funext f;congr 1;funext g;have e:A0n .i64 g.1 15=wrap .i64 (g.1*32768):=rfl;rw[e];cases h:(g.2.1==(0:Int))with
 |true=>rfl
 |false=>
  simp only[h,cF];cases decide (Int.tmod (wrap .i64 (g.1*32768)) g.2.1<0)<;>rfl
def c20(x:Int):Int:=v0s (v0r x (-1048576)) 1048575
def a3h(f b:List Int)(k:Int)(i:Nat):Int:=c20 (wrap .i64 (f.getD i 0-A0o .i64 (wrap .i64 (k*b.getD (i-1) 0)) 14))
def a3u(f b:List Int)(k:Int)(i:Nat):Int:=c20 (wrap .i64 (b.getD (i-1) 0-A0o .i64 (wrap .i64 (k*f.getD i 0)) 14))
def upd(g:Nat→Int)(f:List Int)(lo hi:Nat):List Int:=(List.range f.length).map fun i=>if lo≤i∧i<hi then g i else f.getD i 0
theorem a2c(g:Nat→Int)(f:List Int)(lo h:Nat):(upd g f lo h).length=f.length:=by simp[upd]
theorem a8k(g:Nat→Int)(f:List Int)(lo k:Nat){i:Nat}(h:i<f.length):(upd g f lo k).getD i 0=if lo≤i∧i<k then g i else f.getD i 0:=by
 simp[upd,lD,h]
theorem a7k(g:Nat→Int)(f:List Int){lo hi:Nat}(h:hi≤lo∨f.length≤lo):upd g f lo hi=f:=by
 refine a33 (a2c _ _ _ _) fun i a k=>?_
 rw[a6q a,a6q k,a8k g f lo hi k,if_neg (by omega)]
theorem b4d{g:Nat→Int}{f:List Int}{lo hi lo' hi' i:Nat}(d:i<f.length)(h:∀j,j<f.length→((lo'≤j∧j<hi')↔(j=i∨(lo≤j∧j<hi)))):(upd g f lo hi).set i (g i)=upd g f lo' hi':=by
 refine a33 (by rw[List.length_set,a2c,a2c]) fun j l a=>?_
 have k:j<f.length:=by rw[a2c]at a;exact a
 rw[List.getElem_set]
 by_cases e:i=j
 subst e;rw[if_pos rfl,a6q a,a8k g f _ _ k,if_pos ((h i k).2 (.inl rfl))];rw[if_neg e,a6q (by rw[a2c];exact k),a6q a,a8k g f _ _ k,a8k g f _ _ k]
 have:=h j k
 by_cases hc:lo≤j∧j<hi
 rw[if_pos hc,if_pos (this.2 (.inr hc))];rw[if_neg hc,if_neg (fun c=>(this.1 c).elim (fun b=>e b.symm) hc)]
theorem b1S{f b ks:List Int}{o m:Nat}{k:Int}(v:1≤m)(c:m≤40)(h:b.length=f.length)(u:f.length<100000):∀(j i:Nat),i+1=m+j→i<f.length→
  y0s a1g ((o:Int),(m:Int),k,(i:Int),upd (a3h f b k) f (i+1) f.length,upd (a3u f b k) b (i+1) f.length,ks,()) =
   some ((o:Int),(m:Int),upd (a3h f b k) f m f.length,upd (a3u f b k) b m f.length,ks,())
 |0,i,hj,hi=>by
  obtain rfl:m=i+1:=by omega
  have d:decide ((i:Int)≥((i+1:Nat):Int))=false:=decide_eq_false (by omega);exact a0D (by simp only[a1g,d,cF])
 |j+1,i,hj,hi=>by
  have d:decide ((i:Int)≥(m:Int))=true:=by simp;omega
  have r:wrap .i64 ((i:Int)-1)=((i-1:Nat):Int):=by rw[a0I (by omega)];omega
  have e:decide ((0:Int)≤(i:Int))=true:=by simp
  have l:decide ((0:Int)≤((i-1:Nat):Int))=true:=by simp
  have l1:=a2c (a3h f b k) f (i+1) f.length;have l2:=a2c (a3u f b k) b (i+1) f.length;have n:decide ((i:Int)<(((upd (a3h f b k) f (i+1) f.length).length:Nat):Int))=true:=by rw[l1];exact dlt hi
  have p:decide (((i-1:Nat):Int)<(((upd (a3u f b k) b (i+1) f.length).length:Nat):Int))=true:=by rw[l2,h];exact dlt (by omega)
  have q:decide ((i:Int)<(((upd (a3u f b k) b (i+1) f.length).length:Nat):Int))=true:=by rw[l2,h];exact dlt hi
  have s:(upd (a3h f b k) f (i+1) f.length).getD i 0=f.getD i 0:=by rw[a8k _ _ _ _ hi,if_neg (by omega)]
  have t:(upd (a3u f b k) b (i+1) f.length).getD (i-1) 0=b.getD (i-1) 0:=by rw[a8k _ _ _ _ (by omega),if_neg (by omega)]
  have x:(upd (a3h f b k) f (i+1) f.length).set i (a3h f b k i)=upd (a3h f b k) f i f.length:=b4d hi fun w a=>by omega
  have y:(upd (a3u f b k) b (i+1) f.length).set i (a3u f b k i)=upd (a3u f b k) b i f.length:=b4d (by omega) fun w a=>by omega
  have g:i-1+1=i:=by omega
  rw[a0H (s':=((o:Int),(m:Int),k,((i-1:Nat):Int),upd (a3h f b k) f i f.length,upd (a3u f b k) b i f.length,ks,())) (by
   simp only[a1g,d,cT,e,n,a01,r,l,p,tN,a1F,oB,q,s,t];rw[←x,←y];rfl)]
  have:=b1S (ks:=ks) (o:=o) (k:=k) v c h u j (i-1) (by omega) (by omega)
  rw[g]at this;exact this
theorem b2w{f b ks:List Int}{o m:Nat}{k:Int}(t:1≤m)(a:m≤40)(c:b.length=f.length)(s:f.length<100000):∀(j i:Nat),i+j=f.length→m≤i→
  y0s a1O ((o:Int),b,(m:Int),k,(i:Int),upd (a3h f b k) f m i,ks,upd (a3u f b k) b m i,()) =
   some ((o:Int),(m:Int),k,upd (a3h f b k) f m f.length,ks,upd (a3u f b k) b m f.length,())
 |0,i,hj,hi=>by
  obtain rfl:i=f.length:=by omega
  have d:decide ((f.length:Int)<(((upd (a3h f b k) f m f.length).length:Nat):Int))=false:=by rw[a2c];simp
  exact a0D (by simp only[a1O,d,cF])
 |j+1,i,hj,hi=>by
  have h:i<f.length:=by omega
  have p:wrap .i64 ((i:Int)-1)=((i-1:Nat):Int):=by rw[a0I (by omega)];omega
  have e:decide ((0:Int)≤(i:Int))=true:=by simp
  have l1:=a2c (a3h f b k) f m i;have l2:=a2c (a3u f b k) b m i;have l:decide ((i:Int)<(((upd (a3h f b k) f m i).length:Nat):Int))=true:=by rw[l1];exact dlt h
  have n:decide ((i:Int)<(((upd (a3u f b k) b m i).length:Nat):Int))=true:=by rw[l2,c];exact dlt h
  have r:m0k b ((i-1:Nat):Int)=some (b.getD (i-1) 0):=by rw[a0C (show i-1<b.length by omega),a6q (show i-1<b.length by omega)]
  have q:(upd (a3h f b k) f m i).getD i 0=f.getD i 0:=by rw[a8k _ _ _ _ h,if_neg (by omega)]
  have v:(upd (a3h f b k) f m i).set i (a3h f b k i)=upd (a3h f b k) f m (i+1):=b4d h fun u g=>by omega
  have w:(upd (a3u f b k) b m i).set i (a3u f b k i)=upd (a3u f b k) b m (i+1):=b4d (by omega) fun u g=>by omega
  rw[a0H (s':=((o:Int),b,(m:Int),k,((i+1:Nat):Int),upd (a3h f b k) f m (i+1),ks,upd (a3u f b k) b m (i+1),())) (by
   simp only[a1O,l,cT,e,a01,p,r,oB,tN,a7t,q,n,a0B (show i<1000000 by omega)];rw[←v,←w];rfl)]
  exact b2w (ks:=ks) (o:=o) (k:=k) t a c s j (i+1) (by omega) (by omega)
theorem b8A{f b ks:List Int}{o m:Nat}{k:Int}(e:1≤m)(g:m≤40)(a:b.length=f.length)(c:f.length<100000):
  y0s a1g ((o:Int),(m:Int),k,wrap .i64 ((f.length:Int)-1),f,b,ks,()) =
   some ((o:Int),(m:Int),upd (a3h f b k) f m f.length,upd (a3u f b k) b m f.length,ks,()):=by
 rw[a0I (n:=(f.length:Int)-1) (by omega)]
 by_cases h:m<f.length
 have:=b1S (ks:=ks) (o:=o) (k:=k) e g a c (f.length-m) (f.length-1) (by omega) (by omega)
 rw[show f.length-1+1=f.length from by omega,a7k (a3h f b k) f (.inl (a07 _)),a7k (a3u f b k) b (.inl (a07 _)),show((f.length-1:Nat):Int)=(f.length:Int)-1 from by omega]at this;exact this;rw[a7k (a3h f b k) f (.inl (by omega)),a7k (a3u f b k) b (.inl (by omega))];have d:decide ((f.length:Int)-1≥(m:Int))=false:=by simp only[decide_eq_false_iff_not];omega
 exact a0D (by simp only[a1g,d,cF])
theorem b9Z{f b ks:List Int}{o m:Nat}{k:Int}(e:1≤m)(g:m≤40)(a:b.length=f.length)(c:f.length<100000):
  y0s a1O ((o:Int),b,(m:Int),k,(m:Int),f,ks,b,()) =
   some ((o:Int),(m:Int),k,upd (a3h f b k) f m f.length,ks,upd (a3u f b k) b m f.length,()):=by
 by_cases h:m<f.length
 have:=b2w (ks:=ks) (o:=o) (k:=k) e g a c (f.length-m) m (by omega) (a07 _)
 rw[a7k (a3h f b k) f (.inl (a07 _)),a7k (a3u f b k) b (.inl (a07 _))]at this;exact this;rw[a7k (a3h f b k) f (.inl (by omega)),a7k (a3u f b k) b (.inl (by omega))];have d:decide ((m:Int)<(f.length:Int))=false:=by simp only[decide_eq_false_iff_not];omega
 exact a0D (by simp only[a1O,d,cF])
theorem b2x{o:Nat}(l:o≤32):∀(j m:Nat)(f b ks:List Int),m+j=o+1→1≤m→b.length=f.length→f.length<100000→ks.length+1=m→
  ∃r,y0s a1D ((o:Int),(m:Int),f,b,ks,())=some (r,())∧y0s a3x ((o:Int),b,(m:Int),f,ks,())=some (r,())
 |0,m,f,b,ks,hj,_,_,_,_=>by
  have d:decide ((m:Int)≤(o:Int))=false:=by simp only[decide_eq_false_iff_not];omega
  exact⟨ks,a0D (by simp only[a1D,d,cF]),a0D (by simp only[a3x,d,cF])⟩
 |j+1,m,f,b,ks,hj,hm,hb,hf,hk=>by
  have d:decide ((m:Int)≤(o:Int))=true:=by simp only[dT];omega
  obtain⟨k,a⟩:=b1F hm hb hf (show m<1000 by omega);have i:a4A (f,b,(m:Int))=some k:=by rw[←b6C];exact a
  have w:=a0B (show m<1000000 by omega);have h:=a7R (show ks.length+1<2147483648 by omega);have g:=a7R (show 0+b.length<2147483648 by omega);obtain⟨r,c,e⟩:=b2x l j (m+1) (upd (a3h f b k) f m f.length) (upd (a3u f b k) b m f.length) (ks++[k]) (by omega) (by omega) (by rw[a2c,a2c,hb]) (by rw[a2c];exact hf) (by rw[lN,List.length_singleton];omega);refine⟨r,?_,?_⟩;rw[a0H (s':=((o:Int),((m+1:Nat):Int),upd (a3h f b k) f m f.length,upd (a3u f b k) b m f.length,ks++[k],())) (by
   simp only[a1D,d,cT,a,oB,h,a03];rw[b8A hm (by omega) hb hf];simp only[oB,w])]
  exact c;rw[a0H (s':=((o:Int),upd (a3u f b k) b m f.length,((m+1:Nat):Int),upd (a3h f b k) f m f.length,ks++[k],())) (by
   simp only[a3x,d,cT,i,oB,g,a03,a16];rw[b9Z hm (by omega) hb hf];simp only[oB,h,cT,w])]
  exact e
theorem c0A{l:List Int}(k:l.all a0A=true)(q:l.length≤4096){o:Nat}(p:1≤o)(j:o≤32):∃ks:List Int,a2w (l,(o:Int))=some (ks,0)∧a4I (l,(o:Int))=some (ks,0)∧ks.length=o:=by
 obtain⟨ks,h,a⟩:=b3I k q p j;refine⟨ks,h,?_,a⟩;obtain⟨f,s,t,u⟩:=c1v k (by omega);obtain⟨r,e,i⟩:=b2x j o 1 f f [] (by omega) (by omega) rfl (by omega) rfl;have g:short l:=by unfold short;omega
 have b:decide ((o:Int)<1)=false:=by simp only[decide_eq_false_iff_not];omega
 have c:decide ((o:Int) > 32)=false:=by simp only[decide_eq_false_iff_not];omega
 have d:decide (((l.length:Nat):Int) > 4096)=false:=by simp only[decide_eq_false_iff_not];omega
 have m:decide ((0:Int)≤(o:Int))=true:=by simp
 have n:a2w (l,(o:Int))=some (r,0):=by
  unfold a2w;simp only[b,c,d,cF,oB,a4c g,k,bT,s,a7f (show short f by unfold short;omega),m,tN,a7R (show o<2147483648 by omega),a01,cT];simp only[a02]at e
  erw[e]
  rfl
 rw[n]at h;simp only[sj,pJ,and_true]at h;subst h;unfold a4I;simp only[b,c,d,cF,oB,a0N g,k,bT,t];simp only[a02]at i
 erw[i]
 rfl
theorem c3Z{l:List Int}(j:l.all a0A=true)(i:l.length≤4096){o w:Nat}(k:1≤o)(a:o≤32)(b:2≤w∧w≤16):
  ∃c sh e,a2n (l,(o:Int),(w:Int))=some (c,sh,e)∧a6d (l,(o:Int),(w:Int))=some (c,sh,e)∧(e=0→c.length=o):=by
 obtain⟨c,sh,e,d,p⟩:=b7B j i k a b;refine⟨c,sh,e,d,?_,p⟩;rw[←d];obtain⟨ks,x,r2,y⟩:=c0A j i k a;unfold a2n a6d;have z0:((0:Int) != 0)=false:=rfl;simp only[x,r2,oB,z0,cF];obtain⟨r,g,n⟩:=c3g (ks:=ks) (by omega) (by omega);obtain⟨m,f,h,t⟩:=b6e (ks:=ks) (by omega) (by omega);rw[g]at h;simp only[sj]at h;subst h;simp only[g,n,oB]
 by_cases he:f=0
 subst he;have s:=t rfl;obtain⟨q,u,v⟩:=c3i (c:=m) (by omega) (by omega) b;simp only[z0,cF,u,v,oB]
 have:(f != 0)=true:=by simpa using he
 simp only[this,cT]
theorem b8B{d:List Int}(i:d.all a0A=true)(b:d.length≤4096){o w:Nat}(g:1≤o)(f:o≤32)(k:2≤w∧w≤16):
  a7b (d,(o:Int),(w:Int))=some (cS 3 0 (a6p d o w).2.1 (a6p d o w).1 [],(a6p d o w).2.2==0):=by
 obtain⟨c,sh,e,j,h,-⟩:=c3Z i b g f k;have a:a6p d o w=(c,sh,e):=by simp_all[a6p]
 unfold a7b;simp only[h,oB,a];rfl
theorem a9t{d:List Int}(b:d.all a0A=true)(a:d.length≤4096){o w:Nat}(g:1≤o)(f:o≤32)(k:2≤w∧w≤16){L:List Sub}(c:L.length<1000):
  a1b (L,d,(o:Int),(w:Int))=some (L++a7J d o w,[]):=by
 have h:lim (L.length+1)=true:=a0G (by omega);unfold a1b a7J;simp only[b8B b a g f k,oB];cases (a6p d o w).2.2==0 with
 |true=>simp_all
 |false=>simp
theorem c1w{d:List Int}{L:List Sub}(k:L.length<1000):y0s a4r (d,(0:Int),L,())=some (d,L++a4i 5,()):=by
 have:=a0R (f:=a4r) (fun i:Nat=>(d,(i:Int),L++a4i i,())) 5 (b:=(d,L++a4i 5,()))
  (fun i a=>by
   have g:decide ((i:Int)<5)=true:=decide_eq_true (by omega);have h:lim ((L++a4i i).length+1)=true:=a0G (by simp[a4i];omega);have e:(L++a4i i)++[cS 2 (i:Int) 0 [] []]=L++a4i (i+1):=by simp[a4i,a35]
   rw[←e];simp only[a4r,g,cT,h,a0B (show i<1000000 by omega)];rfl)
  (by
   rfl)
 simp at this;rw[show a4i 0=[]from rfl,a21]at this;omega
def b7n(d:List Int):Prop:=∃r,a7v d=some r∧r.2=(a9q d).2∧(r.2=true→r.1=(a9q d).1)
theorem c4G{d:List Int}(a:d.all a0A=true)(i:d.length≤4096)(m:b7n d)(k:Int):a9B (d,k)=some (a2t d k):=by
 obtain⟨o,G,F⟩:=b6v (show d.length<100000 by omega) a;have Q:b6u d=o:=by simp_all[b6u]
 obtain⟨O,q,H,I⟩:=m;have E:(b0B d).length≤1:=by grind[b0B]
 have R:=a3U d 4 12;have S:=a3U d 8 12;have l1:=a3U d 1 12;have l2:=a3U d 2 12;have K:=a3U d 12 14;have z:=fun L (hL:L.length<1000)=>a9t (L:=L) a i (o:=4) (w:=12) (by omega) (by omega) (by omega) hL;have A:=fun L (hL:L.length<1000)=>a9t (L:=L) a i (o:=8) (w:=12) (by omega) (by omega) (by omega) hL;have x:=fun L (hL:L.length<1000)=>a9t (L:=L) a i (o:=1) (w:=12) (by omega) (by omega) (by omega) hL;have y:=fun L (hL:L.length<1000)=>a9t (L:=L) a i (o:=2) (w:=12) (by omega) (by omega) (by omega) hL;have j:=fun L (hL:L.length<1000)=>a9t (L:=L) a i (o:=12) (w:=14) (by omega) (by omega) (by omega) hL;have l:=fun L (hL:L.length<1000)=>a9t (L:=L) a i (o:=16) (w:=14) (by omega) (by omega) (by omega) hL;simp at z A x y j l;have T:(a1a d).length=3:=rfl;have n1:(a1v d k).length≤2:=by unfold a1v;split<;>simp<;>omega
 have n2:(a4L d k).length≤3:=by unfold a4L;split<;>simp<;>omega
 have U:(a4i 5).length=5:=rfl;have D:a9B (d,k)=(a5g d).bind fun B=>
   (show Option ((List Int)×(Int×((List Sub)×Unit)))from bif decide (k≥1)then((a1b ([cS 0 0 0 [] [],cS 1 0 0 [] [],cS 2 B 0 [] []],d,(4:Int),(12:Int))).bind fun r=>(a1b (r.1,d,(8:Int),(12:Int))).bind fun s=>some (d,k,s.1,()))else some (d,k,[cS 0 0 0 [] [],cS 1 0 0 [] [],cS 2 B 0 [] []],())).bind fun g=>
   (show Option ((List Int)×(Int×((List Sub)×Unit)))from bif decide (g.2.1≥2)then(bif lim (g.2.2.1.length+2)then((a7v g.1).bind fun n=>
    bif n.2 then(bif lim ((g.2.2.1++[cS 5 0 0 [] [((16:Int),(4:Int),())],cS 5 0 0 [] [((32:Int),(3:Int),()),((16:Int),(5:Int),())]]).length+1)then some (g.1,g.2.1,g.2.2.1++[cS 5 0 0 [] [((16:Int),(4:Int),())],cS 5 0 0 [] [((32:Int),(3:Int),()),((16:Int),(5:Int),())]]++[n.1],())else none)
    else some (g.1,g.2.1,g.2.2.1++[cS 5 0 0 [] [((16:Int),(4:Int),())],cS 5 0 0 [] [((32:Int),(3:Int),()),((16:Int),(5:Int),())]],()))else none)else some (g.1,g.2.1,g.2.2.1,())).bind fun p=>
   (show Option ((List Sub)×Unit)from bif decide (p.2.1≥3)then((y0s a4r (p.1,(0:Int),p.2.2.1,())).bind fun f=>(a1b (f.2.1,f.1,(1:Int),(12:Int))).bind fun t=>(a1b (t.1,f.1,(2:Int),(12:Int))).bind fun u=>
    (a1b (u.1,f.1,(12:Int),(14:Int))).bind fun b=>(a1b (b.1,f.1,(16:Int),(14:Int))).bind fun c=>some (c.1,()))else some (p.2.2.1,())).bind fun v=>some v.1:=rfl
 have C:[cS 0 0 0 [] [],cS 1 0 0 [] [],cS 2 o 0 [] []]=a1a d:=by unfold a1a;grind
 have P:(bif decide (k≥1)then((a1b (a1a d,d,(4:Int),(12:Int))).bind fun r=>(a1b (r.1,d,(8:Int),(12:Int))).bind fun s=>some (d,k,s.1,()))else some (d,k,a1a d,()):Option ((List Int)×(Int×((List Sub)×Unit))))=some (d,k,a1a d++a1v d k,()):=by
  unfold a1v
  by_cases h:1≤k
  have e:decide (k≥1)=true:=decide_eq_true h;simp only[e,cT,z (a1a d) (by omega),oB,A (a1a d++a7J d 4 12) (by grind),if_pos h,aA]
  grind
 have V:(bif decide (k≥2)then(bif lim ((a1a d++a1v d k).length+2)then((a7v d).bind fun n=>
    bif n.2 then(bif lim ((a1a d++a1v d k++[cS 5 0 0 [] [((16:Int),(4:Int),())],cS 5 0 0 [] [((32:Int),(3:Int),()),((16:Int),(5:Int),())]]).length+1)then some (d,k,a1a d++a1v d k++[cS 5 0 0 [] [((16:Int),(4:Int),())],cS 5 0 0 [] [((32:Int),(3:Int),()),((16:Int),(5:Int),())]]++[n.1],())else none)
    else some (d,k,a1a d++a1v d k++[cS 5 0 0 [] [((16:Int),(4:Int),())],cS 5 0 0 [] [((32:Int),(3:Int),()),((16:Int),(5:Int),())]],()))else none)else some (d,k,a1a d++a1v d k,()):Option ((List Int)×(Int×((List Sub)×Unit))))=some (d,k,a1a d++(a1v d k++a4L d k),()):=by
  unfold a4L
  by_cases h:2≤k
  ·have e:decide (k≥2)=true:=decide_eq_true h;have M:lim ((a1a d++a1v d k).length+2)=true:=a0G (by grind);have N:lim ((a1a d++a1v d k++[cS 5 0 0 [] [((16:Int),(4:Int),())],cS 5 0 0 [] [((32:Int),(3:Int),()),((16:Int),(5:Int),())]]).length+1)=true:=a0G (by simp;omega);simp only[e,M,N,cT,q,oB,if_pos h,b0B];cases hg:O.2 with
   |true=>
    simp_all
   |false=>simp_all
  grind
 have X:(bif decide (k≥3)then((y0s a4r (d,(0:Int),a1a d++(a1v d k++a4L d k),())).bind fun f=>(a1b (f.2.1,f.1,(1:Int),(12:Int))).bind fun t=>(a1b (t.1,f.1,(2:Int),(12:Int))).bind fun u=>
    (a1b (u.1,f.1,(12:Int),(14:Int))).bind fun b=>(a1b (b.1,f.1,(16:Int),(14:Int))).bind fun c=>some (c.1,()))else some (a1a d++(a1v d k++a4L d k),()):Option ((List Sub)×Unit))=some (a2t d k,()):=by
  unfold a2t b4b
  by_cases h:3≤k
  have e:decide (k≥3)=true:=decide_eq_true h;simp only[e,cT,c1w (L:=a1a d++(a1v d k++a4L d k)) (by simp;omega),oB,if_pos h];rw[x _ (by simp;omega)];simp only[oB];rw[y _ (by simp;omega)];simp only[oB];rw[j _ (by simp;omega)];simp only[oB];rw[l _ (by simp;omega)]
  simp
  grind
 rw[D,F,oB,C];simp only[];rw[P];simp only[oB];simp_all
theorem b8C{d:List Int}(f:d.length≤256):b7n d:=by
 have h:=b9S f;have hp:a9q d=(a0V 0,false):=by unfold a9q;simp_all
 have k:decide (((d.length:Nat):Int) > 4096)=false:=decide_eq_false (by omega);have a:decide (((d.length:Nat):Int)≤256)=true:=decide_eq_true (by omega);have g:a7u (d,(16:Int),(256:Int))=some (0,7):=by
  unfold a7u
  grind
 refine⟨(a0V 0,false),?_,by grind,fun h=>by grind⟩;unfold a7v;simp only[g,oB,show((7:Int) != 0)=true from rfl,cT];rfl
def b7o(a:Int×(Bool×Sub)):Prop:=(a.2.1=false→a.1=0)∧(a.2.1=true→a.1≠0)
theorem c3l{l:List Int}{c:Sub}(g:SmallS c){a:Int×(Bool×Sub)}(h:b7o a):b7o (a7D l a c):=by
 unfold a7D;cases he:(a1e c.1 l c).2 != 0 with
 |true=>grind
 |false=>
  simp
  cases !a.2.1 || decide (a3P (a1e c.1 l c).1 (l.length:Int)<a.1)with
  |false=>grind
  |true=>
   simp
   obtain⟨a1,-,-,f⟩:=b4a g (show(a1e c.1 l c).2=0 by simp_all)
   have:=c3S a1 (n:=(l.length:Int)) (by simp_all)
   exact⟨fun h=>(by grind),fun _=>(by omega)⟩
theorem b8D{l:List Int}{cs:List Sub}(q:∀c∈cs,SmallS c)(w:l.length≤4096)(v:cs.length<1000):
  y0s a4D (l,(0:Int),(0:Int),cs,a0V 0,a0V 0,())=some (a0V 0,(b0R l cs).2.2,()):=by
 have:=a1U (f:=a4D) cs (fun i (a:Int×(Bool×Sub))=>(l,a.1,(i:Int),cs,a0V 0,a.2.2,())) (fun a x=>.inl (a7D l a x)) (fun _ a=>b7o a) (fun a=>(a0V 0,a.2.2,()))
  (fun i m a j=>by
   refine⟨fun t g=>?_,fun b u=>by grind⟩;simp at g;subst g;have d:=q _ (a32 m);refine⟨?_,c3l d j⟩;have n:=c1i (b4H (k:=cs[i].1) (l:=l) d) (l.length:Int);have p:List.getD cs (Int.toNat (i:Int)) (a0V 0)=cs[i]:=by simp_all
   have s:a0V 0=((0:Int),(0:Int),(0:Int),(0:Int),(0:Int),([]:(List Int)),a05 3 (0:Int),([]:(List (Int×Int×Unit))),([]:(List Int)),((0:Int),([]:(List Int)),()),([]:(List Int)),()):=rfl;have o:decide ((0:Int)≤(i:Int))=true:=by simp
   have r:=a0B (show i<1000000 by omega);unfold a7D;simp only[a4D,dlt m,cT,o,a01,←s,p,c1q d cs[i].1 (show l.length≤100000 by omega),oB,n];cases (a1e cs[i].1 l cs[i]).2 != 0 with
   |true=>simp_all
   |false=>
    cases hf:a.2.1 with
    |false=>
     have e:(a.1==(0:Int))=true:=by rw[j.1 hf];rfl
     simp_all
    |true=>
     have e:(a.1==(0:Int))=false:=by simpa using j.2 hf
     grind)
  (fun a _=>by simp_all[a4D]) (a:=((0:Int),false,a0V 0)) ⟨fun _=>rfl,fun h=>(by grind)⟩
 simp at this;rw[this,b5o];rfl
theorem c1x{l:List Int}(v:1≤l.length)(b:l.length≤4096)(a:l.all a0A=true)(h:b4c (a0T l))(c:b7n (a0T l)){k:Int}(u:0≤k)(x:k≤3):
  a2p (l,k)=some ((b0R l (a2t (a0T l) k)).2.2,0):=by
 have e:short l:=by unfold short;omega
 have s:=b3O e a;obtain⟨-,d,t,-⟩:=a4h b a;have i:decide (((l.length:Nat):Int)<1)=false:=decide_eq_false (by omega);have j:decide (((l.length:Nat):Int) > 4096)=false:=decide_eq_false (by omega);have m:decide (k<0)=false:=decide_eq_false (by omega);have n:decide (k > 3)=false:=decide_eq_false (by omega);have f:(a2t (a0T l) k).length<1000:=by
  have g:=fun o w=>a3U (a0T l) o w;have y:=g 4 12;have z:=g 8 12;have A:=g 1 12;have B:=g 2 12;have C:=g 12 14;have D:=g 16 14;have q:(b0B (a0T l)).length≤1:=by grind[b0B]
  simp only[a2t,a1a,a1v,a4L,b4b,lN]
  grind[a4i]
 have p:=b8D (l:=l) (b2X d (by omega) h k) b f;have r:a0V 0=((0:Int),(0:Int),(0:Int),(0:Int),(0:Int),([]:(List Int)),a05 3 (0:Int),([]:(List (Int×Int×Unit))),([]:(List Int)),((0:Int),([]:(List Int)),()),([]:(List Int)),()):=rfl;unfold a2p;simp only[←r,i,j,m,n,cF,oB,a0N e,a,bT,s,b4G b a,c4G d (show(a0T l).length≤4096 by omega) c,p]
theorem c4a{l:List Int}(o:l.length≤256)(k:Int):∃s e,a2Q (l,k)=some (s,e)∧a2p (l,k)=some (s,e)∧(s=a0V 0∨SmallS s):=by
 have a:a0V 0=((0:Int),(0:Int),(0:Int),(0:Int),(0:Int),([]:(List Int)),a05 3 (0:Int),([]:(List (Int×Int×Unit))),([]:(List Int)),((0:Int),([]:(List Int)),()),([]:(List Int)),()):=rfl;have j:short l:=by unfold short;omega
 by_cases h1:1≤l.length
 rotate_left;have g:decide (((l.length:Nat):Int)<1)=true:=decide_eq_true (by omega);refine⟨a0V 0,1,?_,?_,.inl rfl⟩;unfold a2Q;simp only[g,cT,oB,a];unfold a2p;simp only[g,cT,oB,a];have g:decide (((l.length:Nat):Int)<1)=false:=decide_eq_false (by omega);have b:decide (((l.length:Nat):Int) > 4096)=false:=decide_eq_false (by omega)
 by_cases hk:0≤k∧k≤3
 rotate_left;have h:(k<0)∨(¬ k<0∧k > 3):=by omega
 rcases h with h|⟨h,c⟩;refine⟨a0V 0,1,?_,?_,.inl rfl⟩;unfold a2Q;simp only[g,b,decide_eq_true h,cF,cT,oB,a];unfold a2p;simp only[g,b,decide_eq_true h,cF,cT,oB,a];refine⟨a0V 0,1,?_,?_,.inl rfl⟩;unfold a2Q;simp only[g,b,decide_eq_false h,decide_eq_true c,cF,cT,oB,a];unfold a2p;simp only[g,b,decide_eq_false h,decide_eq_true c,cF,cT,oB,a];have h:decide (k<0)=false:=decide_eq_false (by omega);have c:decide (k > 3)=false:=decide_eq_false (by omega)
 by_cases hw:l.all a0A=true
 obtain⟨-,-,n,-⟩:=a4h (by omega) hw;have f:=c6t (d:=a0T l) (by omega);obtain⟨s,b1,b2,-,m,-⟩:=c3e h1 (by omega) hw f hk.1 hk.2;exact⟨s,0,b1,by rw[m];exact c1x h1 (by omega) hw f (b8C (by omega)) hk.1 hk.2,.inr b2⟩;have i:=Bool.eq_false_iff.2 hw;refine⟨a0V 0,6,?_,?_,.inl rfl⟩;unfold a2Q;simp only[g,b,h,c,cF,oB,a3s j,i,a23,cT,a];unfold a2p;simp only[g,b,h,c,cF,oB,a0N j,i,a23,cT,a]
theorem c0B(x:List Int×Int):a9f x=some true:=by
 obtain⟨l,k⟩:=x;unfold a9f;simp only[c2M,oB,bT,cF]
 by_cases hl:((l.length:Nat):Int) > 60
 rw[decide_eq_true hl];rfl;rw[decide_eq_false hl];obtain⟨s,e,g,f,h⟩:=c4a (l:=l) (by omega) k;have a:SmallS s:=by
  rcases h with rfl|h;exact b6t;exact h
 simp only[cF,g,f,oB,b5X a,decide_true,cT,beq_self_eq_true]
end Go.Ab
namespace Go.Proofs.YtjoohiokfkdfpaaGreatDoor
open Go.Ab Go.ChangeShapes Go.WideShapes Go.ChangeAt Go.RowKit
theorem b3T{α:Type}{f:Nat→Option (α×a0z×List Nat)}:∀(L:List α)(i:Nat),(∀(j:Nat) x,L[j]?=some x→f (i+j)=some (x,[],[]))→a0d f L.length i=some (L,[],[])
 | [],_,_=>rfl
 |a::L,i,h=>by
  have g:=h 0 a rfl;have k:=b3T L (i+1) (fun j x b=>by have:=h (j+1) x (by simpa using b);rw[←this];congr 1;omega);simp only[lC,a0d];simp only[Nat.add_zero]at g;rw[g,k];rfl
section
variable {H:Type} {enc:TypeId×Value→H} {P:Program} {w:World} {base:Nat} {spare:Nat→Bool} {held:Bool}
theorem b8E{k:IntKind}{n:Nat}{t e:TypeId}{fuel:Nat}{cs:List Value}{L:List Int}{p:List MemPlace}(B:P.underlying t=some (.array n e))(u:P.underlying e=some (.int k))(s:P.cellsOf e=1)
  (h:DataW.trod enc P w base spare held fuel t cs=some (.agg (L.map fun i=>.lit (.int k i)),p)):L.length=n∧∀(j:Nat) x,L[j]?=some x→cs[j]?=some (.int k x):=by
 obtain⟨C,m,rfl,b,-,A,a⟩:=DataW.trod_array B h;simp only[pJ,DataW.agg.injEq]at b;have z:L.length=n:=by rw[←A];simpa using congrArg List.length b.1
 refine⟨z,fun j x c=>?_⟩;obtain⟨v,-⟩:=lS.1 c;have g:=a j (by omega);rw[s]at g;obtain⟨y,d⟩:∃y,C[j]?=some y:=⟨_,lG (by omega)⟩;rw[d]at g;obtain⟨i,o,q,-⟩:=DataW.trod_int u g;have f:=congrArg (fun l=>l[j]?) b.1;simp only[List.getElem?_map,c,d,Option.map_some,q]at f;simp only[sj,DataW.lit.injEq,Lit.int.injEq,true_and]at f;subst f;have r:=congrArg (fun l=>l[0]?) o;simpa[List.getElem?_drop,List.getElem?_take]using r
end
def c1H : String := (Rows.frameMovedRow.laid.map Prod.fst).headD ""
theorem d1e:Tryz.prog.globalNamed c1H=some 0:=by kernel_rfl
def c4H:TypeId:=((Tryz.prog.globals[0]?).map (·.type)).getD 0
theorem c5V:(Tryz.prog.globals[0]?).map (·.type)=some c4H:=by kernel_rfl
def c4I:TypeId:=match Tryz.prog.underlying c4H with
 |some (.array _ e)=>e
 |_=>0
theorem d1f:Tryz.prog.underlying c4H=some (.array 64 c4I):=by kernel_rfl
theorem c8a:Tryz.prog.underlying c4I=some (.int .u8):=by kernel_rfl
theorem c8b:Tryz.prog.cellsOf c4I=1:=by kernel_rfl
@[reducible] def laidTab:List (String×DataW Unit):=[(c1H,Rows.laid_math_bits_deBruijn64tab)]

theorem c6u {g:Nat} {t:Ty} {x:t.den} (h:G0 g=some ⟨t,x⟩):g=0∧(⟨t,x⟩:(t:Ty)×t.den)=⟨.arr 64 (.int .u8),a9u⟩:=by
 unfold G0 find at h
 cases g with
 |zero=>exact⟨rfl,(Option.some.inj h).symm⟩
 |succ n=>exact absurd h (by simp[find])
theorem c0C{W:World}(h:laidMetH Tryz.prog laidTab W):∀g t x,G0 g=some ⟨t,x⟩→g<W.heap.size∧dec (a0a W none) t ((Src.at g 0).rd (a0a W none))=some (x,[],[]):=by
 rw[MakeChecks.laidMetH_plain _ _ _ (by kernel_rfl)]at h;obtain⟨ps,⟨r,w,m,q,u,v,b,c,d,a,_⟩,_,_⟩:=h;obtain rfl:=Option.some.inj (d1e.symm.trans b);obtain rfl:=Option.some.inj (c5V.symm.trans c);have n:(Rows.laid_math_bits_deBruijn64tab:DataW Unit)=.agg (a9u.map fun i=>.lit (.int .u8 i)):=rfl;rw[n]at a;obtain⟨s,p⟩:=b8E d1f c8a c8b a;have k:∀(j:Nat) x,a9u[j]?=some x→W.cell? ⟨0,j,none⟩=some (.int .u8 x):=fun j x l=>by
  rw[World.var?_cell b d j];simpa using p j x l
 intro g t x o;obtain⟨rfl,e⟩:=c6u o;cases e;refine⟨z0m (k 0 0 rfl),?_⟩;exact b3T (f:=fun i=>dec (a0a W none) (.int .u8) fun j=>(Src.at 0 0).rd (a0a W none) (i*1+j)) a9u 0 (fun j x l=>by
  have:=k j x l
  simp only[dec,Src.rd,a0a,Nat.zero_add,Nat.mul_one,Nat.add_zero,this,if_true])
set_option maxRecDepth 100000 in
theorem c4J (os:Os) (args:Array Value):laidMetH Tryz.prog laidTab ((World.doorLaid Tryz.prog 400 os).forCall (fun _ _=>0) ⟨#[],args,[]⟩).memory:=
 laidMetH_of_parts3 (fuel:=8) (laidMet_of_run' 8 (by kernel_rfl) (by kernel_rfl)) (by kernel_rfl) (by kernel_rfl)
end Go.Proofs.YtjoohiokfkdfpaaGreatDoor
