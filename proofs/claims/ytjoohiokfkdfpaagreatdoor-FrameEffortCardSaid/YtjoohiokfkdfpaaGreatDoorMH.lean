/- Part of the proof: QUF. Conditions: as each statement tells. -/
import Derived.Test.YtjoohiokfkdfpaaGreatDoorRows
import Derived.ProofKit
import Derived.LaidMore
import Derived.LaidLaws
import Derived.LaidHandle
import Derived.LaidByTextLater
import Derived.OpenShut
import Derived.Handed
import Derived.KernelRfl
import Derived.Test.YtjoohiokfkdfpaaGreatDoorMG
noncomputable section
set_option linter.unusedSimpArgs false
set_option linter.unusedVariables false
open BitVec renaming ofInt→a01,toNat_ofInt→a07
open Bool renaming and_self→a05,eq_false_iff→a09,not_false→a18,true_and→a20
open Int renaming toNat→a17
open List renaming getElem_mem→a02,replicate→a03,nil_append→a04,length_nil→a06,all_cons→a16,getElem?_drop→a21,cons_append→a22,foldr_cons→a23,getD→a24
open Nat renaming le_refl→a08,pow_le_pow_right→a19
open Option renaming bind_eq_some_iff→a00
namespace Go.Ab
open IntKind(wrap)
def a7f(f:a1h)(l:List Sub):a1h:=(f.1,f.2.1,f.2.2.1,f.2.2.2.1,l,())
theorem c2N(f:a1h):a7f f f.2.2.2.2.1=f:=rfl
theorem b5E(f g:a1h)(e:Int){N:Nat}(d:N≤8){Z:List Int}:∀(rest:List PZ)(done:List Sub)(P:List Int),done.length+rest.length=N→(∀p∈rest,c2M f.2.1 p)→OkR P (a0J rest++Z)→
  y0s a6t (e,(N:Int),(done.length:Int),g,a7f f done,rdr P (a0J rest++Z),())=some (.inl (e,g,a7f f (done++rest.map (·.1)),rdr (P++a0J rest) Z,()))
 | [],done,P,hl,_,_=>by
  have a:done.length=N:=by simpa using hl
  rw[a,a0H (b:=Sum.inl (e,g,a7f f done,rdr P Z,())) (by simp only[a6t,dge,cF];rfl)];simp[a0J]
 |p::rest,done,P,hl,h,hok=>by
  rw[lC]at hl;obtain⟨n,l,o⟩:=h p (by simp);have c:a0J (p::rest)++Z=a4N p.1 p.2++(a0J rest++Z):=by simp[a0J]
  rw[c]at hok⊢;have j:=c5P n l o hok;have i:decide ((done.length:Int)<(N:Int))=true:=by simp;omega
  have z0:((0:Int) != 0)=false:=rfl;rw[a0I (s':=(e,(N:Int),(((done++[p.1]).length:Nat):Int),g,a7f f (done++[p.1]),rdr (P++a4N p.1 p.2) (a0J rest++Z),())) (by
   have k:a9h (rdr P (a4N p.1 p.2++(a0J rest++Z)),(a7f f done).2.1)=some (p.1,(0:Int),rdr (P++a4N p.1 p.2) (a0J rest++Z)):=j;simp only[a6t,i,cT,k,oB,z0,cF];rw[show(a7f f done).2.2.2.2.1=done from rfl,a1c (show done.length+1<2147483648 by omega),cT,a0C (show done.length<1000000 by omega)];rw[show(((done++[p.1]).length:Nat):Int)=((done.length+1:Nat):Int)from by simp];rfl)]
  rw[b5E f g e d rest (done++[p.1]) _ (by simp;omega) (fun q m=>h q (by simp[m])) hok.shift];simp[a0J]
theorem b4a{L:List Int}(f:a1n L)(a:L.length<500000000)(t:Int×(Int×Unit)):∀(k i:Nat),i+k=L.length→(∀j,i≤j→L.getD j 0=0)→
  y0s a2U ((L.length:Int),(i:Int),((wL L).1,t),())=some (.inl ((L.length:Int),((wL L).1,t),()))
 |0,i,h,_=>by
  obtain rfl:i=L.length:=by omega
  exact a0H (by simp only[a2U,dge,cF])
 |k+1,i,h,h0=>by
  have g:i<L.length:=by omega
  have z:((0:Int)==1)=false:=rfl;have b:wrap .i64 ((i:Int)+1)=((i+1:Nat):Int):=by rw[a0D (by omega)];omega
  rw[a0I (s':=((L.length:Int),((i+1:Nat):Int),((wL L).1,t),())) (by
   simp only[a2U,dlt g,cT];rw[b6u f (by omega) g t,h0 i (a08 _)];simp only[oB,z,cF,b])]
  exact b4a f a t k (i+1) (by omega) (fun j c=>h0 j (by omega))
theorem c4J(L:List Int)(k j:Nat)(h:L.length≤j):(L++a03 k 0).getD j 0=0:=by
 rw[lD,List.getElem?_append_right h,List.getElem?_replicate]
 split<;>rfl
theorem b6Z{L:List Int}(h:a1n L):a1n (a2j L):=h.app fun _ hb=>.inl (List.mem_replicate.1 hb).2
theorem c3Q{L:List Int}(f:a1n L)(c:L.length≤5600000):∃r,a4e (rdr L (a03 (a3Y L.length) 0))=some r∧r.2.2.1=0:=by
 have hp:(a2j L).length=L.length+a3Y L.length:=by simp[a2j]
 have a:a3Y L.length<8:=by unfold a3Y;omega
 have b:(a2j L).length%8=0:=by rw[hp];unfold a3Y;omega
 have z0:((0:Int) != 0)=false:=rfl;have g:wrap .i64 (wrap .i64 (Int.tdiv (wrap .i64 ((L.length:Int)+7)) 8)*8)=((a2j L).length:Int):=by
  rw[a0D (n:=(L.length:Int)+7) (by omega),show Int.tdiv ((L.length:Int)+7) 8=(((L.length+7) / 8:Nat):Int)from by
   rw[show((L.length:Int)+7)=((L.length+7:Nat):Int)from by omega];rfl,a0D (n:=(((L.length+7) / 8:Nat):Int)) (by omega),a0D (by omega),hp]
  unfold a3Y;omega
 have h:=b4a (b6Z f) (by omega) ((L.length:Int),(0:Int),()) (a3Y L.length) L.length (by omega) (fun j k=>c4J L _ j k);refine⟨((wL (a2j L)).1,((a2j L).length:Int),(0:Int),()),?_,rfl⟩;unfold a4e rdr;simp only[z0,cF,g];rw[show L++a03 (a3Y L.length) 0=a2j L from rfl,h];rfl
theorem d0G{v:Int}(h:0≤v∧v<65536):bits .u16 .or (A0n .u16 (wrap .u16 (v / 256)) 8) (wrap .u16 (v%256))=v:=by
 rw[a9K,a9K];have e:A0n .u16 (v / 256%65536) 8=((v.toNat / 256*256:Nat):Int):=by
  show wrap .u16 (v / 256%65536*256)=_;rw[a9K];omega
 rw[e];have g:v%256%65536=((v.toNat%256:Nat):Int):=by omega
 rw[g];show wrap .u16 (((a01 16 ((v.toNat / 256*256:Nat):Int) ||| a01 16 ((v.toNat%256:Nat):Int)).toNat:Nat):Int)=_;have f:(a01 16 ((v.toNat / 256*256:Nat):Int)).toNat=v.toNat / 256*256:=by rw[a07];omega
 have k:(a01 16 ((v.toNat%256:Nat):Int)).toNat=v.toNat%256:=by rw[a07];omega
 rw[BitVec.toNat_or,f,k];have e:v.toNat / 256*256 ||| v.toNat%256=v.toNat / 256*256+v.toNat%256:=by
  have:=Nat.two_pow_add_eq_or_of_lt (i:=8) (b:=v.toNat%256) (by omega) (v.toNat / 256)
  rw[show 2^8*(v.toNat / 256)=v.toNat / 256*256 from by omega]at this;exact this.symm
 rw[e,a9K];omega
theorem b7T{f:a1h}(O:a3y f=some true)(u:frP f)(t:((f.2.2.2.2.1.length:Nat):Int)=f.2.2.1.2.1){zs:List PZ}(B:zs.map (·.1)=f.2.2.2.2.1)(hp:∀p∈zs,c2M f.2.1 p)(z:(a0J zs).length≤5600000)
  {R:List Int}(V:R.length≤200000000):a3T (a1F f (a0J zs)++R)=some (f,((a1F f (a0J zs)).length:Int),(0:Int)):=by
 have P:=b4x u z;have Q:=b3Z (a4i f (a0J zs));have L:f.2.2.2.2.1.length≤8:=by have:=u.1.2.2.2.1;omega
 have N:=a9m (a0J zs);generalize hbd:a3x (a0J zs)=body at *;have c:a1F f (a0J zs)=a4i f (a0J zs)++[a2r (a4i f (a0J zs)) / 256,a2r (a4i f (a0J zs))%256]:=rfl;have g:a4i f (a0J zs)=a1q f body.length++body:=by unfold a4i;rw[hbd]
 generalize hpb:a4i f (a0J zs)=pre at *;have o:a1F f (a0J zs)++R=a1q f body.length++(body++([a2r pre / 256,a2r pre%256]++R)):=by rw[c,g];simp
 have m:(a1F f (a0J zs)).length=pre.length+2:=by rw[c];simp
 have A:pre.length=(a1q f body.length).length+body.length:=by rw[g];simp
 have y:(a1F f (a0J zs)++R).length=pre.length+2+R.length:=by rw[lN,m]
 have k:=b5C u (body:=body.length) (by omega) (R:=body++([a2r pre / 256,a2r pre%256]++R)) (by rw[←o,y];omega);rw[←o]at k;generalize hx:a1F f (a0J zs)++R=x at *;have z0:((0:Int) != 0)=false:=rfl;have T:wrap .i64 (((a1q f body.length).length:Int)+(body.length:Int))=(pre.length:Int):=by rw[a0D (by omega)];omega
 have w2:wrap .i64 ((pre.length:Int)+2)=((pre.length+2:Nat):Int):=by rw[a0D (by omega)];omega
 have U:wrap .i64 ((pre.length:Int)+1)=((pre.length+1:Nat):Int):=by rw[a0D (by omega)];omega
 have C:decide ((x.length:Int)<((pre.length+2:Nat):Int))=false:=by simp;omega
 have D:decide ((0:Int)≤(pre.length:Int))=true:=by simp
 have E:decide ((pre.length:Int)≤(x.length:Int))=true:=by simp;omega
 have F:decide ((0:Int)≤((a1q f body.length).length:Int))=true:=by simp
 have G:decide (((a1q f body.length).length:Int)≤(pre.length:Int))=true:=by simp;omega
 have j:x=pre++([a2r pre / 256,a2r pre%256]++R):=by rw[←hx,c];simp
 have i:List.take pre.length x=pre:=by rw[j];simp
 have b:List.drop (a1q f body.length).length pre=body:=by rw[g];simp
 have I:m0k x (pre.length:Int)=some (a2r pre / 256):=by rw[a0B (by omega)];congr 1;subst j;simp
 have K:m0k x ((pre.length+1:Nat):Int)=some (a2r pre%256):=by rw[a0B (by omega)];congr 1;subst j;simp
 have S:(a2r pre != bits .u16 .or (A0n .u16 (wrap .u16 (a2r pre / 256)) 8) (wrap .u16 (a2r pre%256)))=false:=by rw[d0G Q];exact bne_self_eq_false _
 have e:(a2j (a0J zs)).length<1000000000:=by omega
 have a:=c6A e;rw[show(wL (a2j (a0J zs))).1=body from hbd]at a;have v:OkR [] (a0J zs++a03 (a3Y (a0J zs).length) 0):=⟨by rw[a04];exact b6Z (b6X zs),by
  rw[a04];show(a2j (a0J zs)).length<_;omega⟩
 have h:=b5E f ((0:Int),(0:Int),((0:Int),(0:Int),(0:Int),()),([]:List a0U),([]:List Sub),()) (pre.length:Int) L zs [] [] (by rw[←B];simp) hp v;simp only[a04,a06,B,c2N]at h;have w:rdr [] (a2j (a0J zs))=rdr [] (a0J zs++a03 (a3Y (a0J zs).length) 0):=rfl;obtain⟨r,q,s⟩:=c3Q (b6X zs) z;have d:a2h (rdr (a0J zs) (a03 (a3Y (a0J zs).length) 0))=some ((a3Y (a0J zs).length:Int),rdr (a0J zs) (a03 (a3Y (a0J zs).length) 0)):=by
  unfold a2h rdr
  have:(wL (a0J zs++a03 (a3Y (a0J zs).length) 0)).1=body:=hbd
  simp only[this];have hp:(a2j (a0J zs)).length=(a0J zs).length+a3Y (a0J zs).length:=by simp[a2j]
  rw[a0D (n:=8*(body.length:Int)) (by omega),a0D (by omega)];congr 2;omega
 have H:decide (((a3Y (a0J zs).length:Nat):Int)≥8)=false:=by unfold a3Y;simp;omega
 have M:a7f f []=c2L f:=rfl;have l:f.2.2.1.2.1=((f.2.2.2.2.1.length:Nat):Int):=t.symm;unfold a3T;rw[k];simp only[oB,z0,cF,T,w2,C,D,E,F,a05,cT,tN,i,b5A (show short pre by unfold short;omega),I,U,K,S,G,b,a,w];rw[show(c2L f).2.2.1.2.1=((f.2.2.2.2.1.length:Nat):Int)from l]
 erw[h]
 simp only[oB,d,H,cF,q,a0K,s,z0,O,bT,w2,m]
theorem b7U{f:a1h}(k:frP f){L:List Int}(a:L.length≤5600000){R:List Int}(c:R.length≤200000000):a6z (a1F f L++R)=some (f.2.2.1,f.1,f.2.1,(0:Int)):=by
 have b:=b4x k a;have g:a1F f L++R=a1q f (a3x L).length++(a3x L++([a2r (a4i f L) / 256,a2r (a4i f L)%256]++R)):=by simp[a1F,a4i]
 have h:=b5C k (body:=(a3x L).length) (by omega) (R:=a3x L++([a2r (a4i f L) / 256,a2r (a4i f L)%256]++R)) (by
  rw[←g];simp only[a1F,lN,lC,a06];omega)
 rw[←g]at h;unfold a6z;rw[h];rfl
theorem b0H(x:Int):a7u x=some (a0A x):=by
 grind[a7u,a0A]
def a2k(c:List (List Int)):Prop:=1≤c.length∧c.length≤8∧(c.headD []).length≤4096∧c.all (fun r=>decide (r.length=(c.headD []).length)&&r.all a0A)=true
instance (c:List (List Int)):Decidable (a2k c):=by unfold a2k;infer_instance
theorem a9n{α:Type}{l:List α}{d:α}(h:0<l.length):l[0]=l.headD d:=by
 cases l with
 |nil=>grind
 |cons a l=>rfl
theorem b6y(c:List (List Int)):a6g c=some (decide (a2k c)):=by
 unfold a6g
 by_cases h1:((c.length:Nat):Int)<1
 have:¬ a2k c:=fun h=>by have:=h.1;omega
 simp_all
 by_cases h2:((c.length:Nat):Int) > 8
 have:¬ a2k c:=fun h=>by have:=h.2.1;omega
 simp_all;have l:0<c.length:=by omega
 have b:m0k c 0=some (c.headD []):=by rw[show(0:Int)=((0:Nat):Int)from rfl,a0B l,a9n (d:=[]) l]
 have m:decide (((c.length:Nat):Int)<1)=false:=by simp_all
 have n:decide (((c.length:Nat):Int) > 8)=false:=by simp_all
 simp only[m,n,cF,b,oB]
 by_cases h3:(((c.headD []).length:Nat):Int) > 4096
 rw[decide_eq_true h3,decide_eq_false (show ¬ a2k c from fun h=>by have:=h.2.2.1;omega)];rfl;have o:decide ((((c.headD []).length:Nat):Int) > 4096)=false:=by simp_all
 simp only[o,cF];have g:∀(i:Nat)(r:List Int),short r→y0s a3H (c,c,(c.length:Int),(i:Int),r,(r.length:Int),(0:Int),())=some (bif r.all a0A then Sum.inl (c,c,(c.length:Int),(i:Int),())else Sum.inr (false,())):=fun i r t=>by
  have:=a1p (f:=a3H) r (fun j=>(c,c,(c.length:Int),(i:Int),r,(r.length:Int),(j:Int),())) a0A (bt:=Sum.inl (c,c,(c.length:Int),(i:Int),())) (bf:=Sum.inr (false,()))
   (fun j h hp=>by simp only[a3H,dlt h,cT,a0B h,oB,b0H,hp,bT,cF,a0C (Nat.lt_trans h t)])
   (fun j h hp=>by simp_all[a3H,a0B,b0H])
   (by simp_all[a3H])
  omega
 have k:=a1p (f:=a3I) c (fun i=>(c,c,(c.length:Int),(i:Int),())) (fun r=>decide (r.length=(c.headD []).length)&&r.all a0A) (bt:=Sum.inl ()) (bf:=Sum.inr (false,()))
  (fun i h hp=>by
   simp only[bA,dT]at hp;have e:((((c[i]).length:Nat):Int) != (((c.headD []).length:Nat):Int))=false:=by simp_all
   have a:=g i c[i] (by unfold short;omega);rw[hp.2,cT]at a;simp only[a3I,dlt h,cT,a0B h,oB,b,e,cF,a,a0C (show i<1000000 by omega)])
  (fun i h hp=>by
   by_cases hl:(c[i]).length=(c.headD []).length
   have e:((((c[i]).length:Nat):Int) != (((c.headD []).length:Nat):Int))=false:=by simp_all
   have a:=g i c[i] (by unfold short;omega);rw[decide_eq_true hl,a20]at hp;rw[hp,cF]at a;simp_all[a3I,a0B];have e:((((c[i]).length:Nat):Int) != (((c.headD []).length:Nat):Int))=true:=by grind
   simp only[a3I,dlt h,cT,a0B h,oB,b,e])
  (by simp_all[a3I])
 simp only[nZ]at k;rw[k];have p:1≤c.length:=by omega
 have q:c.length≤8:=by omega
 have s:(c.headD []).length≤4096:=by omega
 by_cases hA:c.all (fun r=>decide (r.length=(c.headD []).length)&&r.all a0A)=true
 rw[hA,decide_eq_true (show a2k c from⟨p,q,s,hA⟩)];rfl;rw[a09.2 hA,decide_eq_false (show ¬ a2k c from fun h=>hA h.2.2.2)];rfl
def a2W(c:List (List Int))(n:Nat):Prop:=∀r∈c,r.length=n∧r.all a0A=true
theorem c1s{c:List (List Int)}(h:a2k c):a2W c (c.headD []).length:=fun r g=>by
 have:=lA.1 h.2.2.2 r g
 simp_all
theorem b4y{c:List (List Int)}{n:Nat}(h:a2W c n)(g:1≤c.length)(f:c.length≤8)(b:n≤4096):a2k c:=by
 have a:(c.headD []).length=n:=by
  rw[←a9n (d:=[]) (show 0<c.length by omega)];exact(h _ (a02 _)).1
 refine⟨g,f,by omega,lA.2 fun r k=>?_⟩
 have:=h r k
 simp_all
theorem b7a{c:List (List Int)}{n:Nat}(h:a2W c n)(m:n≤5000)(l:c.length≤100):a5R c=some c:=by
 have:=a1E (f:=a5z) (β:=List (List Int)×Unit) c (fun i (a:List (List Int))=>(c,(c.length:Int),(i:Int),a,())) (fun a x=>.inl (a++[x])) (fun i a=>a.length=i) (fun a=>(a,()))
  (fun i k a d=>⟨fun j g=>by
   simp at g;subst g;have o:=(h _ (a02 k)).1;have e:∀y:List Int,List.set ([([]:List Int)]:List (List Int)) 0 y=[y]:=fun _=>rfl;refine⟨?_,by grind⟩;simp only[a5z,dlt k,cT,a0B k,oB,a6C (show short c[i]by unfold short;omega),e];rw[a1c (by grind),cT,a0C (show i<1000000 by omega)];rfl,fun b hb=>by grind⟩)
  (fun a d=>by simp_all[a5z]) (a:=[]) rfl
 simp_all[b0G,a5R,a7m]
def a7g(sign g:Int)(x y:Int):Int:=y+sign*(g*x / 256)
def a7K(sign g:Int)(xs ys:List Int):List Int:=List.zipWith (a7g sign g) xs ys
theorem c4K(sign g:Int){xs ys:List Int}(h:xs.length=ys.length):(a7K sign g xs ys).length=ys.length:=by simp[a7K,h]
theorem c4L{sign g x y:Int}(b:sign=1∨sign=-1)(c:-1024≤g∧g≤1024)(k:a0A x=true)(a:a0A y=true):
  wrap .i64 (y+wrap .i64 (sign*A0o .i64 (wrap .i64 (g*x)) 8))=a7g sign g x y:=by
 have k:=a1x.1 k;have a:=a1x.1 a;have f:-1099511627776≤g*x∧g*x≤1099511627776:=by
  have f:g.natAbs≤1024:=by omega
  have h:x.natAbs≤1073741824:=by omega
  have:=Nat.mul_le_mul f h
  rw[←Int.natAbs_mul]at this;omega
 rw[a0D (n:=g*x) (by omega)];have h:A0o .i64 (g*x) 8=g*x / 256:=by
  unfold A0o;show(g*x).fdiv (2^8)=_
  grind
 rw[h];unfold a7g;rcases b with rfl|rfl
 all_goals grind[a0D]
theorem a9e{α:Type}(c:List α){a b:Nat}(h:a≠b)(y d:α):(c.set b y).getD a d=c.getD a d:=by
 grind
theorem a6k{α:Type}(c:List α){b:Nat}(h:b<c.length)(y d:α):(c.set b y).getD b d=y:=by
 simp_all
theorem b5F{c:List (List Int)}{s:a0U}{sign:Int}(g:sign=1∨sign=-1)(b:-1024≤s.2.2.1∧s.2.2.1≤1024)(a0:0≤s.1)(i:0≤s.2.1)(f:s.1.toNat≠s.2.1.toNat)(hb:s.2.1.toNat<c.length)(k:s.2.1<(c.length:Int))
  {xs:List Int}(a:c.getD s.1.toNat []=xs)(w:xs.length≤5000):∀(sx suf px pre:List Int),px++sx=xs→px.length=pre.length→sx.length=suf.length→sx.all a0A=true→suf.all a0A=true→
  if(a7K sign s.2.2.1 sx suf).all a0A=true then
   y0s a3h (sign,(xs.length:Int),(pre.length:Int),c.set s.2.1.toNat (pre++suf),s,((s.1.toNat:Nat):Int),())=some (.inl (c.set s.2.1.toNat (pre++a7K sign s.2.2.1 sx suf),()))
  else ∃c',y0s a3h (sign,(xs.length:Int),(pre.length:Int),c.set s.2.1.toNat (pre++suf),s,((s.1.toNat:Nat):Int),())=some (.inr (false,c',()))
 | [],suf,px,pre,hx,hp,hl,_,_=>by
  have e:suf=[]:=List.length_eq_zero_iff.1 hl.symm;subst e;have p:pre.length=xs.length:=by simp_all
  rw[if_pos (by rfl),p];exact a0H (by simp only[a3h,dge,cF];rfl)
 |x::sx,[],px,pre,_,_,hl,_,_=>by simp_all
 |x::sx,y::suf,px,pre,hx,hp,hl,hwx,hwy=>by
  simp only[a16,bA]at hwx hwy;have v:pre.length<xs.length:=by grind
  have q:(c.set s.2.1.toNat (pre++y::suf)).getD (a17 ((s.1.toNat:Nat):Int)) []=xs:=by grind
  have r:(c.set s.2.1.toNat (pre++y::suf)).getD s.2.1.toNat []=pre++y::suf:=a6k _ hb _ _;have t:a24 xs (a17 (pre.length:Int)) 0=x:=by grind
  have u:a24 (pre++y::suf) (a17 (pre.length:Int)) 0=y:=by simp
  have j:decide ((0:Int)≤(pre.length:Int))=true:=by simp
  have l:decide ((pre.length:Int)<(xs.length:Int))=true:=by simp_all
  have m:decide ((0:Int)≤s.2.1)=true:=by simp_all
  have n:decide (s.2.1<(((c.set s.2.1.toNat (pre++y::suf)).length:Nat):Int))=true:=by simp_all
  have o:decide ((pre.length:Int)<(((pre++y::suf).length:Nat):Int))=true:=by grind
  have hv:=c4L g b hwx.1 hwy.1;have z:wrap .i64 ((pre.length:Int)+1)=((pre.length+1:Nat):Int):=a0C (by omega);have A:a7K sign s.2.2.1 (x::sx) (y::suf)=a7g sign s.2.2.1 x y::a7K sign s.2.2.1 sx suf:=rfl;have d:List.set (c.set s.2.1.toNat (pre++y::suf)) s.2.1.toNat (List.set (pre++y::suf) (a17 (pre.length:Int)) (a7g sign s.2.2.1 x y))=c.set s.2.1.toNat ((pre++[a7g sign s.2.2.1 x y])++suf):=by
   simp
  have h:a3h (sign,(xs.length:Int),(pre.length:Int),c.set s.2.1.toNat (pre++y::suf),s,((s.1.toNat:Nat):Int),()) =
    bif !(a0A (a7g sign s.2.2.1 x y))then some (.inr (Sum.inr (false,c.set s.2.1.toNat (pre++y::suf),())))
    else some (.inl (sign,(xs.length:Int),((pre.length+1:Nat):Int),c.set s.2.1.toNat ((pre++[a7g sign s.2.2.1 x y])++suf),s,((s.1.toNat:Nat):Int),())):=by
   simp only[a3h,l,cT,q,r,j,a05,m,n,o,t,u,b0H,hv,oB,z]
   simp
  cases hwv:a0A (a7g sign s.2.2.1 x y)with
  |false=>
   simp_all[a0H]
  |true=>
   rw[hwv]at h;have B:=b5F g b a0 i f hb k a w sx suf (px++[x]) (pre++[a7g sign s.2.2.1 x y]) (by simp_all) (by grind) (by simp_all) hwx.2 hwy.2;rw[a0I h,A];simp_all
def a3i(sign:Int)(s:a0U)(c:List (List Int)):Option (List (List Int)):=
 let r:=a7K sign s.2.2.1 (c.getD s.1.toNat []) (c.getD s.2.1.toNat [])
 if r.all a0A=true then some (c.set s.2.1.toNat r)else none
theorem a6H{c:List (List Int)}{n:Nat}(h:a2W c n){i:Nat}(g:i<c.length):(c.getD i []).length=n∧(c.getD i []).all a0A=true:=by
 rw[lD,lG g];exact h _ (a02 g)
theorem b9w{c:List (List Int)}{n:Nat}(a:a2W c n)(w:n≤5000){s:a0U}(p:a2d (c.length:Int) s=true){sign:Int}(k:sign=1∨sign=-1):
  ∃b f,a6v (c,s,sign)=some (b,f)∧match a3i sign s c with|some r=>b=true∧f=r|none=>b=false:=by
 obtain⟨a1,u,d,e,v,j,l⟩:=a2z.1 p;have q:=a6H a (i:=s.1.toNat) (by omega);have t:=a6H a (i:=s.2.1.toNat) (by omega);have hb:s.2.1.toNat<c.length:=by omega
 have g:c.set s.2.1.toNat (c.getD s.2.1.toNat [])=c:=by
  simp_all
 have:=b5F k ⟨j,l⟩ a1 d (by omega) hb e (rfl:c.getD s.1.toNat []=_) (by omega) (c.getD s.1.toNat []) (c.getD s.2.1.toNat []) [] [] rfl rfl (by omega) q.2 t.2
 rw[a04,g]at this;simp only[a06,nZ,a04,Int.cast_ofNat_Int]at this;have m:decide ((0:Int)≤s.1)=true:=by simp_all
 have o:decide (s.1<(c.length:Int))=true:=by simp_all
 unfold a6v a3i;simp only[m,o,a05,cT]
 by_cases hA:(a7K sign s.2.2.1 (c.getD s.1.toNat []) (c.getD s.2.1.toNat [])).all a0A=true
 simp_all;rw[if_neg hA]at this⊢;obtain⟨f,h⟩:=this;simp_all
theorem a9G{c c':List (List Int)}{n:Nat}(g:a2W c n){s:a0U}(k:a2d (c.length:Int) s=true){sign:Int}(h:a3i sign s c=some c'):a2W c' n∧c'.length=c.length:=by
 obtain⟨a1,a,b,d,e,j,l⟩:=a2z.1 k;have o:=a6H g (i:=s.1.toNat) (by omega);have p:=a6H g (i:=s.2.1.toNat) (by omega);unfold a3i at h;simp only at h
 split at h
 rename_i m;cases h;refine⟨fun r f=>?_,by simp⟩;rcases List.mem_or_eq_of_mem_set f with f|rfl;exact g r f;simp_all[c4K];simp_all
theorem b9x(g:Int):∀xs ys:List Int,xs.length=ys.length→a7K (-1) g xs (a7K 1 g xs ys)=ys
 | [],[],_=>rfl
 |x::xs,y::ys,h=>by
  have f:=b9x g xs ys (by simpa using h);show a7g (-1) g x (a7g 1 g x y)::a7K (-1) g xs (a7K 1 g xs ys)=_;rw[f];unfold a7g;congr 1;omega
 | [],_::_,h=>by grind
 |_::_,[],h=>by rfl
theorem c3R{c c':List (List Int)}{n:Nat}(g:a2W c n){s:a0U}(f:a2d (c.length:Int) s=true)(h:a3i 1 s c=some c'):a3i (-1) s c'=some c:=by
 obtain⟨a1,a,b,d,e,j,l⟩:=a2z.1 f;have m:=a6H g (i:=s.1.toNat) (by omega);have k:=a6H g (i:=s.2.1.toNat) (by omega);have hb:s.2.1.toNat<c.length:=by omega
 unfold a3i at h;simp only at h
 split at h
 cases h;unfold a3i;simp only;rw[a9e _ (show s.1.toNat≠s.2.1.toNat by omega),a6k _ hb,b9x _ _ _ (by omega),if_pos k.2,List.set_set];simp_all;simp_all
def doO:List a0U→List (List Int)→Option (List (List Int))
 | [],c=>some c
 |s::l,c=>(a3i 1 s c).bind (doO l)
def a8o:List a0U→List (List Int)→Option (List (List Int))
 | [],c=>some c
 |s::l,c=>(a8o l c).bind (a3i (-1) s)
theorem a8F{n:Nat}{N:Nat}:∀(l:List a0U){c c':List (List Int)},a2W c n→c.length=N→l.all (a2d (N:Int))=true→doO l c=some c'→a2W c' n∧c'.length=N
 | [],c,c',hc,hl,_,h=>by cases h;simp_all
 |s::l,c,c',hc,hl,hs,h=>by
  simp only[a16,bA]at hs;simp[doO,a00]at h;obtain⟨d,g,f⟩:=h;obtain⟨k,a⟩:=a9G hc (by simp_all) g;exact a8F l k (by omega) hs.2 f
theorem c1t{n:Nat}{N:Nat}:∀(l:List a0U){c c':List (List Int)},a2W c n→c.length=N→l.all (a2d (N:Int))=true→doO l c=some c'→a8o l c'=some c
 | [],c,c',_,_,_,h=>by cases h;rfl
 |s::l,c,c',hc,hl,hs,h=>by
  simp only[a16,bA]at hs;simp only[doO,a00]at h;obtain⟨d,g,f⟩:=h;obtain⟨k,a⟩:=a9G hc (by rw[hl];exact hs.1) g;simp only[a8o];rw[c1t l k (by omega) hs.2 f];exact c3R hc (by rw[hl];exact hs.1) g
def b4z:Option (List (List Int))→List (List Int)×Int
 |some r=>(r,0)
 |none=>([],6)
theorem c1u{n N:Nat}(d:n≤5000){l:List a0U}(o:l.length≤16)(m:l.all (a2d (N:Int))=true):∀(k i:Nat)(c:List (List Int)),i+k=l.length→a2W c n→c.length=N→
  y0s a6w (l,(l.length:Int),(i:Int),c,())=some (match doO (l.drop i) c with|some r=>Sum.inl (r,())|none=>Sum.inr ([],6,()))
 |0,i,c,h,_,_=>by
  obtain rfl:i=l.length:=by omega
  rw[List.drop_length];exact a0H (by simp only[a6w,dge,cF];rfl)
 |k+1,i,c,h,hc,hcl=>by
  have g:i<l.length:=by omega
  rw[List.drop_eq_getElem_cons g];have e:a2d (c.length:Int) l[i]=true:=by grind
  obtain⟨b,f,j,a⟩:=b9w hc d e (sign:=1) (.inl rfl);simp[doO];cases hst:a3i 1 l[i] c with
  |none=>
   simp_all[a0H,a6w,a0B]
  |some r=>
   rw[hst]at a;obtain⟨rfl,rfl⟩:=a;obtain⟨p,q⟩:=a9G hc e hst;rw[a0I (s':=(l,(l.length:Int),((i+1:Nat):Int),f,())) (by
    simp only[a6w,dlt g,cT,a0B g,oB,j,bT,cF,a0C (show i<1000000 by omega)])]
   rw[c1u d o m k (i+1) f (by omega) p (by omega)];rfl
theorem b7Z(c:List (List Int))(l:List a0U):a9g (c,l)=some (if a2k c∧a4h l (c.length:Int)then b4z (doO l c)else([],1)):=by
 unfold a9g;simp only[b6y,oB]
 by_cases hq:a2k c
 have h:=c1s hq;simp only[hq,decide_true,bT,cF,b1q,oB,true_and]
 by_cases hm:a4h l (c.length:Int)
 simp[hm];rw[b7a h (by have:=hq.2.2.1;omega) (by have:=hq.2.1;omega)]
 have:=c1u (N:=c.length) (by have:=hq.2.2.1;omega:(c.headD []).length≤5000) hm.2.2.1 hm.2.2.2 l.length 0 c (by omega) h rfl
 simp at this
 simp
 erw[this]
 cases doO l c<;>rfl;simp_all;simp_all
theorem b5G(s:a0U):∀(l:List a0U)(c:List (List Int)),a8o (l++[s]) c=(a3i (-1) s c).bind (a8o l)
 | [],c=>by
  show a3i (-1) s c=_;cases a3i (-1) s c<;>rfl
 |t::l,c=>by
  simp only[a22,a8o,b5G s l];cases a3i (-1) s c<;>rfl
theorem b7b{n N:Nat}(g:n≤5000){l:List a0U}(i:l.all (a2d (N:Int))=true)(z:List (List Int))(e:Int):∀(k:Nat)(c:List (List Int)),k≤l.length→a2W c n→c.length=N→
  match a8o (l.take k) c with
  |some r=>l0f a5e l k (l,z,e,c,())=some (.inl (l,z,e,r,()))
  |none=>∃d,l0f a5e l k (l,z,e,c,())=some (.inr (.ret,l,[],6,d,()))
 |0,c,_,_,_=>rfl
 |k+1,c,hk,hc,hcl=>by
  have j:k<l.length:=by omega
  have f:a2d (c.length:Int) l[k]=true:=by grind
  obtain⟨b,a,o,h⟩:=b9w hc g f (sign:=-1) (.inr rfl);rw[List.take_succ_eq_append_getElem j,b5G];cases hst:a3i (-1) l[k] c with
  |none=>
   simp_all[l0f,a5e]
  |some r=>
   rw[hst]at h;obtain⟨rfl,rfl⟩:=h;obtain⟨m,q⟩:=a9G hc f hst;have p:=b7b g i z e k a (by omega) m (by omega);simp_all[l0f,a5e]
theorem c5Q(c:List (List Int))(l:List a0U):a8O (c,l)=some (if a2k c∧a4h l (c.length:Int)then b4z (a8o l c)else([],1)):=by
 unfold a8O;simp only[b6y,oB]
 by_cases hq:a2k c
 ·have h:=c1s hq;simp only[hq,decide_true,bT,cF,b1q,oB,true_and]
  by_cases hm:a4h l (c.length:Int)
  ·simp[hm];rw[b7a h (by have:=hq.2.2.1;omega) (by have:=hq.2.1;omega)]
   have:=b7b (N:=c.length) (by have:=hq.2.2.1;omega:(c.headD []).length≤5000) hm.2.2.2 [] 0 l.length c (a08 _) h rfl
   rw[List.take_length]at this;simp[a1c (show l.length<2147483648 by have:=hm.2.2.1;omega)];cases hu:a8o l c with
   |some r=>
    rw[hu]at this;simp only at this
    erw[this]
    rfl
   |none=>
    rw[hu]at this;obtain⟨d,g⟩:=this
    erw[g]
    rfl
  simp_all
 simp_all
def a1s(b:a1o):Nat:=(b.2.1.headD []).length
theorem a6I(b:a1o):a4K b=some ((a1s b:Nat):Int):=by
 unfold a4K a1s;obtain⟨d,c,u⟩:=b;cases c with
 |nil=>rfl
 |cons r c=>
  rfl
def a2s(b:a1o):Prop:=4≤b.1∧b.1≤24∧1≤b.2.1.length∧b.2.1.length≤8∧1≤a1s b∧a1s b≤4096∧b.2.1.all (fun r=>decide (r.length=a1s b)&&r.all fun x=>a1r x b.1)=true
instance (b:a1o):Decidable (a2s b):=by unfold a2s;infer_instance
theorem b9y{x w:Int}(h:4≤w∧w≤24):a3l (x,w)=some (a1r x w):=by
 have:=a5n (x:=x) (w:=w.toNat) (by omega)
 grind
theorem b0I(b:a1o):a6f b=some (decide (a2s b)):=by
 unfold a6f a5O
 by_cases h1:4≤b.1
 rotate_left;rw[decide_eq_false (show ¬ a2s b from fun h=>h1 h.1),decide_eq_false h1];rfl
 by_cases h2:b.1≤24
 rotate_left;rw[decide_eq_false (show ¬ a2s b from fun h=>h2 h.2.1),decide_eq_true h1,decide_eq_false h2];rfl
 by_cases h3:((b.2.1.length:Nat):Int)<1
 rw[decide_eq_false (show ¬ a2s b from fun h=>by have:=h.2.2.1;omega),decide_eq_true h1,decide_eq_true h2,decide_eq_true h3];rfl
 by_cases h4:((b.2.1.length:Nat):Int) > 8
 rw[decide_eq_false (show ¬ a2s b from fun h=>by have:=h.2.2.2.1;omega),decide_eq_true h1,decide_eq_true h2,decide_eq_false h3,decide_eq_true h4];rfl;have c:decide (((b.2.1.length:Nat):Int)<1)=false:=by simp_all
 have d:decide (((b.2.1.length:Nat):Int) > 8)=false:=by simp_all
 simp only[decide_eq_true h1,decide_eq_true h2,c,d,cT,cF,oB,bT,a6I]
 by_cases h5:((a1s b:Nat):Int)<1
 rw[decide_eq_false (show ¬ a2s b from fun h=>by have:=h.2.2.2.2.1;omega),decide_eq_true h5];rfl
 by_cases h6:((a1s b:Nat):Int) > 4096
 rw[decide_eq_false (show ¬ a2s b from fun h=>by have:=h.2.2.2.2.2.1;omega),decide_eq_false h5,decide_eq_true h6];rfl;have l:decide (((a1s b:Nat):Int)<1)=false:=by simp_all
 have m:decide (((a1s b:Nat):Int) > 4096)=false:=by simp_all
 simp[l,m];have g:∀(i:Nat)(r:List Int),short r→y0s a3F (b.2.1,(b.2.1.length:Int),(i:Int),r,(r.length:Int),(0:Int),b,())=some (bif r.all (fun x=>a1r x b.1)then Sum.inl (b.2.1,(b.2.1.length:Int),(i:Int),b,())else Sum.inr (false,())):=fun i r n=>by
  have:=a1p (f:=a3F) r (fun j=>(b.2.1,(b.2.1.length:Int),(i:Int),r,(r.length:Int),(j:Int),b,())) (fun x=>a1r x b.1) (bt:=Sum.inl (b.2.1,(b.2.1.length:Int),(i:Int),b,())) (bf:=Sum.inr (false,()))
   (fun j h hp=>by simp only[a3F,dlt h,cT,a0B h,oB,b9y ⟨h1,h2⟩,hp,bT,cF,a0C (Nat.lt_trans h n)])
   (fun j h hp=>by simp_all[a3F,a0B,b9y])
   (by simp_all[a3F])
  omega
 have k:=a1p (f:=a3G) b.2.1 (fun i=>(b.2.1,(b.2.1.length:Int),(i:Int),b,())) (fun r=>decide (r.length=a1s b)&&r.all fun x=>a1r x b.1) (bt:=Sum.inl ()) (bf:=Sum.inr (false,()))
  (fun i h hp=>by
   simp only[bA,dT]at hp;have e:((((b.2.1[i]).length:Nat):Int) != ((a1s b:Nat):Int))=false:=by simp_all
   have a:=g i b.2.1[i] (by unfold short;omega);rw[hp.2,cT]at a;simp only[a3G,dlt h,cT,a0B h,oB,a6I,e,cF,a,a0C (show i<1000000 by omega)])
  (fun i h hp=>by
   by_cases hl:(b.2.1[i]).length=a1s b
   have e:((((b.2.1[i]).length:Nat):Int) != ((a1s b:Nat):Int))=false:=by simp_all
   have a:=g i b.2.1[i] (by unfold short;omega);rw[decide_eq_true hl,a20]at hp;rw[hp,cF]at a;simp_all[a3G,a0B,a6I];have e:((((b.2.1[i]).length:Nat):Int) != ((a1s b:Nat):Int))=true:=by grind
   simp only[a3G,dlt h,cT,a0B h,oB,a6I,e])
  (by simp_all[a3G])
 simp at k;rw[k]
 by_cases hA:b.2.1.all (fun r=>decide (r.length=a1s b)&&r.all fun x=>a1r x b.1)=true
 rw[hA,decide_eq_true (show a2s b from⟨h1,h2,by omega,by omega,by omega,by omega,hA⟩)];rfl;rw[a09.2 hA,decide_eq_false (show ¬ a2s b from fun h=>hA h.2.2.2.2.2.2)];rfl
def a3Z{α β:Type}(g:α→Option β):List α→Option (List β)
 | []=>some []
 |a::l=>(g a).bind fun b=>(a3Z g l).bind fun r=>some (b::r)
theorem b4A{α β:Type}{g:α→Option β}:∀{l:List α}{r:List β},a3Z g l=some r→r.length=l.length
 | [],r,h=>by cases h;rfl
 |a::l,r,h=>by
  simp only[a3Z,a00]at h;obtain⟨b,-,c,f,k⟩:=h;cases k;simp[b4A f]
theorem b7c{α β:Type}{g:α→Option β}:∀{l:List α}{r:List β},a3Z g l=some r→∀a∈l,(g a).isSome=true
 | [],r,h,a,ha=>by cases ha
 |a::l,r,h,x,hx=>by
  simp only[a3Z,a00]at h;obtain⟨b,f,d,k,c⟩:=h;rcases mC.1 hx with rfl|hx;rw[f];rfl;exact b7c k x hx
def a6J(f:a1h):Option a1o:=
 if frP f∧((f.2.2.2.2.1.length:Nat):Int)=f.2.2.1.2.1 then
  (a3Z (fun s=>a1P s f.2.1) f.2.2.2.2.1).bind fun rs=>
   if a2k rs∧a4h f.2.2.2.1 (rs.length:Int)then
    (a8o f.2.2.2.1 rs).bind fun ch=>if a2s (f.2.2.1.2.2.1,ch,())then some (f.2.2.1.2.2.1,ch,())else none
   else none
 else none
def b1L:a1o:=(0,[],())
def c6D:Option a1o→a1o×Int
 |some b=>(b,0)
 |none=>(b1L,1)
theorem b4b(f:a1h)(all:List Sub)(d:all.length≤8):∀(rest done:List Sub)(rows:List (List Int)),done++rest=all→rows.length=done.length→(∀s∈rest,SmallS s)→
  y0s a3R (all,(all.length:Int),(done.length:Int),rows,b1L,f,())=some (match a3Z (fun s=>a1P s f.2.1) rest with|some rs=>Sum.inl (rows++rs,b1L,f,())|none=>Sum.inr (1,b1L,()))
 | [],done,rows,hd,hr,_=>by
  have e:done=all:=by simpa using hd
  subst e;rw[a0H (b:=Sum.inl (rows,b1L,f,())) (by simp only[a3R,dge,cF])];simp[a3Z]
 |s::rest,done,rows,hd,hr,h=>by
  have i:=h s (by simp);have k:done.length<all.length:=by rw[←hd];simp
  have a:m0k all (done.length:Int)=some s:=by rw[a0B k];subst hd;simp
  have g:=b4Y i f.2.1;simp only[a3Z];cases ho:a1P s f.2.1 with
  |none=>
   rw[ho]at g;have b1:((1:Int) != 0)=true:=rfl;exact a0H (by simp only[a3R,dlt k,cT,a,oB,g,b1];rfl)
  |some r=>
   rw[ho]at g;have c:((0:Int) != 0)=false:=rfl;rw[a0I (s':=(all,(all.length:Int),(((done++[s]).length:Nat):Int),rows++[r],b1L,f,())) (by
    simp only[a3R,dlt k,cT,a,oB,g,c,cF,a1c (show rows.length+1<2147483648 by omega),a0C (show done.length<1000000 by omega)]
    simp)]
   rw[b4b f all d rest (done++[s]) (rows++[r]) (by simpa using hd) (by simp[hr]) (fun t j=>h t (by simp[j]))];simp only[oB];cases a3Z (fun s=>a1P s f.2.1) rest<;>simp
theorem b2t{f:a1h}(b:∀s∈f.2.2.2.2.1,SmallS s):a2x f=some (c6D (a6J f)):=by
 unfold a2x a6J;simp only[b1K,oB]
 by_cases hf:frP f
 rotate_left;simp only[hf,decide_false,a18,cT,oB,false_and,if_false];rfl
 by_cases hl:((f.2.2.2.2.1.length:Nat):Int)=f.2.2.1.2.1
 rotate_left;have e:(((f.2.2.2.2.1.length:Nat):Int) != f.2.2.1.2.1)=true:=by simpa using hl
 simp only[hf,decide_true,bT,cF,oB,e,cT,hl,and_false,if_false];rfl;have e:(((f.2.2.2.2.1.length:Nat):Int) != f.2.2.1.2.1)=false:=by simpa using hl
 have a:f.2.2.2.2.1.length≤8:=by have:=hf.1.2.2.2.1;omega
 have k:decide ((0:Int)≤((f.2.2.2.2.1.length:Nat):Int))=true:=by simp
 have h:=b4b f f.2.2.2.2.1 a f.2.2.2.2.1 [] [] rfl rfl b;rw[a06]at h;rw[if_pos ⟨hf,hl⟩];simp only[hf,decide_true,bT,cF,oB,e,k,tN,a1c (show f.2.2.2.2.1.length<2147483648 by omega),a05,cT]
 erw[h]
 cases hm:a3Z (fun s=>a1P s f.2.1) f.2.2.2.2.1 with
 |none=>rfl
 |some rs=>
  simp only[oB,a04,c5Q]
  by_cases hq:a2k rs∧a4h f.2.2.2.1 (rs.length:Int)
  ·simp only[if_pos hq];cases hu:a8o f.2.2.2.1 rs with
   |none=>rfl
   |some ch=>
    have g:((0:Int) != 0)=false:=rfl;simp only[b4z,g,cF,b0I,oB]
    by_cases hb:a2s (f.2.2.1.2.2.1,ch,())
    simp only[hb,decide_true,bT,cF,if_true];rfl;simp only[hb,decide_false,a18,cT,if_false];rfl
  simp only[if_neg hq];rfl
theorem c6E{f:a1h}(h:∀s∈f.2.2.2.2.1,SmallS s):a3y f=some (a6J f).isSome:=by
 unfold a3y;rw[b2t h];cases a6J f<;>rfl
theorem b3p{f:a1h}{b:a1o}(h:a6J f=some b):frP f∧((f.2.2.2.2.1.length:Nat):Int)=f.2.2.1.2.1∧∀s∈f.2.2.2.2.1,(a1P s f.2.1).isSome=true:=by
 unfold a6J at h
 split at h
 rename_i g;simp only[a00]at h;obtain⟨a,k,-⟩:=h;exact⟨g.1,g.2,b7c k⟩;cases h
theorem b2u{f:a1h}{b:a1o}(k:∀s∈f.2.2.2.2.1,SmallS s)(h:a6J f=some b):∃L,L.length≤5600000∧some ((L.length:Nat):Int)=f.2.2.2.2.1.foldr (fun s a=>a.bind fun a=>(a2a (s,f.2.1)).bind fun c=>some (c+a)) (some 0)∧
  a2S f=some (a1F f L,0)∧(∀R:List Int,R.length≤200000000→a3T (a1F f L++R)=some (f,((a1F f L).length:Int),(0:Int))):=by
 obtain⟨g,j,l⟩:=b3p h;have d:a3y f=some true:=by rw[c6E k,h];rfl
 have m:f.2.2.2.2.1.length≤8:=by have:=g.1.2.2.2.1;omega
 obtain⟨t,o,p,i,q,r⟩:=b9v d g m (fun s e=>⟨k s e,l s e⟩);exact⟨a0J t,i,q,r,fun R n=>b7T d g j o p i n⟩
theorem c2O{f:a1h}{b:a1o}(d:∀s∈f.2.2.2.2.1,SmallS s)(h:a6J f=some b):∃L,L.length≤5600000∧some ((L.length:Nat):Int)=f.2.2.2.2.1.foldr (fun s a=>a.bind fun a=>(a2a (s,f.2.1)).bind fun c=>some (c+a)) (some 0)∧
  a2S f=some (a1F f L,0)∧(∀R:List Int,R.length≤200000000→a3T (a1F f L++R)=some (f,((a1F f L).length:Int),(0:Int)))∧
  (∀R:List Int,R.length≤200000000→a6z (a1F f L++R)=some (f.2.2.1,f.1,f.2.1,(0:Int))):=by
 obtain⟨L,g,e,i,j⟩:=b2u d h;exact⟨L,g,e,i,j,fun R k=>b7U (b3p h).1 g k⟩
theorem b7V{x:List (List Int)}(h:∀r∈x,short r)(k:x.length<1000000):a7c (x,x)=some true:=by
 unfold a7c
 have:=a1p (f:=a4U) (β:=Unit ⊕ (Bool×Unit)) x (fun i=>(x,x,(i:Int),())) (fun _=>true) (bt:=Sum.inl ()) (bf:=Sum.inr (false,()))
  (fun i g _=>by simp only[a4U,dlt g,cT,a0B g,oB,c0O (h _ (a02 g)),decide_true,bT,cF,a0C (show i<1000000 by omega)])
  (fun i g hp=>by grind) (by simp_all[a4U])
 grind
theorem b6z{b:a1o}(h:∀r∈b.2.1,short r)(g:b.2.1.length<1000000):a4C (b,b)=some true:=by
 simp_all[a4C,b7V]
def c6F(b:a1o)(m:Nat):Prop:=b.2.1.length≤12∧∀r∈b.2.1,r.length≤m
theorem c3S(b:a1o)(m:Nat):∃t,a9z (b,(m:Int))=some t∧(t=true→c6F b m):=by
 unfold a9z
 by_cases h1:((b.2.1.length:Nat):Int) > 12
 simp_all;have g:decide (((b.2.1.length:Nat):Int) > 12)=false:=decide_eq_false h1
 have:=a1p (f:=a5V) (β:=Unit ⊕ (Bool×Unit)) b.2.1 (fun i=>((m:Int),(i:Int),b,())) (fun r=>decide (r.length≤m)) (bt:=Sum.inl ()) (bf:=Sum.inr (false,()))
  (fun i h hp=>by
   have e:decide (((b.2.1[i].length:Nat):Int) > (m:Int))=false:=by simp_all
   simp only[a5V,dlt h,cT,a0B h,oB,e,cF,a0C (show i<1000000 by omega)])
  (fun i h hp=>by
   have e:decide (((b.2.1[i].length:Nat):Int) > (m:Int))=true:=by simp_all
   simp_all[a5V,a0B]) (by simp_all[a5V])
 simp at this;simp only[g,cF];rw[this];cases hA:b.2.1.all (fun r=>decide (r.length≤m))with
 |true=>exact⟨true,rfl,fun _=>⟨by omega,fun r k=>by simp_all⟩⟩
 |false=>simp
theorem c4M{c:List (List Int)}:a8X c=some (decide (1≤c.length∧c.length≤8∧c.all (fun r=>decide (r.length=(c.headD []).length))=true)):=by
 unfold a8X
 by_cases h1:((c.length:Nat):Int)<1
 grind
 by_cases h2:((c.length:Nat):Int) > 8
 grind
 have g:0<c.length:=by omega
 have k:m0k c 0=some (c.headD []):=by rw[show(0:Int)=((0:Nat):Int)from rfl,a0B g,a9n (d:=[]) g]
 have:=a1p (f:=a5g) (β:=Unit ⊕ (Bool×Unit)) c (fun i=>(c,(i:Int),())) (fun r=>decide (r.length=(c.headD []).length)) (bt:=Sum.inl ()) (bf:=Sum.inr (false,()))
  (fun i h hp=>by
   simp only[dT]at hp;have e:((((c[i]).length:Nat):Int) != (((c.headD []).length:Nat):Int))=false:=by simp_all
   simp only[a5g,dlt h,cT,a0B h,oB,k,e,cF,a0C (show i<1000000 by omega)])
  (fun i h hp=>by
   simp only[decide_eq_false_iff_not]at hp;have e:((((c[i]).length:Nat):Int) != (((c.headD []).length:Nat):Int))=true:=by grind
   simp only[a5g,dlt h,cT,a0B h,oB,k,e]) (by simp_all[a5g])
 grind
theorem b3q{x w:Int}(h:4≤w∧w≤24):a9i (x,w)=some (a1r x w):=by
 have:=c0R (x:=x) (w:=w.toNat) (by omega)
 grind
theorem b5H(b:a1o):a5h b=some (decide (a2s b)):=by
 unfold a5h
 by_cases h1:b.1<4
 rw[decide_eq_true h1,decide_eq_false (fun h:a2s b=>by have:=h.1;omega)];rfl
 by_cases h2:b.1 > 24
 rw[decide_eq_false h1,decide_eq_true h2,decide_eq_false (fun h:a2s b=>by have:=h.2.1;omega)];rfl;simp only[decide_eq_false h1,decide_eq_false h2,cF,c4M,oB]
 by_cases h3:1≤b.2.1.length∧b.2.1.length≤8∧b.2.1.all (fun r=>decide (r.length=(b.2.1.headD []).length))=true
 rotate_left;rw[decide_eq_false h3,decide_eq_false (fun h:a2s b=>h3 ⟨h.2.2.1,h.2.2.2.1,lA.2 fun r c=>by
  have:=lA.1 h.2.2.2.2.2.2 r c
  simp only[bA]at this;exact this.1⟩)];rfl
 have e:0<b.2.1.length:=by omega
 have l:m0k b.2.1 0=some (b.2.1.headD []):=by rw[show(0:Int)=((0:Nat):Int)from rfl,a0B e,a9n (d:=[]) e]
 simp only[decide_eq_true h3,bT,cF,l,oB]
 by_cases h4:(((b.2.1.headD []).length:Nat):Int)<1
 rw[decide_eq_true h4,decide_eq_false (fun h:a2s b=>by have:=h.2.2.2.2.1;grind[a1s])];rfl
 by_cases h5:(((b.2.1.headD []).length:Nat):Int) > 4096
 rw[decide_eq_false h4,decide_eq_true h5,decide_eq_false (fun h:a2s b=>by have:=h.2.2.2.2.2.1;grind[a1s])];rfl;simp only[decide_eq_false h4,decide_eq_false h5,cF,oB];have hb:4≤b.1∧b.1≤24:=by omega
 have g:∀(i:Nat)(a:i<b.2.1.length),y0s a2v ((i:Int),(0:Int),b,())=some (bif (b.2.1[i]).all (fun x=>a1r x b.1)then Sum.inl ((i:Int),b,())else Sum.inr (false,())):=fun i a=>by
  have o:(b.2.1[i]).length=(b.2.1.headD []).length:=by simp_all
  have:=a1p (f:=a2v) (β:=(Int×a1o×Unit) ⊕ (Bool×Unit)) b.2.1[i] (fun j=>((i:Int),(j:Int),b,())) (fun x=>a1r x b.1) (bt:=Sum.inl ((i:Int),b,())) (bf:=Sum.inr (false,()))
   (fun j h hp=>by simp only[a2v,a0B a,oB,dlt h,cT,a0B h,b3q hb,hp,bT,cF,a0C (show j<1000000 by omega)])
   (fun j h hp=>by simp only[a2v,a0B a,oB,dlt h,cT,a0B h,b3q hb,hp,a18])
   (by simp_all[a2v,a0B])
  omega
 have k:=a1p (f:=a3t) (β:=Unit ⊕ (Bool×Unit)) b.2.1 (fun i=>((i:Int),b,())) (fun r=>r.all fun x=>a1r x b.1) (bt:=Sum.inl ()) (bf:=Sum.inr (false,()))
  (fun i h hp=>by
   have a:=g i h;rw[hp,cT]at a;simp only[a3t,dlt h,cT]
   grind[a0C])
  (fun i h hp=>by
   have a:=g i h;rw[hp,cF]at a;simp_all[a3t])
  (by simp_all[a3t])
 simp at k;rw[k]
 by_cases hA:b.2.1.all (fun r=>r.all fun x=>a1r x b.1)=true
 rw[hA,decide_eq_true (p:=a2s b) (⟨hb.1,hb.2,h3.1,h3.2.1,by unfold a1s;omega,by unfold a1s;omega,lA.2 fun r c=>by
  have m:=lA.1 h3.2.2 r c;have n:=lA.1 hA r c;simp_all[a1s]⟩:a2s b)]
 rfl;rw[a09.2 hA,decide_eq_false (p:=a2s b) (fun h=>hA (lA.2 fun r c=>by
  have:=lA.1 h.2.2.2.2.2.2 r c
  simp_all))]
 rfl
theorem c1f{b:a1o}(h:∀r∈b.2.1,r.length≤100):∃t,a5h b=some t∧(t=true→a2s b):=⟨_,b5H b,of_decide_eq_true⟩
theorem c5R{x w:Int}(b:4≤w∧w≤24)(h:a1r x w=true):-16777216≤x∧x≤16777216:=by
 unfold a1r at h;simp at h;obtain⟨-,-,f,g⟩:=h;obtain⟨o,k⟩:∃o:Nat,w-1=(o:Int):=⟨(w-1).toNat,by omega⟩;rw[k]at f g;rw[b8V (by omega)]at g;have hp:2^o≤2^24:=a19 (by omega) (by omega);have a:A0n .i64 (-1) (o:Int)=wrap .i64 (-((2^o:Nat):Int)):=by
  unfold A0n;show wrap .i64 (-1*2^(min (o:Int).toNat 64))=_
  grind
 grind[a0D]
theorem c3T{x w:Int}(g:4≤w∧w≤24)(h:a1r x w=true):a0A x=true:=a1x.2 (by have:=c5R g h;omega)
theorem b0J{b:a1o}(h:a2s b):a2W b.2.1 (a1s b)∧a2k b.2.1:=by
 obtain⟨k,a,c,d,e,i,g⟩:=h;have j:a2W b.2.1 (a1s b):=fun r f=>by
  have:=lA.1 g r f
  simp only[bA,dT]at this
  grind[c3T]
 grind[b4y]
theorem b2v{b:a1o}(hb:a2s b){l:List a0U}(c:a4h l (b.2.1.length:Int)){rows:List (List Int)}(n:doO l b.2.1=some rows){ss:List Sub}(q:a3Z (fun s=>a1P s ((a1s b:Nat):Int)) ss=some rows)
  {start rate:Int}(h:0≤start∧start≤4194304-((a1s b:Nat):Int))(p:1≤rate∧rate≤1048576):
  a6J (start,((a1s b:Nat):Int),(rate,((b.2.1.length:Nat):Int),b.1,()),l,ss,())=some b:=by
 obtain⟨m,y⟩:=b0J hb;obtain⟨x,z⟩:=a8F l m rfl c.2.2.2 n;have o:=b4A q;obtain⟨e,i,r,t,u,j,v⟩:=hb;have a:frP (start,((a1s b:Nat):Int),(rate,((b.2.1.length:Nat):Int),b.1,()),l,ss,()):=⟨⟨p.1,p.2,by grind,by grind,e,i⟩,by grind,by grind,h.1,h.2,c⟩;have k:((ss.length:Nat):Int)=((b.2.1.length:Nat):Int):=by omega
 have g:a2k rows:=b4y x (by omega) (by omega) j;have d:a4h l ((rows.length:Nat):Int):=by simp_all
 have w:=c1t l m rfl c.2.2.2 n;have f:((b.1,b.2.1,()):a1o)=b:=rfl;unfold a6J;rw[if_pos ⟨a,k⟩];simp only[q,oB];rw[if_pos ⟨g,d⟩,w];simp only[oB,f];rw[if_pos ⟨e,i,r,t,u,j,v⟩]
def b5I:a1h:=(0,0,(0,0,0,()),[],[],())
theorem d0H(k:Nat)(a:k≤62)(y:Int):∃v:Nat,bits .i64 .and y ((2^k-1:Nat):Int)=(v:Int)∧v<2^k:=by
 have hp:2^k≤2^62:=a19 (by omega) a;have f:0<2^k:=Nat.pow_pos (by omega);have h:((a01 64 y) &&& (a01 64 ((2^k-1:Nat):Int))).toNat=(a01 64 y).toNat%2^k:=by
  rw[BitVec.toNat_and];have e:(a01 64 ((2^k-1:Nat):Int)).toNat=2^k-1:=by
   rw[a07];generalize 2^k=p at *;omega
  rw[e,Nat.and_two_pow_sub_one_eq_mod]
 have g:=Nat.mod_lt (a01 64 y).toNat f;refine⟨(a01 64 y).toNat%2^k,?_,g⟩;show wrap .i64 ((((a01 64 y) &&& (a01 64 ((2^k-1:Nat):Int))).toNat:Nat):Int)=_;rw[h];generalize (a01 64 y).toNat%2^k=z at *;exact a0D (by omega)
theorem b5J(c:List (List Int))(n i:Int){r:List Int}(a:short r):∀(k j:Nat)(s:Int),2≤j→j+k=r.length∨(k=0∧r.length≤j)→∃s',y0s a5A (s,r,(j:Int),c,n,i,())=some (s',c,n,i,())
 |0,j,s,h2,h=>⟨s,a0H (by
   have d:decide ((j:Int)<(r.length:Int))=false:=by grind
   simp only[a5A,d,cF])⟩
 |k+1,j,s,h2,h=>by
  have f:j<r.length:=by omega
  unfold short at a;have b:wrap .i64 ((j:Int)-1)=((j-1:Nat):Int):=by grind[a0D]
  have e:wrap .i64 ((j:Int)-2)=((j-2:Nat):Int):=by grind[a0D]
  have m:=a0B (l:=r) (i:=j-1) (by omega);have o:=a0B (l:=r) (i:=j-2) (by omega);obtain⟨s',g⟩:=b5J c n i a k (j+1) (wrap .i64 (s+v0r (wrap .i64 (wrap .i64 (r[j]-wrap .i64 (2*r[j-1]))+r[j-2])) (wrap .i64 (0-wrap .i64 (wrap .i64 (r[j]-wrap .i64 (2*r[j-1]))+r[j-2]))))) (by omega) (by omega);refine⟨s',?_⟩;rw[←g];exact a0I (by simp only[a5A,dlt f,cT,a0B f,oB,b,e,m,o,a0C (show j<1000000 by omega)])
theorem b7d{c:List (List Int)}{n:Nat}(h:a2W c n)(o:n≤4096)(m:c.length<1000):∃w,a5S c=some w:=by
 unfold a5S;simp only[b6y,oB]
 by_cases hq:a2k c
 rotate_left;simp_all;simp[hq];have f:∀(k i:Nat)(s:Int),i+k=c.length→∃s',y0s a5B (s,c,(c.length:Int),(i:Int),())=some (s',()):=by
  intro k
  induction k with
  |zero=>
   intro i s d;obtain rfl:i=c.length:=by omega
   simp_all[a0H,a5B]
  |succ k ih=>
   intro i s d;have g:i<c.length:=by omega
   have p:=(h _ (a02 g)).1;obtain⟨j,a⟩:=b5J c (c.length:Int) (i:Int) (r:=c[i]) (by unfold short;omega) (c[i].length-2) 2 s (a08 _) (by omega);obtain⟨l,b⟩:=ih (i+1) j (by omega);refine⟨l,?_⟩;rw[←b];rw[show((2:Nat):Int)=2 from rfl]at a;exact a0I (by simp only[a5B,dlt g,cT,a0B g,oB,a,a0C (show i<1000000 by omega)])
 obtain⟨s',e⟩:=f c.length 0 0 (by omega);simp_all
def a4a(m:Nat):List a0U:=match m with
 | 1=>[(0,1,-256,())]
 | 2=>[(1,0,-256,())]
 | 3=>[(1,0,-256,()),(0,1,128,())]
 | 4=>[(1,0,-106,()),(0,1,181,()),(1,0,-106,())]
 |_=>[]
theorem b4B{m:Nat}(h:m≤4):a8d (m:Int)=some (a4a m):=by
 match m,h with
 |0,_=>rfl
 | 1,_=>rfl
 | 2,_=>rfl
 | 3,_=>rfl
 | 4,_=>rfl
theorem b7e{m:Nat}(h:m≤4):a4h (a4a m) 2:=by
 match m,h with
 |0,_=>decide
 | 1,_=>decide
 | 2,_=>decide
 | 3,_=>decide
 | 4,_=>decide
theorem b1e{p:List (List Int)}{n:Nat}(hp:a2W p n)(b:p.length=2)(f:a2k p)(a:n≤4096):∀(k m best:Nat)(least:Int),m+k=5→best≤4→(doO (a4a best) p).isSome=true→
  ∃best',y0s a5c (p,(best:Int),least,(m:Int),())=some (((best':Nat):Int),())∧best'≤4∧(doO (a4a best') p).isSome=true
 |0,m,best,least,hm,hb,hd=>by
  obtain rfl:m=5:=by omega
  exact⟨best,a0H rfl,hb,hd⟩
 |k+1,m,best,least,hm,hb,hd=>by
  have d:decide ((m:Int)<5)=true:=by grind
  have e:wrap .i64 ((m:Int)+1)=((m+1:Nat):Int):=a0C (by omega);have g:a4h (a4a m) (p.length:Int):=by grind[b7e]
  cases hdo:doO (a4a m) p with
  |none=>
   have b1:((6:Int) != 0)=true:=rfl;rw[a0I (s':=(p,(best:Int),least,((m+1:Nat):Int),())) (by
    simp only[a5c,d,cT,b4B (show m≤4 by omega),oB,b7Z,if_pos (show a2k p∧a4h (a4a m) (p.length:Int)from⟨f,g⟩),hdo,b4z,b1,e])]
   exact b1e hp b f a k (m+1) best least (by omega) hb hd
  |some r=>
   have i:((0:Int) != 0)=false:=rfl;obtain⟨j,l⟩:=a8F (a4a m) hp rfl g.2.2.2 hdo
   obtain⟨w,c⟩:=b7d j a (by omega);have h:a5c (p,(best:Int),least,(m:Int),())=bif decide (w<least)then some (.inl (p,(m:Int),w,((m+1:Nat):Int),()))else some (.inl (p,(best:Int),least,((m+1:Nat):Int),())):=by
    simp only[a5c,d,cT,b4B (show m≤4 by omega),oB,b7Z,if_pos (show a2k p∧a4h (a4a m) (p.length:Int)from⟨f,g⟩),hdo,b4z,i,cF,c,e]
   cases hlt:decide (w<least)with
   |true=>
    rw[hlt]at h;rw[a0I h];exact b1e hp b f a k (m+1) m w (by omega) (by omega) (by simp_all)
   |false=>
    rw[hlt]at h;rw[a0I h];exact b1e hp b f a k (m+1) best least (by omega) hb hd
theorem c5S{p:List (List Int)}{n:Nat}(hp:a2W p n)(g:p.length=2)(h:n≤4096):∃m,m≤4∧a8N p=some (a4a m)∧(doO (a4a m) p).isSome=true:=by
 have k:=b4y hp (by omega) (by omega) h;obtain⟨w,c⟩:=b7d hp h (by omega);obtain⟨m,a,f,b⟩:=b1e hp g k h 4 1 0 w rfl (by omega) rfl
 grind[a8N,b4B]
def a9o(i:Nat)(s:a0U):a0U:=(s.1+(i:Int),s.2.1+(i:Int),s.2.2.1,())
theorem c4N{i N:Nat}(h:i+2≤N){s:a0U}(k:a2d 2 s=true):a2d (N:Int) (a9o i s)=true:=by
 obtain⟨a1,a,b,c,d,g,f⟩:=a2z.1 k;exact a2z.2 ⟨by show 0≤s.1+(i:Int);omega,by show s.1+(i:Int)<(N:Int);omega,by show 0≤s.2.1+(i:Int);omega,by show s.2.1+(i:Int)<(N:Int);omega,by show s.1+(i:Int)≠s.2.1+(i:Int);omega,g,f⟩
def b8a(i:Nat)(c c' p:List (List Int)):Prop:=c'.length=c.length∧p.length=2∧c'.getD i []=p.getD 0 []∧c'.getD (i+1) []=p.getD 1 []∧∀j,j≠i→j≠i+1→c'.getD j []=c.getD j []
theorem c2P{i:Nat}{c0 c p p':List (List Int)}(D:i+2≤c0.length)(h:b8a i c0 c p){s:a0U}(n:a2d 2 s=true)(g:a3i 1 s p=some p'):∃c',a3i 1 (a9o i s) c=some c'∧b8a i c0 c' p':=by
 obtain⟨y,z,A,B,C⟩:=h;obtain⟨a1,k,a,b,q,t,u⟩:=a2z.1 n;unfold a3i at g⊢;simp only at g⊢;have f:∀x:Int,0≤x→x<2→c.getD (x+(i:Int)).toNat []=p.getD x.toNat []:=fun x F o=>by
  grind
 have v:=f s.1 a1 k;have w:=f s.2.1 a b;simp only[a9o];have m:a7K 1 s.2.2.1 (c.getD (s.1+(i:Int)).toNat []) (c.getD (s.2.1+(i:Int)).toNat [])=a7K 1 s.2.2.1 (p.getD s.1.toNat []) (p.getD s.2.1.toNat []):=by simp_all
 simp only[m]
 split at g
 rename_i d;cases g;rw[if_pos d];generalize a7K 1 s.2.2.1 (p.getD s.1.toNat []) (p.getD s.2.1.toNat [])=r at *;refine⟨_,rfl,by grind,by grind,?_,?_,fun j E l=>?_⟩
 have:s.2.1=0∨s.2.1=1:=by omega
 rcases this with e|e;rw[e,show((0:Int)+(i:Int)).toNat=i from by omega,a6k _ (by omega),show(0:Int).toNat=0 from rfl,a6k _ (by omega)];rw[e,show((1:Int)+(i:Int)).toNat=i+1 from by omega,a9e _ (by omega),show(1:Int).toNat=1 from rfl,a9e _ (by omega)];omega
 have:s.2.1=0∨s.2.1=1:=by omega
 rcases this with e|e;simp_all;rw[e,show((1:Int)+(i:Int)).toNat=i+1 from by omega,a6k _ (by omega),show(1:Int).toNat=1 from rfl,a6k _ (by omega)];rw[a9e _ (by omega)];simp_all;simp_all
theorem b9z{i:Nat}{c0:List (List Int)}(f:i+2≤c0.length):∀(l:List a0U){c p p':List (List Int)},l.all (a2d 2)=true→b8a i c0 c p→doO l p=some p'→∃g,doO (l.map (a9o i)) c=some g∧b8a i c0 g p'
 | [],c,p,p',_,h,hd=>by cases hd;exact⟨c,rfl,h⟩
 |s::l,c,p,p',hl,h,hd=>by
  simp only[a16,bA]at hl;simp[doO,a00]at hd;obtain⟨q,k,a⟩:=hd;obtain⟨d,b,e⟩:=c2P f h hl.1 k;obtain⟨g,j1,j2⟩:=b9z f l hl.2 e a;exact⟨g,by simp only[List.map_cons,doO,b,oB];exact j1,j2⟩
theorem c1v:∀(l m:List a0U)(c:List (List Int)),doO (l++m) c=(doO l c).bind (doO m)
 | [],m,c=>rfl
 |s::l,m,c=>by
  simp only[a22,doO];cases a3i 1 s c with
  |none=>rfl
  |some d=>exact c1v l m d
theorem c3U{α β:Type}(f:α→β):∀l:List α,l.flatMap (fun x=>[f x])=l.map f
 | []=>rfl
 |x::l=>by simp[c3U f l]
theorem c1g(b:a1o)(first:Nat)(t:first≤100){y:List a0U}(e:y.all (a2d 2)=true)(s:y.length≤10)(out:List a0U)(u:out.length≤1000):
  y0s a5d ((first:Int),(y.length:Int),(0:Int),out,y,b,())=some ((first:Int),out++y.map (a9o first),b,()):=by
 have:=a1E (f:=a5d) (β:=Int×(List a0U×(a1o×Unit))) y (fun i (a:List a0U)=>((first:Int),(y.length:Int),(i:Int),a,y,b,())) (fun a x=>.inl (a++[a9o first x])) (fun i a=>a.length=out.length+i) (fun a=>((first:Int),a,b,()))
  (fun i g a c=>⟨fun j h=>by
   simp at h;subst h;obtain⟨a1,l,m,o,p,q,r⟩:=a2z.1 (lA.1 e _ (a02 g));have k:decide ((0:Int)≤(i:Int))=true:=by simp
   have d:a24 y (a17 (i:Int)) ((0:Int),(0:Int),(0:Int),())=y[i]:=by simp_all
   refine⟨?_,by grind⟩;simp only[a5d,dlt g,cT,k,a05,a1c (show a.length+1<2147483648 by omega),d,a0C (show i<1000000 by omega),List.append_eq];rw[a0D (n:=y[i].1+(first:Int)) (by omega),a0D (n:=y[i].2.1+(first:Int)) (by omega)]
   rfl,fun b hb=>by grind⟩)
  (fun a c=>by simp_all[a5d]) (a:=out) (by simp)
 simp_all[b0G,a7m,c3U]
theorem c7T{c:List (List Int)}{i:Nat}(h:i+2≤c.length):List.drop i (List.take (i+2) c)=[c.getD i [],c.getD (i+1) []]:=by
 apply List.ext_getElem?;intro j;rw[a21]
 grind
theorem b5K{b:a1o}{n:Nat}(o:a2W b.2.1 n)(p:n≤4096)(z:b.2.1.length≤8):∀(k j:Nat)(out:List a0U)(c:List (List Int)),j+k=5→out.length≤3*j→out.all (a2d (b.2.1.length:Int))=true→doO out b.2.1=some c→(∀i,2*j≤i→c.getD i []=b.2.1.getD i [])→3*j≤12∨b.2.1.length≤2*j→
  ∃l f,y0s a6U (((2*j:Nat):Int),out,b,())=some (l,())∧l.length≤16∧l.all (a2d (b.2.1.length:Int))=true∧doO l b.2.1=some f
 |k,j,out,c,hk,hol,hob,hdo,hag,h12=>by
  have g:wrap .i64 (((2*j:Nat):Int)+1)=((2*j+1:Nat):Int):=by grind[a0D]
  by_cases hlt:2*j+1<b.2.1.length
  ·cases k with
   |zero=>omega
   |succ k=>
    have e:wrap .i64 (((2*j:Nat):Int)+2)=((2*j+2:Nat):Int):=by grind[a0D]
    have hp:a2W [b.2.1.getD (2*j) [],b.2.1.getD (2*j+1) []] n:=fun r q=>by
     simp only[mC,List.not_mem_nil,or_false]at q;rcases q with rfl|rfl
     all_goals grind[a6H]
    obtain⟨m,u,O,E⟩:=c5S hp rfl p;obtain⟨p',d⟩:=Option.isSome_iff_exists.1 E;have h:=(b7e u).2.2.2;have C:(a4a m).length≤3:=by
     match m,u with
     |0,_=>decide
     | 1,_=>decide
     | 2,_=>decide
     | 3,_=>decide
     | 4,_=>decide
    have A:c.length=b.2.1.length:=(a8F out o rfl hob hdo).2;obtain⟨f,F,G,H,I,K,L⟩:=b9z (i:=2*j) (c0:=c) (by omega) (a4a m) h ⟨rfl,rfl,hag _ (a08 _),hag _ (by omega),fun _ _ _=>rfl⟩ d;have B:=c1g b (2*j) (by omega) h (by omega) out (by omega);have a:decide (((2*j+1:Nat):Int)<((b.2.1.length:Nat):Int))=true:=by grind
    have v:decide ((0:Int)≤((2*j+2:Nat):Int))=true:=by rfl
    have w:decide (((2*j+2:Nat):Int)≤((b.2.1.length:Nat):Int))=true:=by grind
    have x:decide ((0:Int)≤((2*j:Nat):Int))=true:=by rfl
    have y:decide (((2*j:Nat):Int)≤((2*j+2:Nat):Int))=true:=by grind
    rw[a0I (s':=(((2*(j+1):Nat):Int),out++(a4a m).map (a9o (2*j)),b,())) (by
     simp only[a6U,g,a,cT,e,v,w,a05,tN,x,y]
     grind[c7T])]
    refine b5K o p z k (j+1) (out++(a4a m).map (a9o (2*j))) f (by omega) (by grind) ?_ (by simp_all[c1v]) (fun i M=>by grind) (by omega);rw[List.all_append,hob,a20,lA];intro s D;obtain⟨t,N,rfl⟩:=List.mem_map.1 D
    grind[c4N]
  refine⟨out,c,a0H ?_,by omega,hob,hdo⟩;have a:decide (((2*j+1:Nat):Int)<((b.2.1.length:Nat):Int))=false:=by grind
  simp only[a6U,g,a,cF]
termination_by k=>k
theorem b9A{b:a1o}(hb:a2s b):∃l h,a6h b=some l∧a4h l (b.2.1.length:Int)∧doO l b.2.1=some h:=by
 obtain⟨c,-⟩:=b0J hb;have a:=hb.2.2.2.1;obtain⟨l,h,d,g,f,k⟩:=b5K c hb.2.2.2.2.2.1 a 5 0 [] b.2.1 rfl (by simp) rfl rfl (fun _ _=>rfl) (by omega);refine⟨l,h,?_,⟨by have:=hb.2.2.1;omega,by omega,g,f⟩,k⟩;unfold a6h;simp[b0I,decide_eq_true hb];simp_all
theorem b4C{r:List Int}{n:Nat}(h:r.length=n∧r.all a0A=true)(a:1≤n)(b:n≤256){k:Int}(f:0≤k)(c:k≤3):
  ∃s,a2b (r,k)=some (s,0)∧SmallS s∧a1P s (n:Int)=some r∧a2D s (n:Int)≤((13+a0G r*n:Nat):Int):=by
 obtain⟨e,g⟩:=h;have d:=a4G (l:=r) (by omega) g
 grind[b2m,c3v]
theorem b5L{effort:Int}(k:0≤effort)(c:effort≤3){rows:List (List Int)}{n:Nat}(i:a2W rows n)(a:1≤n)(b:n≤256)(j:rows.length≤8)(f:a1h):∀(rest d:List (List Int)) (done:List Sub),d++rest=rows→done.length=d.length→
  ∃outs,y0s a4y (effort,rows,(rows.length:Int),(d.length:Int),b5I,a7f f done,())=some (.inl (b5I,a7f f (done++outs),()))∧a3Z (fun s=>a1P s (n:Int)) outs=some rest∧(∀s∈outs,SmallS s)∧a3Z (fun r=>a2b (r,effort)) rest=some (outs.map fun s=>(s,0))
 | [],d,done,hd,hdl=>by
  have e:d=rows:=by simp_all
  subst e;refine⟨[],?_,rfl,by simp,rfl⟩;simp_all[a0H,a4y]
 |r::rest,d,done,hd,hdl=>by
  have g:d.length<rows.length:=by grind
  have l:m0k rows (d.length:Int)=some r:=by grind[a0B]
  obtain⟨s,b1,b2,m,-⟩:=b4C (i r (by grind)) a b k c;have z0:((0:Int) != 0)=false:=rfl;have h:a4y (effort,rows,(rows.length:Int),(d.length:Int),b5I,a7f f done,())=some (.inl (effort,rows,(rows.length:Int),(((d++[r]).length:Nat):Int),b5I,a7f f (done++[s]),())):=by
   simp only[a4y,dlt g,cT,l,oB,b1,z0,cF];rw[show(a7f f done).2.2.2.2.1=done from rfl,a1c (show done.length+1<2147483648 by omega),cT,a0C (show d.length<1000000 by omega)];rw[show(((d++[r]).length:Nat):Int)=((d.length+1:Nat):Int)from by simp];rfl
  rw[a0I h];obtain⟨outs,p,q,u,v⟩:=b5L k c i a b j f rest (d++[r]) (done++[s]) (by simp_all) (by simp_all);refine⟨s::outs,?_,?_,fun t o=>?_,?_⟩;simp_all;simp_all[a3Z]
  grind
  simp_all[a3Z]
theorem b2w{b:a1o}(hb:a2s b)(k:a1s b≤256){rate start effort:Int}(n:1≤rate∧rate≤1048576)(B:0≤start∧start≤4194304-((a1s b:Nat):Int))(y:0≤effort)(z:effort≤3):
  ∃l g outs,a3a (b,(rate,((b.2.1.length:Nat):Int),b.1,()),start,effort)=some ((start,((a1s b:Nat):Int),(rate,((b.2.1.length:Nat):Int),b.1,()),l,outs,()),0)∧
   a4h l (b.2.1.length:Int)∧doO l b.2.1=some g∧a3Z (fun s=>a1P s ((a1s b:Nat):Int)) outs=some g∧(∀s∈outs,SmallS s)∧a3Z (fun r=>a2b (r,effort)) g=some (outs.map fun s=>(s,0))∧
   (effort=0→l=[])∧(0<effort→a6h b=some l):=by
 obtain⟨A,m⟩:=b0J hb;have i:=hb;obtain⟨w,x,D,E,F,G,-⟩:=i;have j:b4w (rate,((b.2.1.length:Nat):Int),b.1,()):=⟨n.1,n.2,by grind,by grind,w,x⟩;have f:∃l g,a4h l (b.2.1.length:Int)∧doO l b.2.1=some g∧(effort=0→l=[])∧(0<effort→a6h b=some l):=by
  by_cases he:effort=0
  exact⟨[],b.2.1,⟨by omega,by omega,by simp,rfl⟩,rfl,fun _=>rfl,fun h=>by omega⟩
  grind[b9A]
 obtain⟨l,g,e,d,a,c⟩:=f;obtain⟨C,H⟩:=a8F l A rfl e.2.2.2 d;obtain⟨outs,j1,j2,j3,j4⟩:=b5L y z C (by omega) k (by omega) (start,((a1s b:Nat):Int),(rate,((b.2.1.length:Nat):Int),b.1,()),l,([]:List Sub),()) g [] [] rfl rfl;refine⟨l,g,outs,?_,e,d,j2,j3,j4,a,c⟩;have u:(b.1 != b.1)=false:=bne_self_eq_false _;have v:(((b.2.1.length:Nat):Int) != ((b.2.1.length:Nat):Int))=false:=bne_self_eq_false _;have o:decide (effort<0)=false:=by simp_all
 have p:decide (effort > 3)=false:=by simp_all
 have q:decide (start<0)=false:=by simp_all
 have t:decide (start > wrap .i64 (4194304-((a1s b:Nat):Int)))=false:=by grind[a0D]
 have z0:((0:Int) != 0)=false:=rfl;unfold a3a;simp only[b0I,decide_eq_true hb,oB,bT,cF,b1J,decide_eq_true j,u,v,o,p,q,a6I,t];cases he:decide (effort > 0)with
 |true=>
  have:=c (by simp_all)
  simp[this,b7Z,if_pos (show a2k b.2.1∧a4h l (b.2.1.length:Int)from⟨m,e⟩),d,b4z]
  erw[j1]
  rfl
 |false=>
  have:=a (by grind)
  subst this;simp only[cF,oB,b7Z,if_pos (show a2k b.2.1∧a4h ([]:List a0U) (b.2.1.length:Int)from⟨m,e⟩),d,b4z,z0]
  erw[j1]
  rfl
theorem made{b:a1o}(hb:a2s b)(f:a1s b≤256){rate start effort:Int}(e:1≤rate∧rate≤1048576)(a:0≤start∧start≤4194304-((a1s b:Nat):Int))(j:0≤effort)(n:effort≤3):
  ∃g:Int×(a0U×(List a0U×(List Sub×Unit))),a3a (b,(rate,((b.2.1.length:Nat):Int),b.1,()),start,effort)=some ((start,g),0)∧g.1=((a1s b:Nat):Int)∧g.2.1=(rate,((b.2.1.length:Nat):Int),b.1,())∧
   g.2.2.1.length≤16∧g.2.2.2.1.length≤8∧(∀s∈g.2.2.2.1,SmallS s)∧∀h,0≤h∧h≤4194304-((a1s b:Nat):Int)→a6J (h,g)=some b:=by
 obtain⟨l,i,outs,m,k,c,d,o,-⟩:=b2w hb f e a j n;obtain⟨p,-⟩:=b0J hb;have t:=b4A d;have q:=(a8F l p rfl k.2.2.2 c).2;exact⟨_,m,rfl,rfl,k.2.2.1,by have:=hb.2.2.2.1;show outs.length≤8;omega,o,fun h r=>b2v hb k c d r e⟩
theorem b7f:∀(k a b:Nat),b<128^(k+1)→a≤b→(a0O a).length≤(a0O b).length
 |0,a,b,h,hab=>by rw[a7Q (n:=a) (by omega),a7Q (n:=b) (by omega)];simp
 |k+1,a,b,h,hab=>by
  have hb:=b2q (k+1) b h
  by_cases ha:a<128
  rw[a7Q ha];simpa using hb.1;have g:¬ b<128:=by omega
  rw[a8E ha,a8E g]
  have:=b7f k (a / 128) (b / 128) (by rw[Nat.div_lt_iff_lt_mul (by omega)];rw[Nat.pow_succ]at h;exact h) (Nat.div_le_div_right hab)
  simp only[lC];omega
theorem c2Q{s:Int}{n:Int}{fm:a0U}{l:List a0U}{o o':List Sub}{L L':List Int}(h:L'.length≤L.length)(k:L.length≤5600000):
  (a1F (s,n,fm,l,o',()) L').length≤(a1F (s,n,fm,l,o,()) L).length:=by
 have g:=(a9m L).1;have f:=(a9m L').1;have hv:=b7f 3 (a3x L').length (a3x L).length (by rw[show 128^(3+1)=268435456 from rfl];omega) (by omega);simp only[a1F,a4i,a1q,hb,lN,lC,a06];omega
theorem b7g{k k':Int}(z:0≤k)(G:k≤k')(C:k'≤3){n:Nat}(A:1≤n)(B:n≤256):∀{rows:List (List Int)} {outs outs':List Sub},a3Z (fun r=>a2b (r,k)) rows=some (outs.map fun s=>(s,0))→a3Z (fun r=>a2b (r,k')) rows=some (outs'.map fun s=>(s,0))→
  (∀r∈rows,r.length=n∧r.all a0A=true)→∃c p:Nat,outs.foldr (fun s a=>a.bind fun a=>(a2a (s,(n:Int))).bind fun c=>some (c+a)) (some 0)=some (c:Int)∧outs'.foldr (fun s a=>a.bind fun a=>(a2a (s,(n:Int))).bind fun c=>some (c+a)) (some 0)=some (p:Int)∧p≤c
 | [],outs,outs',h,h',_=>by
  have e:outs=[]:=by
   cases outs with
   |nil=>rfl
   |cons a l=>simp[a3Z]at h
  have M:outs'=[]:=by
   cases outs' with
   |nil=>rfl
   |cons a l=>simp[a3Z]at h'
  subst e M;exact⟨0,0,rfl,rfl,a08 _⟩
 |r::rows,outs,outs',h,h',hr=>by
  simp only[a3Z,a00,sj]at h h';obtain⟨y,F,ys,P,x⟩:=h;obtain⟨y',j,T,w,g⟩:=h';cases outs with
  |nil=>cases x
  |cons s outs=>
   cases outs' with
   |nil=>cases g
   |cons s' outs'=>
    simp only[List.map_cons,List.cons.injEq]at x g;obtain⟨rfl,rfl⟩:=x;obtain⟨rfl,rfl⟩:=g;obtain⟨E,u⟩:=hr r (by simp);obtain⟨c,p,N,O,U⟩:=b7g z G C A B P w (fun q R=>hr q (by simp[R]));obtain⟨t,b1,b2,K,-⟩:=b4C ⟨E,u⟩ A B z (show k≤3 by omega);obtain⟨S,d,i,v,-⟩:=b4C ⟨E,u⟩ A B (show 0≤k' by omega) C;have Q:=a4G (l:=r) (by omega) u;have b:=c3y (l:=r) (by omega) (by omega) u (c3v (by have:=Q.2.2.1;omega)) z G C F j;rw[E]at b;rw[F]at b1;rw[j]at d;obtain rfl:s=t:=by simpa using b1
    obtain rfl:s'=S:=by simpa using d
    obtain⟨I,-,H,-⟩:=b4v b2 (n:=(n:Int)) (by rw[K];rfl) (L:=[]) (by simp);obtain⟨o,-,m,-⟩:=b4v i (n:=(n:Int)) (by rw[v];rfl) (L:=[]) (by simp);have D:=b3u b2 (n:Int);have f:=b3u i (n:Int);rw[H]at D;rw[m]at f;have D:(((a4N s I).length:Nat):Int)=a2D s (n:Int):=Option.some.inj D;have f:(((a4N s' o).length:Nat):Int)=a2D s' (n:Int):=Option.some.inj f;refine⟨(a4N s I).length+c,(a4N s' o).length+p,?_,?_,by omega⟩;simp only[a23,N,oB,H];congr 1;simp only[a23,O,oB,m];congr 1
theorem b9B{b:a1o}(hb:a2s b)(h:a1s b≤256){rate start k k':Int}(r:1≤rate∧rate≤1048576)(a:0≤start∧start≤4194304-((a1s b:Nat):Int))(Y:1≤k)(N:k≤k')(H:k'≤3):
  ∃f f' p p',a3a (b,(rate,((b.2.1.length:Nat):Int),b.1,()),start,k)=some (f,0)∧a3a (b,(rate,((b.2.1.length:Nat):Int),b.1,()),start,k')=some (f',0)∧
   a2S f=some (p,0)∧a2S f'=some (p',0)∧a2x f=some (b,0)∧a2x f'=some (b,0)∧p'.length≤p.length:=by
 obtain⟨l,q,outs,P,v,s,R,D,S,-,T⟩:=b2w hb h r a (effort:=k) (by omega) (by omega);obtain⟨l',j,A,u,Q,w,x,o,y,-,z⟩:=b2w hb h r a (effort:=k') (by omega) (by omega);have O:=(T (by omega)).symm.trans (z (by omega));obtain rfl:l=l':=Option.some.inj O;obtain rfl:q=j:=Option.some.inj (s.symm.trans w);obtain⟨M,-⟩:=b0J hb;have t:=(a8F l M rfl v.2.2.2 s).1;have G:=hb.2.2.2.2.1;obtain⟨c,C,E,F,U⟩:=b7g (show 0≤k by omega) N H G h S y t;have m:=b2v hb v s R (start:=start) (rate:=rate) a r;have d:=b2v hb v s x (start:=start) (rate:=rate) a r;obtain⟨L,I,e,n,-⟩:=b2u D m;obtain⟨B,K,g,i,-⟩:=b2u o d;have V:L.length=c:=by
  have:some ((L.length:Nat):Int)=some (c:Int):=e.trans E
  have:=Option.some.inj this
  omega
 have X:B.length=C:=by
  have:some ((B.length:Nat):Int)=some (C:Int):=g.trans F
  have:=Option.some.inj this
  omega
 exact⟨_,_,_,_,P,u,n,i,by rw[b2t D,m];rfl,by rw[b2t o,d];rfl,c2Q (by omega) I⟩
theorem b5M(x:a1o×Int):a7k x=some true:=by
 obtain⟨b,start⟩:=x;unfold a7k;simp only[c5E,oB,bT,cF];obtain⟨X,y,C⟩:=c3S b 40;rw[show((40:Nat):Int)=40 from rfl]at y;simp only[y,oB];cases X with
 |false=>rfl
 |true=>
  obtain⟨C,p⟩:=C rfl;obtain⟨t2,O,hb⟩:=c1f (b:=b) (fun r m=>by have:=p r m;omega);simp only[bT,cF,O,oB];cases t2 with
  |false=>rfl
  |true=>
   have hb:=hb rfl;simp only[bT,cF,oB];have P:a1s b≤40:=by
    unfold a1s;rw[←a9n (d:=[]) (show 0<b.2.1.length by have:=hb.2.2.1;omega)];exact p _ (a02 _)
   obtain⟨u,i,n⟩:=d0H 16 (by omega) start;rw[show((2^16-1:Nat):Int)=65535 from rfl]at i;have Q:u<65536:=n;have h:=b6z (b:=b) (fun r m=>by have:=p r m;unfold short;omega) (by omega);have z0:((0:Int) != 0)=false:=rfl;obtain⟨g,R,m2,m3,m4,m5,z,S⟩:=made hb (by omega) (rate:=48000) (start:=(u:Int)) (effort:=0) (by omega) (by omega) (by omega) (by omega);have c:=S (u:Int) (by omega);obtain⟨L,hL,-,e,-,-⟩:=c2O (f:=((u:Int),g)) z c;have a:=b2t (f:=((u:Int),g)) z;rw[c]at a;obtain⟨f1,N,A,j,a1,t,D,v,E,F,Z⟩:=b9B hb (by omega) (rate:=48000) (start:=(u:Int)) (k:=1) (k':=2) (by omega) (by omega) (by omega) (by omega) (by omega);obtain⟨l,f3,o,B,b1,b2,w,b4,b5,G,b7⟩:=b9B hb (by omega) (rate:=48000) (start:=(u:Int)) (k:=2) (k':=3) (by omega) (by omega) (by omega) (by omega) (by omega);rw[t]at b1;obtain rfl:N=l:=by simpa using b1
   rw[v]at w;obtain rfl:j=o:=by simpa using w
   have H:decide ((0:Int) > 1)=false:=rfl;have I:decide ((1:Int) > 1)=false:=rfl;have K:decide ((2:Int) > 1)=true:=rfl;have M:decide ((3:Int) > 1)=true:=rfl;have T:decide (((j.length:Nat):Int) > ((A.length:Nat):Int))=false:=by simp only[decide_eq_false_iff_not];omega
   have U:decide (((B.length:Nat):Int) > ((j.length:Nat):Int))=false:=by simp only[decide_eq_false_iff_not];omega
   have V:decide ((0:Int)≤3)=true:=rfl;have q:decide ((1:Int)≤3)=true:=rfl;have s:decide ((2:Int)≤3)=true:=rfl;have Y:decide ((3:Int)≤3)=true:=rfl;rw[a0I (s':=(start,(((a1F ((u:Int),g) L).length:Nat):Int),(1:Int),(48000,((b.2.1.length:Nat):Int),b.1,()),b,())) (by
    simp only[a2n,V,cT,i,R,e,a,c6D,oB,z0,cF,h,bT,H];rfl)]
   rw[a0I (s':=(start,((A.length:Nat):Int),(2:Int),(48000,((b.2.1.length:Nat):Int),b.1,()),b,())) (by
    simp only[a2n,q,cT,i,a1,D,E,oB,z0,cF,h,bT,I];rfl)]
   rw[a0I (s':=(start,((j.length:Nat):Int),(3:Int),(48000,((b.2.1.length:Nat):Int),b.1,()),b,())) (by
    simp only[a2n,s,cT,i,t,v,F,oB,z0,cF,h,bT,K,T];rfl)]
   rw[a0I (s':=(start,((B.length:Nat):Int),(4:Int),(48000,((b.2.1.length:Nat):Int),b.1,()),b,())) (by
    simp only[a2n,Y,cT,i,b2,b4,G,oB,z0,cF,h,bT,M,U];rfl)]
   rw[a0H (b:=Sum.inl ()) rfl];rfl
end Go.Ab
namespace Go.Proofs.YtjoohiokfkdfpaaGreatDoor
open Go.Ab Go.ChangeShapes Go.WideShapes Go.ChangeAt Go.RowKit
theorem b3r{α:Type}{f:Nat→Option (α×a0z×List Nat)}:∀(L:List α)(i:Nat),(∀(j:Nat) x,L[j]?=some x→f (i+j)=some (x,[],[]))→a0d f L.length i=some (L,[],[])
 | [],_,_=>rfl
 |a::L,i,h=>by
  have g:=h 0 a rfl;have k:=b3r L (i+1) (fun j x b=>by have:=h (j+1) x (by simpa using b);rw[←this];congr 1;omega);simp only[lC,a0d];simp only[Nat.add_zero]at g;rw[g,k];rfl
section
variable {H:Type} {enc:TypeId×Value→H} {P:Program} {w:World} {base:Nat} {spare:Nat→Bool} {held:Bool}
theorem b7W{k:IntKind}{n:Nat}{t e:TypeId}{fuel:Nat}{cs:List Value}{L:List Int}{p:List MemPlace}(B:P.underlying t=some (.array n e))(u:P.underlying e=some (.int k))(s:P.cellsOf e=1)
  (h:DataW.trod enc P w base spare held fuel t cs=some (.agg (L.map fun i=>.lit (.int k i)),p)):L.length=n∧∀(j:Nat) x,L[j]?=some x→cs[j]?=some (.int k x):=by
 obtain⟨C,m,rfl,b,-,A,a⟩:=DataW.trod_array B h;simp only[pJ,DataW.agg.injEq]at b;have z:L.length=n:=by rw[←A];simpa using congrArg List.length b.1
 refine⟨z,fun j x c=>?_⟩;obtain⟨v,-⟩:=lS.1 c;have g:=a j (by omega);rw[s]at g;obtain⟨y,d⟩:∃y,C[j]?=some y:=⟨_,lG (by omega)⟩;rw[d]at g;obtain⟨i,o,q,-⟩:=DataW.trod_int u g;have f:=congrArg (fun l=>l[j]?) b.1;simp only[List.getElem?_map,c,d,Option.map_some,q]at f;simp only[sj,DataW.lit.injEq,Lit.int.injEq,true_and]at f;subst f;have r:=congrArg (fun l=>l[0]?) o;simpa[a21,List.getElem?_take]using r
end
def c1w : String := (Rows.frameMovedRow.laid.map Prod.fst).headD ""
theorem d0I:Tryz.prog.globalNamed c1w=some 0:=by kernel_rfl
def c4O:TypeId:=((Tryz.prog.globals[0]?).map (·.type)).getD 0
theorem c5T:(Tryz.prog.globals[0]?).map (·.type)=some c4O:=by kernel_rfl
def c4P:TypeId:=match Tryz.prog.underlying c4O with
 |some (.array _ e)=>e
 |_=>0
theorem d0J:Tryz.prog.underlying c4O=some (.array 64 c4P):=by kernel_rfl
theorem c7U:Tryz.prog.underlying c4P=some (.int .u8):=by kernel_rfl
theorem c7V:Tryz.prog.cellsOf c4P=1:=by kernel_rfl
@[reducible] def laidTab:List (String×DataW Unit):=[(c1w,Rows.laid_math_bits_deBruijn64tab)]

theorem c6G {g:Nat} {t:Ty} {x:t.den} (h:G0 g=some ⟨t,x⟩):g=0∧(⟨t,x⟩:(t:Ty)×t.den)=⟨.arr 64 (.int .u8),a8G⟩:=by
 unfold G0 find at h
 cases g with
 |zero=>exact⟨rfl,(Option.some.inj h).symm⟩
 |succ n=>exact absurd h (by simp[find])
theorem b9C{W:World}(h:laidMetH Tryz.prog laidTab W):∀g t x,G0 g=some ⟨t,x⟩→g<W.heap.size∧dec (a0a W none) t ((Src.at g 0).rd (a0a W none))=some (x,[],[]):=by
 rw[MakeChecks.laidMetH_plain _ _ _ (by kernel_rfl)]at h;obtain⟨ps,⟨r,w,m,q,u,v,b,c,d,a,_⟩,_,_⟩:=h;obtain rfl:=Option.some.inj (d0I.symm.trans b);obtain rfl:=Option.some.inj (c5T.symm.trans c);have n:(Rows.laid_math_bits_deBruijn64tab:DataW Unit)=.agg (a8G.map fun i=>.lit (.int .u8 i)):=rfl;rw[n]at a;obtain⟨s,p⟩:=b7W d0J c7U c7V a;have k:∀(j:Nat) x,a8G[j]?=some x→W.cell? ⟨0,j,none⟩=some (.int .u8 x):=fun j x l=>by
  rw[World.var?_cell b d j];simpa using p j x l
 intro g t x o;obtain⟨rfl,e⟩:=c6G o;cases e;refine⟨z0m (k 0 0 rfl),?_⟩;exact b3r (f:=fun i=>dec (a0a W none) (.int .u8) fun j=>(Src.at 0 0).rd (a0a W none) (i*1+j)) a8G 0 (fun j x l=>by
  have:=k j x l
  simp only[dec,Src.rd,a0a,Nat.zero_add,Nat.mul_one,Nat.add_zero,this,if_true])
set_option maxRecDepth 100000 in
theorem c4Q (os:Os) (args:Array Value):laidMetH Tryz.prog laidTab ((World.doorLaid Tryz.prog 400 os).forCall (fun _ _=>0) ⟨#[],args,[]⟩).memory:=
 laidMetH_of_parts3 (fuel:=8) (laidMet_of_run' 8 (by kernel_rfl) (by kernel_rfl)) (by kernel_rfl) (by kernel_rfl)
end Go.Proofs.YtjoohiokfkdfpaaGreatDoor
