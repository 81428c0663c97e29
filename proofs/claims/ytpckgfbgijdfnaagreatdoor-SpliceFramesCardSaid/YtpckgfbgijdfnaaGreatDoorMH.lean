/- Part of the proof: QUF. Conditions: as each statement tells. -/
import Derived.KernelRfl
import Derived.Test.YtpckgfbgijdfnaaGreatDoorRows
import Derived.ProofKit
import Derived.LaidMore
import Derived.LaidLaws
import Derived.LaidHandle
import Derived.LaidByTextLater
import Derived.OpenShut
import Derived.Handed
import Derived.Test.YtpckgfbgijdfnaaGreatDoorMG
noncomputable section
set_option linter.unusedSimpArgs false
set_option linter.unusedVariables false
open BitVec renaming ofInt→a01,xor_assoc→a02,getLsbD_ushiftRight→a07,toNat_ofInt→a20,msb_eq_getLsbD_last→a21,eq_of_getLsbD_eq→a26,xor_comm→a28,xor_zero→a42,getLsbD→a45
open Bool renaming and_self→a06,not_false→a19,true_and→a22,eq_false_iff→a23
open Int renaming toNat→a31
open List renaming replicate→a00,getElem_mem→a04,nil_append→a05,mem_map→a08,length_drop→a09,length_take→a16,length_nil→a18,all_cons→a24,range→a25,map_map→a27,foldl_cons→a29,eq_replicate_iff→a32,range_add→a33,getD_cons_succ→a35,map_congr_left→a36,getElem?_drop→a37,take→a38,drop→a39,foldl_append→a40,cons_append→a41,append_nil→a43,getD→a46
open Nat renaming le_refl→a30,pow_le_pow_right→a34,mod_lt→a44
open Option renaming bind_eq_some_iff→a03
namespace Go.Ab
open IntKind(wrap)
def a7x(f:a1f)(l:List Sub):a1f:=(f.1,f.2.1,f.2.2.1,f.2.2.2.1,l,())
theorem c4P(f:a1f):a7x f f.2.2.2.2.1=f:=rfl
theorem b6W(f g:a1f)(e:Int){N:Nat}(d:N≤8){Z:List Int}:∀(rest:List PZ)(done:List Sub)(P:List Int),done.length+rest.length=N→(∀p∈rest,c4O f.2.1 p)→OkR P (a0J rest++Z)→
  y0s a6z (e,(N:Int),(done.length:Int),g,a7x f done,rdr P (a0J rest++Z),())=some (.inl (e,g,a7x f (done++rest.map (·.1)),rdr (P++a0J rest) Z,()))
 | [],done,P,hl,_,_=>by
  have a:done.length=N:=by simpa using hl
  rw[a,a0H (b:=Sum.inl (e,g,a7x f done,rdr P Z,())) (by simp only[a6z,dge,cF];rfl)];simp[a0J]
 |p::rest,done,P,hl,h,hok=>by
  rw[lC]at hl;obtain⟨n,l,o⟩:=h p (by simp);have c:a0J (p::rest)++Z=a6V p.1 p.2++(a0J rest++Z):=by simp[a0J]
  rw[c]at hok⊢;have j:=c8g n l o hok;have i:decide ((done.length:Int)<(N:Int))=true:=by simp;omega
  have z0:((0:Int) != 0)=false:=rfl;rw[a0I (s':=(e,(N:Int),(((done++[p.1]).length:Nat):Int),g,a7x f (done++[p.1]),rdr (P++a6V p.1 p.2) (a0J rest++Z),())) (by
   have k:a9F (rdr P (a6V p.1 p.2++(a0J rest++Z)),(a7x f done).2.1)=some (p.1,(0:Int),rdr (P++a6V p.1 p.2) (a0J rest++Z)):=j;simp only[a6z,i,cT,k,oB,z0,cF];rw[show(a7x f done).2.2.2.2.1=done from rfl,a1e (show done.length+1<2147483648 by omega),cT,a0C (show done.length<1000000 by omega)];rw[show(((done++[p.1]).length:Nat):Int)=((done.length+1:Nat):Int)from by simp];rfl)]
  rw[b6W f g e d rest (done++[p.1]) _ (by simp;omega) (fun q m=>h q (by simp[m])) hok.shift];simp[a0J]
theorem b5i{L:List Int}(f:a1p L)(a:L.length<500000000)(t:Int×(Int×Unit)):∀(k i:Nat),i+k=L.length→(∀j,i≤j→L.getD j 0=0)→
  y0s a2R ((L.length:Int),(i:Int),((wL L).1,t),())=some (.inl ((L.length:Int),((wL L).1,t),()))
 |0,i,h,_=>by
  obtain rfl:i=L.length:=by omega
  exact a0H (by simp only[a2R,dge,cF])
 |k+1,i,h,h0=>by
  have g:i<L.length:=by omega
  have z:((0:Int)==1)=false:=rfl;have b:wrap .i64 ((i:Int)+1)=((i+1:Nat):Int):=by rw[a0D (by omega)];omega
  rw[a0I (s':=((L.length:Int),((i+1:Nat):Int),((wL L).1,t),())) (by
   simp only[a2R,dlt g,cT];rw[b7V f (by omega) g t,h0 i (a30 _)];simp only[oB,z,cF,b])]
  exact b5i f a t k (i+1) (by omega) (fun j c=>h0 j (by omega))
theorem c6W(L:List Int)(k j:Nat)(h:L.length≤j):(L++a00 k 0).getD j 0=0:=by
 rw[lD,List.getElem?_append_right h,List.getElem?_replicate]
 split<;>rfl
theorem b8B{L:List Int}(h:a1p L):a1p (a2p L):=h.app fun _ hb=>.inl (List.mem_replicate.1 hb).2
theorem c5T{L:List Int}(f:a1p L)(c:L.length≤5600000):∃r,a4d (rdr L (a00 (a4a L.length) 0))=some r∧r.2.2.1=0:=by
 have hp:(a2p L).length=L.length+a4a L.length:=by simp[a2p]
 have a:a4a L.length<8:=by unfold a4a;omega
 have b:(a2p L).length%8=0:=by rw[hp];unfold a4a;omega
 have z0:((0:Int) != 0)=false:=rfl;have g:wrap .i64 (wrap .i64 (Int.tdiv (wrap .i64 ((L.length:Int)+7)) 8)*8)=((a2p L).length:Int):=by
  rw[a0D (n:=(L.length:Int)+7) (by omega),show Int.tdiv ((L.length:Int)+7) 8=(((L.length+7) / 8:Nat):Int)from by
   rw[show((L.length:Int)+7)=((L.length+7:Nat):Int)from by omega];rfl,a0D (n:=(((L.length+7) / 8:Nat):Int)) (by omega),a0D (by omega),hp]
  unfold a4a;omega
 have h:=b5i (b8B f) (by omega) ((L.length:Int),(0:Int),()) (a4a L.length) L.length (by omega) (fun j k=>c6W L _ j k);refine⟨((wL (a2p L)).1,((a2p L).length:Int),(0:Int),()),?_,rfl⟩;unfold a4d rdr;simp only[z0,cF,g];rw[show L++a00 (a4a L.length) 0=a2p L from rfl,h];rfl
theorem d3O{v:Int}(h:0≤v∧v<65536):bits .u16 .or (A0n .u16 (wrap .u16 (v / 256)) 8) (wrap .u16 (v%256))=v:=by
 rw[b0R,b0R];have e:A0n .u16 (v / 256%65536) 8=((v.toNat / 256*256:Nat):Int):=by
  show wrap .u16 (v / 256%65536*256)=_;rw[b0R];omega
 rw[e];have g:v%256%65536=((v.toNat%256:Nat):Int):=by omega
 rw[g];show wrap .u16 (((a01 16 ((v.toNat / 256*256:Nat):Int) ||| a01 16 ((v.toNat%256:Nat):Int)).toNat:Nat):Int)=_;have f:(a01 16 ((v.toNat / 256*256:Nat):Int)).toNat=v.toNat / 256*256:=by rw[a20];omega
 have k:(a01 16 ((v.toNat%256:Nat):Int)).toNat=v.toNat%256:=by rw[a20];omega
 rw[BitVec.toNat_or,f,k];have e:v.toNat / 256*256 ||| v.toNat%256=v.toNat / 256*256+v.toNat%256:=by
  have:=Nat.two_pow_add_eq_or_of_lt (i:=8) (b:=v.toNat%256) (by omega) (v.toNat / 256)
  rw[show 2^8*(v.toNat / 256)=v.toNat / 256*256 from by omega]at this;exact this.symm
 rw[e,b0R];omega
theorem b9w{f:a1f}(O:a3A f=some true)(u:frP f)(t:((f.2.2.2.2.1.length:Nat):Int)=f.2.2.1.2.1){zs:List PZ}(B:zs.map (·.1)=f.2.2.2.2.1)(hp:∀p∈zs,c4O f.2.1 p)(z:(a0J zs).length≤5600000)
  {R:List Int}(V:R.length≤200000000):a2c (a5v f (a0J zs)++R)=some (f,((a5v f (a0J zs)).length:Int),(0:Int)):=by
 have P:=b5K u z;have Q:=b5h (a7F f (a0J zs));have L:f.2.2.2.2.1.length≤8:=by have:=u.1.2.2.2.1;omega
 have N:=b4o (a0J zs);generalize hbd:a7w (a0J zs)=body at *;have c:a5v f (a0J zs)=a7F f (a0J zs)++[a3z (a7F f (a0J zs)) / 256,a3z (a7F f (a0J zs))%256]:=rfl;have g:a7F f (a0J zs)=a1z f body.length++body:=by unfold a7F;rw[hbd]
 generalize hpb:a7F f (a0J zs)=pre at *;have o:a5v f (a0J zs)++R=a1z f body.length++(body++([a3z pre / 256,a3z pre%256]++R)):=by rw[c,g];simp
 have m:(a5v f (a0J zs)).length=pre.length+2:=by rw[c];simp
 have A:pre.length=(a1z f body.length).length+body.length:=by rw[g];simp
 have y:(a5v f (a0J zs)++R).length=pre.length+2+R.length:=by rw[lN,m]
 have k:=c4N u (body:=body.length) (by omega) (R:=body++([a3z pre / 256,a3z pre%256]++R)) (by rw[←o,y];omega);rw[←o]at k;generalize hx:a5v f (a0J zs)++R=x at *;have z0:((0:Int) != 0)=false:=rfl;have T:wrap .i64 (((a1z f body.length).length:Int)+(body.length:Int))=(pre.length:Int):=by rw[a0D (by omega)];omega
 have w2:wrap .i64 ((pre.length:Int)+2)=((pre.length+2:Nat):Int):=by rw[a0D (by omega)];omega
 have U:wrap .i64 ((pre.length:Int)+1)=((pre.length+1:Nat):Int):=by rw[a0D (by omega)];omega
 have C:decide ((x.length:Int)<((pre.length+2:Nat):Int))=false:=by simp;omega
 have D:decide ((0:Int)≤(pre.length:Int))=true:=by simp
 have E:decide ((pre.length:Int)≤(x.length:Int))=true:=by simp;omega
 have F:decide ((0:Int)≤((a1z f body.length).length:Int))=true:=by simp
 have G:decide (((a1z f body.length).length:Int)≤(pre.length:Int))=true:=by simp;omega
 have j:x=pre++([a3z pre / 256,a3z pre%256]++R):=by rw[←hx,c];simp
 have i:a38 pre.length x=pre:=by rw[j];simp
 have b:a39 (a1z f body.length).length pre=body:=by rw[g];simp
 have I:m0k x (pre.length:Int)=some (a3z pre / 256):=by rw[a0B (by omega)];congr 1;subst j;simp
 have K:m0k x ((pre.length+1:Nat):Int)=some (a3z pre%256):=by rw[a0B (by omega)];congr 1;subst j;simp
 have S:(a3z pre != bits .u16 .or (A0n .u16 (wrap .u16 (a3z pre / 256)) 8) (wrap .u16 (a3z pre%256)))=false:=by rw[d3O Q];exact bne_self_eq_false _
 have e:(a2p (a0J zs)).length<1000000000:=by omega
 have a:=c9k e;rw[show(wL (a2p (a0J zs))).1=body from hbd]at a;have v:OkR [] (a0J zs++a00 (a4a (a0J zs).length) 0):=⟨by rw[a05];exact b8B (b8z zs),by
  rw[a05];show(a2p (a0J zs)).length<_;omega⟩
 have h:=b6W f ((0:Int),(0:Int),((0:Int),(0:Int),(0:Int),()),([]:List a0T),([]:List Sub),()) (pre.length:Int) L zs [] [] (by rw[←B];simp) hp v;simp only[a05,a18,B,c4P]at h;have w:rdr [] (a2p (a0J zs))=rdr [] (a0J zs++a00 (a4a (a0J zs).length) 0):=rfl;obtain⟨r,q,s⟩:=c5T (b8z zs) z;have d:a2m (rdr (a0J zs) (a00 (a4a (a0J zs).length) 0))=some ((a4a (a0J zs).length:Int),rdr (a0J zs) (a00 (a4a (a0J zs).length) 0)):=by
  unfold a2m rdr
  have:(wL (a0J zs++a00 (a4a (a0J zs).length) 0)).1=body:=hbd
  simp only[this];have hp:(a2p (a0J zs)).length=(a0J zs).length+a4a (a0J zs).length:=by simp[a2p]
  rw[a0D (n:=8*(body.length:Int)) (by omega),a0D (by omega)];congr 2;omega
 have H:decide (((a4a (a0J zs).length:Nat):Int)≥8)=false:=by unfold a4a;simp;omega
 have M:a7x f []=c4M f:=rfl;have l:f.2.2.1.2.1=((f.2.2.2.2.1.length:Nat):Int):=t.symm;unfold a2c;rw[k];simp only[oB,z0,cF,T,w2,C,D,E,F,a06,cT,tN,i,b6T (show short pre by unfold short;omega),I,U,K,S,G,b,a,w];rw[show(c4M f).2.2.1.2.1=((f.2.2.2.2.1.length:Nat):Int)from l]
 erw[h]
 simp only[oB,d,H,cF,q,a0K,s,z0,O,bT,w2,m]
theorem b1q(x:Int):a7K x=some (a0A x):=by
 grind[a7K,a0A]
def a2q(c:List (List Int)):Prop:=1≤c.length∧c.length≤8∧(c.headD []).length≤4096∧c.all (fun r=>decide (r.length=(c.headD []).length)&&r.all a0A)=true
instance (c:List (List Int)):Decidable (a2q c):=by unfold a2q;infer_instance
theorem a6X{α:Type}{l:List α}{d:α}(h:0<l.length):l[0]=l.headD d:=by
 cases l with
 |nil=>grind
 |cons a l=>rfl
theorem b7Z(c:List (List Int)):a6l c=some (decide (a2q c)):=by
 unfold a6l
 by_cases h1:((c.length:Nat):Int)<1
 have:¬ a2q c:=fun h=>by have:=h.1;omega
 simp_all
 by_cases h2:((c.length:Nat):Int) > 8
 have:¬ a2q c:=fun h=>by have:=h.2.1;omega
 simp_all;have l:0<c.length:=by omega
 have b:m0k c 0=some (c.headD []):=by rw[show(0:Int)=((0:Nat):Int)from rfl,a0B l,a6X (d:=[]) l]
 have m:decide (((c.length:Nat):Int)<1)=false:=by simp_all
 have n:decide (((c.length:Nat):Int) > 8)=false:=by simp_all
 simp only[m,n,cF,b,oB]
 by_cases h3:(((c.headD []).length:Nat):Int) > 4096
 rw[decide_eq_true h3,decide_eq_false (show ¬ a2q c from fun h=>by have:=h.2.2.1;omega)];rfl;have o:decide ((((c.headD []).length:Nat):Int) > 4096)=false:=by simp_all
 simp only[o,cF];have g:∀(i:Nat)(r:List Int),short r→y0s a3I (c,c,(c.length:Int),(i:Int),r,(r.length:Int),(0:Int),())=some (bif r.all a0A then Sum.inl (c,c,(c.length:Int),(i:Int),())else Sum.inr (false,())):=fun i r t=>by
  have:=a1s (f:=a3I) r (fun j=>(c,c,(c.length:Int),(i:Int),r,(r.length:Int),(j:Int),())) a0A (bt:=Sum.inl (c,c,(c.length:Int),(i:Int),())) (bf:=Sum.inr (false,()))
   (fun j h hp=>by simp only[a3I,dlt h,cT,a0B h,oB,b1q,hp,bT,cF,a0C (Nat.lt_trans h t)])
   (fun j h hp=>by simp_all[a3I,a0B,b1q])
   (by simp_all[a3I])
  omega
 have k:=a1s (f:=a3J) c (fun i=>(c,c,(c.length:Int),(i:Int),())) (fun r=>decide (r.length=(c.headD []).length)&&r.all a0A) (bt:=Sum.inl ()) (bf:=Sum.inr (false,()))
  (fun i h hp=>by
   simp only[bA,dT]at hp;have e:((((c[i]).length:Nat):Int) != (((c.headD []).length:Nat):Int))=false:=by simp_all
   have a:=g i c[i] (by unfold short;omega);rw[hp.2,cT]at a;simp only[a3J,dlt h,cT,a0B h,oB,b,e,cF,a,a0C (show i<1000000 by omega)])
  (fun i h hp=>by
   by_cases hl:(c[i]).length=(c.headD []).length
   have e:((((c[i]).length:Nat):Int) != (((c.headD []).length:Nat):Int))=false:=by simp_all
   have a:=g i c[i] (by unfold short;omega);rw[decide_eq_true hl,a22]at hp;rw[hp,cF]at a;simp_all[a3J,a0B];have e:((((c[i]).length:Nat):Int) != (((c.headD []).length:Nat):Int))=true:=by grind
   simp only[a3J,dlt h,cT,a0B h,oB,b,e])
  (by simp_all[a3J])
 simp only[nZ]at k;rw[k];have p:1≤c.length:=by omega
 have q:c.length≤8:=by omega
 have s:(c.headD []).length≤4096:=by omega
 by_cases hA:c.all (fun r=>decide (r.length=(c.headD []).length)&&r.all a0A)=true
 rw[hA,decide_eq_true (show a2q c from⟨p,q,s,hA⟩)];rfl;rw[a23.2 hA,decide_eq_false (show ¬ a2q c from fun h=>hA h.2.2.2)];rfl
def a2X(c:List (List Int))(n:Nat):Prop:=∀r∈c,r.length=n∧r.all a0A=true
theorem c3n{c:List (List Int)}(h:a2q c):a2X c (c.headD []).length:=fun r g=>by
 have:=lA.1 h.2.2.2 r g
 simp_all
theorem b5L{c:List (List Int)}{n:Nat}(h:a2X c n)(g:1≤c.length)(f:c.length≤8)(b:n≤4096):a2q c:=by
 have a:(c.headD []).length=n:=by
  rw[←a6X (d:=[]) (show 0<c.length by omega)];exact(h _ (a04 _)).1
 refine⟨g,f,by omega,lA.2 fun r k=>?_⟩
 have:=h r k
 simp_all
theorem b8C{c:List (List Int)}{n:Nat}(h:a2X c n)(m:n≤5000)(l:c.length≤100):a5U c=some c:=by
 have:=a1A (f:=a5C) (β:=List (List Int)×Unit) c (fun i (a:List (List Int))=>(c,(c.length:Int),(i:Int),a,())) (fun a x=>.inl (a++[x])) (fun i a=>a.length=i) (fun a=>(a,()))
  (fun i k a d=>⟨fun j g=>by
   simp at g;subst g;have o:=(h _ (a04 k)).1;have e:∀y:List Int,List.set ([([]:List Int)]:List (List Int)) 0 y=[y]:=fun _=>rfl;refine⟨?_,by grind⟩;simp only[a5C,dlt k,cT,a0B k,oB,a6R (show short c[i]by unfold short;omega),e];rw[a1e (by grind),cT,a0C (show i<1000000 by omega)];rfl,fun b hb=>by grind⟩)
  (fun a d=>by simp_all[a5C]) (a:=[]) rfl
 simp_all[a9g,a5U,a6O]
def a7y(sign g:Int)(x y:Int):Int:=y+sign*(g*x / 256)
def a8h(sign g:Int)(xs ys:List Int):List Int:=List.zipWith (a7y sign g) xs ys
theorem c6X(sign g:Int){xs ys:List Int}(h:xs.length=ys.length):(a8h sign g xs ys).length=ys.length:=by simp[a8h,h]
theorem c6Y{sign g x y:Int}(b:sign=1∨sign=-1)(c:-1024≤g∧g≤1024)(k:a0A x=true)(a:a0A y=true):
  wrap .i64 (y+wrap .i64 (sign*A0o .i64 (wrap .i64 (g*x)) 8))=a7y sign g x y:=by
 have k:=a1B.1 k;have a:=a1B.1 a;have f:-1099511627776≤g*x∧g*x≤1099511627776:=by
  have f:g.natAbs≤1024:=by omega
  have h:x.natAbs≤1073741824:=by omega
  have:=Nat.mul_le_mul f h
  rw[←Int.natAbs_mul]at this;omega
 rw[a0D (n:=g*x) (by omega)];have h:A0o .i64 (g*x) 8=g*x / 256:=by
  unfold A0o;show(g*x).fdiv (2^8)=_
  grind
 rw[h];unfold a7y;rcases b with rfl|rfl
 all_goals grind[a0D]
theorem a9D{α:Type}(c:List α){a b:Nat}(h:a≠b)(y d:α):(c.set b y).getD a d=c.getD a d:=by
 grind
theorem a6t{α:Type}(c:List α){b:Nat}(h:b<c.length)(y d:α):(c.set b y).getD b d=y:=by
 simp_all
theorem b6X{c:List (List Int)}{s:a0T}{sign:Int}(g:sign=1∨sign=-1)(b:-1024≤s.2.2.1∧s.2.2.1≤1024)(a0:0≤s.1)(i:0≤s.2.1)(f:s.1.toNat≠s.2.1.toNat)(hb:s.2.1.toNat<c.length)(k:s.2.1<(c.length:Int))
  {xs:List Int}(a:c.getD s.1.toNat []=xs)(w:xs.length≤5000):∀(sx suf px pre:List Int),px++sx=xs→px.length=pre.length→sx.length=suf.length→sx.all a0A=true→suf.all a0A=true→
  if(a8h sign s.2.2.1 sx suf).all a0A=true then
   y0s a3f (sign,(xs.length:Int),(pre.length:Int),c.set s.2.1.toNat (pre++suf),s,((s.1.toNat:Nat):Int),())=some (.inl (c.set s.2.1.toNat (pre++a8h sign s.2.2.1 sx suf),()))
  else ∃c',y0s a3f (sign,(xs.length:Int),(pre.length:Int),c.set s.2.1.toNat (pre++suf),s,((s.1.toNat:Nat):Int),())=some (.inr (false,c',()))
 | [],suf,px,pre,hx,hp,hl,_,_=>by
  have e:suf=[]:=List.length_eq_zero_iff.1 hl.symm;subst e;have p:pre.length=xs.length:=by simp_all
  rw[if_pos (by rfl),p];exact a0H (by simp only[a3f,dge,cF];rfl)
 |x::sx,[],px,pre,_,_,hl,_,_=>by simp_all
 |x::sx,y::suf,px,pre,hx,hp,hl,hwx,hwy=>by
  simp only[a24,bA]at hwx hwy;have v:pre.length<xs.length:=by grind
  have q:(c.set s.2.1.toNat (pre++y::suf)).getD (a31 ((s.1.toNat:Nat):Int)) []=xs:=by grind
  have r:(c.set s.2.1.toNat (pre++y::suf)).getD s.2.1.toNat []=pre++y::suf:=a6t _ hb _ _;have t:a46 xs (a31 (pre.length:Int)) 0=x:=by grind
  have u:a46 (pre++y::suf) (a31 (pre.length:Int)) 0=y:=by simp
  have j:decide ((0:Int)≤(pre.length:Int))=true:=by simp
  have l:decide ((pre.length:Int)<(xs.length:Int))=true:=by simp_all
  have m:decide ((0:Int)≤s.2.1)=true:=by simp_all
  have n:decide (s.2.1<(((c.set s.2.1.toNat (pre++y::suf)).length:Nat):Int))=true:=by simp_all
  have o:decide ((pre.length:Int)<(((pre++y::suf).length:Nat):Int))=true:=by grind
  have hv:=c6Y g b hwx.1 hwy.1;have z:wrap .i64 ((pre.length:Int)+1)=((pre.length+1:Nat):Int):=a0C (by omega);have A:a8h sign s.2.2.1 (x::sx) (y::suf)=a7y sign s.2.2.1 x y::a8h sign s.2.2.1 sx suf:=rfl;have d:List.set (c.set s.2.1.toNat (pre++y::suf)) s.2.1.toNat (List.set (pre++y::suf) (a31 (pre.length:Int)) (a7y sign s.2.2.1 x y))=c.set s.2.1.toNat ((pre++[a7y sign s.2.2.1 x y])++suf):=by
   simp
  have h:a3f (sign,(xs.length:Int),(pre.length:Int),c.set s.2.1.toNat (pre++y::suf),s,((s.1.toNat:Nat):Int),()) =
    bif !(a0A (a7y sign s.2.2.1 x y))then some (.inr (Sum.inr (false,c.set s.2.1.toNat (pre++y::suf),())))
    else some (.inl (sign,(xs.length:Int),((pre.length+1:Nat):Int),c.set s.2.1.toNat ((pre++[a7y sign s.2.2.1 x y])++suf),s,((s.1.toNat:Nat):Int),())):=by
   simp only[a3f,l,cT,q,r,j,a06,m,n,o,t,u,b1q,hv,oB,z]
   simp
  cases hwv:a0A (a7y sign s.2.2.1 x y)with
  |false=>
   simp_all[a0H]
  |true=>
   rw[hwv]at h;have B:=b6X g b a0 i f hb k a w sx suf (px++[x]) (pre++[a7y sign s.2.2.1 x y]) (by simp_all) (by grind) (by simp_all) hwx.2 hwy.2;rw[a0I h,A];simp_all
def a3k(sign:Int)(s:a0T)(c:List (List Int)):Option (List (List Int)):=
 let r:=a8h sign s.2.2.1 (c.getD s.1.toNat []) (c.getD s.2.1.toNat [])
 if r.all a0A=true then some (c.set s.2.1.toNat r)else none
theorem a6Y{c:List (List Int)}{n:Nat}(h:a2X c n){i:Nat}(g:i<c.length):(c.getD i []).length=n∧(c.getD i []).all a0A=true:=by
 rw[lD,lG g];exact h _ (a04 g)
theorem c1I{c:List (List Int)}{n:Nat}(a:a2X c n)(w:n≤5000){s:a0T}(p:a2j (c.length:Int) s=true){sign:Int}(k:sign=1∨sign=-1):
  ∃b f,a6J (c,s,sign)=some (b,f)∧match a3k sign s c with|some r=>b=true∧f=r|none=>b=false:=by
 obtain⟨a1,u,d,e,v,j,l⟩:=a2B.1 p;have q:=a6Y a (i:=s.1.toNat) (by omega);have t:=a6Y a (i:=s.2.1.toNat) (by omega);have hb:s.2.1.toNat<c.length:=by omega
 have g:c.set s.2.1.toNat (c.getD s.2.1.toNat [])=c:=by
  simp_all
 have:=b6X k ⟨j,l⟩ a1 d (by omega) hb e (rfl:c.getD s.1.toNat []=_) (by omega) (c.getD s.1.toNat []) (c.getD s.2.1.toNat []) [] [] rfl rfl (by omega) q.2 t.2
 rw[a05,g]at this;simp only[a18,nZ,a05,Int.cast_ofNat_Int]at this;have m:decide ((0:Int)≤s.1)=true:=by simp_all
 have o:decide (s.1<(c.length:Int))=true:=by simp_all
 unfold a6J a3k;simp only[m,o,a06,cT]
 by_cases hA:(a8h sign s.2.2.1 (c.getD s.1.toNat []) (c.getD s.2.1.toNat [])).all a0A=true
 simp_all;rw[if_neg hA]at this⊢;obtain⟨f,h⟩:=this;simp_all
theorem b0N{c c':List (List Int)}{n:Nat}(g:a2X c n){s:a0T}(k:a2j (c.length:Int) s=true){sign:Int}(h:a3k sign s c=some c'):a2X c' n∧c'.length=c.length:=by
 obtain⟨a1,a,b,d,e,j,l⟩:=a2B.1 k;have o:=a6Y g (i:=s.1.toNat) (by omega);have p:=a6Y g (i:=s.2.1.toNat) (by omega);unfold a3k at h;simp only at h
 split at h
 rename_i m;cases h;refine⟨fun r f=>?_,by simp⟩;rcases List.mem_or_eq_of_mem_set f with f|rfl;exact g r f;simp_all[c6X];simp_all
theorem c1J(g:Int):∀xs ys:List Int,xs.length=ys.length→a8h (-1) g xs (a8h 1 g xs ys)=ys
 | [],[],_=>rfl
 |x::xs,y::ys,h=>by
  have f:=c1J g xs ys (by simpa using h);show a7y (-1) g x (a7y 1 g x y)::a8h (-1) g xs (a8h 1 g xs ys)=_;rw[f];unfold a7y;congr 1;omega
 | [],_::_,h=>by grind
 |_::_,[],h=>by rfl
theorem c5U{c c':List (List Int)}{n:Nat}(g:a2X c n){s:a0T}(f:a2j (c.length:Int) s=true)(h:a3k 1 s c=some c'):a3k (-1) s c'=some c:=by
 obtain⟨a1,a,b,d,e,j,l⟩:=a2B.1 f;have m:=a6Y g (i:=s.1.toNat) (by omega);have k:=a6Y g (i:=s.2.1.toNat) (by omega);have hb:s.2.1.toNat<c.length:=by omega
 unfold a3k at h;simp only at h
 split at h
 cases h;unfold a3k;simp only;rw[a9D _ (show s.1.toNat≠s.2.1.toNat by omega),a6t _ hb,c1J _ _ _ (by omega),if_pos k.2,List.set_set];simp_all;simp_all
def doO:List a0T→List (List Int)→Option (List (List Int))
 | [],c=>some c
 |s::l,c=>(a3k 1 s c).bind (doO l)
def a8L:List a0T→List (List Int)→Option (List (List Int))
 | [],c=>some c
 |s::l,c=>(a8L l c).bind (a3k (-1) s)
theorem b0S{n:Nat}{N:Nat}:∀(l:List a0T){c c':List (List Int)},a2X c n→c.length=N→l.all (a2j (N:Int))=true→doO l c=some c'→a2X c' n∧c'.length=N
 | [],c,c',hc,hl,_,h=>by cases h;simp_all
 |s::l,c,c',hc,hl,hs,h=>by
  simp only[a24,bA]at hs;simp[doO,a03]at h;obtain⟨d,g,f⟩:=h;obtain⟨k,a⟩:=b0N hc (by simp_all) g;exact b0S l k (by omega) hs.2 f
theorem c3o{n:Nat}{N:Nat}:∀(l:List a0T){c c':List (List Int)},a2X c n→c.length=N→l.all (a2j (N:Int))=true→doO l c=some c'→a8L l c'=some c
 | [],c,c',_,_,_,h=>by cases h;rfl
 |s::l,c,c',hc,hl,hs,h=>by
  simp only[a24,bA]at hs;simp only[doO,a03]at h;obtain⟨d,g,f⟩:=h;obtain⟨k,a⟩:=b0N hc (by rw[hl];exact hs.1) g;simp only[a8L];rw[c3o l k (by omega) hs.2 f];exact c5U hc (by rw[hl];exact hs.1) g
def b5M:Option (List (List Int))→List (List Int)×Int
 |some r=>(r,0)
 |none=>([],6)
theorem c3p{n N:Nat}(d:n≤5000){l:List a0T}(o:l.length≤16)(m:l.all (a2j (N:Int))=true):∀(k i:Nat)(c:List (List Int)),i+k=l.length→a2X c n→c.length=N→
  y0s a6L (l,(l.length:Int),(i:Int),c,())=some (match doO (l.drop i) c with|some r=>Sum.inl (r,())|none=>Sum.inr ([],6,()))
 |0,i,c,h,_,_=>by
  obtain rfl:i=l.length:=by omega
  rw[List.drop_length];exact a0H (by simp only[a6L,dge,cF];rfl)
 |k+1,i,c,h,hc,hcl=>by
  have g:i<l.length:=by omega
  rw[List.drop_eq_getElem_cons g];have e:a2j (c.length:Int) l[i]=true:=by grind
  obtain⟨b,f,j,a⟩:=c1I hc d e (sign:=1) (.inl rfl);simp[doO];cases hst:a3k 1 l[i] c with
  |none=>
   simp_all[a0H,a6L,a0B]
  |some r=>
   rw[hst]at a;obtain⟨rfl,rfl⟩:=a;obtain⟨p,q⟩:=b0N hc e hst;rw[a0I (s':=(l,(l.length:Int),((i+1:Nat):Int),f,())) (by
    simp only[a6L,dlt g,cT,a0B g,oB,j,bT,cF,a0C (show i<1000000 by omega)])]
   rw[c3p d o m k (i+1) f (by omega) p (by omega)];rfl
theorem b9C(c:List (List Int))(l:List a0T):a9G (c,l)=some (if a2q c∧a4l l (c.length:Int)then b5M (doO l c)else([],1)):=by
 unfold a9G;simp only[b7Z,oB]
 by_cases hq:a2q c
 have h:=c3n hq;simp only[hq,decide_true,bT,cF,b2c,oB,true_and]
 by_cases hm:a4l l (c.length:Int)
 simp[hm];rw[b8C h (by have:=hq.2.2.1;omega) (by have:=hq.2.1;omega)]
 have:=c3p (N:=c.length) (by have:=hq.2.2.1;omega:(c.headD []).length≤5000) hm.2.2.1 hm.2.2.2 l.length 0 c (by omega) h rfl
 simp at this
 simp
 erw[this]
 cases doO l c<;>rfl;simp_all;simp_all
theorem b6Y(s:a0T):∀(l:List a0T)(c:List (List Int)),a8L (l++[s]) c=(a3k (-1) s c).bind (a8L l)
 | [],c=>by
  show a3k (-1) s c=_;cases a3k (-1) s c<;>rfl
 |t::l,c=>by
  simp only[a41,a8L,b6Y s l];cases a3k (-1) s c<;>rfl
theorem b8D{n N:Nat}(g:n≤5000){l:List a0T}(i:l.all (a2j (N:Int))=true)(z:List (List Int))(e:Int):∀(k:Nat)(c:List (List Int)),k≤l.length→a2X c n→c.length=N→
  match a8L (l.take k) c with
  |some r=>l0f a5e l k (l,z,e,c,())=some (.inl (l,z,e,r,()))
  |none=>∃d,l0f a5e l k (l,z,e,c,())=some (.inr (.ret,l,[],6,d,()))
 |0,c,_,_,_=>rfl
 |k+1,c,hk,hc,hcl=>by
  have j:k<l.length:=by omega
  have f:a2j (c.length:Int) l[k]=true:=by grind
  obtain⟨b,a,o,h⟩:=c1I hc g f (sign:=-1) (.inr rfl);rw[List.take_succ_eq_append_getElem j,b6Y];cases hst:a3k (-1) l[k] c with
  |none=>
   simp_all[l0f,a5e]
  |some r=>
   rw[hst]at h;obtain⟨rfl,rfl⟩:=h;obtain⟨m,q⟩:=b0N hc f hst;have p:=b8D g i z e k a (by omega) m (by omega);simp_all[l0f,a5e]
theorem c8h(c:List (List Int))(l:List a0T):a9k (c,l)=some (if a2q c∧a4l l (c.length:Int)then b5M (a8L l c)else([],1)):=by
 unfold a9k;simp only[b7Z,oB]
 by_cases hq:a2q c
 ·have h:=c3n hq;simp only[hq,decide_true,bT,cF,b2c,oB,true_and]
  by_cases hm:a4l l (c.length:Int)
  ·simp[hm];rw[b8C h (by have:=hq.2.2.1;omega) (by have:=hq.2.1;omega)]
   have:=b8D (N:=c.length) (by have:=hq.2.2.1;omega:(c.headD []).length≤5000) hm.2.2.2 [] 0 l.length c (a30 _) h rfl
   rw[List.take_length]at this;simp[a1e (show l.length<2147483648 by have:=hm.2.2.1;omega)];cases hu:a8L l c with
   |some r=>
    rw[hu]at this;simp only at this
    erw[this]
    rfl
   |none=>
    rw[hu]at this;obtain⟨d,g⟩:=this
    erw[g]
    rfl
  simp_all
 simp_all
def a0W(b:a0Y):Nat:=(b.2.1.headD []).length
theorem a4b(b:a0Y):a2r b=some ((a0W b:Nat):Int):=by
 unfold a2r a0W;obtain⟨d,c,u⟩:=b;cases c with
 |nil=>rfl
 |cons r c=>
  rfl
def a1H(b:a0Y):Prop:=4≤b.1∧b.1≤24∧1≤b.2.1.length∧b.2.1.length≤8∧1≤a0W b∧a0W b≤4096∧b.2.1.all (fun r=>decide (r.length=a0W b)&&r.all fun x=>a1u x b.1)=true
instance (b:a0Y):Decidable (a1H b):=by unfold a1H;infer_instance
theorem c1K{x w:Int}(h:4≤w∧w≤24):a1K (x,w)=some (a1u x w):=by
 have:=a5s (x:=x) (w:=w.toNat) (by omega)
 grind
theorem a8M(b:a0Y):a2P b=some (decide (a1H b)):=by
 unfold a2P a5N
 by_cases h1:4≤b.1
 rotate_left;rw[decide_eq_false (show ¬ a1H b from fun h=>h1 h.1),decide_eq_false h1];rfl
 by_cases h2:b.1≤24
 rotate_left;rw[decide_eq_false (show ¬ a1H b from fun h=>h2 h.2.1),decide_eq_true h1,decide_eq_false h2];rfl
 by_cases h3:((b.2.1.length:Nat):Int)<1
 rw[decide_eq_false (show ¬ a1H b from fun h=>by have:=h.2.2.1;omega),decide_eq_true h1,decide_eq_true h2,decide_eq_true h3];rfl
 by_cases h4:((b.2.1.length:Nat):Int) > 8
 rw[decide_eq_false (show ¬ a1H b from fun h=>by have:=h.2.2.2.1;omega),decide_eq_true h1,decide_eq_true h2,decide_eq_false h3,decide_eq_true h4];rfl;have c:decide (((b.2.1.length:Nat):Int)<1)=false:=by simp_all
 have d:decide (((b.2.1.length:Nat):Int) > 8)=false:=by simp_all
 simp only[decide_eq_true h1,decide_eq_true h2,c,d,cT,cF,oB,bT,a4b]
 by_cases h5:((a0W b:Nat):Int)<1
 rw[decide_eq_false (show ¬ a1H b from fun h=>by have:=h.2.2.2.2.1;omega),decide_eq_true h5];rfl
 by_cases h6:((a0W b:Nat):Int) > 4096
 rw[decide_eq_false (show ¬ a1H b from fun h=>by have:=h.2.2.2.2.2.1;omega),decide_eq_false h5,decide_eq_true h6];rfl;have l:decide (((a0W b:Nat):Int)<1)=false:=by simp_all
 have m:decide (((a0W b:Nat):Int) > 4096)=false:=by simp_all
 simp[l,m];have g:∀(i:Nat)(r:List Int),short r→y0s a3D (b.2.1,(b.2.1.length:Int),(i:Int),r,(r.length:Int),(0:Int),b,())=some (bif r.all (fun x=>a1u x b.1)then Sum.inl (b.2.1,(b.2.1.length:Int),(i:Int),b,())else Sum.inr (false,())):=fun i r n=>by
  have:=a1s (f:=a3D) r (fun j=>(b.2.1,(b.2.1.length:Int),(i:Int),r,(r.length:Int),(j:Int),b,())) (fun x=>a1u x b.1) (bt:=Sum.inl (b.2.1,(b.2.1.length:Int),(i:Int),b,())) (bf:=Sum.inr (false,()))
   (fun j h hp=>by simp only[a3D,dlt h,cT,a0B h,oB,c1K ⟨h1,h2⟩,hp,bT,cF,a0C (Nat.lt_trans h n)])
   (fun j h hp=>by simp_all[a3D,a0B,c1K])
   (by simp_all[a3D])
  omega
 have k:=a1s (f:=a3E) b.2.1 (fun i=>(b.2.1,(b.2.1.length:Int),(i:Int),b,())) (fun r=>decide (r.length=a0W b)&&r.all fun x=>a1u x b.1) (bt:=Sum.inl ()) (bf:=Sum.inr (false,()))
  (fun i h hp=>by
   simp only[bA,dT]at hp;have e:((((b.2.1[i]).length:Nat):Int) != ((a0W b:Nat):Int))=false:=by simp_all
   have a:=g i b.2.1[i] (by unfold short;omega);rw[hp.2,cT]at a;simp only[a3E,dlt h,cT,a0B h,oB,a4b,e,cF,a,a0C (show i<1000000 by omega)])
  (fun i h hp=>by
   by_cases hl:(b.2.1[i]).length=a0W b
   have e:((((b.2.1[i]).length:Nat):Int) != ((a0W b:Nat):Int))=false:=by simp_all
   have a:=g i b.2.1[i] (by unfold short;omega);rw[decide_eq_true hl,a22]at hp;rw[hp,cF]at a;simp_all[a3E,a0B,a4b];have e:((((b.2.1[i]).length:Nat):Int) != ((a0W b:Nat):Int))=true:=by grind
   simp only[a3E,dlt h,cT,a0B h,oB,a4b,e])
  (by simp_all[a3E])
 simp at k;rw[k]
 by_cases hA:b.2.1.all (fun r=>decide (r.length=a0W b)&&r.all fun x=>a1u x b.1)=true
 rw[hA,decide_eq_true (show a1H b from⟨h1,h2,by omega,by omega,by omega,by omega,hA⟩)];rfl;rw[a23.2 hA,decide_eq_false (show ¬ a1H b from fun h=>hA h.2.2.2.2.2.2)];rfl
def a6u{α β:Type}(g:α→Option β):List α→Option (List β)
 | []=>some []
 |a::l=>(g a).bind fun b=>(a6u g l).bind fun r=>some (b::r)
theorem b5N{α β:Type}{g:α→Option β}:∀{l:List α}{r:List β},a6u g l=some r→r.length=l.length
 | [],r,h=>by cases h;rfl
 |a::l,r,h=>by
  simp only[a6u,a03]at h;obtain⟨b,-,c,f,k⟩:=h;cases k;simp[b5N f]
theorem b8E{α β:Type}{g:α→Option β}:∀{l:List α}{r:List β},a6u g l=some r→∀a∈l,(g a).isSome=true
 | [],r,h,a,ha=>by cases ha
 |a::l,r,h,x,hx=>by
  simp only[a6u,a03]at h;obtain⟨b,f,d,k,c⟩:=h;rcases mC.1 hx with rfl|hx;rw[f];rfl;exact b8E k x hx
def a7R(f:a1f):Option a0Y:=
 if frP f∧((f.2.2.2.2.1.length:Nat):Int)=f.2.2.1.2.1 then
  (a6u (fun s=>a1U s f.2.1) f.2.2.2.2.1).bind fun rs=>
   if a2q rs∧a4l f.2.2.2.1 (rs.length:Int)then
    (a8L f.2.2.2.1 rs).bind fun ch=>if a1H (f.2.2.1.2.2.1,ch,())then some (f.2.2.1.2.2.1,ch,())else none
   else none
 else none
def b2C:a0Y:=(0,[],())
def d3P:Option a0Y→a0Y×Int
 |some b=>(b,0)
 |none=>(b2C,1)
theorem b5j(f:a1f)(all:List Sub)(d:all.length≤8):∀(rest done:List Sub)(rows:List (List Int)),done++rest=all→rows.length=done.length→(∀s∈rest,SmallS s)→
  y0s a3Q (all,(all.length:Int),(done.length:Int),rows,b2C,f,())=some (match a6u (fun s=>a1U s f.2.1) rest with|some rs=>Sum.inl (rows++rs,b2C,f,())|none=>Sum.inr (1,b2C,()))
 | [],done,rows,hd,hr,_=>by
  have e:done=all:=by simpa using hd
  subst e;rw[a0H (b:=Sum.inl (rows,b2C,f,())) (by simp only[a3Q,dge,cF])];simp[a6u]
 |s::rest,done,rows,hd,hr,h=>by
  have i:=h s (by simp);have k:done.length<all.length:=by rw[←hd];simp
  have a:m0k all (done.length:Int)=some s:=by rw[a0B k];subst hd;simp
  have g:=b6s i f.2.1;simp only[a6u];cases ho:a1U s f.2.1 with
  |none=>
   rw[ho]at g;have b1:((1:Int) != 0)=true:=rfl;exact a0H (by simp only[a3Q,dlt k,cT,a,oB,g,b1];rfl)
  |some r=>
   rw[ho]at g;have c:((0:Int) != 0)=false:=rfl;rw[a0I (s':=(all,(all.length:Int),(((done++[s]).length:Nat):Int),rows++[r],b2C,f,())) (by
    simp only[a3Q,dlt k,cT,a,oB,g,c,cF,a1e (show rows.length+1<2147483648 by omega),a0C (show done.length<1000000 by omega)]
    simp)]
   rw[b5j f all d rest (done++[s]) (rows++[r]) (by simpa using hd) (by simp[hr]) (fun t j=>h t (by simp[j]))];simp only[oB];cases a6u (fun s=>a1U s f.2.1) rest<;>simp
theorem c1L{f:a1f}(b:∀s∈f.2.2.2.2.1,SmallS s):a1t f=some (d3P (a7R f)):=by
 unfold a1t a7R;simp only[b2B,oB]
 by_cases hf:frP f
 rotate_left;simp only[hf,decide_false,a19,cT,oB,false_and,if_false];rfl
 by_cases hl:((f.2.2.2.2.1.length:Nat):Int)=f.2.2.1.2.1
 rotate_left;have e:(((f.2.2.2.2.1.length:Nat):Int) != f.2.2.1.2.1)=true:=by simpa using hl
 simp only[hf,decide_true,bT,cF,oB,e,cT,hl,and_false,if_false];rfl;have e:(((f.2.2.2.2.1.length:Nat):Int) != f.2.2.1.2.1)=false:=by simpa using hl
 have a:f.2.2.2.2.1.length≤8:=by have:=hf.1.2.2.2.1;omega
 have k:decide ((0:Int)≤((f.2.2.2.2.1.length:Nat):Int))=true:=by simp
 have h:=b5j f f.2.2.2.2.1 a f.2.2.2.2.1 [] [] rfl rfl b;rw[a18]at h;rw[if_pos ⟨hf,hl⟩];simp only[hf,decide_true,bT,cF,oB,e,k,tN,a1e (show f.2.2.2.2.1.length<2147483648 by omega),a06,cT]
 erw[h]
 cases hm:a6u (fun s=>a1U s f.2.1) f.2.2.2.2.1 with
 |none=>rfl
 |some rs=>
  simp only[oB,a05,c8h]
  by_cases hq:a2q rs∧a4l f.2.2.2.1 (rs.length:Int)
  ·simp only[if_pos hq];cases hu:a8L f.2.2.2.1 rs with
   |none=>rfl
   |some ch=>
    have g:((0:Int) != 0)=false:=rfl;simp only[b5M,g,cF,a8M,oB]
    by_cases hb:a1H (f.2.2.1.2.2.1,ch,())
    simp only[hb,decide_true,bT,cF,if_true];rfl;simp only[hb,decide_false,a19,cT,if_false];rfl
  simp only[if_neg hq];rfl
theorem c9n{f:a1f}(h:∀s∈f.2.2.2.2.1,SmallS s):a3A f=some (a7R f).isSome:=by
 unfold a3A;rw[c1L h];cases a7R f<;>rfl
theorem b4p{f:a1f}{b:a0Y}(h:a7R f=some b):frP f∧((f.2.2.2.2.1.length:Nat):Int)=f.2.2.1.2.1∧∀s∈f.2.2.2.2.1,(a1U s f.2.1).isSome=true:=by
 unfold a7R at h
 split at h
 rename_i g;simp only[a03]at h;obtain⟨a,k,-⟩:=h;exact⟨g.1,g.2,b8E k⟩;cases h
theorem c4Q{f:a1f}{b:a0Y}(k:∀s∈f.2.2.2.2.1,SmallS s)(h:a7R f=some b):∃L,L.length≤5600000∧some ((L.length:Nat):Int)=f.2.2.2.2.1.foldr (fun s a=>a.bind fun a=>(a3w (s,f.2.1)).bind fun c=>some (c+a)) (some 0)∧
  a1r f=some (a5v f L,0)∧(∀R:List Int,R.length≤200000000→a2c (a5v f L++R)=some (f,((a5v f L).length:Int),(0:Int))):=by
 obtain⟨g,j,l⟩:=b4p h;have d:a3A f=some true:=by rw[c9n k,h];rfl
 have m:f.2.2.2.2.1.length≤8:=by have:=g.1.2.2.2.1;omega
 obtain⟨t,o,p,i,q,r⟩:=c1H d g m (fun s e=>⟨k s e,l s e⟩);exact⟨a0J t,i,q,r,fun R n=>b9w d g j o p i n⟩
theorem b9x{x:List (List Int)}(h:∀r∈x,short r)(k:x.length<1000000):a7t (x,x)=some true:=by
 unfold a7t
 have:=a1s (f:=a4Y) (β:=Unit ⊕ (Bool×Unit)) x (fun i=>(x,x,(i:Int),())) (fun _=>true) (bt:=Sum.inl ()) (bf:=Sum.inr (false,()))
  (fun i g _=>by simp only[a4Y,dlt g,cT,a0B g,oB,c2H (h _ (a04 g)),decide_true,bT,cF,a0C (show i<1000000 by omega)])
  (fun i g hp=>by grind) (by simp_all[a4Y])
 grind
theorem b8a{b:a0Y}(h:∀r∈b.2.1,short r)(g:b.2.1.length<1000000):a6G (b,b)=some true:=by
 simp_all[a6G,b9x]
def c9o(b:a0Y)(m:Nat):Prop:=b.2.1.length≤12∧∀r∈b.2.1,r.length≤m
theorem c5V(b:a0Y)(m:Nat):∃t,b0F (b,(m:Int))=some t∧(t=true→c9o b m):=by
 unfold b0F
 by_cases h1:((b.2.1.length:Nat):Int) > 12
 simp_all;have g:decide (((b.2.1.length:Nat):Int) > 12)=false:=decide_eq_false h1
 have:=a1s (f:=a6e) (β:=Unit ⊕ (Bool×Unit)) b.2.1 (fun i=>((m:Int),(i:Int),b,())) (fun r=>decide (r.length≤m)) (bt:=Sum.inl ()) (bf:=Sum.inr (false,()))
  (fun i h hp=>by
   have e:decide (((b.2.1[i].length:Nat):Int) > (m:Int))=false:=by simp_all
   simp only[a6e,dlt h,cT,a0B h,oB,e,cF,a0C (show i<1000000 by omega)])
  (fun i h hp=>by
   have e:decide (((b.2.1[i].length:Nat):Int) > (m:Int))=true:=by simp_all
   simp_all[a6e,a0B]) (by simp_all[a6e])
 simp at this;simp only[g,cF];rw[this];cases hA:b.2.1.all (fun r=>decide (r.length≤m))with
 |true=>exact⟨true,rfl,fun _=>⟨by omega,fun r k=>by simp_all⟩⟩
 |false=>simp
theorem c6Z{c:List (List Int)}:a9v c=some (decide (1≤c.length∧c.length≤8∧c.all (fun r=>decide (r.length=(c.headD []).length))=true)):=by
 unfold a9v
 by_cases h1:((c.length:Nat):Int)<1
 grind
 by_cases h2:((c.length:Nat):Int) > 8
 grind
 have g:0<c.length:=by omega
 have k:m0k c 0=some (c.headD []):=by rw[show(0:Int)=((0:Nat):Int)from rfl,a0B g,a6X (d:=[]) g]
 have:=a1s (f:=a5l) (β:=Unit ⊕ (Bool×Unit)) c (fun i=>(c,(i:Int),())) (fun r=>decide (r.length=(c.headD []).length)) (bt:=Sum.inl ()) (bf:=Sum.inr (false,()))
  (fun i h hp=>by
   simp only[dT]at hp;have e:((((c[i]).length:Nat):Int) != (((c.headD []).length:Nat):Int))=false:=by simp_all
   simp only[a5l,dlt h,cT,a0B h,oB,k,e,cF,a0C (show i<1000000 by omega)])
  (fun i h hp=>by
   simp only[decide_eq_false_iff_not]at hp;have e:((((c[i]).length:Nat):Int) != (((c.headD []).length:Nat):Int))=true:=by grind
   simp only[a5l,dlt h,cT,a0B h,oB,k,e]) (by simp_all[a5l])
 grind
theorem b4q{x w:Int}(h:4≤w∧w≤24):a9H (x,w)=some (a1u x w):=by
 have:=c2K (x:=x) (w:=w.toNat) (by omega)
 grind
theorem b6Z(b:a0Y):a5m b=some (decide (a1H b)):=by
 unfold a5m
 by_cases h1:b.1<4
 rw[decide_eq_true h1,decide_eq_false (fun h:a1H b=>by have:=h.1;omega)];rfl
 by_cases h2:b.1 > 24
 rw[decide_eq_false h1,decide_eq_true h2,decide_eq_false (fun h:a1H b=>by have:=h.2.1;omega)];rfl;simp only[decide_eq_false h1,decide_eq_false h2,cF,c6Z,oB]
 by_cases h3:1≤b.2.1.length∧b.2.1.length≤8∧b.2.1.all (fun r=>decide (r.length=(b.2.1.headD []).length))=true
 rotate_left;rw[decide_eq_false h3,decide_eq_false (fun h:a1H b=>h3 ⟨h.2.2.1,h.2.2.2.1,lA.2 fun r c=>by
  have:=lA.1 h.2.2.2.2.2.2 r c
  simp only[bA]at this;exact this.1⟩)];rfl
 have e:0<b.2.1.length:=by omega
 have l:m0k b.2.1 0=some (b.2.1.headD []):=by rw[show(0:Int)=((0:Nat):Int)from rfl,a0B e,a6X (d:=[]) e]
 simp only[decide_eq_true h3,bT,cF,l,oB]
 by_cases h4:(((b.2.1.headD []).length:Nat):Int)<1
 rw[decide_eq_true h4,decide_eq_false (fun h:a1H b=>by have:=h.2.2.2.2.1;grind[a0W])];rfl
 by_cases h5:(((b.2.1.headD []).length:Nat):Int) > 4096
 rw[decide_eq_false h4,decide_eq_true h5,decide_eq_false (fun h:a1H b=>by have:=h.2.2.2.2.2.1;grind[a0W])];rfl;simp only[decide_eq_false h4,decide_eq_false h5,cF,oB];have hb:4≤b.1∧b.1≤24:=by omega
 have g:∀(i:Nat)(a:i<b.2.1.length),y0s a2z ((i:Int),(0:Int),b,())=some (bif (b.2.1[i]).all (fun x=>a1u x b.1)then Sum.inl ((i:Int),b,())else Sum.inr (false,())):=fun i a=>by
  have o:(b.2.1[i]).length=(b.2.1.headD []).length:=by simp_all
  have:=a1s (f:=a2z) (β:=(Int×a0Y×Unit) ⊕ (Bool×Unit)) b.2.1[i] (fun j=>((i:Int),(j:Int),b,())) (fun x=>a1u x b.1) (bt:=Sum.inl ((i:Int),b,())) (bf:=Sum.inr (false,()))
   (fun j h hp=>by simp only[a2z,a0B a,oB,dlt h,cT,a0B h,b4q hb,hp,bT,cF,a0C (show j<1000000 by omega)])
   (fun j h hp=>by simp only[a2z,a0B a,oB,dlt h,cT,a0B h,b4q hb,hp,a19])
   (by simp_all[a2z,a0B])
  omega
 have k:=a1s (f:=a3t) (β:=Unit ⊕ (Bool×Unit)) b.2.1 (fun i=>((i:Int),b,())) (fun r=>r.all fun x=>a1u x b.1) (bt:=Sum.inl ()) (bf:=Sum.inr (false,()))
  (fun i h hp=>by
   have a:=g i h;rw[hp,cT]at a;simp only[a3t,dlt h,cT]
   grind[a0C])
  (fun i h hp=>by
   have a:=g i h;rw[hp,cF]at a;simp_all[a3t])
  (by simp_all[a3t])
 simp at k;rw[k]
 by_cases hA:b.2.1.all (fun r=>r.all fun x=>a1u x b.1)=true
 rw[hA,decide_eq_true (p:=a1H b) (⟨hb.1,hb.2,h3.1,h3.2.1,by unfold a0W;omega,by unfold a0W;omega,lA.2 fun r c=>by
  have m:=lA.1 h3.2.2 r c;have n:=lA.1 hA r c;simp_all[a0W]⟩:a1H b)]
 rfl;rw[a23.2 hA,decide_eq_false (p:=a1H b) (fun h=>hA (lA.2 fun r c=>by
  have:=lA.1 h.2.2.2.2.2.2 r c
  simp_all))]
 rfl
theorem c2Y{b:a0Y}(h:∀r∈b.2.1,r.length≤100):∃t,a5m b=some t∧(t=true→a1H b):=⟨_,b6Z b,of_decide_eq_true⟩
theorem c8i{x w:Int}(b:4≤w∧w≤24)(h:a1u x w=true):-16777216≤x∧x≤16777216:=by
 unfold a1u at h;simp at h;obtain⟨-,-,f,g⟩:=h;obtain⟨o,k⟩:∃o:Nat,w-1=(o:Int):=⟨(w-1).toNat,by omega⟩;rw[k]at f g;rw[c1h (by omega)]at g;have hp:2^o≤2^24:=a34 (by omega) (by omega);have a:A0n .i64 (-1) (o:Int)=wrap .i64 (-((2^o:Nat):Int)):=by
  unfold A0n;show wrap .i64 (-1*2^(min (o:Int).toNat 64))=_
  grind
 grind[a0D]
theorem c5W{x w:Int}(g:4≤w∧w≤24)(h:a1u x w=true):a0A x=true:=a1B.2 (by have:=c8i g h;omega)
theorem b1r{b:a0Y}(h:a1H b):a2X b.2.1 (a0W b)∧a2q b.2.1:=by
 obtain⟨k,a,c,d,e,i,g⟩:=h;have j:a2X b.2.1 (a0W b):=fun r f=>by
  have:=lA.1 g r f
  simp only[bA,dT]at this
  grind[c5W]
 grind[b5L]
theorem c4R{b:a0Y}(hb:a1H b){l:List a0T}(c:a4l l (b.2.1.length:Int)){rows:List (List Int)}(n:doO l b.2.1=some rows){ss:List Sub}(q:a6u (fun s=>a1U s ((a0W b:Nat):Int)) ss=some rows)
  {start rate:Int}(h:0≤start∧start≤4194304-((a0W b:Nat):Int))(p:1≤rate∧rate≤1048576):
  a7R (start,((a0W b:Nat):Int),(rate,((b.2.1.length:Nat):Int),b.1,()),l,ss,())=some b:=by
 obtain⟨m,y⟩:=b1r hb;obtain⟨x,z⟩:=b0S l m rfl c.2.2.2 n;have o:=b5N q;obtain⟨e,i,r,t,u,j,v⟩:=hb;have a:frP (start,((a0W b:Nat):Int),(rate,((b.2.1.length:Nat):Int),b.1,()),l,ss,()):=⟨⟨p.1,p.2,by grind,by grind,e,i⟩,by grind,by grind,h.1,h.2,c⟩;have k:((ss.length:Nat):Int)=((b.2.1.length:Nat):Int):=by omega
 have g:a2q rows:=b5L x (by omega) (by omega) j;have d:a4l l ((rows.length:Nat):Int):=by simp_all
 have w:=c3o l m rfl c.2.2.2 n;have f:((b.1,b.2.1,()):a0Y)=b:=rfl;unfold a7R;rw[if_pos ⟨a,k⟩];simp only[q,oB];rw[if_pos ⟨g,d⟩,w];simp only[oB,f];rw[if_pos ⟨e,i,r,t,u,j,v⟩]
def b7a:a1f:=(0,0,(0,0,0,()),[],[],())
theorem c4S(k:Nat)(a:k≤62)(y:Int):∃v:Nat,bits .i64 .and y ((2^k-1:Nat):Int)=(v:Int)∧v<2^k:=by
 have hp:2^k≤2^62:=a34 (by omega) a;have f:0<2^k:=Nat.pow_pos (by omega);have h:((a01 64 y) &&& (a01 64 ((2^k-1:Nat):Int))).toNat=(a01 64 y).toNat%2^k:=by
  rw[BitVec.toNat_and];have e:(a01 64 ((2^k-1:Nat):Int)).toNat=2^k-1:=by
   rw[a20];generalize 2^k=p at *;omega
  rw[e,Nat.and_two_pow_sub_one_eq_mod]
 have g:=a44 (a01 64 y).toNat f;refine⟨(a01 64 y).toNat%2^k,?_,g⟩;show wrap .i64 ((((a01 64 y) &&& (a01 64 ((2^k-1:Nat):Int))).toNat:Nat):Int)=_;rw[h];generalize (a01 64 y).toNat%2^k=z at *;exact a0D (by omega)
theorem b7b(c:List (List Int))(n i:Int){r:List Int}(a:short r):∀(k j:Nat)(s:Int),2≤j→j+k=r.length∨(k=0∧r.length≤j)→∃s',y0s a5E (s,r,(j:Int),c,n,i,())=some (s',c,n,i,())
 |0,j,s,h2,h=>⟨s,a0H (by
   have d:decide ((j:Int)<(r.length:Int))=false:=by grind
   simp only[a5E,d,cF])⟩
 |k+1,j,s,h2,h=>by
  have f:j<r.length:=by omega
  unfold short at a;have b:wrap .i64 ((j:Int)-1)=((j-1:Nat):Int):=by grind[a0D]
  have e:wrap .i64 ((j:Int)-2)=((j-2:Nat):Int):=by grind[a0D]
  have m:=a0B (l:=r) (i:=j-1) (by omega);have o:=a0B (l:=r) (i:=j-2) (by omega);obtain⟨s',g⟩:=b7b c n i a k (j+1) (wrap .i64 (s+v0r (wrap .i64 (wrap .i64 (r[j]-wrap .i64 (2*r[j-1]))+r[j-2])) (wrap .i64 (0-wrap .i64 (wrap .i64 (r[j]-wrap .i64 (2*r[j-1]))+r[j-2]))))) (by omega) (by omega);refine⟨s',?_⟩;rw[←g];exact a0I (by simp only[a5E,dlt f,cT,a0B f,oB,b,e,m,o,a0C (show j<1000000 by omega)])
theorem b8F{c:List (List Int)}{n:Nat}(h:a2X c n)(o:n≤4096)(m:c.length<1000):∃w,a5X c=some w:=by
 unfold a5X;simp only[b7Z,oB]
 by_cases hq:a2q c
 rotate_left;simp_all;simp[hq];have f:∀(k i:Nat)(s:Int),i+k=c.length→∃s',y0s a5F (s,c,(c.length:Int),(i:Int),())=some (s',()):=by
  intro k
  induction k with
  |zero=>
   intro i s d;obtain rfl:i=c.length:=by omega
   simp_all[a0H,a5F]
  |succ k ih=>
   intro i s d;have g:i<c.length:=by omega
   have p:=(h _ (a04 g)).1;obtain⟨j,a⟩:=b7b c (c.length:Int) (i:Int) (r:=c[i]) (by unfold short;omega) (c[i].length-2) 2 s (a30 _) (by omega);obtain⟨l,b⟩:=ih (i+1) j (by omega);refine⟨l,?_⟩;rw[←b];rw[show((2:Nat):Int)=2 from rfl]at a;exact a0I (by simp only[a5F,dlt g,cT,a0B g,oB,a,a0C (show i<1000000 by omega)])
 obtain⟨s',e⟩:=f c.length 0 0 (by omega);simp_all
def a4c(m:Nat):List a0T:=match m with
 | 1=>[(0,1,-256,())]
 | 2=>[(1,0,-256,())]
 | 3=>[(1,0,-256,()),(0,1,128,())]
 | 4=>[(1,0,-106,()),(0,1,181,()),(1,0,-106,())]
 |_=>[]
theorem b5O{m:Nat}(h:m≤4):a8x (m:Int)=some (a4c m):=by
 match m,h with
 |0,_=>rfl
 | 1,_=>rfl
 | 2,_=>rfl
 | 3,_=>rfl
 | 4,_=>rfl
theorem b8G{m:Nat}(h:m≤4):a4l (a4c m) 2:=by
 match m,h with
 |0,_=>decide
 | 1,_=>decide
 | 2,_=>decide
 | 3,_=>decide
 | 4,_=>decide
theorem b1L{p:List (List Int)}{n:Nat}(hp:a2X p n)(a:p.length=2)(g:a2q p)(f:n≤4096):∀(k m best:Nat)(least:Int),m+k=5→best≤4→(doO (a4c best) p).isSome=true→
  ∃best',y0s a5h (p,(best:Int),least,(m:Int),())=some (((best':Nat):Int),())∧best'≤4∧(doO (a4c best') p).isSome=true
 |0,m,best,least,hm,hb,hd=>by
  obtain rfl:m=5:=by omega
  exact⟨best,a0H rfl,hb,hd⟩
 |k+1,m,best,least,hm,hb,hd=>by
  have d:decide ((m:Int)<5)=true:=by grind
  have c:wrap .i64 ((m:Int)+1)=((m+1:Nat):Int):=a0C (by omega);have h:a4l (a4c m) (p.length:Int):=by grind[b8G]
  cases hdo:doO (a4c m) p with
  |none=>
   have b1:((6:Int) != 0)=true:=rfl;rw[a0I (s':=(p,(best:Int),least,((m+1:Nat):Int),())) (by
    simp only[a5h,d,cT,b5O (show m≤4 by omega),oB,b9C,if_pos (show a2q p∧a4l (a4c m) (p.length:Int)from⟨g,h⟩),hdo,b5M,b1,c])]
   exact b1L hp a g f k (m+1) best least (by omega) hb hd
  |some r=>
   have e:((0:Int) != 0)=false:=rfl;obtain⟨i,j⟩:=b0S (a4c m) hp rfl h.2.2.2 hdo
   obtain⟨w,b⟩:=b8F i f (by omega);have step:a5h (p,(best:Int),least,(m:Int),())=bif decide (w<least)then some (.inl (p,(m:Int),w,((m+1:Nat):Int),()))else some (.inl (p,(best:Int),least,((m+1:Nat):Int),())):=by
    simp only[a5h,d,cT,b5O (show m≤4 by omega),oB,b9C,if_pos (show a2q p∧a4l (a4c m) (p.length:Int)from⟨g,h⟩),hdo,b5M,e,cF,b,c]
   cases hlt:decide (w<least)with
   |true=>
    rw[hlt]at step;rw[a0I step];exact b1L hp a g f k (m+1) m w (by omega) (by omega) (by simp_all)
   |false=>
    rw[hlt]at step;rw[a0I step];exact b1L hp a g f k (m+1) best least (by omega) hb hd
theorem c8j{p:List (List Int)}{n:Nat}(hp:a2X p n)(g:p.length=2)(h:n≤4096):∃m,m≤4∧a9p p=some (a4c m)∧(doO (a4c m) p).isSome=true:=by
 have k:=b5L hp (by omega) (by omega) h;obtain⟨w,c⟩:=b8F hp h (by omega);obtain⟨m,a,f,b⟩:=b1L hp g k h 4 1 0 w rfl (by omega) rfl
 grind[a9p,b5O]
def a9L(i:Nat)(s:a0T):a0T:=(s.1+(i:Int),s.2.1+(i:Int),s.2.2.1,())
theorem c7a{i N:Nat}(h:i+2≤N){s:a0T}(k:a2j 2 s=true):a2j (N:Int) (a9L i s)=true:=by
 obtain⟨a1,a,b,c,d,g,f⟩:=a2B.1 k;exact a2B.2 ⟨by show 0≤s.1+(i:Int);omega,by show s.1+(i:Int)<(N:Int);omega,by show 0≤s.2.1+(i:Int);omega,by show s.2.1+(i:Int)<(N:Int);omega,by show s.1+(i:Int)≠s.2.1+(i:Int);omega,g,f⟩
def b9D(i:Nat)(c c' p:List (List Int)):Prop:=c'.length=c.length∧p.length=2∧c'.getD i []=p.getD 0 []∧c'.getD (i+1) []=p.getD 1 []∧∀j,j≠i→j≠i+1→c'.getD j []=c.getD j []
theorem c4T{i:Nat}{c0 c p p':List (List Int)}(C:i+2≤c0.length)(h:b9D i c0 c p){s:a0T}(m:a2j 2 s=true)(g:a3k 1 s p=some p'):∃c',a3k 1 (a9L i s) c=some c'∧b9D i c0 c' p':=by
 obtain⟨w,y,z,A,B⟩:=h;obtain⟨a1,f,k,a,o,q,t⟩:=a2B.1 m;unfold a3k at g⊢;simp only at g⊢;have key:∀x:Int,0≤x→x<2→c.getD (x+(i:Int)).toNat []=p.getD x.toNat []:=fun x E n=>by
  grind
 have u:=key s.1 a1 f;have v:=key s.2.1 k a;simp only[a9L];have l:a8h 1 s.2.2.1 (c.getD (s.1+(i:Int)).toNat []) (c.getD (s.2.1+(i:Int)).toNat [])=a8h 1 s.2.2.1 (p.getD s.1.toNat []) (p.getD s.2.1.toNat []):=by simp_all
 simp only[l]
 split at g
 rename_i b;cases g;rw[if_pos b];generalize a8h 1 s.2.2.1 (p.getD s.1.toNat []) (p.getD s.2.1.toNat [])=r at *;refine⟨_,rfl,by grind,by grind,?_,?_,fun j D d=>?_⟩
 have:s.2.1=0∨s.2.1=1:=by omega
 rcases this with e|e;rw[e,show((0:Int)+(i:Int)).toNat=i from by omega,a6t _ (by omega),show(0:Int).toNat=0 from rfl,a6t _ (by omega)];rw[e,show((1:Int)+(i:Int)).toNat=i+1 from by omega,a9D _ (by omega),show(1:Int).toNat=1 from rfl,a9D _ (by omega)];omega
 have:s.2.1=0∨s.2.1=1:=by omega
 rcases this with e|e;simp_all;rw[e,show((1:Int)+(i:Int)).toNat=i+1 from by omega,a6t _ (by omega),show(1:Int).toNat=1 from rfl,a6t _ (by omega)];rw[a9D _ (by omega)];simp_all;simp_all
theorem c1M{i:Nat}{c0:List (List Int)}(f:i+2≤c0.length):∀(l:List a0T){c p p':List (List Int)},l.all (a2j 2)=true→b9D i c0 c p→doO l p=some p'→∃g,doO (l.map (a9L i)) c=some g∧b9D i c0 g p'
 | [],c,p,p',_,h,hd=>by cases hd;exact⟨c,rfl,h⟩
 |s::l,c,p,p',hl,h,hd=>by
  simp only[a24,bA]at hl;simp[doO,a03]at hd;obtain⟨q,k,a⟩:=hd;obtain⟨d,b,e⟩:=c4T f h hl.1 k;obtain⟨g,j1,j2⟩:=c1M f l hl.2 e a;exact⟨g,by simp only[List.map_cons,doO,b,oB];exact j1,j2⟩
theorem c3q:∀(l m:List a0T)(c:List (List Int)),doO (l++m) c=(doO l c).bind (doO m)
 | [],m,c=>rfl
 |s::l,m,c=>by
  simp only[a41,doO];cases a3k 1 s c with
  |none=>rfl
  |some d=>exact c3q l m d
theorem c1N{α β:Type}(f:α→β):∀l:List α,l.flatMap (fun x=>[f x])=l.map f
 | []=>rfl
 |x::l=>by simp[c1N f l]
theorem c2Z(b:a0Y)(first:Nat)(t:first≤100){y:List a0T}(e:y.all (a2j 2)=true)(s:y.length≤10)(out:List a0T)(u:out.length≤1000):
  y0s a5i ((first:Int),(y.length:Int),(0:Int),out,y,b,())=some ((first:Int),out++y.map (a9L first),b,()):=by
 have:=a1A (f:=a5i) (β:=Int×(List a0T×(a0Y×Unit))) y (fun i (a:List a0T)=>((first:Int),(y.length:Int),(i:Int),a,y,b,())) (fun a x=>.inl (a++[a9L first x])) (fun i a=>a.length=out.length+i) (fun a=>((first:Int),a,b,()))
  (fun i g a c=>⟨fun j h=>by
   simp at h;subst h;obtain⟨a1,l,m,o,p,q,r⟩:=a2B.1 (lA.1 e _ (a04 g));have k:decide ((0:Int)≤(i:Int))=true:=by simp
   have d:a46 y (a31 (i:Int)) ((0:Int),(0:Int),(0:Int),())=y[i]:=by simp_all
   refine⟨?_,by grind⟩;simp only[a5i,dlt g,cT,k,a06,a1e (show a.length+1<2147483648 by omega),d,a0C (show i<1000000 by omega),List.append_eq];rw[a0D (n:=y[i].1+(first:Int)) (by omega),a0D (n:=y[i].2.1+(first:Int)) (by omega)]
   rfl,fun b hb=>by grind⟩)
  (fun a c=>by simp_all[a5i]) (a:=out) (by simp)
 simp_all[a9g,a6O,c1N]
theorem d1i{c:List (List Int)}{i:Nat}(h:i+2≤c.length):a39 i (a38 (i+2) c)=[c.getD i [],c.getD (i+1) []]:=by
 apply List.ext_getElem?;intro j;rw[a37]
 grind
theorem b7c{b:a0Y}{n:Nat}(o:a2X b.2.1 n)(p:n≤4096)(z:b.2.1.length≤8):∀(k j:Nat)(out:List a0T)(c:List (List Int)),j+k=5→out.length≤3*j→out.all (a2j (b.2.1.length:Int))=true→doO out b.2.1=some c→(∀i,2*j≤i→c.getD i []=b.2.1.getD i [])→3*j≤12∨b.2.1.length≤2*j→
  ∃l f,y0s a7i (((2*j:Nat):Int),out,b,())=some (l,())∧l.length≤16∧l.all (a2j (b.2.1.length:Int))=true∧doO l b.2.1=some f
 |k,j,out,c,hk,hol,hob,hdo,hag,h12=>by
  have g:wrap .i64 (((2*j:Nat):Int)+1)=((2*j+1:Nat):Int):=by grind[a0D]
  by_cases hlt:2*j+1<b.2.1.length
  ·cases k with
   |zero=>omega
   |succ k=>
    have e:wrap .i64 (((2*j:Nat):Int)+2)=((2*j+2:Nat):Int):=by grind[a0D]
    have hp:a2X [b.2.1.getD (2*j) [],b.2.1.getD (2*j+1) []] n:=fun r q=>by
     simp only[mC,List.not_mem_nil,or_false]at q;rcases q with rfl|rfl
     all_goals grind[a6Y]
    obtain⟨m,u,O,E⟩:=c8j hp rfl p;obtain⟨p',d⟩:=Option.isSome_iff_exists.1 E;have h:=(b8G u).2.2.2;have C:(a4c m).length≤3:=by
     match m,u with
     |0,_=>decide
     | 1,_=>decide
     | 2,_=>decide
     | 3,_=>decide
     | 4,_=>decide
    have A:c.length=b.2.1.length:=(b0S out o rfl hob hdo).2;obtain⟨f,F,G,H,I,K,L⟩:=c1M (i:=2*j) (c0:=c) (by omega) (a4c m) h ⟨rfl,rfl,hag _ (a30 _),hag _ (by omega),fun _ _ _=>rfl⟩ d;have B:=c2Z b (2*j) (by omega) h (by omega) out (by omega);have a:decide (((2*j+1:Nat):Int)<((b.2.1.length:Nat):Int))=true:=by grind
    have v:decide ((0:Int)≤((2*j+2:Nat):Int))=true:=by rfl
    have w:decide (((2*j+2:Nat):Int)≤((b.2.1.length:Nat):Int))=true:=by grind
    have x:decide ((0:Int)≤((2*j:Nat):Int))=true:=by rfl
    have y:decide (((2*j:Nat):Int)≤((2*j+2:Nat):Int))=true:=by grind
    rw[a0I (s':=(((2*(j+1):Nat):Int),out++(a4c m).map (a9L (2*j)),b,())) (by
     simp only[a7i,g,a,cT,e,v,w,a06,tN,x,y]
     grind[d1i])]
    refine b7c o p z k (j+1) (out++(a4c m).map (a9L (2*j))) f (by omega) (by grind) ?_ (by simp_all[c3q]) (fun i M=>by grind) (by omega);rw[List.all_append,hob,a22,lA];intro s D;obtain⟨t,N,rfl⟩:=a08.1 D
    grind[c7a]
  refine⟨out,c,a0H ?_,by omega,hob,hdo⟩;have a:decide (((2*j+1:Nat):Int)<((b.2.1.length:Nat):Int))=false:=by grind
  simp only[a7i,g,a,cF]
termination_by k=>k
theorem c1O{b:a0Y}(hb:a1H b):∃l h,a6m b=some l∧a4l l (b.2.1.length:Int)∧doO l b.2.1=some h:=by
 obtain⟨c,-⟩:=b1r hb;have a:=hb.2.2.2.1;obtain⟨l,h,d,g,f,k⟩:=b7c c hb.2.2.2.2.2.1 a 5 0 [] b.2.1 rfl (by simp) rfl rfl (fun _ _=>rfl) (by omega);refine⟨l,h,?_,⟨by have:=hb.2.2.1;omega,by omega,g,f⟩,k⟩;unfold a6m;simp[a8M,decide_eq_true hb];simp_all
theorem c7b{r:List Int}{n:Nat}(h:r.length=n∧r.all a0A=true)(a:1≤n)(b:n≤256){k:Int}(f:0≤k)(c:k≤3):
  ∃s,a4E (r,k)=some (s,0)∧SmallS s∧a1U s (n:Int)=some r∧a4h s (n:Int)≤((13+a0G r*n:Nat):Int):=by
 obtain⟨e,g⟩:=h;have d:=a5L (l:=r) (by omega) g
 grind[c4H,c9j]
theorem b7d{effort:Int}(g:0≤effort)(b:effort≤3){rows:List (List Int)}{n:Nat}(c:a2X rows n)(k:1≤n)(a:n≤256)(i:rows.length≤8)(f:a1f):∀(rest d:List (List Int)) (done:List Sub),d++rest=rows→done.length=d.length→
  ∃outs,y0s a4F (effort,rows,(rows.length:Int),(d.length:Int),b7a,a7x f done,())=some (.inl (b7a,a7x f (done++outs),()))∧a6u (fun s=>a1U s (n:Int)) outs=some rest∧(∀s∈outs,SmallS s)∧a6u (fun r=>a4E (r,effort)) rest=some (outs.map fun s=>(s,0))
 | [],d,done,hd,hdl=>by
  have e:d=rows:=by simp_all
  subst e;refine⟨[],?_,rfl,by simp,rfl⟩;simp_all[a0H,a4F]
 |r::rest,d,done,hd,hdl=>by
  have h:d.length<rows.length:=by grind
  have j:m0k rows (d.length:Int)=some r:=by grind[a0B]
  obtain⟨s,b1,b2,l,-⟩:=c7b (c r (by grind)) k a g b;have z0:((0:Int) != 0)=false:=rfl;have step:a4F (effort,rows,(rows.length:Int),(d.length:Int),b7a,a7x f done,())=some (.inl (effort,rows,(rows.length:Int),(((d++[r]).length:Nat):Int),b7a,a7x f (done++[s]),())):=by
   simp only[a4F,dlt h,cT,j,oB,b1,z0,cF];rw[show(a7x f done).2.2.2.2.1=done from rfl,a1e (show done.length+1<2147483648 by omega),cT,a0C (show d.length<1000000 by omega)];rw[show(((d++[r]).length:Nat):Int)=((d.length+1:Nat):Int)from by simp];rfl
  rw[a0I step];obtain⟨outs,o,p,q,u⟩:=b7d g b c k a i f rest (d++[r]) (done++[s]) (by simp_all) (by simp_all);refine⟨s::outs,?_,?_,fun t m=>?_,?_⟩;simp_all;simp_all[a6u]
  grind
  simp_all[a6u]
theorem c4U{b:a0Y}(hb:a1H b)(k:a0W b≤256){rate start effort:Int}(n:1≤rate∧rate≤1048576)(B:0≤start∧start≤4194304-((a0W b:Nat):Int))(y:0≤effort)(z:effort≤3):
  ∃l g outs,a3b (b,(rate,((b.2.1.length:Nat):Int),b.1,()),start,effort)=some ((start,((a0W b:Nat):Int),(rate,((b.2.1.length:Nat):Int),b.1,()),l,outs,()),0)∧
   a4l l (b.2.1.length:Int)∧doO l b.2.1=some g∧a6u (fun s=>a1U s ((a0W b:Nat):Int)) outs=some g∧(∀s∈outs,SmallS s)∧a6u (fun r=>a4E (r,effort)) g=some (outs.map fun s=>(s,0))∧
   (effort=0→l=[])∧(0<effort→a6m b=some l):=by
 obtain⟨A,m⟩:=b1r hb;have i:=hb;obtain⟨w,x,D,E,F,G,-⟩:=i;have j:b3l (rate,((b.2.1.length:Nat):Int),b.1,()):=⟨n.1,n.2,by grind,by grind,w,x⟩;have f:∃l g,a4l l (b.2.1.length:Int)∧doO l b.2.1=some g∧(effort=0→l=[])∧(0<effort→a6m b=some l):=by
  by_cases he:effort=0
  exact⟨[],b.2.1,⟨by omega,by omega,by simp,rfl⟩,rfl,fun _=>rfl,fun h=>by omega⟩
  grind[c1O]
 obtain⟨l,g,e,d,a,c⟩:=f;obtain⟨C,H⟩:=b0S l A rfl e.2.2.2 d;obtain⟨outs,j1,j2,j3,j4⟩:=b7d y z C (by omega) k (by omega) (start,((a0W b:Nat):Int),(rate,((b.2.1.length:Nat):Int),b.1,()),l,([]:List Sub),()) g [] [] rfl rfl;refine⟨l,g,outs,?_,e,d,j2,j3,j4,a,c⟩;have u:(b.1 != b.1)=false:=bne_self_eq_false _;have v:(((b.2.1.length:Nat):Int) != ((b.2.1.length:Nat):Int))=false:=bne_self_eq_false _;have o:decide (effort<0)=false:=by simp_all
 have p:decide (effort > 3)=false:=by simp_all
 have q:decide (start<0)=false:=by simp_all
 have t:decide (start > wrap .i64 (4194304-((a0W b:Nat):Int)))=false:=by grind[a0D]
 have z0:((0:Int) != 0)=false:=rfl;unfold a3b;simp only[a8M,decide_eq_true hb,oB,bT,cF,b2A,decide_eq_true j,u,v,o,p,q,a4b,t];cases he:decide (effort > 0)with
 |true=>
  have:=c (by simp_all)
  simp[this,b9C,if_pos (show a2q b.2.1∧a4l l (b.2.1.length:Int)from⟨m,e⟩),d,b5M]
  erw[j1]
  rfl
 |false=>
  have:=a (by grind)
  subst this;simp only[cF,oB,b9C,if_pos (show a2q b.2.1∧a4l ([]:List a0T) (b.2.1.length:Int)from⟨m,e⟩),d,b5M,z0]
  erw[j1]
  rfl
theorem made{b:a0Y}(hb:a1H b)(f:a0W b≤256){rate start effort:Int}(e:1≤rate∧rate≤1048576)(a:0≤start∧start≤4194304-((a0W b:Nat):Int))(j:0≤effort)(n:effort≤3):
  ∃g:Int×(a0T×(List a0T×(List Sub×Unit))),a3b (b,(rate,((b.2.1.length:Nat):Int),b.1,()),start,effort)=some ((start,g),0)∧g.1=((a0W b:Nat):Int)∧g.2.1=(rate,((b.2.1.length:Nat):Int),b.1,())∧
   g.2.2.1.length≤16∧g.2.2.2.1.length≤8∧(∀s∈g.2.2.2.1,SmallS s)∧∀h,0≤h∧h≤4194304-((a0W b:Nat):Int)→a7R (h,g)=some b:=by
 obtain⟨l,i,outs,m,k,c,d,o,-⟩:=c4U hb f e a j n;obtain⟨p,-⟩:=b1r hb;have t:=b5N d;have q:=(b0S l p rfl k.2.2.2 c).2;exact⟨_,m,rfl,rfl,k.2.2.1,by have:=hb.2.2.2.1;show outs.length≤8;omega,o,fun h r=>c4R hb k c d r e⟩
@[reducible] def Pc:Type:=a1f×(a0Y×List Int)
def c9p(fm:a0T)(st:Nat)(x:Pc):Prop:=
 x.1.1=(st:Int)∧x.1.2.1=((a0W x.2.1:Nat):Int)∧x.1.2.2.1=fm∧a1t x.1=some (x.2.1,0)∧a1r x.1=some (x.2.2,0)∧
  (∀R:List Int,R.length≤200000000→a2c (x.2.2++R)=some (x.1,(x.2.2.length:Int),(0:Int)))∧a1H x.2.1∧x.2.1.1=fm.2.2.1∧a0W x.2.1≤64∧1≤x.2.2.length∧x.2.2.length≤700800
def d3Q(y0 d q r:Nat):Prop:=4294967296≤q∨4294967296*r+d<q*y0
instance (y0 d q r:Nat):Decidable (d3Q y0 d q r):=inferInstanceAs (Decidable (_∨_))
def crE(s:BitVec 16):BitVec 16:=bif s.msb then(s <<< 1) ^^^ 32773#16 else s <<< 1
theorem c3r(s t:BitVec 16):crE (s ^^^ t)=crE s ^^^ crE t:=by
 unfold crE;rw[BitVec.msb_xor,BitVec.shiftLeft_xor_distrib];cases s.msb<;>cases t.msb<;>simp only[cT,cF,Bool.xor_true,Bool.xor_false,bT,a19];rw[a02];rw[a02,a02,a28 (t <<< 1)];rw[a02,a28 32773#16,a02,BitVec.xor_self,a42]
theorem c7c{s:BitVec 16}(h:crE s=0):s=0:=by
 unfold crE at h;cases hm:s.msb with
 |true=>
  rw[hm,cT]at h
  have:=congrArg (fun x=>a45 x 0) h
  simp at this
 |false=>
  rw[hm,cF]at h;refine a26 fun i g=>?_
  by_cases h15:i=15
  subst h15;rw[a21]at hm;simpa using hm
  have:=congrArg (fun x=>a45 x (i+1)) h
  simp at this;simpa using this (by omega)
theorem d1j:crE 0=0:=by decide
theorem b5P{s:BitVec 16}:∀{n:Nat},rep crE n s=0→s=0
 |0,h=>h
 |n+1,h=>c7c (b5P (n:=n) h)
theorem c7H:∀n:Nat,rep crE n 0=0
 |0=>rfl
 |n+1=>by
  show rep crE n (crE 0)=0;rw[d1j,c7H n]
def crB(b:Bool):BitVec 16:=bif b then 32768#16 else 0#16
def crS(s:BitVec 16)(b:Bool):BitVec 16:=crE (s ^^^ crB b)
def crT:List Bool→BitVec 16
 | []=>0#16
 |b::w=>crB b ^^^ (crT w >>> 1)
theorem c8k(b:Bool)(j:Nat):(crB b).getLsbD j=(b&&decide (j=15)):=by
 cases b with
 |false=>simp[crB]
 |true=>
  simp only[crB,cT,a22];rw[show(32768#16)=BitVec.ofNat 16 (2^15)from rfl,BitVec.getLsbD_ofNat,Nat.testBit_two_pow]
  by_cases h:j=15
  subst h;rfl;rw[decide_eq_false (by omega:¬ (15=j)),decide_eq_false h,Bool.and_false]
theorem b4y:∀(w:List Bool)(j:Nat),(crT w).getLsbD j=(decide (j<16)&&w.getD (15-j) false)
 | [],j=>by simp[crT]
 |b::w,j=>by
  rw[crT,BitVec.getLsbD_xor,c8k,a07,b4y w]
  by_cases h:j=15
  subst h;simp
  by_cases h2:j<16
  rw[show 15-j=(15-(1+j))+1 from by omega,a35];simp[h,h2,show 1+j<16 from by omega];simp[h,h2,show ¬ (1+j<16)from by omega]
theorem c7d{w:List Bool}(h:w.length≤15):crE (crT w >>> 1)=crT w:=by
 have k:(crT w >>> 1).msb=false:=by
  rw[a21,a07,b4y];simp
 unfold crE;rw[k,cF];refine a26 fun i f=>?_
 rw[BitVec.getLsbD_shiftLeft,a07];cases i with
 |zero=>
  have g:(crT w).getLsbD 0=false:=by
   rw[b4y,lD,List.getElem?_eq_none (by omega)];rfl
  rw[g];simp
 |succ i=>rw[show 1+(i+1-1)=i+1 from by omega];simp[f]
theorem c9q:∀(w:List Bool)(s:BitVec 16),w.length≤16→w.foldl crS s=rep crE w.length (s ^^^ crT w)
 | [],s,_=>by simp[crT,rep]
 |b::w,s,h=>by
  rw[lC]at h;rw[a29,c9q w _ (by omega),crT,←a02];show _=rep crE w.length (crE (s ^^^ crB b ^^^ (crT w >>> 1)));rw[c3r,c7d (by omega)];rfl
theorem c1P{α:Type}(f g:α→Bool):∀(L:List α)(s t:BitVec 16),(L.map fun j=>xor (f j) (g j)).foldl crS (s ^^^ t)=(L.map f).foldl crS s ^^^ (L.map g).foldl crS t
 | [],_,_=>rfl
 |a::L,s,t=>by
  simp only[List.map_cons,a29];rw[←c1P f g L];congr 1;unfold crS;rw[←c3r];congr 1
  have:crB (xor (f a) (g a))=crB (f a) ^^^ crB (g a):=by cases f a<;>cases g a<;>rfl
  rw[this];simp only[a02];rw[←a02 t,a28 t,a02]
theorem b3m:∀(n:Nat)(s:BitVec 16),(a00 n false).foldl crS s=rep crE n s
 |0,_=>rfl
 |n+1,s=>by
  rw[List.replicate_succ,a29,b3m n];show rep crE n (crE (s ^^^ 0#16))=rep crE n (crE s);rw[a42]
theorem d1k{w:List Bool}(h:w.length≤16)(a:true∈w)(k m:Nat):(a00 k false++(w++a00 m false)).foldl crS 0≠0:=by
 rw[a40,a40,b3m,b3m,c7H,c9q w _ h];intro e;have e:=b5P (b5P e);have e:crT w=0:=by simpa using e
 obtain⟨i,f,g⟩:=List.mem_iff_getElem.1 a
 have:=b4y w (15-i)
 rw[e,show 15-(15-i)=i from by omega,lD,lG f,g]at this;simp at this;omega
def byb(c:Int):List Bool:=[7,6,5,4,3,2,1,0].map fun i=>c.toNat.testBit i
def b4z(p:List Int):List Bool:=p.flatMap byb
def b4r(f t:Nat)(r:List Int):List Int:=a39 f (a38 t r)
def b2d(b:a0Y)(f t:Nat):a0Y:=(b.1,b.2.1.map (b4r f t),())
theorem c5X{b:a0Y}(hb:a1H b){f t:Nat}(s:f<t)(u:t≤a0W b):a7N (b,(f:Int),(t:Int),())=some (b2d b f t,0):=by
 obtain⟨p,-⟩:=b1r hb;have d:decide ((f:Int)<0)=false:=by simp only[decide_eq_false_iff_not];omega
 have e:decide ((f:Int)≥(t:Int))=false:=by simp only[decide_eq_false_iff_not];omega
 have j:decide ((t:Int) > ((a0W b:Nat):Int))=false:=by simp only[decide_eq_false_iff_not];omega
 have v:=hb.2.2.2.2.2.1;have h:=a1A (f:=a7p) (β:=a0Y×(a0Y×Unit)) b.2.1 (fun i (a:List (List Int))=>(b.2.1,((b.2.1.length:Nat):Int),(i:Int),((0:Int),([]:List (List Int)),()),(b.1,a,()),((f:Int),(t:Int),()),())) (fun a x=>.inl (a++[b4r f t x])) (fun i a=>a.length=i) (fun a=>(((0:Int),([]:List (List Int)),()),(b.1,a,()),()))
  (fun i k a c=>⟨fun r g=>by
   simp only[Sum.inl.injEq]at g;subst g;have w:=(p _ (a04 k)).1;have l:decide ((0:Int)≤(t:Int))=true:=by simp
   have m:decide ((t:Int)≤((b.2.1[i].length:Nat):Int))=true:=by simp only[dT];omega
   have n:decide ((0:Int)≤(f:Int))=true:=by simp
   have o:decide ((f:Int)≤(t:Int))=true:=by simp only[dT];omega
   have q:=hb.2.2.2.1;refine⟨?_,by simp[c]⟩;simp only[a7p,dlt k,cT,a0B k,oB,tN,l,m,n,o,a06];rw[b0K (show short (a39 f (a38 t b.2.1[i]))by unfold short;rw[a09,a16];omega)];simp only[oB];rw[a1e (show a.length+1<2147483648 by omega),cT,a0C (show i<1000000 by omega)];rfl,fun b hb=>by cases hb⟩)
  (fun a c=>by simp only[a7p,dge,cF]) (a:=[]) rfl
 rw[a9g (fun x:List Int=>[b4r f t x])]at h;simp only[nZ,a6O,c1N,a05]at h;unfold a7N;simp only[a8M,decide_eq_true hb,oB,bT,cF,d,e,a4b,j]
 erw[h]
 rfl
theorem c3s{b:a0Y}(hb:a1H b){f t:Nat}(g:f<t)(k:t≤a0W b):a0W (b2d b f t)=t-f:=by
 unfold a0W b2d;have a:=hb.2.2.1;have h:0<b.2.1.length:=by omega
 have c:a0W b=(b.2.1[0]).length:=by unfold a0W;rw[a6X (d:=[]) h]
 rw[←a6X (d:=[]) (show 0<(b.2.1.map (b4r f t)).length by simpa using h)];simp only[List.getElem_map,b4r,a09,a16];omega
theorem c9r{b:a0Y}(hb:a1H b){f t:Nat}(e:f<t)(i:t≤a0W b):a1H (b2d b f t):=by
 have j:=c3s hb e i;obtain⟨g,k,a,c,o,p,d⟩:=hb;refine⟨g,k,by simpa[b2d]using a,by simpa[b2d]using c,by omega,by omega,lA.2 fun r l=>?_⟩;obtain⟨n,h,rfl⟩:=a08.1 l
 have:=lA.1 d n h
 simp only[bA,dT]at this;simp only[bA,dT];refine⟨by rw[j];simp only[b4r,a09,a16];omega,lA.2 fun x m=>lA.1 this.2 x (List.mem_of_mem_take (List.mem_of_mem_drop m))⟩
def c9s(c:Int):Prop:=0≤c∧c<256
def a8o(p:List Int)(j:Nat):Bool:=(p.getD (j / 8) 0).toNat.testBit (7-j%8)
theorem b5Q:∀p:List Int,b4z p=(a25 (8*p.length)).map (a8o p)
 | []=>rfl
 |c::p=>by
  have e:b4z (c::p)=byb c++b4z p:=rfl;rw[e,b5Q p,lC,show 8*(p.length+1)=8+8*p.length from by omega,a33,pA,a27];congr 1;refine a36 fun j _=>?_
  show a8o p j=a8o (c::p) (8+j);unfold a8o;rw[show(8+j) / 8=j / 8+1 from by omega,a35,show(8+j)%8=j%8 from by omega]
structure Turn (b k i:Nat) (p0 p:List Int) (sm:Bool):Prop where
 len:p.length=p0.length
 ok:∀c∈p,c9s c
 bit:∀j,a8o p j=xor (a8o p0 j) (decide (k≤j∧j<k+i)&&b.testBit (j-k))
 smk:sm=true↔∃t,t<i∧b.testBit t=true
 pre:p.take (k / 8)=p0.take (k / 8)
 same:sm=false→p=p0
theorem turned{b k:Nat}{p0 q:List Int}{s:Bool}(w:k<8*p0.length)(i:(b4z p0).foldl crS 0=0)(g:Turn b k (min 16 (8*p0.length-k)) p0 q s)(u:s=true):(b4z q).foldl crS 0≠0:=by
 obtain⟨n,r⟩:∃n,min 16 (8*p0.length-k)=n:=⟨_,rfl⟩;rw[r]at g;have e:b4z q=(a25 (8*p0.length)).map fun j=>xor (a8o p0 j) (decide (k≤j∧j<k+n)&&b.testBit (j-k)):=by
  rw[b5Q,g.len];exact a36 fun j _=>g.bit j
 have h:=c1P (a8o p0) (fun j=>decide (k≤j∧j<k+n)&&b.testBit (j-k)) (a25 (8*p0.length)) 0 0;have a:∀x:BitVec 16,(0:BitVec 16) ^^^ x=x:=fun _=>BitVec.zero_xor;rw[a,←e,←b5Q,i,a]at h;rw[h];obtain⟨m,p⟩:∃m,8*p0.length=k+(n+m):=⟨8*p0.length-k-n,by omega⟩;rw[p,a33,a33,pA,pA,pA,a27,a27,a27];have c:(a25 k).map (fun j=>decide (k≤j∧j<k+n)&&b.testBit (j-k))=a00 k false:=by
  rw[a32];refine⟨by simp,fun x f=>?_⟩;obtain⟨j,o,rfl⟩:=a08.1 f
  grind
 have d:(a25 m).map (((fun j=>decide (k≤j∧j<k+n)&&b.testBit (j-k))∘(k+·))∘(n+·))=a00 m false:=by
  rw[a32];refine⟨by simp,fun x f=>?_⟩;obtain⟨j,o,rfl⟩:=a08.1 f
  grind
 rw[c,d];refine d1k (by simp;omega) ?_ k m;obtain⟨t,l,v⟩:=g.smk.1 u;refine a08.2 ⟨t,List.mem_range.2 l,?_⟩;simp_all
@[reducible] def d1l:Type:=Int×(a0T×(List a0T×(List Sub×Unit)))
@[reducible] def Pp:Type:=d1l×a0Y
def gOk(fm:a0T)(q:Pp):Prop:=a0W q.2≤64∧a1H q.2∧fm.2.1=((q.2.2.1.length:Nat):Int)∧∀st:Nat,st+a0W q.2≤4194304→∃p,c9p fm st (((st:Int),q.1),q.2,p)
theorem c5Y{b:a0Y}{fm:a0T}(hb:a1H b)(e:a0W b≤64)(l:1≤fm.1∧fm.1≤1048576)(i:fm.2.1=((b.2.1.length:Nat):Int))(h:fm.2.2.1=b.1){st:Nat}(d:st+a0W b≤4194304){effort:Int}(n:0≤effort)(o:effort≤3):
  ∃g,a3b (b,fm,(st:Int),effort)=some (((st:Int),g),0)∧gOk fm (g,b):=by
 obtain⟨rate,v,bits,u⟩:=fm;cases u;simp only at l i h;subst i h;obtain⟨g,q,r,s,x,y,m,t⟩:=made hb (by omega) (rate:=rate) (start:=(st:Int)) (effort:=effort) l (by omega) n o;refine⟨g,q,e,hb,rfl,fun st d=>?_⟩;have d:st+a0W b≤4194304:=d;have a:=t (st:Int) (by omega);obtain⟨L,p,-,j,c⟩:=c4Q (f:=((st:Int),g)) m a;have k:=c1L (f:=((st:Int),g)) m;rw[a]at k;have w:=b5K (b4p a).1 p;refine⟨a5v ((st:Int),g) L,rfl,r,s,k,j,c,hb,rfl,e,?_,?_⟩
 all_goals grind[a5v]
def a8N(f:a1f):List Int:=match a1r f with
 |some (p,_)=>p
 |none=>[]
def c9t(st:Nat)(q:Pp):Pc:=(((st:Int),q.1),q.2,a8N ((st:Int),q.1))
theorem c8l{f:a1f}{p:List Int}{e:Int}(h:a1r f=some (p,e)):a8N f=p:=by unfold a8N;rw[h]
theorem b8b{fm:a0T}{q:Pp}(h:gOk fm q){st:Nat}(g:st+a0W q.2≤4194304):c9p fm st (c9t st q):=by
 obtain⟨p,hp⟩:=h.2.2.2 st g
 have:=c8l hp.2.2.2.2.1
 simp_all[c9t]
theorem c5Z{fm:a0T}(d:b3l fm){q:Pp}(b:gOk fm q){st f t:Nat}(m:st+a0W q.2≤4194304)(k:f<t)(a:t≤a0W q.2){eff:Int}(j:0≤eff)(l:eff≤3):
  ∃g,a4G (((st:Int),q.1),((f:Int),(t:Int),()),eff)=some (((0:Int),g),0)∧gOk fm (g,b2d q.2 f t):=by
 obtain⟨u,v,e,i,w,-,h,c,-,-,-⟩:=b8b b m;have e:q.1.2.1=fm:=e;have i:a1t ((st:Int),q.1)=some (q.2,0):=i;have h:a1H q.2:=h;have c:q.2.1=fm.2.2.1:=c;have n:=c5X h k a;have o:=c3s h k a;obtain⟨g,p,r⟩:=c5Y (fm:=fm) (c9r h k a) (by have:=b.1;omega) ⟨d.1,d.2.1⟩ (by rw[b.2.2.1];simp[b2d]) (by rw[←c];rfl) (st:=0) (by omega) j l;have s:((0:Int) != 0)=false:=rfl;simp_all[a4G]
theorem c8m(f t:Int){n:Nat}(a:n≤1000):∃x y:Nat,x≤y∧y≤n∧b0E (f,t,(n:Int))=some ((x:Int),(y:Int),()):=by
 obtain⟨u,h,-⟩:=c4S 16 (by omega) f;obtain⟨v,hv,-⟩:=c4S 16 (by omega) t;rw[show((2^16-1:Nat):Int)=65535 from rfl]at h hv;have g:u%(n+1)<n+1:=a44 _ (by omega);have k:v%(n-u%(n+1)+1)<n-u%(n+1)+1:=a44 _ (by omega);have c:wrap .i64 ((n:Int)+1)=((n+1:Nat):Int):=by grind[a0D]
 have b:Int.tmod (u:Int) ((n+1:Nat):Int)=((u%(n+1):Nat):Int):=rfl;have w2:wrap .i64 (wrap .i64 ((n:Int)-((u%(n+1):Nat):Int))+1)=((n-u%(n+1)+1:Nat):Int):=by
  grind[a0D]
 have t2:Int.tmod (v:Int) ((n-u%(n+1)+1:Nat):Int)=((v%(n-u%(n+1)+1):Nat):Int):=rfl;have d:wrap .i64 (((u%(n+1):Nat):Int)+((v%(n-u%(n+1)+1):Nat):Int))=((u%(n+1)+v%(n-u%(n+1)+1):Nat):Int):=by grind[a0D]
 have e:(((n+1:Nat):Int)==0)=false:=by rfl
 have i:(((n-u%(n+1)+1:Nat):Int)==0)=false:=by rfl
 refine⟨u%(n+1),u%(n+1)+v%(n-u%(n+1)+1),by omega,by omega,?_⟩;unfold b0E
 grind
theorem c8n:b1S ()=some true:=by kernel_rfl
theorem b5R(x:a0Y×(Int×Int×Int×Int)):a6M x=some true:=by
 obtain⟨b,S,to,effort,again⟩:=x;unfold a6M;simp only[c8n,oB,bT,cF];obtain⟨t1,I,P⟩:=c5V b 50;rw[show((50:Nat):Int)=50 from rfl]at I;simp only[I,oB];cases t1 with
 |false=>rfl
 |true=>
  obtain⟨P,C⟩:=P rfl;obtain⟨t2,U,hb⟩:=c2Y (b:=b) (fun r o=>by have:=C r o;omega);simp only[bT,cF,U,oB];cases t2 with
  |false=>rfl
  |true=>
   have hb:=hb rfl;simp only[bT,cF,oB];have V:a0W b≤50:=by
    unfold a0W;rw[←a6X (d:=[]) (show 0<b.2.1.length by have:=hb.2.2.1;omega)];exact C _ (a04 _)
   obtain⟨b1,b2,b3,b4,b5,b6,-⟩:=id hb;obtain⟨w,L,u⟩:=c4S 2 (by omega) effort;obtain⟨v,hv,s⟩:=c4S 2 (by omega) again;rw[show((2^2-1:Nat):Int)=3 from rfl]at L hv;have Y:w<4:=u;have X:v<4:=s;obtain⟨fm,h⟩:∃fm:a0T,fm=((48000:Int),((b.2.1.length:Nat):Int),b.1,()):=⟨_,rfl⟩;have m:b3l fm:=by rw[h];exact⟨show(1:Int)≤48000 by decide,show(48000:Int)≤1048576 by decide,by show(1:Int)≤((b.2.1.length:Nat):Int);omega,by show((b.2.1.length:Nat):Int)≤8;omega,b1,b2⟩
   obtain⟨g,M,K⟩:=c5Y (fm:=fm) hb (by omega) ⟨m.1,m.2.1⟩ (by rw[h]) (by rw[h]) (st:=9) (by omega) (effort:=(w:Int)) (by omega) (by omega);obtain⟨p1,N,p3,p4,y,j,-,-,-,Z,h3⟩:=b8b K (st:=9) (by show 9+a0W b≤_;omega);have y:a1r ((9:Int),g)=some (a8N ((9:Int),g),0):=y;have j:a2c (a8N ((9:Int),g))=some (((9:Int),g),((a8N ((9:Int),g)).length:Int),(0:Int)):=by
    have:=j [] (by simp)
    rw[a43]at this;exact this
   have N:g.1=((a0W b:Nat):Int):=N;obtain⟨a,c,ac,D,q⟩:=c8m S to (n:=a0W b) (by omega);have i:((0:Int) != 0)=false:=rfl;have E:decide ((v:Int)<0)=false:=by simp only[decide_eq_false_iff_not];omega
   have F:decide ((v:Int) > 3)=false:=by simp only[decide_eq_false_iff_not];omega
   have G:decide ((((a8N ((9:Int),g)).length:Nat):Int)<(((a8N ((9:Int),g)).length:Nat):Int))=false:=by simp
   have H:decide ((a:Int)<0)=false:=by simp only[decide_eq_false_iff_not];omega
   rw[←h];rw[show((9:Nat):Int)=9 from rfl]at M;simp only[L,M,oB,y,i,cF,a4b,q,hv]
   by_cases hac:a=c
   subst hac;have l:decide ((a:Int)≥(a:Int))=true:=by simp
   have hp:a4p (a8N ((9:Int),g),((a:Int),(a:Int),()),(v:Int))=some ([],6):=by
    unfold a4p;simp only[E,cF,F,oB,j,i,G,H,l,cT]
   simp only[hp,oB,beq_self_eq_true,cT,a18];rfl;have l:decide ((a:Int)≥(c:Int))=false:=by simp only[decide_eq_false_iff_not];omega
   have Q:decide ((c:Int) > g.1)=false:=by simp only[decide_eq_false_iff_not];omega
   have R:((a:Int)==(c:Int))=false:=by simp only[beq_eq_false_iff_ne];omega
   obtain⟨k,O,r2⟩:=c5Z m K (st:=9) (f:=a) (t:=c) (by show 9+a0W b≤_;omega) (by omega) D (eff:=(v:Int)) (by omega) (by omega);obtain⟨-,-,-,z,A,B,-,-,-,-,-⟩:=b8b r2 (st:=0) (by have:=r2.1;omega);have z:a1t ((0:Int),k)=some (b2d b a c,0):=z;have A:a1r ((0:Int),k)=some (a8N ((0:Int),k),0):=A;have B:a2c (a8N ((0:Int),k))=some (((0:Int),k),((a8N ((0:Int),k)).length:Int),(0:Int)):=by
    have:=B [] (by simp)
    rw[a43]at this;exact this
   rw[show((9:Nat):Int)=9 from rfl]at O;have hp:a4p (a8N ((9:Int),g),((a:Int),(c:Int),()),(v:Int))=some (a8N ((0:Int),k),0):=by
    unfold a4p;simp only[E,cF,F,oB,j,i,G,H,l];rw[Q];simp only[cF]
    erw[O]
    simp only[oB,i,cF,A]
   have e:=c5X hb (f:=a) (t:=c) (by omega) D;have p:=b8a (b:=b2d b a c) (fun r o=>by
    obtain⟨r0,T,rfl⟩:=a08.1 (show r∈b.2.1.map (b4r a c)from o)
    have:=C r0 T
    unfold short b4r;rw[a09,a16];omega) (by show(b.2.1.map _).length<_;rw[List.length_map];omega)
   simp only[hp,oB,R,cF,B,z,e,beq_self_eq_true,cT,p]
end Go.Ab
namespace Go.Proofs.YtpckgfbgijdfnaaGreatDoor
open Go.Ab Go.ChangeShapes Go.WideShapes Go.ChangeAt Go.RowKit
theorem b4s{α:Type}{f:Nat→Option (α×a0z×List Nat)}:∀(L:List α)(i:Nat),(∀(j:Nat) x,L[j]?=some x→f (i+j)=some (x,[],[]))→a0d f L.length i=some (L,[],[])
 | [],_,_=>rfl
 |a::L,i,h=>by
  have g:=h 0 a rfl;have k:=b4s L (i+1) (fun j x b=>by have:=h (j+1) x (by simpa using b);rw[←this];congr 1;omega);simp only[lC,a0d];simp only[Nat.add_zero]at g;rw[g,k];rfl
section
variable {H:Type} {enc:TypeId×Value→H} {P:Program} {w:World} {base:Nat} {spare:Nat→Bool} {held:Bool}
theorem b9y{k:IntKind}{n:Nat}{t e:TypeId}{fuel:Nat}{cs:List Value}{L:List Int}{p:List MemPlace}(B:P.underlying t=some (.array n e))(u:P.underlying e=some (.int k))(s:P.cellsOf e=1)
  (h:DataW.trod enc P w base spare held fuel t cs=some (.agg (L.map fun i=>.lit (.int k i)),p)):L.length=n∧∀(j:Nat) x,L[j]?=some x→cs[j]?=some (.int k x):=by
 obtain⟨C,m,rfl,b,-,A,a⟩:=DataW.trod_array B h;simp only[pJ,DataW.agg.injEq]at b;have z:L.length=n:=by rw[←A];simpa using congrArg List.length b.1
 refine⟨z,fun j x c=>?_⟩;obtain⟨v,-⟩:=lS.1 c;have g:=a j (by omega);rw[s]at g;obtain⟨y,d⟩:∃y,C[j]?=some y:=⟨_,lG (by omega)⟩;rw[d]at g;obtain⟨i,o,q,-⟩:=DataW.trod_int u g;have f:=congrArg (fun l=>l[j]?) b.1;simp only[List.getElem?_map,c,d,Option.map_some,q]at f;simp only[sj,DataW.lit.injEq,Lit.int.injEq,true_and]at f;subst f;have r:=congrArg (fun l=>l[0]?) o;simpa[a37,List.getElem?_take]using r
end
def c3t : String := (Rows.spliceIsRow.laid.map Prod.fst).headD ""
theorem d3R:Tryz.prog.globalNamed c3t=some 0:=by kernel_rfl
def c7e:TypeId:=((Tryz.prog.globals[0]?).map (·.type)).getD 0
theorem c8o:(Tryz.prog.globals[0]?).map (·.type)=some c7e:=by kernel_rfl
def c7f:TypeId:=match Tryz.prog.underlying c7e with
 |some (.array _ e)=>e
 |_=>0
theorem d3S:Tryz.prog.underlying c7e=some (.array 64 c7f):=by kernel_rfl
theorem d1m:Tryz.prog.underlying c7f=some (.int .u8):=by kernel_rfl
theorem d1n:Tryz.prog.cellsOf c7f=1:=by kernel_rfl
@[reducible] def laidTab:List (String×DataW Unit):=[(c3t,Rows.laid_math_bits_deBruijn64tab)]

theorem c9u {g:Nat} {t:Ty} {x:t.den} (h:G0 g=some ⟨t,x⟩):g=0∧(⟨t,x⟩:(t:Ty)×t.den)=⟨.arr 64 (.int .u8),a9h⟩:=by
 unfold G0 find at h
 cases g with
 |zero=>exact⟨rfl,(Option.some.inj h).symm⟩
 |succ n=>exact absurd h (by simp[find])
theorem c1Q{W:World}(h:laidMetH Tryz.prog laidTab W):∀g t x,G0 g=some ⟨t,x⟩→g<W.heap.size∧dec (a0a W none) t ((Src.at g 0).rd (a0a W none))=some (x,[],[]):=by
 rw[MakeChecks.laidMetH_plain _ _ _ (by kernel_rfl)]at h;obtain⟨ps,⟨r,w,m,q,u,v,b,c,d,a,_⟩,_,_⟩:=h;obtain rfl:=Option.some.inj (d3R.symm.trans b);obtain rfl:=Option.some.inj (c8o.symm.trans c);have n:(Rows.laid_math_bits_deBruijn64tab:DataW Unit)=.agg (a9h.map fun i=>.lit (.int .u8 i)):=rfl;rw[n]at a;obtain⟨s,p⟩:=b9y d3S d1m d1n a;have k:∀(j:Nat) x,a9h[j]?=some x→W.cell? ⟨0,j,none⟩=some (.int .u8 x):=fun j x l=>by
  rw[World.var?_cell b d j];simpa using p j x l
 intro g t x o;obtain⟨rfl,e⟩:=c9u o;cases e;refine⟨z0m (k 0 0 rfl),?_⟩;exact b4s (f:=fun i=>dec (a0a W none) (.int .u8) fun j=>(Src.at 0 0).rd (a0a W none) (i*1+j)) a9h 0 (fun j x l=>by
  have:=k j x l
  simp only[dec,Src.rd,a0a,Nat.zero_add,Nat.mul_one,Nat.add_zero,this,if_true])
set_option maxRecDepth 100000 in
theorem c7g (os:Os) (args:Array Value):laidMetH Tryz.prog laidTab ((World.doorLaid Tryz.prog 400 os).forCall (fun _ _=>0) ⟨#[],args,[]⟩).memory:=
 laidMetH_of_parts3 (fuel:=8) (laidMet_of_run' 8 (by kernel_rfl) (by kernel_rfl)) (by kernel_rfl) (by kernel_rfl)
end Go.Proofs.YtpckgfbgijdfnaaGreatDoor
