/- Part of the proof: QUF. Conditions: as each statement tells. -/
import Derived.KernelRfl
import Derived.Test.YtojedkpkkiecfaaGreatDoorRows
import Derived.ProofKit
import Derived.LaidMore
import Derived.LaidLaws
import Derived.LaidHandle
import Derived.LaidByTextLater
import Derived.OpenShut
import Derived.Handed
import Derived.Test.YtojedkpkkiecfaaGreatDoorMG
noncomputable section
set_option linter.unusedSimpArgs false
set_option linter.unusedVariables false
open BitVec renaming ofInt→a00,xor_assoc→a16,toNat_ofInt→a29,getLsbD_ushiftRight→a35,toNat_and→a48,msb_eq_getLsbD_last→a58,eq_of_getLsbD_eq→a64,xor_comm→a65,getLsbD→a69,toNat_or→a90,xor_zero→a94
open Bool renaming and_self→a02,not_false→a41,true_and→a59,eq_false_iff→a81
open Int renaming natCast_nonneg→a04,tdiv→a25,toNat→a32,tmod→a46,fdiv_eq_ediv_of_nonneg→a56,natCast_mul→a92
open List renaming range→a01,replicate→a05,length_map→a07,length→a09,nil_append→a20,length_nil→a21,getElem_mem→a23,map_cons→a26,map_congr_left→a27,ext_getElem→a28,flatMap_cons→a33,map_map→a34,take→a36,all_cons→a37,range_succ→a38,mem_map→a39,mem_range→a42,range_add→a43,drop→a44,foldl_append→a45,take_length→a47,not_mem_nil→a49,getElem?_drop→a54,filter_append→a55,cons_append→a61,length_drop→a62,length_take→a63,foldl_cons→a66,eq_replicate_iff→a68,mem_of_mem_take→a70,mem_of_mem_drop→a71,flatMap_append→a74,getD_cons_succ→a75,getElem?_map→a82,mem_flatMap→a84,append→a86,getElem_map→a87,filter_cons→a89,append_nil→a93,append_eq→a97,getD→a98
open Nat renaming mul_le_mul_right→a03,mul_le_mul→a06,lt_trans→a08,le_refl→a19,mod_lt→a22,mod_eq_of_lt→a24,zero_add→a30,and_two_pow_sub_one_eq_mod→a31,mul_comm→a40,pow_le_pow_right→a50,sub_mod_eq_zero_of_mod_eq→a51,le_of_lt→a52,two_pow_add_eq_or_of_lt→a53,mul_mod→a57,add_assoc→a60,div_lt_iff_lt_mul→a67,le_sub_one_of_lt→a72,div_lt_of_lt_mul→a73,pos_of_ne_zero→a76,eq_zero_or_pos→a77,mul_div_cancel→a78,pow_succ→a79,add_zero→a80,lt_succ_of_lt→a83,sub_mul→a85,div_eq_of_lt→a88,div_le_self→a91,mul_add_mod→a95,mul_add_div→a96
open Option renaming bind_eq_some_iff→a18
namespace Go.Ab
open IntKind(wrap)
def a8U(f:a1d)(l:List Sub):a1d:=(f.1,f.2.1,f.2.2.1,f.2.2.2.1,l,())
theorem c7M(f:a1d):a8U f f.2.2.2.2.1=f:=rfl
theorem b8U(f g:a1d)(e:Int){N:Nat}(d:N≤8){Z:List Int}:∀(rest:List PZ)(done:List Sub)(P:List Int),done.length+rest.length=N→(∀p∈rest,c7L f.2.1 p)→OkR P (a0N rest++Z)→
  y0s a7T (e,(N:Int),(done.length:Int),g,a8U f done,rdr P (a0N rest++Z),())=some (.inl (e,g,a8U f (done++rest.map (·.1)),rdr (P++a0N rest) Z,()))
 | [],done,P,hl,_,_=>by
  have a:done.length=N:=by simpa using hl
  rw[a,a0F (b:=Sum.inl (e,g,a8U f done,rdr P Z,())) (by simp only[a7T,dge,cF];rfl)];simp[a0N]
 |p::rest,done,P,hl,h,hok=>by
  rw[lC]at hl;obtain⟨n,l,o⟩:=h p (by simp);have c:a0N (p::rest)++Z=a8r p.1 p.2++(a0N rest++Z):=by simp[a0N]
  rw[c]at hok⊢;have j:=d2B n l o hok;have i:decide ((done.length:Int)<(N:Int))=true:=by simp;omega
  have z0:((0:Int) != 0)=false:=rfl;rw[a0E (s':=(e,(N:Int),(((done++[p.1]).length:Nat):Int),g,a8U f (done++[p.1]),rdr (P++a8r p.1 p.2) (a0N rest++Z),())) (by
   have k:b1O (rdr P (a8r p.1 p.2++(a0N rest++Z)),(a8U f done).2.1)=some (p.1,(0:Int),rdr (P++a8r p.1 p.2) (a0N rest++Z)):=j;simp only[a7T,i,cT,k,oB,z0,cF];rw[show(a8U f done).2.2.2.2.1=done from rfl,a0T (show done.length+1<2147483648 by omega),cT,a0C (show done.length<1000000 by omega)];rw[show(((done++[p.1]).length:Nat):Int)=((done.length+1:Nat):Int)from by simp];rfl)]
  rw[b8U f g e d rest (done++[p.1]) _ (by simp;omega) (fun q m=>h q (by simp[m])) hok.shift];simp[a0N]
theorem b7d{L:List Int}(f:a1z L)(a:L.length<500000000)(t:Int×(Int×Unit)):∀(k i:Nat),i+k=L.length→(∀j,i≤j→L.getD j 0=0)→
  y0s a3x ((L.length:Int),(i:Int),((wL L).1,t),())=some (.inl ((L.length:Int),((wL L).1,t),()))
 |0,i,h,_=>by
  obtain rfl:i=L.length:=by omega
  exact a0F (by simp only[a3x,dge,cF])
 |k+1,i,h,h0=>by
  have g:i<L.length:=by omega
  have z:((0:Int)==1)=false:=rfl;have b:wrap .i64 ((i:Int)+1)=((i+1:Nat):Int):=by rw[a0B (by omega)];omega
  rw[a0E (s':=((L.length:Int),((i+1:Nat):Int),((wL L).1,t),())) (by
   simp only[a3x,dlt g,cT];rw[b9W f (by omega) g t,h0 i (a19 _)];simp only[oB,z,cF,b])]
  exact b7d f a t k (i+1) (by omega) (fun j c=>h0 j (by omega))
theorem d0T(L:List Int)(k j:Nat)(h:L.length≤j):(L++a05 k 0).getD j 0=0:=by
 rw[lD,List.getElem?_append_right h,List.getElem?_replicate]
 split<;>rfl
theorem c1h{L:List Int}(h:a1z L):a1z (a2R L):=h.app fun _ hb=>.inl (List.mem_replicate.1 hb).2
theorem c9a{L:List Int}(f:a1z L)(c:L.length≤5600000):∃r,a5d (rdr L (a05 (a4X L.length) 0))=some r∧r.2.2.1=0:=by
 have hp:(a2R L).length=L.length+a4X L.length:=by simp[a2R]
 have a:a4X L.length<8:=by unfold a4X;omega
 have b:(a2R L).length%8=0:=by rw[hp];unfold a4X;omega
 have z0:((0:Int) != 0)=false:=rfl;have g:wrap .i64 (wrap .i64 (a25 (wrap .i64 ((L.length:Int)+7)) 8)*8)=((a2R L).length:Int):=by
  rw[a0B (n:=(L.length:Int)+7) (by omega),show a25 ((L.length:Int)+7) 8=(((L.length+7) / 8:Nat):Int)from by
   rw[show((L.length:Int)+7)=((L.length+7:Nat):Int)from by omega];rfl,a0B (n:=(((L.length+7) / 8:Nat):Int)) (by omega),a0B (by omega),hp]
  unfold a4X;omega
 have h:=b7d (c1h f) (by omega) ((L.length:Int),(0:Int),()) (a4X L.length) L.length (by omega) (fun j k=>d0T L _ j k);refine⟨((wL (a2R L)).1,((a2R L).length:Int),(0:Int),()),?_,rfl⟩;unfold a5d rdr;simp only[z0,cF,g];rw[show L++a05 (a4X L.length) 0=a2R L from rfl,h];rfl
theorem d8E{v:Int}(h:0≤v∧v<65536):bits .u16 .or (A0n .u16 (wrap .u16 (v / 256)) 8) (wrap .u16 (v%256))=v:=by
 rw[b2A,b2A];have e:A0n .u16 (v / 256%65536) 8=((v.toNat / 256*256:Nat):Int):=by
  show wrap .u16 (v / 256%65536*256)=_;rw[b2A];omega
 rw[e];have g:v%256%65536=((v.toNat%256:Nat):Int):=by omega
 rw[g];show wrap .u16 (((a00 16 ((v.toNat / 256*256:Nat):Int) ||| a00 16 ((v.toNat%256:Nat):Int)).toNat:Nat):Int)=_;have f:(a00 16 ((v.toNat / 256*256:Nat):Int)).toNat=v.toNat / 256*256:=by rw[a29];omega
 have k:(a00 16 ((v.toNat%256:Nat):Int)).toNat=v.toNat%256:=by rw[a29];omega
 rw[a90,f,k];have e:v.toNat / 256*256 ||| v.toNat%256=v.toNat / 256*256+v.toNat%256:=by
  have:=a53 (i:=8) (b:=v.toNat%256) (by omega) (v.toNat / 256)
  rw[show 2^8*(v.toNat / 256)=v.toNat / 256*256 from by omega]at this;exact this.symm
 rw[e,b2A];omega
theorem c2o{f:a1d}(O:a4u f=some true)(u:frP f)(t:((f.2.2.2.2.1.length:Nat):Int)=f.2.2.1.2.1){zs:List PZ}(B:zs.map (·.1)=f.2.2.2.2.1)(hp:∀p∈zs,c7L f.2.1 p)(z:(a0N zs).length≤5600000)
  {R:List Int}(V:R.length≤200000000):a6p (a4Y f (a0N zs)++R)=some (f,((a4Y f (a0N zs)).length:Int),(0:Int)):=by
 have P:=b4Q u z;have Q:=b7c (a9e f (a0N zs));have L:f.2.2.2.2.1.length≤8:=by have:=u.1.2.2.2.1;omega
 have N:=b5X (a0N zs);generalize hbd:a8T (a0N zs)=body at *;have c:a4Y f (a0N zs)=a9e f (a0N zs)++[a4q (a9e f (a0N zs)) / 256,a4q (a9e f (a0N zs))%256]:=rfl;have g:a9e f (a0N zs)=a1M f body.length++body:=by unfold a9e;rw[hbd]
 generalize hpb:a9e f (a0N zs)=pre at *;have o:a4Y f (a0N zs)++R=a1M f body.length++(body++([a4q pre / 256,a4q pre%256]++R)):=by rw[c,g];simp
 have m:(a4Y f (a0N zs)).length=pre.length+2:=by rw[c];simp
 have A:pre.length=(a1M f body.length).length+body.length:=by rw[g];simp
 have y:(a4Y f (a0N zs)++R).length=pre.length+2+R.length:=by rw[lN,m]
 have k:=c7K u (body:=body.length) (by omega) (R:=body++([a4q pre / 256,a4q pre%256]++R)) (by rw[←o,y];omega);rw[←o]at k;generalize hx:a4Y f (a0N zs)++R=x at *;have z0:((0:Int) != 0)=false:=rfl;have T:wrap .i64 (((a1M f body.length).length:Int)+(body.length:Int))=(pre.length:Int):=by rw[a0B (by omega)];omega
 have w2:wrap .i64 ((pre.length:Int)+2)=((pre.length+2:Nat):Int):=by rw[a0B (by omega)];omega
 have U:wrap .i64 ((pre.length:Int)+1)=((pre.length+1:Nat):Int):=by rw[a0B (by omega)];omega
 have C:decide ((x.length:Int)<((pre.length+2:Nat):Int))=false:=by simp;omega
 have D:decide ((0:Int)≤(pre.length:Int))=true:=by simp
 have E:decide ((pre.length:Int)≤(x.length:Int))=true:=by simp;omega
 have F:decide ((0:Int)≤((a1M f body.length).length:Int))=true:=by simp
 have G:decide (((a1M f body.length).length:Int)≤(pre.length:Int))=true:=by simp;omega
 have j:x=pre++([a4q pre / 256,a4q pre%256]++R):=by rw[←hx,c];simp
 have i:a36 pre.length x=pre:=by rw[j];simp
 have b:a44 (a1M f body.length).length pre=body:=by rw[g];simp
 have I:m0k x (pre.length:Int)=some (a4q pre / 256):=by rw[a0D (by omega)];congr 1;subst j;simp
 have K:m0k x ((pre.length+1:Nat):Int)=some (a4q pre%256):=by rw[a0D (by omega)];congr 1;subst j;simp
 have S:(a4q pre != bits .u16 .or (A0n .u16 (wrap .u16 (a4q pre / 256)) 8) (wrap .u16 (a4q pre%256)))=false:=by rw[d8E Q];exact bne_self_eq_false _
 have e:(a2R (a0N zs)).length<1000000000:=by omega
 have a:=d4b e;rw[show(wL (a2R (a0N zs))).1=body from hbd]at a;have v:OkR [] (a0N zs++a05 (a4X (a0N zs).length) 0):=⟨by rw[a20];exact c1h (c1f zs),by
  rw[a20];show(a2R (a0N zs)).length<_;omega⟩
 have h:=b8U f ((0:Int),(0:Int),((0:Int),(0:Int),(0:Int),()),([]:List a0G),([]:List Sub),()) (pre.length:Int) L zs [] [] (by rw[←B];simp) hp v;simp only[a20,a21,B,c7M]at h;have w:rdr [] (a2R (a0N zs))=rdr [] (a0N zs++a05 (a4X (a0N zs).length) 0):=rfl;obtain⟨r,q,s⟩:=c9a (c1f zs) z;have d:a2O (rdr (a0N zs) (a05 (a4X (a0N zs).length) 0))=some ((a4X (a0N zs).length:Int),rdr (a0N zs) (a05 (a4X (a0N zs).length) 0)):=by
  unfold a2O rdr
  have:(wL (a0N zs++a05 (a4X (a0N zs).length) 0)).1=body:=hbd
  simp only[this];have hp:(a2R (a0N zs)).length=(a0N zs).length+a4X (a0N zs).length:=by simp[a2R]
  rw[a0B (n:=8*(body.length:Int)) (by omega),a0B (by omega)];congr 2;omega
 have H:decide (((a4X (a0N zs).length:Nat):Int)≥8)=false:=by unfold a4X;simp;omega
 have M:a8U f []=c7J f:=rfl;have l:f.2.2.1.2.1=((f.2.2.2.2.1.length:Nat):Int):=t.symm;unfold a6p;rw[k];simp only[oB,z0,cF,T,w2,C,D,E,F,a02,cT,tN,i,b8R (show short pre by unfold short;omega),I,U,K,S,G,b,a,w];rw[show(c7J f).2.2.1.2.1=((f.2.2.2.2.1.length:Nat):Int)from l]
 erw[h]
 simp only[oB,d,H,cF,q,a0O,s,z0,O,bT,w2,m]
theorem b2X(x:Int):a9j x=some (a0A x):=by
 grind[a9j,a0A]
def a2T(c:List (List Int)):Prop:=1≤c.length∧c.length≤8∧(c.headD []).length≤4096∧c.all (fun r=>decide (r.length=(c.headD []).length)&&r.all a0A)=true
instance (c:List (List Int)):Decidable (a2T c):=by unfold a2T;infer_instance
theorem b3u{α:Type}{l:List α}{d:α}(h:0<l.length):l[0]=l.headD d:=by
 cases l with
 |nil=>grind
 |cons a l=>rfl
theorem c0A(c:List (List Int)):a7C c=some (decide (a2T c)):=by
 unfold a7C
 by_cases h1:((c.length:Nat):Int)<1
 have:¬ a2T c:=fun h=>by have:=h.1;omega
 simp_all
 by_cases h2:((c.length:Nat):Int) > 8
 have:¬ a2T c:=fun h=>by have:=h.2.1;omega
 simp_all;have b:0<c.length:=by omega
 have a:m0k c 0=some (c.headD []):=by rw[show(0:Int)=((0:Nat):Int)from rfl,a0D b,b3u (d:=[]) b]
 have l:decide (((c.length:Nat):Int)<1)=false:=by simp_all
 have m:decide (((c.length:Nat):Int) > 8)=false:=by simp_all
 simp only[l,m,cF,a,oB]
 by_cases h3:(((c.headD []).length:Nat):Int) > 4096
 rw[decide_eq_true h3,decide_eq_false (show ¬ a2T c from fun h=>by have:=h.2.2.1;omega)];rfl;have n:decide ((((c.headD []).length:Nat):Int) > 4096)=false:=by simp_all
 simp only[n,cF];have g:∀(i:Nat)(r:List Int),short r→y0s a4C (c,c,(c.length:Int),(i:Int),r,(r.length:Int),(0:Int),())=some (bif r.all a0A then Sum.inl (c,c,(c.length:Int),(i:Int),())else Sum.inr (false,())):=fun i r s=>by
  have:=a2c (f:=a4C) r (fun j=>(c,c,(c.length:Int),(i:Int),r,(r.length:Int),(j:Int),())) a0A (bt:=Sum.inl (c,c,(c.length:Int),(i:Int),())) (bf:=Sum.inr (false,()))
   (fun j h hp=>by simp only[a4C,dlt h,cT,a0D h,oB,b2X,hp,bT,cF,a0C (a08 h s)])
   (fun j h hp=>by simp_all[a4C,a0D,b2X])
   (by simp_all[a4C])
  omega
 have k:=a2c (f:=a4D) c (fun i=>(c,c,(c.length:Int),(i:Int),())) (fun r=>decide (r.length=(c.headD []).length)&&r.all a0A) (bt:=Sum.inl ()) (bf:=Sum.inr (false,()))
  (fun i h hp=>by
   simp only[bA,dT]at hp;have e:((((c[i]).length:Nat):Int) != (((c.headD []).length:Nat):Int))=false:=by simp_all
   have hi:=g i c[i] (by unfold short;omega);rw[hp.2,cT]at hi;simp only[a4D,dlt h,cT,a0D h,oB,a,e,cF,hi,a0C (show i<1000000 by omega)])
  (fun i h hp=>by
   by_cases hl:(c[i]).length=(c.headD []).length
   have e:((((c[i]).length:Nat):Int) != (((c.headD []).length:Nat):Int))=false:=by simp_all
   have hi:=g i c[i] (by unfold short;omega);rw[decide_eq_true hl,a59]at hp;rw[hp,cF]at hi;simp_all[a4D,a0D];have e:((((c[i]).length:Nat):Int) != (((c.headD []).length:Nat):Int))=true:=by grind
   simp only[a4D,dlt h,cT,a0D h,oB,a,e])
  (by simp_all[a4D])
 simp only[nZ]at k;rw[k];have o:1≤c.length:=by omega
 have p:c.length≤8:=by omega
 have q:(c.headD []).length≤4096:=by omega
 by_cases hA:c.all (fun r=>decide (r.length=(c.headD []).length)&&r.all a0A)=true
 rw[hA,decide_eq_true (show a2T c from⟨o,p,q,hA⟩)];rfl;rw[a81.2 hA,decide_eq_false (show ¬ a2T c from fun h=>hA h.2.2.2)];rfl
def a3D(c:List (List Int))(n:Nat):Prop:=∀r∈c,r.length=n∧r.all a0A=true
theorem c6c{c:List (List Int)}(h:a2T c):a3D c (c.headD []).length:=fun r g=>by
 have:=lA.1 h.2.2.2 r g
 simp_all
theorem b7K{c:List (List Int)}{n:Nat}(h:a3D c n)(g:1≤c.length)(f:c.length≤8)(b:n≤4096):a2T c:=by
 have a:(c.headD []).length=n:=by
  rw[←b3u (d:=[]) (show 0<c.length by omega)];exact(h _ (a23 _)).1
 refine⟨g,f,by omega,lA.2 fun r k=>?_⟩
 have:=h r k
 simp_all
theorem c1i{c:List (List Int)}{n:Nat}(h:a3D c n)(l:n≤5000)(j:c.length≤100):a7i c=some c:=by
 have:=a1N (f:=a6L) (β:=List (List Int)×Unit) c (fun i (a:List (List Int))=>(c,(c.length:Int),(i:Int),a,())) (fun a x=>.inl (a++[x])) (fun i a=>a.length=i) (fun a=>(a,()))
  (fun i hi a k=>⟨fun e g=>by
   simp at g;subst g;have m:=(h _ (a23 hi)).1;have d:∀y:List Int,List.set ([([]:List Int)]:List (List Int)) 0 y=[y]:=fun _=>rfl;refine⟨?_,by grind⟩;simp only[a6L,dlt hi,cT,a0D hi,oB,a8n (show short c[i]by unfold short;omega),d];rw[a0T (by grind),cT,a0C (show i<1000000 by omega)];rfl,fun b hb=>by grind⟩)
  (fun a k=>by simp_all[a6L]) (a:=[]) rfl
 simp_all[b1l,a7i,a8k]
def a8V(sign g:Int)(x y:Int):Int:=y+sign*(g*x / 256)
def a9I(sign g:Int)(xs ys:List Int):List Int:=List.zipWith (a8V sign g) xs ys
theorem d0U(sign g:Int){xs ys:List Int}(h:xs.length=ys.length):(a9I sign g xs ys).length=ys.length:=by simp[a9I,h]
theorem d0V{sign g x y:Int}(b:sign=1∨sign=-1)(c:-1024≤g∧g≤1024)(k:a0A x=true)(a:a0A y=true):
  wrap .i64 (y+wrap .i64 (sign*A0o .i64 (wrap .i64 (g*x)) 8))=a8V sign g x y:=by
 have k:=a1O.1 k;have a:=a1O.1 a;have f:-1099511627776≤g*x∧g*x≤1099511627776:=by
  have f:g.natAbs≤1024:=by omega
  have h:x.natAbs≤1073741824:=by omega
  have:=a06 f h
  rw[←Int.natAbs_mul]at this;omega
 rw[a0B (n:=g*x) (by omega)];have h:A0o .i64 (g*x) 8=g*x / 256:=by
  unfold A0o;show(g*x).fdiv (2^8)=_
  grind
 rw[h];unfold a8V;rcases b with rfl|rfl
 all_goals grind[a0B]
theorem b1L{α:Type}(c:List α){a b:Nat}(h:a≠b)(y d:α):(c.set b y).getD a d=c.getD a d:=by
 grind
theorem a7I{α:Type}(c:List α){b:Nat}(h:b<c.length)(y d:α):(c.set b y).getD b d=y:=by
 simp_all
theorem b8V{c:List (List Int)}{s:a0G}{sign:Int}(g:sign=1∨sign=-1)(b:-1024≤s.2.2.1∧s.2.2.1≤1024)(a0:0≤s.1)(i:0≤s.2.1)(f:s.1.toNat≠s.2.1.toNat)(hb:s.2.1.toNat<c.length)(k:s.2.1<(c.length:Int))
  {xs:List Int}(a:c.getD s.1.toNat []=xs)(w:xs.length≤5000):∀(sx suf px pre:List Int),px++sx=xs→px.length=pre.length→sx.length=suf.length→sx.all a0A=true→suf.all a0A=true→
  if(a9I sign s.2.2.1 sx suf).all a0A=true then
   y0s a3O (sign,(xs.length:Int),(pre.length:Int),c.set s.2.1.toNat (pre++suf),s,((s.1.toNat:Nat):Int),())=some (.inl (c.set s.2.1.toNat (pre++a9I sign s.2.2.1 sx suf),()))
  else ∃c',y0s a3O (sign,(xs.length:Int),(pre.length:Int),c.set s.2.1.toNat (pre++suf),s,((s.1.toNat:Nat):Int),())=some (.inr (false,c',()))
 | [],suf,px,pre,hx,hp,hl,_,_=>by
  have e:suf=[]:=List.length_eq_zero_iff.1 hl.symm;subst e;have p:pre.length=xs.length:=by simp_all
  rw[if_pos (by rfl),p];exact a0F (by simp only[a3O,dge,cF];rfl)
 |x::sx,[],px,pre,_,_,hl,_,_=>by simp_all
 |x::sx,y::suf,px,pre,hx,hp,hl,hwx,hwy=>by
  simp only[a37,bA]at hwx hwy;have v:pre.length<xs.length:=by grind
  have q:(c.set s.2.1.toNat (pre++y::suf)).getD (a32 ((s.1.toNat:Nat):Int)) []=xs:=by grind
  have r:(c.set s.2.1.toNat (pre++y::suf)).getD s.2.1.toNat []=pre++y::suf:=a7I _ hb _ _;have t:a98 xs (a32 (pre.length:Int)) 0=x:=by grind
  have u:a98 (pre++y::suf) (a32 (pre.length:Int)) 0=y:=by simp
  have j:decide ((0:Int)≤(pre.length:Int))=true:=by simp
  have l:decide ((pre.length:Int)<(xs.length:Int))=true:=by simp_all
  have m:decide ((0:Int)≤s.2.1)=true:=by simp_all
  have n:decide (s.2.1<(((c.set s.2.1.toNat (pre++y::suf)).length:Nat):Int))=true:=by simp_all
  have o:decide ((pre.length:Int)<(((pre++y::suf).length:Nat):Int))=true:=by grind
  have hv:=d0V g b hwx.1 hwy.1;have z:wrap .i64 ((pre.length:Int)+1)=((pre.length+1:Nat):Int):=a0C (by omega);have A:a9I sign s.2.2.1 (x::sx) (y::suf)=a8V sign s.2.2.1 x y::a9I sign s.2.2.1 sx suf:=rfl;have d:List.set (c.set s.2.1.toNat (pre++y::suf)) s.2.1.toNat (List.set (pre++y::suf) (a32 (pre.length:Int)) (a8V sign s.2.2.1 x y))=c.set s.2.1.toNat ((pre++[a8V sign s.2.2.1 x y])++suf):=by
   simp
  have h:a3O (sign,(xs.length:Int),(pre.length:Int),c.set s.2.1.toNat (pre++y::suf),s,((s.1.toNat:Nat):Int),()) =
    bif !(a0A (a8V sign s.2.2.1 x y))then some (.inr (Sum.inr (false,c.set s.2.1.toNat (pre++y::suf),())))
    else some (.inl (sign,(xs.length:Int),((pre.length+1:Nat):Int),c.set s.2.1.toNat ((pre++[a8V sign s.2.2.1 x y])++suf),s,((s.1.toNat:Nat):Int),())):=by
   simp only[a3O,l,cT,q,r,j,a02,m,n,o,t,u,b2X,hv,oB,z]
   simp
  cases hwv:a0A (a8V sign s.2.2.1 x y)with
  |false=>
   simp_all[a0F]
  |true=>
   rw[hwv]at h;have B:=b8V g b a0 i f hb k a w sx suf (px++[x]) (pre++[a8V sign s.2.2.1 x y]) (by simp_all) (by grind) (by simp_all) hwx.2 hwy.2;rw[a0E h,A];simp_all
def a3V(sign:Int)(s:a0G)(c:List (List Int)):Option (List (List Int)):=
 let r:=a9I sign s.2.2.1 (c.getD s.1.toNat []) (c.getD s.2.1.toNat [])
 if r.all a0A=true then some (c.set s.2.1.toNat r)else none
theorem a8t{c:List (List Int)}{n:Nat}(h:a3D c n){i:Nat}(hi:i<c.length):(c.getD i []).length=n∧(c.getD i []).all a0A=true:=by
 rw[lD,lG hi];exact h _ (a23 hi)
theorem c4a{c:List (List Int)}{n:Nat}(a:a3D c n)(w:n≤5000){s:a0G}(p:a2L (c.length:Int) s=true){sign:Int}(k:sign=1∨sign=-1):
  ∃b f,a8d (c,s,sign)=some (b,f)∧match a3V sign s c with|some r=>b=true∧f=r|none=>b=false:=by
 obtain⟨a1,u,d,e,v,j,l⟩:=a3i.1 p;have q:=a8t a (i:=s.1.toNat) (by omega);have t:=a8t a (i:=s.2.1.toNat) (by omega);have hb:s.2.1.toNat<c.length:=by omega
 have g:c.set s.2.1.toNat (c.getD s.2.1.toNat [])=c:=by
  simp_all
 have:=b8V k ⟨j,l⟩ a1 d (by omega) hb e (rfl:c.getD s.1.toNat []=_) (by omega) (c.getD s.1.toNat []) (c.getD s.2.1.toNat []) [] [] rfl rfl (by omega) q.2 t.2
 rw[a20,g]at this;simp only[a21,nZ,a20,Int.cast_ofNat_Int]at this;have m:decide ((0:Int)≤s.1)=true:=by simp_all
 have o:decide (s.1<(c.length:Int))=true:=by simp_all
 unfold a8d a3V;simp only[m,o,a02,cT]
 by_cases hA:(a9I sign s.2.2.1 (c.getD s.1.toNat []) (c.getD s.2.1.toNat [])).all a0A=true
 simp_all;rw[if_neg hA]at this⊢;obtain⟨f,h⟩:=this;simp_all
theorem b2r{c c':List (List Int)}{n:Nat}(g:a3D c n){s:a0G}(k:a2L (c.length:Int) s=true){sign:Int}(h:a3V sign s c=some c'):a3D c' n∧c'.length=c.length:=by
 obtain⟨a1,a,b,d,e,j,l⟩:=a3i.1 k;have o:=a8t g (i:=s.1.toNat) (by omega);have p:=a8t g (i:=s.2.1.toNat) (by omega);unfold a3V at h;simp only at h
 split at h
 rename_i m;cases h;refine⟨fun r f=>?_,by simp⟩;rcases List.mem_or_eq_of_mem_set f with f|rfl;exact g r f;simp_all[d0U];simp_all
theorem c4b(g:Int):∀xs ys:List Int,xs.length=ys.length→a9I (-1) g xs (a9I 1 g xs ys)=ys
 | [],[],_=>rfl
 |x::xs,y::ys,h=>by
  have f:=c4b g xs ys (by simpa using h);show a8V (-1) g x (a8V 1 g x y)::a9I (-1) g xs (a9I 1 g xs ys)=_;rw[f];unfold a8V;congr 1;omega
 | [],_::_,h=>by grind
 |_::_,[],h=>by rfl
theorem c9b{c c':List (List Int)}{n:Nat}(g:a3D c n){s:a0G}(f:a2L (c.length:Int) s=true)(h:a3V 1 s c=some c'):a3V (-1) s c'=some c:=by
 obtain⟨a1,a,b,d,e,j,l⟩:=a3i.1 f;have m:=a8t g (i:=s.1.toNat) (by omega);have k:=a8t g (i:=s.2.1.toNat) (by omega);have hb:s.2.1.toNat<c.length:=by omega
 unfold a3V at h;simp only at h
 split at h
 cases h;unfold a3V;simp only;rw[b1L _ (show s.1.toNat≠s.2.1.toNat by omega),a7I _ hb,c4b _ _ _ (by omega),if_pos k.2,List.set_set];simp_all;simp_all
def doO:List a0G→List (List Int)→Option (List (List Int))
 | [],c=>some c
 |s::l,c=>(a3V 1 s c).bind (doO l)
def b0R:List a0G→List (List Int)→Option (List (List Int))
 | [],c=>some c
 |s::l,c=>(b0R l c).bind (a3V (-1) s)
theorem b2B{n:Nat}{N:Nat}:∀(l:List a0G){c c':List (List Int)},a3D c n→c.length=N→l.all (a2L (N:Int))=true→doO l c=some c'→a3D c' n∧c'.length=N
 | [],c,c',hc,hl,_,h=>by cases h;simp_all
 |s::l,c,c',hc,hl,hs,h=>by
  simp only[a37,bA]at hs;simp[doO,a18]at h;obtain⟨d,g,f⟩:=h;obtain⟨k,a⟩:=b2r hc (by simp_all) g;exact b2B l k (by omega) hs.2 f
theorem c6d{n:Nat}{N:Nat}:∀(l:List a0G){c c':List (List Int)},a3D c n→c.length=N→l.all (a2L (N:Int))=true→doO l c=some c'→b0R l c'=some c
 | [],c,c',_,_,_,h=>by cases h;rfl
 |s::l,c,c',hc,hl,hs,h=>by
  simp only[a37,bA]at hs;simp only[doO,a18]at h;obtain⟨d,g,f⟩:=h;obtain⟨k,a⟩:=b2r hc (by rw[hl];exact hs.1) g;simp only[b0R];rw[c6d l k (by omega) hs.2 f];exact c9b hc (by rw[hl];exact hs.1) g
def b7L:Option (List (List Int))→List (List Int)×Int
 |some r=>(r,0)
 |none=>([],6)
theorem c6e{n N:Nat}(a:n≤5000){l:List a0G}(m:l.length≤16)(j:l.all (a2L (N:Int))=true):∀(k i:Nat)(c:List (List Int)),i+k=l.length→a3D c n→c.length=N→
  y0s a8h (l,(l.length:Int),(i:Int),c,())=some (match doO (l.drop i) c with|some r=>Sum.inl (r,())|none=>Sum.inr ([],6,()))
 |0,i,c,h,_,_=>by
  obtain rfl:i=l.length:=by omega
  rw[List.drop_length];exact a0F (by simp only[a8h,dge,cF];rfl)
 |k+1,i,c,h,hc,hcl=>by
  have hi:i<l.length:=by omega
  rw[List.drop_eq_getElem_cons hi];have d:a2L (c.length:Int) l[i]=true:=by grind
  obtain⟨b,g,e,f⟩:=c4a hc a d (sign:=1) (.inl rfl);simp[doO];cases hst:a3V 1 l[i] c with
  |none=>
   simp_all[a0F,a8h,a0D]
  |some r=>
   rw[hst]at f;obtain⟨rfl,rfl⟩:=f;obtain⟨o,p⟩:=b2r hc d hst;rw[a0E (s':=(l,(l.length:Int),((i+1:Nat):Int),g,())) (by
    simp only[a8h,dlt hi,cT,a0D hi,oB,e,bT,cF,a0C (show i<1000000 by omega)])]
   rw[c6e a m j k (i+1) g (by omega) o (by omega)];rfl
theorem c2t(c:List (List Int))(l:List a0G):b1P (c,l)=some (if a2T c∧a5k l (c.length:Int)then b7L (doO l c)else([],1)):=by
 unfold b1P;simp only[c0A,oB]
 by_cases hq:a2T c
 have h:=c6c hq;simp only[hq,decide_true,bT,cF,b3M,oB,true_and]
 by_cases hm:a5k l (c.length:Int)
 simp[hm];rw[c1i h (by have:=hq.2.2.1;omega) (by have:=hq.2.1;omega)]
 have:=c6e (N:=c.length) (by have:=hq.2.2.1;omega:(c.headD []).length≤5000) hm.2.2.1 hm.2.2.2 l.length 0 c (by omega) h rfl
 simp at this
 simp
 erw[this]
 cases doO l c<;>rfl;simp_all;simp_all
theorem b8W(s:a0G):∀(l:List a0G)(c:List (List Int)),b0R (l++[s]) c=(a3V (-1) s c).bind (b0R l)
 | [],c=>by
  show a3V (-1) s c=_;cases a3V (-1) s c<;>rfl
 |t::l,c=>by
  simp only[a61,b0R,b8W s l];cases a3V (-1) s c<;>rfl
theorem c1j{n N:Nat}(g:n≤5000){l:List a0G}(i:l.all (a2L (N:Int))=true)(z:List (List Int))(e:Int):∀(k:Nat)(c:List (List Int)),k≤l.length→a3D c n→c.length=N→
  match b0R (l.take k) c with
  |some r=>l0f a6n l k (l,z,e,c,())=some (.inl (l,z,e,r,()))
  |none=>∃d,l0f a6n l k (l,z,e,c,())=some (.inr (.ret,l,[],6,d,()))
 |0,c,_,_,_=>rfl
 |k+1,c,hk,hc,hcl=>by
  have hi:k<l.length:=by omega
  have f:a2L (c.length:Int) l[k]=true:=by grind
  obtain⟨b,a,m,h⟩:=c4a hc g f (sign:=-1) (.inr rfl);rw[List.take_succ_eq_append_getElem hi,b8W];cases hst:a3V (-1) l[k] c with
  |none=>
   simp_all[l0f,a6n]
  |some r=>
   rw[hst]at h;obtain⟨rfl,rfl⟩:=h;obtain⟨j,p⟩:=b2r hc f hst;have o:=c1j g i z e k a (by omega) j (by omega);simp_all[l0f,a6n]
theorem d2C(c:List (List Int))(l:List a0G):b1r (c,l)=some (if a2T c∧a5k l (c.length:Int)then b7L (b0R l c)else([],1)):=by
 unfold b1r;simp only[c0A,oB]
 by_cases hq:a2T c
 ·have h:=c6c hq;simp only[hq,decide_true,bT,cF,b3M,oB,true_and]
  by_cases hm:a5k l (c.length:Int)
  ·simp[hm];rw[c1i h (by have:=hq.2.2.1;omega) (by have:=hq.2.1;omega)]
   have:=c1j (N:=c.length) (by have:=hq.2.2.1;omega:(c.headD []).length≤5000) hm.2.2.2 [] 0 l.length c (a19 _) h rfl
   rw[a47]at this;simp[a0T (show l.length<2147483648 by have:=hm.2.2.1;omega)];cases hu:b0R l c with
   |some r=>
    rw[hu]at this;simp only at this
    erw[this]
    rfl
   |none=>
    rw[hu]at this;obtain⟨d,g⟩:=this
    erw[g]
    rfl
  simp_all
 simp_all
def a0K(b:a1b):Nat:=(b.2.1.headD []).length
theorem a4Z(b:a1b):a3u b=some ((a0K b:Nat):Int):=by
 unfold a3u a0K;obtain⟨d,c,u⟩:=b;cases c with
 |nil=>rfl
 |cons r c=>
  rfl
def a1W(b:a1b):Prop:=4≤b.1∧b.1≤24∧1≤b.2.1.length∧b.2.1.length≤8∧1≤a0K b∧a0K b≤4096∧b.2.1.all (fun r=>decide (r.length=a0K b)&&r.all fun x=>a1h x b.1)=true
instance (b:a1b):Decidable (a1W b):=by unfold a1W;infer_instance
theorem b2Y{x w:Int}(h:4≤w∧w≤24):a2e (x,w)=some (a1h x w):=by
 have:=a6A (x:=x) (w:=w.toNat) (by omega)
 grind
theorem a6D(b:a1b):a3v b=some (decide (a1W b)):=by
 unfold a3v a7b
 by_cases h1:4≤b.1
 rotate_left;rw[decide_eq_false (show ¬ a1W b from fun h=>h1 h.1),decide_eq_false h1];rfl
 by_cases h2:b.1≤24
 rotate_left;rw[decide_eq_false (show ¬ a1W b from fun h=>h2 h.2.1),decide_eq_true h1,decide_eq_false h2];rfl
 by_cases h3:((b.2.1.length:Nat):Int)<1
 rw[decide_eq_false (show ¬ a1W b from fun h=>by have:=h.2.2.1;omega),decide_eq_true h1,decide_eq_true h2,decide_eq_true h3];rfl
 by_cases h4:((b.2.1.length:Nat):Int) > 8
 rw[decide_eq_false (show ¬ a1W b from fun h=>by have:=h.2.2.2.1;omega),decide_eq_true h1,decide_eq_true h2,decide_eq_false h3,decide_eq_true h4];rfl;have a:decide (((b.2.1.length:Nat):Int)<1)=false:=by simp_all
 have c:decide (((b.2.1.length:Nat):Int) > 8)=false:=by simp_all
 simp only[decide_eq_true h1,decide_eq_true h2,a,c,cT,cF,oB,bT,a4Z]
 by_cases h5:((a0K b:Nat):Int)<1
 rw[decide_eq_false (show ¬ a1W b from fun h=>by have:=h.2.2.2.2.1;omega),decide_eq_true h5];rfl
 by_cases h6:((a0K b:Nat):Int) > 4096
 rw[decide_eq_false (show ¬ a1W b from fun h=>by have:=h.2.2.2.2.2.1;omega),decide_eq_false h5,decide_eq_true h6];rfl;have d:decide (((a0K b:Nat):Int)<1)=false:=by simp_all
 have l:decide (((a0K b:Nat):Int) > 4096)=false:=by simp_all
 simp[d,l];have g:∀(i:Nat)(r:List Int),short r→y0s a4x (b.2.1,(b.2.1.length:Int),(i:Int),r,(r.length:Int),(0:Int),b,())=some (bif r.all (fun x=>a1h x b.1)then Sum.inl (b.2.1,(b.2.1.length:Int),(i:Int),b,())else Sum.inr (false,())):=fun i r m=>by
  have:=a2c (f:=a4x) r (fun j=>(b.2.1,(b.2.1.length:Int),(i:Int),r,(r.length:Int),(j:Int),b,())) (fun x=>a1h x b.1) (bt:=Sum.inl (b.2.1,(b.2.1.length:Int),(i:Int),b,())) (bf:=Sum.inr (false,()))
   (fun j h hp=>by simp only[a4x,dlt h,cT,a0D h,oB,b2Y ⟨h1,h2⟩,hp,bT,cF,a0C (a08 h m)])
   (fun j h hp=>by simp_all[a4x,a0D,b2Y])
   (by simp_all[a4x])
  omega
 have k:=a2c (f:=a4y) b.2.1 (fun i=>(b.2.1,(b.2.1.length:Int),(i:Int),b,())) (fun r=>decide (r.length=a0K b)&&r.all fun x=>a1h x b.1) (bt:=Sum.inl ()) (bf:=Sum.inr (false,()))
  (fun i h hp=>by
   simp only[bA,dT]at hp;have e:((((b.2.1[i]).length:Nat):Int) != ((a0K b:Nat):Int))=false:=by simp_all
   have hi:=g i b.2.1[i] (by unfold short;omega);rw[hp.2,cT]at hi;simp only[a4y,dlt h,cT,a0D h,oB,a4Z,e,cF,hi,a0C (show i<1000000 by omega)])
  (fun i h hp=>by
   by_cases hl:(b.2.1[i]).length=a0K b
   have e:((((b.2.1[i]).length:Nat):Int) != ((a0K b:Nat):Int))=false:=by simp_all
   have hi:=g i b.2.1[i] (by unfold short;omega);rw[decide_eq_true hl,a59]at hp;rw[hp,cF]at hi;simp_all[a4y,a0D,a4Z];have e:((((b.2.1[i]).length:Nat):Int) != ((a0K b:Nat):Int))=true:=by grind
   simp only[a4y,dlt h,cT,a0D h,oB,a4Z,e])
  (by simp_all[a4y])
 simp at k;rw[k]
 by_cases hA:b.2.1.all (fun r=>decide (r.length=a0K b)&&r.all fun x=>a1h x b.1)=true
 rw[hA,decide_eq_true (show a1W b from⟨h1,h2,by omega,by omega,by omega,by omega,hA⟩)];rfl;rw[a81.2 hA,decide_eq_false (show ¬ a1W b from fun h=>hA h.2.2.2.2.2.2)];rfl
def a7N{α β:Type}(g:α→Option β):List α→Option (List β)
 | []=>some []
 |a::l=>(g a).bind fun b=>(a7N g l).bind fun r=>some (b::r)
theorem b7M{α β:Type}{g:α→Option β}:∀{l:List α}{r:List β},a7N g l=some r→r.length=l.length
 | [],r,h=>by cases h;rfl
 |a::l,r,h=>by
  simp only[a7N,a18]at h;obtain⟨b,-,c,f,k⟩:=h;cases k;simp[b7M f]
theorem c1k{α β:Type}{g:α→Option β}:∀{l:List α}{r:List β},a7N g l=some r→∀a∈l,(g a).isSome=true
 | [],r,h,a,ha=>by cases ha
 |a::l,r,h,x,hx=>by
  simp only[a7N,a18]at h;obtain⟨b,f,d,k,c⟩:=h;rcases mC.1 hx with rfl|hx;rw[f];rfl;exact c1k k x hx
def a9r(f:a1d):Option a1b:=
 if frP f∧((f.2.2.2.2.1.length:Nat):Int)=f.2.2.1.2.1 then
  (a7N (fun s=>a2u s f.2.1) f.2.2.2.2.1).bind fun rs=>
   if a2T rs∧a5k f.2.2.2.1 (rs.length:Int)then
    (b0R f.2.2.2.1 rs).bind fun ch=>if a1W (f.2.2.1.2.2.1,ch,())then some (f.2.2.1.2.2.1,ch,())else none
   else none
 else none
def b1U:a1b:=(0,[],())
def d8F:Option a1b→a1b×Int
 |some b=>(b,0)
 |none=>(b1U,1)
theorem b7e(f:a1d)(all:List Sub)(d:all.length≤8):∀(rest done:List Sub)(rows:List (List Int)),done++rest=all→rows.length=done.length→(∀s∈rest,SmallS s)→
  y0s a4M (all,(all.length:Int),(done.length:Int),rows,b1U,f,())=some (match a7N (fun s=>a2u s f.2.1) rest with|some rs=>Sum.inl (rows++rs,b1U,f,())|none=>Sum.inr (1,b1U,()))
 | [],done,rows,hd,hr,_=>by
  have e:done=all:=by simpa using hd
  subst e;rw[a0F (b:=Sum.inl (rows,b1U,f,())) (by simp only[a4M,dge,cF])];simp[a7N]
 |s::rest,done,rows,hd,hr,h=>by
  have i:=h s (by simp);have k:done.length<all.length:=by rw[←hd];simp
  have a:m0k all (done.length:Int)=some s:=by rw[a0D k];subst hd;simp
  have g:=b8p i f.2.1;simp only[a7N];cases ho:a2u s f.2.1 with
  |none=>
   rw[ho]at g;have b1:((1:Int) != 0)=true:=rfl;exact a0F (by simp only[a4M,dlt k,cT,a,oB,g,b1];rfl)
  |some r=>
   rw[ho]at g;have c:((0:Int) != 0)=false:=rfl;rw[a0E (s':=(all,(all.length:Int),(((done++[s]).length:Nat):Int),rows++[r],b1U,f,())) (by
    simp only[a4M,dlt k,cT,a,oB,g,c,cF,a0T (show rows.length+1<2147483648 by omega),a0C (show done.length<1000000 by omega)]
    simp)]
   rw[b7e f all d rest (done++[s]) (rows++[r]) (by simpa using hd) (by simp[hr]) (fun t j=>h t (by simp[j]))];simp only[oB];cases a7N (fun s=>a2u s f.2.1) rest<;>simp
theorem b7N{f:a1d}(b:∀s∈f.2.2.2.2.1,SmallS s):a2f f=some (d8F (a9r f)):=by
 unfold a2f a9r;simp only[b4g,oB]
 by_cases hf:frP f
 rotate_left;simp only[hf,decide_false,a41,cT,oB,false_and,if_false];rfl
 by_cases hl:((f.2.2.2.2.1.length:Nat):Int)=f.2.2.1.2.1
 rotate_left;have e:(((f.2.2.2.2.1.length:Nat):Int) != f.2.2.1.2.1)=true:=by simpa using hl
 simp only[hf,decide_true,bT,cF,oB,e,cT,hl,and_false,if_false];rfl;have e:(((f.2.2.2.2.1.length:Nat):Int) != f.2.2.1.2.1)=false:=by simpa using hl
 have a:f.2.2.2.2.1.length≤8:=by have:=hf.1.2.2.2.1;omega
 have k:decide ((0:Int)≤((f.2.2.2.2.1.length:Nat):Int))=true:=by simp
 have h:=b7e f f.2.2.2.2.1 a f.2.2.2.2.1 [] [] rfl rfl b;rw[a21]at h;rw[if_pos ⟨hf,hl⟩];simp only[hf,decide_true,bT,cF,oB,e,k,tN,a0T (show f.2.2.2.2.1.length<2147483648 by omega),a02,cT]
 erw[h]
 cases hm:a7N (fun s=>a2u s f.2.1) f.2.2.2.2.1 with
 |none=>rfl
 |some rs=>
  simp only[oB,a20,d2C]
  by_cases hq:a2T rs∧a5k f.2.2.2.1 (rs.length:Int)
  ·simp only[if_pos hq];cases hu:b0R f.2.2.2.1 rs with
   |none=>rfl
   |some ch=>
    have g:((0:Int) != 0)=false:=rfl;simp only[b7L,g,cF,a6D,oB]
    by_cases hb:a1W (f.2.2.1.2.2.1,ch,())
    simp only[hb,decide_true,bT,cF,if_true];rfl;simp only[hb,decide_false,a41,cT,if_false];rfl
  simp only[if_neg hq];rfl
theorem d4e{f:a1d}(h:∀s∈f.2.2.2.2.1,SmallS s):a4u f=some (a9r f).isSome:=by
 unfold a4u;rw[b7N h];cases a9r f<;>rfl
theorem b2Z{f:a1d}{b:a1b}(h:a9r f=some b):frP f∧((f.2.2.2.2.1.length:Nat):Int)=f.2.2.1.2.1∧∀s∈f.2.2.2.2.1,(a2u s f.2.1).isSome=true:=by
 unfold a9r at h
 split at h
 rename_i g;simp only[a18]at h;obtain⟨a,k,-⟩:=h;exact⟨g.1,g.2,c1k k⟩;cases h
theorem b8X{f:a1d}{b:a1b}(k:∀s∈f.2.2.2.2.1,SmallS s)(h:a9r f=some b):∃L,L.length≤5600000∧some ((L.length:Nat):Int)=f.2.2.2.2.1.foldr (fun s a=>a.bind fun a=>(a4l (s,f.2.1)).bind fun c=>some (c+a)) (some 0)∧
  a2F f=some (a4Y f L,0)∧(∀R:List Int,R.length≤200000000→a6p (a4Y f L++R)=some (f,((a4Y f L).length:Int),(0:Int))):=by
 obtain⟨g,j,l⟩:=b2Z h;have d:a4u f=some true:=by rw[d4e k,h];rfl
 have m:f.2.2.2.2.1.length≤8:=by have:=g.1.2.2.2.1;omega
 obtain⟨t,o,p,i,q,r⟩:=c3Z d g m (fun s e=>⟨k s e,l s e⟩);exact⟨a0N t,i,q,r,fun R n=>c2o d g j o p i n⟩
theorem b4R(x:a0G):eqT (.pair (.int .i64) (.pair (.int .i64) (.pair (.int .i64) .unit))) x x=true:=by
 show((x.1==x.1)&&((x.2.1==x.2.1)&&((x.2.2.1==x.2.2.1)&&true)))=true
 simp
theorem b5Y{x w:Int}(h:4≤w∧w≤24):b1Q (x,w)=some (a1h x w):=by
 have:=c5x (x:=x) (w:=w.toNat) (by omega)
 grind
theorem d2D{x w:Int}(b:4≤w∧w≤24)(h:a1h x w=true):-16777216≤x∧x≤16777216:=by
 unfold a1h at h;simp at h;obtain⟨-,-,f,g⟩:=h;obtain⟨o,k⟩:∃o:Nat,w-1=(o:Int):=⟨(w-1).toNat,by omega⟩;rw[k]at f g;rw[c3A (by omega)]at g;have hp:2^o≤2^24:=a50 (by omega) (by omega);have a:A0n .i64 (-1) (o:Int)=wrap .i64 (-((2^o:Nat):Int)):=by
  unfold A0n;show wrap .i64 (-1*2^(min (o:Int).toNat 64))=_
  grind
 grind[a0B]
theorem c9c{x w:Int}(g:4≤w∧w≤24)(h:a1h x w=true):a0A x=true:=a1O.2 (by have:=d2D g h;omega)
theorem b3a{b:a1b}(h:a1W b):a3D b.2.1 (a0K b)∧a2T b.2.1:=by
 obtain⟨k,a,c,d,e,i,g⟩:=h;have j:a3D b.2.1 (a0K b):=fun r f=>by
  have:=lA.1 g r f
  simp only[bA,dT]at this
  grind[c9c]
 grind[b7K]
theorem c7N{b:a1b}(hb:a1W b){l:List a0G}(c:a5k l (b.2.1.length:Int)){rows:List (List Int)}(n:doO l b.2.1=some rows){ss:List Sub}(q:a7N (fun s=>a2u s ((a0K b:Nat):Int)) ss=some rows)
  {start rate:Int}(h:0≤start∧start≤4194304-((a0K b:Nat):Int))(p:1≤rate∧rate≤1048576):
  a9r (start,((a0K b:Nat):Int),(rate,((b.2.1.length:Nat):Int),b.1,()),l,ss,())=some b:=by
 obtain⟨m,y⟩:=b3a hb;obtain⟨x,z⟩:=b2B l m rfl c.2.2.2 n;have o:=b7M q;obtain⟨e,i,r,t,u,j,v⟩:=hb;have a:frP (start,((a0K b:Nat):Int),(rate,((b.2.1.length:Nat):Int),b.1,()),l,ss,()):=⟨⟨p.1,p.2,by grind,by grind,e,i⟩,by grind,by grind,h.1,h.2,c⟩;have k:((ss.length:Nat):Int)=((b.2.1.length:Nat):Int):=by omega
 have g:a2T rows:=b7K x (by omega) (by omega) j;have d:a5k l ((rows.length:Nat):Int):=by simp_all
 have w:=c6d l m rfl c.2.2.2 n;have f:((b.1,b.2.1,()):a1b)=b:=rfl;unfold a9r;rw[if_pos ⟨a,k⟩];simp only[q,oB];rw[if_pos ⟨g,d⟩,w];simp only[oB,f];rw[if_pos ⟨e,i,r,t,u,j,v⟩]
def b8Y:a1d:=(0,0,(0,0,0,()),[],[],())
theorem d4f(k:Nat)(a:k≤62)(y:Int):∃v:Nat,bits .i64 .and y ((2^k-1:Nat):Int)=(v:Int)∧v<2^k:=by
 have hp:2^k≤2^62:=a50 (by omega) a;have f:0<2^k:=Nat.pow_pos (by omega);have h:((a00 64 y) &&& (a00 64 ((2^k-1:Nat):Int))).toNat=(a00 64 y).toNat%2^k:=by
  rw[a48];have e:(a00 64 ((2^k-1:Nat):Int)).toNat=2^k-1:=by
   rw[a29];generalize 2^k=p at *;omega
  rw[e,a31]
 have g:=a22 (a00 64 y).toNat f;refine⟨(a00 64 y).toNat%2^k,?_,g⟩;show wrap .i64 ((((a00 64 y) &&& (a00 64 ((2^k-1:Nat):Int))).toNat:Nat):Int)=_;rw[h];generalize (a00 64 y).toNat%2^k=z at *;exact a0B (by omega)
theorem b8Z(c:List (List Int))(n i:Int){r:List Int}(a:short r):∀(k j:Nat)(s:Int),2≤j→j+k=r.length∨(k=0∧r.length≤j)→∃s',y0s a6R (s,r,(j:Int),c,n,i,())=some (s',c,n,i,())
 |0,j,s,h2,h=>⟨s,a0F (by
   have d:decide ((j:Int)<(r.length:Int))=false:=by grind
   simp only[a6R,d,cF])⟩
 |k+1,j,s,h2,h=>by
  have f:j<r.length:=by omega
  unfold short at a;have b:wrap .i64 ((j:Int)-1)=((j-1:Nat):Int):=by grind[a0B]
  have e:wrap .i64 ((j:Int)-2)=((j-2:Nat):Int):=by grind[a0B]
  have m:=a0D (l:=r) (i:=j-1) (by omega);have o:=a0D (l:=r) (i:=j-2) (by omega);obtain⟨s',g⟩:=b8Z c n i a k (j+1) (wrap .i64 (s+v0r (wrap .i64 (wrap .i64 (r[j]-wrap .i64 (2*r[j-1]))+r[j-2])) (wrap .i64 (0-wrap .i64 (wrap .i64 (r[j]-wrap .i64 (2*r[j-1]))+r[j-2]))))) (by omega) (by omega);refine⟨s',?_⟩;rw[←g];exact a0E (by simp only[a6R,dlt f,cT,a0D f,oB,b,e,m,o,a0C (show j<1000000 by omega)])
theorem c1l{c:List (List Int)}{n:Nat}(h:a3D c n)(m:n≤4096)(l:c.length<1000):∃w,a7l c=some w:=by
 unfold a7l;simp only[c0A,oB]
 by_cases hq:a2T c
 rotate_left;simp_all;simp[hq];have f:∀(k i:Nat)(s:Int),i+k=c.length→∃s',y0s a6S (s,c,(c.length:Int),(i:Int),())=some (s',()):=by
  intro k
  induction k with
  |zero=>
   intro i s hi;obtain rfl:i=c.length:=by omega
   simp_all[a0F,a6S]
  |succ k ih=>
   intro i s hi;have g:i<c.length:=by omega
   have o:=(h _ (a23 g)).1;obtain⟨e,a⟩:=b8Z c (c.length:Int) (i:Int) (r:=c[i]) (by unfold short;omega) (c[i].length-2) 2 s (a19 _) (by omega);obtain⟨j,b⟩:=ih (i+1) e (by omega);refine⟨j,?_⟩;rw[←b];rw[show((2:Nat):Int)=2 from rfl]at a;exact a0E (by simp only[a6S,dlt g,cT,a0D g,oB,a,a0C (show i<1000000 by omega)])
 obtain⟨s',d⟩:=f c.length 0 0 (by omega);simp_all
def a5a(m:Nat):List a0G:=match m with
 | 1=>[(0,1,-256,())]
 | 2=>[(1,0,-256,())]
 | 3=>[(1,0,-256,()),(0,1,128,())]
 | 4=>[(1,0,-106,()),(0,1,181,()),(1,0,-106,())]
 |_=>[]
theorem b7O{m:Nat}(h:m≤4):b0B (m:Int)=some (a5a m):=by
 match m,h with
 |0,_=>rfl
 | 1,_=>rfl
 | 2,_=>rfl
 | 3,_=>rfl
 | 4,_=>rfl
theorem c1m{m:Nat}(h:m≤4):a5k (a5a m) 2:=by
 match m,h with
 |0,_=>decide
 | 1,_=>decide
 | 2,_=>decide
 | 3,_=>decide
 | 4,_=>decide
theorem b3v{p:List (List Int)}{n:Nat}(hp:a3D p n)(a:p.length=2)(g:a2T p)(f:n≤4096):∀(k m best:Nat)(least:Int),m+k=5→best≤4→(doO (a5a best) p).isSome=true→
  ∃best',y0s a6q (p,(best:Int),least,(m:Int),())=some (((best':Nat):Int),())∧best'≤4∧(doO (a5a best') p).isSome=true
 |0,m,best,least,hm,hb,hd=>by
  obtain rfl:m=5:=by omega
  exact⟨best,a0F rfl,hb,hd⟩
 |k+1,m,best,least,hm,hb,hd=>by
  have d:decide ((m:Int)<5)=true:=by grind
  have c:wrap .i64 ((m:Int)+1)=((m+1:Nat):Int):=a0C (by omega);have h:a5k (a5a m) (p.length:Int):=by grind[c1m]
  cases hdo:doO (a5a m) p with
  |none=>
   have b1:((6:Int) != 0)=true:=rfl;rw[a0E (s':=(p,(best:Int),least,((m+1:Nat):Int),())) (by
    simp only[a6q,d,cT,b7O (show m≤4 by omega),oB,c2t,if_pos (show a2T p∧a5k (a5a m) (p.length:Int)from⟨g,h⟩),hdo,b7L,b1,c])]
   exact b3v hp a g f k (m+1) best least (by omega) hb hd
  |some r=>
   have e:((0:Int) != 0)=false:=rfl;obtain⟨i,j⟩:=b2B (a5a m) hp rfl h.2.2.2 hdo
   obtain⟨w,b⟩:=c1l i f (by omega);have step:a6q (p,(best:Int),least,(m:Int),())=bif decide (w<least)then some (.inl (p,(m:Int),w,((m+1:Nat):Int),()))else some (.inl (p,(best:Int),least,((m+1:Nat):Int),())):=by
    simp only[a6q,d,cT,b7O (show m≤4 by omega),oB,c2t,if_pos (show a2T p∧a5k (a5a m) (p.length:Int)from⟨g,h⟩),hdo,b7L,e,cF,b,c]
   cases hlt:decide (w<least)with
   |true=>
    rw[hlt]at step;rw[a0E step];exact b3v hp a g f k (m+1) m w (by omega) (by omega) (by simp_all)
   |false=>
    rw[hlt]at step;rw[a0E step];exact b3v hp a g f k (m+1) best least (by omega) hb hd
theorem d2E{p:List (List Int)}{n:Nat}(hp:a3D p n)(g:p.length=2)(h:n≤4096):∃m,m≤4∧b1w p=some (a5a m)∧(doO (a5a m) p).isSome=true:=by
 have k:=b7K hp (by omega) (by omega) h;obtain⟨w,c⟩:=c1l hp h (by omega);obtain⟨m,a,f,b⟩:=b3v hp g k h 4 1 0 w rfl (by omega) rfl
 grind[b1w,b7O]
def b1V(i:Nat)(s:a0G):a0G:=(s.1+(i:Int),s.2.1+(i:Int),s.2.2.1,())
theorem d0W{i N:Nat}(h:i+2≤N){s:a0G}(k:a2L 2 s=true):a2L (N:Int) (b1V i s)=true:=by
 obtain⟨a1,a,b,c,d,g,f⟩:=a3i.1 k;exact a3i.2 ⟨by show 0≤s.1+(i:Int);omega,by show s.1+(i:Int)<(N:Int);omega,by show 0≤s.2.1+(i:Int);omega,by show s.2.1+(i:Int)<(N:Int);omega,by show s.1+(i:Int)≠s.2.1+(i:Int);omega,g,f⟩
def c2u(i:Nat)(c c' p:List (List Int)):Prop:=c'.length=c.length∧p.length=2∧c'.getD i []=p.getD 0 []∧c'.getD (i+1) []=p.getD 1 []∧∀j,j≠i→j≠i+1→c'.getD j []=c.getD j []
theorem c7O{i:Nat}{c0 c p p':List (List Int)}(hi:i+2≤c0.length)(h:c2u i c0 c p){s:a0G}(m:a2L 2 s=true)(g:a3V 1 s p=some p'):∃c',a3V 1 (b1V i s) c=some c'∧c2u i c0 c' p':=by
 obtain⟨w,y,z,A,B⟩:=h;obtain⟨a1,f,k,a,o,q,t⟩:=a3i.1 m;unfold a3V at g⊢;simp only at g⊢;have key:∀x:Int,0≤x→x<2→c.getD (x+(i:Int)).toNat []=p.getD x.toNat []:=fun x D n=>by
  grind
 have u:=key s.1 a1 f;have v:=key s.2.1 k a;simp only[b1V];have l:a9I 1 s.2.2.1 (c.getD (s.1+(i:Int)).toNat []) (c.getD (s.2.1+(i:Int)).toNat [])=a9I 1 s.2.2.1 (p.getD s.1.toNat []) (p.getD s.2.1.toNat []):=by simp_all
 simp only[l]
 split at g
 rename_i b;cases g;rw[if_pos b];generalize a9I 1 s.2.2.1 (p.getD s.1.toNat []) (p.getD s.2.1.toNat [])=r at *;refine⟨_,rfl,by grind,by grind,?_,?_,fun j C d=>?_⟩
 have:s.2.1=0∨s.2.1=1:=by omega
 rcases this with e|e;rw[e,show((0:Int)+(i:Int)).toNat=i from by omega,a7I _ (by omega),show(0:Int).toNat=0 from rfl,a7I _ (by omega)];rw[e,show((1:Int)+(i:Int)).toNat=i+1 from by omega,b1L _ (by omega),show(1:Int).toNat=1 from rfl,b1L _ (by omega)];omega
 have:s.2.1=0∨s.2.1=1:=by omega
 rcases this with e|e;simp_all;rw[e,show((1:Int)+(i:Int)).toNat=i+1 from by omega,a7I _ (by omega),show(1:Int).toNat=1 from rfl,a7I _ (by omega)];rw[b1L _ (by omega)];simp_all;simp_all
theorem c4c{i:Nat}{c0:List (List Int)}(hi:i+2≤c0.length):∀(l:List a0G){c p p':List (List Int)},l.all (a2L 2)=true→c2u i c0 c p→doO l p=some p'→∃g,doO (l.map (b1V i)) c=some g∧c2u i c0 g p'
 | [],c,p,p',_,h,hd=>by cases hd;exact⟨c,rfl,h⟩
 |s::l,c,p,p',hl,h,hd=>by
  simp only[a37,bA]at hl;simp[doO,a18]at hd;obtain⟨q,f,k⟩:=hd;obtain⟨d,a,b⟩:=c7O hi h hl.1 f;obtain⟨g,j1,j2⟩:=c4c hi l hl.2 b k;exact⟨g,by simp only[a26,doO,a,oB];exact j1,j2⟩
theorem c6f:∀(l m:List a0G)(c:List (List Int)),doO (l++m) c=(doO l c).bind (doO m)
 | [],m,c=>rfl
 |s::l,m,c=>by
  simp only[a61,doO];cases a3V 1 s c with
  |none=>rfl
  |some d=>exact c6f l m d
theorem c4d{α β:Type}(f:α→β):∀l:List α,l.flatMap (fun x=>[f x])=l.map f
 | []=>rfl
 |x::l=>by simp[c4d f l]
theorem c5L(b:a1b)(first:Nat)(s:first≤100){y:List a0G}(d:y.all (a2L 2)=true)(r:y.length≤10)(out:List a0G)(t:out.length≤1000):
  y0s a6r ((first:Int),(y.length:Int),(0:Int),out,y,b,())=some ((first:Int),out++y.map (b1V first),b,()):=by
 have:=a1N (f:=a6r) (β:=Int×(List a0G×(a1b×Unit))) y (fun i (a:List a0G)=>((first:Int),(y.length:Int),(i:Int),a,y,b,())) (fun a x=>.inl (a++[b1V first x])) (fun i a=>a.length=out.length+i) (fun a=>((first:Int),a,b,()))
  (fun i hi a k=>⟨fun e h=>by
   simp at h;subst h;obtain⟨a1,j,l,m,o,p,q⟩:=a3i.1 (lA.1 d _ (a23 hi));have g:decide ((0:Int)≤(i:Int))=true:=by simp
   have c:a98 y (a32 (i:Int)) ((0:Int),(0:Int),(0:Int),())=y[i]:=by simp_all
   refine⟨?_,by grind⟩;simp only[a6r,dlt hi,cT,g,a02,a0T (show a.length+1<2147483648 by omega),c,a0C (show i<1000000 by omega),a97];rw[a0B (n:=y[i].1+(first:Int)) (by omega),a0B (n:=y[i].2.1+(first:Int)) (by omega)]
   rfl,fun b hb=>by grind⟩)
  (fun a k=>by simp_all[a6r]) (a:=out) (by simp)
 simp_all[b1l,a8k,c4d]
theorem d5S{c:List (List Int)}{i:Nat}(h:i+2≤c.length):a44 i (a36 (i+2) c)=[c.getD i [],c.getD (i+1) []]:=by
 apply List.ext_getElem?;intro j;rw[a54]
 grind
theorem b9a{b:a1b}{n:Nat}(o:a3D b.2.1 n)(p:n≤4096)(z:b.2.1.length≤8):∀(k j:Nat)(out:List a0G)(c:List (List Int)),j+k=5→out.length≤3*j→out.all (a2L (b.2.1.length:Int))=true→doO out b.2.1=some c→(∀i,2*j≤i→c.getD i []=b.2.1.getD i [])→3*j≤12∨b.2.1.length≤2*j→
  ∃l f,y0s a8C (((2*j:Nat):Int),out,b,())=some (l,())∧l.length≤16∧l.all (a2L (b.2.1.length:Int))=true∧doO l b.2.1=some f
 |k,j,out,c,hk,hol,hob,hdo,hag,h12=>by
  have g:wrap .i64 (((2*j:Nat):Int)+1)=((2*j+1:Nat):Int):=by grind[a0B]
  by_cases hlt:2*j+1<b.2.1.length
  ·cases k with
   |zero=>omega
   |succ k=>
    have e:wrap .i64 (((2*j:Nat):Int)+2)=((2*j+2:Nat):Int):=by grind[a0B]
    have hp:a3D [b.2.1.getD (2*j) [],b.2.1.getD (2*j+1) []] n:=fun r q=>by
     simp only[mC,a49,or_false]at q;rcases q with rfl|rfl
     all_goals grind[a8t]
    obtain⟨m,u,N,E⟩:=d2E hp rfl p;obtain⟨p',d⟩:=Option.isSome_iff_exists.1 E;have h:=(c1m u).2.2.2;have C:(a5a m).length≤3:=by
     match m,u with
     |0,_=>decide
     | 1,_=>decide
     | 2,_=>decide
     | 3,_=>decide
     | 4,_=>decide
    have A:c.length=b.2.1.length:=(b2B out o rfl hob hdo).2;obtain⟨f,F,G,H,I,K,L⟩:=c4c (i:=2*j) (c0:=c) (by omega) (a5a m) h ⟨rfl,rfl,hag _ (a19 _),hag _ (by omega),fun _ _ _=>rfl⟩ d;have B:=c5L b (2*j) (by omega) h (by omega) out (by omega);have a:decide (((2*j+1:Nat):Int)<((b.2.1.length:Nat):Int))=true:=by grind
    have v:decide ((0:Int)≤((2*j+2:Nat):Int))=true:=by rfl
    have w:decide (((2*j+2:Nat):Int)≤((b.2.1.length:Nat):Int))=true:=by grind
    have x:decide ((0:Int)≤((2*j:Nat):Int))=true:=by rfl
    have y:decide (((2*j:Nat):Int)≤((2*j+2:Nat):Int))=true:=by grind
    rw[a0E (s':=(((2*(j+1):Nat):Int),out++(a5a m).map (b1V (2*j)),b,())) (by
     simp only[a8C,g,a,cT,e,v,w,a02,tN,x,y]
     grind[d5S])]
    refine b9a o p z k (j+1) (out++(a5a m).map (b1V (2*j))) f (by omega) (by grind) ?_ (by simp_all[c6f]) (fun i hi=>by grind) (by omega);rw[List.all_append,hob,a59,lA];intro s D;obtain⟨t,M,rfl⟩:=a39.1 D
    grind[d0W]
  refine⟨out,c,a0F ?_,by omega,hob,hdo⟩;have a:decide (((2*j+1:Nat):Int)<((b.2.1.length:Nat):Int))=false:=by grind
  simp only[a8C,g,a,cF]
termination_by k=>k
theorem c4e{b:a1b}(hb:a1W b):∃l h,a7D b=some l∧a5k l (b.2.1.length:Int)∧doO l b.2.1=some h:=by
 obtain⟨c,-⟩:=b3a hb;have a:=hb.2.2.2.1;obtain⟨l,h,d,g,f,k⟩:=b9a c hb.2.2.2.2.2.1 a 5 0 [] b.2.1 rfl (by simp) rfl rfl (fun _ _=>rfl) (by omega);refine⟨l,h,?_,⟨by have:=hb.2.2.1;omega,by omega,g,f⟩,k⟩;unfold a7D;simp[a6D,decide_eq_true hb];simp_all
theorem d0X{r:List Int}{n:Nat}(h:r.length=n∧r.all a0A=true)(a:1≤n)(b:n≤256){k:Int}(f:0≤k)(c:k≤3):
  ∃s,a5G (r,k)=some (s,0)∧SmallS s∧a2u s (n:Int)=some r∧a5h s (n:Int)≤((13+a0J r*n:Nat):Int):=by
 obtain⟨e,g⟩:=h;have d:=a6Y (l:=r) (by omega) g
 grind[c7E,d4a]
theorem b9b{effort:Int}(g:0≤effort)(b:effort≤3){rows:List (List Int)}{n:Nat}(c:a3D rows n)(k:1≤n)(a:n≤256)(i:rows.length≤8)(f:a1d):∀(rest d:List (List Int)) (done:List Sub),d++rest=rows→done.length=d.length→
  ∃outs,y0s a5H (effort,rows,(rows.length:Int),(d.length:Int),b8Y,a8U f done,())=some (.inl (b8Y,a8U f (done++outs),()))∧a7N (fun s=>a2u s (n:Int)) outs=some rest∧(∀s∈outs,SmallS s)∧a7N (fun r=>a5G (r,effort)) rest=some (outs.map fun s=>(s,0))
 | [],d,done,hd,hdl=>by
  have e:d=rows:=by simp_all
  subst e;refine⟨[],?_,rfl,by simp,rfl⟩;simp_all[a0F,a5H]
 |r::rest,d,done,hd,hdl=>by
  have h:d.length<rows.length:=by grind
  have j:m0k rows (d.length:Int)=some r:=by grind[a0D]
  obtain⟨s,b1,b2,l,-⟩:=d0X (c r (by grind)) k a g b;have z0:((0:Int) != 0)=false:=rfl;have step:a5H (effort,rows,(rows.length:Int),(d.length:Int),b8Y,a8U f done,())=some (.inl (effort,rows,(rows.length:Int),(((d++[r]).length:Nat):Int),b8Y,a8U f (done++[s]),())):=by
   simp only[a5H,dlt h,cT,j,oB,b1,z0,cF];rw[show(a8U f done).2.2.2.2.1=done from rfl,a0T (show done.length+1<2147483648 by omega),cT,a0C (show d.length<1000000 by omega)];rw[show(((d++[r]).length:Nat):Int)=((d.length+1:Nat):Int)from by simp];rfl
  rw[a0E step];obtain⟨outs,o,p,q,u⟩:=b9b g b c k a i f rest (d++[r]) (done++[s]) (by simp_all) (by simp_all);refine⟨s::outs,?_,?_,fun t m=>?_,?_⟩;simp_all;simp_all[a7N]
  grind
  simp_all[a7N]
theorem c7P{b:a1b}(hb:a1W b)(k:a0K b≤256){rate start effort:Int}(n:1≤rate∧rate≤1048576)(B:0≤start∧start≤4194304-((a0K b:Nat):Int))(y:0≤effort)(z:effort≤3):
  ∃l g outs,a2X (b,(rate,((b.2.1.length:Nat):Int),b.1,()),start,effort)=some ((start,((a0K b:Nat):Int),(rate,((b.2.1.length:Nat):Int),b.1,()),l,outs,()),0)∧
   a5k l (b.2.1.length:Int)∧doO l b.2.1=some g∧a7N (fun s=>a2u s ((a0K b:Nat):Int)) outs=some g∧(∀s∈outs,SmallS s)∧a7N (fun r=>a5G (r,effort)) g=some (outs.map fun s=>(s,0))∧
   (effort=0→l=[])∧(0<effort→a7D b=some l):=by
 obtain⟨A,m⟩:=b3a hb;have i:=hb;obtain⟨w,x,D,E,F,G,-⟩:=i;have j:a1Q (rate,((b.2.1.length:Nat):Int),b.1,()):=⟨n.1,n.2,by grind,by grind,w,x⟩;have f:∃l g,a5k l (b.2.1.length:Int)∧doO l b.2.1=some g∧(effort=0→l=[])∧(0<effort→a7D b=some l):=by
  by_cases he:effort=0
  exact⟨[],b.2.1,⟨by omega,by omega,by simp,rfl⟩,rfl,fun _=>rfl,fun h=>by omega⟩
  grind[c4e]
 obtain⟨l,g,e,d,a,c⟩:=f;obtain⟨C,H⟩:=b2B l A rfl e.2.2.2 d;obtain⟨outs,j1,j2,j3,j4⟩:=b9b y z C (by omega) k (by omega) (start,((a0K b:Nat):Int),(rate,((b.2.1.length:Nat):Int),b.1,()),l,([]:List Sub),()) g [] [] rfl rfl;refine⟨l,g,outs,?_,e,d,j2,j3,j4,a,c⟩;have u:(b.1 != b.1)=false:=bne_self_eq_false _;have v:(((b.2.1.length:Nat):Int) != ((b.2.1.length:Nat):Int))=false:=bne_self_eq_false _;have o:decide (effort<0)=false:=by simp_all
 have p:decide (effort > 3)=false:=by simp_all
 have q:decide (start<0)=false:=by simp_all
 have t:decide (start > wrap .i64 (4194304-((a0K b:Nat):Int)))=false:=by grind[a0B]
 have z0:((0:Int) != 0)=false:=rfl;unfold a2X;simp only[a6D,decide_eq_true hb,oB,bT,cF,a4H,decide_eq_true j,u,v,o,p,q,a4Z,t];cases he:decide (effort > 0)with
 |true=>
  have:=c (by simp_all)
  simp[this,c2t,if_pos (show a2T b.2.1∧a5k l (b.2.1.length:Int)from⟨m,e⟩),d,b7L]
  erw[j1]
  rfl
 |false=>
  have:=a (by grind)
  subst this;simp only[cF,oB,c2t,if_pos (show a2T b.2.1∧a5k ([]:List a0G) (b.2.1.length:Int)from⟨m,e⟩),d,b7L,z0]
  erw[j1]
  rfl
theorem made{b:a1b}(hb:a1W b)(f:a0K b≤256){rate start effort:Int}(e:1≤rate∧rate≤1048576)(a:0≤start∧start≤4194304-((a0K b:Nat):Int))(j:0≤effort)(n:effort≤3):
  ∃g:Int×(a0G×(List a0G×(List Sub×Unit))),a2X (b,(rate,((b.2.1.length:Nat):Int),b.1,()),start,effort)=some ((start,g),0)∧g.1=((a0K b:Nat):Int)∧g.2.1=(rate,((b.2.1.length:Nat):Int),b.1,())∧
   g.2.2.1.length≤16∧g.2.2.2.1.length≤8∧(∀s∈g.2.2.2.1,SmallS s)∧∀h,0≤h∧h≤4194304-((a0K b:Nat):Int)→a9r (h,g)=some b:=by
 obtain⟨l,i,outs,m,k,c,d,o,-⟩:=c7P hb f e a j n;obtain⟨p,-⟩:=b3a hb;have t:=b7M d;have q:=(b2B l p rfl k.2.2.2 c).2;exact⟨_,m,rfl,rfl,k.2.2.1,by have:=hb.2.2.2.1;show outs.length≤8;omega,o,fun h r=>c7N hb k c d r e⟩
theorem d2F(y:Int):bits .i64 .and y 255=y%256:=by
 have h:((a00 64 y) &&& (a00 64 255)).toNat=(y%18446744073709551616).toNat%256:=by
  rw[a48,a29];have e:(a00 64 255).toNat=2^8-1:=by decide
  rw[e,a31];rfl
 show wrap .i64 ((((a00 64 y) &&& (a00 64 255)).toNat:Nat):Int)=_;rw[h,a0B (by omega)];omega
theorem d8G(x:Int){j:Nat}(g:j<8):A0o .i64 x ((8*j:Nat):Int)=x.fdiv (256^j):=by
 have h:min (a32 ((8*j:Nat):Int)) (IntKind.bits .i64)=8*j:=by
  simp only[tN,IntKind.bits];omega
 unfold A0o;rw[h,show(256:Int)=2^8 from rfl,←Int.pow_mul]
def smB(k:Nat)(x:Int):List Int:=leB k (x%18446744073709551616).toNat
theorem d2G(x:Int)(j:Nat)(g:j<8):((((x%18446744073709551616).toNat) / 256^j%256:Nat):Int)=x.fdiv (256^j)%256:=by
 have h:j=0∨j=1∨j=2∨j=3∨j=4∨j=5∨j=6∨j=7:=by omega
 rcases h with rfl|rfl|rfl|rfl|rfl|rfl|rfl|rfl<;>rw[a56 _ (by decide)]<;>simp only[Nat.reducePow,Int.reducePow]<;>omega
theorem b4S(k:Nat)(x:Int):(smB k x).length=k:=b0K _ _
theorem d0Y(k:Nat)(h:k<8)(x:Int):smB (k+1) x=smB k x++[x.fdiv (256^k)%256]:=by
 unfold smB;rw[b7x,d2G x k h]
theorem b5Z:∀(k n:Nat),∀b∈leB k n,0≤b∧b<256
 |0,_=>by simp[leB]
 |k+1,n=>fun b hb=>by
  rcases mC.1 hb with rfl|hb;omega;exact b5Z k _ b hb
def a1A(w:Int)(l:List Int):List Int:=l.flatMap (smB ((w+7) / 8).toNat)
theorem c4f{k:Nat}{g:Int→List Int}(h:∀x,(g x).length=k):∀(l:List Int),(l.flatMap g).length=l.length*k
 | []=>by simp
 |x::l=>by
  rw[a33,lN,h,c4f h l,lC,Nat.add_mul];omega
theorem b9c{w:Int}(hw:4≤w∧w≤24)(l:List Int):(a1A w l).length≤3*l.length:=by
 unfold a1A;rw[c4f (b4S _)]
 have:((w+7) / 8).toNat≤3:=by omega
 calc l.length*((w+7) / 8).toNat≤l.length*3:=Nat.mul_le_mul_left _ this
  _=3*l.length:=a40 ..
theorem b9d(w:Int)(a b:List Int):a1A w (a++b)=a1A w a++a1A w b:=a74
theorem b6a(w:Int)(l:List Int):∀b∈a1A w l,0≤b∧b<256:=fun b hb=>by
 obtain⟨x,-,h⟩:=a84.1 hb;exact b5Z _ _ b h
theorem d2H(b x n:Int)(i:Int)(l:List Int){k:Nat}(e:k≤8)(out:List Int)(m:out.length<100000000):
  y0s a4N (b,(k:Int),x,l,n,i,(k:Int),(0:Int),out,())=some (b,(k:Int),l,n,i,out++smB k x,()):=by
 have h:=a1D (f:=a4N) (fun j=>(b,(k:Int),x,l,n,i,(k:Int),(j:Int),out++smB j x,()))
  k (b:=(b,(k:Int),l,n,i,out++smB k x,())) (fun j d=>by
   have c:wrap .i64 ((8:Int)*(j:Int))=((8*j:Nat):Int):=by rw[a0B (by omega)];omega
   have g:decide (((8*j:Nat):Int)<0)=false:=by simp;omega
   simp only[a4N];rw[dlt d,a0T (show(out++smB j x).length+1<2147483648 by rw[lN,b4S];omega),c,g,a0C (show j<1000000 by omega),d2F,d8G x (by omega),a8j,Int.emod_emod_of_dvd _ (by decide),d0Y j (by omega),←aA];rfl) (by simp only[a4N,dge,cF])
 have a:out++smB 0 x=out:=by simp[smB,leB]
 simp only[a]at h;exact h
theorem d4g{w:Int}(h:4≤w∧w≤24):wrap .i64 (a25 (wrap .i64 (w+(7:Int))) (8:Int))=((((w+7) / 8).toNat:Nat):Int):=by
 rw[a0B (n:=w+7) (by omega),Int.tdiv_eq_ediv_of_nonneg (by omega),a0B (by omega)];omega
theorem c1n{w:Int}(g:4≤w∧w≤24)(l:List Int)(c:l.length≤1000000){k:Nat}(a:k≤3):∀(rest done out:List Int),done++rest=l→rest.all (fun x=>a1h x w)=true→out.length+3*rest.length<100000000→
  y0s a6Q (w,(k:Int),l,(l.length:Int),(done.length:Int),out,())=some (.inl (out++rest.flatMap (smB k),()))
 | [],done,out,hd,_,_=>by
  obtain rfl:done=l:=by simpa using hd
  rw[a0F (b:=Sum.inl (out,())) (by simp only[a6Q,dge,cF])]
  simp
 |x::rest,done,out,hd,hf,ho=>by
  have h:done.length<l.length:=by rw[←hd];simp
  have f:m0k l (done.length:Int)=some x:=by rw[a0D h];subst hd;simp
  simp only[a37,bA]at hf;simp only[lC]at ho;rw[a0E (s':=(w,(k:Int),l,(l.length:Int),(((done++[x]).length:Nat):Int),out++smB k x,())) (by
   simp only[a6Q,dlt h,cT,f,oB,b2Y g,hf.1,bT,cF,d2H w x _ _ l (show k≤8 by omega) out (by omega),a0C (show done.length<1000000 by omega)]
   simp)]
  rw[c1n g l c a rest (done++[x]) (out++smB k x) (by simpa using hd) hf.2 (by rw[lN,b4S];omega)]
  simp
theorem c0B{w:Int}(g:4≤w∧w≤24){l:List Int}(c:l.length≤1000000)(b:l.all (fun x=>a1h x w)=true):a9v (l,w)=some (a1A w l,0):=by
 have f:decide (w<(4:Int))=false:=by simp;omega
 have a:decide (w > (24:Int))=false:=by simp;omega
 have h:=c1n g l c (k:=((w+7) / 8).toNat) (by omega) l [] [] rfl b (by simp;omega);rw[a21]at h;simp only[a9v,f,cF,oB,a,d4g g]
 erw[h]
 rfl
def b0S(d:List Int)(ch c:Nat):List Int:=((a01 d.length).filter fun i=>i%ch==c).map fun i=>d.getD i 0
def a1F(d:List Int)(ch:Nat):List (List Int):=(a01 ch).map (b0S d ch)
def wv(n:Nat)(rows:List (List Int)):List Int:=(a01 n).flatMap fun i=>rows.map fun r=>r.getD i 0
theorem d0Z{α:Type}{a b:List α}{i:Nat}{d:α}(h:i<a.length):(a++b).getD i d=a.getD i d:=by
 grind
theorem c9d(d:List Int)(x:Int)(ch c:Nat):b0S (d++[x]) ch c=if d.length%ch=c then b0S d ch c++[x]else b0S d ch c:=by
 unfold b0S;rw[lN,List.length_singleton,a38,a55,pA];have h:((a01 d.length).filter fun i=>i%ch==c).map (fun i=>(d++[x]).getD i 0)=((a01 d.length).filter fun i=>i%ch==c).map fun i=>d.getD i 0:=
  a27 fun i hi=>d0Z (a42.1 (List.mem_filter.1 hi).1)
 grind
theorem c4g(c:Nat):∀ch,(a01 ch).filter (·==c)=if c<ch then[c]else[]
 |0=>rfl
 |ch+1=>by
  rw[a38,a55,c4g c ch]
  grind
theorem c4h{ch c:Nat}(h:c<ch):∀n,(a01 (n*ch)).filter (fun i=>i%ch==c)=(a01 n).map fun i=>i*ch+c
 |0=>by simp
 |n+1=>by
  rw[Nat.succ_mul,a43,a55,c4h h n,a38,pA,List.filter_map];congr 1;have e:∀i∈a01 ch,((fun i=>i%ch==c)∘fun x=>n*ch+x) i=(i==c):=fun i hi=>by
   simp_all[a24]
  simp_all[List.filter_congr,c4g]
theorem b3w{d:List Int}{n ch c:Nat}(g:d.length=n*ch)(h:c<ch):b0S d ch c=(a01 n).map fun i=>d.getD (i*ch+c) 0:=by
 simp_all[b0S,c4h]
theorem c7Q(f:Nat→Int)(ch:Nat):∀n,(a01 n).flatMap (fun i=>(a01 ch).map fun c=>f (i*ch+c))=(a01 (n*ch)).map f
 |0=>by simp
 |n+1=>by
  rw[a38,a74,c7Q f ch n,Nat.succ_mul,a43,pA,a34];simp[Function.comp_def]
theorem c7R(d:List Int):(a01 d.length).map (fun i=>d.getD i 0)=d:=
 a28 (by simp) fun i h g=>by simp_all
theorem c0C{n i:Nat}(f:Nat→Int)(h:i<n):((a01 n).map f).getD i 0=f i:=by
 simp_all
theorem b4T{α β:Type}{l:List α}{f g:α→List β}(h:∀a∈l,f a=g a):l.flatMap f=l.flatMap g:=by
 grind[a27]
theorem d2I{d:List Int}{n ch:Nat}(h:d.length=n*ch):wv n (a1F d ch)=d:=by
 have:wv n (a1F d ch)=(a01 n).flatMap fun i=>(a01 ch).map fun c=>d.getD (i*ch+c) 0:=
  b4T fun i hi=>by
   grind[a1F,a27,b3w]
 grind[c7Q,c7R]
theorem d4h{d:List Int}{n ch a b:Nat}(g:d.length=n*ch)(k:b≤n):wv (b-a) ((a1F d ch).map fun r=>(r.take b).drop a)=(d.take (b*ch)).drop (a*ch):=by
 have:wv (b-a) ((a1F d ch).map fun r=>(r.take b).drop a)=(a01 (b-a)).flatMap fun i=>(a01 ch).map fun c=>(fun j=>d.getD (a*ch+j) 0) (i*ch+c):=
  b4T fun i hi=>by
   have hi:=a42.1 hi;unfold a1F;rw[a34,a34];refine a27 fun c h=>?_
   show(((b0S d ch c).take b).drop a).getD i 0=d.getD (a*ch+(i*ch+c)) 0;rw[b3w g (a42.1 h),lD,a54,List.getElem?_take_of_lt (by omega),a82,List.getElem?_range (by omega)]
   grind
 rw[this];refine(c7Q (fun j=>d.getD (a*ch+j) 0) ch (b-a)).trans ?_
 have hb:b*ch≤d.length:=by simp_all[a03]
 have e:(b-a)*ch=b*ch-a*ch:=a85 ..;refine a28 (by simp_all) fun i f l=>?_
 grind
def prm:Nat:=2305843009213693951
def prs(h:Nat)(l:List Nat):Nat:=l.foldl (fun h c=>(h*1000003+(c+1))%prm) h
theorem d2J(h:Nat):prs h []=h:=rfl
theorem c4i(h c:Nat)(l:List Nat):prs h (c::l)=prs ((h*1000003+(c+1))%prm) l:=rfl
theorem c7S(h:Nat)(a b:List Nat):prs h (a++b)=prs (prs h a) b:=a45 ..
theorem c4j{h:Nat}(g:h<prm)(l:List Nat):prs h l<prm:=by
 induction l generalizing h with
 |nil=>exact g
 |cons c l ih=>exact ih (a22 _ (by decide))
theorem b4U(a b c:Nat):(a%prm*b+c)%prm=(a*b+c)%prm:=by
 simp_all[Nat.add_mod]
theorem c4k(a b:Nat):(a+b%prm)%prm=(a+b)%prm:=by
 simp
theorem d1a(l:List Nat)(h:Nat):prs h l%prm=(h*1000003^l.length+prs 0 l)%prm:=by
 induction l generalizing h with
 |nil=>simp[d2J]
 |cons c l ih=>
  rw[c4i,c4i,ih,b4U,←c4k (h*_),ih ((0*1000003+(c+1))%prm),b4U,c4k,lC,a79]
  grind
theorem d1b(a b:List Nat):prs 0 (a++b)=(prs 0 a*(1000003^b.length%prm)+prs 0 b)%prm:=by
 rw[c7S,←a24 (c4j (c4j (by decide) a) b),d1a,a40 (prs 0 a) (_%prm),b4U,a40 (prs 0 a)]
def pwr:Nat→Nat→Nat→Nat→Nat
 |0,_,p,_=>p
 |k+1,n,p,s=>if n=0 then p else pwr k (n / 2) (if n%2=1 then p*s%prm else p) (s*s%prm)
theorem d1c(a b:Nat):a%prm*b%prm=a*b%prm:=b4U a b 0
theorem c4l(a n:Nat):(a%prm)^n%prm=a^n%prm:=by rw[←Nat.pow_mod]
theorem d4i(k n p s:Nat)(h:n<2^k)(hp:p<prm):pwr k n p s=p*s^n%prm:=by
 induction k generalizing n p s with
 |zero=>simp_all[pwr,a24]
 |succ k ih=>
  rw[pwr]
  by_cases h0:n=0
  simp_all[a24];rw[if_neg h0];have g:n / 2<2^k:=by omega
  have f:(s*s)^(n / 2)=s^(2*(n / 2)):=by grind[Nat.pow_mul]
  by_cases h1:n%2=1
  rw[if_pos h1,ih _ _ _ g (a22 _ (by decide)),a57,c4l,f,←a57,d1c,Nat.mul_assoc,←Nat.pow_succ']
  grind
  rw[if_neg h1,ih _ _ _ g hp,a57,c4l,f,←a57]
  grind
theorem c9e{u d y1 y0 q r:Nat}(g:u=q*y1+r)(h:q*y0≤4294967296*r+d):q*(y1*4294967296+y0)≤u*4294967296+d:=by
 grind
theorem d2K(u d e y:Nat):((u*4294967296+d)%y*4294967296+e)%y=((u*4294967296+d)*4294967296+e)%y:=by
 simp_all[Nat.add_mod,a57]
theorem c9f(n k y:Nat)(h:0<k):n*k%(y*k) / k=n%y:=by
 simp_all[Nat.mul_mod_mul_right]
@[reducible] def Pc:Type:=a1d×(a1b×List Int)
def b7P(fm:a0G)(st:Nat)(x:Pc):Prop:=
 x.1.1=(st:Int)∧x.1.2.1=((a0K x.2.1:Nat):Int)∧x.1.2.2.1=fm∧a2f x.1=some (x.2.1,0)∧a2F x.1=some (x.2.2,0)∧
  (∀R:List Int,R.length≤200000000→a6p (x.2.2++R)=some (x.1,(x.2.2.length:Int),(0:Int)))∧a1W x.2.1∧x.2.1.1=fm.2.2.1∧a0K x.2.1≤64∧1≤x.2.2.length∧x.2.2.length≤700800
def a2Z(fm:a0G):Nat→List Pc→Prop
 |_,[]=>True
 |st,x::xs=>b7P fm st x∧a2Z fm (st+a0K x.2.1) xs
def a3a:Nat→Nat→List Pc→List (Int×Int×Unit)
 |_,_,[]=>[]
 |st,off,x::xs=>((st:Int),(off:Int),())::a3a (st+a0K x.2.1) (off+x.2.2.length) xs
def a1m(xs:List Pc):Nat:=(xs.map fun x=>a0K x.2.1).sum
def a0X(xs:List Pc):List Int:=xs.flatMap fun x=>x.2.2
def wvB(b:a1b):List Int:=wv (a0K b) b.2.1
def a4r(xs:List Pc):List Int:=xs.flatMap fun x=>wvB x.2.1
def prI(l:List Int):Nat:=prs 0 (l.map a32)
def a2o(fm:a0G)(xs:List Pc):Nat:=prI (a1A fm.2.2.1 (a4r xs))
theorem b4h(l:List Int):prI l<prm:=c4j (by decide) _
theorem c6g(a b:List Int):prI (a++b)=(prI a*(1000003^b.length%prm)+prI b)%prm:=by
 simp_all[prI,d1b]
theorem a5P(h:List Pc)(x:Pc):a1m (h++[x])=a1m h+a0K x.2.1:=by simp[a1m]
theorem a7J(h:List Pc)(x:Pc):a0X (h++[x])=a0X h++x.2.2:=by simp[a0X]
theorem b2t(h:List Pc)(x:Pc):a4r (h++[x])=a4r h++wvB x.2.1:=by simp[a4r]
theorem c9g{rows:List (List Int)}:∀n,(wv n rows).length=n*rows.length:=fun n=>by
 simp_all[wv,List.map_const']
theorem c1o{fm:a0G}:∀{xs:List Pc}{st:Nat}{x:Pc},a2Z fm st xs→b7P fm (st+a1m xs) x→a2Z fm st (xs++[x])
 | [],st,x,_,h=>⟨by simpa[a1m]using h,trivial⟩
 |y::xs,st,x,h,h2=>⟨h.1,c1o h.2 (by simp_all[a1m,a60])⟩
theorem b1M:∀(xs:List Pc)(st off:Nat)(x:Pc),a3a st off (xs++[x])=a3a st off xs++[(((st+a1m xs:Nat):Int),((off+(a0X xs).length:Nat):Int),())]
 | [],st,off,x=>by rfl
 |y::xs,st,off,x=>by
  simp_all[a3a,b1M,a1m,a0X,a60]
theorem a8W:∀(xs:List Pc)(st off:Nat),(a3a st off xs).length=xs.length
 | [],_,_=>rfl
 |_::xs,_,_=>congrArg (·+1) (a8W xs _ _)
theorem b2u{fm:a0G}:∀{xs:List Pc}{st:Nat},a2Z fm st xs→(a0X xs).length≤700800*xs.length
 | [],_,_=>by simp[a0X]
 |x::xs,st,h=>by
  have:=b2u h.2
  have:=h.1.2.2.2.2.2.2.2.2.2.2
  simp only[a0X,a33,lN,lC]at *;omega
theorem d2L{b:a1b}{fm:a0G}(hb:a1W b)(i:a0K b≤64)(j:1≤fm.1∧fm.1≤1048576)(d:fm.2.1=((b.2.1.length:Nat):Int))(h:fm.2.2.1=b.1){st:Nat}(q:st+a0K b≤4194304){effort:Int}(m:0≤effort)(n:effort≤3):
  ∃g p,a2X (b,fm,(st:Int),effort)=some (((st:Int),g),0)∧b7P fm st (((st:Int),g),b,p):=by
 obtain⟨rate,ch,bits,u⟩:=fm;cases u;simp only at j d h;subst d h;obtain⟨g,r,s,t,x,y,l,v⟩:=made hb (by omega) (rate:=rate) (start:=(st:Int)) (effort:=effort) j (by omega) m n;have a:=v (st:Int) (by omega);obtain⟨L,o,-,e,c⟩:=b8X (f:=((st:Int),g)) l a;have k:=b7N (f:=((st:Int),g)) l;rw[a]at k;have w:=b4Q (b2Z a).1 o;refine⟨g,a4Y ((st:Int),g) L,r,rfl,s,t,k,e,c,hb,rfl,i,?_,?_⟩
 all_goals grind[a4Y]
theorem c4m{d:List Int}{n ch c:Nat}(g:d.length=n*ch)(h:c<ch):(b0S d ch c).length=n:=by rw[b3w g h];simp
theorem d1d{d:List Int}{ch c:Nat}{x:Int}(h:x∈b0S d ch c):x∈d:=by
 unfold b0S at h
 grind
def a5Q(w:Int)(d:List Int)(ch:Nat):a1b:=(w,a1F d ch,())
theorem b4V{w:Int}{d:List Int}{n ch:Nat}(g:d.length=n*ch)(h:0<ch):a0K (a5Q w d ch)=n:=by
 obtain⟨k,rfl⟩:∃k,ch=k+1:=⟨ch-1,by omega⟩;show((a1F d (k+1)).headD []).length=n
 grind[a1F,List.range_succ_eq_map,c4m]
theorem d2M{w:Int}{d:List Int}{n ch:Nat}(f:d.length=n*ch)(h:1≤ch∧ch≤8)(j:1≤n∧n≤4096)(k:4≤w∧w≤24)(a:d.all (fun x=>a1h x w)=true):a1W (a5Q w d ch):=by
 have b:=b4V (w:=w) f (show 0<ch by omega);have g:(a1F d ch).length=ch:=by simp[a1F]
 refine⟨k.1,k.2,by simp_all[a5Q],by simp_all[a5Q],by omega,by omega,?_⟩;rw[b];refine lA.2 fun r e=>?_
 obtain⟨c,g,rfl⟩:=a39.1 (show r∈(a01 ch).map (b0S d ch)from e);rw[bA,dT];exact⟨c4m f (a42.1 g),lA.2 fun x i=>lA.1 a x (d1d i)⟩
theorem d2N{w:Int}{d:List Int}{n ch:Nat}(g:d.length=n*ch)(h:0<ch):wvB (a5Q w d ch)=d:=by
 unfold wvB;rw[b4V g h];exact d2I g
def b3N(n:Nat)(l:List Int):Nat:=l.foldl (fun n c=>n*256+c.toNat) n
def a7O(k n:Nat):List Int:=(leB k n).reverse
theorem b7Q:∀(k n:Nat),n<256^k→b3N 0 (a7O k n)=n
 |0,n,h=>by simp at h;subst h;rfl
 |k+1,n,h=>by
  have g:=b7Q k (n / 256) (by rw[a67 (by omega)];rw[a79]at h;exact h);unfold b3N a7O at *;rw[leB,List.reverse_cons,a45,g]
  simp
  omega
theorem a9J(k n:Nat):(a7O k n).length=k:=by simp[a7O,b0K]
theorem b4W(k n:Nat):∀b∈a7O k n,0≤b∧b<256:=fun b hb=>b5Z k n b (List.mem_reverse.1 hb)
theorem c0D{n k:Nat}(j:n<18446744073709551616)(d:k≤8):a5o ((n:Int),(k:Int))=some (leB k n):=by
 have c:a3Y (k:Int)=some (k:Int):=by
  grind[a3Y,a9O,b6m]
 simp[a5o,c];have h:=a1D (f:=a2b) (fun i=>(((n / 256^i:Nat):Int),(k:Int),(i:Int),leB i n,())) k (b:=(leB k n,())) (fun i hi=>by
   have g:wrap .u64 (a25 ((n / 256^i:Nat):Int) 256)=((n / 256^(i+1):Nat):Int):=by
    have e:a25 ((n / 256^i:Nat):Int) 256=((n / 256^i / 256:Nat):Int):=rfl;rw[e,Nat.div_div_eq_div_mul,←a79]
    have:=a91 n (256^(i+1))
    grind[a0M]
   have a:wrap .u8 (a46 ((n / 256^i:Nat):Int) 256)=((n / 256^i%256:Nat):Int):=by
    have e:a46 ((n / 256^i:Nat):Int) 256=((n / 256^i%256:Nat):Int):=rfl;rw[e,a8j];omega
   simp only[a2b];rw[dlt hi,a0T (show(leB i n).length+1<2147483648 by rw[b0K];omega),g,a0C (show i<1000000 by omega),a,b7x];rfl) (by simp_all[a2b])
 simp only[Nat.pow_zero,Nat.div_one,leB]at h;simp_all
theorem b6b{n k:Nat}(g:n<18446744073709551616)(h:k≤8):a4v ((n:Int),(k:Int))=some (a7O k n):=by
 unfold a4v a1Z;simp only[c0D g h,oB];rw[decide_eq_true (by rw[b0K];omega)];rfl
def c32(s:BitVec 32):BitVec 32:=bif s.getLsbD 0 then(s >>> 1) ^^^ 0xedb88320#32 else s >>> 1
def d1e:Nat→BitVec 32→BitVec 32
 |0,s=>s
 |k+1,s=>d1e k (c32 s)
def d1f(s x:BitVec 32):BitVec 32:=d1e 8 (s ^^^ x)
def d4j(s:BitVec 32)(l:List (BitVec 32)):BitVec 32:=l.foldl d1f s
theorem d1g(s:BitVec 32):a00 32 ((s.toNat:Nat):Int)=s:=by
 simp
theorem d4k(s:BitVec 32):wrap .u32 ((s.toNat:Nat):Int)=((s.toNat:Nat):Int):=by
 have:=s.isLt
 grind[wrap,IntKind.bits,IntKind.signed]
theorem c7T(s t:BitVec 32):bits .u32 .xor ((s.toNat:Nat):Int) ((t.toNat:Nat):Int)=(((s ^^^ t).toNat:Nat):Int):=by
 show wrap .u32 (((a00 32 _ ^^^ a00 32 _).toNat:Nat):Int)=_;rw[d1g,d1g,d4k]
theorem d5T(s:BitVec 32):(bits .u32 .and ((s.toNat:Nat):Int) 1==(1:Int))=s.getLsbD 0:=by
 have h:bits .u32 .and ((s.toNat:Nat):Int) 1=(((s &&& 1#32).toNat:Nat):Int):=by
  show wrap .u32 (((a00 32 _ &&& a00 32 1).toNat:Nat):Int)=_;rw[d1g,show a00 32 1=1#32 from rfl,d4k]
 rw[h,a48,show(1#32).toNat=1 from rfl,Nat.and_one_is_mod,a69,Nat.testBit_zero]
 grind
theorem d5U(s:BitVec 32):A0o .u32 ((s.toNat:Nat):Int) 1=(((s >>> 1).toNat:Nat):Int):=by
 unfold A0o;rw[show min (a32 1) (IntKind.bits .u32)=1 from rfl,a56 _ (by simp),BitVec.toNat_ushiftRight,Nat.shiftRight_eq_div_pow];rfl
def e32(s:Int):Int:=bif (bits .u32 .and s 1)==(1:Int)then bits .u32 .xor (A0o .u32 s 1) 3988292384 else A0o .u32 s 1
theorem d4l(s:BitVec 32):e32 ((s.toNat:Nat):Int)=(((c32 s).toNat:Nat):Int):=by
 unfold e32 c32;rw[d5T,d5U,show(3988292384:Int)=(((0xedb88320#32).toNat:Nat):Int)from rfl,c7T]
 grind
theorem c4n:∀(k:Nat)(s:BitVec 32),rep e32 k ((s.toNat:Nat):Int)=(((d1e k s).toNat:Nat):Int)
 |0,_=>rfl
 |k+1,s=>by
  rw[show rep e32 (k+1) ((s.toNat:Nat):Int)=rep e32 k (e32 ((s.toNat:Nat):Int))from rfl,d4l,c4n k];rfl
def d4m(l:List Int):BitVec 32:=d4j 0xffffffff#32 (l.map (a00 32))
def a4s(l:List Int):Nat:=(~~~ d4m l).toNat
theorem b4X(l:List Int):a4s l<4294967296:=(~~~ d4m l).isLt
@[reducible] def b6c:Type:=a0G×(Int×(Int×(List (Int×(Int×Unit))×(List a1d×Unit))))
def mkT(fm:a0G)(xs:List Pc):b6c:=(fm,((a1m xs:Nat):Int),((a2o fm xs:Nat):Int),a3a 0 0 xs,xs.map (·.1),())
def nsP(xs:List Pc):List Nat:=xs.flatMap fun x=>[x.2.2.length,a0K x.2.1]
def a3W(fm:a0G)(xs:List Pc):List Nat:=[fm.1.toNat,fm.2.1.toNat,fm.2.2.1.toNat,xs.length]++nsP xs
def b7R:List Int:=[75,78,83,68]
def a1t(fm:a0G)(xs:List Pc):List Int:=b7R++((a3W fm xs).flatMap a0L++a7O 8 (a2o fm xs))
def a5R(fm:a0G)(xs:List Pc):List Int:=a1t fm xs++(a7O 4 (a4s (a1t fm xs))++a0X xs)
def a2A(l:List Int)(ch st en:Nat):List Int:=(l.take (en*ch)).drop (st*ch)
theorem c1p{l:List Int}{ch st en:Nat}(h:en*ch≤l.length):(a2A l ch st en).length=(en-st)*ch:=by
 simp_all[a2A,a85]
theorem c1q{l:List Int}{ch st en:Nat}(h:st≤en):l.take (st*ch)++a2A l ch st en=l.take (en*ch):=by
 grind[a2A,a03,List.take_append_drop]
theorem c9h{l:List Int}{p:Int→Bool}{ch st en:Nat}(h:l.all p=true):(a2A l ch st en).all p=true:=
 lA.2 fun x g=>lA.1 h x (a70 (a71 g))
theorem b4i(h:List Pc):(nsP h).length=2*h.length:=by
 induction h with
 |nil=>rfl
 |cons x h ih=>grind[nsP]
theorem d1h(h:List Pc)(x:Pc):nsP (h++[x])=nsP h++[x.2.2.length,a0K x.2.1]:=by simp[nsP]
theorem c1r{fm:a0G}:∀{xs:List Pc}{st:Nat},a2Z fm st xs→∀n∈nsP xs,n<1048704
 | [],_,_,n,hn=>by simp[nsP]at hn
 |x::xs,st,h,n,hn=>by
  have g:=h.1.2.2.2.2.2.2.2.2;simp only[nsP,a33,mA,mC,a49,or_false]at hn;rcases hn with(rfl|rfl)|hn;omega;omega;exact c1r h.2 n hn
theorem b6d{fm:a0G}:∀{xs:List Pc}{st:Nat},a2Z fm st xs→xs.length≤a1m xs∧a1m xs≤64*xs.length
 | [],_,_=>by simp[a1m]
 |x::xs,st,h=>by
  have g:=h.1.2.2.2.2.2.2.1.2.2.2.2.1;have f:=h.1.2.2.2.2.2.2.2.2.1
  have:=b6d h.2
  simp only[a1m,a26,List.sum_cons,lC]at *;omega
theorem b3x:∀(l:List Nat),(∀n∈l,n<9223372036854775808)→(l.flatMap a0L).length≤9*l.length
 | [],_=>by simp
 |n::l,h=>by
  have:=(a8S (h n (by simp))).2
  have:=b3x l fun m g=>h m (by simp[g])
  simp only[a33,lN,lC];omega
theorem a7K{fm:a0G}(f:a1Q fm){xs:List Pc}(h:a2Z fm 0 xs)(i:xs.length≤256):∀n∈a3W fm xs,n<1048704:=fun n g=>by
 simp only[a3W,mA,mC,a49,or_false]at g;obtain⟨k,a,b,c,d,e⟩:=f;rcases g with(rfl|rfl|rfl|rfl)|g;omega;omega;omega;omega;exact c1r h n g
theorem c1s{fm:a0G}(g:a1Q fm){xs:List Pc}(h:a2Z fm 0 xs)(k:xs.length≤256):(a1t fm xs).length≤6000:=by
 have a:=b3x (a3W fm xs) fun n f=>a08 (a7K g h k n f) (by simp)
 grind[a3W,b4i,a1t,b7R,a9J]
def a9K(y0 d q r:Nat):Prop:=4294967296≤q∨4294967296*r+d<q*y0
instance (y0 d q r:Nat):Decidable (a9K y0 d q r):=inferInstanceAs (Decidable (_∨_))
def b6e(u d y1 y0:Nat):Nat:=
 if a9K y0 d (u / y1) (u%y1)then
  if 4294967296≤u%y1+y1 then u / y1-1
  else if a9K y0 d (u / y1-1) (u%y1+y1)then u / y1-2 else u / y1-1
 else u / y1
theorem d2O{u d y1 y0:Nat}(t:2147483648≤y1)(p:y0<4294967296)(w:u<y1*4294967296+y0)(v:d<4294967296):
  b6e u d y1 y0=(u*4294967296+d) / (y1*4294967296+y0):=by
 have hp:0<y1:=by omega
 have e:u=u / y1*y1+u%y1:=(Nat.div_add_mod' u y1).symm;have s:=a22 u hp;have j:u / y1≤4294967297:=by
  have:u / y1<4294967298:=(a67 hp).2 (by omega)
  omega
 have y:u*4294967296+d<(u / y1+1)*(y1*4294967296+y0):=by
  grind
 have over:∀{q r:Nat},u=q*y1+r→a9K y0 d q r→u*4294967296+d<q*(y1*4294967296+y0):=by
  intro q r g f;rcases f with f|f
  have:=a03 (y1*4294967296+y0) f
  omega
  grind
 have fits:∀{q r:Nat},u=q*y1+r→¬ a9K y0 d q r→q*(y1*4294967296+y0)≤u*4294967296+d:=
  fun g f=>c9e g (Nat.le_of_not_lt fun h=>f (.inr h))
 have i:∀{q r:Nat},u=q*y1+r→q≤4294967296→4294967296≤r→q*(y1*4294967296+y0)≤u*4294967296+d:=by
  intro q r g j s;refine c9e g ?_
  have a:=a06 j (a52 p);omega
 unfold b6e;generalize u / y1=q at *;generalize u%y1=r at *;have done:∀{m:Nat},m*(y1*4294967296+y0)≤u*4294967296+d→u*4294967296+d<(m+1)*(y1*4294967296+y0)→m=(u*4294967296+d) / (y1*4294967296+y0):=
  fun a b=>(Nat.div_eq_of_lt_le a b).symm
 by_cases c:a9K y0 d q r
 rw[if_pos c];have o:=over e c;have q1:1≤q:=a76 fun z=>by grind
 obtain⟨q,rfl⟩:∃k,q=k+1:=⟨q-1,by omega⟩;rw[Nat.add_sub_cancel];have l:u=q*y1+(r+y1):=by grind
 by_cases c1:4294967296≤r+y1
 grind
 rw[if_neg c1]
 by_cases c2:a9K y0 d q (r+y1)
 rw[if_pos c2];have o1:=over l c2;have x:1≤q:=a76 fun z=>by grind
 obtain⟨q,rfl⟩:∃k,q=k+1:=⟨q-1,by omega⟩;have n:u=q*y1+(r+y1+y1):=by grind
 exact done (m:=q) (i n (by omega) (by omega)) o1
 grind
 grind
theorem d4n(hi lo:Nat):
  (((hi*8+lo / 2305843009213693952)*4294967296+lo*8%18446744073709551616 / 4294967296)%18446744073709551608*4294967296+lo*8%18446744073709551616%4294967296)%18446744073709551608 / 8
   = (hi*18446744073709551616+lo)%prm:=by
 have e:((hi*8+lo / 2305843009213693952)*4294967296+lo*8%18446744073709551616 / 4294967296)*4294967296+lo*8%18446744073709551616%4294967296=(hi*18446744073709551616+lo)*8:=by omega
 rw[d2K,e];exact c9f _ 8 prm (by simp)
theorem d1i{hi lo:Nat}(h:hi<prm)(g:lo<18446744073709551616):hi*8+lo / 2305843009213693952<4294967295*4294967296+4294967288:=by
 unfold prm at h;omega
theorem c9i{a b c:Nat}(h:a<prm)(hb:b<prm)(g:c≤prm):(a*b+c) / 18446744073709551616<prm:=by
 have:=a06 (a72 h) (a72 hb)
 unfold prm at *;omega
theorem d4o{a b x0 x1 y0 y1 t:Nat}(k:x0=a%4294967296)(c:x1=a / 4294967296)(d:y0=b%4294967296)(i:y1=b / 4294967296)(r:t=x1*y0+x0*y0 / 4294967296)
  (n:a<18446744073709551616)(hb:b<18446744073709551616):
  x1*y1+t / 4294967296+(t%4294967296+x0*y1) / 4294967296=a*b / 18446744073709551616∧x0*y0<18446744073709551616∧t<18446744073709551616∧t%4294967296+x0*y1<18446744073709551616:=by
 have j:a=x1*4294967296+x0:=by omega
 have l:b=y1*4294967296+y0:=by omega
 have e:a*b=x1*y1*18446744073709551616+(x1*y0+x0*y1)*4294967296+x0*y0:=by
  grind
 have m:∀{p q:Nat},p<4294967296→q<4294967296→p*q≤4294967295*4294967295:=fun hp o=>a06 (by omega) (by omega);have h:=m (show x0<4294967296 by omega) (show y0<4294967296 by omega);have f:=m (show x1<4294967296 by omega) (show y0<4294967296 by omega);have g:=m (show x0<4294967296 by omega) (show y1<4294967296 by omega);omega
theorem c7U(n:Nat):wrap .u64 (n:Int)=((n%18446744073709551616:Nat):Int):=by
 rfl
theorem c4o{n k:Nat}(h:k≤64):A0o .u64 (n:Int) (k:Int)=((n / 2^k:Nat):Int):=by
 have g:min (a32 (k:Int)) (IntKind.bits .u64)=k:=by simp_all[IntKind.bits]
 unfold A0o
 grind
theorem c9j(n:Nat):A0o .u64 (n:Int) 32=((n / 4294967296:Nat):Int):=c4o (k:=32) (by omega)
theorem d1Z(n:Nat):bits .u64 .and (n:Int) 4294967295=((n%4294967296:Nat):Int):=by
 show wrap .u64 (((a00 64 (n:Int) &&& a00 64 4294967295).toNat:Nat):Int)=_;have g:(a00 64 4294967295).toNat=4294967295:=rfl;have h:(a00 64 (n:Int)).toNat=n%18446744073709551616:=by rfl
 rw[a48,h,g,show 4294967295=2^32-1 from rfl,a31,c7U];omega
theorem d8H{a b:Nat}(f:a<2305843009213693952)(hb:b<8):bits .u64 .or ((a*8:Nat):Int) (b:Int)=((a*8+b:Nat):Int):=by
 show wrap .u64 (((a00 64 ((a*8:Nat):Int) ||| a00 64 (b:Int)).toNat:Nat):Int)=_;have h:(a00 64 ((a*8:Nat):Int)).toNat=2^3*a:=by grind[a29]
 have g:(a00 64 (b:Int)).toNat=b:=by grind
 rw[a90,h,g,←a53 (i:=3) hb a,c7U];omega
theorem d1j{a b:Nat}(f:a<18446744073709551616)(hb:b<18446744073709551616):a6d ((a:Int),(b:Int))=some (((a*b / 18446744073709551616:Nat):Int),((a*b%18446744073709551616:Nat):Int)):=by
 obtain⟨k,c,d,e⟩:=d4o (a:=a) (b:=b) rfl rfl rfl rfl rfl f hb;unfold a6d;simp only[c9j,d1Z,←a92,←Int.natCast_add,c7U,sj,pJ,Int.natCast_inj];refine⟨?_,trivial⟩
 revert k c d e
 generalize a%4294967296*(b%4294967296)=p00;generalize a / 4294967296*(b%4294967296)=p10;generalize a%4294967296*(b / 4294967296)=p01;have i:a*b / 18446744073709551616<18446744073709551616:=a73 (Nat.lt_of_le_of_lt (a06 (a52 f) (a52 hb)) (by omega:18446744073709551616*18446744073709551616<18446744073709551616*18446744073709551616+1) |> fun h=>by
  rcases Nat.lt_or_ge (a*b) (18446744073709551616*18446744073709551616)with g|g;omega
  have:=Nat.mul_lt_mul_of_lt_of_le f (a52 hb) (by omega);omega)
 omega
theorem b7f{α:Type}(p:Prop)[Decidable p](a b:α):(bif decide p then a else b)=if p then a else b:=by
 simp
theorem d4p:a3Z 2305843009213693951=some 3:=by rfl
theorem c7V{u d q:Nat}(h:q=b6e u d 4294967295 4294967288)(f:u<4294967295*4294967296+4294967288)(g:d<4294967296):q*18446744073709551608≤u*4294967296+d∧u*4294967296+d<q*18446744073709551608+18446744073709551608∧q<4294967296:=by
 grind[d2O]
theorem b7g{u d u0 q r:Nat}{s:Int}(c:d<4294967296)(e:q≤4294967297)(i:r<4294967296):a2i ((18446744073709551608:Int),s,(4294967295:Int),(4294967288:Int),(u:Int),(d:Int),(u0:Int),(q:Int),(r:Int),()) =
  if a9K 4294967288 d q r then(if 4294967296≤r+4294967295 then some (.inr ((18446744073709551608:Int),s,(4294967295:Int),(4294967288:Int),(u:Int),(d:Int),(u0:Int),((q-1:Nat):Int),()))else some (.inl ((18446744073709551608:Int),s,(4294967295:Int),(4294967288:Int),(u:Int),(d:Int),(u0:Int),((q-1:Nat):Int),((r+4294967295:Nat):Int),())))else some (.inr ((18446744073709551608:Int),s,(4294967295:Int),(4294967288:Int),(u:Int),(d:Int),(u0:Int),(q:Int),())):=by
 have a:wrap .u64 ((q:Int)-1)=(((q-1:Nat)):Int)∨q=0:=by
  rcases a77 q with h|h;exact .inr h;left;rw[a0M (by omega)];omega
 have f:wrap .u64 ((r:Int)+4294967295)=((r+4294967295:Nat):Int):=by rw[a0M (by omega)];omega
 have k:decide (wrap .u64 ((r:Int)+4294967295)≥(4294967296:Int))=decide (4294967296≤r+4294967295):=by
  rw[f];exact decide_eq_decide.2 (by omega)
 have tail:q≠0→(bif decide (wrap .u64 ((r:Int)+4294967295)≥(4294967296:Int))then(some (.inr ((18446744073709551608:Int),s,(4294967295:Int),(4294967288:Int),(u:Int),(d:Int),(u0:Int),(wrap .u64 ((q:Int)-1)),())):Option (_ ⊕ (Int×Int×Int×Int×Int×Int×Int×Int×Unit)))else some (.inl ((18446744073709551608:Int),s,(4294967295:Int),(4294967288:Int),(u:Int),(d:Int),(u0:Int),(wrap .u64 ((q:Int)-1)),(wrap .u64 ((r:Int)+4294967295)),()))) =
   (if 4294967296≤r+4294967295 then some (.inr ((18446744073709551608:Int),s,(4294967295:Int),(4294967288:Int),(u:Int),(d:Int),(u0:Int),((q-1:Nat):Int),()))else some (.inl ((18446744073709551608:Int),s,(4294967295:Int),(4294967288:Int),(u:Int),(d:Int),(u0:Int),((q-1:Nat):Int),((r+4294967295:Nat):Int),()))):=fun b=>by
  rw[k,a.resolve_right b,f];exact b7f ..
 by_cases h1:4294967296≤q
 have c0:decide ((q:Int)≥(4294967296:Int))=true:=decide_eq_true (by omega);rw[if_pos (.inl h1),←tail (by omega)];unfold a2i;dsimp only;rw[c0,cT,oB];have c0:decide ((q:Int)≥(4294967296:Int))=false:=decide_eq_false (by omega);have j:wrap .u64 ((q:Int)*4294967288)=((q*4294967288:Nat):Int):=by rw[a0M (by omega)];omega
 have l:wrap .u64 (wrap .u64 ((4294967296:Int)*(r:Int))+(d:Int))=((4294967296*r+d:Nat):Int):=by rw[a0M (n:=4294967296*(r:Int)) (by omega),a0M (by omega)];omega
 by_cases h2:4294967296*r+d<q*4294967288
 have g:decide (wrap .u64 ((q:Int)*4294967288) > wrap .u64 (wrap .u64 ((4294967296:Int)*(r:Int))+(d:Int)))=true:=decide_eq_true (by omega);rw[if_pos (.inr h2),←tail (by omega)];unfold a2i;dsimp only;rw[c0,cF,g,cT,oB];have g:decide (wrap .u64 ((q:Int)*4294967288) > wrap .u64 (wrap .u64 ((4294967296:Int)*(r:Int))+(d:Int)))=false:=decide_eq_false (by omega);rw[if_neg (by unfold a9K;omega)];unfold a2i;dsimp only;rw[c0,cF,g,cF,oB]
theorem d4q{u d u0:Nat}{s:Int}(k:u<4294967295*4294967296+4294967288)(f:d<4294967296):
  y0s a2i ((18446744073709551608:Int),s,(4294967295:Int),(4294967288:Int),(u:Int),(d:Int),(u0:Int),((u / 4294967295:Nat):Int),((u%4294967295:Nat):Int),())=some ((18446744073709551608:Int),s,(4294967295:Int),(4294967288:Int),(u:Int),(d:Int),(u0:Int),((b6e u d 4294967295 4294967288:Nat):Int),()):=by
 have h:u / 4294967295≤4294967297:=by omega
 have g:u%4294967295<4294967295:=a22 _ (by omega);unfold b6e
 revert h g
 generalize u / 4294967295=q;generalize u%4294967295=r;intro h g;have s0:=b7g (u0:=u0) (s:=s) (u:=u) f h (a83 g)
 by_cases c1:a9K 4294967288 d q r
 ·rw[if_pos c1]at s0⊢
  by_cases c2:4294967296≤r+4294967295
  simp_all[a0F]
  ·rw[if_neg c2]at s0⊢;rw[a0E s0];have a:=b7g (u0:=u0) (s:=s) (u:=u) (q:=q-1) (r:=r+4294967295) f (by omega) (by omega)
   by_cases c3:a9K 4294967288 d (q-1) (r+4294967295)
   all_goals simp_all[Nat.sub_sub,a0F]
 simp_all[a0F]
theorem b7h{u d q r:Nat}{s q1:Int}(c:d<4294967296)(e:q≤4294967297)(i:r<4294967296):a2j ((18446744073709551608:Int),s,(4294967295:Int),(4294967288:Int),(d:Int),q1,(r:Int),(u:Int),(q:Int),()) =
  if a9K 4294967288 d q r then(if 4294967296≤r+4294967295 then some (.inr ((18446744073709551608:Int),s,(d:Int),q1,(u:Int),((q-1:Nat):Int),()))else some (.inl ((18446744073709551608:Int),s,(4294967295:Int),(4294967288:Int),(d:Int),q1,((r+4294967295:Nat):Int),(u:Int),((q-1:Nat):Int),())))else some (.inr ((18446744073709551608:Int),s,(d:Int),q1,(u:Int),(q:Int),())):=by
 have a:wrap .u64 ((q:Int)-1)=(((q-1:Nat)):Int)∨q=0:=by
  rcases a77 q with h|h;exact .inr h;left;rw[a0M (by omega)];omega
 have f:wrap .u64 ((r:Int)+4294967295)=((r+4294967295:Nat):Int):=by rw[a0M (by omega)];omega
 have k:decide (wrap .u64 ((r:Int)+4294967295)≥(4294967296:Int))=decide (4294967296≤r+4294967295):=by
  rw[f];exact decide_eq_decide.2 (by omega)
 have tail:q≠0→(bif decide (wrap .u64 ((r:Int)+4294967295)≥(4294967296:Int))then(some (.inr ((18446744073709551608:Int),s,(d:Int),q1,(u:Int),(wrap .u64 ((q:Int)-1)),())):Option (_ ⊕ (Int×Int×Int×Int×Int×Int×Unit)))else some (.inl ((18446744073709551608:Int),s,(4294967295:Int),(4294967288:Int),(d:Int),q1,(wrap .u64 ((r:Int)+4294967295)),(u:Int),(wrap .u64 ((q:Int)-1)),()))) =
   (if 4294967296≤r+4294967295 then some (.inr ((18446744073709551608:Int),s,(d:Int),q1,(u:Int),((q-1:Nat):Int),()))else some (.inl ((18446744073709551608:Int),s,(4294967295:Int),(4294967288:Int),(d:Int),q1,((r+4294967295:Nat):Int),(u:Int),((q-1:Nat):Int),()))):=fun b=>by
  rw[k,a.resolve_right b,f];exact b7f ..
 by_cases h1:4294967296≤q
 have c0:decide ((q:Int)≥(4294967296:Int))=true:=decide_eq_true (by omega);rw[if_pos (.inl h1),←tail (by omega)];unfold a2j;dsimp only;rw[c0,cT,oB];have c0:decide ((q:Int)≥(4294967296:Int))=false:=decide_eq_false (by omega);have j:wrap .u64 ((q:Int)*4294967288)=((q*4294967288:Nat):Int):=by rw[a0M (by omega)];omega
 have l:wrap .u64 (wrap .u64 ((4294967296:Int)*(r:Int))+(d:Int))=((4294967296*r+d:Nat):Int):=by rw[a0M (n:=4294967296*(r:Int)) (by omega),a0M (by omega)];omega
 by_cases h2:4294967296*r+d<q*4294967288
 have g:decide (wrap .u64 ((q:Int)*4294967288) > wrap .u64 (wrap .u64 ((4294967296:Int)*(r:Int))+(d:Int)))=true:=decide_eq_true (by omega);rw[if_pos (.inr h2),←tail (by omega)];unfold a2j;dsimp only;rw[c0,cF,g,cT,oB];have g:decide (wrap .u64 ((q:Int)*4294967288) > wrap .u64 (wrap .u64 ((4294967296:Int)*(r:Int))+(d:Int)))=false:=decide_eq_false (by omega);rw[if_neg (by unfold a9K;omega)];unfold a2j;dsimp only;rw[c0,cF,g,cF,oB]
theorem d4r{u d:Nat}{s q1:Int}(k:u<4294967295*4294967296+4294967288)(f:d<4294967296):
  y0s a2j ((18446744073709551608:Int),s,(4294967295:Int),(4294967288:Int),(d:Int),q1,((u%4294967295:Nat):Int),(u:Int),((u / 4294967295:Nat):Int),())=some ((18446744073709551608:Int),s,(d:Int),q1,(u:Int),((b6e u d 4294967295 4294967288:Nat):Int),()):=by
 have h:u / 4294967295≤4294967297:=by omega
 have g:u%4294967295<4294967295:=a22 _ (by omega);unfold b6e
 revert h g
 generalize u / 4294967295=q;generalize u%4294967295=r;intro h g;have s0:=b7h (s:=s) (q1:=q1) (u:=u) f h (a83 g)
 by_cases c1:a9K 4294967288 d q r
 ·rw[if_pos c1]at s0⊢
  by_cases c2:4294967296≤r+4294967295
  simp_all[a0F]
  ·rw[if_neg c2]at s0⊢;rw[a0E s0];have a:=b7h (s:=s) (q1:=q1) (u:=u) (q:=q-1) (r:=r+4294967295) f (by omega) (by omega)
   by_cases c3:a9K 4294967288 d (q-1) (r+4294967295)
   all_goals simp_all[Nat.sub_sub,a0F]
 simp_all[a0F]
theorem d5V(n:Int):wrap .u64 n=n%18446744073709551616:=by rfl
theorem d2P{u d Q:Nat}(h:Q*18446744073709551608≤u*4294967296+d)(g:u*4294967296+d<Q*18446744073709551608+18446744073709551608):
  wrap .u64 (wrap .u64 (wrap .u64 ((u:Int)*4294967296)+(d:Int))-wrap .u64 ((Q:Int)*18446744073709551608))=(((u*4294967296+d)%18446744073709551608:Nat):Int):=by
 grind[d5V]
theorem c6h{u:Nat}(h:u<18446744073709551616):wrap .u64 ((u:Int)-wrap .u64 (((u / 4294967295:Nat):Int)*4294967295))=((u%4294967295:Nat):Int):=by
 grind[a0M]
theorem sh3(n:Nat):A0n .u64 (n:Int) 3=((n*8%18446744073709551616:Nat):Int):=by
 rfl
theorem d1k(lo:Nat):a3c (0,(lo:Int),(2305843009213693951:Int))=some (wrap .u64 (a25 (lo:Int) 2305843009213693951),((lo%2305843009213693951:Nat):Int)):=by
 rfl
theorem d5W:wrap .u64 3=3:=by rfl
theorem d4s:wrap .u64 (64-3)=((61:Nat):Int):=by rfl
theorem d5X:A0n .u64 2305843009213693951 3=18446744073709551608:=by rfl
theorem d5Y:A0o .u64 18446744073709551608 32=4294967295:=by rfl
theorem d5Z:bits .u64 .and 18446744073709551608 4294967295=4294967288:=by rfl
theorem d6a:((2305843009213693951:Int)==0)=false:=by rfl
theorem d6b:decide ((3:Int)<0)=false:=by rfl
theorem d6c:decide (((61:Nat):Int)<0)=false:=by rfl
theorem d6d:((4294967295:Int)==0)=false:=by rfl
theorem c9k{u d Q v:Nat}(hv:(u*4294967296+d)%18446744073709551608=v)(h:Q*18446744073709551608≤u*4294967296+d)(g:u*4294967296+d<Q*18446744073709551608+18446744073709551608):
  wrap .u64 (wrap .u64 (wrap .u64 ((u:Int)*4294967296)+(d:Int))-wrap .u64 ((Q:Int)*18446744073709551608))=(v:Int):=by
 simp_all[d2P]
theorem d2a{u:Nat}(h:u<18446744073709551616):wrap .u64 ((u / 4294967295:Nat):Int)=((u / 4294967295:Nat):Int):=a0M (by omega)
theorem d2Q{hi lo u d e v r:Nat}(hv:(u*4294967296+d)%18446744073709551608=v)(m:(v*4294967296+e)%18446744073709551608=r)(y:hi≠0)(z:hi<2305843009213693951)(o:hi*8+lo / 2305843009213693952=u)(i:lo*8%18446744073709551616 / 4294967296=d)(j:lo*8%18446744073709551616%4294967296=e)(A:lo<18446744073709551616)
  (h:u<4294967295*4294967296+4294967288)(f:d<4294967296)(a:e<4294967296):
  ∃q:Int,a3c ((hi:Int),(lo:Int),(2305843009213693951:Int))=some (q,((r / 8:Nat):Int)):=by
 have c0:((hi:Int)==0)=false:=by simp_all
 have b:decide ((2305843009213693951:Int)≤(hi:Int))=false:=decide_eq_false (by omega);have c:hi*8%18446744073709551616=hi*8:=by omega
 have l:bits .u64 .or ((hi*8:Nat):Int) (A0o .u64 (lo:Int) ((61:Nat):Int))=(u:Int):=by
  rw[c4o (k:=61) (by omega),show 2^61=2305843009213693952 from rfl,d8H (by omega) (by omega),o]
 have p:=d4q (u0:=e) (s:=3) h f;have B:=c9k hv (c7V rfl h f).1 (c7V rfl h f).2.1;have g:v<4294967295*4294967296+4294967288:=by grind
 have l1:=d4r (s:=3) (q1:=((b6e u d 4294967295 4294967288:Nat):Int)) g a;have C:=c9k m (c7V rfl g a).1 (c7V rfl g a).2.1;have t:=c6h (u:=u) (a08 h (by simp));have r2:=c6h (u:=v) (a08 g (by simp));have w:wrap .u64 ((u / 4294967295:Nat):Int)=((u / 4294967295:Nat):Int):=d2a (a08 h (by simp));have x:wrap .u64 ((v / 4294967295:Nat):Int)=((v / 4294967295:Nat):Int):=d2a (a08 g (by simp));have q1:a25 (u:Int) 4294967295=((u / 4294967295:Nat):Int):=rfl;have D:a25 (v:Int) 4294967295=((v / 4294967295:Nat):Int):=rfl;have g8:∀n:Nat,A0o .u64 (n:Int) 3=((n / 8:Nat):Int):=fun n=>c4o (k:=3) (by omega);unfold a3c;dsimp only;rw[d6a,cF,b,cF,c0,cF,d4p,oB,d5W,d6b,cF,cF,d4s,d6c,cF,cF,d5X,d5Y,d6d,cF,d5Z,sh3 hi,c,l,sh3 lo,c9j,i,d1Z,j,q1,w,t,p,oB];simp_all
theorem d2R{hi lo:Nat}(h:hi<prm)(g:lo<18446744073709551616):∃q:Int,a3c ((hi:Int),(lo:Int),(2305843009213693951:Int))=some (q,(((hi*18446744073709551616+lo)%prm:Nat):Int)):=by
 by_cases h0:hi=0
 subst h0;rw[Nat.zero_mul,a30];exact⟨_,d1k lo⟩;rw[←d4n hi lo];exact d2Q rfl rfl h0 h rfl rfl rfl g (d1i h g) (a73 (Nat.lt_of_lt_of_le (a22 _ (by omega)) (by omega))) (a22 _ (by omega))
theorem b6r{a b c:Nat}(g:a<prm)(hb:b<prm)(f:c≤prm):a5U ((a:Int),(b:Int),(c:Int))=some (((a*b+c)%prm:Nat):Int):=by
 have k:=c9i g hb f;unfold prm at g hb f k;have l:=d1j (a:=a) (b:=b) (by omega) (by omega);have j:a8Y (((a*b%18446744073709551616:Nat):Int),(c:Int),(0:Int))=some ((((a*b%18446744073709551616+c)%18446744073709551616:Nat):Int),(((a*b%18446744073709551616+c) / 18446744073709551616:Nat):Int)):=rfl;obtain⟨hi,h⟩:∃hi,(a*b+c) / 18446744073709551616=hi:=⟨_,rfl⟩;rw[h]at k;have i:wrap .u64 (((a*b / 18446744073709551616:Nat):Int)+((a*b%18446744073709551616+c) / 18446744073709551616:Nat))=(hi:Int):=by
  grind[a0M]
 obtain⟨q,d⟩:=d2R (hi:=hi) (lo:=(a*b%18446744073709551616+c)%18446744073709551616) (by unfold prm;omega) (by omega);have e:hi*18446744073709551616+(a*b%18446744073709551616+c)%18446744073709551616=a*b+c:=by omega
 rw[e]at d;have t:a46 (hi:Int) 2305843009213693951=(hi:Int):=by
  grind
 unfold a5U a8Z;simp_all
theorem b7i(l:List Int)(n i:Int):∀(j k:Nat)(s:Int),k+j=8→y0s a7L (s,l,n,i,(k:Int),())=some (rep e32 j s,l,n,i,())
 |0,k,s,h=>by
  obtain rfl:k=8:=by omega
  rfl
 |j+1,k,s,h=>by
  have d:decide ((k:Int)<8)=true:=by grind
  rw[a0E (s':=(e32 s,l,n,i,((k+1:Nat):Int),())) (by
   simp only[a7L,d,cT,a0C (show k<1000000 by omega),e32]
   grind)]
  exact b7i l n i j (k+1) (e32 s) (by omega)
theorem b9e{l:List Int}(k:short l):∀(rest done:List Int)(s:BitVec 32),done++rest=l→(∀b∈rest,0≤b∧b<256)→
  y0s a5c (((s.toNat:Nat):Int),l,(l.length:Int),(done.length:Int),())=some ((((d4j s (rest.map (a00 32))).toNat:Nat):Int),())
 | [],done,s,hd,_=>by
  obtain rfl:done=l:=by simp_all
  exact a0F (by simp only[a5c,dge,cF];rfl)
 |x::rest,done,s,hd,hb=>by
  have g:done.length<l.length:=by grind
  have a:m0k l (done.length:Int)=some x:=by grind[a0D]
  have c:=hb x (by simp);have e:bits .u32 .xor ((s.toNat:Nat):Int) (wrap .u32 x)=(((s ^^^ a00 32 x).toNat:Nat):Int):=by
   rw[←c7T]
   grind[a29,wrap,IntKind.bits]
  have f:=b7i l (l.length:Int) (done.length:Int) 8 0 (bits .u32 .xor ((s.toNat:Nat):Int) (wrap .u32 x)) rfl;rw[e,c4n]at f;rw[a0E (s':=((((d1f s (a00 32 x)).toNat:Nat):Int),l,(l.length:Int),(((done++[x]).length:Nat):Int),())) (by
   simp only[a5c,dlt g,cT,a,oB,e]
   erw[f]
   simp only[oB,a0C (a08 g k)];simp[d1f])]
  exact b9e k rest (done++[x]) _ (by simp_all) (fun b h=>hb b (by grind))
theorem b6f{l:List Int}(g:short l)(hb:∀b∈l,0≤b∧b<256):a4I l=some ((a4s l:Nat):Int):=by
 have h:=b9e g l [] 0xffffffff#32 rfl hb;rw[a21]at h;unfold a4I
 erw[h]
 simp only[oB];rw[show IntKind.max .u32=(((0xffffffff#32).toNat:Nat):Int)from rfl,c7T];rfl
theorem b9f{l:List Int}(k:short l):∀(rest done:List Int)(h:Nat),done++rest=l→h<prm→(∀b∈rest,0≤b∧b<256)→
  y0s a7V ((h:Int),l,(l.length:Int),(done.length:Int),())=some (((prs h (rest.map a32):Nat):Int),())
 | [],done,h,hd,_,_=>by
  obtain rfl:done=l:=by simp_all
  exact a0F (by simp only[a7V,dge,cF];rfl)
 |x::rest,done,h,hd,hh,hb=>by
  have g:done.length<l.length:=by grind
  have d:m0k l (done.length:Int)=some x:=by grind[a0D]
  have i:=hb x (by simp);have e:wrap .u64 ((wrap .u64 x)+(1:Int))=((x.toNat+1:Nat):Int):=by grind[a0M]
  have f:=b6r (a:=h) (b:=1000003) (c:=x.toNat+1) hh (by decide) (by unfold prm;omega);rw[a0E (s':=((((h*1000003+(x.toNat+1))%prm:Nat):Int),l,(l.length:Int),(((done++[x]).length:Nat):Int),())) (by
   simp only[a7V,dlt g,cT,d,oB,e]
   erw[f]
   simp[a0C (a08 g k)])]
  exact b9f k rest (done++[x]) _ (by simp_all) (a22 _ (by decide)) (fun b h=>hb b (by grind))
theorem c4p{l:List Int}(g:short l)(hb:∀b∈l,0≤b∧b<256):a8g l=some ((prI l:Nat):Int):=by
 have h:=b9f g l [] 0 rfl (by decide) hb;unfold a8g
 erw[h]
 rfl
theorem b4Y:∀(k n p s:Nat),n<2^k→n<4611686018427387904→p<prm→s<prm→y0s a7U ((n:Int),(p:Int),(s:Int),())=some (((pwr k n p s:Nat):Int),())
 |0,n,p,s,hn,_,_,_=>by
  obtain rfl:n=0:=by omega
  rfl
 |k+1,n,p,s,hn,hn2,hp,hs=>by
  by_cases h0:n=0
  subst h0;rfl;have d:decide ((n:Int) > 0)=true:=by grind
  have f:a46 (n:Int) 2=((n%2:Nat):Int):=rfl;have e:wrap .i64 (a25 (n:Int) 2)=((n / 2:Nat):Int):=by rw[show a25 (n:Int) 2=((n / 2:Nat):Int)from rfl,a0B (by omega)]
  have g:=b6r (c:=0) hs hs (by simp);have h:=b6r (c:=0) hp hs (by simp);have a:n / 2<2^k:=by omega
  simp only[a80,nZ]at g h;have m:=a22 (s*s) (show 0<prm by decide);rw[pwr,if_neg h0]
  by_cases h1:n%2=1
  rw[if_pos h1,a0E (s':=(((n / 2:Nat):Int),((p*s%prm:Nat):Int),((s*s%prm:Nat):Int),())) (by
   simp only[a7U,d,cT,f,h1,show(((1:Nat):Int)==1)=true from rfl];simp_all)]
  exact b4Y k _ _ _ a (by omega) (a22 _ (by decide)) m;have b:n%2=0:=by omega
  rw[if_neg h1,a0E (s':=(((n / 2:Nat):Int),(p:Int),((s*s%prm:Nat):Int),())) (by
   simp only[a7U,d,cT,f,b,show(((0:Nat):Int)==1)=false from rfl,cF,oB];simp_all)]
  exact b4Y k _ _ _ a (by omega) hp m
theorem c6i{a b n:Nat}(f:a<prm)(hb:b<prm)(h:n<4611686018427387904):a9k ((a:Int),(b:Int),(n:Int))=some ((((a*(1000003^n%prm)+b)%prm:Nat):Int),true):=by
 have hp:=b4Y 62 n 1 1000003 h h (by decide) (by decide);rw[d4i 62 n 1 1000003 h (by decide),Nat.one_mul]at hp;have j:=b6r (c:=b) f (a22 (1000003^n) (show 0<prm by decide)) (a52 hb);unfold prm at f hb;have k:decide ((a:Int)≥(2305843009213693951:Int))=false:=by grind
 have d:decide ((b:Int)≥(2305843009213693951:Int))=false:=by grind
 have e:decide ((n:Int)<(0:Int))=false:=by simp
 have i:v0r (n:Int) 0=(n:Int):=by rfl
 have g:b0A (n:Int)=some ((1000003^n%prm:Nat):Int):=by
  simp_all[b0A]
 simp only[a9k,k,d,e,cF,oB,g];simp_all
theorem c4q(b:a1b)(N:Int){i:Nat}:∀(rest done:List (List Int)) (out:List Int),done++rest=b.2.1→b.2.1.length≤8→(∀r∈rest,i<r.length)→out.length+rest.length<1000000→
  y0s a6O ((i:Int),N,(i:Int),b.2.1,(b.2.1.length:Int),(done.length:Int),out,b,())=some (N,(i:Int),out++rest.map (fun r=>r.getD i 0),b,())
 | [],done,out,hd,_,_,_=>by
  simp_all[a0F,a6O]
 |r::rest,done,out,hd,h8,hr,ho=>by
  have g:done.length<b.2.1.length:=by grind
  have f:m0k b.2.1 (done.length:Int)=some r:=by grind[a0D]
  have k:=hr r (by simp);have h:m0k r (i:Int)=some (r.getD i 0):=by simp_all[a0D]
  simp at ho;rw[a0E (s':=((i:Int),N,(i:Int),b.2.1,(b.2.1.length:Int),(((done++[r]).length:Nat):Int),out++[r.getD i 0],b,())) (by
   simp only[a6O,dlt g,cT,f,h,oB,a0T (show out.length+1<2147483648 by omega),a0C (show done.length<1000000 by omega)]
   simp)]
  rw[c4q b N rest (done++[r]) _ (by simp_all) h8 (fun q a=>hr q (by grind)) (by grind)]
  simp
theorem c4r{b:a1b}(hb:a1W b):a7k b=some (wvB b):=by
 obtain⟨g1,g2,g3,g4,g5,g6,g7⟩:=id hb;have hlen:∀r∈b.2.1,r.length=a0K b:=fun r hr=>by
  simp_all
 have hw:∀i,i≤4096→(wv i b.2.1).length≤32768:=fun i hi=>by
  rw[c9g]
  calc i*b.2.1.length≤4096*8:=a06 hi g4
   _=32768:=rfl
 have h:=a1D (f:=a6P) (fun i=>(((a0K b:Nat):Int),(i:Int),wv i b.2.1,b,())) (a0K b) (b:=(wv (a0K b) b.2.1,())) (fun i hi=>by
  have h0:=c4q b ((a0K b:Nat):Int) (i:=i) b.2.1 [] (wv i b.2.1) rfl g4 (fun r hr=>by simp_all) (by grind);rw[a21]at h0;simp only[a6P,dlt hi,cT]
  grind[a0C,wv,a38]) (by simp_all[a6P])
 unfold a7k;simp[a6D,hb,a4Z]
 erw[h]
 rfl
theorem b2C{b:a1b}:(wvB b).length=a0K b*b.2.1.length:=c9g _
theorem d2S{b:a1b}(hb:a1W b):(wvB b).all (fun x=>a1h x b.1)=true:=by
 obtain⟨g,f,k,a,c,d,e⟩:=hb;refine lA.2 fun x h=>?_
 unfold wvB wv at h
 grind
theorem c6j{b:a1b}(hb:a1W b):a8f b=some (a1A b.1 (wvB b),0):=by
 have hl:(wvB b).length≤1000000:=by
  rw[b2C]
  calc a0K b*b.2.1.length≤4096*8:=a06 hb.2.2.2.2.2.1 hb.2.2.2.1
   _≤1000000:=by simp
 unfold a8f;simp only[a6D,hb,decide_true,oB,bT,cF,c4r hb,c0B ⟨hb.1,hb.2.1⟩ hl (d2S hb)]
theorem b6g{b:a1b}(hb:a1W b){w:Int}(h:b.1=w)(d:List Int):a4E (((prI (a1A w d):Nat):Int),b)=some (((prI (a1A w (d++wvB b)):Nat):Int),true):=by
 subst h;have g:=b9c ⟨hb.1,hb.2.1⟩ (wvB b);have f:(wvB b).length≤4096*8:=by rw[b2C];exact a06 hb.2.2.2.2.2.1 hb.2.2.2.1
 have k:=c6i (b4h (a1A b.1 d)) (b4h (a1A b.1 (wvB b))) (n:=(a1A b.1 (wvB b)).length) (by omega);unfold a4E;simp only[c6j hb,oB,show((0:Int) != 0)=false from rfl,cF,c4p (show short (a1A b.1 (wvB b))by unfold short;omega) (b6a _ _),b9d,c6g];simp_all
theorem d1l(d:List Int)(x:Int){ch:Nat}(h:0<ch):(a1F d ch).set (d.length%ch) ((a1F d ch).getD (d.length%ch) []++[x])=a1F (d++[x]) ch:=by
 have k:=a22 d.length h;refine a28 (by simp[a1F]) fun i g f=>?_
 simp[a1F]at g;rw[List.getElem_set];simp_all[a1F,c9d]
theorem d2T{fm:a0G}(e:a1Q fm){ch:Nat}(k:fm.2.1=(ch:Int)){l:List Int}{n:Nat}(p:1≤n∧n≤4096)(j:l.length=n*ch)(a:l.all (fun x=>a1h x fm.2.2.1)=true):
  b0I (l,fm)=some (a5Q fm.2.2.1 l ch,0):=by
 have g:1≤ch∧ch≤8:=by have:=e.2.2.1;have:=e.2.2.2.1;omega
 have G:l.length≤4096*8:=by rw[j];exact a06 p.2 g.2
 have q:1≤l.length:=by rw[j];exact Nat.mul_pos p.1 g.1
 have w:4≤fm.2.2.1∧fm.2.2.1≤24:=e.2.2.2.2;have c0:((ch:Int)==0)=false:=by grind
 have h:=a1D (f:=a8b) (fun i=>(l,((l.length:Nat):Int),(i:Int),b1U,(fm.2.2.1,a1F (l.take i) ch,()),fm,())) l.length (b:=Sum.inl (b1U,a5Q fm.2.2.1 l ch,())) (fun i hi=>by
  have t:a46 (i:Int) (ch:Int)=((i%ch:Nat):Int):=rfl;have v:=a22 i g.1;have m:∀d,(a1F d ch).length=ch:=fun d=>by simp[a1F]
  have r:decide ((0:Int)≤((i%ch:Nat):Int))=true:=decide_eq_true (a04 _);have y:a1h l[i] fm.2.2.1=true:=lA.1 a _ (a23 hi);have o:(l.take i).length=i:=by grind
  have u:((a1F (l.take i) ch).getD (i%ch) []).length≤32768:=by
   grind[a1F,b0S]
  have c:=d1l (l.take i) l[i] g.1;rw[o]at c;simp only[a8b,dlt hi,cT,a0D hi,oB,b2Y w,y,bT,cF,k,c0,t,r,List.length_set,m,dlt v,a02,tN,a0T (show((a1F (l.take i) ch).getD (i%ch) []).length+1<2147483648 by omega),beq_self_eq_true,Bool.and_true,a0C (show i<1000000 by omega)];simp_all) (by
  simp only[a8b,dge,cF,a47];rfl)
 have s:a1F ([]:List Int) ch=a05 ch []:=by
  refine a28 (by simp[a1F]) fun i E F=>?_
  simp[a1F,b0S]
 have q1:(((l.length:Nat):Int)==0)=false:=by grind
 have z:a46 ((l.length:Nat):Int) (ch:Int)=0:=by
  simp_all
 have A:wrap .i64 (a25 ((l.length:Nat):Int) (ch:Int))=(n:Int):=by
  rw[show a25 ((l.length:Nat):Int) (ch:Int)=((l.length / ch:Nat):Int)from rfl,j,a78 _ g.1,a0B (by omega)]
 have B:decide ((n:Int) > 4096)=false:=by grind
 have C:decide ((0:Int)≤(ch:Int))=true:=by simp
 have D:decide ((ch:Int)≤(ch:Int))=true:=by simp
 unfold b0I;simp only[a4H,e,decide_true,oB,bT,cF,q1,k,c0,z,show((0:Int) != 0)=false from rfl,A,B,C,D,tN,a0T (show ch<2147483648 by omega),a02,cT];simp only[List.take_zero,s]at h
 erw[h]
 rfl
theorem b1m{α:Type}(a:List α)(x:α)(b:List α):m0k (a++x::b) (a.length:Int)=some x:=by
 simp_all[a0D]
theorem b9g:∀(a b:List Pc)(st off:Nat),a3a st off (a++b)=a3a st off a++a3a (st+a1m a) (off+(a0X a).length) b
 | [],b,st,off=>by rfl
 |y::a,b,st,off=>by
  simp_all[a3a,b9g,a1m,a0X,a60]
theorem c4s{fm:a0G}{all:List Pc}(h:all.length≤256){t:b6c}(p:t.1=fm)(a:t.2.2.2.1=a3a 0 0 all):∀(rest done:List Pc),done++rest=all→a2Z fm (a1m done) rest→(a0X done).length≤700800*done.length→a1m done≤64*done.length→
  y0s a8N (((a1m done:Nat):Int),(((a0X done).length:Nat):Int),((a2o fm done:Nat):Int),all.map (·.1),((all.map (·.1)).length:Int),(done.length:Int),done.map (·.2.2),done.map (·.2.1),t,()) =
   some (.inl (((a1m all:Nat):Int),((a2o fm all:Nat):Int),all.map (·.2.2),all.map (·.2.1),t,()))
 | [],done,hd,_,_,_=>by
  obtain rfl:done=all:=by simp_all
  simp_all[a0F,a8N]
 |x::rest,done,hd,hr,hb,hl=>by
  obtain⟨⟨u,d,v,e,j,y,l,m,z,b,c⟩,hr2⟩:=hr;have f:done.length<(all.map (·.1)).length:=by grind
  have k:all.length=done.length+(rest.length+1):=by grind
  have o:m0k (all.map (·.1)) (done.length:Int)=some x.1:=by
   grind[b1m]
  have g:m0k t.2.2.2.1 (done.length:Int)=some (((a1m done:Nat):Int),(((a0X done).length:Nat):Int),()):=by
   have:=b1m (a3a 0 0 done) (((a1m done:Nat):Int),(((a0X done).length:Nat):Int),()) (a3a (a1m done+a0K x.2.1) ((a0X done).length+x.2.2.length) rest)
   rw[a8W]at this;rw[a,←hd,b9g];simp_all[a3a]
  have n:eqT (.pair (.int .i64) (.pair (.int .i64) (.pair (.int .i64) .unit))) x.1.2.2.1 t.1=true:=by simp_all[b4R]
  have q:=b6g l (w:=fm.2.2.1) m (a4r done);have n1:(x.1.1 != ((a1m done:Nat):Int))=false:=by simp_all
  have n2:∀i:Int,(i != i)=false:=fun i=>by simp
  have r:((0:Int) != 0)=false:=rfl;have s:wrap .i64 (((a1m done:Nat):Int)+((a0K x.2.1:Nat):Int))=((a1m (done++[x]):Nat):Int):=by grind[a5P,a0B]
  have w2:wrap .i64 ((((a0X done).length:Nat):Int)+((x.2.2.length:Nat):Int))=(((a0X (done++[x])).length:Nat):Int):=by grind[a7J,a0B]
  rw[a0E (s':=(((a1m (done++[x]):Nat):Int),(((a0X (done++[x])).length:Nat):Int),((a2o fm (done++[x]):Nat):Int),all.map (·.1),((all.map (·.1)).length:Int),(((done++[x]).length:Nat):Int),(done++[x]).map (·.2.2),(done++[x]).map (·.2.1),t,())) (by
   simp only[a8N,dlt f,cT,o,oB];rw[n];simp only[bT,cF,oB,n1,g,n2,e,r,j]
   erw[q]
   simp only[oB,bT,cF,a07,a0T (show done.length+1<2147483648 by omega),cT,d,s,w2,a0C (show done.length<1000000 by omega)]
   simp[a2o,b2t])]
  exact c4s h p a rest (done++[x]) (by simp_all) (by simp_all[a5P]) (by grind[a7J]) (by grind[a5P])
theorem c9l{fm:a0G}(c:a1Q fm){xs:List Pc}(b:a2Z fm 0 xs)(g:xs.length≤256):a9n (mkT fm xs)=some (xs.map (·.2.2),xs.map (·.2.1),true):=by
 have h:=c4s g (t:=mkT fm xs) rfl rfl xs [] rfl b (by simp[a0X]) (by simp[a1m]);have a:a2d (mkT fm xs).1=some true:=by simp_all[a4H,mkT]
 have f:decide (((a09 (mkT fm xs).2.2.2.2.1:Nat):Int) > (4096:Int))=false:=by simp[mkT];omega
 have k:(((a09 (mkT fm xs).2.2.2.1:Nat):Int) != ((a09 (mkT fm xs).2.2.2.2.1:Nat):Int))=false:=by simp[mkT,a8W]
 unfold a9n;simp[a,f,k]
 erw[h]
 simp_all[mkT]
theorem b6h{α:Type}(a:List α)(x d:α)(b:List α):(a++x::b).getD a.length d=x:=by
 rw[lD];simp
theorem c1t{fm:a0G}{all:List Pc}(h:all.length≤256)(t:b6c)(A:List Nat)(e:A.length=4):∀(rest done:List Pc)(st:Nat),done++rest=all→a2Z fm st rest→
  y0s a8O (all.map (·.1),((all.map (·.1)).length:Int),(done.length:Int),all.map (·.2.2),asI (A++nsP done),t,())=some (all.map (·.2.2),asI (A++nsP all),t,())
 | [],done,st,hd,_=>by
  obtain rfl:done=all:=by simpa using hd
  exact a0F (by simp only[a8O,a07,dge,cF])
 |x::rest,done,st,hd,hr=>by
  obtain⟨⟨m,d,n,o,p,q,r,s,u,b,c⟩,hr2⟩:=hr;have k:done.length<(all.map (·.1)).length:=by rw[←hd];simp
  have g:done.length<(all.map (·.2.2)).length:=by rw[←hd];simp
  have j:m0k (all.map (·.1)) (done.length:Int)=some x.1:=by
   have:=b1m (done.map (·.1)) x.1 (rest.map (·.1))
   rw[a07]at this;rw[←hd,pA,a26];exact this
  have hp:(all.map (·.2.2)).getD done.length []=x.2.2:=by
   have:=b6h (done.map (·.2.2)) x.2.2 [] (rest.map (·.2.2))
   rw[a07]at this;rw[←hd,pA,a26];exact this
  have a:decide ((0:Int)≤(done.length:Int))=true:=decide_eq_true (a04 _);have i:done.length<all.length:=by rw[←hd];simp
  have f:(asI (A++nsP done)).length+2<2147483648:=by simp only[asI,a07,lN,b4i];omega
  have l:wrap .u64 ((x.2.2.length:Nat):Int)=((x.2.2.length:Nat):Int):=a0M (by omega);have w2:wrap .u64 ((a0K x.2.1:Nat):Int)=((a0K x.2.1:Nat):Int):=a0M (by omega);rw[a0E (s':=(all.map (·.1),((all.map (·.1)).length:Int),(((done++[x]).length:Nat):Int),all.map (·.2.2),asI (A++nsP (done++[x])),t,())) (by
   simp only[a8O,dlt k,dlt g,a,a02,cT,j,oB,a0T f,tN,hp,l,d,w2,a0C (show done.length<1000000 by omega)];simp[d1h,asI])]
  exact c1t h t A e rest (done++[x]) _ (by simpa using hd) hr2
theorem c1u{all:List (List Int)}(g:all.length≤256)(h:∀p∈all,p.length≤700800):∀(rest done:List (List Int)) (out:List Int),done++rest=all→out.length+700800*rest.length≤190000000→
  y0s a8P ((all.length:Int),(done.length:Int),out,all,())=some (out++rest.flatten,())
 | [],done,out,hd,_=>by
  obtain rfl:done=all:=by simpa using hd
  rw[a0F (b:=(out,())) (by simp only[a8P,dge,cF])]
  simp
 |p::rest,done,out,hd,ho=>by
  have f:done.length<all.length:=by rw[←hd];simp
  have hp:all.getD done.length []=p:=by rw[←hd];exact b6h done p [] rest
  have a:=h p (by rw[←hd];simp);have k:decide ((0:Int)≤(done.length:Int))=true:=decide_eq_true (a04 _);simp only[lC]at ho;rw[a0E (s':=((all.length:Int),(((done++[p]).length:Nat):Int),out++p,all,())) (by
   simp only[a8P,dlt f,k,a02,cT,tN,hp,a0T (show out.length+p.length<2147483648 by omega),a0C (show done.length<1000000 by omega)]
   simp)]
  rw[c1u g h rest (done++[p]) (out++p) (by simpa using hd) (by simp only[lN];omega)]
  simp
theorem b9h{fm:a0G}:∀{xs:List Pc}{st:Nat},a2Z fm st xs→∀p∈xs.map (·.2.2),p.length≤700800
 | [],_,_,p,hp=>by simp at hp
 |x::xs,st,h,p,hp=>by
  rcases mC.1 hp with rfl|hp;exact h.1.2.2.2.2.2.2.2.2.2.2;exact b9h h.2 p hp
theorem b7j:∀(l:List Nat),(∀n∈l,n<9223372036854775808)→∀b∈l.flatMap a0L,0≤b∧b<256:=fun l h b hb=>by
 obtain⟨n,g,hb⟩:=a84.1 hb;exact b8P 8 n (by rw[show(128:Nat)^(8+1)=9223372036854775808 from by decide];exact h n g) b hb
theorem c5M{fm:a0G}(g:a1Q fm){xs:List Pc}(h:a2Z fm 0 xs)(k:xs.length≤256):∀b∈a1t fm xs,0≤b∧b<256:=fun b hb=>by
 unfold a1t at hb;rcases mA.1 hb with hb|hb;simp only[b7R,mC,a49,or_false]at hb;omega;rcases mA.1 hb with hb|hb;exact b7j _ (fun n f=>a08 (a7K g h k n f) (by decide)) b hb;exact b4W _ _ b hb
theorem c1v{fm:a0G}(f:a1Q fm){xs:List Pc}(g:a2Z fm 0 xs)(h:xs.length≤256):a9o (mkT fm xs)=some (a5R fm xs,0):=by
 obtain⟨s,t,u,v,w,x⟩:=id f;have c:=c1t h (mkT fm xs) [fm.1.toNat,fm.2.1.toNat,fm.2.2.1.toNat,xs.length] rfl xs [] 0 rfl g;have hp:=b5V (ns:=a3W fm xs) (fun n j=>a08 (a7K f g h n j) (by decide)) (by simp only[a3W,lN,b4i,lC,a21];omega);have hv:=b3x (a3W fm xs) fun n i=>a08 (a7K f g h n i) (by decide);have z:(a3W fm xs).length≤516:=by simp only[a3W,lN,b4i,lC,a21];omega
 have y:=c1s f g h;have e:=b6b (n:=a2o fm xs) (k:=8) (by have:=b4h (a1A fm.2.2.1 (a4r xs));unfold prm at this;unfold a2o;omega) (by omega);have d:=b6b (n:=a4s (a1t fm xs)) (k:=4) (by have:=b4X (a1t fm xs);omega) (by omega);have m:=b6f (l:=a1t fm xs) (by unfold short;omega) (c5M f g h);have hb:=c1u (all:=xs.map (·.2.2)) (by simpa using h) (b9h g) (xs.map (·.2.2)) [] (a1t fm xs++a7O 4 (a4s (a1t fm xs))) rfl (by simp only[lN,a07,a9J];omega);have o:wrap .u64 fm.1=((fm.1.toNat:Nat):Int):=by rw[a0M (by omega)];omega
 have w2:wrap .u64 fm.2.1=((fm.2.1.toNat:Nat):Int):=by rw[a0M (by omega)];omega
 have p:wrap .u64 fm.2.2.1=((fm.2.2.1.toNat:Nat):Int):=by rw[a0M (by omega)];omega
 have q:wrap .u64 ((a09 (xs.map (·.1)):Nat):Int)=((xs.length:Nat):Int):=by rw[a07,a0M (by omega)]
 have r:wrap .u64 ((a4s (a1t fm xs):Nat):Int)=((a4s (a1t fm xs):Nat):Int):=a0M (by have:=b4X (a1t fm xs);omega);unfold a9o;rw[c9l f g h];simp only[oB,bT,cF,mkT,o,w2,p,q]
 erw[c]
 simp only[oB]
 erw[hp]
 simp only[oB,a0T (show 4+((a3W fm xs).flatMap a0L).length<2147483648 by omega),cT]
 erw[e]
 have b:a86 (a86 ([(75:Int),(78:Int),(83:Int),(68:Int)]:List Int) ((a3W fm xs).flatMap a0L)) (a7O 8 (a2o fm xs))=a1t fm xs:=aA ..;have a:(a86 ([(75:Int),(78:Int),(83:Int),(68:Int)]:List Int) ((a3W fm xs).flatMap a0L)).length+(a7O 8 (a2o fm xs)).length<2147483648:=by
  have:=congrArg a09 b
  simp only[a97,lN]at this⊢;omega
 simp only[oB,a0T a,cT,b,m,r]
 erw[d]
 simp only[oB,a0T (show(a1t fm xs).length+(a7O 4 (a4s (a1t fm xs))).length<2147483648 by rw[a9J];omega),cT]
 erw[hb]
 simp only[oB,a5R,a0X,List.flatMap_def,aA]
theorem b6i{all:List a1b}(f:all.length≤256):∀(rest done:List a1b)(out:List Int),done++rest=all→(∀b∈rest,a1W b)→out.length+32768*rest.length≤9000000→
  y0s a5J ((all.length:Int),(done.length:Int),out,all,())=some (out++rest.flatMap wvB,())
 | [],done,out,hd,_,_=>by
  obtain rfl:done=all:=by simpa using hd
  rw[a0F (b:=(out,())) (by simp only[a5J,dge,cF])]
  simp
 |p::rest,done,out,hd,hb,ho=>by
  have k:done.length<all.length:=by rw[←hd];simp
  have hp:all.getD done.length ((0:Int),([]:List (List Int)),())=p:=by rw[←hd];exact b6h done p _ rest
  have g:=hb p (by simp);have c:(wvB p).length≤4096*8:=by rw[b2C];exact a06 g.2.2.2.2.2.1 g.2.2.2.1
  have a:decide ((0:Int)≤(done.length:Int))=true:=decide_eq_true (a04 _);simp only[lC]at ho;rw[a0E (s':=((all.length:Int),(((done++[p]).length:Nat):Int),out++wvB p,all,())) (by
   simp only[a5J,dlt k,a,a02,cT,tN,hp,c4r g,oB,a0T (show out.length+(wvB p).length<2147483648 by omega),a0C (show done.length<1000000 by omega)]
   simp)]
  rw[b6i f rest (done++[p]) (out++wvB p) (by simpa using hd) (fun b h=>hb b (by simp[h])) (by simp only[lN];omega)]
  simp
theorem c4t{fm:a0G}:∀{xs:List Pc}{st:Nat},a2Z fm st xs→∀b∈xs.map (·.2.1),a1W b
 | [],_,_,p,hp=>by simp at hp
 |x::xs,st,h,p,hp=>by
  rcases mC.1 hp with rfl|hp;exact h.1.2.2.2.2.2.2.1;exact c4t h.2 p hp
theorem c7W{fm:a0G}(k:a1Q fm){xs:List Pc}(f:a2Z fm 0 xs)(g:xs.length≤256):a2w (mkT fm xs)=some (a4r xs,0):=by
 have h:=b6i (all:=xs.map (·.2.1)) (by simpa using g) (xs.map (·.2.1)) [] [] rfl (c4t f) (by simp;omega);unfold a2w;rw[c9l k f g];simp only[oB,bT,cF]
 erw[h]
 simp[a4r,List.flatMap_map]
theorem d2U{P A R:List Int}(b:(P++(A++R)).length<1000000000):a5b (ord P (A++R),(A.length:Int))=some (A,ord (P++A) R):=by
 simp at b;have c:v0r (A.length:Int) 0=(A.length:Int):=by rfl
 have d:wrap .i64 (((P++(A++R)).length:Int)-(P.length:Int))=((A++R).length:Int):=by
  grind[a0B]
 have h:decide ((A.length:Int) > ((A++R).length:Int))=false:=by grind
 have w2:wrap .i64 ((P.length:Int)+(A.length:Int))=(((P++A).length:Nat):Int):=by
  grind[a0B]
 have g:decide ((0:Int)≤(((P++A).length:Nat):Int))=true:=by rfl
 have f:decide ((((P++A).length:Nat):Int)≤((P++(A++R)).length:Int))=true:=by simp_all
 have k:decide ((0:Int)≤(P.length:Int))=true:=by simp
 have a:decide ((P.length:Int)≤(((P++A).length:Nat):Int))=true:=by grind
 have e:a44 P.length (a36 (P++A).length (P++(A++R)))=A:=by
  grind
 unfold a5b a1P ord;simp only[show((0:Int) != 0)=false from rfl,cF,oB,c,d,h,w2,g,f,k,a,a02,cT,tN,e,a0T (show A.length<2147483648 by omega),aA]
theorem c4u{all:List Int}(a:all.length≤8)(z:List Int×(Int×Int×Unit)):∀(rest done:List Int)(n:Nat),done++rest=all→(∀b∈rest,0≤b∧b<256)→n<256^done.length→
  y0s a3N ((n:Int),(all.length:Int),(done.length:Int),all,z,())=some (((b3N n rest:Nat):Int),z,())
 | [],done,n,hd,_,_=>by
  obtain rfl:done=all:=by simp_all
  exact a0F (by simp only[a3N,dge,cF];rfl)
 |x::rest,done,n,hd,hb,hn=>by
  have g:done.length<all.length:=by grind
  have hp:all.getD done.length 0=x:=by grind
  have d:=hb x (by simp);have f:decide ((0:Int)≤(done.length:Int))=true:=decide_eq_true (a04 _);have c:256^done.length≤256^7:=a50 (by omega) (by omega);have k:(256:Nat)^7=72057594037927936:=by rfl
  have w:wrap .u64 ((wrap .u64 ((n:Int)*(256:Int)))+(wrap .u64 x))=((n*256+x.toNat:Nat):Int):=by
   grind[a0M]
  rw[a0E (s':=(((n*256+x.toNat:Nat):Int),(all.length:Int),(((done++[x]).length:Nat):Int),all,z,())) (by
   simp only[a3N,dlt g,f,a02,cT,tN,hp,w,a0C (show done.length<1000000 by omega)]
   simp)]
  exact c4u a z rest (done++[x]) _ (by simp_all) (fun b h=>hb b (by grind)) (by grind)
theorem c6k{P A R:List Int}{k:Nat}(f:A.length=k)(g:k≤8)(hb:∀b∈A,0≤b∧b<256)(a:(P++(A++R)).length<1000000000):a3F (ord P (A++R),(k:Int))=some (((b3N 0 A:Nat):Int),ord (P++A) R):=by
 subst f;have h:=c4u g (ord (P++A) R) A [] 0 rfl hb (by simp)
 grind[a3Y,a9O,b6m,a3F,d2U]
@[reducible] def b6s:Type:=a0G×(List Int×(List Int×(Int×(Int×(Int×Unit)))))
def a3M(xs:List Pc):List Int:=xs.map fun x=>((x.2.2.length:Nat):Int)
def a4t(xs:List Pc):List Int:=xs.map fun x=>((a0K x.2.1:Nat):Int)
def b4Z(fm:a0G)(xs:List Pc)(pr bg:Nat):b6s:=(fm,a3M xs,a4t xs,((a1m xs:Nat):Int),(pr:Int),(bg:Int),())
def b7S:b6s:=((0,0,0,()),[],[],0,0,0,())
theorem b7k{all:List Pc}(h:all.length≤256)(x:List Int)(fm:a0G)(z:b6s)(u:Int×(Int×Int×Unit)){R:List Int}:∀(rest done:List Pc)(P:List Int)(st:Nat),done++rest=all→a2Z fm st rest→
  (P++((nsP rest).flatMap a0L++R)).length<1000000000→
  y0s a5s (x,(all.length:Int),(done.length:Int),z,(fm,a3M done,a4t done,u),ord P ((nsP rest).flatMap a0L++R),()) =
   some (x,z,(fm,a3M all,a4t all,u),ord (P++(nsP rest).flatMap a0L) R,())
 | [],done,P,st,hd,_,_=>by
  obtain rfl:done=all:=by simp_all
  simp_all[a0F,a5s,nsP]
 |y::rest,done,P,st,hd,hr,hl=>by
  obtain⟨⟨i,j,l,m,o,p,q,r,s,a,b⟩,hr2⟩:=hr;have k:done.length<all.length:=by grind
  have e:(nsP (y::rest)).flatMap a0L++R=a0L y.2.2.length++(a0L (a0K y.2.1)++((nsP rest).flatMap a0L++R)):=by simp[nsP]
  rw[e]at hl⊢;have g:=a1J hl;have f:=a1J g;have n1:=a3f (n:=y.2.2.length) (most:=1048704) (by omega) (by omega) hl;have n2:=a3f (n:=a0K y.2.1) (most:=4096) (by omega) (by omega) g;have c:wrap .i64 ((y.2.2.length:Nat):Int)=((y.2.2.length:Nat):Int):=a0B (by omega);have w2:wrap .i64 ((a0K y.2.1:Nat):Int)=((a0K y.2.1:Nat):Int):=a0B (by omega);have d:wrap .u64 ((done.length:Int)+1)=(((done++[y]).length:Nat):Int):=by grind[a0M]
  have l1:(a3M done).length=done.length:=by simp[a3M]
  have l2:(a4t done).length=done.length:=by simp[a4t]
  rw[a0E (s':=(x,(all.length:Int),(((done++[y]).length:Nat):Int),z,(fm,a3M (done++[y]),a4t (done++[y]),u),ord ((P++a0L y.2.2.length)++a0L (a0K y.2.1)) ((nsP rest).flatMap a0L++R),())) (by
   simp only[a5s,dlt k,cT,n1,n2,oB,l1,l2,a0T (show done.length+1<2147483648 by omega),c,w2,d];simp[a3M,a4t])]
  rw[b7k h x fm z u rest (done++[y]) _ _ (by simp_all) hr2 f];simp[nsP]
theorem c4v{all:List Pc}(h:all.length≤256)(fm:a0G)(z:b6s)(v:List Int)(u:Int×(Int×Unit)):∀(rest done:List Pc)(st:Nat),done++rest=all→a2Z fm st rest→a1m done≤64*done.length→
  y0s a5t ((all.length:Int),(done.length:Int),z,(fm,v,a4t all,((a1m done:Nat):Int),u),())=some (.inl (z,(fm,v,a4t all,((a1m all:Nat):Int),u),()))
 | [],done,st,hd,_,_=>by
  obtain rfl:done=all:=by simp_all
  simp_all[a0F,a5t]
 |y::rest,done,st,hd,hr,ho=>by
  obtain⟨⟨i,j,l,m,n,o,d,p,q,b,c⟩,hr2⟩:=hr;have f:done.length<all.length:=by grind
  have g:done.length<(a4t all).length:=by simp_all[a4t]
  have hp:(a4t all).getD done.length 0=((a0K y.2.1:Nat):Int):=by
   grind[a4t]
  have k:=d.2.2.2.2.1;have e:(((a0K y.2.1:Nat):Int)==0)=false:=by grind
  have a:decide ((0:Int)≤(done.length:Int))=true:=decide_eq_true (a04 _);have w:wrap .i64 (((a1m done:Nat):Int)+((a0K y.2.1:Nat):Int))=((a1m (done++[y]):Nat):Int):=by grind[a5P,a0B]
  rw[a0E (s':=((all.length:Int),(((done++[y]).length:Nat):Int),z,(fm,v,a4t all,((a1m (done++[y]):Nat):Int),u),())) (by
   simp only[a5t,dlt f,dlt g,a,a02,cT,tN,hp,e,cF,w,a0C (show done.length<1000000 by omega)]
   simp)]
  exact c4v h fm z v u rest (done++[y]) _ (by simp_all) hr2 (by grind[a5P])
theorem c5N{fm:a0G}(j:a1Q fm){xs:List Pc}(e:a2Z fm 0 xs)(h:xs.length≤256){A C R:List Int}(y:A.length=8)(bA:∀b∈A,0≤b∧b<256)(N:C.length=4)(F:∀b∈C,0≤b∧b<256)(hR:R.length≤190000000)
  {H:List Int}(q:H=b7R++((a3W fm xs).flatMap a0L++A)):
  a5u (H++(C++R))=some (if a4s H=b3N 0 C then(b4Z fm xs (b3N 0 A) (H.length+4),0)else(b7S,5)):=by
 obtain⟨f1,f2,f3,f4,f5,f6⟩:=id j;have hv:=b3x (a3W fm xs) fun n v=>a08 (a7K j e h n v) (by simp);have hl:(a3W fm xs).length≤516:=by grind[a3W,b4i]
 have G:∀b∈H,0≤b∧b<256:=fun b hb=>by
  rw[q]at hb;rcases mA.1 hb with hb|hb;simp[b7R]at hb;omega;rcases mA.1 hb with hb|hb;exact b7j _ (fun n v=>a08 (a7K j e h n v) (by simp)) b hb;simp_all
 have a:H.length=4+((a3W fm xs).flatMap a0L).length+8:=by grind[b7R]
 have S:=b6f (l:=H) (by unfold short;omega) G;have x:(a3W fm xs).flatMap a0L=a0L fm.1.toNat++(a0L fm.2.1.toNat++(a0L fm.2.2.1.toNat++(a0L xs.length++(nsP xs).flatMap a0L))):=by rfl
 obtain⟨V,O⟩:∃V,(a3W fm xs).flatMap a0L=V:=⟨_,rfl⟩;rw[O]at hv a x q;have ex:H++(C++R)=75::78::83::68::(V++(A++(C++R))):=by rw[q];simp[b7R]
 have g:(V++(A++(C++R))).length<1000000000:=by grind
 have z:([]++(a0L fm.1.toNat++(a0L fm.2.1.toNat++(a0L fm.2.2.1.toNat++(a0L xs.length++((nsP xs).flatMap a0L++(A++(C++R)))))))).length<1000000000:=by simp_all
 have B:=a1J z;have D:=a1J B;have E:=a1J D;have U:=a1J E;have n1:=a3f (n:=fm.1.toNat) (most:=1048576) (by omega) (by omega) z;have n2:=a3f (n:=fm.2.1.toNat) (most:=8) (by omega) (by omega) B;have X:=a3f (n:=fm.2.2.1.toNat) (most:=24) (by omega) (by omega) D;have Y:=a3f (n:=xs.length) (most:=4096) (by omega) (by omega) E;have w1:wrap .i64 ((fm.1.toNat:Nat):Int)=fm.1:=by grind[a0B]
 have w2:wrap .i64 ((fm.2.1.toNat:Nat):Int)=fm.2.1:=by grind[a0B]
 have w3:wrap .i64 ((fm.2.2.1.toNat:Nat):Int)=fm.2.2.1:=by grind[a0B]
 have f:=b7k h (H++(C++R)) fm b7S (0,0,0,()) xs [] _ 0 rfl e U;have M:([]++a0L fm.1.toNat++a0L fm.2.1.toNat++a0L fm.2.2.1.toNat++a0L xs.length)++(nsP xs).flatMap a0L=V:=by simp_all
 rw[M]at f;have Z:=c6k (P:=V) y (by omega) bA g;have n9:=c6k (P:=V++A) N (by omega) F (a1J g);have k:wrap .i64 (((V++(A++(C++R))).length:Int)-(V.length:Int))=((A++(C++R)).length:Int):=by
  simp only[lN]at g⊢;rw[a0B (by omega)];omega
 have m:decide (((A++(C++R)).length:Int)<12)=false:=by grind
 have r:wrap .i64 ((4:Int)+(((V++A).length:Nat):Int))=((H.length:Nat):Int):=by
  rw[a];simp only[lN,y];rw[a0B (by omega)];rfl
 have o:decide ((0:Int)≤((H.length:Nat):Int))=true:=decide_eq_true (a04 _);have p:decide (((H.length:Nat):Int)≤(((H++(C++R)).length:Nat):Int))=true:=by grind
 have c:wrap .i64 (((H.length:Nat):Int)+4)=((H.length+4:Nat):Int):=by grind[a0B]
 have T:wrap .u64 ((a4s H:Nat):Int)=((a4s H:Nat):Int):=a0M (by grind[b4X]);have I:decide (((a09 (H++(C++R)):Nat):Int)<(4:Int))=false:=by grind
 have K:decide ((4:Int)≤((a09 (H++(C++R)):Nat):Int))=true:=by simp_all
 have s:((b2s (a36 4 (H++(C++R)))) != ([75,78,83,68]:List Int))=false:=by rw[ex];rfl
 have t:a44 4 (a36 (a09 (H++(C++R))) (H++(C++R)))=V++(A++(C++R)):=by rw[a47,ex];rfl
 have d:a5T (V++(A++(C++R)))=some (ord [] (a0L fm.1.toNat++(a0L fm.2.1.toNat++(a0L fm.2.2.1.toNat++(a0L xs.length++((nsP xs).flatMap a0L++(A++(C++R)))))))):=by
  unfold a5T;rw[a0T (by omega),cT,x];simp[ord]
 have i:=c4v h fm b7S (a3M xs) (((b3N 0 A:Nat):Int),((H.length+4:Nat):Int),()) xs [] 0 rfl e (by simp[a1m]);have u:(a4t xs).length=xs.length:=by simp[a4t]
 have Q:=(b6d e).2;have L:decide (((a1m xs:Nat):Int) > (4194304:Int))=false:=by grind
 unfold a5u;simp only[I,cF,K,cT,s,t,d,oB,n1,n2,X,Y,w1,w2,w3]
 erw[f]
 simp only[oB,a3E,a1P,a4e,ord,show((0:Int) != 0)=false from rfl,cF,k,m]
 erw[Z]
 simp only[oB,ord,r,o,p,a02,cT,tN,List.take_left,S,T]
 erw[n9]
 simp only[oB]
 by_cases hq:a4s H=b3N 0 C
 have w:(((a4s H:Nat):Int) != ((b3N 0 C:Nat):Int))=false:=by simp_all
 simp only[w,cF,if_pos hq,a4H,j,decide_true,bT,oB,c,u]
 erw[i]
 simp only[L,oB,cF];rfl;have w:(((a4s H:Nat):Int) != ((b3N 0 C:Nat):Int))=true:=by grind
 simp only[w,cT,if_neg hq];rfl
theorem c5O{B P R:List Int}{fm:a0G}{st:Nat}{x:Pc}(p:b7P fm st x)(C:B=P++(x.2.2++R))(E:B.length<1000000000){pl:b6s}(hp:pl.1=fm){i:Int}(n:m0k pl.2.1 i=some ((x.2.2.length:Nat):Int))(o:m0k pl.2.2.1 i=some ((a0K x.2.1:Nat):Int)):
  a6N (B,pl,i,((P.length:Nat):Int),(st:Int))=some (x.1,x.2.1,0):=by
 obtain⟨s,t,u,v,w,l,y,z,A,e,j⟩:=p;have m:B.length=P.length+(x.2.2.length+R.length):=by simp_all
 have r:wrap .i64 (((a09 B:Nat):Int)-((P.length:Nat):Int))=((x.2.2.length+R.length:Nat):Int):=by grind[a0B]
 have g:decide (((x.2.2.length+R.length:Nat):Int)<((x.2.2.length:Nat):Int))=false:=decide_eq_false (by omega);have w2:wrap .i64 (((P.length:Nat):Int)+((x.2.2.length:Nat):Int))=((P.length+x.2.2.length:Nat):Int):=by grind[a0B]
 have f:decide ((0:Int)≤((P.length+x.2.2.length:Nat):Int))=true:=decide_eq_true (a04 _);have k:decide (((P.length+x.2.2.length:Nat):Int)≤((a09 B:Nat):Int))=true:=by simp_all
 have a:decide ((0:Int)≤((P.length:Nat):Int))=true:=decide_eq_true (a04 _);have b:decide (((P.length:Nat):Int)≤((P.length+x.2.2.length:Nat):Int))=true:=decide_eq_true (by omega);have d:a44 P.length (a36 (P.length+x.2.2.length) B)=x.2.2:=by
  grind
 have h:=l [] (by simp);rw[a93]at h;have q:((0:Int) != 0)=false:=rfl;have c:decide (((x.2.2.length:Nat):Int)<((x.2.2.length:Nat):Int))=false:=by simp
 have D:eqT (.pair (.int .i64) (.pair (.int .i64) (.pair (.int .i64) .unit))) x.1.2.2.1 pl.1=true:=by simp_all[b4R]
 have n1:(x.1.1 != (st:Int))=false:=by simp_all
 have n2:(((a0K x.2.1:Nat):Int) != ((a0K x.2.1:Nat):Int))=false:=by simp
 unfold a6N;simp only[n,oB,r,g,cF,w2,f,k,a,b,a02,cT,tN,d,h,q,c];simp_all
def c7X:b6c:=((0,0,0,()),0,0,[],[],())
theorem d1m{done rest:List Pc}(x:Pc):m0k (a3M (done++x::rest)) (done.length:Int)=some ((x.2.2.length:Nat):Int):=by
 grind[b1m,a3M]
theorem d2V{done rest:List Pc}(x:Pc):m0k (a4t (done++x::rest)) (done.length:Int)=some ((a0K x.2.1:Nat):Int):=by
 grind[b1m,a4t]
theorem c1w{fm:a0G}{all tail:List Pc}(h:all.length≤256){B Hd Z:List Int}(j:B.length<1000000000){pl:b6s}(hp:pl.1=fm)(a:pl.2.1=a3M all)(b:pl.2.2.1=a4t all)(g:pl.2.2.2.2.2.1=((Hd.length:Nat):Int))(z:b6c):
  ∀(rest done:List Pc),done++(rest++tail)=all→B=Hd++(a0X done++(a0X rest++Z))→a2Z fm (a1m done) rest→a1m done≤64*done.length→
  y0s a3P (B,((Hd.length+(a0X done).length:Nat):Int),a3M all,(all.length:Int),(done.length:Int),z,pl,mkT fm done,()) =
   y0s a3P (B,((Hd.length+(a0X (done++rest)).length:Nat):Int),a3M all,(all.length:Int),((done++rest).length:Int),z,pl,mkT fm (done++rest),())
 | [],done,_,_,_,_=>by simp
 |x::rest,done,hd,hB,hr,ho=>by
  obtain⟨m,t⟩:=hr;have k:done.length<all.length:=by grind
  have f:B=(Hd++a0X done)++(x.2.2++(a0X rest++Z)):=by rw[hB];simp[a0X]
  have s:Hd.length+(a0X done).length+x.2.2.length≤B.length:=by grind
  have l:=d1m (done:=done) (rest:=rest++tail) x;have c:=d2V (done:=done) (rest:=rest++tail) x;rw[a61]at hd;rw[hd]at l c;have e:=c5O m f j hp (i:=(done.length:Int)) (by simp_all) (by simp_all);rw[lN]at e;obtain⟨y,p,A,C,D,E,q,r,F,n,o⟩:=m;have d:=b6g q (w:=fm.2.2.1) r (a4r done);have l1:(a3a 0 0 done).length+1<2147483648:=by rw[a8W];omega
  have u:wrap .i64 (((Hd.length+(a0X done).length:Nat):Int)+((x.2.2.length:Nat):Int))=((Hd.length+(a0X (done++[x])).length:Nat):Int):=by
   rw[a7J,lN,a0B (by omega)];omega
  have w2:wrap .i64 (((a1m done:Nat):Int)+((a0K x.2.1:Nat):Int))=((a1m (done++[x]):Nat):Int):=by rw[a5P,a0B (by omega)];rfl
  have v:wrap .i64 (((Hd.length+(a0X done).length:Nat):Int)-((Hd.length:Nat):Int))=(((a0X done).length:Nat):Int):=by grind[a0B]
  rw[a0E (s':=(B,((Hd.length+(a0X (done++[x])).length:Nat):Int),a3M all,(all.length:Int),(((done++[x]).length:Nat):Int),z,pl,mkT fm (done++[x]),())) (by
   simp only[a3P,dlt k,cT,l,oB,mkT]
   erw[e]
   simp only[oB,show((0:Int) != 0)=false from rfl,cF]
   erw[d]
   simp only[oB,a0T l1,a07,a0T (show done.length+1<2147483648 by omega),cT,u,p,w2,g,v,a0C (show done.length<1000000 by omega)]
   simp[a2o,b2t,b1M])]
  rw[List.append_cons done x rest];exact c1w (Z:=Z) h j hp a b g z rest (done++[x]) (by simpa using hd) (by simp_all[a7J]) (by simp_all[a5P]) (by grind[a5P])
theorem c5P{fm:a0G}(k:a1Q fm){xs:List Pc}(b:a2Z fm 0 xs)(g:xs.length≤256){R:List Int}(f:R.length≤190000000):
  a5u (a1t fm xs++(a7O 4 (a4s (a1t fm xs))++R))=some (b4Z fm xs (a2o fm xs) ((a1t fm xs).length+4),0):=by
 have a:=b4h (a1A fm.2.2.1 (a4r xs));have h:=c5N k b g (A:=a7O 8 (a2o fm xs)) (C:=a7O 4 (a4s (a1t fm xs))) (R:=R) (a9J ..) (b4W 8 _) (a9J ..) (b4W 4 _) f (H:=a1t fm xs) rfl;rw[b7Q 4 _ (by simp_all[b4X]),b7Q 8 _ (by grind[prm,a2o]),if_pos rfl]at h;omega
theorem b9i{fm:a0G}(c:a1Q fm){xs:List Pc}(k:a2Z fm 0 xs)(h:xs.length≤256):a1E (a5R fm xs)=some (mkT fm xs,0):=by
 have e:=b2u k;have l:=c1s c k h;have i:=c5P c k h (R:=a0X xs) (by omega);have d:(a5R fm xs).length=(a1t fm xs).length+4+(a0X xs).length:=by grind[a5R,a9J]
 have f:(a1t fm xs++a7O 4 (a4s (a1t fm xs))).length=(a1t fm xs).length+4:=by simp[a9J]
 have g:=c1w (fm:=fm) h (B:=a5R fm xs) (Hd:=a1t fm xs++a7O 4 (a4s (a1t fm xs))) (Z:=[]) (by omega) (pl:=b4Z fm xs (a2o fm xs) ((a1t fm xs).length+4)) rfl rfl rfl (by rw[f];rfl) c7X (tail:=[]) xs [] (by simp) (by simp[a5R,a0X]) k (by simp[a1m]);rw[f,a20]at g;have a:y0s a3P (a5R fm xs,(((a1t fm xs).length+4+(a0X xs).length:Nat):Int),a3M xs,(xs.length:Int),(xs.length:Int),c7X,b4Z fm xs (a2o fm xs) ((a1t fm xs).length+4),mkT fm xs,())=some (Sum.inl (a5R fm xs,(((a1t fm xs).length+4+(a0X xs).length:Nat):Int),c7X,b4Z fm xs (a2o fm xs) ((a1t fm xs).length+4),mkT fm xs,())):=
  a0F (by simp_all[a3P])
 rw[a]at g;have b:(a3M xs).length=xs.length:=by simp[a3M]
 have j:decide ((((a1t fm xs).length+4+(a0X xs).length:Nat):Int)<(((a5R fm xs).length:Nat):Int))=false:=by simp_all
 unfold a1E;rw[show a5R fm xs=a1t fm xs++(a7O 4 (a4s (a1t fm xs))++a0X xs)from rfl,i];simp only[oB,show((0:Int) != 0)=false from rfl,cF,b4Z,b]
 erw[g]
 simp_all[b4Z,mkT]
def c0E(fm:a0G)(l:List Int)(ch sz total:Nat)(effort:Int):Nat→List Pc→Prop
 |st,[]=>total≤st
 |st,x::xs=>st<total∧x.2.1=a5Q fm.2.2.1 (a2A l ch st (min (st+sz) total)) ch∧a2X (x.2.1,fm,(st:Int),effort)=some (x.1,0)∧b7P fm st x∧c0E fm l ch sz total effort (st+sz) xs
def b9j(fm:a0G)(total:Nat)(xs:List Pc):b6c:=(fm,(total:Int),((a2o fm xs:Nat):Int),a3a 0 0 xs,xs.map (·.1),())
theorem d1n{fm:a0G}(D:a1Q fm){ch:Nat}(a:fm.2.1=(ch:Int)){l:List Int}{total sz:Nat}(hl:l.length=total*ch)(ht:total≤200)(hs:1≤sz∧sz≤64)(b:l.all (fun x=>a1h x fm.2.2.1)=true){effort:Int}(X:0≤effort)(Y:effort≤3):
  ∀(k st:Nat)(done:List Pc),total≤st+k→a1m done=min st total→a4r done=l.take (min st total*ch)→a2Z fm 0 done→done.length≤st→st≤300→
  ∃rest,c0E fm l ch sz total effort st rest∧a2Z fm 0 (done++rest)∧a1m (done++rest)=total∧a4r (done++rest)=l∧
   y0s a6h (l,(sz:Int),effort,(total:Int),(((a0X done).length:Nat):Int),(st:Int),b9j fm total done,fm,())=some (.inl (b9j fm total (done++rest),())):=by
 obtain⟨S,T,f3,f4,U,V⟩:=id D;have e:1≤ch∧ch≤8:=by omega
 intro k
 induction k with
 |zero=>
  intro st done E j o y r A;have hm:min st total=total:=by omega
  have P:decide ((st:Int)<(total:Int))=false:=by simp_all
  rw[hm]at j o;refine⟨[],by simpa[c0E]using E,by simp_all,by simp_all,by grind,?_⟩;rw[a93];exact a0F (by simp only[a6h,P,cF])
 |succ k ih=>
  intro st done E j o y r A
  by_cases hlt:st<total
  have t:min st total=st:=by omega
  rw[t]at j o;obtain⟨en,Z⟩:∃en,min (st+sz) total=en:=⟨_,rfl⟩;have C:st<en∧en≤total∧en≤st+sz:=by omega
  have s:en*ch≤l.length:=by simp_all[a03]
  have h6:st*ch≤en*ch:=a03 _ (by omega);have h1:l.length≤200*8:=by rw[hl];exact a06 ht e.2
  have h:=c1p (st:=st) s;have f:=c9h (ch:=ch) (st:=st) (en:=en) b;have c:=d2M (w:=fm.2.2.1) h e (by omega) ⟨U,V⟩ f;have h2:=b4V (w:=fm.2.2.1) h e.1;have h4:=d2N (w:=fm.2.2.1) h e.1;have v:=d2T D a (l:=a2A l ch st en) (n:=en-st) (by omega) h f;obtain⟨g,p,m1,i⟩:=d2L (fm:=fm) c (by omega) ⟨S,T⟩ (by simp_all[a5Q,a1F]) rfl (st:=st) (by omega) X Y;have d:=i.2.2.2.2.1;have B:=b6g c (w:=fm.2.2.1) rfl (a4r done);obtain⟨x,hx⟩:∃x:Pc,x=(((st:Int),g),a5Q fm.2.2.1 (a2A l ch st en) ch,p):=⟨_,rfl⟩;have x1:x.1=((st:Int),g):=by grind
  have x2:x.2.1=a5Q fm.2.2.1 (a2A l ch st en) ch:=by grind
  have K:x.2.2=p:=by grind
  rw[←hx]at i;have u:=i.2.2.2.2.2.2.2.2.2.2;rw[K]at u;have h5:=b2u y;have m:a1m (done++[x])=min (st+sz) total:=by grind[a5P]
  have q:a4r (done++[x])=l.take (min (st+sz) total*ch):=by grind[b2t,c1q]
  have z:a2Z fm 0 (done++[x]):=c1o y (by simp_all);obtain⟨rest,k1,F,G,H,I⟩:=ih (st+sz) (done++[x]) (by omega) m q z (by grind) (by omega);have Q:done++[x]++rest=done++x::rest:=by simp
  rw[Q]at F G H I;refine⟨x::rest,⟨hlt,by simp_all,by simp_all,i,k1⟩,F,G,H,?_⟩;rw[←I];have q1:wrap .i64 ((v0s (wrap .i64 ((st:Int)+(sz:Int))) (total:Int))*(ch:Int))=((en*ch:Nat):Int):=by
   rw[a0B (n:=(st:Int)+(sz:Int)) (by omega),a9O,show min ((st:Int)+(sz:Int)) (total:Int)=(en:Int)from by omega,←a92,a0B (by omega)]
  have q2:wrap .i64 ((st:Int)*(ch:Int))=((st*ch:Nat):Int):=by grind[a0B]
  have L:decide ((0:Int)≤((en*ch:Nat):Int))=true:=decide_eq_true (a04 _);have M:decide (((en*ch:Nat):Int)≤((l.length:Nat):Int))=true:=decide_eq_true (by omega);have N:decide ((0:Int)≤((st*ch:Nat):Int))=true:=decide_eq_true (a04 _);have O:decide (((st*ch:Nat):Int)≤((en*ch:Nat):Int))=true:=decide_eq_true (by omega);have R:a44 (st*ch) (a36 (en*ch) l)=a2A l ch st en:=rfl;have n0:((0:Int) != 0)=false:=rfl;have w1:wrap .i64 ((((a0X done).length:Nat):Int)+((p.length:Nat):Int))=(((a0X (done++[x])).length:Nat):Int):=by
   rw[a7J,lN,K,a0B (by omega)];rfl
  have w2:wrap .i64 ((st:Int)+(sz:Int))=((st+sz:Nat):Int):=by grind[a0B]
  refine a0E ?_
  simp only[a6h,dlt hlt,cT,a,q1,q2,L,M,N,O,a02,tN,R,v,oB,n0,cF,m1,d,b9j]
  erw[B]
  simp only[oB,a8W,a07,a0T (show done.length+1<2147483648 by omega),cT,w1,w2];simp_all[a2o,b2t,b1M]
  grind
theorem b7l{l:List Int}(a:l.length≤10000){fm:a0G}(f:4≤fm.2.2.1∧fm.2.2.1≤24)(sz effort h:Int):∀(rest done:List Int),done++rest=l→rest.all (fun x=>a1h x fm.2.2.1)=true→
  y0s a6g (l,sz,effort,h,l,(l.length:Int),(done.length:Int),fm,())=some (.inl (l,sz,effort,h,fm,()))
 | [],done,hd,_=>by
  obtain rfl:done=l:=by simp_all
  simp_all[a0F,a6g]
 |x::rest,done,hd,hfit=>by
  have g:done.length<l.length:=by grind
  have k:m0k l (done.length:Int)=some x:=by grind[a0D]
  simp only[a37,bA]at hfit;rw[a0E (s':=(l,sz,effort,h,l,(l.length:Int),(((done++[x]).length:Nat):Int),fm,())) (by
   simp only[a6g,dlt g,cT,k,oB,b2Y f,hfit.1,bT,cF,a0C (show done.length<1000000 by omega)]
   simp)]
  exact b7l a f sz effort h rest (done++[x]) (by simp_all) hfit.2
theorem c9m{fm:a0G}(k:a1Q fm){ch:Nat}(f:fm.2.1=(ch:Int)){l:List Int}{total sz:Nat}(b:l.length=total*ch)(e:total≤200)(B:1≤sz∧sz≤64)(g:l.all (fun x=>a1h x fm.2.2.1)=true){effort:Int}(y:0≤effort)(z:effort≤3):
  ∃h,c0E fm l ch sz total effort 0 h∧a2Z fm 0 h∧a1m h=total∧a4r h=l∧h.length≤256∧a6u (fm,l,(sz:Int),effort)=some (a5R fm h,0):=by
 obtain⟨h,C,c,j,m,o⟩:=d1n k f b e B g y z 200 0 [] (by omega) (by rfl) (by simp[a4r]) trivial (by simp) (by omega);rw[a20]at c j m o;have i:h.length≤256:=by grind[b6d]
 obtain⟨F,G,H,I,v,w⟩:=id k;have d:1≤ch∧ch≤8:=by omega
 have A:l.length≤200*8:=by rw[b];exact a06 e d.2
 have a:=b7l (l:=l) (fm:=fm) (by omega) ⟨v,w⟩ (sz:Int) effort (total:Int) l [] rfl g;have p:decide ((sz:Int)<1)=false:=by grind
 have q:decide ((sz:Int) > 4096)=false:=by grind
 have r:decide (effort<0)=false:=by simp_all
 have s:decide (effort > 3)=false:=by simp_all
 have c0:((ch:Int)==0)=false:=by grind
 have D:a46 ((l.length:Nat):Int) (ch:Int)=0:=by
  simp_all
 have E:wrap .i64 (a25 ((l.length:Nat):Int) (ch:Int))=(total:Int):=by
  rw[show a25 ((l.length:Nat):Int) (ch:Int)=((l.length / ch:Nat):Int)from rfl,b,a78 _ d.1,a0B (by omega)]
 have t:decide ((total:Int) > 4194304)=false:=by grind
 have s0:((sz:Int)==0)=false:=by grind
 have u:decide ((wrap .i64 (a25 (wrap .i64 ((wrap .i64 ((total:Int)+(sz:Int)))-(1:Int))) (sz:Int))) > (4096:Int))=false:=by
  rw[a0B (n:=(total:Int)+(sz:Int)) (by omega),a0B (n:=(total:Int)+(sz:Int)-1) (by omega),show((total:Int)+(sz:Int)-1)=((total+sz-1:Nat):Int)from by omega,show a25 ((total+sz-1:Nat):Int) (sz:Int)=(((total+sz-1) / sz:Nat):Int)from rfl];have L:=a91 (total+sz-1) sz
  grind[a0B]
 have K:b9j fm total h=mkT fm h:=by simp_all[b9j,mkT]
 have hp:=c1v k c i;refine⟨h,C,c,j,m,i,?_⟩;unfold a6u;simp only[a4H,k,decide_true,oB,bT,cF,p,q,r,s,f,c0,D,show((0:Int) != 0)=false from rfl,E,t,s0,u]
 erw[a]
 simp
 erw[o]
 simp_all
theorem c4w(f:a0G):b1D f=some (decide (a1Q f)):=by
 unfold b1D a1Q
 grind
def crE(s:BitVec 16):BitVec 16:=bif s.msb then(s <<< 1) ^^^ 32773#16 else s <<< 1
theorem c6l(s t:BitVec 16):crE (s ^^^ t)=crE s ^^^ crE t:=by
 unfold crE;rw[BitVec.msb_xor,BitVec.shiftLeft_xor_distrib];cases s.msb<;>cases t.msb<;>simp only[cT,cF,Bool.xor_true,Bool.xor_false,bT,a41];rw[a16];rw[a16,a16,a65 (t <<< 1)];rw[a16,a65 32773#16,a16,BitVec.xor_self,a94]
theorem d1o{s:BitVec 16}(h:crE s=0):s=0:=by
 unfold crE at h;cases hm:s.msb with
 |true=>
  rw[hm,cT]at h
  have:=congrArg (fun x=>a69 x 0) h
  simp at this
 |false=>
  rw[hm,cF]at h;refine a64 fun i hi=>?_
  by_cases h15:i=15
  subst h15;rw[a58]at hm;simpa using hm
  have:=congrArg (fun x=>a69 x (i+1)) h
  simp at this;simpa using this (by omega)
theorem d6e:crE 0=0:=by decide
theorem b7T{s:BitVec 16}:∀{n:Nat},rep crE n s=0→s=0
 |0,h=>h
 |n+1,h=>d1o (b7T (n:=n) h)
theorem d2b:∀n:Nat,rep crE n 0=0
 |0=>rfl
 |n+1=>by
  show rep crE n (crE 0)=0;rw[d6e,d2b n]
def crB(b:Bool):BitVec 16:=bif b then 32768#16 else 0#16
def crS(s:BitVec 16)(b:Bool):BitVec 16:=crE (s ^^^ crB b)
def crT:List Bool→BitVec 16
 | []=>0#16
 |b::w=>crB b ^^^ (crT w >>> 1)
theorem d2W(b:Bool)(j:Nat):(crB b).getLsbD j=(b&&decide (j=15)):=by
 cases b with
 |false=>simp[crB]
 |true=>
  simp only[crB,cT,a59];rw[show(32768#16)=BitVec.ofNat 16 (2^15)from rfl,BitVec.getLsbD_ofNat,Nat.testBit_two_pow]
  by_cases h:j=15
  subst h;rfl;rw[decide_eq_false (by omega:¬ (15=j)),decide_eq_false h,Bool.and_false]
theorem b6t:∀(w:List Bool)(j:Nat),(crT w).getLsbD j=(decide (j<16)&&w.getD (15-j) false)
 | [],j=>by simp[crT]
 |b::w,j=>by
  rw[crT,BitVec.getLsbD_xor,d2W,a35,b6t w]
  by_cases h:j=15
  subst h;simp
  by_cases h2:j<16
  rw[show 15-j=(15-(1+j))+1 from by omega,a75];simp[h,h2,show 1+j<16 from by omega];simp[h,h2,show ¬ (1+j<16)from by omega]
theorem d1p{w:List Bool}(h:w.length≤15):crE (crT w >>> 1)=crT w:=by
 have f:(crT w >>> 1).msb=false:=by
  rw[a58,a35,b6t];simp
 unfold crE;rw[f,cF];refine a64 fun i hi=>?_
 rw[BitVec.getLsbD_shiftLeft,a35];cases i with
 |zero=>
  have g:(crT w).getLsbD 0=false:=by
   rw[b6t,lD,List.getElem?_eq_none (by omega)];rfl
  rw[g];simp
 |succ i=>rw[show 1+(i+1-1)=i+1 from by omega];simp[hi]
theorem d4t:∀(w:List Bool)(s:BitVec 16),w.length≤16→w.foldl crS s=rep crE w.length (s ^^^ crT w)
 | [],s,_=>by simp[crT,rep]
 |b::w,s,h=>by
  rw[lC]at h;rw[a66,d4t w _ (by omega),crT,←a16];show _=rep crE w.length (crE (s ^^^ crB b ^^^ (crT w >>> 1)));rw[c6l,d1p (by omega)];rfl
theorem c4x{α:Type}(f g:α→Bool):∀(L:List α)(s t:BitVec 16),(L.map fun j=>xor (f j) (g j)).foldl crS (s ^^^ t)=(L.map f).foldl crS s ^^^ (L.map g).foldl crS t
 | [],_,_=>rfl
 |a::L,s,t=>by
  simp only[a26,a66];rw[←c4x f g L];congr 1;unfold crS;rw[←c6l];congr 1
  have:crB (xor (f a) (g a))=crB (f a) ^^^ crB (g a):=by cases f a<;>cases g a<;>rfl
  rw[this];simp only[a16];rw[←a16 t,a65 t,a16]
theorem b5a:∀(n:Nat)(s:BitVec 16),(a05 n false).foldl crS s=rep crE n s
 |0,_=>rfl
 |n+1,s=>by
  rw[List.replicate_succ,a66,b5a n];show rep crE n (crE (s ^^^ 0#16))=rep crE n (crE s);rw[a94]
theorem d6f{w:List Bool}(h:w.length≤16)(f:true∈w)(k m:Nat):(a05 k false++(w++a05 m false)).foldl crS 0≠0:=by
 rw[a45,a45,b5a,b5a,d2b,d4t w _ h];intro e;have e:=b7T (b7T e);have e:crT w=0:=by simpa using e
 obtain⟨i,hi,g⟩:=List.mem_iff_getElem.1 f
 have:=b6t w (15-i)
 rw[e,show 15-(15-i)=i from by omega,lD,lG hi,g]at this;simp at this;omega
def byb(c:Int):List Bool:=[7,6,5,4,3,2,1,0].map fun i=>c.toNat.testBit i
def b6u(p:List Int):List Bool:=p.flatMap byb
def c0F(f t:Nat)(r:List Int):List Int:=a44 f (a36 t r)
def b1Z(b:a1b)(f t:Nat):a1b:=(b.1,b.2.1.map (c0F f t),())
theorem d4u{b:a1b}(hb:a1W b){f t:Nat}(r:f<t)(s:t≤a0K b):b1B (b,(f:Int),(t:Int),())=some (b1Z b f t,0):=by
 obtain⟨o,-⟩:=b3a hb;have c:decide ((f:Int)<0)=false:=by simp only[decide_eq_false_iff_not];omega
 have d:decide ((f:Int)≥(t:Int))=false:=by simp only[decide_eq_false_iff_not];omega
 have e:decide ((t:Int) > ((a0K b:Nat):Int))=false:=by simp only[decide_eq_false_iff_not];omega
 have u:=hb.2.2.2.2.2.1;have h:=a1N (f:=a8J) (β:=a1b×(a1b×Unit)) b.2.1 (fun i (a:List (List Int))=>(b.2.1,((b.2.1.length:Nat):Int),(i:Int),((0:Int),([]:List (List Int)),()),(b.1,a,()),((f:Int),(t:Int),()),())) (fun a x=>.inl (a++[c0F f t x])) (fun i a=>a.length=i) (fun a=>(((0:Int),([]:List (List Int)),()),(b.1,a,()),()))
  (fun i hi a k=>⟨fun q g=>by
   simp only[Sum.inl.injEq]at g;subst g;have v:=(o _ (a23 hi)).1;have j:decide ((0:Int)≤(t:Int))=true:=by simp
   have l:decide ((t:Int)≤((b.2.1[i].length:Nat):Int))=true:=by simp only[dT];omega
   have m:decide ((0:Int)≤(f:Int))=true:=by simp
   have n:decide ((f:Int)≤(t:Int))=true:=by simp only[dT];omega
   have p:=hb.2.2.2.1;refine⟨?_,by simp[k]⟩;simp only[a8J,dlt hi,cT,a0D hi,oB,tN,j,l,m,n,a02];rw[b2o (show short (a44 f (a36 t b.2.1[i]))by unfold short;rw[a62,a63];omega)];simp only[oB];rw[a0T (show a.length+1<2147483648 by omega),cT,a0C (show i<1000000 by omega)];rfl,fun b hb=>by cases hb⟩)
  (fun a k=>by simp only[a8J,dge,cF]) (a:=[]) rfl
 rw[b1l (fun x:List Int=>[c0F f t x])]at h;simp only[nZ,a8k,c4d,a20]at h;unfold b1B;simp only[a6D,decide_eq_true hb,oB,bT,cF,c,d,a4Z,e]
 erw[h]
 rfl
theorem b6v{b:a1b}(hb:a1W b){f t:Nat}(g:f<t)(k:t≤a0K b):a0K (b1Z b f t)=t-f:=by
 unfold a0K b1Z;have a:=hb.2.2.1;have h:0<b.2.1.length:=by omega
 have c:a0K b=(b.2.1[0]).length:=by unfold a0K;rw[b3u (d:=[]) h]
 rw[←b3u (d:=[]) (show 0<(b.2.1.map (c0F f t)).length by simpa using h)];simp only[a87,c0F,a62,a63];omega
theorem d4v{b:a1b}(hb:a1W b){f t:Nat}(e:f<t)(i:t≤a0K b):a1W (b1Z b f t):=by
 have j:=b6v hb e i;obtain⟨g,k,a,c,o,p,d⟩:=hb;refine⟨g,k,by simpa[b1Z]using a,by simpa[b1Z]using c,by omega,by omega,lA.2 fun r l=>?_⟩;obtain⟨n,h,rfl⟩:=a39.1 l
 have:=lA.1 d n h
 simp only[bA,dT]at this;simp only[bA,dT];refine⟨by rw[j];simp only[c0F,a62,a63];omega,lA.2 fun x m=>lA.1 this.2 x (a70 (a71 m))⟩
def d4w(c:Int):Prop:=0≤c∧c<256
def a9R(p:List Int)(j:Nat):Bool:=(p.getD (j / 8) 0).toNat.testBit (7-j%8)
theorem b7U:∀p:List Int,b6u p=(a01 (8*p.length)).map (a9R p)
 | []=>rfl
 |c::p=>by
  have e:b6u (c::p)=byb c++b6u p:=rfl;rw[e,b7U p,lC,show 8*(p.length+1)=8+8*p.length from by omega,a43,pA,a34];congr 1;refine a27 fun j _=>?_
  show a9R p j=a9R (c::p) (8+j);unfold a9R;rw[show(8+j) / 8=j / 8+1 from by omega,a75,show(8+j)%8=j%8 from by omega]
structure Turn (b k i:Nat) (p0 p:List Int) (sm:Bool):Prop where
 len:p.length=p0.length
 ok:∀c∈p,d4w c
 bit:∀j,a9R p j=xor (a9R p0 j) (decide (k≤j∧j<k+i)&&b.testBit (j-k))
 smk:sm=true↔∃t,t<i∧b.testBit t=true
 pre:p.take (k / 8)=p0.take (k / 8)
 same:sm=false→p=p0
theorem turned{b k:Nat}{p0 q:List Int}{s:Bool}(w:k<8*p0.length)(i:(b6u p0).foldl crS 0=0)(g:Turn b k (min 16 (8*p0.length-k)) p0 q s)(u:s=true):(b6u q).foldl crS 0≠0:=by
 obtain⟨n,r⟩:∃n,min 16 (8*p0.length-k)=n:=⟨_,rfl⟩;rw[r]at g;have e:b6u q=(a01 (8*p0.length)).map fun j=>xor (a9R p0 j) (decide (k≤j∧j<k+n)&&b.testBit (j-k)):=by
  rw[b7U,g.len];exact a27 fun j _=>g.bit j
 have h:=c4x (a9R p0) (fun j=>decide (k≤j∧j<k+n)&&b.testBit (j-k)) (a01 (8*p0.length)) 0 0;have a:∀x:BitVec 16,(0:BitVec 16) ^^^ x=x:=fun _=>BitVec.zero_xor;rw[a,←e,←b7U,i,a]at h;rw[h];obtain⟨m,p⟩:∃m,8*p0.length=k+(n+m):=⟨8*p0.length-k-n,by omega⟩;rw[p,a43,a43,pA,pA,pA,a34,a34,a34];have c:(a01 k).map (fun j=>decide (k≤j∧j<k+n)&&b.testBit (j-k))=a05 k false:=by
  rw[a68];refine⟨by simp,fun x f=>?_⟩;obtain⟨j,o,rfl⟩:=a39.1 f
  grind
 have d:(a01 m).map (((fun j=>decide (k≤j∧j<k+n)&&b.testBit (j-k))∘(k+·))∘(n+·))=a05 m false:=by
  rw[a68];refine⟨by simp,fun x f=>?_⟩;obtain⟨j,o,rfl⟩:=a39.1 f
  grind
 rw[c,d];refine d6f (by simp;omega) ?_ k m;obtain⟨t,l,v⟩:=g.smk.1 u;refine a39.2 ⟨t,a42.2 l,?_⟩;simp_all
theorem c9n(f:a0G)(l:List Int)(m:Nat)(p:m≤1000):∃t,b2j (f,l,(m:Int))=some t∧(t=true→a1Q f∧l.length≤m∧l.all (fun x=>a1h x f.2.2.1)=true∧∃ch n:Nat,f.2.1=(ch:Int)∧l.length=n*ch):=by
 unfold b2j;simp only[c4w,oB]
 by_cases hf:a1Q f
 ·simp only[hf,decide_true,bT,cF];cases hd:decide (((l.length:Nat):Int) > (m:Int))with
  |true=>exact⟨false,rfl,fun h=>by cases h⟩
  |false=>
   have k:l.length≤m:=by simp at hd;omega
   obtain⟨d,e,j,o,a,b⟩:=id hf;obtain⟨ch,g⟩:∃ch:Nat,f.2.1=(ch:Int):=⟨f.2.1.toNat,by omega⟩;have c0:((ch:Int)==0)=false:=by simp;omega
   have tm:a46 ((l.length:Nat):Int) (ch:Int)=((l.length%ch:Nat):Int):=rfl;simp only[cF,g,c0,tm,oB];cases c:(((l.length%ch:Nat):Int) != 0)with
   |true=>exact⟨false,rfl,fun h=>by cases h⟩
   |false=>
    have c:l.length%ch=0:=by simp at c;omega
    have h:=a2c (f:=a7u) l (fun i=>(l,(i:Int),f,())) (fun x=>a1h x f.2.2.1) (bt:=Sum.inl ()) (bf:=Sum.inr (false,()))
     (fun i hi hp=>by simp only[a7u,dlt hi,cT,a0D hi,oB,b5Y ⟨a,b⟩,hp,bT,cF,a0C (show i<1000000 by omega)])
     (fun i hi hp=>by simp only[a7u,dlt hi,cT,a0D hi,oB,b5Y ⟨a,b⟩,hp,a41])
     (by simp only[a7u,dge,cF])
    simp only[cF]
    erw[h]
    cases ha:l.all (fun x=>a1h x f.2.2.1)with
    |true=>exact⟨true,rfl,fun _=>⟨trivial,k,rfl,ch,l.length / ch,rfl,by have:=Nat.div_add_mod l.length ch;rw[a40];omega⟩⟩
    |false=>exact⟨false,rfl,fun h=>by cases h⟩
 simp only[hf,decide_false,a41,cT];exact⟨false,rfl,fun h=>by cases h⟩
theorem d2X{fm:a0G}(c:a1Q fm){ch:Nat}(f:fm.2.1=(ch:Int)){l:List Int}{total:Nat}(j:l.length=total*ch)(m:total≤200)(g:l.all (fun x=>a1h x fm.2.2.1)=true)(size effort:Int):
  ∃(sz:Nat)(eff:Int)(h:List Pc),1≤sz∧sz≤64∧wrap .i64 (1+bits .i64 .and size 63)=(sz:Int)∧bits .i64 .and effort 3=eff∧0≤eff∧eff≤3∧c0E fm l ch sz total eff 0 h∧a2Z fm 0 h∧a1m h=total∧a4r h=l∧h.length≤256∧
   b0J (fm,l,size,effort)=some (a5R fm h,mkT fm h,true):=by
 obtain⟨v,hv,k⟩:=d4f 6 (by omega) size;obtain⟨w,a,b⟩:=d4f 2 (by omega) effort;rw[show((2^6-1:Nat):Int)=63 from rfl]at hv;rw[show((2^2-1:Nat):Int)=3 from rfl]at a;have n:v<64:=k;have o:w<4:=b;have d:wrap .i64 (1+(v:Int))=((v+1:Nat):Int):=by rw[a0B (by omega)];omega
 obtain⟨h,p,e,q,r,i,s⟩:=c9m c f j m (sz:=v+1) (by omega) g (effort:=(w:Int)) (by omega) (by omega);refine⟨v+1,w,h,by omega,by omega,by rw[hv];exact d,a,by omega,by omega,p,e,q,r,i,?_⟩;unfold b0J;simp only[hv,a,d,s,oB,b9i c e i,beq_self_eq_true,cT]
@[reducible] def d6g:Type:=Int×(a0G×(List a0G×(List Sub×Unit)))
@[reducible] def Pp:Type:=d6g×a1b
def gOk(fm:a0G)(q:Pp):Prop:=a0K q.2≤64∧a1W q.2∧fm.2.1=((q.2.2.1.length:Nat):Int)∧∀st:Nat,st+a0K q.2≤4194304→∃p,b7P fm st (((st:Int),q.1),q.2,p)
theorem c9o{b:a1b}{fm:a0G}(hb:a1W b)(e:a0K b≤64)(l:1≤fm.1∧fm.1≤1048576)(i:fm.2.1=((b.2.1.length:Nat):Int))(h:fm.2.2.1=b.1){st:Nat}(d:st+a0K b≤4194304){effort:Int}(n:0≤effort)(o:effort≤3):
  ∃g,a2X (b,fm,(st:Int),effort)=some (((st:Int),g),0)∧gOk fm (g,b):=by
 obtain⟨rate,ch,bits,u⟩:=fm;cases u;simp only at l i h;subst i h;obtain⟨g,q,r,s,w,x,m,t⟩:=made hb (by omega) (rate:=rate) (start:=(st:Int)) (effort:=effort) l (by omega) n o;refine⟨g,q,e,hb,rfl,fun st d=>?_⟩;have d:st+a0K b≤4194304:=d;have a:=t (st:Int) (by omega);obtain⟨L,p,-,j,c⟩:=b8X (f:=((st:Int),g)) m a;have k:=b7N (f:=((st:Int),g)) m;rw[a]at k;have v:=b4Q (b2Z a).1 p;refine⟨a4Y ((st:Int),g) L,rfl,r,s,k,j,c,hb,rfl,e,?_,?_⟩
 all_goals grind[a4Y]
def c4y(f:a1d):List Int:=match a2F f with
 |some (p,_)=>p
 |none=>[]
def b3O(st:Nat)(q:Pp):Pc:=(((st:Int),q.1),q.2,c4y ((st:Int),q.1))
def pcs:Nat→List Pp→List Pc
 |_,[]=>[]
 |st,q::qs=>b3O st q::pcs (st+a0K q.2) qs
def a0V(qs:List Pp):Nat:=(qs.map fun q=>a0K q.2).sum
def a1C(qs:List Pp):List Int:=qs.flatMap fun q=>wvB q.2
def a1X(fm:a0G)(qs:List Pp):Prop:=∀q∈qs,gOk fm q
theorem c6m{f:a1d}{p:List Int}{e:Int}(h:a2F f=some (p,e)):c4y f=p:=by unfold c4y;rw[h]
theorem b4j{fm:a0G}{q:Pp}(h:gOk fm q){st:Nat}(g:st+a0K q.2≤4194304):b7P fm st (b3O st q):=by
 obtain⟨p,hp⟩:=h.2.2.2 st g
 have:=c6m hp.2.2.2.2.1
 simp_all[b3O]
theorem a6I(q:Pp)(h:List Pp):a0V (q::h)=a0K q.2+a0V h:=by rfl
theorem c4z(a b:List Pp):a0V (a++b)=a0V a+a0V b:=by simp[a0V]
theorem c9p(a b:List Pp):a1C (a++b)=a1C a++a1C b:=by simp[a1C]
theorem c4A{fm:a0G}{a b:List Pp}(g:a1X fm a)(hb:a1X fm b):a1X fm (a++b):=fun q h=>(mA.1 h).elim (g q) (hb q)
theorem c0G{fm:a0G}:∀{qs:List Pp}{st:Nat},a1X fm qs→st+a0V qs≤4194304→a2Z fm st (pcs st qs)
 | [],_,_,_=>trivial
 |q::qs,st,h,hs=>by
  rw[a6I]at hs;exact⟨b4j (h q (by simp)) (by omega),c0G (st:=st+a0K q.2) (fun r g=>h r (by simp[g])) (by omega)⟩
theorem a3g:∀(qs:List Pp)(st:Nat),(pcs st qs).length=qs.length
 | [],_=>rfl
 |_::qs,_=>congrArg (·+1) (a3g qs _)
theorem a6Z:∀(qs:List Pp)(st:Nat),a1m (pcs st qs)=a0V qs
 | [],_=>rfl
 |q::qs,st=>by
  have:=a6Z qs (st+a0K q.2)
  rw[a6I,←this];simp[pcs,a1m,b3O]
theorem b1n:∀(qs:List Pp)(st:Nat),a4r (pcs st qs)=a1C qs
 | [],_=>rfl
 |q::qs,st=>by
  have:=b1n qs (st+a0K q.2)
  simp only[a1C,a4r,pcs,a33]at *;rw[this];rfl
theorem b6w:∀(a b:List Pp)(st:Nat),pcs st (a++b)=pcs st a++pcs (st+a0V a) b
 | [],_,_=>rfl
 |q::a,b,st=>by
  simp_all[pcs,b6w,a6I,a60]
theorem c7Y{b:a1b}(hb:a1W b):a5Q b.1 (wvB b) b.2.1.length=b:=by
 obtain⟨w,h,u⟩:=b;obtain⟨-,-,d,-,-,-,l⟩:=hb;simp only at d l;have a:∀r∈h,r.length=a0K (w,h,u):=fun r a=>by
  simp_all
 generalize hn:a0K (w,h,u)=n at a;unfold a5Q wvB;rw[hn];have m:wv n h=(a01 (n*h.length)).map fun j=>(h.getD (j%h.length) []).getD (j / h.length) 0:=by
  rw[←c7Q (fun j=>(h.getD (j%h.length) []).getD (j / h.length) 0) h.length n];refine b4T fun i hi=>?_
  refine a28 (by simp) fun c e g=>?_
  have f:c<h.length:=by simp_all
  simp[a40 i,a95,a24 f,a96 (show 0<h.length by omega),a88 f,f]
 have hp:a1F (wv n h) h.length=h:=by
  refine a28 (by simp[a1F]) fun c e g=>?_
  simp[a1F];rw[b3w (n:=n) (by simp_all) g];refine a28 (by simp_all) fun i o p=>?_
  have hi:i<n:=by simp_all
  have k:i*h.length+c<n*h.length:=by
   have:(i+1)*h.length≤n*h.length:=a03 _ hi
   grind
  simp only[a87,List.getElem_range];rw[m,c0C _ k,a40 i,a95,a24 g,a96 (by omega),a88 g];simp_all
 simp_all
def a9f(fm:a0G)(a b:Nat):Nat→List Pp→List Pp→Prop
 |_,[],rs=>rs=[]
 |st,q::qs,rs=>
  if min (b-st) (a0K q.2)≤a-st then a9f fm a b (st+a0K q.2) qs rs
  else if min (b-st) (a0K q.2)-(a-st)=a0K q.2 then ∃rs',rs=q::rs'∧a9f fm a b (st+a0K q.2) qs rs'
  else ∃q' rs',rs=q'::rs'∧gOk fm q'∧q'.2=b1Z q.2 (a-st) (min (b-st) (a0K q.2))∧a9f fm a b (st+a0K q.2) qs rs'
theorem b4k{fm:a0G}{a b:Nat}:∀{qs rs:List Pp}{st:Nat},a1X fm qs→a9f fm a b st qs rs→a1X fm rs
 | [],rs,st,_,h=>by
  simp[a9f]at h;simp_all
 |q::qs,rs,st,hg,h=>by
  have f:a1X fm qs:=fun r g=>hg r (by grind);simp only[a9f]at h
  split at h
  exact b4k f h
  split at h
  obtain⟨k,rfl,h⟩:=h;intro r g;rcases mC.1 g with rfl|g;exact hg _ (by simp);exact b4k f h r g;obtain⟨d,k,rfl,c,-,h⟩:=h;intro r g;rcases mC.1 g with rfl|g;omega;exact b4k f h r g
theorem d2Y{b:a1b}{ch f t:Nat}(hb:a1W b)(k:b.2.1=a1F (wvB b) ch)(c:(wvB b).length=a0K b*ch)(e:f<t)(g:t≤a0K b):wvB (b1Z b f t)=a2A (wvB b) ch f t:=by
 have h:=d4h (d:=wvB b) (ch:=ch) (a:=f) c g;rw[←k]at h;unfold a2A;rw[←h];unfold wvB;rw[b6v hb e g];rfl
theorem c7Z{l:List Int}{ch a b:Nat}(h:b≤a):a2A l ch a b=[]:=by
 grind[a2A,List.drop_eq_nil_iff,Nat.min_le_left,a03]
theorem c9q{w D:List Int}{ch k f t:Nat}(g:w.length=k*ch):a2A (w++D) ch f t=a2A w ch f (min t k)++a2A D ch (f-k) (t-k):=by
 by_cases h:t≤k
 simp_all[a03,a2A,List.take_append_of_le_length]
 grind[a03,a2A,List.take_append,List.take_of_length_le,List.drop_append,a85]
theorem d1q{fm:a0G}{q:Pp}(h:gOk fm q){ch f t:Nat}(g:q.2.2.1.length=ch)(k:f<t)(a:t≤a0K q.2):wvB (b1Z q.2 f t)=a2A (wvB q.2) ch f t:=by
 have hp:=c7Y h.2.1;rw[g]at hp;exact d2Y h.2.1 (congrArg (fun b:a1b=>b.2.1) hp).symm (by rw[b2C,g]) k a
theorem d4x{fm:a0G}{q:Pp}(h:gOk fm q){ch:Nat}(g:fm.2.1=(ch:Int)):q.2.2.1.length=ch:=by
 have:=h.2.2.1
 omega
theorem b3y{fm:a0G}{ch:Nat}(k:fm.2.1=(ch:Int)){a b:Nat}(c:a≤b):∀{qs rs:List Pp}{st:Nat},a1X fm qs→a9f fm a b st qs rs→
  a0V rs=min b (st+a0V qs)-max a st∧a1C rs=a2A (a1C qs) ch (a-st) (b-st)
 | [],rs,st,_,h=>by
  simp[a9f]at h;grind[a0V,a1C,a2A]
 |q::qs,rs,st,hg,h=>by
  have l:a1X fm qs:=fun r A=>hg r (by grind);have j:=hg q (by simp);have d:=d4x j k;have m:(wvB q.2).length=a0K q.2*ch:=by rw[b2C,d]
  have y:a1C (q::qs)=wvB q.2++a1C qs:=rfl;have split:a2A (a1C (q::qs)) ch (a-st) (b-st)=a2A (wvB q.2) ch (a-st) (min (b-st) (a0K q.2))++a2A (a1C qs) ch (a-(st+a0K q.2)) (b-(st+a0K q.2)):=by
   grind[c9q]
  simp only[a9f]at h;rw[a6I,split]
  split at h
  rename_i w;obtain⟨n,e⟩:=b3y k c l h
  grind[c7Z]
  split at h
  rename_i i v;obtain⟨g,rfl,h⟩:=h;obtain⟨n,e⟩:=b3y k c l h;refine⟨by grind[a6I],?_⟩;rw[show a1C (q::g)=wvB q.2++a1C g from rfl,e];congr 1;have p:a-st=0:=by omega
  have s:min (b-st) (a0K q.2)=a0K q.2:=by omega
  rw[p,s];simp[a2A,←m];rename_i i v;obtain⟨o,g,rfl,x,u,h⟩:=h;obtain⟨n,e⟩:=b3y k c l h;have z:=b6v j.2.1 (f:=a-st) (t:=min (b-st) (a0K q.2)) (by omega) (by omega);refine⟨by grind[a6I],?_⟩;rw[show a1C (o::g)=wvB o.2++a1C g from rfl,e,u,d1q j d (by omega) (by omega)]
def b6j(q:Pp):List Int:=b2s (c4y ((0:Int),q.1))
def a5S(a b:List Pp):Nat:=((b.map b6j).filter fun k=>(a.map b6j).contains k).length
theorem c9r(a:List Pp):a5S a []=0:=rfl
theorem c9s(a b c:List Pp):a5S a (b++c)=a5S a b+a5S a c:=by simp[a5S]
theorem d1r{a:List Pp}{q:Pp}(b:List Pp)(h:q∈a):a5S a (q::b)=a5S a b+1:=by
 have:(a.map b6j).contains (b6j q)=true:=by grind
 simp only[a5S,a26,a89,this,if_true,lC]
theorem d1s(a b:List Pp)(q:Pp):a5S a b≤a5S a (q::b):=by
 simp only[a5S,a26,a89]
 grind
theorem b5b{fm:a0G}{q:Pp}(h:gOk fm q):1≤a0K q.2:=h.2.1.2.2.2.2.1
def b0T(b:Nat):Nat→List Pp→Nat
 |_,[]=>0
 |st,q::qs=>(if st+a0K q.2≤b then 1 else 0)+b0T b (st+a0K q.2) qs
theorem c1x:∀(qs:List Pp)(st b:Nat),st+a0V qs≤b→b0T b st qs=qs.length
 | [],_,_,_=>rfl
 |q::qs,st,b,h=>by
  rw[a6I]at h;rw[b0T,if_pos (by omega),c1x qs _ b (by omega),lC];omega
theorem b5c{fm:a0G}:∀(qs:List Pp)(st b:Nat),a1X fm qs→b≤st→b0T b st qs=0
 | [],_,_,_,_=>rfl
 |q::qs,st,b,hg,h=>by
  have:=b5b (hg q (by simp))
  rw[b0T,if_neg (by omega),b5c qs _ b (fun r g=>hg r (by grind)) (by omega)]
theorem b5d{fm:a0G}{all:List Pp}{a b:Nat}(g:a≤b):∀{qs rs:List Pp}{st:Nat},a1X fm qs→(∀q∈qs,q∈all)→a9f fm a b st qs rs→
  b0T b st qs≤b0T a st qs+a5S all rs+(if st<a then 1 else 0)
 | [],rs,st,_,_,h=>by simp[b0T]
 |q::qs,rs,st,hg,hs,h=>by
  have hp:=b5b (hg q (by simp));have f:a1X fm qs:=fun r d=>hg r (by grind);have k:∀r∈qs,r∈all:=fun r d=>hs r (by grind);simp only[a9f]at h;simp[b0T]
  split at h
  have:=b5d g f k h
  grind
  split at h
  obtain⟨c,rfl,h⟩:=h
  have:=b5d g f k h
  grind[d1r]
  obtain⟨e,c,rfl,-,-,h⟩:=h
  have:=b5d g f k h
  grind[d1s]
theorem a5r{fm:a0G}:∀{qs:List Pp},a1X fm qs→a0V qs≤64*qs.length∧qs.length≤a0V qs
 | [],_=>⟨a19 _,a19 _⟩
 |q::qs,h=>by
  have:=a5r fun r g=>h r (List.mem_cons_of_mem _ g)
  have f:=(h q (by simp)).1;have k:=b5b (h q (by simp));rw[a6I,lC];omega
theorem c8a{fm:a0G}{qs:List Pp}(h:a1X fm qs)(g:qs.length≤256):a2Z fm 0 (pcs 0 qs):=c0G h (by grind[a5r])
def a1K(fm:a0G)(qs:List Pp):List Int:=a5R fm (pcs 0 qs)
def mkQ(fm:a0G)(qs:List Pp):b6c:=mkT fm (pcs 0 qs)
theorem b3b{fm:a0G}(g:a1Q fm){qs:List Pp}(h:a1X fm qs)(f:qs.length≤256):a1E (a1K fm qs)=some (mkQ fm qs,0):=b9i g (c8a h f) (by rw[a3g];omega)
theorem c1y{fm:a0G}(g:a1Q fm){qs:List Pp}(h:a1X fm qs)(f:qs.length≤256):a2w (mkQ fm qs)=some (a1C qs,0):=by
 have:=c7W g (c8a h f) (by rw[a3g];omega)
 rw[b1n]at this;exact this
def a0U(qs:List Pp):List a1d:=(pcs 0 qs).map (·.1)
theorem b9k:∀(qs:List Pp)(st:Nat),((pcs st qs).map (·.1)).map (·.2)=qs.map (·.1)
 | [],_=>rfl
 |q::qs,st=>by simp only[pcs,a26,b9k qs];rfl
theorem b2v(fm:a0G)(h:List Pp):(mkQ fm h).2.2.2.2.1=a0U h:=rfl
theorem d4y{α β:Type}{l:List α}{g:α→β}{A B:List β}{b:β}(h:l.map g=A++b::B):∃a,m0k l (A.length:Int)=some a∧g a=b∧A.length<l.length:=by
 have f:A.length<l.length:=by have:=congrArg a09 h;grind
 refine⟨l[A.length],a0D f,?_,f⟩
 have:=congrArg (fun x=>x[A.length]?) h
 grind
theorem c4B{fm:a0G}{qs:List Pp}(j:a1X fm qs)(M:qs.length≤256){fs:List a1d}(h:fs.map (·.2)=qs.map (·.1)):∀(rest done:List Pp),done++rest=qs→
  y0s a4m ((((a0X (pcs 0 done)).length:Nat):Int),fs,(fs.length:Int),(done.length:Int),mkQ fm done,())=some (.inl (mkQ fm qs,()))
 | [],done,he=>by
  obtain rfl:done=qs:=by simp_all
  have K:fs.length=done.length:=by have:=congrArg a09 h;grind
  simp_all[a0F,a4m]
 |q::rest,done,he=>by
  have C:=j q (by grind);have f:a1X fm done:=fun r T=>j r (by grind);have I:done.length<qs.length:=by grind
  have K:fs.length=qs.length:=by have:=congrArg a09 h;grind
  obtain⟨U,d,x,-⟩:=d4y (l:=fs) (g:=(·.2)) (A:=done.map (·.1)) (b:=q.1) (B:=rest.map (·.1)) (by grind);rw[a07]at d;have L:=a5r f;have c:=C.1;have s:=b4j C (st:=a0V done) (by omega);obtain⟨O,E,P,F,G,-,e,Q,-,y,z⟩:=id s;simp[b3O]at O E P F G e Q y z;have hb:=b2u (c0G f (st:=0) (by omega));rw[a3g]at hb;have t:=c6j e;have N:(a1A q.2.1 (wvB q.2)).length≤3*(64*8):=by
   have:=b9c (w:=q.2.1) ⟨e.1,e.2.1⟩ (wvB q.2)
   have S:(wvB q.2).length≤64*8:=by rw[b2C];exact a06 c e.2.2.2.1
   omega
  have u:=c4p (l:=a1A q.2.1 (wvB q.2)) (by unfold short;omega) (b6a _ _);have m:=c6i (a:=prI (a1A fm.2.2.1 (a1C done))) (b:=prI (a1A q.2.1 (wvB q.2))) (n:=(a1A q.2.1 (wvB q.2)).length) (b4h _) (b4h _) (by omega);have p:prI (a1A fm.2.2.1 (a1C (done++[q])))=(prI (a1A fm.2.2.1 (a1C done))*(1000003^(a1A q.2.1 (wvB q.2)).length%prm)+prI (a1A q.2.1 (wvB q.2)))%prm:=by
   simp_all[b9d,c6g,a1C]
  have H:pcs 0 (done++[q])=pcs 0 done++[b3O (a0V done) q]:=by rw[b6w,a30];rfl
  have D:((0:Int) != 0)=false:=rfl;have R:wrap .i64 ((((a0X (pcs 0 done)).length:Nat):Int)+(((c4y ((a0V done:Int),q.1)).length:Nat):Int))=(((a0X (pcs 0 (done++[q]))).length:Nat):Int):=by
   grind[a7J,a0B,b3O]
  have w2:wrap .i64 ((done.length:Int)+1)=(((done++[q]).length:Nat):Int):=by grind[a0B]
  have o:mkQ fm done=(fm,((a0V done:Nat):Int),((prI (a1A fm.2.2.1 (a1C done)):Nat):Int),a3a 0 0 (pcs 0 done),a0U done,()):=by
   simp_all[mkQ,mkT,a2o,a6Z,b1n,a0U]
  have k:mkQ fm (done++[q])=(fm,wrap .i64 (((a0V done:Nat):Int)+q.1.1),((prI (a1A fm.2.2.1 (a1C (done++[q]))):Nat):Int),a3a 0 0 (pcs 0 done)++[(((a0V done:Nat):Int),(((a0X (pcs 0 done)).length:Nat):Int),())],a0U done++[(((a0V done:Nat):Int),q.1)],()):=by
   simp only[mkQ,mkT,a2o,a6Z,b1n,a0U,c4z];rw[H,b1M,a6Z,pA,a30,a30,E,a0B (by omega)];rfl
  rw[a0E (s':=((((a0X (pcs 0 (done++[q]))).length:Nat):Int),fs,(fs.length:Int),(((done++[q]).length:Nat):Int),mkQ fm (done++[q]),())) (by
   simp only[a4m,dlt (show done.length<fs.length by omega),cT,d,oB,o];rw[x,G];simp only[oB,D,cF];rw[F];simp only[oB,D,cF,t,u];rw[m];have v:(a3a 0 0 (pcs 0 done)).length=done.length:=by rw[a8W,a3g]
   have i:(a0U done).length=done.length:=by simp[a0U,a3g]
   simp only[oB,v,i,a0T (show done.length+1<2147483648 by omega),cT,R,w2,←p,k];rfl)]
  exact c4B j M h rest (done++[q]) (by simp_all)
theorem c9t{fm:a0G}(a:a1Q fm){qs:List Pp}(f:a1X fm qs)(k:qs.length≤256){fs:List a1d}(g:fs.map (·.2)=qs.map (·.1)):a4i (fm,fs)=some (a1K fm qs,0):=by
 have h:=c4B f k g qs [] rfl;have hp:=c1v a (c8a f k) (by rw[a3g];omega);have e:mkQ fm []=(fm,(0:Int),(0:Int),([]:List (Int×Int×Unit)),([]:List a1d),()):=by
  rfl
 rw[e]at h;unfold a4i
 erw[h]
 simp
 erw[hp]
 rfl
theorem c9u{fm:a0G}(d:a1Q fm){q:Pp}(b:gOk fm q){st f t:Nat}(m:st+a0K q.2≤4194304)(k:f<t)(a:t≤a0K q.2){eff:Int}(j:0≤eff)(l:eff≤3):
  ∃g,a7Z (((st:Int),q.1),((f:Int),(t:Int),()),eff)=some (((0:Int),g),0)∧gOk fm (g,b1Z q.2 f t):=by
 obtain⟨u,v,e,i,w,-,h,c,-,-,-⟩:=b4j b m;have e:q.1.2.1=fm:=e;have i:a2f ((st:Int),q.1)=some (q.2,0):=i;have h:a1W q.2:=h;have c:q.2.1=fm.2.2.1:=c;have n:=d4u h k a;have o:=b6v h k a;obtain⟨g,p,r⟩:=c9o (fm:=fm) (d4v h k a) (by have:=b.1;omega) ⟨d.1,d.2.1⟩ (by rw[b.2.2.1];simp[b1Z]) (by rw[←c];rfl) (st:=0) (by omega) j l;have s:((0:Int) != 0)=false:=rfl;simp_all[a7Z]
theorem b5e{fm:a0G}(o:a1Q fm){qs:List Pp}(i:a1X fm qs)(x:qs.length≤256){a b:Nat}(c:a≤b)(hb:b≤a0V qs){eff:Int}(m:0≤eff)(n:eff≤3)(T:b6c):
  ∀(rest done:List Pp)(fs:List a1d),done++rest=qs→fs.length≤done.length→∃k h,a9f fm a b (a0V done) rest k∧h.map (·.2)=k.map (·.1)∧k.length≤rest.length∧
   y0s a3T (eff,a0U qs,((a0U qs).length:Int),(done.length:Int),fs,T,((a:Int),(b:Int),()),())=some (.inl (fs++h,T,()))
 | [],done,fs,he,_=>by
  obtain rfl:done=qs:=by simp_all
  have C:(a0U done).length=done.length:=by simp[a0U,a3g]
  rw[C];exact⟨[],[],rfl,rfl,a19 _,a0F (by simp_all[a3T])⟩
 |q::rest,done,fs,he,hfl=>by
  have p:=i q (by grind);have w:a1X fm done:=fun r R=>i r (by grind);have K:done.length<qs.length:=by grind
  have C:(a0U qs).length=qs.length:=by simp[a0U,a3g]
  have L:a0U qs=a0U done++(((a0V done:Nat):Int),q.1)::(pcs (a0V done+a0K q.2) rest).map (·.1):=by
   rw[←he,a0U,b6w,pA,a30];rfl
  have y:m0k (a0U qs) (done.length:Int)=some (((a0V done:Nat):Int),q.1):=by
   grind[a3g,b1m]
  have M:=a5r w;have D:=p.1;have O:=b5b p;have N:=(a5r i).1;obtain⟨U,l,V,-⟩:=b4j p (st:=a0V done) (by omega);have l:q.1.1=((a0K q.2:Nat):Int):=l;have v:a0V (done++[q])=a0V done+a0K q.2:=by simp_all[a0V]
  have e:done++[q]++rest=qs:=by simp_all
  have B:wrap .i64 ((a:Int)-((a0V done:Nat):Int))=(a:Int)-((a0V done:Nat):Int):=a0B (by omega);have w2:wrap .i64 ((b:Int)-((a0V done:Nat):Int))=(b:Int)-((a0V done:Nat):Int):=a0B (by omega);have H:wrap .i64 ((done.length:Int)+1)=(((done++[q]).length:Nat):Int):=by grind[a0B]
  have A:v0r ((a:Int)-((a0V done:Nat):Int)) 0=((a-a0V done:Nat):Int):=by rw[b6m];omega
  simp only[a9f]
  by_cases c1:min (b-a0V done) (a0K q.2)≤a-a0V done
  obtain⟨k,h,j,z,E,F⟩:=b5e o i x c hb m n T rest (done++[q]) fs e (by grind);rw[v]at j;refine⟨k,h,by simp_all,z,by grind,?_⟩;rw[a0E (s':=(eff,a0U qs,((a0U qs).length:Int),(((done++[q]).length:Nat):Int),fs,T,((a:Int),(b:Int),()),())) (by
   have d:decide (v0r (wrap .i64 ((a:Int)-((a0V done:Nat):Int))) (0:Int)≥v0s (wrap .i64 ((b:Int)-((a0V done:Nat):Int))) q.1.1)=true:=by
    rw[B,w2,A,a9O,l];grind
   simp only[a3T,dlt (show done.length<(a0U qs).length by omega),cT,y,oB];simp_all)]
  omega;have s:a-a0V done<min (b-a0V done) (a0K q.2):=by omega
  have G:v0s ((b:Int)-((a0V done:Nat):Int)) ((a0K q.2:Nat):Int)=((min (b-a0V done) (a0K q.2):Nat):Int):=by rw[a9O];omega
  have d:decide (v0r (wrap .i64 ((a:Int)-((a0V done:Nat):Int))) (0:Int)≥v0s (wrap .i64 ((b:Int)-((a0V done:Nat):Int))) q.1.1)=false:=by
   simp_all
  have I:wrap .i64 (((min (b-a0V done) (a0K q.2):Nat):Int)-((a-a0V done:Nat):Int))=((min (b-a0V done) (a0K q.2)-(a-a0V done):Nat):Int):=by grind[a0B]
  simp only[if_neg c1]
  by_cases c2:min (b-a0V done) (a0K q.2)-(a-a0V done)=a0K q.2
  obtain⟨k,h,j,z,E,F⟩:=b5e o i x c hb m n T rest (done++[q]) (fs++[(((a0V done:Nat):Int),q.1)]) e (by simp_all);rw[v]at j;refine⟨q::k,(((a0V done:Nat):Int),q.1)::h,by simp_all,by grind,by simp_all,?_⟩;rw[a0E (s':=(eff,a0U qs,((a0U qs).length:Int),(((done++[q]).length:Nat):Int),fs++[(((a0V done:Nat):Int),q.1)],T,((a:Int),(b:Int),()),())) (by
   have u:decide (((min (b-a0V done) (a0K q.2)-(a-a0V done):Nat):Int)<((a0K q.2:Nat):Int))=false:=by simp_all
   simp only[a3T,dlt (show done.length<(a0U qs).length by omega),cT,y,oB];rw[d];simp only[cF];rw[B,w2,A,l,G,I,u];simp only[cF,oB,a0T (show fs.length+1<2147483648 by omega),cT,H];rfl)]
  simp_all;obtain⟨g,P,S⟩:=c9u o p (st:=a0V done) (f:=a-a0V done) (t:=min (b-a0V done) (a0K q.2)) (by omega) s (by omega) m n;obtain⟨k,h,j,z,E,F⟩:=b5e o i x c hb m n T rest (done++[q]) (fs++[((0:Int),g)]) e (by simp_all);rw[v]at j;refine⟨(g,b1Z q.2 (a-a0V done) (min (b-a0V done) (a0K q.2)))::k,((0:Int),g)::h,by grind,by grind,by simp_all,?_⟩;rw[a0E (s':=(eff,a0U qs,((a0U qs).length:Int),(((done++[q]).length:Nat):Int),fs++[((0:Int),g)],T,((a:Int),(b:Int),()),())) (by
   have u:decide (((min (b-a0V done) (a0K q.2)-(a-a0V done):Nat):Int)<((a0K q.2:Nat):Int))=true:=by grind
   have Q:((0:Int) != 0)=false:=rfl;simp only[a3T,dlt (show done.length<(a0U qs).length by omega),cT,y,oB];rw[d];simp only[cF];rw[B,w2,A,l,G,I,u];simp only[cT];rw[P];simp only[Q,cF,oB,a0T (show fs.length+1<2147483648 by omega),cT,H];rfl)]
  simp_all
theorem d2c{fm:a0G}(f:a1Q fm){qs:List Pp}(k:a1X fm qs)(c:qs.length≤256){a b:Nat}(g:a≤b)(hb:b≤a0V qs){eff:Int}(o:0≤eff)(p:eff≤3):
  ∃h,a9f fm a b 0 qs h∧h.length≤qs.length∧a4S (a1K fm qs,((a:Int),(b:Int),()),eff)=some (a1K fm h,0):=by
 obtain⟨h,n,d,r,s,t⟩:=b5e f k c g hb o p (mkQ fm qs) qs [] [] rfl (a19 _);have q:=c9t f (b4k k d) (by omega) r;refine⟨h,d,s,?_⟩;have e:decide (eff<0)=false:=by simp_all
 have i:decide (eff > 3)=false:=by simp_all
 have j:decide ((a:Int)<0)=false:=by rfl
 have l:decide ((a:Int) > (b:Int))=false:=by simp_all
 have m:decide ((b:Int) > (mkQ fm qs).2.1)=false:=by
  simp_all[mkQ,mkT,a6Z]
 have u:((0:Int) != 0)=false:=rfl;unfold a4S;simp only[e,i,cF,oB,b3b f k c,u,j,l,m]
 erw[t]
 simp
 erw[q]
 rfl
theorem d2Z{n:Nat}(h:n<2147483648):a1x ([],(n:Int))=some []:=by
 have w:wrap .i64 ((n:Int)-(0:Int))=(n:Int):=by grind[a0B]
 have g:decide ((n:Int)<0)=false:=by simp
 unfold a1x;simp only[g,cF,w]
 by_cases h0:n=0
 simp_all;have f:decide ((n:Int) > 0)=true:=by grind
 have k:decide (0≤(n:Int))=true:=by simp
 simp_all[a0T]
theorem c9v{A B:List a1d}(h:A.length+B.length≤100000):a1p [A,B]=some (A++B):=by
 have g:m0k [A,B] (0:Int)=some A:=rfl;have f:m0k [A,B] (1:Int)=some B:=rfl;have c:wrap .i64 ((0:Int)+(A.length:Int))=(A.length:Int):=by grind[a0B]
 have w2:wrap .i64 ((A.length:Int)+(B.length:Int))=((A.length+B.length:Nat):Int):=by grind[a0B]
 have k:decide ((A.length:Int)<0)=false:=by simp
 have a:decide (((A.length+B.length:Nat):Int)<0)=false:=by rfl
 have i0:y0s a1k ([A,B],(0:Int),[A,B],(2:Int),(0:Int),())=some ([A,B],((A.length+B.length:Nat):Int),()):=by
  rw[a0E (s':=([A,B],(A.length:Int),[A,B],(2:Int),(1:Int),())) (by
   simp only[a1k,g,oB,c,k,cF];rfl)]
  rw[a0E (s':=([A,B],((A.length+B.length:Nat):Int),[A,B],(2:Int),(2:Int),())) (by
   simp only[a1k,f,oB,w2,a,cF];rfl)]
  rfl
 have d:y0s a1l ([A,B],(2:Int),(0:Int),([]:List a1d),())=some (A++B,()):=by
  rw[a0E (s':=([A,B],(2:Int),(1:Int),A,())) (by
   simp only[a1l,g,oB,a21,a30,a0T (show A.length<2147483648 by omega),cT];rfl)]
  rw[a0E (s':=([A,B],(2:Int),(2:Int),A++B,())) (by
   simp only[a1l,f,oB,a0T (show A.length+B.length<2147483648 by omega),cT];rfl)]
  rfl
 unfold a1p;have b:((a09 [A,B]:Nat):Int)=2:=rfl;rw[b,i0];simp only[oB];rw[d2Z (by omega)];simp_all
theorem d4z{fm:a0G}(g:a1Q fm){qs rs:List Pp}(f:a1X fm qs)(k:a1X fm rs)(j:qs.length+rs.length≤256):a7v (a1K fm qs,a1K fm rs)=some (a1K fm (qs++rs),0):=by
 have e:((0:Int) != 0)=false:=rfl;have l1:=(a5r f).1;have l2:=(a5r k).1;have l:(a0U qs).length=qs.length:=by simp[a0U,a3g]
 have d:(a0U rs).length=rs.length:=by simp[a0U,a3g]
 have b:decide (wrap .i64 ((mkQ fm qs).2.1+(mkQ fm rs).2.1) > 4194304)=false:=by
  grind[mkQ,mkT,a6Z,a0B]
 have c:decide (wrap .i64 ((((mkQ fm qs).2.2.2.2.1.length:Nat):Int)+(((mkQ fm rs).2.2.2.2.1.length:Nat):Int)) > 4096)=false:=by
  grind[b2v,a0B]
 have i:=c9t g (c4A f k) (by simp_all) (fs:=a0U qs++a0U rs) (by grind[a0U,b9k]);unfold a7v;simp only[b3b g f (by omega),b3b g k (by omega),oB,e,cF];have a:(mkQ fm qs).1=fm:=rfl;have h:(mkQ fm rs).1=fm:=rfl;rw[a,h]
 erw[b4R]
 simp[b,c]
 grind[b2v,c9v]
theorem d1t{l:List Int}(h:short l):a2S (l,l)=some true:=by
 have:=a1D (f:=a2k) (fun i=>(l,l,(l.length:Int),(i:Int),())) l.length (b:=Sum.inl ()) (fun i hi=>by
   have:=h
   unfold short at this;simp only[a2k,dlt hi,cT,a0D hi,oB,bne_self_eq_false,cF]
   grind[a0B])
  (by simp_all[a2k])
 simp_all[a2S]
theorem d4A{fm:a0G}(h:a1Q fm){qs rs:List Pp}(f:a1X fm qs)(b:a1X fm rs)(a:qs.length≤256)(k:rs.length≤256)(j:a0V qs=a0V rs)(i:a1C qs=a1C rs)(l:short (a1C qs)):a7t (a1K fm qs,a1K fm rs)=some true:=by
 have c:((0:Int) != 0)=false:=rfl;have e:((mkQ fm qs).2.1 != (mkQ fm rs).2.1)=false:=by simp_all[mkQ,mkT,a6Z]
 unfold a7t;simp only[b3b h f a,b3b h b k,oB,c,cF];have d:(mkQ fm qs).1=fm:=rfl;have g:(mkQ fm rs).1=fm:=rfl;simp_all[b4R,c1y,d1t]
theorem b5s{fm:a0G}{qs:List Pp}(h:a1X fm qs)(a:qs.length≤256):∀(rest done:List Pp),done++rest=qs→
  y0s a4n (a0U qs,((a0U qs).length:Int),(done.length:Int),done.map b6j,())=some (.inl (qs.map b6j,()))
 | [],done,he=>by
  obtain rfl:done=qs:=by simp_all
  simp_all[a0U,a3g,a0F,a4n]
 |q::rest,done,he=>by
  have g:=h q (by grind);have f:done.length<qs.length:=by grind
  have e:(a0U qs).length=qs.length:=by simp[a0U,a3g]
  have k:a0U qs=a0U done++(((a0V done:Nat):Int),q.1)::(pcs (a0V done+a0K q.2) rest).map (·.1):=by
   rw[←he,a0U,b6w,pA,a30];rfl
  have b:m0k (a0U qs) (done.length:Int)=some (((a0V done:Nat):Int),q.1):=by
   grind[a3g,b1m]
  have hp:=(b4j g (st:=0) (by have:=g.1;omega)).2.2.2.2.1;simp only[b3O]at hp;have c:((0:Int) != 0)=false:=rfl;have d:wrap .i64 ((done.length:Int)+1)=(((done++[q]).length:Nat):Int):=by grind[a0B]
  rw[a0E (s':=(a0U qs,((a0U qs).length:Int),(((done++[q]).length:Nat):Int),(done++[q]).map b6j,())) (by
   simp only[a4n,dlt (show done.length<(a0U qs).length by omega),cT,b,oB]
   erw[hp]
   simp only[oB,c,cF,a07,a0T (show done.length+1<2147483648 by omega),cT,d,pA,a26,List.map_nil];rfl)]
  exact b5s h a rest (done++[q]) (by simp_all)
theorem b9l{fm:a0G}(k:a1Q fm){qs:List Pp}(g:a1X fm qs)(f:qs.length≤256):a2t (a1K fm qs)=some (qs.map b6j):=by
 have h:=b5s g f qs [] rfl;have a:((0:Int) != 0)=false:=rfl;simp_all[a2t,b3b,b2v]
theorem d4B{fm:a0G}(h:a1Q fm){qs rs:List Pp}(g:a1X fm qs)(a:a1X fm rs)(k:qs.length≤256)(f:rs.length≤256):a7s (a1K fm qs,a1K fm rs)=some ((a5S qs rs:Nat):Int):=by
 unfold a7s;simp only[b9l h g k,b9l h a f,oB,a07,a0T (show qs.length<2147483648 by omega),a0T (show rs.length<2147483648 by omega),a02,cT];rfl
def d1u(k:Nat):Nat→List Pp→Prop
 |_,[]=>True
 |st,q::qs=>¬ (st<k∧k<st+a0K q.2)∧d1u k (st+a0K q.2) qs
theorem c4C{fm:a0G}{k:Nat}:∀{qs xs:List Pp}{st:Nat},k≤st→a9f fm 0 k st qs xs→xs=[]
 | [],xs,st,_,h=>h
 |q::qs,xs,st,hk,h=>by
  simp only[a9f]at h;rw[if_pos (by omega)]at h;exact c4C (by omega) h
theorem d2d{fm:a0G}(o:a1Q fm){ch:Nat}(b:fm.2.1=(ch:Int)){l:List Int}{sz total:Nat}(p:l.length=total*ch)(A:total≤200)(z:1≤sz∧sz≤64){eff:Int}(i:0≤eff)(j:eff≤3):
  ∀(xs:List Pc)(st:Nat),c0E fm l ch sz total eff st xs→∃a,a1X fm a∧xs=pcs st a∧(st%sz=0→∀k,k%sz=0∨total≤k→d1u k st a)
 | [],_,_=>⟨[],fun q h=>(by grind),rfl,fun _ _ _=>trivial⟩
 |x::xs,st,⟨a1,a2,a3,a4,a5⟩=>by
  obtain⟨s,t,H,I,K,L⟩:=id o;have c:=c1p (l:=l) (ch:=ch) (st:=st) (en:=min (st+sz) total) (by rw[p];exact a03 _ (by omega));have d:=b4V (w:=fm.2.2.1) c (by omega);rw[←a2]at d;obtain⟨Q,R,S,T,D,-,E,F,G,-,-⟩:=id a4;obtain⟨g,r,P⟩:=c9o (fm:=fm) E G ⟨s,t⟩ (by simp_all[a5Q,a1F]) F.symm (st:=st) (by omega) i j;rw[a3]at r;have e:x.1=((st:Int),g):=congrArg (·.1) (Option.some.inj r);rw[e]at D;have M:x=b3O st (g,x.2.1):=by
   grind[b3O,c6m]
  obtain⟨a,C,N,O⟩:=d2d o b p A z i j xs (st+sz) a5
  by_cases he:st+sz≤total
  have u:a0K x.2.1=sz:=by omega
  refine⟨(g,x.2.1)::a,fun q h=>?_,?_,fun B k f=>⟨?_,?_⟩⟩;rcases mC.1 h with rfl|h;omega;exact C q h
  grind[pcs]
  rintro⟨b1,b2⟩
  simp only at b2;rcases f with f|f
  have:=a51 (m:=k) (n:=st) (k:=sz) (by omega)
  rw[a24 (by omega)]at this;omega;omega
  grind[Nat.add_mod_right]
  ·have v:xs=[]:=by
    cases xs with
    |nil=>rfl
    |cons y ys=>obtain⟨b1,-⟩:=a5;omega
   subst v;refine⟨[(g,x.2.1)],fun q h=>by grind,?_,fun B k f=>⟨?_,trivial⟩⟩
   grind[pcs]
   rintro⟨b1,b2⟩
   simp only at b2;rcases f with f|f
   have:=a51 (m:=k) (n:=st) (k:=sz) (by omega)
   rw[a24 (by omega)]at this;omega;omega
theorem d4C{fm:a0G}(a:a1Q fm){ch:Nat}(g:fm.2.1=(ch:Int)){l:List Int}{total:Nat}(b:l.length=total*ch)(c:total≤200)(f:l.all (fun x=>a1h x fm.2.2.1)=true)(size effort:Int):
  ∃(sz:Nat)(h:List Pp),1≤sz∧wrap .i64 (1+bits .i64 .and size 63)=(sz:Int)∧a1X fm h∧a0V h=total∧a1C h=l∧h.length≤total∧(∀k,k%sz=0∨total≤k→d1u k 0 h)∧
   b0J (fm,l,size,effort)=some (a1K fm h,mkQ fm h,true):=by
 obtain⟨sz,eff,t,i,p,q,w,r,s,n,u,d,e,v,o⟩:=d2X a g b c f size effort;obtain⟨h,j,rfl,m⟩:=d2d a g b c ⟨i,p⟩ r s t 0 n;rw[a6Z]at d;rw[b1n]at e;exact⟨sz,h,i,q,j,d,e,by grind[a5r],m (Nat.zero_mod _),o⟩
theorem d3a:b3C ()=some true:=by kernel_rfl
theorem c6n(fm:a0G)(h:List Pp):(mkQ fm h).2.1=((a0V h:Nat):Int):=by simp_all[mkQ,mkT,a6Z]
theorem c9w(fm:a0G)(h:List Pp):(mkQ fm h).2.2.1=((prI (a1A fm.2.2.1 (a1C h)):Nat):Int):=by simp_all[mkQ,mkT,a2o,b1n]
theorem c8b(h:List Pp):(a0U h).length=h.length:=by simp[a0U,a3g]
theorem d1v{n:Int}(h:Wf (.int .u8) n):0≤n∧n<256:=by
 have h:(decide (IntKind.min .u8≤n)&&decide (n≤IntKind.max .u8))=true:=h;simp only[bA,dT]at h;have g:IntKind.min .u8=0:=rfl;have f:IntKind.max .u8=255:=rfl;omega
theorem c9x{fm:a0G}(M:a1Q fm){ch:Nat}(C:fm.2.1=(ch:Int)){l:List Int}{n:Nat}(X:l.length=n*ch)(hn:n≤60){qs:List Pp}(m:a1X fm qs)(H:a0V qs=n)(R:a1C qs=l){cs:List Int}(h8:cs.length≤8)(D:∀c∈cs,0≤c∧c<256):
  ∀(k i a:Nat)(us:List Pp),i+k=cs.length+1→a1X fm us→a0V us=a→a≤n→a1C us=l.take (a*ch)→b0T a 0 qs+1≤a5S qs us+max i 1→(i=0→a=0)→(i=cs.length+1→a=n)→
  ∃g,a1X fm g∧a0V g=n∧a1C g=l∧qs.length≤a5S qs g+cs.length∧
   y0s a2D (l,cs,a1K fm qs,a1K fm us,(a:Int),(i:Int),mkQ fm qs,())=some (.inl (l,cs,a1K fm qs,a1K fm g,mkQ fm qs,())):=by
 intro k
 induction k with
 |zero=>
  intro i a us V p z I A K B L;have e:a=n:=L (by omega);subst e;refine⟨us,p,z,by rw[A,←X,a47],?_,?_⟩;rw[c1x qs 0 a (by omega)]at K;omega;have d:decide ((i:Int)≤((cs.length:Nat):Int))=false:=by simp only[decide_eq_false_iff_not];omega
  exact a0F (by simp only[a2D,d,cF])
 |succ k ih=>
  intro i a us V p z I A K B L;have hi:i≤cs.length:=by omega
  have d:decide ((i:Int)≤((cs.length:Nat):Int))=true:=by simp only[dT];omega
  have Y:=(a5r m).2;have S:=(a5r p).2;have N:((0:Int) != 0)=false:=rfl;have O:wrap .i64 ((i:Int)+1)=((i+1:Nat):Int):=by rw[a0B (by omega)];omega

  have step:∀t:Nat,a≤t→t≤n→(i=cs.length→t=n)→
    ∃g,a1X fm g∧a0V g=n∧a1C g=l∧qs.length≤a5S qs g+cs.length∧∃f,a4S (a1K fm qs,((a:Int),(t:Int),()),(1:Int))=some (a1K fm f,0)∧a7v (a1K fm us,a1K fm f)=some (a1K fm (us++f),0)∧
     y0s a2D (l,cs,a1K fm qs,a1K fm (us++f),(t:Int),((i+1:Nat):Int),mkQ fm qs,())=some (.inl (l,cs,a1K fm qs,a1K fm g,mkQ fm qs,())):=by
   intro t b E F;obtain⟨f,b1,b2,o⟩:=d2c M m (by omega) b (by omega) (eff:=1) (by omega) (by omega);have hb:=b4k m b1;obtain⟨P,y⟩:=b3y C b m b1;rw[R,Nat.sub_zero,Nat.sub_zero]at y;have T:=(a5r hb).2;have s:=d4z M p hb (by omega);have he:=b5d b m (fun q h=>h) b1;have G:(if 0<a then 1 else 0)≤(if i=0 then 0 else 1):=by
    by_cases j:i=0
    rw[B j];simp;rw[if_neg j];split<;>omega
   have Q:i=0→b0T a 0 qs=0:=fun j=>by rw[B j];exact b5c qs 0 0 m (a19 _)
   obtain⟨g,u,r2,v,w,x⟩:=ih (i+1) t (us++f) (by omega) (c4A p hb) (by rw[c4z,z,P];omega) E (by rw[c9p,A,y,c1q b]) (by
    rw[c9s]
    by_cases j:i=0
    have:=Q j
    rw[if_pos j]at G;omega;rw[if_neg j]at G;omega) (by omega) (fun h=>F (by omega))
   exact⟨g,u,r2,v,w,f,o,s,x⟩
  by_cases hlt:i<cs.length
  have U:=D _ (a23 hlt);obtain⟨c,r⟩:∃c:Nat,cs[i]=(c:Int):=⟨cs[i].toNat,by omega⟩;rw[r]at U;have w1:wrap .i64 (c:Int)=(c:Int):=a0B (by omega);have t1:a46 (c:Int) 20=((c%20:Nat):Int):=rfl;have w2:wrap .i64 ((a:Int)+((c%20:Nat):Int))=((a+c%20:Nat):Int):=by rw[a0B (by omega)];omega
  have Z:v0s ((a+c%20:Nat):Int) (n:Int)=((min (a+c%20) n:Nat):Int):=by rw[a9O];omega
  obtain⟨g,u,r2,v,w,f,o,s,x⟩:=step (min (a+c%20) n) (by omega) (by omega) (by omega);refine⟨g,u,r2,v,w,?_⟩;rw[←x];refine a0E ?_
  simp only[a2D,d,cT,dlt hlt,a0D hlt,oB,r,w1,t1,w2,c6n,H,Z,o,s,N,cF,O];have y:decide ((i:Int)<((cs.length:Nat):Int))=false:=by simp only[decide_eq_false_iff_not];omega
  obtain⟨g,u,r2,v,w,f,o,s,x⟩:=step n I (a19 _) (fun _=>rfl);refine⟨g,u,r2,v,w,?_⟩;rw[←x];refine a0E ?_
  simp only[a2D,d,cT,y,cF,oB,c6n,H,o,s,N,O]
theorem c0H(x:a0G×(List Int×(Int×(Int×List Int))))(o:∀c∈x.2.2.2.2,0≤c∧c<256):a9E x=some true:=by
 obtain⟨fm,l,size,effort,cs⟩:=x;unfold a9E;simp only[d3a,oB,bT,cF];obtain⟨t,A,F⟩:=c9n fm l 60 (by omega);rw[show((60:Nat):Int)=60 from rfl]at A;simp only[A,oB];cases t with
 |false=>rfl
 |true=>
  obtain⟨g,I,e,ch,n,d,p⟩:=F rfl;obtain⟨R,S,T,U,V,X⟩:=id g;have G:1≤ch:=by omega
  have r:n≤60:=Nat.le_trans (Nat.le_mul_of_pos_right n G) (p▸I);simp only[bT,cF,oB];cases m:decide (((cs.length:Nat):Int) > 8)with
  |true=>rfl
  |false=>
   have m:cs.length≤8:=by simp only[decide_eq_false_iff_not]at m;omega
   obtain⟨sz,f,s1,s2,k,z,j,Y,Z,E⟩:=d4C g d p (by omega) e size effort;obtain⟨zs,Q,z2,C⟩:=d2c g k (by omega) (a:=0) (b:=0) (a19 _) (by omega) (eff:=0) (by omega) (by omega);have N:=c4C (a19 _) Q;subst N;obtain⟨w,i,r2,v,r4,B⟩:=c9x g d p r k z j m o (cs.length+1) 0 0 [] (by omega) (fun q h=>by cases h) rfl (by omega) (by simp[a1C]) (by rw[b5c f 0 0 k (a19 _)];simp[c9r]) (fun _=>rfl) (by omega);have L:=(a5r i).2;have K:=b3b g i (show w.length≤256 by omega);have M:=c1y g i (show w.length≤256 by omega);have u:=d4A g i k (by omega) (by omega) (by rw[r2,z]) (by rw[v,j]) (by rw[v];unfold short;omega);have H:=d4B g k i (show f.length≤256 by omega) (by omega);have s:=c5u (x:=l) (y:=l) (by unfold short;omega);have O:((0:Int) != 0)=false:=rfl;have P:wrap .i64 ((f.length:Int)-(cs.length:Int))=(f.length:Int)-(cs.length:Int):=a0B (by omega);have D:decide (((a5S f w:Nat):Int)≥(f.length:Int)-(cs.length:Int))=true:=by simp only[dT];omega
   rw[show((0:Nat):Int)=0 from rfl]at C B;simp only[cF,E,oB,bT,C,O,B,K,M,beq_self_eq_true,cT,v,s,decide_true,u,H,b2v,c8b,P,D,c9w,j]
end Go.Ab
namespace Go.Proofs.YtojedkpkkiecfaaGreatDoor
open Go.Ab Go.ChangeShapes Go.WideShapes Go.ChangeAt Go.RowKit
theorem b6k{α:Type}{f:Nat→Option (α×a0z×List Nat)}:∀(L:List α)(i:Nat),(∀(j:Nat) x,L[j]?=some x→f (i+j)=some (x,[],[]))→a0d f L.length i=some (L,[],[])
 | [],_,_=>rfl
 |a::L,i,h=>by
  have g:=h 0 a rfl;have k:=b6k L (i+1) (fun j x b=>by have:=h (j+1) x (by simpa using b);rw[←this];congr 1;omega);simp only[lC,a0d];simp only[a80]at g;rw[g,k];rfl
section
variable {H:Type} {enc:TypeId×Value→H} {P:Program} {w:World} {base:Nat} {spare:Nat→Bool} {held:Bool}
theorem c2p{k:IntKind}{n:Nat}{t e:TypeId}{fuel:Nat}{cs:List Value}{L:List Int}{p:List MemPlace}(B:P.underlying t=some (.array n e))(u:P.underlying e=some (.int k))(s:P.cellsOf e=1)
  (h:DataW.trod enc P w base spare held fuel t cs=some (.agg (L.map fun i=>.lit (.int k i)),p)):L.length=n∧∀(j:Nat) x,L[j]?=some x→cs[j]?=some (.int k x):=by
 obtain⟨C,m,rfl,b,-,A,a⟩:=DataW.trod_array B h;simp only[pJ,DataW.agg.injEq]at b;have z:L.length=n:=by rw[←A];simpa using congrArg a09 b.1
 refine⟨z,fun j x c=>?_⟩;obtain⟨v,-⟩:=lS.1 c;have g:=a j (by omega);rw[s]at g;obtain⟨y,d⟩:∃y,C[j]?=some y:=⟨_,lG (by omega)⟩;rw[d]at g;obtain⟨i,o,q,-⟩:=DataW.trod_int u g;have f:=congrArg (fun l=>l[j]?) b.1;simp only[a82,c,d,Option.map_some,q]at f;simp only[sj,DataW.lit.injEq,Lit.int.injEq,true_and]at f;subst f;have r:=congrArg (fun l=>l[0]?) o;simpa[a54,List.getElem?_take]using r
end
def c6o : String := (Rows.spliceIsRow.laid.map Prod.fst).headD ""
theorem d8I:Tryz.prog.globalNamed c6o=some 0:=by kernel_rfl
def d1w:TypeId:=((Tryz.prog.globals[0]?).map (·.type)).getD 0
theorem d3b:(Tryz.prog.globals[0]?).map (·.type)=some d1w:=by kernel_rfl
def d1x:TypeId:=match Tryz.prog.underlying d1w with
 |some (.array _ e)=>e
 |_=>0
theorem d8J:Tryz.prog.underlying d1w=some (.array 64 d1x):=by kernel_rfl
theorem d6h:Tryz.prog.underlying d1x=some (.int .u8):=by kernel_rfl
theorem d6i:Tryz.prog.cellsOf d1x=1:=by kernel_rfl
@[reducible] def laidTab:List (String×DataW Unit):=[(c6o,Rows.laid_math_bits_deBruijn64tab)]

theorem d4D {g:Nat} {t:Ty} {x:t.den} (h:G0 g=some ⟨t,x⟩):g=0∧(⟨t,x⟩:(t:Ty)×t.den)=⟨.arr 64 (.int .u8),b1o⟩:=by
 unfold G0 find at h
 cases g with
 |zero=>exact⟨rfl,(Option.some.inj h).symm⟩
 |succ n=>exact absurd h (by simp[find])
theorem c4D{W:World}(h:laidMetH Tryz.prog laidTab W):∀g t x,G0 g=some ⟨t,x⟩→g<W.heap.size∧dec (a0a W none) t ((Src.at g 0).rd (a0a W none))=some (x,[],[]):=by
 rw[MakeChecks.laidMetH_plain _ _ _ (by kernel_rfl)]at h;obtain⟨ps,⟨r,w,m,q,u,v,b,c,d,a,_⟩,_,_⟩:=h;obtain rfl:=Option.some.inj (d8I.symm.trans b);obtain rfl:=Option.some.inj (d3b.symm.trans c);have n:(Rows.laid_math_bits_deBruijn64tab:DataW Unit)=.agg (b1o.map fun i=>.lit (.int .u8 i)):=rfl;rw[n]at a;obtain⟨s,p⟩:=c2p d8J d6h d6i a;have k:∀(j:Nat) x,b1o[j]?=some x→W.cell? ⟨0,j,none⟩=some (.int .u8 x):=fun j x l=>by
  rw[World.var?_cell b d j];simpa using p j x l
 intro g t x o;obtain⟨rfl,e⟩:=d4D o;cases e;refine⟨z0m (k 0 0 rfl),?_⟩;exact b6k (f:=fun i=>dec (a0a W none) (.int .u8) fun j=>(Src.at 0 0).rd (a0a W none) (i*1+j)) b1o 0 (fun j x l=>by
  have:=k j x l
  simp only[dec,Src.rd,a0a,a30,Nat.mul_one,a80,this,if_true])
set_option maxRecDepth 100000 in
theorem d1y (os:Os) (args:Array Value):laidMetH Tryz.prog laidTab ((World.doorLaid Tryz.prog 400 os).forCall (fun _ _=>0) ⟨#[],args,[]⟩).memory:=
 laidMetH_of_parts3 (fuel:=8) (laidMet_of_run' 8 (by kernel_rfl) (by kernel_rfl)) (by kernel_rfl) (by kernel_rfl)
end Go.Proofs.YtojedkpkkiecfaaGreatDoor
