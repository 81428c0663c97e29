/- Part of the proof: QUF. Conditions: as each statement tells. -/
import Derived.KernelRfl
import Derived.Test.YtpckgfbgijdfnaaGreatDoorRows
import Derived.ProofKit
import Derived.LaidMore
import Derived.LaidLaws
import Derived.LaidHandle
import Derived.LaidByTextLater
import Derived.OpenShut
import Derived.Handed
import Derived.Test.YtpckgfbgijdfnaaGreatDoorMG
noncomputable section
set_option linter.unusedSimpArgs false
set_option linter.unusedVariables false
open BitVec renaming ofInt→a00,xor_assoc→a18,toNat_ofInt→a27,getLsbD_ushiftRight→a34,toNat_and→a47,msb_eq_getLsbD_last→a57,eq_of_getLsbD_eq→a64,xor_comm→a65,getLsbD→a69,toNat_or→a89,xor_zero→a93
open Bool renaming and_self→a02,not_false→a42,true_and→a58,eq_false_iff→a81
open Int renaming natCast_nonneg→a04,tdiv→a23,toNat→a30,tmod→a39,fdiv_eq_ediv_of_nonneg→a55,natCast_mul→a91
open List renaming range→a01,replicate→a05,length→a08,length_map→a16,nil_append→a20,length_nil→a21,map_congr_left→a24,getElem_mem→a25,ext_getElem→a26,flatMap_cons→a31,map_map→a32,take→a35,all_cons→a36,map_cons→a37,range_succ→a38,mem_map→a40,mem_range→a43,range_add→a44,drop→a45,foldl_append→a46,not_mem_nil→a48,getElem?_drop→a53,filter_append→a54,cons_append→a60,take_length→a61,length_drop→a62,length_take→a63,foldl_cons→a66,eq_replicate_iff→a68,mem_of_mem_take→a70,mem_of_mem_drop→a71,flatMap_append→a74,getD_cons_succ→a75,getElem?_map→a82,mem_flatMap→a84,append→a86,getElem_map→a87,append_nil→a92,append_eq→a96,getD→a97
open Nat renaming mul_le_mul_right→a03,mul_le_mul→a06,lt_trans→a07,mod_lt→a09,mod_eq_of_lt→a22,and_two_pow_sub_one_eq_mod→a28,le_refl→a29,zero_add→a33,mul_comm→a41,pow_le_pow_right→a49,sub_mod_eq_zero_of_mod_eq→a50,le_of_lt→a51,two_pow_add_eq_or_of_lt→a52,mul_mod→a56,add_assoc→a59,div_lt_iff_lt_mul→a67,le_sub_one_of_lt→a72,div_lt_of_lt_mul→a73,pos_of_ne_zero→a76,eq_zero_or_pos→a77,mul_div_cancel→a78,pow_succ→a79,add_zero→a80,lt_succ_of_lt→a83,sub_mul→a85,div_eq_of_lt→a88,div_le_self→a90,mul_add_mod→a94,mul_add_div→a95
open Option renaming bind_eq_some_iff→a19
namespace Go.Ab
open IntKind(wrap)
def a8N(f:a1c)(l:List Sub):a1c:=(f.1,f.2.1,f.2.2.1,f.2.2.2.1,l,())
theorem c7z(f:a1c):a8N f f.2.2.2.2.1=f:=rfl
theorem b8L(f g:a1c)(e:Int){N:Nat}(d:N≤8){Z:List Int}:∀(rest:List PZ)(done:List Sub)(P:List Int),done.length+rest.length=N→(∀p∈rest,c7y f.2.1 p)→OkR P (a0N rest++Z)→
  y0s a7K (e,(N:Int),(done.length:Int),g,a8N f done,rdr P (a0N rest++Z),())=some (.inl (e,g,a8N f (done++rest.map (·.1)),rdr (P++a0N rest) Z,()))
 | [],done,P,hl,_,_=>by
  have a:done.length=N:=by simpa using hl
  rw[a,a0F (b:=Sum.inl (e,g,a8N f done,rdr P Z,())) (by simp only[a7K,dge,cF];rfl)];simp[a0N]
 |p::rest,done,P,hl,h,hok=>by
  rw[lC]at hl;obtain⟨n,l,o⟩:=h p (by simp);have c:a0N (p::rest)++Z=a8j p.1 p.2++(a0N rest++Z):=by simp[a0N]
  rw[c]at hok⊢;have j:=d2l n l o hok;have i:decide ((done.length:Int)<(N:Int))=true:=by simp;omega
  have z0:((0:Int) != 0)=false:=rfl;rw[a0E (s':=(e,(N:Int),(((done++[p.1]).length:Nat):Int),g,a8N f (done++[p.1]),rdr (P++a8j p.1 p.2) (a0N rest++Z),())) (by
   have k:b1H (rdr P (a8j p.1 p.2++(a0N rest++Z)),(a8N f done).2.1)=some (p.1,(0:Int),rdr (P++a8j p.1 p.2) (a0N rest++Z)):=j;simp only[a7K,i,cT,k,oB,z0,cF];rw[show(a8N f done).2.2.2.2.1=done from rfl,a0T (show done.length+1<2147483648 by omega),cT,a0C (show done.length<1000000 by omega)];rw[show(((done++[p.1]).length:Nat):Int)=((done.length+1:Nat):Int)from by simp];rfl)]
  rw[b8L f g e d rest (done++[p.1]) _ (by simp;omega) (fun q m=>h q (by simp[m])) hok.shift];simp[a0N]
theorem b6U{L:List Int}(f:a1z L)(a:L.length<500000000)(t:Int×(Int×Unit)):∀(k i:Nat),i+k=L.length→(∀j,i≤j→L.getD j 0=0)→
  y0s a3s ((L.length:Int),(i:Int),((wL L).1,t),())=some (.inl ((L.length:Int),((wL L).1,t),()))
 |0,i,h,_=>by
  obtain rfl:i=L.length:=by omega
  exact a0F (by simp only[a3s,dge,cF])
 |k+1,i,h,h0=>by
  have g:i<L.length:=by omega
  have z:((0:Int)==1)=false:=rfl;have b:wrap .i64 ((i:Int)+1)=((i+1:Nat):Int):=by rw[a0B (by omega)];omega
  rw[a0E (s':=((L.length:Int),((i+1:Nat):Int),((wL L).1,t),())) (by
   simp only[a3s,dlt g,cT];rw[b9Q f (by omega) g t,h0 i (a29 _)];simp only[oB,z,cF,b])]
  exact b6U f a t k (i+1) (by omega) (fun j c=>h0 j (by omega))
theorem d0G(L:List Int)(k j:Nat)(h:L.length≤j):(L++a05 k 0).getD j 0=0:=by
 rw[lD,List.getElem?_append_right h,List.getElem?_replicate]
 split<;>rfl
theorem c1b{L:List Int}(h:a1z L):a1z (a2M L):=h.app fun _ hb=>.inl (List.mem_replicate.1 hb).2
theorem c8Q{L:List Int}(f:a1z L)(c:L.length≤5600000):∃r,a4Z (rdr L (a05 (a4T L.length) 0))=some r∧r.2.2.1=0:=by
 have hp:(a2M L).length=L.length+a4T L.length:=by simp[a2M]
 have a:a4T L.length<8:=by unfold a4T;omega
 have b:(a2M L).length%8=0:=by rw[hp];unfold a4T;omega
 have z0:((0:Int) != 0)=false:=rfl;have g:wrap .i64 (wrap .i64 (a23 (wrap .i64 ((L.length:Int)+7)) 8)*8)=((a2M L).length:Int):=by
  rw[a0B (n:=(L.length:Int)+7) (by omega),show a23 ((L.length:Int)+7) 8=(((L.length+7) / 8:Nat):Int)from by
   rw[show((L.length:Int)+7)=((L.length+7:Nat):Int)from by omega];rfl,a0B (n:=(((L.length+7) / 8:Nat):Int)) (by omega),a0B (by omega),hp]
  unfold a4T;omega
 have h:=b6U (c1b f) (by omega) ((L.length:Int),(0:Int),()) (a4T L.length) L.length (by omega) (fun j k=>d0G L _ j k);refine⟨((wL (a2M L)).1,((a2M L).length:Int),(0:Int),()),?_,rfl⟩;unfold a4Z rdr;simp only[z0,cF,g];rw[show L++a05 (a4T L.length) 0=a2M L from rfl,h];rfl
theorem d8o{v:Int}(h:0≤v∧v<65536):bits .u16 .or (A0n .u16 (wrap .u16 (v / 256)) 8) (wrap .u16 (v%256))=v:=by
 rw[b2t,b2t];have e:A0n .u16 (v / 256%65536) 8=((v.toNat / 256*256:Nat):Int):=by
  show wrap .u16 (v / 256%65536*256)=_;rw[b2t];omega
 rw[e];have g:v%256%65536=((v.toNat%256:Nat):Int):=by omega
 rw[g];show wrap .u16 (((a00 16 ((v.toNat / 256*256:Nat):Int) ||| a00 16 ((v.toNat%256:Nat):Int)).toNat:Nat):Int)=_;have f:(a00 16 ((v.toNat / 256*256:Nat):Int)).toNat=v.toNat / 256*256:=by rw[a27];omega
 have k:(a00 16 ((v.toNat%256:Nat):Int)).toNat=v.toNat%256:=by rw[a27];omega
 rw[a89,f,k];have e:v.toNat / 256*256 ||| v.toNat%256=v.toNat / 256*256+v.toNat%256:=by
  have:=a52 (i:=8) (b:=v.toNat%256) (by omega) (v.toNat / 256)
  rw[show 2^8*(v.toNat / 256)=v.toNat / 256*256 from by omega]at this;exact this.symm
 rw[e,b2t];omega
theorem c2f{f:a1c}(O:a4r f=some true)(u:frP f)(t:((f.2.2.2.2.1.length:Nat):Int)=f.2.2.1.2.1){zs:List PZ}(B:zs.map (·.1)=f.2.2.2.2.1)(hp:∀p∈zs,c7y f.2.1 p)(z:(a0N zs).length≤5600000)
  {R:List Int}(V:R.length≤200000000):a6k (a4U f (a0N zs)++R)=some (f,((a4U f (a0N zs)).length:Int),(0:Int)):=by
 have P:=b4I u z;have Q:=b6T (a8Z f (a0N zs));have L:f.2.2.2.2.1.length≤8:=by have:=u.1.2.2.2.1;omega
 have N:=b5O (a0N zs);generalize hbd:a8M (a0N zs)=body at *;have c:a4U f (a0N zs)=a8Z f (a0N zs)++[a4n (a8Z f (a0N zs)) / 256,a4n (a8Z f (a0N zs))%256]:=rfl;have g:a8Z f (a0N zs)=a1L f body.length++body:=by unfold a8Z;rw[hbd]
 generalize hpb:a8Z f (a0N zs)=pre at *;have o:a4U f (a0N zs)++R=a1L f body.length++(body++([a4n pre / 256,a4n pre%256]++R)):=by rw[c,g];simp
 have m:(a4U f (a0N zs)).length=pre.length+2:=by rw[c];simp
 have A:pre.length=(a1L f body.length).length+body.length:=by rw[g];simp
 have y:(a4U f (a0N zs)++R).length=pre.length+2+R.length:=by rw[lN,m]
 have k:=c7x u (body:=body.length) (by omega) (R:=body++([a4n pre / 256,a4n pre%256]++R)) (by rw[←o,y];omega);rw[←o]at k;generalize hx:a4U f (a0N zs)++R=x at *;have z0:((0:Int) != 0)=false:=rfl;have T:wrap .i64 (((a1L f body.length).length:Int)+(body.length:Int))=(pre.length:Int):=by rw[a0B (by omega)];omega
 have w2:wrap .i64 ((pre.length:Int)+2)=((pre.length+2:Nat):Int):=by rw[a0B (by omega)];omega
 have U:wrap .i64 ((pre.length:Int)+1)=((pre.length+1:Nat):Int):=by rw[a0B (by omega)];omega
 have C:decide ((x.length:Int)<((pre.length+2:Nat):Int))=false:=by simp;omega
 have D:decide ((0:Int)≤(pre.length:Int))=true:=by simp
 have E:decide ((pre.length:Int)≤(x.length:Int))=true:=by simp;omega
 have F:decide ((0:Int)≤((a1L f body.length).length:Int))=true:=by simp
 have G:decide (((a1L f body.length).length:Int)≤(pre.length:Int))=true:=by simp;omega
 have j:x=pre++([a4n pre / 256,a4n pre%256]++R):=by rw[←hx,c];simp
 have i:a35 pre.length x=pre:=by rw[j];simp
 have b:a45 (a1L f body.length).length pre=body:=by rw[g];simp
 have I:m0k x (pre.length:Int)=some (a4n pre / 256):=by rw[a0D (by omega)];congr 1;subst j;simp
 have K:m0k x ((pre.length+1:Nat):Int)=some (a4n pre%256):=by rw[a0D (by omega)];congr 1;subst j;simp
 have S:(a4n pre != bits .u16 .or (A0n .u16 (wrap .u16 (a4n pre / 256)) 8) (wrap .u16 (a4n pre%256)))=false:=by rw[d8o Q];exact bne_self_eq_false _
 have e:(a2M (a0N zs)).length<1000000000:=by omega
 have a:=d3K e;rw[show(wL (a2M (a0N zs))).1=body from hbd]at a;have v:OkR [] (a0N zs++a05 (a4T (a0N zs).length) 0):=⟨by rw[a20];exact c1b (c0Z zs),by
  rw[a20];show(a2M (a0N zs)).length<_;omega⟩
 have h:=b8L f ((0:Int),(0:Int),((0:Int),(0:Int),(0:Int),()),([]:List a0I),([]:List Sub),()) (pre.length:Int) L zs [] [] (by rw[←B];simp) hp v;simp only[a20,a21,B,c7z]at h;have w:rdr [] (a2M (a0N zs))=rdr [] (a0N zs++a05 (a4T (a0N zs).length) 0):=rfl;obtain⟨r,q,s⟩:=c8Q (c0Z zs) z;have d:a2J (rdr (a0N zs) (a05 (a4T (a0N zs).length) 0))=some ((a4T (a0N zs).length:Int),rdr (a0N zs) (a05 (a4T (a0N zs).length) 0)):=by
  unfold a2J rdr
  have:(wL (a0N zs++a05 (a4T (a0N zs).length) 0)).1=body:=hbd
  simp only[this];have hp:(a2M (a0N zs)).length=(a0N zs).length+a4T (a0N zs).length:=by simp[a2M]
  rw[a0B (n:=8*(body.length:Int)) (by omega),a0B (by omega)];congr 2;omega
 have H:decide (((a4T (a0N zs).length:Nat):Int)≥8)=false:=by unfold a4T;simp;omega
 have M:a8N f []=c7w f:=rfl;have l:f.2.2.1.2.1=((f.2.2.2.2.1.length:Nat):Int):=t.symm;unfold a6k;rw[k];simp only[oB,z0,cF,T,w2,C,D,E,F,a02,cT,tN,i,b8I (show short pre by unfold short;omega),I,U,K,S,G,b,a,w];rw[show(c7w f).2.2.1.2.1=((f.2.2.2.2.1.length:Nat):Int)from l]
 erw[h]
 simp only[oB,d,H,cF,q,a0O,s,z0,O,bT,w2,m]
theorem b2R(x:Int):a9d x=some (a0A x):=by
 grind[a9d,a0A]
def a2O(c:List (List Int)):Prop:=1≤c.length∧c.length≤8∧(c.headD []).length≤4096∧c.all (fun r=>decide (r.length=(c.headD []).length)&&r.all a0A)=true
instance (c:List (List Int)):Decidable (a2O c):=by unfold a2O;infer_instance
theorem b3p{α:Type}{l:List α}{d:α}(h:0<l.length):l[0]=l.headD d:=by
 cases l with
 |nil=>grind
 |cons a l=>rfl
theorem b9U(c:List (List Int)):a7t c=some (decide (a2O c)):=by
 unfold a7t
 by_cases h1:((c.length:Nat):Int)<1
 have:¬ a2O c:=fun h=>by have:=h.1;omega
 simp_all
 by_cases h2:((c.length:Nat):Int) > 8
 have:¬ a2O c:=fun h=>by have:=h.2.1;omega
 simp_all;have b:0<c.length:=by omega
 have a:m0k c 0=some (c.headD []):=by rw[show(0:Int)=((0:Nat):Int)from rfl,a0D b,b3p (d:=[]) b]
 have l:decide (((c.length:Nat):Int)<1)=false:=by simp_all
 have m:decide (((c.length:Nat):Int) > 8)=false:=by simp_all
 simp only[l,m,cF,a,oB]
 by_cases h3:(((c.headD []).length:Nat):Int) > 4096
 rw[decide_eq_true h3,decide_eq_false (show ¬ a2O c from fun h=>by have:=h.2.2.1;omega)];rfl;have n:decide ((((c.headD []).length:Nat):Int) > 4096)=false:=by simp_all
 simp only[n,cF];have g:∀(i:Nat)(r:List Int),short r→y0s a4z (c,c,(c.length:Int),(i:Int),r,(r.length:Int),(0:Int),())=some (bif r.all a0A then Sum.inl (c,c,(c.length:Int),(i:Int),())else Sum.inr (false,())):=fun i r s=>by
  have:=a2q (f:=a4z) r (fun j=>(c,c,(c.length:Int),(i:Int),r,(r.length:Int),(j:Int),())) a0A (bt:=Sum.inl (c,c,(c.length:Int),(i:Int),())) (bf:=Sum.inr (false,()))
   (fun j h hp=>by simp only[a4z,dlt h,cT,a0D h,oB,b2R,hp,bT,cF,a0C (a07 h s)])
   (fun j h hp=>by simp_all[a4z,a0D,b2R])
   (by simp_all[a4z])
  omega
 have k:=a2q (f:=a4A) c (fun i=>(c,c,(c.length:Int),(i:Int),())) (fun r=>decide (r.length=(c.headD []).length)&&r.all a0A) (bt:=Sum.inl ()) (bf:=Sum.inr (false,()))
  (fun i h hp=>by
   simp only[bA,dT]at hp;have e:((((c[i]).length:Nat):Int) != (((c.headD []).length:Nat):Int))=false:=by simp_all
   have hi:=g i c[i] (by unfold short;omega);rw[hp.2,cT]at hi;simp only[a4A,dlt h,cT,a0D h,oB,a,e,cF,hi,a0C (show i<1000000 by omega)])
  (fun i h hp=>by
   by_cases hl:(c[i]).length=(c.headD []).length
   have e:((((c[i]).length:Nat):Int) != (((c.headD []).length:Nat):Int))=false:=by simp_all
   have hi:=g i c[i] (by unfold short;omega);rw[decide_eq_true hl,a58]at hp;rw[hp,cF]at hi;simp_all[a4A,a0D];have e:((((c[i]).length:Nat):Int) != (((c.headD []).length:Nat):Int))=true:=by grind
   simp only[a4A,dlt h,cT,a0D h,oB,a,e])
  (by simp_all[a4A])
 simp only[nZ]at k;rw[k];have o:1≤c.length:=by omega
 have p:c.length≤8:=by omega
 have q:(c.headD []).length≤4096:=by omega
 by_cases hA:c.all (fun r=>decide (r.length=(c.headD []).length)&&r.all a0A)=true
 rw[hA,decide_eq_true (show a2O c from⟨o,p,q,hA⟩)];rfl;rw[a81.2 hA,decide_eq_false (show ¬ a2O c from fun h=>hA h.2.2.2)];rfl
def a3y(c:List (List Int))(n:Nat):Prop:=∀r∈c,r.length=n∧r.all a0A=true
theorem c5O{c:List (List Int)}(h:a2O c):a3y c (c.headD []).length:=fun r g=>by
 have:=lA.1 h.2.2.2 r g
 simp_all
theorem b7B{c:List (List Int)}{n:Nat}(h:a3y c n)(g:1≤c.length)(f:c.length≤8)(b:n≤4096):a2O c:=by
 have a:(c.headD []).length=n:=by
  rw[←b3p (d:=[]) (show 0<c.length by omega)];exact(h _ (a25 _)).1
 refine⟨g,f,by omega,lA.2 fun r k=>?_⟩
 have:=h r k
 simp_all
theorem c1c{c:List (List Int)}{n:Nat}(h:a3y c n)(l:n≤5000)(j:c.length≤100):a7c c=some c:=by
 have:=a1M (f:=a6F) (β:=List (List Int)×Unit) c (fun i (a:List (List Int))=>(c,(c.length:Int),(i:Int),a,())) (fun a x=>.inl (a++[x])) (fun i a=>a.length=i) (fun a=>(a,()))
  (fun i hi a k=>⟨fun e g=>by
   simp at g;subst g;have m:=(h _ (a25 hi)).1;have d:∀y:List Int,List.set ([([]:List Int)]:List (List Int)) 0 y=[y]:=fun _=>rfl;refine⟨?_,by grind⟩;simp only[a6F,dlt hi,cT,a0D hi,oB,a8f (show short c[i]by unfold short;omega),d];rw[a0T (by grind),cT,a0C (show i<1000000 by omega)];rfl,fun b hb=>by grind⟩)
  (fun a k=>by simp_all[a6F]) (a:=[]) rfl
 simp_all[b1f,a7c,a8c]
def a8O(sign g:Int)(x y:Int):Int:=y+sign*(g*x / 256)
def a9B(sign g:Int)(xs ys:List Int):List Int:=List.zipWith (a8O sign g) xs ys
theorem d0H(sign g:Int){xs ys:List Int}(h:xs.length=ys.length):(a9B sign g xs ys).length=ys.length:=by simp[a9B,h]
theorem d0I{sign g x y:Int}(b:sign=1∨sign=-1)(c:-1024≤g∧g≤1024)(k:a0A x=true)(a:a0A y=true):
  wrap .i64 (y+wrap .i64 (sign*A0o .i64 (wrap .i64 (g*x)) 8))=a8O sign g x y:=by
 have k:=a1N.1 k;have a:=a1N.1 a;have f:-1099511627776≤g*x∧g*x≤1099511627776:=by
  have f:g.natAbs≤1024:=by omega
  have h:x.natAbs≤1073741824:=by omega
  have:=a06 f h
  rw[←Int.natAbs_mul]at this;omega
 rw[a0B (n:=g*x) (by omega)];have h:A0o .i64 (g*x) 8=g*x / 256:=by
  unfold A0o;show(g*x).fdiv (2^8)=_
  grind
 rw[h];unfold a8O;rcases b with rfl|rfl
 all_goals grind[a0B]
theorem b1E{α:Type}(c:List α){a b:Nat}(h:a≠b)(y d:α):(c.set b y).getD a d=c.getD a d:=by
 grind
theorem a7z{α:Type}(c:List α){b:Nat}(h:b<c.length)(y d:α):(c.set b y).getD b d=y:=by
 simp_all
theorem b8M{c:List (List Int)}{s:a0I}{sign:Int}(g:sign=1∨sign=-1)(b:-1024≤s.2.2.1∧s.2.2.1≤1024)(a0:0≤s.1)(i:0≤s.2.1)(f:s.1.toNat≠s.2.1.toNat)(hb:s.2.1.toNat<c.length)(k:s.2.1<(c.length:Int))
  {xs:List Int}(a:c.getD s.1.toNat []=xs)(w:xs.length≤5000):∀(sx suf px pre:List Int),px++sx=xs→px.length=pre.length→sx.length=suf.length→sx.all a0A=true→suf.all a0A=true→
  if(a9B sign s.2.2.1 sx suf).all a0A=true then
   y0s a3J (sign,(xs.length:Int),(pre.length:Int),c.set s.2.1.toNat (pre++suf),s,((s.1.toNat:Nat):Int),())=some (.inl (c.set s.2.1.toNat (pre++a9B sign s.2.2.1 sx suf),()))
  else ∃c',y0s a3J (sign,(xs.length:Int),(pre.length:Int),c.set s.2.1.toNat (pre++suf),s,((s.1.toNat:Nat):Int),())=some (.inr (false,c',()))
 | [],suf,px,pre,hx,hp,hl,_,_=>by
  have e:suf=[]:=List.length_eq_zero_iff.1 hl.symm;subst e;have p:pre.length=xs.length:=by simp_all
  rw[if_pos (by rfl),p];exact a0F (by simp only[a3J,dge,cF];rfl)
 |x::sx,[],px,pre,_,_,hl,_,_=>by simp_all
 |x::sx,y::suf,px,pre,hx,hp,hl,hwx,hwy=>by
  simp only[a36,bA]at hwx hwy;have v:pre.length<xs.length:=by grind
  have q:(c.set s.2.1.toNat (pre++y::suf)).getD (a30 ((s.1.toNat:Nat):Int)) []=xs:=by grind
  have r:(c.set s.2.1.toNat (pre++y::suf)).getD s.2.1.toNat []=pre++y::suf:=a7z _ hb _ _;have t:a97 xs (a30 (pre.length:Int)) 0=x:=by grind
  have u:a97 (pre++y::suf) (a30 (pre.length:Int)) 0=y:=by simp
  have j:decide ((0:Int)≤(pre.length:Int))=true:=by simp
  have l:decide ((pre.length:Int)<(xs.length:Int))=true:=by simp_all
  have m:decide ((0:Int)≤s.2.1)=true:=by simp_all
  have n:decide (s.2.1<(((c.set s.2.1.toNat (pre++y::suf)).length:Nat):Int))=true:=by simp_all
  have o:decide ((pre.length:Int)<(((pre++y::suf).length:Nat):Int))=true:=by grind
  have hv:=d0I g b hwx.1 hwy.1;have z:wrap .i64 ((pre.length:Int)+1)=((pre.length+1:Nat):Int):=a0C (by omega);have A:a9B sign s.2.2.1 (x::sx) (y::suf)=a8O sign s.2.2.1 x y::a9B sign s.2.2.1 sx suf:=rfl;have d:List.set (c.set s.2.1.toNat (pre++y::suf)) s.2.1.toNat (List.set (pre++y::suf) (a30 (pre.length:Int)) (a8O sign s.2.2.1 x y))=c.set s.2.1.toNat ((pre++[a8O sign s.2.2.1 x y])++suf):=by
   simp
  have h:a3J (sign,(xs.length:Int),(pre.length:Int),c.set s.2.1.toNat (pre++y::suf),s,((s.1.toNat:Nat):Int),()) =
    bif !(a0A (a8O sign s.2.2.1 x y))then some (.inr (Sum.inr (false,c.set s.2.1.toNat (pre++y::suf),())))
    else some (.inl (sign,(xs.length:Int),((pre.length+1:Nat):Int),c.set s.2.1.toNat ((pre++[a8O sign s.2.2.1 x y])++suf),s,((s.1.toNat:Nat):Int),())):=by
   simp only[a3J,l,cT,q,r,j,a02,m,n,o,t,u,b2R,hv,oB,z]
   simp
  cases hwv:a0A (a8O sign s.2.2.1 x y)with
  |false=>
   simp_all[a0F]
  |true=>
   rw[hwv]at h;have B:=b8M g b a0 i f hb k a w sx suf (px++[x]) (pre++[a8O sign s.2.2.1 x y]) (by simp_all) (by grind) (by simp_all) hwx.2 hwy.2;rw[a0E h,A];simp_all
def a3Q(sign:Int)(s:a0I)(c:List (List Int)):Option (List (List Int)):=
 let r:=a9B sign s.2.2.1 (c.getD s.1.toNat []) (c.getD s.2.1.toNat [])
 if r.all a0A=true then some (c.set s.2.1.toNat r)else none
theorem a8l{c:List (List Int)}{n:Nat}(h:a3y c n){i:Nat}(hi:i<c.length):(c.getD i []).length=n∧(c.getD i []).all a0A=true:=by
 rw[lD,lG hi];exact h _ (a25 hi)
theorem c3P{c:List (List Int)}{n:Nat}(a:a3y c n)(w:n≤5000){s:a0I}(p:a2G (c.length:Int) s=true){sign:Int}(k:sign=1∨sign=-1):
  ∃b f,a7V (c,s,sign)=some (b,f)∧match a3Q sign s c with|some r=>b=true∧f=r|none=>b=false:=by
 obtain⟨a1,u,d,e,v,j,l⟩:=a3d.1 p;have q:=a8l a (i:=s.1.toNat) (by omega);have t:=a8l a (i:=s.2.1.toNat) (by omega);have hb:s.2.1.toNat<c.length:=by omega
 have g:c.set s.2.1.toNat (c.getD s.2.1.toNat [])=c:=by
  simp_all
 have:=b8M k ⟨j,l⟩ a1 d (by omega) hb e (rfl:c.getD s.1.toNat []=_) (by omega) (c.getD s.1.toNat []) (c.getD s.2.1.toNat []) [] [] rfl rfl (by omega) q.2 t.2
 rw[a20,g]at this;simp only[a21,nZ,a20,Int.cast_ofNat_Int]at this;have m:decide ((0:Int)≤s.1)=true:=by simp_all
 have o:decide (s.1<(c.length:Int))=true:=by simp_all
 unfold a7V a3Q;simp only[m,o,a02,cT]
 by_cases hA:(a9B sign s.2.2.1 (c.getD s.1.toNat []) (c.getD s.2.1.toNat [])).all a0A=true
 simp_all;rw[if_neg hA]at this⊢;obtain⟨f,h⟩:=this;simp_all
theorem b2l{c c':List (List Int)}{n:Nat}(g:a3y c n){s:a0I}(k:a2G (c.length:Int) s=true){sign:Int}(h:a3Q sign s c=some c'):a3y c' n∧c'.length=c.length:=by
 obtain⟨a1,a,b,d,e,j,l⟩:=a3d.1 k;have o:=a8l g (i:=s.1.toNat) (by omega);have p:=a8l g (i:=s.2.1.toNat) (by omega);unfold a3Q at h;simp only at h
 split at h
 rename_i m;cases h;refine⟨fun r f=>?_,by simp⟩;rcases List.mem_or_eq_of_mem_set f with f|rfl;exact g r f;simp_all[d0H];simp_all
theorem c3Q(g:Int):∀xs ys:List Int,xs.length=ys.length→a9B (-1) g xs (a9B 1 g xs ys)=ys
 | [],[],_=>rfl
 |x::xs,y::ys,h=>by
  have f:=c3Q g xs ys (by simpa using h);show a8O (-1) g x (a8O 1 g x y)::a9B (-1) g xs (a9B 1 g xs ys)=_;rw[f];unfold a8O;congr 1;omega
 | [],_::_,h=>by grind
 |_::_,[],h=>by rfl
theorem c8R{c c':List (List Int)}{n:Nat}(g:a3y c n){s:a0I}(f:a2G (c.length:Int) s=true)(h:a3Q 1 s c=some c'):a3Q (-1) s c'=some c:=by
 obtain⟨a1,a,b,d,e,j,l⟩:=a3d.1 f;have m:=a8l g (i:=s.1.toNat) (by omega);have k:=a8l g (i:=s.2.1.toNat) (by omega);have hb:s.2.1.toNat<c.length:=by omega
 unfold a3Q at h;simp only at h
 split at h
 cases h;unfold a3Q;simp only;rw[b1E _ (show s.1.toNat≠s.2.1.toNat by omega),a7z _ hb,c3Q _ _ _ (by omega),if_pos k.2,List.set_set];simp_all;simp_all
def doO:List a0I→List (List Int)→Option (List (List Int))
 | [],c=>some c
 |s::l,c=>(a3Q 1 s c).bind (doO l)
def b0M:List a0I→List (List Int)→Option (List (List Int))
 | [],c=>some c
 |s::l,c=>(b0M l c).bind (a3Q (-1) s)
theorem b2u{n:Nat}{N:Nat}:∀(l:List a0I){c c':List (List Int)},a3y c n→c.length=N→l.all (a2G (N:Int))=true→doO l c=some c'→a3y c' n∧c'.length=N
 | [],c,c',hc,hl,_,h=>by cases h;simp_all
 |s::l,c,c',hc,hl,hs,h=>by
  simp only[a36,bA]at hs;simp[doO,a19]at h;obtain⟨d,g,f⟩:=h;obtain⟨k,a⟩:=b2l hc (by simp_all) g;exact b2u l k (by omega) hs.2 f
theorem c5P{n:Nat}{N:Nat}:∀(l:List a0I){c c':List (List Int)},a3y c n→c.length=N→l.all (a2G (N:Int))=true→doO l c=some c'→b0M l c'=some c
 | [],c,c',_,_,_,h=>by cases h;rfl
 |s::l,c,c',hc,hl,hs,h=>by
  simp only[a36,bA]at hs;simp only[doO,a19]at h;obtain⟨d,g,f⟩:=h;obtain⟨k,a⟩:=b2l hc (by rw[hl];exact hs.1) g;simp only[b0M];rw[c5P l k (by omega) hs.2 f];exact c8R hc (by rw[hl];exact hs.1) g
def b7C:Option (List (List Int))→List (List Int)×Int
 |some r=>(r,0)
 |none=>([],6)
theorem c5Q{n N:Nat}(a:n≤5000){l:List a0I}(m:l.length≤16)(j:l.all (a2G (N:Int))=true):∀(k i:Nat)(c:List (List Int)),i+k=l.length→a3y c n→c.length=N→
  y0s a7Z (l,(l.length:Int),(i:Int),c,())=some (match doO (l.drop i) c with|some r=>Sum.inl (r,())|none=>Sum.inr ([],6,()))
 |0,i,c,h,_,_=>by
  obtain rfl:i=l.length:=by omega
  rw[List.drop_length];exact a0F (by simp only[a7Z,dge,cF];rfl)
 |k+1,i,c,h,hc,hcl=>by
  have hi:i<l.length:=by omega
  rw[List.drop_eq_getElem_cons hi];have d:a2G (c.length:Int) l[i]=true:=by grind
  obtain⟨b,g,e,f⟩:=c3P hc a d (sign:=1) (.inl rfl);simp[doO];cases hst:a3Q 1 l[i] c with
  |none=>
   simp_all[a0F,a7Z,a0D]
  |some r=>
   rw[hst]at f;obtain⟨rfl,rfl⟩:=f;obtain⟨o,p⟩:=b2l hc d hst;rw[a0E (s':=(l,(l.length:Int),((i+1:Nat):Int),g,())) (by
    simp only[a7Z,dlt hi,cT,a0D hi,oB,e,bT,cF,a0C (show i<1000000 by omega)])]
   rw[c5Q a m j k (i+1) g (by omega) o (by omega)];rfl
theorem c2k(c:List (List Int))(l:List a0I):b1I (c,l)=some (if a2O c∧a5g l (c.length:Int)then b7C (doO l c)else([],1)):=by
 unfold b1I;simp only[b9U,oB]
 by_cases hq:a2O c
 have h:=c5O hq;simp only[hq,decide_true,bT,cF,b3G,oB,true_and]
 by_cases hm:a5g l (c.length:Int)
 simp[hm];rw[c1c h (by have:=hq.2.2.1;omega) (by have:=hq.2.1;omega)]
 have:=c5Q (N:=c.length) (by have:=hq.2.2.1;omega:(c.headD []).length≤5000) hm.2.2.1 hm.2.2.2 l.length 0 c (by omega) h rfl
 simp at this
 simp
 erw[this]
 cases doO l c<;>rfl;simp_all;simp_all
theorem b8N(s:a0I):∀(l:List a0I)(c:List (List Int)),b0M (l++[s]) c=(a3Q (-1) s c).bind (b0M l)
 | [],c=>by
  show a3Q (-1) s c=_;cases a3Q (-1) s c<;>rfl
 |t::l,c=>by
  simp only[a60,b0M,b8N s l];cases a3Q (-1) s c<;>rfl
theorem c1d{n N:Nat}(g:n≤5000){l:List a0I}(i:l.all (a2G (N:Int))=true)(z:List (List Int))(e:Int):∀(k:Nat)(c:List (List Int)),k≤l.length→a3y c n→c.length=N→
  match b0M (l.take k) c with
  |some r=>l0f a6i l k (l,z,e,c,())=some (.inl (l,z,e,r,()))
  |none=>∃d,l0f a6i l k (l,z,e,c,())=some (.inr (.ret,l,[],6,d,()))
 |0,c,_,_,_=>rfl
 |k+1,c,hk,hc,hcl=>by
  have hi:k<l.length:=by omega
  have f:a2G (c.length:Int) l[k]=true:=by grind
  obtain⟨b,a,m,h⟩:=c3P hc g f (sign:=-1) (.inr rfl);rw[List.take_succ_eq_append_getElem hi,b8N];cases hst:a3Q (-1) l[k] c with
  |none=>
   simp_all[l0f,a6i]
  |some r=>
   rw[hst]at h;obtain⟨rfl,rfl⟩:=h;obtain⟨j,p⟩:=b2l hc f hst;have o:=c1d g i z e k a (by omega) j (by omega);simp_all[l0f,a6i]
theorem d2m(c:List (List Int))(l:List a0I):b1k (c,l)=some (if a2O c∧a5g l (c.length:Int)then b7C (b0M l c)else([],1)):=by
 unfold b1k;simp only[b9U,oB]
 by_cases hq:a2O c
 ·have h:=c5O hq;simp only[hq,decide_true,bT,cF,b3G,oB,true_and]
  by_cases hm:a5g l (c.length:Int)
  ·simp[hm];rw[c1c h (by have:=hq.2.2.1;omega) (by have:=hq.2.1;omega)]
   have:=c1d (N:=c.length) (by have:=hq.2.2.1;omega:(c.headD []).length≤5000) hm.2.2.2 [] 0 l.length c (a29 _) h rfl
   rw[a61]at this;simp[a0T (show l.length<2147483648 by have:=hm.2.2.1;omega)];cases hu:b0M l c with
   |some r=>
    rw[hu]at this;simp only at this
    erw[this]
    rfl
   |none=>
    rw[hu]at this;obtain⟨d,g⟩:=this
    erw[g]
    rfl
  simp_all
 simp_all
def a0K(b:a1a):Nat:=(b.2.1.headD []).length
theorem a4V(b:a1a):a3p b=some ((a0K b:Nat):Int):=by
 unfold a3p a0K;obtain⟨d,c,u⟩:=b;cases c with
 |nil=>rfl
 |cons r c=>
  rfl
def a1U(b:a1a):Prop:=4≤b.1∧b.1≤24∧1≤b.2.1.length∧b.2.1.length≤8∧1≤a0K b∧a0K b≤4096∧b.2.1.all (fun r=>decide (r.length=a0K b)&&r.all fun x=>a1h x b.1)=true
instance (b:a1a):Decidable (a1U b):=by unfold a1U;infer_instance
theorem b2S{x w:Int}(h:4≤w∧w≤24):a2a (x,w)=some (a1h x w):=by
 have:=a6v (x:=x) (w:=w.toNat) (by omega)
 grind
theorem a6y(b:a1a):a3q b=some (decide (a1U b)):=by
 unfold a3q a6V
 by_cases h1:4≤b.1
 rotate_left;rw[decide_eq_false (show ¬ a1U b from fun h=>h1 h.1),decide_eq_false h1];rfl
 by_cases h2:b.1≤24
 rotate_left;rw[decide_eq_false (show ¬ a1U b from fun h=>h2 h.2.1),decide_eq_true h1,decide_eq_false h2];rfl
 by_cases h3:((b.2.1.length:Nat):Int)<1
 rw[decide_eq_false (show ¬ a1U b from fun h=>by have:=h.2.2.1;omega),decide_eq_true h1,decide_eq_true h2,decide_eq_true h3];rfl
 by_cases h4:((b.2.1.length:Nat):Int) > 8
 rw[decide_eq_false (show ¬ a1U b from fun h=>by have:=h.2.2.2.1;omega),decide_eq_true h1,decide_eq_true h2,decide_eq_false h3,decide_eq_true h4];rfl;have a:decide (((b.2.1.length:Nat):Int)<1)=false:=by simp_all
 have c:decide (((b.2.1.length:Nat):Int) > 8)=false:=by simp_all
 simp only[decide_eq_true h1,decide_eq_true h2,a,c,cT,cF,oB,bT,a4V]
 by_cases h5:((a0K b:Nat):Int)<1
 rw[decide_eq_false (show ¬ a1U b from fun h=>by have:=h.2.2.2.2.1;omega),decide_eq_true h5];rfl
 by_cases h6:((a0K b:Nat):Int) > 4096
 rw[decide_eq_false (show ¬ a1U b from fun h=>by have:=h.2.2.2.2.2.1;omega),decide_eq_false h5,decide_eq_true h6];rfl;have d:decide (((a0K b:Nat):Int)<1)=false:=by simp_all
 have l:decide (((a0K b:Nat):Int) > 4096)=false:=by simp_all
 simp[d,l];have g:∀(i:Nat)(r:List Int),short r→y0s a4u (b.2.1,(b.2.1.length:Int),(i:Int),r,(r.length:Int),(0:Int),b,())=some (bif r.all (fun x=>a1h x b.1)then Sum.inl (b.2.1,(b.2.1.length:Int),(i:Int),b,())else Sum.inr (false,())):=fun i r m=>by
  have:=a2q (f:=a4u) r (fun j=>(b.2.1,(b.2.1.length:Int),(i:Int),r,(r.length:Int),(j:Int),b,())) (fun x=>a1h x b.1) (bt:=Sum.inl (b.2.1,(b.2.1.length:Int),(i:Int),b,())) (bf:=Sum.inr (false,()))
   (fun j h hp=>by simp only[a4u,dlt h,cT,a0D h,oB,b2S ⟨h1,h2⟩,hp,bT,cF,a0C (a07 h m)])
   (fun j h hp=>by simp_all[a4u,a0D,b2S])
   (by simp_all[a4u])
  omega
 have k:=a2q (f:=a4v) b.2.1 (fun i=>(b.2.1,(b.2.1.length:Int),(i:Int),b,())) (fun r=>decide (r.length=a0K b)&&r.all fun x=>a1h x b.1) (bt:=Sum.inl ()) (bf:=Sum.inr (false,()))
  (fun i h hp=>by
   simp only[bA,dT]at hp;have e:((((b.2.1[i]).length:Nat):Int) != ((a0K b:Nat):Int))=false:=by simp_all
   have hi:=g i b.2.1[i] (by unfold short;omega);rw[hp.2,cT]at hi;simp only[a4v,dlt h,cT,a0D h,oB,a4V,e,cF,hi,a0C (show i<1000000 by omega)])
  (fun i h hp=>by
   by_cases hl:(b.2.1[i]).length=a0K b
   have e:((((b.2.1[i]).length:Nat):Int) != ((a0K b:Nat):Int))=false:=by simp_all
   have hi:=g i b.2.1[i] (by unfold short;omega);rw[decide_eq_true hl,a58]at hp;rw[hp,cF]at hi;simp_all[a4v,a0D,a4V];have e:((((b.2.1[i]).length:Nat):Int) != ((a0K b:Nat):Int))=true:=by grind
   simp only[a4v,dlt h,cT,a0D h,oB,a4V,e])
  (by simp_all[a4v])
 simp at k;rw[k]
 by_cases hA:b.2.1.all (fun r=>decide (r.length=a0K b)&&r.all fun x=>a1h x b.1)=true
 rw[hA,decide_eq_true (show a1U b from⟨h1,h2,by omega,by omega,by omega,by omega,hA⟩)];rfl;rw[a81.2 hA,decide_eq_false (show ¬ a1U b from fun h=>hA h.2.2.2.2.2.2)];rfl
def a7E{α β:Type}(g:α→Option β):List α→Option (List β)
 | []=>some []
 |a::l=>(g a).bind fun b=>(a7E g l).bind fun r=>some (b::r)
theorem b7D{α β:Type}{g:α→Option β}:∀{l:List α}{r:List β},a7E g l=some r→r.length=l.length
 | [],r,h=>by cases h;rfl
 |a::l,r,h=>by
  simp only[a7E,a19]at h;obtain⟨b,-,c,f,k⟩:=h;cases k;simp[b7D f]
theorem c1e{α β:Type}{g:α→Option β}:∀{l:List α}{r:List β},a7E g l=some r→∀a∈l,(g a).isSome=true
 | [],r,h,a,ha=>by cases ha
 |a::l,r,h,x,hx=>by
  simp only[a7E,a19]at h;obtain⟨b,f,d,k,c⟩:=h;rcases mC.1 hx with rfl|hx;rw[f];rfl;exact c1e k x hx
def a9l(f:a1c):Option a1a:=
 if frP f∧((f.2.2.2.2.1.length:Nat):Int)=f.2.2.1.2.1 then
  (a7E (fun s=>a2r s f.2.1) f.2.2.2.2.1).bind fun rs=>
   if a2O rs∧a5g f.2.2.2.1 (rs.length:Int)then
    (b0M f.2.2.2.1 rs).bind fun ch=>if a1U (f.2.2.1.2.2.1,ch,())then some (f.2.2.1.2.2.1,ch,())else none
   else none
 else none
def b1N:a1a:=(0,[],())
def d8p:Option a1a→a1a×Int
 |some b=>(b,0)
 |none=>(b1N,1)
theorem b6V(f:a1c)(all:List Sub)(d:all.length≤8):∀(rest done:List Sub)(rows:List (List Int)),done++rest=all→rows.length=done.length→(∀s∈rest,SmallS s)→
  y0s a4J (all,(all.length:Int),(done.length:Int),rows,b1N,f,())=some (match a7E (fun s=>a2r s f.2.1) rest with|some rs=>Sum.inl (rows++rs,b1N,f,())|none=>Sum.inr (1,b1N,()))
 | [],done,rows,hd,hr,_=>by
  have e:done=all:=by simpa using hd
  subst e;rw[a0F (b:=Sum.inl (rows,b1N,f,())) (by simp only[a4J,dge,cF])];simp[a7E]
 |s::rest,done,rows,hd,hr,h=>by
  have i:=h s (by simp);have k:done.length<all.length:=by rw[←hd];simp
  have a:m0k all (done.length:Int)=some s:=by rw[a0D k];subst hd;simp
  have g:=b8g i f.2.1;simp only[a7E];cases ho:a2r s f.2.1 with
  |none=>
   rw[ho]at g;have b1:((1:Int) != 0)=true:=rfl;exact a0F (by simp only[a4J,dlt k,cT,a,oB,g,b1];rfl)
  |some r=>
   rw[ho]at g;have c:((0:Int) != 0)=false:=rfl;rw[a0E (s':=(all,(all.length:Int),(((done++[s]).length:Nat):Int),rows++[r],b1N,f,())) (by
    simp only[a4J,dlt k,cT,a,oB,g,c,cF,a0T (show rows.length+1<2147483648 by omega),a0C (show done.length<1000000 by omega)]
    simp)]
   rw[b6V f all d rest (done++[s]) (rows++[r]) (by simpa using hd) (by simp[hr]) (fun t j=>h t (by simp[j]))];simp only[oB];cases a7E (fun s=>a2r s f.2.1) rest<;>simp
theorem b7E{f:a1c}(b:∀s∈f.2.2.2.2.1,SmallS s):a2b f=some (d8p (a9l f)):=by
 unfold a2b a9l;simp only[b3Z,oB]
 by_cases hf:frP f
 rotate_left;simp only[hf,decide_false,a42,cT,oB,false_and,if_false];rfl
 by_cases hl:((f.2.2.2.2.1.length:Nat):Int)=f.2.2.1.2.1
 rotate_left;have e:(((f.2.2.2.2.1.length:Nat):Int) != f.2.2.1.2.1)=true:=by simpa using hl
 simp only[hf,decide_true,bT,cF,oB,e,cT,hl,and_false,if_false];rfl;have e:(((f.2.2.2.2.1.length:Nat):Int) != f.2.2.1.2.1)=false:=by simpa using hl
 have a:f.2.2.2.2.1.length≤8:=by have:=hf.1.2.2.2.1;omega
 have k:decide ((0:Int)≤((f.2.2.2.2.1.length:Nat):Int))=true:=by simp
 have h:=b6V f f.2.2.2.2.1 a f.2.2.2.2.1 [] [] rfl rfl b;rw[a21]at h;rw[if_pos ⟨hf,hl⟩];simp only[hf,decide_true,bT,cF,oB,e,k,tN,a0T (show f.2.2.2.2.1.length<2147483648 by omega),a02,cT]
 erw[h]
 cases hm:a7E (fun s=>a2r s f.2.1) f.2.2.2.2.1 with
 |none=>rfl
 |some rs=>
  simp only[oB,a20,d2m]
  by_cases hq:a2O rs∧a5g f.2.2.2.1 (rs.length:Int)
  ·simp only[if_pos hq];cases hu:b0M f.2.2.2.1 rs with
   |none=>rfl
   |some ch=>
    have g:((0:Int) != 0)=false:=rfl;simp only[b7C,g,cF,a6y,oB]
    by_cases hb:a1U (f.2.2.1.2.2.1,ch,())
    simp only[hb,decide_true,bT,cF,if_true];rfl;simp only[hb,decide_false,a42,cT,if_false];rfl
  simp only[if_neg hq];rfl
theorem d3N{f:a1c}(h:∀s∈f.2.2.2.2.1,SmallS s):a4r f=some (a9l f).isSome:=by
 unfold a4r;rw[b7E h];cases a9l f<;>rfl
theorem b2T{f:a1c}{b:a1a}(h:a9l f=some b):frP f∧((f.2.2.2.2.1.length:Nat):Int)=f.2.2.1.2.1∧∀s∈f.2.2.2.2.1,(a2r s f.2.1).isSome=true:=by
 unfold a9l at h
 split at h
 rename_i g;simp only[a19]at h;obtain⟨a,k,-⟩:=h;exact⟨g.1,g.2,c1e k⟩;cases h
theorem b8O{f:a1c}{b:a1a}(k:∀s∈f.2.2.2.2.1,SmallS s)(h:a9l f=some b):∃L,L.length≤5600000∧some ((L.length:Nat):Int)=f.2.2.2.2.1.foldr (fun s a=>a.bind fun a=>(a4j (s,f.2.1)).bind fun c=>some (c+a)) (some 0)∧
  a2z f=some (a4U f L,0)∧(∀R:List Int,R.length≤200000000→a6k (a4U f L++R)=some (f,((a4U f L).length:Int),(0:Int))):=by
 obtain⟨g,j,l⟩:=b2T h;have d:a4r f=some true:=by rw[d3N k,h];rfl
 have m:f.2.2.2.2.1.length≤8:=by have:=g.1.2.2.2.1;omega
 obtain⟨t,o,p,i,q,r⟩:=c3O d g m (fun s e=>⟨k s e,l s e⟩);exact⟨a0N t,i,q,r,fun R n=>c2f d g j o p i n⟩
theorem b4J(x:a0I):eqT (.pair (.int .i64) (.pair (.int .i64) (.pair (.int .i64) .unit))) x x=true:=by
 show((x.1==x.1)&&((x.2.1==x.2.1)&&((x.2.2.1==x.2.2.1)&&true)))=true
 simp
theorem b5P{x w:Int}(h:4≤w∧w≤24):b1J (x,w)=some (a1h x w):=by
 have:=c5i (x:=x) (w:=w.toNat) (by omega)
 grind
theorem d2n{x w:Int}(b:4≤w∧w≤24)(h:a1h x w=true):-16777216≤x∧x≤16777216:=by
 unfold a1h at h;simp at h;obtain⟨-,-,f,g⟩:=h;obtain⟨o,k⟩:∃o:Nat,w-1=(o:Int):=⟨(w-1).toNat,by omega⟩;rw[k]at f g;rw[c3p (by omega)]at g;have hp:2^o≤2^24:=a49 (by omega) (by omega);have a:A0n .i64 (-1) (o:Int)=wrap .i64 (-((2^o:Nat):Int)):=by
  unfold A0n;show wrap .i64 (-1*2^(min (o:Int).toNat 64))=_
  grind
 grind[a0B]
theorem c8S{x w:Int}(g:4≤w∧w≤24)(h:a1h x w=true):a0A x=true:=a1N.2 (by have:=d2n g h;omega)
theorem b2U{b:a1a}(h:a1U b):a3y b.2.1 (a0K b)∧a2O b.2.1:=by
 obtain⟨k,a,c,d,e,i,g⟩:=h;have j:a3y b.2.1 (a0K b):=fun r f=>by
  have:=lA.1 g r f
  simp only[bA,dT]at this
  grind[c8S]
 grind[b7B]
theorem c7A{b:a1a}(hb:a1U b){l:List a0I}(c:a5g l (b.2.1.length:Int)){rows:List (List Int)}(n:doO l b.2.1=some rows){ss:List Sub}(q:a7E (fun s=>a2r s ((a0K b:Nat):Int)) ss=some rows)
  {start rate:Int}(h:0≤start∧start≤4194304-((a0K b:Nat):Int))(p:1≤rate∧rate≤1048576):
  a9l (start,((a0K b:Nat):Int),(rate,((b.2.1.length:Nat):Int),b.1,()),l,ss,())=some b:=by
 obtain⟨m,y⟩:=b2U hb;obtain⟨x,z⟩:=b2u l m rfl c.2.2.2 n;have o:=b7D q;obtain⟨e,i,r,t,u,j,v⟩:=hb;have a:frP (start,((a0K b:Nat):Int),(rate,((b.2.1.length:Nat):Int),b.1,()),l,ss,()):=⟨⟨p.1,p.2,by grind,by grind,e,i⟩,by grind,by grind,h.1,h.2,c⟩;have k:((ss.length:Nat):Int)=((b.2.1.length:Nat):Int):=by omega
 have g:a2O rows:=b7B x (by omega) (by omega) j;have d:a5g l ((rows.length:Nat):Int):=by simp_all
 have w:=c5P l m rfl c.2.2.2 n;have f:((b.1,b.2.1,()):a1a)=b:=rfl;unfold a9l;rw[if_pos ⟨a,k⟩];simp only[q,oB];rw[if_pos ⟨g,d⟩,w];simp only[oB,f];rw[if_pos ⟨e,i,r,t,u,j,v⟩]
def b8P:a1c:=(0,0,(0,0,0,()),[],[],())
theorem c7B(k:Nat)(a:k≤62)(y:Int):∃v:Nat,bits .i64 .and y ((2^k-1:Nat):Int)=(v:Int)∧v<2^k:=by
 have hp:2^k≤2^62:=a49 (by omega) a;have f:0<2^k:=Nat.pow_pos (by omega);have h:((a00 64 y) &&& (a00 64 ((2^k-1:Nat):Int))).toNat=(a00 64 y).toNat%2^k:=by
  rw[a47];have e:(a00 64 ((2^k-1:Nat):Int)).toNat=2^k-1:=by
   rw[a27];generalize 2^k=p at *;omega
  rw[e,a28]
 have g:=a09 (a00 64 y).toNat f;refine⟨(a00 64 y).toNat%2^k,?_,g⟩;show wrap .i64 ((((a00 64 y) &&& (a00 64 ((2^k-1:Nat):Int))).toNat:Nat):Int)=_;rw[h];generalize (a00 64 y).toNat%2^k=z at *;exact a0B (by omega)
theorem b8Q(c:List (List Int))(n i:Int){r:List Int}(a:short r):∀(k j:Nat)(s:Int),2≤j→j+k=r.length∨(k=0∧r.length≤j)→∃s',y0s a6L (s,r,(j:Int),c,n,i,())=some (s',c,n,i,())
 |0,j,s,h2,h=>⟨s,a0F (by
   have d:decide ((j:Int)<(r.length:Int))=false:=by grind
   simp only[a6L,d,cF])⟩
 |k+1,j,s,h2,h=>by
  have f:j<r.length:=by omega
  unfold short at a;have b:wrap .i64 ((j:Int)-1)=((j-1:Nat):Int):=by grind[a0B]
  have e:wrap .i64 ((j:Int)-2)=((j-2:Nat):Int):=by grind[a0B]
  have m:=a0D (l:=r) (i:=j-1) (by omega);have o:=a0D (l:=r) (i:=j-2) (by omega);obtain⟨s',g⟩:=b8Q c n i a k (j+1) (wrap .i64 (s+v0r (wrap .i64 (wrap .i64 (r[j]-wrap .i64 (2*r[j-1]))+r[j-2])) (wrap .i64 (0-wrap .i64 (wrap .i64 (r[j]-wrap .i64 (2*r[j-1]))+r[j-2]))))) (by omega) (by omega);refine⟨s',?_⟩;rw[←g];exact a0E (by simp only[a6L,dlt f,cT,a0D f,oB,b,e,m,o,a0C (show j<1000000 by omega)])
theorem c1f{c:List (List Int)}{n:Nat}(h:a3y c n)(m:n≤4096)(l:c.length<1000):∃w,a7f c=some w:=by
 unfold a7f;simp only[b9U,oB]
 by_cases hq:a2O c
 rotate_left;simp_all;simp[hq];have f:∀(k i:Nat)(s:Int),i+k=c.length→∃s',y0s a6M (s,c,(c.length:Int),(i:Int),())=some (s',()):=by
  intro k
  induction k with
  |zero=>
   intro i s hi;obtain rfl:i=c.length:=by omega
   simp_all[a0F,a6M]
  |succ k ih=>
   intro i s hi;have g:i<c.length:=by omega
   have o:=(h _ (a25 g)).1;obtain⟨e,a⟩:=b8Q c (c.length:Int) (i:Int) (r:=c[i]) (by unfold short;omega) (c[i].length-2) 2 s (a29 _) (by omega);obtain⟨j,b⟩:=ih (i+1) e (by omega);refine⟨j,?_⟩;rw[←b];rw[show((2:Nat):Int)=2 from rfl]at a;exact a0E (by simp only[a6M,dlt g,cT,a0D g,oB,a,a0C (show i<1000000 by omega)])
 obtain⟨s',d⟩:=f c.length 0 0 (by omega);simp_all
def a4W(m:Nat):List a0I:=match m with
 | 1=>[(0,1,-256,())]
 | 2=>[(1,0,-256,())]
 | 3=>[(1,0,-256,()),(0,1,128,())]
 | 4=>[(1,0,-106,()),(0,1,181,()),(1,0,-106,())]
 |_=>[]
theorem b7F{m:Nat}(h:m≤4):a9V (m:Int)=some (a4W m):=by
 match m,h with
 |0,_=>rfl
 | 1,_=>rfl
 | 2,_=>rfl
 | 3,_=>rfl
 | 4,_=>rfl
theorem c1g{m:Nat}(h:m≤4):a5g (a4W m) 2:=by
 match m,h with
 |0,_=>decide
 | 1,_=>decide
 | 2,_=>decide
 | 3,_=>decide
 | 4,_=>decide
theorem b3q{p:List (List Int)}{n:Nat}(hp:a3y p n)(a:p.length=2)(g:a2O p)(f:n≤4096):∀(k m best:Nat)(least:Int),m+k=5→best≤4→(doO (a4W best) p).isSome=true→
  ∃best',y0s a6l (p,(best:Int),least,(m:Int),())=some (((best':Nat):Int),())∧best'≤4∧(doO (a4W best') p).isSome=true
 |0,m,best,least,hm,hb,hd=>by
  obtain rfl:m=5:=by omega
  exact⟨best,a0F rfl,hb,hd⟩
 |k+1,m,best,least,hm,hb,hd=>by
  have d:decide ((m:Int)<5)=true:=by grind
  have c:wrap .i64 ((m:Int)+1)=((m+1:Nat):Int):=a0C (by omega);have h:a5g (a4W m) (p.length:Int):=by grind[c1g]
  cases hdo:doO (a4W m) p with
  |none=>
   have b1:((6:Int) != 0)=true:=rfl;rw[a0E (s':=(p,(best:Int),least,((m+1:Nat):Int),())) (by
    simp only[a6l,d,cT,b7F (show m≤4 by omega),oB,c2k,if_pos (show a2O p∧a5g (a4W m) (p.length:Int)from⟨g,h⟩),hdo,b7C,b1,c])]
   exact b3q hp a g f k (m+1) best least (by omega) hb hd
  |some r=>
   have e:((0:Int) != 0)=false:=rfl;obtain⟨i,j⟩:=b2u (a4W m) hp rfl h.2.2.2 hdo
   obtain⟨w,b⟩:=c1f i f (by omega);have step:a6l (p,(best:Int),least,(m:Int),())=bif decide (w<least)then some (.inl (p,(m:Int),w,((m+1:Nat):Int),()))else some (.inl (p,(best:Int),least,((m+1:Nat):Int),())):=by
    simp only[a6l,d,cT,b7F (show m≤4 by omega),oB,c2k,if_pos (show a2O p∧a5g (a4W m) (p.length:Int)from⟨g,h⟩),hdo,b7C,e,cF,b,c]
   cases hlt:decide (w<least)with
   |true=>
    rw[hlt]at step;rw[a0E step];exact b3q hp a g f k (m+1) m w (by omega) (by omega) (by simp_all)
   |false=>
    rw[hlt]at step;rw[a0E step];exact b3q hp a g f k (m+1) best least (by omega) hb hd
theorem d2o{p:List (List Int)}{n:Nat}(hp:a3y p n)(g:p.length=2)(h:n≤4096):∃m,m≤4∧b1p p=some (a4W m)∧(doO (a4W m) p).isSome=true:=by
 have k:=b7B hp (by omega) (by omega) h;obtain⟨w,c⟩:=c1f hp h (by omega);obtain⟨m,a,f,b⟩:=b3q hp g k h 4 1 0 w rfl (by omega) rfl
 grind[b1p,b7F]
def b1O(i:Nat)(s:a0I):a0I:=(s.1+(i:Int),s.2.1+(i:Int),s.2.2.1,())
theorem d0J{i N:Nat}(h:i+2≤N){s:a0I}(k:a2G 2 s=true):a2G (N:Int) (b1O i s)=true:=by
 obtain⟨a1,a,b,c,d,g,f⟩:=a3d.1 k;exact a3d.2 ⟨by show 0≤s.1+(i:Int);omega,by show s.1+(i:Int)<(N:Int);omega,by show 0≤s.2.1+(i:Int);omega,by show s.2.1+(i:Int)<(N:Int);omega,by show s.1+(i:Int)≠s.2.1+(i:Int);omega,g,f⟩
def c2l(i:Nat)(c c' p:List (List Int)):Prop:=c'.length=c.length∧p.length=2∧c'.getD i []=p.getD 0 []∧c'.getD (i+1) []=p.getD 1 []∧∀j,j≠i→j≠i+1→c'.getD j []=c.getD j []
theorem c7C{i:Nat}{c0 c p p':List (List Int)}(hi:i+2≤c0.length)(h:c2l i c0 c p){s:a0I}(m:a2G 2 s=true)(g:a3Q 1 s p=some p'):∃c',a3Q 1 (b1O i s) c=some c'∧c2l i c0 c' p':=by
 obtain⟨w,y,z,A,B⟩:=h;obtain⟨a1,f,k,a,o,q,t⟩:=a3d.1 m;unfold a3Q at g⊢;simp only at g⊢;have key:∀x:Int,0≤x→x<2→c.getD (x+(i:Int)).toNat []=p.getD x.toNat []:=fun x D n=>by
  grind
 have u:=key s.1 a1 f;have v:=key s.2.1 k a;simp only[b1O];have l:a9B 1 s.2.2.1 (c.getD (s.1+(i:Int)).toNat []) (c.getD (s.2.1+(i:Int)).toNat [])=a9B 1 s.2.2.1 (p.getD s.1.toNat []) (p.getD s.2.1.toNat []):=by simp_all
 simp only[l]
 split at g
 rename_i b;cases g;rw[if_pos b];generalize a9B 1 s.2.2.1 (p.getD s.1.toNat []) (p.getD s.2.1.toNat [])=r at *;refine⟨_,rfl,by grind,by grind,?_,?_,fun j C d=>?_⟩
 have:s.2.1=0∨s.2.1=1:=by omega
 rcases this with e|e;rw[e,show((0:Int)+(i:Int)).toNat=i from by omega,a7z _ (by omega),show(0:Int).toNat=0 from rfl,a7z _ (by omega)];rw[e,show((1:Int)+(i:Int)).toNat=i+1 from by omega,b1E _ (by omega),show(1:Int).toNat=1 from rfl,b1E _ (by omega)];omega
 have:s.2.1=0∨s.2.1=1:=by omega
 rcases this with e|e;simp_all;rw[e,show((1:Int)+(i:Int)).toNat=i+1 from by omega,a7z _ (by omega),show(1:Int).toNat=1 from rfl,a7z _ (by omega)];rw[b1E _ (by omega)];simp_all;simp_all
theorem c3R{i:Nat}{c0:List (List Int)}(hi:i+2≤c0.length):∀(l:List a0I){c p p':List (List Int)},l.all (a2G 2)=true→c2l i c0 c p→doO l p=some p'→∃g,doO (l.map (b1O i)) c=some g∧c2l i c0 g p'
 | [],c,p,p',_,h,hd=>by cases hd;exact⟨c,rfl,h⟩
 |s::l,c,p,p',hl,h,hd=>by
  simp only[a36,bA]at hl;simp[doO,a19]at hd;obtain⟨q,f,k⟩:=hd;obtain⟨d,a,b⟩:=c7C hi h hl.1 f;obtain⟨g,j1,j2⟩:=c3R hi l hl.2 b k;exact⟨g,by simp only[a37,doO,a,oB];exact j1,j2⟩
theorem c5R:∀(l m:List a0I)(c:List (List Int)),doO (l++m) c=(doO l c).bind (doO m)
 | [],m,c=>rfl
 |s::l,m,c=>by
  simp only[a60,doO];cases a3Q 1 s c with
  |none=>rfl
  |some d=>exact c5R l m d
theorem c3S{α β:Type}(f:α→β):∀l:List α,l.flatMap (fun x=>[f x])=l.map f
 | []=>rfl
 |x::l=>by simp[c3S f l]
theorem c5w(b:a1a)(first:Nat)(s:first≤100){y:List a0I}(d:y.all (a2G 2)=true)(r:y.length≤10)(out:List a0I)(t:out.length≤1000):
  y0s a6m ((first:Int),(y.length:Int),(0:Int),out,y,b,())=some ((first:Int),out++y.map (b1O first),b,()):=by
 have:=a1M (f:=a6m) (β:=Int×(List a0I×(a1a×Unit))) y (fun i (a:List a0I)=>((first:Int),(y.length:Int),(i:Int),a,y,b,())) (fun a x=>.inl (a++[b1O first x])) (fun i a=>a.length=out.length+i) (fun a=>((first:Int),a,b,()))
  (fun i hi a k=>⟨fun e h=>by
   simp at h;subst h;obtain⟨a1,j,l,m,o,p,q⟩:=a3d.1 (lA.1 d _ (a25 hi));have g:decide ((0:Int)≤(i:Int))=true:=by simp
   have c:a97 y (a30 (i:Int)) ((0:Int),(0:Int),(0:Int),())=y[i]:=by simp_all
   refine⟨?_,by grind⟩;simp only[a6m,dlt hi,cT,g,a02,a0T (show a.length+1<2147483648 by omega),c,a0C (show i<1000000 by omega),a96];rw[a0B (n:=y[i].1+(first:Int)) (by omega),a0B (n:=y[i].2.1+(first:Int)) (by omega)]
   rfl,fun b hb=>by grind⟩)
  (fun a k=>by simp_all[a6m]) (a:=out) (by simp)
 simp_all[b1f,a8c,c3S]
theorem d5y{c:List (List Int)}{i:Nat}(h:i+2≤c.length):a45 i (a35 (i+2) c)=[c.getD i [],c.getD (i+1) []]:=by
 apply List.ext_getElem?;intro j;rw[a53]
 grind
theorem b8R{b:a1a}{n:Nat}(o:a3y b.2.1 n)(p:n≤4096)(z:b.2.1.length≤8):∀(k j:Nat)(out:List a0I)(c:List (List Int)),j+k=5→out.length≤3*j→out.all (a2G (b.2.1.length:Int))=true→doO out b.2.1=some c→(∀i,2*j≤i→c.getD i []=b.2.1.getD i [])→3*j≤12∨b.2.1.length≤2*j→
  ∃l f,y0s a8v (((2*j:Nat):Int),out,b,())=some (l,())∧l.length≤16∧l.all (a2G (b.2.1.length:Int))=true∧doO l b.2.1=some f
 |k,j,out,c,hk,hol,hob,hdo,hag,h12=>by
  have g:wrap .i64 (((2*j:Nat):Int)+1)=((2*j+1:Nat):Int):=by grind[a0B]
  by_cases hlt:2*j+1<b.2.1.length
  ·cases k with
   |zero=>omega
   |succ k=>
    have e:wrap .i64 (((2*j:Nat):Int)+2)=((2*j+2:Nat):Int):=by grind[a0B]
    have hp:a3y [b.2.1.getD (2*j) [],b.2.1.getD (2*j+1) []] n:=fun r q=>by
     simp only[mC,a48,or_false]at q;rcases q with rfl|rfl
     all_goals grind[a8l]
    obtain⟨m,u,N,E⟩:=d2o hp rfl p;obtain⟨p',d⟩:=Option.isSome_iff_exists.1 E;have h:=(c1g u).2.2.2;have C:(a4W m).length≤3:=by
     match m,u with
     |0,_=>decide
     | 1,_=>decide
     | 2,_=>decide
     | 3,_=>decide
     | 4,_=>decide
    have A:c.length=b.2.1.length:=(b2u out o rfl hob hdo).2;obtain⟨f,F,G,H,I,K,L⟩:=c3R (i:=2*j) (c0:=c) (by omega) (a4W m) h ⟨rfl,rfl,hag _ (a29 _),hag _ (by omega),fun _ _ _=>rfl⟩ d;have B:=c5w b (2*j) (by omega) h (by omega) out (by omega);have a:decide (((2*j+1:Nat):Int)<((b.2.1.length:Nat):Int))=true:=by grind
    have v:decide ((0:Int)≤((2*j+2:Nat):Int))=true:=by rfl
    have w:decide (((2*j+2:Nat):Int)≤((b.2.1.length:Nat):Int))=true:=by grind
    have x:decide ((0:Int)≤((2*j:Nat):Int))=true:=by rfl
    have y:decide (((2*j:Nat):Int)≤((2*j+2:Nat):Int))=true:=by grind
    rw[a0E (s':=(((2*(j+1):Nat):Int),out++(a4W m).map (b1O (2*j)),b,())) (by
     simp only[a8v,g,a,cT,e,v,w,a02,tN,x,y]
     grind[d5y])]
    refine b8R o p z k (j+1) (out++(a4W m).map (b1O (2*j))) f (by omega) (by grind) ?_ (by simp_all[c5R]) (fun i hi=>by grind) (by omega);rw[List.all_append,hob,a58,lA];intro s D;obtain⟨t,M,rfl⟩:=a40.1 D
    grind[d0J]
  refine⟨out,c,a0F ?_,by omega,hob,hdo⟩;have a:decide (((2*j+1:Nat):Int)<((b.2.1.length:Nat):Int))=false:=by grind
  simp only[a8v,g,a,cF]
termination_by k=>k
theorem c3T{b:a1a}(hb:a1U b):∃l h,a7u b=some l∧a5g l (b.2.1.length:Int)∧doO l b.2.1=some h:=by
 obtain⟨c,-⟩:=b2U hb;have a:=hb.2.2.2.1;obtain⟨l,h,d,g,f,k⟩:=b8R c hb.2.2.2.2.2.1 a 5 0 [] b.2.1 rfl (by simp) rfl rfl (fun _ _=>rfl) (by omega);refine⟨l,h,?_,⟨by have:=hb.2.2.1;omega,by omega,g,f⟩,k⟩;unfold a7u;simp[a6y,decide_eq_true hb];simp_all
theorem d0K{r:List Int}{n:Nat}(h:r.length=n∧r.all a0A=true)(a:1≤n)(b:n≤256){k:Int}(f:0≤k)(c:k≤3):
  ∃s,a5C (r,k)=some (s,0)∧SmallS s∧a2r s (n:Int)=some r∧a5d s (n:Int)≤((13+a0J r*n:Nat):Int):=by
 obtain⟨e,g⟩:=h;have d:=a6S (l:=r) (by omega) g
 grind[c7r,d3J]
theorem b8S{effort:Int}(g:0≤effort)(b:effort≤3){rows:List (List Int)}{n:Nat}(c:a3y rows n)(k:1≤n)(a:n≤256)(i:rows.length≤8)(f:a1c):∀(rest d:List (List Int)) (done:List Sub),d++rest=rows→done.length=d.length→
  ∃outs,y0s a5D (effort,rows,(rows.length:Int),(d.length:Int),b8P,a8N f done,())=some (.inl (b8P,a8N f (done++outs),()))∧a7E (fun s=>a2r s (n:Int)) outs=some rest∧(∀s∈outs,SmallS s)∧a7E (fun r=>a5C (r,effort)) rest=some (outs.map fun s=>(s,0))
 | [],d,done,hd,hdl=>by
  have e:d=rows:=by simp_all
  subst e;refine⟨[],?_,rfl,by simp,rfl⟩;simp_all[a0F,a5D]
 |r::rest,d,done,hd,hdl=>by
  have h:d.length<rows.length:=by grind
  have j:m0k rows (d.length:Int)=some r:=by grind[a0D]
  obtain⟨s,b1,b2,l,-⟩:=d0K (c r (by grind)) k a g b;have z0:((0:Int) != 0)=false:=rfl;have step:a5D (effort,rows,(rows.length:Int),(d.length:Int),b8P,a8N f done,())=some (.inl (effort,rows,(rows.length:Int),(((d++[r]).length:Nat):Int),b8P,a8N f (done++[s]),())):=by
   simp only[a5D,dlt h,cT,j,oB,b1,z0,cF];rw[show(a8N f done).2.2.2.2.1=done from rfl,a0T (show done.length+1<2147483648 by omega),cT,a0C (show d.length<1000000 by omega)];rw[show(((d++[r]).length:Nat):Int)=((d.length+1:Nat):Int)from by simp];rfl
  rw[a0E step];obtain⟨outs,o,p,q,u⟩:=b8S g b c k a i f rest (d++[r]) (done++[s]) (by simp_all) (by simp_all);refine⟨s::outs,?_,?_,fun t m=>?_,?_⟩;simp_all;simp_all[a7E]
  grind
  simp_all[a7E]
theorem c7D{b:a1a}(hb:a1U b)(k:a0K b≤256){rate start effort:Int}(n:1≤rate∧rate≤1048576)(B:0≤start∧start≤4194304-((a0K b:Nat):Int))(y:0≤effort)(z:effort≤3):
  ∃l g outs,a2S (b,(rate,((b.2.1.length:Nat):Int),b.1,()),start,effort)=some ((start,((a0K b:Nat):Int),(rate,((b.2.1.length:Nat):Int),b.1,()),l,outs,()),0)∧
   a5g l (b.2.1.length:Int)∧doO l b.2.1=some g∧a7E (fun s=>a2r s ((a0K b:Nat):Int)) outs=some g∧(∀s∈outs,SmallS s)∧a7E (fun r=>a5C (r,effort)) g=some (outs.map fun s=>(s,0))∧
   (effort=0→l=[])∧(0<effort→a7u b=some l):=by
 obtain⟨A,m⟩:=b2U hb;have i:=hb;obtain⟨w,x,D,E,F,G,-⟩:=i;have j:a2k (rate,((b.2.1.length:Nat):Int),b.1,()):=⟨n.1,n.2,by grind,by grind,w,x⟩;have f:∃l g,a5g l (b.2.1.length:Int)∧doO l b.2.1=some g∧(effort=0→l=[])∧(0<effort→a7u b=some l):=by
  by_cases he:effort=0
  exact⟨[],b.2.1,⟨by omega,by omega,by simp,rfl⟩,rfl,fun _=>rfl,fun h=>by omega⟩
  grind[c3T]
 obtain⟨l,g,e,d,a,c⟩:=f;obtain⟨C,H⟩:=b2u l A rfl e.2.2.2 d;obtain⟨outs,j1,j2,j3,j4⟩:=b8S y z C (by omega) k (by omega) (start,((a0K b:Nat):Int),(rate,((b.2.1.length:Nat):Int),b.1,()),l,([]:List Sub),()) g [] [] rfl rfl;refine⟨l,g,outs,?_,e,d,j2,j3,j4,a,c⟩;have u:(b.1 != b.1)=false:=bne_self_eq_false _;have v:(((b.2.1.length:Nat):Int) != ((b.2.1.length:Nat):Int))=false:=bne_self_eq_false _;have o:decide (effort<0)=false:=by simp_all
 have p:decide (effort > 3)=false:=by simp_all
 have q:decide (start<0)=false:=by simp_all
 have t:decide (start > wrap .i64 (4194304-((a0K b:Nat):Int)))=false:=by grind[a0B]
 have z0:((0:Int) != 0)=false:=rfl;unfold a2S;simp only[a6y,decide_eq_true hb,oB,bT,cF,a4E,decide_eq_true j,u,v,o,p,q,a4V,t];cases he:decide (effort > 0)with
 |true=>
  have:=c (by simp_all)
  simp[this,c2k,if_pos (show a2O b.2.1∧a5g l (b.2.1.length:Int)from⟨m,e⟩),d,b7C]
  erw[j1]
  rfl
 |false=>
  have:=a (by grind)
  subst this;simp only[cF,oB,c2k,if_pos (show a2O b.2.1∧a5g ([]:List a0I) (b.2.1.length:Int)from⟨m,e⟩),d,b7C,z0]
  erw[j1]
  rfl
theorem made{b:a1a}(hb:a1U b)(f:a0K b≤256){rate start effort:Int}(e:1≤rate∧rate≤1048576)(a:0≤start∧start≤4194304-((a0K b:Nat):Int))(j:0≤effort)(n:effort≤3):
  ∃g:Int×(a0I×(List a0I×(List Sub×Unit))),a2S (b,(rate,((b.2.1.length:Nat):Int),b.1,()),start,effort)=some ((start,g),0)∧g.1=((a0K b:Nat):Int)∧g.2.1=(rate,((b.2.1.length:Nat):Int),b.1,())∧
   g.2.2.1.length≤16∧g.2.2.2.1.length≤8∧(∀s∈g.2.2.2.1,SmallS s)∧∀h,0≤h∧h≤4194304-((a0K b:Nat):Int)→a9l (h,g)=some b:=by
 obtain⟨l,i,outs,m,k,c,d,o,-⟩:=c7D hb f e a j n;obtain⟨p,-⟩:=b2U hb;have t:=b7D d;have q:=(b2u l p rfl k.2.2.2 c).2;exact⟨_,m,rfl,rfl,k.2.2.1,by have:=hb.2.2.2.1;show outs.length≤8;omega,o,fun h r=>c7A hb k c d r e⟩
theorem d2p(y:Int):bits .i64 .and y 255=y%256:=by
 have h:((a00 64 y) &&& (a00 64 255)).toNat=(y%18446744073709551616).toNat%256:=by
  rw[a47,a27];have e:(a00 64 255).toNat=2^8-1:=by decide
  rw[e,a28];rfl
 show wrap .i64 ((((a00 64 y) &&& (a00 64 255)).toNat:Nat):Int)=_;rw[h,a0B (by omega)];omega
theorem d8q(x:Int){j:Nat}(g:j<8):A0o .i64 x ((8*j:Nat):Int)=x.fdiv (256^j):=by
 have h:min (a30 ((8*j:Nat):Int)) (IntKind.bits .i64)=8*j:=by
  simp only[tN,IntKind.bits];omega
 unfold A0o;rw[h,show(256:Int)=2^8 from rfl,←Int.pow_mul]
def smB(k:Nat)(x:Int):List Int:=leB k (x%18446744073709551616).toNat
theorem d2q(x:Int)(j:Nat)(g:j<8):((((x%18446744073709551616).toNat) / 256^j%256:Nat):Int)=x.fdiv (256^j)%256:=by
 have h:j=0∨j=1∨j=2∨j=3∨j=4∨j=5∨j=6∨j=7:=by omega
 rcases h with rfl|rfl|rfl|rfl|rfl|rfl|rfl|rfl<;>rw[a55 _ (by decide)]<;>simp only[Nat.reducePow,Int.reducePow]<;>omega
theorem b4K(k:Nat)(x:Int):(smB k x).length=k:=b0F _ _
theorem d0L(k:Nat)(h:k<8)(x:Int):smB (k+1) x=smB k x++[x.fdiv (256^k)%256]:=by
 unfold smB;rw[b7o,d2q x k h]
theorem b5Q:∀(k n:Nat),∀b∈leB k n,0≤b∧b<256
 |0,_=>by simp[leB]
 |k+1,n=>fun b hb=>by
  rcases mC.1 hb with rfl|hb;omega;exact b5Q k _ b hb
def a1B(w:Int)(l:List Int):List Int:=l.flatMap (smB ((w+7) / 8).toNat)
theorem c3U{k:Nat}{g:Int→List Int}(h:∀x,(g x).length=k):∀(l:List Int),(l.flatMap g).length=l.length*k
 | []=>by simp
 |x::l=>by
  rw[a31,lN,h,c3U h l,lC,Nat.add_mul];omega
theorem b8T{w:Int}(hw:4≤w∧w≤24)(l:List Int):(a1B w l).length≤3*l.length:=by
 unfold a1B;rw[c3U (b4K _)]
 have:((w+7) / 8).toNat≤3:=by omega
 calc l.length*((w+7) / 8).toNat≤l.length*3:=Nat.mul_le_mul_left _ this
  _=3*l.length:=a41 ..
theorem b8U(w:Int)(a b:List Int):a1B w (a++b)=a1B w a++a1B w b:=a74
theorem b5R(w:Int)(l:List Int):∀b∈a1B w l,0≤b∧b<256:=fun b hb=>by
 obtain⟨x,-,h⟩:=a84.1 hb;exact b5Q _ _ b h
theorem d2r(b x n:Int)(i:Int)(l:List Int){k:Nat}(e:k≤8)(out:List Int)(m:out.length<100000000):
  y0s a4K (b,(k:Int),x,l,n,i,(k:Int),(0:Int),out,())=some (b,(k:Int),l,n,i,out++smB k x,()):=by
 have h:=a1C (f:=a4K) (fun j=>(b,(k:Int),x,l,n,i,(k:Int),(j:Int),out++smB j x,()))
  k (b:=(b,(k:Int),l,n,i,out++smB k x,())) (fun j d=>by
   have c:wrap .i64 ((8:Int)*(j:Int))=((8*j:Nat):Int):=by rw[a0B (by omega)];omega
   have g:decide (((8*j:Nat):Int)<0)=false:=by simp;omega
   simp only[a4K];rw[dlt d,a0T (show(out++smB j x).length+1<2147483648 by rw[lN,b4K];omega),c,g,a0C (show j<1000000 by omega),d2p,d8q x (by omega),a8b,Int.emod_emod_of_dvd _ (by decide),d0L j (by omega),←aA];rfl) (by simp only[a4K,dge,cF])
 have a:out++smB 0 x=out:=by simp[smB,leB]
 simp only[a]at h;exact h
theorem d3O{w:Int}(h:4≤w∧w≤24):wrap .i64 (a23 (wrap .i64 (w+(7:Int))) (8:Int))=((((w+7) / 8).toNat:Nat):Int):=by
 rw[a0B (n:=w+7) (by omega),Int.tdiv_eq_ediv_of_nonneg (by omega),a0B (by omega)];omega
theorem c1h{w:Int}(g:4≤w∧w≤24)(l:List Int)(c:l.length≤1000000){k:Nat}(a:k≤3):∀(rest done out:List Int),done++rest=l→rest.all (fun x=>a1h x w)=true→out.length+3*rest.length<100000000→
  y0s a6K (w,(k:Int),l,(l.length:Int),(done.length:Int),out,())=some (.inl (out++rest.flatMap (smB k),()))
 | [],done,out,hd,_,_=>by
  obtain rfl:done=l:=by simpa using hd
  rw[a0F (b:=Sum.inl (out,())) (by simp only[a6K,dge,cF])]
  simp
 |x::rest,done,out,hd,hf,ho=>by
  have h:done.length<l.length:=by rw[←hd];simp
  have f:m0k l (done.length:Int)=some x:=by rw[a0D h];subst hd;simp
  simp only[a36,bA]at hf;simp only[lC]at ho;rw[a0E (s':=(w,(k:Int),l,(l.length:Int),(((done++[x]).length:Nat):Int),out++smB k x,())) (by
   simp only[a6K,dlt h,cT,f,oB,b2S g,hf.1,bT,cF,d2r w x _ _ l (show k≤8 by omega) out (by omega),a0C (show done.length<1000000 by omega)]
   simp)]
  rw[c1h g l c a rest (done++[x]) (out++smB k x) (by simpa using hd) hf.2 (by rw[lN,b4K];omega)]
  simp
theorem b9V{w:Int}(g:4≤w∧w≤24){l:List Int}(c:l.length≤1000000)(b:l.all (fun x=>a1h x w)=true):a9q (l,w)=some (a1B w l,0):=by
 have f:decide (w<(4:Int))=false:=by simp;omega
 have a:decide (w > (24:Int))=false:=by simp;omega
 have h:=c1h g l c (k:=((w+7) / 8).toNat) (by omega) l [] [] rfl b (by simp;omega);rw[a21]at h;simp only[a9q,f,cF,oB,a,d3O g]
 erw[h]
 rfl
def b0N(d:List Int)(ch c:Nat):List Int:=((a01 d.length).filter fun i=>i%ch==c).map fun i=>d.getD i 0
def a1D(d:List Int)(ch:Nat):List (List Int):=(a01 ch).map (b0N d ch)
def wv(n:Nat)(rows:List (List Int)):List Int:=(a01 n).flatMap fun i=>rows.map fun r=>r.getD i 0
theorem d0M{α:Type}{a b:List α}{i:Nat}{d:α}(h:i<a.length):(a++b).getD i d=a.getD i d:=by
 grind
theorem c8T(d:List Int)(x:Int)(ch c:Nat):b0N (d++[x]) ch c=if d.length%ch=c then b0N d ch c++[x]else b0N d ch c:=by
 unfold b0N;rw[lN,List.length_singleton,a38,a54,pA];have h:((a01 d.length).filter fun i=>i%ch==c).map (fun i=>(d++[x]).getD i 0)=((a01 d.length).filter fun i=>i%ch==c).map fun i=>d.getD i 0:=
  a24 fun i hi=>d0M (a43.1 (List.mem_filter.1 hi).1)
 grind
theorem c3V(c:Nat):∀ch,(a01 ch).filter (·==c)=if c<ch then[c]else[]
 |0=>rfl
 |ch+1=>by
  rw[a38,a54,c3V c ch]
  grind
theorem c3W{ch c:Nat}(h:c<ch):∀n,(a01 (n*ch)).filter (fun i=>i%ch==c)=(a01 n).map fun i=>i*ch+c
 |0=>by simp
 |n+1=>by
  rw[Nat.succ_mul,a44,a54,c3W h n,a38,pA,List.filter_map];congr 1;have e:∀i∈a01 ch,((fun i=>i%ch==c)∘fun x=>n*ch+x) i=(i==c):=fun i hi=>by
   simp_all[a22]
  simp_all[List.filter_congr,c3V]
theorem b3r{d:List Int}{n ch c:Nat}(g:d.length=n*ch)(h:c<ch):b0N d ch c=(a01 n).map fun i=>d.getD (i*ch+c) 0:=by
 simp_all[b0N,c3W]
theorem c7E(f:Nat→Int)(ch:Nat):∀n,(a01 n).flatMap (fun i=>(a01 ch).map fun c=>f (i*ch+c))=(a01 (n*ch)).map f
 |0=>by simp
 |n+1=>by
  rw[a38,a74,c7E f ch n,Nat.succ_mul,a44,pA,a32];simp[Function.comp_def]
theorem c7F(d:List Int):(a01 d.length).map (fun i=>d.getD i 0)=d:=
 a26 (by simp) fun i h g=>by simp_all
theorem b9W{n i:Nat}(f:Nat→Int)(h:i<n):((a01 n).map f).getD i 0=f i:=by
 simp_all
theorem b4L{α β:Type}{l:List α}{f g:α→List β}(h:∀a∈l,f a=g a):l.flatMap f=l.flatMap g:=by
 grind[a24]
theorem d2s{d:List Int}{n ch:Nat}(h:d.length=n*ch):wv n (a1D d ch)=d:=by
 have:wv n (a1D d ch)=(a01 n).flatMap fun i=>(a01 ch).map fun c=>d.getD (i*ch+c) 0:=
  b4L fun i hi=>by
   grind[a1D,a24,b3r]
 grind[c7E,c7F]
theorem d3P{d:List Int}{n ch a b:Nat}(g:d.length=n*ch)(k:b≤n):wv (b-a) ((a1D d ch).map fun r=>(r.take b).drop a)=(d.take (b*ch)).drop (a*ch):=by
 have:wv (b-a) ((a1D d ch).map fun r=>(r.take b).drop a)=(a01 (b-a)).flatMap fun i=>(a01 ch).map fun c=>(fun j=>d.getD (a*ch+j) 0) (i*ch+c):=
  b4L fun i hi=>by
   have hi:=a43.1 hi;unfold a1D;rw[a32,a32];refine a24 fun c h=>?_
   show(((b0N d ch c).take b).drop a).getD i 0=d.getD (a*ch+(i*ch+c)) 0;rw[b3r g (a43.1 h),lD,a53,List.getElem?_take_of_lt (by omega),a82,List.getElem?_range (by omega)]
   grind
 rw[this];refine(c7E (fun j=>d.getD (a*ch+j) 0) ch (b-a)).trans ?_
 have hb:b*ch≤d.length:=by simp_all[a03]
 have e:(b-a)*ch=b*ch-a*ch:=a85 ..;refine a26 (by simp_all) fun i f l=>?_
 grind
def prm:Nat:=2305843009213693951
def prs(h:Nat)(l:List Nat):Nat:=l.foldl (fun h c=>(h*1000003+(c+1))%prm) h
theorem d2t(h:Nat):prs h []=h:=rfl
theorem c3X(h c:Nat)(l:List Nat):prs h (c::l)=prs ((h*1000003+(c+1))%prm) l:=rfl
theorem c7G(h:Nat)(a b:List Nat):prs h (a++b)=prs (prs h a) b:=a46 ..
theorem c3Y{h:Nat}(g:h<prm)(l:List Nat):prs h l<prm:=by
 induction l generalizing h with
 |nil=>exact g
 |cons c l ih=>exact ih (a09 _ (by decide))
theorem b4M(a b c:Nat):(a%prm*b+c)%prm=(a*b+c)%prm:=by
 simp_all[Nat.add_mod]
theorem c3Z(a b:Nat):(a+b%prm)%prm=(a+b)%prm:=by
 simp
theorem d0N(l:List Nat)(h:Nat):prs h l%prm=(h*1000003^l.length+prs 0 l)%prm:=by
 induction l generalizing h with
 |nil=>simp[d2t]
 |cons c l ih=>
  rw[c3X,c3X,ih,b4M,←c3Z (h*_),ih ((0*1000003+(c+1))%prm),b4M,c3Z,lC,a79]
  grind
theorem d0O(a b:List Nat):prs 0 (a++b)=(prs 0 a*(1000003^b.length%prm)+prs 0 b)%prm:=by
 rw[c7G,←a22 (c3Y (c3Y (by decide) a) b),d0N,a41 (prs 0 a) (_%prm),b4M,a41 (prs 0 a)]
def pwr:Nat→Nat→Nat→Nat→Nat
 |0,_,p,_=>p
 |k+1,n,p,s=>if n=0 then p else pwr k (n / 2) (if n%2=1 then p*s%prm else p) (s*s%prm)
theorem d0P(a b:Nat):a%prm*b%prm=a*b%prm:=b4M a b 0
theorem c4a(a n:Nat):(a%prm)^n%prm=a^n%prm:=by rw[←Nat.pow_mod]
theorem d3Q(k n p s:Nat)(h:n<2^k)(hp:p<prm):pwr k n p s=p*s^n%prm:=by
 induction k generalizing n p s with
 |zero=>simp_all[pwr,a22]
 |succ k ih=>
  rw[pwr]
  by_cases h0:n=0
  simp_all[a22];rw[if_neg h0];have g:n / 2<2^k:=by omega
  have f:(s*s)^(n / 2)=s^(2*(n / 2)):=by grind[Nat.pow_mul]
  by_cases h1:n%2=1
  rw[if_pos h1,ih _ _ _ g (a09 _ (by decide)),a56,c4a,f,←a56,d0P,Nat.mul_assoc,←Nat.pow_succ']
  grind
  rw[if_neg h1,ih _ _ _ g hp,a56,c4a,f,←a56]
  grind
theorem c8U{u d y1 y0 q r:Nat}(g:u=q*y1+r)(h:q*y0≤4294967296*r+d):q*(y1*4294967296+y0)≤u*4294967296+d:=by
 grind
theorem d2u(u d e y:Nat):((u*4294967296+d)%y*4294967296+e)%y=((u*4294967296+d)*4294967296+e)%y:=by
 simp_all[Nat.add_mod,a56]
theorem c8V(n k y:Nat)(h:0<k):n*k%(y*k) / k=n%y:=by
 simp_all[Nat.mul_mod_mul_right]
@[reducible] def Pc:Type:=a1c×(a1a×List Int)
def b7G(fm:a0I)(st:Nat)(x:Pc):Prop:=
 x.1.1=(st:Int)∧x.1.2.1=((a0K x.2.1:Nat):Int)∧x.1.2.2.1=fm∧a2b x.1=some (x.2.1,0)∧a2z x.1=some (x.2.2,0)∧
  (∀R:List Int,R.length≤200000000→a6k (x.2.2++R)=some (x.1,(x.2.2.length:Int),(0:Int)))∧a1U x.2.1∧x.2.1.1=fm.2.2.1∧a0K x.2.1≤64∧1≤x.2.2.length∧x.2.2.length≤700800
def a2V(fm:a0I):Nat→List Pc→Prop
 |_,[]=>True
 |st,x::xs=>b7G fm st x∧a2V fm (st+a0K x.2.1) xs
def a2W:Nat→Nat→List Pc→List (Int×Int×Unit)
 |_,_,[]=>[]
 |st,off,x::xs=>((st:Int),(off:Int),())::a2W (st+a0K x.2.1) (off+x.2.2.length) xs
def a1m(xs:List Pc):Nat:=(xs.map fun x=>a0K x.2.1).sum
def a0V(xs:List Pc):List Int:=xs.flatMap fun x=>x.2.2
def wvB(b:a1a):List Int:=wv (a0K b) b.2.1
def a4o(xs:List Pc):List Int:=xs.flatMap fun x=>wvB x.2.1
def prI(l:List Int):Nat:=prs 0 (l.map a30)
def a2B(fm:a0I)(xs:List Pc):Nat:=prI (a1B fm.2.2.1 (a4o xs))
theorem b4a(l:List Int):prI l<prm:=c3Y (by decide) _
theorem c5S(a b:List Int):prI (a++b)=(prI a*(1000003^b.length%prm)+prI b)%prm:=by
 simp_all[prI,d0O]
theorem a5L(h:List Pc)(x:Pc):a1m (h++[x])=a1m h+a0K x.2.1:=by simp[a1m]
theorem a7A(h:List Pc)(x:Pc):a0V (h++[x])=a0V h++x.2.2:=by simp[a0V]
theorem b2m(h:List Pc)(x:Pc):a4o (h++[x])=a4o h++wvB x.2.1:=by simp[a4o]
theorem c8W{rows:List (List Int)}:∀n,(wv n rows).length=n*rows.length:=fun n=>by
 simp_all[wv,List.map_const']
theorem c1i{fm:a0I}:∀{xs:List Pc}{st:Nat}{x:Pc},a2V fm st xs→b7G fm (st+a1m xs) x→a2V fm st (xs++[x])
 | [],st,x,_,h=>⟨by simpa[a1m]using h,trivial⟩
 |y::xs,st,x,h,h2=>⟨h.1,c1i h.2 (by simp_all[a1m,a59])⟩
theorem b1F:∀(xs:List Pc)(st off:Nat)(x:Pc),a2W st off (xs++[x])=a2W st off xs++[(((st+a1m xs:Nat):Int),((off+(a0V xs).length:Nat):Int),())]
 | [],st,off,x=>by rfl
 |y::xs,st,off,x=>by
  simp_all[a2W,b1F,a1m,a0V,a59]
theorem a8P:∀(xs:List Pc)(st off:Nat),(a2W st off xs).length=xs.length
 | [],_,_=>rfl
 |_::xs,_,_=>congrArg (·+1) (a8P xs _ _)
theorem b2n{fm:a0I}:∀{xs:List Pc}{st:Nat},a2V fm st xs→(a0V xs).length≤700800*xs.length
 | [],_,_=>by simp[a0V]
 |x::xs,st,h=>by
  have:=b2n h.2
  have:=h.1.2.2.2.2.2.2.2.2.2.2
  simp only[a0V,a31,lN,lC]at *;omega
theorem d2v{b:a1a}{fm:a0I}(hb:a1U b)(i:a0K b≤64)(j:1≤fm.1∧fm.1≤1048576)(d:fm.2.1=((b.2.1.length:Nat):Int))(h:fm.2.2.1=b.1){st:Nat}(q:st+a0K b≤4194304){effort:Int}(m:0≤effort)(n:effort≤3):
  ∃g p,a2S (b,fm,(st:Int),effort)=some (((st:Int),g),0)∧b7G fm st (((st:Int),g),b,p):=by
 obtain⟨rate,ch,bits,u⟩:=fm;cases u;simp only at j d h;subst d h;obtain⟨g,r,s,t,x,y,l,v⟩:=made hb (by omega) (rate:=rate) (start:=(st:Int)) (effort:=effort) j (by omega) m n;have a:=v (st:Int) (by omega);obtain⟨L,o,-,e,c⟩:=b8O (f:=((st:Int),g)) l a;have k:=b7E (f:=((st:Int),g)) l;rw[a]at k;have w:=b4I (b2T a).1 o;refine⟨g,a4U ((st:Int),g) L,r,rfl,s,t,k,e,c,hb,rfl,i,?_,?_⟩
 all_goals grind[a4U]
theorem c4b{d:List Int}{n ch c:Nat}(g:d.length=n*ch)(h:c<ch):(b0N d ch c).length=n:=by rw[b3r g h];simp
theorem d0Q{d:List Int}{ch c:Nat}{x:Int}(h:x∈b0N d ch c):x∈d:=by
 unfold b0N at h
 grind
def a5M(w:Int)(d:List Int)(ch:Nat):a1a:=(w,a1D d ch,())
theorem b4N{w:Int}{d:List Int}{n ch:Nat}(g:d.length=n*ch)(h:0<ch):a0K (a5M w d ch)=n:=by
 obtain⟨k,rfl⟩:∃k,ch=k+1:=⟨ch-1,by omega⟩;show((a1D d (k+1)).headD []).length=n
 grind[a1D,List.range_succ_eq_map,c4b]
theorem d2w{w:Int}{d:List Int}{n ch:Nat}(f:d.length=n*ch)(h:1≤ch∧ch≤8)(j:1≤n∧n≤4096)(k:4≤w∧w≤24)(a:d.all (fun x=>a1h x w)=true):a1U (a5M w d ch):=by
 have b:=b4N (w:=w) f (show 0<ch by omega);have g:(a1D d ch).length=ch:=by simp[a1D]
 refine⟨k.1,k.2,by simp_all[a5M],by simp_all[a5M],by omega,by omega,?_⟩;rw[b];refine lA.2 fun r e=>?_
 obtain⟨c,g,rfl⟩:=a40.1 (show r∈(a01 ch).map (b0N d ch)from e);rw[bA,dT];exact⟨c4b f (a43.1 g),lA.2 fun x i=>lA.1 a x (d0Q i)⟩
theorem d2x{w:Int}{d:List Int}{n ch:Nat}(g:d.length=n*ch)(h:0<ch):wvB (a5M w d ch)=d:=by
 unfold wvB;rw[b4N g h];exact d2s g
def b3H(n:Nat)(l:List Int):Nat:=l.foldl (fun n c=>n*256+c.toNat) n
def a7F(k n:Nat):List Int:=(leB k n).reverse
theorem b7H:∀(k n:Nat),n<256^k→b3H 0 (a7F k n)=n
 |0,n,h=>by simp at h;subst h;rfl
 |k+1,n,h=>by
  have g:=b7H k (n / 256) (by rw[a67 (by omega)];rw[a79]at h;exact h);unfold b3H a7F at *;rw[leB,List.reverse_cons,a46,g]
  simp
  omega
theorem a9C(k n:Nat):(a7F k n).length=k:=by simp[a7F,b0F]
theorem b4O(k n:Nat):∀b∈a7F k n,0≤b∧b<256:=fun b hb=>b5Q k n b (List.mem_reverse.1 hb)
theorem b9X{n k:Nat}(j:n<18446744073709551616)(d:k≤8):a5k ((n:Int),(k:Int))=some (leB k n):=by
 have c:a3S (k:Int)=some (k:Int):=by
  grind[a3S,b0Q,b6d]
 simp[a5k,c];have h:=a1C (f:=a1Y) (fun i=>(((n / 256^i:Nat):Int),(k:Int),(i:Int),leB i n,())) k (b:=(leB k n,())) (fun i hi=>by
   have g:wrap .u64 (a23 ((n / 256^i:Nat):Int) 256)=((n / 256^(i+1):Nat):Int):=by
    have e:a23 ((n / 256^i:Nat):Int) 256=((n / 256^i / 256:Nat):Int):=rfl;rw[e,Nat.div_div_eq_div_mul,←a79]
    have:=a90 n (256^(i+1))
    grind[a0M]
   have a:wrap .u8 (a39 ((n / 256^i:Nat):Int) 256)=((n / 256^i%256:Nat):Int):=by
    have e:a39 ((n / 256^i:Nat):Int) 256=((n / 256^i%256:Nat):Int):=rfl;rw[e,a8b];omega
   simp only[a1Y];rw[dlt hi,a0T (show(leB i n).length+1<2147483648 by rw[b0F];omega),g,a0C (show i<1000000 by omega),a,b7o];rfl) (by simp_all[a1Y])
 simp only[Nat.pow_zero,Nat.div_one,leB]at h;simp_all
theorem b5S{n k:Nat}(g:n<18446744073709551616)(h:k≤8):a4s ((n:Int),(k:Int))=some (a7F k n):=by
 unfold a4s a1W;simp only[b9X g h,oB];rw[decide_eq_true (by rw[b0F];omega)];rfl
def c32(s:BitVec 32):BitVec 32:=bif s.getLsbD 0 then(s >>> 1) ^^^ 0xedb88320#32 else s >>> 1
def d0R:Nat→BitVec 32→BitVec 32
 |0,s=>s
 |k+1,s=>d0R k (c32 s)
def d0S(s x:BitVec 32):BitVec 32:=d0R 8 (s ^^^ x)
def d3R(s:BitVec 32)(l:List (BitVec 32)):BitVec 32:=l.foldl d0S s
theorem d0T(s:BitVec 32):a00 32 ((s.toNat:Nat):Int)=s:=by
 simp
theorem d3S(s:BitVec 32):wrap .u32 ((s.toNat:Nat):Int)=((s.toNat:Nat):Int):=by
 have:=s.isLt
 grind[wrap,IntKind.bits,IntKind.signed]
theorem c7H(s t:BitVec 32):bits .u32 .xor ((s.toNat:Nat):Int) ((t.toNat:Nat):Int)=(((s ^^^ t).toNat:Nat):Int):=by
 show wrap .u32 (((a00 32 _ ^^^ a00 32 _).toNat:Nat):Int)=_;rw[d0T,d0T,d3S]
theorem d5z(s:BitVec 32):(bits .u32 .and ((s.toNat:Nat):Int) 1==(1:Int))=s.getLsbD 0:=by
 have h:bits .u32 .and ((s.toNat:Nat):Int) 1=(((s &&& 1#32).toNat:Nat):Int):=by
  show wrap .u32 (((a00 32 _ &&& a00 32 1).toNat:Nat):Int)=_;rw[d0T,show a00 32 1=1#32 from rfl,d3S]
 rw[h,a47,show(1#32).toNat=1 from rfl,Nat.and_one_is_mod,a69,Nat.testBit_zero]
 grind
theorem d5A(s:BitVec 32):A0o .u32 ((s.toNat:Nat):Int) 1=(((s >>> 1).toNat:Nat):Int):=by
 unfold A0o;rw[show min (a30 1) (IntKind.bits .u32)=1 from rfl,a55 _ (by simp),BitVec.toNat_ushiftRight,Nat.shiftRight_eq_div_pow];rfl
def e32(s:Int):Int:=bif (bits .u32 .and s 1)==(1:Int)then bits .u32 .xor (A0o .u32 s 1) 3988292384 else A0o .u32 s 1
theorem d3T(s:BitVec 32):e32 ((s.toNat:Nat):Int)=(((c32 s).toNat:Nat):Int):=by
 unfold e32 c32;rw[d5z,d5A,show(3988292384:Int)=(((0xedb88320#32).toNat:Nat):Int)from rfl,c7H]
 grind
theorem c4c:∀(k:Nat)(s:BitVec 32),rep e32 k ((s.toNat:Nat):Int)=(((d0R k s).toNat:Nat):Int)
 |0,_=>rfl
 |k+1,s=>by
  rw[show rep e32 (k+1) ((s.toNat:Nat):Int)=rep e32 k (e32 ((s.toNat:Nat):Int))from rfl,d3T,c4c k];rfl
def d3U(l:List Int):BitVec 32:=d3R 0xffffffff#32 (l.map (a00 32))
def a4p(l:List Int):Nat:=(~~~ d3U l).toNat
theorem b4P(l:List Int):a4p l<4294967296:=(~~~ d3U l).isLt
@[reducible] def b5T:Type:=a0I×(Int×(Int×(List (Int×(Int×Unit))×(List a1c×Unit))))
def mkT(fm:a0I)(xs:List Pc):b5T:=(fm,((a1m xs:Nat):Int),((a2B fm xs:Nat):Int),a2W 0 0 xs,xs.map (·.1),())
def nsP(xs:List Pc):List Nat:=xs.flatMap fun x=>[x.2.2.length,a0K x.2.1]
def a3R(fm:a0I)(xs:List Pc):List Nat:=[fm.1.toNat,fm.2.1.toNat,fm.2.2.1.toNat,xs.length]++nsP xs
def b7I:List Int:=[75,78,83,68]
def a1t(fm:a0I)(xs:List Pc):List Int:=b7I++((a3R fm xs).flatMap a0L++a7F 8 (a2B fm xs))
def a5N(fm:a0I)(xs:List Pc):List Int:=a1t fm xs++(a7F 4 (a4p (a1t fm xs))++a0V xs)
def a1J(l:List Int)(ch st en:Nat):List Int:=(l.take (en*ch)).drop (st*ch)
theorem c1j{l:List Int}{ch st en:Nat}(h:en*ch≤l.length):(a1J l ch st en).length=(en-st)*ch:=by
 simp_all[a1J,a85]
theorem c8X{l:List Int}{ch st en:Nat}(h:st≤en):l.take (st*ch)++a1J l ch st en=l.take (en*ch):=by
 grind[a1J,a03,List.take_append_drop]
theorem c8Y{l:List Int}{p:Int→Bool}{ch st en:Nat}(h:l.all p=true):(a1J l ch st en).all p=true:=
 lA.2 fun x g=>lA.1 h x (a70 (a71 g))
theorem b4b(h:List Pc):(nsP h).length=2*h.length:=by
 induction h with
 |nil=>rfl
 |cons x h ih=>grind[nsP]
theorem d0U(h:List Pc)(x:Pc):nsP (h++[x])=nsP h++[x.2.2.length,a0K x.2.1]:=by simp[nsP]
theorem c1k{fm:a0I}:∀{xs:List Pc}{st:Nat},a2V fm st xs→∀n∈nsP xs,n<1048704
 | [],_,_,n,hn=>by simp[nsP]at hn
 |x::xs,st,h,n,hn=>by
  have g:=h.1.2.2.2.2.2.2.2.2;simp only[nsP,a31,mA,mC,a48,or_false]at hn;rcases hn with(rfl|rfl)|hn;omega;omega;exact c1k h.2 n hn
theorem b5U{fm:a0I}:∀{xs:List Pc}{st:Nat},a2V fm st xs→xs.length≤a1m xs∧a1m xs≤64*xs.length
 | [],_,_=>by simp[a1m]
 |x::xs,st,h=>by
  have g:=h.1.2.2.2.2.2.2.1.2.2.2.2.1;have f:=h.1.2.2.2.2.2.2.2.2.1
  have:=b5U h.2
  simp only[a1m,a37,List.sum_cons,lC]at *;omega
theorem b3s:∀(l:List Nat),(∀n∈l,n<9223372036854775808)→(l.flatMap a0L).length≤9*l.length
 | [],_=>by simp
 |n::l,h=>by
  have:=(a8L (h n (by simp))).2
  have:=b3s l fun m g=>h m (by simp[g])
  simp only[a31,lN,lC];omega
theorem a7B{fm:a0I}(f:a2k fm){xs:List Pc}(h:a2V fm 0 xs)(i:xs.length≤256):∀n∈a3R fm xs,n<1048704:=fun n g=>by
 simp only[a3R,mA,mC,a48,or_false]at g;obtain⟨k,a,b,c,d,e⟩:=f;rcases g with(rfl|rfl|rfl|rfl)|g;omega;omega;omega;omega;exact c1k h n g
theorem c1l{fm:a0I}(g:a2k fm){xs:List Pc}(h:a2V fm 0 xs)(k:xs.length≤256):(a1t fm xs).length≤6000:=by
 have a:=b3s (a3R fm xs) fun n f=>a07 (a7B g h k n f) (by simp)
 grind[a3R,b4b,a1t,b7I,a9C]
def a9D(y0 d q r:Nat):Prop:=4294967296≤q∨4294967296*r+d<q*y0
instance (y0 d q r:Nat):Decidable (a9D y0 d q r):=inferInstanceAs (Decidable (_∨_))
def b5V(u d y1 y0:Nat):Nat:=
 if a9D y0 d (u / y1) (u%y1)then
  if 4294967296≤u%y1+y1 then u / y1-1
  else if a9D y0 d (u / y1-1) (u%y1+y1)then u / y1-2 else u / y1-1
 else u / y1
theorem d2y{u d y1 y0:Nat}(t:2147483648≤y1)(p:y0<4294967296)(w:u<y1*4294967296+y0)(v:d<4294967296):
  b5V u d y1 y0=(u*4294967296+d) / (y1*4294967296+y0):=by
 have hp:0<y1:=by omega
 have e:u=u / y1*y1+u%y1:=(Nat.div_add_mod' u y1).symm;have s:=a09 u hp;have j:u / y1≤4294967297:=by
  have:u / y1<4294967298:=(a67 hp).2 (by omega)
  omega
 have y:u*4294967296+d<(u / y1+1)*(y1*4294967296+y0):=by
  grind
 have over:∀{q r:Nat},u=q*y1+r→a9D y0 d q r→u*4294967296+d<q*(y1*4294967296+y0):=by
  intro q r g f;rcases f with f|f
  have:=a03 (y1*4294967296+y0) f
  omega
  grind
 have fits:∀{q r:Nat},u=q*y1+r→¬ a9D y0 d q r→q*(y1*4294967296+y0)≤u*4294967296+d:=
  fun g f=>c8U g (Nat.le_of_not_lt fun h=>f (.inr h))
 have i:∀{q r:Nat},u=q*y1+r→q≤4294967296→4294967296≤r→q*(y1*4294967296+y0)≤u*4294967296+d:=by
  intro q r g j s;refine c8U g ?_
  have a:=a06 j (a51 p);omega
 unfold b5V;generalize u / y1=q at *;generalize u%y1=r at *;have done:∀{m:Nat},m*(y1*4294967296+y0)≤u*4294967296+d→u*4294967296+d<(m+1)*(y1*4294967296+y0)→m=(u*4294967296+d) / (y1*4294967296+y0):=
  fun a b=>(Nat.div_eq_of_lt_le a b).symm
 by_cases c:a9D y0 d q r
 rw[if_pos c];have o:=over e c;have q1:1≤q:=a76 fun z=>by grind
 obtain⟨q,rfl⟩:∃k,q=k+1:=⟨q-1,by omega⟩;rw[Nat.add_sub_cancel];have l:u=q*y1+(r+y1):=by grind
 by_cases c1:4294967296≤r+y1
 grind
 rw[if_neg c1]
 by_cases c2:a9D y0 d q (r+y1)
 rw[if_pos c2];have o1:=over l c2;have x:1≤q:=a76 fun z=>by grind
 obtain⟨q,rfl⟩:∃k,q=k+1:=⟨q-1,by omega⟩;have n:u=q*y1+(r+y1+y1):=by grind
 exact done (m:=q) (i n (by omega) (by omega)) o1
 grind
 grind
theorem d3V(hi lo:Nat):
  (((hi*8+lo / 2305843009213693952)*4294967296+lo*8%18446744073709551616 / 4294967296)%18446744073709551608*4294967296+lo*8%18446744073709551616%4294967296)%18446744073709551608 / 8
   = (hi*18446744073709551616+lo)%prm:=by
 have e:((hi*8+lo / 2305843009213693952)*4294967296+lo*8%18446744073709551616 / 4294967296)*4294967296+lo*8%18446744073709551616%4294967296=(hi*18446744073709551616+lo)*8:=by omega
 rw[d2u,e];exact c8V _ 8 prm (by simp)
theorem d0V{hi lo:Nat}(h:hi<prm)(g:lo<18446744073709551616):hi*8+lo / 2305843009213693952<4294967295*4294967296+4294967288:=by
 unfold prm at h;omega
theorem c8Z{a b c:Nat}(h:a<prm)(hb:b<prm)(g:c≤prm):(a*b+c) / 18446744073709551616<prm:=by
 have:=a06 (a72 h) (a72 hb)
 unfold prm at *;omega
theorem d3W{a b x0 x1 y0 y1 t:Nat}(k:x0=a%4294967296)(c:x1=a / 4294967296)(d:y0=b%4294967296)(i:y1=b / 4294967296)(r:t=x1*y0+x0*y0 / 4294967296)
  (n:a<18446744073709551616)(hb:b<18446744073709551616):
  x1*y1+t / 4294967296+(t%4294967296+x0*y1) / 4294967296=a*b / 18446744073709551616∧x0*y0<18446744073709551616∧t<18446744073709551616∧t%4294967296+x0*y1<18446744073709551616:=by
 have j:a=x1*4294967296+x0:=by omega
 have l:b=y1*4294967296+y0:=by omega
 have e:a*b=x1*y1*18446744073709551616+(x1*y0+x0*y1)*4294967296+x0*y0:=by
  grind
 have m:∀{p q:Nat},p<4294967296→q<4294967296→p*q≤4294967295*4294967295:=fun hp o=>a06 (by omega) (by omega);have h:=m (show x0<4294967296 by omega) (show y0<4294967296 by omega);have f:=m (show x1<4294967296 by omega) (show y0<4294967296 by omega);have g:=m (show x0<4294967296 by omega) (show y1<4294967296 by omega);omega
theorem c7I(n:Nat):wrap .u64 (n:Int)=((n%18446744073709551616:Nat):Int):=by
 rfl
theorem c4d{n k:Nat}(h:k≤64):A0o .u64 (n:Int) (k:Int)=((n / 2^k:Nat):Int):=by
 have g:min (a30 (k:Int)) (IntKind.bits .u64)=k:=by simp_all[IntKind.bits]
 unfold A0o
 grind
theorem c9a(n:Nat):A0o .u64 (n:Int) 32=((n / 4294967296:Nat):Int):=c4d (k:=32) (by omega)
theorem d1K(n:Nat):bits .u64 .and (n:Int) 4294967295=((n%4294967296:Nat):Int):=by
 show wrap .u64 (((a00 64 (n:Int) &&& a00 64 4294967295).toNat:Nat):Int)=_;have g:(a00 64 4294967295).toNat=4294967295:=rfl;have h:(a00 64 (n:Int)).toNat=n%18446744073709551616:=by rfl
 rw[a47,h,g,show 4294967295=2^32-1 from rfl,a28,c7I];omega
theorem d8r{a b:Nat}(f:a<2305843009213693952)(hb:b<8):bits .u64 .or ((a*8:Nat):Int) (b:Int)=((a*8+b:Nat):Int):=by
 show wrap .u64 (((a00 64 ((a*8:Nat):Int) ||| a00 64 (b:Int)).toNat:Nat):Int)=_;have h:(a00 64 ((a*8:Nat):Int)).toNat=2^3*a:=by grind[a27]
 have g:(a00 64 (b:Int)).toNat=b:=by grind
 rw[a89,h,g,←a52 (i:=3) hb a,c7I];omega
theorem d0W{a b:Nat}(f:a<18446744073709551616)(hb:b<18446744073709551616):a5Y ((a:Int),(b:Int))=some (((a*b / 18446744073709551616:Nat):Int),((a*b%18446744073709551616:Nat):Int)):=by
 obtain⟨k,c,d,e⟩:=d3W (a:=a) (b:=b) rfl rfl rfl rfl rfl f hb;unfold a5Y;simp only[c9a,d1K,←a91,←Int.natCast_add,c7I,sj,pJ,Int.natCast_inj];refine⟨?_,trivial⟩
 revert k c d e
 generalize a%4294967296*(b%4294967296)=p00;generalize a / 4294967296*(b%4294967296)=p10;generalize a%4294967296*(b / 4294967296)=p01;have i:a*b / 18446744073709551616<18446744073709551616:=a73 (Nat.lt_of_le_of_lt (a06 (a51 f) (a51 hb)) (by omega:18446744073709551616*18446744073709551616<18446744073709551616*18446744073709551616+1) |> fun h=>by
  rcases Nat.lt_or_ge (a*b) (18446744073709551616*18446744073709551616)with g|g;omega
  have:=Nat.mul_lt_mul_of_lt_of_le f (a51 hb) (by omega);omega)
 omega
theorem b6W{α:Type}(p:Prop)[Decidable p](a b:α):(bif decide p then a else b)=if p then a else b:=by
 simp
theorem d3X:a3T 2305843009213693951=some 3:=by rfl
theorem c7J{u d q:Nat}(h:q=b5V u d 4294967295 4294967288)(f:u<4294967295*4294967296+4294967288)(g:d<4294967296):q*18446744073709551608≤u*4294967296+d∧u*4294967296+d<q*18446744073709551608+18446744073709551608∧q<4294967296:=by
 grind[d2y]
theorem b6X{u d u0 q r:Nat}{s:Int}(c:d<4294967296)(e:q≤4294967297)(i:r<4294967296):a2e ((18446744073709551608:Int),s,(4294967295:Int),(4294967288:Int),(u:Int),(d:Int),(u0:Int),(q:Int),(r:Int),()) =
  if a9D 4294967288 d q r then(if 4294967296≤r+4294967295 then some (.inr ((18446744073709551608:Int),s,(4294967295:Int),(4294967288:Int),(u:Int),(d:Int),(u0:Int),((q-1:Nat):Int),()))else some (.inl ((18446744073709551608:Int),s,(4294967295:Int),(4294967288:Int),(u:Int),(d:Int),(u0:Int),((q-1:Nat):Int),((r+4294967295:Nat):Int),())))else some (.inr ((18446744073709551608:Int),s,(4294967295:Int),(4294967288:Int),(u:Int),(d:Int),(u0:Int),(q:Int),())):=by
 have a:wrap .u64 ((q:Int)-1)=(((q-1:Nat)):Int)∨q=0:=by
  rcases a77 q with h|h;exact .inr h;left;rw[a0M (by omega)];omega
 have f:wrap .u64 ((r:Int)+4294967295)=((r+4294967295:Nat):Int):=by rw[a0M (by omega)];omega
 have k:decide (wrap .u64 ((r:Int)+4294967295)≥(4294967296:Int))=decide (4294967296≤r+4294967295):=by
  rw[f];exact decide_eq_decide.2 (by omega)
 have tail:q≠0→(bif decide (wrap .u64 ((r:Int)+4294967295)≥(4294967296:Int))then(some (.inr ((18446744073709551608:Int),s,(4294967295:Int),(4294967288:Int),(u:Int),(d:Int),(u0:Int),(wrap .u64 ((q:Int)-1)),())):Option (_ ⊕ (Int×Int×Int×Int×Int×Int×Int×Int×Unit)))else some (.inl ((18446744073709551608:Int),s,(4294967295:Int),(4294967288:Int),(u:Int),(d:Int),(u0:Int),(wrap .u64 ((q:Int)-1)),(wrap .u64 ((r:Int)+4294967295)),()))) =
   (if 4294967296≤r+4294967295 then some (.inr ((18446744073709551608:Int),s,(4294967295:Int),(4294967288:Int),(u:Int),(d:Int),(u0:Int),((q-1:Nat):Int),()))else some (.inl ((18446744073709551608:Int),s,(4294967295:Int),(4294967288:Int),(u:Int),(d:Int),(u0:Int),((q-1:Nat):Int),((r+4294967295:Nat):Int),()))):=fun b=>by
  rw[k,a.resolve_right b,f];exact b6W ..
 by_cases h1:4294967296≤q
 have c0:decide ((q:Int)≥(4294967296:Int))=true:=decide_eq_true (by omega);rw[if_pos (.inl h1),←tail (by omega)];unfold a2e;dsimp only;rw[c0,cT,oB];have c0:decide ((q:Int)≥(4294967296:Int))=false:=decide_eq_false (by omega);have j:wrap .u64 ((q:Int)*4294967288)=((q*4294967288:Nat):Int):=by rw[a0M (by omega)];omega
 have l:wrap .u64 (wrap .u64 ((4294967296:Int)*(r:Int))+(d:Int))=((4294967296*r+d:Nat):Int):=by rw[a0M (n:=4294967296*(r:Int)) (by omega),a0M (by omega)];omega
 by_cases h2:4294967296*r+d<q*4294967288
 have g:decide (wrap .u64 ((q:Int)*4294967288) > wrap .u64 (wrap .u64 ((4294967296:Int)*(r:Int))+(d:Int)))=true:=decide_eq_true (by omega);rw[if_pos (.inr h2),←tail (by omega)];unfold a2e;dsimp only;rw[c0,cF,g,cT,oB];have g:decide (wrap .u64 ((q:Int)*4294967288) > wrap .u64 (wrap .u64 ((4294967296:Int)*(r:Int))+(d:Int)))=false:=decide_eq_false (by omega);rw[if_neg (by unfold a9D;omega)];unfold a2e;dsimp only;rw[c0,cF,g,cF,oB]
theorem d3Y{u d u0:Nat}{s:Int}(k:u<4294967295*4294967296+4294967288)(f:d<4294967296):
  y0s a2e ((18446744073709551608:Int),s,(4294967295:Int),(4294967288:Int),(u:Int),(d:Int),(u0:Int),((u / 4294967295:Nat):Int),((u%4294967295:Nat):Int),())=some ((18446744073709551608:Int),s,(4294967295:Int),(4294967288:Int),(u:Int),(d:Int),(u0:Int),((b5V u d 4294967295 4294967288:Nat):Int),()):=by
 have h:u / 4294967295≤4294967297:=by omega
 have g:u%4294967295<4294967295:=a09 _ (by omega);unfold b5V
 revert h g
 generalize u / 4294967295=q;generalize u%4294967295=r;intro h g;have s0:=b6X (u0:=u0) (s:=s) (u:=u) f h (a83 g)
 by_cases c1:a9D 4294967288 d q r
 ·rw[if_pos c1]at s0⊢
  by_cases c2:4294967296≤r+4294967295
  simp_all[a0F]
  ·rw[if_neg c2]at s0⊢;rw[a0E s0];have a:=b6X (u0:=u0) (s:=s) (u:=u) (q:=q-1) (r:=r+4294967295) f (by omega) (by omega)
   by_cases c3:a9D 4294967288 d (q-1) (r+4294967295)
   all_goals simp_all[Nat.sub_sub,a0F]
 simp_all[a0F]
theorem b6Y{u d q r:Nat}{s q1:Int}(c:d<4294967296)(e:q≤4294967297)(i:r<4294967296):a2f ((18446744073709551608:Int),s,(4294967295:Int),(4294967288:Int),(d:Int),q1,(r:Int),(u:Int),(q:Int),()) =
  if a9D 4294967288 d q r then(if 4294967296≤r+4294967295 then some (.inr ((18446744073709551608:Int),s,(d:Int),q1,(u:Int),((q-1:Nat):Int),()))else some (.inl ((18446744073709551608:Int),s,(4294967295:Int),(4294967288:Int),(d:Int),q1,((r+4294967295:Nat):Int),(u:Int),((q-1:Nat):Int),())))else some (.inr ((18446744073709551608:Int),s,(d:Int),q1,(u:Int),(q:Int),())):=by
 have a:wrap .u64 ((q:Int)-1)=(((q-1:Nat)):Int)∨q=0:=by
  rcases a77 q with h|h;exact .inr h;left;rw[a0M (by omega)];omega
 have f:wrap .u64 ((r:Int)+4294967295)=((r+4294967295:Nat):Int):=by rw[a0M (by omega)];omega
 have k:decide (wrap .u64 ((r:Int)+4294967295)≥(4294967296:Int))=decide (4294967296≤r+4294967295):=by
  rw[f];exact decide_eq_decide.2 (by omega)
 have tail:q≠0→(bif decide (wrap .u64 ((r:Int)+4294967295)≥(4294967296:Int))then(some (.inr ((18446744073709551608:Int),s,(d:Int),q1,(u:Int),(wrap .u64 ((q:Int)-1)),())):Option (_ ⊕ (Int×Int×Int×Int×Int×Int×Unit)))else some (.inl ((18446744073709551608:Int),s,(4294967295:Int),(4294967288:Int),(d:Int),q1,(wrap .u64 ((r:Int)+4294967295)),(u:Int),(wrap .u64 ((q:Int)-1)),()))) =
   (if 4294967296≤r+4294967295 then some (.inr ((18446744073709551608:Int),s,(d:Int),q1,(u:Int),((q-1:Nat):Int),()))else some (.inl ((18446744073709551608:Int),s,(4294967295:Int),(4294967288:Int),(d:Int),q1,((r+4294967295:Nat):Int),(u:Int),((q-1:Nat):Int),()))):=fun b=>by
  rw[k,a.resolve_right b,f];exact b6W ..
 by_cases h1:4294967296≤q
 have c0:decide ((q:Int)≥(4294967296:Int))=true:=decide_eq_true (by omega);rw[if_pos (.inl h1),←tail (by omega)];unfold a2f;dsimp only;rw[c0,cT,oB];have c0:decide ((q:Int)≥(4294967296:Int))=false:=decide_eq_false (by omega);have j:wrap .u64 ((q:Int)*4294967288)=((q*4294967288:Nat):Int):=by rw[a0M (by omega)];omega
 have l:wrap .u64 (wrap .u64 ((4294967296:Int)*(r:Int))+(d:Int))=((4294967296*r+d:Nat):Int):=by rw[a0M (n:=4294967296*(r:Int)) (by omega),a0M (by omega)];omega
 by_cases h2:4294967296*r+d<q*4294967288
 have g:decide (wrap .u64 ((q:Int)*4294967288) > wrap .u64 (wrap .u64 ((4294967296:Int)*(r:Int))+(d:Int)))=true:=decide_eq_true (by omega);rw[if_pos (.inr h2),←tail (by omega)];unfold a2f;dsimp only;rw[c0,cF,g,cT,oB];have g:decide (wrap .u64 ((q:Int)*4294967288) > wrap .u64 (wrap .u64 ((4294967296:Int)*(r:Int))+(d:Int)))=false:=decide_eq_false (by omega);rw[if_neg (by unfold a9D;omega)];unfold a2f;dsimp only;rw[c0,cF,g,cF,oB]
theorem d3Z{u d:Nat}{s q1:Int}(k:u<4294967295*4294967296+4294967288)(f:d<4294967296):
  y0s a2f ((18446744073709551608:Int),s,(4294967295:Int),(4294967288:Int),(d:Int),q1,((u%4294967295:Nat):Int),(u:Int),((u / 4294967295:Nat):Int),())=some ((18446744073709551608:Int),s,(d:Int),q1,(u:Int),((b5V u d 4294967295 4294967288:Nat):Int),()):=by
 have h:u / 4294967295≤4294967297:=by omega
 have g:u%4294967295<4294967295:=a09 _ (by omega);unfold b5V
 revert h g
 generalize u / 4294967295=q;generalize u%4294967295=r;intro h g;have s0:=b6Y (s:=s) (q1:=q1) (u:=u) f h (a83 g)
 by_cases c1:a9D 4294967288 d q r
 ·rw[if_pos c1]at s0⊢
  by_cases c2:4294967296≤r+4294967295
  simp_all[a0F]
  ·rw[if_neg c2]at s0⊢;rw[a0E s0];have a:=b6Y (s:=s) (q1:=q1) (u:=u) (q:=q-1) (r:=r+4294967295) f (by omega) (by omega)
   by_cases c3:a9D 4294967288 d (q-1) (r+4294967295)
   all_goals simp_all[Nat.sub_sub,a0F]
 simp_all[a0F]
theorem d5B(n:Int):wrap .u64 n=n%18446744073709551616:=by rfl
theorem d2z{u d Q:Nat}(h:Q*18446744073709551608≤u*4294967296+d)(g:u*4294967296+d<Q*18446744073709551608+18446744073709551608):
  wrap .u64 (wrap .u64 (wrap .u64 ((u:Int)*4294967296)+(d:Int))-wrap .u64 ((Q:Int)*18446744073709551608))=(((u*4294967296+d)%18446744073709551608:Nat):Int):=by
 grind[d5B]
theorem c5T{u:Nat}(h:u<18446744073709551616):wrap .u64 ((u:Int)-wrap .u64 (((u / 4294967295:Nat):Int)*4294967295))=((u%4294967295:Nat):Int):=by
 grind[a0M]
theorem sh3(n:Nat):A0n .u64 (n:Int) 3=((n*8%18446744073709551616:Nat):Int):=by
 rfl
theorem d0X(lo:Nat):a2Y (0,(lo:Int),(2305843009213693951:Int))=some (wrap .u64 (a23 (lo:Int) 2305843009213693951),((lo%2305843009213693951:Nat):Int)):=by
 rfl
theorem d5C:wrap .u64 3=3:=by rfl
theorem d4a:wrap .u64 (64-3)=((61:Nat):Int):=by rfl
theorem d5D:A0n .u64 2305843009213693951 3=18446744073709551608:=by rfl
theorem d5E:A0o .u64 18446744073709551608 32=4294967295:=by rfl
theorem d5F:bits .u64 .and 18446744073709551608 4294967295=4294967288:=by rfl
theorem d5G:((2305843009213693951:Int)==0)=false:=by rfl
theorem d5H:decide ((3:Int)<0)=false:=by rfl
theorem d5I:decide (((61:Nat):Int)<0)=false:=by rfl
theorem d5J:((4294967295:Int)==0)=false:=by rfl
theorem c9b{u d Q v:Nat}(hv:(u*4294967296+d)%18446744073709551608=v)(h:Q*18446744073709551608≤u*4294967296+d)(g:u*4294967296+d<Q*18446744073709551608+18446744073709551608):
  wrap .u64 (wrap .u64 (wrap .u64 ((u:Int)*4294967296)+(d:Int))-wrap .u64 ((Q:Int)*18446744073709551608))=(v:Int):=by
 simp_all[d2z]
theorem d1L{u:Nat}(h:u<18446744073709551616):wrap .u64 ((u / 4294967295:Nat):Int)=((u / 4294967295:Nat):Int):=a0M (by omega)
theorem d2A{hi lo u d e v r:Nat}(hv:(u*4294967296+d)%18446744073709551608=v)(m:(v*4294967296+e)%18446744073709551608=r)(y:hi≠0)(z:hi<2305843009213693951)(o:hi*8+lo / 2305843009213693952=u)(i:lo*8%18446744073709551616 / 4294967296=d)(j:lo*8%18446744073709551616%4294967296=e)(A:lo<18446744073709551616)
  (h:u<4294967295*4294967296+4294967288)(f:d<4294967296)(a:e<4294967296):
  ∃q:Int,a2Y ((hi:Int),(lo:Int),(2305843009213693951:Int))=some (q,((r / 8:Nat):Int)):=by
 have c0:((hi:Int)==0)=false:=by simp_all
 have b:decide ((2305843009213693951:Int)≤(hi:Int))=false:=decide_eq_false (by omega);have c:hi*8%18446744073709551616=hi*8:=by omega
 have l:bits .u64 .or ((hi*8:Nat):Int) (A0o .u64 (lo:Int) ((61:Nat):Int))=(u:Int):=by
  rw[c4d (k:=61) (by omega),show 2^61=2305843009213693952 from rfl,d8r (by omega) (by omega),o]
 have p:=d3Y (u0:=e) (s:=3) h f;have B:=c9b hv (c7J rfl h f).1 (c7J rfl h f).2.1;have g:v<4294967295*4294967296+4294967288:=by grind
 have l1:=d3Z (s:=3) (q1:=((b5V u d 4294967295 4294967288:Nat):Int)) g a;have C:=c9b m (c7J rfl g a).1 (c7J rfl g a).2.1;have t:=c5T (u:=u) (a07 h (by simp));have r2:=c5T (u:=v) (a07 g (by simp));have w:wrap .u64 ((u / 4294967295:Nat):Int)=((u / 4294967295:Nat):Int):=d1L (a07 h (by simp));have x:wrap .u64 ((v / 4294967295:Nat):Int)=((v / 4294967295:Nat):Int):=d1L (a07 g (by simp));have q1:a23 (u:Int) 4294967295=((u / 4294967295:Nat):Int):=rfl;have D:a23 (v:Int) 4294967295=((v / 4294967295:Nat):Int):=rfl;have g8:∀n:Nat,A0o .u64 (n:Int) 3=((n / 8:Nat):Int):=fun n=>c4d (k:=3) (by omega);unfold a2Y;dsimp only;rw[d5G,cF,b,cF,c0,cF,d3X,oB,d5C,d5H,cF,cF,d4a,d5I,cF,cF,d5D,d5E,d5J,cF,d5F,sh3 hi,c,l,sh3 lo,c9a,i,d1K,j,q1,w,t,p,oB];simp_all
theorem d2B{hi lo:Nat}(h:hi<prm)(g:lo<18446744073709551616):∃q:Int,a2Y ((hi:Int),(lo:Int),(2305843009213693951:Int))=some (q,(((hi*18446744073709551616+lo)%prm:Nat):Int)):=by
 by_cases h0:hi=0
 subst h0;rw[Nat.zero_mul,a33];exact⟨_,d0X lo⟩;rw[←d3V hi lo];exact d2A rfl rfl h0 h rfl rfl rfl g (d0V h g) (a73 (Nat.lt_of_lt_of_le (a09 _ (by omega)) (by omega))) (a09 _ (by omega))
theorem b6i{a b c:Nat}(g:a<prm)(hb:b<prm)(f:c≤prm):a5P ((a:Int),(b:Int),(c:Int))=some (((a*b+c)%prm:Nat):Int):=by
 have k:=c8Z g hb f;unfold prm at g hb f k;have l:=d0W (a:=a) (b:=b) (by omega) (by omega);have j:a8R (((a*b%18446744073709551616:Nat):Int),(c:Int),(0:Int))=some ((((a*b%18446744073709551616+c)%18446744073709551616:Nat):Int),(((a*b%18446744073709551616+c) / 18446744073709551616:Nat):Int)):=rfl;obtain⟨hi,h⟩:∃hi,(a*b+c) / 18446744073709551616=hi:=⟨_,rfl⟩;rw[h]at k;have i:wrap .u64 (((a*b / 18446744073709551616:Nat):Int)+((a*b%18446744073709551616+c) / 18446744073709551616:Nat))=(hi:Int):=by
  grind[a0M]
 obtain⟨q,d⟩:=d2B (hi:=hi) (lo:=(a*b%18446744073709551616+c)%18446744073709551616) (by unfold prm;omega) (by omega);have e:hi*18446744073709551616+(a*b%18446744073709551616+c)%18446744073709551616=a*b+c:=by omega
 rw[e]at d;have t:a39 (hi:Int) 2305843009213693951=(hi:Int):=by
  grind
 unfold a5P a8S;simp_all
theorem b6Z(l:List Int)(n i:Int):∀(j k:Nat)(s:Int),k+j=8→y0s a7C (s,l,n,i,(k:Int),())=some (rep e32 j s,l,n,i,())
 |0,k,s,h=>by
  obtain rfl:k=8:=by omega
  rfl
 |j+1,k,s,h=>by
  have d:decide ((k:Int)<8)=true:=by grind
  rw[a0E (s':=(e32 s,l,n,i,((k+1:Nat):Int),())) (by
   simp only[a7C,d,cT,a0C (show k<1000000 by omega),e32]
   grind)]
  exact b6Z l n i j (k+1) (e32 s) (by omega)
theorem b8V{l:List Int}(k:short l):∀(rest done:List Int)(s:BitVec 32),done++rest=l→(∀b∈rest,0≤b∧b<256)→
  y0s a4Y (((s.toNat:Nat):Int),l,(l.length:Int),(done.length:Int),())=some ((((d3R s (rest.map (a00 32))).toNat:Nat):Int),())
 | [],done,s,hd,_=>by
  obtain rfl:done=l:=by simp_all
  exact a0F (by simp only[a4Y,dge,cF];rfl)
 |x::rest,done,s,hd,hb=>by
  have g:done.length<l.length:=by grind
  have a:m0k l (done.length:Int)=some x:=by grind[a0D]
  have c:=hb x (by simp);have e:bits .u32 .xor ((s.toNat:Nat):Int) (wrap .u32 x)=(((s ^^^ a00 32 x).toNat:Nat):Int):=by
   rw[←c7H]
   grind[a27,wrap,IntKind.bits]
  have f:=b6Z l (l.length:Int) (done.length:Int) 8 0 (bits .u32 .xor ((s.toNat:Nat):Int) (wrap .u32 x)) rfl;rw[e,c4c]at f;rw[a0E (s':=((((d0S s (a00 32 x)).toNat:Nat):Int),l,(l.length:Int),(((done++[x]).length:Nat):Int),())) (by
   simp only[a4Y,dlt g,cT,a,oB,e]
   erw[f]
   simp only[oB,a0C (a07 g k)];simp[d0S])]
  exact b8V k rest (done++[x]) _ (by simp_all) (fun b h=>hb b (by grind))
theorem b5W{l:List Int}(g:short l)(hb:∀b∈l,0≤b∧b<256):a4F l=some ((a4p l:Nat):Int):=by
 have h:=b8V g l [] 0xffffffff#32 rfl hb;rw[a21]at h;unfold a4F
 erw[h]
 simp only[oB];rw[show IntKind.max .u32=(((0xffffffff#32).toNat:Nat):Int)from rfl,c7H];rfl
theorem b8W{l:List Int}(k:short l):∀(rest done:List Int)(h:Nat),done++rest=l→h<prm→(∀b∈rest,0≤b∧b<256)→
  y0s a7M ((h:Int),l,(l.length:Int),(done.length:Int),())=some (((prs h (rest.map a30):Nat):Int),())
 | [],done,h,hd,_,_=>by
  obtain rfl:done=l:=by simp_all
  exact a0F (by simp only[a7M,dge,cF];rfl)
 |x::rest,done,h,hd,hh,hb=>by
  have g:done.length<l.length:=by grind
  have d:m0k l (done.length:Int)=some x:=by grind[a0D]
  have i:=hb x (by simp);have e:wrap .u64 ((wrap .u64 x)+(1:Int))=((x.toNat+1:Nat):Int):=by grind[a0M]
  have f:=b6i (a:=h) (b:=1000003) (c:=x.toNat+1) hh (by decide) (by unfold prm;omega);rw[a0E (s':=((((h*1000003+(x.toNat+1))%prm:Nat):Int),l,(l.length:Int),(((done++[x]).length:Nat):Int),())) (by
   simp only[a7M,dlt g,cT,d,oB,e]
   erw[f]
   simp[a0C (a07 g k)])]
  exact b8W k rest (done++[x]) _ (by simp_all) (a09 _ (by decide)) (fun b h=>hb b (by grind))
theorem c4e{l:List Int}(g:short l)(hb:∀b∈l,0≤b∧b<256):a7Y l=some ((prI l:Nat):Int):=by
 have h:=b8W g l [] 0 rfl (by decide) hb;unfold a7Y
 erw[h]
 rfl
theorem b4Q:∀(k n p s:Nat),n<2^k→n<4611686018427387904→p<prm→s<prm→y0s a7L ((n:Int),(p:Int),(s:Int),())=some (((pwr k n p s:Nat):Int),())
 |0,n,p,s,hn,_,_,_=>by
  obtain rfl:n=0:=by omega
  rfl
 |k+1,n,p,s,hn,hn2,hp,hs=>by
  by_cases h0:n=0
  subst h0;rfl;have d:decide ((n:Int) > 0)=true:=by grind
  have f:a39 (n:Int) 2=((n%2:Nat):Int):=rfl;have e:wrap .i64 (a23 (n:Int) 2)=((n / 2:Nat):Int):=by rw[show a23 (n:Int) 2=((n / 2:Nat):Int)from rfl,a0B (by omega)]
  have g:=b6i (c:=0) hs hs (by simp);have h:=b6i (c:=0) hp hs (by simp);have a:n / 2<2^k:=by omega
  simp only[a80,nZ]at g h;have m:=a09 (s*s) (show 0<prm by decide);rw[pwr,if_neg h0]
  by_cases h1:n%2=1
  rw[if_pos h1,a0E (s':=(((n / 2:Nat):Int),((p*s%prm:Nat):Int),((s*s%prm:Nat):Int),())) (by
   simp only[a7L,d,cT,f,h1,show(((1:Nat):Int)==1)=true from rfl];simp_all)]
  exact b4Q k _ _ _ a (by omega) (a09 _ (by decide)) m;have b:n%2=0:=by omega
  rw[if_neg h1,a0E (s':=(((n / 2:Nat):Int),(p:Int),((s*s%prm:Nat):Int),())) (by
   simp only[a7L,d,cT,f,b,show(((0:Nat):Int)==1)=false from rfl,cF,oB];simp_all)]
  exact b4Q k _ _ _ a (by omega) hp m
theorem c5U{a b n:Nat}(f:a<prm)(hb:b<prm)(h:n<4611686018427387904):a9e ((a:Int),(b:Int),(n:Int))=some ((((a*(1000003^n%prm)+b)%prm:Nat):Int),true):=by
 have hp:=b4Q 62 n 1 1000003 h h (by decide) (by decide);rw[d3Q 62 n 1 1000003 h (by decide),Nat.one_mul]at hp;have j:=b6i (c:=b) f (a09 (1000003^n) (show 0<prm by decide)) (a51 hb);unfold prm at f hb;have k:decide ((a:Int)≥(2305843009213693951:Int))=false:=by grind
 have d:decide ((b:Int)≥(2305843009213693951:Int))=false:=by grind
 have e:decide ((n:Int)<(0:Int))=false:=by simp
 have i:v0r (n:Int) 0=(n:Int):=by rfl
 have g:a9U (n:Int)=some ((1000003^n%prm:Nat):Int):=by
  simp_all[a9U]
 simp only[a9e,k,d,e,cF,oB,g];simp_all
theorem c4f(b:a1a)(N:Int){i:Nat}:∀(rest done:List (List Int)) (out:List Int),done++rest=b.2.1→b.2.1.length≤8→(∀r∈rest,i<r.length)→out.length+rest.length<1000000→
  y0s a6I ((i:Int),N,(i:Int),b.2.1,(b.2.1.length:Int),(done.length:Int),out,b,())=some (N,(i:Int),out++rest.map (fun r=>r.getD i 0),b,())
 | [],done,out,hd,_,_,_=>by
  simp_all[a0F,a6I]
 |r::rest,done,out,hd,h8,hr,ho=>by
  have g:done.length<b.2.1.length:=by grind
  have f:m0k b.2.1 (done.length:Int)=some r:=by grind[a0D]
  have k:=hr r (by simp);have h:m0k r (i:Int)=some (r.getD i 0):=by simp_all[a0D]
  simp at ho;rw[a0E (s':=((i:Int),N,(i:Int),b.2.1,(b.2.1.length:Int),(((done++[r]).length:Nat):Int),out++[r.getD i 0],b,())) (by
   simp only[a6I,dlt g,cT,f,h,oB,a0T (show out.length+1<2147483648 by omega),a0C (show done.length<1000000 by omega)]
   simp)]
  rw[c4f b N rest (done++[r]) _ (by simp_all) h8 (fun q a=>hr q (by grind)) (by grind)]
  simp
theorem c4g{b:a1a}(hb:a1U b):a7e b=some (wvB b):=by
 obtain⟨g1,g2,g3,g4,g5,g6,g7⟩:=id hb;have hlen:∀r∈b.2.1,r.length=a0K b:=fun r hr=>by
  simp_all
 have hw:∀i,i≤4096→(wv i b.2.1).length≤32768:=fun i hi=>by
  rw[c8W]
  calc i*b.2.1.length≤4096*8:=a06 hi g4
   _=32768:=rfl
 have h:=a1C (f:=a6J) (fun i=>(((a0K b:Nat):Int),(i:Int),wv i b.2.1,b,())) (a0K b) (b:=(wv (a0K b) b.2.1,())) (fun i hi=>by
  have h0:=c4f b ((a0K b:Nat):Int) (i:=i) b.2.1 [] (wv i b.2.1) rfl g4 (fun r hr=>by simp_all) (by grind);rw[a21]at h0;simp only[a6J,dlt hi,cT]
  grind[a0C,wv,a38]) (by simp_all[a6J])
 unfold a7e;simp[a6y,hb,a4V]
 erw[h]
 rfl
theorem b2v{b:a1a}:(wvB b).length=a0K b*b.2.1.length:=c8W _
theorem d2C{b:a1a}(hb:a1U b):(wvB b).all (fun x=>a1h x b.1)=true:=by
 obtain⟨g,f,k,a,c,d,e⟩:=hb;refine lA.2 fun x h=>?_
 unfold wvB wv at h
 grind
theorem c5V{b:a1a}(hb:a1U b):a7X b=some (a1B b.1 (wvB b),0):=by
 have hl:(wvB b).length≤1000000:=by
  rw[b2v]
  calc a0K b*b.2.1.length≤4096*8:=a06 hb.2.2.2.2.2.1 hb.2.2.2.1
   _≤1000000:=by simp
 unfold a7X;simp only[a6y,hb,decide_true,oB,bT,cF,c4g hb,b9V ⟨hb.1,hb.2.1⟩ hl (d2C hb)]
theorem b5X{b:a1a}(hb:a1U b){w:Int}(h:b.1=w)(d:List Int):a4B (((prI (a1B w d):Nat):Int),b)=some (((prI (a1B w (d++wvB b)):Nat):Int),true):=by
 subst h;have g:=b8T ⟨hb.1,hb.2.1⟩ (wvB b);have f:(wvB b).length≤4096*8:=by rw[b2v];exact a06 hb.2.2.2.2.2.1 hb.2.2.2.1
 have k:=c5U (b4a (a1B b.1 d)) (b4a (a1B b.1 (wvB b))) (n:=(a1B b.1 (wvB b)).length) (by omega);unfold a4B;simp only[c5V hb,oB,show((0:Int) != 0)=false from rfl,cF,c4e (show short (a1B b.1 (wvB b))by unfold short;omega) (b5R _ _),b8U,c5S];simp_all
theorem d0Y(d:List Int)(x:Int){ch:Nat}(h:0<ch):(a1D d ch).set (d.length%ch) ((a1D d ch).getD (d.length%ch) []++[x])=a1D (d++[x]) ch:=by
 have k:=a09 d.length h;refine a26 (by simp[a1D]) fun i g f=>?_
 simp[a1D]at g;rw[List.getElem_set];simp_all[a1D,c8T]
theorem d2D{fm:a0I}(e:a2k fm){ch:Nat}(k:fm.2.1=(ch:Int)){l:List Int}{n:Nat}(p:1≤n∧n≤4096)(j:l.length=n*ch)(a:l.all (fun x=>a1h x fm.2.2.1)=true):
  b0C (l,fm)=some (a5M fm.2.2.1 l ch,0):=by
 have g:1≤ch∧ch≤8:=by have:=e.2.2.1;have:=e.2.2.2.1;omega
 have G:l.length≤4096*8:=by rw[j];exact a06 p.2 g.2
 have q:1≤l.length:=by rw[j];exact Nat.mul_pos p.1 g.1
 have w:4≤fm.2.2.1∧fm.2.2.1≤24:=e.2.2.2.2;have c0:((ch:Int)==0)=false:=by grind
 have h:=a1C (f:=a7S) (fun i=>(l,((l.length:Nat):Int),(i:Int),b1N,(fm.2.2.1,a1D (l.take i) ch,()),fm,())) l.length (b:=Sum.inl (b1N,a5M fm.2.2.1 l ch,())) (fun i hi=>by
  have t:a39 (i:Int) (ch:Int)=((i%ch:Nat):Int):=rfl;have v:=a09 i g.1;have m:∀d,(a1D d ch).length=ch:=fun d=>by simp[a1D]
  have r:decide ((0:Int)≤((i%ch:Nat):Int))=true:=decide_eq_true (a04 _);have y:a1h l[i] fm.2.2.1=true:=lA.1 a _ (a25 hi);have o:(l.take i).length=i:=by grind
  have u:((a1D (l.take i) ch).getD (i%ch) []).length≤32768:=by
   grind[a1D,b0N]
  have c:=d0Y (l.take i) l[i] g.1;rw[o]at c;simp only[a7S,dlt hi,cT,a0D hi,oB,b2S w,y,bT,cF,k,c0,t,r,List.length_set,m,dlt v,a02,tN,a0T (show((a1D (l.take i) ch).getD (i%ch) []).length+1<2147483648 by omega),beq_self_eq_true,Bool.and_true,a0C (show i<1000000 by omega)];simp_all) (by
  simp only[a7S,dge,cF,a61];rfl)
 have s:a1D ([]:List Int) ch=a05 ch []:=by
  refine a26 (by simp[a1D]) fun i E F=>?_
  simp[a1D,b0N]
 have q1:(((l.length:Nat):Int)==0)=false:=by grind
 have z:a39 ((l.length:Nat):Int) (ch:Int)=0:=by
  simp_all
 have A:wrap .i64 (a23 ((l.length:Nat):Int) (ch:Int))=(n:Int):=by
  rw[show a23 ((l.length:Nat):Int) (ch:Int)=((l.length / ch:Nat):Int)from rfl,j,a78 _ g.1,a0B (by omega)]
 have B:decide ((n:Int) > 4096)=false:=by grind
 have C:decide ((0:Int)≤(ch:Int))=true:=by simp
 have D:decide ((ch:Int)≤(ch:Int))=true:=by simp
 unfold b0C;simp only[a4E,e,decide_true,oB,bT,cF,q1,k,c0,z,show((0:Int) != 0)=false from rfl,A,B,C,D,tN,a0T (show ch<2147483648 by omega),a02,cT];simp only[List.take_zero,s]at h
 erw[h]
 rfl
theorem b2w{α:Type}(a:List α)(x:α)(b:List α):m0k (a++x::b) (a.length:Int)=some x:=by
 simp_all[a0D]
theorem b8X:∀(a b:List Pc)(st off:Nat),a2W st off (a++b)=a2W st off a++a2W (st+a1m a) (off+(a0V a).length) b
 | [],b,st,off=>by rfl
 |y::a,b,st,off=>by
  simp_all[a2W,b8X,a1m,a0V,a59]
theorem c4h{fm:a0I}{all:List Pc}(h:all.length≤256){t:b5T}(p:t.1=fm)(a:t.2.2.2.1=a2W 0 0 all):∀(rest done:List Pc),done++rest=all→a2V fm (a1m done) rest→(a0V done).length≤700800*done.length→a1m done≤64*done.length→
  y0s a8G (((a1m done:Nat):Int),(((a0V done).length:Nat):Int),((a2B fm done:Nat):Int),all.map (·.1),((all.map (·.1)).length:Int),(done.length:Int),done.map (·.2.2),done.map (·.2.1),t,()) =
   some (.inl (((a1m all:Nat):Int),((a2B fm all:Nat):Int),all.map (·.2.2),all.map (·.2.1),t,()))
 | [],done,hd,_,_,_=>by
  obtain rfl:done=all:=by simp_all
  simp_all[a0F,a8G]
 |x::rest,done,hd,hr,hb,hl=>by
  obtain⟨⟨u,d,v,e,j,y,l,m,z,b,c⟩,hr2⟩:=hr;have f:done.length<(all.map (·.1)).length:=by grind
  have k:all.length=done.length+(rest.length+1):=by grind
  have o:m0k (all.map (·.1)) (done.length:Int)=some x.1:=by
   grind[b2w]
  have g:m0k t.2.2.2.1 (done.length:Int)=some (((a1m done:Nat):Int),(((a0V done).length:Nat):Int),()):=by
   have:=b2w (a2W 0 0 done) (((a1m done:Nat):Int),(((a0V done).length:Nat):Int),()) (a2W (a1m done+a0K x.2.1) ((a0V done).length+x.2.2.length) rest)
   rw[a8P]at this;rw[a,←hd,b8X];simp_all[a2W]
  have n:eqT (.pair (.int .i64) (.pair (.int .i64) (.pair (.int .i64) .unit))) x.1.2.2.1 t.1=true:=by simp_all[b4J]
  have q:=b5X l (w:=fm.2.2.1) m (a4o done);have n1:(x.1.1 != ((a1m done:Nat):Int))=false:=by simp_all
  have n2:∀i:Int,(i != i)=false:=fun i=>by simp
  have r:((0:Int) != 0)=false:=rfl;have s:wrap .i64 (((a1m done:Nat):Int)+((a0K x.2.1:Nat):Int))=((a1m (done++[x]):Nat):Int):=by grind[a5L,a0B]
  have w2:wrap .i64 ((((a0V done).length:Nat):Int)+((x.2.2.length:Nat):Int))=(((a0V (done++[x])).length:Nat):Int):=by grind[a7A,a0B]
  rw[a0E (s':=(((a1m (done++[x]):Nat):Int),(((a0V (done++[x])).length:Nat):Int),((a2B fm (done++[x]):Nat):Int),all.map (·.1),((all.map (·.1)).length:Int),(((done++[x]).length:Nat):Int),(done++[x]).map (·.2.2),(done++[x]).map (·.2.1),t,())) (by
   simp only[a8G,dlt f,cT,o,oB];rw[n];simp only[bT,cF,oB,n1,g,n2,e,r,j]
   erw[q]
   simp only[oB,bT,cF,a16,a0T (show done.length+1<2147483648 by omega),cT,d,s,w2,a0C (show done.length<1000000 by omega)]
   simp[a2B,b2m])]
  exact c4h h p a rest (done++[x]) (by simp_all) (by simp_all[a5L]) (by grind[a7A]) (by grind[a5L])
theorem c9c{fm:a0I}(c:a2k fm){xs:List Pc}(b:a2V fm 0 xs)(g:xs.length≤256):a9h (mkT fm xs)=some (xs.map (·.2.2),xs.map (·.2.1),true):=by
 have h:=c4h g (t:=mkT fm xs) rfl rfl xs [] rfl b (by simp[a0V]) (by simp[a1m]);have a:a1Z (mkT fm xs).1=some true:=by simp_all[a4E,mkT]
 have f:decide (((a08 (mkT fm xs).2.2.2.2.1:Nat):Int) > (4096:Int))=false:=by simp[mkT];omega
 have k:(((a08 (mkT fm xs).2.2.2.1:Nat):Int) != ((a08 (mkT fm xs).2.2.2.2.1:Nat):Int))=false:=by simp[mkT,a8P]
 unfold a9h;simp[a,f,k]
 erw[h]
 simp_all[mkT]
theorem b5Y{α:Type}(a:List α)(x d:α)(b:List α):(a++x::b).getD a.length d=x:=by
 rw[lD];simp
theorem c1m{fm:a0I}{all:List Pc}(h:all.length≤256)(t:b5T)(A:List Nat)(e:A.length=4):∀(rest done:List Pc)(st:Nat),done++rest=all→a2V fm st rest→
  y0s a8H (all.map (·.1),((all.map (·.1)).length:Int),(done.length:Int),all.map (·.2.2),asI (A++nsP done),t,())=some (all.map (·.2.2),asI (A++nsP all),t,())
 | [],done,st,hd,_=>by
  obtain rfl:done=all:=by simpa using hd
  exact a0F (by simp only[a8H,a16,dge,cF])
 |x::rest,done,st,hd,hr=>by
  obtain⟨⟨m,d,n,o,p,q,r,s,u,b,c⟩,hr2⟩:=hr;have k:done.length<(all.map (·.1)).length:=by rw[←hd];simp
  have g:done.length<(all.map (·.2.2)).length:=by rw[←hd];simp
  have j:m0k (all.map (·.1)) (done.length:Int)=some x.1:=by
   have:=b2w (done.map (·.1)) x.1 (rest.map (·.1))
   rw[a16]at this;rw[←hd,pA,a37];exact this
  have hp:(all.map (·.2.2)).getD done.length []=x.2.2:=by
   have:=b5Y (done.map (·.2.2)) x.2.2 [] (rest.map (·.2.2))
   rw[a16]at this;rw[←hd,pA,a37];exact this
  have a:decide ((0:Int)≤(done.length:Int))=true:=decide_eq_true (a04 _);have i:done.length<all.length:=by rw[←hd];simp
  have f:(asI (A++nsP done)).length+2<2147483648:=by simp only[asI,a16,lN,b4b];omega
  have l:wrap .u64 ((x.2.2.length:Nat):Int)=((x.2.2.length:Nat):Int):=a0M (by omega);have w2:wrap .u64 ((a0K x.2.1:Nat):Int)=((a0K x.2.1:Nat):Int):=a0M (by omega);rw[a0E (s':=(all.map (·.1),((all.map (·.1)).length:Int),(((done++[x]).length:Nat):Int),all.map (·.2.2),asI (A++nsP (done++[x])),t,())) (by
   simp only[a8H,dlt k,dlt g,a,a02,cT,j,oB,a0T f,tN,hp,l,d,w2,a0C (show done.length<1000000 by omega)];simp[d0U,asI])]
  exact c1m h t A e rest (done++[x]) _ (by simpa using hd) hr2
theorem c1n{all:List (List Int)}(g:all.length≤256)(h:∀p∈all,p.length≤700800):∀(rest done:List (List Int)) (out:List Int),done++rest=all→out.length+700800*rest.length≤190000000→
  y0s a8I ((all.length:Int),(done.length:Int),out,all,())=some (out++rest.flatten,())
 | [],done,out,hd,_=>by
  obtain rfl:done=all:=by simpa using hd
  rw[a0F (b:=(out,())) (by simp only[a8I,dge,cF])]
  simp
 |p::rest,done,out,hd,ho=>by
  have f:done.length<all.length:=by rw[←hd];simp
  have hp:all.getD done.length []=p:=by rw[←hd];exact b5Y done p [] rest
  have a:=h p (by rw[←hd];simp);have k:decide ((0:Int)≤(done.length:Int))=true:=decide_eq_true (a04 _);simp only[lC]at ho;rw[a0E (s':=((all.length:Int),(((done++[p]).length:Nat):Int),out++p,all,())) (by
   simp only[a8I,dlt f,k,a02,cT,tN,hp,a0T (show out.length+p.length<2147483648 by omega),a0C (show done.length<1000000 by omega)]
   simp)]
  rw[c1n g h rest (done++[p]) (out++p) (by simpa using hd) (by simp only[lN];omega)]
  simp
theorem b8Y{fm:a0I}:∀{xs:List Pc}{st:Nat},a2V fm st xs→∀p∈xs.map (·.2.2),p.length≤700800
 | [],_,_,p,hp=>by simp at hp
 |x::xs,st,h,p,hp=>by
  rcases mC.1 hp with rfl|hp;exact h.1.2.2.2.2.2.2.2.2.2.2;exact b8Y h.2 p hp
theorem b7a:∀(l:List Nat),(∀n∈l,n<9223372036854775808)→∀b∈l.flatMap a0L,0≤b∧b<256:=fun l h b hb=>by
 obtain⟨n,g,hb⟩:=a84.1 hb;exact b8G 8 n (by rw[show(128:Nat)^(8+1)=9223372036854775808 from by decide];exact h n g) b hb
theorem c5x{fm:a0I}(g:a2k fm){xs:List Pc}(h:a2V fm 0 xs)(k:xs.length≤256):∀b∈a1t fm xs,0≤b∧b<256:=fun b hb=>by
 unfold a1t at hb;rcases mA.1 hb with hb|hb;simp only[b7I,mC,a48,or_false]at hb;omega;rcases mA.1 hb with hb|hb;exact b7a _ (fun n f=>a07 (a7B g h k n f) (by decide)) b hb;exact b4O _ _ b hb
theorem c1o{fm:a0I}(f:a2k fm){xs:List Pc}(g:a2V fm 0 xs)(h:xs.length≤256):a9i (mkT fm xs)=some (a5N fm xs,0):=by
 obtain⟨s,t,u,v,w,x⟩:=id f;have c:=c1m h (mkT fm xs) [fm.1.toNat,fm.2.1.toNat,fm.2.2.1.toNat,xs.length] rfl xs [] 0 rfl g;have hp:=b5M (ns:=a3R fm xs) (fun n j=>a07 (a7B f g h n j) (by decide)) (by simp only[a3R,lN,b4b,lC,a21];omega);have hv:=b3s (a3R fm xs) fun n i=>a07 (a7B f g h n i) (by decide);have z:(a3R fm xs).length≤516:=by simp only[a3R,lN,b4b,lC,a21];omega
 have y:=c1l f g h;have e:=b5S (n:=a2B fm xs) (k:=8) (by have:=b4a (a1B fm.2.2.1 (a4o xs));unfold prm at this;unfold a2B;omega) (by omega);have d:=b5S (n:=a4p (a1t fm xs)) (k:=4) (by have:=b4P (a1t fm xs);omega) (by omega);have m:=b5W (l:=a1t fm xs) (by unfold short;omega) (c5x f g h);have hb:=c1n (all:=xs.map (·.2.2)) (by simpa using h) (b8Y g) (xs.map (·.2.2)) [] (a1t fm xs++a7F 4 (a4p (a1t fm xs))) rfl (by simp only[lN,a16,a9C];omega);have o:wrap .u64 fm.1=((fm.1.toNat:Nat):Int):=by rw[a0M (by omega)];omega
 have w2:wrap .u64 fm.2.1=((fm.2.1.toNat:Nat):Int):=by rw[a0M (by omega)];omega
 have p:wrap .u64 fm.2.2.1=((fm.2.2.1.toNat:Nat):Int):=by rw[a0M (by omega)];omega
 have q:wrap .u64 ((a08 (xs.map (·.1)):Nat):Int)=((xs.length:Nat):Int):=by rw[a16,a0M (by omega)]
 have r:wrap .u64 ((a4p (a1t fm xs):Nat):Int)=((a4p (a1t fm xs):Nat):Int):=a0M (by have:=b4P (a1t fm xs);omega);unfold a9i;rw[c9c f g h];simp only[oB,bT,cF,mkT,o,w2,p,q]
 erw[c]
 simp only[oB]
 erw[hp]
 simp only[oB,a0T (show 4+((a3R fm xs).flatMap a0L).length<2147483648 by omega),cT]
 erw[e]
 have b:a86 (a86 ([(75:Int),(78:Int),(83:Int),(68:Int)]:List Int) ((a3R fm xs).flatMap a0L)) (a7F 8 (a2B fm xs))=a1t fm xs:=aA ..;have a:(a86 ([(75:Int),(78:Int),(83:Int),(68:Int)]:List Int) ((a3R fm xs).flatMap a0L)).length+(a7F 8 (a2B fm xs)).length<2147483648:=by
  have:=congrArg a08 b
  simp only[a96,lN]at this⊢;omega
 simp only[oB,a0T a,cT,b,m,r]
 erw[d]
 simp only[oB,a0T (show(a1t fm xs).length+(a7F 4 (a4p (a1t fm xs))).length<2147483648 by rw[a9C];omega),cT]
 erw[hb]
 simp only[oB,a5N,a0V,List.flatMap_def,aA]
theorem b5Z{all:List a1a}(f:all.length≤256):∀(rest done:List a1a)(out:List Int),done++rest=all→(∀b∈rest,a1U b)→out.length+32768*rest.length≤9000000→
  y0s a5F ((all.length:Int),(done.length:Int),out,all,())=some (out++rest.flatMap wvB,())
 | [],done,out,hd,_,_=>by
  obtain rfl:done=all:=by simpa using hd
  rw[a0F (b:=(out,())) (by simp only[a5F,dge,cF])]
  simp
 |p::rest,done,out,hd,hb,ho=>by
  have k:done.length<all.length:=by rw[←hd];simp
  have hp:all.getD done.length ((0:Int),([]:List (List Int)),())=p:=by rw[←hd];exact b5Y done p _ rest
  have g:=hb p (by simp);have c:(wvB p).length≤4096*8:=by rw[b2v];exact a06 g.2.2.2.2.2.1 g.2.2.2.1
  have a:decide ((0:Int)≤(done.length:Int))=true:=decide_eq_true (a04 _);simp only[lC]at ho;rw[a0E (s':=((all.length:Int),(((done++[p]).length:Nat):Int),out++wvB p,all,())) (by
   simp only[a5F,dlt k,a,a02,cT,tN,hp,c4g g,oB,a0T (show out.length+(wvB p).length<2147483648 by omega),a0C (show done.length<1000000 by omega)]
   simp)]
  rw[b5Z f rest (done++[p]) (out++wvB p) (by simpa using hd) (fun b h=>hb b (by simp[h])) (by simp only[lN];omega)]
  simp
theorem c4i{fm:a0I}:∀{xs:List Pc}{st:Nat},a2V fm st xs→∀b∈xs.map (·.2.1),a1U b
 | [],_,_,p,hp=>by simp at hp
 |x::xs,st,h,p,hp=>by
  rcases mC.1 hp with rfl|hp;exact h.1.2.2.2.2.2.2.1;exact c4i h.2 p hp
theorem c7K{fm:a0I}(k:a2k fm){xs:List Pc}(f:a2V fm 0 xs)(g:xs.length≤256):a2T (mkT fm xs)=some (a4o xs,0):=by
 have h:=b5Z (all:=xs.map (·.2.1)) (by simpa using g) (xs.map (·.2.1)) [] [] rfl (c4i f) (by simp;omega);unfold a2T;rw[c9c k f g];simp only[oB,bT,cF]
 erw[h]
 simp[a4o,List.flatMap_map]
theorem d2E{P A R:List Int}(b:(P++(A++R)).length<1000000000):a4X (ord P (A++R),(A.length:Int))=some (A,ord (P++A) R):=by
 simp at b;have c:v0r (A.length:Int) 0=(A.length:Int):=by rfl
 have d:wrap .i64 (((P++(A++R)).length:Int)-(P.length:Int))=((A++R).length:Int):=by
  grind[a0B]
 have h:decide ((A.length:Int) > ((A++R).length:Int))=false:=by grind
 have w2:wrap .i64 ((P.length:Int)+(A.length:Int))=(((P++A).length:Nat):Int):=by
  grind[a0B]
 have g:decide ((0:Int)≤(((P++A).length:Nat):Int))=true:=by rfl
 have f:decide ((((P++A).length:Nat):Int)≤((P++(A++R)).length:Int))=true:=by simp_all
 have k:decide ((0:Int)≤(P.length:Int))=true:=by simp
 have a:decide ((P.length:Int)≤(((P++A).length:Nat):Int))=true:=by grind
 have e:a45 P.length (a35 (P++A).length (P++(A++R)))=A:=by
  grind
 unfold a4X a1O ord;simp only[show((0:Int) != 0)=false from rfl,cF,oB,c,d,h,w2,g,f,k,a,a02,cT,tN,e,a0T (show A.length<2147483648 by omega),aA]
theorem c4j{all:List Int}(a:all.length≤8)(z:List Int×(Int×Int×Unit)):∀(rest done:List Int)(n:Nat),done++rest=all→(∀b∈rest,0≤b∧b<256)→n<256^done.length→
  y0s a3I ((n:Int),(all.length:Int),(done.length:Int),all,z,())=some (((b3H n rest:Nat):Int),z,())
 | [],done,n,hd,_,_=>by
  obtain rfl:done=all:=by simp_all
  exact a0F (by simp only[a3I,dge,cF];rfl)
 |x::rest,done,n,hd,hb,hn=>by
  have g:done.length<all.length:=by grind
  have hp:all.getD done.length 0=x:=by grind
  have d:=hb x (by simp);have f:decide ((0:Int)≤(done.length:Int))=true:=decide_eq_true (a04 _);have c:256^done.length≤256^7:=a49 (by omega) (by omega);have k:(256:Nat)^7=72057594037927936:=by rfl
  have w:wrap .u64 ((wrap .u64 ((n:Int)*(256:Int)))+(wrap .u64 x))=((n*256+x.toNat:Nat):Int):=by
   grind[a0M]
  rw[a0E (s':=(((n*256+x.toNat:Nat):Int),(all.length:Int),(((done++[x]).length:Nat):Int),all,z,())) (by
   simp only[a3I,dlt g,f,a02,cT,tN,hp,w,a0C (show done.length<1000000 by omega)]
   simp)]
  exact c4j a z rest (done++[x]) _ (by simp_all) (fun b h=>hb b (by grind)) (by grind)
theorem c5W{P A R:List Int}{k:Nat}(f:A.length=k)(g:k≤8)(hb:∀b∈A,0≤b∧b<256)(a:(P++(A++R)).length<1000000000):a3A (ord P (A++R),(k:Int))=some (((b3H 0 A:Nat):Int),ord (P++A) R):=by
 subst f;have h:=c4j g (ord (P++A) R) A [] 0 rfl hb (by simp)
 grind[a3S,b0Q,b6d,a3A,d2E]
@[reducible] def b6j:Type:=a0I×(List Int×(List Int×(Int×(Int×(Int×Unit)))))
def a3H(xs:List Pc):List Int:=xs.map fun x=>((x.2.2.length:Nat):Int)
def a4q(xs:List Pc):List Int:=xs.map fun x=>((a0K x.2.1:Nat):Int)
def b4R(fm:a0I)(xs:List Pc)(pr bg:Nat):b6j:=(fm,a3H xs,a4q xs,((a1m xs:Nat):Int),(pr:Int),(bg:Int),())
def b7J:b6j:=((0,0,0,()),[],[],0,0,0,())
theorem b7b{all:List Pc}(h:all.length≤256)(x:List Int)(fm:a0I)(z:b6j)(u:Int×(Int×Int×Unit)){R:List Int}:∀(rest done:List Pc)(P:List Int)(st:Nat),done++rest=all→a2V fm st rest→
  (P++((nsP rest).flatMap a0L++R)).length<1000000000→
  y0s a5o (x,(all.length:Int),(done.length:Int),z,(fm,a3H done,a4q done,u),ord P ((nsP rest).flatMap a0L++R),()) =
   some (x,z,(fm,a3H all,a4q all,u),ord (P++(nsP rest).flatMap a0L) R,())
 | [],done,P,st,hd,_,_=>by
  obtain rfl:done=all:=by simp_all
  simp_all[a0F,a5o,nsP]
 |y::rest,done,P,st,hd,hr,hl=>by
  obtain⟨⟨i,j,l,m,o,p,q,r,s,a,b⟩,hr2⟩:=hr;have k:done.length<all.length:=by grind
  have e:(nsP (y::rest)).flatMap a0L++R=a0L y.2.2.length++(a0L (a0K y.2.1)++((nsP rest).flatMap a0L++R)):=by simp[nsP]
  rw[e]at hl⊢;have g:=a1H hl;have f:=a1H g;have n1:=a3b (n:=y.2.2.length) (most:=1048704) (by omega) (by omega) hl;have n2:=a3b (n:=a0K y.2.1) (most:=4096) (by omega) (by omega) g;have c:wrap .i64 ((y.2.2.length:Nat):Int)=((y.2.2.length:Nat):Int):=a0B (by omega);have w2:wrap .i64 ((a0K y.2.1:Nat):Int)=((a0K y.2.1:Nat):Int):=a0B (by omega);have d:wrap .u64 ((done.length:Int)+1)=(((done++[y]).length:Nat):Int):=by grind[a0M]
  have l1:(a3H done).length=done.length:=by simp[a3H]
  have l2:(a4q done).length=done.length:=by simp[a4q]
  rw[a0E (s':=(x,(all.length:Int),(((done++[y]).length:Nat):Int),z,(fm,a3H (done++[y]),a4q (done++[y]),u),ord ((P++a0L y.2.2.length)++a0L (a0K y.2.1)) ((nsP rest).flatMap a0L++R),())) (by
   simp only[a5o,dlt k,cT,n1,n2,oB,l1,l2,a0T (show done.length+1<2147483648 by omega),c,w2,d];simp[a3H,a4q])]
  rw[b7b h x fm z u rest (done++[y]) _ _ (by simp_all) hr2 f];simp[nsP]
theorem c4k{all:List Pc}(h:all.length≤256)(fm:a0I)(z:b6j)(v:List Int)(u:Int×(Int×Unit)):∀(rest done:List Pc)(st:Nat),done++rest=all→a2V fm st rest→a1m done≤64*done.length→
  y0s a5p ((all.length:Int),(done.length:Int),z,(fm,v,a4q all,((a1m done:Nat):Int),u),())=some (.inl (z,(fm,v,a4q all,((a1m all:Nat):Int),u),()))
 | [],done,st,hd,_,_=>by
  obtain rfl:done=all:=by simp_all
  simp_all[a0F,a5p]
 |y::rest,done,st,hd,hr,ho=>by
  obtain⟨⟨i,j,l,m,n,o,d,p,q,b,c⟩,hr2⟩:=hr;have f:done.length<all.length:=by grind
  have g:done.length<(a4q all).length:=by simp_all[a4q]
  have hp:(a4q all).getD done.length 0=((a0K y.2.1:Nat):Int):=by
   grind[a4q]
  have k:=d.2.2.2.2.1;have e:(((a0K y.2.1:Nat):Int)==0)=false:=by grind
  have a:decide ((0:Int)≤(done.length:Int))=true:=decide_eq_true (a04 _);have w:wrap .i64 (((a1m done:Nat):Int)+((a0K y.2.1:Nat):Int))=((a1m (done++[y]):Nat):Int):=by grind[a5L,a0B]
  rw[a0E (s':=((all.length:Int),(((done++[y]).length:Nat):Int),z,(fm,v,a4q all,((a1m (done++[y]):Nat):Int),u),())) (by
   simp only[a5p,dlt f,dlt g,a,a02,cT,tN,hp,e,cF,w,a0C (show done.length<1000000 by omega)]
   simp)]
  exact c4k h fm z v u rest (done++[y]) _ (by simp_all) hr2 (by grind[a5L])
theorem c5y{fm:a0I}(j:a2k fm){xs:List Pc}(e:a2V fm 0 xs)(h:xs.length≤256){A C R:List Int}(y:A.length=8)(bA:∀b∈A,0≤b∧b<256)(N:C.length=4)(F:∀b∈C,0≤b∧b<256)(hR:R.length≤190000000)
  {H:List Int}(q:H=b7I++((a3R fm xs).flatMap a0L++A)):
  a5q (H++(C++R))=some (if a4p H=b3H 0 C then(b4R fm xs (b3H 0 A) (H.length+4),0)else(b7J,5)):=by
 obtain⟨f1,f2,f3,f4,f5,f6⟩:=id j;have hv:=b3s (a3R fm xs) fun n v=>a07 (a7B j e h n v) (by simp);have hl:(a3R fm xs).length≤516:=by grind[a3R,b4b]
 have G:∀b∈H,0≤b∧b<256:=fun b hb=>by
  rw[q]at hb;rcases mA.1 hb with hb|hb;simp[b7I]at hb;omega;rcases mA.1 hb with hb|hb;exact b7a _ (fun n v=>a07 (a7B j e h n v) (by simp)) b hb;simp_all
 have a:H.length=4+((a3R fm xs).flatMap a0L).length+8:=by grind[b7I]
 have S:=b5W (l:=H) (by unfold short;omega) G;have x:(a3R fm xs).flatMap a0L=a0L fm.1.toNat++(a0L fm.2.1.toNat++(a0L fm.2.2.1.toNat++(a0L xs.length++(nsP xs).flatMap a0L))):=by rfl
 obtain⟨V,O⟩:∃V,(a3R fm xs).flatMap a0L=V:=⟨_,rfl⟩;rw[O]at hv a x q;have ex:H++(C++R)=75::78::83::68::(V++(A++(C++R))):=by rw[q];simp[b7I]
 have g:(V++(A++(C++R))).length<1000000000:=by grind
 have z:([]++(a0L fm.1.toNat++(a0L fm.2.1.toNat++(a0L fm.2.2.1.toNat++(a0L xs.length++((nsP xs).flatMap a0L++(A++(C++R)))))))).length<1000000000:=by simp_all
 have B:=a1H z;have D:=a1H B;have E:=a1H D;have U:=a1H E;have n1:=a3b (n:=fm.1.toNat) (most:=1048576) (by omega) (by omega) z;have n2:=a3b (n:=fm.2.1.toNat) (most:=8) (by omega) (by omega) B;have X:=a3b (n:=fm.2.2.1.toNat) (most:=24) (by omega) (by omega) D;have Y:=a3b (n:=xs.length) (most:=4096) (by omega) (by omega) E;have w1:wrap .i64 ((fm.1.toNat:Nat):Int)=fm.1:=by grind[a0B]
 have w2:wrap .i64 ((fm.2.1.toNat:Nat):Int)=fm.2.1:=by grind[a0B]
 have w3:wrap .i64 ((fm.2.2.1.toNat:Nat):Int)=fm.2.2.1:=by grind[a0B]
 have f:=b7b h (H++(C++R)) fm b7J (0,0,0,()) xs [] _ 0 rfl e U;have M:([]++a0L fm.1.toNat++a0L fm.2.1.toNat++a0L fm.2.2.1.toNat++a0L xs.length)++(nsP xs).flatMap a0L=V:=by simp_all
 rw[M]at f;have Z:=c5W (P:=V) y (by omega) bA g;have n9:=c5W (P:=V++A) N (by omega) F (a1H g);have k:wrap .i64 (((V++(A++(C++R))).length:Int)-(V.length:Int))=((A++(C++R)).length:Int):=by
  simp only[lN]at g⊢;rw[a0B (by omega)];omega
 have m:decide (((A++(C++R)).length:Int)<12)=false:=by grind
 have r:wrap .i64 ((4:Int)+(((V++A).length:Nat):Int))=((H.length:Nat):Int):=by
  rw[a];simp only[lN,y];rw[a0B (by omega)];rfl
 have o:decide ((0:Int)≤((H.length:Nat):Int))=true:=decide_eq_true (a04 _);have p:decide (((H.length:Nat):Int)≤(((H++(C++R)).length:Nat):Int))=true:=by grind
 have c:wrap .i64 (((H.length:Nat):Int)+4)=((H.length+4:Nat):Int):=by grind[a0B]
 have T:wrap .u64 ((a4p H:Nat):Int)=((a4p H:Nat):Int):=a0M (by grind[b4P]);have I:decide (((a08 (H++(C++R)):Nat):Int)<(4:Int))=false:=by grind
 have K:decide ((4:Int)≤((a08 (H++(C++R)):Nat):Int))=true:=by simp_all
 have s:((b2s (a35 4 (H++(C++R)))) != ([75,78,83,68]:List Int))=false:=by rw[ex];rfl
 have t:a45 4 (a35 (a08 (H++(C++R))) (H++(C++R)))=V++(A++(C++R)):=by rw[a61,ex];rfl
 have d:a5O (V++(A++(C++R)))=some (ord [] (a0L fm.1.toNat++(a0L fm.2.1.toNat++(a0L fm.2.2.1.toNat++(a0L xs.length++((nsP xs).flatMap a0L++(A++(C++R)))))))):=by
  unfold a5O;rw[a0T (by omega),cT,x];simp[ord]
 have i:=c4k h fm b7J (a3H xs) (((b3H 0 A:Nat):Int),((H.length+4:Nat):Int),()) xs [] 0 rfl e (by simp[a1m]);have u:(a4q xs).length=xs.length:=by simp[a4q]
 have Q:=(b5U e).2;have L:decide (((a1m xs:Nat):Int) > (4194304:Int))=false:=by grind
 unfold a5q;simp only[I,cF,K,cT,s,t,d,oB,n1,n2,X,Y,w1,w2,w3]
 erw[f]
 simp only[oB,a3z,a1O,a4a,ord,show((0:Int) != 0)=false from rfl,cF,k,m]
 erw[Z]
 simp only[oB,ord,r,o,p,a02,cT,tN,List.take_left,S,T]
 erw[n9]
 simp only[oB]
 by_cases hq:a4p H=b3H 0 C
 have w:(((a4p H:Nat):Int) != ((b3H 0 C:Nat):Int))=false:=by simp_all
 simp only[w,cF,if_pos hq,a4E,j,decide_true,bT,oB,c,u]
 erw[i]
 simp only[L,oB,cF];rfl;have w:(((a4p H:Nat):Int) != ((b3H 0 C:Nat):Int))=true:=by grind
 simp only[w,cT,if_neg hq];rfl
theorem c5z{B P R:List Int}{fm:a0I}{st:Nat}{x:Pc}(p:b7G fm st x)(C:B=P++(x.2.2++R))(E:B.length<1000000000){pl:b6j}(hp:pl.1=fm){i:Int}(n:m0k pl.2.1 i=some ((x.2.2.length:Nat):Int))(o:m0k pl.2.2.1 i=some ((a0K x.2.1:Nat):Int)):
  a6H (B,pl,i,((P.length:Nat):Int),(st:Int))=some (x.1,x.2.1,0):=by
 obtain⟨s,t,u,v,w,l,y,z,A,e,j⟩:=p;have m:B.length=P.length+(x.2.2.length+R.length):=by simp_all
 have r:wrap .i64 (((a08 B:Nat):Int)-((P.length:Nat):Int))=((x.2.2.length+R.length:Nat):Int):=by grind[a0B]
 have g:decide (((x.2.2.length+R.length:Nat):Int)<((x.2.2.length:Nat):Int))=false:=decide_eq_false (by omega);have w2:wrap .i64 (((P.length:Nat):Int)+((x.2.2.length:Nat):Int))=((P.length+x.2.2.length:Nat):Int):=by grind[a0B]
 have f:decide ((0:Int)≤((P.length+x.2.2.length:Nat):Int))=true:=decide_eq_true (a04 _);have k:decide (((P.length+x.2.2.length:Nat):Int)≤((a08 B:Nat):Int))=true:=by simp_all
 have a:decide ((0:Int)≤((P.length:Nat):Int))=true:=decide_eq_true (a04 _);have b:decide (((P.length:Nat):Int)≤((P.length+x.2.2.length:Nat):Int))=true:=decide_eq_true (by omega);have d:a45 P.length (a35 (P.length+x.2.2.length) B)=x.2.2:=by
  grind
 have h:=l [] (by simp);rw[a92]at h;have q:((0:Int) != 0)=false:=rfl;have c:decide (((x.2.2.length:Nat):Int)<((x.2.2.length:Nat):Int))=false:=by simp
 have D:eqT (.pair (.int .i64) (.pair (.int .i64) (.pair (.int .i64) .unit))) x.1.2.2.1 pl.1=true:=by simp_all[b4J]
 have n1:(x.1.1 != (st:Int))=false:=by simp_all
 have n2:(((a0K x.2.1:Nat):Int) != ((a0K x.2.1:Nat):Int))=false:=by simp
 unfold a6H;simp only[n,oB,r,g,cF,w2,f,k,a,b,a02,cT,tN,d,h,q,c];simp_all
def c7L:b5T:=((0,0,0,()),0,0,[],[],())
theorem d0Z{done rest:List Pc}(x:Pc):m0k (a3H (done++x::rest)) (done.length:Int)=some ((x.2.2.length:Nat):Int):=by
 grind[b2w,a3H]
theorem d2F{done rest:List Pc}(x:Pc):m0k (a4q (done++x::rest)) (done.length:Int)=some ((a0K x.2.1:Nat):Int):=by
 grind[b2w,a4q]
theorem c1p{fm:a0I}{all tail:List Pc}(h:all.length≤256){B Hd Z:List Int}(j:B.length<1000000000){pl:b6j}(hp:pl.1=fm)(a:pl.2.1=a3H all)(b:pl.2.2.1=a4q all)(g:pl.2.2.2.2.2.1=((Hd.length:Nat):Int))(z:b5T):
  ∀(rest done:List Pc),done++(rest++tail)=all→B=Hd++(a0V done++(a0V rest++Z))→a2V fm (a1m done) rest→a1m done≤64*done.length→
  y0s a3K (B,((Hd.length+(a0V done).length:Nat):Int),a3H all,(all.length:Int),(done.length:Int),z,pl,mkT fm done,()) =
   y0s a3K (B,((Hd.length+(a0V (done++rest)).length:Nat):Int),a3H all,(all.length:Int),((done++rest).length:Int),z,pl,mkT fm (done++rest),())
 | [],done,_,_,_,_=>by simp
 |x::rest,done,hd,hB,hr,ho=>by
  obtain⟨m,t⟩:=hr;have k:done.length<all.length:=by grind
  have f:B=(Hd++a0V done)++(x.2.2++(a0V rest++Z)):=by rw[hB];simp[a0V]
  have s:Hd.length+(a0V done).length+x.2.2.length≤B.length:=by grind
  have l:=d0Z (done:=done) (rest:=rest++tail) x;have c:=d2F (done:=done) (rest:=rest++tail) x;rw[a60]at hd;rw[hd]at l c;have e:=c5z m f j hp (i:=(done.length:Int)) (by simp_all) (by simp_all);rw[lN]at e;obtain⟨y,p,A,C,D,E,q,r,F,n,o⟩:=m;have d:=b5X q (w:=fm.2.2.1) r (a4o done);have l1:(a2W 0 0 done).length+1<2147483648:=by rw[a8P];omega
  have u:wrap .i64 (((Hd.length+(a0V done).length:Nat):Int)+((x.2.2.length:Nat):Int))=((Hd.length+(a0V (done++[x])).length:Nat):Int):=by
   rw[a7A,lN,a0B (by omega)];omega
  have w2:wrap .i64 (((a1m done:Nat):Int)+((a0K x.2.1:Nat):Int))=((a1m (done++[x]):Nat):Int):=by rw[a5L,a0B (by omega)];rfl
  have v:wrap .i64 (((Hd.length+(a0V done).length:Nat):Int)-((Hd.length:Nat):Int))=(((a0V done).length:Nat):Int):=by grind[a0B]
  rw[a0E (s':=(B,((Hd.length+(a0V (done++[x])).length:Nat):Int),a3H all,(all.length:Int),(((done++[x]).length:Nat):Int),z,pl,mkT fm (done++[x]),())) (by
   simp only[a3K,dlt k,cT,l,oB,mkT]
   erw[e]
   simp only[oB,show((0:Int) != 0)=false from rfl,cF]
   erw[d]
   simp only[oB,a0T l1,a16,a0T (show done.length+1<2147483648 by omega),cT,u,p,w2,g,v,a0C (show done.length<1000000 by omega)]
   simp[a2B,b2m,b1F])]
  rw[List.append_cons done x rest];exact c1p (Z:=Z) h j hp a b g z rest (done++[x]) (by simpa using hd) (by simp_all[a7A]) (by simp_all[a5L]) (by grind[a5L])
theorem c5A{fm:a0I}(k:a2k fm){xs:List Pc}(b:a2V fm 0 xs)(g:xs.length≤256){R:List Int}(f:R.length≤190000000):
  a5q (a1t fm xs++(a7F 4 (a4p (a1t fm xs))++R))=some (b4R fm xs (a2B fm xs) ((a1t fm xs).length+4),0):=by
 have a:=b4a (a1B fm.2.2.1 (a4o xs));have h:=c5y k b g (A:=a7F 8 (a2B fm xs)) (C:=a7F 4 (a4p (a1t fm xs))) (R:=R) (a9C ..) (b4O 8 _) (a9C ..) (b4O 4 _) f (H:=a1t fm xs) rfl;rw[b7H 4 _ (by simp_all[b4P]),b7H 8 _ (by grind[prm,a2B]),if_pos rfl]at h;omega
theorem b8Z{fm:a0I}(c:a2k fm){xs:List Pc}(k:a2V fm 0 xs)(h:xs.length≤256):a1K (a5N fm xs)=some (mkT fm xs,0):=by
 have e:=b2n k;have l:=c1l c k h;have i:=c5A c k h (R:=a0V xs) (by omega);have d:(a5N fm xs).length=(a1t fm xs).length+4+(a0V xs).length:=by grind[a5N,a9C]
 have f:(a1t fm xs++a7F 4 (a4p (a1t fm xs))).length=(a1t fm xs).length+4:=by simp[a9C]
 have g:=c1p (fm:=fm) h (B:=a5N fm xs) (Hd:=a1t fm xs++a7F 4 (a4p (a1t fm xs))) (Z:=[]) (by omega) (pl:=b4R fm xs (a2B fm xs) ((a1t fm xs).length+4)) rfl rfl rfl (by rw[f];rfl) c7L (tail:=[]) xs [] (by simp) (by simp[a5N,a0V]) k (by simp[a1m]);rw[f,a20]at g;have a:y0s a3K (a5N fm xs,(((a1t fm xs).length+4+(a0V xs).length:Nat):Int),a3H xs,(xs.length:Int),(xs.length:Int),c7L,b4R fm xs (a2B fm xs) ((a1t fm xs).length+4),mkT fm xs,())=some (Sum.inl (a5N fm xs,(((a1t fm xs).length+4+(a0V xs).length:Nat):Int),c7L,b4R fm xs (a2B fm xs) ((a1t fm xs).length+4),mkT fm xs,())):=
  a0F (by simp_all[a3K])
 rw[a]at g;have b:(a3H xs).length=xs.length:=by simp[a3H]
 have j:decide ((((a1t fm xs).length+4+(a0V xs).length:Nat):Int)<(((a5N fm xs).length:Nat):Int))=false:=by simp_all
 unfold a1K;rw[show a5N fm xs=a1t fm xs++(a7F 4 (a4p (a1t fm xs))++a0V xs)from rfl,i];simp only[oB,show((0:Int) != 0)=false from rfl,cF,b4R,b]
 erw[g]
 simp_all[b4R,mkT]
def b9Y(fm:a0I)(l:List Int)(ch sz total:Nat)(effort:Int):Nat→List Pc→Prop
 |st,[]=>total≤st
 |st,x::xs=>st<total∧x.2.1=a5M fm.2.2.1 (a1J l ch st (min (st+sz) total)) ch∧a2S (x.2.1,fm,(st:Int),effort)=some (x.1,0)∧b7G fm st x∧b9Y fm l ch sz total effort (st+sz) xs
def b9a(fm:a0I)(total:Nat)(xs:List Pc):b5T:=(fm,(total:Int),((a2B fm xs:Nat):Int),a2W 0 0 xs,xs.map (·.1),())
theorem d1a{fm:a0I}(D:a2k fm){ch:Nat}(a:fm.2.1=(ch:Int)){l:List Int}{total sz:Nat}(hl:l.length=total*ch)(ht:total≤200)(hs:1≤sz∧sz≤64)(b:l.all (fun x=>a1h x fm.2.2.1)=true){effort:Int}(X:0≤effort)(Y:effort≤3):
  ∀(k st:Nat)(done:List Pc),total≤st+k→a1m done=min st total→a4o done=l.take (min st total*ch)→a2V fm 0 done→done.length≤st→st≤300→
  ∃rest,b9Y fm l ch sz total effort st rest∧a2V fm 0 (done++rest)∧a1m (done++rest)=total∧a4o (done++rest)=l∧
   y0s a6c (l,(sz:Int),effort,(total:Int),(((a0V done).length:Nat):Int),(st:Int),b9a fm total done,fm,())=some (.inl (b9a fm total (done++rest),())):=by
 obtain⟨S,T,f3,f4,U,V⟩:=id D;have e:1≤ch∧ch≤8:=by omega
 intro k
 induction k with
 |zero=>
  intro st done E j o y r A;have hm:min st total=total:=by omega
  have P:decide ((st:Int)<(total:Int))=false:=by simp_all
  rw[hm]at j o;refine⟨[],by simpa[b9Y]using E,by simp_all,by simp_all,by grind,?_⟩;rw[a92];exact a0F (by simp only[a6c,P,cF])
 |succ k ih=>
  intro st done E j o y r A
  by_cases hlt:st<total
  have t:min st total=st:=by omega
  rw[t]at j o;obtain⟨en,Z⟩:∃en,min (st+sz) total=en:=⟨_,rfl⟩;have C:st<en∧en≤total∧en≤st+sz:=by omega
  have s:en*ch≤l.length:=by simp_all[a03]
  have h6:st*ch≤en*ch:=a03 _ (by omega);have h1:l.length≤200*8:=by rw[hl];exact a06 ht e.2
  have h:=c1j (st:=st) s;have f:=c8Y (ch:=ch) (st:=st) (en:=en) b;have c:=d2w (w:=fm.2.2.1) h e (by omega) ⟨U,V⟩ f;have h2:=b4N (w:=fm.2.2.1) h e.1;have h4:=d2x (w:=fm.2.2.1) h e.1;have v:=d2D D a (l:=a1J l ch st en) (n:=en-st) (by omega) h f;obtain⟨g,p,m1,i⟩:=d2v (fm:=fm) c (by omega) ⟨S,T⟩ (by simp_all[a5M,a1D]) rfl (st:=st) (by omega) X Y;have d:=i.2.2.2.2.1;have B:=b5X c (w:=fm.2.2.1) rfl (a4o done);obtain⟨x,hx⟩:∃x:Pc,x=(((st:Int),g),a5M fm.2.2.1 (a1J l ch st en) ch,p):=⟨_,rfl⟩;have x1:x.1=((st:Int),g):=by grind
  have x2:x.2.1=a5M fm.2.2.1 (a1J l ch st en) ch:=by grind
  have K:x.2.2=p:=by grind
  rw[←hx]at i;have u:=i.2.2.2.2.2.2.2.2.2.2;rw[K]at u;have h5:=b2n y;have m:a1m (done++[x])=min (st+sz) total:=by grind[a5L]
  have q:a4o (done++[x])=l.take (min (st+sz) total*ch):=by grind[b2m,c8X]
  have z:a2V fm 0 (done++[x]):=c1i y (by simp_all);obtain⟨rest,k1,F,G,H,I⟩:=ih (st+sz) (done++[x]) (by omega) m q z (by grind) (by omega);have Q:done++[x]++rest=done++x::rest:=by simp
  rw[Q]at F G H I;refine⟨x::rest,⟨hlt,by simp_all,by simp_all,i,k1⟩,F,G,H,?_⟩;rw[←I];have q1:wrap .i64 ((v0s (wrap .i64 ((st:Int)+(sz:Int))) (total:Int))*(ch:Int))=((en*ch:Nat):Int):=by
   rw[a0B (n:=(st:Int)+(sz:Int)) (by omega),b0Q,show min ((st:Int)+(sz:Int)) (total:Int)=(en:Int)from by omega,←a91,a0B (by omega)]
  have q2:wrap .i64 ((st:Int)*(ch:Int))=((st*ch:Nat):Int):=by grind[a0B]
  have L:decide ((0:Int)≤((en*ch:Nat):Int))=true:=decide_eq_true (a04 _);have M:decide (((en*ch:Nat):Int)≤((l.length:Nat):Int))=true:=decide_eq_true (by omega);have N:decide ((0:Int)≤((st*ch:Nat):Int))=true:=decide_eq_true (a04 _);have O:decide (((st*ch:Nat):Int)≤((en*ch:Nat):Int))=true:=decide_eq_true (by omega);have R:a45 (st*ch) (a35 (en*ch) l)=a1J l ch st en:=rfl;have n0:((0:Int) != 0)=false:=rfl;have w1:wrap .i64 ((((a0V done).length:Nat):Int)+((p.length:Nat):Int))=(((a0V (done++[x])).length:Nat):Int):=by
   rw[a7A,lN,K,a0B (by omega)];rfl
  have w2:wrap .i64 ((st:Int)+(sz:Int))=((st+sz:Nat):Int):=by grind[a0B]
  refine a0E ?_
  simp only[a6c,dlt hlt,cT,a,q1,q2,L,M,N,O,a02,tN,R,v,oB,n0,cF,m1,d,b9a]
  erw[B]
  simp only[oB,a8P,a16,a0T (show done.length+1<2147483648 by omega),cT,w1,w2];simp_all[a2B,b2m,b1F]
  grind
theorem b7c{l:List Int}(a:l.length≤10000){fm:a0I}(f:4≤fm.2.2.1∧fm.2.2.1≤24)(sz effort h:Int):∀(rest done:List Int),done++rest=l→rest.all (fun x=>a1h x fm.2.2.1)=true→
  y0s a6b (l,sz,effort,h,l,(l.length:Int),(done.length:Int),fm,())=some (.inl (l,sz,effort,h,fm,()))
 | [],done,hd,_=>by
  obtain rfl:done=l:=by simp_all
  simp_all[a0F,a6b]
 |x::rest,done,hd,hfit=>by
  have g:done.length<l.length:=by grind
  have k:m0k l (done.length:Int)=some x:=by grind[a0D]
  simp only[a36,bA]at hfit;rw[a0E (s':=(l,sz,effort,h,l,(l.length:Int),(((done++[x]).length:Nat):Int),fm,())) (by
   simp only[a6b,dlt g,cT,k,oB,b2S f,hfit.1,bT,cF,a0C (show done.length<1000000 by omega)]
   simp)]
  exact b7c a f sz effort h rest (done++[x]) (by simp_all) hfit.2
theorem c9d{fm:a0I}(k:a2k fm){ch:Nat}(f:fm.2.1=(ch:Int)){l:List Int}{total sz:Nat}(b:l.length=total*ch)(e:total≤200)(B:1≤sz∧sz≤64)(g:l.all (fun x=>a1h x fm.2.2.1)=true){effort:Int}(y:0≤effort)(z:effort≤3):
  ∃h,b9Y fm l ch sz total effort 0 h∧a2V fm 0 h∧a1m h=total∧a4o h=l∧h.length≤256∧a6p (fm,l,(sz:Int),effort)=some (a5N fm h,0):=by
 obtain⟨h,C,c,j,m,o⟩:=d1a k f b e B g y z 200 0 [] (by omega) (by rfl) (by simp[a4o]) trivial (by simp) (by omega);rw[a20]at c j m o;have i:h.length≤256:=by grind[b5U]
 obtain⟨F,G,H,I,v,w⟩:=id k;have d:1≤ch∧ch≤8:=by omega
 have A:l.length≤200*8:=by rw[b];exact a06 e d.2
 have a:=b7c (l:=l) (fm:=fm) (by omega) ⟨v,w⟩ (sz:Int) effort (total:Int) l [] rfl g;have p:decide ((sz:Int)<1)=false:=by grind
 have q:decide ((sz:Int) > 4096)=false:=by grind
 have r:decide (effort<0)=false:=by simp_all
 have s:decide (effort > 3)=false:=by simp_all
 have c0:((ch:Int)==0)=false:=by grind
 have D:a39 ((l.length:Nat):Int) (ch:Int)=0:=by
  simp_all
 have E:wrap .i64 (a23 ((l.length:Nat):Int) (ch:Int))=(total:Int):=by
  rw[show a23 ((l.length:Nat):Int) (ch:Int)=((l.length / ch:Nat):Int)from rfl,b,a78 _ d.1,a0B (by omega)]
 have t:decide ((total:Int) > 4194304)=false:=by grind
 have s0:((sz:Int)==0)=false:=by grind
 have u:decide ((wrap .i64 (a23 (wrap .i64 ((wrap .i64 ((total:Int)+(sz:Int)))-(1:Int))) (sz:Int))) > (4096:Int))=false:=by
  rw[a0B (n:=(total:Int)+(sz:Int)) (by omega),a0B (n:=(total:Int)+(sz:Int)-1) (by omega),show((total:Int)+(sz:Int)-1)=((total+sz-1:Nat):Int)from by omega,show a23 ((total+sz-1:Nat):Int) (sz:Int)=(((total+sz-1) / sz:Nat):Int)from rfl];have L:=a90 (total+sz-1) sz
  grind[a0B]
 have K:b9a fm total h=mkT fm h:=by simp_all[b9a,mkT]
 have hp:=c1o k c i;refine⟨h,C,c,j,m,i,?_⟩;unfold a6p;simp only[a4E,k,decide_true,oB,bT,cF,p,q,r,s,f,c0,D,show((0:Int) != 0)=false from rfl,E,t,s0,u]
 erw[a]
 simp
 erw[o]
 simp_all
theorem c4l(f:a0I):b1w f=some (decide (a2k f)):=by
 unfold b1w a2k
 grind
def crE(s:BitVec 16):BitVec 16:=bif s.msb then(s <<< 1) ^^^ 32773#16 else s <<< 1
theorem c5X(s t:BitVec 16):crE (s ^^^ t)=crE s ^^^ crE t:=by
 unfold crE;rw[BitVec.msb_xor,BitVec.shiftLeft_xor_distrib];cases s.msb<;>cases t.msb<;>simp only[cT,cF,Bool.xor_true,Bool.xor_false,bT,a42];rw[a18];rw[a18,a18,a65 (t <<< 1)];rw[a18,a65 32773#16,a18,BitVec.xor_self,a93]
theorem d1b{s:BitVec 16}(h:crE s=0):s=0:=by
 unfold crE at h;cases hm:s.msb with
 |true=>
  rw[hm,cT]at h
  have:=congrArg (fun x=>a69 x 0) h
  simp at this
 |false=>
  rw[hm,cF]at h;refine a64 fun i hi=>?_
  by_cases h15:i=15
  subst h15;rw[a57]at hm;simpa using hm
  have:=congrArg (fun x=>a69 x (i+1)) h
  simp at this;simpa using this (by omega)
theorem d5K:crE 0=0:=by decide
theorem b7K{s:BitVec 16}:∀{n:Nat},rep crE n s=0→s=0
 |0,h=>h
 |n+1,h=>d1b (b7K (n:=n) h)
theorem d1M:∀n:Nat,rep crE n 0=0
 |0=>rfl
 |n+1=>by
  show rep crE n (crE 0)=0;rw[d5K,d1M n]
def crB(b:Bool):BitVec 16:=bif b then 32768#16 else 0#16
def crS(s:BitVec 16)(b:Bool):BitVec 16:=crE (s ^^^ crB b)
def crT:List Bool→BitVec 16
 | []=>0#16
 |b::w=>crB b ^^^ (crT w >>> 1)
theorem d2G(b:Bool)(j:Nat):(crB b).getLsbD j=(b&&decide (j=15)):=by
 cases b with
 |false=>simp[crB]
 |true=>
  simp only[crB,cT,a58];rw[show(32768#16)=BitVec.ofNat 16 (2^15)from rfl,BitVec.getLsbD_ofNat,Nat.testBit_two_pow]
  by_cases h:j=15
  subst h;rfl;rw[decide_eq_false (by omega:¬ (15=j)),decide_eq_false h,Bool.and_false]
theorem b6k:∀(w:List Bool)(j:Nat),(crT w).getLsbD j=(decide (j<16)&&w.getD (15-j) false)
 | [],j=>by simp[crT]
 |b::w,j=>by
  rw[crT,BitVec.getLsbD_xor,d2G,a34,b6k w]
  by_cases h:j=15
  subst h;simp
  by_cases h2:j<16
  rw[show 15-j=(15-(1+j))+1 from by omega,a75];simp[h,h2,show 1+j<16 from by omega];simp[h,h2,show ¬ (1+j<16)from by omega]
theorem d1c{w:List Bool}(h:w.length≤15):crE (crT w >>> 1)=crT w:=by
 have f:(crT w >>> 1).msb=false:=by
  rw[a57,a34,b6k];simp
 unfold crE;rw[f,cF];refine a64 fun i hi=>?_
 rw[BitVec.getLsbD_shiftLeft,a34];cases i with
 |zero=>
  have g:(crT w).getLsbD 0=false:=by
   rw[b6k,lD,List.getElem?_eq_none (by omega)];rfl
  rw[g];simp
 |succ i=>rw[show 1+(i+1-1)=i+1 from by omega];simp[hi]
theorem d4b:∀(w:List Bool)(s:BitVec 16),w.length≤16→w.foldl crS s=rep crE w.length (s ^^^ crT w)
 | [],s,_=>by simp[crT,rep]
 |b::w,s,h=>by
  rw[lC]at h;rw[a66,d4b w _ (by omega),crT,←a18];show _=rep crE w.length (crE (s ^^^ crB b ^^^ (crT w >>> 1)));rw[c5X,d1c (by omega)];rfl
theorem c4m{α:Type}(f g:α→Bool):∀(L:List α)(s t:BitVec 16),(L.map fun j=>xor (f j) (g j)).foldl crS (s ^^^ t)=(L.map f).foldl crS s ^^^ (L.map g).foldl crS t
 | [],_,_=>rfl
 |a::L,s,t=>by
  simp only[a37,a66];rw[←c4m f g L];congr 1;unfold crS;rw[←c5X];congr 1
  have:crB (xor (f a) (g a))=crB (f a) ^^^ crB (g a):=by cases f a<;>cases g a<;>rfl
  rw[this];simp only[a18];rw[←a18 t,a65 t,a18]
theorem b4S:∀(n:Nat)(s:BitVec 16),(a05 n false).foldl crS s=rep crE n s
 |0,_=>rfl
 |n+1,s=>by
  rw[List.replicate_succ,a66,b4S n];show rep crE n (crE (s ^^^ 0#16))=rep crE n (crE s);rw[a93]
theorem d5L{w:List Bool}(h:w.length≤16)(f:true∈w)(k m:Nat):(a05 k false++(w++a05 m false)).foldl crS 0≠0:=by
 rw[a46,a46,b4S,b4S,d1M,d4b w _ h];intro e;have e:=b7K (b7K e);have e:crT w=0:=by simpa using e
 obtain⟨i,hi,g⟩:=List.mem_iff_getElem.1 f
 have:=b6k w (15-i)
 rw[e,show 15-(15-i)=i from by omega,lD,lG hi,g]at this;simp at this;omega
def byb(c:Int):List Bool:=[7,6,5,4,3,2,1,0].map fun i=>c.toNat.testBit i
def b6l(p:List Int):List Bool:=p.flatMap byb
def b9Z(f t:Nat)(r:List Int):List Int:=a45 f (a35 t r)
def b1S(b:a1a)(f t:Nat):a1a:=(b.1,b.2.1.map (b9Z f t),())
theorem d4c{b:a1a}(hb:a1U b){f t:Nat}(r:f<t)(s:t≤a0K b):b1u (b,(f:Int),(t:Int),())=some (b1S b f t,0):=by
 obtain⟨o,-⟩:=b2U hb;have c:decide ((f:Int)<0)=false:=by simp only[decide_eq_false_iff_not];omega
 have d:decide ((f:Int)≥(t:Int))=false:=by simp only[decide_eq_false_iff_not];omega
 have e:decide ((t:Int) > ((a0K b:Nat):Int))=false:=by simp only[decide_eq_false_iff_not];omega
 have u:=hb.2.2.2.2.2.1;have h:=a1M (f:=a8C) (β:=a1a×(a1a×Unit)) b.2.1 (fun i (a:List (List Int))=>(b.2.1,((b.2.1.length:Nat):Int),(i:Int),((0:Int),([]:List (List Int)),()),(b.1,a,()),((f:Int),(t:Int),()),())) (fun a x=>.inl (a++[b9Z f t x])) (fun i a=>a.length=i) (fun a=>(((0:Int),([]:List (List Int)),()),(b.1,a,()),()))
  (fun i hi a k=>⟨fun q g=>by
   simp only[Sum.inl.injEq]at g;subst g;have v:=(o _ (a25 hi)).1;have j:decide ((0:Int)≤(t:Int))=true:=by simp
   have l:decide ((t:Int)≤((b.2.1[i].length:Nat):Int))=true:=by simp only[dT];omega
   have m:decide ((0:Int)≤(f:Int))=true:=by simp
   have n:decide ((f:Int)≤(t:Int))=true:=by simp only[dT];omega
   have p:=hb.2.2.2.1;refine⟨?_,by simp[k]⟩;simp only[a8C,dlt hi,cT,a0D hi,oB,tN,j,l,m,n,a02];rw[b2i (show short (a45 f (a35 t b.2.1[i]))by unfold short;rw[a62,a63];omega)];simp only[oB];rw[a0T (show a.length+1<2147483648 by omega),cT,a0C (show i<1000000 by omega)];rfl,fun b hb=>by cases hb⟩)
  (fun a k=>by simp only[a8C,dge,cF]) (a:=[]) rfl
 rw[b1f (fun x:List Int=>[b9Z f t x])]at h;simp only[nZ,a8c,c3S,a20]at h;unfold b1u;simp only[a6y,decide_eq_true hb,oB,bT,cF,c,d,a4V,e]
 erw[h]
 rfl
theorem b6m{b:a1a}(hb:a1U b){f t:Nat}(g:f<t)(k:t≤a0K b):a0K (b1S b f t)=t-f:=by
 unfold a0K b1S;have a:=hb.2.2.1;have h:0<b.2.1.length:=by omega
 have c:a0K b=(b.2.1[0]).length:=by unfold a0K;rw[b3p (d:=[]) h]
 rw[←b3p (d:=[]) (show 0<(b.2.1.map (b9Z f t)).length by simpa using h)];simp only[a87,b9Z,a62,a63];omega
theorem d4d{b:a1a}(hb:a1U b){f t:Nat}(e:f<t)(i:t≤a0K b):a1U (b1S b f t):=by
 have j:=b6m hb e i;obtain⟨g,k,a,c,o,p,d⟩:=hb;refine⟨g,k,by simpa[b1S]using a,by simpa[b1S]using c,by omega,by omega,lA.2 fun r l=>?_⟩;obtain⟨n,h,rfl⟩:=a40.1 l
 have:=lA.1 d n h
 simp only[bA,dT]at this;simp only[bA,dT];refine⟨by rw[j];simp only[b9Z,a62,a63];omega,lA.2 fun x m=>lA.1 this.2 x (a70 (a71 m))⟩
def d4e(c:Int):Prop:=0≤c∧c<256
def a9J(p:List Int)(j:Nat):Bool:=(p.getD (j / 8) 0).toNat.testBit (7-j%8)
theorem b7L:∀p:List Int,b6l p=(a01 (8*p.length)).map (a9J p)
 | []=>rfl
 |c::p=>by
  have e:b6l (c::p)=byb c++b6l p:=rfl;rw[e,b7L p,lC,show 8*(p.length+1)=8+8*p.length from by omega,a44,pA,a32];congr 1;refine a24 fun j _=>?_
  show a9J p j=a9J (c::p) (8+j);unfold a9J;rw[show(8+j) / 8=j / 8+1 from by omega,a75,show(8+j)%8=j%8 from by omega]
structure Turn (b k i:Nat) (p0 p:List Int) (sm:Bool):Prop where
 len:p.length=p0.length
 ok:∀c∈p,d4e c
 bit:∀j,a9J p j=xor (a9J p0 j) (decide (k≤j∧j<k+i)&&b.testBit (j-k))
 smk:sm=true↔∃t,t<i∧b.testBit t=true
 pre:p.take (k / 8)=p0.take (k / 8)
 same:sm=false→p=p0
theorem turned{b k:Nat}{p0 q:List Int}{s:Bool}(w:k<8*p0.length)(i:(b6l p0).foldl crS 0=0)(g:Turn b k (min 16 (8*p0.length-k)) p0 q s)(u:s=true):(b6l q).foldl crS 0≠0:=by
 obtain⟨n,r⟩:∃n,min 16 (8*p0.length-k)=n:=⟨_,rfl⟩;rw[r]at g;have e:b6l q=(a01 (8*p0.length)).map fun j=>xor (a9J p0 j) (decide (k≤j∧j<k+n)&&b.testBit (j-k)):=by
  rw[b7L,g.len];exact a24 fun j _=>g.bit j
 have h:=c4m (a9J p0) (fun j=>decide (k≤j∧j<k+n)&&b.testBit (j-k)) (a01 (8*p0.length)) 0 0;have a:∀x:BitVec 16,(0:BitVec 16) ^^^ x=x:=fun _=>BitVec.zero_xor;rw[a,←e,←b7L,i,a]at h;rw[h];obtain⟨m,p⟩:∃m,8*p0.length=k+(n+m):=⟨8*p0.length-k-n,by omega⟩;rw[p,a44,a44,pA,pA,pA,a32,a32,a32];have c:(a01 k).map (fun j=>decide (k≤j∧j<k+n)&&b.testBit (j-k))=a05 k false:=by
  rw[a68];refine⟨by simp,fun x f=>?_⟩;obtain⟨j,o,rfl⟩:=a40.1 f
  grind
 have d:(a01 m).map (((fun j=>decide (k≤j∧j<k+n)&&b.testBit (j-k))∘(k+·))∘(n+·))=a05 m false:=by
  rw[a68];refine⟨by simp,fun x f=>?_⟩;obtain⟨j,o,rfl⟩:=a40.1 f
  grind
 rw[c,d];refine d5L (by simp;omega) ?_ k m;obtain⟨t,l,v⟩:=g.smk.1 u;refine a40.2 ⟨t,a43.2 l,?_⟩;simp_all
theorem c9e(l:List Int):b2Y (l,l)=some true:=by
 simp_all[b2Y]
theorem c9f(f:a0I)(l:List Int)(m:Nat)(p:m≤1000):∃t,b2d (f,l,(m:Int))=some t∧(t=true→a2k f∧l.length≤m∧l.all (fun x=>a1h x f.2.2.1)=true∧∃ch n:Nat,f.2.1=(ch:Int)∧l.length=n*ch):=by
 unfold b2d;simp only[c4l,oB]
 by_cases hf:a2k f
 ·simp only[hf,decide_true,bT,cF];cases hd:decide (((l.length:Nat):Int) > (m:Int))with
  |true=>exact⟨false,rfl,fun h=>by cases h⟩
  |false=>
   have k:l.length≤m:=by simp at hd;omega
   obtain⟨d,e,j,o,a,b⟩:=id hf;obtain⟨ch,g⟩:∃ch:Nat,f.2.1=(ch:Int):=⟨f.2.1.toNat,by omega⟩;have c0:((ch:Int)==0)=false:=by simp;omega
   have tm:a39 ((l.length:Nat):Int) (ch:Int)=((l.length%ch:Nat):Int):=rfl;simp only[cF,g,c0,tm,oB];cases c:(((l.length%ch:Nat):Int) != 0)with
   |true=>exact⟨false,rfl,fun h=>by cases h⟩
   |false=>
    have c:l.length%ch=0:=by simp at c;omega
    have h:=a2q (f:=a7m) l (fun i=>(l,(i:Int),f,())) (fun x=>a1h x f.2.2.1) (bt:=Sum.inl ()) (bf:=Sum.inr (false,()))
     (fun i hi hp=>by simp only[a7m,dlt hi,cT,a0D hi,oB,b5P ⟨a,b⟩,hp,bT,cF,a0C (show i<1000000 by omega)])
     (fun i hi hp=>by simp only[a7m,dlt hi,cT,a0D hi,oB,b5P ⟨a,b⟩,hp,a42])
     (by simp only[a7m,dge,cF])
    simp only[cF]
    erw[h]
    cases ha:l.all (fun x=>a1h x f.2.2.1)with
    |true=>exact⟨true,rfl,fun _=>⟨trivial,k,rfl,ch,l.length / ch,rfl,by have:=Nat.div_add_mod l.length ch;rw[a41];omega⟩⟩
    |false=>exact⟨false,rfl,fun h=>by cases h⟩
 simp only[hf,decide_false,a42,cT];exact⟨false,rfl,fun h=>by cases h⟩
theorem d2H{fm:a0I}(c:a2k fm){ch:Nat}(f:fm.2.1=(ch:Int)){l:List Int}{total:Nat}(j:l.length=total*ch)(m:total≤200)(g:l.all (fun x=>a1h x fm.2.2.1)=true)(size effort:Int):
  ∃(sz:Nat)(eff:Int)(h:List Pc),1≤sz∧sz≤64∧wrap .i64 (1+bits .i64 .and size 63)=(sz:Int)∧bits .i64 .and effort 3=eff∧0≤eff∧eff≤3∧b9Y fm l ch sz total eff 0 h∧a2V fm 0 h∧a1m h=total∧a4o h=l∧h.length≤256∧
   b0D (fm,l,size,effort)=some (a5N fm h,mkT fm h,true):=by
 obtain⟨v,hv,k⟩:=c7B 6 (by omega) size;obtain⟨w,a,b⟩:=c7B 2 (by omega) effort;rw[show((2^6-1:Nat):Int)=63 from rfl]at hv;rw[show((2^2-1:Nat):Int)=3 from rfl]at a;have n:v<64:=k;have o:w<4:=b;have d:wrap .i64 (1+(v:Int))=((v+1:Nat):Int):=by rw[a0B (by omega)];omega
 obtain⟨h,p,e,q,r,i,s⟩:=c9d c f j m (sz:=v+1) (by omega) g (effort:=(w:Int)) (by omega) (by omega);refine⟨v+1,w,h,by omega,by omega,by rw[hv];exact d,a,by omega,by omega,p,e,q,r,i,?_⟩;unfold b0D;simp only[hv,a,d,s,oB,b8Z c e i,beq_self_eq_true,cT]
@[reducible] def d5M:Type:=Int×(a0I×(List a0I×(List Sub×Unit)))
@[reducible] def Pp:Type:=d5M×a1a
def gOk(fm:a0I)(q:Pp):Prop:=a0K q.2≤64∧a1U q.2∧fm.2.1=((q.2.2.1.length:Nat):Int)∧∀st:Nat,st+a0K q.2≤4194304→∃p,b7G fm st (((st:Int),q.1),q.2,p)
theorem c9g{b:a1a}{fm:a0I}(hb:a1U b)(e:a0K b≤64)(l:1≤fm.1∧fm.1≤1048576)(i:fm.2.1=((b.2.1.length:Nat):Int))(h:fm.2.2.1=b.1){st:Nat}(d:st+a0K b≤4194304){effort:Int}(n:0≤effort)(o:effort≤3):
  ∃g,a2S (b,fm,(st:Int),effort)=some (((st:Int),g),0)∧gOk fm (g,b):=by
 obtain⟨rate,ch,bits,u⟩:=fm;cases u;simp only at l i h;subst i h;obtain⟨g,q,r,s,w,x,m,t⟩:=made hb (by omega) (rate:=rate) (start:=(st:Int)) (effort:=effort) l (by omega) n o;refine⟨g,q,e,hb,rfl,fun st d=>?_⟩;have d:st+a0K b≤4194304:=d;have a:=t (st:Int) (by omega);obtain⟨L,p,-,j,c⟩:=b8O (f:=((st:Int),g)) m a;have k:=b7E (f:=((st:Int),g)) m;rw[a]at k;have v:=b4I (b2T a).1 p;refine⟨a4U ((st:Int),g) L,rfl,r,s,k,j,c,hb,rfl,e,?_,?_⟩
 all_goals grind[a4U]
def c7M(f:a1c):List Int:=match a2z f with
 |some (p,_)=>p
 |none=>[]
def b4T(st:Nat)(q:Pp):Pc:=(((st:Int),q.1),q.2,c7M ((st:Int),q.1))
def pcs:Nat→List Pp→List Pc
 |_,[]=>[]
 |st,q::qs=>b4T st q::pcs (st+a0K q.2) qs
def a0Z(qs:List Pp):Nat:=(qs.map fun q=>a0K q.2).sum
def a2l(qs:List Pp):List Int:=qs.flatMap fun q=>wvB q.2
def a3Z(fm:a0I)(qs:List Pp):Prop:=∀q∈qs,gOk fm q
theorem c5Y{f:a1c}{p:List Int}{e:Int}(h:a2z f=some (p,e)):c7M f=p:=by unfold c7M;rw[h]
theorem b6n{fm:a0I}{q:Pp}(h:gOk fm q){st:Nat}(g:st+a0K q.2≤4194304):b7G fm st (b4T st q):=by
 obtain⟨p,hp⟩:=h.2.2.2 st g
 have:=c5Y hp.2.2.2.2.1
 simp_all[b4T]
theorem a8m(q:Pp)(h:List Pp):a0Z (q::h)=a0K q.2+a0Z h:=by rfl
theorem d1d(a b:List Pp):a0Z (a++b)=a0Z a+a0Z b:=by simp[a0Z]
theorem b7M{fm:a0I}{a b:List Pp}(g:a3Z fm a)(hb:a3Z fm b):a3Z fm (a++b):=fun q h=>(mA.1 h).elim (g q) (hb q)
theorem c0A{fm:a0I}:∀{qs:List Pp}{st:Nat},a3Z fm qs→st+a0Z qs≤4194304→a2V fm st (pcs st qs)
 | [],_,_,_=>trivial
 |q::qs,st,h,hs=>by
  rw[a8m]at hs;exact⟨b6n (h q (by simp)) (by omega),c0A (st:=st+a0K q.2) (fun r g=>h r (by simp[g])) (by omega)⟩
theorem a5n:∀(qs:List Pp)(st:Nat),(pcs st qs).length=qs.length
 | [],_=>rfl
 |_::qs,_=>congrArg (·+1) (a5n qs _)
theorem a6T:∀(qs:List Pp)(st:Nat),a1m (pcs st qs)=a0Z qs
 | [],_=>rfl
 |q::qs,st=>by
  have:=a6T qs (st+a0K q.2)
  rw[a8m,←this];simp[pcs,a1m,b4T]
theorem b2V:∀(qs:List Pp)(st:Nat),a4o (pcs st qs)=a2l qs
 | [],_=>rfl
 |q::qs,st=>by
  have:=b2V qs (st+a0K q.2)
  simp only[a2l,a4o,pcs,a31]at *;rw[this];rfl
theorem c0B:∀(a b:List Pp)(st:Nat),pcs st (a++b)=pcs st a++pcs (st+a0Z a) b
 | [],_,_=>rfl
 |q::a,b,st=>by
  simp_all[pcs,c0B,a8m,a59]
theorem c7N{b:a1a}(hb:a1U b):a5M b.1 (wvB b) b.2.1.length=b:=by
 obtain⟨w,h,u⟩:=b;obtain⟨-,-,d,-,-,-,l⟩:=hb;simp only at d l;have a:∀r∈h,r.length=a0K (w,h,u):=fun r a=>by
  simp_all
 generalize hn:a0K (w,h,u)=n at a;unfold a5M wvB;rw[hn];have m:wv n h=(a01 (n*h.length)).map fun j=>(h.getD (j%h.length) []).getD (j / h.length) 0:=by
  rw[←c7E (fun j=>(h.getD (j%h.length) []).getD (j / h.length) 0) h.length n];refine b4L fun i hi=>?_
  refine a26 (by simp) fun c e g=>?_
  have f:c<h.length:=by simp_all
  simp[a41 i,a94,a22 f,a95 (show 0<h.length by omega),a88 f,f]
 have hp:a1D (wv n h) h.length=h:=by
  refine a26 (by simp[a1D]) fun c e g=>?_
  simp[a1D];rw[b3r (n:=n) (by simp_all) g];refine a26 (by simp_all) fun i o p=>?_
  have hi:i<n:=by simp_all
  have k:i*h.length+c<n*h.length:=by
   have:(i+1)*h.length≤n*h.length:=a03 _ hi
   grind
  simp only[a87,List.getElem_range];rw[m,b9W _ k,a41 i,a94,a22 g,a95 (by omega),a88 g];simp_all
 simp_all
def b1T(fm:a0I)(a b:Nat):Nat→List Pp→List Pp→Prop
 |_,[],rs=>rs=[]
 |st,q::qs,rs=>
  if min (b-st) (a0K q.2)≤a-st then b1T fm a b (st+a0K q.2) qs rs
  else if min (b-st) (a0K q.2)-(a-st)=a0K q.2 then ∃rs',rs=q::rs'∧b1T fm a b (st+a0K q.2) qs rs'
  else ∃q' rs',rs=q'::rs'∧gOk fm q'∧q'.2=b1S q.2 (a-st) (min (b-st) (a0K q.2))∧b1T fm a b (st+a0K q.2) qs rs'
theorem b1g{fm:a0I}{a b:Nat}:∀{qs rs:List Pp}{st:Nat},a3Z fm qs→b1T fm a b st qs rs→a3Z fm rs
 | [],rs,st,_,h=>by
  simp[b1T]at h;simp_all
 |q::qs,rs,st,hg,h=>by
  have f:a3Z fm qs:=fun r g=>hg r (by grind);simp only[b1T]at h
  split at h
  exact b1g f h
  split at h
  obtain⟨k,rfl,h⟩:=h;intro r g;rcases mC.1 g with rfl|g;exact hg _ (by simp);exact b1g f h r g;obtain⟨d,k,rfl,c,-,h⟩:=h;intro r g;rcases mC.1 g with rfl|g;omega;exact b1g f h r g
theorem d2I{b:a1a}{ch f t:Nat}(hb:a1U b)(k:b.2.1=a1D (wvB b) ch)(c:(wvB b).length=a0K b*ch)(e:f<t)(g:t≤a0K b):wvB (b1S b f t)=a1J (wvB b) ch f t:=by
 have h:=d3P (d:=wvB b) (ch:=ch) (a:=f) c g;rw[←k]at h;unfold a1J;rw[←h];unfold wvB;rw[b6m hb e g];rfl
theorem c7O{l:List Int}{ch a b:Nat}(h:b≤a):a1J l ch a b=[]:=by
 grind[a1J,List.drop_eq_nil_iff,Nat.min_le_left,a03]
theorem c9h{w D:List Int}{ch k f t:Nat}(g:w.length=k*ch):a1J (w++D) ch f t=a1J w ch f (min t k)++a1J D ch (f-k) (t-k):=by
 by_cases h:t≤k
 simp_all[a03,a1J,List.take_append_of_le_length]
 grind[a03,a1J,List.take_append,List.take_of_length_le,List.drop_append,a85]
theorem d1e{fm:a0I}{q:Pp}(h:gOk fm q){ch f t:Nat}(g:q.2.2.1.length=ch)(k:f<t)(a:t≤a0K q.2):wvB (b1S q.2 f t)=a1J (wvB q.2) ch f t:=by
 have hp:=c7N h.2.1;rw[g]at hp;exact d2I h.2.1 (congrArg (fun b:a1a=>b.2.1) hp).symm (by rw[b2v,g]) k a
theorem d4f{fm:a0I}{q:Pp}(h:gOk fm q){ch:Nat}(g:fm.2.1=(ch:Int)):q.2.2.1.length=ch:=by
 have:=h.2.2.1
 omega
theorem a9K{fm:a0I}{ch:Nat}(k:fm.2.1=(ch:Int)){a b:Nat}(c:a≤b):∀{qs rs:List Pp}{st:Nat},a3Z fm qs→b1T fm a b st qs rs→
  a0Z rs=min b (st+a0Z qs)-max a st∧a2l rs=a1J (a2l qs) ch (a-st) (b-st)
 | [],rs,st,_,h=>by
  simp[b1T]at h;grind[a0Z,a2l,a1J]
 |q::qs,rs,st,hg,h=>by
  have l:a3Z fm qs:=fun r A=>hg r (by grind);have j:=hg q (by simp);have d:=d4f j k;have m:(wvB q.2).length=a0K q.2*ch:=by rw[b2v,d]
  have y:a2l (q::qs)=wvB q.2++a2l qs:=rfl;have split:a1J (a2l (q::qs)) ch (a-st) (b-st)=a1J (wvB q.2) ch (a-st) (min (b-st) (a0K q.2))++a1J (a2l qs) ch (a-(st+a0K q.2)) (b-(st+a0K q.2)):=by
   grind[c9h]
  simp only[b1T]at h;rw[a8m,split]
  split at h
  rename_i w;obtain⟨n,e⟩:=a9K k c l h
  grind[c7O]
  split at h
  rename_i i v;obtain⟨g,rfl,h⟩:=h;obtain⟨n,e⟩:=a9K k c l h;refine⟨by grind[a8m],?_⟩;rw[show a2l (q::g)=wvB q.2++a2l g from rfl,e];congr 1;have p:a-st=0:=by omega
  have s:min (b-st) (a0K q.2)=a0K q.2:=by omega
  rw[p,s];simp[a1J,←m];rename_i i v;obtain⟨o,g,rfl,x,u,h⟩:=h;obtain⟨n,e⟩:=a9K k c l h;have z:=b6m j.2.1 (f:=a-st) (t:=min (b-st) (a0K q.2)) (by omega) (by omega);refine⟨by grind[a8m],?_⟩;rw[show a2l (o::g)=wvB o.2++a2l g from rfl,e,u,d1e j d (by omega) (by omega)]
theorem c4n{fm:a0I}{q:Pp}(h:gOk fm q):1≤a0K q.2:=h.2.1.2.2.2.2.1
theorem a9L{fm:a0I}:∀{qs:List Pp},a3Z fm qs→a0Z qs≤64*qs.length∧qs.length≤a0Z qs
 | [],_=>⟨a29 _,a29 _⟩
 |q::qs,h=>by
  have:=a9L fun r g=>h r (List.mem_cons_of_mem _ g)
  have f:=(h q (by simp)).1;have k:=c4n (h q (by simp));rw[a8m,lC];omega
theorem c7P{fm:a0I}{qs:List Pp}(h:a3Z fm qs)(g:qs.length≤256):a2V fm 0 (pcs 0 qs):=c0A h (by grind[a9L])
def a9m(fm:a0I)(qs:List Pp):List Int:=a5N fm (pcs 0 qs)
def mkQ(fm:a0I)(qs:List Pp):b5T:=mkT fm (pcs 0 qs)
theorem b6a{fm:a0I}(g:a2k fm){qs:List Pp}(h:a3Z fm qs)(f:qs.length≤256):a1K (a9m fm qs)=some (mkQ fm qs,0):=b8Z g (c7P h f) (by rw[a5n];omega)
theorem c9i{fm:a0I}(g:a2k fm){qs:List Pp}(h:a3Z fm qs)(f:qs.length≤256):a2T (mkQ fm qs)=some (a2l qs,0):=by
 have:=c7K g (c7P h f) (by rw[a5n];omega)
 rw[b2V]at this;exact this
def a1d(qs:List Pp):List a1c:=(pcs 0 qs).map (·.1)
theorem b9b:∀(qs:List Pp)(st:Nat),((pcs st qs).map (·.1)).map (·.2)=qs.map (·.1)
 | [],_=>rfl
 |q::qs,st=>by simp only[pcs,a37,b9b qs];rfl
theorem b9c(fm:a0I)(h:List Pp):(mkQ fm h).2.2.2.2.1=a1d h:=rfl
theorem d4g{α β:Type}{l:List α}{g:α→β}{A B:List β}{b:β}(h:l.map g=A++b::B):∃a,m0k l (A.length:Int)=some a∧g a=b∧A.length<l.length:=by
 have f:A.length<l.length:=by have:=congrArg a08 h;grind
 refine⟨l[A.length],a0D f,?_,f⟩
 have:=congrArg (fun x=>x[A.length]?) h
 grind
theorem c4o{fm:a0I}{qs:List Pp}(j:a3Z fm qs)(M:qs.length≤256){fs:List a1c}(h:fs.map (·.2)=qs.map (·.1)):∀(rest done:List Pp),done++rest=qs→
  y0s a4k ((((a0V (pcs 0 done)).length:Nat):Int),fs,(fs.length:Int),(done.length:Int),mkQ fm done,())=some (.inl (mkQ fm qs,()))
 | [],done,he=>by
  obtain rfl:done=qs:=by simp_all
  have K:fs.length=done.length:=by have:=congrArg a08 h;grind
  simp_all[a0F,a4k]
 |q::rest,done,he=>by
  have C:=j q (by grind);have f:a3Z fm done:=fun r T=>j r (by grind);have I:done.length<qs.length:=by grind
  have K:fs.length=qs.length:=by have:=congrArg a08 h;grind
  obtain⟨U,d,x,-⟩:=d4g (l:=fs) (g:=(·.2)) (A:=done.map (·.1)) (b:=q.1) (B:=rest.map (·.1)) (by grind);rw[a16]at d;have L:=a9L f;have c:=C.1;have s:=b6n C (st:=a0Z done) (by omega);obtain⟨O,E,P,F,G,-,e,Q,-,y,z⟩:=id s;simp[b4T]at O E P F G e Q y z;have hb:=b2n (c0A f (st:=0) (by omega));rw[a5n]at hb;have t:=c5V e;have N:(a1B q.2.1 (wvB q.2)).length≤3*(64*8):=by
   have:=b8T (w:=q.2.1) ⟨e.1,e.2.1⟩ (wvB q.2)
   have S:(wvB q.2).length≤64*8:=by rw[b2v];exact a06 c e.2.2.2.1
   omega
  have u:=c4e (l:=a1B q.2.1 (wvB q.2)) (by unfold short;omega) (b5R _ _);have m:=c5U (a:=prI (a1B fm.2.2.1 (a2l done))) (b:=prI (a1B q.2.1 (wvB q.2))) (n:=(a1B q.2.1 (wvB q.2)).length) (b4a _) (b4a _) (by omega);have p:prI (a1B fm.2.2.1 (a2l (done++[q])))=(prI (a1B fm.2.2.1 (a2l done))*(1000003^(a1B q.2.1 (wvB q.2)).length%prm)+prI (a1B q.2.1 (wvB q.2)))%prm:=by
   simp_all[b8U,c5S,a2l]
  have H:pcs 0 (done++[q])=pcs 0 done++[b4T (a0Z done) q]:=by rw[c0B,a33];rfl
  have D:((0:Int) != 0)=false:=rfl;have R:wrap .i64 ((((a0V (pcs 0 done)).length:Nat):Int)+(((c7M ((a0Z done:Int),q.1)).length:Nat):Int))=(((a0V (pcs 0 (done++[q]))).length:Nat):Int):=by
   grind[a7A,a0B,b4T]
  have w2:wrap .i64 ((done.length:Int)+1)=(((done++[q]).length:Nat):Int):=by grind[a0B]
  have o:mkQ fm done=(fm,((a0Z done:Nat):Int),((prI (a1B fm.2.2.1 (a2l done)):Nat):Int),a2W 0 0 (pcs 0 done),a1d done,()):=by
   simp_all[mkQ,mkT,a2B,a6T,b2V,a1d]
  have k:mkQ fm (done++[q])=(fm,wrap .i64 (((a0Z done:Nat):Int)+q.1.1),((prI (a1B fm.2.2.1 (a2l (done++[q]))):Nat):Int),a2W 0 0 (pcs 0 done)++[(((a0Z done:Nat):Int),(((a0V (pcs 0 done)).length:Nat):Int),())],a1d done++[(((a0Z done:Nat):Int),q.1)],()):=by
   simp only[mkQ,mkT,a2B,a6T,b2V,a1d,d1d];rw[H,b1F,a6T,pA,a33,a33,E,a0B (by omega)];rfl
  rw[a0E (s':=((((a0V (pcs 0 (done++[q]))).length:Nat):Int),fs,(fs.length:Int),(((done++[q]).length:Nat):Int),mkQ fm (done++[q]),())) (by
   simp only[a4k,dlt (show done.length<fs.length by omega),cT,d,oB,o];rw[x,G];simp only[oB,D,cF];rw[F];simp only[oB,D,cF,t,u];rw[m];have v:(a2W 0 0 (pcs 0 done)).length=done.length:=by rw[a8P,a5n]
   have i:(a1d done).length=done.length:=by simp[a1d,a5n]
   simp only[oB,v,i,a0T (show done.length+1<2147483648 by omega),cT,R,w2,←p,k];rfl)]
  exact c4o j M h rest (done++[q]) (by simp_all)
theorem c9j{fm:a0I}(a:a2k fm){qs:List Pp}(f:a3Z fm qs)(k:qs.length≤256){fs:List a1c}(g:fs.map (·.2)=qs.map (·.1)):a4e (fm,fs)=some (a9m fm qs,0):=by
 have h:=c4o f k g qs [] rfl;have hp:=c1o a (c7P f k) (by rw[a5n];omega);have e:mkQ fm []=(fm,(0:Int),(0:Int),([]:List (Int×Int×Unit)),([]:List a1c),()):=by
  rfl
 rw[e]at h;unfold a4e
 erw[h]
 simp
 erw[hp]
 rfl
theorem c9k{fm:a0I}(d:a2k fm){q:Pp}(b:gOk fm q){st f t:Nat}(m:st+a0K q.2≤4194304)(k:f<t)(a:t≤a0K q.2){eff:Int}(j:0≤eff)(l:eff≤3):
  ∃g,a7Q (((st:Int),q.1),((f:Int),(t:Int),()),eff)=some (((0:Int),g),0)∧gOk fm (g,b1S q.2 f t):=by
 obtain⟨u,v,e,i,w,-,h,c,-,-,-⟩:=b6n b m;have e:q.1.2.1=fm:=e;have i:a2b ((st:Int),q.1)=some (q.2,0):=i;have h:a1U q.2:=h;have c:q.2.1=fm.2.2.1:=c;have n:=d4c h k a;have o:=b6m h k a;obtain⟨g,p,r⟩:=c9g (fm:=fm) (d4d h k a) (by have:=b.1;omega) ⟨d.1,d.2.1⟩ (by rw[b.2.2.1];simp[b1S]) (by rw[←c];rfl) (st:=0) (by omega) j l;have s:((0:Int) != 0)=false:=rfl;simp_all[a7Q]
theorem b4U{fm:a0I}(o:a2k fm){qs:List Pp}(i:a3Z fm qs)(x:qs.length≤256){a b:Nat}(c:a≤b)(hb:b≤a0Z qs){eff:Int}(m:0≤eff)(n:eff≤3)(T:b5T):
  ∀(rest done:List Pp)(fs:List a1c),done++rest=qs→fs.length≤done.length→∃k h,b1T fm a b (a0Z done) rest k∧h.map (·.2)=k.map (·.1)∧k.length≤rest.length∧
   y0s a3O (eff,a1d qs,((a1d qs).length:Int),(done.length:Int),fs,T,((a:Int),(b:Int),()),())=some (.inl (fs++h,T,()))
 | [],done,fs,he,_=>by
  obtain rfl:done=qs:=by simp_all
  have C:(a1d done).length=done.length:=by simp[a1d,a5n]
  rw[C];exact⟨[],[],rfl,rfl,a29 _,a0F (by simp_all[a3O])⟩
 |q::rest,done,fs,he,hfl=>by
  have p:=i q (by grind);have w:a3Z fm done:=fun r R=>i r (by grind);have K:done.length<qs.length:=by grind
  have C:(a1d qs).length=qs.length:=by simp[a1d,a5n]
  have L:a1d qs=a1d done++(((a0Z done:Nat):Int),q.1)::(pcs (a0Z done+a0K q.2) rest).map (·.1):=by
   rw[←he,a1d,c0B,pA,a33];rfl
  have y:m0k (a1d qs) (done.length:Int)=some (((a0Z done:Nat):Int),q.1):=by
   grind[a5n,b2w]
  have M:=a9L w;have D:=p.1;have O:=c4n p;have N:=(a9L i).1;obtain⟨U,l,V,-⟩:=b6n p (st:=a0Z done) (by omega);have l:q.1.1=((a0K q.2:Nat):Int):=l;have v:a0Z (done++[q])=a0Z done+a0K q.2:=by simp_all[a0Z]
  have e:done++[q]++rest=qs:=by simp_all
  have B:wrap .i64 ((a:Int)-((a0Z done:Nat):Int))=(a:Int)-((a0Z done:Nat):Int):=a0B (by omega);have w2:wrap .i64 ((b:Int)-((a0Z done:Nat):Int))=(b:Int)-((a0Z done:Nat):Int):=a0B (by omega);have H:wrap .i64 ((done.length:Int)+1)=(((done++[q]).length:Nat):Int):=by grind[a0B]
  have A:v0r ((a:Int)-((a0Z done:Nat):Int)) 0=((a-a0Z done:Nat):Int):=by rw[b6d];omega
  simp only[b1T]
  by_cases c1:min (b-a0Z done) (a0K q.2)≤a-a0Z done
  obtain⟨k,h,j,z,E,F⟩:=b4U o i x c hb m n T rest (done++[q]) fs e (by grind);rw[v]at j;refine⟨k,h,by simp_all,z,by grind,?_⟩;rw[a0E (s':=(eff,a1d qs,((a1d qs).length:Int),(((done++[q]).length:Nat):Int),fs,T,((a:Int),(b:Int),()),())) (by
   have d:decide (v0r (wrap .i64 ((a:Int)-((a0Z done:Nat):Int))) (0:Int)≥v0s (wrap .i64 ((b:Int)-((a0Z done:Nat):Int))) q.1.1)=true:=by
    rw[B,w2,A,b0Q,l];grind
   simp only[a3O,dlt (show done.length<(a1d qs).length by omega),cT,y,oB];simp_all)]
  omega;have s:a-a0Z done<min (b-a0Z done) (a0K q.2):=by omega
  have G:v0s ((b:Int)-((a0Z done:Nat):Int)) ((a0K q.2:Nat):Int)=((min (b-a0Z done) (a0K q.2):Nat):Int):=by rw[b0Q];omega
  have d:decide (v0r (wrap .i64 ((a:Int)-((a0Z done:Nat):Int))) (0:Int)≥v0s (wrap .i64 ((b:Int)-((a0Z done:Nat):Int))) q.1.1)=false:=by
   simp_all
  have I:wrap .i64 (((min (b-a0Z done) (a0K q.2):Nat):Int)-((a-a0Z done:Nat):Int))=((min (b-a0Z done) (a0K q.2)-(a-a0Z done):Nat):Int):=by grind[a0B]
  simp only[if_neg c1]
  by_cases c2:min (b-a0Z done) (a0K q.2)-(a-a0Z done)=a0K q.2
  obtain⟨k,h,j,z,E,F⟩:=b4U o i x c hb m n T rest (done++[q]) (fs++[(((a0Z done:Nat):Int),q.1)]) e (by simp_all);rw[v]at j;refine⟨q::k,(((a0Z done:Nat):Int),q.1)::h,by simp_all,by grind,by simp_all,?_⟩;rw[a0E (s':=(eff,a1d qs,((a1d qs).length:Int),(((done++[q]).length:Nat):Int),fs++[(((a0Z done:Nat):Int),q.1)],T,((a:Int),(b:Int),()),())) (by
   have u:decide (((min (b-a0Z done) (a0K q.2)-(a-a0Z done):Nat):Int)<((a0K q.2:Nat):Int))=false:=by simp_all
   simp only[a3O,dlt (show done.length<(a1d qs).length by omega),cT,y,oB];rw[d];simp only[cF];rw[B,w2,A,l,G,I,u];simp only[cF,oB,a0T (show fs.length+1<2147483648 by omega),cT,H];rfl)]
  simp_all;obtain⟨g,P,S⟩:=c9k o p (st:=a0Z done) (f:=a-a0Z done) (t:=min (b-a0Z done) (a0K q.2)) (by omega) s (by omega) m n;obtain⟨k,h,j,z,E,F⟩:=b4U o i x c hb m n T rest (done++[q]) (fs++[((0:Int),g)]) e (by simp_all);rw[v]at j;refine⟨(g,b1S q.2 (a-a0Z done) (min (b-a0Z done) (a0K q.2)))::k,((0:Int),g)::h,by grind,by grind,by simp_all,?_⟩;rw[a0E (s':=(eff,a1d qs,((a1d qs).length:Int),(((done++[q]).length:Nat):Int),fs++[((0:Int),g)],T,((a:Int),(b:Int),()),())) (by
   have u:decide (((min (b-a0Z done) (a0K q.2)-(a-a0Z done):Nat):Int)<((a0K q.2:Nat):Int))=true:=by grind
   have Q:((0:Int) != 0)=false:=rfl;simp only[a3O,dlt (show done.length<(a1d qs).length by omega),cT,y,oB];rw[d];simp only[cF];rw[B,w2,A,l,G,I,u];simp only[cT];rw[P];simp only[Q,cF,oB,a0T (show fs.length+1<2147483648 by omega),cT,H];rfl)]
  simp_all
theorem c7Q{fm:a0I}(f:a2k fm){qs:List Pp}(k:a3Z fm qs)(c:qs.length≤256){a b:Nat}(g:a≤b)(hb:b≤a0Z qs){eff:Int}(o:0≤eff)(p:eff≤3):
  ∃h,b1T fm a b 0 qs h∧h.length≤qs.length∧a4P (a9m fm qs,((a:Int),(b:Int),()),eff)=some (a9m fm h,0):=by
 obtain⟨h,n,d,r,s,t⟩:=b4U f k c g hb o p (mkQ fm qs) qs [] [] rfl (a29 _);have q:=c9j f (b1g k d) (by omega) r;refine⟨h,d,s,?_⟩;have e:decide (eff<0)=false:=by simp_all
 have i:decide (eff > 3)=false:=by simp_all
 have j:decide ((a:Int)<0)=false:=by rfl
 have l:decide ((a:Int) > (b:Int))=false:=by simp_all
 have m:decide ((b:Int) > (mkQ fm qs).2.1)=false:=by
  simp_all[mkQ,mkT,a6T]
 have u:((0:Int) != 0)=false:=rfl;unfold a4P;simp only[e,i,cF,oB,b6a f k c,u,j,l,m]
 erw[t]
 simp
 erw[q]
 rfl
theorem d2J{n:Nat}(h:n<2147483648):a1x ([],(n:Int))=some []:=by
 have w:wrap .i64 ((n:Int)-(0:Int))=(n:Int):=by grind[a0B]
 have g:decide ((n:Int)<0)=false:=by simp
 unfold a1x;simp only[g,cF,w]
 by_cases h0:n=0
 simp_all;have f:decide ((n:Int) > 0)=true:=by grind
 have k:decide (0≤(n:Int))=true:=by simp
 simp_all[a0T]
theorem c9l{A B:List a1c}(h:A.length+B.length≤100000):a1p [A,B]=some (A++B):=by
 have g:m0k [A,B] (0:Int)=some A:=rfl;have f:m0k [A,B] (1:Int)=some B:=rfl;have c:wrap .i64 ((0:Int)+(A.length:Int))=(A.length:Int):=by grind[a0B]
 have w2:wrap .i64 ((A.length:Int)+(B.length:Int))=((A.length+B.length:Nat):Int):=by grind[a0B]
 have k:decide ((A.length:Int)<0)=false:=by simp
 have a:decide (((A.length+B.length:Nat):Int)<0)=false:=by rfl
 have i0:y0s a1k ([A,B],(0:Int),[A,B],(2:Int),(0:Int),())=some ([A,B],((A.length+B.length:Nat):Int),()):=by
  rw[a0E (s':=([A,B],(A.length:Int),[A,B],(2:Int),(1:Int),())) (by
   simp only[a1k,g,oB,c,k,cF];rfl)]
  rw[a0E (s':=([A,B],((A.length+B.length:Nat):Int),[A,B],(2:Int),(2:Int),())) (by
   simp only[a1k,f,oB,w2,a,cF];rfl)]
  rfl
 have d:y0s a1l ([A,B],(2:Int),(0:Int),([]:List a1c),())=some (A++B,()):=by
  rw[a0E (s':=([A,B],(2:Int),(1:Int),A,())) (by
   simp only[a1l,g,oB,a21,a33,a0T (show A.length<2147483648 by omega),cT];rfl)]
  rw[a0E (s':=([A,B],(2:Int),(2:Int),A++B,())) (by
   simp only[a1l,f,oB,a0T (show A.length+B.length<2147483648 by omega),cT];rfl)]
  rfl
 unfold a1p;have b:((a08 [A,B]:Nat):Int)=2:=rfl;rw[b,i0];simp only[oB];rw[d2J (by omega)];simp_all
theorem b9d{fm:a0I}(g:a2k fm){qs rs:List Pp}(f:a3Z fm qs)(k:a3Z fm rs)(j:qs.length+rs.length≤256):a3W (a9m fm qs,a9m fm rs)=some (a9m fm (qs++rs),0):=by
 have e:((0:Int) != 0)=false:=rfl;have l1:=(a9L f).1;have l2:=(a9L k).1;have l:(a1d qs).length=qs.length:=by simp[a1d,a5n]
 have d:(a1d rs).length=rs.length:=by simp[a1d,a5n]
 have b:decide (wrap .i64 ((mkQ fm qs).2.1+(mkQ fm rs).2.1) > 4194304)=false:=by
  grind[mkQ,mkT,a6T,a0B]
 have c:decide (wrap .i64 ((((mkQ fm qs).2.2.2.2.1.length:Nat):Int)+(((mkQ fm rs).2.2.2.2.1.length:Nat):Int)) > 4096)=false:=by
  grind[b9c,a0B]
 have i:=c9j g (b7M f k) (by simp_all) (fs:=a1d qs++a1d rs) (by grind[a1d,b9b]);unfold a3W;simp only[b6a g f (by omega),b6a g k (by omega),oB,e,cF];have a:(mkQ fm qs).1=fm:=rfl;have h:(mkQ fm rs).1=fm:=rfl;rw[a,h]
 erw[b4J]
 simp[b,c]
 grind[b9c,c9l]
theorem d1f{l:List Int}(h:short l):a2N (l,l)=some true:=by
 have:=a1C (f:=a2g) (fun i=>(l,l,(l.length:Int),(i:Int),())) l.length (b:=Sum.inl ()) (fun i hi=>by
   have:=h
   unfold short at this;simp only[a2g,dlt hi,cT,a0D hi,oB,bne_self_eq_false,cF]
   grind[a0B])
  (by simp_all[a2g])
 simp_all[a2N]
theorem d4h{fm:a0I}(h:a2k fm){qs rs:List Pp}(f:a3Z fm qs)(b:a3Z fm rs)(a:qs.length≤256)(k:rs.length≤256)(j:a0Z qs=a0Z rs)(i:a2l qs=a2l rs)(l:short (a2l qs)):a7l (a9m fm qs,a9m fm rs)=some true:=by
 have c:((0:Int) != 0)=false:=rfl;have e:((mkQ fm qs).2.1 != (mkQ fm rs).2.1)=false:=by simp_all[mkQ,mkT,a6T]
 unfold a7l;simp only[b6a h f a,b6a h b k,oB,c,cF];have d:(mkQ fm qs).1=fm:=rfl;have g:(mkQ fm rs).1=fm:=rfl;simp_all[b4J,c9i,d1f]
def d1g(k:Nat):Nat→List Pp→Prop
 |_,[]=>True
 |st,q::qs=>¬ (st<k∧k<st+a0K q.2)∧d1g k (st+a0K q.2) qs
theorem d1N{fm:a0I}(o:a2k fm){ch:Nat}(b:fm.2.1=(ch:Int)){l:List Int}{sz total:Nat}(p:l.length=total*ch)(A:total≤200)(z:1≤sz∧sz≤64){eff:Int}(i:0≤eff)(j:eff≤3):
  ∀(xs:List Pc)(st:Nat),b9Y fm l ch sz total eff st xs→∃a,a3Z fm a∧xs=pcs st a∧(st%sz=0→∀k,k%sz=0∨total≤k→d1g k st a)
 | [],_,_=>⟨[],fun q h=>(by grind),rfl,fun _ _ _=>trivial⟩
 |x::xs,st,⟨a1,a2,a3,a4,a5⟩=>by
  obtain⟨s,t,H,I,K,L⟩:=id o;have c:=c1j (l:=l) (ch:=ch) (st:=st) (en:=min (st+sz) total) (by rw[p];exact a03 _ (by omega));have d:=b4N (w:=fm.2.2.1) c (by omega);rw[←a2]at d;obtain⟨Q,R,S,T,D,-,E,F,G,-,-⟩:=id a4;obtain⟨g,r,P⟩:=c9g (fm:=fm) E G ⟨s,t⟩ (by simp_all[a5M,a1D]) F.symm (st:=st) (by omega) i j;rw[a3]at r;have e:x.1=((st:Int),g):=congrArg (·.1) (Option.some.inj r);rw[e]at D;have M:x=b4T st (g,x.2.1):=by
   grind[b4T,c5Y]
  obtain⟨a,C,N,O⟩:=d1N o b p A z i j xs (st+sz) a5
  by_cases he:st+sz≤total
  have u:a0K x.2.1=sz:=by omega
  refine⟨(g,x.2.1)::a,fun q h=>?_,?_,fun B k f=>⟨?_,?_⟩⟩;rcases mC.1 h with rfl|h;omega;exact C q h
  grind[pcs]
  rintro⟨b1,b2⟩
  simp only at b2;rcases f with f|f
  have:=a50 (m:=k) (n:=st) (k:=sz) (by omega)
  rw[a22 (by omega)]at this;omega;omega
  grind[Nat.add_mod_right]
  ·have v:xs=[]:=by
    cases xs with
    |nil=>rfl
    |cons y ys=>obtain⟨b1,-⟩:=a5;omega
   subst v;refine⟨[(g,x.2.1)],fun q h=>by grind,?_,fun B k f=>⟨?_,trivial⟩⟩
   grind[pcs]
   rintro⟨b1,b2⟩
   simp only at b2;rcases f with f|f
   have:=a50 (m:=k) (n:=st) (k:=sz) (by omega)
   rw[a22 (by omega)]at this;omega;omega
theorem d4i{fm:a0I}(a:a2k fm){ch:Nat}(g:fm.2.1=(ch:Int)){l:List Int}{total:Nat}(b:l.length=total*ch)(c:total≤200)(f:l.all (fun x=>a1h x fm.2.2.1)=true)(size effort:Int):
  ∃(sz:Nat)(h:List Pp),1≤sz∧wrap .i64 (1+bits .i64 .and size 63)=(sz:Int)∧a3Z fm h∧a0Z h=total∧a2l h=l∧h.length≤total∧(∀k,k%sz=0∨total≤k→d1g k 0 h)∧
   b0D (fm,l,size,effort)=some (a9m fm h,mkQ fm h,true):=by
 obtain⟨sz,eff,t,i,p,q,w,r,s,n,u,d,e,v,o⟩:=d2H a g b c f size effort;obtain⟨h,j,rfl,m⟩:=d1N a g b c ⟨i,p⟩ r s t 0 n;rw[a6T]at d;rw[b2V]at e;exact⟨sz,h,i,q,j,d,e,by grind[a9L],m (Nat.zero_mod _),o⟩
theorem c5Z(f t:Int){n:Nat}(a:n≤1000):∃x y:Nat,x≤y∧y≤n∧b0E (f,t,(n:Int))=some ((x:Int),(y:Int),()):=by
 obtain⟨u,h,-⟩:=c7B 16 (by omega) f;obtain⟨v,hv,-⟩:=c7B 16 (by omega) t;rw[show((2^16-1:Nat):Int)=65535 from rfl]at h hv;have g:u%(n+1)<n+1:=a09 _ (by omega);have k:v%(n-u%(n+1)+1)<n-u%(n+1)+1:=a09 _ (by omega);have c:wrap .i64 ((n:Int)+1)=((n+1:Nat):Int):=by grind[a0B]
 have b:a39 (u:Int) ((n+1:Nat):Int)=((u%(n+1):Nat):Int):=rfl;have w2:wrap .i64 (wrap .i64 ((n:Int)-((u%(n+1):Nat):Int))+1)=((n-u%(n+1)+1:Nat):Int):=by
  grind[a0B]
 have t2:a39 (v:Int) ((n-u%(n+1)+1:Nat):Int)=((v%(n-u%(n+1)+1):Nat):Int):=rfl;have d:wrap .i64 (((u%(n+1):Nat):Int)+((v%(n-u%(n+1)+1):Nat):Int))=((u%(n+1)+v%(n-u%(n+1)+1):Nat):Int):=by grind[a0B]
 have e:(((n+1:Nat):Int)==0)=false:=by rfl
 have i:(((n-u%(n+1)+1:Nat):Int)==0)=false:=by rfl
 refine⟨u%(n+1),u%(n+1)+v%(n-u%(n+1)+1),by omega,by omega,?_⟩;unfold b0E
 grind
theorem d2K:b3w ()=some true:=by kernel_rfl
theorem d2L(fm:a0I)(h:List Pp):(mkQ fm h).2.1=((a0Z h:Nat):Int):=by simp_all[mkQ,mkT,a6T]
theorem c5B{l:List Int}{ch a b c d:Nat}(g:d≤b-a)(h:a≤b):a1J (a1J l ch a b) ch c d=a1J l ch (a+c) (a+d):=by
 have e:(a+d)*ch≤b*ch:=a03 _ (by omega);simp_all[a1J,List.take_drop,List.take_take,Nat.add_mul]
theorem b9e(x:a0I×(List Int×(Int×Int×Int×Int×Int×Int))):a8U x=some true:=by
 obtain⟨fm,l,size,effort,H,to,v,en⟩:=x;unfold a8U;simp only[d2K,oB,bT,cF];obtain⟨t,z,M⟩:=c9f fm l 80 (by omega);rw[show((80:Nat):Int)=80 from rfl]at z;simp only[z,oB];cases t with
 |false=>rfl
 |true=>
  obtain⟨h,O,j,ch,n,f,A⟩:=M rfl;obtain⟨f1,f2,f3,f4,f5,f6⟩:=id h;have N:1≤ch:=by omega
  have P:n≤80:=Nat.le_trans (Nat.le_mul_of_pos_right n N) (A▸O);obtain⟨sz,qs,s1,s2,g,I,K,g4,g5,L⟩:=d4i h f A (by omega) j size effort;obtain⟨a,b,w,Y,u⟩:=c5Z H to (n:=n) (by omega);obtain⟨c,d,y,Z,m⟩:=c5Z v en (n:=b-a) (by omega);have R:wrap .i64 ((b:Int)-(a:Int))=((b-a:Nat):Int):=by grind[a0B]
  have w2:wrap .i64 ((a:Int)+(c:Int))=((a+c:Nat):Int):=by grind[a0B]
  have S:wrap .i64 ((a:Int)+(d:Int))=((a+d:Nat):Int):=by grind[a0B]
  obtain⟨xs,B,x2,T⟩:=c7Q h g (by omega) w (by omega) (eff:=1) (by omega) (by omega);have k:=b1g g B;obtain⟨E,p⟩:=a9K f w g B;obtain⟨ys,C,y2,U⟩:=c7Q h k (by omega) y (by omega) (eff:=0) (by omega) (by omega);have o:=b1g k C;obtain⟨F,q⟩:=a9K f y k C;obtain⟨X,D,z2,V⟩:=c7Q h g (by omega) (a:=a+c) (b:=a+d) (by omega) (by omega) (eff:=2) (by omega) (by omega);have Q:=b1g g D;obtain⟨G,e⟩:=a9K f (by omega) g D;rw[Nat.sub_zero,Nat.sub_zero]at p q e;have i:a2l ys=a2l X:=by simp_all[c5B]
  have r:short (a2l ys):=by
   rw[i,e,K];unfold short a1J
   grind
  have s:=d4h h o Q (by omega) (by omega) (by grind) i r;have j1:=b9d h k o (by omega);have j2:=b9d h (b7M k o) g (by grind);have j3:=b9d h o g (by omega);have j4:=b9d h k (b7M o g) (by grind);simp only[bT,cF,L,oB,d2L,I,u,R,m,T,U,w2,S,V,j1,j2,j3,j4,beq_self_eq_true,cT,s,aA,c9e]
end Go.Ab
namespace Go.Proofs.YtpckgfbgijdfnaaGreatDoor
open Go.Ab Go.ChangeShapes Go.WideShapes Go.ChangeAt Go.RowKit
theorem b6b{α:Type}{f:Nat→Option (α×a0z×List Nat)}:∀(L:List α)(i:Nat),(∀(j:Nat) x,L[j]?=some x→f (i+j)=some (x,[],[]))→a0d f L.length i=some (L,[],[])
 | [],_,_=>rfl
 |a::L,i,h=>by
  have g:=h 0 a rfl;have k:=b6b L (i+1) (fun j x b=>by have:=h (j+1) x (by simpa using b);rw[←this];congr 1;omega);simp only[lC,a0d];simp only[a80]at g;rw[g,k];rfl
section
variable {H:Type} {enc:TypeId×Value→H} {P:Program} {w:World} {base:Nat} {spare:Nat→Bool} {held:Bool}
theorem c2g{k:IntKind}{n:Nat}{t e:TypeId}{fuel:Nat}{cs:List Value}{L:List Int}{p:List MemPlace}(B:P.underlying t=some (.array n e))(u:P.underlying e=some (.int k))(s:P.cellsOf e=1)
  (h:DataW.trod enc P w base spare held fuel t cs=some (.agg (L.map fun i=>.lit (.int k i)),p)):L.length=n∧∀(j:Nat) x,L[j]?=some x→cs[j]?=some (.int k x):=by
 obtain⟨C,m,rfl,b,-,A,a⟩:=DataW.trod_array B h;simp only[pJ,DataW.agg.injEq]at b;have z:L.length=n:=by rw[←A];simpa using congrArg a08 b.1
 refine⟨z,fun j x c=>?_⟩;obtain⟨v,-⟩:=lS.1 c;have g:=a j (by omega);rw[s]at g;obtain⟨y,d⟩:∃y,C[j]?=some y:=⟨_,lG (by omega)⟩;rw[d]at g;obtain⟨i,o,q,-⟩:=DataW.trod_int u g;have f:=congrArg (fun l=>l[j]?) b.1;simp only[a82,c,d,Option.map_some,q]at f;simp only[sj,DataW.lit.injEq,Lit.int.injEq,true_and]at f;subst f;have r:=congrArg (fun l=>l[0]?) o;simpa[a53,List.getElem?_take]using r
end
def c6a : String := (Rows.spliceIsRow.laid.map Prod.fst).headD ""
theorem d8s:Tryz.prog.globalNamed c6a=some 0:=by kernel_rfl
def d1h:TypeId:=((Tryz.prog.globals[0]?).map (·.type)).getD 0
theorem d2M:(Tryz.prog.globals[0]?).map (·.type)=some d1h:=by kernel_rfl
def d1i:TypeId:=match Tryz.prog.underlying d1h with
 |some (.array _ e)=>e
 |_=>0
theorem d8t:Tryz.prog.underlying d1h=some (.array 64 d1i):=by kernel_rfl
theorem d5N:Tryz.prog.underlying d1i=some (.int .u8):=by kernel_rfl
theorem d5O:Tryz.prog.cellsOf d1i=1:=by kernel_rfl
@[reducible] def laidTab:List (String×DataW Unit):=[(c6a,Rows.laid_math_bits_deBruijn64tab)]

theorem d4j {g:Nat} {t:Ty} {x:t.den} (h:G0 g=some ⟨t,x⟩):g=0∧(⟨t,x⟩:(t:Ty)×t.den)=⟨.arr 64 (.int .u8),b1h⟩:=by
 unfold G0 find at h
 cases g with
 |zero=>exact⟨rfl,(Option.some.inj h).symm⟩
 |succ n=>exact absurd h (by simp[find])
theorem c4p{W:World}(h:laidMetH Tryz.prog laidTab W):∀g t x,G0 g=some ⟨t,x⟩→g<W.heap.size∧dec (a0a W none) t ((Src.at g 0).rd (a0a W none))=some (x,[],[]):=by
 rw[MakeChecks.laidMetH_plain _ _ _ (by kernel_rfl)]at h;obtain⟨ps,⟨r,w,m,q,u,v,b,c,d,a,_⟩,_,_⟩:=h;obtain rfl:=Option.some.inj (d8s.symm.trans b);obtain rfl:=Option.some.inj (d2M.symm.trans c);have n:(Rows.laid_math_bits_deBruijn64tab:DataW Unit)=.agg (b1h.map fun i=>.lit (.int .u8 i)):=rfl;rw[n]at a;obtain⟨s,p⟩:=c2g d8t d5N d5O a;have k:∀(j:Nat) x,b1h[j]?=some x→W.cell? ⟨0,j,none⟩=some (.int .u8 x):=fun j x l=>by
  rw[World.var?_cell b d j];simpa using p j x l
 intro g t x o;obtain⟨rfl,e⟩:=d4j o;cases e;refine⟨z0m (k 0 0 rfl),?_⟩;exact b6b (f:=fun i=>dec (a0a W none) (.int .u8) fun j=>(Src.at 0 0).rd (a0a W none) (i*1+j)) b1h 0 (fun j x l=>by
  have:=k j x l
  simp only[dec,Src.rd,a0a,a33,Nat.mul_one,a80,this,if_true])
set_option maxRecDepth 100000 in
theorem d1j (os:Os) (args:Array Value):laidMetH Tryz.prog laidTab ((World.doorLaid Tryz.prog 400 os).forCall (fun _ _=>0) ⟨#[],args,[]⟩).memory:=
 laidMetH_of_parts3 (fuel:=8) (laidMet_of_run' 8 (by kernel_rfl) (by kernel_rfl)) (by kernel_rfl) (by kernel_rfl)
end Go.Proofs.YtpckgfbgijdfnaaGreatDoor
