/- Part of the proof: QUF. Conditions: as each statement tells. -/
import Derived.KernelRfl
import Derived.Test.YtbadoabamddpfaaGreatDoorRows
import Derived.ProofKit
import Derived.LaidMore
import Derived.LaidLaws
import Derived.LaidHandle
import Derived.LaidByTextLater
import Derived.OpenShut
import Derived.Handed
import Derived.Test.YtbadoabamddpfaaGreatDoorMG
noncomputable section
set_option linter.unusedSimpArgs false
set_option linter.unusedVariables false
open BitVec renaming ofInt→a00,xor_assoc→a20,toNat_ofInt→a27,getLsbD_ushiftRight→a35,toNat_and→a46,msb_eq_getLsbD_last→a60,eq_of_getLsbD_eq→a63,xor_comm→a66,getLsbD→a73,toNat_or→a93,xor_zero→a94
open Bool renaming and_self→a02,not_false→a40,true_and→a61,eq_false_iff→a87
open Int renaming natCast_nonneg→a03,tdiv→a19,toNat→a33,tmod→a38,natCast_mul→a52,fdiv_eq_ediv_of_nonneg→a58
open List renaming range→a04,length→a05,replicate→a06,length_map→a07,nil_append→a09,length_take→a22,length_nil→a23,map_cons→a24,map_congr_left→a25,getElem_mem→a26,flatMap_cons→a28,length_drop→a29,take→a30,drop→a31,map_map→a34,all_cons→a36,range_succ→a37,mem_map→a39,mem_range→a41,range_add→a42,foldl_append→a43,cons_append→a44,take_length→a45,not_mem_nil→a47,ext_getElem→a50,getElem?_drop→a55,filter_append→a56,append_nil→a65,foldl_cons→a67,length_singleton→a69,eq_replicate_iff→a71,append_eq→a72,mem_of_mem_take→a74,mem_of_mem_drop→a75,flatMap_append→a78,getD_cons_succ→a81,getElem?_map→a88,mem_flatMap→a90,append→a91,append_cons→a92,getD→a95
open Nat renaming mul_le_mul_right→a01,mul_le_mul→a08,lt_trans→a16,mod_lt→a18,and_two_pow_sub_one_eq_mod→a32,add_mul→a48,mod_eq_of_lt→a49,pow_le_pow_right→a51,le_of_lt→a53,two_pow_add_eq_or_of_lt→a54,mul_div_cancel→a57,mul_mod→a59,mul_comm→a62,div_le_self→a64,le_refl→a68,div_lt_iff_lt_mul→a70,le_sub_one_of_lt→a76,div_lt_of_lt_mul→a77,add_assoc→a79,div_eq_of_lt_le→a80,pos_of_ne_zero→a82,eq_zero_or_pos→a83,pow_succ→a84,zero_add→a85,add_zero→a86,lt_succ_of_lt→a89
open Option renaming bind_eq_some_iff→a21
namespace Go.Ab
open IntKind(wrap)
def a8P(f:a1q)(l:List Sub):a1q:=(f.1,f.2.1,f.2.2.1,f.2.2.2.1,l,())
theorem c6H(f:a1q):a8P f f.2.2.2.2.1=f:=rfl
theorem c0L(f g:a1q)(e:Int){N:Nat}(d:N≤8){Z:List Int}:∀(rest:List PZ)(done:List Sub)(P:List Int),done.length+rest.length=N→(∀p∈rest,c6G f.2.1 p)→OkR P (a0O rest++Z)→
  y0s a7Q (e,(N:Int),(done.length:Int),g,a8P f done,rdr P (a0O rest++Z),())=some (.inl (e,g,a8P f (done++rest.map (·.1)),rdr (P++a0O rest) Z,()))
 | [],done,P,hl,_,_=>by
  have a:done.length=N:=by simpa using hl
  rw[a,a0E (b:=Sum.inl (e,g,a8P f done,rdr P Z,())) (by simp only[a7Q,dge,cF];rfl)];simp[a0O]
 |p::rest,done,P,hl,h,hok=>by
  rw[lC]at hl;obtain⟨n,l,o⟩:=h p (by simp);have c:a0O (p::rest)++Z=a8k p.1 p.2++(a0O rest++Z):=by simp[a0O]
  rw[c]at hok⊢;have j:=d1f n l o hok;have i:decide ((done.length:Int)<(N:Int))=true:=by simp;omega
  have z0:((0:Int) != 0)=false:=rfl;rw[a0F (s':=(e,(N:Int),(((done++[p.1]).length:Nat):Int),g,a8P f (done++[p.1]),rdr (P++a8k p.1 p.2) (a0O rest++Z),())) (by
   have k:b2n (rdr P (a8k p.1 p.2++(a0O rest++Z)),(a8P f done).2.1)=some (p.1,(0:Int),rdr (P++a8k p.1 p.2) (a0O rest++Z)):=j;simp only[a7Q,i,cT,k,oB,z0,cF];rw[show(a8P f done).2.2.2.2.1=done from rfl,a0W (show done.length+1<2147483648 by omega),cT,a0B (show done.length<1000000 by omega)];rw[show(((done++[p.1]).length:Nat):Int)=((done.length+1:Nat):Int)from by simp];rfl)]
  rw[c0L f g e d rest (done++[p.1]) _ (by simp;omega) (fun q m=>h q (by simp[m])) hok.shift];simp[a0O]
theorem b8z{L:List Int}(f:a1x L)(a:L.length<500000000)(t:Int×(Int×Unit)):∀(k i:Nat),i+k=L.length→(∀j,i≤j→L.getD j 0=0)→
  y0s a3q ((L.length:Int),(i:Int),((wL L).1,t),())=some (.inl ((L.length:Int),((wL L).1,t),()))
 |0,i,h,_=>by
  obtain rfl:i=L.length:=by omega
  exact a0E (by simp only[a3q,dge,cF])
 |k+1,i,h,h0=>by
  have g:i<L.length:=by omega
  have z:((0:Int)==1)=false:=rfl;have b:wrap .i64 ((i:Int)+1)=((i+1:Nat):Int):=by rw[a0C (by omega)];omega
  rw[a0F (s':=((L.length:Int),((i+1:Nat):Int),((wL L).1,t),())) (by
   simp only[a3q,dlt g,cT];rw[c1t f (by omega) g t,h0 i (a68 _)];simp only[oB,z,cF,b])]
  exact b8z f a t k (i+1) (by omega) (fun j c=>h0 j (by omega))
theorem c8R(L:List Int)(k j:Nat)(h:L.length≤j):(L++a06 k 0).getD j 0=0:=by
 rw[lD,List.getElem?_append_right h,List.getElem?_replicate]
 split<;>rfl
theorem c2f{L:List Int}(h:a1x L):a1x (a2G L):=h.app fun _ hb=>.inl (List.mem_replicate.1 hb).2
theorem c7L{L:List Int}(f:a1x L)(c:L.length≤5600000):∃r,a5a (rdr L (a06 (a4Q L.length) 0))=some r∧r.2.2.1=0:=by
 have hp:(a2G L).length=L.length+a4Q L.length:=by simp[a2G]
 have a:a4Q L.length<8:=by unfold a4Q;omega
 have b:(a2G L).length%8=0:=by rw[hp];unfold a4Q;omega
 have z0:((0:Int) != 0)=false:=rfl;have g:wrap .i64 (wrap .i64 (a19 (wrap .i64 ((L.length:Int)+7)) 8)*8)=((a2G L).length:Int):=by
  rw[a0C (n:=(L.length:Int)+7) (by omega),show a19 ((L.length:Int)+7) 8=(((L.length+7) / 8:Nat):Int)from by
   rw[show((L.length:Int)+7)=((L.length+7:Nat):Int)from by omega];rfl,a0C (n:=(((L.length+7) / 8:Nat):Int)) (by omega),a0C (by omega),hp]
  unfold a4Q;omega
 have h:=b8z (c2f f) (by omega) ((L.length:Int),(0:Int),()) (a4Q L.length) L.length (by omega) (fun j k=>c8R L _ j k);refine⟨((wL (a2G L)).1,((a2G L).length:Int),(0:Int),()),?_,rfl⟩;unfold a5a rdr;simp only[z0,cF,g];rw[show L++a06 (a4Q L.length) 0=a2G L from rfl,h];rfl
theorem d7i{v:Int}(h:0≤v∧v<65536):bits .u16 .or (A0n .u16 (wrap .u16 (v / 256)) 8) (wrap .u16 (v%256))=v:=by
 rw[b3p,b3p];have e:A0n .u16 (v / 256%65536) 8=((v.toNat / 256*256:Nat):Int):=by
  show wrap .u16 (v / 256%65536*256)=_;rw[b3p];omega
 rw[e];have g:v%256%65536=((v.toNat%256:Nat):Int):=by omega
 rw[g];show wrap .u16 (((a00 16 ((v.toNat / 256*256:Nat):Int) ||| a00 16 ((v.toNat%256:Nat):Int)).toNat:Nat):Int)=_;have f:(a00 16 ((v.toNat / 256*256:Nat):Int)).toNat=v.toNat / 256*256:=by rw[a27];omega
 have k:(a00 16 ((v.toNat%256:Nat):Int)).toNat=v.toNat%256:=by rw[a27];omega
 rw[a93,f,k];have e:v.toNat / 256*256 ||| v.toNat%256=v.toNat / 256*256+v.toNat%256:=by
  have:=a54 (i:=8) (b:=v.toNat%256) (by omega) (v.toNat / 256)
  rw[show 2^8*(v.toNat / 256)=v.toNat / 256*256 from by omega]at this;exact this.symm
 rw[e,b3p];omega
theorem c2K{f:a1q}(O:a4k f=some true)(u:frP f)(t:((f.2.2.2.2.1.length:Nat):Int)=f.2.2.1.2.1){zs:List PZ}(B:zs.map (·.1)=f.2.2.2.2.1)(hp:∀p∈zs,c6G f.2.1 p)(z:(a0O zs).length≤5600000)
  {R:List Int}(V:R.length≤200000000):a6p (a6z f (a0O zs)++R)=some (f,((a6z f (a0O zs)).length:Int),(0:Int)):=by
 have P:=b9b u z;have Q:=b8y (a8Z f (a0O zs));have L:f.2.2.2.2.1.length≤8:=by have:=u.1.2.2.2.1;omega
 have N:=b7s (a0O zs);generalize hbd:a8O (a0O zs)=body at *;have c:a6z f (a0O zs)=a8Z f (a0O zs)++[a4i (a8Z f (a0O zs)) / 256,a4i (a8Z f (a0O zs))%256]:=rfl;have g:a8Z f (a0O zs)=a1E f body.length++body:=by unfold a8Z;rw[hbd]
 generalize hpb:a8Z f (a0O zs)=pre at *;have o:a6z f (a0O zs)++R=a1E f body.length++(body++([a4i pre / 256,a4i pre%256]++R)):=by rw[c,g];simp
 have m:(a6z f (a0O zs)).length=pre.length+2:=by rw[c];simp
 have A:pre.length=(a1E f body.length).length+body.length:=by rw[g];simp
 have y:(a6z f (a0O zs)++R).length=pre.length+2+R.length:=by rw[lN,m]
 have k:=c6F u (body:=body.length) (by omega) (R:=body++([a4i pre / 256,a4i pre%256]++R)) (by rw[←o,y];omega);rw[←o]at k;generalize hx:a6z f (a0O zs)++R=x at *;have z0:((0:Int) != 0)=false:=rfl;have T:wrap .i64 (((a1E f body.length).length:Int)+(body.length:Int))=(pre.length:Int):=by rw[a0C (by omega)];omega
 have w2:wrap .i64 ((pre.length:Int)+2)=((pre.length+2:Nat):Int):=by rw[a0C (by omega)];omega
 have U:wrap .i64 ((pre.length:Int)+1)=((pre.length+1:Nat):Int):=by rw[a0C (by omega)];omega
 have C:decide ((x.length:Int)<((pre.length+2:Nat):Int))=false:=by simp;omega
 have D:decide ((0:Int)≤(pre.length:Int))=true:=by simp
 have E:decide ((pre.length:Int)≤(x.length:Int))=true:=by simp;omega
 have F:decide ((0:Int)≤((a1E f body.length).length:Int))=true:=by simp
 have G:decide (((a1E f body.length).length:Int)≤(pre.length:Int))=true:=by simp;omega
 have j:x=pre++([a4i pre / 256,a4i pre%256]++R):=by rw[←hx,c];simp
 have i:a30 pre.length x=pre:=by rw[j];simp
 have b:a31 (a1E f body.length).length pre=body:=by rw[g];simp
 have I:m0k x (pre.length:Int)=some (a4i pre / 256):=by rw[a0D (by omega)];congr 1;subst j;simp
 have K:m0k x ((pre.length+1:Nat):Int)=some (a4i pre%256):=by rw[a0D (by omega)];congr 1;subst j;simp
 have S:(a4i pre != bits .u16 .or (A0n .u16 (wrap .u16 (a4i pre / 256)) 8) (wrap .u16 (a4i pre%256)))=false:=by rw[d7i Q];exact bne_self_eq_false _
 have e:(a2G (a0O zs)).length<1000000000:=by omega
 have a:=d2r e;rw[show(wL (a2G (a0O zs))).1=body from hbd]at a;have v:OkR [] (a0O zs++a06 (a4Q (a0O zs).length) 0):=⟨by rw[a09];exact c2f (c2d zs),by
  rw[a09];show(a2G (a0O zs)).length<_;omega⟩
 have h:=c0L f ((0:Int),(0:Int),((0:Int),(0:Int),(0:Int),()),([]:List a0M),([]:List Sub),()) (pre.length:Int) L zs [] [] (by rw[←B];simp) hp v;simp only[a09,a23,B,c6H]at h;have w:rdr [] (a2G (a0O zs))=rdr [] (a0O zs++a06 (a4Q (a0O zs).length) 0):=rfl;obtain⟨r,q,s⟩:=c7L (c2d zs) z;have d:a2E (rdr (a0O zs) (a06 (a4Q (a0O zs).length) 0))=some ((a4Q (a0O zs).length:Int),rdr (a0O zs) (a06 (a4Q (a0O zs).length) 0)):=by
  unfold a2E rdr
  have:(wL (a0O zs++a06 (a4Q (a0O zs).length) 0)).1=body:=hbd
  simp only[this];have hp:(a2G (a0O zs)).length=(a0O zs).length+a4Q (a0O zs).length:=by simp[a2G]
  rw[a0C (n:=8*(body.length:Int)) (by omega),a0C (by omega)];congr 2;omega
 have H:decide (((a4Q (a0O zs).length:Nat):Int)≥8)=false:=by unfold a4Q;simp;omega
 have M:a8P f []=c6E f:=rfl;have l:f.2.2.1.2.1=((f.2.2.2.2.1.length:Nat):Int):=t.symm;unfold a6p;rw[k];simp only[oB,z0,cF,T,w2,C,D,E,F,a02,cT,tN,i,c0I (show short pre by unfold short;omega),I,U,K,S,G,b,a,w];rw[show(c6E f).2.2.1.2.1=((f.2.2.2.2.1.length:Nat):Int)from l]
 erw[h]
 simp only[oB,d,H,cF,q,a0P,s,z0,O,bT,w2,m]
theorem b4a(x:Int):a9e x=some (a0A x):=by
 grind[a9e,a0A]
def a2I(c:List (List Int)):Prop:=1≤c.length∧c.length≤8∧(c.headD []).length≤4096∧c.all (fun r=>decide (r.length=(c.headD []).length)&&r.all a0A)=true
instance (c:List (List Int)):Decidable (a2I c):=by unfold a2I;infer_instance
theorem b4D{α:Type}{l:List α}{d:α}(h:0<l.length):l[0]=l.headD d:=by
 cases l with
 |nil=>grind
 |cons a l=>rfl
theorem c1x(c:List (List Int)):a7v c=some (decide (a2I c)):=by
 unfold a7v
 by_cases h1:((c.length:Nat):Int)<1
 have:¬ a2I c:=fun h=>by have:=h.1;omega
 simp_all
 by_cases h2:((c.length:Nat):Int) > 8
 have:¬ a2I c:=fun h=>by have:=h.2.1;omega
 simp_all;have b:0<c.length:=by omega
 have a:m0k c 0=some (c.headD []):=by rw[show(0:Int)=((0:Nat):Int)from rfl,a0D b,b4D (d:=[]) b]
 have l:decide (((c.length:Nat):Int)<1)=false:=by simp_all
 have m:decide (((c.length:Nat):Int) > 8)=false:=by simp_all
 simp only[l,m,cF,a,oB]
 by_cases h3:(((c.headD []).length:Nat):Int) > 4096
 rw[decide_eq_true h3,decide_eq_false (show ¬ a2I c from fun h=>by have:=h.2.2.1;omega)];rfl;have n:decide ((((c.headD []).length:Nat):Int) > 4096)=false:=by simp_all
 simp only[n,cF];have g:∀(i:Nat)(r:List Int),short r→y0s a4u (c,c,(c.length:Int),(i:Int),r,(r.length:Int),(0:Int),())=some (bif r.all a0A then Sum.inl (c,c,(c.length:Int),(i:Int),())else Sum.inr (false,())):=fun i r s=>by
  have:=a1S (f:=a4u) r (fun j=>(c,c,(c.length:Int),(i:Int),r,(r.length:Int),(j:Int),())) a0A (bt:=Sum.inl (c,c,(c.length:Int),(i:Int),())) (bf:=Sum.inr (false,()))
   (fun j h hp=>by simp only[a4u,dlt h,cT,a0D h,oB,b4a,hp,bT,cF,a0B (a16 h s)])
   (fun j h hp=>by simp_all[a4u,a0D,b4a])
   (by simp_all[a4u])
  omega
 have k:=a1S (f:=a4v) c (fun i=>(c,c,(c.length:Int),(i:Int),())) (fun r=>decide (r.length=(c.headD []).length)&&r.all a0A) (bt:=Sum.inl ()) (bf:=Sum.inr (false,()))
  (fun i h hp=>by
   simp only[bA,dT]at hp;have e:((((c[i]).length:Nat):Int) != (((c.headD []).length:Nat):Int))=false:=by simp_all
   have hi:=g i c[i] (by unfold short;omega);rw[hp.2,cT]at hi;simp only[a4v,dlt h,cT,a0D h,oB,a,e,cF,hi,a0B (show i<1000000 by omega)])
  (fun i h hp=>by
   by_cases hl:(c[i]).length=(c.headD []).length
   have e:((((c[i]).length:Nat):Int) != (((c.headD []).length:Nat):Int))=false:=by simp_all
   have hi:=g i c[i] (by unfold short;omega);rw[decide_eq_true hl,a61]at hp;rw[hp,cF]at hi;simp_all[a4v,a0D];have e:((((c[i]).length:Nat):Int) != (((c.headD []).length:Nat):Int))=true:=by grind
   simp only[a4v,dlt h,cT,a0D h,oB,a,e])
  (by simp_all[a4v])
 simp only[nZ]at k;rw[k];have o:1≤c.length:=by omega
 have p:c.length≤8:=by omega
 have q:(c.headD []).length≤4096:=by omega
 by_cases hA:c.all (fun r=>decide (r.length=(c.headD []).length)&&r.all a0A)=true
 rw[hA,decide_eq_true (show a2I c from⟨o,p,q,hA⟩)];rfl;rw[a87.2 hA,decide_eq_false (show ¬ a2I c from fun h=>hA h.2.2.2)];rfl
def a3r(c:List (List Int))(n:Nat):Prop:=∀r∈c,r.length=n∧r.all a0A=true
theorem c5i{c:List (List Int)}(h:a2I c):a3r c (c.headD []).length:=fun r g=>by
 have:=lA.1 h.2.2.2 r g
 simp_all
theorem b9c{c:List (List Int)}{n:Nat}(h:a3r c n)(g:1≤c.length)(f:c.length≤8)(b:n≤4096):a2I c:=by
 have a:(c.headD []).length=n:=by
  rw[←b4D (d:=[]) (show 0<c.length by omega)];exact(h _ (a26 _)).1
 refine⟨g,f,by omega,lA.2 fun r k=>?_⟩
 have:=h r k
 simp_all
theorem c2g{c:List (List Int)}{n:Nat}(h:a3r c n)(l:n≤5000)(j:c.length≤100):a7e c=some c:=by
 have:=a1G (f:=a6I) (β:=List (List Int)×Unit) c (fun i (a:List (List Int))=>(c,(c.length:Int),(i:Int),a,())) (fun a x=>.inl (a++[x])) (fun i a=>a.length=i) (fun a=>(a,()))
  (fun i hi a k=>⟨fun e g=>by
   simp at g;subst g;have m:=(h _ (a26 hi)).1;have d:∀y:List Int,List.set ([([]:List Int)]:List (List Int)) 0 y=[y]:=fun _=>rfl;refine⟨?_,by grind⟩;simp only[a6I,dlt hi,cT,a0D hi,oB,a8g (show short c[i]by unfold short;omega),d];rw[a0W (by grind),cT,a0B (show i<1000000 by omega)];rfl,fun b hb=>by grind⟩)
  (fun a k=>by simp_all[a6I]) (a:=[]) rfl
 simp_all[b1C,a7e,a8d]
def a8Q(sign g:Int)(x y:Int):Int:=y+sign*(g*x / 256)
def a9K(sign g:Int)(xs ys:List Int):List Int:=List.zipWith (a8Q sign g) xs ys
theorem c8S(sign g:Int){xs ys:List Int}(h:xs.length=ys.length):(a9K sign g xs ys).length=ys.length:=by simp[a9K,h]
theorem c8T{sign g x y:Int}(b:sign=1∨sign=-1)(c:-1024≤g∧g≤1024)(k:a0A x=true)(a:a0A y=true):
  wrap .i64 (y+wrap .i64 (sign*A0o .i64 (wrap .i64 (g*x)) 8))=a8Q sign g x y:=by
 have k:=a1H.1 k;have a:=a1H.1 a;have f:-1099511627776≤g*x∧g*x≤1099511627776:=by
  have f:g.natAbs≤1024:=by omega
  have h:x.natAbs≤1073741824:=by omega
  have:=a08 f h
  rw[←Int.natAbs_mul]at this;omega
 rw[a0C (n:=g*x) (by omega)];have h:A0o .i64 (g*x) 8=g*x / 256:=by
  unfold A0o;show(g*x).fdiv (2^8)=_
  grind
 rw[h];unfold a8Q;rcases b with rfl|rfl
 all_goals grind[a0C]
theorem b2i{α:Type}(c:List α){a b:Nat}(h:a≠b)(y d:α):(c.set b y).getD a d=c.getD a d:=by
 grind
theorem a7A{α:Type}(c:List α){b:Nat}(h:b<c.length)(y d:α):(c.set b y).getD b d=y:=by
 simp_all
theorem c0M{c:List (List Int)}{s:a0M}{sign:Int}(g:sign=1∨sign=-1)(b:-1024≤s.2.2.1∧s.2.2.1≤1024)(a0:0≤s.1)(i:0≤s.2.1)(f:s.1.toNat≠s.2.1.toNat)(hb:s.2.1.toNat<c.length)(k:s.2.1<(c.length:Int))
  {xs:List Int}(a:c.getD s.1.toNat []=xs)(w:xs.length≤5000):∀(sx suf px pre:List Int),px++sx=xs→px.length=pre.length→sx.length=suf.length→sx.all a0A=true→suf.all a0A=true→
  if(a9K sign s.2.2.1 sx suf).all a0A=true then
   y0s a3D (sign,(xs.length:Int),(pre.length:Int),c.set s.2.1.toNat (pre++suf),s,((s.1.toNat:Nat):Int),())=some (.inl (c.set s.2.1.toNat (pre++a9K sign s.2.2.1 sx suf),()))
  else ∃c',y0s a3D (sign,(xs.length:Int),(pre.length:Int),c.set s.2.1.toNat (pre++suf),s,((s.1.toNat:Nat):Int),())=some (.inr (false,c',()))
 | [],suf,px,pre,hx,hp,hl,_,_=>by
  have e:suf=[]:=List.length_eq_zero_iff.1 hl.symm;subst e;have p:pre.length=xs.length:=by simp_all
  rw[if_pos (by rfl),p];exact a0E (by simp only[a3D,dge,cF];rfl)
 |x::sx,[],px,pre,_,_,hl,_,_=>by simp_all
 |x::sx,y::suf,px,pre,hx,hp,hl,hwx,hwy=>by
  simp only[a36,bA]at hwx hwy;have v:pre.length<xs.length:=by grind
  have q:(c.set s.2.1.toNat (pre++y::suf)).getD (a33 ((s.1.toNat:Nat):Int)) []=xs:=by grind
  have r:(c.set s.2.1.toNat (pre++y::suf)).getD s.2.1.toNat []=pre++y::suf:=a7A _ hb _ _;have t:a95 xs (a33 (pre.length:Int)) 0=x:=by grind
  have u:a95 (pre++y::suf) (a33 (pre.length:Int)) 0=y:=by simp
  have j:decide ((0:Int)≤(pre.length:Int))=true:=by simp
  have l:decide ((pre.length:Int)<(xs.length:Int))=true:=by simp_all
  have m:decide ((0:Int)≤s.2.1)=true:=by simp_all
  have n:decide (s.2.1<(((c.set s.2.1.toNat (pre++y::suf)).length:Nat):Int))=true:=by simp_all
  have o:decide ((pre.length:Int)<(((pre++y::suf).length:Nat):Int))=true:=by grind
  have hv:=c8T g b hwx.1 hwy.1;have z:wrap .i64 ((pre.length:Int)+1)=((pre.length+1:Nat):Int):=a0B (by omega);have A:a9K sign s.2.2.1 (x::sx) (y::suf)=a8Q sign s.2.2.1 x y::a9K sign s.2.2.1 sx suf:=rfl;have d:List.set (c.set s.2.1.toNat (pre++y::suf)) s.2.1.toNat (List.set (pre++y::suf) (a33 (pre.length:Int)) (a8Q sign s.2.2.1 x y))=c.set s.2.1.toNat ((pre++[a8Q sign s.2.2.1 x y])++suf):=by
   simp
  have h:a3D (sign,(xs.length:Int),(pre.length:Int),c.set s.2.1.toNat (pre++y::suf),s,((s.1.toNat:Nat):Int),()) =
    bif !(a0A (a8Q sign s.2.2.1 x y))then some (.inr (Sum.inr (false,c.set s.2.1.toNat (pre++y::suf),())))
    else some (.inl (sign,(xs.length:Int),((pre.length+1:Nat):Int),c.set s.2.1.toNat ((pre++[a8Q sign s.2.2.1 x y])++suf),s,((s.1.toNat:Nat):Int),())):=by
   simp only[a3D,l,cT,q,r,j,a02,m,n,o,t,u,b4a,hv,oB,z]
   simp
  cases hwv:a0A (a8Q sign s.2.2.1 x y)with
  |false=>
   simp_all[a0E]
  |true=>
   rw[hwv]at h;have B:=c0M g b a0 i f hb k a w sx suf (px++[x]) (pre++[a8Q sign s.2.2.1 x y]) (by simp_all) (by grind) (by simp_all) hwx.2 hwy.2;rw[a0F h,A];simp_all
def a3L(sign:Int)(s:a0M)(c:List (List Int)):Option (List (List Int)):=
 let r:=a9K sign s.2.2.1 (c.getD s.1.toNat []) (c.getD s.2.1.toNat [])
 if r.all a0A=true then some (c.set s.2.1.toNat r)else none
theorem a8m{c:List (List Int)}{n:Nat}(h:a3r c n){i:Nat}(hi:i<c.length):(c.getD i []).length=n∧(c.getD i []).all a0A=true:=by
 rw[lD,lG hi];exact h _ (a26 hi)
theorem c3U{c:List (List Int)}{n:Nat}(a:a3r c n)(w:n≤5000){s:a0M}(p:a2y (c.length:Int) s=true){sign:Int}(k:sign=1∨sign=-1):
  ∃b f,a7T (c,s,sign)=some (b,f)∧match a3L sign s c with|some r=>b=true∧f=r|none=>b=false:=by
 obtain⟨a1,u,d,e,v,j,l⟩:=a2V.1 p;have q:=a8m a (i:=s.1.toNat) (by omega);have t:=a8m a (i:=s.2.1.toNat) (by omega);have hb:s.2.1.toNat<c.length:=by omega
 have g:c.set s.2.1.toNat (c.getD s.2.1.toNat [])=c:=by
  simp_all
 have:=c0M k ⟨j,l⟩ a1 d (by omega) hb e (rfl:c.getD s.1.toNat []=_) (by omega) (c.getD s.1.toNat []) (c.getD s.2.1.toNat []) [] [] rfl rfl (by omega) q.2 t.2
 rw[a09,g]at this;simp only[a23,nZ,a09,Int.cast_ofNat_Int]at this;have m:decide ((0:Int)≤s.1)=true:=by simp_all
 have o:decide (s.1<(c.length:Int))=true:=by simp_all
 unfold a7T a3L;simp only[m,o,a02,cT]
 by_cases hA:(a9K sign s.2.2.1 (c.getD s.1.toNat []) (c.getD s.2.1.toNat [])).all a0A=true
 simp_all;rw[if_neg hA]at this⊢;obtain⟨f,h⟩:=this;simp_all
theorem b3i{c c':List (List Int)}{n:Nat}(g:a3r c n){s:a0M}(k:a2y (c.length:Int) s=true){sign:Int}(h:a3L sign s c=some c'):a3r c' n∧c'.length=c.length:=by
 obtain⟨a1,a,b,d,e,j,l⟩:=a2V.1 k;have o:=a8m g (i:=s.1.toNat) (by omega);have p:=a8m g (i:=s.2.1.toNat) (by omega);unfold a3L at h;simp only at h
 split at h
 rename_i m;cases h;refine⟨fun r f=>?_,by simp⟩;rcases List.mem_or_eq_of_mem_set f with f|rfl;exact g r f;simp_all[c8S];simp_all
theorem c3V(g:Int):∀xs ys:List Int,xs.length=ys.length→a9K (-1) g xs (a9K 1 g xs ys)=ys
 | [],[],_=>rfl
 |x::xs,y::ys,h=>by
  have f:=c3V g xs ys (by simpa using h);show a8Q (-1) g x (a8Q 1 g x y)::a9K (-1) g xs (a9K 1 g xs ys)=_;rw[f];unfold a8Q;congr 1;omega
 | [],_::_,h=>by grind
 |_::_,[],h=>by rfl
theorem c7M{c c':List (List Int)}{n:Nat}(g:a3r c n){s:a0M}(f:a2y (c.length:Int) s=true)(h:a3L 1 s c=some c'):a3L (-1) s c'=some c:=by
 obtain⟨a1,a,b,d,e,j,l⟩:=a2V.1 f;have m:=a8m g (i:=s.1.toNat) (by omega);have k:=a8m g (i:=s.2.1.toNat) (by omega);have hb:s.2.1.toNat<c.length:=by omega
 unfold a3L at h;simp only at h
 split at h
 cases h;unfold a3L;simp only;rw[b2i _ (show s.1.toNat≠s.2.1.toNat by omega),a7A _ hb,c3V _ _ _ (by omega),if_pos k.2,List.set_set];simp_all;simp_all
def doO:List a0M→List (List Int)→Option (List (List Int))
 | [],c=>some c
 |s::l,c=>(a3L 1 s c).bind (doO l)
def b0Y:List a0M→List (List Int)→Option (List (List Int))
 | [],c=>some c
 |s::l,c=>(b0Y l c).bind (a3L (-1) s)
theorem b3q{n:Nat}{N:Nat}:∀(l:List a0M){c c':List (List Int)},a3r c n→c.length=N→l.all (a2y (N:Int))=true→doO l c=some c'→a3r c' n∧c'.length=N
 | [],c,c',hc,hl,_,h=>by cases h;simp_all
 |s::l,c,c',hc,hl,hs,h=>by
  simp only[a36,bA]at hs;simp[doO,a21]at h;obtain⟨d,g,f⟩:=h;obtain⟨k,a⟩:=b3i hc (by simp_all) g;exact b3q l k (by omega) hs.2 f
theorem c5j{n:Nat}{N:Nat}:∀(l:List a0M){c c':List (List Int)},a3r c n→c.length=N→l.all (a2y (N:Int))=true→doO l c=some c'→b0Y l c'=some c
 | [],c,c',_,_,_,h=>by cases h;rfl
 |s::l,c,c',hc,hl,hs,h=>by
  simp only[a36,bA]at hs;simp only[doO,a21]at h;obtain⟨d,g,f⟩:=h;obtain⟨k,a⟩:=b3i hc (by rw[hl];exact hs.1) g;simp only[b0Y];rw[c5j l k (by omega) hs.2 f];exact c7M hc (by rw[hl];exact hs.1) g
def b9d:Option (List (List Int))→List (List Int)×Int
 |some r=>(r,0)
 |none=>([],6)
theorem c5k{n N:Nat}(a:n≤5000){l:List a0M}(m:l.length≤16)(j:l.all (a2y (N:Int))=true):∀(k i:Nat)(c:List (List Int)),i+k=l.length→a3r c n→c.length=N→
  y0s a7X (l,(l.length:Int),(i:Int),c,())=some (match doO (l.drop i) c with|some r=>Sum.inl (r,())|none=>Sum.inr ([],6,()))
 |0,i,c,h,_,_=>by
  obtain rfl:i=l.length:=by omega
  rw[List.drop_length];exact a0E (by simp only[a7X,dge,cF];rfl)
 |k+1,i,c,h,hc,hcl=>by
  have hi:i<l.length:=by omega
  rw[List.drop_eq_getElem_cons hi];have d:a2y (c.length:Int) l[i]=true:=by grind
  obtain⟨b,g,e,f⟩:=c3U hc a d (sign:=1) (.inl rfl);simp[doO];cases hst:a3L 1 l[i] c with
  |none=>
   simp_all[a0E,a7X,a0D]
  |some r=>
   rw[hst]at f;obtain⟨rfl,rfl⟩:=f;obtain⟨o,p⟩:=b3i hc d hst;rw[a0F (s':=(l,(l.length:Int),((i+1:Nat):Int),g,())) (by
    simp only[a7X,dlt hi,cT,a0D hi,oB,e,bT,cF,a0B (show i<1000000 by omega)])]
   rw[c5k a m j k (i+1) g (by omega) o (by omega)];rfl
theorem c2P(c:List (List Int))(l:List a0M):b2k (c,l)=some (if a2I c∧a5f l (c.length:Int)then b9d (doO l c)else([],1)):=by
 unfold b2k;simp only[c1x,oB]
 by_cases hq:a2I c
 have h:=c5i hq;simp only[hq,decide_true,bT,cF,b5g,oB,true_and]
 by_cases hm:a5f l (c.length:Int)
 simp[hm];rw[c2g h (by have:=hq.2.2.1;omega) (by have:=hq.2.1;omega)]
 have:=c5k (N:=c.length) (by have:=hq.2.2.1;omega:(c.headD []).length≤5000) hm.2.2.1 hm.2.2.2 l.length 0 c (by omega) h rfl
 simp at this
 simp
 erw[this]
 cases doO l c<;>rfl;simp_all;simp_all
theorem c0N(s:a0M):∀(l:List a0M)(c:List (List Int)),b0Y (l++[s]) c=(a3L (-1) s c).bind (b0Y l)
 | [],c=>by
  show a3L (-1) s c=_;cases a3L (-1) s c<;>rfl
 |t::l,c=>by
  simp only[a44,b0Y,c0N s l];cases a3L (-1) s c<;>rfl
theorem c2h{n N:Nat}(g:n≤5000){l:List a0M}(i:l.all (a2y (N:Int))=true)(z:List (List Int))(e:Int):∀(k:Nat)(c:List (List Int)),k≤l.length→a3r c n→c.length=N→
  match b0Y (l.take k) c with
  |some r=>l0f a6i l k (l,z,e,c,())=some (.inl (l,z,e,r,()))
  |none=>∃d,l0f a6i l k (l,z,e,c,())=some (.inr (.ret,l,[],6,d,()))
 |0,c,_,_,_=>rfl
 |k+1,c,hk,hc,hcl=>by
  have hi:k<l.length:=by omega
  have f:a2y (c.length:Int) l[k]=true:=by grind
  obtain⟨b,a,m,h⟩:=c3U hc g f (sign:=-1) (.inr rfl);rw[List.take_succ_eq_append_getElem hi,c0N];cases hst:a3L (-1) l[k] c with
  |none=>
   simp_all[l0f,a6i]
  |some r=>
   rw[hst]at h;obtain⟨rfl,rfl⟩:=h;obtain⟨j,p⟩:=b3i hc f hst;have o:=c2h g i z e k a (by omega) j (by omega);simp_all[l0f,a6i]
theorem d1g(c:List (List Int))(l:List a0M):b1K (c,l)=some (if a2I c∧a5f l (c.length:Int)then b9d (b0Y l c)else([],1)):=by
 unfold b1K;simp only[c1x,oB]
 by_cases hq:a2I c
 ·have h:=c5i hq;simp only[hq,decide_true,bT,cF,b5g,oB,true_and]
  by_cases hm:a5f l (c.length:Int)
  ·simp[hm];rw[c2g h (by have:=hq.2.2.1;omega) (by have:=hq.2.1;omega)]
   have:=c2h (N:=c.length) (by have:=hq.2.2.1;omega:(c.headD []).length≤5000) hm.2.2.2 [] 0 l.length c (a68 _) h rfl
   rw[a45]at this;simp[a0W (show l.length<2147483648 by have:=hm.2.2.1;omega)];cases hu:b0Y l c with
   |some r=>
    rw[hu]at this;simp only at this
    erw[this]
    rfl
   |none=>
    rw[hu]at this;obtain⟨d,g⟩:=this
    erw[g]
    rfl
  simp_all
 simp_all
def a0T(b:a1e):Nat:=(b.2.1.headD []).length
theorem a4R(b:a1e):a3i b=some ((a0T b:Nat):Int):=by
 unfold a3i a0T;obtain⟨d,c,u⟩:=b;cases c with
 |nil=>rfl
 |cons r c=>
  rfl
def a2J(b:a1e):Prop:=4≤b.1∧b.1≤24∧1≤b.2.1.length∧b.2.1.length≤8∧1≤a0T b∧a0T b≤4096∧b.2.1.all (fun r=>decide (r.length=a0T b)&&r.all fun x=>a1n x b.1)=true
instance (b:a1e):Decidable (a2J b):=by unfold a2J;infer_instance
theorem b4b{x w:Int}(h:4≤w∧w≤24):a1U (x,w)=some (a1n x w):=by
 have:=a6w (x:=x) (w:=w.toNat) (by omega)
 grind
theorem a6A(b:a1e):a3j b=some (decide (a2J b)):=by
 unfold a3j a6X
 by_cases h1:4≤b.1
 rotate_left;rw[decide_eq_false (show ¬ a2J b from fun h=>h1 h.1),decide_eq_false h1];rfl
 by_cases h2:b.1≤24
 rotate_left;rw[decide_eq_false (show ¬ a2J b from fun h=>h2 h.2.1),decide_eq_true h1,decide_eq_false h2];rfl
 by_cases h3:((b.2.1.length:Nat):Int)<1
 rw[decide_eq_false (show ¬ a2J b from fun h=>by have:=h.2.2.1;omega),decide_eq_true h1,decide_eq_true h2,decide_eq_true h3];rfl
 by_cases h4:((b.2.1.length:Nat):Int) > 8
 rw[decide_eq_false (show ¬ a2J b from fun h=>by have:=h.2.2.2.1;omega),decide_eq_true h1,decide_eq_true h2,decide_eq_false h3,decide_eq_true h4];rfl;have a:decide (((b.2.1.length:Nat):Int)<1)=false:=by simp_all
 have c:decide (((b.2.1.length:Nat):Int) > 8)=false:=by simp_all
 simp only[decide_eq_true h1,decide_eq_true h2,a,c,cT,cF,oB,bT,a4R]
 by_cases h5:((a0T b:Nat):Int)<1
 rw[decide_eq_false (show ¬ a2J b from fun h=>by have:=h.2.2.2.2.1;omega),decide_eq_true h5];rfl
 by_cases h6:((a0T b:Nat):Int) > 4096
 rw[decide_eq_false (show ¬ a2J b from fun h=>by have:=h.2.2.2.2.2.1;omega),decide_eq_false h5,decide_eq_true h6];rfl;have d:decide (((a0T b:Nat):Int)<1)=false:=by simp_all
 have l:decide (((a0T b:Nat):Int) > 4096)=false:=by simp_all
 simp[d,l];have g:∀(i:Nat)(r:List Int),short r→y0s a4p (b.2.1,(b.2.1.length:Int),(i:Int),r,(r.length:Int),(0:Int),b,())=some (bif r.all (fun x=>a1n x b.1)then Sum.inl (b.2.1,(b.2.1.length:Int),(i:Int),b,())else Sum.inr (false,())):=fun i r m=>by
  have:=a1S (f:=a4p) r (fun j=>(b.2.1,(b.2.1.length:Int),(i:Int),r,(r.length:Int),(j:Int),b,())) (fun x=>a1n x b.1) (bt:=Sum.inl (b.2.1,(b.2.1.length:Int),(i:Int),b,())) (bf:=Sum.inr (false,()))
   (fun j h hp=>by simp only[a4p,dlt h,cT,a0D h,oB,b4b ⟨h1,h2⟩,hp,bT,cF,a0B (a16 h m)])
   (fun j h hp=>by simp_all[a4p,a0D,b4b])
   (by simp_all[a4p])
  omega
 have k:=a1S (f:=a4q) b.2.1 (fun i=>(b.2.1,(b.2.1.length:Int),(i:Int),b,())) (fun r=>decide (r.length=a0T b)&&r.all fun x=>a1n x b.1) (bt:=Sum.inl ()) (bf:=Sum.inr (false,()))
  (fun i h hp=>by
   simp only[bA,dT]at hp;have e:((((b.2.1[i]).length:Nat):Int) != ((a0T b:Nat):Int))=false:=by simp_all
   have hi:=g i b.2.1[i] (by unfold short;omega);rw[hp.2,cT]at hi;simp only[a4q,dlt h,cT,a0D h,oB,a4R,e,cF,hi,a0B (show i<1000000 by omega)])
  (fun i h hp=>by
   by_cases hl:(b.2.1[i]).length=a0T b
   have e:((((b.2.1[i]).length:Nat):Int) != ((a0T b:Nat):Int))=false:=by simp_all
   have hi:=g i b.2.1[i] (by unfold short;omega);rw[decide_eq_true hl,a61]at hp;rw[hp,cF]at hi;simp_all[a4q,a0D,a4R];have e:((((b.2.1[i]).length:Nat):Int) != ((a0T b:Nat):Int))=true:=by grind
   simp only[a4q,dlt h,cT,a0D h,oB,a4R,e])
  (by simp_all[a4q])
 simp at k;rw[k]
 by_cases hA:b.2.1.all (fun r=>decide (r.length=a0T b)&&r.all fun x=>a1n x b.1)=true
 rw[hA,decide_eq_true (show a2J b from⟨h1,h2,by omega,by omega,by omega,by omega,hA⟩)];rfl;rw[a87.2 hA,decide_eq_false (show ¬ a2J b from fun h=>hA h.2.2.2.2.2.2)];rfl
def a7E{α β:Type}(g:α→Option β):List α→Option (List β)
 | []=>some []
 |a::l=>(g a).bind fun b=>(a7E g l).bind fun r=>some (b::r)
theorem b9e{α β:Type}{g:α→Option β}:∀{l:List α}{r:List β},a7E g l=some r→r.length=l.length
 | [],r,h=>by cases h;rfl
 |a::l,r,h=>by
  simp only[a7E,a21]at h;obtain⟨b,-,c,f,k⟩:=h;cases k;simp[b9e f]
theorem c2i{α β:Type}{g:α→Option β}:∀{l:List α}{r:List β},a7E g l=some r→∀a∈l,(g a).isSome=true
 | [],r,h,a,ha=>by cases ha
 |a::l,r,h,x,hx=>by
  simp only[a7E,a21]at h;obtain⟨b,f,d,k,c⟩:=h;rcases mC.1 hx with rfl|hx;rw[f];rfl;exact c2i k x hx
def a9n(f:a1q):Option a1e:=
 if frP f∧((f.2.2.2.2.1.length:Nat):Int)=f.2.2.1.2.1 then
  (a7E (fun s=>a2l s f.2.1) f.2.2.2.2.1).bind fun rs=>
   if a2I rs∧a5f f.2.2.2.1 (rs.length:Int)then
    (b0Y f.2.2.2.1 rs).bind fun ch=>if a2J (f.2.2.1.2.2.1,ch,())then some (f.2.2.1.2.2.1,ch,())else none
   else none
 else none
def b2t:a1e:=(0,[],())
def d7j:Option a1e→a1e×Int
 |some b=>(b,0)
 |none=>(b2t,1)
theorem b8A(f:a1q)(all:List Sub)(i:all.length≤8):∀(rest done:List Sub)(rows:List (List Int)),done++rest=all→rows.length=done.length→(∀s∈rest,SmallS s)→
  y0s a4D (all,(all.length:Int),(done.length:Int),rows,b2t,f,())=some (match a7E (fun s=>a2l s f.2.1) rest with|some rs=>Sum.inl (rows++rs,b2t,f,())|none=>Sum.inr (1,b2t,()))
 | [],done,rows,hd,hr,_=>by
  have e:done=all:=by simpa using hd
  subst e;rw[a0E (b:=Sum.inl (rows,b2t,f,())) (by simp only[a4D,dge,cF])];simp[a7E]
 |s::rest,done,rows,hd,hr,h=>by
  have j:=h s (by simp);have k:done.length<all.length:=by rw[←hd];simp
  have a:m0k all (done.length:Int)=some s:=by rw[a0D k];subst hd;simp
  have g:=b9G j f.2.1;simp only[a7E];cases ho:a2l s f.2.1 with
  |none=>
   rw[ho]at g;have d:((1:Int) != 0)=true:=rfl;exact a0E (by simp only[a4D,dlt k,cT,a,oB,g,d];rfl)
  |some r=>
   rw[ho]at g;have c:((0:Int) != 0)=false:=rfl;rw[a0F (s':=(all,(all.length:Int),(((done++[s]).length:Nat):Int),rows++[r],b2t,f,())) (by
    simp only[a4D,dlt k,cT,a,oB,g,c,cF,a0W (show rows.length+1<2147483648 by omega),a0B (show done.length<1000000 by omega)]
    simp)]
   rw[b8A f all i rest (done++[s]) (rows++[r]) (by simpa using hd) (by simp[hr]) (fun t l=>h t (by simp[l]))];simp only[oB];cases a7E (fun s=>a2l s f.2.1) rest<;>simp
theorem c3W{f:a1q}(b:∀s∈f.2.2.2.2.1,SmallS s):a3Q f=some (d7j (a9n f)):=by
 unfold a3Q a9n;simp only[b5G,oB]
 by_cases hf:frP f
 rotate_left;simp only[hf,decide_false,a40,cT,oB,false_and,if_false];rfl
 by_cases hl:((f.2.2.2.2.1.length:Nat):Int)=f.2.2.1.2.1
 rotate_left;have e:(((f.2.2.2.2.1.length:Nat):Int) != f.2.2.1.2.1)=true:=by simpa using hl
 simp only[hf,decide_true,bT,cF,oB,e,cT,hl,and_false,if_false];rfl;have e:(((f.2.2.2.2.1.length:Nat):Int) != f.2.2.1.2.1)=false:=by simpa using hl
 have a:f.2.2.2.2.1.length≤8:=by have:=hf.1.2.2.2.1;omega
 have k:decide ((0:Int)≤((f.2.2.2.2.1.length:Nat):Int))=true:=by simp
 have h:=b8A f f.2.2.2.2.1 a f.2.2.2.2.1 [] [] rfl rfl b;rw[a23]at h;rw[if_pos ⟨hf,hl⟩];simp only[hf,decide_true,bT,cF,oB,e,k,tN,a0W (show f.2.2.2.2.1.length<2147483648 by omega),a02,cT]
 erw[h]
 cases hm:a7E (fun s=>a2l s f.2.1) f.2.2.2.2.1 with
 |none=>rfl
 |some rs=>
  simp only[oB,a09,d1g]
  by_cases hq:a2I rs∧a5f f.2.2.2.1 (rs.length:Int)
  ·simp only[if_pos hq];cases hu:b0Y f.2.2.2.1 rs with
   |none=>rfl
   |some ch=>
    have g:((0:Int) != 0)=false:=rfl;simp only[b9d,g,cF,a6A,oB]
    by_cases hb:a2J (f.2.2.1.2.2.1,ch,())
    simp only[hb,decide_true,bT,cF,if_true];rfl;simp only[hb,decide_false,a40,cT,if_false];rfl
  simp only[if_neg hq];rfl
theorem d2u{f:a1q}(h:∀s∈f.2.2.2.2.1,SmallS s):a4k f=some (a9n f).isSome:=by
 unfold a4k;rw[c3W h];cases a9n f<;>rfl
theorem b7t{f:a1q}{b:a1e}(h:a9n f=some b):frP f∧((f.2.2.2.2.1.length:Nat):Int)=f.2.2.1.2.1∧∀s∈f.2.2.2.2.1,(a2l s f.2.1).isSome=true:=by
 unfold a9n at h
 split at h
 rename_i g;simp only[a21]at h;obtain⟨a,k,-⟩:=h;exact⟨g.1,g.2,c2i k⟩;cases h
theorem c6I{f:a1q}{b:a1e}(k:∀s∈f.2.2.2.2.1,SmallS s)(h:a9n f=some b):∃L,L.length≤5600000∧some ((L.length:Nat):Int)=f.2.2.2.2.1.foldr (fun s a=>a.bind fun a=>(a4e (s,f.2.1)).bind fun c=>some (c+a)) (some 0)∧
  a4m f=some (a6z f L,0)∧(∀R:List Int,R.length≤200000000→a6p (a6z f L++R)=some (f,((a6z f L).length:Int),(0:Int))):=by
 obtain⟨g,j,l⟩:=b7t h;have d:a4k f=some true:=by rw[d2u k,h];rfl
 have m:f.2.2.2.2.1.length≤8:=by have:=g.1.2.2.2.1;omega
 obtain⟨t,o,p,i,q,r⟩:=c3T d g m (fun s e=>⟨k s e,l s e⟩);exact⟨a0O t,i,q,r,fun R n=>c2K d g j o p i n⟩
theorem c3X(x:a0M):eqT (.pair (.int .i64) (.pair (.int .i64) (.pair (.int .i64) .unit))) x x=true:=by
 show((x.1==x.1)&&((x.2.1==x.2.1)&&((x.2.2.1==x.2.2.1)&&true)))=true
 simp
theorem b7u{x w:Int}(h:4≤w∧w≤24):b2o (x,w)=some (a1n x w):=by
 have:=c4F (x:=x) (w:=w.toNat) (by omega)
 grind
theorem d1h{x w:Int}(b:4≤w∧w≤24)(h:a1n x w=true):-16777216≤x∧x≤16777216:=by
 unfold a1n at h;simp at h;obtain⟨-,-,f,g⟩:=h;obtain⟨o,k⟩:∃o:Nat,w-1=(o:Int):=⟨(w-1).toNat,by omega⟩;rw[k]at f g;rw[c3u (by omega)]at g;have hp:2^o≤2^24:=a51 (by omega) (by omega);have a:A0n .i64 (-1) (o:Int)=wrap .i64 (-((2^o:Nat):Int)):=by
  unfold A0n;show wrap .i64 (-1*2^(min (o:Int).toNat 64))=_
  grind
 grind[a0C]
theorem c7N{x w:Int}(g:4≤w∧w≤24)(h:a1n x w=true):a0A x=true:=a1H.2 (by have:=d1h g h;omega)
theorem b4c{b:a1e}(h:a2J b):a3r b.2.1 (a0T b)∧a2I b.2.1:=by
 obtain⟨k,a,c,d,e,i,g⟩:=h;have j:a3r b.2.1 (a0T b):=fun r f=>by
  have:=lA.1 g r f
  simp only[bA,dT]at this
  grind[c7N]
 grind[b9c]
theorem c6J{b:a1e}(hb:a2J b){l:List a0M}(c:a5f l (b.2.1.length:Int)){rows:List (List Int)}(n:doO l b.2.1=some rows){ss:List Sub}(q:a7E (fun s=>a2l s ((a0T b:Nat):Int)) ss=some rows)
  {start rate:Int}(h:0≤start∧start≤4194304-((a0T b:Nat):Int))(p:1≤rate∧rate≤1048576):
  a9n (start,((a0T b:Nat):Int),(rate,((b.2.1.length:Nat):Int),b.1,()),l,ss,())=some b:=by
 obtain⟨m,y⟩:=b4c hb;obtain⟨x,z⟩:=b3q l m rfl c.2.2.2 n;have o:=b9e q;obtain⟨e,i,r,t,u,j,v⟩:=hb;have a:frP (start,((a0T b:Nat):Int),(rate,((b.2.1.length:Nat):Int),b.1,()),l,ss,()):=⟨⟨p.1,p.2,by grind,by grind,e,i⟩,by grind,by grind,h.1,h.2,c⟩;have k:((ss.length:Nat):Int)=((b.2.1.length:Nat):Int):=by omega
 have g:a2I rows:=b9c x (by omega) (by omega) j;have d:a5f l ((rows.length:Nat):Int):=by simp_all
 have w:=c5j l m rfl c.2.2.2 n;have f:((b.1,b.2.1,()):a1e)=b:=rfl;unfold a9n;rw[if_pos ⟨a,k⟩];simp only[q,oB];rw[if_pos ⟨g,d⟩,w];simp only[oB,f];rw[if_pos ⟨e,i,r,t,u,j,v⟩]
def c0O:a1q:=(0,0,(0,0,0,()),[],[],())
theorem c6K(k:Nat)(a:k≤62)(y:Int):∃v:Nat,bits .i64 .and y ((2^k-1:Nat):Int)=(v:Int)∧v<2^k:=by
 have hp:2^k≤2^62:=a51 (by omega) a;have f:0<2^k:=Nat.pow_pos (by omega);have h:((a00 64 y) &&& (a00 64 ((2^k-1:Nat):Int))).toNat=(a00 64 y).toNat%2^k:=by
  rw[a46];have e:(a00 64 ((2^k-1:Nat):Int)).toNat=2^k-1:=by
   rw[a27];generalize 2^k=p at *;omega
  rw[e,a32]
 have g:=a18 (a00 64 y).toNat f;refine⟨(a00 64 y).toNat%2^k,?_,g⟩;show wrap .i64 ((((a00 64 y) &&& (a00 64 ((2^k-1:Nat):Int))).toNat:Nat):Int)=_;rw[h];generalize (a00 64 y).toNat%2^k=z at *;exact a0C (by omega)
theorem c0P(c:List (List Int))(n i:Int){r:List Int}(a:short r):∀(k j:Nat)(s:Int),2≤j→j+k=r.length∨(k=0∧r.length≤j)→∃s',y0s a6N (s,r,(j:Int),c,n,i,())=some (s',c,n,i,())
 |0,j,s,h2,h=>⟨s,a0E (by
   have d:decide ((j:Int)<(r.length:Int))=false:=by grind
   simp only[a6N,d,cF])⟩
 |k+1,j,s,h2,h=>by
  have f:j<r.length:=by omega
  unfold short at a;have b:wrap .i64 ((j:Int)-1)=((j-1:Nat):Int):=by grind[a0C]
  have e:wrap .i64 ((j:Int)-2)=((j-2:Nat):Int):=by grind[a0C]
  have m:=a0D (l:=r) (i:=j-1) (by omega);have o:=a0D (l:=r) (i:=j-2) (by omega);obtain⟨s',g⟩:=c0P c n i a k (j+1) (wrap .i64 (s+v0r (wrap .i64 (wrap .i64 (r[j]-wrap .i64 (2*r[j-1]))+r[j-2])) (wrap .i64 (0-wrap .i64 (wrap .i64 (r[j]-wrap .i64 (2*r[j-1]))+r[j-2]))))) (by omega) (by omega);refine⟨s',?_⟩;rw[←g];exact a0F (by simp only[a6N,dlt f,cT,a0D f,oB,b,e,m,o,a0B (show j<1000000 by omega)])
theorem c2j{c:List (List Int)}{n:Nat}(h:a3r c n)(m:n≤4096)(l:c.length<1000):∃w,a7i c=some w:=by
 unfold a7i;simp only[c1x,oB]
 by_cases hq:a2I c
 rotate_left;simp_all;simp[hq];have f:∀(k i:Nat)(s:Int),i+k=c.length→∃s',y0s a6O (s,c,(c.length:Int),(i:Int),())=some (s',()):=by
  intro k
  induction k with
  |zero=>
   intro i s hi;obtain rfl:i=c.length:=by omega
   simp_all[a0E,a6O]
  |succ k ih=>
   intro i s hi;have g:i<c.length:=by omega
   have o:=(h _ (a26 g)).1;obtain⟨e,a⟩:=c0P c (c.length:Int) (i:Int) (r:=c[i]) (by unfold short;omega) (c[i].length-2) 2 s (a68 _) (by omega);obtain⟨j,b⟩:=ih (i+1) e (by omega);refine⟨j,?_⟩;rw[←b];rw[show((2:Nat):Int)=2 from rfl]at a;exact a0F (by simp only[a6O,dlt g,cT,a0D g,oB,a,a0B (show i<1000000 by omega)])
 obtain⟨s',d⟩:=f c.length 0 0 (by omega);simp_all
def a4S(m:Nat):List a0M:=match m with
 | 1=>[(0,1,-256,())]
 | 2=>[(1,0,-256,())]
 | 3=>[(1,0,-256,()),(0,1,128,())]
 | 4=>[(1,0,-106,()),(0,1,181,()),(1,0,-106,())]
 |_=>[]
theorem b9f{m:Nat}(h:m≤4):b0J (m:Int)=some (a4S m):=by
 match m,h with
 |0,_=>rfl
 | 1,_=>rfl
 | 2,_=>rfl
 | 3,_=>rfl
 | 4,_=>rfl
theorem c2k{m:Nat}(h:m≤4):a5f (a4S m) 2:=by
 match m,h with
 |0,_=>decide
 | 1,_=>decide
 | 2,_=>decide
 | 3,_=>decide
 | 4,_=>decide
theorem b4E{p:List (List Int)}{n:Nat}(hp:a3r p n)(b:p.length=2)(f:a2I p)(a:n≤4096):∀(k m best:Nat)(least:Int),m+k=5→best≤4→(doO (a4S best) p).isSome=true→
  ∃best',y0s a6k (p,(best:Int),least,(m:Int),())=some (((best':Nat):Int),())∧best'≤4∧(doO (a4S best') p).isSome=true
 |0,m,best,least,hm,hb,hd=>by
  obtain rfl:m=5:=by omega
  exact⟨best,a0E rfl,hb,hd⟩
 |k+1,m,best,least,hm,hb,hd=>by
  have d:decide ((m:Int)<5)=true:=by grind
  have e:wrap .i64 ((m:Int)+1)=((m+1:Nat):Int):=a0B (by omega);have g:a5f (a4S m) (p.length:Int):=by grind[c2k]
  cases hdo:doO (a4S m) p with
  |none=>
   have j:((6:Int) != 0)=true:=rfl;rw[a0F (s':=(p,(best:Int),least,((m+1:Nat):Int),())) (by
    simp only[a6k,d,cT,b9f (show m≤4 by omega),oB,c2P,if_pos (show a2I p∧a5f (a4S m) (p.length:Int)from⟨f,g⟩),hdo,b9d,j,e])]
   exact b4E hp b f a k (m+1) best least (by omega) hb hd
  |some r=>
   have i:((0:Int) != 0)=false:=rfl;obtain⟨l,o⟩:=b3q (a4S m) hp rfl g.2.2.2 hdo
   obtain⟨w,c⟩:=c2j l a (by omega);have h:a6k (p,(best:Int),least,(m:Int),())=bif decide (w<least)then some (.inl (p,(m:Int),w,((m+1:Nat):Int),()))else some (.inl (p,(best:Int),least,((m+1:Nat):Int),())):=by
    simp only[a6k,d,cT,b9f (show m≤4 by omega),oB,c2P,if_pos (show a2I p∧a5f (a4S m) (p.length:Int)from⟨f,g⟩),hdo,b9d,i,cF,c,e]
   cases hlt:decide (w<least)with
   |true=>
    rw[hlt]at h;rw[a0F h];exact b4E hp b f a k (m+1) m w (by omega) (by omega) (by simp_all)
   |false=>
    rw[hlt]at h;rw[a0F h];exact b4E hp b f a k (m+1) best least (by omega) hb hd
theorem d1i{p:List (List Int)}{n:Nat}(hp:a3r p n)(g:p.length=2)(h:n≤4096):∃m,m≤4∧b1R p=some (a4S m)∧(doO (a4S m) p).isSome=true:=by
 have k:=b9c hp (by omega) (by omega) h;obtain⟨w,c⟩:=c2j hp h (by omega);obtain⟨m,a,f,b⟩:=b4E hp g k h 4 1 0 w rfl (by omega) rfl
 grind[b1R,b9f]
def b2u(i:Nat)(s:a0M):a0M:=(s.1+(i:Int),s.2.1+(i:Int),s.2.2.1,())
theorem c8U{i N:Nat}(h:i+2≤N){s:a0M}(k:a2y 2 s=true):a2y (N:Int) (b2u i s)=true:=by
 obtain⟨a1,a,b,c,d,g,f⟩:=a2V.1 k;exact a2V.2 ⟨by show 0≤s.1+(i:Int);omega,by show s.1+(i:Int)<(N:Int);omega,by show 0≤s.2.1+(i:Int);omega,by show s.2.1+(i:Int)<(N:Int);omega,by show s.1+(i:Int)≠s.2.1+(i:Int);omega,g,f⟩
def c2Q(i:Nat)(c c' p:List (List Int)):Prop:=c'.length=c.length∧p.length=2∧c'.getD i []=p.getD 0 []∧c'.getD (i+1) []=p.getD 1 []∧∀j,j≠i→j≠i+1→c'.getD j []=c.getD j []
theorem c6L{i:Nat}{c0 c p p':List (List Int)}(hi:i+2≤c0.length)(h:c2Q i c0 c p){s:a0M}(n:a2y 2 s=true)(g:a3L 1 s p=some p'):∃c',a3L 1 (b2u i s) c=some c'∧c2Q i c0 c' p':=by
 obtain⟨y,z,A,B,C⟩:=h;obtain⟨a1,k,a,b,q,t,u⟩:=a2V.1 n;unfold a3L at g⊢;simp only at g⊢;have f:∀x:Int,0≤x→x<2→c.getD (x+(i:Int)).toNat []=p.getD x.toNat []:=fun x E o=>by
  grind
 have v:=f s.1 a1 k;have w:=f s.2.1 a b;simp only[b2u];have m:a9K 1 s.2.2.1 (c.getD (s.1+(i:Int)).toNat []) (c.getD (s.2.1+(i:Int)).toNat [])=a9K 1 s.2.2.1 (p.getD s.1.toNat []) (p.getD s.2.1.toNat []):=by simp_all
 simp only[m]
 split at g
 rename_i d;cases g;rw[if_pos d];generalize a9K 1 s.2.2.1 (p.getD s.1.toNat []) (p.getD s.2.1.toNat [])=r at *;refine⟨_,rfl,by grind,by grind,?_,?_,fun j D l=>?_⟩
 have:s.2.1=0∨s.2.1=1:=by omega
 rcases this with e|e;rw[e,show((0:Int)+(i:Int)).toNat=i from by omega,a7A _ (by omega),show(0:Int).toNat=0 from rfl,a7A _ (by omega)];rw[e,show((1:Int)+(i:Int)).toNat=i+1 from by omega,b2i _ (by omega),show(1:Int).toNat=1 from rfl,b2i _ (by omega)];omega
 have:s.2.1=0∨s.2.1=1:=by omega
 rcases this with e|e;simp_all;rw[e,show((1:Int)+(i:Int)).toNat=i+1 from by omega,a7A _ (by omega),show(1:Int).toNat=1 from rfl,a7A _ (by omega)];rw[b2i _ (by omega)];simp_all;simp_all
theorem c3Y{i:Nat}{c0:List (List Int)}(hi:i+2≤c0.length):∀(l:List a0M){c p p':List (List Int)},l.all (a2y 2)=true→c2Q i c0 c p→doO l p=some p'→∃g,doO (l.map (b2u i)) c=some g∧c2Q i c0 g p'
 | [],c,p,p',_,h,hd=>by cases hd;exact⟨c,rfl,h⟩
 |s::l,c,p,p',hl,h,hd=>by
  simp only[a36,bA]at hl;simp[doO,a21]at hd;obtain⟨q,f,k⟩:=hd;obtain⟨d,a,b⟩:=c6L hi h hl.1 f;obtain⟨g,j1,j2⟩:=c3Y hi l hl.2 b k;exact⟨g,by simp only[a24,doO,a,oB];exact j1,j2⟩
theorem c5l:∀(l m:List a0M)(c:List (List Int)),doO (l++m) c=(doO l c).bind (doO m)
 | [],m,c=>rfl
 |s::l,m,c=>by
  simp only[a44,doO];cases a3L 1 s c with
  |none=>rfl
  |some d=>exact c5l l m d
theorem c3Z{α β:Type}(f:α→β):∀l:List α,l.flatMap (fun x=>[f x])=l.map f
 | []=>rfl
 |x::l=>by simp[c3Z f l]
theorem c4T(b:a1e)(first:Nat)(s:first≤100){y:List a0M}(d:y.all (a2y 2)=true)(r:y.length≤10)(out:List a0M)(t:out.length≤1000):
  y0s a6l ((first:Int),(y.length:Int),(0:Int),out,y,b,())=some ((first:Int),out++y.map (b2u first),b,()):=by
 have:=a1G (f:=a6l) (β:=Int×(List a0M×(a1e×Unit))) y (fun i (a:List a0M)=>((first:Int),(y.length:Int),(i:Int),a,y,b,())) (fun a x=>.inl (a++[b2u first x])) (fun i a=>a.length=out.length+i) (fun a=>((first:Int),a,b,()))
  (fun i hi a k=>⟨fun e h=>by
   simp at h;subst h;obtain⟨a1,j,l,m,o,p,q⟩:=a2V.1 (lA.1 d _ (a26 hi));have g:decide ((0:Int)≤(i:Int))=true:=by simp
   have c:a95 y (a33 (i:Int)) ((0:Int),(0:Int),(0:Int),())=y[i]:=by simp_all
   refine⟨?_,by grind⟩;simp only[a6l,dlt hi,cT,g,a02,a0W (show a.length+1<2147483648 by omega),c,a0B (show i<1000000 by omega),a72];rw[a0C (n:=y[i].1+(first:Int)) (by omega),a0C (n:=y[i].2.1+(first:Int)) (by omega)]
   rfl,fun b hb=>by grind⟩)
  (fun a k=>by simp_all[a6l]) (a:=out) (by simp)
 simp_all[b1C,a8d,c3Z]
theorem d4p{c:List (List Int)}{i:Nat}(h:i+2≤c.length):a31 i (a30 (i+2) c)=[c.getD i [],c.getD (i+1) []]:=by
 apply List.ext_getElem?;intro j;rw[a55]
 grind
theorem c0Q{b:a1e}{n:Nat}(o:a3r b.2.1 n)(p:n≤4096)(z:b.2.1.length≤8):∀(k j:Nat)(out:List a0M)(c:List (List Int)),j+k=5→out.length≤3*j→out.all (a2y (b.2.1.length:Int))=true→doO out b.2.1=some c→(∀i,2*j≤i→c.getD i []=b.2.1.getD i [])→3*j≤12∨b.2.1.length≤2*j→
  ∃l f,y0s a8z (((2*j:Nat):Int),out,b,())=some (l,())∧l.length≤16∧l.all (a2y (b.2.1.length:Int))=true∧doO l b.2.1=some f
 |k,j,out,c,hk,hol,hob,hdo,hag,h12=>by
  have g:wrap .i64 (((2*j:Nat):Int)+1)=((2*j+1:Nat):Int):=by grind[a0C]
  by_cases hlt:2*j+1<b.2.1.length
  ·cases k with
   |zero=>omega
   |succ k=>
    have e:wrap .i64 (((2*j:Nat):Int)+2)=((2*j+2:Nat):Int):=by grind[a0C]
    have hp:a3r [b.2.1.getD (2*j) [],b.2.1.getD (2*j+1) []] n:=fun r q=>by
     simp only[mC,a47,or_false]at q;rcases q with rfl|rfl
     all_goals grind[a8m]
    obtain⟨m,u,N,E⟩:=d1i hp rfl p;obtain⟨p',d⟩:=Option.isSome_iff_exists.1 E;have h:=(c2k u).2.2.2;have C:(a4S m).length≤3:=by
     match m,u with
     |0,_=>decide
     | 1,_=>decide
     | 2,_=>decide
     | 3,_=>decide
     | 4,_=>decide
    have A:c.length=b.2.1.length:=(b3q out o rfl hob hdo).2;obtain⟨f,F,G,H,I,K,L⟩:=c3Y (i:=2*j) (c0:=c) (by omega) (a4S m) h ⟨rfl,rfl,hag _ (a68 _),hag _ (by omega),fun _ _ _=>rfl⟩ d;have B:=c4T b (2*j) (by omega) h (by omega) out (by omega);have a:decide (((2*j+1:Nat):Int)<((b.2.1.length:Nat):Int))=true:=by grind
    have v:decide ((0:Int)≤((2*j+2:Nat):Int))=true:=by rfl
    have w:decide (((2*j+2:Nat):Int)≤((b.2.1.length:Nat):Int))=true:=by grind
    have x:decide ((0:Int)≤((2*j:Nat):Int))=true:=by rfl
    have y:decide (((2*j:Nat):Int)≤((2*j+2:Nat):Int))=true:=by grind
    rw[a0F (s':=(((2*(j+1):Nat):Int),out++(a4S m).map (b2u (2*j)),b,())) (by
     simp only[a8z,g,a,cT,e,v,w,a02,tN,x,y]
     grind[d4p])]
    refine c0Q o p z k (j+1) (out++(a4S m).map (b2u (2*j))) f (by omega) (by grind) ?_ (by simp_all[c5l]) (fun i hi=>by grind) (by omega);rw[List.all_append,hob,a61,lA];intro s D;obtain⟨t,M,rfl⟩:=a39.1 D
    grind[c8U]
  refine⟨out,c,a0E ?_,by omega,hob,hdo⟩;have a:decide (((2*j+1:Nat):Int)<((b.2.1.length:Nat):Int))=false:=by grind
  simp only[a8z,g,a,cF]
termination_by k=>k
theorem c4a{b:a1e}(hb:a2J b):∃l h,a7y b=some l∧a5f l (b.2.1.length:Int)∧doO l b.2.1=some h:=by
 obtain⟨c,-⟩:=b4c hb;have a:=hb.2.2.2.1;obtain⟨l,h,d,g,f,k⟩:=c0Q c hb.2.2.2.2.2.1 a 5 0 [] b.2.1 rfl (by simp) rfl rfl (fun _ _=>rfl) (by omega);refine⟨l,h,?_,⟨by have:=hb.2.2.1;omega,by omega,g,f⟩,k⟩;unfold a7y;simp[a6A,decide_eq_true hb];simp_all
theorem c8V{r:List Int}{n:Nat}(h:r.length=n∧r.all a0A=true)(a:1≤n)(b:n≤256){k:Int}(f:0≤k)(c:k≤3):
  ∃s,a5B (r,k)=some (s,0)∧SmallS s∧a2l s (n:Int)=some r∧a5c s (n:Int)≤((13+a0I r*n:Nat):Int):=by
 obtain⟨e,g⟩:=h;have d:=a6V (l:=r) (by omega) g
 grind[c6z,d2q]
theorem c0R{effort:Int}(k:0≤effort)(c:effort≤3){rows:List (List Int)}{n:Nat}(i:a3r rows n)(a:1≤n)(b:n≤256)(l:rows.length≤8)(f:a1q):∀(rest d:List (List Int)) (done:List Sub),d++rest=rows→done.length=d.length→
  ∃outs,y0s a5C (effort,rows,(rows.length:Int),(d.length:Int),c0O,a8P f done,())=some (.inl (c0O,a8P f (done++outs),()))∧a7E (fun s=>a2l s (n:Int)) outs=some rest∧(∀s∈outs,SmallS s)∧a7E (fun r=>a5B (r,effort)) rest=some (outs.map fun s=>(s,0))
 | [],d,done,hd,hdl=>by
  have e:d=rows:=by simp_all
  subst e;refine⟨[],?_,rfl,by simp,rfl⟩;simp_all[a0E,a5C]
 |r::rest,d,done,hd,hdl=>by
  have g:d.length<rows.length:=by grind
  have m:m0k rows (d.length:Int)=some r:=by grind[a0D]
  obtain⟨s,j,o,p,-⟩:=c8V (i r (by grind)) a b k c;have z0:((0:Int) != 0)=false:=rfl;have h:a5C (effort,rows,(rows.length:Int),(d.length:Int),c0O,a8P f done,())=some (.inl (effort,rows,(rows.length:Int),(((d++[r]).length:Nat):Int),c0O,a8P f (done++[s]),())):=by
   simp only[a5C,dlt g,cT,m,oB,j,z0,cF];rw[show(a8P f done).2.2.2.2.1=done from rfl,a0W (show done.length+1<2147483648 by omega),cT,a0B (show d.length<1000000 by omega)];rw[show(((d++[r]).length:Nat):Int)=((d.length+1:Nat):Int)from by simp];rfl
  rw[a0F h];obtain⟨outs,u,v,w,x⟩:=c0R k c i a b l f rest (d++[r]) (done++[s]) (by simp_all) (by simp_all);refine⟨s::outs,?_,?_,fun t q=>?_,?_⟩;simp_all;simp_all[a7E]
  grind
  simp_all[a7E]
theorem c6M{b:a1e}(hb:a2J b)(k:a0T b≤256){rate start effort:Int}(n:1≤rate∧rate≤1048576)(B:0≤start∧start≤4194304-((a0T b:Nat):Int))(y:0≤effort)(z:effort≤3):
  ∃l g outs,a4K (b,(rate,((b.2.1.length:Nat):Int),b.1,()),start,effort)=some ((start,((a0T b:Nat):Int),(rate,((b.2.1.length:Nat):Int),b.1,()),l,outs,()),0)∧
   a5f l (b.2.1.length:Int)∧doO l b.2.1=some g∧a7E (fun s=>a2l s ((a0T b:Nat):Int)) outs=some g∧(∀s∈outs,SmallS s)∧a7E (fun r=>a5B (r,effort)) g=some (outs.map fun s=>(s,0))∧
   (effort=0→l=[])∧(0<effort→a7y b=some l):=by
 obtain⟨A,m⟩:=b4c hb;have i:=hb;obtain⟨w,x,D,E,F,G,-⟩:=i;have j:a3X (rate,((b.2.1.length:Nat):Int),b.1,()):=⟨n.1,n.2,by grind,by grind,w,x⟩;have f:∃l g,a5f l (b.2.1.length:Int)∧doO l b.2.1=some g∧(effort=0→l=[])∧(0<effort→a7y b=some l):=by
  by_cases he:effort=0
  exact⟨[],b.2.1,⟨by omega,by omega,by simp,rfl⟩,rfl,fun _=>rfl,fun h=>by omega⟩
  grind[c4a]
 obtain⟨l,g,e,d,a,c⟩:=f;obtain⟨C,H⟩:=b3q l A rfl e.2.2.2 d;obtain⟨outs,j1,j2,j3,j4⟩:=c0R y z C (by omega) k (by omega) (start,((a0T b:Nat):Int),(rate,((b.2.1.length:Nat):Int),b.1,()),l,([]:List Sub),()) g [] [] rfl rfl;refine⟨l,g,outs,?_,e,d,j2,j3,j4,a,c⟩;have u:(b.1 != b.1)=false:=bne_self_eq_false _;have v:(((b.2.1.length:Nat):Int) != ((b.2.1.length:Nat):Int))=false:=bne_self_eq_false _;have o:decide (effort<0)=false:=by simp_all
 have p:decide (effort > 3)=false:=by simp_all
 have q:decide (start<0)=false:=by simp_all
 have t:decide (start > wrap .i64 (4194304-((a0T b:Nat):Int)))=false:=by grind[a0C]
 have z0:((0:Int) != 0)=false:=rfl;unfold a4K;simp only[a6A,decide_eq_true hb,oB,bT,cF,a4z,decide_eq_true j,u,v,o,p,q,a4R,t];cases he:decide (effort > 0)with
 |true=>
  have:=c (by simp_all)
  simp[this,c2P,if_pos (show a2I b.2.1∧a5f l (b.2.1.length:Int)from⟨m,e⟩),d,b9d]
  erw[j1]
  rfl
 |false=>
  have:=a (by grind)
  subst this;simp only[cF,oB,c2P,if_pos (show a2I b.2.1∧a5f ([]:List a0M) (b.2.1.length:Int)from⟨m,e⟩),d,b9d,z0]
  erw[j1]
  rfl
theorem made{b:a1e}(hb:a2J b)(f:a0T b≤256){rate start effort:Int}(e:1≤rate∧rate≤1048576)(a:0≤start∧start≤4194304-((a0T b:Nat):Int))(j:0≤effort)(n:effort≤3):
  ∃g:Int×(a0M×(List a0M×(List Sub×Unit))),a4K (b,(rate,((b.2.1.length:Nat):Int),b.1,()),start,effort)=some ((start,g),0)∧g.1=((a0T b:Nat):Int)∧g.2.1=(rate,((b.2.1.length:Nat):Int),b.1,())∧
   g.2.2.1.length≤16∧g.2.2.2.1.length≤8∧(∀s∈g.2.2.2.1,SmallS s)∧∀h,0≤h∧h≤4194304-((a0T b:Nat):Int)→a9n (h,g)=some b:=by
 obtain⟨l,i,outs,m,k,c,d,o,-⟩:=c6M hb f e a j n;obtain⟨p,-⟩:=b4c hb;have t:=b9e d;have q:=(b3q l p rfl k.2.2.2 c).2;exact⟨_,m,rfl,rfl,k.2.2.1,by have:=hb.2.2.2.1;show outs.length≤8;omega,o,fun h r=>c6J hb k c d r e⟩
theorem d1j(y:Int):bits .i64 .and y 255=y%256:=by
 have h:((a00 64 y) &&& (a00 64 255)).toNat=(y%18446744073709551616).toNat%256:=by
  rw[a46,a27];have e:(a00 64 255).toNat=2^8-1:=by decide
  rw[e,a32];rfl
 show wrap .i64 ((((a00 64 y) &&& (a00 64 255)).toNat:Nat):Int)=_;rw[h,a0C (by omega)];omega
theorem d7k(x:Int){j:Nat}(g:j<8):A0o .i64 x ((8*j:Nat):Int)=x.fdiv (256^j):=by
 have h:min (a33 ((8*j:Nat):Int)) (IntKind.bits .i64)=8*j:=by
  simp only[tN,IntKind.bits];omega
 unfold A0o;rw[h,show(256:Int)=2^8 from rfl,←Int.pow_mul]
def smB(k:Nat)(x:Int):List Int:=leB k (x%18446744073709551616).toNat
theorem d1k(x:Int)(j:Nat)(g:j<8):((((x%18446744073709551616).toNat) / 256^j%256:Nat):Int)=x.fdiv (256^j)%256:=by
 have h:j=0∨j=1∨j=2∨j=3∨j=4∨j=5∨j=6∨j=7:=by omega
 rcases h with rfl|rfl|rfl|rfl|rfl|rfl|rfl|rfl<;>rw[a58 _ (by decide)]<;>simp only[Nat.reducePow,Int.reducePow]<;>omega
theorem b6m(k:Nat)(x:Int):(smB k x).length=k:=b0R _ _
theorem c8W(k:Nat)(h:k<8)(x:Int):smB (k+1) x=smB k x++[x.fdiv (256^k)%256]:=by
 unfold smB;rw[b8O,d1k x k h]
theorem b7v:∀(k n:Nat),∀b∈leB k n,0≤b∧b<256
 |0,_=>by simp[leB]
 |k+1,n=>fun b hb=>by
  rcases mC.1 hb with rfl|hb;omega;exact b7v k _ b hb
def a3B(w:Int)(l:List Int):List Int:=l.flatMap (smB ((w+7) / 8).toNat)
theorem c4b{k:Nat}{g:Int→List Int}(h:∀x,(g x).length=k):∀(l:List Int),(l.flatMap g).length=l.length*k
 | []=>by simp
 |x::l=>by
  rw[a28,lN,h,c4b h l,lC,a48];omega
theorem c6N{w:Int}(hw:4≤w∧w≤24)(l:List Int):(a3B w l).length≤3*l.length:=by
 unfold a3B;rw[c4b (b6m _)]
 have:((w+7) / 8).toNat≤3:=by omega
 calc l.length*((w+7) / 8).toNat≤l.length*3:=Nat.mul_le_mul_left _ this
  _=3*l.length:=a62 ..
theorem c6O(w:Int)(a b:List Int):a3B w (a++b)=a3B w a++a3B w b:=a78
theorem c4c(w:Int)(l:List Int):∀b∈a3B w l,0≤b∧b<256:=fun b hb=>by
 obtain⟨x,-,h⟩:=a90.1 hb;exact b7v _ _ b h
theorem d1l(b x n:Int)(i:Int)(l:List Int){k:Nat}(e:k≤8)(out:List Int)(m:out.length<100000000):
  y0s a4F (b,(k:Int),x,l,n,i,(k:Int),(0:Int),out,())=some (b,(k:Int),l,n,i,out++smB k x,()):=by
 have h:=a1C (f:=a4F) (fun j=>(b,(k:Int),x,l,n,i,(k:Int),(j:Int),out++smB j x,()))
  k (b:=(b,(k:Int),l,n,i,out++smB k x,())) (fun j d=>by
   have c:wrap .i64 ((8:Int)*(j:Int))=((8*j:Nat):Int):=by rw[a0C (by omega)];omega
   have g:decide (((8*j:Nat):Int)<0)=false:=by simp;omega
   simp only[a4F];rw[dlt d,a0W (show(out++smB j x).length+1<2147483648 by rw[lN,b6m];omega),c,g,a0B (show j<1000000 by omega),d1j,d7k x (by omega),a8c,Int.emod_emod_of_dvd _ (by decide),c8W j (by omega),←aA];rfl) (by simp only[a4F,dge,cF])
 have a:out++smB 0 x=out:=by simp[smB,leB]
 simp only[a]at h;exact h
theorem d2v{w:Int}(h:4≤w∧w≤24):wrap .i64 (a19 (wrap .i64 (w+(7:Int))) (8:Int))=((((w+7) / 8).toNat:Nat):Int):=by
 rw[a0C (n:=w+7) (by omega),Int.tdiv_eq_ediv_of_nonneg (by omega),a0C (by omega)];omega
theorem c2l{w:Int}(g:4≤w∧w≤24)(l:List Int)(c:l.length≤1000000){k:Nat}(a:k≤3):∀(rest done out:List Int),done++rest=l→rest.all (fun x=>a1n x w)=true→out.length+3*rest.length<100000000→
  y0s a6M (w,(k:Int),l,(l.length:Int),(done.length:Int),out,())=some (.inl (out++rest.flatMap (smB k),()))
 | [],done,out,hd,_,_=>by
  obtain rfl:done=l:=by simpa using hd
  rw[a0E (b:=Sum.inl (out,())) (by simp only[a6M,dge,cF])]
  simp
 |x::rest,done,out,hd,hf,ho=>by
  have h:done.length<l.length:=by rw[←hd];simp
  have f:m0k l (done.length:Int)=some x:=by rw[a0D h];subst hd;simp
  simp only[a36,bA]at hf;simp only[lC]at ho;rw[a0F (s':=(w,(k:Int),l,(l.length:Int),(((done++[x]).length:Nat):Int),out++smB k x,())) (by
   simp only[a6M,dlt h,cT,f,oB,b4b g,hf.1,bT,cF,d1l w x _ _ l (show k≤8 by omega) out (by omega),a0B (show done.length<1000000 by omega)]
   simp)]
  rw[c2l g l c a rest (done++[x]) (out++smB k x) (by simpa using hd) hf.2 (by rw[lN,b6m];omega)]
  simp
theorem c1y{w:Int}(g:4≤w∧w≤24){l:List Int}(c:l.length≤1000000)(b:l.all (fun x=>a1n x w)=true):a9u (l,w)=some (a3B w l,0):=by
 have f:decide (w<(4:Int))=false:=by simp;omega
 have a:decide (w > (24:Int))=false:=by simp;omega
 have h:=c2l g l c (k:=((w+7) / 8).toNat) (by omega) l [] [] rfl b (by simp;omega);rw[a23]at h;simp only[a9u,f,cF,oB,a,d2v g]
 erw[h]
 rfl
def b0Z(d:List Int)(ch c:Nat):List Int:=((a04 d.length).filter fun i=>i%ch==c).map fun i=>d.getD i 0
def a1M(d:List Int)(ch:Nat):List (List Int):=(a04 ch).map (b0Z d ch)
def wv(n:Nat)(rows:List (List Int)):List Int:=(a04 n).flatMap fun i=>rows.map fun r=>r.getD i 0
theorem c8X{α:Type}{a b:List α}{i:Nat}{d:α}(h:i<a.length):(a++b).getD i d=a.getD i d:=by
 grind
theorem c7O(d:List Int)(x:Int)(ch c:Nat):b0Z (d++[x]) ch c=if d.length%ch=c then b0Z d ch c++[x]else b0Z d ch c:=by
 unfold b0Z;rw[lN,a69,a37,a56,pA];have h:((a04 d.length).filter fun i=>i%ch==c).map (fun i=>(d++[x]).getD i 0)=((a04 d.length).filter fun i=>i%ch==c).map fun i=>d.getD i 0:=
  a25 fun i hi=>c8X (a41.1 (List.mem_filter.1 hi).1)
 grind
theorem c4d(c:Nat):∀ch,(a04 ch).filter (·==c)=if c<ch then[c]else[]
 |0=>rfl
 |ch+1=>by
  rw[a37,a56,c4d c ch]
  grind
theorem c4e{ch c:Nat}(h:c<ch):∀n,(a04 (n*ch)).filter (fun i=>i%ch==c)=(a04 n).map fun i=>i*ch+c
 |0=>by simp
 |n+1=>by
  rw[Nat.succ_mul,a42,a56,c4e h n,a37,pA,List.filter_map];congr 1;have e:∀i∈a04 ch,((fun i=>i%ch==c)∘fun x=>n*ch+x) i=(i==c):=fun i hi=>by
   simp_all[a49]
  simp_all[List.filter_congr,c4d]
theorem b7w{d:List Int}{n ch c:Nat}(g:d.length=n*ch)(h:c<ch):b0Z d ch c=(a04 n).map fun i=>d.getD (i*ch+c) 0:=by
 simp_all[b0Z,c4e]
theorem c8Y(f:Nat→Int)(ch:Nat):∀n,(a04 n).flatMap (fun i=>(a04 ch).map fun c=>f (i*ch+c))=(a04 (n*ch)).map f
 |0=>by simp
 |n+1=>by
  rw[a37,a78,c8Y f ch n,Nat.succ_mul,a42,pA,a34];simp[Function.comp_def]
theorem c6P(d:List Int):(a04 d.length).map (fun i=>d.getD i 0)=d:=
 a50 (by simp) fun i h g=>by simp_all
theorem c0S{α β:Type}{l:List α}{f g:α→List β}(h:∀a∈l,f a=g a):l.flatMap f=l.flatMap g:=by
 grind[a25]
theorem d1m{d:List Int}{n ch:Nat}(h:d.length=n*ch):wv n (a1M d ch)=d:=by
 have:wv n (a1M d ch)=(a04 n).flatMap fun i=>(a04 ch).map fun c=>d.getD (i*ch+c) 0:=
  c0S fun i hi=>by
   grind[a1M,a25,b7w]
 grind[c8Y,c6P]
theorem d2w{d:List Int}{n ch a b:Nat}(g:d.length=n*ch)(k:b≤n):wv (b-a) ((a1M d ch).map fun r=>(r.take b).drop a)=(d.take (b*ch)).drop (a*ch):=by
 have:wv (b-a) ((a1M d ch).map fun r=>(r.take b).drop a)=(a04 (b-a)).flatMap fun i=>(a04 ch).map fun c=>(fun j=>d.getD (a*ch+j) 0) (i*ch+c):=
  c0S fun i hi=>by
   have hi:=a41.1 hi;unfold a1M;rw[a34,a34];refine a25 fun c h=>?_
   show(((b0Z d ch c).take b).drop a).getD i 0=d.getD (a*ch+(i*ch+c)) 0;rw[b7w g (a41.1 h),lD,a55,List.getElem?_take_of_lt (by omega),a88,List.getElem?_range (by omega)]
   grind
 rw[this];refine(c8Y (fun j=>d.getD (a*ch+j) 0) ch (b-a)).trans ?_
 have hb:b*ch≤d.length:=by simp_all[a01]
 have e:(b-a)*ch=b*ch-a*ch:=Nat.sub_mul ..;refine a50 (by simp_all) fun i f l=>?_
 grind
def prm:Nat:=2305843009213693951
def prs(h:Nat)(l:List Nat):Nat:=l.foldl (fun h c=>(h*1000003+(c+1))%prm) h
theorem d1n(h:Nat):prs h []=h:=rfl
theorem c4f(h c:Nat)(l:List Nat):prs h (c::l)=prs ((h*1000003+(c+1))%prm) l:=rfl
theorem c6Q(h:Nat)(a b:List Nat):prs h (a++b)=prs (prs h a) b:=a43 ..
theorem c4g{h:Nat}(g:h<prm)(l:List Nat):prs h l<prm:=by
 induction l generalizing h with
 |nil=>exact g
 |cons c l ih=>exact ih (a18 _ (by decide))
theorem b6n(a b c:Nat):(a%prm*b+c)%prm=(a*b+c)%prm:=by
 simp_all[Nat.add_mod]
theorem c4h(a b:Nat):(a+b%prm)%prm=(a+b)%prm:=by
 simp
theorem c8Z(l:List Nat)(h:Nat):prs h l%prm=(h*1000003^l.length+prs 0 l)%prm:=by
 induction l generalizing h with
 |nil=>simp[d1n]
 |cons c l ih=>
  rw[c4f,c4f,ih,b6n,←c4h (h*_),ih ((0*1000003+(c+1))%prm),b6n,c4h,lC,a84]
  grind
theorem c9a(a b:List Nat):prs 0 (a++b)=(prs 0 a*(1000003^b.length%prm)+prs 0 b)%prm:=by
 rw[c6Q,←a49 (c4g (c4g (by decide) a) b),c8Z,a62 (prs 0 a) (_%prm),b6n,a62 (prs 0 a)]
def pwr:Nat→Nat→Nat→Nat→Nat
 |0,_,p,_=>p
 |k+1,n,p,s=>if n=0 then p else pwr k (n / 2) (if n%2=1 then p*s%prm else p) (s*s%prm)
theorem c9b(a b:Nat):a%prm*b%prm=a*b%prm:=b6n a b 0
theorem c4i(a n:Nat):(a%prm)^n%prm=a^n%prm:=by rw[←Nat.pow_mod]
theorem d2x(k n p s:Nat)(h:n<2^k)(hp:p<prm):pwr k n p s=p*s^n%prm:=by
 induction k generalizing n p s with
 |zero=>simp_all[pwr,a49]
 |succ k ih=>
  rw[pwr]
  by_cases h0:n=0
  simp_all[a49];rw[if_neg h0];have g:n / 2<2^k:=by omega
  have f:(s*s)^(n / 2)=s^(2*(n / 2)):=by grind[Nat.pow_mul]
  by_cases h1:n%2=1
  rw[if_pos h1,ih _ _ _ g (a18 _ (by decide)),a59,c4i,f,←a59,c9b,Nat.mul_assoc,←Nat.pow_succ']
  grind
  rw[if_neg h1,ih _ _ _ g hp,a59,c4i,f,←a59]
  grind
theorem c7P{u d y1 y0 q r:Nat}(g:u=q*y1+r)(h:q*y0≤4294967296*r+d):q*(y1*4294967296+y0)≤u*4294967296+d:=by
 grind
theorem d1o(u d e y:Nat):((u*4294967296+d)%y*4294967296+e)%y=((u*4294967296+d)*4294967296+e)%y:=by
 simp_all[Nat.add_mod,a59]
theorem c7Q(n k y:Nat)(h:0<k):n*k%(y*k) / k=n%y:=by
 simp_all[Nat.mul_mod_mul_right]
@[reducible] def Pc:Type:=a1q×(a1e×List Int)
def c4j(fm:a0M)(st:Nat)(x:Pc):Prop:=
 x.1.1=(st:Int)∧x.1.2.1=((a0T x.2.1:Nat):Int)∧x.1.2.2.1=fm∧a3Q x.1=some (x.2.1,0)∧a4m x.1=some (x.2.2,0)∧
  (∀R:List Int,R.length≤200000000→a6p (x.2.2++R)=some (x.1,(x.2.2.length:Int),(0:Int)))∧a2J x.2.1∧x.2.1.1=fm.2.2.1∧a0T x.2.1≤64∧1≤x.2.2.length∧x.2.2.length≤700800
def a2K(fm:a0M):Nat→List Pc→Prop
 |_,[]=>True
 |st,x::xs=>c4j fm st x∧a2K fm (st+a0T x.2.1) xs
def a2H:Nat→Nat→List Pc→List (Int×Int×Unit)
 |_,_,[]=>[]
 |st,off,x::xs=>((st:Int),(off:Int),())::a2H (st+a0T x.2.1) (off+x.2.2.length) xs
def a0L(xs:List Pc):Nat:=(xs.map fun x=>a0T x.2.1).sum
def a0S(xs:List Pc):List Int:=xs.flatMap fun x=>x.2.2
def wvB(b:a1e):List Int:=wv (a0T b) b.2.1
def a1N(xs:List Pc):List Int:=xs.flatMap fun x=>wvB x.2.1
def prI(l:List Int):Nat:=prs 0 (l.map a33)
def a2e(fm:a0M)(xs:List Pc):Nat:=prI (a3B fm.2.2.1 (a1N xs))
theorem c0T(l:List Int):prI l<prm:=c4g (by decide) _
theorem d1p(a b:List Int):prI (a++b)=(prI a*(1000003^b.length%prm)+prI b)%prm:=by
 simp_all[prI,c9a]
theorem a3C(xs:List Pc)(x:Pc):a0L (xs++[x])=a0L xs+a0T x.2.1:=by simp[a0L]
theorem a4o(xs:List Pc)(x:Pc):a0S (xs++[x])=a0S xs++x.2.2:=by simp[a0S]
theorem b3j(xs:List Pc)(x:Pc):a1N (xs++[x])=a1N xs++wvB x.2.1:=by simp[a1N]
theorem c7R{rows:List (List Int)}:∀n,(wv n rows).length=n*rows.length:=fun n=>by
 simp_all[wv,List.map_const']
theorem c2m{fm:a0M}:∀{xs:List Pc}{st:Nat}{x:Pc},a2K fm st xs→c4j fm (st+a0L xs) x→a2K fm st (xs++[x])
 | [],st,x,_,h=>⟨by simpa[a0L]using h,trivial⟩
 |y::xs,st,x,h,h2=>⟨h.1,c2m h.2 (by simp_all[a0L,a79])⟩
theorem b5h:∀(xs:List Pc)(st off:Nat)(x:Pc),a2H st off (xs++[x])=a2H st off xs++[(((st+a0L xs:Nat):Int),((off+(a0S xs).length:Nat):Int),())]
 | [],st,off,x=>by rfl
 |y::xs,st,off,x=>by
  simp_all[a2H,b5h,a0L,a0S,a79]
theorem a6W:∀(xs:List Pc)(st off:Nat),(a2H st off xs).length=xs.length
 | [],_,_=>rfl
 |_::xs,_,_=>congrArg (·+1) (a6W xs _ _)
theorem b1a{fm:a0M}:∀{xs:List Pc}{st:Nat},a2K fm st xs→(a0S xs).length≤700800*xs.length
 | [],_,_=>by simp[a0S]
 |x::xs,st,h=>by
  have:=b1a h.2
  have:=h.1.2.2.2.2.2.2.2.2.2.2
  simp only[a0S,a28,lN,lC]at *;omega
theorem d1q{b:a1e}{fm:a0M}(hb:a2J b)(i:a0T b≤64)(j:1≤fm.1∧fm.1≤1048576)(d:fm.2.1=((b.2.1.length:Nat):Int))(h:fm.2.2.1=b.1){st:Nat}(q:st+a0T b≤4194304){effort:Int}(m:0≤effort)(n:effort≤3):
  ∃g p,a4K (b,fm,(st:Int),effort)=some (((st:Int),g),0)∧c4j fm st (((st:Int),g),b,p):=by
 obtain⟨rate,ch,bits,u⟩:=fm;cases u;simp only at j d h;subst d h;obtain⟨g,r,s,t,x,y,l,v⟩:=made hb (by omega) (rate:=rate) (start:=(st:Int)) (effort:=effort) j (by omega) m n;have a:=v (st:Int) (by omega);obtain⟨L,o,-,e,c⟩:=c6I (f:=((st:Int),g)) l a;have k:=c3W (f:=((st:Int),g)) l;rw[a]at k;have w:=b9b (b7t a).1 o;refine⟨g,a6z ((st:Int),g) L,r,rfl,s,t,k,e,c,hb,rfl,i,?_,?_⟩
 all_goals grind[a6z]
theorem c4k{d:List Int}{n ch c:Nat}(g:d.length=n*ch)(h:c<ch):(b0Z d ch c).length=n:=by rw[b7w g h];simp
theorem c9c{d:List Int}{ch c:Nat}{x:Int}(h:x∈b0Z d ch c):x∈d:=by
 unfold b0Z at h
 grind
def a7r(w:Int)(d:List Int)(ch:Nat):a1e:=(w,a1M d ch,())
theorem b4d{w:Int}{d:List Int}{n ch:Nat}(g:d.length=n*ch)(h:0<ch):a0T (a7r w d ch)=n:=by
 obtain⟨k,rfl⟩:∃k,ch=k+1:=⟨ch-1,by omega⟩;show((a1M d (k+1)).headD []).length=n
 grind[a1M,List.range_succ_eq_map,c4k]
theorem d1r{w:Int}{d:List Int}{n ch:Nat}(f:d.length=n*ch)(h:1≤ch∧ch≤8)(j:1≤n∧n≤4096)(k:4≤w∧w≤24)(a:d.all (fun x=>a1n x w)=true):a2J (a7r w d ch):=by
 have b:=b4d (w:=w) f (show 0<ch by omega);have g:(a1M d ch).length=ch:=by simp[a1M]
 refine⟨k.1,k.2,by simp_all[a7r],by simp_all[a7r],by omega,by omega,?_⟩;rw[b];refine lA.2 fun r e=>?_
 obtain⟨c,g,rfl⟩:=a39.1 (show r∈(a04 ch).map (b0Z d ch)from e);rw[bA,dT];exact⟨c4k f (a41.1 g),lA.2 fun x i=>lA.1 a x (c9c i)⟩
theorem c5m{w:Int}{d:List Int}{n ch:Nat}(g:d.length=n*ch)(h:0<ch):wvB (a7r w d ch)=d:=by
 unfold wvB;rw[b4d g h];exact d1m g
def b5i(n:Nat)(l:List Int):Nat:=l.foldl (fun n c=>n*256+c.toNat) n
def a4j(k n:Nat):List Int:=(leB k n).reverse
theorem b9g:∀(k n:Nat),n<256^k→b5i 0 (a4j k n)=n
 |0,n,h=>by simp at h;subst h;rfl
 |k+1,n,h=>by
  have g:=b9g k (n / 256) (by rw[a70 (by omega)];rw[a84]at h;exact h);unfold b5i a4j at *;rw[leB,List.reverse_cons,a43,g]
  simp
  omega
theorem a4T(k n:Nat):(a4j k n).length=k:=by simp[a4j,b0R]
theorem b6o(k n:Nat):∀b∈a4j k n,0≤b∧b<256:=fun b hb=>b7v k n b (List.mem_reverse.1 hb)
theorem c1z{n k:Nat}(j:n<18446744073709551616)(d:k≤8):a5j ((n:Int),(k:Int))=some (leB k n):=by
 have c:a3S (k:Int)=some (k:Int):=by
  grind[a3S,b3k,b7G]
 simp[a5j,c];have h:=a1C (f:=a1R) (fun i=>(((n / 256^i:Nat):Int),(k:Int),(i:Int),leB i n,())) k (b:=(leB k n,())) (fun i hi=>by
   have g:wrap .u64 (a19 ((n / 256^i:Nat):Int) 256)=((n / 256^(i+1):Nat):Int):=by
    have e:a19 ((n / 256^i:Nat):Int) 256=((n / 256^i / 256:Nat):Int):=rfl;rw[e,Nat.div_div_eq_div_mul,←a84]
    have:=a64 n (256^(i+1))
    grind[a0N]
   have a:wrap .u8 (a38 ((n / 256^i:Nat):Int) 256)=((n / 256^i%256:Nat):Int):=by
    have e:a38 ((n / 256^i:Nat):Int) 256=((n / 256^i%256:Nat):Int):=rfl;rw[e,a8c];omega
   simp only[a1R];rw[dlt hi,a0W (show(leB i n).length+1<2147483648 by rw[b0R];omega),g,a0B (show i<1000000 by omega),a,b8O];rfl) (by simp_all[a1R])
 simp only[Nat.pow_zero,Nat.div_one,leB]at h;simp_all
theorem b7x{n k:Nat}(g:n<18446744073709551616)(h:k≤8):a4l ((n:Int),(k:Int))=some (a4j k n):=by
 unfold a4l a1P;simp only[c1z g h,oB];rw[decide_eq_true (by rw[b0R];omega)];rfl
def c32(s:BitVec 32):BitVec 32:=bif s.getLsbD 0 then(s >>> 1) ^^^ 0xedb88320#32 else s >>> 1
def c9d:Nat→BitVec 32→BitVec 32
 |0,s=>s
 |k+1,s=>c9d k (c32 s)
def c9e(s x:BitVec 32):BitVec 32:=c9d 8 (s ^^^ x)
def d2y(s:BitVec 32)(l:List (BitVec 32)):BitVec 32:=l.foldl c9e s
theorem c9f(s:BitVec 32):a00 32 ((s.toNat:Nat):Int)=s:=by
 simp
theorem d2z(s:BitVec 32):wrap .u32 ((s.toNat:Nat):Int)=((s.toNat:Nat):Int):=by
 have:=s.isLt
 grind[wrap,IntKind.bits,IntKind.signed]
theorem c6R(s t:BitVec 32):bits .u32 .xor ((s.toNat:Nat):Int) ((t.toNat:Nat):Int)=(((s ^^^ t).toNat:Nat):Int):=by
 show wrap .u32 (((a00 32 _ ^^^ a00 32 _).toNat:Nat):Int)=_;rw[c9f,c9f,d2z]
theorem d4q(s:BitVec 32):(bits .u32 .and ((s.toNat:Nat):Int) 1==(1:Int))=s.getLsbD 0:=by
 have h:bits .u32 .and ((s.toNat:Nat):Int) 1=(((s &&& 1#32).toNat:Nat):Int):=by
  show wrap .u32 (((a00 32 _ &&& a00 32 1).toNat:Nat):Int)=_;rw[c9f,show a00 32 1=1#32 from rfl,d2z]
 rw[h,a46,show(1#32).toNat=1 from rfl,Nat.and_one_is_mod,a73,Nat.testBit_zero]
 grind
theorem d4r(s:BitVec 32):A0o .u32 ((s.toNat:Nat):Int) 1=(((s >>> 1).toNat:Nat):Int):=by
 unfold A0o;rw[show min (a33 1) (IntKind.bits .u32)=1 from rfl,a58 _ (by simp),BitVec.toNat_ushiftRight,Nat.shiftRight_eq_div_pow];rfl
def e32(s:Int):Int:=bif (bits .u32 .and s 1)==(1:Int)then bits .u32 .xor (A0o .u32 s 1) 3988292384 else A0o .u32 s 1
theorem d2A(s:BitVec 32):e32 ((s.toNat:Nat):Int)=(((c32 s).toNat:Nat):Int):=by
 unfold e32 c32;rw[d4q,d4r,show(3988292384:Int)=(((0xedb88320#32).toNat:Nat):Int)from rfl,c6R]
 grind
theorem c4l:∀(k:Nat)(s:BitVec 32),rep e32 k ((s.toNat:Nat):Int)=(((c9d k s).toNat:Nat):Int)
 |0,_=>rfl
 |k+1,s=>by
  rw[show rep e32 (k+1) ((s.toNat:Nat):Int)=rep e32 k (e32 ((s.toNat:Nat):Int))from rfl,d2A,c4l k];rfl
def d2B(l:List Int):BitVec 32:=d2y 0xffffffff#32 (l.map (a00 32))
def a2z(l:List Int):Nat:=(~~~ d2B l).toNat
theorem b6p(l:List Int):a2z l<4294967296:=(~~~ d2B l).isLt
@[reducible] def b9h:Type:=a0M×(Int×(Int×(List (Int×(Int×Unit))×(List a1q×Unit))))
def mkT(fm:a0M)(xs:List Pc):b9h:=(fm,((a0L xs:Nat):Int),((a2e fm xs:Nat):Int),a2H 0 0 xs,xs.map (·.1),())
def nsP(xs:List Pc):List Nat:=xs.flatMap fun x=>[x.2.2.length,a0T x.2.1]
def a3M(fm:a0M)(xs:List Pc):List Nat:=[fm.1.toNat,fm.2.1.toNat,fm.2.2.1.toNat,xs.length]++nsP xs
def b9i:List Int:=[75,78,83,68]
def a1a(fm:a0M)(xs:List Pc):List Int:=b9i++((a3M fm xs).flatMap a0K++a4j 8 (a2e fm xs))
def a1T(fm:a0M)(xs:List Pc):List Int:=a1a fm xs++(a4j 4 (a2z (a1a fm xs))++a0S xs)
def a1h(l:List Int)(ch st en:Nat):List Int:=(l.take (en*ch)).drop (st*ch)
theorem b7y{l:List Int}{ch st en:Nat}(h:en*ch≤l.length):(a1h l ch st en).length=(en-st)*ch:=by
 simp_all[a1h,Nat.sub_mul]
theorem c2n{l:List Int}{ch st en:Nat}(h:st≤en):l.take (st*ch)++a1h l ch st en=l.take (en*ch):=by
 grind[a1h,a01,List.take_append_drop]
theorem c7S{l:List Int}{p:Int→Bool}{ch st en:Nat}(h:l.all p=true):(a1h l ch st en).all p=true:=
 lA.2 fun x g=>lA.1 h x (a74 (a75 g))
theorem b5H(xs:List Pc):(nsP xs).length=2*xs.length:=by
 induction xs with
 |nil=>rfl
 |cons x xs ih=>grind[nsP]
theorem c9g(xs:List Pc)(x:Pc):nsP (xs++[x])=nsP xs++[x.2.2.length,a0T x.2.1]:=by simp[nsP]
theorem c2o{fm:a0M}:∀{xs:List Pc}{st:Nat},a2K fm st xs→∀n∈nsP xs,n<1048704
 | [],_,_,n,hn=>by simp[nsP]at hn
 |x::xs,st,h,n,hn=>by
  have g:=h.1.2.2.2.2.2.2.2.2;simp only[nsP,a28,mA,mC,a47,or_false]at hn;rcases hn with(rfl|rfl)|hn;omega;omega;exact c2o h.2 n hn
theorem b4F{fm:a0M}:∀{xs:List Pc}{st:Nat},a2K fm st xs→xs.length≤a0L xs∧a0L xs≤64*xs.length
 | [],_,_=>by simp[a0L]
 |x::xs,st,h=>by
  have g:=h.1.2.2.2.2.2.2.1.2.2.2.2.1;have f:=h.1.2.2.2.2.2.2.2.2.1
  have:=b4F h.2
  simp only[a0L,a24,List.sum_cons,lC]at *;omega
theorem b4G:∀(l:List Nat),(∀n∈l,n<9223372036854775808)→(l.flatMap a0K).length≤9*l.length
 | [],_=>by simp
 |n::l,h=>by
  have:=(a8N (h n (by simp))).2
  have:=b4G l fun m g=>h m (by simp[g])
  simp only[a28,lN,lC];omega
theorem a7B{fm:a0M}(f:a3X fm){xs:List Pc}(h:a2K fm 0 xs)(i:xs.length≤256):∀n∈a3M fm xs,n<1048704:=fun n g=>by
 simp only[a3M,mA,mC,a47,or_false]at g;obtain⟨k,a,b,c,d,e⟩:=f;rcases g with(rfl|rfl|rfl|rfl)|g;omega;omega;omega;omega;exact c2o h n g
theorem b4H{fm:a0M}(g:a3X fm){xs:List Pc}(h:a2K fm 0 xs)(k:xs.length≤256):(a1a fm xs).length≤6000:=by
 have a:=b4G (a3M fm xs) fun n f=>a16 (a7B g h k n f) (by simp)
 grind[a3M,b5H,a1a,b9i,a4T]
def a9L(y0 d q r:Nat):Prop:=4294967296≤q∨4294967296*r+d<q*y0
instance (y0 d q r:Nat):Decidable (a9L y0 d q r):=inferInstanceAs (Decidable (_∨_))
def b7z(u d y1 y0:Nat):Nat:=
 if a9L y0 d (u / y1) (u%y1)then
  if 4294967296≤u%y1+y1 then u / y1-1
  else if a9L y0 d (u / y1-1) (u%y1+y1)then u / y1-2 else u / y1-1
 else u / y1
theorem d1s{u d y1 y0:Nat}(t:2147483648≤y1)(p:y0<4294967296)(w:u<y1*4294967296+y0)(v:d<4294967296):
  b7z u d y1 y0=(u*4294967296+d) / (y1*4294967296+y0):=by
 have hp:0<y1:=by omega
 have e:u=u / y1*y1+u%y1:=(Nat.div_add_mod' u y1).symm;have s:=a18 u hp;have j:u / y1≤4294967297:=by
  have:u / y1<4294967298:=(a70 hp).2 (by omega)
  omega
 have y:u*4294967296+d<(u / y1+1)*(y1*4294967296+y0):=by
  grind
 have over:∀{q r:Nat},u=q*y1+r→a9L y0 d q r→u*4294967296+d<q*(y1*4294967296+y0):=by
  intro q r g f;rcases f with f|f
  have:=a01 (y1*4294967296+y0) f
  omega
  grind
 have fits:∀{q r:Nat},u=q*y1+r→¬ a9L y0 d q r→q*(y1*4294967296+y0)≤u*4294967296+d:=
  fun g f=>c7P g (Nat.le_of_not_lt fun h=>f (.inr h))
 have i:∀{q r:Nat},u=q*y1+r→q≤4294967296→4294967296≤r→q*(y1*4294967296+y0)≤u*4294967296+d:=by
  intro q r g j s;refine c7P g ?_
  have a:=a08 j (a53 p);omega
 unfold b7z;generalize u / y1=q at *;generalize u%y1=r at *;have done:∀{m:Nat},m*(y1*4294967296+y0)≤u*4294967296+d→u*4294967296+d<(m+1)*(y1*4294967296+y0)→m=(u*4294967296+d) / (y1*4294967296+y0):=
  fun a b=>(a80 a b).symm
 by_cases c:a9L y0 d q r
 rw[if_pos c];have o:=over e c;have q1:1≤q:=a82 fun z=>by grind
 obtain⟨q,rfl⟩:∃k,q=k+1:=⟨q-1,by omega⟩;rw[Nat.add_sub_cancel];have l:u=q*y1+(r+y1):=by grind
 by_cases c1:4294967296≤r+y1
 grind
 rw[if_neg c1]
 by_cases c2:a9L y0 d q (r+y1)
 rw[if_pos c2];have o1:=over l c2;have x:1≤q:=a82 fun z=>by grind
 obtain⟨q,rfl⟩:∃k,q=k+1:=⟨q-1,by omega⟩;have n:u=q*y1+(r+y1+y1):=by grind
 exact done (m:=q) (i n (by omega) (by omega)) o1
 grind
 grind
theorem d2C(hi lo:Nat):
  (((hi*8+lo / 2305843009213693952)*4294967296+lo*8%18446744073709551616 / 4294967296)%18446744073709551608*4294967296+lo*8%18446744073709551616%4294967296)%18446744073709551608 / 8
   = (hi*18446744073709551616+lo)%prm:=by
 have e:((hi*8+lo / 2305843009213693952)*4294967296+lo*8%18446744073709551616 / 4294967296)*4294967296+lo*8%18446744073709551616%4294967296=(hi*18446744073709551616+lo)*8:=by omega
 rw[d1o,e];exact c7Q _ 8 prm (by simp)
theorem c9h{hi lo:Nat}(h:hi<prm)(g:lo<18446744073709551616):hi*8+lo / 2305843009213693952<4294967295*4294967296+4294967288:=by
 unfold prm at h;omega
theorem c7T{a b c:Nat}(h:a<prm)(hb:b<prm)(g:c≤prm):(a*b+c) / 18446744073709551616<prm:=by
 have:=a08 (a76 h) (a76 hb)
 unfold prm at *;omega
theorem d2D{a b x0 x1 y0 y1 t:Nat}(k:x0=a%4294967296)(c:x1=a / 4294967296)(d:y0=b%4294967296)(i:y1=b / 4294967296)(r:t=x1*y0+x0*y0 / 4294967296)
  (n:a<18446744073709551616)(hb:b<18446744073709551616):
  x1*y1+t / 4294967296+(t%4294967296+x0*y1) / 4294967296=a*b / 18446744073709551616∧x0*y0<18446744073709551616∧t<18446744073709551616∧t%4294967296+x0*y1<18446744073709551616:=by
 have j:a=x1*4294967296+x0:=by omega
 have l:b=y1*4294967296+y0:=by omega
 have e:a*b=x1*y1*18446744073709551616+(x1*y0+x0*y1)*4294967296+x0*y0:=by
  grind
 have m:∀{p q:Nat},p<4294967296→q<4294967296→p*q≤4294967295*4294967295:=fun hp o=>a08 (by omega) (by omega);have h:=m (show x0<4294967296 by omega) (show y0<4294967296 by omega);have f:=m (show x1<4294967296 by omega) (show y0<4294967296 by omega);have g:=m (show x0<4294967296 by omega) (show y1<4294967296 by omega);omega
theorem c6S(n:Nat):wrap .u64 (n:Int)=((n%18446744073709551616:Nat):Int):=by
 rfl
theorem c4m{n k:Nat}(h:k≤64):A0o .u64 (n:Int) (k:Int)=((n / 2^k:Nat):Int):=by
 have g:min (a33 (k:Int)) (IntKind.bits .u64)=k:=by simp_all[IntKind.bits]
 unfold A0o
 grind
theorem c7U(n:Nat):A0o .u64 (n:Int) 32=((n / 4294967296:Nat):Int):=c4m (k:=32) (by omega)
theorem d0G(n:Nat):bits .u64 .and (n:Int) 4294967295=((n%4294967296:Nat):Int):=by
 show wrap .u64 (((a00 64 (n:Int) &&& a00 64 4294967295).toNat:Nat):Int)=_;have g:(a00 64 4294967295).toNat=4294967295:=rfl;have h:(a00 64 (n:Int)).toNat=n%18446744073709551616:=by rfl
 rw[a46,h,g,show 4294967295=2^32-1 from rfl,a32,c6S];omega
theorem d7l{a b:Nat}(f:a<2305843009213693952)(hb:b<8):bits .u64 .or ((a*8:Nat):Int) (b:Int)=((a*8+b:Nat):Int):=by
 show wrap .u64 (((a00 64 ((a*8:Nat):Int) ||| a00 64 (b:Int)).toNat:Nat):Int)=_;have h:(a00 64 ((a*8:Nat):Int)).toNat=2^3*a:=by grind[a27]
 have g:(a00 64 (b:Int)).toNat=b:=by grind
 rw[a93,h,g,←a54 (i:=3) hb a,c6S];omega
theorem c9i{a b:Nat}(f:a<18446744073709551616)(hb:b<18446744073709551616):a5X ((a:Int),(b:Int))=some (((a*b / 18446744073709551616:Nat):Int),((a*b%18446744073709551616:Nat):Int)):=by
 obtain⟨k,c,d,e⟩:=d2D (a:=a) (b:=b) rfl rfl rfl rfl rfl f hb;unfold a5X;simp only[c7U,d0G,←a52,←Int.natCast_add,c6S,sj,pJ,Int.natCast_inj];refine⟨?_,trivial⟩
 revert k c d e
 generalize a%4294967296*(b%4294967296)=p00;generalize a / 4294967296*(b%4294967296)=p10;generalize a%4294967296*(b / 4294967296)=p01;have i:a*b / 18446744073709551616<18446744073709551616:=a77 (Nat.lt_of_le_of_lt (a08 (a53 f) (a53 hb)) (by omega:18446744073709551616*18446744073709551616<18446744073709551616*18446744073709551616+1) |> fun h=>by
  rcases Nat.lt_or_ge (a*b) (18446744073709551616*18446744073709551616)with g|g;omega
  have:=Nat.mul_lt_mul_of_lt_of_le f (a53 hb) (by omega);omega)
 omega
theorem b8B{α:Type}(p:Prop)[Decidable p](a b:α):(bif decide p then a else b)=if p then a else b:=by
 simp
theorem d2E:a3T 2305843009213693951=some 3:=by rfl
theorem c6T{u d q:Nat}(h:q=b7z u d 4294967295 4294967288)(f:u<4294967295*4294967296+4294967288)(g:d<4294967296):q*18446744073709551608≤u*4294967296+d∧u*4294967296+d<q*18446744073709551608+18446744073709551608∧q<4294967296:=by
 grind[d1s]
theorem b8C{u d u0 q r:Nat}{s:Int}(c:d<4294967296)(e:q≤4294967297)(i:r<4294967296):a1Z ((18446744073709551608:Int),s,(4294967295:Int),(4294967288:Int),(u:Int),(d:Int),(u0:Int),(q:Int),(r:Int),()) =
  if a9L 4294967288 d q r then(if 4294967296≤r+4294967295 then some (.inr ((18446744073709551608:Int),s,(4294967295:Int),(4294967288:Int),(u:Int),(d:Int),(u0:Int),((q-1:Nat):Int),()))else some (.inl ((18446744073709551608:Int),s,(4294967295:Int),(4294967288:Int),(u:Int),(d:Int),(u0:Int),((q-1:Nat):Int),((r+4294967295:Nat):Int),())))else some (.inr ((18446744073709551608:Int),s,(4294967295:Int),(4294967288:Int),(u:Int),(d:Int),(u0:Int),(q:Int),())):=by
 have a:wrap .u64 ((q:Int)-1)=(((q-1:Nat)):Int)∨q=0:=by
  rcases a83 q with h|h;exact .inr h;left;rw[a0N (by omega)];omega
 have f:wrap .u64 ((r:Int)+4294967295)=((r+4294967295:Nat):Int):=by rw[a0N (by omega)];omega
 have k:decide (wrap .u64 ((r:Int)+4294967295)≥(4294967296:Int))=decide (4294967296≤r+4294967295):=by
  rw[f];exact decide_eq_decide.2 (by omega)
 have tail:q≠0→(bif decide (wrap .u64 ((r:Int)+4294967295)≥(4294967296:Int))then(some (.inr ((18446744073709551608:Int),s,(4294967295:Int),(4294967288:Int),(u:Int),(d:Int),(u0:Int),(wrap .u64 ((q:Int)-1)),())):Option (_ ⊕ (Int×Int×Int×Int×Int×Int×Int×Int×Unit)))else some (.inl ((18446744073709551608:Int),s,(4294967295:Int),(4294967288:Int),(u:Int),(d:Int),(u0:Int),(wrap .u64 ((q:Int)-1)),(wrap .u64 ((r:Int)+4294967295)),()))) =
   (if 4294967296≤r+4294967295 then some (.inr ((18446744073709551608:Int),s,(4294967295:Int),(4294967288:Int),(u:Int),(d:Int),(u0:Int),((q-1:Nat):Int),()))else some (.inl ((18446744073709551608:Int),s,(4294967295:Int),(4294967288:Int),(u:Int),(d:Int),(u0:Int),((q-1:Nat):Int),((r+4294967295:Nat):Int),()))):=fun b=>by
  rw[k,a.resolve_right b,f];exact b8B ..
 by_cases h1:4294967296≤q
 have c0:decide ((q:Int)≥(4294967296:Int))=true:=decide_eq_true (by omega);rw[if_pos (.inl h1),←tail (by omega)];unfold a1Z;dsimp only;rw[c0,cT,oB];have c0:decide ((q:Int)≥(4294967296:Int))=false:=decide_eq_false (by omega);have j:wrap .u64 ((q:Int)*4294967288)=((q*4294967288:Nat):Int):=by rw[a0N (by omega)];omega
 have l:wrap .u64 (wrap .u64 ((4294967296:Int)*(r:Int))+(d:Int))=((4294967296*r+d:Nat):Int):=by rw[a0N (n:=4294967296*(r:Int)) (by omega),a0N (by omega)];omega
 by_cases h2:4294967296*r+d<q*4294967288
 have g:decide (wrap .u64 ((q:Int)*4294967288) > wrap .u64 (wrap .u64 ((4294967296:Int)*(r:Int))+(d:Int)))=true:=decide_eq_true (by omega);rw[if_pos (.inr h2),←tail (by omega)];unfold a1Z;dsimp only;rw[c0,cF,g,cT,oB];have g:decide (wrap .u64 ((q:Int)*4294967288) > wrap .u64 (wrap .u64 ((4294967296:Int)*(r:Int))+(d:Int)))=false:=decide_eq_false (by omega);rw[if_neg (by unfold a9L;omega)];unfold a1Z;dsimp only;rw[c0,cF,g,cF,oB]
theorem d2F{u d u0:Nat}{s:Int}(k:u<4294967295*4294967296+4294967288)(f:d<4294967296):
  y0s a1Z ((18446744073709551608:Int),s,(4294967295:Int),(4294967288:Int),(u:Int),(d:Int),(u0:Int),((u / 4294967295:Nat):Int),((u%4294967295:Nat):Int),())=some ((18446744073709551608:Int),s,(4294967295:Int),(4294967288:Int),(u:Int),(d:Int),(u0:Int),((b7z u d 4294967295 4294967288:Nat):Int),()):=by
 have h:u / 4294967295≤4294967297:=by omega
 have g:u%4294967295<4294967295:=a18 _ (by omega);unfold b7z
 revert h g
 generalize u / 4294967295=q;generalize u%4294967295=r;intro h g;have s0:=b8C (u0:=u0) (s:=s) (u:=u) f h (a89 g)
 by_cases c1:a9L 4294967288 d q r
 ·rw[if_pos c1]at s0⊢
  by_cases c2:4294967296≤r+4294967295
  simp_all[a0E]
  ·rw[if_neg c2]at s0⊢;rw[a0F s0];have a:=b8C (u0:=u0) (s:=s) (u:=u) (q:=q-1) (r:=r+4294967295) f (by omega) (by omega)
   by_cases c3:a9L 4294967288 d (q-1) (r+4294967295)
   all_goals simp_all[Nat.sub_sub,a0E]
 simp_all[a0E]
theorem b8D{u d q r:Nat}{s q1:Int}(c:d<4294967296)(e:q≤4294967297)(i:r<4294967296):a2a ((18446744073709551608:Int),s,(4294967295:Int),(4294967288:Int),(d:Int),q1,(r:Int),(u:Int),(q:Int),()) =
  if a9L 4294967288 d q r then(if 4294967296≤r+4294967295 then some (.inr ((18446744073709551608:Int),s,(d:Int),q1,(u:Int),((q-1:Nat):Int),()))else some (.inl ((18446744073709551608:Int),s,(4294967295:Int),(4294967288:Int),(d:Int),q1,((r+4294967295:Nat):Int),(u:Int),((q-1:Nat):Int),())))else some (.inr ((18446744073709551608:Int),s,(d:Int),q1,(u:Int),(q:Int),())):=by
 have a:wrap .u64 ((q:Int)-1)=(((q-1:Nat)):Int)∨q=0:=by
  rcases a83 q with h|h;exact .inr h;left;rw[a0N (by omega)];omega
 have f:wrap .u64 ((r:Int)+4294967295)=((r+4294967295:Nat):Int):=by rw[a0N (by omega)];omega
 have k:decide (wrap .u64 ((r:Int)+4294967295)≥(4294967296:Int))=decide (4294967296≤r+4294967295):=by
  rw[f];exact decide_eq_decide.2 (by omega)
 have tail:q≠0→(bif decide (wrap .u64 ((r:Int)+4294967295)≥(4294967296:Int))then(some (.inr ((18446744073709551608:Int),s,(d:Int),q1,(u:Int),(wrap .u64 ((q:Int)-1)),())):Option (_ ⊕ (Int×Int×Int×Int×Int×Int×Unit)))else some (.inl ((18446744073709551608:Int),s,(4294967295:Int),(4294967288:Int),(d:Int),q1,(wrap .u64 ((r:Int)+4294967295)),(u:Int),(wrap .u64 ((q:Int)-1)),()))) =
   (if 4294967296≤r+4294967295 then some (.inr ((18446744073709551608:Int),s,(d:Int),q1,(u:Int),((q-1:Nat):Int),()))else some (.inl ((18446744073709551608:Int),s,(4294967295:Int),(4294967288:Int),(d:Int),q1,((r+4294967295:Nat):Int),(u:Int),((q-1:Nat):Int),()))):=fun b=>by
  rw[k,a.resolve_right b,f];exact b8B ..
 by_cases h1:4294967296≤q
 have c0:decide ((q:Int)≥(4294967296:Int))=true:=decide_eq_true (by omega);rw[if_pos (.inl h1),←tail (by omega)];unfold a2a;dsimp only;rw[c0,cT,oB];have c0:decide ((q:Int)≥(4294967296:Int))=false:=decide_eq_false (by omega);have j:wrap .u64 ((q:Int)*4294967288)=((q*4294967288:Nat):Int):=by rw[a0N (by omega)];omega
 have l:wrap .u64 (wrap .u64 ((4294967296:Int)*(r:Int))+(d:Int))=((4294967296*r+d:Nat):Int):=by rw[a0N (n:=4294967296*(r:Int)) (by omega),a0N (by omega)];omega
 by_cases h2:4294967296*r+d<q*4294967288
 have g:decide (wrap .u64 ((q:Int)*4294967288) > wrap .u64 (wrap .u64 ((4294967296:Int)*(r:Int))+(d:Int)))=true:=decide_eq_true (by omega);rw[if_pos (.inr h2),←tail (by omega)];unfold a2a;dsimp only;rw[c0,cF,g,cT,oB];have g:decide (wrap .u64 ((q:Int)*4294967288) > wrap .u64 (wrap .u64 ((4294967296:Int)*(r:Int))+(d:Int)))=false:=decide_eq_false (by omega);rw[if_neg (by unfold a9L;omega)];unfold a2a;dsimp only;rw[c0,cF,g,cF,oB]
theorem d2G{u d:Nat}{s q1:Int}(k:u<4294967295*4294967296+4294967288)(f:d<4294967296):
  y0s a2a ((18446744073709551608:Int),s,(4294967295:Int),(4294967288:Int),(d:Int),q1,((u%4294967295:Nat):Int),(u:Int),((u / 4294967295:Nat):Int),())=some ((18446744073709551608:Int),s,(d:Int),q1,(u:Int),((b7z u d 4294967295 4294967288:Nat):Int),()):=by
 have h:u / 4294967295≤4294967297:=by omega
 have g:u%4294967295<4294967295:=a18 _ (by omega);unfold b7z
 revert h g
 generalize u / 4294967295=q;generalize u%4294967295=r;intro h g;have s0:=b8D (s:=s) (q1:=q1) (u:=u) f h (a89 g)
 by_cases c1:a9L 4294967288 d q r
 ·rw[if_pos c1]at s0⊢
  by_cases c2:4294967296≤r+4294967295
  simp_all[a0E]
  ·rw[if_neg c2]at s0⊢;rw[a0F s0];have a:=b8D (s:=s) (q1:=q1) (u:=u) (q:=q-1) (r:=r+4294967295) f (by omega) (by omega)
   by_cases c3:a9L 4294967288 d (q-1) (r+4294967295)
   all_goals simp_all[Nat.sub_sub,a0E]
 simp_all[a0E]
theorem d4s(n:Int):wrap .u64 n=n%18446744073709551616:=by rfl
theorem d1t{u d Q:Nat}(h:Q*18446744073709551608≤u*4294967296+d)(g:u*4294967296+d<Q*18446744073709551608+18446744073709551608):
  wrap .u64 (wrap .u64 (wrap .u64 ((u:Int)*4294967296)+(d:Int))-wrap .u64 ((Q:Int)*18446744073709551608))=(((u*4294967296+d)%18446744073709551608:Nat):Int):=by
 grind[d4s]
theorem c5n{u:Nat}(h:u<18446744073709551616):wrap .u64 ((u:Int)-wrap .u64 (((u / 4294967295:Nat):Int)*4294967295))=((u%4294967295:Nat):Int):=by
 grind[a0N]
theorem sh3(n:Nat):A0n .u64 (n:Int) 3=((n*8%18446744073709551616:Nat):Int):=by
 rfl
theorem c9j(lo:Nat):a2R (0,(lo:Int),(2305843009213693951:Int))=some (wrap .u64 (a19 (lo:Int) 2305843009213693951),((lo%2305843009213693951:Nat):Int)):=by
 rfl
theorem d4t:wrap .u64 3=3:=by rfl
theorem d2H:wrap .u64 (64-3)=((61:Nat):Int):=by rfl
theorem d4u:A0n .u64 2305843009213693951 3=18446744073709551608:=by rfl
theorem d4v:A0o .u64 18446744073709551608 32=4294967295:=by rfl
theorem d4w:bits .u64 .and 18446744073709551608 4294967295=4294967288:=by rfl
theorem d4x:((2305843009213693951:Int)==0)=false:=by rfl
theorem d4y:decide ((3:Int)<0)=false:=by rfl
theorem d4z:decide (((61:Nat):Int)<0)=false:=by rfl
theorem d4A:((4294967295:Int)==0)=false:=by rfl
theorem c7V{u d Q v:Nat}(hv:(u*4294967296+d)%18446744073709551608=v)(h:Q*18446744073709551608≤u*4294967296+d)(g:u*4294967296+d<Q*18446744073709551608+18446744073709551608):
  wrap .u64 (wrap .u64 (wrap .u64 ((u:Int)*4294967296)+(d:Int))-wrap .u64 ((Q:Int)*18446744073709551608))=(v:Int):=by
 simp_all[d1t]
theorem d0H{u:Nat}(h:u<18446744073709551616):wrap .u64 ((u / 4294967295:Nat):Int)=((u / 4294967295:Nat):Int):=a0N (by omega)
theorem d1u{hi lo u d e v r:Nat}(hv:(u*4294967296+d)%18446744073709551608=v)(m:(v*4294967296+e)%18446744073709551608=r)(y:hi≠0)(z:hi<2305843009213693951)(o:hi*8+lo / 2305843009213693952=u)(i:lo*8%18446744073709551616 / 4294967296=d)(j:lo*8%18446744073709551616%4294967296=e)(A:lo<18446744073709551616)
  (h:u<4294967295*4294967296+4294967288)(f:d<4294967296)(a:e<4294967296):
  ∃q:Int,a2R ((hi:Int),(lo:Int),(2305843009213693951:Int))=some (q,((r / 8:Nat):Int)):=by
 have c0:((hi:Int)==0)=false:=by simp_all
 have b:decide ((2305843009213693951:Int)≤(hi:Int))=false:=decide_eq_false (by omega);have c:hi*8%18446744073709551616=hi*8:=by omega
 have l:bits .u64 .or ((hi*8:Nat):Int) (A0o .u64 (lo:Int) ((61:Nat):Int))=(u:Int):=by
  rw[c4m (k:=61) (by omega),show 2^61=2305843009213693952 from rfl,d7l (by omega) (by omega),o]
 have p:=d2F (u0:=e) (s:=3) h f;have B:=c7V hv (c6T rfl h f).1 (c6T rfl h f).2.1;have g:v<4294967295*4294967296+4294967288:=by grind
 have l1:=d2G (s:=3) (q1:=((b7z u d 4294967295 4294967288:Nat):Int)) g a;have C:=c7V m (c6T rfl g a).1 (c6T rfl g a).2.1;have t:=c5n (u:=u) (a16 h (by simp));have r2:=c5n (u:=v) (a16 g (by simp));have w:wrap .u64 ((u / 4294967295:Nat):Int)=((u / 4294967295:Nat):Int):=d0H (a16 h (by simp));have x:wrap .u64 ((v / 4294967295:Nat):Int)=((v / 4294967295:Nat):Int):=d0H (a16 g (by simp));have q1:a19 (u:Int) 4294967295=((u / 4294967295:Nat):Int):=rfl;have D:a19 (v:Int) 4294967295=((v / 4294967295:Nat):Int):=rfl;have g8:∀n:Nat,A0o .u64 (n:Int) 3=((n / 8:Nat):Int):=fun n=>c4m (k:=3) (by omega);unfold a2R;dsimp only;rw[d4x,cF,b,cF,c0,cF,d2E,oB,d4t,d4y,cF,cF,d2H,d4z,cF,cF,d4u,d4v,d4A,cF,d4w,sh3 hi,c,l,sh3 lo,c7U,i,d0G,j,q1,w,t,p,oB];simp_all
theorem d1v{hi lo:Nat}(h:hi<prm)(g:lo<18446744073709551616):∃q:Int,a2R ((hi:Int),(lo:Int),(2305843009213693951:Int))=some (q,(((hi*18446744073709551616+lo)%prm:Nat):Int)):=by
 by_cases h0:hi=0
 subst h0;rw[Nat.zero_mul,a85];exact⟨_,c9j lo⟩;rw[←d2C hi lo];exact d1u rfl rfl h0 h rfl rfl rfl g (c9h h g) (a77 (Nat.lt_of_lt_of_le (a18 _ (by omega)) (by omega))) (a18 _ (by omega))
theorem b7L{a b c:Nat}(g:a<prm)(hb:b<prm)(f:c≤prm):a5O ((a:Int),(b:Int),(c:Int))=some (((a*b+c)%prm:Nat):Int):=by
 have k:=c7T g hb f;unfold prm at g hb f k;have l:=c9i (a:=a) (b:=b) (by omega) (by omega);have j:a8S (((a*b%18446744073709551616:Nat):Int),(c:Int),(0:Int))=some ((((a*b%18446744073709551616+c)%18446744073709551616:Nat):Int),(((a*b%18446744073709551616+c) / 18446744073709551616:Nat):Int)):=rfl;obtain⟨hi,h⟩:∃hi,(a*b+c) / 18446744073709551616=hi:=⟨_,rfl⟩;rw[h]at k;have i:wrap .u64 (((a*b / 18446744073709551616:Nat):Int)+((a*b%18446744073709551616+c) / 18446744073709551616:Nat))=(hi:Int):=by
  grind[a0N]
 obtain⟨q,d⟩:=d1v (hi:=hi) (lo:=(a*b%18446744073709551616+c)%18446744073709551616) (by unfold prm;omega) (by omega);have e:hi*18446744073709551616+(a*b%18446744073709551616+c)%18446744073709551616=a*b+c:=by omega
 rw[e]at d;have t:a38 (hi:Int) 2305843009213693951=(hi:Int):=by
  grind
 unfold a5O a8T;simp_all
theorem b8E(l:List Int)(n i:Int):∀(j k:Nat)(s:Int),k+j=8→y0s a7D (s,l,n,i,(k:Int),())=some (rep e32 j s,l,n,i,())
 |0,k,s,h=>by
  obtain rfl:k=8:=by omega
  rfl
 |j+1,k,s,h=>by
  have d:decide ((k:Int)<8)=true:=by grind
  rw[a0F (s':=(e32 s,l,n,i,((k+1:Nat):Int),())) (by
   simp only[a7D,d,cT,a0B (show k<1000000 by omega),e32]
   grind)]
  exact b8E l n i j (k+1) (e32 s) (by omega)
theorem c0U{l:List Int}(k:short l):∀(rest done:List Int)(s:BitVec 32),done++rest=l→(∀b∈rest,0≤b∧b<256)→
  y0s a4X (((s.toNat:Nat):Int),l,(l.length:Int),(done.length:Int),())=some ((((d2y s (rest.map (a00 32))).toNat:Nat):Int),())
 | [],done,s,hd,_=>by
  obtain rfl:done=l:=by simp_all
  exact a0E (by simp only[a4X,dge,cF];rfl)
 |x::rest,done,s,hd,hb=>by
  have g:done.length<l.length:=by grind
  have a:m0k l (done.length:Int)=some x:=by grind[a0D]
  have c:=hb x (by simp);have e:bits .u32 .xor ((s.toNat:Nat):Int) (wrap .u32 x)=(((s ^^^ a00 32 x).toNat:Nat):Int):=by
   rw[←c6R]
   grind[a27,wrap,IntKind.bits]
  have f:=b8E l (l.length:Int) (done.length:Int) 8 0 (bits .u32 .xor ((s.toNat:Nat):Int) (wrap .u32 x)) rfl;rw[e,c4l]at f;rw[a0F (s':=((((c9e s (a00 32 x)).toNat:Nat):Int),l,(l.length:Int),(((done++[x]).length:Nat):Int),())) (by
   simp only[a4X,dlt g,cT,a,oB,e]
   erw[f]
   simp only[oB,a0B (a16 g k)];simp[c9e])]
  exact c0U k rest (done++[x]) _ (by simp_all) (fun b h=>hb b (by grind))
theorem b7A{l:List Int}(g:short l)(hb:∀b∈l,0≤b∧b<256):a4L l=some ((a2z l:Nat):Int):=by
 have h:=c0U g l [] 0xffffffff#32 rfl hb;rw[a23]at h;unfold a4L
 erw[h]
 simp only[oB];rw[show IntKind.max .u32=(((0xffffffff#32).toNat:Nat):Int)from rfl,c6R];rfl
theorem c0V{l:List Int}(k:short l):∀(rest done:List Int)(h:Nat),done++rest=l→h<prm→(∀b∈rest,0≤b∧b<256)→
  y0s a7J ((h:Int),l,(l.length:Int),(done.length:Int),())=some (((prs h (rest.map a33):Nat):Int),())
 | [],done,h,hd,_,_=>by
  obtain rfl:done=l:=by simp_all
  exact a0E (by simp only[a7J,dge,cF];rfl)
 |x::rest,done,h,hd,hh,hb=>by
  have g:done.length<l.length:=by grind
  have d:m0k l (done.length:Int)=some x:=by grind[a0D]
  have i:=hb x (by simp);have e:wrap .u64 ((wrap .u64 x)+(1:Int))=((x.toNat+1:Nat):Int):=by grind[a0N]
  have f:=b7L (a:=h) (b:=1000003) (c:=x.toNat+1) hh (by decide) (by unfold prm;omega);rw[a0F (s':=((((h*1000003+(x.toNat+1))%prm:Nat):Int),l,(l.length:Int),(((done++[x]).length:Nat):Int),())) (by
   simp only[a7J,dlt g,cT,d,oB,e]
   erw[f]
   simp[a0B (a16 g k)])]
  exact c0V k rest (done++[x]) _ (by simp_all) (a18 _ (by decide)) (fun b h=>hb b (by grind))
theorem c9k{l:List Int}(g:short l)(hb:∀b∈l,0≤b∧b<256):a7V l=some ((prI l:Nat):Int):=by
 have h:=c0V g l [] 0 rfl (by decide) hb;unfold a7V
 erw[h]
 rfl
theorem b6q:∀(k n p s:Nat),n<2^k→n<4611686018427387904→p<prm→s<prm→y0s a7K ((n:Int),(p:Int),(s:Int),())=some (((pwr k n p s:Nat):Int),())
 |0,n,p,s,hn,_,_,_=>by
  obtain rfl:n=0:=by omega
  rfl
 |k+1,n,p,s,hn,hn2,hp,hs=>by
  by_cases h0:n=0
  subst h0;rfl;have d:decide ((n:Int) > 0)=true:=by grind
  have f:a38 (n:Int) 2=((n%2:Nat):Int):=rfl;have e:wrap .i64 (a19 (n:Int) 2)=((n / 2:Nat):Int):=by rw[show a19 (n:Int) 2=((n / 2:Nat):Int)from rfl,a0C (by omega)]
  have g:=b7L (c:=0) hs hs (by simp);have h:=b7L (c:=0) hp hs (by simp);have a:n / 2<2^k:=by omega
  simp only[a86,nZ]at g h;have m:=a18 (s*s) (show 0<prm by decide);rw[pwr,if_neg h0]
  by_cases h1:n%2=1
  rw[if_pos h1,a0F (s':=(((n / 2:Nat):Int),((p*s%prm:Nat):Int),((s*s%prm:Nat):Int),())) (by
   simp only[a7K,d,cT,f,h1,show(((1:Nat):Int)==1)=true from rfl];simp_all)]
  exact b6q k _ _ _ a (by omega) (a18 _ (by decide)) m;have b:n%2=0:=by omega
  rw[if_neg h1,a0F (s':=(((n / 2:Nat):Int),(p:Int),((s*s%prm:Nat):Int),())) (by
   simp only[a7K,d,cT,f,b,show(((0:Nat):Int)==1)=false from rfl,cF,oB];simp_all)]
  exact b6q k _ _ _ a (by omega) hp m
theorem d1w{a b n:Nat}(f:a<prm)(hb:b<prm)(h:n<4611686018427387904):b1Q ((a:Int),(b:Int),(n:Int))=some ((((a*(1000003^n%prm)+b)%prm:Nat):Int),true):=by
 have hp:=b6q 62 n 1 1000003 h h (by decide) (by decide);rw[d2x 62 n 1 1000003 h (by decide),Nat.one_mul]at hp;have j:=b7L (c:=b) f (a18 (1000003^n) (show 0<prm by decide)) (a53 hb);unfold prm at f hb;have k:decide ((a:Int)≥(2305843009213693951:Int))=false:=by grind
 have d:decide ((b:Int)≥(2305843009213693951:Int))=false:=by grind
 have e:decide ((n:Int)<(0:Int))=false:=by simp
 have i:v0r (n:Int) 0=(n:Int):=by rfl
 have g:b0I (n:Int)=some ((1000003^n%prm:Nat):Int):=by
  simp_all[b0I]
 simp only[b1Q,k,d,e,cF,oB,g];simp_all
theorem c4n(b:a1e)(N:Int){i:Nat}:∀(rest done:List (List Int)) (out:List Int),done++rest=b.2.1→b.2.1.length≤8→(∀r∈rest,i<r.length)→out.length+rest.length<1000000→
  y0s a6K ((i:Int),N,(i:Int),b.2.1,(b.2.1.length:Int),(done.length:Int),out,b,())=some (N,(i:Int),out++rest.map (fun r=>r.getD i 0),b,())
 | [],done,out,hd,_,_,_=>by
  simp_all[a0E,a6K]
 |r::rest,done,out,hd,h8,hr,ho=>by
  have g:done.length<b.2.1.length:=by grind
  have f:m0k b.2.1 (done.length:Int)=some r:=by grind[a0D]
  have k:=hr r (by simp);have h:m0k r (i:Int)=some (r.getD i 0):=by simp_all[a0D]
  simp at ho;rw[a0F (s':=((i:Int),N,(i:Int),b.2.1,(b.2.1.length:Int),(((done++[r]).length:Nat):Int),out++[r.getD i 0],b,())) (by
   simp only[a6K,dlt g,cT,f,h,oB,a0W (show out.length+1<2147483648 by omega),a0B (show done.length<1000000 by omega)]
   simp)]
  rw[c4n b N rest (done++[r]) _ (by simp_all) h8 (fun q a=>hr q (by grind)) (by grind)]
  simp
theorem c4o{b:a1e}(hb:a2J b):a5k b=some (wvB b):=by
 obtain⟨g1,g2,g3,g4,g5,g6,g7⟩:=id hb;have hlen:∀r∈b.2.1,r.length=a0T b:=fun r hr=>by
  simp_all
 have hw:∀i,i≤4096→(wv i b.2.1).length≤32768:=fun i hi=>by
  rw[c7R]
  calc i*b.2.1.length≤4096*8:=a08 hi g4
   _=32768:=rfl
 have h:=a1C (f:=a6L) (fun i=>(((a0T b:Nat):Int),(i:Int),wv i b.2.1,b,())) (a0T b) (b:=(wv (a0T b) b.2.1,())) (fun i hi=>by
  have h0:=c4n b ((a0T b:Nat):Int) (i:=i) b.2.1 [] (wv i b.2.1) rfl g4 (fun r hr=>by simp_all) (by grind);rw[a23]at h0;simp only[a6L,dlt hi,cT]
  grind[a0B,wv,a37]) (by simp_all[a6L])
 unfold a5k;simp[a6A,hb,a4R]
 erw[h]
 rfl
theorem c5o{b:a1e}:(wvB b).length=a0T b*b.2.1.length:=c7R _
theorem d1x{b:a1e}(hb:a2J b):(wvB b).all (fun x=>a1n x b.1)=true:=by
 obtain⟨g,f,k,a,c,d,e⟩:=hb;refine lA.2 fun x h=>?_
 unfold wvB wv at h
 grind
theorem d1y{b:a1e}(hb:a2J b):b0H b=some (a3B b.1 (wvB b),0):=by
 have hl:(wvB b).length≤1000000:=by
  rw[c5o]
  calc a0T b*b.2.1.length≤4096*8:=a08 hb.2.2.2.2.2.1 hb.2.2.2.1
   _≤1000000:=by simp
 unfold b0H;simp only[a6A,hb,decide_true,oB,bT,cF,c4o hb,c1y ⟨hb.1,hb.2.1⟩ hl (d1x hb)]
theorem b7B{b:a1e}(hb:a2J b){w:Int}(h:b.1=w)(d:List Int):a4x (((prI (a3B w d):Nat):Int),b)=some (((prI (a3B w (d++wvB b)):Nat):Int),true):=by
 subst h;have g:=c6N ⟨hb.1,hb.2.1⟩ (wvB b);have f:(wvB b).length≤4096*8:=by rw[c5o];exact a08 hb.2.2.2.2.2.1 hb.2.2.2.1
 have k:=d1w (c0T (a3B b.1 d)) (c0T (a3B b.1 (wvB b))) (n:=(a3B b.1 (wvB b)).length) (by omega);unfold a4x;simp only[d1y hb,oB,show((0:Int) != 0)=false from rfl,cF,c9k (show short (a3B b.1 (wvB b))by unfold short;omega) (c4c _ _),c6O,d1p];simp_all
theorem c9l(d:List Int)(x:Int){ch:Nat}(h:0<ch):(a1M d ch).set (d.length%ch) ((a1M d ch).getD (d.length%ch) []++[x])=a1M (d++[x]) ch:=by
 have k:=a18 d.length h;refine a50 (by simp[a1M]) fun i g f=>?_
 simp[a1M]at g;rw[List.getElem_set];simp_all[a1M,c7O]
theorem d1z{fm:a0M}(e:a3X fm){ch:Nat}(k:fm.2.1=(ch:Int)){l:List Int}{n:Nat}(p:1≤n∧n≤4096)(j:l.length=n*ch)(a:l.all (fun x=>a1n x fm.2.2.1)=true):
  b0O (l,fm)=some (a7r fm.2.2.1 l ch,0):=by
 have g:1≤ch∧ch≤8:=by have:=e.2.2.1;have:=e.2.2.2.1;omega
 have G:l.length≤4096*8:=by rw[j];exact a08 p.2 g.2
 have q:1≤l.length:=by rw[j];exact Nat.mul_pos p.1 g.1
 have w:4≤fm.2.2.1∧fm.2.2.1≤24:=e.2.2.2.2;have c0:((ch:Int)==0)=false:=by grind
 have h:=a1C (f:=a7O) (fun i=>(l,((l.length:Nat):Int),(i:Int),b2t,(fm.2.2.1,a1M (l.take i) ch,()),fm,())) l.length (b:=Sum.inl (b2t,a7r fm.2.2.1 l ch,())) (fun i hi=>by
  have t:a38 (i:Int) (ch:Int)=((i%ch:Nat):Int):=rfl;have v:=a18 i g.1;have m:∀d,(a1M d ch).length=ch:=fun d=>by simp[a1M]
  have r:decide ((0:Int)≤((i%ch:Nat):Int))=true:=decide_eq_true (a03 _);have y:a1n l[i] fm.2.2.1=true:=lA.1 a _ (a26 hi);have o:(l.take i).length=i:=by grind
  have u:((a1M (l.take i) ch).getD (i%ch) []).length≤32768:=by
   grind[a1M,b0Z]
  have c:=c9l (l.take i) l[i] g.1;rw[o]at c;simp only[a7O,dlt hi,cT,a0D hi,oB,b4b w,y,bT,cF,k,c0,t,r,List.length_set,m,dlt v,a02,tN,a0W (show((a1M (l.take i) ch).getD (i%ch) []).length+1<2147483648 by omega),beq_self_eq_true,Bool.and_true,a0B (show i<1000000 by omega)];simp_all) (by
  simp only[a7O,dge,cF,a45];rfl)
 have s:a1M ([]:List Int) ch=a06 ch []:=by
  refine a50 (by simp[a1M]) fun i E F=>?_
  simp[a1M,b0Z]
 have q1:(((l.length:Nat):Int)==0)=false:=by grind
 have z:a38 ((l.length:Nat):Int) (ch:Int)=0:=by
  simp_all
 have A:wrap .i64 (a19 ((l.length:Nat):Int) (ch:Int))=(n:Int):=by
  rw[show a19 ((l.length:Nat):Int) (ch:Int)=((l.length / ch:Nat):Int)from rfl,j,a57 _ g.1,a0C (by omega)]
 have B:decide ((n:Int) > 4096)=false:=by grind
 have C:decide ((0:Int)≤(ch:Int))=true:=by simp
 have D:decide ((ch:Int)≤(ch:Int))=true:=by simp
 unfold b0O;simp only[a4z,e,decide_true,oB,bT,cF,q1,k,c0,z,show((0:Int) != 0)=false from rfl,A,B,C,D,tN,a0W (show ch<2147483648 by omega),a02,cT];simp only[List.take_zero,s]at h
 erw[h]
 rfl
theorem a9R{α:Type}(a:List α)(x:α)(b:List α):m0k (a++x::b) (a.length:Int)=some x:=by
 simp_all[a0D]
theorem b6r:∀(a b:List Pc)(st off:Nat),a2H st off (a++b)=a2H st off a++a2H (st+a0L a) (off+(a0S a).length) b
 | [],b,st,off=>by rfl
 |y::a,b,st,off=>by
  simp_all[a2H,b6r,a0L,a0S,a79]
theorem c4p{fm:a0M}{all:List Pc}(h:all.length≤256){t:b9h}(p:t.1=fm)(a:t.2.2.2.1=a2H 0 0 all):∀(rest done:List Pc),done++rest=all→a2K fm (a0L done) rest→(a0S done).length≤700800*done.length→a0L done≤64*done.length→
  y0s a8y (((a0L done:Nat):Int),(((a0S done).length:Nat):Int),((a2e fm done:Nat):Int),all.map (·.1),((all.map (·.1)).length:Int),(done.length:Int),done.map (·.2.2),done.map (·.2.1),t,()) =
   some (.inl (((a0L all:Nat):Int),((a2e fm all:Nat):Int),all.map (·.2.2),all.map (·.2.1),t,()))
 | [],done,hd,_,_,_=>by
  obtain rfl:done=all:=by simp_all
  simp_all[a0E,a8y]
 |x::rest,done,hd,hr,hb,hl=>by
  obtain⟨⟨u,d,v,e,j,y,l,m,z,b,c⟩,hr2⟩:=hr;have f:done.length<(all.map (·.1)).length:=by grind
  have k:all.length=done.length+(rest.length+1):=by grind
  have o:m0k (all.map (·.1)) (done.length:Int)=some x.1:=by
   grind[a9R]
  have g:m0k t.2.2.2.1 (done.length:Int)=some (((a0L done:Nat):Int),(((a0S done).length:Nat):Int),()):=by
   have:=a9R (a2H 0 0 done) (((a0L done:Nat):Int),(((a0S done).length:Nat):Int),()) (a2H (a0L done+a0T x.2.1) ((a0S done).length+x.2.2.length) rest)
   rw[a6W]at this;rw[a,←hd,b6r];simp_all[a2H]
  have n:eqT (.pair (.int .i64) (.pair (.int .i64) (.pair (.int .i64) .unit))) x.1.2.2.1 t.1=true:=by simp_all[c3X]
  have q:=b7B l (w:=fm.2.2.1) m (a1N done);have n1:(x.1.1 != ((a0L done:Nat):Int))=false:=by simp_all
  have n2:∀i:Int,(i != i)=false:=fun i=>by simp
  have r:((0:Int) != 0)=false:=rfl;have s:wrap .i64 (((a0L done:Nat):Int)+((a0T x.2.1:Nat):Int))=((a0L (done++[x]):Nat):Int):=by grind[a3C,a0C]
  have w2:wrap .i64 ((((a0S done).length:Nat):Int)+((x.2.2.length:Nat):Int))=(((a0S (done++[x])).length:Nat):Int):=by grind[a4o,a0C]
  rw[a0F (s':=(((a0L (done++[x]):Nat):Int),(((a0S (done++[x])).length:Nat):Int),((a2e fm (done++[x]):Nat):Int),all.map (·.1),((all.map (·.1)).length:Int),(((done++[x]).length:Nat):Int),(done++[x]).map (·.2.2),(done++[x]).map (·.2.1),t,())) (by
   simp only[a8y,dlt f,cT,o,oB];rw[n];simp only[bT,cF,oB,n1,g,n2,e,r,j]
   erw[q]
   simp only[oB,bT,cF,a07,a0W (show done.length+1<2147483648 by omega),cT,d,s,w2,a0B (show done.length<1000000 by omega)]
   simp[a2e,b3j])]
  exact c4p h p a rest (done++[x]) (by simp_all) (by simp_all[a3C]) (by grind[a4o]) (by grind[a3C])
theorem d2I{fm:a0M}(c:a3X fm){xs:List Pc}(b:a2K fm 0 xs)(g:xs.length≤256):a9i (mkT fm xs)=some (xs.map (·.2.2),xs.map (·.2.1),true):=by
 have h:=c4p g (t:=mkT fm xs) rfl rfl xs [] rfl b (by simp[a0S]) (by simp[a0L]);have a:a1V (mkT fm xs).1=some true:=by simp_all[a4z,mkT]
 have f:decide (((a05 (mkT fm xs).2.2.2.2.1:Nat):Int) > (4096:Int))=false:=by simp[mkT];omega
 have k:(((a05 (mkT fm xs).2.2.2.1:Nat):Int) != ((a05 (mkT fm xs).2.2.2.2.1:Nat):Int))=false:=by simp[mkT,a6W]
 unfold a9i;simp[a,f,k]
 erw[h]
 simp_all[mkT]
theorem c2p{α:Type}(a:List α)(x d:α)(b:List α):(a++x::b).getD a.length d=x:=by
 rw[lD];simp
theorem c2q{fm:a0M}{all:List Pc}(h:all.length≤256)(t:b9h)(A:List Nat)(e:A.length=4):∀(rest done:List Pc)(st:Nat),done++rest=all→a2K fm st rest→
  y0s a8E (all.map (·.1),((all.map (·.1)).length:Int),(done.length:Int),all.map (·.2.2),asI (A++nsP done),t,())=some (all.map (·.2.2),asI (A++nsP all),t,())
 | [],done,st,hd,_=>by
  obtain rfl:done=all:=by simpa using hd
  exact a0E (by simp only[a8E,a07,dge,cF])
 |x::rest,done,st,hd,hr=>by
  obtain⟨⟨m,d,n,o,p,q,r,s,u,b,c⟩,hr2⟩:=hr;have k:done.length<(all.map (·.1)).length:=by rw[←hd];simp
  have g:done.length<(all.map (·.2.2)).length:=by rw[←hd];simp
  have j:m0k (all.map (·.1)) (done.length:Int)=some x.1:=by
   have:=a9R (done.map (·.1)) x.1 (rest.map (·.1))
   rw[a07]at this;rw[←hd,pA,a24];exact this
  have hp:(all.map (·.2.2)).getD done.length []=x.2.2:=by
   have:=c2p (done.map (·.2.2)) x.2.2 [] (rest.map (·.2.2))
   rw[a07]at this;rw[←hd,pA,a24];exact this
  have a:decide ((0:Int)≤(done.length:Int))=true:=decide_eq_true (a03 _);have i:done.length<all.length:=by rw[←hd];simp
  have f:(asI (A++nsP done)).length+2<2147483648:=by simp only[asI,a07,lN,b5H];omega
  have l:wrap .u64 ((x.2.2.length:Nat):Int)=((x.2.2.length:Nat):Int):=a0N (by omega);have w2:wrap .u64 ((a0T x.2.1:Nat):Int)=((a0T x.2.1:Nat):Int):=a0N (by omega);rw[a0F (s':=(all.map (·.1),((all.map (·.1)).length:Int),(((done++[x]).length:Nat):Int),all.map (·.2.2),asI (A++nsP (done++[x])),t,())) (by
   simp only[a8E,dlt k,dlt g,a,a02,cT,j,oB,a0W f,tN,hp,l,d,w2,a0B (show done.length<1000000 by omega)];simp[c9g,asI])]
  exact c2q h t A e rest (done++[x]) _ (by simpa using hd) hr2
theorem c2r{all:List (List Int)}(g:all.length≤256)(h:∀p∈all,p.length≤700800):∀(rest done:List (List Int)) (out:List Int),done++rest=all→out.length+700800*rest.length≤190000000→
  y0s a8F ((all.length:Int),(done.length:Int),out,all,())=some (out++rest.flatten,())
 | [],done,out,hd,_=>by
  obtain rfl:done=all:=by simpa using hd
  rw[a0E (b:=(out,())) (by simp only[a8F,dge,cF])]
  simp
 |p::rest,done,out,hd,ho=>by
  have f:done.length<all.length:=by rw[←hd];simp
  have hp:all.getD done.length []=p:=by rw[←hd];exact c2p done p [] rest
  have a:=h p (by rw[←hd];simp);have k:decide ((0:Int)≤(done.length:Int))=true:=decide_eq_true (a03 _);simp only[lC]at ho;rw[a0F (s':=((all.length:Int),(((done++[p]).length:Nat):Int),out++p,all,())) (by
   simp only[a8F,dlt f,k,a02,cT,tN,hp,a0W (show out.length+p.length<2147483648 by omega),a0B (show done.length<1000000 by omega)]
   simp)]
  rw[c2r g h rest (done++[p]) (out++p) (by simpa using hd) (by simp only[lN];omega)]
  simp
theorem c0W{fm:a0M}:∀{xs:List Pc}{st:Nat},a2K fm st xs→∀p∈xs.map (·.2.2),p.length≤700800
 | [],_,_,p,hp=>by simp at hp
 |x::xs,st,h,p,hp=>by
  rcases mC.1 hp with rfl|hp;exact h.1.2.2.2.2.2.2.2.2.2.2;exact c0W h.2 p hp
theorem b8F:∀(l:List Nat),(∀n∈l,n<9223372036854775808)→∀b∈l.flatMap a0K,0≤b∧b<256:=fun l h b hb=>by
 obtain⟨n,g,hb⟩:=a90.1 hb;exact c0G 8 n (by rw[show(128:Nat)^(8+1)=9223372036854775808 from by decide];exact h n g) b hb
theorem c4U{fm:a0M}(g:a3X fm){xs:List Pc}(h:a2K fm 0 xs)(k:xs.length≤256):∀b∈a1a fm xs,0≤b∧b<256:=fun b hb=>by
 unfold a1a at hb;rcases mA.1 hb with hb|hb;simp only[b9i,mC,a47,or_false]at hb;omega;rcases mA.1 hb with hb|hb;exact b8F _ (fun n f=>a16 (a7B g h k n f) (by decide)) b hb;exact b6o _ _ b hb
theorem c7W{fm:a0M}(f:a3X fm){xs:List Pc}(g:a2K fm 0 xs)(h:xs.length≤256):b1V (mkT fm xs)=some (a1T fm xs,0):=by
 obtain⟨s,t,u,v,w,x⟩:=id f;have c:=c2q h (mkT fm xs) [fm.1.toNat,fm.2.1.toNat,fm.2.2.1.toNat,xs.length] rfl xs [] 0 rfl g;have hp:=b7q (ns:=a3M fm xs) (fun n j=>a16 (a7B f g h n j) (by decide)) (by simp only[a3M,lN,b5H,lC,a23];omega);have hv:=b4G (a3M fm xs) fun n i=>a16 (a7B f g h n i) (by decide);have z:(a3M fm xs).length≤516:=by simp only[a3M,lN,b5H,lC,a23];omega
 have y:=b4H f g h;have e:=b7x (n:=a2e fm xs) (k:=8) (by have:=c0T (a3B fm.2.2.1 (a1N xs));unfold prm at this;unfold a2e;omega) (by omega);have d:=b7x (n:=a2z (a1a fm xs)) (k:=4) (by have:=b6p (a1a fm xs);omega) (by omega);have m:=b7A (l:=a1a fm xs) (by unfold short;omega) (c4U f g h);have hb:=c2r (all:=xs.map (·.2.2)) (by simpa using h) (c0W g) (xs.map (·.2.2)) [] (a1a fm xs++a4j 4 (a2z (a1a fm xs))) rfl (by simp only[lN,a07,a4T];omega);have o:wrap .u64 fm.1=((fm.1.toNat:Nat):Int):=by rw[a0N (by omega)];omega
 have w2:wrap .u64 fm.2.1=((fm.2.1.toNat:Nat):Int):=by rw[a0N (by omega)];omega
 have p:wrap .u64 fm.2.2.1=((fm.2.2.1.toNat:Nat):Int):=by rw[a0N (by omega)];omega
 have q:wrap .u64 ((a05 (xs.map (·.1)):Nat):Int)=((xs.length:Nat):Int):=by rw[a07,a0N (by omega)]
 have r:wrap .u64 ((a2z (a1a fm xs):Nat):Int)=((a2z (a1a fm xs):Nat):Int):=a0N (by have:=b6p (a1a fm xs);omega);unfold b1V;rw[d2I f g h];simp only[oB,bT,cF,mkT,o,w2,p,q]
 erw[c]
 simp only[oB]
 erw[hp]
 simp only[oB,a0W (show 4+((a3M fm xs).flatMap a0K).length<2147483648 by omega),cT]
 erw[e]
 have b:a91 (a91 ([(75:Int),(78:Int),(83:Int),(68:Int)]:List Int) ((a3M fm xs).flatMap a0K)) (a4j 8 (a2e fm xs))=a1a fm xs:=aA ..;have a:(a91 ([(75:Int),(78:Int),(83:Int),(68:Int)]:List Int) ((a3M fm xs).flatMap a0K)).length+(a4j 8 (a2e fm xs)).length<2147483648:=by
  have:=congrArg a05 b
  simp only[a72,lN]at this⊢;omega
 simp only[oB,a0W a,cT,b,m,r]
 erw[d]
 simp only[oB,a0W (show(a1a fm xs).length+(a4j 4 (a2z (a1a fm xs))).length<2147483648 by rw[a4T];omega),cT]
 erw[hb]
 simp only[oB,a1T,a0S,List.flatMap_def,aA]
theorem d1A{P A R:List Int}(b:(P++(A++R)).length<1000000000):a4Z (ord P (A++R),(A.length:Int))=some (A,ord (P++A) R):=by
 simp at b;have c:v0r (A.length:Int) 0=(A.length:Int):=by rfl
 have d:wrap .i64 (((P++(A++R)).length:Int)-(P.length:Int))=((A++R).length:Int):=by
  grind[a0C]
 have h:decide ((A.length:Int) > ((A++R).length:Int))=false:=by grind
 have w2:wrap .i64 ((P.length:Int)+(A.length:Int))=(((P++A).length:Nat):Int):=by
  grind[a0C]
 have g:decide ((0:Int)≤(((P++A).length:Nat):Int))=true:=by rfl
 have f:decide ((((P++A).length:Nat):Int)≤((P++(A++R)).length:Int))=true:=by simp_all
 have k:decide ((0:Int)≤(P.length:Int))=true:=by simp
 have a:decide ((P.length:Int)≤(((P++A).length:Nat):Int))=true:=by grind
 have e:a31 P.length (a30 (P++A).length (P++(A++R)))=A:=by
  grind
 unfold a4Z a1I ord;simp only[show((0:Int) != 0)=false from rfl,cF,oB,c,d,h,w2,g,f,k,a,a02,cT,tN,e,a0W (show A.length<2147483648 by omega),aA]
theorem c4q{all:List Int}(a:all.length≤8)(z:List Int×(Int×Int×Unit)):∀(rest done:List Int)(n:Nat),done++rest=all→(∀b∈rest,0≤b∧b<256)→n<256^done.length→
  y0s a3H ((n:Int),(all.length:Int),(done.length:Int),all,z,())=some (((b5i n rest:Nat):Int),z,())
 | [],done,n,hd,_,_=>by
  obtain rfl:done=all:=by simp_all
  exact a0E (by simp only[a3H,dge,cF];rfl)
 |x::rest,done,n,hd,hb,hn=>by
  have g:done.length<all.length:=by grind
  have hp:all.getD done.length 0=x:=by grind
  have d:=hb x (by simp);have f:decide ((0:Int)≤(done.length:Int))=true:=decide_eq_true (a03 _);have c:256^done.length≤256^7:=a51 (by omega) (by omega);have k:(256:Nat)^7=72057594037927936:=by rfl
  have w:wrap .u64 ((wrap .u64 ((n:Int)*(256:Int)))+(wrap .u64 x))=((n*256+x.toNat:Nat):Int):=by
   grind[a0N]
  rw[a0F (s':=(((n*256+x.toNat:Nat):Int),(all.length:Int),(((done++[x]).length:Nat):Int),all,z,())) (by
   simp only[a3H,dlt g,f,a02,cT,tN,hp,w,a0B (show done.length<1000000 by omega)]
   simp)]
  exact c4q a z rest (done++[x]) _ (by simp_all) (fun b h=>hb b (by grind)) (by grind)
theorem c5p{P A R:List Int}{k:Nat}(f:A.length=k)(g:k≤8)(hb:∀b∈A,0≤b∧b<256)(a:(P++(A++R)).length<1000000000):a3x (ord P (A++R),(k:Int))=some (((b5i 0 A:Nat):Int),ord (P++A) R):=by
 subst f;have h:=c4q g (ord (P++A) R) A [] 0 rfl hb (by simp)
 grind[a3S,b3k,b7G,a3x,d1A]
@[reducible] def b6s:Type:=a0M×(List Int×(List Int×(Int×(Int×(Int×Unit)))))
def a1F(xs:List Pc):List Int:=xs.map fun x=>((x.2.2.length:Nat):Int)
def a3N(xs:List Pc):List Int:=xs.map fun x=>((a0T x.2.1:Nat):Int)
def b1b(fm:a0M)(xs:List Pc)(pr bg:Nat):b6s:=(fm,a1F xs,a3N xs,((a0L xs:Nat):Int),(pr:Int),(bg:Int),())
def b9j:b6s:=((0,0,0,()),[],[],0,0,0,())
theorem b8G{all:List Pc}(h:all.length≤256)(x:List Int)(fm:a0M)(z:b6s)(u:Int×(Int×Int×Unit)){R:List Int}:∀(rest done:List Pc)(P:List Int)(st:Nat),done++rest=all→a2K fm st rest→
  (P++((nsP rest).flatMap a0K++R)).length<1000000000→
  y0s a5D (x,(all.length:Int),(done.length:Int),z,(fm,a1F done,a3N done,u),ord P ((nsP rest).flatMap a0K++R),()) =
   some (x,z,(fm,a1F all,a3N all,u),ord (P++(nsP rest).flatMap a0K) R,())
 | [],done,P,st,hd,_,_=>by
  obtain rfl:done=all:=by simp_all
  simp_all[a0E,a5D,nsP]
 |y::rest,done,P,st,hd,hr,hl=>by
  obtain⟨⟨i,j,l,m,o,p,q,r,s,a,b⟩,hr2⟩:=hr;have k:done.length<all.length:=by grind
  have e:(nsP (y::rest)).flatMap a0K++R=a0K y.2.2.length++(a0K (a0T y.2.1)++((nsP rest).flatMap a0K++R)):=by simp[nsP]
  rw[e]at hl⊢;have g:=a1B hl;have f:=a1B g;have n1:=a2T (n:=y.2.2.length) (most:=1048704) (by omega) (by omega) hl;have n2:=a2T (n:=a0T y.2.1) (most:=4096) (by omega) (by omega) g;have c:wrap .i64 ((y.2.2.length:Nat):Int)=((y.2.2.length:Nat):Int):=a0C (by omega);have w2:wrap .i64 ((a0T y.2.1:Nat):Int)=((a0T y.2.1:Nat):Int):=a0C (by omega);have d:wrap .u64 ((done.length:Int)+1)=(((done++[y]).length:Nat):Int):=by grind[a0N]
  have l1:(a1F done).length=done.length:=by simp[a1F]
  have l2:(a3N done).length=done.length:=by simp[a3N]
  rw[a0F (s':=(x,(all.length:Int),(((done++[y]).length:Nat):Int),z,(fm,a1F (done++[y]),a3N (done++[y]),u),ord ((P++a0K y.2.2.length)++a0K (a0T y.2.1)) ((nsP rest).flatMap a0K++R),())) (by
   simp only[a5D,dlt k,cT,n1,n2,oB,l1,l2,a0W (show done.length+1<2147483648 by omega),c,w2,d];simp[a1F,a3N])]
  rw[b8G h x fm z u rest (done++[y]) _ _ (by simp_all) hr2 f];simp[nsP]
theorem c4r{all:List Pc}(h:all.length≤256)(fm:a0M)(z:b6s)(v:List Int)(u:Int×(Int×Unit)):∀(rest done:List Pc)(st:Nat),done++rest=all→a2K fm st rest→a0L done≤64*done.length→
  y0s a5E ((all.length:Int),(done.length:Int),z,(fm,v,a3N all,((a0L done:Nat):Int),u),())=some (.inl (z,(fm,v,a3N all,((a0L all:Nat):Int),u),()))
 | [],done,st,hd,_,_=>by
  obtain rfl:done=all:=by simp_all
  simp_all[a0E,a5E]
 |y::rest,done,st,hd,hr,ho=>by
  obtain⟨⟨i,j,l,m,n,o,d,p,q,b,c⟩,hr2⟩:=hr;have f:done.length<all.length:=by grind
  have g:done.length<(a3N all).length:=by simp_all[a3N]
  have hp:(a3N all).getD done.length 0=((a0T y.2.1:Nat):Int):=by
   grind[a3N]
  have k:=d.2.2.2.2.1;have e:(((a0T y.2.1:Nat):Int)==0)=false:=by grind
  have a:decide ((0:Int)≤(done.length:Int))=true:=decide_eq_true (a03 _);have w:wrap .i64 (((a0L done:Nat):Int)+((a0T y.2.1:Nat):Int))=((a0L (done++[y]):Nat):Int):=by grind[a3C,a0C]
  rw[a0F (s':=((all.length:Int),(((done++[y]).length:Nat):Int),z,(fm,v,a3N all,((a0L (done++[y]):Nat):Int),u),())) (by
   simp only[a5E,dlt f,dlt g,a,a02,cT,tN,hp,e,cF,w,a0B (show done.length<1000000 by omega)]
   simp)]
  exact c4r h fm z v u rest (done++[y]) _ (by simp_all) hr2 (by grind[a3C])
theorem c4V{fm:a0M}(j:a3X fm){xs:List Pc}(e:a2K fm 0 xs)(h:xs.length≤256){A C R:List Int}(y:A.length=8)(bA:∀b∈A,0≤b∧b<256)(N:C.length=4)(F:∀b∈C,0≤b∧b<256)(hR:R.length≤190000000)
  {H:List Int}(q:H=b9i++((a3M fm xs).flatMap a0K++A)):
  a3I (H++(C++R))=some (if a2z H=b5i 0 C then(b1b fm xs (b5i 0 A) (H.length+4),0)else(b9j,5)):=by
 obtain⟨f1,f2,f3,f4,f5,f6⟩:=id j;have hv:=b4G (a3M fm xs) fun n v=>a16 (a7B j e h n v) (by simp);have hl:(a3M fm xs).length≤516:=by grind[a3M,b5H]
 have G:∀b∈H,0≤b∧b<256:=fun b hb=>by
  rw[q]at hb;rcases mA.1 hb with hb|hb;simp[b9i]at hb;omega;rcases mA.1 hb with hb|hb;exact b8F _ (fun n v=>a16 (a7B j e h n v) (by simp)) b hb;simp_all
 have a:H.length=4+((a3M fm xs).flatMap a0K).length+8:=by grind[b9i]
 have S:=b7A (l:=H) (by unfold short;omega) G;have x:(a3M fm xs).flatMap a0K=a0K fm.1.toNat++(a0K fm.2.1.toNat++(a0K fm.2.2.1.toNat++(a0K xs.length++(nsP xs).flatMap a0K))):=by rfl
 obtain⟨V,O⟩:∃V,(a3M fm xs).flatMap a0K=V:=⟨_,rfl⟩;rw[O]at hv a x q;have ex:H++(C++R)=75::78::83::68::(V++(A++(C++R))):=by rw[q];simp[b9i]
 have g:(V++(A++(C++R))).length<1000000000:=by grind
 have z:([]++(a0K fm.1.toNat++(a0K fm.2.1.toNat++(a0K fm.2.2.1.toNat++(a0K xs.length++((nsP xs).flatMap a0K++(A++(C++R)))))))).length<1000000000:=by simp_all
 have B:=a1B z;have D:=a1B B;have E:=a1B D;have U:=a1B E;have n1:=a2T (n:=fm.1.toNat) (most:=1048576) (by omega) (by omega) z;have n2:=a2T (n:=fm.2.1.toNat) (most:=8) (by omega) (by omega) B;have X:=a2T (n:=fm.2.2.1.toNat) (most:=24) (by omega) (by omega) D;have Y:=a2T (n:=xs.length) (most:=4096) (by omega) (by omega) E;have w1:wrap .i64 ((fm.1.toNat:Nat):Int)=fm.1:=by grind[a0C]
 have w2:wrap .i64 ((fm.2.1.toNat:Nat):Int)=fm.2.1:=by grind[a0C]
 have w3:wrap .i64 ((fm.2.2.1.toNat:Nat):Int)=fm.2.2.1:=by grind[a0C]
 have f:=b8G h (H++(C++R)) fm b9j (0,0,0,()) xs [] _ 0 rfl e U;have M:([]++a0K fm.1.toNat++a0K fm.2.1.toNat++a0K fm.2.2.1.toNat++a0K xs.length)++(nsP xs).flatMap a0K=V:=by simp_all
 rw[M]at f;have Z:=c5p (P:=V) y (by omega) bA g;have n9:=c5p (P:=V++A) N (by omega) F (a1B g);have k:wrap .i64 (((V++(A++(C++R))).length:Int)-(V.length:Int))=((A++(C++R)).length:Int):=by
  simp only[lN]at g⊢;rw[a0C (by omega)];omega
 have m:decide (((A++(C++R)).length:Int)<12)=false:=by grind
 have r:wrap .i64 ((4:Int)+(((V++A).length:Nat):Int))=((H.length:Nat):Int):=by
  rw[a];simp only[lN,y];rw[a0C (by omega)];rfl
 have o:decide ((0:Int)≤((H.length:Nat):Int))=true:=decide_eq_true (a03 _);have p:decide (((H.length:Nat):Int)≤(((H++(C++R)).length:Nat):Int))=true:=by grind
 have c:wrap .i64 (((H.length:Nat):Int)+4)=((H.length+4:Nat):Int):=by grind[a0C]
 have T:wrap .u64 ((a2z H:Nat):Int)=((a2z H:Nat):Int):=a0N (by grind[b6p]);have I:decide (((a05 (H++(C++R)):Nat):Int)<(4:Int))=false:=by grind
 have K:decide ((4:Int)≤((a05 (H++(C++R)):Nat):Int))=true:=by simp_all
 have s:((b2s (a30 4 (H++(C++R)))) != ([75,78,83,68]:List Int))=false:=by rw[ex];rfl
 have t:a31 4 (a30 (a05 (H++(C++R))) (H++(C++R)))=V++(A++(C++R)):=by rw[a45,ex];rfl
 have d:a5P (V++(A++(C++R)))=some (ord [] (a0K fm.1.toNat++(a0K fm.2.1.toNat++(a0K fm.2.2.1.toNat++(a0K xs.length++((nsP xs).flatMap a0K++(A++(C++R)))))))):=by
  unfold a5P;rw[a0W (by omega),cT,x];simp[ord]
 have i:=c4r h fm b9j (a1F xs) (((b5i 0 A:Nat):Int),((H.length+4:Nat):Int),()) xs [] 0 rfl e (by simp[a0L]);have u:(a3N xs).length=xs.length:=by simp[a3N]
 have Q:=(b4F e).2;have L:decide (((a0L xs:Nat):Int) > (4194304:Int))=false:=by grind
 unfold a3I;simp only[I,cF,K,cT,s,t,d,oB,n1,n2,X,Y,w1,w2,w3]
 erw[f]
 simp only[oB,a3w,a1I,a4b,ord,show((0:Int) != 0)=false from rfl,cF,k,m]
 erw[Z]
 simp only[oB,ord,r,o,p,a02,cT,tN,List.take_left,S,T]
 erw[n9]
 simp only[oB]
 by_cases hq:a2z H=b5i 0 C
 have w:(((a2z H:Nat):Int) != ((b5i 0 C:Nat):Int))=false:=by simp_all
 simp only[w,cF,if_pos hq,a4z,j,decide_true,bT,oB,c,u]
 erw[i]
 simp only[L,oB,cF];rfl;have w:(((a2z H:Nat):Int) != ((b5i 0 C:Nat):Int))=true:=by grind
 simp only[w,cT,if_neg hq];rfl
theorem b8H{B P R:List Int}{fm:a0M}{st:Nat}{x:Pc}(p:c4j fm st x)(C:B=P++(x.2.2++R))(E:B.length<1000000000){pl:b6s}(hp:pl.1=fm){i:Int}(n:m0k pl.2.1 i=some ((x.2.2.length:Nat):Int))(o:m0k pl.2.2.1 i=some ((a0T x.2.1:Nat):Int)):
  a4M (B,pl,i,((P.length:Nat):Int),(st:Int))=some (x.1,x.2.1,0):=by
 obtain⟨s,t,u,v,w,l,y,z,A,e,j⟩:=p;have m:B.length=P.length+(x.2.2.length+R.length):=by simp_all
 have r:wrap .i64 (((a05 B:Nat):Int)-((P.length:Nat):Int))=((x.2.2.length+R.length:Nat):Int):=by grind[a0C]
 have g:decide (((x.2.2.length+R.length:Nat):Int)<((x.2.2.length:Nat):Int))=false:=decide_eq_false (by omega);have w2:wrap .i64 (((P.length:Nat):Int)+((x.2.2.length:Nat):Int))=((P.length+x.2.2.length:Nat):Int):=by grind[a0C]
 have f:decide ((0:Int)≤((P.length+x.2.2.length:Nat):Int))=true:=decide_eq_true (a03 _);have k:decide (((P.length+x.2.2.length:Nat):Int)≤((a05 B:Nat):Int))=true:=by simp_all
 have a:decide ((0:Int)≤((P.length:Nat):Int))=true:=decide_eq_true (a03 _);have b:decide (((P.length:Nat):Int)≤((P.length+x.2.2.length:Nat):Int))=true:=decide_eq_true (by omega);have d:a31 P.length (a30 (P.length+x.2.2.length) B)=x.2.2:=by
  grind
 have h:=l [] (by simp);rw[a65]at h;have q:((0:Int) != 0)=false:=rfl;have c:decide (((x.2.2.length:Nat):Int)<((x.2.2.length:Nat):Int))=false:=by simp
 have D:eqT (.pair (.int .i64) (.pair (.int .i64) (.pair (.int .i64) .unit))) x.1.2.2.1 pl.1=true:=by simp_all[c3X]
 have n1:(x.1.1 != (st:Int))=false:=by simp_all
 have n2:(((a0T x.2.1:Nat):Int) != ((a0T x.2.1:Nat):Int))=false:=by simp
 unfold a4M;simp only[n,oB,r,g,cF,w2,f,k,a,b,a02,cT,tN,d,h,q,c];simp_all
def c6U:b9h:=((0,0,0,()),0,0,[],[],())
theorem c4s{done rest:List Pc}(x:Pc):m0k (a1F (done++x::rest)) (done.length:Int)=some ((x.2.2.length:Nat):Int):=by
 grind[a9R,a1F]
theorem c5q{done rest:List Pc}(x:Pc):m0k (a3N (done++x::rest)) (done.length:Int)=some ((a0T x.2.1:Nat):Int):=by
 grind[a9R,a3N]
theorem c2s{fm:a0M}{all tail:List Pc}(h:all.length≤256){B Hd Z:List Int}(j:B.length<1000000000){pl:b6s}(hp:pl.1=fm)(a:pl.2.1=a1F all)(b:pl.2.2.1=a3N all)(g:pl.2.2.2.2.2.1=((Hd.length:Nat):Int))(z:b9h):
  ∀(rest done:List Pc),done++(rest++tail)=all→B=Hd++(a0S done++(a0S rest++Z))→a2K fm (a0L done) rest→a0L done≤64*done.length→
  y0s a3J (B,((Hd.length+(a0S done).length:Nat):Int),a1F all,(all.length:Int),(done.length:Int),z,pl,mkT fm done,()) =
   y0s a3J (B,((Hd.length+(a0S (done++rest)).length:Nat):Int),a1F all,(all.length:Int),((done++rest).length:Int),z,pl,mkT fm (done++rest),())
 | [],done,_,_,_,_=>by simp
 |x::rest,done,hd,hB,hr,ho=>by
  obtain⟨m,t⟩:=hr;have k:done.length<all.length:=by grind
  have f:B=(Hd++a0S done)++(x.2.2++(a0S rest++Z)):=by rw[hB];simp[a0S]
  have s:Hd.length+(a0S done).length+x.2.2.length≤B.length:=by grind
  have l:=c4s (done:=done) (rest:=rest++tail) x;have c:=c5q (done:=done) (rest:=rest++tail) x;rw[a44]at hd;rw[hd]at l c;have e:=b8H m f j hp (i:=(done.length:Int)) (by simp_all) (by simp_all);rw[lN]at e;obtain⟨y,p,A,C,D,E,q,r,F,n,o⟩:=m;have d:=b7B q (w:=fm.2.2.1) r (a1N done);have l1:(a2H 0 0 done).length+1<2147483648:=by rw[a6W];omega
  have u:wrap .i64 (((Hd.length+(a0S done).length:Nat):Int)+((x.2.2.length:Nat):Int))=((Hd.length+(a0S (done++[x])).length:Nat):Int):=by
   rw[a4o,lN,a0C (by omega)];omega
  have w2:wrap .i64 (((a0L done:Nat):Int)+((a0T x.2.1:Nat):Int))=((a0L (done++[x]):Nat):Int):=by rw[a3C,a0C (by omega)];rfl
  have v:wrap .i64 (((Hd.length+(a0S done).length:Nat):Int)-((Hd.length:Nat):Int))=(((a0S done).length:Nat):Int):=by grind[a0C]
  rw[a0F (s':=(B,((Hd.length+(a0S (done++[x])).length:Nat):Int),a1F all,(all.length:Int),(((done++[x]).length:Nat):Int),z,pl,mkT fm (done++[x]),())) (by
   simp only[a3J,dlt k,cT,l,oB,mkT]
   erw[e]
   simp only[oB,show((0:Int) != 0)=false from rfl,cF]
   erw[d]
   simp only[oB,a0W l1,a07,a0W (show done.length+1<2147483648 by omega),cT,u,p,w2,g,v,a0B (show done.length<1000000 by omega)]
   simp[a2e,b3j,b5h])]
  rw[a92 done x rest];exact c2s (Z:=Z) h j hp a b g z rest (done++[x]) (by simpa using hd) (by simp_all[a4o]) (by simp_all[a3C]) (by grind[a3C])
theorem b8I{fm:a0M}(k:a3X fm){xs:List Pc}(b:a2K fm 0 xs)(g:xs.length≤256){R:List Int}(f:R.length≤190000000):
  a3I (a1a fm xs++(a4j 4 (a2z (a1a fm xs))++R))=some (b1b fm xs (a2e fm xs) ((a1a fm xs).length+4),0):=by
 have a:=c0T (a3B fm.2.2.1 (a1N xs));have h:=c4V k b g (A:=a4j 8 (a2e fm xs)) (C:=a4j 4 (a2z (a1a fm xs))) (R:=R) (a4T ..) (b6o 8 _) (a4T ..) (b6o 4 _) f (H:=a1a fm xs) rfl;rw[b9g 4 _ (by simp_all[b6p]),b9g 8 _ (by grind[prm,a2e]),if_pos rfl]at h;omega
theorem c6V{fm:a0M}(c:a3X fm){xs:List Pc}(k:a2K fm 0 xs)(h:xs.length≤256):a8b (a1T fm xs)=some (mkT fm xs,0):=by
 have e:=b1a k;have l:=b4H c k h;have i:=b8I c k h (R:=a0S xs) (by omega);have d:(a1T fm xs).length=(a1a fm xs).length+4+(a0S xs).length:=by grind[a1T,a4T]
 have f:(a1a fm xs++a4j 4 (a2z (a1a fm xs))).length=(a1a fm xs).length+4:=by simp[a4T]
 have g:=c2s (fm:=fm) h (B:=a1T fm xs) (Hd:=a1a fm xs++a4j 4 (a2z (a1a fm xs))) (Z:=[]) (by omega) (pl:=b1b fm xs (a2e fm xs) ((a1a fm xs).length+4)) rfl rfl rfl (by rw[f];rfl) c6U (tail:=[]) xs [] (by simp) (by simp[a1T,a0S]) k (by simp[a0L]);rw[f,a09]at g;have a:y0s a3J (a1T fm xs,(((a1a fm xs).length+4+(a0S xs).length:Nat):Int),a1F xs,(xs.length:Int),(xs.length:Int),c6U,b1b fm xs (a2e fm xs) ((a1a fm xs).length+4),mkT fm xs,())=some (Sum.inl (a1T fm xs,(((a1a fm xs).length+4+(a0S xs).length:Nat):Int),c6U,b1b fm xs (a2e fm xs) ((a1a fm xs).length+4),mkT fm xs,())):=
  a0E (by simp_all[a3J])
 rw[a]at g;have b:(a1F xs).length=xs.length:=by simp[a1F]
 have j:decide ((((a1a fm xs).length+4+(a0S xs).length:Nat):Int)<(((a1T fm xs).length:Nat):Int))=false:=by simp_all
 unfold a8b;rw[show a1T fm xs=a1a fm xs++(a4j 4 (a2z (a1a fm xs))++a0S xs)from rfl,i];simp only[oB,show((0:Int) != 0)=false from rfl,cF,b1b,b]
 erw[g]
 simp_all[b1b,mkT]
def b7C(fm:a0M)(l:List Int)(ch sz total:Nat)(effort:Int):Nat→List Pc→Prop
 |st,[]=>total≤st
 |st,x::xs=>st<total∧x.2.1=a7r fm.2.2.1 (a1h l ch st (min (st+sz) total)) ch∧a4K (x.2.1,fm,(st:Int),effort)=some (x.1,0)∧c4j fm st x∧b7C fm l ch sz total effort (st+sz) xs
def c0X(fm:a0M)(total:Nat)(xs:List Pc):b9h:=(fm,(total:Int),((a2e fm xs:Nat):Int),a2H 0 0 xs,xs.map (·.1),())
theorem c9m{fm:a0M}(D:a3X fm){ch:Nat}(a:fm.2.1=(ch:Int)){l:List Int}{total sz:Nat}(hl:l.length=total*ch)(ht:total≤200)(hs:1≤sz∧sz≤64)(b:l.all (fun x=>a1n x fm.2.2.1)=true){effort:Int}(X:0≤effort)(Y:effort≤3):
  ∀(k st:Nat)(done:List Pc),total≤st+k→a0L done=min st total→a1N done=l.take (min st total*ch)→a2K fm 0 done→done.length≤st→st≤300→
  ∃rest,b7C fm l ch sz total effort st rest∧a2K fm 0 (done++rest)∧a0L (done++rest)=total∧a1N (done++rest)=l∧
   y0s a6a (l,(sz:Int),effort,(total:Int),(((a0S done).length:Nat):Int),(st:Int),c0X fm total done,fm,())=some (.inl (c0X fm total (done++rest),())):=by
 obtain⟨S,T,f3,f4,U,V⟩:=id D;have e:1≤ch∧ch≤8:=by omega
 intro k
 induction k with
 |zero=>
  intro st done E j o y r A;have hm:min st total=total:=by omega
  have P:decide ((st:Int)<(total:Int))=false:=by simp_all
  rw[hm]at j o;refine⟨[],by simpa[b7C]using E,by simp_all,by simp_all,by grind,?_⟩;rw[a65];exact a0E (by simp only[a6a,P,cF])
 |succ k ih=>
  intro st done E j o y r A
  by_cases hlt:st<total
  have t:min st total=st:=by omega
  rw[t]at j o;obtain⟨en,Z⟩:∃en,min (st+sz) total=en:=⟨_,rfl⟩;have C:st<en∧en≤total∧en≤st+sz:=by omega
  have s:en*ch≤l.length:=by simp_all[a01]
  have h6:st*ch≤en*ch:=a01 _ (by omega);have h1:l.length≤200*8:=by rw[hl];exact a08 ht e.2
  have h:=b7y (st:=st) s;have f:=c7S (ch:=ch) (st:=st) (en:=en) b;have c:=d1r (w:=fm.2.2.1) h e (by omega) ⟨U,V⟩ f;have h2:=b4d (w:=fm.2.2.1) h e.1;have h4:=c5m (w:=fm.2.2.1) h e.1;have v:=d1z D a (l:=a1h l ch st en) (n:=en-st) (by omega) h f;obtain⟨g,p,m1,i⟩:=d1q (fm:=fm) c (by omega) ⟨S,T⟩ (by simp_all[a7r,a1M]) rfl (st:=st) (by omega) X Y;have d:=i.2.2.2.2.1;have B:=b7B c (w:=fm.2.2.1) rfl (a1N done);obtain⟨x,hx⟩:∃x:Pc,x=(((st:Int),g),a7r fm.2.2.1 (a1h l ch st en) ch,p):=⟨_,rfl⟩;have x1:x.1=((st:Int),g):=by grind
  have x2:x.2.1=a7r fm.2.2.1 (a1h l ch st en) ch:=by grind
  have K:x.2.2=p:=by grind
  rw[←hx]at i;have u:=i.2.2.2.2.2.2.2.2.2.2;rw[K]at u;have h5:=b1a y;have m:a0L (done++[x])=min (st+sz) total:=by grind[a3C]
  have q:a1N (done++[x])=l.take (min (st+sz) total*ch):=by grind[b3j,c2n]
  have z:a2K fm 0 (done++[x]):=c2m y (by simp_all);obtain⟨rest,k1,F,G,H,I⟩:=ih (st+sz) (done++[x]) (by omega) m q z (by grind) (by omega);have Q:done++[x]++rest=done++x::rest:=by simp
  rw[Q]at F G H I;refine⟨x::rest,⟨hlt,by simp_all,by simp_all,i,k1⟩,F,G,H,?_⟩;rw[←I];have q1:wrap .i64 ((v0s (wrap .i64 ((st:Int)+(sz:Int))) (total:Int))*(ch:Int))=((en*ch:Nat):Int):=by
   rw[a0C (n:=(st:Int)+(sz:Int)) (by omega),b3k,show min ((st:Int)+(sz:Int)) (total:Int)=(en:Int)from by omega,←a52,a0C (by omega)]
  have q2:wrap .i64 ((st:Int)*(ch:Int))=((st*ch:Nat):Int):=by grind[a0C]
  have L:decide ((0:Int)≤((en*ch:Nat):Int))=true:=decide_eq_true (a03 _);have M:decide (((en*ch:Nat):Int)≤((l.length:Nat):Int))=true:=decide_eq_true (by omega);have N:decide ((0:Int)≤((st*ch:Nat):Int))=true:=decide_eq_true (a03 _);have O:decide (((st*ch:Nat):Int)≤((en*ch:Nat):Int))=true:=decide_eq_true (by omega);have R:a31 (st*ch) (a30 (en*ch) l)=a1h l ch st en:=rfl;have n0:((0:Int) != 0)=false:=rfl;have w1:wrap .i64 ((((a0S done).length:Nat):Int)+((p.length:Nat):Int))=(((a0S (done++[x])).length:Nat):Int):=by
   rw[a4o,lN,K,a0C (by omega)];rfl
  have w2:wrap .i64 ((st:Int)+(sz:Int))=((st+sz:Nat):Int):=by grind[a0C]
  refine a0F ?_
  simp only[a6a,dlt hlt,cT,a,q1,q2,L,M,N,O,a02,tN,R,v,oB,n0,cF,m1,d,c0X]
  erw[B]
  simp only[oB,a6W,a07,a0W (show done.length+1<2147483648 by omega),cT,w1,w2];simp_all[a2e,b3j,b5h]
  grind
theorem b8J{l:List Int}(a:l.length≤10000){fm:a0M}(f:4≤fm.2.2.1∧fm.2.2.1≤24)(sz effort h:Int):∀(rest done:List Int),done++rest=l→rest.all (fun x=>a1n x fm.2.2.1)=true→
  y0s a5Z (l,sz,effort,h,l,(l.length:Int),(done.length:Int),fm,())=some (.inl (l,sz,effort,h,fm,()))
 | [],done,hd,_=>by
  obtain rfl:done=l:=by simp_all
  simp_all[a0E,a5Z]
 |x::rest,done,hd,hfit=>by
  have g:done.length<l.length:=by grind
  have k:m0k l (done.length:Int)=some x:=by grind[a0D]
  simp only[a36,bA]at hfit;rw[a0F (s':=(l,sz,effort,h,l,(l.length:Int),(((done++[x]).length:Nat):Int),fm,())) (by
   simp only[a5Z,dlt g,cT,k,oB,b4b f,hfit.1,bT,cF,a0B (show done.length<1000000 by omega)]
   simp)]
  exact b8J a f sz effort h rest (done++[x]) (by simp_all) hfit.2
theorem c7X{fm:a0M}(f:a3X fm){ch:Nat}(g:fm.2.1=(ch:Int)){l:List Int}{total sz:Nat}(a:l.length=total*ch)(d:total≤200)(A:1≤sz∧sz≤64)(h:l.all (fun x=>a1n x fm.2.2.1)=true){effort:Int}(w:0≤effort)(y:effort≤3):
  ∃xs,b7C fm l ch sz total effort 0 xs∧a2K fm 0 xs∧a0L xs=total∧a1N xs=l∧xs.length≤256∧a6o (fm,l,(sz:Int),effort)=some (a1T fm xs,0):=by
 obtain⟨xs,B,b,i,j,m⟩:=c9m f g a d A h w y 200 0 [] (by omega) (by rfl) (by simp[a1N]) trivial (by simp) (by omega);rw[a09]at b i j m;have e:xs.length≤256:=by grind[b4F]
 obtain⟨E,F,G,H,u,v⟩:=id f;have c:1≤ch∧ch≤8:=by omega
 have z:l.length≤200*8:=by rw[a];exact a08 d c.2
 have k:=b8J (l:=l) (fm:=fm) (by omega) ⟨u,v⟩ (sz:Int) effort (total:Int) l [] rfl h;have o:decide ((sz:Int)<1)=false:=by grind
 have p:decide ((sz:Int) > 4096)=false:=by grind
 have q:decide (effort<0)=false:=by simp_all
 have r:decide (effort > 3)=false:=by simp_all
 have c0:((ch:Int)==0)=false:=by grind
 have C:a38 ((l.length:Nat):Int) (ch:Int)=0:=by
  simp_all
 have D:wrap .i64 (a19 ((l.length:Nat):Int) (ch:Int))=(total:Int):=by
  rw[show a19 ((l.length:Nat):Int) (ch:Int)=((l.length / ch:Nat):Int)from rfl,a,a57 _ c.1,a0C (by omega)]
 have s:decide ((total:Int) > 4194304)=false:=by grind
 have s0:((sz:Int)==0)=false:=by grind
 have t:decide ((wrap .i64 (a19 (wrap .i64 ((wrap .i64 ((total:Int)+(sz:Int)))-(1:Int))) (sz:Int))) > (4096:Int))=false:=by
  rw[a0C (n:=(total:Int)+(sz:Int)) (by omega),a0C (n:=(total:Int)+(sz:Int)-1) (by omega),show((total:Int)+(sz:Int)-1)=((total+sz-1:Nat):Int)from by omega,show a19 ((total+sz-1:Nat):Int) (sz:Int)=(((total+sz-1) / sz:Nat):Int)from rfl];have K:=a64 (total+sz-1) sz
  grind[a0C]
 have I:c0X fm total xs=mkT fm xs:=by simp_all[c0X,mkT]
 have hp:=c7W f b e;refine⟨xs,B,b,i,j,e,?_⟩;unfold a6o;simp only[a4z,f,decide_true,oB,bT,cF,o,p,q,r,g,c0,C,show((0:Int) != 0)=false from rfl,D,s,s0,t]
 erw[k]
 simp
 erw[m]
 simp_all
theorem c4t(f:a0M):b2a f=some (decide (a3X f)):=by
 unfold b2a a3X
 grind
def crE(s:BitVec 16):BitVec 16:=bif s.msb then(s <<< 1) ^^^ 32773#16 else s <<< 1
theorem c5r(s t:BitVec 16):crE (s ^^^ t)=crE s ^^^ crE t:=by
 unfold crE;rw[BitVec.msb_xor,BitVec.shiftLeft_xor_distrib];cases s.msb<;>cases t.msb<;>simp only[cT,cF,Bool.xor_true,Bool.xor_false,bT,a40];rw[a20];rw[a20,a20,a66 (t <<< 1)];rw[a20,a66 32773#16,a20,BitVec.xor_self,a94]
theorem c9n{s:BitVec 16}(h:crE s=0):s=0:=by
 unfold crE at h;cases hm:s.msb with
 |true=>
  rw[hm,cT]at h
  have:=congrArg (fun x=>a73 x 0) h
  simp at this
 |false=>
  rw[hm,cF]at h;refine a63 fun i hi=>?_
  by_cases h15:i=15
  subst h15;rw[a60]at hm;simpa using hm
  have:=congrArg (fun x=>a73 x (i+1)) h
  simp at this;simpa using this (by omega)
theorem d4B:crE 0=0:=by decide
theorem b9k{s:BitVec 16}:∀{n:Nat},rep crE n s=0→s=0
 |0,h=>h
 |n+1,h=>c9n (b9k (n:=n) h)
theorem d0I:∀n:Nat,rep crE n 0=0
 |0=>rfl
 |n+1=>by
  show rep crE n (crE 0)=0;rw[d4B,d0I n]
def crB(b:Bool):BitVec 16:=bif b then 32768#16 else 0#16
def crS(s:BitVec 16)(b:Bool):BitVec 16:=crE (s ^^^ crB b)
def crT:List Bool→BitVec 16
 | []=>0#16
 |b::w=>crB b ^^^ (crT w >>> 1)
theorem d1B(b:Bool)(j:Nat):(crB b).getLsbD j=(b&&decide (j=15)):=by
 cases b with
 |false=>simp[crB]
 |true=>
  simp only[crB,cT,a61];rw[show(32768#16)=BitVec.ofNat 16 (2^15)from rfl,BitVec.getLsbD_ofNat,Nat.testBit_two_pow]
  by_cases h:j=15
  subst h;rfl;rw[decide_eq_false (by omega:¬ (15=j)),decide_eq_false h,Bool.and_false]
theorem b7M:∀(w:List Bool)(j:Nat),(crT w).getLsbD j=(decide (j<16)&&w.getD (15-j) false)
 | [],j=>by simp[crT]
 |b::w,j=>by
  rw[crT,BitVec.getLsbD_xor,d1B,a35,b7M w]
  by_cases h:j=15
  subst h;simp
  by_cases h2:j<16
  rw[show 15-j=(15-(1+j))+1 from by omega,a81];simp[h,h2,show 1+j<16 from by omega];simp[h,h2,show ¬ (1+j<16)from by omega]
theorem c9o{w:List Bool}(h:w.length≤15):crE (crT w >>> 1)=crT w:=by
 have f:(crT w >>> 1).msb=false:=by
  rw[a60,a35,b7M];simp
 unfold crE;rw[f,cF];refine a63 fun i hi=>?_
 rw[BitVec.getLsbD_shiftLeft,a35];cases i with
 |zero=>
  have g:(crT w).getLsbD 0=false:=by
   rw[b7M,lD,List.getElem?_eq_none (by omega)];rfl
  rw[g];simp
 |succ i=>rw[show 1+(i+1-1)=i+1 from by omega];simp[hi]
theorem d2J:∀(w:List Bool)(s:BitVec 16),w.length≤16→w.foldl crS s=rep crE w.length (s ^^^ crT w)
 | [],s,_=>by simp[crT,rep]
 |b::w,s,h=>by
  rw[lC]at h;rw[a67,d2J w _ (by omega),crT,←a20];show _=rep crE w.length (crE (s ^^^ crB b ^^^ (crT w >>> 1)));rw[c5r,c9o (by omega)];rfl
theorem c4u{α:Type}(f g:α→Bool):∀(L:List α)(s t:BitVec 16),(L.map fun j=>xor (f j) (g j)).foldl crS (s ^^^ t)=(L.map f).foldl crS s ^^^ (L.map g).foldl crS t
 | [],_,_=>rfl
 |a::L,s,t=>by
  simp only[a24,a67];rw[←c4u f g L];congr 1;unfold crS;rw[←c5r];congr 1
  have:crB (xor (f a) (g a))=crB (f a) ^^^ crB (g a):=by cases f a<;>cases g a<;>rfl
  rw[this];simp only[a20];rw[←a20 t,a66 t,a20]
theorem b6t:∀(n:Nat)(s:BitVec 16),(a06 n false).foldl crS s=rep crE n s
 |0,_=>rfl
 |n+1,s=>by
  rw[List.replicate_succ,a67,b6t n];show rep crE n (crE (s ^^^ 0#16))=rep crE n (crE s);rw[a94]
theorem d4C{w:List Bool}(h:w.length≤16)(f:true∈w)(k m:Nat):(a06 k false++(w++a06 m false)).foldl crS 0≠0:=by
 rw[a43,a43,b6t,b6t,d0I,d2J w _ h];intro e;have e:=b9k (b9k e);have e:crT w=0:=by simpa using e
 obtain⟨i,hi,g⟩:=List.mem_iff_getElem.1 f
 have:=b7M w (15-i)
 rw[e,show 15-(15-i)=i from by omega,lD,lG hi,g]at this;simp at this;omega
def byb(c:Int):List Bool:=[7,6,5,4,3,2,1,0].map fun i=>c.toNat.testBit i
def b7N(p:List Int):List Bool:=p.flatMap byb
def c1A(f t:Nat)(r:List Int):List Int:=a31 f (a30 t r)
def b9l(b:a1e)(f t:Nat):a1e:=(b.1,b.2.1.map (c1A f t),())
theorem d2K{b:a1e}(hb:a2J b){f t:Nat}(r:f<t)(s:t≤a0T b):b1Z (b,(f:Int),(t:Int),())=some (b9l b f t,0):=by
 obtain⟨o,-⟩:=b4c hb;have c:decide ((f:Int)<0)=false:=by simp only[decide_eq_false_iff_not];omega
 have d:decide ((f:Int)≥(t:Int))=false:=by simp only[decide_eq_false_iff_not];omega
 have e:decide ((t:Int) > ((a0T b:Nat):Int))=false:=by simp only[decide_eq_false_iff_not];omega
 have u:=hb.2.2.2.2.2.1;have h:=a1G (f:=a8K) (β:=a1e×(a1e×Unit)) b.2.1 (fun i (a:List (List Int))=>(b.2.1,((b.2.1.length:Nat):Int),(i:Int),((0:Int),([]:List (List Int)),()),(b.1,a,()),((f:Int),(t:Int),()),())) (fun a x=>.inl (a++[c1A f t x])) (fun i a=>a.length=i) (fun a=>(((0:Int),([]:List (List Int)),()),(b.1,a,()),()))
  (fun i hi a k=>⟨fun q g=>by
   simp only[Sum.inl.injEq]at g;subst g;have v:=(o _ (a26 hi)).1;have j:decide ((0:Int)≤(t:Int))=true:=by simp
   have l:decide ((t:Int)≤((b.2.1[i].length:Nat):Int))=true:=by simp only[dT];omega
   have m:decide ((0:Int)≤(f:Int))=true:=by simp
   have n:decide ((f:Int)≤(t:Int))=true:=by simp only[dT];omega
   have p:=hb.2.2.2.1;refine⟨?_,by simp[k]⟩;simp only[a8K,dlt hi,cT,a0D hi,oB,tN,j,l,m,n,a02];rw[b3f (show short (a31 f (a30 t b.2.1[i]))by unfold short;rw[a29,a22];omega)];simp only[oB];rw[a0W (show a.length+1<2147483648 by omega),cT,a0B (show i<1000000 by omega)];rfl,fun b hb=>by cases hb⟩)
  (fun a k=>by simp only[a8K,dge,cF]) (a:=[]) rfl
 rw[b1C (fun x:List Int=>[c1A f t x])]at h;simp only[nZ,a8d,c3Z,a09]at h;unfold b1Z;simp only[a6A,decide_eq_true hb,oB,bT,cF,c,d,a4R,e]
 erw[h]
 rfl
theorem c5s{b:a1e}(hb:a2J b){f t:Nat}(g:f<t)(k:t≤a0T b):a0T (b9l b f t)=t-f:=by
 unfold a0T b9l;have a:=hb.2.2.1;have h:0<b.2.1.length:=by omega
 have c:a0T b=(b.2.1[0]).length:=by unfold a0T;rw[b4D (d:=[]) h]
 rw[←b4D (d:=[]) (show 0<(b.2.1.map (c1A f t)).length by simpa using h)];simp only[List.getElem_map,c1A,a29,a22];omega
theorem d2L{b:a1e}(hb:a2J b){f t:Nat}(e:f<t)(i:t≤a0T b):a2J (b9l b f t):=by
 have j:=c5s hb e i;obtain⟨g,k,a,c,o,p,d⟩:=hb;refine⟨g,k,by simpa[b9l]using a,by simpa[b9l]using c,by omega,by omega,lA.2 fun r l=>?_⟩;obtain⟨n,h,rfl⟩:=a39.1 l
 have:=lA.1 d n h
 simp only[bA,dT]at this;simp only[bA,dT];refine⟨by rw[j];simp only[c1A,a29,a22];omega,lA.2 fun x m=>lA.1 this.2 x (a74 (a75 m))⟩
def dead(T:List Int)(a:Int):List Int×(Int×Int×Unit):=(T,a,(3:Int),())
def d2M(c:Int):Prop:=0≤c∧c<256
def a9S(p:List Int)(j:Nat):Bool:=(p.getD (j / 8) 0).toNat.testBit (7-j%8)
theorem b9m:∀p:List Int,b7N p=(a04 (8*p.length)).map (a9S p)
 | []=>rfl
 |c::p=>by
  have e:b7N (c::p)=byb c++b7N p:=rfl;rw[e,b9m p,lC,show 8*(p.length+1)=8+8*p.length from by omega,a42,pA,a34];congr 1;refine a25 fun j _=>?_
  show a9S p j=a9S (c::p) (8+j);unfold a9S;rw[show(8+j) / 8=j / 8+1 from by omega,a81,show(8+j)%8=j%8 from by omega]
structure Turn (b k i:Nat) (p0 p:List Int) (sm:Bool):Prop where
 len:p.length=p0.length
 ok:∀c∈p,d2M c
 bit:∀j,a9S p j=xor (a9S p0 j) (decide (k≤j∧j<k+i)&&b.testBit (j-k))
 smk:sm=true↔∃t,t<i∧b.testBit t=true
 pre:p.take (k / 8)=p0.take (k / 8)
 same:sm=false→p=p0
theorem turned{b k:Nat}{p0 q:List Int}{s:Bool}(w:k<8*p0.length)(i:(b7N p0).foldl crS 0=0)(g:Turn b k (min 16 (8*p0.length-k)) p0 q s)(u:s=true):(b7N q).foldl crS 0≠0:=by
 obtain⟨n,r⟩:∃n,min 16 (8*p0.length-k)=n:=⟨_,rfl⟩;rw[r]at g;have e:b7N q=(a04 (8*p0.length)).map fun j=>xor (a9S p0 j) (decide (k≤j∧j<k+n)&&b.testBit (j-k)):=by
  rw[b9m,g.len];exact a25 fun j _=>g.bit j
 have h:=c4u (a9S p0) (fun j=>decide (k≤j∧j<k+n)&&b.testBit (j-k)) (a04 (8*p0.length)) 0 0;have a:∀x:BitVec 16,(0:BitVec 16) ^^^ x=x:=fun _=>BitVec.zero_xor;rw[a,←e,←b9m,i,a]at h;rw[h];obtain⟨m,p⟩:∃m,8*p0.length=k+(n+m):=⟨8*p0.length-k-n,by omega⟩;rw[p,a42,a42,pA,pA,pA,a34,a34,a34];have c:(a04 k).map (fun j=>decide (k≤j∧j<k+n)&&b.testBit (j-k))=a06 k false:=by
  rw[a71];refine⟨by simp,fun x f=>?_⟩;obtain⟨j,o,rfl⟩:=a39.1 f
  grind
 have d:(a04 m).map (((fun j=>decide (k≤j∧j<k+n)&&b.testBit (j-k))∘(k+·))∘(n+·))=a06 m false:=by
  rw[a71];refine⟨by simp,fun x f=>?_⟩;obtain⟨j,o,rfl⟩:=a39.1 f
  grind
 rw[c,d];refine d4C (by simp;omega) ?_ k m;obtain⟨t,l,v⟩:=g.smk.1 u;refine a39.2 ⟨t,a41.2 l,?_⟩;simp_all
theorem c7Y(l:List Int):b4m (l,l)=some true:=by
 simp_all[b4m]
set_option maxRecDepth 100000 in
theorem d1C:b4W ()=some true:=by kernel_rfl
theorem c7Z(f:a0M)(l:List Int)(m:Nat)(p:m≤1000):∃t,b2Z (f,l,(m:Int))=some t∧(t=true→a3X f∧l.length≤m∧l.all (fun x=>a1n x f.2.2.1)=true∧∃ch n:Nat,f.2.1=(ch:Int)∧l.length=n*ch):=by
 unfold b2Z;simp only[c4t,oB]
 by_cases hf:a3X f
 ·simp only[hf,decide_true,bT,cF];cases hd:decide (((l.length:Nat):Int) > (m:Int))with
  |true=>exact⟨false,rfl,fun h=>by cases h⟩
  |false=>
   have k:l.length≤m:=by simp at hd;omega
   obtain⟨d,e,j,o,a,b⟩:=id hf;obtain⟨ch,g⟩:∃ch:Nat,f.2.1=(ch:Int):=⟨f.2.1.toNat,by omega⟩;have c0:((ch:Int)==0)=false:=by simp;omega
   have tm:a38 ((l.length:Nat):Int) (ch:Int)=((l.length%ch:Nat):Int):=rfl;simp only[cF,g,c0,tm,oB];cases c:(((l.length%ch:Nat):Int) != 0)with
   |true=>exact⟨false,rfl,fun h=>by cases h⟩
   |false=>
    have c:l.length%ch=0:=by simp at c;omega
    have h:=a1S (f:=a7n) l (fun i=>(l,(i:Int),f,())) (fun x=>a1n x f.2.2.1) (bt:=Sum.inl ()) (bf:=Sum.inr (false,()))
     (fun i hi hp=>by simp only[a7n,dlt hi,cT,a0D hi,oB,b7u ⟨a,b⟩,hp,bT,cF,a0B (show i<1000000 by omega)])
     (fun i hi hp=>by simp only[a7n,dlt hi,cT,a0D hi,oB,b7u ⟨a,b⟩,hp,a40])
     (by simp only[a7n,dge,cF])
    simp only[cF]
    erw[h]
    cases ha:l.all (fun x=>a1n x f.2.2.1)with
    |true=>exact⟨true,rfl,fun _=>⟨trivial,k,rfl,ch,l.length / ch,rfl,by have:=Nat.div_add_mod l.length ch;rw[a62];omega⟩⟩
    |false=>exact⟨false,rfl,fun h=>by cases h⟩
 simp only[hf,decide_false,a40,cT];exact⟨false,rfl,fun h=>by cases h⟩
theorem d1D{fm:a0M}(b:a3X fm){ch:Nat}(g:fm.2.1=(ch:Int)){l:List Int}{total:Nat}(i:l.length=total*ch)(j:total≤200)(h:l.all (fun x=>a1n x fm.2.2.1)=true)(size effort:Int):
  ∃(sz:Nat)(eff:Int)(xs:List Pc),1≤sz∧sz≤64∧wrap .i64 (1+bits .i64 .and size 63)=(sz:Int)∧bits .i64 .and effort 3=eff∧0≤eff∧eff≤3∧b7C fm l ch sz total eff 0 xs∧a2K fm 0 xs∧a0L xs=total∧a1N xs=l∧xs.length≤256∧
   b3a (fm,l,size,effort)=some (a1T fm xs,mkT fm xs,true):=by
 obtain⟨v,hv,f⟩:=c6K 6 (by omega) size;obtain⟨w,k,a⟩:=c6K 2 (by omega) effort;rw[show((2^6-1:Nat):Int)=63 from rfl]at hv;rw[show((2^2-1:Nat):Int)=3 from rfl]at k;have m:v<64:=f;have n:w<4:=a;have c:wrap .i64 (1+(v:Int))=((v+1:Nat):Int):=by rw[a0C (by omega)];omega
 obtain⟨xs,o,d,p,q,e,r⟩:=c7X b g i j (sz:=v+1) (by omega) h (effort:=(w:Int)) (by omega) (by omega);refine⟨v+1,w,xs,by omega,by omega,by rw[hv];exact c,k,by omega,by omega,o,d,p,q,e,?_⟩;unfold b3a;simp only[hv,k,c,r,oB,c6V b d e,beq_self_eq_true,cT]
def prP(ch:Nat)(x:Pc):Prop:=x.2.1.2.1=a1M (wvB x.2.1) ch∧(wvB x.2.1).length=a0T x.2.1*ch
theorem c5t{fm:a0M}{ch:Nat}(g:1≤ch){l:List Int}{sz total:Nat}(a:l.length=total*ch)(c:1≤sz){k:Int}:∀(xs:List Pc)(st:Nat),b7C fm l ch sz total k st xs→∀x∈xs,prP ch x
 | [],_,_,x,hx=>by simp at hx
 |y::ys,st,⟨a1,a2,a3,a4,a5⟩,x,hx=>by
  rcases mC.1 hx with rfl|hx;have h:=b7y (l:=l) (ch:=ch) (st:=st) (en:=min (st+sz) total) (by rw[a];exact a01 _ (by omega));have b:=c5m (w:=fm.2.2.1) h g;have f:=b4d (w:=fm.2.2.1) h g;refine⟨?_,?_⟩;rw[a2,b];rfl;rw[a2,b,f,h];exact c5t g a c ys _ a5 x hx
theorem d2N{b:a1e}{ch f t:Nat}(hb:a2J b)(k:b.2.1=a1M (wvB b) ch)(c:(wvB b).length=a0T b*ch)(e:f<t)(g:t≤a0T b):wvB (b9l b f t)=a1h (wvB b) ch f t:=by
 have h:=d2w (d:=wvB b) (ch:=ch) (a:=f) c g;rw[←k]at h;unfold a1h;rw[←h];unfold wvB;rw[c5s hb e g];rfl
def okP(a b:Nat):Nat→List (Pc×List Int)→Prop
 |_,[]=>True
 |st,z::zs=>z.2.length=z.1.2.2.length∧(a<b→a<st+a0T z.1.2.1→st<b→z.2=z.1.2.2)∧okP a b (st+a0T z.1.2.1) zs
def a0J(zs:List (Pc×List Int)):List Pc:=zs.map (·.1)
def a3h(zs:List (Pc×List Int)):List Int:=zs.flatMap (·.2)
theorem c2t(h:List (Pc×List Int))(z:Pc×List Int):a0J (h++[z])=a0J h++[z.1]:=by simp[a0J]
theorem b4I{l:List Int}{ch a b:Nat}(h:b≤a):a1h l ch a b=[]:=by
 unfold a1h;rw[List.drop_eq_nil_iff,a22];exact Nat.le_trans (Nat.min_le_left _ _) (a01 _ h)
theorem c8a{l:List Int}{ch a m b:Nat}(f:a≤m)(g:m≤b)(e:b*ch≤l.length):a1h l ch a m++a1h l ch m b=a1h l ch a b:=by
 have c:a*ch≤m*ch:=a01 _ f;have d:m*ch≤b*ch:=a01 _ g;have h:=c2n (l:=l) (ch:=ch) g;have k:a*ch≤(l.take (m*ch)).length:=by rw[a22];omega
 have h:=congrArg (a31 (a*ch)) h;rw[List.drop_append_of_le_length k]at h;exact h
theorem c9p{A w C:List Int}{ch st k f t:Nat}(h:A.length=st*ch)(b:w.length=k*ch)(g:t≤k):a1h (A++(w++C)) ch (st+f) (st+t)=a1h w ch f t:=by
 unfold a1h;have a:t*ch≤k*ch:=a01 _ g;rw[a48,a48,←h,List.take_length_add_append,List.drop_length_add_append,List.take_append_of_le_length (by omega)]
theorem b7D{ch:Nat}:∀{xs:List Pc},(∀x∈xs,prP ch x)→(a1N xs).length=a0L xs*ch
 | [],_=>by simp[a1N,a0L]
 |x::xs,hp=>by
  have g:=b7D (xs:=xs) fun y h=>hp y (by simp[h])
  have:=(hp x (by simp)).2
  simp only[a1N,a0L,a28,lN,a24,List.sum_cons,a48]at g⊢;omega
theorem c2u{fm:a0M}{ch:Nat}(hc:1≤ch∧ch≤8){all:List (Pc×List Int)}(s:all.length≤256){B Hd:List Int}(hl:B.length<1000000000){pl:b6s}(hp:pl.1=fm)(M:pl.2.1=a1F (a0J all))(k:pl.2.2.1=a3N (a0J all)){a b:Nat}(X:a≤b)
  {D:List Int}(U:D=a1N (a0J all))(l:a2K fm 0 (a0J all))(c:∀x∈a0J all,prP ch x):∀(rest done tail:List (Pc×List Int)) (Z:List Int),done++(rest++tail)=all→B=Hd++(a3h done++(a3h rest++Z))→a2K fm (a0L (a0J done)) (a0J rest)→okP a b (a0L (a0J done)) rest→
  (a3h done).length=(a0S (a0J done)).length→
  y0s a2n (B,((Hd.length+(a3h done).length:Nat):Int),((a0L (a0J done):Nat):Int),a1F (a0J all),(all.length:Int),(done.length:Int),a1h D ch a (min b (a0L (a0J done))),pl,((a:Int),(b:Int),()),()) =
   y0s a2n (B,((Hd.length+(a3h (done++rest)).length:Nat):Int),((a0L (a0J (done++rest)):Nat):Int),a1F (a0J all),(all.length:Int),((done++rest).length:Int),a1h D ch a (min b (a0L (a0J (done++rest)))),pl,((a:Int),(b:Int),()),())
 | [],done,tail,Z,_,_,_,_,_=>by rw[a65]
 |z::rest,done,tail,Z,hd,hB,hr,hok,hlb=>by
  obtain⟨S,g0⟩:=hr;obtain⟨O,g1,g2⟩:=hok;rw[a44]at hd;have K:done.length<all.length:=by rw[←hd];simp
  have g:a0J all=a0J done++z.1::a0J (rest++tail):=by rw[←hd];simp[a0J]
  have h0:(a0J done).length=done.length:=by simp[a0J]
  have R:=c4s (done:=a0J done) (rest:=a0J (rest++tail)) z.1;have d:=c5q (done:=a0J done) (rest:=a0J (rest++tail)) z.1;rw[←g,h0]at R d;have m:B=(Hd++a3h done)++(z.2++(a3h rest++Z)):=by rw[hB];simp[a3h]
  have k0:Hd.length+(a3h done).length+z.2.length≤B.length:=by rw[m];simp;omega
  obtain⟨h1,h2,h3,h4,h5,h6,Q,h8,h9,g7,g9⟩:=id S;have r:=c z.1 (by rw[g];simp);have k3:=b4F l;have g4:(a0J all).length=all.length:=by simp[a0J]
  have g6:a0L (a0J all)=a0L (a0J done)+(a0T z.1.2.1+a0L (a0J (rest++tail))):=by rw[g];simp[a0L]
  have y:D.length=a0L (a0J all)*ch:=by rw[U];exact b7D c
  have g3:D.length≤16384*8:=by rw[y];exact a08 (by omega) hc.2
  have L:∀u v:Nat,u≤v→v≤a0L (a0J all)→v*ch≤D.length:=fun u v _ h=>by rw[y];exact a01 _ h
  have g5:=Q.2.2.2.2.1

  have n:a0L (a0J (done++[z]))=a0L (a0J done)+a0T z.1.2.1:=by rw[c2t,a3C]
  have E:(a3h (done++[z])).length=(a3h done).length+z.2.length:=by simp[a3h]
  have w1:wrap .i64 (((a0L (a0J done):Nat):Int)+((a0T z.1.2.1:Nat):Int))=((a0L (a0J done)+a0T z.1.2.1:Nat):Int):=by rw[a0C (by omega)];omega
  have w2:wrap .i64 (((Hd.length+(a3h done).length:Nat):Int)+((z.1.2.2.length:Nat):Int))=((Hd.length+(a3h (done++[z])).length:Nat):Int):=by rw[E,←O,a0C (by omega)];omega
  have mx:v0r (a:Int) ((a0L (a0J done):Nat):Int)=((max a (a0L (a0J done)):Nat):Int):=by rw[b7G];omega
  have mn:v0s (b:Int) ((a0L (a0J done)+a0T z.1.2.1:Nat):Int)=((min b (a0L (a0J done)+a0T z.1.2.1):Nat):Int):=by rw[b3k];omega
  have P:a2n (B,((Hd.length+(a3h done).length:Nat):Int),((a0L (a0J done):Nat):Int),a1F (a0J all),(all.length:Int),(done.length:Int),a1h D ch a (min b (a0L (a0J done))),pl,((a:Int),(b:Int),()),()) =
    some (.inl (B,((Hd.length+(a3h (done++[z])).length:Nat):Int),((a0L (a0J (done++[z])):Nat):Int),a1F (a0J all),(all.length:Int),(((done++[z]).length:Nat):Int),a1h D ch a (min b (a0L (a0J (done++[z])))),pl,((a:Int),(b:Int),()),())):=by
   rw[n]
   by_cases hq:max a (a0L (a0J done))<min b (a0L (a0J done)+a0T z.1.2.1)
   have ez:z.2=z.1.2.2:=g1 (by omega) (by omega) (by omega);have hg:=b8H S (by rw[m,ez]) hl hp (i:=(done.length:Int)) (by rw[M];exact R) (by rw[k];exact d);rw[lN]at hg;obtain⟨f,I⟩:∃f,max a (a0L (a0J done))=a0L (a0J done)+f:=⟨max a (a0L (a0J done))-a0L (a0J done),by omega⟩;obtain⟨t,N⟩:∃t,min b (a0L (a0J done)+a0T z.1.2.1)=a0L (a0J done)+t:=⟨min b (a0L (a0J done)+a0T z.1.2.1)-a0L (a0J done),by omega⟩;rw[I,N]at hq;have o:f<t:=by omega
   have j:t≤a0T z.1.2.1:=by omega
   have c1:wrap .i64 (((a0L (a0J done)+f:Nat):Int)-((a0L (a0J done):Nat):Int))=(f:Int):=by rw[a0C (by omega)];omega
   have c2:wrap .i64 (((a0L (a0J done)+t:Nat):Int)-((a0L (a0J done):Nat):Int))=(t:Int):=by rw[a0C (by omega)];omega
   have H:=d2K Q o j;have q:=c4o (d2L Q o j);rw[d2N Q r.1 r.2 o j]at q;have V:D=a1N (a0J done)++(wvB z.1.2.1++a1N (a0J (rest++tail))):=by rw[U,g];simp[a1N]
   have Y:(a1N (a0J done)).length=a0L (a0J done)*ch:=b7D fun x S=>c x (by rw[g];simp[S]);have G:=c9p (A:=a1N (a0J done)) (w:=wvB z.1.2.1) (C:=a1N (a0J (rest++tail))) (f:=f) Y r.2 j;rw[←V]at G;rw[←G]at q;have F:a1h D ch a (min b (a0L (a0J done)))++a1h D ch (a0L (a0J done)+f) (a0L (a0J done)+t)=a1h D ch a (a0L (a0J done)+t):=by
    by_cases ha:a≤a0L (a0J done)
    rw[show f=0 from by omega,show min b (a0L (a0J done))=a0L (a0J done)+0 from by omega];exact c8a (by omega) (by omega) (L 0 _ (by omega) (by omega));rw[b4I (b:=min b (a0L (a0J done))) (by omega),show a0L (a0J done)+f=a from by omega,a09]
   have T:decide (((a0L (a0J done)+f:Nat):Int)<((a0L (a0J done)+t:Nat):Int))=true:=decide_eq_true (by omega);have k1:(a1h D ch a (min b (a0L (a0J done)))).length≤131072:=by unfold a1h;rw[a29,a22];omega
   have k2:(a1h D ch (a0L (a0J done)+f) (a0L (a0J done)+t)).length≤131072:=by unfold a1h;rw[a29,a22];omega
   simp only[a2n,dlt K,cT,R,k,d,oB,w1,mx,mn,I,N,T]
   erw[hg]
   simp only[oB,show((0:Int) != 0)=false from rfl,cF,c1,c2,H,q,a0W (show(a1h D ch a (min b (a0L (a0J done)))).length+(a1h D ch (a0L (a0J done)+f) (a0L (a0J done)+t)).length<2147483648 by omega),cT,w2,a0B (show done.length<1000000 by omega)];rw[a72,F]
   simp
   have T:decide (((max a (a0L (a0J done)):Nat):Int)<((min b (a0L (a0J done)+a0T z.1.2.1):Nat):Int))=false:=decide_eq_false (by omega);have p:a1h D ch a (min b (a0L (a0J done)))=a1h D ch a (min b (a0L (a0J done)+a0T z.1.2.1)):=by
    by_cases e:min b (a0L (a0J done))=min b (a0L (a0J done)+a0T z.1.2.1)
    rw[e];rw[b4I (by omega),b4I (by omega)]
   simp only[a2n,dlt K,cT,R,k,d,oB,w1,mx,mn,T,cF,w2,a0B (show done.length<1000000 by omega),p]
   simp
  rw[a0F P,a92 done z rest];exact c2u hc s hl hp M k X U l c rest (done++[z]) tail Z (by simpa using hd) (by rw[m];simp[a3h]) (by rw[n];exact g0) (by rw[n];exact g2) (by rw[E,hlb,c2t,a4o,lN,O])
theorem c2v{a b:Nat}:∀(zs:List (Pc×List Int)) (st:Nat),okP a b st zs→(a3h zs).length=(a0S (a0J zs)).length
 | [],_,_=>rfl
 |z::zs,st,⟨h1,_,h3⟩=>by
  have:=c2v zs _ h3
  simp only[a3h,a0S,a0J,a24,a28,lN]at this⊢;omega
theorem d1E{fm:a0M}(m:a3X fm){ch:Nat}(s:1≤ch∧ch≤8){zs:List (Pc×List Int)}{xs:List Pc}(u:a0J zs=xs)(k:a2K fm 0 xs)(g:xs.length≤256)(j:∀x∈xs,prP ch x){a b:Nat}(c:a≤b)(hb:b≤a0L xs)(f:okP a b 0 zs):
  a6q (a1a fm xs++(a4j 4 (a2z (a1a fm xs))++a3h zs),(a:Int),(b:Int),())=some (a1h (a1N xs) ch a b,0):=by
 subst u;have l:(a0J zs).length=zs.length:=by simp[a0J]
 have r:=c2v zs 0 f;have q:=b1a k;have v:=b4H m k g;have t:=b8I m k g (R:=a3h zs) (by omega);have e:(a1a fm (a0J zs)++a4j 4 (a2z (a1a fm (a0J zs)))).length=(a1a fm (a0J zs)).length+4:=by simp[a4T]
 have h:=c2u (fm:=fm) s (all:=zs) (by omega) (B:=a1a fm (a0J zs)++(a4j 4 (a2z (a1a fm (a0J zs)))++a3h zs)) (Hd:=a1a fm (a0J zs)++a4j 4 (a2z (a1a fm (a0J zs)))) (by simp only[lN,a4T];omega)
  (pl:=b1b fm (a0J zs) (a2e fm (a0J zs)) ((a1a fm (a0J zs)).length+4)) rfl rfl rfl c rfl k j zs [] [] [] (by simp) (by simp[a3h]) k f rfl
 have d:y0s a2n (a1a fm (a0J zs)++(a4j 4 (a2z (a1a fm (a0J zs)))++a3h zs),(((a1a fm (a0J zs)++a4j 4 (a2z (a1a fm (a0J zs)))).length+(a3h zs).length:Nat):Int),((a0L (a0J zs):Nat):Int),a1F (a0J zs),(zs.length:Int),(zs.length:Int),a1h (a1N (a0J zs)) ch a (min b (a0L (a0J zs))),b1b fm (a0J zs) (a2e fm (a0J zs)) ((a1a fm (a0J zs)).length+4),((a:Int),(b:Int),()),())=some (Sum.inl (a1h (a1N (a0J zs)) ch a (min b (a0L (a0J zs))),())):=
  a0E (by simp only[a2n,dge,cF])
 rw[a09,d,b4I (b:=min b (a0L (a0J []))) (by simp[a0J,a0L]),Nat.min_eq_left hb,e]at h;have i:(a1F (a0J zs)).length=zs.length:=by simp[a1F,l]
 have n:decide ((a:Int)<0)=false:=decide_eq_false (by omega);have o:decide ((a:Int) > (b:Int))=false:=decide_eq_false (by omega);have p:decide ((b:Int) > (b1b fm (a0J zs) (a2e fm (a0J zs)) ((a1a fm (a0J zs)).length+4)).2.2.2.1)=false:=decide_eq_false (by show ¬ (b:Int) > ((a0L (a0J zs):Nat):Int);omega);unfold a6q;simp only[t,oB,show((0:Int) != 0)=false from rfl,cF,n,o,p];simp only[b1b,i]
 erw[h]
 rfl
theorem c8b(xs:List Pc):a0J (xs.map fun x=>(x,x.2.2))=xs:=by simp[a0J,Function.comp_def]
theorem c8c(xs:List Pc):a3h (xs.map fun x=>(x,x.2.2))=a0S xs:=by simp[a3h,a0S,List.flatMap_map]
theorem c4v(a b:Nat):∀(xs:List Pc)(st:Nat),okP a b st (xs.map fun x=>(x,x.2.2))
 | [],_=>trivial
 |x::xs,st=>⟨rfl,fun _ _ _=>rfl,c4v a b xs _⟩
theorem d1F{fm:a0M}(d:a3X fm){ch:Nat}(c:1≤ch∧ch≤8){xs:List Pc}(e:a2K fm 0 xs)(g:xs.length≤256)(k:∀x∈xs,prP ch x){a b:Nat}(f:a≤b)(hb:b≤a0L xs):
  a6q (a1T fm xs,(a:Int),(b:Int),())=some (a1h (a1N xs) ch a b,0):=by
 have h:=d1E d c (c8b xs) e g k f hb (c4v a b xs 0);rw[c8c]at h;exact h
theorem d1G{fm:a0M}{ch:Nat}(h:1≤ch){l:List Int}{sz total st:Nat}(g:l.length=total*ch){x:Pc}(f:x.2.1=a7r fm.2.2.1 (a1h l ch st (min (st+sz) total)) ch):a0T x.2.1=min (st+sz) total-st:=by
 rw[f];exact b4d (b7y (by rw[g];exact a01 _ (by omega))) h
theorem c2w{fm:a0M}{ch:Nat}(i:1≤ch){l:List Int}{sz total:Nat}(o:l.length=total*ch)(u:total≤200)(t:1≤sz){k:Int}{all:List Pc}(g:all.length≤256){p:Nat}(hp:p≤200):∀(rest done:List Pc)(st:Nat),done++rest=all→st=done.length*sz→b7C fm l ch sz total k st rest→(st≤p∨total≤p)→
  y0s a5u ((p:Int),all.map (·.1),((all.map (·.1)).length:Int),(done.length:Int),())=some (if p<total then .inr (((p / sz:Nat):Int),(0:Int),())else .inl ())
 | [],done,st,hd,hst,j,hq=>by
  obtain rfl:done=all:=by simpa using hd
  have j:total≤st:=j;rw[if_neg (by omega)];exact a0E (by simp only[a5u,a07,dge,cF])
 |x::rest,done,st,hd,hst,⟨a1,a2,a3,a4,a5⟩,hq=>by
  have h:=d1G i o a2;obtain⟨a,b,v,y,z,A,B,C,D,q,r⟩:=a4;have f:done.length<(all.map (·.1)).length:=by rw[←hd];simp
  have s:done.length<all.length:=by rw[←hd];simp
  have m:m0k (all.map (·.1)) (done.length:Int)=some x.1:=by
   have:=a9R (done.map (·.1)) x.1 (rest.map (·.1))
   rw[a07]at this;rw[←hd,pA,a24];exact this
  have c:decide (x.1.1 > (p:Int))=false:=decide_eq_false (by rw[a];omega);have d:decide (x.1.2.1≤(0:Int))=false:=decide_eq_false (by rw[b,h];omega);have w:decide ((wrap .u64 ((wrap .u64 (p:Int))-(wrap .u64 x.1.1)))<(wrap .u64 x.1.2.1))=decide (p<min (st+sz) total):=by
   rw[a,b,h,a0N (n:=(p:Int)) (by omega),a0N (n:=(st:Int)) (by omega),a0N (n:=(p:Int)-(st:Int)) (by omega),a0N (by omega)];exact decide_eq_decide.2 (by omega)
  by_cases hf:p<min (st+sz) total
  rw[if_pos (by omega)];have e:p / sz=done.length:=by
   have a:done.length*sz≤p:=by omega
   have b:p<(done.length+1)*sz:=by rw[a48];omega
   exact a80 a b
  rw[e];exact a0E (by simp only[a5u,dlt f,cT,m,oB,c,d,w,hf,decide_true,cF]);rw[a0F (s':=((p:Int),all.map (·.1),((all.map (·.1)).length:Int),(((done++[x]).length:Nat):Int),())) (by
   simp only[a5u,dlt f,cT,m,oB,c,d,w,hf,decide_false,cF,a0B (show done.length<1000000 by omega)]
   simp)]
  exact c2w i o u t g hp rest (done++[x]) _ (by simpa using hd) (by rw[hst];simp[a48]) a5 (by omega)
theorem d1H{fm:a0M}{ch:Nat}(f:1≤ch){l:List Int}{sz total:Nat}(b:l.length=total*ch)(d:total≤200)(c:1≤sz){k:Int}{xs:List Pc}(g:xs.length≤256)(a:b7C fm l ch sz total k 0 xs){p:Nat}(hp:p≤200):
  a7W (mkT fm xs,(p:Int))=some (if p<total then(((p / sz:Nat):Int),0)else(0,6)):=by
 have h:=c2w f b d c g hp xs [] 0 rfl (by simp) a (.inl (by omega));unfold a7W;simp only[mkT]
 erw[h]
 by_cases hq:p<total
 rw[if_pos hq,if_pos hq];rfl;rw[if_neg hq,if_neg hq];rfl
theorem b8K{fm:a0M}{xs:List Pc}(h:xs.length≤256)(size:Int)(B:List Int)(n p:Int){t:b9h}(g:t=mkT fm xs):∀(rest done:List Pc),done++rest=xs→a2K fm (a0L done) rest→(a0S done).length≤700800*done.length→
  y0s a5b (size,B,n,p,(done.length:Int),a0S done,t,())=some (.inl (size,B,n,p,a0S xs,t,()))
 | [],done,hd,_,_=>by
  obtain rfl:done=xs:=by simpa using hd
  have d:decide ((done.length:Int)<((a05 t.2.2.2.2.1:Nat):Int))=false:=by rw[g];simp[mkT]
  exact a0E (by simp only[a5b,d,cF])
 |x::rest,done,hd,hr,hb=>by
  obtain⟨⟨k,l,m,o,c,q,r,s,u,a,b⟩,hr2⟩:=hr;have d:decide ((done.length:Int)<((a05 t.2.2.2.2.1:Nat):Int))=true:=by rw[g,←hd];simp[mkT];omega
  have e:done.length<xs.length:=by rw[←hd];simp
  have j:m0k t.2.2.2.2.1 (done.length:Int)=some x.1:=by
   have:=a9R (done.map (·.1)) x.1 (rest.map (·.1))
   rw[a07]at this;rw[g,←hd];show m0k ((done++x::rest).map (·.1)) _=_;rw[pA,a24];exact this
  have f:m0k t.2.2.2.1 (done.length:Int)=some (((a0L done:Nat):Int),(((a0S done).length:Nat):Int),()):=by
   have:=a9R (a2H 0 0 done) (((a0L done:Nat):Int),(((a0S done).length:Nat):Int),()) (a2H (a0L done+a0T x.2.1) ((a0S done).length+x.2.2.length) rest)
   rw[a6W]at this;rw[g,←hd];show m0k (a2H 0 0 (done++x::rest)) _=_;rw[b6r];simp only[a2H,a85];exact this
  have i:eqT (.pair (.int .i64) (.pair (.int .i64) .unit)) (((a0L done:Nat):Int),(((a0S done).length:Nat):Int),()) (x.1.1,(((a0S done).length:Nat):Int),())=true:=by
   rw[k];simp[eqT]
  rw[a0F (s':=(size,B,n,p,(((done++[x]).length:Nat):Int),a0S (done++[x]),t,())) (by
   simp only[a5b,d,cT,j,oB,c,show((0:Int) != 0)=false from rfl,cF,f]
   erw[i]
   simp only[bT,cF,a0W (show(a0S done).length+x.2.2.length<2147483648 by omega),cT,a0B (show done.length<1000000 by omega),a4o]
   simp)]
  exact b8K h size B n p g rest (done++[x]) (by simpa using hd) (by rw[a3C];exact hr2) (by rw[a4o];simp only[lN,a69];omega)
theorem c1B(x:a0M×(List Int×(Int×Int×Int×Int))):a9G x=some true:=by
 obtain⟨fm,l,size,effort,O,to⟩:=x;unfold a9G;simp only[d1C,oB,bT,cF];obtain⟨t,w,U⟩:=c7Z fm l 160 (by omega);rw[show((160:Nat):Int)=160 from rfl]at w;simp only[w,oB];cases t with
 |false=>rfl
 |true=>
  obtain⟨c,hl,k,ch,n,f,a⟩:=U rfl;obtain⟨f1,f2,f3,f4,f5,f6⟩:=id c;have g:1≤ch∧ch≤8:=by omega
  have b:n≤200:=Nat.le_trans (Nat.le_mul_of_pos_right n g.1) (by omega);obtain⟨sz,N,xs,E,s2,s3,s4,s5,s6,D,i,k3,k4,j,k6⟩:=d1D c f a b k size effort;have s:=c5t g.1 a E xs 0 D;obtain⟨p,hp,V⟩:=c6K 16 (by omega) O;obtain⟨q,B,X⟩:=c6K 16 (by omega) to;rw[show((2^16-1:Nat):Int)=65535 from rfl]at hp B;have c0:((ch:Int)==0)=false:=by simp;omega
  have q3:wrap .i64 (a19 ((l.length:Nat):Int) (ch:Int))=(n:Int):=by
   rw[show a19 ((l.length:Nat):Int) (ch:Int)=((l.length / ch:Nat):Int)from rfl,a,a57 _ g.1,a0C (by omega)]
  have r1:wrap .i64 ((n:Int)+1)=((n+1:Nat):Int):=by rw[a0C (by omega)];omega
  have z1:(((n+1:Nat):Int)==0)=false:=by simp;omega
  have F:a38 (p:Int) ((n+1:Nat):Int)=((p%(n+1):Nat):Int):=rfl;obtain⟨x,C⟩:∃x,p%(n+1)=x:=⟨_,rfl⟩;have Z:x<n+1:=by rw[←C];exact a18 _ (by omega)
  rw[C]at F;have r2:wrap .i64 ((wrap .i64 ((n:Int)-(x:Int)))+1)=((n-x+1:Nat):Int):=by rw[a0C (n:=(n:Int)-(x:Int)) (by omega),a0C (by omega)];omega
  have z2:(((n-x+1:Nat):Int)==0)=false:=by simp;omega
  have t2:a38 (q:Int) ((n-x+1:Nat):Int)=((q%(n-x+1):Nat):Int):=rfl;obtain⟨y,hy⟩:∃y,x+q%(n-x+1)=y:=⟨_,rfl⟩;have h:x≤y∧y≤n:=by have:=a18 q (show 0<n-x+1 by omega);omega
  have r3:wrap .i64 ((x:Int)+((q%(n-x+1):Nat):Int))=(y:Int):=by rw[a0C (by omega)];omega
  have z:=d1F c g i j s h.1 (by rw[k3];exact h.2);rw[k4]at z;have h0:y*ch≤l.length:=by rw[a];exact a01 _ h.2
  have Y:x*ch≤y*ch:=a01 _ h.1;have m1:wrap .i64 ((y:Int)*(ch:Int))=((y*ch:Nat):Int):=by rw[←a52,a0C (by omega)]
  have m2:wrap .i64 ((x:Int)*(ch:Int))=((x*ch:Nat):Int):=by rw[←a52,a0C (by omega)]
  have I:decide ((0:Int)≤((y*ch:Nat):Int))=true:=decide_eq_true (a03 _);have K:decide (((y*ch:Nat):Int)≤((l.length:Nat):Int))=true:=decide_eq_true (by omega);have L:decide ((0:Int)≤((x*ch:Nat):Int))=true:=decide_eq_true (a03 _);have M:decide (((x*ch:Nat):Int)≤((y*ch:Nat):Int))=true:=decide_eq_true (by omega);have u:=c4C (x:=a1h l ch x y) (y:=a1h l ch x y) (by unfold short a1h;simp only[a29,a22];omega);have hb:=b1a i;have hT:=b4H c i j;have A:(a1T fm xs).length=((a1a fm xs).length+4)+(a0S xs).length:=by simp[a1T,a4T];omega
  have v:=b8K j size (a1T fm xs) (n:Int) (x:Int) (t:=mkT fm xs) rfl xs [] rfl i (by simp[a0S]);have P:decide (((a05 (a0S xs):Nat):Int) > ((a05 (a1T fm xs):Nat):Int))=false:=decide_eq_false (by omega);have Q:wrap .i64 (((a05 (a1T fm xs):Nat):Int)-((a05 (a0S xs):Nat):Int))=(((a1a fm xs).length+4:Nat):Int):=by rw[a0C (by omega)];omega
  have R:decide ((0:Int)≤(((a1a fm xs).length+4:Nat):Int))=true:=decide_eq_true (a03 _);have S:decide ((((a1a fm xs).length+4:Nat):Int)≤((a05 (a1T fm xs):Nat):Int))=true:=decide_eq_true (by omega);have T:a31 ((a1a fm xs).length+4) (a30 (a05 (a1T fm xs)) (a1T fm xs))=a0S xs:=by
   rw[a45];unfold a1T;rw[←aA];exact List.drop_left' (by simp[a4T])
  have r:=d1H g.1 a b E j D (p:=x) (by omega);have dl:∀e:Int,(bif !(true:Bool)then e else e)=e:=fun _=>rfl;have nl:(((a05 (mkT fm xs).2.2.2.1:Nat):Int) != ((a05 (mkT fm xs).2.2.2.2.1:Nat):Int))=false:=by simp[mkT,a6W]
  simp only[bT,cF,k6,oB,nl,f,c0,q3,r1,z1,hp,B,F,r2,z2,t2,r3,z,show((0:Int) != 0)=false from rfl,m1,m2,I,K,L,M,a02,cT,tN];have o:a31 (x*ch) (a30 (y*ch) l)=a1h l ch x y:=rfl;simp only[o,u,decide_true,oB,bT,cF]
  erw[v]
  simp only[oB,P,cF,Q,R,S,a02,cT,tN,T,c7Y,bT,r,s3]
  by_cases hxe:x<n
  have m:((x:Int)==(n:Int))=false:=by simp;omega
  have G:((sz:Int)==0)=false:=by simp;omega
  have H:wrap .i64 (a19 (x:Int) (sz:Int))=((x / sz:Nat):Int):=by
   have:=a64 x sz
   rw[show a19 (x:Int) (sz:Int)=((x / sz:Nat):Int)from rfl]
   revert this
   generalize x / sz=d;intro this;rw[a0C (by omega)]
  simp only[if_pos hxe,m,cF,beq_self_eq_true,cT,G,H];have m:((x:Int)==(n:Int))=true:=by simp;omega
  simp only[if_neg hxe,m,cT,beq_self_eq_true]
end Go.Ab
namespace Go.Proofs.YtbadoabamddpfaaGreatDoor
open Go.Ab Go.ChangeShapes Go.WideShapes Go.ChangeAt Go.RowKit
theorem b7E{α:Type}{f:Nat→Option (α×a0z×List Nat)}:∀(L:List α)(i:Nat),(∀(j:Nat) x,L[j]?=some x→f (i+j)=some (x,[],[]))→a0d f L.length i=some (L,[],[])
 | [],_,_=>rfl
 |a::L,i,h=>by
  have g:=h 0 a rfl;have k:=b7E L (i+1) (fun j x b=>by have:=h (j+1) x (by simpa using b);rw[←this];congr 1;omega);simp only[lC,a0d];simp only[a86]at g;rw[g,k];rfl
section
variable {H:Type} {enc:TypeId×Value→H} {P:Program} {w:World} {base:Nat} {spare:Nat→Bool} {held:Bool}
theorem c2L{k:IntKind}{n:Nat}{t e:TypeId}{fuel:Nat}{cs:List Value}{L:List Int}{p:List MemPlace}(B:P.underlying t=some (.array n e))(u:P.underlying e=some (.int k))(s:P.cellsOf e=1)
  (h:DataW.trod enc P w base spare held fuel t cs=some (.agg (L.map fun i=>.lit (.int k i)),p)):L.length=n∧∀(j:Nat) x,L[j]?=some x→cs[j]?=some (.int k x):=by
 obtain⟨xs,m,rfl,b,-,A,a⟩:=DataW.trod_array B h;simp only[pJ,DataW.agg.injEq]at b;have z:L.length=n:=by rw[←A];simpa using congrArg a05 b.1
 refine⟨z,fun j x c=>?_⟩;obtain⟨v,-⟩:=lS.1 c;have g:=a j (by omega);rw[s]at g;obtain⟨y,d⟩:∃y,xs[j]?=some y:=⟨_,lG (by omega)⟩;rw[d]at g;obtain⟨i,o,q,-⟩:=DataW.trod_int u g;have f:=congrArg (fun l=>l[j]?) b.1;simp only[a88,c,d,Option.map_some,q]at f;simp only[sj,DataW.lit.injEq,Lit.int.injEq,true_and]at f;subst f;have r:=congrArg (fun l=>l[0]?) o;simpa[a55,List.getElem?_take]using r
end
def c5u : String := (Rows.frameTurnedRow.laid.map Prod.fst).headD ""
theorem d7m:Tryz.prog.globalNamed c5u=some 0:=by kernel_rfl
def c9q:TypeId:=((Tryz.prog.globals[0]?).map (·.type)).getD 0
theorem d1I:(Tryz.prog.globals[0]?).map (·.type)=some c9q:=by kernel_rfl
def c9r:TypeId:=match Tryz.prog.underlying c9q with
 |some (.array _ e)=>e
 |_=>0
theorem d7n:Tryz.prog.underlying c9q=some (.array 64 c9r):=by kernel_rfl
theorem d4D:Tryz.prog.underlying c9r=some (.int .u8):=by kernel_rfl
theorem d4E:Tryz.prog.cellsOf c9r=1:=by kernel_rfl
@[reducible] def laidTab:List (String×DataW Unit):=[(c5u,Rows.laid_math_bits_deBruijn64tab)]

theorem d2O {g:Nat} {t:Ty} {x:t.den} (h:G0 g=some ⟨t,x⟩):g=0∧(⟨t,x⟩:(t:Ty)×t.den)=⟨.arr 64 (.int .u8),b1D⟩:=by
 unfold G0 find at h
 cases g with
 |zero=>exact⟨rfl,(Option.some.inj h).symm⟩
 |succ n=>exact absurd h (by simp[find])
theorem c4w{W:World}(h:laidMetH Tryz.prog laidTab W):∀g t x,G0 g=some ⟨t,x⟩→g<W.heap.size∧dec (a0a W none) t ((Src.at g 0).rd (a0a W none))=some (x,[],[]):=by
 rw[MakeChecks.laidMetH_plain _ _ _ (by kernel_rfl)]at h;obtain⟨ps,⟨r,w,m,q,u,v,b,c,d,a,_⟩,_,_⟩:=h;obtain rfl:=Option.some.inj (d7m.symm.trans b);obtain rfl:=Option.some.inj (d1I.symm.trans c);have n:(Rows.laid_math_bits_deBruijn64tab:DataW Unit)=.agg (b1D.map fun i=>.lit (.int .u8 i)):=rfl;rw[n]at a;obtain⟨s,p⟩:=c2L d7n d4D d4E a;have k:∀(j:Nat) x,b1D[j]?=some x→W.cell? ⟨0,j,none⟩=some (.int .u8 x):=fun j x l=>by
  rw[World.var?_cell b d j];simpa using p j x l
 intro g t x o;obtain⟨rfl,e⟩:=d2O o;cases e;refine⟨z0m (k 0 0 rfl),?_⟩;exact b7E (f:=fun i=>dec (a0a W none) (.int .u8) fun j=>(Src.at 0 0).rd (a0a W none) (i*1+j)) b1D 0 (fun j x l=>by
  have:=k j x l
  simp only[dec,Src.rd,a0a,a85,Nat.mul_one,a86,this,if_true])
set_option maxRecDepth 100000 in
theorem c9s (os:Os) (args:Array Value):laidMetH Tryz.prog laidTab ((World.doorLaid Tryz.prog 400 os).forCall (fun _ _=>0) ⟨#[],args,[]⟩).memory:=
 laidMetH_of_parts3 (fuel:=8) (laidMet_of_run' 8 (by kernel_rfl) (by kernel_rfl)) (by kernel_rfl) (by kernel_rfl)
end Go.Proofs.YtbadoabamddpfaaGreatDoor
