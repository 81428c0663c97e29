/- Part of the proof: QUF. Conditions: as each statement tells. -/
import Derived.KernelRfl
import Derived.Test.YtbadoabamddpfaaGreatDoorRows
import Derived.ProofKit
import Derived.LaidMore
import Derived.LaidLaws
import Derived.LaidHandle
import Derived.LaidByTextLater
import Derived.OpenShut
import Derived.Handed
import Derived.Test.YtbadoabamddpfaaGreatDoorMG
noncomputable section
set_option linter.unusedSimpArgs false
set_option linter.unusedVariables false
open BitVec renaming ofInt→a00,xor_assoc→a16,toNat_ofInt→a27,getLsbD_ushiftRight→a33,toNat_and→a47,msb_eq_getLsbD_last→a59,eq_of_getLsbD_eq→a62,xor_comm→a64,getLsbD→a69,toNat_or→a89,xor_zero→a92
open Bool renaming and_self→a03,not_false→a39,true_and→a60,eq_false_iff→a82
open Int renaming natCast_nonneg→a06,tdiv→a22,toNat→a31,tmod→a44,fdiv_eq_ediv_of_nonneg→a57,natCast_mul→a91
open List renaming range→a01,replicate→a04,nil_append→a07,length→a09,length_take→a18,length_map→a21,length_nil→a23,map_congr_left→a24,getElem_mem→a25,length_drop→a26,flatMap_cons→a28,map_cons→a30,map_map→a32,take→a34,drop→a35,all_cons→a36,range_succ→a37,mem_map→a38,append_eq→a40,mem_range→a41,range_add→a42,foldl_append→a43,cons_append→a45,take_length→a46,not_mem_nil→a48,ext_getElem→a50,getElem?_drop→a54,filter_append→a55,append_nil→a63,foldl_cons→a65,eq_replicate_iff→a68,mem_of_mem_take→a70,mem_of_mem_drop→a71,flatMap_append→a74,getD_cons_succ→a76,getElem?_map→a83,mem_flatMap→a85,append→a86,append_cons→a87,take_zero→a93,getD→a94
open Nat renaming mul_le_mul_right→a02,mul_le_mul→a05,lt_trans→a08,mod_lt→a20,and_two_pow_sub_one_eq_mod→a29,mod_eq_of_lt→a49,pow_le_pow_right→a51,le_of_lt→a52,two_pow_add_eq_or_of_lt→a53,le_refl→a56,mul_mod→a58,mul_comm→a61,add_mul→a66,div_lt_iff_lt_mul→a67,le_sub_one_of_lt→a72,div_lt_of_lt_mul→a73,add_assoc→a75,pos_of_ne_zero→a77,eq_zero_or_pos→a78,mul_div_cancel→a79,pow_succ→a80,add_zero→a81,lt_succ_of_lt→a84,min_le_right→a88,div_le_self→a90
open Option renaming bind_eq_some_iff→a19
namespace Go.Ab
open IntKind(wrap)
def a8M(f:a1q)(l:List Sub):a1q:=(f.1,f.2.1,f.2.2.1,f.2.2.2.1,l,())
theorem c6D(f:a1q):a8M f f.2.2.2.2.1=f:=rfl
theorem c0G(f g:a1q)(e:Int){N:Nat}(d:N≤8){Z:List Int}:∀(rest:List PZ)(done:List Sub)(P:List Int),done.length+rest.length=N→(∀p∈rest,c6C f.2.1 p)→OkR P (a0O rest++Z)→
  y0s a7N (e,(N:Int),(done.length:Int),g,a8M f done,rdr P (a0O rest++Z),())=some (.inl (e,g,a8M f (done++rest.map (·.1)),rdr (P++a0O rest) Z,()))
 | [],done,P,hl,_,_=>by
  have a:done.length=N:=by simpa using hl
  rw[a,a0E (b:=Sum.inl (e,g,a8M f done,rdr P Z,())) (by simp only[a7N,dge,cF];rfl)];simp[a0O]
 |p::rest,done,P,hl,h,hok=>by
  rw[lC]at hl;obtain⟨n,l,o⟩:=h p (by simp);have c:a0O (p::rest)++Z=a8g p.1 p.2++(a0O rest++Z):=by simp[a0O]
  rw[c]at hok⊢;have j:=d0Y n l o hok;have i:decide ((done.length:Int)<(N:Int))=true:=by simp;omega
  have z0:((0:Int) != 0)=false:=rfl;rw[a0F (s':=(e,(N:Int),(((done++[p.1]).length:Nat):Int),g,a8M f (done++[p.1]),rdr (P++a8g p.1 p.2) (a0O rest++Z),())) (by
   have k:b2i (rdr P (a8g p.1 p.2++(a0O rest++Z)),(a8M f done).2.1)=some (p.1,(0:Int),rdr (P++a8g p.1 p.2) (a0O rest++Z)):=j;simp only[a7N,i,cT,k,oB,z0,cF];rw[show(a8M f done).2.2.2.2.1=done from rfl,a0V (show done.length+1<2147483648 by omega),cT,a0B (show done.length<1000000 by omega)];rw[show(((done++[p.1]).length:Nat):Int)=((done.length+1:Nat):Int)from by simp];rfl)]
  rw[c0G f g e d rest (done++[p.1]) _ (by simp;omega) (fun q m=>h q (by simp[m])) hok.shift];simp[a0O]
theorem b8u{L:List Int}(f:a1x L)(a:L.length<500000000)(t:Int×(Int×Unit)):∀(k i:Nat),i+k=L.length→(∀j,i≤j→L.getD j 0=0)→
  y0s a3p ((L.length:Int),(i:Int),((wL L).1,t),())=some (.inl ((L.length:Int),((wL L).1,t),()))
 |0,i,h,_=>by
  obtain rfl:i=L.length:=by omega
  exact a0E (by simp only[a3p,dge,cF])
 |k+1,i,h,h0=>by
  have g:i<L.length:=by omega
  have z:((0:Int)==1)=false:=rfl;have b:wrap .i64 ((i:Int)+1)=((i+1:Nat):Int):=by rw[a0C (by omega)];omega
  rw[a0F (s':=((L.length:Int),((i+1:Nat):Int),((wL L).1,t),())) (by
   simp only[a3p,dlt g,cT];rw[c1r f (by omega) g t,h0 i (a56 _)];simp only[oB,z,cF,b])]
  exact b8u f a t k (i+1) (by omega) (fun j c=>h0 j (by omega))
theorem c8K(L:List Int)(k j:Nat)(h:L.length≤j):(L++a04 k 0).getD j 0=0:=by
 rw[lD,List.getElem?_append_right h,List.getElem?_replicate]
 split<;>rfl
theorem c2c{L:List Int}(h:a1x L):a1x (a2F L):=h.app fun _ hb=>.inl (List.mem_replicate.1 hb).2
theorem c7G{L:List Int}(f:a1x L)(c:L.length≤5600000):∃r,a4Z (rdr L (a04 (a4P L.length) 0))=some r∧r.2.2.1=0:=by
 have hp:(a2F L).length=L.length+a4P L.length:=by simp[a2F]
 have a:a4P L.length<8:=by unfold a4P;omega
 have b:(a2F L).length%8=0:=by rw[hp];unfold a4P;omega
 have z0:((0:Int) != 0)=false:=rfl;have g:wrap .i64 (wrap .i64 (a22 (wrap .i64 ((L.length:Int)+7)) 8)*8)=((a2F L).length:Int):=by
  rw[a0C (n:=(L.length:Int)+7) (by omega),show a22 ((L.length:Int)+7) 8=(((L.length+7) / 8:Nat):Int)from by
   rw[show((L.length:Int)+7)=((L.length+7:Nat):Int)from by omega];rfl,a0C (n:=(((L.length+7) / 8:Nat):Int)) (by omega),a0C (by omega),hp]
  unfold a4P;omega
 have h:=b8u (c2c f) (by omega) ((L.length:Int),(0:Int),()) (a4P L.length) L.length (by omega) (fun j k=>c8K L _ j k);refine⟨((wL (a2F L)).1,((a2F L).length:Int),(0:Int),()),?_,rfl⟩;unfold a4Z rdr;simp only[z0,cF,g];rw[show L++a04 (a4P L.length) 0=a2F L from rfl,h];rfl
theorem d7c{v:Int}(h:0≤v∧v<65536):bits .u16 .or (A0n .u16 (wrap .u16 (v / 256)) 8) (wrap .u16 (v%256))=v:=by
 rw[b3m,b3m];have e:A0n .u16 (v / 256%65536) 8=((v.toNat / 256*256:Nat):Int):=by
  show wrap .u16 (v / 256%65536*256)=_;rw[b3m];omega
 rw[e];have g:v%256%65536=((v.toNat%256:Nat):Int):=by omega
 rw[g];show wrap .u16 (((a00 16 ((v.toNat / 256*256:Nat):Int) ||| a00 16 ((v.toNat%256:Nat):Int)).toNat:Nat):Int)=_;have f:(a00 16 ((v.toNat / 256*256:Nat):Int)).toNat=v.toNat / 256*256:=by rw[a27];omega
 have k:(a00 16 ((v.toNat%256:Nat):Int)).toNat=v.toNat%256:=by rw[a27];omega
 rw[a89,f,k];have e:v.toNat / 256*256 ||| v.toNat%256=v.toNat / 256*256+v.toNat%256:=by
  have:=a53 (i:=8) (b:=v.toNat%256) (by omega) (v.toNat / 256)
  rw[show 2^8*(v.toNat / 256)=v.toNat / 256*256 from by omega]at this;exact this.symm
 rw[e,b3m];omega
theorem c2G{f:a1q}(O:a4k f=some true)(u:frP f)(t:((f.2.2.2.2.1.length:Nat):Int)=f.2.2.1.2.1){zs:List PZ}(B:zs.map (·.1)=f.2.2.2.2.1)(hp:∀p∈zs,c6C f.2.1 p)(z:(a0O zs).length≤5600000)
  {R:List Int}(V:R.length≤200000000):a6n (a6w f (a0O zs)++R)=some (f,((a6w f (a0O zs)).length:Int),(0:Int)):=by
 have P:=b8W u z;have Q:=b8t (a8Y f (a0O zs));have L:f.2.2.2.2.1.length≤8:=by have:=u.1.2.2.2.1;omega
 have N:=b7o (a0O zs);generalize hbd:a8L (a0O zs)=body at *;have c:a6w f (a0O zs)=a8Y f (a0O zs)++[a4i (a8Y f (a0O zs)) / 256,a4i (a8Y f (a0O zs))%256]:=rfl;have g:a8Y f (a0O zs)=a1E f body.length++body:=by unfold a8Y;rw[hbd]
 generalize hpb:a8Y f (a0O zs)=pre at *;have o:a6w f (a0O zs)++R=a1E f body.length++(body++([a4i pre / 256,a4i pre%256]++R)):=by rw[c,g];simp
 have m:(a6w f (a0O zs)).length=pre.length+2:=by rw[c];simp
 have A:pre.length=(a1E f body.length).length+body.length:=by rw[g];simp
 have y:(a6w f (a0O zs)++R).length=pre.length+2+R.length:=by rw[lN,m]
 have k:=c6B u (body:=body.length) (by omega) (R:=body++([a4i pre / 256,a4i pre%256]++R)) (by rw[←o,y];omega);rw[←o]at k;generalize hx:a6w f (a0O zs)++R=x at *;have z0:((0:Int) != 0)=false:=rfl;have T:wrap .i64 (((a1E f body.length).length:Int)+(body.length:Int))=(pre.length:Int):=by rw[a0C (by omega)];omega
 have w2:wrap .i64 ((pre.length:Int)+2)=((pre.length+2:Nat):Int):=by rw[a0C (by omega)];omega
 have U:wrap .i64 ((pre.length:Int)+1)=((pre.length+1:Nat):Int):=by rw[a0C (by omega)];omega
 have C:decide ((x.length:Int)<((pre.length+2:Nat):Int))=false:=by simp;omega
 have D:decide ((0:Int)≤(pre.length:Int))=true:=by simp
 have E:decide ((pre.length:Int)≤(x.length:Int))=true:=by simp;omega
 have F:decide ((0:Int)≤((a1E f body.length).length:Int))=true:=by simp
 have G:decide (((a1E f body.length).length:Int)≤(pre.length:Int))=true:=by simp;omega
 have j:x=pre++([a4i pre / 256,a4i pre%256]++R):=by rw[←hx,c];simp
 have i:a34 pre.length x=pre:=by rw[j];simp
 have b:a35 (a1E f body.length).length pre=body:=by rw[g];simp
 have I:m0k x (pre.length:Int)=some (a4i pre / 256):=by rw[a0D (by omega)];congr 1;subst j;simp
 have K:m0k x ((pre.length+1:Nat):Int)=some (a4i pre%256):=by rw[a0D (by omega)];congr 1;subst j;simp
 have S:(a4i pre != bits .u16 .or (A0n .u16 (wrap .u16 (a4i pre / 256)) 8) (wrap .u16 (a4i pre%256)))=false:=by rw[d7c Q];exact bne_self_eq_false _
 have e:(a2F (a0O zs)).length<1000000000:=by omega
 have a:=d2j e;rw[show(wL (a2F (a0O zs))).1=body from hbd]at a;have v:OkR [] (a0O zs++a04 (a4P (a0O zs).length) 0):=⟨by rw[a07];exact c2c (c2a zs),by
  rw[a07];show(a2F (a0O zs)).length<_;omega⟩
 have h:=c0G f ((0:Int),(0:Int),((0:Int),(0:Int),(0:Int),()),([]:List a0M),([]:List Sub),()) (pre.length:Int) L zs [] [] (by rw[←B];simp) hp v;simp only[a07,a23,B,c6D]at h;have w:rdr [] (a2F (a0O zs))=rdr [] (a0O zs++a04 (a4P (a0O zs).length) 0):=rfl;obtain⟨r,q,s⟩:=c7G (c2a zs) z;have d:a2D (rdr (a0O zs) (a04 (a4P (a0O zs).length) 0))=some ((a4P (a0O zs).length:Int),rdr (a0O zs) (a04 (a4P (a0O zs).length) 0)):=by
  unfold a2D rdr
  have:(wL (a0O zs++a04 (a4P (a0O zs).length) 0)).1=body:=hbd
  simp only[this];have hp:(a2F (a0O zs)).length=(a0O zs).length+a4P (a0O zs).length:=by simp[a2F]
  rw[a0C (n:=8*(body.length:Int)) (by omega),a0C (by omega)];congr 2;omega
 have H:decide (((a4P (a0O zs).length:Nat):Int)≥8)=false:=by unfold a4P;simp;omega
 have M:a8M f []=c6A f:=rfl;have l:f.2.2.1.2.1=((f.2.2.2.2.1.length:Nat):Int):=t.symm;unfold a6n;rw[k];simp only[oB,z0,cF,T,w2,C,D,E,F,a03,cT,tN,i,c0D (show short pre by unfold short;omega),I,U,K,S,G,b,a,w];rw[show(c6A f).2.2.1.2.1=((f.2.2.2.2.1.length:Nat):Int)from l]
 erw[h]
 simp only[oB,d,H,cF,q,a0P,s,z0,O,bT,w2,m]
theorem b3U(x:Int):a9d x=some (a0A x):=by
 grind[a9d,a0A]
def a2G(c:List (List Int)):Prop:=1≤c.length∧c.length≤8∧(c.headD []).length≤4096∧c.all (fun r=>decide (r.length=(c.headD []).length)&&r.all a0A)=true
instance (c:List (List Int)):Decidable (a2G c):=by unfold a2G;infer_instance
theorem b4v{α:Type}{l:List α}{d:α}(h:0<l.length):l[0]=l.headD d:=by
 cases l with
 |nil=>grind
 |cons a l=>rfl
theorem c1v(c:List (List Int)):a7r c=some (decide (a2G c)):=by
 unfold a7r
 by_cases h1:((c.length:Nat):Int)<1
 have:¬ a2G c:=fun h=>by have:=h.1;omega
 simp_all
 by_cases h2:((c.length:Nat):Int) > 8
 have:¬ a2G c:=fun h=>by have:=h.2.1;omega
 simp_all;have b:0<c.length:=by omega
 have a:m0k c 0=some (c.headD []):=by rw[show(0:Int)=((0:Nat):Int)from rfl,a0D b,b4v (d:=[]) b]
 have l:decide (((c.length:Nat):Int)<1)=false:=by simp_all
 have m:decide (((c.length:Nat):Int) > 8)=false:=by simp_all
 simp only[l,m,cF,a,oB]
 by_cases h3:(((c.headD []).length:Nat):Int) > 4096
 rw[decide_eq_true h3,decide_eq_false (show ¬ a2G c from fun h=>by have:=h.2.2.1;omega)];rfl;have n:decide ((((c.headD []).length:Nat):Int) > 4096)=false:=by simp_all
 simp only[n,cF];have g:∀(i:Nat)(r:List Int),short r→y0s a4t (c,c,(c.length:Int),(i:Int),r,(r.length:Int),(0:Int),())=some (bif r.all a0A then Sum.inl (c,c,(c.length:Int),(i:Int),())else Sum.inr (false,())):=fun i r s=>by
  have:=a1S (f:=a4t) r (fun j=>(c,c,(c.length:Int),(i:Int),r,(r.length:Int),(j:Int),())) a0A (bt:=Sum.inl (c,c,(c.length:Int),(i:Int),())) (bf:=Sum.inr (false,()))
   (fun j h hp=>by simp only[a4t,dlt h,cT,a0D h,oB,b3U,hp,bT,cF,a0B (a08 h s)])
   (fun j h hp=>by simp_all[a4t,a0D,b3U])
   (by simp_all[a4t])
  omega
 have k:=a1S (f:=a4u) c (fun i=>(c,c,(c.length:Int),(i:Int),())) (fun r=>decide (r.length=(c.headD []).length)&&r.all a0A) (bt:=Sum.inl ()) (bf:=Sum.inr (false,()))
  (fun i h hp=>by
   simp only[bA,dT]at hp;have e:((((c[i]).length:Nat):Int) != (((c.headD []).length:Nat):Int))=false:=by simp_all
   have hi:=g i c[i] (by unfold short;omega);rw[hp.2,cT]at hi;simp only[a4u,dlt h,cT,a0D h,oB,a,e,cF,hi,a0B (show i<1000000 by omega)])
  (fun i h hp=>by
   by_cases hl:(c[i]).length=(c.headD []).length
   have e:((((c[i]).length:Nat):Int) != (((c.headD []).length:Nat):Int))=false:=by simp_all
   have hi:=g i c[i] (by unfold short;omega);rw[decide_eq_true hl,a60]at hp;rw[hp,cF]at hi;simp_all[a4u,a0D];have e:((((c[i]).length:Nat):Int) != (((c.headD []).length:Nat):Int))=true:=by grind
   simp only[a4u,dlt h,cT,a0D h,oB,a,e])
  (by simp_all[a4u])
 simp only[nZ]at k;rw[k];have o:1≤c.length:=by omega
 have p:c.length≤8:=by omega
 have q:(c.headD []).length≤4096:=by omega
 by_cases hA:c.all (fun r=>decide (r.length=(c.headD []).length)&&r.all a0A)=true
 rw[hA,decide_eq_true (show a2G c from⟨o,p,q,hA⟩)];rfl;rw[a82.2 hA,decide_eq_false (show ¬ a2G c from fun h=>hA h.2.2.2)];rfl
def a3q(c:List (List Int))(n:Nat):Prop:=∀r∈c,r.length=n∧r.all a0A=true
theorem c5e{c:List (List Int)}(h:a2G c):a3q c (c.headD []).length:=fun r g=>by
 have:=lA.1 h.2.2.2 r g
 simp_all
theorem b8X{c:List (List Int)}{n:Nat}(h:a3q c n)(g:1≤c.length)(f:c.length≤8)(b:n≤4096):a2G c:=by
 have a:(c.headD []).length=n:=by
  rw[←b4v (d:=[]) (show 0<c.length by omega)];exact(h _ (a25 _)).1
 refine⟨g,f,by omega,lA.2 fun r k=>?_⟩
 have:=h r k
 simp_all
theorem c2d{c:List (List Int)}{n:Nat}(h:a3q c n)(l:n≤5000)(j:c.length≤100):a7b c=some c:=by
 have:=a1G (f:=a6F) (β:=List (List Int)×Unit) c (fun i (a:List (List Int))=>(c,(c.length:Int),(i:Int),a,())) (fun a x=>.inl (a++[x])) (fun i a=>a.length=i) (fun a=>(a,()))
  (fun i hi a k=>⟨fun e g=>by
   simp at g;subst g;have m:=(h _ (a25 hi)).1;have d:∀y:List Int,List.set ([([]:List Int)]:List (List Int)) 0 y=[y]:=fun _=>rfl;refine⟨?_,by grind⟩;simp only[a6F,dlt hi,cT,a0D hi,oB,a8c (show short c[i]by unfold short;omega),d];rw[a0V (by grind),cT,a0B (show i<1000000 by omega)];rfl,fun b hb=>by grind⟩)
  (fun a k=>by simp_all[a6F]) (a:=[]) rfl
 simp_all[b1y,a7b,a7Z]
def a8N(sign g:Int)(x y:Int):Int:=y+sign*(g*x / 256)
def a9H(sign g:Int)(xs ys:List Int):List Int:=List.zipWith (a8N sign g) xs ys
theorem c8L(sign g:Int){xs ys:List Int}(h:xs.length=ys.length):(a9H sign g xs ys).length=ys.length:=by simp[a9H,h]
theorem c8M{sign g x y:Int}(b:sign=1∨sign=-1)(c:-1024≤g∧g≤1024)(k:a0A x=true)(a:a0A y=true):
  wrap .i64 (y+wrap .i64 (sign*A0o .i64 (wrap .i64 (g*x)) 8))=a8N sign g x y:=by
 have k:=a1H.1 k;have a:=a1H.1 a;have f:-1099511627776≤g*x∧g*x≤1099511627776:=by
  have f:g.natAbs≤1024:=by omega
  have h:x.natAbs≤1073741824:=by omega
  have:=a05 f h
  rw[←Int.natAbs_mul]at this;omega
 rw[a0C (n:=g*x) (by omega)];have h:A0o .i64 (g*x) 8=g*x / 256:=by
  unfold A0o;show(g*x).fdiv (2^8)=_
  grind
 rw[h];unfold a8N;rcases b with rfl|rfl
 all_goals grind[a0C]
theorem b2d{α:Type}(c:List α){a b:Nat}(h:a≠b)(y d:α):(c.set b y).getD a d=c.getD a d:=by
 grind
theorem a7w{α:Type}(c:List α){b:Nat}(h:b<c.length)(y d:α):(c.set b y).getD b d=y:=by
 simp_all
theorem c0H{c:List (List Int)}{s:a0M}{sign:Int}(g:sign=1∨sign=-1)(b:-1024≤s.2.2.1∧s.2.2.1≤1024)(a0:0≤s.1)(i:0≤s.2.1)(f:s.1.toNat≠s.2.1.toNat)(hb:s.2.1.toNat<c.length)(k:s.2.1<(c.length:Int))
  {xs:List Int}(a:c.getD s.1.toNat []=xs)(w:xs.length≤5000):∀(sx suf px pre:List Int),px++sx=xs→px.length=pre.length→sx.length=suf.length→sx.all a0A=true→suf.all a0A=true→
  if(a9H sign s.2.2.1 sx suf).all a0A=true then
   y0s a3C (sign,(xs.length:Int),(pre.length:Int),c.set s.2.1.toNat (pre++suf),s,((s.1.toNat:Nat):Int),())=some (.inl (c.set s.2.1.toNat (pre++a9H sign s.2.2.1 sx suf),()))
  else ∃c',y0s a3C (sign,(xs.length:Int),(pre.length:Int),c.set s.2.1.toNat (pre++suf),s,((s.1.toNat:Nat):Int),())=some (.inr (false,c',()))
 | [],suf,px,pre,hx,hp,hl,_,_=>by
  have e:suf=[]:=List.length_eq_zero_iff.1 hl.symm;subst e;have p:pre.length=xs.length:=by simp_all
  rw[if_pos (by rfl),p];exact a0E (by simp only[a3C,dge,cF];rfl)
 |x::sx,[],px,pre,_,_,hl,_,_=>by simp_all
 |x::sx,y::suf,px,pre,hx,hp,hl,hwx,hwy=>by
  simp only[a36,bA]at hwx hwy;have v:pre.length<xs.length:=by grind
  have q:(c.set s.2.1.toNat (pre++y::suf)).getD (a31 ((s.1.toNat:Nat):Int)) []=xs:=by grind
  have r:(c.set s.2.1.toNat (pre++y::suf)).getD s.2.1.toNat []=pre++y::suf:=a7w _ hb _ _;have t:a94 xs (a31 (pre.length:Int)) 0=x:=by grind
  have u:a94 (pre++y::suf) (a31 (pre.length:Int)) 0=y:=by simp
  have j:decide ((0:Int)≤(pre.length:Int))=true:=by simp
  have l:decide ((pre.length:Int)<(xs.length:Int))=true:=by simp_all
  have m:decide ((0:Int)≤s.2.1)=true:=by simp_all
  have n:decide (s.2.1<(((c.set s.2.1.toNat (pre++y::suf)).length:Nat):Int))=true:=by simp_all
  have o:decide ((pre.length:Int)<(((pre++y::suf).length:Nat):Int))=true:=by grind
  have hv:=c8M g b hwx.1 hwy.1;have z:wrap .i64 ((pre.length:Int)+1)=((pre.length+1:Nat):Int):=a0B (by omega);have A:a9H sign s.2.2.1 (x::sx) (y::suf)=a8N sign s.2.2.1 x y::a9H sign s.2.2.1 sx suf:=rfl;have d:List.set (c.set s.2.1.toNat (pre++y::suf)) s.2.1.toNat (List.set (pre++y::suf) (a31 (pre.length:Int)) (a8N sign s.2.2.1 x y))=c.set s.2.1.toNat ((pre++[a8N sign s.2.2.1 x y])++suf):=by
   simp
  have h:a3C (sign,(xs.length:Int),(pre.length:Int),c.set s.2.1.toNat (pre++y::suf),s,((s.1.toNat:Nat):Int),()) =
    bif !(a0A (a8N sign s.2.2.1 x y))then some (.inr (Sum.inr (false,c.set s.2.1.toNat (pre++y::suf),())))
    else some (.inl (sign,(xs.length:Int),((pre.length+1:Nat):Int),c.set s.2.1.toNat ((pre++[a8N sign s.2.2.1 x y])++suf),s,((s.1.toNat:Nat):Int),())):=by
   simp only[a3C,l,cT,q,r,j,a03,m,n,o,t,u,b3U,hv,oB,z]
   simp
  cases hwv:a0A (a8N sign s.2.2.1 x y)with
  |false=>
   simp_all[a0E]
  |true=>
   rw[hwv]at h;have B:=c0H g b a0 i f hb k a w sx suf (px++[x]) (pre++[a8N sign s.2.2.1 x y]) (by simp_all) (by grind) (by simp_all) hwx.2 hwy.2;rw[a0F h,A];simp_all
def a3K(sign:Int)(s:a0M)(c:List (List Int)):Option (List (List Int)):=
 let r:=a9H sign s.2.2.1 (c.getD s.1.toNat []) (c.getD s.2.1.toNat [])
 if r.all a0A=true then some (c.set s.2.1.toNat r)else none
theorem a8i{c:List (List Int)}{n:Nat}(h:a3q c n){i:Nat}(hi:i<c.length):(c.getD i []).length=n∧(c.getD i []).all a0A=true:=by
 rw[lD,lG hi];exact h _ (a25 hi)
theorem c3Q{c:List (List Int)}{n:Nat}(a:a3q c n)(w:n≤5000){s:a0M}(p:a2x (c.length:Int) s=true){sign:Int}(k:sign=1∨sign=-1):
  ∃b f,a7Q (c,s,sign)=some (b,f)∧match a3K sign s c with|some r=>b=true∧f=r|none=>b=false:=by
 obtain⟨a1,u,d,e,v,j,l⟩:=a2U.1 p;have q:=a8i a (i:=s.1.toNat) (by omega);have t:=a8i a (i:=s.2.1.toNat) (by omega);have hb:s.2.1.toNat<c.length:=by omega
 have g:c.set s.2.1.toNat (c.getD s.2.1.toNat [])=c:=by
  simp_all
 have:=c0H k ⟨j,l⟩ a1 d (by omega) hb e (rfl:c.getD s.1.toNat []=_) (by omega) (c.getD s.1.toNat []) (c.getD s.2.1.toNat []) [] [] rfl rfl (by omega) q.2 t.2
 rw[a07,g]at this;simp only[a23,nZ,a07,Int.cast_ofNat_Int]at this;have m:decide ((0:Int)≤s.1)=true:=by simp_all
 have o:decide (s.1<(c.length:Int))=true:=by simp_all
 unfold a7Q a3K;simp only[m,o,a03,cT]
 by_cases hA:(a9H sign s.2.2.1 (c.getD s.1.toNat []) (c.getD s.2.1.toNat [])).all a0A=true
 simp_all;rw[if_neg hA]at this⊢;obtain⟨f,h⟩:=this;simp_all
theorem b3f{c c':List (List Int)}{n:Nat}(g:a3q c n){s:a0M}(k:a2x (c.length:Int) s=true){sign:Int}(h:a3K sign s c=some c'):a3q c' n∧c'.length=c.length:=by
 obtain⟨a1,a,b,d,e,j,l⟩:=a2U.1 k;have o:=a8i g (i:=s.1.toNat) (by omega);have p:=a8i g (i:=s.2.1.toNat) (by omega);unfold a3K at h;simp only at h
 split at h
 rename_i m;cases h;refine⟨fun r f=>?_,by simp⟩;rcases List.mem_or_eq_of_mem_set f with f|rfl;exact g r f;simp_all[c8L];simp_all
theorem c3R(g:Int):∀xs ys:List Int,xs.length=ys.length→a9H (-1) g xs (a9H 1 g xs ys)=ys
 | [],[],_=>rfl
 |x::xs,y::ys,h=>by
  have f:=c3R g xs ys (by simpa using h);show a8N (-1) g x (a8N 1 g x y)::a9H (-1) g xs (a9H 1 g xs ys)=_;rw[f];unfold a8N;congr 1;omega
 | [],_::_,h=>by grind
 |_::_,[],h=>by rfl
theorem c7H{c c':List (List Int)}{n:Nat}(g:a3q c n){s:a0M}(f:a2x (c.length:Int) s=true)(h:a3K 1 s c=some c'):a3K (-1) s c'=some c:=by
 obtain⟨a1,a,b,d,e,j,l⟩:=a2U.1 f;have m:=a8i g (i:=s.1.toNat) (by omega);have k:=a8i g (i:=s.2.1.toNat) (by omega);have hb:s.2.1.toNat<c.length:=by omega
 unfold a3K at h;simp only at h
 split at h
 cases h;unfold a3K;simp only;rw[b2d _ (show s.1.toNat≠s.2.1.toNat by omega),a7w _ hb,c3R _ _ _ (by omega),if_pos k.2,List.set_set];simp_all;simp_all
def doO:List a0M→List (List Int)→Option (List (List Int))
 | [],c=>some c
 |s::l,c=>(a3K 1 s c).bind (doO l)
def b0U:List a0M→List (List Int)→Option (List (List Int))
 | [],c=>some c
 |s::l,c=>(b0U l c).bind (a3K (-1) s)
theorem b3n{n:Nat}{N:Nat}:∀(l:List a0M){c c':List (List Int)},a3q c n→c.length=N→l.all (a2x (N:Int))=true→doO l c=some c'→a3q c' n∧c'.length=N
 | [],c,c',hc,hl,_,h=>by cases h;simp_all
 |s::l,c,c',hc,hl,hs,h=>by
  simp only[a36,bA]at hs;simp[doO,a19]at h;obtain⟨d,g,f⟩:=h;obtain⟨k,a⟩:=b3f hc (by simp_all) g;exact b3n l k (by omega) hs.2 f
theorem c5f{n:Nat}{N:Nat}:∀(l:List a0M){c c':List (List Int)},a3q c n→c.length=N→l.all (a2x (N:Int))=true→doO l c=some c'→b0U l c'=some c
 | [],c,c',_,_,_,h=>by cases h;rfl
 |s::l,c,c',hc,hl,hs,h=>by
  simp only[a36,bA]at hs;simp only[doO,a19]at h;obtain⟨d,g,f⟩:=h;obtain⟨k,a⟩:=b3f hc (by rw[hl];exact hs.1) g;simp only[b0U];rw[c5f l k (by omega) hs.2 f];exact c7H hc (by rw[hl];exact hs.1) g
def b8Y:Option (List (List Int))→List (List Int)×Int
 |some r=>(r,0)
 |none=>([],6)
theorem c5g{n N:Nat}(a:n≤5000){l:List a0M}(m:l.length≤16)(j:l.all (a2x (N:Int))=true):∀(k i:Nat)(c:List (List Int)),i+k=l.length→a3q c n→c.length=N→
  y0s a7T (l,(l.length:Int),(i:Int),c,())=some (match doO (l.drop i) c with|some r=>Sum.inl (r,())|none=>Sum.inr ([],6,()))
 |0,i,c,h,_,_=>by
  obtain rfl:i=l.length:=by omega
  rw[List.drop_length];exact a0E (by simp only[a7T,dge,cF];rfl)
 |k+1,i,c,h,hc,hcl=>by
  have hi:i<l.length:=by omega
  rw[List.drop_eq_getElem_cons hi];have d:a2x (c.length:Int) l[i]=true:=by grind
  obtain⟨b,g,e,f⟩:=c3Q hc a d (sign:=1) (.inl rfl);simp[doO];cases hst:a3K 1 l[i] c with
  |none=>
   simp_all[a0E,a7T,a0D]
  |some r=>
   rw[hst]at f;obtain⟨rfl,rfl⟩:=f;obtain⟨o,p⟩:=b3f hc d hst;rw[a0F (s':=(l,(l.length:Int),((i+1:Nat):Int),g,())) (by
    simp only[a7T,dlt hi,cT,a0D hi,oB,e,bT,cF,a0B (show i<1000000 by omega)])]
   rw[c5g a m j k (i+1) g (by omega) o (by omega)];rfl
theorem c2L(c:List (List Int))(l:List a0M):b2f (c,l)=some (if a2G c∧a5d l (c.length:Int)then b8Y (doO l c)else([],1)):=by
 unfold b2f;simp only[c1v,oB]
 by_cases hq:a2G c
 have h:=c5e hq;simp only[hq,decide_true,bT,cF,b4Z,oB,true_and]
 by_cases hm:a5d l (c.length:Int)
 simp[hm];rw[c2d h (by have:=hq.2.2.1;omega) (by have:=hq.2.1;omega)]
 have:=c5g (N:=c.length) (by have:=hq.2.2.1;omega:(c.headD []).length≤5000) hm.2.2.1 hm.2.2.2 l.length 0 c (by omega) h rfl
 simp at this
 simp
 erw[this]
 cases doO l c<;>rfl;simp_all;simp_all
theorem c0I(s:a0M):∀(l:List a0M)(c:List (List Int)),b0U (l++[s]) c=(a3K (-1) s c).bind (b0U l)
 | [],c=>by
  show a3K (-1) s c=_;cases a3K (-1) s c<;>rfl
 |t::l,c=>by
  simp only[a45,b0U,c0I s l];cases a3K (-1) s c<;>rfl
theorem c2e{n N:Nat}(g:n≤5000){l:List a0M}(i:l.all (a2x (N:Int))=true)(z:List (List Int))(e:Int):∀(k:Nat)(c:List (List Int)),k≤l.length→a3q c n→c.length=N→
  match b0U (l.take k) c with
  |some r=>l0f a6g l k (l,z,e,c,())=some (.inl (l,z,e,r,()))
  |none=>∃d,l0f a6g l k (l,z,e,c,())=some (.inr (.ret,l,[],6,d,()))
 |0,c,_,_,_=>rfl
 |k+1,c,hk,hc,hcl=>by
  have hi:k<l.length:=by omega
  have f:a2x (c.length:Int) l[k]=true:=by grind
  obtain⟨b,a,m,h⟩:=c3Q hc g f (sign:=-1) (.inr rfl);rw[List.take_succ_eq_append_getElem hi,c0I];cases hst:a3K (-1) l[k] c with
  |none=>
   simp_all[l0f,a6g]
  |some r=>
   rw[hst]at h;obtain⟨rfl,rfl⟩:=h;obtain⟨j,p⟩:=b3f hc f hst;have o:=c2e g i z e k a (by omega) j (by omega);simp_all[l0f,a6g]
theorem d0Z(c:List (List Int))(l:List a0M):b1G (c,l)=some (if a2G c∧a5d l (c.length:Int)then b8Y (b0U l c)else([],1)):=by
 unfold b1G;simp only[c1v,oB]
 by_cases hq:a2G c
 ·have h:=c5e hq;simp only[hq,decide_true,bT,cF,b4Z,oB,true_and]
  by_cases hm:a5d l (c.length:Int)
  ·simp[hm];rw[c2d h (by have:=hq.2.2.1;omega) (by have:=hq.2.1;omega)]
   have:=c2e (N:=c.length) (by have:=hq.2.2.1;omega:(c.headD []).length≤5000) hm.2.2.2 [] 0 l.length c (a56 _) h rfl
   rw[a46]at this;simp[a0V (show l.length<2147483648 by have:=hm.2.2.1;omega)];cases hu:b0U l c with
   |some r=>
    rw[hu]at this;simp only at this
    erw[this]
    rfl
   |none=>
    rw[hu]at this;obtain⟨d,g⟩:=this
    erw[g]
    rfl
  simp_all
 simp_all
def a0S(b:a1e):Nat:=(b.2.1.headD []).length
theorem a4Q(b:a1e):a3h b=some ((a0S b:Nat):Int):=by
 unfold a3h a0S;obtain⟨d,c,u⟩:=b;cases c with
 |nil=>rfl
 |cons r c=>
  rfl
def a2H(b:a1e):Prop:=4≤b.1∧b.1≤24∧1≤b.2.1.length∧b.2.1.length≤8∧1≤a0S b∧a0S b≤4096∧b.2.1.all (fun r=>decide (r.length=a0S b)&&r.all fun x=>a1n x b.1)=true
instance (b:a1e):Decidable (a2H b):=by unfold a2H;infer_instance
theorem b3V{x w:Int}(h:4≤w∧w≤24):a1T (x,w)=some (a1n x w):=by
 have:=a6t (x:=x) (w:=w.toNat) (by omega)
 grind
theorem a6x(b:a1e):a3i b=some (decide (a2H b)):=by
 unfold a3i a6U
 by_cases h1:4≤b.1
 rotate_left;rw[decide_eq_false (show ¬ a2H b from fun h=>h1 h.1),decide_eq_false h1];rfl
 by_cases h2:b.1≤24
 rotate_left;rw[decide_eq_false (show ¬ a2H b from fun h=>h2 h.2.1),decide_eq_true h1,decide_eq_false h2];rfl
 by_cases h3:((b.2.1.length:Nat):Int)<1
 rw[decide_eq_false (show ¬ a2H b from fun h=>by have:=h.2.2.1;omega),decide_eq_true h1,decide_eq_true h2,decide_eq_true h3];rfl
 by_cases h4:((b.2.1.length:Nat):Int) > 8
 rw[decide_eq_false (show ¬ a2H b from fun h=>by have:=h.2.2.2.1;omega),decide_eq_true h1,decide_eq_true h2,decide_eq_false h3,decide_eq_true h4];rfl;have a:decide (((b.2.1.length:Nat):Int)<1)=false:=by simp_all
 have c:decide (((b.2.1.length:Nat):Int) > 8)=false:=by simp_all
 simp only[decide_eq_true h1,decide_eq_true h2,a,c,cT,cF,oB,bT,a4Q]
 by_cases h5:((a0S b:Nat):Int)<1
 rw[decide_eq_false (show ¬ a2H b from fun h=>by have:=h.2.2.2.2.1;omega),decide_eq_true h5];rfl
 by_cases h6:((a0S b:Nat):Int) > 4096
 rw[decide_eq_false (show ¬ a2H b from fun h=>by have:=h.2.2.2.2.2.1;omega),decide_eq_false h5,decide_eq_true h6];rfl;have d:decide (((a0S b:Nat):Int)<1)=false:=by simp_all
 have l:decide (((a0S b:Nat):Int) > 4096)=false:=by simp_all
 simp[d,l];have g:∀(i:Nat)(r:List Int),short r→y0s a4o (b.2.1,(b.2.1.length:Int),(i:Int),r,(r.length:Int),(0:Int),b,())=some (bif r.all (fun x=>a1n x b.1)then Sum.inl (b.2.1,(b.2.1.length:Int),(i:Int),b,())else Sum.inr (false,())):=fun i r m=>by
  have:=a1S (f:=a4o) r (fun j=>(b.2.1,(b.2.1.length:Int),(i:Int),r,(r.length:Int),(j:Int),b,())) (fun x=>a1n x b.1) (bt:=Sum.inl (b.2.1,(b.2.1.length:Int),(i:Int),b,())) (bf:=Sum.inr (false,()))
   (fun j h hp=>by simp only[a4o,dlt h,cT,a0D h,oB,b3V ⟨h1,h2⟩,hp,bT,cF,a0B (a08 h m)])
   (fun j h hp=>by simp_all[a4o,a0D,b3V])
   (by simp_all[a4o])
  omega
 have k:=a1S (f:=a4p) b.2.1 (fun i=>(b.2.1,(b.2.1.length:Int),(i:Int),b,())) (fun r=>decide (r.length=a0S b)&&r.all fun x=>a1n x b.1) (bt:=Sum.inl ()) (bf:=Sum.inr (false,()))
  (fun i h hp=>by
   simp only[bA,dT]at hp;have e:((((b.2.1[i]).length:Nat):Int) != ((a0S b:Nat):Int))=false:=by simp_all
   have hi:=g i b.2.1[i] (by unfold short;omega);rw[hp.2,cT]at hi;simp only[a4p,dlt h,cT,a0D h,oB,a4Q,e,cF,hi,a0B (show i<1000000 by omega)])
  (fun i h hp=>by
   by_cases hl:(b.2.1[i]).length=a0S b
   have e:((((b.2.1[i]).length:Nat):Int) != ((a0S b:Nat):Int))=false:=by simp_all
   have hi:=g i b.2.1[i] (by unfold short;omega);rw[decide_eq_true hl,a60]at hp;rw[hp,cF]at hi;simp_all[a4p,a0D,a4Q];have e:((((b.2.1[i]).length:Nat):Int) != ((a0S b:Nat):Int))=true:=by grind
   simp only[a4p,dlt h,cT,a0D h,oB,a4Q,e])
  (by simp_all[a4p])
 simp at k;rw[k]
 by_cases hA:b.2.1.all (fun r=>decide (r.length=a0S b)&&r.all fun x=>a1n x b.1)=true
 rw[hA,decide_eq_true (show a2H b from⟨h1,h2,by omega,by omega,by omega,by omega,hA⟩)];rfl;rw[a82.2 hA,decide_eq_false (show ¬ a2H b from fun h=>hA h.2.2.2.2.2.2)];rfl
def a7B{α β:Type}(g:α→Option β):List α→Option (List β)
 | []=>some []
 |a::l=>(g a).bind fun b=>(a7B g l).bind fun r=>some (b::r)
theorem b8Z{α β:Type}{g:α→Option β}:∀{l:List α}{r:List β},a7B g l=some r→r.length=l.length
 | [],r,h=>by cases h;rfl
 |a::l,r,h=>by
  simp only[a7B,a19]at h;obtain⟨b,-,c,f,k⟩:=h;cases k;simp[b8Z f]
theorem c2f{α β:Type}{g:α→Option β}:∀{l:List α}{r:List β},a7B g l=some r→∀a∈l,(g a).isSome=true
 | [],r,h,a,ha=>by cases ha
 |a::l,r,h,x,hx=>by
  simp only[a7B,a19]at h;obtain⟨b,f,d,k,c⟩:=h;rcases mC.1 hx with rfl|hx;rw[f];rfl;exact c2f k x hx
def a9m(f:a1q):Option a1e:=
 if frP f∧((f.2.2.2.2.1.length:Nat):Int)=f.2.2.1.2.1 then
  (a7B (fun s=>a2k s f.2.1) f.2.2.2.2.1).bind fun rs=>
   if a2G rs∧a5d f.2.2.2.1 (rs.length:Int)then
    (b0U f.2.2.2.1 rs).bind fun ch=>if a2H (f.2.2.1.2.2.1,ch,())then some (f.2.2.1.2.2.1,ch,())else none
   else none
 else none
def b2n:a1e:=(0,[],())
def d7d:Option a1e→a1e×Int
 |some b=>(b,0)
 |none=>(b2n,1)
theorem b8v(f:a1q)(all:List Sub)(i:all.length≤8):∀(rest done:List Sub)(rows:List (List Int)),done++rest=all→rows.length=done.length→(∀s∈rest,SmallS s)→
  y0s a4C (all,(all.length:Int),(done.length:Int),rows,b2n,f,())=some (match a7B (fun s=>a2k s f.2.1) rest with|some rs=>Sum.inl (rows++rs,b2n,f,())|none=>Sum.inr (1,b2n,()))
 | [],done,rows,hd,hr,_=>by
  have e:done=all:=by simpa using hd
  subst e;rw[a0E (b:=Sum.inl (rows,b2n,f,())) (by simp only[a4C,dge,cF])];simp[a7B]
 |s::rest,done,rows,hd,hr,h=>by
  have j:=h s (by simp);have k:done.length<all.length:=by rw[←hd];simp
  have a:m0k all (done.length:Int)=some s:=by rw[a0D k];subst hd;simp
  have g:=b9B j f.2.1;simp only[a7B];cases ho:a2k s f.2.1 with
  |none=>
   rw[ho]at g;have d:((1:Int) != 0)=true:=rfl;exact a0E (by simp only[a4C,dlt k,cT,a,oB,g,d];rfl)
  |some r=>
   rw[ho]at g;have c:((0:Int) != 0)=false:=rfl;rw[a0F (s':=(all,(all.length:Int),(((done++[s]).length:Nat):Int),rows++[r],b2n,f,())) (by
    simp only[a4C,dlt k,cT,a,oB,g,c,cF,a0V (show rows.length+1<2147483648 by omega),a0B (show done.length<1000000 by omega)]
    simp)]
   rw[b8v f all i rest (done++[s]) (rows++[r]) (by simpa using hd) (by simp[hr]) (fun t l=>h t (by simp[l]))];simp only[oB];cases a7B (fun s=>a2k s f.2.1) rest<;>simp
theorem c3S{f:a1q}(b:∀s∈f.2.2.2.2.1,SmallS s):a3P f=some (d7d (a9m f)):=by
 unfold a3P a9m;simp only[b5z,oB]
 by_cases hf:frP f
 rotate_left;simp only[hf,decide_false,a39,cT,oB,false_and,if_false];rfl
 by_cases hl:((f.2.2.2.2.1.length:Nat):Int)=f.2.2.1.2.1
 rotate_left;have e:(((f.2.2.2.2.1.length:Nat):Int) != f.2.2.1.2.1)=true:=by simpa using hl
 simp only[hf,decide_true,bT,cF,oB,e,cT,hl,and_false,if_false];rfl;have e:(((f.2.2.2.2.1.length:Nat):Int) != f.2.2.1.2.1)=false:=by simpa using hl
 have a:f.2.2.2.2.1.length≤8:=by have:=hf.1.2.2.2.1;omega
 have k:decide ((0:Int)≤((f.2.2.2.2.1.length:Nat):Int))=true:=by simp
 have h:=b8v f f.2.2.2.2.1 a f.2.2.2.2.1 [] [] rfl rfl b;rw[a23]at h;rw[if_pos ⟨hf,hl⟩];simp only[hf,decide_true,bT,cF,oB,e,k,tN,a0V (show f.2.2.2.2.1.length<2147483648 by omega),a03,cT]
 erw[h]
 cases hm:a7B (fun s=>a2k s f.2.1) f.2.2.2.2.1 with
 |none=>rfl
 |some rs=>
  simp only[oB,a07,d0Z]
  by_cases hq:a2G rs∧a5d f.2.2.2.1 (rs.length:Int)
  ·simp only[if_pos hq];cases hu:b0U f.2.2.2.1 rs with
   |none=>rfl
   |some ch=>
    have g:((0:Int) != 0)=false:=rfl;simp only[b8Y,g,cF,a6x,oB]
    by_cases hb:a2H (f.2.2.1.2.2.1,ch,())
    simp only[hb,decide_true,bT,cF,if_true];rfl;simp only[hb,decide_false,a39,cT,if_false];rfl
  simp only[if_neg hq];rfl
theorem d2m{f:a1q}(h:∀s∈f.2.2.2.2.1,SmallS s):a4k f=some (a9m f).isSome:=by
 unfold a4k;rw[c3S h];cases a9m f<;>rfl
theorem b7p{f:a1q}{b:a1e}(h:a9m f=some b):frP f∧((f.2.2.2.2.1.length:Nat):Int)=f.2.2.1.2.1∧∀s∈f.2.2.2.2.1,(a2k s f.2.1).isSome=true:=by
 unfold a9m at h
 split at h
 rename_i g;simp only[a19]at h;obtain⟨a,k,-⟩:=h;exact⟨g.1,g.2,c2f k⟩;cases h
theorem c6E{f:a1q}{b:a1e}(k:∀s∈f.2.2.2.2.1,SmallS s)(h:a9m f=some b):∃L,L.length≤5600000∧some ((L.length:Nat):Int)=f.2.2.2.2.1.foldr (fun s a=>a.bind fun a=>(a4e (s,f.2.1)).bind fun c=>some (c+a)) (some 0)∧
  a5L f=some (a6w f L,0)∧(∀R:List Int,R.length≤200000000→a6n (a6w f L++R)=some (f,((a6w f L).length:Int),(0:Int))):=by
 obtain⟨g,j,l⟩:=b7p h;have d:a4k f=some true:=by rw[d2m k,h];rfl
 have m:f.2.2.2.2.1.length≤8:=by have:=g.1.2.2.2.1;omega
 obtain⟨t,o,p,i,q,r⟩:=c3P d g m (fun s e=>⟨k s e,l s e⟩);exact⟨a0O t,i,q,r,fun R n=>c2G d g j o p i n⟩
theorem c3T(x:a0M):eqT (.pair (.int .i64) (.pair (.int .i64) (.pair (.int .i64) .unit))) x x=true:=by
 show((x.1==x.1)&&((x.2.1==x.2.1)&&((x.2.2.1==x.2.2.1)&&true)))=true
 simp
theorem b7q{x w:Int}(h:4≤w∧w≤24):b2j (x,w)=some (a1n x w):=by
 have:=c4B (x:=x) (w:=w.toNat) (by omega)
 grind
theorem d1a{x w:Int}(b:4≤w∧w≤24)(h:a1n x w=true):-16777216≤x∧x≤16777216:=by
 unfold a1n at h;simp at h;obtain⟨-,-,f,g⟩:=h;obtain⟨o,k⟩:∃o:Nat,w-1=(o:Int):=⟨(w-1).toNat,by omega⟩;rw[k]at f g;rw[c3q (by omega)]at g;have hp:2^o≤2^24:=a51 (by omega) (by omega);have a:A0n .i64 (-1) (o:Int)=wrap .i64 (-((2^o:Nat):Int)):=by
  unfold A0n;show wrap .i64 (-1*2^(min (o:Int).toNat 64))=_
  grind
 grind[a0C]
theorem c7I{x w:Int}(g:4≤w∧w≤24)(h:a1n x w=true):a0A x=true:=a1H.2 (by have:=d1a g h;omega)
theorem b3W{b:a1e}(h:a2H b):a3q b.2.1 (a0S b)∧a2G b.2.1:=by
 obtain⟨k,a,c,d,e,i,g⟩:=h;have j:a3q b.2.1 (a0S b):=fun r f=>by
  have:=lA.1 g r f
  simp only[bA,dT]at this
  grind[c7I]
 grind[b8X]
theorem c6F{b:a1e}(hb:a2H b){l:List a0M}(c:a5d l (b.2.1.length:Int)){rows:List (List Int)}(n:doO l b.2.1=some rows){ss:List Sub}(q:a7B (fun s=>a2k s ((a0S b:Nat):Int)) ss=some rows)
  {start rate:Int}(h:0≤start∧start≤4194304-((a0S b:Nat):Int))(p:1≤rate∧rate≤1048576):
  a9m (start,((a0S b:Nat):Int),(rate,((b.2.1.length:Nat):Int),b.1,()),l,ss,())=some b:=by
 obtain⟨m,y⟩:=b3W hb;obtain⟨x,z⟩:=b3n l m rfl c.2.2.2 n;have o:=b8Z q;obtain⟨e,i,r,t,u,j,v⟩:=hb;have a:frP (start,((a0S b:Nat):Int),(rate,((b.2.1.length:Nat):Int),b.1,()),l,ss,()):=⟨⟨p.1,p.2,by grind,by grind,e,i⟩,by grind,by grind,h.1,h.2,c⟩;have k:((ss.length:Nat):Int)=((b.2.1.length:Nat):Int):=by omega
 have g:a2G rows:=b8X x (by omega) (by omega) j;have d:a5d l ((rows.length:Nat):Int):=by simp_all
 have w:=c5f l m rfl c.2.2.2 n;have f:((b.1,b.2.1,()):a1e)=b:=rfl;unfold a9m;rw[if_pos ⟨a,k⟩];simp only[q,oB];rw[if_pos ⟨g,d⟩,w];simp only[oB,f];rw[if_pos ⟨e,i,r,t,u,j,v⟩]
def c0J:a1q:=(0,0,(0,0,0,()),[],[],())
theorem d2n(k:Nat)(a:k≤62)(y:Int):∃v:Nat,bits .i64 .and y ((2^k-1:Nat):Int)=(v:Int)∧v<2^k:=by
 have hp:2^k≤2^62:=a51 (by omega) a;have f:0<2^k:=Nat.pow_pos (by omega);have h:((a00 64 y) &&& (a00 64 ((2^k-1:Nat):Int))).toNat=(a00 64 y).toNat%2^k:=by
  rw[a47];have e:(a00 64 ((2^k-1:Nat):Int)).toNat=2^k-1:=by
   rw[a27];generalize 2^k=p at *;omega
  rw[e,a29]
 have g:=a20 (a00 64 y).toNat f;refine⟨(a00 64 y).toNat%2^k,?_,g⟩;show wrap .i64 ((((a00 64 y) &&& (a00 64 ((2^k-1:Nat):Int))).toNat:Nat):Int)=_;rw[h];generalize (a00 64 y).toNat%2^k=z at *;exact a0C (by omega)
theorem c0K(c:List (List Int))(n i:Int){r:List Int}(a:short r):∀(k j:Nat)(s:Int),2≤j→j+k=r.length∨(k=0∧r.length≤j)→∃s',y0s a6K (s,r,(j:Int),c,n,i,())=some (s',c,n,i,())
 |0,j,s,h2,h=>⟨s,a0E (by
   have d:decide ((j:Int)<(r.length:Int))=false:=by grind
   simp only[a6K,d,cF])⟩
 |k+1,j,s,h2,h=>by
  have f:j<r.length:=by omega
  unfold short at a;have b:wrap .i64 ((j:Int)-1)=((j-1:Nat):Int):=by grind[a0C]
  have e:wrap .i64 ((j:Int)-2)=((j-2:Nat):Int):=by grind[a0C]
  have m:=a0D (l:=r) (i:=j-1) (by omega);have o:=a0D (l:=r) (i:=j-2) (by omega);obtain⟨s',g⟩:=c0K c n i a k (j+1) (wrap .i64 (s+v0r (wrap .i64 (wrap .i64 (r[j]-wrap .i64 (2*r[j-1]))+r[j-2])) (wrap .i64 (0-wrap .i64 (wrap .i64 (r[j]-wrap .i64 (2*r[j-1]))+r[j-2]))))) (by omega) (by omega);refine⟨s',?_⟩;rw[←g];exact a0F (by simp only[a6K,dlt f,cT,a0D f,oB,b,e,m,o,a0B (show j<1000000 by omega)])
theorem c2g{c:List (List Int)}{n:Nat}(h:a3q c n)(m:n≤4096)(l:c.length<1000):∃w,a7f c=some w:=by
 unfold a7f;simp only[c1v,oB]
 by_cases hq:a2G c
 rotate_left;simp_all;simp[hq];have f:∀(k i:Nat)(s:Int),i+k=c.length→∃s',y0s a6L (s,c,(c.length:Int),(i:Int),())=some (s',()):=by
  intro k
  induction k with
  |zero=>
   intro i s hi;obtain rfl:i=c.length:=by omega
   simp_all[a0E,a6L]
  |succ k ih=>
   intro i s hi;have g:i<c.length:=by omega
   have o:=(h _ (a25 g)).1;obtain⟨e,a⟩:=c0K c (c.length:Int) (i:Int) (r:=c[i]) (by unfold short;omega) (c[i].length-2) 2 s (a56 _) (by omega);obtain⟨j,b⟩:=ih (i+1) e (by omega);refine⟨j,?_⟩;rw[←b];rw[show((2:Nat):Int)=2 from rfl]at a;exact a0F (by simp only[a6L,dlt g,cT,a0D g,oB,a,a0B (show i<1000000 by omega)])
 obtain⟨s',d⟩:=f c.length 0 0 (by omega);simp_all
def a4R(m:Nat):List a0M:=match m with
 | 1=>[(0,1,-256,())]
 | 2=>[(1,0,-256,())]
 | 3=>[(1,0,-256,()),(0,1,128,())]
 | 4=>[(1,0,-106,()),(0,1,181,()),(1,0,-106,())]
 |_=>[]
theorem b9a{m:Nat}(h:m≤4):b0F (m:Int)=some (a4R m):=by
 match m,h with
 |0,_=>rfl
 | 1,_=>rfl
 | 2,_=>rfl
 | 3,_=>rfl
 | 4,_=>rfl
theorem c2h{m:Nat}(h:m≤4):a5d (a4R m) 2:=by
 match m,h with
 |0,_=>decide
 | 1,_=>decide
 | 2,_=>decide
 | 3,_=>decide
 | 4,_=>decide
theorem b4w{p:List (List Int)}{n:Nat}(hp:a3q p n)(b:p.length=2)(f:a2G p)(a:n≤4096):∀(k m best:Nat)(least:Int),m+k=5→best≤4→(doO (a4R best) p).isSome=true→
  ∃best',y0s a6i (p,(best:Int),least,(m:Int),())=some (((best':Nat):Int),())∧best'≤4∧(doO (a4R best') p).isSome=true
 |0,m,best,least,hm,hb,hd=>by
  obtain rfl:m=5:=by omega
  exact⟨best,a0E rfl,hb,hd⟩
 |k+1,m,best,least,hm,hb,hd=>by
  have d:decide ((m:Int)<5)=true:=by grind
  have e:wrap .i64 ((m:Int)+1)=((m+1:Nat):Int):=a0B (by omega);have g:a5d (a4R m) (p.length:Int):=by grind[c2h]
  cases hdo:doO (a4R m) p with
  |none=>
   have j:((6:Int) != 0)=true:=rfl;rw[a0F (s':=(p,(best:Int),least,((m+1:Nat):Int),())) (by
    simp only[a6i,d,cT,b9a (show m≤4 by omega),oB,c2L,if_pos (show a2G p∧a5d (a4R m) (p.length:Int)from⟨f,g⟩),hdo,b8Y,j,e])]
   exact b4w hp b f a k (m+1) best least (by omega) hb hd
  |some r=>
   have i:((0:Int) != 0)=false:=rfl;obtain⟨l,o⟩:=b3n (a4R m) hp rfl g.2.2.2 hdo
   obtain⟨w,c⟩:=c2g l a (by omega);have h:a6i (p,(best:Int),least,(m:Int),())=bif decide (w<least)then some (.inl (p,(m:Int),w,((m+1:Nat):Int),()))else some (.inl (p,(best:Int),least,((m+1:Nat):Int),())):=by
    simp only[a6i,d,cT,b9a (show m≤4 by omega),oB,c2L,if_pos (show a2G p∧a5d (a4R m) (p.length:Int)from⟨f,g⟩),hdo,b8Y,i,cF,c,e]
   cases hlt:decide (w<least)with
   |true=>
    rw[hlt]at h;rw[a0F h];exact b4w hp b f a k (m+1) m w (by omega) (by omega) (by simp_all)
   |false=>
    rw[hlt]at h;rw[a0F h];exact b4w hp b f a k (m+1) best least (by omega) hb hd
theorem d1b{p:List (List Int)}{n:Nat}(hp:a3q p n)(g:p.length=2)(h:n≤4096):∃m,m≤4∧b1M p=some (a4R m)∧(doO (a4R m) p).isSome=true:=by
 have k:=b8X hp (by omega) (by omega) h;obtain⟨w,c⟩:=c2g hp h (by omega);obtain⟨m,a,f,b⟩:=b4w hp g k h 4 1 0 w rfl (by omega) rfl
 grind[b1M,b9a]
def b2o(i:Nat)(s:a0M):a0M:=(s.1+(i:Int),s.2.1+(i:Int),s.2.2.1,())
theorem c8N{i N:Nat}(h:i+2≤N){s:a0M}(k:a2x 2 s=true):a2x (N:Int) (b2o i s)=true:=by
 obtain⟨a1,a,b,c,d,g,f⟩:=a2U.1 k;exact a2U.2 ⟨by show 0≤s.1+(i:Int);omega,by show s.1+(i:Int)<(N:Int);omega,by show 0≤s.2.1+(i:Int);omega,by show s.2.1+(i:Int)<(N:Int);omega,by show s.1+(i:Int)≠s.2.1+(i:Int);omega,g,f⟩
def c2M(i:Nat)(c c' p:List (List Int)):Prop:=c'.length=c.length∧p.length=2∧c'.getD i []=p.getD 0 []∧c'.getD (i+1) []=p.getD 1 []∧∀j,j≠i→j≠i+1→c'.getD j []=c.getD j []
theorem c6G{i:Nat}{c0 c p p':List (List Int)}(hi:i+2≤c0.length)(h:c2M i c0 c p){s:a0M}(n:a2x 2 s=true)(g:a3K 1 s p=some p'):∃c',a3K 1 (b2o i s) c=some c'∧c2M i c0 c' p':=by
 obtain⟨y,z,A,B,C⟩:=h;obtain⟨a1,k,a,b,q,t,u⟩:=a2U.1 n;unfold a3K at g⊢;simp only at g⊢;have f:∀x:Int,0≤x→x<2→c.getD (x+(i:Int)).toNat []=p.getD x.toNat []:=fun x E o=>by
  grind
 have v:=f s.1 a1 k;have w:=f s.2.1 a b;simp only[b2o];have m:a9H 1 s.2.2.1 (c.getD (s.1+(i:Int)).toNat []) (c.getD (s.2.1+(i:Int)).toNat [])=a9H 1 s.2.2.1 (p.getD s.1.toNat []) (p.getD s.2.1.toNat []):=by simp_all
 simp only[m]
 split at g
 rename_i d;cases g;rw[if_pos d];generalize a9H 1 s.2.2.1 (p.getD s.1.toNat []) (p.getD s.2.1.toNat [])=r at *;refine⟨_,rfl,by grind,by grind,?_,?_,fun j D l=>?_⟩
 have:s.2.1=0∨s.2.1=1:=by omega
 rcases this with e|e;rw[e,show((0:Int)+(i:Int)).toNat=i from by omega,a7w _ (by omega),show(0:Int).toNat=0 from rfl,a7w _ (by omega)];rw[e,show((1:Int)+(i:Int)).toNat=i+1 from by omega,b2d _ (by omega),show(1:Int).toNat=1 from rfl,b2d _ (by omega)];omega
 have:s.2.1=0∨s.2.1=1:=by omega
 rcases this with e|e;simp_all;rw[e,show((1:Int)+(i:Int)).toNat=i+1 from by omega,a7w _ (by omega),show(1:Int).toNat=1 from rfl,a7w _ (by omega)];rw[b2d _ (by omega)];simp_all;simp_all
theorem c3U{i:Nat}{c0:List (List Int)}(hi:i+2≤c0.length):∀(l:List a0M){c p p':List (List Int)},l.all (a2x 2)=true→c2M i c0 c p→doO l p=some p'→∃g,doO (l.map (b2o i)) c=some g∧c2M i c0 g p'
 | [],c,p,p',_,h,hd=>by cases hd;exact⟨c,rfl,h⟩
 |s::l,c,p,p',hl,h,hd=>by
  simp only[a36,bA]at hl;simp[doO,a19]at hd;obtain⟨q,f,k⟩:=hd;obtain⟨d,a,b⟩:=c6G hi h hl.1 f;obtain⟨g,j1,j2⟩:=c3U hi l hl.2 b k;exact⟨g,by simp only[a30,doO,a,oB];exact j1,j2⟩
theorem c5h:∀(l m:List a0M)(c:List (List Int)),doO (l++m) c=(doO l c).bind (doO m)
 | [],m,c=>rfl
 |s::l,m,c=>by
  simp only[a45,doO];cases a3K 1 s c with
  |none=>rfl
  |some d=>exact c5h l m d
theorem c3V{α β:Type}(f:α→β):∀l:List α,l.flatMap (fun x=>[f x])=l.map f
 | []=>rfl
 |x::l=>by simp[c3V f l]
theorem c4P(b:a1e)(first:Nat)(s:first≤100){y:List a0M}(d:y.all (a2x 2)=true)(r:y.length≤10)(out:List a0M)(t:out.length≤1000):
  y0s a6j ((first:Int),(y.length:Int),(0:Int),out,y,b,())=some ((first:Int),out++y.map (b2o first),b,()):=by
 have:=a1G (f:=a6j) (β:=Int×(List a0M×(a1e×Unit))) y (fun i (a:List a0M)=>((first:Int),(y.length:Int),(i:Int),a,y,b,())) (fun a x=>.inl (a++[b2o first x])) (fun i a=>a.length=out.length+i) (fun a=>((first:Int),a,b,()))
  (fun i hi a k=>⟨fun e h=>by
   simp at h;subst h;obtain⟨a1,j,l,m,o,p,q⟩:=a2U.1 (lA.1 d _ (a25 hi));have g:decide ((0:Int)≤(i:Int))=true:=by simp
   have c:a94 y (a31 (i:Int)) ((0:Int),(0:Int),(0:Int),())=y[i]:=by simp_all
   refine⟨?_,by grind⟩;simp only[a6j,dlt hi,cT,g,a03,a0V (show a.length+1<2147483648 by omega),c,a0B (show i<1000000 by omega),a40];rw[a0C (n:=y[i].1+(first:Int)) (by omega),a0C (n:=y[i].2.1+(first:Int)) (by omega)]
   rfl,fun b hb=>by grind⟩)
  (fun a k=>by simp_all[a6j]) (a:=out) (by simp)
 simp_all[b1y,a7Z,c3V]
theorem d4i{c:List (List Int)}{i:Nat}(h:i+2≤c.length):a35 i (a34 (i+2) c)=[c.getD i [],c.getD (i+1) []]:=by
 apply List.ext_getElem?;intro j;rw[a54]
 grind
theorem c0L{b:a1e}{n:Nat}(o:a3q b.2.1 n)(p:n≤4096)(z:b.2.1.length≤8):∀(k j:Nat)(out:List a0M)(c:List (List Int)),j+k=5→out.length≤3*j→out.all (a2x (b.2.1.length:Int))=true→doO out b.2.1=some c→(∀i,2*j≤i→c.getD i []=b.2.1.getD i [])→3*j≤12∨b.2.1.length≤2*j→
  ∃l f,y0s a8w (((2*j:Nat):Int),out,b,())=some (l,())∧l.length≤16∧l.all (a2x (b.2.1.length:Int))=true∧doO l b.2.1=some f
 |k,j,out,c,hk,hol,hob,hdo,hag,h12=>by
  have g:wrap .i64 (((2*j:Nat):Int)+1)=((2*j+1:Nat):Int):=by grind[a0C]
  by_cases hlt:2*j+1<b.2.1.length
  ·cases k with
   |zero=>omega
   |succ k=>
    have e:wrap .i64 (((2*j:Nat):Int)+2)=((2*j+2:Nat):Int):=by grind[a0C]
    have hp:a3q [b.2.1.getD (2*j) [],b.2.1.getD (2*j+1) []] n:=fun r q=>by
     simp only[mC,a48,or_false]at q;rcases q with rfl|rfl
     all_goals grind[a8i]
    obtain⟨m,u,N,E⟩:=d1b hp rfl p;obtain⟨p',d⟩:=Option.isSome_iff_exists.1 E;have h:=(c2h u).2.2.2;have C:(a4R m).length≤3:=by
     match m,u with
     |0,_=>decide
     | 1,_=>decide
     | 2,_=>decide
     | 3,_=>decide
     | 4,_=>decide
    have A:c.length=b.2.1.length:=(b3n out o rfl hob hdo).2;obtain⟨f,F,G,H,I,K,L⟩:=c3U (i:=2*j) (c0:=c) (by omega) (a4R m) h ⟨rfl,rfl,hag _ (a56 _),hag _ (by omega),fun _ _ _=>rfl⟩ d;have B:=c4P b (2*j) (by omega) h (by omega) out (by omega);have a:decide (((2*j+1:Nat):Int)<((b.2.1.length:Nat):Int))=true:=by grind
    have v:decide ((0:Int)≤((2*j+2:Nat):Int))=true:=by rfl
    have w:decide (((2*j+2:Nat):Int)≤((b.2.1.length:Nat):Int))=true:=by grind
    have x:decide ((0:Int)≤((2*j:Nat):Int))=true:=by rfl
    have y:decide (((2*j:Nat):Int)≤((2*j+2:Nat):Int))=true:=by grind
    rw[a0F (s':=(((2*(j+1):Nat):Int),out++(a4R m).map (b2o (2*j)),b,())) (by
     simp only[a8w,g,a,cT,e,v,w,a03,tN,x,y]
     grind[d4i])]
    refine c0L o p z k (j+1) (out++(a4R m).map (b2o (2*j))) f (by omega) (by grind) ?_ (by simp_all[c5h]) (fun i hi=>by grind) (by omega);rw[List.all_append,hob,a60,lA];intro s D;obtain⟨t,M,rfl⟩:=a38.1 D
    grind[c8N]
  refine⟨out,c,a0E ?_,by omega,hob,hdo⟩;have a:decide (((2*j+1:Nat):Int)<((b.2.1.length:Nat):Int))=false:=by grind
  simp only[a8w,g,a,cF]
termination_by k=>k
theorem c3W{b:a1e}(hb:a2H b):∃l h,a7u b=some l∧a5d l (b.2.1.length:Int)∧doO l b.2.1=some h:=by
 obtain⟨c,-⟩:=b3W hb;have a:=hb.2.2.2.1;obtain⟨l,h,d,g,f,k⟩:=c0L c hb.2.2.2.2.2.1 a 5 0 [] b.2.1 rfl (by simp) rfl rfl (fun _ _=>rfl) (by omega);refine⟨l,h,?_,⟨by have:=hb.2.2.1;omega,by omega,g,f⟩,k⟩;unfold a7u;simp[a6x,decide_eq_true hb];simp_all
theorem c8O{r:List Int}{n:Nat}(h:r.length=n∧r.all a0A=true)(a:1≤n)(b:n≤256){k:Int}(f:0≤k)(c:k≤3):
  ∃s,a5y (r,k)=some (s,0)∧SmallS s∧a2k s (n:Int)=some r∧a5a s (n:Int)≤((13+a0I r*n:Nat):Int):=by
 obtain⟨e,g⟩:=h;have d:=a6S (l:=r) (by omega) g
 grind[c6v,d2i]
theorem c0M{effort:Int}(k:0≤effort)(c:effort≤3){rows:List (List Int)}{n:Nat}(i:a3q rows n)(a:1≤n)(b:n≤256)(l:rows.length≤8)(f:a1q):∀(rest d:List (List Int)) (done:List Sub),d++rest=rows→done.length=d.length→
  ∃outs,y0s a5z (effort,rows,(rows.length:Int),(d.length:Int),c0J,a8M f done,())=some (.inl (c0J,a8M f (done++outs),()))∧a7B (fun s=>a2k s (n:Int)) outs=some rest∧(∀s∈outs,SmallS s)∧a7B (fun r=>a5y (r,effort)) rest=some (outs.map fun s=>(s,0))
 | [],d,done,hd,hdl=>by
  have e:d=rows:=by simp_all
  subst e;refine⟨[],?_,rfl,by simp,rfl⟩;simp_all[a0E,a5z]
 |r::rest,d,done,hd,hdl=>by
  have g:d.length<rows.length:=by grind
  have m:m0k rows (d.length:Int)=some r:=by grind[a0D]
  obtain⟨s,j,o,p,-⟩:=c8O (i r (by grind)) a b k c;have z0:((0:Int) != 0)=false:=rfl;have h:a5z (effort,rows,(rows.length:Int),(d.length:Int),c0J,a8M f done,())=some (.inl (effort,rows,(rows.length:Int),(((d++[r]).length:Nat):Int),c0J,a8M f (done++[s]),())):=by
   simp only[a5z,dlt g,cT,m,oB,j,z0,cF];rw[show(a8M f done).2.2.2.2.1=done from rfl,a0V (show done.length+1<2147483648 by omega),cT,a0B (show d.length<1000000 by omega)];rw[show(((d++[r]).length:Nat):Int)=((d.length+1:Nat):Int)from by simp];rfl
  rw[a0F h];obtain⟨outs,u,v,w,x⟩:=c0M k c i a b l f rest (d++[r]) (done++[s]) (by simp_all) (by simp_all);refine⟨s::outs,?_,?_,fun t q=>?_,?_⟩;simp_all;simp_all[a7B]
  grind
  simp_all[a7B]
theorem c6H{b:a1e}(hb:a2H b)(k:a0S b≤256){rate start effort:Int}(n:1≤rate∧rate≤1048576)(B:0≤start∧start≤4194304-((a0S b:Nat):Int))(y:0≤effort)(z:effort≤3):
  ∃l g outs,a4J (b,(rate,((b.2.1.length:Nat):Int),b.1,()),start,effort)=some ((start,((a0S b:Nat):Int),(rate,((b.2.1.length:Nat):Int),b.1,()),l,outs,()),0)∧
   a5d l (b.2.1.length:Int)∧doO l b.2.1=some g∧a7B (fun s=>a2k s ((a0S b:Nat):Int)) outs=some g∧(∀s∈outs,SmallS s)∧a7B (fun r=>a5y (r,effort)) g=some (outs.map fun s=>(s,0))∧
   (effort=0→l=[])∧(0<effort→a7u b=some l):=by
 obtain⟨A,m⟩:=b3W hb;have i:=hb;obtain⟨w,x,D,E,F,G,-⟩:=i;have j:a3W (rate,((b.2.1.length:Nat):Int),b.1,()):=⟨n.1,n.2,by grind,by grind,w,x⟩;have f:∃l g,a5d l (b.2.1.length:Int)∧doO l b.2.1=some g∧(effort=0→l=[])∧(0<effort→a7u b=some l):=by
  by_cases he:effort=0
  exact⟨[],b.2.1,⟨by omega,by omega,by simp,rfl⟩,rfl,fun _=>rfl,fun h=>by omega⟩
  grind[c3W]
 obtain⟨l,g,e,d,a,c⟩:=f;obtain⟨C,H⟩:=b3n l A rfl e.2.2.2 d;obtain⟨outs,j1,j2,j3,j4⟩:=c0M y z C (by omega) k (by omega) (start,((a0S b:Nat):Int),(rate,((b.2.1.length:Nat):Int),b.1,()),l,([]:List Sub),()) g [] [] rfl rfl;refine⟨l,g,outs,?_,e,d,j2,j3,j4,a,c⟩;have u:(b.1 != b.1)=false:=bne_self_eq_false _;have v:(((b.2.1.length:Nat):Int) != ((b.2.1.length:Nat):Int))=false:=bne_self_eq_false _;have o:decide (effort<0)=false:=by simp_all
 have p:decide (effort > 3)=false:=by simp_all
 have q:decide (start<0)=false:=by simp_all
 have t:decide (start > wrap .i64 (4194304-((a0S b:Nat):Int)))=false:=by grind[a0C]
 have z0:((0:Int) != 0)=false:=rfl;unfold a4J;simp only[a6x,decide_eq_true hb,oB,bT,cF,a4y,decide_eq_true j,u,v,o,p,q,a4Q,t];cases he:decide (effort > 0)with
 |true=>
  have:=c (by simp_all)
  simp[this,c2L,if_pos (show a2G b.2.1∧a5d l (b.2.1.length:Int)from⟨m,e⟩),d,b8Y]
  erw[j1]
  rfl
 |false=>
  have:=a (by grind)
  subst this;simp only[cF,oB,c2L,if_pos (show a2G b.2.1∧a5d ([]:List a0M) (b.2.1.length:Int)from⟨m,e⟩),d,b8Y,z0]
  erw[j1]
  rfl
theorem made{b:a1e}(hb:a2H b)(f:a0S b≤256){rate start effort:Int}(e:1≤rate∧rate≤1048576)(a:0≤start∧start≤4194304-((a0S b:Nat):Int))(j:0≤effort)(n:effort≤3):
  ∃g:Int×(a0M×(List a0M×(List Sub×Unit))),a4J (b,(rate,((b.2.1.length:Nat):Int),b.1,()),start,effort)=some ((start,g),0)∧g.1=((a0S b:Nat):Int)∧g.2.1=(rate,((b.2.1.length:Nat):Int),b.1,())∧
   g.2.2.1.length≤16∧g.2.2.2.1.length≤8∧(∀s∈g.2.2.2.1,SmallS s)∧∀h,0≤h∧h≤4194304-((a0S b:Nat):Int)→a9m (h,g)=some b:=by
 obtain⟨l,i,outs,m,k,c,d,o,-⟩:=c6H hb f e a j n;obtain⟨p,-⟩:=b3W hb;have t:=b8Z d;have q:=(b3n l p rfl k.2.2.2 c).2;exact⟨_,m,rfl,rfl,k.2.2.1,by have:=hb.2.2.2.1;show outs.length≤8;omega,o,fun h r=>c6F hb k c d r e⟩
theorem d1c(y:Int):bits .i64 .and y 255=y%256:=by
 have h:((a00 64 y) &&& (a00 64 255)).toNat=(y%18446744073709551616).toNat%256:=by
  rw[a47,a27];have e:(a00 64 255).toNat=2^8-1:=by decide
  rw[e,a29];rfl
 show wrap .i64 ((((a00 64 y) &&& (a00 64 255)).toNat:Nat):Int)=_;rw[h,a0C (by omega)];omega
theorem d7e(x:Int){j:Nat}(g:j<8):A0o .i64 x ((8*j:Nat):Int)=x.fdiv (256^j):=by
 have h:min (a31 ((8*j:Nat):Int)) (IntKind.bits .i64)=8*j:=by
  simp only[tN,IntKind.bits];omega
 unfold A0o;rw[h,show(256:Int)=2^8 from rfl,←Int.pow_mul]
def smB(k:Nat)(x:Int):List Int:=leB k (x%18446744073709551616).toNat
theorem d1d(x:Int)(j:Nat)(g:j<8):((((x%18446744073709551616).toNat) / 256^j%256:Nat):Int)=x.fdiv (256^j)%256:=by
 have h:j=0∨j=1∨j=2∨j=3∨j=4∨j=5∨j=6∨j=7:=by omega
 rcases h with rfl|rfl|rfl|rfl|rfl|rfl|rfl|rfl<;>rw[a57 _ (by decide)]<;>simp only[Nat.reducePow,Int.reducePow]<;>omega
theorem b6g(k:Nat)(x:Int):(smB k x).length=k:=b0N _ _
theorem c8P(k:Nat)(h:k<8)(x:Int):smB (k+1) x=smB k x++[x.fdiv (256^k)%256]:=by
 unfold smB;rw[b8J,d1d x k h]
theorem b7r:∀(k n:Nat),∀b∈leB k n,0≤b∧b<256
 |0,_=>by simp[leB]
 |k+1,n=>fun b hb=>by
  rcases mC.1 hb with rfl|hb;omega;exact b7r k _ b hb
def a3B(w:Int)(l:List Int):List Int:=l.flatMap (smB ((w+7) / 8).toNat)
theorem c3X{k:Nat}{g:Int→List Int}(h:∀x,(g x).length=k):∀(l:List Int),(l.flatMap g).length=l.length*k
 | []=>by simp
 |x::l=>by
  rw[a28,lN,h,c3X h l,lC,a66];omega
theorem c6I{w:Int}(hw:4≤w∧w≤24)(l:List Int):(a3B w l).length≤3*l.length:=by
 unfold a3B;rw[c3X (b6g _)]
 have:((w+7) / 8).toNat≤3:=by omega
 calc l.length*((w+7) / 8).toNat≤l.length*3:=Nat.mul_le_mul_left _ this
  _=3*l.length:=a61 ..
theorem c6J(w:Int)(a b:List Int):a3B w (a++b)=a3B w a++a3B w b:=a74
theorem c3Y(w:Int)(l:List Int):∀b∈a3B w l,0≤b∧b<256:=fun b hb=>by
 obtain⟨x,-,h⟩:=a85.1 hb;exact b7r _ _ b h
theorem d1e(b x n:Int)(i:Int)(l:List Int){k:Nat}(e:k≤8)(out:List Int)(m:out.length<100000000):
  y0s a4E (b,(k:Int),x,l,n,i,(k:Int),(0:Int),out,())=some (b,(k:Int),l,n,i,out++smB k x,()):=by
 have h:=a1C (f:=a4E) (fun j=>(b,(k:Int),x,l,n,i,(k:Int),(j:Int),out++smB j x,()))
  k (b:=(b,(k:Int),l,n,i,out++smB k x,())) (fun j d=>by
   have c:wrap .i64 ((8:Int)*(j:Int))=((8*j:Nat):Int):=by rw[a0C (by omega)];omega
   have g:decide (((8*j:Nat):Int)<0)=false:=by simp;omega
   simp only[a4E];rw[dlt d,a0V (show(out++smB j x).length+1<2147483648 by rw[lN,b6g];omega),c,g,a0B (show j<1000000 by omega),d1c,d7e x (by omega),a7Y,Int.emod_emod_of_dvd _ (by decide),c8P j (by omega),←aA];rfl) (by simp only[a4E,dge,cF])
 have a:out++smB 0 x=out:=by simp[smB,leB]
 simp only[a]at h;exact h
theorem d2o{w:Int}(h:4≤w∧w≤24):wrap .i64 (a22 (wrap .i64 (w+(7:Int))) (8:Int))=((((w+7) / 8).toNat:Nat):Int):=by
 rw[a0C (n:=w+7) (by omega),Int.tdiv_eq_ediv_of_nonneg (by omega),a0C (by omega)];omega
theorem c2i{w:Int}(g:4≤w∧w≤24)(l:List Int)(c:l.length≤1000000){k:Nat}(a:k≤3):∀(rest done out:List Int),done++rest=l→rest.all (fun x=>a1n x w)=true→out.length+3*rest.length<100000000→
  y0s a6J (w,(k:Int),l,(l.length:Int),(done.length:Int),out,())=some (.inl (out++rest.flatMap (smB k),()))
 | [],done,out,hd,_,_=>by
  obtain rfl:done=l:=by simpa using hd
  rw[a0E (b:=Sum.inl (out,())) (by simp only[a6J,dge,cF])]
  simp
 |x::rest,done,out,hd,hf,ho=>by
  have h:done.length<l.length:=by rw[←hd];simp
  have f:m0k l (done.length:Int)=some x:=by rw[a0D h];subst hd;simp
  simp only[a36,bA]at hf;simp only[lC]at ho;rw[a0F (s':=(w,(k:Int),l,(l.length:Int),(((done++[x]).length:Nat):Int),out++smB k x,())) (by
   simp only[a6J,dlt h,cT,f,oB,b3V g,hf.1,bT,cF,d1e w x _ _ l (show k≤8 by omega) out (by omega),a0B (show done.length<1000000 by omega)]
   simp)]
  rw[c2i g l c a rest (done++[x]) (out++smB k x) (by simpa using hd) hf.2 (by rw[lN,b6g];omega)]
  simp
theorem c1w{w:Int}(g:4≤w∧w≤24){l:List Int}(c:l.length≤1000000)(b:l.all (fun x=>a1n x w)=true):a9t (l,w)=some (a3B w l,0):=by
 have f:decide (w<(4:Int))=false:=by simp;omega
 have a:decide (w > (24:Int))=false:=by simp;omega
 have h:=c2i g l c (k:=((w+7) / 8).toNat) (by omega) l [] [] rfl b (by simp;omega);rw[a23]at h;simp only[a9t,f,cF,oB,a,d2o g]
 erw[h]
 rfl
def b0V(d:List Int)(ch c:Nat):List Int:=((a01 d.length).filter fun i=>i%ch==c).map fun i=>d.getD i 0
def a1M(d:List Int)(ch:Nat):List (List Int):=(a01 ch).map (b0V d ch)
def wv(n:Nat)(rows:List (List Int)):List Int:=(a01 n).flatMap fun i=>rows.map fun r=>r.getD i 0
theorem c8Q{α:Type}{a b:List α}{i:Nat}{d:α}(h:i<a.length):(a++b).getD i d=a.getD i d:=by
 grind
theorem c7J(d:List Int)(x:Int)(ch c:Nat):b0V (d++[x]) ch c=if d.length%ch=c then b0V d ch c++[x]else b0V d ch c:=by
 unfold b0V;rw[lN,List.length_singleton,a37,a55,pA];have h:((a01 d.length).filter fun i=>i%ch==c).map (fun i=>(d++[x]).getD i 0)=((a01 d.length).filter fun i=>i%ch==c).map fun i=>d.getD i 0:=
  a24 fun i hi=>c8Q (a41.1 (List.mem_filter.1 hi).1)
 grind
theorem c3Z(c:Nat):∀ch,(a01 ch).filter (·==c)=if c<ch then[c]else[]
 |0=>rfl
 |ch+1=>by
  rw[a37,a55,c3Z c ch]
  grind
theorem c4a{ch c:Nat}(h:c<ch):∀n,(a01 (n*ch)).filter (fun i=>i%ch==c)=(a01 n).map fun i=>i*ch+c
 |0=>by simp
 |n+1=>by
  rw[Nat.succ_mul,a42,a55,c4a h n,a37,pA,List.filter_map];congr 1;have e:∀i∈a01 ch,((fun i=>i%ch==c)∘fun x=>n*ch+x) i=(i==c):=fun i hi=>by
   simp_all[a49]
  simp_all[List.filter_congr,c3Z]
theorem b7s{d:List Int}{n ch c:Nat}(g:d.length=n*ch)(h:c<ch):b0V d ch c=(a01 n).map fun i=>d.getD (i*ch+c) 0:=by
 simp_all[b0V,c4a]
theorem c8R(f:Nat→Int)(ch:Nat):∀n,(a01 n).flatMap (fun i=>(a01 ch).map fun c=>f (i*ch+c))=(a01 (n*ch)).map f
 |0=>by simp
 |n+1=>by
  rw[a37,a74,c8R f ch n,Nat.succ_mul,a42,pA,a32];simp[Function.comp_def]
theorem c6K(d:List Int):(a01 d.length).map (fun i=>d.getD i 0)=d:=
 a50 (by simp) fun i h g=>by simp_all
theorem c0N{α β:Type}{l:List α}{f g:α→List β}(h:∀a∈l,f a=g a):l.flatMap f=l.flatMap g:=by
 grind[a24]
theorem d1f{d:List Int}{n ch:Nat}(h:d.length=n*ch):wv n (a1M d ch)=d:=by
 have:wv n (a1M d ch)=(a01 n).flatMap fun i=>(a01 ch).map fun c=>d.getD (i*ch+c) 0:=
  c0N fun i hi=>by
   grind[a1M,a24,b7s]
 grind[c8R,c6K]
theorem d2p{d:List Int}{n ch a b:Nat}(g:d.length=n*ch)(k:b≤n):wv (b-a) ((a1M d ch).map fun r=>(r.take b).drop a)=(d.take (b*ch)).drop (a*ch):=by
 have:wv (b-a) ((a1M d ch).map fun r=>(r.take b).drop a)=(a01 (b-a)).flatMap fun i=>(a01 ch).map fun c=>(fun j=>d.getD (a*ch+j) 0) (i*ch+c):=
  c0N fun i hi=>by
   have hi:=a41.1 hi;unfold a1M;rw[a32,a32];refine a24 fun c h=>?_
   show(((b0V d ch c).take b).drop a).getD i 0=d.getD (a*ch+(i*ch+c)) 0;rw[b7s g (a41.1 h),lD,a54,List.getElem?_take_of_lt (by omega),a83,List.getElem?_range (by omega)]
   grind
 rw[this];refine(c8R (fun j=>d.getD (a*ch+j) 0) ch (b-a)).trans ?_
 have hb:b*ch≤d.length:=by simp_all[a02]
 have e:(b-a)*ch=b*ch-a*ch:=Nat.sub_mul ..;refine a50 (by simp_all) fun i f l=>?_
 grind
def prm:Nat:=2305843009213693951
def prs(h:Nat)(l:List Nat):Nat:=l.foldl (fun h c=>(h*1000003+(c+1))%prm) h
theorem d1g(h:Nat):prs h []=h:=rfl
theorem c4b(h c:Nat)(l:List Nat):prs h (c::l)=prs ((h*1000003+(c+1))%prm) l:=rfl
theorem c6L(h:Nat)(a b:List Nat):prs h (a++b)=prs (prs h a) b:=a43 ..
theorem c4c{h:Nat}(g:h<prm)(l:List Nat):prs h l<prm:=by
 induction l generalizing h with
 |nil=>exact g
 |cons c l ih=>exact ih (a20 _ (by decide))
theorem b6h(a b c:Nat):(a%prm*b+c)%prm=(a*b+c)%prm:=by
 simp_all[Nat.add_mod]
theorem c4d(a b:Nat):(a+b%prm)%prm=(a+b)%prm:=by
 simp
theorem c8S(l:List Nat)(h:Nat):prs h l%prm=(h*1000003^l.length+prs 0 l)%prm:=by
 induction l generalizing h with
 |nil=>simp[d1g]
 |cons c l ih=>
  rw[c4b,c4b,ih,b6h,←c4d (h*_),ih ((0*1000003+(c+1))%prm),b6h,c4d,lC,a80]
  grind
theorem c8T(a b:List Nat):prs 0 (a++b)=(prs 0 a*(1000003^b.length%prm)+prs 0 b)%prm:=by
 rw[c6L,←a49 (c4c (c4c (by decide) a) b),c8S,a61 (prs 0 a) (_%prm),b6h,a61 (prs 0 a)]
def pwr:Nat→Nat→Nat→Nat→Nat
 |0,_,p,_=>p
 |k+1,n,p,s=>if n=0 then p else pwr k (n / 2) (if n%2=1 then p*s%prm else p) (s*s%prm)
theorem c8U(a b:Nat):a%prm*b%prm=a*b%prm:=b6h a b 0
theorem c4e(a n:Nat):(a%prm)^n%prm=a^n%prm:=by rw[←Nat.pow_mod]
theorem d2q(k n p s:Nat)(h:n<2^k)(hp:p<prm):pwr k n p s=p*s^n%prm:=by
 induction k generalizing n p s with
 |zero=>simp_all[pwr,a49]
 |succ k ih=>
  rw[pwr]
  by_cases h0:n=0
  simp_all[a49];rw[if_neg h0];have g:n / 2<2^k:=by omega
  have f:(s*s)^(n / 2)=s^(2*(n / 2)):=by grind[Nat.pow_mul]
  by_cases h1:n%2=1
  rw[if_pos h1,ih _ _ _ g (a20 _ (by decide)),a58,c4e,f,←a58,c8U,Nat.mul_assoc,←Nat.pow_succ']
  grind
  rw[if_neg h1,ih _ _ _ g hp,a58,c4e,f,←a58]
  grind
theorem c7K{u d y1 y0 q r:Nat}(g:u=q*y1+r)(h:q*y0≤4294967296*r+d):q*(y1*4294967296+y0)≤u*4294967296+d:=by
 grind
theorem d1h(u d e y:Nat):((u*4294967296+d)%y*4294967296+e)%y=((u*4294967296+d)*4294967296+e)%y:=by
 simp_all[Nat.add_mod,a58]
theorem c7L(n k y:Nat)(h:0<k):n*k%(y*k) / k=n%y:=by
 simp_all[Nat.mul_mod_mul_right]
@[reducible] def Pc:Type:=a1q×(a1e×List Int)
def c4f(fm:a0M)(st:Nat)(x:Pc):Prop:=
 x.1.1=(st:Int)∧x.1.2.1=((a0S x.2.1:Nat):Int)∧x.1.2.2.1=fm∧a3P x.1=some (x.2.1,0)∧a5L x.1=some (x.2.2,0)∧
  (∀R:List Int,R.length≤200000000→a6n (x.2.2++R)=some (x.1,(x.2.2.length:Int),(0:Int)))∧a2H x.2.1∧x.2.1.1=fm.2.2.1∧a0S x.2.1≤64∧1≤x.2.2.length∧x.2.2.length≤700800
def a2N(fm:a0M):Nat→List Pc→Prop
 |_,[]=>True
 |st,x::xs=>c4f fm st x∧a2N fm (st+a0S x.2.1) xs
def a4b:Nat→Nat→List Pc→List (Int×Int×Unit)
 |_,_,[]=>[]
 |st,off,x::xs=>((st:Int),(off:Int),())::a4b (st+a0S x.2.1) (off+x.2.2.length) xs
def a0L(xs:List Pc):Nat:=(xs.map fun x=>a0S x.2.1).sum
def a0X(xs:List Pc):List Int:=xs.flatMap fun x=>x.2.2
def wvB(b:a1e):List Int:=wv (a0S b) b.2.1
def a1N(xs:List Pc):List Int:=xs.flatMap fun x=>wvB x.2.1
def prI(l:List Int):Nat:=prs 0 (l.map a31)
def a2d(fm:a0M)(xs:List Pc):Nat:=prI (a3B fm.2.2.1 (a1N xs))
theorem c0O(l:List Int):prI l<prm:=c4c (by decide) _
theorem d1i(a b:List Int):prI (a++b)=(prI a*(1000003^b.length%prm)+prI b)%prm:=by
 simp_all[prI,c8T]
theorem a4n(xs:List Pc)(x:Pc):a0L (xs++[x])=a0L xs+a0S x.2.1:=by simp[a0L]
theorem a7x(xs:List Pc)(x:Pc):a0X (xs++[x])=a0X xs++x.2.2:=by simp[a0X]
theorem b3g(xs:List Pc)(x:Pc):a1N (xs++[x])=a1N xs++wvB x.2.1:=by simp[a1N]
theorem c7M{rows:List (List Int)}:∀n,(wv n rows).length=n*rows.length:=fun n=>by
 simp_all[wv,List.map_const']
theorem c2j{fm:a0M}:∀{xs:List Pc}{st:Nat}{x:Pc},a2N fm st xs→c4f fm (st+a0L xs) x→a2N fm st (xs++[x])
 | [],st,x,_,h=>⟨by simpa[a0L]using h,trivial⟩
 |y::xs,st,x,h,h2=>⟨h.1,c2j h.2 (by simp_all[a0L,a75])⟩
theorem b5a:∀(xs:List Pc)(st off:Nat)(x:Pc),a4b st off (xs++[x])=a4b st off xs++[(((st+a0L xs:Nat):Int),((off+(a0X xs).length:Nat):Int),())]
 | [],st,off,x=>by rfl
 |y::xs,st,off,x=>by
  simp_all[a4b,b5a,a0L,a0X,a75]
theorem b0W:∀(xs:List Pc)(st off:Nat),(a4b st off xs).length=xs.length
 | [],_,_=>rfl
 |_::xs,_,_=>congrArg (·+1) (b0W xs _ _)
theorem b3h{fm:a0M}:∀{xs:List Pc}{st:Nat},a2N fm st xs→(a0X xs).length≤700800*xs.length
 | [],_,_=>by simp[a0X]
 |x::xs,st,h=>by
  have:=b3h h.2
  have:=h.1.2.2.2.2.2.2.2.2.2.2
  simp only[a0X,a28,lN,lC]at *;omega
theorem d1j{b:a1e}{fm:a0M}(hb:a2H b)(i:a0S b≤64)(j:1≤fm.1∧fm.1≤1048576)(d:fm.2.1=((b.2.1.length:Nat):Int))(h:fm.2.2.1=b.1){st:Nat}(q:st+a0S b≤4194304){effort:Int}(m:0≤effort)(n:effort≤3):
  ∃g p,a4J (b,fm,(st:Int),effort)=some (((st:Int),g),0)∧c4f fm st (((st:Int),g),b,p):=by
 obtain⟨rate,ch,bits,u⟩:=fm;cases u;simp only at j d h;subst d h;obtain⟨g,r,s,t,x,y,l,v⟩:=made hb (by omega) (rate:=rate) (start:=(st:Int)) (effort:=effort) j (by omega) m n;have a:=v (st:Int) (by omega);obtain⟨L,o,-,e,c⟩:=c6E (f:=((st:Int),g)) l a;have k:=c3S (f:=((st:Int),g)) l;rw[a]at k;have w:=b8W (b7p a).1 o;refine⟨g,a6w ((st:Int),g) L,r,rfl,s,t,k,e,c,hb,rfl,i,?_,?_⟩
 all_goals grind[a6w]
theorem c4g{d:List Int}{n ch c:Nat}(g:d.length=n*ch)(h:c<ch):(b0V d ch c).length=n:=by rw[b7s g h];simp
theorem c8V{d:List Int}{ch c:Nat}{x:Int}(h:x∈b0V d ch c):x∈d:=by
 unfold b0V at h
 grind
def a8j(w:Int)(d:List Int)(ch:Nat):a1e:=(w,a1M d ch,())
theorem b6i{w:Int}{d:List Int}{n ch:Nat}(g:d.length=n*ch)(h:0<ch):a0S (a8j w d ch)=n:=by
 obtain⟨k,rfl⟩:∃k,ch=k+1:=⟨ch-1,by omega⟩;show((a1M d (k+1)).headD []).length=n
 grind[a1M,List.range_succ_eq_map,c4g]
theorem d1k{w:Int}{d:List Int}{n ch:Nat}(f:d.length=n*ch)(h:1≤ch∧ch≤8)(j:1≤n∧n≤4096)(k:4≤w∧w≤24)(a:d.all (fun x=>a1n x w)=true):a2H (a8j w d ch):=by
 have b:=b6i (w:=w) f (show 0<ch by omega);have g:(a1M d ch).length=ch:=by simp[a1M]
 refine⟨k.1,k.2,by simp_all[a8j],by simp_all[a8j],by omega,by omega,?_⟩;rw[b];refine lA.2 fun r e=>?_
 obtain⟨c,g,rfl⟩:=a38.1 (show r∈(a01 ch).map (b0V d ch)from e);rw[bA,dT];exact⟨c4g f (a41.1 g),lA.2 fun x i=>lA.1 a x (c8V i)⟩
theorem c5i{w:Int}{d:List Int}{n ch:Nat}(g:d.length=n*ch)(h:0<ch):wvB (a8j w d ch)=d:=by
 unfold wvB;rw[b6i g h];exact d1f g
def b5b(n:Nat)(l:List Int):Nat:=l.foldl (fun n c=>n*256+c.toNat) n
def a4j(k n:Nat):List Int:=(leB k n).reverse
theorem b9b:∀(k n:Nat),n<256^k→b5b 0 (a4j k n)=n
 |0,n,h=>by simp at h;subst h;rfl
 |k+1,n,h=>by
  have g:=b9b k (n / 256) (by rw[a67 (by omega)];rw[a80]at h;exact h);unfold b5b a4j at *;rw[leB,List.reverse_cons,a43,g]
  simp
  omega
theorem a6T(k n:Nat):(a4j k n).length=k:=by simp[a4j,b0N]
theorem b6j(k n:Nat):∀b∈a4j k n,0≤b∧b<256:=fun b hb=>b7r k n b (List.mem_reverse.1 hb)
theorem c1x{n k:Nat}(j:n<18446744073709551616)(d:k≤8):a5h ((n:Int),(k:Int))=some (leB k n):=by
 have c:a3R (k:Int)=some (k:Int):=by
  grind[a3R,b1j,b7B]
 simp[a5h,c];have h:=a1C (f:=a1R) (fun i=>(((n / 256^i:Nat):Int),(k:Int),(i:Int),leB i n,())) k (b:=(leB k n,())) (fun i hi=>by
   have g:wrap .u64 (a22 ((n / 256^i:Nat):Int) 256)=((n / 256^(i+1):Nat):Int):=by
    have e:a22 ((n / 256^i:Nat):Int) 256=((n / 256^i / 256:Nat):Int):=rfl;rw[e,Nat.div_div_eq_div_mul,←a80]
    have:=a90 n (256^(i+1))
    grind[a0N]
   have a:wrap .u8 (a44 ((n / 256^i:Nat):Int) 256)=((n / 256^i%256:Nat):Int):=by
    have e:a44 ((n / 256^i:Nat):Int) 256=((n / 256^i%256:Nat):Int):=rfl;rw[e,a7Y];omega
   simp only[a1R];rw[dlt hi,a0V (show(leB i n).length+1<2147483648 by rw[b0N];omega),g,a0B (show i<1000000 by omega),a,b8J];rfl) (by simp_all[a1R])
 simp only[Nat.pow_zero,Nat.div_one,leB]at h;simp_all
theorem b7t{n k:Nat}(g:n<18446744073709551616)(h:k≤8):a4l ((n:Int),(k:Int))=some (a4j k n):=by
 unfold a4l a1P;simp only[c1x g h,oB];rw[decide_eq_true (by rw[b0N];omega)];rfl
def c32(s:BitVec 32):BitVec 32:=bif s.getLsbD 0 then(s >>> 1) ^^^ 0xedb88320#32 else s >>> 1
def c8W:Nat→BitVec 32→BitVec 32
 |0,s=>s
 |k+1,s=>c8W k (c32 s)
def c8X(s x:BitVec 32):BitVec 32:=c8W 8 (s ^^^ x)
def d2r(s:BitVec 32)(l:List (BitVec 32)):BitVec 32:=l.foldl c8X s
theorem c8Y(s:BitVec 32):a00 32 ((s.toNat:Nat):Int)=s:=by
 simp
theorem d2s(s:BitVec 32):wrap .u32 ((s.toNat:Nat):Int)=((s.toNat:Nat):Int):=by
 have:=s.isLt
 grind[wrap,IntKind.bits,IntKind.signed]
theorem c6M(s t:BitVec 32):bits .u32 .xor ((s.toNat:Nat):Int) ((t.toNat:Nat):Int)=(((s ^^^ t).toNat:Nat):Int):=by
 show wrap .u32 (((a00 32 _ ^^^ a00 32 _).toNat:Nat):Int)=_;rw[c8Y,c8Y,d2s]
theorem d4j(s:BitVec 32):(bits .u32 .and ((s.toNat:Nat):Int) 1==(1:Int))=s.getLsbD 0:=by
 have h:bits .u32 .and ((s.toNat:Nat):Int) 1=(((s &&& 1#32).toNat:Nat):Int):=by
  show wrap .u32 (((a00 32 _ &&& a00 32 1).toNat:Nat):Int)=_;rw[c8Y,show a00 32 1=1#32 from rfl,d2s]
 rw[h,a47,show(1#32).toNat=1 from rfl,Nat.and_one_is_mod,a69,Nat.testBit_zero]
 grind
theorem d4k(s:BitVec 32):A0o .u32 ((s.toNat:Nat):Int) 1=(((s >>> 1).toNat:Nat):Int):=by
 unfold A0o;rw[show min (a31 1) (IntKind.bits .u32)=1 from rfl,a57 _ (by simp),BitVec.toNat_ushiftRight,Nat.shiftRight_eq_div_pow];rfl
def e32(s:Int):Int:=bif (bits .u32 .and s 1)==(1:Int)then bits .u32 .xor (A0o .u32 s 1) 3988292384 else A0o .u32 s 1
theorem d2t(s:BitVec 32):e32 ((s.toNat:Nat):Int)=(((c32 s).toNat:Nat):Int):=by
 unfold e32 c32;rw[d4j,d4k,show(3988292384:Int)=(((0xedb88320#32).toNat:Nat):Int)from rfl,c6M]
 grind
theorem c4h:∀(k:Nat)(s:BitVec 32),rep e32 k ((s.toNat:Nat):Int)=(((c8W k s).toNat:Nat):Int)
 |0,_=>rfl
 |k+1,s=>by
  rw[show rep e32 (k+1) ((s.toNat:Nat):Int)=rep e32 k (e32 ((s.toNat:Nat):Int))from rfl,d2t,c4h k];rfl
def d2u(l:List Int):BitVec 32:=d2r 0xffffffff#32 (l.map (a00 32))
def a2y(l:List Int):Nat:=(~~~ d2u l).toNat
theorem b6k(l:List Int):a2y l<4294967296:=(~~~ d2u l).isLt
@[reducible] def b9c:Type:=a0M×(Int×(Int×(List (Int×(Int×Unit))×(List a1q×Unit))))
def mkT(fm:a0M)(xs:List Pc):b9c:=(fm,((a0L xs:Nat):Int),((a2d fm xs:Nat):Int),a4b 0 0 xs,xs.map (·.1),())
def nsP(xs:List Pc):List Nat:=xs.flatMap fun x=>[x.2.2.length,a0S x.2.1]
def a3L(fm:a0M)(xs:List Pc):List Nat:=[fm.1.toNat,fm.2.1.toNat,fm.2.2.1.toNat,xs.length]++nsP xs
def b9d:List Int:=[75,78,83,68]
def a1b(fm:a0M)(xs:List Pc):List Int:=b9d++((a3L fm xs).flatMap a0K++a4j 8 (a2d fm xs))
def a4S(fm:a0M)(xs:List Pc):List Int:=a1b fm xs++(a4j 4 (a2y (a1b fm xs))++a0X xs)
def a1f(l:List Int)(ch st en:Nat):List Int:=(l.take (en*ch)).drop (st*ch)
theorem c2k{l:List Int}{ch st en:Nat}(h:en*ch≤l.length):(a1f l ch st en).length=(en-st)*ch:=by
 simp_all[a1f,Nat.sub_mul]
theorem b4x{l:List Int}{ch st en:Nat}(h:st≤en):l.take (st*ch)++a1f l ch st en=l.take (en*ch):=by
 grind[a1f,a02,List.take_append_drop]
theorem c7N{l:List Int}{p:Int→Bool}{ch st en:Nat}(h:l.all p=true):(a1f l ch st en).all p=true:=
 lA.2 fun x g=>lA.1 h x (a70 (a71 g))
theorem b5A(xs:List Pc):(nsP xs).length=2*xs.length:=by
 induction xs with
 |nil=>rfl
 |cons x xs ih=>grind[nsP]
theorem c8Z(xs:List Pc)(x:Pc):nsP (xs++[x])=nsP xs++[x.2.2.length,a0S x.2.1]:=by simp[nsP]
theorem c2l{fm:a0M}:∀{xs:List Pc}{st:Nat},a2N fm st xs→∀n∈nsP xs,n<1048704
 | [],_,_,n,hn=>by simp[nsP]at hn
 |x::xs,st,h,n,hn=>by
  have g:=h.1.2.2.2.2.2.2.2.2;simp only[nsP,a28,mA,mC,a48,or_false]at hn;rcases hn with(rfl|rfl)|hn;omega;omega;exact c2l h.2 n hn
theorem b4y{fm:a0M}:∀{xs:List Pc}{st:Nat},a2N fm st xs→xs.length≤a0L xs∧a0L xs≤64*xs.length
 | [],_,_=>by simp[a0L]
 |x::xs,st,h=>by
  have g:=h.1.2.2.2.2.2.2.1.2.2.2.2.1;have f:=h.1.2.2.2.2.2.2.2.2.1
  have:=b4y h.2
  simp only[a0L,a30,List.sum_cons,lC]at *;omega
theorem b4z:∀(l:List Nat),(∀n∈l,n<9223372036854775808)→(l.flatMap a0K).length≤9*l.length
 | [],_=>by simp
 |n::l,h=>by
  have:=(a8K (h n (by simp))).2
  have:=b4z l fun m g=>h m (by simp[g])
  simp only[a28,lN,lC];omega
theorem a7y{fm:a0M}(f:a3W fm){xs:List Pc}(h:a2N fm 0 xs)(i:xs.length≤256):∀n∈a3L fm xs,n<1048704:=fun n g=>by
 simp only[a3L,mA,mC,a48,or_false]at g;obtain⟨k,a,b,c,d,e⟩:=f;rcases g with(rfl|rfl|rfl|rfl)|g;omega;omega;omega;omega;exact c2l h n g
theorem b7u{fm:a0M}(g:a3W fm){xs:List Pc}(h:a2N fm 0 xs)(k:xs.length≤256):(a1b fm xs).length≤6000:=by
 have a:=b4z (a3L fm xs) fun n f=>a08 (a7y g h k n f) (by simp)
 grind[a3L,b5A,a1b,b9d,a6T]
def a9I(y0 d q r:Nat):Prop:=4294967296≤q∨4294967296*r+d<q*y0
instance (y0 d q r:Nat):Decidable (a9I y0 d q r):=inferInstanceAs (Decidable (_∨_))
def b7v(u d y1 y0:Nat):Nat:=
 if a9I y0 d (u / y1) (u%y1)then
  if 4294967296≤u%y1+y1 then u / y1-1
  else if a9I y0 d (u / y1-1) (u%y1+y1)then u / y1-2 else u / y1-1
 else u / y1
theorem d1l{u d y1 y0:Nat}(t:2147483648≤y1)(p:y0<4294967296)(w:u<y1*4294967296+y0)(v:d<4294967296):
  b7v u d y1 y0=(u*4294967296+d) / (y1*4294967296+y0):=by
 have hp:0<y1:=by omega
 have e:u=u / y1*y1+u%y1:=(Nat.div_add_mod' u y1).symm;have s:=a20 u hp;have j:u / y1≤4294967297:=by
  have:u / y1<4294967298:=(a67 hp).2 (by omega)
  omega
 have y:u*4294967296+d<(u / y1+1)*(y1*4294967296+y0):=by
  grind
 have over:∀{q r:Nat},u=q*y1+r→a9I y0 d q r→u*4294967296+d<q*(y1*4294967296+y0):=by
  intro q r g f;rcases f with f|f
  have:=a02 (y1*4294967296+y0) f
  omega
  grind
 have fits:∀{q r:Nat},u=q*y1+r→¬ a9I y0 d q r→q*(y1*4294967296+y0)≤u*4294967296+d:=
  fun g f=>c7K g (Nat.le_of_not_lt fun h=>f (.inr h))
 have i:∀{q r:Nat},u=q*y1+r→q≤4294967296→4294967296≤r→q*(y1*4294967296+y0)≤u*4294967296+d:=by
  intro q r g j s;refine c7K g ?_
  have a:=a05 j (a52 p);omega
 unfold b7v;generalize u / y1=q at *;generalize u%y1=r at *;have done:∀{m:Nat},m*(y1*4294967296+y0)≤u*4294967296+d→u*4294967296+d<(m+1)*(y1*4294967296+y0)→m=(u*4294967296+d) / (y1*4294967296+y0):=
  fun a b=>(Nat.div_eq_of_lt_le a b).symm
 by_cases c:a9I y0 d q r
 rw[if_pos c];have o:=over e c;have q1:1≤q:=a77 fun z=>by grind
 obtain⟨q,rfl⟩:∃k,q=k+1:=⟨q-1,by omega⟩;rw[Nat.add_sub_cancel];have l:u=q*y1+(r+y1):=by grind
 by_cases c1:4294967296≤r+y1
 grind
 rw[if_neg c1]
 by_cases c2:a9I y0 d q (r+y1)
 rw[if_pos c2];have o1:=over l c2;have x:1≤q:=a77 fun z=>by grind
 obtain⟨q,rfl⟩:∃k,q=k+1:=⟨q-1,by omega⟩;have n:u=q*y1+(r+y1+y1):=by grind
 exact done (m:=q) (i n (by omega) (by omega)) o1
 grind
 grind
theorem d2v(hi lo:Nat):
  (((hi*8+lo / 2305843009213693952)*4294967296+lo*8%18446744073709551616 / 4294967296)%18446744073709551608*4294967296+lo*8%18446744073709551616%4294967296)%18446744073709551608 / 8
   = (hi*18446744073709551616+lo)%prm:=by
 have e:((hi*8+lo / 2305843009213693952)*4294967296+lo*8%18446744073709551616 / 4294967296)*4294967296+lo*8%18446744073709551616%4294967296=(hi*18446744073709551616+lo)*8:=by omega
 rw[d1h,e];exact c7L _ 8 prm (by simp)
theorem c9a{hi lo:Nat}(h:hi<prm)(g:lo<18446744073709551616):hi*8+lo / 2305843009213693952<4294967295*4294967296+4294967288:=by
 unfold prm at h;omega
theorem c7O{a b c:Nat}(h:a<prm)(hb:b<prm)(g:c≤prm):(a*b+c) / 18446744073709551616<prm:=by
 have:=a05 (a72 h) (a72 hb)
 unfold prm at *;omega
theorem d2w{a b x0 x1 y0 y1 t:Nat}(k:x0=a%4294967296)(c:x1=a / 4294967296)(d:y0=b%4294967296)(i:y1=b / 4294967296)(r:t=x1*y0+x0*y0 / 4294967296)
  (n:a<18446744073709551616)(hb:b<18446744073709551616):
  x1*y1+t / 4294967296+(t%4294967296+x0*y1) / 4294967296=a*b / 18446744073709551616∧x0*y0<18446744073709551616∧t<18446744073709551616∧t%4294967296+x0*y1<18446744073709551616:=by
 have j:a=x1*4294967296+x0:=by omega
 have l:b=y1*4294967296+y0:=by omega
 have e:a*b=x1*y1*18446744073709551616+(x1*y0+x0*y1)*4294967296+x0*y0:=by
  grind
 have m:∀{p q:Nat},p<4294967296→q<4294967296→p*q≤4294967295*4294967295:=fun hp o=>a05 (by omega) (by omega);have h:=m (show x0<4294967296 by omega) (show y0<4294967296 by omega);have f:=m (show x1<4294967296 by omega) (show y0<4294967296 by omega);have g:=m (show x0<4294967296 by omega) (show y1<4294967296 by omega);omega
theorem c6N(n:Nat):wrap .u64 (n:Int)=((n%18446744073709551616:Nat):Int):=by
 rfl
theorem c4i{n k:Nat}(h:k≤64):A0o .u64 (n:Int) (k:Int)=((n / 2^k:Nat):Int):=by
 have g:min (a31 (k:Int)) (IntKind.bits .u64)=k:=by simp_all[IntKind.bits]
 unfold A0o
 grind
theorem c7P(n:Nat):A0o .u64 (n:Int) 32=((n / 4294967296:Nat):Int):=c4i (k:=32) (by omega)
theorem c9Z(n:Nat):bits .u64 .and (n:Int) 4294967295=((n%4294967296:Nat):Int):=by
 show wrap .u64 (((a00 64 (n:Int) &&& a00 64 4294967295).toNat:Nat):Int)=_;have g:(a00 64 4294967295).toNat=4294967295:=rfl;have h:(a00 64 (n:Int)).toNat=n%18446744073709551616:=by rfl
 rw[a47,h,g,show 4294967295=2^32-1 from rfl,a29,c6N];omega
theorem d7f{a b:Nat}(f:a<2305843009213693952)(hb:b<8):bits .u64 .or ((a*8:Nat):Int) (b:Int)=((a*8+b:Nat):Int):=by
 show wrap .u64 (((a00 64 ((a*8:Nat):Int) ||| a00 64 (b:Int)).toNat:Nat):Int)=_;have h:(a00 64 ((a*8:Nat):Int)).toNat=2^3*a:=by grind[a27]
 have g:(a00 64 (b:Int)).toNat=b:=by grind
 rw[a89,h,g,←a53 (i:=3) hb a,c6N];omega
theorem c9b{a b:Nat}(f:a<18446744073709551616)(hb:b<18446744073709551616):a5V ((a:Int),(b:Int))=some (((a*b / 18446744073709551616:Nat):Int),((a*b%18446744073709551616:Nat):Int)):=by
 obtain⟨k,c,d,e⟩:=d2w (a:=a) (b:=b) rfl rfl rfl rfl rfl f hb;unfold a5V;simp only[c7P,c9Z,←a91,←Int.natCast_add,c6N,sj,pJ,Int.natCast_inj];refine⟨?_,trivial⟩
 revert k c d e
 generalize a%4294967296*(b%4294967296)=p00;generalize a / 4294967296*(b%4294967296)=p10;generalize a%4294967296*(b / 4294967296)=p01;have i:a*b / 18446744073709551616<18446744073709551616:=a73 (Nat.lt_of_le_of_lt (a05 (a52 f) (a52 hb)) (by omega:18446744073709551616*18446744073709551616<18446744073709551616*18446744073709551616+1) |> fun h=>by
  rcases Nat.lt_or_ge (a*b) (18446744073709551616*18446744073709551616)with g|g;omega
  have:=Nat.mul_lt_mul_of_lt_of_le f (a52 hb) (by omega);omega)
 omega
theorem b8w{α:Type}(p:Prop)[Decidable p](a b:α):(bif decide p then a else b)=if p then a else b:=by
 simp
theorem d2x:a3S 2305843009213693951=some 3:=by rfl
theorem c6O{u d q:Nat}(h:q=b7v u d 4294967295 4294967288)(f:u<4294967295*4294967296+4294967288)(g:d<4294967296):q*18446744073709551608≤u*4294967296+d∧u*4294967296+d<q*18446744073709551608+18446744073709551608∧q<4294967296:=by
 grind[d1l]
theorem b8x{u d u0 q r:Nat}{s:Int}(c:d<4294967296)(e:q≤4294967297)(i:r<4294967296):a1Y ((18446744073709551608:Int),s,(4294967295:Int),(4294967288:Int),(u:Int),(d:Int),(u0:Int),(q:Int),(r:Int),()) =
  if a9I 4294967288 d q r then(if 4294967296≤r+4294967295 then some (.inr ((18446744073709551608:Int),s,(4294967295:Int),(4294967288:Int),(u:Int),(d:Int),(u0:Int),((q-1:Nat):Int),()))else some (.inl ((18446744073709551608:Int),s,(4294967295:Int),(4294967288:Int),(u:Int),(d:Int),(u0:Int),((q-1:Nat):Int),((r+4294967295:Nat):Int),())))else some (.inr ((18446744073709551608:Int),s,(4294967295:Int),(4294967288:Int),(u:Int),(d:Int),(u0:Int),(q:Int),())):=by
 have a:wrap .u64 ((q:Int)-1)=(((q-1:Nat)):Int)∨q=0:=by
  rcases a78 q with h|h;exact .inr h;left;rw[a0N (by omega)];omega
 have f:wrap .u64 ((r:Int)+4294967295)=((r+4294967295:Nat):Int):=by rw[a0N (by omega)];omega
 have k:decide (wrap .u64 ((r:Int)+4294967295)≥(4294967296:Int))=decide (4294967296≤r+4294967295):=by
  rw[f];exact decide_eq_decide.2 (by omega)
 have tail:q≠0→(bif decide (wrap .u64 ((r:Int)+4294967295)≥(4294967296:Int))then(some (.inr ((18446744073709551608:Int),s,(4294967295:Int),(4294967288:Int),(u:Int),(d:Int),(u0:Int),(wrap .u64 ((q:Int)-1)),())):Option (_ ⊕ (Int×Int×Int×Int×Int×Int×Int×Int×Unit)))else some (.inl ((18446744073709551608:Int),s,(4294967295:Int),(4294967288:Int),(u:Int),(d:Int),(u0:Int),(wrap .u64 ((q:Int)-1)),(wrap .u64 ((r:Int)+4294967295)),()))) =
   (if 4294967296≤r+4294967295 then some (.inr ((18446744073709551608:Int),s,(4294967295:Int),(4294967288:Int),(u:Int),(d:Int),(u0:Int),((q-1:Nat):Int),()))else some (.inl ((18446744073709551608:Int),s,(4294967295:Int),(4294967288:Int),(u:Int),(d:Int),(u0:Int),((q-1:Nat):Int),((r+4294967295:Nat):Int),()))):=fun b=>by
  rw[k,a.resolve_right b,f];exact b8w ..
 by_cases h1:4294967296≤q
 have c0:decide ((q:Int)≥(4294967296:Int))=true:=decide_eq_true (by omega);rw[if_pos (.inl h1),←tail (by omega)];unfold a1Y;dsimp only;rw[c0,cT,oB];have c0:decide ((q:Int)≥(4294967296:Int))=false:=decide_eq_false (by omega);have j:wrap .u64 ((q:Int)*4294967288)=((q*4294967288:Nat):Int):=by rw[a0N (by omega)];omega
 have l:wrap .u64 (wrap .u64 ((4294967296:Int)*(r:Int))+(d:Int))=((4294967296*r+d:Nat):Int):=by rw[a0N (n:=4294967296*(r:Int)) (by omega),a0N (by omega)];omega
 by_cases h2:4294967296*r+d<q*4294967288
 have g:decide (wrap .u64 ((q:Int)*4294967288) > wrap .u64 (wrap .u64 ((4294967296:Int)*(r:Int))+(d:Int)))=true:=decide_eq_true (by omega);rw[if_pos (.inr h2),←tail (by omega)];unfold a1Y;dsimp only;rw[c0,cF,g,cT,oB];have g:decide (wrap .u64 ((q:Int)*4294967288) > wrap .u64 (wrap .u64 ((4294967296:Int)*(r:Int))+(d:Int)))=false:=decide_eq_false (by omega);rw[if_neg (by unfold a9I;omega)];unfold a1Y;dsimp only;rw[c0,cF,g,cF,oB]
theorem d2y{u d u0:Nat}{s:Int}(k:u<4294967295*4294967296+4294967288)(f:d<4294967296):
  y0s a1Y ((18446744073709551608:Int),s,(4294967295:Int),(4294967288:Int),(u:Int),(d:Int),(u0:Int),((u / 4294967295:Nat):Int),((u%4294967295:Nat):Int),())=some ((18446744073709551608:Int),s,(4294967295:Int),(4294967288:Int),(u:Int),(d:Int),(u0:Int),((b7v u d 4294967295 4294967288:Nat):Int),()):=by
 have h:u / 4294967295≤4294967297:=by omega
 have g:u%4294967295<4294967295:=a20 _ (by omega);unfold b7v
 revert h g
 generalize u / 4294967295=q;generalize u%4294967295=r;intro h g;have s0:=b8x (u0:=u0) (s:=s) (u:=u) f h (a84 g)
 by_cases c1:a9I 4294967288 d q r
 ·rw[if_pos c1]at s0⊢
  by_cases c2:4294967296≤r+4294967295
  simp_all[a0E]
  ·rw[if_neg c2]at s0⊢;rw[a0F s0];have a:=b8x (u0:=u0) (s:=s) (u:=u) (q:=q-1) (r:=r+4294967295) f (by omega) (by omega)
   by_cases c3:a9I 4294967288 d (q-1) (r+4294967295)
   all_goals simp_all[Nat.sub_sub,a0E]
 simp_all[a0E]
theorem b8y{u d q r:Nat}{s q1:Int}(c:d<4294967296)(e:q≤4294967297)(i:r<4294967296):a1Z ((18446744073709551608:Int),s,(4294967295:Int),(4294967288:Int),(d:Int),q1,(r:Int),(u:Int),(q:Int),()) =
  if a9I 4294967288 d q r then(if 4294967296≤r+4294967295 then some (.inr ((18446744073709551608:Int),s,(d:Int),q1,(u:Int),((q-1:Nat):Int),()))else some (.inl ((18446744073709551608:Int),s,(4294967295:Int),(4294967288:Int),(d:Int),q1,((r+4294967295:Nat):Int),(u:Int),((q-1:Nat):Int),())))else some (.inr ((18446744073709551608:Int),s,(d:Int),q1,(u:Int),(q:Int),())):=by
 have a:wrap .u64 ((q:Int)-1)=(((q-1:Nat)):Int)∨q=0:=by
  rcases a78 q with h|h;exact .inr h;left;rw[a0N (by omega)];omega
 have f:wrap .u64 ((r:Int)+4294967295)=((r+4294967295:Nat):Int):=by rw[a0N (by omega)];omega
 have k:decide (wrap .u64 ((r:Int)+4294967295)≥(4294967296:Int))=decide (4294967296≤r+4294967295):=by
  rw[f];exact decide_eq_decide.2 (by omega)
 have tail:q≠0→(bif decide (wrap .u64 ((r:Int)+4294967295)≥(4294967296:Int))then(some (.inr ((18446744073709551608:Int),s,(d:Int),q1,(u:Int),(wrap .u64 ((q:Int)-1)),())):Option (_ ⊕ (Int×Int×Int×Int×Int×Int×Unit)))else some (.inl ((18446744073709551608:Int),s,(4294967295:Int),(4294967288:Int),(d:Int),q1,(wrap .u64 ((r:Int)+4294967295)),(u:Int),(wrap .u64 ((q:Int)-1)),()))) =
   (if 4294967296≤r+4294967295 then some (.inr ((18446744073709551608:Int),s,(d:Int),q1,(u:Int),((q-1:Nat):Int),()))else some (.inl ((18446744073709551608:Int),s,(4294967295:Int),(4294967288:Int),(d:Int),q1,((r+4294967295:Nat):Int),(u:Int),((q-1:Nat):Int),()))):=fun b=>by
  rw[k,a.resolve_right b,f];exact b8w ..
 by_cases h1:4294967296≤q
 have c0:decide ((q:Int)≥(4294967296:Int))=true:=decide_eq_true (by omega);rw[if_pos (.inl h1),←tail (by omega)];unfold a1Z;dsimp only;rw[c0,cT,oB];have c0:decide ((q:Int)≥(4294967296:Int))=false:=decide_eq_false (by omega);have j:wrap .u64 ((q:Int)*4294967288)=((q*4294967288:Nat):Int):=by rw[a0N (by omega)];omega
 have l:wrap .u64 (wrap .u64 ((4294967296:Int)*(r:Int))+(d:Int))=((4294967296*r+d:Nat):Int):=by rw[a0N (n:=4294967296*(r:Int)) (by omega),a0N (by omega)];omega
 by_cases h2:4294967296*r+d<q*4294967288
 have g:decide (wrap .u64 ((q:Int)*4294967288) > wrap .u64 (wrap .u64 ((4294967296:Int)*(r:Int))+(d:Int)))=true:=decide_eq_true (by omega);rw[if_pos (.inr h2),←tail (by omega)];unfold a1Z;dsimp only;rw[c0,cF,g,cT,oB];have g:decide (wrap .u64 ((q:Int)*4294967288) > wrap .u64 (wrap .u64 ((4294967296:Int)*(r:Int))+(d:Int)))=false:=decide_eq_false (by omega);rw[if_neg (by unfold a9I;omega)];unfold a1Z;dsimp only;rw[c0,cF,g,cF,oB]
theorem d2z{u d:Nat}{s q1:Int}(k:u<4294967295*4294967296+4294967288)(f:d<4294967296):
  y0s a1Z ((18446744073709551608:Int),s,(4294967295:Int),(4294967288:Int),(d:Int),q1,((u%4294967295:Nat):Int),(u:Int),((u / 4294967295:Nat):Int),())=some ((18446744073709551608:Int),s,(d:Int),q1,(u:Int),((b7v u d 4294967295 4294967288:Nat):Int),()):=by
 have h:u / 4294967295≤4294967297:=by omega
 have g:u%4294967295<4294967295:=a20 _ (by omega);unfold b7v
 revert h g
 generalize u / 4294967295=q;generalize u%4294967295=r;intro h g;have s0:=b8y (s:=s) (q1:=q1) (u:=u) f h (a84 g)
 by_cases c1:a9I 4294967288 d q r
 ·rw[if_pos c1]at s0⊢
  by_cases c2:4294967296≤r+4294967295
  simp_all[a0E]
  ·rw[if_neg c2]at s0⊢;rw[a0F s0];have a:=b8y (s:=s) (q1:=q1) (u:=u) (q:=q-1) (r:=r+4294967295) f (by omega) (by omega)
   by_cases c3:a9I 4294967288 d (q-1) (r+4294967295)
   all_goals simp_all[Nat.sub_sub,a0E]
 simp_all[a0E]
theorem d4l(n:Int):wrap .u64 n=n%18446744073709551616:=by rfl
theorem d1m{u d Q:Nat}(h:Q*18446744073709551608≤u*4294967296+d)(g:u*4294967296+d<Q*18446744073709551608+18446744073709551608):
  wrap .u64 (wrap .u64 (wrap .u64 ((u:Int)*4294967296)+(d:Int))-wrap .u64 ((Q:Int)*18446744073709551608))=(((u*4294967296+d)%18446744073709551608:Nat):Int):=by
 grind[d4l]
theorem c5j{u:Nat}(h:u<18446744073709551616):wrap .u64 ((u:Int)-wrap .u64 (((u / 4294967295:Nat):Int)*4294967295))=((u%4294967295:Nat):Int):=by
 grind[a0N]
theorem sh3(n:Nat):A0n .u64 (n:Int) 3=((n*8%18446744073709551616:Nat):Int):=by
 rfl
theorem c9c(lo:Nat):a2Q (0,(lo:Int),(2305843009213693951:Int))=some (wrap .u64 (a22 (lo:Int) 2305843009213693951),((lo%2305843009213693951:Nat):Int)):=by
 rfl
theorem d4m:wrap .u64 3=3:=by rfl
theorem d2A:wrap .u64 (64-3)=((61:Nat):Int):=by rfl
theorem d4n:A0n .u64 2305843009213693951 3=18446744073709551608:=by rfl
theorem d4o:A0o .u64 18446744073709551608 32=4294967295:=by rfl
theorem d4p:bits .u64 .and 18446744073709551608 4294967295=4294967288:=by rfl
theorem d4q:((2305843009213693951:Int)==0)=false:=by rfl
theorem d4r:decide ((3:Int)<0)=false:=by rfl
theorem d4s:decide (((61:Nat):Int)<0)=false:=by rfl
theorem d4t:((4294967295:Int)==0)=false:=by rfl
theorem c7Q{u d Q v:Nat}(hv:(u*4294967296+d)%18446744073709551608=v)(h:Q*18446744073709551608≤u*4294967296+d)(g:u*4294967296+d<Q*18446744073709551608+18446744073709551608):
  wrap .u64 (wrap .u64 (wrap .u64 ((u:Int)*4294967296)+(d:Int))-wrap .u64 ((Q:Int)*18446744073709551608))=(v:Int):=by
 simp_all[d1m]
theorem d0A{u:Nat}(h:u<18446744073709551616):wrap .u64 ((u / 4294967295:Nat):Int)=((u / 4294967295:Nat):Int):=a0N (by omega)
theorem d1n{hi lo u d e v r:Nat}(hv:(u*4294967296+d)%18446744073709551608=v)(m:(v*4294967296+e)%18446744073709551608=r)(y:hi≠0)(z:hi<2305843009213693951)(o:hi*8+lo / 2305843009213693952=u)(i:lo*8%18446744073709551616 / 4294967296=d)(j:lo*8%18446744073709551616%4294967296=e)(A:lo<18446744073709551616)
  (h:u<4294967295*4294967296+4294967288)(f:d<4294967296)(a:e<4294967296):
  ∃q:Int,a2Q ((hi:Int),(lo:Int),(2305843009213693951:Int))=some (q,((r / 8:Nat):Int)):=by
 have c0:((hi:Int)==0)=false:=by simp_all
 have b:decide ((2305843009213693951:Int)≤(hi:Int))=false:=decide_eq_false (by omega);have c:hi*8%18446744073709551616=hi*8:=by omega
 have l:bits .u64 .or ((hi*8:Nat):Int) (A0o .u64 (lo:Int) ((61:Nat):Int))=(u:Int):=by
  rw[c4i (k:=61) (by omega),show 2^61=2305843009213693952 from rfl,d7f (by omega) (by omega),o]
 have p:=d2y (u0:=e) (s:=3) h f;have B:=c7Q hv (c6O rfl h f).1 (c6O rfl h f).2.1;have g:v<4294967295*4294967296+4294967288:=by grind
 have l1:=d2z (s:=3) (q1:=((b7v u d 4294967295 4294967288:Nat):Int)) g a;have C:=c7Q m (c6O rfl g a).1 (c6O rfl g a).2.1;have t:=c5j (u:=u) (a08 h (by simp));have r2:=c5j (u:=v) (a08 g (by simp));have w:wrap .u64 ((u / 4294967295:Nat):Int)=((u / 4294967295:Nat):Int):=d0A (a08 h (by simp));have x:wrap .u64 ((v / 4294967295:Nat):Int)=((v / 4294967295:Nat):Int):=d0A (a08 g (by simp));have q1:a22 (u:Int) 4294967295=((u / 4294967295:Nat):Int):=rfl;have D:a22 (v:Int) 4294967295=((v / 4294967295:Nat):Int):=rfl;have g8:∀n:Nat,A0o .u64 (n:Int) 3=((n / 8:Nat):Int):=fun n=>c4i (k:=3) (by omega);unfold a2Q;dsimp only;rw[d4q,cF,b,cF,c0,cF,d2x,oB,d4m,d4r,cF,cF,d2A,d4s,cF,cF,d4n,d4o,d4t,cF,d4p,sh3 hi,c,l,sh3 lo,c7P,i,c9Z,j,q1,w,t,p,oB];simp_all
theorem d1o{hi lo:Nat}(h:hi<prm)(g:lo<18446744073709551616):∃q:Int,a2Q ((hi:Int),(lo:Int),(2305843009213693951:Int))=some (q,(((hi*18446744073709551616+lo)%prm:Nat):Int)):=by
 by_cases h0:hi=0
 subst h0;rw[Nat.zero_mul,Nat.zero_add];exact⟨_,c9c lo⟩;rw[←d2v hi lo];exact d1n rfl rfl h0 h rfl rfl rfl g (c9a h g) (a73 (Nat.lt_of_lt_of_le (a20 _ (by omega)) (by omega))) (a20 _ (by omega))
theorem b7G{a b c:Nat}(g:a<prm)(hb:b<prm)(f:c≤prm):a5M ((a:Int),(b:Int),(c:Int))=some (((a*b+c)%prm:Nat):Int):=by
 have k:=c7O g hb f;unfold prm at g hb f k;have l:=c9b (a:=a) (b:=b) (by omega) (by omega);have j:a8P (((a*b%18446744073709551616:Nat):Int),(c:Int),(0:Int))=some ((((a*b%18446744073709551616+c)%18446744073709551616:Nat):Int),(((a*b%18446744073709551616+c) / 18446744073709551616:Nat):Int)):=rfl;obtain⟨hi,h⟩:∃hi,(a*b+c) / 18446744073709551616=hi:=⟨_,rfl⟩;rw[h]at k;have i:wrap .u64 (((a*b / 18446744073709551616:Nat):Int)+((a*b%18446744073709551616+c) / 18446744073709551616:Nat))=(hi:Int):=by
  grind[a0N]
 obtain⟨q,d⟩:=d1o (hi:=hi) (lo:=(a*b%18446744073709551616+c)%18446744073709551616) (by unfold prm;omega) (by omega);have e:hi*18446744073709551616+(a*b%18446744073709551616+c)%18446744073709551616=a*b+c:=by omega
 rw[e]at d;have t:a44 (hi:Int) 2305843009213693951=(hi:Int):=by
  grind
 unfold a5M a8Q;simp_all
theorem b8z(l:List Int)(n i:Int):∀(j k:Nat)(s:Int),k+j=8→y0s a7A (s,l,n,i,(k:Int),())=some (rep e32 j s,l,n,i,())
 |0,k,s,h=>by
  obtain rfl:k=8:=by omega
  rfl
 |j+1,k,s,h=>by
  have d:decide ((k:Int)<8)=true:=by grind
  rw[a0F (s':=(e32 s,l,n,i,((k+1:Nat):Int),())) (by
   simp only[a7A,d,cT,a0B (show k<1000000 by omega),e32]
   grind)]
  exact b8z l n i j (k+1) (e32 s) (by omega)
theorem c0P{l:List Int}(k:short l):∀(rest done:List Int)(s:BitVec 32),done++rest=l→(∀b∈rest,0≤b∧b<256)→
  y0s a4W (((s.toNat:Nat):Int),l,(l.length:Int),(done.length:Int),())=some ((((d2r s (rest.map (a00 32))).toNat:Nat):Int),())
 | [],done,s,hd,_=>by
  obtain rfl:done=l:=by simp_all
  exact a0E (by simp only[a4W,dge,cF];rfl)
 |x::rest,done,s,hd,hb=>by
  have g:done.length<l.length:=by grind
  have a:m0k l (done.length:Int)=some x:=by grind[a0D]
  have c:=hb x (by simp);have e:bits .u32 .xor ((s.toNat:Nat):Int) (wrap .u32 x)=(((s ^^^ a00 32 x).toNat:Nat):Int):=by
   rw[←c6M]
   grind[a27,wrap,IntKind.bits]
  have f:=b8z l (l.length:Int) (done.length:Int) 8 0 (bits .u32 .xor ((s.toNat:Nat):Int) (wrap .u32 x)) rfl;rw[e,c4h]at f;rw[a0F (s':=((((c8X s (a00 32 x)).toNat:Nat):Int),l,(l.length:Int),(((done++[x]).length:Nat):Int),())) (by
   simp only[a4W,dlt g,cT,a,oB,e]
   erw[f]
   simp only[oB,a0B (a08 g k)];simp[c8X])]
  exact c0P k rest (done++[x]) _ (by simp_all) (fun b h=>hb b (by grind))
theorem b7w{l:List Int}(g:short l)(hb:∀b∈l,0≤b∧b<256):a4K l=some ((a2y l:Nat):Int):=by
 have h:=c0P g l [] 0xffffffff#32 rfl hb;rw[a23]at h;unfold a4K
 erw[h]
 simp only[oB];rw[show IntKind.max .u32=(((0xffffffff#32).toNat:Nat):Int)from rfl,c6M];rfl
theorem c0Q{l:List Int}(k:short l):∀(rest done:List Int)(h:Nat),done++rest=l→h<prm→(∀b∈rest,0≤b∧b<256)→
  y0s a7G ((h:Int),l,(l.length:Int),(done.length:Int),())=some (((prs h (rest.map a31):Nat):Int),())
 | [],done,h,hd,_,_=>by
  obtain rfl:done=l:=by simp_all
  exact a0E (by simp only[a7G,dge,cF];rfl)
 |x::rest,done,h,hd,hh,hb=>by
  have g:done.length<l.length:=by grind
  have d:m0k l (done.length:Int)=some x:=by grind[a0D]
  have i:=hb x (by simp);have e:wrap .u64 ((wrap .u64 x)+(1:Int))=((x.toNat+1:Nat):Int):=by grind[a0N]
  have f:=b7G (a:=h) (b:=1000003) (c:=x.toNat+1) hh (by decide) (by unfold prm;omega);rw[a0F (s':=((((h*1000003+(x.toNat+1))%prm:Nat):Int),l,(l.length:Int),(((done++[x]).length:Nat):Int),())) (by
   simp only[a7G,dlt g,cT,d,oB,e]
   erw[f]
   simp[a0B (a08 g k)])]
  exact c0Q k rest (done++[x]) _ (by simp_all) (a20 _ (by decide)) (fun b h=>hb b (by grind))
theorem c9d{l:List Int}(g:short l)(hb:∀b∈l,0≤b∧b<256):a7S l=some ((prI l:Nat):Int):=by
 have h:=c0Q g l [] 0 rfl (by decide) hb;unfold a7S
 erw[h]
 rfl
theorem b6l:∀(k n p s:Nat),n<2^k→n<4611686018427387904→p<prm→s<prm→y0s a7H ((n:Int),(p:Int),(s:Int),())=some (((pwr k n p s:Nat):Int),())
 |0,n,p,s,hn,_,_,_=>by
  obtain rfl:n=0:=by omega
  rfl
 |k+1,n,p,s,hn,hn2,hp,hs=>by
  by_cases h0:n=0
  subst h0;rfl;have d:decide ((n:Int) > 0)=true:=by grind
  have f:a44 (n:Int) 2=((n%2:Nat):Int):=rfl;have e:wrap .i64 (a22 (n:Int) 2)=((n / 2:Nat):Int):=by rw[show a22 (n:Int) 2=((n / 2:Nat):Int)from rfl,a0C (by omega)]
  have g:=b7G (c:=0) hs hs (by simp);have h:=b7G (c:=0) hp hs (by simp);have a:n / 2<2^k:=by omega
  simp only[a81,nZ]at g h;have m:=a20 (s*s) (show 0<prm by decide);rw[pwr,if_neg h0]
  by_cases h1:n%2=1
  rw[if_pos h1,a0F (s':=(((n / 2:Nat):Int),((p*s%prm:Nat):Int),((s*s%prm:Nat):Int),())) (by
   simp only[a7H,d,cT,f,h1,show(((1:Nat):Int)==1)=true from rfl];simp_all)]
  exact b6l k _ _ _ a (by omega) (a20 _ (by decide)) m;have b:n%2=0:=by omega
  rw[if_neg h1,a0F (s':=(((n / 2:Nat):Int),(p:Int),((s*s%prm:Nat):Int),())) (by
   simp only[a7H,d,cT,f,b,show(((0:Nat):Int)==1)=false from rfl,cF,oB];simp_all)]
  exact b6l k _ _ _ a (by omega) hp m
theorem d1p{a b n:Nat}(f:a<prm)(hb:b<prm)(h:n<4611686018427387904):b1L ((a:Int),(b:Int),(n:Int))=some ((((a*(1000003^n%prm)+b)%prm:Nat):Int),true):=by
 have hp:=b6l 62 n 1 1000003 h h (by decide) (by decide);rw[d2q 62 n 1 1000003 h (by decide),Nat.one_mul]at hp;have j:=b7G (c:=b) f (a20 (1000003^n) (show 0<prm by decide)) (a52 hb);unfold prm at f hb;have k:decide ((a:Int)≥(2305843009213693951:Int))=false:=by grind
 have d:decide ((b:Int)≥(2305843009213693951:Int))=false:=by grind
 have e:decide ((n:Int)<(0:Int))=false:=by simp
 have i:v0r (n:Int) 0=(n:Int):=by rfl
 have g:b0E (n:Int)=some ((1000003^n%prm:Nat):Int):=by
  simp_all[b0E]
 simp only[b1L,k,d,e,cF,oB,g];simp_all
theorem c4j(b:a1e)(N:Int){i:Nat}:∀(rest done:List (List Int)) (out:List Int),done++rest=b.2.1→b.2.1.length≤8→(∀r∈rest,i<r.length)→out.length+rest.length<1000000→
  y0s a6H ((i:Int),N,(i:Int),b.2.1,(b.2.1.length:Int),(done.length:Int),out,b,())=some (N,(i:Int),out++rest.map (fun r=>r.getD i 0),b,())
 | [],done,out,hd,_,_,_=>by
  simp_all[a0E,a6H]
 |r::rest,done,out,hd,h8,hr,ho=>by
  have g:done.length<b.2.1.length:=by grind
  have f:m0k b.2.1 (done.length:Int)=some r:=by grind[a0D]
  have k:=hr r (by simp);have h:m0k r (i:Int)=some (r.getD i 0):=by simp_all[a0D]
  simp at ho;rw[a0F (s':=((i:Int),N,(i:Int),b.2.1,(b.2.1.length:Int),(((done++[r]).length:Nat):Int),out++[r.getD i 0],b,())) (by
   simp only[a6H,dlt g,cT,f,h,oB,a0V (show out.length+1<2147483648 by omega),a0B (show done.length<1000000 by omega)]
   simp)]
  rw[c4j b N rest (done++[r]) _ (by simp_all) h8 (fun q a=>hr q (by grind)) (by grind)]
  simp
theorem c4k{b:a1e}(hb:a2H b):a5i b=some (wvB b):=by
 obtain⟨g1,g2,g3,g4,g5,g6,g7⟩:=id hb;have hlen:∀r∈b.2.1,r.length=a0S b:=fun r hr=>by
  simp_all
 have hw:∀i,i≤4096→(wv i b.2.1).length≤32768:=fun i hi=>by
  rw[c7M]
  calc i*b.2.1.length≤4096*8:=a05 hi g4
   _=32768:=rfl
 have h:=a1C (f:=a6I) (fun i=>(((a0S b:Nat):Int),(i:Int),wv i b.2.1,b,())) (a0S b) (b:=(wv (a0S b) b.2.1,())) (fun i hi=>by
  have h0:=c4j b ((a0S b:Nat):Int) (i:=i) b.2.1 [] (wv i b.2.1) rfl g4 (fun r hr=>by simp_all) (by grind);rw[a23]at h0;simp only[a6I,dlt hi,cT]
  grind[a0B,wv,a37]) (by simp_all[a6I])
 unfold a5i;simp[a6x,hb,a4Q]
 erw[h]
 rfl
theorem c5k{b:a1e}:(wvB b).length=a0S b*b.2.1.length:=c7M _
theorem d1q{b:a1e}(hb:a2H b):(wvB b).all (fun x=>a1n x b.1)=true:=by
 obtain⟨g,f,k,a,c,d,e⟩:=hb;refine lA.2 fun x h=>?_
 unfold wvB wv at h
 grind
theorem d1r{b:a1e}(hb:a2H b):b0D b=some (a3B b.1 (wvB b),0):=by
 have hl:(wvB b).length≤1000000:=by
  rw[c5k]
  calc a0S b*b.2.1.length≤4096*8:=a05 hb.2.2.2.2.2.1 hb.2.2.2.1
   _≤1000000:=by simp
 unfold b0D;simp only[a6x,hb,decide_true,oB,bT,cF,c4k hb,c1w ⟨hb.1,hb.2.1⟩ hl (d1q hb)]
theorem b7x{b:a1e}(hb:a2H b){w:Int}(h:b.1=w)(d:List Int):a4w (((prI (a3B w d):Nat):Int),b)=some (((prI (a3B w (d++wvB b)):Nat):Int),true):=by
 subst h;have g:=c6I ⟨hb.1,hb.2.1⟩ (wvB b);have f:(wvB b).length≤4096*8:=by rw[c5k];exact a05 hb.2.2.2.2.2.1 hb.2.2.2.1
 have k:=d1p (c0O (a3B b.1 d)) (c0O (a3B b.1 (wvB b))) (n:=(a3B b.1 (wvB b)).length) (by omega);unfold a4w;simp only[d1r hb,oB,show((0:Int) != 0)=false from rfl,cF,c9d (show short (a3B b.1 (wvB b))by unfold short;omega) (c3Y _ _),c6J,d1i];simp_all
theorem c9e(d:List Int)(x:Int){ch:Nat}(h:0<ch):(a1M d ch).set (d.length%ch) ((a1M d ch).getD (d.length%ch) []++[x])=a1M (d++[x]) ch:=by
 have k:=a20 d.length h;refine a50 (by simp[a1M]) fun i g f=>?_
 simp[a1M]at g;rw[List.getElem_set];simp_all[a1M,c7J]
theorem d1s{fm:a0M}(e:a3W fm){ch:Nat}(k:fm.2.1=(ch:Int)){l:List Int}{n:Nat}(p:1≤n∧n≤4096)(j:l.length=n*ch)(a:l.all (fun x=>a1n x fm.2.2.1)=true):
  b0K (l,fm)=some (a8j fm.2.2.1 l ch,0):=by
 have g:1≤ch∧ch≤8:=by have:=e.2.2.1;have:=e.2.2.2.1;omega
 have G:l.length≤4096*8:=by rw[j];exact a05 p.2 g.2
 have q:1≤l.length:=by rw[j];exact Nat.mul_pos p.1 g.1
 have w:4≤fm.2.2.1∧fm.2.2.1≤24:=e.2.2.2.2;have c0:((ch:Int)==0)=false:=by grind
 have h:=a1C (f:=a7L) (fun i=>(l,((l.length:Nat):Int),(i:Int),b2n,(fm.2.2.1,a1M (l.take i) ch,()),fm,())) l.length (b:=Sum.inl (b2n,a8j fm.2.2.1 l ch,())) (fun i hi=>by
  have t:a44 (i:Int) (ch:Int)=((i%ch:Nat):Int):=rfl;have v:=a20 i g.1;have m:∀d,(a1M d ch).length=ch:=fun d=>by simp[a1M]
  have r:decide ((0:Int)≤((i%ch:Nat):Int))=true:=decide_eq_true (a06 _);have y:a1n l[i] fm.2.2.1=true:=lA.1 a _ (a25 hi);have o:(l.take i).length=i:=by grind
  have u:((a1M (l.take i) ch).getD (i%ch) []).length≤32768:=by
   grind[a1M,b0V]
  have c:=c9e (l.take i) l[i] g.1;rw[o]at c;simp only[a7L,dlt hi,cT,a0D hi,oB,b3V w,y,bT,cF,k,c0,t,r,List.length_set,m,dlt v,a03,tN,a0V (show((a1M (l.take i) ch).getD (i%ch) []).length+1<2147483648 by omega),beq_self_eq_true,Bool.and_true,a0B (show i<1000000 by omega)];simp_all) (by
  simp only[a7L,dge,cF,a46];rfl)
 have s:a1M ([]:List Int) ch=a04 ch []:=by
  refine a50 (by simp[a1M]) fun i E F=>?_
  simp[a1M,b0V]
 have q1:(((l.length:Nat):Int)==0)=false:=by grind
 have z:a44 ((l.length:Nat):Int) (ch:Int)=0:=by
  simp_all
 have A:wrap .i64 (a22 ((l.length:Nat):Int) (ch:Int))=(n:Int):=by
  rw[show a22 ((l.length:Nat):Int) (ch:Int)=((l.length / ch:Nat):Int)from rfl,j,a79 _ g.1,a0C (by omega)]
 have B:decide ((n:Int) > 4096)=false:=by grind
 have C:decide ((0:Int)≤(ch:Int))=true:=by simp
 have D:decide ((ch:Int)≤(ch:Int))=true:=by simp
 unfold b0K;simp only[a4y,e,decide_true,oB,bT,cF,q1,k,c0,z,show((0:Int) != 0)=false from rfl,A,B,C,D,tN,a0V (show ch<2147483648 by omega),a03,cT];simp only[a93,s]at h
 erw[h]
 rfl
theorem b5B{α:Type}(a:List α)(x:α)(b:List α):m0k (a++x::b) (a.length:Int)=some x:=by
 simp_all[a0D]
theorem c0R:∀(a b:List Pc)(st off:Nat),a4b st off (a++b)=a4b st off a++a4b (st+a0L a) (off+(a0X a).length) b
 | [],b,st,off=>by rfl
 |y::a,b,st,off=>by
  simp_all[a4b,c0R,a0L,a0X,a75]
theorem c4l{fm:a0M}{all:List Pc}(h:all.length≤256){t:b9c}(p:t.1=fm)(a:t.2.2.2.1=a4b 0 0 all):∀(rest done:List Pc),done++rest=all→a2N fm (a0L done) rest→(a0X done).length≤700800*done.length→a0L done≤64*done.length→
  y0s a8v (((a0L done:Nat):Int),(((a0X done).length:Nat):Int),((a2d fm done:Nat):Int),all.map (·.1),((all.map (·.1)).length:Int),(done.length:Int),done.map (·.2.2),done.map (·.2.1),t,()) =
   some (.inl (((a0L all:Nat):Int),((a2d fm all:Nat):Int),all.map (·.2.2),all.map (·.2.1),t,()))
 | [],done,hd,_,_,_=>by
  obtain rfl:done=all:=by simp_all
  simp_all[a0E,a8v]
 |x::rest,done,hd,hr,hb,hl=>by
  obtain⟨⟨u,d,v,e,j,y,l,m,z,b,c⟩,hr2⟩:=hr;have f:done.length<(all.map (·.1)).length:=by grind
  have k:all.length=done.length+(rest.length+1):=by grind
  have o:m0k (all.map (·.1)) (done.length:Int)=some x.1:=by
   grind[b5B]
  have g:m0k t.2.2.2.1 (done.length:Int)=some (((a0L done:Nat):Int),(((a0X done).length:Nat):Int),()):=by
   have:=b5B (a4b 0 0 done) (((a0L done:Nat):Int),(((a0X done).length:Nat):Int),()) (a4b (a0L done+a0S x.2.1) ((a0X done).length+x.2.2.length) rest)
   rw[b0W]at this;rw[a,←hd,c0R];simp_all[a4b]
  have n:eqT (.pair (.int .i64) (.pair (.int .i64) (.pair (.int .i64) .unit))) x.1.2.2.1 t.1=true:=by simp_all[c3T]
  have q:=b7x l (w:=fm.2.2.1) m (a1N done);have n1:(x.1.1 != ((a0L done:Nat):Int))=false:=by simp_all
  have n2:∀i:Int,(i != i)=false:=fun i=>by simp
  have r:((0:Int) != 0)=false:=rfl;have s:wrap .i64 (((a0L done:Nat):Int)+((a0S x.2.1:Nat):Int))=((a0L (done++[x]):Nat):Int):=by grind[a4n,a0C]
  have w2:wrap .i64 ((((a0X done).length:Nat):Int)+((x.2.2.length:Nat):Int))=(((a0X (done++[x])).length:Nat):Int):=by grind[a7x,a0C]
  rw[a0F (s':=(((a0L (done++[x]):Nat):Int),(((a0X (done++[x])).length:Nat):Int),((a2d fm (done++[x]):Nat):Int),all.map (·.1),((all.map (·.1)).length:Int),(((done++[x]).length:Nat):Int),(done++[x]).map (·.2.2),(done++[x]).map (·.2.1),t,())) (by
   simp only[a8v,dlt f,cT,o,oB];rw[n];simp only[bT,cF,oB,n1,g,n2,e,r,j]
   erw[q]
   simp only[oB,bT,cF,a21,a0V (show done.length+1<2147483648 by omega),cT,d,s,w2,a0B (show done.length<1000000 by omega)]
   simp[a2d,b3g])]
  exact c4l h p a rest (done++[x]) (by simp_all) (by simp_all[a4n]) (by grind[a7x]) (by grind[a4n])
theorem d2B{fm:a0M}(c:a3W fm){xs:List Pc}(b:a2N fm 0 xs)(g:xs.length≤256):a9h (mkT fm xs)=some (xs.map (·.2.2),xs.map (·.2.1),true):=by
 have h:=c4l g (t:=mkT fm xs) rfl rfl xs [] rfl b (by simp[a0X]) (by simp[a0L]);have a:a1U (mkT fm xs).1=some true:=by simp_all[a4y,mkT]
 have f:decide (((a09 (mkT fm xs).2.2.2.2.1:Nat):Int) > (4096:Int))=false:=by simp[mkT];omega
 have k:(((a09 (mkT fm xs).2.2.2.1:Nat):Int) != ((a09 (mkT fm xs).2.2.2.2.1:Nat):Int))=false:=by simp[mkT,b0W]
 unfold a9h;simp[a,f,k]
 erw[h]
 simp_all[mkT]
theorem c2m{α:Type}(a:List α)(x d:α)(b:List α):(a++x::b).getD a.length d=x:=by
 rw[lD];simp
theorem c2n{fm:a0M}{all:List Pc}(h:all.length≤256)(t:b9c)(A:List Nat)(e:A.length=4):∀(rest done:List Pc)(st:Nat),done++rest=all→a2N fm st rest→
  y0s a8B (all.map (·.1),((all.map (·.1)).length:Int),(done.length:Int),all.map (·.2.2),asI (A++nsP done),t,())=some (all.map (·.2.2),asI (A++nsP all),t,())
 | [],done,st,hd,_=>by
  obtain rfl:done=all:=by simpa using hd
  exact a0E (by simp only[a8B,a21,dge,cF])
 |x::rest,done,st,hd,hr=>by
  obtain⟨⟨m,d,n,o,p,q,r,s,u,b,c⟩,hr2⟩:=hr;have k:done.length<(all.map (·.1)).length:=by rw[←hd];simp
  have g:done.length<(all.map (·.2.2)).length:=by rw[←hd];simp
  have j:m0k (all.map (·.1)) (done.length:Int)=some x.1:=by
   have:=b5B (done.map (·.1)) x.1 (rest.map (·.1))
   rw[a21]at this;rw[←hd,pA,a30];exact this
  have hp:(all.map (·.2.2)).getD done.length []=x.2.2:=by
   have:=c2m (done.map (·.2.2)) x.2.2 [] (rest.map (·.2.2))
   rw[a21]at this;rw[←hd,pA,a30];exact this
  have a:decide ((0:Int)≤(done.length:Int))=true:=decide_eq_true (a06 _);have i:done.length<all.length:=by rw[←hd];simp
  have f:(asI (A++nsP done)).length+2<2147483648:=by simp only[asI,a21,lN,b5A];omega
  have l:wrap .u64 ((x.2.2.length:Nat):Int)=((x.2.2.length:Nat):Int):=a0N (by omega);have w2:wrap .u64 ((a0S x.2.1:Nat):Int)=((a0S x.2.1:Nat):Int):=a0N (by omega);rw[a0F (s':=(all.map (·.1),((all.map (·.1)).length:Int),(((done++[x]).length:Nat):Int),all.map (·.2.2),asI (A++nsP (done++[x])),t,())) (by
   simp only[a8B,dlt k,dlt g,a,a03,cT,j,oB,a0V f,tN,hp,l,d,w2,a0B (show done.length<1000000 by omega)];simp[c8Z,asI])]
  exact c2n h t A e rest (done++[x]) _ (by simpa using hd) hr2
theorem c2o{all:List (List Int)}(g:all.length≤256)(h:∀p∈all,p.length≤700800):∀(rest done:List (List Int)) (out:List Int),done++rest=all→out.length+700800*rest.length≤190000000→
  y0s a8C ((all.length:Int),(done.length:Int),out,all,())=some (out++rest.flatten,())
 | [],done,out,hd,_=>by
  obtain rfl:done=all:=by simpa using hd
  rw[a0E (b:=(out,())) (by simp only[a8C,dge,cF])]
  simp
 |p::rest,done,out,hd,ho=>by
  have f:done.length<all.length:=by rw[←hd];simp
  have hp:all.getD done.length []=p:=by rw[←hd];exact c2m done p [] rest
  have a:=h p (by rw[←hd];simp);have k:decide ((0:Int)≤(done.length:Int))=true:=decide_eq_true (a06 _);simp only[lC]at ho;rw[a0F (s':=((all.length:Int),(((done++[p]).length:Nat):Int),out++p,all,())) (by
   simp only[a8C,dlt f,k,a03,cT,tN,hp,a0V (show out.length+p.length<2147483648 by omega),a0B (show done.length<1000000 by omega)]
   simp)]
  rw[c2o g h rest (done++[p]) (out++p) (by simpa using hd) (by simp only[lN];omega)]
  simp
theorem c0S{fm:a0M}:∀{xs:List Pc}{st:Nat},a2N fm st xs→∀p∈xs.map (·.2.2),p.length≤700800
 | [],_,_,p,hp=>by simp at hp
 |x::xs,st,h,p,hp=>by
  rcases mC.1 hp with rfl|hp;exact h.1.2.2.2.2.2.2.2.2.2.2;exact c0S h.2 p hp
theorem b8A:∀(l:List Nat),(∀n∈l,n<9223372036854775808)→∀b∈l.flatMap a0K,0≤b∧b<256:=fun l h b hb=>by
 obtain⟨n,g,hb⟩:=a85.1 hb;exact c0B 8 n (by rw[show(128:Nat)^(8+1)=9223372036854775808 from by decide];exact h n g) b hb
theorem c4Q{fm:a0M}(g:a3W fm){xs:List Pc}(h:a2N fm 0 xs)(k:xs.length≤256):∀b∈a1b fm xs,0≤b∧b<256:=fun b hb=>by
 unfold a1b at hb;rcases mA.1 hb with hb|hb;simp only[b9d,mC,a48,or_false]at hb;omega;rcases mA.1 hb with hb|hb;exact b8A _ (fun n f=>a08 (a7y g h k n f) (by decide)) b hb;exact b6j _ _ b hb
theorem c7R{fm:a0M}(f:a3W fm){xs:List Pc}(g:a2N fm 0 xs)(h:xs.length≤256):b1Q (mkT fm xs)=some (a4S fm xs,0):=by
 obtain⟨s,t,u,v,w,x⟩:=id f;have c:=c2n h (mkT fm xs) [fm.1.toNat,fm.2.1.toNat,fm.2.2.1.toNat,xs.length] rfl xs [] 0 rfl g;have hp:=b7m (ns:=a3L fm xs) (fun n j=>a08 (a7y f g h n j) (by decide)) (by simp only[a3L,lN,b5A,lC,a23];omega);have hv:=b4z (a3L fm xs) fun n i=>a08 (a7y f g h n i) (by decide);have z:(a3L fm xs).length≤516:=by simp only[a3L,lN,b5A,lC,a23];omega
 have y:=b7u f g h;have e:=b7t (n:=a2d fm xs) (k:=8) (by have:=c0O (a3B fm.2.2.1 (a1N xs));unfold prm at this;unfold a2d;omega) (by omega);have d:=b7t (n:=a2y (a1b fm xs)) (k:=4) (by have:=b6k (a1b fm xs);omega) (by omega);have m:=b7w (l:=a1b fm xs) (by unfold short;omega) (c4Q f g h);have hb:=c2o (all:=xs.map (·.2.2)) (by simpa using h) (c0S g) (xs.map (·.2.2)) [] (a1b fm xs++a4j 4 (a2y (a1b fm xs))) rfl (by simp only[lN,a21,a6T];omega);have o:wrap .u64 fm.1=((fm.1.toNat:Nat):Int):=by rw[a0N (by omega)];omega
 have w2:wrap .u64 fm.2.1=((fm.2.1.toNat:Nat):Int):=by rw[a0N (by omega)];omega
 have p:wrap .u64 fm.2.2.1=((fm.2.2.1.toNat:Nat):Int):=by rw[a0N (by omega)];omega
 have q:wrap .u64 ((a09 (xs.map (·.1)):Nat):Int)=((xs.length:Nat):Int):=by rw[a21,a0N (by omega)]
 have r:wrap .u64 ((a2y (a1b fm xs):Nat):Int)=((a2y (a1b fm xs):Nat):Int):=a0N (by have:=b6k (a1b fm xs);omega);unfold b1Q;rw[d2B f g h];simp only[oB,bT,cF,mkT,o,w2,p,q]
 erw[c]
 simp only[oB]
 erw[hp]
 simp only[oB,a0V (show 4+((a3L fm xs).flatMap a0K).length<2147483648 by omega),cT]
 erw[e]
 have b:a86 (a86 ([(75:Int),(78:Int),(83:Int),(68:Int)]:List Int) ((a3L fm xs).flatMap a0K)) (a4j 8 (a2d fm xs))=a1b fm xs:=aA ..;have a:(a86 ([(75:Int),(78:Int),(83:Int),(68:Int)]:List Int) ((a3L fm xs).flatMap a0K)).length+(a4j 8 (a2d fm xs)).length<2147483648:=by
  have:=congrArg a09 b
  simp only[a40,lN]at this⊢;omega
 simp only[oB,a0V a,cT,b,m,r]
 erw[d]
 simp only[oB,a0V (show(a1b fm xs).length+(a4j 4 (a2y (a1b fm xs))).length<2147483648 by rw[a6T];omega),cT]
 erw[hb]
 simp only[oB,a4S,a0X,List.flatMap_def,aA]
theorem d1t{P A R:List Int}(b:(P++(A++R)).length<1000000000):a4Y (ord P (A++R),(A.length:Int))=some (A,ord (P++A) R):=by
 simp at b;have c:v0r (A.length:Int) 0=(A.length:Int):=by rfl
 have d:wrap .i64 (((P++(A++R)).length:Int)-(P.length:Int))=((A++R).length:Int):=by
  grind[a0C]
 have h:decide ((A.length:Int) > ((A++R).length:Int))=false:=by grind
 have w2:wrap .i64 ((P.length:Int)+(A.length:Int))=(((P++A).length:Nat):Int):=by
  grind[a0C]
 have g:decide ((0:Int)≤(((P++A).length:Nat):Int))=true:=by rfl
 have f:decide ((((P++A).length:Nat):Int)≤((P++(A++R)).length:Int))=true:=by simp_all
 have k:decide ((0:Int)≤(P.length:Int))=true:=by simp
 have a:decide ((P.length:Int)≤(((P++A).length:Nat):Int))=true:=by grind
 have e:a35 P.length (a34 (P++A).length (P++(A++R)))=A:=by
  grind
 unfold a4Y a1I ord;simp only[show((0:Int) != 0)=false from rfl,cF,oB,c,d,h,w2,g,f,k,a,a03,cT,tN,e,a0V (show A.length<2147483648 by omega),aA]
theorem c4m{all:List Int}(a:all.length≤8)(z:List Int×(Int×Int×Unit)):∀(rest done:List Int)(n:Nat),done++rest=all→(∀b∈rest,0≤b∧b<256)→n<256^done.length→
  y0s a3G ((n:Int),(all.length:Int),(done.length:Int),all,z,())=some (((b5b n rest:Nat):Int),z,())
 | [],done,n,hd,_,_=>by
  obtain rfl:done=all:=by simp_all
  exact a0E (by simp only[a3G,dge,cF];rfl)
 |x::rest,done,n,hd,hb,hn=>by
  have g:done.length<all.length:=by grind
  have hp:all.getD done.length 0=x:=by grind
  have d:=hb x (by simp);have f:decide ((0:Int)≤(done.length:Int))=true:=decide_eq_true (a06 _);have c:256^done.length≤256^7:=a51 (by omega) (by omega);have k:(256:Nat)^7=72057594037927936:=by rfl
  have w:wrap .u64 ((wrap .u64 ((n:Int)*(256:Int)))+(wrap .u64 x))=((n*256+x.toNat:Nat):Int):=by
   grind[a0N]
  rw[a0F (s':=(((n*256+x.toNat:Nat):Int),(all.length:Int),(((done++[x]).length:Nat):Int),all,z,())) (by
   simp only[a3G,dlt g,f,a03,cT,tN,hp,w,a0B (show done.length<1000000 by omega)]
   simp)]
  exact c4m a z rest (done++[x]) _ (by simp_all) (fun b h=>hb b (by grind)) (by grind)
theorem c5l{P A R:List Int}{k:Nat}(f:A.length=k)(g:k≤8)(hb:∀b∈A,0≤b∧b<256)(a:(P++(A++R)).length<1000000000):a3w (ord P (A++R),(k:Int))=some (((b5b 0 A:Nat):Int),ord (P++A) R):=by
 subst f;have h:=c4m g (ord (P++A) R) A [] 0 rfl hb (by simp)
 grind[a3R,b1j,b7B,a3w,d1t]
@[reducible] def b6m:Type:=a0M×(List Int×(List Int×(Int×(Int×(Int×Unit)))))
def a1F(xs:List Pc):List Int:=xs.map fun x=>((x.2.2.length:Nat):Int)
def a3M(xs:List Pc):List Int:=xs.map fun x=>((a0S x.2.1:Nat):Int)
def b0X(fm:a0M)(xs:List Pc)(pr bg:Nat):b6m:=(fm,a1F xs,a3M xs,((a0L xs:Nat):Int),(pr:Int),(bg:Int),())
def b9e:b6m:=((0,0,0,()),[],[],0,0,0,())
theorem b8B{all:List Pc}(h:all.length≤256)(x:List Int)(fm:a0M)(z:b6m)(u:Int×(Int×Int×Unit)){R:List Int}:∀(rest done:List Pc)(P:List Int)(st:Nat),done++rest=all→a2N fm st rest→
  (P++((nsP rest).flatMap a0K++R)).length<1000000000→
  y0s a5A (x,(all.length:Int),(done.length:Int),z,(fm,a1F done,a3M done,u),ord P ((nsP rest).flatMap a0K++R),()) =
   some (x,z,(fm,a1F all,a3M all,u),ord (P++(nsP rest).flatMap a0K) R,())
 | [],done,P,st,hd,_,_=>by
  obtain rfl:done=all:=by simp_all
  simp_all[a0E,a5A,nsP]
 |y::rest,done,P,st,hd,hr,hl=>by
  obtain⟨⟨i,j,l,m,o,p,q,r,s,a,b⟩,hr2⟩:=hr;have k:done.length<all.length:=by grind
  have e:(nsP (y::rest)).flatMap a0K++R=a0K y.2.2.length++(a0K (a0S y.2.1)++((nsP rest).flatMap a0K++R)):=by simp[nsP]
  rw[e]at hl⊢;have g:=a1B hl;have f:=a1B g;have n1:=a2S (n:=y.2.2.length) (most:=1048704) (by omega) (by omega) hl;have n2:=a2S (n:=a0S y.2.1) (most:=4096) (by omega) (by omega) g;have c:wrap .i64 ((y.2.2.length:Nat):Int)=((y.2.2.length:Nat):Int):=a0C (by omega);have w2:wrap .i64 ((a0S y.2.1:Nat):Int)=((a0S y.2.1:Nat):Int):=a0C (by omega);have d:wrap .u64 ((done.length:Int)+1)=(((done++[y]).length:Nat):Int):=by grind[a0N]
  have l1:(a1F done).length=done.length:=by simp[a1F]
  have l2:(a3M done).length=done.length:=by simp[a3M]
  rw[a0F (s':=(x,(all.length:Int),(((done++[y]).length:Nat):Int),z,(fm,a1F (done++[y]),a3M (done++[y]),u),ord ((P++a0K y.2.2.length)++a0K (a0S y.2.1)) ((nsP rest).flatMap a0K++R),())) (by
   simp only[a5A,dlt k,cT,n1,n2,oB,l1,l2,a0V (show done.length+1<2147483648 by omega),c,w2,d];simp[a1F,a3M])]
  rw[b8B h x fm z u rest (done++[y]) _ _ (by simp_all) hr2 f];simp[nsP]
theorem c4n{all:List Pc}(h:all.length≤256)(fm:a0M)(z:b6m)(v:List Int)(u:Int×(Int×Unit)):∀(rest done:List Pc)(st:Nat),done++rest=all→a2N fm st rest→a0L done≤64*done.length→
  y0s a5B ((all.length:Int),(done.length:Int),z,(fm,v,a3M all,((a0L done:Nat):Int),u),())=some (.inl (z,(fm,v,a3M all,((a0L all:Nat):Int),u),()))
 | [],done,st,hd,_,_=>by
  obtain rfl:done=all:=by simp_all
  simp_all[a0E,a5B]
 |y::rest,done,st,hd,hr,ho=>by
  obtain⟨⟨i,j,l,m,n,o,d,p,q,b,c⟩,hr2⟩:=hr;have f:done.length<all.length:=by grind
  have g:done.length<(a3M all).length:=by simp_all[a3M]
  have hp:(a3M all).getD done.length 0=((a0S y.2.1:Nat):Int):=by
   grind[a3M]
  have k:=d.2.2.2.2.1;have e:(((a0S y.2.1:Nat):Int)==0)=false:=by grind
  have a:decide ((0:Int)≤(done.length:Int))=true:=decide_eq_true (a06 _);have w:wrap .i64 (((a0L done:Nat):Int)+((a0S y.2.1:Nat):Int))=((a0L (done++[y]):Nat):Int):=by grind[a4n,a0C]
  rw[a0F (s':=((all.length:Int),(((done++[y]).length:Nat):Int),z,(fm,v,a3M all,((a0L (done++[y]):Nat):Int),u),())) (by
   simp only[a5B,dlt f,dlt g,a,a03,cT,tN,hp,e,cF,w,a0B (show done.length<1000000 by omega)]
   simp)]
  exact c4n h fm z v u rest (done++[y]) _ (by simp_all) hr2 (by grind[a4n])
theorem c4R{fm:a0M}(j:a3W fm){xs:List Pc}(e:a2N fm 0 xs)(h:xs.length≤256){A C R:List Int}(y:A.length=8)(bA:∀b∈A,0≤b∧b<256)(N:C.length=4)(F:∀b∈C,0≤b∧b<256)(hR:R.length≤190000000)
  {H:List Int}(q:H=b9d++((a3L fm xs).flatMap a0K++A)):
  a3H (H++(C++R))=some (if a2y H=b5b 0 C then(b0X fm xs (b5b 0 A) (H.length+4),0)else(b9e,5)):=by
 obtain⟨f1,f2,f3,f4,f5,f6⟩:=id j;have hv:=b4z (a3L fm xs) fun n v=>a08 (a7y j e h n v) (by simp);have hl:(a3L fm xs).length≤516:=by grind[a3L,b5A]
 have G:∀b∈H,0≤b∧b<256:=fun b hb=>by
  rw[q]at hb;rcases mA.1 hb with hb|hb;simp[b9d]at hb;omega;rcases mA.1 hb with hb|hb;exact b8A _ (fun n v=>a08 (a7y j e h n v) (by simp)) b hb;simp_all
 have a:H.length=4+((a3L fm xs).flatMap a0K).length+8:=by grind[b9d]
 have S:=b7w (l:=H) (by unfold short;omega) G;have x:(a3L fm xs).flatMap a0K=a0K fm.1.toNat++(a0K fm.2.1.toNat++(a0K fm.2.2.1.toNat++(a0K xs.length++(nsP xs).flatMap a0K))):=by rfl
 obtain⟨V,O⟩:∃V,(a3L fm xs).flatMap a0K=V:=⟨_,rfl⟩;rw[O]at hv a x q;have ex:H++(C++R)=75::78::83::68::(V++(A++(C++R))):=by rw[q];simp[b9d]
 have g:(V++(A++(C++R))).length<1000000000:=by grind
 have z:([]++(a0K fm.1.toNat++(a0K fm.2.1.toNat++(a0K fm.2.2.1.toNat++(a0K xs.length++((nsP xs).flatMap a0K++(A++(C++R)))))))).length<1000000000:=by simp_all
 have B:=a1B z;have D:=a1B B;have E:=a1B D;have U:=a1B E;have n1:=a2S (n:=fm.1.toNat) (most:=1048576) (by omega) (by omega) z;have n2:=a2S (n:=fm.2.1.toNat) (most:=8) (by omega) (by omega) B;have X:=a2S (n:=fm.2.2.1.toNat) (most:=24) (by omega) (by omega) D;have Y:=a2S (n:=xs.length) (most:=4096) (by omega) (by omega) E;have w1:wrap .i64 ((fm.1.toNat:Nat):Int)=fm.1:=by grind[a0C]
 have w2:wrap .i64 ((fm.2.1.toNat:Nat):Int)=fm.2.1:=by grind[a0C]
 have w3:wrap .i64 ((fm.2.2.1.toNat:Nat):Int)=fm.2.2.1:=by grind[a0C]
 have f:=b8B h (H++(C++R)) fm b9e (0,0,0,()) xs [] _ 0 rfl e U;have M:([]++a0K fm.1.toNat++a0K fm.2.1.toNat++a0K fm.2.2.1.toNat++a0K xs.length)++(nsP xs).flatMap a0K=V:=by simp_all
 rw[M]at f;have Z:=c5l (P:=V) y (by omega) bA g;have n9:=c5l (P:=V++A) N (by omega) F (a1B g);have k:wrap .i64 (((V++(A++(C++R))).length:Int)-(V.length:Int))=((A++(C++R)).length:Int):=by
  simp only[lN]at g⊢;rw[a0C (by omega)];omega
 have m:decide (((A++(C++R)).length:Int)<12)=false:=by grind
 have r:wrap .i64 ((4:Int)+(((V++A).length:Nat):Int))=((H.length:Nat):Int):=by
  rw[a];simp only[lN,y];rw[a0C (by omega)];rfl
 have o:decide ((0:Int)≤((H.length:Nat):Int))=true:=decide_eq_true (a06 _);have p:decide (((H.length:Nat):Int)≤(((H++(C++R)).length:Nat):Int))=true:=by grind
 have c:wrap .i64 (((H.length:Nat):Int)+4)=((H.length+4:Nat):Int):=by grind[a0C]
 have T:wrap .u64 ((a2y H:Nat):Int)=((a2y H:Nat):Int):=a0N (by grind[b6k]);have I:decide (((a09 (H++(C++R)):Nat):Int)<(4:Int))=false:=by grind
 have K:decide ((4:Int)≤((a09 (H++(C++R)):Nat):Int))=true:=by simp_all
 have s:((b2s (a34 4 (H++(C++R)))) != ([75,78,83,68]:List Int))=false:=by rw[ex];rfl
 have t:a35 4 (a34 (a09 (H++(C++R))) (H++(C++R)))=V++(A++(C++R)):=by rw[a46,ex];rfl
 have d:a5N (V++(A++(C++R)))=some (ord [] (a0K fm.1.toNat++(a0K fm.2.1.toNat++(a0K fm.2.2.1.toNat++(a0K xs.length++((nsP xs).flatMap a0K++(A++(C++R)))))))):=by
  unfold a5N;rw[a0V (by omega),cT,x];simp[ord]
 have i:=c4n h fm b9e (a1F xs) (((b5b 0 A:Nat):Int),((H.length+4:Nat):Int),()) xs [] 0 rfl e (by simp[a0L]);have u:(a3M xs).length=xs.length:=by simp[a3M]
 have Q:=(b4y e).2;have L:decide (((a0L xs:Nat):Int) > (4194304:Int))=false:=by grind
 unfold a3H;simp only[I,cF,K,cT,s,t,d,oB,n1,n2,X,Y,w1,w2,w3]
 erw[f]
 simp only[oB,a3v,a1I,a4a,ord,show((0:Int) != 0)=false from rfl,cF,k,m]
 erw[Z]
 simp only[oB,ord,r,o,p,a03,cT,tN,List.take_left,S,T]
 erw[n9]
 simp only[oB]
 by_cases hq:a2y H=b5b 0 C
 have w:(((a2y H:Nat):Int) != ((b5b 0 C:Nat):Int))=false:=by simp_all
 simp only[w,cF,if_pos hq,a4y,j,decide_true,bT,oB,c,u]
 erw[i]
 simp only[L,oB,cF];rfl;have w:(((a2y H:Nat):Int) != ((b5b 0 C:Nat):Int))=true:=by grind
 simp only[w,cT,if_neg hq];rfl
theorem b8C{B P R:List Int}{fm:a0M}{st:Nat}{x:Pc}(p:c4f fm st x)(C:B=P++(x.2.2++R))(E:B.length<1000000000){pl:b6m}(hp:pl.1=fm){i:Int}(n:m0k pl.2.1 i=some ((x.2.2.length:Nat):Int))(o:m0k pl.2.2.1 i=some ((a0S x.2.1:Nat):Int)):
  a4L (B,pl,i,((P.length:Nat):Int),(st:Int))=some (x.1,x.2.1,0):=by
 obtain⟨s,t,u,v,w,l,y,z,A,e,j⟩:=p;have m:B.length=P.length+(x.2.2.length+R.length):=by simp_all
 have r:wrap .i64 (((a09 B:Nat):Int)-((P.length:Nat):Int))=((x.2.2.length+R.length:Nat):Int):=by grind[a0C]
 have g:decide (((x.2.2.length+R.length:Nat):Int)<((x.2.2.length:Nat):Int))=false:=decide_eq_false (by omega);have w2:wrap .i64 (((P.length:Nat):Int)+((x.2.2.length:Nat):Int))=((P.length+x.2.2.length:Nat):Int):=by grind[a0C]
 have f:decide ((0:Int)≤((P.length+x.2.2.length:Nat):Int))=true:=decide_eq_true (a06 _);have k:decide (((P.length+x.2.2.length:Nat):Int)≤((a09 B:Nat):Int))=true:=by simp_all
 have a:decide ((0:Int)≤((P.length:Nat):Int))=true:=decide_eq_true (a06 _);have b:decide (((P.length:Nat):Int)≤((P.length+x.2.2.length:Nat):Int))=true:=decide_eq_true (by omega);have d:a35 P.length (a34 (P.length+x.2.2.length) B)=x.2.2:=by
  grind
 have h:=l [] (by simp);rw[a63]at h;have q:((0:Int) != 0)=false:=rfl;have c:decide (((x.2.2.length:Nat):Int)<((x.2.2.length:Nat):Int))=false:=by simp
 have D:eqT (.pair (.int .i64) (.pair (.int .i64) (.pair (.int .i64) .unit))) x.1.2.2.1 pl.1=true:=by simp_all[c3T]
 have n1:(x.1.1 != (st:Int))=false:=by simp_all
 have n2:(((a0S x.2.1:Nat):Int) != ((a0S x.2.1:Nat):Int))=false:=by simp
 unfold a4L;simp only[n,oB,r,g,cF,w2,f,k,a,b,a03,cT,tN,d,h,q,c];simp_all
def c6P:b9c:=((0,0,0,()),0,0,[],[],())
theorem c4o{done rest:List Pc}(x:Pc):m0k (a1F (done++x::rest)) (done.length:Int)=some ((x.2.2.length:Nat):Int):=by
 grind[b5B,a1F]
theorem c5m{done rest:List Pc}(x:Pc):m0k (a3M (done++x::rest)) (done.length:Int)=some ((a0S x.2.1:Nat):Int):=by
 grind[b5B,a3M]
theorem c2p{fm:a0M}{all tail:List Pc}(h:all.length≤256){B Hd Z:List Int}(j:B.length<1000000000){pl:b6m}(hp:pl.1=fm)(a:pl.2.1=a1F all)(b:pl.2.2.1=a3M all)(g:pl.2.2.2.2.2.1=((Hd.length:Nat):Int))(z:b9c):
  ∀(rest done:List Pc),done++(rest++tail)=all→B=Hd++(a0X done++(a0X rest++Z))→a2N fm (a0L done) rest→a0L done≤64*done.length→
  y0s a3I (B,((Hd.length+(a0X done).length:Nat):Int),a1F all,(all.length:Int),(done.length:Int),z,pl,mkT fm done,()) =
   y0s a3I (B,((Hd.length+(a0X (done++rest)).length:Nat):Int),a1F all,(all.length:Int),((done++rest).length:Int),z,pl,mkT fm (done++rest),())
 | [],done,_,_,_,_=>by simp
 |x::rest,done,hd,hB,hr,ho=>by
  obtain⟨m,t⟩:=hr;have k:done.length<all.length:=by grind
  have f:B=(Hd++a0X done)++(x.2.2++(a0X rest++Z)):=by rw[hB];simp[a0X]
  have s:Hd.length+(a0X done).length+x.2.2.length≤B.length:=by grind
  have l:=c4o (done:=done) (rest:=rest++tail) x;have c:=c5m (done:=done) (rest:=rest++tail) x;rw[a45]at hd;rw[hd]at l c;have e:=b8C m f j hp (i:=(done.length:Int)) (by simp_all) (by simp_all);rw[lN]at e;obtain⟨y,p,A,C,D,E,q,r,F,n,o⟩:=m;have d:=b7x q (w:=fm.2.2.1) r (a1N done);have l1:(a4b 0 0 done).length+1<2147483648:=by rw[b0W];omega
  have u:wrap .i64 (((Hd.length+(a0X done).length:Nat):Int)+((x.2.2.length:Nat):Int))=((Hd.length+(a0X (done++[x])).length:Nat):Int):=by
   rw[a7x,lN,a0C (by omega)];omega
  have w2:wrap .i64 (((a0L done:Nat):Int)+((a0S x.2.1:Nat):Int))=((a0L (done++[x]):Nat):Int):=by rw[a4n,a0C (by omega)];rfl
  have v:wrap .i64 (((Hd.length+(a0X done).length:Nat):Int)-((Hd.length:Nat):Int))=(((a0X done).length:Nat):Int):=by grind[a0C]
  rw[a0F (s':=(B,((Hd.length+(a0X (done++[x])).length:Nat):Int),a1F all,(all.length:Int),(((done++[x]).length:Nat):Int),z,pl,mkT fm (done++[x]),())) (by
   simp only[a3I,dlt k,cT,l,oB,mkT]
   erw[e]
   simp only[oB,show((0:Int) != 0)=false from rfl,cF]
   erw[d]
   simp only[oB,a0V l1,a21,a0V (show done.length+1<2147483648 by omega),cT,u,p,w2,g,v,a0B (show done.length<1000000 by omega)]
   simp[a2d,b3g,b5a])]
  rw[a87 done x rest];exact c2p (Z:=Z) h j hp a b g z rest (done++[x]) (by simpa using hd) (by simp_all[a7x]) (by simp_all[a4n]) (by grind[a4n])
theorem b8D{fm:a0M}(k:a3W fm){xs:List Pc}(b:a2N fm 0 xs)(g:xs.length≤256){R:List Int}(f:R.length≤190000000):
  a3H (a1b fm xs++(a4j 4 (a2y (a1b fm xs))++R))=some (b0X fm xs (a2d fm xs) ((a1b fm xs).length+4),0):=by
 have a:=c0O (a3B fm.2.2.1 (a1N xs));have h:=c4R k b g (A:=a4j 8 (a2d fm xs)) (C:=a4j 4 (a2y (a1b fm xs))) (R:=R) (a6T ..) (b6j 8 _) (a6T ..) (b6j 4 _) f (H:=a1b fm xs) rfl;rw[b9b 4 _ (by simp_all[b6k]),b9b 8 _ (by grind[prm,a2d]),if_pos rfl]at h;omega
theorem c6Q{fm:a0M}(c:a3W fm){xs:List Pc}(k:a2N fm 0 xs)(h:xs.length≤256):a7X (a4S fm xs)=some (mkT fm xs,0):=by
 have e:=b3h k;have l:=b7u c k h;have i:=b8D c k h (R:=a0X xs) (by omega);have d:(a4S fm xs).length=(a1b fm xs).length+4+(a0X xs).length:=by grind[a4S,a6T]
 have f:(a1b fm xs++a4j 4 (a2y (a1b fm xs))).length=(a1b fm xs).length+4:=by simp[a6T]
 have g:=c2p (fm:=fm) h (B:=a4S fm xs) (Hd:=a1b fm xs++a4j 4 (a2y (a1b fm xs))) (Z:=[]) (by omega) (pl:=b0X fm xs (a2d fm xs) ((a1b fm xs).length+4)) rfl rfl rfl (by rw[f];rfl) c6P (tail:=[]) xs [] (by simp) (by simp[a4S,a0X]) k (by simp[a0L]);rw[f,a07]at g;have a:y0s a3I (a4S fm xs,(((a1b fm xs).length+4+(a0X xs).length:Nat):Int),a1F xs,(xs.length:Int),(xs.length:Int),c6P,b0X fm xs (a2d fm xs) ((a1b fm xs).length+4),mkT fm xs,())=some (Sum.inl (a4S fm xs,(((a1b fm xs).length+4+(a0X xs).length:Nat):Int),c6P,b0X fm xs (a2d fm xs) ((a1b fm xs).length+4),mkT fm xs,())):=
  a0E (by simp_all[a3I])
 rw[a]at g;have b:(a1F xs).length=xs.length:=by simp[a1F]
 have j:decide ((((a1b fm xs).length+4+(a0X xs).length:Nat):Int)<(((a4S fm xs).length:Nat):Int))=false:=by simp_all
 unfold a7X;rw[show a4S fm xs=a1b fm xs++(a4j 4 (a2y (a1b fm xs))++a0X xs)from rfl,i];simp only[oB,show((0:Int) != 0)=false from rfl,cF,b0X,b]
 erw[g]
 simp_all[b0X,mkT]
def c1y(fm:a0M)(l:List Int)(ch sz total:Nat)(effort:Int):Nat→List Pc→Prop
 |st,[]=>total≤st
 |st,x::xs=>st<total∧x.2.1=a8j fm.2.2.1 (a1f l ch st (min (st+sz) total)) ch∧a4J (x.2.1,fm,(st:Int),effort)=some (x.1,0)∧c4f fm st x∧c1y fm l ch sz total effort (st+sz) xs
def c0T(fm:a0M)(total:Nat)(xs:List Pc):b9c:=(fm,(total:Int),((a2d fm xs:Nat):Int),a4b 0 0 xs,xs.map (·.1),())
theorem c9f{fm:a0M}(D:a3W fm){ch:Nat}(a:fm.2.1=(ch:Int)){l:List Int}{total sz:Nat}(hl:l.length=total*ch)(ht:total≤200)(hs:1≤sz∧sz≤64)(b:l.all (fun x=>a1n x fm.2.2.1)=true){effort:Int}(X:0≤effort)(Y:effort≤3):
  ∀(k st:Nat)(done:List Pc),total≤st+k→a0L done=min st total→a1N done=l.take (min st total*ch)→a2N fm 0 done→done.length≤st→st≤300→
  ∃rest,c1y fm l ch sz total effort st rest∧a2N fm 0 (done++rest)∧a0L (done++rest)=total∧a1N (done++rest)=l∧
   y0s a5Y (l,(sz:Int),effort,(total:Int),(((a0X done).length:Nat):Int),(st:Int),c0T fm total done,fm,())=some (.inl (c0T fm total (done++rest),())):=by
 obtain⟨S,T,f3,f4,U,V⟩:=id D;have e:1≤ch∧ch≤8:=by omega
 intro k
 induction k with
 |zero=>
  intro st done E j o y r A;have hm:min st total=total:=by omega
  have P:decide ((st:Int)<(total:Int))=false:=by simp_all
  rw[hm]at j o;refine⟨[],by simpa[c1y]using E,by simp_all,by simp_all,by grind,?_⟩;rw[a63];exact a0E (by simp only[a5Y,P,cF])
 |succ k ih=>
  intro st done E j o y r A
  by_cases hlt:st<total
  have t:min st total=st:=by omega
  rw[t]at j o;obtain⟨en,Z⟩:∃en,min (st+sz) total=en:=⟨_,rfl⟩;have C:st<en∧en≤total∧en≤st+sz:=by omega
  have s:en*ch≤l.length:=by simp_all[a02]
  have h6:st*ch≤en*ch:=a02 _ (by omega);have h1:l.length≤200*8:=by rw[hl];exact a05 ht e.2
  have h:=c2k (st:=st) s;have f:=c7N (ch:=ch) (st:=st) (en:=en) b;have c:=d1k (w:=fm.2.2.1) h e (by omega) ⟨U,V⟩ f;have h2:=b6i (w:=fm.2.2.1) h e.1;have h4:=c5i (w:=fm.2.2.1) h e.1;have v:=d1s D a (l:=a1f l ch st en) (n:=en-st) (by omega) h f;obtain⟨g,p,m1,i⟩:=d1j (fm:=fm) c (by omega) ⟨S,T⟩ (by simp_all[a8j,a1M]) rfl (st:=st) (by omega) X Y;have d:=i.2.2.2.2.1;have B:=b7x c (w:=fm.2.2.1) rfl (a1N done);obtain⟨x,hx⟩:∃x:Pc,x=(((st:Int),g),a8j fm.2.2.1 (a1f l ch st en) ch,p):=⟨_,rfl⟩;have x1:x.1=((st:Int),g):=by grind
  have x2:x.2.1=a8j fm.2.2.1 (a1f l ch st en) ch:=by grind
  have K:x.2.2=p:=by grind
  rw[←hx]at i;have u:=i.2.2.2.2.2.2.2.2.2.2;rw[K]at u;have h5:=b3h y;have m:a0L (done++[x])=min (st+sz) total:=by grind[a4n]
  have q:a1N (done++[x])=l.take (min (st+sz) total*ch):=by grind[b3g,b4x]
  have z:a2N fm 0 (done++[x]):=c2j y (by simp_all);obtain⟨rest,k1,F,G,H,I⟩:=ih (st+sz) (done++[x]) (by omega) m q z (by grind) (by omega);have Q:done++[x]++rest=done++x::rest:=by simp
  rw[Q]at F G H I;refine⟨x::rest,⟨hlt,by simp_all,by simp_all,i,k1⟩,F,G,H,?_⟩;rw[←I];have q1:wrap .i64 ((v0s (wrap .i64 ((st:Int)+(sz:Int))) (total:Int))*(ch:Int))=((en*ch:Nat):Int):=by
   rw[a0C (n:=(st:Int)+(sz:Int)) (by omega),b1j,show min ((st:Int)+(sz:Int)) (total:Int)=(en:Int)from by omega,←a91,a0C (by omega)]
  have q2:wrap .i64 ((st:Int)*(ch:Int))=((st*ch:Nat):Int):=by grind[a0C]
  have L:decide ((0:Int)≤((en*ch:Nat):Int))=true:=decide_eq_true (a06 _);have M:decide (((en*ch:Nat):Int)≤((l.length:Nat):Int))=true:=decide_eq_true (by omega);have N:decide ((0:Int)≤((st*ch:Nat):Int))=true:=decide_eq_true (a06 _);have O:decide (((st*ch:Nat):Int)≤((en*ch:Nat):Int))=true:=decide_eq_true (by omega);have R:a35 (st*ch) (a34 (en*ch) l)=a1f l ch st en:=rfl;have n0:((0:Int) != 0)=false:=rfl;have w1:wrap .i64 ((((a0X done).length:Nat):Int)+((p.length:Nat):Int))=(((a0X (done++[x])).length:Nat):Int):=by
   rw[a7x,lN,K,a0C (by omega)];rfl
  have w2:wrap .i64 ((st:Int)+(sz:Int))=((st+sz:Nat):Int):=by grind[a0C]
  refine a0F ?_
  simp only[a5Y,dlt hlt,cT,a,q1,q2,L,M,N,O,a03,tN,R,v,oB,n0,cF,m1,d,c0T]
  erw[B]
  simp only[oB,b0W,a21,a0V (show done.length+1<2147483648 by omega),cT,w1,w2];simp_all[a2d,b3g,b5a]
  grind
theorem b8E{l:List Int}(a:l.length≤10000){fm:a0M}(f:4≤fm.2.2.1∧fm.2.2.1≤24)(sz effort h:Int):∀(rest done:List Int),done++rest=l→rest.all (fun x=>a1n x fm.2.2.1)=true→
  y0s a5X (l,sz,effort,h,l,(l.length:Int),(done.length:Int),fm,())=some (.inl (l,sz,effort,h,fm,()))
 | [],done,hd,_=>by
  obtain rfl:done=l:=by simp_all
  simp_all[a0E,a5X]
 |x::rest,done,hd,hfit=>by
  have g:done.length<l.length:=by grind
  have k:m0k l (done.length:Int)=some x:=by grind[a0D]
  simp only[a36,bA]at hfit;rw[a0F (s':=(l,sz,effort,h,l,(l.length:Int),(((done++[x]).length:Nat):Int),fm,())) (by
   simp only[a5X,dlt g,cT,k,oB,b3V f,hfit.1,bT,cF,a0B (show done.length<1000000 by omega)]
   simp)]
  exact b8E a f sz effort h rest (done++[x]) (by simp_all) hfit.2
theorem c7S{fm:a0M}(f:a3W fm){ch:Nat}(g:fm.2.1=(ch:Int)){l:List Int}{total sz:Nat}(a:l.length=total*ch)(d:total≤200)(A:1≤sz∧sz≤64)(h:l.all (fun x=>a1n x fm.2.2.1)=true){effort:Int}(w:0≤effort)(y:effort≤3):
  ∃xs,c1y fm l ch sz total effort 0 xs∧a2N fm 0 xs∧a0L xs=total∧a1N xs=l∧xs.length≤256∧a6m (fm,l,(sz:Int),effort)=some (a4S fm xs,0):=by
 obtain⟨xs,B,b,i,j,m⟩:=c9f f g a d A h w y 200 0 [] (by omega) (by rfl) (by simp[a1N]) trivial (by simp) (by omega);rw[a07]at b i j m;have e:xs.length≤256:=by grind[b4y]
 obtain⟨E,F,G,H,u,v⟩:=id f;have c:1≤ch∧ch≤8:=by omega
 have z:l.length≤200*8:=by rw[a];exact a05 d c.2
 have k:=b8E (l:=l) (fm:=fm) (by omega) ⟨u,v⟩ (sz:Int) effort (total:Int) l [] rfl h;have o:decide ((sz:Int)<1)=false:=by grind
 have p:decide ((sz:Int) > 4096)=false:=by grind
 have q:decide (effort<0)=false:=by simp_all
 have r:decide (effort > 3)=false:=by simp_all
 have c0:((ch:Int)==0)=false:=by grind
 have C:a44 ((l.length:Nat):Int) (ch:Int)=0:=by
  simp_all
 have D:wrap .i64 (a22 ((l.length:Nat):Int) (ch:Int))=(total:Int):=by
  rw[show a22 ((l.length:Nat):Int) (ch:Int)=((l.length / ch:Nat):Int)from rfl,a,a79 _ c.1,a0C (by omega)]
 have s:decide ((total:Int) > 4194304)=false:=by grind
 have s0:((sz:Int)==0)=false:=by grind
 have t:decide ((wrap .i64 (a22 (wrap .i64 ((wrap .i64 ((total:Int)+(sz:Int)))-(1:Int))) (sz:Int))) > (4096:Int))=false:=by
  rw[a0C (n:=(total:Int)+(sz:Int)) (by omega),a0C (n:=(total:Int)+(sz:Int)-1) (by omega),show((total:Int)+(sz:Int)-1)=((total+sz-1:Nat):Int)from by omega,show a22 ((total+sz-1:Nat):Int) (sz:Int)=(((total+sz-1) / sz:Nat):Int)from rfl];have K:=a90 (total+sz-1) sz
  grind[a0C]
 have I:c0T fm total xs=mkT fm xs:=by simp_all[c0T,mkT]
 have hp:=c7R f b e;refine⟨xs,B,b,i,j,e,?_⟩;unfold a6m;simp only[a4y,f,decide_true,oB,bT,cF,o,p,q,r,g,c0,C,show((0:Int) != 0)=false from rfl,D,s,s0,t]
 erw[k]
 simp
 erw[m]
 simp_all
theorem c4p(f:a0M):b1V f=some (decide (a3W f)):=by
 unfold b1V a3W
 grind
def crE(s:BitVec 16):BitVec 16:=bif s.msb then(s <<< 1) ^^^ 32773#16 else s <<< 1
theorem c5n(s t:BitVec 16):crE (s ^^^ t)=crE s ^^^ crE t:=by
 unfold crE;rw[BitVec.msb_xor,BitVec.shiftLeft_xor_distrib];cases s.msb<;>cases t.msb<;>simp only[cT,cF,Bool.xor_true,Bool.xor_false,bT,a39];rw[a16];rw[a16,a16,a64 (t <<< 1)];rw[a16,a64 32773#16,a16,BitVec.xor_self,a92]
theorem c9g{s:BitVec 16}(h:crE s=0):s=0:=by
 unfold crE at h;cases hm:s.msb with
 |true=>
  rw[hm,cT]at h
  have:=congrArg (fun x=>a69 x 0) h
  simp at this
 |false=>
  rw[hm,cF]at h;refine a62 fun i hi=>?_
  by_cases h15:i=15
  subst h15;rw[a59]at hm;simpa using hm
  have:=congrArg (fun x=>a69 x (i+1)) h
  simp at this;simpa using this (by omega)
theorem d4u:crE 0=0:=by decide
theorem b9f{s:BitVec 16}:∀{n:Nat},rep crE n s=0→s=0
 |0,h=>h
 |n+1,h=>c9g (b9f (n:=n) h)
theorem d0B:∀n:Nat,rep crE n 0=0
 |0=>rfl
 |n+1=>by
  show rep crE n (crE 0)=0;rw[d4u,d0B n]
def crB(b:Bool):BitVec 16:=bif b then 32768#16 else 0#16
def crS(s:BitVec 16)(b:Bool):BitVec 16:=crE (s ^^^ crB b)
def crT:List Bool→BitVec 16
 | []=>0#16
 |b::w=>crB b ^^^ (crT w >>> 1)
theorem d1u(b:Bool)(j:Nat):(crB b).getLsbD j=(b&&decide (j=15)):=by
 cases b with
 |false=>simp[crB]
 |true=>
  simp only[crB,cT,a60];rw[show(32768#16)=BitVec.ofNat 16 (2^15)from rfl,BitVec.getLsbD_ofNat,Nat.testBit_two_pow]
  by_cases h:j=15
  subst h;rfl;rw[decide_eq_false (by omega:¬ (15=j)),decide_eq_false h,Bool.and_false]
theorem b7H:∀(w:List Bool)(j:Nat),(crT w).getLsbD j=(decide (j<16)&&w.getD (15-j) false)
 | [],j=>by simp[crT]
 |b::w,j=>by
  rw[crT,BitVec.getLsbD_xor,d1u,a33,b7H w]
  by_cases h:j=15
  subst h;simp
  by_cases h2:j<16
  rw[show 15-j=(15-(1+j))+1 from by omega,a76];simp[h,h2,show 1+j<16 from by omega];simp[h,h2,show ¬ (1+j<16)from by omega]
theorem c9h{w:List Bool}(h:w.length≤15):crE (crT w >>> 1)=crT w:=by
 have f:(crT w >>> 1).msb=false:=by
  rw[a59,a33,b7H];simp
 unfold crE;rw[f,cF];refine a62 fun i hi=>?_
 rw[BitVec.getLsbD_shiftLeft,a33];cases i with
 |zero=>
  have g:(crT w).getLsbD 0=false:=by
   rw[b7H,lD,List.getElem?_eq_none (by omega)];rfl
  rw[g];simp
 |succ i=>rw[show 1+(i+1-1)=i+1 from by omega];simp[hi]
theorem d2C:∀(w:List Bool)(s:BitVec 16),w.length≤16→w.foldl crS s=rep crE w.length (s ^^^ crT w)
 | [],s,_=>by simp[crT,rep]
 |b::w,s,h=>by
  rw[lC]at h;rw[a65,d2C w _ (by omega),crT,←a16];show _=rep crE w.length (crE (s ^^^ crB b ^^^ (crT w >>> 1)));rw[c5n,c9h (by omega)];rfl
theorem c4q{α:Type}(f g:α→Bool):∀(L:List α)(s t:BitVec 16),(L.map fun j=>xor (f j) (g j)).foldl crS (s ^^^ t)=(L.map f).foldl crS s ^^^ (L.map g).foldl crS t
 | [],_,_=>rfl
 |a::L,s,t=>by
  simp only[a30,a65];rw[←c4q f g L];congr 1;unfold crS;rw[←c5n];congr 1
  have:crB (xor (f a) (g a))=crB (f a) ^^^ crB (g a):=by cases f a<;>cases g a<;>rfl
  rw[this];simp only[a16];rw[←a16 t,a64 t,a16]
theorem b6n:∀(n:Nat)(s:BitVec 16),(a04 n false).foldl crS s=rep crE n s
 |0,_=>rfl
 |n+1,s=>by
  rw[List.replicate_succ,a65,b6n n];show rep crE n (crE (s ^^^ 0#16))=rep crE n (crE s);rw[a92]
theorem d4v{w:List Bool}(h:w.length≤16)(f:true∈w)(k m:Nat):(a04 k false++(w++a04 m false)).foldl crS 0≠0:=by
 rw[a43,a43,b6n,b6n,d0B,d2C w _ h];intro e;have e:=b9f (b9f e);have e:crT w=0:=by simpa using e
 obtain⟨i,hi,g⟩:=List.mem_iff_getElem.1 f
 have:=b7H w (15-i)
 rw[e,show 15-(15-i)=i from by omega,lD,lG hi,g]at this;simp at this;omega
def byb(c:Int):List Bool:=[7,6,5,4,3,2,1,0].map fun i=>c.toNat.testBit i
def b7I(p:List Int):List Bool:=p.flatMap byb
def c1z(f t:Nat)(r:List Int):List Int:=a35 f (a34 t r)
def b9g(b:a1e)(f t:Nat):a1e:=(b.1,b.2.1.map (c1z f t),())
theorem d2D{b:a1e}(hb:a2H b){f t:Nat}(r:f<t)(s:t≤a0S b):b1U (b,(f:Int),(t:Int),())=some (b9g b f t,0):=by
 obtain⟨o,-⟩:=b3W hb;have c:decide ((f:Int)<0)=false:=by simp only[decide_eq_false_iff_not];omega
 have d:decide ((f:Int)≥(t:Int))=false:=by simp only[decide_eq_false_iff_not];omega
 have e:decide ((t:Int) > ((a0S b:Nat):Int))=false:=by simp only[decide_eq_false_iff_not];omega
 have u:=hb.2.2.2.2.2.1;have h:=a1G (f:=a8H) (β:=a1e×(a1e×Unit)) b.2.1 (fun i (a:List (List Int))=>(b.2.1,((b.2.1.length:Nat):Int),(i:Int),((0:Int),([]:List (List Int)),()),(b.1,a,()),((f:Int),(t:Int),()),())) (fun a x=>.inl (a++[c1z f t x])) (fun i a=>a.length=i) (fun a=>(((0:Int),([]:List (List Int)),()),(b.1,a,()),()))
  (fun i hi a k=>⟨fun q g=>by
   simp only[Sum.inl.injEq]at g;subst g;have v:=(o _ (a25 hi)).1;have j:decide ((0:Int)≤(t:Int))=true:=by simp
   have l:decide ((t:Int)≤((b.2.1[i].length:Nat):Int))=true:=by simp only[dT];omega
   have m:decide ((0:Int)≤(f:Int))=true:=by simp
   have n:decide ((f:Int)≤(t:Int))=true:=by simp only[dT];omega
   have p:=hb.2.2.2.1;refine⟨?_,by simp[k]⟩;simp only[a8H,dlt hi,cT,a0D hi,oB,tN,j,l,m,n,a03];rw[b3c (show short (a35 f (a34 t b.2.1[i]))by unfold short;rw[a26,a18];omega)];simp only[oB];rw[a0V (show a.length+1<2147483648 by omega),cT,a0B (show i<1000000 by omega)];rfl,fun b hb=>by cases hb⟩)
  (fun a k=>by simp only[a8H,dge,cF]) (a:=[]) rfl
 rw[b1y (fun x:List Int=>[c1z f t x])]at h;simp only[nZ,a7Z,c3V,a07]at h;unfold b1U;simp only[a6x,decide_eq_true hb,oB,bT,cF,c,d,a4Q,e]
 erw[h]
 rfl
theorem c5o{b:a1e}(hb:a2H b){f t:Nat}(g:f<t)(k:t≤a0S b):a0S (b9g b f t)=t-f:=by
 unfold a0S b9g;have a:=hb.2.2.1;have h:0<b.2.1.length:=by omega
 have c:a0S b=(b.2.1[0]).length:=by unfold a0S;rw[b4v (d:=[]) h]
 rw[←b4v (d:=[]) (show 0<(b.2.1.map (c1z f t)).length by simpa using h)];simp only[List.getElem_map,c1z,a26,a18];omega
theorem d2E{b:a1e}(hb:a2H b){f t:Nat}(e:f<t)(i:t≤a0S b):a2H (b9g b f t):=by
 have j:=c5o hb e i;obtain⟨g,k,a,c,o,p,d⟩:=hb;refine⟨g,k,by simpa[b9g]using a,by simpa[b9g]using c,by omega,by omega,lA.2 fun r l=>?_⟩;obtain⟨n,h,rfl⟩:=a38.1 l
 have:=lA.1 d n h
 simp only[bA,dT]at this;simp only[bA,dT];refine⟨by rw[j];simp only[c1z,a26,a18];omega,lA.2 fun x m=>lA.1 this.2 x (a70 (a71 m))⟩
def dead(T:List Int)(a:Int):List Int×(Int×Int×Unit):=(T,a,(3:Int),())
def d2F(c:Int):Prop:=0≤c∧c<256
def a9O(p:List Int)(j:Nat):Bool:=(p.getD (j / 8) 0).toNat.testBit (7-j%8)
theorem b9h:∀p:List Int,b7I p=(a01 (8*p.length)).map (a9O p)
 | []=>rfl
 |c::p=>by
  have e:b7I (c::p)=byb c++b7I p:=rfl;rw[e,b9h p,lC,show 8*(p.length+1)=8+8*p.length from by omega,a42,pA,a32];congr 1;refine a24 fun j _=>?_
  show a9O p j=a9O (c::p) (8+j);unfold a9O;rw[show(8+j) / 8=j / 8+1 from by omega,a76,show(8+j)%8=j%8 from by omega]
structure Turn (b k i:Nat) (p0 p:List Int) (sm:Bool):Prop where
 len:p.length=p0.length
 ok:∀c∈p,d2F c
 bit:∀j,a9O p j=xor (a9O p0 j) (decide (k≤j∧j<k+i)&&b.testBit (j-k))
 smk:sm=true↔∃t,t<i∧b.testBit t=true
 pre:p.take (k / 8)=p0.take (k / 8)
 same:sm=false→p=p0
theorem turned{b k:Nat}{p0 q:List Int}{s:Bool}(w:k<8*p0.length)(i:(b7I p0).foldl crS 0=0)(g:Turn b k (min 16 (8*p0.length-k)) p0 q s)(u:s=true):(b7I q).foldl crS 0≠0:=by
 obtain⟨n,r⟩:∃n,min 16 (8*p0.length-k)=n:=⟨_,rfl⟩;rw[r]at g;have e:b7I q=(a01 (8*p0.length)).map fun j=>xor (a9O p0 j) (decide (k≤j∧j<k+n)&&b.testBit (j-k)):=by
  rw[b9h,g.len];exact a24 fun j _=>g.bit j
 have h:=c4q (a9O p0) (fun j=>decide (k≤j∧j<k+n)&&b.testBit (j-k)) (a01 (8*p0.length)) 0 0;have a:∀x:BitVec 16,(0:BitVec 16) ^^^ x=x:=fun _=>BitVec.zero_xor;rw[a,←e,←b9h,i,a]at h;rw[h];obtain⟨m,p⟩:∃m,8*p0.length=k+(n+m):=⟨8*p0.length-k-n,by omega⟩;rw[p,a42,a42,pA,pA,pA,a32,a32,a32];have c:(a01 k).map (fun j=>decide (k≤j∧j<k+n)&&b.testBit (j-k))=a04 k false:=by
  rw[a68];refine⟨by simp,fun x f=>?_⟩;obtain⟨j,o,rfl⟩:=a38.1 f
  grind
 have d:(a01 m).map (((fun j=>decide (k≤j∧j<k+n)&&b.testBit (j-k))∘(k+·))∘(n+·))=a04 m false:=by
  rw[a68];refine⟨by simp,fun x f=>?_⟩;obtain⟨j,o,rfl⟩:=a38.1 f
  grind
 rw[c,d];refine d4v (by simp;omega) ?_ k m;obtain⟨t,l,v⟩:=g.smk.1 u;refine a38.2 ⟨t,a41.2 l,?_⟩;simp_all
set_option maxRecDepth 100000 in
theorem d1v:b4P ()=some true:=by kernel_rfl
theorem c7T(f:a0M)(l:List Int)(m:Nat)(p:m≤1000):∃t,b2W (f,l,(m:Int))=some t∧(t=true→a3W f∧l.length≤m∧l.all (fun x=>a1n x f.2.2.1)=true∧∃ch n:Nat,f.2.1=(ch:Int)∧l.length=n*ch):=by
 unfold b2W;simp only[c4p,oB]
 by_cases hf:a3W f
 ·simp only[hf,decide_true,bT,cF];cases hd:decide (((l.length:Nat):Int) > (m:Int))with
  |true=>exact⟨false,rfl,fun h=>by cases h⟩
  |false=>
   have k:l.length≤m:=by simp at hd;omega
   obtain⟨d,e,j,o,a,b⟩:=id hf;obtain⟨ch,g⟩:∃ch:Nat,f.2.1=(ch:Int):=⟨f.2.1.toNat,by omega⟩;have c0:((ch:Int)==0)=false:=by simp;omega
   have tm:a44 ((l.length:Nat):Int) (ch:Int)=((l.length%ch:Nat):Int):=rfl;simp only[cF,g,c0,tm,oB];cases c:(((l.length%ch:Nat):Int) != 0)with
   |true=>exact⟨false,rfl,fun h=>by cases h⟩
   |false=>
    have c:l.length%ch=0:=by simp at c;omega
    have h:=a1S (f:=a7k) l (fun i=>(l,(i:Int),f,())) (fun x=>a1n x f.2.2.1) (bt:=Sum.inl ()) (bf:=Sum.inr (false,()))
     (fun i hi hp=>by simp only[a7k,dlt hi,cT,a0D hi,oB,b7q ⟨a,b⟩,hp,bT,cF,a0B (show i<1000000 by omega)])
     (fun i hi hp=>by simp only[a7k,dlt hi,cT,a0D hi,oB,b7q ⟨a,b⟩,hp,a39])
     (by simp only[a7k,dge,cF])
    simp only[cF]
    erw[h]
    cases ha:l.all (fun x=>a1n x f.2.2.1)with
    |true=>exact⟨true,rfl,fun _=>⟨trivial,k,rfl,ch,l.length / ch,rfl,by have:=Nat.div_add_mod l.length ch;rw[a61];omega⟩⟩
    |false=>exact⟨false,rfl,fun h=>by cases h⟩
 simp only[hf,decide_false,a39,cT];exact⟨false,rfl,fun h=>by cases h⟩
theorem d1w{fm:a0M}(b:a3W fm){ch:Nat}(g:fm.2.1=(ch:Int)){l:List Int}{total:Nat}(i:l.length=total*ch)(j:total≤200)(h:l.all (fun x=>a1n x fm.2.2.1)=true)(size effort:Int):
  ∃(sz:Nat)(eff:Int)(xs:List Pc),1≤sz∧sz≤64∧wrap .i64 (1+bits .i64 .and size 63)=(sz:Int)∧bits .i64 .and effort 3=eff∧0≤eff∧eff≤3∧c1y fm l ch sz total eff 0 xs∧a2N fm 0 xs∧a0L xs=total∧a1N xs=l∧xs.length≤256∧
   b2X (fm,l,size,effort)=some (a4S fm xs,mkT fm xs,true):=by
 obtain⟨v,hv,f⟩:=d2n 6 (by omega) size;obtain⟨w,k,a⟩:=d2n 2 (by omega) effort;rw[show((2^6-1:Nat):Int)=63 from rfl]at hv;rw[show((2^2-1:Nat):Int)=3 from rfl]at k;have m:v<64:=f;have n:w<4:=a;have c:wrap .i64 (1+(v:Int))=((v+1:Nat):Int):=by rw[a0C (by omega)];omega
 obtain⟨xs,o,d,p,q,e,r⟩:=c7S b g i j (sz:=v+1) (by omega) h (effort:=(w:Int)) (by omega) (by omega);refine⟨v+1,w,xs,by omega,by omega,by rw[hv];exact c,k,by omega,by omega,o,d,p,q,e,?_⟩;unfold b2X;simp only[hv,k,c,r,oB,c6Q b d e,beq_self_eq_true,cT]
theorem d1x{n:Int}(h:Wf (.int .u8) n):0≤n∧n<256:=by
 have h:(decide (IntKind.min .u8≤n)&&decide (n≤IntKind.max .u8))=true:=h;simp only[bA,dT]at h;have g:IntKind.min .u8=0:=rfl;have f:IntKind.max .u8=255:=rfl;omega
def prP(ch:Nat)(x:Pc):Prop:=x.2.1.2.1=a1M (wvB x.2.1) ch∧(wvB x.2.1).length=a0S x.2.1*ch
theorem c5p{fm:a0M}{ch:Nat}(g:1≤ch){l:List Int}{sz total:Nat}(a:l.length=total*ch)(c:1≤sz){k:Int}:∀(xs:List Pc)(st:Nat),c1y fm l ch sz total k st xs→∀x∈xs,prP ch x
 | [],_,_,x,hx=>by simp at hx
 |y::ys,st,⟨a1,a2,a3,a4,a5⟩,x,hx=>by
  rcases mC.1 hx with rfl|hx;have h:=c2k (l:=l) (ch:=ch) (st:=st) (en:=min (st+sz) total) (by rw[a];exact a02 _ (by omega));have b:=c5i (w:=fm.2.2.1) h g;have f:=b6i (w:=fm.2.2.1) h g;refine⟨?_,?_⟩;rw[a2,b];rfl;rw[a2,b,f,h];exact c5p g a c ys _ a5 x hx
theorem d2G{b:a1e}{ch f t:Nat}(hb:a2H b)(k:b.2.1=a1M (wvB b) ch)(c:(wvB b).length=a0S b*ch)(e:f<t)(g:t≤a0S b):wvB (b9g b f t)=a1f (wvB b) ch f t:=by
 have h:=d2p (d:=wvB b) (ch:=ch) (a:=f) c g;rw[←k]at h;unfold a1f;rw[←h];unfold wvB;rw[c5o hb e g];rfl
def okP(a b:Nat):Nat→List (Pc×List Int)→Prop
 |_,[]=>True
 |st,z::zs=>z.2.length=z.1.2.2.length∧(a<b→a<st+a0S z.1.2.1→st<b→z.2=z.1.2.2)∧okP a b (st+a0S z.1.2.1) zs
def a0J(zs:List (Pc×List Int)):List Pc:=zs.map (·.1)
def a3g(zs:List (Pc×List Int)):List Int:=zs.flatMap (·.2)
theorem c2q(h:List (Pc×List Int))(z:Pc×List Int):a0J (h++[z])=a0J h++[z.1]:=by simp[a0J]
theorem b4A{l:List Int}{ch a b:Nat}(h:b≤a):a1f l ch a b=[]:=by
 unfold a1f;rw[List.drop_eq_nil_iff,a18];exact Nat.le_trans (Nat.min_le_left _ _) (a02 _ h)
theorem c7U{l:List Int}{ch a m b:Nat}(f:a≤m)(g:m≤b)(e:b*ch≤l.length):a1f l ch a m++a1f l ch m b=a1f l ch a b:=by
 have c:a*ch≤m*ch:=a02 _ f;have d:m*ch≤b*ch:=a02 _ g;have h:=b4x (l:=l) (ch:=ch) g;have k:a*ch≤(l.take (m*ch)).length:=by rw[a18];omega
 have h:=congrArg (a35 (a*ch)) h;rw[List.drop_append_of_le_length k]at h;exact h
theorem c9i{A w C:List Int}{ch st k f t:Nat}(h:A.length=st*ch)(b:w.length=k*ch)(g:t≤k):a1f (A++(w++C)) ch (st+f) (st+t)=a1f w ch f t:=by
 unfold a1f;have a:t*ch≤k*ch:=a02 _ g;rw[a66,a66,←h,List.take_length_add_append,List.drop_length_add_append,List.take_append_of_le_length (by omega)]
theorem b7y{ch:Nat}:∀{xs:List Pc},(∀x∈xs,prP ch x)→(a1N xs).length=a0L xs*ch
 | [],_=>by simp[a1N,a0L]
 |x::xs,hp=>by
  have g:=b7y (xs:=xs) fun y h=>hp y (by simp[h])
  have:=(hp x (by simp)).2
  simp only[a1N,a0L,a28,lN,a30,List.sum_cons,a66]at g⊢;omega
theorem c2r{fm:a0M}{ch:Nat}(hc:1≤ch∧ch≤8){all:List (Pc×List Int)}(s:all.length≤256){B Hd:List Int}(hl:B.length<1000000000){pl:b6m}(hp:pl.1=fm)(M:pl.2.1=a1F (a0J all))(k:pl.2.2.1=a3M (a0J all)){a b:Nat}(X:a≤b)
  {D:List Int}(U:D=a1N (a0J all))(l:a2N fm 0 (a0J all))(c:∀x∈a0J all,prP ch x):∀(rest done tail:List (Pc×List Int)) (Z:List Int),done++(rest++tail)=all→B=Hd++(a3g done++(a3g rest++Z))→a2N fm (a0L (a0J done)) (a0J rest)→okP a b (a0L (a0J done)) rest→
  (a3g done).length=(a0X (a0J done)).length→
  y0s a2m (B,((Hd.length+(a3g done).length:Nat):Int),((a0L (a0J done):Nat):Int),a1F (a0J all),(all.length:Int),(done.length:Int),a1f D ch a (min b (a0L (a0J done))),pl,((a:Int),(b:Int),()),()) =
   y0s a2m (B,((Hd.length+(a3g (done++rest)).length:Nat):Int),((a0L (a0J (done++rest)):Nat):Int),a1F (a0J all),(all.length:Int),((done++rest).length:Int),a1f D ch a (min b (a0L (a0J (done++rest)))),pl,((a:Int),(b:Int),()),())
 | [],done,tail,Z,_,_,_,_,_=>by rw[a63]
 |z::rest,done,tail,Z,hd,hB,hr,hok,hlb=>by
  obtain⟨S,g0⟩:=hr;obtain⟨O,g1,g2⟩:=hok;rw[a45]at hd;have K:done.length<all.length:=by rw[←hd];simp
  have g:a0J all=a0J done++z.1::a0J (rest++tail):=by rw[←hd];simp[a0J]
  have h0:(a0J done).length=done.length:=by simp[a0J]
  have R:=c4o (done:=a0J done) (rest:=a0J (rest++tail)) z.1;have d:=c5m (done:=a0J done) (rest:=a0J (rest++tail)) z.1;rw[←g,h0]at R d;have m:B=(Hd++a3g done)++(z.2++(a3g rest++Z)):=by rw[hB];simp[a3g]
  have k0:Hd.length+(a3g done).length+z.2.length≤B.length:=by rw[m];simp;omega
  obtain⟨h1,h2,h3,h4,h5,h6,Q,h8,h9,g7,g9⟩:=id S;have r:=c z.1 (by rw[g];simp);have k3:=b4y l;have g4:(a0J all).length=all.length:=by simp[a0J]
  have g6:a0L (a0J all)=a0L (a0J done)+(a0S z.1.2.1+a0L (a0J (rest++tail))):=by rw[g];simp[a0L]
  have y:D.length=a0L (a0J all)*ch:=by rw[U];exact b7y c
  have g3:D.length≤16384*8:=by rw[y];exact a05 (by omega) hc.2
  have L:∀u v:Nat,u≤v→v≤a0L (a0J all)→v*ch≤D.length:=fun u v _ h=>by rw[y];exact a02 _ h
  have g5:=Q.2.2.2.2.1

  have n:a0L (a0J (done++[z]))=a0L (a0J done)+a0S z.1.2.1:=by rw[c2q,a4n]
  have E:(a3g (done++[z])).length=(a3g done).length+z.2.length:=by simp[a3g]
  have w1:wrap .i64 (((a0L (a0J done):Nat):Int)+((a0S z.1.2.1:Nat):Int))=((a0L (a0J done)+a0S z.1.2.1:Nat):Int):=by rw[a0C (by omega)];omega
  have w2:wrap .i64 (((Hd.length+(a3g done).length:Nat):Int)+((z.1.2.2.length:Nat):Int))=((Hd.length+(a3g (done++[z])).length:Nat):Int):=by rw[E,←O,a0C (by omega)];omega
  have mx:v0r (a:Int) ((a0L (a0J done):Nat):Int)=((max a (a0L (a0J done)):Nat):Int):=by rw[b7B];omega
  have mn:v0s (b:Int) ((a0L (a0J done)+a0S z.1.2.1:Nat):Int)=((min b (a0L (a0J done)+a0S z.1.2.1):Nat):Int):=by rw[b1j];omega
  have P:a2m (B,((Hd.length+(a3g done).length:Nat):Int),((a0L (a0J done):Nat):Int),a1F (a0J all),(all.length:Int),(done.length:Int),a1f D ch a (min b (a0L (a0J done))),pl,((a:Int),(b:Int),()),()) =
    some (.inl (B,((Hd.length+(a3g (done++[z])).length:Nat):Int),((a0L (a0J (done++[z])):Nat):Int),a1F (a0J all),(all.length:Int),(((done++[z]).length:Nat):Int),a1f D ch a (min b (a0L (a0J (done++[z])))),pl,((a:Int),(b:Int),()),())):=by
   rw[n]
   by_cases hq:max a (a0L (a0J done))<min b (a0L (a0J done)+a0S z.1.2.1)
   have ez:z.2=z.1.2.2:=g1 (by omega) (by omega) (by omega);have hg:=b8C S (by rw[m,ez]) hl hp (i:=(done.length:Int)) (by rw[M];exact R) (by rw[k];exact d);rw[lN]at hg;obtain⟨f,I⟩:∃f,max a (a0L (a0J done))=a0L (a0J done)+f:=⟨max a (a0L (a0J done))-a0L (a0J done),by omega⟩;obtain⟨t,N⟩:∃t,min b (a0L (a0J done)+a0S z.1.2.1)=a0L (a0J done)+t:=⟨min b (a0L (a0J done)+a0S z.1.2.1)-a0L (a0J done),by omega⟩;rw[I,N]at hq;have o:f<t:=by omega
   have j:t≤a0S z.1.2.1:=by omega
   have c1:wrap .i64 (((a0L (a0J done)+f:Nat):Int)-((a0L (a0J done):Nat):Int))=(f:Int):=by rw[a0C (by omega)];omega
   have c2:wrap .i64 (((a0L (a0J done)+t:Nat):Int)-((a0L (a0J done):Nat):Int))=(t:Int):=by rw[a0C (by omega)];omega
   have H:=d2D Q o j;have q:=c4k (d2E Q o j);rw[d2G Q r.1 r.2 o j]at q;have V:D=a1N (a0J done)++(wvB z.1.2.1++a1N (a0J (rest++tail))):=by rw[U,g];simp[a1N]
   have Y:(a1N (a0J done)).length=a0L (a0J done)*ch:=b7y fun x S=>c x (by rw[g];simp[S]);have G:=c9i (A:=a1N (a0J done)) (w:=wvB z.1.2.1) (C:=a1N (a0J (rest++tail))) (f:=f) Y r.2 j;rw[←V]at G;rw[←G]at q;have F:a1f D ch a (min b (a0L (a0J done)))++a1f D ch (a0L (a0J done)+f) (a0L (a0J done)+t)=a1f D ch a (a0L (a0J done)+t):=by
    by_cases ha:a≤a0L (a0J done)
    rw[show f=0 from by omega,show min b (a0L (a0J done))=a0L (a0J done)+0 from by omega];exact c7U (by omega) (by omega) (L 0 _ (by omega) (by omega));rw[b4A (b:=min b (a0L (a0J done))) (by omega),show a0L (a0J done)+f=a from by omega,a07]
   have T:decide (((a0L (a0J done)+f:Nat):Int)<((a0L (a0J done)+t:Nat):Int))=true:=decide_eq_true (by omega);have k1:(a1f D ch a (min b (a0L (a0J done)))).length≤131072:=by unfold a1f;rw[a26,a18];omega
   have k2:(a1f D ch (a0L (a0J done)+f) (a0L (a0J done)+t)).length≤131072:=by unfold a1f;rw[a26,a18];omega
   simp only[a2m,dlt K,cT,R,k,d,oB,w1,mx,mn,I,N,T]
   erw[hg]
   simp only[oB,show((0:Int) != 0)=false from rfl,cF,c1,c2,H,q,a0V (show(a1f D ch a (min b (a0L (a0J done)))).length+(a1f D ch (a0L (a0J done)+f) (a0L (a0J done)+t)).length<2147483648 by omega),cT,w2,a0B (show done.length<1000000 by omega)];rw[a40,F]
   simp
   have T:decide (((max a (a0L (a0J done)):Nat):Int)<((min b (a0L (a0J done)+a0S z.1.2.1):Nat):Int))=false:=decide_eq_false (by omega);have p:a1f D ch a (min b (a0L (a0J done)))=a1f D ch a (min b (a0L (a0J done)+a0S z.1.2.1)):=by
    by_cases e:min b (a0L (a0J done))=min b (a0L (a0J done)+a0S z.1.2.1)
    rw[e];rw[b4A (by omega),b4A (by omega)]
   simp only[a2m,dlt K,cT,R,k,d,oB,w1,mx,mn,T,cF,w2,a0B (show done.length<1000000 by omega),p]
   simp
  rw[a0F P,a87 done z rest];exact c2r hc s hl hp M k X U l c rest (done++[z]) tail Z (by simpa using hd) (by rw[m];simp[a3g]) (by rw[n];exact g0) (by rw[n];exact g2) (by rw[E,hlb,c2q,a7x,lN,O])
theorem c2s{a b:Nat}:∀(zs:List (Pc×List Int)) (st:Nat),okP a b st zs→(a3g zs).length=(a0X (a0J zs)).length
 | [],_,_=>rfl
 |z::zs,st,⟨h1,_,h3⟩=>by
  have:=c2s zs _ h3
  simp only[a3g,a0X,a0J,a30,a28,lN]at this⊢;omega
theorem d1y{fm:a0M}(m:a3W fm){ch:Nat}(s:1≤ch∧ch≤8){zs:List (Pc×List Int)}{xs:List Pc}(u:a0J zs=xs)(k:a2N fm 0 xs)(g:xs.length≤256)(j:∀x∈xs,prP ch x){a b:Nat}(c:a≤b)(hb:b≤a0L xs)(f:okP a b 0 zs):
  a3x (a1b fm xs++(a4j 4 (a2y (a1b fm xs))++a3g zs),(a:Int),(b:Int),())=some (a1f (a1N xs) ch a b,0):=by
 subst u;have l:(a0J zs).length=zs.length:=by simp[a0J]
 have r:=c2s zs 0 f;have q:=b3h k;have v:=b7u m k g;have t:=b8D m k g (R:=a3g zs) (by omega);have e:(a1b fm (a0J zs)++a4j 4 (a2y (a1b fm (a0J zs)))).length=(a1b fm (a0J zs)).length+4:=by simp[a6T]
 have h:=c2r (fm:=fm) s (all:=zs) (by omega) (B:=a1b fm (a0J zs)++(a4j 4 (a2y (a1b fm (a0J zs)))++a3g zs)) (Hd:=a1b fm (a0J zs)++a4j 4 (a2y (a1b fm (a0J zs)))) (by simp only[lN,a6T];omega)
  (pl:=b0X fm (a0J zs) (a2d fm (a0J zs)) ((a1b fm (a0J zs)).length+4)) rfl rfl rfl c rfl k j zs [] [] [] (by simp) (by simp[a3g]) k f rfl
 have d:y0s a2m (a1b fm (a0J zs)++(a4j 4 (a2y (a1b fm (a0J zs)))++a3g zs),(((a1b fm (a0J zs)++a4j 4 (a2y (a1b fm (a0J zs)))).length+(a3g zs).length:Nat):Int),((a0L (a0J zs):Nat):Int),a1F (a0J zs),(zs.length:Int),(zs.length:Int),a1f (a1N (a0J zs)) ch a (min b (a0L (a0J zs))),b0X fm (a0J zs) (a2d fm (a0J zs)) ((a1b fm (a0J zs)).length+4),((a:Int),(b:Int),()),())=some (Sum.inl (a1f (a1N (a0J zs)) ch a (min b (a0L (a0J zs))),())):=
  a0E (by simp only[a2m,dge,cF])
 rw[a07,d,b4A (b:=min b (a0L (a0J []))) (by simp[a0J,a0L]),Nat.min_eq_left hb,e]at h;have i:(a1F (a0J zs)).length=zs.length:=by simp[a1F,l]
 have n:decide ((a:Int)<0)=false:=decide_eq_false (by omega);have o:decide ((a:Int) > (b:Int))=false:=decide_eq_false (by omega);have p:decide ((b:Int) > (b0X fm (a0J zs) (a2d fm (a0J zs)) ((a1b fm (a0J zs)).length+4)).2.2.2.1)=false:=decide_eq_false (by show ¬ (b:Int) > ((a0L (a0J zs):Nat):Int);omega);unfold a3x;simp only[t,oB,show((0:Int) != 0)=false from rfl,cF,n,o,p];simp only[b0X,i]
 erw[h]
 rfl
theorem c7V(xs:List Pc):a0J (xs.map fun x=>(x,x.2.2))=xs:=by simp[a0J,Function.comp_def]
theorem c7W(xs:List Pc):a3g (xs.map fun x=>(x,x.2.2))=a0X xs:=by simp[a3g,a0X,List.flatMap_map]
theorem c4r(a b:Nat):∀(xs:List Pc)(st:Nat),okP a b st (xs.map fun x=>(x,x.2.2))
 | [],_=>trivial
 |x::xs,st=>⟨rfl,fun _ _ _=>rfl,c4r a b xs _⟩
theorem d1z{fm:a0M}(d:a3W fm){ch:Nat}(c:1≤ch∧ch≤8){xs:List Pc}(e:a2N fm 0 xs)(g:xs.length≤256)(k:∀x∈xs,prP ch x){a b:Nat}(f:a≤b)(hb:b≤a0L xs):
  a3x (a4S fm xs,(a:Int),(b:Int),())=some (a1f (a1N xs) ch a b,0):=by
 have h:=d1y d c (c7V xs) e g k f hb (c4r a b xs 0);rw[c7W]at h;exact h
theorem b8F{fm:a0M}{l B:List Int}{ch n:Nat}(i:l.length=n*ch)(f:n≤200)(p:1≤ch∧ch≤8)(o:∀a b:Nat,a≤b→b≤n→a3x (B,(a:Int),(b:Int),())=some (a1f l ch a b,0)){t:b9c}(r:t.2.1=(n:Int))(h:List Int)(m:h.length≤20)(k:∀c∈h,0≤c∧c<256):
  ∀(rest done:List Int)(at':Nat),done++rest=h→at'≤n→
  y0s a2L (l,h,B,(at':Int),(done.length:Int),l.take (at'*ch),t,())=some (.inl (l,l,()))
 | [],done,at',hd,ha=>by
  obtain rfl:done=h:=by simpa using hd
  have j:decide ((done.length:Int)≤((a09 done:Nat):Int))=true:=decide_eq_true (by omega);have u:decide ((((done.length+1:Nat):Int))≤((a09 done:Nat):Int))=false:=decide_eq_false (by omega);have e:=b4x (l:=l) (ch:=ch) ha;have q:l.length≤200*8:=by rw[i];exact a05 f p.2
  have g:(l.take (at'*ch)).length+(a1f l ch at' n).length<2147483648:=by unfold a1f;simp only[a26,a18];omega
  rw[a0F (s':=(l,done,B,(n:Int),((done.length+1:Nat):Int),l.take (n*ch),t,()) ) (by
   simp only[a2L,j,cT,dge,cF,oB,r,o at' n ha (a56 _),show((0:Int) != 0)=false from rfl,a0V g,a0B (show done.length<1000000 by omega),a40,e])]
  rw[a0E (b:=Sum.inl (l,l.take (n*ch),())) (by simp only[a2L,u,cF]),←i,a46]
 |c::rest,done,at',hd,ha=>by
  have d:done.length<h.length:=by rw[←hd];simp
  have w:m0k h (done.length:Int)=some c:=by rw[a0D d];simp[←hd]
  have j:decide ((done.length:Int)≤((a09 h:Nat):Int))=true:=decide_eq_true (by omega);have v:=k c (by rw[←hd];simp);have tm:a44 (wrap .i64 c) 9=((c.toNat%9:Nat):Int):=by
   rw[a0C (n:=c) (by omega),show c=((c.toNat:Nat):Int)from by omega];rfl
  have y:wrap .i64 ((at':Int)+((c.toNat%9:Nat):Int))=((at'+c.toNat%9:Nat):Int):=by rw[a0C (by omega)];omega
  have x:v0s ((at'+c.toNat%9:Nat):Int) (n:Int)=((min (at'+c.toNat%9) n:Nat):Int):=by rw[b1j];omega
  have s:at'≤min (at'+c.toNat%9) n:=by omega
  have e:=b4x (l:=l) (ch:=ch) s;have q:l.length≤200*8:=by rw[i];exact a05 f p.2
  have g:(l.take (at'*ch)).length+(a1f l ch at' (min (at'+c.toNat%9) n)).length<2147483648:=by unfold a1f;simp only[a26,a18];omega
  rw[a0F (s':=(l,h,B,((min (at'+c.toNat%9) n:Nat):Int),(((done++[c]).length:Nat):Int),l.take (min (at'+c.toNat%9) n*ch),t,()) ) (by
   simp only[a2L,j,cT,dlt d,w,oB,tm,y,r,x,o at' _ s (a88 _ _),show((0:Int) != 0)=false from rfl,cF,a0V g,a0B (show done.length<1000000 by omega),a40,e]
   simp)]
  exact b8F (fm:=fm) i f p o r h m k rest (done++[c]) _ (by simpa using hd) (a88 _ _)
theorem c0U(x:a0M×(List Int×(Int×(Int×List Int))))(m:∀c∈x.2.2.2.2,0≤c∧c<256):a8T x=some true:=by
 obtain⟨fm,l,size,effort,h⟩:=x;unfold a8T;simp only[d1v,oB,bT,cF];obtain⟨t,k,e⟩:=c7T fm l 80 (by omega);rw[show((80:Nat):Int)=80 from rfl]at k;simp only[k,oB];cases t with
 |false=>rfl
 |true=>
  simp only[bT,cF,oB];cases hz:decide (((a09 h:Nat):Int) > (20:Int))with
  |true=>rfl
  |false=>
   have i:h.length≤20:=by simp at hz;omega
   obtain⟨o,L,g,ch,n,j,p⟩:=e rfl;obtain⟨E,F,G,H,I,K⟩:=id o;have d:1≤ch∧ch≤8:=by omega
   have f:n≤200:=Nat.le_trans (Nat.le_mul_of_pos_right n d.1) (by omega);obtain⟨sz,u,xs,D,M,N,O,P,Q,w,z,s,A,B,C⟩:=d1w o j p f g size effort;have q:=c5p d.1 p D xs 0 w;have v:∀a b:Nat,a≤b→b≤n→a3x (a4S fm xs,(a:Int),(b:Int),())=some (a1f l ch a b,0):=fun a b k e=>by
    have:=d1z o d z B q k (by rw[s];exact e)
    rwa [A]at this
   have hp:=b8F (fm:=fm) p f d v (t:=mkT fm xs) (by show((a0L xs:Nat):Int)=_;rw[s]) h i m h [] 0 rfl (by omega);have r:=c4y (x:=l) (y:=l) (by unfold short;omega);simp only[cF,C,oB,bT];rw[Nat.zero_mul,a93]at hp
   erw[hp]
   simp only[oB,r,decide_true]
end Go.Ab
namespace Go.Proofs.YtbadoabamddpfaaGreatDoor
open Go.Ab Go.ChangeShapes Go.WideShapes Go.ChangeAt Go.RowKit
theorem b7z{α:Type}{f:Nat→Option (α×a0z×List Nat)}:∀(L:List α)(i:Nat),(∀(j:Nat) x,L[j]?=some x→f (i+j)=some (x,[],[]))→a0d f L.length i=some (L,[],[])
 | [],_,_=>rfl
 |a::L,i,h=>by
  have g:=h 0 a rfl;have k:=b7z L (i+1) (fun j x b=>by have:=h (j+1) x (by simpa using b);rw[←this];congr 1;omega);simp only[lC,a0d];simp only[a81]at g;rw[g,k];rfl
section
variable {H:Type} {enc:TypeId×Value→H} {P:Program} {w:World} {base:Nat} {spare:Nat→Bool} {held:Bool}
theorem c2H{k:IntKind}{n:Nat}{t e:TypeId}{fuel:Nat}{cs:List Value}{L:List Int}{p:List MemPlace}(B:P.underlying t=some (.array n e))(u:P.underlying e=some (.int k))(s:P.cellsOf e=1)
  (h:DataW.trod enc P w base spare held fuel t cs=some (.agg (L.map fun i=>.lit (.int k i)),p)):L.length=n∧∀(j:Nat) x,L[j]?=some x→cs[j]?=some (.int k x):=by
 obtain⟨xs,m,rfl,b,-,A,a⟩:=DataW.trod_array B h;simp only[pJ,DataW.agg.injEq]at b;have z:L.length=n:=by rw[←A];simpa using congrArg a09 b.1
 refine⟨z,fun j x c=>?_⟩;obtain⟨v,-⟩:=lS.1 c;have g:=a j (by omega);rw[s]at g;obtain⟨y,d⟩:∃y,xs[j]?=some y:=⟨_,lG (by omega)⟩;rw[d]at g;obtain⟨i,o,q,-⟩:=DataW.trod_int u g;have f:=congrArg (fun l=>l[j]?) b.1;simp only[a83,c,d,Option.map_some,q]at f;simp only[sj,DataW.lit.injEq,Lit.int.injEq,true_and]at f;subst f;have r:=congrArg (fun l=>l[0]?) o;simpa[a54,List.getElem?_take]using r
end
def c5q : String := (Rows.frameTurnedRow.laid.map Prod.fst).headD ""
theorem d7g:Tryz.prog.globalNamed c5q=some 0:=by kernel_rfl
def c9j:TypeId:=((Tryz.prog.globals[0]?).map (·.type)).getD 0
theorem d1A:(Tryz.prog.globals[0]?).map (·.type)=some c9j:=by kernel_rfl
def c9k:TypeId:=match Tryz.prog.underlying c9j with
 |some (.array _ e)=>e
 |_=>0
theorem d7h:Tryz.prog.underlying c9j=some (.array 64 c9k):=by kernel_rfl
theorem d4w:Tryz.prog.underlying c9k=some (.int .u8):=by kernel_rfl
theorem d4x:Tryz.prog.cellsOf c9k=1:=by kernel_rfl
@[reducible] def laidTab:List (String×DataW Unit):=[(c5q,Rows.laid_math_bits_deBruijn64tab)]

theorem d2H {g:Nat} {t:Ty} {x:t.den} (h:G0 g=some ⟨t,x⟩):g=0∧(⟨t,x⟩:(t:Ty)×t.den)=⟨.arr 64 (.int .u8),b1z⟩:=by
 unfold G0 find at h
 cases g with
 |zero=>exact⟨rfl,(Option.some.inj h).symm⟩
 |succ n=>exact absurd h (by simp[find])
theorem c4s{W:World}(h:laidMetH Tryz.prog laidTab W):∀g t x,G0 g=some ⟨t,x⟩→g<W.heap.size∧dec (a0a W none) t ((Src.at g 0).rd (a0a W none))=some (x,[],[]):=by
 rw[MakeChecks.laidMetH_plain _ _ _ (by kernel_rfl)]at h;obtain⟨ps,⟨r,w,m,q,u,v,b,c,d,a,_⟩,_,_⟩:=h;obtain rfl:=Option.some.inj (d7g.symm.trans b);obtain rfl:=Option.some.inj (d1A.symm.trans c);have n:(Rows.laid_math_bits_deBruijn64tab:DataW Unit)=.agg (b1z.map fun i=>.lit (.int .u8 i)):=rfl;rw[n]at a;obtain⟨s,p⟩:=c2H d7h d4w d4x a;have k:∀(j:Nat) x,b1z[j]?=some x→W.cell? ⟨0,j,none⟩=some (.int .u8 x):=fun j x l=>by
  rw[World.var?_cell b d j];simpa using p j x l
 intro g t x o;obtain⟨rfl,e⟩:=d2H o;cases e;refine⟨z0m (k 0 0 rfl),?_⟩;exact b7z (f:=fun i=>dec (a0a W none) (.int .u8) fun j=>(Src.at 0 0).rd (a0a W none) (i*1+j)) b1z 0 (fun j x l=>by
  have:=k j x l
  simp only[dec,Src.rd,a0a,Nat.zero_add,Nat.mul_one,a81,this,if_true])
set_option maxRecDepth 100000 in
theorem c9l (os:Os) (args:Array Value):laidMetH Tryz.prog laidTab ((World.doorLaid Tryz.prog 400 os).forCall (fun _ _=>0) ⟨#[],args,[]⟩).memory:=
 laidMetH_of_parts3 (fuel:=8) (laidMet_of_run' 8 (by kernel_rfl) (by kernel_rfl)) (by kernel_rfl) (by kernel_rfl)
end Go.Proofs.YtbadoabamddpfaaGreatDoor
