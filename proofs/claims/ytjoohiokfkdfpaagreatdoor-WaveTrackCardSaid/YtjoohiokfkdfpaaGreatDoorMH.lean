/- Part of the proof: QUF. Conditions: as each statement tells. -/
import Derived.KernelRfl
import Derived.Test.YtjoohiokfkdfpaaGreatDoorRows
import Derived.ProofKit
import Derived.LaidMore
import Derived.LaidLaws
import Derived.LaidHandle
import Derived.LaidByTextLater
import Derived.OpenShut
import Derived.Handed
import Derived.Test.YtjoohiokfkdfpaaGreatDoorMG
noncomputable section
set_option linter.unusedSimpArgs false
set_option linter.unusedVariables false
open BitVec renaming ofInt→a01,toNat_ofInt→a07,xor_assoc→a25,toNat_and→a45,getLsbD_ushiftRight→a48,toNat_or→a64,msb_eq_getLsbD_last→a73,eq_of_getLsbD_eq→a80,xor_comm→a84,getLsbD→a92,xor_zero→b17
open Bool renaming and_self→a05,true_and→a18,not_false→a53,false_and→a56,eq_false_iff→b04,and_false→b20
open Int renaming tmod→a06,natCast_nonneg→a08,tdiv→a21,toNat→a23,tdiv_eq_ediv_of_nonneg→a30,fdiv_eq_ediv_of_nonneg→a46,reducePow→a75,natCast_mul→a83,emod_emod_of_dvd→a93
open List renaming length→a00,range→a02,length_nil→a03,replicate→a09,length_take→a16,length_map→a19,getElem_mem→a20,nil_append→a24,take_succ_eq_append_getElem→a31,take_length→a32,length_drop→a33,map_congr_left→a35,range_succ→a36,all_cons→a37,flatMap_cons→a38,take→a40,append_nil→a42,mem_of_mem_take→a44,drop→a49,flatMap_append→a50,mem_map→a51,map_map→a52,append_eq→a54,range_add→a55,foldl_append→a57,take_of_length_le→a58,cons_append→a59,map_cons→a60,not_mem_nil→a61,ext_getElem→a62,mem_of_mem_drop→a63,drop_append_of_le_length→a67,filter_append→a69,drop_eq_getElem_cons→a74,mem_flatMap→a77,foldl_cons→a85,drop_eq_nil_of_le→a86,take_append_drop→a89,eq_replicate_iff→a90,mem_range→a91,getD_cons_succ→a99,getElem?_drop→b00,getD→b05,append→b09,drop_take→b21
open Nat renaming mul_le_mul→a04,lt_trans→a22,pow_le_pow_right→a26,mul_comm→a28,mod_lt→a29,and_two_pow_sub_one_eq_mod→a34,mul_le_mul_right→a39,pow_succ→a41,two_pow_add_eq_or_of_lt→a43,mod_eq_of_lt→a47,div_le_self→a65,min_eq_left→a66,le_of_lt→a68,mul_div_cancel→a70,le_refl→a71,mul_mod→a72,add_assoc→a76,succ_mul→a78,add_zero→a79,add_sub_cancel_left→a81,div_div_eq_div_mul→a82,mul_mod_mul_right→a87,div_lt_iff_lt_mul→a88,le_sub_one_of_lt→a94,div_lt_of_lt_mul→a95,reducePow→a96,mul_le_mul_left→a97,mul_assoc→a98,pos_of_ne_zero→b01,eq_zero_or_pos→b02,le_trans→b03,lt_succ_of_lt→b06,or_lt_two_pow→b07,pow_mul→b08,div_add_mod→b19
open Option renaming bind_eq_some_iff→a27
namespace Go.Ab
open IntKind(wrap)
def a8Z(f:a1r)(l:List Sub):a1r:=(f.1,f.2.1,f.2.2.1,f.2.2.2.1,l,())
theorem c8h(f:a1r):a8Z f f.2.2.2.2.1=f:=rfl
theorem b9b(f g:a1r)(e:Int){N:Nat}(d:N≤8){Z:List Int}:∀(rest:List PZ)(done:List Sub)(P:List Int),done.length+rest.length=N→(∀p∈rest,c8g f.2.1 p)→OkR P (a0M rest++Z)→
  y0s a8e (e,(N:Int),(done.length:Int),g,a8Z f done,rdr P (a0M rest++Z),())=some (.inl (e,g,a8Z f (done++rest.map (·.1)),rdr (P++a0M rest) Z,()))
 | [],done,P,hl,_,_=>by
  have a:done.length=N:=by simpa using hl
  rw[a,a0E (b:=Sum.inl (e,g,a8Z f done,rdr P Z,())) (by simp only[a8e,dge,cF];rfl)];simp[a0M]
 |p::rest,done,P,hl,h,hok=>by
  rw[lC]at hl;obtain⟨m,j,n⟩:=h p (by simp);have c:a0M (p::rest)++Z=a8r p.1 p.2++(a0M rest++Z):=by simp[a0M]
  rw[c]at hok⊢;have i:=d3j m j n hok;have hd:decide ((done.length:Int)<(N:Int))=true:=by simp;omega
  have z0:((0:Int) != 0)=false:=rfl;rw[a0F (s':=(e,(N:Int),(((done++[p.1]).length:Nat):Int),g,a8Z f (done++[p.1]),rdr (P++a8r p.1 p.2) (a0M rest++Z),())) (by
   have k:b1Y (rdr P (a8r p.1 p.2++(a0M rest++Z)),(a8Z f done).2.1)=some (p.1,(0:Int),rdr (P++a8r p.1 p.2) (a0M rest++Z)):=i;simp only[a8e,hd,cT,k,oB,z0,cF];rw[show(a8Z f done).2.2.2.2.1=done from rfl,a0Q (show done.length+1<2147483648 by omega),cT,a0C (show done.length<1000000 by omega)];rw[show(((done++[p.1]).length:Nat):Int)=((done.length+1:Nat):Int)from by simp];rfl)]
  rw[b9b f g e d rest (done++[p.1]) _ (by simp;omega) (fun q l=>h q (by simp[l])) hok.shift];simp[a0M]
theorem b7i{L:List Int}(f:a1C L)(a:L.length<500000000)(t:Int×(Int×Unit)):∀(k i:Nat),i+k=L.length→(∀j,i≤j→L.getD j 0=0)→
  y0s a3s ((L.length:Int),(i:Int),((wL L).1,t),())=some (.inl ((L.length:Int),((wL L).1,t),()))
 |0,i,h,_=>by
  obtain rfl:i=L.length:=by omega
  exact a0E (by simp only[a3s,dge,cF])
 |k+1,i,h,h0=>by
  have g:i<L.length:=by omega
  have z:((0:Int)==1)=false:=rfl;have b:wrap .i64 ((i:Int)+1)=((i+1:Nat):Int):=by rw[a0A (by omega)];omega
  rw[a0F (s':=((L.length:Int),((i+1:Nat):Int),((wL L).1,t),())) (by
   simp only[a3s,dlt g,cT];rw[c0B f (by omega) g t,h0 i (a71 _)];simp only[oB,z,cF,b])]
  exact b7i f a t k (i+1) (by omega) (fun j c=>h0 j (by omega))
theorem d1q(L:List Int)(k j:Nat)(h:L.length≤j):(L++a09 k 0).getD j 0=0:=by
 rw[lD,List.getElem?_append_right h,List.getElem?_replicate]
 split<;>rfl
theorem c1q{L:List Int}(h:a1C L):a1C (a2I L):=h.app fun _ hb=>.inl (List.mem_replicate.1 hb).2
theorem c9B{L:List Int}(f:a1C L)(c:L.length≤5600000):∃r,a5e (rdr L (a09 (a4X L.length) 0))=some r∧r.2.2.1=0:=by
 have hp:(a2I L).length=L.length+a4X L.length:=by simp[a2I]
 have a:a4X L.length<8:=by unfold a4X;omega
 have b:(a2I L).length%8=0:=by rw[hp];unfold a4X;omega
 have z0:((0:Int) != 0)=false:=rfl;have g:wrap .i64 (wrap .i64 (a21 (wrap .i64 ((L.length:Int)+7)) 8)*8)=((a2I L).length:Int):=by
  rw[a0A (n:=(L.length:Int)+7) (by omega),show a21 ((L.length:Int)+7) 8=(((L.length+7) / 8:Nat):Int)from by
   rw[show((L.length:Int)+7)=((L.length+7:Nat):Int)from by omega];rfl,a0A (n:=(((L.length+7) / 8:Nat):Int)) (by omega),a0A (by omega),hp]
  unfold a4X;omega
 have h:=b7i (c1q f) (by omega) ((L.length:Int),(0:Int),()) (a4X L.length) L.length (by omega) (fun j k=>d1q L _ j k);refine⟨((wL (a2I L)).1,((a2I L).length:Int),(0:Int),()),?_,rfl⟩;unfold a5e rdr;simp only[z0,cF,g];rw[show L++a09 (a4X L.length) 0=a2I L from rfl,h];rfl
theorem d9v{v:Int}(h:0≤v∧v<65536):bits .u16 .or (A0n .u16 (wrap .u16 (v / 256)) 8) (wrap .u16 (v%256))=v:=by
 rw[b2D,b2D];have e:A0n .u16 (v / 256%65536) 8=((v.toNat / 256*256:Nat):Int):=by
  show wrap .u16 (v / 256%65536*256)=_;rw[b2D];omega
 rw[e];have g:v%256%65536=((v.toNat%256:Nat):Int):=by omega
 rw[g];show wrap .u16 (((a01 16 ((v.toNat / 256*256:Nat):Int) ||| a01 16 ((v.toNat%256:Nat):Int)).toNat:Nat):Int)=_;have f:(a01 16 ((v.toNat / 256*256:Nat):Int)).toNat=v.toNat / 256*256:=by rw[a07];omega
 have k:(a01 16 ((v.toNat%256:Nat):Int)).toNat=v.toNat%256:=by rw[a07];omega
 rw[a64,f,k];have e:v.toNat / 256*256 ||| v.toNat%256=v.toNat / 256*256+v.toNat%256:=by
  have:=a43 (i:=8) (b:=v.toNat%256) (by omega) (v.toNat / 256)
  rw[show 2^8*(v.toNat / 256)=v.toNat / 256*256 from by omega]at this;exact this.symm
 rw[e,b2D];omega
theorem c2x{f:a1r}(N:a4t f=some true)(hf:frP f)(t:((f.2.2.2.2.1.length:Nat):Int)=f.2.2.1.2.1){zs:List PZ}(A:zs.map (·.1)=f.2.2.2.2.1)(hp:∀p∈zs,c8g f.2.1 p)(y:(a0M zs).length≤5600000)
  {R:List Int}(U:R.length≤200000000):a6w (a6G f (a0M zs)++R)=some (f,((a6G f (a0M zs)).length:Int),(0:Int)):=by
 have O:=b7O hf y;have P:=b7h (a9j f (a0M zs));have K:f.2.2.2.2.1.length≤8:=by have:=hf.1.2.2.2.1;omega
 have M:=b6e (a0M zs);generalize hbd:a8Y (a0M zs)=body at *;have c:a6G f (a0M zs)=a9j f (a0M zs)++[a4o (a9j f (a0M zs)) / 256,a4o (a9j f (a0M zs))%256]:=rfl;have g:a9j f (a0M zs)=a1O f body.length++body:=by unfold a9j;rw[hbd]
 generalize hpb:a9j f (a0M zs)=pre at *;have o:a6G f (a0M zs)++R=a1O f body.length++(body++([a4o pre / 256,a4o pre%256]++R)):=by rw[c,g];simp
 have m:(a6G f (a0M zs)).length=pre.length+2:=by rw[c];simp
 have z:pre.length=(a1O f body.length).length+body.length:=by rw[g];simp
 have w:(a6G f (a0M zs)++R).length=pre.length+2+R.length:=by rw[lN,m]
 have k:=c8f hf (body:=body.length) (by omega) (R:=body++([a4o pre / 256,a4o pre%256]++R)) (by rw[←o,w];omega);rw[←o]at k;generalize hx:a6G f (a0M zs)++R=x at *;have z0:((0:Int) != 0)=false:=rfl;have S:wrap .i64 (((a1O f body.length).length:Int)+(body.length:Int))=(pre.length:Int):=by rw[a0A (by omega)];omega
 have w2:wrap .i64 ((pre.length:Int)+2)=((pre.length+2:Nat):Int):=by rw[a0A (by omega)];omega
 have T:wrap .i64 ((pre.length:Int)+1)=((pre.length+1:Nat):Int):=by rw[a0A (by omega)];omega
 have B:decide ((x.length:Int)<((pre.length+2:Nat):Int))=false:=by simp;omega
 have C:decide ((0:Int)≤(pre.length:Int))=true:=by simp
 have D:decide ((pre.length:Int)≤(x.length:Int))=true:=by simp;omega
 have E:decide ((0:Int)≤((a1O f body.length).length:Int))=true:=by simp
 have F:decide (((a1O f body.length).length:Int)≤(pre.length:Int))=true:=by simp;omega
 have j:x=pre++([a4o pre / 256,a4o pre%256]++R):=by rw[←hx,c];simp
 have i:a40 pre.length x=pre:=by rw[j];simp
 have b:a49 (a1O f body.length).length pre=body:=by rw[g];simp
 have H:m0k x (pre.length:Int)=some (a4o pre / 256):=by rw[a0D (by omega)];congr 1;subst j;simp
 have I:m0k x ((pre.length+1:Nat):Int)=some (a4o pre%256):=by rw[a0D (by omega)];congr 1;subst j;simp
 have Q:(a4o pre != bits .u16 .or (A0n .u16 (wrap .u16 (a4o pre / 256)) 8) (wrap .u16 (a4o pre%256)))=false:=by rw[d9v P];exact bne_self_eq_false _
 have e:(a2I (a0M zs)).length<1000000000:=by omega
 have a:=d4x e;rw[show(wL (a2I (a0M zs))).1=body from hbd]at a;have u:OkR [] (a0M zs++a09 (a4X (a0M zs).length) 0):=⟨by rw[a24];exact c1q (c1o zs),by
  rw[a24];show(a2I (a0M zs)).length<_;omega⟩
 have h:=b9b f ((0:Int),(0:Int),((0:Int),(0:Int),(0:Int),()),([]:List a0L),([]:List Sub),()) (pre.length:Int) K zs [] [] (by rw[←A];simp) hp u;simp only[a24,a03,A,c8h]at h;have v:rdr [] (a2I (a0M zs))=rdr [] (a0M zs++a09 (a4X (a0M zs).length) 0):=rfl;obtain⟨r,q,s⟩:=c9B (c1o zs) y;have d:a2G (rdr (a0M zs) (a09 (a4X (a0M zs).length) 0))=some ((a4X (a0M zs).length:Int),rdr (a0M zs) (a09 (a4X (a0M zs).length) 0)):=by
  unfold a2G rdr
  have:(wL (a0M zs++a09 (a4X (a0M zs).length) 0)).1=body:=hbd
  simp only[this];have hp:(a2I (a0M zs)).length=(a0M zs).length+a4X (a0M zs).length:=by simp[a2I]
  rw[a0A (n:=8*(body.length:Int)) (by omega),a0A (by omega)];congr 2;omega
 have G:decide (((a4X (a0M zs).length:Nat):Int)≥8)=false:=by unfold a4X;simp;omega
 have L:a8Z f []=c8e f:=rfl;have l:f.2.2.1.2.1=((f.2.2.2.2.1.length:Nat):Int):=t.symm;unfold a6w;rw[k];simp only[oB,z0,cF,S,w2,B,C,D,E,a05,cT,tN,i,b8Y (show short pre by unfold short;omega),H,T,I,Q,F,b,a,v];rw[show(c8e f).2.2.1.2.1=((f.2.2.2.2.1.length:Nat):Int)from l]
 erw[h]
 simp only[oB,d,G,cF,q,a0N,s,z0,N,bT,w2,m]
theorem b3d(x:Int):a9p x=some (a0B x):=by
 grind[a9p,a0B]
def a2K(c:List (List Int)):Prop:=1≤c.length∧c.length≤8∧(c.headD []).length≤4096∧c.all (fun r=>decide (r.length=(c.headD []).length)&&r.all a0B)=true
instance (c:List (List Int)):Decidable (a2K c):=by unfold a2K;infer_instance
theorem c1r{α:Type}{l:List α}{d:α}(h:0<l.length):l[0]=l.headD d:=by
 cases l with
 |nil=>grind
 |cons a l=>rfl
theorem c0F(c:List (List Int)):a7H c=some (decide (a2K c)):=by
 unfold a7H
 by_cases h1:((c.length:Nat):Int)<1
 have:¬ a2K c:=fun h=>by have:=h.1;omega
 simp_all
 by_cases h2:((c.length:Nat):Int) > 8
 have:¬ a2K c:=fun h=>by have:=h.2.1;omega
 simp_all;have b:0<c.length:=by omega
 have a:m0k c 0=some (c.headD []):=by rw[show(0:Int)=((0:Nat):Int)from rfl,a0D b,c1r (d:=[]) b]
 have l:decide (((c.length:Nat):Int)<1)=false:=by simp_all
 have m:decide (((c.length:Nat):Int) > 8)=false:=by simp_all
 simp only[l,m,cF,a,oB]
 by_cases h3:(((c.headD []).length:Nat):Int) > 4096
 rw[decide_eq_true h3,decide_eq_false (show ¬ a2K c from fun h=>by have:=h.2.2.1;omega)];rfl;have n:decide ((((c.headD []).length:Nat):Int) > 4096)=false:=by simp_all
 simp only[n,cF];have g:∀(i:Nat)(r:List Int),short r→y0s a4C (c,c,(c.length:Int),(i:Int),r,(r.length:Int),(0:Int),())=some (bif r.all a0B then Sum.inl (c,c,(c.length:Int),(i:Int),())else Sum.inr (false,())):=fun i r s=>by
  have:=a2E (f:=a4C) r (fun j=>(c,c,(c.length:Int),(i:Int),r,(r.length:Int),(j:Int),())) a0B (bt:=Sum.inl (c,c,(c.length:Int),(i:Int),())) (bf:=Sum.inr (false,()))
   (fun j h hp=>by simp only[a4C,dlt h,cT,a0D h,oB,b3d,hp,bT,cF,a0C (a22 h s)])
   (fun j h hp=>by simp_all[a4C,a0D,b3d])
   (by simp_all[a4C])
  omega
 have k:=a2E (f:=a4D) c (fun i=>(c,c,(c.length:Int),(i:Int),())) (fun r=>decide (r.length=(c.headD []).length)&&r.all a0B) (bt:=Sum.inl ()) (bf:=Sum.inr (false,()))
  (fun i h hp=>by
   simp only[bA,dT]at hp;have e:((((c[i]).length:Nat):Int) != (((c.headD []).length:Nat):Int))=false:=by simp_all
   have hi:=g i c[i] (by unfold short;omega);rw[hp.2,cT]at hi;simp only[a4D,dlt h,cT,a0D h,oB,a,e,cF,hi,a0C (show i<1000000 by omega)])
  (fun i h hp=>by
   by_cases hl:(c[i]).length=(c.headD []).length
   have e:((((c[i]).length:Nat):Int) != (((c.headD []).length:Nat):Int))=false:=by simp_all
   have hi:=g i c[i] (by unfold short;omega);rw[decide_eq_true hl,a18]at hp;rw[hp,cF]at hi;simp_all[a4D,a0D];have e:((((c[i]).length:Nat):Int) != (((c.headD []).length:Nat):Int))=true:=by grind
   simp only[a4D,dlt h,cT,a0D h,oB,a,e])
  (by simp_all[a4D])
 simp only[nZ]at k;rw[k];have o:1≤c.length:=by omega
 have p:c.length≤8:=by omega
 have q:(c.headD []).length≤4096:=by omega
 by_cases hA:c.all (fun r=>decide (r.length=(c.headD []).length)&&r.all a0B)=true
 rw[hA,decide_eq_true (show a2K c from⟨o,p,q,hA⟩)];rfl;rw[b04.2 hA,decide_eq_false (show ¬ a2K c from fun h=>hA h.2.2.2)];rfl
def a3t(c:List (List Int))(n:Nat):Prop:=∀r∈c,r.length=n∧r.all a0B=true
theorem c6z{c:List (List Int)}(h:a2K c):a3t c (c.headD []).length:=fun r g=>by
 have:=lA.1 h.2.2.2 r g
 simp_all
theorem b7P{c:List (List Int)}{n:Nat}(h:a3t c n)(g:1≤c.length)(f:c.length≤8)(a:n≤4096):a2K c:=by
 have hd:(c.headD []).length=n:=by
  rw[←c1r (d:=[]) (show 0<c.length by omega)];exact(h _ (a20 _)).1
 refine⟨g,f,by omega,lA.2 fun r k=>?_⟩
 have:=h r k
 simp_all
theorem c1s{c:List (List Int)}{n:Nat}(h:a3t c n)(l:n≤5000)(j:c.length≤100):a7s c=some c:=by
 have:=a2a (f:=a6V) (β:=List (List Int)×Unit) c (fun i (a:List (List Int))=>(c,(c.length:Int),(i:Int),a,())) (fun a x=>.inl (a++[x])) (fun i a=>a.length=i) (fun a=>(a,()))
  (fun i hi a k=>⟨fun e g=>by
   simp at g;subst g;have m:=(h _ (a20 hi)).1;have d:∀y:List Int,List.set ([([]:List Int)]:List (List Int)) 0 y=[y]:=fun _=>rfl;refine⟨?_,by grind⟩;simp only[a6V,dlt hi,cT,a0D hi,oB,a8n (show short c[i]by unfold short;omega),d];rw[a0Q (by grind),cT,a0C (show i<1000000 by omega)];rfl,fun b hb=>by grind⟩)
  (fun a k=>by simp_all[a6V]) (a:=[]) rfl
 simp_all[b3c,a7s,a9f]
def a9a(sign g:Int)(x y:Int):Int:=y+sign*(g*x / 256)
def a9M(sign g:Int)(xs ys:List Int):List Int:=List.zipWith (a9a sign g) xs ys
theorem d1r(sign g:Int){xs ys:List Int}(h:xs.length=ys.length):(a9M sign g xs ys).length=ys.length:=by simp[a9M,h]
theorem d1s{sign g x y:Int}(b:sign=1∨sign=-1)(c:-1024≤g∧g≤1024)(k:a0B x=true)(a:a0B y=true):
  wrap .i64 (y+wrap .i64 (sign*A0o .i64 (wrap .i64 (g*x)) 8))=a9a sign g x y:=by
 have k:=a1P.1 k;have a:=a1P.1 a;have f:-1099511627776≤g*x∧g*x≤1099511627776:=by
  have f:g.natAbs≤1024:=by omega
  have h:x.natAbs≤1073741824:=by omega
  have:=a04 f h
  rw[←Int.natAbs_mul]at this;omega
 rw[a0A (n:=g*x) (by omega)];have h:A0o .i64 (g*x) 8=g*x / 256:=by
  unfold A0o;show(g*x).fdiv (2^8)=_
  grind
 rw[h];unfold a9a;rcases b with rfl|rfl
 all_goals grind[a0A]
theorem b1U{α:Type}(c:List α){a b:Nat}(h:a≠b)(y d:α):(c.set b y).getD a d=c.getD a d:=by
 grind
theorem a7K{α:Type}(c:List α){b:Nat}(h:b<c.length)(y d:α):(c.set b y).getD b d=y:=by
 simp_all
theorem b9c{c:List (List Int)}{s:a0L}{sign:Int}(g:sign=1∨sign=-1)(b:-1024≤s.2.2.1∧s.2.2.1≤1024)(a0:0≤s.1)(i:0≤s.2.1)(f:s.1.toNat≠s.2.1.toNat)(hb:s.2.1.toNat<c.length)(k:s.2.1<(c.length:Int))
  {xs:List Int}(a:c.getD s.1.toNat []=xs)(w:xs.length≤5000):∀(sx suf px pre:List Int),px++sx=xs→px.length=pre.length→sx.length=suf.length→sx.all a0B=true→suf.all a0B=true→
  if(a9M sign s.2.2.1 sx suf).all a0B=true then
   y0s a3N (sign,(xs.length:Int),(pre.length:Int),c.set s.2.1.toNat (pre++suf),s,((s.1.toNat:Nat):Int),())=some (.inl (c.set s.2.1.toNat (pre++a9M sign s.2.2.1 sx suf),()))
  else ∃c',y0s a3N (sign,(xs.length:Int),(pre.length:Int),c.set s.2.1.toNat (pre++suf),s,((s.1.toNat:Nat):Int),())=some (.inr (false,c',()))
 | [],suf,px,pre,hx,hp,hl,_,_=>by
  have e:suf=[]:=List.length_eq_zero_iff.1 hl.symm;subst e;have p:pre.length=xs.length:=by simp_all
  rw[if_pos (by rfl),p];exact a0E (by simp only[a3N,dge,cF];rfl)
 |x::sx,[],px,pre,_,_,hl,_,_=>by simp_all
 |x::sx,y::suf,px,pre,hx,hp,hl,hwx,hwy=>by
  simp only[a37,bA]at hwx hwy;have v:pre.length<xs.length:=by grind
  have q:(c.set s.2.1.toNat (pre++y::suf)).getD (a23 ((s.1.toNat:Nat):Int)) []=xs:=by grind
  have r:(c.set s.2.1.toNat (pre++y::suf)).getD s.2.1.toNat []=pre++y::suf:=a7K _ hb _ _;have t:b05 xs (a23 (pre.length:Int)) 0=x:=by grind
  have u:b05 (pre++y::suf) (a23 (pre.length:Int)) 0=y:=by simp
  have j:decide ((0:Int)≤(pre.length:Int))=true:=by simp
  have l:decide ((pre.length:Int)<(xs.length:Int))=true:=by simp_all
  have m:decide ((0:Int)≤s.2.1)=true:=by simp_all
  have n:decide (s.2.1<(((c.set s.2.1.toNat (pre++y::suf)).length:Nat):Int))=true:=by simp_all
  have o:decide ((pre.length:Int)<(((pre++y::suf).length:Nat):Int))=true:=by grind
  have hv:=d1s g b hwx.1 hwy.1;have z:wrap .i64 ((pre.length:Int)+1)=((pre.length+1:Nat):Int):=a0C (by omega);have A:a9M sign s.2.2.1 (x::sx) (y::suf)=a9a sign s.2.2.1 x y::a9M sign s.2.2.1 sx suf:=rfl;have d:List.set (c.set s.2.1.toNat (pre++y::suf)) s.2.1.toNat (List.set (pre++y::suf) (a23 (pre.length:Int)) (a9a sign s.2.2.1 x y))=c.set s.2.1.toNat ((pre++[a9a sign s.2.2.1 x y])++suf):=by
   simp
  have h:a3N (sign,(xs.length:Int),(pre.length:Int),c.set s.2.1.toNat (pre++y::suf),s,((s.1.toNat:Nat):Int),()) =
    bif !(a0B (a9a sign s.2.2.1 x y))then some (.inr (Sum.inr (false,c.set s.2.1.toNat (pre++y::suf),())))
    else some (.inl (sign,(xs.length:Int),((pre.length+1:Nat):Int),c.set s.2.1.toNat ((pre++[a9a sign s.2.2.1 x y])++suf),s,((s.1.toNat:Nat):Int),())):=by
   simp only[a3N,l,cT,q,r,j,a05,m,n,o,t,u,b3d,hv,oB,z]
   simp
  cases hwv:a0B (a9a sign s.2.2.1 x y)with
  |false=>
   simp_all[a0E]
  |true=>
   rw[hwv]at h;have B:=b9c g b a0 i f hb k a w sx suf (px++[x]) (pre++[a9a sign s.2.2.1 x y]) (by simp_all) (by grind) (by simp_all) hwx.2 hwy.2;rw[a0F h,A];simp_all
def a3R(sign:Int)(s:a0L)(c:List (List Int)):Option (List (List Int)):=
 let r:=a9M sign s.2.2.1 (c.getD s.1.toNat []) (c.getD s.2.1.toNat [])
 if r.all a0B=true then some (c.set s.2.1.toNat r)else none
theorem a8t{c:List (List Int)}{n:Nat}(h:a3t c n){i:Nat}(hi:i<c.length):(c.getD i []).length=n∧(c.getD i []).all a0B=true:=by
 rw[lD,lG hi];exact h _ (a20 hi)
theorem c4j{c:List (List Int)}{n:Nat}(a:a3t c n)(w:n≤5000){s:a0L}(p:a2z (c.length:Int) s=true){sign:Int}(k:sign=1∨sign=-1):
  ∃b f,a8i (c,s,sign)=some (b,f)∧match a3R sign s c with|some r=>b=true∧f=r|none=>b=false:=by
 obtain⟨a1,u,d,e,v,j,l⟩:=a2W.1 p;have q:=a8t a (i:=s.1.toNat) (by omega);have t:=a8t a (i:=s.2.1.toNat) (by omega);have hb:s.2.1.toNat<c.length:=by omega
 have g:c.set s.2.1.toNat (c.getD s.2.1.toNat [])=c:=by
  simp_all
 have:=b9c k ⟨j,l⟩ a1 d (by omega) hb e (rfl:c.getD s.1.toNat []=_) (by omega) (c.getD s.1.toNat []) (c.getD s.2.1.toNat []) [] [] rfl rfl (by omega) q.2 t.2
 rw[a24,g]at this;simp only[a03,nZ,a24,Int.cast_ofNat_Int]at this;have m:decide ((0:Int)≤s.1)=true:=by simp_all
 have o:decide (s.1<(c.length:Int))=true:=by simp_all
 unfold a8i a3R;simp only[m,o,a05,cT]
 by_cases hA:(a9M sign s.2.2.1 (c.getD s.1.toNat []) (c.getD s.2.1.toNat [])).all a0B=true
 simp_all;rw[if_neg hA]at this⊢;obtain⟨f,h⟩:=this;simp_all
theorem b2w{c c':List (List Int)}{n:Nat}(g:a3t c n){s:a0L}(k:a2z (c.length:Int) s=true){sign:Int}(h:a3R sign s c=some c'):a3t c' n∧c'.length=c.length:=by
 obtain⟨a1,a,b,d,e,j,l⟩:=a2W.1 k;have o:=a8t g (i:=s.1.toNat) (by omega);have p:=a8t g (i:=s.2.1.toNat) (by omega);unfold a3R at h;simp only at h
 split at h
 rename_i m;cases h;refine⟨fun r f=>?_,by simp⟩;rcases List.mem_or_eq_of_mem_set f with f|rfl;exact g r f;simp_all[d1r];simp_all
theorem c4k(g:Int):∀xs ys:List Int,xs.length=ys.length→a9M (-1) g xs (a9M 1 g xs ys)=ys
 | [],[],_=>rfl
 |x::xs,y::ys,h=>by
  have f:=c4k g xs ys (by simpa using h);show a9a (-1) g x (a9a 1 g x y)::a9M (-1) g xs (a9M 1 g xs ys)=_;rw[f];unfold a9a;congr 1;omega
 | [],_::_,h=>by grind
 |_::_,[],h=>by rfl
theorem c9C{c c':List (List Int)}{n:Nat}(g:a3t c n){s:a0L}(f:a2z (c.length:Int) s=true)(h:a3R 1 s c=some c'):a3R (-1) s c'=some c:=by
 obtain⟨a1,a,b,d,e,j,l⟩:=a2W.1 f;have m:=a8t g (i:=s.1.toNat) (by omega);have k:=a8t g (i:=s.2.1.toNat) (by omega);have hb:s.2.1.toNat<c.length:=by omega
 unfold a3R at h;simp only at h
 split at h
 cases h;unfold a3R;simp only;rw[b1U _ (show s.1.toNat≠s.2.1.toNat by omega),a7K _ hb,c4k _ _ _ (by omega),if_pos k.2,List.set_set];simp_all;simp_all
def doO:List a0L→List (List Int)→Option (List (List Int))
 | [],c=>some c
 |s::l,c=>(a3R 1 s c).bind (doO l)
def b0X:List a0L→List (List Int)→Option (List (List Int))
 | [],c=>some c
 |s::l,c=>(b0X l c).bind (a3R (-1) s)
theorem b2E{n:Nat}{N:Nat}:∀(l:List a0L){c c':List (List Int)},a3t c n→c.length=N→l.all (a2z (N:Int))=true→doO l c=some c'→a3t c' n∧c'.length=N
 | [],c,c',hc,hl,_,h=>by cases h;simp_all
 |s::l,c,c',hc,hl,hs,h=>by
  simp only[a37,bA]at hs;simp[doO,a27]at h;obtain⟨d,g,f⟩:=h;obtain⟨k,a⟩:=b2w hc (by simp_all) g;exact b2E l k (by omega) hs.2 f
theorem c6A{n:Nat}{N:Nat}:∀(l:List a0L){c c':List (List Int)},a3t c n→c.length=N→l.all (a2z (N:Int))=true→doO l c=some c'→b0X l c'=some c
 | [],c,c',_,_,_,h=>by cases h;rfl
 |s::l,c,c',hc,hl,hs,h=>by
  simp only[a37,bA]at hs;simp only[doO,a27]at h;obtain⟨d,g,f⟩:=h;obtain⟨k,a⟩:=b2w hc (by rw[hl];exact hs.1) g;simp only[b0X];rw[c6A l k (by omega) hs.2 f];exact c9C hc (by rw[hl];exact hs.1) g
def b7Q:Option (List (List Int))→List (List Int)×Int
 |some r=>(r,0)
 |none=>([],6)
theorem c6B{n N:Nat}(a:n≤5000){l:List a0L}(m:l.length≤16)(j:l.all (a2z (N:Int))=true):∀(k i:Nat)(c:List (List Int)),i+k=l.length→a3t c n→c.length=N→
  y0s a8j (l,(l.length:Int),(i:Int),c,())=some (match doO (l.drop i) c with|some r=>Sum.inl (r,())|none=>Sum.inr ([],6,()))
 |0,i,c,h,_,_=>by
  obtain rfl:i=l.length:=by omega
  rw[List.drop_length];exact a0E (by simp only[a8j,dge,cF];rfl)
 |k+1,i,c,h,hc,hcl=>by
  have hi:i<l.length:=by omega
  rw[a74 hi];have d:a2z (c.length:Int) l[i]=true:=by grind
  obtain⟨b,g,e,f⟩:=c4j hc a d (sign:=1) (.inl rfl);simp[doO];cases hst:a3R 1 l[i] c with
  |none=>
   simp_all[a0E,a8j,a0D]
  |some r=>
   rw[hst]at f;obtain⟨rfl,rfl⟩:=f;obtain⟨o,p⟩:=b2w hc d hst;rw[a0F (s':=(l,(l.length:Int),((i+1:Nat):Int),g,())) (by
    simp only[a8j,dlt hi,cT,a0D hi,oB,e,bT,cF,a0C (show i<1000000 by omega)])]
   rw[c6B a m j k (i+1) g (by omega) o (by omega)];rfl
theorem c2E(c:List (List Int))(l:List a0L):b1X (c,l)=some (if a2K c∧a5j l (c.length:Int)then b7Q (doO l c)else([],1)):=by
 unfold b1X;simp only[c0F,oB]
 by_cases hq:a2K c
 have h:=c6z hq;simp only[hq,decide_true,bT,cF,b3R,oB,true_and]
 by_cases hm:a5j l (c.length:Int)
 simp[hm];rw[c1s h (by have:=hq.2.2.1;omega) (by have:=hq.2.1;omega)]
 have:=c6B (N:=c.length) (by have:=hq.2.2.1;omega:(c.headD []).length≤5000) hm.2.2.1 hm.2.2.2 l.length 0 c (by omega) h rfl
 simp at this
 simp
 erw[this]
 cases doO l c<;>rfl;simp_all;simp_all
theorem b9d(s:a0L):∀(l:List a0L)(c:List (List Int)),b0X (l++[s]) c=(a3R (-1) s c).bind (b0X l)
 | [],c=>by
  show a3R (-1) s c=_;cases a3R (-1) s c<;>rfl
 |t::l,c=>by
  simp only[a59,b0X,b9d s l];cases a3R (-1) s c<;>rfl
theorem c1t{n N:Nat}(g:n≤5000){l:List a0L}(i:l.all (a2z (N:Int))=true)(z:List (List Int))(e:Int):∀(k:Nat)(c:List (List Int)),k≤l.length→a3t c n→c.length=N→
  match b0X (l.take k) c with
  |some r=>l0f a6u l k (l,z,e,c,())=some (.inl (l,z,e,r,()))
  |none=>∃d,l0f a6u l k (l,z,e,c,())=some (.inr (.ret,l,[],6,d,()))
 |0,c,_,_,_=>rfl
 |k+1,c,hk,hc,hcl=>by
  have hi:k<l.length:=by omega
  have f:a2z (c.length:Int) l[k]=true:=by grind
  obtain⟨b,a,m,h⟩:=c4j hc g f (sign:=-1) (.inr rfl);rw[a31 hi,b9d];cases hst:a3R (-1) l[k] c with
  |none=>
   simp_all[l0f,a6u]
  |some r=>
   rw[hst]at h;obtain⟨rfl,rfl⟩:=h;obtain⟨j,p⟩:=b2w hc f hst;have o:=c1t g i z e k a (by omega) j (by omega);simp_all[l0f,a6u]
theorem d3k(c:List (List Int))(l:List a0L):b1F (c,l)=some (if a2K c∧a5j l (c.length:Int)then b7Q (b0X l c)else([],1)):=by
 unfold b1F;simp only[c0F,oB]
 by_cases hq:a2K c
 ·have h:=c6z hq;simp only[hq,decide_true,bT,cF,b3R,oB,true_and]
  by_cases hm:a5j l (c.length:Int)
  ·simp[hm];rw[c1s h (by have:=hq.2.2.1;omega) (by have:=hq.2.1;omega)]
   have:=c1t (N:=c.length) (by have:=hq.2.2.1;omega:(c.headD []).length≤5000) hm.2.2.2 [] 0 l.length c (a71 _) h rfl
   rw[a32]at this;simp[a0Q (show l.length<2147483648 by have:=hm.2.2.1;omega)];cases hu:b0X l c with
   |some r=>
    rw[hu]at this;simp only at this
    erw[this]
    rfl
   |none=>
    rw[hu]at this;obtain⟨d,hd⟩:=this
    erw[hd]
    rfl
  simp_all
 simp_all
def a1a(b:a1k):Nat:=(b.2.1.headD []).length
theorem a6H(b:a1k):a4r b=some ((a1a b:Nat):Int):=by
 unfold a4r a1a;obtain⟨d,c,u⟩:=b;cases c with
 |nil=>rfl
 |cons r c=>
  rfl
def a3k(b:a1k):Prop:=4≤b.1∧b.1≤24∧1≤b.2.1.length∧b.2.1.length≤8∧1≤a1a b∧a1a b≤4096∧b.2.1.all (fun r=>decide (r.length=a1a b)&&r.all fun x=>a1o x b.1)=true
instance (b:a1k):Decidable (a3k b):=by unfold a3k;infer_instance
theorem b3e{x w:Int}(h:4≤w∧w≤24):a1j (x,w)=some (a1o x w):=by
 have:=a6C (x:=x) (w:=w.toNat) (by omega)
 grind
theorem a8u(b:a1k):a4s b=some (decide (a3k b)):=by
 unfold a4s a5k
 by_cases h1:4≤b.1
 rotate_left;rw[decide_eq_false (show ¬ a3k b from fun h=>h1 h.1),decide_eq_false h1];rfl
 by_cases h2:b.1≤24
 rotate_left;rw[decide_eq_false (show ¬ a3k b from fun h=>h2 h.2.1),decide_eq_true h1,decide_eq_false h2];rfl
 by_cases h3:((b.2.1.length:Nat):Int)<1
 rw[decide_eq_false (show ¬ a3k b from fun h=>by have:=h.2.2.1;omega),decide_eq_true h1,decide_eq_true h2,decide_eq_true h3];rfl
 by_cases h4:((b.2.1.length:Nat):Int) > 8
 rw[decide_eq_false (show ¬ a3k b from fun h=>by have:=h.2.2.2.1;omega),decide_eq_true h1,decide_eq_true h2,decide_eq_false h3,decide_eq_true h4];rfl;have a:decide (((b.2.1.length:Nat):Int)<1)=false:=by simp_all
 have c:decide (((b.2.1.length:Nat):Int) > 8)=false:=by simp_all
 simp only[decide_eq_true h1,decide_eq_true h2,a,c,cT,cF,oB,bT,a6H]
 by_cases h5:((a1a b:Nat):Int)<1
 rw[decide_eq_false (show ¬ a3k b from fun h=>by have:=h.2.2.2.2.1;omega),decide_eq_true h5];rfl
 by_cases h6:((a1a b:Nat):Int) > 4096
 rw[decide_eq_false (show ¬ a3k b from fun h=>by have:=h.2.2.2.2.2.1;omega),decide_eq_false h5,decide_eq_true h6];rfl;have d:decide (((a1a b:Nat):Int)<1)=false:=by simp_all
 have l:decide (((a1a b:Nat):Int) > 4096)=false:=by simp_all
 simp[d,l];have g:∀(i:Nat)(r:List Int),short r→y0s a4A (b.2.1,(b.2.1.length:Int),(i:Int),r,(r.length:Int),(0:Int),b,())=some (bif r.all (fun x=>a1o x b.1)then Sum.inl (b.2.1,(b.2.1.length:Int),(i:Int),b,())else Sum.inr (false,())):=fun i r m=>by
  have:=a2E (f:=a4A) r (fun j=>(b.2.1,(b.2.1.length:Int),(i:Int),r,(r.length:Int),(j:Int),b,())) (fun x=>a1o x b.1) (bt:=Sum.inl (b.2.1,(b.2.1.length:Int),(i:Int),b,())) (bf:=Sum.inr (false,()))
   (fun j h hp=>by simp only[a4A,dlt h,cT,a0D h,oB,b3e ⟨h1,h2⟩,hp,bT,cF,a0C (a22 h m)])
   (fun j h hp=>by simp_all[a4A,a0D,b3e])
   (by simp_all[a4A])
  omega
 have k:=a2E (f:=a4B) b.2.1 (fun i=>(b.2.1,(b.2.1.length:Int),(i:Int),b,())) (fun r=>decide (r.length=a1a b)&&r.all fun x=>a1o x b.1) (bt:=Sum.inl ()) (bf:=Sum.inr (false,()))
  (fun i h hp=>by
   simp only[bA,dT]at hp;have e:((((b.2.1[i]).length:Nat):Int) != ((a1a b:Nat):Int))=false:=by simp_all
   have hi:=g i b.2.1[i] (by unfold short;omega);rw[hp.2,cT]at hi;simp only[a4B,dlt h,cT,a0D h,oB,a6H,e,cF,hi,a0C (show i<1000000 by omega)])
  (fun i h hp=>by
   by_cases hl:(b.2.1[i]).length=a1a b
   have e:((((b.2.1[i]).length:Nat):Int) != ((a1a b:Nat):Int))=false:=by simp_all
   have hi:=g i b.2.1[i] (by unfold short;omega);rw[decide_eq_true hl,a18]at hp;rw[hp,cF]at hi;simp_all[a4B,a0D,a6H];have e:((((b.2.1[i]).length:Nat):Int) != ((a1a b:Nat):Int))=true:=by grind
   simp only[a4B,dlt h,cT,a0D h,oB,a6H,e])
  (by simp_all[a4B])
 simp at k;rw[k]
 by_cases hA:b.2.1.all (fun r=>decide (r.length=a1a b)&&r.all fun x=>a1o x b.1)=true
 rw[hA,decide_eq_true (show a3k b from⟨h1,h2,by omega,by omega,by omega,by omega,hA⟩)];rfl;rw[b04.2 hA,decide_eq_false (show ¬ a3k b from fun h=>hA h.2.2.2.2.2.2)];rfl
def a7O{α β:Type}(g:α→Option β):List α→Option (List β)
 | []=>some []
 |a::l=>(g a).bind fun b=>(a7O g l).bind fun r=>some (b::r)
theorem b7R{α β:Type}{g:α→Option β}:∀{l:List α}{r:List β},a7O g l=some r→r.length=l.length
 | [],r,h=>by cases h;rfl
 |a::l,r,h=>by
  simp only[a7O,a27]at h;obtain⟨b,-,c,f,k⟩:=h;cases k;simp[b7R f]
theorem c1u{α β:Type}{g:α→Option β}:∀{l:List α}{r:List β},a7O g l=some r→∀a∈l,(g a).isSome=true
 | [],r,h,a,ha=>by cases ha
 |a::l,r,h,x,hx=>by
  simp only[a7O,a27]at h;obtain⟨b,f,d,k,c⟩:=h;rcases mC.1 hx with rfl|hx;rw[f];rfl;exact c1u k x hx
def a9u(f:a1r):Option a1k:=
 if frP f∧((f.2.2.2.2.1.length:Nat):Int)=f.2.2.1.2.1 then
  (a7O (fun s=>a2n s f.2.1) f.2.2.2.2.1).bind fun rs=>
   if a2K rs∧a5j f.2.2.2.1 (rs.length:Int)then
    (b0X f.2.2.2.1 rs).bind fun ch=>if a3k (f.2.2.1.2.2.1,ch,())then some (f.2.2.1.2.2.1,ch,())else none
   else none
 else none
def b2c:a1k:=(0,[],())
def d9w:Option a1k→a1k×Int
 |some b=>(b,0)
 |none=>(b2c,1)
theorem b7j(f:a1r)(all:List Sub)(d:all.length≤8):∀(rest done:List Sub)(rows:List (List Int)),done++rest=all→rows.length=done.length→(∀s∈rest,SmallS s)→
  y0s a4S (all,(all.length:Int),(done.length:Int),rows,b2c,f,())=some (match a7O (fun s=>a2n s f.2.1) rest with|some rs=>Sum.inl (rows++rs,b2c,f,())|none=>Sum.inr (1,b2c,()))
 | [],done,rows,hd,hr,_=>by
  have e:done=all:=by simpa using hd
  subst e;rw[a0E (b:=Sum.inl (rows,b2c,f,())) (by simp only[a4S,dge,cF])];simp[a7O]
 |s::rest,done,rows,hd,hr,h=>by
  have i:=h s (by simp);have k:done.length<all.length:=by rw[←hd];simp
  have a:m0k all (done.length:Int)=some s:=by rw[a0D k];subst hd;simp
  have g:=b8w i f.2.1;simp only[a7O];cases ho:a2n s f.2.1 with
  |none=>
   rw[ho]at g;have b1:((1:Int) != 0)=true:=rfl;exact a0E (by simp only[a4S,dlt k,cT,a,oB,g,b1];rfl)
  |some r=>
   rw[ho]at g;have c:((0:Int) != 0)=false:=rfl;rw[a0F (s':=(all,(all.length:Int),(((done++[s]).length:Nat):Int),rows++[r],b2c,f,())) (by
    simp only[a4S,dlt k,cT,a,oB,g,c,cF,a0Q (show rows.length+1<2147483648 by omega),a0C (show done.length<1000000 by omega)]
    simp)]
   rw[b7j f all d rest (done++[s]) (rows++[r]) (by simpa using hd) (by simp[hr]) (fun t j=>h t (by simp[j]))];simp only[oB];cases a7O (fun s=>a2n s f.2.1) rest<;>simp
theorem c4l{f:a1r}(b:∀s∈f.2.2.2.2.1,SmallS s):a3Y f=some (d9w (a9u f)):=by
 unfold a3Y a9u;simp only[b4l,oB]
 by_cases hf:frP f
 rotate_left;simp only[hf,decide_false,a53,cT,oB,false_and,if_false];rfl
 by_cases hl:((f.2.2.2.2.1.length:Nat):Int)=f.2.2.1.2.1
 rotate_left;have e:(((f.2.2.2.2.1.length:Nat):Int) != f.2.2.1.2.1)=true:=by simpa using hl
 simp only[hf,decide_true,bT,cF,oB,e,cT,hl,and_false,if_false];rfl;have e:(((f.2.2.2.2.1.length:Nat):Int) != f.2.2.1.2.1)=false:=by simpa using hl
 have a:f.2.2.2.2.1.length≤8:=by have:=hf.1.2.2.2.1;omega
 have k:decide ((0:Int)≤((f.2.2.2.2.1.length:Nat):Int))=true:=by simp
 have h:=b7j f f.2.2.2.2.1 a f.2.2.2.2.1 [] [] rfl rfl b;rw[a03]at h;rw[if_pos ⟨hf,hl⟩];simp only[hf,decide_true,bT,cF,oB,e,k,tN,a0Q (show f.2.2.2.2.1.length<2147483648 by omega),a05,cT]
 erw[h]
 cases hm:a7O (fun s=>a2n s f.2.1) f.2.2.2.2.1 with
 |none=>rfl
 |some rs=>
  simp only[oB,a24,d3k]
  by_cases hq:a2K rs∧a5j f.2.2.2.1 (rs.length:Int)
  ·simp only[if_pos hq];cases hu:b0X f.2.2.2.1 rs with
   |none=>rfl
   |some ch=>
    have g:((0:Int) != 0)=false:=rfl;simp only[b7Q,g,cF,a8u,oB]
    by_cases hb:a3k (f.2.2.1.2.2.1,ch,())
    simp only[hb,decide_true,bT,cF,if_true];rfl;simp only[hb,decide_false,a53,cT,if_false];rfl
  simp only[if_neg hq];rfl
theorem d4A{f:a1r}(h:∀s∈f.2.2.2.2.1,SmallS s):a4t f=some (a9u f).isSome:=by
 unfold a4t;rw[c4l h];cases a9u f<;>rfl
theorem b6f{f:a1r}{b:a1k}(h:a9u f=some b):frP f∧((f.2.2.2.2.1.length:Nat):Int)=f.2.2.1.2.1∧∀s∈f.2.2.2.2.1,(a2n s f.2.1).isSome=true:=by
 unfold a9u at h
 split at h
 rename_i g;simp only[a27]at h;obtain⟨a,k,-⟩:=h;exact⟨g.1,g.2,c1u k⟩;cases h
theorem c8i{f:a1r}{b:a1k}(k:∀s∈f.2.2.2.2.1,SmallS s)(h:a9u f=some b):∃L,L.length≤5600000∧some ((L.length:Nat):Int)=f.2.2.2.2.1.foldr (fun s a=>a.bind fun a=>(a4k (s,f.2.1)).bind fun c=>some (c+a)) (some 0)∧
  a5U f=some (a6G f L,0)∧(∀R:List Int,R.length≤200000000→a6w (a6G f L++R)=some (f,((a6G f L).length:Int),(0:Int))):=by
 obtain⟨g,j,l⟩:=b6f h;have d:a4t f=some true:=by rw[d4A k,h];rfl
 have m:f.2.2.2.2.1.length≤8:=by have:=g.1.2.2.2.1;omega
 obtain⟨t,o,p,i,q,r⟩:=c4i d g m (fun s e=>⟨k s e,l s e⟩);exact⟨a0M t,i,q,r,fun R n=>c2x d g j o p i n⟩
theorem c4m(x:a0L):eqT (.pair (.int .i64) (.pair (.int .i64) (.pair (.int .i64) .unit))) x x=true:=by
 show((x.1==x.1)&&((x.2.1==x.2.1)&&((x.2.2.1==x.2.2.1)&&true)))=true
 simp
theorem d3l{x w:Int}(b:4≤w∧w≤24)(h:a1o x w=true):-16777216≤x∧x≤16777216:=by
 unfold a1o at h;simp at h;obtain⟨-,-,f,g⟩:=h;obtain⟨o,k⟩:∃o:Nat,w-1=(o:Int):=⟨(w-1).toNat,by omega⟩;rw[k]at f g;rw[c3J (by omega)]at g;have hp:2^o≤2^24:=a26 (by omega) (by omega);have a:A0n .i64 (-1) (o:Int)=wrap .i64 (-((2^o:Nat):Int)):=by
  unfold A0n;show wrap .i64 (-1*2^(min (o:Int).toNat 64))=_
  grind
 grind[a0A]
theorem c9D{x w:Int}(g:4≤w∧w≤24)(h:a1o x w=true):a0B x=true:=a1P.2 (by have:=d3l g h;omega)
theorem b4X{b:a1k}(h:a3k b):a3t b.2.1 (a1a b)∧a2K b.2.1:=by
 obtain⟨k,a,c,d,e,i,g⟩:=h;have j:a3t b.2.1 (a1a b):=fun r f=>by
  have:=lA.1 g r f
  simp only[bA,dT]at this
  grind[c9D]
 grind[b7P]
theorem c8j{b:a1k}(hb:a3k b){l:List a0L}(c:a5j l (b.2.1.length:Int)){rows:List (List Int)}(hd:doO l b.2.1=some rows){ss:List Sub}(p:a7O (fun s=>a2n s ((a1a b:Nat):Int)) ss=some rows)
  {start rate:Int}(h:0≤start∧start≤4194304-((a1a b:Nat):Int))(o:1≤rate∧rate≤1048576):
  a9u (start,((a1a b:Nat):Int),(rate,((b.2.1.length:Nat):Int),b.1,()),l,ss,())=some b:=by
 obtain⟨m,x⟩:=b4X hb;obtain⟨w,y⟩:=b2E l m rfl c.2.2.2 hd;have n:=b7R p;obtain⟨e,i,q,r,t,j,u⟩:=hb;have a:frP (start,((a1a b:Nat):Int),(rate,((b.2.1.length:Nat):Int),b.1,()),l,ss,()):=⟨⟨o.1,o.2,by grind,by grind,e,i⟩,by grind,by grind,h.1,h.2,c⟩;have k:((ss.length:Nat):Int)=((b.2.1.length:Nat):Int):=by omega
 have g:a2K rows:=b7P w (by omega) (by omega) j;have d:a5j l ((rows.length:Nat):Int):=by simp_all
 have v:=c6A l m rfl c.2.2.2 hd;have f:((b.1,b.2.1,()):a1k)=b:=rfl;unfold a9u;rw[if_pos ⟨a,k⟩];simp only[p,oB];rw[if_pos ⟨g,d⟩,v];simp only[oB,f];rw[if_pos ⟨e,i,q,r,t,j,u⟩]
def b9e:a1r:=(0,0,(0,0,0,()),[],[],())
theorem d4B(k:Nat)(a:k≤62)(y:Int):∃v:Nat,bits .i64 .and y ((2^k-1:Nat):Int)=(v:Int)∧v<2^k:=by
 have hp:2^k≤2^62:=a26 (by omega) a;have f:0<2^k:=Nat.pow_pos (by omega);have h:((a01 64 y) &&& (a01 64 ((2^k-1:Nat):Int))).toNat=(a01 64 y).toNat%2^k:=by
  rw[a45];have e:(a01 64 ((2^k-1:Nat):Int)).toNat=2^k-1:=by
   rw[a07];generalize 2^k=p at *;omega
  rw[e,a34]
 have g:=a29 (a01 64 y).toNat f;refine⟨(a01 64 y).toNat%2^k,?_,g⟩;show wrap .i64 ((((a01 64 y) &&& (a01 64 ((2^k-1:Nat):Int))).toNat:Nat):Int)=_;rw[h];generalize (a01 64 y).toNat%2^k=z at *;exact a0A (by omega)
theorem b9f(c:List (List Int))(n i:Int){r:List Int}(a:short r):∀(k j:Nat)(s:Int),2≤j→j+k=r.length∨(k=0∧r.length≤j)→∃s',y0s a6W (s,r,(j:Int),c,n,i,())=some (s',c,n,i,())
 |0,j,s,h2,h=>⟨s,a0E (by
   have d:decide ((j:Int)<(r.length:Int))=false:=by grind
   simp only[a6W,d,cF])⟩
 |k+1,j,s,h2,h=>by
  have f:j<r.length:=by omega
  unfold short at a;have b:wrap .i64 ((j:Int)-1)=((j-1:Nat):Int):=by grind[a0A]
  have e:wrap .i64 ((j:Int)-2)=((j-2:Nat):Int):=by grind[a0A]
  have m:=a0D (l:=r) (i:=j-1) (by omega);have o:=a0D (l:=r) (i:=j-2) (by omega);obtain⟨s',g⟩:=b9f c n i a k (j+1) (wrap .i64 (s+v0r (wrap .i64 (wrap .i64 (r[j]-wrap .i64 (2*r[j-1]))+r[j-2])) (wrap .i64 (0-wrap .i64 (wrap .i64 (r[j]-wrap .i64 (2*r[j-1]))+r[j-2]))))) (by omega) (by omega);refine⟨s',?_⟩;rw[←g];exact a0F (by simp only[a6W,dlt f,cT,a0D f,oB,b,e,m,o,a0C (show j<1000000 by omega)])
theorem c1v{c:List (List Int)}{n:Nat}(h:a3t c n)(m:n≤4096)(l:c.length<1000):∃w,a7t c=some w:=by
 unfold a7t;simp only[c0F,oB]
 by_cases hq:a2K c
 rotate_left;simp_all;simp[hq];have f:∀(k i:Nat)(s:Int),i+k=c.length→∃s',y0s a6X (s,c,(c.length:Int),(i:Int),())=some (s',()):=by
  intro k
  induction k with
  |zero=>
   intro i s hi;obtain rfl:i=c.length:=by omega
   simp_all[a0E,a6X]
  |succ k ih=>
   intro i s hi;have g:i<c.length:=by omega
   have o:=(h _ (a20 g)).1;obtain⟨e,a⟩:=b9f c (c.length:Int) (i:Int) (r:=c[i]) (by unfold short;omega) (c[i].length-2) 2 s (a71 _) (by omega);obtain⟨j,b⟩:=ih (i+1) e (by omega);refine⟨j,?_⟩;rw[←b];rw[show((2:Nat):Int)=2 from rfl]at a;exact a0F (by simp only[a6X,dlt g,cT,a0D g,oB,a,a0C (show i<1000000 by omega)])
 obtain⟨s',d⟩:=f c.length 0 0 (by omega);simp_all
def a4Y(m:Nat):List a0L:=match m with
 | 1=>[(0,1,-256,())]
 | 2=>[(1,0,-256,())]
 | 3=>[(1,0,-256,()),(0,1,128,())]
 | 4=>[(1,0,-106,()),(0,1,181,()),(1,0,-106,())]
 |_=>[]
theorem b7S{m:Nat}(h:m≤4):b0H (m:Int)=some (a4Y m):=by
 match m,h with
 |0,_=>rfl
 | 1,_=>rfl
 | 2,_=>rfl
 | 3,_=>rfl
 | 4,_=>rfl
theorem c1w{m:Nat}(h:m≤4):a5j (a4Y m) 2:=by
 match m,h with
 |0,_=>decide
 | 1,_=>decide
 | 2,_=>decide
 | 3,_=>decide
 | 4,_=>decide
theorem b3C{p:List (List Int)}{n:Nat}(hp:a3t p n)(b:p.length=2)(f:a2K p)(a:n≤4096):∀(k m best:Nat)(least:Int),m+k=5→best≤4→(doO (a4Y best) p).isSome=true→
  ∃best',y0s a6s (p,(best:Int),least,(m:Int),())=some (((best':Nat):Int),())∧best'≤4∧(doO (a4Y best') p).isSome=true
 |0,m,best,least,hm,hb,hd=>by
  obtain rfl:m=5:=by omega
  exact⟨best,a0E rfl,hb,hd⟩
 |k+1,m,best,least,hm,hb,hd=>by
  have d:decide ((m:Int)<5)=true:=by grind
  have e:wrap .i64 ((m:Int)+1)=((m+1:Nat):Int):=a0C (by omega);have g:a5j (a4Y m) (p.length:Int):=by grind[c1w]
  cases hdo:doO (a4Y m) p with
  |none=>
   have b1:((6:Int) != 0)=true:=rfl;rw[a0F (s':=(p,(best:Int),least,((m+1:Nat):Int),())) (by
    simp only[a6s,d,cT,b7S (show m≤4 by omega),oB,c2E,if_pos (show a2K p∧a5j (a4Y m) (p.length:Int)from⟨f,g⟩),hdo,b7Q,b1,e])]
   exact b3C hp b f a k (m+1) best least (by omega) hb hd
  |some r=>
   have i:((0:Int) != 0)=false:=rfl;obtain⟨j,l⟩:=b2E (a4Y m) hp rfl g.2.2.2 hdo
   obtain⟨w,c⟩:=c1v j a (by omega);have h:a6s (p,(best:Int),least,(m:Int),())=bif decide (w<least)then some (.inl (p,(m:Int),w,((m+1:Nat):Int),()))else some (.inl (p,(best:Int),least,((m+1:Nat):Int),())):=by
    simp only[a6s,d,cT,b7S (show m≤4 by omega),oB,c2E,if_pos (show a2K p∧a5j (a4Y m) (p.length:Int)from⟨f,g⟩),hdo,b7Q,i,cF,c,e]
   cases hlt:decide (w<least)with
   |true=>
    rw[hlt]at h;rw[a0F h];exact b3C hp b f a k (m+1) m w (by omega) (by omega) (by simp_all)
   |false=>
    rw[hlt]at h;rw[a0F h];exact b3C hp b f a k (m+1) best least (by omega) hb hd
theorem d3m{p:List (List Int)}{n:Nat}(hp:a3t p n)(g:p.length=2)(h:n≤4096):∃m,m≤4∧b1E p=some (a4Y m)∧(doO (a4Y m) p).isSome=true:=by
 have k:=b7P hp (by omega) (by omega) h;obtain⟨w,c⟩:=c1v hp h (by omega);obtain⟨m,a,f,b⟩:=b3C hp g k h 4 1 0 w rfl (by omega) rfl
 grind[b1E,b7S]
def b2d(i:Nat)(s:a0L):a0L:=(s.1+(i:Int),s.2.1+(i:Int),s.2.2.1,())
theorem d1t{i N:Nat}(h:i+2≤N){s:a0L}(k:a2z 2 s=true):a2z (N:Int) (b2d i s)=true:=by
 obtain⟨a1,a,b,c,d,g,f⟩:=a2W.1 k;exact a2W.2 ⟨by show 0≤s.1+(i:Int);omega,by show s.1+(i:Int)<(N:Int);omega,by show 0≤s.2.1+(i:Int);omega,by show s.2.1+(i:Int)<(N:Int);omega,by show s.1+(i:Int)≠s.2.1+(i:Int);omega,g,f⟩
def c2F(i:Nat)(c c' p:List (List Int)):Prop:=c'.length=c.length∧p.length=2∧c'.getD i []=p.getD 0 []∧c'.getD (i+1) []=p.getD 1 []∧∀j,j≠i→j≠i+1→c'.getD j []=c.getD j []
theorem c8k{i:Nat}{c0 c p p':List (List Int)}(hi:i+2≤c0.length)(h:c2F i c0 c p){s:a0L}(n:a2z 2 s=true)(g:a3R 1 s p=some p'):∃c',a3R 1 (b2d i s) c=some c'∧c2F i c0 c' p':=by
 obtain⟨y,z,A,B,C⟩:=h;obtain⟨a1,k,a,b,q,t,u⟩:=a2W.1 n;unfold a3R at g⊢;simp only at g⊢;have f:∀x:Int,0≤x→x<2→c.getD (x+(i:Int)).toNat []=p.getD x.toNat []:=fun x E o=>by
  grind
 have v:=f s.1 a1 k;have w:=f s.2.1 a b;simp only[b2d];have m:a9M 1 s.2.2.1 (c.getD (s.1+(i:Int)).toNat []) (c.getD (s.2.1+(i:Int)).toNat [])=a9M 1 s.2.2.1 (p.getD s.1.toNat []) (p.getD s.2.1.toNat []):=by simp_all
 simp only[m]
 split at g
 rename_i d;cases g;rw[if_pos d];generalize a9M 1 s.2.2.1 (p.getD s.1.toNat []) (p.getD s.2.1.toNat [])=r at *;refine⟨_,rfl,by grind,by grind,?_,?_,fun j D l=>?_⟩
 have:s.2.1=0∨s.2.1=1:=by omega
 rcases this with e|e;rw[e,show((0:Int)+(i:Int)).toNat=i from by omega,a7K _ (by omega),show(0:Int).toNat=0 from rfl,a7K _ (by omega)];rw[e,show((1:Int)+(i:Int)).toNat=i+1 from by omega,b1U _ (by omega),show(1:Int).toNat=1 from rfl,b1U _ (by omega)];omega
 have:s.2.1=0∨s.2.1=1:=by omega
 rcases this with e|e;simp_all;rw[e,show((1:Int)+(i:Int)).toNat=i+1 from by omega,a7K _ (by omega),show(1:Int).toNat=1 from rfl,a7K _ (by omega)];rw[b1U _ (by omega)];simp_all;simp_all
theorem c4n{i:Nat}{c0:List (List Int)}(hi:i+2≤c0.length):∀(l:List a0L){c p p':List (List Int)},l.all (a2z 2)=true→c2F i c0 c p→doO l p=some p'→∃g,doO (l.map (b2d i)) c=some g∧c2F i c0 g p'
 | [],c,p,p',_,h,hd=>by cases hd;exact⟨c,rfl,h⟩
 |s::l,c,p,p',hl,h,hd=>by
  simp only[a37,bA]at hl;simp[doO,a27]at hd;obtain⟨q,f,k⟩:=hd;obtain⟨d,a,b⟩:=c8k hi h hl.1 f;obtain⟨g,j1,j2⟩:=c4n hi l hl.2 b k;exact⟨g,by simp only[a60,doO,a,oB];exact j1,j2⟩
theorem c6C:∀(l m:List a0L)(c:List (List Int)),doO (l++m) c=(doO l c).bind (doO m)
 | [],m,c=>rfl
 |s::l,m,c=>by
  simp only[a59,doO];cases a3R 1 s c with
  |none=>rfl
  |some d=>exact c6C l m d
theorem c9E{α β:Type}(f:α→β):∀l:List α,l.flatMap (fun x=>[f x])=l.map f
 | []=>rfl
 |x::l=>by simp[c9E f l]
theorem c5W(b:a1k)(first:Nat)(hf:first≤100){y:List a0L}(d:y.all (a2z 2)=true)(r:y.length≤10)(out:List a0L)(s:out.length≤1000):
  y0s a6t ((first:Int),(y.length:Int),(0:Int),out,y,b,())=some ((first:Int),out++y.map (b2d first),b,()):=by
 have:=a2a (f:=a6t) (β:=Int×(List a0L×(a1k×Unit))) y (fun i (a:List a0L)=>((first:Int),(y.length:Int),(i:Int),a,y,b,())) (fun a x=>.inl (a++[b2d first x])) (fun i a=>a.length=out.length+i) (fun a=>((first:Int),a,b,()))
  (fun i hi a k=>⟨fun e h=>by
   simp at h;subst h;obtain⟨a1,j,l,m,o,p,q⟩:=a2W.1 (lA.1 d _ (a20 hi));have g:decide ((0:Int)≤(i:Int))=true:=by simp
   have c:b05 y (a23 (i:Int)) ((0:Int),(0:Int),(0:Int),())=y[i]:=by simp_all
   refine⟨?_,by grind⟩;simp only[a6t,dlt hi,cT,g,a05,a0Q (show a.length+1<2147483648 by omega),c,a0C (show i<1000000 by omega),a54];rw[a0A (n:=y[i].1+(first:Int)) (by omega),a0A (n:=y[i].2.1+(first:Int)) (by omega)]
   rfl,fun b hb=>by grind⟩)
  (fun a k=>by simp_all[a6t]) (a:=out) (by simp)
 simp_all[b3c,a9f,c9E]
theorem d6o{c:List (List Int)}{i:Nat}(h:i+2≤c.length):a49 i (a40 (i+2) c)=[c.getD i [],c.getD (i+1) []]:=by
 apply List.ext_getElem?;intro j;rw[b00]
 grind
theorem b9g{b:a1k}{n:Nat}(o:a3t b.2.1 n)(p:n≤4096)(z:b.2.1.length≤8):∀(k j:Nat)(out:List a0L)(c:List (List Int)),j+k=5→out.length≤3*j→out.all (a2z (b.2.1.length:Int))=true→doO out b.2.1=some c→(∀i,2*j≤i→c.getD i []=b.2.1.getD i [])→3*j≤12∨b.2.1.length≤2*j→
  ∃l f,y0s a8J (((2*j:Nat):Int),out,b,())=some (l,())∧l.length≤16∧l.all (a2z (b.2.1.length:Int))=true∧doO l b.2.1=some f
 |k,j,out,c,hk,hol,hob,hdo,hag,h12=>by
  have g:wrap .i64 (((2*j:Nat):Int)+1)=((2*j+1:Nat):Int):=by grind[a0A]
  by_cases hlt:2*j+1<b.2.1.length
  ·cases k with
   |zero=>omega
   |succ k=>
    have e:wrap .i64 (((2*j:Nat):Int)+2)=((2*j+2:Nat):Int):=by grind[a0A]
    have hp:a3t [b.2.1.getD (2*j) [],b.2.1.getD (2*j+1) []] n:=fun r q=>by
     simp only[mC,a61,or_false]at q;rcases q with rfl|rfl
     all_goals grind[a8t]
    obtain⟨m,u,N,E⟩:=d3m hp rfl p;obtain⟨p',d⟩:=Option.isSome_iff_exists.1 E;have h:=(c1w u).2.2.2;have C:(a4Y m).length≤3:=by
     match m,u with
     |0,_=>decide
     | 1,_=>decide
     | 2,_=>decide
     | 3,_=>decide
     | 4,_=>decide
    have A:c.length=b.2.1.length:=(b2E out o rfl hob hdo).2;obtain⟨f,F,G,H,I,K,L⟩:=c4n (i:=2*j) (c0:=c) (by omega) (a4Y m) h ⟨rfl,rfl,hag _ (a71 _),hag _ (by omega),fun _ _ _=>rfl⟩ d;have B:=c5W b (2*j) (by omega) h (by omega) out (by omega);have a:decide (((2*j+1:Nat):Int)<((b.2.1.length:Nat):Int))=true:=by grind
    have v:decide ((0:Int)≤((2*j+2:Nat):Int))=true:=by rfl
    have w:decide (((2*j+2:Nat):Int)≤((b.2.1.length:Nat):Int))=true:=by grind
    have x:decide ((0:Int)≤((2*j:Nat):Int))=true:=by rfl
    have y:decide (((2*j:Nat):Int)≤((2*j+2:Nat):Int))=true:=by grind
    rw[a0F (s':=(((2*(j+1):Nat):Int),out++(a4Y m).map (b2d (2*j)),b,())) (by
     simp only[a8J,g,a,cT,e,v,w,a05,tN,x,y]
     grind[d6o])]
    refine b9g o p z k (j+1) (out++(a4Y m).map (b2d (2*j))) f (by omega) (by grind) ?_ (by simp_all[c6C]) (fun i hi=>by grind) (by omega);rw[List.all_append,hob,a18,lA];intro s D;obtain⟨t,M,rfl⟩:=a51.1 D
    grind[d1t]
  refine⟨out,c,a0E ?_,by omega,hob,hdo⟩;have a:decide (((2*j+1:Nat):Int)<((b.2.1.length:Nat):Int))=false:=by grind
  simp only[a8J,g,a,cF]
termination_by k=>k
theorem c4o{b:a1k}(hb:a3k b):∃l h,a7I b=some l∧a5j l (b.2.1.length:Int)∧doO l b.2.1=some h:=by
 obtain⟨c,-⟩:=b4X hb;have a:=hb.2.2.2.1;obtain⟨l,h,d,g,f,k⟩:=b9g c hb.2.2.2.2.2.1 a 5 0 [] b.2.1 rfl (by simp) rfl rfl (fun _ _=>rfl) (by omega);refine⟨l,h,?_,⟨by have:=hb.2.2.1;omega,by omega,g,f⟩,k⟩;unfold a7I;simp[a8u,decide_eq_true hb];simp_all
theorem d1u{r:List Int}{n:Nat}(h:r.length=n∧r.all a0B=true)(a:1≤n)(b:n≤256){k:Int}(f:0≤k)(c:k≤3):
  ∃s,a5C (r,k)=some (s,0)∧SmallS s∧a2n s (n:Int)=some r∧a5f s (n:Int)≤((13+a0I r*n:Nat):Int):=by
 obtain⟨d,g⟩:=h;have hd:=a7f (l:=r) (by omega) g
 grind[c7Z,d4w]
theorem b9h{effort:Int}(k:0≤effort)(c:effort≤3){rows:List (List Int)}{n:Nat}(i:a3t rows n)(a:1≤n)(b:n≤256)(j:rows.length≤8)(f:a1r):∀(rest d:List (List Int)) (done:List Sub),d++rest=rows→done.length=d.length→
  ∃outs,y0s a5D (effort,rows,(rows.length:Int),(d.length:Int),b9e,a8Z f done,())=some (.inl (b9e,a8Z f (done++outs),()))∧a7O (fun s=>a2n s (n:Int)) outs=some rest∧(∀s∈outs,SmallS s)∧a7O (fun r=>a5C (r,effort)) rest=some (outs.map fun s=>(s,0))
 | [],d,done,hd,hdl=>by
  have e:d=rows:=by simp_all
  subst e;refine⟨[],?_,rfl,by simp,rfl⟩;simp_all[a0E,a5D]
 |r::rest,d,done,hd,hdl=>by
  have g:d.length<rows.length:=by grind
  have l:m0k rows (d.length:Int)=some r:=by grind[a0D]
  obtain⟨s,b1,b2,m,-⟩:=d1u (i r (by grind)) a b k c;have z0:((0:Int) != 0)=false:=rfl;have h:a5D (effort,rows,(rows.length:Int),(d.length:Int),b9e,a8Z f done,())=some (.inl (effort,rows,(rows.length:Int),(((d++[r]).length:Nat):Int),b9e,a8Z f (done++[s]),())):=by
   simp only[a5D,dlt g,cT,l,oB,b1,z0,cF];rw[show(a8Z f done).2.2.2.2.1=done from rfl,a0Q (show done.length+1<2147483648 by omega),cT,a0C (show d.length<1000000 by omega)];rw[show(((d++[r]).length:Nat):Int)=((d.length+1:Nat):Int)from by simp];rfl
  rw[a0F h];obtain⟨outs,p,q,u,v⟩:=b9h k c i a b j f rest (d++[r]) (done++[s]) (by simp_all) (by simp_all);refine⟨s::outs,?_,?_,fun t o=>?_,?_⟩;simp_all;simp_all[a7O]
  grind
  simp_all[a7O]
theorem c8l{b:a1k}(hb:a3k b)(k:a1a b≤256){rate start effort:Int}(m:1≤rate∧rate≤1048576)(A:0≤start∧start≤4194304-((a1a b:Nat):Int))(x:0≤effort)(y:effort≤3):
  ∃l g outs,a4R (b,(rate,((b.2.1.length:Nat):Int),b.1,()),start,effort)=some ((start,((a1a b:Nat):Int),(rate,((b.2.1.length:Nat):Int),b.1,()),l,outs,()),0)∧
   a5j l (b.2.1.length:Int)∧doO l b.2.1=some g∧a7O (fun s=>a2n s ((a1a b:Nat):Int)) outs=some g∧(∀s∈outs,SmallS s)∧a7O (fun r=>a5C (r,effort)) g=some (outs.map fun s=>(s,0))∧
   (effort=0→l=[])∧(0<effort→a7I b=some l):=by
 obtain⟨z,j⟩:=b4X hb;have e:=hb;obtain⟨v,w,C,D,E,F,-⟩:=e;have i:a6F (rate,((b.2.1.length:Nat):Int),b.1,()):=⟨m.1,m.2,by grind,by grind,v,w⟩;have f:∃l g,a5j l (b.2.1.length:Int)∧doO l b.2.1=some g∧(effort=0→l=[])∧(0<effort→a7I b=some l):=by
  by_cases he:effort=0
  exact⟨[],b.2.1,⟨by omega,by omega,by simp,rfl⟩,rfl,fun _=>rfl,fun h=>by omega⟩
  grind[c4o]
 obtain⟨l,g,d,hd,a,c⟩:=f;obtain⟨B,G⟩:=b2E l z rfl d.2.2.2 hd;obtain⟨outs,j1,j2,j3,j4⟩:=b9h x y B (by omega) k (by omega) (start,((a1a b:Nat):Int),(rate,((b.2.1.length:Nat):Int),b.1,()),l,([]:List Sub),()) g [] [] rfl rfl;refine⟨l,g,outs,?_,d,hd,j2,j3,j4,a,c⟩;have t:(b.1 != b.1)=false:=bne_self_eq_false _;have u:(((b.2.1.length:Nat):Int) != ((b.2.1.length:Nat):Int))=false:=bne_self_eq_false _;have n:decide (effort<0)=false:=by simp_all
 have o:decide (effort > 3)=false:=by simp_all
 have p:decide (start<0)=false:=by simp_all
 have q:decide (start > wrap .i64 (4194304-((a1a b:Nat):Int)))=false:=by grind[a0A]
 have z0:((0:Int) != 0)=false:=rfl;unfold a4R;simp only[a8u,decide_eq_true hb,oB,bT,cF,a4G,decide_eq_true i,t,u,n,o,p,a6H,q];cases he:decide (effort > 0)with
 |true=>
  have:=c (by simp_all)
  simp[this,c2E,if_pos (show a2K b.2.1∧a5j l (b.2.1.length:Int)from⟨j,d⟩),hd,b7Q]
  erw[j1]
  rfl
 |false=>
  have:=a (by grind)
  subst this;simp only[cF,oB,c2E,if_pos (show a2K b.2.1∧a5j ([]:List a0L) (b.2.1.length:Int)from⟨j,d⟩),hd,b7Q,z0]
  erw[j1]
  rfl
theorem made{b:a1k}(hb:a3k b)(f:a1a b≤256){rate start effort:Int}(e:1≤rate∧rate≤1048576)(a:0≤start∧start≤4194304-((a1a b:Nat):Int))(j:0≤effort)(n:effort≤3):
  ∃g:Int×(a0L×(List a0L×(List Sub×Unit))),a4R (b,(rate,((b.2.1.length:Nat):Int),b.1,()),start,effort)=some ((start,g),0)∧g.1=((a1a b:Nat):Int)∧g.2.1=(rate,((b.2.1.length:Nat):Int),b.1,())∧
   g.2.2.1.length≤16∧g.2.2.2.1.length≤8∧(∀s∈g.2.2.2.1,SmallS s)∧∀h,0≤h∧h≤4194304-((a1a b:Nat):Int)→a9u (h,g)=some b:=by
 obtain⟨l,i,outs,m,k,c,d,o,-⟩:=c8l hb f e a j n;obtain⟨p,-⟩:=b4X hb;have t:=b7R d;have q:=(b2E l p rfl k.2.2.2 c).2;exact⟨_,m,rfl,rfl,k.2.2.1,by have:=hb.2.2.2.1;show outs.length≤8;omega,o,fun h r=>c8j hb k c d r e⟩
theorem d3n(y:Int):bits .i64 .and y 255=y%256:=by
 have h:((a01 64 y) &&& (a01 64 255)).toNat=(y%18446744073709551616).toNat%256:=by
  rw[a45,a07];have e:(a01 64 255).toNat=2^8-1:=by decide
  rw[e,a34];rfl
 show wrap .i64 ((((a01 64 y) &&& (a01 64 255)).toNat:Nat):Int)=_;rw[h,a0A (by omega)];omega
theorem d9x(x:Int){j:Nat}(g:j<8):A0o .i64 x ((8*j:Nat):Int)=x.fdiv (256^j):=by
 have h:min (a23 ((8*j:Nat):Int)) (IntKind.bits .i64)=8*j:=by
  simp only[tN,IntKind.bits];omega
 unfold A0o;rw[h,show(256:Int)=2^8 from rfl,←Int.pow_mul]
def smB(k:Nat)(x:Int):List Int:=leB k (x%18446744073709551616).toNat
theorem d3o(x:Int)(j:Nat)(g:j<8):((((x%18446744073709551616).toNat) / 256^j%256:Nat):Int)=x.fdiv (256^j)%256:=by
 have h:j=0∨j=1∨j=2∨j=3∨j=4∨j=5∨j=6∨j=7:=by omega
 rcases h with rfl|rfl|rfl|rfl|rfl|rfl|rfl|rfl<;>rw[a46 _ (by decide)]<;>simp only[a96,a75]<;>omega
theorem b4Y(k:Nat)(x:Int):(smB k x).length=k:=a7c _ _
theorem d1v(k:Nat)(h:k<8)(x:Int):smB (k+1) x=smB k x++[x.fdiv (256^k)%256]:=by
 unfold smB;rw[b2L,d3o x k h]
theorem b6g:∀(k n:Nat),∀b∈leB k n,0≤b∧b<256
 |0,_=>by simp[leB]
 |k+1,n=>fun b hb=>by
  rcases mC.1 hb with rfl|hb;omega;exact b6g k _ b hb
def a3F(w:Int)(l:List Int):List Int:=l.flatMap (smB ((w+7) / 8).toNat)
theorem c4p{k:Nat}{g:Int→List Int}(h:∀x,(g x).length=k):∀(l:List Int),(l.flatMap g).length=l.length*k
 | []=>by simp
 |x::l=>by
  rw[a38,lN,h,c4p h l,lC,Nat.add_mul];omega
theorem c8m{w:Int}(hw:4≤w∧w≤24)(l:List Int):(a3F w l).length≤3*l.length:=by
 unfold a3F;rw[c4p (b4Y _)]
 have:((w+7) / 8).toNat≤3:=by omega
 calc l.length*((w+7) / 8).toNat≤l.length*3:=a97 _ this
  _=3*l.length:=a28 ..
theorem c8n(w:Int)(a b:List Int):a3F w (a++b)=a3F w a++a3F w b:=a50
theorem c4q(w:Int)(l:List Int):∀b∈a3F w l,0≤b∧b<256:=fun b hb=>by
 obtain⟨x,-,h⟩:=a77.1 hb;exact b6g _ _ b h
theorem d3p(b x n:Int)(i:Int)(l:List Int){k:Nat}(e:k≤8)(out:List Int)(m:out.length<100000000):
  y0s a1M (b,(k:Int),x,l,n,i,(k:Int),(0:Int),out,())=some (b,(k:Int),l,n,i,out++smB k x,()):=by
 have h:=a0X (f:=a1M) (fun j=>(b,(k:Int),x,l,n,i,(k:Int),(j:Int),out++smB j x,()))
  k (b:=(b,(k:Int),l,n,i,out++smB k x,())) (fun j d=>by
   have c:wrap .i64 ((8:Int)*(j:Int))=((8*j:Nat):Int):=by rw[a0A (by omega)];omega
   have g:decide (((8*j:Nat):Int)<0)=false:=by simp;omega
   simp only[a1M];rw[dlt d,a0Q (show(out++smB j x).length+1<2147483648 by rw[lN,b4Y];omega),c,g,a0C (show j<1000000 by omega),d3n,d9x x (by omega),a5K,a93 _ (by decide),d1v j (by omega),←aA];rfl) (by simp only[a1M,dge,cF])
 have a:out++smB 0 x=out:=by simp[smB,leB]
 simp only[a]at h;exact h
theorem d4C{w:Int}(h:4≤w∧w≤24):wrap .i64 (a21 (wrap .i64 (w+(7:Int))) (8:Int))=((((w+7) / 8).toNat:Nat):Int):=by
 rw[a0A (n:=w+7) (by omega),a30 (by omega),a0A (by omega)];omega
theorem c1x{w:Int}(g:4≤w∧w≤24)(l:List Int)(c:l.length≤1000000){k:Nat}(a:k≤3):∀(rest done out:List Int),done++rest=l→rest.all (fun x=>a1o x w)=true→out.length+3*rest.length<100000000→
  y0s a1E (w,(k:Int),l,(l.length:Int),(done.length:Int),out,())=some (.inl (out++rest.flatMap (smB k),()))
 | [],done,out,hd,_,_=>by
  obtain rfl:done=l:=by simpa using hd
  rw[a0E (b:=Sum.inl (out,())) (by simp only[a1E,dge,cF])]
  simp
 |x::rest,done,out,hd,hf,ho=>by
  have h:done.length<l.length:=by rw[←hd];simp
  have f:m0k l (done.length:Int)=some x:=by rw[a0D h];subst hd;simp
  simp only[a37,bA]at hf;simp only[lC]at ho;rw[a0F (s':=(w,(k:Int),l,(l.length:Int),(((done++[x]).length:Nat):Int),out++smB k x,())) (by
   simp only[a1E,dlt h,cT,f,oB,b3e g,hf.1,bT,cF,d3p w x _ _ l (show k≤8 by omega) out (by omega),a0C (show done.length<1000000 by omega)]
   simp)]
  rw[c1x g l c a rest (done++[x]) (out++smB k x) (by simpa using hd) hf.2 (by rw[lN,b4Y];omega)]
  simp
theorem c0G{w:Int}(g:4≤w∧w≤24){l:List Int}(b:l.length≤1000000)(hf:l.all (fun x=>a1o x w)=true):a3U (l,w)=some (a3F w l,0):=by
 have f:decide (w<(4:Int))=false:=by simp;omega
 have a:decide (w > (24:Int))=false:=by simp;omega
 have h:=c1x g l b (k:=((w+7) / 8).toNat) (by omega) l [] [] rfl hf (by simp;omega);rw[a03]at h;simp only[a3U,f,cF,oB,a,d4C g]
 erw[h]
 rfl
def b1s(d:List Int)(ch c:Nat):List Int:=((a02 d.length).filter fun i=>i%ch==c).map fun i=>d.getD i 0
def a2L(d:List Int)(ch:Nat):List (List Int):=(a02 ch).map (b1s d ch)
def wv(n:Nat)(rows:List (List Int)):List Int:=(a02 n).flatMap fun i=>rows.map fun r=>r.getD i 0
theorem d1w{α:Type}{a b:List α}{i:Nat}{d:α}(h:i<a.length):(a++b).getD i d=a.getD i d:=by
 grind
theorem c9F(d:List Int)(x:Int)(ch c:Nat):b1s (d++[x]) ch c=if d.length%ch=c then b1s d ch c++[x]else b1s d ch c:=by
 unfold b1s;rw[lN,List.length_singleton,a36,a69,pA];have h:((a02 d.length).filter fun i=>i%ch==c).map (fun i=>(d++[x]).getD i 0)=((a02 d.length).filter fun i=>i%ch==c).map fun i=>d.getD i 0:=
  a35 fun i hi=>d1w (a91.1 (List.mem_filter.1 hi).1)
 grind
theorem c4r(c:Nat):∀ch,(a02 ch).filter (·==c)=if c<ch then[c]else[]
 |0=>rfl
 |ch+1=>by
  rw[a36,a69,c4r c ch]
  grind
theorem c4s{ch c:Nat}(h:c<ch):∀n,(a02 (n*ch)).filter (fun i=>i%ch==c)=(a02 n).map fun i=>i*ch+c
 |0=>by simp
 |n+1=>by
  rw[a78,a55,a69,c4s h n,a36,pA,List.filter_map];congr 1;have e:∀i∈a02 ch,((fun i=>i%ch==c)∘fun x=>n*ch+x) i=(i==c):=fun i hi=>by
   simp_all[a47]
  simp_all[List.filter_congr,c4r]
theorem c1y{d:List Int}{n ch c:Nat}(hd:d.length=n*ch)(h:c<ch):b1s d ch c=(a02 n).map fun i=>d.getD (i*ch+c) 0:=by
 simp_all[b1s,c4s]
theorem d4D(f:Nat→Int)(ch:Nat):∀n,(a02 n).flatMap (fun i=>(a02 ch).map fun c=>f (i*ch+c))=(a02 (n*ch)).map f
 |0=>by simp
 |n+1=>by
  rw[a36,a50,d4D f ch n,a78,a55,pA,a52];simp[Function.comp_def]
theorem c8o(d:List Int):(a02 d.length).map (fun i=>d.getD i 0)=d:=
 a62 (by simp) fun i h g=>by simp_all
theorem c8p{α β:Type}{l:List α}{f g:α→List β}(h:∀a∈l,f a=g a):l.flatMap f=l.flatMap g:=by
 grind[a35]
theorem d3q{d:List Int}{n ch:Nat}(hd:d.length=n*ch):wv n (a2L d ch)=d:=by
 have:wv n (a2L d ch)=(a02 n).flatMap fun i=>(a02 ch).map fun c=>d.getD (i*ch+c) 0:=
  c8p fun i hi=>by
   grind[a2L,a35,c1y]
 grind[d4D,c8o]
def prm:Nat:=2305843009213693951
def prs(h:Nat)(l:List Nat):Nat:=l.foldl (fun h c=>(h*1000003+(c+1))%prm) h
theorem d3r(h:Nat):prs h []=h:=rfl
theorem c4t(h c:Nat)(l:List Nat):prs h (c::l)=prs ((h*1000003+(c+1))%prm) l:=rfl
theorem c8q(h:Nat)(a b:List Nat):prs h (a++b)=prs (prs h a) b:=a57 ..
theorem c4u{h:Nat}(g:h<prm)(l:List Nat):prs h l<prm:=by
 induction l generalizing h with
 |nil=>exact g
 |cons c l ih=>exact ih (a29 _ (by decide))
theorem b4Z(a b c:Nat):(a%prm*b+c)%prm=(a*b+c)%prm:=by
 simp_all[Nat.add_mod]
theorem c4v(a b:Nat):(a+b%prm)%prm=(a+b)%prm:=by
 simp
theorem d1x(l:List Nat)(h:Nat):prs h l%prm=(h*1000003^l.length+prs 0 l)%prm:=by
 induction l generalizing h with
 |nil=>simp[d3r]
 |cons c l ih=>
  rw[c4t,c4t,ih,b4Z,←c4v (h*_),ih ((0*1000003+(c+1))%prm),b4Z,c4v,lC,a41]
  grind
theorem d1y(a b:List Nat):prs 0 (a++b)=(prs 0 a*(1000003^b.length%prm)+prs 0 b)%prm:=by
 rw[c8q,←a47 (c4u (c4u (by decide) a) b),d1x,a28 (prs 0 a) (_%prm),b4Z,a28 (prs 0 a)]
def pwr:Nat→Nat→Nat→Nat→Nat
 |0,_,p,_=>p
 |k+1,n,p,s=>if n=0 then p else pwr k (n / 2) (if n%2=1 then p*s%prm else p) (s*s%prm)
theorem d1z(a b:Nat):a%prm*b%prm=a*b%prm:=b4Z a b 0
theorem c4w(a n:Nat):(a%prm)^n%prm=a^n%prm:=by rw[←Nat.pow_mod]
theorem d4E(k n p s:Nat)(h:n<2^k)(hp:p<prm):pwr k n p s=p*s^n%prm:=by
 induction k generalizing n p s with
 |zero=>simp_all[pwr,a47]
 |succ k ih=>
  rw[pwr]
  by_cases h0:n=0
  simp_all[a47];rw[if_neg h0];have g:n / 2<2^k:=by omega
  have f:(s*s)^(n / 2)=s^(2*(n / 2)):=by grind[b08]
  by_cases h1:n%2=1
  rw[if_pos h1,ih _ _ _ g (a29 _ (by decide)),a72,c4w,f,←a72,d1z,a98,←Nat.pow_succ']
  grind
  rw[if_neg h1,ih _ _ _ g hp,a72,c4w,f,←a72]
  grind
theorem c9G{u d y1 y0 q r:Nat}(g:u=q*y1+r)(h:q*y0≤4294967296*r+d):q*(y1*4294967296+y0)≤u*4294967296+d:=by
 grind
theorem d3s(u d e y:Nat):((u*4294967296+d)%y*4294967296+e)%y=((u*4294967296+d)*4294967296+e)%y:=by
 simp_all[Nat.add_mod,a72]
theorem c9H(n k y:Nat)(h:0<k):n*k%(y*k) / k=n%y:=by
 simp_all[a87]
@[reducible] def Pc:Type:=a1r×(a1k×List Int)
def c4x(fm:a0L)(st:Nat)(x:Pc):Prop:=
 x.1.1=(st:Int)∧x.1.2.1=((a1a x.2.1:Nat):Int)∧x.1.2.2.1=fm∧a3Y x.1=some (x.2.1,0)∧a5U x.1=some (x.2.2,0)∧
  (∀R:List Int,R.length≤200000000→a6w (x.2.2++R)=some (x.1,(x.2.2.length:Int),(0:Int)))∧a3k x.2.1∧x.2.1.1=fm.2.2.1∧a1a x.2.1≤64∧1≤x.2.2.length∧x.2.2.length≤700800
def a3G(fm:a0L):Nat→List Pc→Prop
 |_,[]=>True
 |st,x::xs=>c4x fm st x∧a3G fm (st+a1a x.2.1) xs
def a4h:Nat→Nat→List Pc→List (Int×Int×Unit)
 |_,_,[]=>[]
 |st,off,x::xs=>((st:Int),(off:Int),())::a4h (st+a1a x.2.1) (off+x.2.2.length) xs
def a1v(xs:List Pc):Nat:=(xs.map fun x=>a1a x.2.1).sum
def a1b(xs:List Pc):List Int:=xs.flatMap fun x=>x.2.2
def wvB(b:a1k):List Int:=wv (a1a b) b.2.1
def a6j(xs:List Pc):List Int:=xs.flatMap fun x=>wvB x.2.1
def prI(l:List Int):Nat:=prs 0 (l.map a23)
def a2P(fm:a0L)(xs:List Pc):Nat:=prI (a3F fm.2.2.1 (a6j xs))
theorem b9i(l:List Int):prI l<prm:=c4u (by decide) _
theorem d3t(a b:List Int):prI (a++b)=(prI a*(1000003^b.length%prm)+prI b)%prm:=by
 simp_all[prI,d1y]
theorem a5Q(h:List Pc)(x:Pc):a1v (h++[x])=a1v h+a1a x.2.1:=by simp[a1v]
theorem a9v(h:List Pc)(x:Pc):a1b (h++[x])=a1b h++x.2.2:=by simp[a1b]
theorem b2x(h:List Pc)(x:Pc):a6j (h++[x])=a6j h++wvB x.2.1:=by simp[a6j]
theorem c9I{rows:List (List Int)}:∀n,(wv n rows).length=n*rows.length:=fun n=>by
 simp_all[wv,List.map_const']
theorem c1z{fm:a0L}:∀{xs:List Pc}{st:Nat}{x:Pc},a3G fm st xs→c4x fm (st+a1v xs) x→a3G fm st (xs++[x])
 | [],st,x,_,h=>⟨by simpa[a1v]using h,trivial⟩
 |y::xs,st,x,h,h2=>⟨h.1,c1z h.2 (by simp_all[a1v,a76])⟩
theorem b3S:∀(xs:List Pc)(st off:Nat)(x:Pc),a4h st off (xs++[x])=a4h st off xs++[(((st+a1v xs:Nat):Int),((off+(a1b xs).length:Nat):Int),())]
 | [],st,off,x=>by rfl
 |y::xs,st,off,x=>by
  simp_all[a4h,b3S,a1v,a1b,a76]
theorem b0Y:∀(xs:List Pc)(st off:Nat),(a4h st off xs).length=xs.length
 | [],_,_=>rfl
 |_::xs,_,_=>congrArg (·+1) (b0Y xs _ _)
theorem b5a{fm:a0L}:∀{xs:List Pc}{st:Nat},a3G fm st xs→(a1b xs).length≤700800*xs.length
 | [],_,_=>by simp[a1b]
 |x::xs,st,h=>by
  have:=b5a h.2
  have:=h.1.2.2.2.2.2.2.2.2.2.2
  simp only[a1b,a38,lN,lC]at *;omega
theorem d3u{b:a1k}{fm:a0L}(hb:a3k b)(i:a1a b≤64)(j:1≤fm.1∧fm.1≤1048576)(d:fm.2.1=((b.2.1.length:Nat):Int))(h:fm.2.2.1=b.1){st:Nat}(q:st+a1a b≤4194304){effort:Int}(m:0≤effort)(n:effort≤3):
  ∃g p,a4R (b,fm,(st:Int),effort)=some (((st:Int),g),0)∧c4x fm st (((st:Int),g),b,p):=by
 obtain⟨rate,ch,bits,u⟩:=fm;cases u;simp only at j d h;subst d h;obtain⟨g,r,s,t,x,y,l,v⟩:=made hb (by omega) (rate:=rate) (start:=(st:Int)) (effort:=effort) j (by omega) m n;have a:=v (st:Int) (by omega);obtain⟨L,o,-,e,c⟩:=c8i (f:=((st:Int),g)) l a;have k:=c4l (f:=((st:Int),g)) l;rw[a]at k;have w:=b7O (b6f a).1 o;refine⟨g,a6G ((st:Int),g) L,r,rfl,s,t,k,e,c,hb,rfl,i,?_,?_⟩
 all_goals grind[a6G]
theorem c4y{d:List Int}{n ch c:Nat}(hd:d.length=n*ch)(h:c<ch):(b1s d ch c).length=n:=by rw[c1y hd h];simp
theorem d1A{d:List Int}{ch c:Nat}{x:Int}(h:x∈b1s d ch c):x∈d:=by
 unfold b1s at h
 grind
def a8v(w:Int)(d:List Int)(ch:Nat):a1k:=(w,a2L d ch,())
theorem b7T{w:Int}{d:List Int}{n ch:Nat}(hd:d.length=n*ch)(h:0<ch):a1a (a8v w d ch)=n:=by
 obtain⟨k,rfl⟩:∃k,ch=k+1:=⟨ch-1,by omega⟩;show((a2L d (k+1)).headD []).length=n
 grind[a2L,List.range_succ_eq_map,c4y]
theorem d3v{w:Int}{d:List Int}{n ch:Nat}(hd:d.length=n*ch)(h:1≤ch∧ch≤8)(e:1≤n∧n≤4096)(f:4≤w∧w≤24)(hf:d.all (fun x=>a1o x w)=true):a3k (a8v w d ch):=by
 have k:=b7T (w:=w) hd (show 0<ch by omega);have g:(a2L d ch).length=ch:=by simp[a2L]
 refine⟨f.1,f.2,by simp_all[a8v],by simp_all[a8v],by omega,by omega,?_⟩;rw[k];refine lA.2 fun r a=>?_
 obtain⟨c,g,rfl⟩:=a51.1 (show r∈(a02 ch).map (b1s d ch)from a);rw[bA,dT];exact⟨c4y hd (a91.1 g),lA.2 fun x b=>lA.1 hf x (d1A b)⟩
theorem d3w{w:Int}{d:List Int}{n ch:Nat}(hd:d.length=n*ch)(h:0<ch):wvB (a8v w d ch)=d:=by
 unfold wvB;rw[b7T hd h];exact d3q hd
def b3T(n:Nat)(l:List Int):Nat:=l.foldl (fun n c=>n*256+c.toNat) n
def a7P(k n:Nat):List Int:=(leB k n).reverse
theorem b7U:∀(k n:Nat),n<256^k→b3T 0 (a7P k n)=n
 |0,n,h=>by simp at h;subst h;rfl
 |k+1,n,h=>by
  have g:=b7U k (n / 256) (by rw[a88 (by omega)];rw[a41]at h;exact h);unfold b3T a7P at *;rw[leB,List.reverse_cons,a57,g]
  simp
  omega
theorem a9N(k n:Nat):(a7P k n).length=k:=by simp[a7P,a7c]
theorem b5b(k n:Nat):∀b∈a7P k n,0≤b∧b<256:=fun b hb=>b6g k n b (List.mem_reverse.1 hb)
theorem c0H{n k:Nat}(j:n<18446744073709551616)(d:k≤8):a0U ((n:Int),(k:Int))=some (leB k n):=by
 have c:a1G (k:Int)=some (k:Int):=by
  grind[a1G,b1d,b2y]
 simp[a0U,c];have h:=a0X (f:=a1l) (fun i=>(((n / 256^i:Nat):Int),(k:Int),(i:Int),leB i n,())) k (b:=(leB k n,())) (fun i hi=>by
   have g:wrap .u64 (a21 ((n / 256^i:Nat):Int) 256)=((n / 256^(i+1):Nat):Int):=by
    have e:a21 ((n / 256^i:Nat):Int) 256=((n / 256^i / 256:Nat):Int):=rfl;rw[e,a82,←a41]
    have:=a65 n (256^(i+1))
    grind[a0K]
   have a:wrap .u8 (a06 ((n / 256^i:Nat):Int) 256)=((n / 256^i%256:Nat):Int):=by
    have e:a06 ((n / 256^i:Nat):Int) 256=((n / 256^i%256:Nat):Int):=rfl;rw[e,a5K];omega
   simp only[a1l];rw[dlt hi,a0Q (show(leB i n).length+1<2147483648 by rw[a7c];omega),g,a0C (show i<1000000 by omega),a,b2L];rfl) (by simp_all[a1l])
 simp only[Nat.pow_zero,Nat.div_one,leB]at h;simp_all
theorem b6h{n k:Nat}(g:n<18446744073709551616)(h:k≤8):a4u ((n:Int),(k:Int))=some (a7P k n):=by
 unfold a4u a1Y;simp only[c0H g h,oB];rw[decide_eq_true (by rw[a7c];omega)];rfl
def c32(s:BitVec 32):BitVec 32:=bif s.getLsbD 0 then(s >>> 1) ^^^ 0xedb88320#32 else s >>> 1
def d1B:Nat→BitVec 32→BitVec 32
 |0,s=>s
 |k+1,s=>d1B k (c32 s)
def d1C(s x:BitVec 32):BitVec 32:=d1B 8 (s ^^^ x)
def d4F(s:BitVec 32)(l:List (BitVec 32)):BitVec 32:=l.foldl d1C s
theorem d1D(s:BitVec 32):a01 32 ((s.toNat:Nat):Int)=s:=by
 simp
theorem d4G(s:BitVec 32):wrap .u32 ((s.toNat:Nat):Int)=((s.toNat:Nat):Int):=by
 have:=s.isLt
 grind[wrap,IntKind.bits,IntKind.signed]
theorem c8r(s t:BitVec 32):bits .u32 .xor ((s.toNat:Nat):Int) ((t.toNat:Nat):Int)=(((s ^^^ t).toNat:Nat):Int):=by
 show wrap .u32 (((a01 32 _ ^^^ a01 32 _).toNat:Nat):Int)=_;rw[d1D,d1D,d4G]
theorem d6p(s:BitVec 32):(bits .u32 .and ((s.toNat:Nat):Int) 1==(1:Int))=s.getLsbD 0:=by
 have h:bits .u32 .and ((s.toNat:Nat):Int) 1=(((s &&& 1#32).toNat:Nat):Int):=by
  show wrap .u32 (((a01 32 _ &&& a01 32 1).toNat:Nat):Int)=_;rw[d1D,show a01 32 1=1#32 from rfl,d4G]
 rw[h,a45,show(1#32).toNat=1 from rfl,Nat.and_one_is_mod,a92,Nat.testBit_zero]
 grind
theorem d6q(s:BitVec 32):A0o .u32 ((s.toNat:Nat):Int) 1=(((s >>> 1).toNat:Nat):Int):=by
 unfold A0o;rw[show min (a23 1) (IntKind.bits .u32)=1 from rfl,a46 _ (by simp),BitVec.toNat_ushiftRight,Nat.shiftRight_eq_div_pow];rfl
def e32(s:Int):Int:=bif (bits .u32 .and s 1)==(1:Int)then bits .u32 .xor (A0o .u32 s 1) 3988292384 else A0o .u32 s 1
theorem d4H(s:BitVec 32):e32 ((s.toNat:Nat):Int)=(((c32 s).toNat:Nat):Int):=by
 unfold e32 c32;rw[d6p,d6q,show(3988292384:Int)=(((0xedb88320#32).toNat:Nat):Int)from rfl,c8r]
 grind
theorem c4z:∀(k:Nat)(s:BitVec 32),rep e32 k ((s.toNat:Nat):Int)=(((d1B k s).toNat:Nat):Int)
 |0,_=>rfl
 |k+1,s=>by
  rw[show rep e32 (k+1) ((s.toNat:Nat):Int)=rep e32 k (e32 ((s.toNat:Nat):Int))from rfl,d4H,c4z k];rfl
def d4I(l:List Int):BitVec 32:=d4F 0xffffffff#32 (l.map (a01 32))
def a4p(l:List Int):Nat:=(~~~ d4I l).toNat
theorem b5c(l:List Int):a4p l<4294967296:=(~~~ d4I l).isLt
@[reducible] def c0I:Type:=a0L×(Int×(Int×(List (Int×(Int×Unit))×(List a1r×Unit))))
def mkT(fm:a0L)(xs:List Pc):c0I:=(fm,((a1v xs:Nat):Int),((a2P fm xs:Nat):Int),a4h 0 0 xs,xs.map (·.1),())
def nsP(xs:List Pc):List Nat:=xs.flatMap fun x=>[x.2.2.length,a1a x.2.1]
def a3S(fm:a0L)(xs:List Pc):List Nat:=[fm.1.toNat,fm.2.1.toNat,fm.2.2.1.toNat,xs.length]++nsP xs
def b7V:List Int:=[75,78,83,68]
def a1u(fm:a0L)(xs:List Pc):List Int:=b7V++((a3S fm xs).flatMap a0J++a7P 8 (a2P fm xs))
def a7A(fm:a0L)(xs:List Pc):List Int:=a1u fm xs++(a7P 4 (a4p (a1u fm xs))++a1b xs)
def b1V(l:List Int)(ch st en:Nat):List Int:=(l.take (en*ch)).drop (st*ch)
theorem c9J{l:List Int}{ch st en:Nat}(h:en*ch≤l.length):(b1V l ch st en).length=(en-st)*ch:=by
 simp_all[b1V,Nat.sub_mul]
theorem c9K{l:List Int}{ch st en:Nat}(h:st≤en):l.take (st*ch)++b1V l ch st en=l.take (en*ch):=by
 grind[b1V,a39,a89]
theorem c9L{l:List Int}{p:Int→Bool}{ch st en:Nat}(h:l.all p=true):(b1V l ch st en).all p=true:=
 lA.2 fun x g=>lA.1 h x (a44 (a63 g))
theorem b4m(h:List Pc):(nsP h).length=2*h.length:=by
 induction h with
 |nil=>rfl
 |cons x h ih=>grind[nsP]
theorem d1E(h:List Pc)(x:Pc):nsP (h++[x])=nsP h++[x.2.2.length,a1a x.2.1]:=by simp[nsP]
theorem c1A{fm:a0L}:∀{xs:List Pc}{st:Nat},a3G fm st xs→∀n∈nsP xs,n<1048704
 | [],_,_,n,hn=>by simp[nsP]at hn
 |x::xs,st,h,n,hn=>by
  have g:=h.1.2.2.2.2.2.2.2.2;simp only[nsP,a38,mA,mC,a61,or_false]at hn;rcases hn with(rfl|rfl)|hn;omega;omega;exact c1A h.2 n hn
theorem b6i{fm:a0L}:∀{xs:List Pc}{st:Nat},a3G fm st xs→xs.length≤a1v xs∧a1v xs≤64*xs.length
 | [],_,_=>by simp[a1v]
 |x::xs,st,h=>by
  have g:=h.1.2.2.2.2.2.2.1.2.2.2.2.1;have f:=h.1.2.2.2.2.2.2.2.2.1
  have:=b6i h.2
  simp only[a1v,a60,List.sum_cons,lC]at *;omega
theorem b3D:∀(l:List Nat),(∀n∈l,n<9223372036854775808)→(l.flatMap a0J).length≤9*l.length
 | [],_=>by simp
 |n::l,h=>by
  have:=(a8X (h n (by simp))).2
  have:=b3D l fun m g=>h m (by simp[g])
  simp only[a38,lN,lC];omega
theorem a7L{fm:a0L}(hf:a6F fm){xs:List Pc}(h:a3G fm 0 xs)(e:xs.length≤256):∀n∈a3S fm xs,n<1048704:=fun n g=>by
 simp only[a3S,mA,mC,a61,or_false]at g;obtain⟨f,k,a,b,c,d⟩:=hf;rcases g with(rfl|rfl|rfl|rfl)|g;omega;omega;omega;omega;exact c1A h n g
theorem c1B{fm:a0L}(hf:a6F fm){xs:List Pc}(h:a3G fm 0 xs)(f:xs.length≤256):(a1u fm xs).length≤6000:=by
 have k:=b3D (a3S fm xs) fun n g=>a22 (a7L hf h f n g) (by simp)
 grind[a3S,b4m,a1u,b7V,a9N]
def a9O(y0 d q r:Nat):Prop:=4294967296≤q∨4294967296*r+d<q*y0
instance (y0 d q r:Nat):Decidable (a9O y0 d q r):=inferInstanceAs (Decidable (_∨_))
def b6j(u d y1 y0:Nat):Nat:=
 if a9O y0 d (u / y1) (u%y1)then
  if 4294967296≤u%y1+y1 then u / y1-1
  else if a9O y0 d (u / y1-1) (u%y1+y1)then u / y1-2 else u / y1-1
 else u / y1
theorem d3x{u d y1 y0:Nat}(t:2147483648≤y1)(p:y0<4294967296)(v:u<y1*4294967296+y0)(hd:d<4294967296):
  b6j u d y1 y0=(u*4294967296+d) / (y1*4294967296+y0):=by
 have hp:0<y1:=by omega
 have e:u=u / y1*y1+u%y1:=(Nat.div_add_mod' u y1).symm;have s:=a29 u hp;have j:u / y1≤4294967297:=by
  have:u / y1<4294967298:=(a88 hp).2 (by omega)
  omega
 have x:u*4294967296+d<(u / y1+1)*(y1*4294967296+y0):=by
  grind
 have over:∀{q r:Nat},u=q*y1+r→a9O y0 d q r→u*4294967296+d<q*(y1*4294967296+y0):=by
  intro q r g f;rcases f with f|f
  have:=a39 (y1*4294967296+y0) f
  omega
  grind
 have fits:∀{q r:Nat},u=q*y1+r→¬ a9O y0 d q r→q*(y1*4294967296+y0)≤u*4294967296+d:=
  fun g f=>c9G g (Nat.le_of_not_lt fun h=>f (.inr h))
 have i:∀{q r:Nat},u=q*y1+r→q≤4294967296→4294967296≤r→q*(y1*4294967296+y0)≤u*4294967296+d:=by
  intro q r g j s;refine c9G g ?_
  have a:=a04 j (a68 p);omega
 unfold b6j;generalize u / y1=q at *;generalize u%y1=r at *;have done:∀{m:Nat},m*(y1*4294967296+y0)≤u*4294967296+d→u*4294967296+d<(m+1)*(y1*4294967296+y0)→m=(u*4294967296+d) / (y1*4294967296+y0):=
  fun a b=>(Nat.div_eq_of_lt_le a b).symm
 by_cases c:a9O y0 d q r
 rw[if_pos c];have o:=over e c;have q1:1≤q:=b01 fun z=>by grind
 obtain⟨q,rfl⟩:∃k,q=k+1:=⟨q-1,by omega⟩;rw[Nat.add_sub_cancel];have l:u=q*y1+(r+y1):=by grind
 by_cases c1:4294967296≤r+y1
 grind
 rw[if_neg c1]
 by_cases c2:a9O y0 d q (r+y1)
 rw[if_pos c2];have o1:=over l c2;have w:1≤q:=b01 fun z=>by grind
 obtain⟨q,rfl⟩:∃k,q=k+1:=⟨q-1,by omega⟩;have n:u=q*y1+(r+y1+y1):=by grind
 exact done (m:=q) (i n (by omega) (by omega)) o1
 grind
 grind
theorem d4J(hi lo:Nat):
  (((hi*8+lo / 2305843009213693952)*4294967296+lo*8%18446744073709551616 / 4294967296)%18446744073709551608*4294967296+lo*8%18446744073709551616%4294967296)%18446744073709551608 / 8
   = (hi*18446744073709551616+lo)%prm:=by
 have e:((hi*8+lo / 2305843009213693952)*4294967296+lo*8%18446744073709551616 / 4294967296)*4294967296+lo*8%18446744073709551616%4294967296=(hi*18446744073709551616+lo)*8:=by omega
 rw[d3s,e];exact c9H _ 8 prm (by simp)
theorem d1F{hi lo:Nat}(h:hi<prm)(g:lo<18446744073709551616):hi*8+lo / 2305843009213693952<4294967295*4294967296+4294967288:=by
 unfold prm at h;omega
theorem c9M{a b c:Nat}(h:a<prm)(hb:b<prm)(g:c≤prm):(a*b+c) / 18446744073709551616<prm:=by
 have:=a04 (a94 h) (a94 hb)
 unfold prm at *;omega
theorem d4K{a b x0 x1 y0 y1 t:Nat}(k:x0=a%4294967296)(c:x1=a / 4294967296)(d:y0=b%4294967296)(i:y1=b / 4294967296)(r:t=x1*y0+x0*y0 / 4294967296)
  (n:a<18446744073709551616)(hb:b<18446744073709551616):
  x1*y1+t / 4294967296+(t%4294967296+x0*y1) / 4294967296=a*b / 18446744073709551616∧x0*y0<18446744073709551616∧t<18446744073709551616∧t%4294967296+x0*y1<18446744073709551616:=by
 have j:a=x1*4294967296+x0:=by omega
 have l:b=y1*4294967296+y0:=by omega
 have e:a*b=x1*y1*18446744073709551616+(x1*y0+x0*y1)*4294967296+x0*y0:=by
  grind
 have m:∀{p q:Nat},p<4294967296→q<4294967296→p*q≤4294967295*4294967295:=fun hp o=>a04 (by omega) (by omega);have h:=m (show x0<4294967296 by omega) (show y0<4294967296 by omega);have f:=m (show x1<4294967296 by omega) (show y0<4294967296 by omega);have g:=m (show x0<4294967296 by omega) (show y1<4294967296 by omega);omega
theorem c8s(n:Nat):wrap .u64 (n:Int)=((n%18446744073709551616:Nat):Int):=by
 rfl
theorem c4A{n k:Nat}(h:k≤64):A0o .u64 (n:Int) (k:Int)=((n / 2^k:Nat):Int):=by
 have g:min (a23 (k:Int)) (IntKind.bits .u64)=k:=by simp_all[IntKind.bits]
 unfold A0o
 grind
theorem c9N(n:Nat):A0o .u64 (n:Int) 32=((n / 4294967296:Nat):Int):=c4A (k:=32) (by omega)
theorem d2J(n:Nat):bits .u64 .and (n:Int) 4294967295=((n%4294967296:Nat):Int):=by
 show wrap .u64 (((a01 64 (n:Int) &&& a01 64 4294967295).toNat:Nat):Int)=_;have g:(a01 64 4294967295).toNat=4294967295:=rfl;have h:(a01 64 (n:Int)).toNat=n%18446744073709551616:=by rfl
 rw[a45,h,g,show 4294967295=2^32-1 from rfl,a34,c8s];omega
theorem d9y{a b:Nat}(f:a<2305843009213693952)(hb:b<8):bits .u64 .or ((a*8:Nat):Int) (b:Int)=((a*8+b:Nat):Int):=by
 show wrap .u64 (((a01 64 ((a*8:Nat):Int) ||| a01 64 (b:Int)).toNat:Nat):Int)=_;have h:(a01 64 ((a*8:Nat):Int)).toNat=2^3*a:=by grind[a07]
 have g:(a01 64 (b:Int)).toNat=b:=by grind
 rw[a64,h,g,←a43 (i:=3) hb a,c8s];omega
theorem d1G{a b:Nat}(f:a<18446744073709551616)(hb:b<18446744073709551616):a6d ((a:Int),(b:Int))=some (((a*b / 18446744073709551616:Nat):Int),((a*b%18446744073709551616:Nat):Int)):=by
 obtain⟨k,c,d,e⟩:=d4K (a:=a) (b:=b) rfl rfl rfl rfl rfl f hb;unfold a6d;simp only[c9N,d2J,←a83,←Int.natCast_add,c8s,sj,pJ,Int.natCast_inj];refine⟨?_,trivial⟩
 revert k c d e
 generalize a%4294967296*(b%4294967296)=p00;generalize a / 4294967296*(b%4294967296)=p10;generalize a%4294967296*(b / 4294967296)=p01;have hd:a*b / 18446744073709551616<18446744073709551616:=a95 (Nat.lt_of_le_of_lt (a04 (a68 f) (a68 hb)) (by omega:18446744073709551616*18446744073709551616<18446744073709551616*18446744073709551616+1) |> fun h=>by
  rcases Nat.lt_or_ge (a*b) (18446744073709551616*18446744073709551616)with g|g;omega
  have:=Nat.mul_lt_mul_of_lt_of_le f (a68 hb) (by omega);omega)
 omega
theorem b7k{α:Type}(p:Prop)[Decidable p](a b:α):(bif decide p then a else b)=if p then a else b:=by
 simp
theorem d4L:a3Z 2305843009213693951=some 3:=by rfl
theorem c8t{u d q:Nat}(h:q=b6j u d 4294967295 4294967288)(g:u<4294967295*4294967296+4294967288)(hd:d<4294967296):q*18446744073709551608≤u*4294967296+d∧u*4294967296+d<q*18446744073709551608+18446744073709551608∧q<4294967296:=by
 grind[d3x]
theorem b7l{u d u0 q r:Nat}{s:Int}(hd:d<4294967296)(c:q≤4294967297)(e:r<4294967296):a2d ((18446744073709551608:Int),s,(4294967295:Int),(4294967288:Int),(u:Int),(d:Int),(u0:Int),(q:Int),(r:Int),()) =
  if a9O 4294967288 d q r then(if 4294967296≤r+4294967295 then some (.inr ((18446744073709551608:Int),s,(4294967295:Int),(4294967288:Int),(u:Int),(d:Int),(u0:Int),((q-1:Nat):Int),()))else some (.inl ((18446744073709551608:Int),s,(4294967295:Int),(4294967288:Int),(u:Int),(d:Int),(u0:Int),((q-1:Nat):Int),((r+4294967295:Nat):Int),())))else some (.inr ((18446744073709551608:Int),s,(4294967295:Int),(4294967288:Int),(u:Int),(d:Int),(u0:Int),(q:Int),())):=by
 have a:wrap .u64 ((q:Int)-1)=(((q-1:Nat)):Int)∨q=0:=by
  rcases b02 q with h|h;exact .inr h;left;rw[a0K (by omega)];omega
 have f:wrap .u64 ((r:Int)+4294967295)=((r+4294967295:Nat):Int):=by rw[a0K (by omega)];omega
 have k:decide (wrap .u64 ((r:Int)+4294967295)≥(4294967296:Int))=decide (4294967296≤r+4294967295):=by
  rw[f];exact decide_eq_decide.2 (by omega)
 have tail:q≠0→(bif decide (wrap .u64 ((r:Int)+4294967295)≥(4294967296:Int))then(some (.inr ((18446744073709551608:Int),s,(4294967295:Int),(4294967288:Int),(u:Int),(d:Int),(u0:Int),(wrap .u64 ((q:Int)-1)),())):Option (_ ⊕ (Int×Int×Int×Int×Int×Int×Int×Int×Unit)))else some (.inl ((18446744073709551608:Int),s,(4294967295:Int),(4294967288:Int),(u:Int),(d:Int),(u0:Int),(wrap .u64 ((q:Int)-1)),(wrap .u64 ((r:Int)+4294967295)),()))) =
   (if 4294967296≤r+4294967295 then some (.inr ((18446744073709551608:Int),s,(4294967295:Int),(4294967288:Int),(u:Int),(d:Int),(u0:Int),((q-1:Nat):Int),()))else some (.inl ((18446744073709551608:Int),s,(4294967295:Int),(4294967288:Int),(u:Int),(d:Int),(u0:Int),((q-1:Nat):Int),((r+4294967295:Nat):Int),()))):=fun b=>by
  rw[k,a.resolve_right b,f];exact b7k ..
 by_cases h1:4294967296≤q
 have c0:decide ((q:Int)≥(4294967296:Int))=true:=decide_eq_true (by omega);rw[if_pos (.inl h1),←tail (by omega)];unfold a2d;dsimp only;rw[c0,cT,oB];have c0:decide ((q:Int)≥(4294967296:Int))=false:=decide_eq_false (by omega);have i:wrap .u64 ((q:Int)*4294967288)=((q*4294967288:Nat):Int):=by rw[a0K (by omega)];omega
 have j:wrap .u64 (wrap .u64 ((4294967296:Int)*(r:Int))+(d:Int))=((4294967296*r+d:Nat):Int):=by rw[a0K (n:=4294967296*(r:Int)) (by omega),a0K (by omega)];omega
 by_cases h2:4294967296*r+d<q*4294967288
 have g:decide (wrap .u64 ((q:Int)*4294967288) > wrap .u64 (wrap .u64 ((4294967296:Int)*(r:Int))+(d:Int)))=true:=decide_eq_true (by omega);rw[if_pos (.inr h2),←tail (by omega)];unfold a2d;dsimp only;rw[c0,cF,g,cT,oB];have g:decide (wrap .u64 ((q:Int)*4294967288) > wrap .u64 (wrap .u64 ((4294967296:Int)*(r:Int))+(d:Int)))=false:=decide_eq_false (by omega);rw[if_neg (by unfold a9O;omega)];unfold a2d;dsimp only;rw[c0,cF,g,cF,oB]
theorem d4M{u d u0:Nat}{s:Int}(f:u<4294967295*4294967296+4294967288)(hd:d<4294967296):
  y0s a2d ((18446744073709551608:Int),s,(4294967295:Int),(4294967288:Int),(u:Int),(d:Int),(u0:Int),((u / 4294967295:Nat):Int),((u%4294967295:Nat):Int),())=some ((18446744073709551608:Int),s,(4294967295:Int),(4294967288:Int),(u:Int),(d:Int),(u0:Int),((b6j u d 4294967295 4294967288:Nat):Int),()):=by
 have h:u / 4294967295≤4294967297:=by omega
 have g:u%4294967295<4294967295:=a29 _ (by omega);unfold b6j
 revert h g
 generalize u / 4294967295=q;generalize u%4294967295=r;intro h g;have s0:=b7l (u0:=u0) (s:=s) (u:=u) hd h (b06 g)
 by_cases c1:a9O 4294967288 d q r
 ·rw[if_pos c1]at s0⊢
  by_cases c2:4294967296≤r+4294967295
  simp_all[a0E]
  ·rw[if_neg c2]at s0⊢;rw[a0F s0];have k:=b7l (u0:=u0) (s:=s) (u:=u) (q:=q-1) (r:=r+4294967295) hd (by omega) (by omega)
   by_cases c3:a9O 4294967288 d (q-1) (r+4294967295)
   all_goals simp_all[Nat.sub_sub,a0E]
 simp_all[a0E]
theorem b7m{u d q r:Nat}{s q1:Int}(hd:d<4294967296)(c:q≤4294967297)(e:r<4294967296):a2e ((18446744073709551608:Int),s,(4294967295:Int),(4294967288:Int),(d:Int),q1,(r:Int),(u:Int),(q:Int),()) =
  if a9O 4294967288 d q r then(if 4294967296≤r+4294967295 then some (.inr ((18446744073709551608:Int),s,(d:Int),q1,(u:Int),((q-1:Nat):Int),()))else some (.inl ((18446744073709551608:Int),s,(4294967295:Int),(4294967288:Int),(d:Int),q1,((r+4294967295:Nat):Int),(u:Int),((q-1:Nat):Int),())))else some (.inr ((18446744073709551608:Int),s,(d:Int),q1,(u:Int),(q:Int),())):=by
 have a:wrap .u64 ((q:Int)-1)=(((q-1:Nat)):Int)∨q=0:=by
  rcases b02 q with h|h;exact .inr h;left;rw[a0K (by omega)];omega
 have f:wrap .u64 ((r:Int)+4294967295)=((r+4294967295:Nat):Int):=by rw[a0K (by omega)];omega
 have k:decide (wrap .u64 ((r:Int)+4294967295)≥(4294967296:Int))=decide (4294967296≤r+4294967295):=by
  rw[f];exact decide_eq_decide.2 (by omega)
 have tail:q≠0→(bif decide (wrap .u64 ((r:Int)+4294967295)≥(4294967296:Int))then(some (.inr ((18446744073709551608:Int),s,(d:Int),q1,(u:Int),(wrap .u64 ((q:Int)-1)),())):Option (_ ⊕ (Int×Int×Int×Int×Int×Int×Unit)))else some (.inl ((18446744073709551608:Int),s,(4294967295:Int),(4294967288:Int),(d:Int),q1,(wrap .u64 ((r:Int)+4294967295)),(u:Int),(wrap .u64 ((q:Int)-1)),()))) =
   (if 4294967296≤r+4294967295 then some (.inr ((18446744073709551608:Int),s,(d:Int),q1,(u:Int),((q-1:Nat):Int),()))else some (.inl ((18446744073709551608:Int),s,(4294967295:Int),(4294967288:Int),(d:Int),q1,((r+4294967295:Nat):Int),(u:Int),((q-1:Nat):Int),()))):=fun b=>by
  rw[k,a.resolve_right b,f];exact b7k ..
 by_cases h1:4294967296≤q
 have c0:decide ((q:Int)≥(4294967296:Int))=true:=decide_eq_true (by omega);rw[if_pos (.inl h1),←tail (by omega)];unfold a2e;dsimp only;rw[c0,cT,oB];have c0:decide ((q:Int)≥(4294967296:Int))=false:=decide_eq_false (by omega);have i:wrap .u64 ((q:Int)*4294967288)=((q*4294967288:Nat):Int):=by rw[a0K (by omega)];omega
 have j:wrap .u64 (wrap .u64 ((4294967296:Int)*(r:Int))+(d:Int))=((4294967296*r+d:Nat):Int):=by rw[a0K (n:=4294967296*(r:Int)) (by omega),a0K (by omega)];omega
 by_cases h2:4294967296*r+d<q*4294967288
 have g:decide (wrap .u64 ((q:Int)*4294967288) > wrap .u64 (wrap .u64 ((4294967296:Int)*(r:Int))+(d:Int)))=true:=decide_eq_true (by omega);rw[if_pos (.inr h2),←tail (by omega)];unfold a2e;dsimp only;rw[c0,cF,g,cT,oB];have g:decide (wrap .u64 ((q:Int)*4294967288) > wrap .u64 (wrap .u64 ((4294967296:Int)*(r:Int))+(d:Int)))=false:=decide_eq_false (by omega);rw[if_neg (by unfold a9O;omega)];unfold a2e;dsimp only;rw[c0,cF,g,cF,oB]
theorem d4N{u d:Nat}{s q1:Int}(f:u<4294967295*4294967296+4294967288)(hd:d<4294967296):
  y0s a2e ((18446744073709551608:Int),s,(4294967295:Int),(4294967288:Int),(d:Int),q1,((u%4294967295:Nat):Int),(u:Int),((u / 4294967295:Nat):Int),())=some ((18446744073709551608:Int),s,(d:Int),q1,(u:Int),((b6j u d 4294967295 4294967288:Nat):Int),()):=by
 have h:u / 4294967295≤4294967297:=by omega
 have g:u%4294967295<4294967295:=a29 _ (by omega);unfold b6j
 revert h g
 generalize u / 4294967295=q;generalize u%4294967295=r;intro h g;have s0:=b7m (s:=s) (q1:=q1) (u:=u) hd h (b06 g)
 by_cases c1:a9O 4294967288 d q r
 ·rw[if_pos c1]at s0⊢
  by_cases c2:4294967296≤r+4294967295
  simp_all[a0E]
  ·rw[if_neg c2]at s0⊢;rw[a0F s0];have k:=b7m (s:=s) (q1:=q1) (u:=u) (q:=q-1) (r:=r+4294967295) hd (by omega) (by omega)
   by_cases c3:a9O 4294967288 d (q-1) (r+4294967295)
   all_goals simp_all[Nat.sub_sub,a0E]
 simp_all[a0E]
theorem d6r(n:Int):wrap .u64 n=n%18446744073709551616:=by rfl
theorem d3y{u d Q:Nat}(h:Q*18446744073709551608≤u*4294967296+d)(g:u*4294967296+d<Q*18446744073709551608+18446744073709551608):
  wrap .u64 (wrap .u64 (wrap .u64 ((u:Int)*4294967296)+(d:Int))-wrap .u64 ((Q:Int)*18446744073709551608))=(((u*4294967296+d)%18446744073709551608:Nat):Int):=by
 grind[d6r]
theorem c6D{u:Nat}(h:u<18446744073709551616):wrap .u64 ((u:Int)-wrap .u64 (((u / 4294967295:Nat):Int)*4294967295))=((u%4294967295:Nat):Int):=by
 grind[a0K]
theorem sh3(n:Nat):A0n .u64 (n:Int) 3=((n*8%18446744073709551616:Nat):Int):=by
 rfl
theorem d1H(lo:Nat):a2T (0,(lo:Int),(2305843009213693951:Int))=some (wrap .u64 (a21 (lo:Int) 2305843009213693951),((lo%2305843009213693951:Nat):Int)):=by
 rfl
theorem d6s:wrap .u64 3=3:=by rfl
theorem d4O:wrap .u64 (64-3)=((61:Nat):Int):=by rfl
theorem d6t:A0n .u64 2305843009213693951 3=18446744073709551608:=by rfl
theorem d6u:A0o .u64 18446744073709551608 32=4294967295:=by rfl
theorem d6v:bits .u64 .and 18446744073709551608 4294967295=4294967288:=by rfl
theorem d6w:((2305843009213693951:Int)==0)=false:=by rfl
theorem d6x:decide ((3:Int)<0)=false:=by rfl
theorem d6y:decide (((61:Nat):Int)<0)=false:=by rfl
theorem d6z:((4294967295:Int)==0)=false:=by rfl
theorem c9O{u d Q v:Nat}(hv:(u*4294967296+d)%18446744073709551608=v)(h:Q*18446744073709551608≤u*4294967296+d)(g:u*4294967296+d<Q*18446744073709551608+18446744073709551608):
  wrap .u64 (wrap .u64 (wrap .u64 ((u:Int)*4294967296)+(d:Int))-wrap .u64 ((Q:Int)*18446744073709551608))=(v:Int):=by
 simp_all[d3y]
theorem d2K{u:Nat}(h:u<18446744073709551616):wrap .u64 ((u / 4294967295:Nat):Int)=((u / 4294967295:Nat):Int):=a0K (by omega)
theorem d3z{hi lo u d e v r:Nat}(hv:(u*4294967296+d)%18446744073709551608=v)(l:(v*4294967296+e)%18446744073709551608=r)(x:hi≠0)(y:hi<2305843009213693951)(m:hi*8+lo / 2305843009213693952=u)(hd:lo*8%18446744073709551616 / 4294967296=d)(i:lo*8%18446744073709551616%4294967296=e)(z:lo<18446744073709551616)
  (h:u<4294967295*4294967296+4294967288)(f:d<4294967296)(a:e<4294967296):
  ∃q:Int,a2T ((hi:Int),(lo:Int),(2305843009213693951:Int))=some (q,((r / 8:Nat):Int)):=by
 have c0:((hi:Int)==0)=false:=by simp_all
 have b:decide ((2305843009213693951:Int)≤(hi:Int))=false:=decide_eq_false (by omega);have c:hi*8%18446744073709551616=hi*8:=by omega
 have j:bits .u64 .or ((hi*8:Nat):Int) (A0o .u64 (lo:Int) ((61:Nat):Int))=(u:Int):=by
  rw[c4A (k:=61) (by omega),show 2^61=2305843009213693952 from rfl,d9y (by omega) (by omega),m]
 have o:=d4M (u0:=e) (s:=3) h f;have A:=c9O hv (c8t rfl h f).1 (c8t rfl h f).2.1;have g:v<4294967295*4294967296+4294967288:=by grind
 have l1:=d4N (s:=3) (q1:=((b6j u d 4294967295 4294967288:Nat):Int)) g a;have B:=c9O l (c8t rfl g a).1 (c8t rfl g a).2.1;have p:=c6D (u:=u) (a22 h (by simp));have r2:=c6D (u:=v) (a22 g (by simp));have t:wrap .u64 ((u / 4294967295:Nat):Int)=((u / 4294967295:Nat):Int):=d2K (a22 h (by simp));have w:wrap .u64 ((v / 4294967295:Nat):Int)=((v / 4294967295:Nat):Int):=d2K (a22 g (by simp));have q1:a21 (u:Int) 4294967295=((u / 4294967295:Nat):Int):=rfl;have C:a21 (v:Int) 4294967295=((v / 4294967295:Nat):Int):=rfl;have g8:∀n:Nat,A0o .u64 (n:Int) 3=((n / 8:Nat):Int):=fun n=>c4A (k:=3) (by omega);unfold a2T;dsimp only;rw[d6w,cF,b,cF,c0,cF,d4L,oB,d6s,d6x,cF,cF,d4O,d6y,cF,cF,d6t,d6u,d6z,cF,d6v,sh3 hi,c,j,sh3 lo,c9N,hd,d2J,i,q1,t,p,o,oB];simp_all
theorem d3A{hi lo:Nat}(h:hi<prm)(g:lo<18446744073709551616):∃q:Int,a2T ((hi:Int),(lo:Int),(2305843009213693951:Int))=some (q,(((hi*18446744073709551616+lo)%prm:Nat):Int)):=by
 by_cases h0:hi=0
 subst h0;rw[Nat.zero_mul,Nat.zero_add];exact⟨_,d1H lo⟩;rw[←d4J hi lo];exact d3z rfl rfl h0 h rfl rfl rfl g (d1F h g) (a95 (Nat.lt_of_lt_of_le (a29 _ (by omega)) (by omega))) (a29 _ (by omega))
theorem b6y{a b c:Nat}(g:a<prm)(hb:b<prm)(f:c≤prm):a5V ((a:Int),(b:Int),(c:Int))=some (((a*b+c)%prm:Nat):Int):=by
 have hf:=c9M g hb f;unfold prm at g hb f hf;have j:=d1G (a:=a) (b:=b) (by omega) (by omega);have i:a9d (((a*b%18446744073709551616:Nat):Int),(c:Int),(0:Int))=some ((((a*b%18446744073709551616+c)%18446744073709551616:Nat):Int),(((a*b%18446744073709551616+c) / 18446744073709551616:Nat):Int)):=rfl;obtain⟨hi,h⟩:∃hi,(a*b+c) / 18446744073709551616=hi:=⟨_,rfl⟩;rw[h]at hf;have d:wrap .u64 (((a*b / 18446744073709551616:Nat):Int)+((a*b%18446744073709551616+c) / 18446744073709551616:Nat))=(hi:Int):=by
  grind[a0K]
 obtain⟨q,k⟩:=d3A (hi:=hi) (lo:=(a*b%18446744073709551616+c)%18446744073709551616) (by unfold prm;omega) (by omega);have e:hi*18446744073709551616+(a*b%18446744073709551616+c)%18446744073709551616=a*b+c:=by omega
 rw[e]at k;have t:a06 (hi:Int) 2305843009213693951=(hi:Int):=by
  grind
 unfold a5V a9e;simp_all
theorem b7n(l:List Int)(n i:Int):∀(j k:Nat)(s:Int),k+j=8→y0s a7N (s,l,n,i,(k:Int),())=some (rep e32 j s,l,n,i,())
 |0,k,s,h=>by
  obtain rfl:k=8:=by omega
  rfl
 |j+1,k,s,h=>by
  have d:decide ((k:Int)<8)=true:=by grind
  rw[a0F (s':=(e32 s,l,n,i,((k+1:Nat):Int),())) (by
   simp only[a7N,d,cT,a0C (show k<1000000 by omega),e32]
   grind)]
  exact b7n l n i j (k+1) (e32 s) (by omega)
theorem b9j{l:List Int}(k:short l):∀(rest done:List Int)(s:BitVec 32),done++rest=l→(∀b∈rest,0≤b∧b<256)→
  y0s a5d (((s.toNat:Nat):Int),l,(l.length:Int),(done.length:Int),())=some ((((d4F s (rest.map (a01 32))).toNat:Nat):Int),())
 | [],done,s,hd,_=>by
  obtain rfl:done=l:=by simp_all
  exact a0E (by simp only[a5d,dge,cF];rfl)
 |x::rest,done,s,hd,hb=>by
  have g:done.length<l.length:=by grind
  have a:m0k l (done.length:Int)=some x:=by grind[a0D]
  have c:=hb x (by simp);have e:bits .u32 .xor ((s.toNat:Nat):Int) (wrap .u32 x)=(((s ^^^ a01 32 x).toNat:Nat):Int):=by
   rw[←c8r]
   grind[a07,wrap,IntKind.bits]
  have f:=b7n l (l.length:Int) (done.length:Int) 8 0 (bits .u32 .xor ((s.toNat:Nat):Int) (wrap .u32 x)) rfl;rw[e,c4z]at f;rw[a0F (s':=((((d1C s (a01 32 x)).toNat:Nat):Int),l,(l.length:Int),(((done++[x]).length:Nat):Int),())) (by
   simp only[a5d,dlt g,cT,a,oB,e]
   erw[f]
   simp only[oB,a0C (a22 g k)];simp[d1C])]
  exact b9j k rest (done++[x]) _ (by simp_all) (fun b h=>hb b (by grind))
theorem b6k{l:List Int}(g:short l)(hb:∀b∈l,0≤b∧b<256):a4T l=some ((a4p l:Nat):Int):=by
 have h:=b9j g l [] 0xffffffff#32 rfl hb;rw[a03]at h;unfold a4T
 erw[h]
 simp only[oB];rw[show IntKind.max .u32=(((0xffffffff#32).toNat:Nat):Int)from rfl,c8r];rfl
theorem b9k{l:List Int}(k:short l):∀(rest done:List Int)(h:Nat),done++rest=l→h<prm→(∀b∈rest,0≤b∧b<256)→
  y0s a8c ((h:Int),l,(l.length:Int),(done.length:Int),())=some (((prs h (rest.map a23):Nat):Int),())
 | [],done,h,hd,_,_=>by
  obtain rfl:done=l:=by simp_all
  exact a0E (by simp only[a8c,dge,cF];rfl)
 |x::rest,done,h,hd,hh,hb=>by
  have g:done.length<l.length:=by grind
  have d:m0k l (done.length:Int)=some x:=by grind[a0D]
  have i:=hb x (by simp);have e:wrap .u64 ((wrap .u64 x)+(1:Int))=((x.toNat+1:Nat):Int):=by grind[a0K]
  have f:=b6y (a:=h) (b:=1000003) (c:=x.toNat+1) hh (by decide) (by unfold prm;omega);rw[a0F (s':=((((h*1000003+(x.toNat+1))%prm:Nat):Int),l,(l.length:Int),(((done++[x]).length:Nat):Int),())) (by
   simp only[a8c,dlt g,cT,d,oB,e]
   erw[f]
   simp[a0C (a22 g k)])]
  exact b9k k rest (done++[x]) _ (by simp_all) (a29 _ (by decide)) (fun b h=>hb b (by grind))
theorem d1I{l:List Int}(g:short l)(hb:∀b∈l,0≤b∧b<256):b0M l=some ((prI l:Nat):Int):=by
 have h:=b9k g l [] 0 rfl (by decide) hb;unfold b0M
 erw[h]
 rfl
theorem b5d:∀(k n p s:Nat),n<2^k→n<4611686018427387904→p<prm→s<prm→y0s a8b ((n:Int),(p:Int),(s:Int),())=some (((pwr k n p s:Nat):Int),())
 |0,n,p,s,hn,_,_,_=>by
  obtain rfl:n=0:=by omega
  rfl
 |k+1,n,p,s,hn,hn2,hp,hs=>by
  by_cases h0:n=0
  subst h0;rfl;have d:decide ((n:Int) > 0)=true:=by grind
  have f:a06 (n:Int) 2=((n%2:Nat):Int):=rfl;have e:wrap .i64 (a21 (n:Int) 2)=((n / 2:Nat):Int):=by rw[show a21 (n:Int) 2=((n / 2:Nat):Int)from rfl,a0A (by omega)]
  have g:=b6y (c:=0) hs hs (by simp);have h:=b6y (c:=0) hp hs (by simp);have a:n / 2<2^k:=by omega
  simp only[a79,nZ]at g h;have m:=a29 (s*s) (show 0<prm by decide);rw[pwr,if_neg h0]
  by_cases h1:n%2=1
  rw[if_pos h1,a0F (s':=(((n / 2:Nat):Int),((p*s%prm:Nat):Int),((s*s%prm:Nat):Int),())) (by
   simp only[a8b,d,cT,f,h1,show(((1:Nat):Int)==1)=true from rfl];simp_all)]
  exact b5d k _ _ _ a (by omega) (a29 _ (by decide)) m;have b:n%2=0:=by omega
  rw[if_neg h1,a0F (s':=(((n / 2:Nat):Int),(p:Int),((s*s%prm:Nat):Int),())) (by
   simp only[a8b,d,cT,f,b,show(((0:Nat):Int)==1)=false from rfl,cF,oB];simp_all)]
  exact b5d k _ _ _ a (by omega) hp m
theorem d3B{a b n:Nat}(f:a<prm)(hb:b<prm)(h:n<4611686018427387904):b1I ((a:Int),(b:Int),(n:Int))=some ((((a*(1000003^n%prm)+b)%prm:Nat):Int),true):=by
 have hp:=b5d 62 n 1 1000003 h h (by decide) (by decide);rw[d4E 62 n 1 1000003 h (by decide),Nat.one_mul]at hp;have j:=b6y (c:=b) f (a29 (1000003^n) (show 0<prm by decide)) (a68 hb);unfold prm at f hb;have k:decide ((a:Int)≥(2305843009213693951:Int))=false:=by grind
 have d:decide ((b:Int)≥(2305843009213693951:Int))=false:=by grind
 have e:decide ((n:Int)<(0:Int))=false:=by simp
 have i:v0r (n:Int) 0=(n:Int):=by rfl
 have g:b0L (n:Int)=some ((1000003^n%prm:Nat):Int):=by
  simp_all[b0L]
 simp only[b1I,k,d,e,cF,oB,g];simp_all
theorem c4B(b:a1k)(N:Int){i:Nat}:∀(rest done:List (List Int)) (out:List Int),done++rest=b.2.1→b.2.1.length≤8→(∀r∈rest,i<r.length)→out.length+rest.length<1000000→
  y0s a6Y ((i:Int),N,(i:Int),b.2.1,(b.2.1.length:Int),(done.length:Int),out,b,())=some (N,(i:Int),out++rest.map (fun r=>r.getD i 0),b,())
 | [],done,out,hd,_,_,_=>by
  simp_all[a0E,a6Y]
 |r::rest,done,out,hd,h8,hr,ho=>by
  have g:done.length<b.2.1.length:=by grind
  have f:m0k b.2.1 (done.length:Int)=some r:=by grind[a0D]
  have k:=hr r (by simp);have h:m0k r (i:Int)=some (r.getD i 0):=by simp_all[a0D]
  simp at ho;rw[a0F (s':=((i:Int),N,(i:Int),b.2.1,(b.2.1.length:Int),(((done++[r]).length:Nat):Int),out++[r.getD i 0],b,())) (by
   simp only[a6Y,dlt g,cT,f,h,oB,a0Q (show out.length+1<2147483648 by omega),a0C (show done.length<1000000 by omega)]
   simp)]
  rw[c4B b N rest (done++[r]) _ (by simp_all) h8 (fun q a=>hr q (by grind)) (by grind)]
  simp
theorem c4C{b:a1k}(hb:a3k b):a7v b=some (wvB b):=by
 obtain⟨g1,g2,g3,g4,g5,g6,g7⟩:=id hb;have hlen:∀r∈b.2.1,r.length=a1a b:=fun r hr=>by
  simp_all
 have hw:∀i,i≤4096→(wv i b.2.1).length≤32768:=fun i hi=>by
  rw[c9I]
  calc i*b.2.1.length≤4096*8:=a04 hi g4
   _=32768:=rfl
 have h:=a0X (f:=a6Z) (fun i=>(((a1a b:Nat):Int),(i:Int),wv i b.2.1,b,())) (a1a b) (b:=(wv (a1a b) b.2.1,())) (fun i hi=>by
  have h0:=c4B b ((a1a b:Nat):Int) (i:=i) b.2.1 [] (wv i b.2.1) rfl g4 (fun r hr=>by simp_all) (by grind);rw[a03]at h0;simp only[a6Z,dlt hi,cT]
  grind[a0C,wv,a36]) (by simp_all[a6Z])
 unfold a7v;simp[a8u,hb,a6H]
 erw[h]
 rfl
theorem c0J{b:a1k}:(wvB b).length=a1a b*b.2.1.length:=c9I _
theorem d3C{b:a1k}(hb:a3k b):(wvB b).all (fun x=>a1o x b.1)=true:=by
 obtain⟨g,f,k,a,c,d,e⟩:=hb;refine lA.2 fun x h=>?_
 unfold wvB wv at h
 grind
theorem d3D{b:a1k}(hb:a3k b):b0K b=some (a3F b.1 (wvB b),0):=by
 have hl:(wvB b).length≤1000000:=by
  rw[c0J]
  calc a1a b*b.2.1.length≤4096*8:=a04 hb.2.2.2.2.2.1 hb.2.2.2.1
   _≤1000000:=by simp
 unfold b0K;simp only[a8u,hb,decide_true,oB,bT,cF,c4C hb,c0G ⟨hb.1,hb.2.1⟩ hl (d3C hb)]
theorem b6l{b:a1k}(hb:a3k b){w:Int}(h:b.1=w)(d:List Int):a4E (((prI (a3F w d):Nat):Int),b)=some (((prI (a3F w (d++wvB b)):Nat):Int),true):=by
 subst h;have g:=c8m ⟨hb.1,hb.2.1⟩ (wvB b);have f:(wvB b).length≤4096*8:=by rw[c0J];exact a04 hb.2.2.2.2.2.1 hb.2.2.2.1
 have k:=d3B (b9i (a3F b.1 d)) (b9i (a3F b.1 (wvB b))) (n:=(a3F b.1 (wvB b)).length) (by omega);unfold a4E;simp only[d3D hb,oB,show((0:Int) != 0)=false from rfl,cF,d1I (show short (a3F b.1 (wvB b))by unfold short;omega) (c4q _ _),c8n,d3t];simp_all
theorem d1J(d:List Int)(x:Int){ch:Nat}(h:0<ch):(a2L d ch).set (d.length%ch) ((a2L d ch).getD (d.length%ch) []++[x])=a2L (d++[x]) ch:=by
 have k:=a29 d.length h;refine a62 (by simp[a2L]) fun i g f=>?_
 simp[a2L]at g;rw[List.getElem_set];simp_all[a2L,c9F]
theorem d3E{fm:a0L}(hf:a6F fm){ch:Nat}(k:fm.2.1=(ch:Int)){l:List Int}{n:Nat}(o:1≤n∧n≤4096)(e:l.length=n*ch)(a:l.all (fun x=>a1o x fm.2.2.1)=true):
  b0J (l,fm)=some (a8v fm.2.2.1 l ch,0):=by
 have g:1≤ch∧ch≤8:=by have:=hf.2.2.1;have:=hf.2.2.2.1;omega
 have F:l.length≤4096*8:=by rw[e];exact a04 o.2 g.2
 have p:1≤l.length:=by rw[e];exact Nat.mul_pos o.1 g.1
 have v:4≤fm.2.2.1∧fm.2.2.1≤24:=hf.2.2.2.2;have c0:((ch:Int)==0)=false:=by grind
 have h:=a0X (f:=a8a) (fun i=>(l,((l.length:Nat):Int),(i:Int),b2c,(fm.2.2.1,a2L (l.take i) ch,()),fm,())) l.length (b:=Sum.inl (b2c,a8v fm.2.2.1 l ch,())) (fun i hi=>by
  have t:a06 (i:Int) (ch:Int)=((i%ch:Nat):Int):=rfl;have u:=a29 i g.1;have j:∀d,(a2L d ch).length=ch:=fun d=>by simp[a2L]
  have q:decide ((0:Int)≤((i%ch:Nat):Int))=true:=decide_eq_true (a08 _);have w:a1o l[i] fm.2.2.1=true:=lA.1 a _ (a20 hi);have m:(l.take i).length=i:=by grind
  have s:((a2L (l.take i) ch).getD (i%ch) []).length≤32768:=by
   grind[a2L,b1s]
  have c:=d1J (l.take i) l[i] g.1;rw[m]at c;simp only[a8a,dlt hi,cT,a0D hi,oB,b3e v,w,bT,cF,k,c0,t,q,List.length_set,j,dlt u,a05,tN,a0Q (show((a2L (l.take i) ch).getD (i%ch) []).length+1<2147483648 by omega),beq_self_eq_true,Bool.and_true,a0C (show i<1000000 by omega)];simp_all) (by
  simp only[a8a,dge,cF,a32];rfl)
 have r:a2L ([]:List Int) ch=a09 ch []:=by
  refine a62 (by simp[a2L]) fun i D E=>?_
  simp[a2L,b1s]
 have q1:(((l.length:Nat):Int)==0)=false:=by grind
 have y:a06 ((l.length:Nat):Int) (ch:Int)=0:=by
  simp_all
 have z:wrap .i64 (a21 ((l.length:Nat):Int) (ch:Int))=(n:Int):=by
  rw[show a21 ((l.length:Nat):Int) (ch:Int)=((l.length / ch:Nat):Int)from rfl,e,a70 _ g.1,a0A (by omega)]
 have A:decide ((n:Int) > 4096)=false:=by grind
 have B:decide ((0:Int)≤(ch:Int))=true:=by simp
 have C:decide ((ch:Int)≤(ch:Int))=true:=by simp
 unfold b0J;simp only[a4G,hf,decide_true,oB,bT,cF,q1,k,c0,y,show((0:Int) != 0)=false from rfl,z,A,B,C,tN,a0Q (show ch<2147483648 by omega),a05,cT];simp only[List.take_zero,r]at h
 erw[h]
 rfl
theorem b4n{α:Type}(a:List α)(x:α)(b:List α):m0k (a++x::b) (a.length:Int)=some x:=by
 simp_all[a0D]
theorem b9l:∀(a b:List Pc)(st off:Nat),a4h st off (a++b)=a4h st off a++a4h (st+a1v a) (off+(a1b a).length) b
 | [],b,st,off=>by rfl
 |y::a,b,st,off=>by
  simp_all[a4h,b9l,a1v,a1b,a76]
theorem c4D{fm:a0L}{all:List Pc}(h:all.length≤256){t:c0I}(p:t.1=fm)(a:t.2.2.2.1=a4h 0 0 all):∀(rest done:List Pc),done++rest=all→a3G fm (a1v done) rest→(a1b done).length≤700800*done.length→a1v done≤64*done.length→
  y0s a8N (((a1v done:Nat):Int),(((a1b done).length:Nat):Int),((a2P fm done:Nat):Int),all.map (·.1),((all.map (·.1)).length:Int),(done.length:Int),done.map (·.2.2),done.map (·.2.1),t,()) =
   some (.inl (((a1v all:Nat):Int),((a2P fm all:Nat):Int),all.map (·.2.2),all.map (·.2.1),t,()))
 | [],done,hd,_,_,_=>by
  obtain rfl:done=all:=by simp_all
  simp_all[a0E,a8N]
 |x::rest,done,hd,hr,hb,hl=>by
  obtain⟨⟨u,d,v,e,j,y,l,m,z,b,c⟩,hr2⟩:=hr;have f:done.length<(all.map (·.1)).length:=by grind
  have k:all.length=done.length+(rest.length+1):=by grind
  have o:m0k (all.map (·.1)) (done.length:Int)=some x.1:=by
   grind[b4n]
  have g:m0k t.2.2.2.1 (done.length:Int)=some (((a1v done:Nat):Int),(((a1b done).length:Nat):Int),()):=by
   have:=b4n (a4h 0 0 done) (((a1v done:Nat):Int),(((a1b done).length:Nat):Int),()) (a4h (a1v done+a1a x.2.1) ((a1b done).length+x.2.2.length) rest)
   rw[b0Y]at this;rw[a,←hd,b9l];simp_all[a4h]
  have n:eqT (.pair (.int .i64) (.pair (.int .i64) (.pair (.int .i64) .unit))) x.1.2.2.1 t.1=true:=by simp_all[c4m]
  have q:=b6l l (w:=fm.2.2.1) m (a6j done);have n1:(x.1.1 != ((a1v done:Nat):Int))=false:=by simp_all
  have n2:∀i:Int,(i != i)=false:=fun i=>by simp
  have r:((0:Int) != 0)=false:=rfl;have s:wrap .i64 (((a1v done:Nat):Int)+((a1a x.2.1:Nat):Int))=((a1v (done++[x]):Nat):Int):=by grind[a5Q,a0A]
  have w2:wrap .i64 ((((a1b done).length:Nat):Int)+((x.2.2.length:Nat):Int))=(((a1b (done++[x])).length:Nat):Int):=by grind[a9v,a0A]
  rw[a0F (s':=(((a1v (done++[x]):Nat):Int),(((a1b (done++[x])).length:Nat):Int),((a2P fm (done++[x]):Nat):Int),all.map (·.1),((all.map (·.1)).length:Int),(((done++[x]).length:Nat):Int),(done++[x]).map (·.2.2),(done++[x]).map (·.2.1),t,())) (by
   simp only[a8N,dlt f,cT,o,oB];rw[n];simp only[bT,cF,oB,n1,g,n2,e,r,j]
   erw[q]
   simp only[oB,bT,cF,a19,a0Q (show done.length+1<2147483648 by omega),cT,d,s,w2,a0C (show done.length<1000000 by omega)]
   simp[a2P,b2x])]
  exact c4D h p a rest (done++[x]) (by simp_all) (by simp_all[a5Q]) (by grind[a9v]) (by grind[a5Q])
theorem c9P{fm:a0L}(hf:a6F fm){xs:List Pc}(b:a3G fm 0 xs)(g:xs.length≤256):a9r (mkT fm xs)=some (xs.map (·.2.2),xs.map (·.2.1),true):=by
 have h:=c4D g (t:=mkT fm xs) rfl rfl xs [] rfl b (by simp[a1b]) (by simp[a1v]);have a:a1w (mkT fm xs).1=some true:=by simp_all[a4G,mkT]
 have f:decide (((a00 (mkT fm xs).2.2.2.2.1:Nat):Int) > (4096:Int))=false:=by simp[mkT];omega
 have k:(((a00 (mkT fm xs).2.2.2.1:Nat):Int) != ((a00 (mkT fm xs).2.2.2.2.1:Nat):Int))=false:=by simp[mkT,b0Y]
 unfold a9r;simp[a,f,k]
 erw[h]
 simp_all[mkT]
theorem b6m{α:Type}(a:List α)(x d:α)(b:List α):(a++x::b).getD a.length d=x:=by
 rw[lD];simp
theorem c1C{fm:a0L}{all:List Pc}(h:all.length≤256)(t:c0I)(A:List Nat)(e:A.length=4):∀(rest done:List Pc)(st:Nat),done++rest=all→a3G fm st rest→
  y0s a8O (all.map (·.1),((all.map (·.1)).length:Int),(done.length:Int),all.map (·.2.2),asI (A++nsP done),t,())=some (all.map (·.2.2),asI (A++nsP all),t,())
 | [],done,st,hd,_=>by
  obtain rfl:done=all:=by simpa using hd
  exact a0E (by simp only[a8O,a19,dge,cF])
 |x::rest,done,st,hd,hr=>by
  obtain⟨⟨m,d,n,o,p,q,r,s,u,b,c⟩,hr2⟩:=hr;have k:done.length<(all.map (·.1)).length:=by rw[←hd];simp
  have g:done.length<(all.map (·.2.2)).length:=by rw[←hd];simp
  have j:m0k (all.map (·.1)) (done.length:Int)=some x.1:=by
   have:=b4n (done.map (·.1)) x.1 (rest.map (·.1))
   rw[a19]at this;rw[←hd,pA,a60];exact this
  have hp:(all.map (·.2.2)).getD done.length []=x.2.2:=by
   have:=b6m (done.map (·.2.2)) x.2.2 [] (rest.map (·.2.2))
   rw[a19]at this;rw[←hd,pA,a60];exact this
  have a:decide ((0:Int)≤(done.length:Int))=true:=decide_eq_true (a08 _);have i:done.length<all.length:=by rw[←hd];simp
  have f:(asI (A++nsP done)).length+2<2147483648:=by simp only[asI,a19,lN,b4m];omega
  have l:wrap .u64 ((x.2.2.length:Nat):Int)=((x.2.2.length:Nat):Int):=a0K (by omega);have w2:wrap .u64 ((a1a x.2.1:Nat):Int)=((a1a x.2.1:Nat):Int):=a0K (by omega);rw[a0F (s':=(all.map (·.1),((all.map (·.1)).length:Int),(((done++[x]).length:Nat):Int),all.map (·.2.2),asI (A++nsP (done++[x])),t,())) (by
   simp only[a8O,dlt k,dlt g,a,a05,cT,j,oB,a0Q f,tN,hp,l,d,w2,a0C (show done.length<1000000 by omega)];simp[d1E,asI])]
  exact c1C h t A e rest (done++[x]) _ (by simpa using hd) hr2
theorem c1D{all:List (List Int)}(g:all.length≤256)(h:∀p∈all,p.length≤700800):∀(rest done:List (List Int)) (out:List Int),done++rest=all→out.length+700800*rest.length≤190000000→
  y0s a8P ((all.length:Int),(done.length:Int),out,all,())=some (out++rest.flatten,())
 | [],done,out,hd,_=>by
  obtain rfl:done=all:=by simpa using hd
  rw[a0E (b:=(out,())) (by simp only[a8P,dge,cF])]
  simp
 |p::rest,done,out,hd,ho=>by
  have f:done.length<all.length:=by rw[←hd];simp
  have hp:all.getD done.length []=p:=by rw[←hd];exact b6m done p [] rest
  have a:=h p (by rw[←hd];simp);have k:decide ((0:Int)≤(done.length:Int))=true:=decide_eq_true (a08 _);simp only[lC]at ho;rw[a0F (s':=((all.length:Int),(((done++[p]).length:Nat):Int),out++p,all,())) (by
   simp only[a8P,dlt f,k,a05,cT,tN,hp,a0Q (show out.length+p.length<2147483648 by omega),a0C (show done.length<1000000 by omega)]
   simp)]
  rw[c1D g h rest (done++[p]) (out++p) (by simpa using hd) (by simp only[lN];omega)]
  simp
theorem b9m{fm:a0L}:∀{xs:List Pc}{st:Nat},a3G fm st xs→∀p∈xs.map (·.2.2),p.length≤700800
 | [],_,_,p,hp=>by simp at hp
 |x::xs,st,h,p,hp=>by
  rcases mC.1 hp with rfl|hp;exact h.1.2.2.2.2.2.2.2.2.2.2;exact b9m h.2 p hp
theorem b7o:∀(l:List Nat),(∀n∈l,n<9223372036854775808)→∀b∈l.flatMap a0J,0≤b∧b<256:=fun l h b hb=>by
 obtain⟨n,g,hb⟩:=a77.1 hb;exact b8W 8 n (by rw[show(128:Nat)^(8+1)=9223372036854775808 from by decide];exact h n g) b hb
theorem c5X{fm:a0L}(hf:a6F fm){xs:List Pc}(h:a3G fm 0 xs)(f:xs.length≤256):∀b∈a1u fm xs,0≤b∧b<256:=fun b hb=>by
 unfold a1u at hb;rcases mA.1 hb with hb|hb;simp only[b7V,mC,a61,or_false]at hb;omega;rcases mA.1 hb with hb|hb;exact b7o _ (fun n g=>a22 (a7L hf h f n g) (by decide)) b hb;exact b5b _ _ b hb
theorem c9Q{fm:a0L}(hf:a6F fm){xs:List Pc}(g:a3G fm 0 xs)(h:xs.length≤256):b1J (mkT fm xs)=some (a7A fm xs,0):=by
 obtain⟨r,s,t,u,v,w⟩:=id hf;have b:=c1C h (mkT fm xs) [fm.1.toNat,fm.2.1.toNat,fm.2.2.1.toNat,xs.length] rfl xs [] 0 rfl g;have hp:=b6c (ns:=a3S fm xs) (fun n i=>a22 (a7L hf g h n i) (by decide)) (by simp only[a3S,lN,b4m,lC,a03];omega);have hv:=b3D (a3S fm xs) fun n e=>a22 (a7L hf g h n e) (by decide);have y:(a3S fm xs).length≤516:=by simp only[a3S,lN,b4m,lC,a03];omega
 have x:=c1B hf g h;have d:=b6h (n:=a2P fm xs) (k:=8) (by have:=b9i (a3F fm.2.2.1 (a6j xs));unfold prm at this;unfold a2P;omega) (by omega);have c:=b6h (n:=a4p (a1u fm xs)) (k:=4) (by have:=b5c (a1u fm xs);omega) (by omega);have j:=b6k (l:=a1u fm xs) (by unfold short;omega) (c5X hf g h);have hb:=c1D (all:=xs.map (·.2.2)) (by simpa using h) (b9m g) (xs.map (·.2.2)) [] (a1u fm xs++a7P 4 (a4p (a1u fm xs))) rfl (by simp only[lN,a19,a9N];omega);have m:wrap .u64 fm.1=((fm.1.toNat:Nat):Int):=by rw[a0K (by omega)];omega
 have w2:wrap .u64 fm.2.1=((fm.2.1.toNat:Nat):Int):=by rw[a0K (by omega)];omega
 have o:wrap .u64 fm.2.2.1=((fm.2.2.1.toNat:Nat):Int):=by rw[a0K (by omega)];omega
 have p:wrap .u64 ((a00 (xs.map (·.1)):Nat):Int)=((xs.length:Nat):Int):=by rw[a19,a0K (by omega)]
 have q:wrap .u64 ((a4p (a1u fm xs):Nat):Int)=((a4p (a1u fm xs):Nat):Int):=a0K (by have:=b5c (a1u fm xs);omega);unfold b1J;rw[c9P hf g h];simp only[oB,bT,cF,mkT,m,w2,o,p]
 erw[b]
 simp only[oB]
 erw[hp]
 simp only[oB,a0Q (show 4+((a3S fm xs).flatMap a0J).length<2147483648 by omega),cT]
 erw[d]
 have a:b09 (b09 ([(75:Int),(78:Int),(83:Int),(68:Int)]:List Int) ((a3S fm xs).flatMap a0J)) (a7P 8 (a2P fm xs))=a1u fm xs:=aA ..;have f:(b09 ([(75:Int),(78:Int),(83:Int),(68:Int)]:List Int) ((a3S fm xs).flatMap a0J)).length+(a7P 8 (a2P fm xs)).length<2147483648:=by
  have:=congrArg a00 a
  simp only[a54,lN]at this⊢;omega
 simp only[oB,a0Q f,cT,a,j,q]
 erw[c]
 simp only[oB,a0Q (show(a1u fm xs).length+(a7P 4 (a4p (a1u fm xs))).length<2147483648 by rw[a9N];omega),cT]
 erw[hb]
 simp only[oB,a7A,a1b,List.flatMap_def,aA]
theorem b6n{all:List a1k}(f:all.length≤256):∀(rest done:List a1k)(out:List Int),done++rest=all→(∀b∈rest,a3k b)→out.length+32768*rest.length≤9000000→
  y0s a5J ((all.length:Int),(done.length:Int),out,all,())=some (out++rest.flatMap wvB,())
 | [],done,out,hd,_,_=>by
  obtain rfl:done=all:=by simpa using hd
  rw[a0E (b:=(out,())) (by simp only[a5J,dge,cF])]
  simp
 |p::rest,done,out,hd,hb,ho=>by
  have k:done.length<all.length:=by rw[←hd];simp
  have hp:all.getD done.length ((0:Int),([]:List (List Int)),())=p:=by rw[←hd];exact b6m done p _ rest
  have g:=hb p (by simp);have c:(wvB p).length≤4096*8:=by rw[c0J];exact a04 g.2.2.2.2.2.1 g.2.2.2.1
  have a:decide ((0:Int)≤(done.length:Int))=true:=decide_eq_true (a08 _);simp only[lC]at ho;rw[a0F (s':=((all.length:Int),(((done++[p]).length:Nat):Int),out++wvB p,all,())) (by
   simp only[a5J,dlt k,a,a05,cT,tN,hp,c4C g,oB,a0Q (show out.length+(wvB p).length<2147483648 by omega),a0C (show done.length<1000000 by omega)]
   simp)]
  rw[b6n f rest (done++[p]) (out++wvB p) (by simpa using hd) (fun b h=>hb b (by simp[h])) (by simp only[lN];omega)]
  simp
theorem c4E{fm:a0L}:∀{xs:List Pc}{st:Nat},a3G fm st xs→∀b∈xs.map (·.2.1),a3k b
 | [],_,_,p,hp=>by simp at hp
 |x::xs,st,h,p,hp=>by
  rcases mC.1 hp with rfl|hp;exact h.1.2.2.2.2.2.2.1;exact c4E h.2 p hp
theorem c8u{fm:a0L}(hf:a6F fm){xs:List Pc}(f:a3G fm 0 xs)(g:xs.length≤256):a8f (mkT fm xs)=some (a6j xs,0):=by
 have h:=b6n (all:=xs.map (·.2.1)) (by simpa using g) (xs.map (·.2.1)) [] [] rfl (c4E f) (by simp;omega);unfold a8f;rw[c9P hf f g];simp only[oB,bT,cF]
 erw[h]
 simp[a6j,List.flatMap_map]
theorem d3F{P A R:List Int}(b:(P++(A++R)).length<1000000000):a1Q (ord P (A++R),(A.length:Int))=some (A,ord (P++A) R):=by
 simp at b;have c:v0r (A.length:Int) 0=(A.length:Int):=by rfl
 have d:wrap .i64 (((P++(A++R)).length:Int)-(P.length:Int))=((A++R).length:Int):=by
  grind[a0A]
 have h:decide ((A.length:Int) > ((A++R).length:Int))=false:=by grind
 have w2:wrap .i64 ((P.length:Int)+(A.length:Int))=(((P++A).length:Nat):Int):=by
  grind[a0A]
 have g:decide ((0:Int)≤(((P++A).length:Nat):Int))=true:=by rfl
 have f:decide ((((P++A).length:Nat):Int)≤((P++(A++R)).length:Int))=true:=by simp_all
 have k:decide ((0:Int)≤(P.length:Int))=true:=by simp
 have a:decide ((P.length:Int)≤(((P++A).length:Nat):Int))=true:=by grind
 have e:a49 P.length (a40 (P++A).length (P++(A++R)))=A:=by
  grind
 unfold a1Q a1F ord;simp only[show((0:Int) != 0)=false from rfl,cF,oB,c,d,h,w2,g,f,k,a,a05,cT,tN,e,a0Q (show A.length<2147483648 by omega),aA]
theorem c4F{all:List Int}(a:all.length≤8)(z:List Int×(Int×Int×Unit)):∀(rest done:List Int)(n:Nat),done++rest=all→(∀b∈rest,0≤b∧b<256)→n<256^done.length→
  y0s a3O ((n:Int),(all.length:Int),(done.length:Int),all,z,())=some (((b3T n rest:Nat):Int),z,())
 | [],done,n,hd,_,_=>by
  obtain rfl:done=all:=by simp_all
  exact a0E (by simp only[a3O,dge,cF];rfl)
 |x::rest,done,n,hd,hb,hn=>by
  have g:done.length<all.length:=by grind
  have hp:all.getD done.length 0=x:=by grind
  have d:=hb x (by simp);have f:decide ((0:Int)≤(done.length:Int))=true:=decide_eq_true (a08 _);have c:256^done.length≤256^7:=a26 (by omega) (by omega);have k:(256:Nat)^7=72057594037927936:=by rfl
  have w:wrap .u64 ((wrap .u64 ((n:Int)*(256:Int)))+(wrap .u64 x))=((n*256+x.toNat:Nat):Int):=by
   grind[a0K]
  rw[a0F (s':=(((n*256+x.toNat:Nat):Int),(all.length:Int),(((done++[x]).length:Nat):Int),all,z,())) (by
   simp only[a3O,dlt g,f,a05,cT,tN,hp,w,a0C (show done.length<1000000 by omega)]
   simp)]
  exact c4F a z rest (done++[x]) _ (by simp_all) (fun b h=>hb b (by grind)) (by grind)
theorem c6E{P A R:List Int}{k:Nat}(f:A.length=k)(g:k≤8)(hb:∀b∈A,0≤b∧b<256)(a:(P++(A++R)).length<1000000000):a3B (ord P (A++R),(k:Int))=some (((b3T 0 A:Nat):Int),ord (P++A) R):=by
 subst f;have h:=c4F g (ord (P++A) R) A [] 0 rfl hb (by simp)
 grind[a1G,b1d,b2y,a3B,d3F]
@[reducible] def b6z:Type:=a0L×(List Int×(List Int×(Int×(Int×(Int×Unit)))))
def a3H(xs:List Pc):List Int:=xs.map fun x=>((x.2.2.length:Nat):Int)
def a4q(xs:List Pc):List Int:=xs.map fun x=>((a1a x.2.1:Nat):Int)
def b5e(fm:a0L)(xs:List Pc)(pr bg:Nat):b6z:=(fm,a3H xs,a4q xs,((a1v xs:Nat):Int),(pr:Int),(bg:Int),())
def b7W:b6z:=((0,0,0,()),[],[],0,0,0,())
theorem b7p{all:List Pc}(h:all.length≤256)(x:List Int)(fm:a0L)(z:b6z)(u:Int×(Int×Int×Unit)){R:List Int}:∀(rest done:List Pc)(P:List Int)(st:Nat),done++rest=all→a3G fm st rest→
  (P++((nsP rest).flatMap a0J++R)).length<1000000000→
  y0s a5F (x,(all.length:Int),(done.length:Int),z,(fm,a3H done,a4q done,u),ord P ((nsP rest).flatMap a0J++R),()) =
   some (x,z,(fm,a3H all,a4q all,u),ord (P++(nsP rest).flatMap a0J) R,())
 | [],done,P,st,hd,_,_=>by
  obtain rfl:done=all:=by simp_all
  simp_all[a0E,a5F,nsP]
 |y::rest,done,P,st,hd,hr,hl=>by
  obtain⟨⟨i,j,l,m,o,p,q,r,s,a,b⟩,hr2⟩:=hr;have k:done.length<all.length:=by grind
  have e:(nsP (y::rest)).flatMap a0J++R=a0J y.2.2.length++(a0J (a1a y.2.1)++((nsP rest).flatMap a0J++R)):=by simp[nsP]
  rw[e]at hl⊢;have g:=a1L hl;have f:=a1L g;have n1:=a2U (n:=y.2.2.length) (most:=1048704) (by omega) (by omega) hl;have n2:=a2U (n:=a1a y.2.1) (most:=4096) (by omega) (by omega) g;have c:wrap .i64 ((y.2.2.length:Nat):Int)=((y.2.2.length:Nat):Int):=a0A (by omega);have w2:wrap .i64 ((a1a y.2.1:Nat):Int)=((a1a y.2.1:Nat):Int):=a0A (by omega);have d:wrap .u64 ((done.length:Int)+1)=(((done++[y]).length:Nat):Int):=by grind[a0K]
  have l1:(a3H done).length=done.length:=by simp[a3H]
  have l2:(a4q done).length=done.length:=by simp[a4q]
  rw[a0F (s':=(x,(all.length:Int),(((done++[y]).length:Nat):Int),z,(fm,a3H (done++[y]),a4q (done++[y]),u),ord ((P++a0J y.2.2.length)++a0J (a1a y.2.1)) ((nsP rest).flatMap a0J++R),())) (by
   simp only[a5F,dlt k,cT,n1,n2,oB,l1,l2,a0Q (show done.length+1<2147483648 by omega),c,w2,d];simp[a3H,a4q])]
  rw[b7p h x fm z u rest (done++[y]) _ _ (by simp_all) hr2 f];simp[nsP]
theorem c4G{all:List Pc}(h:all.length≤256)(fm:a0L)(z:b6z)(v:List Int)(u:Int×(Int×Unit)):∀(rest done:List Pc)(st:Nat),done++rest=all→a3G fm st rest→a1v done≤64*done.length→
  y0s a5G ((all.length:Int),(done.length:Int),z,(fm,v,a4q all,((a1v done:Nat):Int),u),())=some (.inl (z,(fm,v,a4q all,((a1v all:Nat):Int),u),()))
 | [],done,st,hd,_,_=>by
  obtain rfl:done=all:=by simp_all
  simp_all[a0E,a5G]
 |y::rest,done,st,hd,hr,ho=>by
  obtain⟨⟨i,j,l,m,n,o,d,p,q,b,c⟩,hr2⟩:=hr;have f:done.length<all.length:=by grind
  have g:done.length<(a4q all).length:=by simp_all[a4q]
  have hp:(a4q all).getD done.length 0=((a1a y.2.1:Nat):Int):=by
   grind[a4q]
  have k:=d.2.2.2.2.1;have e:(((a1a y.2.1:Nat):Int)==0)=false:=by grind
  have a:decide ((0:Int)≤(done.length:Int))=true:=decide_eq_true (a08 _);have w:wrap .i64 (((a1v done:Nat):Int)+((a1a y.2.1:Nat):Int))=((a1v (done++[y]):Nat):Int):=by grind[a5Q,a0A]
  rw[a0F (s':=((all.length:Int),(((done++[y]).length:Nat):Int),z,(fm,v,a4q all,((a1v (done++[y]):Nat):Int),u),())) (by
   simp only[a5G,dlt f,dlt g,a,a05,cT,tN,hp,e,cF,w,a0C (show done.length<1000000 by omega)]
   simp)]
  exact c4G h fm z v u rest (done++[y]) _ (by simp_all) hr2 (by grind[a5Q])
theorem c5Y{fm:a0L}(hf:a6F fm){xs:List Pc}(e:a3G fm 0 xs)(h:xs.length≤256){A C R:List Int}(x:A.length=8)(bA:∀b∈A,0≤b∧b<256)(M:C.length=4)(E:∀b∈C,0≤b∧b<256)(hR:R.length≤190000000)
  {H:List Int}(p:H=b7V++((a3S fm xs).flatMap a0J++A)):
  a5H (H++(C++R))=some (if a4p H=b3T 0 C then(b5e fm xs (b3T 0 A) (H.length+4),0)else(b7W,5)):=by
 obtain⟨f1,f2,f3,f4,f5,f6⟩:=id hf;have hv:=b3D (a3S fm xs) fun n u=>a22 (a7L hf e h n u) (by simp);have hl:(a3S fm xs).length≤516:=by grind[a3S,b4m]
 have F:∀b∈H,0≤b∧b<256:=fun b hb=>by
  rw[p]at hb;rcases mA.1 hb with hb|hb;simp[b7V]at hb;omega;rcases mA.1 hb with hb|hb;exact b7o _ (fun n u=>a22 (a7L hf e h n u) (by simp)) b hb;simp_all
 have a:H.length=4+((a3S fm xs).flatMap a0J).length+8:=by grind[b7V]
 have Q:=b6k (l:=H) (by unfold short;omega) F;have w:(a3S fm xs).flatMap a0J=a0J fm.1.toNat++(a0J fm.2.1.toNat++(a0J fm.2.2.1.toNat++(a0J xs.length++(nsP xs).flatMap a0J))):=by rfl
 obtain⟨V,N⟩:∃V,(a3S fm xs).flatMap a0J=V:=⟨_,rfl⟩;rw[N]at hv a w p;have ex:H++(C++R)=75::78::83::68::(V++(A++(C++R))):=by rw[p];simp[b7V]
 have g:(V++(A++(C++R))).length<1000000000:=by grind
 have y:([]++(a0J fm.1.toNat++(a0J fm.2.1.toNat++(a0J fm.2.2.1.toNat++(a0J xs.length++((nsP xs).flatMap a0J++(A++(C++R)))))))).length<1000000000:=by simp_all
 have z:=a1L y;have B:=a1L z;have D:=a1L B;have T:=a1L D;have n1:=a2U (n:=fm.1.toNat) (most:=1048576) (by omega) (by omega) y;have n2:=a2U (n:=fm.2.1.toNat) (most:=8) (by omega) (by omega) z;have U:=a2U (n:=fm.2.2.1.toNat) (most:=24) (by omega) (by omega) B;have X:=a2U (n:=xs.length) (most:=4096) (by omega) (by omega) D;have w1:wrap .i64 ((fm.1.toNat:Nat):Int)=fm.1:=by grind[a0A]
 have w2:wrap .i64 ((fm.2.1.toNat:Nat):Int)=fm.2.1:=by grind[a0A]
 have w3:wrap .i64 ((fm.2.2.1.toNat:Nat):Int)=fm.2.2.1:=by grind[a0A]
 have f:=b7p h (H++(C++R)) fm b7W (0,0,0,()) xs [] _ 0 rfl e T;have L:([]++a0J fm.1.toNat++a0J fm.2.1.toNat++a0J fm.2.2.1.toNat++a0J xs.length)++(nsP xs).flatMap a0J=V:=by simp_all
 rw[L]at f;have Y:=c6E (P:=V) x (by omega) bA g;have Z:=c6E (P:=V++A) M (by omega) E (a1L g);have k:wrap .i64 (((V++(A++(C++R))).length:Int)-(V.length:Int))=((A++(C++R)).length:Int):=by
  simp only[lN]at g⊢;rw[a0A (by omega)];omega
 have j:decide (((A++(C++R)).length:Int)<12)=false:=by grind
 have q:wrap .i64 ((4:Int)+(((V++A).length:Nat):Int))=((H.length:Nat):Int):=by
  rw[a];simp only[lN,x];rw[a0A (by omega)];rfl
 have m:decide ((0:Int)≤((H.length:Nat):Int))=true:=decide_eq_true (a08 _);have o:decide (((H.length:Nat):Int)≤(((H++(C++R)).length:Nat):Int))=true:=by grind
 have c:wrap .i64 (((H.length:Nat):Int)+4)=((H.length+4:Nat):Int):=by grind[a0A]
 have S:wrap .u64 ((a4p H:Nat):Int)=((a4p H:Nat):Int):=a0K (by grind[b5c]);have G:decide (((a00 (H++(C++R)):Nat):Int)<(4:Int))=false:=by grind
 have I:decide ((4:Int)≤((a00 (H++(C++R)):Nat):Int))=true:=by simp_all
 have r:((b2s (a40 4 (H++(C++R)))) != ([75,78,83,68]:List Int))=false:=by rw[ex];rfl
 have s:a49 4 (a40 (a00 (H++(C++R))) (H++(C++R)))=V++(A++(C++R)):=by rw[a32,ex];rfl
 have d:a3l (V++(A++(C++R)))=some (ord [] (a0J fm.1.toNat++(a0J fm.2.1.toNat++(a0J fm.2.2.1.toNat++(a0J xs.length++((nsP xs).flatMap a0J++(A++(C++R)))))))):=by
  unfold a3l;rw[a0Q (by omega),cT,w];simp[ord]
 have i:=c4G h fm b7W (a3H xs) (((b3T 0 A:Nat):Int),((H.length+4:Nat):Int),()) xs [] 0 rfl e (by simp[a1v]);have t:(a4q xs).length=xs.length:=by simp[a4q]
 have O:=(b6i e).2;have K:decide (((a1v xs:Nat):Int) > (4194304:Int))=false:=by grind
 unfold a5H;simp only[G,cF,I,cT,r,s,d,oB,n1,n2,U,X,w1,w2,w3]
 erw[f]
 simp only[oB,a3A,a1F,a4g,ord,show((0:Int) != 0)=false from rfl,cF,k,j]
 erw[Y]
 simp only[oB,ord,q,m,o,a05,cT,tN,List.take_left,Q,S]
 erw[Z]
 simp only[oB]
 by_cases hq:a4p H=b3T 0 C
 have v:(((a4p H:Nat):Int) != ((b3T 0 C:Nat):Int))=false:=by simp_all
 simp only[v,cF,if_pos hq,a4G,hf,decide_true,bT,oB,c,t]
 erw[i]
 simp only[K,oB,cF];rfl;have v:(((a4p H:Nat):Int) != ((b3T 0 C:Nat):Int))=true:=by grind
 simp only[v,cT,if_neg hq];rfl
theorem c5Z{B P R:List Int}{fm:a0L}{st:Nat}{x:Pc}(p:c4x fm st x)(C:B=P++(x.2.2++R))(E:B.length<1000000000){pl:b6z}(hp:pl.1=fm){i:Int}(n:m0k pl.2.1 i=some ((x.2.2.length:Nat):Int))(o:m0k pl.2.2.1 i=some ((a1a x.2.1:Nat):Int)):
  a7b (B,pl,i,((P.length:Nat):Int),(st:Int))=some (x.1,x.2.1,0):=by
 obtain⟨s,t,u,v,w,l,y,z,A,e,j⟩:=p;have m:B.length=P.length+(x.2.2.length+R.length):=by simp_all
 have r:wrap .i64 (((a00 B:Nat):Int)-((P.length:Nat):Int))=((x.2.2.length+R.length:Nat):Int):=by grind[a0A]
 have g:decide (((x.2.2.length+R.length:Nat):Int)<((x.2.2.length:Nat):Int))=false:=decide_eq_false (by omega);have w2:wrap .i64 (((P.length:Nat):Int)+((x.2.2.length:Nat):Int))=((P.length+x.2.2.length:Nat):Int):=by grind[a0A]
 have f:decide ((0:Int)≤((P.length+x.2.2.length:Nat):Int))=true:=decide_eq_true (a08 _);have k:decide (((P.length+x.2.2.length:Nat):Int)≤((a00 B:Nat):Int))=true:=by simp_all
 have a:decide ((0:Int)≤((P.length:Nat):Int))=true:=decide_eq_true (a08 _);have b:decide (((P.length:Nat):Int)≤((P.length+x.2.2.length:Nat):Int))=true:=decide_eq_true (by omega);have d:a49 P.length (a40 (P.length+x.2.2.length) B)=x.2.2:=by
  grind
 have h:=l [] (by simp);rw[a42]at h;have q:((0:Int) != 0)=false:=rfl;have c:decide (((x.2.2.length:Nat):Int)<((x.2.2.length:Nat):Int))=false:=by simp
 have D:eqT (.pair (.int .i64) (.pair (.int .i64) (.pair (.int .i64) .unit))) x.1.2.2.1 pl.1=true:=by simp_all[c4m]
 have n1:(x.1.1 != (st:Int))=false:=by simp_all
 have n2:(((a1a x.2.1:Nat):Int) != ((a1a x.2.1:Nat):Int))=false:=by simp
 unfold a7b;simp only[n,oB,r,g,cF,w2,f,k,a,b,a05,cT,tN,d,h,q,c];simp_all
def c8v:c0I:=((0,0,0,()),0,0,[],[],())
theorem d1K{done rest:List Pc}(x:Pc):m0k (a3H (done++x::rest)) (done.length:Int)=some ((x.2.2.length:Nat):Int):=by
 grind[b4n,a3H]
theorem d3G{done rest:List Pc}(x:Pc):m0k (a4q (done++x::rest)) (done.length:Int)=some ((a1a x.2.1:Nat):Int):=by
 grind[b4n,a4q]
theorem c1E{fm:a0L}{all tail:List Pc}(h:all.length≤256){B Hd Z:List Int}(j:B.length<1000000000){pl:b6z}(hp:pl.1=fm)(a:pl.2.1=a3H all)(b:pl.2.2.1=a4q all)(g:pl.2.2.2.2.2.1=((Hd.length:Nat):Int))(z:c0I):
  ∀(rest done:List Pc),done++(rest++tail)=all→B=Hd++(a1b done++(a1b rest++Z))→a3G fm (a1v done) rest→a1v done≤64*done.length→
  y0s a3P (B,((Hd.length+(a1b done).length:Nat):Int),a3H all,(all.length:Int),(done.length:Int),z,pl,mkT fm done,()) =
   y0s a3P (B,((Hd.length+(a1b (done++rest)).length:Nat):Int),a3H all,(all.length:Int),((done++rest).length:Int),z,pl,mkT fm (done++rest),())
 | [],done,_,_,_,_=>by simp
 |x::rest,done,hd,hB,hr,ho=>by
  obtain⟨m,t⟩:=hr;have k:done.length<all.length:=by grind
  have f:B=(Hd++a1b done)++(x.2.2++(a1b rest++Z)):=by rw[hB];simp[a1b]
  have s:Hd.length+(a1b done).length+x.2.2.length≤B.length:=by grind
  have l:=d1K (done:=done) (rest:=rest++tail) x;have c:=d3G (done:=done) (rest:=rest++tail) x;rw[a59]at hd;rw[hd]at l c;have e:=c5Z m f j hp (i:=(done.length:Int)) (by simp_all) (by simp_all);rw[lN]at e;obtain⟨y,p,A,C,D,E,q,r,F,n,o⟩:=m;have d:=b6l q (w:=fm.2.2.1) r (a6j done);have l1:(a4h 0 0 done).length+1<2147483648:=by rw[b0Y];omega
  have u:wrap .i64 (((Hd.length+(a1b done).length:Nat):Int)+((x.2.2.length:Nat):Int))=((Hd.length+(a1b (done++[x])).length:Nat):Int):=by
   rw[a9v,lN,a0A (by omega)];omega
  have w2:wrap .i64 (((a1v done:Nat):Int)+((a1a x.2.1:Nat):Int))=((a1v (done++[x]):Nat):Int):=by rw[a5Q,a0A (by omega)];rfl
  have v:wrap .i64 (((Hd.length+(a1b done).length:Nat):Int)-((Hd.length:Nat):Int))=(((a1b done).length:Nat):Int):=by grind[a0A]
  rw[a0F (s':=(B,((Hd.length+(a1b (done++[x])).length:Nat):Int),a3H all,(all.length:Int),(((done++[x]).length:Nat):Int),z,pl,mkT fm (done++[x]),())) (by
   simp only[a3P,dlt k,cT,l,oB,mkT]
   erw[e]
   simp only[oB,show((0:Int) != 0)=false from rfl,cF]
   erw[d]
   simp only[oB,a0Q l1,a19,a0Q (show done.length+1<2147483648 by omega),cT,u,p,w2,g,v,a0C (show done.length<1000000 by omega)]
   simp[a2P,b2x,b3S])]
  rw[List.append_cons done x rest];exact c1E (Z:=Z) h j hp a b g z rest (done++[x]) (by simpa using hd) (by simp_all[a9v]) (by simp_all[a5Q]) (by grind[a5Q])
theorem c6a{fm:a0L}(hf:a6F fm){xs:List Pc}(a:a3G fm 0 xs)(g:xs.length≤256){R:List Int}(f:R.length≤190000000):
  a5H (a1u fm xs++(a7P 4 (a4p (a1u fm xs))++R))=some (b5e fm xs (a2P fm xs) ((a1u fm xs).length+4),0):=by
 have k:=b9i (a3F fm.2.2.1 (a6j xs));have h:=c5Y hf a g (A:=a7P 8 (a2P fm xs)) (C:=a7P 4 (a4p (a1u fm xs))) (R:=R) (a9N ..) (b5b 8 _) (a9N ..) (b5b 4 _) f (H:=a1u fm xs) rfl;rw[b7U 4 _ (by simp_all[b5c]),b7U 8 _ (by grind[prm,a2P]),if_pos rfl]at h;omega
theorem c8w{fm:a0L}(hf:a6F fm){xs:List Pc}(k:a3G fm 0 xs)(h:xs.length≤256):b0O (a7A fm xs)=some (mkT fm xs,0):=by
 have d:=b5a k;have j:=c1B hf k h;have e:=c6a hf k h (R:=a1b xs) (by omega);have c:(a7A fm xs).length=(a1u fm xs).length+4+(a1b xs).length:=by grind[a7A,a9N]
 have f:(a1u fm xs++a7P 4 (a4p (a1u fm xs))).length=(a1u fm xs).length+4:=by simp[a9N]
 have g:=c1E (fm:=fm) h (B:=a7A fm xs) (Hd:=a1u fm xs++a7P 4 (a4p (a1u fm xs))) (Z:=[]) (by omega) (pl:=b5e fm xs (a2P fm xs) ((a1u fm xs).length+4)) rfl rfl rfl (by rw[f];rfl) c8v (tail:=[]) xs [] (by simp) (by simp[a7A,a1b]) k (by simp[a1v]);rw[f,a24]at g;have a:y0s a3P (a7A fm xs,(((a1u fm xs).length+4+(a1b xs).length:Nat):Int),a3H xs,(xs.length:Int),(xs.length:Int),c8v,b5e fm xs (a2P fm xs) ((a1u fm xs).length+4),mkT fm xs,())=some (Sum.inl (a7A fm xs,(((a1u fm xs).length+4+(a1b xs).length:Nat):Int),c8v,b5e fm xs (a2P fm xs) ((a1u fm xs).length+4),mkT fm xs,())):=
  a0E (by simp_all[a3P])
 rw[a]at g;have b:(a3H xs).length=xs.length:=by simp[a3H]
 have i:decide ((((a1u fm xs).length+4+(a1b xs).length:Nat):Int)<(((a7A fm xs).length:Nat):Int))=false:=by simp_all
 unfold b0O;rw[show a7A fm xs=a1u fm xs++(a7P 4 (a4p (a1u fm xs))++a1b xs)from rfl,e];simp only[oB,show((0:Int) != 0)=false from rfl,cF,b5e,b]
 erw[g]
 simp_all[b5e,mkT]
def c8x(fm:a0L)(l:List Int)(ch sz total:Nat)(effort:Int):Nat→List Pc→Prop
 |st,[]=>total≤st
 |st,x::xs=>st<total∧x.2.1=a8v fm.2.2.1 (b1V l ch st (min (st+sz) total)) ch∧a4R (x.2.1,fm,(st:Int),effort)=some (x.1,0)∧c4x fm st x∧c8x fm l ch sz total effort (st+sz) xs
def b9n(fm:a0L)(total:Nat)(xs:List Pc):c0I:=(fm,(total:Int),((a2P fm xs:Nat):Int),a4h 0 0 xs,xs.map (·.1),())
theorem d1L{fm:a0L}(hf:a6F fm){ch:Nat}(a:fm.2.1=(ch:Int)){l:List Int}{total sz:Nat}(Z:l.length=total*ch)(ht:total≤200)(hs:1≤sz∧sz≤64)(b:l.all (fun x=>a1o x fm.2.2.1)=true){effort:Int}(V:0≤effort)(X:effort≤3):
  ∀(k st:Nat)(done:List Pc),total≤st+k→a1v done=min st total→a6j done=l.take (min st total*ch)→a3G fm 0 done→done.length≤st→st≤300→
  ∃rest,c8x fm l ch sz total effort st rest∧a3G fm 0 (done++rest)∧a1v (done++rest)=total∧a6j (done++rest)=l∧
   y0s a6f (l,(sz:Int),effort,(total:Int),(((a1b done).length:Nat):Int),(st:Int),b9n fm total done,fm,())=some (.inl (b9n fm total (done++rest),())):=by
 obtain⟨R,S,f3,f4,T,U⟩:=id hf;have e:1≤ch∧ch≤8:=by omega
 intro k
 induction k with
 |zero=>
  intro st done D j o y r A;have hm:min st total=total:=by omega
  have O:decide ((st:Int)<(total:Int))=false:=by simp_all
  rw[hm]at j o;refine⟨[],by simpa[c8x]using D,by simp_all,by simp_all,by grind,?_⟩;rw[a42];exact a0E (by simp only[a6f,O,cF])
 |succ k ih=>
  intro st done D j o y r A
  by_cases hlt:st<total
  have t:min st total=st:=by omega
  rw[t]at j o;obtain⟨en,Y⟩:∃en,min (st+sz) total=en:=⟨_,rfl⟩;have C:st<en∧en≤total∧en≤st+sz:=by omega
  have s:en*ch≤l.length:=by simp_all[a39]
  have h6:st*ch≤en*ch:=a39 _ (by omega);have h1:l.length≤200*8:=by rw[Z];exact a04 ht e.2
  have h:=c9J (st:=st) s;have f:=c9L (ch:=ch) (st:=st) (en:=en) b;have c:=d3v (w:=fm.2.2.1) h e (by omega) ⟨T,U⟩ f;have h2:=b7T (w:=fm.2.2.1) h e.1;have h4:=d3w (w:=fm.2.2.1) h e.1;have v:=d3E hf a (l:=b1V l ch st en) (n:=en-st) (by omega) h f;obtain⟨g,p,m1,i⟩:=d3u (fm:=fm) c (by omega) ⟨R,S⟩ (by simp_all[a8v,a2L]) rfl (st:=st) (by omega) V X;have d:=i.2.2.2.2.1;have B:=b6l c (w:=fm.2.2.1) rfl (a6j done);obtain⟨x,hx⟩:∃x:Pc,x=(((st:Int),g),a8v fm.2.2.1 (b1V l ch st en) ch,p):=⟨_,rfl⟩;have x1:x.1=((st:Int),g):=by grind
  have x2:x.2.1=a8v fm.2.2.1 (b1V l ch st en) ch:=by grind
  have I:x.2.2=p:=by grind
  rw[←hx]at i;have u:=i.2.2.2.2.2.2.2.2.2.2;rw[I]at u;have h5:=b5a y;have m:a1v (done++[x])=min (st+sz) total:=by grind[a5Q]
  have q:a6j (done++[x])=l.take (min (st+sz) total*ch):=by grind[b2x,c9K]
  have z:a3G fm 0 (done++[x]):=c1z y (by simp_all);obtain⟨rest,k1,E,F,G,H⟩:=ih (st+sz) (done++[x]) (by omega) m q z (by grind) (by omega);have P:done++[x]++rest=done++x::rest:=by simp
  rw[P]at E F G H;refine⟨x::rest,⟨hlt,by simp_all,by simp_all,i,k1⟩,E,F,G,?_⟩;rw[←H];have q1:wrap .i64 ((v0s (wrap .i64 ((st:Int)+(sz:Int))) (total:Int))*(ch:Int))=((en*ch:Nat):Int):=by
   rw[a0A (n:=(st:Int)+(sz:Int)) (by omega),b1d,show min ((st:Int)+(sz:Int)) (total:Int)=(en:Int)from by omega,←a83,a0A (by omega)]
  have q2:wrap .i64 ((st:Int)*(ch:Int))=((st*ch:Nat):Int):=by grind[a0A]
  have K:decide ((0:Int)≤((en*ch:Nat):Int))=true:=decide_eq_true (a08 _);have L:decide (((en*ch:Nat):Int)≤((l.length:Nat):Int))=true:=decide_eq_true (by omega);have M:decide ((0:Int)≤((st*ch:Nat):Int))=true:=decide_eq_true (a08 _);have N:decide (((st*ch:Nat):Int)≤((en*ch:Nat):Int))=true:=decide_eq_true (by omega);have Q:a49 (st*ch) (a40 (en*ch) l)=b1V l ch st en:=rfl;have n0:((0:Int) != 0)=false:=rfl;have w1:wrap .i64 ((((a1b done).length:Nat):Int)+((p.length:Nat):Int))=(((a1b (done++[x])).length:Nat):Int):=by
   rw[a9v,lN,I,a0A (by omega)];rfl
  have w2:wrap .i64 ((st:Int)+(sz:Int))=((st+sz:Nat):Int):=by grind[a0A]
  refine a0F ?_
  simp only[a6f,dlt hlt,cT,a,q1,q2,K,L,M,N,a05,tN,Q,v,oB,n0,cF,m1,d,b9n]
  erw[B]
  simp only[oB,b0Y,a19,a0Q (show done.length+1<2147483648 by omega),cT,w1,w2];simp_all[a2P,b2x,b3S]
  grind
theorem b7q{l:List Int}(a:l.length≤10000){fm:a0L}(f:4≤fm.2.2.1∧fm.2.2.1≤24)(sz effort h:Int):∀(rest done:List Int),done++rest=l→rest.all (fun x=>a1o x fm.2.2.1)=true→
  y0s a6e (l,sz,effort,h,l,(l.length:Int),(done.length:Int),fm,())=some (.inl (l,sz,effort,h,fm,()))
 | [],done,hd,_=>by
  obtain rfl:done=l:=by simp_all
  simp_all[a0E,a6e]
 |x::rest,done,hd,hfit=>by
  have g:done.length<l.length:=by grind
  have k:m0k l (done.length:Int)=some x:=by grind[a0D]
  simp only[a37,bA]at hfit;rw[a0F (s':=(l,sz,effort,h,l,(l.length:Int),(((done++[x]).length:Nat):Int),fm,())) (by
   simp only[a6e,dlt g,cT,k,oB,b3e f,hfit.1,bT,cF,a0C (show done.length<1000000 by omega)]
   simp)]
  exact b7q a f sz effort h rest (done++[x]) (by simp_all) hfit.2
theorem c9R{fm:a0L}(hf:a6F fm){ch:Nat}(f:fm.2.1=(ch:Int)){l:List Int}{total sz:Nat}(a:l.length=total*ch)(d:total≤200)(A:1≤sz∧sz≤64)(g:l.all (fun x=>a1o x fm.2.2.1)=true){effort:Int}(w:0≤effort)(y:effort≤3):
  ∃h,c8x fm l ch sz total effort 0 h∧a3G fm 0 h∧a1v h=total∧a6j h=l∧h.length≤256∧a8Q (fm,l,(sz:Int),effort)=some (a7A fm h,0):=by
 obtain⟨h,B,b,i,j,m⟩:=d1L hf f a d A g w y 200 0 [] (by omega) (by rfl) (by simp[a6j]) trivial (by simp) (by omega);rw[a24]at b i j m;have e:h.length≤256:=by grind[b6i]
 obtain⟨E,F,G,H,u,v⟩:=id hf;have c:1≤ch∧ch≤8:=by omega
 have z:l.length≤200*8:=by rw[a];exact a04 d c.2
 have k:=b7q (l:=l) (fm:=fm) (by omega) ⟨u,v⟩ (sz:Int) effort (total:Int) l [] rfl g;have o:decide ((sz:Int)<1)=false:=by grind
 have p:decide ((sz:Int) > 4096)=false:=by grind
 have q:decide (effort<0)=false:=by simp_all
 have r:decide (effort > 3)=false:=by simp_all
 have c0:((ch:Int)==0)=false:=by grind
 have C:a06 ((l.length:Nat):Int) (ch:Int)=0:=by
  simp_all
 have D:wrap .i64 (a21 ((l.length:Nat):Int) (ch:Int))=(total:Int):=by
  rw[show a21 ((l.length:Nat):Int) (ch:Int)=((l.length / ch:Nat):Int)from rfl,a,a70 _ c.1,a0A (by omega)]
 have s:decide ((total:Int) > 4194304)=false:=by grind
 have s0:((sz:Int)==0)=false:=by grind
 have t:decide ((wrap .i64 (a21 (wrap .i64 ((wrap .i64 ((total:Int)+(sz:Int)))-(1:Int))) (sz:Int))) > (4096:Int))=false:=by
  rw[a0A (n:=(total:Int)+(sz:Int)) (by omega),a0A (n:=(total:Int)+(sz:Int)-1) (by omega),show((total:Int)+(sz:Int)-1)=((total+sz-1:Nat):Int)from by omega,show a21 ((total+sz-1:Nat):Int) (sz:Int)=(((total+sz-1) / sz:Nat):Int)from rfl];have K:=a65 (total+sz-1) sz
  grind[a0A]
 have I:b9n fm total h=mkT fm h:=by simp_all[b9n,mkT]
 have hp:=c9Q hf b e;refine⟨h,B,b,i,j,e,?_⟩;unfold a8Q;simp only[a4G,hf,decide_true,oB,bT,cF,o,p,q,r,f,c0,C,show((0:Int) != 0)=false from rfl,D,s,s0,t]
 erw[k]
 simp
 erw[m]
 simp_all
def crE(s:BitVec 16):BitVec 16:=bif s.msb then(s <<< 1) ^^^ 32773#16 else s <<< 1
theorem c6F(s t:BitVec 16):crE (s ^^^ t)=crE s ^^^ crE t:=by
 unfold crE;rw[BitVec.msb_xor,BitVec.shiftLeft_xor_distrib];cases s.msb<;>cases t.msb<;>simp only[cT,cF,Bool.xor_true,Bool.xor_false,bT,a53];rw[a25];rw[a25,a25,a84 (t <<< 1)];rw[a25,a84 32773#16,a25,BitVec.xor_self,b17]
theorem d1M{s:BitVec 16}(h:crE s=0):s=0:=by
 unfold crE at h;cases hm:s.msb with
 |true=>
  rw[hm,cT]at h
  have:=congrArg (fun x=>a92 x 0) h
  simp at this
 |false=>
  rw[hm,cF]at h;refine a80 fun i hi=>?_
  by_cases h15:i=15
  subst h15;rw[a73]at hm;simpa using hm
  have:=congrArg (fun x=>a92 x (i+1)) h
  simp at this;simpa using this (by omega)
theorem d6A:crE 0=0:=by decide
theorem b7X{s:BitVec 16}:∀{n:Nat},rep crE n s=0→s=0
 |0,h=>h
 |n+1,h=>d1M (b7X (n:=n) h)
theorem d2L:∀n:Nat,rep crE n 0=0
 |0=>rfl
 |n+1=>by
  show rep crE n (crE 0)=0;rw[d6A,d2L n]
def crB(b:Bool):BitVec 16:=bif b then 32768#16 else 0#16
def crS(s:BitVec 16)(b:Bool):BitVec 16:=crE (s ^^^ crB b)
def crT:List Bool→BitVec 16
 | []=>0#16
 |b::w=>crB b ^^^ (crT w >>> 1)
theorem d3H(b:Bool)(j:Nat):(crB b).getLsbD j=(b&&decide (j=15)):=by
 cases b with
 |false=>simp[crB]
 |true=>
  simp only[crB,cT,a18];rw[show(32768#16)=BitVec.ofNat 16 (2^15)from rfl,BitVec.getLsbD_ofNat,Nat.testBit_two_pow]
  by_cases h:j=15
  subst h;rfl;rw[decide_eq_false (by omega:¬ (15=j)),decide_eq_false h,b20]
theorem b6A:∀(w:List Bool)(j:Nat),(crT w).getLsbD j=(decide (j<16)&&w.getD (15-j) false)
 | [],j=>by simp[crT]
 |b::w,j=>by
  rw[crT,BitVec.getLsbD_xor,d3H,a48,b6A w]
  by_cases h:j=15
  subst h;simp
  by_cases h2:j<16
  rw[show 15-j=(15-(1+j))+1 from by omega,a99];simp[h,h2,show 1+j<16 from by omega];simp[h,h2,show ¬ (1+j<16)from by omega]
theorem d1N{w:List Bool}(h:w.length≤15):crE (crT w >>> 1)=crT w:=by
 have f:(crT w >>> 1).msb=false:=by
  rw[a73,a48,b6A];simp
 unfold crE;rw[f,cF];refine a80 fun i hi=>?_
 rw[BitVec.getLsbD_shiftLeft,a48];cases i with
 |zero=>
  have g:(crT w).getLsbD 0=false:=by
   rw[b6A,lD,List.getElem?_eq_none (by omega)];rfl
  rw[g];simp
 |succ i=>rw[show 1+(i+1-1)=i+1 from by omega];simp[hi]
theorem d4P:∀(w:List Bool)(s:BitVec 16),w.length≤16→w.foldl crS s=rep crE w.length (s ^^^ crT w)
 | [],s,_=>by simp[crT,rep]
 |b::w,s,h=>by
  rw[lC]at h;rw[a85,d4P w _ (by omega),crT,←a25];show _=rep crE w.length (crE (s ^^^ crB b ^^^ (crT w >>> 1)));rw[c6F,d1N (by omega)];rfl
theorem c4H{α:Type}(f g:α→Bool):∀(L:List α)(s t:BitVec 16),(L.map fun j=>xor (f j) (g j)).foldl crS (s ^^^ t)=(L.map f).foldl crS s ^^^ (L.map g).foldl crS t
 | [],_,_=>rfl
 |a::L,s,t=>by
  simp only[a60,a85];rw[←c4H f g L];congr 1;unfold crS;rw[←c6F];congr 1
  have:crB (xor (f a) (g a))=crB (f a) ^^^ crB (g a):=by cases f a<;>cases g a<;>rfl
  rw[this];simp only[a25];rw[←a25 t,a84 t,a25]
theorem b5f:∀(n:Nat)(s:BitVec 16),(a09 n false).foldl crS s=rep crE n s
 |0,_=>rfl
 |n+1,s=>by
  rw[List.replicate_succ,a85,b5f n];show rep crE n (crE (s ^^^ 0#16))=rep crE n (crE s);rw[b17]
theorem d6B{w:List Bool}(h:w.length≤16)(f:true∈w)(k m:Nat):(a09 k false++(w++a09 m false)).foldl crS 0≠0:=by
 rw[a57,a57,b5f,b5f,d2L,d4P w _ h];intro e;have e:=b7X (b7X e);have e:crT w=0:=by simpa using e
 obtain⟨i,hi,g⟩:=List.mem_iff_getElem.1 f
 have:=b6A w (15-i)
 rw[e,show 15-(15-i)=i from by omega,lD,lG hi,g]at this;simp at this;omega
def byb(c:Int):List Bool:=[7,6,5,4,3,2,1,0].map fun i=>c.toNat.testBit i
def b6B(p:List Int):List Bool:=p.flatMap byb
def d4Q(c:Int):Prop:=0≤c∧c<256
def a9V(p:List Int)(j:Nat):Bool:=(p.getD (j / 8) 0).toNat.testBit (7-j%8)
theorem b7Y:∀p:List Int,b6B p=(a02 (8*p.length)).map (a9V p)
 | []=>rfl
 |c::p=>by
  have e:b6B (c::p)=byb c++b6B p:=rfl;rw[e,b7Y p,lC,show 8*(p.length+1)=8+8*p.length from by omega,a55,pA,a52];congr 1;refine a35 fun j _=>?_
  show a9V p j=a9V (c::p) (8+j);unfold a9V;rw[show(8+j) / 8=j / 8+1 from by omega,a99,show(8+j)%8=j%8 from by omega]
structure Turn (b k i:Nat) (p0 p:List Int) (sm:Bool):Prop where
 len:p.length=p0.length
 ok:∀c∈p,d4Q c
 bit:∀j,a9V p j=xor (a9V p0 j) (decide (k≤j∧j<k+i)&&b.testBit (j-k))
 smk:sm=true↔∃t,t<i∧b.testBit t=true
 pre:p.take (k / 8)=p0.take (k / 8)
 same:sm=false→p=p0
theorem turned{b k:Nat}{p0 q:List Int}{s:Bool}(w:k<8*p0.length)(i:(b6B p0).foldl crS 0=0)(g:Turn b k (min 16 (8*p0.length-k)) p0 q s)(u:s=true):(b6B q).foldl crS 0≠0:=by
 obtain⟨n,r⟩:∃n,min 16 (8*p0.length-k)=n:=⟨_,rfl⟩;rw[r]at g;have e:b6B q=(a02 (8*p0.length)).map fun j=>xor (a9V p0 j) (decide (k≤j∧j<k+n)&&b.testBit (j-k)):=by
  rw[b7Y,g.len];exact a35 fun j _=>g.bit j
 have h:=c4H (a9V p0) (fun j=>decide (k≤j∧j<k+n)&&b.testBit (j-k)) (a02 (8*p0.length)) 0 0;have a:∀x:BitVec 16,(0:BitVec 16) ^^^ x=x:=fun _=>BitVec.zero_xor;rw[a,←e,←b7Y,i,a]at h;rw[h];obtain⟨m,p⟩:∃m,8*p0.length=k+(n+m):=⟨8*p0.length-k-n,by omega⟩;rw[p,a55,a55,pA,pA,pA,a52,a52,a52];have c:(a02 k).map (fun j=>decide (k≤j∧j<k+n)&&b.testBit (j-k))=a09 k false:=by
  rw[a90];refine⟨by simp,fun x f=>?_⟩;obtain⟨j,o,rfl⟩:=a51.1 f
  grind
 have d:(a02 m).map (((fun j=>decide (k≤j∧j<k+n)&&b.testBit (j-k))∘(k+·))∘(n+·))=a09 m false:=by
  rw[a90];refine⟨by simp,fun x f=>?_⟩;obtain⟨j,o,rfl⟩:=a51.1 f
  grind
 rw[c,d];refine d6B (by simp;omega) ?_ k m;obtain⟨t,l,v⟩:=g.smk.1 u;refine a51.2 ⟨t,a91.2 l,?_⟩;simp_all
theorem c9S(l:List Int):b3h (l,l)=some true:=by
 simp_all[b3h]
theorem c6b{n k:Nat}(p:n<18446744073709551616)(o:k≤8):a0U ((n:Int),(k:Int))=some (leB k n):=by
 have l:a1G (k:Int)=some (k:Int):=by
  simp only[a1G,b1d,b2y];congr 1;omega
 simp only[a0U,l,oB];have h:=a0X (f:=a1l) (fun i=>(((n / 256^i:Nat):Int),(k:Int),(i:Int),leB i n,())) k (b:=(leB k n,())) (fun i hi=>by
   simp only[a1l];have g:decide ((i:Int)<(k:Int))=true:=by simp;omega
   have a:lim (a00 (leB i n)+1)=true:=a0Q (by rw[a7c];omega);have c:wrap .u64 (a21 ((n / 256^i:Nat):Int) 256)=((n / 256^(i+1):Nat):Int):=by
    have e:a21 ((n / 256^i:Nat):Int) 256=((n / 256^i / 256:Nat):Int):=rfl;rw[e,a82,←a41]
    have:=a65 n (256^(i+1))
    revert this
    generalize n / 256^(i+1)=m;intro this;exact a0K (by omega)
   have d:wrap .i64 ((i:Int)+1)=((i+1:Nat):Int):=a0A (by omega);have j:wrap .u8 (a06 ((n / 256^i:Nat):Int) 256)=((n / 256^i%256:Nat):Int):=by
    have e:a06 ((n / 256^i:Nat):Int) 256=((n / 256^i%256:Nat):Int):=rfl;rw[e,a5K];omega
   rw[g,a,c,d,j,b2L];rfl) (by
   simp only[a1l];have g:decide ((k:Int)<(k:Int))=false:=by simp
   rw[g];rfl)
 simp only[Nat.pow_zero,Nat.div_one,leB]at h;rw[show((0:Nat):Int)=0 from rfl]at h;rw[h];rfl
def fit(b x:Int):Bool:=decide (1≤b∧b≤31)&&decide (-(2^(b.toNat-1):Int)≤x∧x<(2^(b.toNat-1):Int))
theorem d3I:∀b:Fin 32,1≤b.1→a8g (b.1:Int)=some (-(2^(b.1-1):Int))∧a3T (b.1:Int)=some (2^(b.1-1)-1:Int)∧
  b4t (b.1:Int)=some (-(2^(b.1-1):Int))∧b3i (b.1:Int)=some (2^(b.1-1)-1:Int):=by decide +kernel
theorem c4I{b:Int}(h:1≤b∧b≤31):a8g b=some (-(2^(b.toNat-1):Int))∧a3T b=some (2^(b.toNat-1)-1:Int)∧
  b4t b=some (-(2^(b.toNat-1):Int))∧b3i b=some (2^(b.toNat-1)-1:Int):=by
 obtain⟨n,rfl⟩:∃n:Nat,b=n:=⟨b.toNat,by omega⟩
 have:=d3I ⟨n,by omega⟩ (by show 1≤n;omega)
 simpa using this
theorem a9w(x b:Int):a1j (x,b)=some (fit b x):=by
 simp only[a1j,fit]
 by_cases h:1≤b∧b≤31
 obtain⟨k,a,-,-⟩:=c4I h;have f:decide (b≥1)=true:=by simpa using h.1
 have g:decide (b≤31)=true:=by simpa using h.2
 rw[f,g];simp only[cT,k,a,oB,h,and_self,decide_true,a18];generalize (2:Int)^(b.toNat-1)=p
 by_cases hx:-p≤x
 simp only[hx,decide_true,cT,true_and];congr 2;exact propext ⟨fun _=>by omega,fun _=>by omega⟩;simp[hx];rw[decide_eq_false h,a56]
 by_cases f:1≤b
 have g:decide (b≤31)=false:=by simp;omega
 simp[f,g];have g:decide (b≥1)=false:=by simp;omega
 simp[g]
theorem c1F(x b:Int):b3j (x,b)=some (fit b x):=by
 simp only[b3j,fit]
 by_cases h:1≤b∧b≤31
 obtain⟨-,-,k,a⟩:=c4I h;have f:decide (b≥1)=true:=by simpa using h.1
 have g:decide (b≤31)=true:=by simpa using h.2
 rw[f,g];simp only[cT,k,a,oB,h,and_self,decide_true,a18];generalize (2:Int)^(b.toNat-1)=p
 by_cases hx:-p≤x
 simp only[hx,decide_true,cT,true_and];congr 2;exact propext ⟨fun _=>by omega,fun _=>by omega⟩;simp[hx];rw[decide_eq_false h,a56]
 by_cases f:1≤b
 have g:decide (b≤31)=false:=by simp;omega
 simp[f,g];have g:decide (b≥1)=false:=by simp;omega
 simp[g]
theorem a7M{α:Type}(l:List α){i:Nat}(h:i<l.length):m0k l (i:Int)=some l[i]:=by
 unfold m0k;rw[if_pos (by omega)];simp[h]
def sBw(k:Nat)(x:Int):List Int:=leB k (x%18446744073709551616).toNat
theorem d4R(x:Int):wrap .u64 x=((x%18446744073709551616).toNat:Int):=by
 simp only[wrap,IntKind.bits,IntKind.signed]
 simp
 omega
theorem a8w(x:Int){k:Nat}(h:k≤8):a0U (wrap .u64 x,(k:Int))=some (sBw k x):=by
 rw[d4R];exact c6b (by omega) h
theorem d1O(x:Int)(j:Nat)(g:j<8):((((x%18446744073709551616).toNat) / 256^j%256:Nat):Int)=x.fdiv (256^j)%256:=by
 have h:j=0∨j=1∨j=2∨j=3∨j=4∨j=5∨j=6∨j=7:=by omega
 rcases h with rfl|rfl|rfl|rfl|rfl|rfl|rfl|rfl<;>rw[a46 _ (by decide)]<;>simp only[a96,a75]<;>omega
theorem d3J(y:Int):bits .i64 .and y 255=y%256:=by
 have h:((a01 64 y) &&& (a01 64 255)).toNat=(y%18446744073709551616).toNat%256:=by
  rw[a45,a07];have e:(a01 64 255).toNat=2^8-1:=by decide
  rw[e,a34];rfl
 show wrap .i64 ((((a01 64 y) &&& (a01 64 255)).toNat:Nat):Int)=_;rw[h,a0A (by omega)];omega
theorem d6C(x:Int){j:Nat}(g:j<8):A0o .i64 x ((8*j:Nat):Int)=x.fdiv (256^j):=by
 have h:min (a23 ((8*j:Nat):Int)) (IntKind.bits .i64)=8*j:=by
  simp only[tN,IntKind.bits];omega
 unfold A0o;rw[h,show(256:Int)=2^8 from rfl,←Int.pow_mul]
theorem a1c(k:Nat)(x:Int):(sBw k x).length=k:=a7c _ _
theorem d3K(k:Nat)(h:k<8)(x:Int):sBw (k+1) x=sBw k x++[x.fdiv (256^k)%256]:=by
 unfold sBw;rw[b2L,d1O x k h]
theorem c0K(b x n:Int)(i:Int)(l:List Int){k:Nat}(p:k≤8)(out:List Int)(q:out.length<1000000):
  y0s a1M (b,(k:Int),x,l,n,i,(k:Int),(0:Int),out,())=some (b,(k:Int),l,n,i,out++sBw k x,()):=by
 have h:=a0X (f:=a1M) (fun j=>(b,(k:Int),x,l,n,i,(k:Int),(j:Int),out++sBw j x,()))
  k (b:=(b,(k:Int),l,n,i,out++sBw k x,())) (fun j o=>by
   simp only[a1M];have g:decide ((j:Int)<(k:Int))=true:=by simp;omega
   have e:wrap .i64 ((8:Int)*(j:Int))=((8*j:Nat):Int):=by rw[a0A (by omega)];omega
   have a:decide (((8*j:Nat):Int)<0)=false:=by simp;omega
   have d:lim (a00 (out++sBw j x)+1)=true:=a0Q (by rw[lN,a1c];omega);have m:wrap .i64 ((j:Int)+1)=((j+1:Nat):Int):=a0A (by omega);rw[g,d,e,a,m,d3J,d6C x (by omega),a5K,a93 _ (by decide),d3K j (by omega),←aA];rfl) (by
   simp only[a1M];have g:decide ((k:Int)<(k:Int))=false:=by simp
   rw[g];rfl)
 have c:out++sBw 0 x=out:=by simp[sBw,leB]
 simp only[c]at h;exact h
theorem c4J{g:Int→List Int}(l:List Int){i:Nat}(h:i<l.length):(l.take (i+1)).flatMap g=(l.take i).flatMap g++g l[i]:=by
 rw[a31 h,a50]
 simp
theorem a9x{k:Nat}{g:Int→List Int}(h:∀x,(g x).length=k):∀(l:List Int),(l.flatMap g).length=l.length*k
 | []=>by simp
 |x::l=>by
  rw[a38,lN,h,a9x h l,lC,Nat.add_mul];omega
theorem b6o(p:Int→Bool)(l:List Int):∃m,m≤l.length∧(∀(i:Nat)(h:i<l.length),i<m→p l[i]=true)∧((l.all p=true∧m=l.length)∨(l.all p=false∧∃h:m<l.length,p l[m]=false)):=by
 induction l with
 |nil=>exact⟨0,a71 _,fun i h=>by simp at h,.inl ⟨rfl,rfl⟩⟩
 |cons x l ih=>
  obtain⟨m,c,f,g⟩:=ih;cases hx:p x with
  |false=>exact⟨0,Nat.zero_le _,fun i _ h=>by omega,.inr ⟨by simp[hx],by simp,by simpa using hx⟩⟩
  |true=>
   refine⟨m+1,by simp;omega,fun i hi b=>?_,?_⟩
   ·cases i with
    |zero=>simpa using hx
    |succ i=>simpa using f i (by simpa using hi) (by omega)
   rcases g with⟨g,rfl⟩|⟨g,k,a⟩;exact .inl ⟨by simp only[a37,hx,g];rfl,by simp⟩;exact .inr ⟨by simp only[a37,hx,g];rfl,by simpa using k,by simpa using a⟩
def c4K(b:Int)(l:List Int):List Int×Int:=
 if l.all (fit b)=true then(l.flatMap (sBw ((b+7) / 8).toNat),0)else([],6)
theorem c6c{b:Int}(hb:4≤b∧b≤24){l:List Int}(hl:l.length≤100000):a3U (l,b)=some (c4K b l):=by
 obtain⟨k,hk⟩:∃k:Nat,k=((b+7) / 8).toNat:=⟨_,rfl⟩;have hk3:k≤3:=by omega
 have e1:decide (b<(4:Int))=false:=by simp;omega
 have e2:decide (b > (24:Int))=false:=by simp;omega
 have e3:wrap .i64 (a21 (wrap .i64 (b+(7:Int))) (8:Int))=(k:Int):=by
  rw[a0A (n:=b+7) (by omega),a30 (by omega),a0A (by omega)];omega
 obtain⟨m,hm,hfit,hend⟩:=b6o (fit b) l
 let S:Nat→(Int×(Int×((List Int)×(Int×(Int×((List Int)×Unit)))))):=fun i=>(b,(k:Int),l,((a00 l:Nat):Int),(i:Int),(l.take i).flatMap (sBw k),())
 have hlen:∀i,((l.take i).flatMap (sBw k)).length<1000000:=fun i=>by
  rw[a9x (a1c k)]
  have:(l.take i).length≤100000:=by rw[a16];omega
  calc (l.take i).length*k≤100000*3:=a04 this hk3
   _<1000000:=by decide
 have hstep:∀i,i<m→a1E (S i)=some (.inl (S (i+1))):=fun i hi=>by
  have hil:i<l.length:=by omega
  simp only[S,a1E];have h1:decide ((i:Int)<((a00 l:Nat):Int))=true:=by simp;omega
  have h4:wrap .i64 ((i:Int)+1)=((i+1:Nat):Int):=a0A (by omega);rw[h1,a7M l hil];simp only[cT,oB,a9w,hfit i hil hi,bT,cF,c0K b l[i] _ _ l (show k≤8 by omega) _ (hlen i),h4,c4J l hil]
 have hS0:S 0=(b,(k:Int),l,((a00 l:Nat):Int),(0:Int),([]:List Int),()):=rfl;simp only[a3U,e1,cF,oB,e2,e3,c4K];rcases hend with⟨hall,rfl⟩|⟨hall,hlt,hbad⟩;rw[if_pos hall,←hS0,a0X (f:=a1E) S l.length (b:=.inl (l.flatMap (sBw k),())) hstep (by
  simp only[S,a1E];have h1:decide ((l.length:Int)<((a00 l:Nat):Int))=false:=by simp
  rw[h1,a32];rfl)]
 rw[←hk];rfl;rw[hall,if_neg (by simp),←hS0,a0X (f:=a1E) S m (b:=.inr (6,[],())) hstep (by
  simp only[S,a1E];have h1:decide ((m:Int)<((a00 l:Nat):Int))=true:=by simp;omega
  rw[h1,a7M l hlt];simp only[cT,oB,a9w,hbad,a53])]
 rfl
def a5h(b:Int)(l:List Int):List Int:=if b=8 then l.map (fun x=>(x+128)%256)else l.flatMap (sBw ((b+7) / 8).toNat)
theorem c4L{g:Int→Int}(l:List Int){i:Nat}(h:i<l.length):(l.take (i+1)).map g=(l.take i).map g++[g l[i]]:=by
 rw[a31 h,pA];rfl
theorem c0L{b:Int}(hb:b=8∨b=16∨b=24){l:List Int}(m:l.length≤100000)(h:l.all (fit b)=true):a6N (l,b)=some (a5h b l,0):=by
 simp only[a6N]
 by_cases h8:b=8
 subst h8;have g:((8:Int) != 8)=false:=rfl;have c:(decide ((0:Int)≤((a00 l:Nat):Int))&&lim (a23 ((a00 l:Nat):Int)))=true:=by
  rw[tN,a0Q (by omega)];simp
 rw[g,c];simp only[cF,cT];have j:y0s a2Z (l,((a00 l:Nat):Int),(0:Int),([]:List Int),())=some (l.map (fun x=>(x+128)%256),()):=a0X (f:=a2Z) (fun i=>(l,((a00 l:Nat):Int),(i:Int),(l.take i).map (fun x=>(x+128)%256),())) l.length (b:=(l.map (fun x=>(x+128)%256),())) (fun i hi=>by
  simp only[a2Z];have k:decide ((i:Int)<((a00 l:Nat):Int))=true:=by simp;omega
  have d:wrap .i64 ((i:Int)+1)=((i+1:Nat):Int):=a0A (by omega);have a:fit 8 l[i]=true:=lA.1 h _ (a20 hi);have o:-128≤l[i]∧l[i]<128:=by
   simp only[fit,bA,dT]at a;simpa using a.2
  have e:lim (a00 ((l.take i).map (fun x=>(x+128)%256))+1)=true:=a0Q (by rw[a19,a16];omega);rw[k,a7M l hi];simp only[cT,oB,d,e,c4L l hi,a0A (n:=l[i]+128) (by omega),a5K];rfl) (by
  simp only[a2Z];have k:decide ((l.length:Int)<((a00 l:Nat):Int))=false:=by simp
  rw[k,a32];rfl)
 rw[j];rfl;have g:(b != 8)=true:=by simpa using h8
 rw[g,cT,c6c (by omega) m];simp only[c4K,h,if_true,a5h,if_neg h8,oB]
@[reducible] def Fmt:=Int×(Int×(Int×Unit))
def a1s(name d:List Int):List Int:=name++sBw 4 (d.length:Int)++d++(if d.length%2=1 then[0]else[])
theorem a4c(name d:List Int):(a1s name d).length=name.length+4+d.length+d.length%2:=by
 unfold a1s;simp only[lN,a1c]
 split<;>simp<;>omega
theorem b9o{name d:List Int}(h:name.length+d.length<1000000000):a4I (name,d)=some (a1s name d):=by
 simp only[a4I,a54];have g:a0U (wrap .u64 ((a00 d:Nat):Int),(4:Int))=some (sBw 4 (d.length:Int)):=a8w _ (by decide);rw[g,a0Q (by omega)];simp only[cT,oB,a1c,lN];rw[a0Q (by omega),a0Q (by omega),a0Q (by omega)];simp only[cT];have f:a06 ((a00 d:Nat):Int) 2=((d.length%2:Nat):Int):=rfl;rw[f];unfold a1s
 by_cases hp:d.length%2=1
 rw[hp,if_pos rfl];rfl
 have:d.length%2=0:=by omega
 rw[this,if_neg (by decide),a42];rfl
def a3u(f:Fmt):Bool:=decide (1≤f.1∧f.1≤1048576∧1≤f.2.1∧f.2.1≤8∧4≤f.2.2.1∧f.2.2.1≤24)
def a1H(f:Fmt):Bool:=a3u f&&decide (f.2.2.1=8∨f.2.2.1=16∨f.2.2.1=24)
theorem c6d(f:Fmt):a1w f=some (a3u f):=by
 simp only[a1w,a5k,a3u]
 by_cases h1:1≤f.1
 by_cases h2:f.1≤1048576
 by_cases h3:1≤f.2.1
 by_cases h4:f.2.1≤8
 by_cases h5:4≤f.2.2.1
 simp[h1,h2,h3,h4,h5];simp[h1,h2,h3,h4,h5];simp[h1,h2,h3,h4];simp[h1,h2,h3];simp[h1,h2];simp[h1]
theorem c6e(f:Fmt):b1w f=some (a3u f):=by
 simp only[b1w,a3u]
 by_cases h1:1≤f.1
 by_cases h2:f.1≤1048576
 by_cases h3:1≤f.2.1
 by_cases h4:f.2.1≤8
 by_cases h5:4≤f.2.2.1
 simp[h1,h2,h3,h4,h5];simp[h1,h2,h3,h4,h5];simp[h1,h2,h3,h4];simp[h1,h2,h3];simp[h1,h2];simp[h1]
theorem b5w(f:Fmt):a3J f=some (a1H f):=by
 simp only[a3J,c6d,oB,a1H];cases a3u f
 simp
 by_cases h1:f.2.2.1=8
 simp[h1]
 by_cases h2:f.2.2.1=16
 simp[h2];have h:(f.2.2.1==8)=false:=by simpa using h1
 have g:(f.2.2.1==16)=false:=by simpa using h2
 rw[h,g];simp only[cT,cF,h1,h2,false_or,a18];rfl
def a0Z(f:Fmt):Int:=f.2.1*f.2.2.1 / 8
def a4Z(f:Fmt):List Int:=sBw 2 1++sBw 2 f.2.1++sBw 4 f.1++sBw 4 (f.1*a0Z f)++sBw 2 (a0Z f)++sBw 2 f.2.2.1
theorem a5Y(f:Fmt):(a4Z f).length=16:=by
 simp only[a4Z,lN,a1c]
theorem b5g{f:Fmt}(h:a3u f=true):wrap .i64 (a21 (wrap .i64 (f.2.1*f.2.2.1)) 8)=a0Z f∧0≤a0Z f∧a0Z f≤24∧wrap .i64 (f.1*a0Z f)=f.1*a0Z f∧0≤f.1*a0Z f∧f.1*a0Z f≤25165824:=by
 simp only[a3u,dT]at h;obtain⟨c,g,d,k,e,a⟩:=h;have b:0≤f.2.1*f.2.2.1∧f.2.1*f.2.2.1≤192:=by
  constructor;exact Int.mul_nonneg (by omega) (by omega);exact Int.le_trans (Int.mul_le_mul k a (by omega) (by omega)) (by decide)
 have hf:0≤a0Z f∧a0Z f≤24:=by unfold a0Z;omega
 have hp:0≤f.1*a0Z f∧f.1*a0Z f≤25165824:=by
  constructor;exact Int.mul_nonneg (by omega) hf.1;exact Int.le_trans (Int.mul_le_mul g hf.2 hf.1 (by omega)) (by decide)
 refine⟨?_,hf.1,hf.2,a0A (by omega),hp.1,hp.2⟩;rw[a0A (n:=f.2.1*f.2.2.1) (by omega),a30 b.1];exact a0A (by unfold a0Z at hf;omega)
theorem b7Z{f:Fmt}(h:a3u f=true):a5q f=some (a4Z f):=by
 obtain⟨g,-,-,a,-,-⟩:=b5g h;simp only[a5q,a54,g,a];have c:∀x:Int,a0U (wrap .u64 x,(2:Int))=some (sBw 2 x):=fun x=>a8w x (k:=2) (by decide);have d:∀x:Int,a0U (wrap .u64 x,(4:Int))=some (sBw 4 x):=fun x=>a8w x (k:=4) (by decide);have b:a0U ((1:Int),(2:Int))=some (sBw 2 1):=a8w 1 (k:=2) (by decide);simp only[b,c,d,oB,lN,a1c];rfl
def a8x(f:Fmt)(l:List Int):List Int:=[87,65,86,69]++a1s [102,109,116,32] (a4Z f)++a1s [100,97,116,97] (a5h f.2.2.1 l)
def a7Q(d:List Int):List Int:=[82,73,70,70]++sBw 4 (d.length:Int)++d
def b4o(f:Fmt)(l:List Int):List Int×Int:=
 if a1H f=false then([],1)
 else if a06 (l.length:Int) f.2.1≠0 then([],3)
 else if l.all (fit f.2.2.1)=false then([],6)
 else(a7Q (a8x f l),0)
theorem b0Z{b:Int}(hb:b=8∨b=16∨b=24)(l:List Int):(a5h b l).length=l.length*(b / 8).toNat:=by
 unfold a5h;split;rename_i h;subst h;simp;rw[a9x (a1c _)];congr 1;omega
theorem a3I{f:Fmt}(h:a1H f=true):a3u f=true∧(f.2.2.1=8∨f.2.2.1=16∨f.2.2.1=24)∧1≤f.2.1:=by
 simp only[a1H,bA,dT]at h;refine⟨h.1,h.2,?_⟩
 have:=h.1
 simp only[a3u,dT]at this;exact this.2.2.1
theorem few{n:Nat}{c:Int}(f:1≤c)(k:n≤100000):decide (wrap .i64 (a21 (n:Int) c) > (4194304:Int))=false:=by
 rw[a30 (by omega)];have h:0≤(n:Int) / c:=Int.ediv_nonneg (by omega) (by omega);have g:(n:Int) / c≤n:=Int.ediv_le_self _ (by omega);rw[a0A (by omega)]
 simp;omega
theorem c4M{f:Fmt}(hb:f.2.2.1=8∨f.2.2.1=16∨f.2.2.1=24){l:List Int}(h:l.length≤100000):(a8x f l).length<1000000:=by
 unfold a8x;simp only[lN,a4c,a5Y,b0Z hb,lC,a03]
 have:l.length*(f.2.2.1 / 8).toNat≤100000*3:=a04 h (by omega)
 omega
theorem b5h(f:Fmt){l:List Int}(n:l.length≤100000):a4J (f,l)=some (b4o f l):=by
 simp only[a4J,b5w,oB,b4o];cases hw:a1H f with
 |false=>simp
 |true=>
  obtain⟨z,hb,w⟩:=a3I hw;have t:(f.2.1==(0:Int))=false:=by
   simp only[beq_eq_false_iff_ne,ne_eq];omega
  simp only[bT,cF,t,few w n]
  by_cases hm:a06 (l.length:Int) f.2.1=0
  ·have o:(a06 (l.length:Int) f.2.1 != 0)=false:=by simpa using hm
   rw[o,if_neg (by simp),if_neg (by simpa using hm)];simp only[cF];obtain⟨m,y,e,d⟩:=b6o (fit f.2.2.1) l;have a:∀i,i<m→a1R (l,l,((a00 l:Nat):Int),(i:Int),f,())=some (.inl (l,l,((a00 l:Nat):Int),((i+1:Nat):Int),f,())):=fun i hi=>by
    have j:i<l.length:=by omega
    simp only[a1R];have b:decide ((i:Int)<((a00 l:Nat):Int))=true:=by simp;omega
    have v:wrap .i64 ((i:Int)+1)=((i+1:Nat):Int):=a0A (by omega);rw[b,a7M l j,v];simp only[cT,oB,a9w,e i j hi,bT,cF]
   rcases d with⟨h,rfl⟩|⟨h,q,c⟩
   ·have p:y0s a1R (l,l,((a00 l:Nat):Int),(0:Int),f,())=some (.inl (l,f,())):=
     a0X (f:=a1R) (fun i=>(l,l,((a00 l:Nat):Int),(i:Int),f,())) l.length a (by
      simp only[a1R];have b:decide ((l.length:Int)<((a00 l:Nat):Int))=false:=by simp
      rw[b];rfl)
    have hd:=b0Z hb l;have B:l.length*(f.2.2.1 / 8).toNat≤100000*3:=a04 n (by omega);have g:=c4M hb n;unfold a8x at g;rw[p,h,if_neg (by simp)];simp only[oB,c0L hb n h,b7Z z];have r:a4I (([102,109,116,32]:List Int),a4Z f)=some (a1s [102,109,116,32] (a4Z f)):=b9o (by rw[a5Y];decide);have s:a4I (([100,97,116,97]:List Int),a5h f.2.2.1 l)=some (a1s [100,97,116,97] (a5h f.2.2.1 l)):=b9o (by rw[hd];simp only[lC,a03];omega);have A:∀x:Int,a0U (wrap .u64 x,(4:Int))=some (sBw 4 x):=fun x=>a8w x (k:=4) (by decide);simp only[r,s,oB,a54,A];have u:((0:Int) != 0)=false:=rfl;rw[u];simp only[cF];simp only[lN,a4c,a5Y,lC,a03,a1c]at g⊢
    repeat rw[a0Q (by omega)]
    simp only[cT];unfold a7Q a8x;simp only[lN,a4c,a5Y,lC,a03]
   have p:y0s a1R (l,l,((a00 l:Nat):Int),(0:Int),f,())=some (.inr (6,[],())):=
    a0X (f:=a1R) (fun i=>(l,l,((a00 l:Nat):Int),(i:Int),f,())) m a (by
     simp only[a1R];have b:decide ((m:Int)<((a00 l:Nat):Int))=true:=by simp;omega
     rw[b,a7M l q];simp only[cT,oB,a9w,c,a53])
   rw[p,h,if_pos rfl];rfl
  have o:(a06 (l.length:Int) f.2.1 != 0)=true:=by simpa using hm
  rw[o,if_neg (by simp),if_pos hm];rfl
def a1W(l:List Int):Prop:=∀b∈l,0≤b∧b<256
def leN:List Int→Nat
 | []=>0
 |b::r=>b.toNat+256*leN r
theorem b9p:∀(l r:List Int),leN (l++r)=leN l+256^l.length*leN r
 | [],r=>by simp[leN]
 |b::l,r=>by
  simp only[a59,leN,b9p l r,lC,a41];rw[Nat.mul_add,a28 (256^l.length) 256,a98];omega
theorem b4p:∀(l:List Int),a1W l→leN l<256^l.length
 | [],_=>by simp[leN]
 |b::l,h=>by
  have f:=h b (by simp);have k:=b4p l fun x g=>h x (by simp[g]);simp only[leN,lC,a41];omega
theorem c9T{a b:Nat}{i:Nat}(h:a<2^i):a ||| (b*2^i)=a+b*2^i:=by
 have:=a43 h b
 rw[Nat.or_comm,a28 b,←this];omega
theorem d4S{a b:Nat}(f:a<18446744073709551616)(hb:b<18446744073709551616):bits .u64 .or (a:Int) (b:Int)=((a ||| b:Nat):Int):=by
 show wrap .u64 (((a01 64 (a:Int) ||| a01 64 (b:Int)).toNat:Nat):Int)=_;have h:(a01 64 (a:Int)).toNat=a:=by rw[a07];omega
 have g:(a01 64 (b:Int)).toNat=b:=by rw[a07];omega
 rw[a64,h,g];have k:a ||| b<2^64:=b07 f hb;exact a0K (by omega)
theorem c0M{i:Nat}(hi:i≤8):256^i≤18446744073709551616:=by
 have:256^i≤256^8:=a26 (by decide) hi
 simpa using this
theorem c4N{l:List Int}{i:Nat}(h:i<l.length):leN (l.take (i+1))=leN (l.take i)+l[i].toNat*256^i:=by
 rw[a31 h,b9p,a16,a66 (by omega)];simp only[leN,Nat.mul_zero,a79];rw[a28]
theorem c9U{l:List Int}(x:l.length≤8)(hb:a1W l)(r:(List Int)×(Int×Int×Unit)):
  y0s a2i ((0:Int),((a00 l:Nat):Int),(0:Int),l,r,())=some ((leN l:Int),r,()):=by
 have:=a0X (f:=a2i) (fun i=>((leN (l.take i):Int),((a00 l:Nat):Int),(i:Int),l,r,())) l.length (b:=((leN l:Int),r,())) (fun i hi=>by
  simp only[a2i];have k:decide ((i:Int)<((a00 l:Nat):Int))=true:=by simp;omega
  have m:decide ((0:Int)≤(i:Int))=true:=by simp
  have o:wrap .i64 ((8:Int)*(i:Int))=((8*i:Nat):Int):=by rw[a0A (by omega)];omega
  have a:decide (((8*i:Nat):Int)<0)=false:=by simp;omega
  have p:wrap .i64 ((i:Int)+1)=((i+1:Nat):Int):=a0A (by omega);have q:b05 l (a23 (i:Int)) (0:Int)=l[i]:=by
   rw[tN,lD,lG hi];rfl
  have u:=hb _ (a20 hi);obtain⟨c,j⟩:∃c:Nat,l[i]=(c:Int):=⟨l[i].toNat,by omega⟩;have hp:256^(i+1)≤18446744073709551616:=c0M (by omega);have h:leN (l.take i)<256^i:=by
   have:=b4p (l.take i) (fun b d=>hb b (a44 d))
   rwa [a16,a66 (by omega)]at this
  have g:(256:Nat)^i=2^(8*i):=by rw[show(256:Nat)=2^8 from rfl,←b08]
  have e:c*256^i<18446744073709551616:=by
   have:c*256^i<256^(i+1):=by
    rw[a41,a28];exact Nat.mul_lt_mul_of_pos_left (by omega) (Nat.pow_pos (by decide))
   omega
  have s:A0n .u64 (wrap .u64 (c:Int)) ((8*i:Nat):Int)=((c*256^i:Nat):Int):=by
   have v:min (a23 ((8*i:Nat):Int)) (IntKind.bits .u64)=8*i:=by
    simp only[tN,IntKind.bits];omega
   unfold A0n;rw[v,a0K (n:=(c:Int)) (by omega)]
   have:(c:Int)*2^(8*i)=((c*256^i:Nat):Int):=by rw[g];norm_cast
   rw[this];exact a0K (by omega)
  have t:bits .u64 .or (leN (l.take i):Int) ((c*256^i:Nat):Int)=(leN (l.take (i+1)):Int):=by
   have w:256^i≤18446744073709551616:=c0M (by omega);rw[d4S (by omega) e,c4N hi,j,tN];rw[g]at h⊢;rw[c9T h]
  rw[k,m,o,a,p,q,j,s,t];rfl) (by
  simp only[a2i];have k:decide ((l.length:Int)<((a00 l:Nat):Int))=false:=by simp
  rw[k,a32];rfl)
 exact this
theorem c8y{l:List Int}{p n:Nat}(o:l.length<1000000)(q:n<1000000)(hp:p≤l.length):
  a1Q ((l,(p:Int),(0:Int),()),(n:Int)) =
   some (if n≤l.length-p then((l.drop p).take n,l,((p+n:Nat):Int),(0:Int),())else([],l,(p:Int),(3:Int),())):=by
 simp only[a1Q,a1F,oB,b2y];have f:((0:Int) != 0)=false:=rfl;have k:max (n:Int) 0=(n:Int):=by omega
 have a:wrap .i64 ((l.length:Int)-(p:Int))=((l.length-p:Nat):Int):=by rw[a0A (by omega)];omega
 have b:wrap .i64 ((p:Int)+(n:Int))=((p+n:Nat):Int):=by rw[a0A (by omega)];omega
 rw[f,k,a,b]
 by_cases h:n≤l.length-p
 have g:decide ((n:Int) > ((l.length-p:Nat):Int))=false:=by simp;omega
 have c:decide ((0:Int)≤((p+n:Nat):Int))=true:=by simp;omega
 have d:decide (((p+n:Nat):Int)≤(l.length:Int))=true:=by simp;omega
 have e:decide ((0:Int)≤(p:Int))=true:=by simp
 have i:decide ((p:Int)≤((a23 ((p+n:Nat):Int):Nat):Int))=true:=by rw[tN];simp;omega
 have j:a49 (a23 (p:Int)) (a40 (a23 ((p+n:Nat):Int)) l)=(l.drop p).take n:=by
  rw[tN,tN,b21,a81]
 have m:lim (a00 ((l.drop p).take n))=true:=a0Q (by rw[a16,a33];omega);rw[g,c,d,e,i,j,m,if_pos h];rfl;have g:decide ((n:Int) > ((l.length-p:Nat):Int))=true:=by simp;omega
 rw[g,if_neg h];rfl
theorem c6f{l:List Int}(k:l.length≤7)(hb:a1W l):a1x l=some (leN l:Int):=by
 have b:=b4p l hb;have a:256^l.length≤256^7:=a26 (by decide) k;have g:(256:Nat)^7=72057594037927936:=by decide
 have f:a1G ((l.length:Nat):Int)=some ((l.length:Nat):Int):=by
  simp only[a1G,b1d,b2y];congr 1;omega
 have h:=c8y (l:=l) (p:=0) (n:=l.length) (by omega) (by omega) (Nat.zero_le _);rw[if_pos (by omega),List.drop_zero,a32]at h;rw[show((0:Nat):Int)=0 from rfl]at h;simp only[a1x,a3l,a6O];rw[a0Q (by omega)];simp only[cT,oB,f,h,c9U (by omega:l.length≤8) hb];rw[a0A (by omega)]
def sl(x:List Int)(a n:Nat):List Int:=(x.drop a).take n
theorem c1G{x:List Int}{a n:Nat}(h:a+n≤x.length):(sl x a n).length=n:=by
 unfold sl;rw[a16,a33];omega
theorem b1t{x:List Int}(h:a1W x)(a n:Nat):a1W (sl x a n):=fun b hb=>h b (a63 (a44 hb))
theorem d2M{x:List Int}(a n:Nat):(sl x a n).length≤n:=by
 unfold sl;rw[a16];omega
theorem c9V{x:List Int}(h:a1W x)(a:Nat){n:Nat}(g:n≤4):leN (sl x a n)<4294967296:=by
 have f:=b4p _ (b1t h a n);have k:256^(sl x a n).length≤256^4:=a26 (by decide) (b03 (d2M a n) g);have b:(256:Nat)^4=4294967296:=by decide
 omega
theorem b3f(x:List Int)(a b:Nat):a49 a (a40 b x)=sl x a (b-a):=by
 unfold sl;rw[b21]
theorem c0N(x:List Int)(b:Nat):a40 b x=sl x 0 b:=rfl
def a6k:Fmt:=(0,0,0,())
def a2Q(b:List Int):Fmt:=((leN (sl b 4 4):Int),(leN (sl b 2 2):Int),(leN (sl b 14 2):Int),())
def b9q(b:List Int):Bool:=
 decide (16≤b.length)&&(decide (leN (sl b 0 2)=1)&&(a1H (a2Q b)&&(decide ((leN (sl b 8 4):Int)=(a2Q b).1*a0Z (a2Q b))&&decide ((leN (sl b 12 2):Int)=a0Z (a2Q b)))))
def a5R(b:List Int):Fmt×Bool:=if b9q b=true then(a2Q b,true)else(a6k,false)
theorem a6M{b:List Int}(hb:a1W b)(a:Nat){n:Nat}(h:n≤4):a1x (sl b a n)=some (leN (sl b a n):Int):=
 c6f (b03 (d2M a n) (by omega)) (b1t hb a n)
theorem b8a{b:List Int}(hb:a1W b):a5r b=some (a5R b):=by
 simp only[a5r,b3f,a5R,b9q];simp only[c0N]
 by_cases hl:16≤b.length
 ·have k:decide (((a00 b:Nat):Int)<(16:Int))=false:=by simp;omega
  have d:decide ((2:Int)≤((a00 b:Nat):Int))=true:=by simp;omega
  have e:decide ((8:Int)≤((a00 b:Nat):Int))=true:=by simp;omega
  have i:decide ((4:Int)≤((a00 b:Nat):Int))=true:=by simp;omega
  have j:decide ((16:Int)≤((a00 b:Nat):Int))=true:=by simp;omega
  have l:decide ((12:Int)≤((a00 b:Nat):Int))=true:=by simp;omega
  have m:decide ((14:Int)≤((a00 b:Nat):Int))=true:=by simp;omega
  rw[k];simp only[cF,d,cT,a6M hb 0 (show 2≤4 by decide),oB,hl,decide_true,a18]
  by_cases h1:leN (sl b 0 2)=1
  ·have h:((leN (sl b 0 2):Int) != 1)=false:=by rw[h1];rfl
   rw[h];simp only[cF,e,cT,a6M hb 4 (show 8-4≤4 by decide),oB,i,a6M hb 2 (show 4-2≤4 by decide),j,a6M hb 14 (show 16-14≤4 by decide),h1,decide_true,a18];have n:a3J ((leN (sl b 4 (8-4)):Int),(leN (sl b 2 (4-2)):Int),(leN (sl b 14 (16-14)):Int),())=some (a1H (a2Q b)):=b5w (a2Q b);simp only[n,oB];cases hok:a1H (a2Q b)with
   |false=>simp[a6k]
   |true=>
    obtain⟨q1,-,-,o,-,-⟩:=b5g (a3I hok).1;have a:wrap .i64 (a21 (wrap .i64 ((leN (sl b 2 (4-2)):Int)*(leN (sl b 14 (16-14)):Int))) 8)=a0Z (a2Q b):=q1;have c:wrap .i64 ((leN (sl b 4 (8-4)):Int)*a0Z (a2Q b))=(a2Q b).1*a0Z (a2Q b):=o;simp only[bT,cF,l,cT,a6M hb 8 (show 12-8≤4 by decide),oB,a,c,m,a6M hb 12 (show 14-12≤4 by decide),a18]
    by_cases h2:(leN (sl b 8 4):Int)=(a2Q b).1*a0Z (a2Q b)
    have g:((leN (sl b 8 (12-8)):Int) != (a2Q b).1*a0Z (a2Q b))=false:=by simpa using h2
    rw[g]
    by_cases h3:(leN (sl b 12 2):Int)=a0Z (a2Q b)
    have f:((leN (sl b 12 (14-12)):Int) != a0Z (a2Q b))=false:=by simpa using h3
    rw[f];simp only[h2,h3,decide_true,a05,if_true];rfl;have f:((leN (sl b 12 (14-12)):Int) != a0Z (a2Q b))=true:=by simpa using h3
    rw[f];simp only[h3,decide_false,b20];rfl;have g:((leN (sl b 8 (12-8)):Int) != (a2Q b).1*a0Z (a2Q b))=true:=by simpa using h2
    rw[g];simp only[h2,decide_false,a56];rfl
  have h:((leN (sl b 0 2):Int) != 1)=true:=by
   simp only[bne_iff_ne,ne_eq];omega
  simp only[h,cT,h1,decide_false,a56];rfl
 have k:decide (((a00 b:Nat):Int)<(16:Int))=true:=by simp;omega
 rw[k];simp only[hl,decide_false,a56];rfl
theorem d4T{a b:Nat}(f:a<4294967296)(hb:b<4294967296):bits .i64 .or (a:Int) (b:Int)=((a ||| b:Nat):Int):=by
 show wrap .i64 (((a01 64 (a:Int) ||| a01 64 (b:Int)).toNat:Nat):Int)=_;have h:(a01 64 (a:Int)).toNat=a:=by rw[a07];omega
 have g:(a01 64 (b:Int)).toNat=b:=by rw[a07];omega
 rw[a64,h,g];have k:a ||| b<2^32:=b07 f hb;exact a0A (by omega)
def sgn(k:Nat)(n:Nat):Int:=if n<2^(8*k-1)then(n:Int)else(n:Int)-2^(8*k)
def b3E(k:Nat)(c:List Int)(i:Nat):Int:=sgn k (leN (sl c (i*k) k))
def a8y(k:Nat)(c:List Int):List Int:=(a02 (c.length / k)).map (b3E k c)
theorem c9W{c:List Int}(hb:a1W c)(C:c.length<1000000){k p:Nat}(D:k≤3)(hp:p+k≤c.length)(b:Int)(out:List Int):
  y0s a3v (c,b,(k:Int),(p:Int),(0:Int),(k:Int),(0:Int),out,())=some (c,b,(k:Int),(p:Int),(leN (sl c p k):Int),out,()):=by
 have B:(sl c p k).length=k:=c1G hp
 have:=a0X (f:=a3v) (fun i=>(c,b,(k:Int),(p:Int),(leN ((sl c p k).take i):Int),(k:Int),(i:Int),out,())) k (b:=(c,b,(k:Int),(p:Int),(leN (sl c p k):Int),out,())) (fun i hi=>by
  simp only[a3v];have d:decide ((i:Int)<(k:Int))=true:=by simp;omega
  have s:wrap .i64 ((p:Int)+(i:Int))=((p+i:Nat):Int):=by rw[a0A (by omega)];omega
  have t:wrap .i64 ((8:Int)*(i:Int))=((8*i:Nat):Int):=by rw[a0A (by omega)];omega
  have e:decide (((8*i:Nat):Int)<0)=false:=by simp;omega
  have u:wrap .i64 ((i:Int)+1)=((i+1:Nat):Int):=a0A (by omega);have a:p+i<c.length:=by omega
  have m:i<(sl c p k).length:=by omega
  have l:(sl c p k)[i]=c[p+i]:=by simp[sl]
  have y:=hb _ (a20 a);obtain⟨x,r⟩:∃x:Nat,c[p+i]=(x:Int):=⟨c[p+i].toNat,by omega⟩;have h:leN ((sl c p k).take i)<256^i:=by
   have:=b4p ((sl c p k).take i) (fun b j=>b1t hb p k b (a44 j))
   rwa [a16,a66 (by omega)]at this
  have g:(256:Nat)^i=2^(8*i):=by rw[show(256:Nat)=2^8 from rfl,←b08]
  have A:256^i≤256^2:=a26 (by decide) (by omega);have q:(256:Nat)^2=65536:=by decide
  have o:x*256^i<4294967296:=by
   have:x*256^i≤256*65536:=a04 (by omega) (by omega)
   omega
  have v:A0n .i64 (wrap .i64 (x:Int)) ((8*i:Nat):Int)=((x*256^i:Nat):Int):=by
   have z:min (a23 ((8*i:Nat):Int)) (IntKind.bits .i64)=8*i:=by
    simp only[tN,IntKind.bits];omega
   unfold A0n;rw[z,a0A (n:=(x:Int)) (by omega)]
   have:(x:Int)*2^(8*i)=((x*256^i:Nat):Int):=by rw[g];norm_cast
   rw[this];exact a0A (by omega)
  have w:bits .i64 .or (leN ((sl c p k).take i):Int) ((x*256^i:Nat):Int)=(leN ((sl c p k).take (i+1)):Int):=by
   rw[d4T (by omega) o,c4N m,l,r,tN];rw[g]at h⊢;rw[c9T h]
  rw[d,s,a7M c a];simp only[cT,oB];rw[t,e,u,r,v,w];rfl) (by
  simp only[a3v];have d:decide ((k:Int)<(k:Int))=false:=by simp
  rw[d,a58 (by omega)];rfl)
 exact this
theorem d3L{k n:Nat}(f:1≤k∧k≤3)(g:n<256^k):fit ((8*k:Nat):Int) (sgn k n)=true:=by
 have h:k=1∨k=2∨k=3:=by omega
 rcases h with rfl|rfl|rfl<;>simp only[fit,sgn]<;>simp at g⊢<;>split<;>omega
theorem c2y{c:List Int}(hb:a1W c)(C:c.length<100000){k:Nat}(p:1≤k∧k≤3):
  a7R (c,((8*k:Nat):Int))=some (if c.length%k=0 then(a8y k c,0)else([],3)):=by
 have u:decide (((8*k:Nat):Int)<(4:Int))=false:=by simp;omega
 have v:decide (((8*k:Nat):Int) > (24:Int))=false:=by simp;omega
 have w:wrap .i64 (a21 (wrap .i64 (((8*k:Nat):Int)+(7:Int))) (8:Int))=(k:Int):=by
  rw[a0A (n:=((8*k:Nat):Int)+7) (by omega),a30 (by omega),a0A (by omega)];omega
 have x:((k:Int)==0)=false:=by simp only[beq_eq_false_iff_ne,ne_eq];omega
 have y:a06 ((a00 c:Nat):Int) (k:Int)=((c.length%k:Nat):Int):=rfl;simp only[a7R,u,cF,oB,v,w,x,y]
 by_cases hm:c.length%k=0
 ·have l:(((c.length%k:Nat):Int) != 0)=false:=by rw[hm];rfl
  rw[l,if_pos hm];simp only[cF];obtain⟨n,s⟩:∃n,n=c.length / k:=⟨_,rfl⟩;have j:c.length=n*k:=by rw[s,a28];have:=b19 c.length k;omega
  have B:y0s a3w (c,((8*k:Nat):Int),(k:Int),(0:Int),([]:List Int),())=some (.inl (a8y k c,())):=by
   have:=a0X (f:=a3w) (fun i=>(c,((8*k:Nat):Int),(k:Int),((i*k:Nat):Int),(a02 i).map (b3E k c),())) n (b:=.inl ((a02 n).map (b3E k c),())) (fun i hi=>by
    have e:i*k+k≤c.length:=by
     rw[j,←a78];exact a39 _ hi
    simp only[a3w];have m:decide (((i*k:Nat):Int)<((a00 c:Nat):Int))=true:=by simp only[dT];omega
    rw[m];simp only[cT,c9W hb (by omega) p.2 e,oB];have z:wrap .i64 ((8:Int)*(k:Int))=((8*k:Nat):Int):=by rw[a0A (by omega)];omega
    have A:a3T ((8*k:Nat):Int)=some ((2:Int)^(8*k-1)-1):=by
     have:=(c4I (b:=((8*k:Nat):Int)) (by omega)).2.1
     rw[tN]at this;exact this
    have a:=b4p (sl c (i*k) k) (b1t hb _ _);rw[c1G e]at a;have o:decide (((8*k:Nat):Int)<0)=false:=by simp;omega
    have t:i<100000:=by
     have:i*1≤i*k:=a97 _ p.1
     omega
    have q:lim (a00 ((a02 i).map (b3E k c))+1)=true:=a0Q (by rw[a19,List.length_range];omega);have r:wrap .i64 (((i*k:Nat):Int)+(k:Int))=(((i+1)*k:Nat):Int):=by
     rw[a78,a0A (by omega)];omega
    have d:a1j (b3E k c i,((8*k:Nat):Int))=some true:=by
     rw[a9w];exact congrArg some (d3L p a)
    have g:(bif decide ((leN (sl c (i*k) k):Int) > (2:Int)^(8*k-1)-1)then(bif decide (((8*k:Nat):Int)<0)then(none:Option Int)else some (wrap .i64 ((leN (sl c (i*k) k):Int)-A0n .i64 1 ((8*k:Nat):Int))))else some (leN (sl c (i*k) k):Int))=some (b3E k c i):=by
     rw[o];simp only[b3E,cF]
     revert a
     generalize leN (sl c (i*k) k)=n;intro a;have h:k=1∨k=2∨k=3:=by omega
     rcases h with rfl|rfl|rfl<;>simp only[sgn,Bool.cond_eq_ite,dT]<;>simp at a⊢<;>split<;>split<;>first|omega|rfl|skip
     all_goals first|(congr 1;rw[show A0n .i64 1 8=256 from by decide,a0A (by omega)])|(congr 1;rw[show A0n .i64 1 16=65536 from by decide,a0A (by omega)])|(congr 1;rw[show A0n .i64 1 24=16777216 from by decide,a0A (by omega)])|skip
    rw[z];simp only[A,oB];cases hd:decide ((leN (sl c (i*k) k):Int) > (2:Int)^(8*k-1)-1)with
    |true=>
     rw[hd,o]at g;simp only[cT,cF,sj]at g;simp only[o,cT,cF,oB,g,d,bT,q,r,a36,pA];rfl
    |false=>
     rw[hd]at g;simp only[cF,sj]at g;simp only[cT,cF,oB,g,d,bT,q,r,a36,pA];rfl) (by
    simp only[a3w];have m:decide (((n*k:Nat):Int)<((a00 c:Nat):Int))=false:=by rw[j];simp
    rw[m];rfl)
   rw[Nat.zero_mul]at this;rw[a8y,←s];exact this
  rw[B];rfl
 have l:(((c.length%k:Nat):Int) != 0)=true:=by
  simp only[bne_iff_ne,ne_eq];omega
 rw[l,if_neg hm];rfl
def a4i(c:List Int)(f:Fmt):List Int×Int:=
 if a06 (c.length:Int) (a0Z f)≠0 then([],3)
 else if f.2.2.1=8 then(c.map (fun x=>x-128),0)
 else(a8y (f.2.2.1 / 8).toNat c,0)
theorem c1H{f:Fmt}(h:a1H f=true):∃c k:Nat,1≤c∧1≤k∧k≤3∧f.2.1=(c:Int)∧f.2.2.1=((8*k:Nat):Int)∧a0Z f=((c*k:Nat):Int)∧(f.2.2.1 / 8).toNat=k:=by
 obtain⟨-,hb,d⟩:=a3I h;obtain⟨k,b⟩:∃k:Nat,k=(f.2.2.1 / 8).toNat:=⟨_,rfl⟩;obtain⟨c,a⟩:∃c:Nat,f.2.1=(c:Int):=⟨f.2.1.toNat,by omega⟩;have g:f.2.2.1=((8*k:Nat):Int):=by omega
 refine⟨c,k,by omega,by omega,by omega,a,g,?_,b.symm⟩;unfold a0Z;rw[a,g,show((c:Int)*((8*k:Nat):Int))=(((c*k)*8:Nat):Int)from by
  rw[a98,a28 k 8];exact(a83 c (8*k)).symm]
 omega
theorem c0O{c:List Int}(hb:a1W c)(v:c.length<100000){f:Fmt}(hf:a1H f=true):a6P (c,f)=some (a4i c f):=by
 obtain⟨ch,k,s,l,t,w,b,d,y⟩:=c1H hf;obtain⟨q1,-,-,-,-,-⟩:=b5g (a3I hf).1;have m:1≤ch*k:=Nat.mul_pos s l;have o:(a0Z f==0)=false:=by simp only[beq_eq_false_iff_ne,ne_eq];omega
 simp only[a6P,q1,o,cF,few (show 1≤a0Z f by omega) (show c.length≤100000 by omega),a4i]
 by_cases hm:a06 (c.length:Int) (a0Z f)=0
 have h:(a06 (c.length:Int) (a0Z f) != 0)=false:=by simpa using hm
 rw[h,if_neg (by simpa using hm)];simp only[cF]
 by_cases h8:f.2.2.1=8
 have g:(f.2.2.1 != 8)=false:=by simpa using h8
 have p:(decide ((0:Int)≤((a00 c:Nat):Int))&&lim (a23 ((a00 c:Nat):Int)))=true:=by
  rw[tN,a0Q (by omega)];simp
 rw[g,if_pos h8,p];simp only[cF,cT];have u:y0s a3a (c,((a00 c:Nat):Int),(0:Int),([]:List Int),())=some (c.map (fun x=>x-128),()):=
  a0X (f:=a3a) (fun i=>(c,((a00 c:Nat):Int),(i:Int),(c.take i).map (fun x=>x-128),())) c.length (fun i hi=>by
   simp only[a3a];have a:decide ((i:Int)<((a00 c:Nat):Int))=true:=by simp;omega
   have q:wrap .i64 ((i:Int)+1)=((i+1:Nat):Int):=a0A (by omega);have z:=hb _ (a20 hi);have r:lim (a00 ((c.take i).map (fun x=>x-128))+1)=true:=a0Q (by rw[a19,a16];omega);rw[a,a7M c hi];simp only[cT,oB,q,r,c4L c hi,a0A (n:=c[i]) (by omega),a0A (n:=c[i]-128) (by omega)];rfl) (by
   simp only[a3a];have a:decide ((c.length:Int)<((a00 c:Nat):Int))=false:=by simp
   rw[a,a32];rfl)
 rw[u];rfl;have g:(f.2.2.1 != 8)=true:=by simpa using h8
 have j:c.length%k=0:=by
  rw[d]at hm;have e:c.length%(ch*k)=0:=by
   have:a06 (c.length:Int) ((ch*k:Nat):Int)=((c.length%(ch*k):Nat):Int):=rfl
   rw[this]at hm;omega
  exact Nat.mod_eq_zero_of_dvd (Nat.dvd_trans ⟨ch,a28 _ _⟩ (Nat.dvd_of_mod_eq_zero e))
 rw[g,if_neg h8,cT,y,b,c2y hb v ⟨l,t⟩,if_pos j];rfl;have h:(a06 (c.length:Int) (a0Z f) != 0)=true:=by simpa using hm
 rw[h,if_pos hm];rfl
@[reducible] def PSt:=List Int×(Bool×(Bool×(Fmt×List Int)))
def a5S(l:List Int)(hf hd:Bool)(f:Fmt)(rest:List Int):PSt ⊕ Int:=
 if rest.length<8 then .inr 3
 else if rest.length-8<leN (sl rest 4 4)+leN (sl rest 4 4)%2 then .inr 3
 else if b2s (sl rest 0 4)=[102,109,116,32]then
  (if hf=true then .inr 8 else if(a5R (sl rest 8 (leN (sl rest 4 4)))).2=false then .inr 2
   else .inl (l,true,hd,(a5R (sl rest 8 (leN (sl rest 4 4)))).1,rest.drop (8+leN (sl rest 4 4)+leN (sl rest 4 4)%2)))
 else if b2s (sl rest 0 4)=[100,97,116,97]then
  (if hf=false then .inr 12 else if hd=true then .inr 8 else if(a4i (sl rest 8 (leN (sl rest 4 4))) f).2≠0 then .inr (a4i (sl rest 8 (leN (sl rest 4 4))) f).2
   else .inl ((a4i (sl rest 8 (leN (sl rest 4 4))) f).1,hf,true,f,rest.drop (8+leN (sl rest 4 4)+leN (sl rest 4 4)%2)))
 else .inl (l,hf,hd,f,rest.drop (8+leN (sl rest 4 4)+leN (sl rest 4 4)%2))
def a2A:Nat→PSt→(List Int×(Bool×Bool×Fmt)) ⊕ Int
 |0,_=>.inr 0
 |n+1,(l,hf,hd,f,rest)=>if rest=[]then .inl (l,hf,hd,f)else match a5S l hf hd f rest with
  |.inr e=>.inr e
  |.inl s=>a2A n s
theorem c9X(b:List Int):(a5R b).2=true→a1H (a5R b).1=true:=by
 unfold a5R;split;rename_i h;intro _;simp only[b9q,bA]at h;exact h.2.2.1;intro h;cases h
theorem d3M{l:List Int}{hf hd:Bool}{f z:Fmt}{rest:List Int}(hb:a1W rest)(F:rest.length<100000)(q:hf=true→a1H f=true)(p:rest≠[]):
  a7S (l,hf,hd,rest,z,f,())=some (match a5S l hf hd f rest with
   |.inl (l',hf',hd',f',rest')=>.inl (l',hf',hd',rest',z,f',())
   |.inr e=>.inr (.inr ([],e,a6k,()))):=by
 have s:0<rest.length:=List.length_pos_iff.2 p;have t:decide (((a00 rest:Nat):Int) > (0:Int))=true:=by simp;omega
 simp only[a7S,b3f,t,cT,a5S]
 by_cases h8:rest.length<8
 have b:decide (((a00 rest:Nat):Int)<(8:Int))=true:=by simp;omega
 rw[b,if_pos h8];rfl
 ·have b:decide (((a00 rest:Nat):Int)<(8:Int))=false:=by simp;omega
  have u:decide ((8:Int)≤((a00 rest:Nat):Int))=true:=by simp;omega
  rw[b,if_neg h8,u];simp only[cF,cT,a6M hb 4 (show 8-4≤4 by decide),oB];obtain⟨n,r⟩:∃n,n=leN (sl rest 4 4):=⟨_,rfl⟩;have o:=c9V hb 4 (show 4≤4 by decide);have m:leN (sl rest 4 (8-4))=n:=r.symm;rw[←r]at o;rw[m];have C:wrap .i64 (((a00 rest:Nat):Int)-(8:Int))=((rest.length-8:Nat):Int):=by rw[a0A (by omega)];omega
  have B:a06 (n:Int) 2=((n%2:Nat):Int):=rfl;have w2:wrap .i64 ((n:Int)+((n%2:Nat):Int))=((n+n%2:Nat):Int):=by rw[a0A (by omega)];omega
  have D:wrap .i64 ((8:Int)+(n:Int))=((8+n:Nat):Int):=by rw[a0A (by omega)];omega
  have E:wrap .i64 (((8+n:Nat):Int)+((n%2:Nat):Int))=((8+n+n%2:Nat):Int):=by rw[a0A (by omega)];omega
  simp only[B,C,w2,D,E,tN]
  by_cases hs:rest.length-8<n+n%2
  have c:decide (((rest.length-8:Nat):Int)<((n+n%2:Nat):Int))=true:=by simp only[dT];omega
  rw[c,if_pos hs];rfl
  ·have c:decide (((rest.length-8:Nat):Int)<((n+n%2:Nat):Int))=false:=by simp only[decide_eq_false_iff_not];omega
   have v:decide ((4:Int)≤((a00 rest:Nat):Int))=true:=by simp;omega
   have w:(decide ((0:Int)≤((8+n:Nat):Int))&&decide (((8+n:Nat):Int)≤((a00 rest:Nat):Int)))=true:=by
    simp only[bA,dT];omega
   have x:decide ((8:Int)≤((8+n:Nat):Int))=true:=by simp only[dT];omega
   have y:(decide ((0:Int)≤((8+n+n%2:Nat):Int))&&decide (((8+n+n%2:Nat):Int)≤((a00 rest:Nat):Int)))=true:=by
    simp only[bA,dT];omega
   have A:∀j,sl rest 8 (8+j-8)=sl rest 8 j:=fun j=>by rw[a81]
   have i:sl rest (8+n+n%2) (a00 rest-(8+n+n%2))=rest.drop (8+n+n%2):=by
    unfold sl;rw[a58 (by rw[a33];omega)]
   rw[c,if_neg hs,v,w,x,y];simp only[cT,cF,A,i,c0N];have h:=b1t hb 8 n;have d:(sl rest 8 n).length<100000:=by
    unfold sl;rw[a16,a33];omega
   by_cases hF:b2s (sl rest 0 4)=[102,109,116,32]
   ·have g:(b2s (sl rest 0 4)==([102,109,116,32]:List Int))=true:=by simpa using hF
    rw[g,if_pos hF];simp only[cT];cases hf with
    |true=>rfl
    |false=>
     simp only[cF,b8a h,oB];cases hp:(a5R (sl rest 8 n)).2<;>rfl
   ·have g:(b2s (sl rest 0 4)==([102,109,116,32]:List Int))=false:=by simpa using hF
    rw[g,if_neg hF];simp only[cF]
    by_cases hD:b2s (sl rest 0 4)=[100,97,116,97]
    ·have k:(b2s (sl rest 0 4)==([100,97,116,97]:List Int))=true:=by simpa using hD
     rw[k,if_pos hD];simp only[cT];cases hf with
     |false=>rfl
     |true=>
      simp only[bT,cF];cases hd with
      |true=>rfl
      |false=>
       simp only[cF,c0O h d (q rfl),oB];rw[if_neg (show ¬ (true=false)by decide),if_neg (show ¬ (false=true)by decide)]
       by_cases he:(a4i (sl rest 8 n) f).2=0
       have a:((a4i (sl rest 8 n) f).2 != 0)=false:=by simpa using he
       rw[a,if_neg (by simp[he])];rfl;have a:((a4i (sl rest 8 n) f).2 != 0)=true:=by simpa using he
       rw[a,if_pos he];rfl
    have k:(b2s (sl rest 0 4)==([100,97,116,97]:List Int))=false:=by simpa using hD
    rw[k,if_neg hD];rfl
theorem b5x{l:List Int}{hf hd:Bool}{f:Fmt}{rest:List Int}{s:PSt}(h:a5S l hf hd f rest=.inl s)(g:hf=true→a1H f=true):
  8≤rest.length∧(∃m,8≤m∧s.2.2.2.2=rest.drop m)∧(s.2.1=true→a1H s.2.2.2.1=true):=by
 unfold a5S at h
 split at h
 cases h;rename_i k;refine⟨by omega,?_⟩
 split at h
 cases h
 split at h
 split at h
 cases h
 split at h
 cases h;rename_i hp;simp only[Sum.inl.injEq]at h;subst h;exact⟨⟨_,by omega,rfl⟩,fun _=>c9X _ (by simpa using hp)⟩
 split at h
 split at h
 cases h
 split at h
 cases h
 split at h
 cases h;simp only[Sum.inl.injEq]at h;subst h;exact⟨⟨_,by omega,rfl⟩,g⟩;simp only[Sum.inl.injEq]at h;subst h;exact⟨⟨_,by omega,rfl⟩,g⟩
theorem c1I:∀(n:Nat)(l:List Int)(hf hd:Bool)(f z:Fmt)(rest:List Int),rest.length<n→rest.length<100000→a1W rest→(hf=true→a1H f=true)→
  y0s a7S (l,hf,hd,rest,z,f,())=some (match a2A n (l,hf,hd,f,rest)with
   |.inl (l',a,k,f')=>.inl (l',a,k,z,f',())
   |.inr e=>.inr ([],e,a6k,()))
 |0,_,_,_,_,_,_,h,_,_,_=>by omega
 |n+1,l,hf,hd,f,z,rest,h,hl,hb,hok=>by
  by_cases hne:rest=[]
  subst hne;simp only[a2A,if_true];exact a0E rfl
  ·simp only[a2A,if_neg hne];have o:=d3M (l:=l) (hf:=hf) (hd:=hd) (f:=f) (z:=z) hb hl hok hne;cases hc:a5S l hf hd f rest with
   |inr e=>
    rw[hc]at o;exact a0E o
   |inl s=>
    obtain⟨l',a,k,f',g⟩:=s;rw[hc]at o;rw[a0F o];obtain⟨h8,⟨m,p,j⟩,hok'⟩:=b5x hc hok;simp only[]at j hok';have i:g.length<n:=by rw[j,a33];omega
    have c:g.length<100000:=by rw[j,a33];omega
    exact c1I n l' a k f' z g i c (fun b d=>hb b (by rw[j]at d;exact a63 d)) hok'
def b6p(x:List Int):Fmt×(List Int×Int):=
 if x.length<12 then(a6k,[],3)
 else if b2s (sl x 0 4)≠[82,73,70,70]∨b2s (sl x 8 4)≠[87,65,86,69]∨leN (sl x 4 4)<4 then(a6k,[],2)
 else if x.length-8<leN (sl x 4 4)then(a6k,[],3)
 else match a2A x.length ([],false,false,a6k,sl x 12 (leN (sl x 4 4)-4))with
  |.inr e=>(a6k,[],e)
  |.inl (l,hf,hd,f)=>if hf=true∧hd=true then(f,l,0)else(a6k,[],7)
theorem b9r{x:List Int}(hb:a1W x)(A:x.length<100000):a6l x=some (b6p x):=by
 simp only[a6l,b3f,b6p]
 by_cases h12:x.length<12
 have i:decide (((a00 x:Nat):Int)<(12:Int))=true:=by simp;omega
 rw[i,if_pos h12];rfl
 ·have i:decide (((a00 x:Nat):Int)<(12:Int))=false:=by simp;omega
  have t:decide ((8:Int)≤((a00 x:Nat):Int))=true:=by simp;omega
  have u:decide ((4:Int)≤((a00 x:Nat):Int))=true:=by simp;omega
  have v:decide ((12:Int)≤((a00 x:Nat):Int))=true:=by simp;omega
  obtain⟨n,j⟩:∃n,n=leN (sl x 4 4):=⟨_,rfl⟩;have m:=c9V hb 4 (show 4≤4 by decide);have k:a1x (sl x 4 (8-4))=some (n:Int):=by rw[j];exact a6M hb 4 (by decide)
  rw[←j]at m;rw[i,if_neg h12,t];simp only[cF,cT,k,oB,u,v,←j,c0N]
  by_cases hR:b2s (sl x 0 4)=[82,73,70,70]
  ·have a:(b2s (sl x 0 4) != ([82,73,70,70]:List Int))=false:=by simpa using hR
   rw[a];simp only[cF]
   by_cases hW:b2s (sl x 8 4)=[87,65,86,69]
   ·have b:(b2s (sl x 8 (12-8)) != ([87,65,86,69]:List Int))=false:=by simpa using hW
    rw[b];simp only[cF,oB]
    by_cases h4:n<4
    have c:decide ((n:Int)<4)=true:=by simp only[dT];omega
    rw[c,if_pos (.inr (.inr h4))];rfl
    ·have c:decide ((n:Int)<4)=false:=by simp only[decide_eq_false_iff_not];omega
     rw[c,if_neg (fun h=>h.elim (fun h=>h hR) fun h=>h.elim (fun h=>h hW) h4)];have y:wrap .i64 (((a00 x:Nat):Int)-(8:Int))=((x.length-8:Nat):Int):=by rw[a0A (by omega)];omega
     have z:wrap .i64 ((8:Int)+(n:Int))=((8+n:Nat):Int):=by rw[a0A (by omega)];omega
     simp only[cF,y,z,tN]
     by_cases hs:x.length-8<n
     have d:decide (((x.length-8:Nat):Int)<(n:Int))=true:=by simp only[dT];omega
     rw[d,if_pos hs];rfl
     ·have d:decide (((x.length-8:Nat):Int)<(n:Int))=false:=by simp only[decide_eq_false_iff_not];omega
      have p:(decide ((0:Int)≤((8+n:Nat):Int))&&decide (((8+n:Nat):Int)≤((a00 x:Nat):Int)))=true:=by
       simp only[bA,dT];omega
      have q:decide ((12:Int)≤((8+n:Nat):Int))=true:=by simp only[dT];omega
      rw[d,if_neg hs,p,q];simp only[cF,cT];have w:sl x 12 (8+n-12)=sl x 12 (n-4):=by congr 1;omega
      have g:(sl x 12 (n-4)).length<x.length:=by
       unfold sl;rw[a16,a33];omega
      have o:=c1I x.length [] false false a6k a6k (sl x 12 (n-4)) g (by omega) (b1t hb _ _) (by simp);rw[w];unfold a6k at o⊢;rw[o];simp only[oB];generalize a2A x.length _=r;cases r with
      |inr e=>rfl
      |inl s=>
       obtain⟨l,hf,hd,f⟩:=s;cases hf<;>cases hd<;>rfl
   have b:(b2s (sl x 8 (12-8)) != ([87,65,86,69]:List Int))=true:=by simpa using hW
   rw[b,if_pos (.inr (.inl hW))];rfl
  have a:(b2s (sl x 0 4) != ([82,73,70,70]:List Int))=true:=by simpa using hR
  rw[a,if_pos (.inl hR)];rfl
theorem d1P(l:List Int)(b:l.length<1000000):a9y (l,l)=some true:=by
 simp only[a9y];have e:(((a00 l:Nat):Int) != ((a00 l:Nat):Int))=false:=by simp
 rw[e];have a:y0s a4H (l,l,(0:Int),())=some (.inl ()):=
  a0X (f:=a4H) (fun i=>(l,l,(i:Int),())) l.length (fun i hi=>by
   simp only[a4H];have h:decide ((i:Int)<((a00 l:Nat):Int))=true:=by simp;omega
   have g:wrap .i64 ((i:Int)+1)=((i+1:Nat):Int):=a0A (by omega);have k:(l[i] != l[i])=false:=by simp
   rw[h,a7M l hi,g];simp only[cT,oB,k];rfl) (by
   simp only[a4H];have h:decide ((l.length:Int)<((a00 l:Nat):Int))=false:=by simp
   rw[h];rfl)
 rw[a];rfl
def b3g:List Int:=(b4o (8000,1,8,()) [-128,1]).1
theorem c6g:b1v ()=some true:=by
 have f:a4J (((8000:Int),(1:Int),(8:Int),()),([(-128:Int),(1:Int)]:List Int))=some (b3g,0):=by
  rw[b5h _ (by decide)];exact congrArg some (Prod.ext rfl (by decide +kernel))
 have hb:a1W b3g:=by
  have:b3g.all (fun b=>decide (0≤b∧b<256))=true:=by decide +kernel
  intro b hb;simpa using lA.1 this b hb
 have k:a6l b3g=some ((8000,1,8,()),[-128,1],0):=by
  rw[b9r hb (by decide +kernel)];exact congrArg some (by decide +kernel)
 simp only[b1v,f,k,oB];have h:((a00 b3g:Nat):Int)=46:=by decide +kernel
 have g:(b2s (a49 44 (a40 (a00 b3g) b3g))==([0,129]:List Int))=true:=by decide +kernel
 rw[g,h,d1P _ (by decide)];rfl
theorem b9s:∀(n:Nat)(l:List Int)(hf hd:Bool)(f:Fmt)(rest:List Int),rest.length<n→(hf=true→a1H f=true)→a2A (n+1) (l,hf,hd,f,rest)=a2A n (l,hf,hd,f,rest)
 |0,_,_,_,_,_,h,_=>by omega
 |n+1,l,hf,hd,f,rest,h,hok=>by
  by_cases hne:rest=[]
  simp only[a2A,if_pos hne]
  ·rw[a2A,a2A,if_neg hne,if_neg hne];cases hc:a5S l hf hd f rest with
   |inr e=>rfl
   |inl s=>
    obtain⟨l',a,k,f',g⟩:=s;obtain⟨h8,⟨m,c,b⟩,hok'⟩:=b5x hc hok;simp only[]at b hok';exact b9s n l' a k f' g (by rw[b,a33];omega) hok'
theorem b8b(n:Nat)(l:List Int)(hf hd:Bool)(f:Fmt)(rest:List Int)(g:hf=true→a1H f=true)(h:rest.length<n):∀k,a2A (n+k) (l,hf,hd,f,rest)=a2A n (l,hf,hd,f,rest)
 |0=>rfl
 |k+1=>by rw[←a76,b9s (n+k) l hf hd f rest (by omega) g,b8b n l hf hd f rest g h k]
theorem c9Y{n m:Nat}{l:List Int}{hf hd:Bool}{f:Fmt}{rest:List Int}(g:hf=true→a1H f=true)(h:rest.length<n)(k:rest.length<m):
  a2A n (l,hf,hd,f,rest)=a2A m (l,hf,hd,f,rest):=by
 rw[←b8b n l hf hd f rest g h m,←b8b m l hf hd f rest g k n,Nat.add_comm]
theorem c6G:∀(k n:Nat),leN (leB k n)=n%256^k
 |0,n=>by simp[leB,leN,Nat.mod_one]
 |k+1,n=>by
  rw[leB,leN,c6G k (n / 256),tN,a41,a28 (256^k) 256,Nat.mod_mul]
theorem c9Z(k:Nat)(x:Int):leN (sBw k x)=(x%18446744073709551616).toNat%256^k:=c6G _ _
theorem c0P{k n:Nat}(h:n<256^k)(g:k≤8):leN (sBw k (n:Int))=n:=by
 have:256^k≤18446744073709551616:=c0M g
 rw[c9Z,show((n:Int)%18446744073709551616).toNat=n from by omega,a47 h]
theorem b9t:∀(k n:Nat),a1W (leB k n)
 |0,_=>fun b hb=>by simp[leB]at hb
 |k+1,n=>fun b hb=>by
  rw[leB,mC]at hb;rcases hb with rfl|hb;omega;exact b9t k _ b hb
theorem a7g(k:Nat)(x:Int):a1W (sBw k x):=b9t _ _
theorem a2J{a b:List Int}(g:a1W a)(hb:a1W b):a1W (a++b):=fun x f=>by
 rcases mA.1 f with h|h;exact g x h;exact hb x h
theorem a7B{a b c:List Int}{n m:Nat}(g:a.length=n)(h:b.length=m):sl (a++(b++c)) n m=b:=by
 unfold sl;rw[a67 (by omega),a86 (by omega),a24,List.take_append_of_le_length (by omega),a58 (by omega)]
theorem c0Q{b c:List Int}{m:Nat}(h:b.length=m):sl (b++c) 0 m=b:=a7B (a:=[]) rfl h
theorem d1Q{a c:List Int}{n:Nat}(h:a.length=n):(a++c).drop n=c:=by
 rw[a67 (by omega),a86 (by omega),a24]
theorem c6h{name d more:List Int}(h:name.length=4)(hd:d.length<4294967296):
  sl (a1s name d++more) 0 4=name∧leN (sl (a1s name d++more) 4 4)=d.length∧sl (a1s name d++more) 8 d.length=d∧
   (a1s name d++more).drop (8+d.length+d.length%2)=more∧(a1s name d++more).length=8+d.length+d.length%2+more.length:=by
 have hp:(if d.length%2=1 then[(0:Int)]else[]).length=d.length%2:=by split<;>simp<;>omega
 have g:(sBw 4 (d.length:Int)).length=4:=a1c _ _;refine⟨?_,?_,?_,?_,?_⟩;unfold a1s;simp only[aA];exact c0Q h;unfold a1s;simp only[aA];rw[a7B h g];exact c0P (by simpa using hd) (by decide);unfold a1s;rw[show(name++sBw 4 ↑d.length++d++(if d.length%2=1 then[0]else[])++more)=((name++sBw 4 ↑d.length)++(d++((if d.length%2=1 then[0]else[])++more)))from by simp only[aA]]
 exact a7B (by rw[lN,h,g]) rfl;unfold a1s;exact d1Q (by simp only[lN,h,g,hp]);rw[lN,a4c,h]
theorem c8z{l:List Int}{hf hd:Bool}{f:Fmt}{name d more:List Int}(c:name.length=4)(b:d.length<4294967296):
  a5S l hf hd f (a1s name d++more) =
   if b2s name=[102,109,116,32]then
    (if hf=true then .inr 8 else if(a5R d).2=false then .inr 2 else .inl (l,true,hd,(a5R d).1,more))
   else if b2s name=[100,97,116,97]then
    (if hf=false then .inr 12 else if hd=true then .inr 8 else if(a4i d f).2≠0 then .inr (a4i d f).2 else .inl ((a4i d f).1,hf,true,f,more))
   else .inl (l,hf,hd,f,more):=by
 obtain⟨h,g,k,a,e⟩:=c6h (name:=name) (d:=d) (more:=more) c b;unfold a5S;rw[g,h,k,a,if_neg (by omega),if_neg (by omega)]
theorem d1R{name d more:List Int}(g:name.length=4):a1s name d++more≠[]:=by
 intro h
 have:=congrArg a00 h
 rw[lN,a4c,g]at this;simp at this
theorem b2F{k:Nat}{x:Int}(a:0≤x)(h:x<256^k)(f:k≤8):(leN (sBw k x):Int)=x:=by
 obtain⟨n,rfl⟩:∃n:Nat,x=(n:Int):=⟨x.toNat,by omega⟩;have g:(n:Int)<((256^k:Nat):Int):=by rw[Int.natCast_pow];exact h
 rw[c0P (Int.ofNat_lt.1 g) f]
theorem c6i{f:Fmt}(h:a1H f=true):a5R (a4Z f)=(f,true):=by
 obtain⟨d,hb,r⟩:=a3I h;obtain⟨-,n,o,-,p,q⟩:=b5g d;have g:=d;simp only[a3u,dT]at g;obtain⟨s,r2,t,u,v,w⟩:=g;have e:a4Z f=sBw 2 1++(sBw 2 f.2.1++(sBw 4 f.1++(sBw 4 (f.1*a0Z f)++(sBw 2 (a0Z f)++sBw 2 f.2.2.1)))):=by
  simp only[a4Z,aA]
 have i:sl (a4Z f) 0 2=sBw 2 1:=by rw[e];exact c0Q (a1c _ _)
 have j:sl (a4Z f) 2 2=sBw 2 f.2.1:=by rw[e];exact a7B (a1c _ _) (a1c _ _)
 have l:sl (a4Z f) 4 4=sBw 4 f.1:=by
  rw[e,←aA];exact a7B (by simp[a1c]) (a1c _ _)
 have m:sl (a4Z f) 8 4=sBw 4 (f.1*a0Z f):=by
  rw[e,←aA,←aA];exact a7B (by simp[a1c]) (a1c _ _)
 have a:sl (a4Z f) 12 2=sBw 2 (a0Z f):=by
  rw[e,←aA,←aA,←aA];exact a7B (by simp[a1c]) (a1c _ _)
 have b:sl (a4Z f) 14 2=sBw 2 f.2.2.1:=by
  rw[e,←aA,←aA,←aA,←aA,←a42 (sBw 2 f.2.2.1)];exact a7B (by simp[a1c]) (a1c _ _)
 have c:a2Q (a4Z f)=f:=by
  unfold a2Q;rw[l,j,b,b2F (by omega) (by omega) (by decide),b2F (by omega) (by omega) (by decide),b2F (by omega) (by omega) (by decide)]
 have ok:b9q (a4Z f)=true:=by
  simp only[b9q,c,h,i,m,a,a5Y,bA,dT,a18];refine⟨by omega,?_,?_,?_⟩
  have:=b2F (k:=2) (x:=1) (by omega) (by omega) (by decide);omega
  exact b2F (by omega) (by omega) (by decide);exact b2F (by omega) (by omega) (by decide)
 unfold a5R;rw[if_pos ok,c]
theorem d4U{k:Nat}(a:1≤k∧k≤3){x:Int}(h:fit ((8*k:Nat):Int) x=true):sgn k (leN (sBw k x))=x:=by
 simp only[fit,bA,dT,tN]at h;obtain⟨-,g,f⟩:=h;rw[c9Z]
 have:k=1∨k=2∨k=3:=by omega
 rcases this with rfl|rfl|rfl<;>simp only[sgn,Nat.reduceMul,Nat.reduceSub,a96,a75]at g f⊢<;>split<;>omega
theorem c4O{k:Nat}(c:1≤k∧k≤3){l:List Int}(h:l.all (fit ((8*k:Nat):Int))=true):a8y k (l.flatMap (sBw k))=l:=by
 have g:=a9x (a1c k) l;unfold a8y;rw[g,a70 _ (by omega)];refine a62 (by simp) fun i d a=>?_
 rw[List.getElem_map,List.getElem_range];have f:sl (l.flatMap (sBw k)) (i*k) k=sBw k l[i]:=by
  have e:l=l.take i++l[i]::l.drop (i+1):=by rw[←a74 a,a89]
  have b:l.flatMap (sBw k)=(l.take i).flatMap (sBw k)++(sBw k l[i]++(l.drop (i+1)).flatMap (sBw k)):=by
   rw[←a38,←a50,←e]
  rw[b];exact a7B (by rw[a9x (a1c k),a16,a66 (by omega)]) (a1c _ _)
 unfold b3E;rw[f];exact d4U c (lA.1 h _ (a20 a))
theorem c4P{f:Fmt}(hf:a1H f=true){l:List Int}(o:a06 (l.length:Int) f.2.1=0)(h:l.all (fit f.2.2.1)=true):a4i (a5h f.2.2.1 l) f=(l,0):=by
 obtain⟨-,hb,-⟩:=a3I hf;obtain⟨c,k,r,i,j,p,q,e,a⟩:=c1H hf;have g:=b0Z hb l;rw[a]at g;have b:a06 ((a5h f.2.2.1 l).length:Int) (a0Z f)=0:=by
  rw[p]at o;have m:l.length%c=0:=by
   have:((l.length%c:Nat):Int)=0:=o
   omega
  rw[g,e];show((l.length*k%(c*k):Nat):Int)=0;rw[a87,m];simp
 unfold a4i;rw[if_neg (by simp[b])]
 by_cases h8:f.2.2.1=8
 rw[if_pos h8];unfold a5h;rw[if_pos h8,a52];refine Prod.ext ?_ rfl;show List.map _ l=l
 have:∀x∈l,((fun x=>x-128)∘fun x=>(x+128)%256) x=x:=fun x d=>by
  have d:=lA.1 h x d;rw[h8]at d;simp only[fit,bA,dT]at d;have n:=d.2;simp only[show(8:Int).toNat-1=7 from rfl,a75]at n;simp only[Function.comp];omega
 rw[a35 this,List.map_id'];rw[if_neg h8];unfold a5h;rw[if_neg h8];refine Prod.ext ?_ rfl;show a8y _ _=l;rw[a,show((f.2.2.1+7) / 8).toNat=k from by omega];exact c4O ⟨i,j⟩ (by rw[←q];exact h)
def d9z:(List Int×(Bool×Bool×Fmt)) ⊕ Int→Fmt×(List Int×Int)
 |.inr e=>(a6k,[],e)
 |.inl (l,hf,hd,f)=>if hf=true∧hd=true then(f,l,0)else(a6k,[],7)
theorem c6j{body:List Int}(hb:body.length<4000000000)(g:List Int){N:Nat}(i:body.length<N):
  b6p (a7Q ([87,65,86,69]++body)++g)=d9z (a2A N ([],false,false,a6k,body)):=by
 obtain⟨d,hd⟩:∃d:List Int,d=[87,65,86,69]++body:=⟨_,rfl⟩;have j:d.length=4+body.length:=by rw[hd,lN];rfl
 have e:a7Q d++g=[82,73,70,70]++(sBw 4 (d.length:Int)++([87,65,86,69]++(body++g))):=by
  unfold a7Q;rw[hd];simp only[aA]
 rw[←hd];have k:sl (a7Q d++g) 0 4=[82,73,70,70]:=by rw[e];exact c0Q rfl
 have b:leN (sl (a7Q d++g) 4 4)=d.length:=by
  rw[e,a7B (a:=[82,73,70,70]) (n:=4) (m:=4) rfl (a1c _ _)];exact c0P (by omega) (by decide)
 have c:sl (a7Q d++g) 8 4=[87,65,86,69]:=by
  rw[e,←aA];exact a7B (by simp[a1c]) rfl
 have f:sl (a7Q d++g) 12 (d.length-4)=body:=by
  rw[e,←aA,←aA];exact a7B (by simp[a1c]) (by omega)
 have l:(a7Q d++g).length=8+d.length+g.length:=by
  rw[e];simp only[lN,a1c,lC,a03];omega
 unfold b6p;rw[k,b,c,f,if_neg (by omega),if_neg (by
  rintro(h|h|h)
  exact h rfl;exact h rfl;omega),if_neg (by omega),c9Y (n:=(a7Q d++g).length) (m:=N) (by simp) (by omega) i]
 rfl
def c4Q:List Int:=[102,109,116,32]
def b9u:List Int:=[100,97,116,97]
section
variable {l:List Int} {hf hd:Bool} {f:Fmt} {more d:List Int} {n:Nat}
theorem d1S:a2A (n+1) (l,hf,hd,f,[])=.inl (l,hf,hd,f):=by simp[a2A]
theorem b9v{name:List Int}(h:name.length=4)(g:d.length<4294967296):a2A (n+1) (l,hf,hd,f,a1s name d++more) =
  match (if b2s name=[102,109,116,32]then
    (if hf=true then .inr 8 else if(a5R d).2=false then .inr 2 else .inl (l,true,hd,(a5R d).1,more))
   else if b2s name=[100,97,116,97]then
    (if hf=false then .inr 12 else if hd=true then .inr 8 else if(a4i d f).2≠0 then .inr (a4i d f).2 else .inl ((a4i d f).1,hf,true,f,more))
   else .inl (l,hf,hd,f,more):PSt ⊕ Int)with
  |.inr e=>.inr e
  |.inl s=>a2A n s:=by
 rw[a2A,if_neg (d1R h),c8z h g]<;>rfl
theorem d1T{g:Fmt}(h:a1H g=true):a2A (n+1) (l,false,hd,f,a1s c4Q (a4Z g)++more)=a2A n (l,true,hd,g,more):=by
 rw[b9v rfl (by rw[a5Y];decide),if_pos (by decide),if_neg (by decide),c6i h,if_neg (by simp)]
theorem d0A(hf:a1H f=true)(k:a06 (d.length:Int) f.2.1=0)(h:d.all (fit f.2.2.1)=true)(g:(a5h f.2.2.1 d).length<4294967296):
  a2A (n+1) (l,true,false,f,a1s b9u (a5h f.2.2.1 d)++more)=a2A n (d,true,true,f,more):=by
 rw[b9v rfl g,if_neg (by decide),if_pos (by decide),if_neg (by decide),if_neg (by decide),c4P hf k h,if_neg (by simp)]
end
theorem c8A(f:Fmt):a1W (a4Z f):=by
 unfold a4Z;exact a2J (a2J (a2J (a2J (a2J (a7g _ _) (a7g _ _)) (a7g _ _)) (a7g _ _)) (a7g _ _)) (a7g _ _)
theorem c6k(b:Int)(l:List Int):a1W (a5h b l):=by
 unfold a5h;split;intro x h;obtain⟨y,-,rfl⟩:=a51.1 h;omega;intro x h;obtain⟨y,-,g⟩:=a77.1 h;exact a7g _ _ x g
theorem a9P{l:List Int}(h:l.all (fun b=>decide (0≤b∧b<256))=true):a1W l:=fun b hb=>by
 simpa using lA.1 h b hb
theorem b6q{name d:List Int}(h:a1W name)(hd:a1W d):a1W (a1s name d):=by
 unfold a1s;refine a2J (a2J (a2J h (a7g _ _)) hd) ?_
 split;exact a9P (by decide);exact a9P (by decide)
theorem c8B{d:List Int}(hd:a1W d):a1W (a7Q d):=by
 unfold a7Q;exact a2J (a2J (a9P (by decide)) (a7g _ _)) hd
def b5i(f:Fmt)(l:List Int)(m:Int):Bool:=a3u f&&(decide ((l.length:Int)≤m)&&(decide (a06 (l.length:Int) f.2.1=0)&&l.all (fit f.2.2.1)))
theorem c8C(f:Fmt)(l:List Int){m:Int}(s:m<1000000):b2i (f,l,m)=some (b5i f l m):=by
 simp only[b2i,c6e,oB,b5i];cases hr:a3u f with
 |false=>rfl
 |true=>
  simp only[bT,cF,a18];have n:=hr;simp only[a3u,dT]at n
  by_cases hl:(l.length:Int)≤m
  have c:decide (((a00 l:Nat):Int) > m)=false:=by simp only[decide_eq_false_iff_not];omega
  have o:(f.2.1==0)=false:=by simp;omega
  rw[c,o,decide_eq_true hl];simp only[cF,oB,a18]
  by_cases ht:a06 (l.length:Int) f.2.1=0
  have d:(a06 ((a00 l:Nat):Int) f.2.1 != 0)=false:=by simpa using ht
  rw[d,decide_eq_true ht];simp only[cF,a18];obtain⟨k,r,g,b⟩:=b6o (fit f.2.2.1) l;have q:y0s a7h (l,(0:Int),f,())=some (if l.all (fit f.2.2.1)=true then .inl ()else .inr (false,())):=
   a0X (f:=a7h) (fun i=>(l,(i:Int),f,())) k (fun i hi=>by
    simp only[a7h];have h:decide ((i:Int)<((a00 l:Nat):Int))=true:=by simp only[dT];omega
    have p:wrap .i64 ((i:Int)+1)=((i+1:Nat):Int):=a0A (by omega);rw[h,a7M l (by omega:i<l.length),p];simp only[cT,oB,c1F,g i (by omega) hi];rfl) (by
    simp only[a7h];rcases b with⟨e,rfl⟩|⟨e,j,a⟩;have h:decide ((l.length:Int)<((a00 l:Nat):Int))=false:=by simp
    rw[h,if_pos e];rfl;have h:decide ((k:Int)<((a00 l:Nat):Int))=true:=by simp only[dT];omega
    rw[h,a7M l j,e,if_neg (by simp)];simp only[cT,oB,c1F,a];rfl)
  rw[q];cases l.all (fit f.2.2.1)<;>rfl;have d:(a06 ((a00 l:Nat):Int) f.2.1 != 0)=true:=by simpa using ht
  rw[d,decide_eq_false ht];rfl;have c:decide (((a00 l:Nat):Int) > m)=true:=by simp only[dT];omega
  rw[c,decide_eq_false hl];rfl
theorem c6l(f:Fmt)(l:List Int){m:Int}(k:m<1000000):b1x (f,l,m)=some (b5i f l m&&decide (f.2.2.1=8∨f.2.2.1=16∨f.2.2.1=24)):=by
 simp only[b1x,c8C f l k,oB];cases b5i f l m with
 |false=>rfl
 |true=>
  by_cases h1:f.2.2.1=8
  simp[h1]
  by_cases h2:f.2.2.1=16
  simp[h2];have h:(f.2.2.1==(8:Int))=false:=by simpa using h1
  have g:(f.2.2.1==(16:Int))=false:=by simpa using h2
  rw[h,g]
  by_cases h3:f.2.2.1=24
  simp[h3];simp[h1,h2,h3]
theorem c8D{f:Fmt}{l:List Int}{m:Int}(h:(b5i f l m&&decide (f.2.2.1=8∨f.2.2.1=16∨f.2.2.1=24))=true):
  a1H f=true∧(l.length:Int)≤m∧a06 (l.length:Int) f.2.1=0∧l.all (fit f.2.2.1)=true∧b4o f l=(a7Q (a8x f l),0):=by
 simp only[b5i,bA,dT]at h;obtain⟨⟨b,c,g,k⟩,h5⟩:=h;have a:a1H f=true:=by simp[a1H,b,h5]
 refine⟨a,c,g,k,?_⟩;unfold b4o;rw[if_neg (by simp[a]),if_neg (by simp[g]),if_neg (by rw[k];simp)]
theorem c6m{f:Fmt}(hw:a1H f=true){l:List Int}{m:Int}(hl:(l.length:Int)≤m)(hm:m≤1000):(a5h f.2.2.1 l).length≤3000:=by
 obtain⟨-,hb,-⟩:=a3I hw;rw[b0Z hb];have h1:(f.2.2.1 / 8).toNat≤3:=by omega
 calc l.length*(f.2.2.1 / 8).toNat≤1000*3:=a04 (by omega) h1
  _=3000:=rfl
theorem b6r(f:Fmt)(l:List Int):a8x f l=[87,65,86,69]++(a1s c4Q (a4Z f)++(a1s b9u (a5h f.2.2.1 l)++[])):=by
 unfold a8x c4Q b9u;rw[a42,aA]
theorem b5j(f:Fmt):(a1s c4Q (a4Z f)).length=24:=by rw[a4c,a5Y];rfl
theorem b5k(d:List Int):(a1s b9u d).length=8+d.length+d.length%2:=by rw[a4c];rfl
theorem d1U{b x:Int}(hb:b=8∨b=16∨b=24)(h:fit b x=true):a1o x b=true:=by
 unfold fit at h;unfold a1o;simp only[bA,dT]at h⊢;obtain⟨c,a⟩:=h;refine⟨c.1,c.2,?_⟩;rcases hb with rfl|rfl|rfl;have g:A0n .i64 (-1) (8-1)=-128:=by decide
 have f:wrap .i64 (A0n .i64 1 (8-1)-1)=127:=by decide
 have k:((2:Int)^((8:Int).toNat-1))=128:=by decide
 rw[k]at a;rw[g,f];omega;have g:A0n .i64 (-1) (16-1)=-32768:=by decide
 have f:wrap .i64 (A0n .i64 1 (16-1)-1)=32767:=by decide
 have k:((2:Int)^((16:Int).toNat-1))=32768:=by decide
 rw[k]at a;rw[g,f];omega;have g:A0n .i64 (-1) (24-1)=-8388608:=by decide
 have f:wrap .i64 (A0n .i64 1 (24-1)-1)=8388607:=by decide
 have k:((2:Int)^((24:Int).toNat-1))=8388608:=by decide
 rw[k]at a;rw[g,f];omega
theorem c2z(x:a0L×(List Int×(Int×Int))):b0P x=some true:=by
 obtain⟨f,l,size,effort⟩:=x;unfold b0P;simp only[c6g,oB,bT,cF,c6l f l (m:=120) (by decide)];cases hwv:(b5i f l 120&&decide (f.2.2.1=8∨f.2.2.1=16∨f.2.2.1=24))with
 |false=>rfl
 |true=>
  obtain⟨d,s,e,g,b⟩:=c8D hwv;obtain⟨p,hb,-⟩:=a3I d;have hf:a6F f:=by
   simp only[a3u,dT]at p;exact p
  obtain⟨F,G,H,I,K,L⟩:=id hf;obtain⟨ch,k⟩:∃ch:Nat,f.2.1=(ch:Int):=⟨f.2.1.toNat,by omega⟩;have M:1≤ch:=by omega
  rw[k]at e;have t:l.length%ch=0:=by
   have:((l.length%ch:Nat):Int)=0:=e
   omega
  have u:l.length=(l.length / ch)*ch:=by have:=b19 l.length ch;rw[a28];omega
  have i:l.length / ch≤200:=b03 (a65 _ _) (by omega);have a:l.all (fun x=>a1o x f.2.2.1)=true:=lA.2 fun x B=>d1U hb (lA.1 g x B);obtain⟨v,hv,j⟩:=d4B 6 (by omega) size;obtain⟨w,c,n⟩:=d4B 2 (by omega) effort;rw[show((2^6-1:Nat):Int)=63 from rfl]at hv;rw[show((2^2-1:Nat):Int)=3 from rfl]at c;have z:v<64:=j;have A:w<4:=n;have y:wrap .i64 (1+(v:Int))=((v+1:Nat):Int):=by rw[a0A (by omega)];omega
  obtain⟨E,O,q,P,C,r,D⟩:=c9R hf k u i (sz:=v+1) (by omega) a (effort:=(w:Int)) (by omega) (by omega);have hd:=c6m d s (by decide);have h:a1W (a7Q (a8x f l)):=by
   refine c8B ?_
   rw[b6r];exact a2J (a9P (by decide)) (a2J (b6q (a9P (by decide)) (c8A f)) (a2J (b6q (a9P (by decide)) (c6k _ _)) (a9P (by decide))))
  have o:(a7Q (a8x f l)).length≤4000:=by
   unfold a7Q;rw[b6r];simp only[lN,a1c,b5j,b5k,lC,a03];omega
  have hp:b6p (a7Q (a8x f l))=(f,l,0):=by
   have:=c6j (body:=a1s c4Q (a4Z f)++(a1s b9u (a5h f.2.2.1 l)++[])) (N:=4000) (by simp only[lN,b5j,b5k,a03];omega) [] (by simp only[lN,b5j,b5k,a03];omega)
   rw[a42]at this;rw[b6r,this,d1T d,d0A d (by rw[k];exact e) g (by omega),d1S];rfl
  simp only[bT,cF,b5h f (show l.length≤100000 by omega),b,oB,b9r h (by omega),hp,hv,c,y,D,c8w hf q r,c8u hf q r,C];rw[show(mkT f E).1=f from rfl,b5h f (show l.length≤100000 by omega),b];simp only[oB,beq_self_eq_true,cT,c9S]
end Go.Ab
namespace Go.Proofs.YtjoohiokfkdfpaaGreatDoor
open Go.Ab Go.ChangeShapes Go.WideShapes Go.ChangeAt Go.RowKit
theorem b6s{α:Type}{f:Nat→Option (α×a0z×List Nat)}:∀(L:List α)(i:Nat),(∀(j:Nat) x,L[j]?=some x→f (i+j)=some (x,[],[]))→a0d f L.length i=some (L,[],[])
 | [],_,_=>rfl
 |a::L,i,h=>by
  have g:=h 0 a rfl;have k:=b6s L (i+1) (fun j x b=>by have:=h (j+1) x (by simpa using b);rw[←this];congr 1;omega);simp only[lC,a0d];simp only[a79]at g;rw[g,k];rfl
section
variable {H:Type} {enc:TypeId×Value→H} {P:Program} {w:World} {base:Nat} {spare:Nat→Bool} {held:Bool}
theorem c2A{k:IntKind}{n:Nat}{t e:TypeId}{fuel:Nat}{cs:List Value}{L:List Int}{p:List MemPlace}(B:P.underlying t=some (.array n e))(u:P.underlying e=some (.int k))(s:P.cellsOf e=1)
  (h:DataW.trod enc P w base spare held fuel t cs=some (.agg (L.map fun i=>.lit (.int k i)),p)):L.length=n∧∀(j:Nat) x,L[j]?=some x→cs[j]?=some (.int k x):=by
 obtain⟨C,m,rfl,b,-,A,a⟩:=DataW.trod_array B h;simp only[pJ,DataW.agg.injEq]at b;have z:L.length=n:=by rw[←A];simpa using congrArg a00 b.1
 refine⟨z,fun j x c=>?_⟩;obtain⟨v,-⟩:=lS.1 c;have g:=a j (by omega);rw[s]at g;obtain⟨y,d⟩:∃y,C[j]?=some y:=⟨_,lG (by omega)⟩;rw[d]at g;obtain⟨i,o,q,-⟩:=DataW.trod_int u g;have f:=congrArg (fun l=>l[j]?) b.1;simp only[List.getElem?_map,c,d,Option.map_some,q]at f;simp only[sj,DataW.lit.injEq,Lit.int.injEq,true_and]at f;subst f;have r:=congrArg (fun l=>l[0]?) o;simpa[b00,List.getElem?_take]using r
end
def c6H : String := (Rows.frameMovedRow.laid.map Prod.fst).headD ""
theorem d9A:Tryz.prog.globalNamed c6H=some 0:=by kernel_rfl
def d1V:TypeId:=((Tryz.prog.globals[0]?).map (·.type)).getD 0
theorem d3N:(Tryz.prog.globals[0]?).map (·.type)=some d1V:=by kernel_rfl
def d1W:TypeId:=match Tryz.prog.underlying d1V with
 |some (.array _ e)=>e
 |_=>0
theorem d9B:Tryz.prog.underlying d1V=some (.array 64 d1W):=by kernel_rfl
theorem d6D:Tryz.prog.underlying d1W=some (.int .u8):=by kernel_rfl
theorem d6E:Tryz.prog.cellsOf d1W=1:=by kernel_rfl
@[reducible] def laidTab:List (String×DataW Unit):=[(c6H,Rows.laid_math_bits_deBruijn64tab)]

theorem d4V {g:Nat} {t:Ty} {x:t.den} (h:G0 g=some ⟨t,x⟩):g=0∧(⟨t,x⟩:(t:Ty)×t.den)=⟨.arr 64 (.int .u8),b1u⟩:=by
 unfold G0 find at h
 cases g with
 |zero=>exact⟨rfl,(Option.some.inj h).symm⟩
 |succ n=>exact absurd h (by simp[find])
theorem c4R{W:World}(h:laidMetH Tryz.prog laidTab W):∀g t x,G0 g=some ⟨t,x⟩→g<W.heap.size∧dec (a0a W none) t ((Src.at g 0).rd (a0a W none))=some (x,[],[]):=by
 rw[MakeChecks.laidMetH_plain _ _ _ (by kernel_rfl)]at h;obtain⟨ps,⟨r,w,m,q,u,v,b,c,d,a,_⟩,_,_⟩:=h;obtain rfl:=Option.some.inj (d9A.symm.trans b);obtain rfl:=Option.some.inj (d3N.symm.trans c);have n:(Rows.laid_math_bits_deBruijn64tab:DataW Unit)=.agg (b1u.map fun i=>.lit (.int .u8 i)):=rfl;rw[n]at a;obtain⟨s,p⟩:=c2A d9B d6D d6E a;have k:∀(j:Nat) x,b1u[j]?=some x→W.cell? ⟨0,j,none⟩=some (.int .u8 x):=fun j x l=>by
  rw[World.var?_cell b d j];simpa using p j x l
 intro g t x o;obtain⟨rfl,e⟩:=d4V o;cases e;refine⟨z0m (k 0 0 rfl),?_⟩;exact b6s (f:=fun i=>dec (a0a W none) (.int .u8) fun j=>(Src.at 0 0).rd (a0a W none) (i*1+j)) b1u 0 (fun j x l=>by
  have:=k j x l
  simp only[dec,Src.rd,a0a,Nat.zero_add,Nat.mul_one,a79,this,if_true])
set_option maxRecDepth 100000 in
theorem d1X (os:Os) (args:Array Value):laidMetH Tryz.prog laidTab ((World.doorLaid Tryz.prog 400 os).forCall (fun _ _=>0) ⟨#[],args,[]⟩).memory:=
 laidMetH_of_parts3 (fuel:=8) (laidMet_of_run' 8 (by kernel_rfl) (by kernel_rfl)) (by kernel_rfl) (by kernel_rfl)
end Go.Proofs.YtjoohiokfkdfpaaGreatDoor
