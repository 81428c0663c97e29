/- Part of the proof: QUF. Conditions: as each statement tells. -/
import Derived.KernelRfl
import Derived.Test.YtbadoabamddpfaaGreatDoorRows
import Derived.ProofKit
import Derived.LaidMore
import Derived.LaidLaws
import Derived.LaidHandle
import Derived.LaidByTextLater
import Derived.OpenShut
import Derived.Handed
import Derived.Test.YtbadoabamddpfaaGreatDoorMG
noncomputable section
set_option linter.unusedSimpArgs false
set_option linter.unusedVariables false
open BitVec renaming ofInt→a00,xor_assoc→a16,toNat_ofInt→a23,getLsbD_ushiftRight→a34,toNat_and→a42,msb_eq_getLsbD_last→a54,eq_of_getLsbD_eq→a60,xor_comm→a61,getLsbD→a67,toNat_or→a86,xor_zero→a89
open Bool renaming and_self→a01,not_false→a32,true_and→a55,eq_false_iff→a81
open Int renaming natCast_nonneg→a02,tdiv→a21,toNat→a28,tmod→a46,fdiv_eq_ediv_of_nonneg→a52,natCast_mul→a88
open List renaming length→a03,range→a04,length_map→a05,replicate→a06,length_nil→a09,nil_append→a19,take_length→a22,flatMap_cons→a24,getElem_mem→a25,map_congr_left→a26,take→a27,drop→a30,length_singleton→a31,all_cons→a35,map_cons→a36,range_succ→a37,mem_map→a38,append_eq→a39,range_add→a40,foldl_append→a41,not_mem_nil→a43,append_nil→a47,map_map→a48,filter_append→a51,cons_append→a57,ext_getElem→a58,foldl_cons→a62,eq_replicate_iff→a65,mem_range→a66,drop_left→a68,flatMap_append→a71,getD_cons_succ→a72,length_pos_iff→a73,getElem?_drop→a74,getD→a82,mem_flatMap→a84,append→a85
open Nat renaming mul_le_mul→a07,lt_trans→a08,mod_lt→a20,and_two_pow_sub_one_eq_mod→a29,mul_le_mul_right→a33,mod_eq_of_lt→a44,pow_le_pow_right→a45,le_of_lt→a49,two_pow_add_eq_or_of_lt→a50,mul_mod→a53,add_assoc→a56,mul_comm→a59,le_refl→a63,div_lt_iff_lt_mul→a64,le_sub_one_of_lt→a69,div_lt_of_lt_mul→a70,pos_of_ne_zero→a75,eq_zero_or_pos→a76,mul_div_cancel→a77,pow_succ→a78,zero_add→a79,add_zero→a80,lt_succ_of_lt→a83,div_le_self→a87
open Option renaming bind_eq_some_iff→a18
namespace Go.Ab
open IntKind(wrap)
def a8R(f:a1m)(l:List Sub):a1m:=(f.1,f.2.1,f.2.2.1,f.2.2.2.1,l,())
theorem c6G(f:a1m):a8R f f.2.2.2.2.1=f:=rfl
theorem c0N(f g:a1m)(e:Int){N:Nat}(d:N≤8){Z:List Int}:∀(rest:List PZ)(done:List Sub)(P:List Int),done.length+rest.length=N→(∀p∈rest,c6F f.2.1 p)→OkR P (a0N rest++Z)→
  y0s a7R (e,(N:Int),(done.length:Int),g,a8R f done,rdr P (a0N rest++Z),())=some (.inl (e,g,a8R f (done++rest.map (·.1)),rdr (P++a0N rest) Z,()))
 | [],done,P,hl,_,_=>by
  have a:done.length=N:=by simpa using hl
  rw[a,a0E (b:=Sum.inl (e,g,a8R f done,rdr P Z,())) (by simp only[a7R,dge,cF];rfl)];simp[a0N]
 |p::rest,done,P,hl,h,hok=>by
  rw[lC]at hl;obtain⟨n,l,o⟩:=h p (by simp);have c:a0N (p::rest)++Z=a8l p.1 p.2++(a0N rest++Z):=by simp[a0N]
  rw[c]at hok⊢;have j:=d1j n l o hok;have i:decide ((done.length:Int)<(N:Int))=true:=by simp;omega
  have z0:((0:Int) != 0)=false:=rfl;rw[a0F (s':=(e,(N:Int),(((done++[p.1]).length:Nat):Int),g,a8R f (done++[p.1]),rdr (P++a8l p.1 p.2) (a0N rest++Z),())) (by
   have k:b2p (rdr P (a8l p.1 p.2++(a0N rest++Z)),(a8R f done).2.1)=some (p.1,(0:Int),rdr (P++a8l p.1 p.2) (a0N rest++Z)):=j;simp only[a7R,i,cT,k,oB,z0,cF];rw[show(a8R f done).2.2.2.2.1=done from rfl,a0T (show done.length+1<2147483648 by omega),cT,a0B (show done.length<1000000 by omega)];rw[show(((done++[p.1]).length:Nat):Int)=((done.length+1:Nat):Int)from by simp];rfl)]
  rw[c0N f g e d rest (done++[p.1]) _ (by simp;omega) (fun q m=>h q (by simp[m])) hok.shift];simp[a0N]
theorem b8D{L:List Int}(f:a1v L)(a:L.length<500000000)(t:Int×(Int×Unit)):∀(k i:Nat),i+k=L.length→(∀j,i≤j→L.getD j 0=0)→
  y0s a3j ((L.length:Int),(i:Int),((wL L).1,t),())=some (.inl ((L.length:Int),((wL L).1,t),()))
 |0,i,h,_=>by
  obtain rfl:i=L.length:=by omega
  exact a0E (by simp only[a3j,dge,cF])
 |k+1,i,h,h0=>by
  have g:i<L.length:=by omega
  have z:((0:Int)==1)=false:=rfl;have b:wrap .i64 ((i:Int)+1)=((i+1:Nat):Int):=by rw[a0C (by omega)];omega
  rw[a0F (s':=((L.length:Int),((i+1:Nat):Int),((wL L).1,t),())) (by
   simp only[a3j,dlt g,cT];rw[c1w f (by omega) g t,h0 i (a63 _)];simp only[oB,z,cF,b])]
  exact b8D f a t k (i+1) (by omega) (fun j c=>h0 j (by omega))
theorem c8T(L:List Int)(k j:Nat)(h:L.length≤j):(L++a06 k 0).getD j 0=0:=by
 rw[lD,List.getElem?_append_right h,List.getElem?_replicate]
 split<;>rfl
theorem c2i{L:List Int}(h:a1v L):a1v (a2y L):=h.app fun _ hb=>.inl (List.mem_replicate.1 hb).2
theorem c7L{L:List Int}(f:a1v L)(c:L.length≤5600000):∃r,a4V (rdr L (a06 (a4M L.length) 0))=some r∧r.2.2.1=0:=by
 have hp:(a2y L).length=L.length+a4M L.length:=by simp[a2y]
 have a:a4M L.length<8:=by unfold a4M;omega
 have b:(a2y L).length%8=0:=by rw[hp];unfold a4M;omega
 have z0:((0:Int) != 0)=false:=rfl;have g:wrap .i64 (wrap .i64 (a21 (wrap .i64 ((L.length:Int)+7)) 8)*8)=((a2y L).length:Int):=by
  rw[a0C (n:=(L.length:Int)+7) (by omega),show a21 ((L.length:Int)+7) 8=(((L.length+7) / 8:Nat):Int)from by
   rw[show((L.length:Int)+7)=((L.length+7:Nat):Int)from by omega];rfl,a0C (n:=(((L.length+7) / 8:Nat):Int)) (by omega),a0C (by omega),hp]
  unfold a4M;omega
 have h:=b8D (c2i f) (by omega) ((L.length:Int),(0:Int),()) (a4M L.length) L.length (by omega) (fun j k=>c8T L _ j k);refine⟨((wL (a2y L)).1,((a2y L).length:Int),(0:Int),()),?_,rfl⟩;unfold a4V rdr;simp only[z0,cF,g];rw[show L++a06 (a4M L.length) 0=a2y L from rfl,h];rfl
theorem d7m{v:Int}(h:0≤v∧v<65536):bits .u16 .or (A0n .u16 (wrap .u16 (v / 256)) 8) (wrap .u16 (v%256))=v:=by
 rw[b3q,b3q];have e:A0n .u16 (v / 256%65536) 8=((v.toNat / 256*256:Nat):Int):=by
  show wrap .u16 (v / 256%65536*256)=_;rw[b3q];omega
 rw[e];have g:v%256%65536=((v.toNat%256:Nat):Int):=by omega
 rw[g];show wrap .u16 (((a00 16 ((v.toNat / 256*256:Nat):Int) ||| a00 16 ((v.toNat%256:Nat):Int)).toNat:Nat):Int)=_;have f:(a00 16 ((v.toNat / 256*256:Nat):Int)).toNat=v.toNat / 256*256:=by rw[a23];omega
 have k:(a00 16 ((v.toNat%256:Nat):Int)).toNat=v.toNat%256:=by rw[a23];omega
 rw[a86,f,k];have e:v.toNat / 256*256 ||| v.toNat%256=v.toNat / 256*256+v.toNat%256:=by
  have:=a50 (i:=8) (b:=v.toNat%256) (by omega) (v.toNat / 256)
  rw[show 2^8*(v.toNat / 256)=v.toNat / 256*256 from by omega]at this;exact this.symm
 rw[e,b3q];omega
theorem c2M{f:a1m}(O:a4h f=some true)(u:frP f)(t:((f.2.2.2.2.1.length:Nat):Int)=f.2.2.1.2.1){zs:List PZ}(B:zs.map (·.1)=f.2.2.2.2.1)(hp:∀p∈zs,c6F f.2.1 p)(z:(a0N zs).length≤5600000)
  {R:List Int}(V:R.length≤200000000):a1C (a6w f (a0N zs)++R)=some (f,((a6w f (a0N zs)).length:Int),(0:Int)):=by
 have P:=b9d u z;have Q:=b8C (a9c f (a0N zs));have L:f.2.2.2.2.1.length≤8:=by have:=u.1.2.2.2.1;omega
 have N:=b7x (a0N zs);generalize hbd:a8Q (a0N zs)=body at *;have c:a6w f (a0N zs)=a9c f (a0N zs)++[a4a (a9c f (a0N zs)) / 256,a4a (a9c f (a0N zs))%256]:=rfl;have g:a9c f (a0N zs)=a1D f body.length++body:=by unfold a9c;rw[hbd]
 generalize hpb:a9c f (a0N zs)=pre at *;have o:a6w f (a0N zs)++R=a1D f body.length++(body++([a4a pre / 256,a4a pre%256]++R)):=by rw[c,g];simp
 have m:(a6w f (a0N zs)).length=pre.length+2:=by rw[c];simp
 have A:pre.length=(a1D f body.length).length+body.length:=by rw[g];simp
 have y:(a6w f (a0N zs)++R).length=pre.length+2+R.length:=by rw[lN,m]
 have k:=c6E u (body:=body.length) (by omega) (R:=body++([a4a pre / 256,a4a pre%256]++R)) (by rw[←o,y];omega);rw[←o]at k;generalize hx:a6w f (a0N zs)++R=x at *;have z0:((0:Int) != 0)=false:=rfl;have T:wrap .i64 (((a1D f body.length).length:Int)+(body.length:Int))=(pre.length:Int):=by rw[a0C (by omega)];omega
 have w2:wrap .i64 ((pre.length:Int)+2)=((pre.length+2:Nat):Int):=by rw[a0C (by omega)];omega
 have U:wrap .i64 ((pre.length:Int)+1)=((pre.length+1:Nat):Int):=by rw[a0C (by omega)];omega
 have C:decide ((x.length:Int)<((pre.length+2:Nat):Int))=false:=by simp;omega
 have D:decide ((0:Int)≤(pre.length:Int))=true:=by simp
 have E:decide ((pre.length:Int)≤(x.length:Int))=true:=by simp;omega
 have F:decide ((0:Int)≤((a1D f body.length).length:Int))=true:=by simp
 have G:decide (((a1D f body.length).length:Int)≤(pre.length:Int))=true:=by simp;omega
 have j:x=pre++([a4a pre / 256,a4a pre%256]++R):=by rw[←hx,c];simp
 have i:a27 pre.length x=pre:=by rw[j];simp
 have b:a30 (a1D f body.length).length pre=body:=by rw[g];simp
 have I:m0k x (pre.length:Int)=some (a4a pre / 256):=by rw[a0D (by omega)];congr 1;subst j;simp
 have K:m0k x ((pre.length+1:Nat):Int)=some (a4a pre%256):=by rw[a0D (by omega)];congr 1;subst j;simp
 have S:(a4a pre != bits .u16 .or (A0n .u16 (wrap .u16 (a4a pre / 256)) 8) (wrap .u16 (a4a pre%256)))=false:=by rw[d7m Q];exact bne_self_eq_false _
 have e:(a2y (a0N zs)).length<1000000000:=by omega
 have a:=d2t e;rw[show(wL (a2y (a0N zs))).1=body from hbd]at a;have v:OkR [] (a0N zs++a06 (a4M (a0N zs).length) 0):=⟨by rw[a19];exact c2i (c2g zs),by
  rw[a19];show(a2y (a0N zs)).length<_;omega⟩
 have h:=c0N f ((0:Int),(0:Int),((0:Int),(0:Int),(0:Int),()),([]:List a0L),([]:List Sub),()) (pre.length:Int) L zs [] [] (by rw[←B];simp) hp v;simp only[a19,a09,B,c6G]at h;have w:rdr [] (a2y (a0N zs))=rdr [] (a0N zs++a06 (a4M (a0N zs).length) 0):=rfl;obtain⟨r,q,s⟩:=c7L (c2g zs) z;have d:a2w (rdr (a0N zs) (a06 (a4M (a0N zs).length) 0))=some ((a4M (a0N zs).length:Int),rdr (a0N zs) (a06 (a4M (a0N zs).length) 0)):=by
  unfold a2w rdr
  have:(wL (a0N zs++a06 (a4M (a0N zs).length) 0)).1=body:=hbd
  simp only[this];have hp:(a2y (a0N zs)).length=(a0N zs).length+a4M (a0N zs).length:=by simp[a2y]
  rw[a0C (n:=8*(body.length:Int)) (by omega),a0C (by omega)];congr 2;omega
 have H:decide (((a4M (a0N zs).length:Nat):Int)≥8)=false:=by unfold a4M;simp;omega
 have M:a8R f []=c6D f:=rfl;have l:f.2.2.1.2.1=((f.2.2.2.2.1.length:Nat):Int):=t.symm;unfold a1C;rw[k];simp only[oB,z0,cF,T,w2,C,D,E,F,a01,cT,tN,i,c0K (show short pre by unfold short;omega),I,U,K,S,G,b,a,w];rw[show(c6D f).2.2.1.2.1=((f.2.2.2.2.1.length:Nat):Int)from l]
 erw[h]
 simp only[oB,d,H,cF,q,a0O,s,z0,O,bT,w2,m]
theorem b4a(x:Int):a9g x=some (a0A x):=by
 grind[a9g,a0A]
def a2z(c:List (List Int)):Prop:=1≤c.length∧c.length≤8∧(c.headD []).length≤4096∧c.all (fun r=>decide (r.length=(c.headD []).length)&&r.all a0A)=true
instance (c:List (List Int)):Decidable (a2z c):=by unfold a2z;infer_instance
theorem c2j{α:Type}{l:List α}{d:α}(h:0<l.length):l[0]=l.headD d:=by
 cases l with
 |nil=>grind
 |cons a l=>rfl
theorem c1A(c:List (List Int)):a7v c=some (decide (a2z c)):=by
 unfold a7v
 by_cases h1:((c.length:Nat):Int)<1
 have:¬ a2z c:=fun h=>by have:=h.1;omega
 simp_all
 by_cases h2:((c.length:Nat):Int) > 8
 have:¬ a2z c:=fun h=>by have:=h.2.1;omega
 simp_all;have b:0<c.length:=by omega
 have a:m0k c 0=some (c.headD []):=by rw[show(0:Int)=((0:Nat):Int)from rfl,a0D b,c2j (d:=[]) b]
 have l:decide (((c.length:Nat):Int)<1)=false:=by simp_all
 have m:decide (((c.length:Nat):Int) > 8)=false:=by simp_all
 simp only[l,m,cF,a,oB]
 by_cases h3:(((c.headD []).length:Nat):Int) > 4096
 rw[decide_eq_true h3,decide_eq_false (show ¬ a2z c from fun h=>by have:=h.2.2.1;omega)];rfl;have n:decide ((((c.headD []).length:Nat):Int) > 4096)=false:=by simp_all
 simp only[n,cF];have g:∀(i:Nat)(r:List Int),short r→y0s a4q (c,c,(c.length:Int),(i:Int),r,(r.length:Int),(0:Int),())=some (bif r.all a0A then Sum.inl (c,c,(c.length:Int),(i:Int),())else Sum.inr (false,())):=fun i r s=>by
  have:=a1O (f:=a4q) r (fun j=>(c,c,(c.length:Int),(i:Int),r,(r.length:Int),(j:Int),())) a0A (bt:=Sum.inl (c,c,(c.length:Int),(i:Int),())) (bf:=Sum.inr (false,()))
   (fun j h hp=>by simp only[a4q,dlt h,cT,a0D h,oB,b4a,hp,bT,cF,a0B (a08 h s)])
   (fun j h hp=>by simp_all[a4q,a0D,b4a])
   (by simp_all[a4q])
  omega
 have k:=a1O (f:=a4r) c (fun i=>(c,c,(c.length:Int),(i:Int),())) (fun r=>decide (r.length=(c.headD []).length)&&r.all a0A) (bt:=Sum.inl ()) (bf:=Sum.inr (false,()))
  (fun i h hp=>by
   simp only[bA,dT]at hp;have e:((((c[i]).length:Nat):Int) != (((c.headD []).length:Nat):Int))=false:=by simp_all
   have hi:=g i c[i] (by unfold short;omega);rw[hp.2,cT]at hi;simp only[a4r,dlt h,cT,a0D h,oB,a,e,cF,hi,a0B (show i<1000000 by omega)])
  (fun i h hp=>by
   by_cases hl:(c[i]).length=(c.headD []).length
   have e:((((c[i]).length:Nat):Int) != (((c.headD []).length:Nat):Int))=false:=by simp_all
   have hi:=g i c[i] (by unfold short;omega);rw[decide_eq_true hl,a55]at hp;rw[hp,cF]at hi;simp_all[a4r,a0D];have e:((((c[i]).length:Nat):Int) != (((c.headD []).length:Nat):Int))=true:=by grind
   simp only[a4r,dlt h,cT,a0D h,oB,a,e])
  (by simp_all[a4r])
 simp only[nZ]at k;rw[k];have o:1≤c.length:=by omega
 have p:c.length≤8:=by omega
 have q:(c.headD []).length≤4096:=by omega
 by_cases hA:c.all (fun r=>decide (r.length=(c.headD []).length)&&r.all a0A)=true
 rw[hA,decide_eq_true (show a2z c from⟨o,p,q,hA⟩)];rfl;rw[a81.2 hA,decide_eq_false (show ¬ a2z c from fun h=>hA h.2.2.2)];rfl
def a3k(c:List (List Int))(n:Nat):Prop:=∀r∈c,r.length=n∧r.all a0A=true
theorem c5l{c:List (List Int)}(h:a2z c):a3k c (c.headD []).length:=fun r g=>by
 have:=lA.1 h.2.2.2 r g
 simp_all
theorem b9e{c:List (List Int)}{n:Nat}(h:a3k c n)(g:1≤c.length)(f:c.length≤8)(b:n≤4096):a2z c:=by
 have a:(c.headD []).length=n:=by
  rw[←c2j (d:=[]) (show 0<c.length by omega)];exact(h _ (a25 _)).1
 refine⟨g,f,by omega,lA.2 fun r k=>?_⟩
 have:=h r k
 simp_all
theorem c2k{c:List (List Int)}{n:Nat}(h:a3k c n)(l:n≤5000)(j:c.length≤100):a7d c=some c:=by
 have:=a1N (f:=a6F) (β:=List (List Int)×Unit) c (fun i (a:List (List Int))=>(c,(c.length:Int),(i:Int),a,())) (fun a x=>.inl (a++[x])) (fun i a=>a.length=i) (fun a=>(a,()))
  (fun i hi a k=>⟨fun e g=>by
   simp at g;subst g;have m:=(h _ (a25 hi)).1;have d:∀y:List Int,List.set ([([]:List Int)]:List (List Int)) 0 y=[y]:=fun _=>rfl;refine⟨?_,by grind⟩;simp only[a6F,dlt hi,cT,a0D hi,oB,a8h (show short c[i]by unfold short;omega),d];rw[a0T (by grind),cT,a0B (show i<1000000 by omega)];rfl,fun b hb=>by grind⟩)
  (fun a k=>by simp_all[a6F]) (a:=[]) rfl
 simp_all[b3Z,a7d,a8Y]
def a8S(sign g:Int)(x y:Int):Int:=y+sign*(g*x / 256)
def a9K(sign g:Int)(xs ys:List Int):List Int:=List.zipWith (a8S sign g) xs ys
theorem c8U(sign g:Int){xs ys:List Int}(h:xs.length=ys.length):(a9K sign g xs ys).length=ys.length:=by simp[a9K,h]
theorem c8V{sign g x y:Int}(b:sign=1∨sign=-1)(c:-1024≤g∧g≤1024)(k:a0A x=true)(a:a0A y=true):
  wrap .i64 (y+wrap .i64 (sign*A0o .i64 (wrap .i64 (g*x)) 8))=a8S sign g x y:=by
 have k:=a1E.1 k;have a:=a1E.1 a;have f:-1099511627776≤g*x∧g*x≤1099511627776:=by
  have f:g.natAbs≤1024:=by omega
  have h:x.natAbs≤1073741824:=by omega
  have:=a07 f h
  rw[←Int.natAbs_mul]at this;omega
 rw[a0C (n:=g*x) (by omega)];have h:A0o .i64 (g*x) 8=g*x / 256:=by
  unfold A0o;show(g*x).fdiv (2^8)=_
  grind
 rw[h];unfold a8S;rcases b with rfl|rfl
 all_goals grind[a0C]
theorem b2j{α:Type}(c:List α){a b:Nat}(h:a≠b)(y d:α):(c.set b y).getD a d=c.getD a d:=by
 grind
theorem a7A{α:Type}(c:List α){b:Nat}(h:b<c.length)(y d:α):(c.set b y).getD b d=y:=by
 simp_all
theorem c0O{c:List (List Int)}{s:a0L}{sign:Int}(g:sign=1∨sign=-1)(b:-1024≤s.2.2.1∧s.2.2.1≤1024)(a0:0≤s.1)(i:0≤s.2.1)(f:s.1.toNat≠s.2.1.toNat)(hb:s.2.1.toNat<c.length)(k:s.2.1<(c.length:Int))
  {xs:List Int}(a:c.getD s.1.toNat []=xs)(w:xs.length≤5000):∀(sx suf px pre:List Int),px++sx=xs→px.length=pre.length→sx.length=suf.length→sx.all a0A=true→suf.all a0A=true→
  if(a9K sign s.2.2.1 sx suf).all a0A=true then
   y0s a3w (sign,(xs.length:Int),(pre.length:Int),c.set s.2.1.toNat (pre++suf),s,((s.1.toNat:Nat):Int),())=some (.inl (c.set s.2.1.toNat (pre++a9K sign s.2.2.1 sx suf),()))
  else ∃c',y0s a3w (sign,(xs.length:Int),(pre.length:Int),c.set s.2.1.toNat (pre++suf),s,((s.1.toNat:Nat):Int),())=some (.inr (false,c',()))
 | [],suf,px,pre,hx,hp,hl,_,_=>by
  have e:suf=[]:=List.length_eq_zero_iff.1 hl.symm;subst e;have p:pre.length=xs.length:=by simp_all
  rw[if_pos (by rfl),p];exact a0E (by simp only[a3w,dge,cF];rfl)
 |x::sx,[],px,pre,_,_,hl,_,_=>by simp_all
 |x::sx,y::suf,px,pre,hx,hp,hl,hwx,hwy=>by
  simp only[a35,bA]at hwx hwy;have v:pre.length<xs.length:=by grind
  have q:(c.set s.2.1.toNat (pre++y::suf)).getD (a28 ((s.1.toNat:Nat):Int)) []=xs:=by grind
  have r:(c.set s.2.1.toNat (pre++y::suf)).getD s.2.1.toNat []=pre++y::suf:=a7A _ hb _ _;have t:a82 xs (a28 (pre.length:Int)) 0=x:=by grind
  have u:a82 (pre++y::suf) (a28 (pre.length:Int)) 0=y:=by simp
  have j:decide ((0:Int)≤(pre.length:Int))=true:=by simp
  have l:decide ((pre.length:Int)<(xs.length:Int))=true:=by simp_all
  have m:decide ((0:Int)≤s.2.1)=true:=by simp_all
  have n:decide (s.2.1<(((c.set s.2.1.toNat (pre++y::suf)).length:Nat):Int))=true:=by simp_all
  have o:decide ((pre.length:Int)<(((pre++y::suf).length:Nat):Int))=true:=by grind
  have hv:=c8V g b hwx.1 hwy.1;have z:wrap .i64 ((pre.length:Int)+1)=((pre.length+1:Nat):Int):=a0B (by omega);have A:a9K sign s.2.2.1 (x::sx) (y::suf)=a8S sign s.2.2.1 x y::a9K sign s.2.2.1 sx suf:=rfl;have d:List.set (c.set s.2.1.toNat (pre++y::suf)) s.2.1.toNat (List.set (pre++y::suf) (a28 (pre.length:Int)) (a8S sign s.2.2.1 x y))=c.set s.2.1.toNat ((pre++[a8S sign s.2.2.1 x y])++suf):=by
   simp
  have h:a3w (sign,(xs.length:Int),(pre.length:Int),c.set s.2.1.toNat (pre++y::suf),s,((s.1.toNat:Nat):Int),()) =
    bif !(a0A (a8S sign s.2.2.1 x y))then some (.inr (Sum.inr (false,c.set s.2.1.toNat (pre++y::suf),())))
    else some (.inl (sign,(xs.length:Int),((pre.length+1:Nat):Int),c.set s.2.1.toNat ((pre++[a8S sign s.2.2.1 x y])++suf),s,((s.1.toNat:Nat):Int),())):=by
   simp only[a3w,l,cT,q,r,j,a01,m,n,o,t,u,b4a,hv,oB,z]
   simp
  cases hwv:a0A (a8S sign s.2.2.1 x y)with
  |false=>
   simp_all[a0E]
  |true=>
   rw[hwv]at h;have B:=c0O g b a0 i f hb k a w sx suf (px++[x]) (pre++[a8S sign s.2.2.1 x y]) (by simp_all) (by grind) (by simp_all) hwx.2 hwy.2;rw[a0F h,A];simp_all
def a3D(sign:Int)(s:a0L)(c:List (List Int)):Option (List (List Int)):=
 let r:=a9K sign s.2.2.1 (c.getD s.1.toNat []) (c.getD s.2.1.toNat [])
 if r.all a0A=true then some (c.set s.2.1.toNat r)else none
theorem a8n{c:List (List Int)}{n:Nat}(h:a3k c n){i:Nat}(hi:i<c.length):(c.getD i []).length=n∧(c.getD i []).all a0A=true:=by
 rw[lD,lG hi];exact h _ (a25 hi)
theorem c3X{c:List (List Int)}{n:Nat}(a:a3k c n)(w:n≤5000){s:a0L}(p:a2r (c.length:Int) s=true){sign:Int}(k:sign=1∨sign=-1):
  ∃b f,a7W (c,s,sign)=some (b,f)∧match a3D sign s c with|some r=>b=true∧f=r|none=>b=false:=by
 obtain⟨a1,u,d,e,v,j,l⟩:=a2P.1 p;have q:=a8n a (i:=s.1.toNat) (by omega);have t:=a8n a (i:=s.2.1.toNat) (by omega);have hb:s.2.1.toNat<c.length:=by omega
 have g:c.set s.2.1.toNat (c.getD s.2.1.toNat [])=c:=by
  simp_all
 have:=c0O k ⟨j,l⟩ a1 d (by omega) hb e (rfl:c.getD s.1.toNat []=_) (by omega) (c.getD s.1.toNat []) (c.getD s.2.1.toNat []) [] [] rfl rfl (by omega) q.2 t.2
 rw[a19,g]at this;simp only[a09,nZ,a19,Int.cast_ofNat_Int]at this;have m:decide ((0:Int)≤s.1)=true:=by simp_all
 have o:decide (s.1<(c.length:Int))=true:=by simp_all
 unfold a7W a3D;simp only[m,o,a01,cT]
 by_cases hA:(a9K sign s.2.2.1 (c.getD s.1.toNat []) (c.getD s.2.1.toNat [])).all a0A=true
 simp_all;rw[if_neg hA]at this⊢;obtain⟨f,h⟩:=this;simp_all
theorem b3k{c c':List (List Int)}{n:Nat}(g:a3k c n){s:a0L}(k:a2r (c.length:Int) s=true){sign:Int}(h:a3D sign s c=some c'):a3k c' n∧c'.length=c.length:=by
 obtain⟨a1,a,b,d,e,j,l⟩:=a2P.1 k;have o:=a8n g (i:=s.1.toNat) (by omega);have p:=a8n g (i:=s.2.1.toNat) (by omega);unfold a3D at h;simp only at h
 split at h
 rename_i m;cases h;refine⟨fun r f=>?_,by simp⟩;rcases List.mem_or_eq_of_mem_set f with f|rfl;exact g r f;simp_all[c8U];simp_all
theorem c3Y(g:Int):∀xs ys:List Int,xs.length=ys.length→a9K (-1) g xs (a9K 1 g xs ys)=ys
 | [],[],_=>rfl
 |x::xs,y::ys,h=>by
  have f:=c3Y g xs ys (by simpa using h);show a8S (-1) g x (a8S 1 g x y)::a9K (-1) g xs (a9K 1 g xs ys)=_;rw[f];unfold a8S;congr 1;omega
 | [],_::_,h=>by grind
 |_::_,[],h=>by rfl
theorem c7M{c c':List (List Int)}{n:Nat}(g:a3k c n){s:a0L}(f:a2r (c.length:Int) s=true)(h:a3D 1 s c=some c'):a3D (-1) s c'=some c:=by
 obtain⟨a1,a,b,d,e,j,l⟩:=a2P.1 f;have m:=a8n g (i:=s.1.toNat) (by omega);have k:=a8n g (i:=s.2.1.toNat) (by omega);have hb:s.2.1.toNat<c.length:=by omega
 unfold a3D at h;simp only at h
 split at h
 cases h;unfold a3D;simp only;rw[b2j _ (show s.1.toNat≠s.2.1.toNat by omega),a7A _ hb,c3Y _ _ _ (by omega),if_pos k.2,List.set_set];simp_all;simp_all
def doO:List a0L→List (List Int)→Option (List (List Int))
 | [],c=>some c
 |s::l,c=>(a3D 1 s c).bind (doO l)
def b1b:List a0L→List (List Int)→Option (List (List Int))
 | [],c=>some c
 |s::l,c=>(b1b l c).bind (a3D (-1) s)
theorem b3r{n:Nat}{N:Nat}:∀(l:List a0L){c c':List (List Int)},a3k c n→c.length=N→l.all (a2r (N:Int))=true→doO l c=some c'→a3k c' n∧c'.length=N
 | [],c,c',hc,hl,_,h=>by cases h;simp_all
 |s::l,c,c',hc,hl,hs,h=>by
  simp only[a35,bA]at hs;simp[doO,a18]at h;obtain⟨d,g,f⟩:=h;obtain⟨k,a⟩:=b3k hc (by simp_all) g;exact b3r l k (by omega) hs.2 f
theorem c5m{n:Nat}{N:Nat}:∀(l:List a0L){c c':List (List Int)},a3k c n→c.length=N→l.all (a2r (N:Int))=true→doO l c=some c'→b1b l c'=some c
 | [],c,c',_,_,_,h=>by cases h;rfl
 |s::l,c,c',hc,hl,hs,h=>by
  simp only[a35,bA]at hs;simp only[doO,a18]at h;obtain⟨d,g,f⟩:=h;obtain⟨k,a⟩:=b3k hc (by rw[hl];exact hs.1) g;simp only[b1b];rw[c5m l k (by omega) hs.2 f];exact c7M hc (by rw[hl];exact hs.1) g
def b9f:Option (List (List Int))→List (List Int)×Int
 |some r=>(r,0)
 |none=>([],6)
theorem c5n{n N:Nat}(a:n≤5000){l:List a0L}(m:l.length≤16)(j:l.all (a2r (N:Int))=true):∀(k i:Nat)(c:List (List Int)),i+k=l.length→a3k c n→c.length=N→
  y0s a7Z (l,(l.length:Int),(i:Int),c,())=some (match doO (l.drop i) c with|some r=>Sum.inl (r,())|none=>Sum.inr ([],6,()))
 |0,i,c,h,_,_=>by
  obtain rfl:i=l.length:=by omega
  rw[List.drop_length];exact a0E (by simp only[a7Z,dge,cF];rfl)
 |k+1,i,c,h,hc,hcl=>by
  have hi:i<l.length:=by omega
  rw[List.drop_eq_getElem_cons hi];have d:a2r (c.length:Int) l[i]=true:=by grind
  obtain⟨b,g,e,f⟩:=c3X hc a d (sign:=1) (.inl rfl);simp[doO];cases hst:a3D 1 l[i] c with
  |none=>
   simp_all[a0E,a7Z,a0D]
  |some r=>
   rw[hst]at f;obtain⟨rfl,rfl⟩:=f;obtain⟨o,p⟩:=b3k hc d hst;rw[a0F (s':=(l,(l.length:Int),((i+1:Nat):Int),g,())) (by
    simp only[a7Z,dlt hi,cT,a0D hi,oB,e,bT,cF,a0B (show i<1000000 by omega)])]
   rw[c5n a m j k (i+1) g (by omega) o (by omega)];rfl
theorem c2S(c:List (List Int))(l:List a0L):b2m (c,l)=some (if a2z c∧a4Z l (c.length:Int)then b9f (doO l c)else([],1)):=by
 unfold b2m;simp only[c1A,oB]
 by_cases hq:a2z c
 have h:=c5l hq;simp only[hq,decide_true,bT,cF,b5d,oB,true_and]
 by_cases hm:a4Z l (c.length:Int)
 simp[hm];rw[c2k h (by have:=hq.2.2.1;omega) (by have:=hq.2.1;omega)]
 have:=c5n (N:=c.length) (by have:=hq.2.2.1;omega:(c.headD []).length≤5000) hm.2.2.1 hm.2.2.2 l.length 0 c (by omega) h rfl
 simp at this
 simp
 erw[this]
 cases doO l c<;>rfl;simp_all;simp_all
theorem c0P(s:a0L):∀(l:List a0L)(c:List (List Int)),b1b (l++[s]) c=(a3D (-1) s c).bind (b1b l)
 | [],c=>by
  show a3D (-1) s c=_;cases a3D (-1) s c<;>rfl
 |t::l,c=>by
  simp only[a57,b1b,c0P s l];cases a3D (-1) s c<;>rfl
theorem c2l{n N:Nat}(g:n≤5000){l:List a0L}(i:l.all (a2r (N:Int))=true)(z:List (List Int))(e:Int):∀(k:Nat)(c:List (List Int)),k≤l.length→a3k c n→c.length=N→
  match b1b (l.take k) c with
  |some r=>l0f a6h l k (l,z,e,c,())=some (.inl (l,z,e,r,()))
  |none=>∃d,l0f a6h l k (l,z,e,c,())=some (.inr (.ret,l,[],6,d,()))
 |0,c,_,_,_=>rfl
 |k+1,c,hk,hc,hcl=>by
  have hi:k<l.length:=by omega
  have f:a2r (c.length:Int) l[k]=true:=by grind
  obtain⟨b,a,m,h⟩:=c3X hc g f (sign:=-1) (.inr rfl);rw[List.take_succ_eq_append_getElem hi,c0P];cases hst:a3D (-1) l[k] c with
  |none=>
   simp_all[l0f,a6h]
  |some r=>
   rw[hst]at h;obtain⟨rfl,rfl⟩:=h;obtain⟨j,p⟩:=b3k hc f hst;have o:=c2l g i z e k a (by omega) j (by omega);simp_all[l0f,a6h]
theorem d1k(c:List (List Int))(l:List a0L):b1M (c,l)=some (if a2z c∧a4Z l (c.length:Int)then b9f (b1b l c)else([],1)):=by
 unfold b1M;simp only[c1A,oB]
 by_cases hq:a2z c
 ·have h:=c5l hq;simp only[hq,decide_true,bT,cF,b5d,oB,true_and]
  by_cases hm:a4Z l (c.length:Int)
  ·simp[hm];rw[c2k h (by have:=hq.2.2.1;omega) (by have:=hq.2.1;omega)]
   have:=c2l (N:=c.length) (by have:=hq.2.2.1;omega:(c.headD []).length≤5000) hm.2.2.2 [] 0 l.length c (a63 _) h rfl
   rw[a22]at this;simp[a0T (show l.length<2147483648 by have:=hm.2.2.1;omega)];cases hu:b1b l c with
   |some r=>
    rw[hu]at this;simp only at this
    erw[this]
    rfl
   |none=>
    rw[hu]at this;obtain⟨d,g⟩:=this
    erw[g]
    rfl
  simp_all
 simp_all
def a0Y(b:a1p):Nat:=(b.2.1.headD []).length
theorem a6x(b:a1p):a4e b=some ((a0Y b:Nat):Int):=by
 unfold a4e a0Y;obtain⟨d,c,u⟩:=b;cases c with
 |nil=>rfl
 |cons r c=>
  rfl
def a3O(b:a1p):Prop:=4≤b.1∧b.1≤24∧1≤b.2.1.length∧b.2.1.length≤8∧1≤a0Y b∧a0Y b≤4096∧b.2.1.all (fun r=>decide (r.length=a0Y b)&&r.all fun x=>a1k x b.1)=true
instance (b:a1p):Decidable (a3O b):=by unfold a3O;infer_instance
theorem b4b{x w:Int}(h:4≤w∧w≤24):a1Q (x,w)=some (a1k x w):=by
 have:=a6t (x:=x) (w:=w.toNat) (by omega)
 grind
theorem a8o(b:a1p):a4f b=some (decide (a3O b)):=by
 unfold a4f a6W
 by_cases h1:4≤b.1
 rotate_left;rw[decide_eq_false (show ¬ a3O b from fun h=>h1 h.1),decide_eq_false h1];rfl
 by_cases h2:b.1≤24
 rotate_left;rw[decide_eq_false (show ¬ a3O b from fun h=>h2 h.2.1),decide_eq_true h1,decide_eq_false h2];rfl
 by_cases h3:((b.2.1.length:Nat):Int)<1
 rw[decide_eq_false (show ¬ a3O b from fun h=>by have:=h.2.2.1;omega),decide_eq_true h1,decide_eq_true h2,decide_eq_true h3];rfl
 by_cases h4:((b.2.1.length:Nat):Int) > 8
 rw[decide_eq_false (show ¬ a3O b from fun h=>by have:=h.2.2.2.1;omega),decide_eq_true h1,decide_eq_true h2,decide_eq_false h3,decide_eq_true h4];rfl;have a:decide (((b.2.1.length:Nat):Int)<1)=false:=by simp_all
 have c:decide (((b.2.1.length:Nat):Int) > 8)=false:=by simp_all
 simp only[decide_eq_true h1,decide_eq_true h2,a,c,cT,cF,oB,bT,a6x]
 by_cases h5:((a0Y b:Nat):Int)<1
 rw[decide_eq_false (show ¬ a3O b from fun h=>by have:=h.2.2.2.2.1;omega),decide_eq_true h5];rfl
 by_cases h6:((a0Y b:Nat):Int) > 4096
 rw[decide_eq_false (show ¬ a3O b from fun h=>by have:=h.2.2.2.2.2.1;omega),decide_eq_false h5,decide_eq_true h6];rfl;have d:decide (((a0Y b:Nat):Int)<1)=false:=by simp_all
 have l:decide (((a0Y b:Nat):Int) > 4096)=false:=by simp_all
 simp[d,l];have g:∀(i:Nat)(r:List Int),short r→y0s a4l (b.2.1,(b.2.1.length:Int),(i:Int),r,(r.length:Int),(0:Int),b,())=some (bif r.all (fun x=>a1k x b.1)then Sum.inl (b.2.1,(b.2.1.length:Int),(i:Int),b,())else Sum.inr (false,())):=fun i r m=>by
  have:=a1O (f:=a4l) r (fun j=>(b.2.1,(b.2.1.length:Int),(i:Int),r,(r.length:Int),(j:Int),b,())) (fun x=>a1k x b.1) (bt:=Sum.inl (b.2.1,(b.2.1.length:Int),(i:Int),b,())) (bf:=Sum.inr (false,()))
   (fun j h hp=>by simp only[a4l,dlt h,cT,a0D h,oB,b4b ⟨h1,h2⟩,hp,bT,cF,a0B (a08 h m)])
   (fun j h hp=>by simp_all[a4l,a0D,b4b])
   (by simp_all[a4l])
  omega
 have k:=a1O (f:=a4m) b.2.1 (fun i=>(b.2.1,(b.2.1.length:Int),(i:Int),b,())) (fun r=>decide (r.length=a0Y b)&&r.all fun x=>a1k x b.1) (bt:=Sum.inl ()) (bf:=Sum.inr (false,()))
  (fun i h hp=>by
   simp only[bA,dT]at hp;have e:((((b.2.1[i]).length:Nat):Int) != ((a0Y b:Nat):Int))=false:=by simp_all
   have hi:=g i b.2.1[i] (by unfold short;omega);rw[hp.2,cT]at hi;simp only[a4m,dlt h,cT,a0D h,oB,a6x,e,cF,hi,a0B (show i<1000000 by omega)])
  (fun i h hp=>by
   by_cases hl:(b.2.1[i]).length=a0Y b
   have e:((((b.2.1[i]).length:Nat):Int) != ((a0Y b:Nat):Int))=false:=by simp_all
   have hi:=g i b.2.1[i] (by unfold short;omega);rw[decide_eq_true hl,a55]at hp;rw[hp,cF]at hi;simp_all[a4m,a0D,a6x];have e:((((b.2.1[i]).length:Nat):Int) != ((a0Y b:Nat):Int))=true:=by grind
   simp only[a4m,dlt h,cT,a0D h,oB,a6x,e])
  (by simp_all[a4m])
 simp at k;rw[k]
 by_cases hA:b.2.1.all (fun r=>decide (r.length=a0Y b)&&r.all fun x=>a1k x b.1)=true
 rw[hA,decide_eq_true (show a3O b from⟨h1,h2,by omega,by omega,by omega,by omega,hA⟩)];rfl;rw[a81.2 hA,decide_eq_false (show ¬ a3O b from fun h=>hA h.2.2.2.2.2.2)];rfl
def a7E{α β:Type}(g:α→Option β):List α→Option (List β)
 | []=>some []
 |a::l=>(g a).bind fun b=>(a7E g l).bind fun r=>some (b::r)
theorem b9g{α β:Type}{g:α→Option β}:∀{l:List α}{r:List β},a7E g l=some r→r.length=l.length
 | [],r,h=>by cases h;rfl
 |a::l,r,h=>by
  simp only[a7E,a18]at h;obtain⟨b,-,c,f,k⟩:=h;cases k;simp[b9g f]
theorem c2m{α β:Type}{g:α→Option β}:∀{l:List α}{r:List β},a7E g l=some r→∀a∈l,(g a).isSome=true
 | [],r,h,a,ha=>by cases ha
 |a::l,r,h,x,hx=>by
  simp only[a7E,a18]at h;obtain⟨b,f,d,k,c⟩:=h;rcases mC.1 hx with rfl|hx;rw[f];rfl;exact c2m k x hx
def a9q(f:a1m):Option a1p:=
 if frP f∧((f.2.2.2.2.1.length:Nat):Int)=f.2.2.1.2.1 then
  (a7E (fun s=>a2g s f.2.1) f.2.2.2.2.1).bind fun rs=>
   if a2z rs∧a4Z f.2.2.2.1 (rs.length:Int)then
    (b1b f.2.2.2.1 rs).bind fun ch=>if a3O (f.2.2.1.2.2.1,ch,())then some (f.2.2.1.2.2.1,ch,())else none
   else none
 else none
def b2w:a1p:=(0,[],())
def d7n:Option a1p→a1p×Int
 |some b=>(b,0)
 |none=>(b2w,1)
theorem b8E(f:a1m)(all:List Sub)(i:all.length≤8):∀(rest done:List Sub)(rows:List (List Int)),done++rest=all→rows.length=done.length→(∀s∈rest,SmallS s)→
  y0s a4A (all,(all.length:Int),(done.length:Int),rows,b2w,f,())=some (match a7E (fun s=>a2g s f.2.1) rest with|some rs=>Sum.inl (rows++rs,b2w,f,())|none=>Sum.inr (1,b2w,()))
 | [],done,rows,hd,hr,_=>by
  have e:done=all:=by simpa using hd
  subst e;rw[a0E (b:=Sum.inl (rows,b2w,f,())) (by simp only[a4A,dge,cF])];simp[a7E]
 |s::rest,done,rows,hd,hr,h=>by
  have j:=h s (by simp);have k:done.length<all.length:=by rw[←hd];simp
  have a:m0k all (done.length:Int)=some s:=by rw[a0D k];subst hd;simp
  have g:=b9I j f.2.1;simp only[a7E];cases ho:a2g s f.2.1 with
  |none=>
   rw[ho]at g;have d:((1:Int) != 0)=true:=rfl;exact a0E (by simp only[a4A,dlt k,cT,a,oB,g,d];rfl)
  |some r=>
   rw[ho]at g;have c:((0:Int) != 0)=false:=rfl;rw[a0F (s':=(all,(all.length:Int),(((done++[s]).length:Nat):Int),rows++[r],b2w,f,())) (by
    simp only[a4A,dlt k,cT,a,oB,g,c,cF,a0T (show rows.length+1<2147483648 by omega),a0B (show done.length<1000000 by omega)]
    simp)]
   rw[b8E f all i rest (done++[s]) (rows++[r]) (by simpa using hd) (by simp[hr]) (fun t l=>h t (by simp[l]))];simp only[oB];cases a7E (fun s=>a2g s f.2.1) rest<;>simp
theorem c3Z{f:a1m}(b:∀s∈f.2.2.2.2.1,SmallS s):a2O f=some (d7n (a9q f)):=by
 unfold a2O a9q;simp only[b5E,oB]
 by_cases hf:frP f
 rotate_left;simp only[hf,decide_false,a32,cT,oB,false_and,if_false];rfl
 by_cases hl:((f.2.2.2.2.1.length:Nat):Int)=f.2.2.1.2.1
 rotate_left;have e:(((f.2.2.2.2.1.length:Nat):Int) != f.2.2.1.2.1)=true:=by simpa using hl
 simp only[hf,decide_true,bT,cF,oB,e,cT,hl,and_false,if_false];rfl;have e:(((f.2.2.2.2.1.length:Nat):Int) != f.2.2.1.2.1)=false:=by simpa using hl
 have a:f.2.2.2.2.1.length≤8:=by have:=hf.1.2.2.2.1;omega
 have k:decide ((0:Int)≤((f.2.2.2.2.1.length:Nat):Int))=true:=by simp
 have h:=b8E f f.2.2.2.2.1 a f.2.2.2.2.1 [] [] rfl rfl b;rw[a09]at h;rw[if_pos ⟨hf,hl⟩];simp only[hf,decide_true,bT,cF,oB,e,k,tN,a0T (show f.2.2.2.2.1.length<2147483648 by omega),a01,cT]
 erw[h]
 cases hm:a7E (fun s=>a2g s f.2.1) f.2.2.2.2.1 with
 |none=>rfl
 |some rs=>
  simp only[oB,a19,d1k]
  by_cases hq:a2z rs∧a4Z f.2.2.2.1 (rs.length:Int)
  ·simp only[if_pos hq];cases hu:b1b f.2.2.2.1 rs with
   |none=>rfl
   |some ch=>
    have g:((0:Int) != 0)=false:=rfl;simp only[b9f,g,cF,a8o,oB]
    by_cases hb:a3O (f.2.2.1.2.2.1,ch,())
    simp only[hb,decide_true,bT,cF,if_true];rfl;simp only[hb,decide_false,a32,cT,if_false];rfl
  simp only[if_neg hq];rfl
theorem d2w{f:a1m}(h:∀s∈f.2.2.2.2.1,SmallS s):a4h f=some (a9q f).isSome:=by
 unfold a4h;rw[c3Z h];cases a9q f<;>rfl
theorem b7y{f:a1m}{b:a1p}(h:a9q f=some b):frP f∧((f.2.2.2.2.1.length:Nat):Int)=f.2.2.1.2.1∧∀s∈f.2.2.2.2.1,(a2g s f.2.1).isSome=true:=by
 unfold a9q at h
 split at h
 rename_i g;simp only[a18]at h;obtain⟨a,k,-⟩:=h;exact⟨g.1,g.2,c2m k⟩;cases h
theorem c6H{f:a1m}{b:a1p}(k:∀s∈f.2.2.2.2.1,SmallS s)(h:a9q f=some b):∃L,L.length≤5600000∧some ((L.length:Nat):Int)=f.2.2.2.2.1.foldr (fun s a=>a.bind fun a=>(a3W (s,f.2.1)).bind fun c=>some (c+a)) (some 0)∧
  a4j f=some (a6w f L,0)∧(∀R:List Int,R.length≤200000000→a1C (a6w f L++R)=some (f,((a6w f L).length:Int),(0:Int))):=by
 obtain⟨g,j,l⟩:=b7y h;have d:a4h f=some true:=by rw[d2w k,h];rfl
 have m:f.2.2.2.2.1.length≤8:=by have:=g.1.2.2.2.1;omega
 obtain⟨t,o,p,i,q,r⟩:=c3W d g m (fun s e=>⟨k s e,l s e⟩);exact⟨a0N t,i,q,r,fun R n=>c2M d g j o p i n⟩
theorem b6k(x:a0L):eqT (.pair (.int .i64) (.pair (.int .i64) (.pair (.int .i64) .unit))) x x=true:=by
 show((x.1==x.1)&&((x.2.1==x.2.1)&&((x.2.2.1==x.2.2.1)&&true)))=true
 simp
theorem b7z{x w:Int}(h:4≤w∧w≤24):b2q (x,w)=some (a1k x w):=by
 have:=c4G (x:=x) (w:=w.toNat) (by omega)
 grind
theorem d1l{x w:Int}(b:4≤w∧w≤24)(h:a1k x w=true):-16777216≤x∧x≤16777216:=by
 unfold a1k at h;simp at h;obtain⟨-,-,f,g⟩:=h;obtain⟨o,k⟩:∃o:Nat,w-1=(o:Int):=⟨(w-1).toNat,by omega⟩;rw[k]at f g;rw[c3x (by omega)]at g;have hp:2^o≤2^24:=a45 (by omega) (by omega);have a:A0n .i64 (-1) (o:Int)=wrap .i64 (-((2^o:Nat):Int)):=by
  unfold A0n;show wrap .i64 (-1*2^(min (o:Int).toNat 64))=_
  grind
 grind[a0C]
theorem c7N{x w:Int}(g:4≤w∧w≤24)(h:a1k x w=true):a0A x=true:=a1E.2 (by have:=d1l g h;omega)
theorem b6l{b:a1p}(h:a3O b):a3k b.2.1 (a0Y b)∧a2z b.2.1:=by
 obtain⟨k,a,c,d,e,i,g⟩:=h;have j:a3k b.2.1 (a0Y b):=fun r f=>by
  have:=lA.1 g r f
  simp only[bA,dT]at this
  grind[c7N]
 grind[b9e]
theorem c6I{b:a1p}(hb:a3O b){l:List a0L}(c:a4Z l (b.2.1.length:Int)){rows:List (List Int)}(n:doO l b.2.1=some rows){ss:List Sub}(q:a7E (fun s=>a2g s ((a0Y b:Nat):Int)) ss=some rows)
  {start rate:Int}(h:0≤start∧start≤4194304-((a0Y b:Nat):Int))(p:1≤rate∧rate≤1048576):
  a9q (start,((a0Y b:Nat):Int),(rate,((b.2.1.length:Nat):Int),b.1,()),l,ss,())=some b:=by
 obtain⟨m,y⟩:=b6l hb;obtain⟨x,z⟩:=b3r l m rfl c.2.2.2 n;have o:=b9g q;obtain⟨e,i,r,t,u,j,v⟩:=hb;have a:frP (start,((a0Y b:Nat):Int),(rate,((b.2.1.length:Nat):Int),b.1,()),l,ss,()):=⟨⟨p.1,p.2,by grind,by grind,e,i⟩,by grind,by grind,h.1,h.2,c⟩;have k:((ss.length:Nat):Int)=((b.2.1.length:Nat):Int):=by omega
 have g:a2z rows:=b9e x (by omega) (by omega) j;have d:a4Z l ((rows.length:Nat):Int):=by simp_all
 have w:=c5m l m rfl c.2.2.2 n;have f:((b.1,b.2.1,()):a1p)=b:=rfl;unfold a9q;rw[if_pos ⟨a,k⟩];simp only[q,oB];rw[if_pos ⟨g,d⟩,w];simp only[oB,f];rw[if_pos ⟨e,i,r,t,u,j,v⟩]
def b7A:a1m:=(0,0,(0,0,0,()),[],[],())
theorem d2x(k:Nat)(a:k≤62)(y:Int):∃v:Nat,bits .i64 .and y ((2^k-1:Nat):Int)=(v:Int)∧v<2^k:=by
 have hp:2^k≤2^62:=a45 (by omega) a;have f:0<2^k:=Nat.pow_pos (by omega);have h:((a00 64 y) &&& (a00 64 ((2^k-1:Nat):Int))).toNat=(a00 64 y).toNat%2^k:=by
  rw[a42];have e:(a00 64 ((2^k-1:Nat):Int)).toNat=2^k-1:=by
   rw[a23];generalize 2^k=p at *;omega
  rw[e,a29]
 have g:=a20 (a00 64 y).toNat f;refine⟨(a00 64 y).toNat%2^k,?_,g⟩;show wrap .i64 ((((a00 64 y) &&& (a00 64 ((2^k-1:Nat):Int))).toNat:Nat):Int)=_;rw[h];generalize (a00 64 y).toNat%2^k=z at *;exact a0C (by omega)
theorem c0Q(c:List (List Int))(n i:Int){r:List Int}(a:short r):∀(k j:Nat)(s:Int),2≤j→j+k=r.length∨(k=0∧r.length≤j)→∃s',y0s a6K (s,r,(j:Int),c,n,i,())=some (s',c,n,i,())
 |0,j,s,h2,h=>⟨s,a0E (by
   have d:decide ((j:Int)<(r.length:Int))=false:=by grind
   simp only[a6K,d,cF])⟩
 |k+1,j,s,h2,h=>by
  have f:j<r.length:=by omega
  unfold short at a;have b:wrap .i64 ((j:Int)-1)=((j-1:Nat):Int):=by grind[a0C]
  have e:wrap .i64 ((j:Int)-2)=((j-2:Nat):Int):=by grind[a0C]
  have m:=a0D (l:=r) (i:=j-1) (by omega);have o:=a0D (l:=r) (i:=j-2) (by omega);obtain⟨s',g⟩:=c0Q c n i a k (j+1) (wrap .i64 (s+v0r (wrap .i64 (wrap .i64 (r[j]-wrap .i64 (2*r[j-1]))+r[j-2])) (wrap .i64 (0-wrap .i64 (wrap .i64 (r[j]-wrap .i64 (2*r[j-1]))+r[j-2]))))) (by omega) (by omega);refine⟨s',?_⟩;rw[←g];exact a0F (by simp only[a6K,dlt f,cT,a0D f,oB,b,e,m,o,a0B (show j<1000000 by omega)])
theorem c2n{c:List (List Int)}{n:Nat}(h:a3k c n)(m:n≤4096)(l:c.length<1000):∃w,a7i c=some w:=by
 unfold a7i;simp only[c1A,oB]
 by_cases hq:a2z c
 rotate_left;simp_all;simp[hq];have f:∀(k i:Nat)(s:Int),i+k=c.length→∃s',y0s a6L (s,c,(c.length:Int),(i:Int),())=some (s',()):=by
  intro k
  induction k with
  |zero=>
   intro i s hi;obtain rfl:i=c.length:=by omega
   simp_all[a0E,a6L]
  |succ k ih=>
   intro i s hi;have g:i<c.length:=by omega
   have o:=(h _ (a25 g)).1;obtain⟨e,a⟩:=c0Q c (c.length:Int) (i:Int) (r:=c[i]) (by unfold short;omega) (c[i].length-2) 2 s (a63 _) (by omega);obtain⟨j,b⟩:=ih (i+1) e (by omega);refine⟨j,?_⟩;rw[←b];rw[show((2:Nat):Int)=2 from rfl]at a;exact a0F (by simp only[a6L,dlt g,cT,a0D g,oB,a,a0B (show i<1000000 by omega)])
 obtain⟨s',d⟩:=f c.length 0 0 (by omega);simp_all
def a4N(m:Nat):List a0L:=match m with
 | 1=>[(0,1,-256,())]
 | 2=>[(1,0,-256,())]
 | 3=>[(1,0,-256,()),(0,1,128,())]
 | 4=>[(1,0,-106,()),(0,1,181,()),(1,0,-106,())]
 |_=>[]
theorem b9h{m:Nat}(h:m≤4):b0K (m:Int)=some (a4N m):=by
 match m,h with
 |0,_=>rfl
 | 1,_=>rfl
 | 2,_=>rfl
 | 3,_=>rfl
 | 4,_=>rfl
theorem c2o{m:Nat}(h:m≤4):a4Z (a4N m) 2:=by
 match m,h with
 |0,_=>decide
 | 1,_=>decide
 | 2,_=>decide
 | 3,_=>decide
 | 4,_=>decide
theorem b4C{p:List (List Int)}{n:Nat}(hp:a3k p n)(b:p.length=2)(f:a2z p)(a:n≤4096):∀(k m best:Nat)(least:Int),m+k=5→best≤4→(doO (a4N best) p).isSome=true→
  ∃best',y0s a6j (p,(best:Int),least,(m:Int),())=some (((best':Nat):Int),())∧best'≤4∧(doO (a4N best') p).isSome=true
 |0,m,best,least,hm,hb,hd=>by
  obtain rfl:m=5:=by omega
  exact⟨best,a0E rfl,hb,hd⟩
 |k+1,m,best,least,hm,hb,hd=>by
  have d:decide ((m:Int)<5)=true:=by grind
  have e:wrap .i64 ((m:Int)+1)=((m+1:Nat):Int):=a0B (by omega);have g:a4Z (a4N m) (p.length:Int):=by grind[c2o]
  cases hdo:doO (a4N m) p with
  |none=>
   have j:((6:Int) != 0)=true:=rfl;rw[a0F (s':=(p,(best:Int),least,((m+1:Nat):Int),())) (by
    simp only[a6j,d,cT,b9h (show m≤4 by omega),oB,c2S,if_pos (show a2z p∧a4Z (a4N m) (p.length:Int)from⟨f,g⟩),hdo,b9f,j,e])]
   exact b4C hp b f a k (m+1) best least (by omega) hb hd
  |some r=>
   have i:((0:Int) != 0)=false:=rfl;obtain⟨l,o⟩:=b3r (a4N m) hp rfl g.2.2.2 hdo
   obtain⟨w,c⟩:=c2n l a (by omega);have h:a6j (p,(best:Int),least,(m:Int),())=bif decide (w<least)then some (.inl (p,(m:Int),w,((m+1:Nat):Int),()))else some (.inl (p,(best:Int),least,((m+1:Nat):Int),())):=by
    simp only[a6j,d,cT,b9h (show m≤4 by omega),oB,c2S,if_pos (show a2z p∧a4Z (a4N m) (p.length:Int)from⟨f,g⟩),hdo,b9f,i,cF,c,e]
   cases hlt:decide (w<least)with
   |true=>
    rw[hlt]at h;rw[a0F h];exact b4C hp b f a k (m+1) m w (by omega) (by omega) (by simp_all)
   |false=>
    rw[hlt]at h;rw[a0F h];exact b4C hp b f a k (m+1) best least (by omega) hb hd
theorem d1m{p:List (List Int)}{n:Nat}(hp:a3k p n)(g:p.length=2)(h:n≤4096):∃m,m≤4∧b1T p=some (a4N m)∧(doO (a4N m) p).isSome=true:=by
 have k:=b9e hp (by omega) (by omega) h;obtain⟨w,c⟩:=c2n hp h (by omega);obtain⟨m,a,f,b⟩:=b4C hp g k h 4 1 0 w rfl (by omega) rfl
 grind[b1T,b9h]
def b2x(i:Nat)(s:a0L):a0L:=(s.1+(i:Int),s.2.1+(i:Int),s.2.2.1,())
theorem c8W{i N:Nat}(h:i+2≤N){s:a0L}(k:a2r 2 s=true):a2r (N:Int) (b2x i s)=true:=by
 obtain⟨a1,a,b,c,d,g,f⟩:=a2P.1 k;exact a2P.2 ⟨by show 0≤s.1+(i:Int);omega,by show s.1+(i:Int)<(N:Int);omega,by show 0≤s.2.1+(i:Int);omega,by show s.2.1+(i:Int)<(N:Int);omega,by show s.1+(i:Int)≠s.2.1+(i:Int);omega,g,f⟩
def c2T(i:Nat)(c c' p:List (List Int)):Prop:=c'.length=c.length∧p.length=2∧c'.getD i []=p.getD 0 []∧c'.getD (i+1) []=p.getD 1 []∧∀j,j≠i→j≠i+1→c'.getD j []=c.getD j []
theorem c6J{i:Nat}{c0 c p p':List (List Int)}(hi:i+2≤c0.length)(h:c2T i c0 c p){s:a0L}(n:a2r 2 s=true)(g:a3D 1 s p=some p'):∃c',a3D 1 (b2x i s) c=some c'∧c2T i c0 c' p':=by
 obtain⟨y,z,A,B,C⟩:=h;obtain⟨a1,k,a,b,q,t,u⟩:=a2P.1 n;unfold a3D at g⊢;simp only at g⊢;have f:∀x:Int,0≤x→x<2→c.getD (x+(i:Int)).toNat []=p.getD x.toNat []:=fun x E o=>by
  grind
 have v:=f s.1 a1 k;have w:=f s.2.1 a b;simp only[b2x];have m:a9K 1 s.2.2.1 (c.getD (s.1+(i:Int)).toNat []) (c.getD (s.2.1+(i:Int)).toNat [])=a9K 1 s.2.2.1 (p.getD s.1.toNat []) (p.getD s.2.1.toNat []):=by simp_all
 simp only[m]
 split at g
 rename_i d;cases g;rw[if_pos d];generalize a9K 1 s.2.2.1 (p.getD s.1.toNat []) (p.getD s.2.1.toNat [])=r at *;refine⟨_,rfl,by grind,by grind,?_,?_,fun j D l=>?_⟩
 have:s.2.1=0∨s.2.1=1:=by omega
 rcases this with e|e;rw[e,show((0:Int)+(i:Int)).toNat=i from by omega,a7A _ (by omega),show(0:Int).toNat=0 from rfl,a7A _ (by omega)];rw[e,show((1:Int)+(i:Int)).toNat=i+1 from by omega,b2j _ (by omega),show(1:Int).toNat=1 from rfl,b2j _ (by omega)];omega
 have:s.2.1=0∨s.2.1=1:=by omega
 rcases this with e|e;simp_all;rw[e,show((1:Int)+(i:Int)).toNat=i+1 from by omega,a7A _ (by omega),show(1:Int).toNat=1 from rfl,a7A _ (by omega)];rw[b2j _ (by omega)];simp_all;simp_all
theorem c4a{i:Nat}{c0:List (List Int)}(hi:i+2≤c0.length):∀(l:List a0L){c p p':List (List Int)},l.all (a2r 2)=true→c2T i c0 c p→doO l p=some p'→∃g,doO (l.map (b2x i)) c=some g∧c2T i c0 g p'
 | [],c,p,p',_,h,hd=>by cases hd;exact⟨c,rfl,h⟩
 |s::l,c,p,p',hl,h,hd=>by
  simp only[a35,bA]at hl;simp[doO,a18]at hd;obtain⟨q,f,k⟩:=hd;obtain⟨d,a,b⟩:=c6J hi h hl.1 f;obtain⟨g,j1,j2⟩:=c4a hi l hl.2 b k;exact⟨g,by simp only[a36,doO,a,oB];exact j1,j2⟩
theorem c5o:∀(l m:List a0L)(c:List (List Int)),doO (l++m) c=(doO l c).bind (doO m)
 | [],m,c=>rfl
 |s::l,m,c=>by
  simp only[a57,doO];cases a3D 1 s c with
  |none=>rfl
  |some d=>exact c5o l m d
theorem c7O{α β:Type}(f:α→β):∀l:List α,l.flatMap (fun x=>[f x])=l.map f
 | []=>rfl
 |x::l=>by simp[c7O f l]
theorem c4U(b:a1p)(first:Nat)(s:first≤100){y:List a0L}(d:y.all (a2r 2)=true)(r:y.length≤10)(out:List a0L)(t:out.length≤1000):
  y0s a6k ((first:Int),(y.length:Int),(0:Int),out,y,b,())=some ((first:Int),out++y.map (b2x first),b,()):=by
 have:=a1N (f:=a6k) (β:=Int×(List a0L×(a1p×Unit))) y (fun i (a:List a0L)=>((first:Int),(y.length:Int),(i:Int),a,y,b,())) (fun a x=>.inl (a++[b2x first x])) (fun i a=>a.length=out.length+i) (fun a=>((first:Int),a,b,()))
  (fun i hi a k=>⟨fun e h=>by
   simp at h;subst h;obtain⟨a1,j,l,m,o,p,q⟩:=a2P.1 (lA.1 d _ (a25 hi));have g:decide ((0:Int)≤(i:Int))=true:=by simp
   have c:a82 y (a28 (i:Int)) ((0:Int),(0:Int),(0:Int),())=y[i]:=by simp_all
   refine⟨?_,by grind⟩;simp only[a6k,dlt hi,cT,g,a01,a0T (show a.length+1<2147483648 by omega),c,a0B (show i<1000000 by omega),a39];rw[a0C (n:=y[i].1+(first:Int)) (by omega),a0C (n:=y[i].2.1+(first:Int)) (by omega)]
   rfl,fun b hb=>by grind⟩)
  (fun a k=>by simp_all[a6k]) (a:=out) (by simp)
 simp_all[b3Z,a8Y,c7O]
theorem d4p{c:List (List Int)}{i:Nat}(h:i+2≤c.length):a30 i (a27 (i+2) c)=[c.getD i [],c.getD (i+1) []]:=by
 apply List.ext_getElem?;intro j;rw[a74]
 grind
theorem c0R{b:a1p}{n:Nat}(o:a3k b.2.1 n)(p:n≤4096)(z:b.2.1.length≤8):∀(k j:Nat)(out:List a0L)(c:List (List Int)),j+k=5→out.length≤3*j→out.all (a2r (b.2.1.length:Int))=true→doO out b.2.1=some c→(∀i,2*j≤i→c.getD i []=b.2.1.getD i [])→3*j≤12∨b.2.1.length≤2*j→
  ∃l f,y0s a8C (((2*j:Nat):Int),out,b,())=some (l,())∧l.length≤16∧l.all (a2r (b.2.1.length:Int))=true∧doO l b.2.1=some f
 |k,j,out,c,hk,hol,hob,hdo,hag,h12=>by
  have g:wrap .i64 (((2*j:Nat):Int)+1)=((2*j+1:Nat):Int):=by grind[a0C]
  by_cases hlt:2*j+1<b.2.1.length
  ·cases k with
   |zero=>omega
   |succ k=>
    have e:wrap .i64 (((2*j:Nat):Int)+2)=((2*j+2:Nat):Int):=by grind[a0C]
    have hp:a3k [b.2.1.getD (2*j) [],b.2.1.getD (2*j+1) []] n:=fun r q=>by
     simp only[mC,a43,or_false]at q;rcases q with rfl|rfl
     all_goals grind[a8n]
    obtain⟨m,u,N,E⟩:=d1m hp rfl p;obtain⟨p',d⟩:=Option.isSome_iff_exists.1 E;have h:=(c2o u).2.2.2;have C:(a4N m).length≤3:=by
     match m,u with
     |0,_=>decide
     | 1,_=>decide
     | 2,_=>decide
     | 3,_=>decide
     | 4,_=>decide
    have A:c.length=b.2.1.length:=(b3r out o rfl hob hdo).2;obtain⟨f,F,G,H,I,K,L⟩:=c4a (i:=2*j) (c0:=c) (by omega) (a4N m) h ⟨rfl,rfl,hag _ (a63 _),hag _ (by omega),fun _ _ _=>rfl⟩ d;have B:=c4U b (2*j) (by omega) h (by omega) out (by omega);have a:decide (((2*j+1:Nat):Int)<((b.2.1.length:Nat):Int))=true:=by grind
    have v:decide ((0:Int)≤((2*j+2:Nat):Int))=true:=by rfl
    have w:decide (((2*j+2:Nat):Int)≤((b.2.1.length:Nat):Int))=true:=by grind
    have x:decide ((0:Int)≤((2*j:Nat):Int))=true:=by rfl
    have y:decide (((2*j:Nat):Int)≤((2*j+2:Nat):Int))=true:=by grind
    rw[a0F (s':=(((2*(j+1):Nat):Int),out++(a4N m).map (b2x (2*j)),b,())) (by
     simp only[a8C,g,a,cT,e,v,w,a01,tN,x,y]
     grind[d4p])]
    refine c0R o p z k (j+1) (out++(a4N m).map (b2x (2*j))) f (by omega) (by grind) ?_ (by simp_all[c5o]) (fun i hi=>by grind) (by omega);rw[List.all_append,hob,a55,lA];intro s D;obtain⟨t,M,rfl⟩:=a38.1 D
    grind[c8W]
  refine⟨out,c,a0E ?_,by omega,hob,hdo⟩;have a:decide (((2*j+1:Nat):Int)<((b.2.1.length:Nat):Int))=false:=by grind
  simp only[a8C,g,a,cF]
termination_by k=>k
theorem c4b{b:a1p}(hb:a3O b):∃l h,a7y b=some l∧a4Z l (b.2.1.length:Int)∧doO l b.2.1=some h:=by
 obtain⟨c,-⟩:=b6l hb;have a:=hb.2.2.2.1;obtain⟨l,h,d,g,f,k⟩:=c0R c hb.2.2.2.2.2.1 a 5 0 [] b.2.1 rfl (by simp) rfl rfl (fun _ _=>rfl) (by omega);refine⟨l,h,?_,⟨by have:=hb.2.2.1;omega,by omega,g,f⟩,k⟩;unfold a7y;simp[a8o,decide_eq_true hb];simp_all
theorem c8X{r:List Int}{n:Nat}(h:r.length=n∧r.all a0A=true)(a:1≤n)(b:n≤256){k:Int}(f:0≤k)(c:k≤3):
  ∃s,a5v (r,k)=some (s,0)∧SmallS s∧a2g s (n:Int)=some r∧a4W s (n:Int)≤((13+a0I r*n:Nat):Int):=by
 obtain⟨e,g⟩:=h;have d:=a6U (l:=r) (by omega) g
 grind[c6y,d2s]
theorem c0S{effort:Int}(k:0≤effort)(c:effort≤3){rows:List (List Int)}{n:Nat}(i:a3k rows n)(a:1≤n)(b:n≤256)(l:rows.length≤8)(f:a1m):∀(rest d:List (List Int)) (done:List Sub),d++rest=rows→done.length=d.length→
  ∃outs,y0s a5w (effort,rows,(rows.length:Int),(d.length:Int),b7A,a8R f done,())=some (.inl (b7A,a8R f (done++outs),()))∧a7E (fun s=>a2g s (n:Int)) outs=some rest∧(∀s∈outs,SmallS s)∧a7E (fun r=>a5v (r,effort)) rest=some (outs.map fun s=>(s,0))
 | [],d,done,hd,hdl=>by
  have e:d=rows:=by simp_all
  subst e;refine⟨[],?_,rfl,by simp,rfl⟩;simp_all[a0E,a5w]
 |r::rest,d,done,hd,hdl=>by
  have g:d.length<rows.length:=by grind
  have m:m0k rows (d.length:Int)=some r:=by grind[a0D]
  obtain⟨s,j,o,p,-⟩:=c8X (i r (by grind)) a b k c;have z0:((0:Int) != 0)=false:=rfl;have h:a5w (effort,rows,(rows.length:Int),(d.length:Int),b7A,a8R f done,())=some (.inl (effort,rows,(rows.length:Int),(((d++[r]).length:Nat):Int),b7A,a8R f (done++[s]),())):=by
   simp only[a5w,dlt g,cT,m,oB,j,z0,cF];rw[show(a8R f done).2.2.2.2.1=done from rfl,a0T (show done.length+1<2147483648 by omega),cT,a0B (show d.length<1000000 by omega)];rw[show(((d++[r]).length:Nat):Int)=((d.length+1:Nat):Int)from by simp];rfl
  rw[a0F h];obtain⟨outs,u,v,w,x⟩:=c0S k c i a b l f rest (d++[r]) (done++[s]) (by simp_all) (by simp_all);refine⟨s::outs,?_,?_,fun t q=>?_,?_⟩;simp_all;simp_all[a7E]
  grind
  simp_all[a7E]
theorem c6K{b:a1p}(hb:a3O b)(k:a0Y b≤256){rate start effort:Int}(n:1≤rate∧rate≤1048576)(B:0≤start∧start≤4194304-((a0Y b:Nat):Int))(y:0≤effort)(z:effort≤3):
  ∃l g outs,a4H (b,(rate,((b.2.1.length:Nat):Int),b.1,()),start,effort)=some ((start,((a0Y b:Nat):Int),(rate,((b.2.1.length:Nat):Int),b.1,()),l,outs,()),0)∧
   a4Z l (b.2.1.length:Int)∧doO l b.2.1=some g∧a7E (fun s=>a2g s ((a0Y b:Nat):Int)) outs=some g∧(∀s∈outs,SmallS s)∧a7E (fun r=>a5v (r,effort)) g=some (outs.map fun s=>(s,0))∧
   (effort=0→l=[])∧(0<effort→a7y b=some l):=by
 obtain⟨A,m⟩:=b6l hb;have i:=hb;obtain⟨w,x,D,E,F,G,-⟩:=i;have j:a4b (rate,((b.2.1.length:Nat):Int),b.1,()):=⟨n.1,n.2,by grind,by grind,w,x⟩;have f:∃l g,a4Z l (b.2.1.length:Int)∧doO l b.2.1=some g∧(effort=0→l=[])∧(0<effort→a7y b=some l):=by
  by_cases he:effort=0
  exact⟨[],b.2.1,⟨by omega,by omega,by simp,rfl⟩,rfl,fun _=>rfl,fun h=>by omega⟩
  grind[c4b]
 obtain⟨l,g,e,d,a,c⟩:=f;obtain⟨C,H⟩:=b3r l A rfl e.2.2.2 d;obtain⟨outs,j1,j2,j3,j4⟩:=c0S y z C (by omega) k (by omega) (start,((a0Y b:Nat):Int),(rate,((b.2.1.length:Nat):Int),b.1,()),l,([]:List Sub),()) g [] [] rfl rfl;refine⟨l,g,outs,?_,e,d,j2,j3,j4,a,c⟩;have u:(b.1 != b.1)=false:=bne_self_eq_false _;have v:(((b.2.1.length:Nat):Int) != ((b.2.1.length:Nat):Int))=false:=bne_self_eq_false _;have o:decide (effort<0)=false:=by simp_all
 have p:decide (effort > 3)=false:=by simp_all
 have q:decide (start<0)=false:=by simp_all
 have t:decide (start > wrap .i64 (4194304-((a0Y b:Nat):Int)))=false:=by grind[a0C]
 have z0:((0:Int) != 0)=false:=rfl;unfold a4H;simp only[a8o,decide_eq_true hb,oB,bT,cF,a4w,decide_eq_true j,u,v,o,p,q,a6x,t];cases he:decide (effort > 0)with
 |true=>
  have:=c (by simp_all)
  simp[this,c2S,if_pos (show a2z b.2.1∧a4Z l (b.2.1.length:Int)from⟨m,e⟩),d,b9f]
  erw[j1]
  rfl
 |false=>
  have:=a (by grind)
  subst this;simp only[cF,oB,c2S,if_pos (show a2z b.2.1∧a4Z ([]:List a0L) (b.2.1.length:Int)from⟨m,e⟩),d,b9f,z0]
  erw[j1]
  rfl
theorem made{b:a1p}(hb:a3O b)(f:a0Y b≤256){rate start effort:Int}(e:1≤rate∧rate≤1048576)(a:0≤start∧start≤4194304-((a0Y b:Nat):Int))(j:0≤effort)(n:effort≤3):
  ∃g:Int×(a0L×(List a0L×(List Sub×Unit))),a4H (b,(rate,((b.2.1.length:Nat):Int),b.1,()),start,effort)=some ((start,g),0)∧g.1=((a0Y b:Nat):Int)∧g.2.1=(rate,((b.2.1.length:Nat):Int),b.1,())∧
   g.2.2.1.length≤16∧g.2.2.2.1.length≤8∧(∀s∈g.2.2.2.1,SmallS s)∧∀h,0≤h∧h≤4194304-((a0Y b:Nat):Int)→a9q (h,g)=some b:=by
 obtain⟨l,i,outs,m,k,c,d,o,-⟩:=c6K hb f e a j n;obtain⟨p,-⟩:=b6l hb;have t:=b9g d;have q:=(b3r l p rfl k.2.2.2 c).2;exact⟨_,m,rfl,rfl,k.2.2.1,by have:=hb.2.2.2.1;show outs.length≤8;omega,o,fun h r=>c6I hb k c d r e⟩
theorem d1n(y:Int):bits .i64 .and y 255=y%256:=by
 have h:((a00 64 y) &&& (a00 64 255)).toNat=(y%18446744073709551616).toNat%256:=by
  rw[a42,a23];have e:(a00 64 255).toNat=2^8-1:=by decide
  rw[e,a29];rfl
 show wrap .i64 ((((a00 64 y) &&& (a00 64 255)).toNat:Nat):Int)=_;rw[h,a0C (by omega)];omega
theorem d7o(x:Int){j:Nat}(g:j<8):A0o .i64 x ((8*j:Nat):Int)=x.fdiv (256^j):=by
 have h:min (a28 ((8*j:Nat):Int)) (IntKind.bits .i64)=8*j:=by
  simp only[tN,IntKind.bits];omega
 unfold A0o;rw[h,show(256:Int)=2^8 from rfl,←Int.pow_mul]
def smB(k:Nat)(x:Int):List Int:=leB k (x%18446744073709551616).toNat
theorem d1o(x:Int)(j:Nat)(g:j<8):((((x%18446744073709551616).toNat) / 256^j%256:Nat):Int)=x.fdiv (256^j)%256:=by
 have h:j=0∨j=1∨j=2∨j=3∨j=4∨j=5∨j=6∨j=7:=by omega
 rcases h with rfl|rfl|rfl|rfl|rfl|rfl|rfl|rfl<;>rw[a52 _ (by decide)]<;>simp only[Nat.reducePow,Int.reducePow]<;>omega
theorem b6m(k:Nat)(x:Int):(smB k x).length=k:=b0U _ _
theorem c8Y(k:Nat)(h:k<8)(x:Int):smB (k+1) x=smB k x++[x.fdiv (256^k)%256]:=by
 unfold smB;rw[b8Q,d1o x k h]
theorem b7B:∀(k n:Nat),∀b∈leB k n,0≤b∧b<256
 |0,_=>by simp[leB]
 |k+1,n=>fun b hb=>by
  rcases mC.1 hb with rfl|hb;omega;exact b7B k _ b hb
def a3u(w:Int)(l:List Int):List Int:=l.flatMap (smB ((w+7) / 8).toNat)
theorem c4c{k:Nat}{g:Int→List Int}(h:∀x,(g x).length=k):∀(l:List Int),(l.flatMap g).length=l.length*k
 | []=>by simp
 |x::l=>by
  rw[a24,lN,h,c4c h l,lC,Nat.add_mul];omega
theorem c6L{w:Int}(hw:4≤w∧w≤24)(l:List Int):(a3u w l).length≤3*l.length:=by
 unfold a3u;rw[c4c (b6m _)]
 have:((w+7) / 8).toNat≤3:=by omega
 calc l.length*((w+7) / 8).toNat≤l.length*3:=Nat.mul_le_mul_left _ this
  _=3*l.length:=a59 ..
theorem c6M(w:Int)(a b:List Int):a3u w (a++b)=a3u w a++a3u w b:=a71
theorem c4d(w:Int)(l:List Int):∀b∈a3u w l,0≤b∧b<256:=fun b hb=>by
 obtain⟨x,-,h⟩:=a84.1 hb;exact b7B _ _ b h
theorem d1p(b x n:Int)(i:Int)(l:List Int){k:Nat}(e:k≤8)(out:List Int)(m:out.length<100000000):
  y0s a4C (b,(k:Int),x,l,n,i,(k:Int),(0:Int),out,())=some (b,(k:Int),l,n,i,out++smB k x,()):=by
 have h:=a1A (f:=a4C) (fun j=>(b,(k:Int),x,l,n,i,(k:Int),(j:Int),out++smB j x,()))
  k (b:=(b,(k:Int),l,n,i,out++smB k x,())) (fun j d=>by
   have c:wrap .i64 ((8:Int)*(j:Int))=((8*j:Nat):Int):=by rw[a0C (by omega)];omega
   have g:decide (((8*j:Nat):Int)<0)=false:=by simp;omega
   simp only[a4C];rw[dlt d,a0T (show(out++smB j x).length+1<2147483648 by rw[lN,b6m];omega),c,g,a0B (show j<1000000 by omega),d1n,d7o x (by omega),a8e,Int.emod_emod_of_dvd _ (by decide),c8Y j (by omega),←aA];rfl) (by simp only[a4C,dge,cF])
 have a:out++smB 0 x=out:=by simp[smB,leB]
 simp only[a]at h;exact h
theorem d2y{w:Int}(h:4≤w∧w≤24):wrap .i64 (a21 (wrap .i64 (w+(7:Int))) (8:Int))=((((w+7) / 8).toNat:Nat):Int):=by
 rw[a0C (n:=w+7) (by omega),Int.tdiv_eq_ediv_of_nonneg (by omega),a0C (by omega)];omega
theorem c2p{w:Int}(g:4≤w∧w≤24)(l:List Int)(c:l.length≤1000000){k:Nat}(a:k≤3):∀(rest done out:List Int),done++rest=l→rest.all (fun x=>a1k x w)=true→out.length+3*rest.length<100000000→
  y0s a6J (w,(k:Int),l,(l.length:Int),(done.length:Int),out,())=some (.inl (out++rest.flatMap (smB k),()))
 | [],done,out,hd,_,_=>by
  obtain rfl:done=l:=by simpa using hd
  rw[a0E (b:=Sum.inl (out,())) (by simp only[a6J,dge,cF])]
  simp
 |x::rest,done,out,hd,hf,ho=>by
  have h:done.length<l.length:=by rw[←hd];simp
  have f:m0k l (done.length:Int)=some x:=by rw[a0D h];subst hd;simp
  simp only[a35,bA]at hf;simp only[lC]at ho;rw[a0F (s':=(w,(k:Int),l,(l.length:Int),(((done++[x]).length:Nat):Int),out++smB k x,())) (by
   simp only[a6J,dlt h,cT,f,oB,b4b g,hf.1,bT,cF,d1p w x _ _ l (show k≤8 by omega) out (by omega),a0B (show done.length<1000000 by omega)]
   simp)]
  rw[c2p g l c a rest (done++[x]) (out++smB k x) (by simpa using hd) hf.2 (by rw[lN,b6m];omega)]
  simp
theorem c1B{w:Int}(g:4≤w∧w≤24){l:List Int}(c:l.length≤1000000)(b:l.all (fun x=>a1k x w)=true):a9v (l,w)=some (a3u w l,0):=by
 have f:decide (w<(4:Int))=false:=by simp;omega
 have a:decide (w > (24:Int))=false:=by simp;omega
 have h:=c2p g l c (k:=((w+7) / 8).toNat) (by omega) l [] [] rfl b (by simp;omega);rw[a09]at h;simp only[a9v,f,cF,oB,a,d2y g]
 erw[h]
 rfl
def b1E(d:List Int)(ch c:Nat):List Int:=((a04 d.length).filter fun i=>i%ch==c).map fun i=>d.getD i 0
def a2A(d:List Int)(ch:Nat):List (List Int):=(a04 ch).map (b1E d ch)
def wv(n:Nat)(rows:List (List Int)):List Int:=(a04 n).flatMap fun i=>rows.map fun r=>r.getD i 0
theorem c8Z{α:Type}{a b:List α}{i:Nat}{d:α}(h:i<a.length):(a++b).getD i d=a.getD i d:=by
 grind
theorem c7P(d:List Int)(x:Int)(ch c:Nat):b1E (d++[x]) ch c=if d.length%ch=c then b1E d ch c++[x]else b1E d ch c:=by
 unfold b1E;rw[lN,a31,a37,a51,pA];have h:((a04 d.length).filter fun i=>i%ch==c).map (fun i=>(d++[x]).getD i 0)=((a04 d.length).filter fun i=>i%ch==c).map fun i=>d.getD i 0:=
  a26 fun i hi=>c8Z (a66.1 (List.mem_filter.1 hi).1)
 grind
theorem c4e(c:Nat):∀ch,(a04 ch).filter (·==c)=if c<ch then[c]else[]
 |0=>rfl
 |ch+1=>by
  rw[a37,a51,c4e c ch]
  grind
theorem c4f{ch c:Nat}(h:c<ch):∀n,(a04 (n*ch)).filter (fun i=>i%ch==c)=(a04 n).map fun i=>i*ch+c
 |0=>by simp
 |n+1=>by
  rw[Nat.succ_mul,a40,a51,c4f h n,a37,pA,List.filter_map];congr 1;have e:∀i∈a04 ch,((fun i=>i%ch==c)∘fun x=>n*ch+x) i=(i==c):=fun i hi=>by
   simp_all[a44]
  simp_all[List.filter_congr,c4e]
theorem c2q{d:List Int}{n ch c:Nat}(g:d.length=n*ch)(h:c<ch):b1E d ch c=(a04 n).map fun i=>d.getD (i*ch+c) 0:=by
 simp_all[b1E,c4f]
theorem d2z(f:Nat→Int)(ch:Nat):∀n,(a04 n).flatMap (fun i=>(a04 ch).map fun c=>f (i*ch+c))=(a04 (n*ch)).map f
 |0=>by simp
 |n+1=>by
  rw[a37,a71,d2z f ch n,Nat.succ_mul,a40,pA,a48];simp[Function.comp_def]
theorem c6N(d:List Int):(a04 d.length).map (fun i=>d.getD i 0)=d:=
 a58 (by simp) fun i h g=>by simp_all
theorem c6O{α β:Type}{l:List α}{f g:α→List β}(h:∀a∈l,f a=g a):l.flatMap f=l.flatMap g:=by
 grind[a26]
theorem d1q{d:List Int}{n ch:Nat}(h:d.length=n*ch):wv n (a2A d ch)=d:=by
 have:wv n (a2A d ch)=(a04 n).flatMap fun i=>(a04 ch).map fun c=>d.getD (i*ch+c) 0:=
  c6O fun i hi=>by
   grind[a2A,a26,c2q]
 grind[d2z,c6N]
def prm:Nat:=2305843009213693951
def prs(h:Nat)(l:List Nat):Nat:=l.foldl (fun h c=>(h*1000003+(c+1))%prm) h
theorem d1r(h:Nat):prs h []=h:=rfl
theorem c4g(h c:Nat)(l:List Nat):prs h (c::l)=prs ((h*1000003+(c+1))%prm) l:=rfl
theorem c6P(h:Nat)(a b:List Nat):prs h (a++b)=prs (prs h a) b:=a41 ..
theorem c4h{h:Nat}(g:h<prm)(l:List Nat):prs h l<prm:=by
 induction l generalizing h with
 |nil=>exact g
 |cons c l ih=>exact ih (a20 _ (by decide))
theorem b6n(a b c:Nat):(a%prm*b+c)%prm=(a*b+c)%prm:=by
 simp_all[Nat.add_mod]
theorem c4i(a b:Nat):(a+b%prm)%prm=(a+b)%prm:=by
 simp
theorem c9a(l:List Nat)(h:Nat):prs h l%prm=(h*1000003^l.length+prs 0 l)%prm:=by
 induction l generalizing h with
 |nil=>simp[d1r]
 |cons c l ih=>
  rw[c4g,c4g,ih,b6n,←c4i (h*_),ih ((0*1000003+(c+1))%prm),b6n,c4i,lC,a78]
  grind
theorem c9b(a b:List Nat):prs 0 (a++b)=(prs 0 a*(1000003^b.length%prm)+prs 0 b)%prm:=by
 rw[c6P,←a44 (c4h (c4h (by decide) a) b),c9a,a59 (prs 0 a) (_%prm),b6n,a59 (prs 0 a)]
def pwr:Nat→Nat→Nat→Nat→Nat
 |0,_,p,_=>p
 |k+1,n,p,s=>if n=0 then p else pwr k (n / 2) (if n%2=1 then p*s%prm else p) (s*s%prm)
theorem c9c(a b:Nat):a%prm*b%prm=a*b%prm:=b6n a b 0
theorem c4j(a n:Nat):(a%prm)^n%prm=a^n%prm:=by rw[←Nat.pow_mod]
theorem d2A(k n p s:Nat)(h:n<2^k)(hp:p<prm):pwr k n p s=p*s^n%prm:=by
 induction k generalizing n p s with
 |zero=>simp_all[pwr,a44]
 |succ k ih=>
  rw[pwr]
  by_cases h0:n=0
  simp_all[a44];rw[if_neg h0];have g:n / 2<2^k:=by omega
  have f:(s*s)^(n / 2)=s^(2*(n / 2)):=by grind[Nat.pow_mul]
  by_cases h1:n%2=1
  rw[if_pos h1,ih _ _ _ g (a20 _ (by decide)),a53,c4j,f,←a53,c9c,Nat.mul_assoc,←Nat.pow_succ']
  grind
  rw[if_neg h1,ih _ _ _ g hp,a53,c4j,f,←a53]
  grind
theorem c7Q{u d y1 y0 q r:Nat}(g:u=q*y1+r)(h:q*y0≤4294967296*r+d):q*(y1*4294967296+y0)≤u*4294967296+d:=by
 grind
theorem d1s(u d e y:Nat):((u*4294967296+d)%y*4294967296+e)%y=((u*4294967296+d)*4294967296+e)%y:=by
 simp_all[Nat.add_mod,a53]
theorem c7R(n k y:Nat)(h:0<k):n*k%(y*k) / k=n%y:=by
 simp_all[Nat.mul_mod_mul_right]
@[reducible] def Pc:Type:=a1m×(a1p×List Int)
def c1C(fm:a0L)(st:Nat)(x:Pc):Prop:=
 x.1.1=(st:Int)∧x.1.2.1=((a0Y x.2.1:Nat):Int)∧x.1.2.2.1=fm∧a2O x.1=some (x.2.1,0)∧a4j x.1=some (x.2.2,0)∧
  (∀R:List Int,R.length≤200000000→a1C (x.2.2++R)=some (x.1,(x.2.2.length:Int),(0:Int)))∧a3O x.2.1∧x.2.1.1=fm.2.2.1∧a0Y x.2.1≤64∧1≤x.2.2.length∧x.2.2.length≤700800
def a2B(fm:a0L):Nat→List Pc→Prop
 |_,[]=>True
 |st,x::xs=>c1C fm st x∧a2B fm (st+a0Y x.2.1) xs
def a3T:Nat→Nat→List Pc→List (Int×Int×Unit)
 |_,_,[]=>[]
 |st,off,x::xs=>((st:Int),(off:Int),())::a3T (st+a0Y x.2.1) (off+x.2.2.length) xs
def a0Z(xs:List Pc):Nat:=(xs.map fun x=>a0Y x.2.1).sum
def a0J(xs:List Pc):List Int:=xs.flatMap fun x=>x.2.2
def wvB(b:a1p):List Int:=wv (a0Y b) b.2.1
def a2G(xs:List Pc):List Int:=xs.flatMap fun x=>wvB x.2.1
def prI(l:List Int):Nat:=prs 0 (l.map a28)
def a2H(fm:a0L)(xs:List Pc):Nat:=prI (a3u fm.2.2.1 (a2G xs))
theorem c0T(l:List Int):prI l<prm:=c4h (by decide) _
theorem d1t(a b:List Int):prI (a++b)=(prI a*(1000003^b.length%prm)+prI b)%prm:=by
 simp_all[prI,c9b]
theorem a2Q(h:List Pc)(x:Pc):a0Z (h++[x])=a0Z h+a0Y x.2.1:=by simp[a0Z]
theorem a5P(h:List Pc)(x:Pc):a0J (h++[x])=a0J h++x.2.2:=by simp[a0J]
theorem a6V(h:List Pc)(x:Pc):a2G (h++[x])=a2G h++wvB x.2.1:=by simp[a2G]
theorem c7S{rows:List (List Int)}:∀n,(wv n rows).length=n*rows.length:=fun n=>by
 simp_all[wv,List.map_const']
theorem c2r{fm:a0L}:∀{xs:List Pc}{st:Nat}{x:Pc},a2B fm st xs→c1C fm (st+a0Z xs) x→a2B fm st (xs++[x])
 | [],st,x,_,h=>⟨by simpa[a0Z]using h,trivial⟩
 |y::xs,st,x,h,h2=>⟨h.1,c2r h.2 (by simp_all[a0Z,a56])⟩
theorem b5e:∀(xs:List Pc)(st off:Nat)(x:Pc),a3T st off (xs++[x])=a3T st off xs++[(((st+a0Z xs:Nat):Int),((off+(a0J xs).length:Nat):Int),())]
 | [],st,off,x=>by rfl
 |y::xs,st,off,x=>by
  simp_all[a3T,b5e,a0Z,a0J,a56]
theorem b1c:∀(xs:List Pc)(st off:Nat),(a3T st off xs).length=xs.length
 | [],_,_=>rfl
 |_::xs,_,_=>congrArg (·+1) (b1c xs _ _)
theorem b1d{fm:a0L}:∀{xs:List Pc}{st:Nat},a2B fm st xs→(a0J xs).length≤700800*xs.length
 | [],_,_=>by simp[a0J]
 |x::xs,st,h=>by
  have:=b1d h.2
  have:=h.1.2.2.2.2.2.2.2.2.2.2
  simp only[a0J,a24,lN,lC]at *;omega
theorem d1u{b:a1p}{fm:a0L}(hb:a3O b)(i:a0Y b≤64)(j:1≤fm.1∧fm.1≤1048576)(d:fm.2.1=((b.2.1.length:Nat):Int))(h:fm.2.2.1=b.1){st:Nat}(q:st+a0Y b≤4194304){effort:Int}(m:0≤effort)(n:effort≤3):
  ∃g p,a4H (b,fm,(st:Int),effort)=some (((st:Int),g),0)∧c1C fm st (((st:Int),g),b,p):=by
 obtain⟨rate,ch,bits,u⟩:=fm;cases u;simp only at j d h;subst d h;obtain⟨g,r,s,t,x,y,l,v⟩:=made hb (by omega) (rate:=rate) (start:=(st:Int)) (effort:=effort) j (by omega) m n;have a:=v (st:Int) (by omega);obtain⟨L,o,-,e,c⟩:=c6H (f:=((st:Int),g)) l a;have k:=c3Z (f:=((st:Int),g)) l;rw[a]at k;have w:=b9d (b7y a).1 o;refine⟨g,a6w ((st:Int),g) L,r,rfl,s,t,k,e,c,hb,rfl,i,?_,?_⟩
 all_goals grind[a6w]
theorem c4k{d:List Int}{n ch c:Nat}(g:d.length=n*ch)(h:c<ch):(b1E d ch c).length=n:=by rw[c2q g h];simp
theorem c9d{d:List Int}{ch c:Nat}{x:Int}(h:x∈b1E d ch c):x∈d:=by
 unfold b1E at h
 grind
def a8p(w:Int)(d:List Int)(ch:Nat):a1p:=(w,a2A d ch,())
theorem b9i{w:Int}{d:List Int}{n ch:Nat}(g:d.length=n*ch)(h:0<ch):a0Y (a8p w d ch)=n:=by
 obtain⟨k,rfl⟩:∃k,ch=k+1:=⟨ch-1,by omega⟩;show((a2A d (k+1)).headD []).length=n
 grind[a2A,List.range_succ_eq_map,c4k]
theorem d1v{w:Int}{d:List Int}{n ch:Nat}(f:d.length=n*ch)(h:1≤ch∧ch≤8)(j:1≤n∧n≤4096)(k:4≤w∧w≤24)(a:d.all (fun x=>a1k x w)=true):a3O (a8p w d ch):=by
 have b:=b9i (w:=w) f (show 0<ch by omega);have g:(a2A d ch).length=ch:=by simp[a2A]
 refine⟨k.1,k.2,by simp_all[a8p],by simp_all[a8p],by omega,by omega,?_⟩;rw[b];refine lA.2 fun r e=>?_
 obtain⟨c,g,rfl⟩:=a38.1 (show r∈(a04 ch).map (b1E d ch)from e);rw[bA,dT];exact⟨c4k f (a66.1 g),lA.2 fun x i=>lA.1 a x (c9d i)⟩
theorem d1w{w:Int}{d:List Int}{n ch:Nat}(g:d.length=n*ch)(h:0<ch):wvB (a8p w d ch)=d:=by
 unfold wvB;rw[b9i g h];exact d1q g
def b5f(n:Nat)(l:List Int):Nat:=l.foldl (fun n c=>n*256+c.toNat) n
def a7F(k n:Nat):List Int:=(leB k n).reverse
theorem b9j:∀(k n:Nat),n<256^k→b5f 0 (a7F k n)=n
 |0,n,h=>by simp at h;subst h;rfl
 |k+1,n,h=>by
  have g:=b9j k (n / 256) (by rw[a64 (by omega)];rw[a78]at h;exact h);unfold b5f a7F at *;rw[leB,List.reverse_cons,a41,g]
  simp
  omega
theorem a5Q(k n:Nat):(a7F k n).length=k:=by simp[a7F,b0U]
theorem b6o(k n:Nat):∀b∈a7F k n,0≤b∧b<256:=fun b hb=>b7B k n b (List.mem_reverse.1 hb)
theorem c1D{n k:Nat}(j:n<18446744073709551616)(d:k≤8):a5d ((n:Int),(k:Int))=some (leB k n):=by
 have c:a3J (k:Int)=some (k:Int):=by
  grind[a3J,b5m,b3l]
 simp[a5d,c];have h:=a1A (f:=a1M) (fun i=>(((n / 256^i:Nat):Int),(k:Int),(i:Int),leB i n,())) k (b:=(leB k n,())) (fun i hi=>by
   have g:wrap .u64 (a21 ((n / 256^i:Nat):Int) 256)=((n / 256^(i+1):Nat):Int):=by
    have e:a21 ((n / 256^i:Nat):Int) 256=((n / 256^i / 256:Nat):Int):=rfl;rw[e,Nat.div_div_eq_div_mul,←a78]
    have:=a87 n (256^(i+1))
    grind[a0M]
   have a:wrap .u8 (a46 ((n / 256^i:Nat):Int) 256)=((n / 256^i%256:Nat):Int):=by
    have e:a46 ((n / 256^i:Nat):Int) 256=((n / 256^i%256:Nat):Int):=rfl;rw[e,a8e];omega
   simp only[a1M];rw[dlt hi,a0T (show(leB i n).length+1<2147483648 by rw[b0U];omega),g,a0B (show i<1000000 by omega),a,b8Q];rfl) (by simp_all[a1M])
 simp only[Nat.pow_zero,Nat.div_one,leB]at h;simp_all
theorem b7C{n k:Nat}(g:n<18446744073709551616)(h:k≤8):a4i ((n:Int),(k:Int))=some (a7F k n):=by
 unfold a4i a1K;simp only[c1D g h,oB];rw[decide_eq_true (by rw[b0U];omega)];rfl
def c32(s:BitVec 32):BitVec 32:=bif s.getLsbD 0 then(s >>> 1) ^^^ 0xedb88320#32 else s >>> 1
def c9e:Nat→BitVec 32→BitVec 32
 |0,s=>s
 |k+1,s=>c9e k (c32 s)
def c9f(s x:BitVec 32):BitVec 32:=c9e 8 (s ^^^ x)
def d2B(s:BitVec 32)(l:List (BitVec 32)):BitVec 32:=l.foldl c9f s
theorem c9g(s:BitVec 32):a00 32 ((s.toNat:Nat):Int)=s:=by
 simp
theorem d2C(s:BitVec 32):wrap .u32 ((s.toNat:Nat):Int)=((s.toNat:Nat):Int):=by
 have:=s.isLt
 grind[wrap,IntKind.bits,IntKind.signed]
theorem c6Q(s t:BitVec 32):bits .u32 .xor ((s.toNat:Nat):Int) ((t.toNat:Nat):Int)=(((s ^^^ t).toNat:Nat):Int):=by
 show wrap .u32 (((a00 32 _ ^^^ a00 32 _).toNat:Nat):Int)=_;rw[c9g,c9g,d2C]
theorem d4q(s:BitVec 32):(bits .u32 .and ((s.toNat:Nat):Int) 1==(1:Int))=s.getLsbD 0:=by
 have h:bits .u32 .and ((s.toNat:Nat):Int) 1=(((s &&& 1#32).toNat:Nat):Int):=by
  show wrap .u32 (((a00 32 _ &&& a00 32 1).toNat:Nat):Int)=_;rw[c9g,show a00 32 1=1#32 from rfl,d2C]
 rw[h,a42,show(1#32).toNat=1 from rfl,Nat.and_one_is_mod,a67,Nat.testBit_zero]
 grind
theorem d4r(s:BitVec 32):A0o .u32 ((s.toNat:Nat):Int) 1=(((s >>> 1).toNat:Nat):Int):=by
 unfold A0o;rw[show min (a28 1) (IntKind.bits .u32)=1 from rfl,a52 _ (by simp),BitVec.toNat_ushiftRight,Nat.shiftRight_eq_div_pow];rfl
def e32(s:Int):Int:=bif (bits .u32 .and s 1)==(1:Int)then bits .u32 .xor (A0o .u32 s 1) 3988292384 else A0o .u32 s 1
theorem d2D(s:BitVec 32):e32 ((s.toNat:Nat):Int)=(((c32 s).toNat:Nat):Int):=by
 unfold e32 c32;rw[d4q,d4r,show(3988292384:Int)=(((0xedb88320#32).toNat:Nat):Int)from rfl,c6Q]
 grind
theorem c4l:∀(k:Nat)(s:BitVec 32),rep e32 k ((s.toNat:Nat):Int)=(((c9e k s).toNat:Nat):Int)
 |0,_=>rfl
 |k+1,s=>by
  rw[show rep e32 (k+1) ((s.toNat:Nat):Int)=rep e32 k (e32 ((s.toNat:Nat):Int))from rfl,d2D,c4l k];rfl
def d2E(l:List Int):BitVec 32:=d2B 0xffffffff#32 (l.map (a00 32))
def a4c(l:List Int):Nat:=(~~~ d2E l).toNat
theorem b6p(l:List Int):a4c l<4294967296:=(~~~ d2E l).isLt
@[reducible] def b9k:Type:=a0L×(Int×(Int×(List (Int×(Int×Unit))×(List a1m×Unit))))
def mkT(fm:a0L)(xs:List Pc):b9k:=(fm,((a0Z xs:Nat):Int),((a2H fm xs:Nat):Int),a3T 0 0 xs,xs.map (·.1),())
def nsP(xs:List Pc):List Nat:=xs.flatMap fun x=>[x.2.2.length,a0Y x.2.1]
def a3E(fm:a0L)(xs:List Pc):List Nat:=[fm.1.toNat,fm.2.1.toNat,fm.2.2.1.toNat,xs.length]++nsP xs
def b9l:List Int:=[75,78,83,68]
def a1e(fm:a0L)(xs:List Pc):List Int:=b9l++((a3E fm xs).flatMap a0K++a7F 8 (a2H fm xs))
def a1P(fm:a0L)(xs:List Pc):List Int:=a1e fm xs++(a7F 4 (a4c (a1e fm xs))++a0J xs)
def b2k(l:List Int)(ch st en:Nat):List Int:=(l.take (en*ch)).drop (st*ch)
theorem c7T{l:List Int}{ch st en:Nat}(h:en*ch≤l.length):(b2k l ch st en).length=(en-st)*ch:=by
 simp_all[b2k,Nat.sub_mul]
theorem c7U{l:List Int}{ch st en:Nat}(h:st≤en):l.take (st*ch)++b2k l ch st en=l.take (en*ch):=by
 grind[b2k,a33,List.take_append_drop]
theorem c7V{l:List Int}{p:Int→Bool}{ch st en:Nat}(h:l.all p=true):(b2k l ch st en).all p=true:=
 lA.2 fun x g=>lA.1 h x (List.mem_of_mem_take (List.mem_of_mem_drop g))
theorem b5F(h:List Pc):(nsP h).length=2*h.length:=by
 induction h with
 |nil=>rfl
 |cons x h ih=>grind[nsP]
theorem c9h(h:List Pc)(x:Pc):nsP (h++[x])=nsP h++[x.2.2.length,a0Y x.2.1]:=by simp[nsP]
theorem c2s{fm:a0L}:∀{xs:List Pc}{st:Nat},a2B fm st xs→∀n∈nsP xs,n<1048704
 | [],_,_,n,hn=>by simp[nsP]at hn
 |x::xs,st,h,n,hn=>by
  have g:=h.1.2.2.2.2.2.2.2.2;simp only[nsP,a24,mA,mC,a43,or_false]at hn;rcases hn with(rfl|rfl)|hn;omega;omega;exact c2s h.2 n hn
theorem b7D{fm:a0L}:∀{xs:List Pc}{st:Nat},a2B fm st xs→xs.length≤a0Z xs∧a0Z xs≤64*xs.length
 | [],_,_=>by simp[a0Z]
 |x::xs,st,h=>by
  have g:=h.1.2.2.2.2.2.2.1.2.2.2.2.1;have f:=h.1.2.2.2.2.2.2.2.2.1
  have:=b7D h.2
  simp only[a0Z,a36,List.sum_cons,lC]at *;omega
theorem b4D:∀(l:List Nat),(∀n∈l,n<9223372036854775808)→(l.flatMap a0K).length≤9*l.length
 | [],_=>by simp
 |n::l,h=>by
  have:=(a8P (h n (by simp))).2
  have:=b4D l fun m g=>h m (by simp[g])
  simp only[a24,lN,lC];omega
theorem a7B{fm:a0L}(f:a4b fm){xs:List Pc}(h:a2B fm 0 xs)(i:xs.length≤256):∀n∈a3E fm xs,n<1048704:=fun n g=>by
 simp only[a3E,mA,mC,a43,or_false]at g;obtain⟨k,a,b,c,d,e⟩:=f;rcases g with(rfl|rfl|rfl|rfl)|g;omega;omega;omega;omega;exact c2s h n g
theorem b4E{fm:a0L}(g:a4b fm){xs:List Pc}(h:a2B fm 0 xs)(k:xs.length≤256):(a1e fm xs).length≤6000:=by
 have a:=b4D (a3E fm xs) fun n f=>a08 (a7B g h k n f) (by simp)
 grind[a3E,b5F,a1e,b9l,a5Q]
def a9L(y0 d q r:Nat):Prop:=4294967296≤q∨4294967296*r+d<q*y0
instance (y0 d q r:Nat):Decidable (a9L y0 d q r):=inferInstanceAs (Decidable (_∨_))
def b7E(u d y1 y0:Nat):Nat:=
 if a9L y0 d (u / y1) (u%y1)then
  if 4294967296≤u%y1+y1 then u / y1-1
  else if a9L y0 d (u / y1-1) (u%y1+y1)then u / y1-2 else u / y1-1
 else u / y1
theorem d1x{u d y1 y0:Nat}(t:2147483648≤y1)(p:y0<4294967296)(w:u<y1*4294967296+y0)(v:d<4294967296):
  b7E u d y1 y0=(u*4294967296+d) / (y1*4294967296+y0):=by
 have hp:0<y1:=by omega
 have e:u=u / y1*y1+u%y1:=(Nat.div_add_mod' u y1).symm;have s:=a20 u hp;have j:u / y1≤4294967297:=by
  have:u / y1<4294967298:=(a64 hp).2 (by omega)
  omega
 have y:u*4294967296+d<(u / y1+1)*(y1*4294967296+y0):=by
  grind
 have over:∀{q r:Nat},u=q*y1+r→a9L y0 d q r→u*4294967296+d<q*(y1*4294967296+y0):=by
  intro q r g f;rcases f with f|f
  have:=a33 (y1*4294967296+y0) f
  omega
  grind
 have fits:∀{q r:Nat},u=q*y1+r→¬ a9L y0 d q r→q*(y1*4294967296+y0)≤u*4294967296+d:=
  fun g f=>c7Q g (Nat.le_of_not_lt fun h=>f (.inr h))
 have i:∀{q r:Nat},u=q*y1+r→q≤4294967296→4294967296≤r→q*(y1*4294967296+y0)≤u*4294967296+d:=by
  intro q r g j s;refine c7Q g ?_
  have a:=a07 j (a49 p);omega
 unfold b7E;generalize u / y1=q at *;generalize u%y1=r at *;have done:∀{m:Nat},m*(y1*4294967296+y0)≤u*4294967296+d→u*4294967296+d<(m+1)*(y1*4294967296+y0)→m=(u*4294967296+d) / (y1*4294967296+y0):=
  fun a b=>(Nat.div_eq_of_lt_le a b).symm
 by_cases c:a9L y0 d q r
 rw[if_pos c];have o:=over e c;have q1:1≤q:=a75 fun z=>by grind
 obtain⟨q,rfl⟩:∃k,q=k+1:=⟨q-1,by omega⟩;rw[Nat.add_sub_cancel];have l:u=q*y1+(r+y1):=by grind
 by_cases c1:4294967296≤r+y1
 grind
 rw[if_neg c1]
 by_cases c2:a9L y0 d q (r+y1)
 rw[if_pos c2];have o1:=over l c2;have x:1≤q:=a75 fun z=>by grind
 obtain⟨q,rfl⟩:∃k,q=k+1:=⟨q-1,by omega⟩;have n:u=q*y1+(r+y1+y1):=by grind
 exact done (m:=q) (i n (by omega) (by omega)) o1
 grind
 grind
theorem d2F(hi lo:Nat):
  (((hi*8+lo / 2305843009213693952)*4294967296+lo*8%18446744073709551616 / 4294967296)%18446744073709551608*4294967296+lo*8%18446744073709551616%4294967296)%18446744073709551608 / 8
   = (hi*18446744073709551616+lo)%prm:=by
 have e:((hi*8+lo / 2305843009213693952)*4294967296+lo*8%18446744073709551616 / 4294967296)*4294967296+lo*8%18446744073709551616%4294967296=(hi*18446744073709551616+lo)*8:=by omega
 rw[d1s,e];exact c7R _ 8 prm (by simp)
theorem c9i{hi lo:Nat}(h:hi<prm)(g:lo<18446744073709551616):hi*8+lo / 2305843009213693952<4294967295*4294967296+4294967288:=by
 unfold prm at h;omega
theorem c7W{a b c:Nat}(h:a<prm)(hb:b<prm)(g:c≤prm):(a*b+c) / 18446744073709551616<prm:=by
 have:=a07 (a69 h) (a69 hb)
 unfold prm at *;omega
theorem d2G{a b x0 x1 y0 y1 t:Nat}(k:x0=a%4294967296)(c:x1=a / 4294967296)(d:y0=b%4294967296)(i:y1=b / 4294967296)(r:t=x1*y0+x0*y0 / 4294967296)
  (n:a<18446744073709551616)(hb:b<18446744073709551616):
  x1*y1+t / 4294967296+(t%4294967296+x0*y1) / 4294967296=a*b / 18446744073709551616∧x0*y0<18446744073709551616∧t<18446744073709551616∧t%4294967296+x0*y1<18446744073709551616:=by
 have j:a=x1*4294967296+x0:=by omega
 have l:b=y1*4294967296+y0:=by omega
 have e:a*b=x1*y1*18446744073709551616+(x1*y0+x0*y1)*4294967296+x0*y0:=by
  grind
 have m:∀{p q:Nat},p<4294967296→q<4294967296→p*q≤4294967295*4294967295:=fun hp o=>a07 (by omega) (by omega);have h:=m (show x0<4294967296 by omega) (show y0<4294967296 by omega);have f:=m (show x1<4294967296 by omega) (show y0<4294967296 by omega);have g:=m (show x0<4294967296 by omega) (show y1<4294967296 by omega);omega
theorem c6R(n:Nat):wrap .u64 (n:Int)=((n%18446744073709551616:Nat):Int):=by
 rfl
theorem c4m{n k:Nat}(h:k≤64):A0o .u64 (n:Int) (k:Int)=((n / 2^k:Nat):Int):=by
 have g:min (a28 (k:Int)) (IntKind.bits .u64)=k:=by simp_all[IntKind.bits]
 unfold A0o
 grind
theorem c7X(n:Nat):A0o .u64 (n:Int) 32=((n / 4294967296:Nat):Int):=c4m (k:=32) (by omega)
theorem d0K(n:Nat):bits .u64 .and (n:Int) 4294967295=((n%4294967296:Nat):Int):=by
 show wrap .u64 (((a00 64 (n:Int) &&& a00 64 4294967295).toNat:Nat):Int)=_;have g:(a00 64 4294967295).toNat=4294967295:=rfl;have h:(a00 64 (n:Int)).toNat=n%18446744073709551616:=by rfl
 rw[a42,h,g,show 4294967295=2^32-1 from rfl,a29,c6R];omega
theorem d7p{a b:Nat}(f:a<2305843009213693952)(hb:b<8):bits .u64 .or ((a*8:Nat):Int) (b:Int)=((a*8+b:Nat):Int):=by
 show wrap .u64 (((a00 64 ((a*8:Nat):Int) ||| a00 64 (b:Int)).toNat:Nat):Int)=_;have h:(a00 64 ((a*8:Nat):Int)).toNat=2^3*a:=by grind[a23]
 have g:(a00 64 (b:Int)).toNat=b:=by grind
 rw[a86,h,g,←a50 (i:=3) hb a,c6R];omega
theorem c9j{a b:Nat}(f:a<18446744073709551616)(hb:b<18446744073709551616):a5W ((a:Int),(b:Int))=some (((a*b / 18446744073709551616:Nat):Int),((a*b%18446744073709551616:Nat):Int)):=by
 obtain⟨k,c,d,e⟩:=d2G (a:=a) (b:=b) rfl rfl rfl rfl rfl f hb;unfold a5W;simp only[c7X,d0K,←a88,←Int.natCast_add,c6R,sj,pJ,Int.natCast_inj];refine⟨?_,trivial⟩
 revert k c d e
 generalize a%4294967296*(b%4294967296)=p00;generalize a / 4294967296*(b%4294967296)=p10;generalize a%4294967296*(b / 4294967296)=p01;have i:a*b / 18446744073709551616<18446744073709551616:=a70 (Nat.lt_of_le_of_lt (a07 (a49 f) (a49 hb)) (by omega:18446744073709551616*18446744073709551616<18446744073709551616*18446744073709551616+1) |> fun h=>by
  rcases Nat.lt_or_ge (a*b) (18446744073709551616*18446744073709551616)with g|g;omega
  have:=Nat.mul_lt_mul_of_lt_of_le f (a49 hb) (by omega);omega)
 omega
theorem b8F{α:Type}(p:Prop)[Decidable p](a b:α):(bif decide p then a else b)=if p then a else b:=by
 simp
theorem d2H:a3K 2305843009213693951=some 3:=by rfl
theorem c6S{u d q:Nat}(h:q=b7E u d 4294967295 4294967288)(f:u<4294967295*4294967296+4294967288)(g:d<4294967296):q*18446744073709551608≤u*4294967296+d∧u*4294967296+d<q*18446744073709551608+18446744073709551608∧q<4294967296:=by
 grind[d1x]
theorem b8G{u d u0 q r:Nat}{s:Int}(c:d<4294967296)(e:q≤4294967297)(i:r<4294967296):a1V ((18446744073709551608:Int),s,(4294967295:Int),(4294967288:Int),(u:Int),(d:Int),(u0:Int),(q:Int),(r:Int),()) =
  if a9L 4294967288 d q r then(if 4294967296≤r+4294967295 then some (.inr ((18446744073709551608:Int),s,(4294967295:Int),(4294967288:Int),(u:Int),(d:Int),(u0:Int),((q-1:Nat):Int),()))else some (.inl ((18446744073709551608:Int),s,(4294967295:Int),(4294967288:Int),(u:Int),(d:Int),(u0:Int),((q-1:Nat):Int),((r+4294967295:Nat):Int),())))else some (.inr ((18446744073709551608:Int),s,(4294967295:Int),(4294967288:Int),(u:Int),(d:Int),(u0:Int),(q:Int),())):=by
 have a:wrap .u64 ((q:Int)-1)=(((q-1:Nat)):Int)∨q=0:=by
  rcases a76 q with h|h;exact .inr h;left;rw[a0M (by omega)];omega
 have f:wrap .u64 ((r:Int)+4294967295)=((r+4294967295:Nat):Int):=by rw[a0M (by omega)];omega
 have k:decide (wrap .u64 ((r:Int)+4294967295)≥(4294967296:Int))=decide (4294967296≤r+4294967295):=by
  rw[f];exact decide_eq_decide.2 (by omega)
 have tail:q≠0→(bif decide (wrap .u64 ((r:Int)+4294967295)≥(4294967296:Int))then(some (.inr ((18446744073709551608:Int),s,(4294967295:Int),(4294967288:Int),(u:Int),(d:Int),(u0:Int),(wrap .u64 ((q:Int)-1)),())):Option (_ ⊕ (Int×Int×Int×Int×Int×Int×Int×Int×Unit)))else some (.inl ((18446744073709551608:Int),s,(4294967295:Int),(4294967288:Int),(u:Int),(d:Int),(u0:Int),(wrap .u64 ((q:Int)-1)),(wrap .u64 ((r:Int)+4294967295)),()))) =
   (if 4294967296≤r+4294967295 then some (.inr ((18446744073709551608:Int),s,(4294967295:Int),(4294967288:Int),(u:Int),(d:Int),(u0:Int),((q-1:Nat):Int),()))else some (.inl ((18446744073709551608:Int),s,(4294967295:Int),(4294967288:Int),(u:Int),(d:Int),(u0:Int),((q-1:Nat):Int),((r+4294967295:Nat):Int),()))):=fun b=>by
  rw[k,a.resolve_right b,f];exact b8F ..
 by_cases h1:4294967296≤q
 have c0:decide ((q:Int)≥(4294967296:Int))=true:=decide_eq_true (by omega);rw[if_pos (.inl h1),←tail (by omega)];unfold a1V;dsimp only;rw[c0,cT,oB];have c0:decide ((q:Int)≥(4294967296:Int))=false:=decide_eq_false (by omega);have j:wrap .u64 ((q:Int)*4294967288)=((q*4294967288:Nat):Int):=by rw[a0M (by omega)];omega
 have l:wrap .u64 (wrap .u64 ((4294967296:Int)*(r:Int))+(d:Int))=((4294967296*r+d:Nat):Int):=by rw[a0M (n:=4294967296*(r:Int)) (by omega),a0M (by omega)];omega
 by_cases h2:4294967296*r+d<q*4294967288
 have g:decide (wrap .u64 ((q:Int)*4294967288) > wrap .u64 (wrap .u64 ((4294967296:Int)*(r:Int))+(d:Int)))=true:=decide_eq_true (by omega);rw[if_pos (.inr h2),←tail (by omega)];unfold a1V;dsimp only;rw[c0,cF,g,cT,oB];have g:decide (wrap .u64 ((q:Int)*4294967288) > wrap .u64 (wrap .u64 ((4294967296:Int)*(r:Int))+(d:Int)))=false:=decide_eq_false (by omega);rw[if_neg (by unfold a9L;omega)];unfold a1V;dsimp only;rw[c0,cF,g,cF,oB]
theorem d2I{u d u0:Nat}{s:Int}(k:u<4294967295*4294967296+4294967288)(f:d<4294967296):
  y0s a1V ((18446744073709551608:Int),s,(4294967295:Int),(4294967288:Int),(u:Int),(d:Int),(u0:Int),((u / 4294967295:Nat):Int),((u%4294967295:Nat):Int),())=some ((18446744073709551608:Int),s,(4294967295:Int),(4294967288:Int),(u:Int),(d:Int),(u0:Int),((b7E u d 4294967295 4294967288:Nat):Int),()):=by
 have h:u / 4294967295≤4294967297:=by omega
 have g:u%4294967295<4294967295:=a20 _ (by omega);unfold b7E
 revert h g
 generalize u / 4294967295=q;generalize u%4294967295=r;intro h g;have s0:=b8G (u0:=u0) (s:=s) (u:=u) f h (a83 g)
 by_cases c1:a9L 4294967288 d q r
 ·rw[if_pos c1]at s0⊢
  by_cases c2:4294967296≤r+4294967295
  simp_all[a0E]
  ·rw[if_neg c2]at s0⊢;rw[a0F s0];have a:=b8G (u0:=u0) (s:=s) (u:=u) (q:=q-1) (r:=r+4294967295) f (by omega) (by omega)
   by_cases c3:a9L 4294967288 d (q-1) (r+4294967295)
   all_goals simp_all[Nat.sub_sub,a0E]
 simp_all[a0E]
theorem b8H{u d q r:Nat}{s q1:Int}(c:d<4294967296)(e:q≤4294967297)(i:r<4294967296):a1W ((18446744073709551608:Int),s,(4294967295:Int),(4294967288:Int),(d:Int),q1,(r:Int),(u:Int),(q:Int),()) =
  if a9L 4294967288 d q r then(if 4294967296≤r+4294967295 then some (.inr ((18446744073709551608:Int),s,(d:Int),q1,(u:Int),((q-1:Nat):Int),()))else some (.inl ((18446744073709551608:Int),s,(4294967295:Int),(4294967288:Int),(d:Int),q1,((r+4294967295:Nat):Int),(u:Int),((q-1:Nat):Int),())))else some (.inr ((18446744073709551608:Int),s,(d:Int),q1,(u:Int),(q:Int),())):=by
 have a:wrap .u64 ((q:Int)-1)=(((q-1:Nat)):Int)∨q=0:=by
  rcases a76 q with h|h;exact .inr h;left;rw[a0M (by omega)];omega
 have f:wrap .u64 ((r:Int)+4294967295)=((r+4294967295:Nat):Int):=by rw[a0M (by omega)];omega
 have k:decide (wrap .u64 ((r:Int)+4294967295)≥(4294967296:Int))=decide (4294967296≤r+4294967295):=by
  rw[f];exact decide_eq_decide.2 (by omega)
 have tail:q≠0→(bif decide (wrap .u64 ((r:Int)+4294967295)≥(4294967296:Int))then(some (.inr ((18446744073709551608:Int),s,(d:Int),q1,(u:Int),(wrap .u64 ((q:Int)-1)),())):Option (_ ⊕ (Int×Int×Int×Int×Int×Int×Unit)))else some (.inl ((18446744073709551608:Int),s,(4294967295:Int),(4294967288:Int),(d:Int),q1,(wrap .u64 ((r:Int)+4294967295)),(u:Int),(wrap .u64 ((q:Int)-1)),()))) =
   (if 4294967296≤r+4294967295 then some (.inr ((18446744073709551608:Int),s,(d:Int),q1,(u:Int),((q-1:Nat):Int),()))else some (.inl ((18446744073709551608:Int),s,(4294967295:Int),(4294967288:Int),(d:Int),q1,((r+4294967295:Nat):Int),(u:Int),((q-1:Nat):Int),()))):=fun b=>by
  rw[k,a.resolve_right b,f];exact b8F ..
 by_cases h1:4294967296≤q
 have c0:decide ((q:Int)≥(4294967296:Int))=true:=decide_eq_true (by omega);rw[if_pos (.inl h1),←tail (by omega)];unfold a1W;dsimp only;rw[c0,cT,oB];have c0:decide ((q:Int)≥(4294967296:Int))=false:=decide_eq_false (by omega);have j:wrap .u64 ((q:Int)*4294967288)=((q*4294967288:Nat):Int):=by rw[a0M (by omega)];omega
 have l:wrap .u64 (wrap .u64 ((4294967296:Int)*(r:Int))+(d:Int))=((4294967296*r+d:Nat):Int):=by rw[a0M (n:=4294967296*(r:Int)) (by omega),a0M (by omega)];omega
 by_cases h2:4294967296*r+d<q*4294967288
 have g:decide (wrap .u64 ((q:Int)*4294967288) > wrap .u64 (wrap .u64 ((4294967296:Int)*(r:Int))+(d:Int)))=true:=decide_eq_true (by omega);rw[if_pos (.inr h2),←tail (by omega)];unfold a1W;dsimp only;rw[c0,cF,g,cT,oB];have g:decide (wrap .u64 ((q:Int)*4294967288) > wrap .u64 (wrap .u64 ((4294967296:Int)*(r:Int))+(d:Int)))=false:=decide_eq_false (by omega);rw[if_neg (by unfold a9L;omega)];unfold a1W;dsimp only;rw[c0,cF,g,cF,oB]
theorem d2J{u d:Nat}{s q1:Int}(k:u<4294967295*4294967296+4294967288)(f:d<4294967296):
  y0s a1W ((18446744073709551608:Int),s,(4294967295:Int),(4294967288:Int),(d:Int),q1,((u%4294967295:Nat):Int),(u:Int),((u / 4294967295:Nat):Int),())=some ((18446744073709551608:Int),s,(d:Int),q1,(u:Int),((b7E u d 4294967295 4294967288:Nat):Int),()):=by
 have h:u / 4294967295≤4294967297:=by omega
 have g:u%4294967295<4294967295:=a20 _ (by omega);unfold b7E
 revert h g
 generalize u / 4294967295=q;generalize u%4294967295=r;intro h g;have s0:=b8H (s:=s) (q1:=q1) (u:=u) f h (a83 g)
 by_cases c1:a9L 4294967288 d q r
 ·rw[if_pos c1]at s0⊢
  by_cases c2:4294967296≤r+4294967295
  simp_all[a0E]
  ·rw[if_neg c2]at s0⊢;rw[a0F s0];have a:=b8H (s:=s) (q1:=q1) (u:=u) (q:=q-1) (r:=r+4294967295) f (by omega) (by omega)
   by_cases c3:a9L 4294967288 d (q-1) (r+4294967295)
   all_goals simp_all[Nat.sub_sub,a0E]
 simp_all[a0E]
theorem d4s(n:Int):wrap .u64 n=n%18446744073709551616:=by rfl
theorem d1y{u d Q:Nat}(h:Q*18446744073709551608≤u*4294967296+d)(g:u*4294967296+d<Q*18446744073709551608+18446744073709551608):
  wrap .u64 (wrap .u64 (wrap .u64 ((u:Int)*4294967296)+(d:Int))-wrap .u64 ((Q:Int)*18446744073709551608))=(((u*4294967296+d)%18446744073709551608:Nat):Int):=by
 grind[d4s]
theorem c5p{u:Nat}(h:u<18446744073709551616):wrap .u64 ((u:Int)-wrap .u64 (((u / 4294967295:Nat):Int)*4294967295))=((u%4294967295:Nat):Int):=by
 grind[a0M]
theorem sh3(n:Nat):A0n .u64 (n:Int) 3=((n*8%18446744073709551616:Nat):Int):=by
 rfl
theorem c9k(lo:Nat):a2K (0,(lo:Int),(2305843009213693951:Int))=some (wrap .u64 (a21 (lo:Int) 2305843009213693951),((lo%2305843009213693951:Nat):Int)):=by
 rfl
theorem d4t:wrap .u64 3=3:=by rfl
theorem d2K:wrap .u64 (64-3)=((61:Nat):Int):=by rfl
theorem d4u:A0n .u64 2305843009213693951 3=18446744073709551608:=by rfl
theorem d4v:A0o .u64 18446744073709551608 32=4294967295:=by rfl
theorem d4w:bits .u64 .and 18446744073709551608 4294967295=4294967288:=by rfl
theorem d4x:((2305843009213693951:Int)==0)=false:=by rfl
theorem d4y:decide ((3:Int)<0)=false:=by rfl
theorem d4z:decide (((61:Nat):Int)<0)=false:=by rfl
theorem d4A:((4294967295:Int)==0)=false:=by rfl
theorem c7Y{u d Q v:Nat}(hv:(u*4294967296+d)%18446744073709551608=v)(h:Q*18446744073709551608≤u*4294967296+d)(g:u*4294967296+d<Q*18446744073709551608+18446744073709551608):
  wrap .u64 (wrap .u64 (wrap .u64 ((u:Int)*4294967296)+(d:Int))-wrap .u64 ((Q:Int)*18446744073709551608))=(v:Int):=by
 simp_all[d1y]
theorem d0L{u:Nat}(h:u<18446744073709551616):wrap .u64 ((u / 4294967295:Nat):Int)=((u / 4294967295:Nat):Int):=a0M (by omega)
theorem d1z{hi lo u d e v r:Nat}(hv:(u*4294967296+d)%18446744073709551608=v)(m:(v*4294967296+e)%18446744073709551608=r)(y:hi≠0)(z:hi<2305843009213693951)(o:hi*8+lo / 2305843009213693952=u)(i:lo*8%18446744073709551616 / 4294967296=d)(j:lo*8%18446744073709551616%4294967296=e)(A:lo<18446744073709551616)
  (h:u<4294967295*4294967296+4294967288)(f:d<4294967296)(a:e<4294967296):
  ∃q:Int,a2K ((hi:Int),(lo:Int),(2305843009213693951:Int))=some (q,((r / 8:Nat):Int)):=by
 have c0:((hi:Int)==0)=false:=by simp_all
 have b:decide ((2305843009213693951:Int)≤(hi:Int))=false:=decide_eq_false (by omega);have c:hi*8%18446744073709551616=hi*8:=by omega
 have l:bits .u64 .or ((hi*8:Nat):Int) (A0o .u64 (lo:Int) ((61:Nat):Int))=(u:Int):=by
  rw[c4m (k:=61) (by omega),show 2^61=2305843009213693952 from rfl,d7p (by omega) (by omega),o]
 have p:=d2I (u0:=e) (s:=3) h f;have B:=c7Y hv (c6S rfl h f).1 (c6S rfl h f).2.1;have g:v<4294967295*4294967296+4294967288:=by grind
 have l1:=d2J (s:=3) (q1:=((b7E u d 4294967295 4294967288:Nat):Int)) g a;have C:=c7Y m (c6S rfl g a).1 (c6S rfl g a).2.1;have t:=c5p (u:=u) (a08 h (by simp));have r2:=c5p (u:=v) (a08 g (by simp));have w:wrap .u64 ((u / 4294967295:Nat):Int)=((u / 4294967295:Nat):Int):=d0L (a08 h (by simp));have x:wrap .u64 ((v / 4294967295:Nat):Int)=((v / 4294967295:Nat):Int):=d0L (a08 g (by simp));have q1:a21 (u:Int) 4294967295=((u / 4294967295:Nat):Int):=rfl;have D:a21 (v:Int) 4294967295=((v / 4294967295:Nat):Int):=rfl;have g8:∀n:Nat,A0o .u64 (n:Int) 3=((n / 8:Nat):Int):=fun n=>c4m (k:=3) (by omega);unfold a2K;dsimp only;rw[d4x,cF,b,cF,c0,cF,d2H,oB,d4t,d4y,cF,cF,d2K,d4z,cF,cF,d4u,d4v,d4A,cF,d4w,sh3 hi,c,l,sh3 lo,c7X,i,d0K,j,q1,w,t,p,oB];simp_all
theorem d1A{hi lo:Nat}(h:hi<prm)(g:lo<18446744073709551616):∃q:Int,a2K ((hi:Int),(lo:Int),(2305843009213693951:Int))=some (q,(((hi*18446744073709551616+lo)%prm:Nat):Int)):=by
 by_cases h0:hi=0
 subst h0;rw[Nat.zero_mul,a79];exact⟨_,c9k lo⟩;rw[←d2F hi lo];exact d1z rfl rfl h0 h rfl rfl rfl g (c9i h g) (a70 (Nat.lt_of_lt_of_le (a20 _ (by omega)) (by omega))) (a20 _ (by omega))
theorem b7O{a b c:Nat}(g:a<prm)(hb:b<prm)(f:c≤prm):a5L ((a:Int),(b:Int),(c:Int))=some (((a*b+c)%prm:Nat):Int):=by
 have k:=c7W g hb f;unfold prm at g hb f k;have l:=c9j (a:=a) (b:=b) (by omega) (by omega);have j:a8U (((a*b%18446744073709551616:Nat):Int),(c:Int),(0:Int))=some ((((a*b%18446744073709551616+c)%18446744073709551616:Nat):Int),(((a*b%18446744073709551616+c) / 18446744073709551616:Nat):Int)):=rfl;obtain⟨hi,h⟩:∃hi,(a*b+c) / 18446744073709551616=hi:=⟨_,rfl⟩;rw[h]at k;have i:wrap .u64 (((a*b / 18446744073709551616:Nat):Int)+((a*b%18446744073709551616+c) / 18446744073709551616:Nat))=(hi:Int):=by
  grind[a0M]
 obtain⟨q,d⟩:=d1A (hi:=hi) (lo:=(a*b%18446744073709551616+c)%18446744073709551616) (by unfold prm;omega) (by omega);have e:hi*18446744073709551616+(a*b%18446744073709551616+c)%18446744073709551616=a*b+c:=by omega
 rw[e]at d;have t:a46 (hi:Int) 2305843009213693951=(hi:Int):=by
  grind
 unfold a5L a8V;simp_all
theorem b8I(l:List Int)(n i:Int):∀(j k:Nat)(s:Int),k+j=8→y0s a7D (s,l,n,i,(k:Int),())=some (rep e32 j s,l,n,i,())
 |0,k,s,h=>by
  obtain rfl:k=8:=by omega
  rfl
 |j+1,k,s,h=>by
  have d:decide ((k:Int)<8)=true:=by grind
  rw[a0F (s':=(e32 s,l,n,i,((k+1:Nat):Int),())) (by
   simp only[a7D,d,cT,a0B (show k<1000000 by omega),e32]
   grind)]
  exact b8I l n i j (k+1) (e32 s) (by omega)
theorem c0U{l:List Int}(k:short l):∀(rest done:List Int)(s:BitVec 32),done++rest=l→(∀b∈rest,0≤b∧b<256)→
  y0s a4S (((s.toNat:Nat):Int),l,(l.length:Int),(done.length:Int),())=some ((((d2B s (rest.map (a00 32))).toNat:Nat):Int),())
 | [],done,s,hd,_=>by
  obtain rfl:done=l:=by simp_all
  exact a0E (by simp only[a4S,dge,cF];rfl)
 |x::rest,done,s,hd,hb=>by
  have g:done.length<l.length:=by grind
  have a:m0k l (done.length:Int)=some x:=by grind[a0D]
  have c:=hb x (by simp);have e:bits .u32 .xor ((s.toNat:Nat):Int) (wrap .u32 x)=(((s ^^^ a00 32 x).toNat:Nat):Int):=by
   rw[←c6Q]
   grind[a23,wrap,IntKind.bits]
  have f:=b8I l (l.length:Int) (done.length:Int) 8 0 (bits .u32 .xor ((s.toNat:Nat):Int) (wrap .u32 x)) rfl;rw[e,c4l]at f;rw[a0F (s':=((((c9f s (a00 32 x)).toNat:Nat):Int),l,(l.length:Int),(((done++[x]).length:Nat):Int),())) (by
   simp only[a4S,dlt g,cT,a,oB,e]
   erw[f]
   simp only[oB,a0B (a08 g k)];simp[c9f])]
  exact c0U k rest (done++[x]) _ (by simp_all) (fun b h=>hb b (by grind))
theorem b7F{l:List Int}(g:short l)(hb:∀b∈l,0≤b∧b<256):a4I l=some ((a4c l:Nat):Int):=by
 have h:=c0U g l [] 0xffffffff#32 rfl hb;rw[a09]at h;unfold a4I
 erw[h]
 simp only[oB];rw[show IntKind.max .u32=(((0xffffffff#32).toNat:Nat):Int)from rfl,c6Q];rfl
theorem c0V{l:List Int}(k:short l):∀(rest done:List Int)(h:Nat),done++rest=l→h<prm→(∀b∈rest,0≤b∧b<256)→
  y0s a7K ((h:Int),l,(l.length:Int),(done.length:Int),())=some (((prs h (rest.map a28):Nat):Int),())
 | [],done,h,hd,_,_=>by
  obtain rfl:done=l:=by simp_all
  exact a0E (by simp only[a7K,dge,cF];rfl)
 |x::rest,done,h,hd,hh,hb=>by
  have g:done.length<l.length:=by grind
  have d:m0k l (done.length:Int)=some x:=by grind[a0D]
  have i:=hb x (by simp);have e:wrap .u64 ((wrap .u64 x)+(1:Int))=((x.toNat+1:Nat):Int):=by grind[a0M]
  have f:=b7O (a:=h) (b:=1000003) (c:=x.toNat+1) hh (by decide) (by unfold prm;omega);rw[a0F (s':=((((h*1000003+(x.toNat+1))%prm:Nat):Int),l,(l.length:Int),(((done++[x]).length:Nat):Int),())) (by
   simp only[a7K,dlt g,cT,d,oB,e]
   erw[f]
   simp[a0B (a08 g k)])]
  exact c0V k rest (done++[x]) _ (by simp_all) (a20 _ (by decide)) (fun b h=>hb b (by grind))
theorem c9l{l:List Int}(g:short l)(hb:∀b∈l,0≤b∧b<256):a7Y l=some ((prI l:Nat):Int):=by
 have h:=c0V g l [] 0 rfl (by decide) hb;unfold a7Y
 erw[h]
 rfl
theorem b6q:∀(k n p s:Nat),n<2^k→n<4611686018427387904→p<prm→s<prm→y0s a7L ((n:Int),(p:Int),(s:Int),())=some (((pwr k n p s:Nat):Int),())
 |0,n,p,s,hn,_,_,_=>by
  obtain rfl:n=0:=by omega
  rfl
 |k+1,n,p,s,hn,hn2,hp,hs=>by
  by_cases h0:n=0
  subst h0;rfl;have d:decide ((n:Int) > 0)=true:=by grind
  have f:a46 (n:Int) 2=((n%2:Nat):Int):=rfl;have e:wrap .i64 (a21 (n:Int) 2)=((n / 2:Nat):Int):=by rw[show a21 (n:Int) 2=((n / 2:Nat):Int)from rfl,a0C (by omega)]
  have g:=b7O (c:=0) hs hs (by simp);have h:=b7O (c:=0) hp hs (by simp);have a:n / 2<2^k:=by omega
  simp only[a80,nZ]at g h;have m:=a20 (s*s) (show 0<prm by decide);rw[pwr,if_neg h0]
  by_cases h1:n%2=1
  rw[if_pos h1,a0F (s':=(((n / 2:Nat):Int),((p*s%prm:Nat):Int),((s*s%prm:Nat):Int),())) (by
   simp only[a7L,d,cT,f,h1,show(((1:Nat):Int)==1)=true from rfl];simp_all)]
  exact b6q k _ _ _ a (by omega) (a20 _ (by decide)) m;have b:n%2=0:=by omega
  rw[if_neg h1,a0F (s':=(((n / 2:Nat):Int),(p:Int),((s*s%prm:Nat):Int),())) (by
   simp only[a7L,d,cT,f,b,show(((0:Nat):Int)==1)=false from rfl,cF,oB];simp_all)]
  exact b6q k _ _ _ a (by omega) hp m
theorem d1B{a b n:Nat}(f:a<prm)(hb:b<prm)(h:n<4611686018427387904):b1S ((a:Int),(b:Int),(n:Int))=some ((((a*(1000003^n%prm)+b)%prm:Nat):Int),true):=by
 have hp:=b6q 62 n 1 1000003 h h (by decide) (by decide);rw[d2A 62 n 1 1000003 h (by decide),Nat.one_mul]at hp;have j:=b7O (c:=b) f (a20 (1000003^n) (show 0<prm by decide)) (a49 hb);unfold prm at f hb;have k:decide ((a:Int)≥(2305843009213693951:Int))=false:=by grind
 have d:decide ((b:Int)≥(2305843009213693951:Int))=false:=by grind
 have e:decide ((n:Int)<(0:Int))=false:=by simp
 have i:v0r (n:Int) 0=(n:Int):=by rfl
 have g:b0J (n:Int)=some ((1000003^n%prm:Nat):Int):=by
  simp_all[b0J]
 simp only[b1S,k,d,e,cF,oB,g];simp_all
theorem c4n(b:a1p)(N:Int){i:Nat}:∀(rest done:List (List Int)) (out:List Int),done++rest=b.2.1→b.2.1.length≤8→(∀r∈rest,i<r.length)→out.length+rest.length<1000000→
  y0s a6H ((i:Int),N,(i:Int),b.2.1,(b.2.1.length:Int),(done.length:Int),out,b,())=some (N,(i:Int),out++rest.map (fun r=>r.getD i 0),b,())
 | [],done,out,hd,_,_,_=>by
  simp_all[a0E,a6H]
 |r::rest,done,out,hd,h8,hr,ho=>by
  have g:done.length<b.2.1.length:=by grind
  have f:m0k b.2.1 (done.length:Int)=some r:=by grind[a0D]
  have k:=hr r (by simp);have h:m0k r (i:Int)=some (r.getD i 0):=by simp_all[a0D]
  simp at ho;rw[a0F (s':=((i:Int),N,(i:Int),b.2.1,(b.2.1.length:Int),(((done++[r]).length:Nat):Int),out++[r.getD i 0],b,())) (by
   simp only[a6H,dlt g,cT,f,h,oB,a0T (show out.length+1<2147483648 by omega),a0B (show done.length<1000000 by omega)]
   simp)]
  rw[c4n b N rest (done++[r]) _ (by simp_all) h8 (fun q a=>hr q (by grind)) (by grind)]
  simp
theorem c4o{b:a1p}(hb:a3O b):a5e b=some (wvB b):=by
 obtain⟨g1,g2,g3,g4,g5,g6,g7⟩:=id hb;have hlen:∀r∈b.2.1,r.length=a0Y b:=fun r hr=>by
  simp_all
 have hw:∀i,i≤4096→(wv i b.2.1).length≤32768:=fun i hi=>by
  rw[c7S]
  calc i*b.2.1.length≤4096*8:=a07 hi g4
   _=32768:=rfl
 have h:=a1A (f:=a6I) (fun i=>(((a0Y b:Nat):Int),(i:Int),wv i b.2.1,b,())) (a0Y b) (b:=(wv (a0Y b) b.2.1,())) (fun i hi=>by
  have h0:=c4n b ((a0Y b:Nat):Int) (i:=i) b.2.1 [] (wv i b.2.1) rfl g4 (fun r hr=>by simp_all) (by grind);rw[a09]at h0;simp only[a6I,dlt hi,cT]
  grind[a0B,wv,a37]) (by simp_all[a6I])
 unfold a5e;simp[a8o,hb,a6x]
 erw[h]
 rfl
theorem c1E{b:a1p}:(wvB b).length=a0Y b*b.2.1.length:=c7S _
theorem d1C{b:a1p}(hb:a3O b):(wvB b).all (fun x=>a1k x b.1)=true:=by
 obtain⟨g,f,k,a,c,d,e⟩:=hb;refine lA.2 fun x h=>?_
 unfold wvB wv at h
 grind
theorem d1D{b:a1p}(hb:a3O b):b0I b=some (a3u b.1 (wvB b),0):=by
 have hl:(wvB b).length≤1000000:=by
  rw[c1E]
  calc a0Y b*b.2.1.length≤4096*8:=a07 hb.2.2.2.2.2.1 hb.2.2.2.1
   _≤1000000:=by simp
 unfold b0I;simp only[a8o,hb,decide_true,oB,bT,cF,c4o hb,c1B ⟨hb.1,hb.2.1⟩ hl (d1C hb)]
theorem b7G{b:a1p}(hb:a3O b){w:Int}(h:b.1=w)(d:List Int):a4t (((prI (a3u w d):Nat):Int),b)=some (((prI (a3u w (d++wvB b)):Nat):Int),true):=by
 subst h;have g:=c6L ⟨hb.1,hb.2.1⟩ (wvB b);have f:(wvB b).length≤4096*8:=by rw[c1E];exact a07 hb.2.2.2.2.2.1 hb.2.2.2.1
 have k:=d1B (c0T (a3u b.1 d)) (c0T (a3u b.1 (wvB b))) (n:=(a3u b.1 (wvB b)).length) (by omega);unfold a4t;simp only[d1D hb,oB,show((0:Int) != 0)=false from rfl,cF,c9l (show short (a3u b.1 (wvB b))by unfold short;omega) (c4d _ _),c6M,d1t];simp_all
theorem c9m(d:List Int)(x:Int){ch:Nat}(h:0<ch):(a2A d ch).set (d.length%ch) ((a2A d ch).getD (d.length%ch) []++[x])=a2A (d++[x]) ch:=by
 have k:=a20 d.length h;refine a58 (by simp[a2A]) fun i g f=>?_
 simp[a2A]at g;rw[List.getElem_set];simp_all[a2A,c7P]
theorem d1E{fm:a0L}(e:a4b fm){ch:Nat}(k:fm.2.1=(ch:Int)){l:List Int}{n:Nat}(p:1≤n∧n≤4096)(j:l.length=n*ch)(a:l.all (fun x=>a1k x fm.2.2.1)=true):
  b0P (l,fm)=some (a8p fm.2.2.1 l ch,0):=by
 have g:1≤ch∧ch≤8:=by have:=e.2.2.1;have:=e.2.2.2.1;omega
 have G:l.length≤4096*8:=by rw[j];exact a07 p.2 g.2
 have q:1≤l.length:=by rw[j];exact Nat.mul_pos p.1 g.1
 have w:4≤fm.2.2.1∧fm.2.2.1≤24:=e.2.2.2.2;have c0:((ch:Int)==0)=false:=by grind
 have h:=a1A (f:=a7P) (fun i=>(l,((l.length:Nat):Int),(i:Int),b2w,(fm.2.2.1,a2A (l.take i) ch,()),fm,())) l.length (b:=Sum.inl (b2w,a8p fm.2.2.1 l ch,())) (fun i hi=>by
  have t:a46 (i:Int) (ch:Int)=((i%ch:Nat):Int):=rfl;have v:=a20 i g.1;have m:∀d,(a2A d ch).length=ch:=fun d=>by simp[a2A]
  have r:decide ((0:Int)≤((i%ch:Nat):Int))=true:=decide_eq_true (a02 _);have y:a1k l[i] fm.2.2.1=true:=lA.1 a _ (a25 hi);have o:(l.take i).length=i:=by grind
  have u:((a2A (l.take i) ch).getD (i%ch) []).length≤32768:=by
   grind[a2A,b1E]
  have c:=c9m (l.take i) l[i] g.1;rw[o]at c;simp only[a7P,dlt hi,cT,a0D hi,oB,b4b w,y,bT,cF,k,c0,t,r,List.length_set,m,dlt v,a01,tN,a0T (show((a2A (l.take i) ch).getD (i%ch) []).length+1<2147483648 by omega),beq_self_eq_true,Bool.and_true,a0B (show i<1000000 by omega)];simp_all) (by
  simp only[a7P,dge,cF,a22];rfl)
 have s:a2A ([]:List Int) ch=a06 ch []:=by
  refine a58 (by simp[a2A]) fun i E F=>?_
  simp[a2A,b1E]
 have q1:(((l.length:Nat):Int)==0)=false:=by grind
 have z:a46 ((l.length:Nat):Int) (ch:Int)=0:=by
  simp_all
 have A:wrap .i64 (a21 ((l.length:Nat):Int) (ch:Int))=(n:Int):=by
  rw[show a21 ((l.length:Nat):Int) (ch:Int)=((l.length / ch:Nat):Int)from rfl,j,a77 _ g.1,a0C (by omega)]
 have B:decide ((n:Int) > 4096)=false:=by grind
 have C:decide ((0:Int)≤(ch:Int))=true:=by simp
 have D:decide ((ch:Int)≤(ch:Int))=true:=by simp
 unfold b0P;simp only[a4w,e,decide_true,oB,bT,cF,q1,k,c0,z,show((0:Int) != 0)=false from rfl,A,B,C,D,tN,a0T (show ch<2147483648 by omega),a01,cT];simp only[List.take_zero,s]at h
 erw[h]
 rfl
theorem b3s{α:Type}(a:List α)(x:α)(b:List α):m0k (a++x::b) (a.length:Int)=some x:=by
 simp_all[a0D]
theorem c0W:∀(a b:List Pc)(st off:Nat),a3T st off (a++b)=a3T st off a++a3T (st+a0Z a) (off+(a0J a).length) b
 | [],b,st,off=>by rfl
 |y::a,b,st,off=>by
  simp_all[a3T,c0W,a0Z,a0J,a56]
theorem c4p{fm:a0L}{all:List Pc}(h:all.length≤256){t:b9k}(p:t.1=fm)(a:t.2.2.2.1=a3T 0 0 all):∀(rest done:List Pc),done++rest=all→a2B fm (a0Z done) rest→(a0J done).length≤700800*done.length→a0Z done≤64*done.length→
  y0s a8B (((a0Z done:Nat):Int),(((a0J done).length:Nat):Int),((a2H fm done:Nat):Int),all.map (·.1),((all.map (·.1)).length:Int),(done.length:Int),done.map (·.2.2),done.map (·.2.1),t,()) =
   some (.inl (((a0Z all:Nat):Int),((a2H fm all:Nat):Int),all.map (·.2.2),all.map (·.2.1),t,()))
 | [],done,hd,_,_,_=>by
  obtain rfl:done=all:=by simp_all
  simp_all[a0E,a8B]
 |x::rest,done,hd,hr,hb,hl=>by
  obtain⟨⟨u,d,v,e,j,y,l,m,z,b,c⟩,hr2⟩:=hr;have f:done.length<(all.map (·.1)).length:=by grind
  have k:all.length=done.length+(rest.length+1):=by grind
  have o:m0k (all.map (·.1)) (done.length:Int)=some x.1:=by
   grind[b3s]
  have g:m0k t.2.2.2.1 (done.length:Int)=some (((a0Z done:Nat):Int),(((a0J done).length:Nat):Int),()):=by
   have:=b3s (a3T 0 0 done) (((a0Z done:Nat):Int),(((a0J done).length:Nat):Int),()) (a3T (a0Z done+a0Y x.2.1) ((a0J done).length+x.2.2.length) rest)
   rw[b1c]at this;rw[a,←hd,c0W];simp_all[a3T]
  have n:eqT (.pair (.int .i64) (.pair (.int .i64) (.pair (.int .i64) .unit))) x.1.2.2.1 t.1=true:=by simp_all[b6k]
  have q:=b7G l (w:=fm.2.2.1) m (a2G done);have n1:(x.1.1 != ((a0Z done:Nat):Int))=false:=by simp_all
  have n2:∀i:Int,(i != i)=false:=fun i=>by simp
  have r:((0:Int) != 0)=false:=rfl;have s:wrap .i64 (((a0Z done:Nat):Int)+((a0Y x.2.1:Nat):Int))=((a0Z (done++[x]):Nat):Int):=by grind[a2Q,a0C]
  have w2:wrap .i64 ((((a0J done).length:Nat):Int)+((x.2.2.length:Nat):Int))=(((a0J (done++[x])).length:Nat):Int):=by grind[a5P,a0C]
  rw[a0F (s':=(((a0Z (done++[x]):Nat):Int),(((a0J (done++[x])).length:Nat):Int),((a2H fm (done++[x]):Nat):Int),all.map (·.1),((all.map (·.1)).length:Int),(((done++[x]).length:Nat):Int),(done++[x]).map (·.2.2),(done++[x]).map (·.2.1),t,())) (by
   simp only[a8B,dlt f,cT,o,oB];rw[n];simp only[bT,cF,oB,n1,g,n2,e,r,j]
   erw[q]
   simp only[oB,bT,cF,a05,a0T (show done.length+1<2147483648 by omega),cT,d,s,w2,a0B (show done.length<1000000 by omega)]
   simp[a2H,a6V])]
  exact c4p h p a rest (done++[x]) (by simp_all) (by simp_all[a2Q]) (by grind[a5P]) (by grind[a2Q])
theorem d2L{fm:a0L}(c:a4b fm){xs:List Pc}(b:a2B fm 0 xs)(g:xs.length≤256):a9k (mkT fm xs)=some (xs.map (·.2.2),xs.map (·.2.1),true):=by
 have h:=c4p g (t:=mkT fm xs) rfl rfl xs [] rfl b (by simp[a0J]) (by simp[a0Z]);have a:a1R (mkT fm xs).1=some true:=by simp_all[a4w,mkT]
 have f:decide (((a03 (mkT fm xs).2.2.2.2.1:Nat):Int) > (4096:Int))=false:=by simp[mkT];omega
 have k:(((a03 (mkT fm xs).2.2.2.1:Nat):Int) != ((a03 (mkT fm xs).2.2.2.2.1:Nat):Int))=false:=by simp[mkT,b1c]
 unfold a9k;simp[a,f,k]
 erw[h]
 simp_all[mkT]
theorem b4F{α:Type}(a:List α)(x d:α)(b:List α):(a++x::b).getD a.length d=x:=by
 rw[lD];simp
theorem c2t{fm:a0L}{all:List Pc}(h:all.length≤256)(t:b9k)(A:List Nat)(e:A.length=4):∀(rest done:List Pc)(st:Nat),done++rest=all→a2B fm st rest→
  y0s a8H (all.map (·.1),((all.map (·.1)).length:Int),(done.length:Int),all.map (·.2.2),asI (A++nsP done),t,())=some (all.map (·.2.2),asI (A++nsP all),t,())
 | [],done,st,hd,_=>by
  obtain rfl:done=all:=by simpa using hd
  exact a0E (by simp only[a8H,a05,dge,cF])
 |x::rest,done,st,hd,hr=>by
  obtain⟨⟨m,d,n,o,p,q,r,s,u,b,c⟩,hr2⟩:=hr;have k:done.length<(all.map (·.1)).length:=by rw[←hd];simp
  have g:done.length<(all.map (·.2.2)).length:=by rw[←hd];simp
  have j:m0k (all.map (·.1)) (done.length:Int)=some x.1:=by
   have:=b3s (done.map (·.1)) x.1 (rest.map (·.1))
   rw[a05]at this;rw[←hd,pA,a36];exact this
  have hp:(all.map (·.2.2)).getD done.length []=x.2.2:=by
   have:=b4F (done.map (·.2.2)) x.2.2 [] (rest.map (·.2.2))
   rw[a05]at this;rw[←hd,pA,a36];exact this
  have a:decide ((0:Int)≤(done.length:Int))=true:=decide_eq_true (a02 _);have i:done.length<all.length:=by rw[←hd];simp
  have f:(asI (A++nsP done)).length+2<2147483648:=by simp only[asI,a05,lN,b5F];omega
  have l:wrap .u64 ((x.2.2.length:Nat):Int)=((x.2.2.length:Nat):Int):=a0M (by omega);have w2:wrap .u64 ((a0Y x.2.1:Nat):Int)=((a0Y x.2.1:Nat):Int):=a0M (by omega);rw[a0F (s':=(all.map (·.1),((all.map (·.1)).length:Int),(((done++[x]).length:Nat):Int),all.map (·.2.2),asI (A++nsP (done++[x])),t,())) (by
   simp only[a8H,dlt k,dlt g,a,a01,cT,j,oB,a0T f,tN,hp,l,d,w2,a0B (show done.length<1000000 by omega)];simp[c9h,asI])]
  exact c2t h t A e rest (done++[x]) _ (by simpa using hd) hr2
theorem c2u{all:List (List Int)}(g:all.length≤256)(h:∀p∈all,p.length≤700800):∀(rest done:List (List Int)) (out:List Int),done++rest=all→out.length+700800*rest.length≤190000000→
  y0s a8I ((all.length:Int),(done.length:Int),out,all,())=some (out++rest.flatten,())
 | [],done,out,hd,_=>by
  obtain rfl:done=all:=by simpa using hd
  rw[a0E (b:=(out,())) (by simp only[a8I,dge,cF])]
  simp
 |p::rest,done,out,hd,ho=>by
  have f:done.length<all.length:=by rw[←hd];simp
  have hp:all.getD done.length []=p:=by rw[←hd];exact b4F done p [] rest
  have a:=h p (by rw[←hd];simp);have k:decide ((0:Int)≤(done.length:Int))=true:=decide_eq_true (a02 _);simp only[lC]at ho;rw[a0F (s':=((all.length:Int),(((done++[p]).length:Nat):Int),out++p,all,())) (by
   simp only[a8I,dlt f,k,a01,cT,tN,hp,a0T (show out.length+p.length<2147483648 by omega),a0B (show done.length<1000000 by omega)]
   simp)]
  rw[c2u g h rest (done++[p]) (out++p) (by simpa using hd) (by simp only[lN];omega)]
  simp
theorem c0X{fm:a0L}:∀{xs:List Pc}{st:Nat},a2B fm st xs→∀p∈xs.map (·.2.2),p.length≤700800
 | [],_,_,p,hp=>by simp at hp
 |x::xs,st,h,p,hp=>by
  rcases mC.1 hp with rfl|hp;exact h.1.2.2.2.2.2.2.2.2.2.2;exact c0X h.2 p hp
theorem b8J:∀(l:List Nat),(∀n∈l,n<9223372036854775808)→∀b∈l.flatMap a0K,0≤b∧b<256:=fun l h b hb=>by
 obtain⟨n,g,hb⟩:=a84.1 hb;exact c0I 8 n (by rw[show(128:Nat)^(8+1)=9223372036854775808 from by decide];exact h n g) b hb
theorem c4V{fm:a0L}(g:a4b fm){xs:List Pc}(h:a2B fm 0 xs)(k:xs.length≤256):∀b∈a1e fm xs,0≤b∧b<256:=fun b hb=>by
 unfold a1e at hb;rcases mA.1 hb with hb|hb;simp only[b9l,mC,a43,or_false]at hb;omega;rcases mA.1 hb with hb|hb;exact b8J _ (fun n f=>a08 (a7B g h k n f) (by decide)) b hb;exact b6o _ _ b hb
theorem c7Z{fm:a0L}(f:a4b fm){xs:List Pc}(g:a2B fm 0 xs)(h:xs.length≤256):b1X (mkT fm xs)=some (a1P fm xs,0):=by
 obtain⟨s,t,u,v,w,x⟩:=id f;have c:=c2t h (mkT fm xs) [fm.1.toNat,fm.2.1.toNat,fm.2.2.1.toNat,xs.length] rfl xs [] 0 rfl g;have hp:=b7v (ns:=a3E fm xs) (fun n j=>a08 (a7B f g h n j) (by decide)) (by simp only[a3E,lN,b5F,lC,a09];omega);have hv:=b4D (a3E fm xs) fun n i=>a08 (a7B f g h n i) (by decide);have z:(a3E fm xs).length≤516:=by simp only[a3E,lN,b5F,lC,a09];omega
 have y:=b4E f g h;have e:=b7C (n:=a2H fm xs) (k:=8) (by have:=c0T (a3u fm.2.2.1 (a2G xs));unfold prm at this;unfold a2H;omega) (by omega);have d:=b7C (n:=a4c (a1e fm xs)) (k:=4) (by have:=b6p (a1e fm xs);omega) (by omega);have m:=b7F (l:=a1e fm xs) (by unfold short;omega) (c4V f g h);have hb:=c2u (all:=xs.map (·.2.2)) (by simpa using h) (c0X g) (xs.map (·.2.2)) [] (a1e fm xs++a7F 4 (a4c (a1e fm xs))) rfl (by simp only[lN,a05,a5Q];omega);have o:wrap .u64 fm.1=((fm.1.toNat:Nat):Int):=by rw[a0M (by omega)];omega
 have w2:wrap .u64 fm.2.1=((fm.2.1.toNat:Nat):Int):=by rw[a0M (by omega)];omega
 have p:wrap .u64 fm.2.2.1=((fm.2.2.1.toNat:Nat):Int):=by rw[a0M (by omega)];omega
 have q:wrap .u64 ((a03 (xs.map (·.1)):Nat):Int)=((xs.length:Nat):Int):=by rw[a05,a0M (by omega)]
 have r:wrap .u64 ((a4c (a1e fm xs):Nat):Int)=((a4c (a1e fm xs):Nat):Int):=a0M (by have:=b6p (a1e fm xs);omega);unfold b1X;rw[d2L f g h];simp only[oB,bT,cF,mkT,o,w2,p,q]
 erw[c]
 simp only[oB]
 erw[hp]
 simp only[oB,a0T (show 4+((a3E fm xs).flatMap a0K).length<2147483648 by omega),cT]
 erw[e]
 have b:a85 (a85 ([(75:Int),(78:Int),(83:Int),(68:Int)]:List Int) ((a3E fm xs).flatMap a0K)) (a7F 8 (a2H fm xs))=a1e fm xs:=aA ..;have a:(a85 ([(75:Int),(78:Int),(83:Int),(68:Int)]:List Int) ((a3E fm xs).flatMap a0K)).length+(a7F 8 (a2H fm xs)).length<2147483648:=by
  have:=congrArg a03 b
  simp only[a39,lN]at this⊢;omega
 simp only[oB,a0T a,cT,b,m,r]
 erw[d]
 simp only[oB,a0T (show(a1e fm xs).length+(a7F 4 (a4c (a1e fm xs))).length<2147483648 by rw[a5Q];omega),cT]
 erw[hb]
 simp only[oB,a1P,a0J,List.flatMap_def,aA]
theorem d1F{P A R:List Int}(b:(P++(A++R)).length<1000000000):a4U (ord P (A++R),(A.length:Int))=some (A,ord (P++A) R):=by
 simp at b;have c:v0r (A.length:Int) 0=(A.length:Int):=by rfl
 have d:wrap .i64 (((P++(A++R)).length:Int)-(P.length:Int))=((A++R).length:Int):=by
  grind[a0C]
 have h:decide ((A.length:Int) > ((A++R).length:Int))=false:=by grind
 have w2:wrap .i64 ((P.length:Int)+(A.length:Int))=(((P++A).length:Nat):Int):=by
  grind[a0C]
 have g:decide ((0:Int)≤(((P++A).length:Nat):Int))=true:=by rfl
 have f:decide ((((P++A).length:Nat):Int)≤((P++(A++R)).length:Int))=true:=by simp_all
 have k:decide ((0:Int)≤(P.length:Int))=true:=by simp
 have a:decide ((P.length:Int)≤(((P++A).length:Nat):Int))=true:=by grind
 have e:a30 P.length (a27 (P++A).length (P++(A++R)))=A:=by
  grind
 unfold a4U a1F ord;simp only[show((0:Int) != 0)=false from rfl,cF,oB,c,d,h,w2,g,f,k,a,a01,cT,tN,e,a0T (show A.length<2147483648 by omega),aA]
theorem c4q{all:List Int}(a:all.length≤8)(z:List Int×(Int×Int×Unit)):∀(rest done:List Int)(n:Nat),done++rest=all→(∀b∈rest,0≤b∧b<256)→n<256^done.length→
  y0s a3A ((n:Int),(all.length:Int),(done.length:Int),all,z,())=some (((b5f n rest:Nat):Int),z,())
 | [],done,n,hd,_,_=>by
  obtain rfl:done=all:=by simp_all
  exact a0E (by simp only[a3A,dge,cF];rfl)
 |x::rest,done,n,hd,hb,hn=>by
  have g:done.length<all.length:=by grind
  have hp:all.getD done.length 0=x:=by grind
  have d:=hb x (by simp);have f:decide ((0:Int)≤(done.length:Int))=true:=decide_eq_true (a02 _);have c:256^done.length≤256^7:=a45 (by omega) (by omega);have k:(256:Nat)^7=72057594037927936:=by rfl
  have w:wrap .u64 ((wrap .u64 ((n:Int)*(256:Int)))+(wrap .u64 x))=((n*256+x.toNat:Nat):Int):=by
   grind[a0M]
  rw[a0F (s':=(((n*256+x.toNat:Nat):Int),(all.length:Int),(((done++[x]).length:Nat):Int),all,z,())) (by
   simp only[a3A,dlt g,f,a01,cT,tN,hp,w,a0B (show done.length<1000000 by omega)]
   simp)]
  exact c4q a z rest (done++[x]) _ (by simp_all) (fun b h=>hb b (by grind)) (by grind)
theorem c5q{P A R:List Int}{k:Nat}(f:A.length=k)(g:k≤8)(hb:∀b∈A,0≤b∧b<256)(a:(P++(A++R)).length<1000000000):a3p (ord P (A++R),(k:Int))=some (((b5f 0 A:Nat):Int),ord (P++A) R):=by
 subst f;have h:=c4q g (ord (P++A) R) A [] 0 rfl hb (by simp)
 grind[a3J,b5m,b3l,a3p,d1F]
@[reducible] def b7P:Type:=a0L×(List Int×(List Int×(Int×(Int×(Int×Unit)))))
def a3v(xs:List Pc):List Int:=xs.map fun x=>((x.2.2.length:Nat):Int)
def a4d(xs:List Pc):List Int:=xs.map fun x=>((a0Y x.2.1:Nat):Int)
def b6r(fm:a0L)(xs:List Pc)(pr bg:Nat):b7P:=(fm,a3v xs,a4d xs,((a0Z xs:Nat):Int),(pr:Int),(bg:Int),())
def b9m:b7P:=((0,0,0,()),[],[],0,0,0,())
theorem b8K{all:List Pc}(h:all.length≤256)(x:List Int)(fm:a0L)(z:b7P)(u:Int×(Int×Int×Unit)){R:List Int}:∀(rest done:List Pc)(P:List Int)(st:Nat),done++rest=all→a2B fm st rest→
  (P++((nsP rest).flatMap a0K++R)).length<1000000000→
  y0s a5x (x,(all.length:Int),(done.length:Int),z,(fm,a3v done,a4d done,u),ord P ((nsP rest).flatMap a0K++R),()) =
   some (x,z,(fm,a3v all,a4d all,u),ord (P++(nsP rest).flatMap a0K) R,())
 | [],done,P,st,hd,_,_=>by
  obtain rfl:done=all:=by simp_all
  simp_all[a0E,a5x,nsP]
 |y::rest,done,P,st,hd,hr,hl=>by
  obtain⟨⟨i,j,l,m,o,p,q,r,s,a,b⟩,hr2⟩:=hr;have k:done.length<all.length:=by grind
  have e:(nsP (y::rest)).flatMap a0K++R=a0K y.2.2.length++(a0K (a0Y y.2.1)++((nsP rest).flatMap a0K++R)):=by simp[nsP]
  rw[e]at hl⊢;have g:=a1z hl;have f:=a1z g;have n1:=a2M (n:=y.2.2.length) (most:=1048704) (by omega) (by omega) hl;have n2:=a2M (n:=a0Y y.2.1) (most:=4096) (by omega) (by omega) g;have c:wrap .i64 ((y.2.2.length:Nat):Int)=((y.2.2.length:Nat):Int):=a0C (by omega);have w2:wrap .i64 ((a0Y y.2.1:Nat):Int)=((a0Y y.2.1:Nat):Int):=a0C (by omega);have d:wrap .u64 ((done.length:Int)+1)=(((done++[y]).length:Nat):Int):=by grind[a0M]
  have l1:(a3v done).length=done.length:=by simp[a3v]
  have l2:(a4d done).length=done.length:=by simp[a4d]
  rw[a0F (s':=(x,(all.length:Int),(((done++[y]).length:Nat):Int),z,(fm,a3v (done++[y]),a4d (done++[y]),u),ord ((P++a0K y.2.2.length)++a0K (a0Y y.2.1)) ((nsP rest).flatMap a0K++R),())) (by
   simp only[a5x,dlt k,cT,n1,n2,oB,l1,l2,a0T (show done.length+1<2147483648 by omega),c,w2,d];simp[a3v,a4d])]
  rw[b8K h x fm z u rest (done++[y]) _ _ (by simp_all) hr2 f];simp[nsP]
theorem c4r{all:List Pc}(h:all.length≤256)(fm:a0L)(z:b7P)(v:List Int)(u:Int×(Int×Unit)):∀(rest done:List Pc)(st:Nat),done++rest=all→a2B fm st rest→a0Z done≤64*done.length→
  y0s a5y ((all.length:Int),(done.length:Int),z,(fm,v,a4d all,((a0Z done:Nat):Int),u),())=some (.inl (z,(fm,v,a4d all,((a0Z all:Nat):Int),u),()))
 | [],done,st,hd,_,_=>by
  obtain rfl:done=all:=by simp_all
  simp_all[a0E,a5y]
 |y::rest,done,st,hd,hr,ho=>by
  obtain⟨⟨i,j,l,m,n,o,d,p,q,b,c⟩,hr2⟩:=hr;have f:done.length<all.length:=by grind
  have g:done.length<(a4d all).length:=by simp_all[a4d]
  have hp:(a4d all).getD done.length 0=((a0Y y.2.1:Nat):Int):=by
   grind[a4d]
  have k:=d.2.2.2.2.1;have e:(((a0Y y.2.1:Nat):Int)==0)=false:=by grind
  have a:decide ((0:Int)≤(done.length:Int))=true:=decide_eq_true (a02 _);have w:wrap .i64 (((a0Z done:Nat):Int)+((a0Y y.2.1:Nat):Int))=((a0Z (done++[y]):Nat):Int):=by grind[a2Q,a0C]
  rw[a0F (s':=((all.length:Int),(((done++[y]).length:Nat):Int),z,(fm,v,a4d all,((a0Z (done++[y]):Nat):Int),u),())) (by
   simp only[a5y,dlt f,dlt g,a,a01,cT,tN,hp,e,cF,w,a0B (show done.length<1000000 by omega)]
   simp)]
  exact c4r h fm z v u rest (done++[y]) _ (by simp_all) hr2 (by grind[a2Q])
theorem c4W{fm:a0L}(j:a4b fm){xs:List Pc}(e:a2B fm 0 xs)(h:xs.length≤256){A C R:List Int}(y:A.length=8)(bA:∀b∈A,0≤b∧b<256)(N:C.length=4)(F:∀b∈C,0≤b∧b<256)(hR:R.length≤190000000)
  {H:List Int}(q:H=b9l++((a3E fm xs).flatMap a0K++A)):
  a5z (H++(C++R))=some (if a4c H=b5f 0 C then(b6r fm xs (b5f 0 A) (H.length+4),0)else(b9m,5)):=by
 obtain⟨f1,f2,f3,f4,f5,f6⟩:=id j;have hv:=b4D (a3E fm xs) fun n v=>a08 (a7B j e h n v) (by simp);have hl:(a3E fm xs).length≤516:=by grind[a3E,b5F]
 have G:∀b∈H,0≤b∧b<256:=fun b hb=>by
  rw[q]at hb;rcases mA.1 hb with hb|hb;simp[b9l]at hb;omega;rcases mA.1 hb with hb|hb;exact b8J _ (fun n v=>a08 (a7B j e h n v) (by simp)) b hb;simp_all
 have a:H.length=4+((a3E fm xs).flatMap a0K).length+8:=by grind[b9l]
 have S:=b7F (l:=H) (by unfold short;omega) G;have x:(a3E fm xs).flatMap a0K=a0K fm.1.toNat++(a0K fm.2.1.toNat++(a0K fm.2.2.1.toNat++(a0K xs.length++(nsP xs).flatMap a0K))):=by rfl
 obtain⟨V,O⟩:∃V,(a3E fm xs).flatMap a0K=V:=⟨_,rfl⟩;rw[O]at hv a x q;have ex:H++(C++R)=75::78::83::68::(V++(A++(C++R))):=by rw[q];simp[b9l]
 have g:(V++(A++(C++R))).length<1000000000:=by grind
 have z:([]++(a0K fm.1.toNat++(a0K fm.2.1.toNat++(a0K fm.2.2.1.toNat++(a0K xs.length++((nsP xs).flatMap a0K++(A++(C++R)))))))).length<1000000000:=by simp_all
 have B:=a1z z;have D:=a1z B;have E:=a1z D;have U:=a1z E;have n1:=a2M (n:=fm.1.toNat) (most:=1048576) (by omega) (by omega) z;have n2:=a2M (n:=fm.2.1.toNat) (most:=8) (by omega) (by omega) B;have X:=a2M (n:=fm.2.2.1.toNat) (most:=24) (by omega) (by omega) D;have Y:=a2M (n:=xs.length) (most:=4096) (by omega) (by omega) E;have w1:wrap .i64 ((fm.1.toNat:Nat):Int)=fm.1:=by grind[a0C]
 have w2:wrap .i64 ((fm.2.1.toNat:Nat):Int)=fm.2.1:=by grind[a0C]
 have w3:wrap .i64 ((fm.2.2.1.toNat:Nat):Int)=fm.2.2.1:=by grind[a0C]
 have f:=b8K h (H++(C++R)) fm b9m (0,0,0,()) xs [] _ 0 rfl e U;have M:([]++a0K fm.1.toNat++a0K fm.2.1.toNat++a0K fm.2.2.1.toNat++a0K xs.length)++(nsP xs).flatMap a0K=V:=by simp_all
 rw[M]at f;have Z:=c5q (P:=V) y (by omega) bA g;have n9:=c5q (P:=V++A) N (by omega) F (a1z g);have k:wrap .i64 (((V++(A++(C++R))).length:Int)-(V.length:Int))=((A++(C++R)).length:Int):=by
  simp only[lN]at g⊢;rw[a0C (by omega)];omega
 have m:decide (((A++(C++R)).length:Int)<12)=false:=by grind
 have r:wrap .i64 ((4:Int)+(((V++A).length:Nat):Int))=((H.length:Nat):Int):=by
  rw[a];simp only[lN,y];rw[a0C (by omega)];rfl
 have o:decide ((0:Int)≤((H.length:Nat):Int))=true:=decide_eq_true (a02 _);have p:decide (((H.length:Nat):Int)≤(((H++(C++R)).length:Nat):Int))=true:=by grind
 have c:wrap .i64 (((H.length:Nat):Int)+4)=((H.length+4:Nat):Int):=by grind[a0C]
 have T:wrap .u64 ((a4c H:Nat):Int)=((a4c H:Nat):Int):=a0M (by grind[b6p]);have I:decide (((a03 (H++(C++R)):Nat):Int)<(4:Int))=false:=by grind
 have K:decide ((4:Int)≤((a03 (H++(C++R)):Nat):Int))=true:=by simp_all
 have s:((b2s (a27 4 (H++(C++R)))) != ([75,78,83,68]:List Int))=false:=by rw[ex];rfl
 have t:a30 4 (a27 (a03 (H++(C++R))) (H++(C++R)))=V++(A++(C++R)):=by rw[a22,ex];rfl
 have d:a5M (V++(A++(C++R)))=some (ord [] (a0K fm.1.toNat++(a0K fm.2.1.toNat++(a0K fm.2.2.1.toNat++(a0K xs.length++((nsP xs).flatMap a0K++(A++(C++R)))))))):=by
  unfold a5M;rw[a0T (by omega),cT,x];simp[ord]
 have i:=c4r h fm b9m (a3v xs) (((b5f 0 A:Nat):Int),((H.length+4:Nat):Int),()) xs [] 0 rfl e (by simp[a0Z]);have u:(a4d xs).length=xs.length:=by simp[a4d]
 have Q:=(b7D e).2;have L:decide (((a0Z xs:Nat):Int) > (4194304:Int))=false:=by grind
 unfold a5z;simp only[I,cF,K,cT,s,t,d,oB,n1,n2,X,Y,w1,w2,w3]
 erw[f]
 simp only[oB,a3o,a1F,a3S,ord,show((0:Int) != 0)=false from rfl,cF,k,m]
 erw[Z]
 simp only[oB,ord,r,o,p,a01,cT,tN,List.take_left,S,T]
 erw[n9]
 simp only[oB]
 by_cases hq:a4c H=b5f 0 C
 have w:(((a4c H:Nat):Int) != ((b5f 0 C:Nat):Int))=false:=by simp_all
 simp only[w,cF,if_pos hq,a4w,j,decide_true,bT,oB,c,u]
 erw[i]
 simp only[L,oB,cF];rfl;have w:(((a4c H:Nat):Int) != ((b5f 0 C:Nat):Int))=true:=by grind
 simp only[w,cT,if_neg hq];rfl
theorem c4X{B P R:List Int}{fm:a0L}{st:Nat}{x:Pc}(p:c1C fm st x)(C:B=P++(x.2.2++R))(E:B.length<1000000000){pl:b7P}(hp:pl.1=fm){i:Int}(n:m0k pl.2.1 i=some ((x.2.2.length:Nat):Int))(o:m0k pl.2.2.1 i=some ((a0Y x.2.1:Nat):Int)):
  a6Q (B,pl,i,((P.length:Nat):Int),(st:Int))=some (x.1,x.2.1,0):=by
 obtain⟨s,t,u,v,w,l,y,z,A,e,j⟩:=p;have m:B.length=P.length+(x.2.2.length+R.length):=by simp_all
 have r:wrap .i64 (((a03 B:Nat):Int)-((P.length:Nat):Int))=((x.2.2.length+R.length:Nat):Int):=by grind[a0C]
 have g:decide (((x.2.2.length+R.length:Nat):Int)<((x.2.2.length:Nat):Int))=false:=decide_eq_false (by omega);have w2:wrap .i64 (((P.length:Nat):Int)+((x.2.2.length:Nat):Int))=((P.length+x.2.2.length:Nat):Int):=by grind[a0C]
 have f:decide ((0:Int)≤((P.length+x.2.2.length:Nat):Int))=true:=decide_eq_true (a02 _);have k:decide (((P.length+x.2.2.length:Nat):Int)≤((a03 B:Nat):Int))=true:=by simp_all
 have a:decide ((0:Int)≤((P.length:Nat):Int))=true:=decide_eq_true (a02 _);have b:decide (((P.length:Nat):Int)≤((P.length+x.2.2.length:Nat):Int))=true:=decide_eq_true (by omega);have d:a30 P.length (a27 (P.length+x.2.2.length) B)=x.2.2:=by
  grind
 have h:=l [] (by simp);rw[a47]at h;have q:((0:Int) != 0)=false:=rfl;have c:decide (((x.2.2.length:Nat):Int)<((x.2.2.length:Nat):Int))=false:=by simp
 have D:eqT (.pair (.int .i64) (.pair (.int .i64) (.pair (.int .i64) .unit))) x.1.2.2.1 pl.1=true:=by simp_all[b6k]
 have n1:(x.1.1 != (st:Int))=false:=by simp_all
 have n2:(((a0Y x.2.1:Nat):Int) != ((a0Y x.2.1:Nat):Int))=false:=by simp
 unfold a6Q;simp only[n,oB,r,g,cF,w2,f,k,a,b,a01,cT,tN,d,h,q,c];simp_all
def c6T:b9k:=((0,0,0,()),0,0,[],[],())
theorem c9n{done rest:List Pc}(x:Pc):m0k (a3v (done++x::rest)) (done.length:Int)=some ((x.2.2.length:Nat):Int):=by
 grind[b3s,a3v]
theorem d1G{done rest:List Pc}(x:Pc):m0k (a4d (done++x::rest)) (done.length:Int)=some ((a0Y x.2.1:Nat):Int):=by
 grind[b3s,a4d]
theorem c2v{fm:a0L}{all tail:List Pc}(h:all.length≤256){B Hd Z:List Int}(j:B.length<1000000000){pl:b7P}(hp:pl.1=fm)(a:pl.2.1=a3v all)(b:pl.2.2.1=a4d all)(g:pl.2.2.2.2.2.1=((Hd.length:Nat):Int))(z:b9k):
  ∀(rest done:List Pc),done++(rest++tail)=all→B=Hd++(a0J done++(a0J rest++Z))→a2B fm (a0Z done) rest→a0Z done≤64*done.length→
  y0s a3B (B,((Hd.length+(a0J done).length:Nat):Int),a3v all,(all.length:Int),(done.length:Int),z,pl,mkT fm done,()) =
   y0s a3B (B,((Hd.length+(a0J (done++rest)).length:Nat):Int),a3v all,(all.length:Int),((done++rest).length:Int),z,pl,mkT fm (done++rest),())
 | [],done,_,_,_,_=>by simp
 |x::rest,done,hd,hB,hr,ho=>by
  obtain⟨m,t⟩:=hr;have k:done.length<all.length:=by grind
  have f:B=(Hd++a0J done)++(x.2.2++(a0J rest++Z)):=by rw[hB];simp[a0J]
  have s:Hd.length+(a0J done).length+x.2.2.length≤B.length:=by grind
  have l:=c9n (done:=done) (rest:=rest++tail) x;have c:=d1G (done:=done) (rest:=rest++tail) x;rw[a57]at hd;rw[hd]at l c;have e:=c4X m f j hp (i:=(done.length:Int)) (by simp_all) (by simp_all);rw[lN]at e;obtain⟨y,p,A,C,D,E,q,r,F,n,o⟩:=m;have d:=b7G q (w:=fm.2.2.1) r (a2G done);have l1:(a3T 0 0 done).length+1<2147483648:=by rw[b1c];omega
  have u:wrap .i64 (((Hd.length+(a0J done).length:Nat):Int)+((x.2.2.length:Nat):Int))=((Hd.length+(a0J (done++[x])).length:Nat):Int):=by
   rw[a5P,lN,a0C (by omega)];omega
  have w2:wrap .i64 (((a0Z done:Nat):Int)+((a0Y x.2.1:Nat):Int))=((a0Z (done++[x]):Nat):Int):=by rw[a2Q,a0C (by omega)];rfl
  have v:wrap .i64 (((Hd.length+(a0J done).length:Nat):Int)-((Hd.length:Nat):Int))=(((a0J done).length:Nat):Int):=by grind[a0C]
  rw[a0F (s':=(B,((Hd.length+(a0J (done++[x])).length:Nat):Int),a3v all,(all.length:Int),(((done++[x]).length:Nat):Int),z,pl,mkT fm (done++[x]),())) (by
   simp only[a3B,dlt k,cT,l,oB,mkT]
   erw[e]
   simp only[oB,show((0:Int) != 0)=false from rfl,cF]
   erw[d]
   simp only[oB,a0T l1,a05,a0T (show done.length+1<2147483648 by omega),cT,u,p,w2,g,v,a0B (show done.length<1000000 by omega)]
   simp[a2H,a6V,b5e])]
  rw[List.append_cons done x rest];exact c2v (Z:=Z) h j hp a b g z rest (done++[x]) (by simpa using hd) (by simp_all[a5P]) (by simp_all[a2Q]) (by grind[a2Q])
theorem c4Y{fm:a0L}(k:a4b fm){xs:List Pc}(b:a2B fm 0 xs)(g:xs.length≤256){R:List Int}(f:R.length≤190000000):
  a5z (a1e fm xs++(a7F 4 (a4c (a1e fm xs))++R))=some (b6r fm xs (a2H fm xs) ((a1e fm xs).length+4),0):=by
 have a:=c0T (a3u fm.2.2.1 (a2G xs));have h:=c4W k b g (A:=a7F 8 (a2H fm xs)) (C:=a7F 4 (a4c (a1e fm xs))) (R:=R) (a5Q ..) (b6o 8 _) (a5Q ..) (b6o 4 _) f (H:=a1e fm xs) rfl;rw[b9j 4 _ (by simp_all[b6p]),b9j 8 _ (by grind[prm,a2H]),if_pos rfl]at h;omega
theorem c6U{fm:a0L}(c:a4b fm){xs:List Pc}(k:a2B fm 0 xs)(h:xs.length≤256):a8d (a1P fm xs)=some (mkT fm xs,0):=by
 have e:=b1d k;have l:=b4E c k h;have i:=c4Y c k h (R:=a0J xs) (by omega);have d:(a1P fm xs).length=(a1e fm xs).length+4+(a0J xs).length:=by grind[a1P,a5Q]
 have f:(a1e fm xs++a7F 4 (a4c (a1e fm xs))).length=(a1e fm xs).length+4:=by simp[a5Q]
 have g:=c2v (fm:=fm) h (B:=a1P fm xs) (Hd:=a1e fm xs++a7F 4 (a4c (a1e fm xs))) (Z:=[]) (by omega) (pl:=b6r fm xs (a2H fm xs) ((a1e fm xs).length+4)) rfl rfl rfl (by rw[f];rfl) c6T (tail:=[]) xs [] (by simp) (by simp[a1P,a0J]) k (by simp[a0Z]);rw[f,a19]at g;have a:y0s a3B (a1P fm xs,(((a1e fm xs).length+4+(a0J xs).length:Nat):Int),a3v xs,(xs.length:Int),(xs.length:Int),c6T,b6r fm xs (a2H fm xs) ((a1e fm xs).length+4),mkT fm xs,())=some (Sum.inl (a1P fm xs,(((a1e fm xs).length+4+(a0J xs).length:Nat):Int),c6T,b6r fm xs (a2H fm xs) ((a1e fm xs).length+4),mkT fm xs,())):=
  a0E (by simp_all[a3B])
 rw[a]at g;have b:(a3v xs).length=xs.length:=by simp[a3v]
 have j:decide ((((a1e fm xs).length+4+(a0J xs).length:Nat):Int)<(((a1P fm xs).length:Nat):Int))=false:=by simp_all
 unfold a8d;rw[show a1P fm xs=a1e fm xs++(a7F 4 (a4c (a1e fm xs))++a0J xs)from rfl,i];simp only[oB,show((0:Int) != 0)=false from rfl,cF,b6r,b]
 erw[g]
 simp_all[b6r,mkT]
def c4s(fm:a0L)(l:List Int)(ch sz total:Nat)(effort:Int):Nat→List Pc→Prop
 |st,[]=>total≤st
 |st,x::xs=>st<total∧x.2.1=a8p fm.2.2.1 (b2k l ch st (min (st+sz) total)) ch∧a4H (x.2.1,fm,(st:Int),effort)=some (x.1,0)∧c1C fm st x∧c4s fm l ch sz total effort (st+sz) xs
def c0Y(fm:a0L)(total:Nat)(xs:List Pc):b9k:=(fm,(total:Int),((a2H fm xs:Nat):Int),a3T 0 0 xs,xs.map (·.1),())
theorem c9o{fm:a0L}(D:a4b fm){ch:Nat}(a:fm.2.1=(ch:Int)){l:List Int}{total sz:Nat}(hl:l.length=total*ch)(ht:total≤200)(hs:1≤sz∧sz≤64)(b:l.all (fun x=>a1k x fm.2.2.1)=true){effort:Int}(X:0≤effort)(Y:effort≤3):
  ∀(k st:Nat)(done:List Pc),total≤st+k→a0Z done=min st total→a2G done=l.take (min st total*ch)→a2B fm 0 done→done.length≤st→st≤300→
  ∃rest,c4s fm l ch sz total effort st rest∧a2B fm 0 (done++rest)∧a0Z (done++rest)=total∧a2G (done++rest)=l∧
   y0s a5Z (l,(sz:Int),effort,(total:Int),(((a0J done).length:Nat):Int),(st:Int),c0Y fm total done,fm,())=some (.inl (c0Y fm total (done++rest),())):=by
 obtain⟨S,T,f3,f4,U,V⟩:=id D;have e:1≤ch∧ch≤8:=by omega
 intro k
 induction k with
 |zero=>
  intro st done E j o y r A;have hm:min st total=total:=by omega
  have P:decide ((st:Int)<(total:Int))=false:=by simp_all
  rw[hm]at j o;refine⟨[],by simpa[c4s]using E,by simp_all,by simp_all,by grind,?_⟩;rw[a47];exact a0E (by simp only[a5Z,P,cF])
 |succ k ih=>
  intro st done E j o y r A
  by_cases hlt:st<total
  have t:min st total=st:=by omega
  rw[t]at j o;obtain⟨en,Z⟩:∃en,min (st+sz) total=en:=⟨_,rfl⟩;have C:st<en∧en≤total∧en≤st+sz:=by omega
  have s:en*ch≤l.length:=by simp_all[a33]
  have h6:st*ch≤en*ch:=a33 _ (by omega);have h1:l.length≤200*8:=by rw[hl];exact a07 ht e.2
  have h:=c7T (st:=st) s;have f:=c7V (ch:=ch) (st:=st) (en:=en) b;have c:=d1v (w:=fm.2.2.1) h e (by omega) ⟨U,V⟩ f;have h2:=b9i (w:=fm.2.2.1) h e.1;have h4:=d1w (w:=fm.2.2.1) h e.1;have v:=d1E D a (l:=b2k l ch st en) (n:=en-st) (by omega) h f;obtain⟨g,p,m1,i⟩:=d1u (fm:=fm) c (by omega) ⟨S,T⟩ (by simp_all[a8p,a2A]) rfl (st:=st) (by omega) X Y;have d:=i.2.2.2.2.1;have B:=b7G c (w:=fm.2.2.1) rfl (a2G done);obtain⟨x,hx⟩:∃x:Pc,x=(((st:Int),g),a8p fm.2.2.1 (b2k l ch st en) ch,p):=⟨_,rfl⟩;have x1:x.1=((st:Int),g):=by grind
  have x2:x.2.1=a8p fm.2.2.1 (b2k l ch st en) ch:=by grind
  have K:x.2.2=p:=by grind
  rw[←hx]at i;have u:=i.2.2.2.2.2.2.2.2.2.2;rw[K]at u;have h5:=b1d y;have m:a0Z (done++[x])=min (st+sz) total:=by grind[a2Q]
  have q:a2G (done++[x])=l.take (min (st+sz) total*ch):=by grind[a6V,c7U]
  have z:a2B fm 0 (done++[x]):=c2r y (by simp_all);obtain⟨rest,k1,F,G,H,I⟩:=ih (st+sz) (done++[x]) (by omega) m q z (by grind) (by omega);have Q:done++[x]++rest=done++x::rest:=by simp
  rw[Q]at F G H I;refine⟨x::rest,⟨hlt,by simp_all,by simp_all,i,k1⟩,F,G,H,?_⟩;rw[←I];have q1:wrap .i64 ((v0s (wrap .i64 ((st:Int)+(sz:Int))) (total:Int))*(ch:Int))=((en*ch:Nat):Int):=by
   rw[a0C (n:=(st:Int)+(sz:Int)) (by omega),b5m,show min ((st:Int)+(sz:Int)) (total:Int)=(en:Int)from by omega,←a88,a0C (by omega)]
  have q2:wrap .i64 ((st:Int)*(ch:Int))=((st*ch:Nat):Int):=by grind[a0C]
  have L:decide ((0:Int)≤((en*ch:Nat):Int))=true:=decide_eq_true (a02 _);have M:decide (((en*ch:Nat):Int)≤((l.length:Nat):Int))=true:=decide_eq_true (by omega);have N:decide ((0:Int)≤((st*ch:Nat):Int))=true:=decide_eq_true (a02 _);have O:decide (((st*ch:Nat):Int)≤((en*ch:Nat):Int))=true:=decide_eq_true (by omega);have R:a30 (st*ch) (a27 (en*ch) l)=b2k l ch st en:=rfl;have n0:((0:Int) != 0)=false:=rfl;have w1:wrap .i64 ((((a0J done).length:Nat):Int)+((p.length:Nat):Int))=(((a0J (done++[x])).length:Nat):Int):=by
   rw[a5P,lN,K,a0C (by omega)];rfl
  have w2:wrap .i64 ((st:Int)+(sz:Int))=((st+sz:Nat):Int):=by grind[a0C]
  refine a0F ?_
  simp only[a5Z,dlt hlt,cT,a,q1,q2,L,M,N,O,a01,tN,R,v,oB,n0,cF,m1,d,c0Y]
  erw[B]
  simp only[oB,b1c,a05,a0T (show done.length+1<2147483648 by omega),cT,w1,w2];simp_all[a2H,a6V,b5e]
  grind
theorem b8L{l:List Int}(a:l.length≤10000){fm:a0L}(f:4≤fm.2.2.1∧fm.2.2.1≤24)(sz effort h:Int):∀(rest done:List Int),done++rest=l→rest.all (fun x=>a1k x fm.2.2.1)=true→
  y0s a5Y (l,sz,effort,h,l,(l.length:Int),(done.length:Int),fm,())=some (.inl (l,sz,effort,h,fm,()))
 | [],done,hd,_=>by
  obtain rfl:done=l:=by simp_all
  simp_all[a0E,a5Y]
 |x::rest,done,hd,hfit=>by
  have g:done.length<l.length:=by grind
  have k:m0k l (done.length:Int)=some x:=by grind[a0D]
  simp only[a35,bA]at hfit;rw[a0F (s':=(l,sz,effort,h,l,(l.length:Int),(((done++[x]).length:Nat):Int),fm,())) (by
   simp only[a5Y,dlt g,cT,k,oB,b4b f,hfit.1,bT,cF,a0B (show done.length<1000000 by omega)]
   simp)]
  exact b8L a f sz effort h rest (done++[x]) (by simp_all) hfit.2
theorem c8a{fm:a0L}(k:a4b fm){ch:Nat}(f:fm.2.1=(ch:Int)){l:List Int}{total sz:Nat}(b:l.length=total*ch)(e:total≤200)(B:1≤sz∧sz≤64)(g:l.all (fun x=>a1k x fm.2.2.1)=true){effort:Int}(y:0≤effort)(z:effort≤3):
  ∃h,c4s fm l ch sz total effort 0 h∧a2B fm 0 h∧a0Z h=total∧a2G h=l∧h.length≤256∧a6n (fm,l,(sz:Int),effort)=some (a1P fm h,0):=by
 obtain⟨h,C,c,j,m,o⟩:=c9o k f b e B g y z 200 0 [] (by omega) (by rfl) (by simp[a2G]) trivial (by simp) (by omega);rw[a19]at c j m o;have i:h.length≤256:=by grind[b7D]
 obtain⟨F,G,H,I,v,w⟩:=id k;have d:1≤ch∧ch≤8:=by omega
 have A:l.length≤200*8:=by rw[b];exact a07 e d.2
 have a:=b8L (l:=l) (fm:=fm) (by omega) ⟨v,w⟩ (sz:Int) effort (total:Int) l [] rfl g;have p:decide ((sz:Int)<1)=false:=by grind
 have q:decide ((sz:Int) > 4096)=false:=by grind
 have r:decide (effort<0)=false:=by simp_all
 have s:decide (effort > 3)=false:=by simp_all
 have c0:((ch:Int)==0)=false:=by grind
 have D:a46 ((l.length:Nat):Int) (ch:Int)=0:=by
  simp_all
 have E:wrap .i64 (a21 ((l.length:Nat):Int) (ch:Int))=(total:Int):=by
  rw[show a21 ((l.length:Nat):Int) (ch:Int)=((l.length / ch:Nat):Int)from rfl,b,a77 _ d.1,a0C (by omega)]
 have t:decide ((total:Int) > 4194304)=false:=by grind
 have s0:((sz:Int)==0)=false:=by grind
 have u:decide ((wrap .i64 (a21 (wrap .i64 ((wrap .i64 ((total:Int)+(sz:Int)))-(1:Int))) (sz:Int))) > (4096:Int))=false:=by
  rw[a0C (n:=(total:Int)+(sz:Int)) (by omega),a0C (n:=(total:Int)+(sz:Int)-1) (by omega),show((total:Int)+(sz:Int)-1)=((total+sz-1:Nat):Int)from by omega,show a21 ((total+sz-1:Nat):Int) (sz:Int)=(((total+sz-1) / sz:Nat):Int)from rfl];have L:=a87 (total+sz-1) sz
  grind[a0C]
 have K:c0Y fm total h=mkT fm h:=by simp_all[c0Y,mkT]
 have hp:=c7Z k c i;refine⟨h,C,c,j,m,i,?_⟩;unfold a6n;simp only[a4w,k,decide_true,oB,bT,cF,p,q,r,s,f,c0,D,show((0:Int) != 0)=false from rfl,E,t,s0,u]
 erw[a]
 simp
 erw[o]
 simp_all
theorem c4t(f:a0L):b2b f=some (decide (a4b f)):=by
 unfold b2b a4b
 grind
def crE(s:BitVec 16):BitVec 16:=bif s.msb then(s <<< 1) ^^^ 32773#16 else s <<< 1
theorem c5r(s t:BitVec 16):crE (s ^^^ t)=crE s ^^^ crE t:=by
 unfold crE;rw[BitVec.msb_xor,BitVec.shiftLeft_xor_distrib];cases s.msb<;>cases t.msb<;>simp only[cT,cF,Bool.xor_true,Bool.xor_false,bT,a32];rw[a16];rw[a16,a16,a61 (t <<< 1)];rw[a16,a61 32773#16,a16,BitVec.xor_self,a89]
theorem c9p{s:BitVec 16}(h:crE s=0):s=0:=by
 unfold crE at h;cases hm:s.msb with
 |true=>
  rw[hm,cT]at h
  have:=congrArg (fun x=>a67 x 0) h
  simp at this
 |false=>
  rw[hm,cF]at h;refine a60 fun i hi=>?_
  by_cases h15:i=15
  subst h15;rw[a54]at hm;simpa using hm
  have:=congrArg (fun x=>a67 x (i+1)) h
  simp at this;simpa using this (by omega)
theorem d4B:crE 0=0:=by decide
theorem b9n{s:BitVec 16}:∀{n:Nat},rep crE n s=0→s=0
 |0,h=>h
 |n+1,h=>c9p (b9n (n:=n) h)
theorem d0M:∀n:Nat,rep crE n 0=0
 |0=>rfl
 |n+1=>by
  show rep crE n (crE 0)=0;rw[d4B,d0M n]
def crB(b:Bool):BitVec 16:=bif b then 32768#16 else 0#16
def crS(s:BitVec 16)(b:Bool):BitVec 16:=crE (s ^^^ crB b)
def crT:List Bool→BitVec 16
 | []=>0#16
 |b::w=>crB b ^^^ (crT w >>> 1)
theorem d1H(b:Bool)(j:Nat):(crB b).getLsbD j=(b&&decide (j=15)):=by
 cases b with
 |false=>simp[crB]
 |true=>
  simp only[crB,cT,a55];rw[show(32768#16)=BitVec.ofNat 16 (2^15)from rfl,BitVec.getLsbD_ofNat,Nat.testBit_two_pow]
  by_cases h:j=15
  subst h;rfl;rw[decide_eq_false (by omega:¬ (15=j)),decide_eq_false h,Bool.and_false]
theorem b7Q:∀(w:List Bool)(j:Nat),(crT w).getLsbD j=(decide (j<16)&&w.getD (15-j) false)
 | [],j=>by simp[crT]
 |b::w,j=>by
  rw[crT,BitVec.getLsbD_xor,d1H,a34,b7Q w]
  by_cases h:j=15
  subst h;simp
  by_cases h2:j<16
  rw[show 15-j=(15-(1+j))+1 from by omega,a72];simp[h,h2,show 1+j<16 from by omega];simp[h,h2,show ¬ (1+j<16)from by omega]
theorem c9q{w:List Bool}(h:w.length≤15):crE (crT w >>> 1)=crT w:=by
 have f:(crT w >>> 1).msb=false:=by
  rw[a54,a34,b7Q];simp
 unfold crE;rw[f,cF];refine a60 fun i hi=>?_
 rw[BitVec.getLsbD_shiftLeft,a34];cases i with
 |zero=>
  have g:(crT w).getLsbD 0=false:=by
   rw[b7Q,lD,List.getElem?_eq_none (by omega)];rfl
  rw[g];simp
 |succ i=>rw[show 1+(i+1-1)=i+1 from by omega];simp[hi]
theorem d2M:∀(w:List Bool)(s:BitVec 16),w.length≤16→w.foldl crS s=rep crE w.length (s ^^^ crT w)
 | [],s,_=>by simp[crT,rep]
 |b::w,s,h=>by
  rw[lC]at h;rw[a62,d2M w _ (by omega),crT,←a16];show _=rep crE w.length (crE (s ^^^ crB b ^^^ (crT w >>> 1)));rw[c5r,c9q (by omega)];rfl
theorem c4u{α:Type}(f g:α→Bool):∀(L:List α)(s t:BitVec 16),(L.map fun j=>xor (f j) (g j)).foldl crS (s ^^^ t)=(L.map f).foldl crS s ^^^ (L.map g).foldl crS t
 | [],_,_=>rfl
 |a::L,s,t=>by
  simp only[a36,a62];rw[←c4u f g L];congr 1;unfold crS;rw[←c5r];congr 1
  have:crB (xor (f a) (g a))=crB (f a) ^^^ crB (g a):=by cases f a<;>cases g a<;>rfl
  rw[this];simp only[a16];rw[←a16 t,a61 t,a16]
theorem b6s:∀(n:Nat)(s:BitVec 16),(a06 n false).foldl crS s=rep crE n s
 |0,_=>rfl
 |n+1,s=>by
  rw[List.replicate_succ,a62,b6s n];show rep crE n (crE (s ^^^ 0#16))=rep crE n (crE s);rw[a89]
theorem d4C{w:List Bool}(h:w.length≤16)(f:true∈w)(k m:Nat):(a06 k false++(w++a06 m false)).foldl crS 0≠0:=by
 rw[a41,a41,b6s,b6s,d0M,d2M w _ h];intro e;have e:=b9n (b9n e);have e:crT w=0:=by simpa using e
 obtain⟨i,hi,g⟩:=List.mem_iff_getElem.1 f
 have:=b7Q w (15-i)
 rw[e,show 15-(15-i)=i from by omega,lD,lG hi,g]at this;simp at this;omega
def byb(c:Int):List Bool:=[7,6,5,4,3,2,1,0].map fun i=>c.toNat.testBit i
def b7R(p:List Int):List Bool:=p.flatMap byb
def dead(T:List Int)(a:Int):List Int×(Int×Int×Unit):=(T,a,(3:Int),())
def d2N(c:Int):Prop:=0≤c∧c<256
def a9R(p:List Int)(j:Nat):Bool:=(p.getD (j / 8) 0).toNat.testBit (7-j%8)
theorem b9o:∀p:List Int,b7R p=(a04 (8*p.length)).map (a9R p)
 | []=>rfl
 |c::p=>by
  have e:b7R (c::p)=byb c++b7R p:=rfl;rw[e,b9o p,lC,show 8*(p.length+1)=8+8*p.length from by omega,a40,pA,a48];congr 1;refine a26 fun j _=>?_
  show a9R p j=a9R (c::p) (8+j);unfold a9R;rw[show(8+j) / 8=j / 8+1 from by omega,a72,show(8+j)%8=j%8 from by omega]
structure Turn (b k i:Nat) (p0 p:List Int) (sm:Bool):Prop where
 len:p.length=p0.length
 ok:∀c∈p,d2N c
 bit:∀j,a9R p j=xor (a9R p0 j) (decide (k≤j∧j<k+i)&&b.testBit (j-k))
 smk:sm=true↔∃t,t<i∧b.testBit t=true
 pre:p.take (k / 8)=p0.take (k / 8)
 same:sm=false→p=p0
theorem turned{b k:Nat}{p0 q:List Int}{s:Bool}(w:k<8*p0.length)(i:(b7R p0).foldl crS 0=0)(g:Turn b k (min 16 (8*p0.length-k)) p0 q s)(u:s=true):(b7R q).foldl crS 0≠0:=by
 obtain⟨n,r⟩:∃n,min 16 (8*p0.length-k)=n:=⟨_,rfl⟩;rw[r]at g;have e:b7R q=(a04 (8*p0.length)).map fun j=>xor (a9R p0 j) (decide (k≤j∧j<k+n)&&b.testBit (j-k)):=by
  rw[b9o,g.len];exact a26 fun j _=>g.bit j
 have h:=c4u (a9R p0) (fun j=>decide (k≤j∧j<k+n)&&b.testBit (j-k)) (a04 (8*p0.length)) 0 0;have a:∀x:BitVec 16,(0:BitVec 16) ^^^ x=x:=fun _=>BitVec.zero_xor;rw[a,←e,←b9o,i,a]at h;rw[h];obtain⟨m,p⟩:∃m,8*p0.length=k+(n+m):=⟨8*p0.length-k-n,by omega⟩;rw[p,a40,a40,pA,pA,pA,a48,a48,a48];have c:(a04 k).map (fun j=>decide (k≤j∧j<k+n)&&b.testBit (j-k))=a06 k false:=by
  rw[a65];refine⟨by simp,fun x f=>?_⟩;obtain⟨j,o,rfl⟩:=a38.1 f
  grind
 have d:(a04 m).map (((fun j=>decide (k≤j∧j<k+n)&&b.testBit (j-k))∘(k+·))∘(n+·))=a06 m false:=by
  rw[a65];refine⟨by simp,fun x f=>?_⟩;obtain⟨j,o,rfl⟩:=a38.1 f
  grind
 rw[c,d];refine d4C (by simp;omega) ?_ k m;obtain⟨t,l,v⟩:=g.smk.1 u;refine a38.2 ⟨t,a66.2 l,?_⟩;simp_all
set_option maxRecDepth 100000 in
theorem d1I:b4T ()=some true:=by kernel_rfl
theorem c8b(f:a0L)(l:List Int)(m:Nat)(p:m≤1000):∃t,b3c (f,l,(m:Int))=some t∧(t=true→a4b f∧l.length≤m∧l.all (fun x=>a1k x f.2.2.1)=true∧∃ch n:Nat,f.2.1=(ch:Int)∧l.length=n*ch):=by
 unfold b3c;simp only[c4t,oB]
 by_cases hf:a4b f
 ·simp only[hf,decide_true,bT,cF];cases hd:decide (((l.length:Nat):Int) > (m:Int))with
  |true=>exact⟨false,rfl,fun h=>by cases h⟩
  |false=>
   have k:l.length≤m:=by simp at hd;omega
   obtain⟨d,e,j,o,a,b⟩:=id hf;obtain⟨ch,g⟩:∃ch:Nat,f.2.1=(ch:Int):=⟨f.2.1.toNat,by omega⟩;have c0:((ch:Int)==0)=false:=by simp;omega
   have tm:a46 ((l.length:Nat):Int) (ch:Int)=((l.length%ch:Nat):Int):=rfl;simp only[cF,g,c0,tm,oB];cases c:(((l.length%ch:Nat):Int) != 0)with
   |true=>exact⟨false,rfl,fun h=>by cases h⟩
   |false=>
    have c:l.length%ch=0:=by simp at c;omega
    have h:=a1O (f:=a7n) l (fun i=>(l,(i:Int),f,())) (fun x=>a1k x f.2.2.1) (bt:=Sum.inl ()) (bf:=Sum.inr (false,()))
     (fun i hi hp=>by simp only[a7n,dlt hi,cT,a0D hi,oB,b7z ⟨a,b⟩,hp,bT,cF,a0B (show i<1000000 by omega)])
     (fun i hi hp=>by simp only[a7n,dlt hi,cT,a0D hi,oB,b7z ⟨a,b⟩,hp,a32])
     (by simp only[a7n,dge,cF])
    simp only[cF]
    erw[h]
    cases ha:l.all (fun x=>a1k x f.2.2.1)with
    |true=>exact⟨true,rfl,fun _=>⟨trivial,k,rfl,ch,l.length / ch,rfl,by have:=Nat.div_add_mod l.length ch;rw[a59];omega⟩⟩
    |false=>exact⟨false,rfl,fun h=>by cases h⟩
 simp only[hf,decide_false,a32,cT];exact⟨false,rfl,fun h=>by cases h⟩
theorem d1J{fm:a0L}(c:a4b fm){ch:Nat}(f:fm.2.1=(ch:Int)){l:List Int}{total:Nat}(j:l.length=total*ch)(m:total≤200)(g:l.all (fun x=>a1k x fm.2.2.1)=true)(size effort:Int):
  ∃(sz:Nat)(eff:Int)(h:List Pc),1≤sz∧sz≤64∧wrap .i64 (1+bits .i64 .and size 63)=(sz:Int)∧bits .i64 .and effort 3=eff∧0≤eff∧eff≤3∧c4s fm l ch sz total eff 0 h∧a2B fm 0 h∧a0Z h=total∧a2G h=l∧h.length≤256∧
   b3d (fm,l,size,effort)=some (a1P fm h,mkT fm h,true):=by
 obtain⟨v,hv,k⟩:=d2x 6 (by omega) size;obtain⟨w,a,b⟩:=d2x 2 (by omega) effort;rw[show((2^6-1:Nat):Int)=63 from rfl]at hv;rw[show((2^2-1:Nat):Int)=3 from rfl]at a;have n:v<64:=k;have o:w<4:=b;have d:wrap .i64 (1+(v:Int))=((v+1:Nat):Int):=by rw[a0C (by omega)];omega
 obtain⟨h,p,e,q,r,i,s⟩:=c8a c f j m (sz:=v+1) (by omega) g (effort:=(w:Int)) (by omega) (by omega);refine⟨v+1,w,h,by omega,by omega,by rw[hv];exact d,a,by omega,by omega,p,e,q,r,i,?_⟩;unfold b3d;simp only[hv,a,d,s,oB,c6U c e i,beq_self_eq_true,cT]
theorem c9r{α:Type}(a:List α)(x y:α)(b:List α):(a++x::b).set a.length y=a++y::b:=by simp
theorem b8M{fm:a0L}{all:List Pc}(h:all.length≤256)(t:b9k)(g:t.2.2.2.2.1=all.map (·.1)){N:Nat}(u:N≤1000000000):∀(rest done:List Pc)(st:Nat)(m:Nat),done++rest=all→a2B fm st rest→m+(a0J rest).length=N→
  y0s a7S (((m+(a0J rest).length:Nat):Int),(done.length:Int),t,())=some ((m:Int),())
 | [],done,st,m,hd,_,_=>by
  obtain rfl:done=all:=by simpa using hd
  have d:decide ((done.length:Int)<(t.2.2.2.2.1.length:Int))=false:=by rw[g];simp
  exact a0E (by simp only[a7S,d,cF];simp[a0J])
 |x::rest,done,st,m,hd,hr,hm=>by
  obtain⟨⟨j,l,n,o,b,p,q,r,s,k,a⟩,hr2⟩:=hr;have f:done.length<t.2.2.2.2.1.length:=by rw[g,←hd];simp
  have c:done.length<all.length:=by rw[←hd];simp
  have i:m0k t.2.2.2.2.1 (done.length:Int)=some x.1:=by
   have:=b3s (done.map (·.1)) x.1 (rest.map (·.1))
   rw[a05]at this;rw[g,←hd,pA,a36];exact this
  have e:(a0J (x::rest)).length=x.2.2.length+(a0J rest).length:=by simp[a0J]
  rw[e]at hm⊢;have w:wrap .i64 (((m+(x.2.2.length+(a0J rest).length):Nat):Int)-((x.2.2.length:Nat):Int))=((m+(a0J rest).length:Nat):Int):=by rw[a0C (by omega)];omega
  rw[a0F (s':=(((m+(a0J rest).length:Nat):Int),(((done++[x]).length:Nat):Int),t,())) (by
   simp only[a7S,dlt f,cT,i,oB,b,w,a0B (show done.length<1000000 by omega)]
   simp)]
  exact b8M h t g (N:=m+(a0J rest).length) (by omega) rest (done++[x]) _ m (by simpa using hd) hr2 rfl
theorem c8c{fm:a0L}(a:a4b fm){xs:List Pc}(f:a2B fm 0 xs)(g:xs.length≤256):b0S (a1P fm xs,mkT fm xs)=some (((a1e fm xs).length+4:Nat):Int):=by
 have k:(a1P fm xs).length=((a1e fm xs).length+4)+(a0J xs).length:=by simp[a1P,a5Q];omega
 have b:=b4E a f g;have hb:=b1d f;have h:=b8M g (mkT fm xs) rfl (N:=(a1P fm xs).length) (by omega) xs [] 0 ((a1e fm xs).length+4) rfl f k.symm;unfold b0S;rw[k]
 erw[h]
 simp only[oB,b3l];congr 1
theorem c6V{l:List Int}(h:∀c,l.head?=some c→c≠245):∃e:Int,a1C l=some (b7A,0,e)∧e≠0:=by
 unfold a1C a5B;cases hd:decide (((a03 l:Nat):Int)<(2:Int))with
 |true=>exact⟨3,rfl,by decide⟩
 |false=>
  cases l with
  |nil=>simp at hd
  |cons c l=>
   have g:=h c rfl;have k:(c != 245)=true:=by simpa using g
   have f:m0k (c::l) 0=some c:=rfl;simp only[cF,f,oB,k,cT];exact⟨2,rfl,by decide⟩
def b4c(X:List Int)(p:Nat):Option (Unit ⊕ (Int×Unit)):=y0s a5D (X,(p:Int),())
theorem b7H{Z:List Int}:∀(W P X:List Int),X=P++(W++Z)→X.length<1000000000→(∀c∈W,c≠245)→b4c X P.length=b4c X (P.length+W.length)
 | [],P,X,_,_,_=>rfl
 |c::W,P,X,hX,hl,hW=>by
  have h:X=(P++[c])++(W++Z):=by rw[hX];simp
  have k:P.length<X.length:=by rw[hX];simp
  obtain⟨e,m,a⟩:=c6V (l:=c::(W++Z)) (fun d g=>by
   obtain rfl:c=d:=by simpa using g
   exact hW c (by simp))
  have f:a30 P.length (a27 (a03 X) X)=c::(W++Z):=by rw[a22,hX,a68];rfl
  have b:decide ((0:Int)≤(P.length:Int))=true:=decide_eq_true (a02 _);have i:decide ((P.length:Int)≤(X.length:Int))=true:=decide_eq_true (by omega);have j:(e==(0:Int))=false:=by simpa using a
  have w:wrap .i64 ((P.length:Int)+1)=(((P++[c]).length:Nat):Int):=by rw[a0C (by omega)];simp
  have n:=b7H W (P++[c]) X h hl fun d g=>hW d (by simp[g]);rw[show P.length+(c::W).length=(P++[c]).length+W.length by simp;omega,←n];unfold b4c;exact a0F (by simp only[a5D,dlt k,b,i,a01,cT,tN,f,m,oB,j,cF,w])
theorem c9s{P Y X:List Int}(k:X=P++Y)(c:Y≠[]){f:a1m}{n:Int}(d:a1C Y=some (f,n,0)):b4c X P.length=some (.inr ((P.length:Int),())):=by
 have g:P.length<X.length:=by
  rw[k,lN]
  have:=a73.2 c
  omega
 have h:a30 P.length (a27 (a03 X) X)=Y:=by rw[a22,k,a68]
 have a:decide ((0:Int)≤(P.length:Int))=true:=decide_eq_true (a02 _);have b:decide ((P.length:Int)≤(X.length:Int))=true:=decide_eq_true (by omega);exact a0E (by simp only[a5D,dlt g,a,b,a01,cT,tN,h,d,oB,beq_self_eq_true])
theorem c9t(X:List Int):b4c X X.length=some (.inl ()):=a0E (by simp only[a5D,dge,cF])
theorem c2w{P W Y X:List Int}(k:X=P++(W++Y))(d:X.length<1000000000)(a:∀c∈W,c≠245)(b:Y≠[]){f:a1m}{n:Int}(i:a1C Y=some (f,n,0)):a3q (X,(P.length:Int))=some ((P.length+W.length:Nat):Int):=by
 have h:=b7H W P X k d a;have g:=c9s (P:=P++W) (Y:=Y) (X:=X) (by rw[k];simp) b i;rw[lN]at g;rw[g]at h;have e:v0r (P.length:Int) 0=(P.length:Int):=by rw[b3l];omega
 unfold a3q;simp only[e];unfold b4c at h;rw[h];rfl
theorem c8d{P W X:List Int}(g:X=P++W)(k:X.length<1000000000)(f:∀c∈W,c≠245):a3q (X,(P.length:Int))=some (-1):=by
 have h:=b7H (Z:=[]) W P X (by rw[g];simp) k f;rw[show P.length+W.length=X.length by rw[g];simp,c9t]at h;have a:v0r (P.length:Int) 0=(P.length:Int):=by rw[b3l];omega
 unfold a3q;simp only[a];unfold b4c at h;rw[h];rfl
def c0Z(at':Nat):List Pc→Int
 | []=>-1
 |_::_=>(at':Int)
theorem c8e{fm:a0L}{st:Nat}{x:Pc}(h:c1C fm st x)(R:List Int):x.2.2++R≠[]:=fun e=>by
 have f:=h.2.2.2.2.2.2.2.2.2.1;have g:=congrArg a03 e;rw[lN,a09]at g;omega
theorem c8f{fm:a0L}{P W X:List Int}{rest:List Pc}{st:Nat}(f:a2B fm st rest)(g:X=P++(a0J rest++W))(a:X.length<200000000)(k:∀c∈W,c≠245):a3q (X,(P.length:Int))=some (c0Z P.length rest):=by
 cases rest with
 |nil=>exact c8d (by rw[g];rfl) (by omega) k
 |cons y ys=>
  have h:=f.1.2.2.2.2.2.1 (a0J ys++W) (by
   have:=congrArg a03 g
   simp only[a0J,a24,lN]at this⊢;omega)
  have:=c2w (P:=P) (W:=[]) (Y:=y.2.2++(a0J ys++W)) (X:=X) (by rw[g];simp[a0J]) (by omega) (by simp) (c8e f.1 _) h
  exact this
theorem c2x{fm:a0L}{F W X:List Int}(w:X.length<200000000)(v:∀c∈W,c≠245):∀(rest done:List Pc)(fd:Bool)(sp:List (Int×Int×Unit)) (fmt:a0L),(done=[]→fd=false∧sp=[])→(done≠[]→fd=true∧sp=[((0:Int),((a0Z done:Nat):Int),())]∧fmt=fm)→
  (done++rest).length≤256→X=F++(a0J done++(a0J rest++W))→a2B fm (a0Z done) rest→done++rest≠[]→a0Z done≤64*done.length→(a2G done).length≤32768*done.length→
  y0s a5E (X,fd,((a0Z done:Nat):Int),c0Z (F.length+(a0J done).length) rest,sp,a2G done,fmt,())=some ([((0:Int),((a0Z (done++rest):Nat):Int),())],a2G (done++rest),())
 | [],done,fd,sp,fmt,_,h1,_,_,_,hne,_,_=>by
  rw[a47]at hne⊢;obtain⟨-,rfl,-⟩:=h1 hne;exact a0E rfl
 |x::rest,done,fd,sp,fmt,h0,h1,h200,hX,hr,hne,hlp,hdl=>by
  obtain⟨P,e⟩:=hr;obtain⟨q1,C,D,E,T,S,l,U,V,Q,R⟩:=id P;obtain⟨A,n⟩:∃A,F.length+(a0J done).length=A:=⟨_,rfl⟩;have b:(F++a0J done).length=A:=by rw[lN,n]
  have k:X=(F++a0J done)++(x.2.2++(a0J rest++W)):=by rw[hX];simp[a0J]
  have o:X=((F++a0J done)++x.2.2)++(a0J rest++W):=by rw[k];simp
  have L:X.length=A+(x.2.2.length+(a0J rest++W).length):=by rw[k,lN,b,lN]
  have f:=S (a0J rest++W) (by omega);have g:=c8f e o w v;rw[lN,b]at g;have d:a30 A (a27 (a03 X) X)=x.2.2++(a0J rest++W):=by rw[a22,k,←b,a68]
  simp only[lN,lC]at h200;have r:decide ((A:Int)≥0)=true:=decide_eq_true (a02 _);have s:decide ((0:Int)≤(A:Int))=true:=decide_eq_true (a02 _);have t:decide ((A:Int)≤(X.length:Int))=true:=decide_eq_true (by omega);have G:wrap .i64 ((A:Int)+((x.2.2.length:Nat):Int))=((A+x.2.2.length:Nat):Int):=by rw[a0C (by omega)];omega
  have y:=l.2.2.2.2.1;have u:decide (((a0Z done:Nat):Int)<((a0Z done:Nat):Int))=false:=decide_eq_false (by omega);have w2:wrap .i64 (((a0Z done:Nat):Int)+((a0Y x.2.1:Nat):Int))=((a0Z (done++[x]):Nat):Int):=by rw[a2Q,a0C (by omega)];omega
  have O:(wvB x.2.1).length≤4096*8:=by rw[c1E];exact a07 l.2.2.2.2.2.1 l.2.2.2.1
  have i:=c4o l;have M:eqT (.pair (.int .i64) (.pair (.int .i64) (.pair (.int .i64) .unit))) x.1.2.2.1 fm=true:=by rw[D];exact b6k fm
  have p:(a0J (done++[x])).length=(a0J done).length+x.2.2.length:=by rw[a5P,lN]
  have j:a5E (X,fd,((a0Z done:Nat):Int),(A:Int),sp,a2G done,fmt,()) =
    some (.inl (X,true,((a0Z (done++[x]):Nat):Int),c0Z (A+x.2.2.length) rest,[((0:Int),((a0Z (done++[x]):Nat):Int),())],a2G (done++[x]),fm,())):=by
   have a:(a2G done).length+(wvB x.2.1).length<2147483648:=by omega
   by_cases hd0:done=[]
   obtain⟨rfl,rfl⟩:=h0 hd0;have z:a0Z done=0:=by rw[hd0];rfl
   have q:wrap .i64 (((a03 ([]:List (Int×Int×Unit)):Nat):Int)-(1:Int))=-1:=by rw[a0C (by simp)];rfl
   have m:decide ((-1:Int)≥0)=false:=rfl;simp only[a5E,r,cT,s,t,a01,tN,d,f,oB,show((0:Int) != 0)=false from rfl,cF,G,g,a32];rw[show eqT (.pair (.int .i64) (.pair (.int .i64) (.pair (.int .i64) .unit))) x.1.2.2.1 x.1.2.2.1=true from b6k _];simp only[bT,cF,q1,u,E,oB,show((0:Int) != 0)=false from rfl,q,m,a0T (show([]:List (Int×Int×Unit)).length+1<2147483648 by simp),cT,C,w2,i,a0T a,D,a39,a19,a6V];rw[z];rfl;obtain⟨rfl,rfl,rfl⟩:=h1 hd0;have q:wrap .i64 (((a03 [((0:Int),((a0Z done:Nat):Int),())]:Nat):Int)-(1:Int))=0:=by rw[a0C (by simp)];rfl
   have m:decide ((0:Int)≥0)=true:=rfl;have I:decide ((0:Int)≤0)=true:=rfl;have H:decide ((0:Int)<((a03 [((0:Int),((a0Z done:Nat):Int),())]:Nat):Int))=true:=rfl;have K:a82 [((0:Int),((a0Z done:Nat):Int),())] (a28 0) ((0:Int),(0:Int),())=((0:Int),((a0Z done:Nat):Int),()):=rfl;simp only[a5E,r,cT,s,t,a01,tN,d,f,oB,show((0:Int) != 0)=false from rfl,cF,G,g,bT];rw[M];simp only[bT,cF,q1,u,E,oB,show((0:Int) != 0)=false from rfl,q,m,I,H,a01,cT,K,beq_self_eq_true,C,w2,i,a0T a,a39,a6V];rfl
  have N:c0Z (F.length+(a0J done).length) (x::rest)=(A:Int):=by rw[n];rfl
  rw[N,a0F j];have B:=c2x (fm:=fm) (F:=F) w v rest (done++[x]) true [((0:Int),((a0Z (done++[x]):Nat):Int),())] fm (fun h=>by simp at h) (fun _=>⟨rfl,rfl,rfl⟩) (by simp only[lN,a31];omega) (by rw[k,a5P];simp) (by rw[a2Q];exact e) (by simp) (by rw[a2Q];simp only[lN,a31];omega) (by rw[a6V];simp only[lN,a31];omega);rw[p,←a56,n]at B;rw[B]
  simp
theorem d1K{fm:a0L}{F W:List Int}{xs:List Pc}(a:a2B fm 0 xs)(f:xs.length≤256)(k:xs≠[])(e:∀c∈F,c≠245)(i:∀c∈W,c≠245)(b:(F++(a0J xs++W)).length<200000000):
  b0T (F++(a0J xs++W))=some ([((0:Int),((a0Z xs:Nat):Int),())],a2G xs):=by
 obtain⟨x,rest,rfl⟩:∃x rest,xs=x::rest:=by
  cases xs with
  |nil=>exact absurd rfl k
  |cons x rest=>exact⟨x,rest,rfl⟩
 have g:=a.1.2.2.2.2.2.1 (a0J rest++W) (by
  simp only[a0J,a24,lN]at b⊢;omega)
 have d:=c2w (P:=[]) (W:=F) (Y:=x.2.2++(a0J rest++W)) (X:=F++(a0J (x::rest)++W)) (by simp[a0J]) (by omega) e (c8e a.1 _) g;rw[a09,a79]at d;have h:=c2x (fm:=fm) (F:=F) (W:=W) (X:=F++(a0J (x::rest)++W)) b i (x::rest) [] false [] ((0:Int),(0:Int),(0:Int),()) (fun _=>⟨rfl,rfl⟩) (fun h=>absurd rfl h) (by simpa using f) (by simp[a0J]) a (by simp) (by simp[a0Z]) (by simp[a2G]);unfold b0T
 erw[d]
 simp only[oB]
 erw[h]
 rfl
def a4O(c:Int):Int:=if c=245 then 0 else c
theorem c1a:∀(rest A:List Int),(A++rest).length≤1000→y0s a4u ((A.length:Int),A++rest,())=some (A++rest.map a4O,())
 | [],A,_=>by
  rw[a0E (b:=(A++[],())) (by simp only[a4u,a47,dge,cF])];rfl
 |c::rest,A,h=>by
  have g:A.length<(A++c::rest).length:=by simp
  have f:decide ((0:Int)≤(A.length:Int))=true:=decide_eq_true (a02 _);have k:A.length<1000000:=by simp at h;omega
  have a:∀d,y0s a4u (((A.length+1:Nat):Int),A++d::rest,())=some (A++d::rest.map a4O,()):=fun d=>by
   have:=c1a rest (A++[d]) (by simpa using h)
   simpa using this
  by_cases hc:c=245
  subst hc;rw[a0F (s':=(((A.length+1:Nat):Int),A++0::rest,())) (by
   simp only[a4u,dlt g,f,a01,cT,tN,b4F,c9r,beq_self_eq_true,a0B k]),a]
  rfl;have hb:(c==(245:Int))=false:=by simpa using hc
  rw[a0F (s':=(((A.length+1:Nat):Int),A++c::rest,())) (by
   simp only[a4u,dlt g,f,a01,cT,tN,b4F,hb,cF,a0B k]),a]
  simp[a4O,hc]
theorem c4v{b:List Int}(h:b.length≤1000):a9n b=some (b.map a4O):=by
 have:=c1a b [] (by simpa using h)
 unfold a9n;rw[a0T (by omega),cT]
 erw[this]
 rfl
theorem c2y{b:List Int}:∀c∈b.map a4O,c≠245:=fun c h=>by
 obtain⟨d,-,rfl⟩:=a38.1 h;unfold a4O;split;decide
 assumption
theorem c2N(n:Int):a7T ([((0:Int),n,())],[((0:Int),n,())])=some true:=by
 unfold a7T;rw[a0F (s':=([((0:Int),n,())],[((0:Int),n,())],(1:Int),())) (by
  have g:m0k [((0:Int),n,())] 0=some ((0:Int),n,()):=rfl;have d:decide ((0:Int)<((a03 [((0:Int),n,())]:Nat):Int))=true:=rfl;simp only[b2r,d,cT,g,oB];simp[eqT];rfl),a0E (b:=Sum.inl ()) rfl]
 rfl
theorem c1F(x:a0L×(List Int×(Int×(Int×(List Int×List Int))))):a9G x=some true:=by
 obtain⟨fm,l,size,effort,g,h⟩:=x;unfold a9G;simp only[d1I,oB,bT,cF];obtain⟨t,r,I⟩:=c8b fm l 100 (by omega);rw[show((100:Nat):Int)=100 from rfl]at r;simp only[r,oB];cases t with
 |false=>rfl
 |true=>
  simp only[bT,cF];cases hz:(((a03 l:Nat):Int)==(0:Int))with
  |true=>rfl
  |false=>
   cases hfr:decide (((a03 g:Nat):Int) > (60:Int))with
   |true=>rfl
   |false=>
    cases hbh:decide (((a03 h:Nat):Int) > (60:Int))with
    |true=>rfl
    |false=>
     have i:1≤l.length:=by simp only[beq_eq_false_iff_ne]at hz;omega
     have u:g.length≤60:=by simp only[decide_eq_false_iff_not]at hfr;omega
     have s:h.length≤60:=by simp only[decide_eq_false_iff_not]at hbh;omega
     obtain⟨b,X,a,ch,n,d,M⟩:=I rfl;obtain⟨P,Q,R,S,T,U⟩:=id b;have L:1≤ch∧ch≤8:=by omega
     have j:n≤200:=Nat.le_trans (Nat.le_mul_of_pos_right n L.1) (by omega);obtain⟨sz,E,f,s1,s2,s3,s4,s5,s6,Y,c,Z,z,o,O⟩:=d1J b d M j a size effort;have k:f≠[]:=fun e=>by
      subst e
      have:l=[]:=by rw[←z];rfl
      subst this;simp at i
     have N:1≤f.length:=a73.2 k;have hb:=b1d c;have V:=b4E b c o;have v:(a1P fm f).length=((a1e fm f).length+4)+(a0J f).length:=by simp[a1P,a5Q];omega
     have D:(((a03 (mkT fm f).2.2.2.2.1:Nat):Int)==(0:Int))=false:=by simp[mkT];exact k
     have A:decide ((((a1e fm f).length+4:Nat):Int)<0)=false:=decide_eq_false (by omega);have B:decide ((0:Int)≤(((a1e fm f).length+4:Nat):Int))=true:=decide_eq_true (a02 _);have C:decide ((((a1e fm f).length+4:Nat):Int)≤((a03 (a1P fm f):Nat):Int))=true:=decide_eq_true (by omega);have H:a30 ((a1e fm f).length+4) (a27 (a03 (a1P fm f)) (a1P fm f))=a0J f:=by
      rw[a22];unfold a1P;rw[←aA];exact List.drop_left' (by simp[a5Q])
     have p:(g.map a4O).length+(a0J f).length<2147483648:=by rw[a05];omega
     have q:(g.map a4O++a0J f).length+(h.map a4O).length<2147483648:=by rw[lN,a05,a05];omega
     have w:=d1K (F:=g.map a4O) (W:=h.map a4O) c o k c2y c2y (by simp only[lN,a05];omega);have K:g.map a4O++a0J f++h.map a4O=g.map a4O++(a0J f++h.map a4O):=aA ..;have m:=c4D (x:=l) (y:=l) (by unfold short;omega);have G:(mkT fm f).2.1=((a0Z f:Nat):Int):=rfl;rw[z]at w;simp only[cF,oB,O,c8c b c o,bT,D,A,c4v (show g.length≤1000 by omega),c4v (show h.length≤1000 by omega),B,C,a01,cT,tN,H,a0T p,a39,a0T q,K,w,G,c2N,m,decide_true]
end Go.Ab
namespace Go.Proofs.YtbadoabamddpfaaGreatDoor
open Go.Ab Go.ChangeShapes Go.WideShapes Go.ChangeAt Go.RowKit
theorem b7I{α:Type}{f:Nat→Option (α×a0z×List Nat)}:∀(L:List α)(i:Nat),(∀(j:Nat) x,L[j]?=some x→f (i+j)=some (x,[],[]))→a0d f L.length i=some (L,[],[])
 | [],_,_=>rfl
 |a::L,i,h=>by
  have g:=h 0 a rfl;have k:=b7I L (i+1) (fun j x b=>by have:=h (j+1) x (by simpa using b);rw[←this];congr 1;omega);simp only[lC,a0d];simp only[a80]at g;rw[g,k];rfl
section
variable {H:Type} {enc:TypeId×Value→H} {P:Program} {w:World} {base:Nat} {spare:Nat→Bool} {held:Bool}
theorem c2O{k:IntKind}{n:Nat}{t e:TypeId}{fuel:Nat}{cs:List Value}{L:List Int}{p:List MemPlace}(B:P.underlying t=some (.array n e))(u:P.underlying e=some (.int k))(s:P.cellsOf e=1)
  (h:DataW.trod enc P w base spare held fuel t cs=some (.agg (L.map fun i=>.lit (.int k i)),p)):L.length=n∧∀(j:Nat) x,L[j]?=some x→cs[j]?=some (.int k x):=by
 obtain⟨C,m,rfl,b,-,A,a⟩:=DataW.trod_array B h;simp only[pJ,DataW.agg.injEq]at b;have z:L.length=n:=by rw[←A];simpa using congrArg a03 b.1
 refine⟨z,fun j x c=>?_⟩;obtain⟨v,-⟩:=lS.1 c;have g:=a j (by omega);rw[s]at g;obtain⟨y,d⟩:∃y,C[j]?=some y:=⟨_,lG (by omega)⟩;rw[d]at g;obtain⟨i,o,q,-⟩:=DataW.trod_int u g;have f:=congrArg (fun l=>l[j]?) b.1;simp only[List.getElem?_map,c,d,Option.map_some,q]at f;simp only[sj,DataW.lit.injEq,Lit.int.injEq,true_and]at f;subst f;have r:=congrArg (fun l=>l[0]?) o;simpa[a74,List.getElem?_take]using r
end
def c5s : String := (Rows.frameTurnedRow.laid.map Prod.fst).headD ""
theorem d7q:Tryz.prog.globalNamed c5s=some 0:=by kernel_rfl
def c9u:TypeId:=((Tryz.prog.globals[0]?).map (·.type)).getD 0
theorem d1L:(Tryz.prog.globals[0]?).map (·.type)=some c9u:=by kernel_rfl
def c9v:TypeId:=match Tryz.prog.underlying c9u with
 |some (.array _ e)=>e
 |_=>0
theorem d7r:Tryz.prog.underlying c9u=some (.array 64 c9v):=by kernel_rfl
theorem d4D:Tryz.prog.underlying c9v=some (.int .u8):=by kernel_rfl
theorem d4E:Tryz.prog.cellsOf c9v=1:=by kernel_rfl
@[reducible] def laidTab:List (String×DataW Unit):=[(c5s,Rows.laid_math_bits_deBruijn64tab)]

theorem d2O {g:Nat} {t:Ty} {x:t.den} (h:G0 g=some ⟨t,x⟩):g=0∧(⟨t,x⟩:(t:Ty)×t.den)=⟨.arr 64 (.int .u8),b1F⟩:=by
 unfold G0 find at h
 cases g with
 |zero=>exact⟨rfl,(Option.some.inj h).symm⟩
 |succ n=>exact absurd h (by simp[find])
theorem c4w{W:World}(h:laidMetH Tryz.prog laidTab W):∀g t x,G0 g=some ⟨t,x⟩→g<W.heap.size∧dec (a0a W none) t ((Src.at g 0).rd (a0a W none))=some (x,[],[]):=by
 rw[MakeChecks.laidMetH_plain _ _ _ (by kernel_rfl)]at h;obtain⟨ps,⟨r,w,m,q,u,v,b,c,d,a,_⟩,_,_⟩:=h;obtain rfl:=Option.some.inj (d7q.symm.trans b);obtain rfl:=Option.some.inj (d1L.symm.trans c);have n:(Rows.laid_math_bits_deBruijn64tab:DataW Unit)=.agg (b1F.map fun i=>.lit (.int .u8 i)):=rfl;rw[n]at a;obtain⟨s,p⟩:=c2O d7r d4D d4E a;have k:∀(j:Nat) x,b1F[j]?=some x→W.cell? ⟨0,j,none⟩=some (.int .u8 x):=fun j x l=>by
  rw[World.var?_cell b d j];simpa using p j x l
 intro g t x o;obtain⟨rfl,e⟩:=d2O o;cases e;refine⟨z0m (k 0 0 rfl),?_⟩;exact b7I (f:=fun i=>dec (a0a W none) (.int .u8) fun j=>(Src.at 0 0).rd (a0a W none) (i*1+j)) b1F 0 (fun j x l=>by
  have:=k j x l
  simp only[dec,Src.rd,a0a,a79,Nat.mul_one,a80,this,if_true])
set_option maxRecDepth 100000 in
theorem c9w (os:Os) (args:Array Value):laidMetH Tryz.prog laidTab ((World.doorLaid Tryz.prog 400 os).forCall (fun _ _=>0) ⟨#[],args,[]⟩).memory:=
 laidMetH_of_parts3 (fuel:=8) (laidMet_of_run' 8 (by kernel_rfl) (by kernel_rfl)) (by kernel_rfl) (by kernel_rfl)
end Go.Proofs.YtbadoabamddpfaaGreatDoor
