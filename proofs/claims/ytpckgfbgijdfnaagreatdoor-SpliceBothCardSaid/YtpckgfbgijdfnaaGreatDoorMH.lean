/- Part of the proof: QUF. Conditions: as each statement tells. -/
import Derived.KernelRfl
import Derived.Test.YtpckgfbgijdfnaaGreatDoorRows
import Derived.ProofKit
import Derived.LaidMore
import Derived.LaidLaws
import Derived.LaidHandle
import Derived.LaidByTextLater
import Derived.OpenShut
import Derived.Handed
import Derived.Test.YtpckgfbgijdfnaaGreatDoorMG
noncomputable section
set_option linter.unusedSimpArgs false
set_option linter.unusedVariables false
open BitVec renaming ofInt→a00,xor_assoc→a09,toNat_ofInt→a22,getLsbD_ushiftRight→a32,toNat_and→a39,msb_eq_getLsbD_last→a52,eq_of_getLsbD_eq→a60,xor_comm→a62,getLsbD→a68,toNat_or→a83,xor_zero→a87
open Bool renaming and_self→a01,not_false→a35,true_and→a54,eq_false_iff→a79
open Int renaming natCast_nonneg→a03,tdiv→a21,toNat→a30,tmod→a43,fdiv_eq_ediv_of_nonneg→a50,natCast_mul→a85
open List renaming range→a02,replicate→a04,length_map→a06,length→a08,nil_append→a18,length_nil→a19,map_cons→a23,getElem_mem→a25,map_congr_left→a26,flatMap_cons→a31,all_cons→a33,range_succ→a34,range_add→a36,foldl_append→a37,not_mem_nil→a40,take→a42,mem_map→a45,map_map→a46,filter_append→a49,drop→a53,cons_append→a56,take_length→a57,ext_getElem→a58,foldl_cons→a63,eq_replicate_iff→a65,append_eq→a66,mem_range→a67,flatMap_append→a71,getD_cons_succ→a72,getElem?_drop→a73,mem_flatMap→a81,append→a82,append_nil→a86,getD→a88
open Nat renaming mul_le_mul→a05,lt_trans→a07,mod_lt→a20,mul_le_mul_right→a24,mod_eq_of_lt→a27,zero_add→a28,and_two_pow_sub_one_eq_mod→a29,le_refl→a38,pow_le_pow_right→a41,sub_mod_eq_zero_of_mod_eq→a44,le_of_lt→a47,two_pow_add_eq_or_of_lt→a48,mul_mod→a51,add_assoc→a55,mul_comm→a59,le_mul_of_pos_right→a61,div_lt_iff_lt_mul→a64,le_sub_one_of_lt→a69,div_lt_of_lt_mul→a70,pos_of_ne_zero→a74,eq_zero_or_pos→a75,mul_div_cancel→a76,pow_succ→a77,add_zero→a78,lt_succ_of_lt→a80,div_le_self→a84
open Option renaming bind_eq_some_iff→a16
namespace Go.Ab
open IntKind(wrap)
def a9i(f:a1b)(l:List Sub):a1b:=(f.1,f.2.1,f.2.2.1,f.2.2.2.1,l,())
theorem c7w(f:a1b):a9i f f.2.2.2.2.1=f:=rfl
theorem c1s(f g:a1b)(e:Int){N:Nat}(d:N≤8){Z:List Int}:∀(rest:List PZ)(done:List Sub)(P:List Int),done.length+rest.length=N→(∀p∈rest,c7v f.2.1 p)→OkR P (a0M rest++Z)→
  y0s a8d (e,(N:Int),(done.length:Int),g,a9i f done,rdr P (a0M rest++Z),())=some (.inl (e,g,a9i f (done++rest.map (·.1)),rdr (P++a0M rest) Z,()))
 | [],done,P,hl,_,_=>by
  have a:done.length=N:=by simpa using hl
  rw[a,a0E (b:=Sum.inl (e,g,a9i f done,rdr P Z,())) (by simp only[a8d,dge,cF];rfl)];simp[a0M]
 |p::rest,done,P,hl,h,hok=>by
  rw[lC]at hl;obtain⟨n,l,o⟩:=h p (by simp);have c:a0M (p::rest)++Z=a8C p.1 p.2++(a0M rest++Z):=by simp[a0M]
  rw[c]at hok⊢;have j:=d1X n l o hok;have i:decide ((done.length:Int)<(N:Int))=true:=by simp;omega
  have z0:((0:Int) != 0)=false:=rfl;rw[a0F (s':=(e,(N:Int),(((done++[p.1]).length:Nat):Int),g,a9i f (done++[p.1]),rdr (P++a8C p.1 p.2) (a0M rest++Z),())) (by
   have k:b2L (rdr P (a8C p.1 p.2++(a0M rest++Z)),(a9i f done).2.1)=some (p.1,(0:Int),rdr (P++a8C p.1 p.2) (a0M rest++Z)):=j;simp only[a8d,i,cT,k,oB,z0,cF];rw[show(a9i f done).2.2.2.2.1=done from rfl,a0S (show done.length+1<2147483648 by omega),cT,a0B (show done.length<1000000 by omega)];rw[show(((done++[p.1]).length:Nat):Int)=((done.length+1:Nat):Int)from by simp];rfl)]
  rw[c1s f g e d rest (done++[p.1]) _ (by simp;omega) (fun q m=>h q (by simp[m])) hok.shift];simp[a0M]
theorem b9f{L:List Int}(f:a1B L)(a:L.length<500000000)(t:Int×(Int×Unit)):∀(k i:Nat),i+k=L.length→(∀j,i≤j→L.getD j 0=0)→
  y0s a3q ((L.length:Int),(i:Int),((wL L).1,t),())=some (.inl ((L.length:Int),((wL L).1,t),()))
 |0,i,h,_=>by
  obtain rfl:i=L.length:=by omega
  exact a0E (by simp only[a3q,dge,cF])
 |k+1,i,h,h0=>by
  have g:i<L.length:=by omega
  have z:((0:Int)==1)=false:=rfl;have b:wrap .i64 ((i:Int)+1)=((i+1:Nat):Int):=by rw[a0C (by omega)];omega
  rw[a0F (s':=((L.length:Int),((i+1:Nat):Int),((wL L).1,t),())) (by
   simp only[a3q,dlt g,cT];rw[c2g f (by omega) g t,h0 i (a38 _)];simp only[oB,z,cF,b])]
  exact b9f f a t k (i+1) (by omega) (fun j c=>h0 j (by omega))
theorem c9S(L:List Int)(k j:Nat)(h:L.length≤j):(L++a04 k 0).getD j 0=0:=by
 rw[lD,List.getElem?_append_right h,List.getElem?_replicate]
 split<;>rfl
theorem c2W{L:List Int}(h:a1B L):a1B (a2K L):=h.app fun _ hb=>.inl (List.mem_replicate.1 hb).2
theorem c8A{L:List Int}(f:a1B L)(c:L.length≤5600000):∃r,a5d (rdr L (a04 (a4X L.length) 0))=some r∧r.2.2.1=0:=by
 have hp:(a2K L).length=L.length+a4X L.length:=by simp[a2K]
 have a:a4X L.length<8:=by unfold a4X;omega
 have b:(a2K L).length%8=0:=by rw[hp];unfold a4X;omega
 have z0:((0:Int) != 0)=false:=rfl;have g:wrap .i64 (wrap .i64 (a21 (wrap .i64 ((L.length:Int)+7)) 8)*8)=((a2K L).length:Int):=by
  rw[a0C (n:=(L.length:Int)+7) (by omega),show a21 ((L.length:Int)+7) 8=(((L.length+7) / 8:Nat):Int)from by
   rw[show((L.length:Int)+7)=((L.length+7:Nat):Int)from by omega];rfl,a0C (n:=(((L.length+7) / 8:Nat):Int)) (by omega),a0C (by omega),hp]
  unfold a4X;omega
 have h:=b9f (c2W f) (by omega) ((L.length:Int),(0:Int),()) (a4X L.length) L.length (by omega) (fun j k=>c9S L _ j k);refine⟨((wL (a2K L)).1,((a2K L).length:Int),(0:Int),()),?_,rfl⟩;unfold a5d rdr;simp only[z0,cF,g];rw[show L++a04 (a4X L.length) 0=a2K L from rfl,h];rfl
theorem d7S{v:Int}(h:0≤v∧v<65536):bits .u16 .or (A0n .u16 (wrap .u16 (v / 256)) 8) (wrap .u16 (v%256))=v:=by
 rw[b3P,b3P];have e:A0n .u16 (v / 256%65536) 8=((v.toNat / 256*256:Nat):Int):=by
  show wrap .u16 (v / 256%65536*256)=_;rw[b3P];omega
 rw[e];have g:v%256%65536=((v.toNat%256:Nat):Int):=by omega
 rw[g];show wrap .u16 (((a00 16 ((v.toNat / 256*256:Nat):Int) ||| a00 16 ((v.toNat%256:Nat):Int)).toNat:Nat):Int)=_;have f:(a00 16 ((v.toNat / 256*256:Nat):Int)).toNat=v.toNat / 256*256:=by rw[a22];omega
 have k:(a00 16 ((v.toNat%256:Nat):Int)).toNat=v.toNat%256:=by rw[a22];omega
 rw[a83,f,k];have e:v.toNat / 256*256 ||| v.toNat%256=v.toNat / 256*256+v.toNat%256:=by
  have:=a48 (i:=8) (b:=v.toNat%256) (by omega) (v.toNat / 256)
  rw[show 2^8*(v.toNat / 256)=v.toNat / 256*256 from by omega]at this;exact this.symm
 rw[e,b3P];omega
theorem c3B{f:a1b}(O:a4u f=some true)(u:frP f)(t:((f.2.2.2.2.1.length:Nat):Int)=f.2.2.1.2.1){zs:List PZ}(B:zs.map (·.1)=f.2.2.2.2.1)(hp:∀p∈zs,c7v f.2.1 p)(z:(a0M zs).length≤5600000)
  {R:List Int}(V:R.length≤200000000):a6x (a4Y f (a0M zs)++R)=some (f,((a4Y f (a0M zs)).length:Int),(0:Int)):=by
 have P:=b6J u z;have Q:=b9e (a9u f (a0M zs));have L:f.2.2.2.2.1.length≤8:=by have:=u.1.2.2.2.1;omega
 have N:=b7X (a0M zs);generalize hbd:a9h (a0M zs)=body at *;have c:a4Y f (a0M zs)=a9u f (a0M zs)++[a4n (a9u f (a0M zs)) / 256,a4n (a9u f (a0M zs))%256]:=rfl;have g:a9u f (a0M zs)=a1I f body.length++body:=by unfold a9u;rw[hbd]
 generalize hpb:a9u f (a0M zs)=pre at *;have o:a4Y f (a0M zs)++R=a1I f body.length++(body++([a4n pre / 256,a4n pre%256]++R)):=by rw[c,g];simp
 have m:(a4Y f (a0M zs)).length=pre.length+2:=by rw[c];simp
 have A:pre.length=(a1I f body.length).length+body.length:=by rw[g];simp
 have y:(a4Y f (a0M zs)++R).length=pre.length+2+R.length:=by rw[lN,m]
 have k:=c7u u (body:=body.length) (by omega) (R:=body++([a4n pre / 256,a4n pre%256]++R)) (by rw[←o,y];omega);rw[←o]at k;generalize hx:a4Y f (a0M zs)++R=x at *;have z0:((0:Int) != 0)=false:=rfl;have T:wrap .i64 (((a1I f body.length).length:Int)+(body.length:Int))=(pre.length:Int):=by rw[a0C (by omega)];omega
 have w2:wrap .i64 ((pre.length:Int)+2)=((pre.length+2:Nat):Int):=by rw[a0C (by omega)];omega
 have U:wrap .i64 ((pre.length:Int)+1)=((pre.length+1:Nat):Int):=by rw[a0C (by omega)];omega
 have C:decide ((x.length:Int)<((pre.length+2:Nat):Int))=false:=by simp;omega
 have D:decide ((0:Int)≤(pre.length:Int))=true:=by simp
 have E:decide ((pre.length:Int)≤(x.length:Int))=true:=by simp;omega
 have F:decide ((0:Int)≤((a1I f body.length).length:Int))=true:=by simp
 have G:decide (((a1I f body.length).length:Int)≤(pre.length:Int))=true:=by simp;omega
 have j:x=pre++([a4n pre / 256,a4n pre%256]++R):=by rw[←hx,c];simp
 have i:a42 pre.length x=pre:=by rw[j];simp
 have b:a53 (a1I f body.length).length pre=body:=by rw[g];simp
 have I:m0k x (pre.length:Int)=some (a4n pre / 256):=by rw[a0D (by omega)];congr 1;subst j;simp
 have K:m0k x ((pre.length+1:Nat):Int)=some (a4n pre%256):=by rw[a0D (by omega)];congr 1;subst j;simp
 have S:(a4n pre != bits .u16 .or (A0n .u16 (wrap .u16 (a4n pre / 256)) 8) (wrap .u16 (a4n pre%256)))=false:=by rw[d7S Q];exact bne_self_eq_false _
 have e:(a2K (a0M zs)).length<1000000000:=by omega
 have a:=d3u e;rw[show(wL (a2K (a0M zs))).1=body from hbd]at a;have v:OkR [] (a0M zs++a04 (a4X (a0M zs).length) 0):=⟨by rw[a18];exact c2W (c2U zs),by
  rw[a18];show(a2K (a0M zs)).length<_;omega⟩
 have h:=c1s f ((0:Int),(0:Int),((0:Int),(0:Int),(0:Int),()),([]:List a0J),([]:List Sub),()) (pre.length:Int) L zs [] [] (by rw[←B];simp) hp v;simp only[a18,a19,B,c7w]at h;have w:rdr [] (a2K (a0M zs))=rdr [] (a0M zs++a04 (a4X (a0M zs).length) 0):=rfl;obtain⟨r,q,s⟩:=c8A (c2U zs) z;have d:a2H (rdr (a0M zs) (a04 (a4X (a0M zs).length) 0))=some ((a4X (a0M zs).length:Int),rdr (a0M zs) (a04 (a4X (a0M zs).length) 0)):=by
  unfold a2H rdr
  have:(wL (a0M zs++a04 (a4X (a0M zs).length) 0)).1=body:=hbd
  simp only[this];have hp:(a2K (a0M zs)).length=(a0M zs).length+a4X (a0M zs).length:=by simp[a2K]
  rw[a0C (n:=8*(body.length:Int)) (by omega),a0C (by omega)];congr 2;omega
 have H:decide (((a4X (a0M zs).length:Nat):Int)≥8)=false:=by unfold a4X;simp;omega
 have M:a9i f []=c7t f:=rfl;have l:f.2.2.1.2.1=((f.2.2.2.2.1.length:Nat):Int):=t.symm;unfold a6x;rw[k];simp only[oB,z0,cF,T,w2,C,D,E,F,a01,cT,tN,i,c1p (show short pre by unfold short;omega),I,U,K,S,G,b,a,w];rw[show(c7t f).2.2.1.2.1=((f.2.2.2.2.1.length:Nat):Int)from l]
 erw[h]
 simp only[oB,d,H,cF,q,a0N,s,z0,O,bT,w2,m]
theorem b4B(x:Int):a9y x=some (a0A x):=by
 grind[a9y,a0A]
def a2L(c:List (List Int)):Prop:=1≤c.length∧c.length≤8∧(c.headD []).length≤4096∧c.all (fun r=>decide (r.length=(c.headD []).length)&&r.all a0A)=true
instance (c:List (List Int)):Decidable (a2L c):=by unfold a2L;infer_instance
theorem c2X{α:Type}{l:List α}{d:α}(h:0<l.length):l[0]=l.headD d:=by
 cases l with
 |nil=>grind
 |cons a l=>rfl
theorem c2k(c:List (List Int)):a7M c=some (decide (a2L c)):=by
 unfold a7M
 by_cases h1:((c.length:Nat):Int)<1
 have:¬ a2L c:=fun h=>by have:=h.1;omega
 simp_all
 by_cases h2:((c.length:Nat):Int) > 8
 have:¬ a2L c:=fun h=>by have:=h.2.1;omega
 simp_all;have b:0<c.length:=by omega
 have a:m0k c 0=some (c.headD []):=by rw[show(0:Int)=((0:Nat):Int)from rfl,a0D b,c2X (d:=[]) b]
 have l:decide (((c.length:Nat):Int)<1)=false:=by simp_all
 have m:decide (((c.length:Nat):Int) > 8)=false:=by simp_all
 simp only[l,m,cF,a,oB]
 by_cases h3:(((c.headD []).length:Nat):Int) > 4096
 rw[decide_eq_true h3,decide_eq_false (show ¬ a2L c from fun h=>by have:=h.2.2.1;omega)];rfl;have n:decide ((((c.headD []).length:Nat):Int) > 4096)=false:=by simp_all
 simp only[n,cF];have g:∀(i:Nat)(r:List Int),short r→y0s a4C (c,c,(c.length:Int),(i:Int),r,(r.length:Int),(0:Int),())=some (bif r.all a0A then Sum.inl (c,c,(c.length:Int),(i:Int),())else Sum.inr (false,())):=fun i r s=>by
  have:=a1T (f:=a4C) r (fun j=>(c,c,(c.length:Int),(i:Int),r,(r.length:Int),(j:Int),())) a0A (bt:=Sum.inl (c,c,(c.length:Int),(i:Int),())) (bf:=Sum.inr (false,()))
   (fun j h hp=>by simp only[a4C,dlt h,cT,a0D h,oB,b4B,hp,bT,cF,a0B (a07 h s)])
   (fun j h hp=>by simp_all[a4C,a0D,b4B])
   (by simp_all[a4C])
  omega
 have k:=a1T (f:=a4D) c (fun i=>(c,c,(c.length:Int),(i:Int),())) (fun r=>decide (r.length=(c.headD []).length)&&r.all a0A) (bt:=Sum.inl ()) (bf:=Sum.inr (false,()))
  (fun i h hp=>by
   simp only[bA,dT]at hp;have e:((((c[i]).length:Nat):Int) != (((c.headD []).length:Nat):Int))=false:=by simp_all
   have hi:=g i c[i] (by unfold short;omega);rw[hp.2,cT]at hi;simp only[a4D,dlt h,cT,a0D h,oB,a,e,cF,hi,a0B (show i<1000000 by omega)])
  (fun i h hp=>by
   by_cases hl:(c[i]).length=(c.headD []).length
   have e:((((c[i]).length:Nat):Int) != (((c.headD []).length:Nat):Int))=false:=by simp_all
   have hi:=g i c[i] (by unfold short;omega);rw[decide_eq_true hl,a54]at hp;rw[hp,cF]at hi;simp_all[a4D,a0D];have e:((((c[i]).length:Nat):Int) != (((c.headD []).length:Nat):Int))=true:=by grind
   simp only[a4D,dlt h,cT,a0D h,oB,a,e])
  (by simp_all[a4D])
 simp only[nZ]at k;rw[k];have o:1≤c.length:=by omega
 have p:c.length≤8:=by omega
 have q:(c.headD []).length≤4096:=by omega
 by_cases hA:c.all (fun r=>decide (r.length=(c.headD []).length)&&r.all a0A)=true
 rw[hA,decide_eq_true (show a2L c from⟨o,p,q,hA⟩)];rfl;rw[a79.2 hA,decide_eq_false (show ¬ a2L c from fun h=>hA h.2.2.2)];rfl
def a3w(c:List (List Int))(n:Nat):Prop:=∀r∈c,r.length=n∧r.all a0A=true
theorem c6b{c:List (List Int)}(h:a2L c):a3w c (c.headD []).length:=fun r g=>by
 have:=lA.1 h.2.2.2 r g
 simp_all
theorem b9F{c:List (List Int)}{n:Nat}(h:a3w c n)(g:1≤c.length)(f:c.length≤8)(b:n≤4096):a2L c:=by
 have a:(c.headD []).length=n:=by
  rw[←c2X (d:=[]) (show 0<c.length by omega)];exact(h _ (a25 _)).1
 refine⟨g,f,by omega,lA.2 fun r k=>?_⟩
 have:=h r k
 simp_all
theorem c2Y{c:List (List Int)}{n:Nat}(h:a3w c n)(l:n≤5000)(j:c.length≤100):a7s c=some c:=by
 have:=a1S (f:=a6U) (β:=List (List Int)×Unit) c (fun i (a:List (List Int))=>(c,(c.length:Int),(i:Int),a,())) (fun a x=>.inl (a++[x])) (fun i a=>a.length=i) (fun a=>(a,()))
  (fun i hi a k=>⟨fun e g=>by
   simp at g;subst g;have m:=(h _ (a25 hi)).1;have d:∀y:List Int,List.set ([([]:List Int)]:List (List Int)) 0 y=[y]:=fun _=>rfl;refine⟨?_,by grind⟩;simp only[a6U,dlt hi,cT,a0D hi,oB,a8y (show short c[i]by unfold short;omega),d];rw[a0S (by grind),cT,a0B (show i<1000000 by omega)];rfl,fun b hb=>by grind⟩)
  (fun a k=>by simp_all[a6U]) (a:=[]) rfl
 simp_all[b4A,a7s,a9q]
def a9j(sign g:Int)(x y:Int):Int:=y+sign*(g*x / 256)
def b0H(sign g:Int)(xs ys:List Int):List Int:=List.zipWith (a9j sign g) xs ys
theorem c9T(sign g:Int){xs ys:List Int}(h:xs.length=ys.length):(b0H sign g xs ys).length=ys.length:=by simp[b0H,h]
theorem c9U{sign g x y:Int}(b:sign=1∨sign=-1)(c:-1024≤g∧g≤1024)(k:a0A x=true)(a:a0A y=true):
  wrap .i64 (y+wrap .i64 (sign*A0o .i64 (wrap .i64 (g*x)) 8))=a9j sign g x y:=by
 have k:=a1J.1 k;have a:=a1J.1 a;have f:-1099511627776≤g*x∧g*x≤1099511627776:=by
  have f:g.natAbs≤1024:=by omega
  have h:x.natAbs≤1073741824:=by omega
  have:=a05 f h
  rw[←Int.natAbs_mul]at this;omega
 rw[a0C (n:=g*x) (by omega)];have h:A0o .i64 (g*x) 8=g*x / 256:=by
  unfold A0o;show(g*x).fdiv (2^8)=_
  grind
 rw[h];unfold a9j;rcases b with rfl|rfl
 all_goals grind[a0C]
theorem b2G{α:Type}(c:List α){a b:Nat}(h:a≠b)(y d:α):(c.set b y).getD a d=c.getD a d:=by
 grind
theorem a7S{α:Type}(c:List α){b:Nat}(h:b<c.length)(y d:α):(c.set b y).getD b d=y:=by
 simp_all
theorem c1t{c:List (List Int)}{s:a0J}{sign:Int}(g:sign=1∨sign=-1)(b:-1024≤s.2.2.1∧s.2.2.1≤1024)(a0:0≤s.1)(i:0≤s.2.1)(f:s.1.toNat≠s.2.1.toNat)(hb:s.2.1.toNat<c.length)(k:s.2.1<(c.length:Int))
  {xs:List Int}(a:c.getD s.1.toNat []=xs)(w:xs.length≤5000):∀(sx suf px pre:List Int),px++sx=xs→px.length=pre.length→sx.length=suf.length→sx.all a0A=true→suf.all a0A=true→
  if(b0H sign s.2.2.1 sx suf).all a0A=true then
   y0s a3I (sign,(xs.length:Int),(pre.length:Int),c.set s.2.1.toNat (pre++suf),s,((s.1.toNat:Nat):Int),())=some (.inl (c.set s.2.1.toNat (pre++b0H sign s.2.2.1 sx suf),()))
  else ∃c',y0s a3I (sign,(xs.length:Int),(pre.length:Int),c.set s.2.1.toNat (pre++suf),s,((s.1.toNat:Nat):Int),())=some (.inr (false,c',()))
 | [],suf,px,pre,hx,hp,hl,_,_=>by
  have e:suf=[]:=List.length_eq_zero_iff.1 hl.symm;subst e;have p:pre.length=xs.length:=by simp_all
  rw[if_pos (by rfl),p];exact a0E (by simp only[a3I,dge,cF];rfl)
 |x::sx,[],px,pre,_,_,hl,_,_=>by simp_all
 |x::sx,y::suf,px,pre,hx,hp,hl,hwx,hwy=>by
  simp only[a33,bA]at hwx hwy;have v:pre.length<xs.length:=by grind
  have q:(c.set s.2.1.toNat (pre++y::suf)).getD (a30 ((s.1.toNat:Nat):Int)) []=xs:=by grind
  have r:(c.set s.2.1.toNat (pre++y::suf)).getD s.2.1.toNat []=pre++y::suf:=a7S _ hb _ _;have t:a88 xs (a30 (pre.length:Int)) 0=x:=by grind
  have u:a88 (pre++y::suf) (a30 (pre.length:Int)) 0=y:=by simp
  have j:decide ((0:Int)≤(pre.length:Int))=true:=by simp
  have l:decide ((pre.length:Int)<(xs.length:Int))=true:=by simp_all
  have m:decide ((0:Int)≤s.2.1)=true:=by simp_all
  have n:decide (s.2.1<(((c.set s.2.1.toNat (pre++y::suf)).length:Nat):Int))=true:=by simp_all
  have o:decide ((pre.length:Int)<(((pre++y::suf).length:Nat):Int))=true:=by grind
  have hv:=c9U g b hwx.1 hwy.1;have z:wrap .i64 ((pre.length:Int)+1)=((pre.length+1:Nat):Int):=a0B (by omega);have A:b0H sign s.2.2.1 (x::sx) (y::suf)=a9j sign s.2.2.1 x y::b0H sign s.2.2.1 sx suf:=rfl;have d:List.set (c.set s.2.1.toNat (pre++y::suf)) s.2.1.toNat (List.set (pre++y::suf) (a30 (pre.length:Int)) (a9j sign s.2.2.1 x y))=c.set s.2.1.toNat ((pre++[a9j sign s.2.2.1 x y])++suf):=by
   simp
  have h:a3I (sign,(xs.length:Int),(pre.length:Int),c.set s.2.1.toNat (pre++y::suf),s,((s.1.toNat:Nat):Int),()) =
    bif !(a0A (a9j sign s.2.2.1 x y))then some (.inr (Sum.inr (false,c.set s.2.1.toNat (pre++y::suf),())))
    else some (.inl (sign,(xs.length:Int),((pre.length+1:Nat):Int),c.set s.2.1.toNat ((pre++[a9j sign s.2.2.1 x y])++suf),s,((s.1.toNat:Nat):Int),())):=by
   simp only[a3I,l,cT,q,r,j,a01,m,n,o,t,u,b4B,hv,oB,z]
   simp
  cases hwv:a0A (a9j sign s.2.2.1 x y)with
  |false=>
   simp_all[a0E]
  |true=>
   rw[hwv]at h;have B:=c1t g b a0 i f hb k a w sx suf (px++[x]) (pre++[a9j sign s.2.2.1 x y]) (by simp_all) (by grind) (by simp_all) hwx.2 hwy.2;rw[a0F h,A];simp_all
def a3P(sign:Int)(s:a0J)(c:List (List Int)):Option (List (List Int)):=
 let r:=b0H sign s.2.2.1 (c.getD s.1.toNat []) (c.getD s.2.1.toNat [])
 if r.all a0A=true then some (c.set s.2.1.toNat r)else none
theorem a8E{c:List (List Int)}{n:Nat}(h:a3w c n){i:Nat}(hi:i<c.length):(c.getD i []).length=n∧(c.getD i []).all a0A=true:=by
 rw[lD,lG hi];exact h _ (a25 hi)
theorem c4O{c:List (List Int)}{n:Nat}(a:a3w c n)(w:n≤5000){s:a0J}(p:a2C (c.length:Int) s=true){sign:Int}(k:sign=1∨sign=-1):
  ∃b f,a8p (c,s,sign)=some (b,f)∧match a3P sign s c with|some r=>b=true∧f=r|none=>b=false:=by
 obtain⟨a1,u,d,e,v,j,l⟩:=a3c.1 p;have q:=a8E a (i:=s.1.toNat) (by omega);have t:=a8E a (i:=s.2.1.toNat) (by omega);have hb:s.2.1.toNat<c.length:=by omega
 have g:c.set s.2.1.toNat (c.getD s.2.1.toNat [])=c:=by
  simp_all
 have:=c1t k ⟨j,l⟩ a1 d (by omega) hb e (rfl:c.getD s.1.toNat []=_) (by omega) (c.getD s.1.toNat []) (c.getD s.2.1.toNat []) [] [] rfl rfl (by omega) q.2 t.2
 rw[a18,g]at this;simp only[a19,nZ,a18,Int.cast_ofNat_Int]at this;have m:decide ((0:Int)≤s.1)=true:=by simp_all
 have o:decide (s.1<(c.length:Int))=true:=by simp_all
 unfold a8p a3P;simp only[m,o,a01,cT]
 by_cases hA:(b0H sign s.2.2.1 (c.getD s.1.toNat []) (c.getD s.2.1.toNat [])).all a0A=true
 simp_all;rw[if_neg hA]at this⊢;obtain⟨f,h⟩:=this;simp_all
theorem b3G{c c':List (List Int)}{n:Nat}(g:a3w c n){s:a0J}(k:a2C (c.length:Int) s=true){sign:Int}(h:a3P sign s c=some c'):a3w c' n∧c'.length=c.length:=by
 obtain⟨a1,a,b,d,e,j,l⟩:=a3c.1 k;have o:=a8E g (i:=s.1.toNat) (by omega);have p:=a8E g (i:=s.2.1.toNat) (by omega);unfold a3P at h;simp only at h
 split at h
 rename_i m;cases h;refine⟨fun r f=>?_,by simp⟩;rcases List.mem_or_eq_of_mem_set f with f|rfl;exact g r f;simp_all[c9T];simp_all
theorem c4P(g:Int):∀xs ys:List Int,xs.length=ys.length→b0H (-1) g xs (b0H 1 g xs ys)=ys
 | [],[],_=>rfl
 |x::xs,y::ys,h=>by
  have f:=c4P g xs ys (by simpa using h);show a9j (-1) g x (a9j 1 g x y)::b0H (-1) g xs (b0H 1 g xs ys)=_;rw[f];unfold a9j;congr 1;omega
 | [],_::_,h=>by grind
 |_::_,[],h=>by rfl
theorem c8B{c c':List (List Int)}{n:Nat}(g:a3w c n){s:a0J}(f:a2C (c.length:Int) s=true)(h:a3P 1 s c=some c'):a3P (-1) s c'=some c:=by
 obtain⟨a1,a,b,d,e,j,l⟩:=a3c.1 f;have m:=a8E g (i:=s.1.toNat) (by omega);have k:=a8E g (i:=s.2.1.toNat) (by omega);have hb:s.2.1.toNat<c.length:=by omega
 unfold a3P at h;simp only at h
 split at h
 cases h;unfold a3P;simp only;rw[b2G _ (show s.1.toNat≠s.2.1.toNat by omega),a7S _ hb,c4P _ _ _ (by omega),if_pos k.2,List.set_set];simp_all;simp_all
def doO:List a0J→List (List Int)→Option (List (List Int))
 | [],c=>some c
 |s::l,c=>(a3P 1 s c).bind (doO l)
def b1y:List a0J→List (List Int)→Option (List (List Int))
 | [],c=>some c
 |s::l,c=>(b1y l c).bind (a3P (-1) s)
theorem b3Q{n:Nat}{N:Nat}:∀(l:List a0J){c c':List (List Int)},a3w c n→c.length=N→l.all (a2C (N:Int))=true→doO l c=some c'→a3w c' n∧c'.length=N
 | [],c,c',hc,hl,_,h=>by cases h;simp_all
 |s::l,c,c',hc,hl,hs,h=>by
  simp only[a33,bA]at hs;simp[doO,a16]at h;obtain⟨d,g,f⟩:=h;obtain⟨k,a⟩:=b3G hc (by simp_all) g;exact b3Q l k (by omega) hs.2 f
theorem c6c{n:Nat}{N:Nat}:∀(l:List a0J){c c':List (List Int)},a3w c n→c.length=N→l.all (a2C (N:Int))=true→doO l c=some c'→b1y l c'=some c
 | [],c,c',_,_,_,h=>by cases h;rfl
 |s::l,c,c',hc,hl,hs,h=>by
  simp only[a33,bA]at hs;simp only[doO,a16]at h;obtain⟨d,g,f⟩:=h;obtain⟨k,a⟩:=b3G hc (by rw[hl];exact hs.1) g;simp only[b1y];rw[c6c l k (by omega) hs.2 f];exact c8B hc (by rw[hl];exact hs.1) g
def b9G:Option (List (List Int))→List (List Int)×Int
 |some r=>(r,0)
 |none=>([],6)
theorem c6d{n N:Nat}(a:n≤5000){l:List a0J}(m:l.length≤16)(j:l.all (a2C (N:Int))=true):∀(k i:Nat)(c:List (List Int)),i+k=l.length→a3w c n→c.length=N→
  y0s a8u (l,(l.length:Int),(i:Int),c,())=some (match doO (l.drop i) c with|some r=>Sum.inl (r,())|none=>Sum.inr ([],6,()))
 |0,i,c,h,_,_=>by
  obtain rfl:i=l.length:=by omega
  rw[List.drop_length];exact a0E (by simp only[a8u,dge,cF];rfl)
 |k+1,i,c,h,hc,hcl=>by
  have hi:i<l.length:=by omega
  rw[List.drop_eq_getElem_cons hi];have d:a2C (c.length:Int) l[i]=true:=by grind
  obtain⟨b,g,e,f⟩:=c4O hc a d (sign:=1) (.inl rfl);simp[doO];cases hst:a3P 1 l[i] c with
  |none=>
   simp_all[a0E,a8u,a0D]
  |some r=>
   rw[hst]at f;obtain⟨rfl,rfl⟩:=f;obtain⟨o,p⟩:=b3G hc d hst;rw[a0F (s':=(l,(l.length:Int),((i+1:Nat):Int),g,())) (by
    simp only[a8u,dlt hi,cT,a0D hi,oB,e,bT,cF,a0B (show i<1000000 by omega)])]
   rw[c6d a m j k (i+1) g (by omega) o (by omega)];rfl
theorem c3G(c:List (List Int))(l:List a0J):b2M (c,l)=some (if a2L c∧a5k l (c.length:Int)then b9G (doO l c)else([],1)):=by
 unfold b2M;simp only[c2k,oB]
 by_cases hq:a2L c
 have h:=c6b hq;simp only[hq,decide_true,bT,cF,b5C,oB,true_and]
 by_cases hm:a5k l (c.length:Int)
 simp[hm];rw[c2Y h (by have:=hq.2.2.1;omega) (by have:=hq.2.1;omega)]
 have:=c6d (N:=c.length) (by have:=hq.2.2.1;omega:(c.headD []).length≤5000) hm.2.2.1 hm.2.2.2 l.length 0 c (by omega) h rfl
 simp at this
 simp
 erw[this]
 cases doO l c<;>rfl;simp_all;simp_all
theorem c1u(s:a0J):∀(l:List a0J)(c:List (List Int)),b1y (l++[s]) c=(a3P (-1) s c).bind (b1y l)
 | [],c=>by
  show a3P (-1) s c=_;cases a3P (-1) s c<;>rfl
 |t::l,c=>by
  simp only[a56,b1y,c1u s l];cases a3P (-1) s c<;>rfl
theorem c2Z{n N:Nat}(g:n≤5000){l:List a0J}(i:l.all (a2C (N:Int))=true)(z:List (List Int))(e:Int):∀(k:Nat)(c:List (List Int)),k≤l.length→a3w c n→c.length=N→
  match b1y (l.take k) c with
  |some r=>l0f a6v l k (l,z,e,c,())=some (.inl (l,z,e,r,()))
  |none=>∃d,l0f a6v l k (l,z,e,c,())=some (.inr (.ret,l,[],6,d,()))
 |0,c,_,_,_=>rfl
 |k+1,c,hk,hc,hcl=>by
  have hi:k<l.length:=by omega
  have f:a2C (c.length:Int) l[k]=true:=by grind
  obtain⟨b,a,m,h⟩:=c4O hc g f (sign:=-1) (.inr rfl);rw[List.take_succ_eq_append_getElem hi,c1u];cases hst:a3P (-1) l[k] c with
  |none=>
   simp_all[l0f,a6v]
  |some r=>
   rw[hst]at h;obtain⟨rfl,rfl⟩:=h;obtain⟨j,p⟩:=b3G hc f hst;have o:=c2Z g i z e k a (by omega) j (by omega);simp_all[l0f,a6v]
theorem d1Y(c:List (List Int))(l:List a0J):b2k (c,l)=some (if a2L c∧a5k l (c.length:Int)then b9G (b1y l c)else([],1)):=by
 unfold b2k;simp only[c2k,oB]
 by_cases hq:a2L c
 ·have h:=c6b hq;simp only[hq,decide_true,bT,cF,b5C,oB,true_and]
  by_cases hm:a5k l (c.length:Int)
  ·simp[hm];rw[c2Y h (by have:=hq.2.2.1;omega) (by have:=hq.2.1;omega)]
   have:=c2Z (N:=c.length) (by have:=hq.2.2.1;omega:(c.headD []).length≤5000) hm.2.2.2 [] 0 l.length c (a38 _) h rfl
   rw[a57]at this;simp[a0S (show l.length<2147483648 by have:=hm.2.2.1;omega)];cases hu:b1y l c with
   |some r=>
    rw[hu]at this;simp only at this
    erw[this]
    rfl
   |none=>
    rw[hu]at this;obtain⟨d,g⟩:=this
    erw[g]
    rfl
  simp_all
 simp_all
def a0T(b:a1l):Nat:=(b.2.1.headD []).length
theorem a6L(b:a1l):a4r b=some ((a0T b:Nat):Int):=by
 unfold a4r a0T;obtain⟨d,c,u⟩:=b;cases c with
 |nil=>rfl
 |cons r c=>
  rfl
def a2S(b:a1l):Prop:=4≤b.1∧b.1≤24∧1≤b.2.1.length∧b.2.1.length≤8∧1≤a0T b∧a0T b≤4096∧b.2.1.all (fun r=>decide (r.length=a0T b)&&r.all fun x=>a1i x b.1)=true
instance (b:a1l):Decidable (a2S b):=by unfold a2S;infer_instance
theorem b4C{x w:Int}(h:4≤w∧w≤24):a1V (x,w)=some (a1i x w):=by
 have:=a6I (x:=x) (w:=w.toNat) (by omega)
 grind
theorem a8F(b:a1l):a4s b=some (decide (a2S b)):=by
 unfold a4s a7l
 by_cases h1:4≤b.1
 rotate_left;rw[decide_eq_false (show ¬ a2S b from fun h=>h1 h.1),decide_eq_false h1];rfl
 by_cases h2:b.1≤24
 rotate_left;rw[decide_eq_false (show ¬ a2S b from fun h=>h2 h.2.1),decide_eq_true h1,decide_eq_false h2];rfl
 by_cases h3:((b.2.1.length:Nat):Int)<1
 rw[decide_eq_false (show ¬ a2S b from fun h=>by have:=h.2.2.1;omega),decide_eq_true h1,decide_eq_true h2,decide_eq_true h3];rfl
 by_cases h4:((b.2.1.length:Nat):Int) > 8
 rw[decide_eq_false (show ¬ a2S b from fun h=>by have:=h.2.2.2.1;omega),decide_eq_true h1,decide_eq_true h2,decide_eq_false h3,decide_eq_true h4];rfl;have a:decide (((b.2.1.length:Nat):Int)<1)=false:=by simp_all
 have c:decide (((b.2.1.length:Nat):Int) > 8)=false:=by simp_all
 simp only[decide_eq_true h1,decide_eq_true h2,a,c,cT,cF,oB,bT,a6L]
 by_cases h5:((a0T b:Nat):Int)<1
 rw[decide_eq_false (show ¬ a2S b from fun h=>by have:=h.2.2.2.2.1;omega),decide_eq_true h5];rfl
 by_cases h6:((a0T b:Nat):Int) > 4096
 rw[decide_eq_false (show ¬ a2S b from fun h=>by have:=h.2.2.2.2.2.1;omega),decide_eq_false h5,decide_eq_true h6];rfl;have d:decide (((a0T b:Nat):Int)<1)=false:=by simp_all
 have l:decide (((a0T b:Nat):Int) > 4096)=false:=by simp_all
 simp[d,l];have g:∀(i:Nat)(r:List Int),short r→y0s a4x (b.2.1,(b.2.1.length:Int),(i:Int),r,(r.length:Int),(0:Int),b,())=some (bif r.all (fun x=>a1i x b.1)then Sum.inl (b.2.1,(b.2.1.length:Int),(i:Int),b,())else Sum.inr (false,())):=fun i r m=>by
  have:=a1T (f:=a4x) r (fun j=>(b.2.1,(b.2.1.length:Int),(i:Int),r,(r.length:Int),(j:Int),b,())) (fun x=>a1i x b.1) (bt:=Sum.inl (b.2.1,(b.2.1.length:Int),(i:Int),b,())) (bf:=Sum.inr (false,()))
   (fun j h hp=>by simp only[a4x,dlt h,cT,a0D h,oB,b4C ⟨h1,h2⟩,hp,bT,cF,a0B (a07 h m)])
   (fun j h hp=>by simp_all[a4x,a0D,b4C])
   (by simp_all[a4x])
  omega
 have k:=a1T (f:=a4y) b.2.1 (fun i=>(b.2.1,(b.2.1.length:Int),(i:Int),b,())) (fun r=>decide (r.length=a0T b)&&r.all fun x=>a1i x b.1) (bt:=Sum.inl ()) (bf:=Sum.inr (false,()))
  (fun i h hp=>by
   simp only[bA,dT]at hp;have e:((((b.2.1[i]).length:Nat):Int) != ((a0T b:Nat):Int))=false:=by simp_all
   have hi:=g i b.2.1[i] (by unfold short;omega);rw[hp.2,cT]at hi;simp only[a4y,dlt h,cT,a0D h,oB,a6L,e,cF,hi,a0B (show i<1000000 by omega)])
  (fun i h hp=>by
   by_cases hl:(b.2.1[i]).length=a0T b
   have e:((((b.2.1[i]).length:Nat):Int) != ((a0T b:Nat):Int))=false:=by simp_all
   have hi:=g i b.2.1[i] (by unfold short;omega);rw[decide_eq_true hl,a54]at hp;rw[hp,cF]at hi;simp_all[a4y,a0D,a6L];have e:((((b.2.1[i]).length:Nat):Int) != ((a0T b:Nat):Int))=true:=by grind
   simp only[a4y,dlt h,cT,a0D h,oB,a6L,e])
  (by simp_all[a4y])
 simp at k;rw[k]
 by_cases hA:b.2.1.all (fun r=>decide (r.length=a0T b)&&r.all fun x=>a1i x b.1)=true
 rw[hA,decide_eq_true (show a2S b from⟨h1,h2,by omega,by omega,by omega,by omega,hA⟩)];rfl;rw[a79.2 hA,decide_eq_false (show ¬ a2S b from fun h=>hA h.2.2.2.2.2.2)];rfl
def a7X{α β:Type}(g:α→Option β):List α→Option (List β)
 | []=>some []
 |a::l=>(g a).bind fun b=>(a7X g l).bind fun r=>some (b::r)
theorem b9H{α β:Type}{g:α→Option β}:∀{l:List α}{r:List β},a7X g l=some r→r.length=l.length
 | [],r,h=>by cases h;rfl
 |a::l,r,h=>by
  simp only[a7X,a16]at h;obtain⟨b,-,c,f,k⟩:=h;cases k;simp[b9H f]
theorem c3a{α β:Type}{g:α→Option β}:∀{l:List α}{r:List β},a7X g l=some r→∀a∈l,(g a).isSome=true
 | [],r,h,a,ha=>by cases ha
 |a::l,r,h,x,hx=>by
  simp only[a7X,a16]at h;obtain⟨b,f,d,k,c⟩:=h;rcases mC.1 hx with rfl|hx;rw[f];rfl;exact c3a k x hx
def a9J(f:a1b):Option a1l:=
 if frP f∧((f.2.2.2.2.1.length:Nat):Int)=f.2.2.1.2.1 then
  (a7X (fun s=>a2m s f.2.1) f.2.2.2.2.1).bind fun rs=>
   if a2L rs∧a5k f.2.2.2.1 (rs.length:Int)then
    (b1y f.2.2.2.1 rs).bind fun ch=>if a2S (f.2.2.1.2.2.1,ch,())then some (f.2.2.1.2.2.1,ch,())else none
   else none
 else none
def b2S:a1l:=(0,[],())
def d7T:Option a1l→a1l×Int
 |some b=>(b,0)
 |none=>(b2S,1)
theorem b9g(f:a1b)(all:List Sub)(i:all.length≤8):∀(rest done:List Sub)(rows:List (List Int)),done++rest=all→rows.length=done.length→(∀s∈rest,SmallS s)→
  y0s a4N (all,(all.length:Int),(done.length:Int),rows,b2S,f,())=some (match a7X (fun s=>a2m s f.2.1) rest with|some rs=>Sum.inl (rows++rs,b2S,f,())|none=>Sum.inr (1,b2S,()))
 | [],done,rows,hd,hr,_=>by
  have e:done=all:=by simpa using hd
  subst e;rw[a0E (b:=Sum.inl (rows,b2S,f,())) (by simp only[a4N,dge,cF])];simp[a7X]
 |s::rest,done,rows,hd,hr,h=>by
  have j:=h s (by simp);have k:done.length<all.length:=by rw[←hd];simp
  have a:m0k all (done.length:Int)=some s:=by rw[a0D k];subst hd;simp
  have g:=c0N j f.2.1;simp only[a7X];cases ho:a2m s f.2.1 with
  |none=>
   rw[ho]at g;have d:((1:Int) != 0)=true:=rfl;exact a0E (by simp only[a4N,dlt k,cT,a,oB,g,d];rfl)
  |some r=>
   rw[ho]at g;have c:((0:Int) != 0)=false:=rfl;rw[a0F (s':=(all,(all.length:Int),(((done++[s]).length:Nat):Int),rows++[r],b2S,f,())) (by
    simp only[a4N,dlt k,cT,a,oB,g,c,cF,a0S (show rows.length+1<2147483648 by omega),a0B (show done.length<1000000 by omega)]
    simp)]
   rw[b9g f all i rest (done++[s]) (rows++[r]) (by simpa using hd) (by simp[hr]) (fun t l=>h t (by simp[l]))];simp only[oB];cases a7X (fun s=>a2m s f.2.1) rest<;>simp
theorem b9I{f:a1b}(b:∀s∈f.2.2.2.2.1,SmallS s):a2A f=some (d7T (a9J f)):=by
 unfold a2A a9J;simp only[b6d,oB]
 by_cases hf:frP f
 rotate_left;simp only[hf,decide_false,a35,cT,oB,false_and,if_false];rfl
 by_cases hl:((f.2.2.2.2.1.length:Nat):Int)=f.2.2.1.2.1
 rotate_left;have e:(((f.2.2.2.2.1.length:Nat):Int) != f.2.2.1.2.1)=true:=by simpa using hl
 simp only[hf,decide_true,bT,cF,oB,e,cT,hl,and_false,if_false];rfl;have e:(((f.2.2.2.2.1.length:Nat):Int) != f.2.2.1.2.1)=false:=by simpa using hl
 have a:f.2.2.2.2.1.length≤8:=by have:=hf.1.2.2.2.1;omega
 have k:decide ((0:Int)≤((f.2.2.2.2.1.length:Nat):Int))=true:=by simp
 have h:=b9g f f.2.2.2.2.1 a f.2.2.2.2.1 [] [] rfl rfl b;rw[a19]at h;rw[if_pos ⟨hf,hl⟩];simp only[hf,decide_true,bT,cF,oB,e,k,tN,a0S (show f.2.2.2.2.1.length<2147483648 by omega),a01,cT]
 erw[h]
 cases hm:a7X (fun s=>a2m s f.2.1) f.2.2.2.2.1 with
 |none=>rfl
 |some rs=>
  simp only[oB,a18,d1Y]
  by_cases hq:a2L rs∧a5k f.2.2.2.1 (rs.length:Int)
  ·simp only[if_pos hq];cases hu:b1y f.2.2.2.1 rs with
   |none=>rfl
   |some ch=>
    have g:((0:Int) != 0)=false:=rfl;simp only[b9G,g,cF,a8F,oB]
    by_cases hb:a2S (f.2.2.1.2.2.1,ch,())
    simp only[hb,decide_true,bT,cF,if_true];rfl;simp only[hb,decide_false,a35,cT,if_false];rfl
  simp only[if_neg hq];rfl
theorem d3x{f:a1b}(h:∀s∈f.2.2.2.2.1,SmallS s):a4u f=some (a9J f).isSome:=by
 unfold a4u;rw[b9I h];cases a9J f<;>rfl
theorem b4D{f:a1b}{b:a1l}(h:a9J f=some b):frP f∧((f.2.2.2.2.1.length:Nat):Int)=f.2.2.1.2.1∧∀s∈f.2.2.2.2.1,(a2m s f.2.1).isSome=true:=by
 unfold a9J at h
 split at h
 rename_i g;simp only[a16]at h;obtain⟨a,k,-⟩:=h;exact⟨g.1,g.2,c3a k⟩;cases h
theorem c1v{f:a1b}{b:a1l}(k:∀s∈f.2.2.2.2.1,SmallS s)(h:a9J f=some b):∃L,L.length≤5600000∧some ((L.length:Nat):Int)=f.2.2.2.2.1.foldr (fun s a=>a.bind fun a=>(a4h (s,f.2.1)).bind fun c=>some (c+a)) (some 0)∧
  a2w f=some (a4Y f L,0)∧(∀R:List Int,R.length≤200000000→a6x (a4Y f L++R)=some (f,((a4Y f L).length:Int),(0:Int))):=by
 obtain⟨g,j,l⟩:=b4D h;have d:a4u f=some true:=by rw[d3x k,h];rfl
 have m:f.2.2.2.2.1.length≤8:=by have:=g.1.2.2.2.1;omega
 obtain⟨t,o,p,i,q,r⟩:=c4N d g m (fun s e=>⟨k s e,l s e⟩);exact⟨a0M t,i,q,r,fun R n=>c3B d g j o p i n⟩
theorem b9J(x:a0J):eqT (.pair (.int .i64) (.pair (.int .i64) (.pair (.int .i64) .unit))) x x=true:=by
 show((x.1==x.1)&&((x.2.1==x.2.1)&&((x.2.2.1==x.2.2.1)&&true)))=true
 simp
theorem b7Y{x w:Int}(h:4≤w∧w≤24):b2O (x,w)=some (a1i x w):=by
 have:=c5w (x:=x) (w:=w.toNat) (by omega)
 grind
theorem d1Z{x w:Int}(b:4≤w∧w≤24)(h:a1i x w=true):-16777216≤x∧x≤16777216:=by
 unfold a1i at h;simp at h;obtain⟨-,-,f,g⟩:=h;obtain⟨o,k⟩:∃o:Nat,w-1=(o:Int):=⟨(w-1).toNat,by omega⟩;rw[k]at f g;rw[c4o (by omega)]at g;have hp:2^o≤2^24:=a41 (by omega) (by omega);have a:A0n .i64 (-1) (o:Int)=wrap .i64 (-((2^o:Nat):Int)):=by
  unfold A0n;show wrap .i64 (-1*2^(min (o:Int).toNat 64))=_
  grind
 grind[a0C]
theorem c8C{x w:Int}(g:4≤w∧w≤24)(h:a1i x w=true):a0A x=true:=a1J.2 (by have:=d1Z g h;omega)
theorem b6K{b:a1l}(h:a2S b):a3w b.2.1 (a0T b)∧a2L b.2.1:=by
 obtain⟨k,a,c,d,e,i,g⟩:=h;have j:a3w b.2.1 (a0T b):=fun r f=>by
  have:=lA.1 g r f
  simp only[bA,dT]at this
  grind[c8C]
 grind[b9F]
theorem c7x{b:a1l}(hb:a2S b){l:List a0J}(c:a5k l (b.2.1.length:Int)){rows:List (List Int)}(n:doO l b.2.1=some rows){ss:List Sub}(q:a7X (fun s=>a2m s ((a0T b:Nat):Int)) ss=some rows)
  {start rate:Int}(h:0≤start∧start≤4194304-((a0T b:Nat):Int))(p:1≤rate∧rate≤1048576):
  a9J (start,((a0T b:Nat):Int),(rate,((b.2.1.length:Nat):Int),b.1,()),l,ss,())=some b:=by
 obtain⟨m,y⟩:=b6K hb;obtain⟨x,z⟩:=b3Q l m rfl c.2.2.2 n;have o:=b9H q;obtain⟨e,i,r,t,u,j,v⟩:=hb;have a:frP (start,((a0T b:Nat):Int),(rate,((b.2.1.length:Nat):Int),b.1,()),l,ss,()):=⟨⟨p.1,p.2,by grind,by grind,e,i⟩,by grind,by grind,h.1,h.2,c⟩;have k:((ss.length:Nat):Int)=((b.2.1.length:Nat):Int):=by omega
 have g:a2L rows:=b9F x (by omega) (by omega) j;have d:a5k l ((rows.length:Nat):Int):=by simp_all
 have w:=c6c l m rfl c.2.2.2 n;have f:((b.1,b.2.1,()):a1l)=b:=rfl;unfold a9J;rw[if_pos ⟨a,k⟩];simp only[q,oB];rw[if_pos ⟨g,d⟩,w];simp only[oB,f];rw[if_pos ⟨e,i,r,t,u,j,v⟩]
def c1w:a1b:=(0,0,(0,0,0,()),[],[],())
theorem d3y(k:Nat)(a:k≤62)(y:Int):∃v:Nat,bits .i64 .and y ((2^k-1:Nat):Int)=(v:Int)∧v<2^k:=by
 have hp:2^k≤2^62:=a41 (by omega) a;have f:0<2^k:=Nat.pow_pos (by omega);have h:((a00 64 y) &&& (a00 64 ((2^k-1:Nat):Int))).toNat=(a00 64 y).toNat%2^k:=by
  rw[a39];have e:(a00 64 ((2^k-1:Nat):Int)).toNat=2^k-1:=by
   rw[a22];generalize 2^k=p at *;omega
  rw[e,a29]
 have g:=a20 (a00 64 y).toNat f;refine⟨(a00 64 y).toNat%2^k,?_,g⟩;show wrap .i64 ((((a00 64 y) &&& (a00 64 ((2^k-1:Nat):Int))).toNat:Nat):Int)=_;rw[h];generalize (a00 64 y).toNat%2^k=z at *;exact a0C (by omega)
theorem c1x(c:List (List Int))(n i:Int){r:List Int}(a:short r):∀(k j:Nat)(s:Int),2≤j→j+k=r.length∨(k=0∧r.length≤j)→∃s',y0s a7b (s,r,(j:Int),c,n,i,())=some (s',c,n,i,())
 |0,j,s,h2,h=>⟨s,a0E (by
   have d:decide ((j:Int)<(r.length:Int))=false:=by grind
   simp only[a7b,d,cF])⟩
 |k+1,j,s,h2,h=>by
  have f:j<r.length:=by omega
  unfold short at a;have b:wrap .i64 ((j:Int)-1)=((j-1:Nat):Int):=by grind[a0C]
  have e:wrap .i64 ((j:Int)-2)=((j-2:Nat):Int):=by grind[a0C]
  have m:=a0D (l:=r) (i:=j-1) (by omega);have o:=a0D (l:=r) (i:=j-2) (by omega);obtain⟨s',g⟩:=c1x c n i a k (j+1) (wrap .i64 (s+v0r (wrap .i64 (wrap .i64 (r[j]-wrap .i64 (2*r[j-1]))+r[j-2])) (wrap .i64 (0-wrap .i64 (wrap .i64 (r[j]-wrap .i64 (2*r[j-1]))+r[j-2]))))) (by omega) (by omega);refine⟨s',?_⟩;rw[←g];exact a0F (by simp only[a7b,dlt f,cT,a0D f,oB,b,e,m,o,a0B (show j<1000000 by omega)])
theorem c3b{c:List (List Int)}{n:Nat}(h:a3w c n)(m:n≤4096)(l:c.length<1000):∃w,a7w c=some w:=by
 unfold a7w;simp only[c2k,oB]
 by_cases hq:a2L c
 rotate_left;simp_all;simp[hq];have f:∀(k i:Nat)(s:Int),i+k=c.length→∃s',y0s a7c (s,c,(c.length:Int),(i:Int),())=some (s',()):=by
  intro k
  induction k with
  |zero=>
   intro i s hi;obtain rfl:i=c.length:=by omega
   simp_all[a0E,a7c]
  |succ k ih=>
   intro i s hi;have g:i<c.length:=by omega
   have o:=(h _ (a25 g)).1;obtain⟨e,a⟩:=c1x c (c.length:Int) (i:Int) (r:=c[i]) (by unfold short;omega) (c[i].length-2) 2 s (a38 _) (by omega);obtain⟨j,b⟩:=ih (i+1) e (by omega);refine⟨j,?_⟩;rw[←b];rw[show((2:Nat):Int)=2 from rfl]at a;exact a0F (by simp only[a7c,dlt g,cT,a0D g,oB,a,a0B (show i<1000000 by omega)])
 obtain⟨s',d⟩:=f c.length 0 0 (by omega);simp_all
def a4Z(m:Nat):List a0J:=match m with
 | 1=>[(0,1,-256,())]
 | 2=>[(1,0,-256,())]
 | 3=>[(1,0,-256,()),(0,1,128,())]
 | 4=>[(1,0,-106,()),(0,1,181,()),(1,0,-106,())]
 |_=>[]
theorem b9K{m:Nat}(h:m≤4):b1f (m:Int)=some (a4Z m):=by
 match m,h with
 |0,_=>rfl
 | 1,_=>rfl
 | 2,_=>rfl
 | 3,_=>rfl
 | 4,_=>rfl
theorem c3c{m:Nat}(h:m≤4):a5k (a4Z m) 2:=by
 match m,h with
 |0,_=>decide
 | 1,_=>decide
 | 2,_=>decide
 | 3,_=>decide
 | 4,_=>decide
theorem b5b{p:List (List Int)}{n:Nat}(hp:a3w p n)(a:p.length=2)(g:a2L p)(f:n≤4096):∀(k m best:Nat)(least:Int),m+k=5→best≤4→(doO (a4Z best) p).isSome=true→
  ∃best',y0s a6y (p,(best:Int),least,(m:Int),())=some (((best':Nat):Int),())∧best'≤4∧(doO (a4Z best') p).isSome=true
 |0,m,best,least,hm,hb,hd=>by
  obtain rfl:m=5:=by omega
  exact⟨best,a0E rfl,hb,hd⟩
 |k+1,m,best,least,hm,hb,hd=>by
  have d:decide ((m:Int)<5)=true:=by grind
  have c:wrap .i64 ((m:Int)+1)=((m+1:Nat):Int):=a0B (by omega);have h:a5k (a4Z m) (p.length:Int):=by grind[c3c]
  cases hdo:doO (a4Z m) p with
  |none=>
   have i:((6:Int) != 0)=true:=rfl;rw[a0F (s':=(p,(best:Int),least,((m+1:Nat):Int),())) (by
    simp only[a6y,d,cT,b9K (show m≤4 by omega),oB,c3G,if_pos (show a2L p∧a5k (a4Z m) (p.length:Int)from⟨g,h⟩),hdo,b9G,i,c])]
   exact b5b hp a g f k (m+1) best least (by omega) hb hd
  |some r=>
   have e:((0:Int) != 0)=false:=rfl;obtain⟨j,l⟩:=b3Q (a4Z m) hp rfl h.2.2.2 hdo
   obtain⟨w,b⟩:=c3b j f (by omega);have step:a6y (p,(best:Int),least,(m:Int),())=bif decide (w<least)then some (.inl (p,(m:Int),w,((m+1:Nat):Int),()))else some (.inl (p,(best:Int),least,((m+1:Nat):Int),())):=by
    simp only[a6y,d,cT,b9K (show m≤4 by omega),oB,c3G,if_pos (show a2L p∧a5k (a4Z m) (p.length:Int)from⟨g,h⟩),hdo,b9G,e,cF,b,c]
   cases hlt:decide (w<least)with
   |true=>
    rw[hlt]at step;rw[a0F step];exact b5b hp a g f k (m+1) m w (by omega) (by omega) (by simp_all)
   |false=>
    rw[hlt]at step;rw[a0F step];exact b5b hp a g f k (m+1) best least (by omega) hb hd
theorem d2a{p:List (List Int)}{n:Nat}(hp:a3w p n)(g:p.length=2)(h:n≤4096):∃m,m≤4∧b2q p=some (a4Z m)∧(doO (a4Z m) p).isSome=true:=by
 have k:=b9F hp (by omega) (by omega) h;obtain⟨w,c⟩:=c3b hp h (by omega);obtain⟨m,a,f,b⟩:=b5b hp g k h 4 1 0 w rfl (by omega) rfl
 grind[b2q,b9K]
def b2T(i:Nat)(s:a0J):a0J:=(s.1+(i:Int),s.2.1+(i:Int),s.2.2.1,())
theorem c9V{i N:Nat}(h:i+2≤N){s:a0J}(k:a2C 2 s=true):a2C (N:Int) (b2T i s)=true:=by
 obtain⟨a1,a,b,c,d,g,f⟩:=a3c.1 k;exact a3c.2 ⟨by show 0≤s.1+(i:Int);omega,by show s.1+(i:Int)<(N:Int);omega,by show 0≤s.2.1+(i:Int);omega,by show s.2.1+(i:Int)<(N:Int);omega,by show s.1+(i:Int)≠s.2.1+(i:Int);omega,g,f⟩
def c3H(i:Nat)(c c' p:List (List Int)):Prop:=c'.length=c.length∧p.length=2∧c'.getD i []=p.getD 0 []∧c'.getD (i+1) []=p.getD 1 []∧∀j,j≠i→j≠i+1→c'.getD j []=c.getD j []
theorem c7y{i:Nat}{c0 c p p':List (List Int)}(hi:i+2≤c0.length)(h:c3H i c0 c p){s:a0J}(m:a2C 2 s=true)(g:a3P 1 s p=some p'):∃c',a3P 1 (b2T i s) c=some c'∧c3H i c0 c' p':=by
 obtain⟨w,y,z,A,B⟩:=h;obtain⟨a1,f,k,a,o,q,t⟩:=a3c.1 m;unfold a3P at g⊢;simp only at g⊢;have key:∀x:Int,0≤x→x<2→c.getD (x+(i:Int)).toNat []=p.getD x.toNat []:=fun x D n=>by
  grind
 have u:=key s.1 a1 f;have v:=key s.2.1 k a;simp only[b2T];have l:b0H 1 s.2.2.1 (c.getD (s.1+(i:Int)).toNat []) (c.getD (s.2.1+(i:Int)).toNat [])=b0H 1 s.2.2.1 (p.getD s.1.toNat []) (p.getD s.2.1.toNat []):=by simp_all
 simp only[l]
 split at g
 rename_i b;cases g;rw[if_pos b];generalize b0H 1 s.2.2.1 (p.getD s.1.toNat []) (p.getD s.2.1.toNat [])=r at *;refine⟨_,rfl,by grind,by grind,?_,?_,fun j C d=>?_⟩
 have:s.2.1=0∨s.2.1=1:=by omega
 rcases this with e|e;rw[e,show((0:Int)+(i:Int)).toNat=i from by omega,a7S _ (by omega),show(0:Int).toNat=0 from rfl,a7S _ (by omega)];rw[e,show((1:Int)+(i:Int)).toNat=i+1 from by omega,b2G _ (by omega),show(1:Int).toNat=1 from rfl,b2G _ (by omega)];omega
 have:s.2.1=0∨s.2.1=1:=by omega
 rcases this with e|e;simp_all;rw[e,show((1:Int)+(i:Int)).toNat=i+1 from by omega,a7S _ (by omega),show(1:Int).toNat=1 from rfl,a7S _ (by omega)];rw[b2G _ (by omega)];simp_all;simp_all
theorem c4Q{i:Nat}{c0:List (List Int)}(hi:i+2≤c0.length):∀(l:List a0J){c p p':List (List Int)},l.all (a2C 2)=true→c3H i c0 c p→doO l p=some p'→∃g,doO (l.map (b2T i)) c=some g∧c3H i c0 g p'
 | [],c,p,p',_,h,hd=>by cases hd;exact⟨c,rfl,h⟩
 |s::l,c,p,p',hl,h,hd=>by
  simp only[a33,bA]at hl;simp[doO,a16]at hd;obtain⟨q,f,k⟩:=hd;obtain⟨d,a,b⟩:=c7y hi h hl.1 f;obtain⟨g,j1,j2⟩:=c4Q hi l hl.2 b k;exact⟨g,by simp only[a23,doO,a,oB];exact j1,j2⟩
theorem c6e:∀(l m:List a0J)(c:List (List Int)),doO (l++m) c=(doO l c).bind (doO m)
 | [],m,c=>rfl
 |s::l,m,c=>by
  simp only[a56,doO];cases a3P 1 s c with
  |none=>rfl
  |some d=>exact c6e l m d
theorem c8D{α β:Type}(f:α→β):∀l:List α,l.flatMap (fun x=>[f x])=l.map f
 | []=>rfl
 |x::l=>by simp[c8D f l]
theorem c5K(b:a1l)(first:Nat)(s:first≤100){y:List a0J}(d:y.all (a2C 2)=true)(r:y.length≤10)(out:List a0J)(t:out.length≤1000):
  y0s a6z ((first:Int),(y.length:Int),(0:Int),out,y,b,())=some ((first:Int),out++y.map (b2T first),b,()):=by
 have:=a1S (f:=a6z) (β:=Int×(List a0J×(a1l×Unit))) y (fun i (a:List a0J)=>((first:Int),(y.length:Int),(i:Int),a,y,b,())) (fun a x=>.inl (a++[b2T first x])) (fun i a=>a.length=out.length+i) (fun a=>((first:Int),a,b,()))
  (fun i hi a k=>⟨fun e h=>by
   simp at h;subst h;obtain⟨a1,j,l,m,o,p,q⟩:=a3c.1 (lA.1 d _ (a25 hi));have g:decide ((0:Int)≤(i:Int))=true:=by simp
   have c:a88 y (a30 (i:Int)) ((0:Int),(0:Int),(0:Int),())=y[i]:=by simp_all
   refine⟨?_,by grind⟩;simp only[a6z,dlt hi,cT,g,a01,a0S (show a.length+1<2147483648 by omega),c,a0B (show i<1000000 by omega),a66];rw[a0C (n:=y[i].1+(first:Int)) (by omega),a0C (n:=y[i].2.1+(first:Int)) (by omega)]
   rfl,fun b hb=>by grind⟩)
  (fun a k=>by simp_all[a6z]) (a:=out) (by simp)
 simp_all[b4A,a9q,c8D]
theorem d5g{c:List (List Int)}{i:Nat}(h:i+2≤c.length):a53 i (a42 (i+2) c)=[c.getD i [],c.getD (i+1) []]:=by
 apply List.ext_getElem?;intro j;rw[a73]
 grind
theorem c1y{b:a1l}{n:Nat}(o:a3w b.2.1 n)(p:n≤4096)(z:b.2.1.length≤8):∀(k j:Nat)(out:List a0J)(c:List (List Int)),j+k=5→out.length≤3*j→out.all (a2C (b.2.1.length:Int))=true→doO out b.2.1=some c→(∀i,2*j≤i→c.getD i []=b.2.1.getD i [])→3*j≤12∨b.2.1.length≤2*j→
  ∃l f,y0s a8Q (((2*j:Nat):Int),out,b,())=some (l,())∧l.length≤16∧l.all (a2C (b.2.1.length:Int))=true∧doO l b.2.1=some f
 |k,j,out,c,hk,hol,hob,hdo,hag,h12=>by
  have g:wrap .i64 (((2*j:Nat):Int)+1)=((2*j+1:Nat):Int):=by grind[a0C]
  by_cases hlt:2*j+1<b.2.1.length
  ·cases k with
   |zero=>omega
   |succ k=>
    have e:wrap .i64 (((2*j:Nat):Int)+2)=((2*j+2:Nat):Int):=by grind[a0C]
    have hp:a3w [b.2.1.getD (2*j) [],b.2.1.getD (2*j+1) []] n:=fun r q=>by
     simp only[mC,a40,or_false]at q;rcases q with rfl|rfl
     all_goals grind[a8E]
    obtain⟨m,u,N,E⟩:=d2a hp rfl p;obtain⟨p',d⟩:=Option.isSome_iff_exists.1 E;have h:=(c3c u).2.2.2;have C:(a4Z m).length≤3:=by
     match m,u with
     |0,_=>decide
     | 1,_=>decide
     | 2,_=>decide
     | 3,_=>decide
     | 4,_=>decide
    have A:c.length=b.2.1.length:=(b3Q out o rfl hob hdo).2;obtain⟨f,F,G,H,I,K,L⟩:=c4Q (i:=2*j) (c0:=c) (by omega) (a4Z m) h ⟨rfl,rfl,hag _ (a38 _),hag _ (by omega),fun _ _ _=>rfl⟩ d;have B:=c5K b (2*j) (by omega) h (by omega) out (by omega);have a:decide (((2*j+1:Nat):Int)<((b.2.1.length:Nat):Int))=true:=by grind
    have v:decide ((0:Int)≤((2*j+2:Nat):Int))=true:=by rfl
    have w:decide (((2*j+2:Nat):Int)≤((b.2.1.length:Nat):Int))=true:=by grind
    have x:decide ((0:Int)≤((2*j:Nat):Int))=true:=by rfl
    have y:decide (((2*j:Nat):Int)≤((2*j+2:Nat):Int))=true:=by grind
    rw[a0F (s':=(((2*(j+1):Nat):Int),out++(a4Z m).map (b2T (2*j)),b,())) (by
     simp only[a8Q,g,a,cT,e,v,w,a01,tN,x,y]
     grind[d5g])]
    refine c1y o p z k (j+1) (out++(a4Z m).map (b2T (2*j))) f (by omega) (by grind) ?_ (by simp_all[c6e]) (fun i hi=>by grind) (by omega);rw[List.all_append,hob,a54,lA];intro s D;obtain⟨t,M,rfl⟩:=a45.1 D
    grind[c9V]
  refine⟨out,c,a0E ?_,by omega,hob,hdo⟩;have a:decide (((2*j+1:Nat):Int)<((b.2.1.length:Nat):Int))=false:=by grind
  simp only[a8Q,g,a,cF]
termination_by k=>k
theorem c4R{b:a1l}(hb:a2S b):∃l h,a7O b=some l∧a5k l (b.2.1.length:Int)∧doO l b.2.1=some h:=by
 obtain⟨c,-⟩:=b6K hb;have a:=hb.2.2.2.1;obtain⟨l,h,d,g,f,k⟩:=c1y c hb.2.2.2.2.2.1 a 5 0 [] b.2.1 rfl (by simp) rfl rfl (fun _ _=>rfl) (by omega);refine⟨l,h,?_,⟨by have:=hb.2.2.1;omega,by omega,g,f⟩,k⟩;unfold a7O;simp[a8F,decide_eq_true hb];simp_all
theorem c9W{r:List Int}{n:Nat}(h:r.length=n∧r.all a0A=true)(a:1≤n)(b:n≤256){k:Int}(f:0≤k)(c:k≤3):
  ∃s,a5K (r,k)=some (s,0)∧SmallS s∧a2m s (n:Int)=some r∧a5h s (n:Int)≤((13+a0I r*n:Nat):Int):=by
 obtain⟨e,g⟩:=h;have d:=a7i (l:=r) (by omega) g
 grind[c7o,d3t]
theorem c1z{effort:Int}(g:0≤effort)(b:effort≤3){rows:List (List Int)}{n:Nat}(c:a3w rows n)(k:1≤n)(a:n≤256)(j:rows.length≤8)(f:a1b):∀(rest d:List (List Int)) (done:List Sub),d++rest=rows→done.length=d.length→
  ∃outs,y0s a5L (effort,rows,(rows.length:Int),(d.length:Int),c1w,a9i f done,())=some (.inl (c1w,a9i f (done++outs),()))∧a7X (fun s=>a2m s (n:Int)) outs=some rest∧(∀s∈outs,SmallS s)∧a7X (fun r=>a5K (r,effort)) rest=some (outs.map fun s=>(s,0))
 | [],d,done,hd,hdl=>by
  have e:d=rows:=by simp_all
  subst e;refine⟨[],?_,rfl,by simp,rfl⟩;simp_all[a0E,a5L]
 |r::rest,d,done,hd,hdl=>by
  have h:d.length<rows.length:=by grind
  have l:m0k rows (d.length:Int)=some r:=by grind[a0D]
  obtain⟨s,i,m,o,-⟩:=c9W (c r (by grind)) k a g b;have z0:((0:Int) != 0)=false:=rfl;have step:a5L (effort,rows,(rows.length:Int),(d.length:Int),c1w,a9i f done,())=some (.inl (effort,rows,(rows.length:Int),(((d++[r]).length:Nat):Int),c1w,a9i f (done++[s]),())):=by
   simp only[a5L,dlt h,cT,l,oB,i,z0,cF];rw[show(a9i f done).2.2.2.2.1=done from rfl,a0S (show done.length+1<2147483648 by omega),cT,a0B (show d.length<1000000 by omega)];rw[show(((d++[r]).length:Nat):Int)=((d.length+1:Nat):Int)from by simp];rfl
  rw[a0F step];obtain⟨outs,q,u,v,w⟩:=c1z g b c k a j f rest (d++[r]) (done++[s]) (by simp_all) (by simp_all);refine⟨s::outs,?_,?_,fun t p=>?_,?_⟩;simp_all;simp_all[a7X]
  grind
  simp_all[a7X]
theorem c7z{b:a1l}(hb:a2S b)(k:a0T b≤256){rate start effort:Int}(n:1≤rate∧rate≤1048576)(B:0≤start∧start≤4194304-((a0T b:Nat):Int))(y:0≤effort)(z:effort≤3):
  ∃l g outs,a2Q (b,(rate,((b.2.1.length:Nat):Int),b.1,()),start,effort)=some ((start,((a0T b:Nat):Int),(rate,((b.2.1.length:Nat):Int),b.1,()),l,outs,()),0)∧
   a5k l (b.2.1.length:Int)∧doO l b.2.1=some g∧a7X (fun s=>a2m s ((a0T b:Nat):Int)) outs=some g∧(∀s∈outs,SmallS s)∧a7X (fun r=>a5K (r,effort)) g=some (outs.map fun s=>(s,0))∧
   (effort=0→l=[])∧(0<effort→a7O b=some l):=by
 obtain⟨A,m⟩:=b6K hb;have i:=hb;obtain⟨w,x,D,E,F,G,-⟩:=i;have j:a2y (rate,((b.2.1.length:Nat):Int),b.1,()):=⟨n.1,n.2,by grind,by grind,w,x⟩;have f:∃l g,a5k l (b.2.1.length:Int)∧doO l b.2.1=some g∧(effort=0→l=[])∧(0<effort→a7O b=some l):=by
  by_cases he:effort=0
  exact⟨[],b.2.1,⟨by omega,by omega,by simp,rfl⟩,rfl,fun _=>rfl,fun h=>by omega⟩
  grind[c4R]
 obtain⟨l,g,e,d,a,c⟩:=f;obtain⟨C,H⟩:=b3Q l A rfl e.2.2.2 d;obtain⟨outs,j1,j2,j3,j4⟩:=c1z y z C (by omega) k (by omega) (start,((a0T b:Nat):Int),(rate,((b.2.1.length:Nat):Int),b.1,()),l,([]:List Sub),()) g [] [] rfl rfl;refine⟨l,g,outs,?_,e,d,j2,j3,j4,a,c⟩;have u:(b.1 != b.1)=false:=bne_self_eq_false _;have v:(((b.2.1.length:Nat):Int) != ((b.2.1.length:Nat):Int))=false:=bne_self_eq_false _;have o:decide (effort<0)=false:=by simp_all
 have p:decide (effort > 3)=false:=by simp_all
 have q:decide (start<0)=false:=by simp_all
 have t:decide (start > wrap .i64 (4194304-((a0T b:Nat):Int)))=false:=by grind[a0C]
 have z0:((0:Int) != 0)=false:=rfl;unfold a2Q;simp only[a8F,decide_eq_true hb,oB,bT,cF,a4H,decide_eq_true j,u,v,o,p,q,a6L,t];cases he:decide (effort > 0)with
 |true=>
  have:=c (by simp_all)
  simp[this,c3G,if_pos (show a2L b.2.1∧a5k l (b.2.1.length:Int)from⟨m,e⟩),d,b9G]
  erw[j1]
  rfl
 |false=>
  have:=a (by grind)
  subst this;simp only[cF,oB,c3G,if_pos (show a2L b.2.1∧a5k ([]:List a0J) (b.2.1.length:Int)from⟨m,e⟩),d,b9G,z0]
  erw[j1]
  rfl
theorem made{b:a1l}(hb:a2S b)(f:a0T b≤256){rate start effort:Int}(e:1≤rate∧rate≤1048576)(a:0≤start∧start≤4194304-((a0T b:Nat):Int))(j:0≤effort)(n:effort≤3):
  ∃g:Int×(a0J×(List a0J×(List Sub×Unit))),a2Q (b,(rate,((b.2.1.length:Nat):Int),b.1,()),start,effort)=some ((start,g),0)∧g.1=((a0T b:Nat):Int)∧g.2.1=(rate,((b.2.1.length:Nat):Int),b.1,())∧
   g.2.2.1.length≤16∧g.2.2.2.1.length≤8∧(∀s∈g.2.2.2.1,SmallS s)∧∀h,0≤h∧h≤4194304-((a0T b:Nat):Int)→a9J (h,g)=some b:=by
 obtain⟨l,i,outs,m,k,c,d,o,-⟩:=c7z hb f e a j n;obtain⟨p,-⟩:=b6K hb;have t:=b9H d;have q:=(b3Q l p rfl k.2.2.2 c).2;exact⟨_,m,rfl,rfl,k.2.2.1,by have:=hb.2.2.2.1;show outs.length≤8;omega,o,fun h r=>c7x hb k c d r e⟩
theorem d2b(y:Int):bits .i64 .and y 255=y%256:=by
 have h:((a00 64 y) &&& (a00 64 255)).toNat=(y%18446744073709551616).toNat%256:=by
  rw[a39,a22];have e:(a00 64 255).toNat=2^8-1:=by decide
  rw[e,a29];rfl
 show wrap .i64 ((((a00 64 y) &&& (a00 64 255)).toNat:Nat):Int)=_;rw[h,a0C (by omega)];omega
theorem d7U(x:Int){j:Nat}(g:j<8):A0o .i64 x ((8*j:Nat):Int)=x.fdiv (256^j):=by
 have h:min (a30 ((8*j:Nat):Int)) (IntKind.bits .i64)=8*j:=by
  simp only[tN,IntKind.bits];omega
 unfold A0o;rw[h,show(256:Int)=2^8 from rfl,←Int.pow_mul]
def smB(k:Nat)(x:Int):List Int:=leB k (x%18446744073709551616).toNat
theorem d2c(x:Int)(j:Nat)(g:j<8):((((x%18446744073709551616).toNat) / 256^j%256:Nat):Int)=x.fdiv (256^j)%256:=by
 have h:j=0∨j=1∨j=2∨j=3∨j=4∨j=5∨j=6∨j=7:=by omega
 rcases h with rfl|rfl|rfl|rfl|rfl|rfl|rfl|rfl<;>rw[a50 _ (by decide)]<;>simp only[Nat.reducePow,Int.reducePow]<;>omega
theorem b3H(k:Nat)(x:Int):(smB k x).length=k:=b1r _ _
theorem c9X(k:Nat)(h:k<8)(x:Int):smB (k+1) x=smB k x++[x.fdiv (256^k)%256]:=by
 unfold smB;rw[b9s,d2c x k h]
theorem b7Z:∀(k n:Nat),∀b∈leB k n,0≤b∧b<256
 |0,_=>by simp[leB]
 |k+1,n=>fun b hb=>by
  rcases mC.1 hb with rfl|hb;omega;exact b7Z k _ b hb
def a1c(w:Int)(l:List Int):List Int:=l.flatMap (smB ((w+7) / 8).toNat)
theorem b9L{k:Nat}{g:Int→List Int}(h:∀x,(g x).length=k):∀(l:List Int),(l.flatMap g).length=l.length*k
 | []=>by simp
 |x::l=>by
  rw[a31,lN,h,b9L h l,lC,Nat.add_mul];omega
theorem c1A{w:Int}(hw:4≤w∧w≤24)(l:List Int):(a1c w l).length≤3*l.length:=by
 unfold a1c;rw[b9L (b3H _)]
 have:((w+7) / 8).toNat≤3:=by omega
 calc l.length*((w+7) / 8).toNat≤l.length*3:=Nat.mul_le_mul_left _ this
  _=3*l.length:=a59 ..
theorem b6L(w:Int)(a b:List Int):a1c w (a++b)=a1c w a++a1c w b:=a71
theorem b8a(w:Int)(l:List Int):∀b∈a1c w l,0≤b∧b<256:=fun b hb=>by
 obtain⟨x,-,h⟩:=a81.1 hb;exact b7Z _ _ b h
theorem d2d(b x n:Int)(i:Int)(l:List Int){k:Nat}(e:k≤8)(out:List Int)(m:out.length<100000000):
  y0s a4O (b,(k:Int),x,l,n,i,(k:Int),(0:Int),out,())=some (b,(k:Int),l,n,i,out++smB k x,()):=by
 have h:=a1G (f:=a4O) (fun j=>(b,(k:Int),x,l,n,i,(k:Int),(j:Int),out++smB j x,()))
  k (b:=(b,(k:Int),l,n,i,out++smB k x,())) (fun j d=>by
   have c:wrap .i64 ((8:Int)*(j:Int))=((8*j:Nat):Int):=by rw[a0C (by omega)];omega
   have g:decide (((8*j:Nat):Int)<0)=false:=by simp;omega
   simp only[a4O];rw[dlt d,a0S (show(out++smB j x).length+1<2147483648 by rw[lN,b3H];omega),c,g,a0B (show j<1000000 by omega),d2b,d7U x (by omega),a8v,Int.emod_emod_of_dvd _ (by decide),c9X j (by omega),←aA];rfl) (by simp only[a4O,dge,cF])
 have a:out++smB 0 x=out:=by simp[smB,leB]
 simp only[a]at h;exact h
theorem c8E{w:Int}(h:4≤w∧w≤24):wrap .i64 (a21 (wrap .i64 (w+(7:Int))) (8:Int))=((((w+7) / 8).toNat:Nat):Int):=by
 rw[a0C (n:=w+7) (by omega),Int.tdiv_eq_ediv_of_nonneg (by omega),a0C (by omega)];omega
theorem c3d{w:Int}(g:4≤w∧w≤24)(l:List Int)(c:l.length≤1000000){k:Nat}(a:k≤3):∀(rest done out:List Int),done++rest=l→rest.all (fun x=>a1i x w)=true→out.length+3*rest.length<100000000→
  y0s a7a (w,(k:Int),l,(l.length:Int),(done.length:Int),out,())=some (.inl (out++rest.flatMap (smB k),()))
 | [],done,out,hd,_,_=>by
  obtain rfl:done=l:=by simpa using hd
  rw[a0E (b:=Sum.inl (out,())) (by simp only[a7a,dge,cF])]
  simp
 |x::rest,done,out,hd,hf,ho=>by
  have h:done.length<l.length:=by rw[←hd];simp
  have f:m0k l (done.length:Int)=some x:=by rw[a0D h];subst hd;simp
  simp only[a33,bA]at hf;simp only[lC]at ho;rw[a0F (s':=(w,(k:Int),l,(l.length:Int),(((done++[x]).length:Nat):Int),out++smB k x,())) (by
   simp only[a7a,dlt h,cT,f,oB,b4C g,hf.1,bT,cF,d2d w x _ _ l (show k≤8 by omega) out (by omega),a0B (show done.length<1000000 by omega)]
   simp)]
  rw[c3d g l c a rest (done++[x]) (out++smB k x) (by simpa using hd) hf.2 (by rw[lN,b3H];omega)]
  simp
theorem c2l{w:Int}(g:4≤w∧w≤24){l:List Int}(c:l.length≤1000000)(b:l.all (fun x=>a1i x w)=true):a9P (l,w)=some (a1c w l,0):=by
 have f:decide (w<(4:Int))=false:=by simp;omega
 have a:decide (w > (24:Int))=false:=by simp;omega
 have h:=c3d g l c (k:=((w+7) / 8).toNat) (by omega) l [] [] rfl b (by simp;omega);rw[a19]at h;simp only[a9P,f,cF,oB,a,c8E g]
 erw[h]
 rfl
def b2a(d:List Int)(ch c:Nat):List Int:=((a02 d.length).filter fun i=>i%ch==c).map fun i=>d.getD i 0
def a2D(d:List Int)(ch:Nat):List (List Int):=(a02 ch).map (b2a d ch)
def wv(n:Nat)(rows:List (List Int)):List Int:=(a02 n).flatMap fun i=>rows.map fun r=>r.getD i 0
theorem c9Y{α:Type}{a b:List α}{i:Nat}{d:α}(h:i<a.length):(a++b).getD i d=a.getD i d:=by
 grind
theorem c8F(d:List Int)(x:Int)(ch c:Nat):b2a (d++[x]) ch c=if d.length%ch=c then b2a d ch c++[x]else b2a d ch c:=by
 unfold b2a;rw[lN,List.length_singleton,a34,a49,pA];have h:((a02 d.length).filter fun i=>i%ch==c).map (fun i=>(d++[x]).getD i 0)=((a02 d.length).filter fun i=>i%ch==c).map fun i=>d.getD i 0:=
  a26 fun i hi=>c9Y (a67.1 (List.mem_filter.1 hi).1)
 grind
theorem c4S(c:Nat):∀ch,(a02 ch).filter (·==c)=if c<ch then[c]else[]
 |0=>rfl
 |ch+1=>by
  rw[a34,a49,c4S c ch]
  grind
theorem c4T{ch c:Nat}(h:c<ch):∀n,(a02 (n*ch)).filter (fun i=>i%ch==c)=(a02 n).map fun i=>i*ch+c
 |0=>by simp
 |n+1=>by
  rw[Nat.succ_mul,a36,a49,c4T h n,a34,pA,List.filter_map];congr 1;have e:∀i∈a02 ch,((fun i=>i%ch==c)∘fun x=>n*ch+x) i=(i==c):=fun i hi=>by
   simp_all[a27]
  simp_all[List.filter_congr,c4S]
theorem c3e{d:List Int}{n ch c:Nat}(g:d.length=n*ch)(h:c<ch):b2a d ch c=(a02 n).map fun i=>d.getD (i*ch+c) 0:=by
 simp_all[b2a,c4T]
theorem d3z(f:Nat→Int)(ch:Nat):∀n,(a02 n).flatMap (fun i=>(a02 ch).map fun c=>f (i*ch+c))=(a02 (n*ch)).map f
 |0=>by simp
 |n+1=>by
  rw[a34,a71,d3z f ch n,Nat.succ_mul,a36,pA,a46];simp[Function.comp_def]
theorem c7A(d:List Int):(a02 d.length).map (fun i=>d.getD i 0)=d:=
 a58 (by simp) fun i h g=>by simp_all
theorem c7B{α β:Type}{l:List α}{f g:α→List β}(h:∀a∈l,f a=g a):l.flatMap f=l.flatMap g:=by
 grind[a26]
theorem d2e{d:List Int}{n ch:Nat}(h:d.length=n*ch):wv n (a2D d ch)=d:=by
 have:wv n (a2D d ch)=(a02 n).flatMap fun i=>(a02 ch).map fun c=>d.getD (i*ch+c) 0:=
  c7B fun i hi=>by
   grind[a2D,a26,c3e]
 grind[d3z,c7A]
def prm:Nat:=2305843009213693951
def prs(h:Nat)(l:List Nat):Nat:=l.foldl (fun h c=>(h*1000003+(c+1))%prm) h
theorem d2f(h:Nat):prs h []=h:=rfl
theorem c4U(h c:Nat)(l:List Nat):prs h (c::l)=prs ((h*1000003+(c+1))%prm) l:=rfl
theorem c7C(h:Nat)(a b:List Nat):prs h (a++b)=prs (prs h a) b:=a37 ..
theorem c4V{h:Nat}(g:h<prm)(l:List Nat):prs h l<prm:=by
 induction l generalizing h with
 |nil=>exact g
 |cons c l ih=>exact ih (a20 _ (by decide))
theorem b6M(a b c:Nat):(a%prm*b+c)%prm=(a*b+c)%prm:=by
 simp_all[Nat.add_mod]
theorem c4W(a b:Nat):(a+b%prm)%prm=(a+b)%prm:=by
 simp
theorem c9Z(l:List Nat)(h:Nat):prs h l%prm=(h*1000003^l.length+prs 0 l)%prm:=by
 induction l generalizing h with
 |nil=>simp[d2f]
 |cons c l ih=>
  rw[c4U,c4U,ih,b6M,←c4W (h*_),ih ((0*1000003+(c+1))%prm),b6M,c4W,lC,a77]
  grind
theorem d0A(a b:List Nat):prs 0 (a++b)=(prs 0 a*(1000003^b.length%prm)+prs 0 b)%prm:=by
 rw[c7C,←a27 (c4V (c4V (by decide) a) b),c9Z,a59 (prs 0 a) (_%prm),b6M,a59 (prs 0 a)]
def pwr:Nat→Nat→Nat→Nat→Nat
 |0,_,p,_=>p
 |k+1,n,p,s=>if n=0 then p else pwr k (n / 2) (if n%2=1 then p*s%prm else p) (s*s%prm)
theorem d0B(a b:Nat):a%prm*b%prm=a*b%prm:=b6M a b 0
theorem c4X(a n:Nat):(a%prm)^n%prm=a^n%prm:=by rw[←Nat.pow_mod]
theorem d3A(k n p s:Nat)(h:n<2^k)(hp:p<prm):pwr k n p s=p*s^n%prm:=by
 induction k generalizing n p s with
 |zero=>simp_all[pwr,a27]
 |succ k ih=>
  rw[pwr]
  by_cases h0:n=0
  simp_all[a27];rw[if_neg h0];have g:n / 2<2^k:=by omega
  have f:(s*s)^(n / 2)=s^(2*(n / 2)):=by grind[Nat.pow_mul]
  by_cases h1:n%2=1
  rw[if_pos h1,ih _ _ _ g (a20 _ (by decide)),a51,c4X,f,←a51,d0B,Nat.mul_assoc,←Nat.pow_succ']
  grind
  rw[if_neg h1,ih _ _ _ g hp,a51,c4X,f,←a51]
  grind
theorem c8G{u d y1 y0 q r:Nat}(g:u=q*y1+r)(h:q*y0≤4294967296*r+d):q*(y1*4294967296+y0)≤u*4294967296+d:=by
 grind
theorem d2g(u d e y:Nat):((u*4294967296+d)%y*4294967296+e)%y=((u*4294967296+d)*4294967296+e)%y:=by
 simp_all[Nat.add_mod,a51]
theorem c8H(n k y:Nat)(h:0<k):n*k%(y*k) / k=n%y:=by
 simp_all[Nat.mul_mod_mul_right]
@[reducible] def Pc:Type:=a1b×(a1l×List Int)
def b9M(fm:a0J)(st:Nat)(x:Pc):Prop:=
 x.1.1=(st:Int)∧x.1.2.1=((a0T x.2.1:Nat):Int)∧x.1.2.2.1=fm∧a2A x.1=some (x.2.1,0)∧a2w x.1=some (x.2.2,0)∧
  (∀R:List Int,R.length≤200000000→a6x (x.2.2++R)=some (x.1,(x.2.2.length:Int),(0:Int)))∧a2S x.2.1∧x.2.1.1=fm.2.2.1∧a0T x.2.1≤64∧1≤x.2.2.length∧x.2.2.length≤700800
def a2T(fm:a0J):Nat→List Pc→Prop
 |_,[]=>True
 |st,x::xs=>b9M fm st x∧a2T fm (st+a0T x.2.1) xs
def a2U:Nat→Nat→List Pc→List (Int×Int×Unit)
 |_,_,[]=>[]
 |st,off,x::xs=>((st:Int),(off:Int),())::a2U (st+a0T x.2.1) (off+x.2.2.length) xs
def a1q(xs:List Pc):Nat:=(xs.map fun x=>a0T x.2.1).sum
def a0V(xs:List Pc):List Int:=xs.flatMap fun x=>x.2.2
def wvB(b:a1l):List Int:=wv (a0T b) b.2.1
def a4o(xs:List Pc):List Int:=xs.flatMap fun x=>wvB x.2.1
def prI(l:List Int):Nat:=prs 0 (l.map a30)
def a2e(fm:a0J)(xs:List Pc):Nat:=prI (a1c fm.2.2.1 (a4o xs))
theorem b2U(l:List Int):prI l<prm:=c4V (by decide) _
theorem c2m(a b:List Int):prI (a++b)=(prI a*(1000003^b.length%prm)+prI b)%prm:=by
 simp_all[prI,d0A]
theorem a5U(h:List Pc)(x:Pc):a1q (h++[x])=a1q h+a0T x.2.1:=by simp[a1q]
theorem a7T(h:List Pc)(x:Pc):a0V (h++[x])=a0V h++x.2.2:=by simp[a0V]
theorem b3I(h:List Pc)(x:Pc):a4o (h++[x])=a4o h++wvB x.2.1:=by simp[a4o]
theorem c8I{rows:List (List Int)}:∀n,(wv n rows).length=n*rows.length:=fun n=>by
 simp_all[wv,List.map_const']
theorem c3f{fm:a0J}:∀{xs:List Pc}{st:Nat}{x:Pc},a2T fm st xs→b9M fm (st+a1q xs) x→a2T fm st (xs++[x])
 | [],st,x,_,h=>⟨by simpa[a1q]using h,trivial⟩
 |y::xs,st,x,h,h2=>⟨h.1,c3f h.2 (by simp_all[a1q,a55])⟩
theorem b2H:∀(xs:List Pc)(st off:Nat)(x:Pc),a2U st off (xs++[x])=a2U st off xs++[(((st+a1q xs:Nat):Int),((off+(a0V xs).length:Nat):Int),())]
 | [],st,off,x=>by rfl
 |y::xs,st,off,x=>by
  simp_all[a2U,b2H,a1q,a0V,a55]
theorem a9k:∀(xs:List Pc)(st off:Nat),(a2U st off xs).length=xs.length
 | [],_,_=>rfl
 |_::xs,_,_=>congrArg (·+1) (a9k xs _ _)
theorem b3J{fm:a0J}:∀{xs:List Pc}{st:Nat},a2T fm st xs→(a0V xs).length≤700800*xs.length
 | [],_,_=>by simp[a0V]
 |x::xs,st,h=>by
  have:=b3J h.2
  have:=h.1.2.2.2.2.2.2.2.2.2.2
  simp only[a0V,a31,lN,lC]at *;omega
theorem d2h{b:a1l}{fm:a0J}(hb:a2S b)(i:a0T b≤64)(j:1≤fm.1∧fm.1≤1048576)(d:fm.2.1=((b.2.1.length:Nat):Int))(h:fm.2.2.1=b.1){st:Nat}(q:st+a0T b≤4194304){effort:Int}(m:0≤effort)(n:effort≤3):
  ∃g p,a2Q (b,fm,(st:Int),effort)=some (((st:Int),g),0)∧b9M fm st (((st:Int),g),b,p):=by
 obtain⟨rate,ch,bits,u⟩:=fm;cases u;simp only at j d h;subst d h;obtain⟨g,r,s,t,x,y,l,v⟩:=made hb (by omega) (rate:=rate) (start:=(st:Int)) (effort:=effort) j (by omega) m n;have a:=v (st:Int) (by omega);obtain⟨L,o,-,e,c⟩:=c1v (f:=((st:Int),g)) l a;have k:=b9I (f:=((st:Int),g)) l;rw[a]at k;have w:=b6J (b4D a).1 o;refine⟨g,a4Y ((st:Int),g) L,r,rfl,s,t,k,e,c,hb,rfl,i,?_,?_⟩
 all_goals grind[a4Y]
theorem c4Y{d:List Int}{n ch c:Nat}(g:d.length=n*ch)(h:c<ch):(b2a d ch c).length=n:=by rw[c3e g h];simp
theorem d0C{d:List Int}{ch c:Nat}{x:Int}(h:x∈b2a d ch c):x∈d:=by
 unfold b2a at h
 grind
def a7H(w:Int)(d:List Int)(ch:Nat):a1l:=(w,a2D d ch,())
theorem b6N{w:Int}{d:List Int}{n ch:Nat}(g:d.length=n*ch)(h:0<ch):a0T (a7H w d ch)=n:=by
 obtain⟨k,rfl⟩:∃k,ch=k+1:=⟨ch-1,by omega⟩;show((a2D d (k+1)).headD []).length=n
 grind[a2D,List.range_succ_eq_map,c4Y]
theorem d2i{w:Int}{d:List Int}{n ch:Nat}(f:d.length=n*ch)(h:1≤ch∧ch≤8)(j:1≤n∧n≤4096)(k:4≤w∧w≤24)(a:d.all (fun x=>a1i x w)=true):a2S (a7H w d ch):=by
 have b:=b6N (w:=w) f (show 0<ch by omega);have g:(a2D d ch).length=ch:=by simp[a2D]
 refine⟨k.1,k.2,by simp_all[a7H],by simp_all[a7H],by omega,by omega,?_⟩;rw[b];refine lA.2 fun r e=>?_
 obtain⟨c,g,rfl⟩:=a45.1 (show r∈(a02 ch).map (b2a d ch)from e);rw[bA,dT];exact⟨c4Y f (a67.1 g),lA.2 fun x i=>lA.1 a x (d0C i)⟩
theorem d2j{w:Int}{d:List Int}{n ch:Nat}(g:d.length=n*ch)(h:0<ch):wvB (a7H w d ch)=d:=by
 unfold wvB;rw[b6N g h];exact d2e g
def b5D(n:Nat)(l:List Int):Nat:=l.foldl (fun n c=>n*256+c.toNat) n
def a7Y(k n:Nat):List Int:=(leB k n).reverse
theorem b9N:∀(k n:Nat),n<256^k→b5D 0 (a7Y k n)=n
 |0,n,h=>by simp at h;subst h;rfl
 |k+1,n,h=>by
  have g:=b9N k (n / 256) (by rw[a64 (by omega)];rw[a77]at h;exact h);unfold b5D a7Y at *;rw[leB,List.reverse_cons,a37,g]
  simp
  omega
theorem b0I(k n:Nat):(a7Y k n).length=k:=by simp[a7Y,b1r]
theorem b6O(k n:Nat):∀b∈a7Y k n,0≤b∧b<256:=fun b hb=>b7Z k n b (List.mem_reverse.1 hb)
theorem c2n{n k:Nat}(j:n<18446744073709551616)(d:k≤8):a5r ((n:Int),(k:Int))=some (leB k n):=by
 have c:a3S (k:Int)=some (k:Int):=by
  grind[a3S,b5L,c1V]
 simp[a5r,c];have h:=a1G (f:=a1R) (fun i=>(((n / 256^i:Nat):Int),(k:Int),(i:Int),leB i n,())) k (b:=(leB k n,())) (fun i hi=>by
   have g:wrap .u64 (a21 ((n / 256^i:Nat):Int) 256)=((n / 256^(i+1):Nat):Int):=by
    have e:a21 ((n / 256^i:Nat):Int) 256=((n / 256^i / 256:Nat):Int):=rfl;rw[e,Nat.div_div_eq_div_mul,←a77]
    have:=a84 n (256^(i+1))
    grind[a0L]
   have a:wrap .u8 (a43 ((n / 256^i:Nat):Int) 256)=((n / 256^i%256:Nat):Int):=by
    have e:a43 ((n / 256^i:Nat):Int) 256=((n / 256^i%256:Nat):Int):=rfl;rw[e,a8v];omega
   simp only[a1R];rw[dlt hi,a0S (show(leB i n).length+1<2147483648 by rw[b1r];omega),g,a0B (show i<1000000 by omega),a,b9s];rfl) (by simp_all[a1R])
 simp only[Nat.pow_zero,Nat.div_one,leB]at h;simp_all
theorem b8b{n k:Nat}(g:n<18446744073709551616)(h:k≤8):a4v ((n:Int),(k:Int))=some (a7Y k n):=by
 unfold a4v a1P;simp only[c2n g h,oB];rw[decide_eq_true (by rw[b1r];omega)];rfl
def c32(s:BitVec 32):BitVec 32:=bif s.getLsbD 0 then(s >>> 1) ^^^ 0xedb88320#32 else s >>> 1
def d0D:Nat→BitVec 32→BitVec 32
 |0,s=>s
 |k+1,s=>d0D k (c32 s)
def d0E(s x:BitVec 32):BitVec 32:=d0D 8 (s ^^^ x)
def d3B(s:BitVec 32)(l:List (BitVec 32)):BitVec 32:=l.foldl d0E s
theorem d0F(s:BitVec 32):a00 32 ((s.toNat:Nat):Int)=s:=by
 simp
theorem d3C(s:BitVec 32):wrap .u32 ((s.toNat:Nat):Int)=((s.toNat:Nat):Int):=by
 have:=s.isLt
 grind[wrap,IntKind.bits,IntKind.signed]
theorem c7D(s t:BitVec 32):bits .u32 .xor ((s.toNat:Nat):Int) ((t.toNat:Nat):Int)=(((s ^^^ t).toNat:Nat):Int):=by
 show wrap .u32 (((a00 32 _ ^^^ a00 32 _).toNat:Nat):Int)=_;rw[d0F,d0F,d3C]
theorem d5h(s:BitVec 32):(bits .u32 .and ((s.toNat:Nat):Int) 1==(1:Int))=s.getLsbD 0:=by
 have h:bits .u32 .and ((s.toNat:Nat):Int) 1=(((s &&& 1#32).toNat:Nat):Int):=by
  show wrap .u32 (((a00 32 _ &&& a00 32 1).toNat:Nat):Int)=_;rw[d0F,show a00 32 1=1#32 from rfl,d3C]
 rw[h,a39,show(1#32).toNat=1 from rfl,Nat.and_one_is_mod,a68,Nat.testBit_zero]
 grind
theorem d5i(s:BitVec 32):A0o .u32 ((s.toNat:Nat):Int) 1=(((s >>> 1).toNat:Nat):Int):=by
 unfold A0o;rw[show min (a30 1) (IntKind.bits .u32)=1 from rfl,a50 _ (by simp),BitVec.toNat_ushiftRight,Nat.shiftRight_eq_div_pow];rfl
def e32(s:Int):Int:=bif (bits .u32 .and s 1)==(1:Int)then bits .u32 .xor (A0o .u32 s 1) 3988292384 else A0o .u32 s 1
theorem d3D(s:BitVec 32):e32 ((s.toNat:Nat):Int)=(((c32 s).toNat:Nat):Int):=by
 unfold e32 c32;rw[d5h,d5i,show(3988292384:Int)=(((0xedb88320#32).toNat:Nat):Int)from rfl,c7D]
 grind
theorem c4Z:∀(k:Nat)(s:BitVec 32),rep e32 k ((s.toNat:Nat):Int)=(((d0D k s).toNat:Nat):Int)
 |0,_=>rfl
 |k+1,s=>by
  rw[show rep e32 (k+1) ((s.toNat:Nat):Int)=rep e32 k (e32 ((s.toNat:Nat):Int))from rfl,d3D,c4Z k];rfl
def d3E(l:List Int):BitVec 32:=d3B 0xffffffff#32 (l.map (a00 32))
def a4p(l:List Int):Nat:=(~~~ d3E l).toNat
theorem b6P(l:List Int):a4p l<4294967296:=(~~~ d3E l).isLt
@[reducible] def b9O:Type:=a0J×(Int×(Int×(List (Int×(Int×Unit))×(List a1b×Unit))))
def mkT(fm:a0J)(xs:List Pc):b9O:=(fm,((a1q xs:Nat):Int),((a2e fm xs:Nat):Int),a2U 0 0 xs,xs.map (·.1),())
def nsP(xs:List Pc):List Nat:=xs.flatMap fun x=>[x.2.2.length,a0T x.2.1]
def a3Q(fm:a0J)(xs:List Pc):List Nat:=[fm.1.toNat,fm.2.1.toNat,fm.2.2.1.toNat,xs.length]++nsP xs
def b9P:List Int:=[75,78,83,68]
def a1v(fm:a0J)(xs:List Pc):List Int:=b9P++((a3Q fm xs).flatMap a0K++a7Y 8 (a2e fm xs))
def a5V(fm:a0J)(xs:List Pc):List Int:=a1v fm xs++(a7Y 4 (a4p (a1v fm xs))++a0V xs)
def b2I(l:List Int)(ch st en:Nat):List Int:=(l.take (en*ch)).drop (st*ch)
theorem c3g{l:List Int}{ch st en:Nat}(h:en*ch≤l.length):(b2I l ch st en).length=(en-st)*ch:=by
 simp_all[b2I,Nat.sub_mul]
theorem c8J{l:List Int}{ch st en:Nat}(h:st≤en):l.take (st*ch)++b2I l ch st en=l.take (en*ch):=by
 grind[b2I,a24,List.take_append_drop]
theorem c8K{l:List Int}{p:Int→Bool}{ch st en:Nat}(h:l.all p=true):(b2I l ch st en).all p=true:=
 lA.2 fun x g=>lA.1 h x (List.mem_of_mem_take (List.mem_of_mem_drop g))
theorem b6e(h:List Pc):(nsP h).length=2*h.length:=by
 induction h with
 |nil=>rfl
 |cons x h ih=>grind[nsP]
theorem d0G(h:List Pc)(x:Pc):nsP (h++[x])=nsP h++[x.2.2.length,a0T x.2.1]:=by simp[nsP]
theorem c3h{fm:a0J}:∀{xs:List Pc}{st:Nat},a2T fm st xs→∀n∈nsP xs,n<1048704
 | [],_,_,n,hn=>by simp[nsP]at hn
 |x::xs,st,h,n,hn=>by
  have g:=h.1.2.2.2.2.2.2.2.2;simp only[nsP,a31,mA,mC,a40,or_false]at hn;rcases hn with(rfl|rfl)|hn;omega;omega;exact c3h h.2 n hn
theorem b8c{fm:a0J}:∀{xs:List Pc}{st:Nat},a2T fm st xs→xs.length≤a1q xs∧a1q xs≤64*xs.length
 | [],_,_=>by simp[a1q]
 |x::xs,st,h=>by
  have g:=h.1.2.2.2.2.2.2.1.2.2.2.2.1;have f:=h.1.2.2.2.2.2.2.2.2.1
  have:=b8c h.2
  simp only[a1q,a23,List.sum_cons,lC]at *;omega
theorem b5c:∀(l:List Nat),(∀n∈l,n<9223372036854775808)→(l.flatMap a0K).length≤9*l.length
 | [],_=>by simp
 |n::l,h=>by
  have:=(a9g (h n (by simp))).2
  have:=b5c l fun m g=>h m (by simp[g])
  simp only[a31,lN,lC];omega
theorem a7U{fm:a0J}(f:a2y fm){xs:List Pc}(h:a2T fm 0 xs)(i:xs.length≤256):∀n∈a3Q fm xs,n<1048704:=fun n g=>by
 simp only[a3Q,mA,mC,a40,or_false]at g;obtain⟨k,a,b,c,d,e⟩:=f;rcases g with(rfl|rfl|rfl|rfl)|g;omega;omega;omega;omega;exact c3h h n g
theorem c3i{fm:a0J}(g:a2y fm){xs:List Pc}(h:a2T fm 0 xs)(k:xs.length≤256):(a1v fm xs).length≤6000:=by
 have a:=b5c (a3Q fm xs) fun n f=>a07 (a7U g h k n f) (by simp)
 grind[a3Q,b6e,a1v,b9P,b0I]
def b0J(y0 d q r:Nat):Prop:=4294967296≤q∨4294967296*r+d<q*y0
instance (y0 d q r:Nat):Decidable (b0J y0 d q r):=inferInstanceAs (Decidable (_∨_))
def b8d(u d y1 y0:Nat):Nat:=
 if b0J y0 d (u / y1) (u%y1)then
  if 4294967296≤u%y1+y1 then u / y1-1
  else if b0J y0 d (u / y1-1) (u%y1+y1)then u / y1-2 else u / y1-1
 else u / y1
theorem d2k{u d y1 y0:Nat}(t:2147483648≤y1)(p:y0<4294967296)(w:u<y1*4294967296+y0)(v:d<4294967296):
  b8d u d y1 y0=(u*4294967296+d) / (y1*4294967296+y0):=by
 have hp:0<y1:=by omega
 have e:u=u / y1*y1+u%y1:=(Nat.div_add_mod' u y1).symm;have s:=a20 u hp;have j:u / y1≤4294967297:=by
  have:u / y1<4294967298:=(a64 hp).2 (by omega)
  omega
 have y:u*4294967296+d<(u / y1+1)*(y1*4294967296+y0):=by
  grind
 have over:∀{q r:Nat},u=q*y1+r→b0J y0 d q r→u*4294967296+d<q*(y1*4294967296+y0):=by
  intro q r g f;rcases f with f|f
  have:=a24 (y1*4294967296+y0) f
  omega
  grind
 have fits:∀{q r:Nat},u=q*y1+r→¬ b0J y0 d q r→q*(y1*4294967296+y0)≤u*4294967296+d:=
  fun g f=>c8G g (Nat.le_of_not_lt fun h=>f (.inr h))
 have i:∀{q r:Nat},u=q*y1+r→q≤4294967296→4294967296≤r→q*(y1*4294967296+y0)≤u*4294967296+d:=by
  intro q r g j s;refine c8G g ?_
  have a:=a05 j (a47 p);omega
 unfold b8d;generalize u / y1=q at *;generalize u%y1=r at *;have done:∀{m:Nat},m*(y1*4294967296+y0)≤u*4294967296+d→u*4294967296+d<(m+1)*(y1*4294967296+y0)→m=(u*4294967296+d) / (y1*4294967296+y0):=
  fun a b=>(Nat.div_eq_of_lt_le a b).symm
 by_cases c:b0J y0 d q r
 rw[if_pos c];have o:=over e c;have q1:1≤q:=a74 fun z=>by grind
 obtain⟨q,rfl⟩:∃k,q=k+1:=⟨q-1,by omega⟩;rw[Nat.add_sub_cancel];have l:u=q*y1+(r+y1):=by grind
 by_cases c1:4294967296≤r+y1
 grind
 rw[if_neg c1]
 by_cases c2:b0J y0 d q (r+y1)
 rw[if_pos c2];have o1:=over l c2;have x:1≤q:=a74 fun z=>by grind
 obtain⟨q,rfl⟩:∃k,q=k+1:=⟨q-1,by omega⟩;have n:u=q*y1+(r+y1+y1):=by grind
 exact done (m:=q) (i n (by omega) (by omega)) o1
 grind
 grind
theorem d3F(hi lo:Nat):
  (((hi*8+lo / 2305843009213693952)*4294967296+lo*8%18446744073709551616 / 4294967296)%18446744073709551608*4294967296+lo*8%18446744073709551616%4294967296)%18446744073709551608 / 8
   = (hi*18446744073709551616+lo)%prm:=by
 have e:((hi*8+lo / 2305843009213693952)*4294967296+lo*8%18446744073709551616 / 4294967296)*4294967296+lo*8%18446744073709551616%4294967296=(hi*18446744073709551616+lo)*8:=by omega
 rw[d2g,e];exact c8H _ 8 prm (by simp)
theorem d0H{hi lo:Nat}(h:hi<prm)(g:lo<18446744073709551616):hi*8+lo / 2305843009213693952<4294967295*4294967296+4294967288:=by
 unfold prm at h;omega
theorem c8L{a b c:Nat}(h:a<prm)(hb:b<prm)(g:c≤prm):(a*b+c) / 18446744073709551616<prm:=by
 have:=a05 (a69 h) (a69 hb)
 unfold prm at *;omega
theorem d3G{a b x0 x1 y0 y1 t:Nat}(k:x0=a%4294967296)(c:x1=a / 4294967296)(d:y0=b%4294967296)(i:y1=b / 4294967296)(r:t=x1*y0+x0*y0 / 4294967296)
  (n:a<18446744073709551616)(hb:b<18446744073709551616):
  x1*y1+t / 4294967296+(t%4294967296+x0*y1) / 4294967296=a*b / 18446744073709551616∧x0*y0<18446744073709551616∧t<18446744073709551616∧t%4294967296+x0*y1<18446744073709551616:=by
 have j:a=x1*4294967296+x0:=by omega
 have l:b=y1*4294967296+y0:=by omega
 have e:a*b=x1*y1*18446744073709551616+(x1*y0+x0*y1)*4294967296+x0*y0:=by
  grind
 have m:∀{p q:Nat},p<4294967296→q<4294967296→p*q≤4294967295*4294967295:=fun hp o=>a05 (by omega) (by omega);have h:=m (show x0<4294967296 by omega) (show y0<4294967296 by omega);have f:=m (show x1<4294967296 by omega) (show y0<4294967296 by omega);have g:=m (show x0<4294967296 by omega) (show y1<4294967296 by omega);omega
theorem c7E(n:Nat):wrap .u64 (n:Int)=((n%18446744073709551616:Nat):Int):=by
 rfl
theorem c5a{n k:Nat}(h:k≤64):A0o .u64 (n:Int) (k:Int)=((n / 2^k:Nat):Int):=by
 have g:min (a30 (k:Int)) (IntKind.bits .u64)=k:=by simp_all[IntKind.bits]
 unfold A0o
 grind
theorem c8M(n:Nat):A0o .u64 (n:Int) 32=((n / 4294967296:Nat):Int):=c5a (k:=32) (by omega)
theorem d1w(n:Nat):bits .u64 .and (n:Int) 4294967295=((n%4294967296:Nat):Int):=by
 show wrap .u64 (((a00 64 (n:Int) &&& a00 64 4294967295).toNat:Nat):Int)=_;have g:(a00 64 4294967295).toNat=4294967295:=rfl;have h:(a00 64 (n:Int)).toNat=n%18446744073709551616:=by rfl
 rw[a39,h,g,show 4294967295=2^32-1 from rfl,a29,c7E];omega
theorem d7V{a b:Nat}(f:a<2305843009213693952)(hb:b<8):bits .u64 .or ((a*8:Nat):Int) (b:Int)=((a*8+b:Nat):Int):=by
 show wrap .u64 (((a00 64 ((a*8:Nat):Int) ||| a00 64 (b:Int)).toNat:Nat):Int)=_;have h:(a00 64 ((a*8:Nat):Int)).toNat=2^3*a:=by grind[a22]
 have g:(a00 64 (b:Int)).toNat=b:=by grind
 rw[a83,h,g,←a48 (i:=3) hb a,c7E];omega
theorem d0I{a b:Nat}(f:a<18446744073709551616)(hb:b<18446744073709551616):a6h ((a:Int),(b:Int))=some (((a*b / 18446744073709551616:Nat):Int),((a*b%18446744073709551616:Nat):Int)):=by
 obtain⟨k,c,d,e⟩:=d3G (a:=a) (b:=b) rfl rfl rfl rfl rfl f hb;unfold a6h;simp only[c8M,d1w,←a85,←Int.natCast_add,c7E,sj,pJ,Int.natCast_inj];refine⟨?_,trivial⟩
 revert k c d e
 generalize a%4294967296*(b%4294967296)=p00;generalize a / 4294967296*(b%4294967296)=p10;generalize a%4294967296*(b / 4294967296)=p01;have i:a*b / 18446744073709551616<18446744073709551616:=a70 (Nat.lt_of_le_of_lt (a05 (a47 f) (a47 hb)) (by omega:18446744073709551616*18446744073709551616<18446744073709551616*18446744073709551616+1) |> fun h=>by
  rcases Nat.lt_or_ge (a*b) (18446744073709551616*18446744073709551616)with g|g;omega
  have:=Nat.mul_lt_mul_of_lt_of_le f (a47 hb) (by omega);omega)
 omega
theorem b9h{α:Type}(p:Prop)[Decidable p](a b:α):(bif decide p then a else b)=if p then a else b:=by
 simp
theorem d3H:a3V 2305843009213693951=some 3:=by rfl
theorem c7F{u d q:Nat}(h:q=b8d u d 4294967295 4294967288)(f:u<4294967295*4294967296+4294967288)(g:d<4294967296):q*18446744073709551608≤u*4294967296+d∧u*4294967296+d<q*18446744073709551608+18446744073709551608∧q<4294967296:=by
 grind[d2k]
theorem b9i{u d u0 q r:Nat}{s:Int}(c:d<4294967296)(e:q≤4294967297)(i:r<4294967296):a1Z ((18446744073709551608:Int),s,(4294967295:Int),(4294967288:Int),(u:Int),(d:Int),(u0:Int),(q:Int),(r:Int),()) =
  if b0J 4294967288 d q r then(if 4294967296≤r+4294967295 then some (.inr ((18446744073709551608:Int),s,(4294967295:Int),(4294967288:Int),(u:Int),(d:Int),(u0:Int),((q-1:Nat):Int),()))else some (.inl ((18446744073709551608:Int),s,(4294967295:Int),(4294967288:Int),(u:Int),(d:Int),(u0:Int),((q-1:Nat):Int),((r+4294967295:Nat):Int),())))else some (.inr ((18446744073709551608:Int),s,(4294967295:Int),(4294967288:Int),(u:Int),(d:Int),(u0:Int),(q:Int),())):=by
 have a:wrap .u64 ((q:Int)-1)=(((q-1:Nat)):Int)∨q=0:=by
  rcases a75 q with h|h;exact .inr h;left;rw[a0L (by omega)];omega
 have f:wrap .u64 ((r:Int)+4294967295)=((r+4294967295:Nat):Int):=by rw[a0L (by omega)];omega
 have k:decide (wrap .u64 ((r:Int)+4294967295)≥(4294967296:Int))=decide (4294967296≤r+4294967295):=by
  rw[f];exact decide_eq_decide.2 (by omega)
 have tail:q≠0→(bif decide (wrap .u64 ((r:Int)+4294967295)≥(4294967296:Int))then(some (.inr ((18446744073709551608:Int),s,(4294967295:Int),(4294967288:Int),(u:Int),(d:Int),(u0:Int),(wrap .u64 ((q:Int)-1)),())):Option (_ ⊕ (Int×Int×Int×Int×Int×Int×Int×Int×Unit)))else some (.inl ((18446744073709551608:Int),s,(4294967295:Int),(4294967288:Int),(u:Int),(d:Int),(u0:Int),(wrap .u64 ((q:Int)-1)),(wrap .u64 ((r:Int)+4294967295)),()))) =
   (if 4294967296≤r+4294967295 then some (.inr ((18446744073709551608:Int),s,(4294967295:Int),(4294967288:Int),(u:Int),(d:Int),(u0:Int),((q-1:Nat):Int),()))else some (.inl ((18446744073709551608:Int),s,(4294967295:Int),(4294967288:Int),(u:Int),(d:Int),(u0:Int),((q-1:Nat):Int),((r+4294967295:Nat):Int),()))):=fun b=>by
  rw[k,a.resolve_right b,f];exact b9h ..
 by_cases h1:4294967296≤q
 have c0:decide ((q:Int)≥(4294967296:Int))=true:=decide_eq_true (by omega);rw[if_pos (.inl h1),←tail (by omega)];unfold a1Z;dsimp only;rw[c0,cT,oB];have c0:decide ((q:Int)≥(4294967296:Int))=false:=decide_eq_false (by omega);have j:wrap .u64 ((q:Int)*4294967288)=((q*4294967288:Nat):Int):=by rw[a0L (by omega)];omega
 have l:wrap .u64 (wrap .u64 ((4294967296:Int)*(r:Int))+(d:Int))=((4294967296*r+d:Nat):Int):=by rw[a0L (n:=4294967296*(r:Int)) (by omega),a0L (by omega)];omega
 by_cases h2:4294967296*r+d<q*4294967288
 have g:decide (wrap .u64 ((q:Int)*4294967288) > wrap .u64 (wrap .u64 ((4294967296:Int)*(r:Int))+(d:Int)))=true:=decide_eq_true (by omega);rw[if_pos (.inr h2),←tail (by omega)];unfold a1Z;dsimp only;rw[c0,cF,g,cT,oB];have g:decide (wrap .u64 ((q:Int)*4294967288) > wrap .u64 (wrap .u64 ((4294967296:Int)*(r:Int))+(d:Int)))=false:=decide_eq_false (by omega);rw[if_neg (by unfold b0J;omega)];unfold a1Z;dsimp only;rw[c0,cF,g,cF,oB]
theorem d3I{u d u0:Nat}{s:Int}(k:u<4294967295*4294967296+4294967288)(f:d<4294967296):
  y0s a1Z ((18446744073709551608:Int),s,(4294967295:Int),(4294967288:Int),(u:Int),(d:Int),(u0:Int),((u / 4294967295:Nat):Int),((u%4294967295:Nat):Int),())=some ((18446744073709551608:Int),s,(4294967295:Int),(4294967288:Int),(u:Int),(d:Int),(u0:Int),((b8d u d 4294967295 4294967288:Nat):Int),()):=by
 have h:u / 4294967295≤4294967297:=by omega
 have g:u%4294967295<4294967295:=a20 _ (by omega);unfold b8d
 revert h g
 generalize u / 4294967295=q;generalize u%4294967295=r;intro h g;have s0:=b9i (u0:=u0) (s:=s) (u:=u) f h (a80 g)
 by_cases c1:b0J 4294967288 d q r
 ·rw[if_pos c1]at s0⊢
  by_cases c2:4294967296≤r+4294967295
  simp_all[a0E]
  ·rw[if_neg c2]at s0⊢;rw[a0F s0];have a:=b9i (u0:=u0) (s:=s) (u:=u) (q:=q-1) (r:=r+4294967295) f (by omega) (by omega)
   by_cases c3:b0J 4294967288 d (q-1) (r+4294967295)
   all_goals simp_all[Nat.sub_sub,a0E]
 simp_all[a0E]
theorem b9j{u d q r:Nat}{s q1:Int}(c:d<4294967296)(e:q≤4294967297)(i:r<4294967296):a2a ((18446744073709551608:Int),s,(4294967295:Int),(4294967288:Int),(d:Int),q1,(r:Int),(u:Int),(q:Int),()) =
  if b0J 4294967288 d q r then(if 4294967296≤r+4294967295 then some (.inr ((18446744073709551608:Int),s,(d:Int),q1,(u:Int),((q-1:Nat):Int),()))else some (.inl ((18446744073709551608:Int),s,(4294967295:Int),(4294967288:Int),(d:Int),q1,((r+4294967295:Nat):Int),(u:Int),((q-1:Nat):Int),())))else some (.inr ((18446744073709551608:Int),s,(d:Int),q1,(u:Int),(q:Int),())):=by
 have a:wrap .u64 ((q:Int)-1)=(((q-1:Nat)):Int)∨q=0:=by
  rcases a75 q with h|h;exact .inr h;left;rw[a0L (by omega)];omega
 have f:wrap .u64 ((r:Int)+4294967295)=((r+4294967295:Nat):Int):=by rw[a0L (by omega)];omega
 have k:decide (wrap .u64 ((r:Int)+4294967295)≥(4294967296:Int))=decide (4294967296≤r+4294967295):=by
  rw[f];exact decide_eq_decide.2 (by omega)
 have tail:q≠0→(bif decide (wrap .u64 ((r:Int)+4294967295)≥(4294967296:Int))then(some (.inr ((18446744073709551608:Int),s,(d:Int),q1,(u:Int),(wrap .u64 ((q:Int)-1)),())):Option (_ ⊕ (Int×Int×Int×Int×Int×Int×Unit)))else some (.inl ((18446744073709551608:Int),s,(4294967295:Int),(4294967288:Int),(d:Int),q1,(wrap .u64 ((r:Int)+4294967295)),(u:Int),(wrap .u64 ((q:Int)-1)),()))) =
   (if 4294967296≤r+4294967295 then some (.inr ((18446744073709551608:Int),s,(d:Int),q1,(u:Int),((q-1:Nat):Int),()))else some (.inl ((18446744073709551608:Int),s,(4294967295:Int),(4294967288:Int),(d:Int),q1,((r+4294967295:Nat):Int),(u:Int),((q-1:Nat):Int),()))):=fun b=>by
  rw[k,a.resolve_right b,f];exact b9h ..
 by_cases h1:4294967296≤q
 have c0:decide ((q:Int)≥(4294967296:Int))=true:=decide_eq_true (by omega);rw[if_pos (.inl h1),←tail (by omega)];unfold a2a;dsimp only;rw[c0,cT,oB];have c0:decide ((q:Int)≥(4294967296:Int))=false:=decide_eq_false (by omega);have j:wrap .u64 ((q:Int)*4294967288)=((q*4294967288:Nat):Int):=by rw[a0L (by omega)];omega
 have l:wrap .u64 (wrap .u64 ((4294967296:Int)*(r:Int))+(d:Int))=((4294967296*r+d:Nat):Int):=by rw[a0L (n:=4294967296*(r:Int)) (by omega),a0L (by omega)];omega
 by_cases h2:4294967296*r+d<q*4294967288
 have g:decide (wrap .u64 ((q:Int)*4294967288) > wrap .u64 (wrap .u64 ((4294967296:Int)*(r:Int))+(d:Int)))=true:=decide_eq_true (by omega);rw[if_pos (.inr h2),←tail (by omega)];unfold a2a;dsimp only;rw[c0,cF,g,cT,oB];have g:decide (wrap .u64 ((q:Int)*4294967288) > wrap .u64 (wrap .u64 ((4294967296:Int)*(r:Int))+(d:Int)))=false:=decide_eq_false (by omega);rw[if_neg (by unfold b0J;omega)];unfold a2a;dsimp only;rw[c0,cF,g,cF,oB]
theorem d3J{u d:Nat}{s q1:Int}(k:u<4294967295*4294967296+4294967288)(f:d<4294967296):
  y0s a2a ((18446744073709551608:Int),s,(4294967295:Int),(4294967288:Int),(d:Int),q1,((u%4294967295:Nat):Int),(u:Int),((u / 4294967295:Nat):Int),())=some ((18446744073709551608:Int),s,(d:Int),q1,(u:Int),((b8d u d 4294967295 4294967288:Nat):Int),()):=by
 have h:u / 4294967295≤4294967297:=by omega
 have g:u%4294967295<4294967295:=a20 _ (by omega);unfold b8d
 revert h g
 generalize u / 4294967295=q;generalize u%4294967295=r;intro h g;have s0:=b9j (s:=s) (q1:=q1) (u:=u) f h (a80 g)
 by_cases c1:b0J 4294967288 d q r
 ·rw[if_pos c1]at s0⊢
  by_cases c2:4294967296≤r+4294967295
  simp_all[a0E]
  ·rw[if_neg c2]at s0⊢;rw[a0F s0];have a:=b9j (s:=s) (q1:=q1) (u:=u) (q:=q-1) (r:=r+4294967295) f (by omega) (by omega)
   by_cases c3:b0J 4294967288 d (q-1) (r+4294967295)
   all_goals simp_all[Nat.sub_sub,a0E]
 simp_all[a0E]
theorem d5j(n:Int):wrap .u64 n=n%18446744073709551616:=by rfl
theorem d2l{u d Q:Nat}(h:Q*18446744073709551608≤u*4294967296+d)(g:u*4294967296+d<Q*18446744073709551608+18446744073709551608):
  wrap .u64 (wrap .u64 (wrap .u64 ((u:Int)*4294967296)+(d:Int))-wrap .u64 ((Q:Int)*18446744073709551608))=(((u*4294967296+d)%18446744073709551608:Nat):Int):=by
 grind[d5j]
theorem c6f{u:Nat}(h:u<18446744073709551616):wrap .u64 ((u:Int)-wrap .u64 (((u / 4294967295:Nat):Int)*4294967295))=((u%4294967295:Nat):Int):=by
 grind[a0L]
theorem sh3(n:Nat):A0n .u64 (n:Int) 3=((n*8%18446744073709551616:Nat):Int):=by
 rfl
theorem d0J(lo:Nat):a2W (0,(lo:Int),(2305843009213693951:Int))=some (wrap .u64 (a21 (lo:Int) 2305843009213693951),((lo%2305843009213693951:Nat):Int)):=by
 rfl
theorem d5k:wrap .u64 3=3:=by rfl
theorem d3K:wrap .u64 (64-3)=((61:Nat):Int):=by rfl
theorem d5l:A0n .u64 2305843009213693951 3=18446744073709551608:=by rfl
theorem d5m:A0o .u64 18446744073709551608 32=4294967295:=by rfl
theorem d5n:bits .u64 .and 18446744073709551608 4294967295=4294967288:=by rfl
theorem d5o:((2305843009213693951:Int)==0)=false:=by rfl
theorem d5p:decide ((3:Int)<0)=false:=by rfl
theorem d5q:decide (((61:Nat):Int)<0)=false:=by rfl
theorem d5r:((4294967295:Int)==0)=false:=by rfl
theorem c8N{u d Q v:Nat}(hv:(u*4294967296+d)%18446744073709551608=v)(h:Q*18446744073709551608≤u*4294967296+d)(g:u*4294967296+d<Q*18446744073709551608+18446744073709551608):
  wrap .u64 (wrap .u64 (wrap .u64 ((u:Int)*4294967296)+(d:Int))-wrap .u64 ((Q:Int)*18446744073709551608))=(v:Int):=by
 simp_all[d2l]
theorem d1x{u:Nat}(h:u<18446744073709551616):wrap .u64 ((u / 4294967295:Nat):Int)=((u / 4294967295:Nat):Int):=a0L (by omega)
theorem d2m{hi lo u d e v r:Nat}(hv:(u*4294967296+d)%18446744073709551608=v)(m:(v*4294967296+e)%18446744073709551608=r)(y:hi≠0)(z:hi<2305843009213693951)(o:hi*8+lo / 2305843009213693952=u)(i:lo*8%18446744073709551616 / 4294967296=d)(j:lo*8%18446744073709551616%4294967296=e)(A:lo<18446744073709551616)
  (h:u<4294967295*4294967296+4294967288)(f:d<4294967296)(a:e<4294967296):
  ∃q:Int,a2W ((hi:Int),(lo:Int),(2305843009213693951:Int))=some (q,((r / 8:Nat):Int)):=by
 have c0:((hi:Int)==0)=false:=by simp_all
 have b:decide ((2305843009213693951:Int)≤(hi:Int))=false:=decide_eq_false (by omega);have c:hi*8%18446744073709551616=hi*8:=by omega
 have l:bits .u64 .or ((hi*8:Nat):Int) (A0o .u64 (lo:Int) ((61:Nat):Int))=(u:Int):=by
  rw[c5a (k:=61) (by omega),show 2^61=2305843009213693952 from rfl,d7V (by omega) (by omega),o]
 have p:=d3I (u0:=e) (s:=3) h f;have B:=c8N hv (c7F rfl h f).1 (c7F rfl h f).2.1;have g:v<4294967295*4294967296+4294967288:=by grind
 have l1:=d3J (s:=3) (q1:=((b8d u d 4294967295 4294967288:Nat):Int)) g a;have C:=c8N m (c7F rfl g a).1 (c7F rfl g a).2.1;have t:=c6f (u:=u) (a07 h (by simp));have r2:=c6f (u:=v) (a07 g (by simp));have w:wrap .u64 ((u / 4294967295:Nat):Int)=((u / 4294967295:Nat):Int):=d1x (a07 h (by simp));have x:wrap .u64 ((v / 4294967295:Nat):Int)=((v / 4294967295:Nat):Int):=d1x (a07 g (by simp));have q1:a21 (u:Int) 4294967295=((u / 4294967295:Nat):Int):=rfl;have D:a21 (v:Int) 4294967295=((v / 4294967295:Nat):Int):=rfl;have g8:∀n:Nat,A0o .u64 (n:Int) 3=((n / 8:Nat):Int):=fun n=>c5a (k:=3) (by omega);unfold a2W;dsimp only;rw[d5o,cF,b,cF,c0,cF,d3H,oB,d5k,d5p,cF,cF,d3K,d5q,cF,cF,d5l,d5m,d5r,cF,d5n,sh3 hi,c,l,sh3 lo,c8M,i,d1w,j,q1,w,t,p,oB];simp_all
theorem d2n{hi lo:Nat}(h:hi<prm)(g:lo<18446744073709551616):∃q:Int,a2W ((hi:Int),(lo:Int),(2305843009213693951:Int))=some (q,(((hi*18446744073709551616+lo)%prm:Nat):Int)):=by
 by_cases h0:hi=0
 subst h0;rw[Nat.zero_mul,a28];exact⟨_,d0J lo⟩;rw[←d3F hi lo];exact d2m rfl rfl h0 h rfl rfl rfl g (d0H h g) (a70 (Nat.lt_of_lt_of_le (a20 _ (by omega)) (by omega))) (a20 _ (by omega))
theorem b8q{a b c:Nat}(g:a<prm)(hb:b<prm)(f:c≤prm):a5X ((a:Int),(b:Int),(c:Int))=some (((a*b+c)%prm:Nat):Int):=by
 have k:=c8L g hb f;unfold prm at g hb f k;have l:=d0I (a:=a) (b:=b) (by omega) (by omega);have j:a9n (((a*b%18446744073709551616:Nat):Int),(c:Int),(0:Int))=some ((((a*b%18446744073709551616+c)%18446744073709551616:Nat):Int),(((a*b%18446744073709551616+c) / 18446744073709551616:Nat):Int)):=rfl;obtain⟨hi,h⟩:∃hi,(a*b+c) / 18446744073709551616=hi:=⟨_,rfl⟩;rw[h]at k;have i:wrap .u64 (((a*b / 18446744073709551616:Nat):Int)+((a*b%18446744073709551616+c) / 18446744073709551616:Nat))=(hi:Int):=by
  grind[a0L]
 obtain⟨q,d⟩:=d2n (hi:=hi) (lo:=(a*b%18446744073709551616+c)%18446744073709551616) (by unfold prm;omega) (by omega);have e:hi*18446744073709551616+(a*b%18446744073709551616+c)%18446744073709551616=a*b+c:=by omega
 rw[e]at d;have t:a43 (hi:Int) 2305843009213693951=(hi:Int):=by
  grind
 unfold a5X a9o;simp_all
theorem b9k(l:List Int)(n i:Int):∀(j k:Nat)(s:Int),k+j=8→y0s a7V (s,l,n,i,(k:Int),())=some (rep e32 j s,l,n,i,())
 |0,k,s,h=>by
  obtain rfl:k=8:=by omega
  rfl
 |j+1,k,s,h=>by
  have d:decide ((k:Int)<8)=true:=by grind
  rw[a0F (s':=(e32 s,l,n,i,((k+1:Nat):Int),())) (by
   simp only[a7V,d,cT,a0B (show k<1000000 by omega),e32]
   grind)]
  exact b9k l n i j (k+1) (e32 s) (by omega)
theorem c1B{l:List Int}(k:short l):∀(rest done:List Int)(s:BitVec 32),done++rest=l→(∀b∈rest,0≤b∧b<256)→
  y0s a5c (((s.toNat:Nat):Int),l,(l.length:Int),(done.length:Int),())=some ((((d3B s (rest.map (a00 32))).toNat:Nat):Int),())
 | [],done,s,hd,_=>by
  obtain rfl:done=l:=by simp_all
  exact a0E (by simp only[a5c,dge,cF];rfl)
 |x::rest,done,s,hd,hb=>by
  have g:done.length<l.length:=by grind
  have a:m0k l (done.length:Int)=some x:=by grind[a0D]
  have c:=hb x (by simp);have e:bits .u32 .xor ((s.toNat:Nat):Int) (wrap .u32 x)=(((s ^^^ a00 32 x).toNat:Nat):Int):=by
   rw[←c7D]
   grind[a22,wrap,IntKind.bits]
  have f:=b9k l (l.length:Int) (done.length:Int) 8 0 (bits .u32 .xor ((s.toNat:Nat):Int) (wrap .u32 x)) rfl;rw[e,c4Z]at f;rw[a0F (s':=((((d0E s (a00 32 x)).toNat:Nat):Int),l,(l.length:Int),(((done++[x]).length:Nat):Int),())) (by
   simp only[a5c,dlt g,cT,a,oB,e]
   erw[f]
   simp only[oB,a0B (a07 g k)];simp[d0E])]
  exact c1B k rest (done++[x]) _ (by simp_all) (fun b h=>hb b (by grind))
theorem b8e{l:List Int}(g:short l)(hb:∀b∈l,0≤b∧b<256):a4J l=some ((a4p l:Nat):Int):=by
 have h:=c1B g l [] 0xffffffff#32 rfl hb;rw[a19]at h;unfold a4J
 erw[h]
 simp only[oB];rw[show IntKind.max .u32=(((0xffffffff#32).toNat:Nat):Int)from rfl,c7D];rfl
theorem c1C{l:List Int}(k:short l):∀(rest done:List Int)(h:Nat),done++rest=l→h<prm→(∀b∈rest,0≤b∧b<256)→
  y0s a8f ((h:Int),l,(l.length:Int),(done.length:Int),())=some (((prs h (rest.map a30):Nat):Int),())
 | [],done,h,hd,_,_=>by
  obtain rfl:done=l:=by simp_all
  exact a0E (by simp only[a8f,dge,cF];rfl)
 |x::rest,done,h,hd,hh,hb=>by
  have g:done.length<l.length:=by grind
  have d:m0k l (done.length:Int)=some x:=by grind[a0D]
  have i:=hb x (by simp);have e:wrap .u64 ((wrap .u64 x)+(1:Int))=((x.toNat+1:Nat):Int):=by grind[a0L]
  have f:=b8q (a:=h) (b:=1000003) (c:=x.toNat+1) hh (by decide) (by unfold prm;omega);rw[a0F (s':=((((h*1000003+(x.toNat+1))%prm:Nat):Int),l,(l.length:Int),(((done++[x]).length:Nat):Int),())) (by
   simp only[a8f,dlt g,cT,d,oB,e]
   erw[f]
   simp[a0B (a07 g k)])]
  exact c1C k rest (done++[x]) _ (by simp_all) (a20 _ (by decide)) (fun b h=>hb b (by grind))
theorem c5b{l:List Int}(g:short l)(hb:∀b∈l,0≤b∧b<256):a8t l=some ((prI l:Nat):Int):=by
 have h:=c1C g l [] 0 rfl (by decide) hb;unfold a8t
 erw[h]
 rfl
theorem b6Q:∀(k n p s:Nat),n<2^k→n<4611686018427387904→p<prm→s<prm→y0s a8e ((n:Int),(p:Int),(s:Int),())=some (((pwr k n p s:Nat):Int),())
 |0,n,p,s,hn,_,_,_=>by
  obtain rfl:n=0:=by omega
  rfl
 |k+1,n,p,s,hn,hn2,hp,hs=>by
  by_cases h0:n=0
  subst h0;rfl;have d:decide ((n:Int) > 0)=true:=by grind
  have f:a43 (n:Int) 2=((n%2:Nat):Int):=rfl;have e:wrap .i64 (a21 (n:Int) 2)=((n / 2:Nat):Int):=by rw[show a21 (n:Int) 2=((n / 2:Nat):Int)from rfl,a0C (by omega)]
  have g:=b8q (c:=0) hs hs (by simp);have h:=b8q (c:=0) hp hs (by simp);have a:n / 2<2^k:=by omega
  simp only[a78,nZ]at g h;have m:=a20 (s*s) (show 0<prm by decide);rw[pwr,if_neg h0]
  by_cases h1:n%2=1
  rw[if_pos h1,a0F (s':=(((n / 2:Nat):Int),((p*s%prm:Nat):Int),((s*s%prm:Nat):Int),())) (by
   simp only[a8e,d,cT,f,h1,show(((1:Nat):Int)==1)=true from rfl];simp_all)]
  exact b6Q k _ _ _ a (by omega) (a20 _ (by decide)) m;have b:n%2=0:=by omega
  rw[if_neg h1,a0F (s':=(((n / 2:Nat):Int),(p:Int),((s*s%prm:Nat):Int),())) (by
   simp only[a8e,d,cT,f,b,show(((0:Nat):Int)==1)=false from rfl,cF,oB];simp_all)]
  exact b6Q k _ _ _ a (by omega) hp m
theorem c2o{a b n:Nat}(f:a<prm)(hb:b<prm)(h:n<4611686018427387904):a7N ((a:Int),(b:Int),(n:Int))=some ((((a*(1000003^n%prm)+b)%prm:Nat):Int),true):=by
 have hp:=b6Q 62 n 1 1000003 h h (by decide) (by decide);rw[d3A 62 n 1 1000003 h (by decide),Nat.one_mul]at hp;have j:=b8q (c:=b) f (a20 (1000003^n) (show 0<prm by decide)) (a47 hb);unfold prm at f hb;have k:decide ((a:Int)≥(2305843009213693951:Int))=false:=by grind
 have d:decide ((b:Int)≥(2305843009213693951:Int))=false:=by grind
 have e:decide ((n:Int)<(0:Int))=false:=by simp
 have i:v0r (n:Int) 0=(n:Int):=by rfl
 have g:b1e (n:Int)=some ((1000003^n%prm:Nat):Int):=by
  simp_all[b1e]
 simp only[a7N,k,d,e,cF,oB,g];simp_all
theorem c5c(b:a1l)(N:Int){i:Nat}:∀(rest done:List (List Int)) (out:List Int),done++rest=b.2.1→b.2.1.length≤8→(∀r∈rest,i<r.length)→out.length+rest.length<1000000→
  y0s a6Y ((i:Int),N,(i:Int),b.2.1,(b.2.1.length:Int),(done.length:Int),out,b,())=some (N,(i:Int),out++rest.map (fun r=>r.getD i 0),b,())
 | [],done,out,hd,_,_,_=>by
  simp_all[a0E,a6Y]
 |r::rest,done,out,hd,h8,hr,ho=>by
  have g:done.length<b.2.1.length:=by grind
  have f:m0k b.2.1 (done.length:Int)=some r:=by grind[a0D]
  have k:=hr r (by simp);have h:m0k r (i:Int)=some (r.getD i 0):=by simp_all[a0D]
  simp at ho;rw[a0F (s':=((i:Int),N,(i:Int),b.2.1,(b.2.1.length:Int),(((done++[r]).length:Nat):Int),out++[r.getD i 0],b,())) (by
   simp only[a6Y,dlt g,cT,f,h,oB,a0S (show out.length+1<2147483648 by omega),a0B (show done.length<1000000 by omega)]
   simp)]
  rw[c5c b N rest (done++[r]) _ (by simp_all) h8 (fun q a=>hr q (by grind)) (by grind)]
  simp
theorem c5d{b:a1l}(hb:a2S b):a7v b=some (wvB b):=by
 obtain⟨g1,g2,g3,g4,g5,g6,g7⟩:=id hb;have hlen:∀r∈b.2.1,r.length=a0T b:=fun r hr=>by
  simp_all
 have hw:∀i,i≤4096→(wv i b.2.1).length≤32768:=fun i hi=>by
  rw[c8I]
  calc i*b.2.1.length≤4096*8:=a05 hi g4
   _=32768:=rfl
 have h:=a1G (f:=a6Z) (fun i=>(((a0T b:Nat):Int),(i:Int),wv i b.2.1,b,())) (a0T b) (b:=(wv (a0T b) b.2.1,())) (fun i hi=>by
  have h0:=c5c b ((a0T b:Nat):Int) (i:=i) b.2.1 [] (wv i b.2.1) rfl g4 (fun r hr=>by simp_all) (by grind);rw[a19]at h0;simp only[a6Z,dlt hi,cT]
  grind[a0B,wv,a34]) (by simp_all[a6Z])
 unfold a7v;simp[a8F,hb,a6L]
 erw[h]
 rfl
theorem b8r{b:a1l}:(wvB b).length=a0T b*b.2.1.length:=c8I _
theorem d2o{b:a1l}(hb:a2S b):(wvB b).all (fun x=>a1i x b.1)=true:=by
 obtain⟨g,f,k,a,c,d,e⟩:=hb;refine lA.2 fun x h=>?_
 unfold wvB wv at h
 grind
theorem c6g{b:a1l}(hb:a2S b):a8s b=some (a1c b.1 (wvB b),0):=by
 have hl:(wvB b).length≤1000000:=by
  rw[b8r]
  calc a0T b*b.2.1.length≤4096*8:=a05 hb.2.2.2.2.2.1 hb.2.2.2.1
   _≤1000000:=by simp
 unfold a8s;simp only[a8F,hb,decide_true,oB,bT,cF,c5d hb,c2l ⟨hb.1,hb.2.1⟩ hl (d2o hb)]
theorem b8f{b:a1l}(hb:a2S b){w:Int}(h:b.1=w)(d:List Int):a4E (((prI (a1c w d):Nat):Int),b)=some (((prI (a1c w (d++wvB b)):Nat):Int),true):=by
 subst h;have g:=c1A ⟨hb.1,hb.2.1⟩ (wvB b);have f:(wvB b).length≤4096*8:=by rw[b8r];exact a05 hb.2.2.2.2.2.1 hb.2.2.2.1
 have k:=c2o (b2U (a1c b.1 d)) (b2U (a1c b.1 (wvB b))) (n:=(a1c b.1 (wvB b)).length) (by omega);unfold a4E;simp only[c6g hb,oB,show((0:Int) != 0)=false from rfl,cF,c5b (show short (a1c b.1 (wvB b))by unfold short;omega) (b8a _ _),b6L,c2m];simp_all
theorem d0K(d:List Int)(x:Int){ch:Nat}(h:0<ch):(a2D d ch).set (d.length%ch) ((a2D d ch).getD (d.length%ch) []++[x])=a2D (d++[x]) ch:=by
 have k:=a20 d.length h;refine a58 (by simp[a2D]) fun i g f=>?_
 simp[a2D]at g;rw[List.getElem_set];simp_all[a2D,c8F]
theorem d2p{fm:a0J}(e:a2y fm){ch:Nat}(k:fm.2.1=(ch:Int)){l:List Int}{n:Nat}(p:1≤n∧n≤4096)(j:l.length=n*ch)(a:l.all (fun x=>a1i x fm.2.2.1)=true):
  b1p (l,fm)=some (a7H fm.2.2.1 l ch,0):=by
 have g:1≤ch∧ch≤8:=by have:=e.2.2.1;have:=e.2.2.2.1;omega
 have G:l.length≤4096*8:=by rw[j];exact a05 p.2 g.2
 have q:1≤l.length:=by rw[j];exact Nat.mul_pos p.1 g.1
 have w:4≤fm.2.2.1∧fm.2.2.1≤24:=e.2.2.2.2;have c0:((ch:Int)==0)=false:=by grind
 have h:=a1G (f:=a8k) (fun i=>(l,((l.length:Nat):Int),(i:Int),b2S,(fm.2.2.1,a2D (l.take i) ch,()),fm,())) l.length (b:=Sum.inl (b2S,a7H fm.2.2.1 l ch,())) (fun i hi=>by
  have t:a43 (i:Int) (ch:Int)=((i%ch:Nat):Int):=rfl;have v:=a20 i g.1;have m:∀d,(a2D d ch).length=ch:=fun d=>by simp[a2D]
  have r:decide ((0:Int)≤((i%ch:Nat):Int))=true:=decide_eq_true (a03 _);have y:a1i l[i] fm.2.2.1=true:=lA.1 a _ (a25 hi);have o:(l.take i).length=i:=by grind
  have u:((a2D (l.take i) ch).getD (i%ch) []).length≤32768:=by
   grind[a2D,b2a]
  have c:=d0K (l.take i) l[i] g.1;rw[o]at c;simp only[a8k,dlt hi,cT,a0D hi,oB,b4C w,y,bT,cF,k,c0,t,r,List.length_set,m,dlt v,a01,tN,a0S (show((a2D (l.take i) ch).getD (i%ch) []).length+1<2147483648 by omega),beq_self_eq_true,Bool.and_true,a0B (show i<1000000 by omega)];simp_all) (by
  simp only[a8k,dge,cF,a57];rfl)
 have s:a2D ([]:List Int) ch=a04 ch []:=by
  refine a58 (by simp[a2D]) fun i E F=>?_
  simp[a2D,b2a]
 have q1:(((l.length:Nat):Int)==0)=false:=by grind
 have z:a43 ((l.length:Nat):Int) (ch:Int)=0:=by
  simp_all
 have A:wrap .i64 (a21 ((l.length:Nat):Int) (ch:Int))=(n:Int):=by
  rw[show a21 ((l.length:Nat):Int) (ch:Int)=((l.length / ch:Nat):Int)from rfl,j,a76 _ g.1,a0C (by omega)]
 have B:decide ((n:Int) > 4096)=false:=by grind
 have C:decide ((0:Int)≤(ch:Int))=true:=by simp
 have D:decide ((ch:Int)≤(ch:Int))=true:=by simp
 unfold b1p;simp only[a4H,e,decide_true,oB,bT,cF,q1,k,c0,z,show((0:Int) != 0)=false from rfl,A,B,C,D,tN,a0S (show ch<2147483648 by omega),a01,cT];simp only[List.take_zero,s]at h
 erw[h]
 rfl
theorem b3R{α:Type}(a:List α)(x:α)(b:List α):m0k (a++x::b) (a.length:Int)=some x:=by
 simp_all[a0D]
theorem c1D:∀(a b:List Pc)(st off:Nat),a2U st off (a++b)=a2U st off a++a2U (st+a1q a) (off+(a0V a).length) b
 | [],b,st,off=>by rfl
 |y::a,b,st,off=>by
  simp_all[a2U,c1D,a1q,a0V,a55]
theorem c5e{fm:a0J}{all:List Pc}(h:all.length≤256){t:b9O}(p:t.1=fm)(a:t.2.2.2.1=a2U 0 0 all):∀(rest done:List Pc),done++rest=all→a2T fm (a1q done) rest→(a0V done).length≤700800*done.length→a1q done≤64*done.length→
  y0s a9a (((a1q done:Nat):Int),(((a0V done).length:Nat):Int),((a2e fm done:Nat):Int),all.map (·.1),((all.map (·.1)).length:Int),(done.length:Int),done.map (·.2.2),done.map (·.2.1),t,()) =
   some (.inl (((a1q all:Nat):Int),((a2e fm all:Nat):Int),all.map (·.2.2),all.map (·.2.1),t,()))
 | [],done,hd,_,_,_=>by
  obtain rfl:done=all:=by simp_all
  simp_all[a0E,a9a]
 |x::rest,done,hd,hr,hb,hl=>by
  obtain⟨⟨u,d,v,e,j,y,l,m,z,b,c⟩,hr2⟩:=hr;have f:done.length<(all.map (·.1)).length:=by grind
  have k:all.length=done.length+(rest.length+1):=by grind
  have o:m0k (all.map (·.1)) (done.length:Int)=some x.1:=by
   grind[b3R]
  have g:m0k t.2.2.2.1 (done.length:Int)=some (((a1q done:Nat):Int),(((a0V done).length:Nat):Int),()):=by
   have:=b3R (a2U 0 0 done) (((a1q done:Nat):Int),(((a0V done).length:Nat):Int),()) (a2U (a1q done+a0T x.2.1) ((a0V done).length+x.2.2.length) rest)
   rw[a9k]at this;rw[a,←hd,c1D];simp_all[a2U]
  have n:eqT (.pair (.int .i64) (.pair (.int .i64) (.pair (.int .i64) .unit))) x.1.2.2.1 t.1=true:=by simp_all[b9J]
  have q:=b8f l (w:=fm.2.2.1) m (a4o done);have n1:(x.1.1 != ((a1q done:Nat):Int))=false:=by simp_all
  have n2:∀i:Int,(i != i)=false:=fun i=>by simp
  have r:((0:Int) != 0)=false:=rfl;have s:wrap .i64 (((a1q done:Nat):Int)+((a0T x.2.1:Nat):Int))=((a1q (done++[x]):Nat):Int):=by grind[a5U,a0C]
  have w2:wrap .i64 ((((a0V done).length:Nat):Int)+((x.2.2.length:Nat):Int))=(((a0V (done++[x])).length:Nat):Int):=by grind[a7T,a0C]
  rw[a0F (s':=(((a1q (done++[x]):Nat):Int),(((a0V (done++[x])).length:Nat):Int),((a2e fm (done++[x]):Nat):Int),all.map (·.1),((all.map (·.1)).length:Int),(((done++[x]).length:Nat):Int),(done++[x]).map (·.2.2),(done++[x]).map (·.2.1),t,())) (by
   simp only[a9a,dlt f,cT,o,oB];rw[n];simp only[bT,cF,oB,n1,g,n2,e,r,j]
   erw[q]
   simp only[oB,bT,cF,a06,a0S (show done.length+1<2147483648 by omega),cT,d,s,w2,a0B (show done.length<1000000 by omega)]
   simp[a2e,b3I])]
  exact c5e h p a rest (done++[x]) (by simp_all) (by simp_all[a5U]) (by grind[a7T]) (by grind[a5U])
theorem c8O{fm:a0J}(c:a2y fm){xs:List Pc}(b:a2T fm 0 xs)(g:xs.length≤256):a9F (mkT fm xs)=some (xs.map (·.2.2),xs.map (·.2.1),true):=by
 have h:=c5e g (t:=mkT fm xs) rfl rfl xs [] rfl b (by simp[a0V]) (by simp[a1q]);have a:a1U (mkT fm xs).1=some true:=by simp_all[a4H,mkT]
 have f:decide (((a08 (mkT fm xs).2.2.2.2.1:Nat):Int) > (4096:Int))=false:=by simp[mkT];omega
 have k:(((a08 (mkT fm xs).2.2.2.1:Nat):Int) != ((a08 (mkT fm xs).2.2.2.2.1:Nat):Int))=false:=by simp[mkT,a9k]
 unfold a9F;simp[a,f,k]
 erw[h]
 simp_all[mkT]
theorem b8g{α:Type}(a:List α)(x d:α)(b:List α):(a++x::b).getD a.length d=x:=by
 rw[lD];simp
theorem c3j{fm:a0J}{all:List Pc}(h:all.length≤256)(t:b9O)(A:List Nat)(e:A.length=4):∀(rest done:List Pc)(st:Nat),done++rest=all→a2T fm st rest→
  y0s a9b (all.map (·.1),((all.map (·.1)).length:Int),(done.length:Int),all.map (·.2.2),asI (A++nsP done),t,())=some (all.map (·.2.2),asI (A++nsP all),t,())
 | [],done,st,hd,_=>by
  obtain rfl:done=all:=by simpa using hd
  exact a0E (by simp only[a9b,a06,dge,cF])
 |x::rest,done,st,hd,hr=>by
  obtain⟨⟨m,d,n,o,p,q,r,s,u,b,c⟩,hr2⟩:=hr;have k:done.length<(all.map (·.1)).length:=by rw[←hd];simp
  have g:done.length<(all.map (·.2.2)).length:=by rw[←hd];simp
  have j:m0k (all.map (·.1)) (done.length:Int)=some x.1:=by
   have:=b3R (done.map (·.1)) x.1 (rest.map (·.1))
   rw[a06]at this;rw[←hd,pA,a23];exact this
  have hp:(all.map (·.2.2)).getD done.length []=x.2.2:=by
   have:=b8g (done.map (·.2.2)) x.2.2 [] (rest.map (·.2.2))
   rw[a06]at this;rw[←hd,pA,a23];exact this
  have a:decide ((0:Int)≤(done.length:Int))=true:=decide_eq_true (a03 _);have i:done.length<all.length:=by rw[←hd];simp
  have f:(asI (A++nsP done)).length+2<2147483648:=by simp only[asI,a06,lN,b6e];omega
  have l:wrap .u64 ((x.2.2.length:Nat):Int)=((x.2.2.length:Nat):Int):=a0L (by omega);have w2:wrap .u64 ((a0T x.2.1:Nat):Int)=((a0T x.2.1:Nat):Int):=a0L (by omega);rw[a0F (s':=(all.map (·.1),((all.map (·.1)).length:Int),(((done++[x]).length:Nat):Int),all.map (·.2.2),asI (A++nsP (done++[x])),t,())) (by
   simp only[a9b,dlt k,dlt g,a,a01,cT,j,oB,a0S f,tN,hp,l,d,w2,a0B (show done.length<1000000 by omega)];simp[d0G,asI])]
  exact c3j h t A e rest (done++[x]) _ (by simpa using hd) hr2
theorem c3k{all:List (List Int)}(g:all.length≤256)(h:∀p∈all,p.length≤700800):∀(rest done:List (List Int)) (out:List Int),done++rest=all→out.length+700800*rest.length≤190000000→
  y0s a9c ((all.length:Int),(done.length:Int),out,all,())=some (out++rest.flatten,())
 | [],done,out,hd,_=>by
  obtain rfl:done=all:=by simpa using hd
  rw[a0E (b:=(out,())) (by simp only[a9c,dge,cF])]
  simp
 |p::rest,done,out,hd,ho=>by
  have f:done.length<all.length:=by rw[←hd];simp
  have hp:all.getD done.length []=p:=by rw[←hd];exact b8g done p [] rest
  have a:=h p (by rw[←hd];simp);have k:decide ((0:Int)≤(done.length:Int))=true:=decide_eq_true (a03 _);simp only[lC]at ho;rw[a0F (s':=((all.length:Int),(((done++[p]).length:Nat):Int),out++p,all,())) (by
   simp only[a9c,dlt f,k,a01,cT,tN,hp,a0S (show out.length+p.length<2147483648 by omega),a0B (show done.length<1000000 by omega)]
   simp)]
  rw[c3k g h rest (done++[p]) (out++p) (by simpa using hd) (by simp only[lN];omega)]
  simp
theorem c1E{fm:a0J}:∀{xs:List Pc}{st:Nat},a2T fm st xs→∀p∈xs.map (·.2.2),p.length≤700800
 | [],_,_,p,hp=>by simp at hp
 |x::xs,st,h,p,hp=>by
  rcases mC.1 hp with rfl|hp;exact h.1.2.2.2.2.2.2.2.2.2.2;exact c1E h.2 p hp
theorem b9l:∀(l:List Nat),(∀n∈l,n<9223372036854775808)→∀b∈l.flatMap a0K,0≤b∧b<256:=fun l h b hb=>by
 obtain⟨n,g,hb⟩:=a81.1 hb;exact c1n 8 n (by rw[show(128:Nat)^(8+1)=9223372036854775808 from by decide];exact h n g) b hb
theorem c5L{fm:a0J}(g:a2y fm){xs:List Pc}(h:a2T fm 0 xs)(k:xs.length≤256):∀b∈a1v fm xs,0≤b∧b<256:=fun b hb=>by
 unfold a1v at hb;rcases mA.1 hb with hb|hb;simp only[b9P,mC,a40,or_false]at hb;omega;rcases mA.1 hb with hb|hb;exact b9l _ (fun n f=>a07 (a7U g h k n f) (by decide)) b hb;exact b6O _ _ b hb
theorem c3l{fm:a0J}(f:a2y fm){xs:List Pc}(g:a2T fm 0 xs)(h:xs.length≤256):a9G (mkT fm xs)=some (a5V fm xs,0):=by
 obtain⟨s,t,u,v,w,x⟩:=id f;have c:=c3j h (mkT fm xs) [fm.1.toNat,fm.2.1.toNat,fm.2.2.1.toNat,xs.length] rfl xs [] 0 rfl g;have hp:=b7V (ns:=a3Q fm xs) (fun n j=>a07 (a7U f g h n j) (by decide)) (by simp only[a3Q,lN,b6e,lC,a19];omega);have hv:=b5c (a3Q fm xs) fun n i=>a07 (a7U f g h n i) (by decide);have z:(a3Q fm xs).length≤516:=by simp only[a3Q,lN,b6e,lC,a19];omega
 have y:=c3i f g h;have e:=b8b (n:=a2e fm xs) (k:=8) (by have:=b2U (a1c fm.2.2.1 (a4o xs));unfold prm at this;unfold a2e;omega) (by omega);have d:=b8b (n:=a4p (a1v fm xs)) (k:=4) (by have:=b6P (a1v fm xs);omega) (by omega);have m:=b8e (l:=a1v fm xs) (by unfold short;omega) (c5L f g h);have hb:=c3k (all:=xs.map (·.2.2)) (by simpa using h) (c1E g) (xs.map (·.2.2)) [] (a1v fm xs++a7Y 4 (a4p (a1v fm xs))) rfl (by simp only[lN,a06,b0I];omega);have o:wrap .u64 fm.1=((fm.1.toNat:Nat):Int):=by rw[a0L (by omega)];omega
 have w2:wrap .u64 fm.2.1=((fm.2.1.toNat:Nat):Int):=by rw[a0L (by omega)];omega
 have p:wrap .u64 fm.2.2.1=((fm.2.2.1.toNat:Nat):Int):=by rw[a0L (by omega)];omega
 have q:wrap .u64 ((a08 (xs.map (·.1)):Nat):Int)=((xs.length:Nat):Int):=by rw[a06,a0L (by omega)]
 have r:wrap .u64 ((a4p (a1v fm xs):Nat):Int)=((a4p (a1v fm xs):Nat):Int):=a0L (by have:=b6P (a1v fm xs);omega);unfold a9G;rw[c8O f g h];simp only[oB,bT,cF,mkT,o,w2,p,q]
 erw[c]
 simp only[oB]
 erw[hp]
 simp only[oB,a0S (show 4+((a3Q fm xs).flatMap a0K).length<2147483648 by omega),cT]
 erw[e]
 have b:a82 (a82 ([(75:Int),(78:Int),(83:Int),(68:Int)]:List Int) ((a3Q fm xs).flatMap a0K)) (a7Y 8 (a2e fm xs))=a1v fm xs:=aA ..;have a:(a82 ([(75:Int),(78:Int),(83:Int),(68:Int)]:List Int) ((a3Q fm xs).flatMap a0K)).length+(a7Y 8 (a2e fm xs)).length<2147483648:=by
  have:=congrArg a08 b
  simp only[a66,lN]at this⊢;omega
 simp only[oB,a0S a,cT,b,m,r]
 erw[d]
 simp only[oB,a0S (show(a1v fm xs).length+(a7Y 4 (a4p (a1v fm xs))).length<2147483648 by rw[b0I];omega),cT]
 erw[hb]
 simp only[oB,a5V,a0V,List.flatMap_def,aA]
theorem b8h{all:List a1l}(f:all.length≤256):∀(rest done:List a1l)(out:List Int),done++rest=all→(∀b∈rest,a2S b)→out.length+32768*rest.length≤9000000→
  y0s a5N ((all.length:Int),(done.length:Int),out,all,())=some (out++rest.flatMap wvB,())
 | [],done,out,hd,_,_=>by
  obtain rfl:done=all:=by simpa using hd
  rw[a0E (b:=(out,())) (by simp only[a5N,dge,cF])]
  simp
 |p::rest,done,out,hd,hb,ho=>by
  have k:done.length<all.length:=by rw[←hd];simp
  have hp:all.getD done.length ((0:Int),([]:List (List Int)),())=p:=by rw[←hd];exact b8g done p _ rest
  have g:=hb p (by simp);have c:(wvB p).length≤4096*8:=by rw[b8r];exact a05 g.2.2.2.2.2.1 g.2.2.2.1
  have a:decide ((0:Int)≤(done.length:Int))=true:=decide_eq_true (a03 _);simp only[lC]at ho;rw[a0F (s':=((all.length:Int),(((done++[p]).length:Nat):Int),out++wvB p,all,())) (by
   simp only[a5N,dlt k,a,a01,cT,tN,hp,c5d g,oB,a0S (show out.length+(wvB p).length<2147483648 by omega),a0B (show done.length<1000000 by omega)]
   simp)]
  rw[b8h f rest (done++[p]) (out++wvB p) (by simpa using hd) (fun b h=>hb b (by simp[h])) (by simp only[lN];omega)]
  simp
theorem c5f{fm:a0J}:∀{xs:List Pc}{st:Nat},a2T fm st xs→∀b∈xs.map (·.2.1),a2S b
 | [],_,_,p,hp=>by simp at hp
 |x::xs,st,h,p,hp=>by
  rcases mC.1 hp with rfl|hp;exact h.1.2.2.2.2.2.2.1;exact c5f h.2 p hp
theorem c7G{fm:a0J}(k:a2y fm){xs:List Pc}(f:a2T fm 0 xs)(g:xs.length≤256):a3N (mkT fm xs)=some (a4o xs,0):=by
 have h:=b8h (all:=xs.map (·.2.1)) (by simpa using g) (xs.map (·.2.1)) [] [] rfl (c5f f) (by simp;omega);unfold a3N;rw[c8O k f g];simp only[oB,bT,cF]
 erw[h]
 simp[a4o,List.flatMap_map]
theorem d2q{P A R:List Int}(b:(P++(A++R)).length<1000000000):a5b (ord P (A++R),(A.length:Int))=some (A,ord (P++A) R):=by
 simp at b;have c:v0r (A.length:Int) 0=(A.length:Int):=by rfl
 have d:wrap .i64 (((P++(A++R)).length:Int)-(P.length:Int))=((A++R).length:Int):=by
  grind[a0C]
 have h:decide ((A.length:Int) > ((A++R).length:Int))=false:=by grind
 have w2:wrap .i64 ((P.length:Int)+(A.length:Int))=(((P++A).length:Nat):Int):=by
  grind[a0C]
 have g:decide ((0:Int)≤(((P++A).length:Nat):Int))=true:=by rfl
 have f:decide ((((P++A).length:Nat):Int)≤((P++(A++R)).length:Int))=true:=by simp_all
 have k:decide ((0:Int)≤(P.length:Int))=true:=by simp
 have a:decide ((P.length:Int)≤(((P++A).length:Nat):Int))=true:=by grind
 have e:a53 P.length (a42 (P++A).length (P++(A++R)))=A:=by
  grind
 unfold a5b a1K ord;simp only[show((0:Int) != 0)=false from rfl,cF,oB,c,d,h,w2,g,f,k,a,a01,cT,tN,e,a0S (show A.length<2147483648 by omega),aA]
theorem c5g{all:List Int}(a:all.length≤8)(z:List Int×(Int×Int×Unit)):∀(rest done:List Int)(n:Nat),done++rest=all→(∀b∈rest,0≤b∧b<256)→n<256^done.length→
  y0s a3H ((n:Int),(all.length:Int),(done.length:Int),all,z,())=some (((b5D n rest:Nat):Int),z,())
 | [],done,n,hd,_,_=>by
  obtain rfl:done=all:=by simp_all
  exact a0E (by simp only[a3H,dge,cF];rfl)
 |x::rest,done,n,hd,hb,hn=>by
  have g:done.length<all.length:=by grind
  have hp:all.getD done.length 0=x:=by grind
  have d:=hb x (by simp);have f:decide ((0:Int)≤(done.length:Int))=true:=decide_eq_true (a03 _);have c:256^done.length≤256^7:=a41 (by omega) (by omega);have k:(256:Nat)^7=72057594037927936:=by rfl
  have w:wrap .u64 ((wrap .u64 ((n:Int)*(256:Int)))+(wrap .u64 x))=((n*256+x.toNat:Nat):Int):=by
   grind[a0L]
  rw[a0F (s':=(((n*256+x.toNat:Nat):Int),(all.length:Int),(((done++[x]).length:Nat):Int),all,z,())) (by
   simp only[a3H,dlt g,f,a01,cT,tN,hp,w,a0B (show done.length<1000000 by omega)]
   simp)]
  exact c5g a z rest (done++[x]) _ (by simp_all) (fun b h=>hb b (by grind)) (by grind)
theorem c6h{P A R:List Int}{k:Nat}(f:A.length=k)(g:k≤8)(hb:∀b∈A,0≤b∧b<256)(a:(P++(A++R)).length<1000000000):a3y (ord P (A++R),(k:Int))=some (((b5D 0 A:Nat):Int),ord (P++A) R):=by
 subst f;have h:=c5g g (ord (P++A) R) A [] 0 rfl hb (by simp)
 grind[a3S,b5L,c1V,a3y,d2q]
@[reducible] def b8s:Type:=a0J×(List Int×(List Int×(Int×(Int×(Int×Unit)))))
def a3G(xs:List Pc):List Int:=xs.map fun x=>((x.2.2.length:Nat):Int)
def a4q(xs:List Pc):List Int:=xs.map fun x=>((a0T x.2.1:Nat):Int)
def b6R(fm:a0J)(xs:List Pc)(pr bg:Nat):b8s:=(fm,a3G xs,a4q xs,((a1q xs:Nat):Int),(pr:Int),(bg:Int),())
def b9Q:b8s:=((0,0,0,()),[],[],0,0,0,())
theorem b9m{all:List Pc}(h:all.length≤256)(x:List Int)(fm:a0J)(z:b8s)(u:Int×(Int×Int×Unit)){R:List Int}:∀(rest done:List Pc)(P:List Int)(st:Nat),done++rest=all→a2T fm st rest→
  (P++((nsP rest).flatMap a0K++R)).length<1000000000→
  y0s a5v (x,(all.length:Int),(done.length:Int),z,(fm,a3G done,a4q done,u),ord P ((nsP rest).flatMap a0K++R),()) =
   some (x,z,(fm,a3G all,a4q all,u),ord (P++(nsP rest).flatMap a0K) R,())
 | [],done,P,st,hd,_,_=>by
  obtain rfl:done=all:=by simp_all
  simp_all[a0E,a5v,nsP]
 |y::rest,done,P,st,hd,hr,hl=>by
  obtain⟨⟨i,j,l,m,o,p,q,r,s,a,b⟩,hr2⟩:=hr;have k:done.length<all.length:=by grind
  have e:(nsP (y::rest)).flatMap a0K++R=a0K y.2.2.length++(a0K (a0T y.2.1)++((nsP rest).flatMap a0K++R)):=by simp[nsP]
  rw[e]at hl⊢;have g:=a1F hl;have f:=a1F g;have n1:=a3a (n:=y.2.2.length) (most:=1048704) (by omega) (by omega) hl;have n2:=a3a (n:=a0T y.2.1) (most:=4096) (by omega) (by omega) g;have c:wrap .i64 ((y.2.2.length:Nat):Int)=((y.2.2.length:Nat):Int):=a0C (by omega);have w2:wrap .i64 ((a0T y.2.1:Nat):Int)=((a0T y.2.1:Nat):Int):=a0C (by omega);have d:wrap .u64 ((done.length:Int)+1)=(((done++[y]).length:Nat):Int):=by grind[a0L]
  have l1:(a3G done).length=done.length:=by simp[a3G]
  have l2:(a4q done).length=done.length:=by simp[a4q]
  rw[a0F (s':=(x,(all.length:Int),(((done++[y]).length:Nat):Int),z,(fm,a3G (done++[y]),a4q (done++[y]),u),ord ((P++a0K y.2.2.length)++a0K (a0T y.2.1)) ((nsP rest).flatMap a0K++R),())) (by
   simp only[a5v,dlt k,cT,n1,n2,oB,l1,l2,a0S (show done.length+1<2147483648 by omega),c,w2,d];simp[a3G,a4q])]
  rw[b9m h x fm z u rest (done++[y]) _ _ (by simp_all) hr2 f];simp[nsP]
theorem c5h{all:List Pc}(h:all.length≤256)(fm:a0J)(z:b8s)(v:List Int)(u:Int×(Int×Unit)):∀(rest done:List Pc)(st:Nat),done++rest=all→a2T fm st rest→a1q done≤64*done.length→
  y0s a5w ((all.length:Int),(done.length:Int),z,(fm,v,a4q all,((a1q done:Nat):Int),u),())=some (.inl (z,(fm,v,a4q all,((a1q all:Nat):Int),u),()))
 | [],done,st,hd,_,_=>by
  obtain rfl:done=all:=by simp_all
  simp_all[a0E,a5w]
 |y::rest,done,st,hd,hr,ho=>by
  obtain⟨⟨i,j,l,m,n,o,d,p,q,b,c⟩,hr2⟩:=hr;have f:done.length<all.length:=by grind
  have g:done.length<(a4q all).length:=by simp_all[a4q]
  have hp:(a4q all).getD done.length 0=((a0T y.2.1:Nat):Int):=by
   grind[a4q]
  have k:=d.2.2.2.2.1;have e:(((a0T y.2.1:Nat):Int)==0)=false:=by grind
  have a:decide ((0:Int)≤(done.length:Int))=true:=decide_eq_true (a03 _);have w:wrap .i64 (((a1q done:Nat):Int)+((a0T y.2.1:Nat):Int))=((a1q (done++[y]):Nat):Int):=by grind[a5U,a0C]
  rw[a0F (s':=((all.length:Int),(((done++[y]).length:Nat):Int),z,(fm,v,a4q all,((a1q (done++[y]):Nat):Int),u),())) (by
   simp only[a5w,dlt f,dlt g,a,a01,cT,tN,hp,e,cF,w,a0B (show done.length<1000000 by omega)]
   simp)]
  exact c5h h fm z v u rest (done++[y]) _ (by simp_all) hr2 (by grind[a5U])
theorem c5M{fm:a0J}(j:a2y fm){xs:List Pc}(e:a2T fm 0 xs)(h:xs.length≤256){A C R:List Int}(y:A.length=8)(bA:∀b∈A,0≤b∧b<256)(N:C.length=4)(F:∀b∈C,0≤b∧b<256)(hR:R.length≤190000000)
  {H:List Int}(q:H=b9P++((a3Q fm xs).flatMap a0K++A)):
  a5x (H++(C++R))=some (if a4p H=b5D 0 C then(b6R fm xs (b5D 0 A) (H.length+4),0)else(b9Q,5)):=by
 obtain⟨f1,f2,f3,f4,f5,f6⟩:=id j;have hv:=b5c (a3Q fm xs) fun n v=>a07 (a7U j e h n v) (by simp);have hl:(a3Q fm xs).length≤516:=by grind[a3Q,b6e]
 have G:∀b∈H,0≤b∧b<256:=fun b hb=>by
  rw[q]at hb;rcases mA.1 hb with hb|hb;simp[b9P]at hb;omega;rcases mA.1 hb with hb|hb;exact b9l _ (fun n v=>a07 (a7U j e h n v) (by simp)) b hb;simp_all
 have a:H.length=4+((a3Q fm xs).flatMap a0K).length+8:=by grind[b9P]
 have S:=b8e (l:=H) (by unfold short;omega) G;have x:(a3Q fm xs).flatMap a0K=a0K fm.1.toNat++(a0K fm.2.1.toNat++(a0K fm.2.2.1.toNat++(a0K xs.length++(nsP xs).flatMap a0K))):=by rfl
 obtain⟨V,O⟩:∃V,(a3Q fm xs).flatMap a0K=V:=⟨_,rfl⟩;rw[O]at hv a x q;have ex:H++(C++R)=75::78::83::68::(V++(A++(C++R))):=by rw[q];simp[b9P]
 have g:(V++(A++(C++R))).length<1000000000:=by grind
 have z:([]++(a0K fm.1.toNat++(a0K fm.2.1.toNat++(a0K fm.2.2.1.toNat++(a0K xs.length++((nsP xs).flatMap a0K++(A++(C++R)))))))).length<1000000000:=by simp_all
 have B:=a1F z;have D:=a1F B;have E:=a1F D;have U:=a1F E;have n1:=a3a (n:=fm.1.toNat) (most:=1048576) (by omega) (by omega) z;have n2:=a3a (n:=fm.2.1.toNat) (most:=8) (by omega) (by omega) B;have X:=a3a (n:=fm.2.2.1.toNat) (most:=24) (by omega) (by omega) D;have Y:=a3a (n:=xs.length) (most:=4096) (by omega) (by omega) E;have w1:wrap .i64 ((fm.1.toNat:Nat):Int)=fm.1:=by grind[a0C]
 have w2:wrap .i64 ((fm.2.1.toNat:Nat):Int)=fm.2.1:=by grind[a0C]
 have w3:wrap .i64 ((fm.2.2.1.toNat:Nat):Int)=fm.2.2.1:=by grind[a0C]
 have f:=b9m h (H++(C++R)) fm b9Q (0,0,0,()) xs [] _ 0 rfl e U;have M:([]++a0K fm.1.toNat++a0K fm.2.1.toNat++a0K fm.2.2.1.toNat++a0K xs.length)++(nsP xs).flatMap a0K=V:=by simp_all
 rw[M]at f;have Z:=c6h (P:=V) y (by omega) bA g;have n9:=c6h (P:=V++A) N (by omega) F (a1F g);have k:wrap .i64 (((V++(A++(C++R))).length:Int)-(V.length:Int))=((A++(C++R)).length:Int):=by
  simp only[lN]at g⊢;rw[a0C (by omega)];omega
 have m:decide (((A++(C++R)).length:Int)<12)=false:=by grind
 have r:wrap .i64 ((4:Int)+(((V++A).length:Nat):Int))=((H.length:Nat):Int):=by
  rw[a];simp only[lN,y];rw[a0C (by omega)];rfl
 have o:decide ((0:Int)≤((H.length:Nat):Int))=true:=decide_eq_true (a03 _);have p:decide (((H.length:Nat):Int)≤(((H++(C++R)).length:Nat):Int))=true:=by grind
 have c:wrap .i64 (((H.length:Nat):Int)+4)=((H.length+4:Nat):Int):=by grind[a0C]
 have T:wrap .u64 ((a4p H:Nat):Int)=((a4p H:Nat):Int):=a0L (by grind[b6P]);have I:decide (((a08 (H++(C++R)):Nat):Int)<(4:Int))=false:=by grind
 have K:decide ((4:Int)≤((a08 (H++(C++R)):Nat):Int))=true:=by simp_all
 have s:((b2s (a42 4 (H++(C++R)))) != ([75,78,83,68]:List Int))=false:=by rw[ex];rfl
 have t:a53 4 (a42 (a08 (H++(C++R))) (H++(C++R)))=V++(A++(C++R)):=by rw[a57,ex];rfl
 have d:a5W (V++(A++(C++R)))=some (ord [] (a0K fm.1.toNat++(a0K fm.2.1.toNat++(a0K fm.2.2.1.toNat++(a0K xs.length++((nsP xs).flatMap a0K++(A++(C++R)))))))):=by
  unfold a5W;rw[a0S (by omega),cT,x];simp[ord]
 have i:=c5h h fm b9Q (a3G xs) (((b5D 0 A:Nat):Int),((H.length+4:Nat):Int),()) xs [] 0 rfl e (by simp[a1q]);have u:(a4q xs).length=xs.length:=by simp[a4q]
 have Q:=(b8c e).2;have L:decide (((a1q xs:Nat):Int) > (4194304:Int))=false:=by grind
 unfold a5x;simp only[I,cF,K,cT,s,t,d,oB,n1,n2,X,Y,w1,w2,w3]
 erw[f]
 simp only[oB,a3x,a1K,a4a,ord,show((0:Int) != 0)=false from rfl,cF,k,m]
 erw[Z]
 simp only[oB,ord,r,o,p,a01,cT,tN,List.take_left,S,T]
 erw[n9]
 simp only[oB]
 by_cases hq:a4p H=b5D 0 C
 have w:(((a4p H:Nat):Int) != ((b5D 0 C:Nat):Int))=false:=by simp_all
 simp only[w,cF,if_pos hq,a4H,j,decide_true,bT,oB,c,u]
 erw[i]
 simp only[L,oB,cF];rfl;have w:(((a4p H:Nat):Int) != ((b5D 0 C:Nat):Int))=true:=by grind
 simp only[w,cT,if_neg hq];rfl
theorem c5N{B P R:List Int}{fm:a0J}{st:Nat}{x:Pc}(p:b9M fm st x)(C:B=P++(x.2.2++R))(E:B.length<1000000000){pl:b8s}(hp:pl.1=fm){i:Int}(n:m0k pl.2.1 i=some ((x.2.2.length:Nat):Int))(o:m0k pl.2.2.1 i=some ((a0T x.2.1:Nat):Int)):
  a6X (B,pl,i,((P.length:Nat):Int),(st:Int))=some (x.1,x.2.1,0):=by
 obtain⟨s,t,u,v,w,l,y,z,A,e,j⟩:=p;have m:B.length=P.length+(x.2.2.length+R.length):=by simp_all
 have r:wrap .i64 (((a08 B:Nat):Int)-((P.length:Nat):Int))=((x.2.2.length+R.length:Nat):Int):=by grind[a0C]
 have g:decide (((x.2.2.length+R.length:Nat):Int)<((x.2.2.length:Nat):Int))=false:=decide_eq_false (by omega);have w2:wrap .i64 (((P.length:Nat):Int)+((x.2.2.length:Nat):Int))=((P.length+x.2.2.length:Nat):Int):=by grind[a0C]
 have f:decide ((0:Int)≤((P.length+x.2.2.length:Nat):Int))=true:=decide_eq_true (a03 _);have k:decide (((P.length+x.2.2.length:Nat):Int)≤((a08 B:Nat):Int))=true:=by simp_all
 have a:decide ((0:Int)≤((P.length:Nat):Int))=true:=decide_eq_true (a03 _);have b:decide (((P.length:Nat):Int)≤((P.length+x.2.2.length:Nat):Int))=true:=decide_eq_true (by omega);have d:a53 P.length (a42 (P.length+x.2.2.length) B)=x.2.2:=by
  grind
 have h:=l [] (by simp);rw[a86]at h;have q:((0:Int) != 0)=false:=rfl;have c:decide (((x.2.2.length:Nat):Int)<((x.2.2.length:Nat):Int))=false:=by simp
 have D:eqT (.pair (.int .i64) (.pair (.int .i64) (.pair (.int .i64) .unit))) x.1.2.2.1 pl.1=true:=by simp_all[b9J]
 have n1:(x.1.1 != (st:Int))=false:=by simp_all
 have n2:(((a0T x.2.1:Nat):Int) != ((a0T x.2.1:Nat):Int))=false:=by simp
 unfold a6X;simp only[n,oB,r,g,cF,w2,f,k,a,b,a01,cT,tN,d,h,q,c];simp_all
def c7H:b9O:=((0,0,0,()),0,0,[],[],())
theorem d0L{done rest:List Pc}(x:Pc):m0k (a3G (done++x::rest)) (done.length:Int)=some ((x.2.2.length:Nat):Int):=by
 grind[b3R,a3G]
theorem d2r{done rest:List Pc}(x:Pc):m0k (a4q (done++x::rest)) (done.length:Int)=some ((a0T x.2.1:Nat):Int):=by
 grind[b3R,a4q]
theorem c3m{fm:a0J}{all tail:List Pc}(h:all.length≤256){B Hd Z:List Int}(j:B.length<1000000000){pl:b8s}(hp:pl.1=fm)(a:pl.2.1=a3G all)(b:pl.2.2.1=a4q all)(g:pl.2.2.2.2.2.1=((Hd.length:Nat):Int))(z:b9O):
  ∀(rest done:List Pc),done++(rest++tail)=all→B=Hd++(a0V done++(a0V rest++Z))→a2T fm (a1q done) rest→a1q done≤64*done.length→
  y0s a3J (B,((Hd.length+(a0V done).length:Nat):Int),a3G all,(all.length:Int),(done.length:Int),z,pl,mkT fm done,()) =
   y0s a3J (B,((Hd.length+(a0V (done++rest)).length:Nat):Int),a3G all,(all.length:Int),((done++rest).length:Int),z,pl,mkT fm (done++rest),())
 | [],done,_,_,_,_=>by simp
 |x::rest,done,hd,hB,hr,ho=>by
  obtain⟨m,t⟩:=hr;have k:done.length<all.length:=by grind
  have f:B=(Hd++a0V done)++(x.2.2++(a0V rest++Z)):=by rw[hB];simp[a0V]
  have s:Hd.length+(a0V done).length+x.2.2.length≤B.length:=by grind
  have l:=d0L (done:=done) (rest:=rest++tail) x;have c:=d2r (done:=done) (rest:=rest++tail) x;rw[a56]at hd;rw[hd]at l c;have e:=c5N m f j hp (i:=(done.length:Int)) (by simp_all) (by simp_all);rw[lN]at e;obtain⟨y,p,A,C,D,E,q,r,F,n,o⟩:=m;have d:=b8f q (w:=fm.2.2.1) r (a4o done);have l1:(a2U 0 0 done).length+1<2147483648:=by rw[a9k];omega
  have u:wrap .i64 (((Hd.length+(a0V done).length:Nat):Int)+((x.2.2.length:Nat):Int))=((Hd.length+(a0V (done++[x])).length:Nat):Int):=by
   rw[a7T,lN,a0C (by omega)];omega
  have w2:wrap .i64 (((a1q done:Nat):Int)+((a0T x.2.1:Nat):Int))=((a1q (done++[x]):Nat):Int):=by rw[a5U,a0C (by omega)];rfl
  have v:wrap .i64 (((Hd.length+(a0V done).length:Nat):Int)-((Hd.length:Nat):Int))=(((a0V done).length:Nat):Int):=by grind[a0C]
  rw[a0F (s':=(B,((Hd.length+(a0V (done++[x])).length:Nat):Int),a3G all,(all.length:Int),(((done++[x]).length:Nat):Int),z,pl,mkT fm (done++[x]),())) (by
   simp only[a3J,dlt k,cT,l,oB,mkT]
   erw[e]
   simp only[oB,show((0:Int) != 0)=false from rfl,cF]
   erw[d]
   simp only[oB,a0S l1,a06,a0S (show done.length+1<2147483648 by omega),cT,u,p,w2,g,v,a0B (show done.length<1000000 by omega)]
   simp[a2e,b3I,b2H])]
  rw[List.append_cons done x rest];exact c3m (Z:=Z) h j hp a b g z rest (done++[x]) (by simpa using hd) (by simp_all[a7T]) (by simp_all[a5U]) (by grind[a5U])
theorem c5O{fm:a0J}(k:a2y fm){xs:List Pc}(b:a2T fm 0 xs)(g:xs.length≤256){R:List Int}(f:R.length≤190000000):
  a5x (a1v fm xs++(a7Y 4 (a4p (a1v fm xs))++R))=some (b6R fm xs (a2e fm xs) ((a1v fm xs).length+4),0):=by
 have a:=b2U (a1c fm.2.2.1 (a4o xs));have h:=c5M k b g (A:=a7Y 8 (a2e fm xs)) (C:=a7Y 4 (a4p (a1v fm xs))) (R:=R) (b0I ..) (b6O 8 _) (b0I ..) (b6O 4 _) f (H:=a1v fm xs) rfl;rw[b9N 4 _ (by simp_all[b6P]),b9N 8 _ (by grind[prm,a2e]),if_pos rfl]at h;omega
theorem c1F{fm:a0J}(c:a2y fm){xs:List Pc}(k:a2T fm 0 xs)(h:xs.length≤256):a2u (a5V fm xs)=some (mkT fm xs,0):=by
 have e:=b3J k;have l:=c3i c k h;have i:=c5O c k h (R:=a0V xs) (by omega);have d:(a5V fm xs).length=(a1v fm xs).length+4+(a0V xs).length:=by grind[a5V,b0I]
 have f:(a1v fm xs++a7Y 4 (a4p (a1v fm xs))).length=(a1v fm xs).length+4:=by simp[b0I]
 have g:=c3m (fm:=fm) h (B:=a5V fm xs) (Hd:=a1v fm xs++a7Y 4 (a4p (a1v fm xs))) (Z:=[]) (by omega) (pl:=b6R fm xs (a2e fm xs) ((a1v fm xs).length+4)) rfl rfl rfl (by rw[f];rfl) c7H (tail:=[]) xs [] (by simp) (by simp[a5V,a0V]) k (by simp[a1q]);rw[f,a18]at g;have a:y0s a3J (a5V fm xs,(((a1v fm xs).length+4+(a0V xs).length:Nat):Int),a3G xs,(xs.length:Int),(xs.length:Int),c7H,b6R fm xs (a2e fm xs) ((a1v fm xs).length+4),mkT fm xs,())=some (Sum.inl (a5V fm xs,(((a1v fm xs).length+4+(a0V xs).length:Nat):Int),c7H,b6R fm xs (a2e fm xs) ((a1v fm xs).length+4),mkT fm xs,())):=
  a0E (by simp_all[a3J])
 rw[a]at g;have b:(a3G xs).length=xs.length:=by simp[a3G]
 have j:decide ((((a1v fm xs).length+4+(a0V xs).length:Nat):Int)<(((a5V fm xs).length:Nat):Int))=false:=by simp_all
 unfold a2u;rw[show a5V fm xs=a1v fm xs++(a7Y 4 (a4p (a1v fm xs))++a0V xs)from rfl,i];simp only[oB,show((0:Int) != 0)=false from rfl,cF,b6R,b]
 erw[g]
 simp_all[b6R,mkT]
def c2p(fm:a0J)(l:List Int)(ch sz total:Nat)(effort:Int):Nat→List Pc→Prop
 |st,[]=>total≤st
 |st,x::xs=>st<total∧x.2.1=a7H fm.2.2.1 (b2I l ch st (min (st+sz) total)) ch∧a2Q (x.2.1,fm,(st:Int),effort)=some (x.1,0)∧b9M fm st x∧c2p fm l ch sz total effort (st+sz) xs
def c1G(fm:a0J)(total:Nat)(xs:List Pc):b9O:=(fm,(total:Int),((a2e fm xs:Nat):Int),a2U 0 0 xs,xs.map (·.1),())
theorem d0M{fm:a0J}(D:a2y fm){ch:Nat}(a:fm.2.1=(ch:Int)){l:List Int}{total sz:Nat}(hl:l.length=total*ch)(ht:total≤200)(hs:1≤sz∧sz≤64)(b:l.all (fun x=>a1i x fm.2.2.1)=true){effort:Int}(X:0≤effort)(Y:effort≤3):
  ∀(k st:Nat)(done:List Pc),total≤st+k→a1q done=min st total→a4o done=l.take (min st total*ch)→a2T fm 0 done→done.length≤st→st≤300→
  ∃rest,c2p fm l ch sz total effort st rest∧a2T fm 0 (done++rest)∧a1q (done++rest)=total∧a4o (done++rest)=l∧
   y0s a6o (l,(sz:Int),effort,(total:Int),(((a0V done).length:Nat):Int),(st:Int),c1G fm total done,fm,())=some (.inl (c1G fm total (done++rest),())):=by
 obtain⟨S,T,f3,f4,U,V⟩:=id D;have e:1≤ch∧ch≤8:=by omega
 intro k
 induction k with
 |zero=>
  intro st done E j o y r A;have hm:min st total=total:=by omega
  have P:decide ((st:Int)<(total:Int))=false:=by simp_all
  rw[hm]at j o;refine⟨[],by simpa[c2p]using E,by simp_all,by simp_all,by grind,?_⟩;rw[a86];exact a0E (by simp only[a6o,P,cF])
 |succ k ih=>
  intro st done E j o y r A
  by_cases hlt:st<total
  have t:min st total=st:=by omega
  rw[t]at j o;obtain⟨en,Z⟩:∃en,min (st+sz) total=en:=⟨_,rfl⟩;have C:st<en∧en≤total∧en≤st+sz:=by omega
  have s:en*ch≤l.length:=by simp_all[a24]
  have h6:st*ch≤en*ch:=a24 _ (by omega);have h1:l.length≤200*8:=by rw[hl];exact a05 ht e.2
  have h:=c3g (st:=st) s;have f:=c8K (ch:=ch) (st:=st) (en:=en) b;have c:=d2i (w:=fm.2.2.1) h e (by omega) ⟨U,V⟩ f;have h2:=b6N (w:=fm.2.2.1) h e.1;have h4:=d2j (w:=fm.2.2.1) h e.1;have v:=d2p D a (l:=b2I l ch st en) (n:=en-st) (by omega) h f;obtain⟨g,p,m1,i⟩:=d2h (fm:=fm) c (by omega) ⟨S,T⟩ (by simp_all[a7H,a2D]) rfl (st:=st) (by omega) X Y;have d:=i.2.2.2.2.1;have B:=b8f c (w:=fm.2.2.1) rfl (a4o done);obtain⟨x,hx⟩:∃x:Pc,x=(((st:Int),g),a7H fm.2.2.1 (b2I l ch st en) ch,p):=⟨_,rfl⟩;have x1:x.1=((st:Int),g):=by grind
  have x2:x.2.1=a7H fm.2.2.1 (b2I l ch st en) ch:=by grind
  have K:x.2.2=p:=by grind
  rw[←hx]at i;have u:=i.2.2.2.2.2.2.2.2.2.2;rw[K]at u;have h5:=b3J y;have m:a1q (done++[x])=min (st+sz) total:=by grind[a5U]
  have q:a4o (done++[x])=l.take (min (st+sz) total*ch):=by grind[b3I,c8J]
  have z:a2T fm 0 (done++[x]):=c3f y (by simp_all);obtain⟨rest,k1,F,G,H,I⟩:=ih (st+sz) (done++[x]) (by omega) m q z (by grind) (by omega);have Q:done++[x]++rest=done++x::rest:=by simp
  rw[Q]at F G H I;refine⟨x::rest,⟨hlt,by simp_all,by simp_all,i,k1⟩,F,G,H,?_⟩;rw[←I];have q1:wrap .i64 ((v0s (wrap .i64 ((st:Int)+(sz:Int))) (total:Int))*(ch:Int))=((en*ch:Nat):Int):=by
   rw[a0C (n:=(st:Int)+(sz:Int)) (by omega),b5L,show min ((st:Int)+(sz:Int)) (total:Int)=(en:Int)from by omega,←a85,a0C (by omega)]
  have q2:wrap .i64 ((st:Int)*(ch:Int))=((st*ch:Nat):Int):=by grind[a0C]
  have L:decide ((0:Int)≤((en*ch:Nat):Int))=true:=decide_eq_true (a03 _);have M:decide (((en*ch:Nat):Int)≤((l.length:Nat):Int))=true:=decide_eq_true (by omega);have N:decide ((0:Int)≤((st*ch:Nat):Int))=true:=decide_eq_true (a03 _);have O:decide (((st*ch:Nat):Int)≤((en*ch:Nat):Int))=true:=decide_eq_true (by omega);have R:a53 (st*ch) (a42 (en*ch) l)=b2I l ch st en:=rfl;have n0:((0:Int) != 0)=false:=rfl;have w1:wrap .i64 ((((a0V done).length:Nat):Int)+((p.length:Nat):Int))=(((a0V (done++[x])).length:Nat):Int):=by
   rw[a7T,lN,K,a0C (by omega)];rfl
  have w2:wrap .i64 ((st:Int)+(sz:Int))=((st+sz:Nat):Int):=by grind[a0C]
  refine a0F ?_
  simp only[a6o,dlt hlt,cT,a,q1,q2,L,M,N,O,a01,tN,R,v,oB,n0,cF,m1,d,c1G]
  erw[B]
  simp only[oB,a9k,a06,a0S (show done.length+1<2147483648 by omega),cT,w1,w2];simp_all[a2e,b3I,b2H]
  grind
theorem b9n{l:List Int}(a:l.length≤10000){fm:a0J}(f:4≤fm.2.2.1∧fm.2.2.1≤24)(sz effort h:Int):∀(rest done:List Int),done++rest=l→rest.all (fun x=>a1i x fm.2.2.1)=true→
  y0s a6n (l,sz,effort,h,l,(l.length:Int),(done.length:Int),fm,())=some (.inl (l,sz,effort,h,fm,()))
 | [],done,hd,_=>by
  obtain rfl:done=l:=by simp_all
  simp_all[a0E,a6n]
 |x::rest,done,hd,hfit=>by
  have g:done.length<l.length:=by grind
  have k:m0k l (done.length:Int)=some x:=by grind[a0D]
  simp only[a33,bA]at hfit;rw[a0F (s':=(l,sz,effort,h,l,(l.length:Int),(((done++[x]).length:Nat):Int),fm,())) (by
   simp only[a6n,dlt g,cT,k,oB,b4C f,hfit.1,bT,cF,a0B (show done.length<1000000 by omega)]
   simp)]
  exact b9n a f sz effort h rest (done++[x]) (by simp_all) hfit.2
theorem c8P{fm:a0J}(k:a2y fm){ch:Nat}(f:fm.2.1=(ch:Int)){l:List Int}{total sz:Nat}(b:l.length=total*ch)(e:total≤200)(B:1≤sz∧sz≤64)(g:l.all (fun x=>a1i x fm.2.2.1)=true){effort:Int}(y:0≤effort)(z:effort≤3):
  ∃h,c2p fm l ch sz total effort 0 h∧a2T fm 0 h∧a1q h=total∧a4o h=l∧h.length≤256∧a6C (fm,l,(sz:Int),effort)=some (a5V fm h,0):=by
 obtain⟨h,C,c,j,m,o⟩:=d0M k f b e B g y z 200 0 [] (by omega) (by rfl) (by simp[a4o]) trivial (by simp) (by omega);rw[a18]at c j m o;have i:h.length≤256:=by grind[b8c]
 obtain⟨F,G,H,I,v,w⟩:=id k;have d:1≤ch∧ch≤8:=by omega
 have A:l.length≤200*8:=by rw[b];exact a05 e d.2
 have a:=b9n (l:=l) (fm:=fm) (by omega) ⟨v,w⟩ (sz:Int) effort (total:Int) l [] rfl g;have p:decide ((sz:Int)<1)=false:=by grind
 have q:decide ((sz:Int) > 4096)=false:=by grind
 have r:decide (effort<0)=false:=by simp_all
 have s:decide (effort > 3)=false:=by simp_all
 have c0:((ch:Int)==0)=false:=by grind
 have D:a43 ((l.length:Nat):Int) (ch:Int)=0:=by
  simp_all
 have E:wrap .i64 (a21 ((l.length:Nat):Int) (ch:Int))=(total:Int):=by
  rw[show a21 ((l.length:Nat):Int) (ch:Int)=((l.length / ch:Nat):Int)from rfl,b,a76 _ d.1,a0C (by omega)]
 have t:decide ((total:Int) > 4194304)=false:=by grind
 have s0:((sz:Int)==0)=false:=by grind
 have u:decide ((wrap .i64 (a21 (wrap .i64 ((wrap .i64 ((total:Int)+(sz:Int)))-(1:Int))) (sz:Int))) > (4096:Int))=false:=by
  rw[a0C (n:=(total:Int)+(sz:Int)) (by omega),a0C (n:=(total:Int)+(sz:Int)-1) (by omega),show((total:Int)+(sz:Int)-1)=((total+sz-1:Nat):Int)from by omega,show a21 ((total+sz-1:Nat):Int) (sz:Int)=(((total+sz-1) / sz:Nat):Int)from rfl];have L:=a84 (total+sz-1) sz
  grind[a0C]
 have K:c1G fm total h=mkT fm h:=by simp_all[c1G,mkT]
 have hp:=c3l k c i;refine⟨h,C,c,j,m,i,?_⟩;unfold a6C;simp only[a4H,k,decide_true,oB,bT,cF,p,q,r,s,f,c0,D,show((0:Int) != 0)=false from rfl,E,t,s0,u]
 erw[a]
 simp
 erw[o]
 simp_all
theorem c5i(f:a0J):b2y f=some (decide (a2y f)):=by
 unfold b2y a2y
 grind
def crE(s:BitVec 16):BitVec 16:=bif s.msb then(s <<< 1) ^^^ 32773#16 else s <<< 1
theorem c6i(s t:BitVec 16):crE (s ^^^ t)=crE s ^^^ crE t:=by
 unfold crE;rw[BitVec.msb_xor,BitVec.shiftLeft_xor_distrib];cases s.msb<;>cases t.msb<;>simp only[cT,cF,Bool.xor_true,Bool.xor_false,bT,a35];rw[a09];rw[a09,a09,a62 (t <<< 1)];rw[a09,a62 32773#16,a09,BitVec.xor_self,a87]
theorem d0N{s:BitVec 16}(h:crE s=0):s=0:=by
 unfold crE at h;cases hm:s.msb with
 |true=>
  rw[hm,cT]at h
  have:=congrArg (fun x=>a68 x 0) h
  simp at this
 |false=>
  rw[hm,cF]at h;refine a60 fun i hi=>?_
  by_cases h15:i=15
  subst h15;rw[a52]at hm;simpa using hm
  have:=congrArg (fun x=>a68 x (i+1)) h
  simp at this;simpa using this (by omega)
theorem d5s:crE 0=0:=by decide
theorem b9R{s:BitVec 16}:∀{n:Nat},rep crE n s=0→s=0
 |0,h=>h
 |n+1,h=>d0N (b9R (n:=n) h)
theorem d1y:∀n:Nat,rep crE n 0=0
 |0=>rfl
 |n+1=>by
  show rep crE n (crE 0)=0;rw[d5s,d1y n]
def crB(b:Bool):BitVec 16:=bif b then 32768#16 else 0#16
def crS(s:BitVec 16)(b:Bool):BitVec 16:=crE (s ^^^ crB b)
def crT:List Bool→BitVec 16
 | []=>0#16
 |b::w=>crB b ^^^ (crT w >>> 1)
theorem d2s(b:Bool)(j:Nat):(crB b).getLsbD j=(b&&decide (j=15)):=by
 cases b with
 |false=>simp[crB]
 |true=>
  simp only[crB,cT,a54];rw[show(32768#16)=BitVec.ofNat 16 (2^15)from rfl,BitVec.getLsbD_ofNat,Nat.testBit_two_pow]
  by_cases h:j=15
  subst h;rfl;rw[decide_eq_false (by omega:¬ (15=j)),decide_eq_false h,Bool.and_false]
theorem b8t:∀(w:List Bool)(j:Nat),(crT w).getLsbD j=(decide (j<16)&&w.getD (15-j) false)
 | [],j=>by simp[crT]
 |b::w,j=>by
  rw[crT,BitVec.getLsbD_xor,d2s,a32,b8t w]
  by_cases h:j=15
  subst h;simp
  by_cases h2:j<16
  rw[show 15-j=(15-(1+j))+1 from by omega,a72];simp[h,h2,show 1+j<16 from by omega];simp[h,h2,show ¬ (1+j<16)from by omega]
theorem d0O{w:List Bool}(h:w.length≤15):crE (crT w >>> 1)=crT w:=by
 have f:(crT w >>> 1).msb=false:=by
  rw[a52,a32,b8t];simp
 unfold crE;rw[f,cF];refine a60 fun i hi=>?_
 rw[BitVec.getLsbD_shiftLeft,a32];cases i with
 |zero=>
  have g:(crT w).getLsbD 0=false:=by
   rw[b8t,lD,List.getElem?_eq_none (by omega)];rfl
  rw[g];simp
 |succ i=>rw[show 1+(i+1-1)=i+1 from by omega];simp[hi]
theorem d3L:∀(w:List Bool)(s:BitVec 16),w.length≤16→w.foldl crS s=rep crE w.length (s ^^^ crT w)
 | [],s,_=>by simp[crT,rep]
 |b::w,s,h=>by
  rw[lC]at h;rw[a63,d3L w _ (by omega),crT,←a09];show _=rep crE w.length (crE (s ^^^ crB b ^^^ (crT w >>> 1)));rw[c6i,d0O (by omega)];rfl
theorem c5j{α:Type}(f g:α→Bool):∀(L:List α)(s t:BitVec 16),(L.map fun j=>xor (f j) (g j)).foldl crS (s ^^^ t)=(L.map f).foldl crS s ^^^ (L.map g).foldl crS t
 | [],_,_=>rfl
 |a::L,s,t=>by
  simp only[a23,a63];rw[←c5j f g L];congr 1;unfold crS;rw[←c6i];congr 1
  have:crB (xor (f a) (g a))=crB (f a) ^^^ crB (g a):=by cases f a<;>cases g a<;>rfl
  rw[this];simp only[a09];rw[←a09 t,a62 t,a09]
theorem b6S:∀(n:Nat)(s:BitVec 16),(a04 n false).foldl crS s=rep crE n s
 |0,_=>rfl
 |n+1,s=>by
  rw[List.replicate_succ,a63,b6S n];show rep crE n (crE (s ^^^ 0#16))=rep crE n (crE s);rw[a87]
theorem d5t{w:List Bool}(h:w.length≤16)(f:true∈w)(k m:Nat):(a04 k false++(w++a04 m false)).foldl crS 0≠0:=by
 rw[a37,a37,b6S,b6S,d1y,d3L w _ h];intro e;have e:=b9R (b9R e);have e:crT w=0:=by simpa using e
 obtain⟨i,hi,g⟩:=List.mem_iff_getElem.1 f
 have:=b8t w (15-i)
 rw[e,show 15-(15-i)=i from by omega,lD,lG hi,g]at this;simp at this;omega
def byb(c:Int):List Bool:=[7,6,5,4,3,2,1,0].map fun i=>c.toNat.testBit i
def b8u(p:List Int):List Bool:=p.flatMap byb
def dead(T:List Int)(a:Int):List Int×(Int×Int×Unit):=(T,a,(3:Int),())
def d3M(c:Int):Prop:=0≤c∧c<256
def b0P(p:List Int)(j:Nat):Bool:=(p.getD (j / 8) 0).toNat.testBit (7-j%8)
theorem b9S:∀p:List Int,b8u p=(a02 (8*p.length)).map (b0P p)
 | []=>rfl
 |c::p=>by
  have e:b8u (c::p)=byb c++b8u p:=rfl;rw[e,b9S p,lC,show 8*(p.length+1)=8+8*p.length from by omega,a36,pA,a46];congr 1;refine a26 fun j _=>?_
  show b0P p j=b0P (c::p) (8+j);unfold b0P;rw[show(8+j) / 8=j / 8+1 from by omega,a72,show(8+j)%8=j%8 from by omega]
structure Turn (b k i:Nat) (p0 p:List Int) (sm:Bool):Prop where
 len:p.length=p0.length
 ok:∀c∈p,d3M c
 bit:∀j,b0P p j=xor (b0P p0 j) (decide (k≤j∧j<k+i)&&b.testBit (j-k))
 smk:sm=true↔∃t,t<i∧b.testBit t=true
 pre:p.take (k / 8)=p0.take (k / 8)
 same:sm=false→p=p0
theorem turned{b k:Nat}{p0 q:List Int}{s:Bool}(w:k<8*p0.length)(i:(b8u p0).foldl crS 0=0)(g:Turn b k (min 16 (8*p0.length-k)) p0 q s)(u:s=true):(b8u q).foldl crS 0≠0:=by
 obtain⟨n,r⟩:∃n,min 16 (8*p0.length-k)=n:=⟨_,rfl⟩;rw[r]at g;have e:b8u q=(a02 (8*p0.length)).map fun j=>xor (b0P p0 j) (decide (k≤j∧j<k+n)&&b.testBit (j-k)):=by
  rw[b9S,g.len];exact a26 fun j _=>g.bit j
 have h:=c5j (b0P p0) (fun j=>decide (k≤j∧j<k+n)&&b.testBit (j-k)) (a02 (8*p0.length)) 0 0;have a:∀x:BitVec 16,(0:BitVec 16) ^^^ x=x:=fun _=>BitVec.zero_xor;rw[a,←e,←b9S,i,a]at h;rw[h];obtain⟨m,p⟩:∃m,8*p0.length=k+(n+m):=⟨8*p0.length-k-n,by omega⟩;rw[p,a36,a36,pA,pA,pA,a46,a46,a46];have c:(a02 k).map (fun j=>decide (k≤j∧j<k+n)&&b.testBit (j-k))=a04 k false:=by
  rw[a65];refine⟨by simp,fun x f=>?_⟩;obtain⟨j,o,rfl⟩:=a45.1 f
  grind
 have d:(a02 m).map (((fun j=>decide (k≤j∧j<k+n)&&b.testBit (j-k))∘(k+·))∘(n+·))=a04 m false:=by
  rw[a65];refine⟨by simp,fun x f=>?_⟩;obtain⟨j,o,rfl⟩:=a45.1 f
  grind
 rw[c,d];refine d5t (by simp;omega) ?_ k m;obtain⟨t,l,v⟩:=g.smk.1 u;refine a45.2 ⟨t,a67.2 l,?_⟩;simp_all
theorem c3n(f:a0J)(l:List Int)(m:Nat)(p:m≤1000):∃t,b1q (f,l,(m:Int))=some t∧(t=true→a2y f∧l.length≤m∧l.all (fun x=>a1i x f.2.2.1)=true∧∃ch n:Nat,f.2.1=(ch:Int)∧l.length=n*ch):=by
 unfold b1q;simp only[c5i,oB]
 by_cases hf:a2y f
 ·simp only[hf,decide_true,bT,cF];cases hd:decide (((l.length:Nat):Int) > (m:Int))with
  |true=>exact⟨false,rfl,fun h=>by cases h⟩
  |false=>
   have k:l.length≤m:=by simp at hd;omega
   obtain⟨d,e,j,o,a,b⟩:=id hf;obtain⟨ch,g⟩:∃ch:Nat,f.2.1=(ch:Int):=⟨f.2.1.toNat,by omega⟩;have c0:((ch:Int)==0)=false:=by simp;omega
   have tm:a43 ((l.length:Nat):Int) (ch:Int)=((l.length%ch:Nat):Int):=rfl;simp only[cF,g,c0,tm,oB];cases c:(((l.length%ch:Nat):Int) != 0)with
   |true=>exact⟨false,rfl,fun h=>by cases h⟩
   |false=>
    have c:l.length%ch=0:=by simp at c;omega
    have h:=a1T (f:=a7D) l (fun i=>(l,(i:Int),f,())) (fun x=>a1i x f.2.2.1) (bt:=Sum.inl ()) (bf:=Sum.inr (false,()))
     (fun i hi hp=>by simp only[a7D,dlt hi,cT,a0D hi,oB,b7Y ⟨a,b⟩,hp,bT,cF,a0B (show i<1000000 by omega)])
     (fun i hi hp=>by simp only[a7D,dlt hi,cT,a0D hi,oB,b7Y ⟨a,b⟩,hp,a35])
     (by simp only[a7D,dge,cF])
    simp only[cF]
    erw[h]
    cases ha:l.all (fun x=>a1i x f.2.2.1)with
    |true=>exact⟨true,rfl,fun _=>⟨trivial,k,rfl,ch,l.length / ch,rfl,by have:=Nat.div_add_mod l.length ch;rw[a59];omega⟩⟩
    |false=>exact⟨false,rfl,fun h=>by cases h⟩
 simp only[hf,decide_false,a35,cT];exact⟨false,rfl,fun h=>by cases h⟩
theorem d2t{fm:a0J}(c:a2y fm){ch:Nat}(f:fm.2.1=(ch:Int)){l:List Int}{total:Nat}(j:l.length=total*ch)(m:total≤200)(g:l.all (fun x=>a1i x fm.2.2.1)=true)(size effort:Int):
  ∃(sz:Nat)(eff:Int)(h:List Pc),1≤sz∧sz≤64∧wrap .i64 (1+bits .i64 .and size 63)=(sz:Int)∧bits .i64 .and effort 3=eff∧0≤eff∧eff≤3∧c2p fm l ch sz total eff 0 h∧a2T fm 0 h∧a1q h=total∧a4o h=l∧h.length≤256∧
   a9d (fm,l,size,effort)=some (a5V fm h,mkT fm h,true):=by
 obtain⟨v,hv,k⟩:=d3y 6 (by omega) size;obtain⟨w,a,b⟩:=d3y 2 (by omega) effort;rw[show((2^6-1:Nat):Int)=63 from rfl]at hv;rw[show((2^2-1:Nat):Int)=3 from rfl]at a;have n:v<64:=k;have o:w<4:=b;have d:wrap .i64 (1+(v:Int))=((v+1:Nat):Int):=by rw[a0C (by omega)];omega
 obtain⟨h,p,e,q,r,i,s⟩:=c8P c f j m (sz:=v+1) (by omega) g (effort:=(w:Int)) (by omega) (by omega);refine⟨v+1,w,h,by omega,by omega,by rw[hv];exact d,a,by omega,by omega,p,e,q,r,i,?_⟩;unfold a9d;simp only[hv,a,d,s,oB,c1F c e i,beq_self_eq_true,cT]
@[reducible] def d5u:Type:=Int×(a0J×(List a0J×(List Sub×Unit)))
@[reducible] def Pp:Type:=d5u×a1l
def gOk(fm:a0J)(q:Pp):Prop:=a0T q.2≤64∧a2S q.2∧fm.2.1=((q.2.2.1.length:Nat):Int)∧∀st:Nat,st+a0T q.2≤4194304→∃p,b9M fm st (((st:Int),q.1),q.2,p)
theorem d3N{b:a1l}{fm:a0J}(hb:a2S b)(e:a0T b≤64)(l:1≤fm.1∧fm.1≤1048576)(i:fm.2.1=((b.2.1.length:Nat):Int))(h:fm.2.2.1=b.1){st:Nat}(d:st+a0T b≤4194304){effort:Int}(n:0≤effort)(o:effort≤3):
  ∃g,a2Q (b,fm,(st:Int),effort)=some (((st:Int),g),0)∧gOk fm (g,b):=by
 obtain⟨rate,ch,bits,u⟩:=fm;cases u;simp only at l i h;subst i h;obtain⟨g,q,r,s,w,x,m,t⟩:=made hb (by omega) (rate:=rate) (start:=(st:Int)) (effort:=effort) l (by omega) n o;refine⟨g,q,e,hb,rfl,fun st d=>?_⟩;have d:st+a0T b≤4194304:=d;have a:=t (st:Int) (by omega);obtain⟨L,p,-,j,c⟩:=c1v (f:=((st:Int),g)) m a;have k:=b9I (f:=((st:Int),g)) m;rw[a]at k;have v:=b6J (b4D a).1 p;refine⟨a4Y ((st:Int),g) L,rfl,r,s,k,j,c,hb,rfl,e,?_,?_⟩
 all_goals grind[a4Y]
def c5k(f:a1b):List Int:=match a2w f with
 |some (p,_)=>p
 |none=>[]
def b5E(st:Nat)(q:Pp):Pc:=(((st:Int),q.1),q.2,c5k ((st:Int),q.1))
def pcs:Nat→List Pp→List Pc
 |_,[]=>[]
 |st,q::qs=>b5E st q::pcs (st+a0T q.2) qs
def a5l(qs:List Pp):Nat:=(qs.map fun q=>a0T q.2).sum
def a6q(qs:List Pp):List Int:=qs.flatMap fun q=>wvB q.2
def a7j(fm:a0J)(qs:List Pp):Prop:=∀q∈qs,gOk fm q
theorem c6j{f:a1b}{p:List Int}{e:Int}(h:a2w f=some (p,e)):c5k f=p:=by unfold c5k;rw[h]
theorem c2q{fm:a0J}{q:Pp}(h:gOk fm q){st:Nat}(g:st+a0T q.2≤4194304):b9M fm st (b5E st q):=by
 obtain⟨p,hp⟩:=h.2.2.2 st g
 have:=c6j hp.2.2.2.2.1
 simp_all[b5E]
theorem b5d(q:Pp)(h:List Pp):a5l (q::h)=a0T q.2+a5l h:=by rfl
theorem d0P(a b:List Pp):a5l (a++b)=a5l a+a5l b:=by simp[a5l]
theorem c8Q(a b:List Pp):a6q (a++b)=a6q a++a6q b:=by simp[a6q]
theorem c5l{fm:a0J}{a b:List Pp}(g:a7j fm a)(hb:a7j fm b):a7j fm (a++b):=fun q h=>(mA.1 h).elim (g q) (hb q)
theorem c2r{fm:a0J}:∀{qs:List Pp}{st:Nat},a7j fm qs→st+a5l qs≤4194304→a2T fm st (pcs st qs)
 | [],_,_,_=>trivial
 |q::qs,st,h,hs=>by
  rw[b5d]at hs;exact⟨c2q (h q (by simp)) (by omega),c2r (st:=st+a0T q.2) (fun r g=>h r (by simp[g])) (by omega)⟩
theorem a4I:∀(qs:List Pp)(st:Nat),(pcs st qs).length=qs.length
 | [],_=>rfl
 |_::qs,_=>congrArg (·+1) (a4I qs _)
theorem b2b:∀(qs:List Pp)(st:Nat),a1q (pcs st qs)=a5l qs
 | [],_=>rfl
 |q::qs,st=>by
  have:=b2b qs (st+a0T q.2)
  rw[b5d,←this];simp[pcs,a1q,b5E]
theorem b2c:∀(qs:List Pp)(st:Nat),a4o (pcs st qs)=a6q qs
 | [],_=>rfl
 |q::qs,st=>by
  have:=b2c qs (st+a0T q.2)
  simp only[a6q,a4o,pcs,a31]at *;rw[this];rfl
theorem c2s:∀(a b:List Pp)(st:Nat),pcs st (a++b)=pcs st a++pcs (st+a5l a) b
 | [],_,_=>rfl
 |q::a,b,st=>by
  simp_all[pcs,c2s,b5d,a55]
def b8i(q:Pp):List Int:=b2s (c5k ((0:Int),q.1))
def b1z(a b:List Pp):Nat:=((b.map b8i).filter fun k=>(a.map b8i).contains k).length
theorem c8R(a b c:List Pp):b1z a (b++c)=b1z a b+b1z a c:=by simp[b1z]
theorem d0Q{a:List Pp}{q:Pp}(b:List Pp)(h:q∈a):b1z a (q::b)=b1z a b+1:=by
 have:(a.map b8i).contains (b8i q)=true:=by grind
 simp only[b1z,a23,List.filter_cons,this,if_true,lC]
theorem b8j{a:List Pp}:∀{b:List Pp},(∀q∈b,q∈a)→b1z a b=b.length
 | [],_=>rfl
 |q::b,h=>by rw[d0Q b (h q (by simp)),b8j fun r g=>h r (by simp[g])];rfl
theorem d0R{fm:a0J}{q:Pp}(h:gOk fm q):1≤a0T q.2:=h.2.1.2.2.2.2.1
theorem b3S{fm:a0J}:∀{qs:List Pp},a7j fm qs→a5l qs≤64*qs.length∧qs.length≤a5l qs
 | [],_=>⟨a38 _,a38 _⟩
 |q::qs,h=>by
  have:=b3S fun r g=>h r (List.mem_cons_of_mem _ g)
  have f:=(h q (by simp)).1;have k:=d0R (h q (by simp));rw[b5d,lC];omega
theorem c7I{fm:a0J}{qs:List Pp}(h:a7j fm qs)(g:qs.length≤256):a2T fm 0 (pcs 0 qs):=c2r h (by grind[b3S])
def b1A(fm:a0J)(qs:List Pp):List Int:=a5V fm (pcs 0 qs)
def mkQ(fm:a0J)(qs:List Pp):b9O:=mkT fm (pcs 0 qs)
theorem c1H{fm:a0J}(g:a2y fm){qs:List Pp}(h:a7j fm qs)(f:qs.length≤256):a2u (b1A fm qs)=some (mkQ fm qs,0):=c1F g (c7I h f) (by rw[a4I];omega)
theorem c8S{fm:a0J}(g:a2y fm){qs:List Pp}(h:a7j fm qs)(f:qs.length≤256):a3N (mkQ fm qs)=some (a6q qs,0):=by
 have:=c7G g (c7I h f) (by rw[a4I];omega)
 rw[b2c]at this;exact this
def a1p(qs:List Pp):List a1b:=(pcs 0 qs).map (·.1)
theorem c1I:∀(qs:List Pp)(st:Nat),((pcs st qs).map (·.1)).map (·.2)=qs.map (·.1)
 | [],_=>rfl
 |q::qs,st=>by simp only[pcs,a23,c1I qs];rfl
theorem b3K(fm:a0J)(h:List Pp):(mkQ fm h).2.2.2.2.1=a1p h:=rfl
theorem d3O{α β:Type}{l:List α}{g:α→β}{A B:List β}{b:β}(h:l.map g=A++b::B):∃a,m0k l (A.length:Int)=some a∧g a=b∧A.length<l.length:=by
 have f:A.length<l.length:=by have:=congrArg a08 h;grind
 refine⟨l[A.length],a0D f,?_,f⟩
 have:=congrArg (fun x=>x[A.length]?) h
 grind
theorem c5m{fm:a0J}{qs:List Pp}(j:a7j fm qs)(M:qs.length≤256){fs:List a1b}(h:fs.map (·.2)=qs.map (·.1)):∀(rest done:List Pp),done++rest=qs→
  y0s a4i ((((a0V (pcs 0 done)).length:Nat):Int),fs,(fs.length:Int),(done.length:Int),mkQ fm done,())=some (.inl (mkQ fm qs,()))
 | [],done,he=>by
  obtain rfl:done=qs:=by simp_all
  have K:fs.length=done.length:=by have:=congrArg a08 h;grind
  simp_all[a0E,a4i]
 |q::rest,done,he=>by
  have C:=j q (by grind);have f:a7j fm done:=fun r T=>j r (by grind);have I:done.length<qs.length:=by grind
  have K:fs.length=qs.length:=by have:=congrArg a08 h;grind
  obtain⟨U,d,x,-⟩:=d3O (l:=fs) (g:=(·.2)) (A:=done.map (·.1)) (b:=q.1) (B:=rest.map (·.1)) (by grind);rw[a06]at d;have L:=b3S f;have c:=C.1;have s:=c2q C (st:=a5l done) (by omega);obtain⟨O,E,P,F,G,-,e,Q,-,y,z⟩:=id s;simp[b5E]at O E P F G e Q y z;have hb:=b3J (c2r f (st:=0) (by omega));rw[a4I]at hb;have t:=c6g e;have N:(a1c q.2.1 (wvB q.2)).length≤3*(64*8):=by
   have:=c1A (w:=q.2.1) ⟨e.1,e.2.1⟩ (wvB q.2)
   have S:(wvB q.2).length≤64*8:=by rw[b8r];exact a05 c e.2.2.2.1
   omega
  have u:=c5b (l:=a1c q.2.1 (wvB q.2)) (by unfold short;omega) (b8a _ _);have m:=c2o (a:=prI (a1c fm.2.2.1 (a6q done))) (b:=prI (a1c q.2.1 (wvB q.2))) (n:=(a1c q.2.1 (wvB q.2)).length) (b2U _) (b2U _) (by omega);have p:prI (a1c fm.2.2.1 (a6q (done++[q])))=(prI (a1c fm.2.2.1 (a6q done))*(1000003^(a1c q.2.1 (wvB q.2)).length%prm)+prI (a1c q.2.1 (wvB q.2)))%prm:=by
   simp_all[b6L,c2m,a6q]
  have H:pcs 0 (done++[q])=pcs 0 done++[b5E (a5l done) q]:=by rw[c2s,a28];rfl
  have D:((0:Int) != 0)=false:=rfl;have R:wrap .i64 ((((a0V (pcs 0 done)).length:Nat):Int)+(((c5k ((a5l done:Int),q.1)).length:Nat):Int))=(((a0V (pcs 0 (done++[q]))).length:Nat):Int):=by
   grind[a7T,a0C,b5E]
  have w2:wrap .i64 ((done.length:Int)+1)=(((done++[q]).length:Nat):Int):=by grind[a0C]
  have o:mkQ fm done=(fm,((a5l done:Nat):Int),((prI (a1c fm.2.2.1 (a6q done)):Nat):Int),a2U 0 0 (pcs 0 done),a1p done,()):=by
   simp_all[mkQ,mkT,a2e,b2b,b2c,a1p]
  have k:mkQ fm (done++[q])=(fm,wrap .i64 (((a5l done:Nat):Int)+q.1.1),((prI (a1c fm.2.2.1 (a6q (done++[q]))):Nat):Int),a2U 0 0 (pcs 0 done)++[(((a5l done:Nat):Int),(((a0V (pcs 0 done)).length:Nat):Int),())],a1p done++[(((a5l done:Nat):Int),q.1)],()):=by
   simp only[mkQ,mkT,a2e,b2b,b2c,a1p,d0P];rw[H,b2H,b2b,pA,a28,a28,E,a0C (by omega)];rfl
  rw[a0F (s':=((((a0V (pcs 0 (done++[q]))).length:Nat):Int),fs,(fs.length:Int),(((done++[q]).length:Nat):Int),mkQ fm (done++[q]),())) (by
   simp only[a4i,dlt (show done.length<fs.length by omega),cT,d,oB,o];rw[x,G];simp only[oB,D,cF];rw[F];simp only[oB,D,cF,t,u];rw[m];have v:(a2U 0 0 (pcs 0 done)).length=done.length:=by rw[a9k,a4I]
   have i:(a1p done).length=done.length:=by simp[a1p,a4I]
   simp only[oB,v,i,a0S (show done.length+1<2147483648 by omega),cT,R,w2,←p,k];rfl)]
  exact c5m j M h rest (done++[q]) (by simp_all)
theorem d3P{fm:a0J}(a:a2y fm){qs:List Pp}(f:a7j fm qs)(k:qs.length≤256){fs:List a1b}(g:fs.map (·.2)=qs.map (·.1)):a6l (fm,fs)=some (b1A fm qs,0):=by
 have h:=c5m f k g qs [] rfl;have hp:=c3l a (c7I f k) (by rw[a4I];omega);have e:mkQ fm []=(fm,(0:Int),(0:Int),([]:List (Int×Int×Unit)),([]:List a1b),()):=by
  rfl
 rw[e]at h;unfold a6l
 erw[h]
 simp
 erw[hp]
 rfl
theorem d2u{n:Nat}(h:n<2147483648):a1z ([],(n:Int))=some []:=by
 have w:wrap .i64 ((n:Int)-(0:Int))=(n:Int):=by grind[a0C]
 have g:decide ((n:Int)<0)=false:=by simp
 unfold a1z;simp only[g,cF,w]
 by_cases h0:n=0
 simp_all;have f:decide ((n:Int) > 0)=true:=by grind
 have k:decide (0≤(n:Int))=true:=by simp
 simp_all[a0S]
theorem c8T{A B:List a1b}(h:A.length+B.length≤100000):a1s [A,B]=some (A++B):=by
 have g:m0k [A,B] (0:Int)=some A:=rfl;have f:m0k [A,B] (1:Int)=some B:=rfl;have c:wrap .i64 ((0:Int)+(A.length:Int))=(A.length:Int):=by grind[a0C]
 have w2:wrap .i64 ((A.length:Int)+(B.length:Int))=((A.length+B.length:Nat):Int):=by grind[a0C]
 have k:decide ((A.length:Int)<0)=false:=by simp
 have a:decide (((A.length+B.length:Nat):Int)<0)=false:=by rfl
 have i0:y0s a1n ([A,B],(0:Int),[A,B],(2:Int),(0:Int),())=some ([A,B],((A.length+B.length:Nat):Int),()):=by
  rw[a0F (s':=([A,B],(A.length:Int),[A,B],(2:Int),(1:Int),())) (by
   simp only[a1n,g,oB,c,k,cF];rfl)]
  rw[a0F (s':=([A,B],((A.length+B.length:Nat):Int),[A,B],(2:Int),(2:Int),())) (by
   simp only[a1n,f,oB,w2,a,cF];rfl)]
  rfl
 have d:y0s a1o ([A,B],(2:Int),(0:Int),([]:List a1b),())=some (A++B,()):=by
  rw[a0F (s':=([A,B],(2:Int),(1:Int),A,())) (by
   simp only[a1o,g,oB,a19,a28,a0S (show A.length<2147483648 by omega),cT];rfl)]
  rw[a0F (s':=([A,B],(2:Int),(2:Int),A++B,())) (by
   simp only[a1o,f,oB,a0S (show A.length+B.length<2147483648 by omega),cT];rfl)]
  rfl
 unfold a1s;have b:((a08 [A,B]:Nat):Int)=2:=rfl;rw[b,i0];simp only[oB];rw[d2u (by omega)];simp_all
theorem d3Q{fm:a0J}(g:a2y fm){qs rs:List Pp}(f:a7j fm qs)(k:a7j fm rs)(j:qs.length+rs.length≤256):a9T (b1A fm qs,b1A fm rs)=some (b1A fm (qs++rs),0):=by
 have e:((0:Int) != 0)=false:=rfl;have l1:=(b3S f).1;have l2:=(b3S k).1;have l:(a1p qs).length=qs.length:=by simp[a1p,a4I]
 have d:(a1p rs).length=rs.length:=by simp[a1p,a4I]
 have b:decide (wrap .i64 ((mkQ fm qs).2.1+(mkQ fm rs).2.1) > 4194304)=false:=by
  grind[mkQ,mkT,b2b,a0C]
 have c:decide (wrap .i64 ((((mkQ fm qs).2.2.2.2.1.length:Nat):Int)+(((mkQ fm rs).2.2.2.2.1.length:Nat):Int)) > 4096)=false:=by
  grind[b3K,a0C]
 have i:=d3P g (c5l f k) (by simp_all) (fs:=a1p qs++a1p rs) (by grind[a1p,c1I]);unfold a9T;simp only[c1H g f (by omega),c1H g k (by omega),oB,e,cF];have a:(mkQ fm qs).1=fm:=rfl;have h:(mkQ fm rs).1=fm:=rfl;rw[a,h]
 erw[b9J]
 simp[b,c]
 grind[b3K,c8T]
theorem b7r{fm:a0J}{qs:List Pp}(h:a7j fm qs)(a:qs.length≤256):∀(rest done:List Pp),done++rest=qs→
  y0s a4j (a1p qs,((a1p qs).length:Int),(done.length:Int),done.map b8i,())=some (.inl (qs.map b8i,()))
 | [],done,he=>by
  obtain rfl:done=qs:=by simp_all
  simp_all[a1p,a4I,a0E,a4j]
 |q::rest,done,he=>by
  have g:=h q (by grind);have f:done.length<qs.length:=by grind
  have e:(a1p qs).length=qs.length:=by simp[a1p,a4I]
  have k:a1p qs=a1p done++(((a5l done:Nat):Int),q.1)::(pcs (a5l done+a0T q.2) rest).map (·.1):=by
   rw[←he,a1p,c2s,pA,a28];rfl
  have b:m0k (a1p qs) (done.length:Int)=some (((a5l done:Nat):Int),q.1):=by
   grind[a4I,b3R]
  have hp:=(c2q g (st:=0) (by have:=g.1;omega)).2.2.2.2.1;simp only[b5E]at hp;have c:((0:Int) != 0)=false:=rfl;have d:wrap .i64 ((done.length:Int)+1)=(((done++[q]).length:Nat):Int):=by grind[a0C]
  rw[a0F (s':=(a1p qs,((a1p qs).length:Int),(((done++[q]).length:Nat):Int),(done++[q]).map b8i,())) (by
   simp only[a4j,dlt (show done.length<(a1p qs).length by omega),cT,b,oB]
   erw[hp]
   simp only[oB,c,cF,a06,a0S (show done.length+1<2147483648 by omega),cT,d,pA,a23,List.map_nil];rfl)]
  exact b7r h a rest (done++[q]) (by simp_all)
theorem c1J{fm:a0J}(k:a2y fm){qs:List Pp}(g:a7j fm qs)(f:qs.length≤256):a2l (b1A fm qs)=some (qs.map b8i):=by
 have h:=b7r g f qs [] rfl;have a:((0:Int) != 0)=false:=rfl;simp_all[a2l,c1H,b3K]
theorem c8U{fm:a0J}(h:a2y fm){qs rs:List Pp}(g:a7j fm qs)(a:a7j fm rs)(k:qs.length≤256)(f:rs.length≤256):a5s (b1A fm qs,b1A fm rs)=some ((b1z qs rs:Nat):Int):=by
 unfold a5s;simp only[c1J h g k,c1J h a f,oB,a06,a0S (show qs.length<2147483648 by omega),a0S (show rs.length<2147483648 by omega),a01,cT];rfl
def d0S(k:Nat):Nat→List Pp→Prop
 |_,[]=>True
 |st,q::qs=>¬ (st<k∧k<st+a0T q.2)∧d0S k (st+a0T q.2) qs
theorem d1z{fm:a0J}(r:a2y fm){ch:Nat}(c:fm.2.1=(ch:Int)){l:List Int}{sz total:Nat}(s:l.length=total*ch)(C:total≤200)(B:1≤sz∧sz≤64){eff:Int}(o:0≤eff)(p:eff≤3):
  ∀(xs:List Pc)(st:Nat),c2p fm l ch sz total eff st xs→∃a,a7j fm a∧xs=pcs st a∧(st%sz=0→∀k,k%sz=0∨total≤k→d0S k st a)
 | [],_,_=>⟨[],fun q h=>(by grind),rfl,fun _ _ _=>trivial⟩
 |x::xs,st,⟨a1,a2,a3,a4,a5⟩=>by
  obtain⟨u,v,K,L,M,N⟩:=id r;have d:=c3g (l:=l) (ch:=ch) (st:=st) (en:=min (st+sz) total) (by rw[s];exact a24 _ (by omega));have e:=b6N (w:=fm.2.2.1) d (by omega);rw[←a2]at e;obtain⟨S,T,U,V,F,-,G,H,I,-,-⟩:=id a4;obtain⟨g,t,R⟩:=d3N (fm:=fm) G I ⟨u,v⟩ (by simp_all[a7H,a2D]) H.symm (st:=st) (by omega) o p;rw[a3]at t;have i:x.1=((st:Int),g):=congrArg (·.1) (Option.some.inj t);rw[i]at F;have O:x=b5E st (g,x.2.1):=by
   grind[b5E,c6j]
  obtain⟨a,E,P,Q⟩:=d1z r c s C B o p xs (st+sz) a5
  by_cases he:st+sz≤total
  have z:a0T x.2.1=sz:=by omega
  refine⟨(g,x.2.1)::a,fun q h=>?_,?_,fun D k f=>⟨?_,?_⟩⟩;rcases mC.1 h with rfl|h;omega;exact E q h
  grind[pcs]
  rintro⟨j,b⟩
  simp only at b;rcases f with f|f
  have:=a44 (m:=k) (n:=st) (k:=sz) (by omega)
  rw[a27 (by omega)]at this;omega;omega
  grind[Nat.add_mod_right]
  ·have A:xs=[]:=by
    cases xs with
    |nil=>rfl
    |cons y ys=>obtain⟨j,-⟩:=a5;omega
   subst A;refine⟨[(g,x.2.1)],fun q h=>by grind,?_,fun D k f=>⟨?_,trivial⟩⟩
   grind[pcs]
   rintro⟨j,b⟩
   simp only at b;rcases f with f|f
   have:=a44 (m:=k) (n:=st) (k:=sz) (by omega)
   rw[a27 (by omega)]at this;omega;omega
theorem c8V{fm:a0J}(a:a2y fm){ch:Nat}(g:fm.2.1=(ch:Int)){l:List Int}{total:Nat}(b:l.length=total*ch)(c:total≤200)(f:l.all (fun x=>a1i x fm.2.2.1)=true)(size effort:Int):
  ∃(sz:Nat)(h:List Pp),1≤sz∧wrap .i64 (1+bits .i64 .and size 63)=(sz:Int)∧a7j fm h∧a5l h=total∧a6q h=l∧h.length≤total∧(∀k,k%sz=0∨total≤k→d0S k 0 h)∧
   a9d (fm,l,size,effort)=some (b1A fm h,mkQ fm h,true):=by
 obtain⟨sz,j,u,i,q,r,y,s,t,o,v,d,e,w,p⟩:=d2t a g b c f size effort;obtain⟨h,m,rfl,n⟩:=d1z a g b c ⟨i,q⟩ s t u 0 o;rw[b2b]at d;rw[b2c]at e;exact⟨sz,h,i,r,m,d,e,by grind[b3S],n (Nat.zero_mod _),p⟩
theorem d2v:b5s ()=some true:=by kernel_rfl
theorem c8W(fm:a0J)(h:List Pp):(mkQ fm h).2.2.1=((prI (a1c fm.2.2.1 (a6q h)):Nat):Int):=by simp_all[mkQ,mkT,a2e,b2c]
theorem c7J(h:List Pp):(a1p h).length=h.length:=by simp[a1p,a4I]
theorem b7s(w:Int)(l:List Int):(a1c w l).length=l.length*((w+7) / 8).toNat:=b9L (fun x=>b3H _ x) l
theorem c2t(x:a0J×(List Int×(List Int×(Int×Int×Int)))):b0D x=some true:=by
 obtain⟨fm,l,m,size,other,effort⟩:=x;unfold b0D;simp only[d2v,oB,bT,cF];obtain⟨t,K,Z⟩:=c3n fm l 100 (by omega);obtain⟨t',j,A⟩:=c3n fm m 100 (by omega);rw[show((100:Nat):Int)=100 from rfl]at K j;simp only[K,oB];cases t with
 |false=>rfl
 |true=>
  simp only[bT,cF,j,oB];cases t' with
  |false=>rfl
  |true=>
   obtain⟨k,hl,p,ch,n,o,N⟩:=Z rfl;obtain⟨-,r,d,e,P,M,s⟩:=A rfl;obtain rfl:e=ch:=by omega
   obtain⟨f1,f2,f3,f4,S,T⟩:=id k;have L:1≤e:=by omega
   have h3:n≤100:=Nat.le_trans (a61 n L) (N▸hl);have O:P≤100:=Nat.le_trans (a61 P L) (s▸r);obtain⟨sz,g,s1,s2,w,g2,I,g4,g5,Y⟩:=c8V k o N (by omega) p size effort;obtain⟨h6,f,h4,h5,c,U,i,V,X,z⟩:=c8V k o s (by omega) d other (A0o .i64 effort 2);have hj:=d3Q k w c (by omega);have u:=c5l w c;have v:(g++f).length≤256:=by grind
   have G:=c5t (x:=l++m) (y:=l++m) (by unfold short;grind);have H:((fm.2.2.1+7) / 8).toNat≤3:=by omega
   have h0:m.length*((fm.2.2.1+7) / 8).toNat≤100*3:=a05 r H;have wm:wrap .i64 (((m.length:Nat):Int)*((((fm.2.2.1+7) / 8).toNat:Nat):Int))=(((a1c fm.2.2.1 m).length:Nat):Int):=by
    grind[b7s,a0C]
   have C:=c2o (a:=prI (a1c fm.2.2.1 l)) (b:=prI (a1c fm.2.2.1 m)) (n:=(a1c fm.2.2.1 m).length) (b2U _) (b2U _) (by grind[b7s]);have F:prI (a1c fm.2.2.1 (l++m))=(prI (a1c fm.2.2.1 l)*(1000003^(a1c fm.2.2.1 m).length%prm)+prI (a1c fm.2.2.1 m))%prm:=by rw[b6L,c2m]
   have wl:wrap .i64 ((g.length:Int)+(f.length:Int))=(((g++f).length:Nat):Int):=by grind[a0C]
   have D:=c8U k w u (show g.length≤256 by omega) v;have E:=c8U k u c v (show f.length≤256 by omega);have Q:decide (((b1z g (g++f):Nat):Int)≥(g.length:Int))=true:=by
    rw[c8R,b8j fun q h=>h]
    grind
   have R:b1z (g++f) f=f.length:=b8j fun q h=>List.mem_append_right _ h;have B:a6q (g++f)=l++m:=by rw[c8Q,I,i]
   simp only[bT,cF,Y,z,oB,hj,c1H k u v,c8S k u v,beq_self_eq_true,cT,c8W,I,i,B,c8E ⟨S,T⟩,wm,C,a28,a66,a18,a0S (show l.length<2147483648 by omega),a0S (show l.length+m.length<2147483648 by omega),G,decide_true,←F,b3K,c7J,wl,D,E,Q,R]
end Go.Ab
namespace Go.Proofs.YtpckgfbgijdfnaaGreatDoor
open Go.Ab Go.ChangeShapes Go.WideShapes Go.ChangeAt Go.RowKit
theorem b8k{α:Type}{f:Nat→Option (α×a0z×List Nat)}:∀(L:List α)(i:Nat),(∀(j:Nat) x,L[j]?=some x→f (i+j)=some (x,[],[]))→a0d f L.length i=some (L,[],[])
 | [],_,_=>rfl
 |a::L,i,h=>by
  have g:=h 0 a rfl;have k:=b8k L (i+1) (fun j x b=>by have:=h (j+1) x (by simpa using b);rw[←this];congr 1;omega);simp only[lC,a0d];simp only[a78]at g;rw[g,k];rfl
section
variable {H:Type} {enc:TypeId×Value→H} {P:Program} {w:World} {base:Nat} {spare:Nat→Bool} {held:Bool}
theorem c3C{k:IntKind}{n:Nat}{t e:TypeId}{fuel:Nat}{cs:List Value}{L:List Int}{p:List MemPlace}(B:P.underlying t=some (.array n e))(u:P.underlying e=some (.int k))(s:P.cellsOf e=1)
  (h:DataW.trod enc P w base spare held fuel t cs=some (.agg (L.map fun i=>.lit (.int k i)),p)):L.length=n∧∀(j:Nat) x,L[j]?=some x→cs[j]?=some (.int k x):=by
 obtain⟨C,m,rfl,b,-,A,a⟩:=DataW.trod_array B h;simp only[pJ,DataW.agg.injEq]at b;have z:L.length=n:=by rw[←A];simpa using congrArg a08 b.1
 refine⟨z,fun j x c=>?_⟩;obtain⟨v,-⟩:=lS.1 c;have g:=a j (by omega);rw[s]at g;obtain⟨y,d⟩:∃y,C[j]?=some y:=⟨_,lG (by omega)⟩;rw[d]at g;obtain⟨i,o,q,-⟩:=DataW.trod_int u g;have f:=congrArg (fun l=>l[j]?) b.1;simp only[List.getElem?_map,c,d,Option.map_some,q]at f;simp only[sj,DataW.lit.injEq,Lit.int.injEq,true_and]at f;subst f;have r:=congrArg (fun l=>l[0]?) o;simpa[a73,List.getElem?_take]using r
end
def c6k : String := (Rows.spliceIsRow.laid.map Prod.fst).headD ""
theorem d7W:Tryz.prog.globalNamed c6k=some 0:=by kernel_rfl
def d0T:TypeId:=((Tryz.prog.globals[0]?).map (·.type)).getD 0
theorem d2w:(Tryz.prog.globals[0]?).map (·.type)=some d0T:=by kernel_rfl
def d0U:TypeId:=match Tryz.prog.underlying d0T with
 |some (.array _ e)=>e
 |_=>0
theorem d7X:Tryz.prog.underlying d0T=some (.array 64 d0U):=by kernel_rfl
theorem d5v:Tryz.prog.underlying d0U=some (.int .u8):=by kernel_rfl
theorem d5w:Tryz.prog.cellsOf d0U=1:=by kernel_rfl
@[reducible] def laidTab:List (String×DataW Unit):=[(c6k,Rows.laid_math_bits_deBruijn64tab)]

theorem d3R {g:Nat} {t:Ty} {x:t.den} (h:G0 g=some ⟨t,x⟩):g=0∧(⟨t,x⟩:(t:Ty)×t.den)=⟨.arr 64 (.int .u8),b2d⟩:=by
 unfold G0 find at h
 cases g with
 |zero=>exact⟨rfl,(Option.some.inj h).symm⟩
 |succ n=>exact absurd h (by simp[find])
theorem c5n{W:World}(h:laidMetH Tryz.prog laidTab W):∀g t x,G0 g=some ⟨t,x⟩→g<W.heap.size∧dec (a0a W none) t ((Src.at g 0).rd (a0a W none))=some (x,[],[]):=by
 rw[MakeChecks.laidMetH_plain _ _ _ (by kernel_rfl)]at h;obtain⟨ps,⟨r,w,m,q,u,v,b,c,d,a,_⟩,_,_⟩:=h;obtain rfl:=Option.some.inj (d7W.symm.trans b);obtain rfl:=Option.some.inj (d2w.symm.trans c);have n:(Rows.laid_math_bits_deBruijn64tab:DataW Unit)=.agg (b2d.map fun i=>.lit (.int .u8 i)):=rfl;rw[n]at a;obtain⟨s,p⟩:=c3C d7X d5v d5w a;have k:∀(j:Nat) x,b2d[j]?=some x→W.cell? ⟨0,j,none⟩=some (.int .u8 x):=fun j x l=>by
  rw[World.var?_cell b d j];simpa using p j x l
 intro g t x o;obtain⟨rfl,e⟩:=d3R o;cases e;refine⟨z0m (k 0 0 rfl),?_⟩;exact b8k (f:=fun i=>dec (a0a W none) (.int .u8) fun j=>(Src.at 0 0).rd (a0a W none) (i*1+j)) b2d 0 (fun j x l=>by
  have:=k j x l
  simp only[dec,Src.rd,a0a,a28,Nat.mul_one,a78,this,if_true])
set_option maxRecDepth 100000 in
theorem d0V (os:Os) (args:Array Value):laidMetH Tryz.prog laidTab ((World.doorLaid Tryz.prog 400 os).forCall (fun _ _=>0) ⟨#[],args,[]⟩).memory:=
 laidMetH_of_parts3 (fuel:=8) (laidMet_of_run' 8 (by kernel_rfl) (by kernel_rfl)) (by kernel_rfl) (by kernel_rfl)
end Go.Proofs.YtpckgfbgijdfnaaGreatDoor
