/- Part of the proof: QUO. Conditions: as each statement tells. -/
import Derived.KernelRfl
import Derived.Test.YtbadoabamddpfaaGreatDoorRows
import Derived.ProofKit
import Derived.LaidMore
import Derived.LaidLaws
import Derived.LaidHandle
import Derived.LaidByTextLater
import Derived.OpenShut
import Derived.Handed
import Derived.Test.YtbadoabamddpfaaGreatDoorMF
noncomputable section
set_option linter.unusedSimpArgs false
set_option linter.unusedVariables false
open BitVec renaming ofInt→a00,xor_assoc→a16,toNat_ofInt→a26,getLsbD_ushiftRight→a36,msb_eq_getLsbD_last→a58,toNat_and→a62,eq_of_getLsbD_eq→a68,xor_comm→a70,getLsbD→a75,xor_zero→b02
open Bool renaming and_self→a05,not_false→a77
open Int renaming natCast_nonneg→a03,tdiv→a22,fdiv_eq_ediv_of_nonneg→a34,toNat→a51,tmod→a52,natCast_mul→a53
open List renaming length_map→a01,range→a02,length_singleton→a04,length_nil→a06,length→a07,map_cons→a18,flatMap_cons→a20,mem_range→a21,flatMap_append→a24,map_congr_left→a25,append_nil→a27,replicate→a29,mem_map→a30,map_map→a31,not_mem_nil→a33,range_succ→a38,range_add→a41,getElem?_map→a42,foldl_append→a43,cons_append→a44,getElem_mem→a45,take_length→a49,getElem?_range→a55,filter_append→a56,take→a59,length_range→a61,mem_flatMap→a63,ext_getElem→a64,flatMap_def→a65,foldl_cons→a71,drop→a72,eq_replicate_iff→a74,take_left→a76,all_cons→a80,getD_cons_succ→a82,getElem?_drop→a83,length_take→a93,append→a95,flatMap_nil→a96,mem_filter→a97,length_set→b00,nil_append→b01,foldr_cons→b03,append_eq→b04,drop_left→b05
open Nat renaming mul_le_mul→a08,mod_lt→a09,lt_trans→a19,mul_le_mul_right→a23,mul_mod→a28,pow_succ→a32,mod_eq_of_lt→a35,add_mul→a37,mul_comm→a39,zero_add→a40,add_mod→a46,mul_assoc→a47,div_lt_iff_lt_mul→a48,and_two_pow_sub_one_eq_mod→a50,le_of_lt→a54,mul_div_cancel→a57,add_assoc→a60,zero_mul→a67,min_eq_left→a69,le_refl→a73,le_sub_one_of_lt→a78,div_lt_of_lt_mul→a79,mul_le_mul_left→a81,pos_of_ne_zero→a84,eq_zero_or_pos→a85,lt_of_lt_of_le→a86,pow_zero→a87,add_zero→a88,lt_succ_of_lt→a89,mod_mod→a90,mul_one→a91,mul_add→a92,mul_mod_left→a94,div_le_self→a98,not_lt_zero→a99
open Option renaming bind_eq_some_iff→a66
namespace Go.Ab
open IntKind(wrap)
def b2m(i:Nat)(s:a0K):a0K:=(s.1+(i:Int),s.2.1+(i:Int),s.2.2.1,())
theorem c8F{i N:Nat}(h:i+2≤N){s:a0K}(k:a2s 2 s=true):a2s (N:Int) (b2m i s)=true:=by
 obtain⟨a1,a,b,c,d,g,f⟩:=a2V.1 k;exact a2V.2 ⟨by show 0≤s.1+(i:Int);omega,by show s.1+(i:Int)<(N:Int);omega,by show 0≤s.2.1+(i:Int);omega,by show s.2.1+(i:Int)<(N:Int);omega,by show s.1+(i:Int)≠s.2.1+(i:Int);omega,g,f⟩
def c2K(i:Nat)(c c' p:List (List Int)):Prop:=c'.length=c.length∧p.length=2∧c'.getD i []=p.getD 0 []∧c'.getD (i+1) []=p.getD 1 []∧∀j,j≠i→j≠i+1→c'.getD j []=c.getD j []
theorem c6v{i:Nat}{c0 c p p':List (List Int)}(hi:i+2≤c0.length)(h:c2K i c0 c p){s:a0K}(n:a2s 2 s=true)(g:a3N 1 s p=some p'):∃c',a3N 1 (b2m i s) c=some c'∧c2K i c0 c' p':=by
 obtain⟨y,z,A,B,C⟩:=h;obtain⟨a1,k,a,b,q,t,u⟩:=a2V.1 n;unfold a3N at g⊢;simp only at g⊢;have f:∀x:Int,0≤x→x<2→c.getD (x+(i:Int)).toNat []=p.getD x.toNat []:=fun x E o=>by
  grind
 have v:=f s.1 a1 k;have w:=f s.2.1 a b;simp only[b2m];have m:a9F 1 s.2.2.1 (c.getD (s.1+(i:Int)).toNat []) (c.getD (s.2.1+(i:Int)).toNat [])=a9F 1 s.2.2.1 (p.getD s.1.toNat []) (p.getD s.2.1.toNat []):=by simp_all
 simp only[m]
 split at g
 rename_i d;cases g;rw[if_pos d];generalize a9F 1 s.2.2.1 (p.getD s.1.toNat []) (p.getD s.2.1.toNat [])=r at *;refine⟨_,rfl,by grind,by grind,?_,?_,fun j D l=>?_⟩
 have:s.2.1=0∨s.2.1=1:=by omega
 rcases this with e|e;rw[e,show((0:Int)+(i:Int)).toNat=i from by omega,a7y _ (by omega),show(0:Int).toNat=0 from rfl,a7y _ (by omega)];rw[e,show((1:Int)+(i:Int)).toNat=i+1 from by omega,b1Z _ (by omega),show(1:Int).toNat=1 from rfl,b1Z _ (by omega)];omega
 have:s.2.1=0∨s.2.1=1:=by omega
 rcases this with e|e;simp_all;rw[e,show((1:Int)+(i:Int)).toNat=i+1 from by omega,a7y _ (by omega),show(1:Int).toNat=1 from rfl,a7y _ (by omega)];rw[b1Z _ (by omega)];simp_all;simp_all
theorem c3S{i:Nat}{c0:List (List Int)}(hi:i+2≤c0.length):∀(l:List a0K){c p p':List (List Int)},l.all (a2s 2)=true→c2K i c0 c p→doO l p=some p'→∃g,doO (l.map (b2m i)) c=some g∧c2K i c0 g p'
 | [],c,p,p',_,h,hd=>by cases hd;exact⟨c,rfl,h⟩
 |s::l,c,p,p',hl,h,hd=>by
  simp only[a80,bA]at hl;simp[doO,a66]at hd;obtain⟨q,f,k⟩:=hd;obtain⟨d,a,b⟩:=c6v hi h hl.1 f;obtain⟨g,j1,j2⟩:=c3S hi l hl.2 b k;exact⟨g,by simp only[a18,doO,a,oB];exact j1,j2⟩
theorem c5g:∀(l m:List a0K)(c:List (List Int)),doO (l++m) c=(doO l c).bind (doO m)
 | [],m,c=>rfl
 |s::l,m,c=>by
  simp only[a44,doO];cases a3N 1 s c with
  |none=>rfl
  |some d=>exact c5g l m d
theorem c7B{α β:Type}(f:α→β):∀l:List α,l.flatMap (fun x=>[f x])=l.map f
 | []=>rfl
 |x::l=>by simp[c7B f l]
theorem c4N(b:a1k)(first:Nat)(s:first≤100){y:List a0K}(d:y.all (a2s 2)=true)(r:y.length≤10)(out:List a0K)(t:out.length≤1000):
  y0o a6f ((first:Int),(y.length:Int),(0:Int),out,y,b,())=some ((first:Int),out++y.map (b2m first),b,()):=by
 have:=a1M (f:=a6f) (β:=Int×(List a0K×(a1k×Unit))) y (fun i (a:List a0K)=>((first:Int),(y.length:Int),(i:Int),a,y,b,())) (fun a x=>.inl (a++[b2m first x])) (fun i a=>a.length=out.length+i) (fun a=>((first:Int),a,b,()))
  (fun i hi a k=>⟨fun e h=>by
   simp at h;subst h;obtain⟨a1,j,l,m,o,p,q⟩:=a2V.1 (lA.1 d _ (a45 hi));have g:decide ((0:Int)≤(i:Int))=true:=by simp
   have c:List.getD y (a51 (i:Int)) ((0:Int),(0:Int),(0:Int),())=y[i]:=by simp_all
   refine⟨?_,by grind⟩;simp only[a6f,dlt hi,cT,g,a05,a0T (show a.length+1<2147483648 by omega),c,a0B (show i<1000000 by omega),b04];rw[a0C (n:=y[i].1+(first:Int)) (by omega),a0C (n:=y[i].2.1+(first:Int)) (by omega)]
   rfl,fun b hb=>by grind⟩)
  (fun a k=>by simp_all[a6f]) (a:=out) (by simp)
 simp_all[b3N,a8V,c7B]
theorem d3Z{c:List (List Int)}{i:Nat}(h:i+2≤c.length):a72 i (a59 (i+2) c)=[c.getD i [],c.getD (i+1) []]:=by
 apply List.ext_getElem?;intro j;rw[a83]
 grind
theorem c0L{b:a1k}{n:Nat}(o:a3v b.2.1 n)(p:n≤4096)(z:b.2.1.length≤8):∀(k j:Nat)(out:List a0K)(c:List (List Int)),j+k=5→out.length≤3*j→out.all (a2s (b.2.1.length:Int))=true→doO out b.2.1=some c→(∀i,2*j≤i→c.getD i []=b.2.1.getD i [])→3*j≤12∨b.2.1.length≤2*j→
  ∃l f,y0o a8y (((2*j:Nat):Int),out,b,())=some (l,())∧l.length≤16∧l.all (a2s (b.2.1.length:Int))=true∧doO l b.2.1=some f
 |k,j,out,c,hk,hol,hob,hdo,hag,h12=>by
  have g:wrap .i64 (((2*j:Nat):Int)+1)=((2*j+1:Nat):Int):=by grind[a0C]
  by_cases hlt:2*j+1<b.2.1.length
  ·cases k with
   |zero=>omega
   |succ k=>
    have e:wrap .i64 (((2*j:Nat):Int)+2)=((2*j+2:Nat):Int):=by grind[a0C]
    have hp:a3v [b.2.1.getD (2*j) [],b.2.1.getD (2*j+1) []] n:=fun r q=>by
     simp only[mC,a33,or_false]at q;rcases q with rfl|rfl
     all_goals grind[a8j]
    obtain⟨m,u,N,E⟩:=d0V hp rfl p;obtain⟨p',d⟩:=Option.isSome_iff_exists.1 E;have h:=(c2i u).2.2.2;have C:(a4O m).length≤3:=by
     match m,u with
     |0,_=>decide
     | 1,_=>decide
     | 2,_=>decide
     | 3,_=>decide
     | 4,_=>decide
    have A:c.length=b.2.1.length:=(b1w out o rfl hob hdo).2;obtain⟨f,F,G,H,I,K,L⟩:=c3S (i:=2*j) (c0:=c) (by omega) (a4O m) h ⟨rfl,rfl,hag _ (a73 _),hag _ (by omega),fun _ _ _=>rfl⟩ d;have B:=c4N b (2*j) (by omega) h (by omega) out (by omega);have a:decide (((2*j+1:Nat):Int)<((b.2.1.length:Nat):Int))=true:=by grind
    have v:decide ((0:Int)≤((2*j+2:Nat):Int))=true:=by rfl
    have w:decide (((2*j+2:Nat):Int)≤((b.2.1.length:Nat):Int))=true:=by grind
    have x:decide ((0:Int)≤((2*j:Nat):Int))=true:=by rfl
    have y:decide (((2*j:Nat):Int)≤((2*j+2:Nat):Int))=true:=by grind
    rw[a0F (s':=(((2*(j+1):Nat):Int),out++(a4O m).map (b2m (2*j)),b,())) (by
     simp only[a8y,g,a,cT,e,v,w,a05,tN,x,y]
     grind[d3Z])]
    refine c0L o p z k (j+1) (out++(a4O m).map (b2m (2*j))) f (by omega) (by grind) ?_ (by simp_all[c5g]) (fun i hi=>by grind) (by omega);rw[List.all_append,hob,Bool.true_and,lA];intro s D;obtain⟨t,M,rfl⟩:=a30.1 D
    grind[c8F]
  refine⟨out,c,a0E ?_,by omega,hob,hdo⟩;have a:decide (((2*j+1:Nat):Int)<((b.2.1.length:Nat):Int))=false:=by grind
  simp only[a8y,g,a,cF]
termination_by k=>k
theorem c3T{b:a1k}(hb:a2X b):∃l h,a7v b=some l∧a4Y l (b.2.1.length:Int)∧doO l b.2.1=some h:=by
 obtain⟨c,-⟩:=b3Q hb;have a:=hb.2.2.2.1;obtain⟨l,h,d,g,f,k⟩:=c0L c hb.2.2.2.2.2.1 a 5 0 [] b.2.1 rfl (by simp) rfl rfl (fun _ _=>rfl) (by omega);refine⟨l,h,?_,⟨by have:=hb.2.2.1;omega,by omega,g,f⟩,k⟩;unfold a7v;simp[a8k,decide_eq_true hb];simp_all
theorem b9a{r:List Int}{n:Nat}(h:r.length=n∧r.all a0A=true)(a:1≤n)(b:n≤256){k:Int}(f:0≤k)(c:k≤3):
  ∃s,a2q (r,k)=some (s,0)∧SmallS s∧a2f s (n:Int)=some r∧a2Z s (n:Int)≤((13+a0I r*n:Nat):Int):=by
 obtain⟨e,g⟩:=h;have d:=a5C (l:=r) (by omega) g
 grind[b5U,c7d]
theorem c0M{effort:Int}(k:0≤effort)(c:effort≤3){rows:List (List Int)}{n:Nat}(i:a3v rows n)(a:1≤n)(b:n≤256)(l:rows.length≤8)(f:a1p):∀(rest d:List (List Int)) (done:List Sub),d++rest=rows→done.length=d.length→
  ∃outs,y0o a5t (effort,rows,(rows.length:Int),(d.length:Int),c0J,a8M f done,())=some (.inl (c0J,a8M f (done++outs),()))∧a4N (fun s=>a2f s (n:Int)) outs=some rest∧(∀s∈outs,SmallS s)∧a4N (fun r=>a2q (r,effort)) rest=some (outs.map fun s=>(s,0))
 | [],d,done,hd,hdl=>by
  have e:d=rows:=by simp_all
  subst e;refine⟨[],?_,rfl,by simp,rfl⟩;simp_all[a0E,a5t]
 |r::rest,d,done,hd,hdl=>by
  have g:d.length<rows.length:=by grind
  have m:m0h rows (d.length:Int)=some r:=by grind[a0D]
  obtain⟨s,j,o,p,-⟩:=b9a (i r (by grind)) a b k c;have z0:((0:Int) != 0)=false:=rfl;have h:a5t (effort,rows,(rows.length:Int),(d.length:Int),c0J,a8M f done,())=some (.inl (effort,rows,(rows.length:Int),(((d++[r]).length:Nat):Int),c0J,a8M f (done++[s]),())):=by
   simp only[a5t,dlt g,cT,m,oB,j,z0,cF];rw[show(a8M f done).2.2.2.2.1=done from rfl,a0T (show done.length+1<2147483648 by omega),cT,a0B (show d.length<1000000 by omega)];rw[show(((d++[r]).length:Nat):Int)=((d.length+1:Nat):Int)from by simp];rfl
  rw[a0F h];obtain⟨outs,u,v,w,x⟩:=c0M k c i a b l f rest (d++[r]) (done++[s]) (by simp_all) (by simp_all);refine⟨s::outs,?_,?_,fun t q=>?_,?_⟩;simp_all;simp_all[a4N]
  grind
  simp_all[a4N]
theorem b6d{b:a1k}(hb:a2X b)(k:a0X b≤256){rate start effort:Int}(n:1≤rate∧rate≤1048576)(B:0≤start∧start≤4194304-((a0X b:Nat):Int))(y:0≤effort)(z:effort≤3):
  ∃l g outs,a2H (b,(rate,((b.2.1.length:Nat):Int),b.1,()),start,effort)=some ((start,((a0X b:Nat):Int),(rate,((b.2.1.length:Nat):Int),b.1,()),l,outs,()),0)∧
   a4Y l (b.2.1.length:Int)∧doO l b.2.1=some g∧a4N (fun s=>a2f s ((a0X b:Nat):Int)) outs=some g∧(∀s∈outs,SmallS s)∧a4N (fun r=>a2q (r,effort)) g=some (outs.map fun s=>(s,0))∧
   (effort=0→l=[])∧(0<effort→a7v b=some l):=by
 obtain⟨A,m⟩:=b3Q hb;have i:=hb;obtain⟨w,x,D,E,F,G,-⟩:=i;have j:a3k (rate,((b.2.1.length:Nat):Int),b.1,()):=⟨n.1,n.2,by grind,by grind,w,x⟩;have f:∃l g,a4Y l (b.2.1.length:Int)∧doO l b.2.1=some g∧(effort=0→l=[])∧(0<effort→a7v b=some l):=by
  by_cases he:effort=0
  exact⟨[],b.2.1,⟨by omega,by omega,by simp,rfl⟩,rfl,fun _=>rfl,fun h=>by omega⟩
  grind[c3T]
 obtain⟨l,g,e,d,a,c⟩:=f;obtain⟨C,H⟩:=b1w l A rfl e.2.2.2 d;obtain⟨outs,j1,j2,j3,j4⟩:=c0M y z C (by omega) k (by omega) (start,((a0X b:Nat):Int),(rate,((b.2.1.length:Nat):Int),b.1,()),l,([]:List Sub),()) g [] [] rfl rfl;refine⟨l,g,outs,?_,e,d,j2,j3,j4,a,c⟩;have u:(b.1 != b.1)=false:=bne_self_eq_false _;have v:(((b.2.1.length:Nat):Int) != ((b.2.1.length:Nat):Int))=false:=bne_self_eq_false _;have o:decide (effort<0)=false:=by simp_all
 have p:decide (effort > 3)=false:=by simp_all
 have q:decide (start<0)=false:=by simp_all
 have t:decide (start > wrap .i64 (4194304-((a0X b:Nat):Int)))=false:=by grind[a0C]
 have z0:((0:Int) != 0)=false:=rfl;unfold a2H;simp only[a8k,decide_eq_true hb,oB,bT,cF,a4x,decide_eq_true j,u,v,o,p,q,a6s,t];cases he:decide (effort > 0)with
 |true=>
  have:=c (by simp_all)
  simp[this,c2J,if_pos (show a2D b.2.1∧a4Y l (b.2.1.length:Int)from⟨m,e⟩),d,b8X]
  erw[j1]
  rfl
 |false=>
  have:=a (by grind)
  subst this;simp only[cF,oB,c2J,if_pos (show a2D b.2.1∧a4Y ([]:List a0K) (b.2.1.length:Int)from⟨m,e⟩),d,b8X,z0]
  erw[j1]
  rfl
theorem made{b:a1k}(hb:a2X b)(f:a0X b≤256){rate start effort:Int}(e:1≤rate∧rate≤1048576)(a:0≤start∧start≤4194304-((a0X b:Nat):Int))(j:0≤effort)(n:effort≤3):
  ∃g:Int×(a0K×(List a0K×(List Sub×Unit))),a2H (b,(rate,((b.2.1.length:Nat):Int),b.1,()),start,effort)=some ((start,g),0)∧g.1=((a0X b:Nat):Int)∧g.2.1=(rate,((b.2.1.length:Nat):Int),b.1,())∧
   g.2.2.1.length≤16∧g.2.2.2.1.length≤8∧(∀s∈g.2.2.2.1,SmallS s)∧∀h,0≤h∧h≤4194304-((a0X b:Nat):Int)→a9l (h,g)=some b:=by
 obtain⟨l,i,outs,m,k,c,d,o,-⟩:=b6d hb f e a j n;obtain⟨p,-⟩:=b3Q hb;have t:=b8Y d;have q:=(b1w l p rfl k.2.2.2 c).2;exact⟨_,m,rfl,rfl,k.2.2.1,by have:=hb.2.2.2.1;show outs.length≤8;omega,o,fun h r=>b6c hb k c d r e⟩
theorem d0W(y:Int):bits .i64 .and y 255=y%256:=by
 have h:((a00 64 y) &&& (a00 64 255)).toNat=(y%18446744073709551616).toNat%256:=by
  rw[a62,a26];have e:(a00 64 255).toNat=2^8-1:=by decide
  rw[e,a50];rfl
 show wrap .i64 ((((a00 64 y) &&& (a00 64 255)).toNat:Nat):Int)=_;rw[h,a0C (by omega)];omega
theorem d7H(x:Int){j:Nat}(g:j<8):A0k .i64 x ((8*j:Nat):Int)=x.fdiv (256^j):=by
 have h:min (a51 ((8*j:Nat):Int)) (IntKind.bits .i64)=8*j:=by
  simp only[tN,IntKind.bits];omega
 unfold A0k;rw[h,show(256:Int)=2^8 from rfl,←Int.pow_mul]
def smB(k:Nat)(x:Int):List Int:=leB k (x%18446744073709551616).toNat
theorem d0X(x:Int)(j:Nat)(g:j<8):((((x%18446744073709551616).toNat) / 256^j%256:Nat):Int)=x.fdiv (256^j)%256:=by
 have h:j=0∨j=1∨j=2∨j=3∨j=4∨j=5∨j=6∨j=7:=by omega
 rcases h with rfl|rfl|rfl|rfl|rfl|rfl|rfl|rfl<;>rw[a34 _ (by decide)]<;>simp only[Nat.reducePow,Int.reducePow]<;>omega
theorem b6e(k:Nat)(x:Int):(smB k x).length=k:=b0O _ _
theorem c8G(k:Nat)(h:k<8)(x:Int):smB (k+1) x=smB k x++[x.fdiv (256^k)%256]:=by
 unfold smB;rw[b8I,d0X x k h]
theorem b7p:∀(k n:Nat),∀b∈leB k n,0≤b∧b<256
 |0,_=>by simp[leB]
 |k+1,n=>fun b hb=>by
  rcases mC.1 hb with rfl|hb;omega;exact b7p k _ b hb
def a3F(w:Int)(l:List Int):List Int:=l.flatMap (smB ((w+7) / 8).toNat)
theorem c3U{k:Nat}{g:Int→List Int}(h:∀x,(g x).length=k):∀(l:List Int),(l.flatMap g).length=l.length*k
 | []=>by simp
 |x::l=>by
  rw[a20,lN,h,c3U h l,lC,a37];omega
theorem c6w{w:Int}(hw:4≤w∧w≤24)(l:List Int):(a3F w l).length≤3*l.length:=by
 unfold a3F;rw[c3U (b6e _)]
 have:((w+7) / 8).toNat≤3:=by omega
 calc l.length*((w+7) / 8).toNat≤l.length*3:=a81 _ this
  _=3*l.length:=a39 ..
theorem c6x(w:Int)(a b:List Int):a3F w (a++b)=a3F w a++a3F w b:=a24
theorem c3V(w:Int)(l:List Int):∀b∈a3F w l,0≤b∧b<256:=fun b hb=>by
 obtain⟨x,-,h⟩:=a63.1 hb;exact b7p _ _ b h
theorem d0Y(b x n:Int)(i:Int)(l:List Int){k:Nat}(e:k≤8)(out:List Int)(m:out.length<100000000):
  y0o a4D (b,(k:Int),x,l,n,i,(k:Int),(0:Int),out,())=some (b,(k:Int),l,n,i,out++smB k x,()):=by
 have h:=a1B (f:=a4D) (fun j=>(b,(k:Int),x,l,n,i,(k:Int),(j:Int),out++smB j x,()))
  k (b:=(b,(k:Int),l,n,i,out++smB k x,())) (fun j d=>by
   have c:wrap .i64 ((8:Int)*(j:Int))=((8*j:Nat):Int):=by rw[a0C (by omega)];omega
   have g:decide (((8*j:Nat):Int)<0)=false:=by simp;omega
   simp only[a4D];rw[dlt d,a0T (show(out++smB j x).length+1<2147483648 by rw[lN,b6e];omega),c,g,a0B (show j<1000000 by omega),d0W,d7H x (by omega),a8a,Int.emod_emod_of_dvd _ (by decide),c8G j (by omega),←aA];rfl) (by simp only[a4D,dge,cF])
 have a:out++smB 0 x=out:=by simp[smB,leB]
 simp only[a]at h;exact h
theorem d2h{w:Int}(h:4≤w∧w≤24):wrap .i64 (a22 (wrap .i64 (w+(7:Int))) (8:Int))=((((w+7) / 8).toNat:Nat):Int):=by
 rw[a0C (n:=w+7) (by omega),Int.tdiv_eq_ediv_of_nonneg (by omega),a0C (by omega)];omega
theorem c2j{w:Int}(g:4≤w∧w≤24)(l:List Int)(c:l.length≤1000000){k:Nat}(a:k≤3):∀(rest done out:List Int),done++rest=l→rest.all (fun x=>a1i x w)=true→out.length+3*rest.length<100000000→
  y0o a6E (w,(k:Int),l,(l.length:Int),(done.length:Int),out,())=some (.inl (out++rest.flatMap (smB k),()))
 | [],done,out,hd,_,_=>by
  obtain rfl:done=l:=by simpa using hd
  rw[a0E (b:=Sum.inl (out,())) (by simp only[a6E,dge,cF])]
  simp
 |x::rest,done,out,hd,hf,ho=>by
  have h:done.length<l.length:=by rw[←hd];simp
  have f:m0h l (done.length:Int)=some x:=by rw[a0D h];subst hd;simp
  simp only[a80,bA]at hf;simp only[lC]at ho;rw[a0F (s':=(w,(k:Int),l,(l.length:Int),(((done++[x]).length:Nat):Int),out++smB k x,())) (by
   simp only[a6E,dlt h,cT,f,oB,b3P g,hf.1,bT,cF,d0Y w x _ _ l (show k≤8 by omega) out (by omega),a0B (show done.length<1000000 by omega)]
   simp)]
  rw[c2j g l c a rest (done++[x]) (out++smB k x) (by simpa using hd) hf.2 (by rw[lN,b6e];omega)]
  simp
theorem c1v{w:Int}(g:4≤w∧w≤24){l:List Int}(c:l.length≤1000000)(b:l.all (fun x=>a1i x w)=true):a9s (l,w)=some (a3F w l,0):=by
 have f:decide (w<(4:Int))=false:=by simp;omega
 have a:decide (w > (24:Int))=false:=by simp;omega
 have h:=c2j g l c (k:=((w+7) / 8).toNat) (by omega) l [] [] rfl b (by simp;omega);rw[a06]at h;simp only[a9s,f,cF,oB,a,d2h g]
 erw[h]
 rfl
def a9G(d:List Int)(ch c:Nat):List Int:=((a02 d.length).filter fun i=>i%ch==c).map fun i=>d.getD i 0
def a2t(d:List Int)(ch:Nat):List (List Int):=(a02 ch).map (a9G d ch)
def wv(n:Nat)(rows:List (List Int)):List Int:=(a02 n).flatMap fun i=>rows.map fun r=>r.getD i 0
theorem c8H{α:Type}{a b:List α}{i:Nat}{d:α}(h:i<a.length):(a++b).getD i d=a.getD i d:=by
 rw[lD,List.getElem?_append_left h,←lD]
theorem c7C(d:List Int)(x:Int)(ch c:Nat):a9G (d++[x]) ch c=if d.length%ch=c then a9G d ch c++[x]else a9G d ch c:=by
 unfold a9G;rw[lN,a04,a38,a56,pA];have h:((a02 d.length).filter fun i=>i%ch==c).map (fun i=>(d++[x]).getD i 0)=((a02 d.length).filter fun i=>i%ch==c).map fun i=>d.getD i 0:=
  a25 fun i hi=>c8H (a21.1 (a97.1 hi).1)
 rw[h]
 by_cases e:d.length%ch=c
 rw[if_pos e];simp[e];rw[if_neg e];simp[e]
theorem c3W(c:Nat):∀ch,(a02 ch).filter (·==c)=if c<ch then[c]else[]
 |0=>rfl
 |ch+1=>by
  rw[a38,a56,c3W c ch]
  by_cases e:ch=c
  subst e;simp
  have:(c<ch+1)↔c<ch:=by omega
  simp[e,this]
theorem c3X{ch c:Nat}(h:c<ch):∀n,(a02 (n*ch)).filter (fun i=>i%ch==c)=(a02 n).map fun i=>i*ch+c
 |0=>by simp
 |n+1=>by
  rw[Nat.succ_mul,a41,a56,c3X h n,a38,pA,List.filter_map];congr 1;have e:∀i∈a02 ch,((fun i=>i%ch==c)∘fun x=>n*ch+x) i=(i==c):=fun i hi=>by
   have:=a21.1 hi
   simp only[Function.comp];rw[a39 n ch,Nat.mul_add_mod,a35 this]
  rw[List.filter_congr e,c3W,if_pos h];rfl
theorem c2k{d:List Int}{n ch c:Nat}(g:d.length=n*ch)(h:c<ch):a9G d ch c=(a02 n).map fun i=>d.getD (i*ch+c) 0:=by
 unfold a9G;rw[g,c3X h,a31];rfl
theorem d2i(f:Nat→Int)(ch:Nat):∀n,(a02 n).flatMap (fun i=>(a02 ch).map fun c=>f (i*ch+c))=(a02 (n*ch)).map f
 |0=>by simp
 |n+1=>by
  rw[a38,a24,d2i f ch n,Nat.succ_mul,a41,pA,a31];simp[Function.comp_def]
theorem c6y(d:List Int):(a02 d.length).map (fun i=>d.getD i 0)=d:=
 a64 (by simp) fun i g h=>by simp[lD,h]
theorem c1w{n i:Nat}(f:Nat→Int)(h:i<n):((a02 n).map f).getD i 0=f i:=by
 rw[lD,a42,a55 h];rfl
theorem c6z{α β:Type}{l:List α}{f g:α→List β}(h:∀a∈l,f a=g a):l.flatMap f=l.flatMap g:=by
 rw[a65,a65,a25 h]
theorem d0Z{d:List Int}{n ch:Nat}(h:d.length=n*ch):wv n (a2t d ch)=d:=by
 have:wv n (a2t d ch)=(a02 n).flatMap fun i=>(a02 ch).map fun c=>d.getD (i*ch+c) 0:=
  c6z fun i hi=>by
   unfold a2t;rw[a31];refine a25 fun c g=>?_
   show(a9G d ch c).getD i 0=_;rw[c2k h (a21.1 g),c1w _ (a21.1 hi)]
 rw[this,d2i (fun i=>d.getD i 0),←h,c6y]
def prm:Nat:=2305843009213693951
def prs(h:Nat)(l:List Nat):Nat:=l.foldl (fun h c=>(h*1000003+(c+1))%prm) h
theorem d1a(h:Nat):prs h []=h:=rfl
theorem c3Y(h c:Nat)(l:List Nat):prs h (c::l)=prs ((h*1000003+(c+1))%prm) l:=rfl
theorem c6A(h:Nat)(a b:List Nat):prs h (a++b)=prs (prs h a) b:=a43 ..
theorem c3Z{h:Nat}(g:h<prm)(l:List Nat):prs h l<prm:=by
 induction l generalizing h with
 |nil=>exact g
 |cons c l ih=>exact ih (a09 _ (by decide))
theorem b6f(a b c:Nat):(a%prm*b+c)%prm=(a*b+c)%prm:=by
 rw[a46,a28,a90,←a28,←a46]
theorem c4a(a b:Nat):(a+b%prm)%prm=(a+b)%prm:=by
 rw[a46,a90,←a46]
theorem c8I(l:List Nat)(h:Nat):prs h l%prm=(h*1000003^l.length+prs 0 l)%prm:=by
 induction l generalizing h with
 |nil=>simp[d1a]
 |cons c l ih=>
  rw[c3Y,c3Y,ih,b6f,←c4a (h*_),ih ((0*1000003+(c+1))%prm),b6f,c4a,lC,a32];congr 1;rw[a67,a40,a37,a60,a47,a39 (1000003^_) 1000003]
theorem c8J(a b:List Nat):prs 0 (a++b)=(prs 0 a*(1000003^b.length%prm)+prs 0 b)%prm:=by
 rw[c6A,←a35 (c3Z (c3Z (by decide) a) b),c8I,a39 (prs 0 a) (_%prm),b6f,a39 (prs 0 a)]
def pwr:Nat→Nat→Nat→Nat→Nat
 |0,_,p,_=>p
 |k+1,n,p,s=>if n=0 then p else pwr k (n / 2) (if n%2=1 then p*s%prm else p) (s*s%prm)
theorem c8K(a b:Nat):a%prm*b%prm=a*b%prm:=b6f a b 0
theorem c4b(a n:Nat):(a%prm)^n%prm=a^n%prm:=by rw[←Nat.pow_mod]
theorem d2j(k n p s:Nat)(h:n<2^k)(hp:p<prm):pwr k n p s=p*s^n%prm:=by
 induction k generalizing n p s with
 |zero=>rw[show n=0 by simp at h;exact h,pwr,a87,a91,a35 hp]
 |succ k ih=>
  rw[pwr]
  by_cases h0:n=0
  rw[if_pos h0,h0,a87,a91,a35 hp];rw[if_neg h0];have g:n / 2<2^k:=by rw[a32]at h;omega
  have f:(s*s)^(n / 2)=s^(2*(n / 2)):=by rw[Nat.pow_mul,Nat.pow_two]
  by_cases h1:n%2=1
  rw[if_pos h1,ih _ _ _ g (a09 _ (by decide)),a28,c4b,f,←a28,c8K,a47,←Nat.pow_succ'];congr 3;omega;rw[if_neg h1,ih _ _ _ g hp,a28,c4b,f,←a28];congr 3;omega
theorem c7D{u d y1 y0 q r:Nat}(g:u=q*y1+r)(h:q*y0≤4294967296*r+d):q*(y1*4294967296+y0)≤u*4294967296+d:=by
 rw[g,a92,a37,←a47];omega
theorem d2k{u d y1 y0 q r:Nat}(g:u=q*y1+r)(h:4294967296*r+d<q*y0):u*4294967296+d<q*(y1*4294967296+y0):=by
 rw[g,a92,a37,←a47];omega
theorem d1b(u d e y:Nat):((u*4294967296+d)%y*4294967296+e)%y=((u*4294967296+d)*4294967296+e)%y:=by
 rw[a46,a28,a90,←a28,←a46]
theorem c7E(n k y:Nat)(h:0<k):n*k%(y*k) / k=n%y:=by
 rw[Nat.mul_mod_mul_right,a57 _ h]
@[reducible] def Pc:Type:=a1p×(a1k×List Int)
def c4c(fm:a0K)(st:Nat)(x:Pc):Prop:=
 x.1.1=(st:Int)∧x.1.2.1=((a0X x.2.1:Nat):Int)∧x.1.2.2.1=fm∧a2p x.1=some (x.2.1,0)∧a3p x.1=some (x.2.2,0)∧
  (∀R:List Int,R.length≤200000000→a6j (x.2.2++R)=some (x.1,(x.2.2.length:Int),(0:Int)))∧a2X x.2.1∧x.2.1.1=fm.2.2.1∧a0X x.2.1≤64∧1≤x.2.2.length∧x.2.2.length≤700800
def a3l(fm:a0K):Nat→List Pc→Prop
 |_,[]=>True
 |st,x::xs=>c4c fm st x∧a3l fm (st+a0X x.2.1) xs
def a3h:Nat→Nat→List Pc→List (Int×Int×Unit)
 |_,_,[]=>[]
 |st,off,x::xs=>((st:Int),(off:Int),())::a3h (st+a0X x.2.1) (off+x.2.2.length) xs
def a1l(xs:List Pc):Nat:=(xs.map fun x=>a0X x.2.1).sum
def a0U(xs:List Pc):List Int:=xs.flatMap fun x=>x.2.2
def wvB(b:a1k):List Int:=wv (a0X b) b.2.1
def a5F(xs:List Pc):List Int:=xs.flatMap fun x=>wvB x.2.1
def prI(l:List Int):Nat:=prs 0 (l.map a51)
def a2B(fm:a0K)(xs:List Pc):Nat:=prI (a3F fm.2.2.1 (a5F xs))
theorem c0N(l:List Int):prI l<prm:=c3Z (by decide) _
theorem d1c(a b:List Int):prI (a++b)=(prI a*(1000003^b.length%prm)+prI b)%prm:=by
 unfold prI;rw[pA,c8J,a01]
theorem a5G(h:List Pc)(x:Pc):a1l (h++[x])=a1l h+a0X x.2.1:=by simp[a1l]
theorem a9m(h:List Pc)(x:Pc):a0U (h++[x])=a0U h++x.2.2:=by simp[a0U]
theorem b3c(h:List Pc)(x:Pc):a5F (h++[x])=a5F h++wvB x.2.1:=by simp[a5F]
theorem c7F{rows:List (List Int)}:∀n,(wv n rows).length=n*rows.length:=fun n=>by
 unfold wv;rw[List.length_flatMap];simp only[a01];rw[List.map_const',List.sum_replicate_nat,a61]
theorem c2l{fm:a0K}:∀{xs:List Pc}{st:Nat}{x:Pc},a3l fm st xs→c4c fm (st+a1l xs) x→a3l fm st (xs++[x])
 | [],st,x,_,h=>⟨by simpa[a1l]using h,trivial⟩
 |y::xs,st,x,h,h2=>⟨h.1,c2l h.2 (by simpa[a1l,a60]using h2)⟩
theorem b4P:∀(xs:List Pc)(st off:Nat)(x:Pc),a3h st off (xs++[x])=a3h st off xs++[(((st+a1l xs:Nat):Int),((off+(a0U xs).length:Nat):Int),())]
 | [],st,off,x=>by simp[a3h,a1l,a0U]
 |y::xs,st,off,x=>by
  simp only[a44,a3h,b4P xs];simp[a1l,a0U,a60]
theorem b0X:∀(xs:List Pc)(st off:Nat),(a3h st off xs).length=xs.length
 | [],_,_=>rfl
 |_::xs,_,_=>congrArg (·+1) (b0X xs _ _)
theorem b6g{fm:a0K}:∀{xs:List Pc}{st:Nat},a3l fm st xs→(a0U xs).length≤700800*xs.length
 | [],_,_=>by simp[a0U]
 |x::xs,st,h=>by
  have:=b6g h.2
  have:=h.1.2.2.2.2.2.2.2.2.2.2
  simp only[a0U,a20,lN,lC]at *;omega
theorem d1d{b:a1k}{fm:a0K}(hb:a2X b)(i:a0X b≤64)(j:1≤fm.1∧fm.1≤1048576)(d:fm.2.1=((b.2.1.length:Nat):Int))(h:fm.2.2.1=b.1){st:Nat}(q:st+a0X b≤4194304){effort:Int}(m:0≤effort)(n:effort≤3):
  ∃g p,a2H (b,fm,(st:Int),effort)=some (((st:Int),g),0)∧c4c fm st (((st:Int),g),b,p):=by
 obtain⟨rate,ch,bits,u⟩:=fm;cases u;simp only at j d h;subst d h;obtain⟨g,r,s,t,x,y,l,v⟩:=made hb (by omega) (rate:=rate) (start:=(st:Int)) (effort:=effort) j (by omega) m n;have a:=v (st:Int) (by omega);obtain⟨L,o,-,e,c⟩:=b6b (f:=((st:Int),g)) l a;have k:=b6a (f:=((st:Int),g)) l;rw[a]at k;have w:=b8V (b7n a).1 o;refine⟨g,a2L ((st:Int),g) L,r,rfl,s,t,k,e,c,hb,rfl,i,?_,?_⟩;show 1≤(a2L _ L).length;simp only[a2L,lN,lC];omega;show(a2L _ L).length≤700800;simp only[a2L,lN,lC,a06];omega
theorem c4d{d:List Int}{n ch c:Nat}(g:d.length=n*ch)(h:c<ch):(a9G d ch c).length=n:=by rw[c2k g h];simp
theorem c8L{d:List Int}{ch c:Nat}{x:Int}(h:x∈a9G d ch c):x∈d:=by
 unfold a9G at h;obtain⟨i,hi,rfl⟩:=a30.1 h;have hi:=a21.1 (a97.1 hi).1;rw[lD,lG hi];exact a45 hi
def a7n(w:Int)(d:List Int)(ch:Nat):a1k:=(w,a2t d ch,())
theorem b9b{w:Int}{d:List Int}{n ch:Nat}(g:d.length=n*ch)(h:0<ch):a0X (a7n w d ch)=n:=by
 obtain⟨k,rfl⟩:∃k,ch=k+1:=⟨ch-1,by omega⟩;show((a2t d (k+1)).headD []).length=n;unfold a2t;rw[List.range_succ_eq_map];exact c4d g (by omega)
theorem d1e{w:Int}{d:List Int}{n ch:Nat}(k:d.length=n*ch)(h:1≤ch∧ch≤8)(a:1≤n∧n≤4096)(b:4≤w∧w≤24)(e:d.all (fun x=>a1i x w)=true):a2X (a7n w d ch):=by
 have f:=b9b (w:=w) k (show 0<ch by omega);have g:(a2t d ch).length=ch:=by simp[a2t]
 refine⟨b.1,b.2,by rw[show(a7n w d ch).2.1.length=ch from g];exact h.1,by rw[show(a7n w d ch).2.1.length=ch from g];exact h.2,by rw[f];exact a.1,by rw[f];exact a.2,?_⟩;rw[f];refine lA.2 fun r i=>?_
 obtain⟨c,g,rfl⟩:=a30.1 (show r∈(a02 ch).map (a9G d ch)from i);rw[bA,dT];exact⟨c4d k (a21.1 g),lA.2 fun x j=>lA.1 e x (c8L j)⟩
theorem d1f{w:Int}{d:List Int}{n ch:Nat}(g:d.length=n*ch)(h:0<ch):wvB (a7n w d ch)=d:=by
 unfold wvB;rw[b9b g h];exact d0Z g
def b4Q(n:Nat)(l:List Int):Nat:=l.foldl (fun n c=>n*256+c.toNat) n
def a7C(k n:Nat):List Int:=(leB k n).reverse
theorem b9c:∀(k n:Nat),n<256^k→b4Q 0 (a7C k n)=n
 |0,n,h=>by simp at h;subst h;rfl
 |k+1,n,h=>by
  have g:=b9c k (n / 256) (by rw[a48 (by omega)];rw[a32]at h;exact h);unfold b4Q a7C at *;rw[leB,List.reverse_cons,a43,g]
  simp
  omega
theorem a8l(k n:Nat):(a7C k n).length=k:=by simp[a7C,b0O]
theorem b6h(k n:Nat):∀b∈a7C k n,0≤b∧b<256:=fun b hb=>b7p k n b (List.mem_reverse.1 hb)
theorem c1x{n k:Nat}(j:n<18446744073709551616)(d:k≤8):a5c ((n:Int),(k:Int))=some (leB k n):=by
 have c:a2U (k:Int)=some (k:Int):=by
  simp only[a2U,b4Y,b4Z];congr 1;omega
 simp only[a5c,c,oB];have h:=a1B (f:=a1L) (fun i=>(((n / 256^i:Nat):Int),(k:Int),(i:Int),leB i n,())) k (b:=(leB k n,())) (fun i hi=>by
   have g:wrap .u64 (a22 ((n / 256^i:Nat):Int) 256)=((n / 256^(i+1):Nat):Int):=by
    have e:a22 ((n / 256^i:Nat):Int) 256=((n / 256^i / 256:Nat):Int):=rfl;rw[e,Nat.div_div_eq_div_mul,←a32]
    have:=a98 n (256^(i+1))
    revert this
    generalize n / 256^(i+1)=m;intro this;exact a0L (by omega)
   have a:wrap .u8 (a52 ((n / 256^i:Nat):Int) 256)=((n / 256^i%256:Nat):Int):=by
    have e:a52 ((n / 256^i:Nat):Int) 256=((n / 256^i%256:Nat):Int):=rfl;rw[e,a8a];omega
   simp only[a1L];rw[dlt hi,a0T (show(leB i n).length+1<2147483648 by rw[b0O];omega),g,a0B (show i<1000000 by omega),a,b8I];rfl) (by simp only[a1L,dge,cF])
 simp only[a87,Nat.div_one,leB]at h;rw[show((0:Nat):Int)=0 from rfl]at h;rw[h];rfl
theorem b7q{n k:Nat}(g:n<18446744073709551616)(h:k≤8):a4l ((n:Int),(k:Int))=some (a7C k n):=by
 unfold a4l a1J;simp only[c1x g h,oB];rw[decide_eq_true (by rw[b0O];omega)];rfl
def c32(s:BitVec 32):BitVec 32:=bif s.getLsbD 0 then(s >>> 1) ^^^ 0xedb88320#32 else s >>> 1
def c8M:Nat→BitVec 32→BitVec 32
 |0,s=>s
 |k+1,s=>c8M k (c32 s)
def c8N(s x:BitVec 32):BitVec 32:=c8M 8 (s ^^^ x)
def d2l(s:BitVec 32)(l:List (BitVec 32)):BitVec 32:=l.foldl c8N s
theorem c8O(s:BitVec 32):a00 32 ((s.toNat:Nat):Int)=s:=by
 rw[BitVec.ofInt_natCast,BitVec.ofNat_toNat,BitVec.setWidth_eq]
theorem d2m(s:BitVec 32):wrap .u32 ((s.toNat:Nat):Int)=((s.toNat:Nat):Int):=by
 have:=s.isLt
 simp[wrap,IntKind.bits,IntKind.signed];omega
theorem c6B(s t:BitVec 32):bits .u32 .xor ((s.toNat:Nat):Int) ((t.toNat:Nat):Int)=(((s ^^^ t).toNat:Nat):Int):=by
 show wrap .u32 (((a00 32 _ ^^^ a00 32 _).toNat:Nat):Int)=_;rw[c8O,c8O,d2m]
theorem d4a(s:BitVec 32):(bits .u32 .and ((s.toNat:Nat):Int) 1==(1:Int))=s.getLsbD 0:=by
 have h:bits .u32 .and ((s.toNat:Nat):Int) 1=(((s &&& 1#32).toNat:Nat):Int):=by
  show wrap .u32 (((a00 32 _ &&& a00 32 1).toNat:Nat):Int)=_;rw[c8O,show a00 32 1=1#32 from rfl,d2m]
 rw[h,a62,show(1#32).toNat=1 from rfl,Nat.and_one_is_mod,a75,Nat.testBit_zero];rcases Nat.mod_two_eq_zero_or_one s.toNat with e|e<;>rw[e]<;>rfl
theorem d4b(s:BitVec 32):A0k .u32 ((s.toNat:Nat):Int) 1=(((s >>> 1).toNat:Nat):Int):=by
 unfold A0k;rw[show min (a51 1) (IntKind.bits .u32)=1 from rfl,a34 _ (by decide),BitVec.toNat_ushiftRight,Nat.shiftRight_eq_div_pow]
 norm_cast
def e32(s:Int):Int:=bif (bits .u32 .and s 1)==(1:Int)then bits .u32 .xor (A0k .u32 s 1) 3988292384 else A0k .u32 s 1
theorem d2n(s:BitVec 32):e32 ((s.toNat:Nat):Int)=(((c32 s).toNat:Nat):Int):=by
 unfold e32 c32;rw[d4a,d4b,show(3988292384:Int)=(((0xedb88320#32).toNat:Nat):Int)from rfl,c6B];cases s.getLsbD 0<;>rfl
theorem c4e:∀(k:Nat)(s:BitVec 32),rep e32 k ((s.toNat:Nat):Int)=(((c8M k s).toNat:Nat):Int)
 |0,_=>rfl
 |k+1,s=>by
  rw[show rep e32 (k+1) ((s.toNat:Nat):Int)=rep e32 k (e32 ((s.toNat:Nat):Int))from rfl,d2n,c4e k];rfl
def c8P(l:List Int):BitVec 32:=d2l 0xffffffff#32 (l.map (a00 32))
def a3O(l:List Int):Nat:=(~~~ c8P l).toNat
theorem b6i(l:List Int):a3O l<4294967296:=(~~~ c8P l).isLt
@[reducible] def c1y:Type:=a0K×(Int×(Int×(List (Int×(Int×Unit))×(List a1p×Unit))))
def mkT(fm:a0K)(xs:List Pc):c1y:=(fm,((a1l xs:Nat):Int),((a2B fm xs:Nat):Int),a3h 0 0 xs,xs.map (·.1),())
def nsP(xs:List Pc):List Nat:=xs.flatMap fun x=>[x.2.2.length,a0X x.2.1]
def a2M(fm:a0K)(xs:List Pc):List Nat:=[fm.1.toNat,fm.2.1.toNat,fm.2.2.1.toNat,xs.length]++nsP xs
def b9d:List Int:=[75,78,83,68]
def a1m(fm:a0K)(xs:List Pc):List Int:=b9d++((a2M fm xs).flatMap a0J++a7C 8 (a2B fm xs))
def a2C(fm:a0K)(xs:List Pc):List Int:=a1m fm xs++(a7C 4 (a3O (a1m fm xs))++a0U xs)
def b2a(l:List Int)(ch st en:Nat):List Int:=(l.take (en*ch)).drop (st*ch)
theorem c7G{l:List Int}{ch st en:Nat}(h:en*ch≤l.length):(b2a l ch st en).length=(en-st)*ch:=by
 unfold b2a;rw[List.length_drop,a93,a69 h,Nat.sub_mul]
theorem c7H{l:List Int}{ch st en:Nat}(g:st≤en):l.take (st*ch)++b2a l ch st en=l.take (en*ch):=by
 unfold b2a;have h:st*ch≤en*ch:=a23 _ g;rw[←a69 h,←List.take_take,a69 h,List.take_append_drop]
theorem c7I{l:List Int}{p:Int→Bool}{ch st en:Nat}(h:l.all p=true):(b2a l ch st en).all p=true:=
 lA.2 fun x g=>lA.1 h x (List.mem_of_mem_take (List.mem_of_mem_drop g))
theorem b5s(h:List Pc):(nsP h).length=2*h.length:=by
 induction h with
 |nil=>rfl
 |cons x h ih=>simp only[nsP,a20,lN,lC,a06]at *;omega
theorem c8Q(h:List Pc)(x:Pc):nsP (h++[x])=nsP h++[x.2.2.length,a0X x.2.1]:=by simp[nsP]
theorem c2m{fm:a0K}:∀{xs:List Pc}{st:Nat},a3l fm st xs→∀n∈nsP xs,n<1048704
 | [],_,_,n,hn=>by simp[nsP]at hn
 |x::xs,st,h,n,hn=>by
  have g:=h.1.2.2.2.2.2.2.2.2;simp only[nsP,a20,mA,mC,a33,or_false]at hn;rcases hn with(rfl|rfl)|hn;omega;omega;exact c2m h.2 n hn
theorem b7r{fm:a0K}:∀{xs:List Pc}{st:Nat},a3l fm st xs→xs.length≤a1l xs∧a1l xs≤64*xs.length
 | [],_,_=>by simp[a1l]
 |x::xs,st,h=>by
  have g:=h.1.2.2.2.2.2.2.1.2.2.2.2.1;have f:=h.1.2.2.2.2.2.2.2.2.1
  have:=b7r h.2
  simp only[a1l,a18,List.sum_cons,lC]at *;omega
theorem b4o:∀(l:List Nat),(∀n∈l,n<9223372036854775808)→(l.flatMap a0J).length≤9*l.length
 | [],_=>by simp
 |n::l,h=>by
  have:=(a8L (h n (by simp))).2
  have:=b4o l fun m g=>h m (by simp[g])
  simp only[a20,lN,lC];omega
theorem a7z{fm:a0K}(f:a3k fm){xs:List Pc}(h:a3l fm 0 xs)(i:xs.length≤200):∀n∈a2M fm xs,n<1048704:=fun n g=>by
 simp only[a2M,mA,mC,a33,or_false]at g;obtain⟨k,a,b,c,d,e⟩:=f;rcases g with(rfl|rfl|rfl|rfl)|g;omega;omega;omega;omega;exact c2m h n g
theorem c2n{fm:a0K}(g:a3k fm){xs:List Pc}(h:a3l fm 0 xs)(k:xs.length≤200):(a1m fm xs).length≤4000:=by
 have a:=b4o (a2M fm xs) fun n f=>a19 (a7z g h k n f) (by decide);have b:(a2M fm xs).length=4+2*xs.length:=by simp[a2M,b5s];omega
 simp only[a1m,b9d,lN,lC,a06,a8l];omega
def a9H(y0 d q r:Nat):Prop:=4294967296≤q∨4294967296*r+d<q*y0
instance (y0 d q r:Nat):Decidable (a9H y0 d q r):=inferInstanceAs (Decidable (_∨_))
def b7s(u d y1 y0:Nat):Nat:=
 if a9H y0 d (u / y1) (u%y1)then
  if 4294967296≤u%y1+y1 then u / y1-1
  else if a9H y0 d (u / y1-1) (u%y1+y1)then u / y1-2 else u / y1-1
 else u / y1
theorem d1g{u d y1 y0:Nat}(v:2147483648≤y1)(s:y0<4294967296)(x:u<y1*4294967296+y0)(w:d<4294967296):
  b7s u d y1 y0=(u*4294967296+d) / (y1*4294967296+y0):=by
 have hp:0<y1:=by omega
 have e:u=u / y1*y1+u%y1:=(Nat.div_add_mod' u y1).symm;have n:=a09 u hp;have l:u / y1≤4294967297:=by
  have:u / y1<4294967298:=(a48 hp).2 (by omega)
  exact Nat.le_of_lt_succ this
 have t:u*4294967296+d<(u / y1+1)*(y1*4294967296+y0):=by
  have:u+1≤(u / y1+1)*y1:=by rw[a37];omega
  have:(u+1)*4294967296≤(u / y1+1)*y1*4294967296:=a23 _ this
  rw[a92,←a47];omega
 have over:∀{q r:Nat},u=q*y1+r→a9H y0 d q r→u*4294967296+d<q*(y1*4294967296+y0):=by
  intro q r g f;rcases f with f|f
  have:=a23 (y1*4294967296+y0) f
  omega;exact d2k g f
 have fits:∀{q r:Nat},u=q*y1+r→¬ a9H y0 d q r→q*(y1*4294967296+y0)≤u*4294967296+d:=
  fun g f=>c7D g (Nat.le_of_not_lt fun h=>f (.inr h))
 have i:∀{q r:Nat},u=q*y1+r→q≤4294967296→4294967296≤r→q*(y1*4294967296+y0)≤u*4294967296+d:=by
  intro q r g l n;refine c7D g ?_
  have a:=a08 l (a54 s);have b:=a81 4294967296 n;omega
 unfold b7s;generalize u / y1=q at *;generalize u%y1=r at *;have done:∀{m:Nat},m*(y1*4294967296+y0)≤u*4294967296+d→u*4294967296+d<(m+1)*(y1*4294967296+y0)→m=(u*4294967296+d) / (y1*4294967296+y0):=
  fun a b=>(Nat.div_eq_of_lt_le a b).symm
 by_cases c:a9H y0 d q r
 rw[if_pos c];have o:=over e c;have q1:1≤q:=a84 fun z=>by rw[z,a67]at o;exact absurd o (a99 _)
 obtain⟨q,rfl⟩:∃k,q=k+1:=⟨q-1,by omega⟩;rw[Nat.add_sub_cancel];have j:u=q*y1+(r+y1):=by rw[e,a37];omega
 by_cases c1:4294967296≤r+y1
 rw[if_pos c1];exact done (i j (by omega) c1) o;rw[if_neg c1]
 by_cases c2:a9H y0 d q (r+y1)
 rw[if_pos c2];have o1:=over j c2;have y:1≤q:=a84 fun z=>by rw[z,a67]at o1;exact absurd o1 (a99 _)
 obtain⟨q,rfl⟩:∃k,q=k+1:=⟨q-1,by omega⟩;have p:u=q*y1+(r+y1+y1):=by rw[j,a37];omega
 exact done (m:=q) (i p (by omega) (by omega)) o1;rw[if_neg c2];exact done (fits j c2) o;rw[if_neg c];exact done (fits e c) t
theorem d2o(hi lo:Nat):
  (((hi*8+lo / 2305843009213693952)*4294967296+lo*8%18446744073709551616 / 4294967296)%18446744073709551608*4294967296+lo*8%18446744073709551616%4294967296)%18446744073709551608 / 8
   = (hi*18446744073709551616+lo)%prm:=by
 have e:((hi*8+lo / 2305843009213693952)*4294967296+lo*8%18446744073709551616 / 4294967296)*4294967296+lo*8%18446744073709551616%4294967296=(hi*18446744073709551616+lo)*8:=by omega
 rw[d1b,e];exact c7E _ 8 prm (by decide)
theorem c8R{hi lo:Nat}(h:hi<prm)(g:lo<18446744073709551616):hi*8+lo / 2305843009213693952<4294967295*4294967296+4294967288:=by
 unfold prm at h;omega
theorem c7J{a b c:Nat}(h:a<prm)(hb:b<prm)(g:c≤prm):(a*b+c) / 18446744073709551616<prm:=by
 have:=a08 (a78 h) (a78 hb)
 unfold prm at *;omega
theorem d2p{a b x0 x1 y0 y1 t:Nat}(d:x0=a%4294967296)(i:x1=a / 4294967296)(j:y0=b%4294967296)(l:y1=b / 4294967296)(r:t=x1*y0+x0*y0 / 4294967296)
  (n:a<18446744073709551616)(hb:b<18446744073709551616):
  x1*y1+t / 4294967296+(t%4294967296+x0*y1) / 4294967296=a*b / 18446744073709551616∧x0*y0<18446744073709551616∧t<18446744073709551616∧t%4294967296+x0*y1<18446744073709551616:=by
 have h:a=x1*4294967296+x0:=by omega
 have g:b=y1*4294967296+y0:=by omega
 have e:a*b=x1*y1*18446744073709551616+(x1*y0+x0*y1)*4294967296+x0*y0:=by
  rw[h,g];grind
 have m:∀{p q:Nat},p<4294967296→q<4294967296→p*q≤4294967295*4294967295:=fun hp o=>a08 (by omega) (by omega);have f:=m (show x0<4294967296 by omega) (show y0<4294967296 by omega);have c:=m (show x1<4294967296 by omega) (show y0<4294967296 by omega);have k:=m (show x0<4294967296 by omega) (show y1<4294967296 by omega);rw[e];generalize x0*y0=p00 at *;generalize x1*y0=p10 at *;generalize x0*y1=p01 at *;generalize x1*y1=p11 at *;omega
theorem c2L(n:Nat):wrap .u64 (n:Int)=((n%18446744073709551616:Nat):Int):=by
 simp[wrap,IntKind.bits,IntKind.signed]
theorem c4f{n k:Nat}(g:k≤64):A0k .u64 (n:Int) (k:Int)=((n / 2^k:Nat):Int):=by
 have h:min (a51 (k:Int)) (IntKind.bits .u64)=k:=by simp only[tN,IntKind.bits];omega
 unfold A0k;rw[h,a34 _ (by exact_mod_cast Nat.zero_le _)]
 norm_cast
theorem c7K(n:Nat):A0k .u64 (n:Int) 32=((n / 4294967296:Nat):Int):=c4f (k:=32) (by omega)
theorem c9R(n:Nat):bits .u64 .and (n:Int) 4294967295=((n%4294967296:Nat):Int):=by
 show wrap .u64 (((a00 64 (n:Int) &&& a00 64 4294967295).toNat:Nat):Int)=_;have g:(a00 64 4294967295).toNat=4294967295:=rfl;have h:(a00 64 (n:Int)).toNat=n%18446744073709551616:=by rw[a26];omega
 rw[a62,h,g,show 4294967295=2^32-1 from rfl,a50,c2L];omega
theorem d7I{a b:Nat}(f:a<2305843009213693952)(hb:b<8):bits .u64 .or ((a*8:Nat):Int) (b:Int)=((a*8+b:Nat):Int):=by
 show wrap .u64 (((a00 64 ((a*8:Nat):Int) ||| a00 64 (b:Int)).toNat:Nat):Int)=_;have h:(a00 64 ((a*8:Nat):Int)).toNat=2^3*a:=by rw[a26];omega
 have g:(a00 64 (b:Int)).toNat=b:=by rw[a26];omega
 rw[BitVec.toNat_or,h,g,←Nat.two_pow_add_eq_or_of_lt (i:=3) hb a,c2L];omega
theorem c8S{a b:Nat}(f:a<18446744073709551616)(hb:b<18446744073709551616):a5S ((a:Int),(b:Int))=some (((a*b / 18446744073709551616:Nat):Int),((a*b%18446744073709551616:Nat):Int)):=by
 obtain⟨k,c,d,e⟩:=d2p (a:=a) (b:=b) rfl rfl rfl rfl rfl f hb;unfold a5S;simp only[c7K,c9R,←a53,←Int.natCast_add,c2L,sj,pJ,Int.natCast_inj];refine⟨?_,trivial⟩
 revert k c d e
 generalize a%4294967296*(b%4294967296)=p00;generalize a / 4294967296*(b%4294967296)=p10;generalize a%4294967296*(b / 4294967296)=p01;have i:a*b / 18446744073709551616<18446744073709551616:=a79 (Nat.lt_of_le_of_lt (a08 (a54 f) (a54 hb)) (by omega:18446744073709551616*18446744073709551616<18446744073709551616*18446744073709551616+1) |> fun h=>by
  rcases Nat.lt_or_ge (a*b) (18446744073709551616*18446744073709551616)with g|g;exact g
  have:=Nat.mul_lt_mul_of_lt_of_le f (a54 hb) (by omega);omega)
 revert i
 generalize a*b / 18446744073709551616=q;generalize a / 4294967296*(b / 4294967296)=p11;intro i k c d e;omega
theorem b8x{α:Type}(p:Prop)[Decidable p](a b:α):(bif decide p then a else b)=if p then a else b:=by
 by_cases h:p<;>simp[h]
theorem d2q:a3T 2305843009213693951=some 3:=by kernel_rfl
theorem c6C{u d q:Nat}(h:q=b7s u d 4294967295 4294967288)(f:u<4294967295*4294967296+4294967288)(g:d<4294967296):q*18446744073709551608≤u*4294967296+d∧u*4294967296+d<q*18446744073709551608+18446744073709551608∧q<4294967296:=by
 rw[d1g (by omega) (by omega) f g]at h;omega
theorem b8y{u d u0 q r:Nat}{s:Int}(i:d<4294967296)(j:q≤4294967297)(l:r<4294967296):a1T ((18446744073709551608:Int),s,(4294967295:Int),(4294967288:Int),(u:Int),(d:Int),(u0:Int),(q:Int),(r:Int),()) =
  if a9H 4294967288 d q r then(if 4294967296≤r+4294967295 then some (.inr ((18446744073709551608:Int),s,(4294967295:Int),(4294967288:Int),(u:Int),(d:Int),(u0:Int),((q-1:Nat):Int),()))else some (.inl ((18446744073709551608:Int),s,(4294967295:Int),(4294967288:Int),(u:Int),(d:Int),(u0:Int),((q-1:Nat):Int),((r+4294967295:Nat):Int),())))else some (.inr ((18446744073709551608:Int),s,(4294967295:Int),(4294967288:Int),(u:Int),(d:Int),(u0:Int),(q:Int),())):=by
 have c:wrap .u64 ((q:Int)-1)=(((q-1:Nat)):Int)∨q=0:=by
  rcases a85 q with h|h;exact .inr h;left;rw[a0L (by omega)];omega
 have f:wrap .u64 ((r:Int)+4294967295)=((r+4294967295:Nat):Int):=by rw[a0L (by omega)];omega
 have b:decide (wrap .u64 ((r:Int)+4294967295)≥(4294967296:Int))=decide (4294967296≤r+4294967295):=by
  rw[f];exact decide_eq_decide.2 (by omega)
 have tail:q≠0→(bif decide (wrap .u64 ((r:Int)+4294967295)≥(4294967296:Int))then(some (.inr ((18446744073709551608:Int),s,(4294967295:Int),(4294967288:Int),(u:Int),(d:Int),(u0:Int),(wrap .u64 ((q:Int)-1)),())):Option (_ ⊕ (Int×Int×Int×Int×Int×Int×Int×Int×Unit)))else some (.inl ((18446744073709551608:Int),s,(4294967295:Int),(4294967288:Int),(u:Int),(d:Int),(u0:Int),(wrap .u64 ((q:Int)-1)),(wrap .u64 ((r:Int)+4294967295)),()))) =
   (if 4294967296≤r+4294967295 then some (.inr ((18446744073709551608:Int),s,(4294967295:Int),(4294967288:Int),(u:Int),(d:Int),(u0:Int),((q-1:Nat):Int),()))else some (.inl ((18446744073709551608:Int),s,(4294967295:Int),(4294967288:Int),(u:Int),(d:Int),(u0:Int),((q-1:Nat):Int),((r+4294967295:Nat):Int),()))):=fun e=>by
  rw[b,c.resolve_right e,f];exact b8x ..
 by_cases h1:4294967296≤q
 have c0:decide ((q:Int)≥(4294967296:Int))=true:=decide_eq_true (by omega);rw[if_pos (.inl h1),←tail (by omega)];unfold a1T;dsimp only;rw[c0,cT,oB];have c0:decide ((q:Int)≥(4294967296:Int))=false:=decide_eq_false (by omega);have k:wrap .u64 ((q:Int)*4294967288)=((q*4294967288:Nat):Int):=by rw[a0L (by omega)];omega
 have a:wrap .u64 (wrap .u64 ((4294967296:Int)*(r:Int))+(d:Int))=((4294967296*r+d:Nat):Int):=by rw[a0L (n:=4294967296*(r:Int)) (by omega),a0L (by omega)];omega
 by_cases h2:4294967296*r+d<q*4294967288
 have g:decide (wrap .u64 ((q:Int)*4294967288) > wrap .u64 (wrap .u64 ((4294967296:Int)*(r:Int))+(d:Int)))=true:=decide_eq_true (by rw[k,a];omega);rw[if_pos (.inr h2),←tail (by omega)];unfold a1T;dsimp only;rw[c0,cF,g,cT,oB];have g:decide (wrap .u64 ((q:Int)*4294967288) > wrap .u64 (wrap .u64 ((4294967296:Int)*(r:Int))+(d:Int)))=false:=decide_eq_false (by rw[k,a];omega);rw[if_neg (by unfold a9H;omega)];unfold a1T;dsimp only;rw[c0,cF,g,cF,oB]
theorem d2r{u d u0:Nat}{s:Int}(a:u<4294967295*4294967296+4294967288)(k:d<4294967296):
  y0o a1T ((18446744073709551608:Int),s,(4294967295:Int),(4294967288:Int),(u:Int),(d:Int),(u0:Int),((u / 4294967295:Nat):Int),((u%4294967295:Nat):Int),())=some ((18446744073709551608:Int),s,(4294967295:Int),(4294967288:Int),(u:Int),(d:Int),(u0:Int),((b7s u d 4294967295 4294967288:Nat):Int),()):=by
 have g:u / 4294967295≤4294967297:=by omega
 have f:u%4294967295<4294967295:=a09 _ (by omega);unfold b7s
 revert g f
 generalize u / 4294967295=q;generalize u%4294967295=r;intro g f;have s0:=b8y (u0:=u0) (s:=s) (u:=u) k g (a89 f)
 by_cases c1:a9H 4294967288 d q r
 rw[if_pos c1]at s0⊢
 by_cases c2:4294967296≤r+4294967295
 rw[if_pos c2]at s0⊢;exact a0E s0;rw[if_neg c2]at s0⊢;rw[a0F s0];have h:=b8y (u0:=u0) (s:=s) (u:=u) (q:=q-1) (r:=r+4294967295) k (by omega) (by omega)
 by_cases c3:a9H 4294967288 d (q-1) (r+4294967295)
 rw[if_pos c3,if_pos (by omega),Nat.sub_sub]at h;rw[if_pos c3];exact a0E h;rw[if_neg c3]at h;rw[if_neg c3];exact a0E h;rw[if_neg c1]at s0⊢;exact a0E s0
theorem b8z{u d q r:Nat}{s q1:Int}(i:d<4294967296)(j:q≤4294967297)(l:r<4294967296):a1U ((18446744073709551608:Int),s,(4294967295:Int),(4294967288:Int),(d:Int),q1,(r:Int),(u:Int),(q:Int),()) =
  if a9H 4294967288 d q r then(if 4294967296≤r+4294967295 then some (.inr ((18446744073709551608:Int),s,(d:Int),q1,(u:Int),((q-1:Nat):Int),()))else some (.inl ((18446744073709551608:Int),s,(4294967295:Int),(4294967288:Int),(d:Int),q1,((r+4294967295:Nat):Int),(u:Int),((q-1:Nat):Int),())))else some (.inr ((18446744073709551608:Int),s,(d:Int),q1,(u:Int),(q:Int),())):=by
 have c:wrap .u64 ((q:Int)-1)=(((q-1:Nat)):Int)∨q=0:=by
  rcases a85 q with h|h;exact .inr h;left;rw[a0L (by omega)];omega
 have f:wrap .u64 ((r:Int)+4294967295)=((r+4294967295:Nat):Int):=by rw[a0L (by omega)];omega
 have b:decide (wrap .u64 ((r:Int)+4294967295)≥(4294967296:Int))=decide (4294967296≤r+4294967295):=by
  rw[f];exact decide_eq_decide.2 (by omega)
 have tail:q≠0→(bif decide (wrap .u64 ((r:Int)+4294967295)≥(4294967296:Int))then(some (.inr ((18446744073709551608:Int),s,(d:Int),q1,(u:Int),(wrap .u64 ((q:Int)-1)),())):Option (_ ⊕ (Int×Int×Int×Int×Int×Int×Unit)))else some (.inl ((18446744073709551608:Int),s,(4294967295:Int),(4294967288:Int),(d:Int),q1,(wrap .u64 ((r:Int)+4294967295)),(u:Int),(wrap .u64 ((q:Int)-1)),()))) =
   (if 4294967296≤r+4294967295 then some (.inr ((18446744073709551608:Int),s,(d:Int),q1,(u:Int),((q-1:Nat):Int),()))else some (.inl ((18446744073709551608:Int),s,(4294967295:Int),(4294967288:Int),(d:Int),q1,((r+4294967295:Nat):Int),(u:Int),((q-1:Nat):Int),()))):=fun e=>by
  rw[b,c.resolve_right e,f];exact b8x ..
 by_cases h1:4294967296≤q
 have c0:decide ((q:Int)≥(4294967296:Int))=true:=decide_eq_true (by omega);rw[if_pos (.inl h1),←tail (by omega)];unfold a1U;dsimp only;rw[c0,cT,oB];have c0:decide ((q:Int)≥(4294967296:Int))=false:=decide_eq_false (by omega);have k:wrap .u64 ((q:Int)*4294967288)=((q*4294967288:Nat):Int):=by rw[a0L (by omega)];omega
 have a:wrap .u64 (wrap .u64 ((4294967296:Int)*(r:Int))+(d:Int))=((4294967296*r+d:Nat):Int):=by rw[a0L (n:=4294967296*(r:Int)) (by omega),a0L (by omega)];omega
 by_cases h2:4294967296*r+d<q*4294967288
 have g:decide (wrap .u64 ((q:Int)*4294967288) > wrap .u64 (wrap .u64 ((4294967296:Int)*(r:Int))+(d:Int)))=true:=decide_eq_true (by rw[k,a];omega);rw[if_pos (.inr h2),←tail (by omega)];unfold a1U;dsimp only;rw[c0,cF,g,cT,oB];have g:decide (wrap .u64 ((q:Int)*4294967288) > wrap .u64 (wrap .u64 ((4294967296:Int)*(r:Int))+(d:Int)))=false:=decide_eq_false (by rw[k,a];omega);rw[if_neg (by unfold a9H;omega)];unfold a1U;dsimp only;rw[c0,cF,g,cF,oB]
theorem d2s{u d:Nat}{s q1:Int}(a:u<4294967295*4294967296+4294967288)(k:d<4294967296):
  y0o a1U ((18446744073709551608:Int),s,(4294967295:Int),(4294967288:Int),(d:Int),q1,((u%4294967295:Nat):Int),(u:Int),((u / 4294967295:Nat):Int),())=some ((18446744073709551608:Int),s,(d:Int),q1,(u:Int),((b7s u d 4294967295 4294967288:Nat):Int),()):=by
 have g:u / 4294967295≤4294967297:=by omega
 have f:u%4294967295<4294967295:=a09 _ (by omega);unfold b7s
 revert g f
 generalize u / 4294967295=q;generalize u%4294967295=r;intro g f;have s0:=b8z (s:=s) (q1:=q1) (u:=u) k g (a89 f)
 by_cases c1:a9H 4294967288 d q r
 rw[if_pos c1]at s0⊢
 by_cases c2:4294967296≤r+4294967295
 rw[if_pos c2]at s0⊢;exact a0E s0;rw[if_neg c2]at s0⊢;rw[a0F s0];have h:=b8z (s:=s) (q1:=q1) (u:=u) (q:=q-1) (r:=r+4294967295) k (by omega) (by omega)
 by_cases c3:a9H 4294967288 d (q-1) (r+4294967295)
 rw[if_pos c3,if_pos (by omega),Nat.sub_sub]at h;rw[if_pos c3];exact a0E h;rw[if_neg c3]at h;rw[if_neg c3];exact a0E h;rw[if_neg c1]at s0⊢;exact a0E s0
theorem d4c(n:Int):wrap .u64 n=n%18446744073709551616:=by simp[wrap,IntKind.bits,IntKind.signed]
theorem d1h{u d Q:Nat}(g:Q*18446744073709551608≤u*4294967296+d)(f:u*4294967296+d<Q*18446744073709551608+18446744073709551608):
  wrap .u64 (wrap .u64 (wrap .u64 ((u:Int)*4294967296)+(d:Int))-wrap .u64 ((Q:Int)*18446744073709551608))=(((u*4294967296+d)%18446744073709551608:Nat):Int):=by
 have:u*4294967296+d=Q*18446744073709551608+(u*4294967296+d)%18446744073709551608:=by omega
 have h:(u*4294967296+d)%18446744073709551608<18446744073709551608:=a09 _ (by omega)
 revert this h
 generalize (u*4294967296+d)%18446744073709551608=v;intro this h;clear g f;simp only[d4c];omega
theorem c5h{u:Nat}(h:u<18446744073709551616):wrap .u64 ((u:Int)-wrap .u64 (((u / 4294967295:Nat):Int)*4294967295))=((u%4294967295:Nat):Int):=by
 rw[a0L (n:=((u / 4294967295:Nat):Int)*4294967295) (by omega),a0L (by omega)];omega
theorem sh3(n:Nat):A0j .u64 (n:Int) 3=((n*8%18446744073709551616:Nat):Int):=by
 unfold A0j;rw[show(2:Int)^(min (a51 3) (IntKind.bits .u64))=((8:Nat):Int)from rfl,←a53,c2L]
theorem c8T(lo:Nat):a1Z (0,(lo:Int),(2305843009213693951:Int))=some (wrap .u64 (a22 (lo:Int) 2305843009213693951),((lo%2305843009213693951:Nat):Int)):=by
 unfold a1Z;simp only[show((2305843009213693951:Int)==0)=false from rfl,cF,show decide ((2305843009213693951:Int)≤0)=false from rfl,beq_self_eq_true,cT];rfl
theorem d4d:wrap .u64 3=3:=by kernel_rfl
theorem d2t:wrap .u64 (64-3)=((61:Nat):Int):=by kernel_rfl
theorem d4e:A0j .u64 2305843009213693951 3=18446744073709551608:=by kernel_rfl
theorem d4f:A0k .u64 18446744073709551608 32=4294967295:=by kernel_rfl
theorem d4g:bits .u64 .and 18446744073709551608 4294967295=4294967288:=by kernel_rfl
theorem d4h:((2305843009213693951:Int)==0)=false:=by kernel_rfl
theorem c9S:decide ((3:Int)<0)=false:=by kernel_rfl
theorem d4i:decide (((61:Nat):Int)<0)=false:=by kernel_rfl
theorem c9T:((4294967295:Int)==0)=false:=by kernel_rfl
theorem c7L{u d Q v:Nat}(hv:(u*4294967296+d)%18446744073709551608=v)(h:Q*18446744073709551608≤u*4294967296+d)(g:u*4294967296+d<Q*18446744073709551608+18446744073709551608):
  wrap .u64 (wrap .u64 (wrap .u64 ((u:Int)*4294967296)+(d:Int))-wrap .u64 ((Q:Int)*18446744073709551608))=(v:Int):=by
 subst hv;exact d1h h g
theorem c9U{u:Nat}(h:u<18446744073709551616):wrap .u64 ((u / 4294967295:Nat):Int)=((u / 4294967295:Nat):Int):=a0L (by omega)
theorem d1i{hi lo u d e v r:Nat}(hv:(u*4294967296+d)%18446744073709551608=v)(o:(v*4294967296+e)%18446744073709551608=r)(C:hi≠0)(D:hi<2305843009213693951)(p:hi*8+lo / 2305843009213693952=u)(j:lo*8%18446744073709551616 / 4294967296=d)(l:lo*8%18446744073709551616%4294967296=e)(E:lo<18446744073709551616)
  (h:u<4294967295*4294967296+4294967288)(f:d<4294967296)(a:e<4294967296):
  ∃q:Int,a1Z ((hi:Int),(lo:Int),(2305843009213693951:Int))=some (q,((r / 8:Nat):Int)):=by
 have c0:((hi:Int)==0)=false:=by simp;omega
 have c:decide ((2305843009213693951:Int)≤(hi:Int))=false:=decide_eq_false (by omega);have i:hi*8%18446744073709551616=hi*8:=by omega
 have m:bits .u64 .or ((hi*8:Nat):Int) (A0k .u64 (lo:Int) ((61:Nat):Int))=(u:Int):=by
  rw[c4f (k:=61) (by omega),show 2^61=2305843009213693952 from rfl,d7I (by omega) (by omega),p]
 have t:=d2r (u0:=e) (s:=3) h f;have x:=c7L hv (c6C rfl h f).1 (c6C rfl h f).2.1;have g:v<4294967295*4294967296+4294967288:=by rw[←hv];exact a86 (a09 _ (by omega)) (by omega)
 have w:=d2s (s:=3) (q1:=((b7s u d 4294967295 4294967288:Nat):Int)) g a;have y:=c7L o (c6C rfl g a).1 (c6C rfl g a).2.1;have A:=c5h (u:=u) (a19 h (by decide));have r2:=c5h (u:=v) (a19 g (by decide));have B:wrap .u64 ((u / 4294967295:Nat):Int)=((u / 4294967295:Nat):Int):=c9U (a19 h (by decide));have b:wrap .u64 ((v / 4294967295:Nat):Int)=((v / 4294967295:Nat):Int):=c9U (a19 g (by decide));have q1:a22 (u:Int) 4294967295=((u / 4294967295:Nat):Int):=rfl;have z:a22 (v:Int) 4294967295=((v / 4294967295:Nat):Int):=rfl;have g8:∀n:Nat,A0k .u64 (n:Int) 3=((n / 8:Nat):Int):=fun n=>c4f (k:=3) (by omega);unfold a1Z;dsimp only;rw[d4h,cF,c,cF,c0,cF,d2q,oB,d4d,c9S,cF,cF,d2t,d4i,cF,cF,d4e,d4f,c9T,cF,d4g,sh3 hi,i,m,sh3 lo,c7K,j,c9R,l,q1,B,A,t,oB];dsimp only;rw[c9T,cF,x,z,b,r2,w,oB];dsimp only;rw[c9S,cF,y,g8];exact⟨_,rfl⟩
theorem d1j{hi lo:Nat}(h:hi<prm)(g:lo<18446744073709551616):∃q:Int,a1Z ((hi:Int),(lo:Int),(2305843009213693951:Int))=some (q,(((hi*18446744073709551616+lo)%prm:Nat):Int)):=by
 by_cases h0:hi=0
 subst h0;rw[a67,a40];exact⟨_,c8T lo⟩;rw[←d2o hi lo];exact d1i rfl rfl h0 h rfl rfl rfl g (c8R h g) (a79 (a86 (a09 _ (by omega)) (by omega))) (a09 _ (by omega))
theorem b7G{a b c:Nat}(f:a<prm)(hb:b<prm)(k:c≤prm):a5I ((a:Int),(b:Int),(c:Int))=some (((a*b+c)%prm:Nat):Int):=by
 have h:=c7J f hb k;unfold prm at f hb k h;have l:=c8S (a:=a) (b:=b) (by omega) (by omega);have j:a8P (((a*b%18446744073709551616:Nat):Int),(c:Int),(0:Int))=some ((((a*b%18446744073709551616+c)%18446744073709551616:Nat):Int),(((a*b%18446744073709551616+c) / 18446744073709551616:Nat):Int)):=rfl;obtain⟨hi,g⟩:∃hi,(a*b+c) / 18446744073709551616=hi:=⟨_,rfl⟩;rw[g]at h;have i:wrap .u64 (((a*b / 18446744073709551616:Nat):Int)+((a*b%18446744073709551616+c) / 18446744073709551616:Nat))=(hi:Int):=by
  rw[a0L (by omega)];omega
 obtain⟨q,d⟩:=d1j (hi:=hi) (lo:=(a*b%18446744073709551616+c)%18446744073709551616) (by unfold prm;omega) (by omega);have e:hi*18446744073709551616+(a*b%18446744073709551616+c)%18446744073709551616=a*b+c:=by omega
 rw[e]at d;have t:a52 (hi:Int) 2305843009213693951=(hi:Int):=by
  show(((hi%2305843009213693951:Nat)):Int)=_;rw[a35 h]
 unfold a5I a8Q;simp only[l,j,oB,i,show((2305843009213693951:Int)==0)=false from rfl,cF,t,d]
theorem b8A(l:List Int)(n i:Int):∀(j k:Nat)(s:Int),k+j=8→y0o a7B (s,l,n,i,(k:Int),())=some (rep e32 j s,l,n,i,())
 |0,k,s,h=>by
  obtain rfl:k=8:=by omega
  exact a0E rfl
 |j+1,k,s,h=>by
  have d:decide ((k:Int)<8)=true:=by simp;omega
  rw[a0F (s':=(e32 s,l,n,i,((k+1:Nat):Int),())) (by
   simp only[a7B,d,cT,a0B (show k<1000000 by omega),e32];cases (bits .u32 .and s 1==1:Bool)<;>rfl)]
  exact b8A l n i j (k+1) (e32 s) (by omega)
theorem c0O{l:List Int}(k:short l):∀(rest done:List Int)(s:BitVec 32),done++rest=l→(∀b∈rest,0≤b∧b<256)→
  y0o a4S (((s.toNat:Nat):Int),l,(l.length:Int),(done.length:Int),())=some ((((d2l s (rest.map (a00 32))).toNat:Nat):Int),())
 | [],done,s,hd,_=>by
  obtain rfl:done=l:=by simpa using hd
  exact a0E (by simp only[a4S,dge,cF];rfl)
 |x::rest,done,s,hd,hb=>by
  have g:done.length<l.length:=by rw[←hd];simp
  have a:m0h l (done.length:Int)=some x:=by rw[a0D g];subst hd;simp
  have c:=hb x (by simp);have e:bits .u32 .xor ((s.toNat:Nat):Int) (wrap .u32 x)=(((s ^^^ a00 32 x).toNat:Nat):Int):=by
   rw[←c6B];congr 1;rw[a26];simp[wrap,IntKind.bits,IntKind.signed];omega
  have f:=b8A l (l.length:Int) (done.length:Int) 8 0 (bits .u32 .xor ((s.toNat:Nat):Int) (wrap .u32 x)) rfl;rw[e,c4e]at f;rw[a0F (s':=((((c8N s (a00 32 x)).toNat:Nat):Int),l,(l.length:Int),(((done++[x]).length:Nat):Int),())) (by
   simp only[a4S,dlt g,cT,a,oB,e]
   erw[f]
   simp only[oB,a0B (a19 g k)];simp[c8N])]
  exact c0O k rest (done++[x]) _ (by simpa using hd) (fun b h=>hb b (by simp[h]))
theorem b7t{l:List Int}(g:short l)(hb:∀b∈l,0≤b∧b<256):a4I l=some ((a3O l:Nat):Int):=by
 have h:=c0O g l [] 0xffffffff#32 rfl hb;rw[a06]at h;unfold a4I
 erw[h]
 simp only[oB];rw[show IntKind.max .u32=(((0xffffffff#32).toNat:Nat):Int)from rfl,c6B];unfold a3O c8P;rw[←BitVec.allOnes_xor];rfl
theorem c0P{l:List Int}(k:short l):∀(rest done:List Int)(h:Nat),done++rest=l→h<prm→(∀b∈rest,0≤b∧b<256)→
  y0o a7H ((h:Int),l,(l.length:Int),(done.length:Int),())=some (((prs h (rest.map a51):Nat):Int),())
 | [],done,h,hd,_,_=>by
  obtain rfl:done=l:=by simpa using hd
  exact a0E (by simp only[a7H,dge,cF];rfl)
 |x::rest,done,h,hd,hh,hb=>by
  have g:done.length<l.length:=by rw[←hd];simp
  have d:m0h l (done.length:Int)=some x:=by rw[a0D g];subst hd;simp
  have i:=hb x (by simp);have e:wrap .u64 ((wrap .u64 x)+(1:Int))=((x.toNat+1:Nat):Int):=by rw[a0L (n:=x) (by omega),a0L (by omega)];omega
  have f:=b7G (a:=h) (b:=1000003) (c:=x.toNat+1) hh (by decide) (by unfold prm;omega);rw[a0F (s':=((((h*1000003+(x.toNat+1))%prm:Nat):Int),l,(l.length:Int),(((done++[x]).length:Nat):Int),())) (by
   simp only[a7H,dlt g,cT,d,oB,e]
   erw[f]
   simp[a0B (a19 g k)])]
  exact c0P k rest (done++[x]) _ (by simpa using hd) (a09 _ (by decide)) (fun b h=>hb b (by simp[h]))
theorem c8U{l:List Int}(g:short l)(hb:∀b∈l,0≤b∧b<256):a7U l=some ((prI l:Nat):Int):=by
 have h:=c0P g l [] 0 rfl (by decide) hb;unfold a7U
 erw[h]
 rfl
theorem b6j:∀(k n p s:Nat),n<2^k→n<4611686018427387904→p<prm→s<prm→y0o a7I ((n:Int),(p:Int),(s:Int),())=some (((pwr k n p s:Nat):Int),())
 |0,n,p,s,hn,_,_,_=>by
  obtain rfl:n=0:=by simpa using hn
  exact a0E rfl
 |k+1,n,p,s,hn,hn2,hp,hs=>by
  by_cases h0:n=0
  subst h0;exact a0E rfl;have d:decide ((n:Int) > 0)=true:=by simp;omega
  have f:a52 (n:Int) 2=((n%2:Nat):Int):=rfl;have a:wrap .i64 (a22 (n:Int) 2)=((n / 2:Nat):Int):=by rw[show a22 (n:Int) 2=((n / 2:Nat):Int)from rfl,a0C (by omega)]
  have h:=b7G (c:=0) hs hs (by decide);have g:=b7G (c:=0) hp hs (by decide);have b:n / 2<2^k:=by rw[a32]at hn;omega
  simp only[a88,nZ]at h g;have m:=a09 (s*s) (show 0<prm by decide);rw[pwr,if_neg h0]
  by_cases h1:n%2=1
  rw[if_pos h1,a0F (s':=(((n / 2:Nat):Int),((p*s%prm:Nat):Int),((s*s%prm:Nat):Int),())) (by
   simp only[a7I,d,cT,f,h1,show(((1:Nat):Int)==1)=true from rfl]
   erw[g]
   simp only[oB]
   erw[h]
   simp only[oB,a])]
  exact b6j k _ _ _ b (by omega) (a09 _ (by decide)) m;have e:n%2=0:=by omega
  rw[if_neg h1,a0F (s':=(((n / 2:Nat):Int),(p:Int),((s*s%prm:Nat):Int),())) (by
   simp only[a7I,d,cT,f,e,show(((0:Nat):Int)==1)=false from rfl,cF,oB]
   erw[h]
   simp only[oB,a])]
  exact b6j k _ _ _ b (by omega) hp m
theorem d1k{a b n:Nat}(f:a<prm)(hb:b<prm)(h:n<4611686018427387904):b1J ((a:Int),(b:Int),(n:Int))=some ((((a*(1000003^n%prm)+b)%prm:Nat):Int),true):=by
 have hp:=b6j 62 n 1 1000003 h h (by decide) (by decide);rw[d2j 62 n 1 1000003 h (by decide),Nat.one_mul]at hp;have j:=b7G (c:=b) f (a09 (1000003^n) (show 0<prm by decide)) (a54 hb);unfold prm at f hb;have k:decide ((a:Int)≥(2305843009213693951:Int))=false:=by simp;omega
 have d:decide ((b:Int)≥(2305843009213693951:Int))=false:=by simp;omega
 have e:decide ((n:Int)<(0:Int))=false:=by simp
 have i:v0n (n:Int) 0=(n:Int):=by rw[b4Z];omega
 have g:b0F (n:Int)=some ((1000003^n%prm:Nat):Int):=by
  unfold b0F;rw[i]
  erw[hp]
  rfl
 simp only[b1J,k,d,e,cF,oB,g]
 erw[j]
 rfl
theorem c4g(b:a1k)(N:Int){i:Nat}:∀(rest done:List (List Int)) (out:List Int),done++rest=b.2.1→b.2.1.length≤8→(∀r∈rest,i<r.length)→out.length+rest.length<1000000→
  y0o a6C ((i:Int),N,(i:Int),b.2.1,(b.2.1.length:Int),(done.length:Int),out,b,())=some (N,(i:Int),out++rest.map (fun r=>r.getD i 0),b,())
 | [],done,out,hd,_,_,_=>by
  have e:done=b.2.1:=by simpa using hd
  rw[a0E (b:=(N,(i:Int),out,b,())) (by rw[e];simp only[a6C,dge,cF])]
  simp
 |r::rest,done,out,hd,h8,hr,ho=>by
  have g:done.length<b.2.1.length:=by rw[←hd];simp
  have k:m0h b.2.1 (done.length:Int)=some r:=by rw[a0D g];simp[←hd]
  have h:=hr r (by simp);have f:m0h r (i:Int)=some (r.getD i 0):=by rw[a0D h,lD,lG h];rfl
  simp only[lC]at ho;rw[a0F (s':=((i:Int),N,(i:Int),b.2.1,(b.2.1.length:Int),(((done++[r]).length:Nat):Int),out++[r.getD i 0],b,())) (by
   simp only[a6C,dlt g,cT,k,f,oB,a0T (show out.length+1<2147483648 by omega),a0B (show done.length<1000000 by omega)]
   simp)]
  rw[c4g b N rest (done++[r]) _ (by simpa using hd) h8 (fun q a=>hr q (by simp[a])) (by simp only[lN,a04];omega)]
  simp
theorem c4h{b:a1k}(hb:a2X b):a7c b=some (wvB b):=by
 obtain⟨g1,g2,g3,g4,g5,g6,g7⟩:=id hb;have hlen:∀r∈b.2.1,r.length=a0X b:=fun r hr=>by
  have:=lA.1 g7 r hr
  simp only[bA,dT]at this;exact this.1
 have hw:∀i,i≤4096→(wv i b.2.1).length≤32768:=fun i hi=>by
  rw[c7F]
  calc i*b.2.1.length≤4096*8:=a08 hi g4
   _=32768:=rfl
 have h:=a1B (f:=a6D) (fun i=>(((a0X b:Nat):Int),(i:Int),wv i b.2.1,b,())) (a0X b) (b:=(wv (a0X b) b.2.1,())) (fun i hi=>by
  have h0:=c4g b ((a0X b:Nat):Int) (i:=i) b.2.1 [] (wv i b.2.1) rfl g4 (fun r hr=>by rw[hlen r hr];exact hi) (by have:=hw i (by omega);omega);rw[a06]at h0;simp only[a6D,dlt hi,cT]
  erw[h0]
  simp only[oB,a0B (show i<1000000 by omega)];unfold wv;rw[a38,a24]
  simp) (by simp only[a6D,dge,cF])
 unfold a7c;simp only[a8k,hb,decide_true,oB,bT,cF,a6s]
 erw[h]
 rfl
theorem c1z{b:a1k}:(wvB b).length=a0X b*b.2.1.length:=c7F _
theorem d1l{b:a1k}(hb:a2X b):(wvB b).all (fun x=>a1i x b.1)=true:=by
 obtain⟨k,a,c,d,e,j,g⟩:=hb;refine lA.2 fun x h=>?_
 unfold wvB wv at h;obtain⟨i,hi,h⟩:=a63.1 h;obtain⟨r,f,rfl⟩:=a30.1 h
 have:=lA.1 g r f
 simp only[bA,dT]at this;have hi:i<r.length:=by rw[this.1];exact a21.1 hi
 rw[lD,lG hi];exact lA.1 this.2 _ (a45 hi)
theorem d1m{b:a1k}(hb:a2X b):b0E b=some (a3F b.1 (wvB b),0):=by
 have hl:(wvB b).length≤1000000:=by
  rw[c1z]
  calc a0X b*b.2.1.length≤4096*8:=a08 hb.2.2.2.2.2.1 hb.2.2.2.1
   _≤1000000:=by decide
 unfold b0E;simp only[a8k,hb,decide_true,oB,bT,cF,c4h hb,c1v ⟨hb.1,hb.2.1⟩ hl (d1l hb)]
theorem b7u{b:a1k}(hb:a2X b){w:Int}(g:b.1=w)(d:List Int):a4v (((prI (a3F w d):Nat):Int),b)=some (((prI (a3F w (d++wvB b)):Nat):Int),true):=by
 subst g;have f:=c6w ⟨hb.1,hb.2.1⟩ (wvB b);have k:(wvB b).length≤4096*8:=by rw[c1z];exact a08 hb.2.2.2.2.2.1 hb.2.2.2.1
 have h:=d1k (c0N (a3F b.1 d)) (c0N (a3F b.1 (wvB b))) (n:=(a3F b.1 (wvB b)).length) (by omega);unfold a4v;simp only[d1m hb,oB,show((0:Int) != 0)=false from rfl,cF,c8U (show short (a3F b.1 (wvB b))by unfold short;omega) (c3V _ _),c6x,d1c]
 erw[h]
 rfl
theorem c8V(d:List Int)(x:Int){ch:Nat}(h:0<ch):(a2t d ch).set (d.length%ch) ((a2t d ch).getD (d.length%ch) []++[x])=a2t (d++[x]) ch:=by
 have f:=a09 d.length h;refine a64 (by simp[a2t]) fun i g k=>?_
 simp only[a2t,b00,a01,a61]at g;rw[List.getElem_set];simp only[a2t,List.getElem_map,List.getElem_range,c7C]
 by_cases e:d.length%ch=i
 rw[if_pos e,if_pos e,lD,a42,a55 f,e];rfl;rw[if_neg e,if_neg e]
theorem d1n{fm:a0K}(m:a3k fm){ch:Nat}(a:fm.2.1=(ch:Int)){l:List Int}{n:Nat}(s:1≤n∧n≤4096)(o:l.length=n*ch)(c:l.all (fun x=>a1i x fm.2.2.1)=true):
  b0M (l,fm)=some (a7n fm.2.2.1 l ch,0):=by
 have k:1≤ch∧ch≤8:=by have:=m.2.2.1;have:=m.2.2.2.1;omega
 have H:l.length≤4096*8:=by rw[o];exact a08 s.2 k.2
 have j:1≤l.length:=by rw[o];exact Nat.mul_pos s.1 k.1
 have y:4≤fm.2.2.1∧fm.2.2.1≤24:=m.2.2.2.2;have c0:((ch:Int)==0)=false:=by simp;omega
 have h:=a1B (f:=a7M) (fun i=>(l,((l.length:Nat):Int),(i:Int),b2l,(fm.2.2.1,a2t (l.take i) ch,()),fm,())) l.length (b:=Sum.inl (b2l,a7n fm.2.2.1 l ch,())) (fun i hi=>by
  have t:a52 (i:Int) (ch:Int)=((i%ch:Nat):Int):=rfl;have r:=a09 i k.1;have p:∀d,(a2t d ch).length=ch:=fun d=>by simp[a2t]
  have u:decide ((0:Int)≤((i%ch:Nat):Int))=true:=decide_eq_true (a03 _);have z:a1i l[i] fm.2.2.1=true:=lA.1 c _ (a45 hi);have q:(l.take i).length=i:=by rw[a93];omega
  have w:((a2t (l.take i) ch).getD (i%ch) []).length≤32768:=by
   rw[lD];unfold a2t;rw[a42,a55 r];show(a9G (l.take i) ch (i%ch)).length≤32768;unfold a9G;rw[a01];exact Nat.le_trans (List.length_filter_le _ _) (by rw[a61];omega)
  have g:=c8V (l.take i) l[i] k.1;rw[q]at g;simp only[a7M,dlt hi,cT,a0D hi,oB,b3P y,z,bT,cF,a,c0,t,u,b00,p,dlt r,a05,tN,a0T (show((a2t (l.take i) ch).getD (i%ch) []).length+1<2147483648 by omega),beq_self_eq_true,Bool.and_true,a0B (show i<1000000 by omega)]
  erw[g]
  rw[List.take_succ_eq_append_getElem hi]) (by
  simp only[a7M,dge,cF,a49];rfl)
 have v:a2t ([]:List Int) ch=a29 ch []:=by
  refine a64 (by simp[a2t]) fun i F G=>?_
  simp[a2t,a9G]
 have q1:(((l.length:Nat):Int)==0)=false:=by simp;intro e;subst e;simp at j
 have A:a52 ((l.length:Nat):Int) (ch:Int)=0:=by
  show(((l.length%ch:Nat)):Int)=0;rw[o,a94];rfl
 have B:wrap .i64 (a22 ((l.length:Nat):Int) (ch:Int))=(n:Int):=by
  rw[show a22 ((l.length:Nat):Int) (ch:Int)=((l.length / ch:Nat):Int)from rfl,o,a57 _ k.1,a0C (by omega)]
 have C:decide ((n:Int) > 4096)=false:=by simp;omega
 have D:decide ((0:Int)≤(ch:Int))=true:=by simp
 have E:decide ((ch:Int)≤(ch:Int))=true:=by simp
 unfold b0M;simp only[a4x,m,decide_true,oB,bT,cF,q1,a,c0,A,show((0:Int) != 0)=false from rfl,B,C,D,E,tN,a0T (show ch<2147483648 by omega),a05,cT];simp only[List.take_zero,v]at h
 erw[h]
 rfl
theorem b5t{α:Type}(a:List α)(x:α)(b:List α):m0h (a++x::b) (a.length:Int)=some x:=by
 rw[a0D (by simp)];simp
theorem c0Q:∀(a b:List Pc)(st off:Nat),a3h st off (a++b)=a3h st off a++a3h (st+a1l a) (off+(a0U a).length) b
 | [],b,st,off=>by simp[a3h,a1l,a0U]
 |y::a,b,st,off=>by
  simp only[a44,a3h,c0Q a];simp[a1l,a0U,a60]
theorem c4i{fm:a0K}{all:List Pc}(h:all.length≤200){t:c1y}(b:t.1=fm)(a:t.2.2.2.1=a3h 0 0 all):∀(rest done:List Pc),done++rest=all→a3l fm (a1l done) rest→(a0U done).length≤700800*done.length→a1l done≤64*done.length→
  y0o a8x (((a1l done:Nat):Int),(((a0U done).length:Nat):Int),((a2B fm done:Nat):Int),all.map (·.1),((all.map (·.1)).length:Int),(done.length:Int),done.map (·.2.2),done.map (·.2.1),t,()) =
   some (.inl (((a1l all:Nat):Int),((a2B fm all:Nat):Int),all.map (·.2.2),all.map (·.2.1),t,()))
 | [],done,hd,_,_,_=>by
  obtain rfl:done=all:=by simpa using hd
  exact a0E (by simp only[a8x,a01,dge,cF])
 |x::rest,done,hd,hr,hb,hl=>by
  obtain⟨⟨c,j,l,m,n,A,o,p,B,d,e⟩,hr2⟩:=hr;have f:done.length<(all.map (·.1)).length:=by rw[←hd];simp
  have k:all.length=done.length+(rest.length+1):=by rw[←hd];simp
  have r:m0h (all.map (·.1)) (done.length:Int)=some x.1:=by
   have:=b5t (done.map (·.1)) x.1 (rest.map (·.1))
   rw[a01]at this;rw[←hd,pA,a18];exact this
  have g:m0h t.2.2.2.1 (done.length:Int)=some (((a1l done:Nat):Int),(((a0U done).length:Nat):Int),()):=by
   have:=b5t (a3h 0 0 done) (((a1l done:Nat):Int),(((a0U done).length:Nat):Int),()) (a3h (a1l done+a0X x.2.1) ((a0U done).length+x.2.2.length) rest)
   rw[b0X]at this;rw[a,←hd,c0Q];simp only[a3h,a40];exact this
  have q:eqT (.pair (.int .i64) (.pair (.int .i64) (.pair (.int .i64) .unit))) x.1.2.2.1 t.1=true:=by rw[l,b];exact c3R fm
  have s:=b7u o (w:=fm.2.2.1) p (a5F done);have v:(x.1.1 != ((a1l done:Nat):Int))=false:=by rw[c];simp
  have y:∀i:Int,(i != i)=false:=fun i=>by simp
  have u:((0:Int) != 0)=false:=rfl;have z:wrap .i64 (((a1l done:Nat):Int)+((a0X x.2.1:Nat):Int))=((a1l (done++[x]):Nat):Int):=by rw[a5G,a0C (by omega)];omega
  have w2:wrap .i64 ((((a0U done).length:Nat):Int)+((x.2.2.length:Nat):Int))=(((a0U (done++[x])).length:Nat):Int):=by rw[a9m,lN,a0C (by omega)];omega
  rw[a0F (s':=(((a1l (done++[x]):Nat):Int),(((a0U (done++[x])).length:Nat):Int),((a2B fm (done++[x]):Nat):Int),all.map (·.1),((all.map (·.1)).length:Int),(((done++[x]).length:Nat):Int),(done++[x]).map (·.2.2),(done++[x]).map (·.2.1),t,())) (by
   simp only[a8x,dlt f,cT,r,oB];rw[q];simp only[bT,cF,oB,v,g,y,m,u,n]
   erw[s]
   simp only[oB,bT,cF,a01,a0T (show done.length+1<2147483648 by omega),cT,j,z,w2,a0B (show done.length<1000000 by omega)];simp[a2B,b3c])]
  exact c4i h b a rest (done++[x]) (by simpa using hd) (by rw[a5G];exact hr2) (by rw[a9m];simp only[lN,a04];omega) (by rw[a5G];simp only[lN,a04];omega)
theorem c7M{fm:a0K}(b:a3k fm){xs:List Pc}(c:a3l fm 0 xs)(g:xs.length≤200):a9g (mkT fm xs)=some (xs.map (·.2.2),xs.map (·.2.1),true):=by
 have h:=c4i g (t:=mkT fm xs) rfl rfl xs [] rfl c (by simp[a0U]) (by simp[a1l]);have a:a1P (mkT fm xs).1=some true:=by rw[a4x,decide_eq_true (show a3k (mkT fm xs).1 from b)]
 have f:decide (((a07 (mkT fm xs).2.2.2.2.1:Nat):Int) > (4096:Int))=false:=by simp[mkT];omega
 have k:(((a07 (mkT fm xs).2.2.2.1:Nat):Int) != ((a07 (mkT fm xs).2.2.2.2.1:Nat):Int))=false:=by simp[mkT,b0X]
 unfold a9g;simp only[a,oB,bT,cF,f,k]
 erw[h]
 simp only[oB,mkT,bne_self_eq_false,cF]
theorem b2n{α:Type}(a:List α)(x d:α)(b:List α):(a++x::b).getD a.length d=x:=by
 rw[lD];simp
theorem c2o{fm:a0K}{all:List Pc}(h:all.length≤200)(t:c1y)(A:List Nat)(e:A.length=4):∀(rest done:List Pc)(st:Nat),done++rest=all→a3l fm st rest→
  y0o a8D (all.map (·.1),((all.map (·.1)).length:Int),(done.length:Int),all.map (·.2.2),asI (A++nsP done),t,())=some (all.map (·.2.2),asI (A++nsP all),t,())
 | [],done,st,hd,_=>by
  obtain rfl:done=all:=by simpa using hd
  exact a0E (by simp only[a8D,a01,dge,cF])
 |x::rest,done,st,hd,hr=>by
  obtain⟨⟨m,d,n,o,p,q,r,s,u,b,c⟩,hr2⟩:=hr;have k:done.length<(all.map (·.1)).length:=by rw[←hd];simp
  have g:done.length<(all.map (·.2.2)).length:=by rw[←hd];simp
  have j:m0h (all.map (·.1)) (done.length:Int)=some x.1:=by
   have:=b5t (done.map (·.1)) x.1 (rest.map (·.1))
   rw[a01]at this;rw[←hd,pA,a18];exact this
  have hp:(all.map (·.2.2)).getD done.length []=x.2.2:=by
   have:=b2n (done.map (·.2.2)) x.2.2 [] (rest.map (·.2.2))
   rw[a01]at this;rw[←hd,pA,a18];exact this
  have a:decide ((0:Int)≤(done.length:Int))=true:=decide_eq_true (a03 _);have i:done.length<all.length:=by rw[←hd];simp
  have f:(asI (A++nsP done)).length+2<2147483648:=by simp only[asI,a01,lN,b5s];omega
  have l:wrap .u64 ((x.2.2.length:Nat):Int)=((x.2.2.length:Nat):Int):=a0L (by omega);have w2:wrap .u64 ((a0X x.2.1:Nat):Int)=((a0X x.2.1:Nat):Int):=a0L (by omega);rw[a0F (s':=(all.map (·.1),((all.map (·.1)).length:Int),(((done++[x]).length:Nat):Int),all.map (·.2.2),asI (A++nsP (done++[x])),t,())) (by
   simp only[a8D,dlt k,dlt g,a,a05,cT,j,oB,a0T f,tN,hp,l,d,w2,a0B (show done.length<1000000 by omega)];simp[c8Q,asI])]
  exact c2o h t A e rest (done++[x]) _ (by simpa using hd) hr2
theorem c2p{all:List (List Int)}(g:all.length≤200)(h:∀p∈all,p.length≤700800):∀(rest done:List (List Int)) (out:List Int),done++rest=all→out.length+700800*rest.length≤150000000→
  y0o a8E ((all.length:Int),(done.length:Int),out,all,())=some (out++rest.flatten,())
 | [],done,out,hd,_=>by
  obtain rfl:done=all:=by simpa using hd
  rw[a0E (b:=(out,())) (by simp only[a8E,dge,cF])]
  simp
 |p::rest,done,out,hd,ho=>by
  have f:done.length<all.length:=by rw[←hd];simp
  have hp:all.getD done.length []=p:=by rw[←hd];exact b2n done p [] rest
  have a:=h p (by rw[←hd];simp);have k:decide ((0:Int)≤(done.length:Int))=true:=decide_eq_true (a03 _);simp only[lC]at ho;rw[a0F (s':=((all.length:Int),(((done++[p]).length:Nat):Int),out++p,all,())) (by
   simp only[a8E,dlt f,k,a05,cT,tN,hp,a0T (show out.length+p.length<2147483648 by omega),a0B (show done.length<1000000 by omega)]
   simp)]
  rw[c2p g h rest (done++[p]) (out++p) (by simpa using hd) (by simp only[lN];omega)]
  simp
theorem c0R{fm:a0K}:∀{xs:List Pc}{st:Nat},a3l fm st xs→∀p∈xs.map (·.2.2),p.length≤700800
 | [],_,_,p,hp=>by simp at hp
 |x::xs,st,h,p,hp=>by
  rcases mC.1 hp with rfl|hp;exact h.1.2.2.2.2.2.2.2.2.2.2;exact c0R h.2 p hp
theorem b8B:∀(l:List Nat),(∀n∈l,n<9223372036854775808)→∀b∈l.flatMap a0J,0≤b∧b<256:=fun l h b hb=>by
 obtain⟨n,g,hb⟩:=a63.1 hb;exact c0B 8 n (by rw[show(128:Nat)^(8+1)=9223372036854775808 from by decide];exact h n g) b hb
theorem c4O{fm:a0K}(g:a3k fm){xs:List Pc}(h:a3l fm 0 xs)(k:xs.length≤200):∀b∈a1m fm xs,0≤b∧b<256:=fun b hb=>by
 unfold a1m at hb;rcases mA.1 hb with hb|hb;simp only[b9d,mC,a33,or_false]at hb;omega;rcases mA.1 hb with hb|hb;exact b8B _ (fun n f=>a19 (a7z g h k n f) (by decide)) b hb;exact b6h _ _ b hb
theorem c7N{fm:a0K}(f:a3k fm){xs:List Pc}(g:a3l fm 0 xs)(h:xs.length≤200):b1O (mkT fm xs)=some (a2C fm xs,0):=by
 obtain⟨s,t,u,v,w,x⟩:=id f;have c:=c2o h (mkT fm xs) [fm.1.toNat,fm.2.1.toNat,fm.2.2.1.toNat,xs.length] rfl xs [] 0 rfl g;have hp:=b7l (ns:=a2M fm xs) (fun n j=>a19 (a7z f g h n j) (by decide)) (by simp only[a2M,lN,b5s,lC,a06];omega);have hv:=b4o (a2M fm xs) fun n i=>a19 (a7z f g h n i) (by decide);have z:(a2M fm xs).length≤404:=by simp only[a2M,lN,b5s,lC,a06];omega
 have y:=c2n f g h;have e:=b7q (n:=a2B fm xs) (k:=8) (by have:=c0N (a3F fm.2.2.1 (a5F xs));unfold prm at this;unfold a2B;omega) (by omega);have d:=b7q (n:=a3O (a1m fm xs)) (k:=4) (by have:=b6i (a1m fm xs);omega) (by omega);have m:=b7t (l:=a1m fm xs) (by unfold short;omega) (c4O f g h);have hb:=c2p (all:=xs.map (·.2.2)) (by simpa using h) (c0R g) (xs.map (·.2.2)) [] (a1m fm xs++a7C 4 (a3O (a1m fm xs))) rfl (by simp only[lN,a01,a8l];omega);have o:wrap .u64 fm.1=((fm.1.toNat:Nat):Int):=by rw[a0L (by omega)];omega
 have w2:wrap .u64 fm.2.1=((fm.2.1.toNat:Nat):Int):=by rw[a0L (by omega)];omega
 have p:wrap .u64 fm.2.2.1=((fm.2.2.1.toNat:Nat):Int):=by rw[a0L (by omega)];omega
 have q:wrap .u64 ((a07 (xs.map (·.1)):Nat):Int)=((xs.length:Nat):Int):=by rw[a01,a0L (by omega)]
 have r:wrap .u64 ((a3O (a1m fm xs):Nat):Int)=((a3O (a1m fm xs):Nat):Int):=a0L (by have:=b6i (a1m fm xs);omega);unfold b1O;rw[c7M f g h];simp only[oB,bT,cF,mkT,o,w2,p,q]
 erw[c]
 simp only[oB]
 erw[hp]
 simp only[oB,a0T (show 4+((a2M fm xs).flatMap a0J).length<2147483648 by omega),cT]
 erw[e]
 have b:a95 (a95 ([(75:Int),(78:Int),(83:Int),(68:Int)]:List Int) ((a2M fm xs).flatMap a0J)) (a7C 8 (a2B fm xs))=a1m fm xs:=aA ..;have a:(a95 ([(75:Int),(78:Int),(83:Int),(68:Int)]:List Int) ((a2M fm xs).flatMap a0J)).length+(a7C 8 (a2B fm xs)).length<2147483648:=by
  have:=congrArg a07 b
  simp only[b04,lN]at this⊢;omega
 simp only[oB,a0T a,cT,b,m,r]
 erw[d]
 simp only[oB,a0T (show(a1m fm xs).length+(a7C 4 (a3O (a1m fm xs))).length<2147483648 by rw[a8l];omega),cT]
 erw[hb]
 simp only[oB,a2C,a0U,a65,aA]
theorem b7v{all:List a1k}(f:all.length≤200):∀(rest done:List a1k)(out:List Int),done++rest=all→(∀b∈rest,a2X b)→out.length+32768*rest.length≤7000000→
  y0o a5m ((all.length:Int),(done.length:Int),out,all,())=some (out++rest.flatMap wvB,())
 | [],done,out,hd,_,_=>by
  obtain rfl:done=all:=by simpa using hd
  rw[a0E (b:=(out,())) (by simp only[a5m,dge,cF])]
  simp
 |p::rest,done,out,hd,hb,ho=>by
  have k:done.length<all.length:=by rw[←hd];simp
  have hp:all.getD done.length ((0:Int),([]:List (List Int)),())=p:=by rw[←hd];exact b2n done p _ rest
  have g:=hb p (by simp);have c:(wvB p).length≤4096*8:=by rw[c1z];exact a08 g.2.2.2.2.2.1 g.2.2.2.1
  have a:decide ((0:Int)≤(done.length:Int))=true:=decide_eq_true (a03 _);simp only[lC]at ho;rw[a0F (s':=((all.length:Int),(((done++[p]).length:Nat):Int),out++wvB p,all,())) (by
   simp only[a5m,dlt k,a,a05,cT,tN,hp,c4h g,oB,a0T (show out.length+(wvB p).length<2147483648 by omega),a0B (show done.length<1000000 by omega)]
   simp)]
  rw[b7v f rest (done++[p]) (out++wvB p) (by simpa using hd) (fun b h=>hb b (by simp[h])) (by simp only[lN];omega)]
  simp
theorem c4j{fm:a0K}:∀{xs:List Pc}{st:Nat},a3l fm st xs→∀b∈xs.map (·.2.1),a2X b
 | [],_,_,p,hp=>by simp at hp
 |x::xs,st,h,p,hp=>by
  rcases mC.1 hp with rfl|hp;exact h.1.2.2.2.2.2.2.1;exact c4j h.2 p hp
theorem c0S{fm:a0K}(k:a3k fm){xs:List Pc}(f:a3l fm 0 xs)(g:xs.length≤200):a3H (mkT fm xs)=some (a5F xs,0):=by
 have h:=b7v (all:=xs.map (·.2.1)) (by simpa using g) (xs.map (·.2.1)) [] [] rfl (c4j f) (by simp;omega);unfold a3H;rw[c7M k f g];simp only[oB,bT,cF]
 erw[h]
 simp[a5F,List.flatMap_map]
theorem d1o{P A R:List Int}(b:(P++(A++R)).length<1000000000):a4U (ord P (A++R),(A.length:Int))=some (A,ord (P++A) R):=by
 simp only[lN]at b;have c:v0n (A.length:Int) 0=(A.length:Int):=by rw[b4Z];omega
 have d:wrap .i64 (((P++(A++R)).length:Int)-(P.length:Int))=((A++R).length:Int):=by
  simp only[lN];rw[a0C (by omega)];omega
 have h:decide ((A.length:Int) > ((A++R).length:Int))=false:=by simp;omega
 have w2:wrap .i64 ((P.length:Int)+(A.length:Int))=(((P++A).length:Nat):Int):=by
  simp only[lN];rw[a0C (by omega)];omega
 have g:decide ((0:Int)≤(((P++A).length:Nat):Int))=true:=by simp;omega
 have f:decide ((((P++A).length:Nat):Int)≤((P++(A++R)).length:Int))=true:=by simp;omega
 have k:decide ((0:Int)≤(P.length:Int))=true:=by simp
 have a:decide ((P.length:Int)≤(((P++A).length:Nat):Int))=true:=by simp;omega
 have e:a72 P.length (a59 (P++A).length (P++(A++R)))=A:=by
  rw[←aA,a76,b05]
 unfold a4U a1E ord;simp only[show((0:Int) != 0)=false from rfl,cF,oB,c,d,h,w2,g,f,k,a,a05,cT,tN,e,a0T (show A.length<2147483648 by omega),aA]
theorem c4k{all:List Int}(a:all.length≤8)(z:List Int×(Int×Int×Unit)):∀(rest done:List Int)(n:Nat),done++rest=all→(∀b∈rest,0≤b∧b<256)→n<256^done.length→
  y0o a3L ((n:Int),(all.length:Int),(done.length:Int),all,z,())=some (((b4Q n rest:Nat):Int),z,())
 | [],done,n,hd,_,_=>by
  obtain rfl:done=all:=by simpa using hd
  exact a0E (by simp only[a3L,dge,cF];rfl)
 |x::rest,done,n,hd,hb,hn=>by
  have g:done.length<all.length:=by rw[←hd];simp
  have hp:all.getD done.length 0=x:=by rw[←hd];exact b2n done x _ rest
  have d:=hb x (by simp);have f:decide ((0:Int)≤(done.length:Int))=true:=decide_eq_true (a03 _);have c:256^done.length≤256^7:=Nat.pow_le_pow_right (by omega) (by omega);have k:(256:Nat)^7=72057594037927936:=by decide
  have w:wrap .u64 ((wrap .u64 ((n:Int)*(256:Int)))+(wrap .u64 x))=((n*256+x.toNat:Nat):Int):=by
   rw[a0L (n:=(n:Int)*256) (by omega),a0L (n:=x) (by omega),a0L (by omega)];omega
  rw[a0F (s':=(((n*256+x.toNat:Nat):Int),(all.length:Int),(((done++[x]).length:Nat):Int),all,z,())) (by
   simp only[a3L,dlt g,f,a05,cT,tN,hp,w,a0B (show done.length<1000000 by omega)]
   simp)]
  exact c4k a z rest (done++[x]) _ (by simpa using hd) (fun b h=>hb b (by simp[h])) (by rw[lN,a04,a32];omega)
theorem c5i{P A R:List Int}{k:Nat}(a:A.length=k)(g:k≤8)(hb:∀b∈A,0≤b∧b<256)(c:(P++(A++R)).length<1000000000):a3B (ord P (A++R),(k:Int))=some (((b4Q 0 A:Nat):Int),ord (P++A) R):=by
 subst a;have h:=c4k g (ord (P++A) R) A [] 0 rfl hb (by decide);have f:a2U (A.length:Int)=some (A.length:Int):=by
  simp only[a2U,b4Y,b4Z];congr 1;omega
 unfold a3B;simp only[f,oB,d1o c]
 erw[h]
 rfl
@[reducible] def b7H:Type:=a0K×(List Int×(List Int×(Int×(Int×(Int×Unit)))))
def a2N(xs:List Pc):List Int:=xs.map fun x=>((x.2.2.length:Nat):Int)
def a2O(xs:List Pc):List Int:=xs.map fun x=>((a0X x.2.1:Nat):Int)
def b6k(fm:a0K)(xs:List Pc)(pr bg:Nat):b7H:=(fm,a2N xs,a2O xs,((a1l xs:Nat):Int),(pr:Int),(bg:Int),())
def b9e:b7H:=((0,0,0,()),[],[],0,0,0,())
theorem b8C{all:List Pc}(h:all.length≤200)(x:List Int)(fm:a0K)(z:b7H)(u:Int×(Int×Int×Unit)){R:List Int}:∀(rest done:List Pc)(P:List Int)(st:Nat),done++rest=all→a3l fm st rest→
  (P++((nsP rest).flatMap a0J++R)).length<1000000000→
  y0o a5u (x,(all.length:Int),(done.length:Int),z,(fm,a2N done,a2O done,u),ord P ((nsP rest).flatMap a0J++R),()) =
   some (x,z,(fm,a2N all,a2O all,u),ord (P++(nsP rest).flatMap a0J) R,())
 | [],done,P,st,hd,_,_=>by
  obtain rfl:done=all:=by simpa using hd
  exact a0E (by simp only[a5u,dge,cF];simp[nsP])
 |y::rest,done,P,st,hd,hr,hl=>by
  obtain⟨⟨o,p,q,r,s,t,v,w,A,a,b⟩,hr2⟩:=hr;have k:done.length<all.length:=by rw[←hd];simp
  have e:(nsP (y::rest)).flatMap a0J++R=a0J y.2.2.length++(a0J (a0X y.2.1)++((nsP rest).flatMap a0J++R)):=by simp[nsP]
  rw[e]at hl⊢;have g:=a1A hl;have f:=a1A g;have i:=a2S (n:=y.2.2.length) (most:=1048704) (by omega) (by omega) hl;have j:=a2S (n:=a0X y.2.1) (most:=4096) (by omega) (by omega) g;have l:wrap .i64 ((y.2.2.length:Nat):Int)=((y.2.2.length:Nat):Int):=a0C (by omega);have w2:wrap .i64 ((a0X y.2.1:Nat):Int)=((a0X y.2.1:Nat):Int):=a0C (by omega);have m:wrap .u64 ((done.length:Int)+1)=(((done++[y]).length:Nat):Int):=by rw[a0L (by omega)];simp
  have c:(a2N done).length=done.length:=by simp[a2N]
  have d:(a2O done).length=done.length:=by simp[a2O]
  rw[a0F (s':=(x,(all.length:Int),(((done++[y]).length:Nat):Int),z,(fm,a2N (done++[y]),a2O (done++[y]),u),ord ((P++a0J y.2.2.length)++a0J (a0X y.2.1)) ((nsP rest).flatMap a0J++R),())) (by
   simp only[a5u,dlt k,cT,i,j,oB,c,d,a0T (show done.length+1<2147483648 by omega),l,w2,m];simp[a2N,a2O])]
  rw[b8C h x fm z u rest (done++[y]) _ _ (by simpa using hd) hr2 f];simp[nsP]
theorem c4l{all:List Pc}(h:all.length≤200)(fm:a0K)(z:b7H)(v:List Int)(u:Int×(Int×Unit)):∀(rest done:List Pc)(st:Nat),done++rest=all→a3l fm st rest→a1l done≤64*done.length→
  y0o a5v ((all.length:Int),(done.length:Int),z,(fm,v,a2O all,((a1l done:Nat):Int),u),())=some (.inl (z,(fm,v,a2O all,((a1l all:Nat):Int),u),()))
 | [],done,st,hd,_,_=>by
  obtain rfl:done=all:=by simpa using hd
  exact a0E (by simp only[a5v,dge,cF])
 |y::rest,done,st,hd,hr,ho=>by
  obtain⟨⟨i,j,l,m,n,o,d,p,q,b,c⟩,hr2⟩:=hr;have f:done.length<all.length:=by rw[←hd];simp
  have g:done.length<(a2O all).length:=by rw[←hd];simp[a2O]
  have hp:(a2O all).getD done.length 0=((a0X y.2.1:Nat):Int):=by
   have:=b2n (a2O done) ((a0X y.2.1:Nat):Int) 0 (a2O rest)
   rw[←hd];simp only[a2O,a01,pA,a18]at this⊢;exact this
  have k:=d.2.2.2.2.1;have e:(((a0X y.2.1:Nat):Int)==0)=false:=by simp;omega
  have a:decide ((0:Int)≤(done.length:Int))=true:=decide_eq_true (a03 _);have w:wrap .i64 (((a1l done:Nat):Int)+((a0X y.2.1:Nat):Int))=((a1l (done++[y]):Nat):Int):=by rw[a5G,a0C (by omega)];omega
  rw[a0F (s':=((all.length:Int),(((done++[y]).length:Nat):Int),z,(fm,v,a2O all,((a1l (done++[y]):Nat):Int),u),())) (by
   simp only[a5v,dlt f,dlt g,a,a05,cT,tN,hp,e,cF,w,a0B (show done.length<1000000 by omega)]
   simp)]
  exact c4l h fm z v u rest (done++[y]) _ (by simpa using hd) hr2 (by rw[a5G];simp only[lN,a04];omega)
theorem c4P{fm:a0K}(p:a3k fm){xs:List Pc}(i:a3l fm 0 xs)(g:xs.length≤200){A C R:List Int}(a:A.length=8)(bA:∀b∈A,0≤b∧b<256)(t:C.length=4)(G:∀b∈C,0≤b∧b<256)(hR:R.length≤150000000)
  {H:List Int}(o:H=b9d++((a2M fm xs).flatMap a0J++A)):
  a5w (H++(C++R))=some (if a3O H=b4Q 0 C then(b6k fm xs (b4Q 0 A) (H.length+4),0)else(b9e,5)):=by
 obtain⟨f1,f2,f3,f4,f5,f6⟩:=id p;have hv:=b4o (a2M fm xs) fun n y=>a19 (a7z p i g n y) (by decide);have hl:(a2M fm xs).length≤404:=by simp only[a2M,lN,b5s,lC,a06];omega
 have I:∀b∈H,0≤b∧b<256:=fun b hb=>by
  rw[o]at hb;rcases mA.1 hb with hb|hb;simp only[b9d,mC,a33,or_false]at hb;omega;rcases mA.1 hb with hb|hb;exact b8B _ (fun n y=>a19 (a7z p i g n y) (by decide)) b hb;exact bA b hb
 have c:H.length=4+((a2M fm xs).flatMap a0J).length+8:=by rw[o];simp only[b9d,lN,lC,a06,a];omega
 have S:=b7t (l:=H) (by unfold short;omega) I;have m:(a2M fm xs).flatMap a0J=a0J fm.1.toNat++(a0J fm.2.1.toNat++(a0J fm.2.2.1.toNat++(a0J xs.length++(nsP xs).flatMap a0J))):=by simp[a2M]
 obtain⟨V,O⟩:∃V,(a2M fm xs).flatMap a0J=V:=⟨_,rfl⟩;rw[O]at hv c m o;have ex:H++(C++R)=75::78::83::68::(V++(A++(C++R))):=by rw[o];simp[b9d]
 have h:(V++(A++(C++R))).length<1000000000:=by simp only[lN,a,t];omega
 have B:([]++(a0J fm.1.toNat++(a0J fm.2.1.toNat++(a0J fm.2.2.1.toNat++(a0J xs.length++((nsP xs).flatMap a0J++(A++(C++R)))))))).length<1000000000:=by rw[m]at h;simpa using h
 have D:=a1A B;have E:=a1A D;have F:=a1A E;have U:=a1A F;have X:=a2S (n:=fm.1.toNat) (most:=1048576) (by omega) (by omega) B;have Y:=a2S (n:=fm.2.1.toNat) (most:=8) (by omega) (by omega) D;have Z:=a2S (n:=fm.2.2.1.toNat) (most:=24) (by omega) (by omega) E;have n4:=a2S (n:=xs.length) (most:=4096) (by omega) (by omega) F;have w1:wrap .i64 ((fm.1.toNat:Nat):Int)=fm.1:=by rw[a0C (by omega)];omega
 have w2:wrap .i64 ((fm.2.1.toNat:Nat):Int)=fm.2.1:=by rw[a0C (by omega)];omega
 have w3:wrap .i64 ((fm.2.2.1.toNat:Nat):Int)=fm.2.2.1:=by rw[a0C (by omega)];omega
 have f:=b8C g (H++(C++R)) fm b9e (0,0,0,()) xs [] _ 0 rfl i U;have N:([]++a0J fm.1.toNat++a0J fm.2.1.toNat++a0J fm.2.2.1.toNat++a0J xs.length)++(nsP xs).flatMap a0J=V:=by rw[m];simp
 rw[N]at f;have n8:=c5i (P:=V) a (by omega) bA h;have n9:=c5i (P:=V++A) t (by omega) G (a1A h);have k:wrap .i64 (((V++(A++(C++R))).length:Int)-(V.length:Int))=((A++(C++R)).length:Int):=by
  simp only[lN]at h⊢;rw[a0C (by omega)];omega
 have q:decide (((A++(C++R)).length:Int)<12)=false:=by simp[a,t];omega
 have u:wrap .i64 ((4:Int)+(((V++A).length:Nat):Int))=((H.length:Nat):Int):=by
  rw[c];simp only[lN,a];rw[a0C (by omega)];omega
 have r:decide ((0:Int)≤((H.length:Nat):Int))=true:=decide_eq_true (a03 _);have s:decide (((H.length:Nat):Int)≤(((H++(C++R)).length:Nat):Int))=true:=by simp;omega
 have d:wrap .i64 (((H.length:Nat):Int)+4)=((H.length+4:Nat):Int):=by rw[a0C (by omega)];omega
 have T:wrap .u64 ((a3O H:Nat):Int)=((a3O H:Nat):Int):=a0L (by have:=b6i H;omega);have K:decide (((a07 (H++(C++R)):Nat):Int)<(4:Int))=false:=by simp;omega
 have L:decide ((4:Int)≤((a07 (H++(C++R)):Nat):Int))=true:=by simp;omega
 have v:((b2s (a59 4 (H++(C++R)))) != ([75,78,83,68]:List Int))=false:=by rw[ex];rfl
 have w:a72 4 (a59 (a07 (H++(C++R))) (H++(C++R)))=V++(A++(C++R)):=by rw[a49,ex];rfl
 have e:a5J (V++(A++(C++R)))=some (ord [] (a0J fm.1.toNat++(a0J fm.2.1.toNat++(a0J fm.2.2.1.toNat++(a0J xs.length++((nsP xs).flatMap a0J++(A++(C++R)))))))):=by
  unfold a5J;rw[a0T (by omega),cT,m];simp[ord]
 have j:=c4l g fm b9e (a2N xs) (((b4Q 0 A:Nat):Int),((H.length+4:Nat):Int),()) xs [] 0 rfl i (by simp[a1l]);have x:(a2O xs).length=xs.length:=by simp[a2O]
 have Q:=(b7r i).2;have M:decide (((a1l xs:Nat):Int) > (4194304:Int))=false:=by simp;omega
 unfold a5w;simp only[K,cF,L,cT,v,w,e,oB,X,Y,Z,n4,w1,w2,w3]
 erw[f]
 simp only[oB,a3A,a1E,a4b,ord,show((0:Int) != 0)=false from rfl,cF,k,q]
 erw[n8]
 simp only[oB,ord,u,r,s,a05,cT,tN,a76,S,T]
 erw[n9]
 simp only[oB]
 by_cases hq:a3O H=b4Q 0 C
 have z:(((a3O H:Nat):Int) != ((b4Q 0 C:Nat):Int))=false:=by rw[hq];simp
 simp only[z,cF,if_pos hq,a4x,p,decide_true,bT,oB,d,x]
 erw[j]
 simp only[M,oB,cF];rfl;have z:(((a3O H:Nat):Int) != ((b4Q 0 C:Nat):Int))=true:=by simp;omega
 simp only[z,cT,if_neg hq];rfl
theorem c4Q{B P R:List Int}{fm:a0K}{st:Nat}{x:Pc}(w:c4c fm st x)(g:B=P++(x.2.2++R))(G:B.length<1000000000){pl:b7H}(hp:pl.1=fm){i:Int}(v:m0h pl.2.1 i=some ((x.2.2.length:Nat):Int))(h:m0h pl.2.2.1 i=some ((a0X x.2.1:Nat):Int)):
  a6L (B,pl,i,((P.length:Nat):Int),(st:Int))=some (x.1,x.2.1,0):=by
 obtain⟨m,p,q,r,C,s,D,E,F,n,o⟩:=w;have u:B.length=P.length+(x.2.2.length+R.length):=by rw[g];simp
 have A:wrap .i64 (((a07 B:Nat):Int)-((P.length:Nat):Int))=((x.2.2.length+R.length:Nat):Int):=by rw[a0C (by omega)];omega
 have a:decide (((x.2.2.length+R.length:Nat):Int)<((x.2.2.length:Nat):Int))=false:=decide_eq_false (by omega);have w2:wrap .i64 (((P.length:Nat):Int)+((x.2.2.length:Nat):Int))=((P.length+x.2.2.length:Nat):Int):=by rw[a0C (by omega)];omega
 have b:decide ((0:Int)≤((P.length+x.2.2.length:Nat):Int))=true:=decide_eq_true (a03 _);have c:decide (((P.length+x.2.2.length:Nat):Int)≤((a07 B:Nat):Int))=true:=by simp;omega
 have d:decide ((0:Int)≤((P.length:Nat):Int))=true:=decide_eq_true (a03 _);have e:decide (((P.length:Nat):Int)≤((P.length+x.2.2.length:Nat):Int))=true:=decide_eq_true (by omega);have l:a72 P.length (a59 (P.length+x.2.2.length) B)=x.2.2:=by
  rw[g,←aA,←lN,a76,b05]
 have f:=s [] (by simp);rw[a27]at f;have k:((0:Int) != 0)=false:=rfl;have j:decide (((x.2.2.length:Nat):Int)<((x.2.2.length:Nat):Int))=false:=by simp
 have t:eqT (.pair (.int .i64) (.pair (.int .i64) (.pair (.int .i64) .unit))) x.1.2.2.1 pl.1=true:=by rw[q,hp];exact c3R fm
 have y:(x.1.1 != (st:Int))=false:=by rw[m];simp
 have z:(((a0X x.2.1:Nat):Int) != ((a0X x.2.1:Nat):Int))=false:=by simp
 unfold a6L;simp only[v,oB,A,a,cF,w2,b,c,d,e,a05,cT,tN,l,f,k,j];rw[t];simp only[bT,cF,y,h,oB,p,z,r,k]
def c6D:c1y:=((0,0,0,()),0,0,[],[],())
theorem c8W{done rest:List Pc}(x:Pc):m0h (a2N (done++x::rest)) (done.length:Int)=some ((x.2.2.length:Nat):Int):=by
 have:=b5t (a2N done) ((x.2.2.length:Nat):Int) (a2N rest)
 simp only[a2N,a01,pA,a18]at this⊢;exact this
theorem d1p{done rest:List Pc}(x:Pc):m0h (a2O (done++x::rest)) (done.length:Int)=some ((a0X x.2.1:Nat):Int):=by
 have:=b5t (a2O done) ((a0X x.2.1:Nat):Int) (a2O rest)
 simp only[a2O,a01,pA,a18]at this⊢;exact this
theorem c2q{fm:a0K}{all tail:List Pc}(g:all.length≤200){B Hd Z:List Int}(m:B.length<1000000000){pl:b7H}(hp:pl.1=fm)(f:pl.2.1=a2N all)(k:pl.2.2.1=a2O all)(a:pl.2.2.2.2.2.1=((Hd.length:Nat):Int))(z:c1y):
  ∀(rest done:List Pc),done++(rest++tail)=all→B=Hd++(a0U done++(a0U rest++Z))→a3l fm (a1l done) rest→a1l done≤64*done.length→
  y0o a3M (B,((Hd.length+(a0U done).length:Nat):Int),a2N all,(all.length:Int),(done.length:Int),z,pl,mkT fm done,()) =
   y0o a3M (B,((Hd.length+(a0U (done++rest)).length:Nat):Int),a2N all,(all.length:Int),((done++rest).length:Int),z,pl,mkT fm (done++rest),())
 | [],done,_,_,_,_=>by rw[a27]
 |x::rest,done,hd,hB,hr,ho=>by
  obtain⟨n,d⟩:=hr;have c:done.length<all.length:=by rw[←hd];simp
  have h:B=(Hd++a0U done)++(x.2.2++(a0U rest++Z)):=by rw[hB];simp[a0U]
  have t:Hd.length+(a0U done).length+x.2.2.length≤B.length:=by rw[h];simp;omega
  have e:=c8W (done:=done) (rest:=rest++tail) x;have b:=d1p (done:=done) (rest:=rest++tail) x;rw[a44]at hd;rw[hd]at e b;have l:=c4Q n h m hp (i:=(done.length:Int)) (by rw[f];exact e) (by rw[k];exact b);rw[lN]at l;obtain⟨A,q,C,D,E,F,r,s,G,o,p⟩:=n;have j:=b7u r (w:=fm.2.2.1) s (a5F done);have u:(a3h 0 0 done).length+1<2147483648:=by rw[b0X];omega
  have v:wrap .i64 (((Hd.length+(a0U done).length:Nat):Int)+((x.2.2.length:Nat):Int))=((Hd.length+(a0U (done++[x])).length:Nat):Int):=by
   rw[a9m,lN,a0C (by omega)];omega
  have w2:wrap .i64 (((a1l done:Nat):Int)+((a0X x.2.1:Nat):Int))=((a1l (done++[x]):Nat):Int):=by rw[a5G,a0C (by omega)];omega
  have y:wrap .i64 (((Hd.length+(a0U done).length:Nat):Int)-((Hd.length:Nat):Int))=(((a0U done).length:Nat):Int):=by rw[a0C (by omega)];omega
  rw[a0F (s':=(B,((Hd.length+(a0U (done++[x])).length:Nat):Int),a2N all,(all.length:Int),(((done++[x]).length:Nat):Int),z,pl,mkT fm (done++[x]),())) (by
   simp only[a3M,dlt c,cT,e,oB,mkT]
   erw[l]
   simp only[oB,show((0:Int) != 0)=false from rfl,cF]
   erw[j]
   simp only[oB,a0T u,a01,a0T (show done.length+1<2147483648 by omega),cT,v,q,w2,a,y,a0B (show done.length<1000000 by omega)];simp[a2B,b3c,b4P])]
  rw[List.append_cons done x rest];exact c2q (Z:=Z) g m hp f k a z rest (done++[x]) (by simpa using hd) (by rw[h,a9m];simp) (by rw[a5G];exact d) (by rw[a5G];simp only[lN,a04];omega)
theorem c4R{fm:a0K}(a:a3k fm){xs:List Pc}(b:a3l fm 0 xs)(g:xs.length≤200){R:List Int}(k:R.length≤150000000):
  a5w (a1m fm xs++(a7C 4 (a3O (a1m fm xs))++R))=some (b6k fm xs (a2B fm xs) ((a1m fm xs).length+4),0):=by
 have f:=c0N (a3F fm.2.2.1 (a5F xs));have h:=c4P a b g (A:=a7C 8 (a2B fm xs)) (C:=a7C 4 (a3O (a1m fm xs))) (R:=R) (a8l ..) (b6h 8 _) (a8l ..) (b6h 4 _) k (H:=a1m fm xs) rfl;rw[b9c 4 _ (by have:=b6i (a1m fm xs);omega),b9c 8 _ (by unfold prm at f;unfold a2B;omega),if_pos rfl]at h;exact h
theorem c6E{fm:a0K}(d:a3k fm){xs:List Pc}(a:a3l fm 0 xs)(h:xs.length≤200):a7Z (a2C fm xs)=some (mkT fm xs,0):=by
 have i:=b6g a;have l:=c2n d a h;have j:=c4R d a h (R:=a0U xs) (by omega);have k:(a2C fm xs).length=(a1m fm xs).length+4+(a0U xs).length:=by simp[a2C,a8l];omega
 have f:(a1m fm xs++a7C 4 (a3O (a1m fm xs))).length=(a1m fm xs).length+4:=by simp[a8l]
 have g:=c2q (fm:=fm) h (B:=a2C fm xs) (Hd:=a1m fm xs++a7C 4 (a3O (a1m fm xs))) (Z:=[]) (by omega) (pl:=b6k fm xs (a2B fm xs) ((a1m fm xs).length+4)) rfl rfl rfl (by rw[f];rfl) c6D (tail:=[]) xs [] (by simp) (by simp[a2C,a0U]) a (by simp[a1l]);rw[f,b01]at g;have b:y0o a3M (a2C fm xs,(((a1m fm xs).length+4+(a0U xs).length:Nat):Int),a2N xs,(xs.length:Int),(xs.length:Int),c6D,b6k fm xs (a2B fm xs) ((a1m fm xs).length+4),mkT fm xs,())=some (Sum.inl (a2C fm xs,(((a1m fm xs).length+4+(a0U xs).length:Nat):Int),c6D,b6k fm xs (a2B fm xs) ((a1m fm xs).length+4),mkT fm xs,())):=
  a0E (by simp only[a3M,dge,cF])
 rw[b]at g;have c:(a2N xs).length=xs.length:=by simp[a2N]
 have e:decide ((((a1m fm xs).length+4+(a0U xs).length:Nat):Int)<(((a2C fm xs).length:Nat):Int))=false:=by rw[k];simp
 unfold a7Z;rw[show a2C fm xs=a1m fm xs++(a7C 4 (a3O (a1m fm xs))++a0U xs)from rfl,j];simp only[oB,show((0:Int) != 0)=false from rfl,cF,b6k,c]
 erw[g]
 simp only[oB,b6k,mkT]
 erw[e]
 simp only[cF,bne_self_eq_false]
def b4R(fm:a0K)(l:List Int)(ch sz total:Nat)(effort:Int):Nat→List Pc→Prop
 |st,[]=>total≤st
 |st,x::xs=>st<total∧x.2.1=a7n fm.2.2.1 (b2a l ch st (min (st+sz) total)) ch∧a2H (x.2.1,fm,(st:Int),effort)=some (x.1,0)∧c4c fm st x∧b4R fm l ch sz total effort (st+sz) xs
def c0T(fm:a0K)(total:Nat)(xs:List Pc):c1y:=(fm,(total:Int),((a2B fm xs:Nat):Int),a3h 0 0 xs,xs.map (·.1),())
theorem c8X{fm:a0K}(M:a3k fm){ch:Nat}(b:fm.2.1=(ch:Int)){l:List Int}{total sz:Nat}(t:l.length=total*ch)(ht:total≤200)(hs:1≤sz∧sz≤64)(i:l.all (fun x=>a1i x fm.2.2.1)=true){effort:Int}(h0:0≤effort)(h3:effort≤3):
  ∀(k st:Nat)(done:List Pc),total≤st+k→a1l done=min st total→a5F done=l.take (min st total*ch)→a3l fm 0 done→done.length≤st→st≤300→
  ∃rest,b4R fm l ch sz total effort st rest∧a3l fm 0 (done++rest)∧a1l (done++rest)=total∧a5F (done++rest)=l∧
   y0o a4a (l,(sz:Int),effort,(total:Int),(((a0U done).length:Nat):Int),(st:Int),c0T fm total done,fm,())=some (.inl (c0T fm total (done++rest),())):=by
 obtain⟨f1,f2,f3,f4,f5,f6⟩:=id M;have s:1≤ch∧ch≤8:=by omega
 intro k
 induction k with
 |zero=>
  intro st done N h a o A K;have C:min st total=total:=by omega
  have v:decide ((st:Int)<(total:Int))=false:=by simp;omega
  rw[C]at h a;refine⟨[],by simpa[b4R]using N,by simpa using o,by simpa using h,by rw[a27,a,←t,a49],?_⟩;rw[a27];exact a0E (by simp only[a4a,v,cF])
 |succ k ih=>
  intro st done N h a o A K
  by_cases hlt:st<total
  have D:min st total=st:=by omega
  rw[D]at h a;obtain⟨en,d⟩:∃en,min (st+sz) total=en:=⟨_,rfl⟩;have e:st<en∧en≤total∧en≤st+sz:=by omega
  have B:en*ch≤l.length:=by rw[t];exact a23 _ e.2.1
  have h4:st*ch≤en*ch:=a23 _ (by omega);have h1:l.length≤200*8:=by rw[t];exact a08 ht s.2
  have f:=c7G (st:=st) B;have c:=c7I (ch:=ch) (st:=st) (en:=en) i;have j:=d1e (w:=fm.2.2.1) f s (by omega) ⟨f5,f6⟩ c;have F:=b9b (w:=fm.2.2.1) f s.1;have H:=d1f (w:=fm.2.2.1) f s.1;have G:=d1n M b (l:=b2a l ch st en) (n:=en-st) (by omega) f c;obtain⟨g,p,S,q⟩:=d1d (fm:=fm) j (by omega) ⟨f1,f2⟩ (by rw[b];simp[a7n,a2t]) rfl (st:=st) (by omega) h0 h3;have m:=q.2.2.2.2.1;have L:=b7u j (w:=fm.2.2.1) rfl (a5F done);obtain⟨x,u⟩:∃x:Pc,x=(((st:Int),g),a7n fm.2.2.1 (b2a l ch st en) ch,p):=⟨_,rfl⟩;have T:x.1=((st:Int),g):=by rw[u]
  have r:x.2.1=a7n fm.2.2.1 (b2a l ch st en) ch:=by rw[u]
  have U:x.2.2=p:=by rw[u]
  rw[←u]at q;have E:=q.2.2.2.2.2.2.2.2.2.2;rw[U]at E;have h2:=b6g o;have y:a1l (done++[x])=min (st+sz) total:=by rw[a5G,r,F,h];omega
  have z:a5F (done++[x])=l.take (min (st+sz) total*ch):=by rw[b3c,r,H,a,d,c7H (by omega)]
  have I:a3l fm 0 (done++[x]):=c2l o (by rw[a40,h];exact q);obtain⟨rest,k1,O,P,Q,R⟩:=ih (st+sz) (done++[x]) (by omega) y z I (by simp only[lN,a04];omega) (by omega);have ea:done++[x]++rest=done++x::rest:=by simp
  rw[ea]at O P Q R;refine⟨x::rest,⟨hlt,by rw[d];exact r,by rw[r,T];exact S,q,k1⟩,O,P,Q,?_⟩;rw[←R];have q1:wrap .i64 ((v0o (wrap .i64 ((st:Int)+(sz:Int))) (total:Int))*(ch:Int))=((en*ch:Nat):Int):=by
   rw[a0C (n:=(st:Int)+(sz:Int)) (by omega),b4Y,show min ((st:Int)+(sz:Int)) (total:Int)=(en:Int)from by omega,←a53,a0C (by omega)]
  have q2:wrap .i64 ((st:Int)*(ch:Int))=((st*ch:Nat):Int):=by rw[←a53,a0C (by omega)]
  have V:decide ((0:Int)≤((en*ch:Nat):Int))=true:=decide_eq_true (a03 _);have X:decide (((en*ch:Nat):Int)≤((l.length:Nat):Int))=true:=decide_eq_true (by omega);have Y:decide ((0:Int)≤((st*ch:Nat):Int))=true:=decide_eq_true (a03 _);have Z:decide (((st*ch:Nat):Int)≤((en*ch:Nat):Int))=true:=decide_eq_true (by omega);have ec:a72 (st*ch) (a59 (en*ch) l)=b2a l ch st en:=rfl;have n0:((0:Int) != 0)=false:=rfl;have w1:wrap .i64 ((((a0U done).length:Nat):Int)+((p.length:Nat):Int))=(((a0U (done++[x])).length:Nat):Int):=by
   rw[a9m,lN,U,a0C (by omega)];omega
  have w2:wrap .i64 ((st:Int)+(sz:Int))=((st+sz:Nat):Int):=by rw[a0C (by omega)];omega
  refine a0F ?_
  simp only[a4a,dlt hlt,cT,b,q1,q2,V,X,Y,Z,a05,tN,ec,G,oB,n0,cF,S,m,c0T]
  erw[L]
  simp only[oB,b0X,a01,a0T (show done.length+1<2147483648 by omega),cT,w1,w2];simp only[a2B,b3c,b4P,pA,a18,List.map_nil,T,r,a40,h];rfl;have C:min st total=total:=by omega
  have v:decide ((st:Int)<(total:Int))=false:=by simp;omega
  rw[C]at h a;refine⟨[],by simp only[b4R];omega,by simpa using o,by simpa using h,by rw[a27,a,←t,a49],?_⟩;rw[a27];exact a0E (by simp only[a4a,v,cF])
theorem b8D{l:List Int}(a:l.length≤10000){fm:a0K}(f:4≤fm.2.2.1∧fm.2.2.1≤24)(sz effort h:Int):∀(rest done:List Int),done++rest=l→rest.all (fun x=>a1i x fm.2.2.1)=true→
  y0o a5U (l,sz,effort,h,l,(l.length:Int),(done.length:Int),fm,())=some (.inl (l,sz,effort,h,fm,()))
 | [],done,hd,_=>by
  obtain rfl:done=l:=by simpa using hd
  exact a0E (by simp only[a5U,dge,cF])
 |x::rest,done,hd,hfit=>by
  have g:done.length<l.length:=by rw[←hd];simp
  have k:m0h l (done.length:Int)=some x:=by rw[a0D g];subst hd;simp
  simp only[a80,bA]at hfit;rw[a0F (s':=(l,sz,effort,h,l,(l.length:Int),(((done++[x]).length:Nat):Int),fm,())) (by
   simp only[a5U,dlt g,cT,k,oB,b3P f,hfit.1,bT,cF,a0B (show done.length<1000000 by omega)]
   simp)]
  exact b8D a f sz effort h rest (done++[x]) (by simpa using hd) hfit.2
theorem c7O{fm:a0K}(k:a3k fm){ch:Nat}(f:fm.2.1=(ch:Int)){l:List Int}{total sz:Nat}(a:l.length=total*ch)(j:total≤200)(E:1≤sz∧sz≤64)(g:l.all (fun x=>a1i x fm.2.2.1)=true){effort:Int}(A:0≤effort)(B:effort≤3):
  ∃h,b4R fm l ch sz total effort 0 h∧a3l fm 0 h∧a1l h=total∧a5F h=l∧h.length≤200∧a6i (fm,l,(sz:Int),effort)=some (a2C fm h,0):=by
 obtain⟨h,F,b,d,o,p⟩:=c8X k f a j E g A B 200 0 [] (by omega) (by simp[a1l]) (by simp[a5F]) trivial (by simp) (by omega);rw[b01]at b d o p;have m:h.length≤200:=by have:=(b7r b).1;omega
 obtain⟨I,K,L,M,y,z⟩:=id k;have e:1≤ch∧ch≤8:=by omega
 have D:l.length≤200*8:=by rw[a];exact a08 j e.2
 have c:=b8D (l:=l) (fm:=fm) (by omega) ⟨y,z⟩ (sz:Int) effort (total:Int) l [] rfl g;have r:decide ((sz:Int)<1)=false:=by simp;omega
 have s:decide ((sz:Int) > 4096)=false:=by simp;omega
 have t:decide (effort<0)=false:=by simp;omega
 have u:decide (effort > 3)=false:=by simp;omega
 have c0:((ch:Int)==0)=false:=by simp;omega
 have G:a52 ((l.length:Nat):Int) (ch:Int)=0:=by
  show(((l.length%ch:Nat)):Int)=0;rw[a,a94];rfl
 have H:wrap .i64 (a22 ((l.length:Nat):Int) (ch:Int))=(total:Int):=by
  rw[show a22 ((l.length:Nat):Int) (ch:Int)=((l.length / ch:Nat):Int)from rfl,a,a57 _ e.1,a0C (by omega)]
 have v:decide ((total:Int) > 4194304)=false:=by simp;omega
 have s0:((sz:Int)==0)=false:=by simp;omega
 have w:decide ((wrap .i64 (a22 (wrap .i64 ((wrap .i64 ((total:Int)+(sz:Int)))-(1:Int))) (sz:Int))) > (4096:Int))=false:=by
  rw[a0C (n:=(total:Int)+(sz:Int)) (by omega),a0C (n:=(total:Int)+(sz:Int)-1) (by omega),show((total:Int)+(sz:Int)-1)=((total+sz-1:Nat):Int)from by omega,show a22 ((total+sz-1:Nat):Int) (sz:Int)=(((total+sz-1) / sz:Nat):Int)from rfl];have i:=a98 (total+sz-1) sz
  revert i
  generalize (total+sz-1) / sz=q;intro i;rw[a0C (by omega)];exact decide_eq_false (by omega)
 have C:c0T fm total h=mkT fm h:=by unfold c0T mkT;rw[d]
 have hp:=c7N k b m;refine⟨h,F,b,d,o,m,?_⟩;unfold a6i;simp only[a4x,k,decide_true,oB,bT,cF,r,s,t,u,f,c0,G,show((0:Int) != 0)=false from rfl,H,v,s0,w]
 erw[c]
 simp only[oB]
 erw[p]
 simp only[oB,C,hp]
theorem c4m(f:a0K):b1S f=some (decide (a3k f)):=by
 unfold b1S a3k
 grind
def crE(s:BitVec 16):BitVec 16:=bif s.msb then(s <<< 1) ^^^ 32773#16 else s <<< 1
theorem c5j(s t:BitVec 16):crE (s ^^^ t)=crE s ^^^ crE t:=by
 unfold crE;rw[BitVec.msb_xor,BitVec.shiftLeft_xor_distrib];cases s.msb<;>cases t.msb<;>simp only[cT,cF,Bool.xor_true,Bool.xor_false,bT,a77];rw[a16];rw[a16,a16,a70 (t <<< 1)];rw[a16,a70 32773#16,a16,BitVec.xor_self,b02]
theorem c8Y{s:BitVec 16}(h:crE s=0):s=0:=by
 unfold crE at h;cases hm:s.msb with
 |true=>
  rw[hm,cT]at h
  have:=congrArg (fun x=>a75 x 0) h
  simp at this
 |false=>
  rw[hm,cF]at h;refine a68 fun i hi=>?_
  by_cases h15:i=15
  subst h15;rw[a58]at hm;simpa using hm
  have:=congrArg (fun x=>a75 x (i+1)) h
  simp at this;simpa using this (by omega)
theorem d4j:crE 0=0:=by decide
theorem b9f{s:BitVec 16}:∀{n:Nat},rep crE n s=0→s=0
 |0,h=>h
 |n+1,h=>c8Y (b9f (n:=n) h)
theorem c9V:∀n:Nat,rep crE n 0=0
 |0=>rfl
 |n+1=>by
  show rep crE n (crE 0)=0;rw[d4j,c9V n]
def crB(b:Bool):BitVec 16:=bif b then 32768#16 else 0#16
def crS(s:BitVec 16)(b:Bool):BitVec 16:=crE (s ^^^ crB b)
def crT:List Bool→BitVec 16
 | []=>0#16
 |b::w=>crB b ^^^ (crT w >>> 1)
theorem d1q(b:Bool)(j:Nat):(crB b).getLsbD j=(b&&decide (j=15)):=by
 cases b with
 |false=>simp[crB]
 |true=>
  simp only[crB,cT,Bool.true_and];rw[show(32768#16)=BitVec.ofNat 16 (2^15)from rfl,BitVec.getLsbD_ofNat,Nat.testBit_two_pow]
  by_cases h:j=15
  subst h;rfl;rw[decide_eq_false (by omega:¬ (15=j)),decide_eq_false h,Bool.and_false]
theorem b7I:∀(w:List Bool)(j:Nat),(crT w).getLsbD j=(decide (j<16)&&w.getD (15-j) false)
 | [],j=>by simp[crT]
 |b::w,j=>by
  rw[crT,BitVec.getLsbD_xor,d1q,a36,b7I w]
  by_cases h:j=15
  subst h;simp
  by_cases h2:j<16
  rw[show 15-j=(15-(1+j))+1 from by omega,a82];simp[h,h2,show 1+j<16 from by omega];simp[h,h2,show ¬ (1+j<16)from by omega]
theorem c8Z{w:List Bool}(h:w.length≤15):crE (crT w >>> 1)=crT w:=by
 have f:(crT w >>> 1).msb=false:=by
  rw[a58,a36,b7I];simp
 unfold crE;rw[f,cF];refine a68 fun i hi=>?_
 rw[BitVec.getLsbD_shiftLeft,a36];cases i with
 |zero=>
  have g:(crT w).getLsbD 0=false:=by
   rw[b7I,lD,List.getElem?_eq_none (by omega)];rfl
  rw[g];simp
 |succ i=>rw[show 1+(i+1-1)=i+1 from by omega];simp[hi]
theorem d2u:∀(w:List Bool)(s:BitVec 16),w.length≤16→w.foldl crS s=rep crE w.length (s ^^^ crT w)
 | [],s,_=>by simp[crT,rep]
 |b::w,s,h=>by
  rw[lC]at h;rw[a71,d2u w _ (by omega),crT,←a16];show _=rep crE w.length (crE (s ^^^ crB b ^^^ (crT w >>> 1)));rw[c5j,c8Z (by omega)];rfl
theorem c4n{α:Type}(f g:α→Bool):∀(L:List α)(s t:BitVec 16),(L.map fun j=>xor (f j) (g j)).foldl crS (s ^^^ t)=(L.map f).foldl crS s ^^^ (L.map g).foldl crS t
 | [],_,_=>rfl
 |a::L,s,t=>by
  simp only[a18,a71];rw[←c4n f g L];congr 1;unfold crS;rw[←c5j];congr 1
  have:crB (xor (f a) (g a))=crB (f a) ^^^ crB (g a):=by cases f a<;>cases g a<;>rfl
  rw[this];simp only[a16];rw[←a16 t,a70 t,a16]
theorem b6l:∀(n:Nat)(s:BitVec 16),(a29 n false).foldl crS s=rep crE n s
 |0,_=>rfl
 |n+1,s=>by
  rw[List.replicate_succ,a71,b6l n];show rep crE n (crE (s ^^^ 0#16))=rep crE n (crE s);rw[b02]
theorem d4k{w:List Bool}(h:w.length≤16)(f:true∈w)(k m:Nat):(a29 k false++(w++a29 m false)).foldl crS 0≠0:=by
 rw[a43,a43,b6l,b6l,c9V,d2u w _ h];intro e;have e:=b9f (b9f e);have e:crT w=0:=by simpa using e
 obtain⟨i,hi,g⟩:=List.mem_iff_getElem.1 f
 have:=b7I w (15-i)
 rw[e,show 15-(15-i)=i from by omega,lD,lG hi,g]at this;simp at this;omega
def byb(c:Int):List Bool:=[7,6,5,4,3,2,1,0].map fun i=>c.toNat.testBit i
def b7J(p:List Int):List Bool:=p.flatMap byb
theorem b7w:∀(k a b:Nat),b<128^(k+1)→a≤b→(a0J a).length≤(a0J b).length
 |0,a,b,h,hab=>by rw[a7x (n:=a) (by omega),a7x (n:=b) (by omega)];simp
 |k+1,a,b,h,hab=>by
  have hb:=b5Y (k+1) b h
  by_cases ha:a<128
  rw[a7x ha];simpa using hb.1;have g:¬ b<128:=by omega
  rw[a9N ha,a9N g]
  have:=b7w k (a / 128) (b / 128) (by rw[a48 (by omega)];rw[a32]at h;exact h) (Nat.div_le_div_right hab)
  simp only[lC];omega
theorem c6F{s:Int}{n:Int}{fm:a0K}{l:List a0K}{o o':List Sub}{L L':List Int}(h:L'.length≤L.length)(k:L.length≤5600000):
  (a2L (s,n,fm,l,o',()) L').length≤(a2L (s,n,fm,l,o,()) L).length:=by
 have g:=(b2k L).1;have f:=(b2k L').1;have hv:=b7w 3 (a6Q L').length (a6Q L).length (by rw[show 128^(3+1)=268435456 from rfl];omega) (by omega);simp only[a2L,a8i,a1z,hb,lN,lC,a06];omega
theorem c2r{k k':Int}(z:0≤k)(I:k≤k')(C:k'≤3){n:Nat}(A:1≤n)(B:n≤256):∀{rows:List (List Int)} {outs outs':List Sub},a4N (fun r=>a2q (r,k)) rows=some (outs.map fun s=>(s,0))→a4N (fun r=>a2q (r,k')) rows=some (outs'.map fun s=>(s,0))→
  (∀r∈rows,r.length=n∧r.all a0A=true)→∃c p:Nat,outs.foldr (fun s a=>a.bind fun a=>(a2G (s,(n:Int))).bind fun c=>some (c+a)) (some 0)=some (c:Int)∧outs'.foldr (fun s a=>a.bind fun a=>(a2G (s,(n:Int))).bind fun c=>some (c+a)) (some 0)=some (p:Int)∧p≤c
 | [],outs,outs',h,h',_=>by
  have e:outs=[]:=by
   cases outs with
   |nil=>rfl
   |cons a l=>simp[a4N]at h
  have O:outs'=[]:=by
   cases outs' with
   |nil=>rfl
   |cons a l=>simp[a4N]at h'
  subst e O;exact⟨0,0,rfl,rfl,a73 _⟩
 |r::rows,outs,outs',h,h',hr=>by
  simp only[a4N,a66,sj]at h h';obtain⟨y,H,ys,R,x⟩:=h;obtain⟨y',j,V,w,g⟩:=h';cases outs with
  |nil=>cases x
  |cons s outs=>
   cases outs' with
   |nil=>cases g
   |cons s' outs'=>
    simp only[a18,List.cons.injEq]at x g;obtain⟨rfl,rfl⟩:=x;obtain⟨rfl,rfl⟩:=g;obtain⟨E,u⟩:=hr r (by simp);obtain⟨c,p,P,Q,X⟩:=c2r z I C A B R w (fun q T=>hr q (by simp[T]));obtain⟨t,F,G,N,-⟩:=b9a ⟨E,u⟩ A B z (show k≤3 by omega);obtain⟨U,d,i,v,-⟩:=b9a ⟨E,u⟩ A B (show 0≤k' by omega) C;have S:=a5C (l:=r) (by omega) u;have b:=c7g (l:=r) (by omega) (by omega) u (c7d (by have:=S.2.2.1;omega)) z I C H j;rw[E]at b;rw[H]at F;rw[j]at d;obtain rfl:s=t:=by simpa using F
    obtain rfl:s'=U:=by simpa using d
    obtain⟨M,-,K,-⟩:=b8U G (n:=(n:Int)) (by rw[N];rfl) (L:=[]) (by simp);obtain⟨o,-,m,-⟩:=b8U i (n:=(n:Int)) (by rw[v];rfl) (L:=[]) (by simp);have D:=b7A G (n:Int);have f:=b7A i (n:Int);rw[K]at D;rw[m]at f;have D:(((a5M s M).length:Nat):Int)=a2Z s (n:Int):=Option.some.inj D;have f:(((a5M s' o).length:Nat):Int)=a2Z s' (n:Int):=Option.some.inj f;refine⟨(a5M s M).length+c,(a5M s' o).length+p,?_,?_,by omega⟩;simp only[b03,P,oB,K];congr 1;simp only[b03,Q,oB,m];congr 1
theorem c9a{b:a1k}(hb:a2X b)(h:a0X b≤256){rate start k k':Int}(r:1≤rate∧rate≤1048576)(a:0≤start∧start≤4194304-((a0X b:Nat):Int))(Y:1≤k)(N:k≤k')(H:k'≤3):
  ∃f f' p p',a2H (b,(rate,((b.2.1.length:Nat):Int),b.1,()),start,k)=some (f,0)∧a2H (b,(rate,((b.2.1.length:Nat):Int),b.1,()),start,k')=some (f',0)∧
   a3p f=some (p,0)∧a3p f'=some (p',0)∧a2p f=some (b,0)∧a2p f'=some (b,0)∧p'.length≤p.length:=by
 obtain⟨l,q,outs,P,v,s,R,D,S,-,T⟩:=b6d hb h r a (effort:=k) (by omega) (by omega);obtain⟨l',j,A,u,Q,w,x,o,y,-,z⟩:=b6d hb h r a (effort:=k') (by omega) (by omega);have O:=(T (by omega)).symm.trans (z (by omega));obtain rfl:l=l':=Option.some.inj O;obtain rfl:q=j:=Option.some.inj (s.symm.trans w);obtain⟨M,-⟩:=b3Q hb;have t:=(b1w l M rfl v.2.2.2 s).1;have G:=hb.2.2.2.2.1;obtain⟨c,C,E,F,U⟩:=c2r (show 0≤k by omega) N H G h S y t;have m:=b6c hb v s R (start:=start) (rate:=rate) a r;have d:=b6c hb v s x (start:=start) (rate:=rate) a r;obtain⟨L,I,e,n,-⟩:=b6b D m;obtain⟨B,K,g,i,-⟩:=b6b o d;have V:L.length=c:=by
  have:some ((L.length:Nat):Int)=some (c:Int):=e.trans E
  have:=Option.some.inj this
  omega
 have X:B.length=C:=by
  have:some ((B.length:Nat):Int)=some (C:Int):=g.trans F
  have:=Option.some.inj this
  omega
 exact⟨_,_,_,_,P,u,n,i,by rw[b6a D,m];rfl,by rw[b6a o,d];rfl,c6F (by omega) I⟩
def dead(T:List Int)(a:Int):List Int×(Int×Int×Unit):=(T,a,(3:Int),())
def d2v(c:Int):Prop:=0≤c∧c<256
def a9O(p:List Int)(j:Nat):Bool:=(p.getD (j / 8) 0).toNat.testBit (7-j%8)
theorem b9g:∀p:List Int,b7J p=(a02 (8*p.length)).map (a9O p)
 | []=>rfl
 |c::p=>by
  have e:b7J (c::p)=byb c++b7J p:=rfl;rw[e,b9g p,lC,show 8*(p.length+1)=8+8*p.length from by omega,a41,pA,a31];congr 1;refine a25 fun j _=>?_
  show a9O p j=a9O (c::p) (8+j);unfold a9O;rw[show(8+j) / 8=j / 8+1 from by omega,a82,show(8+j)%8=j%8 from by omega]
structure Turn (b k i:Nat) (p0 p:List Int) (sm:Bool):Prop where
 len:p.length=p0.length
 ok:∀c∈p,d2v c
 bit:∀j,a9O p j=xor (a9O p0 j) (decide (k≤j∧j<k+i)&&b.testBit (j-k))
 smk:sm=true↔∃t,t<i∧b.testBit t=true
 pre:p.take (k / 8)=p0.take (k / 8)
 same:sm=false→p=p0
theorem turned{b k:Nat}{p0 q:List Int}{s:Bool}(w:k<8*p0.length)(i:(b7J p0).foldl crS 0=0)(g:Turn b k (min 16 (8*p0.length-k)) p0 q s)(u:s=true):(b7J q).foldl crS 0≠0:=by
 obtain⟨n,r⟩:∃n,min 16 (8*p0.length-k)=n:=⟨_,rfl⟩;rw[r]at g;have e:b7J q=(a02 (8*p0.length)).map fun j=>xor (a9O p0 j) (decide (k≤j∧j<k+n)&&b.testBit (j-k)):=by
  rw[b9g,g.len];exact a25 fun j _=>g.bit j
 have h:=c4n (a9O p0) (fun j=>decide (k≤j∧j<k+n)&&b.testBit (j-k)) (a02 (8*p0.length)) 0 0;have a:∀x:BitVec 16,(0:BitVec 16) ^^^ x=x:=fun _=>BitVec.zero_xor;rw[a,←e,←b9g,i,a]at h;rw[h];obtain⟨m,p⟩:∃m,8*p0.length=k+(n+m):=⟨8*p0.length-k-n,by omega⟩;rw[p,a41,a41,pA,pA,pA,a31,a31,a31];have c:(a02 k).map (fun j=>decide (k≤j∧j<k+n)&&b.testBit (j-k))=a29 k false:=by
  rw[a74];refine⟨by simp,fun x f=>?_⟩;obtain⟨j,o,rfl⟩:=a30.1 f
  grind
 have d:(a02 m).map (((fun j=>decide (k≤j∧j<k+n)&&b.testBit (j-k))∘(k+·))∘(n+·))=a29 m false:=by
  rw[a74];refine⟨by simp,fun x f=>?_⟩;obtain⟨j,o,rfl⟩:=a30.1 f
  grind
 rw[c,d];refine d4k (by simp;omega) ?_ k m;obtain⟨t,l,v⟩:=g.smk.1 u;refine a30.2 ⟨t,a21.2 l,?_⟩;simp_all
set_option maxRecDepth 100000 in
theorem d1r:b4E ()=some true:=by kernel_rfl
theorem c7P(f:a0K)(l:List Int)(m:Nat)(p:m≤1000):∃t,b2U (f,l,(m:Int))=some t∧(t=true→a3k f∧l.length≤m∧l.all (fun x=>a1i x f.2.2.1)=true∧∃ch n:Nat,f.2.1=(ch:Int)∧l.length=n*ch):=by
 unfold b2U;simp only[c4m,oB]
 by_cases hf:a3k f
 ·simp only[hf,decide_true,bT,cF];cases hd:decide (((l.length:Nat):Int) > (m:Int))with
  |true=>exact⟨false,rfl,fun h=>by cases h⟩
  |false=>
   have k:l.length≤m:=by simp at hd;omega
   obtain⟨d,e,j,o,a,b⟩:=id hf;obtain⟨ch,g⟩:∃ch:Nat,f.2.1=(ch:Int):=⟨f.2.1.toNat,by omega⟩;have c0:((ch:Int)==0)=false:=by simp;omega
   have tm:a52 ((l.length:Nat):Int) (ch:Int)=((l.length%ch:Nat):Int):=rfl;simp only[cF,g,c0,tm,oB];cases c:(((l.length%ch:Nat):Int) != 0)with
   |true=>exact⟨false,rfl,fun h=>by cases h⟩
   |false=>
    have c:l.length%ch=0:=by simp at c;omega
    have h:=a1N (f:=a7j) l (fun i=>(l,(i:Int),f,())) (fun x=>a1i x f.2.2.1) (bt:=Sum.inl ()) (bf:=Sum.inr (false,()))
     (fun i hi hp=>by simp only[a7j,dlt hi,cT,a0D hi,oB,b7o ⟨a,b⟩,hp,bT,cF,a0B (show i<1000000 by omega)])
     (fun i hi hp=>by simp only[a7j,dlt hi,cT,a0D hi,oB,b7o ⟨a,b⟩,hp,a77])
     (by simp only[a7j,dge,cF])
    simp only[cF]
    erw[h]
    cases ha:l.all (fun x=>a1i x f.2.2.1)with
    |true=>exact⟨true,rfl,fun _=>⟨trivial,k,rfl,ch,l.length / ch,rfl,by have:=Nat.div_add_mod l.length ch;rw[a39];omega⟩⟩
    |false=>exact⟨false,rfl,fun h=>by cases h⟩
 simp only[hf,decide_false,a77,cT];exact⟨false,rfl,fun h=>by cases h⟩
theorem b7K{fm:a0K}(c:a3k fm){ch:Nat}(f:fm.2.1=(ch:Int)){l:List Int}{total:Nat}(j:l.length=total*ch)(m:total≤200)(g:l.all (fun x=>a1i x fm.2.2.1)=true)(size effort:Int):
  ∃(sz:Nat)(eff:Int)(h:List Pc),1≤sz∧sz≤64∧wrap .i64 (1+bits .i64 .and size 63)=(sz:Int)∧bits .i64 .and effort 3=eff∧0≤eff∧eff≤3∧b4R fm l ch sz total eff 0 h∧a3l fm 0 h∧a1l h=total∧a5F h=l∧h.length≤200∧
   a6N (fm,l,size,effort)=some (a2C fm h,mkT fm h,true):=by
 obtain⟨v,hv,k⟩:=d2g 6 (by omega) size;obtain⟨w,a,b⟩:=d2g 2 (by omega) effort;rw[show((2^6-1:Nat):Int)=63 from rfl]at hv;rw[show((2^2-1:Nat):Int)=3 from rfl]at a;have n:v<64:=k;have o:w<4:=b;have d:wrap .i64 (1+(v:Int))=((v+1:Nat):Int):=by rw[a0C (by omega)];omega
 obtain⟨h,p,e,q,r,i,s⟩:=c7O c f j m (sz:=v+1) (by omega) g (effort:=(w:Int)) (by omega) (by omega);refine⟨v+1,w,h,by omega,by omega,by rw[hv];exact d,a,by omega,by omega,p,e,q,r,i,?_⟩;unfold a6N;simp only[hv,a,d,s,oB,c6E c e i,beq_self_eq_true,cT]
theorem c4o{fm:a0K}(j:a3k fm){ch:Nat}(g:fm.2.1=(ch:Int)){l:List Int}{sz total:Nat}(z:total≤200){k k':Int}(m:1≤k)(o:k≤k')(n:k'≤3):∀(xs xs':List Pc)(st:Nat),b4R fm l ch sz total k st xs→b4R fm l ch sz total k' st xs'→
  xs'.length=xs.length∧(a0U xs').length≤(a0U xs).length∧((nsP xs').flatMap a0J).length≤((nsP xs).flatMap a0J).length
 | [],[],_,_,_=>⟨rfl,a73 _,a73 _⟩
 | [],x'::xs',st,h,a=>by have h:=(show total≤st from h);have a:=a.1;omega
 |x::xs,[],st,h,a=>by have a:=(show total≤st from a);have h:=h.1;omega
 |x::xs,x'::xs',st,⟨a1,a2,a3,a4,a5⟩,⟨b1,b2,b3,b4,b5⟩=>by
  obtain⟨v,w,y⟩:=c4o j g z m o n xs xs' _ a5 b5;obtain⟨-,-,-,-,F,-,G,t,L,D,E⟩:=a4;obtain⟨-,-,-,-,K,-,M,N,O,H,I⟩:=b4;have d:x'.2.1=x.2.1:=b2.trans a2.symm;have e:(x.2.1.2.1.length:Int)=(ch:Int):=by rw[a2];simp[a7n,a2t]
  have i:(fm.1,((x.2.1.2.1.length:Nat):Int),x.2.1.1,())=fm:=by
   obtain⟨r,c,b,u⟩:=fm;simp only at g t⊢;rw[e,t,g]
  obtain⟨f,f',p,p',q,s,A,B,-,-,C⟩:=c9a G (by omega) (rate:=fm.1) (start:=(st:Int)) ⟨j.1,j.2.1⟩ (by omega) m o n;rw[i]at q s;rw[d]at b3;obtain rfl:x.1=f:=by have:=a3.symm.trans q;simpa using this
  obtain rfl:x'.1=f':=by have:=b3.symm.trans s;simpa using this
  obtain rfl:x.2.2=p:=by have:=F.symm.trans A;simpa using this
  obtain rfl:x'.2.2=p':=by have:=K.symm.trans B;simpa using this
  have hv:=b7w 8 x'.2.2.length x.2.2.length (by rw[show(128:Nat)^(8+1)=9223372036854775808 from by decide];omega) C;refine⟨by simpa using v,?_,?_⟩;simp only[a0U,a20,lN]at w⊢;omega;simp only[nsP,a20,a24,lN,a96,d]at y⊢;omega
theorem b8E{fm:a0K}(i:a3k fm){ch:Nat}(g:fm.2.1=(ch:Int)){l:List Int}{sz total:Nat}(m:total≤200){k k':Int}(d:1≤k)(j:k≤k')(e:k'≤3){xs xs':List Pc}(h:b4R fm l ch sz total k 0 xs)(c:b4R fm l ch sz total k' 0 xs'):(a2C fm xs').length≤(a2C fm xs).length:=by
 obtain⟨f,a,b⟩:=c4o i g m d j e xs xs' 0 h c;simp only[a2C,a1m,a2M,a24,a20,a96,lN,a8l,f]at a b⊢;omega
theorem c0U(x:a0K×(List Int×(Int×Int))):a8T x=some true:=by
 obtain⟨fm,l,size,other⟩:=x;unfold a8T;simp only[d1r,oB,bT,cF];obtain⟨t,m,v⟩:=c7P fm l 60 (by omega);rw[show((60:Nat):Int)=60 from rfl]at m;simp only[m,oB];cases t with
 |false=>rfl
 |true=>
  obtain⟨k,hl,h,ch,n,g,d⟩:=v rfl;obtain⟨V,X,Y,Z,f5,f6⟩:=id k;have w:1≤ch:=by omega
  have f:n≤200:=Nat.le_trans (Nat.le_mul_of_pos_right n w) (by omega);obtain⟨sz,e,T,s1,s2,r,O,s5,s6,z,k2,k3,A,k5,B⟩:=b7K k g d f h size 1;obtain⟨j,b,ys,-,-,P,Q,-,-,q,l2,l3,C,l5,D⟩:=b7K k g d f h size 2;obtain⟨c,a,U,-,-,R,S,-,-,E,F,m3,G,H,I⟩:=b7K k g d f h size 3;obtain⟨-,-,ws,-,-,-,-,-,-,n1,K,n3,L,M,N⟩:=b7K k g d f h other 0;obtain rfl:sz=j:=by have:=r.symm.trans P;omega
  obtain rfl:sz=c:=by have:=r.symm.trans R;omega
  obtain rfl:e=1:=O.symm.trans (by decide);obtain rfl:b=2:=Q.symm.trans (by decide);obtain rfl:a=3:=S.symm.trans (by decide);have o:=b8E k g f (by decide) (by decide) (by decide) z q;have p:=b8E k g f (by decide) (by decide) (by decide) q E;have s:decide (((a07 (a2C fm ys):Nat):Int)≤((a07 (a2C fm T):Nat):Int))=true:=decide_eq_true (by omega);have u:decide (((a07 (a2C fm U):Nat):Int)≤((a07 (a2C fm ys):Nat):Int))=true:=decide_eq_true (by omega);have i:=c4w (x:=l) (y:=l) (by unfold short;omega);simp only[bT,cF,B,D,I,N,oB,c0S k F H,c0S k K M,cT,beq_self_eq_true,s,u];simp only[mkT,a2B,A,C,G,L,i,decide_true,beq_self_eq_true,cT,oB]
end Go.Ab
namespace Go.Proofs.YtbadoabamddpfaaGreatDoor
open Go.Ab Go.ChangeShapes Go.WideShapes Go.ChangeAt Go.RowKit
theorem b7x{α:Type}{f:Nat→Option (α×a0z×List Nat)}:∀(L:List α)(i:Nat),(∀(j:Nat) x,L[j]?=some x→f (i+j)=some (x,[],[]))→a0d f L.length i=some (L,[],[])
 | [],_,_=>rfl
 |a::L,i,h=>by
  have g:=h 0 a rfl;have k:=b7x L (i+1) (fun j x b=>by have:=h (j+1) x (by simpa using b);rw[←this];congr 1;omega);simp only[lC,a0d];simp only[a88]at g;rw[g,k];rfl
section
variable {H:Type} {enc:TypeId×Value→H} {P:Program} {w:World} {base:Nat} {spare:Nat→Bool} {held:Bool}
theorem c2G{k:IntKind}{n:Nat}{t e:TypeId}{fuel:Nat}{cs:List Value}{L:List Int}{p:List MemPlace}(B:P.underlying t=some (.array n e))(u:P.underlying e=some (.int k))(s:P.cellsOf e=1)
  (h:DataW.trod enc P w base spare held fuel t cs=some (.agg (L.map fun i=>.lit (.int k i)),p)):L.length=n∧∀(j:Nat) x,L[j]?=some x→cs[j]?=some (.int k x):=by
 obtain⟨C,m,rfl,b,-,A,a⟩:=DataW.trod_array B h;simp only[pJ,DataW.agg.injEq]at b;have z:L.length=n:=by rw[←A];simpa using congrArg a07 b.1
 refine⟨z,fun j x c=>?_⟩;obtain⟨v,-⟩:=lS.1 c;have g:=a j (by omega);rw[s]at g;obtain⟨y,d⟩:∃y,C[j]?=some y:=⟨_,lG (by omega)⟩;rw[d]at g;obtain⟨i,o,q,-⟩:=DataW.trod_int u g;have f:=congrArg (fun l=>l[j]?) b.1;simp only[a42,c,d,Option.map_some,q]at f;simp only[sj,DataW.lit.injEq,Lit.int.injEq,true_and]at f;subst f;have r:=congrArg (fun l=>l[0]?) o;simpa[a83,List.getElem?_take]using r
end
def c5k : String := (Rows.frameTurnedRow.laid.map Prod.fst).headD ""
theorem d7J:Tryz.prog.globalNamed c5k=some 0:=by kernel_rfl
def c9b:TypeId:=((Tryz.prog.globals[0]?).map (·.type)).getD 0
theorem d1s:(Tryz.prog.globals[0]?).map (·.type)=some c9b:=by kernel_rfl
def c9c:TypeId:=match Tryz.prog.underlying c9b with
 |some (.array _ e)=>e
 |_=>0
theorem d7K:Tryz.prog.underlying c9b=some (.array 64 c9c):=by kernel_rfl
theorem d4l:Tryz.prog.underlying c9c=some (.int .u8):=by kernel_rfl
theorem d4m:Tryz.prog.cellsOf c9c=1:=by kernel_rfl
@[reducible] def laidTab:List (String×DataW Unit):=[(c5k,Rows.laid_math_bits_deBruijn64tab)]

theorem d2w {g:Nat} {t:Ty} {x:t.den} (h:G0 g=some ⟨t,x⟩):g=0∧(⟨t,x⟩:(t:Ty)×t.den)=⟨.arr 64 (.int .u8),b1x⟩:=by
 unfold G0 find at h
 cases g with
 |zero=>exact⟨rfl,(Option.some.inj h).symm⟩
 |succ n=>exact absurd h (by simp[find])
theorem c4p{W:World}(h:laidMetH Tryz.prog laidTab W):∀g t x,G0 g=some ⟨t,x⟩→g<W.heap.size∧dec (a0a W none) t ((Src.at g 0).rd (a0a W none))=some (x,[],[]):=by
 rw[MakeChecks.laidMetH_plain _ _ _ (by kernel_rfl)]at h;obtain⟨ps,⟨r,w,m,q,u,v,b,c,d,a,_⟩,_,_⟩:=h;obtain rfl:=Option.some.inj (d7J.symm.trans b);obtain rfl:=Option.some.inj (d1s.symm.trans c);have n:(Rows.laid_math_bits_deBruijn64tab:DataW Unit)=.agg (b1x.map fun i=>.lit (.int .u8 i)):=rfl;rw[n]at a;obtain⟨s,p⟩:=c2G d7K d4l d4m a;have k:∀(j:Nat) x,b1x[j]?=some x→W.cell? ⟨0,j,none⟩=some (.int .u8 x):=fun j x l=>by
  rw[World.var?_cell b d j];simpa using p j x l
 intro g t x o;obtain⟨rfl,e⟩:=d2w o;cases e;refine⟨z0i (k 0 0 rfl),?_⟩;exact b7x (f:=fun i=>dec (a0a W none) (.int .u8) fun j=>(Src.at 0 0).rd (a0a W none) (i*1+j)) b1x 0 (fun j x l=>by
  have:=k j x l
  simp only[dec,Src.rd,a0a,a40,a91,a88,this,if_true])
set_option maxRecDepth 100000 in
theorem c9d (os:Os) (args:Array Value):laidMetH Tryz.prog laidTab ((World.doorLaid Tryz.prog 400 os).forCall (fun _ _=>0) ⟨#[],args,[]⟩).memory:=
 laidMetH_of_parts3 (fuel:=8) (laidMet_of_run' 8 (by kernel_rfl) (by kernel_rfl)) (by kernel_rfl) (by kernel_rfl)
end Go.Proofs.YtbadoabamddpfaaGreatDoor
