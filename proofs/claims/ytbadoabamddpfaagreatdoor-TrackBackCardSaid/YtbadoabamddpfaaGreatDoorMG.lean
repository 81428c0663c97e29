/- Part of the proof: QUI. Conditions: as each statement tells. -/
import Derived.KernelRfl
import Derived.Test.YtbadoabamddpfaaGreatDoorRows
import Derived.ProofKit
import Derived.LaidMore
import Derived.LaidLaws
import Derived.LaidHandle
import Derived.LaidByTextLater
import Derived.OpenShut
import Derived.Handed
import Derived.Test.YtbadoabamddpfaaGreatDoorMF
noncomputable section
set_option linter.unusedSimpArgs false
set_option linter.unusedVariables false
open BitVec renaming ofInt→a00,xor_assoc→a18,toNat_ofInt→a24,getLsbD_ushiftRight→a39,toNat_and→a53,msb_eq_getLsbD_last→a63,eq_of_getLsbD_eq→a72,xor_comm→a75,getLsbD→a81,xor_zero→b02
open Bool renaming not_false→a04,and_self→a06,true_and→a85
open Int renaming natCast_nonneg→a03,tdiv→a20,fdiv_eq_ediv_of_nonneg→a25,toNat→a49,tmod→a57,natCast_mul→a58,natCast_inj→b01
open List renaming length_map→a01,range→a02,length_nil→a05,length_singleton→a07,map_cons→a19,length→a21,getElem_mem→a22,mem_range→a23,append_nil→a26,map_congr_left→a28,flatMap_cons→a32,replicate→a33,mem_map→a34,map_map→a35,cons_append→a36,take_length→a37,not_mem_nil→a38,range_succ→a42,getElem?_take→a43,range_add→a48,foldl_append→a50,getElem?_map→a51,take_succ_eq_append_getElem→a52,flatMap_append→a60,getElem?_range→a61,filter_append→a62,all_cons→a64,take→a65,length_range→a67,ext_getElem→a68,flatMap_def→a69,mem_flatMap→a70,nil_append→a74,foldl_cons→a76,drop→a78,eq_replicate_iff→a79,take_left→a82,getD_cons_succ→a86,getElem?_drop→a88,length_take→a98,append→b00,mem_filter→b03,length_set→b06,append_eq→b07,drop_left→b08
open Nat renaming mod_lt→a08,lt_trans→a09,mul_le_mul→a16,mul_le_mul_right→a27,and_two_pow_sub_one_eq_mod→a30,mul_mod→a31,mod_eq_of_lt→a40,add_mul→a41,mul_div_cancel→a44,pow_succ→a45,zero_add→a46,mul_comm→a47,add_mod→a54,mul_assoc→a55,pow_le_pow_right→a56,le_of_lt→a59,add_assoc→a66,add_zero→a71,zero_mul→a73,min_eq_left→a77,div_lt_iff_lt_mul→a80,le_sub_one_of_lt→a83,div_lt_of_lt_mul→a84,mul_le_mul_left→a87,pos_of_ne_zero→a89,eq_zero_or_pos→a90,lt_of_lt_of_le→a91,pow_zero→a92,lt_succ_of_lt→a93,le_refl→a94,mod_mod→a95,mul_one→a96,mul_add→a97,mul_mod_left→a99,div_le_self→b04,not_lt_zero→b05
open Option renaming bind_eq_some_iff→a29
namespace Go.Ab
def b8W:Option (List (List Int))→List (List Int)×Int
 |some r=>(r,0)
 |none=>([],6)
theorem c5m{n N:Nat}(e:n≤5000){l:List a0L}(m:l.length≤16)(d:l.all (a2v (N:Int))=true):∀(k i:Nat)(c:List (List Int)),i+k=l.length→a3q c n→c.length=N→
  y0m a8a (l,(l.length:Int),(i:Int),c,())=some (match doO (l.drop i) c with|some r=>Sum.inl (r,())|none=>Sum.inr ([],6,()))
 |0,i,c,h,_,_=>by
  obtain rfl:i=l.length:=by omega
  rw[List.drop_length];exact a0E (by simp only[a8a,dge,cF];rfl)
 |k+1,i,c,h,hc,hcl=>by
  have hi:i<l.length:=by omega
  rw[List.drop_eq_getElem_cons hi];have j:a2v (c.length:Int) l[i]=true:=by rw[hcl];exact lA.1 d _ (a22 hi)
  obtain⟨b,f,a,g⟩:=c3T hc e j (sign:=1) (.inl rfl);simp only[doO];cases hst:a3F 1 l[i] c with
  |none=>
   rw[hst]at g;simp only at g;subst g;exact a0E (by simp only[a8a,dlt hi,cT,a0D hi,oB,a,a04];rfl)
  |some r=>
   rw[hst]at g;obtain⟨rfl,rfl⟩:=g;obtain⟨o,p⟩:=b3i hc j hst;rw[a0F (s':=(l,(l.length:Int),((i+1:Nat):Int),f,())) (by
    simp only[a8a,dlt hi,cT,a0D hi,oB,a,bT,cF,a0B (show i<1000000 by omega)])]
   rw[c5m e m d k (i+1) f (by omega) o (by omega)];rfl
theorem c2N(c:List (List Int))(l:List a0L):b2l (c,l)=some (if a2E c∧a4W l (c.length:Int)then b8W (doO l c)else([],1)):=by
 unfold b2l;simp only[c1u,oB]
 by_cases hq:a2E c
 have h:=c5k hq;simp only[hq,decide_true,bT,cF,b4W,oB,true_and]
 by_cases hm:a4W l (c.length:Int)
 simp only[hm,decide_true,bT,cF,if_true];rw[c2g h (by have:=hq.2.2.1;omega) (by have:=hq.2.1;omega)]
 have:=c5m (N:=c.length) (by have:=hq.2.2.1;omega:(c.headD []).length≤5000) hm.2.2.1 hm.2.2.2 l.length 0 c (by omega) h rfl
 simp only[nZ,List.drop_zero,Int.cast_ofNat_Int]at this;simp only[oB]
 erw[this]
 cases doO l c<;>rfl;simp only[hm,decide_false,a04,cT,if_false];simp only[hq,decide_false,a04,cT,oB,false_and,if_false]
theorem c0I(s:a0L):∀(l:List a0L)(c:List (List Int)),b1e (l++[s]) c=(a3F (-1) s c).bind (b1e l)
 | [],c=>by
  show a3F (-1) s c=_;cases a3F (-1) s c<;>rfl
 |t::l,c=>by
  simp only[a36,b1e,c0I s l];cases a3F (-1) s c<;>rfl
theorem c2h{n N:Nat}(i:n≤5000){l:List a0L}(a:l.all (a2v (N:Int))=true)(z:List (List Int))(e:Int):∀(k:Nat)(c:List (List Int)),k≤l.length→a3q c n→c.length=N→
  match b1e (l.take k) c with
  |some r=>l0b a3g l k (l,z,e,c,())=some (.inl (l,z,e,r,()))
  |none=>∃d,l0b a3g l k (l,z,e,c,())=some (.inr (.ret,l,[],6,d,()))
 |0,c,_,_,_=>rfl
 |k+1,c,hk,hc,hcl=>by
  have hi:k<l.length:=by omega
  have j:a2v (c.length:Int) l[k]=true:=by rw[hcl];exact lA.1 a _ (a22 hi)
  obtain⟨b,g,f,h⟩:=c3T hc i j (sign:=-1) (.inr rfl);rw[a52 hi,c0I];cases hst:a3F (-1) l[k] c with
  |none=>
   rw[hst]at h;simp only at h;subst h;refine⟨g,?_⟩;simp only[l0b,lG hi,a3g,f,oB,a04,cT]
  |some r=>
   rw[hst]at h;obtain⟨rfl,rfl⟩:=h;obtain⟨o,p⟩:=b3i hc j hst;have m:=c2h i a z e k g (by omega) o (by omega);have hb:l0b a3g l (k+1) (l,z,e,c,())=l0b a3g l k (l,z,e,g,()):=by
    simp only[l0b,lG hi,a3g,f,oB,bT,cF]
   rw[hb];exact m
theorem d1f(c:List (List Int))(l:List a0L):b1L (c,l)=some (if a2E c∧a4W l (c.length:Int)then b8W (b1e l c)else([],1)):=by
 unfold b1L;simp only[c1u,oB]
 by_cases hq:a2E c
 ·have h:=c5k hq;simp only[hq,decide_true,bT,cF,b4W,oB,true_and]
  by_cases hm:a4W l (c.length:Int)
  ·simp only[hm,decide_true,bT,cF,if_true];rw[c2g h (by have:=hq.2.2.1;omega) (by have:=hq.2.1;omega)]
   have:=c2h (N:=c.length) (by have:=hq.2.2.1;omega:(c.headD []).length≤5000) hm.2.2.2 [] 0 l.length c (a94 _) h rfl
   rw[a37]at this;simp only[oB,a0S (show l.length<2147483648 by have:=hm.2.2.1;omega),cT];cases hu:b1e l c with
   |some r=>
    rw[hu]at this;simp only at this
    erw[this]
    rfl
   |none=>
    rw[hu]at this;obtain⟨d,g⟩:=this
    erw[g]
    rfl
  simp only[hm,decide_false,a04,cT,if_false]
 simp only[hq,decide_false,a04,cT,oB,false_and,if_false]
def a0W(b:a1l):Nat:=(b.2.1.headD []).length
theorem a6s(b:a1l):a4d b=some ((a0W b:Nat):Int):=by
 unfold a4d a0W;obtain⟨d,c,u⟩:=b;cases c with
 |nil=>rfl
 |cons r c=>
  have:((((r::c).length:Nat):Int)==0)=false:=by simp;omega
  simp only[this,cF];rfl
def a3i(b:a1l):Prop:=4≤b.1∧b.1≤24∧1≤b.2.1.length∧b.2.1.length≤8∧1≤a0W b∧a0W b≤4096∧b.2.1.all (fun r=>decide (r.length=a0W b)&&r.all fun x=>a1d x b.1)=true
instance (b:a1l):Decidable (a3i b):=by unfold a3i;infer_instance
theorem b3X{x w:Int}(h:4≤w∧w≤24):a1R (x,w)=some (a1d x w):=by
 have:=a6p (x:=x) (w:=w.toNat) (by omega)
 rwa [Int.toNat_of_nonneg (by omega)]at this
theorem a8m(b:a1l):a4e b=some (decide (a3i b)):=by
 unfold a4e a6T
 by_cases h1:4≤b.1
 rotate_left;rw[decide_eq_false (show ¬ a3i b from fun h=>h1 h.1),decide_eq_false h1];rfl
 by_cases h2:b.1≤24
 rotate_left;rw[decide_eq_false (show ¬ a3i b from fun h=>h2 h.2.1),decide_eq_true h1,decide_eq_false h2];rfl
 by_cases h3:((b.2.1.length:Nat):Int)<1
 rw[decide_eq_false (show ¬ a3i b from fun h=>by have:=h.2.2.1;omega),decide_eq_true h1,decide_eq_true h2,decide_eq_true h3];rfl
 by_cases h4:((b.2.1.length:Nat):Int) > 8
 rw[decide_eq_false (show ¬ a3i b from fun h=>by have:=h.2.2.2.1;omega),decide_eq_true h1,decide_eq_true h2,decide_eq_false h3,decide_eq_true h4];rfl;have a:decide (((b.2.1.length:Nat):Int)<1)=false:=by simpa using h3
 have c:decide (((b.2.1.length:Nat):Int) > 8)=false:=by simpa using h4
 simp only[decide_eq_true h1,decide_eq_true h2,a,c,cT,cF,oB,bT,a6s]
 by_cases h5:((a0W b:Nat):Int)<1
 rw[decide_eq_false (show ¬ a3i b from fun h=>by have:=h.2.2.2.2.1;omega),decide_eq_true h5];rfl
 by_cases h6:((a0W b:Nat):Int) > 4096
 rw[decide_eq_false (show ¬ a3i b from fun h=>by have:=h.2.2.2.2.2.1;omega),decide_eq_false h5,decide_eq_true h6];rfl;have d:decide (((a0W b:Nat):Int)<1)=false:=by simpa using h5
 have l:decide (((a0W b:Nat):Int) > 4096)=false:=by simpa using h6
 simp only[d,l,cF,oB];have g:∀(i:Nat)(r:List Int),short r→y0m a4j (b.2.1,(b.2.1.length:Int),(i:Int),r,(r.length:Int),(0:Int),b,())=some (bif r.all (fun x=>a1d x b.1)then Sum.inl (b.2.1,(b.2.1.length:Int),(i:Int),b,())else Sum.inr (false,())):=fun i r m=>by
  have:=a1Q (f:=a4j) r (fun j=>(b.2.1,(b.2.1.length:Int),(i:Int),r,(r.length:Int),(j:Int),b,())) (fun x=>a1d x b.1) (bt:=Sum.inl (b.2.1,(b.2.1.length:Int),(i:Int),b,())) (bf:=Sum.inr (false,()))
   (fun j h hp=>by simp only[a4j,dlt h,cT,a0D h,oB,b3X ⟨h1,h2⟩,hp,bT,cF,a0B (a09 h m)])
   (fun j h hp=>by simp only[a4j,dlt h,cT,a0D h,oB,b3X ⟨h1,h2⟩,hp,a04])
   (by simp only[a4j,dge,cF])
  exact this
 have k:=a1Q (f:=a4k) b.2.1 (fun i=>(b.2.1,(b.2.1.length:Int),(i:Int),b,())) (fun r=>decide (r.length=a0W b)&&r.all fun x=>a1d x b.1) (bt:=Sum.inl ()) (bf:=Sum.inr (false,()))
  (fun i h hp=>by
   simp only[bA,dT]at hp;have e:((((b.2.1[i]).length:Nat):Int) != ((a0W b:Nat):Int))=false:=by rw[hp.1];exact bne_self_eq_false _
   have hi:=g i b.2.1[i] (by unfold short;omega);rw[hp.2,cT]at hi;simp only[a4k,dlt h,cT,a0D h,oB,a6s,e,cF,hi,a0B (show i<1000000 by omega)])
  (fun i h hp=>by
   by_cases hl:(b.2.1[i]).length=a0W b
   have e:((((b.2.1[i]).length:Nat):Int) != ((a0W b:Nat):Int))=false:=by rw[hl];exact bne_self_eq_false _
   have hi:=g i b.2.1[i] (by unfold short;omega);rw[decide_eq_true hl,a85]at hp;rw[hp,cF]at hi;simp only[a4k,dlt h,cT,a0D h,oB,a6s,e,cF,hi];have e:((((b.2.1[i]).length:Nat):Int) != ((a0W b:Nat):Int))=true:=by simp only[bne_iff_ne,ne_eq,b01];exact hl
   simp only[a4k,dlt h,cT,a0D h,oB,a6s,e])
  (by simp only[a4k,dge,cF])
 simp only[nZ]at k;rw[k]
 by_cases hA:b.2.1.all (fun r=>decide (r.length=a0W b)&&r.all fun x=>a1d x b.1)=true
 rw[hA,decide_eq_true (show a3i b from⟨h1,h2,by omega,by omega,by omega,by omega,hA⟩)];rfl;rw[Bool.eq_false_iff.2 hA,decide_eq_false (show ¬ a3i b from fun h=>hA h.2.2.2.2.2.2)];rfl
def a7G{α β:Type}(g:α→Option β):List α→Option (List β)
 | []=>some []
 |a::l=>(g a).bind fun b=>(a7G g l).bind fun r=>some (b::r)
theorem b8X{α β:Type}{g:α→Option β}:∀{l:List α}{r:List β},a7G g l=some r→r.length=l.length
 | [],r,h=>by cases h;rfl
 |a::l,r,h=>by
  simp only[a7G,a29]at h;obtain⟨b,-,c,f,k⟩:=h;cases k;simp[b8X f]
theorem c2i{α β:Type}{g:α→Option β}:∀{l:List α}{r:List β},a7G g l=some r→∀a∈l,(g a).isSome=true
 | [],r,h,a,ha=>by cases ha
 |a::l,r,h,x,hx=>by
  simp only[a7G,a29]at h;obtain⟨b,f,d,k,c⟩:=h;rcases mC.1 hx with rfl|hx;rw[f];rfl;exact c2i k x hx
def a9m(f:a1p):Option a1l:=
 if frP f∧((f.2.2.2.2.1.length:Nat):Int)=f.2.2.1.2.1 then
  (a7G (fun s=>a2j s f.2.1) f.2.2.2.2.1).bind fun rs=>
   if a2E rs∧a4W f.2.2.2.1 (rs.length:Int)then
    (b1e f.2.2.2.1 rs).bind fun ch=>if a3i (f.2.2.1.2.2.1,ch,())then some (f.2.2.1.2.2.1,ch,())else none
   else none
 else none
def b2t:a1l:=(0,[],())
def d7X:Option a1l→a1l×Int
 |some b=>(b,0)
 |none=>(b2t,1)
theorem b8y(f:a1p)(all:List Sub)(i:all.length≤8):∀(rest done:List Sub)(rows:List (List Int)),done++rest=all→rows.length=done.length→(∀s∈rest,SmallS s)→
  y0m a4x (all,(all.length:Int),(done.length:Int),rows,b2t,f,())=some (match a7G (fun s=>a2j s f.2.1) rest with|some rs=>Sum.inl (rows++rs,b2t,f,())|none=>Sum.inr (1,b2t,()))
 | [],done,rows,hd,hr,_=>by
  have e:done=all:=by simpa using hd
  subst e;rw[a0E (b:=Sum.inl (rows,b2t,f,())) (by simp only[a4x,dge,cF])];simp[a7G]
 |s::rest,done,rows,hd,hr,h=>by
  have j:=h s (by simp);have k:done.length<all.length:=by rw[←hd];simp
  have a:m0h all (done.length:Int)=some s:=by rw[a0D k];subst hd;simp
  have g:=b9B j f.2.1;simp only[a7G];cases ho:a2j s f.2.1 with
  |none=>
   rw[ho]at g;have d:((1:Int) != 0)=true:=rfl;exact a0E (by simp only[a4x,dlt k,cT,a,oB,g,d];rfl)
  |some r=>
   rw[ho]at g;have c:((0:Int) != 0)=false:=rfl;rw[a0F (s':=(all,(all.length:Int),(((done++[s]).length:Nat):Int),rows++[r],b2t,f,())) (by
    simp only[a4x,dlt k,cT,a,oB,g,c,cF,a0S (show rows.length+1<2147483648 by omega),a0B (show done.length<1000000 by omega)]
    simp)]
   rw[b8y f all i rest (done++[s]) (rows++[r]) (by simpa using hd) (by simp[hr]) (fun t l=>h t (by simp[l]))];simp only[oB];cases a7G (fun s=>a2j s f.2.1) rest<;>simp
theorem c3V{f:a1p}(b:∀s∈f.2.2.2.2.1,SmallS s):a3K f=some (d7X (a9m f)):=by
 unfold a3K a9m;simp only[b5y,oB]
 by_cases hf:frP f
 rotate_left;simp only[hf,decide_false,a04,cT,oB,false_and,if_false];rfl
 by_cases hl:((f.2.2.2.2.1.length:Nat):Int)=f.2.2.1.2.1
 rotate_left;have e:(((f.2.2.2.2.1.length:Nat):Int) != f.2.2.1.2.1)=true:=by simpa using hl
 simp only[hf,decide_true,bT,cF,oB,e,cT,hl,and_false,if_false];rfl;have e:(((f.2.2.2.2.1.length:Nat):Int) != f.2.2.1.2.1)=false:=by simpa using hl
 have a:f.2.2.2.2.1.length≤8:=by have:=hf.1.2.2.2.1;omega
 have k:decide ((0:Int)≤((f.2.2.2.2.1.length:Nat):Int))=true:=by simp
 have h:=b8y f f.2.2.2.2.1 a f.2.2.2.2.1 [] [] rfl rfl b;rw[a05]at h;rw[if_pos ⟨hf,hl⟩];simp only[hf,decide_true,bT,cF,oB,e,k,tN,a0S (show f.2.2.2.2.1.length<2147483648 by omega),a06,cT]
 erw[h]
 cases hm:a7G (fun s=>a2j s f.2.1) f.2.2.2.2.1 with
 |none=>rfl
 |some rs=>
  simp only[oB,a74,d1f]
  by_cases hq:a2E rs∧a4W f.2.2.2.1 (rs.length:Int)
  ·simp only[if_pos hq];cases hu:b1e f.2.2.2.1 rs with
   |none=>rfl
   |some ch=>
    have g:((0:Int) != 0)=false:=rfl;simp only[b8W,g,cF,a8m,oB]
    by_cases hb:a3i (f.2.2.1.2.2.1,ch,())
    simp only[hb,decide_true,bT,cF,if_true];rfl;simp only[hb,decide_false,a04,cT,if_false];rfl
  simp only[if_neg hq];rfl
theorem d2t{f:a1p}(h:∀s∈f.2.2.2.2.1,SmallS s):a4g f=some (a9m f).isSome:=by
 unfold a4g;rw[c3V h];cases a9m f<;>rfl
theorem b7u{f:a1p}{b:a1l}(h:a9m f=some b):frP f∧((f.2.2.2.2.1.length:Nat):Int)=f.2.2.1.2.1∧∀s∈f.2.2.2.2.1,(a2j s f.2.1).isSome=true:=by
 unfold a9m at h
 split at h
 rename_i g;simp only[a29]at h;obtain⟨a,k,-⟩:=h;exact⟨g.1,g.2,c2i k⟩;cases h
open IntKind(wrap)
theorem b8Y(x:a0L):eqT (.pair (.int .i64) (.pair (.int .i64) (.pair (.int .i64) .unit))) x x=true:=by
 show((x.1==x.1)&&((x.2.1==x.2.1)&&((x.2.2.1==x.2.2.1)&&true)))=true
 simp
theorem b3Y{x w:Int}(h:4≤w∧w≤24):a9O (x,w)=some (a1d x w):=by
 have:=c4E (x:=x) (w:=w.toNat) (by omega)
 grind
theorem d1g{x w:Int}(b:4≤w∧w≤24)(h:a1d x w=true):-16777216≤x∧x≤16777216:=by
 unfold a1d at h;simp at h;obtain⟨-,-,f,g⟩:=h;obtain⟨o,k⟩:∃o:Nat,w-1=(o:Int):=⟨(w-1).toNat,by omega⟩;rw[k]at f g;rw[c3t (by omega)]at g;have hp:2^o≤2^24:=a56 (by omega) (by omega);have a:A0h .i64 (-1) (o:Int)=wrap .i64 (-((2^o:Nat):Int)):=by
  unfold A0h;show wrap .i64 (-1*2^(min (o:Int).toNat 64))=_
  grind
 grind[a0C]
theorem c7G{x w:Int}(g:4≤w∧w≤24)(h:a1d x w=true):a0A x=true:=a1D.2 (by have:=d1g g h;omega)
theorem b6i{b:a1l}(h:a3i b):a3q b.2.1 (a0W b)∧a2E b.2.1:=by
 obtain⟨k,a,c,d,e,i,g⟩:=h;have j:a3q b.2.1 (a0W b):=fun r f=>by
  have:=lA.1 g r f
  simp only[bA,dT]at this
  grind[c7G]
 grind[b8V]
theorem c6D{b:a1l}(hb:a3i b){l:List a0L}(c:a4W l (b.2.1.length:Int)){rows:List (List Int)}(n:doO l b.2.1=some rows){ss:List Sub}(q:a7G (fun s=>a2j s ((a0W b:Nat):Int)) ss=some rows)
  {start rate:Int}(h:0≤start∧start≤4194304-((a0W b:Nat):Int))(p:1≤rate∧rate≤1048576):
  a9m (start,((a0W b:Nat):Int),(rate,((b.2.1.length:Nat):Int),b.1,()),l,ss,())=some b:=by
 obtain⟨m,y⟩:=b6i hb;obtain⟨x,z⟩:=b3p l m rfl c.2.2.2 n;have o:=b8X q;obtain⟨e,i,r,t,u,j,v⟩:=hb;have a:frP (start,((a0W b:Nat):Int),(rate,((b.2.1.length:Nat):Int),b.1,()),l,ss,()):=⟨⟨p.1,p.2,by grind,by grind,e,i⟩,by grind,by grind,h.1,h.2,c⟩;have k:((ss.length:Nat):Int)=((b.2.1.length:Nat):Int):=by omega
 have g:a2E rows:=b8V x (by omega) (by omega) j;have d:a4W l ((rows.length:Nat):Int):=by simp_all
 have w:=c5l l m rfl c.2.2.2 n;have f:((b.1,b.2.1,()):a1l)=b:=rfl;unfold a9m;rw[if_pos ⟨a,k⟩];simp only[q,oB];rw[if_pos ⟨g,d⟩,w];simp only[oB,f];rw[if_pos ⟨e,i,r,t,u,j,v⟩]
def c0J:a1p:=(0,0,(0,0,0,()),[],[],())
theorem d2u(k:Nat)(a:k≤62)(y:Int):∃v:Nat,bits .i64 .and y ((2^k-1:Nat):Int)=(v:Int)∧v<2^k:=by
 have hp:2^k≤2^62:=a56 (by omega) a;have f:0<2^k:=Nat.pow_pos (by omega);have h:((a00 64 y) &&& (a00 64 ((2^k-1:Nat):Int))).toNat=(a00 64 y).toNat%2^k:=by
  rw[a53];have e:(a00 64 ((2^k-1:Nat):Int)).toNat=2^k-1:=by
   rw[a24];generalize 2^k=p at *;omega
  rw[e,a30]
 have g:=a08 (a00 64 y).toNat f;refine⟨(a00 64 y).toNat%2^k,?_,g⟩;show wrap .i64 ((((a00 64 y) &&& (a00 64 ((2^k-1:Nat):Int))).toNat:Nat):Int)=_;rw[h];generalize (a00 64 y).toNat%2^k=z at *;exact a0C (by omega)
theorem c0K(c:List (List Int))(n i:Int){r:List Int}(a:short r):∀(k j:Nat)(s:Int),2≤j→j+k=r.length∨(k=0∧r.length≤j)→∃s',y0m a6H (s,r,(j:Int),c,n,i,())=some (s',c,n,i,())
 |0,j,s,h2,h=>⟨s,a0E (by
   have d:decide ((j:Int)<(r.length:Int))=false:=by simp;omega
   simp only[a6H,d,cF])⟩
 |k+1,j,s,h2,h=>by
  have f:j<r.length:=by omega
  unfold short at a;have b:wrap .i64 ((j:Int)-1)=((j-1:Nat):Int):=by rw[a0C (by omega)];omega
  have e:wrap .i64 ((j:Int)-2)=((j-2:Nat):Int):=by rw[a0C (by omega)];omega
  have m:=a0D (l:=r) (i:=j-1) (by omega);have o:=a0D (l:=r) (i:=j-2) (by omega);obtain⟨s',g⟩:=c0K c n i a k (j+1) (wrap .i64 (s+v0m (wrap .i64 (wrap .i64 (r[j]-wrap .i64 (2*r[j-1]))+r[j-2])) (wrap .i64 (0-wrap .i64 (wrap .i64 (r[j]-wrap .i64 (2*r[j-1]))+r[j-2]))))) (by omega) (by omega);refine⟨s',?_⟩;rw[←g];exact a0F (by simp only[a6H,dlt f,cT,a0D f,oB,b,e,m,o,a0B (show j<1000000 by omega)])
theorem c2j{c:List (List Int)}{n:Nat}(h:a3q c n)(m:n≤4096)(l:c.length<1000):∃w,a7g c=some w:=by
 unfold a7g;simp only[c1u,oB]
 by_cases hq:a2E c
 rotate_left;exact⟨0,by simp only[hq,decide_false,a04,cT]⟩;simp only[hq,decide_true,bT,cF];have a:∀(k i:Nat)(s:Int),i+k=c.length→∃s',y0m a6I (s,c,(c.length:Int),(i:Int),())=some (s',()):=by
  intro k
  induction k with
  |zero=>
   intro i s hi;obtain rfl:i=c.length:=by omega
   exact⟨s,a0E (by simp only[a6I,dge,cF])⟩
  |succ k ih=>
   intro i s hi;have g:i<c.length:=by omega
   have o:=(h _ (a22 g)).1;obtain⟨e,b⟩:=c0K c (c.length:Int) (i:Int) (r:=c[i]) (by unfold short;omega) (c[i].length-2) 2 s (a94 _) (by omega);obtain⟨j,d⟩:=ih (i+1) e (by omega);refine⟨j,?_⟩;rw[←d];rw[show((2:Nat):Int)=2 from rfl]at b;exact a0F (by simp only[a6I,dlt g,cT,a0D g,oB,b,a0B (show i<1000000 by omega)])
 obtain⟨s',f⟩:=a c.length 0 0 (by omega);rw[show((0:Nat):Int)=0 from rfl]at f;rw[f];exact⟨s',rfl⟩
def a4K(m:Nat):List a0L:=match m with
 | 1=>[(0,1,-256,())]
 | 2=>[(1,0,-256,())]
 | 3=>[(1,0,-256,()),(0,1,128,())]
 | 4=>[(1,0,-106,()),(0,1,181,()),(1,0,-106,())]
 |_=>[]
theorem b8Z{m:Nat}(h:m≤4):b0M (m:Int)=some (a4K m):=by
 match m,h with
 |0,_=>rfl
 | 1,_=>rfl
 | 2,_=>rfl
 | 3,_=>rfl
 | 4,_=>rfl
theorem c2k{m:Nat}(h:m≤4):a4W (a4K m) 2:=by
 match m,h with
 |0,_=>decide
 | 1,_=>decide
 | 2,_=>decide
 | 3,_=>decide
 | 4,_=>decide
theorem b4w{p:List (List Int)}{n:Nat}(hp:a3q p n)(a:p.length=2)(f:a2E p)(b:n≤4096):∀(k m best:Nat)(least:Int),m+k=5→best≤4→(doO (a4K best) p).isSome=true→
  ∃best',y0m a6f (p,(best:Int),least,(m:Int),())=some (((best':Nat):Int),())∧best'≤4∧(doO (a4K best') p).isSome=true
 |0,m,best,least,hm,hb,hd=>by
  obtain rfl:m=5:=by omega
  exact⟨best,a0E rfl,hb,hd⟩
 |k+1,m,best,least,hm,hb,hd=>by
  have d:decide ((m:Int)<5)=true:=by simp;omega
  have e:wrap .i64 ((m:Int)+1)=((m+1:Nat):Int):=a0B (by omega);have g:a4W (a4K m) (p.length:Int):=by rw[a];exact c2k (by omega)
  cases hdo:doO (a4K m) p with
  |none=>
   have j:((6:Int) != 0)=true:=rfl;rw[a0F (s':=(p,(best:Int),least,((m+1:Nat):Int),())) (by
    simp only[a6f,d,cT,b8Z (show m≤4 by omega),oB,c2N,if_pos (show a2E p∧a4W (a4K m) (p.length:Int)from⟨f,g⟩),hdo,b8W,j,e])]
   exact b4w hp a f b k (m+1) best least (by omega) hb hd
  |some r=>
   have i:((0:Int) != 0)=false:=rfl;obtain⟨l,o⟩:=b3p (a4K m) hp rfl g.2.2.2 hdo
   obtain⟨w,c⟩:=c2j l b (by omega);have h:a6f (p,(best:Int),least,(m:Int),())=bif decide (w<least)then some (.inl (p,(m:Int),w,((m+1:Nat):Int),()))else some (.inl (p,(best:Int),least,((m+1:Nat):Int),())):=by
    simp only[a6f,d,cT,b8Z (show m≤4 by omega),oB,c2N,if_pos (show a2E p∧a4W (a4K m) (p.length:Int)from⟨f,g⟩),hdo,b8W,i,cF,c,e]
   cases hlt:decide (w<least)with
   |true=>
    rw[hlt]at h;rw[a0F h];exact b4w hp a f b k (m+1) m w (by omega) (by omega) (by rw[hdo];rfl)
   |false=>
    rw[hlt]at h;rw[a0F h];exact b4w hp a f b k (m+1) best least (by omega) hb hd
theorem d1h{p:List (List Int)}{n:Nat}(hp:a3q p n)(k:p.length=2)(g:n≤4096):∃m,m≤4∧b1S p=some (a4K m)∧(doO (a4K m) p).isSome=true:=by
 have b:=b8V hp (by omega) (by omega) g;obtain⟨w,c⟩:=c2j hp g (by omega);obtain⟨m,f,h,a⟩:=b4w hp k b g 4 1 0 w rfl (by omega) rfl;refine⟨m,h,?_,a⟩;unfold b1S;simp only[c,oB]
 erw[f]
 simp only[oB,b8Z h]
def b1f(i:Nat)(s:a0L):a0L:=(s.1+(i:Int),s.2.1+(i:Int),s.2.2.1,())
theorem c8P{i N:Nat}(h:i+2≤N){s:a0L}(k:a2v 2 s=true):a2v (N:Int) (b1f i s)=true:=by
 obtain⟨a1,a,b,c,d,g,f⟩:=a2T.1 k;exact a2T.2 ⟨by show 0≤s.1+(i:Int);omega,by show s.1+(i:Int)<(N:Int);omega,by show 0≤s.2.1+(i:Int);omega,by show s.2.1+(i:Int)<(N:Int);omega,by show s.1+(i:Int)≠s.2.1+(i:Int);omega,g,f⟩
def c2O(i:Nat)(c c' p:List (List Int)):Prop:=c'.length=c.length∧p.length=2∧c'.getD i []=p.getD 0 []∧c'.getD (i+1) []=p.getD 1 []∧∀j,j≠i→j≠i+1→c'.getD j []=c.getD j []
theorem c6E{i:Nat}{c0 c p p':List (List Int)}(hi:i+2≤c0.length)(h:c2O i c0 c p){s:a0L}(z:a2v 2 s=true)(g:a3F 1 s p=some p'):∃c',a3F 1 (b1f i s) c=some c'∧c2O i c0 c' p':=by
 obtain⟨q,t,a,b,u⟩:=h;obtain⟨a1,d,l,m,B,C,D⟩:=a2T.1 z;unfold a3F at g⊢;simp only at g⊢;have f:∀x:Int,0≤x→x<2→c.getD (x+(i:Int)).toNat []=p.getD x.toNat []:=fun x E A=>by
  have:x=0∨x=1:=by omega
  rcases this with rfl|rfl;rw[show((0:Int)+(i:Int)).toNat=i from by omega];exact a;rw[show((1:Int)+(i:Int)).toNat=i+1 from by omega];exact b
 have n:=f s.1 a1 d;have o:=f s.2.1 l m;simp only[b1f];have y:a9H 1 s.2.2.1 (c.getD (s.1+(i:Int)).toNat []) (c.getD (s.2.1+(i:Int)).toNat [])=a9H 1 s.2.2.1 (p.getD s.1.toNat []) (p.getD s.2.1.toNat []):=by rw[n,o]
 simp only[y]
 split at g
 rename_i v;cases g;rw[if_pos v];generalize a9H 1 s.2.2.1 (p.getD s.1.toNat []) (p.getD s.2.1.toNat [])=r at *;refine⟨_,rfl,by simp[q],by simp[t],?_,?_,fun j w k=>?_⟩
 have:s.2.1=0∨s.2.1=1:=by omega
 rcases this with e|e;rw[e,show((0:Int)+(i:Int)).toNat=i from by omega,a7A _ (by omega),show(0:Int).toNat=0 from rfl,a7A _ (by omega)];rw[e,show((1:Int)+(i:Int)).toNat=i+1 from by omega,a5N _ (by omega),show(1:Int).toNat=1 from rfl,a5N _ (by omega)];exact a
 have:s.2.1=0∨s.2.1=1:=by omega
 rcases this with e|e;rw[e,show((0:Int)+(i:Int)).toNat=i from by omega,a5N _ (by omega),show(0:Int).toNat=0 from rfl,a5N _ (by omega)];exact b;rw[e,show((1:Int)+(i:Int)).toNat=i+1 from by omega,a7A _ (by omega),show(1:Int).toNat=1 from rfl,a7A _ (by omega)];rw[a5N _ (by omega)];exact u j w k;cases g
theorem c3W{i:Nat}{c0:List (List Int)}(hi:i+2≤c0.length):∀(l:List a0L){c p p':List (List Int)},l.all (a2v 2)=true→c2O i c0 c p→doO l p=some p'→∃g,doO (l.map (b1f i)) c=some g∧c2O i c0 g p'
 | [],c,p,p',_,h,hd=>by cases hd;exact⟨c,rfl,h⟩
 |s::l,c,p,p',hl,h,hd=>by
  simp only[a64,bA]at hl;simp only[doO,a29]at hd;obtain⟨q,f,k⟩:=hd;obtain⟨d,a,b⟩:=c6E hi h hl.1 f;obtain⟨g,j1,j2⟩:=c3W hi l hl.2 b k;exact⟨g,by simp only[a19,doO,a,oB];exact j1,j2⟩
theorem c5n:∀(l m:List a0L)(c:List (List Int)),doO (l++m) c=(doO l c).bind (doO m)
 | [],m,c=>rfl
 |s::l,m,c=>by
  simp only[a36,doO];cases a3F 1 s c with
  |none=>rfl
  |some d=>exact c5n l m d
theorem c7H{α β:Type}(f:α→β):∀l:List α,l.flatMap (fun x=>[f x])=l.map f
 | []=>rfl
 |x::l=>by simp[c7H f l]
theorem c4S(b:a1l)(first:Nat)(s:first≤100){y:List a0L}(d:y.all (a2v 2)=true)(r:y.length≤10)(out:List a0L)(t:out.length≤1000):
  y0m a6g ((first:Int),(y.length:Int),(0:Int),out,y,b,())=some ((first:Int),out++y.map (b1f first),b,()):=by
 have:=a1P (f:=a6g) (β:=Int×(List a0L×(a1l×Unit))) y (fun i (a:List a0L)=>((first:Int),(y.length:Int),(i:Int),a,y,b,())) (fun a x=>.inl (a++[b1f first x])) (fun i a=>a.length=out.length+i) (fun a=>((first:Int),a,b,()))
  (fun i hi a g=>⟨fun e h=>by
   simp only[Sum.inl.injEq]at h;subst h;obtain⟨a1,j,l,m,o,p,q⟩:=a2T.1 (lA.1 d _ (a22 hi));have k:decide ((0:Int)≤(i:Int))=true:=by simp
   have c:List.getD y (a49 (i:Int)) ((0:Int),(0:Int),(0:Int),())=y[i]:=by rw[tN,lD,lG hi];rfl
   refine⟨?_,by simp[g];omega⟩;simp only[a6g,dlt hi,cT,k,a06,a0S (show a.length+1<2147483648 by omega),c,a0B (show i<1000000 by omega),b07];rw[a0C (n:=y[i].1+(first:Int)) (by omega),a0C (n:=y[i].2.1+(first:Int)) (by omega)]
   rfl,fun b hb=>by cases hb⟩)
  (fun a g=>by simp only[a6g,dge,cF]) (a:=out) (by simp)
 rw[b3V (fun x:a0L=>[b1f first x])]at this
 simp only[nZ]at this;rw[this];simp only[a8V,c7H]
theorem d4n{c:List (List Int)}{i:Nat}(h:i+2≤c.length):a78 i (a65 (i+2) c)=[c.getD i [],c.getD (i+1) []]:=by
 apply List.ext_getElem?;intro j;rw[a88]
 match j with
 |0=>rw[a43,if_pos (by omega),a71,lD,lG (by omega)];rfl
 | 1=>rw[a43,if_pos (by omega),lD,lD,lG (by omega)];rfl
 |j+2=>rw[a43,if_neg (by omega)];rfl
theorem c0L{b:a1l}{n:Nat}(a:a3q b.2.1 n)(q:n≤4096)(C:b.2.1.length≤8):∀(k j:Nat)(out:List a0L)(c:List (List Int)),j+k=5→out.length≤3*j→out.all (a2v (b.2.1.length:Int))=true→doO out b.2.1=some c→(∀i,2*j≤i→c.getD i []=b.2.1.getD i [])→3*j≤12∨b.2.1.length≤2*j→
  ∃l d,y0m a8A (((2*j:Nat):Int),out,b,())=some (l,())∧l.length≤16∧l.all (a2v (b.2.1.length:Int))=true∧doO l b.2.1=some d
 |k,j,out,c,hk,hol,hob,hdo,hag,h12=>by
  have g:wrap .i64 (((2*j:Nat):Int)+1)=((2*j+1:Nat):Int):=by rw[a0C (by omega)];omega
  by_cases hlt:2*j+1<b.2.1.length
  ·cases k with
   |zero=>omega
   |succ k=>
    have f:wrap .i64 (((2*j:Nat):Int)+2)=((2*j+2:Nat):Int):=by rw[a0C (by omega)];omega
    have hp:a3q [b.2.1.getD (2*j) [],b.2.1.getD (2*j+1) []] n:=fun r u=>by
     simp only[mC,a38,or_false]at u;rcases u with rfl|rfl;exact a6y a (by omega);exact a6y a (by omega)
    obtain⟨m,v,H,I⟩:=d1h hp rfl q;obtain⟨p',p⟩:=Option.isSome_iff_exists.1 I;have h:=(c2k v).2.2.2;have E:(a4K m).length≤3:=by
     match m,v with
     |0,_=>decide
     | 1,_=>decide
     | 2,_=>decide
     | 3,_=>decide
     | 4,_=>decide
    have D:c.length=b.2.1.length:=(b3p out a rfl hob hdo).2;obtain⟨d,A,K,L,M,N,B⟩:=c3W (i:=2*j) (c0:=c) (by omega) (a4K m) h ⟨rfl,rfl,hag _ (a94 _),hag _ (by omega),fun _ _ _=>rfl⟩ p;have o:=c4S b (2*j) (by omega) h (by omega) out (by omega);have e:decide (((2*j+1:Nat):Int)<((b.2.1.length:Nat):Int))=true:=by simp only[dT];omega
    have w:decide ((0:Int)≤((2*j+2:Nat):Int))=true:=by simp only[dT];omega
    have x:decide (((2*j+2:Nat):Int)≤((b.2.1.length:Nat):Int))=true:=by simp only[dT];omega
    have y:decide ((0:Int)≤((2*j:Nat):Int))=true:=by simp only[dT];omega
    have z:decide (((2*j:Nat):Int)≤((2*j+2:Nat):Int))=true:=by simp only[dT];omega
    rw[a0F (s':=(((2*(j+1):Nat):Int),out++(a4K m).map (b1f (2*j)),b,())) (by
     simp only[a8A,g,e,cT,f,w,x,a06,tN,y,z];rw[d4n (by omega),H];simp only[oB];rw[o];simp only[oB,f];rfl)]
    refine c0L a q C k (j+1) (out++(a4K m).map (b1f (2*j))) d (by omega) (by simp;omega) ?_ (by rw[c5n,hdo];exact A) (fun i hi=>by rw[B i (by omega) (by omega)];exact hag i (by omega)) (by omega);rw[List.all_append,hob,a85,lA];intro s F;obtain⟨t,G,rfl⟩:=a34.1 F;exact c8P (by omega) (lA.1 h t G)
  refine⟨out,c,a0E ?_,by omega,hob,hdo⟩;have e:decide (((2*j+1:Nat):Int)<((b.2.1.length:Nat):Int))=false:=by simp only[decide_eq_false_iff_not];omega
  simp only[a8A,g,e,cF]
termination_by k=>k
theorem c3X{b:a1l}(hb:a3i b):∃l h,a7y b=some l∧a4W l (b.2.1.length:Int)∧doO l b.2.1=some h:=by
 obtain⟨d,-⟩:=b6i hb;have c:=hb.2.2.2.1;obtain⟨l,h,g,f,k,a⟩:=c0L d hb.2.2.2.2.2.1 c 5 0 [] b.2.1 rfl (by simp) rfl rfl (fun _ _=>rfl) (by omega);refine⟨l,h,?_,⟨by have:=hb.2.2.1;omega,by omega,f,k⟩,a⟩;unfold a7y;simp only[a8m,decide_eq_true hb,oB,bT,cF];rw[show((2*0:Nat):Int)=0 from rfl]at g;rw[g];rfl
theorem c8Q{r:List Int}{n:Nat}(e:r.length=n∧r.all a0A=true)(m:1≤n)(o:n≤256){k:Int}(b:0≤k)(c:k≤3):
  ∃s,a5t (r,k)=some (s,0)∧SmallS s∧a2j s (n:Int)=some r∧a4S s (n:Int)≤((13+a0I r*n:Nat):Int):=by
 obtain⟨h,g⟩:=e;have d:=a6R (l:=r) (by omega) g;obtain⟨s,i,j,f,-,-,a,-⟩:=c6u (l:=r) (by omega) (by omega) g (d2p (by have:=d.1;omega)) b c;exact⟨s,i,j,by rw[h]at f;exact f,by rw[h]at a;exact a⟩
theorem c0M{effort:Int}(b:0≤effort)(j:effort≤3){rows:List (List Int)}{n:Nat}(l:a3q rows n)(c:1≤n)(i:n≤256)(p:rows.length≤8)(f:a1p):∀(rest d:List (List Int)) (done:List Sub),d++rest=rows→done.length=d.length→
  ∃outs,y0m a5u (effort,rows,(rows.length:Int),(d.length:Int),c0J,a8O f done,())=some (.inl (c0J,a8O f (done++outs),()))∧a7G (fun s=>a2j s (n:Int)) outs=some rest∧(∀s∈outs,SmallS s)∧a7G (fun r=>a5t (r,effort)) rest=some (outs.map fun s=>(s,0))
 | [],d,done,hd,hdl=>by
  have e:d=rows:=by simpa using hd
  subst e;refine⟨[],?_,rfl,by simp,rfl⟩;rw[a26];exact a0E (by simp only[a5u,dge,cF])
 |r::rest,d,done,hd,hdl=>by
  have h:d.length<rows.length:=by rw[←hd];simp
  have q:m0h rows (d.length:Int)=some r:=by rw[a0D h];subst hd;simp
  obtain⟨s,a,m,o,-⟩:=c8Q (l r (by rw[←hd];simp)) c i b j;have z0:((0:Int) != 0)=false:=rfl;have g:a5u (effort,rows,(rows.length:Int),(d.length:Int),c0J,a8O f done,())=some (.inl (effort,rows,(rows.length:Int),(((d++[r]).length:Nat):Int),c0J,a8O f (done++[s]),())):=by
   simp only[a5u,dlt h,cT,q,oB,a,z0,cF];rw[show(a8O f done).2.2.2.2.1=done from rfl,a0S (show done.length+1<2147483648 by omega),cT,a0B (show d.length<1000000 by omega)];rw[show(((d++[r]).length:Nat):Int)=((d.length+1:Nat):Int)from by simp];rfl
  rw[a0F g];obtain⟨outs,u,v,w,x⟩:=c0M b j l c i p f rest (d++[r]) (done++[s]) (by simpa using hd) (by simp[hdl]);refine⟨s::outs,?_,?_,fun t k=>?_,?_⟩;rw[u];simp;simp only[a7G,o,v,oB];rcases mC.1 k with rfl|k;exact m;exact w t k;simp only[a7G,a,x,oB,a19]
theorem c6F{b:a1l}(hb:a3i b)(k:a0W b≤256){rate start effort:Int}(p:1≤rate∧rate≤1048576)(E:0≤start∧start≤4194304-((a0W b:Nat):Int))(B:0≤effort)(C:effort≤3):
  ∃l g outs,a4E (b,(rate,((b.2.1.length:Nat):Int),b.1,()),start,effort)=some ((start,((a0W b:Nat):Int),(rate,((b.2.1.length:Nat):Int),b.1,()),l,outs,()),0)∧
   a4W l (b.2.1.length:Int)∧doO l b.2.1=some g∧a7G (fun s=>a2j s ((a0W b:Nat):Int)) outs=some g∧(∀s∈outs,SmallS s)∧a7G (fun r=>a5t (r,effort)) g=some (outs.map fun s=>(s,0))∧
   (effort=0→l=[])∧(0<effort→a7y b=some l):=by
 obtain⟨D,o⟩:=b6i hb;have j:=hb;obtain⟨z,A,G,H,I,K,-⟩:=j;have m:a3y (rate,((b.2.1.length:Nat):Int),b.1,()):=⟨p.1,p.2,by show(1:Int)≤((b.2.1.length:Nat):Int);omega,by show((b.2.1.length:Nat):Int)≤8;omega,z,A⟩;have f:∃l g,a4W l (b.2.1.length:Int)∧doO l b.2.1=some g∧(effort=0→l=[])∧(0<effort→a7y b=some l):=by
  by_cases he:effort=0
  exact⟨[],b.2.1,⟨by omega,by omega,by simp,rfl⟩,rfl,fun _=>rfl,fun h=>by omega⟩;obtain⟨l,c,n,q,F⟩:=c3X hb;exact⟨l,c,q,F,fun h=>absurd h he,fun _=>n⟩
 obtain⟨l,g,i,e,a,d⟩:=f;obtain⟨n,q⟩:=b3p l D rfl i.2.2.2 e;obtain⟨outs,j1,j2,j3,j4⟩:=c0M B C n (by omega) k (by omega) (start,((a0W b:Nat):Int),(rate,((b.2.1.length:Nat):Int),b.1,()),l,([]:List Sub),()) g [] [] rfl rfl;refine⟨l,g,outs,?_,i,e,j2,j3,j4,a,d⟩;have x:(b.1 != b.1)=false:=bne_self_eq_false _;have y:(((b.2.1.length:Nat):Int) != ((b.2.1.length:Nat):Int))=false:=bne_self_eq_false _;have t:decide (effort<0)=false:=by simp only[decide_eq_false_iff_not];omega
 have u:decide (effort > 3)=false:=by simp only[decide_eq_false_iff_not];omega
 have v:decide (start<0)=false:=by simp only[decide_eq_false_iff_not];omega
 have w:decide (start > wrap .i64 (4194304-((a0W b:Nat):Int)))=false:=by rw[a0C (by omega)];simp only[decide_eq_false_iff_not];omega
 have z0:((0:Int) != 0)=false:=rfl;unfold a4E;simp only[a8m,decide_eq_true hb,oB,bT,cF,a4t,decide_eq_true m,x,y,t,u,v,a6s,w];cases he:decide (effort > 0)with
 |true=>
  have:=d (by simpa using he)
  simp only[cT,this,oB,c2N,if_pos (show a2E b.2.1∧a4W l (b.2.1.length:Int)from⟨o,i⟩),e,b8W,z0,cF]
  erw[j1]
  rfl
 |false=>
  have:=a (by simp only[decide_eq_false_iff_not]at he;omega)
  subst this;simp only[cF,oB,c2N,if_pos (show a2E b.2.1∧a4W ([]:List a0L) (b.2.1.length:Int)from⟨o,i⟩),e,b8W,z0]
  erw[j1]
  rfl
theorem made{b:a1l}(hb:a3i b)(f:a0W b≤256){rate start effort:Int}(e:1≤rate∧rate≤1048576)(a:0≤start∧start≤4194304-((a0W b:Nat):Int))(j:0≤effort)(n:effort≤3):
  ∃g:Int×(a0L×(List a0L×(List Sub×Unit))),a4E (b,(rate,((b.2.1.length:Nat):Int),b.1,()),start,effort)=some ((start,g),0)∧g.1=((a0W b:Nat):Int)∧g.2.1=(rate,((b.2.1.length:Nat):Int),b.1,())∧
   g.2.2.1.length≤16∧g.2.2.2.1.length≤8∧(∀s∈g.2.2.2.1,SmallS s)∧∀h,0≤h∧h≤4194304-((a0W b:Nat):Int)→a9m (h,g)=some b:=by
 obtain⟨l,i,outs,m,k,c,d,o,-⟩:=c6F hb f e a j n;obtain⟨p,-⟩:=b6i hb;have t:=b8X d;have q:=(b3p l p rfl k.2.2.2 c).2;exact⟨_,m,rfl,rfl,k.2.2.1,by have:=hb.2.2.2.1;show outs.length≤8;omega,o,fun h r=>c6D hb k c d r e⟩
def dead(T:List Int)(a:Int):List Int×(Int×Int×Unit):=(T,a,(3:Int),())
def crE(s:BitVec 16):BitVec 16:=bif s.msb then(s <<< 1) ^^^ 32773#16 else s <<< 1
theorem c5o(s t:BitVec 16):crE (s ^^^ t)=crE s ^^^ crE t:=by
 unfold crE;rw[BitVec.msb_xor,BitVec.shiftLeft_xor_distrib];cases s.msb<;>cases t.msb<;>simp only[cT,cF,Bool.xor_true,Bool.xor_false,bT,a04];rw[a18];rw[a18,a18,a75 (t <<< 1)];rw[a18,a75 32773#16,a18,BitVec.xor_self,b02]
theorem c8R{s:BitVec 16}(h:crE s=0):s=0:=by
 unfold crE at h;cases hm:s.msb with
 |true=>
  rw[hm,cT]at h
  have:=congrArg (fun x=>a81 x 0) h
  simp at this
 |false=>
  rw[hm,cF]at h;refine a72 fun i hi=>?_
  by_cases h15:i=15
  subst h15;rw[a63]at hm;simpa using hm
  have:=congrArg (fun x=>a81 x (i+1)) h
  simp at this;simpa using this (by omega)
theorem d4o:crE 0=0:=by decide
theorem b9a{s:BitVec 16}:∀{n:Nat},rep crE n s=0→s=0
 |0,h=>h
 |n+1,h=>c8R (b9a (n:=n) h)
theorem d0C:∀n:Nat,rep crE n 0=0
 |0=>rfl
 |n+1=>by
  show rep crE n (crE 0)=0;rw[d4o,d0C n]
def crB(b:Bool):BitVec 16:=bif b then 32768#16 else 0#16
def crS(s:BitVec 16)(b:Bool):BitVec 16:=crE (s ^^^ crB b)
def crT:List Bool→BitVec 16
 | []=>0#16
 |b::w=>crB b ^^^ (crT w >>> 1)
theorem d1i(b:Bool)(j:Nat):(crB b).getLsbD j=(b&&decide (j=15)):=by
 cases b with
 |false=>simp[crB]
 |true=>
  simp only[crB,cT,a85];rw[show(32768#16)=BitVec.ofNat 16 (2^15)from rfl,BitVec.getLsbD_ofNat,Nat.testBit_two_pow]
  by_cases h:j=15
  subst h;rfl;rw[decide_eq_false (by omega:¬ (15=j)),decide_eq_false h,Bool.and_false]
theorem b7J:∀(w:List Bool)(j:Nat),(crT w).getLsbD j=(decide (j<16)&&w.getD (15-j) false)
 | [],j=>by simp[crT]
 |b::w,j=>by
  rw[crT,BitVec.getLsbD_xor,d1i,a39,b7J w]
  by_cases h:j=15
  subst h;simp
  by_cases h2:j<16
  rw[show 15-j=(15-(1+j))+1 from by omega,a86];simp[h,h2,show 1+j<16 from by omega];simp[h,h2,show ¬ (1+j<16)from by omega]
theorem c8S{w:List Bool}(h:w.length≤15):crE (crT w >>> 1)=crT w:=by
 have f:(crT w >>> 1).msb=false:=by
  rw[a63,a39,b7J];simp
 unfold crE;rw[f,cF];refine a72 fun i hi=>?_
 rw[BitVec.getLsbD_shiftLeft,a39];cases i with
 |zero=>
  have g:(crT w).getLsbD 0=false:=by
   rw[b7J,lD,List.getElem?_eq_none (by omega)];rfl
  rw[g];simp
 |succ i=>rw[show 1+(i+1-1)=i+1 from by omega];simp[hi]
theorem d2v:∀(w:List Bool)(s:BitVec 16),w.length≤16→w.foldl crS s=rep crE w.length (s ^^^ crT w)
 | [],s,_=>by simp[crT,rep]
 |b::w,s,h=>by
  rw[lC]at h;rw[a76,d2v w _ (by omega),crT,←a18];show _=rep crE w.length (crE (s ^^^ crB b ^^^ (crT w >>> 1)));rw[c5o,c8S (by omega)];rfl
theorem c3Y{α:Type}(f g:α→Bool):∀(L:List α)(s t:BitVec 16),(L.map fun j=>xor (f j) (g j)).foldl crS (s ^^^ t)=(L.map f).foldl crS s ^^^ (L.map g).foldl crS t
 | [],_,_=>rfl
 |a::L,s,t=>by
  simp only[a19,a76];rw[←c3Y f g L];congr 1;unfold crS;rw[←c5o];congr 1
  have:crB (xor (f a) (g a))=crB (f a) ^^^ crB (g a):=by cases f a<;>cases g a<;>rfl
  rw[this];simp only[a18];rw[←a18 t,a75 t,a18]
theorem b6j:∀(n:Nat)(s:BitVec 16),(a33 n false).foldl crS s=rep crE n s
 |0,_=>rfl
 |n+1,s=>by
  rw[List.replicate_succ,a76,b6j n];show rep crE n (crE (s ^^^ 0#16))=rep crE n (crE s);rw[b02]
theorem d4p{w:List Bool}(h:w.length≤16)(f:true∈w)(k m:Nat):(a33 k false++(w++a33 m false)).foldl crS 0≠0:=by
 rw[a50,a50,b6j,b6j,d0C,d2v w _ h];intro e;have e:=b9a (b9a e);have e:crT w=0:=by simpa using e
 obtain⟨i,hi,g⟩:=List.mem_iff_getElem.1 f
 have:=b7J w (15-i)
 rw[e,show 15-(15-i)=i from by omega,lD,lG hi,g]at this;simp at this;omega
def byb(c:Int):List Bool:=[7,6,5,4,3,2,1,0].map fun i=>c.toNat.testBit i
def b7K(p:List Int):List Bool:=p.flatMap byb
def d2w(c:Int):Prop:=0≤c∧c<256
def a9S(p:List Int)(j:Nat):Bool:=(p.getD (j / 8) 0).toNat.testBit (7-j%8)
theorem b9b:∀p:List Int,b7K p=(a02 (8*p.length)).map (a9S p)
 | []=>rfl
 |c::p=>by
  have e:b7K (c::p)=byb c++b7K p:=rfl;rw[e,b9b p,lC,show 8*(p.length+1)=8+8*p.length from by omega,a48,pA,a35];congr 1;refine a28 fun j _=>?_
  show a9S p j=a9S (c::p) (8+j);unfold a9S;rw[show(8+j) / 8=j / 8+1 from by omega,a86,show(8+j)%8=j%8 from by omega]
structure Turn (b k i:Nat) (p0 p:List Int) (sm:Bool):Prop where
 len:p.length=p0.length
 ok:∀c∈p,d2w c
 bit:∀j,a9S p j=xor (a9S p0 j) (decide (k≤j∧j<k+i)&&b.testBit (j-k))
 smk:sm=true↔∃t,t<i∧b.testBit t=true
 pre:p.take (k / 8)=p0.take (k / 8)
 same:sm=false→p=p0
theorem turned{b k:Nat}{p0 q:List Int}{s:Bool}(w:k<8*p0.length)(i:(b7K p0).foldl crS 0=0)(g:Turn b k (min 16 (8*p0.length-k)) p0 q s)(u:s=true):(b7K q).foldl crS 0≠0:=by
 obtain⟨n,r⟩:∃n,min 16 (8*p0.length-k)=n:=⟨_,rfl⟩;rw[r]at g;have e:b7K q=(a02 (8*p0.length)).map fun j=>xor (a9S p0 j) (decide (k≤j∧j<k+n)&&b.testBit (j-k)):=by
  rw[b9b,g.len];exact a28 fun j _=>g.bit j
 have h:=c3Y (a9S p0) (fun j=>decide (k≤j∧j<k+n)&&b.testBit (j-k)) (a02 (8*p0.length)) 0 0;have a:∀x:BitVec 16,(0:BitVec 16) ^^^ x=x:=fun _=>BitVec.zero_xor;rw[a,←e,←b9b,i,a]at h;rw[h];obtain⟨m,p⟩:∃m,8*p0.length=k+(n+m):=⟨8*p0.length-k-n,by omega⟩;rw[p,a48,a48,pA,pA,pA,a35,a35,a35];have c:(a02 k).map (fun j=>decide (k≤j∧j<k+n)&&b.testBit (j-k))=a33 k false:=by
  rw[a79];refine⟨by simp,fun x f=>?_⟩;obtain⟨j,o,rfl⟩:=a34.1 f
  grind
 have d:(a02 m).map (((fun j=>decide (k≤j∧j<k+n)&&b.testBit (j-k))∘(k+·))∘(n+·))=a33 m false:=by
  rw[a79];refine⟨by simp,fun x f=>?_⟩;obtain⟨j,o,rfl⟩:=a34.1 f
  grind
 rw[c,d];refine d4p (by simp;omega) ?_ k m;obtain⟨t,l,v⟩:=g.smk.1 u;refine a34.2 ⟨t,a23.2 l,?_⟩;simp_all
theorem c3Z(f:a0L):b2a f=some (decide (a3y f)):=by
 unfold b2a a3y
 grind
theorem c7I(l:List Int):b4f (l,l)=some true:=by
 simp_all[b4f]
def prm:Nat:=2305843009213693951
def prs(h:Nat)(l:List Nat):Nat:=l.foldl (fun h c=>(h*1000003+(c+1))%prm) h
theorem d1j(h:Nat):prs h []=h:=rfl
theorem c4a(h c:Nat)(l:List Nat):prs h (c::l)=prs ((h*1000003+(c+1))%prm) l:=rfl
theorem c6G(h:Nat)(a b:List Nat):prs h (a++b)=prs (prs h a) b:=a50 ..
theorem c4b{h:Nat}(g:h<prm)(l:List Nat):prs h l<prm:=by
 induction l generalizing h with
 |nil=>exact g
 |cons c l ih=>exact ih (a08 _ (by decide))
theorem b6k(a b c:Nat):(a%prm*b+c)%prm=(a*b+c)%prm:=by
 rw[a54,a31,a95,←a31,←a54]
theorem c4c(a b:Nat):(a+b%prm)%prm=(a+b)%prm:=by
 rw[a54,a95,←a54]
theorem c8T(l:List Nat)(h:Nat):prs h l%prm=(h*1000003^l.length+prs 0 l)%prm:=by
 induction l generalizing h with
 |nil=>simp[d1j]
 |cons c l ih=>
  rw[c4a,c4a,ih,b6k,←c4c (h*_),ih ((0*1000003+(c+1))%prm),b6k,c4c,lC,a45];congr 1;rw[a73,a46,a41,a66,a55,a47 (1000003^_) 1000003]
theorem c8U(a b:List Nat):prs 0 (a++b)=(prs 0 a*(1000003^b.length%prm)+prs 0 b)%prm:=by
 rw[c6G,←a40 (c4b (c4b (by decide) a) b),c8T,a47 (prs 0 a) (_%prm),b6k,a47 (prs 0 a)]
def pwr:Nat→Nat→Nat→Nat→Nat
 |0,_,p,_=>p
 |k+1,n,p,s=>if n=0 then p else pwr k (n / 2) (if n%2=1 then p*s%prm else p) (s*s%prm)
theorem c8V(a b:Nat):a%prm*b%prm=a*b%prm:=b6k a b 0
theorem c4d(a n:Nat):(a%prm)^n%prm=a^n%prm:=by rw[←Nat.pow_mod]
theorem d2x(k n p s:Nat)(h:n<2^k)(hp:p<prm):pwr k n p s=p*s^n%prm:=by
 induction k generalizing n p s with
 |zero=>rw[show n=0 by simp at h;exact h,pwr,a92,a96,a40 hp]
 |succ k ih=>
  rw[pwr]
  by_cases h0:n=0
  rw[if_pos h0,h0,a92,a96,a40 hp];rw[if_neg h0];have g:n / 2<2^k:=by rw[a45]at h;omega
  have f:(s*s)^(n / 2)=s^(2*(n / 2)):=by rw[Nat.pow_mul,Nat.pow_two]
  by_cases h1:n%2=1
  rw[if_pos h1,ih _ _ _ g (a08 _ (by decide)),a31,c4d,f,←a31,c8V,a55,←Nat.pow_succ'];congr 3;omega;rw[if_neg h1,ih _ _ _ g hp,a31,c4d,f,←a31];congr 3;omega
theorem c7J{u d y1 y0 q r:Nat}(g:u=q*y1+r)(h:q*y0≤4294967296*r+d):q*(y1*4294967296+y0)≤u*4294967296+d:=by
 rw[g,a97,a41,←a55];omega
theorem d2y{u d y1 y0 q r:Nat}(g:u=q*y1+r)(h:4294967296*r+d<q*y0):u*4294967296+d<q*(y1*4294967296+y0):=by
 rw[g,a97,a41,←a55];omega
theorem d1k(u d e y:Nat):((u*4294967296+d)%y*4294967296+e)%y=((u*4294967296+d)*4294967296+e)%y:=by
 rw[a54,a31,a95,←a31,←a54]
theorem c7K(n k y:Nat)(h:0<k):n*k%(y*k) / k=n%y:=by
 rw[Nat.mul_mod_mul_right,a44 _ h]
def c32(s:BitVec 32):BitVec 32:=bif s.getLsbD 0 then(s >>> 1) ^^^ 0xedb88320#32 else s >>> 1
def c8W:Nat→BitVec 32→BitVec 32
 |0,s=>s
 |k+1,s=>c8W k (c32 s)
def c8X(s x:BitVec 32):BitVec 32:=c8W 8 (s ^^^ x)
def d2z(s:BitVec 32)(l:List (BitVec 32)):BitVec 32:=l.foldl c8X s
def a9I(d:List Int)(ch c:Nat):List Int:=((a02 d.length).filter fun i=>i%ch==c).map fun i=>d.getD i 0
def a2F(d:List Int)(ch:Nat):List (List Int):=(a02 ch).map (a9I d ch)
def wv(n:Nat)(rows:List (List Int)):List Int:=(a02 n).flatMap fun i=>rows.map fun r=>r.getD i 0
theorem c8Y{α:Type}{a b:List α}{i:Nat}{d:α}(h:i<a.length):(a++b).getD i d=a.getD i d:=by
 rw[lD,List.getElem?_append_left h,←lD]
theorem c7L(d:List Int)(x:Int)(ch c:Nat):a9I (d++[x]) ch c=if d.length%ch=c then a9I d ch c++[x]else a9I d ch c:=by
 unfold a9I;rw[lN,a07,a42,a62,pA];have h:((a02 d.length).filter fun i=>i%ch==c).map (fun i=>(d++[x]).getD i 0)=((a02 d.length).filter fun i=>i%ch==c).map fun i=>d.getD i 0:=
  a28 fun i hi=>c8Y (a23.1 (b03.1 hi).1)
 rw[h]
 by_cases e:d.length%ch=c
 rw[if_pos e];simp[e];rw[if_neg e];simp[e]
theorem c4e(c:Nat):∀ch,(a02 ch).filter (·==c)=if c<ch then[c]else[]
 |0=>rfl
 |ch+1=>by
  rw[a42,a62,c4e c ch]
  by_cases e:ch=c
  subst e;simp
  have:(c<ch+1)↔c<ch:=by omega
  simp[e,this]
theorem c4f{ch c:Nat}(h:c<ch):∀n,(a02 (n*ch)).filter (fun i=>i%ch==c)=(a02 n).map fun i=>i*ch+c
 |0=>by simp
 |n+1=>by
  rw[Nat.succ_mul,a48,a62,c4f h n,a42,pA,List.filter_map];congr 1;have e:∀i∈a02 ch,((fun i=>i%ch==c)∘fun x=>n*ch+x) i=(i==c):=fun i hi=>by
   have:=a23.1 hi
   simp only[Function.comp];rw[a47 n ch,Nat.mul_add_mod,a40 this]
  rw[List.filter_congr e,c4e,if_pos h];rfl
theorem c2l{d:List Int}{n ch c:Nat}(g:d.length=n*ch)(h:c<ch):a9I d ch c=(a02 n).map fun i=>d.getD (i*ch+c) 0:=by
 unfold a9I;rw[g,c4f h,a35];rfl
theorem d2A(f:Nat→Int)(ch:Nat):∀n,(a02 n).flatMap (fun i=>(a02 ch).map fun c=>f (i*ch+c))=(a02 (n*ch)).map f
 |0=>by simp
 |n+1=>by
  rw[a42,a60,d2A f ch n,Nat.succ_mul,a48,pA,a35];simp[Function.comp_def]
theorem c6H(d:List Int):(a02 d.length).map (fun i=>d.getD i 0)=d:=
 a68 (by simp) fun i g h=>by simp[lD,h]
theorem c1v{n i:Nat}(f:Nat→Int)(h:i<n):((a02 n).map f).getD i 0=f i:=by
 rw[lD,a51,a61 h];rfl
theorem c6I{α β:Type}{l:List α}{f g:α→List β}(h:∀a∈l,f a=g a):l.flatMap f=l.flatMap g:=by
 rw[a69,a69,a28 h]
theorem d1l{d:List Int}{n ch:Nat}(h:d.length=n*ch):wv n (a2F d ch)=d:=by
 have:wv n (a2F d ch)=(a02 n).flatMap fun i=>(a02 ch).map fun c=>d.getD (i*ch+c) 0:=
  c6I fun i hi=>by
   unfold a2F;rw[a35];refine a28 fun c g=>?_
   show(a9I d ch c).getD i 0=_;rw[c2l h (a23.1 g),c1v _ (a23.1 hi)]
 rw[this,d2A (fun i=>d.getD i 0),←h,c6H]
theorem d1m(y:Int):bits .i64 .and y 255=y%256:=by
 have h:((a00 64 y) &&& (a00 64 255)).toNat=(y%18446744073709551616).toNat%256:=by
  rw[a53,a24];have e:(a00 64 255).toNat=2^8-1:=by decide
  rw[e,a30];rfl
 show wrap .i64 ((((a00 64 y) &&& (a00 64 255)).toNat:Nat):Int)=_;rw[h,a0C (by omega)];omega
theorem d7Y(x:Int){j:Nat}(g:j<8):A0i .i64 x ((8*j:Nat):Int)=x.fdiv (256^j):=by
 have h:min (a49 ((8*j:Nat):Int)) (IntKind.bits .i64)=8*j:=by
  simp only[tN,IntKind.bits];omega
 unfold A0i;rw[h,show(256:Int)=2^8 from rfl,←Int.pow_mul]
def smB(k:Nat)(x:Int):List Int:=leB k (x%18446744073709551616).toNat
theorem d4q(x:Int):wrap .u64 x=((x%18446744073709551616).toNat:Int):=by
 simp only[wrap,IntKind.bits,IntKind.signed]
 simp
 omega
theorem d1n(x:Int)(j:Nat)(g:j<8):((((x%18446744073709551616).toNat) / 256^j%256:Nat):Int)=x.fdiv (256^j)%256:=by
 have h:j=0∨j=1∨j=2∨j=3∨j=4∨j=5∨j=6∨j=7:=by omega
 rcases h with rfl|rfl|rfl|rfl|rfl|rfl|rfl|rfl<;>rw[a25 _ (by decide)]<;>simp only[Nat.reducePow,Int.reducePow]<;>omega
theorem b1g(k:Nat)(x:Int):(smB k x).length=k:=a8L _ _
theorem c8Z(k:Nat)(h:k<8)(x:Int):smB (k+1) x=smB k x++[x.fdiv (256^k)%256]:=by
 unfold smB;rw[b5F,d1n x k h]
theorem b7v:∀(k n:Nat),∀b∈leB k n,0≤b∧b<256
 |0,_=>by simp[leB]
 |k+1,n=>fun b hb=>by
  rcases mC.1 hb with rfl|hb;omega;exact b7v k _ b hb
def a2a(w:Int)(l:List Int):List Int:=l.flatMap (smB ((w+7) / 8).toNat)
theorem c4g{k:Nat}{g:Int→List Int}(h:∀x,(g x).length=k):∀(l:List Int),(l.flatMap g).length=l.length*k
 | []=>by simp
 |x::l=>by
  rw[a32,lN,h,c4g h l,lC,a41];omega
theorem c0N{w:Int}(hw:4≤w∧w≤24)(l:List Int):(a2a w l).length≤3*l.length:=by
 unfold a2a;rw[c4g (b1g _)]
 have:((w+7) / 8).toNat≤3:=by omega
 calc l.length*((w+7) / 8).toNat≤l.length*3:=a87 _ this
  _=3*l.length:=a47 ..
theorem c6J(w:Int)(a b:List Int):a2a w (a++b)=a2a w a++a2a w b:=a60
theorem b7w(w:Int)(l:List Int):∀b∈a2a w l,0≤b∧b<256:=fun b hb=>by
 obtain⟨x,-,h⟩:=a70.1 hb;exact b7v _ _ b h
theorem d1o(b x n:Int)(i:Int)(l:List Int){k:Nat}(e:k≤8)(out:List Int)(m:out.length<100000000):
  y0m a4z (b,(k:Int),x,l,n,i,(k:Int),(0:Int),out,())=some (b,(k:Int),l,n,i,out++smB k x,()):=by
 have h:=a1w (f:=a4z) (fun j=>(b,(k:Int),x,l,n,i,(k:Int),(j:Int),out++smB j x,()))
  k (b:=(b,(k:Int),l,n,i,out++smB k x,())) (fun j d=>by
   have c:wrap .i64 ((8:Int)*(j:Int))=((8*j:Nat):Int):=by rw[a0C (by omega)];omega
   have g:decide (((8*j:Nat):Int)<0)=false:=by simp;omega
   simp only[a4z];rw[dlt d,a0S (show(out++smB j x).length+1<2147483648 by rw[lN,b1g];omega),c,g,a0B (show j<1000000 by omega),d1m,d7Y x (by omega),a7m,Int.emod_emod_of_dvd _ (by decide),c8Z j (by omega),←aA];rfl) (by simp only[a4z,dge,cF])
 have a:out++smB 0 x=out:=by simp[smB,leB]
 simp only[a]at h;exact h
theorem c7M{w:Int}(h:4≤w∧w≤24):wrap .i64 (a20 (wrap .i64 (w+(7:Int))) (8:Int))=((((w+7) / 8).toNat:Nat):Int):=by
 rw[a0C (n:=w+7) (by omega),Int.tdiv_eq_ediv_of_nonneg (by omega),a0C (by omega)];omega
theorem c2m{w:Int}(g:4≤w∧w≤24)(l:List Int)(c:l.length≤1000000){k:Nat}(a:k≤3):∀(rest done out:List Int),done++rest=l→rest.all (fun x=>a1d x w)=true→out.length+3*rest.length<100000000→
  y0m a6G (w,(k:Int),l,(l.length:Int),(done.length:Int),out,())=some (.inl (out++rest.flatMap (smB k),()))
 | [],done,out,hd,_,_=>by
  obtain rfl:done=l:=by simpa using hd
  rw[a0E (b:=Sum.inl (out,())) (by simp only[a6G,dge,cF])]
  simp
 |x::rest,done,out,hd,hf,ho=>by
  have h:done.length<l.length:=by rw[←hd];simp
  have f:m0h l (done.length:Int)=some x:=by rw[a0D h];subst hd;simp
  simp only[a64,bA]at hf;simp only[lC]at ho;rw[a0F (s':=(w,(k:Int),l,(l.length:Int),(((done++[x]).length:Nat):Int),out++smB k x,())) (by
   simp only[a6G,dlt h,cT,f,oB,b3X g,hf.1,bT,cF,d1o w x _ _ l (show k≤8 by omega) out (by omega),a0B (show done.length<1000000 by omega)]
   simp)]
  rw[c2m g l c a rest (done++[x]) (out++smB k x) (by simpa using hd) hf.2 (by rw[lN,b1g];omega)]
  simp
theorem c1w{w:Int}(g:4≤w∧w≤24){l:List Int}(c:l.length≤1000000)(b:l.all (fun x=>a1d x w)=true):a9t (l,w)=some (a2a w l,0):=by
 have f:decide (w<(4:Int))=false:=by simp;omega
 have a:decide (w > (24:Int))=false:=by simp;omega
 have h:=c2m g l c (k:=((w+7) / 8).toNat) (by omega) l [] [] rfl b (by simp;omega);rw[a05]at h;simp only[a9t,f,cF,oB,a,c7M g]
 erw[h]
 rfl
theorem c4h{n k:Nat}(l:k≤8):b0T ((n:Int),(k:Int))=some (leB k n):=by
 simp only[b0T];have h:=a1w (f:=a9x) (fun i=>((n:Int),(k:Int),(i:Int),leB i n,())) k (b:=(leB k n,())) (fun i hi=>by
   have g:decide ((i:Int)<(8:Int))=true:=by simp;omega
   have c:wrap .u64 (wrap .i64 ((8:Int)*(i:Int)))=((8*i:Nat):Int):=by
    rw[a0C (by omega),a0K (by omega)];omega
   have a:decide (((8*i:Nat):Int)<0)=false:=by simp;omega
   have d:wrap .u8 (A0i .u64 (n:Int) ((8*i:Nat):Int))=((n / 256^i%256:Nat):Int):=by
    have e:A0i .u64 (n:Int) ((8*i:Nat):Int)=((n / 256^i:Nat):Int):=by
     have j:min (a49 ((8*i:Nat):Int)) (IntKind.bits .u64)=8*i:=by
      simp only[tN,IntKind.bits];omega
     unfold A0i;rw[j,show(256:Nat)=2^8 from rfl,←Nat.pow_mul];rw[a25 _ (by exact_mod_cast Nat.zero_le _)]
     norm_cast
    rw[e,a7m];omega
   simp only[a9x];rw[dlt hi,g,a0S (show(leB i n).length+1<2147483648 by rw[a8L];omega),c,a,a0B (show i<1000000 by omega),d,b5F];rfl) (by simp only[a9x,dge,cF])
 simp only[leB]at h;rw[show((0:Nat):Int)=0 from rfl]at h;rw[h];rfl
theorem b6K{w:Int}(g:4≤w∧w≤24)(l:List Int)(k:l.length≤10000):∀(rest done out:List Int),done++rest=l→rest.all (fun x=>a1d x w)=true→out.length+3*rest.length<100000000→
  y0m b0U (l,w,(done.length:Int),out,())=some (.inl (out++a2a w rest,()))
 | [],done,out,hd,_,_=>by
  obtain rfl:done=l:=by simpa using hd
  rw[a0E (b:=Sum.inl (out,())) (by simp only[b0U,dge,cF])];simp[a2a]
 |x::rest,done,out,hd,hf,ho=>by
  have h:done.length<l.length:=by rw[←hd];simp
  have f:m0h l (done.length:Int)=some x:=by rw[a0D h];subst hd;simp
  simp only[a64,bA]at hf;simp only[lC]at ho;have a:b0T (wrap .u64 x,((((w+7) / 8).toNat:Nat):Int))=some (smB ((w+7) / 8).toNat x):=by rw[d4q];exact c4h (by omega)
  rw[a0F (s':=(l,w,(((done++[x]).length:Nat):Int),out++smB ((w+7) / 8).toNat x,())) (by
   simp only[b0U,dlt h,cT,f,oB,b3Y g,hf.1,bT,cF,c7M g,a,a0S (show out.length+(smB ((w+7) / 8).toNat x).length<2147483648 by rw[b1g];omega),a0B (show done.length<1000000 by omega)]
   simp)]
  rw[b6K g l k rest (done++[x]) (out++smB ((w+7) / 8).toNat x) (by simpa using hd) hf.2 (by rw[lN,b1g];omega)];simp[a2a]
theorem c4T{w:Int}(c:4≤w∧w≤24){l:List Int}(b:l.length≤10000)(a:l.all (fun x=>a1d x w)=true):b4g (l,w)=some (a2a w l,0):=by
 have g:b3b w=some true:=by
  simp only[b3b];have f:decide (w≥4)=true:=by simp;omega
  have k:decide (w≤24)=true:=by simp;omega
  rw[f,k];rfl
 have h:=b6K c l b l [] [] rfl a (by simp;omega);rw[a05]at h;simp only[b4g,g,oB,bT,cF]
 erw[h]
 rfl
@[reducible] def Pc:Type:=a1p×(a1l×List Int)
def c4i(fm:a0L)(st:Nat)(x:Pc):Prop:=
 x.1.1=(st:Int)∧x.1.2.1=((a0W x.2.1:Nat):Int)∧x.1.2.2.1=fm∧a3K x.1=some (x.2.1,0)∧a5I x.1=some (x.2.2,0)∧
  (∀R:List Int,R.length≤200000000→a6k (x.2.2++R)=some (x.1,(x.2.2.length:Int),(0:Int)))∧a3i x.2.1∧x.2.1.1=fm.2.2.1∧a0W x.2.1≤64∧1≤x.2.2.length∧x.2.2.length≤700800
def a2V(fm:a0L):Nat→List Pc→Prop
 |_,[]=>True
 |st,x::xs=>c4i fm st x∧a2V fm (st+a0W x.2.1) xs
def a3f:Nat→Nat→List Pc→List (Int×Int×Unit)
 |_,_,[]=>[]
 |st,off,x::xs=>((st:Int),(off:Int),())::a3f (st+a0W x.2.1) (off+x.2.2.length) xs
def a1k(xs:List Pc):Nat:=(xs.map fun x=>a0W x.2.1).sum
def a0X(xs:List Pc):List Int:=xs.flatMap fun x=>x.2.2
def wvB(b:a1l):List Int:=wv (a0W b) b.2.1
def a5F(xs:List Pc):List Int:=xs.flatMap fun x=>wvB x.2.1
def prI(l:List Int):Nat:=prs 0 (l.map a49)
def a2D(fm:a0L)(xs:List Pc):Nat:=prI (a2a fm.2.2.1 (a5F xs))
theorem c0O(l:List Int):prI l<prm:=c4b (by decide) _
theorem d1p(a b:List Int):prI (a++b)=(prI a*(1000003^b.length%prm)+prI b)%prm:=by
 unfold prI;rw[pA,c8U,a01]
theorem a5G(h:List Pc)(x:Pc):a1k (h++[x])=a1k h+a0W x.2.1:=by simp[a1k]
theorem a9n(h:List Pc)(x:Pc):a0X (h++[x])=a0X h++x.2.2:=by simp[a0X]
theorem b3j(h:List Pc)(x:Pc):a5F (h++[x])=a5F h++wvB x.2.1:=by simp[a5F]
theorem c7N{rows:List (List Int)}:∀n,(wv n rows).length=n*rows.length:=fun n=>by
 unfold wv;rw[List.length_flatMap];simp only[a01];rw[List.map_const',List.sum_replicate_nat,a67]
theorem c2n{fm:a0L}:∀{xs:List Pc}{st:Nat}{x:Pc},a2V fm st xs→c4i fm (st+a1k xs) x→a2V fm st (xs++[x])
 | [],st,x,_,h=>⟨by simpa[a1k]using h,trivial⟩
 |y::xs,st,x,h,h2=>⟨h.1,c2n h.2 (by simpa[a1k,a66]using h2)⟩
theorem b4X:∀(xs:List Pc)(st off:Nat)(x:Pc),a3f st off (xs++[x])=a3f st off xs++[(((st+a1k xs:Nat):Int),((off+(a0X xs).length:Nat):Int),())]
 | [],st,off,x=>by simp[a3f,a1k,a0X]
 |y::xs,st,off,x=>by
  simp only[a36,a3f,b4X xs];simp[a1k,a0X,a66]
theorem a8P:∀(xs:List Pc)(st off:Nat),(a3f st off xs).length=xs.length
 | [],_,_=>rfl
 |_::xs,_,_=>congrArg (·+1) (a8P xs _ _)
theorem b6l{fm:a0L}:∀{xs:List Pc}{st:Nat},a2V fm st xs→(a0X xs).length≤700800*xs.length
 | [],_,_=>by simp[a0X]
 |x::xs,st,h=>by
  have:=b6l h.2
  have:=h.1.2.2.2.2.2.2.2.2.2.2
  simp only[a0X,a32,lN,lC]at *;omega
theorem c9a{f:a1p}{b:a1l}(k:∀s∈f.2.2.2.2.1,SmallS s)(h:a9m f=some b):∃L,L.length≤5600000∧a5I f=some (a3W f L,0)∧∀R:List Int,R.length≤200000000→a6k (a3W f L++R)=some (f,((a3W f L).length:Int),(0:Int)):=by
 obtain⟨g,e,i⟩:=b7u h;have a:a4g f=some true:=by rw[d2t k,h];rfl
 have j:f.2.2.2.2.1.length≤8:=by have:=g.1.2.2.2.1;omega
 obtain⟨p,m,n,d,q,o⟩:=c3S a g j (fun s c=>⟨k s c,i s c⟩);exact⟨a0M p,d,o,fun R l=>c2H a g e m n d l⟩
theorem d1q{b:a1l}{fm:a0L}(hb:a3i b)(i:a0W b≤64)(j:1≤fm.1∧fm.1≤1048576)(d:fm.2.1=((b.2.1.length:Nat):Int))(h:fm.2.2.1=b.1){st:Nat}(q:st+a0W b≤4194304){effort:Int}(m:0≤effort)(n:effort≤3):
  ∃g p,a4E (b,fm,(st:Int),effort)=some (((st:Int),g),0)∧c4i fm st (((st:Int),g),b,p):=by
 obtain⟨rate,ch,bits,u⟩:=fm;cases u;simp only at j d h;subst d h;obtain⟨g,r,s,t,x,y,l,v⟩:=made hb (by omega) (rate:=rate) (start:=(st:Int)) (effort:=effort) j (by omega) m n;have a:=v (st:Int) (by omega);obtain⟨L,o,e,c⟩:=c9a (f:=((st:Int),g)) l a;have k:=c3V (f:=((st:Int),g)) l;rw[a]at k;have w:=b8U (b7u a).1 o;refine⟨g,a3W ((st:Int),g) L,r,rfl,s,t,k,e,c,hb,rfl,i,?_,?_⟩;show 1≤(a3W _ L).length;simp only[a3W,lN,lC];omega;show(a3W _ L).length≤700800;simp only[a3W,lN,lC,a05];omega
theorem c4j{d:List Int}{n ch c:Nat}(g:d.length=n*ch)(h:c<ch):(a9I d ch c).length=n:=by rw[c2l g h];simp
theorem c9b{d:List Int}{ch c:Nat}{x:Int}(h:x∈a9I d ch c):x∈d:=by
 unfold a9I at h;obtain⟨i,hi,rfl⟩:=a34.1 h;have hi:=a23.1 (b03.1 hi).1;rw[lD,lG hi];exact a22 hi
def a8n(w:Int)(d:List Int)(ch:Nat):a1l:=(w,a2F d ch,())
theorem b9c{w:Int}{d:List Int}{n ch:Nat}(g:d.length=n*ch)(h:0<ch):a0W (a8n w d ch)=n:=by
 obtain⟨k,rfl⟩:∃k,ch=k+1:=⟨ch-1,by omega⟩;show((a2F d (k+1)).headD []).length=n;unfold a2F;rw[List.range_succ_eq_map];exact c4j g (by omega)
theorem d1r{w:Int}{d:List Int}{n ch:Nat}(k:d.length=n*ch)(h:1≤ch∧ch≤8)(a:1≤n∧n≤4096)(b:4≤w∧w≤24)(e:d.all (fun x=>a1d x w)=true):a3i (a8n w d ch):=by
 have f:=b9c (w:=w) k (show 0<ch by omega);have g:(a2F d ch).length=ch:=by simp[a2F]
 refine⟨b.1,b.2,by rw[show(a8n w d ch).2.1.length=ch from g];exact h.1,by rw[show(a8n w d ch).2.1.length=ch from g];exact h.2,by rw[f];exact a.1,by rw[f];exact a.2,?_⟩;rw[f];refine lA.2 fun r i=>?_
 obtain⟨c,g,rfl⟩:=a34.1 (show r∈(a02 ch).map (a9I d ch)from i);rw[bA,dT];exact⟨c4j k (a23.1 g),lA.2 fun x j=>lA.1 e x (c9b j)⟩
theorem d1s{w:Int}{d:List Int}{n ch:Nat}(g:d.length=n*ch)(h:0<ch):wvB (a8n w d ch)=d:=by
 unfold wvB;rw[b9c g h];exact d1l g
def b4Y(n:Nat)(l:List Int):Nat:=l.foldl (fun n c=>n*256+c.toNat) n
def a7H(k n:Nat):List Int:=(leB k n).reverse
theorem b9d:∀(k n:Nat),n<256^k→b4Y 0 (a7H k n)=n
 |0,n,h=>by simp at h;subst h;rfl
 |k+1,n,h=>by
  have g:=b9d k (n / 256) (by rw[a80 (by omega)];rw[a45]at h;exact h);unfold b4Y a7H at *;rw[leB,List.reverse_cons,a50,g]
  simp
  omega
theorem a9J(k n:Nat):(a7H k n).length=k:=by simp[a7H,a8L]
theorem b6m(k n:Nat):∀b∈a7H k n,0≤b∧b<256:=fun b hb=>b7v k n b (List.mem_reverse.1 hb)
theorem c1x{n k:Nat}(j:n<18446744073709551616)(d:k≤8):a5a ((n:Int),(k:Int))=some (leB k n):=by
 have c:a2S (k:Int)=some (k:Int):=by
  simp only[a2S,b5f,b5g];congr 1;omega
 simp only[a5a,c,oB];have h:=a1w (f:=a1O) (fun i=>(((n / 256^i:Nat):Int),(k:Int),(i:Int),leB i n,())) k (b:=(leB k n,())) (fun i hi=>by
   have g:wrap .u64 (a20 ((n / 256^i:Nat):Int) 256)=((n / 256^(i+1):Nat):Int):=by
    have e:a20 ((n / 256^i:Nat):Int) 256=((n / 256^i / 256:Nat):Int):=rfl;rw[e,Nat.div_div_eq_div_mul,←a45]
    have:=b04 n (256^(i+1))
    revert this
    generalize n / 256^(i+1)=m;intro this;exact a0K (by omega)
   have a:wrap .u8 (a57 ((n / 256^i:Nat):Int) 256)=((n / 256^i%256:Nat):Int):=by
    have e:a57 ((n / 256^i:Nat):Int) 256=((n / 256^i%256:Nat):Int):=rfl;rw[e,a7m];omega
   simp only[a1O];rw[dlt hi,a0S (show(leB i n).length+1<2147483648 by rw[a8L];omega),g,a0B (show i<1000000 by omega),a,b5F];rfl) (by simp only[a1O,dge,cF])
 simp only[a92,Nat.div_one,leB]at h;rw[show((0:Nat):Int)=0 from rfl]at h;rw[h];rfl
theorem b7x{n k:Nat}(g:n<18446744073709551616)(h:k≤8):a4h ((n:Int),(k:Int))=some (a7H k n):=by
 unfold a4h a1L;simp only[c1x g h,oB];rw[decide_eq_true (by rw[a8L];omega)];rfl
theorem c9c(s:BitVec 32):a00 32 ((s.toNat:Nat):Int)=s:=by
 rw[BitVec.ofInt_natCast,BitVec.ofNat_toNat,BitVec.setWidth_eq]
theorem d2B(s:BitVec 32):wrap .u32 ((s.toNat:Nat):Int)=((s.toNat:Nat):Int):=by
 have:=s.isLt
 simp[wrap,IntKind.bits,IntKind.signed];omega
theorem c6K(s t:BitVec 32):bits .u32 .xor ((s.toNat:Nat):Int) ((t.toNat:Nat):Int)=(((s ^^^ t).toNat:Nat):Int):=by
 show wrap .u32 (((a00 32 _ ^^^ a00 32 _).toNat:Nat):Int)=_;rw[c9c,c9c,d2B]
theorem d4r(s:BitVec 32):(bits .u32 .and ((s.toNat:Nat):Int) 1==(1:Int))=s.getLsbD 0:=by
 have h:bits .u32 .and ((s.toNat:Nat):Int) 1=(((s &&& 1#32).toNat:Nat):Int):=by
  show wrap .u32 (((a00 32 _ &&& a00 32 1).toNat:Nat):Int)=_;rw[c9c,show a00 32 1=1#32 from rfl,d2B]
 rw[h,a53,show(1#32).toNat=1 from rfl,Nat.and_one_is_mod,a81,Nat.testBit_zero];rcases Nat.mod_two_eq_zero_or_one s.toNat with e|e<;>rw[e]<;>rfl
theorem d4s(s:BitVec 32):A0i .u32 ((s.toNat:Nat):Int) 1=(((s >>> 1).toNat:Nat):Int):=by
 unfold A0i;rw[show min (a49 1) (IntKind.bits .u32)=1 from rfl,a25 _ (by decide),BitVec.toNat_ushiftRight,Nat.shiftRight_eq_div_pow]
 norm_cast
def e32(s:Int):Int:=bif (bits .u32 .and s 1)==(1:Int)then bits .u32 .xor (A0i .u32 s 1) 3988292384 else A0i .u32 s 1
theorem d2C(s:BitVec 32):e32 ((s.toNat:Nat):Int)=(((c32 s).toNat:Nat):Int):=by
 unfold e32 c32;rw[d4r,d4s,show(3988292384:Int)=(((0xedb88320#32).toNat:Nat):Int)from rfl,c6K];cases s.getLsbD 0<;>rfl
theorem c4k:∀(k:Nat)(s:BitVec 32),rep e32 k ((s.toNat:Nat):Int)=(((c8W k s).toNat:Nat):Int)
 |0,_=>rfl
 |k+1,s=>by
  rw[show rep e32 (k+1) ((s.toNat:Nat):Int)=rep e32 k (e32 ((s.toNat:Nat):Int))from rfl,d2C,c4k k];rfl
def c9d(l:List Int):BitVec 32:=d2z 0xffffffff#32 (l.map (a00 32))
def a3G(l:List Int):Nat:=(~~~ c9d l).toNat
theorem b6n(l:List Int):a3G l<4294967296:=(~~~ c9d l).isLt
@[reducible] def c1y:Type:=a0L×(Int×(Int×(List (Int×(Int×Unit))×(List a1p×Unit))))
def mkT(fm:a0L)(xs:List Pc):c1y:=(fm,((a1k xs:Nat):Int),((a2D fm xs:Nat):Int),a3f 0 0 xs,xs.map (·.1),())
def nsP(xs:List Pc):List Nat:=xs.flatMap fun x=>[x.2.2.length,a0W x.2.1]
def a2X(fm:a0L)(xs:List Pc):List Nat:=[fm.1.toNat,fm.2.1.toNat,fm.2.2.1.toNat,xs.length]++nsP xs
def b9e:List Int:=[75,78,83,68]
def a1o(fm:a0L)(xs:List Pc):List Int:=b9e++((a2X fm xs).flatMap a0J++a7H 8 (a2D fm xs))
def a6t(fm:a0L)(xs:List Pc):List Int:=a1o fm xs++(a7H 4 (a3G (a1o fm xs))++a0X xs)
def b2j(l:List Int)(ch st en:Nat):List Int:=(l.take (en*ch)).drop (st*ch)
theorem c7O{l:List Int}{ch st en:Nat}(h:en*ch≤l.length):(b2j l ch st en).length=(en-st)*ch:=by
 unfold b2j;rw[List.length_drop,a98,a77 h,Nat.sub_mul]
theorem c7P{l:List Int}{ch st en:Nat}(g:st≤en):l.take (st*ch)++b2j l ch st en=l.take (en*ch):=by
 unfold b2j;have h:st*ch≤en*ch:=a27 _ g;rw[←a77 h,←List.take_take,a77 h,List.take_append_drop]
theorem c7Q{l:List Int}{p:Int→Bool}{ch st en:Nat}(h:l.all p=true):(b2j l ch st en).all p=true:=
 lA.2 fun x g=>lA.1 h x (List.mem_of_mem_take (List.mem_of_mem_drop g))
theorem b5z(h:List Pc):(nsP h).length=2*h.length:=by
 induction h with
 |nil=>rfl
 |cons x h ih=>simp only[nsP,a32,lN,lC,a05]at *;omega
theorem c9e(h:List Pc)(x:Pc):nsP (h++[x])=nsP h++[x.2.2.length,a0W x.2.1]:=by simp[nsP]
theorem c2o{fm:a0L}:∀{xs:List Pc}{st:Nat},a2V fm st xs→∀n∈nsP xs,n<1048704
 | [],_,_,n,hn=>by simp[nsP]at hn
 |x::xs,st,h,n,hn=>by
  have g:=h.1.2.2.2.2.2.2.2.2;simp only[nsP,a32,mA,mC,a38,or_false]at hn;rcases hn with(rfl|rfl)|hn;omega;omega;exact c2o h.2 n hn
theorem b7y{fm:a0L}:∀{xs:List Pc}{st:Nat},a2V fm st xs→xs.length≤a1k xs∧a1k xs≤64*xs.length
 | [],_,_=>by simp[a1k]
 |x::xs,st,h=>by
  have g:=h.1.2.2.2.2.2.2.1.2.2.2.2.1;have f:=h.1.2.2.2.2.2.2.2.2.1
  have:=b7y h.2
  simp only[a1k,a19,List.sum_cons,lC]at *;omega
theorem b4x:∀(l:List Nat),(∀n∈l,n<9223372036854775808)→(l.flatMap a0J).length≤9*l.length
 | [],_=>by simp
 |n::l,h=>by
  have:=(a8N (h n (by simp))).2
  have:=b4x l fun m g=>h m (by simp[g])
  simp only[a32,lN,lC];omega
theorem a7B{fm:a0L}(f:a3y fm){xs:List Pc}(h:a2V fm 0 xs)(i:xs.length≤200):∀n∈a2X fm xs,n<1048704:=fun n g=>by
 simp only[a2X,mA,mC,a38,or_false]at g;obtain⟨k,a,b,c,d,e⟩:=f;rcases g with(rfl|rfl|rfl|rfl)|g;omega;omega;omega;omega;exact c2o h n g
theorem c2p{fm:a0L}(g:a3y fm){xs:List Pc}(h:a2V fm 0 xs)(k:xs.length≤200):(a1o fm xs).length≤4000:=by
 have a:=b4x (a2X fm xs) fun n f=>a09 (a7B g h k n f) (by decide);have b:(a2X fm xs).length=4+2*xs.length:=by simp[a2X,b5z];omega
 simp only[a1o,b9e,lN,lC,a05,a9J];omega
def a9K(y0 d q r:Nat):Prop:=4294967296≤q∨4294967296*r+d<q*y0
instance (y0 d q r:Nat):Decidable (a9K y0 d q r):=inferInstanceAs (Decidable (_∨_))
def b7z(u d y1 y0:Nat):Nat:=
 if a9K y0 d (u / y1) (u%y1)then
  if 4294967296≤u%y1+y1 then u / y1-1
  else if a9K y0 d (u / y1-1) (u%y1+y1)then u / y1-2 else u / y1-1
 else u / y1
theorem d1t{u d y1 y0:Nat}(v:2147483648≤y1)(s:y0<4294967296)(x:u<y1*4294967296+y0)(w:d<4294967296):
  b7z u d y1 y0=(u*4294967296+d) / (y1*4294967296+y0):=by
 have hp:0<y1:=by omega
 have e:u=u / y1*y1+u%y1:=(Nat.div_add_mod' u y1).symm;have n:=a08 u hp;have l:u / y1≤4294967297:=by
  have:u / y1<4294967298:=(a80 hp).2 (by omega)
  exact Nat.le_of_lt_succ this
 have t:u*4294967296+d<(u / y1+1)*(y1*4294967296+y0):=by
  have:u+1≤(u / y1+1)*y1:=by rw[a41];omega
  have:(u+1)*4294967296≤(u / y1+1)*y1*4294967296:=a27 _ this
  rw[a97,←a55];omega
 have over:∀{q r:Nat},u=q*y1+r→a9K y0 d q r→u*4294967296+d<q*(y1*4294967296+y0):=by
  intro q r g f;rcases f with f|f
  have:=a27 (y1*4294967296+y0) f
  omega;exact d2y g f
 have fits:∀{q r:Nat},u=q*y1+r→¬ a9K y0 d q r→q*(y1*4294967296+y0)≤u*4294967296+d:=
  fun g f=>c7J g (Nat.le_of_not_lt fun h=>f (.inr h))
 have i:∀{q r:Nat},u=q*y1+r→q≤4294967296→4294967296≤r→q*(y1*4294967296+y0)≤u*4294967296+d:=by
  intro q r g l n;refine c7J g ?_
  have a:=a16 l (a59 s);have b:=a87 4294967296 n;omega
 unfold b7z;generalize u / y1=q at *;generalize u%y1=r at *;have done:∀{m:Nat},m*(y1*4294967296+y0)≤u*4294967296+d→u*4294967296+d<(m+1)*(y1*4294967296+y0)→m=(u*4294967296+d) / (y1*4294967296+y0):=
  fun a b=>(Nat.div_eq_of_lt_le a b).symm
 by_cases c:a9K y0 d q r
 rw[if_pos c];have o:=over e c;have q1:1≤q:=a89 fun z=>by rw[z,a73]at o;exact absurd o (b05 _)
 obtain⟨q,rfl⟩:∃k,q=k+1:=⟨q-1,by omega⟩;rw[Nat.add_sub_cancel];have j:u=q*y1+(r+y1):=by rw[e,a41];omega
 by_cases c1:4294967296≤r+y1
 rw[if_pos c1];exact done (i j (by omega) c1) o;rw[if_neg c1]
 by_cases c2:a9K y0 d q (r+y1)
 rw[if_pos c2];have o1:=over j c2;have y:1≤q:=a89 fun z=>by rw[z,a73]at o1;exact absurd o1 (b05 _)
 obtain⟨q,rfl⟩:∃k,q=k+1:=⟨q-1,by omega⟩;have p:u=q*y1+(r+y1+y1):=by rw[j,a41];omega
 exact done (m:=q) (i p (by omega) (by omega)) o1;rw[if_neg c2];exact done (fits j c2) o;rw[if_neg c];exact done (fits e c) t
theorem d2D(hi lo:Nat):
  (((hi*8+lo / 2305843009213693952)*4294967296+lo*8%18446744073709551616 / 4294967296)%18446744073709551608*4294967296+lo*8%18446744073709551616%4294967296)%18446744073709551608 / 8
   = (hi*18446744073709551616+lo)%prm:=by
 have e:((hi*8+lo / 2305843009213693952)*4294967296+lo*8%18446744073709551616 / 4294967296)*4294967296+lo*8%18446744073709551616%4294967296=(hi*18446744073709551616+lo)*8:=by omega
 rw[d1k,e];exact c7K _ 8 prm (by decide)
theorem c9f{hi lo:Nat}(h:hi<prm)(g:lo<18446744073709551616):hi*8+lo / 2305843009213693952<4294967295*4294967296+4294967288:=by
 unfold prm at h;omega
theorem c7R{a b c:Nat}(h:a<prm)(hb:b<prm)(g:c≤prm):(a*b+c) / 18446744073709551616<prm:=by
 have:=a16 (a83 h) (a83 hb)
 unfold prm at *;omega
theorem d2E{a b x0 x1 y0 y1 t:Nat}(d:x0=a%4294967296)(i:x1=a / 4294967296)(j:y0=b%4294967296)(l:y1=b / 4294967296)(r:t=x1*y0+x0*y0 / 4294967296)
  (n:a<18446744073709551616)(hb:b<18446744073709551616):
  x1*y1+t / 4294967296+(t%4294967296+x0*y1) / 4294967296=a*b / 18446744073709551616∧x0*y0<18446744073709551616∧t<18446744073709551616∧t%4294967296+x0*y1<18446744073709551616:=by
 have h:a=x1*4294967296+x0:=by omega
 have g:b=y1*4294967296+y0:=by omega
 have e:a*b=x1*y1*18446744073709551616+(x1*y0+x0*y1)*4294967296+x0*y0:=by
  rw[h,g];grind
 have m:∀{p q:Nat},p<4294967296→q<4294967296→p*q≤4294967295*4294967295:=fun hp o=>a16 (by omega) (by omega);have f:=m (show x0<4294967296 by omega) (show y0<4294967296 by omega);have c:=m (show x1<4294967296 by omega) (show y0<4294967296 by omega);have k:=m (show x0<4294967296 by omega) (show y1<4294967296 by omega);rw[e];generalize x0*y0=p00 at *;generalize x1*y0=p10 at *;generalize x0*y1=p01 at *;generalize x1*y1=p11 at *;omega
theorem c2P(n:Nat):wrap .u64 (n:Int)=((n%18446744073709551616:Nat):Int):=by
 simp[wrap,IntKind.bits,IntKind.signed]
theorem c4l{n k:Nat}(g:k≤64):A0i .u64 (n:Int) (k:Int)=((n / 2^k:Nat):Int):=by
 have h:min (a49 (k:Int)) (IntKind.bits .u64)=k:=by simp only[tN,IntKind.bits];omega
 unfold A0i;rw[h,a25 _ (by exact_mod_cast Nat.zero_le _)]
 norm_cast
theorem c7S(n:Nat):A0i .u64 (n:Int) 32=((n / 4294967296:Nat):Int):=c4l (k:=32) (by omega)
theorem d0D(n:Nat):bits .u64 .and (n:Int) 4294967295=((n%4294967296:Nat):Int):=by
 show wrap .u64 (((a00 64 (n:Int) &&& a00 64 4294967295).toNat:Nat):Int)=_;have g:(a00 64 4294967295).toNat=4294967295:=rfl;have h:(a00 64 (n:Int)).toNat=n%18446744073709551616:=by rw[a24];omega
 rw[a53,h,g,show 4294967295=2^32-1 from rfl,a30,c2P];omega
theorem d7Z{a b:Nat}(f:a<2305843009213693952)(hb:b<8):bits .u64 .or ((a*8:Nat):Int) (b:Int)=((a*8+b:Nat):Int):=by
 show wrap .u64 (((a00 64 ((a*8:Nat):Int) ||| a00 64 (b:Int)).toNat:Nat):Int)=_;have h:(a00 64 ((a*8:Nat):Int)).toNat=2^3*a:=by rw[a24];omega
 have g:(a00 64 (b:Int)).toNat=b:=by rw[a24];omega
 rw[BitVec.toNat_or,h,g,←Nat.two_pow_add_eq_or_of_lt (i:=3) hb a,c2P];omega
theorem c9g{a b:Nat}(f:a<18446744073709551616)(hb:b<18446744073709551616):a5T ((a:Int),(b:Int))=some (((a*b / 18446744073709551616:Nat):Int),((a*b%18446744073709551616:Nat):Int)):=by
 obtain⟨k,c,d,e⟩:=d2E (a:=a) (b:=b) rfl rfl rfl rfl rfl f hb;unfold a5T;simp only[c7S,d0D,←a58,←Int.natCast_add,c2P,sj,pJ,b01];refine⟨?_,trivial⟩
 revert k c d e
 generalize a%4294967296*(b%4294967296)=p00;generalize a / 4294967296*(b%4294967296)=p10;generalize a%4294967296*(b / 4294967296)=p01;have i:a*b / 18446744073709551616<18446744073709551616:=a84 (Nat.lt_of_le_of_lt (a16 (a59 f) (a59 hb)) (by omega:18446744073709551616*18446744073709551616<18446744073709551616*18446744073709551616+1) |> fun h=>by
  rcases Nat.lt_or_ge (a*b) (18446744073709551616*18446744073709551616)with g|g;exact g
  have:=Nat.mul_lt_mul_of_lt_of_le f (a59 hb) (by omega);omega)
 revert i
 generalize a*b / 18446744073709551616=q;generalize a / 4294967296*(b / 4294967296)=p11;intro i k c d e;omega
theorem b8z{α:Type}(p:Prop)[Decidable p](a b:α):(bif decide p then a else b)=if p then a else b:=by
 by_cases h:p<;>simp[h]
theorem d2F:a3M 2305843009213693951=some 3:=by kernel_rfl
theorem c6L{u d q:Nat}(h:q=b7z u d 4294967295 4294967288)(f:u<4294967295*4294967296+4294967288)(g:d<4294967296):q*18446744073709551608≤u*4294967296+d∧u*4294967296+d<q*18446744073709551608+18446744073709551608∧q<4294967296:=by
 rw[d1t (by omega) (by omega) f g]at h;omega
theorem b8A{u d u0 q r:Nat}{s:Int}(i:d<4294967296)(j:q≤4294967297)(l:r<4294967296):a1W ((18446744073709551608:Int),s,(4294967295:Int),(4294967288:Int),(u:Int),(d:Int),(u0:Int),(q:Int),(r:Int),()) =
  if a9K 4294967288 d q r then(if 4294967296≤r+4294967295 then some (.inr ((18446744073709551608:Int),s,(4294967295:Int),(4294967288:Int),(u:Int),(d:Int),(u0:Int),((q-1:Nat):Int),()))else some (.inl ((18446744073709551608:Int),s,(4294967295:Int),(4294967288:Int),(u:Int),(d:Int),(u0:Int),((q-1:Nat):Int),((r+4294967295:Nat):Int),())))else some (.inr ((18446744073709551608:Int),s,(4294967295:Int),(4294967288:Int),(u:Int),(d:Int),(u0:Int),(q:Int),())):=by
 have c:wrap .u64 ((q:Int)-1)=(((q-1:Nat)):Int)∨q=0:=by
  rcases a90 q with h|h;exact .inr h;left;rw[a0K (by omega)];omega
 have f:wrap .u64 ((r:Int)+4294967295)=((r+4294967295:Nat):Int):=by rw[a0K (by omega)];omega
 have b:decide (wrap .u64 ((r:Int)+4294967295)≥(4294967296:Int))=decide (4294967296≤r+4294967295):=by
  rw[f];exact decide_eq_decide.2 (by omega)
 have tail:q≠0→(bif decide (wrap .u64 ((r:Int)+4294967295)≥(4294967296:Int))then(some (.inr ((18446744073709551608:Int),s,(4294967295:Int),(4294967288:Int),(u:Int),(d:Int),(u0:Int),(wrap .u64 ((q:Int)-1)),())):Option (_ ⊕ (Int×Int×Int×Int×Int×Int×Int×Int×Unit)))else some (.inl ((18446744073709551608:Int),s,(4294967295:Int),(4294967288:Int),(u:Int),(d:Int),(u0:Int),(wrap .u64 ((q:Int)-1)),(wrap .u64 ((r:Int)+4294967295)),()))) =
   (if 4294967296≤r+4294967295 then some (.inr ((18446744073709551608:Int),s,(4294967295:Int),(4294967288:Int),(u:Int),(d:Int),(u0:Int),((q-1:Nat):Int),()))else some (.inl ((18446744073709551608:Int),s,(4294967295:Int),(4294967288:Int),(u:Int),(d:Int),(u0:Int),((q-1:Nat):Int),((r+4294967295:Nat):Int),()))):=fun e=>by
  rw[b,c.resolve_right e,f];exact b8z ..
 by_cases h1:4294967296≤q
 have c0:decide ((q:Int)≥(4294967296:Int))=true:=decide_eq_true (by omega);rw[if_pos (.inl h1),←tail (by omega)];unfold a1W;dsimp only;rw[c0,cT,oB];have c0:decide ((q:Int)≥(4294967296:Int))=false:=decide_eq_false (by omega);have k:wrap .u64 ((q:Int)*4294967288)=((q*4294967288:Nat):Int):=by rw[a0K (by omega)];omega
 have a:wrap .u64 (wrap .u64 ((4294967296:Int)*(r:Int))+(d:Int))=((4294967296*r+d:Nat):Int):=by rw[a0K (n:=4294967296*(r:Int)) (by omega),a0K (by omega)];omega
 by_cases h2:4294967296*r+d<q*4294967288
 have g:decide (wrap .u64 ((q:Int)*4294967288) > wrap .u64 (wrap .u64 ((4294967296:Int)*(r:Int))+(d:Int)))=true:=decide_eq_true (by rw[k,a];omega);rw[if_pos (.inr h2),←tail (by omega)];unfold a1W;dsimp only;rw[c0,cF,g,cT,oB];have g:decide (wrap .u64 ((q:Int)*4294967288) > wrap .u64 (wrap .u64 ((4294967296:Int)*(r:Int))+(d:Int)))=false:=decide_eq_false (by rw[k,a];omega);rw[if_neg (by unfold a9K;omega)];unfold a1W;dsimp only;rw[c0,cF,g,cF,oB]
theorem d2G{u d u0:Nat}{s:Int}(a:u<4294967295*4294967296+4294967288)(k:d<4294967296):
  y0m a1W ((18446744073709551608:Int),s,(4294967295:Int),(4294967288:Int),(u:Int),(d:Int),(u0:Int),((u / 4294967295:Nat):Int),((u%4294967295:Nat):Int),())=some ((18446744073709551608:Int),s,(4294967295:Int),(4294967288:Int),(u:Int),(d:Int),(u0:Int),((b7z u d 4294967295 4294967288:Nat):Int),()):=by
 have g:u / 4294967295≤4294967297:=by omega
 have f:u%4294967295<4294967295:=a08 _ (by omega);unfold b7z
 revert g f
 generalize u / 4294967295=q;generalize u%4294967295=r;intro g f;have s0:=b8A (u0:=u0) (s:=s) (u:=u) k g (a93 f)
 by_cases c1:a9K 4294967288 d q r
 rw[if_pos c1]at s0⊢
 by_cases c2:4294967296≤r+4294967295
 rw[if_pos c2]at s0⊢;exact a0E s0;rw[if_neg c2]at s0⊢;rw[a0F s0];have h:=b8A (u0:=u0) (s:=s) (u:=u) (q:=q-1) (r:=r+4294967295) k (by omega) (by omega)
 by_cases c3:a9K 4294967288 d (q-1) (r+4294967295)
 rw[if_pos c3,if_pos (by omega),Nat.sub_sub]at h;rw[if_pos c3];exact a0E h;rw[if_neg c3]at h;rw[if_neg c3];exact a0E h;rw[if_neg c1]at s0⊢;exact a0E s0
theorem b8B{u d q r:Nat}{s q1:Int}(i:d<4294967296)(j:q≤4294967297)(l:r<4294967296):a1X ((18446744073709551608:Int),s,(4294967295:Int),(4294967288:Int),(d:Int),q1,(r:Int),(u:Int),(q:Int),()) =
  if a9K 4294967288 d q r then(if 4294967296≤r+4294967295 then some (.inr ((18446744073709551608:Int),s,(d:Int),q1,(u:Int),((q-1:Nat):Int),()))else some (.inl ((18446744073709551608:Int),s,(4294967295:Int),(4294967288:Int),(d:Int),q1,((r+4294967295:Nat):Int),(u:Int),((q-1:Nat):Int),())))else some (.inr ((18446744073709551608:Int),s,(d:Int),q1,(u:Int),(q:Int),())):=by
 have c:wrap .u64 ((q:Int)-1)=(((q-1:Nat)):Int)∨q=0:=by
  rcases a90 q with h|h;exact .inr h;left;rw[a0K (by omega)];omega
 have f:wrap .u64 ((r:Int)+4294967295)=((r+4294967295:Nat):Int):=by rw[a0K (by omega)];omega
 have b:decide (wrap .u64 ((r:Int)+4294967295)≥(4294967296:Int))=decide (4294967296≤r+4294967295):=by
  rw[f];exact decide_eq_decide.2 (by omega)
 have tail:q≠0→(bif decide (wrap .u64 ((r:Int)+4294967295)≥(4294967296:Int))then(some (.inr ((18446744073709551608:Int),s,(d:Int),q1,(u:Int),(wrap .u64 ((q:Int)-1)),())):Option (_ ⊕ (Int×Int×Int×Int×Int×Int×Unit)))else some (.inl ((18446744073709551608:Int),s,(4294967295:Int),(4294967288:Int),(d:Int),q1,(wrap .u64 ((r:Int)+4294967295)),(u:Int),(wrap .u64 ((q:Int)-1)),()))) =
   (if 4294967296≤r+4294967295 then some (.inr ((18446744073709551608:Int),s,(d:Int),q1,(u:Int),((q-1:Nat):Int),()))else some (.inl ((18446744073709551608:Int),s,(4294967295:Int),(4294967288:Int),(d:Int),q1,((r+4294967295:Nat):Int),(u:Int),((q-1:Nat):Int),()))):=fun e=>by
  rw[b,c.resolve_right e,f];exact b8z ..
 by_cases h1:4294967296≤q
 have c0:decide ((q:Int)≥(4294967296:Int))=true:=decide_eq_true (by omega);rw[if_pos (.inl h1),←tail (by omega)];unfold a1X;dsimp only;rw[c0,cT,oB];have c0:decide ((q:Int)≥(4294967296:Int))=false:=decide_eq_false (by omega);have k:wrap .u64 ((q:Int)*4294967288)=((q*4294967288:Nat):Int):=by rw[a0K (by omega)];omega
 have a:wrap .u64 (wrap .u64 ((4294967296:Int)*(r:Int))+(d:Int))=((4294967296*r+d:Nat):Int):=by rw[a0K (n:=4294967296*(r:Int)) (by omega),a0K (by omega)];omega
 by_cases h2:4294967296*r+d<q*4294967288
 have g:decide (wrap .u64 ((q:Int)*4294967288) > wrap .u64 (wrap .u64 ((4294967296:Int)*(r:Int))+(d:Int)))=true:=decide_eq_true (by rw[k,a];omega);rw[if_pos (.inr h2),←tail (by omega)];unfold a1X;dsimp only;rw[c0,cF,g,cT,oB];have g:decide (wrap .u64 ((q:Int)*4294967288) > wrap .u64 (wrap .u64 ((4294967296:Int)*(r:Int))+(d:Int)))=false:=decide_eq_false (by rw[k,a];omega);rw[if_neg (by unfold a9K;omega)];unfold a1X;dsimp only;rw[c0,cF,g,cF,oB]
theorem d2H{u d:Nat}{s q1:Int}(a:u<4294967295*4294967296+4294967288)(k:d<4294967296):
  y0m a1X ((18446744073709551608:Int),s,(4294967295:Int),(4294967288:Int),(d:Int),q1,((u%4294967295:Nat):Int),(u:Int),((u / 4294967295:Nat):Int),())=some ((18446744073709551608:Int),s,(d:Int),q1,(u:Int),((b7z u d 4294967295 4294967288:Nat):Int),()):=by
 have g:u / 4294967295≤4294967297:=by omega
 have f:u%4294967295<4294967295:=a08 _ (by omega);unfold b7z
 revert g f
 generalize u / 4294967295=q;generalize u%4294967295=r;intro g f;have s0:=b8B (s:=s) (q1:=q1) (u:=u) k g (a93 f)
 by_cases c1:a9K 4294967288 d q r
 rw[if_pos c1]at s0⊢
 by_cases c2:4294967296≤r+4294967295
 rw[if_pos c2]at s0⊢;exact a0E s0;rw[if_neg c2]at s0⊢;rw[a0F s0];have h:=b8B (s:=s) (q1:=q1) (u:=u) (q:=q-1) (r:=r+4294967295) k (by omega) (by omega)
 by_cases c3:a9K 4294967288 d (q-1) (r+4294967295)
 rw[if_pos c3,if_pos (by omega),Nat.sub_sub]at h;rw[if_pos c3];exact a0E h;rw[if_neg c3]at h;rw[if_neg c3];exact a0E h;rw[if_neg c1]at s0⊢;exact a0E s0
theorem d4t(n:Int):wrap .u64 n=n%18446744073709551616:=by simp[wrap,IntKind.bits,IntKind.signed]
theorem d1u{u d Q:Nat}(g:Q*18446744073709551608≤u*4294967296+d)(f:u*4294967296+d<Q*18446744073709551608+18446744073709551608):
  wrap .u64 (wrap .u64 (wrap .u64 ((u:Int)*4294967296)+(d:Int))-wrap .u64 ((Q:Int)*18446744073709551608))=(((u*4294967296+d)%18446744073709551608:Nat):Int):=by
 have:u*4294967296+d=Q*18446744073709551608+(u*4294967296+d)%18446744073709551608:=by omega
 have h:(u*4294967296+d)%18446744073709551608<18446744073709551608:=a08 _ (by omega)
 revert this h
 generalize (u*4294967296+d)%18446744073709551608=v;intro this h;clear g f;simp only[d4t];omega
theorem c5p{u:Nat}(h:u<18446744073709551616):wrap .u64 ((u:Int)-wrap .u64 (((u / 4294967295:Nat):Int)*4294967295))=((u%4294967295:Nat):Int):=by
 rw[a0K (n:=((u / 4294967295:Nat):Int)*4294967295) (by omega),a0K (by omega)];omega
theorem sh3(n:Nat):A0h .u64 (n:Int) 3=((n*8%18446744073709551616:Nat):Int):=by
 unfold A0h;rw[show(2:Int)^(min (a49 3) (IntKind.bits .u64))=((8:Nat):Int)from rfl,←a58,c2P]
theorem c9h(lo:Nat):a2c (0,(lo:Int),(2305843009213693951:Int))=some (wrap .u64 (a20 (lo:Int) 2305843009213693951),((lo%2305843009213693951:Nat):Int)):=by
 unfold a2c;simp only[show((2305843009213693951:Int)==0)=false from rfl,cF,show decide ((2305843009213693951:Int)≤0)=false from rfl,beq_self_eq_true,cT];rfl
theorem d4u:wrap .u64 3=3:=by kernel_rfl
theorem d2I:wrap .u64 (64-3)=((61:Nat):Int):=by kernel_rfl
theorem d4v:A0h .u64 2305843009213693951 3=18446744073709551608:=by kernel_rfl
theorem d4w:A0i .u64 18446744073709551608 32=4294967295:=by kernel_rfl
theorem d4x:bits .u64 .and 18446744073709551608 4294967295=4294967288:=by kernel_rfl
theorem d4y:((2305843009213693951:Int)==0)=false:=by kernel_rfl
theorem d0E:decide ((3:Int)<0)=false:=by kernel_rfl
theorem d4z:decide (((61:Nat):Int)<0)=false:=by kernel_rfl
theorem d0F:((4294967295:Int)==0)=false:=by kernel_rfl
theorem c7T{u d Q v:Nat}(hv:(u*4294967296+d)%18446744073709551608=v)(h:Q*18446744073709551608≤u*4294967296+d)(g:u*4294967296+d<Q*18446744073709551608+18446744073709551608):
  wrap .u64 (wrap .u64 (wrap .u64 ((u:Int)*4294967296)+(d:Int))-wrap .u64 ((Q:Int)*18446744073709551608))=(v:Int):=by
 subst hv;exact d1u h g
theorem d0G{u:Nat}(h:u<18446744073709551616):wrap .u64 ((u / 4294967295:Nat):Int)=((u / 4294967295:Nat):Int):=a0K (by omega)
theorem d1v{hi lo u d e v r:Nat}(hv:(u*4294967296+d)%18446744073709551608=v)(o:(v*4294967296+e)%18446744073709551608=r)(C:hi≠0)(D:hi<2305843009213693951)(p:hi*8+lo / 2305843009213693952=u)(j:lo*8%18446744073709551616 / 4294967296=d)(l:lo*8%18446744073709551616%4294967296=e)(E:lo<18446744073709551616)
  (h:u<4294967295*4294967296+4294967288)(f:d<4294967296)(a:e<4294967296):
  ∃q:Int,a2c ((hi:Int),(lo:Int),(2305843009213693951:Int))=some (q,((r / 8:Nat):Int)):=by
 have c0:((hi:Int)==0)=false:=by simp;omega
 have c:decide ((2305843009213693951:Int)≤(hi:Int))=false:=decide_eq_false (by omega);have i:hi*8%18446744073709551616=hi*8:=by omega
 have m:bits .u64 .or ((hi*8:Nat):Int) (A0i .u64 (lo:Int) ((61:Nat):Int))=(u:Int):=by
  rw[c4l (k:=61) (by omega),show 2^61=2305843009213693952 from rfl,d7Z (by omega) (by omega),p]
 have t:=d2G (u0:=e) (s:=3) h f;have x:=c7T hv (c6L rfl h f).1 (c6L rfl h f).2.1;have g:v<4294967295*4294967296+4294967288:=by rw[←hv];exact a91 (a08 _ (by omega)) (by omega)
 have w:=d2H (s:=3) (q1:=((b7z u d 4294967295 4294967288:Nat):Int)) g a;have y:=c7T o (c6L rfl g a).1 (c6L rfl g a).2.1;have A:=c5p (u:=u) (a09 h (by decide));have r2:=c5p (u:=v) (a09 g (by decide));have B:wrap .u64 ((u / 4294967295:Nat):Int)=((u / 4294967295:Nat):Int):=d0G (a09 h (by decide));have b:wrap .u64 ((v / 4294967295:Nat):Int)=((v / 4294967295:Nat):Int):=d0G (a09 g (by decide));have q1:a20 (u:Int) 4294967295=((u / 4294967295:Nat):Int):=rfl;have z:a20 (v:Int) 4294967295=((v / 4294967295:Nat):Int):=rfl;have g8:∀n:Nat,A0i .u64 (n:Int) 3=((n / 8:Nat):Int):=fun n=>c4l (k:=3) (by omega);unfold a2c;dsimp only;rw[d4y,cF,c,cF,c0,cF,d2F,oB,d4u,d0E,cF,cF,d2I,d4z,cF,cF,d4v,d4w,d0F,cF,d4x,sh3 hi,i,m,sh3 lo,c7S,j,d0D,l,q1,B,A,t,oB];dsimp only;rw[d0F,cF,x,z,b,r2,w,oB];dsimp only;rw[d0E,cF,y,g8];exact⟨_,rfl⟩
theorem d1w{hi lo:Nat}(h:hi<prm)(g:lo<18446744073709551616):∃q:Int,a2c ((hi:Int),(lo:Int),(2305843009213693951:Int))=some (q,(((hi*18446744073709551616+lo)%prm:Nat):Int)):=by
 by_cases h0:hi=0
 subst h0;rw[a73,a46];exact⟨_,c9h lo⟩;rw[←d2D hi lo];exact d1v rfl rfl h0 h rfl rfl rfl g (c9f h g) (a84 (a91 (a08 _ (by omega)) (by omega))) (a08 _ (by omega))
theorem b7L{a b c:Nat}(f:a<prm)(hb:b<prm)(k:c≤prm):a5J ((a:Int),(b:Int),(c:Int))=some (((a*b+c)%prm:Nat):Int):=by
 have h:=c7R f hb k;unfold prm at f hb k h;have l:=c9g (a:=a) (b:=b) (by omega) (by omega);have j:a8R (((a*b%18446744073709551616:Nat):Int),(c:Int),(0:Int))=some ((((a*b%18446744073709551616+c)%18446744073709551616:Nat):Int),(((a*b%18446744073709551616+c) / 18446744073709551616:Nat):Int)):=rfl;obtain⟨hi,g⟩:∃hi,(a*b+c) / 18446744073709551616=hi:=⟨_,rfl⟩;rw[g]at h;have i:wrap .u64 (((a*b / 18446744073709551616:Nat):Int)+((a*b%18446744073709551616+c) / 18446744073709551616:Nat))=(hi:Int):=by
  rw[a0K (by omega)];omega
 obtain⟨q,d⟩:=d1w (hi:=hi) (lo:=(a*b%18446744073709551616+c)%18446744073709551616) (by unfold prm;omega) (by omega);have e:hi*18446744073709551616+(a*b%18446744073709551616+c)%18446744073709551616=a*b+c:=by omega
 rw[e]at d;have t:a57 (hi:Int) 2305843009213693951=(hi:Int):=by
  show(((hi%2305843009213693951:Nat)):Int)=_;rw[a40 h]
 unfold a5J a8S;simp only[l,j,oB,i,show((2305843009213693951:Int)==0)=false from rfl,cF,t,d]
theorem b8C(l:List Int)(n i:Int):∀(j k:Nat)(s:Int),k+j=8→y0m a7D (s,l,n,i,(k:Int),())=some (rep e32 j s,l,n,i,())
 |0,k,s,h=>by
  obtain rfl:k=8:=by omega
  exact a0E rfl
 |j+1,k,s,h=>by
  have d:decide ((k:Int)<8)=true:=by simp;omega
  rw[a0F (s':=(e32 s,l,n,i,((k+1:Nat):Int),())) (by
   simp only[a7D,d,cT,a0B (show k<1000000 by omega),e32];cases (bits .u32 .and s 1==1:Bool)<;>rfl)]
  exact b8C l n i j (k+1) (e32 s) (by omega)
theorem c0P{l:List Int}(k:short l):∀(rest done:List Int)(s:BitVec 32),done++rest=l→(∀b∈rest,0≤b∧b<256)→
  y0m a4O (((s.toNat:Nat):Int),l,(l.length:Int),(done.length:Int),())=some ((((d2z s (rest.map (a00 32))).toNat:Nat):Int),())
 | [],done,s,hd,_=>by
  obtain rfl:done=l:=by simpa using hd
  exact a0E (by simp only[a4O,dge,cF];rfl)
 |x::rest,done,s,hd,hb=>by
  have g:done.length<l.length:=by rw[←hd];simp
  have a:m0h l (done.length:Int)=some x:=by rw[a0D g];subst hd;simp
  have c:=hb x (by simp);have e:bits .u32 .xor ((s.toNat:Nat):Int) (wrap .u32 x)=(((s ^^^ a00 32 x).toNat:Nat):Int):=by
   rw[←c6K];congr 1;rw[a24];simp[wrap,IntKind.bits,IntKind.signed];omega
  have f:=b8C l (l.length:Int) (done.length:Int) 8 0 (bits .u32 .xor ((s.toNat:Nat):Int) (wrap .u32 x)) rfl;rw[e,c4k]at f;rw[a0F (s':=((((c8X s (a00 32 x)).toNat:Nat):Int),l,(l.length:Int),(((done++[x]).length:Nat):Int),())) (by
   simp only[a4O,dlt g,cT,a,oB,e]
   erw[f]
   simp only[oB,a0B (a09 g k)];simp[c8X])]
  exact c0P k rest (done++[x]) _ (by simpa using hd) (fun b h=>hb b (by simp[h]))
theorem b7A{l:List Int}(g:short l)(hb:∀b∈l,0≤b∧b<256):a4F l=some ((a3G l:Nat):Int):=by
 have h:=c0P g l [] 0xffffffff#32 rfl hb;rw[a05]at h;unfold a4F
 erw[h]
 simp only[oB];rw[show IntKind.max .u32=(((0xffffffff#32).toNat:Nat):Int)from rfl,c6K];unfold a3G c9d;rw[←BitVec.allOnes_xor];rfl
theorem c0Q{l:List Int}(k:short l):∀(rest done:List Int)(h:Nat),done++rest=l→h<prm→(∀b∈rest,0≤b∧b<256)→
  y0m a7M ((h:Int),l,(l.length:Int),(done.length:Int),())=some (((prs h (rest.map a49):Nat):Int),())
 | [],done,h,hd,_,_=>by
  obtain rfl:done=l:=by simpa using hd
  exact a0E (by simp only[a7M,dge,cF];rfl)
 |x::rest,done,h,hd,hh,hb=>by
  have g:done.length<l.length:=by rw[←hd];simp
  have d:m0h l (done.length:Int)=some x:=by rw[a0D g];subst hd;simp
  have i:=hb x (by simp);have e:wrap .u64 ((wrap .u64 x)+(1:Int))=((x.toNat+1:Nat):Int):=by rw[a0K (n:=x) (by omega),a0K (by omega)];omega
  have f:=b7L (a:=h) (b:=1000003) (c:=x.toNat+1) hh (by decide) (by unfold prm;omega);rw[a0F (s':=((((h*1000003+(x.toNat+1))%prm:Nat):Int),l,(l.length:Int),(((done++[x]).length:Nat):Int),())) (by
   simp only[a7M,dlt g,cT,d,oB,e]
   erw[f]
   simp[a0B (a09 g k)])]
  exact c0Q k rest (done++[x]) _ (by simpa using hd) (a08 _ (by decide)) (fun b h=>hb b (by simp[h]))
theorem c4m{l:List Int}(g:short l)(hb:∀b∈l,0≤b∧b<256):a6e l=some ((prI l:Nat):Int):=by
 have h:=c0Q g l [] 0 rfl (by decide) hb;unfold a6e
 erw[h]
 rfl
theorem b6o:∀(k n p s:Nat),n<2^k→n<4611686018427387904→p<prm→s<prm→y0m a7N ((n:Int),(p:Int),(s:Int),())=some (((pwr k n p s:Nat):Int),())
 |0,n,p,s,hn,_,_,_=>by
  obtain rfl:n=0:=by simpa using hn
  exact a0E rfl
 |k+1,n,p,s,hn,hn2,hp,hs=>by
  by_cases h0:n=0
  subst h0;exact a0E rfl;have d:decide ((n:Int) > 0)=true:=by simp;omega
  have f:a57 (n:Int) 2=((n%2:Nat):Int):=rfl;have a:wrap .i64 (a20 (n:Int) 2)=((n / 2:Nat):Int):=by rw[show a20 (n:Int) 2=((n / 2:Nat):Int)from rfl,a0C (by omega)]
  have h:=b7L (c:=0) hs hs (by decide);have g:=b7L (c:=0) hp hs (by decide);have b:n / 2<2^k:=by rw[a45]at hn;omega
  simp only[a71,nZ]at h g;have m:=a08 (s*s) (show 0<prm by decide);rw[pwr,if_neg h0]
  by_cases h1:n%2=1
  rw[if_pos h1,a0F (s':=(((n / 2:Nat):Int),((p*s%prm:Nat):Int),((s*s%prm:Nat):Int),())) (by
   simp only[a7N,d,cT,f,h1,show(((1:Nat):Int)==1)=true from rfl]
   erw[g]
   simp only[oB]
   erw[h]
   simp only[oB,a])]
  exact b6o k _ _ _ b (by omega) (a08 _ (by decide)) m;have e:n%2=0:=by omega
  rw[if_neg h1,a0F (s':=(((n / 2:Nat):Int),(p:Int),((s*s%prm:Nat):Int),())) (by
   simp only[a7N,d,cT,f,e,show(((0:Nat):Int)==1)=false from rfl,cF,oB]
   erw[h]
   simp only[oB,a])]
  exact b6o k _ _ _ b (by omega) hp m
theorem d1x{a b n:Nat}(f:a<prm)(hb:b<prm)(h:n<4611686018427387904):b1Q ((a:Int),(b:Int),(n:Int))=some ((((a*(1000003^n%prm)+b)%prm:Nat):Int),true):=by
 have hp:=b6o 62 n 1 1000003 h h (by decide) (by decide);rw[d2x 62 n 1 1000003 h (by decide),Nat.one_mul]at hp;have j:=b7L (c:=b) f (a08 (1000003^n) (show 0<prm by decide)) (a59 hb);unfold prm at f hb;have k:decide ((a:Int)≥(2305843009213693951:Int))=false:=by simp;omega
 have d:decide ((b:Int)≥(2305843009213693951:Int))=false:=by simp;omega
 have e:decide ((n:Int)<(0:Int))=false:=by simp
 have i:v0m (n:Int) 0=(n:Int):=by rw[b5g];omega
 have g:b0K (n:Int)=some ((1000003^n%prm:Nat):Int):=by
  unfold b0K;rw[i]
  erw[hp]
  rfl
 simp only[b1Q,k,d,e,cF,oB,g]
 erw[j]
 rfl
theorem c4n(b:a1l)(N:Int){i:Nat}:∀(rest done:List (List Int)) (out:List Int),done++rest=b.2.1→b.2.1.length≤8→(∀r∈rest,i<r.length)→out.length+rest.length<1000000→
  y0m a6E ((i:Int),N,(i:Int),b.2.1,(b.2.1.length:Int),(done.length:Int),out,b,())=some (N,(i:Int),out++rest.map (fun r=>r.getD i 0),b,())
 | [],done,out,hd,_,_,_=>by
  have e:done=b.2.1:=by simpa using hd
  rw[a0E (b:=(N,(i:Int),out,b,())) (by rw[e];simp only[a6E,dge,cF])]
  simp
 |r::rest,done,out,hd,h8,hr,ho=>by
  have g:done.length<b.2.1.length:=by rw[←hd];simp
  have k:m0h b.2.1 (done.length:Int)=some r:=by rw[a0D g];simp[←hd]
  have h:=hr r (by simp);have f:m0h r (i:Int)=some (r.getD i 0):=by rw[a0D h,lD,lG h];rfl
  simp only[lC]at ho;rw[a0F (s':=((i:Int),N,(i:Int),b.2.1,(b.2.1.length:Int),(((done++[r]).length:Nat):Int),out++[r.getD i 0],b,())) (by
   simp only[a6E,dlt g,cT,k,f,oB,a0S (show out.length+1<2147483648 by omega),a0B (show done.length<1000000 by omega)]
   simp)]
  rw[c4n b N rest (done++[r]) _ (by simpa using hd) h8 (fun q a=>hr q (by simp[a])) (by simp only[lN,a07];omega)]
  simp
theorem c4o{b:a1l}(hb:a3i b):a7e b=some (wvB b):=by
 obtain⟨g1,g2,g3,g4,g5,g6,g7⟩:=id hb;have hlen:∀r∈b.2.1,r.length=a0W b:=fun r hr=>by
  have:=lA.1 g7 r hr
  simp only[bA,dT]at this;exact this.1
 have hw:∀i,i≤4096→(wv i b.2.1).length≤32768:=fun i hi=>by
  rw[c7N]
  calc i*b.2.1.length≤4096*8:=a16 hi g4
   _=32768:=rfl
 have h:=a1w (f:=a6F) (fun i=>(((a0W b:Nat):Int),(i:Int),wv i b.2.1,b,())) (a0W b) (b:=(wv (a0W b) b.2.1,())) (fun i hi=>by
  have h0:=c4n b ((a0W b:Nat):Int) (i:=i) b.2.1 [] (wv i b.2.1) rfl g4 (fun r hr=>by rw[hlen r hr];exact hi) (by have:=hw i (by omega);omega);rw[a05]at h0;simp only[a6F,dlt hi,cT]
  erw[h0]
  simp only[oB,a0B (show i<1000000 by omega)];unfold wv;rw[a42,a60]
  simp) (by simp only[a6F,dge,cF])
 unfold a7e;simp only[a8m,hb,decide_true,oB,bT,cF,a6s]
 erw[h]
 rfl
theorem c1z{b:a1l}:(wvB b).length=a0W b*b.2.1.length:=c7N _
theorem d1y{b:a1l}(hb:a3i b):(wvB b).all (fun x=>a1d x b.1)=true:=by
 obtain⟨k,a,c,d,e,j,g⟩:=hb;refine lA.2 fun x h=>?_
 unfold wvB wv at h;obtain⟨i,hi,h⟩:=a70.1 h;obtain⟨r,f,rfl⟩:=a34.1 h
 have:=lA.1 g r f
 simp only[bA,dT]at this;have hi:i<r.length:=by rw[this.1];exact a23.1 hi
 rw[lD,lG hi];exact lA.1 this.2 _ (a22 hi)
theorem d1z{b:a1l}(hb:a3i b):b0J b=some (a2a b.1 (wvB b),0):=by
 have hl:(wvB b).length≤1000000:=by
  rw[c1z]
  calc a0W b*b.2.1.length≤4096*8:=a16 hb.2.2.2.2.2.1 hb.2.2.2.1
   _≤1000000:=by decide
 unfold b0J;simp only[a8m,hb,decide_true,oB,bT,cF,c4o hb,c1w ⟨hb.1,hb.2.1⟩ hl (d1y hb)]
theorem b7B{b:a1l}(hb:a3i b){w:Int}(g:b.1=w)(d:List Int):a4r (((prI (a2a w d):Nat):Int),b)=some (((prI (a2a w (d++wvB b)):Nat):Int),true):=by
 subst g;have f:=c0N ⟨hb.1,hb.2.1⟩ (wvB b);have k:(wvB b).length≤4096*8:=by rw[c1z];exact a16 hb.2.2.2.2.2.1 hb.2.2.2.1
 have h:=d1x (c0O (a2a b.1 d)) (c0O (a2a b.1 (wvB b))) (n:=(a2a b.1 (wvB b)).length) (by omega);unfold a4r;simp only[d1z hb,oB,show((0:Int) != 0)=false from rfl,cF,c4m (show short (a2a b.1 (wvB b))by unfold short;omega) (b7w _ _),c6J,d1p]
 erw[h]
 rfl
theorem c9i(d:List Int)(x:Int){ch:Nat}(h:0<ch):(a2F d ch).set (d.length%ch) ((a2F d ch).getD (d.length%ch) []++[x])=a2F (d++[x]) ch:=by
 have f:=a08 d.length h;refine a68 (by simp[a2F]) fun i g k=>?_
 simp only[a2F,b06,a01,a67]at g;rw[List.getElem_set];simp only[a2F,List.getElem_map,List.getElem_range,c7L]
 by_cases e:d.length%ch=i
 rw[if_pos e,if_pos e,lD,a51,a61 f,e];rfl;rw[if_neg e,if_neg e]
theorem d1A{fm:a0L}(m:a3y fm){ch:Nat}(a:fm.2.1=(ch:Int)){l:List Int}{n:Nat}(s:1≤n∧n≤4096)(o:l.length=n*ch)(c:l.all (fun x=>a1d x fm.2.2.1)=true):
  b0R (l,fm)=some (a8n fm.2.2.1 l ch,0):=by
 have k:1≤ch∧ch≤8:=by have:=m.2.2.1;have:=m.2.2.2.1;omega
 have H:l.length≤4096*8:=by rw[o];exact a16 s.2 k.2
 have j:1≤l.length:=by rw[o];exact Nat.mul_pos s.1 k.1
 have y:4≤fm.2.2.1∧fm.2.2.1≤24:=m.2.2.2.2;have c0:((ch:Int)==0)=false:=by simp;omega
 have h:=a1w (f:=a7R) (fun i=>(l,((l.length:Nat):Int),(i:Int),b2t,(fm.2.2.1,a2F (l.take i) ch,()),fm,())) l.length (b:=Sum.inl (b2t,a8n fm.2.2.1 l ch,())) (fun i hi=>by
  have t:a57 (i:Int) (ch:Int)=((i%ch:Nat):Int):=rfl;have r:=a08 i k.1;have p:∀d,(a2F d ch).length=ch:=fun d=>by simp[a2F]
  have u:decide ((0:Int)≤((i%ch:Nat):Int))=true:=decide_eq_true (a03 _);have z:a1d l[i] fm.2.2.1=true:=lA.1 c _ (a22 hi);have q:(l.take i).length=i:=by rw[a98];omega
  have w:((a2F (l.take i) ch).getD (i%ch) []).length≤32768:=by
   rw[lD];unfold a2F;rw[a51,a61 r];show(a9I (l.take i) ch (i%ch)).length≤32768;unfold a9I;rw[a01];exact Nat.le_trans (List.length_filter_le _ _) (by rw[a67];omega)
  have g:=c9i (l.take i) l[i] k.1;rw[q]at g;simp only[a7R,dlt hi,cT,a0D hi,oB,b3X y,z,bT,cF,a,c0,t,u,b06,p,dlt r,a06,tN,a0S (show((a2F (l.take i) ch).getD (i%ch) []).length+1<2147483648 by omega),beq_self_eq_true,Bool.and_true,a0B (show i<1000000 by omega)]
  erw[g]
  rw[a52 hi]) (by
  simp only[a7R,dge,cF,a37];rfl)
 have v:a2F ([]:List Int) ch=a33 ch []:=by
  refine a68 (by simp[a2F]) fun i F G=>?_
  simp[a2F,a9I]
 have q1:(((l.length:Nat):Int)==0)=false:=by simp;intro e;subst e;simp at j
 have A:a57 ((l.length:Nat):Int) (ch:Int)=0:=by
  show(((l.length%ch:Nat)):Int)=0;rw[o,a99];rfl
 have B:wrap .i64 (a20 ((l.length:Nat):Int) (ch:Int))=(n:Int):=by
  rw[show a20 ((l.length:Nat):Int) (ch:Int)=((l.length / ch:Nat):Int)from rfl,o,a44 _ k.1,a0C (by omega)]
 have C:decide ((n:Int) > 4096)=false:=by simp;omega
 have D:decide ((0:Int)≤(ch:Int))=true:=by simp
 have E:decide ((ch:Int)≤(ch:Int))=true:=by simp
 unfold b0R;simp only[a4t,m,decide_true,oB,bT,cF,q1,a,c0,A,show((0:Int) != 0)=false from rfl,B,C,D,E,tN,a0S (show ch<2147483648 by omega),a06,cT];simp only[List.take_zero,v]at h
 erw[h]
 rfl
theorem b5A{α:Type}(a:List α)(x:α)(b:List α):m0h (a++x::b) (a.length:Int)=some x:=by
 rw[a0D (by simp)];simp
theorem c0R:∀(a b:List Pc)(st off:Nat),a3f st off (a++b)=a3f st off a++a3f (st+a1k a) (off+(a0X a).length) b
 | [],b,st,off=>by simp[a3f,a1k,a0X]
 |y::a,b,st,off=>by
  simp only[a36,a3f,c0R a];simp[a1k,a0X,a66]
theorem c4p{fm:a0L}{all:List Pc}(h:all.length≤200){t:c1y}(b:t.1=fm)(a:t.2.2.2.1=a3f 0 0 all):∀(rest done:List Pc),done++rest=all→a2V fm (a1k done) rest→(a0X done).length≤700800*done.length→a1k done≤64*done.length→
  y0m a8z (((a1k done:Nat):Int),(((a0X done).length:Nat):Int),((a2D fm done:Nat):Int),all.map (·.1),((all.map (·.1)).length:Int),(done.length:Int),done.map (·.2.2),done.map (·.2.1),t,()) =
   some (.inl (((a1k all:Nat):Int),((a2D fm all:Nat):Int),all.map (·.2.2),all.map (·.2.1),t,()))
 | [],done,hd,_,_,_=>by
  obtain rfl:done=all:=by simpa using hd
  exact a0E (by simp only[a8z,a01,dge,cF])
 |x::rest,done,hd,hr,hb,hl=>by
  obtain⟨⟨c,j,l,m,n,A,o,p,B,d,e⟩,hr2⟩:=hr;have f:done.length<(all.map (·.1)).length:=by rw[←hd];simp
  have k:all.length=done.length+(rest.length+1):=by rw[←hd];simp
  have r:m0h (all.map (·.1)) (done.length:Int)=some x.1:=by
   have:=b5A (done.map (·.1)) x.1 (rest.map (·.1))
   rw[a01]at this;rw[←hd,pA,a19];exact this
  have g:m0h t.2.2.2.1 (done.length:Int)=some (((a1k done:Nat):Int),(((a0X done).length:Nat):Int),()):=by
   have:=b5A (a3f 0 0 done) (((a1k done:Nat):Int),(((a0X done).length:Nat):Int),()) (a3f (a1k done+a0W x.2.1) ((a0X done).length+x.2.2.length) rest)
   rw[a8P]at this;rw[a,←hd,c0R];simp only[a3f,a46];exact this
  have q:eqT (.pair (.int .i64) (.pair (.int .i64) (.pair (.int .i64) .unit))) x.1.2.2.1 t.1=true:=by rw[l,b];exact b8Y fm
  have s:=b7B o (w:=fm.2.2.1) p (a5F done);have v:(x.1.1 != ((a1k done:Nat):Int))=false:=by rw[c];simp
  have y:∀i:Int,(i != i)=false:=fun i=>by simp
  have u:((0:Int) != 0)=false:=rfl;have z:wrap .i64 (((a1k done:Nat):Int)+((a0W x.2.1:Nat):Int))=((a1k (done++[x]):Nat):Int):=by rw[a5G,a0C (by omega)];omega
  have w2:wrap .i64 ((((a0X done).length:Nat):Int)+((x.2.2.length:Nat):Int))=(((a0X (done++[x])).length:Nat):Int):=by rw[a9n,lN,a0C (by omega)];omega
  rw[a0F (s':=(((a1k (done++[x]):Nat):Int),(((a0X (done++[x])).length:Nat):Int),((a2D fm (done++[x]):Nat):Int),all.map (·.1),((all.map (·.1)).length:Int),(((done++[x]).length:Nat):Int),(done++[x]).map (·.2.2),(done++[x]).map (·.2.1),t,())) (by
   simp only[a8z,dlt f,cT,r,oB];rw[q];simp only[bT,cF,oB,v,g,y,m,u,n]
   erw[s]
   simp only[oB,bT,cF,a01,a0S (show done.length+1<2147483648 by omega),cT,j,z,w2,a0B (show done.length<1000000 by omega)];simp[a2D,b3j])]
  exact c4p h b a rest (done++[x]) (by simpa using hd) (by rw[a5G];exact hr2) (by rw[a9n];simp only[lN,a07];omega) (by rw[a5G];simp only[lN,a07];omega)
theorem c4q{fm:a0L}(b:a3y fm){xs:List Pc}(c:a2V fm 0 xs)(g:xs.length≤200):a7x (mkT fm xs)=some (xs.map (·.2.2),xs.map (·.2.1),true):=by
 have h:=c4p g (t:=mkT fm xs) rfl rfl xs [] rfl c (by simp[a0X]) (by simp[a1k]);have a:a1S (mkT fm xs).1=some true:=by rw[a4t,decide_eq_true (show a3y (mkT fm xs).1 from b)]
 have f:decide (((a21 (mkT fm xs).2.2.2.2.1:Nat):Int) > (4096:Int))=false:=by simp[mkT];omega
 have k:(((a21 (mkT fm xs).2.2.2.1:Nat):Int) != ((a21 (mkT fm xs).2.2.2.2.1:Nat):Int))=false:=by simp[mkT,a8P]
 unfold a7x;simp only[a,oB,bT,cF,f,k]
 erw[h]
 simp only[oB,mkT,bne_self_eq_false,cF]
theorem b2u{α:Type}(a:List α)(x d:α)(b:List α):(a++x::b).getD a.length d=x:=by
 rw[lD];simp
theorem c2q{fm:a0L}{all:List Pc}(h:all.length≤200)(t:c1y)(A:List Nat)(e:A.length=4):∀(rest done:List Pc)(st:Nat),done++rest=all→a2V fm st rest→
  y0m a8F (all.map (·.1),((all.map (·.1)).length:Int),(done.length:Int),all.map (·.2.2),asI (A++nsP done),t,())=some (all.map (·.2.2),asI (A++nsP all),t,())
 | [],done,st,hd,_=>by
  obtain rfl:done=all:=by simpa using hd
  exact a0E (by simp only[a8F,a01,dge,cF])
 |x::rest,done,st,hd,hr=>by
  obtain⟨⟨m,d,n,o,p,q,r,s,u,b,c⟩,hr2⟩:=hr;have k:done.length<(all.map (·.1)).length:=by rw[←hd];simp
  have g:done.length<(all.map (·.2.2)).length:=by rw[←hd];simp
  have j:m0h (all.map (·.1)) (done.length:Int)=some x.1:=by
   have:=b5A (done.map (·.1)) x.1 (rest.map (·.1))
   rw[a01]at this;rw[←hd,pA,a19];exact this
  have hp:(all.map (·.2.2)).getD done.length []=x.2.2:=by
   have:=b2u (done.map (·.2.2)) x.2.2 [] (rest.map (·.2.2))
   rw[a01]at this;rw[←hd,pA,a19];exact this
  have a:decide ((0:Int)≤(done.length:Int))=true:=decide_eq_true (a03 _);have i:done.length<all.length:=by rw[←hd];simp
  have f:(asI (A++nsP done)).length+2<2147483648:=by simp only[asI,a01,lN,b5z];omega
  have l:wrap .u64 ((x.2.2.length:Nat):Int)=((x.2.2.length:Nat):Int):=a0K (by omega);have w2:wrap .u64 ((a0W x.2.1:Nat):Int)=((a0W x.2.1:Nat):Int):=a0K (by omega);rw[a0F (s':=(all.map (·.1),((all.map (·.1)).length:Int),(((done++[x]).length:Nat):Int),all.map (·.2.2),asI (A++nsP (done++[x])),t,())) (by
   simp only[a8F,dlt k,dlt g,a,a06,cT,j,oB,a0S f,tN,hp,l,d,w2,a0B (show done.length<1000000 by omega)];simp[c9e,asI])]
  exact c2q h t A e rest (done++[x]) _ (by simpa using hd) hr2
theorem c2r{all:List (List Int)}(g:all.length≤200)(h:∀p∈all,p.length≤700800):∀(rest done:List (List Int)) (out:List Int),done++rest=all→out.length+700800*rest.length≤150000000→
  y0m a8G ((all.length:Int),(done.length:Int),out,all,())=some (out++rest.flatten,())
 | [],done,out,hd,_=>by
  obtain rfl:done=all:=by simpa using hd
  rw[a0E (b:=(out,())) (by simp only[a8G,dge,cF])]
  simp
 |p::rest,done,out,hd,ho=>by
  have f:done.length<all.length:=by rw[←hd];simp
  have hp:all.getD done.length []=p:=by rw[←hd];exact b2u done p [] rest
  have a:=h p (by rw[←hd];simp);have k:decide ((0:Int)≤(done.length:Int))=true:=decide_eq_true (a03 _);simp only[lC]at ho;rw[a0F (s':=((all.length:Int),(((done++[p]).length:Nat):Int),out++p,all,())) (by
   simp only[a8G,dlt f,k,a06,cT,tN,hp,a0S (show out.length+p.length<2147483648 by omega),a0B (show done.length<1000000 by omega)]
   simp)]
  rw[c2r g h rest (done++[p]) (out++p) (by simpa using hd) (by simp only[lN];omega)]
  simp
theorem c0S{fm:a0L}:∀{xs:List Pc}{st:Nat},a2V fm st xs→∀p∈xs.map (·.2.2),p.length≤700800
 | [],_,_,p,hp=>by simp at hp
 |x::xs,st,h,p,hp=>by
  rcases mC.1 hp with rfl|hp;exact h.1.2.2.2.2.2.2.2.2.2.2;exact c0S h.2 p hp
theorem b8D:∀(l:List Nat),(∀n∈l,n<9223372036854775808)→∀b∈l.flatMap a0J,0≤b∧b<256:=fun l h b hb=>by
 obtain⟨n,g,hb⟩:=a70.1 hb;exact c0B 8 n (by rw[show(128:Nat)^(8+1)=9223372036854775808 from by decide];exact h n g) b hb
theorem c4U{fm:a0L}(g:a3y fm){xs:List Pc}(h:a2V fm 0 xs)(k:xs.length≤200):∀b∈a1o fm xs,0≤b∧b<256:=fun b hb=>by
 unfold a1o at hb;rcases mA.1 hb with hb|hb;simp only[b9e,mC,a38,or_false]at hb;omega;rcases mA.1 hb with hb|hb;exact b8D _ (fun n f=>a09 (a7B g h k n f) (by decide)) b hb;exact b6m _ _ b hb
theorem c2s{fm:a0L}(f:a3y fm){xs:List Pc}(g:a2V fm 0 xs)(h:xs.length≤200):a9j (mkT fm xs)=some (a6t fm xs,0):=by
 obtain⟨s,t,u,v,w,x⟩:=id f;have c:=c2q h (mkT fm xs) [fm.1.toNat,fm.2.1.toNat,fm.2.2.1.toNat,xs.length] rfl xs [] 0 rfl g;have hp:=b7r (ns:=a2X fm xs) (fun n j=>a09 (a7B f g h n j) (by decide)) (by simp only[a2X,lN,b5z,lC,a05];omega);have hv:=b4x (a2X fm xs) fun n i=>a09 (a7B f g h n i) (by decide);have z:(a2X fm xs).length≤404:=by simp only[a2X,lN,b5z,lC,a05];omega
 have y:=c2p f g h;have e:=b7x (n:=a2D fm xs) (k:=8) (by have:=c0O (a2a fm.2.2.1 (a5F xs));unfold prm at this;unfold a2D;omega) (by omega);have d:=b7x (n:=a3G (a1o fm xs)) (k:=4) (by have:=b6n (a1o fm xs);omega) (by omega);have m:=b7A (l:=a1o fm xs) (by unfold short;omega) (c4U f g h);have hb:=c2r (all:=xs.map (·.2.2)) (by simpa using h) (c0S g) (xs.map (·.2.2)) [] (a1o fm xs++a7H 4 (a3G (a1o fm xs))) rfl (by simp only[lN,a01,a9J];omega);have o:wrap .u64 fm.1=((fm.1.toNat:Nat):Int):=by rw[a0K (by omega)];omega
 have w2:wrap .u64 fm.2.1=((fm.2.1.toNat:Nat):Int):=by rw[a0K (by omega)];omega
 have p:wrap .u64 fm.2.2.1=((fm.2.2.1.toNat:Nat):Int):=by rw[a0K (by omega)];omega
 have q:wrap .u64 ((a21 (xs.map (·.1)):Nat):Int)=((xs.length:Nat):Int):=by rw[a01,a0K (by omega)]
 have r:wrap .u64 ((a3G (a1o fm xs):Nat):Int)=((a3G (a1o fm xs):Nat):Int):=a0K (by have:=b6n (a1o fm xs);omega);unfold a9j;rw[c4q f g h];simp only[oB,bT,cF,mkT,o,w2,p,q]
 erw[c]
 simp only[oB]
 erw[hp]
 simp only[oB,a0S (show 4+((a2X fm xs).flatMap a0J).length<2147483648 by omega),cT]
 erw[e]
 have b:b00 (b00 ([(75:Int),(78:Int),(83:Int),(68:Int)]:List Int) ((a2X fm xs).flatMap a0J)) (a7H 8 (a2D fm xs))=a1o fm xs:=aA ..;have a:(b00 ([(75:Int),(78:Int),(83:Int),(68:Int)]:List Int) ((a2X fm xs).flatMap a0J)).length+(a7H 8 (a2D fm xs)).length<2147483648:=by
  have:=congrArg a21 b
  simp only[b07,lN]at this⊢;omega
 simp only[oB,a0S a,cT,b,m,r]
 erw[d]
 simp only[oB,a0S (show(a1o fm xs).length+(a7H 4 (a3G (a1o fm xs))).length<2147483648 by rw[a9J];omega),cT]
 erw[hb]
 simp only[oB,a6t,a0X,a69,aA]
theorem b7C{all:List a1l}(f:all.length≤200):∀(rest done:List a1l)(out:List Int),done++rest=all→(∀b∈rest,a3i b)→out.length+32768*rest.length≤7000000→
  y0m a5k ((all.length:Int),(done.length:Int),out,all,())=some (out++rest.flatMap wvB,())
 | [],done,out,hd,_,_=>by
  obtain rfl:done=all:=by simpa using hd
  rw[a0E (b:=(out,())) (by simp only[a5k,dge,cF])]
  simp
 |p::rest,done,out,hd,hb,ho=>by
  have k:done.length<all.length:=by rw[←hd];simp
  have hp:all.getD done.length ((0:Int),([]:List (List Int)),())=p:=by rw[←hd];exact b2u done p _ rest
  have g:=hb p (by simp);have c:(wvB p).length≤4096*8:=by rw[c1z];exact a16 g.2.2.2.2.2.1 g.2.2.2.1
  have a:decide ((0:Int)≤(done.length:Int))=true:=decide_eq_true (a03 _);simp only[lC]at ho;rw[a0F (s':=((all.length:Int),(((done++[p]).length:Nat):Int),out++wvB p,all,())) (by
   simp only[a5k,dlt k,a,a06,cT,tN,hp,c4o g,oB,a0S (show out.length+(wvB p).length<2147483648 by omega),a0B (show done.length<1000000 by omega)]
   simp)]
  rw[b7C f rest (done++[p]) (out++wvB p) (by simpa using hd) (fun b h=>hb b (by simp[h])) (by simp only[lN];omega)]
  simp
theorem c4r{fm:a0L}:∀{xs:List Pc}{st:Nat},a2V fm st xs→∀b∈xs.map (·.2.1),a3i b
 | [],_,_,p,hp=>by simp at hp
 |x::xs,st,h,p,hp=>by
  rcases mC.1 hp with rfl|hp;exact h.1.2.2.2.2.2.2.1;exact c4r h.2 p hp
theorem c6M{fm:a0L}(k:a3y fm){xs:List Pc}(f:a2V fm 0 xs)(g:xs.length≤200):a5l (mkT fm xs)=some (a5F xs,0):=by
 have h:=b7C (all:=xs.map (·.2.1)) (by simpa using g) (xs.map (·.2.1)) [] [] rfl (c4r f) (by simp;omega);unfold a5l;rw[c4q k f g];simp only[oB,bT,cF]
 erw[h]
 simp[a5F,List.flatMap_map]
theorem c7U{fm:a0L}(g:a3y fm){xs:List Pc}(f:a2V fm 0 xs)(h:xs.length≤200):b1Z (mkT fm xs)=some true:=by
 unfold b1Z;rw[c4q g f h];rfl
theorem d1B{P A R:List Int}(b:(P++(A++R)).length<1000000000):a4Q (ord P (A++R),(A.length:Int))=some (A,ord (P++A) R):=by
 simp only[lN]at b;have c:v0m (A.length:Int) 0=(A.length:Int):=by rw[b5g];omega
 have d:wrap .i64 (((P++(A++R)).length:Int)-(P.length:Int))=((A++R).length:Int):=by
  simp only[lN];rw[a0C (by omega)];omega
 have h:decide ((A.length:Int) > ((A++R).length:Int))=false:=by simp;omega
 have w2:wrap .i64 ((P.length:Int)+(A.length:Int))=(((P++A).length:Nat):Int):=by
  simp only[lN];rw[a0C (by omega)];omega
 have g:decide ((0:Int)≤(((P++A).length:Nat):Int))=true:=by simp;omega
 have f:decide ((((P++A).length:Nat):Int)≤((P++(A++R)).length:Int))=true:=by simp;omega
 have k:decide ((0:Int)≤(P.length:Int))=true:=by simp
 have a:decide ((P.length:Int)≤(((P++A).length:Nat):Int))=true:=by simp;omega
 have e:a78 P.length (a65 (P++A).length (P++(A++R)))=A:=by
  rw[←aA,a82,b08]
 unfold a4Q a1E ord;simp only[show((0:Int) != 0)=false from rfl,cF,oB,c,d,h,w2,g,f,k,a,a06,cT,tN,e,a0S (show A.length<2147483648 by omega),aA]
theorem c4s{all:List Int}(a:all.length≤8)(z:List Int×(Int×Int×Unit)):∀(rest done:List Int)(n:Nat),done++rest=all→(∀b∈rest,0≤b∧b<256)→n<256^done.length→
  y0m a3C ((n:Int),(all.length:Int),(done.length:Int),all,z,())=some (((b4Y n rest:Nat):Int),z,())
 | [],done,n,hd,_,_=>by
  obtain rfl:done=all:=by simpa using hd
  exact a0E (by simp only[a3C,dge,cF];rfl)
 |x::rest,done,n,hd,hb,hn=>by
  have g:done.length<all.length:=by rw[←hd];simp
  have hp:all.getD done.length 0=x:=by rw[←hd];exact b2u done x _ rest
  have d:=hb x (by simp);have f:decide ((0:Int)≤(done.length:Int))=true:=decide_eq_true (a03 _);have c:256^done.length≤256^7:=a56 (by omega) (by omega);have k:(256:Nat)^7=72057594037927936:=by decide
  have w:wrap .u64 ((wrap .u64 ((n:Int)*(256:Int)))+(wrap .u64 x))=((n*256+x.toNat:Nat):Int):=by
   rw[a0K (n:=(n:Int)*256) (by omega),a0K (n:=x) (by omega),a0K (by omega)];omega
  rw[a0F (s':=(((n*256+x.toNat:Nat):Int),(all.length:Int),(((done++[x]).length:Nat):Int),all,z,())) (by
   simp only[a3C,dlt g,f,a06,cT,tN,hp,w,a0B (show done.length<1000000 by omega)]
   simp)]
  exact c4s a z rest (done++[x]) _ (by simpa using hd) (fun b h=>hb b (by simp[h])) (by rw[lN,a07,a45];omega)
theorem c5q{P A R:List Int}{k:Nat}(a:A.length=k)(g:k≤8)(hb:∀b∈A,0≤b∧b<256)(c:(P++(A++R)).length<1000000000):a3w (ord P (A++R),(k:Int))=some (((b4Y 0 A:Nat):Int),ord (P++A) R):=by
 subst a;have h:=c4s g (ord (P++A) R) A [] 0 rfl hb (by decide);have f:a2S (A.length:Int)=some (A.length:Int):=by
  simp only[a2S,b5f,b5g];congr 1;omega
 unfold a3w;simp only[f,oB,d1B c]
 erw[h]
 rfl
@[reducible] def b7M:Type:=a0L×(List Int×(List Int×(Int×(Int×(Int×Unit)))))
def a2L(xs:List Pc):List Int:=xs.map fun x=>((x.2.2.length:Nat):Int)
def a2M(xs:List Pc):List Int:=xs.map fun x=>((a0W x.2.1:Nat):Int)
def b6p(fm:a0L)(xs:List Pc)(pr bg:Nat):b7M:=(fm,a2L xs,a2M xs,((a1k xs:Nat):Int),(pr:Int),(bg:Int),())
def b9f:b7M:=((0,0,0,()),[],[],0,0,0,())
theorem b8E{all:List Pc}(h:all.length≤200)(x:List Int)(fm:a0L)(z:b7M)(u:Int×(Int×Int×Unit)){R:List Int}:∀(rest done:List Pc)(P:List Int)(st:Nat),done++rest=all→a2V fm st rest→
  (P++((nsP rest).flatMap a0J++R)).length<1000000000→
  y0m a5v (x,(all.length:Int),(done.length:Int),z,(fm,a2L done,a2M done,u),ord P ((nsP rest).flatMap a0J++R),()) =
   some (x,z,(fm,a2L all,a2M all,u),ord (P++(nsP rest).flatMap a0J) R,())
 | [],done,P,st,hd,_,_=>by
  obtain rfl:done=all:=by simpa using hd
  exact a0E (by simp only[a5v,dge,cF];simp[nsP])
 |y::rest,done,P,st,hd,hr,hl=>by
  obtain⟨⟨o,p,q,r,s,t,v,w,A,a,b⟩,hr2⟩:=hr;have k:done.length<all.length:=by rw[←hd];simp
  have e:(nsP (y::rest)).flatMap a0J++R=a0J y.2.2.length++(a0J (a0W y.2.1)++((nsP rest).flatMap a0J++R)):=by simp[nsP]
  rw[e]at hl⊢;have g:=a1B hl;have f:=a1B g;have i:=a2Q (n:=y.2.2.length) (most:=1048704) (by omega) (by omega) hl;have j:=a2Q (n:=a0W y.2.1) (most:=4096) (by omega) (by omega) g;have l:wrap .i64 ((y.2.2.length:Nat):Int)=((y.2.2.length:Nat):Int):=a0C (by omega);have w2:wrap .i64 ((a0W y.2.1:Nat):Int)=((a0W y.2.1:Nat):Int):=a0C (by omega);have m:wrap .u64 ((done.length:Int)+1)=(((done++[y]).length:Nat):Int):=by rw[a0K (by omega)];simp
  have c:(a2L done).length=done.length:=by simp[a2L]
  have d:(a2M done).length=done.length:=by simp[a2M]
  rw[a0F (s':=(x,(all.length:Int),(((done++[y]).length:Nat):Int),z,(fm,a2L (done++[y]),a2M (done++[y]),u),ord ((P++a0J y.2.2.length)++a0J (a0W y.2.1)) ((nsP rest).flatMap a0J++R),())) (by
   simp only[a5v,dlt k,cT,i,j,oB,c,d,a0S (show done.length+1<2147483648 by omega),l,w2,m];simp[a2L,a2M])]
  rw[b8E h x fm z u rest (done++[y]) _ _ (by simpa using hd) hr2 f];simp[nsP]
theorem c4t{all:List Pc}(h:all.length≤200)(fm:a0L)(z:b7M)(v:List Int)(u:Int×(Int×Unit)):∀(rest done:List Pc)(st:Nat),done++rest=all→a2V fm st rest→a1k done≤64*done.length→
  y0m a5w ((all.length:Int),(done.length:Int),z,(fm,v,a2M all,((a1k done:Nat):Int),u),())=some (.inl (z,(fm,v,a2M all,((a1k all:Nat):Int),u),()))
 | [],done,st,hd,_,_=>by
  obtain rfl:done=all:=by simpa using hd
  exact a0E (by simp only[a5w,dge,cF])
 |y::rest,done,st,hd,hr,ho=>by
  obtain⟨⟨i,j,l,m,n,o,d,p,q,b,c⟩,hr2⟩:=hr;have f:done.length<all.length:=by rw[←hd];simp
  have g:done.length<(a2M all).length:=by rw[←hd];simp[a2M]
  have hp:(a2M all).getD done.length 0=((a0W y.2.1:Nat):Int):=by
   have:=b2u (a2M done) ((a0W y.2.1:Nat):Int) 0 (a2M rest)
   rw[←hd];simp only[a2M,a01,pA,a19]at this⊢;exact this
  have k:=d.2.2.2.2.1;have e:(((a0W y.2.1:Nat):Int)==0)=false:=by simp;omega
  have a:decide ((0:Int)≤(done.length:Int))=true:=decide_eq_true (a03 _);have w:wrap .i64 (((a1k done:Nat):Int)+((a0W y.2.1:Nat):Int))=((a1k (done++[y]):Nat):Int):=by rw[a5G,a0C (by omega)];omega
  rw[a0F (s':=((all.length:Int),(((done++[y]).length:Nat):Int),z,(fm,v,a2M all,((a1k (done++[y]):Nat):Int),u),())) (by
   simp only[a5w,dlt f,dlt g,a,a06,cT,tN,hp,e,cF,w,a0B (show done.length<1000000 by omega)]
   simp)]
  exact c4t h fm z v u rest (done++[y]) _ (by simpa using hd) hr2 (by rw[a5G];simp only[lN,a07];omega)
theorem c4V{fm:a0L}(p:a3y fm){xs:List Pc}(i:a2V fm 0 xs)(g:xs.length≤200){A C R:List Int}(a:A.length=8)(bA:∀b∈A,0≤b∧b<256)(t:C.length=4)(G:∀b∈C,0≤b∧b<256)(hR:R.length≤150000000)
  {H:List Int}(o:H=b9e++((a2X fm xs).flatMap a0J++A)):
  a5x (H++(C++R))=some (if a3G H=b4Y 0 C then(b6p fm xs (b4Y 0 A) (H.length+4),0)else(b9f,5)):=by
 obtain⟨f1,f2,f3,f4,f5,f6⟩:=id p;have hv:=b4x (a2X fm xs) fun n y=>a09 (a7B p i g n y) (by decide);have hl:(a2X fm xs).length≤404:=by simp only[a2X,lN,b5z,lC,a05];omega
 have I:∀b∈H,0≤b∧b<256:=fun b hb=>by
  rw[o]at hb;rcases mA.1 hb with hb|hb;simp only[b9e,mC,a38,or_false]at hb;omega;rcases mA.1 hb with hb|hb;exact b8D _ (fun n y=>a09 (a7B p i g n y) (by decide)) b hb;exact bA b hb
 have c:H.length=4+((a2X fm xs).flatMap a0J).length+8:=by rw[o];simp only[b9e,lN,lC,a05,a];omega
 have S:=b7A (l:=H) (by unfold short;omega) I;have m:(a2X fm xs).flatMap a0J=a0J fm.1.toNat++(a0J fm.2.1.toNat++(a0J fm.2.2.1.toNat++(a0J xs.length++(nsP xs).flatMap a0J))):=by simp[a2X]
 obtain⟨V,O⟩:∃V,(a2X fm xs).flatMap a0J=V:=⟨_,rfl⟩;rw[O]at hv c m o;have ex:H++(C++R)=75::78::83::68::(V++(A++(C++R))):=by rw[o];simp[b9e]
 have h:(V++(A++(C++R))).length<1000000000:=by simp only[lN,a,t];omega
 have B:([]++(a0J fm.1.toNat++(a0J fm.2.1.toNat++(a0J fm.2.2.1.toNat++(a0J xs.length++((nsP xs).flatMap a0J++(A++(C++R)))))))).length<1000000000:=by rw[m]at h;simpa using h
 have D:=a1B B;have E:=a1B D;have F:=a1B E;have U:=a1B F;have X:=a2Q (n:=fm.1.toNat) (most:=1048576) (by omega) (by omega) B;have Y:=a2Q (n:=fm.2.1.toNat) (most:=8) (by omega) (by omega) D;have Z:=a2Q (n:=fm.2.2.1.toNat) (most:=24) (by omega) (by omega) E;have n4:=a2Q (n:=xs.length) (most:=4096) (by omega) (by omega) F;have w1:wrap .i64 ((fm.1.toNat:Nat):Int)=fm.1:=by rw[a0C (by omega)];omega
 have w2:wrap .i64 ((fm.2.1.toNat:Nat):Int)=fm.2.1:=by rw[a0C (by omega)];omega
 have w3:wrap .i64 ((fm.2.2.1.toNat:Nat):Int)=fm.2.2.1:=by rw[a0C (by omega)];omega
 have f:=b8E g (H++(C++R)) fm b9f (0,0,0,()) xs [] _ 0 rfl i U;have N:([]++a0J fm.1.toNat++a0J fm.2.1.toNat++a0J fm.2.2.1.toNat++a0J xs.length)++(nsP xs).flatMap a0J=V:=by rw[m];simp
 rw[N]at f;have n8:=c5q (P:=V) a (by omega) bA h;have n9:=c5q (P:=V++A) t (by omega) G (a1B h);have k:wrap .i64 (((V++(A++(C++R))).length:Int)-(V.length:Int))=((A++(C++R)).length:Int):=by
  simp only[lN]at h⊢;rw[a0C (by omega)];omega
 have q:decide (((A++(C++R)).length:Int)<12)=false:=by simp[a,t];omega
 have u:wrap .i64 ((4:Int)+(((V++A).length:Nat):Int))=((H.length:Nat):Int):=by
  rw[c];simp only[lN,a];rw[a0C (by omega)];omega
 have r:decide ((0:Int)≤((H.length:Nat):Int))=true:=decide_eq_true (a03 _);have s:decide (((H.length:Nat):Int)≤(((H++(C++R)).length:Nat):Int))=true:=by simp;omega
 have d:wrap .i64 (((H.length:Nat):Int)+4)=((H.length+4:Nat):Int):=by rw[a0C (by omega)];omega
 have T:wrap .u64 ((a3G H:Nat):Int)=((a3G H:Nat):Int):=a0K (by have:=b6n H;omega);have K:decide (((a21 (H++(C++R)):Nat):Int)<(4:Int))=false:=by simp;omega
 have L:decide ((4:Int)≤((a21 (H++(C++R)):Nat):Int))=true:=by simp;omega
 have v:((b2s (a65 4 (H++(C++R)))) != ([75,78,83,68]:List Int))=false:=by rw[ex];rfl
 have w:a78 4 (a65 (a21 (H++(C++R))) (H++(C++R)))=V++(A++(C++R)):=by rw[a37,ex];rfl
 have e:a5K (V++(A++(C++R)))=some (ord [] (a0J fm.1.toNat++(a0J fm.2.1.toNat++(a0J fm.2.2.1.toNat++(a0J xs.length++((nsP xs).flatMap a0J++(A++(C++R)))))))):=by
  unfold a5K;rw[a0S (by omega),cT,m];simp[ord]
 have j:=c4t g fm b9f (a2L xs) (((b4Y 0 A:Nat):Int),((H.length+4:Nat):Int),()) xs [] 0 rfl i (by simp[a1k]);have x:(a2M xs).length=xs.length:=by simp[a2M]
 have Q:=(b7y i).2;have M:decide (((a1k xs:Nat):Int) > (4194304:Int))=false:=by simp;omega
 unfold a5x;simp only[K,cF,L,cT,v,w,e,oB,X,Y,Z,n4,w1,w2,w3]
 erw[f]
 simp only[oB,a3v,a1E,a3V,ord,show((0:Int) != 0)=false from rfl,cF,k,q]
 erw[n8]
 simp only[oB,ord,u,r,s,a06,cT,tN,a82,S,T]
 erw[n9]
 simp only[oB]
 by_cases hq:a3G H=b4Y 0 C
 have z:(((a3G H:Nat):Int) != ((b4Y 0 C:Nat):Int))=false:=by rw[hq];simp
 simp only[z,cF,if_pos hq,a4t,p,decide_true,bT,oB,d,x]
 erw[j]
 simp only[M,oB,cF];rfl;have z:(((a3G H:Nat):Int) != ((b4Y 0 C:Nat):Int))=true:=by simp;omega
 simp only[z,cT,if_neg hq];rfl
theorem c4W{B P R:List Int}{fm:a0L}{st:Nat}{x:Pc}(w:c4i fm st x)(g:B=P++(x.2.2++R))(G:B.length<1000000000){pl:b7M}(hp:pl.1=fm){i:Int}(v:m0h pl.2.1 i=some ((x.2.2.length:Nat):Int))(h:m0h pl.2.2.1 i=some ((a0W x.2.1:Nat):Int)):
  a6N (B,pl,i,((P.length:Nat):Int),(st:Int))=some (x.1,x.2.1,0):=by
 obtain⟨m,p,q,r,C,s,D,E,F,n,o⟩:=w;have u:B.length=P.length+(x.2.2.length+R.length):=by rw[g];simp
 have A:wrap .i64 (((a21 B:Nat):Int)-((P.length:Nat):Int))=((x.2.2.length+R.length:Nat):Int):=by rw[a0C (by omega)];omega
 have a:decide (((x.2.2.length+R.length:Nat):Int)<((x.2.2.length:Nat):Int))=false:=decide_eq_false (by omega);have w2:wrap .i64 (((P.length:Nat):Int)+((x.2.2.length:Nat):Int))=((P.length+x.2.2.length:Nat):Int):=by rw[a0C (by omega)];omega
 have b:decide ((0:Int)≤((P.length+x.2.2.length:Nat):Int))=true:=decide_eq_true (a03 _);have c:decide (((P.length+x.2.2.length:Nat):Int)≤((a21 B:Nat):Int))=true:=by simp;omega
 have d:decide ((0:Int)≤((P.length:Nat):Int))=true:=decide_eq_true (a03 _);have e:decide (((P.length:Nat):Int)≤((P.length+x.2.2.length:Nat):Int))=true:=decide_eq_true (by omega);have l:a78 P.length (a65 (P.length+x.2.2.length) B)=x.2.2:=by
  rw[g,←aA,←lN,a82,b08]
 have f:=s [] (by simp);rw[a26]at f;have k:((0:Int) != 0)=false:=rfl;have j:decide (((x.2.2.length:Nat):Int)<((x.2.2.length:Nat):Int))=false:=by simp
 have t:eqT (.pair (.int .i64) (.pair (.int .i64) (.pair (.int .i64) .unit))) x.1.2.2.1 pl.1=true:=by rw[q,hp];exact b8Y fm
 have y:(x.1.1 != (st:Int))=false:=by rw[m];simp
 have z:(((a0W x.2.1:Nat):Int) != ((a0W x.2.1:Nat):Int))=false:=by simp
 unfold a6N;simp only[v,oB,A,a,cF,w2,b,c,d,e,a06,cT,tN,l,f,k,j];rw[t];simp only[bT,cF,y,h,oB,p,z,r,k]
def c6N:c1y:=((0,0,0,()),0,0,[],[],())
theorem c9j{done rest:List Pc}(x:Pc):m0h (a2L (done++x::rest)) (done.length:Int)=some ((x.2.2.length:Nat):Int):=by
 have:=b5A (a2L done) ((x.2.2.length:Nat):Int) (a2L rest)
 simp only[a2L,a01,pA,a19]at this⊢;exact this
theorem d1C{done rest:List Pc}(x:Pc):m0h (a2M (done++x::rest)) (done.length:Int)=some ((a0W x.2.1:Nat):Int):=by
 have:=b5A (a2M done) ((a0W x.2.1:Nat):Int) (a2M rest)
 simp only[a2M,a01,pA,a19]at this⊢;exact this
theorem c2t{fm:a0L}{all tail:List Pc}(g:all.length≤200){B Hd Z:List Int}(m:B.length<1000000000){pl:b7M}(hp:pl.1=fm)(f:pl.2.1=a2L all)(k:pl.2.2.1=a2M all)(a:pl.2.2.2.2.2.1=((Hd.length:Nat):Int))(z:c1y):
  ∀(rest done:List Pc),done++(rest++tail)=all→B=Hd++(a0X done++(a0X rest++Z))→a2V fm (a1k done) rest→a1k done≤64*done.length→
  y0m a3D (B,((Hd.length+(a0X done).length:Nat):Int),a2L all,(all.length:Int),(done.length:Int),z,pl,mkT fm done,()) =
   y0m a3D (B,((Hd.length+(a0X (done++rest)).length:Nat):Int),a2L all,(all.length:Int),((done++rest).length:Int),z,pl,mkT fm (done++rest),())
 | [],done,_,_,_,_=>by rw[a26]
 |x::rest,done,hd,hB,hr,ho=>by
  obtain⟨n,d⟩:=hr;have c:done.length<all.length:=by rw[←hd];simp
  have h:B=(Hd++a0X done)++(x.2.2++(a0X rest++Z)):=by rw[hB];simp[a0X]
  have t:Hd.length+(a0X done).length+x.2.2.length≤B.length:=by rw[h];simp;omega
  have e:=c9j (done:=done) (rest:=rest++tail) x;have b:=d1C (done:=done) (rest:=rest++tail) x;rw[a36]at hd;rw[hd]at e b;have l:=c4W n h m hp (i:=(done.length:Int)) (by rw[f];exact e) (by rw[k];exact b);rw[lN]at l;obtain⟨A,q,C,D,E,F,r,s,G,o,p⟩:=n;have j:=b7B r (w:=fm.2.2.1) s (a5F done);have u:(a3f 0 0 done).length+1<2147483648:=by rw[a8P];omega
  have v:wrap .i64 (((Hd.length+(a0X done).length:Nat):Int)+((x.2.2.length:Nat):Int))=((Hd.length+(a0X (done++[x])).length:Nat):Int):=by
   rw[a9n,lN,a0C (by omega)];omega
  have w2:wrap .i64 (((a1k done:Nat):Int)+((a0W x.2.1:Nat):Int))=((a1k (done++[x]):Nat):Int):=by rw[a5G,a0C (by omega)];omega
  have y:wrap .i64 (((Hd.length+(a0X done).length:Nat):Int)-((Hd.length:Nat):Int))=(((a0X done).length:Nat):Int):=by rw[a0C (by omega)];omega
  rw[a0F (s':=(B,((Hd.length+(a0X (done++[x])).length:Nat):Int),a2L all,(all.length:Int),(((done++[x]).length:Nat):Int),z,pl,mkT fm (done++[x]),())) (by
   simp only[a3D,dlt c,cT,e,oB,mkT]
   erw[l]
   simp only[oB,show((0:Int) != 0)=false from rfl,cF]
   erw[j]
   simp only[oB,a0S u,a01,a0S (show done.length+1<2147483648 by omega),cT,v,q,w2,a,y,a0B (show done.length<1000000 by omega)];simp[a2D,b3j,b4X])]
  rw[List.append_cons done x rest];exact c2t (Z:=Z) g m hp f k a z rest (done++[x]) (by simpa using hd) (by rw[h,a9n];simp) (by rw[a5G];exact d) (by rw[a5G];simp only[lN,a07];omega)
theorem c4X{fm:a0L}(a:a3y fm){xs:List Pc}(b:a2V fm 0 xs)(g:xs.length≤200){R:List Int}(k:R.length≤150000000):
  a5x (a1o fm xs++(a7H 4 (a3G (a1o fm xs))++R))=some (b6p fm xs (a2D fm xs) ((a1o fm xs).length+4),0):=by
 have f:=c0O (a2a fm.2.2.1 (a5F xs));have h:=c4V a b g (A:=a7H 8 (a2D fm xs)) (C:=a7H 4 (a3G (a1o fm xs))) (R:=R) (a9J ..) (b6m 8 _) (a9J ..) (b6m 4 _) k (H:=a1o fm xs) rfl;rw[b9d 4 _ (by have:=b6n (a1o fm xs);omega),b9d 8 _ (by unfold prm at f;unfold a2D;omega),if_pos rfl]at h;exact h
theorem c6O{fm:a0L}(d:a3y fm){xs:List Pc}(a:a2V fm 0 xs)(h:xs.length≤200):a8e (a6t fm xs)=some (mkT fm xs,0):=by
 have i:=b6l a;have l:=c2p d a h;have j:=c4X d a h (R:=a0X xs) (by omega);have k:(a6t fm xs).length=(a1o fm xs).length+4+(a0X xs).length:=by simp[a6t,a9J];omega
 have f:(a1o fm xs++a7H 4 (a3G (a1o fm xs))).length=(a1o fm xs).length+4:=by simp[a9J]
 have g:=c2t (fm:=fm) h (B:=a6t fm xs) (Hd:=a1o fm xs++a7H 4 (a3G (a1o fm xs))) (Z:=[]) (by omega) (pl:=b6p fm xs (a2D fm xs) ((a1o fm xs).length+4)) rfl rfl rfl (by rw[f];rfl) c6N (tail:=[]) xs [] (by simp) (by simp[a6t,a0X]) a (by simp[a1k]);rw[f,a74]at g;have b:y0m a3D (a6t fm xs,(((a1o fm xs).length+4+(a0X xs).length:Nat):Int),a2L xs,(xs.length:Int),(xs.length:Int),c6N,b6p fm xs (a2D fm xs) ((a1o fm xs).length+4),mkT fm xs,())=some (Sum.inl (a6t fm xs,(((a1o fm xs).length+4+(a0X xs).length:Nat):Int),c6N,b6p fm xs (a2D fm xs) ((a1o fm xs).length+4),mkT fm xs,())):=
  a0E (by simp only[a3D,dge,cF])
 rw[b]at g;have c:(a2L xs).length=xs.length:=by simp[a2L]
 have e:decide ((((a1o fm xs).length+4+(a0X xs).length:Nat):Int)<(((a6t fm xs).length:Nat):Int))=false:=by rw[k];simp
 unfold a8e;rw[show a6t fm xs=a1o fm xs++(a7H 4 (a3G (a1o fm xs))++a0X xs)from rfl,j];simp only[oB,show((0:Int) != 0)=false from rfl,cF,b6p,c]
 erw[g]
 simp only[oB,b6p,mkT]
 erw[e]
 simp only[cF,bne_self_eq_false]
def c1A(fm:a0L)(l:List Int)(ch sz total:Nat)(effort:Int):Nat→List Pc→Prop
 |st,[]=>total≤st
 |st,x::xs=>st<total∧x.2.1=a8n fm.2.2.1 (b2j l ch st (min (st+sz) total)) ch∧a4E (x.2.1,fm,(st:Int),effort)=some (x.1,0)∧c4i fm st x∧c1A fm l ch sz total effort (st+sz) xs
def c0T(fm:a0L)(total:Nat)(xs:List Pc):c1y:=(fm,(total:Int),((a2D fm xs:Nat):Int),a3f 0 0 xs,xs.map (·.1),())
theorem c9k{fm:a0L}(M:a3y fm){ch:Nat}(b:fm.2.1=(ch:Int)){l:List Int}{total sz:Nat}(t:l.length=total*ch)(ht:total≤200)(hs:1≤sz∧sz≤64)(i:l.all (fun x=>a1d x fm.2.2.1)=true){effort:Int}(h0:0≤effort)(h3:effort≤3):
  ∀(k st:Nat)(done:List Pc),total≤st+k→a1k done=min st total→a5F done=l.take (min st total*ch)→a2V fm 0 done→done.length≤st→st≤300→
  ∃rest,c1A fm l ch sz total effort st rest∧a2V fm 0 (done++rest)∧a1k (done++rest)=total∧a5F (done++rest)=l∧
   y0m a3U (l,(sz:Int),effort,(total:Int),(((a0X done).length:Nat):Int),(st:Int),c0T fm total done,fm,())=some (.inl (c0T fm total (done++rest),())):=by
 obtain⟨f1,f2,f3,f4,f5,f6⟩:=id M;have s:1≤ch∧ch≤8:=by omega
 intro k
 induction k with
 |zero=>
  intro st done N h a o A K;have C:min st total=total:=by omega
  have v:decide ((st:Int)<(total:Int))=false:=by simp;omega
  rw[C]at h a;refine⟨[],by simpa[c1A]using N,by simpa using o,by simpa using h,by rw[a26,a,←t,a37],?_⟩;rw[a26];exact a0E (by simp only[a3U,v,cF])
 |succ k ih=>
  intro st done N h a o A K
  by_cases hlt:st<total
  have D:min st total=st:=by omega
  rw[D]at h a;obtain⟨en,d⟩:∃en,min (st+sz) total=en:=⟨_,rfl⟩;have e:st<en∧en≤total∧en≤st+sz:=by omega
  have B:en*ch≤l.length:=by rw[t];exact a27 _ e.2.1
  have h4:st*ch≤en*ch:=a27 _ (by omega);have h1:l.length≤200*8:=by rw[t];exact a16 ht s.2
  have f:=c7O (st:=st) B;have c:=c7Q (ch:=ch) (st:=st) (en:=en) i;have j:=d1r (w:=fm.2.2.1) f s (by omega) ⟨f5,f6⟩ c;have F:=b9c (w:=fm.2.2.1) f s.1;have H:=d1s (w:=fm.2.2.1) f s.1;have G:=d1A M b (l:=b2j l ch st en) (n:=en-st) (by omega) f c;obtain⟨g,p,S,q⟩:=d1q (fm:=fm) j (by omega) ⟨f1,f2⟩ (by rw[b];simp[a8n,a2F]) rfl (st:=st) (by omega) h0 h3;have m:=q.2.2.2.2.1;have L:=b7B j (w:=fm.2.2.1) rfl (a5F done);obtain⟨x,u⟩:∃x:Pc,x=(((st:Int),g),a8n fm.2.2.1 (b2j l ch st en) ch,p):=⟨_,rfl⟩;have T:x.1=((st:Int),g):=by rw[u]
  have r:x.2.1=a8n fm.2.2.1 (b2j l ch st en) ch:=by rw[u]
  have U:x.2.2=p:=by rw[u]
  rw[←u]at q;have E:=q.2.2.2.2.2.2.2.2.2.2;rw[U]at E;have h2:=b6l o;have y:a1k (done++[x])=min (st+sz) total:=by rw[a5G,r,F,h];omega
  have z:a5F (done++[x])=l.take (min (st+sz) total*ch):=by rw[b3j,r,H,a,d,c7P (by omega)]
  have I:a2V fm 0 (done++[x]):=c2n o (by rw[a46,h];exact q);obtain⟨rest,k1,O,P,Q,R⟩:=ih (st+sz) (done++[x]) (by omega) y z I (by simp only[lN,a07];omega) (by omega);have ea:done++[x]++rest=done++x::rest:=by simp
  rw[ea]at O P Q R;refine⟨x::rest,⟨hlt,by rw[d];exact r,by rw[r,T];exact S,q,k1⟩,O,P,Q,?_⟩;rw[←R];have q1:wrap .i64 ((v0n (wrap .i64 ((st:Int)+(sz:Int))) (total:Int))*(ch:Int))=((en*ch:Nat):Int):=by
   rw[a0C (n:=(st:Int)+(sz:Int)) (by omega),b5f,show min ((st:Int)+(sz:Int)) (total:Int)=(en:Int)from by omega,←a58,a0C (by omega)]
  have q2:wrap .i64 ((st:Int)*(ch:Int))=((st*ch:Nat):Int):=by rw[←a58,a0C (by omega)]
  have V:decide ((0:Int)≤((en*ch:Nat):Int))=true:=decide_eq_true (a03 _);have X:decide (((en*ch:Nat):Int)≤((l.length:Nat):Int))=true:=decide_eq_true (by omega);have Y:decide ((0:Int)≤((st*ch:Nat):Int))=true:=decide_eq_true (a03 _);have Z:decide (((st*ch:Nat):Int)≤((en*ch:Nat):Int))=true:=decide_eq_true (by omega);have ec:a78 (st*ch) (a65 (en*ch) l)=b2j l ch st en:=rfl;have n0:((0:Int) != 0)=false:=rfl;have w1:wrap .i64 ((((a0X done).length:Nat):Int)+((p.length:Nat):Int))=(((a0X (done++[x])).length:Nat):Int):=by
   rw[a9n,lN,U,a0C (by omega)];omega
  have w2:wrap .i64 ((st:Int)+(sz:Int))=((st+sz:Nat):Int):=by rw[a0C (by omega)];omega
  refine a0F ?_
  simp only[a3U,dlt hlt,cT,b,q1,q2,V,X,Y,Z,a06,tN,ec,G,oB,n0,cF,S,m,c0T]
  erw[L]
  simp only[oB,a8P,a01,a0S (show done.length+1<2147483648 by omega),cT,w1,w2];simp only[a2D,b3j,b4X,pA,a19,List.map_nil,T,r,a46,h];rfl;have C:min st total=total:=by omega
  have v:decide ((st:Int)<(total:Int))=false:=by simp;omega
  rw[C]at h a;refine⟨[],by simp only[c1A];omega,by simpa using o,by simpa using h,by rw[a26,a,←t,a37],?_⟩;rw[a26];exact a0E (by simp only[a3U,v,cF])
theorem b8F{l:List Int}(a:l.length≤10000){fm:a0L}(f:4≤fm.2.2.1∧fm.2.2.1≤24)(sz effort h:Int):∀(rest done:List Int),done++rest=l→rest.all (fun x=>a1d x fm.2.2.1)=true→
  y0m a5V (l,sz,effort,h,l,(l.length:Int),(done.length:Int),fm,())=some (.inl (l,sz,effort,h,fm,()))
 | [],done,hd,_=>by
  obtain rfl:done=l:=by simpa using hd
  exact a0E (by simp only[a5V,dge,cF])
 |x::rest,done,hd,hfit=>by
  have g:done.length<l.length:=by rw[←hd];simp
  have k:m0h l (done.length:Int)=some x:=by rw[a0D g];subst hd;simp
  simp only[a64,bA]at hfit;rw[a0F (s':=(l,sz,effort,h,l,(l.length:Int),(((done++[x]).length:Nat):Int),fm,())) (by
   simp only[a5V,dlt g,cT,k,oB,b3X f,hfit.1,bT,cF,a0B (show done.length<1000000 by omega)]
   simp)]
  exact b8F a f sz effort h rest (done++[x]) (by simpa using hd) hfit.2
theorem c7V{fm:a0L}(k:a3y fm){ch:Nat}(f:fm.2.1=(ch:Int)){l:List Int}{total sz:Nat}(a:l.length=total*ch)(j:total≤200)(E:1≤sz∧sz≤64)(g:l.all (fun x=>a1d x fm.2.2.1)=true){effort:Int}(A:0≤effort)(B:effort≤3):
  ∃h,c1A fm l ch sz total effort 0 h∧a2V fm 0 h∧a1k h=total∧a5F h=l∧h.length≤200∧a6j (fm,l,(sz:Int),effort)=some (a6t fm h,0):=by
 obtain⟨h,F,b,d,o,p⟩:=c9k k f a j E g A B 200 0 [] (by omega) (by simp[a1k]) (by simp[a5F]) trivial (by simp) (by omega);rw[a74]at b d o p;have m:h.length≤200:=by have:=(b7y b).1;omega
 obtain⟨I,K,L,M,y,z⟩:=id k;have e:1≤ch∧ch≤8:=by omega
 have D:l.length≤200*8:=by rw[a];exact a16 j e.2
 have c:=b8F (l:=l) (fm:=fm) (by omega) ⟨y,z⟩ (sz:Int) effort (total:Int) l [] rfl g;have r:decide ((sz:Int)<1)=false:=by simp;omega
 have s:decide ((sz:Int) > 4096)=false:=by simp;omega
 have t:decide (effort<0)=false:=by simp;omega
 have u:decide (effort > 3)=false:=by simp;omega
 have c0:((ch:Int)==0)=false:=by simp;omega
 have G:a57 ((l.length:Nat):Int) (ch:Int)=0:=by
  show(((l.length%ch:Nat)):Int)=0;rw[a,a99];rfl
 have H:wrap .i64 (a20 ((l.length:Nat):Int) (ch:Int))=(total:Int):=by
  rw[show a20 ((l.length:Nat):Int) (ch:Int)=((l.length / ch:Nat):Int)from rfl,a,a44 _ e.1,a0C (by omega)]
 have v:decide ((total:Int) > 4194304)=false:=by simp;omega
 have s0:((sz:Int)==0)=false:=by simp;omega
 have w:decide ((wrap .i64 (a20 (wrap .i64 ((wrap .i64 ((total:Int)+(sz:Int)))-(1:Int))) (sz:Int))) > (4096:Int))=false:=by
  rw[a0C (n:=(total:Int)+(sz:Int)) (by omega),a0C (n:=(total:Int)+(sz:Int)-1) (by omega),show((total:Int)+(sz:Int)-1)=((total+sz-1:Nat):Int)from by omega,show a20 ((total+sz-1:Nat):Int) (sz:Int)=(((total+sz-1) / sz:Nat):Int)from rfl];have i:=b04 (total+sz-1) sz
  revert i
  generalize (total+sz-1) / sz=q;intro i;rw[a0C (by omega)];exact decide_eq_false (by omega)
 have C:c0T fm total h=mkT fm h:=by unfold c0T mkT;rw[d]
 have hp:=c2s k b m;refine⟨h,F,b,d,o,m,?_⟩;unfold a6j;simp only[a4t,k,decide_true,oB,bT,cF,r,s,t,u,f,c0,G,show((0:Int) != 0)=false from rfl,H,v,s0,w]
 erw[c]
 simp only[oB]
 erw[p]
 simp only[oB,C,hp]
set_option maxRecDepth 100000 in
theorem d1D:b4N ()=some true:=by kernel_rfl
theorem c7W(f:a0L)(l:List Int)(m:Nat)(p:m≤1000):∃t,b2Z (f,l,(m:Int))=some t∧(t=true→a3y f∧l.length≤m∧l.all (fun x=>a1d x f.2.2.1)=true∧∃ch n:Nat,f.2.1=(ch:Int)∧l.length=n*ch):=by
 unfold b2Z;simp only[c3Z,oB]
 by_cases hf:a3y f
 ·simp only[hf,decide_true,bT,cF];cases hd:decide (((l.length:Nat):Int) > (m:Int))with
  |true=>exact⟨false,rfl,fun h=>by cases h⟩
  |false=>
   have k:l.length≤m:=by simp at hd;omega
   obtain⟨d,e,j,o,a,b⟩:=id hf;obtain⟨ch,g⟩:∃ch:Nat,f.2.1=(ch:Int):=⟨f.2.1.toNat,by omega⟩;have c0:((ch:Int)==0)=false:=by simp;omega
   have tm:a57 ((l.length:Nat):Int) (ch:Int)=((l.length%ch:Nat):Int):=rfl;simp only[cF,g,c0,tm,oB];cases c:(((l.length%ch:Nat):Int) != 0)with
   |true=>exact⟨false,rfl,fun h=>by cases h⟩
   |false=>
    have c:l.length%ch=0:=by simp at c;omega
    have h:=a1Q (f:=a7l) l (fun i=>(l,(i:Int),f,())) (fun x=>a1d x f.2.2.1) (bt:=Sum.inl ()) (bf:=Sum.inr (false,()))
     (fun i hi hp=>by simp only[a7l,dlt hi,cT,a0D hi,oB,b3Y ⟨a,b⟩,hp,bT,cF,a0B (show i<1000000 by omega)])
     (fun i hi hp=>by simp only[a7l,dlt hi,cT,a0D hi,oB,b3Y ⟨a,b⟩,hp,a04])
     (by simp only[a7l,dge,cF])
    simp only[cF]
    erw[h]
    cases ha:l.all (fun x=>a1d x f.2.2.1)with
    |true=>exact⟨true,rfl,fun _=>⟨trivial,k,rfl,ch,l.length / ch,rfl,by have:=Nat.div_add_mod l.length ch;rw[a47];omega⟩⟩
    |false=>exact⟨false,rfl,fun h=>by cases h⟩
 simp only[hf,decide_false,a04,cT];exact⟨false,rfl,fun h=>by cases h⟩
theorem d1E{fm:a0L}(c:a3y fm){ch:Nat}(f:fm.2.1=(ch:Int)){l:List Int}{total:Nat}(j:l.length=total*ch)(m:total≤200)(g:l.all (fun x=>a1d x fm.2.2.1)=true)(size effort:Int):
  ∃(sz:Nat)(eff:Int)(h:List Pc),1≤sz∧sz≤64∧wrap .i64 (1+bits .i64 .and size 63)=(sz:Int)∧bits .i64 .and effort 3=eff∧0≤eff∧eff≤3∧c1A fm l ch sz total eff 0 h∧a2V fm 0 h∧a1k h=total∧a5F h=l∧h.length≤200∧
   b3a (fm,l,size,effort)=some (a6t fm h,mkT fm h,true):=by
 obtain⟨v,hv,k⟩:=d2u 6 (by omega) size;obtain⟨w,a,b⟩:=d2u 2 (by omega) effort;rw[show((2^6-1:Nat):Int)=63 from rfl]at hv;rw[show((2^2-1:Nat):Int)=3 from rfl]at a;have n:v<64:=k;have o:w<4:=b;have d:wrap .i64 (1+(v:Int))=((v+1:Nat):Int):=by rw[a0C (by omega)];omega
 obtain⟨h,p,e,q,r,i,s⟩:=c7V c f j m (sz:=v+1) (by omega) g (effort:=(w:Int)) (by omega) (by omega);refine⟨v+1,w,h,by omega,by omega,by rw[hv];exact d,a,by omega,by omega,p,e,q,r,i,?_⟩;unfold b3a;simp only[hv,a,d,s,oB,c6O c e i,beq_self_eq_true,cT]
theorem c2I(x:a0L×(List Int×(Int×Int))):b0V x=some true:=by
 obtain⟨fm,l,size,effort⟩:=x;unfold b0V;simp only[d1D,oB,bT,cF];obtain⟨t,j,q⟩:=c7W fm l 200 (by omega);rw[show((200:Nat):Int)=200 from rfl]at j;simp only[j,oB];cases t with
 |false=>rfl
 |true=>
  obtain⟨f,r,h,ch,n,g,k⟩:=q rfl;obtain⟨w,z,A,B,e,i⟩:=id f;have m:1≤ch:=by omega
  have a:n≤200:=Nat.le_trans (Nat.le_mul_of_pos_right n m) (k▸r);obtain⟨sz,p,K,D,E,F,G,H,I,C,c,s,o,d,u⟩:=d1E f g k a h size effort;have hb:=c0N ⟨e,i⟩ l;have hp:=c4m (l:=a2a fm.2.2.1 l) (by unfold short;omega) (b7w _ _);have b:=c4B (x:=l) (y:=l) (by unfold short;omega);have c0:((ch:Int)==0)=false:=by simp;omega
  have v:wrap .i64 (a20 ((l.length:Nat):Int) (ch:Int))=(n:Int):=by
   rw[show a20 ((l.length:Nat):Int) (ch:Int)=((l.length / ch:Nat):Int)from rfl,k,a44 _ m,a0C (by omega)]
  simp only[bT,cF,u,oB,c6M f c d,c2s f c d,c4T ⟨e,i⟩ (show l.length≤10000 by omega) h,beq_self_eq_true,cT,c7U f c d,o,b,decide_true,c7I,hp];simp only[mkT,a2D,o,s,beq_self_eq_true,cT,g,c0,cF,v,a8P,a01]
  erw[b8Y]
  rfl
end Go.Ab
namespace Go.Proofs.YtbadoabamddpfaaGreatDoor
open Go.Ab Go.ChangeShapes Go.WideShapes Go.ChangeAt Go.RowKit
theorem b7D{α:Type}{f:Nat→Option (α×b0a×List Nat)}:∀(L:List α)(i:Nat),(∀(j:Nat) x,L[j]?=some x→f (i+j)=some (x,[],[]))→a0d f L.length i=some (L,[],[])
 | [],_,_=>rfl
 |a::L,i,h=>by
  have g:=h 0 a rfl;have k:=b7D L (i+1) (fun j x b=>by have:=h (j+1) x (by simpa using b);rw[←this];congr 1;omega);simp only[lC,a0d];simp only[a71]at g;rw[g,k];rfl
section
variable {H:Type} {enc:TypeId×Value→H} {P:Program} {w:World} {base:Nat} {spare:Nat→Bool} {held:Bool}
theorem c2J{k:IntKind}{n:Nat}{t e:TypeId}{fuel:Nat}{cs:List Value}{L:List Int}{p:List MemPlace}(B:P.underlying t=some (.array n e))(u:P.underlying e=some (.int k))(s:P.cellsOf e=1)
  (h:DataW.trod enc P w base spare held fuel t cs=some (.agg (L.map fun i=>.lit (.int k i)),p)):L.length=n∧∀(j:Nat) x,L[j]?=some x→cs[j]?=some (.int k x):=by
 obtain⟨C,m,rfl,b,-,A,a⟩:=DataW.trod_array B h;simp only[pJ,DataW.agg.injEq]at b;have z:L.length=n:=by rw[←A];simpa using congrArg a21 b.1
 refine⟨z,fun j x c=>?_⟩;obtain⟨v,-⟩:=lS.1 c;have g:=a j (by omega);rw[s]at g;obtain⟨y,d⟩:∃y,C[j]?=some y:=⟨_,lG (by omega)⟩;rw[d]at g;obtain⟨i,o,q,-⟩:=DataW.trod_int u g;have f:=congrArg (fun l=>l[j]?) b.1;simp only[a51,c,d,Option.map_some,q]at f;simp only[sj,DataW.lit.injEq,Lit.int.injEq,true_and]at f;subst f;have r:=congrArg (fun l=>l[0]?) o;simpa[a88,a43]using r
end
def c5r : String := (Rows.frameTurnedRow.laid.map Prod.fst).headD ""
theorem d8a:Tryz.prog.globalNamed c5r=some 0:=by kernel_rfl
def c9l:TypeId:=((Tryz.prog.globals[0]?).map (·.type)).getD 0
theorem d1F:(Tryz.prog.globals[0]?).map (·.type)=some c9l:=by kernel_rfl
def c9m:TypeId:=match Tryz.prog.underlying c9l with
 |some (.array _ e)=>e
 |_=>0
theorem d8b:Tryz.prog.underlying c9l=some (.array 64 c9m):=by kernel_rfl
theorem d4A:Tryz.prog.underlying c9m=some (.int .u8):=by kernel_rfl
theorem d4B:Tryz.prog.cellsOf c9m=1:=by kernel_rfl
@[reducible] def laidTab:List (String×DataW Unit):=[(c5r,Rows.laid_math_bits_deBruijn64tab)]

theorem d2J {g:Nat} {t:Ty} {x:t.den} (h:G0 g=some ⟨t,x⟩):g=0∧(⟨t,x⟩:(t:Ty)×t.den)=⟨.arr 64 (.int .u8),b1E⟩:=by
 unfold G0 find at h
 cases g with
 |zero=>exact⟨rfl,(Option.some.inj h).symm⟩
 |succ n=>exact absurd h (by simp[find])
theorem c4u{W:World}(h:laidMetH Tryz.prog laidTab W):∀g t x,G0 g=some ⟨t,x⟩→g<W.heap.size∧dec (a0a W none) t ((Src.at g 0).rd (a0a W none))=some (x,[],[]):=by
 rw[MakeChecks.laidMetH_plain _ _ _ (by kernel_rfl)]at h;obtain⟨ps,⟨r,w,m,q,u,v,b,c,d,a,_⟩,_,_⟩:=h;obtain rfl:=Option.some.inj (d8a.symm.trans b);obtain rfl:=Option.some.inj (d1F.symm.trans c);have n:(Rows.laid_math_bits_deBruijn64tab:DataW Unit)=.agg (b1E.map fun i=>.lit (.int .u8 i)):=rfl;rw[n]at a;obtain⟨s,p⟩:=c2J d8b d4A d4B a;have k:∀(j:Nat) x,b1E[j]?=some x→W.cell? ⟨0,j,none⟩=some (.int .u8 x):=fun j x l=>by
  rw[World.var?_cell b d j];simpa using p j x l
 intro g t x o;obtain⟨rfl,e⟩:=d2J o;cases e;refine⟨z0g (k 0 0 rfl),?_⟩;exact b7D (f:=fun i=>dec (a0a W none) (.int .u8) fun j=>(Src.at 0 0).rd (a0a W none) (i*1+j)) b1E 0 (fun j x l=>by
  have:=k j x l
  simp only[dec,Src.rd,a0a,a46,a96,a71,this,if_true])
set_option maxRecDepth 100000 in
theorem c9n (os:Os) (args:Array Value):laidMetH Tryz.prog laidTab ((World.doorLaid Tryz.prog 400 os).forCall (fun _ _=>0) ⟨#[],args,[]⟩).memory:=
 laidMetH_of_parts3 (fuel:=8) (laidMet_of_run' 8 (by kernel_rfl) (by kernel_rfl)) (by kernel_rfl) (by kernel_rfl)
end Go.Proofs.YtbadoabamddpfaaGreatDoor
