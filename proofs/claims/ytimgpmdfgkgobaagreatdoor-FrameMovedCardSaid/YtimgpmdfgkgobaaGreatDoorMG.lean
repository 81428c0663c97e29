/- Part of the proof: QUI. Conditions: as each statement tells. -/
import Derived.KernelRfl
import Derived.Test.YtimgpmdfgkgobaaGreatDoorRows
import Derived.ProofKit
import Derived.LaidMore
import Derived.LaidLaws
import Derived.LaidHandle
import Derived.LaidByTextLater
import Derived.OpenShut
import Derived.Handed
import Derived.Test.YtimgpmdfgkgobaaGreatDoorMF
noncomputable section
set_option linter.unusedSimpArgs false
set_option linter.unusedVariables false
open BitVec renaming ofInt→a02
open Bool renaming not_false→a00,eq_false_iff→a05,and_self→a08
open Int renaming toNat_of_nonneg→a07,natCast_inj→a19
open List renaming getElem_mem→a01,getElem?_take→a04,getElem?_drop→a09,cons_append→a17,length_nil→a20,append_nil→a21
open Nat renaming pow_le_pow_right→a06,add_zero→a16,le_refl→a18
open Option renaming bind_eq_some_iff→a03
namespace Go.Ab
def c2V:Option (List (List Int))→List (List Int)×Int
 |some r=>(r,0)
 |none=>([],6)
theorem d0G{n N:Nat}(hn:n≤5000){l:List a0W}(hl:l.length≤16)(hN:l.all (a2t (N:Int))=true):∀(k i:Nat)(c:List (List Int)),i+k=l.length→a4t c n→c.length=N→
  a0h a9y (l,(l.length:Int),(i:Int),c,())=some (match doO (l.drop i) c with|some r=>Sum.inl (r,())|none=>Sum.inr ([],6,()))
 |0,i,c,h,_,_=>by
  obtain rfl:i=l.length:=by omega
  rw[List.drop_length];exact a0o (by simp only[a9y,dge,cF];rfl)
 |k+1,i,c,h,hc,hcl=>by
  have hi:i<l.length:=by omega
  rw[List.drop_eq_getElem_cons hi];have hs:a2t (c.length:Int) l[i]=true:=by rw[hcl];exact lA.1 hN _ (a01 hi)
  obtain⟨b,c',h1,h2⟩:=c9f hc hn hs (sign:=1) (.inl rfl);simp only[doO];cases hst:a4E 1 l[i] c with
  |none=>
   rw[hst]at h2;simp only at h2;subst h2;exact a0o (by simp only[a9y,dlt hi,cT,a0c hi,oB,h1,a00];rfl)
  |some r=>
   rw[hst]at h2;obtain⟨rfl,rfl⟩:=h2;obtain⟨k1,k2⟩:=b5g hc hs hst;rw[a0q (s':=(l,(l.length:Int),((i+1:Nat):Int),c',())) (by
    simp only[a9y,dlt hi,cT,a0c hi,oB,h1,bT,cF,a0d (show i<1000000 by omega)])]
   rw[d0G hn hl hN k (i+1) c' (by omega) k1 (by omega)];rfl
theorem c7q(c:List (List Int))(l:List a0W):b4j (c,l)=some (if a3r c∧a5S l (c.length:Int)then c2V (doO l c)else([],1)):=by
 unfold b4j;simp only[c5z,oB]
 by_cases hq:a3r c
 have hN:=d0E hq;simp only[hq,decide_true,bT,cF,b7A,oB,true_and]
 by_cases hm:a5S l (c.length:Int)
 simp only[hm,decide_true,bT,cF,if_true];rw[c6E hN (by have:=hq.2.2.1;omega) (by have:=hq.2.1;omega)]
 have:=d0G (N:=c.length) (by have:=hq.2.2.1;omega:(c.headD []).length≤5000) hm.2.2.1 hm.2.2.2 l.length 0 c (by omega) hN rfl
 simp only[nZ,List.drop_zero,Int.cast_ofNat_Int]at this;simp only[oB]
 erw[this]
 cases doO l c<;>rfl;simp only[hm,decide_false,a00,cT,if_false];simp only[hq,decide_false,a00,cT,oB,false_and,if_false]
theorem c4A(s:a0W):∀(l:List a0W)(c:List (List Int)),b2x (l++[s]) c=(a4E (-1) s c).bind (b2x l)
 | [],c=>by
  show a4E (-1) s c=_;cases a4E (-1) s c<;>rfl
 |t::l,c=>by
  simp only[a17,b2x,c4A s l];cases a4E (-1) s c<;>rfl
theorem c6F{n N:Nat}(hn:n≤5000){l:List a0W}(hN:l.all (a2t (N:Int))=true)(z:List (List Int))(e:Int):∀(k:Nat)(c:List (List Int)),k≤l.length→a4t c n→c.length=N→
  match b2x (l.take k) c with
  |some r=>a6i a4j l k (l,z,e,c,())=some (.inl (l,z,e,r,()))
  |none=>∃d,a6i a4j l k (l,z,e,c,())=some (.inr (.ret,l,[],6,d,()))
 |0,c,_,_,_=>rfl
 |k+1,c,hk,hc,hcl=>by
  have hi:k<l.length:=by omega
  have hs:a2t (c.length:Int) l[k]=true:=by rw[hcl];exact lA.1 hN _ (a01 hi)
  obtain⟨b,c',h1,h2⟩:=c9f hc hn hs (sign:=-1) (.inr rfl);rw[List.take_succ_eq_append_getElem hi,c4A];cases hst:a4E (-1) l[k] c with
  |none=>
   rw[hst]at h2;simp only at h2;subst h2;refine⟨c',?_⟩;simp only[a6i,lG hi,a4j,h1,oB,a00,cT]
  |some r=>
   rw[hst]at h2;obtain⟨rfl,rfl⟩:=h2;obtain⟨k1,k2⟩:=b5g hc hs hst;have ih:=c6F hn hN z e k c' (by omega) k1 (by omega);have hb:a6i a4j l (k+1) (l,z,e,c,())=a6i a4j l k (l,z,e,c',()):=by
    simp only[a6i,lG hi,a4j,h1,oB,bT,cF]
   rw[hb];exact ih
theorem d7i(c:List (List Int))(l:List a0W):b3q (c,l)=some (if a3r c∧a5S l (c.length:Int)then c2V (b2x l c)else([],1)):=by
 unfold b3q;simp only[c5z,oB]
 by_cases hq:a3r c
 ·have hN:=d0E hq;simp only[hq,decide_true,bT,cF,b7A,oB,true_and]
  by_cases hm:a5S l (c.length:Int)
  ·simp only[hm,decide_true,bT,cF,if_true];rw[c6E hN (by have:=hq.2.2.1;omega) (by have:=hq.2.1;omega)]
   have:=c6F (N:=c.length) (by have:=hq.2.2.1;omega:(c.headD []).length≤5000) hm.2.2.2 [] 0 l.length c (a18 _) hN rfl
   rw[List.take_length]at this;simp only[oB,a1u (show l.length<2147483648 by have:=hm.2.2.1;omega),cT];cases hu:b2x l c with
   |some r=>
    rw[hu]at this;simp only at this
    erw[this]
    rfl
   |none=>
    rw[hu]at this;obtain⟨d,hd⟩:=this
    erw[hd]
    rfl
  simp only[hm,decide_false,a00,cT,if_false]
 simp only[hq,decide_false,a00,cT,oB,false_and,if_false]
def a1X(b:a2b):Nat:=(b.2.1.headD []).length
theorem a9F(b:a2b):a6H b=some ((a1X b:Nat):Int):=by
 unfold a6H a1X;obtain⟨d,c,u⟩:=b;cases c with
 |nil=>rfl
 |cons r c=>
  have:((((r::c).length:Nat):Int)==0)=false:=by simp;omega
  simp only[this,cF];rfl
def a3U(b:a2b):Prop:=4≤b.1∧b.1≤24∧1≤b.2.1.length∧b.2.1.length≤8∧1≤a1X b∧a1X b≤4096∧b.2.1.all (fun r=>decide (r.length=a1X b)&&r.all fun x=>a1W x b.1)=true
instance (b:a2b):Decidable (a3U b):=by unfold a3U;infer_instance
theorem c9h{x w:Int}(h:4≤w∧w≤24):a4H (x,w)=some (a1W x w):=by
 have:=a7r (x:=x) (w:=w.toNat) (by omega)
 rwa [a07 (by omega)]at this
theorem b6p(b:a2b):a8C b=some (decide (a3U b)):=by
 unfold a8C a8a
 by_cases h1:4≤b.1
 rotate_left;rw[decide_eq_false (show ¬ a3U b from fun h=>h1 h.1),decide_eq_false h1];rfl
 by_cases h2:b.1≤24
 rotate_left;rw[decide_eq_false (show ¬ a3U b from fun h=>h2 h.2.1),decide_eq_true h1,decide_eq_false h2];rfl
 by_cases h3:((b.2.1.length:Nat):Int)<1
 rw[decide_eq_false (show ¬ a3U b from fun h=>by have:=h.2.2.1;omega),decide_eq_true h1,decide_eq_true h2,decide_eq_true h3];rfl
 by_cases h4:((b.2.1.length:Nat):Int) > 8
 rw[decide_eq_false (show ¬ a3U b from fun h=>by have:=h.2.2.2.1;omega),decide_eq_true h1,decide_eq_true h2,decide_eq_false h3,decide_eq_true h4];rfl;have d3:decide (((b.2.1.length:Nat):Int)<1)=false:=by simpa using h3
 have d4:decide (((b.2.1.length:Nat):Int) > 8)=false:=by simpa using h4
 simp only[decide_eq_true h1,decide_eq_true h2,d3,d4,cT,cF,oB,bT,a9F]
 by_cases h5:((a1X b:Nat):Int)<1
 rw[decide_eq_false (show ¬ a3U b from fun h=>by have:=h.2.2.2.2.1;omega),decide_eq_true h5];rfl
 by_cases h6:((a1X b:Nat):Int) > 4096
 rw[decide_eq_false (show ¬ a3U b from fun h=>by have:=h.2.2.2.2.2.1;omega),decide_eq_false h5,decide_eq_true h6];rfl;have d5:decide (((a1X b:Nat):Int)<1)=false:=by simpa using h5
 have d6:decide (((a1X b:Nat):Int) > 4096)=false:=by simpa using h6
 simp only[d5,d6,cF,oB];have inner:∀(i:Nat)(r:List Int),short r→a0h a5s (b.2.1,(b.2.1.length:Int),(i:Int),r,(r.length:Int),(0:Int),b,())=some (bif r.all (fun x=>a1W x b.1)then Sum.inl (b.2.1,(b.2.1.length:Int),(i:Int),b,())else Sum.inr (false,())):=fun i r hr=>by
  have:=a1v (f:=a5s) r (fun j=>(b.2.1,(b.2.1.length:Int),(i:Int),r,(r.length:Int),(j:Int),b,())) (fun x=>a1W x b.1) (bt:=Sum.inl (b.2.1,(b.2.1.length:Int),(i:Int),b,())) (bf:=Sum.inr (false,()))
   (fun j h hp=>by simp only[a5s,dlt h,cT,a0c h,oB,c9h ⟨h1,h2⟩,hp,bT,cF,a0d (Nat.lt_trans h hr)])
   (fun j h hp=>by simp only[a5s,dlt h,cT,a0c h,oB,c9h ⟨h1,h2⟩,hp,a00])
   (by simp only[a5s,dge,cF])
  exact this
 have hall:=a1v (f:=a5t) b.2.1 (fun i=>(b.2.1,(b.2.1.length:Int),(i:Int),b,())) (fun r=>decide (r.length=a1X b)&&r.all fun x=>a1W x b.1) (bt:=Sum.inl ()) (bf:=Sum.inr (false,()))
  (fun i h hp=>by
   simp only[bA,dT]at hp;have e:((((b.2.1[i]).length:Nat):Int) != ((a1X b:Nat):Int))=false:=by rw[hp.1];exact bne_self_eq_false _
   have hi:=inner i b.2.1[i] (by unfold short;omega);rw[hp.2,cT]at hi;simp only[a5t,dlt h,cT,a0c h,oB,a9F,e,cF,hi,a0d (show i<1000000 by omega)])
  (fun i h hp=>by
   by_cases hl:(b.2.1[i]).length=a1X b
   have e:((((b.2.1[i]).length:Nat):Int) != ((a1X b:Nat):Int))=false:=by rw[hl];exact bne_self_eq_false _
   have hi:=inner i b.2.1[i] (by unfold short;omega);rw[decide_eq_true hl,Bool.true_and]at hp;rw[hp,cF]at hi;simp only[a5t,dlt h,cT,a0c h,oB,a9F,e,cF,hi];have e:((((b.2.1[i]).length:Nat):Int) != ((a1X b:Nat):Int))=true:=by simp only[bne_iff_ne,ne_eq,a19];exact hl
   simp only[a5t,dlt h,cT,a0c h,oB,a9F,e])
  (by simp only[a5t,dge,cF])
 simp only[nZ]at hall;rw[hall]
 by_cases hA:b.2.1.all (fun r=>decide (r.length=a1X b)&&r.all fun x=>a1W x b.1)=true
 rw[hA,decide_eq_true (show a3U b from⟨h1,h2,by omega,by omega,by omega,by omega,hA⟩)];rfl;rw[a05.2 hA,decide_eq_false (show ¬ a3U b from fun h=>hA h.2.2.2.2.2.2)];rfl
def a8Q{α β:Type}(g:α→Option β):List α→Option (List β)
 | []=>some []
 |a::l=>(g a).bind fun b=>(a8Q g l).bind fun r=>some (b::r)
theorem c2W{α β:Type}{g:α→Option β}:∀{l:List α}{r:List β},a8Q g l=some r→r.length=l.length
 | [],r,h=>by cases h;rfl
 |a::l,r,h=>by
  simp only[a8Q,a03]at h;obtain⟨b,-,r',h2,h3⟩:=h;cases h3;simp[c2W h2]
theorem c6G{α β:Type}{g:α→Option β}:∀{l:List α}{r:List β},a8Q g l=some r→∀a∈l,(g a).isSome=true
 | [],r,h,a,ha=>by cases ha
 |a::l,r,h,x,hx=>by
  simp only[a8Q,a03]at h;obtain⟨b,h1,r',h2,h3⟩:=h;rcases mC.1 hx with rfl|hx;rw[h1];rfl;exact c6G h2 x hx
def b0F(f:a1D):Option a2b:=
 if frP f∧((f.2.2.2.2.1.length:Nat):Int)=f.2.2.1.2.1 then
  (a8Q (fun s=>a2Q s f.2.1) f.2.2.2.2.1).bind fun rs=>
   if a3r rs∧a5S f.2.2.2.1 (rs.length:Int)then
    (b2x f.2.2.2.1 rs).bind fun ch=>if a3U (f.2.2.1.2.2.1,ch,())then some (f.2.2.1.2.2.1,ch,())else none
   else none
 else none
def b8u:a2b:=(0,[],())
def e2J:Option a2b→a2b×Int
 |some b=>(b,0)
 |none=>(b8u,1)
theorem c2t(f:a1D)(all:List Sub)(h8:all.length≤8):∀(rest done:List Sub)(rows:List (List Int)),done++rest=all→rows.length=done.length→(∀s∈rest,SmallS s)→
  a0h a5A (all,(all.length:Int),(done.length:Int),rows,b8u,f,())=some (match a8Q (fun s=>a2Q s f.2.1) rest with|some rs=>Sum.inl (rows++rs,b8u,f,())|none=>Sum.inr (1,b8u,()))
 | [],done,rows,hd,hr,_=>by
  have e:done=all:=by simpa using hd
  subst e;rw[a0o (b:=Sum.inl (rows,b8u,f,())) (by simp only[a5A,dge,cF])];simp[a8Q]
 |s::rest,done,rows,hd,hr,h=>by
  have hs:=h s (by simp);have hlt:done.length<all.length:=by rw[←hd];simp
  have hg:a0p all (done.length:Int)=some s:=by rw[a0c hlt];subst hd;simp
  have hrow:=c3T hs f.2.1;simp only[a8Q];cases ho:a2Q s f.2.1 with
  |none=>
   rw[ho]at hrow;have b1:((1:Int) != 0)=true:=rfl;exact a0o (by simp only[a5A,dlt hlt,cT,hg,oB,hrow,b1];rfl)
  |some r=>
   rw[ho]at hrow;have b0:((0:Int) != 0)=false:=rfl;rw[a0q (s':=(all,(all.length:Int),(((done++[s]).length:Nat):Int),rows++[r],b8u,f,())) (by
    simp only[a5A,dlt hlt,cT,hg,oB,hrow,b0,cF,a1u (show rows.length+1<2147483648 by omega),a0d (show done.length<1000000 by omega)]
    simp)]
   rw[c2t f all h8 rest (done++[s]) (rows++[r]) (by simpa using hd) (by simp[hr]) (fun t ht=>h t (by simp[ht]))];simp only[oB];cases a8Q (fun s=>a2Q s f.2.1) rest<;>simp
theorem d5C{f:a1D}(hS:∀s∈f.2.2.2.2.1,SmallS s):a8i f=some (e2J (b0F f)):=by
 unfold a8i b0F;simp only[b8t,oB]
 by_cases hf:frP f
 rotate_left;simp only[hf,decide_false,a00,cT,oB,false_and,if_false];rfl
 by_cases hl:((f.2.2.2.2.1.length:Nat):Int)=f.2.2.1.2.1
 rotate_left;have e:(((f.2.2.2.2.1.length:Nat):Int) != f.2.2.1.2.1)=true:=by simpa using hl
 simp only[hf,decide_true,bT,cF,oB,e,cT,hl,and_false,if_false];rfl;have e:(((f.2.2.2.2.1.length:Nat):Int) != f.2.2.1.2.1)=false:=by simpa using hl
 have h8:f.2.2.2.2.1.length≤8:=by have:=hf.1.2.2.2.1;omega
 have d0:decide ((0:Int)≤((f.2.2.2.2.1.length:Nat):Int))=true:=by simp
 have hloop:=c2t f f.2.2.2.2.1 h8 f.2.2.2.2.1 [] [] rfl rfl hS;rw[a20]at hloop;rw[if_pos ⟨hf,hl⟩];simp only[hf,decide_true,bT,cF,oB,e,d0,tN,a1u (show f.2.2.2.2.1.length<2147483648 by omega),a08,cT]
 erw[hloop]
 cases hm:a8Q (fun s=>a2Q s f.2.1) f.2.2.2.2.1 with
 |none=>rfl
 |some rs=>
  simp only[oB,List.nil_append,d7i]
  by_cases hq:a3r rs∧a5S f.2.2.2.1 (rs.length:Int)
  ·simp only[if_pos hq];cases hu:b2x f.2.2.2.1 rs with
   |none=>rfl
   |some ch=>
    have b0:((0:Int) != 0)=false:=rfl;simp only[c2V,b0,cF,b6p,oB]
    by_cases hb:a3U (f.2.2.1.2.2.1,ch,())
    simp only[hb,decide_true,bT,cF,if_true];rfl;simp only[hb,decide_false,a00,cT,if_false];rfl
  simp only[if_neg hq];rfl
theorem d8e{f:a1D}(hS:∀s∈f.2.2.2.2.1,SmallS s):a5g f=some (b0F f).isSome:=by
 unfold a5g;rw[d5C hS];cases b0F f<;>rfl
theorem c1c{f:a1D}{b:a2b}(h:b0F f=some b):frP f∧((f.2.2.2.2.1.length:Nat):Int)=f.2.2.1.2.1∧∀s∈f.2.2.2.2.1,(a2Q s f.2.1).isSome=true:=by
 unfold b0F at h
 split at h
 rename_i hc;simp only[a03]at h;obtain⟨rs,h1,-⟩:=h;exact⟨hc.1,hc.2,c6G h1⟩;cases h
theorem c4B{f:a1D}{b:a2b}(hS:∀s∈f.2.2.2.2.1,SmallS s)(h:b0F f=some b):∃L,L.length≤5600000∧some ((L.length:Nat):Int)=f.2.2.2.2.1.foldr (fun s a=>a.bind fun a=>(a4Z (s,f.2.1)).bind fun c=>some (c+a)) (some 0)∧
  a5h f=some (a4g f L,0)∧(∀R:List Int,R.length≤1000→a3D (a4g f L++R)=some (f,((a4g f L).length:Int),(0:Int)))∧
  (∀R:List Int,R.length≤1000→a9x (a4g f L++R)=some (f.2.2.1,f.1,f.2.1,(0:Int))):=by
 obtain⟨h1,h2,h3⟩:=c1c h;have hm:a5g f=some true:=by rw[d8e hS,h];rfl
 have h8:f.2.2.2.2.1.length≤8:=by have:=h1.1.2.2.2.1;omega
 obtain⟨zs,k1,k2,k3,k4,k5⟩:=c9e hm h1 h8 (fun s hs=>⟨hS s hs,h3 s hs⟩);exact⟨a0s zs,k3,k4,k5,fun R hR=>c7d hm h1 h2 k1 k2 k3 hR,fun R hR=>c7e h1 k3 hR⟩
set_option maxRecDepth 100000 in
theorem d7j:b7r ()=some true:=by kernel_rfl
open IntKind(wrap)
theorem c9i(x:a0W):eqT (.pair (.int .i64) (.pair (.int .i64) (.pair (.int .i64) .unit))) x x=true:=by
 show((x.1==x.1)&&((x.2.1==x.2.1)&&((x.2.2.1==x.2.2.1)&&true)))=true
 simp
theorem c5A{x:List a0W}(hl:x.length<1000000):a8Y (x,x)=some true:=by
 unfold a8Y
 have:=a1v (f:=a6q) (β:=Unit ⊕ (Bool×Unit)) x (fun i=>(x,x,(i:Int),())) (fun _=>true) (bt:=Sum.inl ()) (bf:=Sum.inr (false,()))
  (fun i hi _=>by simp only[a6q,dlt hi,cT,a0c hi,oB,c9i,bT,cF,a0d (show i<1000000 by omega)])
  (fun i hi hp=>by cases hp) (by simp only[a6q,dge,cF])
 simp only[nZ]at this;simp only[bne_self_eq_false,cF];rw[this]
 have:x.all (fun _=>true)=true:=by simp
 rw[this];rfl
theorem c5B{f:a1D}(hS:∀s∈f.2.2.2.2.1,SmallS s)(h1:f.2.2.2.1.length<1000000)(h2:f.2.2.2.2.1.length<1000000):a6s (f,f)=some true:=by
 unfold a6s
 have:=a1v (f:=a6r) (β:=Unit ⊕ (Bool×Unit)) f.2.2.2.2.1 (fun i=>((i:Int),f,f,())) (fun _=>true) (bt:=Sum.inl ()) (bf:=Sum.inr (false,()))
  (fun i hi _=>by simp only[a6r,dlt hi,cT,a0c hi,oB,d2b (hS _ (a01 hi)),decide_true,bT,cF,a0d (show i<1000000 by omega)])
  (fun i hi hp=>by cases hp) (by simp only[a6r,dge,cF])
 simp only[nZ]at this;simp only[bne_self_eq_false,cF,c9i,bT,c5A h1,oB];rw[this]
 have:f.2.2.2.2.1.all (fun _=>true)=true:=by simp
 rw[this];rfl
def d8f(b:a2b)(m:Nat):Prop:=b.2.1.length≤12∧∀r∈b.2.1,r.length≤m
theorem d4h(b:a2b)(m:Nat):∃t,b4Y (b,(m:Int))=some t∧(t=true→d8f b m):=by
 unfold b4Y
 by_cases h1:((b.2.1.length:Nat):Int) > 12
 exact⟨false,by rw[decide_eq_true h1];rfl,fun h=>by cases h⟩;have d1:decide (((b.2.1.length:Nat):Int) > 12)=false:=decide_eq_false h1
 have:=a1v (f:=a8q) (β:=Unit ⊕ (Bool×Unit)) b.2.1 (fun i=>((m:Int),(i:Int),b,())) (fun r=>decide (r.length≤m)) (bt:=Sum.inl ()) (bf:=Sum.inr (false,()))
  (fun i hi hp=>by
   have e:decide (((b.2.1[i].length:Nat):Int) > (m:Int))=false:=by simp only[dT]at hp;simp only[decide_eq_false_iff_not];omega
   simp only[a8q,dlt hi,cT,a0c hi,oB,e,cF,a0d (show i<1000000 by omega)])
  (fun i hi hp=>by
   have e:decide (((b.2.1[i].length:Nat):Int) > (m:Int))=true:=by simp only[decide_eq_false_iff_not]at hp;simp only[dT];omega
   simp only[a8q,dlt hi,cT,a0c hi,oB,e]) (by simp only[a8q,dge,cF])
 simp only[nZ]at this;simp only[d1,cF];rw[this];cases hA:b.2.1.all (fun r=>decide (r.length≤m))with
 |true=>exact⟨true,rfl,fun _=>⟨by omega,fun r hr=>by simpa using lA.1 hA r hr⟩⟩
 |false=>exact⟨false,rfl,fun h=>by cases h⟩
theorem d5D{c:List (List Int)}:b3H c=some (decide (1≤c.length∧c.length≤8∧c.all (fun r=>decide (r.length=(c.headD []).length))=true)):=by
 unfold b3H
 by_cases h1:((c.length:Nat):Int)<1
 rw[decide_eq_false (show ¬ (1≤c.length∧_)from fun h=>by have:=h.1;omega),decide_eq_true h1];rfl
 by_cases h2:((c.length:Nat):Int) > 8
 rw[decide_eq_false (show ¬ (1≤c.length∧c.length≤8∧_)from fun h=>by have:=h.2.1;omega),decide_eq_false h1,decide_eq_true h2];rfl;have hc:0<c.length:=by omega
 have hg:a0p c 0=some (c.headD []):=by rw[show(0:Int)=((0:Nat):Int)from rfl,a0c hc,b4o (d:=[]) hc]
 have:=a1v (f:=a7m) (β:=Unit ⊕ (Bool×Unit)) c (fun i=>(c,(i:Int),())) (fun r=>decide (r.length=(c.headD []).length)) (bt:=Sum.inl ()) (bf:=Sum.inr (false,()))
  (fun i hi hp=>by
   simp only[dT]at hp;have e:((((c[i]).length:Nat):Int) != (((c.headD []).length:Nat):Int))=false:=by rw[hp];exact bne_self_eq_false _
   simp only[a7m,dlt hi,cT,a0c hi,oB,hg,e,cF,a0d (show i<1000000 by omega)])
  (fun i hi hp=>by
   simp only[decide_eq_false_iff_not]at hp;have e:((((c[i]).length:Nat):Int) != (((c.headD []).length:Nat):Int))=true:=by simp only[bne_iff_ne,ne_eq,a19];exact hp
   simp only[a7m,dlt hi,cT,a0c hi,oB,hg,e]) (by simp only[a7m,dge,cF])
 simp only[nZ]at this;simp only[decide_eq_false h1,decide_eq_false h2,cF,oB];rw[this]
 by_cases hA:c.all (fun r=>decide (r.length=(c.headD []).length))=true
 rw[hA,decide_eq_true (show 1≤c.length∧c.length≤8∧true=true from⟨by omega,by omega,rfl⟩)];rfl;rw[a05.2 hA,decide_eq_false (show ¬ (1≤c.length∧c.length≤8∧false=true)from fun h=>by cases h.2.2)];rfl
theorem c1d{x w:Int}(h:4≤w∧w≤24):b4k (x,w)=some (a1W x w):=by
 have:=c9N (x:=x) (w:=w.toNat) (by omega)
 rwa [a07 (by omega)]at this
theorem c4C(b:a2b):a7n b=some (decide (a3U b)):=by
 unfold a7n
 by_cases h1:b.1<4
 rw[decide_eq_true h1,decide_eq_false (fun h:a3U b=>by have:=h.1;omega)];rfl
 by_cases h2:b.1 > 24
 rw[decide_eq_false h1,decide_eq_true h2,decide_eq_false (fun h:a3U b=>by have:=h.2.1;omega)];rfl;simp only[decide_eq_false h1,decide_eq_false h2,cF,d5D,oB]
 by_cases h3:1≤b.2.1.length∧b.2.1.length≤8∧b.2.1.all (fun r=>decide (r.length=(b.2.1.headD []).length))=true
 rotate_left;rw[decide_eq_false h3,decide_eq_false (fun h:a3U b=>h3 ⟨h.2.2.1,h.2.2.2.1,lA.2 fun r hr=>by
  have:=lA.1 h.2.2.2.2.2.2 r hr
  simp only[bA]at this;exact this.1⟩)];rfl
 have hc:0<b.2.1.length:=by omega
 have hg:a0p b.2.1 0=some (b.2.1.headD []):=by rw[show(0:Int)=((0:Nat):Int)from rfl,a0c hc,b4o (d:=[]) hc]
 simp only[decide_eq_true h3,bT,cF,hg,oB]
 by_cases h4:(((b.2.1.headD []).length:Nat):Int)<1
 rw[decide_eq_true h4,decide_eq_false (fun h:a3U b=>by have:=h.2.2.2.2.1;unfold a1X at this;omega)];rfl
 by_cases h5:(((b.2.1.headD []).length:Nat):Int) > 4096
 rw[decide_eq_false h4,decide_eq_true h5,decide_eq_false (fun h:a3U b=>by have:=h.2.2.2.2.2.1;unfold a1X at this;omega)];rfl;simp only[decide_eq_false h4,decide_eq_false h5,cF,oB];have hb:4≤b.1∧b.1≤24:=by omega
 have inner:∀(i:Nat)(hi:i<b.2.1.length),a0h a3N ((i:Int),(0:Int),b,())=some (bif (b.2.1[i]).all (fun x=>a1W x b.1)then Sum.inl ((i:Int),b,())else Sum.inr (false,())):=fun i hi=>by
  have hl:(b.2.1[i]).length=(b.2.1.headD []).length:=by simpa using lA.1 h3.2.2 _ (a01 hi)
  have:=a1v (f:=a3N) (β:=(Int×a2b×Unit) ⊕ (Bool×Unit)) b.2.1[i] (fun j=>((i:Int),(j:Int),b,())) (fun x=>a1W x b.1) (bt:=Sum.inl ((i:Int),b,())) (bf:=Sum.inr (false,()))
   (fun j h hp=>by simp only[a3N,a0c hi,oB,dlt h,cT,a0c h,c1d hb,hp,bT,cF,a0d (show j<1000000 by omega)])
   (fun j h hp=>by simp only[a3N,a0c hi,oB,dlt h,cT,a0c h,c1d hb,hp,a00])
   (by simp only[a3N,a0c hi,oB,dge,cF])
  exact this
 have hall:=a1v (f:=a4S) (β:=Unit ⊕ (Bool×Unit)) b.2.1 (fun i=>((i:Int),b,())) (fun r=>r.all fun x=>a1W x b.1) (bt:=Sum.inl ()) (bf:=Sum.inr (false,()))
  (fun i h hp=>by
   have hi:=inner i h;rw[hp,cT]at hi;simp only[a4S,dlt h,cT];rw[hi];simp only[oB,a0d (show i<1000000 by omega)])
  (fun i h hp=>by
   have hi:=inner i h;rw[hp,cF]at hi;simp only[a4S,dlt h,cT];rw[hi];rfl)
  (by simp only[a4S,dge,cF])
 simp only[nZ]at hall;rw[hall]
 by_cases hA:b.2.1.all (fun r=>r.all fun x=>a1W x b.1)=true
 rw[hA,decide_eq_true (p:=a3U b) (⟨hb.1,hb.2,h3.1,h3.2.1,by unfold a1X;omega,by unfold a1X;omega,lA.2 fun r hr=>by
  have g1:=lA.1 h3.2.2 r hr;have g2:=lA.1 hA r hr;simp only[dT]at g1;unfold a1X;rw[decide_eq_true g1,g2];rfl⟩:a3U b)]
 rfl;rw[a05.2 hA,decide_eq_false (p:=a3U b) (fun h=>hA (lA.2 fun r hr=>by
  have:=lA.1 h.2.2.2.2.2.2 r hr
  simp only[bA]at this;exact this.2))]
 rfl
theorem d0b{b:a2b}(hs:∀r∈b.2.1,r.length≤100):∃t,a7n b=some t∧(t=true→a3U b):=⟨_,c4C b,of_decide_eq_true⟩
theorem d7k{x w:Int}(hw:4≤w∧w≤24)(h:a1W x w=true):-16777216≤x∧x≤16777216:=by
 unfold a1W at h;simp only[bA,dT]at h;obtain⟨-,-,h1,h2⟩:=h;obtain⟨o,ho⟩:∃o:Nat,w-1=(o:Int):=⟨(w-1).toNat,by omega⟩;rw[ho]at h1 h2;rw[c8D (by omega)]at h2;have hp:2^o≤2^24:=a06 (by omega) (by omega);have hm:a0z .i64 (-1) (o:Int)=wrap .i64 (-((2^o:Nat):Int)):=by
  unfold a0z;show wrap .i64 (-1*2^(min (o:Int).toNat 64))=_;rw[tN,Nat.min_eq_left (by omega),show((2^o:Nat):Int)=(2:Int)^o from by rw[Int.natCast_pow];rfl,Int.neg_one_mul]
 rw[hm]at h1;generalize 2^o=p at hp h1 h2;have hp':p≤16777216:=hp;rw[a0f (by omega)]at h1 h2;omega
theorem d4i{x w:Int}(hw:4≤w∧w≤24)(h:a1W x w=true):a0b x=true:=a2j.2 (by have:=d7k hw h;omega)
theorem b9o{b:a2b}(h:a3U b):a4t b.2.1 (a1X b)∧a3r b.2.1:=by
 obtain⟨h1,h2,h3,h4,h5,h6,h7⟩:=h;have hN:a4t b.2.1 (a1X b):=fun r hr=>by
  have:=lA.1 h7 r hr
  simp only[bA,dT]at this;exact⟨this.1,lA.2 fun x hx=>d4i ⟨h1,h2⟩ (lA.1 this.2 x hx)⟩
 exact⟨hN,c2U hN h3 h4 h6⟩
theorem d2F{b:a2b}(hb:a3U b){l:List a0W}(hl:a5S l (b.2.1.length:Int)){rows:List (List Int)}(hd:doO l b.2.1=some rows){ss:List Sub}(hs:a8Q (fun s=>a2Q s ((a1X b:Nat):Int)) ss=some rows)
  {start rate:Int}(hst:0≤start∧start≤4194304-((a1X b:Nat):Int))(hr:1≤rate∧rate≤1048576):
  b0F (start,((a1X b:Nat):Int),(rate,((b.2.1.length:Nat):Int),b.1,()),l,ss,())=some b:=by
 obtain⟨hN,hQ⟩:=b9o hb;obtain⟨k1,k2⟩:=b5p l hN rfl hl.2.2.2 hd;have hlen:=c2W hs;obtain⟨h1,h2,h3,h4,h5,h6,h7⟩:=hb;have hfr:frP (start,((a1X b:Nat):Int),(rate,((b.2.1.length:Nat):Int),b.1,()),l,ss,()):=⟨⟨hr.1,hr.2,by show(1:Int)≤((b.2.1.length:Nat):Int);omega,by show((b.2.1.length:Nat):Int)≤8;omega,h1,h2⟩,by show(1:Int)≤((a1X b:Nat):Int);omega,by show((a1X b:Nat):Int)≤4096;omega,hst.1,hst.2,hl⟩;have hch:((ss.length:Nat):Int)=((b.2.1.length:Nat):Int):=by omega
 have hQ':a3r rows:=c2U k1 (by omega) (by omega) h6;have hm':a5S l ((rows.length:Nat):Int):=by rw[k2];exact hl
 have hu:=d0F l hN rfl hl.2.2.2 hd;have hbe:((b.1,b.2.1,()):a2b)=b:=rfl;unfold b0F;rw[if_pos ⟨hfr,hch⟩];simp only[hs,oB];rw[if_pos ⟨hQ',hm'⟩,hu];simp only[oB,hbe];rw[if_pos ⟨h1,h2,h3,h4,h5,h6,h7⟩]
def c4D:a1D:=(0,0,(0,0,0,()),[],[],())
theorem d5E(k:Nat)(hk:k≤62)(y:Int):∃v:Nat,bits .i64 .and y ((2^k-1:Nat):Int)=(v:Int)∧v<2^k:=by
 have hp:2^k≤2^62:=a06 (by omega) hk;have h0:0<2^k:=Nat.pow_pos (by omega);have h:((a02 64 y) &&& (a02 64 ((2^k-1:Nat):Int))).toNat=(a02 64 y).toNat%2^k:=by
  rw[BitVec.toNat_and];have e:(a02 64 ((2^k-1:Nat):Int)).toNat=2^k-1:=by
   rw[BitVec.toNat_ofInt];generalize 2^k=p at *;omega
  rw[e,Nat.and_two_pow_sub_one_eq_mod]
 have hlt:=Nat.mod_lt (a02 64 y).toNat h0;refine⟨(a02 64 y).toNat%2^k,?_,hlt⟩;show wrap .i64 ((((a02 64 y) &&& (a02 64 ((2^k-1:Nat):Int))).toNat:Nat):Int)=_;rw[h];generalize (a02 64 y).toNat%2^k=z at *;exact a0f (by omega)
theorem c4E(c:List (List Int))(n i:Int){r:List Int}(hr:short r):∀(k j:Nat)(s:Int),2≤j→j+k=r.length∨(k=0∧r.length≤j)→∃s',a0h a7N (s,r,(j:Int),c,n,i,())=some (s',c,n,i,())
 |0,j,s,h2,h=>⟨s,a0o (by
   have d:decide ((j:Int)<(r.length:Int))=false:=by simp;omega
   simp only[a7N,d,cF])⟩
 |k+1,j,s,h2,h=>by
  have hj:j<r.length:=by omega
  unfold short at hr;have e1:wrap .i64 ((j:Int)-1)=((j-1:Nat):Int):=by rw[a0f (by omega)];omega
  have e2:wrap .i64 ((j:Int)-2)=((j-2:Nat):Int):=by rw[a0f (by omega)];omega
  have g1:=a0c (l:=r) (i:=j-1) (by omega);have g2:=a0c (l:=r) (i:=j-2) (by omega);obtain⟨s',hs'⟩:=c4E c n i hr k (j+1) (wrap .i64 (s+a2q (wrap .i64 (wrap .i64 (r[j]-wrap .i64 (2*r[j-1]))+r[j-2])) (wrap .i64 (0-wrap .i64 (wrap .i64 (r[j]-wrap .i64 (2*r[j-1]))+r[j-2]))))) (by omega) (by omega);refine⟨s',?_⟩;rw[←hs'];exact a0q (by simp only[a7N,dlt hj,cT,a0c hj,oB,e1,e2,g1,g2,a0d (show j<1000000 by omega)])
theorem c6H{c:List (List Int)}{n:Nat}(h:a4t c n)(hn:n≤4096)(hl:c.length<1000):∃w,a8p c=some w:=by
 unfold a8p;simp only[c5z,oB]
 by_cases hq:a3r c
 rotate_left;exact⟨0,by simp only[hq,decide_false,a00,cT]⟩;simp only[hq,decide_true,bT,cF];have loop:∀(k i:Nat)(s:Int),i+k=c.length→∃s',a0h a7O (s,c,(c.length:Int),(i:Int),())=some (s',()):=by
  intro k
  induction k with
  |zero=>
   intro i s hi;obtain rfl:i=c.length:=by omega
   exact⟨s,a0o (by simp only[a7O,dge,cF])⟩
  |succ k ih=>
   intro i s hi;have hlt:i<c.length:=by omega
   have hr:=(h _ (a01 hlt)).1;obtain⟨s1,h1⟩:=c4E c (c.length:Int) (i:Int) (r:=c[i]) (by unfold short;omega) (c[i].length-2) 2 s (a18 _) (by omega);obtain⟨s2,h2⟩:=ih (i+1) s1 (by omega);refine⟨s2,?_⟩;rw[←h2];rw[show((2:Nat):Int)=2 from rfl]at h1;exact a0q (by simp only[a7O,dlt hlt,cT,a0c hlt,oB,h1,a0d (show i<1000000 by omega)])
 obtain⟨s',hs'⟩:=loop c.length 0 0 (by omega);rw[show((0:Nat):Int)=0 from rfl]at hs';rw[hs'];exact⟨s',rfl⟩
def a5J(m:Nat):List a0W:=match m with
 | 1=>[(0,1,-256,())]
 | 2=>[(1,0,-256,())]
 | 3=>[(1,0,-256,()),(0,1,128,())]
 | 4=>[(1,0,-106,()),(0,1,181,()),(1,0,-106,())]
 |_=>[]
theorem c2X{m:Nat}(h:m≤4):b2n (m:Int)=some (a5J m):=by
 match m,h with
 |0,_=>rfl
 | 1,_=>rfl
 | 2,_=>rfl
 | 3,_=>rfl
 | 4,_=>rfl
theorem c6I{m:Nat}(h:m≤4):a5S (a5J m) 2:=by
 match m,h with
 |0,_=>decide
 | 1,_=>decide
 | 2,_=>decide
 | 3,_=>decide
 | 4,_=>decide
theorem b6T{p:List (List Int)}{n:Nat}(hp:a4t p n)(h2:p.length=2)(hq:a3r p)(hn:n≤4096):∀(k m best:Nat)(least:Int),m+k=5→best≤4→(doO (a5J best) p).isSome=true→
  ∃best',a0h a7j (p,(best:Int),least,(m:Int),())=some (((best':Nat):Int),())∧best'≤4∧(doO (a5J best') p).isSome=true
 |0,m,best,least,hm,hb,hd=>by
  obtain rfl:m=5:=by omega
  exact⟨best,a0o rfl,hb,hd⟩
 |k+1,m,best,least,hm,hb,hd=>by
  have d:decide ((m:Int)<5)=true:=by simp;omega
  have hw:wrap .i64 ((m:Int)+1)=((m+1:Nat):Int):=a0d (by omega);have hmay:a5S (a5J m) (p.length:Int):=by rw[h2];exact c6I (by omega)
  cases hdo:doO (a5J m) p with
  |none=>
   have b1:((6:Int) != 0)=true:=rfl;rw[a0q (s':=(p,(best:Int),least,((m+1:Nat):Int),())) (by
    simp only[a7j,d,cT,c2X (show m≤4 by omega),oB,c7q,if_pos (show a3r p∧a5S (a5J m) (p.length:Int)from⟨hq,hmay⟩),hdo,c2V,b1,hw])]
   exact b6T hp h2 hq hn k (m+1) best least (by omega) hb hd
  |some r=>
   have b0:((0:Int) != 0)=false:=rfl;obtain⟨k1,k2⟩:=b5p (a5J m) hp rfl hmay.2.2.2 hdo
   obtain⟨w,hwt⟩:=c6H k1 hn (by omega);have step:a7j (p,(best:Int),least,(m:Int),())=bif decide (w<least)then some (.inl (p,(m:Int),w,((m+1:Nat):Int),()))else some (.inl (p,(best:Int),least,((m+1:Nat):Int),())):=by
    simp only[a7j,d,cT,c2X (show m≤4 by omega),oB,c7q,if_pos (show a3r p∧a5S (a5J m) (p.length:Int)from⟨hq,hmay⟩),hdo,c2V,b0,cF,hwt,hw]
   cases hlt:decide (w<least)with
   |true=>
    rw[hlt]at step;rw[a0q step];exact b6T hp h2 hq hn k (m+1) m w (by omega) (by omega) (by rw[hdo];rfl)
   |false=>
    rw[hlt]at step;rw[a0q step];exact b6T hp h2 hq hn k (m+1) best least (by omega) hb hd
theorem d7l{p:List (List Int)}{n:Nat}(hp:a4t p n)(h2:p.length=2)(hn:n≤4096):∃m,m≤4∧b3G p=some (a5J m)∧(doO (a5J m) p).isSome=true:=by
 have hq:=c2U hp (by omega) (by omega) hn;obtain⟨w,hw⟩:=c6H hp hn (by omega);obtain⟨m,h1,h2',h3⟩:=b6T hp h2 hq hn 4 1 0 w rfl (by omega) rfl;refine⟨m,h2',?_,h3⟩;unfold b3G;simp only[hw,oB]
 erw[h1]
 simp only[oB,c2X h2']
def b2y(i:Nat)(s:a0W):a0W:=(s.1+(i:Int),s.2.1+(i:Int),s.2.2.1,())
theorem d5F{i N:Nat}(h:i+2≤N){s:a0W}(hs:a2t 2 s=true):a2t (N:Int) (b2y i s)=true:=by
 obtain⟨a1,a2,a3,a4,a5,a6,a7⟩:=a3R.1 hs;exact a3R.2 ⟨by show 0≤s.1+(i:Int);omega,by show s.1+(i:Int)<(N:Int);omega,by show 0≤s.2.1+(i:Int);omega,by show s.2.1+(i:Int)<(N:Int);omega,by show s.1+(i:Int)≠s.2.1+(i:Int);omega,a6,a7⟩
def c7r(i:Nat)(c c' p:List (List Int)):Prop:=c'.length=c.length∧p.length=2∧c'.getD i []=p.getD 0 []∧c'.getD (i+1) []=p.getD 1 []∧∀j,j≠i→j≠i+1→c'.getD j []=c.getD j []
theorem d2G{i:Nat}{c0 c p p':List (List Int)}(hi:i+2≤c0.length)(h:c7r i c0 c p){s:a0W}(hs:a2t 2 s=true)(hst:a4E 1 s p=some p'):∃c',a4E 1 (b2y i s) c=some c'∧c7r i c0 c' p':=by
 obtain⟨h1,h2,h3,h4,h5⟩:=h;obtain⟨a1,a2,a3,a4,a5,a6,a7⟩:=a3R.1 hs;unfold a4E at hst⊢;simp only at hst⊢;have key:∀x:Int,0≤x→x<2→c.getD (x+(i:Int)).toNat []=p.getD x.toNat []:=fun x hx hx2=>by
  have:x=0∨x=1:=by omega
  rcases this with rfl|rfl;rw[show((0:Int)+(i:Int)).toNat=i from by omega];exact h3;rw[show((1:Int)+(i:Int)).toNat=i+1 from by omega];exact h4
 have e1:=key s.1 a1 a2;have e2:=key s.2.1 a3 a4;simp only[b2y];have hr:b1q 1 s.2.2.1 (c.getD (s.1+(i:Int)).toNat []) (c.getD (s.2.1+(i:Int)).toNat [])=b1q 1 s.2.2.1 (p.getD s.1.toNat []) (p.getD s.2.1.toNat []):=by rw[e1,e2]
 simp only[hr]
 split at hst
 rename_i hA;cases hst;rw[if_pos hA];generalize b1q 1 s.2.2.1 (p.getD s.1.toNat []) (p.getD s.2.1.toNat [])=r at *;refine⟨_,rfl,by simp[h1],by simp[h2],?_,?_,fun j hj hj1=>?_⟩
 have:s.2.1=0∨s.2.1=1:=by omega
 rcases this with e|e;rw[e,show((0:Int)+(i:Int)).toNat=i from by omega,a8J _ (by omega),show(0:Int).toNat=0 from rfl,a8J _ (by omega)];rw[e,show((1:Int)+(i:Int)).toNat=i+1 from by omega,a6N _ (by omega),show(1:Int).toNat=1 from rfl,a6N _ (by omega)];exact h3
 have:s.2.1=0∨s.2.1=1:=by omega
 rcases this with e|e;rw[e,show((0:Int)+(i:Int)).toNat=i from by omega,a6N _ (by omega),show(0:Int).toNat=0 from rfl,a6N _ (by omega)];exact h4;rw[e,show((1:Int)+(i:Int)).toNat=i+1 from by omega,a8J _ (by omega),show(1:Int).toNat=1 from rfl,a8J _ (by omega)];rw[a6N _ (by omega)];exact h5 j hj hj1;cases hst
theorem c9j{i:Nat}{c0:List (List Int)}(hi:i+2≤c0.length):∀(l:List a0W){c p p':List (List Int)},l.all (a2t 2)=true→c7r i c0 c p→doO l p=some p'→∃c',doO (l.map (b2y i)) c=some c'∧c7r i c0 c' p'
 | [],c,p,p',_,h,hd=>by cases hd;exact⟨c,rfl,h⟩
 |s::l,c,p,p',hl,h,hd=>by
  simp only[List.all_cons,bA]at hl;simp only[doO,a03]at hd;obtain⟨q,g1,g2⟩:=hd;obtain⟨d,k1,k2⟩:=d2G hi h hl.1 g1;obtain⟨c',j1,j2⟩:=c9j hi l hl.2 k2 g2;exact⟨c',by simp only[List.map_cons,doO,k1,oB];exact j1,j2⟩
theorem d0H:∀(l m:List a0W)(c:List (List Int)),doO (l++m) c=(doO l c).bind (doO m)
 | [],m,c=>rfl
 |s::l,m,c=>by
  simp only[a17,doO];cases a4E 1 s c with
  |none=>rfl
  |some d=>exact d0H l m d
theorem d4j{α β:Type}(f:α→β):∀l:List α,l.flatMap (fun x=>[f x])=l.map f
 | []=>rfl
 |x::l=>by simp[d4j f l]
theorem d0c(b:a2b)(first:Nat)(hf:first≤100){y:List a0W}(hy:y.all (a2t 2)=true)(h3:y.length≤10)(out:List a0W)(ho:out.length≤1000):
  a0h a7k ((first:Int),(y.length:Int),(0:Int),out,y,b,())=some ((first:Int),out++y.map (b2y first),b,()):=by
 have:=a2x (f:=a7k) (β:=Int×(List a0W×(a2b×Unit))) y (fun i (a:List a0W)=>((first:Int),(y.length:Int),(i:Int),a,y,b,())) (fun a x=>.inl (a++[b2y first x])) (fun i a=>a.length=out.length+i) (fun a=>((first:Int),a,b,()))
  (fun i hi a ha=>⟨fun a' ha'=>by
   simp only[Sum.inl.injEq]at ha';subst ha';obtain⟨a1,a2,a3,a4,a5,a6,a7⟩:=a3R.1 (lA.1 hy _ (a01 hi));have d0:decide ((0:Int)≤(i:Int))=true:=by simp
   have hg:List.getD y (Int.toNat (i:Int)) ((0:Int),(0:Int),(0:Int),())=y[i]:=by rw[tN,lD,lG hi];rfl
   refine⟨?_,by simp[ha];omega⟩;simp only[a7k,dlt hi,cT,d0,a08,a1u (show a.length+1<2147483648 by omega),hg,a0d (show i<1000000 by omega),List.append_eq];rw[a0f (n:=y[i].1+(first:Int)) (by omega),a0f (n:=y[i].2.1+(first:Int)) (by omega)]
   rfl,fun b hb=>by cases hb⟩)
  (fun a ha=>by simp only[a7k,dge,cF]) (a:=out) (by simp)
 rw[b6n (fun x:a0W=>[b2y first x])]at this
 simp only[nZ]at this;rw[this];simp only[b0n,d4j]
theorem d9D{c:List (List Int)}{i:Nat}(h:i+2≤c.length):List.drop i (List.take (i+2) c)=[c.getD i [],c.getD (i+1) []]:=by
 apply List.ext_getElem?;intro j;rw[a09]
 match j with
 |0=>rw[a04,if_pos (by omega),a16,lD,lG (by omega)];rfl
 | 1=>rw[a04,if_pos (by omega),lD,lD,lG (by omega)];rfl
 |j+2=>rw[a04,if_neg (by omega)];rfl
theorem c4F{b:a2b}{n:Nat}(hN:a4t b.2.1 n)(hn:n≤4096)(h8:b.2.1.length≤8):∀(k j:Nat)(out:List a0W)(c:List (List Int)),j+k=5→out.length≤3*j→out.all (a2t (b.2.1.length:Int))=true→doO out b.2.1=some c→(∀i,2*j≤i→c.getD i []=b.2.1.getD i [])→3*j≤12∨b.2.1.length≤2*j→
  ∃l c',a0h b0f (((2*j:Nat):Int),out,b,())=some (l,())∧l.length≤16∧l.all (a2t (b.2.1.length:Int))=true∧doO l b.2.1=some c'
 |k,j,out,c,hk,hol,hob,hdo,hag,h12=>by
  have hw1:wrap .i64 (((2*j:Nat):Int)+1)=((2*j+1:Nat):Int):=by rw[a0f (by omega)];omega
  by_cases hlt:2*j+1<b.2.1.length
  ·cases k with
   |zero=>omega
   |succ k=>
    have hw2:wrap .i64 (((2*j:Nat):Int)+2)=((2*j+2:Nat):Int):=by rw[a0f (by omega)];omega
    have hp:a4t [b.2.1.getD (2*j) [],b.2.1.getD (2*j+1) []] n:=fun r hr=>by
     simp only[mC,List.not_mem_nil,or_false]at hr;rcases hr with rfl|rfl;exact a7A hN (by omega);exact a7A hN (by omega)
    obtain⟨m,m1,m2,m3⟩:=d7l hp rfl hn;obtain⟨p',hp'⟩:=Option.isSome_iff_exists.1 m3;have hmay:=(c6I m1).2.2.2;have hnl:(a5J m).length≤3:=by
     match m,m1 with
     |0,_=>decide
     | 1,_=>decide
     | 2,_=>decide
     | 3,_=>decide
     | 4,_=>decide
    have hcl:c.length=b.2.1.length:=(b5p out hN rfl hob hdo).2;obtain⟨c',g1,g2,g3,g4,g5,g6⟩:=c9j (i:=2*j) (c0:=c) (by omega) (a5J m) hmay ⟨rfl,rfl,hag _ (a18 _),hag _ (by omega),fun _ _ _=>rfl⟩ hp';have hin:=d0c b (2*j) (by omega) hmay (by omega) out (by omega);have d1:decide (((2*j+1:Nat):Int)<((b.2.1.length:Nat):Int))=true:=by simp only[dT];omega
    have d2:decide ((0:Int)≤((2*j+2:Nat):Int))=true:=by simp only[dT];omega
    have d3:decide (((2*j+2:Nat):Int)≤((b.2.1.length:Nat):Int))=true:=by simp only[dT];omega
    have d4:decide ((0:Int)≤((2*j:Nat):Int))=true:=by simp only[dT];omega
    have d5:decide (((2*j:Nat):Int)≤((2*j+2:Nat):Int))=true:=by simp only[dT];omega
    rw[a0q (s':=(((2*(j+1):Nat):Int),out++(a5J m).map (b2y (2*j)),b,())) (by
     simp only[b0f,hw1,d1,cT,hw2,d2,d3,a08,tN,d4,d5];rw[d9D (by omega),m2];simp only[oB];rw[hin];simp only[oB,hw2];rfl)]
    refine c4F hN hn h8 k (j+1) (out++(a5J m).map (b2y (2*j))) c' (by omega) (by simp;omega) ?_ (by rw[d0H,hdo];exact g1) (fun i hi=>by rw[g6 i (by omega) (by omega)];exact hag i (by omega)) (by omega);rw[List.all_append,hob,Bool.true_and,lA];intro s hs;obtain⟨t,ht,rfl⟩:=List.mem_map.1 hs;exact d5F (by omega) (lA.1 hmay t ht)
  refine⟨out,c,a0o ?_,by omega,hob,hdo⟩;have d1:decide (((2*j+1:Nat):Int)<((b.2.1.length:Nat):Int))=false:=by simp only[decide_eq_false_iff_not];omega
  simp only[b0f,hw1,d1,cF]
termination_by k=>k
theorem c9k{b:a2b}(hb:a3U b):∃l c',a8G b=some l∧a5S l (b.2.1.length:Int)∧doO l b.2.1=some c':=by
 obtain⟨hN,-⟩:=b9o hb;have h8:=hb.2.2.2.1;obtain⟨l,c',h1,h2,h3,h4⟩:=c4F hN hb.2.2.2.2.2.1 h8 5 0 [] b.2.1 rfl (by simp) rfl rfl (fun _ _=>rfl) (by omega);refine⟨l,c',?_,⟨by have:=hb.2.2.1;omega,by omega,h2,h3⟩,h4⟩;unfold a8G;simp only[b6p,decide_eq_true hb,oB,bT,cF];rw[show((2*0:Nat):Int)=0 from rfl]at h1;rw[h1];rfl
theorem d5G{r:List Int}{n:Nat}(hr:r.length=n∧r.all a0b=true)(h1:1≤n)(h2:n≤256){k:Int}(h0:0≤k)(h3:k≤3):
  ∃s,a6z (r,k)=some (s,0)∧SmallS s∧a2Q s (n:Int)=some r∧a5b s (n:Int)≤((13+a0l r*n:Nat):Int):=by
 obtain⟨hl,hw⟩:=hr;have hd:=a7T (l:=r) (by omega) hw;obtain⟨s,k1,k2,k3,-,-,k6,-⟩:=d2w (l:=r) (by omega) (by omega) hw (d8a (by have:=hd.1;omega)) h0 h3;exact⟨s,k1,k2,by rw[hl]at k3;exact k3,by rw[hl]at k6;exact k6⟩
theorem c4G{effort:Int}(h0:0≤effort)(h3:effort≤3){rows:List (List Int)}{n:Nat}(hN:a4t rows n)(h1:1≤n)(h2:n≤256)(h8:rows.length≤8)(f:a1D):∀(rest d:List (List Int)) (done:List Sub),d++rest=rows→done.length=d.length→
  ∃outs,a0h a6A (effort,rows,(rows.length:Int),(d.length:Int),c4D,b0i f done,())=some (.inl (c4D,b0i f (done++outs),()))∧a8Q (fun s=>a2Q s (n:Int)) outs=some rest∧(∀s∈outs,SmallS s)∧a8Q (fun r=>a6z (r,effort)) rest=some (outs.map fun s=>(s,0))
 | [],d,done,hd,hdl=>by
  have e:d=rows:=by simpa using hd
  subst e;refine⟨[],?_,rfl,by simp,rfl⟩;rw[a21];exact a0o (by simp only[a6A,dge,cF])
 |r::rest,d,done,hd,hdl=>by
  have hlt:d.length<rows.length:=by rw[←hd];simp
  have hg:a0p rows (d.length:Int)=some r:=by rw[a0c hlt];subst hd;simp
  obtain⟨s,b1,b2,b3,-⟩:=d5G (hN r (by rw[←hd];simp)) h1 h2 h0 h3;have z0:((0:Int) != 0)=false:=rfl;have step:a6A (effort,rows,(rows.length:Int),(d.length:Int),c4D,b0i f done,())=some (.inl (effort,rows,(rows.length:Int),(((d++[r]).length:Nat):Int),c4D,b0i f (done++[s]),())):=by
   simp only[a6A,dlt hlt,cT,hg,oB,b1,z0,cF];rw[show(b0i f done).2.2.2.2.1=done from rfl,a1u (show done.length+1<2147483648 by omega),cT,a0d (show d.length<1000000 by omega)];rw[show(((d++[r]).length:Nat):Int)=((d.length+1:Nat):Int)from by simp];rfl
  rw[a0q step];obtain⟨outs,k1,k2,k3,k4⟩:=c4G h0 h3 hN h1 h2 h8 f rest (d++[r]) (done++[s]) (by simpa using hd) (by simp[hdl]);refine⟨s::outs,?_,?_,fun t ht=>?_,?_⟩;rw[k1];simp;simp only[a8Q,b3,k2,oB];rcases mC.1 ht with rfl|ht;exact b2;exact k3 t ht;simp only[a8Q,b1,k4,oB,List.map_cons]
theorem d2H{b:a2b}(hb:a3U b)(h256:a1X b≤256){rate start effort:Int}(hr:1≤rate∧rate≤1048576)(hst:0≤start∧start≤4194304-((a1X b:Nat):Int))(h0:0≤effort)(h3:effort≤3):
  ∃l rows outs,a7l (b,(rate,((b.2.1.length:Nat):Int),b.1,()),start,effort)=some ((start,((a1X b:Nat):Int),(rate,((b.2.1.length:Nat):Int),b.1,()),l,outs,()),0)∧
   a5S l (b.2.1.length:Int)∧doO l b.2.1=some rows∧a8Q (fun s=>a2Q s ((a1X b:Nat):Int)) outs=some rows∧(∀s∈outs,SmallS s)∧a8Q (fun r=>a6z (r,effort)) rows=some (outs.map fun s=>(s,0))∧
   (effort=0→l=[])∧(0<effort→a8G b=some l):=by
 obtain⟨hN,hQ⟩:=b9o hb;have hb':=hb;obtain⟨g1,g2,g3,g4,g5,g6,-⟩:=hb';have hfm:c2T (rate,((b.2.1.length:Nat):Int),b.1,()):=⟨hr.1,hr.2,by show(1:Int)≤((b.2.1.length:Nat):Int);omega,by show((b.2.1.length:Nat):Int)≤8;omega,g1,g2⟩;have lifts:∃l rows,a5S l (b.2.1.length:Int)∧doO l b.2.1=some rows∧(effort=0→l=[])∧(0<effort→a8G b=some l):=by
  by_cases he:effort=0
  exact⟨[],b.2.1,⟨by omega,by omega,by simp,rfl⟩,rfl,fun _=>rfl,fun h=>by omega⟩;obtain⟨l,c,k1,k2,k3⟩:=c9k hb;exact⟨l,c,k2,k3,fun h=>absurd h he,fun _=>k1⟩
 obtain⟨l,rows,hm,hd,hl0,hl1⟩:=lifts;obtain⟨k1,k2⟩:=b5p l hN rfl hm.2.2.2 hd;obtain⟨outs,j1,j2,j3,j4⟩:=c4G h0 h3 k1 (by omega) h256 (by omega) (start,((a1X b:Nat):Int),(rate,((b.2.1.length:Nat):Int),b.1,()),l,([]:List Sub),()) rows [] [] rfl rfl;refine⟨l,rows,outs,?_,hm,hd,j2,j3,j4,hl0,hl1⟩;have e1:(b.1 != b.1)=false:=bne_self_eq_false _;have e2:(((b.2.1.length:Nat):Int) != ((b.2.1.length:Nat):Int))=false:=bne_self_eq_false _;have d1:decide (effort<0)=false:=by simp only[decide_eq_false_iff_not];omega
 have d2:decide (effort > 3)=false:=by simp only[decide_eq_false_iff_not];omega
 have d3:decide (start<0)=false:=by simp only[decide_eq_false_iff_not];omega
 have d4:decide (start > wrap .i64 (4194304-((a1X b:Nat):Int)))=false:=by rw[a0f (by omega)];simp only[decide_eq_false_iff_not];omega
 have z0:((0:Int) != 0)=false:=rfl;unfold a7l;simp only[b6p,decide_eq_true hb,oB,bT,cF,b8s,decide_eq_true hfm,e1,e2,d1,d2,d3,a9F,d4];cases he:decide (effort > 0)with
 |true=>
  have:=hl1 (by simpa using he)
  simp only[cT,this,oB,c7q,if_pos (show a3r b.2.1∧a5S l (b.2.1.length:Int)from⟨hQ,hm⟩),hd,c2V,z0,cF]
  erw[j1]
  rfl
 |false=>
  have:=hl0 (by simp only[decide_eq_false_iff_not]at he;omega)
  subst this;simp only[cF,oB,c7q,if_pos (show a3r b.2.1∧a5S ([]:List a0W) (b.2.1.length:Int)from⟨hQ,hm⟩),hd,c2V,z0]
  erw[j1]
  rfl
theorem made{b:a2b}(hb:a3U b)(h256:a1X b≤256){rate start effort:Int}(hr:1≤rate∧rate≤1048576)(hst:0≤start∧start≤4194304-((a1X b:Nat):Int))(h0:0≤effort)(h3:effort≤3):
  ∃g:Int×(a0W×(List a0W×(List Sub×Unit))),a7l (b,(rate,((b.2.1.length:Nat):Int),b.1,()),start,effort)=some ((start,g),0)∧g.1=((a1X b:Nat):Int)∧g.2.1=(rate,((b.2.1.length:Nat):Int),b.1,())∧
   g.2.2.1.length≤16∧g.2.2.2.1.length≤8∧(∀s∈g.2.2.2.1,SmallS s)∧∀start',0≤start'∧start'≤4194304-((a1X b:Nat):Int)→b0F (start',g)=some b:=by
 obtain⟨l,rows,outs,h1,h2,h4,h5,h6,-⟩:=d2H hb h256 hr hst h0 h3;obtain⟨hN,-⟩:=b9o hb;have hl:=c2W h5;have hl2:=(b5p l hN rfl h2.2.2.2 h4).2;exact⟨_,h1,rfl,rfl,h2.2.2.1,by have:=hb.2.2.2.1;show outs.length≤8;omega,h6,fun start' hs=>d2F hb h2 h4 h5 hs hr⟩
theorem c5C(x:a2b×(Int×Int×Int)):b1n x=some true:=by
 obtain⟨b,effort,start,to⟩:=x;unfold b1n;simp only[d7j,oB,bT,cF];obtain⟨t1,h1,s1⟩:=d4h b 60;rw[show((60:Nat):Int)=60 from rfl]at h1;simp only[h1,oB];cases t1 with
 |false=>rfl
 |true=>
  obtain⟨s1,s2⟩:=s1 rfl;obtain⟨t2,h2,hb⟩:=d0b (b:=b) (fun r hr=>by have:=s2 r hr;omega);simp only[bT,cF,h2,oB];cases t2 with
  |false=>rfl
  |true=>
   have hb:=hb rfl;simp only[bT,cF,oB];have hlb:a1X b≤60:=by
    unfold a1X;rw[←b4o (d:=[]) (show 0<b.2.1.length by have:=hb.2.2.1;omega)];exact s2 _ (a01 _)
   obtain⟨v,hv,hv2⟩:=d5E 20 (by omega) to;obtain⟨u,hu,hu2⟩:=d5E 20 (by omega) start;obtain⟨w,hw,hw2⟩:=d5E 2 (by omega) effort;rw[show((2^20-1:Nat):Int)=1048575 from rfl]at hv hu;rw[show((2^2-1:Nat):Int)=3 from rfl]at hw;have hv3:v<1048576:=hv2;have hu3:u<1048576:=hu2;have hw3:w<4:=hw2;obtain⟨g,m1,m2,m3,m4,m5,m6,m7⟩:=made hb (by omega) (rate:=96000) (start:=(u:Int)) (effort:=(w:Int)) (by omega) (by omega) (by omega) (by omega);have hblu:=m7 (u:Int) (by omega);have hblv:=m7 (v:Int) (by omega);obtain⟨L,hL,-,hput,hread,-⟩:=c4B (f:=((u:Int),g)) m6 hblu;obtain⟨L',hL',-,hput',hread',-⟩:=c4B (f:=((v:Int),g)) m6 hblv;have hr:=hread [] (by simp);have hr':=hread' [] (by simp);rw[a21]at hr hr';have hwl:wrap .i64 (4194304-g.1)=4194304-g.1:=a0f (by omega);have move:∀(p q:Int)(M:List Int)(z:List Int×Int),a3D M=some ((p,g),(M.length:Int),(0:Int))→0≤q→q≤4194304-g.1→a5h (q,g)=some z→a9z (M,q)=some z:=fun p q M z hrd q0 q1 hp=>by
    have d1:decide (q<0)=false:=by simp only[decide_eq_false_iff_not];omega
    have d2:decide (((M.length:Nat):Int)<((M.length:Nat):Int))=false:=by simp
    have d3:decide (q > 4194304-g.1)=false:=by simp only[decide_eq_false_iff_not];omega
    have z0:((0:Int) != 0)=false:=rfl;unfold a9z;simp only[d1,cF,hrd,oB,z0,d2,hwl,d3,hp]
   have mv:=move (u:Int) (v:Int) _ _ hr (by omega) (by omega) hput';have mu:=move (v:Int) (u:Int) _ _ hr' (by omega) (by omega) hput;have hfl:(a4g ((u:Int),g) L).length≤800000:=by
    have:=b9n (c1c hblu).1 hL
    simp only[a4g,lN,lC,a20];omega
   have hsf:=c5B (f:=((v:Int),g)) m6 (by show g.2.2.1.length<_;omega) (by show g.2.2.2.1.length<_;omega);simp only[hv,hu,hw,m1,oB,hput,mv,mu,hr',beq_self_eq_true,cT,hsf,c0O]
def dead(T:List Int)(a:Int):List Int×(Int×Int×Unit):=(T,a,(3:Int),())
end Go.Ab
namespace Go.Proofs.YtimgpmdfgkgobaaGreatDoor
open Go.Ab Go.ChangeShapes Go.WideShapes Go.ChangeAt Go.RowKit
theorem c1e{α:Type}{f:Nat→Option (α×a1c×List Nat)}:∀(L:List α)(i:Nat),(∀(j:Nat) x,L[j]?=some x→f (i+j)=some (x,[],[]))→a0g f L.length i=some (L,[],[])
 | [],_,_=>rfl
 |a::L,i,h=>by
  have h0:=h 0 a rfl;have h1:=c1e L (i+1) (fun j x hx=>by have:=h (j+1) x (by simpa using hx);rw[←this];congr 1;omega);simp only[lC,a0g];simp only[a16]at h0;rw[h0,h1];rfl
section
variable {H:Type} {enc:TypeId×Value→H} {P:Program} {w:World} {base:Nat} {spare:Nat→Bool} {held:Bool}
theorem c7f{k:IntKind}{n:Nat}{t e:TypeId}{fuel:Nat}{cs:List Value}{L:List Int}{p:List MemPlace}(ht:P.underlying t=some (.array n e))(he:P.underlying e=some (.int k))(hc:P.cellsOf e=1)
  (h:DataW.trod enc P w base spare held fuel t cs=some (.agg (L.map fun i=>.lit (.int k i)),p)):L.length=n∧∀(j:Nat) x,L[j]?=some x→cs[j]?=some (.int k x):=by
 obtain⟨xs,m,rfl,hx,-,hn,hel⟩:=DataW.trod_array ht h;simp only[pJ,DataW.agg.injEq]at hx;have hl:L.length=n:=by rw[←hn];simpa using congrArg List.length hx.1
 refine⟨hl,fun j x hj=>?_⟩;obtain⟨hjl,-⟩:=lS.1 hj;have h1:=hel j (by omega);rw[hc]at h1;obtain⟨y,hy⟩:∃y,xs[j]?=some y:=⟨_,lG (by omega)⟩;rw[hy]at h1;obtain⟨i,e1,e2,-⟩:=DataW.trod_int he h1;have h2:=congrArg (fun l=>l[j]?) hx.1;simp only[List.getElem?_map,hj,hy,Option.map_some,e2]at h2;simp only[sj,DataW.lit.injEq,Lit.int.injEq,true_and]at h2;subst h2;have h3:=congrArg (fun l=>l[0]?) e1;simpa[a09,a04]using h3
end
def d0I : String := (Rows.frameTellsRow.laid.map Prod.fst).headD ""
theorem e2K:Tryz.prog.globalNamed d0I=some 0:=by kernel_rfl
def d5H:TypeId:=((Tryz.prog.globals[0]?).map (·.type)).getD 0
theorem d7m:(Tryz.prog.globals[0]?).map (·.type)=some d5H:=by kernel_rfl
def d5I:TypeId:=match Tryz.prog.underlying d5H with
 |some (.array _ e)=>e
 |_=>0
theorem e2L:Tryz.prog.underlying d5H=some (.array 64 d5I):=by kernel_rfl
theorem d9E:Tryz.prog.underlying d5I=some (.int .u8):=by kernel_rfl
theorem d9F:Tryz.prog.cellsOf d5I=1:=by kernel_rfl
@[reducible] def laidTab:List (String×DataW Unit):=[(d0I,Rows.laid_math_bits_deBruijn64tab)]

theorem d8g {g:Nat} {t:Ty} {x:t.den} (h:G0 g=some ⟨t,x⟩):g=0∧(⟨t,x⟩:(t:Ty)×t.den)=⟨.arr 64 (.int .u8),b3j⟩:=by
 unfold G0 find at h
 cases g with
 |zero=>exact⟨rfl,(Option.some.inj h).symm⟩
 |succ n=>exact absurd h (by simp[find])
theorem c9l{W:World}(h:laidMetH Tryz.prog laidTab W):∀g t x,G0 g=some ⟨t,x⟩→g<W.heap.size∧dec (a0a W none) t ((Src.at g 0).rd (a0a W none))=some (x,[],[]):=by
 rw[MakeChecks.laidMetH_plain _ _ _ (by kernel_rfl)]at h;obtain⟨ps,⟨g0,t0,cs0,f0,p0,q0,hg0,ht0,hv0,hd0,_⟩,_,_⟩:=h;obtain rfl:=Option.some.inj (e2K.symm.trans hg0);obtain rfl:=Option.some.inj (d7m.symm.trans ht0);have e0:(Rows.laid_math_bits_deBruijn64tab:DataW Unit)=.agg (b3j.map fun i=>.lit (.int .u8 i)):=rfl;rw[e0]at hd0;obtain⟨hl,hc⟩:=c7f e2L d9E d9F hd0;have hcell:∀(j:Nat) x,b3j[j]?=some x→W.cell? ⟨0,j,none⟩=some (.int .u8 x):=fun j x hx=>by
  rw[World.var?_cell hg0 hv0 j];simpa using hc j x hx
 intro g t x hG;obtain⟨rfl,e⟩:=d8g hG;cases e;refine⟨d0p (hcell 0 0 rfl),?_⟩;exact c1e (f:=fun i=>dec (a0a W none) (.int .u8) fun j=>(Src.at 0 0).rd (a0a W none) (i*1+j)) b3j 0 (fun j x hx=>by
  have:=hcell j x hx
  simp only[dec,Src.rd,a0a,Nat.zero_add,Nat.mul_one,a16,this,if_true])
set_option maxRecDepth 100000 in
theorem d5J (os:Os) (args:Array Value):laidMetH Tryz.prog laidTab ((World.doorLaid Tryz.prog 400 os).forCall (fun _ _=>0) ⟨#[],args,[]⟩).memory:=
 laidMetH_of_parts3 (fuel:=8) (laidMet_of_run' 8 (by kernel_rfl) (by kernel_rfl)) (by kernel_rfl) (by kernel_rfl)
end Go.Proofs.YtimgpmdfgkgobaaGreatDoor
