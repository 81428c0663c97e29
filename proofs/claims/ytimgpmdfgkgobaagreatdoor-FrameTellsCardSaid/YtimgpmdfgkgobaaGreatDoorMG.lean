/- Part of the proof: QUC. Conditions: as each statement tells. -/
import Derived.KernelRfl
import Derived.Test.YtimgpmdfgkgobaaGreatDoorRows
import Derived.ProofKit
import Derived.LaidMore
import Derived.LaidLaws
import Derived.LaidHandle
import Derived.LaidByTextLater
import Derived.OpenShut
import Derived.Handed
import Derived.Test.YtimgpmdfgkgobaaGreatDoorMF
noncomputable section
set_option linter.unusedSimpArgs false
set_option linter.unusedVariables false
open BitVec renaming xor_assoc→a05,getLsbD_ushiftRight→a21,msb_eq_getLsbD_last→a33,eq_of_getLsbD_eq→a41,xor_comm→a44,xor_zero→a61,getLsbD→a63
open Bool renaming not_false→a02,eq_false_iff→a19,true_and→a28,and_self→a29
open Int renaming toNat_of_nonneg→a00,eq_ofNat_of_zero_le→a16,toNat→a22,cast_ofNat_Int→a31,natCast_inj→a59
open List renaming getElem_mem→a01,append_eq→a04,replicate→a06,length_nil→a07,nil_append→a08,length_singleton→a09,all_cons→a17,map_cons→a18,not_mem_nil→a20,getElem?_take→a23,flatMap_cons→a24,ext_getElem?→a25,getElem?_set_self→a26,take_succ_eq_append_getElem→a27,getElem?_set_ne→a30,getD→a34,cons_append→a35,range→a36,map_nil→a37,length_eq_zero_iff→a39,mem_map→a40,map_map→a42,set→a43,foldl_cons→a45,eq_replicate_iff→a46,range_add→a47,mem_iff_getElem→a49,getD_cons_succ→a50,replicate_succ→a51,map_congr_left→a52,getElem?_drop→a53,foldl_append→a56,take_length→a57,append_nil→a58,length_set→a60,drop_zero→a62
open Nat renaming le_refl→a32,lt_trans→a38,pow_le_pow_right→a48,add_zero→a55
open Option renaming bind_eq_some_iff→a03,isSome_some→a54
namespace Go.Ab
open IntKind(wrap)
@[reducible] def a0R:Type:=Int×(Int×(Int×Unit))
@[reducible] def a1l:Type:=Int×(Int×(a0R×(List a0R×(List Sub×Unit))))
@[reducible] def a1L:Type:=Int×(List (List Int)×Unit)
def a1z(n:Int)(s:a0R):Bool:=!(decide (s.1<0) || decide (s.1≥n) || decide (s.2.1<0) || decide (s.2.1≥n) || s.1==s.2.1)&&!(decide (s.2.2.1 < -1024) || decide (s.2.2.1 > 1024))
theorem a2h{n:Int}{s:a0R}:a1z n s=true↔0≤s.1∧s.1<n∧0≤s.2.1∧s.2.1<n∧s.1≠s.2.1∧-1024≤s.2.2.1∧s.2.2.1≤1024:=by
 simp only[a1z,bA,Bool.not_eq_true',Bool.or_eq_false_iff,decide_eq_false_iff_not,beq_eq_false_iff_ne];omega
def a2L(l:List a0R)(n:Int):Prop:=1≤n∧n≤8∧l.length≤16∧l.all (a1z n)=true
instance (l:List a0R) (n:Int):Decidable (a2L l n):=by unfold a2L;infer_instance
theorem b5x(l:List a0R)(n:Int):a8q (l,n)=some (decide (a2L l n)):=by
 unfold a8q a2L
 by_cases h1:n<1
 have:¬ 1≤n:=by omega
 simp[h1,this]
 by_cases h2:n > 8
 have:¬ n≤8:=by omega
 simp[h1,h2,this]
 by_cases h3:((l.length:Nat):Int) > 16
 have:¬ l.length≤16:=by omega
 simp[h1,h2,h3,this];have g:=a0Y (f:=a6R) (β:=Unit ⊕ (Bool×Unit)) l (fun i=>(n,l,(l.length:Int),(i:Int),())) (a1z n) (bt:=Sum.inl ()) (bf:=Sum.inr (false,()))
  (fun i h hp=>by
   obtain⟨a1,s,t,u,c,v,w⟩:=a2h.1 hp;have k:decide (l[i].1<0)=false:=by simp;omega
   have a:decide (l[i].1≥n)=false:=by simp;omega
   have b:decide (l[i].2.1<0)=false:=by simp;omega
   have m:decide (l[i].2.1≥n)=false:=by simp;omega
   have o:(l[i].1==l[i].2.1)=false:=by simpa using c
   have q:decide (l[i].2.2.1 < -1024)=false:=by simp;omega
   have r:decide (l[i].2.2.1 > 1024)=false:=by simp;omega
   simp only[a6R,dlt h,cT,a0B h,oB,k,a,b,m,o,q,r,cF,a0C (show i<1000000 by omega)])
  (fun i h hp=>by
   simp only[a6R,dlt h,cT,a0B h,oB];unfold a1z at hp;generalize decide (l[i].1<0)=b1 at *;generalize decide (l[i].1≥n)=b2 at *;generalize decide (l[i].2.1<0)=b3 at *;generalize decide (l[i].2.1≥n)=b4 at *;generalize (l[i].1==l[i].2.1)=b5 at *;cases b1<;>cases b2<;>cases b3<;>cases b4<;>cases b5<;>simp at hp⊢;generalize hb6:decide (l[i].2.2.1 < -1024)=b6;cases b6;simp only[decide_eq_false_iff_not]at hb6
   have:1024<l[i].2.2.1:=hp (by omega)
   simp[this]
   simp)
  (by simp[a6R])
 simp only[nZ]at g;have j:decide (((l.length:Nat):Int) > 16)=false:=by simpa using h3
 have d:decide (n<1)=false:=by simpa using h1
 have e:decide (n > 8)=false:=by simpa using h2
 simp only[d,e,j,cF,oB,g];have k:1≤n:=by omega
 have a:n≤8:=by omega
 have b:l.length≤16:=by omega
 by_cases hA:l.all (a1z n)=true
 rw[decide_eq_true (p:=1≤n∧n≤8∧l.length≤16∧l.all (a1z n)=true) ⟨k,a,b,hA⟩,hA];rfl;rw[decide_eq_false (p:=1≤n∧n≤8∧l.length≤16∧l.all (a1z n)=true) (fun h=>hA h.2.2.2),a19.2 hA];rfl
def b5y(f:a0R):Prop:=1≤f.1∧f.1≤1048576∧1≤f.2.1∧f.2.1≤8∧4≤f.2.2.1∧f.2.2.1≤24
instance (f:a0R):Decidable (b5y f):=by unfold b5y;infer_instance
theorem b6d(f:a0R):a6Q f=some (decide (b5y f)):=by
 unfold a6Q a6P b5y
 by_cases h1:1≤f.1<;>by_cases h2:f.1≤1048576<;>by_cases h3:1≤f.2.1<;>by_cases h4:f.2.1≤8<;>by_cases h5:4≤f.2.2.1<;>simp[h1,h2,h3,h4,h5]
def frP(f:a1l):Prop:=b5y f.2.2.1∧1≤f.2.1∧f.2.1≤4096∧0≤f.1∧f.1≤4194304-f.2.1∧a2L f.2.2.2.1 f.2.2.1.2.1
instance (f:a1l):Decidable (frP f):=by unfold frP;infer_instance
theorem c2m(f:a1l):a9n f=some (decide (frP f)):=by
 unfold a9n frP;rw[b6d,b5x]
 by_cases h1:b5y f.2.2.1<;>by_cases h2:1≤f.2.1<;>by_cases h3:f.2.1≤4096<;>by_cases h4:0≤f.1<;>simp[h1,h2,h3,h4]
 have h:wrap .i64 ((4194304:Int)-f.2.1)=4194304-f.2.1:=a0H (by omega);rw[h]
 by_cases h5:f.1≤4194304-f.2.1<;>simp[h5]
def a3g(s:a0R):List Nat:=[s.1.toNat,s.2.1.toNat,b5w s.2.2.1]
def b1o(s:a0R):List Int:=a1Z s.1.toNat++(a1Z s.2.1.toNat++a1Z (b5w s.2.2.1))
def hb(f:a1l)(body:Nat):List Int:=
 [245,75]++(a1Z f.1.toNat++(a1Z f.2.1.toNat++(a1Z f.2.2.1.1.toNat++(a1Z f.2.2.1.2.1.toNat++(a1Z f.2.2.1.2.2.1.toNat++(a1Z f.2.2.2.1.length++(f.2.2.2.1.flatMap b1o++a1Z body)))))))
def b8D(f:a1l)(body:Nat):List Int:=hb f body++[c7d (hb f body)]
theorem a6o{n:Nat}(h:n<9223372036854775808):1≤(a1Z n).length∧(a1Z n).length≤9:=b6R 8 n (by rw[show(128:Nat)^(8+1)=9223372036854775808 from by decide];exact h)
theorem c2R{n:Int}(j:n≤8){s:a0R}(h:a1z n s=true):(b1o s).length≤27:=by
 obtain⟨a1,k,a,b,c,g,f⟩:=a2h.1 h
 have:=c2k (m:=1024) ⟨g,f⟩
 have d:=a6o (n:=s.1.toNat) (by omega);have e:=a6o (n:=s.2.1.toNat) (by omega);have i:=a6o (n:=b5w s.2.2.1) (by omega);simp only[b1o,lN];omega
theorem b8E{n:Int}(g:n≤8):∀(l:List a0R),l.all (a1z n)=true→(l.flatMap b1o).length≤27*l.length
 | [],_=>by simp
 |s::l,h=>by
  simp only[a17,bA]at h
  have:=c2R g h.1
  have:=b8E g l h.2
  simp only[a24,lN,lC];omega
theorem c1B{f:a1l}(g:frP f){body:Nat}(h:body≤1048576):2≤(hb f body).length∧(hb f body).length≤600:=by
 obtain⟨⟨q,r2,k,a,b,c⟩,l1,l2,s1,s2,m1,m2,m3,m4⟩:=g;have d:=a6o (n:=f.1.toNat) (by omega);have e:=a6o (n:=f.2.1.toNat) (by omega);have i:=a6o (n:=f.2.2.1.1.toNat) (by omega);have j:=a6o (n:=f.2.2.1.2.1.toNat) (by omega);have l:=a6o (n:=f.2.2.1.2.2.1.toNat) (by omega);have m:=a6o (n:=f.2.2.2.1.length) (by omega);have o:=a6o (n:=body) (by omega);have p:=b8E m2 _ m4;simp only[hb,lN,lC,a07];omega
theorem c5F:∀l:List a0R,(l.flatMap a3g).length=3*l.length
 | []=>rfl
 |s::l=>by simp only[a24,lN,lC,c5F l];simp only[a3g,lC,a07];omega
theorem c5G(a b:List Nat):asI (a++b)=asI a++asI b:=by simp[asI]
theorem c7f{f:a1l}(D:frP f){body:Nat}(r:body≤1048576):a7C (f,(body:Int))=some (b8D f body):=by
 have u:=D;obtain⟨⟨O,r2,K,L,M,N⟩,l1,l2,s1,s2,m1,m2,m3,m4⟩:=u;have k:∀s∈f.2.2.2.1,a1z f.2.2.1.2.1 s=true:=fun s y=>lA.1 m4 s y;have h:=a0X (f:=a5f) (β:=Int×(List Int×Unit)) f.2.2.2.1 (fun i (a:List Int)=>((body:Int),f.2.2.2.1,((f.2.2.2.1.length:Nat):Int),(i:Int),a,())) (fun a x=>.inl (a++asI (a3g x))) (fun i a=>a.length=6+3*i) (fun a=>((body:Int),a,()))
  (fun i v a C=>⟨fun I l=>by
   simp only[Sum.inl.injEq]at l;subst l;obtain⟨a1,E,z,F,G,A,B⟩:=a2h.1 (k _ (a01 v));refine⟨?_,by simp[C,asI,a3g];omega⟩;simp only[a5f,dlt v,cT,a0B v,oB,d1U (g:=f.2.2.2.1[i].2.2.1) (by omega),a1a (show a.length+3<2147483648 by omega),a0C (show i<1000000 by omega),a04];rw[a0M (n:=f.2.2.2.1[i].1) (by omega),a0M (n:=f.2.2.2.1[i].2.1) (by omega)];simp only[asI,a3g,a18,a37,a00 a1,a00 z],fun b hb=>by cases hb⟩)
  (fun a C=>by simp only[a5f,dge,cF]) (a:=asI [f.1.toNat,f.2.1.toNat,f.2.2.1.1.toNat,f.2.2.1.2.1.toNat,f.2.2.1.2.2.1.toNat,f.2.2.2.1.length]) (by simp[asI])
 rw[a8o]at h;simp only[a6E,nZ]at h;have e:([wrap .u64 f.1,wrap .u64 f.2.1,wrap .u64 f.2.2.1.1,wrap .u64 f.2.2.1.2.1,wrap .u64 f.2.2.1.2.2.1,wrap .u64 ((f.2.2.2.1.length:Nat):Int)]:List Int)=asI [f.1.toNat,f.2.1.toNat,f.2.2.1.1.toNat,f.2.2.1.2.1.toNat,f.2.2.1.2.2.1.toNat,f.2.2.2.1.length]:=by
  rw[a0M (n:=f.1) (by omega),a0M (n:=f.2.1) (by omega),a0M (n:=f.2.2.1.1) (by omega),a0M (n:=f.2.2.1.2.1) (by omega),a0M (n:=f.2.2.1.2.2.1) (by omega),a0M (by omega)];simp only[asI,a18,a37,a00 (show 0≤f.1 by omega),a00 (show 0≤f.2.1 by omega),a00 (show 0≤f.2.2.1.1 by omega),a00 (show 0≤f.2.2.1.2.1 by omega),a00 (show 0≤f.2.2.1.2.2.1 by omega)]
 have p:asI [f.1.toNat,f.2.1.toNat,f.2.2.1.1.toNat,f.2.2.1.2.1.toNat,f.2.2.1.2.2.1.toNat,f.2.2.2.1.length]++f.2.2.2.1.flatMap (fun x=>asI (a3g x))++[((body:Nat):Int)]=asI ([f.1.toNat,f.2.1.toNat,f.2.2.1.1.toNat,f.2.2.1.2.1.toNat,f.2.2.1.2.2.1.toNat,f.2.2.2.1.length]++f.2.2.2.1.flatMap a3g++[body]):=by
  rw[c5G,c5G];congr 2;simp only[asI,List.map_flatMap]
 have w:∀n∈[f.1.toNat,f.2.1.toNat,f.2.2.1.1.toNat,f.2.2.1.2.1.toNat,f.2.2.1.2.2.1.toNat,f.2.2.2.1.length]++f.2.2.2.1.flatMap a3g++[body],n<9223372036854775808:=fun n j=>by
  simp only[mA,mC,a20,or_false,List.mem_flatMap]at j;rcases j with(j|⟨s,y,j⟩)|j;omega;obtain⟨a1,E,z,F,G,A,B⟩:=a2h.1 (k _ y)
  have:=c2k (m:=1024) ⟨A,B⟩
  simp only[a3g,mC,a20,or_false]at j;omega;omega
 have c:=c5F f.2.2.2.1;have q:=c4u w (by simp[c];omega);have d:(([f.1.toNat,f.2.1.toNat,f.2.2.1.1.toNat,f.2.2.1.2.1.toNat,f.2.2.1.2.2.1.toNat,f.2.2.2.1.length]++f.2.2.2.1.flatMap a3g++[body]).flatMap a1Z)=(hb f body).drop 2:=by
  simp only[hb,List.flatMap_append,a24,List.flatMap_nil,a58,aA,List.flatMap_assoc,a35,a08,List.drop_succ_cons,a62];congr 7;exact congrArg (fun g=>List.flatMap g f.2.2.2.1) (funext fun s=>by simp[b1o,a3g])
 have t:[245,75]++(hb f body).drop 2=hb f body:=by simp[hb]
 have H:=c1B D r;unfold a7C;simp only[e];rw[h];simp only[oB,a04];have o:=congrArg List.length p;rw[show(asI ([f.1.toNat,f.2.1.toNat,f.2.2.1.1.toNat,f.2.2.1.2.1.toNat,f.2.2.1.2.2.1.toNat,f.2.2.2.1.length]++f.2.2.2.1.flatMap a3g++[body])).length=7+3*f.2.2.2.1.length from by simp only[asI,List.length_map,lN,c,lC,a07];omega]at o;rw[lN,a09]at o;rw[a0M (n:=(body:Int)) (by omega),a1a (by omega),cT,p,q];simp only[oB,d,a04,t];rw[a1a (by simp;omega),cT,c8U (show short (hb f body)by unfold short;omega)];simp only[oB];rw[a1a (by omega),cT];rfl
@[reducible] def PZ:Type:=Sub×List Nat
def c7g(n:Int)(p:PZ):Prop:=SmallS p.1∧(a1o p.1 n).isSome=true∧(p.1.1≠0∧p.1.1≠1→PartsOk p.1.2.2.2.2.2.2.2.2.2.1 n ((p.1.2.2.2.2.2.2.2.2.1.length:Nat):Int) p.1.2.2.2.2.2.2.2.2.2.2.1 p.2)
def a0S(l:List PZ):List Int:=l.flatMap fun p=>b1P p.1 p.2
theorem c7Y(l:List PZ):a1K (a0S l):=b4V fun _=>c8R _ _
theorem c2S(x:a1l)(all:List Sub)(n:all.length≤8):∀(rest done:List Sub)(L:List Int),done++rest=all→(∀s∈rest,SmallS s∧(a1o s x.2.1).isSome=true)→L.length+700000*rest.length<40000000→
  ∃zs:List PZ,zs.map (·.1)=rest∧(∀p∈zs,c7g x.2.1 p)∧(a0S zs).length≤700000*rest.length∧((∀s∈rest,∃c,a5l (s,x.2.1)=some (c:Int))∧some (((a0S zs).length:Nat):Int)=rest.foldr (fun s a=>a.bind fun a=>(a5l (s,x.2.1)).bind fun c=>some (c+a)) (some 0))∧
   x0r a8B (all,(all.length:Int),(done.length:Int),wL L,x,())=some (.inl (wL (L++a0S zs),x,()))
 | [],done,L,hd,_,_=>by
  have e:done=all:=by simpa using hd
  subst e;refine⟨[],rfl,by simp,by simp[a0S],⟨by simp,by simp[a0S]⟩,?_⟩;rw[a0D (b:=Sum.inl (wL L,x,())) (by simp only[a8B,dge,cF])];simp[a0S]
 |s::rest,done,L,hd,h,hL=>by
  obtain⟨j,i⟩:=h s (by simp);rw[lC]at hL;obtain⟨k,l,d,u,m⟩:=c8S j i (L:=L) (by omega);obtain⟨zs,k1,k2,k3,⟨q,r⟩,k6⟩:=c2S x all n rest (done++[s]) (L++b1P s k) (by simpa using hd) (fun t f=>h t (by simp[f])) (by rw[lN];omega);have g:done.length<all.length:=by rw[←hd];simp
  have o:l0z all (done.length:Int)=some s:=by rw[a0B g];subst hd;simp
  refine⟨(s,k)::zs,by simp[k1],fun p hp=>?_,?_,⟨fun t f=>?_,?_⟩,?_⟩;rcases mC.1 hp with rfl|hp;exact⟨j,i,m⟩;exact k2 p hp;simp only[a0S,a24,lN,lC];simp only[a0S]at k3;omega;rcases mC.1 f with rfl|f;exact⟨_,d⟩;exact q t f;simp only[List.foldr_cons,←r,oB,d];simp[a0S];have z0:((0:Int) != 0)=false:=rfl;rw[a0E (s':=(all,(all.length:Int),(((done++[s]).length:Nat):Int),wL (L++b1P s k),x,())) (by
   simp only[a8B,dlt g,cT,o,oB,l,z0,cF,a0C (show done.length<1000000 by omega)]
   simp)]
  rw[k6];simp[a0S]
def b6S(k:Nat):Nat:=(8-k%8)%8
def b4n(L:List Int):List Int:=L++a06 (b6S L.length) 0
theorem c1C:∀(k:Nat)(L:List Int),b6S L.length=k→L.length+k<900000000→x0r a3o (wL L,())=some (wL (L++a06 k 0),())
 |k,L,hk,hL=>by
  have f:=(a6I L).1;have h:Int.tmod (wL L).2.1 8=((L.length%8:Nat):Int):=by rw[f];rfl
  unfold b6S at hk;cases k with
  |zero=>
   have:L.length%8=0:=by omega
   rw[a0D (b:=(wL L,())) (by
    simp only[a3o,h,this];rfl)]
   simp
  |succ k=>
   have hb:(((L.length%8:Nat):Int) != 0)=true:=by simp;omega
   rw[a0E (s':=(wL (L++[0]),())) (by
    simp only[a3o,h,hb,cT,c0Y (show L.length<1000000000 by omega),oB])]
   rw[c1C k (L++[0]) (by unfold b6S;rw[lN,a09];omega) (by rw[lN,a09];omega)];rw[aA];rfl
theorem c8W{L:List Int}(h:L.length<800000000):a4N (wL L)=some (wL (b4n L)):=by
 unfold a4N;rw[c1C _ L rfl (by unfold b6S;omega)];rfl
def a3N(L:List Int):List Int:=(wL (b4n L)).1
theorem c2T(L:List Int):(a3N L).length=(L.length+7) / 8∧8*(a3N L).length=(b4n L).length:=by
 have:=(a6I (b4n L)).2
 unfold a3N;rw[this];unfold b4n b6S;simp only[lN,List.length_replicate];omega
def b1Q(f:a1l)(L:List Int):List Int:=b8D f (a3N L).length++a3N L
def d1V(f:a1l)(L:List Int):List Int:=b1Q f L++[b4W (b1Q f L) / 256,b4W (b1Q f L)%256]
theorem c4v{f:a1l}(h:frP f){L:List Int}(a:L.length≤5600000):(b1Q f L).length≤700700∧(a3N L).length≤700000:=by
 have g:=(c2T L).1;have k:=c1B h (body:=(a3N L).length) (by omega);simp only[b1Q,b8D,lN,a09];omega
theorem c4w{f:a1l}(j:a7n f=some true)(d:frP f)(e:f.2.2.2.2.1.length≤8)(m:∀s∈f.2.2.2.2.1,SmallS s∧(a1o s f.2.1).isSome=true):
  ∃zs:List PZ,zs.map (·.1)=f.2.2.2.2.1∧(∀p∈zs,c7g f.2.1 p)∧(a0S zs).length≤5600000∧
   some (((a0S zs).length:Nat):Int)=f.2.2.2.2.1.foldr (fun s a=>a.bind fun a=>(a5l (s,f.2.1)).bind fun c=>some (c+a)) (some 0)∧a5F f=some (d1V f (a0S zs),0):=by
 obtain⟨zs,k1,k2,k3,⟨-,n⟩,k6⟩:=c2S f f.2.2.2.2.1 e f.2.2.2.2.1 [] [] rfl m (by simp;omega);have b:(a0S zs).length≤5600000:=by omega
 refine⟨zs,k1,k2,b,n,?_⟩;rw[a08,a07]at k6;have hp:=c4v d b;have k:wL []=(([]:List Int),(0:Int),()):=rfl;rw[k]at k6;have g:(b4n (a0S zs)).length<1000000000:=by
  have:=(c2T (a0S zs)).2
  omega
 have l:=b9B (b1Q f (a0S zs));have h:b8D f (a3N (a0S zs)).length++a3N (a0S zs)=b1Q f (a0S zs):=rfl;have i:(b8D f (a3N (a0S zs)).length).length+(a3N (a0S zs)).length=(b1Q f (a0S zs)).length:=by rw[←h,lN]
 unfold a5F;simp only[j,oB,bT,cF]
 erw[k6]
 simp only[oB,c8W (show(a0S zs).length<800000000 by omega),c8T g]
 erw[c7f d (show(a3N (a0S zs)).length≤1048576 by omega)]
 simp only[oB,a04];rw[show(wL (b4n (a0S zs))).1=a3N (a0S zs)from rfl];rw[h,a1a (by omega),cT,c7e (show short (b1Q f (a0S zs))by unfold short;omega)];simp only[oB];rw[a0M (by omega),d7U l];simp only[oB];rw[a1a (by simp;omega),cT];rfl
def c1D(f:a1l)(l:List Sub):a1l:=(f.1,f.2.1,f.2.2.1,f.2.2.2.1,l,())
theorem b4o(x:Int):a9b x=some (a0A x):=by
 unfold a9b a0A
 by_cases h:-1073741824≤x<;>simp[h]
def a1B(c:List (List Int)):Prop:=1≤c.length∧c.length≤8∧(c.headD []).length≤4096∧c.all (fun r=>decide (r.length=(c.headD []).length)&&r.all a0A)=true
instance (c:List (List Int)):Decidable (a1B c):=by unfold a1B;infer_instance
theorem b2H{α:Type}{l:List α}{d:α}(h:0<l.length):l[0]=l.headD d:=by
 cases l with
 |nil=>simp at h
 |cons a l=>rfl
theorem c2n(c:List (List Int)):a7l c=some (decide (a1B c)):=by
 unfold a7l
 by_cases h1:((c.length:Nat):Int)<1
 have:¬ a1B c:=fun h=>by have:=h.1;omega
 simp[h1,this]
 by_cases h2:((c.length:Nat):Int) > 8
 have:¬ a1B c:=fun h=>by have:=h.2.1;omega
 simp[h1,h2,this];have l:0<c.length:=by omega
 have b:l0z c 0=some (c.headD []):=by rw[show(0:Int)=((0:Nat):Int)from rfl,a0B l,b2H (d:=[]) l]
 have m:decide (((c.length:Nat):Int)<1)=false:=by simpa using h1
 have n:decide (((c.length:Nat):Int) > 8)=false:=by simpa using h2
 simp only[m,n,cF,b,oB]
 by_cases h3:(((c.headD []).length:Nat):Int) > 4096
 rw[decide_eq_true h3,decide_eq_false (show ¬ a1B c from fun h=>by have:=h.2.2.1;omega)];rfl;have o:decide ((((c.headD []).length:Nat):Int) > 4096)=false:=by simpa using h3
 simp only[o,cF];have g:∀(i:Nat)(r:List Int),short r→x0r a4p (c,c,(c.length:Int),(i:Int),r,(r.length:Int),(0:Int),())=some (bif r.all a0A then Sum.inl (c,c,(c.length:Int),(i:Int),())else Sum.inr (false,())):=fun i r t=>by
  have:=a0Y (f:=a4p) r (fun j=>(c,c,(c.length:Int),(i:Int),r,(r.length:Int),(j:Int),())) a0A (bt:=Sum.inl (c,c,(c.length:Int),(i:Int),())) (bf:=Sum.inr (false,()))
   (fun j h hp=>by simp only[a4p,dlt h,cT,a0B h,oB,b4o,hp,bT,cF,a0C (a38 h t)])
   (fun j h hp=>by simp only[a4p,dlt h,cT,a0B h,oB,b4o,hp,a02])
   (by simp only[a4p,dge,cF])
  exact this
 have k:=a0Y (f:=a4q) c (fun i=>(c,c,(c.length:Int),(i:Int),())) (fun r=>decide (r.length=(c.headD []).length)&&r.all a0A) (bt:=Sum.inl ()) (bf:=Sum.inr (false,()))
  (fun i h hp=>by
   simp only[bA,dT]at hp;have e:((((c[i]).length:Nat):Int) != (((c.headD []).length:Nat):Int))=false:=by rw[hp.1];exact bne_self_eq_false _
   have a:=g i c[i] (by unfold short;omega);rw[hp.2,cT]at a;simp only[a4q,dlt h,cT,a0B h,oB,b,e,cF,a,a0C (show i<1000000 by omega)])
  (fun i h hp=>by
   by_cases hl:(c[i]).length=(c.headD []).length
   have e:((((c[i]).length:Nat):Int) != (((c.headD []).length:Nat):Int))=false:=by rw[hl];exact bne_self_eq_false _
   have a:=g i c[i] (by unfold short;omega);rw[decide_eq_true hl,a28]at hp;rw[hp,cF]at a;simp only[a4q,dlt h,cT,a0B h,oB,b,e,cF,a];have e:((((c[i]).length:Nat):Int) != (((c.headD []).length:Nat):Int))=true:=by simp only[bne_iff_ne,ne_eq,a59];exact hl
   simp only[a4q,dlt h,cT,a0B h,oB,b,e])
  (by simp only[a4q,dge,cF])
 simp only[nZ]at k;rw[k];have p:1≤c.length:=by omega
 have q:c.length≤8:=by omega
 have s:(c.headD []).length≤4096:=by omega
 by_cases hA:c.all (fun r=>decide (r.length=(c.headD []).length)&&r.all a0A)=true
 rw[hA,decide_eq_true (show a1B c from⟨p,q,s,hA⟩)];rfl;rw[a19.2 hA,decide_eq_false (show ¬ a1B c from fun h=>hA h.2.2.2)];rfl
def a2p(c:List (List Int))(n:Nat):Prop:=∀r∈c,r.length=n∧r.all a0A=true
theorem c2o{c:List (List Int)}(h:a1B c):a2p c (c.headD []).length:=fun r g=>by
 have:=lA.1 h.2.2.2 r g
 simpa using this
theorem b9W{c:List (List Int)}{n:Nat}(h:a2p c n)(g:1≤c.length)(f:c.length≤8)(b:n≤4096):a1B c:=by
 have k:(c.headD []).length=n:=by
  rw[←b2H (d:=[]) (show 0<c.length by omega)];exact(h _ (a01 _)).1
 refine⟨g,f,by omega,lA.2 fun r a=>?_⟩
 have:=h r a
 rw[decide_eq_true (show r.length=(c.headD []).length from by rw[k];exact this.1),this.2];rfl
theorem c2U{c:List (List Int)}{n:Nat}(h:a2p c n)(m:n≤5000)(l:c.length≤100):a6V c=some c:=by
 have:=a0X (f:=a6u) (β:=List (List Int)×Unit) c (fun i (a:List (List Int))=>(c,(c.length:Int),(i:Int),a,())) (fun a x=>.inl (a++[x])) (fun i a=>a.length=i) (fun a=>(a,()))
  (fun i k a d=>⟨fun j g=>by
   simp only[Sum.inl.injEq]at g;subst g;have o:=(h _ (a01 k)).1;have e:∀y:List Int,a43 ([([]:List Int)]:List (List Int)) 0 y=[y]:=fun _=>rfl;refine⟨?_,by simp[d]⟩;simp only[a6u,dlt k,cT,a0B k,oB,a8l (show short c[i]by unfold short;omega),e];rw[a1a (by simp;omega),cT,a0C (show i<1000000 by omega)];rfl,fun b hb=>by cases hb⟩)
  (fun a d=>by simp only[a6u,dge,cF]) (a:=[]) rfl
 rw[a8o (fun x:List Int=>[x])]at this;unfold a6V;simp only[nZ]at this;rw[this];simp[a6E]
def a2i(sign g:Int)(x y:Int):Int:=y+sign*(g*x / 256)
def a6p(sign g:Int)(xs ys:List Int):List Int:=List.zipWith (a2i sign g) xs ys
theorem c8X(sign g:Int){xs ys:List Int}(h:xs.length=ys.length):(a6p sign g xs ys).length=ys.length:=by simp[a6p,h]
theorem c4x{sign g x y:Int}(b:sign=1∨sign=-1)(c:-1024≤g∧g≤1024)(k:a0A x=true)(a:a0A y=true):
  wrap .i64 (y+wrap .i64 (sign*z0h .i64 (wrap .i64 (g*x)) 8))=a2i sign g x y:=by
 have k:=a1H.1 k;have a:=a1H.1 a;have f:-1099511627776≤g*x∧g*x≤1099511627776:=by
  have f:g.natAbs≤1024:=by omega
  have h:x.natAbs≤1073741824:=by omega
  have:=Nat.mul_le_mul f h
  rw[←Int.natAbs_mul]at this;omega
 rw[a0H (n:=g*x) (by omega)];have h:z0h .i64 (g*x) 8=g*x / 256:=by
  unfold z0h;show(g*x).fdiv (2^8)=_;rw[Int.fdiv_eq_ediv_of_nonneg _ (by omega)];rfl
 rw[h];unfold a2i;rcases b with rfl|rfl;rw[a0H (n:=1*(g*x / 256)) (by omega),a0H (by omega)];rw[a0H (n:=-1*(g*x / 256)) (by omega),a0H (by omega)]
theorem a4l{α:Type}(c:List α){a b:Nat}(h:a≠b)(y d:α):(c.set b y).getD a d=c.getD a d:=by
 rw[lD,lD,a30 (Ne.symm h)]
theorem a5H{α:Type}(c:List α){b:Nat}(h:b<c.length)(y d:α):(c.set b y).getD b d=y:=by
 rw[lD,a26 h];rfl
theorem c9T{α:Type}(p:List α)(x:α)(s:List α)(d:α):(p++x::s).getD p.length d=x:=by
 rw[lD];simp
theorem d0Q{α:Type}(p:List α)(x y:α)(s:List α):(p++x::s).set p.length y=p++y::s:=by simp
theorem c1E{c:List (List Int)}{s:a0R}{sign:Int}(a:sign=1∨sign=-1)(l:-1024≤s.2.2.1∧s.2.2.1≤1024)(a0:0≤s.1)(j:0≤s.2.1)(g:s.1.toNat≠s.2.1.toNat)(hb:s.2.1.toNat<c.length)(f:s.2.1<(c.length:Int))
  {xs:List Int}(b:c.getD s.1.toNat []=xs)(B:xs.length≤5000):∀(sx suf px pre:List Int),px++sx=xs→px.length=pre.length→sx.length=suf.length→sx.all a0A=true→suf.all a0A=true→
  if(a6p sign s.2.2.1 sx suf).all a0A=true then
   x0r a3F (sign,(xs.length:Int),(pre.length:Int),c.set s.2.1.toNat (pre++suf),s,((s.1.toNat:Nat):Int),())=some (.inl (c.set s.2.1.toNat (pre++a6p sign s.2.2.1 sx suf),()))
  else ∃c',x0r a3F (sign,(xs.length:Int),(pre.length:Int),c.set s.2.1.toNat (pre++suf),s,((s.1.toNat:Nat):Int),())=some (.inr (false,c',()))
 | [],suf,px,pre,hx,hp,hl,_,_=>by
  have e:suf=[]:=a39.1 hl.symm;subst e;have t:pre.length=xs.length:=by rw[←hx,←hp];simp
  rw[if_pos (by rfl),t];exact a0D (by simp only[a3F,dge,cF];rfl)
 |x::sx,[],px,pre,_,_,hl,_,_=>by simp at hl
 |x::sx,y::suf,px,pre,hx,hp,hl,hwx,hwy=>by
  simp only[a17,bA]at hwx hwy;have A:pre.length<xs.length:=by rw[←hx,←hp];simp
  have u:(c.set s.2.1.toNat (pre++y::suf)).getD (a22 ((s.1.toNat:Nat):Int)) []=xs:=by rw[tN,a4l _ g];exact b
  have v:(c.set s.2.1.toNat (pre++y::suf)).getD s.2.1.toNat []=pre++y::suf:=a5H _ hb _ _;have w:a34 xs (a22 (pre.length:Int)) 0=x:=by rw[tN,←hp,←hx];exact c9T _ _ _ _
  have z:a34 (pre++y::suf) (a22 (pre.length:Int)) 0=y:=by rw[tN];exact c9T _ _ _ _
  have n:decide ((0:Int)≤(pre.length:Int))=true:=by simp
  have o:decide ((pre.length:Int)<(xs.length:Int))=true:=by simp;omega
  have p:decide ((0:Int)≤s.2.1)=true:=by simpa using j
  have q:decide (s.2.1<(((c.set s.2.1.toNat (pre++y::suf)).length:Nat):Int))=true:=by rw[a60];simpa using f
  have r:decide ((pre.length:Int)<(((pre++y::suf).length:Nat):Int))=true:=by simp;omega
  have hv:=c4x a l hwx.1 hwy.1;have C:wrap .i64 ((pre.length:Int)+1)=((pre.length+1:Nat):Int):=a0C (by omega);have m:a6p sign s.2.2.1 (x::sx) (y::suf)=a2i sign s.2.2.1 x y::a6p sign s.2.2.1 sx suf:=rfl;have k:a43 (c.set s.2.1.toNat (pre++y::suf)) s.2.1.toNat (a43 (pre++y::suf) (a22 (pre.length:Int)) (a2i sign s.2.2.1 x y))=c.set s.2.1.toNat ((pre++[a2i sign s.2.2.1 x y])++suf):=by
   rw[tN,List.set_set,d0Q];simp
  have h:a3F (sign,(xs.length:Int),(pre.length:Int),c.set s.2.1.toNat (pre++y::suf),s,((s.1.toNat:Nat):Int),()) =
    bif !(a0A (a2i sign s.2.2.1 x y))then some (.inr (Sum.inr (false,c.set s.2.1.toNat (pre++y::suf),())))
    else some (.inl (sign,(xs.length:Int),((pre.length+1:Nat):Int),c.set s.2.1.toNat ((pre++[a2i sign s.2.2.1 x y])++suf),s,((s.1.toNat:Nat):Int),())):=by
   simp only[a3F,o,cT,u,v,n,a29,p,q,r,w,z,b4o,hv,oB,C];cases hwv:a0A (a2i sign s.2.2.1 x y);rfl;simp only[bT,cF];rw[k,tN]
  cases hwv:a0A (a2i sign s.2.2.1 x y)with
  |false=>
   rw[m,if_neg (by simp[hwv])];rw[hwv]at h;exact⟨_,a0D h⟩
  |true=>
   rw[hwv]at h;have d:=c1E a l a0 j g hb f b B sx suf (px++[x]) (pre++[a2i sign s.2.2.1 x y]) (by simpa using hx) (by simp[hp]) (by simpa using hl) hwx.2 hwy.2;rw[a0E h,m];simp only[a17,hwv,a28];rw[show((pre++[a2i sign s.2.2.1 x y]).length)=pre.length+1 from by simp]at d;split;rename_i i;rw[if_pos i]at d;rw[d]
   simp
   rename_i i;rw[if_neg i]at d;exact d
def a2M(sign:Int)(s:a0R)(c:List (List Int)):Option (List (List Int)):=
 let r:=a6p sign s.2.2.1 (c.getD s.1.toNat []) (c.getD s.2.1.toNat [])
 if r.all a0A=true then some (c.set s.2.1.toNat r)else none
theorem a3D{c:List (List Int)}{n:Nat}(h:a2p c n){i:Nat}(g:i<c.length):(c.getD i []).length=n∧(c.getD i []).all a0A=true:=by
 rw[lD,lG g];exact h _ (a01 g)
theorem c4y{c:List (List Int)}{n:Nat}(a:a2p c n)(w:n≤5000){s:a0R}(q:a1z (c.length:Int) s=true){sign:Int}(k:sign=1∨sign=-1):
  ∃b f,a8a (c,s,sign)=some (b,f)∧match a2M sign s c with|some r=>b=true∧f=r|none=>b=false:=by
 obtain⟨a1,d,e,j,v,l,m⟩:=a2h.1 q;have t:=a3D a (i:=s.1.toNat) (by omega);have u:=a3D a (i:=s.2.1.toNat) (by omega);have hb:s.2.1.toNat<c.length:=by omega
 have g:c.set s.2.1.toNat (c.getD s.2.1.toNat [])=c:=by
  apply a25;intro i
  by_cases hi:s.2.1.toNat=i
  subst hi;rw[a26 hb,lD,lG hb];rfl;rw[a30 hi]
 have:=c1E k ⟨l,m⟩ a1 e (by omega) hb j (rfl:c.getD s.1.toNat []=_) (by omega) (c.getD s.1.toNat []) (c.getD s.2.1.toNat []) [] [] rfl rfl (by omega) t.2 u.2
 rw[a08,g]at this;simp only[a07,nZ,a08,a31]at this;have o:decide ((0:Int)≤s.1)=true:=by simpa using a1
 have p:decide (s.1<(c.length:Int))=true:=by simpa using d
 unfold a8a a2M;simp only[o,p,a29,cT]
 by_cases hA:(a6p sign s.2.2.1 (c.getD s.1.toNat []) (c.getD s.2.1.toNat [])).all a0A=true
 rw[if_pos hA]at this⊢;refine⟨true,_,?_,rfl,rfl⟩
 erw[this]
 rfl;rw[if_neg hA]at this⊢;obtain⟨f,h⟩:=this;refine⟨false,f,?_,rfl⟩
 erw[h]
 rfl
theorem b1p{c c':List (List Int)}{n:Nat}(g:a2p c n){s:a0R}(a:a1z (c.length:Int) s=true){sign:Int}(h:a2M sign s c=some c'):a2p c' n∧c'.length=c.length:=by
 obtain⟨a1,d,e,j,l,m,o⟩:=a2h.1 a;have p:=a3D g (i:=s.1.toNat) (by omega);have b:=a3D g (i:=s.2.1.toNat) (by omega);unfold a2M at h;simp only at h
 split at h
 rename_i k;cases h;refine⟨fun r f=>?_,by simp⟩;rcases List.mem_or_eq_of_mem_set f with f|rfl;exact g r f;exact⟨by rw[c8X _ _ (by omega)];exact b.1,k⟩;cases h
theorem c4z(g:Int):∀xs ys:List Int,xs.length=ys.length→a6p (-1) g xs (a6p 1 g xs ys)=ys
 | [],[],_=>rfl
 |x::xs,y::ys,h=>by
  have f:=c4z g xs ys (by simpa using h);show a2i (-1) g x (a2i 1 g x y)::a6p (-1) g xs (a6p 1 g xs ys)=_;rw[f];unfold a2i;congr 1;omega
 | [],_::_,h=>by simp at h
 |_::_,[],h=>by simp at h
theorem c7Z{c c':List (List Int)}{n:Nat}(g:a2p c n){s:a0R}(f:a1z (c.length:Int) s=true)(h:a2M 1 s c=some c'):a2M (-1) s c'=some c:=by
 obtain⟨a1,a,b,d,e,j,l⟩:=a2h.1 f;have m:=a3D g (i:=s.1.toNat) (by omega);have k:=a3D g (i:=s.2.1.toNat) (by omega);have hb:s.2.1.toNat<c.length:=by omega
 unfold a2M at h;simp only at h
 split at h
 cases h;unfold a2M;simp only;rw[a4l _ (show s.1.toNat≠s.2.1.toNat by omega),a5H _ hb,c4z _ _ _ (by omega),if_pos k.2,List.set_set];congr 1;apply a25;intro i
 by_cases hi:s.2.1.toNat=i
 subst hi;rw[a26 hb,lD,lG hb];rfl;rw[a30 hi];cases h
def doO:List a0R→List (List Int)→Option (List (List Int))
 | [],c=>some c
 |s::l,c=>(a2M 1 s c).bind (doO l)
def a6O:List a0R→List (List Int)→Option (List (List Int))
 | [],c=>some c
 |s::l,c=>(a6O l c).bind (a2M (-1) s)
theorem b3E{n:Nat}{N:Nat}:∀(l:List a0R){c c':List (List Int)},a2p c n→c.length=N→l.all (a1z (N:Int))=true→doO l c=some c'→a2p c' n∧c'.length=N
 | [],c,c',hc,hl,_,h=>by cases h;exact⟨hc,hl⟩
 |s::l,c,c',hc,hl,hs,h=>by
  simp only[a17,bA]at hs;simp only[doO,a03]at h;obtain⟨d,g,f⟩:=h;obtain⟨k,a⟩:=b1p hc (by rw[hl];exact hs.1) g;exact b3E l k (by omega) hs.2 f
theorem c5H{n:Nat}{N:Nat}:∀(l:List a0R){c c':List (List Int)},a2p c n→c.length=N→l.all (a1z (N:Int))=true→doO l c=some c'→a6O l c'=some c
 | [],c,c',_,_,_,h=>by cases h;rfl
 |s::l,c,c',hc,hl,hs,h=>by
  simp only[a17,bA]at hs;simp only[doO,a03]at h;obtain⟨d,g,f⟩:=h;obtain⟨k,a⟩:=b1p hc (by rw[hl];exact hs.1) g;simp only[a6O];rw[c5H l k (by omega) hs.2 f];exact c7Z hc (by rw[hl];exact hs.1) g
def b6T:Option (List (List Int))→List (List Int)×Int
 |some r=>(r,0)
 |none=>([],6)
theorem c5I{n N:Nat}(j:n≤5000){l:List a0R}(o:l.length≤16)(e:l.all (a1z (N:Int))=true):∀(k i:Nat)(c:List (List Int)),i+k=l.length→a2p c n→c.length=N→
  x0r a8d (l,(l.length:Int),(i:Int),c,())=some (match doO (l.drop i) c with|some r=>Sum.inl (r,())|none=>Sum.inr ([],6,()))
 |0,i,c,h,_,_=>by
  obtain rfl:i=l.length:=by omega
  rw[List.drop_length];exact a0D (by simp only[a8d,dge,cF];rfl)
 |k+1,i,c,h,hc,hcl=>by
  have g:i<l.length:=by omega
  rw[List.drop_eq_getElem_cons g];have m:a1z (c.length:Int) l[i]=true:=by rw[hcl];exact lA.1 e _ (a01 g)
  obtain⟨b,a,d,f⟩:=c4y hc j m (sign:=1) (.inl rfl);simp only[doO];cases hst:a2M 1 l[i] c with
  |none=>
   rw[hst]at f;simp only at f;subst f;exact a0D (by simp only[a8d,dlt g,cT,a0B g,oB,d,a02];rfl)
  |some r=>
   rw[hst]at f;obtain⟨rfl,rfl⟩:=f;obtain⟨p,q⟩:=b1p hc m hst;rw[a0E (s':=(l,(l.length:Int),((i+1:Nat):Int),a,())) (by
    simp only[a8d,dlt g,cT,a0B g,oB,d,bT,cF,a0C (show i<1000000 by omega)])]
   rw[c5I j o e k (i+1) a (by omega) p (by omega)];rfl
theorem c3B(c:List (List Int))(l:List a0R):b2C (c,l)=some (if a1B c∧a2L l (c.length:Int)then b6T (doO l c)else([],1)):=by
 unfold b2C;simp only[c2n,oB]
 by_cases hq:a1B c
 have h:=c2o hq;simp only[hq,decide_true,bT,cF,b5x,oB,true_and]
 by_cases hm:a2L l (c.length:Int)
 simp only[hm,decide_true,bT,cF,if_true];rw[c2U h (by have:=hq.2.2.1;omega) (by have:=hq.2.1;omega)]
 have:=c5I (N:=c.length) (by have:=hq.2.2.1;omega:(c.headD []).length≤5000) hm.2.2.1 hm.2.2.2 l.length 0 c (by omega) h rfl
 simp only[nZ,a62,a31]at this;simp only[oB]
 erw[this]
 cases doO l c<;>rfl;simp only[hm,decide_false,a02,cT,if_false];simp only[hq,decide_false,a02,cT,oB,false_and,if_false]
theorem b6U(s:a0R):∀(l:List a0R)(c:List (List Int)),a6O (l++[s]) c=(a2M (-1) s c).bind (a6O l)
 | [],c=>by
  show a2M (-1) s c=_;cases a2M (-1) s c<;>rfl
 |t::l,c=>by
  simp only[a35,a6O,b6U s l];cases a2M (-1) s c<;>rfl
theorem c2V{n N:Nat}(j:n≤5000){l:List a0R}(i:l.all (a1z (N:Int))=true)(z:List (List Int))(e:Int):∀(k:Nat)(c:List (List Int)),k≤l.length→a2p c n→c.length=N→
  match a6O (l.take k) c with
  |some r=>k0w a3h l k (l,z,e,c,())=some (.inl (l,z,e,r,()))
  |none=>∃d,k0w a3h l k (l,z,e,c,())=some (.inr (.ret,l,[],6,d,()))
 |0,c,_,_,_=>rfl
 |k+1,c,hk,hc,hcl=>by
  have g:k<l.length:=by omega
  have m:a1z (c.length:Int) l[k]=true:=by rw[hcl];exact lA.1 i _ (a01 g)
  obtain⟨b,f,a,h⟩:=c4y hc j m (sign:=-1) (.inr rfl);rw[a27 g,b6U];cases hst:a2M (-1) l[k] c with
  |none=>
   rw[hst]at h;simp only at h;subst h;refine⟨f,?_⟩;simp only[k0w,lG g,a3h,a,oB,a02,cT]
  |some r=>
   rw[hst]at h;obtain⟨rfl,rfl⟩:=h;obtain⟨p,q⟩:=b1p hc m hst;have o:=c2V j i z e k f (by omega) p (by omega);have hb:k0w a3h l (k+1) (l,z,e,c,())=k0w a3h l k (l,z,e,f,()):=by
    simp only[k0w,lG g,a3h,a,oB,bT,cF]
   rw[hb];exact o
theorem d0R(c:List (List Int))(l:List a0R):b1X (c,l)=some (if a1B c∧a2L l (c.length:Int)then b6T (a6O l c)else([],1)):=by
 unfold b1X;simp only[c2n,oB]
 by_cases hq:a1B c
 ·have h:=c2o hq;simp only[hq,decide_true,bT,cF,b5x,oB,true_and]
  by_cases hm:a2L l (c.length:Int)
  ·simp only[hm,decide_true,bT,cF,if_true];rw[c2U h (by have:=hq.2.2.1;omega) (by have:=hq.2.1;omega)]
   have:=c2V (N:=c.length) (by have:=hq.2.2.1;omega:(c.headD []).length≤5000) hm.2.2.2 [] 0 l.length c (a32 _) h rfl
   rw[a57]at this;simp only[oB,a1a (show l.length<2147483648 by have:=hm.2.2.1;omega),cT];cases hu:a6O l c with
   |some r=>
    rw[hu]at this;simp only at this
    erw[this]
    rfl
   |none=>
    rw[hu]at this;obtain⟨d,g⟩:=this
    erw[g]
    rfl
  simp only[hm,decide_false,a02,cT,if_false]
 simp only[hq,decide_false,a02,cT,oB,false_and,if_false]
def a1N(b:a1L):Nat:=(b.2.1.headD []).length
theorem a8p(b:a1L):a5D b=some ((a1N b:Nat):Int):=by
 unfold a5D a1N;obtain⟨d,c,u⟩:=b;cases c with
 |nil=>rfl
 |cons r c=>
  have:((((r::c).length:Nat):Int)==0)=false:=by simp;omega
  simp only[this,cF];rfl
def a2N(b:a1L):Prop:=4≤b.1∧b.1≤24∧1≤b.2.1.length∧b.2.1.length≤8∧1≤a1N b∧a1N b≤4096∧b.2.1.all (fun r=>decide (r.length=a1N b)&&r.all fun x=>a1y x b.1)=true
instance (b:a1L):Decidable (a2N b):=by unfold a2N;infer_instance
theorem c4A{x w:Int}(h:4≤w∧w≤24):a3R (x,w)=some (a1y x w):=by
 have:=a6n (x:=x) (w:=w.toNat) (by omega)
 rwa [a00 (by omega)]at this
theorem b4p(b:a1L):a7m b=some (decide (a2N b)):=by
 unfold a7m a6P
 by_cases h1:4≤b.1
 rotate_left;rw[decide_eq_false (show ¬ a2N b from fun h=>h1 h.1),decide_eq_false h1];rfl
 by_cases h2:b.1≤24
 rotate_left;rw[decide_eq_false (show ¬ a2N b from fun h=>h2 h.2.1),decide_eq_true h1,decide_eq_false h2];rfl
 by_cases h3:((b.2.1.length:Nat):Int)<1
 rw[decide_eq_false (show ¬ a2N b from fun h=>by have:=h.2.2.1;omega),decide_eq_true h1,decide_eq_true h2,decide_eq_true h3];rfl
 by_cases h4:((b.2.1.length:Nat):Int) > 8
 rw[decide_eq_false (show ¬ a2N b from fun h=>by have:=h.2.2.2.1;omega),decide_eq_true h1,decide_eq_true h2,decide_eq_false h3,decide_eq_true h4];rfl;have c:decide (((b.2.1.length:Nat):Int)<1)=false:=by simpa using h3
 have d:decide (((b.2.1.length:Nat):Int) > 8)=false:=by simpa using h4
 simp only[decide_eq_true h1,decide_eq_true h2,c,d,cT,cF,oB,bT,a8p]
 by_cases h5:((a1N b:Nat):Int)<1
 rw[decide_eq_false (show ¬ a2N b from fun h=>by have:=h.2.2.2.2.1;omega),decide_eq_true h5];rfl
 by_cases h6:((a1N b:Nat):Int) > 4096
 rw[decide_eq_false (show ¬ a2N b from fun h=>by have:=h.2.2.2.2.2.1;omega),decide_eq_false h5,decide_eq_true h6];rfl;have l:decide (((a1N b:Nat):Int)<1)=false:=by simpa using h5
 have m:decide (((a1N b:Nat):Int) > 4096)=false:=by simpa using h6
 simp only[l,m,cF,oB];have g:∀(i:Nat)(r:List Int),short r→x0r a4r (b.2.1,(b.2.1.length:Int),(i:Int),r,(r.length:Int),(0:Int),b,())=some (bif r.all (fun x=>a1y x b.1)then Sum.inl (b.2.1,(b.2.1.length:Int),(i:Int),b,())else Sum.inr (false,())):=fun i r n=>by
  have:=a0Y (f:=a4r) r (fun j=>(b.2.1,(b.2.1.length:Int),(i:Int),r,(r.length:Int),(j:Int),b,())) (fun x=>a1y x b.1) (bt:=Sum.inl (b.2.1,(b.2.1.length:Int),(i:Int),b,())) (bf:=Sum.inr (false,()))
   (fun j h hp=>by simp only[a4r,dlt h,cT,a0B h,oB,c4A ⟨h1,h2⟩,hp,bT,cF,a0C (a38 h n)])
   (fun j h hp=>by simp only[a4r,dlt h,cT,a0B h,oB,c4A ⟨h1,h2⟩,hp,a02])
   (by simp only[a4r,dge,cF])
  exact this
 have k:=a0Y (f:=a4s) b.2.1 (fun i=>(b.2.1,(b.2.1.length:Int),(i:Int),b,())) (fun r=>decide (r.length=a1N b)&&r.all fun x=>a1y x b.1) (bt:=Sum.inl ()) (bf:=Sum.inr (false,()))
  (fun i h hp=>by
   simp only[bA,dT]at hp;have e:((((b.2.1[i]).length:Nat):Int) != ((a1N b:Nat):Int))=false:=by rw[hp.1];exact bne_self_eq_false _
   have a:=g i b.2.1[i] (by unfold short;omega);rw[hp.2,cT]at a;simp only[a4s,dlt h,cT,a0B h,oB,a8p,e,cF,a,a0C (show i<1000000 by omega)])
  (fun i h hp=>by
   by_cases hl:(b.2.1[i]).length=a1N b
   have e:((((b.2.1[i]).length:Nat):Int) != ((a1N b:Nat):Int))=false:=by rw[hl];exact bne_self_eq_false _
   have a:=g i b.2.1[i] (by unfold short;omega);rw[decide_eq_true hl,a28]at hp;rw[hp,cF]at a;simp only[a4s,dlt h,cT,a0B h,oB,a8p,e,cF,a];have e:((((b.2.1[i]).length:Nat):Int) != ((a1N b:Nat):Int))=true:=by simp only[bne_iff_ne,ne_eq,a59];exact hl
   simp only[a4s,dlt h,cT,a0B h,oB,a8p,e])
  (by simp only[a4s,dge,cF])
 simp only[nZ]at k;rw[k]
 by_cases hA:b.2.1.all (fun r=>decide (r.length=a1N b)&&r.all fun x=>a1y x b.1)=true
 rw[hA,decide_eq_true (show a2N b from⟨h1,h2,by omega,by omega,by omega,by omega,hA⟩)];rfl;rw[a19.2 hA,decide_eq_false (show ¬ a2N b from fun h=>hA h.2.2.2.2.2.2)];rfl
def a4L{α β:Type}(g:α→Option β):List α→Option (List β)
 | []=>some []
 |a::l=>(g a).bind fun b=>(a4L g l).bind fun r=>some (b::r)
theorem b9X{α β:Type}{g:α→Option β}:∀{l:List α}{r:List β},a4L g l=some r→r.length=l.length
 | [],r,h=>by cases h;rfl
 |a::l,r,h=>by
  simp only[a4L,a03]at h;obtain⟨b,-,c,f,k⟩:=h;cases k;simp[b9X f]
theorem c2W{α β:Type}{g:α→Option β}:∀{l:List α}{r:List β},a4L g l=some r→∀a∈l,(g a).isSome=true
 | [],r,h,a,ha=>by cases ha
 |a::l,r,h,x,hx=>by
  simp only[a4L,a03]at h;obtain⟨b,f,d,k,c⟩:=h;rcases mC.1 hx with rfl|hx;rw[f];rfl;exact c2W k x hx
def a4c(f:a1l):Option a1L:=
 if frP f∧((f.2.2.2.2.1.length:Nat):Int)=f.2.2.1.2.1 then
  (a4L (fun s=>a1o s f.2.1) f.2.2.2.2.1).bind fun rs=>
   if a1B rs∧a2L f.2.2.2.1 (rs.length:Int)then
    (a6O f.2.2.2.1 rs).bind fun ch=>if a2N (f.2.2.1.2.2.1,ch,())then some (f.2.2.1.2.2.1,ch,())else none
   else none
 else none
def a7i:a1L:=(0,[],())
def d1W:Option a1L→a1L×Int
 |some b=>(b,0)
 |none=>(a7i,1)
theorem b9C(f:a1l)(all:List Sub)(i:all.length≤8):∀(rest done:List Sub)(rows:List (List Int)),done++rest=all→rows.length=done.length→(∀s∈rest,SmallS s)→
  x0r a4x (all,(all.length:Int),(done.length:Int),rows,a7i,f,())=some (match a4L (fun s=>a1o s f.2.1) rest with|some rs=>Sum.inl (rows++rs,a7i,f,())|none=>Sum.inr (1,a7i,()))
 | [],done,rows,hd,hr,_=>by
  have e:done=all:=by simpa using hd
  subst e;rw[a0D (b:=Sum.inl (rows,a7i,f,())) (by simp only[a4x,dge,cF])];simp[a4L]
 |s::rest,done,rows,hd,hr,h=>by
  have j:=h s (by simp);have k:done.length<all.length:=by rw[←hd];simp
  have a:l0z all (done.length:Int)=some s:=by rw[a0B k];subst hd;simp
  have g:=c0W j f.2.1;simp only[a4L];cases ho:a1o s f.2.1 with
  |none=>
   rw[ho]at g;have d:((1:Int) != 0)=true:=rfl;exact a0D (by simp only[a4x,dlt k,cT,a,oB,g,d];rfl)
  |some r=>
   rw[ho]at g;have c:((0:Int) != 0)=false:=rfl;rw[a0E (s':=(all,(all.length:Int),(((done++[s]).length:Nat):Int),rows++[r],a7i,f,())) (by
    simp only[a4x,dlt k,cT,a,oB,g,c,cF,a1a (show rows.length+1<2147483648 by omega),a0C (show done.length<1000000 by omega)]
    simp)]
   rw[b9C f all i rest (done++[s]) (rows++[r]) (by simpa using hd) (by simp[hr]) (fun t l=>h t (by simp[l]))];simp only[oB];cases a4L (fun s=>a1o s f.2.1) rest<;>simp
theorem c4B{f:a1l}(b:∀s∈f.2.2.2.2.1,SmallS s):a4Y f=some (d1W (a4c f)):=by
 unfold a4Y a4c;simp only[c2m,oB]
 by_cases hf:frP f
 rotate_left;simp only[hf,decide_false,a02,cT,oB,false_and,if_false];rfl
 by_cases hl:((f.2.2.2.2.1.length:Nat):Int)=f.2.2.1.2.1
 rotate_left;have e:(((f.2.2.2.2.1.length:Nat):Int) != f.2.2.1.2.1)=true:=by simpa using hl
 simp only[hf,decide_true,bT,cF,oB,e,cT,hl,and_false,if_false];rfl;have e:(((f.2.2.2.2.1.length:Nat):Int) != f.2.2.1.2.1)=false:=by simpa using hl
 have a:f.2.2.2.2.1.length≤8:=by have:=hf.1.2.2.2.1;omega
 have k:decide ((0:Int)≤((f.2.2.2.2.1.length:Nat):Int))=true:=by simp
 have h:=b9C f f.2.2.2.2.1 a f.2.2.2.2.1 [] [] rfl rfl b;rw[a07]at h;rw[if_pos ⟨hf,hl⟩];simp only[hf,decide_true,bT,cF,oB,e,k,tN,a1a (show f.2.2.2.2.1.length<2147483648 by omega),a29,cT]
 erw[h]
 cases hm:a4L (fun s=>a1o s f.2.1) f.2.2.2.2.1 with
 |none=>rfl
 |some rs=>
  simp only[oB,a08,d0R]
  by_cases hq:a1B rs∧a2L f.2.2.2.1 (rs.length:Int)
  ·simp only[if_pos hq];cases hu:a6O f.2.2.2.1 rs with
   |none=>rfl
   |some ch=>
    have g:((0:Int) != 0)=false:=rfl;simp only[b6T,g,cF,b4p,oB]
    by_cases hb:a2N (f.2.2.1.2.2.1,ch,())
    simp only[hb,decide_true,bT,cF,if_true];rfl;simp only[hb,decide_false,a02,cT,if_false];rfl
  simp only[if_neg hq];rfl
theorem c8a{f:a1l}(h:∀s∈f.2.2.2.2.1,SmallS s):a7n f=some (a4c f).isSome:=by
 unfold a7n;rw[c4B h];cases a4c f<;>rfl
theorem c4C{f:a1l}{b:a1L}(h:a4c f=some b):frP f∧((f.2.2.2.2.1.length:Nat):Int)=f.2.2.1.2.1∧∀s∈f.2.2.2.2.1,(a1o s f.2.1).isSome=true:=by
 unfold a4c at h
 split at h
 rename_i g;simp only[a03]at h;obtain⟨a,k,-⟩:=h;exact⟨g.1,g.2,c2W k⟩;cases h
set_option maxRecDepth 100000 in
theorem d0S:b5l ()=some true:=by kernel_rfl
theorem c3t{x:List (List Int)}(h:∀r∈x,short r)(k:x.length<1000000):a8C (x,x)=some true:=by
 unfold a8C
 have:=a0Y (f:=a5N) (β:=Unit ⊕ (Bool×Unit)) x (fun i=>(x,x,(i:Int),())) (fun _=>true) (bt:=Sum.inl ()) (bf:=Sum.inr (false,()))
  (fun i g _=>by simp only[a5N,dlt g,cT,a0B g,oB,a9k (h _ (a01 g)),decide_true,bT,cF,a0C (show i<1000000 by omega)])
  (fun i g hp=>by grind) (by simp_all[a5N])
 grind
theorem c2p{b:a1L}(h:∀r∈b.2.1,short r)(g:b.2.1.length<1000000):a5g (b,b)=some true:=by
 simp_all[a5g,c3t]
theorem c4D{c:List (List Int)}:a9h c=some (decide (1≤c.length∧c.length≤8∧c.all (fun r=>decide (r.length=(c.headD []).length))=true)):=by
 unfold a9h
 by_cases h1:((c.length:Nat):Int)<1
 grind
 by_cases h2:((c.length:Nat):Int) > 8
 grind
 have g:0<c.length:=by omega
 have k:l0z c 0=some (c.headD []):=by rw[show(0:Int)=((0:Nat):Int)from rfl,a0B g,b2H (d:=[]) g]
 have:=a0Y (f:=a6g) (β:=Unit ⊕ (Bool×Unit)) c (fun i=>(c,(i:Int),())) (fun r=>decide (r.length=(c.headD []).length)) (bt:=Sum.inl ()) (bf:=Sum.inr (false,()))
  (fun i h hp=>by
   simp only[dT]at hp;have e:((((c[i]).length:Nat):Int) != (((c.headD []).length:Nat):Int))=false:=by simp_all
   simp only[a6g,dlt h,cT,a0B h,oB,k,e,cF,a0C (show i<1000000 by omega)])
  (fun i h hp=>by
   simp only[decide_eq_false_iff_not]at hp;have e:((((c[i]).length:Nat):Int) != (((c.headD []).length:Nat):Int))=true:=by grind
   simp only[a6g,dlt h,cT,a0B h,oB,k,e]) (by simp_all[a6g])
 grind
theorem b8F{x w:Int}(h:4≤w∧w≤24):a9T (x,w)=some (a1y x w):=by
 have:=b5q (x:=x) (w:=w.toNat) (by omega)
 grind
theorem c1F(b:a1L):a8I b=some (decide (a2N b)):=by
 unfold a8I
 by_cases h1:b.1<4
 rw[decide_eq_true h1,decide_eq_false (fun h:a2N b=>by have:=h.1;omega)];rfl
 by_cases h2:b.1 > 24
 rw[decide_eq_false h1,decide_eq_true h2,decide_eq_false (fun h:a2N b=>by have:=h.2.1;omega)];rfl;simp only[decide_eq_false h1,decide_eq_false h2,cF,c4D,oB]
 by_cases h3:1≤b.2.1.length∧b.2.1.length≤8∧b.2.1.all (fun r=>decide (r.length=(b.2.1.headD []).length))=true
 rotate_left;rw[decide_eq_false h3,decide_eq_false (fun h:a2N b=>h3 ⟨h.2.2.1,h.2.2.2.1,lA.2 fun r c=>by
  have:=lA.1 h.2.2.2.2.2.2 r c
  simp only[bA]at this;exact this.1⟩)];rfl
 have e:0<b.2.1.length:=by omega
 have l:l0z b.2.1 0=some (b.2.1.headD []):=by rw[show(0:Int)=((0:Nat):Int)from rfl,a0B e,b2H (d:=[]) e]
 simp only[decide_eq_true h3,bT,cF,l,oB]
 by_cases h4:(((b.2.1.headD []).length:Nat):Int)<1
 rw[decide_eq_true h4,decide_eq_false (fun h:a2N b=>by have:=h.2.2.2.2.1;grind[a1N])];rfl
 by_cases h5:(((b.2.1.headD []).length:Nat):Int) > 4096
 rw[decide_eq_false h4,decide_eq_true h5,decide_eq_false (fun h:a2N b=>by have:=h.2.2.2.2.2.1;grind[a1N])];rfl;simp only[decide_eq_false h4,decide_eq_false h5,cF,oB];have hb:4≤b.1∧b.1≤24:=by omega
 have g:∀(i:Nat)(a:i<b.2.1.length),x0r a2Q ((i:Int),(0:Int),b,())=some (bif (b.2.1[i]).all (fun x=>a1y x b.1)then Sum.inl ((i:Int),b,())else Sum.inr (false,())):=fun i a=>by
  have o:(b.2.1[i]).length=(b.2.1.headD []).length:=by simp_all
  have:=a0Y (f:=a2Q) (β:=(Int×a1L×Unit) ⊕ (Bool×Unit)) b.2.1[i] (fun j=>((i:Int),(j:Int),b,())) (fun x=>a1y x b.1) (bt:=Sum.inl ((i:Int),b,())) (bf:=Sum.inr (false,()))
   (fun j h hp=>by simp only[a2Q,a0B a,oB,dlt h,cT,a0B h,b8F hb,hp,bT,cF,a0C (show j<1000000 by omega)])
   (fun j h hp=>by simp only[a2Q,a0B a,oB,dlt h,cT,a0B h,b8F hb,hp,a02])
   (by simp_all[a2Q,a0B])
  omega
 have k:=a0Y (f:=a3Z) (β:=Unit ⊕ (Bool×Unit)) b.2.1 (fun i=>((i:Int),b,())) (fun r=>r.all fun x=>a1y x b.1) (bt:=Sum.inl ()) (bf:=Sum.inr (false,()))
  (fun i h hp=>by
   have a:=g i h;rw[hp,cT]at a;simp only[a3Z,dlt h,cT]
   grind[a0C])
  (fun i h hp=>by
   have a:=g i h;rw[hp,cF]at a;simp_all[a3Z])
  (by simp_all[a3Z])
 simp at k;rw[k]
 by_cases hA:b.2.1.all (fun r=>r.all fun x=>a1y x b.1)=true
 rw[hA,decide_eq_true (p:=a2N b) (⟨hb.1,hb.2,h3.1,h3.2.1,by unfold a1N;omega,by unfold a1N;omega,lA.2 fun r c=>by
  have m:=lA.1 h3.2.2 r c;have n:=lA.1 hA r c;simp_all[a1N]⟩:a2N b)]
 rfl;rw[a19.2 hA,decide_eq_false (p:=a2N b) (fun h=>hA (lA.2 fun r c=>by
  have:=lA.1 h.2.2.2.2.2.2 r c
  simp_all))]
 rfl
theorem d0T{x w:Int}(b:4≤w∧w≤24)(h:a1y x w=true):-16777216≤x∧x≤16777216:=by
 unfold a1y at h;simp at h;obtain⟨-,-,f,g⟩:=h;obtain⟨o,k⟩:∃o:Nat,w-1=(o:Int):=⟨(w-1).toNat,by omega⟩;rw[k]at f g;rw[c4b (by omega)]at g;have hp:2^o≤2^24:=a48 (by omega) (by omega);have a:z0g .i64 (-1) (o:Int)=wrap .i64 (-((2^o:Nat):Int)):=by
  unfold z0g;show wrap .i64 (-1*2^(min (o:Int).toNat 64))=_
  grind
 grind[a0H]
theorem c8b{x w:Int}(g:4≤w∧w≤24)(h:a1y x w=true):a0A x=true:=a1H.2 (by have:=d0T g h;omega)
theorem b6V{b:a1L}(h:a2N b):a2p b.2.1 (a1N b)∧a1B b.2.1:=by
 obtain⟨k,a,c,d,e,i,g⟩:=h;have j:a2p b.2.1 (a1N b):=fun r f=>by
  have:=lA.1 g r f
  simp only[bA,dT]at this
  grind[c8b]
 grind[b9W]
theorem c7h{b:a1L}(hb:a2N b){l:List a0R}(c:a2L l (b.2.1.length:Int)){rows:List (List Int)}(n:doO l b.2.1=some rows){ss:List Sub}(q:a4L (fun s=>a1o s ((a1N b:Nat):Int)) ss=some rows)
  {start rate:Int}(h:0≤start∧start≤4194304-((a1N b:Nat):Int))(p:1≤rate∧rate≤1048576):
  a4c (start,((a1N b:Nat):Int),(rate,((b.2.1.length:Nat):Int),b.1,()),l,ss,())=some b:=by
 obtain⟨m,y⟩:=b6V hb;obtain⟨x,z⟩:=b3E l m rfl c.2.2.2 n;have o:=b9X q;obtain⟨e,i,r,t,u,j,v⟩:=hb;have a:frP (start,((a1N b:Nat):Int),(rate,((b.2.1.length:Nat):Int),b.1,()),l,ss,()):=⟨⟨p.1,p.2,by grind,by grind,e,i⟩,by grind,by grind,h.1,h.2,c⟩;have k:((ss.length:Nat):Int)=((b.2.1.length:Nat):Int):=by omega
 have g:a1B rows:=b9W x (by omega) (by omega) j;have d:a2L l ((rows.length:Nat):Int):=by simp_all
 have w:=c5H l m rfl c.2.2.2 n;have f:((b.1,b.2.1,()):a1L)=b:=rfl;unfold a4c;rw[if_pos ⟨a,k⟩];simp only[q,oB];rw[if_pos ⟨g,d⟩,w];simp only[oB,f];rw[if_pos ⟨e,i,r,t,u,j,v⟩]
theorem c7i(s:Sub)(m:Nat)(k:m≤5000)(g:s.2.2.2.2.2.2.1.length=3):∃t,b2i (s,(m:Int))=some t∧(t=true→SmallS s∧s.2.2.2.2.2.2.2.2.1.length≤m∧s.2.2.2.2.2.2.2.2.2.2.1.length≤m):=by
 unfold b2i
 by_cases h1:((s.2.2.2.2.2.1.length:Nat):Int)≤40
 rotate_left;exact⟨false,by rw[decide_eq_false h1];rfl,fun h=>by cases h⟩
 by_cases h2:((s.2.2.2.2.2.2.2.1.length:Nat):Int)≤6
 rotate_left;exact⟨false,by rw[decide_eq_true h1,decide_eq_false h2];rfl,fun h=>by cases h⟩
 by_cases h3:((s.2.2.2.2.2.2.2.2.1.length:Nat):Int)≤(m:Int)
 rotate_left;exact⟨false,by rw[decide_eq_true h1,decide_eq_true h2,decide_eq_false h3];rfl,fun h=>by cases h⟩
 by_cases h4:((s.2.2.2.2.2.2.2.2.2.2.1.length:Nat):Int)≤(m:Int)
 rotate_left;exact⟨false,by rw[decide_eq_true h1,decide_eq_true h2,decide_eq_true h3,decide_eq_false h4];rfl,fun h=>by cases h⟩;refine⟨_,by rw[decide_eq_true h1,decide_eq_true h2,decide_eq_true h3,decide_eq_true h4];rfl,fun h=>?_⟩;have f:((s.2.2.2.2.2.2.2.2.2.1.2.1.length:Nat):Int)≤300:=of_decide_eq_true h;exact⟨⟨by omega,g,by omega,by omega,by omega,by omega⟩,by omega,by omega⟩
def c1G:a1l:=(0,0,(0,0,0,()),[],[],())
theorem c1H(c:List (List Int))(n i:Int){r:List Int}(a:short r):∀(k j:Nat)(s:Int),2≤j→j+k=r.length∨(k=0∧r.length≤j)→∃s',x0r a6z (s,r,(j:Int),c,n,i,())=some (s',c,n,i,())
 |0,j,s,h2,h=>⟨s,a0D (by
   have d:decide ((j:Int)<(r.length:Int))=false:=by simp;omega
   simp only[a6z,d,cF])⟩
 |k+1,j,s,h2,h=>by
  have f:j<r.length:=by omega
  unfold short at a;have b:wrap .i64 ((j:Int)-1)=((j-1:Nat):Int):=by rw[a0H (by omega)];omega
  have e:wrap .i64 ((j:Int)-2)=((j-2:Nat):Int):=by rw[a0H (by omega)];omega
  have m:=a0B (l:=r) (i:=j-1) (by omega);have o:=a0B (l:=r) (i:=j-2) (by omega);obtain⟨s',g⟩:=c1H c n i a k (j+1) (wrap .i64 (s+u0z (wrap .i64 (wrap .i64 (r[j]-wrap .i64 (2*r[j-1]))+r[j-2])) (wrap .i64 (0-wrap .i64 (wrap .i64 (r[j]-wrap .i64 (2*r[j-1]))+r[j-2]))))) (by omega) (by omega);refine⟨s',?_⟩;rw[←g];exact a0E (by simp only[a6z,dlt f,cT,a0B f,oB,b,e,m,o,a0C (show j<1000000 by omega)])
theorem c2X{c:List (List Int)}{n:Nat}(h:a2p c n)(o:n≤4096)(m:c.length<1000):∃w,a7b c=some w:=by
 unfold a7b;simp only[c2n,oB]
 by_cases hq:a1B c
 rotate_left;exact⟨0,by simp only[hq,decide_false,a02,cT]⟩;simp only[hq,decide_true,bT,cF];have a:∀(k i:Nat)(s:Int),i+k=c.length→∃s',x0r a6A (s,c,(c.length:Int),(i:Int),())=some (s',()):=by
  intro k
  induction k with
  |zero=>
   intro i s e;obtain rfl:i=c.length:=by omega
   exact⟨s,a0D (by simp only[a6A,dge,cF])⟩
  |succ k ih=>
   intro i s e;have g:i<c.length:=by omega
   have p:=(h _ (a01 g)).1;obtain⟨j,b⟩:=c1H c (c.length:Int) (i:Int) (r:=c[i]) (by unfold short;omega) (c[i].length-2) 2 s (a32 _) (by omega);obtain⟨l,d⟩:=ih (i+1) j (by omega);refine⟨l,?_⟩;rw[←d];rw[show((2:Nat):Int)=2 from rfl]at b;exact a0E (by simp only[a6A,dlt g,cT,a0B g,oB,b,a0C (show i<1000000 by omega)])
 obtain⟨s',f⟩:=a c.length 0 0 (by omega);rw[show((0:Nat):Int)=0 from rfl]at f;rw[f];exact⟨s',rfl⟩
def a4M(m:Nat):List a0R:=match m with
 | 1=>[(0,1,-256,())]
 | 2=>[(1,0,-256,())]
 | 3=>[(1,0,-256,()),(0,1,128,())]
 | 4=>[(1,0,-106,()),(0,1,181,()),(1,0,-106,())]
 |_=>[]
theorem b9Y{m:Nat}(h:m≤4):b0T (m:Int)=some (a4M m):=by
 match m,h with
 |0,_=>rfl
 | 1,_=>rfl
 | 2,_=>rfl
 | 3,_=>rfl
 | 4,_=>rfl
theorem c2Y{m:Nat}(h:m≤4):a2L (a4M m) 2:=by
 match m,h with
 |0,_=>decide
 | 1,_=>decide
 | 2,_=>decide
 | 3,_=>decide
 | 4,_=>decide
theorem b4X{p:List (List Int)}{n:Nat}(hp:a2p p n)(a:p.length=2)(f:a1B p)(b:n≤4096):∀(k m best:Nat)(least:Int),m+k=5→best≤4→(doO (a4M best) p).isSome=true→
  ∃best',x0r a6e (p,(best:Int),least,(m:Int),())=some (((best':Nat):Int),())∧best'≤4∧(doO (a4M best') p).isSome=true
 |0,m,best,least,hm,hb,hd=>by
  obtain rfl:m=5:=by omega
  exact⟨best,a0D rfl,hb,hd⟩
 |k+1,m,best,least,hm,hb,hd=>by
  have d:decide ((m:Int)<5)=true:=by simp;omega
  have e:wrap .i64 ((m:Int)+1)=((m+1:Nat):Int):=a0C (by omega);have g:a2L (a4M m) (p.length:Int):=by rw[a];exact c2Y (by omega)
  cases hdo:doO (a4M m) p with
  |none=>
   have j:((6:Int) != 0)=true:=rfl;rw[a0E (s':=(p,(best:Int),least,((m+1:Nat):Int),())) (by
    simp only[a6e,d,cT,b9Y (show m≤4 by omega),oB,c3B,if_pos (show a1B p∧a2L (a4M m) (p.length:Int)from⟨f,g⟩),hdo,b6T,j,e])]
   exact b4X hp a f b k (m+1) best least (by omega) hb hd
  |some r=>
   have i:((0:Int) != 0)=false:=rfl;obtain⟨l,o⟩:=b3E (a4M m) hp rfl g.2.2.2 hdo
   obtain⟨w,c⟩:=c2X l b (by omega);have h:a6e (p,(best:Int),least,(m:Int),())=bif decide (w<least)then some (.inl (p,(m:Int),w,((m+1:Nat):Int),()))else some (.inl (p,(best:Int),least,((m+1:Nat):Int),())):=by
    simp only[a6e,d,cT,b9Y (show m≤4 by omega),oB,c3B,if_pos (show a1B p∧a2L (a4M m) (p.length:Int)from⟨f,g⟩),hdo,b6T,i,cF,c,e]
   cases hlt:decide (w<least)with
   |true=>
    rw[hlt]at h;rw[a0E h];exact b4X hp a f b k (m+1) m w (by omega) (by omega) (by rw[hdo];rfl)
   |false=>
    rw[hlt]at h;rw[a0E h];exact b4X hp a f b k (m+1) best least (by omega) hb hd
theorem d0U{p:List (List Int)}{n:Nat}(hp:a2p p n)(k:p.length=2)(g:n≤4096):∃m,m≤4∧b2h p=some (a4M m)∧(doO (a4M m) p).isSome=true:=by
 have b:=b9W hp (by omega) (by omega) g;obtain⟨w,c⟩:=c2X hp g (by omega);obtain⟨m,f,h,a⟩:=b4X hp k b g 4 1 0 w rfl (by omega) rfl;refine⟨m,h,?_,a⟩;unfold b2h;simp only[c,oB]
 erw[f]
 simp only[oB,b9Y h]
def b1q(i:Nat)(s:a0R):a0R:=(s.1+(i:Int),s.2.1+(i:Int),s.2.2.1,())
theorem c8Y{i N:Nat}(h:i+2≤N){s:a0R}(k:a1z 2 s=true):a1z (N:Int) (b1q i s)=true:=by
 obtain⟨a1,a,b,c,d,g,f⟩:=a2h.1 k;exact a2h.2 ⟨by show 0≤s.1+(i:Int);omega,by show s.1+(i:Int)<(N:Int);omega,by show 0≤s.2.1+(i:Int);omega,by show s.2.1+(i:Int)<(N:Int);omega,by show s.1+(i:Int)≠s.2.1+(i:Int);omega,g,f⟩
def c3C(i:Nat)(c c' p:List (List Int)):Prop:=c'.length=c.length∧p.length=2∧c'.getD i []=p.getD 0 []∧c'.getD (i+1) []=p.getD 1 []∧∀j,j≠i→j≠i+1→c'.getD j []=c.getD j []
theorem c7j{i:Nat}{c0 c p p':List (List Int)}(E:i+2≤c0.length)(h:c3C i c0 c p){s:a0R}(z:a1z 2 s=true)(g:a2M 1 s p=some p'):∃c',a2M 1 (b1q i s) c=some c'∧c3C i c0 c' p':=by
 obtain⟨q,t,a,b,u⟩:=h;obtain⟨a1,d,l,m,B,C,D⟩:=a2h.1 z;unfold a2M at g⊢;simp only at g⊢;have f:∀x:Int,0≤x→x<2→c.getD (x+(i:Int)).toNat []=p.getD x.toNat []:=fun x F A=>by
  have:x=0∨x=1:=by omega
  rcases this with rfl|rfl;rw[show((0:Int)+(i:Int)).toNat=i from by omega];exact a;rw[show((1:Int)+(i:Int)).toNat=i+1 from by omega];exact b
 have n:=f s.1 a1 d;have o:=f s.2.1 l m;simp only[b1q];have y:a6p 1 s.2.2.1 (c.getD (s.1+(i:Int)).toNat []) (c.getD (s.2.1+(i:Int)).toNat [])=a6p 1 s.2.2.1 (p.getD s.1.toNat []) (p.getD s.2.1.toNat []):=by rw[n,o]
 simp only[y]
 split at g
 rename_i v;cases g;rw[if_pos v];generalize a6p 1 s.2.2.1 (p.getD s.1.toNat []) (p.getD s.2.1.toNat [])=r at *;refine⟨_,rfl,by simp[q],by simp[t],?_,?_,fun j w k=>?_⟩
 have:s.2.1=0∨s.2.1=1:=by omega
 rcases this with e|e;rw[e,show((0:Int)+(i:Int)).toNat=i from by omega,a5H _ (by omega),show(0:Int).toNat=0 from rfl,a5H _ (by omega)];rw[e,show((1:Int)+(i:Int)).toNat=i+1 from by omega,a4l _ (by omega),show(1:Int).toNat=1 from rfl,a4l _ (by omega)];exact a
 have:s.2.1=0∨s.2.1=1:=by omega
 rcases this with e|e;rw[e,show((0:Int)+(i:Int)).toNat=i from by omega,a4l _ (by omega),show(0:Int).toNat=0 from rfl,a4l _ (by omega)];exact b;rw[e,show((1:Int)+(i:Int)).toNat=i+1 from by omega,a5H _ (by omega),show(1:Int).toNat=1 from rfl,a5H _ (by omega)];rw[a4l _ (by omega)];exact u j w k;cases g
theorem c4E{i:Nat}{c0:List (List Int)}(f:i+2≤c0.length):∀(l:List a0R){c p p':List (List Int)},l.all (a1z 2)=true→c3C i c0 c p→doO l p=some p'→∃g,doO (l.map (b1q i)) c=some g∧c3C i c0 g p'
 | [],c,p,p',_,h,hd=>by cases hd;exact⟨c,rfl,h⟩
 |s::l,c,p,p',hl,h,hd=>by
  simp only[a17,bA]at hl;simp only[doO,a03]at hd;obtain⟨q,k,a⟩:=hd;obtain⟨d,b,e⟩:=c7j f h hl.1 k;obtain⟨g,j1,j2⟩:=c4E f l hl.2 e a;exact⟨g,by simp only[a18,doO,b,oB];exact j1,j2⟩
theorem c5J:∀(l m:List a0R)(c:List (List Int)),doO (l++m) c=(doO l c).bind (doO m)
 | [],m,c=>rfl
 |s::l,m,c=>by
  simp only[a35,doO];cases a2M 1 s c with
  |none=>rfl
  |some d=>exact c5J l m d
theorem c8c{α β:Type}(f:α→β):∀l:List α,l.flatMap (fun x=>[f x])=l.map f
 | []=>rfl
 |x::l=>by simp[c8c f l]
theorem c5o(b:a1L)(first:Nat)(t:first≤100){y:List a0R}(e:y.all (a1z 2)=true)(s:y.length≤10)(out:List a0R)(u:out.length≤1000):
  x0r a6f ((first:Int),(y.length:Int),(0:Int),out,y,b,())=some ((first:Int),out++y.map (b1q first),b,()):=by
 have:=a0X (f:=a6f) (β:=Int×(List a0R×(a1L×Unit))) y (fun i (a:List a0R)=>((first:Int),(y.length:Int),(i:Int),a,y,b,())) (fun a x=>.inl (a++[b1q first x])) (fun i a=>a.length=out.length+i) (fun a=>((first:Int),a,b,()))
  (fun i g a k=>⟨fun j h=>by
   simp only[Sum.inl.injEq]at h;subst h;obtain⟨a1,l,m,o,p,q,r⟩:=a2h.1 (lA.1 e _ (a01 g));have c:decide ((0:Int)≤(i:Int))=true:=by simp
   have d:a34 y (a22 (i:Int)) ((0:Int),(0:Int),(0:Int),())=y[i]:=by rw[tN,lD,lG g];rfl
   refine⟨?_,by simp[k];omega⟩;simp only[a6f,dlt g,cT,c,a29,a1a (show a.length+1<2147483648 by omega),d,a0C (show i<1000000 by omega),a04];rw[a0H (n:=y[i].1+(first:Int)) (by omega),a0H (n:=y[i].2.1+(first:Int)) (by omega)]
   rfl,fun b hb=>by cases hb⟩)
  (fun a k=>by simp only[a6f,dge,cF]) (a:=out) (by simp)
 rw[a8o (fun x:a0R=>[b1q first x])]at this
 simp only[nZ]at this;rw[this];simp only[a6E,c8c]
theorem d3V{c:List (List Int)}{i:Nat}(h:i+2≤c.length):List.drop i (List.take (i+2) c)=[c.getD i [],c.getD (i+1) []]:=by
 apply a25;intro j;rw[a53]
 match j with
 |0=>rw[a23,if_pos (by omega),a55,lD,lG (by omega)];rfl
 | 1=>rw[a23,if_pos (by omega),lD,lD,lG (by omega)];rfl
 |j+2=>rw[a23,if_neg (by omega)];rfl
theorem c1I{b:a1L}{n:Nat}(a:a2p b.2.1 n)(q:n≤4096)(C:b.2.1.length≤8):∀(k j:Nat)(out:List a0R)(c:List (List Int)),j+k=5→out.length≤3*j→out.all (a1z (b.2.1.length:Int))=true→doO out b.2.1=some c→(∀i,2*j≤i→c.getD i []=b.2.1.getD i [])→3*j≤12∨b.2.1.length≤2*j→
  ∃l d,x0r a8H (((2*j:Nat):Int),out,b,())=some (l,())∧l.length≤16∧l.all (a1z (b.2.1.length:Int))=true∧doO l b.2.1=some d
 |k,j,out,c,hk,hol,hob,hdo,hag,h12=>by
  have g:wrap .i64 (((2*j:Nat):Int)+1)=((2*j+1:Nat):Int):=by rw[a0H (by omega)];omega
  by_cases hlt:2*j+1<b.2.1.length
  ·cases k with
   |zero=>omega
   |succ k=>
    have f:wrap .i64 (((2*j:Nat):Int)+2)=((2*j+2:Nat):Int):=by rw[a0H (by omega)];omega
    have hp:a2p [b.2.1.getD (2*j) [],b.2.1.getD (2*j+1) []] n:=fun r u=>by
     simp only[mC,a20,or_false]at u;rcases u with rfl|rfl;exact a3D a (by omega);exact a3D a (by omega)
    obtain⟨m,v,H,I⟩:=d0U hp rfl q;obtain⟨p',p⟩:=Option.isSome_iff_exists.1 I;have h:=(c2Y v).2.2.2;have E:(a4M m).length≤3:=by
     match m,v with
     |0,_=>decide
     | 1,_=>decide
     | 2,_=>decide
     | 3,_=>decide
     | 4,_=>decide
    have D:c.length=b.2.1.length:=(b3E out a rfl hob hdo).2;obtain⟨d,A,K,L,M,N,B⟩:=c4E (i:=2*j) (c0:=c) (by omega) (a4M m) h ⟨rfl,rfl,hag _ (a32 _),hag _ (by omega),fun _ _ _=>rfl⟩ p;have o:=c5o b (2*j) (by omega) h (by omega) out (by omega);have e:decide (((2*j+1:Nat):Int)<((b.2.1.length:Nat):Int))=true:=by simp only[dT];omega
    have w:decide ((0:Int)≤((2*j+2:Nat):Int))=true:=by simp only[dT];omega
    have x:decide (((2*j+2:Nat):Int)≤((b.2.1.length:Nat):Int))=true:=by simp only[dT];omega
    have y:decide ((0:Int)≤((2*j:Nat):Int))=true:=by simp only[dT];omega
    have z:decide (((2*j:Nat):Int)≤((2*j+2:Nat):Int))=true:=by simp only[dT];omega
    rw[a0E (s':=(((2*(j+1):Nat):Int),out++(a4M m).map (b1q (2*j)),b,())) (by
     simp only[a8H,g,e,cT,f,w,x,a29,tN,y,z];rw[d3V (by omega),H];simp only[oB];rw[o];simp only[oB,f];rfl)]
    refine c1I a q C k (j+1) (out++(a4M m).map (b1q (2*j))) d (by omega) (by simp;omega) ?_ (by rw[c5J,hdo];exact A) (fun i O=>by rw[B i (by omega) (by omega)];exact hag i (by omega)) (by omega);rw[List.all_append,hob,a28,lA];intro s F;obtain⟨t,G,rfl⟩:=a40.1 F;exact c8Y (by omega) (lA.1 h t G)
  refine⟨out,c,a0D ?_,by omega,hob,hdo⟩;have e:decide (((2*j+1:Nat):Int)<((b.2.1.length:Nat):Int))=false:=by simp only[decide_eq_false_iff_not];omega
  simp only[a8H,g,e,cF]
termination_by k=>k
theorem c4F{b:a1L}(hb:a2N b):∃l h,a7q b=some l∧a2L l (b.2.1.length:Int)∧doO l b.2.1=some h:=by
 obtain⟨d,-⟩:=b6V hb;have c:=hb.2.2.2.1;obtain⟨l,h,g,f,k,a⟩:=c1I d hb.2.2.2.2.2.1 c 5 0 [] b.2.1 rfl (by simp) rfl rfl (fun _ _=>rfl) (by omega);refine⟨l,h,?_,⟨by have:=hb.2.2.1;omega,by omega,f,k⟩,a⟩;unfold a7q;simp only[b4p,decide_eq_true hb,oB,bT,cF];rw[show((2*0:Nat):Int)=0 from rfl]at g;rw[g];rfl
theorem c8Z{r:List Int}{n:Nat}(e:r.length=n∧r.all a0A=true)(m:1≤n)(o:n≤256){k:Int}(b:0≤k)(c:k≤3):
  ∃s,a5o (r,k)=some (s,0)∧SmallS s∧a1o s (n:Int)=some r∧a4S s (n:Int)≤((13+a0I r*n:Nat):Int):=by
 obtain⟨h,g⟩:=e;have d:=a6N (l:=r) (by omega) g;obtain⟨s,i,j,f,-,-,a,-⟩:=c7a (l:=r) (by omega) (by omega) g (d1T (by have:=d.1;omega)) b c;exact⟨s,i,j,by rw[h]at f;exact f,by rw[h]at a;exact a⟩
theorem c1J{effort:Int}(b:0≤effort)(j:effort≤3){rows:List (List Int)}{n:Nat}(l:a2p rows n)(c:1≤n)(i:n≤256)(p:rows.length≤8)(f:a1l):∀(rest d:List (List Int)) (done:List Sub),d++rest=rows→done.length=d.length→
  ∃outs,x0r a5p (effort,rows,(rows.length:Int),(d.length:Int),c1G,c1D f done,())=some (.inl (c1G,c1D f (done++outs),()))∧a4L (fun s=>a1o s (n:Int)) outs=some rest∧(∀s∈outs,SmallS s)∧a4L (fun r=>a5o (r,effort)) rest=some (outs.map fun s=>(s,0))
 | [],d,done,hd,hdl=>by
  have e:d=rows:=by simpa using hd
  subst e;refine⟨[],?_,rfl,by simp,rfl⟩;rw[a58];exact a0D (by simp only[a5p,dge,cF])
 |r::rest,d,done,hd,hdl=>by
  have h:d.length<rows.length:=by rw[←hd];simp
  have q:l0z rows (d.length:Int)=some r:=by rw[a0B h];subst hd;simp
  obtain⟨s,a,m,o,-⟩:=c8Z (l r (by rw[←hd];simp)) c i b j;have z0:((0:Int) != 0)=false:=rfl;have g:a5p (effort,rows,(rows.length:Int),(d.length:Int),c1G,c1D f done,())=some (.inl (effort,rows,(rows.length:Int),(((d++[r]).length:Nat):Int),c1G,c1D f (done++[s]),())):=by
   simp only[a5p,dlt h,cT,q,oB,a,z0,cF];rw[show(c1D f done).2.2.2.2.1=done from rfl,a1a (show done.length+1<2147483648 by omega),cT,a0C (show d.length<1000000 by omega)];rw[show(((d++[r]).length:Nat):Int)=((d.length+1:Nat):Int)from by simp];rfl
  rw[a0E g];obtain⟨outs,u,v,w,x⟩:=c1J b j l c i p f rest (d++[r]) (done++[s]) (by simpa using hd) (by simp[hdl]);refine⟨s::outs,?_,?_,fun t k=>?_,?_⟩;rw[u];simp;simp only[a4L,o,v,oB];rcases mC.1 k with rfl|k;exact m;exact w t k;simp only[a4L,a,x,oB,a18]
theorem c7k{b:a1L}(hb:a2N b)(k:a1N b≤256){rate start effort:Int}(p:1≤rate∧rate≤1048576)(E:0≤start∧start≤4194304-((a1N b:Nat):Int))(B:0≤effort)(C:effort≤3):
  ∃l g outs,a8e (b,(rate,((b.2.1.length:Nat):Int),b.1,()),start,effort)=some ((start,((a1N b:Nat):Int),(rate,((b.2.1.length:Nat):Int),b.1,()),l,outs,()),0)∧
   a2L l (b.2.1.length:Int)∧doO l b.2.1=some g∧a4L (fun s=>a1o s ((a1N b:Nat):Int)) outs=some g∧(∀s∈outs,SmallS s)∧a4L (fun r=>a5o (r,effort)) g=some (outs.map fun s=>(s,0))∧
   (effort=0→l=[])∧(0<effort→a7q b=some l):=by
 obtain⟨D,o⟩:=b6V hb;have j:=hb;obtain⟨z,A,G,H,I,K,-⟩:=j;have m:b5y (rate,((b.2.1.length:Nat):Int),b.1,()):=⟨p.1,p.2,by show(1:Int)≤((b.2.1.length:Nat):Int);omega,by show((b.2.1.length:Nat):Int)≤8;omega,z,A⟩;have f:∃l g,a2L l (b.2.1.length:Int)∧doO l b.2.1=some g∧(effort=0→l=[])∧(0<effort→a7q b=some l):=by
  by_cases he:effort=0
  exact⟨[],b.2.1,⟨by omega,by omega,by simp,rfl⟩,rfl,fun _=>rfl,fun h=>by omega⟩;obtain⟨l,c,n,q,F⟩:=c4F hb;exact⟨l,c,q,F,fun h=>absurd h he,fun _=>n⟩
 obtain⟨l,g,i,e,a,d⟩:=f;obtain⟨n,q⟩:=b3E l D rfl i.2.2.2 e;obtain⟨outs,j1,j2,j3,j4⟩:=c1J B C n (by omega) k (by omega) (start,((a1N b:Nat):Int),(rate,((b.2.1.length:Nat):Int),b.1,()),l,([]:List Sub),()) g [] [] rfl rfl;refine⟨l,g,outs,?_,i,e,j2,j3,j4,a,d⟩;have x:(b.1 != b.1)=false:=bne_self_eq_false _;have y:(((b.2.1.length:Nat):Int) != ((b.2.1.length:Nat):Int))=false:=bne_self_eq_false _;have t:decide (effort<0)=false:=by simp only[decide_eq_false_iff_not];omega
 have u:decide (effort > 3)=false:=by simp only[decide_eq_false_iff_not];omega
 have v:decide (start<0)=false:=by simp only[decide_eq_false_iff_not];omega
 have w:decide (start > wrap .i64 (4194304-((a1N b:Nat):Int)))=false:=by rw[a0H (by omega)];simp only[decide_eq_false_iff_not];omega
 have z0:((0:Int) != 0)=false:=rfl;unfold a8e;simp only[b4p,decide_eq_true hb,oB,bT,cF,b6d,decide_eq_true m,x,y,t,u,v,a8p,w];cases he:decide (effort > 0)with
 |true=>
  have:=d (by simpa using he)
  simp only[cT,this,oB,c3B,if_pos (show a1B b.2.1∧a2L l (b.2.1.length:Int)from⟨o,i⟩),e,b6T,z0,cF]
  erw[j1]
  rfl
 |false=>
  have:=a (by simp only[decide_eq_false_iff_not]at he;omega)
  subst this;simp only[cF,oB,c3B,if_pos (show a1B b.2.1∧a2L ([]:List a0R) (b.2.1.length:Int)from⟨o,i⟩),e,b6T,z0]
  erw[j1]
  rfl
theorem made{b:a1L}(hb:a2N b)(f:a1N b≤256){rate start effort:Int}(e:1≤rate∧rate≤1048576)(a:0≤start∧start≤4194304-((a1N b:Nat):Int))(j:0≤effort)(n:effort≤3):
  ∃g:Int×(a0R×(List a0R×(List Sub×Unit))),a8e (b,(rate,((b.2.1.length:Nat):Int),b.1,()),start,effort)=some ((start,g),0)∧g.1=((a1N b:Nat):Int)∧g.2.1=(rate,((b.2.1.length:Nat):Int),b.1,())∧
   g.2.2.1.length≤16∧g.2.2.2.1.length≤8∧(∀s∈g.2.2.2.1,SmallS s)∧∀h,0≤h∧h≤4194304-((a1N b:Nat):Int)→a4c (h,g)=some b:=by
 obtain⟨l,i,outs,m,k,c,d,o,-⟩:=c7k hb f e a j n;obtain⟨p,-⟩:=b6V hb;have t:=b9X d;have q:=(b3E l p rfl k.2.2.2 c).2;exact⟨_,m,rfl,rfl,k.2.2.1,by have:=hb.2.2.2.1;show outs.length≤8;omega,o,fun h r=>c7h hb k c d r e⟩
def dead(T:List Int)(a:Int):List Int×(Int×Int×Unit):=(T,a,(3:Int),())
def crE(s:BitVec 16):BitVec 16:=bif s.msb then(s <<< 1) ^^^ 32773#16 else s <<< 1
theorem c5K(s t:BitVec 16):crE (s ^^^ t)=crE s ^^^ crE t:=by
 unfold crE;rw[BitVec.msb_xor,BitVec.shiftLeft_xor_distrib];cases s.msb<;>cases t.msb<;>simp only[cT,cF,Bool.xor_true,Bool.xor_false,bT,a02];rw[a05];rw[a05,a05,a44 (t <<< 1)];rw[a05,a44 32773#16,a05,BitVec.xor_self,a61]
theorem c9a{s:BitVec 16}(h:crE s=0):s=0:=by
 unfold crE at h;cases hm:s.msb with
 |true=>
  rw[hm,cT]at h
  have:=congrArg (fun x=>a63 x 0) h
  simp at this
 |false=>
  rw[hm,cF]at h;refine a41 fun i g=>?_
  by_cases h15:i=15
  subst h15;rw[a33]at hm;simpa using hm
  have:=congrArg (fun x=>a63 x (i+1)) h
  simp at this;simpa using this (by omega)
theorem d3W:crE 0=0:=by decide
theorem b9Z{s:BitVec 16}:∀{n:Nat},rep crE n s=0→s=0
 |0,h=>h
 |n+1,h=>c9a (b9Z (n:=n) h)
theorem c9U:∀n:Nat,rep crE n 0=0
 |0=>rfl
 |n+1=>by
  show rep crE n (crE 0)=0;rw[d3W,c9U n]
def crB(b:Bool):BitVec 16:=bif b then 32768#16 else 0#16
def crS(s:BitVec 16)(b:Bool):BitVec 16:=crE (s ^^^ crB b)
def crT:List Bool→BitVec 16
 | []=>0#16
 |b::w=>crB b ^^^ (crT w >>> 1)
theorem d0V(b:Bool)(j:Nat):(crB b).getLsbD j=(b&&decide (j=15)):=by
 cases b with
 |false=>simp[crB]
 |true=>
  simp only[crB,cT,a28];rw[show(32768#16)=BitVec.ofNat 16 (2^15)from rfl,BitVec.getLsbD_ofNat,Nat.testBit_two_pow]
  by_cases h:j=15
  subst h;rfl;rw[decide_eq_false (by omega:¬ (15=j)),decide_eq_false h,Bool.and_false]
theorem b8O:∀(w:List Bool)(j:Nat),(crT w).getLsbD j=(decide (j<16)&&w.getD (15-j) false)
 | [],j=>by simp[crT]
 |b::w,j=>by
  rw[crT,BitVec.getLsbD_xor,d0V,a21,b8O w]
  by_cases h:j=15
  subst h;simp
  by_cases h2:j<16
  rw[show 15-j=(15-(1+j))+1 from by omega,a50];simp[h,h2,show 1+j<16 from by omega];simp[h,h2,show ¬ (1+j<16)from by omega]
theorem c9b{w:List Bool}(h:w.length≤15):crE (crT w >>> 1)=crT w:=by
 have k:(crT w >>> 1).msb=false:=by
  rw[a33,a21,b8O];simp
 unfold crE;rw[k,cF];refine a41 fun i f=>?_
 rw[BitVec.getLsbD_shiftLeft,a21];cases i with
 |zero=>
  have g:(crT w).getLsbD 0=false:=by
   rw[b8O,lD,List.getElem?_eq_none (by omega)];rfl
  rw[g];simp
 |succ i=>rw[show 1+(i+1-1)=i+1 from by omega];simp[f]
theorem d1X:∀(w:List Bool)(s:BitVec 16),w.length≤16→w.foldl crS s=rep crE w.length (s ^^^ crT w)
 | [],s,_=>by simp[crT,rep]
 |b::w,s,h=>by
  rw[lC]at h;rw[a45,d1X w _ (by omega),crT,←a05];show _=rep crE w.length (crE (s ^^^ crB b ^^^ (crT w >>> 1)));rw[c5K,c9b (by omega)];rfl
theorem c4G{α:Type}(f g:α→Bool):∀(L:List α)(s t:BitVec 16),(L.map fun j=>xor (f j) (g j)).foldl crS (s ^^^ t)=(L.map f).foldl crS s ^^^ (L.map g).foldl crS t
 | [],_,_=>rfl
 |a::L,s,t=>by
  simp only[a18,a45];rw[←c4G f g L];congr 1;unfold crS;rw[←c5K];congr 1
  have:crB (xor (f a) (g a))=crB (f a) ^^^ crB (g a):=by cases f a<;>cases g a<;>rfl
  rw[this];simp only[a05];rw[←a05 t,a44 t,a05]
theorem b6W:∀(n:Nat)(s:BitVec 16),(a06 n false).foldl crS s=rep crE n s
 |0,_=>rfl
 |n+1,s=>by
  rw[a51,a45,b6W n];show rep crE n (crE (s ^^^ 0#16))=rep crE n (crE s);rw[a61]
theorem d3X{w:List Bool}(h:w.length≤16)(a:true∈w)(k m:Nat):(a06 k false++(w++a06 m false)).foldl crS 0≠0:=by
 rw[a56,a56,b6W,b6W,c9U,d1X w _ h];intro e;have e:=b9Z (b9Z e);have e:crT w=0:=by simpa using e
 obtain⟨i,f,g⟩:=a49.1 a
 have:=b8O w (15-i)
 rw[e,show 15-(15-i)=i from by omega,lD,lG f,g]at this;simp at this;omega
def byb(c:Int):List Bool:=[7,6,5,4,3,2,1,0].map fun i=>c.toNat.testBit i
theorem c4H(a b:Int):0≤bits .u16 .xor a b∧bits .u16 .xor a b<65536:=by
 simp only[bits,c2l];omega
def b8P(p:List Int):List Bool:=p.flatMap byb
def d1Y(c:Int):Prop:=0≤c∧c<256
def a9X(p:List Int)(j:Nat):Bool:=(p.getD (j / 8) 0).toNat.testBit (7-j%8)
theorem c0A:∀p:List Int,b8P p=(a36 (8*p.length)).map (a9X p)
 | []=>rfl
 |c::p=>by
  have e:b8P (c::p)=byb c++b8P p:=rfl;rw[e,c0A p,lC,show 8*(p.length+1)=8+8*p.length from by omega,a47,pA,a42];congr 1;refine a52 fun j _=>?_
  show a9X p j=a9X (c::p) (8+j);unfold a9X;rw[show(8+j) / 8=j / 8+1 from by omega,a50,show(8+j)%8=j%8 from by omega]
structure Turn (b k i:Nat) (p0 p:List Int) (sm:Bool):Prop where
 len:p.length=p0.length
 ok:∀c∈p,d1Y c
 bit:∀j,a9X p j=xor (a9X p0 j) (decide (k≤j∧j<k+i)&&b.testBit (j-k))
 smk:sm=true↔∃t,t<i∧b.testBit t=true
 pre:p.take (k / 8)=p0.take (k / 8)
 same:sm=false→p=p0
theorem turned{b k:Nat}{p0 q:List Int}{s:Bool}(w:k<8*p0.length)(i:(b8P p0).foldl crS 0=0)(g:Turn b k (min 16 (8*p0.length-k)) p0 q s)(u:s=true):(b8P q).foldl crS 0≠0:=by
 obtain⟨n,r⟩:∃n,min 16 (8*p0.length-k)=n:=⟨_,rfl⟩;rw[r]at g;have e:b8P q=(a36 (8*p0.length)).map fun j=>xor (a9X p0 j) (decide (k≤j∧j<k+n)&&b.testBit (j-k)):=by
  rw[c0A,g.len];exact a52 fun j _=>g.bit j
 have h:=c4G (a9X p0) (fun j=>decide (k≤j∧j<k+n)&&b.testBit (j-k)) (a36 (8*p0.length)) 0 0;have a:∀x:BitVec 16,(0:BitVec 16) ^^^ x=x:=fun _=>BitVec.zero_xor;rw[a,←e,←c0A,i,a]at h;rw[h];obtain⟨m,p⟩:∃m,8*p0.length=k+(n+m):=⟨8*p0.length-k-n,by omega⟩;rw[p,a47,a47,pA,pA,pA,a42,a42,a42];have c:(a36 k).map (fun j=>decide (k≤j∧j<k+n)&&b.testBit (j-k))=a06 k false:=by
  rw[a46];refine⟨by simp,fun x f=>?_⟩;obtain⟨j,o,rfl⟩:=a40.1 f
  grind
 have d:(a36 m).map (((fun j=>decide (k≤j∧j<k+n)&&b.testBit (j-k))∘(k+·))∘(n+·))=a06 m false:=by
  rw[a46];refine⟨by simp,fun x f=>?_⟩;obtain⟨j,o,rfl⟩:=a40.1 f
  grind
 rw[c,d];refine d3X (by simp;omega) ?_ k m;obtain⟨t,l,v⟩:=g.smk.1 u;refine a40.2 ⟨t,List.mem_range.2 l,?_⟩;simp_all
theorem d0W{g:Int}(h:-100000≤g∧g≤100000):b1E g=some ((b5w g:Nat):Int):=by
 unfold b1E b5w
 by_cases hg:0≤g
 have d:decide (g<0)=false:=by simp only[decide_eq_false_iff_not];omega
 have e:z0g .u64 (wrap .u64 g) 1=2*g:=by
  show wrap .u64 (wrap .u64 g*2)=_;rw[a0M (n:=g) (by omega),a0M (by omega)];omega
 rw[d,cF,e,if_pos hg,a00 (by omega)];rfl;have d:decide (g<0)=true:=by simp only[dT];omega
 have e:z0g .u64 (wrap .u64 g) 1=((18446744073709551615-(-2*g-1).toNat:Nat):Int):=by
  show wrap .u64 (wrap .u64 g*2)=_;rw[c7A (n:=g) (by omega)];have f:∀n:Int,wrap .u64 n=n%18446744073709551616:=fun n=>by simp[wrap,IntKind.bits,IntKind.signed]
  rw[f];omega
 rw[d,cT,e,if_neg hg,c5x (by omega)];simp only[oB];congr 2;omega
theorem b9D(a:List Int)(i:Int):∀(k n:Nat)(out:List Int),n<128^(k+1)→k≤8→out.length+k<1000000→
  ∃r g,x0r a6C (a,i,(n:Int),out,())=some (a,i,((r:Nat):Int),out++g,())∧a1Z n=g++[(r:Int)]∧r<128
 |k,n,out,h,hk,ho=>by
  by_cases hn:n<128
  refine⟨n,[],?_,by rw[b8N hn];rfl,hn⟩;rw[a0D (b:=(a,i,(n:Int),out,())) (by
   have d:decide ((n:Int)≥128)=false:=by simp;omega
   simp only[a6C,d,cF])]
  simp
  ·cases k with
   |zero=>omega
   |succ k=>
    have q:n / 128<128^(k+1):=by rw[Nat.div_lt_iff_lt_mul (by omega)];rw[Nat.pow_succ]at h;exact h
    have f:n<18446744073709551616:=by
     have:128^(k+1+1)≤128^9:=a48 (by omega) (by omega)
     have e:(128:Nat)^9=9223372036854775808:=by decide
     omega
    obtain⟨r,g,c,m,p⟩:=b9D a i k (n / 128) (out++[((n%128+128:Nat):Int)]) q (by omega) (by simp;omega);refine⟨r,((n%128+128:Nat):Int)::g,?_,by rw[c2j hn,m];rfl,p⟩;have d:decide ((n:Int)≥128)=true:=by simp;omega
    have j:z0h .u64 (n:Int) 7=((n / 128:Nat):Int):=a4i (o:=7) (by omega);have l:wrap .u8 (bits .u64 .or (bits .u64 .and (n:Int) 127) 128)=((n%128+128:Nat):Int):=by
     have c:bits .u64 .and (n:Int) 127=((n%2^7:Nat):Int):=b6z (k:=7) f (by omega);rw[c,show((128:Int))=((1*2^7:Nat):Int)from rfl,orA (Nat.mod_lt _ (by omega)) (by omega),a5x];omega
    rw[a0E (s':=(a,i,((n / 128:Nat):Int),out++[((n%128+128:Nat):Int)],())) (by
     simp only[a6C,d,cT,a1a (show out.length+1<2147483648 by omega),j,l,a04])]
    rw[c]
    simp
theorem b1r{ns:List Nat}(h:∀n∈ns,n<9223372036854775808)(u:ns.length≤1000):a2n (asI ns)=some (ns.flatMap a1Z):=by
 have m:(asI ns).length=ns.length:=by simp[asI]
 have:=a0X (f:=a6D) (asI ns) (fun i (a:List Int)=>(asI ns,(i:Int),a,())) (fun a x=>.inl (a++a1Z x.toNat)) (fun i a=>a.length≤10*i) (fun a=>(a,()))
  (fun i l a q=>⟨fun s g=>by
   have c:i<ns.length:=by omega
   have o:(asI ns)[i]=((ns[i]:Nat):Int):=by simp[asI]
   have hb:=h ns[i] (a01 c);have k:ns[i]<128^(8+1):=by rw[show(128:Nat)^(8+1)=9223372036854775808 from by decide];exact hb
   obtain⟨r,d,p,j,t⟩:=b9D (asI ns) (i:Int) 8 ns[i] a k (a32 _) (by omega);have hv:=b6R 8 ns[i] k;rw[j]at hv;simp only[lN,lC,a07]at hv;simp only[o,tN,j,Sum.inl.injEq]at g;subst g;have e:wrap .u8 (r:Int)=(r:Int):=by rw[a5x];omega
   refine⟨?_,by simp;omega⟩;simp only[a6D,dlt l,cT,a0B l,o,oB,p,a1a (show(a++d).length+1<2147483648 by simp;omega),a0C (show i<1000000 by omega),e,a04,aA],fun b hb=>by cases hb⟩)
  (fun a q=>by simp only[a6D,dge,cF]) (a:=[]) (by simp)
 unfold a2n;simp only[nZ]at this;rw[this,a8o];simp[a6E,asI,List.flatMap_map]
theorem c5p{f:a1l}(r:frP f){body:Nat}(p:body≤1048576):b3v (f,(body:Int))=some (hb f body):=by
 have q:=r;obtain⟨⟨O,r2,I,K,L,M⟩,l1,l2,s1,s2,m1,m2,m3,m4⟩:=q;have k:∀s∈f.2.2.2.1,a1z f.2.2.1.2.1 s=true:=fun s A=>lA.1 m4 s A;have z:=b8E m2 f.2.2.2.1 m4;have y:=c1B r p;have c:a2n [wrap .u64 f.1,wrap .u64 f.2.1,wrap .u64 f.2.2.1.1,wrap .u64 f.2.2.1.2.1,wrap .u64 f.2.2.1.2.2.1,wrap .u64 ((f.2.2.2.1.length:Nat):Int)]=some ([f.1.toNat,f.2.1.toNat,f.2.2.1.1.toNat,f.2.2.1.2.1.toNat,f.2.2.1.2.2.1.toNat,f.2.2.2.1.length].flatMap a1Z):=by
  rw[←b1r (fun n l=>by
   simp only[mC,a20,or_false]at l;omega) (by simp)]
  congr 1;rw[a0M (n:=f.1) (by omega),a0M (n:=f.2.1) (by omega),a0M (n:=f.2.2.1.1) (by omega),a0M (n:=f.2.2.1.2.1) (by omega),a0M (n:=f.2.2.1.2.2.1) (by omega),a0M (by omega)];simp only[asI,a18,a37,a00 (show 0≤f.1 by omega),a00 (show 0≤f.2.1 by omega),a00 (show 0≤f.2.2.1.1 by omega),a00 (show 0≤f.2.2.1.2.1 by omega),a00 (show 0≤f.2.2.1.2.2.1 by omega)]
 have B:([f.1.toNat,f.2.1.toNat,f.2.2.1.1.toNat,f.2.2.1.2.1.toNat,f.2.2.1.2.2.1.toNat,f.2.2.2.1.length].flatMap a1Z).length≤600:=by
  have e:(hb f body).length=2+(([f.1.toNat,f.2.1.toNat,f.2.2.1.1.toNat,f.2.2.1.2.1.toNat,f.2.2.1.2.2.1.toNat,f.2.2.2.1.length].flatMap a1Z).length+((f.2.2.2.1.flatMap b1o).length+(a1Z body).length)):=by
   simp[hb];omega
  omega
 have h:=a0X (f:=a9F) (β:=Int×(List Int×Unit)) f.2.2.2.1 (fun i (a:List Int)=>((body:Int),(i:Int),a,f,())) (fun a x=>.inl (a++b1o x)) (fun i a=>a.length≤600+27*i) (fun a=>((body:Int),a,()))
  (fun i o a w=>⟨fun E j=>by
   simp only[Sum.inl.injEq]at j;subst j;obtain⟨a1,F,t,G,H,u,v⟩:=a2h.1 (k _ (a01 o));have D:=c2R m2 (k _ (a01 o));have N:=c2k (g:=f.2.2.2.1[i].2.2.1) (m:=1024) ⟨u,v⟩;have hp:a2n [wrap .u64 f.2.2.2.1[i].1,wrap .u64 f.2.2.2.1[i].2.1,((b5w f.2.2.2.1[i].2.2.1:Nat):Int)]=some (b1o f.2.2.2.1[i]):=by
    have e:=b1r (ns:=a3g f.2.2.2.1[i]) (fun n l=>by
     simp only[a3g,mC,a20,or_false]at l;omega) (by simp[a3g])
    rw[show b1o f.2.2.2.1[i]=(a3g f.2.2.2.1[i]).flatMap a1Z from by simp[b1o,a3g],←e];congr 1;rw[a0M (n:=f.2.2.2.1[i].1) (by omega),a0M (n:=f.2.2.2.1[i].2.1) (by omega)];simp only[asI,a3g,a18,a37,a00 a1,a00 t]
   refine⟨?_,by simp;omega⟩;simp only[a9F,dlt o,cT,a0B o,oB,d0W (g:=f.2.2.2.1[i].2.2.1) (by omega),hp,a1a (show a.length+(b1o f.2.2.2.1[i]).length<2147483648 by omega),a0C (show i<1000000 by omega),a04],fun b hb=>by cases hb⟩)
  (fun a w=>by simp only[a9F,dge,cF]) (a:=[f.1.toNat,f.2.1.toNat,f.2.2.1.1.toNat,f.2.2.1.2.1.toNat,f.2.2.1.2.2.1.toNat,f.2.2.2.1.length].flatMap a1Z) (by omega)
 rw[a8o]at h;simp only[a6E,nZ]at h;have d:a2n [wrap .u64 (body:Int)]=some (a1Z body):=by
  have e:=b1r (ns:=[body]) (fun n l=>by simp at l;omega) (by simp);rw[a0M (by omega)];simpa[asI]using e
 have C:=a6o (n:=body) (by omega);unfold b3v;simp only[c,oB];rw[h];simp only[oB,d,a04];rw[a1a (by rw[lN];omega),cT,a1a (by simp only[lN];omega),cT];simp[hb]
theorem c4I{p:PZ}{n:Int}(hp:c7g n p){L:List Int}(o:L.length<50000000):a8h ((L,()),p.1,n)=some (0,L++b1P p.1 p.2,())∧(b1P p.1 p.2).length≤700000:=by
 obtain⟨c,k,a⟩:=hp;obtain⟨j,i,g,l,f,b,m⟩:=c6F c (n:=n) (L:=L) (by omega);obtain⟨rfl,d,rfl,h⟩:=b k;have e:a1X p.1 d L=a1X p.1 p.2 L:=by
  by_cases hk:p.1.1=0∨p.1.1=1
  unfold a1X;rw[if_pos hk,if_pos hk];rw[c7B (h (not_or.1 hk)) (a (not_or.1 hk))]
 rw[e,b5v (b5u k) a]at g f;exact⟨g,by rw[lN]at f;omega⟩
theorem c4J(f:a0R):b2k f=some (decide (b5y f)):=by
 unfold b2k b5y
 grind
theorem b6e(l:List a0R)(n:Int):a7c (l,n)=some (decide (a2L l n)):=by
 unfold a7c a2L
 by_cases h1:n<1
 grind
 by_cases h2:n > 8
 grind
 by_cases h3:((l.length:Nat):Int) > 16
 grind
 have g:=a0Y (f:=a4G) (β:=Unit ⊕ (Bool×Unit)) l (fun i=>(l,n,(i:Int),())) (a1z n) (bt:=Sum.inl ()) (bf:=Sum.inr (false,()))
  (fun i h hp=>by
   obtain⟨a1,m,o,p,q,r,s⟩:=a2h.1 hp;have k:decide (l[i].1<0)=false:=by simp_all
   have a:decide (l[i].1≥n)=false:=by simp_all
   have b:decide (l[i].2.1<0)=false:=by simp_all
   have c:decide (l[i].2.1≥n)=false:=by simp_all
   have d:(l[i].1==l[i].2.1)=false:=by simp_all
   have e:decide (l[i].2.2.1 < -1024)=false:=by simp_all
   have j:decide (l[i].2.2.1 > 1024)=false:=by simp_all
   simp only[a4G,dlt h,cT,a0B h,oB,k,a,b,c,d,e,j,cF,a0C (show i<1000000 by omega)])
  (fun i h hp=>by
   simp only[a4G,dlt h,cT,a0B h,oB]
   grind[a1z])
  (by simp[a4G])
 grind
theorem c5q(c:List (List Int))(l:List a0R):b3u (c,l)=some (decide (a1B c∧a2L l (c.length:Int))):=by
 unfold b3u;simp only[c4D,oB]
 by_cases hl:1≤c.length∧c.length≤8∧c.all (fun r=>decide (r.length=(c.headD []).length))=true
 rotate_left;rw[decide_eq_false hl,decide_eq_false (fun h:a1B c∧_=>hl ⟨h.1.1,h.1.2.1,lA.2 fun r a=>by
  have:=lA.1 h.1.2.2.2 r a
  simp_all⟩)]
 rfl;have b:l0z c 0=some (c.headD []):=by rw[show(0:Int)=((0:Nat):Int)from rfl,a0B (show 0<c.length by omega),b2H (d:=[]) (by omega)]
 rw[decide_eq_true hl];simp only[bT,cF,b,oB]
 by_cases h3:(((c.headD []).length:Nat):Int) > 4096
 rw[decide_eq_true h3,decide_eq_false (fun h:a1B c∧_=>by have:=h.1.2.2.1;omega)];rfl;rw[decide_eq_false h3];simp only[cF,b6e,oB]
 by_cases hm:a2L l (c.length:Int)
 rotate_left;simp_all;rw[decide_eq_true hm];simp only[bT,cF];have k:∀r∈c,r.length=(c.headD []).length:=fun r a=>by simp_all
 have g:=a0Y (f:=a7f) c (fun i=>(c,(i:Int),())) (fun r=>r.all a0A) (bt:=Sum.inl ()) (bf:=Sum.inr (false,()))
  (fun i h hp=>by
   have:=k c[i] (a01 h)
   simp only[a7f,dlt h,cT,a0B h,oB,a1r (show short c[i]by unfold short;omega),hp,bT,cF,a0C (show i<1000000 by omega)])
  (fun i h hp=>by
   have:=k c[i] (a01 h)
   simp only[a7f,dlt h,cT,a0B h,oB,a1r (show short c[i]by unfold short;omega),hp,a02])
  (by simp_all[a7f])
 simp at g;rw[g]
 by_cases hA:c.all (fun r=>r.all a0A)=true
 rw[hA,decide_eq_true (⟨⟨hl.1,hl.2.1,by omega,lA.2 fun r a=>by grind⟩,hm⟩:a1B c∧_)];rfl;rw[a19.2 hA,decide_eq_false (fun h:a1B c∧_=>hA (lA.2 fun r a=>by
  have:=lA.1 h.1.2.2.2 r a
  simp_all))];rfl
theorem c3u{c:List (List Int)}{n:Nat}(h:a2p c n)(m:n≤5000)(l:c.length≤100):b0W c=some c:=by
 have:=a0X (f:=a7N) (β:=List (List Int)×Unit) c (fun i (a:List (List Int))=>(c,(i:Int),a,())) (fun a x=>.inl (a++[x])) (fun i a=>a.length=i) (fun a=>(a,()))
  (fun i k a d=>⟨fun j g=>by
   simp at g;subst g;have o:=(h _ (a01 k)).1;have e:∀y:List Int,a43 ([([]:List Int)]:List (List Int)) 0 y=[y]:=fun _=>rfl;refine⟨?_,by grind⟩;simp only[a7N,dlt k,cT,a0B k,oB,e,a04,a08,a09];rw[a1a (by omega),cT,a1a (by omega),cT,a0C (show i<1000000 by omega)],fun b hb=>by grind⟩)
  (fun a d=>by simp_all[a7N]) (a:=[]) rfl
 simp_all[a8o,b0W,a6E]
theorem c9c{c:List (List Int)}{n:Nat}(T:a2p c n)(U:n≤5000){s:a0R}{sign:Int}(p:sign=1∨sign=-1)(D:-1024≤s.2.2.1∧s.2.2.1≤1024)(a0:0≤s.1)(a1:s.1<(c.length:Int))(K:0≤s.2.1)(L:s.2.1<(c.length:Int))(C:s.1.toNat≠s.2.1.toNat)
  {xs:List Int}(H:c.getD s.1.toNat []=xs)(G:xs.length=n):∀(k g j h:List Int),j++k=xs→j.length=h.length→k.length=g.length→k.all a0A=true→g.all a0A=true→
  if(a6p sign s.2.2.1 k g).all a0A=true then
   x0r a6j (sign,(h.length:Int),c.set s.2.1.toNat (h++g),s,())=some (.inl (c.set s.2.1.toNat (h++a6p sign s.2.2.1 k g),()))
  else ∃c',x0r a6j (sign,(h.length:Int),c.set s.2.1.toNat (h++g),s,())=some (.inr (false,c',())):=by
 have hb:s.2.1.toNat<c.length:=by omega
 have F:∀r,(c.set s.2.1.toNat r).getD s.2.1.toNat []=r:=fun r=>a5H _ hb _ _;have E:∀r,(c.set s.2.1.toNat r).getD s.1.toNat []=xs:=fun r=>by grind
 have d:∀r,r.length=n→((c.set s.2.1.toNat r).getD 0 []).length=n:=fun r V=>by
  by_cases l:s.2.1.toNat=0
  grind
  rw[a4l _ (Ne.symm l)]
  grind[a3D]
 have w:decide ((0:Int)<(c.length:Int))=true:=by grind
 have O:decide ((0:Int)≤s.1)=true:=by simp_all
 have z:decide (s.1<(c.length:Int))=true:=by simp_all
 have P:decide ((0:Int)≤s.2.1)=true:=by simp_all
 have A:decide (s.2.1<(c.length:Int))=true:=by simp_all
 intro k
 induction k with
 |nil=>
  intro g j h u hp q _ _;have e:g=[]:=a39.1 q.symm;subst e;have B:h.length=n:=by simp_all
  have l:=d (h++[]) (by simp_all);rw[if_pos (by rfl)];refine a0D ?_
  simp only[a6j,a60,w,cT,l,B,dge,cF];rfl
 |cons x k v=>
  intro g j h u hp q a b;cases g with
  |nil=>simp_all
  |cons y g=>
   simp only[a17,bA]at a b;have i:(h++y::g).length=n:=by grind
   have o:h.length<n:=by grind
   have Q:a34 xs (a22 (h.length:Int)) 0=x:=by rw[tN,←hp,←u];simp
   have R:a34 (h++y::g) (a22 (h.length:Int)) 0=y:=by simp
   have M:decide ((0:Int)≤(h.length:Int))=true:=by simp
   have N:decide ((h.length:Int)<(n:Int))=true:=dlt o;have l:=d _ i;have hv:=c4x p D a.1 b.1;have X:wrap .i64 ((h.length:Int)+1)=((h.length+1:Nat):Int):=a0C (by omega);have I:a6p sign s.2.2.1 (x::k) (y::g)=a2i sign s.2.2.1 x y::a6p sign s.2.2.1 k g:=rfl;have t:a43 (c.set s.2.1.toNat (h++y::g)) s.2.1.toNat (a43 (h++y::g) (a22 (h.length:Int)) (a2i sign s.2.2.1 x y))=c.set s.2.1.toNat (h++a2i sign s.2.2.1 x y::g):=by
    simp
   have m:(h++a2i sign s.2.2.1 x y::g).length=n:=by simp_all
   have S:a34 (h++a2i sign s.2.2.1 x y::g) (a22 (h.length:Int)) 0=a2i sign s.2.2.1 x y:=by simp
   have f:a6j (sign,(h.length:Int),c.set s.2.1.toNat (h++y::g),s,()) =
     bif !(a0A (a2i sign s.2.2.1 x y))then some (.inr (Sum.inr (false,c.set s.2.1.toNat (h++a2i sign s.2.2.1 x y::g),())))
     else some (.inl (sign,((h.length+1:Nat):Int),c.set s.2.1.toNat (h++a2i sign s.2.2.1 x y::g),s,())):=by
    simp_all[a6j,a1T]
   cases hwv:a0A (a2i sign s.2.2.1 x y)with
   |false=>
    simp_all[a0D]
   |true=>
    rw[hwv]at f;have v:=v g (j++[x]) (h++[a2i sign s.2.2.1 x y]) (by simp_all) (by simp[hp]) (by simp_all) a.2 b.2;rw[a0E f,I];simp_all
theorem c7l{c:List (List Int)}{n:Nat}(k:a2p c n)(p:n≤5000){s:a0R}(q:a1z (c.length:Int) s=true){sign:Int}(a:sign=1∨sign=-1):
  ∃b f,b4E (c,s,sign)=some (b,f)∧match a2M sign s c with|some r=>b=true∧f=r|none=>b=false:=by
 obtain⟨a1,e,j,l,u,m,o⟩:=a2h.1 q;have d:=a3D k (i:=s.1.toNat) (by omega);have t:=a3D k (i:=s.2.1.toNat) (by omega);have hb:s.2.1.toNat<c.length:=by omega
 have g:c.set s.2.1.toNat (c.getD s.2.1.toNat [])=c:=by
  simp_all
 have:=c9c k p a ⟨m,o⟩ a1 e j l (by omega) (rfl:c.getD s.1.toNat []=_) d.1 (c.getD s.1.toNat []) (c.getD s.2.1.toNat []) [] [] rfl rfl (by omega) d.2 t.2
 rw[a08,g]at this;simp only[a07,nZ,a08,a31]at this;unfold b4E a2M
 by_cases hA:(a6p sign s.2.2.1 (c.getD s.1.toNat []) (c.getD s.2.1.toNat [])).all a0A=true
 simp_all;rw[if_neg hA]at this⊢;obtain⟨f,h⟩:=this;simp_all
theorem b8G{n N:Nat}(f:n≤5000){l:List a0R}(j:l.length≤16)(e:l.all (a1z (N:Int))=true):∀(k:Nat)(c:List (List Int)),k≤l.length→a2p c n→c.length=N→
  x0r a5S (l,(k:Int)-1,c,())=some (match a6O (l.take k) c with|some r=>Sum.inl (r,())|none=>Sum.inr ([],6,()))
 |0,c,_,_,_=>a0D rfl
 |k+1,c,hk,hc,hcl=>by
  have i:k<l.length:=by omega
  have a:a1z (c.length:Int) l[k]=true:=by grind
  obtain⟨b,h,o,g⟩:=c7l hc f a (sign:=-1) (.inr rfl);rw[a27 i,b6U];rw[show((k+1:Nat):Int)-1=((k:Nat):Int)from by omega];have d:decide (((k:Nat):Int)≥0)=true:=by simp
  have w:wrap .i64 (((k:Nat):Int)-1)=((k:Nat):Int)-1:=a0H (by omega);cases hst:a2M (-1) l[k] c with
  |none=>
   simp_all[a0D,a5S,a0B]
  |some r=>
   rw[hst]at g;obtain⟨rfl,rfl⟩:=g;obtain⟨m,p⟩:=b1p hc a hst;rw[a0E (s':=(l,((k:Nat):Int)-1,h,())) (by
    simp_all[a5S,a0B])]
   rw[b8G f j e k h (by omega) m (by omega)];rfl
theorem c1K(c:List (List Int))(l:List a0R):a8L (c,l)=some (if a1B c∧a2L l (c.length:Int)then b6T (a6O l c)else([],1)):=by
 unfold a8L;simp only[c5q,oB]
 by_cases hq:a1B c∧a2L l (c.length:Int)
 have g:=c2o hq.1;have h:=hq.2;rw[decide_eq_true hq,if_pos hq]
 simp
 rw[c3u g (by have:=hq.1.2.2.1;omega) (by have:=hq.1.2.1;omega)]
 have:=b8G (N:=c.length) (by have:=hq.1.2.2.1;omega:(c.headD []).length≤5000) h.2.2.1 h.2.2.2 l.length c (a32 _) g rfl
 rw[a57]at this
 simp
 rw[a0H (n:=((l.length:Nat):Int)-1) (by have:=h.2.2.1;omega),this];cases a6O l c<;>rfl
 grind
theorem c2q(f:a1l):a9A f=some (decide (frP f)):=by
 unfold a9A;simp only[c4J,b6e,oB]
 by_cases h0:b5y f.2.2.1
 rotate_left;rw[decide_eq_false h0,decide_eq_false (fun h:frP f=>h0 h.1)];rfl
 by_cases h1:1≤f.2.1
 rotate_left;rw[decide_eq_true h0,decide_eq_false (fun h:f.2.1≥1=>h1 h),decide_eq_false (fun h:frP f=>h1 h.2.1)];rfl
 by_cases h2:f.2.1≤4096
 rotate_left;rw[decide_eq_true h0,decide_eq_true (show f.2.1≥1 from h1),decide_eq_false h2,decide_eq_false (fun h:frP f=>h2 h.2.2.1)];rfl
 by_cases h3:0≤f.1
 rotate_left;rw[decide_eq_true h0,decide_eq_true (show f.2.1≥1 from h1),decide_eq_true h2,decide_eq_false (fun h:f.1≥0=>h3 h),decide_eq_false (fun h:frP f=>h3 h.2.2.2.1)];rfl;rw[a0H (n:=4194304-f.2.1) (by omega)]
 by_cases h4:f.1≤4194304-f.2.1
 rotate_left;rw[decide_eq_true h0,decide_eq_true (show f.2.1≥1 from h1),decide_eq_true h2,decide_eq_true (show f.1≥0 from h3),decide_eq_false h4,decide_eq_false (fun h:frP f=>h4 h.2.2.2.2.1)];rfl;rw[decide_eq_true h0,decide_eq_true (show f.2.1≥1 from h1),decide_eq_true h2,decide_eq_true (show f.1≥0 from h3),decide_eq_true h4];simp only[cT];congr 1;exact decide_eq_decide.2 ⟨fun h=>⟨h0,h1,h2,h3,h4,h⟩,fun h=>h.2.2.2.2.2⟩
theorem b6f(f:a1l)(c:f.2.2.2.2.1.length≤8):∀(rest done:List Sub)(rows:List (List Int)),done++rest=f.2.2.2.2.1→rows.length=done.length→(∀s∈rest,SmallS s)→
  x0r a3d ((done.length:Int),rows,a7i,f,())=some (match a4L (fun s=>a1o s f.2.1) rest with|some rs=>Sum.inl (rows++rs,a7i,f,())|none=>Sum.inr (false,a7i,()))
 | [],done,rows,hd,hr,_=>by
  have e:f.2.2.2.2.1.length=done.length:=by rw[←hd];simp
  rw[a0D (b:=Sum.inl (rows,a7i,f,())) (by simp only[a3d,e,dge,cF])];simp[a4L]
 |s::rest,done,rows,hd,hr,h=>by
  have d:=h s (by simp);have k:done.length<f.2.2.2.2.1.length:=by rw[←hd];simp
  have a:l0z f.2.2.2.2.1 (done.length:Int)=some s:=by rw[a0B k];congr 1;simp[←hd]
  have g:=b7n d f.2.1;simp only[a4L];cases ho:a1o s f.2.1 with
  |none=>
   rw[ho]at g;exact a0D (by simp only[a3d,dlt k,cT,a,oB,g,a02];rfl)
  |some r=>
   rw[ho]at g;rw[a0E (s':=((((done++[s]).length:Nat):Int),rows++[r],a7i,f,())) (by
    simp only[a3d,dlt k,cT,a,oB,g,bT,cF,a1a (show rows.length+1<2147483648 by omega),a0C (show done.length<1000000 by omega)]
    simp)]
   rw[b6f f c rest (done++[s]) (rows++[r]) (by simpa using hd) (by simp[hr]) (fun t i=>h t (by simp[i]))];simp only[oB];cases a4L (fun s=>a1o s f.2.1) rest<;>simp
def c9V:Option a1L→a1L×Bool
 |some b=>(b,true)
 |none=>(a7i,false)
theorem b8H{f:a1l}(a:∀s∈f.2.2.2.2.1,SmallS s):a4I f=some (c9V (a4c f)):=by
 unfold a4I a4c;simp only[c2q,oB]
 by_cases hf:frP f
 rotate_left;simp only[hf,decide_false,a02,cT,oB,false_and,if_false];rfl
 by_cases hl:((f.2.2.2.2.1.length:Nat):Int)=f.2.2.1.2.1
 rotate_left;have e:(((f.2.2.2.2.1.length:Nat):Int) != f.2.2.1.2.1)=true:=by simpa using hl
 simp only[hf,decide_true,bT,cF,oB,e,cT,hl,and_false,if_false];rfl;have e:(((f.2.2.2.2.1.length:Nat):Int) != f.2.2.1.2.1)=false:=by simpa using hl
 have k:f.2.2.2.2.1.length≤8:=by have:=hf.1.2.2.2.1;omega
 have h:=b6f f k f.2.2.2.2.1 [] [] rfl rfl a;rw[a07]at h;rw[if_pos ⟨hf,hl⟩];simp only[hf,decide_true,bT,cF,oB,e]
 erw[h]
 cases hm:a4L (fun s=>a1o s f.2.1) f.2.2.2.2.1 with
 |none=>rfl
 |some rs=>
  simp only[oB,a08,c1K]
  by_cases hq:a1B rs∧a2L f.2.2.2.1 (rs.length:Int)
  ·simp only[if_pos hq];cases hu:a6O f.2.2.2.1 rs with
   |none=>rfl
   |some ch=>
    have g:((0:Int) != 0)=false:=rfl;simp only[b6T,g,cF,c1F,oB]
    by_cases hb:a2N (f.2.2.1.2.2.1,ch,())
    simp only[hb,decide_true,bT,cF,if_true];rfl;simp only[hb,decide_false,a02,cT,if_false];rfl
  simp only[if_neg hq];rfl
theorem c7m{f:a1l}(h:∀s∈f.2.2.2.2.1,SmallS s):a8M f=some (a4c f).isSome:=by
 unfold a8M;rw[b8H h];cases a4c f<;>rfl
theorem b6g(l:List Int)(i:Int):∀(j k:Nat)(s:Int),k+j=8→0≤s∧s<256→x0r b2Z (l,s,i,(k:Int),())=some (l,rep e8 j s,i,())
 |0,k,s,h,_=>by
  obtain rfl:k=8:=by omega
  rfl
 |j+1,k,s,h,hs=>by
  have d:decide ((k:Int)<8)=true:=by grind
  have e:decide (s≥128)=(z0h .u8 s 7==(1:Int)):=by
   obtain⟨n,rfl⟩:=a16 hs.1;have e:z0h .u8 (n:Int) 7=((n / 128:Nat):Int):=by
    show Int.fdiv (n:Int) ((128:Nat):Int)=_
    grind
   grind
  rw[a0E (s':=(l,e8 s,i,((k+1:Nat):Int),())) (by
   simp only[b2Z,d,cT,a0C (show k<1000000 by omega),e8,e]
   grind)]
  exact b6g l i j (k+1) (e8 s) (by omega) (c8V s)
theorem b4q(l:List Int)(i:Int):∀(j k:Nat)(s:Int),k+j=8→0≤s∧s<65536→x0r b1b (l,s,i,(k:Int),())=some (l,rep e16 j s,i,())
 |0,k,s,h,_=>by
  obtain rfl:k=8:=by omega
  rfl
 |j+1,k,s,h,hs=>by
  have d:decide ((k:Int)<8)=true:=by grind
  have e:decide (s≥32768)=(z0h .u16 s 15==(1:Int)):=by
   obtain⟨n,rfl⟩:=a16 hs.1;have e:z0h .u16 (n:Int) 15=((n / 32768:Nat):Int):=by
    show Int.fdiv (n:Int) ((32768:Nat):Int)=_
    grind
   grind
  rw[a0E (s':=(l,e16 s,i,((k+1:Nat):Int),())) (by
   simp only[b1b,d,cT,a0C (show k<1000000 by omega),e16,e]
   grind)]
  exact b4q l i j (k+1) (e16 s) (by omega) (c2Q s)
theorem c5r(a b:Int):0≤bits .u8 .xor a b∧bits .u8 .xor a b<256:=by
 grind[bits,a5x]
theorem c4K{l:List Int}(h:short l):b3w l=some (c7d l):=by
 have:=a0X (f:=a9G) (β:=Int×Unit) l (fun i (a:Int)=>(l,a,(i:Int),())) (fun a x=>.inl (g8 a x)) (fun _ _=>True) (fun a=>(a,()))
  (fun i k a _=>⟨fun c g=>by
   simp at g;subst g
   have:=b6g l (i:Int) 8 0 (bits .u8 .xor a l[i]) rfl (c5r _ _)
   simp at this;refine⟨?_,trivial⟩;simp only[a9G,dlt k,cT,a0B k,oB,this,a0C (a38 k h),g8],fun b hb=>by grind⟩)
  (fun a d=>by simp_all[a9G]) (a:=0) trivial
 unfold b3w;simp at this;rw[this,b1O];rfl
theorem c2r{l:List Int}(h:short l):b1c l=some (b4W l):=by
 have:=a0X (f:=a7Q) (β:=Int×Unit) l (fun i (a:Int)=>(l,a,(i:Int),())) (fun a x=>.inl (g16 a x)) (fun _ _=>True) (fun a=>(a,()))
  (fun i k a _=>⟨fun c g=>by
   simp at g;subst g
   have:=b4q l (i:Int) 8 0 (bits .u16 .xor a (z0g .u16 (wrap .u16 l[i]) 8)) rfl (c4H _ _)
   simp at this;refine⟨?_,trivial⟩;simp only[a7Q,dlt k,cT,a0B k,oB,this,a0C (a38 k h),g16],fun b hb=>by grind⟩)
  (fun a d=>by simp_all[a7Q]) (a:=0) trivial
 unfold b1c;simp at this;rw[this,b1O];rfl
theorem c9d{v:Int}(h:0≤v∧v<65536):b6o (v,2)=some [v / 256,v%256]:=by
 obtain⟨n,rfl⟩:=a16 h.1;have g:wrap .u8 (z0h .u64 (n:Int) 8)=(n:Int) / 256:=by
  grind[z0h,a4i,a5x]
 have f:wrap .u8 (z0h .u64 (n:Int) 0)=(n:Int)%256:=by
  simp_all[z0h,a5x]
 have k:a9i ((n:Int),(1:Int),([]:List Int),())=some (.inl ((n:Int),(0:Int),[(n:Int) / 256],())):=by
  simp only[a9i,show decide ((1:Int)≥0)=true from rfl,cT,show wrap .u64 (wrap .i64 (8*1))=8 from rfl,show decide ((8:Int)<0)=false from rfl,cF,a1a (show([]:List Int).length+1<2147483648 by simp),g];rfl
 have a:a9i ((n:Int),(0:Int),[(n:Int) / 256],())=some (.inl ((n:Int),(-1:Int),[(n:Int) / 256,(n:Int)%256],())):=by
  simp only[a9i,show decide ((0:Int)≥0)=true from rfl,cT,show wrap .u64 (wrap .i64 (8*0))=0 from rfl,show decide ((0:Int)<0)=false from rfl,cF,a1a (show([(n:Int) / 256]:List Int).length+1<2147483648 by simp),f];rfl
 unfold b6o;rw[show wrap .i64 (u0z (v0a (2:Int) 8) 0-1)=1 from rfl,a0E k,a0E a,a0D (b:=([(n:Int) / 256,(n:Int)%256],())) rfl];rfl
theorem d0X{L:List Int}(h:a1K L)(c:L.length%8≠0):(wL (L++[0])).1=(wL L).1:=by
 obtain⟨k,b⟩:=a6I L;have f:=(d0P h).1 (L.length / 8);rw[b5T];unfold b8q;simp only[];rw[k,if_neg (by omega),show(((L.length:Nat):Int) / 8).toNat=L.length / 8 from by rfl];have a:z0g .u8 0 (7-((L.length:Nat):Int)%8)=0:=by
  unfold z0g;rw[Int.zero_mul];rfl
 rw[a];generalize hx:(wL L).1.getD (L.length / 8) 0=x at f⊢;have g:bits .u8 .or x 0=x:=by
  obtain⟨n,rfl⟩:=a16 f.1
  grind[or8]
 rw[g,←hx];apply a25
 grind
theorem c4L:∀(k:Nat){L:List Int},a1K L→b6S L.length=k→(wL (L++a06 k 0)).1=(wL L).1
 |0,L,_,_=>by simp
 |k+1,L,h,hk=>by
  have g:L.length%8≠0:=by intro e;unfold b6S at hk;omega
  have hb:a1K (L++[0]):=h.app fun b hb=>.inl (by simpa using hb);have f:=c4L k (L:=L++[0]) hb (by unfold b6S at hk⊢;rw[lN,a09];omega);rw[a51,show L++(0:Int)::a06 k 0=(L++[0])++a06 k 0 from by simp,f];exact d0X h g
theorem c9e{L:List Int}(h:a1K L):a3N L=(wL L).1:=c4L _ h rfl
theorem b9E{f:a1l}:∀(rest done:List PZ)(L:List Int),(done++rest).map (·.1)=f.2.2.2.2.1→(∀p∈rest,c7g f.2.1 p)→L.length+700000*rest.length<40000000→(done++rest).length≤8→
  x0r a5W ((done.length:Int),(L,()),f,())=some ((L++a0S rest,()),f,())
 | [],done,L,hd,_,_,_=>by
  have e:f.2.2.2.2.1.length=done.length:=by grind
  simp_all[a0D,a5W,a0S]
 |p::rest,done,L,hd,h,hL,h8=>by
  rw[lC]at hL;simp at h8;obtain⟨a,c⟩:=c4I (h p (by simp)) (L:=L) (by omega);have g:done.length<f.2.2.2.2.1.length:=by grind
  have b:l0z f.2.2.2.2.1 (done.length:Int)=some p.1:=by grind[a0B]
  have k:=b9E rest (done++[p]) (L++b1P p.1 p.2) (by simp_all) (fun q d=>h q (by grind)) (by grind) (by simp_all);rw[a0E (s':=((((done++[p]).length:Nat):Int),(L++b1P p.1 p.2,()),f,())) (by
   simp only[a5W,dlt g,cT,b,oB,a,a0C (show done.length<1000000 by omega)]
   simp)]
  rw[k];simp[a0S]
theorem c3v{f:a1l}(a:∀s∈f.2.2.2.2.1,SmallS s):∃p e,a5F f=some (p,e)∧a6k f=some (p,e):=by
 have l:=c8a a;have m:=c7m a;cases hb:a4c f with
 |none=>
  simp_all[a5F,a6k]
 |some b=>
  rw[hb]at l m;obtain⟨k,u,j⟩:=c4C hb;have q:f.2.2.2.2.1.length≤8:=by have:=k.1.2.2.2.1;omega
  obtain⟨g,z,w,x,A,y⟩:=c4w l k q (fun s o=>⟨a s o,j s o⟩);have v:g.length≤8:=by grind
  refine⟨_,_,y,?_⟩;have h:=b9E (f:=f) g [] [] (by simp_all) w (by grind) (by simp_all);have r:=c4v k x;have c:=c9e (c7Y g);simp at h;have t:=c1B k (body:=(a3N (a0S g)).length) (by omega);have i:=b9B (b1Q f (a0S g));have d:(Ab.hb f (a3N (a0S g)).length++[c7d (Ab.hb f (a3N (a0S g)).length)])++a3N (a0S g)=b1Q f (a0S g):=rfl;unfold a6k;rw[m];simp only[a54,bT,cF,oB];rw[h];simp only[oB,c3Z (show(a0S g).length<1000000000 by omega),←c,c5p k (show(a3N (a0S g)).length≤1048576 by omega),c4K (show short (Ab.hb f (a3N (a0S g)).length)by unfold short;omega),a04];rw[a1a (by omega),cT,a1a (by grind),cT,d,c2r (show short (b1Q f (a0S g))by unfold short;omega)];simp only[oB,a0M (n:=b4W (b1Q f (a0S g))) (by omega),c9d i];rw[a1a (by grind),cT];rfl
theorem b9F{f:a1l}(c:∀s∈f.2.2.2.2.1,s.2.2.2.2.2.2.1.length=3){m:Nat}(b:m≤5000):∀(k i:Nat),i+k=min f.2.2.2.2.1.length 10→(∀j (h:j<f.2.2.2.2.1.length),j<i→SmallS f.2.2.2.2.1[j])→
  x0r a1G ((m:Int),(i:Int),f,())=some (.inr (false,()))∨(x0r a1G ((m:Int),(i:Int),f,())=some (.inl (f,()))∧∀j (h:j<f.2.2.2.2.1.length),j<10→SmallS f.2.2.2.2.1[j])
 |0,i,hi,hs=>by
  refine .inr ⟨a0D ?_,fun j h e=>hs j h (by omega)⟩
  by_cases g:i<f.2.2.2.2.1.length
  have d:decide ((i:Int)<10)=false:=by grind
  simp only[a1G,dlt g,cT,d,cF];have d:decide ((i:Int)<((f.2.2.2.2.1.length:Nat):Int))=false:=by simp_all
  simp only[a1G,d,cF]
 |k+1,i,hi,hs=>by
  have g:i<f.2.2.2.2.1.length:=by omega
  have d:decide ((i:Int)<10)=true:=by grind
  obtain⟨t,a,l⟩:=c7i f.2.2.2.2.1[i] m b (c _ (a01 g));have w:=a0C (show i<1000000 by omega);cases t with
  |false=>simp_all[a0D,a1G,a0B]
  |true=>
   have n:=(l rfl).1;have next:=b9F c b k (i+1) (by omega) (fun j h o=>by
    grind)
   cases h0:(f.2.2.2.2.1[i].1==(0:Int))with
   |false=>
    rw[a0E (s':=((m:Int),((i+1:Nat):Int),f,())) (by simp only[a1G,dlt g,cT,d,a0B g,oB,a,bT,cF,h0,w])];omega
   |true=>
    cases h4:decide (f.2.1 > 400)with
    |false=>
     rw[a0E (s':=((m:Int),((i+1:Nat):Int),f,())) (by simp only[a1G,dlt g,cT,d,a0B g,oB,a,bT,cF,h0,h4,w])];omega
    |true=>
     cases h5:decide (f.2.1≤4096)with
     |false=>
      rw[a0E (s':=((m:Int),((i+1:Nat):Int),f,())) (by simp only[a1G,dlt g,cT,d,a0B g,oB,a,bT,cF,h0,h4,h5,w])];omega
     |true=>simp_all[a0D,a1G,a0B]
theorem c8d{f:a1l}(a:∀s∈f.2.2.2.2.1,s.2.2.2.2.2.2.1.length=3){m:Nat}(k:m≤5000):∃t,b2j (f,(m:Int))=some t∧(t=true→(∀s∈f.2.2.2.2.1,SmallS s)∧f.2.2.2.2.1.length≤10∧f.2.2.2.1.length≤20):=by
 unfold b2j;have h:=b9F a k (min f.2.2.2.2.1.length 10) 0 (by omega) (fun j _ h=>by omega);simp at h;rcases h with h|⟨h,c⟩;simp_all;rw[h];simp only[oB]
 by_cases h10:((f.2.2.2.2.1.length:Nat):Int)≤10
 rw[decide_eq_true h10];simp only[cT];refine⟨_,rfl,fun h=>⟨fun s g=>?_,by omega,?_⟩⟩;obtain⟨j,b,rfl⟩:=a49.1 g
 grind
 grind
 rw[decide_eq_false h10];simp
theorem c8e(l:List Int):b4G (l,l)=some true:=by
 simp_all[b4G]
theorem c2s(f:a1l)(i:∀s∈f.2.2.2.2.1,s.2.2.2.2.2.2.1.length=3):a9N f=some true:=by
 unfold a9N;simp only[d0S,oB,bT,cF];obtain⟨l,c,j⟩:=c8d i (m:=100) (by omega);rw[show((100:Nat):Int)=100 from rfl]at c;simp only[c,oB];cases l with
 |false=>rfl
 |true=>
  obtain⟨g,-,-⟩:=j rfl;obtain⟨p,e,k,a⟩:=c3v g;simp[c4B g,b8H g,k,a,c8a g,c8e];cases hb:a4c f with
  |none=>
   rfl
  |some b=>
   have h:a2N b:=by
    grind[a4c,a03]
   simp only[d1W,c9V,a54,bne_self_eq_false,cF,oB];rw[c2p (b:=b) (fun r d=>by
    have:=lA.1 h.2.2.2.2.2.2 r d
    simp only[bA,dT]at this;have n:=h.2.2.2.2.2.1;unfold short;omega) (by have:=h.2.2.2.1;omega)]
   rfl
end Go.Ab
namespace Go.Proofs.YtimgpmdfgkgobaaGreatDoor
open Go.Ab Go.ChangeShapes Go.WideShapes Go.ChangeAt Go.RowKit
theorem b8I{α:Type}{f:Nat→Option (α×b0a×List Nat)}:∀(L:List α)(i:Nat),(∀(j:Nat) x,L[j]?=some x→f (i+j)=some (x,[],[]))→a0c f L.length i=some (L,[],[])
 | [],_,_=>rfl
 |a::L,i,h=>by
  have g:=h 0 a rfl;have k:=b8I L (i+1) (fun j x b=>by have:=h (j+1) x (by simpa using b);rw[←this];congr 1;omega);simp only[lC,a0c];simp only[a55]at g;rw[g,k];rfl
section
variable {H:Type} {enc:TypeId×Value→H} {P:Program} {w:World} {base:Nat} {spare:Nat→Bool} {held:Bool}
theorem c3w{k:IntKind}{n:Nat}{t e:TypeId}{fuel:Nat}{cs:List Value}{L:List Int}{p:List MemPlace}(B:P.underlying t=some (.array n e))(u:P.underlying e=some (.int k))(s:P.cellsOf e=1)
  (h:DataW.trod enc P w base spare held fuel t cs=some (.agg (L.map fun i=>.lit (.int k i)),p)):L.length=n∧∀(j:Nat) x,L[j]?=some x→cs[j]?=some (.int k x):=by
 obtain⟨C,m,rfl,b,-,A,a⟩:=DataW.trod_array B h;simp only[pJ,DataW.agg.injEq]at b;have z:L.length=n:=by rw[←A];simpa using congrArg List.length b.1
 refine⟨z,fun j x c=>?_⟩;obtain⟨v,-⟩:=lS.1 c;have g:=a j (by omega);rw[s]at g;obtain⟨y,d⟩:∃y,C[j]?=some y:=⟨_,lG (by omega)⟩;rw[d]at g;obtain⟨i,o,q,-⟩:=DataW.trod_int u g;have f:=congrArg (fun l=>l[j]?) b.1;simp only[List.getElem?_map,c,d,Option.map_some,q]at f;simp only[sj,DataW.lit.injEq,Lit.int.injEq,true_and]at f;subst f;have r:=congrArg (fun l=>l[0]?) o;simpa[a53,a23]using r
end
def c5L : String := (Rows.frameTellsRow.laid.map Prod.fst).headD ""
theorem d7V:Tryz.prog.globalNamed c5L=some 0:=by kernel_rfl
def c9f:TypeId:=((Tryz.prog.globals[0]?).map (·.type)).getD 0
theorem d0Y:(Tryz.prog.globals[0]?).map (·.type)=some c9f:=by kernel_rfl
def c9g:TypeId:=match Tryz.prog.underlying c9f with
 |some (.array _ e)=>e
 |_=>0
theorem d7W:Tryz.prog.underlying c9f=some (.array 64 c9g):=by kernel_rfl
theorem d3Y:Tryz.prog.underlying c9g=some (.int .u8):=by kernel_rfl
theorem d3Z:Tryz.prog.cellsOf c9g=1:=by kernel_rfl
@[reducible] def laidTab:List (String×DataW Unit):=[(c5L,Rows.laid_math_bits_deBruijn64tab)]

theorem d1Z {g:Nat} {t:Ty} {x:t.den} (h:G0 g=some ⟨t,x⟩):g=0∧(⟨t,x⟩:(t:Ty)×t.den)=⟨.arr 64 (.int .u8),b1R⟩:=by
 unfold G0 find at h
 cases g with
 |zero=>exact⟨rfl,(Option.some.inj h).symm⟩
 |succ n=>exact absurd h (by simp[find])
theorem c4M{W:World}(h:laidMetH Tryz.prog laidTab W):∀g t x,G0 g=some ⟨t,x⟩→g<W.heap.size∧dec (a0a W none) t ((Src.at g 0).rd (a0a W none))=some (x,[],[]):=by
 rw[MakeChecks.laidMetH_plain _ _ _ (by kernel_rfl)]at h;obtain⟨ps,⟨r,w,m,q,u,v,b,c,d,a,_⟩,_,_⟩:=h;obtain rfl:=Option.some.inj (d7V.symm.trans b);obtain rfl:=Option.some.inj (d0Y.symm.trans c);have n:(Rows.laid_math_bits_deBruijn64tab:DataW Unit)=.agg (b1R.map fun i=>.lit (.int .u8 i)):=rfl;rw[n]at a;obtain⟨s,p⟩:=c3w d7W d3Y d3Z a;have k:∀(j:Nat) x,b1R[j]?=some x→W.cell? ⟨0,j,none⟩=some (.int .u8 x):=fun j x l=>by
  rw[World.var?_cell b d j];simpa using p j x l
 intro g t x o;obtain⟨rfl,e⟩:=d1Z o;cases e;refine⟨y0k (k 0 0 rfl),?_⟩;exact b8I (f:=fun i=>dec (a0a W none) (.int .u8) fun j=>(Src.at 0 0).rd (a0a W none) (i*1+j)) b1R 0 (fun j x l=>by
  have:=k j x l
  simp only[dec,Src.rd,a0a,Nat.zero_add,Nat.mul_one,a55,this,if_true])
set_option maxRecDepth 100000 in
theorem c9h (os:Os) (args:Array Value):laidMetH Tryz.prog laidTab ((World.doorLaid Tryz.prog 400 os).forCall (fun _ _=>0) ⟨#[],args,[]⟩).memory:=
 laidMetH_of_parts3 (fuel:=8) (laidMet_of_run' 8 (by kernel_rfl) (by kernel_rfl)) (by kernel_rfl) (by kernel_rfl)
end Go.Proofs.YtimgpmdfgkgobaaGreatDoor
