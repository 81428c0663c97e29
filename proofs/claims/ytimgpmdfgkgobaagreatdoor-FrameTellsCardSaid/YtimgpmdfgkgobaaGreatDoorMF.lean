/- Part of the proof: QE. Conditions: as each statement tells. -/
import Derived.KernelRfl
import Derived.Test.YtimgpmdfgkgobaaGreatDoorME
noncomputable section
set_option linter.unusedSimpArgs false
set_option linter.unusedVariables false
open BitVec renaming ofInt→a05,ofInt_natCast→a24,toNat_ofNat→a33,toNat_ofInt→a48,toNat_and→a72,toNat_or→a80
open Bool renaming and_self→a03,not_false→a17,or_eq_true→a18,true_and→a32,not_eq_true'→a41,eq_iff_iff→a78,false_and→a84,and_eq_true_iff→a86,and_false→b09
open Int renaming eq_ofNat_of_zero_le→a01,natCast_dvd_natCast→a27,toNat→a34,tmod_eq_emod_of_nonneg→a37,tdiv_eq_ediv_of_nonneg→a38,tmod→a46,cast_ofNat_Int→a47,dvd_mul_of_dvd_left→a50,mul_nonneg→a61,natCast_nonneg→a65,fdiv_eq_ediv_of_nonneg→a68,tdiv→a69,mul_fdiv_cancel_left→a71,dvd_add_left→a73,toNat_of_nonneg→a89,dvd_zero→a94,sub_mul→b01,not_lt→b08
open List renaming replicate→a00,drop_eq_getElem_cons→a02,getElem_mem→a04,append_eq→a06,length_take→a07,drop_zero→a08,all_cons→a09,drop_length→a16,take_length→a20,length_drop→a21,nil_append→a23,mem_of_mem_take→a25,mem_of_mem_drop→a26,take_of_length_le→a28,zipWith→a31,append_nil→a39,replicate_succ'→a42,sum_cons→a45,take_succ_eq_append_getElem→a51,getElem_zip→a52,eq_nil_or_concat→a53,singleton_append→a54,replicate_zero→a59,set_cons_zero→a63,mem_cons_self→a64,mem_singleton→a66,getElem?_append_right→a67,map_cons→a70,set_append_right→a81,concat_eq_append→a82,mem_append_left→a87,replicate_succ→a88,getElem?_take→a90,mem_replicate→a91,getElem?_drop→a92,getD→a95,take_add_one→a96,cons_append→a98,length_nil→b04,length_zip→b05,set_append→b06,foldl_cons→b07,take→b17
open Nat renaming pow_le_pow_right→a19,lt_trans→a22,two_pow_pos→a29,le_refl→a35,mod_eq_of_lt→a36,div_le_self→a40,mul_le_mul_right→a43,lt_of_le_of_lt→a44,and_two_pow_sub_one_eq_mod→a55,pow_dvd_pow→a56,add_zero→a57,le_of_lt→a58,mod_lt→a60,testBit_two_pow_mul_add→a62,sub_self→a74,mul_comm→a75,pow_succ→a76,div_add_mod→a77,min_eq_left→a79,div_lt_iff_lt_mul→a83,mul_le_mul→a85,one_le_two_pow→a93,or_lt_two_pow→a97,mul_add→a99,mul_one→b00,div_eq_of_lt→b02,lt_of_not_le→b03
open Option renaming map_eq_some_iff→a30,bind_eq_some_iff→a49
namespace Go.Ab
variable {L c d g ks l r row t wm:List Int}{N a b i j m o v w:Nat}{k lag n warm x:Int}{zn:List Nat}{α:Type}
open IntKind(wrap)
def b8k(out:List Int)(lag:Int):List Int→Nat→Int→Int
 | [],_,acc=>acc
 |t::r,i,acc=>b8k out lag r (i+1) (bif decide (0≤(out.length:Int)-lag-1+i)then W (acc+W (t*out.getD ((out.length:Int)-lag-1+i).toNat 0))else acc)
def a5z(lag:Int)(t:List Int)(out:List Int):Int:=z0h .i64 (b8k out lag t 0 0) 6
theorem b6t{out:List Int}{j:Int}(f:0≤j)(h:j<out.length):l0z out j=some (out.getD j.toNat 0):=by
 obtain⟨n,rfl⟩:=a01 f;have g:n<out.length:=by omega
 rw[a0B g,tN,lD,lG g];rfl
theorem c5w{n:Nat}(h:2≤lag)(g:lag≤1024)(k:n<1000000)(f:i<3):
  wrap .i64 (wrap .i64 (wrap .i64 ((n:Int)-lag)-1)+(i:Int))=(n:Int)-lag-1+i:=by
 rw[a0H (n:=(n:Int)-lag) (by omega),a0H (n:=(n:Int)-lag-1) (by omega),a0H (by omega)]
theorem c7v{n:Nat}(h:j<n):(l.take n).getD j 0=l.getD j 0:=by
 simp only[lD,a90,h,if_true]
theorem a8T{l t:List Int}{lag:Int}{n:Nat}(o:n≤l.length)(j:short l)(m:t.length=3)(a:2≤lag)(b:lag≤1024):∀(k i:Nat)(acc:Int),i+k=3→
  x0r a3X (l,(n:Int),lag,acc,t,(i:Int),())=some (b8k (l.take n) lag (t.drop i) i acc,())
 |0,i,acc,h=>by
  obtain rfl:i=t.length:=by omega
  rw[a16];exact a0D (by rw[m];simp[a3X,b8k])
 |k+1,i,acc,h=>by
  have g:i<t.length:=by omega
  have f:decide ((i:Int)<3)=true:=by simp;omega
  have p:l.length<1000000:=j;have d:(l.take n).length=n:=by rw[a07];omega
  have e:=c5w (n:=n) (i:=i) a b (by omega) (by omega);rw[a02 g,b8k,d]
  by_cases hp:0≤(n:Int)-lag-1+i
  have c:decide ((n:Int)-lag-1+i≥0)=true:=by simp;omega
  simp only[hp,decide_true,cT];rw[c7v (show((n:Int)-lag-1+i).toNat<n by omega),a0E (s':=(l,(n:Int),lag,W (acc+W (t[i]*l.getD ((n:Int)-lag-1+i).toNat 0)),t,((i+1:Nat):Int),())) (by
   simp only[a3X,f,cT,a0B g,oB,e,c,b6t hp (show(n:Int)-lag-1+(i:Int)<(l.length:Int)by omega),a0C (show i<1000000 by omega)])]
  exact a8T o j m a b k (i+1) _ (by omega);have c:decide ((n:Int)-lag-1+i≥0)=false:=by simp;omega
  simp only[hp,decide_false,cF];rw[a0E (s':=(l,(n:Int),lag,acc,t,((i+1:Nat):Int),())) (by
   simp only[a3X,f,cT,a0B g,oB,e,c,cF,a0C (show i<1000000 by omega)])]
  exact a8T o j m a b k (i+1) _ (by omega)
theorem b4L{n:Nat}(f:n≤l.length)(k:short l)(a:t.length=3)(h:2≤lag)(g:lag≤1024):
  a4o (l,(n:Int),lag,t)=some (a5z lag t (l.take n)):=by
 have:=a8T (t:=t) f k a h g 3 0 0 (by omega)
 simp only[nZ,a08]at this;unfold a4o;simp only[this,oB,a5z]
theorem c0R{out:List Int}(f:short out)(k:t.length=3)(h:2≤lag)(g:lag≤1024):a4o (out,(out.length:Int),lag,t)=some (a5z lag t out):=by
 rw[b4L (a35 _) f k h g,a20]
theorem a8j{out t:List Int}{lag:Int}(d:short out)(l:t.length=3)(a:2≤lag)(b:lag≤1024):∀(k i:Nat)(acc:Int),i+k=3→
  x0r a3x (out,lag,acc,(i:Int),t,())=some (b8k out lag (t.drop i) i acc,())
 |0,i,acc,h=>by
  obtain rfl:i=t.length:=by omega
  rw[a16];exact a0D (by rw[l];simp[a3x,b8k])
 |k+1,i,acc,h=>by
  have f:i<t.length:=by omega
  have g:decide ((i:Int)<3)=true:=by simp;omega
  have j:out.length<1000000:=d;have e:=c5w (i:=i) a b j (by omega);rw[a02 f,b8k]
  by_cases hp:0≤(out.length:Int)-lag-1+i
  have c:decide ((out.length:Int)-lag-1+i≥0)=true:=by simp;omega
  simp only[hp,decide_true,cT];rw[a0E (s':=(out,lag,W (acc+W (t[i]*out.getD ((out.length:Int)-lag-1+i).toNat 0)),((i+1:Nat):Int),t,())) (by
   simp only[a3x,g,cT,a0B f,oB,e,c,b6t hp (show(out.length:Int)-lag-1+(i:Int)<(out.length:Int)by omega),a0C (show i<1000000 by omega)])]
  exact a8j d l a b k (i+1) _ (by omega);have c:decide ((out.length:Int)-lag-1+i≥0)=false:=by simp;omega
  simp only[hp,decide_false,cF];rw[a0E (s':=(out,lag,acc,((i+1:Nat):Int),t,())) (by
   simp only[a3x,g,cT,e,c,cF,a0C (show i<1000000 by omega)])]
  exact a8j d l a b k (i+1) _ (by omega)
theorem b9K{out:List Int}(f:short out)(k:t.length=3)(h:2≤lag)(g:lag≤1024):a7K (out,lag,t)=some (a5z lag t out):=by
 have:=a8j (out:=out) (t:=t) f k h g 3 0 0 (by omega)
 simp only[nZ,a08]at this;unfold a7K;simp only[this,oB,a5z]
def b2p(rest:List Int)(lag:Int)(t:List Int):Option (List Int):=bif rest.all a0A then a2I (a5z lag t) rest []else none
theorem c3N{rest:List Int}(j:a7R lag t=true)(l:t.length=3)(p:rest.length<100000):b1V (rest,lag,t)=some (a2t (b2p rest lag t)):=by
 have g:=j;simp only[a7R,bA,dT]at g;have k:short rest:=by unfold short;omega
 unfold b1V;simp only[b5n l,j,oB,bT,cF,b4I k,b2p];cases hw2:rest.all a0A with
 |false=>rfl
 |true=>
  have n:(0:Int)≤((rest.length:Nat):Int):=by omega
  simp only[bT,cF,cT,n,decide_true,tN,a0L k,a03]
  have:=a0X (f:=a8t) rest (fun i out=>(lag,rest,(rest.length:Int),(i:Int),out,t,())) (a7S (a5z lag t) (Sum.inr ((6:Int),([]:List Int),())))
   (fun i out=>out.length=i) (fun out=>Sum.inl (out,()))
   (fun i h out o=>by
    have d:i<1000000:=by omega
    have e:short out:=by unfold short;omega
    have hp:=c0R (out:=out) (t:=t) (lag:=lag) e l g.1 g.2.1;rw[o]at hp;simp only[a8t,dlt h,cT,a0B h,oB,hp,a8i,a7S];cases hb:a0A (W (rest[i]+a5z lag t out))with
    |true=>
     simp only[cT,bT,cF,a0L (show out.length+1<1000000 by omega),a0C d];refine⟨fun m c=>?_,fun b hb=>(by cases hb)⟩;simp only[Sum.inl.injEq]at c;subst c;exact⟨rfl,by simp;omega⟩
    |false=>
     refine⟨fun m c=>(by cases c),fun b hb=>?_⟩;simp only[cF,Sum.inr.injEq]at hb;subst hb;rfl)
   (fun out _=>by simp[a8t]) (a:=[]) rfl
  simp only[nZ,a6G]at this;rw[this];cases a2I (a5z lag t) rest []<;>rfl
theorem c0S{rest t:List Int}{lag:Int}(j:a7R lag t=true)(l:t.length=3)(o:rest.length<100000):a8K (rest,lag,t)=some (a2t (b2p rest lag t)):=by
 have g:=j;simp only[a7R,bA,dT]at g;have e:short rest:=by unfold short;omega
 unfold a8K;simp only[b5N l,j,oB,bT,cF,a1r e,b2p];cases hw2:rest.all a0A with
 |false=>rfl
 |true=>
  simp only[bT,cF,cT]
  have:=a0X (f:=a5Q) rest (fun i out=>(rest,lag,(i:Int),out,t,())) (a7S (a5z lag t) (Sum.inr ((6:Int),([]:List Int),())))
   (fun i out=>out.length=i) (fun out=>Sum.inl (out,()))
   (fun i h out n=>by
    have c:i<1000000:=by omega
    have d:short out:=by unfold short;omega
    simp only[a5Q,dlt h,cT,a0B h,oB,b9K d l g.1 g.2.1,a1T,a7S];cases hb:a0A (W (rest[i]+a5z lag t out))with
    |true=>
     simp only[cT,bT,cF,a0L (show out.length+1<1000000 by omega),a0C c];refine⟨fun m k=>?_,fun b hb=>(by cases hb)⟩;simp only[Sum.inl.injEq]at k;subst k;exact⟨rfl,by simp;omega⟩
    |false=>
     refine⟨fun m k=>(by cases k),fun b hb=>?_⟩;simp only[cF,Sum.inr.injEq]at hb;subst hb;rfl)
   (fun out _=>by simp[a5Q]) (a:=[]) rfl
  simp only[nZ,a6G]at this;rw[this];cases a2I (a5z lag t) rest []<;>rfl
def b5P{β:Type}(n:Int)(bad:β)(out:List Int)(x:Int):List Int ⊕ β:=bif a0A x&&a0A (z0g .i64 x n)then .inl (out++[z0g .i64 x n])else .inr bad
def upO(n:Int)(l:List Int):Option (List Int):=bif l.all (fun x=>a0A x&&a0A (z0g .i64 x n))then some (l.map fun x=>z0g .i64 x n)else none
theorem b5o{β:Type}(n:Int)(h:β)(g:List Int→β):∀(l out:List Int),a6E g (a2o (b5P n h) l out)=match upO n l with|some r=>g (out++r)|none=>h
 | [],out=>by simp[a2o,a6E,upO]
 |x::l,out=>by
  simp only[a2o,b5P,upO,a09];cases hx:(a0A x&&a0A (z0g .i64 x n))with
  |true=>
   simp only[cT,a32];rw[b5o n h g l _];simp only[upO];cases l.all (fun x=>a0A x&&a0A (z0g .i64 x n))with
   |true=>simp
   |false=>rfl
  |false=>rfl
theorem c3O(m:0≤n)(o:n≤30)(q:l.length<100000):a9a (l,n)=some (a2t (upO n l)):=by
 have j:short l:=by unfold short;omega
 have k:¬ n<0:=by omega
 have e:¬ n > 30:=by omega
 unfold a9a;simp only[k,e,decide_false,cF,oB]
 have:=a0X (f:=a8u) l (fun i out=>(n,l,(l.length:Int),(i:Int),out,())) (b5P n (Sum.inr ((6:Int),([]:List Int),())))
  (fun i out=>out.length=i) (fun out=>Sum.inl (out,()))
  (fun i h out p=>by
   have c:i<1000000:=by omega
   simp only[a8u,dlt h,cT,a0B h,oB,b5M,b5P,k,decide_false,cF];cases hb:a0A l[i]with
   |true=>
    cases hb2:a0A (z0g .i64 l[i] n)with
    |true=>
     simp only[cT,bT,cF,oB,k,decide_false,a0L (show out.length+1<1000000 by omega),a0C c,a03];refine⟨fun d g=>?_,fun b hb=>(by cases hb)⟩;simp only[Sum.inl.injEq]at g;subst g;exact⟨rfl,by simp;omega⟩
    |false=>
     refine⟨fun d g=>(by cases g),fun b hb=>?_⟩;simp only[a32,cF,Sum.inr.injEq]at hb;subst hb;rfl
   |false=>
    refine⟨fun d g=>(by cases g),fun b hb=>?_⟩;simp only[a84,cF,Sum.inr.injEq]at hb;subst hb;rfl)
  (fun out _=>by simp[a8u]) (a:=[]) rfl
 simp only[nZ,b5o,a23]at this;rw[this];cases upO n l<;>rfl
theorem c7w(m:0≤n)(p:n≤30)(r:l.length<100000):b8J (l,n)=some (a2t (upO n l)):=by
 have o:short l:=by unfold short;omega
 have k:¬ n<0:=by omega
 have j:¬ n > 30:=by omega
 have e:=b9q m (by omega);unfold b8J;simp only[k,j,decide_false,cF,oB]
 have:=a0X (f:=b3t) l (fun i out=>(l,n,(i:Int),out,())) (b5P n (Sum.inr ((6:Int),([]:List Int),())))
  (fun i out=>out.length=i) (fun out=>Sum.inl (out,()))
  (fun i h out q=>by
   have c:i<1000000:=by omega
   simp only[b3t,dlt h,cT,a0B h,oB,a1T,b5P,e,k,decide_false,cF];cases hb:a0A l[i]with
   |true=>
    cases hb2:a0A (z0g .i64 l[i] n)with
    |true=>
     simp only[cT,bT,cF,oB,e,k,decide_false,a0B h,a0L (show out.length+1<1000000 by omega),a0C c,a03];refine⟨fun d g=>?_,fun b hb=>(by cases hb)⟩;simp only[Sum.inl.injEq]at g;subst g;exact⟨rfl,by simp;omega⟩
    |false=>
     refine⟨fun d g=>(by cases g),fun b hb=>?_⟩;simp only[a32,cF,Sum.inr.injEq]at hb;subst hb;rfl
   |false=>
    refine⟨fun d g=>(by cases g),fun b hb=>?_⟩;simp only[a84,cF,Sum.inr.injEq]at hb;subst hb;rfl)
  (fun out _=>by simp[b3t]) (a:=[]) rfl
 simp only[nZ,b5o,a23]at this;rw[this];cases upO n l<;>rfl
@[reducible] def Fil:Type:=Int×((List Int)×((List Int)×Unit))
variable {f:Fil}
def a1k(x:Int):Int:=v0a (u0z x (-1073741824)) 1073741823
def c0T(x:Int):Int:=v0a (u0z x (-1048576)) 1048576
theorem b8l(x:Int):-1073741824≤a1k x∧a1k x≤1073741823:=by
 grind[a1k,c1V,c5v]
theorem c3P(x:Int):-1048576≤c0T x∧c0T x≤1048576:=by
 grind[c0T,c1V,c5v]
def c1X:List Int→List Int→Int→Int
 |a::w,b::h,acc=>c1X w h (W (acc+W (a*b)))
 |_,_,acc=>acc
def a0P(f:Fil):Int:=a1k (z0h .i64 (c1X f.2.1 f.2.2.1 0) 16)
structure FilOk (f:Fil):Prop where
 len:f.2.1.length=f.2.2.1.length
 pos:1≤f.2.1.length
 most:f.2.1.length≤32
 rate:0≤f.1∧f.1≤8
 small:∀x∈f.2.1,-1048576≤x∧x≤1048576
theorem a8k(h:i<l.length):a95 l i 0=l[i]:=by
 simp_all
theorem b3Y{f:Fil}(c:FilOk f):∀(k i:Nat)(acc:Int),i+k=f.2.1.length→
  x0r a2W (acc,(f.2.1.length:Int),(i:Int),f,())=some (c1X (f.2.1.drop i) (f.2.2.1.drop i) acc,f,())
 |0,i,acc,h=>by
  obtain rfl:i=f.2.1.length:=by omega
  rw[a16,a0D (b:=(acc,f,())) (by simp[a2W])];rfl
 |k+1,i,acc,h=>by
  have g:i<f.2.1.length:=by omega
  have a:i<f.2.2.1.length:=by rw[←c.len];omega
  have e:=c.most;rw[a02 g,a02 a,c1X];have d:decide ((0:Int)≤(i:Int))=true:=by simp
  rw[a0E (s':=(W (acc+W (f.2.1[i]*f.2.2.1[i])),(f.2.1.length:Int),((i+1:Nat):Int),f,())) (by
   simp only[a2W,dlt g,dlt a,d,cT,a03,tN,a8k g,a8k a,a0C (show i<1000000 by omega)])]
  exact b3Y c k (i+1) _ (by omega)
theorem a6m(h:FilOk f):a1U f=some (a0P f,f):=by
 have:=b3Y h f.2.1.length 0 0 (by omega)
 simp at this;unfold a1U;simp only[this,oB,a5d];rfl
theorem b5Q{f:Fil}(c:FilOk f):∀(k i:Nat)(acc:Int),i+k=f.2.1.length→
  x0r a3K (acc,(i:Int),f,())=some (c1X (f.2.1.drop i) (f.2.2.1.drop i) acc,f,())
 |0,i,acc,h=>by
  obtain rfl:i=f.2.1.length:=by omega
  rw[a16,a0D (b:=(acc,f,())) (by simp[a3K])];rfl
 |k+1,i,acc,h=>by
  have g:i<f.2.1.length:=by omega
  have a:i<f.2.2.1.length:=by rw[←c.len];omega
  have e:=c.most;rw[a02 g,a02 a,c1X];have d:decide ((0:Int)≤(i:Int))=true:=by simp
  rw[a0E (s':=(W (acc+W (f.2.1[i]*f.2.2.1[i])),((i+1:Nat):Int),f,())) (by
   simp only[a3K,dlt g,dlt a,d,cT,a03,tN,a8k g,a8k a,a0C (show i<1000000 by omega)])]
  exact b5Q c k (i+1) _ (by omega)
theorem b3Z(h:FilOk f):a3y f=some (a0P f,f):=by
 have:=b5Q h f.2.1.length 0 0 (by omega)
 simp at this;unfold a3y;simp only[this,oB,b0U];rfl
def a5Y(x:Int):Int:=if 0<x then 1 else if x<0 then -1 else 0
def b2q(r:Int)(x g:Int):Int:=a5Y (x-g)*2^r.toNat
def b3b(st:Int)(w h:Int):Int:=c0T (W (w+a5Y h*st))
def a9I(f:Fil)(x:Int):Fil:=
 (f.1,a31 (b3b (b2q f.1 (a1k x) (a0P f))) f.2.1 f.2.2.1,a1k x::f.2.2.1.take (f.2.2.1.length-1),f.2.2.2)
theorem b9L(k:FilOk f)(x:Int):FilOk (a9I f x):=by
 obtain⟨a,b,c,g,d⟩:=k;have e:(a31 (b3b (b2q f.1 (a1k x) (a0P f))) f.2.1 f.2.2.1).length=f.2.1.length:=by simp_all
 refine⟨?_,?_,?_,g,?_⟩;show(a31 _ _ _).length=(a1k x::f.2.2.1.take (f.2.2.1.length-1)).length;simp_all;show 1≤(a31 _ _ _).length;omega;show(a31 _ _ _).length≤32;omega;intro y h;have h:y∈a31 (b3b (b2q f.1 (a1k x) (a0P f))) f.2.1 f.2.2.1:=h;obtain⟨i,j,rfl⟩:=List.mem_iff_getElem.1 h
 simp
 exact c3P _
theorem a7r(x:Int):(0<x∧a5Y x=1)∨(x<0∧a5Y x=-1)∨(x=0∧a5Y x=0):=by
 unfold a5Y;omega
theorem b9M{r:Int}(h:0≤r∧r≤8):(2:Int)^r.toNat≤256∧1≤(2:Int)^r.toNat:=by
 have:r.toNat=0∨r.toNat=1∨r.toNat=2∨r.toNat=3∨r.toNat=4∨r.toNat=5∨r.toNat=6∨r.toNat=7∨r.toNat=8:=by omega
 rcases this with e|e|e|e|e|e|e|e|e<;>rw[e]<;>decide
theorem c2z{r:Int}(h:0≤r∧r≤8)(g:-1≤x∧x≤1):z0g .i64 x r=x*2^r.toNat:=by
 have hp:=b9M h;have hb:min r.toNat 64=r.toNat:=by omega
 unfold z0g;show wrap .i64 (x*2^(min r.toNat 64))=_;rw[hb]
 have:x=-1∨x=0∨x=1:=by omega
 rcases this with rfl|rfl|rfl
 all_goals grind[a0H]
theorem c3c(a:FilOk f)(x:Int):
  (bif decide (a1k x > a0P f)then bif decide (f.1<0)then(none:Option (Int×Int×Fil×Unit))else some (a1k x,z0g .i64 (1:Int) f.1,f,())
   else bif decide (a1k x<a0P f)then bif decide (f.1<0)then none else some (a1k x,wrap .i64 (0-(z0g .i64 (1:Int) f.1)),f,())
   else some (a1k x,(0:Int),f,()))=some (a1k x,b2q f.1 (a1k x) (a0P f),f,()):=by
 have d:¬ f.1<0:=by have:=a.rate;omega
 have hp:=b9M a.rate;have b:=c2z a.rate (x:=1) (by omega);rw[Int.one_mul]at b;rcases a7r (a1k x-a0P f)with⟨c,h⟩|⟨c,h⟩|⟨c,h⟩;have g:a1k x > a0P f:=by omega
 simp only[g,d,decide_true,decide_false,cT,cF,b2q,h,Int.one_mul,b];have g:¬ a1k x > a0P f:=by omega
 have k:a1k x<a0P f:=by omega
 simp only[g,k,d,decide_true,decide_false,cT,cF,b2q,h,b]
 grind[a0H]
 have g:¬ a1k x > a0P f:=by omega
 have k:¬ a1k x<a0P f:=by omega
 simp only[g,k,decide_false,cF,b2q,h,Int.zero_mul]
theorem c3Q{z:List Int}(f:i<l.length)(k:z.length=l.length):(z.take i++l.drop i).set i (z[i]'(by omega))=z.take (i+1)++l.drop (i+1):=by
 have h:(z.take i).length=i:=by grind
 have g:z.take (i+1)=z.take i++[z[i]'(by omega)]:=by simp
 rw[a81 _ _ (by omega),h,a74,a02 f,a63,g,aA];rfl
theorem c8u{z:List Int}(h:i<l.length)(g:z.length=l.length):a95 (z.take i++l.drop i) i 0=l[i]:=by
 grind
theorem c7x(g:FilOk f)(h:i<f.2.1.length):-1048576≤f.2.1[i]∧f.2.1[i]≤1048576:=g.small _ (a04 h)
theorem c0U(n:FilOk f){x1 st:Int}(u:-256≤st∧st≤256):
  x0r a2m (x1,st,(f.2.2.1.length:Int),(0:Int),f,())=some (x1,(f.1,a31 (b3b st) f.2.1 f.2.2.1,f.2.2),()):=by
 obtain⟨z,w⟩:∃z,a31 (b3b st) f.2.1 f.2.2.1=z:=⟨_,rfl⟩;have q:=n.len;have d:z.length=f.2.1.length:=by grind
 have v:=n.most
 have:=a1x (f:=a2m) (fun i=>(x1,st,(f.2.2.1.length:Int),(i:Int),(f.1,z.take i++f.2.1.drop i,f.2.2),()))
  f.2.2.1.length (b:=(x1,(f.1,z,f.2.2),())) (fun i p=>by
   have k:i<f.2.1.length:=by omega
   have j:decide ((0:Int)≤(i:Int))=true:=by simp
   have s:(z.take i++f.2.1.drop i).length=f.2.1.length:=by grind
   have g:decide ((i:Int)<((z.take i++f.2.1.drop i).length:Int))=true:=by simp_all
   have o:z[i]'(by omega)=b3b st f.2.1[i] f.2.2.1[i]:=by grind
   have t:=c7x n k;have h:=c3Q k d;rw[o]at h;simp only[a2m,dlt p,j,g,cT,a03,tN,a8k p,c8u k d];rcases a7r f.2.2.1[i]with⟨m,a⟩|⟨m,a⟩|⟨m,a⟩;have c:f.2.2.1[i] > 0:=m;simp[b3b,a]at h;simp only[c,decide_true,cT,oB,j,g,a03,tN,a0C (show i<1000000 by omega)];exact congrArg (fun l=>some (Sum.inl (x1,st,(f.2.2.1.length:Int),((i+1:Nat):Int),(f.1,l,f.2.2),()))) h;have c:¬ f.2.2.1[i] > 0:=by omega
   have e:f.2.1[i]+-1*st=f.2.1[i]-st:=by omega
   simp only[b3b,a,e]at h;simp only[c,m,decide_true,decide_false,cT,cF,oB,j,g,a03,tN,a0C (show i<1000000 by omega)];exact congrArg (fun l=>some (Sum.inl (x1,st,(f.2.2.1.length:Int),((i+1:Nat):Int),(f.1,l,f.2.2),()))) h;have c:¬ f.2.2.1[i] > 0:=by omega
   have r:¬ f.2.2.1[i]<0:=by omega
   have e:W (f.2.1[i]+0*st)=f.2.1[i]:=by rw[Int.zero_mul,Int.add_zero];exact a0H (by omega)
   simp only[b3b,a,e]at h;simp only[c,r,decide_false,cF,oB,j,g,cT,a03,tN,a0C (show i<1000000 by omega)];exact congrArg (fun l=>some (Sum.inl (x1,st,(f.2.2.1.length:Int),((i+1:Nat):Int),(f.1,l,f.2.2),()))) h)
  (by
   simp_all[a28,a2m])
 simp_all
theorem c4U(k:FilOk f)(x g:Int):-256≤b2q f.1 x g∧b2q f.1 x g≤256:=by
 have hp:=b9M k.rate;unfold b2q;rcases a7r (x-g)with⟨-,h⟩|⟨-,h⟩|⟨-,h⟩<;>rw[h]<;>omega
theorem b7l(h:FilOk f)(x:Int):a2Z (f,x)=some (a9I f x):=by
 unfold a2Z;have d:=c3c h x;simp only[a5d,oB,a6m h];have g:(bif decide (v0a (u0z x (-1073741824)) 1073741823 > a0P f)then bif decide (f.1<0)then(none:Option (Int×Int×Fil×Unit))else some (v0a (u0z x (-1073741824)) 1073741823,z0g .i64 (1:Int) f.1,f,())
   else bif decide (v0a (u0z x (-1073741824)) 1073741823<a0P f)then bif decide (f.1<0)then none else some (v0a (u0z x (-1073741824)) 1073741823,wrap .i64 (0-(z0g .i64 (1:Int) f.1)),f,())
   else some (v0a (u0z x (-1073741824)) 1073741823,(0:Int),f,()))=_:=d
 rw[g];simp only[oB,c0U h (c4U h _ _)];have i:f.2.2.1.length≥1:=by have:=h.pos;have:=h.len;omega
 have b:decide ((1:Int)≤((f.2.2.1.length:Nat):Int))=true:=by grind
 have e:o0p f.2.2.1 1 (f.2.2.1.length-1) f.2.2.1=f.2.2.1.take 1++f.2.2.1.take (f.2.2.1.length-1):=by
  simp_all[o0p]
 have j:(f.2.2.1.take 1++f.2.2.1.take (f.2.2.1.length-1)).length=f.2.2.1.length:=by simp_all
 have c:decide ((0:Int)<(((f.2.2.1.take 1++f.2.2.1.take (f.2.2.1.length-1)).length:Nat):Int))=true:=by grind
 simp only[b,cT,e,c];congr 1;have k:(f.2.2.1.take 1++f.2.2.1.take (f.2.2.1.length-1)).set 0 (a1k x)=a1k x::f.2.2.1.take (f.2.2.1.length-1):=by
  cases hc:f.2.2.1 with
  |nil=>simp_all
  |cons a l=>simp
 rw[k];rfl
theorem b9r(x:Int):b0V x=some (a5Y x):=by
 grind[b0V,a7r]
theorem c3d(k:FilOk f){x1 s:Int}(w:-1≤s∧s≤1):
  x0r a2H (x1,s,(0:Int),([]:List Int),([]:List Int),f,())=some (x1,a31 (b3b (s*2^f.1.toNat)) f.2.1 f.2.2.1,([]:List Int),f,()):=by
 obtain⟨z,x⟩:∃z,a31 (b3b (s*2^f.1.toNat)) f.2.1 f.2.2.1=z:=⟨_,rfl⟩;have j:=k.len;have u:z.length=f.2.1.length:=by grind
 have v:=k.most;have r:=k.rate;have t:wrap .u64 f.1=f.1:=a0M (by omega);have a:¬ f.1<0:=by omega
 have:=a1x (f:=a2H) (fun i=>(x1,s,(i:Int),z.take i,([]:List Int),f,()))
  f.2.1.length (b:=(x1,z,([]:List Int),f,())) (fun i e=>by
   have h:i<f.2.2.1.length:=by omega
   have p:decide ((0:Int)≤(i:Int))=true:=by simp
   have d:z[i]'(by omega)=b3b (s*2^f.1.toNat) f.2.1[i] f.2.2.1[i]:=by grind
   have c:-1≤s*a5Y f.2.2.1[i]∧s*a5Y f.2.2.1[i]≤1:=by
    rcases a7r f.2.2.1[i]with⟨-,g⟩|⟨-,g⟩|⟨-,g⟩<;>rw[g]<;>omega
   have l:wrap .i64 (s*a5Y f.2.2.1[i])=s*a5Y f.2.2.1[i]:=a0H (by omega);have m:=c2z r c;have n:v0a (u0z (wrap .i64 (f.2.1[i]+s*a5Y f.2.2.1[i]*2^f.1.toNat)) (-1048576)) 1048576=z[i]'(by omega):=by
    rw[d,show s*a5Y f.2.2.1[i]*2^f.1.toNat=a5Y f.2.2.1[i]*(s*2^f.1.toNat)by grind];rfl
   have o:z.take i++[z[i]'(by omega)]=z.take (i+1):=by simp
   have q:(z.take i).length+1<1000000:=by grind
   simp only[a2H,dlt e,dlt h,p,cT,a03,tN,a8k e,a8k h,b9r,oB,t,a,decide_false,cF,a0L q,l,m,n,a06,o,a0C (show i<1000000 by omega)])
  (by
   simp_all[a28,a2H])
 simp_all
theorem c3R(f:Fil):-1073741824≤a0P f∧a0P f≤1073741823:=b8l _
theorem c4V(h:FilOk f)(x:Int):a5R (f,x)=some (a9I f x):=by
 unfold a5R;have m:=b8l x;have n:=c3R f;have b:wrap .i64 (a1k x-a0P f)=a1k x-a0P f:=a0H (by omega);have l:-1≤a5Y (a1k x-a0P f)∧a5Y (a1k x-a0P f)≤1:=by
  rcases a7r (a1k x-a0P f)with⟨-,g⟩|⟨-,g⟩|⟨-,g⟩<;>rw[g]<;>omega
 have d:b0U x=some (a1k x):=rfl;have o:=h.most;have k:=h.len;have a:=h.pos;have c:wrap .i64 (((f.2.2.1.length:Nat):Int)-1)=((f.2.2.1.length-1:Nat):Int):=by grind[a0H]
 have e:decide ((0:Int)≤((f.2.2.1.length-1:Nat):Int))=true:=by simp
 have i:decide (((f.2.2.1.length-1:Nat):Int)≤((f.2.2.1.length:Nat):Int))=true:=by simp
 have j:([a1k x]:List Int).length+(f.2.2.1.take (f.2.2.1.length-1)).length<1000000:=by grind
 simp only[d,oB,b3Z h,b,b9r,c3d h l,b04,a0L (show 0+1<1000000 by omega),cT,c,e,i,a03,tN,a08,a06,a23,a0L j];rfl
@[reducible] def Stg:Type:=Int×(Int×Unit)
variable {st:List Stg}
theorem a8l{l:List Int}(h:short l):a1b l=some l:=by
 have g:lim (0+l.length)=true:=a0L (by unfold short at h;omega);unfold a1b w0g;rw[g,cT]
def a8m(s:Stg):Fil:=(s.2.1,a00 s.1.toNat 0,a00 s.1.toNat 0,())
theorem c1Y{s:Stg}(h:stageB s=true):FilOk (a8m s):=by
 simp only[stageB,bA,dT]at h;refine⟨by simp[a8m],by simp[a8m];omega,by simp[a8m];omega,⟨h.2.2.1,h.2.2.2⟩,fun x g=>?_⟩;simp only[a8m,a91]at g;omega
theorem b4a{s:Stg}(h:stageB s=true):a8Z s=some (a8m s,0):=by
 have g:=h;simp only[stageB,bA,dT]at g;unfold a8Z;have f:decide ((0:Int)≤s.1)=true:=by simp;omega
 have k:decide (s.1≤s.1)=true:=by simp
 have a:lim s.1.toNat=true:=a0L (by omega);simp only[b1F,h,oB,bT,cF,f,k,a,a03,cT];rfl
theorem b4b{s:Stg}(h:stageB s=true):a7L s=some (a8m s,0):=by
 have g:=h;simp only[stageB,bA,dT]at g;unfold a7L;have f:decide ((0:Int)≤s.1)=true:=by simp;omega
 have k:decide (s.1≤s.1)=true:=by simp
 have a:lim s.1.toNat=true:=a0L (by omega);simp only[b1d,h,oB,bT,cF,f,k,a,a03,cT];rfl
def stO:List Int→List Int→Fil→Option (List Int)
 | [],done,_=>some done
 |r::rs,done,f=>bif a0A (W (a0P f+r))then stO rs (done++[W (a0P f+r)]) (a9I f (W (a0P f+r)))else none
theorem b3z:∀(l done:List Int)(f:Fil){r},stO l done f=some r→r.length=done.length+l.length
 | [],done,f,r,h=>by simp only[stO,sj]at h;rw[←h];simp
 |x::l,done,f,r,h=>by
  simp only[stO]at h;cases hw:a0A (W (a0P f+x))with
  |true=>rw[hw]at h;rw[b3z l _ _ h];simp;omega
  |false=>rw[hw]at h;cases h
theorem a9U{done:List Int}(g:done.length=i)(h:i<row.length):a95 (done++row.drop i) i 0=row[i]:=by
 rw[lD,a67 (by omega),g,a74,a92,a57,lG h];rfl
theorem b9N{done:List Int}(g:done.length=i)(h:i<row.length)(y:Int):(done++row.drop i).set i y=(done++[y])++row.drop (i+1):=by
 rw[a81 _ _ (by omega),g,a74,a02 h,a63,aA];rfl
theorem b4M{row b4:List Int}{b5:Int}(e:short row):∀(k i:Nat)(done:List Int)(f:Fil),i+k=row.length→done.length=i→FilOk f→
  ∃z,x0r a5e ((row.length:Int),(i:Int),b4,b5,done++row.drop i,f,())=some z∧
   match stO (row.drop i) done f with
   |some r=>z=.inl (b4,b5,r,())
   |none=>∃q,z=.inr (([]:List Int),(6:Int),q,())
 |0,i,done,f,h,hd,hf=>by
  obtain rfl:i=row.length:=by omega
  rw[a16,a39];exact⟨_,a0D (b:=Sum.inl (b4,b5,done,())) (by simp[a5e]),rfl⟩
 |k+1,i,done,f,h,hd,hf=>by
  have g:i<row.length:=by omega
  have l:row.length<1000000:=e;have c:decide ((0:Int)≤(i:Int))=true:=by simp
  have j:(done++row.drop i).length=row.length:=by simp;omega
  have d:decide ((i:Int)<(((done++row.drop i).length:Nat):Int))=true:=by rw[j];simp;omega
  have a:stO (row.drop i) done f=bif a0A (W (a0P f+row[i]))then stO (row.drop (i+1)) (done++[W (a0P f+row[i])]) (a9I f (W (a0P f+row[i])))else none:=by
   rw[a02 g];rfl
  rw[a];cases hw:a0A (W (a0P f+row[i]))with
  |true=>
   rw[a0E (s':=((row.length:Int),((i+1:Nat):Int),b4,b5,(done++[W (a0P f+row[i])])++row.drop (i+1),a9I f (W (a0P f+row[i])),())) (by
    simp only[a5e,dlt g,c,d,cT,a03,a6m hf,oB,tN,a9U hd g,a5b,hw,bT,cF,b7l hf,b9N hd g,a0C (show i<1000000 by omega)])]
   exact b4M e k (i+1) _ _ (by omega) (by simp;omega) (b9L hf _)
  |false=>
   exact⟨_,a0D (b:=Sum.inr (([]:List Int),(6:Int),done++row.drop i,())) (by
    simp only[a5e,dlt g,c,d,cT,a03,a6m hf,oB,tN,a9U hd g,a5b,hw,a17]),_,rfl⟩
theorem b7m{row:List Int}{st:List Stg}{n:Int}(l:short row):∀(k i:Nat)(done:List Int)(f:Fil),i+k=row.length→done.length=i→FilOk f→
  x0r a3z (st,n,(i:Int),done++row.drop i,f,())=some (match stO (row.drop i) done f with
   |some r=>.inl (st,n,r,())
   |none=>.inr ((6:Int),([]:List Int),()))
 |0,i,done,f,h,hd,hf=>by
  obtain rfl:i=row.length:=by omega
  rw[a16,a39];have a:done.length=row.length:=hd;exact a0D (b:=Sum.inl (st,n,done,())) (by rw[←a];simp[a3z])
 |k+1,i,done,f,h,hd,hf=>by
  have g:i<row.length:=by omega
  have m:row.length<1000000:=l;have d:decide ((0:Int)≤(i:Int))=true:=by simp
  have a:(done++row.drop i).length=row.length:=by simp;omega
  have e:decide ((i:Int)<(((done++row.drop i).length:Nat):Int))=true:=by rw[a];simp;omega
  have c:stO (row.drop i) done f=bif a0A (W (a0P f+row[i]))then stO (row.drop (i+1)) (done++[W (a0P f+row[i])]) (a9I f (W (a0P f+row[i])))else none:=by
   rw[a02 g];rfl
  have j:wrap .i64 (row[i]+a0P f)=W (a0P f+row[i]):=by rw[Int.add_comm]
  rw[c];cases hw:a0A (W (a0P f+row[i]))with
  |true=>
   rw[a0E (s':=(st,n,((i+1:Nat):Int),(done++[W (a0P f+row[i])])++row.drop (i+1),a9I f (W (a0P f+row[i])),())) (by
    simp only[a3z,d,e,cT,a03,b3Z hf,oB,tN,a9U hd g,j,a1T,hw,bT,cF,c4V hf,b9N hd g,a0C (show i<1000000 by omega)])]
   exact b7m l k (i+1) _ _ (by omega) (by simp;omega) (b9L hf _)
  |false=>
   exact a0D (by
    simp only[a3z,d,e,cT,a03,b3Z hf,oB,tN,a9U hd g,j,a1T,hw,a17];rfl)
def lO:List Stg→List Int→Option (List Int)
 | [],row=>some row
 |s::r,row=>match stO row [] (a8m s)with
  |some row'=>lO r row'
  |none=>none
theorem c4W{s:Stg}{b4:List Int}(h:stageB s=true)(b:short row):
  ∃z,a7A k s (st,b4,(0:Int),row,())=some z∧match stO row [] (a8m s)with
   |some r=>z=.inl (st,b4,(0:Int),r,())
   |none=>∃q,z=.inr (.ret,st,([]:List Int),(6:Int),q,()):=by
 obtain⟨z,a,g⟩:=b4M (b4:=b4) (b5:=0) b row.length 0 [] (a8m s) (by omega) rfl (c1Y h);simp only[nZ,a08,a23]at a g;unfold a7A;have f:((0:Int) != 0)=false:=rfl;simp only[b4a h,oB,f,cF,a];cases hst:stO row [] (a8m s)with
 |some r=>
  rw[hst]at g;simp only[]at g;subst g;exact⟨_,rfl,rfl⟩
 |none=>
  rw[hst]at g;obtain⟨q,rfl⟩:=g;exact⟨_,rfl,q,rfl⟩
theorem b9s{st l:List Stg}{b4:List Int}(f:∀s∈l,stageB s=true):∀(n:Nat)(row:List Int),n≤l.length→short row→
  ∃z,k0w a7A l n (st,b4,(0:Int),row,())=some z∧match lO (l.take n).reverse row with
   |some r=>z=.inl (st,b4,(0:Int),r,())
   |none=>∃q,z=.inr (.ret,st,([]:List Int),(6:Int),q,())
 |0,row,_,_=>⟨_,rfl,rfl⟩
 |n+1,row,hn,hs=>by
  have h:n<l.length:=by omega
  obtain⟨z,a,g⟩:=c4W (st:=st) (k:=(n:Int)) (b4:=b4) (f _ (a04 h)) hs;have b:(l.take (n+1)).reverse=l[n]::(l.take n).reverse:=by rw[a96,lG h];simp
  simp only[k0w,lG h,a,b,lO];cases hst:stO row [] (a8m l[n])with
  |some r=>
   rw[hst]at g;simp only[]at g;subst g;exact b9s f n r (by omega) (by have:=b3z _ _ _ hst;unfold short at hs⊢;simp at this;omega)
  |none=>
   rw[hst]at g;obtain⟨q,rfl⟩:=g;exact⟨_,rfl,q,rfl⟩
def a9j(rest:List Int)(st:List Stg):Option (List Int):=bif rest.all a0A then lO st.reverse rest else none
theorem c3e{rest:List Int}(a:a5y st=true)(c:rest.length<100000):b0E (rest,st)=some (a2t (a9j rest st)):=by
 have f:=a;simp only[a5y,bA,dT]at f;have k:short st:=by unfold short;omega
 have h:short rest:=by unfold short;omega
 unfold b0E;simp only[b3X k,a,oB,bT,cF,b3W h,a9j];cases hw:rest.all a0A with
 |false=>rfl
 |true=>
  obtain⟨z,b,g⟩:=b9s (st:=st) (b4:=[]) (lA.1 f.2) st.length rest (a35 _) h;rw[a20]at g;simp only[bT,cF,cT,a8l h,oB,a0L k,b];cases hst:lO st.reverse rest with
  |some r=>
   rw[hst]at g;simp only[]at g;subst g;rfl
  |none=>
   rw[hst]at g;obtain⟨q,rfl⟩:=g;rfl
theorem c0V{l:List Stg}(b:∀s∈l,stageB s=true)(k:l.length≤3):∀(n:Nat)(row:List Int),n≤l.length→short row→
  x0r a3A (l,(n:Int)-1,row,())=some (match lO (l.take n).reverse row with
   |some r=>.inl (r,())
   |none=>.inr ((6:Int),([]:List Int),()))
 |0,row,_,_=>a0D (by simp[a3A,lO])
 |n+1,row,hn,hs=>by
  have g:n<l.length:=by omega
  have h:=b _ (a04 g);have f:=b7m (st:=l) (n:=(n:Int)) hs row.length 0 [] (a8m l[n]) (by omega) rfl (c1Y h);simp only[nZ,a08,a23]at f;have e:(l.take (n+1)).reverse=l[n]::(l.take n).reverse:=by rw[a96,lG g];simp
  have c:((n+1:Nat):Int)-1=(n:Int):=by omega
  have a:decide ((n:Int)≥0)=true:=by simp
  have d:wrap .i64 ((n:Int)-1)=(n:Int)-1:=a0H (by omega);rw[e,c];simp only[lO];cases hst:stO row [] (a8m l[n])with
  |some r=>
   rw[hst]at f;rw[a0E (s':=(l,(n:Int)-1,r,())) (by simp only[a3A,a,cT,a0B g,oB,b4b h,f,d])];exact c0V b k n r (by omega) (by have:=b3z _ _ _ hst;unfold short at hs⊢;simp at this;omega)
  |none=>
   rw[hst]at f;exact a0D (by simp only[a3A,a,cT,a0B g,oB,b4b h,f])
theorem b9O{rest:List Int}{st:List Stg}(a:a5y st=true)(c:rest.length<100000):a7M (rest,st)=some (a2t (a9j rest st)):=by
 have h:=a;simp only[a5y,bA,dT]at h;have f:short st:=by unfold short;omega
 have g:short rest:=by unfold short;omega
 unfold a7M;simp only[b4J f,a,oB,bT,cF,a1r g,a9j];cases hw:rest.all a0A with
 |false=>rfl
 |true=>
  have k:=c0V (lA.1 h.2) h.1 st.length rest (a35 _) g;rw[a20]at k;have b:wrap .i64 (((st.length:Nat):Int)-1)=((st.length:Nat):Int)-1:=a0H (by omega);simp only[bT,cF,cT,a0L (show 0+rest.length<1000000 by omega),b,a06,a23,k,oB];cases lO st.reverse rest<;>rfl
def a3U(n warm:Int):Bool:=decide (1≤n)&&(decide (n≤4096)&&(decide (0≤warm)&&decide (warm≤n)))
theorem b8m(n warm:Int):a8W (n,warm)=some (a3U n warm):=by
 grind[a8W,a3U]
theorem c6B(n warm:Int):b6m (n,warm)=some (a3U n warm):=by
 grind[b6m,a3U]
theorem c8v(h:o≤8):1≤2^o∧2^o≤256:=by
 have:o=0∨o=1∨o=2∨o=3∨o=4∨o=5∨o=6∨o=7∨o=8:=by omega
 grind
theorem b6u(h:o≤64):z0h .i64 (N:Int) (o:Int)=((N / 2^o:Nat):Int):=by
 unfold z0h;show Int.fdiv (N:Int) (2^(min (o:Int).toNat 64))=_
 grind
theorem b6v(h:o≤64)(g:N*2^o<9223372036854775808):z0g .i64 (N:Int) (o:Int)=((N*2^o:Nat):Int):=by
 unfold z0g;show wrap .i64 ((N:Int)*2^(min (o:Int).toNat 64))=_
 grind[a0H]
def b1f(o N:Nat)(warm:Int):List Int:=
 if N%2^o=0∧warm≤((N / 2^o:Nat):Int)then(((N / 2^o:Nat):Int)-warm)::a00 (2^o-1) ((N / 2^o:Nat):Int)else[]
def a1p(order n warm:Int):List Int:=bif a3U n warm&&(decide (0≤order)&&decide (order≤8))then b1f order.toNat n.toNat warm else[]
theorem a2z(order n warm:Int):a3P (order,n,warm)=some (a1p order n warm):=by
 unfold a3P a1p;simp only[b8m,oB];cases hr:a3U n warm with
 |false=>rfl
 |true=>
  simp[a3U]at hr;simp only[bT,cF,a32]
  by_cases h1:order<0
  grind
  by_cases h2:order > 8
  grind
  obtain⟨o,rfl⟩:=a01 (show 0≤order by omega);obtain⟨N,rfl⟩:=a01 (show 0≤n by omega);have p:o≤8:=by omega
  have q:N≤4096:=by omega
  have hp:=c8v p;have m:N / 2^o*2^o≤N:=Nat.div_mul_le_self N _;have l:(0:Int)≤(o:Int):=by omega
  have g8:(o:Int)≤8:=by omega
  simp only[h1,h2,l,g8,decide_true,decide_false,cF,cT,a03,oB,b6u (N:=N) (show o≤64 by omega),b6v (N:=N / 2^o) (show o≤64 by omega) (by omega),tN];have g:=a77 N (2^o);rw[a75]at g
  by_cases hm:N%2^o=0
  have k:(((N / 2^o*2^o:Nat):Int) != (N:Int))=false:=by simp_all
  by_cases hw:warm≤((N / 2^o:Nat):Int)
  have c:decide (((N / 2^o:Nat):Int)<warm)=false:=decide_eq_false (b08.2 hw);have e:wrap .i64 (((N / 2^o:Nat):Int)-warm)=((N / 2^o:Nat):Int)-warm:=a0H (by have:=a40 N (2^o);omega);simp only[k,c,e,cF,oB,b1f,hm,hw,and_self,if_true];have d:z0g .i64 (1:Int) (o:Int)=((2^o:Nat):Int):=by have:=b6v (N:=1) (show o≤64 by omega) (by omega);simp_all
  have:=a1x (f:=a6r) (fun i=>((o:Int),((N / 2^o:Nat):Int),(((N / 2^o:Nat):Int)-warm)::a00 i ((N / 2^o:Nat):Int),())) (2^o-1)
   (b:=((((N / 2^o:Nat):Int)-warm)::a00 (2^o-1) ((N / 2^o:Nat):Int),())) (fun i r=>by
    have a:decide ((((((N / 2^o:Nat):Int)-warm)::a00 i ((N / 2^o:Nat):Int)).length:Int)<((2^o:Nat):Int))=true:=by
     grind
    have h:lim (((((N / 2^o:Nat):Int)-warm)::a00 i ((N / 2^o:Nat):Int)).length+1)=true:=a0L (by grind);have j:a00 i ((N / 2^o:Nat):Int)++[((N / 2^o:Nat):Int)]=a00 (i+1) ((N / 2^o:Nat):Int):=by grind[a42]
    simp only[a6r,h1,decide_false,cF,d,a,cT,h,a06,a98,j])
   (by
    have a:decide ((((((N / 2^o:Nat):Int)-warm)::a00 (2^o-1) ((N / 2^o:Nat):Int)).length:Int)<((2^o:Nat):Int))=false:=by
     simp_all
    simp only[a6r,h1,decide_false,cF,d,a])
  simp_all;have c:decide (((N / 2^o:Nat):Int)<warm)=true:=decide_eq_true (Int.not_le.1 hw);simp_all[b1f];have k:(((N / 2^o*2^o:Nat):Int) != (N:Int))=true:=by grind
  simp only[k,cT,oB,b1f,hm,false_and,if_false]
theorem a8U(order n warm:Int):a3J (order,n,warm)=some (a1p order n warm):=by
 unfold a3J a1p;simp only[c6B,oB];cases hr:a3U n warm with
 |false=>rfl
 |true=>
  simp[a3U]at hr;simp only[bT,cF,a32]
  by_cases h1:order<0
  grind
  by_cases h2:order > 8
  grind
  obtain⟨o,rfl⟩:=a01 (show 0≤order by omega);obtain⟨N,rfl⟩:=a01 (show 0≤n by omega);have l:o≤8:=by omega
  have s:N≤4096:=by omega
  have hp:=c8v l;have j:(0:Int)≤(o:Int):=by omega
  have g8:(o:Int)≤8:=by omega
  have c:wrap .u64 (o:Int)=(o:Int):=a0M (by omega);have a:z0g .i64 (1:Int) (o:Int)=((2^o:Nat):Int):=by have:=b6v (N:=1) (show o≤64 by omega) (by omega);simp_all
  have p:(((2^o:Nat):Int)==0)=false:=by grind
  have m:a46 (N:Int) ((2^o:Nat):Int)=((N%2^o:Nat):Int):=by rfl
  simp only[h1,h2,j,g8,decide_true,decide_false,cF,cT,a03,c,a,p,m,b6u (N:=N) (show o≤64 by omega),tN]
  by_cases hm:N%2^o=0
  have g:(((0:Nat):Int) != 0)=false:=rfl
  by_cases hw:warm≤((N / 2^o:Nat):Int)
  have d:decide (((N / 2^o:Nat):Int)<warm)=false:=decide_eq_false (b08.2 hw);have r:wrap .i64 (((N / 2^o:Nat):Int)-warm)=((N / 2^o:Nat):Int)-warm:=a0H (by have:=a40 N (2^o);omega);simp only[g,d,cF,oB,b1f,hm,hw,and_self,if_true]
  have:=a1x (f:=a5r) (fun i=>((o:Int),(N:Int),warm,(i:Int),a00 i ((N / 2^o:Nat):Int),())) (2^o)
   (b:=(warm,a00 (2^o) ((N / 2^o:Nat):Int),())) (fun i t=>by
    have k:decide ((i:Int)<((2^o:Nat):Int))=true:=by grind
    have h:lim ((a00 i ((N / 2^o:Nat):Int)).length+1)=true:=a0L (by grind);have e:a00 i ((N / 2^o:Nat):Int)++[((N / 2^o:Nat):Int)]=a00 (i+1) ((N / 2^o:Nat):Int):=by grind[a42]
    simp only[a5r,c,h1,decide_false,cF,a,k,cT,h,b6u (N:=N) (show o≤64 by omega),a06,e,a0C (show i<1000000 by omega)])
   (by
    have k:decide (((2^o:Nat):Int)<((2^o:Nat):Int))=false:=by simp
    simp only[a5r,c,h1,decide_false,cF,a,k])
  simp only[nZ,a59]at this;have u:decide ((0:Int)<(((a00 (2^o) ((N / 2^o:Nat):Int)).length:Nat):Int))=true:=by grind
  obtain⟨q,v⟩:∃q,2^o=q+1:=⟨2^o-1,by omega⟩
  grind
  have d:decide (((N / 2^o:Nat):Int)<warm)=true:=decide_eq_true (Int.not_le.1 hw);simp_all[b1f];have g:(((N%2^o:Nat):Int) != 0)=true:=by grind
  simp only[g,cT,oB,b1f,hm,false_and,if_false]
@[reducible] def Prt:Type:=Int×((List Int)×Unit)
variable {p:Prt}
def kB(k:Int):Bool:=(decide (0≤k)&&decide (k≤25)) || (k==31)
def a3e(p:Prt)(n warm:Int):Bool:=!((a1p p.1 n warm).length==0)&&((a1p p.1 n warm).length==p.2.1.length&&p.2.1.all kB)
theorem b1g(g:short p.2.1):a8Y (p,n,warm)=some (a3e p n warm):=by
 have:=a0Y (f:=a4m) p.2.1 (fun i=>(p.2.1,(p.2.1.length:Int),(i:Int),())) kB (bt:=Sum.inl ()) (bf:=Sum.inr (false,()))
  (fun i h hp=>by
   simp[kB]at hp
   by_cases h1:p.2.1[i]<0
   omega
   by_cases h2:p.2.1[i] > 25
   have b:p.2.1[i]=31:=by omega
   have a:(p.2.1[i] != 31)=false:=by simp_all
   simp[a4m,a0B h,h,h1,h2,a,a0C (a22 h g)];simp[a4m,a0B h,h,h1,h2,a0C (a22 h g)])
  (fun i h hp=>by
   have hp:¬ (kB p.2.1[i]=true):=by simp_all
   simp only[kB,a18,bA,dT,beq_iff_eq]at hp
   grind[a4m,a0B])
  (by simp[a4m])
 simp at this;unfold a8Y a3e;simp[a2z]
 by_cases h0:(a1p p.1 n warm).length=0
 simp_all
 ·have e:((((a1p p.1 n warm).length:Nat):Int)==0)=false:=by simp_all
  have k:((a1p p.1 n warm).length==0)=false:=by simp_all
  simp[e,k]
  by_cases h1:(a1p p.1 n warm).length=p.2.1.length
  all_goals grind
theorem b1h(a:short p.2.1):a5a (p,n,warm)=some (a3e p n warm):=by
 have g:∀k:Int,a2x k=some (decide (0≤k)&&decide (k≤25)):=fun k=>by
  grind[a2x]
 have:=a0Y (f:=a3k) p.2.1 (fun i=>((i:Int),p,())) kB (bt:=Sum.inl ()) (bf:=Sum.inr (false,()))
  (fun i h hp=>by
   simp only[kB,a18]at hp;cases hc:(decide (0≤p.2.1[i])&&decide (p.2.1[i]≤25))with
   |true=>simp[a3k,a0B h,h,g,hc,a0C (a22 h a)]
   |false=>
    have d:p.2.1[i]=31:=by simp_all
    have c:(p.2.1[i] != 31)=false:=by simp_all
    simp[a3k,a0B h,h,g,hc,c,a0C (a22 h a)])
  (fun i h hp=>by
   grind[kB,a3k,a0B])
  (by simp[a3k])
 simp at this;unfold a5a a3e;simp[a8U]
 by_cases h0:(a1p p.1 n warm).length=0
 simp_all
 ·have e:((((a1p p.1 n warm).length:Nat):Int)==0)=false:=by simp_all
  have b:((a1p p.1 n warm).length==0)=false:=by simp_all
  simp[e,b]
  by_cases h1:(a1p p.1 n warm).length=p.2.1.length
  all_goals grind
@[reducible] def Sub:Type:=Int×(Int×(Int×(Int×(Int×((List Int)×((List Int)×((List Stg)×((List Int)×(Prt×((List Int)×Unit))))))))))
variable {s:Sub}
structure SmallS (s:Sub):Prop where
 coefs:s.2.2.2.2.2.1.length≤40
 taps:s.2.2.2.2.2.2.1.length=3
 stages:s.2.2.2.2.2.2.2.1.length≤6
 warm:s.2.2.2.2.2.2.2.2.1.length≤5000
 rest:s.2.2.2.2.2.2.2.2.2.2.1.length≤5000
 ks:s.2.2.2.2.2.2.2.2.2.1.2.1.length≤300
theorem b1G(x y:List Int):eqT (.arr 3 (.int .i64)) x y=decide (x=y):=by
 show((a31 (fun(a b:Int)=>a==b) x y).all id&&x.length==y.length)=_
 induction x generalizing y with
 |nil=>cases y<;>simp
 |cons a x ih=>
  cases y with
  |nil=>simp
  |cons b y=>
   have:=ih y
   simp only[List.zipWith_cons_cons,a09,lC,id];rw[Bool.and_assoc,show((x.length+1==y.length+1):Bool)=(x.length==y.length)from by simp,this]
   by_cases h1:a=b<;>by_cases h2:x=y<;>simp[h1,h2]
theorem b6w{l:List Int}(h:short l):a3O l=some l:=a8l h
theorem b9t{l:List Stg}(h:short l):a1m l=some l:=by
 have g:lim (0+l.length)=true:=a0L (by unfold short at h;omega);unfold a1m w0g;rw[g,cT]
def a2J(k:Int)(s:Sub)(n:Int):Prop:=
 k=0∨k=1∨(k=2∧0≤s.2.2.1∧s.2.2.1≤4∧s.2.2.1≤n)∨(k=3∧a4J s.2.2.2.2.2.1 s.2.2.2.1=true∧(s.2.2.2.2.2.1.length:Int)≤n)∨
  (k=4∧a4J s.2.2.2.2.2.1 s.2.2.2.1=true∧(s.2.2.2.2.2.1.length:Int)≤n∧a7R s.2.2.2.2.1 s.2.2.2.2.2.2.1=true)∨
  (k=5∧0<s.2.2.2.2.2.2.2.1.length∧a5y s.2.2.2.2.2.2.2.1=true)
open Classical in
def b5p (k:Int) (s:Sub) (n:Int):Bool:=decide (a2J k s n)
theorem b8n(h:SmallS s)(k n:Int):b2y (k,s,n)=some (b5p k s n):=by
 have f:short s.2.2.2.2.2.1:=by have:=h.coefs;unfold short;omega
 have g:short s.2.2.2.2.2.2.2.1:=by have:=h.stages;unfold short;omega
 unfold b2y b5p a2J
 by_cases k0:k=0
 subst k0;simp
 by_cases k1:k=1
 subst k1;simp;have a:(k==0)=false:=by simp[k0]
 have b:(k==1)=false:=by simp[k1]
 simp only[a,b,cF,oB]
 by_cases k2:k=2
 subst k2
 by_cases h1:0≤s.2.2.1<;>by_cases h2:s.2.2.1≤4<;>simp[h1,h2]
 by_cases k3:k=3
 subst k3;cases hl:a4J s.2.2.2.2.2.1 s.2.2.2.1<;>simp[a9H f,hl]
 by_cases k4:k=4
 subst k4;cases hl:a4J s.2.2.2.2.2.1 s.2.2.2.1<;>by_cases h2:(s.2.2.2.2.2.1.length:Int)≤n<;>simp[a9H f,b5n h.taps,hl,h2]
 by_cases k5:k=5
 subst k5
 by_cases h1:0<s.2.2.2.2.2.2.2.1.length
 simp[b3X g,h1];simp[h1];have c:(k==2)=false:=by simp[k2]
 have d:(k==3)=false:=by simp[k3]
 have e:(k==4)=false:=by simp[k4]
 have i:(k==5)=false:=by simp[k5]
 simp only[c,d,e,i,cF];simp[k0,k1,k2,k3,k4,k5]
def a0T(s:Sub)(n:Int):Int:=if s.1=0 then 1 else if s.1=1 then n else if s.1=2 then s.2.2.1 else if s.1=3∨s.1=4 then(s.2.2.2.2.2.1.length:Int)else 0
theorem b4N(s:Sub)(n:Int):a7X (s,n)=some (a0T s n):=by
 obtain⟨k,s⟩:=s;unfold a7X a0T
 by_cases k0:k=0
 subst k0;simp
 by_cases k1:k=1
 subst k1;simp
 by_cases k2:k=2
 subst k2;simp
 by_cases k3:k=3
 subst k3;simp
 by_cases k4:k=4
 subst k4;simp;have h:(k==0)=false:=by simp[k0]
 have g:(k==1)=false:=by simp[k1]
 have f:(k==2)=false:=by simp[k2]
 have a:(k==3)=false:=by simp[k3]
 have b:(k==4)=false:=by simp[k4]
 simp[k0,k1,k2,k3,k4,h,g,f,a,b]
def b2E(s:Sub):Prop:=
 (s.1≠2→s.2.2.1=0)∧(s.1≠3∧s.1≠4→s.2.2.2.1=0)∧(s.1≠4→s.2.2.2.2.1=0)∧(s.1≠4→s.2.2.2.2.2.2.1=[0,0,0])∧(s.1≠3∧s.1≠4→s.2.2.2.2.2.1=[])∧(s.1≠5→s.2.2.2.2.2.2.2.1=[])
open Classical in
def b5R (s:Sub):Bool:=decide (b2E s)
theorem a9O{c x:Bool}:(bif c then some x else some false)=some (c&&x):=by cases c<;>rfl
theorem c1Z(l:List α):(((l.length:Nat):Int)==0)=decide (l=[]):=by
 cases l with
 |nil=>rfl
 |cons a l=>simp;omega
theorem c2a(x:Int):(x==0)=decide (x=0):=rfl
theorem c3S(h:SmallS s):b1T s=some (b5R s):=by
 have a:short s.2.2.2.2.2.1:=by have:=h.coefs;unfold short;omega
 have g:short s.2.2.2.2.2.2.2.1:=by have:=h.stages;unfold short;omega
 obtain⟨k,w,o,sh,lag,c,t,st,j,p,r,u⟩:=s;simp only at a g;unfold b1T a6a b5R b2E;have f:(a00 3 (0:Int))=[0,0,0]:=rfl
 by_cases k2:k=2
 subst k2;simp[b1G,f,a9O,c1Z,c2a]
 by_cases k4:k=4
 subst k4;simp[b1G,f,a9O,c1Z,c2a,b6w a]
 by_cases k3:k=3
 subst k3;simp[b1G,f,a9O,c1Z,c2a,b6w a]
 by_cases k5:k=5
 subst k5;simp[b1G,f,a9O,c1Z,c2a,b9t g];have b:(k==2)=false:=by simp[k2]
 have d:(k==3)=false:=by simp[k3]
 have e:(k==4)=false:=by simp[k4]
 have i:(k==5)=false:=by simp[k5]
 simp[b,d,e,i,k2,k3,k4,k5,b1G,f,a9O,c1Z,c2a]
theorem a8n(k:Int):a7V k=some (decide (k≠0∧k≠1)):=by
 unfold a7V
 by_cases h0:k=0
 subst h0;rfl
 by_cases h1:k=1
 subst h1;rfl;have e:(k != 0)=true:=by simp[h0]
 simp[e,h0,h1]
def a1i(s:Sub)(n:Int):Prop:=
 1≤n∧n≤4096∧a2J s.1 s n∧b2E s∧0≤s.2.1∧s.2.1≤30∧(s.1=0→s.2.1=0)∧(s.2.2.2.2.2.2.2.2.1.length:Int)=a0T s n∧s.2.2.2.2.2.2.2.2.1.all a0A=true∧s.2.2.2.2.2.2.2.2.2.2.1.all a0A=true∧
  (s.1=0∨s.1=1→s.2.2.2.2.2.2.2.2.2.2.1=[]∧s.2.2.2.2.2.2.2.2.2.1.1=0∧s.2.2.2.2.2.2.2.2.2.1.2.1=[])∧
  (s.1≠0∧s.1≠1→(s.2.2.2.2.2.2.2.2.2.2.1.length:Int)=n-a0T s n∧a3e s.2.2.2.2.2.2.2.2.2.1 n (a0T s n)=true)
theorem b9u(h:SmallS s)(a:1≤n)(b:n≤4096)(f:a2J s.1 s n):0≤a0T s n∧a0T s n≤4096:=by
 have c:=h.coefs;unfold a0T;rcases f with k|k|⟨k,g⟩|⟨k,g⟩|⟨k,g⟩|⟨k,g⟩<;>simp[k]<;>omega
open Classical in
theorem c7y {s:Sub} (h:SmallS s) (n:Int):a9Z (s,n)=some (decide (a1i s n)):=by
 have hw:short s.2.2.2.2.2.2.2.2.1:=by have:=h.warm;unfold short;omega
 have hr:short s.2.2.2.2.2.2.2.2.2.2.1:=by have:=h.rest;unfold short;omega
 have hk:short s.2.2.2.2.2.2.2.2.2.1.2.1:=by have:=h.ks;unfold short;omega
 unfold a9Z
 by_cases h1:1≤n
 rotate_left
 ·have e1:decide (n<1)=true:=by simp;omega
  have:¬ a1i s n:=fun hp=>h1 hp.1
  simp only[e1,cT,oB,this,decide_false]
 have e1:decide (n<1)=false:=by simp;omega
 by_cases h2:n≤4096
 rotate_left
 ·have e2:decide (n > 4096)=true:=by simp;omega
  have:¬ a1i s n:=fun hp=>h2 hp.2.1
  simp only[e1,e2,cT,cF,oB,this,decide_false]
 have e2:decide (n > 4096)=false:=by simp;omega
 by_cases h3:a2J s.1 s n
 rotate_left
 ·have e3:b5p s.1 s n=false:=by simp[b5p,h3]
  have:¬ a1i s n:=fun hp=>h3 hp.2.2.1
  simp only[e1,e2,b8n h,e3,cT,cF,a17,oB,this,decide_false]
 have e3:b5p s.1 s n=true:=by simp[b5p,h3]
 by_cases h4:b2E s
 rotate_left
 ·have e4:b5R s=false:=by simp[b5R,h4]
  have:¬ a1i s n:=fun hp=>h4 hp.2.2.2.1
  simp only[e1,e2,b8n h,e3,c3S h,e4,cT,cF,a17,bT,oB,this,decide_false]
 have e4:b5R s=true:=by simp[b5R,h4]
 simp only[e1,e2,b8n h,e3,c3S h,e4,cF,bT,oB]
 by_cases h5:0≤s.2.1
 rotate_left
 ·have e5:decide (s.2.1<0)=true:=by simp;omega
  have:¬ a1i s n:=fun hp=>h5 hp.2.2.2.2.1
  simp only[e5,cT,oB,this,decide_false]
 have e5:decide (s.2.1<0)=false:=by simp;omega
 by_cases h6:s.2.1≤30
 rotate_left
 ·have e6:decide (s.2.1 > 30)=true:=by simp;omega
  have:¬ a1i s n:=fun hp=>h6 hp.2.2.2.2.2.1
  simp only[e5,e6,cT,cF,oB,this,decide_false]
 have e6:decide (s.2.1 > 30)=false:=by simp;omega
 simp only[e5,e6,cF]
 by_cases h7:s.1=0→s.2.1=0
 rotate_left
 ·have h7a:s.1=0:=Classical.byContradiction fun hc=>h7 fun e=>absurd e hc
  have h7b:(s.2.1 != 0)=true:=by
   simp only[bne_iff_ne,ne_eq];intro e;exact h7 fun _=>e
  have e7:(s.1==0)=true:=by simp[h7a]
  have:¬ a1i s n:=fun hp=>h7 hp.2.2.2.2.2.2.1
  simp only[e7,h7b,cT,oB,this,decide_false]
 have e7:(bif s.1==0 then some (n,(s.2.1 != 0,(s,())))else some (n,(false,(s,()))))=some (n,(false,(s,()))):=by
  by_cases k0:s.1=0
  ·simp[k0,h7 k0]
  ·have:(s.1==0)=false:=by simp[k0]
   rw[this];rfl
 simp only[e7,oB,cF,b4N]
 by_cases h8:(s.2.2.2.2.2.2.2.2.1.length:Int)=a0T s n
 rotate_left
 ·have e8:(((s.2.2.2.2.2.2.2.2.1.length:Nat):Int) != a0T s n)=true:=by simp only[bne_iff_ne,ne_eq];exact h8
  have:¬ a1i s n:=fun hp=>h8 hp.2.2.2.2.2.2.2.1
  simp only[e8,cT,oB,this,decide_false]
 have e8:(((s.2.2.2.2.2.2.2.2.1.length:Nat):Int) != a0T s n)=false:=by rw[h8];simp
 simp only[e8,cF,a4u hw,a4u hr,oB]
 cases h9:s.2.2.2.2.2.2.2.2.1.all a0A with
 |false=>
  have:¬ a1i s n:=fun hp=>by rw[hp.2.2.2.2.2.2.2.2.1]at h9;cases h9
  simp only[a17,cT,oB,this,decide_false]
 |true=>
  cases h10:s.2.2.2.2.2.2.2.2.2.2.1.all a0A with
  |false=>
   have:¬ a1i s n:=fun hp=>by rw[hp.2.2.2.2.2.2.2.2.2.1]at h10;cases h10
   simp only[a17,bT,cT,cF,oB,this,decide_false]
  |true=>
   simp only[bT,cF,oB,a8n]
   have hwr:=b9u h h1 h2 h3
   by_cases k01:s.1≠0∧s.1≠1
   ·have e11:wrap .i64 (n-a0T s n)=n-a0T s n:=a0H (by omega)
    simp only[k01,ne_eq,not_false_eq_true,and_self,decide_true,bT,cF,e11,b1g hk,oB]
    by_cases h11:(s.2.2.2.2.2.2.2.2.2.2.1.length:Int)=n-a0T s n
    ·have e12:(((s.2.2.2.2.2.2.2.2.2.2.1.length:Nat):Int)==n-a0T s n)=true:=by simp[h11]
     simp only[e12,cT]
     congr 1
     rw[a78,dT]
     constructor
     ·intro hp
      exact⟨h1,h2,h3,h4,h5,h6,h7,h8,h9,h10,fun hc=>absurd hc (by omega),fun _=>⟨h11,hp⟩⟩
     ·intro hp;exact(hp.2.2.2.2.2.2.2.2.2.2.2 k01).2
    ·have e12:(((s.2.2.2.2.2.2.2.2.2.2.1.length:Nat):Int)==n-a0T s n)=false:=by simp only[beq_eq_false_iff_ne,ne_eq];exact h11
     have:¬ a1i s n:=fun hp=>h11 (hp.2.2.2.2.2.2.2.2.2.2.2 k01).1
     simp only[e12,cF,this,decide_false]
   ·have k01':s.1=0∨s.1=1:=by omega
    simp only[k01,decide_false,a17,cT,c1Z]
    simp only[c2a,a9O]
    congr 1
    rw[a78,dT]
    simp only[bA,dT]
    constructor
    ·rintro⟨g1,g2,g3⟩
     exact⟨h1,h2,h3,h4,h5,h6,h7,h8,h9,h10,fun _=>⟨g1,g2,g3⟩,fun hc=>absurd hc k01⟩
    ·intro hp;exact hp.2.2.2.2.2.2.2.2.2.2.1 k01'
theorem b6x{α:Type}[DecidableEq α](q:α→α→Bool)(g:∀a b,q a b=decide (a=b)):∀(x y:List α),x.length=y.length→((x.zip y).all fun p=>q p.1 p.2)=decide (x=y)
 | [],[],_=>by simp
 |a::x,b::y,h=>by
  have f:=b6x q g x y (by simpa using h);simp only[List.zip_cons_cons,a09];rw[f,g]
  by_cases h1:a=b<;>by_cases h2:x=y<;>simp[h1,h2]
theorem a9k{x y:List Int}(h:short x):a2S (x,y)=some (decide (x=y)):=by
 unfold a2S
 by_cases hl:x.length=y.length
 have e:(((x.length:Nat):Int) != ((y.length:Nat):Int))=false:=by rw[hl];simp
 have l:(x.zip y).length=x.length:=by rw[b05];omega
 have:=a0Y (f:=a4C) (x.zip y) (fun i=>(x,y,(i:Int),())) (fun p=>p.1==p.2) (bt:=Sum.inl ()) (bf:=Sum.inr (false,()))
  (fun i j hp=>by
   have k:i<x.length:=by omega
   have c:i<y.length:=by omega
   rw[a52]at hp;have hp:x[i]=y[i]:=by simpa using hp
   have g:(x[i] != y[i])=false:=by rw[hp];simp
   simp only[a4C,dlt k,cT,a0B k,a0B c,oB,g,cF,a0C (a22 k h)])
  (fun i j hp=>by
   have k:i<x.length:=by omega
   have c:i<y.length:=by omega
   rw[a52]at hp;have g:(x[i] != y[i])=true:=by simpa using hp
   simp only[a4C,dlt k,cT,a0B k,a0B c,oB,g])
  (by rw[l];simp[a4C])
 simp only[nZ]at this;simp only[e,cF,this,b6x (fun(a b:Int)=>a==b) (fun _ _=>rfl) x y hl];cases decide (x=y)<;>rfl;have e:(((x.length:Nat):Int) != ((y.length:Nat):Int))=true:=by simp only[bne_iff_ne,ne_eq];omega
 have:¬ x=y:=fun d=>hl (by rw[d])
 simp only[e,cT,this,decide_false]
theorem c3f{x y:List Stg}(h:short x):a6v (x,y)=some (decide (x=y)):=by
 have c:∀a b:Stg,eqT (.pair (.int .i64) (.pair (.int .i64) .unit)) a b=decide (a=b):=by
  rintro⟨a1,a2,⟨⟩⟩ ⟨b1,b2,⟨⟩⟩
  show((a1==b1)&&((a2==b2)&&true))=_
  by_cases g:a1=b1<;>by_cases k:a2=b2<;>simp[g,k]
 unfold a6v
 by_cases hl:x.length=y.length
 have e:(((x.length:Nat):Int) != ((y.length:Nat):Int))=false:=by rw[hl];simp
 have l:(x.zip y).length=x.length:=by rw[b05];omega
 have:=a0Y (f:=a3a) (x.zip y) (fun i=>(x,y,(i:Int),())) (fun p=>decide (p.1=p.2)) (bt:=Sum.inl ()) (bf:=Sum.inr (false,()))
  (fun i j hp=>by
   have g:i<x.length:=by omega
   have k:i<y.length:=by omega
   rw[a52]at hp;simp only[a3a,dlt g,cT,a0B g,a0B k,oB,c,hp,bT,cF,a0C (a22 g h)])
  (fun i j hp=>by
   have g:i<x.length:=by omega
   have k:i<y.length:=by omega
   rw[a52]at hp;simp only[a3a,dlt g,cT,a0B g,a0B k,oB,c,hp,a17])
  (by rw[l];simp[a3a])
 simp only[nZ]at this;simp only[e,cF,this,b6x (fun(a b:Stg)=>decide (a=b)) (fun _ _=>rfl) x y hl];cases decide (x=y)<;>rfl;have e:(((x.length:Nat):Int) != ((y.length:Nat):Int))=true:=by simp only[bne_iff_ne,ne_eq];omega
 have:¬ x=y:=fun d=>hl (by rw[d])
 simp only[e,cT,this,decide_false]
open Classical in
theorem c6C {a b:Sub} (h:SmallS a):a9x (a,b)=some (decide (a=b)):=by
 have hc:short a.2.2.2.2.2.1:=by have:=h.coefs;unfold short;omega
 have hst:short a.2.2.2.2.2.2.2.1:=by have:=h.stages;unfold short;omega
 have hw:short a.2.2.2.2.2.2.2.2.1:=by have:=h.warm;unfold short;omega
 have hr:short a.2.2.2.2.2.2.2.2.2.2.1:=by have:=h.rest;unfold short;omega
 have hk:short a.2.2.2.2.2.2.2.2.2.1.2.1:=by have:=h.ks;unfold short;omega
 unfold a9x b1A
 simp only[a9k hc,a9k hw,a9k hr,a9k hk,c3f hst,b1G,oB,a9O]
 congr 1
 obtain⟨k,w,o,sh,lag,c,t,st,wm,⟨po,ks,⟨⟩⟩,r,⟨⟩⟩:=a
 obtain⟨k',w',o',sh',lag',c',t',st',wm',⟨po',ks',⟨⟩⟩,r',⟨⟩⟩:=b
 rw[a78]
 simp only[bA,dT,beq_iff_eq,pJ,and_true,and_assoc]
def b4c(s:Sub):Sub:=
 let z:List Int:=a00 3 0
 if s.1=0 then(0,0,0,0,0,[],z,[],s.2.2.2.2.2.2.2.2.1,(0,[],()),[],())
 else if s.1=1 then(1,s.2.1,0,0,0,[],z,[],s.2.2.2.2.2.2.2.2.1,(0,[],()),[],())
 else if s.1=2 then(2,s.2.1,s.2.2.1,0,0,[],z,[],s.2.2.2.2.2.2.2.2.1,s.2.2.2.2.2.2.2.2.2.1,s.2.2.2.2.2.2.2.2.2.2.1,())
 else if s.1=3 then(3,s.2.1,0,s.2.2.2.1,0,s.2.2.2.2.2.1,z,[],s.2.2.2.2.2.2.2.2.1,s.2.2.2.2.2.2.2.2.2.1,s.2.2.2.2.2.2.2.2.2.2.1,())
 else if s.1=4 then(4,s.2.1,0,s.2.2.2.1,s.2.2.2.2.1,s.2.2.2.2.2.1,s.2.2.2.2.2.2.1,[],s.2.2.2.2.2.2.2.2.1,s.2.2.2.2.2.2.2.2.2.1,s.2.2.2.2.2.2.2.2.2.2.1,())
 else if s.1=5 then(5,s.2.1,0,0,0,[],z,s.2.2.2.2.2.2.2.1,[],s.2.2.2.2.2.2.2.2.2.1,s.2.2.2.2.2.2.2.2.2.2.1,())
 else(s.1,s.2.1,0,0,0,[],z,[],s.2.2.2.2.2.2.2.2.1,s.2.2.2.2.2.2.2.2.2.1,s.2.2.2.2.2.2.2.2.2.2.1,())
theorem c8w(s:Sub):b2l s=some (b4c s):=by
 obtain⟨k,w,o,sh,lag,c,t,st,e,p,r,u⟩:=s;unfold b2l b4c
 by_cases k0:k=0
 subst k0;rfl
 by_cases k1:k=1
 subst k1;rfl
 by_cases k2:k=2
 subst k2;rfl
 by_cases k3:k=3
 subst k3;rfl
 by_cases k4:k=4
 subst k4;rfl
 by_cases k5:k=5
 subst k5;rfl;have h:(k==0)=false:=by simp[k0]
 have g:(k==1)=false:=by simp[k1]
 have f:(k==2)=false:=by simp[k2]
 have a:(k==3)=false:=by simp[k3]
 have b:(k==4)=false:=by simp[k4]
 have d:(k==5)=false:=by simp[k5]
 simp only[h,g,f,a,b,d,cF,oB,k0,k1,k2,k3,k4,k5,if_false]
open Classical in
def b5S (s:Sub) (n:Int):Int:=if a2J s.1 s n then a0T s n else -1
theorem c8x(h:SmallS s)(n:Int):b2m (s,n)=some (b5S s n):=by
 have f:short s.2.2.2.2.2.1:=by have:=h.coefs;unfold short;omega
 have g:short s.2.2.2.2.2.2.2.1:=by have:=h.stages;unfold short;omega
 have a:=h.taps;obtain⟨k,w,o,sh,lag,c,t,st,m,p,r,u⟩:=s;simp only at f g a;unfold b2m b5S a0T a2J
 by_cases k0:k=0
 subst k0;simp
 by_cases k1:k=1
 subst k1;simp
 by_cases k2:k=2
 subst k2
 by_cases h1:0≤o<;>by_cases h2:o≤4<;>by_cases h3:o≤n<;>simp[h1,h2,h3]
 by_cases k3:k=3
 subst k3;cases hl:a4J c sh<;>by_cases h2:(c.length:Int)≤n<;>simp[a6F f,hl,h2]
 by_cases k4:k=4
 subst k4;cases hl:a4J c sh<;>by_cases h2:(c.length:Int)≤n<;>cases h3:a7R lag t<;>simp[a6F f,b5N a,hl,h2,h3]
 by_cases k5:k=5
 subst k5
 by_cases h1:0<st.length<;>cases h2:a5y st<;>simp[b4J g,h1,h2]
 have b:(k==0)=false:=by simp[k0]
 have d:(k==1)=false:=by simp[k1]
 have e:(k==2)=false:=by simp[k2]
 have i:(k==3)=false:=by simp[k3]
 have j:(k==4)=false:=by simp[k4]
 have l:(k==5)=false:=by simp[k5]
 simp[k0,k1,k2,k3,k4,k5,b,d,e,i,j,l]
theorem a6H(k:Int):a7e k=some (decide (2≤k∧k≤5)):=by
 unfold a7e
 by_cases h1:2≤k<;>by_cases h2:k≤5<;>simp[h1,h2]
def c6D(s:Sub)(n:Int):Prop:=
 1≤n∧n≤4096∧0≤s.1∧s.1≤5∧s=b4c s∧0≤s.2.1∧s.2.1≤30∧a2J s.1 s n∧(s.2.2.2.2.2.2.2.2.1.length:Int)=a0T s n∧s.2.2.2.2.2.2.2.2.1.all a0A=true∧s.2.2.2.2.2.2.2.2.2.2.1.all a0A=true∧
  (2≤s.1∧s.1≤5→(s.2.2.2.2.2.2.2.2.2.2.1.length:Int)=n-a0T s n∧a3e s.2.2.2.2.2.2.2.2.2.1 n (a0T s n)=true)
theorem b2F(h:a2J k s n):k=0∨k=1∨k=2∨k=3∨k=4∨k=5:=by
 unfold a2J at h;omega
theorem c4X(s:Sub)(n:Int):a1i s n↔c6D s n:=by
 have b:a2J s.1 s n→((b2E s∧(s.1=0→s.2.1=0)∧(s.2.2.2.2.2.2.2.2.1.length:Int)=a0T s n∧(s.1=0∨s.1=1→s.2.2.2.2.2.2.2.2.2.2.1=[]∧s.2.2.2.2.2.2.2.2.2.1.1=0∧s.2.2.2.2.2.2.2.2.2.1.2.1=[]))↔
   (s=b4c s∧(s.2.2.2.2.2.2.2.2.1.length:Int)=a0T s n)):=by
  intro z;have B:(a00 3 (0:Int))=[0,0,0]:=rfl;obtain⟨k,w,o,sh,lag,c,t,st,wm,⟨po,ks,⟨⟩⟩,r,⟨⟩⟩:=s;rcases b2F z with k0|k0|k0|k0|k0|k0<;>simp only at k0<;>subst k0<;>simp[b2E,b4c,a0T,B]<;>(try constructor)<;>(try intros)<;>(try simp_all)<;>(try exact and_left_comm)<;>(try exact and_comm)
 unfold a1i c6D;constructor
 rintro⟨j,l,d,v,m,p,q,a,e,h,g,f⟩
 obtain⟨i,u⟩:=(b d).1 ⟨v,q,a,g⟩;have A:=b2F d;exact⟨j,l,by omega,by omega,i,m,p,d,a,e,h,fun y=>f (by omega)⟩
 rintro⟨j,l,d,v,m,p,q,a,e,h,g,f⟩
 obtain⟨i,u,C,x⟩:=(b a).2 ⟨m,e⟩;have A:=b2F a;exact⟨j,l,a,i,p,q,u,e,h,g,x,fun y=>f (by omega)⟩
def b8o(warm rest:List Int)(o:Int):Option (List Int):=bif warm.all a0A&&rest.all a0A then a2I (a2u o.toNat) rest warm else none
def backP(s:Sub):Option (List Int):=
 if s.1=1 then some s.2.2.2.2.2.2.2.2.1
 else if s.1=2 then b8o s.2.2.2.2.2.2.2.2.1 s.2.2.2.2.2.2.2.2.2.2.1 s.2.2.1
 else if s.1=3 then b1e s.2.2.2.2.2.2.2.2.1 s.2.2.2.2.2.2.2.2.2.2.1 s.2.2.2.2.2.1 s.2.2.2.1
 else if s.1=4 then(b1e s.2.2.2.2.2.2.2.2.1 s.2.2.2.2.2.2.2.2.2.2.1 s.2.2.2.2.2.1 s.2.2.2.1).bind fun l=>b2p l s.2.2.2.2.1 s.2.2.2.2.2.2.1
 else a9j s.2.2.2.2.2.2.2.2.2.2.1 s.2.2.2.2.2.2.2.1
def b9P(s:Sub)(n:Int):Option (List Int):=
 if s.1=0 then some (a00 n.toNat (s.2.2.2.2.2.2.2.2.1.getD 0 0))else(backP s).bind (upO s.2.1)
theorem b2r{w r c:List Int}{s:Int}{l}(h:b1e w r c s=some l):l.length=w.length+r.length:=by
 unfold b1e at h;cases hc:(w.all a0A&&r.all a0A)with
 |false=>simp_all
 |true=>
  rw[hc]at h;exact(b3x _ r w l (a86.1 hc).1 h).2
theorem c4Y{w r:List Int}{o:Int}{l}(h:b8o w r o=some l):l.length=w.length+r.length:=by
 unfold b8o at h;cases hc:(w.all a0A&&r.all a0A)with
 |false=>simp_all
 |true=>
  rw[hc]at h;exact(b3x _ r w l (a86.1 hc).1 h).2
theorem c3T{l}(h:b2p r lag t=some l):l.length=r.length:=by
 unfold b2p at h;cases hc:r.all a0A with
 |false=>simp_all
 |true=>
  rw[hc]at h
  have:=(b3x _ r [] l rfl h).2
  simp_all
theorem c2A:∀(st:List Stg)(r:List Int){l},lO st r=some l→l.length=r.length
 | [],r,l,h=>by simp_all[lO]
 |s::st,r,l,h=>by
  simp only[lO]at h
  split at h
  rename_i f g;rw[c2A st f h,b3z _ _ _ g];simp;cases h
theorem c3g{r:List Int}{st:List Stg}{l}(h:a9j r st=some l):l.length=r.length:=by
 grind[a9j,c2A]
theorem b8p(h:SmallS s){l}(g:backP s=some l):l.length<100000:=by
 have b:=h.warm;have a:=h.rest;unfold backP at g
 split at g
 grind
 split at g
 grind[c4Y]
 split at g
 grind[b2r]
 split at g
 obtain⟨c,f,k⟩:=a49.1 g;rw[c3T k,b2r f];omega
 grind[c3g]
theorem c7z(c:1≤n)(d:n≤4096)(e:s.2.2.2.2.2.2.2.2.1.length=1):
  x0r a6U (n,(0:Int),([]:List Int),s,())=some (a00 n.toNat (s.2.2.2.2.2.2.2.2.1.getD 0 0),()):=by
 obtain⟨N,rfl⟩:=a01 (show 0≤n by omega);have k:l0z s.2.2.2.2.2.2.2.2.1 (0:Int)=some (s.2.2.2.2.2.2.2.2.1.getD 0 0):=b6t (by omega) (by omega)
 have:=a1x (f:=a6U) (fun i=>((N:Int),(i:Int),a00 i (s.2.2.2.2.2.2.2.2.1.getD 0 0),s,())) N
  (b:=(a00 N (s.2.2.2.2.2.2.2.2.1.getD 0 0),())) (fun i a=>by
   have h:lim ((a00 i (s.2.2.2.2.2.2.2.2.1.getD 0 0)).length+1)=true:=a0L (by grind);have g:a00 i (s.2.2.2.2.2.2.2.2.1.getD 0 0)++[s.2.2.2.2.2.2.2.2.1.getD 0 0]=a00 (i+1) (s.2.2.2.2.2.2.2.2.1.getD 0 0):=by grind[a42]
   simp only[a6U,dlt a,cT,k,oB,h,a06,g,a0C (show i<1000000 by omega)])
  (by simp[a6U])
 simp_all
theorem c3h(m:1≤n)(o:n≤4096)(q:s.2.2.2.2.2.2.2.2.1.length=1):
  x0r a5t (n,(0:Int),a00 n.toNat (0:Int),s,())=some (a00 n.toNat (s.2.2.2.2.2.2.2.2.1.getD 0 0),()):=by
 obtain⟨N,rfl⟩:=a01 (show 0≤n by omega);have j:l0z s.2.2.2.2.2.2.2.2.1 (0:Int)=some (s.2.2.2.2.2.2.2.2.1.getD 0 0):=b6t (by omega) (by omega);obtain⟨z,r⟩:∃z,a00 N (s.2.2.2.2.2.2.2.2.1.getD 0 0)=z:=⟨_,rfl⟩;have k:z.length=(a00 N (0:Int)).length:=by grind
 have d:(a00 N (0:Int)).length=N:=by simp
 have:=a1x (f:=a5t) (fun i=>((N:Int),(i:Int),z.take i++(a00 N (0:Int)).drop i,s,())) N
  (b:=(z,())) (fun i l=>by
   have h:i<(a00 N (0:Int)).length:=by omega
   have p:(z.take i++(a00 N (0:Int)).drop i).length=N:=by grind
   have e:decide ((i:Int)<(((z.take i++(a00 N (0:Int)).drop i).length:Nat):Int))=true:=by simp_all
   have c:decide ((0:Int)≤(i:Int))=true:=by simp
   have a:=c3Q h k;have g:z[i]'(by omega)=s.2.2.2.2.2.2.2.2.1.getD 0 0:=by grind
   rw[g]at a;simp only[a5t,dlt l,cT,j,oB,c,e,a03,tN,a,a0C (show i<1000000 by omega)])
  (by
   simp_all[a28,a5t])
 simp_all
theorem c4Z(h:SmallS s)(hp:a1i s n)(x:s.1≠0):b3s s=some (a2t (backP s)):=by
 obtain⟨y,z,m,-,-,-,-,a,C,A,-⟩:=hp;have q:=h.rest;have v:=h.warm;have B:=h.taps;obtain⟨k,w,o,sh,lag,c,t,st,d,p,r,u⟩:=s;simp only at *;unfold b3s backP;rcases m with g|g|⟨g,f,b,e⟩|⟨g,f,b⟩|⟨g,f,b,e⟩|⟨g,f,b⟩;omega;subst g;rfl;subst g;obtain⟨O,rfl⟩:=a01 f
 grind[a0T,b9J,b8o]
 grind[a0T,b3k]
 ·subst g;simp only[a0T]at a;have j:d.length=c.length:=by grind
  have i:=b3k (rest:=r) f j (by omega);simp only[show((4:Int)==2)=false from rfl,show((4:Int)==3)=false from rfl,show((4:Int)==4)=true from rfl,cT,cF,i,oB];cases hl:b1e d r c sh with
  |none=>rfl
  |some l=>
   grind[b2r,c0S,a2t]
 grind[b9O]
theorem c5a(h:SmallS s)(hp:a1i s n):b3o (s,n)=some (a2t (b9P s n)):=by
 have a:=fun l (d:backP s=some l)=>b8p h d;obtain⟨z,A,C,-,x,v,-,g,K,I,-⟩:=hp;have F:=h.rest;have G:=h.warm;have H:=h.taps;have D:=c7z (s:=s) z A;obtain⟨k,w,o,sh,lag,c,t,st,f,p,r,u⟩:=s;simp only at *;have L:∀l,l.length<100000→a9a (l,w)=some (a2t (upO w l)):=fun l d=>c3O x v d;unfold b3o b9P;rcases C with b|b|⟨b,j,m,y⟩|⟨b,j,m⟩|⟨b,j,m,y⟩|⟨b,j,m⟩
 grind[a0T,a2t]
 simp_all[backP]
 ·subst b;obtain⟨O,rfl⟩:=a01 j;have m:(O:Int)≤4:=m;simp only[a0T]at g;have q:f.length=O:=by grind
  have i:=c3b (warm:=f) (rest:=r) (o:=O) (by omega) q (by omega);simp only[backP]at a⊢;simp[i];have e:(bif f.all a0A&&r.all a0A then a2I (a2u O) r f else none)=b8o f r (O:Int):=rfl;rw[e];cases d:b8o f r (O:Int)with
  |none=>rfl
  |some l=>simp_all[a2t]
 ·subst b;simp only[a0T]at g;have q:f.length=c.length:=by grind
  have i:=b5O (rest:=r) j q (by omega);simp only[backP]at a⊢;simp[i];cases d:b1e f r c sh with
  |none=>rfl
  |some l=>simp_all[a2t]
 ·subst b;simp only[a0T]at g;have q:f.length=c.length:=by grind
  have i:=b5O (rest:=r) j q (by omega);simp only[backP]at a⊢;simp[i];cases d:b1e f r c sh with
  |none=>rfl
  |some l=>
   have E:=b2r d;have B:=c3N (rest:=l) y H (by omega);simp[a2t,B]
   grind[a2t]
 ·subst b;have i:=c3e (rest:=r) m (by omega);simp only[backP]at a⊢;simp[i];cases d:a9j r st with
  |none=>rfl
  |some l=>simp_all[a2t]
open Classical in
def a1o (s:Sub) (n:Int):Option (List Int):=if a1i s n then b9P s n else none
theorem c0W(h:SmallS s)(n:Int):b2A (s,n)=some (match a1o s n with|some r=>(r,0)|none=>([],1)):=by
 unfold b2A a1o;simp only[c7y h,oB]
 by_cases hp:a1i s n
 simp[hp,c5a h hp]
 grind[a2t]
 simp_all
theorem c6E(h:SmallS s)(n:Int):b4t (s,n)=some (a1o s n).isSome:=by
 unfold b4t;simp only[c0W h,oB];cases a1o s n<;>rfl
open Classical in
theorem b7n {s:Sub} (h:SmallS s) (n:Int):a8g (s,n)=some (match a1o s n with|some r=>(r,true)|none=>([],false)):=by
 have hw:short s.2.2.2.2.2.2.2.2.1:=by have:=h.warm;unfold short;omega
 have hr:short s.2.2.2.2.2.2.2.2.2.2.1:=by have:=h.rest;unfold short;omega
 have hk:short s.2.2.2.2.2.2.2.2.2.1.2.1:=by have:=h.ks;unfold short;omega
 have hiff:=c4X s n
 unfold a8g
 have no:¬ c6D s n→a1o s n=none:=fun hc=>by
  simp_all[a1o]
 by_cases h1:1≤n
 rotate_left
 ·have e1:decide (n<1)=true:=by simp_all
  rw[no fun hp=>h1 hp.1]
  simp_all
 have e1:decide (n<1)=false:=by simp_all
 by_cases h2:n≤4096
 rotate_left
 ·have e2:decide (n > 4096)=true:=by simp_all
  rw[no fun hp=>h2 hp.2.1]
  simp_all
 have e2:decide (n > 4096)=false:=by simp_all
 by_cases h3:0≤s.1
 rotate_left
 ·have e3:decide (s.1<0)=true:=by simp_all
  rw[no fun hp=>h3 hp.2.2.1]
  simp_all
 have e3:decide (s.1<0)=false:=by simp_all
 by_cases h4:s.1≤5
 rotate_left
 ·have e4:decide (s.1 > 5)=true:=by simp_all
  rw[no fun hp=>h4 hp.2.2.2.1]
  simp_all
 have e4:decide (s.1 > 5)=false:=by simp_all
 simp only[e1,e2,e3,e4,cF,c8w,c6C h,oB]
 by_cases h5:s=b4c s
 rotate_left
 ·rw[no fun hp=>h5 hp.2.2.2.2.1]
  simp_all
 have e5:decide (s=b4c s)=true:=decide_eq_true h5
 simp only[e5,bT,cF]
 by_cases h6:0≤s.2.1
 rotate_left
 ·have e6:decide (s.2.1<0)=true:=by grind
  rw[no fun hp=>h6 hp.2.2.2.2.2.1]
  grind
 have e6:decide (s.2.1<0)=false:=by grind
 by_cases h7:s.2.1≤30
 rotate_left
 ·have e7:decide (s.2.1 > 30)=true:=by grind
  rw[no fun hp=>h7 hp.2.2.2.2.2.2.1]
  grind
 have e7:decide (s.2.1 > 30)=false:=by grind
 simp only[e6,e7,cF,oB,c8x h]
 by_cases h8:a2J s.1 s n
 rotate_left
 ·have e8:decide (b5S s n<0)=true:=by simp[b5S,h8]
  rw[no fun hp=>h8 hp.2.2.2.2.2.2.2.1]
  grind
 have hwr:=b9u h h1 h2 h8
 have e8':b5S s n=a0T s n:=by simp[b5S,h8]
 have e8:decide (a0T s n<0)=false:=by grind
 simp only[e8',e8,cF]
 by_cases h9:(s.2.2.2.2.2.2.2.2.1.length:Int)=a0T s n
 rotate_left
 ·have e9:(((s.2.2.2.2.2.2.2.2.1.length:Nat):Int) != a0T s n)=true:=by grind
  rw[no fun hp=>h9 hp.2.2.2.2.2.2.2.2.1]
  grind
 have e9:(((s.2.2.2.2.2.2.2.2.1.length:Nat):Int) != a0T s n)=false:=by grind
 simp only[e9,cF,a1r hw,a1r hr,oB]
 cases h10:s.2.2.2.2.2.2.2.2.1.all a0A with
 |false=>
  rw[no fun hp=>by rw[hp.2.2.2.2.2.2.2.2.2.1]at h10;grind]
  rfl
 |true=>
  cases h11:s.2.2.2.2.2.2.2.2.2.2.1.all a0A with
  |false=>
   rw[no fun hp=>by rw[hp.2.2.2.2.2.2.2.2.2.2.1]at h11;grind]
   rfl
  |true=>
   simp only[bT,cF,oB,a6H]
   have e11:wrap .i64 (n-a0T s n)=n-a0T s n:=a0H (by omega)
   by_cases h12:2≤s.1∧s.1≤5→(s.2.2.2.2.2.2.2.2.2.2.1.length:Int)=n-a0T s n∧a3e s.2.2.2.2.2.2.2.2.2.1 n (a0T s n)=true
   rotate_left
   ·have hg:2≤s.1∧s.1≤5:=Classical.byContradiction fun hc=>h12 fun e=>absurd e hc
    have hn:¬ ((s.2.2.2.2.2.2.2.2.2.2.1.length:Int)=n-a0T s n∧a3e s.2.2.2.2.2.2.2.2.2.1 n (a0T s n)=true):=fun hc=>h12 fun _=>hc
    rw[no fun hp=>h12 hp.2.2.2.2.2.2.2.2.2.2.2]
    simp only[hg,and_self,decide_true,cT,e11,b1g hk,b1h hk,oB]
    grind
   have hrp:c6D s n:=⟨h1,h2,h3,h4,h5,h6,h7,h8,h9,h10,h11,h12⟩
   have hsp:=hiff.2 hrp
   have e12:(bif decide (2≤s.1∧s.1≤5)then bif (((s.2.2.2.2.2.2.2.2.2.2.1.length:Nat):Int) != wrap .i64 (n-a0T s n))then some (n,(true,(s,())))else(a5a (s.2.2.2.2.2.2.2.2.2.1,(n,a0T s n))).bind fun y9=>some (n,(!y9,(s,())))
     else some (n,(false,(s,()))))=some (n,(false,(s,()))):=by
    by_cases hg:2≤s.1∧s.1≤5
    ·obtain⟨g1,g2⟩:=h12 hg
     have e13:(((s.2.2.2.2.2.2.2.2.2.2.1.length:Nat):Int) != n-a0T s n)=false:=by grind
     simp only[hg,and_self,decide_true,cT,e11,e13,cF,b1h hk,g2,oB,bT]
    grind
   simp only[e12,oB,cF]
   have hsub:a1o s n=b9P s n:=by unfold a1o;grind
   rw[hsub]
   unfold b9P
   by_cases k0:s.1=0
   ·have ek:(s.1==0)=true:=by grind
    have hl1:s.2.2.2.2.2.2.2.2.1.length=1:=by
     have:=h9;unfold a0T at this;omega
    have g1:decide ((0:Int)≤n)=true:=by grind
    have g2:decide (n≤n)=true:=by simp
    have g3:lim n.toNat=true:=a0L (by omega)
    simp only[ek,cT,g1,g2,g3,a03,c3h h1 h2 hl1,oB,k0,if_true]
    rfl
   ·have ek:(s.1==0)=false:=by grind
    simp[ek,c4Z h hsp k0,k0]
    cases hb:backP s with
    |none=>rfl
    |some l=>
     have hll:=b8p h hb
     simp only[a2t,c7w h6 h7 hll,oB]
     cases upO s.2.1 l<;>simp[a2t]
theorem c3i(h:SmallS s)(n:Int):b0X (s,n)=some (a1o s n).isSome:=by
 grind[b0X,b7n]
@[reducible] def Wr:Type:=(List Int)×(Int×Unit)
def b8q(w:Wr)(b:Int):Wr:=
 let bs:=if w.2.1%8=0 then w.1++[0]else w.1
 (bs.set (w.2.1 / 8).toNat (bits .u8 .or (bs.getD (w.2.1 / 8).toNat 0) (z0g .u8 b (7-w.2.1%8))),w.2.1+1,())
def wL(L:List Int):Wr:=L.foldl b8q ([],0,())
theorem b5T(L:List Int)(b:Int):wL (L++[b])=b8q (wL L) b:=by simp[wL]
theorem c0X:∀(n:Nat)(L:List Int),L.length=n→(wL L).2.1=L.length∧(wL L).1.length=(L.length+7) / 8
 |0,L,h=>by
  rw[List.length_eq_zero_iff.1 h];exact⟨rfl,rfl⟩
 |n+1,L,h=>by
  obtain⟨g,b,rfl⟩:∃g b,L=g++[b]:=by
   rcases a53 L with rfl|⟨g,b,e⟩;simp at h;exact⟨g,b,by rw[e,a82]⟩
  obtain⟨f,k⟩:=c0X n g (by simpa using h);rw[b5T];simp only[b8q,List.length_set,lN,List.length_singleton,f];refine⟨by omega,?_⟩
  by_cases h:(g.length:Int)%8=0
  rw[if_pos h];simp;omega;rw[if_neg h];omega
theorem a6I(L:List Int):(wL L).2.1=L.length∧(wL L).1.length=(L.length+7) / 8:=c0X _ L rfl
theorem c0Y(p:L.length<1000000000)(b:Int):a2a (wL L,b)=some (wL (L++[b])):=by
 obtain⟨k,a⟩:=a6I L;have m:a46 ((L.length:Nat):Int) 8=((L.length:Nat):Int)%8:=a37 (by omega);have l:a69 ((L.length:Nat):Int) 8=((L.length:Nat):Int) / 8:=a38 (by omega);have c:wrap .i64 (((L.length:Nat):Int) / 8)=((L.length:Nat):Int) / 8:=a0H (by omega);have d:wrap .i64 (7-((L.length:Nat):Int)%8)=7-((L.length:Nat):Int)%8:=a0H (by omega);have e:wrap .i64 (((L.length:Nat):Int)+1)=((L.length:Nat):Int)+1:=a0H (by omega);have i:decide ((0:Int)≤((L.length:Nat):Int) / 8)=true:=by simp;omega
 have j:decide (7-((L.length:Nat):Int)%8<0)=false:=by simp;omega
 rw[b5T];generalize wL L=wr at k a⊢;obtain⟨f,n,u⟩:=wr;have k:n=((L.length:Nat):Int):=k;have a:f.length=(L.length+7) / 8:=a;subst k;unfold a2a b8q
 by_cases h:((L.length:Nat):Int)%8=0
 have hb:(((L.length:Nat):Int)%8==0)=true:=by simp[h]
 have o:lim (f.length+1)=true:=a1a (by omega);have g:decide (((L.length:Nat):Int) / 8<(((f++[0]).length:Nat):Int))=true:=by simp;omega
 simp only[hb,cT,o,oB,l,c,d,e,m,i,j,a06,g,a03,cF,if_pos h];have hb:(((L.length:Nat):Int)%8==0)=false:=by simp only[beq_eq_false_iff_ne,ne_eq];exact h
 have g:decide (((L.length:Nat):Int) / 8<((f.length:Nat):Int))=true:=by simp;omega
 simp only[hb,cF,oB,l,c,d,e,m,i,j,g,a03,cT,if_neg h]
def b4O(v:Int)(i:Nat):Int:=wrap .u8 (bits .u64 .and (z0h .u64 v (i:Int)) 1)
def pb(v:Int):Nat→List Int
 |0=>[]
 |i+1=>b4O v i::pb v i
theorem b8r(v:Int):∀n,(pb v n).length=n
 |0=>rfl
 |n+1=>by simp[pb,b8r v n]
def a0G(v:Int)(n:Nat)(L:List Int):List Int:=bif z0h .u64 v (n:Int) != 0 then L else L++pb v n
theorem a0K(v:Int)(n:Nat)(L:List Int):L.length≤(a0G v n L).length∧(a0G v n L).length≤L.length+n:=by
 unfold a0G;cases (z0h .u64 v (n:Int) != 0)<;>simp[b8r]
def a1V(v:Int)(n:Nat):Int:=bif z0h .u64 v (n:Int) != 0 then 1 else 0
theorem c3U{v:Int}:∀(n:Nat)(L:List Int),L.length+n<1000000000→x0r a4e (v,(n:Int)-1,wL L,())=some (wL (L++pb v n),())
 |0,L,_=>by rw[a0D (b:=(wL L,())) (by simp[a4e])];simp[pb]
 |n+1,L,h=>by
  have e:((n+1:Nat):Int)-1=(n:Int):=by omega
  have g:wrap .i64 ((n:Int)-1)=(n:Int)-1:=a0H (by omega);have f:decide ((n:Int)≥0)=true:=by simp
  have k:decide ((n:Int)<0)=false:=by simp
  rw[e,a0E (s':=(v,(n:Int)-1,wL (L++[b4O v n]),())) (by
   simp only[a4e,f,k,cT,cF,show wrap .u8 (bits .u64 .and (z0h .u64 v (n:Int)) 1)=b4O v n from rfl,c0Y (show L.length<1000000000 by omega),oB,g])]
  rw[c3U n (L++[b4O v n]) (by simp;omega),pb]
  simp
theorem a3f{v:Int}{n:Nat}(a:n≤63)(k:L.length<999999000):a0F (wL L,v,(n:Int))=some (a1V v n,wL (a0G v n L)):=by
 unfold a0F a1V a0G;have g:decide ((n:Int)<0)=false:=by simp
 have f:decide ((n:Int) > 64)=false:=by simp;omega
 have h:wrap .i64 ((n:Int)-1)=(n:Int)-1:=a0H (by omega);simp only[g,f,cF,oB];cases (z0h .u64 v (n:Int) != 0)with
 |true=>rfl
 |false=>simp only[cF,h,c3U n L (by omega),oB]
theorem b8s{v:Int}:∀(n:Nat)(L:List Int),n≤64→L.length+n<1000000000→x0r a5u (v,(n:Int)-1,(L,()),())=some ((L++pb v n,()),())
 |0,L,_,_=>by rw[a0D (b:=((L,()),())) (by simp[a5u])];simp[pb]
 |n+1,L,h64,h=>by
  have e:((n+1:Nat):Int)-1=(n:Int):=by omega
  have g:wrap .i64 ((n:Int)-1)=(n:Int)-1:=a0H (by omega);have f:wrap .u64 (n:Int)=(n:Int):=a0M (by omega);have k:decide ((n:Int)≥0)=true:=by simp
  have a:decide ((n:Int)<0)=false:=by simp
  have c:lim (L.length+1)=true:=a1a (by omega);rw[e,a0E (s':=(v,(n:Int)-1,(L++[b4O v n],()),())) (by
   simp only[a5u,k,a,f,c,cT,cF,show wrap .u8 (bits .u64 .and (z0h .u64 v (n:Int)) 1)=b4O v n from rfl,a06,g])]
  rw[b8s n (L++[b4O v n]) (by omega) (by simp;omega),pb]
  simp
theorem a1u{v:Int}{n:Nat}(c:n≤63)(b:L.length<999999000):a0J ((L,()),v,(n:Int))=some (a1V v n,a0G v n L,()):=by
 unfold a0J a1V a0G;have f:decide ((n:Int)<0)=false:=by simp
 have k:decide ((n:Int) > 64)=false:=by simp;omega
 have a:decide ((n:Int)<64)=true:=by simp;omega
 have h:wrap .i64 ((n:Int)-1)=(n:Int)-1:=a0H (by omega);have g:wrap .u64 (n:Int)=(n:Int):=a0M (by omega);simp only[f,k,a,g,cT,cF,oB];cases (z0h .u64 v (n:Int) != 0)with
 |true=>rfl
 |false=>simp only[cF,h,b8s n L (by omega) (by omega),oB]
def unL(n:Nat)(L:List Int):List Int:=L++a00 n 0++[1]
theorem c3V{n:Nat}(d:n≤4096)(c:L.length<999990000):a2j (wL L,(n:Int))=some (0,wL (unL n L)):=by
 unfold a2j unL;have g:decide ((n:Int)<0)=false:=by simp
 have k:decide ((n:Int) > 4096)=false:=by simp;omega
 simp only[g,k,cF,oB]
 have:=a1x (f:=a3n) (fun i=>((n:Int),(i:Int),wL (L++a00 i 0),())) n (b:=(wL (L++a00 n 0),())) (fun i a=>by
   have h:L++a00 i (0:Int)++[0]=L++a00 (i+1) 0:=by rw[aA,←a42]
   simp only[a3n,dlt a,cT,c0Y (show(L++a00 i (0:Int)).length<1000000000 by simp;omega),oB,h,a0C (show i<1000000 by omega)])
  (by simp[a3n])
 simp only[nZ,a59,a39]at this;simp only[this,oB,c0Y (show(L++a00 n (0:Int)).length<1000000000 by simp;omega)]
theorem b8t{n:Nat}(e:n≤4096)(d:L.length<999990000):a2R ((L,()),(n:Int))=some (0,unL n L,()):=by
 unfold a2R unL;have k:decide ((n:Int)<0)=false:=by simp
 have a:decide ((n:Int) > 4096)=false:=by simp;omega
 simp only[k,a,cF,oB]
 have:=a1x (f:=a4f) (fun i=>((n:Int),(i:Int),(L++a00 i 0,()),())) n (b:=((L++a00 n 0,()),())) (fun i c=>by
   have g:L++a00 i (0:Int)++[0]=L++a00 (i+1) 0:=by rw[aA,←a42]
   have h:lim ((L++a00 i (0:Int)).length+1)=true:=a1a (by simp;omega);simp only[a4f,dlt c,cT,h,a06,g,a0C (show i<1000000 by omega)])
  (by simp[a4f])
 have h:lim ((L++a00 n (0:Int)).length+1)=true:=a1a (by simp;omega);simp only[nZ,a59,a39]at this;simp only[this,oB,h,cT,a06]
theorem a6J(n:Nat)(L:List Int):(unL n L).length=L.length+n+1:=by simp[unL];omega
def a1I(x:Int)(n:Nat):Int:=bits .u64 .and (wrap .u64 x) (wrap .u64 ((z0g .u64 1 (n:Int))-1))
def a1f(n:Nat)(l:List Int)(L:List Int):List Int:=l.foldl (fun L x=>a0G (a1I x n) n L) L
theorem a3B(n:Nat):∀(l L:List Int),L.length≤(a1f n l L).length∧(a1f n l L).length≤L.length+n*l.length
 | [],L=>by simp[a1f]
 |x::l,L=>by
  have h:=a0K (a1I x n) n L;have g:=a3B n l (a0G (a1I x n) n L);have e:a1f n (x::l) L=a1f n l (a0G (a1I x n) n L):=rfl;rw[e,lC,a99,b00];omega
theorem b4d{n:Nat}(f:n≤63)(g:L.length<999999000):a2D (wL L,x,(n:Int))=some (wL (a0G (a1I x n) n L)):=by
 unfold a2D;have h:decide ((n:Int)<0)=false:=by simp
 simp only[h,cF,show bits .u64 .and (wrap .u64 x) (wrap .u64 ((z0g .u64 1 (n:Int))-1))=a1I x n from rfl,a3f f g,oB]
theorem a6K{n:Nat}(d:n≤63)(j:l.length<10000)(e:L.length<900000000):a2y ((L,()),l,(n:Int))=some (a1f n l L,()):=by
 have a:wrap .u64 (n:Int)=(n:Int):=a0M (by omega);have b:decide ((n:Int)<0)=false:=by simp
 have f:∀(k i:Nat)(h:List Int),i+k=l.length→h.length+64*k<999990000→x0r a5T (l,(n:Int),(i:Int),(h,()),())=some ((a1f n (l.drop i) h,()),()):=by
  intro k
  induction k with
  |zero=>
   intro i h c _;obtain rfl:i=l.length:=by omega
   rw[a16];exact a0D (by simp[a5T,a1f])
  |succ k ih=>
   intro i h c hb;have g:i<l.length:=by omega
   have hp:=a0K (a1I l[i] n) n h;rw[a02 g,a0E (s':=(l,(n:Int),((i+1:Nat):Int),(a0G (a1I l[i] n) n h,()),())) (by
    simp only[a5T,dlt g,cT,a0B g,oB,a,b,cF,show bits .u64 .and (wrap .u64 l[i]) (wrap .u64 ((z0g .u64 1 (n:Int))-1))=a1I l[i] n from rfl,a1u d (show h.length<999999000 by omega),a0C (show i<1000000 by omega)])]
   exact ih (i+1) _ (by omega) (by omega)
 have:=f l.length 0 L (by omega) (by omega)
 simp only[nZ,a08]at this;unfold a2y;simp only[this,oB]
def a1y(x w:Int):Bool:=decide (1≤w)&&(decide (w≤31)&&(decide (z0g .i64 (-1) (w-1)≤x)&&decide (x≤wrap .i64 (z0g .i64 1 (w-1)-1))))
theorem a6n(a:w≤32):a3R (x,(w:Int))=some (a1y x w):=by
 unfold a3R a1y b3J b2O
 by_cases h1:1≤(w:Int)
 by_cases h2:(w:Int)≤31
 have h:decide ((w:Int)<1)=false:=by simp_all
 have g:decide ((w:Int) > 31)=false:=by simp_all
 have e:wrap .i64 ((w:Int)-1)=(w:Int)-1:=a0H (by omega);have f:decide ((w:Int)-1<0)=false:=by simp_all
 have k:decide ((w:Int)≥1)=true:=by simp_all
 simp[h1,h2,h,g,f,e]
 grind
 grind
 grind
theorem b5q(b:w≤32):a9T (x,(w:Int))=some (a1y x w):=by
 unfold a9T a1y b9H b7V
 by_cases h1:1≤(w:Int)
 by_cases h2:(w:Int)≤31
 have f:decide ((w:Int)<1)=false:=by simp_all
 have k:decide ((w:Int) > 31)=false:=by simp_all
 have e:wrap .i64 ((w:Int)-1)=(w:Int)-1:=a0H (by omega);have g:wrap .u64 ((w:Int)-1)=(w:Int)-1:=a0M (by omega);have a:decide ((w:Int)-1<0)=false:=by simp_all
 have h:decide ((w:Int)≥1)=true:=by simp_all
 simp only[h,h1,h2,f,k,a,e,g,decide_true,cT,cF,oB,a32]
 grind
 grind
 grind
def a1w(x:Int):Nat→Nat→Nat
 |0,w=>w
 |k+1,w=>bif (x != 0)&&!a1y x w then a1w x k (w+1)else w
theorem b6y(x:Int):∀(k w:Nat),a1w x k w≤w+k
 |0,w=>a35 _
 |k+1,w=>by
  simp[a1w];cases (x != 0)&&!a1y x w with
  |true=>have:=b6y x k (w+1);grind
  |false=>simp
def a0I(l:List Int):Nat:=l.foldl (fun w x=>a1w x (32-w) w) 0
theorem b7o:∀(l:List Int)(w:Nat),w≤32→l.foldl (fun w x=>a1w x (32-w) w) w≤32
 | [],w,h=>h
 |x::l,w,h=>b7o l _ (show a1w x (32-w) w≤32 by grind[b6y])
theorem a2T(l:List Int):a0I l≤32:=b7o l 0 (by omega)
theorem c2B{x:Int}{l:List Int}{n i:Int}:∀(k w:Nat),w+k=32→x0r a2O ((w:Int),x,l,n,i,())=some (((a1w x k w:Nat):Int),l,n,i,())
 |0,w,h=>by
  obtain rfl:w=32:=by omega
  simp_all[a0D,a2O,a1w]
 |k+1,w,h=>by
  have g:decide ((w:Int)<32)=true:=by grind
  simp[a1w];cases hx:(x != 0)with
  |false=>simp_all[a0D,a2O]
  |true=>
   cases hf:a1y x w with
   |true=>exact a0D (by simp only[a2O,hx,g,a6n (show w≤32 by omega),hf,oB,cT,cF,bT,b09])
   |false=>
    rw[a0E (s':=(((w+1:Nat):Int),x,l,n,i,())) (by simp only[a2O,hx,g,a6n (show w≤32 by omega),hf,oB,cT,a17,a0C (show w<1000000 by omega)])];exact c2B k (w+1) (by omega)
theorem a5A(c:short l):a3i l=some ((a0I l:Nat):Int):=by
 have c:l.length<1000000:=c
 have:=a0X (f:=a5J) l (fun i (w:Nat)=>((w:Int),l,(l.length:Int),(i:Int),())) (fun w x=>(.inl (a1w x (32-w) w):Nat ⊕ (Int×Unit))) (fun _ w=>w≤32) (fun w=>((w:Int),()))
  (fun i h w e=>⟨fun d k=>by
   simp at k;subst k;refine⟨?_,by grind[b6y]⟩;simp only[a5J,dlt h,cT,a0B h,oB,c2B (32-w) w (by omega),a0C (show i<1000000 by omega)],fun b hb=>(by grind)⟩)
  (fun w _=>by simp[a5J]) (a:=0) (by omega)
 simp at this;unfold a3i;rw[this];have g:∀(l:List Int)(w:Nat),a2o (fun w x=>(.inl (a1w x (32-w) w):Nat ⊕ (Int×Unit))) l w=.inl (l.foldl (fun w x=>a1w x (32-w) w) w):=by
  intro l
  induction l with
  |nil=>intro w;rfl
  |cons x l ih=>simp_all[a2o]
 rw[g];rfl
theorem b7p{l:List Int}{i:Nat}(g:i<l.length):∀(k w:Nat),w+k=32→x0r a7g (l,(w:Int),(i:Int),())=some (l,((a1w l[i] k w:Nat):Int),(i:Int),())
 |0,w,h=>by
  obtain rfl:w=32:=by omega
  rfl
 |k+1,w,h=>by
  have f:decide ((w:Int)<32)=true:=by grind
  simp[a1w];cases hx:(l[i] != 0)with
  |false=>simp_all[a0D,a7g,a0B]
  |true=>
   cases hf:a1y l[i] w with
   |true=>exact a0D (by simp only[a7g,a0B g,hx,f,b5q (show w≤32 by omega),hf,oB,cT,cF,bT,b09])
   |false=>
    rw[a0E (s':=(l,((w+1:Nat):Int),(i:Int),())) (by simp only[a7g,a0B g,hx,f,b5q (show w≤32 by omega),hf,oB,cT,a17,a0C (show w<1000000 by omega)])];exact b7p g k (w+1) (by omega)
theorem b1i(c:short l):a6B l=some ((a0I l:Nat):Int):=by
 have c:l.length<1000000:=c
 have:=a0X (f:=a9B) l (fun i (w:Nat)=>(l,(w:Int),(i:Int),())) (fun w x=>(.inl (a1w x (32-w) w):Nat ⊕ (Int×Unit))) (fun _ w=>w≤32) (fun w=>((w:Int),()))
  (fun i h w e=>⟨fun d k=>by
   simp at k;subst k;refine⟨?_,by grind[b6y]⟩;simp only[a9B,dlt h,cT,oB,b7p h (32-w) w (by omega),a0C (show i<1000000 by omega)],fun b hb=>(by grind)⟩)
  (fun w _=>by simp[a9B]) (a:=0) (by omega)
 simp at this;unfold a6B;rw[this];have g:∀(l:List Int)(w:Nat),a2o (fun w x=>(.inl (a1w x (32-w) w):Nat ⊕ (Int×Unit))) l w=.inl (l.foldl (fun w x=>a1w x (32-w) w) w):=by
  intro l
  induction l with
  |nil=>intro w;rfl
  |cons x l ih=>simp_all[a2o]
 rw[g];rfl
theorem b1j(x:Int):a7o x=some (a0A x):=by
 grind[a7o,a0A]
def a0O(x:Int):Nat:=if 0≤x then(2*x).toNat else(-2*x-1).toNat
theorem a9P(h:a0A x=true):a0O x<2147483648:=by
 grind[a1H,a0O]
theorem b1k(h:a0A x=true):a9e x=some ((a0O x:Nat):Int):=by
 have f:=a1H.1 h;unfold a9e a0O;simp only[b1j,h,oB,bT,cF]
 by_cases h0:0≤x
 have g:decide (x≥0)=true:=by simp_all
 simp only[g,cT,if_pos h0]
 grind[a0H,a0M]
 have g:decide (x≥0)=false:=by simp_all
 simp only[g,cF,if_neg h0]
 grind[a0H,a0M]
theorem c7A(h:-18446744073709551616≤n∧n<0):wrap .u64 n=n+18446744073709551616:=by
 grind[wrap,IntKind.bits,IntKind.signed]
theorem c5x{y:Nat}(h:y<18446744073709551616):bits .u64 .xor (IntKind.max .u64) (y:Int)=((18446744073709551615-y:Nat):Int):=by
 show wrap .u64 (((a05 64 (IntKind.max .u64)) ^^^ (a05 64 (y:Int))).toNat:Int)=_;have g:a05 64 (IntKind.max .u64)=BitVec.allOnes 64:=by rfl
 have f:a05 64 (y:Int)=BitVec.ofNat 64 y:=a24 64 y;rw[g,f,BitVec.allOnes_xor,BitVec.toNat_not,a33,a36 h];rw[a0M (by omega)]
theorem b5r(h:a0A x=true):b2D x=some ((a0O x:Nat):Int):=by
 have k:=a1H.1 h;unfold b2D b1E a0O;simp only[a1T,h,oB,bT,cF];have f:∀y:Int,z0g .u64 y 1=wrap .u64 (y*2):=fun y=>rfl
 by_cases h0:0≤x
 have g:decide (x<0)=false:=by simp_all
 simp only[g,cF,oB,if_pos h0,f]
 grind[a0M]
 have g:decide (x<0)=true:=by simp_all
 simp only[g,cT,oB,if_neg h0,f]
 grind[wrap,IntKind.bits,IntKind.signed,c5x]
theorem a4i{N o:Nat}(h:o≤64):z0h .u64 (N:Int) (o:Int)=((N / 2^o:Nat):Int):=b6u h
theorem c2C(h:o≤64)(g:N*2^o<9223372036854775808):z0g .u64 (N:Int) (o:Int)=((N*2^o:Nat):Int):=by
 unfold z0g;show wrap .u64 ((N:Int)*2^(min (o:Int).toNat 64))=_
 grind[a0M]
theorem b6z{y k:Nat}(c:y<18446744073709551616)(f:k≤62):bits .u64 .and (y:Int) (wrap .u64 (z0g .u64 1 (k:Int)-1))=((y%2^k:Nat):Int):=by
 have hp:2^k≤2^62:=a19 (by simp) f;have a:1≤2^k:=a93;have b:(2:Nat)^62=4611686018427387904:=by rfl
 have h:z0g .u64 1 (k:Int)=((2^k:Nat):Int):=by have:=c2C (N:=1) (o:=k) (by omega) (by omega);simp_all
 have g:wrap .u64 (((2^k:Nat):Int)-1)=((2^k-1:Nat):Int):=by grind[a0M]
 rw[h,g];show wrap .u64 (((a05 64 (y:Int)) &&& (a05 64 ((2^k-1:Nat):Int))).toNat:Int)=_;rw[a24,a24,a72,a33,a33,a36 c,a36 (by omega),a55]
 have:y%2^k<2^k:=a60 _ (by omega)
 exact a0M (by omega)
theorem a9Q{q:Nat}(h:q<2147483648):wrap .i64 (q:Int)=(q:Int):=a0H (by omega)
def a4R(k:Nat)(x:Int)(L:List Int):List Int:=
 if a0O x / 2^k<32 then a0G ((a0O x%2^k:Nat):Int) k (unL (a0O x / 2^k) L)else a0G ((a0O x:Nat):Int) 32 (unL 32 L)
def a2K(k:Nat)(l:List Int)(L:List Int):List Int:=l.foldl (fun L x=>a4R k x L) L
theorem b4e{k:Nat}(h:k≤25)(x:Int)(L:List Int):L.length≤(a4R k x L).length∧(a4R k x L).length≤L.length+100:=by
 grind[a4R,a0K,a6J]
theorem b7q{k:Nat}(h:k≤25):∀(l L:List Int),L.length≤(a2K k l L).length∧(a2K k l L).length≤L.length+100*l.length
 | [],L=>by simp[a2K]
 |x::l,L=>by
  have g:=b4e h x L;have f:=b7q h l (a4R k x L);have e:a2K k (x::l) L=a2K k l (a4R k x L):=rfl
  grind
theorem a8V{k:Nat}(h:k≤25):a4y (k:Int)=some true:=by
 unfold a4y
 grind
theorem b4f{k:Nat}(h:k≤25):a2x (k:Int)=some true:=by
 unfold a2x
 grind
theorem c5b{k:Nat}(y:k≤25)(E:l.length<10000)(t:l.all a0A=true)(D:L.length<900000000):b3q (wL L,(k:Int),l)=some (0,wL (a2K k l L)):=by
 have B:=a0Y (f:=a9u) l (fun i=>((k:Int),l,l,(l.length:Int),(i:Int),wL L,())) (fun _=>true) (bt:=Sum.inl ((k:Int),l,wL L,())) (bf:=Sum.inl ((k:Int),l,wL L,()))
  (fun i h _=>by
   have:=lA.1 t _ (a04 h)
   simp only[a9u,dlt h,cT,a0B h,oB,b1j,this,bT,cF,a0C (show i<1000000 by omega)])
  (fun i h hp=>by simp_all) (by simp[a9u])
 have p:∀(j i:Nat)(g:List Int),i+j=l.length→g.length+100*j<999990000→x0r a6X ((k:Int),l,(l.length:Int),(i:Int),wL g,())=some (wL (a2K k (l.drop i) g),()):=by
  intro j
  induction j with
  |zero=>
   intro i g x _;obtain rfl:i=l.length:=by omega
   simp_all[a0D,a6X,a2K]
  |succ j ih=>
   intro i g x hb;have a:i<l.length:=by omega
   have c:=lA.1 t _ (a04 a);have A:=a9P c;have z:=b4e y l[i] g;have e:decide ((k:Int)<0)=false:=by simp
   have q:z0h .u64 ((a0O l[i]:Nat):Int) (k:Int)=((a0O l[i] / 2^k:Nat):Int):=a4i (by omega);have o:=a40 (a0O l[i]) (2^k);have r:=a77 (a0O l[i]) (2^k);have d:z0g .u64 ((a0O l[i] / 2^k:Nat):Int) (k:Int)=((a0O l[i] / 2^k*2^k:Nat):Int):=c2C (by omega) (by grind);have u:wrap .u64 (((a0O l[i]:Nat):Int)-((a0O l[i] / 2^k*2^k:Nat):Int))=((a0O l[i]%2^k:Nat):Int):=by
    rw[a75 (a0O l[i] / 2^k)]
    grind[a0M]
   have w:wrap .i64 ((a0O l[i] / 2^k:Nat):Int)=((a0O l[i] / 2^k:Nat):Int):=a9Q (a44 o A);rw[a02 a,a0E (s':=((k:Int),l,(l.length:Int),((i+1:Nat):Int),wL (a4R k l[i] g),())) (by
    by_cases hq:a0O l[i] / 2^k<32
    have m:decide (((a0O l[i] / 2^k:Nat):Int)<32)=true:=decide_eq_true (by omega);have s:(unL (a0O l[i] / 2^k) g).length<999999000:=by
     rw[a6J];omega
    have b:=c3V (L:=g) (n:=a0O l[i] / 2^k) (a58 (a22 hq (by simp))) (by omega);have hp:=a3f (L:=unL (a0O l[i] / 2^k) g) (v:=((a0O l[i]%2^k:Nat):Int)) (n:=k) (by omega) s;simp only[a6X,dlt a,cT,a0B a,oB,b1k c,e,cF,q,m,w,b,d,u,hp,a4R,if_pos hq,a0C (show i<1000000 by omega)];have m:decide (((a0O l[i] / 2^k:Nat):Int)<32)=false:=decide_eq_false (by omega);have s:=a6J 32 g;have b:a2j (wL g,(32:Int))=some (0,wL (unL 32 g)):=c3V (L:=g) (n:=32) (by omega) (by omega);have hp:a0F (wL (unL 32 g),((a0O l[i]:Nat):Int),(32:Int))=some (a1V ((a0O l[i]:Nat):Int) 32,wL (a0G ((a0O l[i]:Nat):Int) 32 (unL 32 g))):=a3f (L:=unL 32 g) (v:=((a0O l[i]:Nat):Int)) (n:=32) (by omega) (by omega);simp only[a6X,dlt a,cT,a0B a,oB,b1k c,e,cF,q,m,b,hp,a4R,if_neg hq,a0C (show i<1000000 by omega)])]
   exact ih (i+1) _ (by omega) (by omega)
 have C:=p l.length 0 L (by omega) (by omega);simp_all[b3q,a8V]
theorem c2b{k:Nat}(r:k≤25)(C:l.length<10000)(t:l.all a0A=true)(B:L.length<900000000):b1a ((L,()),(k:Int),l)=some (0,a2K k l L,()):=by
 have o:wrap .u64 (k:Int)=(k:Int):=a0M (by omega);have e:∀(j i:Nat)(h:List Int),i+j=l.length→h.length+100*j<999990000→x0r a5w ((k:Int),l,(i:Int),(h,()),())=some ((a2K k (l.drop i) h,()),()):=by
  intro j
  induction j with
  |zero=>
   intro i h w _;obtain rfl:i=l.length:=by omega
   simp_all[a0D,a5w,a2K]
  |succ j ih=>
   intro i h w hb;have g:i<l.length:=by omega
   have a:=lA.1 t _ (a04 g);have A:=a9P a;have x:=b4e r l[i] h;have b:decide ((k:Int)<0)=false:=by simp
   have m:z0h .u64 ((a0O l[i]:Nat):Int) (k:Int)=((a0O l[i] / 2^k:Nat):Int):=a4i (by omega);have d:=a40 (a0O l[i]) (2^k);have u:=b6z (y:=a0O l[i]) (k:=k) (by omega) (by omega);have p:wrap .i64 ((a0O l[i] / 2^k:Nat):Int)=((a0O l[i] / 2^k:Nat):Int):=a9Q (a44 d A);rw[a02 g,a0E (s':=((k:Int),l,((i+1:Nat):Int),(a4R k l[i] h,()),())) (by
    by_cases hq:a0O l[i] / 2^k<32
    have c:decide (((a0O l[i] / 2^k:Nat):Int)<32)=true:=decide_eq_true (by omega);have s:(unL (a0O l[i] / 2^k) h).length<999999000:=by
     rw[a6J];omega
    have f:=b8t (L:=h) (n:=a0O l[i] / 2^k) (a58 (a22 hq (by simp))) (by omega);have hp:=a1u (L:=unL (a0O l[i] / 2^k) h) (v:=((a0O l[i]%2^k:Nat):Int)) (n:=k) (by omega) s;simp only[a5w,dlt g,cT,a0B g,oB,b5r a,o,b,cF,m,c,p,f,u,hp,a4R,if_pos hq,a0C (show i<1000000 by omega)];have c:decide (((a0O l[i] / 2^k:Nat):Int)<32)=false:=decide_eq_false (by omega);have s:=a6J 32 h;have f:a2R ((h,()),(32:Int))=some (0,unL 32 h,()):=b8t (L:=h) (n:=32) (by omega) (by omega);have hp:a0J ((unL 32 h,()),((a0O l[i]:Nat):Int),(32:Int))=some (a1V ((a0O l[i]:Nat):Int) 32,a0G ((a0O l[i]:Nat):Int) 32 (unL 32 h),()):=a1u (L:=unL 32 h) (v:=((a0O l[i]:Nat):Int)) (n:=32) (by omega) (by omega);simp only[a5w,dlt g,cT,a0B g,oB,b5r a,o,b,cF,m,c,p,f,hp,a4R,if_neg hq,a0C (show i<1000000 by omega)])]
   exact ih (i+1) _ (by omega) (by omega)
 have q:=e l.length 0 L (by omega) (by omega);simp at q;have z:short l:=by unfold short;omega
 unfold b1a;simp only[b4f r,oB,bT,cF,a1r z,t,q]
def a1v(zn:List Nat):List Int:=zn.map fun(a:Nat)=>(a:Int)
theorem c3j(n M:Nat):(a00 n M).sum=n*M:=by
 induction n with
 |zero=>simp
 |succ n ih=>rw[a88,a45,ih,Nat.succ_mul,Nat.add_comm]
theorem b5s{o:Int}(h:(a1p o n warm).length≠0):∃zn:List Nat,a1p o n warm=a1v zn∧(zn.sum:Int)=n-warm∧zn.length≤256:=by
 unfold a1p at h⊢;cases hr:(a3U n warm&&(decide (0≤o)&&decide (o≤8)))with
 |false=>rw[hr]at h;simp at h
 |true=>
  rw[hr]at h;simp only[cT]at h⊢;simp only[a3U,bA,dT]at hr;unfold b1f at h⊢
  split at h
  rename_i g;rw[if_pos g];obtain⟨O,rfl⟩:=a01 hr.2.1;obtain⟨N,rfl⟩:=a01 (show 0≤n by omega);obtain⟨w,rfl⟩:=a01 (show 0≤warm by omega);simp only[tN]at g⊢;have hp:=c8v (o:=O) (by omega);have f:=a77 N (2^O);rw[g.1,a57]at f;have k:w≤N / 2^O:=by have:=g.2;omega
  generalize N / 2^O=M at g k f⊢;generalize 2^O=P at hp f⊢;refine⟨(M-w)::a00 (P-1) M,?_,?_,?_⟩;simp only[a1v,a70,List.map_replicate];congr 1;omega;rw[a45,c3j];obtain⟨q,rfl⟩:∃q,P=q+1:=⟨P-1,by omega⟩;rw[Nat.add_sub_cancel];rw[Nat.succ_mul]at f;omega
  simp;omega
  exact absurd rfl h
def a6L(k:Int)(part L:List Int):List Int:=
 if k=31 then a1f (a0I part) part (a0G ((a0I part:Nat):Int) 5 (a0G (wrap .u64 k) 5 L))else a2K k.toNat part (a0G (wrap .u64 k) 5 L)
def a2A:List Nat→List Int→List Int→List Int→List Int
 |z::zs,k::ks,l,L=>a2A zs ks (l.drop z) (a6L k (l.take z) L)
 |_,_,_,L=>L
theorem b4g(g:kB k=true)(part L:List Int):L.length≤(a6L k part L).length∧(a6L k part L).length≤L.length+10+100*part.length:=by
 unfold a6L;have b:=a0K (wrap .u64 k) 5 L;split;have c:=a0K ((a0I part:Nat):Int) 5 (a0G (wrap .u64 k) 5 L);have h:=a3B (a0I part) part (a0G ((a0I part:Nat):Int) 5 (a0G (wrap .u64 k) 5 L));have a:=a2T part
 have:a0I part*part.length≤32*part.length:=a43 _ a
 omega;rename_i f;simp only[kB,a18,bA,dT,beq_iff_eq]at g;have h:=b7q (k:=k.toNat) (by omega) part (a0G (wrap .u64 k) 5 L);omega
theorem a4j(h:i<zn.length):a95 (a1v zn) i 0=((zn[i]:Nat):Int):=by
 rw[a8k (by simpa[a1v]using h)];simp[a1v]
theorem a1h(h:List Nat):(a1v h).length=h.length:=by simp[a1v]
theorem b1H(h:i<zn.length):(zn.drop i).sum=zn[i]+(zn.drop (i+1)).sum:=by
 rw[a02 h,a45]
theorem c3W{part rest:List Int}{wd:Nat}{a b:Int}{z:List Int}{p:Prt}(k:wd≤32)(hp:part.length<10000):∀(j i:Nat)(L:List Int),i+j=part.length→L.length+64*j<999990000→
  x0r a8w (rest,(wd:Int),a,b,part,(part.length:Int),(i:Int),z,wL L,p,())=some (rest,a,b,z,wL (a1f wd (part.drop i) L),p,())
 |0,i,L,hi,_=>by
  obtain rfl:i=part.length:=by omega
  rw[a16];exact a0D (by simp[a8w,a1f])
 |j+1,i,L,hi,hb=>by
  have h:i<part.length:=by omega
  have g:decide ((wd:Int)<0)=false:=by simp
  have f:=a0K (a1I part[i] wd) wd L;rw[a02 h,a0E (s':=(rest,(wd:Int),a,b,part,(part.length:Int),((i+1:Nat):Int),z,wL (a0G (a1I part[i] wd) wd L),p,())) (by
   simp only[a8w,dlt h,cT,a0B h,oB,g,cF,show bits .u64 .and (wrap .u64 part[i]) (wrap .u64 ((z0g .u64 1 (wd:Int))-1))=a1I part[i] wd from rfl,a3f (show wd≤63 by omega) (show L.length<999999000 by omega),a0C (show i<1000000 by omega)])]
  exact c3W k hp j (i+1) _ (by omega) (by omega)
theorem b5U{zn:List Nat}{p:Prt}(N:p.2.1.length=zn.length)(c:p.2.1.all kB=true)(R:zn.length≤256):∀(j i:Nat)(l L:List Int),i+j=zn.length→(zn.drop i).sum=l.length→l.all a0A=true→l.length≤5000→L.length+10*j+100*l.length<800000000→
  x0r a4t (l,(zn.length:Int),(i:Int),a1v zn,wL L,p,())=some (wL (a2A (zn.drop i) (p.2.1.drop i) l L),())
 |0,i,l,L,hi,_,_,_,_=>by
  obtain rfl:i=zn.length:=by omega
  rw[a16];exact a0D (by simp[a4t,a2A])
 |j+1,i,l,L,hi,hsum,hw,hl5,hb=>by
  have h:i<zn.length:=by omega
  have f:i<p.2.1.length:=by omega
  have s:=lA.1 c _ (a04 f);rw[b1H h]at hsum;have B:decide ((0:Int)≤(i:Int))=true:=by simp
  have C:decide ((i:Int)<(((a1v zn).length:Nat):Int))=true:=by rw[a1h];simp;omega
  have D:decide ((0:Int)≤((zn[i]:Nat):Int))=true:=by simp
  have E:decide (((zn[i]:Nat):Int)≤((l.length:Nat):Int))=true:=by simp;omega
  have t:(l.take zn[i]).length=zn[i]:=by rw[a07];omega
  have q:(l.drop zn[i]).length=(zn.drop (i+1)).sum:=by rw[a21];omega
  have w:(l.take zn[i]).all a0A=true:=lA.2 fun x A=>lA.1 hw x (a25 A);have y:(l.drop zn[i]).all a0A=true:=lA.2 fun x A=>lA.1 hw x (a26 A);have Q:=b4g s (l.take zn[i]) L;have O:=a0K (wrap .u64 p.2.1[i]) 5 L;have d:a0F (wL L,wrap .u64 p.2.1[i],(5:Int))=some (a1V (wrap .u64 p.2.1[i]) 5,wL (a0G (wrap .u64 p.2.1[i]) 5 L)):=a3f (n:=5) (by omega) (by omega);have H:zn.drop i=zn[i]::zn.drop (i+1):=a02 h;have I:p.2.1.drop i=p.2.1[i]::p.2.1.drop (i+1):=a02 f;rw[H,I,a2A];have r:a4t (l,(zn.length:Int),(i:Int),a1v zn,wL L,p,())=some (.inl (l.drop zn[i],(zn.length:Int),((i+1:Nat):Int),a1v zn,wL (a6L p.2.1[i] (l.take zn[i]) L),p,())):=by
   by_cases h31:p.2.1[i]=31
   have m:(p.2.1[i] != 31)=false:=by rw[h31];rfl
   have v:=a2T (l.take zn[i]);have u:=a5A (l:=l.take zn[i]) (by unfold short;omega);have P:=a0K ((a0I (l.take zn[i]):Nat):Int) 5 (a0G (wrap .u64 p.2.1[i]) 5 L);have M:wrap .u64 ((a0I (l.take zn[i]):Nat):Int)=((a0I (l.take zn[i]):Nat):Int):=a0M (by omega);have o:a0F (wL (a0G (wrap .u64 p.2.1[i]) 5 L),((a0I (l.take zn[i]):Nat):Int),(5:Int))=some (a1V ((a0I (l.take zn[i]):Nat):Int) 5,wL (a0G ((a0I (l.take zn[i]):Nat):Int) 5 (a0G (wrap .u64 p.2.1[i]) 5 L))):=a3f (n:=5) (by omega) (by omega);have e:=c3W (part:=l.take zn[i]) (rest:=l.drop zn[i]) (a:=(zn.length:Int)) (b:=(i:Int)) (z:=a1v zn) (p:=p) v (by omega) (l.take zn[i]).length 0 (a0G ((a0I (l.take zn[i]):Nat):Int) 5 (a0G (wrap .u64 p.2.1[i]) 5 L)) (by omega) (by omega);simp only[nZ,a08]at e;simp only[a4t,dlt h,B,C,a4j h,D,E,cT,a03,tN,a0B f,oB,d,m,cF,u,M,o,a20,e,a0C (show i<1000000 by omega),a6L,if_pos h31];have m:(p.2.1[i] != 31)=true:=by simp[h31]
   simp only[kB,a18,bA,dT,beq_iff_eq]at s;obtain⟨K,F⟩:=a01 (show 0≤p.2.1[i]by omega);have g:=c5b (k:=K) (l:=l.take zn[i]) (L:=a0G (wrap .u64 p.2.1[i]) 5 L) (by omega) (by omega) w (by omega);rw[←F]at g;have G:K=p.2.1[i].toNat:=by rw[F,tN]
   simp only[a4t,dlt h,B,C,a4j h,D,E,cT,a03,tN,a0B f,oB,d,m,g,a20,a0C (show i<1000000 by omega),a6L,if_neg h31,G]
  rw[a0E r];exact b5U N c R j (i+1) (l.drop zn[i]) _ (by omega) q.symm y (by rw[a21];omega) (by rw[a21];omega)
theorem b2G{zn:List Nat}{p:Prt}{l:List Int}(N:p.2.1.length=zn.length)(b:p.2.1.all kB=true)(T:zn.length≤256)(F:l.all a0A=true)(s:l.length≤5000):∀(j i off:Nat)(L:List Int),i+j=zn.length→off+(zn.drop i).sum=l.length→L.length+10*j+100*(l.length-off)<800000000→
  x0r a3l (l,(off:Int),(i:Int),a1v zn,(L,()),p,())=some ((a2A (zn.drop i) (p.2.1.drop i) (l.drop off) L,()),())
 |0,i,off,L,hi,_,_=>by
  obtain rfl:i=zn.length:=by omega
  rw[a16];exact a0D (by simp[a3l,a2A,a1h])
 |j+1,i,off,L,hi,hsum,hb=>by
  have a:i<zn.length:=by omega
  have f:i<p.2.1.length:=by omega
  have q:=lA.1 b _ (a04 f);rw[b1H a]at hsum;have y:decide ((0:Int)≤(i:Int))=true:=by simp
  have z:decide ((i:Int)<(((a1v zn).length:Nat):Int))=true:=by rw[a1h];simp;omega
  have w:wrap .i64 ((off:Int)+((zn[i]:Nat):Int))=((off+zn[i]:Nat):Int):=by rw[a0H (by omega)];omega
  have A:decide ((0:Int)≤((off+zn[i]:Nat):Int))=true:=by simp;omega
  have B:decide (((off+zn[i]:Nat):Int)≤((l.length:Nat):Int))=true:=by simp only[dT];omega
  have C:decide ((0:Int)≤(off:Int))=true:=by simp
  have D:decide ((off:Int)≤((off+zn[i]:Nat):Int))=true:=by simp only[dT];omega
  have h:List.drop off (b17 (off+zn[i]) l)=(l.drop off).take zn[i]:=by rw[List.drop_take];congr 1;omega
  have d:(l.drop off).drop zn[i]=l.drop (off+zn[i]):=by rw[List.drop_drop]
  have t:((l.drop off).take zn[i]).length=zn[i]:=by rw[a07,a21];omega
  have v:((l.drop off).take zn[i]).all a0A=true:=lA.2 fun x S=>lA.1 F x (a26 (a25 S));have Q:=b4g q ((l.drop off).take zn[i]) L;have O:=a0K (wrap .u64 p.2.1[i]) 5 L;have c:a0J ((L,()),wrap .u64 p.2.1[i],(5:Int))=some (a1V (wrap .u64 p.2.1[i]) 5,a0G (wrap .u64 p.2.1[i]) 5 L,()):=a1u (n:=5) (by omega) (by omega);have H:zn.drop i=zn[i]::zn.drop (i+1):=a02 a;have I:p.2.1.drop i=p.2.1[i]::p.2.1.drop (i+1):=a02 f;rw[H,I,a2A,d];have o:a3l (l,(off:Int),(i:Int),a1v zn,(L,()),p,())=some (.inl (l,((off+zn[i]:Nat):Int),((i+1:Nat):Int),a1v zn,(a6L p.2.1[i] ((l.drop off).take zn[i]) L,()),p,())):=by
   by_cases h31:p.2.1[i]=31
   have e:(p.2.1[i]==31)=true:=by rw[h31];rfl
   have R:=a2T ((l.drop off).take zn[i]);have u:=b1i (l:=(l.drop off).take zn[i]) (by unfold short;omega);have P:=a0K ((a0I ((l.drop off).take zn[i]):Nat):Int) 5 (a0G (wrap .u64 p.2.1[i]) 5 L);have M:wrap .u64 ((a0I ((l.drop off).take zn[i]):Nat):Int)=((a0I ((l.drop off).take zn[i]):Nat):Int):=a0M (by omega);have m:a0J ((a0G (wrap .u64 p.2.1[i]) 5 L,()),((a0I ((l.drop off).take zn[i]):Nat):Int),(5:Int))=some (a1V ((a0I ((l.drop off).take zn[i]):Nat):Int) 5,a0G ((a0I ((l.drop off).take zn[i]):Nat):Int) 5 (a0G (wrap .u64 p.2.1[i]) 5 L),()):=a1u (n:=5) (by omega) (by omega);have r:=a6K (l:=(l.drop off).take zn[i]) (L:=a0G ((a0I ((l.drop off).take zn[i]):Nat):Int) 5 (a0G (wrap .u64 p.2.1[i]) 5 L)) (n:=a0I ((l.drop off).take zn[i])) (by omega) (by omega) (by omega);simp only[a3l,y,z,a4j a,w,A,B,C,D,cT,a03,tN,a0B f,oB,c,e,h,u,M,m,r,a0C (show i<1000000 by omega),a6L,if_pos h31];have e:(p.2.1[i]==31)=false:=by simp[h31]
   simp only[kB,a18,bA,dT,beq_iff_eq]at q;obtain⟨K,E⟩:=a01 (show 0≤p.2.1[i]by omega);have g:=c2b (k:=K) (l:=(l.drop off).take zn[i]) (L:=a0G (wrap .u64 p.2.1[i]) 5 L) (by omega) (by omega) v (by omega);rw[←E]at g;have G:K=p.2.1[i].toNat:=by rw[E,tN]
   simp only[a3l,y,z,a4j a,w,A,B,C,D,cT,cF,a03,tN,a0B f,oB,c,e,h,g,a0C (show i<1000000 by omega),a6L,if_neg h31,G]
  rw[a0E o];exact b2G N b T F s j (i+1) (off+zn[i]) _ (by omega) (by omega) (by omega)
theorem c2c{k:Nat}(d:k≤25)(g:a0A x=true):∃c,a7p ((k:Int),x)=some c∧0≤c∧c≤65:=by
 have e:=a9P g;have f:z0h .u64 ((a0O x:Nat):Int) (k:Int)=((a0O x / 2^k:Nat):Int):=a4i (by omega);have a:wrap .i64 ((a0O x / 2^k:Nat):Int)=((a0O x / 2^k:Nat):Int):=a9Q (a44 (a40 _ _) e);have h:decide ((k:Int)<0)=false:=by simp
 unfold a7p;simp only[a8V d,b1j,g,oB,bT,cF,b1k g,h,f,a];generalize a0O x / 2^k=q
 by_cases hq:q<32
 have b:decide ((q:Int)<32)=true:=decide_eq_true (by omega);refine⟨(q:Int)+1+k,?_,by omega,by omega⟩;simp only[b,cT]
 grind[a0H]
 grind
theorem b8T{k:Nat}(e:k≤25)(g:a0A x=true):∃c,a9C ((k:Int),x)=some c∧0≤c∧c≤65:=by
 have i:=a9P g;have f:z0h .u64 ((a0O x:Nat):Int) (k:Int)=((a0O x / 2^k:Nat):Int):=a4i (by omega);have b:wrap .i64 ((a0O x / 2^k:Nat):Int)=((a0O x / 2^k:Nat):Int):=a9Q (a44 (a40 _ _) i);have a:wrap .u64 (k:Int)=(k:Int):=a0M (by omega);have h:decide ((k:Int)<0)=false:=by simp
 unfold a9C;simp only[b4f e,a1T,g,oB,bT,cF,b5r g,a,h,f,b];generalize a0O x / 2^k=q
 by_cases hq:q<32
 have d:decide ((q:Int)<32)=true:=decide_eq_true (by omega);refine⟨(q:Int)+1+k,?_,by omega,by omega⟩;simp only[d,cT]
 grind[a0H]
 grind
theorem c3k{k:Nat}(p:k≤25)(q:l.all a0A=true)(t:l.length<10000):∃c,a3m ((k:Int),l)=some c∧0≤c∧c≤65*l.length:=by
 have g:∀(j i:Nat)(c:Int),i+j=l.length→0≤c→c≤65*i→∃c',x0r a3S ((k:Int),c,l,(l.length:Int),(i:Int),())=some (c',())∧0≤c'∧c'≤65*l.length:=by
  intro j
  induction j with
  |zero=>
   intro i c o a f;obtain rfl:i=l.length:=by omega
   simp_all[a0D,a3S]
  |succ j ih=>
   intro i c o a f;have h:i<l.length:=by omega
   obtain⟨d,b,m,n⟩:=c2c p (lA.1 q _ (a04 h));have e:wrap .i64 (c+d)=c+d:=a0H (by omega);rw[a0E (s':=((k:Int),c+d,l,(l.length:Int),((i+1:Nat):Int),())) (by simp only[a3S,dlt h,cT,a0B h,oB,b,e,a0C (show i<1000000 by omega)])];exact ih (i+1) _ (by omega) (by omega) (by omega)
 obtain⟨c,f,r,s⟩:=g l.length 0 0 (by omega) (by omega) (by omega);simp_all[a3m]
theorem b9Q{k:Nat}(p:k≤25)(q:l.all a0A=true)(t:l.length<10000):∃c,b0Z ((k:Int),l)=some c∧0≤c∧c≤65*l.length:=by
 have g:∀(j i:Nat)(c:Int),i+j=l.length→0≤c→c≤65*i→∃c',x0r a7O ((k:Int),l,c,(i:Int),())=some (c',())∧0≤c'∧c'≤65*l.length:=by
  intro j
  induction j with
  |zero=>
   intro i c o a f;obtain rfl:i=l.length:=by omega
   simp_all[a0D,a7O]
  |succ j ih=>
   intro i c o a f;have h:i<l.length:=by omega
   obtain⟨d,b,m,n⟩:=b8T p (lA.1 q _ (a04 h));have e:wrap .i64 (c+d)=c+d:=a0H (by omega);rw[a0E (s':=((k:Int),l,c+d,((i+1:Nat):Int),())) (by simp only[a7O,dlt h,cT,a0B h,oB,b,e,a0C (show i<1000000 by omega)])];exact ih (i+1) _ (by omega) (by omega) (by omega)
 obtain⟨c,f,r,s⟩:=g l.length 0 0 (by omega) (by omega) (by omega);simp_all[b0Z]
theorem c2D{n:Nat}(g:w≤32)(f:n<10000):0≤(w:Int)*(n:Int)∧(w:Int)*(n:Int)≤32*n:=by
 have h:w*n≤32*n:=a43 _ g;omega
theorem c2d(h:l.length<10000):∃c,a5E l=some c∧0≤c∧c≤5+32*l.length:=by
 have g:=c2D (a2T l) h;refine⟨5+((a0I l:Nat):Int)*((l.length:Nat):Int),?_,by omega,by omega⟩;unfold a5E;simp only[a5A (show short l by unfold short;omega),oB]
 grind[a0H]
theorem b4P{zn:List Nat}{p:Prt}(H:p.2.1.length=zn.length)(g:p.2.1.all kB=true)(I:zn.length≤256):∀(j i:Nat)(l:List Int)(c:Int),i+j=zn.length→(zn.drop i).sum=l.length→l.all a0A=true→l.length≤5000→4≤c→c+10*j+65*l.length<1000000→
  ∃c',x0r a1s (l,c,(zn.length:Int),(i:Int),a1v zn,p,())=some (c',())∧4≤c'
 |0,i,l,c,hi,_,_,_,hc,_=>by
  obtain rfl:i=zn.length:=by omega
  simp_all[a0D,a1s]
 |j+1,i,l,c,hi,hsum,hw,hl5,hc,hb=>by
  have h:i<zn.length:=by omega
  have f:i<p.2.1.length:=by omega
  have q:=lA.1 g _ (a04 f);rw[b1H h]at hsum;have z:decide ((0:Int)≤(i:Int))=true:=by simp
  have A:decide ((i:Int)<(((a1v zn).length:Nat):Int))=true:=by simp_all[a1h]
  have B:decide ((0:Int)≤((zn[i]:Nat):Int))=true:=by simp
  have C:decide (((zn[i]:Nat):Int)≤((l.length:Nat):Int))=true:=by grind
  have s:(l.take zn[i]).length=zn[i]:=by simp_all
  have b:(l.drop zn[i]).length=(zn.drop (i+1)).sum:=by grind
  have v:(l.take zn[i]).all a0A=true:=lA.2 fun x y=>lA.1 hw x (a25 y);have w:(l.drop zn[i]).all a0A=true:=lA.2 fun x y=>lA.1 hw x (a26 y);have e:∃d,a1s (l,c,(zn.length:Int),(i:Int),a1v zn,p,())=some (.inl (l.drop zn[i],c+d,(zn.length:Int),((i+1:Nat):Int),a1v zn,p,()))∧0≤d∧d≤10+65*zn[i]:=by
   by_cases h31:p.2.1[i]=31
   have a:(p.2.1[i]==31)=true:=by simp_all
   obtain⟨r,m,t,u⟩:=c2d (l:=l.take zn[i]) (by omega);have n:wrap .i64 (5+r)=5+r:=a0H (by omega);have o:wrap .i64 (c+(5+r))=c+(5+r):=a0H (by omega);refine⟨5+r,?_,by omega,by omega⟩;simp only[a1s,dlt h,z,A,a4j h,B,C,cT,a03,tN,a0B f,oB,a,m,n,o,a20,a0C (show i<1000000 by omega)];have a:(p.2.1[i]==31)=false:=by simp_all
   simp[kB]at q;obtain⟨K,D⟩:=a01 (show 0≤p.2.1[i]by omega);obtain⟨r,m,t,u⟩:=c3k (k:=K) (by omega) v (by omega);rw[←D]at m;have n:wrap .i64 (5+r)=5+r:=a0H (by omega);have o:wrap .i64 (c+(5+r))=c+(5+r):=a0H (by omega);refine⟨5+r,?_,by omega,by omega⟩;simp only[a1s,dlt h,z,A,a4j h,B,C,cT,cF,a03,tN,a0B f,oB,a,m,n,o,a20,a0C (show i<1000000 by omega)]
  obtain⟨d,E,F,G⟩:=e;rw[a0E E];exact b4P H g I j (i+1) (l.drop zn[i]) _ (by omega) b.symm w (by omega) (by omega) (by omega)
theorem b1w{zn:List Nat}{p:Prt}{l:List Int}(H:p.2.1.length=zn.length)(h:p.2.1.all kB=true)(N:zn.length≤256)(t:l.all a0A=true)(o:l.length≤5000):∀(j i off:Nat)(c:Int),i+j=zn.length→off+(zn.drop i).sum=l.length→4≤c→c+10*j+65*(l.length-off:Nat)<1000000→
  ∃c',x0r a5U (l,c,(off:Int),(i:Int),a1v zn,p,())=some (c',())∧4≤c'
 |0,i,off,c,hi,_,hc,_=>by
  obtain rfl:i=zn.length:=by omega
  simp_all[a0D,a5U,a1h]
 |j+1,i,off,c,hi,hsum,hc,hb=>by
  have b:i<zn.length:=by omega
  have a:i<p.2.1.length:=by omega
  have m:=lA.1 h _ (a04 a);rw[b1H b]at hsum;have y:decide ((0:Int)≤(i:Int))=true:=by simp
  have z:decide ((i:Int)<(((a1v zn).length:Nat):Int))=true:=by simp_all[a1h]
  have w:wrap .i64 ((off:Int)+((zn[i]:Nat):Int))=((off+zn[i]:Nat):Int):=by grind[a0H]
  have A:decide ((0:Int)≤((off+zn[i]:Nat):Int))=true:=by rfl
  have B:decide (((off+zn[i]:Nat):Int)≤((l.length:Nat):Int))=true:=by grind
  have C:decide ((0:Int)≤(off:Int))=true:=by simp
  have D:decide ((off:Int)≤((off+zn[i]:Nat):Int))=true:=by grind
  have g:List.drop off (b17 (off+zn[i]) l)=(l.drop off).take zn[i]:=by grind
  have q:((l.drop off).take zn[i]).length=zn[i]:=by rw[a07,a21];omega
  have s:((l.drop off).take zn[i]).all a0A=true:=lA.2 fun x M=>lA.1 t x (a26 (a25 M));have f:∃d,a9D (p.2.1[i],(l.drop off).take zn[i])=some d∧0≤d∧d≤5+65*zn[i]:=by
   unfold a9D
   by_cases h31:p.2.1[i]=31
   have e:(p.2.1[i]==31)=true:=by simp_all
   have P:=c2D (a2T ((l.drop off).take zn[i])) (show((l.drop off).take zn[i]).length<10000 by omega);refine⟨5+((a0I ((l.drop off).take zn[i]):Nat):Int)*((((l.drop off).take zn[i]).length:Nat):Int),?_,by omega,by omega⟩;simp only[e,cT,b1i (show short ((l.drop off).take zn[i])by unfold short;omega),oB];rw[Int.mul_comm (((((l.drop off).take zn[i]).length:Nat):Int)),a0H (n:=((a0I ((l.drop off).take zn[i]):Nat):Int)*((((l.drop off).take zn[i]).length:Nat):Int)) (by omega),a0H (by omega)];have e:(p.2.1[i]==31)=false:=by simp_all
   simp[kB]at m;obtain⟨K,O⟩:=a01 (show 0≤p.2.1[i]by omega);obtain⟨r,Q,I,L⟩:=b9Q (k:=K) (by omega) s (by omega)
   grind
  obtain⟨d,E,F,G⟩:=f;have u:wrap .i64 (c+5)=c+5:=a0H (by omega);have v:wrap .i64 (c+5+d)=c+5+d:=a0H (by omega);rw[a0E (s':=(l,c+5+d,((off+zn[i]:Nat):Int),((i+1:Nat):Int),a1v zn,p,())) (by
   simp only[a5U,y,z,a4j b,w,A,B,C,D,cT,a03,tN,a0B a,oB,g,E,u,v,a0C (show i<1000000 by omega)])]
  exact b1w H h N t o j (i+1) (off+zn[i]) _ (by omega) (by omega) (by omega) (by omega)
structure PartsOk (p:Prt) (n warm:Int) (l:List Int) (zn:List Nat):Prop where
 may:a3e p n warm=true
 sizes:a1p p.1 n warm=a1v zn
 sum:zn.sum=l.length
 len:zn.length≤256
 ks:p.2.1.length=zn.length
 all:p.2.1.all kB=true
 wide:l.all a0A=true
 short:l.length≤5000
 row:a3U n warm=true
 rest:(l.length:Int)=n-warm
 order:0≤p.1∧p.1≤8
theorem PartsOk.of{p:Prt}{n warm:Int}{l:List Int}(h:a3e p n warm=true)(i:(l.length:Int)=n-warm)(j:l.all a0A=true)(e:l.length≤5000):∃g,PartsOk p n warm l g:=by
 have f:=h;simp only[a3e,bA,a41,beq_eq_false_iff_ne,ne_eq,beq_iff_eq]at f;obtain⟨c,o,d⟩:=f;obtain⟨g,a,m,b⟩:=b5s c;have k:a3U n warm=true∧0≤p.1∧p.1≤8:=by
  grind[a1p]
 exact⟨g,h,a,by omega,b,by simp_all[a1h],d,j,e,k.1,i,k.2⟩
theorem b1I{n warm:Int}{l:List Int}(h:a3U n warm=true)(c:(l.length:Int)=n-warm)(d:l.all a0A=true)(a:l.length≤5000):a6W (n,warm,l)=some true:=by
 have e:wrap .i64 (n-warm)=n-warm:=by
  simp[a3U]at h;exact a0H (by omega)
 have k:(((l.length:Nat):Int) != n-warm)=false:=by simp_all
 have f:b3K=a2r:=rfl;have g:short l:=by unfold short;omega
 have b:=a4u g;simp_all[a1S,a6W,b8m]
theorem c0Z(h:PartsOk p n warm l zn):∃c,a4A (p,n,warm,l)=some c∧4≤c:=by
 have k:Go.Ab.short p.2.1:=by have:=h.ks;have:=h.len;unfold Go.Ab.short;omega
 have a:=h.short;have b:=h.len;obtain⟨c,g,f⟩:=b4P h.ks h.all h.len zn.length 0 l 4 (by omega) (by rw[a08];exact h.sum) h.wide h.short (by omega) (by omega);simp at g;refine⟨c,?_,f⟩;unfold a4A;simp only[b1g k,h.may,b1I h.row h.rest h.wide h.short,oB,bT,cF,a2z,h.sizes,a1h,g]
theorem b8u(h:PartsOk p n warm l zn):∃c,a8O (p,n,warm,l)=some c∧4≤c:=by
 have a:Go.Ab.short p.2.1:=by have:=h.ks;have:=h.len;unfold Go.Ab.short;omega
 have d:Go.Ab.short l:=by have:=h.short;unfold Go.Ab.short;omega
 have i:=h.short;have j:=h.len;have b:=h.row;simp[a3U]at b;have e:wrap .i64 (n-warm)=n-warm:=a0H (by omega);have k:(((l.length:Nat):Int) != n-warm)=false:=by rw[h.rest];simp
 obtain⟨c,g,f⟩:=b1w h.ks h.all h.len h.wide h.short zn.length 0 0 4 (by omega) (by rw[a08,h.sum];omega) (by omega) (by omega);simp at g;refine⟨c,?_,f⟩;unfold a8O;simp only[b1h a,h.may,oB,bT,cF,e,k,a1r d,h.wide,a8U,h.sizes,g]
def a1Q(p:Prt)(zn:List Nat)(l L:List Int):List Int:=a2A zn p.2.1 l (a0G (wrap .u64 p.1) 4 L)
theorem c3X(h:PartsOk p n warm l zn)(i:L.length<700000000):b2a (wL L,p,n,warm,l)=some (0,wL (a1Q p zn l L)):=by
 have e:=h.short;have j:=h.len;obtain⟨c,a,b⟩:=c0Z h;have k:(c==0)=false:=by grind
 have d:=a0K (wrap .u64 p.1) 4 L;have f:a0F (wL L,wrap .u64 p.1,(4:Int))=some (a1V (wrap .u64 p.1) 4,wL (a0G (wrap .u64 p.1) 4 L)):=a3f (n:=4) (by omega) (by omega);have g:=b5U h.ks h.all h.len zn.length 0 l (a0G (wrap .u64 p.1) 4 L) (by omega) (by rw[a08];exact h.sum) h.wide h.short (by omega);simp at g;unfold b2a;simp only[a,oB,k,cF,f,a2z,h.sizes,a1h,g,a1Q]
theorem c1a(h:PartsOk p n warm l zn)(i:L.length<700000000):a9E ((L,()),p,n,warm,l)=some (0,a1Q p zn l L,()):=by
 have e:=h.short;have j:=h.len;obtain⟨c,a,b⟩:=b8u h;have k:(c==0)=false:=by grind
 have d:=a0K (wrap .u64 p.1) 4 L;have f:a0J ((L,()),wrap .u64 p.1,(4:Int))=some (a1V (wrap .u64 p.1) 4,a0G (wrap .u64 p.1) 4 L,()):=a1u (n:=4) (by omega) (by omega);have g:=b2G h.ks h.all h.len h.wide h.short zn.length 0 0 (a0G (wrap .u64 p.1) 4 L) (by omega) (by rw[a08,h.sum];omega) (by omega);simp at g;unfold a9E;simp only[a,oB,k,cF,f,a8U,h.sizes,g,a1Q]
theorem c1b{c:List Int}{wd:Nat}(k:wd≤32)(g:c.length<10000):∀(j i:Nat)(L:List Int),i+j=c.length→L.length+64*j<999990000→
  x0r a5L ((wd:Int),c,(c.length:Int),(i:Int),wL L,())=some (wL (a1f wd (c.drop i) L),())
 |0,i,L,hi,_=>by
  obtain rfl:i=c.length:=by omega
  simp_all[a0D,a5L,a1f]
 |j+1,i,L,hi,hb=>by
  have h:i<c.length:=by omega
  have f:=a0K (a1I c[i] wd) wd L;rw[a02 h,a0E (s':=((wd:Int),c,(c.length:Int),((i+1:Nat):Int),wL (a0G (a1I c[i] wd) wd L),())) (by
   simp only[a5L,dlt h,cT,a0B h,oB,b4d (show wd≤63 by omega) (show L.length<999999000 by omega),a0C (show i<1000000 by omega)])]
  exact c1b k g j (i+1) _ (by omega) (by omega)
theorem c2E{t:List Int}{n wd:Int}{s:Sub}(a:t.length=3):∀(j i:Nat)(L:List Int),i+j=3→L.length+64*j<999990000→
  x0r b0G (n,wd,t,(i:Int),wL L,s,())=some (n,wd,wL (a1f 8 (t.drop i) L),s,())
 |0,i,L,hi,_=>by
  obtain rfl:i=t.length:=by omega
  grind[a0D,b0G,a1f]
 |j+1,i,L,hi,hb=>by
  have h:i<t.length:=by omega
  have f:decide ((i:Int)<3)=true:=by grind
  have k:=a0K (a1I t[i] 8) 8 L;have g:a2D (wL L,t[i],(8:Int))=some (wL (a0G (a1I t[i] 8) 8 L)):=b4d (n:=8) (by omega) (by omega);rw[a02 h,a0E (s':=(n,wd,t,((i+1:Nat):Int),wL (a0G (a1I t[i] 8) 8 L),s,())) (by
   simp only[b0G,f,cT,a0B h,oB,g,a0C (show i<1000000 by omega)])]
  exact c2E a j (i+1) _ (by omega) (by omega)
theorem c2F{l:List Int}{n:Int}{wd:Nat}{s:Sub}(k:wd≤32)(g:l.length<10000):∀(j i:Nat)(L:List Int),i+j=l.length→L.length+64*j<999990000→
  x0r b0I (n,(wd:Int),l,(l.length:Int),(i:Int),wL L,s,())=some (n,wL (a1f wd (l.drop i) L),s,())
 |0,i,L,hi,_=>by
  obtain rfl:i=l.length:=by omega
  simp_all[a0D,b0I,a1f]
 |j+1,i,L,hi,hb=>by
  have h:i<l.length:=by omega
  have f:=a0K (a1I l[i] wd) wd L;rw[a02 h,a0E (s':=(n,(wd:Int),l,(l.length:Int),((i+1:Nat):Int),wL (a0G (a1I l[i] wd) wd L),s,())) (by
   simp only[b0I,dlt h,cT,a0B h,oB,b4d (show wd≤63 by omega) (show L.length<999999000 by omega),a0C (show i<1000000 by omega)])]
  exact c2F k g j (i+1) _ (by omega) (by omega)
def a4K(s:Stg)(L:List Int):List Int:=a0G (wrap .u64 s.2.1) 4 (a0G (wrap .u64 (wrap .i64 (s.1-1))) 5 L)
def a1W(st:List Stg)(L:List Int):List Int:=st.foldl (fun L s=>a4K s L) L
theorem b3c(s:Stg)(L:List Int):(a4K s L).length≤L.length+9:=by
 grind[a0K,a4K]
theorem b5V:∀(st:List Stg)(L:List Int),(a1W st L).length≤L.length+9*st.length
 | [],L=>by simp[a1W]
 |s::st,L=>by
  have h:=b3c s L;have g:=b5V st (a4K s L);have e:a1W (s::st) L=a1W st (a4K s L):=rfl
  grind
theorem b9v{st:List Stg}{n wd:Int}{s:Sub}(a:st.length<10000):∀(j i:Nat)(L:List Int),i+j=st.length→L.length+64*j<999990000→
  x0r b0H (n,wd,st,(st.length:Int),(i:Int),wL L,s,())=some (n,wd,wL (a1W (st.drop i) L),s,())
 |0,i,L,hi,_=>by
  obtain rfl:i=st.length:=by omega
  simp_all[a0D,b0H,a1W]
 |j+1,i,L,hi,hb=>by
  have h:i<st.length:=by omega
  have k:=a0K (wrap .u64 (wrap .i64 (st[i].1-1))) 5 L;have b:=b3c st[i] L;have g:a0F (wL L,wrap .u64 (wrap .i64 (st[i].1-1)),(5:Int))=some (a1V (wrap .u64 (wrap .i64 (st[i].1-1))) 5,wL (a0G (wrap .u64 (wrap .i64 (st[i].1-1))) 5 L)):=a3f (n:=5) (by omega) (by omega);have f:a0F (wL (a0G (wrap .u64 (wrap .i64 (st[i].1-1))) 5 L),wrap .u64 st[i].2.1,(4:Int))=some (a1V (wrap .u64 st[i].2.1) 4,wL (a4K st[i] L)):=a3f (n:=4) (by omega) (by omega);rw[a02 h,a0E (s':=(n,wd,st,(st.length:Int),((i+1:Nat):Int),wL (a4K st[i] L),s,())) (by
   simp only[b0H,dlt h,cT,a0B h,oB,g,f,a0C (show i<1000000 by omega)])]
  exact b9v a j (i+1) _ (by omega) (by omega)
theorem b4Q{n wd:Int}{s:Sub}(a:s.2.2.2.2.2.2.2.1.length<10000):∀(j i:Nat)(L:List Int),i+j=s.2.2.2.2.2.2.2.1.length→L.length+64*j<999990000→
  x0r a7P (n,wd,(i:Int),(L,()),s,())=some (n,wd,(a1W (s.2.2.2.2.2.2.2.1.drop i) L,()),s,())
 |0,i,L,hi,_=>by
  obtain rfl:i=s.2.2.2.2.2.2.2.1.length:=by omega
  simp_all[a0D,a7P,a1W]
 |j+1,i,L,hi,hb=>by
  have h:i<s.2.2.2.2.2.2.2.1.length:=by omega
  have k:=a0K (wrap .u64 (wrap .i64 (s.2.2.2.2.2.2.2.1[i].1-1))) 5 L;have b:=b3c s.2.2.2.2.2.2.2.1[i] L;have g:a0J ((L,()),wrap .u64 (wrap .i64 (s.2.2.2.2.2.2.2.1[i].1-1)),(5:Int))=some (a1V (wrap .u64 (wrap .i64 (s.2.2.2.2.2.2.2.1[i].1-1))) 5,a0G (wrap .u64 (wrap .i64 (s.2.2.2.2.2.2.2.1[i].1-1))) 5 L,()):=a1u (n:=5) (by omega) (by omega);have f:a0J ((a0G (wrap .u64 (wrap .i64 (s.2.2.2.2.2.2.2.1[i].1-1))) 5 L,()),wrap .u64 s.2.2.2.2.2.2.2.1[i].2.1,(4:Int))=some (a1V (wrap .u64 s.2.2.2.2.2.2.2.1[i].2.1) 4,a4K s.2.2.2.2.2.2.2.1[i] L,()):=a1u (n:=4) (by omega) (by omega);rw[a02 h,a0E (s':=(n,wd,((i+1:Nat):Int),(a4K s.2.2.2.2.2.2.2.1[i] L,()),s,())) (by
   simp only[a7P,dlt h,cT,a0B h,oB,g,f,a0C (show i<1000000 by omega)])]
  exact b4Q a j (i+1) _ (by omega) (by omega)
def a3C(s:Sub)(L:List Int):List Int:=
 a1f (a0I s.2.2.2.2.2.1) s.2.2.2.2.2.1 (a0G ((a0I s.2.2.2.2.2.1:Nat):Int) 5 (a0G (wrap .u64 s.2.2.2.1) 4 (a0G (wrap .u64 (wrap .i64 (((s.2.2.2.2.2.1.length:Nat):Int)-1))) 5 L)))
theorem c3l{s:Sub}(h:s.2.2.2.2.2.1.length≤40)(L:List Int):(a3C s L).length≤L.length+2000:=by
 unfold a3C;have f:=a0K (wrap .u64 (wrap .i64 (((s.2.2.2.2.2.1.length:Nat):Int)-1))) 5 L;have k:=a0K (wrap .u64 s.2.2.2.1) 4 (a0G (wrap .u64 (wrap .i64 (((s.2.2.2.2.2.1.length:Nat):Int)-1))) 5 L);have a:=a0K ((a0I s.2.2.2.2.2.1:Nat):Int) 5 (a0G (wrap .u64 s.2.2.2.1) 4 (a0G (wrap .u64 (wrap .i64 (((s.2.2.2.2.2.1.length:Nat):Int)-1))) 5 L));have b:=a3B (a0I s.2.2.2.2.2.1) s.2.2.2.2.2.1 (a0G ((a0I s.2.2.2.2.2.1:Nat):Int) 5 (a0G (wrap .u64 s.2.2.2.1) 4 (a0G (wrap .u64 (wrap .i64 (((s.2.2.2.2.2.1.length:Nat):Int)-1))) 5 L)));have g:=a2T s.2.2.2.2.2.1
 have:a0I s.2.2.2.2.2.1*s.2.2.2.2.2.1.length≤32*40:=a85 g h
 omega
theorem b9w(h:s.2.2.2.2.2.1.length≤40)(l:L.length<900000000):a8v (wL L,s)=some (wL (a3C s L)):=by
 have e:=a0K (wrap .u64 (wrap .i64 (((s.2.2.2.2.2.1.length:Nat):Int)-1))) 5 L;have i:=a0K (wrap .u64 s.2.2.2.1) 4 (a0G (wrap .u64 (wrap .i64 (((s.2.2.2.2.2.1.length:Nat):Int)-1))) 5 L);have j:=a0K ((a0I s.2.2.2.2.2.1:Nat):Int) 5 (a0G (wrap .u64 s.2.2.2.1) 4 (a0G (wrap .u64 (wrap .i64 (((s.2.2.2.2.2.1.length:Nat):Int)-1))) 5 L));have k:=a2T s.2.2.2.2.2.1;have f:wrap .u64 ((a0I s.2.2.2.2.2.1:Nat):Int)=((a0I s.2.2.2.2.2.1:Nat):Int):=a0M (by omega);have a:a0F (wL L,wrap .u64 (wrap .i64 (((s.2.2.2.2.2.1.length:Nat):Int)-1)),(5:Int))=some (a1V (wrap .u64 (wrap .i64 (((s.2.2.2.2.2.1.length:Nat):Int)-1))) 5,wL (a0G (wrap .u64 (wrap .i64 (((s.2.2.2.2.2.1.length:Nat):Int)-1))) 5 L)):=a3f (n:=5) (by omega) (by omega);have b:a0F (wL (a0G (wrap .u64 (wrap .i64 (((s.2.2.2.2.2.1.length:Nat):Int)-1))) 5 L),wrap .u64 s.2.2.2.1,(4:Int))=some (a1V (wrap .u64 s.2.2.2.1) 4,wL (a0G (wrap .u64 s.2.2.2.1) 4 (a0G (wrap .u64 (wrap .i64 (((s.2.2.2.2.2.1.length:Nat):Int)-1))) 5 L))):=a3f (n:=4) (by omega) (by omega);have d:a0F (wL (a0G (wrap .u64 s.2.2.2.1) 4 (a0G (wrap .u64 (wrap .i64 (((s.2.2.2.2.2.1.length:Nat):Int)-1))) 5 L)),((a0I s.2.2.2.2.2.1:Nat):Int),(5:Int))=some (a1V ((a0I s.2.2.2.2.2.1:Nat):Int) 5,wL (a0G ((a0I s.2.2.2.2.2.1:Nat):Int) 5 (a0G (wrap .u64 s.2.2.2.1) 4 (a0G (wrap .u64 (wrap .i64 (((s.2.2.2.2.2.1.length:Nat):Int)-1))) 5 L)))):=a3f (n:=5) (by omega) (by omega);have g:=c1b (c:=s.2.2.2.2.2.1) k (by omega) s.2.2.2.2.2.1.length 0 (a0G ((a0I s.2.2.2.2.2.1:Nat):Int) 5 (a0G (wrap .u64 s.2.2.2.1) 4 (a0G (wrap .u64 (wrap .i64 (((s.2.2.2.2.2.1.length:Nat):Int)-1))) 5 L))) (by omega) (by omega);simp at g;unfold a8v;simp only[a,b,a5A (show short s.2.2.2.2.2.1 by unfold short;omega),f,d,g,oB,a3C]
theorem b4h(h:s.2.2.2.2.2.1.length≤40)(i:L.length<800000000):a5v ((L,()),s)=some (a3C s L,()):=by
 have c:=a0K (wrap .u64 (wrap .i64 (((s.2.2.2.2.2.1.length:Nat):Int)-1))) 5 L;have d:=a0K (wrap .u64 s.2.2.2.1) 4 (a0G (wrap .u64 (wrap .i64 (((s.2.2.2.2.2.1.length:Nat):Int)-1))) 5 L);have e:=a0K ((a0I s.2.2.2.2.2.1:Nat):Int) 5 (a0G (wrap .u64 s.2.2.2.1) 4 (a0G (wrap .u64 (wrap .i64 (((s.2.2.2.2.2.1.length:Nat):Int)-1))) 5 L));have j:=a2T s.2.2.2.2.2.1;have f:wrap .u64 ((a0I s.2.2.2.2.2.1:Nat):Int)=((a0I s.2.2.2.2.2.1:Nat):Int):=a0M (by omega);have k:a0J ((L,()),wrap .u64 (wrap .i64 (((s.2.2.2.2.2.1.length:Nat):Int)-1)),(5:Int))=some (a1V (wrap .u64 (wrap .i64 (((s.2.2.2.2.2.1.length:Nat):Int)-1))) 5,a0G (wrap .u64 (wrap .i64 (((s.2.2.2.2.2.1.length:Nat):Int)-1))) 5 L,()):=a1u (n:=5) (by omega) (by omega);have a:a0J ((a0G (wrap .u64 (wrap .i64 (((s.2.2.2.2.2.1.length:Nat):Int)-1))) 5 L,()),wrap .u64 s.2.2.2.1,(4:Int))=some (a1V (wrap .u64 s.2.2.2.1) 4,a0G (wrap .u64 s.2.2.2.1) 4 (a0G (wrap .u64 (wrap .i64 (((s.2.2.2.2.2.1.length:Nat):Int)-1))) 5 L),()):=a1u (n:=4) (by omega) (by omega);have b:a0J ((a0G (wrap .u64 s.2.2.2.1) 4 (a0G (wrap .u64 (wrap .i64 (((s.2.2.2.2.2.1.length:Nat):Int)-1))) 5 L),()),((a0I s.2.2.2.2.2.1:Nat):Int),(5:Int))=some (a1V ((a0I s.2.2.2.2.2.1:Nat):Int) 5,a0G ((a0I s.2.2.2.2.2.1:Nat):Int) 5 (a0G (wrap .u64 s.2.2.2.1) 4 (a0G (wrap .u64 (wrap .i64 (((s.2.2.2.2.2.1.length:Nat):Int)-1))) 5 L)),()):=a1u (n:=5) (by omega) (by omega);have g:=a6K (l:=s.2.2.2.2.2.1) (n:=a0I s.2.2.2.2.2.1) (L:=a0G ((a0I s.2.2.2.2.2.1:Nat):Int) 5 (a0G (wrap .u64 s.2.2.2.1) 4 (a0G (wrap .u64 (wrap .i64 (((s.2.2.2.2.2.1.length:Nat):Int)-1))) 5 L))) (by omega) (by omega) (by omega);unfold a5v;simp only[k,a,b1i (show short s.2.2.2.2.2.1 by unfold short;omega),f,b,g,oB,a3C]
def a7T(s:Sub)(L:List Int):List Int:=
 a0G ((a0I s.2.2.2.2.2.2.2.2.1:Nat):Int) 5 (a0G (wrap .u64 s.2.1) 5 (a0G (wrap .u64 s.1) 3 L))
def a1g(s:Sub)(L:List Int):List Int:=
 if s.1=2 then a0G (wrap .u64 s.2.2.1) 3 L
 else if s.1=3 then a3C s L
 else if s.1=4 then a3C s (a1f 8 s.2.2.2.2.2.2.1 (a0G (wrap .u64 (wrap .i64 (s.2.2.2.2.1-1))) 10 L))
 else if s.1=5 then a1W s.2.2.2.2.2.2.2.1 (a0G (wrap .u64 ((s.2.2.2.2.2.2.2.1.length:Nat):Int)) 2 L)
 else L
theorem b8v(h:SmallS s)(L:List Int):(a1g s L).length≤L.length+3000:=by
 have f:=h.coefs;have k:=h.taps;have g:=h.stages
 grind[a1g,a0K,c3l,a3B,b5V]
theorem b3d:∀(zs:List Nat)(ks l L:List Int),ks.all kB=true→(a2A zs ks l L).length≤L.length+10*zs.length+100*l.length
 |z::zs,k::ks,l,L,h=>by
  simp only[a09,bA]at h;have g:=b4g h.1 (l.take z) L;have f:=b3d zs ks (l.drop z) (a6L k (l.take z) L) h.2;rw[a07]at g;rw[a21]at f;simp only[a2A,lC];omega
 | [],_,_,_,_=>by simp_all[a2A]
 |_::_,[],_,_,_=>by grind[a2A]
def a1X(s:Sub)(zn:List Nat)(L:List Int):List Int:=
 if s.1=0∨s.1=1 then a1f (a0I s.2.2.2.2.2.2.2.2.1) s.2.2.2.2.2.2.2.2.1 (a1g s (a7T s L))
 else a1Q s.2.2.2.2.2.2.2.2.2.1 zn s.2.2.2.2.2.2.2.2.2.2.1 (a1f (a0I s.2.2.2.2.2.2.2.2.1) s.2.2.2.2.2.2.2.2.1 (a1g s (a7T s L)))
theorem b6A(h:SmallS s)(S:L.length<100000000):
  ∃(e:Int)(L':List Int),a9R (wL L,s,n)=some (e,wL L')∧(e=0∨L'=L)∧L'.length≤L.length+700000∧
   ((a1o s n).isSome=true→e=0∧∃a,L'=a1X s a L∧(s.1≠0∧s.1≠1→PartsOk s.2.2.2.2.2.2.2.2.2.1 n ((s.2.2.2.2.2.2.2.2.1.length:Nat):Int) s.2.2.2.2.2.2.2.2.2.2.1 a))∧((a1o s n).isSome=false→e=1∧L'=L):=by
 unfold a9R;simp only[c6E h,oB];cases hs:(a1o s n).isSome with
 |false=>exact⟨1,L,rfl,.inr rfl,by omega,fun h=>(by grind),fun _=>⟨rfl,rfl⟩⟩
 |true=>
  have hp:a1i s n:=by
   grind[a1o]
  obtain⟨Q,R,A,-,-,-,-,v,E,B,-,p⟩:=hp;have b:=b2F A;have m:=a2T s.2.2.2.2.2.2.2.2.1;have u:short s.2.2.2.2.2.2.2.2.1:=by have:=h.warm;unfold short;omega
  have c:=h.warm;have r:=h.rest;have C:=h.stages;have D:=h.taps;have T:=a0K (wrap .u64 s.1) 3 L;have U:=a0K (wrap .u64 s.2.1) 5 (a0G (wrap .u64 s.1) 3 L);have V:=a0K ((a0I s.2.2.2.2.2.2.2.2.1:Nat):Int) 5 (a0G (wrap .u64 s.2.1) 5 (a0G (wrap .u64 s.1) 3 L));have z:wrap .u64 ((a0I s.2.2.2.2.2.2.2.2.1:Nat):Int)=((a0I s.2.2.2.2.2.2.2.2.1:Nat):Int):=a0M (by omega);have I:a0F (wL L,wrap .u64 s.1,(3:Int))=some (a1V (wrap .u64 s.1) 3,wL (a0G (wrap .u64 s.1) 3 L)):=a3f (n:=3) (by omega) (by omega);have K:a0F (wL (a0G (wrap .u64 s.1) 3 L),wrap .u64 s.2.1,(5:Int))=some (a1V (wrap .u64 s.2.1) 5,wL (a0G (wrap .u64 s.2.1) 5 (a0G (wrap .u64 s.1) 3 L))):=a3f (n:=5) (by omega) (by omega);have w:a0F (wL (a0G (wrap .u64 s.2.1) 5 (a0G (wrap .u64 s.1) 3 L)),((a0I s.2.2.2.2.2.2.2.2.1:Nat):Int),(5:Int))=some (a1V ((a0I s.2.2.2.2.2.2.2.2.1:Nat):Int) 5,wL (a7T s L)):=a3f (n:=5) (by omega) (by omega);have N:(a7T s L).length≤L.length+13:=by unfold a7T;omega
  generalize hM:a7T s L=M at w N;have X:=b8v h M;have O:=a3B (a0I s.2.2.2.2.2.2.2.2.1) s.2.2.2.2.2.2.2.2.1 (a1g s M);have Y:a0I s.2.2.2.2.2.2.2.2.1*s.2.2.2.2.2.2.2.2.1.length≤32*5000:=a85 m c;have g:=c2F (l:=s.2.2.2.2.2.2.2.2.1) (n:=n) (s:=s) m (by omega) s.2.2.2.2.2.2.2.2.1.length 0 (a1g s M) (by omega) (by omega);simp at g

  have i:=b9v (st:=s.2.2.2.2.2.2.2.1) (n:=n) (wd:=((a0I s.2.2.2.2.2.2.2.2.1:Nat):Int)) (s:=s) (by omega) s.2.2.2.2.2.2.2.1.length 0 (a0G (wrap .u64 ((s.2.2.2.2.2.2.2.1.length:Nat):Int)) 2 M) (by omega) (by grind[a0K]);have Z:=a0K (wrap .u64 (wrap .i64 (s.2.2.2.2.1-1))) 10 M;have q9:=a3B 8 s.2.2.2.2.2.2.1 (a0G (wrap .u64 (wrap .i64 (s.2.2.2.2.1-1))) 10 M);have j:=c2E (t:=s.2.2.2.2.2.2.1) (n:=n) (wd:=((a0I s.2.2.2.2.2.2.2.2.1:Nat):Int)) (s:=s) D 3 0 (a0G (wrap .u64 (wrap .i64 (s.2.2.2.2.1-1))) 10 M) (by rfl) (by omega);simp at i j;have F:a0F (wL M,wrap .u64 s.2.2.1,(3:Int))=some (a1V (wrap .u64 s.2.2.1) 3,wL (a0G (wrap .u64 s.2.2.1) 3 M)):=a3f (n:=3) (by omega) (by omega);have G:a0F (wL M,wrap .u64 (wrap .i64 (s.2.2.2.2.1-1)),(10:Int))=some (a1V (wrap .u64 (wrap .i64 (s.2.2.2.2.1-1))) 10,wL (a0G (wrap .u64 (wrap .i64 (s.2.2.2.2.1-1))) 10 M)):=a3f (n:=10) (by omega) (by omega);have H:a0F (wL M,wrap .u64 ((s.2.2.2.2.2.2.2.1.length:Nat):Int),(2:Int))=some (a1V (wrap .u64 ((s.2.2.2.2.2.2.2.1.length:Nat):Int)) 2,wL (a0G (wrap .u64 ((s.2.2.2.2.2.2.2.1.length:Nat):Int)) 2 M)):=a3f (n:=2) (by omega) (by omega);have x:=b9w (s:=s) h.coefs (L:=M) (by omega);have y:=b9w (s:=s) h.coefs (L:=a1f 8 s.2.2.2.2.2.2.1 (a0G (wrap .u64 (wrap .i64 (s.2.2.2.2.1-1))) 10 M)) (by omega);simp only[bT,cF,a5A u,oB,I,K,z,w];generalize hPM:a1f (a0I s.2.2.2.2.2.2.2.2.1) s.2.2.2.2.2.2.2.2.1 (a1g s M)=PM at g O

  have o:∀(d:s.1≠0∧s.1≠1),∃a,PartsOk s.2.2.2.2.2.2.2.2.2.1 n ((s.2.2.2.2.2.2.2.2.1.length:Nat):Int) s.2.2.2.2.2.2.2.2.2.2.1 a:=fun d=>by
   simp_all[PartsOk.of]
  rcases b with k|k|k|k|k|k;have f:a1g s M=M:=by unfold a1g;grind
  rw[f]at g;refine⟨0,PM,?_,.inl rfl,by omega,fun _=>⟨rfl,[],by simp_all[a1X],fun h=>absurd k (by omega)⟩,fun h=>by grind⟩;simp only[k,show((0:Int)==2)=false from rfl,show((0:Int)==4)=false from rfl,show((0:Int)==3)=false from rfl,show((0:Int)==5)=false from rfl,cF,oB,g,a8n]
  simp
  have f:a1g s M=M:=by unfold a1g;grind
  rw[f]at g;refine⟨0,PM,?_,.inl rfl,by omega,fun _=>⟨rfl,[],by simp_all[a1X],fun h=>absurd k (by omega)⟩,fun h=>by grind⟩;simp only[k,show((1:Int)==2)=false from rfl,show((1:Int)==4)=false from rfl,show((1:Int)==3)=false from rfl,show((1:Int)==5)=false from rfl,cF,oB,g,a8n]
  simp
  all_goals
   obtain⟨a,q⟩:=o (by omega);have t1:=c3X (L:=PM) q (by omega);have P:(a1Q s.2.2.2.2.2.2.2.2.2.1 a s.2.2.2.2.2.2.2.2.2.2.1 PM).length≤L.length+700000:=by
    have z1:=a0K (wrap .u64 s.2.2.2.2.2.2.2.2.2.1.1) 4 PM;have z2:=b3d a s.2.2.2.2.2.2.2.2.2.1.2.1 s.2.2.2.2.2.2.2.2.2.2.1 (a0G (wrap .u64 s.2.2.2.2.2.2.2.2.2.1.1) 4 PM) q.all;have z3:=q.len
    grind[a1Q]
   refine⟨0,a1Q s.2.2.2.2.2.2.2.2.2.1 a s.2.2.2.2.2.2.2.2.2.2.1 PM,?_,.inl rfl,P,fun _=>⟨rfl,a,by simp_all[a1X],fun _=>q⟩,fun h=>by grind⟩
  have f:a1g s M=a0G (wrap .u64 s.2.2.1) 3 M:=by unfold a1g;grind
  rw[f]at g;simp only[k,show((2:Int)==2)=true from rfl,cT,F,oB,g,a8n]
  grind
  have f:a1g s M=a3C s M:=by unfold a1g;grind
  rw[f]at g;simp only[k,show((3:Int)==2)=false from rfl,show((3:Int)==4)=false from rfl,show((3:Int)==3)=true from rfl,cT,cF,x,oB,g,a8n]
  grind
  have f:a1g s M=a3C s (a1f 8 s.2.2.2.2.2.2.1 (a0G (wrap .u64 (wrap .i64 (s.2.2.2.2.1-1))) 10 M)):=by unfold a1g;grind
  rw[f]at g;simp only[k,show((4:Int)==2)=false from rfl,show((4:Int)==4)=true from rfl,cT,cF,G,j,y,oB,g,a8n]
  grind
  have f:a1g s M=a1W s.2.2.2.2.2.2.2.1 (a0G (wrap .u64 ((s.2.2.2.2.2.2.2.1.length:Nat):Int)) 2 M):=by unfold a1g;grind
  rw[f]at g;simp only[k,show((5:Int)==2)=false from rfl,show((5:Int)==4)=false from rfl,show((5:Int)==3)=false from rfl,show((5:Int)==5)=true from rfl,cT,cF,H,i,oB,g,a8n]
  grind
theorem c6F(h:SmallS s)(Q:L.length<100000000):
  ∃(e:Int)(L':List Int),a8h ((L,()),s,n)=some (e,L',())∧(e=0∨L'=L)∧L'.length≤L.length+700000∧
   ((a1o s n).isSome=true→e=0∧∃a,L'=a1X s a L∧(s.1≠0∧s.1≠1→PartsOk s.2.2.2.2.2.2.2.2.2.1 n ((s.2.2.2.2.2.2.2.2.1.length:Nat):Int) s.2.2.2.2.2.2.2.2.2.2.1 a))∧((a1o s n).isSome=false→e=1∧L'=L):=by
 unfold a8h;simp only[c3i h,oB];cases hs:(a1o s n).isSome with
 |false=>grind
 |true=>
  have hp:a1i s n:=by
   grind[a1o]
  obtain⟨O,P,D,-,-,-,-,A,G,E,-,o⟩:=hp;have c:=b2F D;have w:=a2T s.2.2.2.2.2.2.2.2.1;have v:short s.2.2.2.2.2.2.2.2.1:=by have:=h.warm;unfold short;omega
  have d:=h.warm;have u:=h.rest;have F:=h.stages;have R:=h.taps;have S:=a0K (wrap .u64 s.1) 3 L;have T:=a0K (wrap .u64 s.2.1) 5 (a0G (wrap .u64 s.1) 3 L);have U:=a0K ((a0I s.2.2.2.2.2.2.2.2.1:Nat):Int) 5 (a0G (wrap .u64 s.2.1) 5 (a0G (wrap .u64 s.1) 3 L));have C:wrap .u64 ((a0I s.2.2.2.2.2.2.2.2.1:Nat):Int)=((a0I s.2.2.2.2.2.2.2.2.1:Nat):Int):=a0M (by omega);have K:a0J ((L,()),wrap .u64 s.1,(3:Int))=some (a1V (wrap .u64 s.1) 3,a0G (wrap .u64 s.1) 3 L,()):=a1u (n:=3) (by omega) (by omega);have r2:a0J ((a0G (wrap .u64 s.1) 3 L,()),wrap .u64 s.2.1,(5:Int))=some (a1V (wrap .u64 s.2.1) 5,a0G (wrap .u64 s.2.1) 5 (a0G (wrap .u64 s.1) 3 L),()):=a1u (n:=5) (by omega) (by omega);have B:a0J ((a0G (wrap .u64 s.2.1) 5 (a0G (wrap .u64 s.1) 3 L),()),((a0I s.2.2.2.2.2.2.2.2.1:Nat):Int),(5:Int))=some (a1V ((a0I s.2.2.2.2.2.2.2.2.1:Nat):Int) 5,a7T s L,()):=a1u (n:=5) (by omega) (by omega);have H:(a7T s L).length≤L.length+13:=by unfold a7T;omega
  generalize hM:a7T s L=M at B H;have V:=b8v h M;have I:=a3B (a0I s.2.2.2.2.2.2.2.2.1) s.2.2.2.2.2.2.2.2.1 (a1g s M);have X:a0I s.2.2.2.2.2.2.2.2.1*s.2.2.2.2.2.2.2.2.1.length≤32*5000:=a85 w d;have g:=a6K (l:=s.2.2.2.2.2.2.2.2.1) (n:=a0I s.2.2.2.2.2.2.2.2.1) (L:=a1g s M) (by omega) (by omega) (by omega)

  have b:=b4Q (n:=n) (wd:=((a0I s.2.2.2.2.2.2.2.2.1:Nat):Int)) (s:=s) (by omega) s.2.2.2.2.2.2.2.1.length 0 (a0G (wrap .u64 ((s.2.2.2.2.2.2.2.1.length:Nat):Int)) 2 M) (by omega) (by grind[a0K]);have Y:=a0K (wrap .u64 (wrap .i64 (s.2.2.2.2.1-1))) 10 M;have Z:=a3B 8 s.2.2.2.2.2.2.1 (a0G (wrap .u64 (wrap .i64 (s.2.2.2.2.1-1))) 10 M);have j:a2y ((a0G (wrap .u64 (wrap .i64 (s.2.2.2.2.1-1))) 10 M,()),s.2.2.2.2.2.2.1,(8:Int))=some (a1f 8 s.2.2.2.2.2.2.1 (a0G (wrap .u64 (wrap .i64 (s.2.2.2.2.1-1))) 10 M),()):=a6K (n:=8) (by omega) (by omega) (by omega);have t:b17 3 s.2.2.2.2.2.2.1=s.2.2.2.2.2.2.1:=a28 (by omega);simp at b;have x:a0J ((M,()),wrap .u64 s.2.2.1,(3:Int))=some (a1V (wrap .u64 s.2.2.1) 3,a0G (wrap .u64 s.2.2.1) 3 M,()):=a1u (n:=3) (by omega) (by omega);have y:a0J ((M,()),wrap .u64 (wrap .i64 (s.2.2.2.2.1-1)),(10:Int))=some (a1V (wrap .u64 (wrap .i64 (s.2.2.2.2.1-1))) 10,a0G (wrap .u64 (wrap .i64 (s.2.2.2.2.1-1))) 10 M,()):=a1u (n:=10) (by omega) (by omega);have z:a0J ((M,()),wrap .u64 ((s.2.2.2.2.2.2.2.1.length:Nat):Int),(2:Int))=some (a1V (wrap .u64 ((s.2.2.2.2.2.2.2.1.length:Nat):Int)) 2,a0G (wrap .u64 ((s.2.2.2.2.2.2.2.1.length:Nat):Int)) 2 M,()):=a1u (n:=2) (by omega) (by omega);have q:=b4h (s:=s) h.coefs (L:=M) (by omega);have r:=b4h (s:=s) h.coefs (L:=a1f 8 s.2.2.2.2.2.2.1 (a0G (wrap .u64 (wrap .i64 (s.2.2.2.2.1-1))) 10 M)) (by omega);simp only[bT,cF,b1i v,oB,K,r2,C,B];generalize hPM:a1f (a0I s.2.2.2.2.2.2.2.2.1) s.2.2.2.2.2.2.2.2.1 (a1g s M)=PM at g I

  have m:∀(i:s.1≠0∧s.1≠1),∃a,PartsOk s.2.2.2.2.2.2.2.2.2.1 n ((s.2.2.2.2.2.2.2.2.1.length:Nat):Int) s.2.2.2.2.2.2.2.2.2.2.1 a:=fun i=>by
   simp_all[PartsOk.of]
  rcases c with k|k|k|k|k|k;have f:a1g s M=M:=by unfold a1g;grind
  rw[f]at g;refine⟨0,PM,?_,.inl rfl,by omega,fun _=>⟨rfl,[],by simp_all[a1X],fun h=>absurd k (by omega)⟩,fun h=>by grind⟩;simp only[k,show((0:Int)==2)=false from rfl,show((0:Int)==4)=false from rfl,show((0:Int)==3)=false from rfl,show((0:Int)==5)=false from rfl,cF,oB,g,a6H]
  simp
  have f:a1g s M=M:=by unfold a1g;grind
  rw[f]at g;refine⟨0,PM,?_,.inl rfl,by omega,fun _=>⟨rfl,[],by simp_all[a1X],fun h=>absurd k (by omega)⟩,fun h=>by grind⟩;simp only[k,show((1:Int)==2)=false from rfl,show((1:Int)==4)=false from rfl,show((1:Int)==3)=false from rfl,show((1:Int)==5)=false from rfl,cF,oB,g,a6H]
  simp
  all_goals
   obtain⟨a,p⟩:=m (by omega);have t2:=c1a (L:=PM) p (by omega);have N:(a1Q s.2.2.2.2.2.2.2.2.2.1 a s.2.2.2.2.2.2.2.2.2.2.1 PM).length≤L.length+700000:=by
    have z1:=a0K (wrap .u64 s.2.2.2.2.2.2.2.2.2.1.1) 4 PM;have z2:=b3d a s.2.2.2.2.2.2.2.2.2.1.2.1 s.2.2.2.2.2.2.2.2.2.2.1 (a0G (wrap .u64 s.2.2.2.2.2.2.2.2.2.1.1) 4 PM) p.all;have z3:=p.len
    grind[a1Q]
   refine⟨0,a1Q s.2.2.2.2.2.2.2.2.2.1 a s.2.2.2.2.2.2.2.2.2.2.1 PM,?_,.inl rfl,N,fun _=>⟨rfl,a,by simp_all[a1X],fun _=>p⟩,fun h=>by grind⟩
  have f:a1g s M=a0G (wrap .u64 s.2.2.1) 3 M:=by unfold a1g;grind
  rw[f]at g;simp only[k,show((2:Int)==2)=true from rfl,cT,x,oB,g,a6H]
  grind
  have f:a1g s M=a3C s M:=by unfold a1g;grind
  rw[f]at g;simp only[k,show((3:Int)==2)=false from rfl,show((3:Int)==3)=true from rfl,cT,cF,q,oB,g,a6H]
  grind
  have f:a1g s M=a3C s (a1f 8 s.2.2.2.2.2.2.1 (a0G (wrap .u64 (wrap .i64 (s.2.2.2.2.1-1))) 10 M)):=by unfold a1g;grind
  rw[f]at g;simp only[k,show((4:Int)==2)=false from rfl,show((4:Int)==3)=false from rfl,show((4:Int)==4)=true from rfl,cT,cF,y,t,j,r,oB,g,a6H]
  grind
  have f:a1g s M=a1W s.2.2.2.2.2.2.2.1 (a0G (wrap .u64 ((s.2.2.2.2.2.2.2.1.length:Nat):Int)) 2 M):=by unfold a1g;grind
  rw[f]at g;simp only[k,show((5:Int)==2)=false from rfl,show((5:Int)==4)=false from rfl,show((5:Int)==3)=false from rfl,show((5:Int)==5)=true from rfl,cT,cF,z,b,oB,g,a6H]
  grind
theorem a9l(h:List Nat):(a1v h).map a34=h:=by
 unfold a1v;rw[List.map_map]
 have:a34∘(fun(a:Nat)=>(a:Int))=id:=by rfl
 simp_all
theorem c7B{z z':List Nat}(h:PartsOk p n warm l z)(g:PartsOk p n warm l z'):z=z':=by
 rw[←a9l z,←h.sizes,g.sizes,a9l]
def a4S(s:Sub)(n:Int):Int:=
 if(a1o s n).isSome=true then(((a1X s ((a1p s.2.2.2.2.2.2.2.2.2.1.1 n ((s.2.2.2.2.2.2.2.2.1.length:Nat):Int)).map a34) []).length:Nat):Int)else 0
theorem c2e(h:s.1≠0∧s.1≠1→PartsOk s.2.2.2.2.2.2.2.2.2.1 n ((s.2.2.2.2.2.2.2.2.1.length:Nat):Int) s.2.2.2.2.2.2.2.2.2.2.1 zn)(L:List Int):
  a1X s zn L=a1X s ((a1p s.2.2.2.2.2.2.2.2.2.1.1 n ((s.2.2.2.2.2.2.2.2.1.length:Nat):Int)).map a34) L:=by
 by_cases hk:s.1=0∨s.1=1
 unfold a1X;rw[if_pos hk,if_pos hk];rw[(h (not_or.1 hk)).sizes,a9l]
theorem c5y(h:SmallS s)(n:Int):a5l (s,n)=some (a4S s n):=by
 obtain⟨e,f,g,-,-,k,a⟩:=b6A h (n:=n) (L:=[]) (by simp);have b:wL []=(([]:List Int),(0:Int),()):=rfl;rw[b]at g;obtain⟨d,-⟩:=a6I f;unfold a5l a4S;simp only[g,oB,a8S];cases hs:(a1o s n).isSome with
 |false=>
  obtain⟨rfl,rfl⟩:=a hs;rfl
 |true=>
  obtain⟨rfl,i,rfl,c⟩:=k hs;rw[if_pos rfl,←c2e c];simp only[d,show((0:Int) != 0)=false from rfl,cF]
def b3e(L:List Int)(i:Nat):List Int:=(wL (L.take i)).1++a00 ((L.length+7) / 8-(i+7) / 8) 0
theorem c5c(h:i≤L.length):(b3e L i).length=(L.length+7) / 8:=by
 obtain⟨-,g⟩:=a6I (L.take i);rw[a07,a79 h]at g;simp only[b3e,lN,List.length_replicate,g];omega
theorem c5z{a b:List α}{x:α}(h:i<a.length):(a++b).set i x=a.set i x++b:=by
 rw[b06];simp[h]
theorem c3Y{a b:List Int}(h:i<a.length):(a++b).getD i 0=a.getD i 0:=by
 simp[lD,List.getElem?_append_left h]
theorem c7C(h:i<L.length):
  (b3e L i).set (i / 8) (bits .u8 .or ((b3e L i).getD (i / 8) 0) (z0g .u8 L[i] (7-(i:Int)%8)))=b3e L (i+1):=by
 obtain⟨a,f⟩:=a6I (L.take i);rw[a07,a79 (a58 h)]at a f;have e:L.take (i+1)=L.take i++[L[i]]:=by simp
 unfold b3e;rw[e,b5T];generalize wL (L.take i)=wr at a f⊢;obtain⟨k,n,u⟩:=wr;have a:n=(i:Int):=a;have f:k.length=(i+7) / 8:=f;subst a;have e8:((i:Int) / 8).toNat=i / 8:=by omega
 unfold b8q;simp only[e8]
 by_cases hz:i%8=0
 have g:(i:Int)%8=0:=by omega
 rw[if_pos g];have c:(L.length+7) / 8-(i+7) / 8=((L.length+7) / 8-(i+1+7) / 8)+1:=by omega
 rw[c,a88];have d:k++(0:Int)::a00 ((L.length+7) / 8-(i+1+7) / 8) 0=(k++[0])++a00 ((L.length+7) / 8-(i+1+7) / 8) 0:=by simp
 have b:i / 8<(k++[(0:Int)]).length:=by simp[f];omega
 rw[d,c5z b,c3Y b];have g:¬ (i:Int)%8=0:=by omega
 rw[if_neg g];have c:(L.length+7) / 8-(i+7) / 8=(L.length+7) / 8-(i+1+7) / 8:=by omega
 have b:i / 8<k.length:=by rw[f];omega
 rw[c,c5z b,c3Y b]
theorem c3Z(A:L.length<1000000000):a5V (L,())=some ((wL L).1,L,()):=by
 have n:wrap .i64 (((L.length:Nat):Int)+7)=((L.length:Nat):Int)+7:=a0H (by omega);have o:a69 (((L.length:Nat):Int)+7) 8=(((L.length:Nat):Int)+7) / 8:=a38 (by omega);have p:wrap .i64 ((((L.length:Nat):Int)+7) / 8)=(((L.length:Nat):Int)+7) / 8:=a0H (by omega);have q:a34 ((((L.length:Nat):Int)+7) / 8)=(L.length+7) / 8:=by omega
 have r:decide ((0:Int)≤(((L.length:Nat):Int)+7) / 8)=true:=by simp;omega
 have s:decide ((((L.length:Nat):Int)+7) / 8≤(((L.length:Nat):Int)+7) / 8)=true:=by simp
 have t:lim ((L.length+7) / 8)=true:=a1a (by omega);have k:b3e L 0=a00 ((L.length+7) / 8) 0:=by simp[b3e,wL]
 have c:b3e L L.length=(wL L).1:=by simp[b3e]
 have h:=a1x (f:=a4g) (fun i:Nat=>((i:Int),b3e L i,(L,()),())) L.length (b:=((wL L).1,(L,()),()))
  (fun i d=>by
   have w:a69 (i:Int) 8=(i:Int) / 8:=a38 (by omega);have t2:a46 (i:Int) 8=(i:Int)%8:=a37 (by omega);have x:wrap .i64 ((i:Int) / 8)=(i:Int) / 8:=a0H (by omega);have w2:wrap .i64 (7-(i:Int)%8)=7-(i:Int)%8:=a0H (by omega);have y:wrap .u64 (7-(i:Int)%8)=7-(i:Int)%8:=a0M (by omega);have z:wrap .i64 ((i:Int)+1)=((i+1:Nat):Int):=by rw[a0H (by omega)];omega
   have a:decide ((i:Int)<((L.length:Nat):Int))=true:=by simp;omega
   have e:decide ((0:Int)≤(i:Int) / 8)=true:=by simp;omega
   have j:decide ((i:Int) / 8<(((b3e L i).length:Nat):Int))=true:=by rw[c5c (by omega)];simp;omega
   have l:decide ((0:Int)≤(i:Int))=true:=by simp
   have m:decide (7-(i:Int)%8<0)=false:=by simp;omega
   have u:a34 ((i:Int) / 8)=i / 8:=by omega
   have v:a34 (i:Int)=i:=by omega
   have g:L.getD i 0=L[i]:=by simp[lD,d]
   have st:=c7C d;simp only[a4g,w,t2,x,w2,y,z,a,e,j,l,m,u,v,g,st,a03,cT,cF])
  (by
   have a:decide (((L.length:Nat):Int)<((L.length:Nat):Int))=false:=by simp
   simp only[a4g,a,cF,c])
 unfold a5V;simp only[k,nZ,a47]at h;simp only[n,o,p,q,r,s,t,a03,cT]
 erw[h]
 rfl
def dif:List Int→List Int
 |a::b::r=>W (b-a)::dif (b::r)
 |_=>[]
theorem a5B:∀l:List Int,(dif l).length=l.length-1
 | []=>rfl
 | [_]=>rfl
 |a::b::r=>by simp[dif,a5B (b::r)]
theorem c2f:∀(l:List Int)(i:Nat)(x y:Int),l[i]?=some x→l[i+1]?=some y→(dif l)[i]?=some (W (y-x))
 |a::b::r,0,x,y,h1,h2=>by simp at h1 h2;subst h1;subst h2;rfl
 |a::b::r,i+1,x,y,h1,h2=>by
  simp only[dif,List.getElem?_cons_succ]at h1 h2⊢;exact c2f (b::r) i x y h1 h2
 | [_],0,x,y,h1,h2=>by simp at h2
 | [_],i+1,x,y,h1,h2=>by simp at h1
 | [],i,x,y,h1,h2=>by simp at h1
def a1M:Nat→List Int→List Int
 |0,l=>l
 |o+1,l=>dif (a1M o l)
theorem a5G(l:List Int):∀o,(a1M o l).length=l.length-o
 |0=>rfl
 |o+1=>by simp only[a1M,a5B,a5G l o];omega
theorem b6B(h:short l)(o:Nat):short (a1M o l):=by
 have h:l.length<1000000:=h;show(a1M o l).length<1000000;rw[a5G];omega
def b1l(l:List Int)(i:Nat):List Int:=(dif l).take i++l.drop i
theorem b5t(h:i≤l.length-1):(b1l l i).length=l.length:=by
 simp only[b1l,lN,a07,a21,a5B];omega
theorem c2G(h:i≤l.length-1)(g:i≤j):(b1l l i).getD j 0=l.getD j 0:=by
 have e:((dif l).take i).length=i:=by rw[a07,a5B];omega
 rw[lD,lD,b1l,a67 (by omega),e,a92];congr 2;omega
theorem c8y(h:i<l.length-1):(b1l l i).set i (W (l.getD (i+1) 0-l.getD i 0))=b1l l (i+1):=by
 have e:((dif l).take i).length=i:=by rw[a07,a5B];omega
 have f:l[i]?=some l[i]:=lG (by omega);have k:l[i+1]?=some l[i+1]:=lG (by omega);have a:=c2f l i _ _ f k;have g:i<(dif l).length:=by rw[a5B];omega
 simp only[b1l];rw[b06,if_neg (by omega),e,a74,a02 (show i<l.length by omega),a63,a51 g,aA];have b:(dif l)[i]=W (l.getD (i+1) 0-l.getD i 0):=by
  rw[lG g]at a;rw[Option.some.inj a,lD,lD,f,k];rfl
 rw[b];rfl
theorem c6G{o:Int}(d:short l)(h:1≤l.length):x0r a5i ((0:Int),o,k,l,())=some (o,k,b1l l (l.length-1),()):=by
 have d:l.length<1000000:=d;have r:b1l l 0=l:=by simp[b1l]
 have:=a1x (f:=a5i) (fun i:Nat=>((i:Int),o,k,b1l l i,())) (l.length-1) (b:=(o,k,b1l l (l.length-1),()))
  (fun i u=>by
   have c:wrap .i64 ((i:Int)+1)=((i+1:Nat):Int):=a0C (by omega);have a:=b5t (l:=l) (i:=i) (by omega);have g:decide (((i+1:Nat):Int)<((l.length:Nat):Int))=true:=by simp;omega
   have e:decide ((0:Int)≤((i+1:Nat):Int))=true:=by simp;omega
   have m:decide ((0:Int)≤(i:Int))=true:=by simp
   have n:decide ((i:Int)<((l.length:Nat):Int))=true:=by simp;omega
   have s:a34 ((i+1:Nat):Int)=i+1:=by omega
   have t:a34 (i:Int)=i:=by omega
   have st:=c8y (l:=l) (i:=i) (by omega);have p:=c2G (l:=l) (i:=i) (j:=i+1) (by omega) (by omega);have q:=c2G (l:=l) (i:=i) (j:=i) (by omega) (by omega);simp only[W]at st;simp only[a5i,c,a,g,e,m,n,s,t,p,q,st,a03,cT])
  (by
   have a:=b5t (l:=l) (i:=l.length-1) (by omega);have c:wrap .i64 (((l.length-1:Nat):Int)+1)=((l.length:Nat):Int):=by rw[a0H (by omega)];omega
   have g:decide (((l.length:Nat):Int)<((l.length:Nat):Int))=false:=by simp
   simp only[a5i,c,a,g,cF])
 simp only[nZ,a47,r]at this;exact this
theorem c7D:(b1l l (l.length-1)).take (l.length-1)=dif l:=by
 have e:(dif l).take (l.length-1)=dif l:=a28 (by rw[a5B];omega);rw[b1l,e,List.take_append_of_le_length (by rw[a5B];omega),e]
theorem b7r(A:o≤4)(z:o≤l.length)(g:short l)(v:l.all a0A=true):
  a4D (l,(o:Int))=some (bif (a1M o l).all a0A then(a1M o l,0)else([],6)):=by
 have u:l.length<1000000:=g;have h:=a1x (f:=a7E) (fun k:Nat=>((o:Int),(k:Int),a1M k l,())) o (b:=(a1M o l,()))
  (fun k y=>by
   have c:1≤(a1M k l).length:=by rw[a5G];omega
   have s:(a1M k l).length<1000000:=b6B g k;have a:decide ((k:Int)<(o:Int))=true:=by simp;omega
   have t:=b5t (l:=a1M k l) (i:=(a1M k l).length-1) (by omega);have x:wrap .i64 ((((a1M k l).length:Nat):Int)-1)=(((a1M k l).length-1:Nat):Int):=by rw[a0H (by omega)];omega
   have w2:wrap .i64 ((k:Int)+1)=((k+1:Nat):Int):=a0C (by omega);have n:decide ((0:Int)≤(((a1M k l).length-1:Nat):Int))=true:=by simp
   have p:decide ((((a1M k l).length-1:Nat):Int)≤(((a1M k l).length:Nat):Int))=true:=by simp
   have q:decide ((a1M k l).length-1≤(a1M k l).length)=true:=by simp
   have w:a34 (((a1M k l).length-1:Nat):Int)=(a1M k l).length-1:=by omega
   simp only[a7E,a,cT,c6G (b6B g k) c,oB,t,x,w2,n,p,q,w,a03,c7D,a1M])
  (by
   have a:decide ((o:Int)<(o:Int))=false:=by simp
   simp only[a7E,a,cF])
 have d:decide ((o:Int)<0)=false:=by simp
 have e:decide ((o:Int) > 4)=false:=by simp;omega
 have j:decide (((l.length:Nat):Int)<(o:Int))=false:=by simp;omega
 have m:lim l.length=true:=a1a (by omega);simp only[nZ,a47]at h;have r:a1M 0 l=l:=rfl;rw[r]at h;unfold a4D;simp only[d,e,j,m,cF,cT,oB,a7h g,v,bT,h,a7h (b6B g o)];cases (a1M o l).all a0A<;>rfl
def ex:Nat→(Nat→Int)→Nat→Int
 |0,f,i=>f i
 |o+1,f,i=>ex o f (i+1)-ex o f i
theorem b9R{l:List Int}(g:l.all a0A=true):∀(o i:Nat),i+o<l.length→(a1M o l)[i]?=some (W (ex o (fun j=>l.getD j 0) i))
 |0,i,h=>by
  have h:i<l.length:=by omega
  have e:l.getD i 0=l[i]:=by simp[lD,h]
  simp only[a1M,ex,e];rw[lG h,b4K (lA.1 g _ (a04 h))]
 |o+1,i,h=>by
  have f:=b9R g o i (by omega);have k:=b9R g o (i+1) (by omega);simp only[a1M,ex];rw[c2f _ i _ _ f k];simp only[W,a6q,Int.sub_bmod_bmod,Int.bmod_sub_bmod]
theorem c7E(p:l.all a0A=true)(s:o≤4)(h:o+j<l.length):W (W (ex o (fun j=>l.getD j 0) j)+a2u o (l.take (o+j)))=l.getD (o+j) 0:=by
 have a:a0A (l.getD (o+j) 0)=true:=by
  have e:l.getD (o+j) 0=l[o+j]:=by simp[lD,h]
  rw[e];exact lA.1 p _ (a04 h)
 have g:∀i:Nat,1≤i→i≤o→atB (l.take (o+j)) i=l.getD (o+j-i) 0:=fun i q r=>by
  simp only[atB,a07,a79 (a58 h),lD,a90];rw[if_pos (by omega)]
 have d:ex o (fun j=>l.getD j 0) j+a2u o (l.take (o+j))=l.getD (o+j) 0:=by
  have n:o=0∨o=1∨o=2∨o=3∨o=4:=by omega
  rcases n with rfl|rfl|rfl|rfl|rfl;simp[ex,a2u];simp only[ex,a2u,g 1 (by omega) (by omega)];have f:1+j-1=j:=by omega
  have k:j+1=1+j:=by omega
  rw[f,k];omega;simp only[ex,a2u,g 1 (by omega) (by omega),g 2 (by omega) (by omega)];have f:2+j-1=j+1:=by omega
  have k:2+j-2=j:=by omega
  have b:j+1+1=2+j:=by omega
  rw[f,k,b];omega;simp only[ex,a2u,g 1 (by omega) (by omega),g 2 (by omega) (by omega),g 3 (by omega) (by omega)];have f:3+j-1=j+1+1:=by omega
  have k:3+j-2=j+1:=by omega
  have b:3+j-3=j:=by omega
  have c:j+1+1+1=3+j:=by omega
  rw[f,k,b,c];omega;simp only[ex,a2u,g 1 (by omega) (by omega),g 2 (by omega) (by omega),g 3 (by omega) (by omega),g 4 (by omega) (by omega)];have f:4+j-1=j+1+1+1:=by omega
  have k:4+j-2=j+1+1:=by omega
  have b:4+j-3=j+1:=by omega
  have c:4+j-4=j:=by omega
  have m:j+1+1+1+1=4+j:=by omega
  rw[f,k,b,c,m];omega
 have:W (W (ex o (fun j=>l.getD j 0) j)+a2u o (l.take (o+j)))=W (ex o (fun j=>l.getD j 0) j+a2u o (l.take (o+j))):=by
  simp only[W,a6q,Int.bmod_add_bmod]
 rw[this,d,b4K a]
theorem c4a{l:List Int}(f:l.all a0A=true){o:Nat}(b:o≤4):∀(k j:Nat),o+j+k=l.length→a2I (a2u o) ((a1M o l).drop j) (l.take (o+j))=some l
 |0,j,h=>by
  rw[List.drop_of_length_le (by rw[a5G];omega),a28 (by omega)];rfl
 |k+1,j,h=>by
  have g:j<(a1M o l).length:=by rw[a5G];omega
  have a:=b9R f o j (by omega);rw[lG g]at a;have e:=Option.some.inj a;have c:l.getD (o+j) 0=l[o+j]:=by simp[lD,show o+j<l.length by omega]
  have st:=c7E f b (show o+j<l.length by omega);rw[c]at st;rw[a02 g,e];simp only[a2I,st,lA.1 f _ (a04 (show o+j<l.length by omega)),cT];have d:l.take (o+j)++[l[o+j]]=l.take (o+(j+1)):=by
   rw[show o+(j+1)=(o+j)+1 by omega]
   simp
  rw[d];exact c4a f b k (j+1) (by omega)
theorem a7s{σ β:Type}{f:σ→Option (σ ⊕ β)}(I:Nat→σ→Prop)(Q:β→Prop)(n:Nat)(a:∀i s,i<n→I i s→∃s',f s=some (.inl s')∧I (i+1) s')
  (g:∀s,I n s→∃b,f s=some (.inr b)∧Q b):∀(k i:Nat)(s:σ),i+k=n→I i s→∃b,x0r f s=some b∧Q b
 |0,i,s,h,hi=>by
  obtain rfl:i=n:=by omega
  obtain⟨b,c,d⟩:=g s hi;exact⟨b,a0D c,d⟩
 |k+1,i,s,h,hi=>by
  obtain⟨s',c,d⟩:=a i s (by omega) hi;rw[a0E c];exact a7s I Q n a g k (i+1) s' (by omega) d
theorem b9x(y:Int):0≤wrap .u64 y∧wrap .u64 y<18446744073709551616:=by
 simp only[wrap,IntKind.bits,IntKind.signed]
 simp
 omega
def b2t(n:Int)(x:Int):Bool:=a0A x&&!(a46 x (z0g .i64 1 n) != 0)
def b6C{β:Type}(n:Int)(bad:β)(out:List Int)(x:Int):List Int ⊕ β:=bif b2t n x then .inl (out++[z0h .i64 x n])else .inr bad
def b1m(n:Int)(l:List Int):Option (List Int):=bif l.all (b2t n)then some (l.map fun x=>z0h .i64 x n)else none
theorem b7s{β:Type}(n:Int)(h:β)(g:List Int→β):∀(l out:List Int),a6E g (a2o (b6C n h) l out)=match b1m n l with|some r=>g (out++r)|none=>h
 | [],out=>by simp[a2o,a6E,b1m]
 |x::l,out=>by
  simp only[a2o,b6C,b1m,a09];cases hx:b2t n x with
  |true=>
   simp only[cT,a32];rw[b7s n h g l _];simp only[b1m];cases l.all (b2t n)with
   |true=>simp
   |false=>rfl
  |false=>rfl
theorem c4b{o:Nat}(h:o≤30):z0g .i64 1 (o:Int)=((2^o:Nat):Int):=by
 have g:2^o≤2^30:=a19 (by omega) h
 have:=b6v (N:=1) (o:=o) (by omega) (by omega)
 simpa using this
theorem b5W(m:o≤30)(q:l.length<100000):a6Y (l,(o:Int))=some (a2t (b1m (o:Int) l)):=by
 have n:short l:=by unfold short;omega
 have k:¬ (o:Int)<0:=by omega
 have e:¬ (o:Int) > 30:=by omega
 have j:(z0g .i64 (1:Int) (o:Int)==0)=false:=by
  rw[c4b m]
  have:0<2^o:=a29 o
  simp only[beq_eq_false_iff_ne,ne_eq];omega
 unfold a6Y;simp only[k,e,decide_false,cF,oB]
 have:=a0X (f:=a6w) l (fun i out=>((o:Int),l,(l.length:Int),(i:Int),out,())) (b6C (o:Int) (Sum.inr ((6:Int),([]:List Int),())))
  (fun i out=>out.length=i) (fun out=>Sum.inl (out,()))
  (fun i h out p=>by
   have c:i<1000000:=by omega
   simp only[a6w,dlt h,cT,a0B h,oB,b5M,b6C,b2t,k,j,decide_false,cF];cases hb:a0A l[i]with
   |true=>
    cases hb2:(a46 l[i] (z0g .i64 1 (o:Int)) != 0)with
    |false=>
     simp only[cT,bT,cF,oB,k,decide_false,a0L (show out.length+1<1000000 by omega),a0C c,a03,a17,hb2];refine⟨fun d g=>?_,fun b hb=>(by cases hb)⟩;simp only[Sum.inl.injEq]at g;subst g;exact⟨rfl,by simp;omega⟩
    |true=>
     refine⟨fun d g=>(by simp at g),fun b hb=>?_⟩;simp only[a32,bT,cF,Sum.inr.injEq]at hb;subst hb;simp[hb2]
   |false=>
    refine⟨fun d g=>(by simp at g),fun b hb=>?_⟩;simp only[a84,cF,Sum.inr.injEq]at hb;subst hb;rfl)
  (fun out _=>by simp[a6w]) (a:=[]) rfl
 simp only[nZ,b7s,a23]at this;rw[this];cases b1m (o:Int) l<;>rfl
theorem b9S(h:o≤30)(k:b2t (o:Int) x=true):a0A (z0h .i64 x (o:Int))=true∧z0g .i64 (z0h .i64 x (o:Int)) (o:Int)=x∧a0A x=true:=by
 simp only[b2t,c4b h,bA,a41,bne_eq_false_iff_eq]at k;obtain⟨f,d⟩:=k;obtain⟨c,rfl⟩:=Int.dvd_of_tmod_eq_zero d;have g:=a1H.1 f;have e:min (a34 (o:Int)) (IntKind.bits .i64)=o:=by simp only[tN,IntKind.bits];omega
 have hp:(0:Int)<2^o:=Int.pow_pos (by omega);have b:((2^o:Nat):Int)=2^o:=by simp
 rw[b]at g f⊢;have a:z0h .i64 (2^o*c) (o:Int)=c:=by
  unfold z0h;rw[e];exact a71 _ (by omega)
 rw[a];refine⟨a1H.2 ?_,?_,f⟩;generalize (2:Int)^o=p at hp g;have i:p*c=(p-1)*c+c:=by rw[b01];omega
 by_cases hc:0≤c
 have:=a61 (show 0≤p-1 by omega) hc
 omega
 have:=a61 (show 0≤p-1 by omega) (show 0≤-c by omega)
 rw[Int.mul_neg]at this;omega;unfold z0g;rw[e,Int.mul_comm];exact a0H (by omega)
theorem d0H(h:o≤30)(f:b1m (o:Int) l=some d):d.all a0A=true∧d.length=l.length∧upO (o:Int) d=some l:=by
 unfold b1m at f;cases ha:l.all (b2t (o:Int))with
 |false=>rw[ha]at f;cases f
 |true=>
  rw[ha]at f;simp only[cT,sj]at f;subst f;have g:=lA.1 ha;refine⟨?_,by simp,?_⟩;simp only[List.all_map];exact lA.2 fun x k=>(b9S h (g x k)).1;have a:(l.map fun x=>z0h .i64 x (o:Int)).all (fun x=>a0A x&&a0A (z0g .i64 x (o:Int)))=true:=by
   simp only[List.all_map];refine lA.2 fun x k=>?_
   obtain⟨c,e,i⟩:=b9S h (g x k);simp only[Function.comp,c,e,i,a03]
  unfold upO;rw[a];simp only[cT,sj,List.map_map];have b:l.map ((fun x=>z0g .i64 x (o:Int))∘fun x=>z0h .i64 x (o:Int))=l.map id:=List.map_congr_left (fun x k=>(b9S h (g x k)).2.1);rw[b,List.map_id]
theorem c6H{n warm:Int}(h:a3U n warm=true):(a1p 0 n warm).length≠0:=by
 have g:=h;simp only[a3U,bA,dT]at g;unfold a1p b1f;have e:((n.toNat / 2^(0:Int).toNat:Nat):Int)=n:=by simp;omega
 have f:n.toNat%2^(0:Int).toNat=0:=by simp;omega
 simp only[h,e,f];simp[g.2.2.2]
theorem a6M{n:Nat}(g:n≤63)(h:N<2^n)(L:List Int):(a0G (N:Int) n L).length=L.length+n:=by
 unfold a0G;rw[a4i (N:=N) (o:=n) (by omega),b02 h];simp[b8r]
def a4T(k:Nat)(x:Int):Nat:=if a0O x / 2^k<32 then a0O x / 2^k+1+k else 65
theorem c4c{k:Nat}(g:k≤25)(x:Int):a4T k x≤65:=by
 unfold a4T;split;rename_i h;generalize a0O x / 2^k=q at h;omega;omega
theorem c7F{k:Nat}(a:k≤25)(g:a0A x=true)(L:List Int):(a4R k x L).length=L.length+a4T k x:=by
 unfold a4R a4T;have hp:0<2^k:=a29 k;have h:a0O x%2^k<2^k:=a60 _ hp;have f:=a9P g;split;rw[a6M (by omega) h,a6J];omega;rw[a6M (n:=32) (by omega) (by omega),a6J]
theorem c1c{k:Nat}(g:k≤25):∀(l L:List Int),l.all a0A=true→(a2K k l L).length=L.length+(l.map (a4T k)).sum
 | [],L,_=>by simp[a2K]
 |x::l,L,h=>by
  simp only[a09,bA]at h;have e:a2K k (x::l) L=a2K k l (a4R k x L):=rfl;rw[e,c1c g l _ h.2,c7F g h.1,a70,a45];omega
theorem c4d{k:Nat}(c:k≤25)(f:a0A x=true):a7p ((k:Int),x)=some ((a4T k x:Nat):Int):=by
 have d:=a9P f;have a:z0h .u64 ((a0O x:Nat):Int) (k:Int)=((a0O x / 2^k:Nat):Int):=a4i (by omega);have b:wrap .i64 ((a0O x / 2^k:Nat):Int)=((a0O x / 2^k:Nat):Int):=a9Q (a44 (a40 _ _) d);have g:decide ((k:Int)<0)=false:=by simp
 unfold a7p a4T;simp only[a8V c,b1j,f,oB,bT,cF,b1k f,g,a,b];generalize a0O x / 2^k=q
 by_cases hq:q<32
 have h:decide ((q:Int)<32)=true:=decide_eq_true (by omega);simp only[h,cT,if_pos hq];rw[a0H (n:=(q:Int)+1) (by omega),a0H (by omega)];rfl;have h:decide ((q:Int)<32)=false:=decide_eq_false (by omega);simp only[h,cF,if_neg hq];rfl
theorem c4e{f:Int→Nat}{M:Nat}(h:∀x,f x≤M):∀l:List Int,(l.map f).sum≤M*l.length
 | []=>by simp
 |x::l=>by
  have:=h x
  have:=c4e h l
  rw[a70,a45,lC,a99,b00];omega
theorem c4f{f:Int→Nat}(h:i<l.length):((l.take (i+1)).map f).sum=((l.take i).map f).sum+f l[i]:=by
 rw[a51 h,pA,List.sum_append];simp only[a70,List.map_nil,a45,List.sum_nil,a57]
theorem b9y{k:Nat}(a:k≤25)(j:l.all a0A=true)(m:l.length<10000):a3m ((k:Int),l)=some (((l.map (a4T k)).sum:Nat):Int):=by
 have:=a1x (f:=a3S) (fun i:Nat=>((k:Int),((((l.take i).map (a4T k)).sum:Nat):Int),l,(l.length:Int),(i:Int),())) l.length (b:=((((l.map (a4T k)).sum:Nat):Int),()))
  (fun i h=>by
   have d:=c4d a (lA.1 j _ (a04 h));have g:=c4e (c4c a) (l.take (i+1));rw[c4f h]at g;rw[a07]at g;have e:wrap .i64 (((((l.take i).map (a4T k)).sum:Nat):Int)+((a4T k l[i]:Nat):Int))=((((l.take (i+1)).map (a4T k)).sum:Nat):Int):=by
    rw[c4f h,a0H (by omega)];omega
   simp only[a3S,dlt h,cT,a0B h,oB,d,e,a0C (show i<1000000 by omega)])
  (by simp only[a3S,dge,cF,a20])
 unfold a3m;have c:(((l.take 0).map (a4T k)).sum:Nat)=0:=rfl;simp only[c,nZ]at this;simp only[this,oB]
theorem c8z(x:Int){n:Nat}(g:n≤62):∃N:Nat,a1I x n=(N:Int)∧N<2^n:=by
 obtain⟨h,k⟩:=b9x x;obtain⟨y,f⟩:=a01 h;have hp:0<2^n:=a29 n;refine⟨y%2^n,?_,a60 _ hp⟩;unfold a1I;rw[f];exact b6z (by omega) g
theorem b4R{n:Nat}(h:n≤62):∀(l L:List Int),(a1f n l L).length=L.length+n*l.length
 | [],L=>by simp[a1f]
 |x::l,L=>by
  have e:a1f n (x::l) L=a1f n l (a0G (a1I x n) n L):=rfl;obtain⟨N,g,f⟩:=c8z x h;rw[e,b4R h l,g,a6M (by omega) f,lC,a99,b00];omega
theorem d1O(h:a0A x=true):a1y x ((31:Nat):Int)=true:=by
 have:=a1H.1 h
 have g:z0g .i64 (-1) (((31:Nat):Int)-1)=-1073741824:=by decide
 have f:wrap .i64 (z0g .i64 1 (((31:Nat):Int)-1)-1)=1073741823:=by decide
 unfold a1y;rw[g,f];simp only[bA,dT];omega
theorem c1d{x:Int}(h:a0A x=true):∀(k w:Nat),w+k=32→1≤k→a1w x k w≤31
 |k+1,w,hk,_=>by
  simp only[a1w]
  by_cases h31:w=31
  subst h31;rw[d1O h]
  simp
  ·cases (x != 0)&&!a1y x w with
   |true=>exact c1d h k (w+1) (by omega) (by omega)
   |false=>simp only[cF];omega
theorem b4S:∀(l:List Int)(w:Nat),l.all a0A=true→w≤31→l.foldl (fun w x=>a1w x (32-w) w) w≤31
 | [],w,_,h=>h
 |x::l,w,hl,h=>by
  simp only[a09,bA]at hl;exact b4S l _ hl.2 (c1d hl.1 (32-w) w (by omega) (by omega))
theorem a4k(h:l.all a0A=true):a0I l≤31:=b4S l 0 h (by omega)
theorem b4i(g:l.length<10000):a5E l=some (((5+a0I l*l.length:Nat)):Int):=by
 have h:=a2T l;have f:a0I l*l.length≤32*l.length:=a43 _ h;unfold a5E;simp only[a5A (show short l by unfold short;omega),oB];have e:((a0I l:Nat):Int)*((l.length:Nat):Int)=((a0I l*l.length:Nat):Int):=by simp
 rw[e,a0H (n:=((a0I l*l.length:Nat):Int)) (by omega),a0H (by omega)];congr 1
def b2u(k:Int)(part:List Int):Nat:=5+(if k=31 then 5+a0I part*part.length else(part.map (a4T k.toNat)).sum)
def a4b:List Nat→List Int→List Int→Nat
 |z::zs,k::ks,l=>b2u k (l.take z)+a4b zs ks (l.drop z)
 |_,_,_=>0
theorem a2B{q:Nat}(h:q<2147483648):wrap .u64 (q:Int)=(q:Int):=a0M (by omega)
theorem c7G(f:kB k=true){part:List Int}(g:part.all a0A=true)(L:List Int):(a6L k part L).length=L.length+b2u k part:=by
 simp only[kB,a18,bA,dT,beq_iff_eq]at f;obtain⟨K,rfl⟩:=a01 (show 0≤k by omega);have b:K≤31:=by omega
 have h:=a6M (N:=K) (n:=5) (by omega) (by omega) L;have a:=a4k g;unfold a6L b2u;rw[a2B (by omega)];split;rw[b4R (by omega),a6M (n:=5) (by omega) (by omega),h];omega;rw[c1c (by omega) _ _ g,h];omega
theorem c1e:∀(zs:List Nat)(ks l L:List Int),ks.all kB=true→l.all a0A=true→(a2A zs ks l L).length=L.length+a4b zs ks l
 |z::zs,k::ks,l,L,h,hw=>by
  simp only[a09,bA]at h;have g:(l.take z).all a0A=true:=lA.2 fun x a=>lA.1 hw x (a25 a);have f:(l.drop z).all a0A=true:=lA.2 fun x a=>lA.1 hw x (a26 a);simp only[a2A,a4b];rw[c1e zs ks _ _ h.2 f,c7G h.1 g];omega
 | [],_,_,_,_,_=>by simp[a2A,a4b]
 |_::_,[],_,_,_,_=>by simp[a2A,a4b]
theorem c8A(h:kB k=true)(part:List Int):b2u k part≤10+65*part.length:=by
 simp only[kB,a18,bA,dT,beq_iff_eq]at h;unfold b2u;split;have g:a0I part*part.length≤32*part.length:=a43 _ (a2T part);omega
 have:=c4e (c4c (k:=k.toNat) (by omega)) part
 omega
theorem b4j{zn:List Nat}{p:Prt}(E:p.2.1.length=zn.length)(a:p.2.1.all kB=true)(F:zn.length≤256):∀(j i:Nat)(l:List Int)(c:Nat),i+j=zn.length→(zn.drop i).sum=l.length→l.all a0A=true→l.length≤5000→c+10*j+65*l.length<1000000→
  x0r a1s (l,(c:Int),(zn.length:Int),(i:Int),a1v zn,p,())=some (((c+a4b (zn.drop i) (p.2.1.drop i) l:Nat):Int),())
 |0,i,l,c,hi,_,_,_,_=>by
  obtain rfl:i=zn.length:=by omega
  rw[a16];exact a0D (by simp[a1s,a4b])
 |j+1,i,l,c,hi,hsum,hw,hl5,hb=>by
  have h:i<zn.length:=by omega
  have f:i<p.2.1.length:=by omega
  have o:=lA.1 a _ (a04 f);rw[b1H h]at hsum;have z:decide ((0:Int)≤(i:Int))=true:=by simp
  have A:decide ((i:Int)<(((a1v zn).length:Nat):Int))=true:=by rw[a1h];simp;omega
  have B:decide ((0:Int)≤((zn[i]:Nat):Int))=true:=by simp
  have C:decide (((zn[i]:Nat):Int)≤((l.length:Nat):Int))=true:=by simp;omega
  have d:(l.take zn[i]).length=zn[i]:=by rw[a07];omega
  have e:(l.drop zn[i]).length=(zn.drop (i+1)).sum:=by rw[a21];omega
  have v:(l.take zn[i]).all a0A=true:=lA.2 fun x y=>lA.1 hw x (a25 y);have w:(l.drop zn[i]).all a0A=true:=lA.2 fun x y=>lA.1 hw x (a26 y);have g:=c8A o (l.take zn[i]);rw[d]at g;have n:a1s (l,(c:Int),(zn.length:Int),(i:Int),a1v zn,p,())=some (.inl (l.drop zn[i],((c+b2u p.2.1[i] (l.take zn[i]):Nat):Int),(zn.length:Int),((i+1:Nat):Int),a1v zn,p,())):=by
   by_cases h31:p.2.1[i]=31
   have b:(p.2.1[i]==31)=true:=by rw[h31];rfl
   have m:=b4i (l:=l.take zn[i]) (by omega);have u:b2u p.2.1[i] (l.take zn[i])=5+(5+a0I (l.take zn[i])*(l.take zn[i]).length):=by unfold b2u;rw[if_pos h31]
   rw[u]at g⊢;generalize 5+a0I (l.take zn[i])*(l.take zn[i]).length=r at m g⊢;have s:wrap .i64 (5+(r:Int))=5+(r:Int):=a0H (by omega);have t:wrap .i64 ((c:Int)+(5+(r:Int)))=((c+(5+r):Nat):Int):=by rw[a0H (by omega)];omega
   simp only[a1s,dlt h,z,A,a4j h,B,C,cT,a03,tN,a0B f,oB,b,m,s,t,a20,a0C (show i<1000000 by omega)];have b:(p.2.1[i]==31)=false:=by simp[h31]
   have q:=o;simp only[kB,a18,bA,dT,beq_iff_eq]at q;obtain⟨K,D⟩:=a01 (show 0≤p.2.1[i]by omega);have m:=b9y (k:=K) (by omega) v (by omega);have u:b2u p.2.1[i] (l.take zn[i])=5+((l.take zn[i]).map (a4T K)).sum:=by unfold b2u;rw[if_neg h31,D];rfl
   rw[←D]at m;rw[u]at g⊢;generalize ((l.take zn[i]).map (a4T K)).sum=r at m g⊢;have s:wrap .i64 (5+(r:Int))=5+(r:Int):=a0H (by omega);have t:wrap .i64 ((c:Int)+(5+(r:Int)))=((c+(5+r):Nat):Int):=by rw[a0H (by omega)];omega
   simp only[a1s,dlt h,z,A,a4j h,B,C,cT,cF,a03,tN,a0B f,oB,b,m,s,t,a20,a0C (show i<1000000 by omega)]
  rw[a0E n,b4j E a F j (i+1) (l.drop zn[i]) _ (by omega) e.symm w (by rw[a21];omega) (by rw[a21];omega)];rw[a02 h,a02 f];simp only[a4b];congr 3;omega
theorem c3m(h:PartsOk p n warm l zn):a4A (p,n,warm,l)=some ((4+a4b zn p.2.1 l:Nat):Int):=by
 have f:Go.Ab.short p.2.1:=by have:=h.ks;have:=h.len;unfold Go.Ab.short;omega
 have k:=h.short;have a:=h.len;have g:=b4j h.ks h.all h.len zn.length 0 l 4 (by omega) (by rw[a08];exact h.sum) h.wide h.short (by omega);simp only[nZ,a47,a08]at g;unfold a4A;simp only[b1g f,h.may,b1I h.row h.rest h.wide h.short,oB,bT,cF,a2z,h.sizes,a1h,g]
theorem c3n(h:PartsOk p n warm l zn)(L:List Int):(a1Q p zn l L).length=L.length+(4+a4b zn p.2.1 l):=by
 obtain⟨o,g⟩:=a01 h.order.1;have f:=h.order.2;unfold a1Q;rw[c1e _ _ _ _ h.all h.wide,g,a2B (by omega),a6M (by omega) (by omega)];omega
def a1O(o:Int):Sub:=((0:Int),(0:Int),o,(0:Int),(0:Int),([]:List Int),a00 3 (0:Int),([]:List Stg),([]:List Int),((0:Int),([]:List Int),()),([]:List Int),())
theorem c5d(o:Int):SmallS (a1O o):=⟨by simp[a1O],by simp[a1O],by simp[a1O],by simp[a1O],by simp[a1O],by simp[a1O]⟩
theorem c6I(h:-1048576≤x∧x≤1048575):v0a (u0z x (-1048576)) 1048575=x:=by
 unfold v0a u0z;have g:decide ((-1048576:Int) > x)=false:=decide_eq_false (by omega);have f:decide ((1048575:Int)<x)=false:=decide_eq_false (by omega);simp only[g,cF,f]
theorem d3T(h:a0A x=true):-1048576≤z0h .i64 x ((10:Nat):Int)∧z0h .i64 x ((10:Nat):Int)≤1048575:=by
 have g:=a1H.1 h;have e:z0h .i64 x ((10:Nat):Int)=x / 1024:=by
  show Int.fdiv x 1024=_;exact a68 _ (by decide)
 rw[e];omega
theorem c2H{x:Int}(f:a0A x=true){a l:List Int}{n i:Int}:∀(k s:Nat),s+k=10→∃s':Nat,s'≤10∧x0r a3t (a,(s:Int),x,l,n,i,())=some (a,(s':Int),l,n,i,())
 |0,s,h=>by
  obtain rfl:s=10:=by omega
  have g:decide (((10:Nat):Int)<0)=false:=by decide
  have d:=c6I (d3T f);refine⟨10,a35 _,a0D ?_⟩;simp only[a3t,g,cF,a2v,oB,d,bne_self_eq_false]
 |k+1,s,h=>by
  have g:decide ((s:Int)<0)=false:=decide_eq_false (by omega);cases hc:(v0a (u0z (z0h .i64 x (s:Int)) (-1048576)) 1048575 != z0h .i64 x (s:Int))with
  |false=>exact⟨s,by omega,a0D (by simp only[a3t,g,cF,a2v,oB,hc])⟩
  |true=>
   obtain⟨s',b,c⟩:=c2H f (a:=a) (l:=l) (n:=n) (i:=i) k (s+1) (by omega);refine⟨s',b,?_⟩;rw[a0E (s':=(a,((s+1:Nat):Int),x,l,n,i,())) (by simp only[a3t,g,cF,a2v,oB,hc,cT,a0C (show s<1000000 by omega)])];exact c
theorem c5e(y:l.all a0A=true)(A:l.length<100000):∃r,a7G l=some r∧r.length=l.length:=by
 obtain⟨b,t,s,z,x⟩:=a7s (f:=a5m) (fun i st=>∃s:Nat,s≤10∧st=(l,(s:Int),l,(l.length:Int),(i:Int),())) (fun b=>∃s:Nat,s≤10∧b=(l,(s:Int),())) l.length
  (fun i st g h=>by
   obtain⟨s,u,rfl⟩:=h;obtain⟨s',p,e⟩:=c2H (lA.1 y _ (a04 g)) (a:=l) (l:=l) (n:=(l.length:Int)) (i:=(i:Int)) (10-s) s (by omega);exact⟨_,by simp only[a5m,dlt g,cT,a0B g,oB,e,a0C (show i<1000000 by omega)]<;>rfl,s',p,rfl⟩)
  (fun st h=>by
   obtain⟨s,u,rfl⟩:=h;exact⟨_,by simp only[a5m,dge,cF]<;>rfl,s,u,rfl⟩) l.length 0 _ (by omega) ⟨0,by omega,rfl⟩
 subst x;obtain⟨c,q,o,v,w⟩:=a7s (f:=a5n) (fun i st=>∃o:List Int,st=((s:Int),l,(l.length:Int),(i:Int),o,())∧o.length=l.length) (fun b=>∃o:List Int,b=(o,())∧o.length=l.length) l.length
  (fun i st g h=>by
   obtain⟨o,rfl,m⟩:=h;have k:decide ((s:Int)<0)=false:=decide_eq_false (by omega);have d:decide ((0:Int)≤(i:Int))=true:=by simp
   have j:decide ((i:Int)<((o.length:Nat):Int))=true:=decide_eq_true (by omega);exact⟨_,by simp only[a5n,dlt g,cT,a0B g,oB,k,cF,d,j,a03,a0C (show i<1000000 by omega)]<;>rfl,_,rfl,by simp[m]⟩)
  (fun st h=>by
   obtain⟨o,rfl,m⟩:=h;exact⟨_,by simp only[a5n,dge,cF]<;>rfl,o,rfl,m⟩) l.length 0 _ (by omega) ⟨a00 l.length 0,rfl,by simp⟩
 subst v;refine⟨o,?_,w⟩;have k:decide ((0:Int)≤((l.length:Nat):Int))=true:=by simp
 have d:decide (((l.length:Nat):Int)≤((l.length:Nat):Int))=true:=by simp
 have j:lim l.length=true:=a0L (by omega);simp only[nZ]at t q;unfold a7G;simp only[t,oB,k,d,j,tN,a03,cT,q]
theorem c1f:∀(N:Nat)(num den:Int),den.toNat≤N→∃a b,x0r a3q (num,den,())=some (a,b,())
 |N,num,den,h=>by
  by_cases hd:den≥1099511627776
  ·have g:decide (den≥(1099511627776:Int))=true:=decide_eq_true hd;have e:z0h .i64 den 1=den / 2:=by
    show Int.fdiv den 2=_;exact a68 _ (by decide)
   rw[a0E (s':=(z0h .i64 num 1,den / 2,())) (by simp only[a3q,g,cT,e])]
   match N with
   |0=>omega
   |N+1=>exact c1f N _ _ (by omega)
  have g:decide (den≥(1099511627776:Int))=false:=decide_eq_false hd;exact⟨num,den,a0D (by simp only[a3q,g,cF])⟩
theorem c1g{f:List Int}(u:1≤m)(r:g.length=f.length)(t:f.length<100000)(q:m<1000):∃k,a4P (f,g,(m:Int))=some k:=by
 obtain⟨b,n,d,den,o⟩:=a7s (f:=a3p) (fun i st=>∃d den:Int,st=(f,g,d,den,((m+i:Nat):Int),())) (fun b=>∃d den:Int,b=(d,den,())) (f.length-m)
  (fun i st s h=>by
   obtain⟨d,den,rfl⟩:=h;have j:m+i<f.length:=by omega
   have e:wrap .i64 (((m+i:Nat):Int)-1)=((m+i-1:Nat):Int):=by rw[a0H (by omega)];omega
   exact⟨_,by simp only[a3p,dlt j,cT,a0B j,e,a0B (show m+i-1<g.length by omega),oB,a0C (show m+i<1000000 by omega)]<;>rfl,_,_,rfl⟩)
  (fun st h=>by
   obtain⟨d,den,rfl⟩:=h;have l:decide (((m+(f.length-m):Nat):Int)<((f.length:Nat):Int))=false:=decide_eq_false (by omega);exact⟨_,by simp only[a3p,l,cF]<;>rfl,_,_,rfl⟩) (f.length-m) 0 (f,g,0,0,(m:Int),()) (by omega) ⟨0,0,rfl⟩
 subst o;obtain⟨a,c,p⟩:=c1f den.toNat d den (a35 _);unfold a4P;simp only[n,oB,p];cases hc:(c==0)with
 |true=>exact⟨0,rfl⟩
 |false=>
  simp only[cF];cases decide ((z0g .i64 a 15).tmod c<0)<;>exact⟨_,rfl⟩
theorem c3o{f:List Int}{order:Int}(y:1≤m)(u:g.length=f.length)(x:f.length<100000)(v:m<1000):
  ∃f' a:List Int,x0r a3b (order,(m:Int),k,((f.length:Nat):Int)-1,f,g,ks,())=some (order,(m:Int),f',a,ks,())∧f'.length=f.length∧a.length=f.length:=by
 obtain⟨b,l,f',a,s,t⟩:=a7s (f:=a3b) (fun i st=>∃f' a:List Int,st=(order,(m:Int),k,((f.length:Nat):Int)-1-(i:Int),f',a,ks,())∧f'.length=f.length∧a.length=f.length)
  (fun b=>∃f' a:List Int,b=(order,(m:Int),f',a,ks,())∧f'.length=f.length∧a.length=f.length) (f.length-m)
  (fun i st w h=>by
   obtain⟨f',a,rfl,c,d⟩:=h;have j:decide (((f.length:Nat):Int)-1-(i:Int)≥(m:Int))=true:=decide_eq_true (by omega);have n:decide ((0:Int)≤((f.length:Nat):Int)-1-(i:Int))=true:=decide_eq_true (by omega);have o:decide (((f.length:Nat):Int)-1-(i:Int)<((f'.length:Nat):Int))=true:=decide_eq_true (by omega);have p:decide (((f.length:Nat):Int)-1-(i:Int)<((a.length:Nat):Int))=true:=decide_eq_true (by omega);have e:wrap .i64 (((f.length:Nat):Int)-1-(i:Int)-1)=((f.length:Nat):Int)-1-((i+1:Nat):Int):=by rw[a0H (by omega)];omega
   have q:decide ((0:Int)≤((f.length:Nat):Int)-1-((i+1:Nat):Int))=true:=decide_eq_true (by omega);have r:decide (((f.length:Nat):Int)-1-((i+1:Nat):Int)<((a.length:Nat):Int))=true:=decide_eq_true (by omega);exact⟨_,by simp only[a3b,j,n,o,p,e,q,r,cT,a03,a2v,oB]<;>rfl,_,_,rfl,by simp[c],by simp[d]⟩)
  (fun st h=>by
   obtain⟨f',a,rfl,c,d⟩:=h;have j:decide (((f.length:Nat):Int)-1-((f.length-m:Nat):Int)≥(m:Int))=false:=decide_eq_false (by omega);exact⟨_,by simp only[a3b,j,cF]<;>rfl,f',a,rfl,c,d⟩) (f.length-m) 0 _ (by omega) ⟨f,g,rfl,rfl,u⟩
 subst s;simp only[nZ,Int.sub_zero]at l;exact⟨f',a,l,t⟩
theorem c4g{f:List Int}(y:o≤32)(v:g.length=f.length)(x:f.length<100000):∃ks:List Int,x0r a3c ((o:Int),(1:Int),f,g,([]:List Int),())=some (ks,())∧ks.length=o:=by
 obtain⟨b,j,ks,r,s⟩:=a7s (f:=a3c) (fun i st=>∃f' a ks:List Int,st=((o:Int),((i+1:Nat):Int),f',a,ks,())∧f'.length=f.length∧a.length=f.length∧ks.length=i)
  (fun b=>∃ks:List Int,b=(ks,())∧ks.length=o) o
  (fun i st w h=>by
   obtain⟨f',a,ks,rfl,l,n,p⟩:=h;have d:decide (((i+1:Nat):Int)≤(o:Int))=true:=decide_eq_true (by omega);obtain⟨k,q⟩:=c1g (f:=f') (g:=a) (m:=i+1) (by omega) (by omega) (by omega) (by omega);have e:wrap .i64 (((f'.length:Nat):Int)-1)=((f'.length:Nat):Int)-1:=a0H (by omega);obtain⟨t,u,j,r,s⟩:=c3o (f:=f') (g:=a) (ks:=ks++[k]) (m:=i+1) (order:=(o:Int)) (k:=k) (by omega) (by omega) (by omega) (by omega);have c:lim (ks.length+1)=true:=a0L (by omega);exact⟨_,by simp only[a3c,d,cT,q,oB,c,e,a06,j,a0C (show i+1<1000000 by omega)]<;>rfl,t,u,ks++[k],rfl,by omega,by omega,by simp[p]⟩)
  (fun st h=>by
   obtain⟨f',a,ks,rfl,l,n,p⟩:=h;have d:decide (((o+1:Nat):Int)≤(o:Int))=false:=decide_eq_false (by omega);exact⟨_,by simp only[a3c,d,cF]<;>rfl,ks,rfl,p⟩) o 0 _ (by omega) ⟨f,g,[],rfl,rfl,v,rfl⟩
 subst r;exact⟨ks,j,s⟩
theorem c4h(h:l.all a0A=true)(t:l.length≤4096)(s:1≤o)(m:o≤32):∃ks:List Int,a6x (l,(o:Int))=some (ks,0)∧ks.length=o:=by
 have p:short l:=by unfold short;omega
 obtain⟨r,e,q⟩:=c5e h (by omega);have n:short r:=by unfold short;omega
 obtain⟨ks,i,j⟩:=c4g (f:=r) (g:=r) m rfl (by omega);have k:decide ((o:Int)<1)=false:=decide_eq_false (by omega);have a:decide ((o:Int) > 32)=false:=decide_eq_false (by omega);have b:decide (((l.length:Nat):Int) > 4096)=false:=decide_eq_false (by omega);have c:decide ((0:Int)≤(o:Int))=true:=by simp
 have d:lim o=true:=a0L (by omega);refine⟨ks,?_,j⟩;unfold a6x;simp only[k,a,b,c,d,cF,cT,oB,a5X p,h,bT,e,a8l n,tN,a03,i]
theorem b4k{σ β:Type}{f:σ→Option (σ ⊕ β)}(I:Nat→σ→Prop)(Q:β→Prop)(n:Nat)(a:∀i s,i<n→I i s→(∃s',f s=some (.inl s')∧I (i+1) s')∨(∃b,f s=some (.inr b)∧Q b))
  (g:∀s,I n s→∃b,f s=some (.inr b)∧Q b):∀(k i:Nat)(s:σ),i+k=n→I i s→∃b,x0r f s=some b∧Q b
 |0,i,s,h,hi=>by
  obtain rfl:i=n:=by omega
  obtain⟨b,c,d⟩:=g s hi;exact⟨b,a0D c,d⟩
 |k+1,i,s,h,hi=>by
  rcases a i s (by omega) hi with⟨s',c,d⟩|⟨b,c,d⟩;rw[a0E c];exact b4k I Q n a g k (i+1) s' (by omega) d;exact⟨b,a0D c,d⟩
theorem c5f(k:ks.length≤32):∃b,x0r a2b (ks,ks,(ks.length:Int),(0:Int),())=some b∧(b=.inl (ks,())∨b=.inr (([]:List Int),(1:Int),())):=
 b4k (f:=a2b) (fun i s=>s=(ks,ks,(ks.length:Int),(i:Int),())) (fun b=>b=.inl (ks,())∨b=.inr (([]:List Int),(1:Int),())) ks.length
  (fun i s g h=>by
   subst h;cases h1:decide (ks[i]<(-16383:Int))with
   |true=>exact Or.inr ⟨_,by simp only[a2b,dlt g,cT,a0B g,oB,h1]<;>rfl,Or.inr rfl⟩
   |false=>
    cases h2:decide (ks[i] > (16383:Int))with
    |true=>exact Or.inr ⟨_,by simp only[a2b,dlt g,cT,cF,a0B g,oB,h1,h2]<;>rfl,Or.inr rfl⟩
    |false=>exact Or.inl ⟨_,by simp only[a2b,dlt g,cT,cF,a0B g,oB,h1,h2,a0C (show i<1000000 by omega)]<;>rfl,rfl⟩)
  (fun s h=>by
   subst h;exact⟨_,by simp only[a2b,dge,cF]<;>rfl,Or.inl rfl⟩) ks.length 0 _ (by omega) rfl
theorem c5g{a:List Int}(t:c.length=i)(u:i≤32):
  ∃g:List Int,x0r a3Y (c,(i:Int),k,a,n,(i:Int),c,(c.length:Int),(0:Int),([]:List Int),())=some (k,a,n,(i:Int),g,())∧g.length=i:=by
 obtain⟨b,p,g,q,r⟩:=a7s (f:=a3Y) (fun j s=>∃g:List Int,s=(c,(i:Int),k,a,n,(i:Int),c,(c.length:Int),(j:Int),g,())∧g.length=j)
  (fun b=>∃g:List Int,b=(k,a,n,(i:Int),g,())∧g.length=c.length) c.length
  (fun j s l h=>by
   obtain⟨g,rfl,e⟩:=h;have m:wrap .i64 ((i:Int)-1)=(i:Int)-1:=a0H (by omega);have o:wrap .i64 ((i:Int)-1-(j:Int))=((i-1-j:Nat):Int):=by rw[a0H (by omega)];omega
   have d:lim (g.length+1)=true:=a0L (by omega);exact⟨_,by simp only[a3Y,dlt l,cT,a0B l,oB,m,o,a0B (show i-1-j<c.length by omega),d,a0C (show j<1000000 by omega),a06]<;>rfl,_,rfl,by simp[e]⟩)
  (fun s h=>by
   obtain⟨g,rfl,e⟩:=h;exact⟨_,by simp only[a3Y,dge,cF]<;>rfl,g,rfl,e⟩) c.length 0 _ (by omega) ⟨[],rfl,rfl⟩
 subst q;exact⟨g,p,by omega⟩
theorem c6J(C:1≤ks.length)(w:ks.length≤32):∃c e,a8F ks=some (c,e)∧(e=0→c.length=ks.length):=by
 obtain⟨b,q,t⟩:=c5f w;have l:decide (((ks.length:Nat):Int)<1)=false:=decide_eq_false (by omega);have m:decide (((ks.length:Nat):Int) > 32)=false:=decide_eq_false (by omega);unfold a8F;simp only[l,m,cF,oB,q];rcases t with rfl|rfl;obtain⟨r,d,c,u,v⟩:=a7s (f:=a5O) (fun i s=>∃c:List Int,s=(c,ks,(ks.length:Int),(i:Int),())∧c.length=i) (fun r=>∃c:List Int,r=(c,())∧c.length=ks.length) ks.length
  (fun i s j h=>by
   obtain⟨c,rfl,g⟩:=h;have p:wrap .i64 ((i:Int)+1)=((i+1:Nat):Int):=a0C (by omega);have o:decide ((0:Int)≤((i+1:Nat):Int))=true:=by simp;omega
   have x:lim (i+1)=true:=a0L (by omega);obtain⟨B,z,A⟩:=c5g (c:=c) (a:=ks) (i:=i) (k:=ks[i]) (n:=(ks.length:Int)) g (by omega);have y:lim (B.length+1)=true:=a0L (by omega);exact⟨_,by simp only[a5O,dlt j,cT,a0B j,oB,p,o,tN,x,a03,z,y,a06]<;>rfl,_,rfl,by simp[A]⟩)
  (fun s h=>by
   obtain⟨c,rfl,g⟩:=h;exact⟨_,by simp only[a5O,dge,cF]<;>rfl,c,rfl,g⟩) ks.length 0 _ (by omega) ⟨[],rfl,rfl⟩
 subst u;simp only[nZ]at d;exact⟨c,0,by simp only[d,oB],fun _=>v⟩;exact⟨[],1,rfl,fun h=>absurd h (by decide)⟩
theorem c5h{s:Nat}{half:Int}(m:c.length≤32)(e:w≤32):
  ∃out:List Int,x0r a2d (c,(w:Int),(s:Int),half,c,(c.length:Int),(0:Int),([]:List Int),())=some (c,(w:Int),(s:Int),out,()):=by
 obtain⟨b,i,out,l⟩:=b4k (f:=a2d) (fun j st=>∃out:List Int,st=(c,(w:Int),(s:Int),half,c,(c.length:Int),(j:Int),out,())∧out.length=j)
  (fun b=>∃out:List Int,b=(c,(w:Int),(s:Int),out,())) c.length
  (fun j st k h=>by
   obtain⟨out,rfl,d⟩:=h;have a:decide ((s:Int)<0)=false:=decide_eq_false (by omega);have g:lim (out.length+1)=true:=a0L (by omega);cases hf:a1y (z0h .i64 (wrap .i64 (c[j]+half)) (s:Int)) (w:Int)with
   |true=>exact Or.inl ⟨_,by simp only[a2d,dlt k,cT,a0B k,oB,a,cF,a6n e,hf,bT,g,a0C (show j<1000000 by omega),a06]<;>rfl,_,rfl,by simp[d]⟩
   |false=>exact Or.inr ⟨_,by simp only[a2d,dlt k,cT,a0B k,oB,a,cF,a6n e,hf,a17]<;>rfl,out,rfl⟩)
  (fun st h=>by
   obtain⟨out,rfl,d⟩:=h;exact⟨_,by simp only[a2d,dge,cF]<;>rfl,out,rfl⟩) c.length 0 _ (by omega) ⟨[],rfl,rfl⟩
 subst l;exact⟨out,i⟩
theorem c5i{w:Int}(k:c.length≤32):∃b,x0r a2c (c,w,c,(c.length:Int),(0:Int),())=some b∧(b=.inl (c,w,())∨b=.inr ((0:Int),(1:Int),([]:List Int),())):=
 b4k (f:=a2c) (fun i s=>s=(c,w,c,(c.length:Int),(i:Int),())) (fun b=>b=.inl (c,w,())∨b=.inr ((0:Int),(1:Int),([]:List Int),())) c.length
  (fun i s g h=>by
   subst h;cases h1:decide (c[i]<(-35184372088832:Int))with
   |true=>exact Or.inr ⟨_,by simp only[a2c,dlt g,cT,a0B g,oB,h1]<;>rfl,Or.inr rfl⟩
   |false=>
    cases h2:decide (c[i] > (35184372088832:Int))with
    |true=>exact Or.inr ⟨_,by simp only[a2c,dlt g,cT,cF,a0B g,oB,h1,h2]<;>rfl,Or.inr rfl⟩
    |false=>exact Or.inl ⟨_,by simp only[a2c,dlt g,cT,cF,a0B g,oB,h1,h2,a0C (show i<1000000 by omega)]<;>rfl,rfl⟩)
  (fun s h=>by
   subst h;exact⟨_,by simp only[a2c,dge,cF]<;>rfl,Or.inl rfl⟩) c.length 0 _ (by omega) rfl
theorem c6K(B:1≤c.length)(q:c.length≤32)(D:2≤w∧w≤16):∃o sh e,a8G (c,(w:Int))=some (o,sh,e)∧(e=0→o.length=c.length):=by
 obtain⟨b,y,z⟩:=c5i (w:=(w:Int)) q;have t:decide (((c.length:Nat):Int)<1)=false:=decide_eq_false (by omega);have u:decide (((c.length:Nat):Int) > 32)=false:=decide_eq_false (by omega);have v:decide ((w:Int)<2)=false:=decide_eq_false (by omega);have x:decide ((w:Int) > 16)=false:=decide_eq_false (by omega);unfold a8G;simp only[t,u,v,x,cF,oB,y];rcases z with rfl|rfl
 ·obtain⟨r,p,A⟩:=b4k (f:=a2e) (fun i s=>s=(c,(w:Int),(i:Int),())) (fun r=>r=.inl ()∨∃(sh:Int)(o:List Int),r=.inr (sh,(0:Int),o,())∧o.length=c.length) 15
   (fun i s C h=>by
    subst h;have d:decide ((i:Int)≤14)=true:=decide_eq_true (by omega);have j:decide ((0:Int)≤((c.length:Nat):Int))=true:=by simp
    have l:lim c.length=true:=a0L (by omega);have k:∀g:Int,∃o:List Int,x0r a2d (c,(w:Int),(i:Int),g,c,(c.length:Int),(0:Int),([]:List Int),())=some (c,(w:Int),(i:Int),o,()):=fun g=>c5h q (by omega)
    by_cases hp:(i:Int) > 0
    ·have n:wrap .i64 ((i:Int)-1)=(i:Int)-1:=a0H (by omega);have m:decide ((i:Int)-1<0)=false:=decide_eq_false (by omega);obtain⟨o,a⟩:=k (z0g .i64 1 ((i:Int)-1));cases hc:((((o.length:Nat):Int))==((c.length:Nat):Int))with
     |true=>exact Or.inr ⟨_,by simp only[a2e,d,cT,hp,decide_true,n,m,cF,oB,j,tN,l,a03,a,hc]<;>rfl,Or.inr ⟨_,o,rfl,by have:=beq_iff_eq.1 hc;omega⟩⟩
     |false=>exact Or.inl ⟨_,by simp only[a2e,d,cT,hp,decide_true,n,m,cF,oB,j,tN,l,a03,a,hc,a0C (show i<1000000 by omega)]<;>rfl,rfl⟩
    ·obtain⟨o,a⟩:=k 0;cases hc:((((o.length:Nat):Int))==((c.length:Nat):Int))with
     |true=>exact Or.inr ⟨_,by simp only[a2e,d,cT,hp,decide_false,cF,oB,j,tN,l,a03,a,hc]<;>rfl,Or.inr ⟨_,o,rfl,by have:=beq_iff_eq.1 hc;omega⟩⟩
     |false=>exact Or.inl ⟨_,by simp only[a2e,d,cT,hp,decide_false,cF,oB,j,tN,l,a03,a,hc,a0C (show i<1000000 by omega)]<;>rfl,rfl⟩)
   (fun s h=>by
    subst h;have d:decide (((15:Nat):Int)≤14)=false:=by decide
    exact⟨_,by simp only[a2e,d,cF]<;>rfl,Or.inl rfl⟩) 15 0 (c,(w:Int),(0:Int),()) (by omega) rfl
  rcases A with rfl|⟨sh,o,rfl,a⟩;exact⟨[],0,6,by simp only[p,oB],fun h=>absurd h (by decide)⟩;exact⟨o,sh,0,by simp only[p,oB],fun _=>a⟩
 exact⟨[],0,1,rfl,fun h=>absurd h (by decide)⟩
theorem c7H(q:l.all a0A=true)(p:l.length≤4096)(j:1≤o)(m:o≤32)(n:2≤w∧w≤16):∃c sh e,a3T (l,(o:Int),(w:Int))=some (c,sh,e)∧(e=0→c.length=o):=by
 obtain⟨ks,a,s⟩:=c4h q p j m;obtain⟨c,e,b,g⟩:=c6J (ks:=ks) (by omega) (by omega);unfold a3T;simp only[a,oB,show((0:Int) != 0)=false from rfl,cF,b]
 by_cases he:e=0
 subst he;obtain⟨r,sh,k,d,i⟩:=c6K (c:=c) (w:=w) (by have:=g rfl;omega) (by have:=g rfl;omega) n
 have:=g rfl
 exact⟨r,sh,k,by simp only[show((0:Int) != 0)=false from rfl,cF,d,oB],fun h=>by have:=i h;omega⟩;have f:(e != 0)=true:=by simpa using he
 exact⟨[],0,e,by simp only[f,cT],fun h=>absurd h he⟩
theorem c6L(c:l.length<100000)(d:o≤4):∃v,a9z (l,(o:Int))=some v:=by
 obtain⟨b,k,v,a⟩:=a7s (f:=a4F) (fun i s=>∃v:Int,s=((o:Int),v,l,(l.length:Int),(i:Int),())) (fun b=>∃v:Int,b=(v,())) l.length
  (fun i s g h=>by
   obtain⟨v,rfl⟩:=h;cases hc:decide (wrap .i64 ((i:Int)+(o:Int))≥4)with
   |true=>exact⟨_,by simp only[a4F,dlt g,cT,a0B g,oB,hc,a0C (show i<1000000 by omega)]<;>rfl,_,rfl⟩
   |false=>exact⟨_,by simp only[a4F,dlt g,cT,cF,a0B g,oB,hc,a0C (show i<1000000 by omega)]<;>rfl,_,rfl⟩)
  (fun s h=>by
   obtain⟨v,rfl⟩:=h;exact⟨_,by simp only[a4F,dge,cF]<;>rfl,v,rfl⟩) l.length 0 ((o:Int),(0:Int),l,(l.length:Int),(0:Int),()) (by omega) ⟨0,rfl⟩
 subst a;refine⟨v,?_⟩;unfold a9z;simp only[k,oB]
theorem c1h(k:o≤4)(b:l.length<100000)(a:l.all a0A=true):∃r e,a4D (l,(o:Int))=some (r,e)∧r.length≤l.length:=by
 by_cases hn:o≤l.length
 ·rw[b7r k hn (by unfold short;omega) a];cases (a1M o l).all a0A with
  |true=>exact⟨_,_,rfl,by rw[a5G];omega⟩
  |false=>exact⟨_,_,rfl,by simp⟩
 have h:decide ((o:Int)<0)=false:=decide_eq_false (by omega);have g:decide ((o:Int) > 4)=false:=decide_eq_false (by omega);have f:decide (((l.length:Nat):Int)<(o:Int))=true:=decide_eq_true (by omega);exact⟨[],1,by unfold a4D;simp only[h,g,f,cF,cT,oB],by simp⟩
theorem c1i(n:l.length<100000)(p:l.all a0A=true):∃o:Nat,a6d l=some (o:Int)∧o≤4:=by
 obtain⟨b,d,o,j,m⟩:=a7s (f:=a2E) (fun i s=>∃(o:Nat)(v:Int),s=(l,(o:Int),v,(i:Int),())∧o≤4) (fun b=>∃o:Nat,b=((o:Int),())∧o≤4) 5
  (fun i s t h=>by
   obtain⟨o,v,rfl,a⟩:=h;have g:decide ((i:Int)≤4)=true:=decide_eq_true (by omega);obtain⟨r,e,k,q⟩:=c1h (o:=i) (by omega) n p;obtain⟨y,c⟩:=c6L (l:=r) (o:=i) (by omega) (by omega);cases hc:(e != 0)with
   |true=>exact⟨_,by simp only[a2E,g,cT,k,oB,hc,a0C (show i<1000000 by omega)]<;>rfl,o,v,rfl,a⟩
   |false=>
    cases h4:decide (v<0)with
    |true=>exact⟨_,by simp only[a2E,g,cT,cF,k,oB,hc,c,h4,a0C (show i<1000000 by omega)]<;>rfl,i,y,rfl,by omega⟩
    |false=>
     cases h5:decide (y<v)with
     |true=>exact⟨_,by simp only[a2E,g,cT,cF,k,oB,hc,c,h4,h5,a0C (show i<1000000 by omega)]<;>rfl,i,y,rfl,by omega⟩
     |false=>exact⟨_,by simp only[a2E,g,cT,cF,k,oB,hc,c,h4,h5,a0C (show i<1000000 by omega)]<;>rfl,o,v,rfl,a⟩)
  (fun s h=>by
   obtain⟨o,v,rfl,a⟩:=h;have g:decide (((5:Nat):Int)≤4)=false:=by decide
   exact⟨_,by simp only[a2E,g,cF]<;>rfl,o,rfl,a⟩) 5 0 (l,(0:Int),(-1:Int),(0:Int),()) (by omega) ⟨0,-1,rfl,by omega⟩
 subst j;refine⟨o,?_,m⟩;unfold a6d;simp only[d,oB]
def a9J(g:List Int→Int):List Int→List Int→List Int
 | [],_=>[]
 |x::r,done=>W (x-g done)::a9J g r (done++[x])
theorem b4l(g:List Int→Int):∀r done,(a9J g r done).length=r.length
 | [],_=>rfl
 |x::r,done=>by simp[a9J,b4l g r]
theorem c7I{g:Int}(h:a0A x=true):W (W (x-g)+g)=x:=by
 have:=b4K h
 simp_all[a6q]
theorem b6D(g:List Int→Int):∀(r done:List Int),r.all a0A=true→a2I g (a9J g r done) done=some (done++r)
 | [],done,_=>by simp[a9J,a2I]
 |x::r,done,h=>by
  rw[a09,bA]at h;simp only[a9J,a2I,c7I h.1,h.1,cT,b6D g r (done++[x]) h.2,aA,a54]
def b2v(g:List Int→Int)(r done:List Int):Option (List Int):=bif (a9J g r done).all a0A then some (a9J g r done)else none
def b4T{β:Type}(g:List Int→Int)(bad:β)(a:List Int×List Int)(x:Int):(List Int×List Int) ⊕ β:=
 bif a0A (W (x-g a.1))then .inl (a.1++[x],a.2++[W (x-g a.1)])else .inr bad
theorem b6E{β:Type}(g:List Int→Int)(f:β)(k:List Int×List Int→β):∀(r done acc:List Int),
  a6E k (a2o (b4T g f) r (done,acc))=match b2v g r done with|some e=>k (done++r,acc++e)|none=>f
 | [],done,acc=>by grind[a2o,a6E,b2v,a9J]
 |x::r,done,acc=>by
  simp[a2o,b4T];cases h:a0A (W (x-g done))with
  |true=>
   simp
   rw[b6E g f k r];simp only[b2v,a9J,a09,h,a32]
   grind
  |false=>simp_all[a6E,b2v,a9J]
theorem c1j{g:List Int→Int}{done e:List Int}(h:b2v g r done=some e):e=a9J g r done∧e.all a0A=true:=by
 unfold b2v at h
 grind
theorem c2I(h:i<l.length):l.take i++[l[i]]=l.take (i+1):=by simp
theorem b6F{l:List Int}{p:Int→Bool}(h:l.all p=true)(i:Nat):(l.take i).all p=true:=by
 grind
theorem c8B{p:Int→Bool}(h:l.all p=true)(i:Nat):(l.drop i).all p=true:=by
 grind
theorem c2J{σ β:Type}{f:σ→Option (σ ⊕ β)}(l:List Int)(k:Nat)(r:k≤l.length)(S:Nat→List Int→σ)(g:List Int×List Int→Int→(List Int×List Int) ⊕ β)(d:List Int→β)
  (j:∀i (h:i<l.length) c,k≤i→c.length=i-k→(∀a',g (l.take i,c) l[i]=.inl a'→f (S i c)=some (.inl (S (i+1) a'.2))∧a'.1=l.take (i+1)∧a'.2.length=i+1-k)∧(∀b,g (l.take i,c) l[i]=.inr b→f (S i c)=some (.inr b)))
  (e:∀c,c.length=l.length-k→f (S l.length c)=some (.inr (d c))):x0r f (S k [])=some (a6E (fun a=>d a.2) (a2o g (l.drop k) (l.take k,[]))):=by
 have h:=a0X (f:=f) (l.drop k) (fun i a=>S (k+i) a.2) g (fun i a=>a.1=l.take (k+i)∧a.2.length=i) (fun a=>d a.2)
  (fun i p a n=>by
   obtain⟨a1,c⟩:=a;obtain⟨m,o⟩:=n;simp only at m o;subst m;rw[a21]at p;have q:k+i<l.length:=by omega
   grind)
  (fun a n=>by
   simp_all) (a:=(l.take k,[])) ⟨by simp,rfl⟩
 omega
def b6G(l c:List Int)(s:Int):Option (List Int):=bif l.all a0A then b2v (a7y c s) (l.drop c.length) (l.take c.length)else none
theorem b5X{s:Int}(w:a4J c s=true)(u:c.length≤l.length)(z:l.length<100000):
  a6Z (l,c,s)=some (a2t (b6G l c s)):=by
 have n:short l:=by unfold short;omega
 have k:short c:=by unfold short;omega
 have e:0≤s:=by simp_all[a4J]
 have p:decide (((l.length:Nat):Int)<((c.length:Nat):Int))=false:=by simp_all
 unfold a6Z b6G;simp only[a9H k,w,oB,bT,cF,p,a5X n];cases hw:l.all a0A with
 |false=>rfl
 |true=>
  have q:wrap .i64 (((l.length:Nat):Int)-((c.length:Nat):Int))=((l.length-c.length:Nat):Int):=by grind[a0H]
  have y:decide ((0:Int)≤((l.length-c.length:Nat):Int))=true:=by simp
  have r:lim (l.length-c.length)=true:=a0L (by omega);simp[q,r]
  have:=c2J (f:=a4E) l c.length u (fun i h=>(l,c,s,(i:Int),h,())) (b4T (a7y c s) (.inr ((6:Int),([]:List Int),()))) (fun h=>.inl (h,()))
   (fun i a h v d=>by
    have o:short (l.take i):=by unfold short;grind
    have j:decide ((0:Int)≤(i:Int))=true:=by simp
    have m:decide ((i:Int)≤((l.length:Nat):Int))=true:=by grind
    have t:lim (h.length+1)=true:=a0L (by omega);constructor
    ·intro x g;unfold b4T at g;cases hq:a0A (W (l[i]-a7y c s (l.take i)))with
     |false=>simp_all
     |true=>
      simp only[hq,cT,Sum.inl.injEq]at g;subst g;refine⟨?_,c2I a,by grind⟩;simp only[a4E,dlt a,cT,a0B a,oB,j,m,a03,tN,b6s o k e,a6l,hq,bT,cF,t,a0C (a22 a n),a06]
    ·intro b hb;unfold b4T at hb;cases hq:a0A (W (l[i]-a7y c s (l.take i)))with
     |true=>simp_all
     |false=>
      simp[hq]at hb;subst hb;simp only[a4E,dlt a,cT,a0B a,oB,j,m,a03,tN,b6s o k e,a6l,hq,a17])
   (fun h d=>by simp[a4E])
  rw[this,b6E];cases b2v (a7y c s) (l.drop c.length) (l.take c.length)<;>rfl
theorem b6H{s:Int}(h:b6G l c s=some r):b1e (l.take c.length) r c s=some l∧r.all a0A=true∧r.length=l.length-c.length:=by
 unfold b6G at h;cases hw:l.all a0A with
 |false=>simp_all
 |true=>
  simp[hw]at h;obtain⟨e,g⟩:=c1j h;refine⟨?_,g,by simp_all[b4l]⟩;simp[b1e,b6F hw,g]
  grind[b6D,List.take_append_drop]
def b5Y(l:List Int)(lag:Int)(t:List Int):Option (List Int):=bif l.all a0A then b2v (a5z lag t) l []else none
theorem c4i(p:a7R lag t=true)(d:t.length=3)(s:l.length<100000):
  a9f (l,lag,t)=some (a2t (b5Y l lag t)):=by
 have c:short l:=by unfold short;omega
 obtain⟨j,m⟩:2≤lag∧lag≤1024:=by simp_all[a7R]
 unfold a9f b5Y;simp only[b5n d,p,oB,bT,cF,b4I c];cases hw:l.all a0A with
 |false=>rfl
 |true=>
  have r:decide ((0:Int)≤((l.length:Nat):Int))=true:=by simp
  have e:lim l.length=true:=a0L (by omega);simp[e]
  have:=c2J (f:=a6c) l 0 (Nat.zero_le _) (fun i h=>(l,lag,l,(l.length:Int),(i:Int),h,t,())) (b4T (a5z lag t) (.inr ((6:Int),([]:List Int),()))) (fun h=>.inl (h,()))
   (fun i a h o k=>by
    have n:lim (h.length+1)=true:=a0L (by omega);have hp:=b4L (lag:=lag) (t:=t) (a58 a) c d j m;constructor
    ·intro q g;unfold b4T at g;cases hq:a0A (W (l[i]-a5z lag t (l.take i)))with
     |false=>simp_all
     |true=>
      simp only[hq,cT,Sum.inl.injEq]at g;subst g;refine⟨?_,c2I a,by simp_all⟩;simp only[a6c,dlt a,cT,a0B a,oB,hp,a8i,hq,bT,cF,n,a0C (a22 a c),a06]
    ·intro b hb;unfold b4T at hb;cases hq:a0A (W (l[i]-a5z lag t (l.take i)))with
     |true=>simp_all
     |false=>
      simp_all[a6c,a0B,a8i])
   (fun h k=>by simp[a6c])
  simp only[nZ]at this;rw[this,b6E,a08,List.take_zero];cases b2v (a5z lag t) l []<;>rfl
theorem b8w(h:b5Y l lag t=some r):b2p r lag t=some l∧r.all a0A=true∧r.length=l.length:=by
 unfold b5Y at h;cases hw:l.all a0A with
 |false=>simp_all
 |true=>
  simp[hw]at h;obtain⟨e,g⟩:=c1j h;refine⟨?_,g,by rw[e,b4l]⟩;simp[b2p,g];simp_all[b6D]
def rsG:List Int→Fil→List Int
 | [],_=>[]
 |x::r,f=>W (x-a0P f)::rsG r (a9I f x)
theorem b6I:∀r f,(rsG r f).length=r.length
 | [],_=>rfl
 |x::r,f=>by simp[rsG,b6I r]
def rsO:List Int→List Int→Fil→Option (List Int)
 | [],done,_=>some done
 |x::r,done,f=>bif a0A (W (x-a0P f))then rsO r (done++[W (x-a0P f)]) (a9I f x)else none
theorem c7J:∀(r done:List Int)(f:Fil),rsO r done f=bif (rsG r f).all a0A then some (done++rsG r f)else none
 | [],done,f=>by simp[rsO,rsG]
 |x::r,done,f=>by
  simp only[rsO,rsG,a09];cases a0A (W (x-a0P f))with
  |false=>rfl
  |true=>simp only[cT,a32,c7J r,aA,a54]
theorem c5A:∀(r z:List Int)(f:Fil),r.all a0A=true→stO (rsG r f) z f=some (z++r)
 | [],z,f,_=>by simp[rsG,stO]
 |x::r,z,f,h=>by
  rw[a09,bA]at h;have e:W (a0P f+W (x-a0P f))=x:=by rw[Int.add_comm];exact c7I h.1
  simp only[rsG,stO,e,h.1,cT,c5A r _ _ h.2,aA,a54]
theorem b4U{row:List Int}{a:List Stg}{b c:Int}(l:short row):∀(k i:Nat)(done:List Int)(f:Fil),i+k=row.length→done.length=i→FilOk f→
  x0r a5j (a,b,c,(row.length:Int),(i:Int),done++row.drop i,f,())=some (match rsO (row.drop i) done f with
   |some r=>.inl (a,b,c,r,())
   |none=>.inr ((6:Int),([]:List Int),()))
 |0,i,done,f,h,hd,hf=>by
  obtain rfl:i=row.length:=by omega
  rw[a16,a39];exact a0D (b:=Sum.inl (a,b,c,done,())) (by simp[a5j])
 |k+1,i,done,f,h,hd,hf=>by
  have g:i<row.length:=by omega
  have n:row.length<1000000:=l;have e:decide ((0:Int)≤(i:Int))=true:=by simp
  have m:(done++row.drop i).length=row.length:=by simp;omega
  have j:decide ((i:Int)<(((done++row.drop i).length:Nat):Int))=true:=by rw[m];simp;omega
  have d:rsO (row.drop i) done f=bif a0A (W (row[i]-a0P f))then rsO (row.drop (i+1)) (done++[W (row[i]-a0P f)]) (a9I f row[i])else none:=by
   rw[a02 g];rfl
  rw[d];cases hw:a0A (W (row[i]-a0P f))with
  |true=>
   rw[a0E (s':=(a,b,c,(row.length:Int),((i+1:Nat):Int),(done++[W (row[i]-a0P f)])++row.drop (i+1),a9I f row[i],())) (by
    simp only[a5j,dlt g,e,j,cT,a03,a6m hf,oB,tN,a9U hd g,a5b,hw,bT,cF,b7l hf,b9N hd g,a0C (show i<1000000 by omega)])]
   exact b4U l k (i+1) _ _ (by omega) (by simp;omega) (b9L hf _)
  |false=>
   exact a0D (by
    simp only[a5j,dlt g,e,j,cT,a03,a6m hf,oB,tN,a9U hd g,a5b,hw,a17];rfl)
def lRO:List Stg→List Int→Option (List Int)
 | [],row=>some row
 |s::r,row=>match rsO row [] (a8m s)with
  |some row'=>lRO r row'
  |none=>none
theorem c4j(h:rsO row [] f=some d):d=rsG row f∧d.all a0A=true:=by
 rw[c7J]at h;cases hc:(rsG row f).all a0A with
 |true=>simp only[hc,cT,a23,sj]at h;subst h;exact⟨rfl,hc⟩
 |false=>simp[hc]at h
theorem c2K:∀(a b:List Stg)(row:List Int),lO (a++b) row=match lO a row with|some r=>lO b r|none=>none
 | [],b,row=>rfl
 |s::a,b,row=>by
  simp only[a98,lO];split;exact c2K a b _;rfl
theorem c4k:∀(st:List Stg)(row d:List Int),row.all a0A=true→lRO st row=some d→lO st.reverse d=some row∧d.all a0A=true∧d.length=row.length
 | [],row,d,hw,h=>by
  simp only[lRO,sj]at h;subst h;exact⟨rfl,hw,rfl⟩
 |s::st,row,d,hw,h=>by
  simp only[lRO]at h
  split at h
  rename_i g c;obtain⟨e,f⟩:=c4j c;obtain⟨k,a,b⟩:=c4k st g d f h;refine⟨?_,a,by rw[b,e,b6I]⟩;rw[List.reverse_cons,c2K,k];simp only[lO];rw[e,c5A row [] _ hw,a23];cases h
theorem b3l{st:List Stg}(i:∀s∈st,stageB s=true)(l:st.length≤3):∀(j k:Nat)(row:List Int),k+j=st.length→short row→
  x0r a5k (st,(st.length:Int),(k:Int),row,())=some (match lRO (st.drop k) row with
   |some r=>.inl (r,())
   |none=>.inr ((6:Int),([]:List Int),()))
 |0,k,row,h,hs=>by
  obtain rfl:k=st.length:=by omega
  rw[a16];exact a0D (by simp[a5k,lRO])
 |j+1,k,row,h,hs=>by
  have f:k<st.length:=by omega
  have g:=i _ (a04 f);have d:=b4U (a:=st) (b:=(st.length:Int)) (c:=(k:Int)) hs row.length 0 [] (a8m st[k]) (by omega) rfl (c1Y g);simp only[nZ,a08,a23]at d;have e:((0:Int) != 0)=false:=rfl;rw[a02 f];simp only[lRO];cases hr:rsO row [] (a8m st[k])with
  |some r=>
   rw[hr]at d;rw[a0E (s':=(st,(st.length:Int),((k+1:Nat):Int),r,())) (by simp only[a5k,dlt f,cT,a0B f,oB,b4a g,e,cF,d,a0C (show k<1000000 by omega)])];exact b3l i l j (k+1) r (by omega) (by have:=(c4j hr).1;unfold short at hs⊢;rw[this,b6I];exact hs)
  |none=>
   rw[hr]at d;exact a0D (by simp only[a5k,dlt f,cT,a0B f,oB,b4a g,e,cF,d])
def b3C(l:List Int)(st:List Stg):Option (List Int):=bif l.all a0A then lRO st l else none
theorem c3p(k:a5y st=true)(a:l.length<100000):b0R (l,st)=some (a2t (b3C l st)):=by
 have h:=k;simp only[a5y,bA,dT]at h;have f:short st:=by unfold short;omega
 have g:short l:=by unfold short;omega
 unfold b0R b3C;simp only[b3X f,k,oB,bT,cF,b3W g];cases hw:l.all a0A with
 |false=>rfl
 |true=>
  have:=b3l (lA.1 h.2) h.1 st.length 0 l (by omega) g
  simp only[nZ,a08]at this;simp only[bT,cF,cT,a8l g,oB,this];cases lRO st l<;>rfl
theorem c1k(h:b3C l st=some r):a9j r st=some l∧r.all a0A=true∧r.length=l.length:=by
 unfold b3C at h;cases hw:l.all a0A with
 |false=>simp[hw]at h
 |true=>
  simp only[hw,cT]at h;obtain⟨f,g,k⟩:=c4k st l r hw h;exact⟨by simp only[a9j,g,cT,f],g,k⟩
theorem p64{w:Nat}(h:w≤64):((2^w:Nat):Int) ∣ 18446744073709551616:=a27.2 (a56 2 h)
theorem d1P(n:Int):∃q,wrap .i64 n=n+18446744073709551616*q:=by
 rw[a6q,Int.bmod];split;exact⟨-(n / 18446744073709551616),by omega⟩;exact⟨-(n / 18446744073709551616)-1,by omega⟩
theorem c8C(h:w≤64)(n:Int):((2^w:Nat):Int) ∣ wrap .i64 n↔((2^w:Nat):Int) ∣ n:=by
 obtain⟨q,g⟩:=d1P n;rw[g]
 grind[a73,a50,p64]
theorem c2L(h:w≤64)(a:Int):2^w ∣ (a05 64 a).toNat↔((2^w:Nat):Int) ∣ a:=by
 have e:(((a05 64 a).toNat:Nat):Int)=a+18446744073709551616*-(a / 18446744073709551616):=by
  rw[a48];omega
 rw[←a27,e]
 grind[a73,a50,p64]
theorem c6M(w x y:Nat):2^w ∣ (x ||| y)↔2^w ∣ x∧2^w ∣ y:=by
 simp_all[Nat.dvd_iff_mod_eq_zero,Nat.or_mod_two_pow]
theorem d1Q(h:w≤64)(a b:Int):((2^w:Nat):Int) ∣ bits .i64 .or a b↔((2^w:Nat):Int) ∣ a∧((2^w:Nat):Int) ∣ b:=by
 show((2^w:Nat):Int) ∣ wrap .i64 ((((a05 64 a) ||| (a05 64 b)).toNat:Nat):Int)↔_;rw[c8C h,a27,a80,c6M,c2L h,c2L h]
def orI(l:List Int)(a:Int):Int:=l.foldl (fun a x=>bits .i64 .or a x) a
theorem b5Z{w:Nat}(h:w≤64):∀(l:List Int)(a:Int),((2^w:Nat):Int) ∣ orI l a↔((2^w:Nat):Int) ∣ a∧∀x∈l,((2^w:Nat):Int) ∣ x
 | [],a=>by simp[orI]
 |x::l,a=>by
  show((2^w:Nat):Int) ∣ orI l (bits .i64 .or a x)↔_;rw[b5Z h l,d1Q h];simp_all[and_assoc]
theorem c4l:∀(l:List Int),(∀x∈l,x=0)→orI l 0=0
 | [],_=>rfl
 |x::l,h=>by
  have g:=h x (a64);subst g;show orI l (bits .i64 .or 0 0)=0;rw[show bits .i64 .or 0 0=0 from by rfl];simp_all[c4l]
theorem d1R(k:l.all a0A=true)(h:∃x∈l,x≠0):orI l 0≠0:=by
 intro e;obtain⟨x,g,f⟩:=h;have b:=((b5Z (w:=62) (by omega) l 0).1 (by omega)).2 x g;have a:=a1H.1 (lA.1 k x g);omega
def a8P(l:List Int)(w:Nat):Prop:=
 ((∀x∈l,x=0)∧w=0)∨((∃x∈l,x≠0)∧w≤30∧(∀x∈l,((2^w:Nat):Int) ∣ x)∧(w=30∨∃x∈l,¬ ((2^(w+1):Nat):Int) ∣ x))
theorem c6N{v w:Nat}(h:v≤w){x:Int}(g:((2^w:Nat):Int) ∣ x):((2^v:Nat):Int) ∣ x:=
 Int.dvd_trans (a27.2 (a56 2 h)) g
theorem a8P.unique(hv:a8P l v)(g:a8P l w):v=w:=by
 have d:∀{v w:Nat},v≤30→w≤30→(∀x∈l,((2^w:Nat):Int) ∣ x)→(v=30∨∃x∈l,¬ ((2^(v+1):Nat):Int) ∣ x)→w≤v:=by
  grind[c6N]
 rcases hv with⟨f,hv⟩|⟨⟨x,c,h⟩,hv1,hv2,hv3⟩
 ·rcases g with⟨-,g⟩|⟨⟨x,c,h⟩,-⟩
  all_goals grind
 ·rcases g with⟨f,-⟩|⟨-,k,a,b⟩
  all_goals grind
theorem c4m:∀(n N:Nat),N≤n→0<N→∃k m,N=2^k*(2*m+1)
 |0,N,h,h0=>absurd h0 (by omega)
 |n+1,N,h,h0=>by
  by_cases he:N%2=0
  obtain⟨k,m,e⟩:=c4m n (N / 2) (by omega) (by omega);refine⟨k+1,m,?_⟩;rw[a76,a75 (2^k) 2,Nat.mul_assoc,←e];omega;exact⟨0,N / 2,by omega⟩
theorem d0I{k:Nat}(h:2^k*(2*m+1)<2^64):(2^k*(2*m+1)) &&& (2^64-2^k*(2*m+1))=2^k:=by
 have hp:1≤2^k:=a93;have n:k<64:=by
  refine b03 fun g=>?_
  have d:2^64≤2^k:=a19 (by simp) g
  grind
 have e:2^k*(2*m+1)=(2^k*(2*m)+(2^k-1))+1:=by grind
 have l:2^k*(2*m)+(2^k-1)<2^64:=by omega
 refine Nat.eq_of_testBit_eq fun i=>?_
 have a:(2^64-2^k*(2*m+1)).testBit i=(decide (i<64)&&!(2^k*(2*m)+(2^k-1)).testBit i):=by
  rw[e];exact Nat.testBit_two_pow_sub_succ l i
 have f:=a62 (2*m+1) (b:=0) (i:=k) (by omega) i;rw[a57]at f;have c:=a62 (2*m) (b:=2^k-1) (i:=k) (by omega) i;rw[Nat.testBit_and,a,f,c,Nat.testBit_two_pow]
 by_cases d:i<k
 grind
 by_cases h2:k=i
 simp_all;obtain⟨j,rfl⟩:∃j,i=k+(j+1):=⟨i-k-1,by omega⟩;have o:k+(j+1)-k=j+1:=by omega
 have p:(2*m+1) / 2=m:=by omega
 simp_all[Nat.testBit_succ]
theorem c8D:∀k:Nat,k<64→b1R[(2^k*285870213051353865)%18446744073709551616 / 288230376151711744]?=some (k:Int):=by
 have h:∀k:Fin 64,b1R[(2^k.val*285870213051353865)%18446744073709551616 / 288230376151711744]?=some (k.val:Int):=by decide
 exact fun k g=>h ⟨k,g⟩
theorem c5j{k:Nat}:¬ 2^(k+1) ∣ 2^k*(2*m+1):=by
 rintro⟨c,h⟩
 rw[a76,Nat.mul_assoc]at h
 grind[Nat.eq_of_mul_eq_mul_left]
theorem c8E(d:0<N)(h:N<18446744073709551616):∃k:Nat,a1C (N:Int)=some (k:Int)∧2^k ∣ N∧¬ 2^(k+1) ∣ N:=by
 obtain⟨k,m,e⟩:=c4m N N (a35 _) d;have n:2^k≤N:=by grind
 have i:k<64:=by
  refine b03 fun g=>?_
  have l:2^64≤2^k:=a19 (by simp) g;omega
 refine⟨k,?_,⟨_,e⟩,e▸c5j⟩;have hb:bits .u64 .and (N:Int) (wrap .u64 (0-(N:Int)))=((2^k:Nat):Int):=by
  have b:wrap .u64 (0-(N:Int))=((18446744073709551616-N:Nat):Int):=by
   grind[wrap,IntKind.bits,IntKind.signed]
  rw[b];show wrap .u64 (((a05 64 (N:Int)) &&& (a05 64 ((18446744073709551616-N:Nat):Int))).toNat:Int)=_;rw[a24,a24,a72,a33,a33,a36 h,a36 (by omega)]
  have:=d0I (k:=k) (m:=m) (by omega)
  rw[←e]at this;rw[show(18446744073709551616:Nat)=2^64 from rfl,this];exact a0M (by omega)
 have j:((N:Int)==0)=false:=by grind
 unfold a1C;rw[hb,j,cF];have f:wrap .u64 (((2^k:Nat):Int)*285870213051353865)=(((2^k*285870213051353865)%18446744073709551616:Nat):Int):=by
  rfl
 have a:=c8D k i;generalize (2^k*285870213051353865)%18446744073709551616=M at f a;have c:=a4i (N:=M) (o:=58) (by omega);rw[f,show(58:Int)=((58:Nat):Int)from rfl,c,show 2^58=288230376151711744 from rfl];generalize M / 288230376151711744=J at a
 grind[a0B,a0H]
theorem c8F{n:Nat}(g:n≤62)(c:Int):z0h .i64 (((2^n:Nat):Int)*c) (n:Int)=c:=by
 have hp:0<2^n:=a29 n;have e:min (a34 (n:Int)) (IntKind.bits .i64)=n:=by grind[IntKind.bits]
 have h:((2^n:Nat):Int)=2^n:=by simp
 unfold z0h
 grind[a71]
theorem c5B{l:List Int}(f:short l):∀(k i:Nat)(a:Int),i+k=l.length→x0r a5h (a,l,(l.length:Int),(i:Int),())=some (orI (l.drop i) a,())
 |0,i,a,h=>by
  obtain rfl:i=l.length:=by omega
  simp_all[a0D,a5h,orI]
 |k+1,i,a,h=>by
  have g:i<l.length:=by omega
  have b:l.length<1000000:=f;rw[a02 g,a0E (s':=(bits .i64 .or a l[i],l,(l.length:Int),((i+1:Nat):Int),())) (by
   simp only[a5h,dlt g,cT,a0B g,oB,a0C (show i<1000000 by omega)])]
  exact c5B f k (i+1) _ (by omega)
theorem c5k{l:List Int}{r:Nat}(g:r≤30)(h:r=30∨¬ ((2^(r+1):Nat):Int) ∣ orI l 0):r=30∨∃x∈l,¬ ((2^(r+1):Nat):Int) ∣ x:=by
 grind[b5Z,a94]
theorem b9T{l:List Int}(y:short l)(j:l.all a0A=true):∃w:Nat,a3G l=some (w:Int)∧w≤30∧a8P l w:=by
 have a:=c5B y l.length 0 0 (by omega);simp at a;unfold a3G;simp[a]
 by_cases hz:∀x∈l,x=0
 have e:=c4l l hz;exact⟨0,by simp_all,by omega,.inl ⟨hz,rfl⟩⟩
 ·have g:∃x∈l,x≠0:=Classical.byContradiction fun m=>hz fun x g=>Classical.byContradiction fun s=>m ⟨x,g,s⟩;have t:=d1R j g;have n:(orI l 0==0)=false:=by simp_all
  obtain⟨q,u⟩:∃q,wrap .u64 (orI l 0)=orI l 0+18446744073709551616*q:=⟨-(orI l 0 / 18446744073709551616),by
   grind[wrap,IntKind.bits,IntKind.signed]⟩
  obtain⟨B,r2⟩:=b9x (orI l 0);obtain⟨N,d⟩:=a01 B;have b:∀v,v≤64→(2^v ∣ N↔((2^v:Nat):Int) ∣ orI l 0):=fun v hv=>by
   rw[←a27,←d,u]
   grind[a73,a50,p64]
  have h:0<N:=by
   refine Nat.pos_of_ne_zero fun C=>?_
   obtain⟨x,f,A⟩:=g;have E:=((b5Z (w:=62) (by omega) l 0).1 ((b 62 (by omega)).1 (by omega))).2 x f;have z:=a1H.1 (lA.1 j x f);omega
  obtain⟨k,p,c,r⟩:=c8E h (by omega);have i:k≤63:=by
   refine Nat.le_of_not_lt fun o=>?_
   have a:2^64≤2^k:=a19 (by simp) (by omega)
   have:=Nat.le_of_dvd h c
   omega
  simp only[n,cF,d,p,oB];have D:v0a (k:Int) 30=((min k 30:Nat):Int):=by rw[c1V];omega
  refine⟨min k 30,by grind,by omega,.inr ⟨g,by omega,?_,?_⟩⟩
  all_goals grind[b5Z,Nat.dvd_trans,a56,c5k]
theorem d0J(g:w≤30)(d:l.all a0A=true)(h:a8P l w):b1m (w:Int) l=some (l.map fun x=>z0h .i64 x (w:Int)):=by
 have f:∀x∈l,((2^w:Nat):Int) ∣ x:=by
  rcases h with⟨h,-⟩|⟨-,-,h,-⟩
  all_goals grind[a94]
 have:l.all (b2t (w:Int))=true:=by
  rw[lA];intro x k;obtain⟨c,a⟩:=f x k;have b:a46 x (z0g .i64 1 (w:Int))=0:=by simp_all[c4b]
  simp_all[b2t]
 simp only[b1m,this,cT]
def b8x(k:Nat)(l:List Int):Nat:=(l.map (a4T k)).sum
def rbN(l:List Int):Nat→Nat
 |0=>0
 |i+1=>if b8x (i+1) l<b8x (rbN l i) l then i+1 else rbN l i
theorem c4n(l:List Int):∀i,rbN l i≤i
 |0=>a35 _
 |i+1=>by
  have:=c4n l i
  simp only[rbN]
  split<;>omega
theorem b6J{k:Nat}(h:k≤25)(f:l.all a0A=true)(g:l.length<10000):a3m ((k:Int),l)=some ((b8x k l:Nat):Int):=b9y h f g
theorem d1S(h:a<b):decide ((a:Int)<(b:Int))=true:=decide_eq_true (by omega)
theorem c6O(h:¬ a<b):decide ((a:Int)<(b:Int))=false:=decide_eq_false (by omega)
theorem b8y(g:l.all a0A=true)(h:l.length<10000):b2f l=some ((rbN l 25:Nat):Int):=by
 have:=a1x (f:=a8D) (fun i:Nat=>(l,((rbN l i:Nat):Int),((b8x (rbN l i) l:Nat):Int),((i+1:Nat):Int),())) 25 (b:=(((rbN l 25:Nat):Int),()))
  (fun i n=>by
   have a:decide (((i+1:Nat):Int)≤25)=true:=decide_eq_true (by omega);have d:wrap .i64 (((i+1:Nat):Int)+1)=((i+1+1:Nat):Int):=a0C (by omega);have c:=b6J (k:=i+1) (by omega) g h
   by_cases hlt:b8x (i+1) l<b8x (rbN l i) l
   simp_all[a8D,rbN];simp only[a8D,a,cT,cF,c,oB,d,c6O hlt,rbN,hlt,if_false])
  (by
   rfl)
 have m:=b6J (k:=0) (by omega) g h;have j:((0+1:Nat):Int)=1:=rfl;have e:rbN l 0=0:=rfl;simp_all[b2f]
def b3D(l:List Int):Int:=if 5+a0I l*l.length<b8x (rbN l 25) l then 31 else((rbN l 25:Nat):Int)
theorem c6P(l:List Int):kB (b3D l)=true:=by
 have:=c4n l 25
 unfold b3D;split;rfl;simp only[kB,a18,bA,dT];omega
theorem c1l(g:l.all a0A=true)(h:l.length<10000):a8E l=some (b3D l):=by
 have a:=c4n l 25;have f:=b6J (k:=rbN l 25) a g h;unfold a8E b3D
 by_cases hlt:5+a0I l*l.length<b8x (rbN l 25) l
 simp only[b8y g h,b4i h,f,oB,d1S hlt,cT,hlt,if_true];simp only[b8y g h,b4i h,f,oB,c6O hlt,cF,hlt,if_false]
def a2C:List Nat→List Int→List Int
 | [],_=>[]
 |z::zs,l=>b3D (l.take z)::a2C zs (l.drop z)
theorem b6a:∀zs l,(a2C zs l).length=zs.length
 | [],_=>rfl
 |z::zs,l=>by simp[a2C,b6a zs]
theorem c1m:∀zs l,(a2C zs l).all kB=true
 | [],_=>rfl
 |z::zs,l=>by simp[a2C,c1m zs,c6P]
theorem b7t{zn:List Nat}{n warm most least order:Int}{L:List Int}{a b:Prt}(m:zn.length≤256):∀(j i:Nat)(rest ks:List Int),i+j=zn.length→(zn.drop i).sum=rest.length→rest.all a0A=true→rest.length≤5000→ks.length=i→
  x0r a7F (n,warm,most,L,least,order,rest,((zn.length:Nat):Int),(i:Int),a1v zn,a,b,(order,ks,()),())=some (n,warm,most,L,least,order,a,b,(order,ks++a2C (zn.drop i) rest,()),())
 |0,i,rest,ks,h,_,_,_,_=>by
  obtain rfl:i=zn.length:=by omega
  simp_all[a0D,a7F,a2C]
 |j+1,i,rest,ks,h,hr,hwr,hr5,hki=>by
  have g:i<zn.length:=by omega
  rw[b1H g]at hr;have k:decide ((0:Int)≤(i:Int))=true:=by simp
  have c:decide ((i:Int)<(((a1v zn).length:Nat):Int))=true:=by simp_all[a1h]
  have d:decide ((0:Int)≤((zn[i]:Nat):Int))=true:=by simp
  have e:decide (((zn[i]:Nat):Int)≤((rest.length:Nat):Int))=true:=by grind
  have l:=c1l (b6F hwr zn[i]) (by grind);have f:lim (ks.length+1)=true:=a0L (by omega);rw[a02 g,a0E (s':=(n,warm,most,L,least,order,rest.drop zn[i],((zn.length:Nat):Int),((i+1:Nat):Int),a1v zn,a,b,(order,ks++[b3D (rest.take zn[i])],()),())) (by
   simp only[a7F,dlt g,k,c,a4j g,d,e,cT,a03,tN,l,oB,f,a20,a0C (show i<1000000 by omega),a06])]
  rw[b7t m j (i+1) _ _ (by omega) (by grind) (c8B hwr _) (by grind) (by simp_all)];simp_all[a2C]
def zsN(o n warm:Int):List Nat:=(a1p o n warm).map a34
def b3A(o n warm:Int)(l:List Int):Prt:=(o,a2C (zsN o n warm) l,())
def c1n(o n warm:Int)(l:List Int):Nat:=4+a4b (zsN o n warm) (a2C (zsN o n warm) l) l
def a1D(n warm:Int)(l:List Int):Nat→Prt×Nat
 |0=>((0,[],()),0)
 |i+1=>if(a1p (i:Int) n warm).length=0 then a1D n warm l i else
   if(a1D n warm l i).2=0∨c1n (i:Int) n warm l<(a1D n warm l i).2 then(b3A (i:Int) n warm l,c1n (i:Int) n warm l)else a1D n warm l i
def b8L(n warm:Int)(l:List Int):Prt:=(a1D n warm l 7).1
theorem c5C(b:(a1p (o:Int) n warm).length≠0)(a:(l.length:Int)=n-warm)(c:l.all a0A=true)(k:l.length≤5000):
  ∃h,a1p (o:Int) n warm=a1v h∧zsN (o:Int) n warm=h∧h.length≤256∧h.sum=l.length∧a3e (b3A (o:Int) n warm l) n warm=true∧PartsOk (b3A (o:Int) n warm l) n warm l h:=by
 obtain⟨h,e,i,j⟩:=b5s b;have d:zsN (o:Int) n warm=h:=by simp_all[zsN,a9l]
 have hp:a3e (b3A (o:Int) n warm l) n warm=true:=by
  simp only[a3e,b3A,bA,a41,beq_eq_false_iff_ne,ne_eq,beq_iff_eq];simp_all[a1h,b6a,c1m]
 obtain⟨f,g⟩:=PartsOk.of hp a c k
 have:f=h:=by
  have m:=g.sizes
  grind[b3A,a9l]
 grind
theorem b6K{n warm:Int}{l:List Int}(b:a3U n warm=true)(f:(l.length:Int)=n-warm)(a:l.all a0A=true)(g:l.length≤5000):∀i,1≤i→(a1D n warm l i).2≠0∧a3e (a1D n warm l i).1 n warm=true
 |0,h=>absurd h (by omega)
 |i+1,_=>by
  by_cases hs:(a1p (i:Int) n warm).length=0
  ·simp only[a1D,hs,if_true];cases i with
   |zero=>grind[c6H]
   |succ i=>exact b6K b f a g (i+1) (by omega)
  ·obtain⟨c,-,-,-,-,hp,-⟩:=c5C hs f a g;simp only[a1D,hs,if_false];split;simp_all[c1n]
   ·rename_i k;cases i with
    |zero=>exact absurd (Or.inl rfl) k
    |succ i=>exact b6K b f a g (i+1) (by omega)
theorem c8G(f:a3U n warm=true)(g:(l.length:Int)=n-warm)(k:l.all a0A=true)(h:l.length≤5000):a3e (b8L n warm l) n warm=true:=
 (b6K f g k h 7 (by omega)).2
theorem c3q(A:a3U n warm=true)(x:(l.length:Int)=n-warm)(t:l.all a0A=true)(s:l.length≤5000):
  b0S (n,warm,(6:Int),l)=some (b8L n warm l,0):=by
 have:=a1x (f:=a3H) (fun i:Nat=>(n,warm,(6:Int),l,(((a1D n warm l i).2:Nat):Int),(i:Int),((0:Int),([]:List Int),()),(a1D n warm l i).1,())) 7 (b:=(((0:Int),([]:List Int),()),b8L n warm l,()))
  (fun i z=>by
   have j:decide ((i:Int)≤v0a (u0z 6 0) 8)=true:=decide_eq_true (by have:v0a (u0z 6 0) 8=6:=rfl;omega);have r:wrap .i64 ((i:Int)+1)=((i+1:Nat):Int):=a0C (by omega)
   by_cases hs:(a1p (i:Int) n warm).length=0
   simp_all[a1D,a3H,a2z];have hb:((((a1p (i:Int) n warm).length:Nat):Int)==0)=false:=by simp_all
   obtain⟨h,p,o,w,y,-,q⟩:=c5C hs x t s;have d:=b7t (n:=n) (warm:=warm) (most:=6) (least:=(((a1D n warm l i).2:Nat):Int)) (order:=(i:Int)) (L:=l) (a:=((0:Int),([]:List Int),())) (b:=(a1D n warm l i).1) w h.length 0 l [] (by omega) (by simp_all) t s rfl;simp at d;have e:=c3m q;simp only[b3A,o]at e;have k:(((h.length:Nat):Int)==0)=false:=by simp_all[a1h]
   have m:(((a1v h).length:Nat):Int)=((h.length:Nat):Int):=by rw[a1h]
   have v:b3A (i:Int) n warm l=((i:Int),a2C h l,()):=by simp only[b3A,o]
   have u:c1n (i:Int) n warm l=4+a4b h (a2C h l) l:=by simp only[c1n,o]
   by_cases hz:(a1D n warm l i).2=0
   have g:((((a1D n warm l i).2:Nat):Int)==0)=true:=by simp_all
   have c:a1D n warm l (i+1)=(((i:Int),a2C h l,()),4+a4b h (a2C h l) l):=by simp_all[a1D]
   simp only[a3H,j,cT,a2z,oB,p,m,k,cF,d,e,r,c,g];have g:((((a1D n warm l i).2:Nat):Int)==0)=false:=by simp_all
   by_cases hlt:4+a4b h (a2C h l) l<(a1D n warm l i).2
   have c:a1D n warm l (i+1)=(((i:Int),a2C h l,()),4+a4b h (a2C h l) l):=by simp_all[a1D]
   simp only[a3H,j,cT,a2z,oB,p,m,k,cF,d,e,r,c,g,d1S hlt];have c:a1D n warm l (i+1)=a1D n warm l i:=by simp only[a1D,hs,if_false,hz,false_or,v,u,hlt]
   simp only[a3H,j,cT,a2z,oB,p,m,k,cF,d,e,r,c,g,c6O hlt])
  (by
   rfl)
 simp_all[a1D,b0S,b1I]
def a0Q(k:Int)(s:Sub):Sub:=
 (k,(0:Int),(if k=2 then s.2.2.1 else 0),(if k=3∨k=4 then s.2.2.2.1 else 0),(if k=4 then s.2.2.2.2.1 else 0),(if k=3∨k=4 then s.2.2.2.2.2.1 else[]),
  ((if k=4 then s.2.2.2.2.2.2.1 else a00 3 (0:Int)),(if k=5 then s.2.2.2.2.2.2.2.1 else[]),([]:List Int),((0:Int),([]:List Int),()),([]:List Int),()))
def z0:Prt:=((0:Int),([]:List Int),())
def a1J(s:Sub)(w:Nat)(wm:List Int)(p:Prt)(r:List Int):Sub:=
 (s.1,(w:Int),s.2.2.1,s.2.2.2.1,s.2.2.2.2.1,s.2.2.2.2.2.1,s.2.2.2.2.2.2.1,s.2.2.2.2.2.2.2.1,wm,p,r,())
theorem c7K(h:SmallS s)(k:Int):a6a (k,s)=some (a0Q k s):=by
 have f:short s.2.2.2.2.2.1:=by have:=h.coefs;unfold short;omega
 have g:short s.2.2.2.2.2.2.2.1:=by have:=h.stages;unfold short;omega
 grind[a6a,a0Q,b6w,b9t]
theorem c4o(h:SmallS s)(k:Int):SmallS (a0Q k s):=by
 have g:=h.coefs;have f:=h.taps;have a:=h.stages;refine⟨?_,?_,?_,by simp[a0Q],by simp[a0Q],by simp[a0Q]⟩<;>simp only[a0Q]<;>split<;>first|omega|simp
theorem c6Q:a2J (a0Q k s).1 (a0Q k s) n↔a2J k s n:=by
 unfold a2J a0Q
 grind
open Classical in
def a2V (l:List Int):Nat:=if h:∃w,a8P l w then h.choose else 0
theorem d0K{l:List Int}{w:Nat}(h:a8P l w):a2V l=w:=by
 unfold a2V;rw[dif_pos ⟨w,h⟩];exact(Classical.choose_spec (⟨w,h⟩:∃w,a8P l w)).unique h
def a1c(l:List Int):List Int:=l.map fun x=>z0h .i64 x (a2V l:Int)
theorem a9m(h:short l)(g:l.all a0A=true):a3G l=some ((a2V l:Nat):Int)∧a2V l≤30∧a8P l (a2V l):=by
 grind[b9T,d0K]
theorem a6N(a:l.length≤4096)(f:l.all a0A=true):b1m ((a2V l:Nat):Int) l=some (a1c l)∧(a1c l).all a0A=true∧(a1c l).length=l.length∧upO ((a2V l:Nat):Int) (a1c l)=some l:=by
 obtain⟨-,g,k⟩:=a9m (show short l by unfold short;omega) f;have h:=d0J g f k;exact⟨h,d0H g h⟩
def a4U(k:Int)(s:Sub)(d:List Int):Option (List Int×List Int):=
 if k=2 then(bif (a1M s.2.2.1.toNat d).all a0A then some (d.take s.2.2.1.toNat,a1M s.2.2.1.toNat d)else none)
 else if k=3 then(b6G d s.2.2.2.2.2.1 s.2.2.2.1).map fun r=>(d.take s.2.2.2.2.2.1.length,r)
 else if k=4 then(b5Y d s.2.2.2.2.1 s.2.2.2.2.2.2.1).bind fun x=>(b6G x s.2.2.2.2.2.1 s.2.2.2.1).map fun r=>(x.take s.2.2.2.2.2.1.length,r)
 else(b3C d s.2.2.2.2.2.2.2.1).map fun r=>([],r)
theorem c4p(j:k=2∨k=3∨k=4∨k=5)(i:a2J k s (d.length:Int))(n:d.all a0A=true)(h:a4U k s d=some (wm,r)):
  wm.length≤d.length∧r.length=d.length-wm.length∧r.all a0A=true∧wm.all a0A=true:=by
 have f:=i;simp only[a2J]at f;rcases j with rfl|rfl|rfl|rfl
 ·have:0≤s.2.2.1∧s.2.2.1≤(d.length:Int):=by omega
  simp[a4U]at h;cases hq:(a1M s.2.2.1.toNat d).all a0A with
  |false=>simp_all
  |true=>
   simp[hq]at h;obtain⟨rfl,rfl⟩:=h;simp_all[a5G,b6F]
 have:(s.2.2.2.2.2.1.length:Int)≤(d.length:Int):=by omega
 simp only[a4U,show ¬ (3:Int)=2 by simp,if_false,if_true,a30,pJ]at h;obtain⟨c,g,rfl,rfl⟩:=h;obtain⟨-,a,b⟩:=b6H g
 grind
 have:(s.2.2.2.2.2.1.length:Int)≤(d.length:Int):=by omega
 simp only[a4U,show ¬ (4:Int)=2 by simp,show ¬ (4:Int)=3 by simp,if_false,if_true,a49,a30,pJ]at h;obtain⟨x,e,c,g,rfl,rfl⟩:=h;obtain⟨-,l,m⟩:=b8w e;obtain⟨-,a,b⟩:=b6H g
 grind
 simp only[a4U,show ¬ (5:Int)=2 by simp,show ¬ (5:Int)=3 by simp,show ¬ (5:Int)=4 by simp,if_false,a30,pJ]at h;obtain⟨c,g,rfl,rfl⟩:=h;obtain⟨-,a,b⟩:=c1k g;simp_all
theorem c8H(v:k=2∨k=3∨k=4∨k=5)(h:SmallS s)(q:a2J k s (d.length:Int))(D:d.length≤4096)(y:d.all a0A=true)(w:Nat):
  b2e (a1J (a0Q k s) w [] z0 [],d)=some (match a4U k s d with|none=>(6,a1J (a0Q k s) w [] z0 [])|some (wm,r)=>(0,a1J (a0Q k s) w wm z0 r)):=by
 have l:=h.taps;have g:=h.stages;have i:short d:=by unfold short;omega
 obtain⟨k',w',o,sh,lag,c,t,st,z,p,E,u⟩:=s;simp only[a2J]at q l g;unfold b2e;rcases v with rfl|rfl|rfl|rfl;obtain⟨n,C,e⟩:0≤o∧o≤4∧o≤(d.length:Int):=by omega
 obtain⟨O,rfl⟩:=a01 n;have g:short (d.take O):=by unfold short;grind
 have j:decide ((O:Int)≤((d.length:Nat):Int))=true:=by simp_all
 simp only[a1J,a0Q,a4U,if_true,show((2:Int)==2)=true from rfl,cT,b7r (show O≤4 by omega) (show O≤d.length by omega) i y,oB,tN]
 grind[b4N,a0T,a8l]
 ·obtain⟨f,e⟩:a4J c sh=true∧(c.length:Int)≤(d.length:Int):=by simp_all
  have g:short (d.take c.length):=by unfold short;grind
  have m:decide ((0:Int)≤((c.length:Nat):Int))=true:=by simp
  have j:decide (((c.length:Nat):Int)≤((d.length:Nat):Int))=true:=by simp_all
  simp only[a1J,a0Q,a4U,show((3:Int)==2)=false from rfl,show((3:Int)==3)=true from rfl,show ¬ (3:Int)=2 by simp,show ¬ (3:Int)=4 by simp,show ¬ (3:Int)=5 by simp,true_or,if_true,if_false,cT,cF,b5X f (show c.length≤d.length by omega) (show d.length<100000 by omega),oB];cases b6G d c sh with
  |none=>rfl
  |some r=>simp_all[a2t,b4N,a0T,a8l]
 ·obtain⟨f,e,a⟩:a4J c sh=true∧(c.length:Int)≤(d.length:Int)∧a7R lag t=true:=by simp_all
  simp[a1J,a0Q,a4U,c4i a l (show d.length<100000 by omega)];cases hx:b5Y d lag t with
  |none=>rfl
  |some x=>
   obtain⟨-,A,B⟩:=b8w hx;have g:short (x.take c.length):=by unfold short;grind
   have m:decide ((0:Int)≤((c.length:Nat):Int))=true:=by simp
   have j:decide (((c.length:Nat):Int)≤((x.length:Nat):Int))=true:=by simp_all
   simp[a2t,b5X f (show c.length≤x.length by omega) (show x.length<100000 by omega)]
   grind[b4N,a0T,a8l]
 ·obtain⟨e,b⟩:0<st.length∧a5y st=true:=by simp_all
  have g:short (d.take 0):=by simp[short]
  simp only[a1J,a0Q,a4U,show((5:Int)==2)=false from rfl,show((5:Int)==3)=false from rfl,show((5:Int)==4)=false from rfl,show((5:Int)==5)=true from rfl,show ¬ (5:Int)=2 by simp,show ¬ (5:Int)=3 by simp,show ¬ (5:Int)=4 by simp,or_self,if_true,if_false,cT,cF,c3p b (show d.length<100000 by omega),oB];cases b3C d st with
  |none=>rfl
  |some r=>
   rfl
open Classical in

def a1q (k:Int) (l:List Int) (s:Sub):Sub×Int:=
 if ¬ (1≤l.length∧l.length≤4096∧a2J k s (l.length:Int))then(a1O 0,1)
 else if l.all a0A=false then(a1O 0,6)
 else if k=0 then(bif l.all (fun x=>x==l.headD 0)then(a1J (a0Q 0 s) 0 [l.headD 0] z0 [],0)else(a1O 0,7))
 else if k=1 then(a1J (a0Q 1 s) (a2V l) (a1c l) z0 [],0)
 else match a4U k s (a1c l)with
  |none=>(a1O 0,6)
  |some (wm,r)=>(a1J (a0Q k s) (a2V l) wm (b8L (l.length:Int) (wm.length:Int) r) r,0)
theorem c6R(h:1≤l.length):l0z l 0=some (l.headD 0):=by
 cases l with
 |nil=>simp at h
 |cons a l=>rfl
theorem c4q(k:1≤l.length)(c:short l)(a b:Sub):
  x0r a4Z (l,l,(l.length:Int),(0:Int),a,b,())=some (bif l.all (fun x=>x==l.headD 0)then .inl (l,a,b,())else .inr ((7:Int),a1O 0,())):=by
 have:=a0Y (f:=a4Z) l (fun i=>(l,l,(l.length:Int),(i:Int),a,b,())) (fun x=>x==l.headD 0) (bt:=Sum.inl (l,a,b,())) (bf:=Sum.inr ((7:Int),a1O 0,()))
  (fun i h hp=>by
   have g:(l[i] != l.headD 0)=false:=by simpa using hp
   simp only[a4Z,dlt h,cT,a0B h,oB,c6R k,g,cF,a0C (a22 h c)])
  (fun i h hp=>by
   have g:(l[i] != l.headD 0)=true:=by simpa using hp
   simp only[a4Z,dlt h,cT,a0B h,oB,c6R k,g];rfl)
  (by simp[a4Z])
 simpa using this
theorem b9z(h:a2J k s n)(g:k≠0)(f:k≠1):k=2∨k=3∨k=4∨k=5:=by
 rcases h with h|h|⟨h,-⟩|⟨h,-⟩|⟨h,-⟩|⟨h,-⟩;exact absurd h g;exact absurd h f;exact .inl h;exact .inr (.inl h);exact .inr (.inr (.inl h));exact .inr (.inr (.inr h))
theorem d0L(h:SmallS s)(k:Int)(D:l.length≤100000):b3r (k,l,s)=some (a1q k l s):=by
 have j:short l:=by unfold short;omega
 unfold b3r a1q
 by_cases h1:1≤l.length
 rotate_left;have e:decide (((l.length:Nat):Int)<1)=true:=decide_eq_true (by omega);rw[if_pos (fun g=>h1 g.1)];simp only[e,cT,oB];rfl;have a:decide (((l.length:Nat):Int)<1)=false:=decide_eq_false (by omega)
 by_cases h2:l.length≤4096
 rotate_left;have e:decide (((l.length:Nat):Int) > 4096)=true:=decide_eq_true (by omega);rw[if_pos (fun g=>h2 g.2.1)];simp only[a,e,cT,cF,oB];rfl;have p:decide (((l.length:Nat):Int) > 4096)=false:=decide_eq_false (by omega)
 by_cases h3:a2J k s (l.length:Int)
 rotate_left;have b:b5p k s (l.length:Int)=false:=by simp[b5p,h3]
 rw[if_pos (fun g=>h3 g.2.2)];simp only[a,p,b8n h,b,cF,a17,cT,oB];rfl;have b:b5p k s (l.length:Int)=true:=by simp[b5p,h3]
 rw[if_neg (fun g=>g ⟨h1,h2,h3⟩)];simp only[a,p,b8n h,b,cF,bT,oB,a4u j];cases hw:l.all a0A with
 |false=>rfl
 |true=>
  simp only[bT,cF,c7K h,oB];rw[if_neg (by decide)]
  by_cases h0:k=0
  ·subst h0;have y:=c4q h1 j (a1O 0) (a0Q 0 s);have w:a1O 0=((0:Int),(0:Int),(0:Int),(0:Int),(0:Int),([]:(List Int)),a00 3 (0:Int),([]:(List (Int×Int×Unit))),([]:(List Int)),((0:Int),([]:(List Int)),()),([]:(List Int)),()):=rfl;rw[←w,if_pos rfl];simp only[show((0:Int)==0)=true from rfl,cT,y,oB];cases l.all (fun x=>x==l.headD 0)with
   |false=>rfl
   |true=>simp only[cT,c6R h1,oB];rfl
  ·obtain⟨A,B,-⟩:=a9m j hw;obtain⟨u,n,o,-⟩:=a6N h2 hw;have c:(k==0)=false:=by simp[h0]
   rw[if_neg h0];simp only[c,cF,A,oB,b5W B (show l.length<100000 by omega),u,a2t,show((0:Int) != 0)=false from rfl]
   by_cases hk1:k=1
   subst hk1;rfl
   ·have i:(k==1)=false:=by simp[hk1]
    have t:=b9z h3 h0 hk1;rw[if_neg hk1];have m:=c8H t h (d:=a1c l) (by rw[o];exact h3) (by omega) n (a2V l);have v:((a0Q k s).1,((a2V l:Nat):Int),(a0Q k s).2.2)=a1J (a0Q k s) (a2V l) [] z0 []:=rfl;simp only[i,cF,v,m,oB];cases hr:a4U k s (a1c l)with
    |none=>rfl
    |some q=>
     obtain⟨C,r⟩:=q;obtain⟨E,r2,z,-⟩:=c4p t (by rw[o];exact h3) n hr;have f:a3U (l.length:Int) (C.length:Int)=true:=by simp only[a3U,bA,dT];omega
     have hb:=c3q f (l:=r) (by omega) z (by omega);simp only[show((0:Int) != 0)=false from rfl,cF,a1J,hb,oB]
theorem c7L(h:a3e p n warm=true):p.2.1.length≤256:=by
 simp only[a3e,bA,a41,beq_eq_false_iff_ne,ne_eq,beq_iff_eq]at h;obtain⟨k,g,-,f⟩:=b5s h.1;rw[←h.2.1,g,a1h];exact f
theorem b6L(h:SmallS s)(g:wm.length≤5000)(f:r.length≤5000)(k:p.2.1.length≤300):SmallS (a1J s w wm p r):=
 ⟨h.coefs,h.taps,h.stages,g,f,k⟩
theorem c6S(g:(a1q k l s).2=0):
  1≤l.length∧l.length≤4096∧a2J k s (l.length:Int)∧l.all a0A=true∧
   ((k=0∧l.all (fun x=>x==l.headD 0)=true∧(a1q k l s).1=a1J (a0Q 0 s) 0 [l.headD 0] z0 [])∨
    (k=1∧(a1q k l s).1=a1J (a0Q 1 s) (a2V l) (a1c l) z0 [])∨
     ((k=2∨k=3∨k=4∨k=5)∧∃c r,a4U k s (a1c l)=some (c,r)∧(a1q k l s).1=a1J (a0Q k s) (a2V l) c (b8L (l.length:Int) (c.length:Int) r) r)):=by
 unfold a1q at g⊢
 split at g
 cases g;rename_i f;have f:1≤l.length∧l.length≤4096∧a2J k s (l.length:Int):=Classical.byContradiction f;refine⟨f.1,f.2.1,f.2.2,?_⟩;rw[if_neg (fun h=>h f)]
 split at g
 cases g;rename_i e;have d:l.all a0A=true:=by simpa using e
 refine⟨d,?_⟩;rw[if_neg e]
 split at g
 ·rename_i a;rw[if_pos a];cases hq:l.all (fun x=>x==l.headD 0)with
  |false=>rw[hq]at g;cases g
  |true=>exact .inl ⟨a,rfl,rfl⟩
 rename_i a;rw[if_neg a]
 split at g
 rename_i b;rw[if_pos b];exact .inr (.inl ⟨b,rfl⟩);rename_i b;rw[if_neg b];refine .inr (.inr ⟨b9z f.2.2 a b,?_⟩);cases hr:a4U k s (a1c l)with
 |none=>rw[hr]at g;cases g
 |some q=>
  obtain⟨c,r⟩:=q;exact⟨c,r,rfl,rfl⟩
theorem b4m:b2E (a1J (a0Q k s) w wm p r):=by
 unfold b2E a1J a0Q;refine⟨fun h=>if_neg h,fun h=>if_neg (not_or.2 h),fun h=>if_neg h,fun h=>if_neg h,fun h=>if_neg (not_or.2 h),fun h=>if_neg h⟩
theorem b9U(h:a2J k s n):a2J (a1J (a0Q k s) w wm p r).1 (a1J (a0Q k s) w wm p r) n:=c6Q.2 h
theorem c8I(h:l.all (fun x=>x==l.headD 0)=true):a00 l.length (l.headD 0)=l:=by
 refine(List.eq_replicate_iff.2 ⟨rfl,fun x g=>?_⟩).symm
 have:=lA.1 h x g
 simpa using this
theorem c2g(L:SmallS s)(I:(a1q k l s).2=0):
  SmallS (a1q k l s).1∧(a1q k l s).1.1=k∧a1i (a1q k l s).1 (l.length:Int)∧a1o (a1q k l s).1 (l.length:Int)=some l:=by
 obtain⟨T,K,b,z,M⟩:=c6S I;have P:short l:=by unfold short;omega
 obtain⟨-,Y,-⟩:=a9m P z;obtain⟨R,w,B,C⟩:=a6N K z;have n:∀m:Sub,a1i m (l.length:Int)→b9P m (l.length:Int)=some l→a1o m (l.length:Int)=some l:=fun m c d=>by unfold a1o;rw[if_pos c,d]
 have i:=c4o L k;rcases M with⟨rfl,t,e⟩|⟨rfl,e⟩|⟨y,q,r,f,e⟩
 ·rw[e];have g:a1i (a1J (a0Q 0 s) 0 [l.headD 0] z0 []) (l.length:Int):=by
   have N:a0A (l.headD 0)=true:=by
    cases l with
    |nil=>rfl
    |cons a l=>exact lA.1 z _ a64
   exact⟨by omega,by omega,b9U b,b4m,Int.le_refl _,(by decide:(0:Int)≤30),fun _=>rfl,rfl,by simp only[a1J,a09,N,List.all_nil];rfl,rfl,fun _=>⟨rfl,rfl,rfl⟩,fun h=>absurd rfl h.1⟩
  refine⟨b6L i (by simp) (by simp) (by simp[z0]),rfl,g,n _ g ?_⟩;show some (a00 (l.length:Int).toNat (l.headD 0))=some l;rw[tN,c8I t]
 rw[e];have g:a1i (a1J (a0Q 1 s) (a2V l) (a1c l) z0 []) (l.length:Int):=
  ⟨by omega,by omega,b9U b,b4m,a65 _,(by show((a2V l:Nat):Int)≤30;omega),fun h=>absurd h (by decide:¬ (1:Int)=0),by show(((a1c l).length:Nat):Int)=(l.length:Int);rw[B],w,rfl,fun _=>⟨rfl,rfl,rfl⟩,fun h=>absurd rfl h.2⟩
 refine⟨b6L i (by omega) (by simp) (by simp[z0]),rfl,g,n _ g ?_⟩;show upO ((a2V l:Nat):Int) (a1c l)=some l;exact C
 ·rw[e];obtain⟨X,r2,E,Q⟩:=c4p y (by rw[B];exact b) w f;have u:a3U (l.length:Int) (q.length:Int)=true:=by simp only[a3U,bA,dT];omega
  have hp:=c8G u (l:=r) (by omega) E (by omega);generalize b8L (l.length:Int) (q.length:Int) r=p at hp;have O:=c7L hp

  have v:a0T (a1J (a0Q k s) (a2V l) q p r) (l.length:Int)=(q.length:Int)∧backP (a1J (a0Q k s) (a2V l) q p r)=some (a1c l):=by
   simp only[a2J]at b;rcases y with rfl|rfl|rfl|rfl
   ·obtain⟨U,V,D⟩:0≤s.2.2.1∧s.2.2.1≤4∧s.2.2.1≤(l.length:Int):=by simp at b;omega
    simp only[a4U,if_true]at f;cases hq:(a1M s.2.2.1.toNat (a1c l)).all a0A with
    |false=>simp[hq]at f
    |true=>
     simp only[hq,cT,sj,pJ]at f;obtain⟨rfl,rfl⟩:=f;refine⟨?_,?_⟩;show s.2.2.1=_;rw[a07];omega;show b8o ((a1c l).take s.2.2.1.toNat) (a1M s.2.2.1.toNat (a1c l)) s.2.2.1=some (a1c l);have hb:=c4a w (o:=s.2.2.1.toNat) (by omega) ((a1c l).length-s.2.2.1.toNat) 0 (by omega);rw[a08,a57]at hb;unfold b8o;rw[b6F w,hq];exact hb
   have D:(s.2.2.2.2.2.1.length:Int)≤(l.length:Int):=by simp at b;omega
   simp only[a4U,show ¬ (3:Int)=2 by decide,if_false,if_true,a30,pJ]at f;obtain⟨A,c,rfl,rfl⟩:=f;obtain⟨d,-,-⟩:=b6H c;refine⟨?_,?_⟩;show((s.2.2.2.2.2.1.length:Nat):Int)=_;rw[a07];omega;exact d;have D:(s.2.2.2.2.2.1.length:Int)≤(l.length:Int):=by simp at b;omega
   simp only[a4U,show ¬ (4:Int)=2 by decide,show ¬ (4:Int)=3 by decide,if_false,if_true,a49,a30,pJ]at f;obtain⟨x,H,A,c,rfl,rfl⟩:=f;obtain⟨G,-,S⟩:=b8w H;obtain⟨d,-,-⟩:=b6H c;refine⟨?_,?_⟩;show((s.2.2.2.2.2.1.length:Nat):Int)=_;rw[a07];omega;show(b1e (x.take s.2.2.2.2.2.1.length) A s.2.2.2.2.2.1 s.2.2.2.1).bind (fun l=>b2p l s.2.2.2.2.1 s.2.2.2.2.2.2.1)=_;rw[d];exact G;simp only[a4U,show ¬ (5:Int)=2 by decide,show ¬ (5:Int)=3 by decide,show ¬ (5:Int)=4 by decide,if_false,a30,pJ]at f;obtain⟨A,c,rfl,rfl⟩:=f;obtain⟨d,-,-⟩:=c1k c;exact⟨rfl,d⟩
  have j:¬ (k=0∨k=1):=by rcases y with rfl|rfl|rfl|rfl<;>decide
  have g:a1i (a1J (a0Q k s) (a2V l) q p r) (l.length:Int):=by
   unfold a1i;rw[v.1];exact⟨by omega,by omega,b9U b,b4m,a65 _,(by show((a2V l:Nat):Int)≤30;omega),fun h=>absurd (.inl h) j,rfl,Q,E,fun h=>absurd h j,fun _=>⟨(by show((r.length:Nat):Int)=_;omega),hp⟩⟩
  refine⟨b6L i (by omega) (by omega) (by omega),rfl,g,n _ g ?_⟩;have F:¬ (a1J (a0Q k s) (a2V l) q p r).1=0:=fun h=>j (.inl h);unfold b9P;rw[if_neg F,v.2];exact C
theorem c6T:SmallS (a1O 0):=c5d 0
def cS(k o sh:Int)(c:List Int)(st:List Stg):Sub:=
 (k,(0:Int),o,sh,(0:Int),c,a00 3 (0:Int),st,([]:List Int),((0:Int),([]:List Int),()),([]:List Int),())
theorem b1J{k o sh:Int}{c:List Int}{st:List Stg}(h:c.length≤40)(g:st.length≤6):SmallS (cS k o sh c st):=
 ⟨h,rfl,g,by simp[cS],by simp[cS],by simp[cS]⟩
def b3B(d:List Int)(o w:Int):List Int×(Int×Int):=(a3T (d,o,w)).getD ([],0,1)
def b1K(d:List Int)(o w:Int):List Sub:=bif (b3B d o w).2.2==0 then[cS 3 0 (b3B d o w).2.1 (b3B d o w).1 []]else[]
def c6U(d:List Int):Int:=(a6d d).getD 0
def b6M(d:List Int):Sub×Bool:=(a3u d).getD (a1O 0,false)
def b9V(d:List Int):List Sub:=bif (b6M d).2 then[(b6M d).1]else[]
def b1L(i:Nat):List Sub:=(List.range i).map fun(j:Nat)=>cS 2 (j:Int) 0 [] []
def a2g(d:List Int):List Sub:=[cS 0 0 0 [] [],cS 1 0 0 [] [],cS 2 (c6U d) 0 [] []]
def a3M(d:List Int)(k:Int):List Sub:=if 1≤k then b1K d 4 12++b1K d 8 12 else[]
def b2w(d:List Int)(k:Int):List Sub:=if 2≤k then[cS 5 0 0 [] [((16:Int),(4:Int),())],cS 5 0 0 [] [((32:Int),(3:Int),()),((16:Int),(5:Int),())]]++b9V d else[]
def c3A(d:List Int)(k:Int):List Sub:=if 3≤k then b1L 5++(b1K d 1 12++(b1K d 2 12++(b1K d 12 14++b1K d 16 14)))else[]
def a4h(d:List Int)(k:Int):List Sub:=a2g d++(a3M d k++(b2w d k++c3A d k))
def c1o(d:List Int):Prop:=a3u d=some (b6M d)∧((b6M d).2=true→SmallS (b6M d).1)
theorem c4s(a:d.all a0A=true)(k:d.length≤4096)(h:1≤o)(g:o≤32)(f:2≤w∧w≤16):
  a3T (d,(o:Int),(w:Int))=some (b3B d o w)∧((b3B d o w).2.2=0→(b3B d o w).1.length=o):=by
 obtain⟨c,sh,e,b,i⟩:=c7H a k h g f;unfold b3B;simp_all
theorem b1M(d:List Int)(o w:Int):(b1K d o w).length≤1:=by
 grind[b1K]
theorem b1N(c:d.all a0A=true)(b:d.length≤4096)(f:1≤o)(k:o≤32)(a:2≤w∧w≤16){L:List Sub}(e:L.length<1000):
  a0N ((o:Int),(w:Int),d,L)=some (d,L++b1K d o w):=by
 obtain⟨g,-⟩:=c4s c b f k a;have h:lim (L.length+1)=true:=a0L (by omega);unfold a0N b1K;simp only[g,oB];cases (b3B d o w).2.2==0 with
 |true=>simp only[cT,h];rfl
 |false=>simp
theorem c6V{L:List Sub}(k:L.length<1000):x0r a2k ((0:Int),L,d,())=some (L++b1L 5,d,()):=by
 have:=a1x (f:=a2k) (fun i:Nat=>((i:Int),L++b1L i,d,())) 5 (b:=(L++b1L 5,d,()))
  (fun i a=>by
   have g:decide ((i:Int)<5)=true:=decide_eq_true (by omega);have h:lim ((L++b1L i).length+1)=true:=a0L (by simp[b1L];omega);have e:(L++b1L i)++[cS 2 (i:Int) 0 [] []]=L++b1L (i+1):=by simp[b1L,List.range_succ]
   rw[←e];simp only[a2k,g,cT,h,a0C (show i<1000000 by omega)];rfl)
  (by
   rfl)
 simp at this;rw[show b1L 0=[]from rfl,a39]at this;omega
theorem d0M(a:d.all a0A=true)(c:d.length≤4096)(l:c1o d)(k:Int):a6y (d,k)=some (a4h d k):=by
 obtain⟨o,E,F⟩:=c1i (show d.length<100000 by omega) a;have hb:c6U d=(o:Int):=by simp_all[c6U]
 have D:(b9V d).length≤1:=by grind[b9V]
 have P:=b1M d 4 12;have Q:=b1M d 8 12;have N:=b1M d 1 12;have O:=b1M d 2 12;have G:=b1M d 12 14;have y:=fun L (hL:L.length<1000)=>b1N (L:=L) a c (o:=4) (w:=12) (by omega) (by omega) (by omega) hL;have z:=fun L (hL:L.length<1000)=>b1N (L:=L) a c (o:=8) (w:=12) (by omega) (by omega) (by omega) hL;have v:=fun L (hL:L.length<1000)=>b1N (L:=L) a c (o:=1) (w:=12) (by omega) (by omega) (by omega) hL;have x:=fun L (hL:L.length<1000)=>b1N (L:=L) a c (o:=2) (w:=12) (by omega) (by omega) (by omega) hL;have i:=fun L (hL:L.length<1000)=>b1N (L:=L) a c (o:=12) (w:=14) (by omega) (by omega) (by omega) hL;have j:=fun L (hL:L.length<1000)=>b1N (L:=L) a c (o:=16) (w:=14) (by omega) (by omega) (by omega) hL;simp at y z v x i j;have R:(a2g d).length=3:=rfl;have S:(a3M d k).length≤2:=by unfold a3M;split<;>simp<;>omega
 have T:(b2w d k).length≤3:=by unfold b2w;split<;>simp<;>omega
 have U:(b1L 5).length=5:=rfl;have M:(bif decide (k≥1)then((a0N ((4:Int),(12:Int),d,a2g d)).bind fun n=>(a0N ((8:Int),(12:Int),n.1,n.2)).bind fun p=>some (k,p.1,p.2,()))else some (k,d,a2g d,()))=some (k,d,a2g d++a3M d k,()):=by
  unfold a3M
  by_cases h:1≤k
  have e:decide (k≥1)=true:=decide_eq_true h;simp only[e,cT,y (a2g d) (by omega),oB,z (a2g d++b1K d 4 12) (by grind),if_pos h,aA]
  grind
 have C:a6y (d,k)=(a6d d).bind fun A=>
   (show Option (Int×((List Int)×((List Sub)×Unit)))from bif decide (k≥1)then((a0N ((4:Int),(12:Int),d,[cS 0 0 0 [] [],cS 1 0 0 [] [],cS 2 A 0 [] []])).bind fun n=>(a0N ((8:Int),(12:Int),n.1,n.2)).bind fun p=>some (k,p.1,p.2,()))else some (k,d,[cS 0 0 0 [] [],cS 1 0 0 [] [],cS 2 A 0 [] []],())).bind fun g=>
   (show Option (Int×((List Sub)×((List Int)×Unit)))from bif decide (g.1≥2)then(bif lim (g.2.2.1.length+1)then(bif lim ((g.2.2.1++[cS 5 0 0 [] [((16:Int),(4:Int),())]]).length+1)then((a3u g.2.1).bind fun q=>
    bif q.2 then(bif lim ((g.2.2.1++[cS 5 0 0 [] [((16:Int),(4:Int),())]]++[cS 5 0 0 [] [((32:Int),(3:Int),()),((16:Int),(5:Int),())]]).length+1)then some (g.1,g.2.2.1++[cS 5 0 0 [] [((16:Int),(4:Int),())]]++[cS 5 0 0 [] [((32:Int),(3:Int),()),((16:Int),(5:Int),())]]++[q.1],g.2.1,())else none)
    else some (g.1,g.2.2.1++[cS 5 0 0 [] [((16:Int),(4:Int),())]]++[cS 5 0 0 [] [((32:Int),(3:Int),()),((16:Int),(5:Int),())]],g.2.1,()))else none)else none)else some (g.1,g.2.2.1,g.2.1,())).bind fun t=>
   (show Option ((List Sub)×Unit)from bif decide (t.1≥3)then((x0r a2k ((0:Int),t.2.1,t.2.2.1,())).bind fun m=>(a0N ((1:Int),(12:Int),m.2.1,m.1)).bind fun r=>(a0N ((2:Int),(12:Int),r.1,r.2)).bind fun s=>
    (a0N ((12:Int),(14:Int),s.1,s.2)).bind fun f=>(a0N ((16:Int),(14:Int),f.1,f.2)).bind fun b=>some (b.2,()))else some (t.2.1,())).bind fun u=>some u.1:=rfl
 have B:[cS 0 0 0 [] [],cS 1 0 0 [] [],cS 2 (o:Int) 0 [] []]=a2g d:=by unfold a2g;grind
 have V:(bif decide (k≥2)then(bif lim ((a2g d++a3M d k).length+1)then(bif lim ((a2g d++a3M d k++[cS 5 0 0 [] [((16:Int),(4:Int),())]]).length+1)then((a3u d).bind fun q=>
    bif q.2 then(bif lim ((a2g d++a3M d k++[cS 5 0 0 [] [((16:Int),(4:Int),())]]++[cS 5 0 0 [] [((32:Int),(3:Int),()),((16:Int),(5:Int),())]]).length+1)then some (k,a2g d++a3M d k++[cS 5 0 0 [] [((16:Int),(4:Int),())]]++[cS 5 0 0 [] [((32:Int),(3:Int),()),((16:Int),(5:Int),())]]++[q.1],d,())else none)
    else some (k,a2g d++a3M d k++[cS 5 0 0 [] [((16:Int),(4:Int),())]]++[cS 5 0 0 [] [((32:Int),(3:Int),()),((16:Int),(5:Int),())]],d,()))else none)else none)else some (k,a2g d++a3M d k,d,()):Option (Int×((List Sub)×((List Int)×Unit))))=some (k,a2g d++(a3M d k++b2w d k),d,()):=by
  unfold b2w
  by_cases h:2≤k
  have e:decide (k≥2)=true:=decide_eq_true h;have H:lim ((a2g d++a3M d k).length+1)=true:=a0L (by grind);have I:lim ((a2g d++a3M d k++[cS 5 0 0 [] [((16:Int),(4:Int),())]]).length+1)=true:=a0L (by simp;omega);have K:lim ((a2g d++a3M d k++[cS 5 0 0 [] [((16:Int),(4:Int),())]]++[cS 5 0 0 [] [((32:Int),(3:Int),()),((16:Int),(5:Int),())]]).length+1)=true:=a0L (by simp;omega);simp only[e,H,I,K,cT,l.1,oB,if_pos h,b9V];cases (b6M d).2<;>simp
  grind
 have X:(bif decide (k≥3)then((x0r a2k ((0:Int),a2g d++(a3M d k++b2w d k),d,())).bind fun m=>(a0N ((1:Int),(12:Int),m.2.1,m.1)).bind fun r=>(a0N ((2:Int),(12:Int),r.1,r.2)).bind fun s=>
    (a0N ((12:Int),(14:Int),s.1,s.2)).bind fun f=>(a0N ((16:Int),(14:Int),f.1,f.2)).bind fun b=>some (b.2,()))else some (a2g d++(a3M d k++b2w d k),()):Option ((List Sub)×Unit))=some (a4h d k,()):=by
  unfold a4h c3A
  by_cases h:3≤k
  have e:decide (k≥3)=true:=decide_eq_true h;simp only[e,cT,c6V (L:=a2g d++(a3M d k++b2w d k)) (by simp;omega),oB,if_pos h];rw[v _ (by simp;omega)];simp only[oB];rw[x _ (by simp;omega)];simp only[oB];rw[i _ (by simp;omega)];simp only[oB];rw[j _ (by simp;omega)]
  simp
  grind
 rw[C,E,oB,B];simp only[];rw[M];simp only[oB];simp_all
theorem c1p(l:d.all a0A=true)(i:d.length≤4096)(f:c1o d)(k:Int):∀c∈a4h d k,SmallS c:=by
 have g:∀(o w:Nat),1≤o→o≤32→2≤w∧w≤16→∀c∈b1K d o w,SmallS c:=fun o w a b e c h=>by
  obtain⟨-,m⟩:=c4s l i a b e;unfold b1K at h;cases he:(b3B d o w).2.2==0 with
  |false=>simp_all
  |true=>
   rw[he]at h;simp at h
   grind[b1J]
 intro c h;simp[a4h]at h;rcases h with h|h|h|h;simp[a2g]at h;rcases h with rfl|rfl|rfl<;>exact b1J (by simp) (by simp);unfold a3M at h
 split at h
 simp at h;rcases h with h|h;exact g 4 12 (by omega) (by omega) (by omega) c h;exact g 8 12 (by omega) (by omega) (by omega) c h;simp_all
 ·unfold b2w at h
  split at h
  ·simp only[mA,mC,List.not_mem_nil,or_false]at h;rcases h with(rfl|rfl)|h;simp_all[b1J];simp_all[b1J]
   ·unfold b9V at h;cases hg:(b6M d).2 with
    |false=>simp_all
    |true=>
     rw[hg]at h;simp at h;subst h;exact f.2 hg
  simp_all
 unfold c3A at h
 split at h
 simp only[mA,b1L,List.mem_map]at h;rcases h with⟨j,-,rfl⟩|h|h|h|h;simp_all[b1J];exact g 1 12 (by omega) (by omega) (by omega) c h;exact g 2 12 (by omega) (by omega) (by omega) c h;exact g 12 14 (by omega) (by omega) (by omega) c h;exact g 16 14 (by omega) (by omega) (by omega) c h;simp_all
theorem c8J(g:d.length≤256):a3u d=some (a1O 0,false):=by
 have h:b2g (d,(16:Int),(256:Int))=some (0,7):=by
  unfold b2g
  grind
 unfold a3u;simp only[h,oB,show((7:Int) != 0)=true from rfl,cT];rfl
theorem d1T(g:d.length≤256):c1o d:=by
 have h:=c8J g
 have:b6M d=(a1O 0,false):=by unfold b6M;simp_all
 exact⟨by simp_all,fun f=>by simp_all⟩
def b6b(l:List Int)(a:Int×(Bool×Sub))(c:Sub):Int×(Bool×Sub):=
 bif (a1q c.1 l c).2 != 0 then a else bif !a.2.1 || decide (a4S (a1q c.1 l c).1 (l.length:Int)<a.1)then(a4S (a1q c.1 l c).1 (l.length:Int),true,(a1q c.1 l c).1)else a
def b6N(l:List Int)(cs:List Sub):Int×(Bool×Sub):=cs.foldl (b6b l) (0,false,a1O 0)
theorem b1O{α A β:Type}(g:A→α→A)(h:A→β):∀(l:List α)(a:A),a6E h (a2o (fun a x=>.inl (g a x)) l a)=h (l.foldl g a)
 | [],_=>rfl
 |x::l,a=>b1O g h l (g a x)
theorem c5l(h:SmallS s):SmallS (a1q k l s).1:=by
 by_cases h0:(a1q k l s).2=0
 exact(c2g h h0).1
 have:(a1q k l s).1=a1O 0:=by
  unfold a1q at h0⊢
  grind
 simp_all[c6T]
theorem c7M{cs:List Sub}(j:∀c∈cs,SmallS c)(p:l.length≤4096)(o:cs.length<1000):
  x0r a7a (l,(0:Int),false,cs,((cs.length:Nat):Int),(0:Int),a1O 0,a1O 0,())=some (a1O 0,(b6N l cs).2.2,()):=by
 have:=a0X (f:=a7a) cs (fun i a=>(l,a.1,a.2.1,cs,((cs.length:Nat):Int),(i:Int),a1O 0,a.2.2,())) (fun a x=>.inl (b6b l a x)) (fun _ _=>True) (fun a=>(a1O 0,a.2.2,()))
  (fun i g a _=>by
   refine⟨fun n h=>?_,fun b hb=>by grind⟩;simp at h;subst h;refine⟨?_,trivial⟩;have d:=j _ (a04 g);have e:=c5y (c5l (k:=cs[i].1) (l:=l) d) (l.length:Int);unfold b6b;simp only[a7a,dlt g,cT,a0B g,oB,d0L d cs[i].1 (show l.length≤100000 by omega),e,a0C (show i<1000000 by omega)];cases (a1q cs[i].1 l cs[i]).2 != 0 with
   |true=>rfl
   |false=>
    have m:=a0C (show i<1000000 by omega)
    grind)
  (fun a _=>by simp_all[a7a]) (a:=((0:Int),false,a1O 0)) trivial
 simp at this;rw[this,b1O];rfl
theorem d0N(v:1≤l.length)(c:l.length≤4096)(a:l.all a0A=true)(h:c1o (a1c l))(u:0≤k)(x:k≤3):
  a5o (l,k)=some ((b6N l (a4h (a1c l) k)).2.2,0):=by
 have d:short l:=by unfold short;omega
 obtain⟨r,s,-⟩:=a9m d a;obtain⟨e,b,t,-⟩:=a6N c a;have i:decide (((l.length:Nat):Int)<1)=false:=decide_eq_false (by omega);have j:decide (((l.length:Nat):Int) > 4096)=false:=decide_eq_false (by omega);have m:decide (k<0)=false:=decide_eq_false (by omega);have n:decide (k > 3)=false:=decide_eq_false (by omega);have f:(a4h (a1c l) k).length<1000:=by
  have g:=fun o w=>b1M (a1c l) o w;have y:=g 4 12;have z:=g 8 12;have A:=g 1 12;have B:=g 2 12;have C:=g 12 14;have D:=g 16 14;have p:(b9V (a1c l)).length≤1:=by grind[b9V]
  simp only[a4h,a2g,a3M,b2w,c3A,lN]
  grind[b1L]
 have hb:=c7M (l:=l) (c1p b (by omega) h k) c f;have q:a1O 0=((0:Int),(0:Int),(0:Int),(0:Int),(0:Int),([]:(List Int)),a00 3 (0:Int),([]:(List (Int×Int×Unit))),([]:(List Int)),((0:Int),([]:(List Int)),()),([]:(List Int)),()):=rfl;unfold a5o;simp only[←q,i,j,m,n,cF,oB,a4u d,a,bT,r,b5W s (show l.length<100000 by omega),e,a2t,show((0:Int) != 0)=false from rfl,d0M b (show(a1c l).length≤4096 by omega) h,hb]
theorem a3V(v:Int)(n:Nat)(L:List Int):(a0G v n L).length=L.length+(a0G v n []).length:=by
 unfold a0G;cases (z0h .u64 v (n:Int) != 0)<;>simp
theorem a9V(n:Nat):∀(l L:List Int),(a1f n l L).length=L.length+(a1f n l []).length
 | [],L=>by simp[a1f]
 |x::l,L=>by
  show(a1f n l (a0G (a1I x n) n L)).length=L.length+(a1f n l (a0G (a1I x n) n [])).length;rw[a9V n l,a9V n l (a0G (a1I x n) n []),a3V];omega
theorem b2x:∀(st:List Stg)(L:List Int),(a1W st L).length=L.length+(a1W st []).length
 | [],L=>by simp[a1W]
 |s::st,L=>by
  show(a1W st (a4K s L)).length=L.length+(a1W st (a4K s [])).length;rw[b2x st,b2x st (a4K s [])];unfold a4K;rw[a3V,a3V _ 5 L,a3V _ 4 (a0G _ 5 [])];omega
theorem b6O(s:Sub)(L:List Int):(a3C s L).length=L.length+(a3C s []).length:=by
 unfold a3C;rw[a9V,a3V,a3V _ 4,a3V _ 5 L]
 conv=>rhs;rw[a9V,a3V,a3V _ 4]
 omega
theorem c2M(s:Sub)(L:List Int):(a1g s L).length=L.length+(a1g s []).length:=by
 unfold a1g;split;rw[a3V];split;rw[b6O];split;rw[b6O,a9V,a3V]
 conv=>rhs;rw[b6O,a9V]
 omega;split;rw[b2x,a3V]
 conv=>rhs;rw[b2x]
 omega
 simp
theorem c8K(k:0≤s.1∧s.1≤5)(a:0≤s.2.1∧s.2.1≤30)(f:s.2.2.2.2.2.2.2.2.1.all a0A=true)(L:List Int):(a7T s L).length=L.length+13:=by
 obtain⟨K,g⟩:=a01 k.1;obtain⟨w,h⟩:=a01 a.1
 have:=a4k f
 unfold a7T;rw[g,h,a2B (q:=K) (by omega),a2B (q:=w) (by omega),a6M (n:=5) (by omega) (by omega),a6M (n:=5) (by omega) (by omega),a6M (n:=3) (by omega) (by omega)]
def c6W(s:Sub)(zn:List Nat):Nat:=
 13+(a1g s []).length+a0I s.2.2.2.2.2.2.2.2.1*s.2.2.2.2.2.2.2.2.1.length+if s.1=0∨s.1=1 then 0 else 4+a4b zn s.2.2.2.2.2.2.2.2.2.1.2.1 s.2.2.2.2.2.2.2.2.2.2.1
theorem c1q(h:a2J k s n):0≤k∧k≤5:=by
 rcases h with h|h|⟨h,-⟩|⟨h,-⟩|⟨h,-⟩|⟨h,-⟩<;>omega
theorem b5u(h:(a1o s n).isSome=true):a1i s n:=by
 unfold a1o at h
 split at h
 assumption
 cases h
theorem d0O(h:(a1o s n).isSome=true)(d:s.1≠0∧s.1≠1→PartsOk s.2.2.2.2.2.2.2.2.2.1 n ((s.2.2.2.2.2.2.2.2.1.length:Nat):Int) s.2.2.2.2.2.2.2.2.2.2.1 zn)(L:List Int):
  (a1X s zn L).length=L.length+c6W s zn:=by
 obtain⟨e,i,b,-,k,a,-,-,f,-⟩:=b5u h;have c:=a4k f;have g:=c8K (c1q b) ⟨k,a⟩ f L;unfold a1X c6W
 by_cases hk:s.1=0∨s.1=1
 rw[if_pos hk,if_pos hk,b4R (by omega),c2M,g];omega;rw[if_neg hk,if_neg hk,c3n (d (not_or.1 hk)),b4R (by omega),c2M,g];omega
theorem c8L(h:SmallS s)(f:(a1o s n).isSome=true):∃g,a4S s n=((c6W s g:Nat):Int)∧(s.1≠0∧s.1≠1→PartsOk s.2.2.2.2.2.2.2.2.2.1 n ((s.2.2.2.2.2.2.2.2.1.length:Nat):Int) s.2.2.2.2.2.2.2.2.2.2.1 g):=by
 obtain⟨e,b,-,-,-,a,-⟩:=b6A h (n:=n) (L:=[]) (by simp);obtain⟨-,g,-,k⟩:=a f;refine⟨g,?_,k⟩;unfold a4S;rw[if_pos f,←c2e k,d0O f k]
 simp
structure Shifted (l m:List Int) (n:Nat):Prop where
 len:m.length=l.length
 wl:l.all a0A=true
 wm:m.all a0A=true
 down:a1c m=a1c l
 waste:a2V m=a2V l+n
 fl:l.all (fun x=>x==l.headD 0)=false
 fm:m.all (fun x=>x==m.headD 0)=false
structure BestIs (l:List Int) (cs:List Sub) (a:Int×(Bool×Sub)):Prop where
 one:a.2.1=true→∃c∈cs,(a1q c.1 l c).2=0∧a.2.2=(a1q c.1 l c).1∧a.1=a4S a.2.2 (l.length:Int)
 least:∀c∈cs,(a1q c.1 l c).2=0→a.2.1=true∧a.1≤a4S (a1q c.1 l c).1 (l.length:Int)
theorem b8z{l:List Int}:∀(cs ds:List Sub)(a:Int×(Bool×Sub)),BestIs l ds a→BestIs l (ds++cs) (cs.foldl (b6b l) a)
 | [],ds,a,h=>by rw[a39];exact h
 |c::cs,ds,a,h=>by
  rw[b07,show ds++c::cs=(ds++[c])++cs by simp];refine b8z cs (ds++[c]) _ ?_
  unfold b6b
  by_cases h0:(a1q c.1 l c).2=0
  ·have e:((a1q c.1 l c).2 != 0)=false:=by rw[h0];rfl
   rw[e,cF];cases hq:(!a.2.1 || decide (a4S (a1q c.1 l c).1 (l.length:Int)<a.1))with
   |true=>
    refine⟨fun _=>⟨c,by simp,h0,rfl,rfl⟩,fun d f k=>⟨rfl,?_⟩⟩;rcases mA.1 f with f|f;obtain⟨i,j⟩:=h.least d f k;rw[i]at hq;simp only[bT,Bool.false_or,dT]at hq;exact Int.le_trans (Int.le_of_lt hq) j;simp only[a66]at f;subst f;exact Int.le_refl _
   |false=>
    simp only[Bool.or_eq_false_iff,Bool.not_eq_false',decide_eq_false_iff_not]at hq;refine⟨fun b=>?_,fun d f k=>?_⟩;obtain⟨d,f,g⟩:=h.one b;exact⟨d,a87 _ f,g⟩;rcases mA.1 f with f|f;exact h.least d f k;simp only[a66]at f;subst f;exact⟨hq.1,b08.1 hq.2⟩
  have e:((a1q c.1 l c).2 != 0)=true:=by simpa using h0
  rw[e,cT];refine⟨fun b=>?_,fun d f k=>?_⟩;obtain⟨d,f,g⟩:=h.one b;exact⟨d,a87 _ f,g⟩;rcases mA.1 f with f|f;exact h.least d f k;simp only[a66]at f;subst f;exact absurd k h0
theorem c2h(l:List Int)(cs:List Sub):BestIs l cs (b6N l cs):=
 b8z cs [] _ ⟨fun h=>(by cases h),fun _ h=>(by cases h)⟩
theorem b6P(h:1≤l.length)(g:l.length≤4096)(f:l.all a0A=true):a1q 1 l (cS 1 0 0 [] [])=(a1J (a0Q 1 (cS 1 0 0 [] [])) (a2V l) (a1c l) z0 [],0):=by
 unfold a1q;rw[if_neg (fun q=>q ⟨h,g,.inr (.inl rfl)⟩),if_neg (by rw[f];decide),if_neg (by decide),if_pos rfl]
theorem c6X(h:1≤l.length)(g:l.length≤4096)(f:l.all a0A=true)(d:List Int)(k:Int):(b6N l (a4h d k)).2.1=true:=
 ((c2h l (a4h d k)).least (cS 1 0 0 [] []) (by simp[a4h,a2g]) (by rw[show(cS 1 0 0 [] []).1=1 from rfl,b6P h g f])).1
def inW(x:Int)(v:Nat):Bool:=decide (x=0) || a1y x (v:Int)
theorem c8M:a1y x (v:Int)=true↔1≤v∧v≤31∧-((2^(v-1):Nat):Int)≤x∧x≤((2^(v-1):Nat):Int)-1:=by
 by_cases hv:1≤v∧v≤31
 have e:((v:Int)-1)=((v-1:Nat):Int):=by omega
 have hp:2^(v-1)≤2^30:=a19 (by omega) (by omega);have b:=a29 (v-1);have g:z0g .i64 1 ((v-1:Nat):Int)=((2^(v-1):Nat):Int):=c4b (by omega);have f:z0g .i64 (-1) ((v-1:Nat):Int)=-((2^(v-1):Nat):Int):=by
  have a:min (a34 ((v-1:Nat):Int)) (IntKind.bits .i64)=v-1:=by simp only[tN,IntKind.bits];omega
  unfold z0g;rw[a,show(-1:Int)*2^(v-1)=-((2^(v-1):Nat):Int)by simp];exact a0H (by omega)
 have k:wrap .i64 (((2^(v-1):Nat):Int)-1)=((2^(v-1):Nat):Int)-1:=a0H (by omega);simp only[a1y,e,g,f,k,bA,dT];constructor;intro h;exact⟨hv.1,hv.2,h.2.2.1,h.2.2.2⟩;intro h;exact⟨by omega,by omega,h.2.2.1,h.2.2.2⟩;constructor;intro h;simp only[a1y,bA,dT]at h;omega;intro h;omega
theorem c2i:inW x v=true↔x=0∨(1≤v∧v≤31∧-((2^(v-1):Nat):Int)≤x∧x≤((2^(v-1):Nat):Int)-1):=by
 simp only[inW,a18,dT,c8M]
theorem c8N(h:v≤w)(f:w≤31)(g:inW x v=true):inW x w=true:=by
 rw[c2i]at g⊢;rcases g with g|⟨k,a,b,c⟩;exact .inl g
 have:2^(v-1)≤2^(w-1):=a19 (by omega) (by omega)
 exact .inr ⟨by omega,f,by omega,by omega⟩
theorem c8O(h:a0A x=true):inW x 31=true:=by
 have:=a1H.1 h
 rw[c2i];exact .inr ⟨by omega,by omega,by rw[show((2^(31-1):Nat):Int)=1073741824 from rfl];omega,by rw[show((2^(31-1):Nat):Int)=1073741824 from rfl];omega⟩
theorem c2N{x:Int}(b:a0A x=true):∀(k w:Nat),w+k=32→w≤31→w≤a1w x k w∧a1w x k w≤31∧inW x (a1w x k w)=true∧∀v,w≤v→inW x v=true→v≤31→a1w x k w≤v
 |0,w,h,g=>absurd g (by omega)
 |k+1,w,h,g=>by
  by_cases hin:inW x w=true
  ·have:a1w x (k+1) w=w:=by
    unfold a1w;cases f:(x != 0)&&!a1y x (w:Int)with
    |false=>rfl
    |true=>
     simp only[bA,bne_iff_ne,ne_eq,a41]at f;simp only[inW,a18,dT,f.2,Bool.false_eq_true,or_false]at hin;exact absurd hin f.1
   rw[this];exact⟨a35 _,g,hin,fun v hv _ _=>hv⟩
  have f:((x != 0)&&!a1y x (w:Int))=true:=by
   simp only[inW,a18,dT,not_or,Bool.not_eq_true]at hin;simp only[bA,bne_iff_ne,ne_eq,a41];exact hin
  have j:w≠31:=fun e=>hin (by rw[e];exact c8O b);have e:a1w x (k+1) w=a1w x k (w+1):=by
   show(bif (x != 0)&&!a1y x (w:Int)then a1w x k (w+1)else w)=_;rw[f,cT]
  obtain⟨l,c,d,i⟩:=c2N b k (w+1) (by omega) (by omega);rw[e];refine⟨by omega,c,d,fun v hv a g=>i v ?_ a g⟩;rcases Nat.lt_or_ge w v with q|q;exact q
  have:v=w:=by omega
  exact absurd (this▸a) hin
theorem b1n:∀(l:List Int)(w:Nat),l.all a0A=true→w≤31→
  w≤l.foldl (fun w x=>a1w x (32-w) w) w∧l.foldl (fun w x=>a1w x (32-w) w) w≤31∧(∀x∈l,inW x (l.foldl (fun w x=>a1w x (32-w) w) w)=true)∧∀v,w≤v→v≤31→(∀x∈l,inW x v=true)→l.foldl (fun w x=>a1w x (32-w) w) w≤v
 | [],w,_,h31=>⟨a35 _,h31,by simp,fun v hv _ _=>hv⟩
 |x::l,w,h,h31=>by
  rw[a09,bA]at h;obtain⟨m,e,i,j⟩:=c2N h.1 (32-w) w (by omega) h31;obtain⟨b,a,c,d⟩:=b1n l (a1w x (32-w) w) h.2 e;simp only[b07];refine⟨by omega,a,fun y k=>?_,fun v hv f g=>?_⟩;rcases mC.1 k with rfl|k;exact c8N b a i;exact c y k;exact d v (j v hv (g x a64) f) f fun y k=>g y (List.mem_cons_of_mem _ k)
theorem c8P(h:l.all a0A=true):∀x∈l,inW x (a0I l)=true:=(b1n l 0 h (by omega)).2.2.1
theorem c5m(h:l.all a0A=true)(hv:v≤31)(g:∀x∈l,inW x v=true):a0I l≤v:=(b1n l 0 h (by omega)).2.2.2 v (by omega) hv g
theorem c8Q(e:w≤30)(a:((2^w:Nat):Int) ∣ x)(h:inW x v=true):inW (z0h .i64 x (w:Int)) v=true:=by
 obtain⟨c,rfl⟩:=a;rw[c8F (by omega)];rw[c2i]at h⊢;have hp:(1:Int)≤((2^w:Nat):Int):=by have:=a29 w;omega
 generalize ((2^w:Nat):Int)=p at h hp;rcases h with h|⟨f,k,b,d⟩;rcases Int.mul_eq_zero.1 h with h|h;omega;exact .inl h;refine .inr ⟨f,k,?_,?_⟩
 by_cases hc:0≤c
 have:(0:Int)≤((2^(v-1):Nat):Int):=a65 _
 omega;have g:=a61 (show 0≤p-1 by omega) (show 0≤-c by omega);rw[Int.mul_neg,b01]at g;omega
 by_cases hc:0≤c
 have g:=a61 (show 0≤p-1 by omega) hc;rw[b01]at g;omega
 have:(1:Int)≤((2^(v-1):Nat):Int):=by have:=a29 (v-1);omega
 omega
theorem c6Y(b:l.length≤4096)(h:l.all a0A=true):a0I (a1c l)≤a0I l:=by
 obtain⟨-,d,e⟩:=a9m (show short l by unfold short;omega) h;obtain⟨-,a,-,-⟩:=a6N b h;have k:∀x∈l,((2^a2V l:Nat):Int) ∣ x:=by
  rcases e with⟨g,-⟩|⟨-,-,g,-⟩;exact fun x f=>by rw[g x f];exact a94 _
  exact g
 refine c5m a (a4k h) fun y c=>?_
 obtain⟨x,f,rfl⟩:=List.mem_map.1 c;exact c8Q d (k x f) (c8P h x f)
theorem c6Z(c:1≤l.length)(h:l.length≤4096)(f:l.all a0A=true):a4S (a1q 1 l (cS 1 0 0 [] [])).1 (l.length:Int)=((13+a0I (a1c l)*l.length:Nat):Int):=by
 have d:SmallS (cS 1 0 0 [] []):=b1J (by simp) (by simp);have g:=b6P c h f;obtain⟨a1,-,-,a⟩:=c2g d (k:=1) (l:=l) (by rw[g]);obtain⟨j,i,-⟩:=c8L a1 (by rw[a];rfl);obtain⟨-,-,b,-⟩:=a6N h f;rw[i,g];have e:c6W (a1J (a0Q 1 (cS 1 0 0 [] [])) (a2V l) (a1c l) z0 []) j=13+0+a0I (a1c l)*(a1c l).length+0:=rfl;rw[e,b];rfl
theorem c7a(b:1≤l.length)(f:l.length≤4096)(a:l.all a0A=true)(g:c1o (a1c l))(d:0≤k)(t:k≤3):
  ∃s,a5o (l,k)=some (s,0)∧SmallS s∧a1o s (l.length:Int)=some l∧s=(b6N l (a4h (a1c l) k)).2.2∧a4S s (l.length:Int)=(b6N l (a4h (a1c l) k)).1∧a4S s (l.length:Int)≤((13+a0I l*l.length:Nat):Int)∧
   (∀c∈a4h (a1c l) k,(a1q c.1 l c).2=0→a4S s (l.length:Int)≤a4S (a1q c.1 l c).1 (l.length:Int)):=by
 obtain⟨-,p,u,-⟩:=a6N f a;have hb:=d0N b f a g d t;have j:=c6X b f a (a1c l) k;obtain⟨c,i,q,r,o⟩:=(c2h l (a4h (a1c l) k)).one j;have e:=c1p p (by omega) g k c i;obtain⟨m,-,-,n⟩:=c2g e q;rw[←r]at m n;have h:∀c∈a4h (a1c l) k,(a1q c.1 l c).2=0→a4S (b6N l (a4h (a1c l) k)).2.2 (l.length:Int)≤a4S (a1q c.1 l c).1 (l.length:Int):=fun c i d=>by
  rw[←o];exact((c2h l (a4h (a1c l) k)).least c i d).2
 refine⟨_,hb,m,n,rfl,o.symm,?_,h⟩;have hp:=h (cS 1 0 0 [] []) (by simp[a4h,a2g]) (by rw[show(cS 1 0 0 [] []).1=1 from rfl,b6P b f a]);rw[show(cS 1 0 0 [] []).1=1 from rfl,c6Z b f a]at hp
 have:=a43 l.length (c6Y f a)
 omega
def a1K(L:List Int):Prop:=∀b∈L,b=0∨b=1
def b6c(bs:List Int)(i:Nat):Bool:=(bs.getD (i / 8) 0).toNat.testBit (7-i%8)
theorem or8{x y:Nat}(h:x<256)(g:y<256):bits .u8 .or (x:Int) (y:Int)=((x ||| y:Nat):Int):=by
 show wrap .u8 (((a05 8 (x:Int)) ||| (a05 8 (y:Int))).toNat:Int)=_;rw[a24,a24,a80,a33,a33,a36 h,a36 g,a5x]
 have:x ||| y<2^8:=a97 h g
 omega
theorem d7T{b:Int}(hb:b=0∨b=1){r:Nat}(g:r<8):z0g .u8 b (7-(r:Int))=((b.toNat*2^(7-r):Nat):Int):=by
 have h:∀r:Fin 8,z0g .u8 0 (7-(r.1:Int))=((0*2^(7-r.1):Nat):Int)∧z0g .u8 1 (7-(r.1:Int))=((1*2^(7-r.1):Nat):Int):=by decide +kernel
 rcases hb with rfl|rfl;exact(h ⟨r,g⟩).1;exact(h ⟨r,g⟩).2
theorem c7N(L:List Int)(b:Int)(i:Nat):(L++[b]).getD i 0=if i=L.length then b else L.getD i 0:=by
 grind
theorem c4t(h:List Int)(k:Nat)(y:Int)(g:k<h.length)(j:Nat):(h.set k y).getD j 0=if j=k then y else h.getD j 0:=by
 grind
theorem c2O:∀(n:Nat)(L:List Int),L.length=n→a1K L→(∀j,0≤(wL L).1.getD j 0∧(wL L).1.getD j 0<256)∧∀i,b6c (wL L).1 i=decide (L.getD i 0=1)
 |0,L,h,_=>by
  simp_all[wL,b6c]
 |n+1,L,h,hL=>by
  obtain⟨g,b,rfl⟩:∃g b,L=g++[b]:=by
   rcases a53 L with rfl|⟨g,b,e⟩
   all_goals simp_all
  have hb:b=0∨b=1:=hL b (by simp);obtain⟨v,w⟩:=c2O n g (by simp_all) fun c D=>hL c (by grind);obtain⟨o,p⟩:=a6I g;rw[b5T];generalize wL g=wr at o p v w⊢;obtain⟨d,m,u⟩:=wr;have o:m=(g.length:Int):=o;have p:d.length=(g.length+7) / 8:=p;subst o;have e8:((g.length:Int) / 8).toNat=g.length / 8:=by rfl
  have r:(g.length:Int)%8=((g.length%8:Nat):Int):=by rfl
  obtain⟨f,a,y,z⟩:∃f:List Int,(if(g.length:Int)%8=0 then d++[0]else d)=f∧g.length / 8<f.length∧∀j,f.getD j 0=d.getD j 0:=by
   grind
  rw[r]at a;have C:g.length%8<8:=a60 _ (by simp);obtain⟨x,s⟩:∃x:Nat,d.getD (g.length / 8) 0=(x:Int):=a01 (v _).1;have k:x<256:=by
   grind
  have t:b.toNat*2^(7-g.length%8)<256:=by
   have hp:2^(7-g.length%8)≤2^7:=a19 (by simp) (by omega)
   grind
  have B:x ||| b.toNat*2^(7-g.length%8)<2^8:=a97 k t;have l:(b8q (d,(g.length:Int),u) b).1=f.set (g.length / 8) ((x ||| b.toNat*2^(7-g.length%8):Nat):Int):=by
   unfold b8q;simp only[a,e8,r];rw[z,s,d7T hb C,or8 k t]
  rw[l];refine⟨fun j=>?_,fun i=>?_⟩
  grind[c4t]
  ·unfold b6c;rw[c4t _ _ _ y,c7N];have q:=w i;unfold b6c at q
   by_cases hk:i / 8=g.length / 8
   ·rw[if_pos hk,tN,Nat.testBit_or];rw[hk,s,tN]at q;rw[q];have A:(b.toNat*2^(7-g.length%8)).testBit (7-i%8)=(decide (b=1)&&decide (i=g.length)):=by
     rcases hb with rfl|rfl
     all_goals grind
    grind
   grind
theorem d0P(h:a1K L):(∀j,0≤(wL L).1.getD j 0∧(wL L).1.getD j 0<256)∧∀i,b6c (wL L).1 i=decide (L.getD i 0=1):=c2O _ L rfl h
theorem a1K.app{A B:List Int}(h:a1K A)(g:a1K B):a1K (A++B):=fun b hb=>(mA.1 hb).elim (h b) (g b)
theorem c7O{n:Nat}(f:n≤62)(x:Int):∃v:Nat,a1I x n=(v:Int)∧v<2^n∧(v:Int)=x%((2^n:Nat):Int):=by
 have k:wrap .u64 x=x%18446744073709551616:=by simp[wrap,IntKind.bits,IntKind.signed]
 obtain⟨y,g⟩:∃y:Nat,x%18446744073709551616=(y:Int):=a01 (Int.emod_nonneg _ (by decide));have h:y<18446744073709551616:=by omega
 refine⟨y%2^n,?_,a60 _ (a29 n),?_⟩;unfold a1I;rw[k,g];exact b6z h f;rw[Int.natCast_emod,←g];refine Int.emod_emod_of_dvd x ?_
 have:(2:Nat)^n ∣ 2^64:=a56 2 (by omega)
 exact a27.2 this
def OkR(P R:List Int):Prop:=a1K (P++R)∧(P++R).length<200000000
theorem OkR.shift{P A R:List Int}(h:OkR P (A++R)):OkR (P++A) R:=by
 unfold OkR at h⊢
 rwa [aA]
def unB(n:Nat):List Int:=a00 n 0++[1]
theorem a1R{n:Nat}(h:n≤63)(hv:v<2^n)(L:List Int):a0G (v:Int) n L=L++pb (v:Int) n:=by
 unfold a0G;rw[a4i (N:=v) (o:=n) (by omega),b02 hv]
 simp
def c1r(k:Nat)(x:Int):List Int:=
 if a0O x / 2^k<32 then unB (a0O x / 2^k)++pb ((a0O x%2^k:Nat):Int) k else unB 32++pb ((a0O x:Nat):Int) 32
theorem c7P{k:Nat}(f:k≤25)(g:a0A x=true)(L:List Int):a4R k x L=L++c1r k x:=by
 have h:=a9P g;unfold a4R c1r;split;rw[a1R (by omega) (a60 _ (a29 k))];simp[unL,unB];rw[a1R (by omega) (by omega)];simp[unL,unB]
def c1s(k:Nat)(l:List Int):List Int:=l.flatMap (c1r k)
theorem c1t{k:Nat}(g:k≤25):∀(l L:List Int),l.all a0A=true→a2K k l L=L++c1s k l
 | [],L,_=>by simp[a2K,c1s]
 |x::l,L,h=>by
  simp only[a09,bA]at h;show a2K k l (a4R k x L)=_;rw[c1t g l _ h.2,c7P g h.1];simp[c1s]
def sB(n:Nat)(l:List Int):List Int:=l.flatMap fun x=>pb (a1I x n) n
theorem a9W{n:Nat}(g:n≤62):∀(l L:List Int),a1f n l L=L++sB n l
 | [],L=>by simp[a1f,sB]
 |x::l,L=>by
  show a1f n l (a0G (a1I x n) n L)=_;obtain⟨v,hv,h,-⟩:=c7O g x;rw[a9W g l,hv,a1R (by omega) h,←hv];simp[sB]
def c1u(k:Int)(part:List Int):List Int:=if k=31 then pb 31 5++(pb ((a0I part:Nat):Int) 5++sB (a0I part) part)else pb k 5++c1s k.toNat part
theorem c7Q(a:kB k=true){part:List Int}(f:part.all a0A=true)(L:List Int):a6L k part L=L++c1u k part:=by
 have b:=a4k f;simp only[kB,a18,bA,dT,beq_iff_eq]at a;obtain⟨K,rfl⟩:=a01 (show 0≤k by omega);unfold a6L c1u;rw[a2B (by omega)];have g:=a1R (v:=K) (n:=5) (by omega) (by omega) L;split;rename_i h;rw[a9W (by omega),a1R (v:=a0I part) (n:=5) (by omega) (by omega),g,h]
 simp
 rw[c1t (by omega) _ _ f,g]
 simp
def a7t:List Nat→List Int→List Int→List Int
 |z::zs,k::ks,l=>c1u k (l.take z)++a7t zs ks (l.drop z)
 |_,_,_=>[]
theorem c7R(h:l.all a0A=true)(z:Nat):(l.take z).all a0A=true:=lA.2 fun x g=>lA.1 h x (a25 g)
theorem c7S(h:l.all a0A=true)(z:Nat):(l.drop z).all a0A=true:=lA.2 fun x g=>lA.1 h x (a26 g)
theorem c1v:∀(zs:List Nat)(ks l L:List Int),ks.all kB=true→l.all a0A=true→a2A zs ks l L=L++a7t zs ks l
 |z::zs,k::ks,l,L,hk,hw=>by
  simp only[a09,bA]at hk;simp only[a2A,a7t];rw[c1v zs ks _ _ hk.2 (c7S hw z),c7Q hk.1 (c7R hw z)]
  simp
 | [],_,_,L,_,_=>by simp[a2A,a7t]
 |_::_,[],_,L,_,_=>by simp[a2A,a7t]
def b8A(p:Prt)(zn:List Nat)(l:List Int):List Int:=pb p.1 4++a7t zn p.2.1 l
theorem c3s(h:PartsOk p n warm l zn)(L:List Int):a1Q p zn l L=L++b8A p zn l:=by
 obtain⟨o,ks,u⟩:=p;have g:=h.order;simp only at g;obtain⟨O,rfl⟩:=a01 g.1;unfold a1Q b8A;simp only;rw[a2B (by omega),a1R (n:=4) (by omega) (by omega),c1v _ _ _ _ h.all h.wide]
 simp
def b8B(s:Sub):List Int:=
 pb ((s.2.2.2.2.2.1.length-1:Nat):Int) 5++(pb s.2.2.2.1 4++(pb ((a0I s.2.2.2.2.2.1:Nat):Int) 5++sB (a0I s.2.2.2.2.2.1) s.2.2.2.2.2.1))
theorem c7T{t:Int}(h:a4J c t=true):1≤c.length∧c.length≤32∧0≤t∧t≤15∧c.all a0A=true:=by
 simp only[a4J,bA,dT]at h;obtain⟨g,f,k,a,b⟩:=h;refine⟨g,f,k,a,lA.2 fun x d=>?_⟩
 have:=lA.1 b x d
 simp only[b2o,bA,dT]at this;rw[a1H];omega
theorem c1w(h:a4J s.2.2.2.2.2.1 s.2.2.2.1=true)(L:List Int):a3C s L=L++b8B s:=by
 obtain⟨d,e,k,i,a⟩:=c7T h;have b:=a4k a;unfold a3C b8B;generalize s.2.2.2.2.2.1=c at *;generalize s.2.2.2.1=t at *;obtain⟨T,rfl⟩:=a01 k;have g:wrap .u64 (wrap .i64 (((c.length:Nat):Int)-1))=((c.length-1:Nat):Int):=by rw[a0H (by omega),a0M (by omega)];omega
 have f:wrap .u64 (T:Int)=(T:Int):=a0M (by omega);rw[g,f,a9W (by omega),a1R (v:=a0I c) (n:=5) (by omega) (by omega),a1R (v:=T) (n:=4) (by omega) (by omega),a1R (v:=c.length-1) (n:=5) (by omega) (by omega)]
 simp
def c7b(st:List Stg):List Int:=st.flatMap fun g=>pb (g.1-1) 5++pb g.2.1 4
theorem c5n{g:Stg}(h:Ab.stageB g=true):1≤g.1∧g.1≤32∧0≤g.2.1∧g.2.1≤8:=by
 simp only[Ab.stageB,bA,dT]at h;exact⟨h.1,h.2.1,h.2.2.1,h.2.2.2⟩
theorem b9A:∀(st:List Stg)(L:List Int),st.all Ab.stageB=true→a1W st L=L++c7b st
 | [],L,_=>by simp[a1W,c7b]
 |g::st,L,h=>by
  simp only[a09,bA]at h;obtain⟨c,d,f,e⟩:=c5n h.1;show a1W st (a4K g L)=_;rw[b9A st _ h.2];obtain⟨a,b,u⟩:=g;simp only at c d f e;obtain⟨B,rfl⟩:=a01 f;obtain⟨A,k⟩:=a01 (show 0≤a-1 by omega);unfold a4K;simp only;rw[k,a9Q (q:=A) (by omega),a2B (q:=A) (by omega),a2B (q:=B) (by omega),a1R (v:=A) (n:=5) (by omega) (by omega),a1R (v:=B) (n:=4) (by omega) (by omega)];simp[c7b,k]
def c1x(s:Sub):List Int:=
 if s.1=2 then pb s.2.2.1 3
 else if s.1=3 then b8B s
 else if s.1=4 then pb (s.2.2.2.2.1-1) 10++(sB 8 s.2.2.2.2.2.2.1++b8B s)
 else if s.1=5 then pb ((s.2.2.2.2.2.2.2.1.length:Nat):Int) 2++c7b s.2.2.2.2.2.2.2.1
 else[]
theorem c2P(h:a2J s.1 s n)(L:List Int):a1g s L=L++c1x s:=by
 unfold a1g c1x;rcases h with k|k|⟨k,g,f,-⟩|⟨k,g,-⟩|⟨k,g,-,b⟩|⟨k,g,f⟩;simp[k];simp[k];rw[if_pos k,if_pos k];obtain⟨A,a⟩:=a01 g;rw[a,a2B (by omega),a1R (n:=3) (by omega) (by omega)];rw[if_neg (by omega),if_pos k,if_neg (by omega),if_pos k,c1w g];rw[if_neg (by omega),if_neg (by omega),if_pos k,if_neg (by omega),if_neg (by omega),if_pos k,c1w g,a9W (by omega)];simp only[a7R,bA,dT]at b;obtain⟨A,a⟩:=a01 (show 0≤s.2.2.2.2.1-1 by omega);rw[a,a9Q (by omega),a2B (by omega),a1R (n:=10) (by omega) (by omega)]
 simp
 rw[if_neg (by omega),if_neg (by omega),if_neg (by omega),if_pos k,if_neg (by omega),if_neg (by omega),if_neg (by omega),if_pos k];simp only[a5y,bA,dT]at f;rw[b9A _ _ f.2,a2B (by omega),a1R (n:=2) (by omega) (by omega)]
 simp
def c7c(s:Sub):List Int:=pb s.1 3++(pb s.2.1 5++pb ((a0I s.2.2.2.2.2.2.2.2.1:Nat):Int) 5)
theorem c7U(k:0≤s.1∧s.1≤5)(a:0≤s.2.1∧s.2.1≤30)(f:s.2.2.2.2.2.2.2.2.1.all a0A=true)(L:List Int):a7T s L=L++c7c s:=by
 obtain⟨K,g⟩:=a01 k.1;obtain⟨w,h⟩:=a01 a.1
 have:=a4k f
 unfold a7T c7c;rw[g,h,a2B (q:=K) (by omega),a2B (q:=w) (by omega),a1R (v:=a0I s.2.2.2.2.2.2.2.2.1) (n:=5) (by omega) (by omega),a1R (v:=w) (n:=5) (by omega) (by omega),a1R (v:=K) (n:=3) (by omega) (by omega)]
 simp
def b1P(s:Sub)(zn:List Nat):List Int:=
 (c7c s++c1x s)++(sB (a0I s.2.2.2.2.2.2.2.2.1) s.2.2.2.2.2.2.2.2.1++if s.1=0∨s.1=1 then[]else b8A s.2.2.2.2.2.2.2.2.2.1 zn s.2.2.2.2.2.2.2.2.2.2.1)
theorem b5v(b:a1i s n)(d:s.1≠0∧s.1≠1→PartsOk s.2.2.2.2.2.2.2.2.2.1 n ((s.2.2.2.2.2.2.2.2.1.length:Nat):Int) s.2.2.2.2.2.2.2.2.2.2.1 zn)(L:List Int):
  a1X s zn L=L++b1P s zn:=by
 obtain⟨-,-,h,-,k,a,-,-,f,-⟩:=b;have c:=a4k f;have g:=c7U (c1q h) ⟨k,a⟩ f L;unfold a1X b1P
 by_cases hk:s.1=0∨s.1=1
 rw[if_pos hk,if_pos hk,a9W (by omega),c2P h,g]
 simp
 rw[if_neg hk,if_neg hk,c3s (d (not_or.1 hk)),a9W (by omega),c2P h,g]
 simp
theorem d3U(y:Int):bits .u64 .and y 1=y%2:=by
 have h:((a05 64 y) &&& (a05 64 1)).toNat=(y%18446744073709551616).toNat%2:=by
  rw[a72,a48];have e:(a05 64 1).toNat=2^1-1:=by decide
  rw[e,a55];rfl
 show wrap .u64 ((((a05 64 y) &&& (a05 64 1)).toNat:Nat):Int)=_;rw[h,a0M (by omega)];omega
theorem a1Y(v:Int):∀n,a1K (pb v n)
 |0=>fun b hb=>by cases hb
 |n+1=>fun b hb=>by
  rcases mC.1 hb with rfl|hb;unfold b4O;rw[d3U,a5x];omega;exact a1Y v n b hb
theorem c5D(n:Nat):a1K (unB n):=fun b hb=>by
 rcases mA.1 hb with hb|hb;exact .inl (a91.1 hb).2;exact .inr (by simpa using hb)
theorem b4V{f:α→List Int}{l:List α}(h:∀x,a1K (f x)):a1K (l.flatMap f):=fun b hb=>by
 obtain⟨x,-,g⟩:=List.mem_flatMap.1 hb;exact h x b g
theorem c7V(k:Nat)(x:Int):a1K (c1r k x):=by
 unfold c1r;split;exact(c5D _).app (a1Y _ _);exact(c5D _).app (a1Y _ _)
theorem b8M(n:Nat)(l:List Int):a1K (sB n l):=b4V fun _=>a1Y _ _
theorem c7W(k:Int)(l:List Int):a1K (c1u k l):=by
 unfold c1u;split;exact(a1Y _ _).app ((a1Y _ _).app (b8M _ _));exact(a1Y _ _).app (b4V fun _=>c7V _ _)
theorem b6Q:a1K []:=fun b hb=>by cases hb
theorem c1y:∀(zs:List Nat)(ks l:List Int),a1K (a7t zs ks l)
 |z::zs,k::ks,l=>by
  simp only[a7t];exact(c7W _ _).app (c1y zs ks _)
 | [],_,_=>by simp only[a7t];exact b6Q
 |_::_,[],_=>by simp only[a7t];exact b6Q
theorem c1z(s:Sub):a1K (b8B s):=(a1Y _ _).app ((a1Y _ _).app ((a1Y _ _).app (b8M _ _)))
theorem c7X(s:Sub):a1K (c1x s):=by
 unfold c1x;split;exact a1Y _ _;split;exact c1z s;split;exact(a1Y _ _).app ((b8M _ _).app (c1z s));split;exact(a1Y _ _).app (b4V fun _=>(a1Y _ _).app (a1Y _ _));exact b6Q
theorem c8R(s:Sub)(h:List Nat):a1K (b1P s h):=by
 refine(((a1Y _ _).app ((a1Y _ _).app (a1Y _ _))).app (c7X s)).app ((b8M _ _).app ?_);split;exact b6Q;exact(a1Y _ _).app (c1y _ _ _)
theorem c8S(h:SmallS s)(k:(a1o s n).isSome=true)(j:L.length<50000000):
  ∃g,a9R (wL L,s,n)=some (0,wL (L++b1P s g))∧a5l (s,n)=some (((b1P s g).length:Nat):Int)∧(b1P s g).length≤700000∧
   (s.1≠0∧s.1≠1→PartsOk s.2.2.2.2.2.2.2.2.2.1 n ((s.2.2.2.2.2.2.2.2.1.length:Nat):Int) s.2.2.2.2.2.2.2.2.2.2.1 g):=by
 obtain⟨e,i,a,-,b,d,-⟩:=b6A h (n:=n) (L:=L) (by omega);obtain⟨rfl,g,rfl,f⟩:=d k;have c:=b5u k;rw[b5v c f]at a b;refine⟨g,a,?_,by simp at b;omega,f⟩;rw[c5y h];unfold a4S;rw[if_pos k,←c2e f,b5v c f]
 simp
theorem c8T(g:L.length<1000000000):a4O (wL L)=some ((wL L).1,wL L):=by
 obtain⟨-,h⟩:=a6I L;unfold a4O;rw[a1a (by omega)];rfl
def a1Z(n:Nat):List Int:=if h:n<128 then[(n:Int)]else((n%128+128:Nat):Int)::a1Z (n / 128)
termination_by n
decreasing_by omega
theorem b8N{n:Nat}(h:n<128):a1Z n=[(n:Int)]:=by rw[a1Z,dif_pos h]
theorem c2j{n:Nat}(h:¬ n<128):a1Z n=((n%128+128:Nat):Int)::a1Z (n / 128):=by rw[a1Z,dif_neg h]
theorem b6R:∀(k n:Nat),n<128^(k+1)→1≤(a1Z n).length∧(a1Z n).length≤k+1
 |0,n,h=>by rw[b8N (by omega)];simp
 |k+1,n,h=>by
  by_cases hn:n<128
  rw[b8N hn];simp;rw[c2j hn]
  have:=b6R k (n / 128) (by rw[a83 (by omega)];rw[a76]at h;exact h)
  simp only[lC];omega
theorem c5E:∀(k n:Nat)(a:List Int)(b c:Int)(out:List Int),n<128^(k+1)→k≤8→out.length+k<1000000→
  ∃r g,x0r a8x ((n:Int),a,b,c,out,())=some (((r:Nat):Int),a,b,c,out++g,())∧a1Z n=g++[(r:Int)]∧r<128
 |k,n,a,b,c,out,h,hk,ho=>by
  by_cases hn:n<128
  refine⟨n,[],?_,by rw[b8N hn];rfl,hn⟩;rw[a0D (b:=((n:Int),a,b,c,out,())) (by
   have d:decide ((n:Int)≥128)=false:=by simp;omega
   simp only[a8x,d,cF])]
  simp
  ·cases k with
   |zero=>omega
   |succ k=>
    have p:n / 128<128^(k+1):=by rw[a83 (by omega)];rw[a76]at h;exact h
    have f:n<18446744073709551616:=by
     have:128^(k+1+1)≤128^9:=a19 (by omega) (by omega)
     have e:(128:Nat)^9=9223372036854775808:=by decide
     omega
    obtain⟨r,g,l,m,o⟩:=c5E k (n / 128) a b c (out++[((n%128+128:Nat):Int)]) p (by omega) (by simp;omega);refine⟨r,((n%128+128:Nat):Int)::g,?_,by rw[c2j hn,m];rfl,o⟩;have d:decide ((n:Int)≥128)=true:=by simp;omega
    have i:wrap .u64 (a69 (n:Int) 128)=((n / 128:Nat):Int):=by
     rw[show a69 (n:Int) 128=((n / 128:Nat):Int)from rfl];exact a0M (by omega)
    have j:wrap .u8 (wrap .u8 (a46 (n:Int) 128)+128)=((n%128+128:Nat):Int):=by
     rw[show a46 (n:Int) 128=((n%128:Nat):Int)from rfl,a5x,a5x];omega
    rw[a0E (s':=(((n / 128:Nat):Int),a,b,c,out++[((n%128+128:Nat):Int)],())) (by
     simp only[a8x,d,cT,a1a (show out.length+1<2147483648 by omega),i,j,a06])]
    rw[l]
    simp
theorem a8o{α β γ:Type}(f:α→List γ):∀(l:List α)(a:List γ),a2o (β:=β) (fun a x=>.inl (a++f x)) l a=.inl (a++l.flatMap f)
 | [],a=>by simp[a2o]
 |x::l,a=>by simp only[a2o];rw[a8o f l];simp
def asI(ns:List Nat):List Int:=ns.map fun n:Nat=>(n:Int)
theorem c4u{ns:List Nat}(h:∀n∈ns,n<9223372036854775808)(u:ns.length≤1000):b2c (asI ns)=some (ns.flatMap a1Z):=by
 have m:(asI ns).length=ns.length:=by simp[asI]
 have:=a0X (f:=a8y) (asI ns) (fun i (a:List Int)=>(asI ns,((asI ns).length:Int),(i:Int),a,())) (fun a x=>.inl (a++a1Z x.toNat)) (fun i a=>a.length≤10*i) (fun a=>(a,()))
  (fun i l a q=>⟨fun s g=>by
   have c:i<ns.length:=by omega
   have o:(asI ns)[i]=((ns[i]:Nat):Int):=by simp[asI]
   have hb:=h ns[i] (a04 c);have k:ns[i]<128^(8+1):=by rw[show(128:Nat)^(8+1)=9223372036854775808 from by decide];exact hb
   obtain⟨r,d,p,j,t⟩:=c5E 8 ns[i] (asI ns) ((asI ns).length:Int) (i:Int) a k (a35 _) (by omega);have hv:=b6R 8 ns[i] k;rw[j]at hv;simp only[lN,lC,b04]at hv;simp only[o,tN,j,Sum.inl.injEq]at g;subst g;have e:wrap .u8 (r:Int)=(r:Int):=by rw[a5x];omega
   refine⟨?_,by simp;omega⟩;simp only[a8y,dlt l,cT,a0B l,o,oB,p,a1a (show(a++d).length+1<2147483648 by simp;omega),a0C (show i<1000000 by omega),e,a06,aA],fun b hb=>by cases hb⟩)
  (fun a q=>by simp only[a8y,dge,cF]) (a:=[]) (by simp)
 unfold b2c;simp only[nZ]at this;rw[this,a8o];simp[a6E,asI,List.flatMap_map]
theorem orA{k:Nat}(f:a<2^k)(c:b*2^k+a<18446744073709551616):bits .u64 .or (a:Int) ((b*2^k:Nat):Int)=((a+b*2^k:Nat):Int):=by
 show wrap .u64 (((a05 64 (a:Int) ||| a05 64 ((b*2^k:Nat):Int)).toNat:Nat):Int)=_;have g:(a05 64 (a:Int)).toNat=a:=by rw[a48];omega
 have h:(a05 64 ((b*2^k:Nat):Int)).toNat=b*2^k:=by rw[a48];omega
 rw[a80,g,h];have e:a ||| b*2^k=a+b*2^k:=by
  have:=Nat.two_pow_add_eq_or_of_lt (i:=k) (b:=a) f b
  rw[Nat.or_comm,a75 b,←this,Nat.add_comm]
 rw[e];exact a0M (by omega)
def b5w(g:Int):Nat:=if 0≤g then(2*g).toNat else(-2*g-1).toNat
theorem d1U{g:Int}(h:-100000≤g∧g≤100000):b2b g=some ((b5w g:Nat):Int):=by
 unfold b2b b5w
 by_cases hg:0≤g
 have d:decide (g≥0)=true:=by simpa using hg
 rw[d,cT,if_pos hg,a0M (n:=g) (by omega),a0M (by omega),a89 (by omega)];have d:decide (g≥0)=false:=by simp;omega
 rw[d,cF,if_neg hg,a0H (n:=g+1) (by omega),a0H (by omega),a0M (n:=0-(g+1)) (by omega),a0M (n:=2*(0-(g+1))) (by omega),a0M (by omega),a89 (by omega)];congr 1;omega
theorem c2k{g:Int}(h:-(m:Int)≤g∧g≤(m:Int)):b5w g≤2*m:=by
 unfold b5w
 split<;>omega
def e8(s:Int):Int:=bif (z0h .u8 s 7)==(1:Int)then bits .u8 .xor (z0g .u8 s 1) 7 else z0g .u8 s 1
def e16(s:Int):Int:=bif (z0h .u16 s 15)==(1:Int)then bits .u16 .xor (z0g .u16 s 1) 32773 else z0g .u16 s 1
def rep{α:Type}(f:α→α):Nat→α→α
 |0,s=>s
 |n+1,s=>rep f n (f s)
def g8(s c:Int):Int:=rep e8 8 (bits .u8 .xor s c)
def g16(s c:Int):Int:=rep e16 8 (bits .u16 .xor s (z0g .u16 (wrap .u16 c) 8))
theorem c1A(l:List Int)(n i:Int):∀(j k:Nat)(s:Int),k+j=8→x0r b0J (s,l,n,i,(k:Int),())=some (rep e8 j s,l,n,i,())
 |0,k,s,h=>by
  obtain rfl:k=8:=by omega
  exact a0D rfl
 |j+1,k,s,h=>by
  have d:decide ((k:Int)<8)=true:=by simp;omega
  rw[a0E (s':=(e8 s,l,n,i,((k+1:Nat):Int),())) (by
   simp only[b0J,d,cT,a0C (show k<1000000 by omega),e8];cases (z0h .u8 s 7==1:Bool)<;>rfl)]
  exact c1A l n i j (k+1) (e8 s) (by omega)
theorem b8C(l:List Int)(n i:Int):∀(j k:Nat)(s:Int),k+j=8→x0r a8Q (s,l,n,i,(k:Int),())=some (rep e16 j s,l,n,i,())
 |0,k,s,h=>by
  obtain rfl:k=8:=by omega
  exact a0D rfl
 |j+1,k,s,h=>by
  have d:decide ((k:Int)<8)=true:=by simp;omega
  rw[a0E (s':=(e16 s,l,n,i,((k+1:Nat):Int),())) (by
   simp only[a8Q,d,cT,a0C (show k<1000000 by omega),e16];cases (z0h .u16 s 15==1:Bool)<;>rfl)]
  exact b8C l n i j (k+1) (e16 s) (by omega)
def c7d(l:List Int):Int:=l.foldl g8 0
def b4W(l:List Int):Int:=l.foldl g16 0
theorem c8U(h:short l):b0K l=some (c7d l):=by
 have:=a0X (f:=a7B) (β:=Int×Unit) l (fun i (a:Int)=>(a,l,(l.length:Int),(i:Int),())) (fun a x=>.inl (g8 a x)) (fun _ _=>True) (fun a=>(a,()))
  (fun i k a _=>⟨fun c g=>by
   simp only[Sum.inl.injEq]at g;subst g
   have:=c1A l (l.length:Int) (i:Int) 8 0 (bits .u8 .xor a l[i]) rfl
   simp only[nZ]at this;refine⟨?_,trivial⟩;simp only[a7B,dlt k,cT,a0B k,oB,this,a0C (a22 k h),g8],fun b hb=>by cases hb⟩)
  (fun a d=>by simp only[a7B,dge,cF]) (a:=0) trivial
 unfold b0K;simp only[nZ]at this;rw[this,b1O];rfl
theorem c7e(h:short l):a8z l=some (b4W l):=by
 have:=a0X (f:=a5M) (β:=Int×Unit) l (fun i (a:Int)=>(a,l,(l.length:Int),(i:Int),())) (fun a x=>.inl (g16 a x)) (fun _ _=>True) (fun a=>(a,()))
  (fun i k a _=>⟨fun c g=>by
   simp only[Sum.inl.injEq]at g;subst g
   have:=b8C l (l.length:Int) (i:Int) 8 0 (bits .u16 .xor a (z0g .u16 (wrap .u16 l[i]) 8)) rfl
   simp only[nZ]at this;refine⟨?_,trivial⟩;simp only[a5M,dlt k,cT,a0B k,oB,this,a0C (a22 k h),g16],fun b hb=>by cases hb⟩)
  (fun a d=>by simp only[a5M,dge,cF]) (a:=0) trivial
 unfold a8z;simp only[nZ]at this;rw[this,b1O];rfl
theorem c2l(n:Int):wrap .u16 n=n%65536:=by simp[wrap,IntKind.bits,IntKind.signed]
theorem c8V(s:Int):0≤e8 s∧e8 s<256:=by
 unfold e8;cases (z0h .u8 s 7==1:Bool);simp only[cF,z0g,a5x];omega;simp only[cT,bits,a5x];omega
theorem c2Q(s:Int):0≤e16 s∧e16 s<65536:=by
 unfold e16;cases (z0h .u16 s 15==1:Bool);simp only[cF,z0g,c2l];omega;simp only[cT,bits,c2l];omega
theorem b9B(l:List Int):0≤b4W l∧b4W l<65536:=by
 unfold b4W;rcases a53 l with rfl|⟨L,b,rfl⟩
 simp
 rw[a82,List.foldl_append];exact c2Q _
theorem d7U{v:Int}(h:0≤v∧v<65536):b2d (v,2)=some [v / 256,v%256]:=by
 have g:wrap .u64 (a69 v 256)=v / 256:=by rw[a38 h.1];exact a0M (by omega)
 have f:wrap .u8 (a46 v 256)=v%256:=by rw[a37 h.1,a5x];omega
 have k:wrap .u8 (a46 (v / 256) 256)=v / 256:=by rw[a37 (by omega),a5x];omega
 have c:a4B (v,(2:Int),(0:Int),([]:List Int),())=some (.inl (v / 256,(2:Int),(1:Int),[v%256],())):=by
  simp only[a4B,show decide ((0:Int)<2)=true from rfl,cT,a1a (show([]:List Int).length+1<2147483648 by simp),g,f];rfl
 have d:a4B (v / 256,(2:Int),(1:Int),[v%256],())=some (.inl (wrap .u64 (a69 (v / 256) 256),(2:Int),(2:Int),[v%256,v / 256],())):=by
  simp only[a4B,show decide ((1:Int)<2)=true from rfl,cT,a1a (show([v%256]:List Int).length+1<2147483648 by simp),k];rfl
 have a:a9v (v,2)=some [v%256,v / 256]:=by
  unfold a9v b2Q;simp only[oB];rw[show v0a (u0z (2:Int) 0) 8=2 from rfl,a0E c,a0E d,a0D (b:=([v%256,v / 256],())) rfl];rfl
 unfold b2d a2U;simp only[a,oB];rfl
end Go.Ab
