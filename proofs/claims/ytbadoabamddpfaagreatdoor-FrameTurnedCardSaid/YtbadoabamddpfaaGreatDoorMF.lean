/- Part of the proof: QE. Conditions: as each statement tells. -/
import Derived.KernelRfl
import Derived.Test.YtbadoabamddpfaaGreatDoorME
noncomputable section
set_option linter.unusedSimpArgs false
set_option linter.unusedVariables false
open BitVec renaming ofInt→a05,ofInt_natCast→a22,toNat_ofNat→a30,toNat_or→a78,toNat_and→a97
open Bool renaming and_self→a03,not_false→a32,or_eq_true→a33,not_eq_true'→a34,true_and→a40,eq_iff_iff→a77,and_eq_true_iff→a82,and_false→b06
open Int renaming eq_ofNat_of_zero_le→a02,cast_ofNat_Int→a18,natCast_dvd_natCast→a25,toNat→a35,tdiv_eq_ediv_of_nonneg→a38,tmod_eq_emod_of_nonneg→a45,fdiv_eq_ediv_of_nonneg→a47,dvd_mul_of_dvd_left→a53,mul_nonneg→a54,tmod→a59,mul_comm→a62,natCast_nonneg→a66,mul_fdiv_cancel_left→a70,dvd_add_left→a72,fdiv→a85,tdiv→a86,dvd_zero→a90,emod_eq_of_lt→a93,sub_mul→a98,natCast_mul→b03,natCast_add→b04,not_lt→b05
open List renaming replicate→a00,drop_eq_getElem_cons→a01,getElem_mem→a04,append_eq→a06,all_cons→a07,length_take→a08,drop_zero→a17,nil_append→a19,take_length→a21,mem_of_mem_take→a23,mem_of_mem_drop→a24,take_of_length_le→a26,zipWith→a28,getElem?_append_right→a39,replicate_succ'→a41,drop_length→a43,length_drop→a46,length_nil→a48,append_nil→a49,length_eq_zero_iff→a52,take_succ_eq_append_getElem→a55,getElem_zip→a56,singleton_append→a57,length→a58,set_cons_zero→a64,mem_cons_self→a65,mem_singleton→a67,sum_cons→a68,getElem?_append_left→a69,set_append_right→a79,eq_nil_or_concat→a80,mem_append_left→a83,getD→a91,cons_append→a94,length_zip→b00,set_append→b01,foldl_cons→b02,take→b07
open Nat renaming two_pow_pos→a09,pow_le_pow_right→a16,div_le_self→a20,lt_trans→a29,lt_of_le_of_lt→a31,le_refl→a36,mod_eq_of_lt→a37,mul_le_mul_right→a42,mod_lt→a44,min_eq_left→a50,pow_dvd_pow→a60,le_of_lt→a61,testBit_two_pow_mul_add→a63,div_eq_of_lt→a71,sub_self→a73,mul_comm→a74,add_sub_cancel_left→a75,div_add_mod→a76,mul_le_mul→a81,div_mul_le_self→a84,one_le_two_pow→a87,add_zero→a88,pow_succ→a89,or_lt_two_pow→a92,mul_add→a95,mul_one→a96,lt_of_not_le→a99
open Option renaming map_eq_some_iff→a27,bind_eq_some_iff→a51
namespace Go.Ab
variable {L P R c d g ks l part r row t wm:List Int}{N a b i j m o v w:Nat}{k lag n warm x:Int}{zn:List Nat}
open IntKind(wrap)
def b8F(out:List Int)(lag:Int):List Int→Nat→Int→Int
 | [],_,acc=>acc
 |t::r,i,acc=>b8F out lag r (i+1) (bif decide (0≤(out.length:Int)-lag-1+i)then W (acc+W (t*out.getD ((out.length:Int)-lag-1+i).toNat 0))else acc)
def a5S(lag:Int)(t:List Int)(out:List Int):Int:=z0h .i64 (b8F out lag t 0 0) 6
theorem b6W{out:List Int}{j:Int}(g:0≤j)(h:j<out.length):l0z out j=some (out.getD j.toNat 0):=by
 obtain⟨n,rfl⟩:=a02 g;simp_all[a0B]
theorem c5K{n:Nat}(h:2≤lag)(g:lag≤1024)(k:n<1000000)(f:i<3):
  wrap .i64 (wrap .i64 (wrap .i64 ((n:Int)-lag)-1)+(i:Int))=(n:Int)-lag-1+i:=by
 grind[a0D]
theorem c7J{n:Nat}(h:j<n):(l.take n).getD j 0=l.getD j 0:=by
 simp_all
theorem a9t{l t:List Int}{lag:Int}{n:Nat}(m:n≤l.length)(j:short l)(o:t.length=3)(a:2≤lag)(b:lag≤1024):∀(k i:Nat)(acc:Int),i+k=3→
  x0r a4l (l,(n:Int),lag,acc,t,(i:Int),())=some (b8F (l.take n) lag (t.drop i) i acc,())
 |0,i,acc,h=>by
  obtain rfl:i=t.length:=by omega
  grind[a0F,a4l,b8F]
 |k+1,i,acc,h=>by
  have g:i<t.length:=by omega
  have f:decide ((i:Int)<3)=true:=by grind
  have p:l.length<1000000:=j;have d:(l.take n).length=n:=by simp_all
  have e:=c5K (n:=n) (i:=i) a b (by omega) (by omega);rw[a01 g,b8F,d]
  by_cases hp:0≤(n:Int)-lag-1+i
  have c:decide ((n:Int)-lag-1+i≥0)=true:=by simp_all
  simp only[hp,decide_true,cT];rw[c7J (show((n:Int)-lag-1+i).toNat<n by omega),a0G (s':=(l,(n:Int),lag,W (acc+W (t[i]*l.getD ((n:Int)-lag-1+i).toNat 0)),t,((i+1:Nat):Int),())) (by
   simp only[a4l,f,cT,a0B g,oB,e,c,b6W hp (show(n:Int)-lag-1+(i:Int)<(l.length:Int)by omega),a0C (show i<1000000 by omega)])]
  exact a9t m j o a b k (i+1) _ (by omega);have c:decide ((n:Int)-lag-1+i≥0)=false:=by simp_all
  simp[hp];rw[a0G (s':=(l,(n:Int),lag,acc,t,((i+1:Nat):Int),())) (by
   simp only[a4l,f,cT,a0B g,oB,e,c,cF,a0C (show i<1000000 by omega)])]
  exact a9t m j o a b k (i+1) _ (by omega)
theorem b5y{l t:List Int}{lag:Int}{n:Nat}(f:n≤l.length)(k:short l)(a:t.length=3)(h:2≤lag)(g:lag≤1024):
  a4D (l,(n:Int),lag,t)=some (a5S lag t (l.take n)):=by
 have:=a9t (t:=t) f k a h g 3 0 0 (by rfl)
 simp_all[a4D,a5S]
theorem c1p{out:List Int}(f:short out)(k:t.length=3)(h:2≤lag)(g:lag≤1024):a4D (out,(out.length:Int),lag,t)=some (a5S lag t out):=by
 simp_all[b5y]
theorem a8J{out t:List Int}{lag:Int}(d:short out)(l:t.length=3)(a:2≤lag)(b:lag≤1024):∀(k i:Nat)(acc:Int),i+k=3→
  x0r a3K (out,lag,acc,(i:Int),t,())=some (b8F out lag (t.drop i) i acc,())
 |0,i,acc,h=>by
  obtain rfl:i=t.length:=by omega
  grind[a0F,a3K,b8F]
 |k+1,i,acc,h=>by
  have f:i<t.length:=by omega
  have g:decide ((i:Int)<3)=true:=by grind
  have j:out.length<1000000:=d;have e:=c5K (i:=i) a b j (by omega);rw[a01 f,b8F]
  by_cases hp:0≤(out.length:Int)-lag-1+i
  have c:decide ((out.length:Int)-lag-1+i≥0)=true:=by simp_all
  simp only[hp,decide_true,cT];rw[a0G (s':=(out,lag,W (acc+W (t[i]*out.getD ((out.length:Int)-lag-1+i).toNat 0)),((i+1:Nat):Int),t,())) (by
   simp only[a3K,g,cT,a0B f,oB,e,c,b6W hp (show(out.length:Int)-lag-1+(i:Int)<(out.length:Int)by omega),a0C (show i<1000000 by omega)])]
  exact a8J d l a b k (i+1) _ (by omega);have c:decide ((out.length:Int)-lag-1+i≥0)=false:=by simp_all
  simp[hp];rw[a0G (s':=(out,lag,acc,((i+1:Nat):Int),t,())) (by
   simp only[a3K,g,cT,e,c,cF,a0C (show i<1000000 by omega)])]
  exact a8J d l a b k (i+1) _ (by omega)
theorem c0B{out:List Int}(f:short out)(k:t.length=3)(h:2≤lag)(g:lag≤1024):a8q (out,lag,t)=some (a5S lag t out):=by
 have:=a8J (out:=out) (t:=t) f k h g 3 0 0 (by rfl)
 simp_all[a8q,a5S]
def b2O(rest:List Int)(lag:Int)(t:List Int):Option (List Int):=bif rest.all a0A then a2T (a5S lag t) rest []else none
theorem c4d{rest:List Int}(d:a7d lag t=true)(e:t.length=3)(m:rest.length<100000):b2B (rest,lag,t)=some (a2A (b2O rest lag t)):=by
 have g:=d;simp only[a7d,bA,dT]at g;have k:short rest:=by unfold short;omega
 unfold b2B;simp only[b5V e,d,oB,bT,cF,b5u k,b2O];cases hw2:rest.all a0A with
 |false=>rfl
 |true=>
  have l:(0:Int)≤((rest.length:Nat):Int):=by omega
  simp[a0Q k]
  have:=a1m (f:=a8V) rest (fun i out=>(lag,rest,(rest.length:Int),(i:Int),out,t,())) (a8v (a5S lag t) (Sum.inr ((6:Int),([]:List Int),())))
   (fun i out=>out.length=i) (fun out=>Sum.inl (out,()))
   (fun i h out j=>by
    have b:i<1000000:=by omega
    have c:short out:=by unfold short;omega
    have hp:=c1p (out:=out) (t:=t) (lag:=lag) c e g.1 g.2.1;rw[j]at hp;simp only[a8V,dlt h,cT,a0B h,oB,hp,a8I,a8v];cases hb:a0A (W (rest[i]+a5S lag t out))with
    |true=>
     simp only[cT,bT,cF,a0Q (show out.length+1<1000000 by omega),a0C b];simp_all
    |false=>
     simp)
   (fun out _=>by simp[a8V]) (a:=[]) rfl
  simp[a7e]at this;rw[this];cases a2T (a5S lag t) rest []<;>rfl
theorem c1q{rest t:List Int}{lag:Int}(d:a7d lag t=true)(e:t.length=3)(l:rest.length<100000):a9h (rest,lag,t)=some (a2A (b2O rest lag t)):=by
 have g:=d;simp only[a7d,bA,dT]at g;have c:short rest:=by unfold short;omega
 unfold a9h;simp only[b6s e,d,oB,bT,cF,a1M c,b2O];cases hw2:rest.all a0A with
 |false=>rfl
 |true=>
  simp
  have:=a1m (f:=a6k) rest (fun i out=>(rest,lag,(i:Int),out,t,())) (a8v (a5S lag t) (Sum.inr ((6:Int),([]:List Int),())))
   (fun i out=>out.length=i) (fun out=>Sum.inl (out,()))
   (fun i h out j=>by
    have k:i<1000000:=by omega
    have b:short out:=by unfold short;omega
    simp only[a6k,dlt h,cT,a0B h,oB,c0B b e g.1 g.2.1,a2t,a8v];cases hb:a0A (W (rest[i]+a5S lag t out))with
    |true=>
     simp only[cT,bT,cF,a0Q (show out.length+1<1000000 by omega),a0C k];simp_all
    |false=>
     simp)
   (fun out _=>by simp[a6k]) (a:=[]) rfl
  simp[a7e]at this;rw[this];cases a2T (a5S lag t) rest []<;>rfl
def b6u{β:Type}(n:Int)(bad:β)(out:List Int)(x:Int):List Int ⊕ β:=bif a0A x&&a0A (z0g .i64 x n)then .inl (out++[z0g .i64 x n])else .inr bad
def upO(n:Int)(l:List Int):Option (List Int):=bif l.all (fun x=>a0A x&&a0A (z0g .i64 x n))then some (l.map fun x=>z0g .i64 x n)else none
theorem b5W{β:Type}(n:Int)(h:β)(g:List Int→β):∀(l out:List Int),a8a g (a2x (b6u n h) l out)=match upO n l with|some r=>g (out++r)|none=>h
 | [],out=>by simp[a2x,a8a,upO]
 |x::l,out=>by
  simp only[a2x,b6u,upO,a07];cases hx:(a0A x&&a0A (z0g .i64 x n))with
  |true=>
   simp only[cT,a40];rw[b5W n h g l _];simp only[upO];cases l.all (fun x=>a0A x&&a0A (z0g .i64 x n))with
   |true=>simp
   |false=>rfl
  |false=>rfl
theorem c4e(d:0≤n)(e:n≤30)(m:l.length<100000):a9D (l,n)=some (a2A (upO n l)):=by
 have c:short l:=by unfold short;omega
 have g:¬ n<0:=by omega
 have b:¬ n > 30:=by omega
 unfold a9D;simp[g,b]
 have:=a1m (f:=a8W) l (fun i out=>(n,l,(l.length:Int),(i:Int),out,())) (b6u n (Sum.inr ((6:Int),([]:List Int),())))
  (fun i out=>out.length=i) (fun out=>Sum.inl (out,()))
  (fun i h out j=>by
   have k:i<1000000:=by omega
   simp only[a8W,dlt h,cT,a0B h,oB,b6r,b6u,g,decide_false,cF];cases hb:a0A l[i]with
   |true=>
    cases hb2:a0A (z0g .i64 l[i] n)with
    |true=>
     simp only[cT,bT,cF,oB,g,decide_false,a0Q (show out.length+1<1000000 by omega),a0C k,a03];simp_all
    |false=>
     simp
   |false=>
    simp)
  (fun out _=>by simp[a8W]) (a:=[]) rfl
 simp[b5W]at this;rw[this];cases upO n l<;>rfl
theorem c7K(d:0≤n)(j:n≤30)(o:l.length<100000):b8Z (l,n)=some (a2A (upO n l)):=by
 have e:short l:=by unfold short;omega
 have g:¬ n<0:=by omega
 have c:¬ n > 30:=by omega
 have b:=b9F d (by omega);unfold b8Z;simp[g,c]
 have:=a1m (f:=b4d) l (fun i out=>(l,n,(i:Int),out,())) (b6u n (Sum.inr ((6:Int),([]:List Int),())))
  (fun i out=>out.length=i) (fun out=>Sum.inl (out,()))
  (fun i h out m=>by
   have k:i<1000000:=by omega
   simp only[b4d,dlt h,cT,a0B h,oB,a2t,b6u,b,g,decide_false,cF];cases hb:a0A l[i]with
   |true=>
    cases hb2:a0A (z0g .i64 l[i] n)with
    |true=>
     simp only[cT,bT,cF,oB,b,g,decide_false,a0B h,a0Q (show out.length+1<1000000 by omega),a0C k,a03];simp_all
    |false=>
     simp
   |false=>
    simp)
  (fun out _=>by simp[b4d]) (a:=[]) rfl
 simp[b5W]at this;rw[this];cases upO n l<;>rfl
@[reducible] def Fil:Type:=Int×((List Int)×((List Int)×Unit))
variable {f:Fil}
def a1q(x:Int):Int:=v0a (u0z x (-1073741824)) 1073741823
def c1r(x:Int):Int:=v0a (u0z x (-1048576)) 1048576
theorem b8G(x:Int):-1073741824≤a1q x∧a1q x≤1073741823:=by
 grind[a1q,c2s,c5J]
theorem c4f(x:Int):-1048576≤c1r x∧c1r x≤1048576:=by
 grind[c1r,c2s,c5J]
def c2u:List Int→List Int→Int→Int
 |a::w,b::h,acc=>c2u w h (W (acc+W (a*b)))
 |_,_,acc=>acc
def a0U(f:Fil):Int:=a1q (z0h .i64 (c2u f.2.1 f.2.2.1 0) 16)
structure FilOk (f:Fil):Prop where
 len:f.2.1.length=f.2.2.1.length
 pos:1≤f.2.1.length
 most:f.2.1.length≤32
 rate:0≤f.1∧f.1≤8
 small:∀x∈f.2.1,-1048576≤x∧x≤1048576
theorem b0G(h:i<l.length):a91 l i 0=l[i]:=by
 simp_all
theorem b4L{f:Fil}(c:FilOk f):∀(k i:Nat)(acc:Int),i+k=f.2.1.length→
  x0r a3e (acc,(f.2.1.length:Int),(i:Int),f,())=some (c2u (f.2.1.drop i) (f.2.2.1.drop i) acc,f,())
 |0,i,acc,h=>by
  obtain rfl:i=f.2.1.length:=by omega
  rw[a43,a0F (b:=(acc,f,())) (by simp[a3e])];rfl
 |k+1,i,acc,h=>by
  have g:i<f.2.1.length:=by omega
  have a:i<f.2.2.1.length:=by rw[←c.len];omega
  have e:=c.most;rw[a01 g,a01 a,c2u];have d:decide ((0:Int)≤(i:Int))=true:=by simp
  rw[a0G (s':=(W (acc+W (f.2.1[i]*f.2.2.1[i])),(f.2.1.length:Int),((i+1:Nat):Int),f,())) (by
   simp only[a3e,dlt g,dlt a,d,cT,a03,tN,b0G g,b0G a,a0C (show i<1000000 by omega)])]
  exact b4L c k (i+1) _ (by omega)
theorem a6F(h:FilOk f):a1X f=some (a0U f,f):=by
 have:=b4L h f.2.1.length 0 0 (by omega)
 simp at this;unfold a1X;simp only[this,oB,a5z];rfl
theorem b6v{f:Fil}(c:FilOk f):∀(k i:Nat)(acc:Int),i+k=f.2.1.length→
  x0r a3W (acc,(i:Int),f,())=some (c2u (f.2.1.drop i) (f.2.2.1.drop i) acc,f,())
 |0,i,acc,h=>by
  obtain rfl:i=f.2.1.length:=by omega
  rw[a43,a0F (b:=(acc,f,())) (by simp[a3W])];rfl
 |k+1,i,acc,h=>by
  have g:i<f.2.1.length:=by omega
  have a:i<f.2.2.1.length:=by rw[←c.len];omega
  have e:=c.most;rw[a01 g,a01 a,c2u];have d:decide ((0:Int)≤(i:Int))=true:=by simp
  rw[a0G (s':=(W (acc+W (f.2.1[i]*f.2.2.1[i])),((i+1:Nat):Int),f,())) (by
   simp only[a3W,dlt g,dlt a,d,cT,a03,tN,b0G g,b0G a,a0C (show i<1000000 by omega)])]
  exact b6v c k (i+1) _ (by omega)
theorem b4M{f:Fil}(h:FilOk f):a3L f=some (a0U f,f):=by
 have:=b6v h f.2.1.length 0 0 (by omega)
 simp at this;unfold a3L;simp only[this,oB,b1r];rfl
def a6q(x:Int):Int:=if 0<x then 1 else if x<0 then -1 else 0
def b2P(r:Int)(x g:Int):Int:=a6q (x-g)*2^r.toNat
def b3F(st:Int)(w h:Int):Int:=c1r (W (w+a6q h*st))
def b0C(f:Fil)(x:Int):Fil:=
 (f.1,a28 (b3F (b2P f.1 (a1q x) (a0U f))) f.2.1 f.2.2.1,a1q x::f.2.2.1.take (f.2.2.1.length-1),f.2.2.2)
theorem c0C(k:FilOk f)(x:Int):FilOk (b0C f x):=by
 obtain⟨a,b,c,g,d⟩:=k;have e:(a28 (b3F (b2P f.1 (a1q x) (a0U f))) f.2.1 f.2.2.1).length=f.2.1.length:=by simp_all
 refine⟨?_,?_,?_,g,?_⟩;show(a28 _ _ _).length=(a1q x::f.2.2.1.take (f.2.2.1.length-1)).length;simp_all;show 1≤(a28 _ _ _).length;omega;show(a28 _ _ _).length≤32;omega;intro y h;have h:y∈a28 (b3F (b2P f.1 (a1q x) (a0U f))) f.2.1 f.2.2.1:=h;obtain⟨i,j,rfl⟩:=List.mem_iff_getElem.1 h
 simp
 exact c4f _
theorem a7T(x:Int):(0<x∧a6q x=1)∨(x<0∧a6q x=-1)∨(x=0∧a6q x=0):=by
 unfold a6q;omega
theorem c0D{r:Int}(h:0≤r∧r≤8):(2:Int)^r.toNat≤256∧1≤(2:Int)^r.toNat:=by
 have:r.toNat=0∨r.toNat=1∨r.toNat=2∨r.toNat=3∨r.toNat=4∨r.toNat=5∨r.toNat=6∨r.toNat=7∨r.toNat=8:=by omega
 rcases this with e|e|e|e|e|e|e|e|e<;>rw[e]<;>decide
theorem c2Q{r:Int}(h:0≤r∧r≤8)(g:-1≤x∧x≤1):z0g .i64 x r=x*2^r.toNat:=by
 have hp:=c0D h;have hb:min r.toNat 64=r.toNat:=by omega
 unfold z0g;show wrap .i64 (x*2^(min r.toNat 64))=_;rw[hb]
 have:x=-1∨x=0∨x=1:=by omega
 rcases this with rfl|rfl|rfl
 all_goals grind[a0D]
theorem c3w(a:FilOk f)(x:Int):
  (bif decide (a1q x > a0U f)then bif decide (f.1<0)then(none:Option (Int×Int×Fil×Unit))else some (a1q x,z0g .i64 (1:Int) f.1,f,())
   else bif decide (a1q x<a0U f)then bif decide (f.1<0)then none else some (a1q x,wrap .i64 (0-(z0g .i64 (1:Int) f.1)),f,())
   else some (a1q x,(0:Int),f,()))=some (a1q x,b2P f.1 (a1q x) (a0U f),f,()):=by
 have d:¬ f.1<0:=by have:=a.rate;omega
 have hp:=c0D a.rate;have b:=c2Q a.rate (x:=1) (by omega);rw[Int.one_mul]at b;rcases a7T (a1q x-a0U f)with⟨c,h⟩|⟨c,h⟩|⟨c,h⟩;have g:a1q x > a0U f:=by omega
 simp only[g,d,decide_true,decide_false,cT,cF,b2P,h,Int.one_mul,b];have g:¬ a1q x > a0U f:=by omega
 have k:a1q x<a0U f:=by omega
 simp only[g,k,d,decide_true,decide_false,cT,cF,b2P,h,b]
 grind[a0D]
 have g:¬ a1q x > a0U f:=by omega
 have k:¬ a1q x<a0U f:=by omega
 simp only[g,k,decide_false,cF,b2P,h,Int.zero_mul]
theorem c4g{z:List Int}(f:i<l.length)(k:z.length=l.length):(z.take i++l.drop i).set i (z[i]'(by omega))=z.take (i+1)++l.drop (i+1):=by
 have h:(z.take i).length=i:=by grind
 have g:z.take (i+1)=z.take i++[z[i]'(by omega)]:=by simp
 rw[a79 _ _ (by omega),h,a73,a01 f,a64,g,aA];rfl
theorem c8M{z:List Int}(h:i<l.length)(g:z.length=l.length):a91 (z.take i++l.drop i) i 0=l[i]:=by
 grind
theorem c7L(g:FilOk f)(h:i<f.2.1.length):-1048576≤f.2.1[i]∧f.2.1[i]≤1048576:=g.small _ (a04 h)
theorem c1s(n:FilOk f){x1 st:Int}(u:-256≤st∧st≤256):
  x0r a2s (x1,st,(f.2.2.1.length:Int),(0:Int),f,())=some (x1,(f.1,a28 (b3F st) f.2.1 f.2.2.1,f.2.2),()):=by
 obtain⟨z,w⟩:∃z,a28 (b3F st) f.2.1 f.2.2.1=z:=⟨_,rfl⟩;have q:=n.len;have d:z.length=f.2.1.length:=by grind
 have v:=n.most
 have:=a1y (f:=a2s) (fun i=>(x1,st,(f.2.2.1.length:Int),(i:Int),(f.1,z.take i++f.2.1.drop i,f.2.2),()))
  f.2.2.1.length (b:=(x1,(f.1,z,f.2.2),())) (fun i p=>by
   have k:i<f.2.1.length:=by omega
   have j:decide ((0:Int)≤(i:Int))=true:=by simp
   have s:(z.take i++f.2.1.drop i).length=f.2.1.length:=by grind
   have g:decide ((i:Int)<((z.take i++f.2.1.drop i).length:Int))=true:=by simp_all
   have o:z[i]'(by omega)=b3F st f.2.1[i] f.2.2.1[i]:=by grind
   have t:=c7L n k;have h:=c4g k d;rw[o]at h;simp only[a2s,dlt p,j,g,cT,a03,tN,b0G p,c8M k d];rcases a7T f.2.2.1[i]with⟨m,a⟩|⟨m,a⟩|⟨m,a⟩;have c:f.2.2.1[i] > 0:=m;simp[b3F,a]at h;simp only[c,decide_true,cT,oB,j,g,a03,tN,a0C (show i<1000000 by omega)];exact congrArg (fun l=>some (Sum.inl (x1,st,(f.2.2.1.length:Int),((i+1:Nat):Int),(f.1,l,f.2.2),()))) h;have c:¬ f.2.2.1[i] > 0:=by omega
   have e:f.2.1[i]+-1*st=f.2.1[i]-st:=by omega
   simp only[b3F,a,e]at h;simp only[c,m,decide_true,decide_false,cT,cF,oB,j,g,a03,tN,a0C (show i<1000000 by omega)];exact congrArg (fun l=>some (Sum.inl (x1,st,(f.2.2.1.length:Int),((i+1:Nat):Int),(f.1,l,f.2.2),()))) h;have c:¬ f.2.2.1[i] > 0:=by omega
   have r:¬ f.2.2.1[i]<0:=by omega
   have e:W (f.2.1[i]+0*st)=f.2.1[i]:=by rw[Int.zero_mul,Int.add_zero];exact a0D (by omega)
   simp only[b3F,a,e]at h;simp only[c,r,decide_false,cF,oB,j,g,cT,a03,tN,a0C (show i<1000000 by omega)];exact congrArg (fun l=>some (Sum.inl (x1,st,(f.2.2.1.length:Int),((i+1:Nat):Int),(f.1,l,f.2.2),()))) h)
  (by
   simp_all[a26,a2s])
 simp_all
theorem c5h(k:FilOk f)(x g:Int):-256≤b2P f.1 x g∧b2P f.1 x g≤256:=by
 have hp:=c0D k.rate;unfold b2P;rcases a7T (x-g)with⟨-,h⟩|⟨-,h⟩|⟨-,h⟩<;>rw[h]<;>omega
theorem b7S(h:FilOk f)(x:Int):a3j (f,x)=some (b0C f x):=by
 unfold a3j;have d:=c3w h x;simp only[a5z,oB,a6F h];have g:(bif decide (v0a (u0z x (-1073741824)) 1073741823 > a0U f)then bif decide (f.1<0)then(none:Option (Int×Int×Fil×Unit))else some (v0a (u0z x (-1073741824)) 1073741823,z0g .i64 (1:Int) f.1,f,())
   else bif decide (v0a (u0z x (-1073741824)) 1073741823<a0U f)then bif decide (f.1<0)then none else some (v0a (u0z x (-1073741824)) 1073741823,wrap .i64 (0-(z0g .i64 (1:Int) f.1)),f,())
   else some (v0a (u0z x (-1073741824)) 1073741823,(0:Int),f,()))=_:=d
 rw[g];simp only[oB,c1s h (c5h h _ _)];have i:f.2.2.1.length≥1:=by have:=h.pos;have:=h.len;omega
 have b:decide ((1:Int)≤((f.2.2.1.length:Nat):Int))=true:=by grind
 have e:o0p f.2.2.1 1 (f.2.2.1.length-1) f.2.2.1=f.2.2.1.take 1++f.2.2.1.take (f.2.2.1.length-1):=by
  simp_all[o0p]
 have j:(f.2.2.1.take 1++f.2.2.1.take (f.2.2.1.length-1)).length=f.2.2.1.length:=by simp_all
 have c:decide ((0:Int)<(((f.2.2.1.take 1++f.2.2.1.take (f.2.2.1.length-1)).length:Nat):Int))=true:=by grind
 simp only[b,cT,e,c];congr 1;have k:(f.2.2.1.take 1++f.2.2.1.take (f.2.2.1.length-1)).set 0 (a1q x)=a1q x::f.2.2.1.take (f.2.2.1.length-1):=by
  cases hc:f.2.2.1 with
  |nil=>simp_all
  |cons a l=>simp
 rw[k];rfl
theorem b9G(x:Int):b1s x=some (a6q x):=by
 grind[b1s,a7T]
theorem c3x(k:FilOk f){x1 s:Int}(w:-1≤s∧s≤1):
  x0r a2S (x1,s,(0:Int),([]:List Int),([]:List Int),f,())=some (x1,a28 (b3F (s*2^f.1.toNat)) f.2.1 f.2.2.1,([]:List Int),f,()):=by
 obtain⟨z,x⟩:∃z,a28 (b3F (s*2^f.1.toNat)) f.2.1 f.2.2.1=z:=⟨_,rfl⟩;have j:=k.len;have u:z.length=f.2.1.length:=by grind
 have v:=k.most;have r:=k.rate;have t:wrap .u64 f.1=f.1:=a0N (by omega);have a:¬ f.1<0:=by omega
 have:=a1y (f:=a2S) (fun i=>(x1,s,(i:Int),z.take i,([]:List Int),f,()))
  f.2.1.length (b:=(x1,z,([]:List Int),f,())) (fun i e=>by
   have h:i<f.2.2.1.length:=by omega
   have p:decide ((0:Int)≤(i:Int))=true:=by simp
   have d:z[i]'(by omega)=b3F (s*2^f.1.toNat) f.2.1[i] f.2.2.1[i]:=by grind
   have c:-1≤s*a6q f.2.2.1[i]∧s*a6q f.2.2.1[i]≤1:=by
    rcases a7T f.2.2.1[i]with⟨-,g⟩|⟨-,g⟩|⟨-,g⟩<;>rw[g]<;>omega
   have l:wrap .i64 (s*a6q f.2.2.1[i])=s*a6q f.2.2.1[i]:=a0D (by omega);have m:=c2Q r c;have n:v0a (u0z (wrap .i64 (f.2.1[i]+s*a6q f.2.2.1[i]*2^f.1.toNat)) (-1048576)) 1048576=z[i]'(by omega):=by
    rw[d,show s*a6q f.2.2.1[i]*2^f.1.toNat=a6q f.2.2.1[i]*(s*2^f.1.toNat)by grind];rfl
   have o:z.take i++[z[i]'(by omega)]=z.take (i+1):=by simp
   have q:(z.take i).length+1<1000000:=by grind
   simp only[a2S,dlt e,dlt h,p,cT,a03,tN,b0G e,b0G h,b9G,oB,t,a,decide_false,cF,a0Q q,l,m,n,a06,o,a0C (show i<1000000 by omega)])
  (by
   simp_all[a26,a2S])
 simp_all
theorem c4h(f:Fil):-1073741824≤a0U f∧a0U f≤1073741823:=b8G _
theorem c5i(h:FilOk f)(x:Int):a6l (f,x)=some (b0C f x):=by
 unfold a6l;have m:=b8G x;have n:=c4h f;have b:wrap .i64 (a1q x-a0U f)=a1q x-a0U f:=a0D (by omega);have l:-1≤a6q (a1q x-a0U f)∧a6q (a1q x-a0U f)≤1:=by
  rcases a7T (a1q x-a0U f)with⟨-,g⟩|⟨-,g⟩|⟨-,g⟩<;>rw[g]<;>omega
 have d:b1r x=some (a1q x):=rfl;have o:=h.most;have k:=h.len;have a:=h.pos;have c:wrap .i64 (((f.2.2.1.length:Nat):Int)-1)=((f.2.2.1.length-1:Nat):Int):=by grind[a0D]
 have e:decide ((0:Int)≤((f.2.2.1.length-1:Nat):Int))=true:=by simp
 have i:decide (((f.2.2.1.length-1:Nat):Int)≤((f.2.2.1.length:Nat):Int))=true:=by simp
 have j:([a1q x]:List Int).length+(f.2.2.1.take (f.2.2.1.length-1)).length<1000000:=by grind
 simp only[d,oB,b4M h,b,b9G,c3x h l,a48,a0Q (show 0+1<1000000 by omega),cT,c,e,i,a03,tN,a17,a06,a19,a0Q j];rfl
@[reducible] def Stg:Type:=Int×(Int×Unit)
variable {st:List Stg}
theorem a8K{l:List Int}(h:short l):a1f l=some l:=by
 have g:lim (0+l.length)=true:=a0Q (by unfold short at h;omega);simp_all[a1f,w0g]
def a9u(s:Stg):Fil:=(s.2.1,a00 s.1.toNat 0,a00 s.1.toNat 0,())
theorem c2v{s:Stg}(h:stageB s=true):FilOk (a9u s):=by
 simp[stageB]at h;refine⟨by rfl,by simp[a9u];omega,by simp[a9u];omega,⟨h.2.2.1,h.2.2.2⟩,fun x g=>?_⟩;simp_all[a9u]
theorem b4N{s:Stg}(h:stageB s=true):a9A s=some (a9u s,0):=by
 have g:=h;simp[stageB]at g;unfold a9A;have f:decide ((0:Int)≤s.1)=true:=by grind
 have k:decide (s.1≤s.1)=true:=by simp
 have a:lim s.1.toNat=true:=a0Q (by omega);simp only[b2e,h,oB,bT,cF,f,k,a,a03,cT];rfl
theorem b4O{s:Stg}(h:stageB s=true):a8r s=some (a9u s,0):=by
 have g:=h;simp[stageB]at g;unfold a8r;have f:decide ((0:Int)≤s.1)=true:=by grind
 have k:decide (s.1≤s.1)=true:=by simp
 have a:lim s.1.toNat=true:=a0Q (by omega);simp only[b1y,h,oB,bT,cF,f,k,a,a03,cT];rfl
def stO:List Int→List Int→Fil→Option (List Int)
 | [],done,_=>some done
 |r::rs,done,f=>bif a0A (W (a0U f+r))then stO rs (done++[W (a0U f+r)]) (b0C f (W (a0U f+r)))else none
theorem b4j:∀(l done:List Int)(f:Fil){r},stO l done f=some r→r.length=done.length+l.length
 | [],done,f,r,h=>by simp_all[stO]
 |x::l,done,f,r,h=>by
  simp[stO]at h;cases hw:a0A (W (a0U f+x))with
  |true=>rw[hw]at h;rw[b4j l _ _ h];grind
  |false=>simp_all
theorem b3g{done:List Int}(g:done.length=i)(h:i<row.length):a91 (done++row.drop i) i 0=row[i]:=by
 grind
theorem c0E{done:List Int}(g:done.length=i)(h:i<row.length)(y:Int):(done++row.drop i).set i y=(done++[y])++row.drop (i+1):=by
 rw[a79 _ _ (by omega),g,a73,a01 h,a64,aA];rfl
theorem b5z{row b4:List Int}{b5:Int}(e:short row):∀(k i:Nat)(done:List Int)(f:Fil),i+k=row.length→done.length=i→FilOk f→
  ∃z,x0r a5C ((row.length:Int),(i:Int),b4,b5,done++row.drop i,f,())=some z∧
   match stO (row.drop i) done f with
   |some r=>z=.inl (b4,b5,r,())
   |none=>∃q,z=.inr (([]:List Int),(6:Int),q,())
 |0,i,done,f,h,hd,hf=>by
  obtain rfl:i=row.length:=by omega
  rw[a43,a49];exact⟨_,a0F (b:=Sum.inl (b4,b5,done,())) (by simp[a5C]),rfl⟩
 |k+1,i,done,f,h,hd,hf=>by
  have g:i<row.length:=by omega
  have j:row.length<1000000:=e;have c:decide ((0:Int)≤(i:Int))=true:=by simp
  have l:(done++row.drop i).length=row.length:=by grind
  have d:decide ((i:Int)<(((done++row.drop i).length:Nat):Int))=true:=by simp_all
  have a:stO (row.drop i) done f=bif a0A (W (a0U f+row[i]))then stO (row.drop (i+1)) (done++[W (a0U f+row[i])]) (b0C f (W (a0U f+row[i])))else none:=by
   rw[a01 g];rfl
  rw[a];cases hw:a0A (W (a0U f+row[i]))with
  |true=>
   rw[a0G (s':=((row.length:Int),((i+1:Nat):Int),b4,b5,(done++[W (a0U f+row[i])])++row.drop (i+1),b0C f (W (a0U f+row[i])),())) (by
    simp only[a5C,dlt g,c,d,cT,a03,a6F hf,oB,tN,b3g hd g,a5s,hw,bT,cF,b7S hf,c0E hd g,a0C (show i<1000000 by omega)])]
   exact b5z e k (i+1) _ _ (by omega) (by simp_all) (c0C hf _)
  |false=>
   exact⟨_,a0F (b:=Sum.inr (([]:List Int),(6:Int),done++row.drop i,())) (by
    simp only[a5C,dlt g,c,d,cT,a03,a6F hf,oB,tN,b3g hd g,a5s,hw,a32]),_,rfl⟩
theorem b7T{row:List Int}{st:List Stg}{n:Int}(c:short row):∀(k i:Nat)(done:List Int)(f:Fil),i+k=row.length→done.length=i→FilOk f→
  x0r a3M (st,n,(i:Int),done++row.drop i,f,())=some (match stO (row.drop i) done f with
   |some r=>.inl (st,n,r,())
   |none=>.inr ((6:Int),([]:List Int),()))
 |0,i,done,f,h,hd,hf=>by
  obtain rfl:i=row.length:=by omega
  rw[a43,a49];have l:done.length=row.length:=hd;exact a0F (b:=Sum.inl (st,n,done,())) (by simp_all[a3M])
 |k+1,i,done,f,h,hd,hf=>by
  have g:i<row.length:=by omega
  have m:row.length<1000000:=c;have d:decide ((0:Int)≤(i:Int))=true:=by simp
  have l:(done++row.drop i).length=row.length:=by grind
  have e:decide ((i:Int)<(((done++row.drop i).length:Nat):Int))=true:=by simp_all
  have a:stO (row.drop i) done f=bif a0A (W (a0U f+row[i]))then stO (row.drop (i+1)) (done++[W (a0U f+row[i])]) (b0C f (W (a0U f+row[i])))else none:=by
   rw[a01 g];rfl
  have j:wrap .i64 (row[i]+a0U f)=W (a0U f+row[i]):=by grind
  rw[a];cases hw:a0A (W (a0U f+row[i]))with
  |true=>
   rw[a0G (s':=(st,n,((i+1:Nat):Int),(done++[W (a0U f+row[i])])++row.drop (i+1),b0C f (W (a0U f+row[i])),())) (by
    simp only[a3M,d,e,cT,a03,b4M hf,oB,tN,b3g hd g,j,a2t,hw,bT,cF,c5i hf,c0E hd g,a0C (show i<1000000 by omega)])]
   exact b7T c k (i+1) _ _ (by omega) (by simp_all) (c0C hf _)
  |false=>
   exact a0F (by
    simp_all[a3M,b4M,a2t])
def lO:List Stg→List Int→Option (List Int)
 | [],row=>some row
 |s::r,row=>match stO row [] (a9u s)with
  |some row'=>lO r row'
  |none=>none
theorem c5j{s:Stg}{b4:List Int}(h:stageB s=true)(b:short row):
  ∃z,a8j k s (st,b4,(0:Int),row,())=some z∧match stO row [] (a9u s)with
   |some r=>z=.inl (st,b4,(0:Int),r,())
   |none=>∃q,z=.inr (.ret,st,([]:List Int),(6:Int),q,()):=by
 obtain⟨z,g,f⟩:=b5z (b4:=b4) (b5:=0) b row.length 0 [] (a9u s) (by omega) rfl (c2v h);simp at g f;unfold a8j;have a:((0:Int) != 0)=false:=rfl;simp[b4N h,g];cases hst:stO row [] (a9u s)with
 |some r=>
  simp_all
 |none=>
  grind
theorem b9H{st l:List Stg}{b4:List Int}(f:∀s∈l,stageB s=true):∀(n:Nat)(row:List Int),n≤l.length→short row→
  ∃z,k0w a8j l n (st,b4,(0:Int),row,())=some z∧match lO (l.take n).reverse row with
   |some r=>z=.inl (st,b4,(0:Int),r,())
   |none=>∃q,z=.inr (.ret,st,([]:List Int),(6:Int),q,())
 |0,row,_,_=>⟨_,rfl,rfl⟩
 |n+1,row,hn,hs=>by
  have h:n<l.length:=by omega
  obtain⟨z,a,g⟩:=c5j (st:=st) (k:=(n:Int)) (b4:=b4) (f _ (a04 h)) hs;have b:(l.take (n+1)).reverse=l[n]::(l.take n).reverse:=by simp
  simp[k0w,lG h,a,b,lO];cases hst:stO row [] (a9u l[n])with
  |some r=>
   rw[hst]at g;simp at g;subst g;exact b9H f n r (by omega) (by have:=b4j _ _ _ hst;unfold short at hs⊢;simp_all)
  |none=>
   grind
def a9G(rest:List Int)(st:List Stg):Option (List Int):=bif rest.all a0A then lO st.reverse rest else none
theorem c3y{rest:List Int}(a:a4Y st=true)(c:rest.length<100000):b1i (rest,st)=some (a2A (a9G rest st)):=by
 have f:=a;simp only[a4Y,bA,dT]at f;have k:short st:=by unfold short;omega
 have h:short rest:=by unfold short;omega
 unfold b1i;simp only[b4K k,a,oB,bT,cF,b4J h,a9G];cases hw:rest.all a0A with
 |false=>rfl
 |true=>
  obtain⟨z,b,g⟩:=b9H (st:=st) (b4:=[]) (lA.1 f.2) st.length rest (a36 _) h;rw[a21]at g;simp[a8K h,a0Q k,b];cases hst:lO st.reverse rest with
  |some r=>
   rw[hst]at g;simp at g;subst g;rfl
  |none=>
   rw[hst]at g;obtain⟨q,rfl⟩:=g;rfl
theorem c1t{l:List Stg}(a:∀s∈l,stageB s=true)(g:l.length≤3):∀(n:Nat)(row:List Int),n≤l.length→short row→
  x0r a5N (l,(n:Int)-1,row,())=some (match lO (l.take n).reverse row with
   |some r=>.inl (r,())
   |none=>.inr ((6:Int),([]:List Int),()))
 |0,row,_,_=>a0F (by rfl)
 |n+1,row,hn,hs=>by
  have f:n<l.length:=by omega
  have h:=a _ (a04 f);have k:=b7T (st:=l) (n:=(n:Int)) hs row.length 0 [] (a9u l[n]) (by omega) rfl (c2v h);simp at k;have c:(l.take (n+1)).reverse=l[n]::(l.take n).reverse:=by simp
  have b:((n+1:Nat):Int)-1=(n:Int):=by omega
  have e:decide ((n:Int)≥0)=true:=by simp
  have d:wrap .i64 ((n:Int)-1)=(n:Int)-1:=a0D (by omega);rw[c,b];simp[lO];cases hst:stO row [] (a9u l[n])with
  |some r=>
   rw[hst]at k;rw[a0G (s':=(l,(n:Int)-1,r,())) (by simp_all[a5N,a0B,b4O])];exact c1t a g n r (by omega) (by have:=b4j _ _ _ hst;unfold short at hs⊢;simp_all)
  |none=>
   simp_all[a0F,a5N,a0B,b4O]
theorem c0F{rest:List Int}{st:List Stg}(a:a4Y st=true)(c:rest.length<100000):a8s (rest,st)=some (a2A (a9G rest st)):=by
 have h:=a;simp only[a4Y,bA,dT]at h;have f:short st:=by unfold short;omega
 have g:short rest:=by unfold short;omega
 unfold a8s;simp only[b5w f,a,oB,bT,cF,a1M g,a9G];cases hw:rest.all a0A with
 |false=>rfl
 |true=>
  have k:=c1t (lA.1 h.2) h.1 st.length rest (a36 _) g;rw[a21]at k;have b:wrap .i64 (((st.length:Nat):Int)-1)=((st.length:Nat):Int)-1:=a0D (by omega);simp only[bT,cF,cT,a0Q (show 0+rest.length<1000000 by omega),b,a06,a19,k,oB];cases lO st.reverse rest<;>rfl
def a4f(n warm:Int):Bool:=decide (1≤n)&&(decide (n≤4096)&&(decide (0≤warm)&&decide (warm≤n)))
theorem b4P(n warm:Int):a7Q (n,warm)=some (a4f n warm):=by
 grind[a7Q,a4f]
theorem c6Q(n warm:Int):b6Q (n,warm)=some (a4f n warm):=by
 grind[b6Q,a4f]
theorem c8N(h:o≤8):1≤2^o∧2^o≤256:=by
 have:o=0∨o=1∨o=2∨o=3∨o=4∨o=5∨o=6∨o=7∨o=8:=by omega
 grind
theorem b6X(h:o≤64):z0h .i64 (N:Int) (o:Int)=((N / 2^o:Nat):Int):=by
 unfold z0h;show a85 (N:Int) (2^(min (o:Int).toNat 64))=_
 grind
theorem b6Y(h:o≤64)(g:N*2^o<9223372036854775808):z0g .i64 (N:Int) (o:Int)=((N*2^o:Nat):Int):=by
 unfold z0g;show wrap .i64 ((N:Int)*2^(min (o:Int).toNat 64))=_
 grind[a0D]
def b1A(o N:Nat)(warm:Int):List Int:=
 if N%2^o=0∧warm≤((N / 2^o:Nat):Int)then(((N / 2^o:Nat):Int)-warm)::a00 (2^o-1) ((N / 2^o:Nat):Int)else[]
def a1t(order n warm:Int):List Int:=bif a4f n warm&&(decide (0≤order)&&decide (order≤8))then b1A order.toNat n.toNat warm else[]
theorem a1Z(order n warm:Int):a2Z (order,n,warm)=some (a1t order n warm):=by
 unfold a2Z a1t;simp only[b4P,oB];cases hr:a4f n warm with
 |false=>rfl
 |true=>
  simp[a4f]at hr;simp only[bT,cF,a40]
  by_cases h1:order<0
  grind
  by_cases h2:order > 8
  grind
  obtain⟨o,rfl⟩:=a02 (show 0≤order by omega);obtain⟨N,rfl⟩:=a02 (show 0≤n by omega);have p:o≤8:=by omega
  have q:N≤4096:=by omega
  have hp:=c8N p;have m:N / 2^o*2^o≤N:=a84 N _;have l:(0:Int)≤(o:Int):=by omega
  have g8:(o:Int)≤8:=by omega
  simp only[h1,h2,l,g8,decide_true,decide_false,cF,cT,a03,oB,b6X (N:=N) (show o≤64 by omega),b6Y (N:=N / 2^o) (show o≤64 by omega) (by omega),tN];have g:=a76 N (2^o);rw[a74]at g
  by_cases hm:N%2^o=0
  have k:(((N / 2^o*2^o:Nat):Int) != (N:Int))=false:=by simp_all
  by_cases hw:warm≤((N / 2^o:Nat):Int)
  have c:decide (((N / 2^o:Nat):Int)<warm)=false:=decide_eq_false (b05.2 hw);have e:wrap .i64 (((N / 2^o:Nat):Int)-warm)=((N / 2^o:Nat):Int)-warm:=a0D (by have:=a20 N (2^o);omega);simp only[k,c,e,cF,oB,b1A,hm,hw,and_self,if_true];have d:z0g .i64 (1:Int) (o:Int)=((2^o:Nat):Int):=by have:=b6Y (N:=1) (show o≤64 by omega) (by omega);simp_all
  have:=a1y (f:=a6U) (fun i=>((o:Int),((N / 2^o:Nat):Int),(((N / 2^o:Nat):Int)-warm)::a00 i ((N / 2^o:Nat):Int),())) (2^o-1)
   (b:=((((N / 2^o:Nat):Int)-warm)::a00 (2^o-1) ((N / 2^o:Nat):Int),())) (fun i r=>by
    have a:decide ((((((N / 2^o:Nat):Int)-warm)::a00 i ((N / 2^o:Nat):Int)).length:Int)<((2^o:Nat):Int))=true:=by
     grind
    have h:lim (((((N / 2^o:Nat):Int)-warm)::a00 i ((N / 2^o:Nat):Int)).length+1)=true:=a0Q (by grind);have j:a00 i ((N / 2^o:Nat):Int)++[((N / 2^o:Nat):Int)]=a00 (i+1) ((N / 2^o:Nat):Int):=by grind[a41]
    simp only[a6U,h1,decide_false,cF,d,a,cT,h,a06,a94,j])
   (by
    have a:decide ((((((N / 2^o:Nat):Int)-warm)::a00 (2^o-1) ((N / 2^o:Nat):Int)).length:Int)<((2^o:Nat):Int))=false:=by
     simp_all
    simp only[a6U,h1,decide_false,cF,d,a])
  simp_all;have c:decide (((N / 2^o:Nat):Int)<warm)=true:=decide_eq_true (Int.not_le.1 hw);simp_all[b1A];have k:(((N / 2^o*2^o:Nat):Int) != (N:Int))=true:=by grind
  simp only[k,cT,oB,b1A,hm,false_and,if_false]
theorem a9v(order n warm:Int):a3V (order,n,warm)=some (a1t order n warm):=by
 unfold a3V a1t;simp only[c6Q,oB];cases hr:a4f n warm with
 |false=>rfl
 |true=>
  simp[a4f]at hr;simp only[bT,cF,a40]
  by_cases h1:order<0
  grind
  by_cases h2:order > 8
  grind
  obtain⟨o,rfl⟩:=a02 (show 0≤order by omega);obtain⟨N,rfl⟩:=a02 (show 0≤n by omega);have l:o≤8:=by omega
  have s:N≤4096:=by omega
  have hp:=c8N l;have j:(0:Int)≤(o:Int):=by omega
  have g8:(o:Int)≤8:=by omega
  have c:wrap .u64 (o:Int)=(o:Int):=a0N (by omega);have a:z0g .i64 (1:Int) (o:Int)=((2^o:Nat):Int):=by have:=b6Y (N:=1) (show o≤64 by omega) (by omega);simp_all
  have p:(((2^o:Nat):Int)==0)=false:=by grind
  have m:a59 (N:Int) ((2^o:Nat):Int)=((N%2^o:Nat):Int):=by rfl
  simp only[h1,h2,j,g8,decide_true,decide_false,cF,cT,a03,c,a,p,m,b6X (N:=N) (show o≤64 by omega),tN]
  by_cases hm:N%2^o=0
  have g:(((0:Nat):Int) != 0)=false:=rfl
  by_cases hw:warm≤((N / 2^o:Nat):Int)
  have d:decide (((N / 2^o:Nat):Int)<warm)=false:=decide_eq_false (b05.2 hw);have r:wrap .i64 (((N / 2^o:Nat):Int)-warm)=((N / 2^o:Nat):Int)-warm:=a0D (by have:=a20 N (2^o);omega);simp only[g,d,cF,oB,b1A,hm,hw,and_self,if_true]
  have:=a1y (f:=a5L) (fun i=>((o:Int),(N:Int),warm,(i:Int),a00 i ((N / 2^o:Nat):Int),())) (2^o)
   (b:=(warm,a00 (2^o) ((N / 2^o:Nat):Int),())) (fun i t=>by
    have k:decide ((i:Int)<((2^o:Nat):Int))=true:=by grind
    have h:lim ((a00 i ((N / 2^o:Nat):Int)).length+1)=true:=a0Q (by grind);have e:a00 i ((N / 2^o:Nat):Int)++[((N / 2^o:Nat):Int)]=a00 (i+1) ((N / 2^o:Nat):Int):=by grind[a41]
    simp only[a5L,c,h1,decide_false,cF,a,k,cT,h,b6X (N:=N) (show o≤64 by omega),a06,e,a0C (show i<1000000 by omega)])
   (by
    have k:decide (((2^o:Nat):Int)<((2^o:Nat):Int))=false:=by simp
    simp only[a5L,c,h1,decide_false,cF,a,k])
  simp only[nZ,List.replicate_zero]at this;have u:decide ((0:Int)<(((a00 (2^o) ((N / 2^o:Nat):Int)).length:Nat):Int))=true:=by grind
  obtain⟨q,v⟩:∃q,2^o=q+1:=⟨2^o-1,by omega⟩
  grind
  have d:decide (((N / 2^o:Nat):Int)<warm)=true:=decide_eq_true (Int.not_le.1 hw);simp_all[b1A];have g:(((N%2^o:Nat):Int) != 0)=true:=by grind
  simp only[g,cT,oB,b1A,hm,false_and,if_false]
@[reducible] def Prt:Type:=Int×((List Int)×Unit)
variable {p:Prt}
def kB(k:Int):Bool:=(decide (0≤k)&&decide (k≤25)) || (k==31)
def a2U(p:Prt)(n warm:Int):Bool:=!((a1t p.1 n warm).length==0)&&((a1t p.1 n warm).length==p.2.1.length&&p.2.1.all kB)
theorem b1B(g:short p.2.1):a9B (p,n,warm)=some (a2U p n warm):=by
 have:=a1j (f:=a4E) p.2.1 (fun i=>(p.2.1,(p.2.1.length:Int),(i:Int),())) kB (bt:=Sum.inl ()) (bf:=Sum.inr (false,()))
  (fun i h hp=>by
   simp[kB]at hp
   by_cases h1:p.2.1[i]<0
   omega
   by_cases h2:p.2.1[i] > 25
   have b:p.2.1[i]=31:=by omega
   have a:(p.2.1[i] != 31)=false:=by simp_all
   simp[a4E,a0B h,h,h1,h2,a,a0C (a29 h g)];simp[a4E,a0B h,h,h1,h2,a0C (a29 h g)])
  (fun i h hp=>by
   have hp:¬ (kB p.2.1[i]=true):=by simp_all
   simp only[kB,a33,bA,dT,beq_iff_eq]at hp
   grind[a4E,a0B])
  (by simp[a4E])
 simp at this;unfold a9B a2U;simp[a1Z]
 by_cases h0:(a1t p.1 n warm).length=0
 simp_all
 ·have e:((((a1t p.1 n warm).length:Nat):Int)==0)=false:=by simp_all
  have k:((a1t p.1 n warm).length==0)=false:=by simp_all
  simp[e,k]
  by_cases h1:(a1t p.1 n warm).length=p.2.1.length
  all_goals grind
theorem b1C(a:short p.2.1):a5r (p,n,warm)=some (a2U p n warm):=by
 have g:∀k:Int,a2H k=some (decide (0≤k)&&decide (k≤25)):=fun k=>by
  grind[a2H]
 have:=a1j (f:=a3t) p.2.1 (fun i=>((i:Int),p,())) kB (bt:=Sum.inl ()) (bf:=Sum.inr (false,()))
  (fun i h hp=>by
   simp only[kB,a33]at hp;cases hc:(decide (0≤p.2.1[i])&&decide (p.2.1[i]≤25))with
   |true=>simp[a3t,a0B h,h,g,hc,a0C (a29 h a)]
   |false=>
    have d:p.2.1[i]=31:=by simp_all
    have c:(p.2.1[i] != 31)=false:=by simp_all
    simp[a3t,a0B h,h,g,hc,c,a0C (a29 h a)])
  (fun i h hp=>by
   grind[kB,a3t,a0B])
  (by simp[a3t])
 simp at this;unfold a5r a2U;simp[a9v]
 by_cases h0:(a1t p.1 n warm).length=0
 simp_all
 ·have e:((((a1t p.1 n warm).length:Nat):Int)==0)=false:=by simp_all
  have b:((a1t p.1 n warm).length==0)=false:=by simp_all
  simp[e,b]
  by_cases h1:(a1t p.1 n warm).length=p.2.1.length
  all_goals grind
@[reducible] def Sub:Type:=Int×(Int×(Int×(Int×(Int×((List Int)×((List Int)×((List Stg)×((List Int)×(Prt×((List Int)×Unit))))))))))
variable {s:Sub}
structure SmallS (s:Sub):Prop where
 coefs:s.2.2.2.2.2.1.length≤40
 taps:s.2.2.2.2.2.2.1.length=3
 stages:s.2.2.2.2.2.2.2.1.length≤6
 warm:s.2.2.2.2.2.2.2.2.1.length≤5000
 rest:s.2.2.2.2.2.2.2.2.2.2.1.length≤5000
 ks:s.2.2.2.2.2.2.2.2.2.1.2.1.length≤300
theorem b2f(x y:List Int):eqT (.arr 3 (.int .i64)) x y=decide (x=y):=by
 show((a28 (fun(a b:Int)=>a==b) x y).all id&&x.length==y.length)=_
 induction x generalizing y with
 |nil=>cases y<;>simp
 |cons a x ih=>
  cases y with
  |nil=>simp
  |cons b y=>
   grind[List.zipWith_cons_cons]
theorem b6Z{l:List Int}(h:short l):a4c l=some l:=a8K h
theorem b9I{l:List Stg}(h:short l):a1r l=some l:=by
 have g:lim (0+l.length)=true:=a0Q (by unfold short at h;omega);simp_all[a1r,w0g]
def a2M(k:Int)(s:Sub)(n:Int):Prop:=
 k=0∨k=1∨(k=2∧0≤s.2.2.1∧s.2.2.1≤4∧s.2.2.1≤n)∨(k=3∧a4X s.2.2.2.2.2.1 s.2.2.2.1=true∧(s.2.2.2.2.2.1.length:Int)≤n)∨
  (k=4∧a4X s.2.2.2.2.2.1 s.2.2.2.1=true∧(s.2.2.2.2.2.1.length:Int)≤n∧a7d s.2.2.2.2.1 s.2.2.2.2.2.2.1=true)∨
  (k=5∧0<s.2.2.2.2.2.2.2.1.length∧a4Y s.2.2.2.2.2.2.2.1=true)
open Classical in
def b4Q (k:Int) (s:Sub) (n:Int):Bool:=decide (a2M k s n)
theorem b6w{s:Sub}(h:SmallS s)(k n:Int):a8A (k,s,n)=some (b4Q k s n):=by
 have a:short s.2.2.2.2.2.1:=by have:=h.coefs;unfold short;omega
 have b:short s.2.2.2.2.2.2.2.1:=by have:=h.stages;unfold short;omega
 unfold a8A b4Q a2M
 by_cases k0:k=0
 simp_all
 by_cases k1:k=1
 simp_all;have g:(k==0)=false:=by grind
 have f:(k==1)=false:=by grind
 simp only[g,f,cF,oB]
 by_cases k2:k=2
 subst k2
 grind
 by_cases k3:k=3
 subst k3
 grind[b0B]
 by_cases k4:k=4
 subst k4;cases hl:a4X s.2.2.2.2.2.1 s.2.2.2.1<;>by_cases h2:(s.2.2.2.2.2.1.length:Int)≤n<;>simp[b0B a,b5V h.taps,hl,h2]
 by_cases k5:k=5
 ·subst k5
  by_cases h1:0<s.2.2.2.2.2.2.2.1.length
  all_goals simp_all[b4K]
 grind
def a0X(s:Sub)(n:Int):Int:=if s.1=0 then 1 else if s.1=1 then n else if s.1=2 then s.2.2.1 else if s.1=3∨s.1=4 then(s.2.2.2.2.2.1.length:Int)else 0
theorem b3h(s:Sub)(n:Int):a4M (s,n)=some (a0X s n):=by
 grind[a4M,a0X]
def b3i(s:Sub):Prop:=
 (s.1≠2→s.2.2.1=0)∧(s.1≠3∧s.1≠4→s.2.2.2.1=0)∧(s.1≠4→s.2.2.2.2.1=0)∧(s.1≠4→s.2.2.2.2.2.2.1=[0,0,0])∧(s.1≠3∧s.1≠4→s.2.2.2.2.2.1=[])∧(s.1≠5→s.2.2.2.2.2.2.2.1=[])
open Classical in
def b6x (s:Sub):Bool:=decide (b3i s)
theorem b0H{c x:Bool}:(bif c then some x else some false)=some (c&&x):=by grind
theorem d2a{α:Type}(l:List α):(((l.length:Nat):Int)==0)=decide (l=[]):=by
 cases l with
 |nil=>rfl
 |cons a l=>rfl
theorem c2w(x:Int):(x==0)=decide (x=0):=rfl
theorem c4i{s:Sub}(h:SmallS s):b2A s=some (b6x s):=by
 have e:short s.2.2.2.2.2.1:=by have:=h.coefs;unfold short;omega
 have g:short s.2.2.2.2.2.2.2.1:=by have:=h.stages;unfold short;omega
 obtain⟨k,w,o,sh,lag,c,t,st,j,p,r,u⟩:=s;simp only at e g;unfold b2A a6w b6x b3i;have i:(a00 3 (0:Int))=[0,0,0]:=rfl
 by_cases k2:k=2
 simp_all[b2f,b0H,c2w]
 by_cases k4:k=4
 simp_all[b2f,b0H,c2w,b6Z]
 by_cases k3:k=3
 simp_all[b2f,b0H,c2w,b6Z]
 by_cases k5:k=5
 simp_all[b2f,b0H,c2w,b9I];have f:(k==2)=false:=by grind
 have a:(k==3)=false:=by grind
 have b:(k==4)=false:=by grind
 have d:(k==5)=false:=by grind
 simp[f,a,b,d,k2,k3,k4,k5,b2f,i,b0H,d2a,c2w]
theorem a6K(k:Int):a6y k=some (decide (k≠0∧k≠1)):=by
 unfold a6y
 by_cases h0:k=0
 simp_all
 ·by_cases h1:k=1
  all_goals grind
def a1l(s:Sub)(n:Int):Prop:=
 1≤n∧n≤4096∧a2M s.1 s n∧b3i s∧0≤s.2.1∧s.2.1≤30∧(s.1=0→s.2.1=0)∧(s.2.2.2.2.2.2.2.2.1.length:Int)=a0X s n∧s.2.2.2.2.2.2.2.2.1.all a0A=true∧s.2.2.2.2.2.2.2.2.2.2.1.all a0A=true∧
  (s.1=0∨s.1=1→s.2.2.2.2.2.2.2.2.2.2.1=[]∧s.2.2.2.2.2.2.2.2.2.1.1=0∧s.2.2.2.2.2.2.2.2.2.1.2.1=[])∧
  (s.1≠0∧s.1≠1→(s.2.2.2.2.2.2.2.2.2.2.1.length:Int)=n-a0X s n∧a2U s.2.2.2.2.2.2.2.2.2.1 n (a0X s n)=true)
theorem b9J(h:SmallS s)(a:1≤n)(b:n≤4096)(f:a2M s.1 s n):0≤a0X s n∧a0X s n≤4096:=by
 have c:=h.coefs;unfold a0X;rcases f with k|k|⟨k,g⟩|⟨k,g⟩|⟨k,g⟩|⟨k,g⟩<;>simp[k]<;>omega
open Classical in
theorem c7M {s:Sub} (h:SmallS s) (n:Int):b1g (s,n)=some (decide (a1l s n)):=by
 have hw:short s.2.2.2.2.2.2.2.2.1:=by have:=h.warm;unfold short;omega
 have hr:short s.2.2.2.2.2.2.2.2.2.2.1:=by have:=h.rest;unfold short;omega
 have hk:short s.2.2.2.2.2.2.2.2.2.1.2.1:=by have:=h.ks;unfold short;omega
 unfold b1g
 by_cases h1:1≤n
 rotate_left
 ·have e1:decide (n<1)=true:=by simp_all
  have:¬ a1l s n:=fun hp=>h1 hp.1
  simp_all
 have e1:decide (n<1)=false:=by simp_all
 by_cases h2:n≤4096
 rotate_left
 ·have e2:decide (n > 4096)=true:=by simp_all
  have:¬ a1l s n:=fun hp=>h2 hp.2.1
  simp_all
 have e2:decide (n > 4096)=false:=by simp_all
 by_cases h3:a2M s.1 s n
 rotate_left
 ·have e3:b4Q s.1 s n=false:=by simp[b4Q,h3]
  have:¬ a1l s n:=fun hp=>h3 hp.2.2.1
  simp_all[b6w]
 have e3:b4Q s.1 s n=true:=by simp[b4Q,h3]
 by_cases h4:b3i s
 rotate_left
 ·have e4:b6x s=false:=by simp[b6x,h4]
  have:¬ a1l s n:=fun hp=>h4 hp.2.2.2.1
  simp_all[b6w,c4i]
 have e4:b6x s=true:=by simp[b6x,h4]
 simp only[e1,e2,b6w h,e3,c4i h,e4,cF,bT,oB]
 by_cases h5:0≤s.2.1
 rotate_left
 ·have e5:decide (s.2.1<0)=true:=by simp_all
  have:¬ a1l s n:=fun hp=>h5 hp.2.2.2.2.1
  simp_all
 have e5:decide (s.2.1<0)=false:=by simp_all
 by_cases h6:s.2.1≤30
 rotate_left
 ·have e6:decide (s.2.1 > 30)=true:=by simp_all
  have:¬ a1l s n:=fun hp=>h6 hp.2.2.2.2.2.1
  simp_all
 have e6:decide (s.2.1 > 30)=false:=by simp_all
 simp only[e5,e6,cF]
 by_cases h7:s.1=0→s.2.1=0
 rotate_left
 ·have h7a:s.1=0:=Classical.byContradiction fun hc=>h7 fun e=>absurd e hc
  have h7b:(s.2.1 != 0)=true:=by
   simp_all
  have e7:(s.1==0)=true:=by simp_all
  have:¬ a1l s n:=fun hp=>h7 hp.2.2.2.2.2.2.1
  grind
 have e7:(bif s.1==0 then some (n,(s.2.1 != 0,(s,())))else some (n,(false,(s,()))))=some (n,(false,(s,()))):=by
  grind
 simp only[e7,oB,cF,b3h]
 by_cases h8:(s.2.2.2.2.2.2.2.2.1.length:Int)=a0X s n
 rotate_left
 ·have e8:(((s.2.2.2.2.2.2.2.2.1.length:Nat):Int) != a0X s n)=true:=by simp_all
  have:¬ a1l s n:=fun hp=>h8 hp.2.2.2.2.2.2.2.1
  grind
 have e8:(((s.2.2.2.2.2.2.2.2.1.length:Nat):Int) != a0X s n)=false:=by simp_all
 simp only[e8,cF,a4H hw,a4H hr,oB]
 cases h9:s.2.2.2.2.2.2.2.2.1.all a0A with
 |false=>
  have:¬ a1l s n:=fun hp=>by rw[hp.2.2.2.2.2.2.2.2.1]at h9;grind
  simp_all
 |true=>
  cases h10:s.2.2.2.2.2.2.2.2.2.2.1.all a0A with
  |false=>
   have:¬ a1l s n:=fun hp=>by rw[hp.2.2.2.2.2.2.2.2.2.1]at h10;grind
   simp_all
  |true=>
   simp only[bT,cF,oB,a6K]
   have hwr:=b9J h h1 h2 h3
   by_cases k01:s.1≠0∧s.1≠1
   ·have e11:wrap .i64 (n-a0X s n)=n-a0X s n:=a0D (by omega)
    simp[k01,e11,b1B hk]
    by_cases h11:(s.2.2.2.2.2.2.2.2.2.2.1.length:Int)=n-a0X s n
    ·have e12:(((s.2.2.2.2.2.2.2.2.2.2.1.length:Nat):Int)==n-a0X s n)=true:=by simp_all
     simp only[e12,cT]
     congr 1
     rw[a77,dT]
     constructor
     ·intro hp
      exact⟨h1,h2,h3,h4,h5,h6,h7,h8,h9,h10,fun hc=>absurd hc (by omega),fun _=>⟨h11,hp⟩⟩
     ·intro hp;exact(hp.2.2.2.2.2.2.2.2.2.2.2 k01).2
    ·have e12:(((s.2.2.2.2.2.2.2.2.2.2.1.length:Nat):Int)==n-a0X s n)=false:=by simp_all
     have:¬ a1l s n:=fun hp=>h11 (hp.2.2.2.2.2.2.2.2.2.2.2 k01).1
     grind
   ·have k01':s.1=0∨s.1=1:=by omega
    simp[k01,d2a]
    simp only[c2w,b0H]
    congr 1
    rw[a77,dT]
    simp
    constructor
    ·rintro⟨g1,g2,g3⟩
     exact⟨h1,h2,h3,h4,h5,h6,h7,h8,h9,h10,fun _=>⟨g1,g2,g3⟩,fun hc=>absurd hc k01⟩
    ·intro hp;exact hp.2.2.2.2.2.2.2.2.2.2.1 k01'
theorem b7a{α:Type}[DecidableEq α](q:α→α→Bool)(g:∀a b,q a b=decide (a=b)):∀(x y:List α),x.length=y.length→((x.zip y).all fun p=>q p.1 p.2)=decide (x=y)
 | [],[],_=>by simp
 |a::x,b::y,h=>by
  have f:=b7a q g x y (by simpa using h);simp only[List.zip_cons_cons,a07];rw[f,g]
  by_cases h1:a=b<;>by_cases h2:x=y<;>simp[h1,h2]
theorem b2Q{x y:List Int}(h:short x):a4e (x,y)=some (decide (x=y)):=by
 unfold a4e
 by_cases hl:x.length=y.length
 have e:(((x.length:Nat):Int) != ((y.length:Nat):Int))=false:=by rw[hl];simp
 have l:(x.zip y).length=x.length:=by rw[b00];omega
 have:=a1j (f:=a4T) (x.zip y) (fun i=>(x,y,(i:Int),())) (fun p=>p.1==p.2) (bt:=Sum.inl ()) (bf:=Sum.inr (false,()))
  (fun i j hp=>by
   have k:i<x.length:=by omega
   have c:i<y.length:=by omega
   rw[a56]at hp;have hp:x[i]=y[i]:=by simpa using hp
   have g:(x[i] != y[i])=false:=by rw[hp];simp
   simp only[a4T,dlt k,cT,a0B k,a0B c,oB,g,cF,a0C (a29 k h)])
  (fun i j hp=>by
   have k:i<x.length:=by omega
   have c:i<y.length:=by omega
   rw[a56]at hp;have g:(x[i] != y[i])=true:=by simpa using hp
   simp only[a4T,dlt k,cT,a0B k,a0B c,oB,g])
  (by rw[l];simp[a4T])
 simp only[nZ]at this;simp only[e,cF,this,b7a (fun(a b:Int)=>a==b) (fun _ _=>rfl) x y hl];cases decide (x=y)<;>rfl;have e:(((x.length:Nat):Int) != ((y.length:Nat):Int))=true:=by simp only[bne_iff_ne,ne_eq];omega
 have:¬ x=y:=fun d=>hl (by rw[d])
 simp only[e,cT,this,decide_false]
theorem c3z{x y:List Stg}(h:short x):a6Y (x,y)=some (decide (x=y)):=by
 have c:∀a b:Stg,eqT (.pair (.int .i64) (.pair (.int .i64) .unit)) a b=decide (a=b):=by
  rintro⟨a1,a2,⟨⟩⟩ ⟨b1,b2,⟨⟩⟩
  show((a1==b1)&&((a2==b2)&&true))=_
  by_cases g:a1=b1<;>by_cases k:a2=b2<;>simp[g,k]
 unfold a6Y
 by_cases hl:x.length=y.length
 have e:(((x.length:Nat):Int) != ((y.length:Nat):Int))=false:=by rw[hl];simp
 have l:(x.zip y).length=x.length:=by rw[b00];omega
 have:=a1j (f:=a3k) (x.zip y) (fun i=>(x,y,(i:Int),())) (fun p=>decide (p.1=p.2)) (bt:=Sum.inl ()) (bf:=Sum.inr (false,()))
  (fun i j hp=>by
   have g:i<x.length:=by omega
   have k:i<y.length:=by omega
   rw[a56]at hp;simp only[a3k,dlt g,cT,a0B g,a0B k,oB,c,hp,bT,cF,a0C (a29 g h)])
  (fun i j hp=>by
   have g:i<x.length:=by omega
   have k:i<y.length:=by omega
   rw[a56]at hp;simp only[a3k,dlt g,cT,a0B g,a0B k,oB,c,hp,a32])
  (by rw[l];simp[a3k])
 simp only[nZ]at this;simp only[e,cF,this,b7a (fun(a b:Stg)=>decide (a=b)) (fun _ _=>rfl) x y hl];cases decide (x=y)<;>rfl;have e:(((x.length:Nat):Int) != ((y.length:Nat):Int))=true:=by simp only[bne_iff_ne,ne_eq];omega
 have:¬ x=y:=fun d=>hl (by rw[d])
 simp only[e,cT,this,decide_false]
open Classical in
theorem c6R {a b:Sub} (h:SmallS a):a9T (a,b)=some (decide (a=b)):=by
 have hc:short a.2.2.2.2.2.1:=by have:=h.coefs;unfold short;omega
 have hst:short a.2.2.2.2.2.2.2.1:=by have:=h.stages;unfold short;omega
 have hw:short a.2.2.2.2.2.2.2.2.1:=by have:=h.warm;unfold short;omega
 have hr:short a.2.2.2.2.2.2.2.2.2.2.1:=by have:=h.rest;unfold short;omega
 have hk:short a.2.2.2.2.2.2.2.2.2.1.2.1:=by have:=h.ks;unfold short;omega
 unfold a9T b2a
 simp only[b2Q hc,b2Q hw,b2Q hr,b2Q hk,c3z hst,b2f,oB,b0H]
 congr 1
 obtain⟨k,w,o,sh,lag,c,t,st,wm,⟨po,ks,⟨⟩⟩,r,⟨⟩⟩:=a
 obtain⟨k',w',o',sh',lag',c',t',st',wm',⟨po',ks',⟨⟩⟩,r',⟨⟩⟩:=b
 rw[a77]
 simp only[bA,dT,beq_iff_eq,pJ,and_true,and_assoc]
def b4R(s:Sub):Sub:=
 let z:List Int:=a00 3 0
 if s.1=0 then(0,0,0,0,0,[],z,[],s.2.2.2.2.2.2.2.2.1,(0,[],()),[],())
 else if s.1=1 then(1,s.2.1,0,0,0,[],z,[],s.2.2.2.2.2.2.2.2.1,(0,[],()),[],())
 else if s.1=2 then(2,s.2.1,s.2.2.1,0,0,[],z,[],s.2.2.2.2.2.2.2.2.1,s.2.2.2.2.2.2.2.2.2.1,s.2.2.2.2.2.2.2.2.2.2.1,())
 else if s.1=3 then(3,s.2.1,0,s.2.2.2.1,0,s.2.2.2.2.2.1,z,[],s.2.2.2.2.2.2.2.2.1,s.2.2.2.2.2.2.2.2.2.1,s.2.2.2.2.2.2.2.2.2.2.1,())
 else if s.1=4 then(4,s.2.1,0,s.2.2.2.1,s.2.2.2.2.1,s.2.2.2.2.2.1,s.2.2.2.2.2.2.1,[],s.2.2.2.2.2.2.2.2.1,s.2.2.2.2.2.2.2.2.2.1,s.2.2.2.2.2.2.2.2.2.2.1,())
 else if s.1=5 then(5,s.2.1,0,0,0,[],z,s.2.2.2.2.2.2.2.1,[],s.2.2.2.2.2.2.2.2.2.1,s.2.2.2.2.2.2.2.2.2.2.1,())
 else(s.1,s.2.1,0,0,0,[],z,[],s.2.2.2.2.2.2.2.2.1,s.2.2.2.2.2.2.2.2.2.1,s.2.2.2.2.2.2.2.2.2.2.1,())
theorem c8O(s:Sub):b2N s=some (b4R s):=by
 obtain⟨k,w,o,sh,lag,c,t,st,e,p,r,u⟩:=s;unfold b2N b4R
 by_cases k0:k=0
 subst k0;rfl
 by_cases k1:k=1
 subst k1;rfl
 by_cases k2:k=2
 subst k2;rfl
 by_cases k3:k=3
 subst k3;rfl
 by_cases k4:k=4
 subst k4;rfl
 by_cases k5:k=5
 subst k5;rfl;have h:(k==0)=false:=by simp[k0]
 have g:(k==1)=false:=by simp[k1]
 have f:(k==2)=false:=by simp[k2]
 have a:(k==3)=false:=by simp[k3]
 have b:(k==4)=false:=by simp[k4]
 have d:(k==5)=false:=by simp[k5]
 simp only[h,g,f,a,b,d,cF,oB,k0,k1,k2,k3,k4,k5,if_false]
open Classical in
def b6y (s:Sub) (n:Int):Int:=if a2M s.1 s n then a0X s n else -1
theorem c8P(h:SmallS s)(n:Int):b2M (s,n)=some (b6y s n):=by
 have f:short s.2.2.2.2.2.1:=by have:=h.coefs;unfold short;omega
 have g:short s.2.2.2.2.2.2.2.1:=by have:=h.stages;unfold short;omega
 have a:=h.taps;obtain⟨k,w,o,sh,lag,c,t,st,m,p,r,u⟩:=s;simp only at f g a;unfold b2M b6y a0X a2M
 by_cases k0:k=0
 subst k0;simp
 by_cases k1:k=1
 subst k1;simp
 by_cases k2:k=2
 subst k2
 by_cases h1:0≤o<;>by_cases h2:o≤4<;>by_cases h3:o≤n<;>simp[h1,h2,h3]
 by_cases k3:k=3
 subst k3;cases hl:a4X c sh<;>by_cases h2:(c.length:Int)≤n<;>simp[a7c f,hl,h2]
 by_cases k4:k=4
 subst k4;cases hl:a4X c sh<;>by_cases h2:(c.length:Int)≤n<;>cases h3:a7d lag t<;>simp[a7c f,b6s a,hl,h2,h3]
 by_cases k5:k=5
 subst k5
 by_cases h1:0<st.length<;>cases h2:a4Y st<;>simp[b5w g,h1,h2]
 have b:(k==0)=false:=by simp[k0]
 have d:(k==1)=false:=by simp[k1]
 have e:(k==2)=false:=by simp[k2]
 have i:(k==3)=false:=by simp[k3]
 have j:(k==4)=false:=by simp[k4]
 have l:(k==5)=false:=by simp[k5]
 simp[k0,k1,k2,k3,k4,k5,b,d,e,i,j,l]
theorem a7f(k:Int):a7G k=some (decide (2≤k∧k≤5)):=by
 unfold a7G
 by_cases h1:2≤k<;>by_cases h2:k≤5<;>simp[h1,h2]
def c6S(s:Sub)(n:Int):Prop:=
 1≤n∧n≤4096∧0≤s.1∧s.1≤5∧s=b4R s∧0≤s.2.1∧s.2.1≤30∧a2M s.1 s n∧(s.2.2.2.2.2.2.2.2.1.length:Int)=a0X s n∧s.2.2.2.2.2.2.2.2.1.all a0A=true∧s.2.2.2.2.2.2.2.2.2.2.1.all a0A=true∧
  (2≤s.1∧s.1≤5→(s.2.2.2.2.2.2.2.2.2.2.1.length:Int)=n-a0X s n∧a2U s.2.2.2.2.2.2.2.2.2.1 n (a0X s n)=true)
theorem b3j(h:a2M k s n):k=0∨k=1∨k=2∨k=3∨k=4∨k=5:=by
 unfold a2M at h;omega
theorem c5k(s:Sub)(n:Int):a1l s n↔c6S s n:=by
 have b:a2M s.1 s n→((b3i s∧(s.1=0→s.2.1=0)∧(s.2.2.2.2.2.2.2.2.1.length:Int)=a0X s n∧(s.1=0∨s.1=1→s.2.2.2.2.2.2.2.2.2.2.1=[]∧s.2.2.2.2.2.2.2.2.2.1.1=0∧s.2.2.2.2.2.2.2.2.2.1.2.1=[]))↔
   (s=b4R s∧(s.2.2.2.2.2.2.2.2.1.length:Int)=a0X s n)):=by
  intro z;have B:(a00 3 (0:Int))=[0,0,0]:=rfl;obtain⟨k,w,o,sh,lag,c,t,st,wm,⟨po,ks,⟨⟩⟩,r,⟨⟩⟩:=s;rcases b3j z with k0|k0|k0|k0|k0|k0<;>simp only at k0<;>subst k0<;>simp[b3i,b4R,a0X,B]<;>(try constructor)<;>(try intros)<;>(try simp_all)<;>(try exact and_left_comm)<;>(try exact and_comm)
 unfold a1l c6S;constructor
 rintro⟨j,l,d,v,m,p,q,a,e,h,g,f⟩
 obtain⟨i,u⟩:=(b d).1 ⟨v,q,a,g⟩;have A:=b3j d;exact⟨j,l,by omega,by omega,i,m,p,d,a,e,h,fun y=>f (by omega)⟩
 rintro⟨j,l,d,v,m,p,q,a,e,h,g,f⟩
 obtain⟨i,u,C,x⟩:=(b a).2 ⟨m,e⟩;have A:=b3j a;exact⟨j,l,a,i,p,q,u,e,h,g,x,fun y=>f (by omega)⟩
def b8H(warm rest:List Int)(o:Int):Option (List Int):=bif warm.all a0A&&rest.all a0A then a2T (a2B o.toNat) rest warm else none
def backP(s:Sub):Option (List Int):=
 if s.1=1 then some s.2.2.2.2.2.2.2.2.1
 else if s.1=2 then b8H s.2.2.2.2.2.2.2.2.1 s.2.2.2.2.2.2.2.2.2.2.1 s.2.2.1
 else if s.1=3 then b1z s.2.2.2.2.2.2.2.2.1 s.2.2.2.2.2.2.2.2.2.2.1 s.2.2.2.2.2.1 s.2.2.2.1
 else if s.1=4 then(b1z s.2.2.2.2.2.2.2.2.1 s.2.2.2.2.2.2.2.2.2.2.1 s.2.2.2.2.2.1 s.2.2.2.1).bind fun l=>b2O l s.2.2.2.2.1 s.2.2.2.2.2.2.1
 else a9G s.2.2.2.2.2.2.2.2.2.2.1 s.2.2.2.2.2.2.2.1
def c0G(s:Sub)(n:Int):Option (List Int):=
 if s.1=0 then some (a00 n.toNat (s.2.2.2.2.2.2.2.2.1.getD 0 0))else(backP s).bind (upO s.2.1)
theorem b2R{w r c:List Int}{s:Int}{l}(h:b1z w r c s=some l):l.length=w.length+r.length:=by
 unfold b1z at h;cases hc:(w.all a0A&&r.all a0A)with
 |false=>simp_all
 |true=>
  rw[hc]at h;exact(b4h _ r w l (a82.1 hc).1 h).2
theorem c5l{w r:List Int}{o:Int}{l}(h:b8H w r o=some l):l.length=w.length+r.length:=by
 unfold b8H at h;cases hc:(w.all a0A&&r.all a0A)with
 |false=>simp_all
 |true=>
  rw[hc]at h;exact(b4h _ r w l (a82.1 hc).1 h).2
theorem c4j{l}(h:b2O r lag t=some l):l.length=r.length:=by
 unfold b2O at h;cases hc:r.all a0A with
 |false=>simp_all
 |true=>
  rw[hc]at h
  have:=(b4h _ r [] l rfl h).2
  simp_all
theorem c2R:∀(st:List Stg)(r:List Int){l},lO st r=some l→l.length=r.length
 | [],r,l,h=>by simp_all[lO]
 |s::st,r,l,h=>by
  simp only[lO]at h
  split at h
  rename_i f g;rw[c2R st f h,b4j _ _ _ g];simp;cases h
theorem c3A{r:List Int}{st:List Stg}{l}(h:a9G r st=some l):l.length=r.length:=by
 grind[a9G,c2R]
theorem b8I(h:SmallS s){l}(g:backP s=some l):l.length<100000:=by
 have b:=h.warm;have a:=h.rest;unfold backP at g
 split at g
 grind
 split at g
 grind[c5l]
 split at g
 grind[b2R]
 split at g
 obtain⟨c,f,k⟩:=a51.1 g;rw[c4j k,b2R f];omega
 grind[c3A]
theorem c7N(c:1≤n)(d:n≤4096)(e:s.2.2.2.2.2.2.2.2.1.length=1):
  x0r a7y (n,(0:Int),([]:List Int),s,())=some (a00 n.toNat (s.2.2.2.2.2.2.2.2.1.getD 0 0),()):=by
 obtain⟨N,rfl⟩:=a02 (show 0≤n by omega);have k:l0z s.2.2.2.2.2.2.2.2.1 (0:Int)=some (s.2.2.2.2.2.2.2.2.1.getD 0 0):=b6W (by omega) (by omega)
 have:=a1y (f:=a7y) (fun i=>((N:Int),(i:Int),a00 i (s.2.2.2.2.2.2.2.2.1.getD 0 0),s,())) N
  (b:=(a00 N (s.2.2.2.2.2.2.2.2.1.getD 0 0),())) (fun i a=>by
   have h:lim ((a00 i (s.2.2.2.2.2.2.2.2.1.getD 0 0)).length+1)=true:=a0Q (by grind);have g:a00 i (s.2.2.2.2.2.2.2.2.1.getD 0 0)++[s.2.2.2.2.2.2.2.2.1.getD 0 0]=a00 (i+1) (s.2.2.2.2.2.2.2.2.1.getD 0 0):=by grind[a41]
   simp only[a7y,dlt a,cT,k,oB,h,a06,g,a0C (show i<1000000 by omega)])
  (by simp[a7y])
 simp_all
theorem c3B(m:1≤n)(o:n≤4096)(q:s.2.2.2.2.2.2.2.2.1.length=1):
  x0r a5O (n,(0:Int),a00 n.toNat (0:Int),s,())=some (a00 n.toNat (s.2.2.2.2.2.2.2.2.1.getD 0 0),()):=by
 obtain⟨N,rfl⟩:=a02 (show 0≤n by omega);have j:l0z s.2.2.2.2.2.2.2.2.1 (0:Int)=some (s.2.2.2.2.2.2.2.2.1.getD 0 0):=b6W (by omega) (by omega);obtain⟨z,r⟩:∃z,a00 N (s.2.2.2.2.2.2.2.2.1.getD 0 0)=z:=⟨_,rfl⟩;have k:z.length=(a00 N (0:Int)).length:=by grind
 have d:(a00 N (0:Int)).length=N:=by simp
 have:=a1y (f:=a5O) (fun i=>((N:Int),(i:Int),z.take i++(a00 N (0:Int)).drop i,s,())) N
  (b:=(z,())) (fun i l=>by
   have h:i<(a00 N (0:Int)).length:=by omega
   have p:(z.take i++(a00 N (0:Int)).drop i).length=N:=by grind
   have e:decide ((i:Int)<(((z.take i++(a00 N (0:Int)).drop i).length:Nat):Int))=true:=by simp_all
   have c:decide ((0:Int)≤(i:Int))=true:=by simp
   have a:=c4g h k;have g:z[i]'(by omega)=s.2.2.2.2.2.2.2.2.1.getD 0 0:=by grind
   rw[g]at a;simp only[a5O,dlt l,cT,j,oB,c,e,a03,tN,a,a0C (show i<1000000 by omega)])
  (by
   simp_all[a26,a5O])
 simp_all
theorem c5m(h:SmallS s)(hp:a1l s n)(x:s.1≠0):b4c s=some (a2A (backP s)):=by
 obtain⟨y,z,m,-,-,-,-,a,C,A,-⟩:=hp;have q:=h.rest;have v:=h.warm;have B:=h.taps;obtain⟨k,w,o,sh,lag,c,t,st,d,p,r,u⟩:=s;simp only at *;unfold b4c backP;rcases m with g|g|⟨g,f,b,e⟩|⟨g,f,b⟩|⟨g,f,b,e⟩|⟨g,f,b⟩;omega;subst g;rfl;subst g;obtain⟨O,rfl⟩:=a02 f
 grind[a0X,c0A,b8H]
 grind[a0X,b3Q]
 ·subst g;simp only[a0X]at a;have j:d.length=c.length:=by grind
  have i:=b3Q (rest:=r) f j (by omega);simp only[show((4:Int)==2)=false from rfl,show((4:Int)==3)=false from rfl,show((4:Int)==4)=true from rfl,cT,cF,i,oB];cases hl:b1z d r c sh with
  |none=>rfl
  |some l=>
   grind[b2R,c1q,a2A]
 grind[c0F]
theorem c5n(h:SmallS s)(hp:a1l s n):b3W (s,n)=some (a2A (c0G s n)):=by
 have a:=fun l (d:backP s=some l)=>b8I h d;obtain⟨z,A,C,-,x,v,-,g,K,I,-⟩:=hp;have F:=h.rest;have G:=h.warm;have H:=h.taps;have D:=c7N (s:=s) z A;obtain⟨k,w,o,sh,lag,c,t,st,f,p,r,u⟩:=s;simp only at *;have L:∀l,l.length<100000→a9D (l,w)=some (a2A (upO w l)):=fun l d=>c4e x v d;unfold b3W c0G;rcases C with b|b|⟨b,j,m,y⟩|⟨b,j,m⟩|⟨b,j,m,y⟩|⟨b,j,m⟩
 grind[a0X,a2A]
 simp_all[backP]
 ·subst b;obtain⟨O,rfl⟩:=a02 j;have m:(O:Int)≤4:=m;simp only[a0X]at g;have q:f.length=O:=by grind
  have i:=c3v (warm:=f) (rest:=r) (o:=O) (by omega) q (by omega);simp only[backP]at a⊢;simp[i];have e:(bif f.all a0A&&r.all a0A then a2T (a2B O) r f else none)=b8H f r (O:Int):=rfl;rw[e];cases d:b8H f r (O:Int)with
  |none=>rfl
  |some l=>simp_all[a2A]
 ·subst b;simp only[a0X]at g;have q:f.length=c.length:=by grind
  have i:=b6t (rest:=r) j q (by omega);simp only[backP]at a⊢;simp[i];cases d:b1z f r c sh with
  |none=>rfl
  |some l=>simp_all[a2A]
 ·subst b;simp only[a0X]at g;have q:f.length=c.length:=by grind
  have i:=b6t (rest:=r) j q (by omega);simp only[backP]at a⊢;simp[i];cases d:b1z f r c sh with
  |none=>rfl
  |some l=>
   have E:=b2R d;have B:=c4d (rest:=l) y H (by omega);simp[a2A,B]
   grind[a2A]
 ·subst b;have i:=c3y (rest:=r) m (by omega);simp only[backP]at a⊢;simp[i];cases d:a9G r st with
  |none=>rfl
  |some l=>simp_all[a2A]
open Classical in
def a1A (s:Sub) (n:Int):Option (List Int):=if a1l s n then c0G s n else none
theorem c1u(h:SmallS s)(n:Int):b3b (s,n)=some (match a1A s n with|some r=>(r,0)|none=>([],1)):=by
 unfold b3b a1A;simp only[c7M h,oB]
 by_cases hp:a1l s n
 simp[hp,c5n h hp]
 grind[a2A]
 simp_all
theorem c1v(h:SmallS s)(n:Int):b0M (s,n)=some (a1A s n).isSome:=by
 unfold b0M;simp only[c1u h,oB];cases a1A s n<;>rfl
open Classical in
theorem c3C {s:Sub} (h:SmallS s) (n:Int):b1t (s,n)=some (match a1A s n with|some r=>(r,true)|none=>([],false)):=by
 have hw:short s.2.2.2.2.2.2.2.2.1:=by have:=h.warm;unfold short;omega
 have hr:short s.2.2.2.2.2.2.2.2.2.2.1:=by have:=h.rest;unfold short;omega
 have hk:short s.2.2.2.2.2.2.2.2.2.1.2.1:=by have:=h.ks;unfold short;omega
 have hiff:=c5k s n
 unfold b1t
 have no:¬ c6S s n→a1A s n=none:=fun hc=>by
  simp_all[a1A]
 by_cases h1:1≤n
 rotate_left
 ·have e1:decide (n<1)=true:=by simp_all
  rw[no fun hp=>h1 hp.1]
  simp_all
 have e1:decide (n<1)=false:=by simp_all
 by_cases h2:n≤4096
 rotate_left
 ·have e2:decide (n > 4096)=true:=by simp_all
  rw[no fun hp=>h2 hp.2.1]
  simp_all
 have e2:decide (n > 4096)=false:=by simp_all
 by_cases h3:0≤s.1
 rotate_left
 ·have e3:decide (s.1<0)=true:=by simp_all
  rw[no fun hp=>h3 hp.2.2.1]
  simp_all
 have e3:decide (s.1<0)=false:=by simp_all
 by_cases h4:s.1≤5
 rotate_left
 ·have e4:decide (s.1 > 5)=true:=by simp_all
  rw[no fun hp=>h4 hp.2.2.2.1]
  simp_all
 have e4:decide (s.1 > 5)=false:=by simp_all
 simp only[e1,e2,e3,e4,cF,c8O,c6R h,oB]
 by_cases h5:s=b4R s
 rotate_left
 ·rw[no fun hp=>h5 hp.2.2.2.2.1]
  simp_all
 have e5:decide (s=b4R s)=true:=decide_eq_true h5
 simp only[e5,bT,cF]
 by_cases h6:0≤s.2.1
 rotate_left
 ·have e6:decide (s.2.1<0)=true:=by grind
  rw[no fun hp=>h6 hp.2.2.2.2.2.1]
  grind
 have e6:decide (s.2.1<0)=false:=by grind
 by_cases h7:s.2.1≤30
 rotate_left
 ·have e7:decide (s.2.1 > 30)=true:=by grind
  rw[no fun hp=>h7 hp.2.2.2.2.2.2.1]
  grind
 have e7:decide (s.2.1 > 30)=false:=by grind
 simp only[e6,e7,cF,oB,c8P h]
 by_cases h8:a2M s.1 s n
 rotate_left
 ·have e8:decide (b6y s n<0)=true:=by simp[b6y,h8]
  rw[no fun hp=>h8 hp.2.2.2.2.2.2.2.1]
  grind
 have hwr:=b9J h h1 h2 h8
 have e8':b6y s n=a0X s n:=by simp[b6y,h8]
 have e8:decide (a0X s n<0)=false:=by grind
 simp only[e8',e8,cF]
 by_cases h9:(s.2.2.2.2.2.2.2.2.1.length:Int)=a0X s n
 rotate_left
 ·have e9:(((s.2.2.2.2.2.2.2.2.1.length:Nat):Int) != a0X s n)=true:=by grind
  rw[no fun hp=>h9 hp.2.2.2.2.2.2.2.2.1]
  grind
 have e9:(((s.2.2.2.2.2.2.2.2.1.length:Nat):Int) != a0X s n)=false:=by grind
 simp only[e9,cF,a1M hw,a1M hr,oB]
 cases h10:s.2.2.2.2.2.2.2.2.1.all a0A with
 |false=>
  rw[no fun hp=>by rw[hp.2.2.2.2.2.2.2.2.2.1]at h10;grind]
  rfl
 |true=>
  cases h11:s.2.2.2.2.2.2.2.2.2.2.1.all a0A with
  |false=>
   rw[no fun hp=>by rw[hp.2.2.2.2.2.2.2.2.2.2.1]at h11;grind]
   rfl
  |true=>
   simp only[bT,cF,oB,a7f]
   have e11:wrap .i64 (n-a0X s n)=n-a0X s n:=a0D (by omega)
   by_cases h12:2≤s.1∧s.1≤5→(s.2.2.2.2.2.2.2.2.2.2.1.length:Int)=n-a0X s n∧a2U s.2.2.2.2.2.2.2.2.2.1 n (a0X s n)=true
   rotate_left
   ·have hg:2≤s.1∧s.1≤5:=Classical.byContradiction fun hc=>h12 fun e=>absurd e hc
    have hn:¬ ((s.2.2.2.2.2.2.2.2.2.2.1.length:Int)=n-a0X s n∧a2U s.2.2.2.2.2.2.2.2.2.1 n (a0X s n)=true):=fun hc=>h12 fun _=>hc
    rw[no fun hp=>h12 hp.2.2.2.2.2.2.2.2.2.2.2]
    simp only[hg,and_self,decide_true,cT,e11,b1B hk,b1C hk,oB]
    grind
   have hrp:c6S s n:=⟨h1,h2,h3,h4,h5,h6,h7,h8,h9,h10,h11,h12⟩
   have hsp:=hiff.2 hrp
   have e12:(bif decide (2≤s.1∧s.1≤5)then bif (((s.2.2.2.2.2.2.2.2.2.2.1.length:Nat):Int) != wrap .i64 (n-a0X s n))then some (n,(true,(s,())))else(a5r (s.2.2.2.2.2.2.2.2.2.1,(n,a0X s n))).bind fun y9=>some (n,(!y9,(s,())))
     else some (n,(false,(s,()))))=some (n,(false,(s,()))):=by
    by_cases hg:2≤s.1∧s.1≤5
    ·obtain⟨g1,g2⟩:=h12 hg
     have e13:(((s.2.2.2.2.2.2.2.2.2.2.1.length:Nat):Int) != n-a0X s n)=false:=by grind
     simp only[hg,and_self,decide_true,cT,e11,e13,cF,b1C hk,g2,oB,bT]
    grind
   simp only[e12,oB,cF]
   have hsub:a1A s n=c0G s n:=by unfold a1A;grind
   rw[hsub]
   unfold c0G
   by_cases k0:s.1=0
   ·have ek:(s.1==0)=true:=by grind
    have hl1:s.2.2.2.2.2.2.2.2.1.length=1:=by
     have:=h9;unfold a0X at this;omega
    have g1:decide ((0:Int)≤n)=true:=by grind
    have g2:decide (n≤n)=true:=by simp
    have g3:lim n.toNat=true:=a0Q (by omega)
    simp only[ek,cT,g1,g2,g3,a03,c3B h1 h2 hl1,oB,k0,if_true]
    rfl
   ·have ek:(s.1==0)=false:=by grind
    simp[ek,c5m h hsp k0,k0]
    cases hb:backP s with
    |none=>rfl
    |some l=>
     have hll:=b8I h hb
     simp only[a2A,c7K h6 h7 hll,oB]
     cases upO s.2.1 l<;>simp[a2A]
theorem c3D(h:SmallS s)(n:Int):b1u (s,n)=some (a1A s n).isSome:=by
 grind[b1u,c3C]
@[reducible] def Wr:Type:=(List Int)×(Int×Unit)
def c0H(w:Wr)(b:Int):Wr:=
 let bs:=if w.2.1%8=0 then w.1++[0]else w.1
 (bs.set (w.2.1 / 8).toNat (bits .u8 .or (bs.getD (w.2.1 / 8).toNat 0) (z0g .u8 b (7-w.2.1%8))),w.2.1+1,())
def wL(L:List Int):Wr:=L.foldl c0H ([],0,())
theorem b9b(L:List Int)(b:Int):wL (L++[b])=c0H (wL L) b:=by simp[wL]
theorem c1w:∀(n:Nat)(L:List Int),L.length=n→(wL L).2.1=L.length∧(wL L).1.length=(L.length+7) / 8
 |0,L,h=>by
  rw[a52.1 h];exact⟨rfl,rfl⟩
 |n+1,L,h=>by
  obtain⟨g,b,rfl⟩:∃g b,L=g++[b]:=by
   rcases a80 L with rfl|⟨g,b,e⟩
   all_goals simp_all
  obtain⟨f,k⟩:=c1w n g (by simp_all);rw[b9b];simp only[c0H,List.length_set,lN,List.length_singleton,f]
  grind
theorem a3v(L:List Int):(wL L).2.1=L.length∧(wL L).1.length=(L.length+7) / 8:=c1w _ L rfl
theorem c1x{L:List Int}(l:L.length<1000000000)(b:Int):a2i (wL L,b)=some (wL (L++[b])):=by
 obtain⟨g,k⟩:=a3v L;have p:a59 ((L.length:Nat):Int) 8=((L.length:Nat):Int)%8:=a45 (by omega);have m:a86 ((L.length:Nat):Int) 8=((L.length:Nat):Int) / 8:=a38 (by omega);have c:wrap .i64 (((L.length:Nat):Int) / 8)=((L.length:Nat):Int) / 8:=a0D (by omega);have d:wrap .i64 (7-((L.length:Nat):Int)%8)=7-((L.length:Nat):Int)%8:=a0D (by omega);have e:wrap .i64 (((L.length:Nat):Int)+1)=((L.length:Nat):Int)+1:=a0D (by omega);have i:decide ((0:Int)≤((L.length:Nat):Int) / 8)=true:=by rfl
 have j:decide (7-((L.length:Nat):Int)%8<0)=false:=by grind
 rw[b9b];generalize wL L=wr at g k⊢;obtain⟨f,n,u⟩:=wr;have g:n=((L.length:Nat):Int):=g;have k:f.length=(L.length+7) / 8:=k;subst g;unfold a2i c0H
 by_cases h:((L.length:Nat):Int)%8=0
 have hb:(((L.length:Nat):Int)%8==0)=true:=by grind
 have o:lim (f.length+1)=true:=a1b (by omega);have a:decide (((L.length:Nat):Int) / 8<(((f++[0]).length:Nat):Int))=true:=by grind
 simp_all
 grind
def a5h(v:Int)(i:Nat):Int:=wrap .u8 (bits .u64 .and (z0h .u64 v (i:Int)) 1)
def pb(v:Int):Nat→List Int
 |0=>[]
 |i+1=>a5h v i::pb v i
theorem b5A(v:Int):∀n,(pb v n).length=n
 |0=>rfl
 |n+1=>by simp[pb,b5A v n]
def a0K(v:Int)(n:Nat)(L:List Int):List Int:=bif z0h .u64 v (n:Int) != 0 then L else L++pb v n
theorem a0O(v:Int)(n:Nat)(L:List Int):L.length≤(a0K v n L).length∧(a0K v n L).length≤L.length+n:=by
 grind[a0K,b5A]
def a2a(v:Int)(n:Nat):Int:=bif z0h .u64 v (n:Int) != 0 then 1 else 0
theorem c4k{v:Int}:∀(n:Nat)(L:List Int),L.length+n<1000000000→x0r a4p (v,(n:Int)-1,wL L,())=some (wL (L++pb v n),())
 |0,L,_=>by simp_all[a0F,a4p,pb]
 |n+1,L,h=>by
  have e:((n+1:Nat):Int)-1=(n:Int):=by omega
  have g:wrap .i64 ((n:Int)-1)=(n:Int)-1:=a0D (by omega);have f:decide ((n:Int)≥0)=true:=by simp
  have k:decide ((n:Int)<0)=false:=by simp
  rw[e,a0G (s':=(v,(n:Int)-1,wL (L++[a5h v n]),())) (by
   simp only[a4p,f,k,cT,cF,show wrap .u8 (bits .u64 .and (z0h .u64 v (n:Int)) 1)=a5h v n from rfl,c1x (show L.length<1000000000 by omega),oB,g])]
  rw[c4k n (L++[a5h v n]) (by simp;omega),pb]
  simp
theorem a3l{v:Int}{n:Nat}(a:n≤63)(k:L.length<999999000):a0J (wL L,v,(n:Int))=some (a2a v n,wL (a0K v n L)):=by
 unfold a0J a2a a0K;have g:decide ((n:Int)<0)=false:=by simp
 have f:decide ((n:Int) > 64)=false:=by grind
 have h:wrap .i64 ((n:Int)-1)=(n:Int)-1:=a0D (by omega);simp[g,f];cases (z0h .u64 v (n:Int) != 0)with
 |true=>rfl
 |false=>simp only[cF,h,c4k n L (by omega),oB]
theorem b8J{v:Int}:∀(n:Nat)(L:List Int),n≤64→L.length+n<1000000000→x0r a5P (v,(n:Int)-1,(L,()),())=some ((L++pb v n,()),())
 |0,L,_,_=>by simp_all[a0F,a5P,pb]
 |n+1,L,h64,h=>by
  have e:((n+1:Nat):Int)-1=(n:Int):=by omega
  have g:wrap .i64 ((n:Int)-1)=(n:Int)-1:=a0D (by omega);have f:wrap .u64 (n:Int)=(n:Int):=a0N (by omega);have k:decide ((n:Int)≥0)=true:=by simp
  have a:decide ((n:Int)<0)=false:=by simp
  have b:lim (L.length+1)=true:=a1b (by omega);rw[e,a0G (s':=(v,(n:Int)-1,(L++[a5h v n],()),())) (by
   simp only[a5P,k,a,f,b,cT,cF,show wrap .u8 (bits .u64 .and (z0h .u64 v (n:Int)) 1)=a5h v n from rfl,a06,g])]
  rw[b8J n (L++[a5h v n]) (by omega) (by simp;omega),pb]
  simp
theorem a1z{v:Int}{n:Nat}(c:n≤63)(b:L.length<999999000):a0L ((L,()),v,(n:Int))=some (a2a v n,a0K v n L,()):=by
 unfold a0L a2a a0K;have f:decide ((n:Int)<0)=false:=by simp
 have k:decide ((n:Int) > 64)=false:=by grind
 have a:decide ((n:Int)<64)=true:=by grind
 have h:wrap .i64 ((n:Int)-1)=(n:Int)-1:=a0D (by omega);have g:wrap .u64 (n:Int)=(n:Int):=a0N (by omega);simp[f,k,a,g];cases (z0h .u64 v (n:Int) != 0)with
 |true=>rfl
 |false=>simp only[cF,h,b8J n L (by omega) (by omega),oB]
def unL(n:Nat)(L:List Int):List Int:=L++a00 n 0++[1]
theorem c4l{n:Nat}(d:n≤4096)(c:L.length<999990000):a2r (wL L,(n:Int))=some (0,wL (unL n L)):=by
 unfold a2r unL;have g:decide ((n:Int)<0)=false:=by simp
 have k:decide ((n:Int) > 4096)=false:=by grind
 simp only[g,k,cF,oB]
 have:=a1y (f:=a3z) (fun i=>((n:Int),(i:Int),wL (L++a00 i 0),())) n (b:=(wL (L++a00 n 0),())) (fun i a=>by
   have h:L++a00 i (0:Int)++[0]=L++a00 (i+1) 0:=by simp_all[a41]
   simp only[a3z,dlt a,cT,c1x (show(L++a00 i (0:Int)).length<1000000000 by grind),oB,h,a0C (show i<1000000 by omega)])
  (by simp[a3z])
 grind[c1x]
theorem b8K{n:Nat}(e:n≤4096)(d:L.length<999990000):a2Y ((L,()),(n:Int))=some (0,unL n L,()):=by
 unfold a2Y unL;have k:decide ((n:Int)<0)=false:=by simp
 have a:decide ((n:Int) > 4096)=false:=by grind
 simp only[k,a,cF,oB]
 have:=a1y (f:=a4r) (fun i=>((n:Int),(i:Int),(L++a00 i 0,()),())) n (b:=((L++a00 n 0,()),())) (fun i c=>by
   have g:L++a00 i (0:Int)++[0]=L++a00 (i+1) 0:=by simp_all[a41]
   have h:lim ((L++a00 i (0:Int)).length+1)=true:=a1b (by grind);simp only[a4r,dlt c,cT,h,a06,g,a0C (show i<1000000 by omega)])
  (by simp[a4r])
 have h:lim ((L++a00 n (0:Int)).length+1)=true:=a1b (by grind);simp_all
theorem a7g(n:Nat)(L:List Int):(unL n L).length=L.length+n+1:=by simp[unL];rfl
def a0T(x:Int)(n:Nat):Int:=bits .u64 .and (wrap .u64 x) (wrap .u64 ((z0g .u64 1 (n:Int))-1))
def a1p(n:Nat)(l:List Int)(L:List Int):List Int:=l.foldl (fun L x=>a0K (a0T x n) n L) L
theorem a3N(n:Nat):∀(l L:List Int),L.length≤(a1p n l L).length∧(a1p n l L).length≤L.length+n*l.length
 | [],L=>by simp[a1p]
 |x::l,L=>by
  have h:=a0O (a0T x n) n L;have g:=a3N n l (a0K (a0T x n) n L);have e:a1p n (x::l) L=a1p n l (a0K (a0T x n) n L):=rfl;rw[e,lC,a95,a96];omega
theorem b4S{n:Nat}(f:n≤63)(g:L.length<999999000):a2P (wL L,x,(n:Int))=some (wL (a0K (a0T x n) n L)):=by
 unfold a2P;have h:decide ((n:Int)<0)=false:=by simp
 simp only[h,cF,show bits .u64 .and (wrap .u64 x) (wrap .u64 ((z0g .u64 1 (n:Int))-1))=a0T x n from rfl,a3l f g,oB]
theorem a7h{n:Nat}(d:n≤63)(j:l.length<10000)(e:L.length<900000000):a2I ((L,()),l,(n:Int))=some (a1p n l L,()):=by
 have a:wrap .u64 (n:Int)=(n:Int):=a0N (by omega);have b:decide ((n:Int)<0)=false:=by simp
 have f:∀(k i:Nat)(h:List Int),i+k=l.length→h.length+64*k<999990000→x0r a6m (l,(n:Int),(i:Int),(h,()),())=some ((a1p n (l.drop i) h,()),()):=by
  intro k
  induction k with
  |zero=>
   intro i h c _;obtain rfl:i=l.length:=by omega
   simp_all[a0F,a6m,a1p]
  |succ k ih=>
   intro i h c hb;have g:i<l.length:=by omega
   have hp:=a0O (a0T l[i] n) n h;rw[a01 g,a0G (s':=(l,(n:Int),((i+1:Nat):Int),(a0K (a0T l[i] n) n h,()),())) (by
    simp only[a6m,dlt g,cT,a0B g,oB,a,b,cF,show bits .u64 .and (wrap .u64 l[i]) (wrap .u64 ((z0g .u64 1 (n:Int))-1))=a0T l[i] n from rfl,a1z d (show h.length<999999000 by omega),a0C (show i<1000000 by omega)])]
   exact ih (i+1) _ (by omega) (by omega)
 have:=f l.length 0 L (by omega) (by omega)
 simp_all[a2I]
def a1C(x w:Int):Bool:=decide (1≤w)&&(decide (w≤31)&&(decide (z0g .i64 (-1) (w-1)≤x)&&decide (x≤wrap .i64 (z0g .i64 1 (w-1)-1))))
theorem a6G(a:w≤32):a4a (x,(w:Int))=some (a1C x w):=by
 unfold a4a a1C b4t b3o
 by_cases h1:1≤(w:Int)
 by_cases h2:(w:Int)≤31
 have h:decide ((w:Int)<1)=false:=by simp_all
 have g:decide ((w:Int) > 31)=false:=by simp_all
 have e:wrap .i64 ((w:Int)-1)=(w:Int)-1:=a0D (by omega);have f:decide ((w:Int)-1<0)=false:=by simp_all
 have k:decide ((w:Int)≥1)=true:=by simp_all
 simp[h1,h2,h,g,f,e]
 grind
 grind
 grind
theorem b5X(b:w≤32):b0O (x,(w:Int))=some (a1C x w):=by
 unfold b0O a1C b9Y b8s
 by_cases h1:1≤(w:Int)
 by_cases h2:(w:Int)≤31
 have f:decide ((w:Int)<1)=false:=by simp_all
 have k:decide ((w:Int) > 31)=false:=by simp_all
 have e:wrap .i64 ((w:Int)-1)=(w:Int)-1:=a0D (by omega);have g:wrap .u64 ((w:Int)-1)=(w:Int)-1:=a0N (by omega);have a:decide ((w:Int)-1<0)=false:=by simp_all
 have h:decide ((w:Int)≥1)=true:=by simp_all
 simp only[h,h1,h2,f,k,a,e,g,decide_true,cT,cF,oB,a40]
 grind
 grind
 grind
def a1B(x:Int):Nat→Nat→Nat
 |0,w=>w
 |k+1,w=>bif (x != 0)&&!a1C x w then a1B x k (w+1)else w
theorem b7b(x:Int):∀(k w:Nat),a1B x k w≤w+k
 |0,w=>a36 _
 |k+1,w=>by
  simp[a1B];cases (x != 0)&&!a1C x w with
  |true=>have:=b7b x k (w+1);grind
  |false=>simp
def a0E(l:List Int):Nat:=l.foldl (fun w x=>a1B x (32-w) w) 0
theorem b7U:∀(l:List Int)(w:Nat),w≤32→l.foldl (fun w x=>a1B x (32-w) w) w≤32
 | [],w,h=>h
 |x::l,w,h=>b7U l _ (show a1B x (32-w) w≤32 by grind[b7b])
theorem a3a(l:List Int):a0E l≤32:=b7U l 0 (by omega)
theorem c2S{x:Int}{l:List Int}{n i:Int}:∀(k w:Nat),w+k=32→x0r a2V ((w:Int),x,l,n,i,())=some (((a1B x k w:Nat):Int),l,n,i,())
 |0,w,h=>by
  obtain rfl:w=32:=by omega
  simp_all[a0F,a2V,a1B]
 |k+1,w,h=>by
  have g:decide ((w:Int)<32)=true:=by grind
  simp[a1B];cases hx:(x != 0)with
  |false=>simp_all[a0F,a2V]
  |true=>
   cases hf:a1C x w with
   |true=>exact a0F (by simp only[a2V,hx,g,a6G (show w≤32 by omega),hf,oB,cT,cF,bT,b06])
   |false=>
    rw[a0G (s':=(((w+1:Nat):Int),x,l,n,i,())) (by simp only[a2V,hx,g,a6G (show w≤32 by omega),hf,oB,cT,a32,a0C (show w<1000000 by omega)])];exact c2S k (w+1) (by omega)
theorem a2l(c:short l):a1w l=some ((a0E l:Nat):Int):=by
 have c:l.length<1000000:=c
 have:=a1m (f:=a6d) l (fun i (w:Nat)=>((w:Int),l,(l.length:Int),(i:Int),())) (fun w x=>(.inl (a1B x (32-w) w):Nat ⊕ (Int×Unit))) (fun _ w=>w≤32) (fun w=>((w:Int),()))
  (fun i h w e=>⟨fun d k=>by
   simp at k;subst k;refine⟨?_,by grind[b7b]⟩;simp only[a6d,dlt h,cT,a0B h,oB,c2S (32-w) w (by omega),a0C (show i<1000000 by omega)],fun b hb=>(by grind)⟩)
  (fun w _=>by simp[a6d]) (a:=0) (by omega)
 simp at this;unfold a1w;rw[this];have g:∀(l:List Int)(w:Nat),a2x (fun w x=>(.inl (a1B x (32-w) w):Nat ⊕ (Int×Unit))) l w=.inl (l.foldl (fun w x=>a1B x (32-w) w) w):=by
  intro l
  induction l with
  |nil=>intro w;rfl
  |cons x l ih=>simp_all[a2x]
 rw[g];rfl
theorem b7V{l:List Int}{i:Nat}(g:i<l.length):∀(k w:Nat),w+k=32→x0r a7I (l,(w:Int),(i:Int),())=some (l,((a1B l[i] k w:Nat):Int),(i:Int),())
 |0,w,h=>by
  obtain rfl:w=32:=by omega
  rfl
 |k+1,w,h=>by
  have f:decide ((w:Int)<32)=true:=by grind
  simp[a1B];cases hx:(l[i] != 0)with
  |false=>simp_all[a0F,a7I,a0B]
  |true=>
   cases hf:a1C l[i] w with
   |true=>exact a0F (by simp only[a7I,a0B g,hx,f,b5X (show w≤32 by omega),hf,oB,cT,cF,bT,b06])
   |false=>
    rw[a0G (s':=(l,((w+1:Nat):Int),(i:Int),())) (by simp only[a7I,a0B g,hx,f,b5X (show w≤32 by omega),hf,oB,cT,a32,a0C (show w<1000000 by omega)])];exact b7V g k (w+1) (by omega)
theorem b1D(c:short l):a6Z l=some ((a0E l:Nat):Int):=by
 have c:l.length<1000000:=c
 have:=a1m (f:=a9V) l (fun i (w:Nat)=>(l,(w:Int),(i:Int),())) (fun w x=>(.inl (a1B x (32-w) w):Nat ⊕ (Int×Unit))) (fun _ w=>w≤32) (fun w=>((w:Int),()))
  (fun i h w e=>⟨fun d k=>by
   simp at k;subst k;refine⟨?_,by grind[b7b]⟩;simp only[a9V,dlt h,cT,oB,b7V h (32-w) w (by omega),a0C (show i<1000000 by omega)],fun b hb=>(by grind)⟩)
  (fun w _=>by simp[a9V]) (a:=0) (by omega)
 simp at this;unfold a6Z;rw[this];have g:∀(l:List Int)(w:Nat),a2x (fun w x=>(.inl (a1B x (32-w) w):Nat ⊕ (Int×Unit))) l w=.inl (l.foldl (fun w x=>a1B x (32-w) w) w):=by
  intro l
  induction l with
  |nil=>intro w;rfl
  |cons x l ih=>simp_all[a2x]
 rw[g];rfl
theorem b1E(x:Int):a7R x=some (a0A x):=by
 grind[a7R,a0A]
def a0M(x:Int):Nat:=if 0≤x then(2*x).toNat else(-2*x-1).toNat
theorem a7i(h:a0A x=true):a0M x<2147483648:=by
 grind[a1H,a0M]
theorem b1F(h:a0A x=true):a9C x=some ((a0M x:Nat):Int):=by
 have f:=a1H.1 h;unfold a9C a0M;simp only[b1E,h,oB,bT,cF]
 by_cases h0:0≤x
 have g:decide (x≥0)=true:=by simp_all
 simp only[g,cT,if_pos h0]
 grind[a0D,a0N]
 have g:decide (x≥0)=false:=by simp_all
 simp only[g,cF,if_neg h0]
 grind[a0D,a0N]
theorem c7O(h:-18446744073709551616≤n∧n<0):wrap .u64 n=n+18446744073709551616:=by
 grind[wrap,IntKind.bits,IntKind.signed]
theorem c5L{y:Nat}(h:y<18446744073709551616):bits .u64 .xor (IntKind.max .u64) (y:Int)=((18446744073709551615-y:Nat):Int):=by
 show wrap .u64 (((a05 64 (IntKind.max .u64)) ^^^ (a05 64 (y:Int))).toNat:Int)=_;have g:a05 64 (IntKind.max .u64)=BitVec.allOnes 64:=by rfl
 have f:a05 64 (y:Int)=BitVec.ofNat 64 y:=a22 64 y;rw[g,f,BitVec.allOnes_xor,BitVec.toNat_not,a30,a37 h];rw[a0N (by omega)]
theorem b5Y(h:a0A x=true):b3f x=some ((a0M x:Nat):Int):=by
 have k:=a1H.1 h;unfold b3f b2d a0M;simp only[a2t,h,oB,bT,cF];have f:∀y:Int,z0g .u64 y 1=wrap .u64 (y*2):=fun y=>rfl
 by_cases h0:0≤x
 have g:decide (x<0)=false:=by simp_all
 simp only[g,cF,oB,if_pos h0,f]
 grind[a0N]
 have g:decide (x<0)=true:=by simp_all
 simp only[g,cT,oB,if_neg h0,f]
 grind[wrap,IntKind.bits,IntKind.signed,c5L]
theorem a3O{N o:Nat}(h:o≤64):z0h .u64 (N:Int) (o:Int)=((N / 2^o:Nat):Int):=b6X h
theorem b3k(h:o≤64)(g:N*2^o<9223372036854775808):z0g .u64 (N:Int) (o:Int)=((N*2^o:Nat):Int):=by
 unfold z0g;show wrap .u64 ((N:Int)*2^(min (o:Int).toNat 64))=_
 grind[a0N]
theorem b7c{y k:Nat}(c:y<18446744073709551616)(f:k≤62):bits .u64 .and (y:Int) (wrap .u64 (z0g .u64 1 (k:Int)-1))=((y%2^k:Nat):Int):=by
 have hp:2^k≤2^62:=a16 (by simp) f;have a:1≤2^k:=a87;have b:(2:Nat)^62=4611686018427387904:=by rfl
 have h:z0g .u64 1 (k:Int)=((2^k:Nat):Int):=by have:=b3k (N:=1) (o:=k) (by omega) (by omega);simp_all
 have g:wrap .u64 (((2^k:Nat):Int)-1)=((2^k-1:Nat):Int):=by grind[a0N]
 rw[h,g];show wrap .u64 (((a05 64 (y:Int)) &&& (a05 64 ((2^k-1:Nat):Int))).toNat:Int)=_;rw[a22,a22,a97,a30,a30,a37 c,a37 (by omega),Nat.and_two_pow_sub_one_eq_mod]
 have:y%2^k<2^k:=a44 _ (by omega)
 exact a0N (by omega)
theorem b0I{q:Nat}(h:q<2147483648):wrap .i64 (q:Int)=(q:Int):=a0D (by omega)
def a5i(k:Nat)(x:Int)(L:List Int):List Int:=
 if a0M x / 2^k<32 then a0K ((a0M x%2^k:Nat):Int) k (unL (a0M x / 2^k) L)else a0K ((a0M x:Nat):Int) 32 (unL 32 L)
def a3m(k:Nat)(l:List Int)(L:List Int):List Int:=l.foldl (fun L x=>a5i k x L) L
theorem b4T{k:Nat}(h:k≤25)(x:Int)(L:List Int):L.length≤(a5i k x L).length∧(a5i k x L).length≤L.length+100:=by
 grind[a5i,a0O,a7g]
theorem b7W{k:Nat}(h:k≤25):∀(l L:List Int),L.length≤(a3m k l L).length∧(a3m k l L).length≤L.length+100*l.length
 | [],L=>by simp[a3m]
 |x::l,L=>by
  have g:=b4T h x L;have f:=b7W h l (a5i k x L);have e:a3m k (x::l) L=a3m k l (a5i k x L):=rfl
  grind
theorem a9w{k:Nat}(h:k≤25):a1U (k:Int)=some true:=by
 unfold a1U
 grind
theorem b4U{k:Nat}(h:k≤25):a2H (k:Int)=some true:=by
 unfold a2H
 grind
theorem c5o{k:Nat}(y:k≤25)(E:l.length<10000)(t:l.all a0A=true)(D:L.length<900000000):b3X (wL L,(k:Int),l)=some (0,wL (a3m k l L)):=by
 have B:=a1j (f:=a9P) l (fun i=>((k:Int),l,l,(l.length:Int),(i:Int),wL L,())) (fun _=>true) (bt:=Sum.inl ((k:Int),l,wL L,())) (bf:=Sum.inl ((k:Int),l,wL L,()))
  (fun i h _=>by
   have:=lA.1 t _ (a04 h)
   simp only[a9P,dlt h,cT,a0B h,oB,b1E,this,bT,cF,a0C (show i<1000000 by omega)])
  (fun i h hp=>by simp_all) (by simp[a9P])
 have p:∀(j i:Nat)(g:List Int),i+j=l.length→g.length+100*j<999990000→x0r a7z ((k:Int),l,(l.length:Int),(i:Int),wL g,())=some (wL (a3m k (l.drop i) g),()):=by
  intro j
  induction j with
  |zero=>
   intro i g x _;obtain rfl:i=l.length:=by omega
   simp_all[a0F,a7z,a3m]
  |succ j ih=>
   intro i g x hb;have a:i<l.length:=by omega
   have c:=lA.1 t _ (a04 a);have A:=a7i c;have z:=b4T y l[i] g;have e:decide ((k:Int)<0)=false:=by simp
   have q:z0h .u64 ((a0M l[i]:Nat):Int) (k:Int)=((a0M l[i] / 2^k:Nat):Int):=a3O (by omega);have o:=a20 (a0M l[i]) (2^k);have r:=a76 (a0M l[i]) (2^k);have d:z0g .u64 ((a0M l[i] / 2^k:Nat):Int) (k:Int)=((a0M l[i] / 2^k*2^k:Nat):Int):=b3k (by omega) (by grind);have u:wrap .u64 (((a0M l[i]:Nat):Int)-((a0M l[i] / 2^k*2^k:Nat):Int))=((a0M l[i]%2^k:Nat):Int):=by
    rw[a74 (a0M l[i] / 2^k)]
    grind[a0N]
   have w:wrap .i64 ((a0M l[i] / 2^k:Nat):Int)=((a0M l[i] / 2^k:Nat):Int):=b0I (a31 o A);rw[a01 a,a0G (s':=((k:Int),l,(l.length:Int),((i+1:Nat):Int),wL (a5i k l[i] g),())) (by
    by_cases hq:a0M l[i] / 2^k<32
    have m:decide (((a0M l[i] / 2^k:Nat):Int)<32)=true:=decide_eq_true (by omega);have s:(unL (a0M l[i] / 2^k) g).length<999999000:=by
     rw[a7g];omega
    have b:=c4l (L:=g) (n:=a0M l[i] / 2^k) (a61 (a29 hq (by simp))) (by omega);have hp:=a3l (L:=unL (a0M l[i] / 2^k) g) (v:=((a0M l[i]%2^k:Nat):Int)) (n:=k) (by omega) s;simp only[a7z,dlt a,cT,a0B a,oB,b1F c,e,cF,q,m,w,b,d,u,hp,a5i,if_pos hq,a0C (show i<1000000 by omega)];have m:decide (((a0M l[i] / 2^k:Nat):Int)<32)=false:=decide_eq_false (by omega);have s:=a7g 32 g;have b:a2r (wL g,(32:Int))=some (0,wL (unL 32 g)):=c4l (L:=g) (n:=32) (by omega) (by omega);have hp:a0J (wL (unL 32 g),((a0M l[i]:Nat):Int),(32:Int))=some (a2a ((a0M l[i]:Nat):Int) 32,wL (a0K ((a0M l[i]:Nat):Int) 32 (unL 32 g))):=a3l (L:=unL 32 g) (v:=((a0M l[i]:Nat):Int)) (n:=32) (by omega) (by omega);simp only[a7z,dlt a,cT,a0B a,oB,b1F c,e,cF,q,m,b,hp,a5i,if_neg hq,a0C (show i<1000000 by omega)])]
   exact ih (i+1) _ (by omega) (by omega)
 have C:=p l.length 0 L (by omega) (by omega);simp_all[b3X,a9w]
theorem c2x{k:Nat}(r:k≤25)(C:l.length<10000)(t:l.all a0A=true)(B:L.length<900000000):b1x ((L,()),(k:Int),l)=some (0,a3m k l L,()):=by
 have o:wrap .u64 (k:Int)=(k:Int):=a0N (by omega);have e:∀(j i:Nat)(h:List Int),i+j=l.length→h.length+100*j<999990000→x0r a5R ((k:Int),l,(i:Int),(h,()),())=some ((a3m k (l.drop i) h,()),()):=by
  intro j
  induction j with
  |zero=>
   intro i h w _;obtain rfl:i=l.length:=by omega
   simp_all[a0F,a5R,a3m]
  |succ j ih=>
   intro i h w hb;have g:i<l.length:=by omega
   have a:=lA.1 t _ (a04 g);have A:=a7i a;have x:=b4T r l[i] h;have b:decide ((k:Int)<0)=false:=by simp
   have m:z0h .u64 ((a0M l[i]:Nat):Int) (k:Int)=((a0M l[i] / 2^k:Nat):Int):=a3O (by omega);have d:=a20 (a0M l[i]) (2^k);have u:=b7c (y:=a0M l[i]) (k:=k) (by omega) (by omega);have p:wrap .i64 ((a0M l[i] / 2^k:Nat):Int)=((a0M l[i] / 2^k:Nat):Int):=b0I (a31 d A);rw[a01 g,a0G (s':=((k:Int),l,((i+1:Nat):Int),(a5i k l[i] h,()),())) (by
    by_cases hq:a0M l[i] / 2^k<32
    have c:decide (((a0M l[i] / 2^k:Nat):Int)<32)=true:=decide_eq_true (by omega);have s:(unL (a0M l[i] / 2^k) h).length<999999000:=by
     rw[a7g];omega
    have f:=b8K (L:=h) (n:=a0M l[i] / 2^k) (a61 (a29 hq (by simp))) (by omega);have hp:=a1z (L:=unL (a0M l[i] / 2^k) h) (v:=((a0M l[i]%2^k:Nat):Int)) (n:=k) (by omega) s;simp only[a5R,dlt g,cT,a0B g,oB,b5Y a,o,b,cF,m,c,p,f,u,hp,a5i,if_pos hq,a0C (show i<1000000 by omega)];have c:decide (((a0M l[i] / 2^k:Nat):Int)<32)=false:=decide_eq_false (by omega);have s:=a7g 32 h;have f:a2Y ((h,()),(32:Int))=some (0,unL 32 h,()):=b8K (L:=h) (n:=32) (by omega) (by omega);have hp:a0L ((unL 32 h,()),((a0M l[i]:Nat):Int),(32:Int))=some (a2a ((a0M l[i]:Nat):Int) 32,a0K ((a0M l[i]:Nat):Int) 32 (unL 32 h),()):=a1z (L:=unL 32 h) (v:=((a0M l[i]:Nat):Int)) (n:=32) (by omega) (by omega);simp only[a5R,dlt g,cT,a0B g,oB,b5Y a,o,b,cF,m,c,p,f,hp,a5i,if_neg hq,a0C (show i<1000000 by omega)])]
   exact ih (i+1) _ (by omega) (by omega)
 have q:=e l.length 0 L (by omega) (by omega);simp at q;have z:short l:=by unfold short;omega
 unfold b1x;simp only[b4U r,oB,bT,cF,a1M z,t,q]
def a1g(zn:List Nat):List Int:=zn.map fun(a:Nat)=>(a:Int)
theorem c3E(n M:Nat):(a00 n M).sum=n*M:=by
 simp
theorem b5Z{o:Int}(h:(a1t o n warm).length≠0):∃zn:List Nat,a1t o n warm=a1g zn∧(zn.sum:Int)=n-warm∧zn.length≤256:=by
 unfold a1t at h⊢;cases hr:(a4f n warm&&(decide (0≤o)&&decide (o≤8)))with
 |false=>simp_all
 |true=>
  rw[hr]at h;simp only[cT]at h⊢;simp[a4f]at hr;unfold b1A at h⊢
  split at h
  rename_i g;rw[if_pos g];obtain⟨O,rfl⟩:=a02 hr.2.1;obtain⟨N,rfl⟩:=a02 (show 0≤n by omega);obtain⟨w,rfl⟩:=a02 (show 0≤warm by omega);simp only[tN]at g⊢;have hp:=c8N (o:=O) (by omega);have f:=a76 N (2^O);rw[g.1,a88]at f;have k:w≤N / 2^O:=by omega
  generalize N / 2^O=M at g k f⊢;generalize 2^O=P at hp f⊢;refine⟨(M-w)::a00 (P-1) M,?_,?_,?_⟩
  grind[a1g,List.map_replicate]
  rw[a68,c3E];obtain⟨q,rfl⟩:∃q,P=q+1:=⟨P-1,by omega⟩
  grind
  simp_all;simp_all
def a7j(k:Int)(part L:List Int):List Int:=
 if k=31 then a1p (a0E part) part (a0K ((a0E part:Nat):Int) 5 (a0K (wrap .u64 k) 5 L))else a3m k.toNat part (a0K (wrap .u64 k) 5 L)
def a3n:List Nat→List Int→List Int→List Int→List Int
 |z::zs,k::ks,l,L=>a3n zs ks (l.drop z) (a7j k (l.take z) L)
 |_,_,_,L=>L
theorem b4V(h:kB k=true)(part L:List Int):L.length≤(a7j k part L).length∧(a7j k part L).length≤L.length+10+100*part.length:=by
 unfold a7j;have a:=a0O (wrap .u64 k) 5 L;split;have b:=a0O ((a0E part:Nat):Int) 5 (a0K (wrap .u64 k) 5 L);have c:=a3N (a0E part) part (a0K ((a0E part:Nat):Int) 5 (a0K (wrap .u64 k) 5 L));have f:=a3a part
 have:a0E part*part.length≤32*part.length:=a42 _ f
 omega;rename_i g;simp[kB]at h
 grind[b7W]
theorem a4w(h:i<zn.length):a91 (a1g zn) i 0=((zn[i]:Nat):Int):=by
 simp_all[a1g]
theorem a1e(h:List Nat):(a1g h).length=h.length:=by simp[a1g]
theorem b2g(h:i<zn.length):(zn.drop i).sum=zn[i]+(zn.drop (i+1)).sum:=by
 grind[a01]
theorem c4m{part rest:List Int}{wd:Nat}{a b:Int}{z:List Int}{p:Prt}(k:wd≤32)(hp:part.length<10000):∀(j i:Nat)(L:List Int),i+j=part.length→L.length+64*j<999990000→
  x0r a8Y (rest,(wd:Int),a,b,part,(part.length:Int),(i:Int),z,wL L,p,())=some (rest,a,b,z,wL (a1p wd (part.drop i) L),p,())
 |0,i,L,hi,_=>by
  obtain rfl:i=part.length:=by omega
  simp_all[a0F,a8Y,a1p]
 |j+1,i,L,hi,hb=>by
  have h:i<part.length:=by omega
  have g:decide ((wd:Int)<0)=false:=by simp
  have f:=a0O (a0T part[i] wd) wd L;rw[a01 h,a0G (s':=(rest,(wd:Int),a,b,part,(part.length:Int),((i+1:Nat):Int),z,wL (a0K (a0T part[i] wd) wd L),p,())) (by
   simp only[a8Y,dlt h,cT,a0B h,oB,g,cF,show bits .u64 .and (wrap .u64 part[i]) (wrap .u64 ((z0g .u64 1 (wd:Int))-1))=a0T part[i] wd from rfl,a3l (show wd≤63 by omega) (show L.length<999999000 by omega),a0C (show i<1000000 by omega)])]
  exact c4m k hp j (i+1) _ (by omega) (by omega)
theorem b6z{zn:List Nat}{p:Prt}(N:p.2.1.length=zn.length)(c:p.2.1.all kB=true)(R:zn.length≤256):∀(j i:Nat)(l L:List Int),i+j=zn.length→(zn.drop i).sum=l.length→l.all a0A=true→l.length≤5000→L.length+10*j+100*l.length<800000000→
  x0r a4F (l,(zn.length:Int),(i:Int),a1g zn,wL L,p,())=some (wL (a3n (zn.drop i) (p.2.1.drop i) l L),())
 |0,i,l,L,hi,_,_,_,_=>by
  obtain rfl:i=zn.length:=by omega
  simp_all[a0F,a4F,a3n]
 |j+1,i,l,L,hi,hsum,hw,hl5,hb=>by
  have h:i<zn.length:=by omega
  have f:i<p.2.1.length:=by omega
  have s:=lA.1 c _ (a04 f);rw[b2g h]at hsum;have B:decide ((0:Int)≤(i:Int))=true:=by simp
  have C:decide ((i:Int)<(((a1g zn).length:Nat):Int))=true:=by simp_all[a1e]
  have D:decide ((0:Int)≤((zn[i]:Nat):Int))=true:=by simp
  have E:decide (((zn[i]:Nat):Int)≤((l.length:Nat):Int))=true:=by grind
  have t:(l.take zn[i]).length=zn[i]:=by simp_all
  have q:(l.drop zn[i]).length=(zn.drop (i+1)).sum:=by grind
  have w:(l.take zn[i]).all a0A=true:=lA.2 fun x A=>lA.1 hw x (a23 A);have y:(l.drop zn[i]).all a0A=true:=lA.2 fun x A=>lA.1 hw x (a24 A);have Q:=b4V s (l.take zn[i]) L;have O:=a0O (wrap .u64 p.2.1[i]) 5 L;have d:a0J (wL L,wrap .u64 p.2.1[i],(5:Int))=some (a2a (wrap .u64 p.2.1[i]) 5,wL (a0K (wrap .u64 p.2.1[i]) 5 L)):=a3l (n:=5) (by omega) (by omega);have G:zn.drop i=zn[i]::zn.drop (i+1):=a01 h;have H:p.2.1.drop i=p.2.1[i]::p.2.1.drop (i+1):=a01 f;rw[G,H,a3n];have r:a4F (l,(zn.length:Int),(i:Int),a1g zn,wL L,p,())=some (.inl (l.drop zn[i],(zn.length:Int),((i+1:Nat):Int),a1g zn,wL (a7j p.2.1[i] (l.take zn[i]) L),p,())):=by
   by_cases h31:p.2.1[i]=31
   have m:(p.2.1[i] != 31)=false:=by simp_all
   have v:=a3a (l.take zn[i]);have u:=a2l (l:=l.take zn[i]) (by unfold short;omega);have P:=a0O ((a0E (l.take zn[i]):Nat):Int) 5 (a0K (wrap .u64 p.2.1[i]) 5 L);have I:wrap .u64 ((a0E (l.take zn[i]):Nat):Int)=((a0E (l.take zn[i]):Nat):Int):=a0N (by omega);have o:a0J (wL (a0K (wrap .u64 p.2.1[i]) 5 L),((a0E (l.take zn[i]):Nat):Int),(5:Int))=some (a2a ((a0E (l.take zn[i]):Nat):Int) 5,wL (a0K ((a0E (l.take zn[i]):Nat):Int) 5 (a0K (wrap .u64 p.2.1[i]) 5 L))):=a3l (n:=5) (by omega) (by omega);have e:=c4m (part:=l.take zn[i]) (rest:=l.drop zn[i]) (a:=(zn.length:Int)) (b:=(i:Int)) (z:=a1g zn) (p:=p) v (by omega) (l.take zn[i]).length 0 (a0K ((a0E (l.take zn[i]):Nat):Int) 5 (a0K (wrap .u64 p.2.1[i]) 5 L)) (by omega) (by omega);simp only[nZ,a17]at e;simp only[a4F,dlt h,B,C,a4w h,D,E,cT,a03,tN,a0B f,oB,d,m,cF,u,I,o,a21,e,a0C (show i<1000000 by omega),a7j,if_pos h31];have m:(p.2.1[i] != 31)=true:=by simp_all
   simp[kB]at s;obtain⟨K,M⟩:=a02 (show 0≤p.2.1[i]by omega);have g:=c5o (k:=K) (l:=l.take zn[i]) (L:=a0K (wrap .u64 p.2.1[i]) 5 L) (by omega) (by omega) w (by omega);rw[←M]at g;have F:K=p.2.1[i].toNat:=by omega
   simp only[a4F,dlt h,B,C,a4w h,D,E,cT,a03,tN,a0B f,oB,d,m,g,a21,a0C (show i<1000000 by omega),a7j,if_neg h31,F]
  rw[a0G r];exact b6z N c R j (i+1) (l.drop zn[i]) _ (by omega) q.symm y (by omega) (by omega)
theorem b3l{zn:List Nat}{p:Prt}{l:List Int}(N:p.2.1.length=zn.length)(b:p.2.1.all kB=true)(T:zn.length≤256)(E:l.all a0A=true)(s:l.length≤5000):∀(j i off:Nat)(L:List Int),i+j=zn.length→off+(zn.drop i).sum=l.length→L.length+10*j+100*(l.length-off)<800000000→
  x0r a3u (l,(off:Int),(i:Int),a1g zn,(L,()),p,())=some ((a3n (zn.drop i) (p.2.1.drop i) (l.drop off) L,()),())
 |0,i,off,L,hi,_,_=>by
  obtain rfl:i=zn.length:=by omega
  simp_all[a0F,a3u,a3n,a1e]
 |j+1,i,off,L,hi,hsum,hb=>by
  have a:i<zn.length:=by omega
  have f:i<p.2.1.length:=by omega
  have q:=lA.1 b _ (a04 f);rw[b2g a]at hsum;have y:decide ((0:Int)≤(i:Int))=true:=by simp
  have z:decide ((i:Int)<(((a1g zn).length:Nat):Int))=true:=by simp_all[a1e]
  have w:wrap .i64 ((off:Int)+((zn[i]:Nat):Int))=((off+zn[i]:Nat):Int):=by grind[a0D]
  have A:decide ((0:Int)≤((off+zn[i]:Nat):Int))=true:=by rfl
  have B:decide (((off+zn[i]:Nat):Int)≤((l.length:Nat):Int))=true:=by grind
  have C:decide ((0:Int)≤(off:Int))=true:=by simp
  have D:decide ((off:Int)≤((off+zn[i]:Nat):Int))=true:=by grind
  have h:List.drop off (b07 (off+zn[i]) l)=(l.drop off).take zn[i]:=by grind
  have d:(l.drop off).drop zn[i]=l.drop (off+zn[i]):=by simp
  have t:((l.drop off).take zn[i]).length=zn[i]:=by rw[a08,a46];omega
  have v:((l.drop off).take zn[i]).all a0A=true:=lA.2 fun x S=>lA.1 E x (a24 (a23 S));have Q:=b4V q ((l.drop off).take zn[i]) L;have O:=a0O (wrap .u64 p.2.1[i]) 5 L;have c:a0L ((L,()),wrap .u64 p.2.1[i],(5:Int))=some (a2a (wrap .u64 p.2.1[i]) 5,a0K (wrap .u64 p.2.1[i]) 5 L,()):=a1z (n:=5) (by omega) (by omega);have G:zn.drop i=zn[i]::zn.drop (i+1):=a01 a;have H:p.2.1.drop i=p.2.1[i]::p.2.1.drop (i+1):=a01 f;rw[G,H,a3n,d];have o:a3u (l,(off:Int),(i:Int),a1g zn,(L,()),p,())=some (.inl (l,((off+zn[i]:Nat):Int),((i+1:Nat):Int),a1g zn,(a7j p.2.1[i] ((l.drop off).take zn[i]) L,()),p,())):=by
   by_cases h31:p.2.1[i]=31
   have e:(p.2.1[i]==31)=true:=by simp_all
   have R:=a3a ((l.drop off).take zn[i]);have u:=b1D (l:=(l.drop off).take zn[i]) (by unfold short;omega);have P:=a0O ((a0E ((l.drop off).take zn[i]):Nat):Int) 5 (a0K (wrap .u64 p.2.1[i]) 5 L);have I:wrap .u64 ((a0E ((l.drop off).take zn[i]):Nat):Int)=((a0E ((l.drop off).take zn[i]):Nat):Int):=a0N (by omega);have m:a0L ((a0K (wrap .u64 p.2.1[i]) 5 L,()),((a0E ((l.drop off).take zn[i]):Nat):Int),(5:Int))=some (a2a ((a0E ((l.drop off).take zn[i]):Nat):Int) 5,a0K ((a0E ((l.drop off).take zn[i]):Nat):Int) 5 (a0K (wrap .u64 p.2.1[i]) 5 L),()):=a1z (n:=5) (by omega) (by omega);have r:=a7h (l:=(l.drop off).take zn[i]) (L:=a0K ((a0E ((l.drop off).take zn[i]):Nat):Int) 5 (a0K (wrap .u64 p.2.1[i]) 5 L)) (n:=a0E ((l.drop off).take zn[i])) (by omega) (by omega) (by omega);simp only[a3u,y,z,a4w a,w,A,B,C,D,cT,a03,tN,a0B f,oB,c,e,h,u,I,m,r,a0C (show i<1000000 by omega),a7j,if_pos h31];have e:(p.2.1[i]==31)=false:=by simp_all
   simp[kB]at q;obtain⟨K,M⟩:=a02 (show 0≤p.2.1[i]by omega);have g:=c2x (k:=K) (l:=(l.drop off).take zn[i]) (L:=a0K (wrap .u64 p.2.1[i]) 5 L) (by omega) (by omega) v (by omega);rw[←M]at g;have F:K=p.2.1[i].toNat:=by omega
   simp only[a3u,y,z,a4w a,w,A,B,C,D,cT,cF,a03,tN,a0B f,oB,c,e,h,g,a0C (show i<1000000 by omega),a7j,if_neg h31,F]
  rw[a0G o];exact b3l N b T E s j (i+1) (off+zn[i]) _ (by omega) (by omega) (by omega)
theorem c2y{k:Nat}(d:k≤25)(g:a0A x=true):∃c,a7S ((k:Int),x)=some c∧0≤c∧c≤65:=by
 have e:=a7i g;have f:z0h .u64 ((a0M x:Nat):Int) (k:Int)=((a0M x / 2^k:Nat):Int):=a3O (by omega);have a:wrap .i64 ((a0M x / 2^k:Nat):Int)=((a0M x / 2^k:Nat):Int):=b0I (a31 (a20 _ _) e);have h:decide ((k:Int)<0)=false:=by simp
 unfold a7S;simp only[a9w d,b1E,g,oB,bT,cF,b1F g,h,f,a];generalize a0M x / 2^k=q
 by_cases hq:q<32
 have b:decide ((q:Int)<32)=true:=decide_eq_true (by omega);refine⟨(q:Int)+1+k,?_,by omega,by omega⟩;simp only[b,cT]
 grind[a0D]
 grind
theorem b9g{k:Nat}(e:k≤25)(g:a0A x=true):∃c,a9W ((k:Int),x)=some c∧0≤c∧c≤65:=by
 have i:=a7i g;have f:z0h .u64 ((a0M x:Nat):Int) (k:Int)=((a0M x / 2^k:Nat):Int):=a3O (by omega);have b:wrap .i64 ((a0M x / 2^k:Nat):Int)=((a0M x / 2^k:Nat):Int):=b0I (a31 (a20 _ _) i);have a:wrap .u64 (k:Int)=(k:Int):=a0N (by omega);have h:decide ((k:Int)<0)=false:=by simp
 unfold a9W;simp only[b4U e,a2t,g,oB,bT,cF,b5Y g,a,h,f,b];generalize a0M x / 2^k=q
 by_cases hq:q<32
 have d:decide ((q:Int)<32)=true:=decide_eq_true (by omega);refine⟨(q:Int)+1+k,?_,by omega,by omega⟩;simp only[d,cT]
 grind[a0D]
 grind
theorem c3F{k:Nat}(p:k≤25)(q:l.all a0A=true)(t:l.length<10000):∃c,a3y ((k:Int),l)=some c∧0≤c∧c≤65*l.length:=by
 have g:∀(j i:Nat)(c:Int),i+j=l.length→0≤c→c≤65*i→∃c',x0r a4d ((k:Int),c,l,(l.length:Int),(i:Int),())=some (c',())∧0≤c'∧c'≤65*l.length:=by
  intro j
  induction j with
  |zero=>
   intro i c o a f;obtain rfl:i=l.length:=by omega
   simp_all[a0F,a4d]
  |succ j ih=>
   intro i c o a f;have h:i<l.length:=by omega
   obtain⟨d,b,m,n⟩:=c2y p (lA.1 q _ (a04 h));have e:wrap .i64 (c+d)=c+d:=a0D (by omega);rw[a0G (s':=((k:Int),c+d,l,(l.length:Int),((i+1:Nat):Int),())) (by simp only[a4d,dlt h,cT,a0B h,oB,b,e,a0C (show i<1000000 by omega)])];exact ih (i+1) _ (by omega) (by omega) (by omega)
 obtain⟨c,f,r,s⟩:=g l.length 0 0 (by omega) (by omega) (by omega);simp_all[a3y]
theorem c0I{k:Nat}(p:k≤25)(q:l.all a0A=true)(t:l.length<10000):∃c,b1w ((k:Int),l)=some c∧0≤c∧c≤65*l.length:=by
 have g:∀(j i:Nat)(c:Int),i+j=l.length→0≤c→c≤65*i→∃c',x0r a8t ((k:Int),l,c,(i:Int),())=some (c',())∧0≤c'∧c'≤65*l.length:=by
  intro j
  induction j with
  |zero=>
   intro i c o a f;obtain rfl:i=l.length:=by omega
   simp_all[a0F,a8t]
  |succ j ih=>
   intro i c o a f;have h:i<l.length:=by omega
   obtain⟨d,b,m,n⟩:=b9g p (lA.1 q _ (a04 h));have e:wrap .i64 (c+d)=c+d:=a0D (by omega);rw[a0G (s':=((k:Int),l,c+d,((i+1:Nat):Int),())) (by simp only[a8t,dlt h,cT,a0B h,oB,b,e,a0C (show i<1000000 by omega)])];exact ih (i+1) _ (by omega) (by omega) (by omega)
 obtain⟨c,f,r,s⟩:=g l.length 0 0 (by omega) (by omega) (by omega);simp_all[b1w]
theorem c2T{n:Nat}(g:w≤32)(f:n<10000):0≤(w:Int)*(n:Int)∧(w:Int)*(n:Int)≤32*n:=by
 have h:w*n≤32*n:=a42 _ g;omega
theorem c2z(h:l.length<10000):∃c,a5X l=some c∧0≤c∧c≤5+32*l.length:=by
 have g:=c2T (a3a l) h;refine⟨5+((a0E l:Nat):Int)*((l.length:Nat):Int),?_,by omega,by omega⟩;unfold a5X;simp only[a2l (show short l by unfold short;omega),oB]
 grind[a0D]
theorem b5B{zn:List Nat}{p:Prt}(H:p.2.1.length=zn.length)(g:p.2.1.all kB=true)(I:zn.length≤256):∀(j i:Nat)(l:List Int)(c:Int),i+j=zn.length→(zn.drop i).sum=l.length→l.all a0A=true→l.length≤5000→4≤c→c+10*j+65*l.length<1000000→
  ∃c',x0r a1x (l,c,(zn.length:Int),(i:Int),a1g zn,p,())=some (c',())∧4≤c'
 |0,i,l,c,hi,_,_,_,hc,_=>by
  obtain rfl:i=zn.length:=by omega
  simp_all[a0F,a1x]
 |j+1,i,l,c,hi,hsum,hw,hl5,hc,hb=>by
  have h:i<zn.length:=by omega
  have f:i<p.2.1.length:=by omega
  have q:=lA.1 g _ (a04 f);rw[b2g h]at hsum;have z:decide ((0:Int)≤(i:Int))=true:=by simp
  have A:decide ((i:Int)<(((a1g zn).length:Nat):Int))=true:=by simp_all[a1e]
  have B:decide ((0:Int)≤((zn[i]:Nat):Int))=true:=by simp
  have C:decide (((zn[i]:Nat):Int)≤((l.length:Nat):Int))=true:=by grind
  have s:(l.take zn[i]).length=zn[i]:=by simp_all
  have b:(l.drop zn[i]).length=(zn.drop (i+1)).sum:=by grind
  have v:(l.take zn[i]).all a0A=true:=lA.2 fun x y=>lA.1 hw x (a23 y);have w:(l.drop zn[i]).all a0A=true:=lA.2 fun x y=>lA.1 hw x (a24 y);have e:∃d,a1x (l,c,(zn.length:Int),(i:Int),a1g zn,p,())=some (.inl (l.drop zn[i],c+d,(zn.length:Int),((i+1:Nat):Int),a1g zn,p,()))∧0≤d∧d≤10+65*zn[i]:=by
   by_cases h31:p.2.1[i]=31
   have a:(p.2.1[i]==31)=true:=by simp_all
   obtain⟨r,m,t,u⟩:=c2z (l:=l.take zn[i]) (by omega);have n:wrap .i64 (5+r)=5+r:=a0D (by omega);have o:wrap .i64 (c+(5+r))=c+(5+r):=a0D (by omega);refine⟨5+r,?_,by omega,by omega⟩;simp only[a1x,dlt h,z,A,a4w h,B,C,cT,a03,tN,a0B f,oB,a,m,n,o,a21,a0C (show i<1000000 by omega)];have a:(p.2.1[i]==31)=false:=by simp_all
   simp[kB]at q;obtain⟨K,D⟩:=a02 (show 0≤p.2.1[i]by omega);obtain⟨r,m,t,u⟩:=c3F (k:=K) (by omega) v (by omega);rw[←D]at m;have n:wrap .i64 (5+r)=5+r:=a0D (by omega);have o:wrap .i64 (c+(5+r))=c+(5+r):=a0D (by omega);refine⟨5+r,?_,by omega,by omega⟩;simp only[a1x,dlt h,z,A,a4w h,B,C,cT,cF,a03,tN,a0B f,oB,a,m,n,o,a21,a0C (show i<1000000 by omega)]
  obtain⟨d,E,F,G⟩:=e;rw[a0G E];exact b5B H g I j (i+1) (l.drop zn[i]) _ (by omega) b.symm w (by omega) (by omega) (by omega)
theorem b1V{zn:List Nat}{p:Prt}{l:List Int}(H:p.2.1.length=zn.length)(h:p.2.1.all kB=true)(N:zn.length≤256)(t:l.all a0A=true)(o:l.length≤5000):∀(j i off:Nat)(c:Int),i+j=zn.length→off+(zn.drop i).sum=l.length→4≤c→c+10*j+65*(l.length-off:Nat)<1000000→
  ∃c',x0r a6n (l,c,(off:Int),(i:Int),a1g zn,p,())=some (c',())∧4≤c'
 |0,i,off,c,hi,_,hc,_=>by
  obtain rfl:i=zn.length:=by omega
  simp_all[a0F,a6n,a1e]
 |j+1,i,off,c,hi,hsum,hc,hb=>by
  have b:i<zn.length:=by omega
  have a:i<p.2.1.length:=by omega
  have m:=lA.1 h _ (a04 a);rw[b2g b]at hsum;have y:decide ((0:Int)≤(i:Int))=true:=by simp
  have z:decide ((i:Int)<(((a1g zn).length:Nat):Int))=true:=by simp_all[a1e]
  have w:wrap .i64 ((off:Int)+((zn[i]:Nat):Int))=((off+zn[i]:Nat):Int):=by grind[a0D]
  have A:decide ((0:Int)≤((off+zn[i]:Nat):Int))=true:=by rfl
  have B:decide (((off+zn[i]:Nat):Int)≤((l.length:Nat):Int))=true:=by grind
  have C:decide ((0:Int)≤(off:Int))=true:=by simp
  have D:decide ((off:Int)≤((off+zn[i]:Nat):Int))=true:=by grind
  have g:List.drop off (b07 (off+zn[i]) l)=(l.drop off).take zn[i]:=by grind
  have q:((l.drop off).take zn[i]).length=zn[i]:=by rw[a08,a46];omega
  have s:((l.drop off).take zn[i]).all a0A=true:=lA.2 fun x M=>lA.1 t x (a24 (a23 M));have f:∃d,a9X (p.2.1[i],(l.drop off).take zn[i])=some d∧0≤d∧d≤5+65*zn[i]:=by
   unfold a9X
   by_cases h31:p.2.1[i]=31
   have e:(p.2.1[i]==31)=true:=by simp_all
   have P:=c2T (a3a ((l.drop off).take zn[i])) (show((l.drop off).take zn[i]).length<10000 by omega);refine⟨5+((a0E ((l.drop off).take zn[i]):Nat):Int)*((((l.drop off).take zn[i]).length:Nat):Int),?_,by omega,by omega⟩;simp only[e,cT,b1D (show short ((l.drop off).take zn[i])by unfold short;omega),oB];rw[a62 (((((l.drop off).take zn[i]).length:Nat):Int)),a0D (n:=((a0E ((l.drop off).take zn[i]):Nat):Int)*((((l.drop off).take zn[i]).length:Nat):Int)) (by omega),a0D (by omega)];have e:(p.2.1[i]==31)=false:=by simp_all
   simp[kB]at m;obtain⟨K,O⟩:=a02 (show 0≤p.2.1[i]by omega);obtain⟨r,Q,I,L⟩:=c0I (k:=K) (by omega) s (by omega)
   grind
  obtain⟨d,E,F,G⟩:=f;have u:wrap .i64 (c+5)=c+5:=a0D (by omega);have v:wrap .i64 (c+5+d)=c+5+d:=a0D (by omega);rw[a0G (s':=(l,c+5+d,((off+zn[i]:Nat):Int),((i+1:Nat):Int),a1g zn,p,())) (by
   simp only[a6n,y,z,a4w b,w,A,B,C,D,cT,a03,tN,a0B a,oB,g,E,u,v,a0C (show i<1000000 by omega)])]
  exact b1V H h N t o j (i+1) (off+zn[i]) _ (by omega) (by omega) (by omega) (by omega)
structure PartsOk (p:Prt) (n warm:Int) (l:List Int) (zn:List Nat):Prop where
 may:a2U p n warm=true
 sizes:a1t p.1 n warm=a1g zn
 sum:zn.sum=l.length
 len:zn.length≤256
 ks:p.2.1.length=zn.length
 all:p.2.1.all kB=true
 wide:l.all a0A=true
 short:l.length≤5000
 row:a4f n warm=true
 rest:(l.length:Int)=n-warm
 order:0≤p.1∧p.1≤8
theorem PartsOk.of{p:Prt}{n warm:Int}{l:List Int}(h:a2U p n warm=true)(i:(l.length:Int)=n-warm)(j:l.all a0A=true)(e:l.length≤5000):∃g,PartsOk p n warm l g:=by
 have f:=h;simp only[a2U,bA,a34,beq_eq_false_iff_ne,ne_eq,beq_iff_eq]at f;obtain⟨c,o,d⟩:=f;obtain⟨g,a,m,b⟩:=b5Z c;have k:a4f n warm=true∧0≤p.1∧p.1≤8:=by
  grind[a1t]
 exact⟨g,h,a,by omega,b,by simp_all[a1e],d,j,e,k.1,i,k.2⟩
theorem b2h{n warm:Int}{l:List Int}(h:a4f n warm=true)(c:(l.length:Int)=n-warm)(d:l.all a0A=true)(a:l.length≤5000):a7w (n,warm,l)=some true:=by
 have e:wrap .i64 (n-warm)=n-warm:=by
  simp[a4f]at h;exact a0D (by omega)
 have k:(((l.length:Nat):Int) != n-warm)=false:=by simp_all
 have f:b4C=a2y:=rfl;have g:short l:=by unfold short;omega
 have b:=a4H g;simp_all[a2v,a7w,b4P]
theorem c1y(h:PartsOk p n warm l zn):∃c,a4P (p,n,warm,l)=some c∧4≤c:=by
 have k:Go.Ab.short p.2.1:=by have:=h.ks;have:=h.len;unfold Go.Ab.short;omega
 have a:=h.short;have b:=h.len;obtain⟨c,g,f⟩:=b5B h.ks h.all h.len zn.length 0 l 4 (by omega) (by rw[a17];exact h.sum) h.wide h.short (by omega) (by omega);simp at g;refine⟨c,?_,f⟩;unfold a4P;simp only[b1B k,h.may,b2h h.row h.rest h.wide h.short,oB,bT,cF,a1Z,h.sizes,a1e,g]
theorem b8L(h:PartsOk p n warm l zn):∃c,a9j (p,n,warm,l)=some c∧4≤c:=by
 have a:Go.Ab.short p.2.1:=by have:=h.ks;have:=h.len;unfold Go.Ab.short;omega
 have d:Go.Ab.short l:=by have:=h.short;unfold Go.Ab.short;omega
 have i:=h.short;have j:=h.len;have b:=h.row;simp[a4f]at b;have e:wrap .i64 (n-warm)=n-warm:=a0D (by omega);have k:(((l.length:Nat):Int) != n-warm)=false:=by rw[h.rest];simp
 obtain⟨c,g,f⟩:=b1V h.ks h.all h.len h.wide h.short zn.length 0 0 4 (by omega) (by rw[a17,h.sum];omega) (by omega) (by omega);simp at g;refine⟨c,?_,f⟩;unfold a9j;simp only[b1C a,h.may,oB,bT,cF,e,k,a1M d,h.wide,a9v,h.sizes,g]
def a1V(p:Prt)(zn:List Nat)(l L:List Int):List Int:=a3n zn p.2.1 l (a0K (wrap .u64 p.1) 4 L)
theorem c4n(h:PartsOk p n warm l zn)(i:L.length<700000000):b2C (wL L,p,n,warm,l)=some (0,wL (a1V p zn l L)):=by
 have e:=h.short;have j:=h.len;obtain⟨c,a,b⟩:=c1y h;have k:(c==0)=false:=by grind
 have d:=a0O (wrap .u64 p.1) 4 L;have f:a0J (wL L,wrap .u64 p.1,(4:Int))=some (a2a (wrap .u64 p.1) 4,wL (a0K (wrap .u64 p.1) 4 L)):=a3l (n:=4) (by omega) (by omega);have g:=b6z h.ks h.all h.len zn.length 0 l (a0K (wrap .u64 p.1) 4 L) (by omega) (by rw[a17];exact h.sum) h.wide h.short (by omega);simp at g;unfold b2C;simp only[a,oB,k,cF,f,a1Z,h.sizes,a1e,g,a1V]
theorem c1z(h:PartsOk p n warm l zn)(i:L.length<700000000):a9Y ((L,()),p,n,warm,l)=some (0,a1V p zn l L,()):=by
 have e:=h.short;have j:=h.len;obtain⟨c,a,b⟩:=b8L h;have k:(c==0)=false:=by grind
 have d:=a0O (wrap .u64 p.1) 4 L;have f:a0L ((L,()),wrap .u64 p.1,(4:Int))=some (a2a (wrap .u64 p.1) 4,a0K (wrap .u64 p.1) 4 L,()):=a1z (n:=4) (by omega) (by omega);have g:=b3l h.ks h.all h.len h.wide h.short zn.length 0 0 (a0K (wrap .u64 p.1) 4 L) (by omega) (by rw[a17,h.sum];omega) (by omega);simp at g;unfold a9Y;simp only[a,oB,k,cF,f,a9v,h.sizes,g,a1V]
theorem c1A{c:List Int}{wd:Nat}(k:wd≤32)(g:c.length<10000):∀(j i:Nat)(L:List Int),i+j=c.length→L.length+64*j<999990000→
  x0r a6f ((wd:Int),c,(c.length:Int),(i:Int),wL L,())=some (wL (a1p wd (c.drop i) L),())
 |0,i,L,hi,_=>by
  obtain rfl:i=c.length:=by omega
  simp_all[a0F,a6f,a1p]
 |j+1,i,L,hi,hb=>by
  have h:i<c.length:=by omega
  have f:=a0O (a0T c[i] wd) wd L;rw[a01 h,a0G (s':=((wd:Int),c,(c.length:Int),((i+1:Nat):Int),wL (a0K (a0T c[i] wd) wd L),())) (by
   simp only[a6f,dlt h,cT,a0B h,oB,b4S (show wd≤63 by omega) (show L.length<999999000 by omega),a0C (show i<1000000 by omega)])]
  exact c1A k g j (i+1) _ (by omega) (by omega)
theorem c2U{t:List Int}{n wd:Int}{s:Sub}(a:t.length=3):∀(j i:Nat)(L:List Int),i+j=3→L.length+64*j<999990000→
  x0r b1k (n,wd,t,(i:Int),wL L,s,())=some (n,wd,wL (a1p 8 (t.drop i) L),s,())
 |0,i,L,hi,_=>by
  obtain rfl:i=t.length:=by omega
  grind[a0F,b1k,a1p]
 |j+1,i,L,hi,hb=>by
  have h:i<t.length:=by omega
  have f:decide ((i:Int)<3)=true:=by grind
  have k:=a0O (a0T t[i] 8) 8 L;have g:a2P (wL L,t[i],(8:Int))=some (wL (a0K (a0T t[i] 8) 8 L)):=b4S (n:=8) (by omega) (by omega);rw[a01 h,a0G (s':=(n,wd,t,((i+1:Nat):Int),wL (a0K (a0T t[i] 8) 8 L),s,())) (by
   simp only[b1k,f,cT,a0B h,oB,g,a0C (show i<1000000 by omega)])]
  exact c2U a j (i+1) _ (by omega) (by omega)
theorem c2V{l:List Int}{n:Int}{wd:Nat}{s:Sub}(k:wd≤32)(g:l.length<10000):∀(j i:Nat)(L:List Int),i+j=l.length→L.length+64*j<999990000→
  x0r b1m (n,(wd:Int),l,(l.length:Int),(i:Int),wL L,s,())=some (n,wL (a1p wd (l.drop i) L),s,())
 |0,i,L,hi,_=>by
  obtain rfl:i=l.length:=by omega
  simp_all[a0F,b1m,a1p]
 |j+1,i,L,hi,hb=>by
  have h:i<l.length:=by omega
  have f:=a0O (a0T l[i] wd) wd L;rw[a01 h,a0G (s':=(n,(wd:Int),l,(l.length:Int),((i+1:Nat):Int),wL (a0K (a0T l[i] wd) wd L),s,())) (by
   simp only[b1m,dlt h,cT,a0B h,oB,b4S (show wd≤63 by omega) (show L.length<999999000 by omega),a0C (show i<1000000 by omega)])]
  exact c2V k g j (i+1) _ (by omega) (by omega)
def a4Z(s:Stg)(L:List Int):List Int:=a0K (wrap .u64 s.2.1) 4 (a0K (wrap .u64 (wrap .i64 (s.1-1))) 5 L)
def a2b(st:List Stg)(L:List Int):List Int:=st.foldl (fun L s=>a4Z s L) L
theorem b3G(s:Stg)(L:List Int):(a4Z s L).length≤L.length+9:=by
 grind[a0O,a4Z]
theorem b6A:∀(st:List Stg)(L:List Int),(a2b st L).length≤L.length+9*st.length
 | [],L=>by simp[a2b]
 |s::st,L=>by
  have h:=b3G s L;have g:=b6A st (a4Z s L);have e:a2b (s::st) L=a2b st (a4Z s L):=rfl
  grind
theorem b9K{st:List Stg}{n wd:Int}{s:Sub}(a:st.length<10000):∀(j i:Nat)(L:List Int),i+j=st.length→L.length+64*j<999990000→
  x0r b1l (n,wd,st,(st.length:Int),(i:Int),wL L,s,())=some (n,wd,wL (a2b (st.drop i) L),s,())
 |0,i,L,hi,_=>by
  obtain rfl:i=st.length:=by omega
  simp_all[a0F,b1l,a2b]
 |j+1,i,L,hi,hb=>by
  have h:i<st.length:=by omega
  have k:=a0O (wrap .u64 (wrap .i64 (st[i].1-1))) 5 L;have b:=b3G st[i] L;have g:a0J (wL L,wrap .u64 (wrap .i64 (st[i].1-1)),(5:Int))=some (a2a (wrap .u64 (wrap .i64 (st[i].1-1))) 5,wL (a0K (wrap .u64 (wrap .i64 (st[i].1-1))) 5 L)):=a3l (n:=5) (by omega) (by omega);have f:a0J (wL (a0K (wrap .u64 (wrap .i64 (st[i].1-1))) 5 L),wrap .u64 st[i].2.1,(4:Int))=some (a2a (wrap .u64 st[i].2.1) 4,wL (a4Z st[i] L)):=a3l (n:=4) (by omega) (by omega);rw[a01 h,a0G (s':=(n,wd,st,(st.length:Int),((i+1:Nat):Int),wL (a4Z st[i] L),s,())) (by
   simp only[b1l,dlt h,cT,a0B h,oB,g,f,a0C (show i<1000000 by omega)])]
  exact b9K a j (i+1) _ (by omega) (by omega)
theorem b5C{n wd:Int}{s:Sub}(a:s.2.2.2.2.2.2.2.1.length<10000):∀(j i:Nat)(L:List Int),i+j=s.2.2.2.2.2.2.2.1.length→L.length+64*j<999990000→
  x0r a8u (n,wd,(i:Int),(L,()),s,())=some (n,wd,(a2b (s.2.2.2.2.2.2.2.1.drop i) L,()),s,())
 |0,i,L,hi,_=>by
  obtain rfl:i=s.2.2.2.2.2.2.2.1.length:=by omega
  simp_all[a0F,a8u,a2b]
 |j+1,i,L,hi,hb=>by
  have h:i<s.2.2.2.2.2.2.2.1.length:=by omega
  have k:=a0O (wrap .u64 (wrap .i64 (s.2.2.2.2.2.2.2.1[i].1-1))) 5 L;have b:=b3G s.2.2.2.2.2.2.2.1[i] L;have g:a0L ((L,()),wrap .u64 (wrap .i64 (s.2.2.2.2.2.2.2.1[i].1-1)),(5:Int))=some (a2a (wrap .u64 (wrap .i64 (s.2.2.2.2.2.2.2.1[i].1-1))) 5,a0K (wrap .u64 (wrap .i64 (s.2.2.2.2.2.2.2.1[i].1-1))) 5 L,()):=a1z (n:=5) (by omega) (by omega);have f:a0L ((a0K (wrap .u64 (wrap .i64 (s.2.2.2.2.2.2.2.1[i].1-1))) 5 L,()),wrap .u64 s.2.2.2.2.2.2.2.1[i].2.1,(4:Int))=some (a2a (wrap .u64 s.2.2.2.2.2.2.2.1[i].2.1) 4,a4Z s.2.2.2.2.2.2.2.1[i] L,()):=a1z (n:=4) (by omega) (by omega);rw[a01 h,a0G (s':=(n,wd,((i+1:Nat):Int),(a4Z s.2.2.2.2.2.2.2.1[i] L,()),s,())) (by
   simp only[a8u,dlt h,cT,a0B h,oB,g,f,a0C (show i<1000000 by omega)])]
  exact b5C a j (i+1) _ (by omega) (by omega)
def a3P(s:Sub)(L:List Int):List Int:=
 a1p (a0E s.2.2.2.2.2.1) s.2.2.2.2.2.1 (a0K ((a0E s.2.2.2.2.2.1:Nat):Int) 5 (a0K (wrap .u64 s.2.2.2.1) 4 (a0K (wrap .u64 (wrap .i64 (((s.2.2.2.2.2.1.length:Nat):Int)-1))) 5 L)))
theorem c3G{s:Sub}(h:s.2.2.2.2.2.1.length≤40)(L:List Int):(a3P s L).length≤L.length+2000:=by
 unfold a3P;have f:=a0O (wrap .u64 (wrap .i64 (((s.2.2.2.2.2.1.length:Nat):Int)-1))) 5 L;have k:=a0O (wrap .u64 s.2.2.2.1) 4 (a0K (wrap .u64 (wrap .i64 (((s.2.2.2.2.2.1.length:Nat):Int)-1))) 5 L);have a:=a0O ((a0E s.2.2.2.2.2.1:Nat):Int) 5 (a0K (wrap .u64 s.2.2.2.1) 4 (a0K (wrap .u64 (wrap .i64 (((s.2.2.2.2.2.1.length:Nat):Int)-1))) 5 L));have b:=a3N (a0E s.2.2.2.2.2.1) s.2.2.2.2.2.1 (a0K ((a0E s.2.2.2.2.2.1:Nat):Int) 5 (a0K (wrap .u64 s.2.2.2.1) 4 (a0K (wrap .u64 (wrap .i64 (((s.2.2.2.2.2.1.length:Nat):Int)-1))) 5 L)));have g:=a3a s.2.2.2.2.2.1
 have:a0E s.2.2.2.2.2.1*s.2.2.2.2.2.1.length≤32*40:=a81 g h
 omega
theorem b9L(h:s.2.2.2.2.2.1.length≤40)(l:L.length<900000000):a8X (wL L,s)=some (wL (a3P s L)):=by
 have e:=a0O (wrap .u64 (wrap .i64 (((s.2.2.2.2.2.1.length:Nat):Int)-1))) 5 L;have i:=a0O (wrap .u64 s.2.2.2.1) 4 (a0K (wrap .u64 (wrap .i64 (((s.2.2.2.2.2.1.length:Nat):Int)-1))) 5 L);have j:=a0O ((a0E s.2.2.2.2.2.1:Nat):Int) 5 (a0K (wrap .u64 s.2.2.2.1) 4 (a0K (wrap .u64 (wrap .i64 (((s.2.2.2.2.2.1.length:Nat):Int)-1))) 5 L));have k:=a3a s.2.2.2.2.2.1;have f:wrap .u64 ((a0E s.2.2.2.2.2.1:Nat):Int)=((a0E s.2.2.2.2.2.1:Nat):Int):=a0N (by omega);have a:a0J (wL L,wrap .u64 (wrap .i64 (((s.2.2.2.2.2.1.length:Nat):Int)-1)),(5:Int))=some (a2a (wrap .u64 (wrap .i64 (((s.2.2.2.2.2.1.length:Nat):Int)-1))) 5,wL (a0K (wrap .u64 (wrap .i64 (((s.2.2.2.2.2.1.length:Nat):Int)-1))) 5 L)):=a3l (n:=5) (by omega) (by omega);have b:a0J (wL (a0K (wrap .u64 (wrap .i64 (((s.2.2.2.2.2.1.length:Nat):Int)-1))) 5 L),wrap .u64 s.2.2.2.1,(4:Int))=some (a2a (wrap .u64 s.2.2.2.1) 4,wL (a0K (wrap .u64 s.2.2.2.1) 4 (a0K (wrap .u64 (wrap .i64 (((s.2.2.2.2.2.1.length:Nat):Int)-1))) 5 L))):=a3l (n:=4) (by omega) (by omega);have d:a0J (wL (a0K (wrap .u64 s.2.2.2.1) 4 (a0K (wrap .u64 (wrap .i64 (((s.2.2.2.2.2.1.length:Nat):Int)-1))) 5 L)),((a0E s.2.2.2.2.2.1:Nat):Int),(5:Int))=some (a2a ((a0E s.2.2.2.2.2.1:Nat):Int) 5,wL (a0K ((a0E s.2.2.2.2.2.1:Nat):Int) 5 (a0K (wrap .u64 s.2.2.2.1) 4 (a0K (wrap .u64 (wrap .i64 (((s.2.2.2.2.2.1.length:Nat):Int)-1))) 5 L)))):=a3l (n:=5) (by omega) (by omega);have g:=c1A (c:=s.2.2.2.2.2.1) k (by omega) s.2.2.2.2.2.1.length 0 (a0K ((a0E s.2.2.2.2.2.1:Nat):Int) 5 (a0K (wrap .u64 s.2.2.2.1) 4 (a0K (wrap .u64 (wrap .i64 (((s.2.2.2.2.2.1.length:Nat):Int)-1))) 5 L))) (by omega) (by omega);simp at g;unfold a8X;simp only[a,b,a2l (show short s.2.2.2.2.2.1 by unfold short;omega),f,d,g,oB,a3P]
theorem b4W(h:s.2.2.2.2.2.1.length≤40)(i:L.length<800000000):a5Q ((L,()),s)=some (a3P s L,()):=by
 have c:=a0O (wrap .u64 (wrap .i64 (((s.2.2.2.2.2.1.length:Nat):Int)-1))) 5 L;have d:=a0O (wrap .u64 s.2.2.2.1) 4 (a0K (wrap .u64 (wrap .i64 (((s.2.2.2.2.2.1.length:Nat):Int)-1))) 5 L);have e:=a0O ((a0E s.2.2.2.2.2.1:Nat):Int) 5 (a0K (wrap .u64 s.2.2.2.1) 4 (a0K (wrap .u64 (wrap .i64 (((s.2.2.2.2.2.1.length:Nat):Int)-1))) 5 L));have j:=a3a s.2.2.2.2.2.1;have f:wrap .u64 ((a0E s.2.2.2.2.2.1:Nat):Int)=((a0E s.2.2.2.2.2.1:Nat):Int):=a0N (by omega);have k:a0L ((L,()),wrap .u64 (wrap .i64 (((s.2.2.2.2.2.1.length:Nat):Int)-1)),(5:Int))=some (a2a (wrap .u64 (wrap .i64 (((s.2.2.2.2.2.1.length:Nat):Int)-1))) 5,a0K (wrap .u64 (wrap .i64 (((s.2.2.2.2.2.1.length:Nat):Int)-1))) 5 L,()):=a1z (n:=5) (by omega) (by omega);have a:a0L ((a0K (wrap .u64 (wrap .i64 (((s.2.2.2.2.2.1.length:Nat):Int)-1))) 5 L,()),wrap .u64 s.2.2.2.1,(4:Int))=some (a2a (wrap .u64 s.2.2.2.1) 4,a0K (wrap .u64 s.2.2.2.1) 4 (a0K (wrap .u64 (wrap .i64 (((s.2.2.2.2.2.1.length:Nat):Int)-1))) 5 L),()):=a1z (n:=4) (by omega) (by omega);have b:a0L ((a0K (wrap .u64 s.2.2.2.1) 4 (a0K (wrap .u64 (wrap .i64 (((s.2.2.2.2.2.1.length:Nat):Int)-1))) 5 L),()),((a0E s.2.2.2.2.2.1:Nat):Int),(5:Int))=some (a2a ((a0E s.2.2.2.2.2.1:Nat):Int) 5,a0K ((a0E s.2.2.2.2.2.1:Nat):Int) 5 (a0K (wrap .u64 s.2.2.2.1) 4 (a0K (wrap .u64 (wrap .i64 (((s.2.2.2.2.2.1.length:Nat):Int)-1))) 5 L)),()):=a1z (n:=5) (by omega) (by omega);have g:=a7h (l:=s.2.2.2.2.2.1) (n:=a0E s.2.2.2.2.2.1) (L:=a0K ((a0E s.2.2.2.2.2.1:Nat):Int) 5 (a0K (wrap .u64 s.2.2.2.1) 4 (a0K (wrap .u64 (wrap .i64 (((s.2.2.2.2.2.1.length:Nat):Int)-1))) 5 L))) (by omega) (by omega) (by omega);unfold a5Q;simp only[k,a,b1D (show short s.2.2.2.2.2.1 by unfold short;omega),f,b,g,oB,a3P]
def a8w(s:Sub)(L:List Int):List Int:=
 a0K ((a0E s.2.2.2.2.2.2.2.2.1:Nat):Int) 5 (a0K (wrap .u64 s.2.1) 5 (a0K (wrap .u64 s.1) 3 L))
def a1n(s:Sub)(L:List Int):List Int:=
 if s.1=2 then a0K (wrap .u64 s.2.2.1) 3 L
 else if s.1=3 then a3P s L
 else if s.1=4 then a3P s (a1p 8 s.2.2.2.2.2.2.1 (a0K (wrap .u64 (wrap .i64 (s.2.2.2.2.1-1))) 10 L))
 else if s.1=5 then a2b s.2.2.2.2.2.2.2.1 (a0K (wrap .u64 ((s.2.2.2.2.2.2.2.1.length:Nat):Int)) 2 L)
 else L
theorem b8M(h:SmallS s)(L:List Int):(a1n s L).length≤L.length+3000:=by
 have f:=h.coefs;have k:=h.taps;have g:=h.stages
 grind[a1n,a0O,c3G,a3N,b6A]
theorem b3H:∀(zs:List Nat)(ks l L:List Int),ks.all kB=true→(a3n zs ks l L).length≤L.length+10*zs.length+100*l.length
 |z::zs,k::ks,l,L,h=>by
  simp only[a07,bA]at h;have g:=b4V h.1 (l.take z) L;have f:=b3H zs ks (l.drop z) (a7j k (l.take z) L) h.2;rw[a08]at g;rw[a46]at f;simp only[a3n,lC];omega
 | [],_,_,_,_=>by simp_all[a3n]
 |_::_,[],_,_,_=>by grind[a3n]
def a2c(s:Sub)(zn:List Nat)(L:List Int):List Int:=
 if s.1=0∨s.1=1 then a1p (a0E s.2.2.2.2.2.2.2.2.1) s.2.2.2.2.2.2.2.2.1 (a1n s (a8w s L))
 else a1V s.2.2.2.2.2.2.2.2.2.1 zn s.2.2.2.2.2.2.2.2.2.2.1 (a1p (a0E s.2.2.2.2.2.2.2.2.1) s.2.2.2.2.2.2.2.2.1 (a1n s (a8w s L)))
theorem b7d(h:SmallS s)(S:L.length<100000000):
  ∃(e:Int)(L':List Int),b0N (wL L,s,n)=some (e,wL L')∧(e=0∨L'=L)∧L'.length≤L.length+700000∧
   ((a1A s n).isSome=true→e=0∧∃a,L'=a2c s a L∧(s.1≠0∧s.1≠1→PartsOk s.2.2.2.2.2.2.2.2.2.1 n ((s.2.2.2.2.2.2.2.2.1.length:Nat):Int) s.2.2.2.2.2.2.2.2.2.2.1 a))∧((a1A s n).isSome=false→e=1∧L'=L):=by
 unfold b0N;simp only[c1v h,oB];cases hs:(a1A s n).isSome with
 |false=>exact⟨1,L,rfl,.inr rfl,by omega,fun h=>(by grind),fun _=>⟨rfl,rfl⟩⟩
 |true=>
  have hp:a1l s n:=by
   grind[a1A]
  obtain⟨Q,R,A,-,-,-,-,v,E,B,-,p⟩:=hp;have b:=b3j A;have m:=a3a s.2.2.2.2.2.2.2.2.1;have u:short s.2.2.2.2.2.2.2.2.1:=by have:=h.warm;unfold short;omega
  have c:=h.warm;have r:=h.rest;have C:=h.stages;have D:=h.taps;have T:=a0O (wrap .u64 s.1) 3 L;have U:=a0O (wrap .u64 s.2.1) 5 (a0K (wrap .u64 s.1) 3 L);have V:=a0O ((a0E s.2.2.2.2.2.2.2.2.1:Nat):Int) 5 (a0K (wrap .u64 s.2.1) 5 (a0K (wrap .u64 s.1) 3 L));have z:wrap .u64 ((a0E s.2.2.2.2.2.2.2.2.1:Nat):Int)=((a0E s.2.2.2.2.2.2.2.2.1:Nat):Int):=a0N (by omega);have I:a0J (wL L,wrap .u64 s.1,(3:Int))=some (a2a (wrap .u64 s.1) 3,wL (a0K (wrap .u64 s.1) 3 L)):=a3l (n:=3) (by omega) (by omega);have K:a0J (wL (a0K (wrap .u64 s.1) 3 L),wrap .u64 s.2.1,(5:Int))=some (a2a (wrap .u64 s.2.1) 5,wL (a0K (wrap .u64 s.2.1) 5 (a0K (wrap .u64 s.1) 3 L))):=a3l (n:=5) (by omega) (by omega);have w:a0J (wL (a0K (wrap .u64 s.2.1) 5 (a0K (wrap .u64 s.1) 3 L)),((a0E s.2.2.2.2.2.2.2.2.1:Nat):Int),(5:Int))=some (a2a ((a0E s.2.2.2.2.2.2.2.2.1:Nat):Int) 5,wL (a8w s L)):=a3l (n:=5) (by omega) (by omega);have N:(a8w s L).length≤L.length+13:=by unfold a8w;omega
  generalize hM:a8w s L=M at w N;have X:=b8M h M;have O:=a3N (a0E s.2.2.2.2.2.2.2.2.1) s.2.2.2.2.2.2.2.2.1 (a1n s M);have Y:a0E s.2.2.2.2.2.2.2.2.1*s.2.2.2.2.2.2.2.2.1.length≤32*5000:=a81 m c;have g:=c2V (l:=s.2.2.2.2.2.2.2.2.1) (n:=n) (s:=s) m (by omega) s.2.2.2.2.2.2.2.2.1.length 0 (a1n s M) (by omega) (by omega);simp at g

  have i:=b9K (st:=s.2.2.2.2.2.2.2.1) (n:=n) (wd:=((a0E s.2.2.2.2.2.2.2.2.1:Nat):Int)) (s:=s) (by omega) s.2.2.2.2.2.2.2.1.length 0 (a0K (wrap .u64 ((s.2.2.2.2.2.2.2.1.length:Nat):Int)) 2 M) (by omega) (by grind[a0O]);have Z:=a0O (wrap .u64 (wrap .i64 (s.2.2.2.2.1-1))) 10 M;have q9:=a3N 8 s.2.2.2.2.2.2.1 (a0K (wrap .u64 (wrap .i64 (s.2.2.2.2.1-1))) 10 M);have j:=c2U (t:=s.2.2.2.2.2.2.1) (n:=n) (wd:=((a0E s.2.2.2.2.2.2.2.2.1:Nat):Int)) (s:=s) D 3 0 (a0K (wrap .u64 (wrap .i64 (s.2.2.2.2.1-1))) 10 M) (by rfl) (by omega);simp at i j;have F:a0J (wL M,wrap .u64 s.2.2.1,(3:Int))=some (a2a (wrap .u64 s.2.2.1) 3,wL (a0K (wrap .u64 s.2.2.1) 3 M)):=a3l (n:=3) (by omega) (by omega);have G:a0J (wL M,wrap .u64 (wrap .i64 (s.2.2.2.2.1-1)),(10:Int))=some (a2a (wrap .u64 (wrap .i64 (s.2.2.2.2.1-1))) 10,wL (a0K (wrap .u64 (wrap .i64 (s.2.2.2.2.1-1))) 10 M)):=a3l (n:=10) (by omega) (by omega);have H:a0J (wL M,wrap .u64 ((s.2.2.2.2.2.2.2.1.length:Nat):Int),(2:Int))=some (a2a (wrap .u64 ((s.2.2.2.2.2.2.2.1.length:Nat):Int)) 2,wL (a0K (wrap .u64 ((s.2.2.2.2.2.2.2.1.length:Nat):Int)) 2 M)):=a3l (n:=2) (by omega) (by omega);have x:=b9L (s:=s) h.coefs (L:=M) (by omega);have y:=b9L (s:=s) h.coefs (L:=a1p 8 s.2.2.2.2.2.2.1 (a0K (wrap .u64 (wrap .i64 (s.2.2.2.2.1-1))) 10 M)) (by omega);simp only[bT,cF,a2l u,oB,I,K,z,w];generalize hPM:a1p (a0E s.2.2.2.2.2.2.2.2.1) s.2.2.2.2.2.2.2.2.1 (a1n s M)=PM at g O

  have o:∀(d:s.1≠0∧s.1≠1),∃a,PartsOk s.2.2.2.2.2.2.2.2.2.1 n ((s.2.2.2.2.2.2.2.2.1.length:Nat):Int) s.2.2.2.2.2.2.2.2.2.2.1 a:=fun d=>by
   simp_all[PartsOk.of]
  rcases b with k|k|k|k|k|k;have f:a1n s M=M:=by unfold a1n;grind
  rw[f]at g;refine⟨0,PM,?_,.inl rfl,by omega,fun _=>⟨rfl,[],by simp_all[a2c],fun h=>absurd k (by omega)⟩,fun h=>by grind⟩;simp only[k,show((0:Int)==2)=false from rfl,show((0:Int)==4)=false from rfl,show((0:Int)==3)=false from rfl,show((0:Int)==5)=false from rfl,cF,oB,g,a6K]
  simp
  have f:a1n s M=M:=by unfold a1n;grind
  rw[f]at g;refine⟨0,PM,?_,.inl rfl,by omega,fun _=>⟨rfl,[],by simp_all[a2c],fun h=>absurd k (by omega)⟩,fun h=>by grind⟩;simp only[k,show((1:Int)==2)=false from rfl,show((1:Int)==4)=false from rfl,show((1:Int)==3)=false from rfl,show((1:Int)==5)=false from rfl,cF,oB,g,a6K]
  simp
  all_goals
   obtain⟨a,q⟩:=o (by omega);have t1:=c4n (L:=PM) q (by omega);have P:(a1V s.2.2.2.2.2.2.2.2.2.1 a s.2.2.2.2.2.2.2.2.2.2.1 PM).length≤L.length+700000:=by
    have z1:=a0O (wrap .u64 s.2.2.2.2.2.2.2.2.2.1.1) 4 PM;have z2:=b3H a s.2.2.2.2.2.2.2.2.2.1.2.1 s.2.2.2.2.2.2.2.2.2.2.1 (a0K (wrap .u64 s.2.2.2.2.2.2.2.2.2.1.1) 4 PM) q.all;have z3:=q.len
    grind[a1V]
   refine⟨0,a1V s.2.2.2.2.2.2.2.2.2.1 a s.2.2.2.2.2.2.2.2.2.2.1 PM,?_,.inl rfl,P,fun _=>⟨rfl,a,by simp_all[a2c],fun _=>q⟩,fun h=>by grind⟩
  have f:a1n s M=a0K (wrap .u64 s.2.2.1) 3 M:=by unfold a1n;grind
  rw[f]at g;simp only[k,show((2:Int)==2)=true from rfl,cT,F,oB,g,a6K]
  grind
  have f:a1n s M=a3P s M:=by unfold a1n;grind
  rw[f]at g;simp only[k,show((3:Int)==2)=false from rfl,show((3:Int)==4)=false from rfl,show((3:Int)==3)=true from rfl,cT,cF,x,oB,g,a6K]
  grind
  have f:a1n s M=a3P s (a1p 8 s.2.2.2.2.2.2.1 (a0K (wrap .u64 (wrap .i64 (s.2.2.2.2.1-1))) 10 M)):=by unfold a1n;grind
  rw[f]at g;simp only[k,show((4:Int)==2)=false from rfl,show((4:Int)==4)=true from rfl,cT,cF,G,j,y,oB,g,a6K]
  grind
  have f:a1n s M=a2b s.2.2.2.2.2.2.2.1 (a0K (wrap .u64 ((s.2.2.2.2.2.2.2.1.length:Nat):Int)) 2 M):=by unfold a1n;grind
  rw[f]at g;simp only[k,show((5:Int)==2)=false from rfl,show((5:Int)==4)=false from rfl,show((5:Int)==3)=false from rfl,show((5:Int)==5)=true from rfl,cT,cF,H,i,oB,g,a6K]
  grind
theorem c6T(h:SmallS s)(Q:L.length<100000000):
  ∃(e:Int)(L':List Int),a8H ((L,()),s,n)=some (e,L',())∧(e=0∨L'=L)∧L'.length≤L.length+700000∧
   ((a1A s n).isSome=true→e=0∧∃a,L'=a2c s a L∧(s.1≠0∧s.1≠1→PartsOk s.2.2.2.2.2.2.2.2.2.1 n ((s.2.2.2.2.2.2.2.2.1.length:Nat):Int) s.2.2.2.2.2.2.2.2.2.2.1 a))∧((a1A s n).isSome=false→e=1∧L'=L):=by
 unfold a8H;simp only[c3D h,oB];cases hs:(a1A s n).isSome with
 |false=>grind
 |true=>
  have hp:a1l s n:=by
   grind[a1A]
  obtain⟨O,P,D,-,-,-,-,A,G,E,-,o⟩:=hp;have c:=b3j D;have w:=a3a s.2.2.2.2.2.2.2.2.1;have v:short s.2.2.2.2.2.2.2.2.1:=by have:=h.warm;unfold short;omega
  have d:=h.warm;have u:=h.rest;have F:=h.stages;have R:=h.taps;have S:=a0O (wrap .u64 s.1) 3 L;have T:=a0O (wrap .u64 s.2.1) 5 (a0K (wrap .u64 s.1) 3 L);have U:=a0O ((a0E s.2.2.2.2.2.2.2.2.1:Nat):Int) 5 (a0K (wrap .u64 s.2.1) 5 (a0K (wrap .u64 s.1) 3 L));have C:wrap .u64 ((a0E s.2.2.2.2.2.2.2.2.1:Nat):Int)=((a0E s.2.2.2.2.2.2.2.2.1:Nat):Int):=a0N (by omega);have K:a0L ((L,()),wrap .u64 s.1,(3:Int))=some (a2a (wrap .u64 s.1) 3,a0K (wrap .u64 s.1) 3 L,()):=a1z (n:=3) (by omega) (by omega);have r2:a0L ((a0K (wrap .u64 s.1) 3 L,()),wrap .u64 s.2.1,(5:Int))=some (a2a (wrap .u64 s.2.1) 5,a0K (wrap .u64 s.2.1) 5 (a0K (wrap .u64 s.1) 3 L),()):=a1z (n:=5) (by omega) (by omega);have B:a0L ((a0K (wrap .u64 s.2.1) 5 (a0K (wrap .u64 s.1) 3 L),()),((a0E s.2.2.2.2.2.2.2.2.1:Nat):Int),(5:Int))=some (a2a ((a0E s.2.2.2.2.2.2.2.2.1:Nat):Int) 5,a8w s L,()):=a1z (n:=5) (by omega) (by omega);have H:(a8w s L).length≤L.length+13:=by unfold a8w;omega
  generalize hM:a8w s L=M at B H;have V:=b8M h M;have I:=a3N (a0E s.2.2.2.2.2.2.2.2.1) s.2.2.2.2.2.2.2.2.1 (a1n s M);have X:a0E s.2.2.2.2.2.2.2.2.1*s.2.2.2.2.2.2.2.2.1.length≤32*5000:=a81 w d;have g:=a7h (l:=s.2.2.2.2.2.2.2.2.1) (n:=a0E s.2.2.2.2.2.2.2.2.1) (L:=a1n s M) (by omega) (by omega) (by omega)

  have b:=b5C (n:=n) (wd:=((a0E s.2.2.2.2.2.2.2.2.1:Nat):Int)) (s:=s) (by omega) s.2.2.2.2.2.2.2.1.length 0 (a0K (wrap .u64 ((s.2.2.2.2.2.2.2.1.length:Nat):Int)) 2 M) (by omega) (by grind[a0O]);have Y:=a0O (wrap .u64 (wrap .i64 (s.2.2.2.2.1-1))) 10 M;have Z:=a3N 8 s.2.2.2.2.2.2.1 (a0K (wrap .u64 (wrap .i64 (s.2.2.2.2.1-1))) 10 M);have j:a2I ((a0K (wrap .u64 (wrap .i64 (s.2.2.2.2.1-1))) 10 M,()),s.2.2.2.2.2.2.1,(8:Int))=some (a1p 8 s.2.2.2.2.2.2.1 (a0K (wrap .u64 (wrap .i64 (s.2.2.2.2.1-1))) 10 M),()):=a7h (n:=8) (by omega) (by omega) (by omega);have t:b07 3 s.2.2.2.2.2.2.1=s.2.2.2.2.2.2.1:=a26 (by omega);simp at b;have x:a0L ((M,()),wrap .u64 s.2.2.1,(3:Int))=some (a2a (wrap .u64 s.2.2.1) 3,a0K (wrap .u64 s.2.2.1) 3 M,()):=a1z (n:=3) (by omega) (by omega);have y:a0L ((M,()),wrap .u64 (wrap .i64 (s.2.2.2.2.1-1)),(10:Int))=some (a2a (wrap .u64 (wrap .i64 (s.2.2.2.2.1-1))) 10,a0K (wrap .u64 (wrap .i64 (s.2.2.2.2.1-1))) 10 M,()):=a1z (n:=10) (by omega) (by omega);have z:a0L ((M,()),wrap .u64 ((s.2.2.2.2.2.2.2.1.length:Nat):Int),(2:Int))=some (a2a (wrap .u64 ((s.2.2.2.2.2.2.2.1.length:Nat):Int)) 2,a0K (wrap .u64 ((s.2.2.2.2.2.2.2.1.length:Nat):Int)) 2 M,()):=a1z (n:=2) (by omega) (by omega);have q:=b4W (s:=s) h.coefs (L:=M) (by omega);have r:=b4W (s:=s) h.coefs (L:=a1p 8 s.2.2.2.2.2.2.1 (a0K (wrap .u64 (wrap .i64 (s.2.2.2.2.1-1))) 10 M)) (by omega);simp only[bT,cF,b1D v,oB,K,r2,C,B];generalize hPM:a1p (a0E s.2.2.2.2.2.2.2.2.1) s.2.2.2.2.2.2.2.2.1 (a1n s M)=PM at g I

  have m:∀(i:s.1≠0∧s.1≠1),∃a,PartsOk s.2.2.2.2.2.2.2.2.2.1 n ((s.2.2.2.2.2.2.2.2.1.length:Nat):Int) s.2.2.2.2.2.2.2.2.2.2.1 a:=fun i=>by
   simp_all[PartsOk.of]
  rcases c with k|k|k|k|k|k;have f:a1n s M=M:=by unfold a1n;grind
  rw[f]at g;refine⟨0,PM,?_,.inl rfl,by omega,fun _=>⟨rfl,[],by simp_all[a2c],fun h=>absurd k (by omega)⟩,fun h=>by grind⟩;simp only[k,show((0:Int)==2)=false from rfl,show((0:Int)==4)=false from rfl,show((0:Int)==3)=false from rfl,show((0:Int)==5)=false from rfl,cF,oB,g,a7f]
  simp
  have f:a1n s M=M:=by unfold a1n;grind
  rw[f]at g;refine⟨0,PM,?_,.inl rfl,by omega,fun _=>⟨rfl,[],by simp_all[a2c],fun h=>absurd k (by omega)⟩,fun h=>by grind⟩;simp only[k,show((1:Int)==2)=false from rfl,show((1:Int)==4)=false from rfl,show((1:Int)==3)=false from rfl,show((1:Int)==5)=false from rfl,cF,oB,g,a7f]
  simp
  all_goals
   obtain⟨a,p⟩:=m (by omega);have t2:=c1z (L:=PM) p (by omega);have N:(a1V s.2.2.2.2.2.2.2.2.2.1 a s.2.2.2.2.2.2.2.2.2.2.1 PM).length≤L.length+700000:=by
    have z1:=a0O (wrap .u64 s.2.2.2.2.2.2.2.2.2.1.1) 4 PM;have z2:=b3H a s.2.2.2.2.2.2.2.2.2.1.2.1 s.2.2.2.2.2.2.2.2.2.2.1 (a0K (wrap .u64 s.2.2.2.2.2.2.2.2.2.1.1) 4 PM) p.all;have z3:=p.len
    grind[a1V]
   refine⟨0,a1V s.2.2.2.2.2.2.2.2.2.1 a s.2.2.2.2.2.2.2.2.2.2.1 PM,?_,.inl rfl,N,fun _=>⟨rfl,a,by simp_all[a2c],fun _=>p⟩,fun h=>by grind⟩
  have f:a1n s M=a0K (wrap .u64 s.2.2.1) 3 M:=by unfold a1n;grind
  rw[f]at g;simp only[k,show((2:Int)==2)=true from rfl,cT,x,oB,g,a7f]
  grind
  have f:a1n s M=a3P s M:=by unfold a1n;grind
  rw[f]at g;simp only[k,show((3:Int)==2)=false from rfl,show((3:Int)==3)=true from rfl,cT,cF,q,oB,g,a7f]
  grind
  have f:a1n s M=a3P s (a1p 8 s.2.2.2.2.2.2.1 (a0K (wrap .u64 (wrap .i64 (s.2.2.2.2.1-1))) 10 M)):=by unfold a1n;grind
  rw[f]at g;simp only[k,show((4:Int)==2)=false from rfl,show((4:Int)==3)=false from rfl,show((4:Int)==4)=true from rfl,cT,cF,y,t,j,r,oB,g,a7f]
  grind
  have f:a1n s M=a2b s.2.2.2.2.2.2.2.1 (a0K (wrap .u64 ((s.2.2.2.2.2.2.2.1.length:Nat):Int)) 2 M):=by unfold a1n;grind
  rw[f]at g;simp only[k,show((5:Int)==2)=false from rfl,show((5:Int)==4)=false from rfl,show((5:Int)==3)=false from rfl,show((5:Int)==5)=true from rfl,cT,cF,z,b,oB,g,a7f]
  grind
theorem a9H(h:List Nat):(a1g h).map a35=h:=by
 unfold a1g;rw[List.map_map]
 have:a35∘(fun(a:Nat)=>(a:Int))=id:=by rfl
 simp_all
theorem c7P{z z':List Nat}(h:PartsOk p n warm l z)(g:PartsOk p n warm l z'):z=z':=by
 rw[←a9H z,←h.sizes,g.sizes,a9H]
def a5j(s:Sub)(n:Int):Int:=
 if(a1A s n).isSome=true then(((a2c s ((a1t s.2.2.2.2.2.2.2.2.2.1.1 n ((s.2.2.2.2.2.2.2.2.1.length:Nat):Int)).map a35) []).length:Nat):Int)else 0
theorem c2A(h:s.1≠0∧s.1≠1→PartsOk s.2.2.2.2.2.2.2.2.2.1 n ((s.2.2.2.2.2.2.2.2.1.length:Nat):Int) s.2.2.2.2.2.2.2.2.2.2.1 zn)(L:List Int):
  a2c s zn L=a2c s ((a1t s.2.2.2.2.2.2.2.2.2.1.1 n ((s.2.2.2.2.2.2.2.2.1.length:Nat):Int)).map a35) L:=by
 by_cases hk:s.1=0∨s.1=1
 unfold a2c;rw[if_pos hk,if_pos hk];rw[(h (not_or.1 hk)).sizes,a9H]
theorem c5M(h:SmallS s)(n:Int):a5D (s,n)=some (a5j s n):=by
 obtain⟨e,f,g,-,-,k,a⟩:=b7d h (n:=n) (L:=[]) (by simp);have b:wL []=(([]:List Int),(0:Int),()):=rfl;rw[b]at g;obtain⟨d,-⟩:=a3v f;unfold a5D a5j;simp only[g,oB,a9o];cases hs:(a1A s n).isSome with
 |false=>
  obtain⟨rfl,rfl⟩:=a hs;rfl
 |true=>
  obtain⟨rfl,i,rfl,c⟩:=k hs;rw[if_pos rfl,←c2A c];simp only[d,show((0:Int) != 0)=false from rfl,cF]
def b3I(L:List Int)(i:Nat):List Int:=(wL (L.take i)).1++a00 ((L.length+7) / 8-(i+7) / 8) 0
theorem c5p(h:i≤L.length):(b3I L i).length=(L.length+7) / 8:=by
 obtain⟨-,g⟩:=a3v (L.take i);rw[a08,a50 h]at g;simp only[b3I,lN,List.length_replicate,g];omega
theorem c5N{α:Type}{a b:List α}{x:α}(h:i<a.length):(a++b).set i x=a.set i x++b:=by
 rw[b01];simp[h]
theorem c4o{a b:List Int}(h:i<a.length):(a++b).getD i 0=a.getD i 0:=by
 simp[lD,a69 h]
theorem c7Q(h:i<L.length):
  (b3I L i).set (i / 8) (bits .u8 .or ((b3I L i).getD (i / 8) 0) (z0g .u8 L[i] (7-(i:Int)%8)))=b3I L (i+1):=by
 obtain⟨a,f⟩:=a3v (L.take i);rw[a08,a50 (a61 h)]at a f;have e:L.take (i+1)=L.take i++[L[i]]:=by simp
 unfold b3I;rw[e,b9b];generalize wL (L.take i)=wr at a f⊢;obtain⟨k,n,u⟩:=wr;have a:n=(i:Int):=a;have f:k.length=(i+7) / 8:=f;subst a;have e8:((i:Int) / 8).toNat=i / 8:=by omega
 unfold c0H;simp only[e8]
 by_cases hz:i%8=0
 have g:(i:Int)%8=0:=by omega
 rw[if_pos g];have c:(L.length+7) / 8-(i+7) / 8=((L.length+7) / 8-(i+1+7) / 8)+1:=by omega
 rw[c,List.replicate_succ];have d:k++(0:Int)::a00 ((L.length+7) / 8-(i+1+7) / 8) 0=(k++[0])++a00 ((L.length+7) / 8-(i+1+7) / 8) 0:=by simp
 have b:i / 8<(k++[(0:Int)]).length:=by simp[f];omega
 rw[d,c5N b,c4o b];have g:¬ (i:Int)%8=0:=by omega
 rw[if_neg g];have c:(L.length+7) / 8-(i+7) / 8=(L.length+7) / 8-(i+1+7) / 8:=by omega
 have b:i / 8<k.length:=by rw[f];omega
 rw[c,c5N b,c4o b]
theorem c4p(z:L.length<1000000000):a6o (L,())=some ((wL L).1,L,()):=by
 have m:wrap .i64 (((L.length:Nat):Int)+7)=((L.length:Nat):Int)+7:=a0D (by omega);have n:a86 (((L.length:Nat):Int)+7) 8=(((L.length:Nat):Int)+7) / 8:=a38 (by omega);have o:wrap .i64 ((((L.length:Nat):Int)+7) / 8)=(((L.length:Nat):Int)+7) / 8:=a0D (by omega);have p:a35 ((((L.length:Nat):Int)+7) / 8)=(L.length+7) / 8:=by omega
 have q:decide ((0:Int)≤(((L.length:Nat):Int)+7) / 8)=true:=by simp;omega
 have r:decide ((((L.length:Nat):Int)+7) / 8≤(((L.length:Nat):Int)+7) / 8)=true:=by simp
 have s:lim ((L.length+7) / 8)=true:=a1b (by omega);have start:b3I L 0=a00 ((L.length+7) / 8) 0:=by simp[b3I,wL]
 have a:b3I L L.length=(wL L).1:=by simp[b3I]
 have h:=a1y (f:=a4s) (fun i:Nat=>((i:Int),b3I L i,(L,()),())) L.length (b:=((wL L).1,(L,()),()))
  (fun i c=>by
   have v:a86 (i:Int) 8=(i:Int) / 8:=a38 (by omega);have t2:a59 (i:Int) 8=(i:Int)%8:=a45 (by omega);have w:wrap .i64 ((i:Int) / 8)=(i:Int) / 8:=a0D (by omega);have w2:wrap .i64 (7-(i:Int)%8)=7-(i:Int)%8:=a0D (by omega);have x:wrap .u64 (7-(i:Int)%8)=7-(i:Int)%8:=a0N (by omega);have y:wrap .i64 ((i:Int)+1)=((i+1:Nat):Int):=by rw[a0D (by omega)];omega
   have k:decide ((i:Int)<((L.length:Nat):Int))=true:=by simp;omega
   have d:decide ((0:Int)≤(i:Int) / 8)=true:=by simp;omega
   have e:decide ((i:Int) / 8<(((b3I L i).length:Nat):Int))=true:=by rw[c5p (by omega)];simp;omega
   have j:decide ((0:Int)≤(i:Int))=true:=by simp
   have l:decide (7-(i:Int)%8<0)=false:=by simp;omega
   have t:a35 ((i:Int) / 8)=i / 8:=by omega
   have u:a35 (i:Int)=i:=by omega
   have g:L.getD i 0=L[i]:=by simp[lD,c]
   have st:=c7Q c;simp only[a4s,v,t2,w,w2,x,y,k,d,e,j,l,t,u,g,st,a03,cT,cF])
  (by
   have k:decide (((L.length:Nat):Int)<((L.length:Nat):Int))=false:=by simp
   simp only[a4s,k,cF,a])
 unfold a6o;simp only[start,nZ,a18]at h;simp only[m,n,o,p,q,r,s,a03,cT]
 erw[h]
 rfl
def dif:List Int→List Int
 |a::b::r=>W (b-a)::dif (b::r)
 |_=>[]
theorem a5T:∀l:List Int,(dif l).length=l.length-1
 | []=>rfl
 | [_]=>rfl
 |a::b::r=>by simp[dif,a5T (b::r)]
theorem c2B:∀(l:List Int)(i:Nat)(x y:Int),l[i]?=some x→l[i+1]?=some y→(dif l)[i]?=some (W (y-x))
 |a::b::r,0,x,y,h1,h2=>by simp at h1 h2;subst h1;subst h2;rfl
 |a::b::r,i+1,x,y,h1,h2=>by
  simp only[dif,List.getElem?_cons_succ]at h1 h2⊢;exact c2B (b::r) i x y h1 h2
 | [_],0,x,y,h1,h2=>by simp at h2
 | [_],i+1,x,y,h1,h2=>by simp at h1
 | [],i,x,y,h1,h2=>by simp at h1
def a1R:Nat→List Int→List Int
 |0,l=>l
 |o+1,l=>dif (a1R o l)
theorem a5Y(l:List Int):∀o,(a1R o l).length=l.length-o
 |0=>rfl
 |o+1=>by simp only[a1R,a5T,a5Y l o];omega
theorem b7e(h:short l)(o:Nat):short (a1R o l):=by
 have h:l.length<1000000:=h;show(a1R o l).length<1000000;rw[a5Y];omega
def b1G(l:List Int)(i:Nat):List Int:=(dif l).take i++l.drop i
theorem b6a(h:i≤l.length-1):(b1G l i).length=l.length:=by
 simp only[b1G,lN,a08,a46,a5T];omega
theorem c2W(h:i≤l.length-1)(g:i≤j):(b1G l i).getD j 0=l.getD j 0:=by
 have e:((dif l).take i).length=i:=by rw[a08,a5T];omega
 rw[lD,lD,b1G,a39 (by omega),e,List.getElem?_drop];congr 2;omega
theorem c8Q(h:i<l.length-1):(b1G l i).set i (W (l.getD (i+1) 0-l.getD i 0))=b1G l (i+1):=by
 have e:((dif l).take i).length=i:=by rw[a08,a5T];omega
 have f:l[i]?=some l[i]:=lG (by omega);have k:l[i+1]?=some l[i+1]:=lG (by omega);have a:=c2B l i _ _ f k;have g:i<(dif l).length:=by rw[a5T];omega
 simp only[b1G];rw[b01,if_neg (by omega),e,a73,a01 (show i<l.length by omega),a64,a55 g,aA];have b:(dif l)[i]=W (l.getD (i+1) 0-l.getD i 0):=by
  rw[lG g]at a;rw[Option.some.inj a,lD,lD,f,k];rfl
 rw[b];rfl
theorem c6U{o:Int}(d:short l)(h:1≤l.length):x0r a5u ((0:Int),o,k,l,())=some (o,k,b1G l (l.length-1),()):=by
 have d:l.length<1000000:=d;have r:b1G l 0=l:=by simp[b1G]
 have:=a1y (f:=a5u) (fun i:Nat=>((i:Int),o,k,b1G l i,())) (l.length-1) (b:=(o,k,b1G l (l.length-1),()))
  (fun i u=>by
   have c:wrap .i64 ((i:Int)+1)=((i+1:Nat):Int):=a0C (by omega);have a:=b6a (l:=l) (i:=i) (by omega);have g:decide (((i+1:Nat):Int)<((l.length:Nat):Int))=true:=by simp;omega
   have e:decide ((0:Int)≤((i+1:Nat):Int))=true:=by simp;omega
   have m:decide ((0:Int)≤(i:Int))=true:=by simp
   have n:decide ((i:Int)<((l.length:Nat):Int))=true:=by simp;omega
   have s:a35 ((i+1:Nat):Int)=i+1:=by omega
   have t:a35 (i:Int)=i:=by omega
   have st:=c8Q (l:=l) (i:=i) (by omega);have p:=c2W (l:=l) (i:=i) (j:=i+1) (by omega) (by omega);have q:=c2W (l:=l) (i:=i) (j:=i) (by omega) (by omega);simp only[W]at st;simp only[a5u,c,a,g,e,m,n,s,t,p,q,st,a03,cT])
  (by
   have a:=b6a (l:=l) (i:=l.length-1) (by omega);have c:wrap .i64 (((l.length-1:Nat):Int)+1)=((l.length:Nat):Int):=by rw[a0D (by omega)];omega
   have g:decide (((l.length:Nat):Int)<((l.length:Nat):Int))=false:=by simp
   simp only[a5u,c,a,g,cF])
 simp only[nZ,a18,r]at this;exact this
theorem c7R:(b1G l (l.length-1)).take (l.length-1)=dif l:=by
 have e:(dif l).take (l.length-1)=dif l:=a26 (by rw[a5T];omega);rw[b1G,e,List.take_append_of_le_length (by rw[a5T];omega),e]
theorem b7X(A:o≤4)(z:o≤l.length)(g:short l)(v:l.all a0A=true):
  a4J (l,(o:Int))=some (bif (a1R o l).all a0A then(a1R o l,0)else([],6)):=by
 have u:l.length<1000000:=g;have h:=a1y (f:=a8f) (fun k:Nat=>((o:Int),(k:Int),a1R k l,())) o (b:=(a1R o l,()))
  (fun k y=>by
   have c:1≤(a1R k l).length:=by rw[a5Y];omega
   have s:(a1R k l).length<1000000:=b7e g k;have a:decide ((k:Int)<(o:Int))=true:=by simp;omega
   have t:=b6a (l:=a1R k l) (i:=(a1R k l).length-1) (by omega);have x:wrap .i64 ((((a1R k l).length:Nat):Int)-1)=(((a1R k l).length-1:Nat):Int):=by rw[a0D (by omega)];omega
   have w2:wrap .i64 ((k:Int)+1)=((k+1:Nat):Int):=a0C (by omega);have n:decide ((0:Int)≤(((a1R k l).length-1:Nat):Int))=true:=by simp
   have p:decide ((((a1R k l).length-1:Nat):Int)≤(((a1R k l).length:Nat):Int))=true:=by simp
   have q:decide ((a1R k l).length-1≤(a1R k l).length)=true:=by simp
   have w:a35 (((a1R k l).length-1:Nat):Int)=(a1R k l).length-1:=by omega
   simp only[a8f,a,cT,c6U (b7e g k) c,oB,t,x,w2,n,p,q,w,a03,c7R,a1R])
  (by
   have a:decide ((o:Int)<(o:Int))=false:=by simp
   simp only[a8f,a,cF])
 have d:decide ((o:Int)<0)=false:=by simp
 have e:decide ((o:Int) > 4)=false:=by simp;omega
 have j:decide (((l.length:Nat):Int)<(o:Int))=false:=by simp;omega
 have m:lim l.length=true:=a1b (by omega);simp only[nZ,a18]at h;have r:a1R 0 l=l:=rfl;rw[r]at h;unfold a4J;simp only[d,e,j,m,cF,cT,oB,a7J g,v,bT,h,a7J (b7e g o)];cases (a1R o l).all a0A<;>rfl
def ex:Nat→(Nat→Int)→Nat→Int
 |0,f,i=>f i
 |o+1,f,i=>ex o f (i+1)-ex o f i
theorem c0J{l:List Int}(g:l.all a0A=true):∀(o i:Nat),i+o<l.length→(a1R o l)[i]?=some (W (ex o (fun j=>l.getD j 0) i))
 |0,i,h=>by
  have h:i<l.length:=by omega
  have e:l.getD i 0=l[i]:=by simp[lD,h]
  simp only[a1R,ex,e];rw[lG h,b5x (lA.1 g _ (a04 h))]
 |o+1,i,h=>by
  have f:=c0J g o i (by omega);have k:=c0J g o (i+1) (by omega);simp only[a1R,ex];rw[c2B _ i _ _ f k];simp only[W,a6J,Int.sub_bmod_bmod,Int.bmod_sub_bmod]
theorem c7S(p:l.all a0A=true)(s:o≤4)(h:o+j<l.length):W (W (ex o (fun j=>l.getD j 0) j)+a2B o (l.take (o+j)))=l.getD (o+j) 0:=by
 have a:a0A (l.getD (o+j) 0)=true:=by
  have e:l.getD (o+j) 0=l[o+j]:=by simp[lD,h]
  rw[e];exact lA.1 p _ (a04 h)
 have g:∀i:Nat,1≤i→i≤o→atB (l.take (o+j)) i=l.getD (o+j-i) 0:=fun i q r=>by
  simp only[atB,a08,a50 (a61 h),lD,List.getElem?_take];rw[if_pos (by omega)]
 have d:ex o (fun j=>l.getD j 0) j+a2B o (l.take (o+j))=l.getD (o+j) 0:=by
  have n:o=0∨o=1∨o=2∨o=3∨o=4:=by omega
  rcases n with rfl|rfl|rfl|rfl|rfl;simp[ex,a2B];simp only[ex,a2B,g 1 (by omega) (by omega)];have f:1+j-1=j:=by omega
  have k:j+1=1+j:=by omega
  rw[f,k];omega;simp only[ex,a2B,g 1 (by omega) (by omega),g 2 (by omega) (by omega)];have f:2+j-1=j+1:=by omega
  have k:2+j-2=j:=by omega
  have b:j+1+1=2+j:=by omega
  rw[f,k,b];omega;simp only[ex,a2B,g 1 (by omega) (by omega),g 2 (by omega) (by omega),g 3 (by omega) (by omega)];have f:3+j-1=j+1+1:=by omega
  have k:3+j-2=j+1:=by omega
  have b:3+j-3=j:=by omega
  have c:j+1+1+1=3+j:=by omega
  rw[f,k,b,c];omega;simp only[ex,a2B,g 1 (by omega) (by omega),g 2 (by omega) (by omega),g 3 (by omega) (by omega),g 4 (by omega) (by omega)];have f:4+j-1=j+1+1+1:=by omega
  have k:4+j-2=j+1+1:=by omega
  have b:4+j-3=j+1:=by omega
  have c:4+j-4=j:=by omega
  have m:j+1+1+1+1=4+j:=by omega
  rw[f,k,b,c,m];omega
 have:W (W (ex o (fun j=>l.getD j 0) j)+a2B o (l.take (o+j)))=W (ex o (fun j=>l.getD j 0) j+a2B o (l.take (o+j))):=by
  simp only[W,a6J,Int.bmod_add_bmod]
 rw[this,d,b5x a]
theorem c4q{l:List Int}(f:l.all a0A=true){o:Nat}(b:o≤4):∀(k j:Nat),o+j+k=l.length→a2T (a2B o) ((a1R o l).drop j) (l.take (o+j))=some l
 |0,j,h=>by
  rw[List.drop_of_length_le (by rw[a5Y];omega),a26 (by omega)];rfl
 |k+1,j,h=>by
  have g:j<(a1R o l).length:=by rw[a5Y];omega
  have a:=c0J f o j (by omega);rw[lG g]at a;have e:=Option.some.inj a;have c:l.getD (o+j) 0=l[o+j]:=by simp[lD,show o+j<l.length by omega]
  have st:=c7S f b (show o+j<l.length by omega);rw[c]at st;rw[a01 g,e];simp only[a2T,st,lA.1 f _ (a04 (show o+j<l.length by omega)),cT];have d:l.take (o+j)++[l[o+j]]=l.take (o+(j+1)):=by
   rw[show o+(j+1)=(o+j)+1 by omega]
   simp
  rw[d];exact c4q f b k (j+1) (by omega)
theorem a7U{σ β:Type}{f:σ→Option (σ ⊕ β)}(I:Nat→σ→Prop)(Q:β→Prop)(n:Nat)(a:∀i s,i<n→I i s→∃s',f s=some (.inl s')∧I (i+1) s')
  (g:∀s,I n s→∃b,f s=some (.inr b)∧Q b):∀(k i:Nat)(s:σ),i+k=n→I i s→∃b,x0r f s=some b∧Q b
 |0,i,s,h,hi=>by
  obtain rfl:i=n:=by omega
  obtain⟨b,c,d⟩:=g s hi;exact⟨b,a0F c,d⟩
 |k+1,i,s,h,hi=>by
  obtain⟨s',c,d⟩:=a i s (by omega) hi;rw[a0G c];exact a7U I Q n a g k (i+1) s' (by omega) d
theorem b9M(y:Int):0≤wrap .u64 y∧wrap .u64 y<18446744073709551616:=by
 simp only[wrap,IntKind.bits,IntKind.signed]
 simp
 omega
def b2S(n:Int)(x:Int):Bool:=a0A x&&!(a59 x (z0g .i64 1 n) != 0)
def b7f{β:Type}(n:Int)(bad:β)(out:List Int)(x:Int):List Int ⊕ β:=bif b2S n x then .inl (out++[z0h .i64 x n])else .inr bad
def b1H(n:Int)(l:List Int):Option (List Int):=bif l.all (b2S n)then some (l.map fun x=>z0h .i64 x n)else none
theorem b7Y{β:Type}(n:Int)(h:β)(g:List Int→β):∀(l out:List Int),a8a g (a2x (b7f n h) l out)=match b1H n l with|some r=>g (out++r)|none=>h
 | [],out=>by simp[a2x,a8a,b1H]
 |x::l,out=>by
  simp only[a2x,b7f,b1H,a07];cases hx:b2S n x with
  |true=>
   simp only[cT,a40];rw[b7Y n h g l _];simp only[b1H];cases l.all (b2S n)with
   |true=>simp
   |false=>rfl
  |false=>rfl
theorem c4s{o:Nat}(h:o≤30):z0g .i64 1 (o:Int)=((2^o:Nat):Int):=by
 have g:2^o≤2^30:=a16 (by omega) h
 have:=b6Y (N:=1) (o:=o) (by omega) (by omega)
 simpa using this
theorem b6B(m:o≤30)(q:l.length<100000):a7s (l,(o:Int))=some (a2A (b1H (o:Int) l)):=by
 have n:short l:=by unfold short;omega
 have k:¬ (o:Int)<0:=by omega
 have e:¬ (o:Int) > 30:=by omega
 have j:(z0g .i64 (1:Int) (o:Int)==0)=false:=by
  rw[c4s m]
  have:0<2^o:=a09 o
  simp only[beq_eq_false_iff_ne,ne_eq];omega
 unfold a7s;simp only[k,e,decide_false,cF,oB]
 have:=a1m (f:=a6Q) l (fun i out=>((o:Int),l,(l.length:Int),(i:Int),out,())) (b7f (o:Int) (Sum.inr ((6:Int),([]:List Int),())))
  (fun i out=>out.length=i) (fun out=>Sum.inl (out,()))
  (fun i h out p=>by
   have c:i<1000000:=by omega
   simp only[a6Q,dlt h,cT,a0B h,oB,b6r,b7f,b2S,k,j,decide_false,cF];cases hb:a0A l[i]with
   |true=>
    cases hb2:(a59 l[i] (z0g .i64 1 (o:Int)) != 0)with
    |false=>
     simp only[cT,bT,cF,oB,k,decide_false,a0Q (show out.length+1<1000000 by omega),a0C c,a03,a32,hb2];refine⟨fun d g=>?_,fun b hb=>(by cases hb)⟩;simp only[Sum.inl.injEq]at g;subst g;exact⟨rfl,by simp;omega⟩
    |true=>
     refine⟨fun d g=>(by simp at g),fun b hb=>?_⟩;simp only[a40,bT,cF,Sum.inr.injEq]at hb;subst hb;simp[hb2]
   |false=>
    refine⟨fun d g=>(by simp at g),fun b hb=>?_⟩;simp only[Bool.false_and,cF,Sum.inr.injEq]at hb;subst hb;rfl)
  (fun out _=>by simp[a6Q]) (a:=[]) rfl
 simp only[nZ,b7Y,a19]at this;rw[this];cases b1H (o:Int) l<;>rfl
theorem c0K(h:o≤30)(k:b2S (o:Int) x=true):a0A (z0h .i64 x (o:Int))=true∧z0g .i64 (z0h .i64 x (o:Int)) (o:Int)=x∧a0A x=true:=by
 simp only[b2S,c4s h,bA,a34,bne_eq_false_iff_eq]at k;obtain⟨f,d⟩:=k;obtain⟨c,rfl⟩:=Int.dvd_of_tmod_eq_zero d;have g:=a1H.1 f;have e:min (a35 (o:Int)) (IntKind.bits .i64)=o:=by simp only[tN,IntKind.bits];omega
 have hp:(0:Int)<2^o:=Int.pow_pos (by omega);have b:((2^o:Nat):Int)=2^o:=by simp
 rw[b]at g f⊢;have a:z0h .i64 (2^o*c) (o:Int)=c:=by
  unfold z0h;rw[e];exact a70 _ (by omega)
 rw[a];refine⟨a1H.2 ?_,?_,f⟩;generalize (2:Int)^o=p at hp g;have i:p*c=(p-1)*c+c:=by rw[a98];omega
 by_cases hc:0≤c
 have:=a54 (show 0≤p-1 by omega) hc
 omega
 have:=a54 (show 0≤p-1 by omega) (show 0≤-c by omega)
 rw[Int.mul_neg]at this;omega;unfold z0g;rw[e,a62];exact a0D (by omega)
theorem d1h(h:o≤30)(f:b1H (o:Int) l=some d):d.all a0A=true∧d.length=l.length∧upO (o:Int) d=some l:=by
 unfold b1H at f;cases ha:l.all (b2S (o:Int))with
 |false=>rw[ha]at f;cases f
 |true=>
  rw[ha]at f;simp only[cT,sj]at f;subst f;have g:=lA.1 ha;refine⟨?_,by simp,?_⟩;simp only[List.all_map];exact lA.2 fun x k=>(c0K h (g x k)).1;have a:(l.map fun x=>z0h .i64 x (o:Int)).all (fun x=>a0A x&&a0A (z0g .i64 x (o:Int)))=true:=by
   simp only[List.all_map];refine lA.2 fun x k=>?_
   obtain⟨c,e,i⟩:=c0K h (g x k);simp only[Function.comp,c,e,i,a03]
  unfold upO;rw[a];simp only[cT,sj,List.map_map];have b:l.map ((fun x=>z0g .i64 x (o:Int))∘fun x=>z0h .i64 x (o:Int))=l.map id:=List.map_congr_left (fun x k=>(c0K h (g x k)).2.1);rw[b,List.map_id]
theorem c6V{n warm:Int}(h:a4f n warm=true):(a1t 0 n warm).length≠0:=by
 have g:=h;simp only[a4f,bA,dT]at g;unfold a1t b1A;have e:((n.toNat / 2^(0:Int).toNat:Nat):Int)=n:=by simp;omega
 have f:n.toNat%2^(0:Int).toNat=0:=by simp;omega
 simp only[h,e,f];simp[g.2.2.2]
theorem a8L{N n:Nat}(g:n≤63)(h:N<2^n)(L:List Int):(a0K (N:Int) n L).length=L.length+n:=by
 grind[a0K,a3O,a71,b5A]
def a5U(k:Nat)(x:Int):Nat:=if a0M x / 2^k<32 then a0M x / 2^k+1+k else 65
theorem c4t{k:Nat}(h:k≤25)(x:Int):a5U k x≤65:=by
 grind[a5U]
theorem c7T{k:Nat}(a:k≤25)(g:a0A x=true)(L:List Int):(a5i k x L).length=L.length+a5U k x:=by
 unfold a5i a5U;have hp:0<2^k:=a09 k;have h:a0M x%2^k<2^k:=a44 _ hp;have f:=a7i g;split;rw[a8L (by omega) h,a7g];omega
 grind[a8L,a7g]
theorem c1B{k:Nat}(g:k≤25):∀(l L:List Int),l.all a0A=true→(a3m k l L).length=L.length+(l.map (a5U k)).sum
 | [],L,_=>by rfl
 |x::l,L,h=>by
  simp only[a07,bA]at h;have e:a3m k (x::l) L=a3m k l (a5i k x L):=rfl;rw[e,c1B g l _ h.2,c7T g h.1,List.map_cons,a68];omega
theorem c4u{k:Nat}(c:k≤25)(g:a0A x=true):a7S ((k:Int),x)=some ((a5U k x:Nat):Int):=by
 have d:=a7i g;have f:z0h .u64 ((a0M x:Nat):Int) (k:Int)=((a0M x / 2^k:Nat):Int):=a3O (by omega);have a:wrap .i64 ((a0M x / 2^k:Nat):Int)=((a0M x / 2^k:Nat):Int):=b0I (a31 (a20 _ _) d);have h:decide ((k:Int)<0)=false:=by simp
 unfold a7S a5U;simp only[a9w c,b1E,g,oB,bT,cF,b1F g,h,f,a];generalize a0M x / 2^k=q
 by_cases hq:q<32
 have b:decide ((q:Int)<32)=true:=decide_eq_true (by omega);simp only[b,cT,if_pos hq]
 grind[a0D]
 grind
theorem c4v{f:Int→Nat}{M:Nat}(h:∀x,f x≤M):∀l:List Int,(l.map f).sum≤M*l.length
 | []=>by simp
 |x::l=>by
  have:=h x
  have:=c4v h l
  rw[List.map_cons,a68,lC,a95,a96];omega
theorem c4w{f:Int→Nat}{l:List Int}{i:Nat}(h:i<l.length):((l.take (i+1)).map f).sum=((l.take i).map f).sum+f l[i]:=by
 rw[a55 h,pA,List.sum_append];rfl
theorem b9N{k:Nat}(a:k≤25)(d:l.all a0A=true)(j:l.length<10000):a3y ((k:Int),l)=some (((l.map (a5U k)).sum:Nat):Int):=by
 have:=a1y (f:=a4d) (fun i:Nat=>((k:Int),((((l.take i).map (a5U k)).sum:Nat):Int),l,(l.length:Int),(i:Int),())) l.length (b:=((((l.map (a5U k)).sum:Nat):Int),()))
  (fun i h=>by
   have c:=c4u a (lA.1 d _ (a04 h));have g:=c4v (c4t a) (l.take (i+1));rw[c4w h]at g;rw[a08]at g;have e:wrap .i64 (((((l.take i).map (a5U k)).sum:Nat):Int)+((a5U k l[i]:Nat):Int))=((((l.take (i+1)).map (a5U k)).sum:Nat):Int):=by
    grind[c4w,a0D]
   simp only[a4d,dlt h,cT,a0B h,oB,c,e,a0C (show i<1000000 by omega)])
  (by simp_all[a4d])
 unfold a3y;simp_all
theorem c8R(x:Int){n:Nat}(f:n≤62):∃N:Nat,a0T x n=(N:Int)∧N<2^n:=by
 obtain⟨h,g⟩:=b9M x;obtain⟨y,k⟩:=a02 h;have hp:0<2^n:=a09 n;refine⟨y%2^n,?_,a44 _ hp⟩
 grind[a0T,b7c]
theorem b5D{n:Nat}(h:n≤62):∀(l L:List Int),(a1p n l L).length=L.length+n*l.length
 | [],L=>by rfl
 |x::l,L=>by
  have e:a1p n (x::l) L=a1p n l (a0K (a0T x n) n L):=rfl;obtain⟨N,g,f⟩:=c8R x h;rw[e,b5D h l,g,a8L (by omega) f,lC,a95,a96];omega
theorem d2b{x:Int}(h:a0A x=true):a1C x ((31:Nat):Int)=true:=by
 have:=a1H.1 h
 have g:z0g .i64 (-1) (((31:Nat):Int)-1)=-1073741824:=by rfl
 have f:wrap .i64 (z0g .i64 1 (((31:Nat):Int)-1)-1)=1073741823:=by rfl
 unfold a1C
 grind
theorem c1C{x:Int}(h:a0A x=true):∀(k w:Nat),w+k=32→1≤k→a1B x k w≤31
 |k+1,w,hk,_=>by
  simp[a1B]
  by_cases h31:w=31
  grind[d2b]
  ·cases (x != 0)&&!a1C x w with
   |true=>exact c1C h k (w+1) (by omega) (by omega)
   |false=>grind
theorem b5E:∀(l:List Int)(w:Nat),l.all a0A=true→w≤31→l.foldl (fun w x=>a1B x (32-w) w) w≤31
 | [],w,_,h=>h
 |x::l,w,hl,h=>by
  simp only[a07,bA]at hl;exact b5E l _ hl.2 (c1C hl.1 (32-w) w (by omega) (by omega))
theorem a1W{l:List Int}(h:l.all a0A=true):a0E l≤31:=b5E l 0 h (by omega)
theorem b4X(g:l.length<10000):a5X l=some (((5+a0E l*l.length:Nat)):Int):=by
 have h:=a3a l;have f:a0E l*l.length≤32*l.length:=a42 _ h;unfold a5X;simp only[a2l (show short l by unfold short;omega),oB]
 grind[a0D]
def b2T(k:Int)(part:List Int):Nat:=5+(if k=31 then 5+a0E part*part.length else(part.map (a5U k.toNat)).sum)
def a5V:List Nat→List Int→List Int→Nat
 |z::zs,k::ks,l=>b2T k (l.take z)+a5V zs ks (l.drop z)
 |_,_,_=>0
theorem a2m{q:Nat}(h:q<2147483648):wrap .u64 (q:Int)=(q:Int):=a0N (by omega)
theorem c7U(h:kB k=true)(g:part.all a0A=true)(L:List Int):(a7j k part L).length=L.length+b2T k part:=by
 simp[kB]at h;obtain⟨K,rfl⟩:=a02 (show 0≤k by omega)
 grind[a8L,a1W,a7j,b2T,a2m,b5D,c1B]
theorem c1D:∀(zs:List Nat)(ks l L:List Int),ks.all kB=true→l.all a0A=true→(a3n zs ks l L).length=L.length+a5V zs ks l
 |z::zs,k::ks,l,L,h,hw=>by
  simp only[a07,bA]at h;have g:(l.take z).all a0A=true:=lA.2 fun x a=>lA.1 hw x (a23 a);have f:(l.drop z).all a0A=true:=lA.2 fun x a=>lA.1 hw x (a24 a);simp only[a3n,a5V];rw[c1D zs ks _ _ h.2 f,c7U h.1 g];omega
 | [],_,_,_,_,_=>by rfl
 |_::_,[],_,_,_,_=>by rfl
theorem c8S(h:kB k=true)(part:List Int):b2T k part≤10+65*part.length:=by
 simp[kB]at h;unfold b2T;split;have g:a0E part*part.length≤32*part.length:=a42 _ (a3a part);omega
 have:=c4v (c4t (k:=k.toNat) (by omega)) part
 omega
theorem b4Y{zn:List Nat}{p:Prt}(E:p.2.1.length=zn.length)(a:p.2.1.all kB=true)(F:zn.length≤256):∀(j i:Nat)(l:List Int)(c:Nat),i+j=zn.length→(zn.drop i).sum=l.length→l.all a0A=true→l.length≤5000→c+10*j+65*l.length<1000000→
  x0r a1x (l,(c:Int),(zn.length:Int),(i:Int),a1g zn,p,())=some (((c+a5V (zn.drop i) (p.2.1.drop i) l:Nat):Int),())
 |0,i,l,c,hi,_,_,_,_=>by
  obtain rfl:i=zn.length:=by omega
  grind[a0F,a1x,a5V]
 |j+1,i,l,c,hi,hsum,hw,hl5,hb=>by
  have h:i<zn.length:=by omega
  have f:i<p.2.1.length:=by omega
  have o:=lA.1 a _ (a04 f);rw[b2g h]at hsum;have z:decide ((0:Int)≤(i:Int))=true:=by simp
  have A:decide ((i:Int)<(((a1g zn).length:Nat):Int))=true:=by simp_all[a1e]
  have B:decide ((0:Int)≤((zn[i]:Nat):Int))=true:=by simp
  have C:decide (((zn[i]:Nat):Int)≤((l.length:Nat):Int))=true:=by grind
  have d:(l.take zn[i]).length=zn[i]:=by simp_all
  have e:(l.drop zn[i]).length=(zn.drop (i+1)).sum:=by grind
  have v:(l.take zn[i]).all a0A=true:=lA.2 fun x y=>lA.1 hw x (a23 y);have w:(l.drop zn[i]).all a0A=true:=lA.2 fun x y=>lA.1 hw x (a24 y);have g:=c8S o (l.take zn[i]);rw[d]at g;have n:a1x (l,(c:Int),(zn.length:Int),(i:Int),a1g zn,p,())=some (.inl (l.drop zn[i],((c+b2T p.2.1[i] (l.take zn[i]):Nat):Int),(zn.length:Int),((i+1:Nat):Int),a1g zn,p,())):=by
   by_cases h31:p.2.1[i]=31
   have b:(p.2.1[i]==31)=true:=by simp_all
   have m:=b4X (l:=l.take zn[i]) (by omega);have u:b2T p.2.1[i] (l.take zn[i])=5+(5+a0E (l.take zn[i])*(l.take zn[i]).length):=by simp_all[b2T]
   rw[u]at g⊢;generalize 5+a0E (l.take zn[i])*(l.take zn[i]).length=r at m g⊢;have s:wrap .i64 (5+(r:Int))=5+(r:Int):=a0D (by omega);have t:wrap .i64 ((c:Int)+(5+(r:Int)))=((c+(5+r):Nat):Int):=by grind[a0D]
   simp only[a1x,dlt h,z,A,a4w h,B,C,cT,a03,tN,a0B f,oB,b,m,s,t,a21,a0C (show i<1000000 by omega)];have b:(p.2.1[i]==31)=false:=by simp_all
   have q:=o;simp[kB]at q;obtain⟨K,D⟩:=a02 (show 0≤p.2.1[i]by omega);have m:=b9N (k:=K) (by omega) v (by omega);have u:b2T p.2.1[i] (l.take zn[i])=5+((l.take zn[i]).map (a5U K)).sum:=by simp_all[b2T]
   rw[←D]at m;rw[u]at g⊢;generalize ((l.take zn[i]).map (a5U K)).sum=r at m g⊢;have s:wrap .i64 (5+(r:Int))=5+(r:Int):=a0D (by omega);have t:wrap .i64 ((c:Int)+(5+(r:Int)))=((c+(5+r):Nat):Int):=by grind[a0D]
   simp only[a1x,dlt h,z,A,a4w h,B,C,cT,cF,a03,tN,a0B f,oB,b,m,s,t,a21,a0C (show i<1000000 by omega)]
  rw[a0G n,b4Y E a F j (i+1) (l.drop zn[i]) _ (by omega) e.symm w (by omega) (by omega)];rw[a01 h,a01 f]
  grind[a5V]
theorem c3H(h:PartsOk p n warm l zn):a4P (p,n,warm,l)=some ((4+a5V zn p.2.1 l:Nat):Int):=by
 have f:Go.Ab.short p.2.1:=by have:=h.ks;have:=h.len;unfold Go.Ab.short;omega
 have k:=h.short;have a:=h.len;have g:=b4Y h.ks h.all h.len zn.length 0 l 4 (by omega) (by rw[a17];exact h.sum) h.wide h.short (by omega);simp only[nZ,a18,a17]at g;unfold a4P;simp only[b1B f,h.may,b2h h.row h.rest h.wide h.short,oB,bT,cF,a1Z,h.sizes,a1e,g]
theorem c3I(h:PartsOk p n warm l zn)(L:List Int):(a1V p zn l L).length=L.length+(4+a5V zn p.2.1 l):=by
 obtain⟨o,g⟩:=a02 h.order.1;have f:=h.order.2;unfold a1V;rw[c1D _ _ _ _ h.all h.wide,g,a2m (by omega),a8L (by omega) (by omega)];omega
def a1T(o:Int):Sub:=((0:Int),(0:Int),o,(0:Int),(0:Int),([]:List Int),a00 3 (0:Int),([]:List Stg),([]:List Int),((0:Int),([]:List Int),()),([]:List Int),())
theorem c5q(o:Int):SmallS (a1T o):=⟨by simp[a1T],by simp[a1T],by simp[a1T],by simp[a1T],by simp[a1T],by simp[a1T]⟩
theorem c6W(h:-1048576≤x∧x≤1048575):v0a (u0z x (-1048576)) 1048575=x:=by
 unfold v0a u0z;have g:decide ((-1048576:Int) > x)=false:=decide_eq_false (by omega);have f:decide ((1048575:Int)<x)=false:=decide_eq_false (by omega);simp only[g,cF,f]
theorem d4p(h:a0A x=true):-1048576≤z0h .i64 x ((10:Nat):Int)∧z0h .i64 x ((10:Nat):Int)≤1048575:=by
 have g:=a1H.1 h;have e:z0h .i64 x ((10:Nat):Int)=x / 1024:=by
  show a85 x 1024=_;exact a47 _ (by decide)
 rw[e];omega
theorem c2X{x:Int}(f:a0A x=true){a l:List Int}{n i:Int}:∀(k s:Nat),s+k=10→∃s':Nat,s'≤10∧x0r a3E (a,(s:Int),x,l,n,i,())=some (a,(s':Int),l,n,i,())
 |0,s,h=>by
  obtain rfl:s=10:=by omega
  have g:decide (((10:Nat):Int)<0)=false:=by decide
  have d:=c6W (d4p f);refine⟨10,a36 _,a0F ?_⟩;simp only[a3E,g,cF,a2D,oB,d,bne_self_eq_false]
 |k+1,s,h=>by
  have g:decide ((s:Int)<0)=false:=decide_eq_false (by omega);cases hc:(v0a (u0z (z0h .i64 x (s:Int)) (-1048576)) 1048575 != z0h .i64 x (s:Int))with
  |false=>exact⟨s,by omega,a0F (by simp only[a3E,g,cF,a2D,oB,hc])⟩
  |true=>
   obtain⟨s',b,c⟩:=c2X f (a:=a) (l:=l) (n:=n) (i:=i) k (s+1) (by omega);refine⟨s',b,?_⟩;rw[a0G (s':=(a,((s+1:Nat):Int),x,l,n,i,())) (by simp only[a3E,g,cF,a2D,oB,hc,cT,a0C (show s<1000000 by omega)])];exact c
theorem c5r(y:l.all a0A=true)(A:l.length<100000):∃r,a8g l=some r∧r.length=l.length:=by
 obtain⟨b,t,s,z,x⟩:=a7U (f:=a5v) (fun i st=>∃s:Nat,s≤10∧st=(l,(s:Int),l,(l.length:Int),(i:Int),())) (fun b=>∃s:Nat,s≤10∧b=(l,(s:Int),())) l.length
  (fun i st g h=>by
   obtain⟨s,u,rfl⟩:=h;obtain⟨s',p,e⟩:=c2X (lA.1 y _ (a04 g)) (a:=l) (l:=l) (n:=(l.length:Int)) (i:=(i:Int)) (10-s) s (by omega);exact⟨_,by simp only[a5v,dlt g,cT,a0B g,oB,e,a0C (show i<1000000 by omega)]<;>rfl,s',p,rfl⟩)
  (fun st h=>by
   obtain⟨s,u,rfl⟩:=h;exact⟨_,by simp only[a5v,dge,cF]<;>rfl,s,u,rfl⟩) l.length 0 _ (by omega) ⟨0,by omega,rfl⟩
 subst x;obtain⟨c,q,o,v,w⟩:=a7U (f:=a5w) (fun i st=>∃o:List Int,st=((s:Int),l,(l.length:Int),(i:Int),o,())∧o.length=l.length) (fun b=>∃o:List Int,b=(o,())∧o.length=l.length) l.length
  (fun i st g h=>by
   obtain⟨o,rfl,m⟩:=h;have k:decide ((s:Int)<0)=false:=decide_eq_false (by omega);have d:decide ((0:Int)≤(i:Int))=true:=by simp
   have j:decide ((i:Int)<((o.length:Nat):Int))=true:=decide_eq_true (by omega);exact⟨_,by simp only[a5w,dlt g,cT,a0B g,oB,k,cF,d,j,a03,a0C (show i<1000000 by omega)]<;>rfl,_,rfl,by simp[m]⟩)
  (fun st h=>by
   obtain⟨o,rfl,m⟩:=h;exact⟨_,by simp only[a5w,dge,cF]<;>rfl,o,rfl,m⟩) l.length 0 _ (by omega) ⟨a00 l.length 0,rfl,by simp⟩
 subst v;refine⟨o,?_,w⟩;have k:decide ((0:Int)≤((l.length:Nat):Int))=true:=by simp
 have d:decide (((l.length:Nat):Int)≤((l.length:Nat):Int))=true:=by simp
 have j:lim l.length=true:=a0Q (by omega);simp only[nZ]at t q;unfold a8g;simp only[t,oB,k,d,j,tN,a03,cT,q]
theorem c1E:∀(N:Nat)(num den:Int),den.toNat≤N→∃a b,x0r a3x (num,den,())=some (a,b,())
 |N,num,den,h=>by
  by_cases hd:den≥1099511627776
  ·have g:decide (den≥(1099511627776:Int))=true:=decide_eq_true hd;have e:z0h .i64 den 1=den / 2:=by
    show a85 den 2=_;exact a47 _ (by decide)
   rw[a0G (s':=(z0h .i64 num 1,den / 2,())) (by simp only[a3x,g,cT,e])]
   match N with
   |0=>omega
   |N+1=>exact c1E N _ _ (by omega)
  have g:decide (den≥(1099511627776:Int))=false:=decide_eq_false hd;exact⟨num,den,a0F (by simp only[a3x,g,cF])⟩
theorem c1F{f:List Int}(u:1≤m)(r:g.length=f.length)(t:f.length<100000)(q:m<1000):∃k,a5c (f,g,(m:Int))=some k:=by
 obtain⟨b,n,d,den,o⟩:=a7U (f:=a3w) (fun i st=>∃d den:Int,st=(f,g,d,den,((m+i:Nat):Int),())) (fun b=>∃d den:Int,b=(d,den,())) (f.length-m)
  (fun i st s h=>by
   obtain⟨d,den,rfl⟩:=h;have j:m+i<f.length:=by omega
   have e:wrap .i64 (((m+i:Nat):Int)-1)=((m+i-1:Nat):Int):=by rw[a0D (by omega)];omega
   exact⟨_,by simp only[a3w,dlt j,cT,a0B j,e,a0B (show m+i-1<g.length by omega),oB,a0C (show m+i<1000000 by omega)]<;>rfl,_,_,rfl⟩)
  (fun st h=>by
   obtain⟨d,den,rfl⟩:=h;have l:decide (((m+(f.length-m):Nat):Int)<((f.length:Nat):Int))=false:=decide_eq_false (by omega);exact⟨_,by simp only[a3w,l,cF]<;>rfl,_,_,rfl⟩) (f.length-m) 0 (f,g,0,0,(m:Int),()) (by omega) ⟨0,0,rfl⟩
 subst o;obtain⟨a,c,p⟩:=c1E den.toNat d den (a36 _);unfold a5c;simp only[n,oB,p];cases hc:(c==0)with
 |true=>exact⟨0,rfl⟩
 |false=>
  simp only[cF];cases decide ((z0g .i64 a 15).tmod c<0)<;>exact⟨_,rfl⟩
theorem c3J{f:List Int}{order:Int}(y:1≤m)(u:g.length=f.length)(x:f.length<100000)(v:m<1000):
  ∃f' a:List Int,x0r a3g (order,(m:Int),k,((f.length:Nat):Int)-1,f,g,ks,())=some (order,(m:Int),f',a,ks,())∧f'.length=f.length∧a.length=f.length:=by
 obtain⟨b,l,f',a,s,t⟩:=a7U (f:=a3g) (fun i st=>∃f' a:List Int,st=(order,(m:Int),k,((f.length:Nat):Int)-1-(i:Int),f',a,ks,())∧f'.length=f.length∧a.length=f.length)
  (fun b=>∃f' a:List Int,b=(order,(m:Int),f',a,ks,())∧f'.length=f.length∧a.length=f.length) (f.length-m)
  (fun i st w h=>by
   obtain⟨f',a,rfl,c,d⟩:=h;have j:decide (((f.length:Nat):Int)-1-(i:Int)≥(m:Int))=true:=decide_eq_true (by omega);have n:decide ((0:Int)≤((f.length:Nat):Int)-1-(i:Int))=true:=decide_eq_true (by omega);have o:decide (((f.length:Nat):Int)-1-(i:Int)<((f'.length:Nat):Int))=true:=decide_eq_true (by omega);have p:decide (((f.length:Nat):Int)-1-(i:Int)<((a.length:Nat):Int))=true:=decide_eq_true (by omega);have e:wrap .i64 (((f.length:Nat):Int)-1-(i:Int)-1)=((f.length:Nat):Int)-1-((i+1:Nat):Int):=by rw[a0D (by omega)];omega
   have q:decide ((0:Int)≤((f.length:Nat):Int)-1-((i+1:Nat):Int))=true:=decide_eq_true (by omega);have r:decide (((f.length:Nat):Int)-1-((i+1:Nat):Int)<((a.length:Nat):Int))=true:=decide_eq_true (by omega);exact⟨_,by simp only[a3g,j,n,o,p,e,q,r,cT,a03,a2D,oB]<;>rfl,_,_,rfl,by simp[c],by simp[d]⟩)
  (fun st h=>by
   obtain⟨f',a,rfl,c,d⟩:=h;have j:decide (((f.length:Nat):Int)-1-((f.length-m:Nat):Int)≥(m:Int))=false:=decide_eq_false (by omega);exact⟨_,by simp only[a3g,j,cF]<;>rfl,f',a,rfl,c,d⟩) (f.length-m) 0 _ (by omega) ⟨f,g,rfl,rfl,u⟩
 subst s;simp only[nZ,Int.sub_zero]at l;exact⟨f',a,l,t⟩
theorem c4x{f:List Int}(y:o≤32)(v:g.length=f.length)(x:f.length<100000):∃ks:List Int,x0r a3h ((o:Int),(1:Int),f,g,([]:List Int),())=some (ks,())∧ks.length=o:=by
 obtain⟨b,j,ks,r,s⟩:=a7U (f:=a3h) (fun i st=>∃f' a ks:List Int,st=((o:Int),((i+1:Nat):Int),f',a,ks,())∧f'.length=f.length∧a.length=f.length∧ks.length=i)
  (fun b=>∃ks:List Int,b=(ks,())∧ks.length=o) o
  (fun i st w h=>by
   obtain⟨f',a,ks,rfl,l,n,p⟩:=h;have d:decide (((i+1:Nat):Int)≤(o:Int))=true:=decide_eq_true (by omega);obtain⟨k,q⟩:=c1F (f:=f') (g:=a) (m:=i+1) (by omega) (by omega) (by omega) (by omega);have e:wrap .i64 (((f'.length:Nat):Int)-1)=((f'.length:Nat):Int)-1:=a0D (by omega);obtain⟨t,u,j,r,s⟩:=c3J (f:=f') (g:=a) (ks:=ks++[k]) (m:=i+1) (order:=(o:Int)) (k:=k) (by omega) (by omega) (by omega) (by omega);have c:lim (ks.length+1)=true:=a0Q (by omega);exact⟨_,by simp only[a3h,d,cT,q,oB,c,e,a06,j,a0C (show i+1<1000000 by omega)]<;>rfl,t,u,ks++[k],rfl,by omega,by omega,by simp[p]⟩)
  (fun st h=>by
   obtain⟨f',a,ks,rfl,l,n,p⟩:=h;have d:decide (((o+1:Nat):Int)≤(o:Int))=false:=decide_eq_false (by omega);exact⟨_,by simp only[a3h,d,cF]<;>rfl,ks,rfl,p⟩) o 0 _ (by omega) ⟨f,g,[],rfl,rfl,v,rfl⟩
 subst r;exact⟨ks,j,s⟩
theorem c4y(h:l.all a0A=true)(t:l.length≤4096)(s:1≤o)(m:o≤32):∃ks:List Int,a6S (l,(o:Int))=some (ks,0)∧ks.length=o:=by
 have p:short l:=by unfold short;omega
 obtain⟨r,e,q⟩:=c5r h (by omega);have n:short r:=by unfold short;omega
 obtain⟨ks,i,j⟩:=c4x (f:=r) (g:=r) m rfl (by omega);have k:decide ((o:Int)<1)=false:=decide_eq_false (by omega);have a:decide ((o:Int) > 32)=false:=decide_eq_false (by omega);have b:decide (((l.length:Nat):Int) > 4096)=false:=decide_eq_false (by omega);have c:decide ((0:Int)≤(o:Int))=true:=by simp
 have d:lim o=true:=a0Q (by omega);refine⟨ks,?_,j⟩;unfold a6S;simp only[k,a,b,c,d,cF,cT,oB,a6p p,h,bT,e,a8K n,tN,a03,i]
theorem b4Z{σ β:Type}{f:σ→Option (σ ⊕ β)}(I:Nat→σ→Prop)(Q:β→Prop)(n:Nat)(a:∀i s,i<n→I i s→(∃s',f s=some (.inl s')∧I (i+1) s')∨(∃b,f s=some (.inr b)∧Q b))
  (g:∀s,I n s→∃b,f s=some (.inr b)∧Q b):∀(k i:Nat)(s:σ),i+k=n→I i s→∃b,x0r f s=some b∧Q b
 |0,i,s,h,hi=>by
  obtain rfl:i=n:=by omega
  obtain⟨b,c,d⟩:=g s hi;exact⟨b,a0F c,d⟩
 |k+1,i,s,h,hi=>by
  rcases a i s (by omega) hi with⟨s',c,d⟩|⟨b,c,d⟩;rw[a0G c];exact b4Z I Q n a g k (i+1) s' (by omega) d;exact⟨b,a0F c,d⟩
theorem c5s(k:ks.length≤32):∃b,x0r a2e (ks,ks,(ks.length:Int),(0:Int),())=some b∧(b=.inl (ks,())∨b=.inr (([]:List Int),(1:Int),())):=
 b4Z (f:=a2e) (fun i s=>s=(ks,ks,(ks.length:Int),(i:Int),())) (fun b=>b=.inl (ks,())∨b=.inr (([]:List Int),(1:Int),())) ks.length
  (fun i s g h=>by
   subst h;cases h1:decide (ks[i]<(-16383:Int))with
   |true=>exact Or.inr ⟨_,by simp only[a2e,dlt g,cT,a0B g,oB,h1]<;>rfl,Or.inr rfl⟩
   |false=>
    cases h2:decide (ks[i] > (16383:Int))with
    |true=>exact Or.inr ⟨_,by simp only[a2e,dlt g,cT,cF,a0B g,oB,h1,h2]<;>rfl,Or.inr rfl⟩
    |false=>exact Or.inl ⟨_,by simp only[a2e,dlt g,cT,cF,a0B g,oB,h1,h2,a0C (show i<1000000 by omega)]<;>rfl,rfl⟩)
  (fun s h=>by
   subst h;exact⟨_,by simp only[a2e,dge,cF]<;>rfl,Or.inl rfl⟩) ks.length 0 _ (by omega) rfl
theorem c5t{a:List Int}(t:c.length=i)(u:i≤32):
  ∃g:List Int,x0r a4j (c,(i:Int),k,a,n,(i:Int),c,(c.length:Int),(0:Int),([]:List Int),())=some (k,a,n,(i:Int),g,())∧g.length=i:=by
 obtain⟨b,p,g,q,r⟩:=a7U (f:=a4j) (fun j s=>∃g:List Int,s=(c,(i:Int),k,a,n,(i:Int),c,(c.length:Int),(j:Int),g,())∧g.length=j)
  (fun b=>∃g:List Int,b=(k,a,n,(i:Int),g,())∧g.length=c.length) c.length
  (fun j s l h=>by
   obtain⟨g,rfl,e⟩:=h;have m:wrap .i64 ((i:Int)-1)=(i:Int)-1:=a0D (by omega);have o:wrap .i64 ((i:Int)-1-(j:Int))=((i-1-j:Nat):Int):=by rw[a0D (by omega)];omega
   have d:lim (g.length+1)=true:=a0Q (by omega);exact⟨_,by simp only[a4j,dlt l,cT,a0B l,oB,m,o,a0B (show i-1-j<c.length by omega),d,a0C (show j<1000000 by omega),a06]<;>rfl,_,rfl,by simp[e]⟩)
  (fun s h=>by
   obtain⟨g,rfl,e⟩:=h;exact⟨_,by simp only[a4j,dge,cF]<;>rfl,g,rfl,e⟩) c.length 0 _ (by omega) ⟨[],rfl,rfl⟩
 subst q;exact⟨g,p,by omega⟩
theorem c6X(C:1≤ks.length)(w:ks.length≤32):∃c e,a8P ks=some (c,e)∧(e=0→c.length=ks.length):=by
 obtain⟨b,q,t⟩:=c5s w;have l:decide (((ks.length:Nat):Int)<1)=false:=decide_eq_false (by omega);have m:decide (((ks.length:Nat):Int) > 32)=false:=decide_eq_false (by omega);unfold a8P;simp only[l,m,cF,oB,q];rcases t with rfl|rfl;obtain⟨r,d,c,u,v⟩:=a7U (f:=a6c) (fun i s=>∃c:List Int,s=(c,ks,(ks.length:Int),(i:Int),())∧c.length=i) (fun r=>∃c:List Int,r=(c,())∧c.length=ks.length) ks.length
  (fun i s j h=>by
   obtain⟨c,rfl,g⟩:=h;have p:wrap .i64 ((i:Int)+1)=((i+1:Nat):Int):=a0C (by omega);have o:decide ((0:Int)≤((i+1:Nat):Int))=true:=by simp;omega
   have x:lim (i+1)=true:=a0Q (by omega);obtain⟨B,z,A⟩:=c5t (c:=c) (a:=ks) (i:=i) (k:=ks[i]) (n:=(ks.length:Int)) g (by omega);have y:lim (B.length+1)=true:=a0Q (by omega);exact⟨_,by simp only[a6c,dlt j,cT,a0B j,oB,p,o,tN,x,a03,z,y,a06]<;>rfl,_,rfl,by simp[A]⟩)
  (fun s h=>by
   obtain⟨c,rfl,g⟩:=h;exact⟨_,by simp only[a6c,dge,cF]<;>rfl,c,rfl,g⟩) ks.length 0 _ (by omega) ⟨[],rfl,rfl⟩
 subst u;simp only[nZ]at d;exact⟨c,0,by simp only[d,oB],fun _=>v⟩;exact⟨[],1,rfl,fun h=>absurd h (by decide)⟩
theorem c5u{s:Nat}{half:Int}(m:c.length≤32)(e:w≤32):
  ∃out:List Int,x0r a2g (c,(w:Int),(s:Int),half,c,(c.length:Int),(0:Int),([]:List Int),())=some (c,(w:Int),(s:Int),out,()):=by
 obtain⟨b,i,out,l⟩:=b4Z (f:=a2g) (fun j st=>∃out:List Int,st=(c,(w:Int),(s:Int),half,c,(c.length:Int),(j:Int),out,())∧out.length=j)
  (fun b=>∃out:List Int,b=(c,(w:Int),(s:Int),out,())) c.length
  (fun j st k h=>by
   obtain⟨out,rfl,d⟩:=h;have a:decide ((s:Int)<0)=false:=decide_eq_false (by omega);have g:lim (out.length+1)=true:=a0Q (by omega);cases hf:a1C (z0h .i64 (wrap .i64 (c[j]+half)) (s:Int)) (w:Int)with
   |true=>exact Or.inl ⟨_,by simp only[a2g,dlt k,cT,a0B k,oB,a,cF,a6G e,hf,bT,g,a0C (show j<1000000 by omega),a06]<;>rfl,_,rfl,by simp[d]⟩
   |false=>exact Or.inr ⟨_,by simp only[a2g,dlt k,cT,a0B k,oB,a,cF,a6G e,hf,a32]<;>rfl,out,rfl⟩)
  (fun st h=>by
   obtain⟨out,rfl,d⟩:=h;exact⟨_,by simp only[a2g,dge,cF]<;>rfl,out,rfl⟩) c.length 0 _ (by omega) ⟨[],rfl,rfl⟩
 subst l;exact⟨out,i⟩
theorem c5v{w:Int}(k:c.length≤32):∃b,x0r a2f (c,w,c,(c.length:Int),(0:Int),())=some b∧(b=.inl (c,w,())∨b=.inr ((0:Int),(1:Int),([]:List Int),())):=
 b4Z (f:=a2f) (fun i s=>s=(c,w,c,(c.length:Int),(i:Int),())) (fun b=>b=.inl (c,w,())∨b=.inr ((0:Int),(1:Int),([]:List Int),())) c.length
  (fun i s g h=>by
   subst h;cases h1:decide (c[i]<(-35184372088832:Int))with
   |true=>exact Or.inr ⟨_,by simp only[a2f,dlt g,cT,a0B g,oB,h1]<;>rfl,Or.inr rfl⟩
   |false=>
    cases h2:decide (c[i] > (35184372088832:Int))with
    |true=>exact Or.inr ⟨_,by simp only[a2f,dlt g,cT,cF,a0B g,oB,h1,h2]<;>rfl,Or.inr rfl⟩
    |false=>exact Or.inl ⟨_,by simp only[a2f,dlt g,cT,cF,a0B g,oB,h1,h2,a0C (show i<1000000 by omega)]<;>rfl,rfl⟩)
  (fun s h=>by
   subst h;exact⟨_,by simp only[a2f,dge,cF]<;>rfl,Or.inl rfl⟩) c.length 0 _ (by omega) rfl
theorem c6Y(B:1≤c.length)(q:c.length≤32)(D:2≤w∧w≤16):∃o sh e,a8Q (c,(w:Int))=some (o,sh,e)∧(e=0→o.length=c.length):=by
 obtain⟨b,y,z⟩:=c5v (w:=(w:Int)) q;have t:decide (((c.length:Nat):Int)<1)=false:=decide_eq_false (by omega);have u:decide (((c.length:Nat):Int) > 32)=false:=decide_eq_false (by omega);have v:decide ((w:Int)<2)=false:=decide_eq_false (by omega);have x:decide ((w:Int) > 16)=false:=decide_eq_false (by omega);unfold a8Q;simp only[t,u,v,x,cF,oB,y];rcases z with rfl|rfl
 ·obtain⟨r,p,A⟩:=b4Z (f:=a2h) (fun i s=>s=(c,(w:Int),(i:Int),())) (fun r=>r=.inl ()∨∃(sh:Int)(o:List Int),r=.inr (sh,(0:Int),o,())∧o.length=c.length) 15
   (fun i s C h=>by
    subst h;have d:decide ((i:Int)≤14)=true:=decide_eq_true (by omega);have j:decide ((0:Int)≤((c.length:Nat):Int))=true:=by simp
    have l:lim c.length=true:=a0Q (by omega);have k:∀g:Int,∃o:List Int,x0r a2g (c,(w:Int),(i:Int),g,c,(c.length:Int),(0:Int),([]:List Int),())=some (c,(w:Int),(i:Int),o,()):=fun g=>c5u q (by omega)
    by_cases hp:(i:Int) > 0
    ·have n:wrap .i64 ((i:Int)-1)=(i:Int)-1:=a0D (by omega);have m:decide ((i:Int)-1<0)=false:=decide_eq_false (by omega);obtain⟨o,a⟩:=k (z0g .i64 1 ((i:Int)-1));cases hc:((((o.length:Nat):Int))==((c.length:Nat):Int))with
     |true=>exact Or.inr ⟨_,by simp only[a2h,d,cT,hp,decide_true,n,m,cF,oB,j,tN,l,a03,a,hc]<;>rfl,Or.inr ⟨_,o,rfl,by have:=beq_iff_eq.1 hc;omega⟩⟩
     |false=>exact Or.inl ⟨_,by simp only[a2h,d,cT,hp,decide_true,n,m,cF,oB,j,tN,l,a03,a,hc,a0C (show i<1000000 by omega)]<;>rfl,rfl⟩
    ·obtain⟨o,a⟩:=k 0;cases hc:((((o.length:Nat):Int))==((c.length:Nat):Int))with
     |true=>exact Or.inr ⟨_,by simp only[a2h,d,cT,hp,decide_false,cF,oB,j,tN,l,a03,a,hc]<;>rfl,Or.inr ⟨_,o,rfl,by have:=beq_iff_eq.1 hc;omega⟩⟩
     |false=>exact Or.inl ⟨_,by simp only[a2h,d,cT,hp,decide_false,cF,oB,j,tN,l,a03,a,hc,a0C (show i<1000000 by omega)]<;>rfl,rfl⟩)
   (fun s h=>by
    subst h;have d:decide (((15:Nat):Int)≤14)=false:=by decide
    exact⟨_,by simp only[a2h,d,cF]<;>rfl,Or.inl rfl⟩) 15 0 (c,(w:Int),(0:Int),()) (by omega) rfl
  rcases A with rfl|⟨sh,o,rfl,a⟩;exact⟨[],0,6,by simp only[p,oB],fun h=>absurd h (by decide)⟩;exact⟨o,sh,0,by simp only[p,oB],fun _=>a⟩
 exact⟨[],0,1,rfl,fun h=>absurd h (by decide)⟩
theorem c7V(q:l.all a0A=true)(p:l.length≤4096)(j:1≤o)(m:o≤32)(n:2≤w∧w≤16):∃c sh e,a4b (l,(o:Int),(w:Int))=some (c,sh,e)∧(e=0→c.length=o):=by
 obtain⟨ks,a,s⟩:=c4y q p j m;obtain⟨c,e,b,g⟩:=c6X (ks:=ks) (by omega) (by omega);unfold a4b;simp only[a,oB,show((0:Int) != 0)=false from rfl,cF,b]
 by_cases he:e=0
 subst he;obtain⟨r,sh,k,d,i⟩:=c6Y (c:=c) (w:=w) (by have:=g rfl;omega) (by have:=g rfl;omega) n
 have:=g rfl
 exact⟨r,sh,k,by simp only[show((0:Int) != 0)=false from rfl,cF,d,oB],fun h=>by have:=i h;omega⟩;have f:(e != 0)=true:=by simpa using he
 exact⟨[],0,e,by simp only[f,cT],fun h=>absurd h he⟩
theorem c6Z(c:l.length<100000)(d:o≤4):∃v,a9M (l,(o:Int))=some v:=by
 obtain⟨b,k,v,a⟩:=a7U (f:=a4K) (fun i s=>∃v:Int,s=((o:Int),v,l,(l.length:Int),(i:Int),())) (fun b=>∃v:Int,b=(v,())) l.length
  (fun i s g h=>by
   obtain⟨v,rfl⟩:=h;cases hc:decide (wrap .i64 ((i:Int)+(o:Int))≥4)with
   |true=>exact⟨_,by simp only[a4K,dlt g,cT,a0B g,oB,hc,a0C (show i<1000000 by omega)]<;>rfl,_,rfl⟩
   |false=>exact⟨_,by simp only[a4K,dlt g,cT,cF,a0B g,oB,hc,a0C (show i<1000000 by omega)]<;>rfl,_,rfl⟩)
  (fun s h=>by
   obtain⟨v,rfl⟩:=h;exact⟨_,by simp only[a4K,dge,cF]<;>rfl,v,rfl⟩) l.length 0 ((o:Int),(0:Int),l,(l.length:Int),(0:Int),()) (by omega) ⟨0,rfl⟩
 subst a;refine⟨v,?_⟩;unfold a9M;simp only[k,oB]
theorem c1G(k:o≤4)(b:l.length<100000)(a:l.all a0A=true):∃r e,a4J (l,(o:Int))=some (r,e)∧r.length≤l.length:=by
 by_cases hn:o≤l.length
 ·rw[b7X k hn (by unfold short;omega) a];cases (a1R o l).all a0A with
  |true=>exact⟨_,_,rfl,by rw[a5Y];omega⟩
  |false=>exact⟨_,_,rfl,by simp⟩
 have h:decide ((o:Int)<0)=false:=decide_eq_false (by omega);have g:decide ((o:Int) > 4)=false:=decide_eq_false (by omega);have f:decide (((l.length:Nat):Int)<(o:Int))=true:=decide_eq_true (by omega);exact⟨[],1,by unfold a4J;simp only[h,g,f,cF,cT,oB],by simp⟩
theorem c1H(n:l.length<100000)(p:l.all a0A=true):∃o:Nat,a6t l=some (o:Int)∧o≤4:=by
 obtain⟨b,d,o,j,m⟩:=a7U (f:=a2O) (fun i s=>∃(o:Nat)(v:Int),s=(l,(o:Int),v,(i:Int),())∧o≤4) (fun b=>∃o:Nat,b=((o:Int),())∧o≤4) 5
  (fun i s t h=>by
   obtain⟨o,v,rfl,a⟩:=h;have g:decide ((i:Int)≤4)=true:=decide_eq_true (by omega);obtain⟨r,e,k,q⟩:=c1G (o:=i) (by omega) n p;obtain⟨y,c⟩:=c6Z (l:=r) (o:=i) (by omega) (by omega);cases hc:(e != 0)with
   |true=>exact⟨_,by simp only[a2O,g,cT,k,oB,hc,a0C (show i<1000000 by omega)]<;>rfl,o,v,rfl,a⟩
   |false=>
    cases h4:decide (v<0)with
    |true=>exact⟨_,by simp only[a2O,g,cT,cF,k,oB,hc,c,h4,a0C (show i<1000000 by omega)]<;>rfl,i,y,rfl,by omega⟩
    |false=>
     cases h5:decide (y<v)with
     |true=>exact⟨_,by simp only[a2O,g,cT,cF,k,oB,hc,c,h4,h5,a0C (show i<1000000 by omega)]<;>rfl,i,y,rfl,by omega⟩
     |false=>exact⟨_,by simp only[a2O,g,cT,cF,k,oB,hc,c,h4,h5,a0C (show i<1000000 by omega)]<;>rfl,o,v,rfl,a⟩)
  (fun s h=>by
   obtain⟨o,v,rfl,a⟩:=h;have g:decide (((5:Nat):Int)≤4)=false:=by decide
   exact⟨_,by simp only[a2O,g,cF]<;>rfl,o,rfl,a⟩) 5 0 (l,(0:Int),(-1:Int),(0:Int),()) (by omega) ⟨0,-1,rfl,by omega⟩
 subst j;refine⟨o,?_,m⟩;unfold a6t;simp only[d,oB]
def b0D(g:List Int→Int):List Int→List Int→List Int
 | [],_=>[]
 |x::r,done=>W (x-g done)::b0D g r (done++[x])
theorem b5a(g:List Int→Int):∀r done,(b0D g r done).length=r.length
 | [],_=>rfl
 |x::r,done=>by simp[b0D,b5a g r]
theorem c7W{g:Int}(h:a0A x=true):W (W (x-g)+g)=x:=by
 have:=b5x h
 simp_all[a6J]
theorem b7g(g:List Int→Int):∀(r done:List Int),r.all a0A=true→a2T g (b0D g r done) done=some (done++r)
 | [],done,_=>by simp[b0D,a2T]
 |x::r,done,h=>by
  rw[a07,bA]at h;simp only[b0D,a2T,c7W h.1,h.1,cT,b7g g r (done++[x]) h.2,aA,a57]
def b2U(g:List Int→Int)(r done:List Int):Option (List Int):=bif (b0D g r done).all a0A then some (b0D g r done)else none
def b5F{β:Type}(g:List Int→Int)(bad:β)(a:List Int×List Int)(x:Int):(List Int×List Int) ⊕ β:=
 bif a0A (W (x-g a.1))then .inl (a.1++[x],a.2++[W (x-g a.1)])else .inr bad
theorem b7h{β:Type}(g:List Int→Int)(f:β)(k:List Int×List Int→β):∀(r done acc:List Int),
  a8a k (a2x (b5F g f) r (done,acc))=match b2U g r done with|some e=>k (done++r,acc++e)|none=>f
 | [],done,acc=>by grind[a2x,a8a,b2U,b0D]
 |x::r,done,acc=>by
  simp[a2x,b5F];cases h:a0A (W (x-g done))with
  |true=>
   simp
   rw[b7h g f k r];simp only[b2U,b0D,a07,h,a40]
   grind
  |false=>simp_all[a8a,b2U,b0D]
theorem c1I{g:List Int→Int}{done e:List Int}(h:b2U g r done=some e):e=b0D g r done∧e.all a0A=true:=by
 unfold b2U at h
 grind
theorem c2Y(h:i<l.length):l.take i++[l[i]]=l.take (i+1):=by simp
theorem b7i{l:List Int}{p:Int→Bool}(h:l.all p=true)(i:Nat):(l.take i).all p=true:=by
 grind
theorem c8T{p:Int→Bool}(h:l.all p=true)(i:Nat):(l.drop i).all p=true:=by
 grind
theorem c2Z{σ β:Type}{f:σ→Option (σ ⊕ β)}(l:List Int)(k:Nat)(r:k≤l.length)(S:Nat→List Int→σ)(g:List Int×List Int→Int→(List Int×List Int) ⊕ β)(d:List Int→β)
  (j:∀i (h:i<l.length) c,k≤i→c.length=i-k→(∀a',g (l.take i,c) l[i]=.inl a'→f (S i c)=some (.inl (S (i+1) a'.2))∧a'.1=l.take (i+1)∧a'.2.length=i+1-k)∧(∀b,g (l.take i,c) l[i]=.inr b→f (S i c)=some (.inr b)))
  (e:∀c,c.length=l.length-k→f (S l.length c)=some (.inr (d c))):x0r f (S k [])=some (a8a (fun a=>d a.2) (a2x g (l.drop k) (l.take k,[]))):=by
 have h:=a1m (f:=f) (l.drop k) (fun i a=>S (k+i) a.2) g (fun i a=>a.1=l.take (k+i)∧a.2.length=i) (fun a=>d a.2)
  (fun i p a n=>by
   obtain⟨a1,c⟩:=a;obtain⟨m,o⟩:=n;simp only at m o;subst m;rw[a46]at p;have q:k+i<l.length:=by omega
   grind)
  (fun a n=>by
   simp_all) (a:=(l.take k,[])) ⟨by simp,rfl⟩
 omega
def b7j(l c:List Int)(s:Int):Option (List Int):=bif l.all a0A then b2U (a8b c s) (l.drop c.length) (l.take c.length)else none
theorem b6C{s:Int}(w:a4X c s=true)(u:c.length≤l.length)(z:l.length<100000):
  a7v (l,c,s)=some (a2A (b7j l c s)):=by
 have n:short l:=by unfold short;omega
 have k:short c:=by unfold short;omega
 have e:0≤s:=by simp_all[a4X]
 have p:decide (((l.length:Nat):Int)<((c.length:Nat):Int))=false:=by simp_all
 unfold a7v b7j;simp only[b0B k,w,oB,bT,cF,p,a6p n];cases hw:l.all a0A with
 |false=>rfl
 |true=>
  have q:wrap .i64 (((l.length:Nat):Int)-((c.length:Nat):Int))=((l.length-c.length:Nat):Int):=by grind[a0D]
  have y:decide ((0:Int)≤((l.length-c.length:Nat):Int))=true:=by simp
  have r:lim (l.length-c.length)=true:=a0Q (by omega);simp[q,r]
  have:=c2Z (f:=a4O) l c.length u (fun i h=>(l,c,s,(i:Int),h,())) (b5F (a8b c s) (.inr ((6:Int),([]:List Int),()))) (fun h=>.inl (h,()))
   (fun i a h v d=>by
    have o:short (l.take i):=by unfold short;grind
    have j:decide ((0:Int)≤(i:Int))=true:=by simp
    have m:decide ((i:Int)≤((l.length:Nat):Int))=true:=by grind
    have t:lim (h.length+1)=true:=a0Q (by omega);constructor
    ·intro x g;unfold b5F at g;cases hq:a0A (W (l[i]-a8b c s (l.take i)))with
     |false=>simp_all
     |true=>
      simp only[hq,cT,Sum.inl.injEq]at g;subst g;refine⟨?_,c2Y a,by grind⟩;simp only[a4O,dlt a,cT,a0B a,oB,j,m,a03,tN,b6V o k e,a6E,hq,bT,cF,t,a0C (a29 a n),a06]
    ·intro b hb;unfold b5F at hb;cases hq:a0A (W (l[i]-a8b c s (l.take i)))with
     |true=>simp_all
     |false=>
      simp[hq]at hb;subst hb;simp only[a4O,dlt a,cT,a0B a,oB,j,m,a03,tN,b6V o k e,a6E,hq,a32])
   (fun h d=>by simp[a4O])
  rw[this,b7h];cases b2U (a8b c s) (l.drop c.length) (l.take c.length)<;>rfl
theorem b7k{s:Int}(h:b7j l c s=some r):b1z (l.take c.length) r c s=some l∧r.all a0A=true∧r.length=l.length-c.length:=by
 unfold b7j at h;cases hw:l.all a0A with
 |false=>simp_all
 |true=>
  simp[hw]at h;obtain⟨e,g⟩:=c1I h;refine⟨?_,g,by simp_all[b5a]⟩;simp[b1z,b7i hw,g]
  grind[b7g,List.take_append_drop]
def b6D(l:List Int)(lag:Int)(t:List Int):Option (List Int):=bif l.all a0A then b2U (a5S lag t) l []else none
theorem c4z(p:a7d lag t=true)(d:t.length=3)(s:l.length<100000):
  a9y (l,lag,t)=some (a2A (b6D l lag t)):=by
 have c:short l:=by unfold short;omega
 obtain⟨j,m⟩:2≤lag∧lag≤1024:=by simp_all[a7d]
 unfold a9y b6D;simp only[b5V d,p,oB,bT,cF,b5u c];cases hw:l.all a0A with
 |false=>rfl
 |true=>
  have r:decide ((0:Int)≤((l.length:Nat):Int))=true:=by simp
  have e:lim l.length=true:=a0Q (by omega);simp[e]
  have:=c2Z (f:=a6u) l 0 (Nat.zero_le _) (fun i h=>(l,lag,l,(l.length:Int),(i:Int),h,t,())) (b5F (a5S lag t) (.inr ((6:Int),([]:List Int),()))) (fun h=>.inl (h,()))
   (fun i a h o k=>by
    have n:lim (h.length+1)=true:=a0Q (by omega);have hp:=b5y (lag:=lag) (t:=t) (a61 a) c d j m;constructor
    ·intro q g;unfold b5F at g;cases hq:a0A (W (l[i]-a5S lag t (l.take i)))with
     |false=>simp_all
     |true=>
      simp only[hq,cT,Sum.inl.injEq]at g;subst g;refine⟨?_,c2Y a,by simp_all⟩;simp only[a6u,dlt a,cT,a0B a,oB,hp,a8I,hq,bT,cF,n,a0C (a29 a c),a06]
    ·intro b hb;unfold b5F at hb;cases hq:a0A (W (l[i]-a5S lag t (l.take i)))with
     |true=>simp_all
     |false=>
      simp_all[a6u,a0B,a8I])
   (fun h k=>by simp[a6u])
  simp only[nZ]at this;rw[this,b7h,a17,List.take_zero];cases b2U (a5S lag t) l []<;>rfl
theorem b8N(h:b6D l lag t=some r):b2O r lag t=some l∧r.all a0A=true∧r.length=l.length:=by
 unfold b6D at h;cases hw:l.all a0A with
 |false=>simp_all
 |true=>
  simp[hw]at h;obtain⟨e,g⟩:=c1I h;refine⟨?_,g,by rw[e,b5a]⟩;simp[b2O,g];simp_all[b7g]
def rsG:List Int→Fil→List Int
 | [],_=>[]
 |x::r,f=>W (x-a0U f)::rsG r (b0C f x)
theorem b7l:∀r f,(rsG r f).length=r.length
 | [],_=>rfl
 |x::r,f=>by simp[rsG,b7l r]
def rsO:List Int→List Int→Fil→Option (List Int)
 | [],done,_=>some done
 |x::r,done,f=>bif a0A (W (x-a0U f))then rsO r (done++[W (x-a0U f)]) (b0C f x)else none
theorem c7X:∀(r done:List Int)(f:Fil),rsO r done f=bif (rsG r f).all a0A then some (done++rsG r f)else none
 | [],done,f=>by simp[rsO,rsG]
 |x::r,done,f=>by
  simp only[rsO,rsG,a07];cases a0A (W (x-a0U f))with
  |false=>rfl
  |true=>simp only[cT,a40,c7X r,aA,a57]
theorem c5O:∀(r z:List Int)(f:Fil),r.all a0A=true→stO (rsG r f) z f=some (z++r)
 | [],z,f,_=>by simp[rsG,stO]
 |x::r,z,f,h=>by
  rw[a07,bA]at h;have e:W (a0U f+W (x-a0U f))=x:=by rw[Int.add_comm];exact c7W h.1
  simp only[rsG,stO,e,h.1,cT,c5O r _ _ h.2,aA,a57]
theorem b5G{row:List Int}{a:List Stg}{b c:Int}(l:short row):∀(k i:Nat)(done:List Int)(f:Fil),i+k=row.length→done.length=i→FilOk f→
  x0r a5A (a,b,c,(row.length:Int),(i:Int),done++row.drop i,f,())=some (match rsO (row.drop i) done f with
   |some r=>.inl (a,b,c,r,())
   |none=>.inr ((6:Int),([]:List Int),()))
 |0,i,done,f,h,hd,hf=>by
  obtain rfl:i=row.length:=by omega
  rw[a43,a49];exact a0F (b:=Sum.inl (a,b,c,done,())) (by simp[a5A])
 |k+1,i,done,f,h,hd,hf=>by
  have g:i<row.length:=by omega
  have n:row.length<1000000:=l;have e:decide ((0:Int)≤(i:Int))=true:=by simp
  have m:(done++row.drop i).length=row.length:=by simp;omega
  have j:decide ((i:Int)<(((done++row.drop i).length:Nat):Int))=true:=by rw[m];simp;omega
  have d:rsO (row.drop i) done f=bif a0A (W (row[i]-a0U f))then rsO (row.drop (i+1)) (done++[W (row[i]-a0U f)]) (b0C f row[i])else none:=by
   rw[a01 g];rfl
  rw[d];cases hw:a0A (W (row[i]-a0U f))with
  |true=>
   rw[a0G (s':=(a,b,c,(row.length:Int),((i+1:Nat):Int),(done++[W (row[i]-a0U f)])++row.drop (i+1),b0C f row[i],())) (by
    simp only[a5A,dlt g,e,j,cT,a03,a6F hf,oB,tN,b3g hd g,a5s,hw,bT,cF,b7S hf,c0E hd g,a0C (show i<1000000 by omega)])]
   exact b5G l k (i+1) _ _ (by omega) (by simp;omega) (c0C hf _)
  |false=>
   exact a0F (by
    simp only[a5A,dlt g,e,j,cT,a03,a6F hf,oB,tN,b3g hd g,a5s,hw,a32];rfl)
def lRO:List Stg→List Int→Option (List Int)
 | [],row=>some row
 |s::r,row=>match rsO row [] (a9u s)with
  |some row'=>lRO r row'
  |none=>none
theorem c4A(h:rsO row [] f=some d):d=rsG row f∧d.all a0A=true:=by
 rw[c7X]at h;cases hc:(rsG row f).all a0A with
 |true=>simp only[hc,cT,a19,sj]at h;subst h;exact⟨rfl,hc⟩
 |false=>simp[hc]at h
theorem c3a:∀(a b:List Stg)(row:List Int),lO (a++b) row=match lO a row with|some r=>lO b r|none=>none
 | [],b,row=>rfl
 |s::a,b,row=>by
  simp only[a94,lO];split;exact c3a a b _;rfl
theorem c4B:∀(st:List Stg)(row d:List Int),row.all a0A=true→lRO st row=some d→lO st.reverse d=some row∧d.all a0A=true∧d.length=row.length
 | [],row,d,hw,h=>by
  simp only[lRO,sj]at h;subst h;exact⟨rfl,hw,rfl⟩
 |s::st,row,d,hw,h=>by
  simp only[lRO]at h
  split at h
  rename_i g c;obtain⟨e,f⟩:=c4A c;obtain⟨k,a,b⟩:=c4B st g d f h;refine⟨?_,a,by rw[b,e,b7l]⟩;rw[List.reverse_cons,c3a,k];simp only[lO];rw[e,c5O row [] _ hw,a19];cases h
theorem b3R{st:List Stg}(i:∀s∈st,stageB s=true)(l:st.length≤3):∀(j k:Nat)(row:List Int),k+j=st.length→short row→
  x0r a5B (st,(st.length:Int),(k:Int),row,())=some (match lRO (st.drop k) row with
   |some r=>.inl (r,())
   |none=>.inr ((6:Int),([]:List Int),()))
 |0,k,row,h,hs=>by
  obtain rfl:k=st.length:=by omega
  rw[a43];exact a0F (by simp[a5B,lRO])
 |j+1,k,row,h,hs=>by
  have f:k<st.length:=by omega
  have g:=i _ (a04 f);have d:=b5G (a:=st) (b:=(st.length:Int)) (c:=(k:Int)) hs row.length 0 [] (a9u st[k]) (by omega) rfl (c2v g);simp only[nZ,a17,a19]at d;have e:((0:Int) != 0)=false:=rfl;rw[a01 f];simp only[lRO];cases hr:rsO row [] (a9u st[k])with
  |some r=>
   rw[hr]at d;rw[a0G (s':=(st,(st.length:Int),((k+1:Nat):Int),r,())) (by simp only[a5B,dlt f,cT,a0B f,oB,b4N g,e,cF,d,a0C (show k<1000000 by omega)])];exact b3R i l j (k+1) r (by omega) (by have:=(c4A hr).1;unfold short at hs⊢;rw[this,b7l];exact hs)
  |none=>
   rw[hr]at d;exact a0F (by simp only[a5B,dlt f,cT,a0B f,oB,b4N g,e,cF,d])
def b4n(l:List Int)(st:List Stg):Option (List Int):=bif l.all a0A then lRO st l else none
theorem c3K(k:a4Y st=true)(a:l.length<100000):b1d (l,st)=some (a2A (b4n l st)):=by
 have h:=k;simp only[a4Y,bA,dT]at h;have f:short st:=by unfold short;omega
 have g:short l:=by unfold short;omega
 unfold b1d b4n;simp only[b4K f,k,oB,bT,cF,b4J g];cases hw:l.all a0A with
 |false=>rfl
 |true=>
  have:=b3R (lA.1 h.2) h.1 st.length 0 l (by omega) g
  simp only[nZ,a17]at this;simp only[bT,cF,cT,a8K g,oB,this];cases lRO st l<;>rfl
theorem c1J(h:b4n l st=some r):a9G r st=some l∧r.all a0A=true∧r.length=l.length:=by
 unfold b4n at h;cases hw:l.all a0A with
 |false=>simp[hw]at h
 |true=>
  simp only[hw,cT]at h;obtain⟨f,g,k⟩:=c4B st l r hw h;exact⟨by simp only[a9G,g,cT,f],g,k⟩
theorem p64{w:Nat}(h:w≤64):((2^w:Nat):Int) ∣ 18446744073709551616:=a25.2 (a60 2 h)
theorem d2c(n:Int):∃q,wrap .i64 n=n+18446744073709551616*q:=by
 rw[a6J,Int.bmod];split;exact⟨-(n / 18446744073709551616),by omega⟩;exact⟨-(n / 18446744073709551616)-1,by omega⟩
theorem c8U(h:w≤64)(n:Int):((2^w:Nat):Int) ∣ wrap .i64 n↔((2^w:Nat):Int) ∣ n:=by
 obtain⟨q,g⟩:=d2c n;rw[g]
 grind[a72,a53,p64]
theorem c3b(h:w≤64)(a:Int):2^w ∣ (a05 64 a).toNat↔((2^w:Nat):Int) ∣ a:=by
 have e:(((a05 64 a).toNat:Nat):Int)=a+18446744073709551616*-(a / 18446744073709551616):=by
  rw[BitVec.toNat_ofInt];omega
 rw[←a25,e]
 grind[a72,a53,p64]
theorem c7a(w x y:Nat):2^w ∣ (x ||| y)↔2^w ∣ x∧2^w ∣ y:=by
 simp_all[Nat.dvd_iff_mod_eq_zero,Nat.or_mod_two_pow]
theorem d2d(h:w≤64)(a b:Int):((2^w:Nat):Int) ∣ bits .i64 .or a b↔((2^w:Nat):Int) ∣ a∧((2^w:Nat):Int) ∣ b:=by
 show((2^w:Nat):Int) ∣ wrap .i64 ((((a05 64 a) ||| (a05 64 b)).toNat:Nat):Int)↔_;rw[c8U h,a25,a78,c7a,c3b h,c3b h]
def orI(l:List Int)(a:Int):Int:=l.foldl (fun a x=>bits .i64 .or a x) a
theorem b6E{w:Nat}(h:w≤64):∀(l:List Int)(a:Int),((2^w:Nat):Int) ∣ orI l a↔((2^w:Nat):Int) ∣ a∧∀x∈l,((2^w:Nat):Int) ∣ x
 | [],a=>by simp[orI]
 |x::l,a=>by
  show((2^w:Nat):Int) ∣ orI l (bits .i64 .or a x)↔_;rw[b6E h l,d2d h];simp_all[and_assoc]
theorem c4C:∀(l:List Int),(∀x∈l,x=0)→orI l 0=0
 | [],_=>rfl
 |x::l,h=>by
  have g:=h x (a65);subst g;show orI l (bits .i64 .or 0 0)=0;rw[show bits .i64 .or 0 0=0 from by rfl];simp_all[c4C]
theorem d2e(k:l.all a0A=true)(h:∃x∈l,x≠0):orI l 0≠0:=by
 intro e;obtain⟨x,g,f⟩:=h;have b:=((b6E (w:=62) (by omega) l 0).1 (by omega)).2 x g;have a:=a1H.1 (lA.1 k x g);omega
def a9k(l:List Int)(w:Nat):Prop:=
 ((∀x∈l,x=0)∧w=0)∨((∃x∈l,x≠0)∧w≤30∧(∀x∈l,((2^w:Nat):Int) ∣ x)∧(w=30∨∃x∈l,¬ ((2^(w+1):Nat):Int) ∣ x))
theorem c7b{v w:Nat}(h:v≤w){x:Int}(g:((2^w:Nat):Int) ∣ x):((2^v:Nat):Int) ∣ x:=
 Int.dvd_trans (a25.2 (a60 2 h)) g
theorem a9k.unique(hv:a9k l v)(g:a9k l w):v=w:=by
 have d:∀{v w:Nat},v≤30→w≤30→(∀x∈l,((2^w:Nat):Int) ∣ x)→(v=30∨∃x∈l,¬ ((2^(v+1):Nat):Int) ∣ x)→w≤v:=by
  grind[c7b]
 rcases hv with⟨f,hv⟩|⟨⟨x,c,h⟩,hv1,hv2,hv3⟩
 ·rcases g with⟨-,g⟩|⟨⟨x,c,h⟩,-⟩
  all_goals grind
 ·rcases g with⟨f,-⟩|⟨-,k,a,b⟩
  all_goals grind
theorem c4D:∀(n N:Nat),N≤n→0<N→∃k m,N=2^k*(2*m+1)
 |0,N,h,h0=>absurd h0 (by omega)
 |n+1,N,h,h0=>by
  by_cases he:N%2=0
  obtain⟨k,m,e⟩:=c4D n (N / 2) (by omega) (by omega);refine⟨k+1,m,?_⟩;rw[a89,a74 (2^k) 2,Nat.mul_assoc,←e];omega;exact⟨0,N / 2,by omega⟩
theorem d1i{k:Nat}(h:2^k*(2*m+1)<2^64):(2^k*(2*m+1)) &&& (2^64-2^k*(2*m+1))=2^k:=by
 have hp:1≤2^k:=a87;have n:k<64:=by
  refine a99 fun g=>?_
  have d:2^64≤2^k:=a16 (by simp) g
  grind
 have e:2^k*(2*m+1)=(2^k*(2*m)+(2^k-1))+1:=by grind
 have l:2^k*(2*m)+(2^k-1)<2^64:=by omega
 refine Nat.eq_of_testBit_eq fun i=>?_
 have a:(2^64-2^k*(2*m+1)).testBit i=(decide (i<64)&&!(2^k*(2*m)+(2^k-1)).testBit i):=by
  rw[e];exact Nat.testBit_two_pow_sub_succ l i
 have f:=a63 (2*m+1) (b:=0) (i:=k) (by omega) i;rw[a88]at f;have c:=a63 (2*m) (b:=2^k-1) (i:=k) (by omega) i;rw[Nat.testBit_and,a,f,c,Nat.testBit_two_pow]
 by_cases d:i<k
 grind
 by_cases h2:k=i
 simp_all;obtain⟨j,rfl⟩:∃j,i=k+(j+1):=⟨i-k-1,by omega⟩;have o:k+(j+1)-k=j+1:=by omega
 have p:(2*m+1) / 2=m:=by omega
 simp_all[Nat.testBit_succ]
theorem c8V:∀k:Nat,k<64→b2o[(2^k*285870213051353865)%18446744073709551616 / 288230376151711744]?=some (k:Int):=by
 have h:∀k:Fin 64,b2o[(2^k.val*285870213051353865)%18446744073709551616 / 288230376151711744]?=some (k.val:Int):=by decide
 exact fun k g=>h ⟨k,g⟩
theorem c5w{k:Nat}:¬ 2^(k+1) ∣ 2^k*(2*m+1):=by
 rintro⟨c,h⟩
 rw[a89,Nat.mul_assoc]at h
 grind[Nat.eq_of_mul_eq_mul_left]
theorem c8W(d:0<N)(h:N<18446744073709551616):∃k:Nat,a1F (N:Int)=some (k:Int)∧2^k ∣ N∧¬ 2^(k+1) ∣ N:=by
 obtain⟨k,m,e⟩:=c4D N N (a36 _) d;have n:2^k≤N:=by grind
 have i:k<64:=by
  refine a99 fun g=>?_
  have l:2^64≤2^k:=a16 (by simp) g;omega
 refine⟨k,?_,⟨_,e⟩,e▸c5w⟩;have hb:bits .u64 .and (N:Int) (wrap .u64 (0-(N:Int)))=((2^k:Nat):Int):=by
  have b:wrap .u64 (0-(N:Int))=((18446744073709551616-N:Nat):Int):=by
   grind[wrap,IntKind.bits,IntKind.signed]
  rw[b];show wrap .u64 (((a05 64 (N:Int)) &&& (a05 64 ((18446744073709551616-N:Nat):Int))).toNat:Int)=_;rw[a22,a22,a97,a30,a30,a37 h,a37 (by omega)]
  have:=d1i (k:=k) (m:=m) (by omega)
  rw[←e]at this;rw[show(18446744073709551616:Nat)=2^64 from rfl,this];exact a0N (by omega)
 have j:((N:Int)==0)=false:=by grind
 unfold a1F;rw[hb,j,cF];have f:wrap .u64 (((2^k:Nat):Int)*285870213051353865)=(((2^k*285870213051353865)%18446744073709551616:Nat):Int):=by
  rfl
 have a:=c8V k i;generalize (2^k*285870213051353865)%18446744073709551616=M at f a;have c:=a3O (N:=M) (o:=58) (by omega);rw[f,show(58:Int)=((58:Nat):Int)from rfl,c,show 2^58=288230376151711744 from rfl];generalize M / 288230376151711744=J at a
 grind[a0B,a0D]
theorem c8X{n:Nat}(g:n≤62)(c:Int):z0h .i64 (((2^n:Nat):Int)*c) (n:Int)=c:=by
 have hp:0<2^n:=a09 n;have e:min (a35 (n:Int)) (IntKind.bits .i64)=n:=by grind[IntKind.bits]
 have h:((2^n:Nat):Int)=2^n:=by simp
 unfold z0h
 grind[a70]
theorem c5P{l:List Int}(f:short l):∀(k i:Nat)(a:Int),i+k=l.length→x0r a5t (a,l,(l.length:Int),(i:Int),())=some (orI (l.drop i) a,())
 |0,i,a,h=>by
  obtain rfl:i=l.length:=by omega
  simp_all[a0F,a5t,orI]
 |k+1,i,a,h=>by
  have g:i<l.length:=by omega
  have b:l.length<1000000:=f;rw[a01 g,a0G (s':=(bits .i64 .or a l[i],l,(l.length:Int),((i+1:Nat):Int),())) (by
   simp only[a5t,dlt g,cT,a0B g,oB,a0C (show i<1000000 by omega)])]
  exact c5P f k (i+1) _ (by omega)
theorem c5x{l:List Int}{r:Nat}(g:r≤30)(h:r=30∨¬ ((2^(r+1):Nat):Int) ∣ orI l 0):r=30∨∃x∈l,¬ ((2^(r+1):Nat):Int) ∣ x:=by
 grind[b6E,a90]
theorem c0L{l:List Int}(y:short l)(j:l.all a0A=true):∃w:Nat,a3S l=some (w:Int)∧w≤30∧a9k l w:=by
 have a:=c5P y l.length 0 0 (by omega);simp at a;unfold a3S;simp[a]
 by_cases hz:∀x∈l,x=0
 have e:=c4C l hz;exact⟨0,by simp_all,by omega,.inl ⟨hz,rfl⟩⟩
 ·have g:∃x∈l,x≠0:=Classical.byContradiction fun m=>hz fun x g=>Classical.byContradiction fun s=>m ⟨x,g,s⟩;have t:=d2e j g;have n:(orI l 0==0)=false:=by simp_all
  obtain⟨q,u⟩:∃q,wrap .u64 (orI l 0)=orI l 0+18446744073709551616*q:=⟨-(orI l 0 / 18446744073709551616),by
   grind[wrap,IntKind.bits,IntKind.signed]⟩
  obtain⟨B,r2⟩:=b9M (orI l 0);obtain⟨N,d⟩:=a02 B;have b:∀v,v≤64→(2^v ∣ N↔((2^v:Nat):Int) ∣ orI l 0):=fun v hv=>by
   rw[←a25,←d,u]
   grind[a72,a53,p64]
  have h:0<N:=by
   refine Nat.pos_of_ne_zero fun C=>?_
   obtain⟨x,f,A⟩:=g;have E:=((b6E (w:=62) (by omega) l 0).1 ((b 62 (by omega)).1 (by omega))).2 x f;have z:=a1H.1 (lA.1 j x f);omega
  obtain⟨k,p,c,r⟩:=c8W h (by omega);have i:k≤63:=by
   refine Nat.le_of_not_lt fun o=>?_
   have a:2^64≤2^k:=a16 (by simp) (by omega)
   have:=Nat.le_of_dvd h c
   omega
  simp only[n,cF,d,p,oB];have D:v0a (k:Int) 30=((min k 30:Nat):Int):=by rw[c2s];omega
  refine⟨min k 30,by grind,by omega,.inr ⟨g,by omega,?_,?_⟩⟩
  all_goals grind[b6E,Nat.dvd_trans,a60,c5x]
theorem d1j(g:w≤30)(d:l.all a0A=true)(h:a9k l w):b1H (w:Int) l=some (l.map fun x=>z0h .i64 x (w:Int)):=by
 have f:∀x∈l,((2^w:Nat):Int) ∣ x:=by
  rcases h with⟨h,-⟩|⟨-,-,h,-⟩
  all_goals grind[a90]
 have:l.all (b2S (w:Int))=true:=by
  rw[lA];intro x k;obtain⟨c,a⟩:=f x k;have b:a59 x (z0g .i64 1 (w:Int))=0:=by simp_all[c4s]
  simp_all[b2S]
 simp only[b1H,this,cT]
def b8O(k:Nat)(l:List Int):Nat:=(l.map (a5U k)).sum
def rbN(l:List Int):Nat→Nat
 |0=>0
 |i+1=>if b8O (i+1) l<b8O (rbN l i) l then i+1 else rbN l i
theorem c4E(l:List Int):∀i,rbN l i≤i
 |0=>a36 _
 |i+1=>by
  have:=c4E l i
  simp only[rbN]
  split<;>omega
theorem b7m{k:Nat}(h:k≤25)(f:l.all a0A=true)(g:l.length<10000):a3y ((k:Int),l)=some ((b8O k l:Nat):Int):=b9N h f g
theorem d2f(h:a<b):decide ((a:Int)<(b:Int))=true:=decide_eq_true (by omega)
theorem c7c(h:¬ a<b):decide ((a:Int)<(b:Int))=false:=decide_eq_false (by omega)
theorem b8P(g:l.all a0A=true)(h:l.length<10000):b2z l=some ((rbN l 25:Nat):Int):=by
 have:=a1y (f:=a8T) (fun i:Nat=>(l,((rbN l i:Nat):Int),((b8O (rbN l i) l:Nat):Int),((i+1:Nat):Int),())) 25 (b:=(((rbN l 25:Nat):Int),()))
  (fun i n=>by
   have a:decide (((i+1:Nat):Int)≤25)=true:=decide_eq_true (by omega);have d:wrap .i64 (((i+1:Nat):Int)+1)=((i+1+1:Nat):Int):=a0C (by omega);have c:=b7m (k:=i+1) (by omega) g h
   by_cases hlt:b8O (i+1) l<b8O (rbN l i) l
   simp_all[a8T,rbN];simp only[a8T,a,cT,cF,c,oB,d,c7c hlt,rbN,hlt,if_false])
  (by
   rfl)
 have m:=b7m (k:=0) (by omega) g h;have j:((0+1:Nat):Int)=1:=rfl;have e:rbN l 0=0:=rfl;simp_all[b2z]
def b4o(l:List Int):Int:=if 5+a0E l*l.length<b8O (rbN l 25) l then 31 else((rbN l 25:Nat):Int)
theorem c7d(l:List Int):kB (b4o l)=true:=by
 have:=c4E l 25
 unfold b4o;split;rfl;simp only[kB,a33,bA,dT];omega
theorem c1K(g:l.all a0A=true)(h:l.length<10000):a8U l=some (b4o l):=by
 have a:=c4E l 25;have f:=b7m (k:=rbN l 25) a g h;unfold a8U b4o
 by_cases hlt:5+a0E l*l.length<b8O (rbN l 25) l
 simp only[b8P g h,b4X h,f,oB,d2f hlt,cT,hlt,if_true];simp only[b8P g h,b4X h,f,oB,c7c hlt,cF,hlt,if_false]
def a2J:List Nat→List Int→List Int
 | [],_=>[]
 |z::zs,l=>b4o (l.take z)::a2J zs (l.drop z)
theorem b6F:∀zs l,(a2J zs l).length=zs.length
 | [],_=>rfl
 |z::zs,l=>by simp[a2J,b6F zs]
theorem c1L:∀zs l,(a2J zs l).all kB=true
 | [],_=>rfl
 |z::zs,l=>by simp[a2J,c1L zs,c7d]
theorem b7Z{zn:List Nat}{n warm most least order:Int}{L:List Int}{a b:Prt}(m:zn.length≤256):∀(j i:Nat)(rest ks:List Int),i+j=zn.length→(zn.drop i).sum=rest.length→rest.all a0A=true→rest.length≤5000→ks.length=i→
  x0r a8h (n,warm,most,L,least,order,rest,((zn.length:Nat):Int),(i:Int),a1g zn,a,b,(order,ks,()),())=some (n,warm,most,L,least,order,a,b,(order,ks++a2J (zn.drop i) rest,()),())
 |0,i,rest,ks,h,_,_,_,_=>by
  obtain rfl:i=zn.length:=by omega
  simp_all[a0F,a8h,a2J]
 |j+1,i,rest,ks,h,hr,hwr,hr5,hki=>by
  have g:i<zn.length:=by omega
  rw[b2g g]at hr;have k:decide ((0:Int)≤(i:Int))=true:=by simp
  have c:decide ((i:Int)<(((a1g zn).length:Nat):Int))=true:=by simp_all[a1e]
  have d:decide ((0:Int)≤((zn[i]:Nat):Int))=true:=by simp
  have e:decide (((zn[i]:Nat):Int)≤((rest.length:Nat):Int))=true:=by grind
  have l:=c1K (b7i hwr zn[i]) (by grind);have f:lim (ks.length+1)=true:=a0Q (by omega);rw[a01 g,a0G (s':=(n,warm,most,L,least,order,rest.drop zn[i],((zn.length:Nat):Int),((i+1:Nat):Int),a1g zn,a,b,(order,ks++[b4o (rest.take zn[i])],()),())) (by
   simp only[a8h,dlt g,k,c,a4w g,d,e,cT,a03,tN,l,oB,f,a21,a0C (show i<1000000 by omega),a06])]
  rw[b7Z m j (i+1) _ _ (by omega) (by grind) (c8T hwr _) (by grind) (by simp_all)];simp_all[a2J]
def zsN(o n warm:Int):List Nat:=(a1t o n warm).map a35
def b4k(o n warm:Int)(l:List Int):Prt:=(o,a2J (zsN o n warm) l,())
def c1M(o n warm:Int)(l:List Int):Nat:=4+a5V (zsN o n warm) (a2J (zsN o n warm) l) l
def a1I(n warm:Int)(l:List Int):Nat→Prt×Nat
 |0=>((0,[],()),0)
 |i+1=>if(a1t (i:Int) n warm).length=0 then a1I n warm l i else
   if(a1I n warm l i).2=0∨c1M (i:Int) n warm l<(a1I n warm l i).2 then(b4k (i:Int) n warm l,c1M (i:Int) n warm l)else a1I n warm l i
def b9c(n warm:Int)(l:List Int):Prt:=(a1I n warm l 7).1
theorem c5Q(b:(a1t (o:Int) n warm).length≠0)(a:(l.length:Int)=n-warm)(c:l.all a0A=true)(k:l.length≤5000):
  ∃h,a1t (o:Int) n warm=a1g h∧zsN (o:Int) n warm=h∧h.length≤256∧h.sum=l.length∧a2U (b4k (o:Int) n warm l) n warm=true∧PartsOk (b4k (o:Int) n warm l) n warm l h:=by
 obtain⟨h,e,i,j⟩:=b5Z b;have d:zsN (o:Int) n warm=h:=by simp_all[zsN,a9H]
 have hp:a2U (b4k (o:Int) n warm l) n warm=true:=by
  simp only[a2U,b4k,bA,a34,beq_eq_false_iff_ne,ne_eq,beq_iff_eq];simp_all[a1e,b6F,c1L]
 obtain⟨f,g⟩:=PartsOk.of hp a c k
 have:f=h:=by
  have m:=g.sizes
  grind[b4k,a9H]
 grind
theorem b7n{n warm:Int}{l:List Int}(b:a4f n warm=true)(f:(l.length:Int)=n-warm)(a:l.all a0A=true)(g:l.length≤5000):∀i,1≤i→(a1I n warm l i).2≠0∧a2U (a1I n warm l i).1 n warm=true
 |0,h=>absurd h (by omega)
 |i+1,_=>by
  by_cases hs:(a1t (i:Int) n warm).length=0
  ·simp only[a1I,hs,if_true];cases i with
   |zero=>grind[c6V]
   |succ i=>exact b7n b f a g (i+1) (by omega)
  ·obtain⟨c,-,-,-,-,hp,-⟩:=c5Q hs f a g;simp only[a1I,hs,if_false];split;simp_all[c1M]
   ·rename_i k;cases i with
    |zero=>exact absurd (Or.inl rfl) k
    |succ i=>exact b7n b f a g (i+1) (by omega)
theorem c8Y(f:a4f n warm=true)(g:(l.length:Int)=n-warm)(k:l.all a0A=true)(h:l.length≤5000):a2U (b9c n warm l) n warm=true:=
 (b7n f g k h 7 (by omega)).2
theorem c3L(A:a4f n warm=true)(x:(l.length:Int)=n-warm)(t:l.all a0A=true)(s:l.length≤5000):
  b1e (n,warm,(6:Int),l)=some (b9c n warm l,0):=by
 have:=a1y (f:=a3T) (fun i:Nat=>(n,warm,(6:Int),l,(((a1I n warm l i).2:Nat):Int),(i:Int),((0:Int),([]:List Int),()),(a1I n warm l i).1,())) 7 (b:=(((0:Int),([]:List Int),()),b9c n warm l,()))
  (fun i z=>by
   have j:decide ((i:Int)≤v0a (u0z 6 0) 8)=true:=decide_eq_true (by have:v0a (u0z 6 0) 8=6:=rfl;omega);have r:wrap .i64 ((i:Int)+1)=((i+1:Nat):Int):=a0C (by omega)
   by_cases hs:(a1t (i:Int) n warm).length=0
   simp_all[a1I,a3T,a1Z];have hb:((((a1t (i:Int) n warm).length:Nat):Int)==0)=false:=by simp_all
   obtain⟨h,p,o,w,y,-,q⟩:=c5Q hs x t s;have d:=b7Z (n:=n) (warm:=warm) (most:=6) (least:=(((a1I n warm l i).2:Nat):Int)) (order:=(i:Int)) (L:=l) (a:=((0:Int),([]:List Int),())) (b:=(a1I n warm l i).1) w h.length 0 l [] (by omega) (by simp_all) t s rfl;simp at d;have e:=c3H q;simp only[b4k,o]at e;have k:(((h.length:Nat):Int)==0)=false:=by simp_all[a1e]
   have m:(((a1g h).length:Nat):Int)=((h.length:Nat):Int):=by rw[a1e]
   have v:b4k (i:Int) n warm l=((i:Int),a2J h l,()):=by simp only[b4k,o]
   have u:c1M (i:Int) n warm l=4+a5V h (a2J h l) l:=by simp only[c1M,o]
   by_cases hz:(a1I n warm l i).2=0
   have g:((((a1I n warm l i).2:Nat):Int)==0)=true:=by simp_all
   have c:a1I n warm l (i+1)=(((i:Int),a2J h l,()),4+a5V h (a2J h l) l):=by simp_all[a1I]
   simp only[a3T,j,cT,a1Z,oB,p,m,k,cF,d,e,r,c,g];have g:((((a1I n warm l i).2:Nat):Int)==0)=false:=by simp_all
   by_cases hlt:4+a5V h (a2J h l) l<(a1I n warm l i).2
   have c:a1I n warm l (i+1)=(((i:Int),a2J h l,()),4+a5V h (a2J h l) l):=by simp_all[a1I]
   simp only[a3T,j,cT,a1Z,oB,p,m,k,cF,d,e,r,c,g,d2f hlt];have c:a1I n warm l (i+1)=a1I n warm l i:=by simp only[a1I,hs,if_false,hz,false_or,v,u,hlt]
   simp only[a3T,j,cT,a1Z,oB,p,m,k,cF,d,e,r,c,g,c7c hlt])
  (by
   rfl)
 simp_all[a1I,b1e,b2h]
def a0V(k:Int)(s:Sub):Sub:=
 (k,(0:Int),(if k=2 then s.2.2.1 else 0),(if k=3∨k=4 then s.2.2.2.1 else 0),(if k=4 then s.2.2.2.2.1 else 0),(if k=3∨k=4 then s.2.2.2.2.2.1 else[]),
  ((if k=4 then s.2.2.2.2.2.2.1 else a00 3 (0:Int)),(if k=5 then s.2.2.2.2.2.2.2.1 else[]),([]:List Int),((0:Int),([]:List Int),()),([]:List Int),()))
def z0:Prt:=((0:Int),([]:List Int),())
def a1O(s:Sub)(w:Nat)(wm:List Int)(p:Prt)(r:List Int):Sub:=
 (s.1,(w:Int),s.2.2.1,s.2.2.2.1,s.2.2.2.2.1,s.2.2.2.2.2.1,s.2.2.2.2.2.2.1,s.2.2.2.2.2.2.2.1,wm,p,r,())
theorem c7Y(h:SmallS s)(k:Int):a6w (k,s)=some (a0V k s):=by
 have f:short s.2.2.2.2.2.1:=by have:=h.coefs;unfold short;omega
 have g:short s.2.2.2.2.2.2.2.1:=by have:=h.stages;unfold short;omega
 grind[a6w,a0V,b6Z,b9I]
theorem c4F(h:SmallS s)(k:Int):SmallS (a0V k s):=by
 have g:=h.coefs;have f:=h.taps;have a:=h.stages;refine⟨?_,?_,?_,by simp[a0V],by simp[a0V],by simp[a0V]⟩<;>simp only[a0V]<;>split<;>first|omega|simp
theorem c7e:a2M (a0V k s).1 (a0V k s) n↔a2M k s n:=by
 unfold a2M a0V
 grind
open Classical in
def a3c (l:List Int):Nat:=if h:∃w,a9k l w then h.choose else 0
theorem d1k{l:List Int}{w:Nat}(h:a9k l w):a3c l=w:=by
 unfold a3c;rw[dif_pos ⟨w,h⟩];exact(Classical.choose_spec (⟨w,h⟩:∃w,a9k l w)).unique h
def a1h(l:List Int):List Int:=l.map fun x=>z0h .i64 x (a3c l:Int)
theorem a9I(h:short l)(g:l.all a0A=true):a3S l=some ((a3c l:Nat):Int)∧a3c l≤30∧a9k l (a3c l):=by
 grind[c0L,d1k]
theorem a7k(a:l.length≤4096)(f:l.all a0A=true):b1H ((a3c l:Nat):Int) l=some (a1h l)∧(a1h l).all a0A=true∧(a1h l).length=l.length∧upO ((a3c l:Nat):Int) (a1h l)=some l:=by
 obtain⟨-,g,k⟩:=a9I (show short l by unfold short;omega) f;have h:=d1j g f k;exact⟨h,d1h g h⟩
def a5k(k:Int)(s:Sub)(d:List Int):Option (List Int×List Int):=
 if k=2 then(bif (a1R s.2.2.1.toNat d).all a0A then some (d.take s.2.2.1.toNat,a1R s.2.2.1.toNat d)else none)
 else if k=3 then(b7j d s.2.2.2.2.2.1 s.2.2.2.1).map fun r=>(d.take s.2.2.2.2.2.1.length,r)
 else if k=4 then(b6D d s.2.2.2.2.1 s.2.2.2.2.2.2.1).bind fun x=>(b7j x s.2.2.2.2.2.1 s.2.2.2.1).map fun r=>(x.take s.2.2.2.2.2.1.length,r)
 else(b4n d s.2.2.2.2.2.2.2.1).map fun r=>([],r)
theorem c4G(j:k=2∨k=3∨k=4∨k=5)(i:a2M k s (d.length:Int))(n:d.all a0A=true)(h:a5k k s d=some (wm,r)):
  wm.length≤d.length∧r.length=d.length-wm.length∧r.all a0A=true∧wm.all a0A=true:=by
 have f:=i;simp only[a2M]at f;rcases j with rfl|rfl|rfl|rfl
 ·have:0≤s.2.2.1∧s.2.2.1≤(d.length:Int):=by omega
  simp[a5k]at h;cases hq:(a1R s.2.2.1.toNat d).all a0A with
  |false=>simp_all
  |true=>
   simp[hq]at h;obtain⟨rfl,rfl⟩:=h;simp_all[a5Y,b7i]
 have:(s.2.2.2.2.2.1.length:Int)≤(d.length:Int):=by omega
 simp only[a5k,show ¬ (3:Int)=2 by simp,if_false,if_true,a27,pJ]at h;obtain⟨c,g,rfl,rfl⟩:=h;obtain⟨-,a,b⟩:=b7k g
 grind
 have:(s.2.2.2.2.2.1.length:Int)≤(d.length:Int):=by omega
 simp only[a5k,show ¬ (4:Int)=2 by simp,show ¬ (4:Int)=3 by simp,if_false,if_true,a51,a27,pJ]at h;obtain⟨x,e,c,g,rfl,rfl⟩:=h;obtain⟨-,l,m⟩:=b8N e;obtain⟨-,a,b⟩:=b7k g
 grind
 simp only[a5k,show ¬ (5:Int)=2 by simp,show ¬ (5:Int)=3 by simp,show ¬ (5:Int)=4 by simp,if_false,a27,pJ]at h;obtain⟨c,g,rfl,rfl⟩:=h;obtain⟨-,a,b⟩:=c1J g;simp_all
theorem c8Z(v:k=2∨k=3∨k=4∨k=5)(h:SmallS s)(q:a2M k s (d.length:Int))(D:d.length≤4096)(y:d.all a0A=true)(w:Nat):
  b2w (a1O (a0V k s) w [] z0 [],d)=some (match a5k k s d with|none=>(6,a1O (a0V k s) w [] z0 [])|some (wm,r)=>(0,a1O (a0V k s) w wm z0 r)):=by
 have l:=h.taps;have g:=h.stages;have i:short d:=by unfold short;omega
 obtain⟨k',w',o,sh,lag,c,t,st,z,p,E,u⟩:=s;simp only[a2M]at q l g;unfold b2w;rcases v with rfl|rfl|rfl|rfl;obtain⟨n,C,e⟩:0≤o∧o≤4∧o≤(d.length:Int):=by omega
 obtain⟨O,rfl⟩:=a02 n;have g:short (d.take O):=by unfold short;grind
 have j:decide ((O:Int)≤((d.length:Nat):Int))=true:=by simp_all
 simp only[a1O,a0V,a5k,if_true,show((2:Int)==2)=true from rfl,cT,b7X (show O≤4 by omega) (show O≤d.length by omega) i y,oB,tN]
 grind[b3h,a0X,a8K]
 ·obtain⟨f,e⟩:a4X c sh=true∧(c.length:Int)≤(d.length:Int):=by simp_all
  have g:short (d.take c.length):=by unfold short;grind
  have m:decide ((0:Int)≤((c.length:Nat):Int))=true:=by simp
  have j:decide (((c.length:Nat):Int)≤((d.length:Nat):Int))=true:=by simp_all
  simp only[a1O,a0V,a5k,show((3:Int)==2)=false from rfl,show((3:Int)==3)=true from rfl,show ¬ (3:Int)=2 by simp,show ¬ (3:Int)=4 by simp,show ¬ (3:Int)=5 by simp,true_or,if_true,if_false,cT,cF,b6C f (show c.length≤d.length by omega) (show d.length<100000 by omega),oB];cases b7j d c sh with
  |none=>rfl
  |some r=>simp_all[a2A,b3h,a0X,a8K]
 ·obtain⟨f,e,a⟩:a4X c sh=true∧(c.length:Int)≤(d.length:Int)∧a7d lag t=true:=by simp_all
  simp[a1O,a0V,a5k,c4z a l (show d.length<100000 by omega)];cases hx:b6D d lag t with
  |none=>rfl
  |some x=>
   obtain⟨-,A,B⟩:=b8N hx;have g:short (x.take c.length):=by unfold short;grind
   have m:decide ((0:Int)≤((c.length:Nat):Int))=true:=by simp
   have j:decide (((c.length:Nat):Int)≤((x.length:Nat):Int))=true:=by simp_all
   simp[a2A,b6C f (show c.length≤x.length by omega) (show x.length<100000 by omega)]
   grind[b3h,a0X,a8K]
 ·obtain⟨e,b⟩:0<st.length∧a4Y st=true:=by simp_all
  have g:short (d.take 0):=by simp[short]
  simp only[a1O,a0V,a5k,show((5:Int)==2)=false from rfl,show((5:Int)==3)=false from rfl,show((5:Int)==4)=false from rfl,show((5:Int)==5)=true from rfl,show ¬ (5:Int)=2 by simp,show ¬ (5:Int)=3 by simp,show ¬ (5:Int)=4 by simp,or_self,if_true,if_false,cT,cF,c3K b (show d.length<100000 by omega),oB];cases b4n d st with
  |none=>rfl
  |some r=>
   rfl
open Classical in

def a1v (k:Int) (l:List Int) (s:Sub):Sub×Int:=
 if ¬ (1≤l.length∧l.length≤4096∧a2M k s (l.length:Int))then(a1T 0,1)
 else if l.all a0A=false then(a1T 0,6)
 else if k=0 then(bif l.all (fun x=>x==l.headD 0)then(a1O (a0V 0 s) 0 [l.headD 0] z0 [],0)else(a1T 0,7))
 else if k=1 then(a1O (a0V 1 s) (a3c l) (a1h l) z0 [],0)
 else match a5k k s (a1h l)with
  |none=>(a1T 0,6)
  |some (wm,r)=>(a1O (a0V k s) (a3c l) wm (b9c (l.length:Int) (wm.length:Int) r) r,0)
theorem c7f(h:1≤l.length):l0z l 0=some (l.headD 0):=by
 cases l with
 |nil=>grind
 |cons a l=>rfl
theorem c4H(k:1≤l.length)(c:short l)(a b:Sub):
  x0r a5q (l,l,(l.length:Int),(0:Int),a,b,())=some (bif l.all (fun x=>x==l.headD 0)then .inl (l,a,b,())else .inr ((7:Int),a1T 0,())):=by
 have:=a1j (f:=a5q) l (fun i=>(l,l,(l.length:Int),(i:Int),a,b,())) (fun x=>x==l.headD 0) (bt:=Sum.inl (l,a,b,())) (bf:=Sum.inr ((7:Int),a1T 0,()))
  (fun i h hp=>by
   have g:(l[i] != l.headD 0)=false:=by simp_all
   simp only[a5q,dlt h,cT,a0B h,oB,c7f k,g,cF,a0C (a29 h c)])
  (fun i h hp=>by
   have g:(l[i] != l.headD 0)=true:=by simp_all
   simp only[a5q,dlt h,cT,a0B h,oB,c7f k,g];rfl)
  (by simp[a5q])
 omega
theorem b9O(h:a2M k s n)(g:k≠0)(f:k≠1):k=2∨k=3∨k=4∨k=5:=by
 rcases h with h|h|⟨h,-⟩|⟨h,-⟩|⟨h,-⟩|⟨h,-⟩;omega;omega
 all_goals omega
theorem d1l(h:SmallS s)(k:Int)(D:l.length≤100000):b3V (k,l,s)=some (a1v k l s):=by
 have j:short l:=by unfold short;omega
 unfold b3V a1v
 by_cases h1:1≤l.length
 rotate_left;have e:decide (((l.length:Nat):Int)<1)=true:=decide_eq_true (by omega);rw[if_pos (fun g=>h1 g.1)];simp only[e,cT,oB];rfl;have a:decide (((l.length:Nat):Int)<1)=false:=decide_eq_false (by omega)
 by_cases h2:l.length≤4096
 rotate_left;have e:decide (((l.length:Nat):Int) > 4096)=true:=decide_eq_true (by omega);rw[if_pos (fun g=>h2 g.2.1)];simp only[a,e,cT,cF,oB];rfl;have o:decide (((l.length:Nat):Int) > 4096)=false:=decide_eq_false (by omega)
 by_cases h3:a2M k s (l.length:Int)
 rotate_left;have b:b4Q k s (l.length:Int)=false:=by simp[b4Q,h3]
 rw[if_pos (fun g=>h3 g.2.2)];simp only[a,o,b6w h,b,cF,a32,cT,oB];rfl;have b:b4Q k s (l.length:Int)=true:=by simp[b4Q,h3]
 rw[if_neg (fun g=>g ⟨h1,h2,h3⟩)];simp only[a,o,b6w h,b,cF,bT,oB,a4H j];cases hw:l.all a0A with
 |false=>rfl
 |true=>
  simp only[bT,cF,c7Y h,oB];rw[if_neg (by simp)]
  by_cases h0:k=0
  ·subst h0;have w:=c4H h1 j (a1T 0) (a0V 0 s);have v:a1T 0=((0:Int),(0:Int),(0:Int),(0:Int),(0:Int),([]:(List Int)),a00 3 (0:Int),([]:(List (Int×Int×Unit))),([]:(List Int)),((0:Int),([]:(List Int)),()),([]:(List Int)),()):=rfl;rw[←v,if_pos rfl];simp only[show((0:Int)==0)=true from rfl,cT,w,oB];cases l.all (fun x=>x==l.headD 0)with
   |false=>rfl
   |true=>simp only[cT,c7f h1,oB];rfl
  ·obtain⟨z,A,-⟩:=a9I j hw;obtain⟨t,n,C,-⟩:=a7k h2 hw;have c:(k==0)=false:=by grind
   rw[if_neg h0];simp only[c,cF,z,oB,b6B A (show l.length<100000 by omega),t,a2A,show((0:Int) != 0)=false from rfl]
   by_cases hk1:k=1
   subst hk1;rfl
   ·have i:(k==1)=false:=by simp_all
    have p:=b9O h3 h0 hk1;rw[if_neg hk1];have m:=c8Z p h (d:=a1h l) (by simp_all) (by omega) n (a3c l);have u:((a0V k s).1,((a3c l:Nat):Int),(a0V k s).2.2)=a1O (a0V k s) (a3c l) [] z0 []:=rfl;simp only[i,cF,u,m,oB];cases hr:a5k k s (a1h l)with
    |none=>rfl
    |some q=>
     obtain⟨B,r⟩:=q;obtain⟨E,r2,y,-⟩:=c4G p (by simp_all) n hr;have f:a4f (l.length:Int) (B.length:Int)=true:=by simp_all[a4f]
     have hb:=c3L f (l:=r) (by omega) y (by omega);simp only[show((0:Int) != 0)=false from rfl,cF,a1O,hb,oB]
theorem c7Z(h:a2U p n warm=true):p.2.1.length≤256:=by
 simp only[a2U,bA,a34,beq_eq_false_iff_ne,ne_eq,beq_iff_eq]at h;obtain⟨k,g,-,f⟩:=b5Z h.1;rw[←h.2.1,g,a1e];exact f
theorem b7o(h:SmallS s)(g:wm.length≤5000)(f:r.length≤5000)(k:p.2.1.length≤300):SmallS (a1O s w wm p r):=
 ⟨h.coefs,h.taps,h.stages,g,f,k⟩
theorem c7g(g:(a1v k l s).2=0):
  1≤l.length∧l.length≤4096∧a2M k s (l.length:Int)∧l.all a0A=true∧
   ((k=0∧l.all (fun x=>x==l.headD 0)=true∧(a1v k l s).1=a1O (a0V 0 s) 0 [l.headD 0] z0 [])∨
    (k=1∧(a1v k l s).1=a1O (a0V 1 s) (a3c l) (a1h l) z0 [])∨
     ((k=2∨k=3∨k=4∨k=5)∧∃c r,a5k k s (a1h l)=some (c,r)∧(a1v k l s).1=a1O (a0V k s) (a3c l) c (b9c (l.length:Int) (c.length:Int) r) r)):=by
 unfold a1v at g⊢
 split at g
 cases g;rename_i f;have f:1≤l.length∧l.length≤4096∧a2M k s (l.length:Int):=Classical.byContradiction f;refine⟨f.1,f.2.1,f.2.2,?_⟩;rw[if_neg (fun h=>h f)]
 split at g
 cases g;rename_i e;have d:l.all a0A=true:=by simpa using e
 refine⟨d,?_⟩;rw[if_neg e]
 split at g
 ·rename_i a;rw[if_pos a];cases hq:l.all (fun x=>x==l.headD 0)with
  |false=>rw[hq]at g;cases g
  |true=>exact .inl ⟨a,rfl,rfl⟩
 rename_i a;rw[if_neg a]
 split at g
 rename_i b;rw[if_pos b];exact .inr (.inl ⟨b,rfl⟩);rename_i b;rw[if_neg b];refine .inr (.inr ⟨b9O f.2.2 a b,?_⟩);cases hr:a5k k s (a1h l)with
 |none=>rw[hr]at g;cases g
 |some q=>
  obtain⟨c,r⟩:=q;exact⟨c,r,rfl,rfl⟩
theorem b5b:b3i (a1O (a0V k s) w wm p r):=by
 unfold b3i a1O a0V;refine⟨fun h=>if_neg h,fun h=>if_neg (not_or.2 h),fun h=>if_neg h,fun h=>if_neg h,fun h=>if_neg (not_or.2 h),fun h=>if_neg h⟩
theorem c0M(h:a2M k s n):a2M (a1O (a0V k s) w wm p r).1 (a1O (a0V k s) w wm p r) n:=c7e.2 h
theorem c9a(h:l.all (fun x=>x==l.headD 0)=true):a00 l.length (l.headD 0)=l:=by
 refine(List.eq_replicate_iff.2 ⟨rfl,fun x g=>?_⟩).symm
 have:=lA.1 h x g
 simpa using this
theorem c2C(L:SmallS s)(I:(a1v k l s).2=0):
  SmallS (a1v k l s).1∧(a1v k l s).1.1=k∧a1l (a1v k l s).1 (l.length:Int)∧a1A (a1v k l s).1 (l.length:Int)=some l:=by
 obtain⟨T,K,b,z,M⟩:=c7g I;have P:short l:=by unfold short;omega
 obtain⟨-,Y,-⟩:=a9I P z;obtain⟨R,w,B,C⟩:=a7k K z;have n:∀m:Sub,a1l m (l.length:Int)→c0G m (l.length:Int)=some l→a1A m (l.length:Int)=some l:=fun m c d=>by unfold a1A;rw[if_pos c,d]
 have i:=c4F L k;rcases M with⟨rfl,t,e⟩|⟨rfl,e⟩|⟨y,q,r,f,e⟩
 ·rw[e];have g:a1l (a1O (a0V 0 s) 0 [l.headD 0] z0 []) (l.length:Int):=by
   have N:a0A (l.headD 0)=true:=by
    cases l with
    |nil=>rfl
    |cons a l=>exact lA.1 z _ a65
   exact⟨by omega,by omega,c0M b,b5b,Int.le_refl _,(by decide:(0:Int)≤30),fun _=>rfl,rfl,by simp only[a1O,a07,N,List.all_nil];rfl,rfl,fun _=>⟨rfl,rfl,rfl⟩,fun h=>absurd rfl h.1⟩
  refine⟨b7o i (by simp) (by simp) (by simp[z0]),rfl,g,n _ g ?_⟩;show some (a00 (l.length:Int).toNat (l.headD 0))=some l;rw[tN,c9a t]
 rw[e];have g:a1l (a1O (a0V 1 s) (a3c l) (a1h l) z0 []) (l.length:Int):=
  ⟨by omega,by omega,c0M b,b5b,a66 _,(by show((a3c l:Nat):Int)≤30;omega),fun h=>absurd h (by decide:¬ (1:Int)=0),by show(((a1h l).length:Nat):Int)=(l.length:Int);rw[B],w,rfl,fun _=>⟨rfl,rfl,rfl⟩,fun h=>absurd rfl h.2⟩
 refine⟨b7o i (by omega) (by simp) (by simp[z0]),rfl,g,n _ g ?_⟩;show upO ((a3c l:Nat):Int) (a1h l)=some l;exact C
 ·rw[e];obtain⟨X,r2,E,Q⟩:=c4G y (by rw[B];exact b) w f;have u:a4f (l.length:Int) (q.length:Int)=true:=by simp only[a4f,bA,dT];omega
  have hp:=c8Y u (l:=r) (by omega) E (by omega);generalize b9c (l.length:Int) (q.length:Int) r=p at hp;have O:=c7Z hp

  have v:a0X (a1O (a0V k s) (a3c l) q p r) (l.length:Int)=(q.length:Int)∧backP (a1O (a0V k s) (a3c l) q p r)=some (a1h l):=by
   simp only[a2M]at b;rcases y with rfl|rfl|rfl|rfl
   ·obtain⟨U,V,D⟩:0≤s.2.2.1∧s.2.2.1≤4∧s.2.2.1≤(l.length:Int):=by simp at b;omega
    simp only[a5k,if_true]at f;cases hq:(a1R s.2.2.1.toNat (a1h l)).all a0A with
    |false=>simp[hq]at f
    |true=>
     simp only[hq,cT,sj,pJ]at f;obtain⟨rfl,rfl⟩:=f;refine⟨?_,?_⟩;show s.2.2.1=_;rw[a08];omega;show b8H ((a1h l).take s.2.2.1.toNat) (a1R s.2.2.1.toNat (a1h l)) s.2.2.1=some (a1h l);have hb:=c4q w (o:=s.2.2.1.toNat) (by omega) ((a1h l).length-s.2.2.1.toNat) 0 (by omega);rw[a17,a88]at hb;unfold b8H;rw[b7i w,hq];exact hb
   have D:(s.2.2.2.2.2.1.length:Int)≤(l.length:Int):=by simp at b;omega
   simp only[a5k,show ¬ (3:Int)=2 by decide,if_false,if_true,a27,pJ]at f;obtain⟨A,c,rfl,rfl⟩:=f;obtain⟨d,-,-⟩:=b7k c;refine⟨?_,?_⟩;show((s.2.2.2.2.2.1.length:Nat):Int)=_;rw[a08];omega;exact d;have D:(s.2.2.2.2.2.1.length:Int)≤(l.length:Int):=by simp at b;omega
   simp only[a5k,show ¬ (4:Int)=2 by decide,show ¬ (4:Int)=3 by decide,if_false,if_true,a51,a27,pJ]at f;obtain⟨x,H,A,c,rfl,rfl⟩:=f;obtain⟨G,-,S⟩:=b8N H;obtain⟨d,-,-⟩:=b7k c;refine⟨?_,?_⟩;show((s.2.2.2.2.2.1.length:Nat):Int)=_;rw[a08];omega;show(b1z (x.take s.2.2.2.2.2.1.length) A s.2.2.2.2.2.1 s.2.2.2.1).bind (fun l=>b2O l s.2.2.2.2.1 s.2.2.2.2.2.2.1)=_;rw[d];exact G;simp only[a5k,show ¬ (5:Int)=2 by decide,show ¬ (5:Int)=3 by decide,show ¬ (5:Int)=4 by decide,if_false,a27,pJ]at f;obtain⟨A,c,rfl,rfl⟩:=f;obtain⟨d,-,-⟩:=c1J c;exact⟨rfl,d⟩
  have j:¬ (k=0∨k=1):=by rcases y with rfl|rfl|rfl|rfl<;>decide
  have g:a1l (a1O (a0V k s) (a3c l) q p r) (l.length:Int):=by
   unfold a1l;rw[v.1];exact⟨by omega,by omega,c0M b,b5b,a66 _,(by show((a3c l:Nat):Int)≤30;omega),fun h=>absurd (.inl h) j,rfl,Q,E,fun h=>absurd h j,fun _=>⟨(by show((r.length:Nat):Int)=_;omega),hp⟩⟩
  refine⟨b7o i (by omega) (by omega) (by omega),rfl,g,n _ g ?_⟩;have F:¬ (a1O (a0V k s) (a3c l) q p r).1=0:=fun h=>j (.inl h);unfold c0G;rw[if_neg F,v.2];exact C
theorem c7h:SmallS (a1T 0):=c5q 0
def cS(k o sh:Int)(c:List Int)(st:List Stg):Sub:=
 (k,(0:Int),o,sh,(0:Int),c,a00 3 (0:Int),st,([]:List Int),((0:Int),([]:List Int),()),([]:List Int),())
theorem b2i{k o sh:Int}{c:List Int}{st:List Stg}(h:c.length≤40)(g:st.length≤6):SmallS (cS k o sh c st):=
 ⟨h,rfl,g,by simp[cS],by simp[cS],by simp[cS]⟩
def b4l(d:List Int)(o w:Int):List Int×(Int×Int):=(a4b (d,o,w)).getD ([],0,1)
def b2j(d:List Int)(o w:Int):List Sub:=bif (b4l d o w).2.2==0 then[cS 3 0 (b4l d o w).2.1 (b4l d o w).1 []]else[]
def c7i(d:List Int):Int:=(a6t d).getD 0
def b7p(d:List Int):Sub×Bool:=(a3F d).getD (a1T 0,false)
def c0N(d:List Int):List Sub:=bif (b7p d).2 then[(b7p d).1]else[]
def b2k(i:Nat):List Sub:=(List.range i).map fun(j:Nat)=>cS 2 (j:Int) 0 [] []
def a2n(d:List Int):List Sub:=[cS 0 0 0 [] [],cS 1 0 0 [] [],cS 2 (c7i d) 0 [] []]
def a3Y(d:List Int)(k:Int):List Sub:=if 1≤k then b2j d 4 12++b2j d 8 12 else[]
def b2V(d:List Int)(k:Int):List Sub:=if 2≤k then[cS 5 0 0 [] [((16:Int),(4:Int),())],cS 5 0 0 [] [((32:Int),(3:Int),()),((16:Int),(5:Int),())]]++c0N d else[]
def c3S(d:List Int)(k:Int):List Sub:=if 3≤k then b2k 5++(b2j d 1 12++(b2j d 2 12++(b2j d 12 14++b2j d 16 14)))else[]
def a4t(d:List Int)(k:Int):List Sub:=a2n d++(a3Y d k++(b2V d k++c3S d k))
def c1N(d:List Int):Prop:=a3F d=some (b7p d)∧((b7p d).2=true→SmallS (b7p d).1)
theorem c4I(a:d.all a0A=true)(k:d.length≤4096)(h:1≤o)(g:o≤32)(f:2≤w∧w≤16):
  a4b (d,(o:Int),(w:Int))=some (b4l d o w)∧((b4l d o w).2.2=0→(b4l d o w).1.length=o):=by
 obtain⟨c,sh,e,b,i⟩:=c7V a k h g f;unfold b4l;simp_all
theorem b2l(d:List Int)(o w:Int):(b2j d o w).length≤1:=by
 grind[b2j]
theorem b2m(c:d.all a0A=true)(b:d.length≤4096)(f:1≤o)(k:o≤32)(a:2≤w∧w≤16){L:List Sub}(e:L.length<1000):
  a0R ((o:Int),(w:Int),d,L)=some (d,L++b2j d o w):=by
 obtain⟨g,-⟩:=c4I c b f k a;have h:lim (L.length+1)=true:=a0Q (by omega);unfold a0R b2j;simp only[g,oB];cases (b4l d o w).2.2==0 with
 |true=>simp only[cT,h];rfl
 |false=>simp
theorem c7j{L:List Sub}(k:L.length<1000):x0r a2q ((0:Int),L,d,())=some (L++b2k 5,d,()):=by
 have:=a1y (f:=a2q) (fun i:Nat=>((i:Int),L++b2k i,d,())) 5 (b:=(L++b2k 5,d,()))
  (fun i a=>by
   have g:decide ((i:Int)<5)=true:=decide_eq_true (by omega);have h:lim ((L++b2k i).length+1)=true:=a0Q (by simp[b2k];omega);have e:(L++b2k i)++[cS 2 (i:Int) 0 [] []]=L++b2k (i+1):=by simp[b2k,List.range_succ]
   rw[←e];simp only[a2q,g,cT,h,a0C (show i<1000000 by omega)];rfl)
  (by
   rfl)
 simp at this;rw[show b2k 0=[]from rfl,a49]at this;omega
theorem d1m(a:d.all a0A=true)(c:d.length≤4096)(l:c1N d)(k:Int):a6T (d,k)=some (a4t d k):=by
 obtain⟨o,E,F⟩:=c1H (show d.length<100000 by omega) a;have hb:c7i d=(o:Int):=by simp_all[c7i]
 have D:(c0N d).length≤1:=by grind[c0N]
 have P:=b2l d 4 12;have Q:=b2l d 8 12;have N:=b2l d 1 12;have O:=b2l d 2 12;have G:=b2l d 12 14;have y:=fun L (hL:L.length<1000)=>b2m (L:=L) a c (o:=4) (w:=12) (by omega) (by omega) (by omega) hL;have z:=fun L (hL:L.length<1000)=>b2m (L:=L) a c (o:=8) (w:=12) (by omega) (by omega) (by omega) hL;have v:=fun L (hL:L.length<1000)=>b2m (L:=L) a c (o:=1) (w:=12) (by omega) (by omega) (by omega) hL;have x:=fun L (hL:L.length<1000)=>b2m (L:=L) a c (o:=2) (w:=12) (by omega) (by omega) (by omega) hL;have i:=fun L (hL:L.length<1000)=>b2m (L:=L) a c (o:=12) (w:=14) (by omega) (by omega) (by omega) hL;have j:=fun L (hL:L.length<1000)=>b2m (L:=L) a c (o:=16) (w:=14) (by omega) (by omega) (by omega) hL;simp at y z v x i j;have R:(a2n d).length=3:=rfl;have S:(a3Y d k).length≤2:=by unfold a3Y;split<;>simp<;>omega
 have T:(b2V d k).length≤3:=by unfold b2V;split<;>simp<;>omega
 have U:(b2k 5).length=5:=rfl;have M:(bif decide (k≥1)then((a0R ((4:Int),(12:Int),d,a2n d)).bind fun n=>(a0R ((8:Int),(12:Int),n.1,n.2)).bind fun p=>some (k,p.1,p.2,()))else some (k,d,a2n d,()))=some (k,d,a2n d++a3Y d k,()):=by
  unfold a3Y
  by_cases h:1≤k
  have e:decide (k≥1)=true:=decide_eq_true h;simp only[e,cT,y (a2n d) (by omega),oB,z (a2n d++b2j d 4 12) (by grind),if_pos h,aA]
  grind
 have C:a6T (d,k)=(a6t d).bind fun A=>
   (show Option (Int×((List Int)×((List Sub)×Unit)))from bif decide (k≥1)then((a0R ((4:Int),(12:Int),d,[cS 0 0 0 [] [],cS 1 0 0 [] [],cS 2 A 0 [] []])).bind fun n=>(a0R ((8:Int),(12:Int),n.1,n.2)).bind fun p=>some (k,p.1,p.2,()))else some (k,d,[cS 0 0 0 [] [],cS 1 0 0 [] [],cS 2 A 0 [] []],())).bind fun g=>
   (show Option (Int×((List Sub)×((List Int)×Unit)))from bif decide (g.1≥2)then(bif lim (g.2.2.1.length+1)then(bif lim ((g.2.2.1++[cS 5 0 0 [] [((16:Int),(4:Int),())]]).length+1)then((a3F g.2.1).bind fun q=>
    bif q.2 then(bif lim ((g.2.2.1++[cS 5 0 0 [] [((16:Int),(4:Int),())]]++[cS 5 0 0 [] [((32:Int),(3:Int),()),((16:Int),(5:Int),())]]).length+1)then some (g.1,g.2.2.1++[cS 5 0 0 [] [((16:Int),(4:Int),())]]++[cS 5 0 0 [] [((32:Int),(3:Int),()),((16:Int),(5:Int),())]]++[q.1],g.2.1,())else none)
    else some (g.1,g.2.2.1++[cS 5 0 0 [] [((16:Int),(4:Int),())]]++[cS 5 0 0 [] [((32:Int),(3:Int),()),((16:Int),(5:Int),())]],g.2.1,()))else none)else none)else some (g.1,g.2.2.1,g.2.1,())).bind fun t=>
   (show Option ((List Sub)×Unit)from bif decide (t.1≥3)then((x0r a2q ((0:Int),t.2.1,t.2.2.1,())).bind fun m=>(a0R ((1:Int),(12:Int),m.2.1,m.1)).bind fun r=>(a0R ((2:Int),(12:Int),r.1,r.2)).bind fun s=>
    (a0R ((12:Int),(14:Int),s.1,s.2)).bind fun f=>(a0R ((16:Int),(14:Int),f.1,f.2)).bind fun b=>some (b.2,()))else some (t.2.1,())).bind fun u=>some u.1:=rfl
 have B:[cS 0 0 0 [] [],cS 1 0 0 [] [],cS 2 (o:Int) 0 [] []]=a2n d:=by unfold a2n;grind
 have V:(bif decide (k≥2)then(bif lim ((a2n d++a3Y d k).length+1)then(bif lim ((a2n d++a3Y d k++[cS 5 0 0 [] [((16:Int),(4:Int),())]]).length+1)then((a3F d).bind fun q=>
    bif q.2 then(bif lim ((a2n d++a3Y d k++[cS 5 0 0 [] [((16:Int),(4:Int),())]]++[cS 5 0 0 [] [((32:Int),(3:Int),()),((16:Int),(5:Int),())]]).length+1)then some (k,a2n d++a3Y d k++[cS 5 0 0 [] [((16:Int),(4:Int),())]]++[cS 5 0 0 [] [((32:Int),(3:Int),()),((16:Int),(5:Int),())]]++[q.1],d,())else none)
    else some (k,a2n d++a3Y d k++[cS 5 0 0 [] [((16:Int),(4:Int),())]]++[cS 5 0 0 [] [((32:Int),(3:Int),()),((16:Int),(5:Int),())]],d,()))else none)else none)else some (k,a2n d++a3Y d k,d,()):Option (Int×((List Sub)×((List Int)×Unit))))=some (k,a2n d++(a3Y d k++b2V d k),d,()):=by
  unfold b2V
  by_cases h:2≤k
  have e:decide (k≥2)=true:=decide_eq_true h;have H:lim ((a2n d++a3Y d k).length+1)=true:=a0Q (by grind);have I:lim ((a2n d++a3Y d k++[cS 5 0 0 [] [((16:Int),(4:Int),())]]).length+1)=true:=a0Q (by simp;omega);have K:lim ((a2n d++a3Y d k++[cS 5 0 0 [] [((16:Int),(4:Int),())]]++[cS 5 0 0 [] [((32:Int),(3:Int),()),((16:Int),(5:Int),())]]).length+1)=true:=a0Q (by simp;omega);simp only[e,H,I,K,cT,l.1,oB,if_pos h,c0N];cases (b7p d).2<;>simp
  grind
 have X:(bif decide (k≥3)then((x0r a2q ((0:Int),a2n d++(a3Y d k++b2V d k),d,())).bind fun m=>(a0R ((1:Int),(12:Int),m.2.1,m.1)).bind fun r=>(a0R ((2:Int),(12:Int),r.1,r.2)).bind fun s=>
    (a0R ((12:Int),(14:Int),s.1,s.2)).bind fun f=>(a0R ((16:Int),(14:Int),f.1,f.2)).bind fun b=>some (b.2,()))else some (a2n d++(a3Y d k++b2V d k),()):Option ((List Sub)×Unit))=some (a4t d k,()):=by
  unfold a4t c3S
  by_cases h:3≤k
  have e:decide (k≥3)=true:=decide_eq_true h;simp only[e,cT,c7j (L:=a2n d++(a3Y d k++b2V d k)) (by simp;omega),oB,if_pos h];rw[v _ (by simp;omega)];simp only[oB];rw[x _ (by simp;omega)];simp only[oB];rw[i _ (by simp;omega)];simp only[oB];rw[j _ (by simp;omega)]
  simp
  grind
 rw[C,E,oB,B];simp only[];rw[M];simp only[oB];simp_all
theorem c1O(l:d.all a0A=true)(i:d.length≤4096)(f:c1N d)(k:Int):∀c∈a4t d k,SmallS c:=by
 have g:∀(o w:Nat),1≤o→o≤32→2≤w∧w≤16→∀c∈b2j d o w,SmallS c:=fun o w a b e c h=>by
  obtain⟨-,m⟩:=c4I l i a b e;unfold b2j at h;cases he:(b4l d o w).2.2==0 with
  |false=>simp_all
  |true=>
   rw[he]at h;simp at h
   grind[b2i]
 intro c h;simp[a4t]at h;rcases h with h|h|h|h;simp[a2n]at h;rcases h with rfl|rfl|rfl<;>exact b2i (by simp) (by simp);unfold a3Y at h
 split at h
 simp at h;rcases h with h|h;exact g 4 12 (by omega) (by omega) (by omega) c h;exact g 8 12 (by omega) (by omega) (by omega) c h;simp_all
 ·unfold b2V at h
  split at h
  ·simp only[mA,mC,List.not_mem_nil,or_false]at h;rcases h with(rfl|rfl)|h;simp_all[b2i];simp_all[b2i]
   ·unfold c0N at h;cases hg:(b7p d).2 with
    |false=>simp_all
    |true=>
     rw[hg]at h;simp at h;subst h;exact f.2 hg
  simp_all
 unfold c3S at h
 split at h
 simp only[mA,b2k,List.mem_map]at h;rcases h with⟨j,-,rfl⟩|h|h|h|h;simp_all[b2i];exact g 1 12 (by omega) (by omega) (by omega) c h;exact g 2 12 (by omega) (by omega) (by omega) c h;exact g 12 14 (by omega) (by omega) (by omega) c h;exact g 16 14 (by omega) (by omega) (by omega) c h;simp_all
theorem c9b(g:d.length≤256):a3F d=some (a1T 0,false):=by
 have h:b2u (d,(16:Int),(256:Int))=some (0,7):=by
  unfold b2u
  grind
 unfold a3F;simp only[h,oB,show((7:Int) != 0)=true from rfl,cT];rfl
theorem d2g(g:d.length≤256):c1N d:=by
 have h:=c9b g
 have:b7p d=(a1T 0,false):=by unfold b7p;simp_all
 exact⟨by simp_all,fun f=>by simp_all⟩
def b6G(l:List Int)(a:Int×(Bool×Sub))(c:Sub):Int×(Bool×Sub):=
 bif (a1v c.1 l c).2 != 0 then a else bif !a.2.1 || decide (a5j (a1v c.1 l c).1 (l.length:Int)<a.1)then(a5j (a1v c.1 l c).1 (l.length:Int),true,(a1v c.1 l c).1)else a
def b7q(l:List Int)(cs:List Sub):Int×(Bool×Sub):=cs.foldl (b6G l) (0,false,a1T 0)
theorem b7r{α A β:Type}(g:A→α→A)(h:A→β):∀(l:List α)(a:A),a8a h (a2x (fun a x=>.inl (g a x)) l a)=h (l.foldl g a)
 | [],_=>rfl
 |x::l,a=>b7r g h l (g a x)
theorem c5y(h:SmallS s):SmallS (a1v k l s).1:=by
 by_cases h0:(a1v k l s).2=0
 exact(c2C h h0).1
 have:(a1v k l s).1=a1T 0:=by
  unfold a1v at h0⊢
  grind
 simp_all[c7h]
theorem c8a{cs:List Sub}(j:∀c∈cs,SmallS c)(p:l.length≤4096)(o:cs.length<1000):
  x0r a7A (l,(0:Int),false,cs,((cs.length:Nat):Int),(0:Int),a1T 0,a1T 0,())=some (a1T 0,(b7q l cs).2.2,()):=by
 have:=a1m (f:=a7A) cs (fun i a=>(l,a.1,a.2.1,cs,((cs.length:Nat):Int),(i:Int),a1T 0,a.2.2,())) (fun a x=>.inl (b6G l a x)) (fun _ _=>True) (fun a=>(a1T 0,a.2.2,()))
  (fun i g a _=>by
   refine⟨fun n h=>?_,fun b hb=>by grind⟩;simp at h;subst h;refine⟨?_,trivial⟩;have d:=j _ (a04 g);have e:=c5M (c5y (k:=cs[i].1) (l:=l) d) (l.length:Int);unfold b6G;simp only[a7A,dlt g,cT,a0B g,oB,d1l d cs[i].1 (show l.length≤100000 by omega),e,a0C (show i<1000000 by omega)];cases (a1v cs[i].1 l cs[i]).2 != 0 with
   |true=>rfl
   |false=>
    have m:=a0C (show i<1000000 by omega)
    grind)
  (fun a _=>by simp_all[a7A]) (a:=((0:Int),false,a1T 0)) trivial
 simp at this;rw[this,b7r];rfl
theorem d1n(v:1≤l.length)(c:l.length≤4096)(a:l.all a0A=true)(h:c1N (a1h l))(u:0≤k)(x:k≤3):
  a5E (l,k)=some ((b7q l (a4t (a1h l) k)).2.2,0):=by
 have d:short l:=by unfold short;omega
 obtain⟨r,s,-⟩:=a9I d a;obtain⟨e,b,t,-⟩:=a7k c a;have i:decide (((l.length:Nat):Int)<1)=false:=decide_eq_false (by omega);have j:decide (((l.length:Nat):Int) > 4096)=false:=decide_eq_false (by omega);have m:decide (k<0)=false:=decide_eq_false (by omega);have n:decide (k > 3)=false:=decide_eq_false (by omega);have f:(a4t (a1h l) k).length<1000:=by
  have g:=fun o w=>b2l (a1h l) o w;have y:=g 4 12;have z:=g 8 12;have A:=g 1 12;have B:=g 2 12;have C:=g 12 14;have D:=g 16 14;have p:(c0N (a1h l)).length≤1:=by grind[c0N]
  simp only[a4t,a2n,a3Y,b2V,c3S,lN]
  grind[b2k]
 have hb:=c8a (l:=l) (c1O b (by omega) h k) c f;have q:a1T 0=((0:Int),(0:Int),(0:Int),(0:Int),(0:Int),([]:(List Int)),a00 3 (0:Int),([]:(List (Int×Int×Unit))),([]:(List Int)),((0:Int),([]:(List Int)),()),([]:(List Int)),()):=rfl;unfold a5E;simp only[←q,i,j,m,n,cF,oB,a4H d,a,bT,r,b6B s (show l.length<100000 by omega),e,a2A,show((0:Int) != 0)=false from rfl,d1m b (show(a1h l).length≤4096 by omega) h,hb]
theorem a4g(v:Int)(n:Nat)(L:List Int):(a0K v n L).length=L.length+(a0K v n []).length:=by
 unfold a0K;cases (z0h .u64 v (n:Int) != 0)<;>simp
theorem b0P(n:Nat):∀(l L:List Int),(a1p n l L).length=L.length+(a1p n l []).length
 | [],L=>by simp[a1p]
 |x::l,L=>by
  show(a1p n l (a0K (a0T x n) n L)).length=L.length+(a1p n l (a0K (a0T x n) n [])).length;rw[b0P n l,b0P n l (a0K (a0T x n) n []),a4g];omega
theorem b2W:∀(st:List Stg)(L:List Int),(a2b st L).length=L.length+(a2b st []).length
 | [],L=>by simp[a2b]
 |s::st,L=>by
  show(a2b st (a4Z s L)).length=L.length+(a2b st (a4Z s [])).length;rw[b2W st,b2W st (a4Z s [])];unfold a4Z;rw[a4g,a4g _ 5 L,a4g _ 4 (a0K _ 5 [])];omega
theorem b7s(s:Sub)(L:List Int):(a3P s L).length=L.length+(a3P s []).length:=by
 unfold a3P;rw[b0P,a4g,a4g _ 4,a4g _ 5 L]
 conv=>rhs;rw[b0P,a4g,a4g _ 4]
 omega
theorem c3c(s:Sub)(L:List Int):(a1n s L).length=L.length+(a1n s []).length:=by
 unfold a1n;split;rw[a4g];split;rw[b7s];split;rw[b7s,b0P,a4g]
 conv=>rhs;rw[b7s,b0P]
 omega;split;rw[b2W,a4g]
 conv=>rhs;rw[b2W]
 omega
 simp
theorem c9c(k:0≤s.1∧s.1≤5)(a:0≤s.2.1∧s.2.1≤30)(f:s.2.2.2.2.2.2.2.2.1.all a0A=true)(L:List Int):(a8w s L).length=L.length+13:=by
 obtain⟨K,g⟩:=a02 k.1;obtain⟨w,h⟩:=a02 a.1
 have:=a1W f
 unfold a8w;rw[g,h,a2m (q:=K) (by omega),a2m (q:=w) (by omega),a8L (n:=5) (by omega) (by omega),a8L (n:=5) (by omega) (by omega),a8L (n:=3) (by omega) (by omega)]
def c7k(s:Sub)(zn:List Nat):Nat:=
 13+(a1n s []).length+a0E s.2.2.2.2.2.2.2.2.1*s.2.2.2.2.2.2.2.2.1.length+if s.1=0∨s.1=1 then 0 else 4+a5V zn s.2.2.2.2.2.2.2.2.2.1.2.1 s.2.2.2.2.2.2.2.2.2.2.1
theorem b7t(h:a2M k s n):0≤k∧k≤5:=by
 rcases h with h|h|⟨h,-⟩|⟨h,-⟩|⟨h,-⟩|⟨h,-⟩<;>omega
theorem b2X(h:(a1A s n).isSome=true):a1l s n:=by
 unfold a1A at h
 split at h
 assumption
 cases h
theorem d1o(h:(a1A s n).isSome=true)(d:s.1≠0∧s.1≠1→PartsOk s.2.2.2.2.2.2.2.2.2.1 n ((s.2.2.2.2.2.2.2.2.1.length:Nat):Int) s.2.2.2.2.2.2.2.2.2.2.1 zn)(L:List Int):
  (a2c s zn L).length=L.length+c7k s zn:=by
 obtain⟨e,i,b,-,k,a,-,-,f,-⟩:=b2X h;have c:=a1W f;have g:=c9c (b7t b) ⟨k,a⟩ f L;unfold a2c c7k
 by_cases hk:s.1=0∨s.1=1
 rw[if_pos hk,if_pos hk,b5D (by omega),c3c,g];omega;rw[if_neg hk,if_neg hk,c3I (d (not_or.1 hk)),b5D (by omega),c3c,g];omega
theorem c9d(h:SmallS s)(f:(a1A s n).isSome=true):∃g,a5j s n=((c7k s g:Nat):Int)∧(s.1≠0∧s.1≠1→PartsOk s.2.2.2.2.2.2.2.2.2.1 n ((s.2.2.2.2.2.2.2.2.1.length:Nat):Int) s.2.2.2.2.2.2.2.2.2.2.1 g):=by
 obtain⟨e,b,-,-,-,a,-⟩:=b7d h (n:=n) (L:=[]) (by simp);obtain⟨-,g,-,k⟩:=a f;refine⟨g,?_,k⟩;unfold a5j;rw[if_pos f,←c2A k,d1o f k]
 simp
structure Shifted (l m:List Int) (n:Nat):Prop where
 len:m.length=l.length
 wl:l.all a0A=true
 wm:m.all a0A=true
 down:a1h m=a1h l
 waste:a3c m=a3c l+n
 fl:l.all (fun x=>x==l.headD 0)=false
 fm:m.all (fun x=>x==m.headD 0)=false
structure BestIs (l:List Int) (cs:List Sub) (a:Int×(Bool×Sub)):Prop where
 one:a.2.1=true→∃c∈cs,(a1v c.1 l c).2=0∧a.2.2=(a1v c.1 l c).1∧a.1=a5j a.2.2 (l.length:Int)
 least:∀c∈cs,(a1v c.1 l c).2=0→a.2.1=true∧a.1≤a5j (a1v c.1 l c).1 (l.length:Int)
theorem b8Q{l:List Int}:∀(cs ds:List Sub)(a:Int×(Bool×Sub)),BestIs l ds a→BestIs l (ds++cs) (cs.foldl (b6G l) a)
 | [],ds,a,h=>by rw[a49];exact h
 |c::cs,ds,a,h=>by
  rw[b02,show ds++c::cs=(ds++[c])++cs by simp];refine b8Q cs (ds++[c]) _ ?_
  unfold b6G
  by_cases h0:(a1v c.1 l c).2=0
  ·have e:((a1v c.1 l c).2 != 0)=false:=by rw[h0];rfl
   rw[e,cF];cases hq:(!a.2.1 || decide (a5j (a1v c.1 l c).1 (l.length:Int)<a.1))with
   |true=>
    refine⟨fun _=>⟨c,by simp,h0,rfl,rfl⟩,fun d f k=>⟨rfl,?_⟩⟩;rcases mA.1 f with f|f;obtain⟨i,j⟩:=h.least d f k;rw[i]at hq;simp only[bT,Bool.false_or,dT]at hq;exact Int.le_trans (Int.le_of_lt hq) j;simp only[a67]at f;subst f;exact Int.le_refl _
   |false=>
    simp only[Bool.or_eq_false_iff,Bool.not_eq_false',decide_eq_false_iff_not]at hq;refine⟨fun b=>?_,fun d f k=>?_⟩;obtain⟨d,f,g⟩:=h.one b;exact⟨d,a83 _ f,g⟩;rcases mA.1 f with f|f;exact h.least d f k;simp only[a67]at f;subst f;exact⟨hq.1,b05.1 hq.2⟩
  have e:((a1v c.1 l c).2 != 0)=true:=by simpa using h0
  rw[e,cT];refine⟨fun b=>?_,fun d f k=>?_⟩;obtain⟨d,f,g⟩:=h.one b;exact⟨d,a83 _ f,g⟩;rcases mA.1 f with f|f;exact h.least d f k;simp only[a67]at f;subst f;exact absurd k h0
theorem c2D(l:List Int)(cs:List Sub):BestIs l cs (b7q l cs):=
 b8Q cs [] _ ⟨fun h=>(by cases h),fun _ h=>(by cases h)⟩
theorem b7u(h:1≤l.length)(g:l.length≤4096)(f:l.all a0A=true):a1v 1 l (cS 1 0 0 [] [])=(a1O (a0V 1 (cS 1 0 0 [] [])) (a3c l) (a1h l) z0 [],0):=by
 unfold a1v;rw[if_neg (fun q=>q ⟨h,g,.inr (.inl rfl)⟩),if_neg (by rw[f];decide),if_neg (by decide),if_pos rfl]
theorem c7l(h:1≤l.length)(g:l.length≤4096)(f:l.all a0A=true)(d:List Int)(k:Int):(b7q l (a4t d k)).2.1=true:=
 ((c2D l (a4t d k)).least (cS 1 0 0 [] []) (by simp[a4t,a2n]) (by rw[show(cS 1 0 0 [] []).1=1 from rfl,b7u h g f])).1
def inW(x:Int)(v:Nat):Bool:=decide (x=0) || a1C x (v:Int)
theorem c9e:a1C x (v:Int)=true↔1≤v∧v≤31∧-((2^(v-1):Nat):Int)≤x∧x≤((2^(v-1):Nat):Int)-1:=by
 by_cases hv:1≤v∧v≤31
 have e:((v:Int)-1)=((v-1:Nat):Int):=by omega
 have hp:2^(v-1)≤2^30:=a16 (by omega) (by omega);have b:=a09 (v-1);have g:z0g .i64 1 ((v-1:Nat):Int)=((2^(v-1):Nat):Int):=c4s (by omega);have f:z0g .i64 (-1) ((v-1:Nat):Int)=-((2^(v-1):Nat):Int):=by
  have a:min (a35 ((v-1:Nat):Int)) (IntKind.bits .i64)=v-1:=by simp only[tN,IntKind.bits];omega
  unfold z0g;rw[a,show(-1:Int)*2^(v-1)=-((2^(v-1):Nat):Int)by simp];exact a0D (by omega)
 have k:wrap .i64 (((2^(v-1):Nat):Int)-1)=((2^(v-1):Nat):Int)-1:=a0D (by omega);simp only[a1C,e,g,f,k,bA,dT];constructor;intro h;exact⟨hv.1,hv.2,h.2.2.1,h.2.2.2⟩;intro h;exact⟨by omega,by omega,h.2.2.1,h.2.2.2⟩;constructor;intro h;simp only[a1C,bA,dT]at h;omega;intro h;omega
theorem b9d:inW x v=true↔x=0∨(1≤v∧v≤31∧-((2^(v-1):Nat):Int)≤x∧x≤((2^(v-1):Nat):Int)-1):=by
 simp only[inW,a33,dT,c9e]
theorem c9f(h:v≤w)(f:w≤31)(g:inW x v=true):inW x w=true:=by
 rw[b9d]at g⊢;rcases g with g|⟨k,a,b,c⟩;exact .inl g
 have:2^(v-1)≤2^(w-1):=a16 (by omega) (by omega)
 exact .inr ⟨by omega,f,by omega,by omega⟩
theorem c9g(h:a0A x=true):inW x 31=true:=by
 have:=a1H.1 h
 rw[b9d];exact .inr ⟨by omega,by omega,by rw[show((2^(31-1):Nat):Int)=1073741824 from rfl];omega,by rw[show((2^(31-1):Nat):Int)=1073741824 from rfl];omega⟩
theorem c3d{x:Int}(b:a0A x=true):∀(k w:Nat),w+k=32→w≤31→w≤a1B x k w∧a1B x k w≤31∧inW x (a1B x k w)=true∧∀v,w≤v→inW x v=true→v≤31→a1B x k w≤v
 |0,w,h,g=>absurd g (by omega)
 |k+1,w,h,g=>by
  by_cases hin:inW x w=true
  ·have:a1B x (k+1) w=w:=by
    unfold a1B;cases f:(x != 0)&&!a1C x (w:Int)with
    |false=>rfl
    |true=>
     simp only[bA,bne_iff_ne,ne_eq,a34]at f;simp only[inW,a33,dT,f.2,Bool.false_eq_true,or_false]at hin;exact absurd hin f.1
   rw[this];exact⟨a36 _,g,hin,fun v hv _ _=>hv⟩
  have f:((x != 0)&&!a1C x (w:Int))=true:=by
   simp only[inW,a33,dT,not_or,Bool.not_eq_true]at hin;simp only[bA,bne_iff_ne,ne_eq,a34];exact hin
  have j:w≠31:=fun e=>hin (by rw[e];exact c9g b);have e:a1B x (k+1) w=a1B x k (w+1):=by
   show(bif (x != 0)&&!a1C x (w:Int)then a1B x k (w+1)else w)=_;rw[f,cT]
  obtain⟨l,c,d,i⟩:=c3d b k (w+1) (by omega) (by omega);rw[e];refine⟨by omega,c,d,fun v hv a g=>i v ?_ a g⟩;rcases Nat.lt_or_ge w v with q|q;exact q
  have:v=w:=by omega
  exact absurd (this▸a) hin
theorem b1I:∀(l:List Int)(w:Nat),l.all a0A=true→w≤31→
  w≤l.foldl (fun w x=>a1B x (32-w) w) w∧l.foldl (fun w x=>a1B x (32-w) w) w≤31∧(∀x∈l,inW x (l.foldl (fun w x=>a1B x (32-w) w) w)=true)∧∀v,w≤v→v≤31→(∀x∈l,inW x v=true)→l.foldl (fun w x=>a1B x (32-w) w) w≤v
 | [],w,_,h31=>⟨a36 _,h31,by simp,fun v hv _ _=>hv⟩
 |x::l,w,h,h31=>by
  rw[a07,bA]at h;obtain⟨m,e,i,j⟩:=c3d h.1 (32-w) w (by omega) h31;obtain⟨b,a,c,d⟩:=b1I l (a1B x (32-w) w) h.2 e;simp only[b02];refine⟨by omega,a,fun y k=>?_,fun v hv f g=>?_⟩;rcases mC.1 k with rfl|k;exact c9f b a i;exact c y k;exact d v (j v hv (g x a65) f) f fun y k=>g y (List.mem_cons_of_mem _ k)
theorem c4J(h:l.all a0A=true):∀x∈l,inW x (a0E l)=true:=(b1I l 0 h (by omega)).2.2.1
theorem c5z(h:l.all a0A=true)(hv:v≤31)(g:∀x∈l,inW x v=true):a0E l≤v:=(b1I l 0 h (by omega)).2.2.2 v (by omega) hv g
theorem c9h(e:w≤30)(a:((2^w:Nat):Int) ∣ x)(h:inW x v=true):inW (z0h .i64 x (w:Int)) v=true:=by
 obtain⟨c,rfl⟩:=a;rw[c8X (by omega)];rw[b9d]at h⊢;have hp:(1:Int)≤((2^w:Nat):Int):=by have:=a09 w;omega
 generalize ((2^w:Nat):Int)=p at h hp;rcases h with h|⟨f,k,b,d⟩;rcases Int.mul_eq_zero.1 h with h|h;omega;exact .inl h;refine .inr ⟨f,k,?_,?_⟩
 by_cases hc:0≤c
 have:(0:Int)≤((2^(v-1):Nat):Int):=a66 _
 omega;have g:=a54 (show 0≤p-1 by omega) (show 0≤-c by omega);rw[Int.mul_neg,a98]at g;omega
 by_cases hc:0≤c
 have g:=a54 (show 0≤p-1 by omega) hc;rw[a98]at g;omega
 have:(1:Int)≤((2^(v-1):Nat):Int):=by have:=a09 (v-1);omega
 omega
theorem c7m(b:l.length≤4096)(h:l.all a0A=true):a0E (a1h l)≤a0E l:=by
 obtain⟨-,d,e⟩:=a9I (show short l by unfold short;omega) h;obtain⟨-,a,-,-⟩:=a7k b h;have k:∀x∈l,((2^a3c l:Nat):Int) ∣ x:=by
  rcases e with⟨g,-⟩|⟨-,-,g,-⟩;exact fun x f=>by rw[g x f];exact a90 _
  exact g
 refine c5z a (a1W h) fun y c=>?_
 obtain⟨x,f,rfl⟩:=List.mem_map.1 c;exact c9h d (k x f) (c4J h x f)
theorem c7n(c:1≤l.length)(h:l.length≤4096)(f:l.all a0A=true):a5j (a1v 1 l (cS 1 0 0 [] [])).1 (l.length:Int)=((13+a0E (a1h l)*l.length:Nat):Int):=by
 have d:SmallS (cS 1 0 0 [] []):=b2i (by simp) (by simp);have g:=b7u c h f;obtain⟨a1,-,-,a⟩:=c2C d (k:=1) (l:=l) (by rw[g]);obtain⟨j,i,-⟩:=c9d a1 (by rw[a];rfl);obtain⟨-,-,b,-⟩:=a7k h f;rw[i,g];have e:c7k (a1O (a0V 1 (cS 1 0 0 [] [])) (a3c l) (a1h l) z0 []) j=13+0+a0E (a1h l)*(a1h l).length+0:=rfl;rw[e,b];rfl
theorem c7o(b:1≤l.length)(f:l.length≤4096)(a:l.all a0A=true)(g:c1N (a1h l))(d:0≤k)(t:k≤3):
  ∃s,a5E (l,k)=some (s,0)∧SmallS s∧a1A s (l.length:Int)=some l∧s=(b7q l (a4t (a1h l) k)).2.2∧a5j s (l.length:Int)=(b7q l (a4t (a1h l) k)).1∧a5j s (l.length:Int)≤((13+a0E l*l.length:Nat):Int)∧
   (∀c∈a4t (a1h l) k,(a1v c.1 l c).2=0→a5j s (l.length:Int)≤a5j (a1v c.1 l c).1 (l.length:Int)):=by
 obtain⟨-,p,u,-⟩:=a7k f a;have hb:=d1n b f a g d t;have j:=c7l b f a (a1h l) k;obtain⟨c,i,q,r,o⟩:=(c2D l (a4t (a1h l) k)).one j;have e:=c1O p (by omega) g k c i;obtain⟨m,-,-,n⟩:=c2C e q;rw[←r]at m n;have h:∀c∈a4t (a1h l) k,(a1v c.1 l c).2=0→a5j (b7q l (a4t (a1h l) k)).2.2 (l.length:Int)≤a5j (a1v c.1 l c).1 (l.length:Int):=fun c i d=>by
  rw[←o];exact((c2D l (a4t (a1h l) k)).least c i d).2
 refine⟨_,hb,m,n,rfl,o.symm,?_,h⟩;have hp:=h (cS 1 0 0 [] []) (by simp[a4t,a2n]) (by rw[show(cS 1 0 0 [] []).1=1 from rfl,b7u b f a]);rw[show(cS 1 0 0 [] []).1=1 from rfl,c7n b f a]at hp
 have:=a42 l.length (c7m f a)
 omega
@[reducible] def Rd:Type:=(List Int)×(Int×(Int×Unit))
def a1u(L:List Int):Prop:=∀b∈L,b=0∨b=1
def b4p(bs:List Int)(i:Nat):Bool:=(bs.getD (i / 8) 0).toNat.testBit (7-i%8)
theorem or8{x y:Nat}(h:x<256)(g:y<256):bits .u8 .or (x:Int) (y:Int)=((x ||| y:Nat):Int):=by
 show wrap .u8 (((a05 8 (x:Int)) ||| (a05 8 (y:Int))).toNat:Int)=_;rw[a22,a22,a78,a30,a30,a37 h,a37 g,a4W]
 have:x ||| y<2^8:=a92 h g
 omega
theorem d8y{b:Int}(hb:b=0∨b=1){r:Nat}(g:r<8):z0g .u8 b (7-(r:Int))=((b.toNat*2^(7-r):Nat):Int):=by
 have h:∀r:Fin 8,z0g .u8 0 (7-(r.1:Int))=((0*2^(7-r.1):Nat):Int)∧z0g .u8 1 (7-(r.1:Int))=((1*2^(7-r.1):Nat):Int):=by decide +kernel
 rcases hb with rfl|rfl;exact(h ⟨r,g⟩).1;exact(h ⟨r,g⟩).2
theorem c9i{x:Nat}(h:x<256){r:Nat}(g:r<8):bits .u8 .and (z0h .u8 (x:Int) (7-(r:Int))) 1=if x.testBit (7-r)then 1 else 0:=by
 have e:z0h .u8 (x:Int) (7-(r:Int))=((x / 2^(7-r):Nat):Int):=by
  show a85 (x:Int) (2^(min (7-(r:Int)).toNat 8))=_
  grind
 rw[e];have f:x / 2^(7-r)<256:=a31 (a20 _ _) h;show wrap .u8 (((a05 8 ((x / 2^(7-r):Nat):Int)) &&& (a05 8 1)).toNat:Int)=_
 grind[a05,a4W]
theorem c8b(L:List Int)(b:Int)(i:Nat):(L++[b]).getD i 0=if i=L.length then b else L.getD i 0:=by
 grind
theorem c4K(h:List Int)(k:Nat)(y:Int)(g:k<h.length)(j:Nat):(h.set k y).getD j 0=if j=k then y else h.getD j 0:=by
 grind
theorem c3e:∀(n:Nat)(L:List Int),L.length=n→a1u L→(∀j,0≤(wL L).1.getD j 0∧(wL L).1.getD j 0<256)∧∀i,b4p (wL L).1 i=decide (L.getD i 0=1)
 |0,L,h,_=>by
  simp_all[wL,b4p]
 |n+1,L,h,hL=>by
  obtain⟨g,b,rfl⟩:∃g b,L=g++[b]:=by
   rcases a80 L with rfl|⟨g,b,e⟩
   all_goals simp_all
  have hb:b=0∨b=1:=hL b (by simp);obtain⟨v,w⟩:=c3e n g (by simp_all) fun c D=>hL c (by grind);obtain⟨o,p⟩:=a3v g;rw[b9b];generalize wL g=wr at o p v w⊢;obtain⟨d,m,u⟩:=wr;have o:m=(g.length:Int):=o;have p:d.length=(g.length+7) / 8:=p;subst o;have e8:((g.length:Int) / 8).toNat=g.length / 8:=by rfl
  have r:(g.length:Int)%8=((g.length%8:Nat):Int):=by rfl
  obtain⟨f,a,y,z⟩:∃f:List Int,(if(g.length:Int)%8=0 then d++[0]else d)=f∧g.length / 8<f.length∧∀j,f.getD j 0=d.getD j 0:=by
   grind
  rw[r]at a;have C:g.length%8<8:=a44 _ (by simp);obtain⟨x,s⟩:∃x:Nat,d.getD (g.length / 8) 0=(x:Int):=a02 (v _).1;have k:x<256:=by
   grind
  have t:b.toNat*2^(7-g.length%8)<256:=by
   have hp:2^(7-g.length%8)≤2^7:=a16 (by simp) (by omega)
   grind
  have B:x ||| b.toNat*2^(7-g.length%8)<2^8:=a92 k t;have l:(c0H (d,(g.length:Int),u) b).1=f.set (g.length / 8) ((x ||| b.toNat*2^(7-g.length%8):Nat):Int):=by
   unfold c0H;simp only[a,e8,r];rw[z,s,d8y hb C,or8 k t]
  rw[l];refine⟨fun j=>?_,fun i=>?_⟩
  grind[c4K]
  ·unfold b4p;rw[c4K _ _ _ y,c8b];have q:=w i;unfold b4p at q
   by_cases hk:i / 8=g.length / 8
   ·rw[if_pos hk,tN,Nat.testBit_or];rw[hk,s,tN]at q;rw[q];have A:(b.toNat*2^(7-g.length%8)).testBit (7-i%8)=(decide (b=1)&&decide (i=g.length)):=by
     rcases hb with rfl|rfl
     all_goals grind
    grind
   grind
theorem c5R(h:a1u L):(∀j,0≤(wL L).1.getD j 0∧(wL L).1.getD j 0<256)∧∀i,b4p (wL L).1 i=decide (L.getD i 0=1):=c3e _ L rfl h
def rdr(P R:List Int):Rd:=((wL (P++R)).1,(P.length:Int),(0:Int),())
theorem c2E(k:a1u L)(o:L.length<1000000000)(l:i<L.length)(t:Int×(Int×Unit)):
  a1G (((wL L).1,t),(i:Int))=some (L.getD i 0,(wL L).1,t):=by
 obtain⟨d,e⟩:=c5R k;obtain⟨-,n⟩:=a3v L;have m:a59 (i:Int) 8=((i%8:Nat):Int):=by rfl
 have j:a86 (i:Int) 8=((i / 8:Nat):Int):=by rfl
 have b:wrap .i64 ((i / 8:Nat):Int)=((i / 8:Nat):Int):=a0D (by omega);have c:wrap .i64 (7-((i%8:Nat):Int))=7-((i%8:Nat):Int):=a0D (by omega);have g:decide (7-((i%8:Nat):Int)<0)=false:=by grind
 have hb:i / 8<(wL L).1.length:=by omega
 have f:(wL L).1[i / 8]=(wL L).1.getD (i / 8) 0:=by grind
 unfold a1G;simp only[m,j,b,c,g,a0B hb,oB,cF];obtain⟨x,a⟩:∃x:Nat,(wL L).1.getD (i / 8) 0=(x:Int):=a02 (d _).1;have h:x<256:=by grind
 rw[f,a,c9i h (a44 _ (by simp))]
 have:=e i
 unfold b4p at this;rw[a,tN]at this;rw[this];have hv:L.getD i 0=0∨L.getD i 0=1:=by
  have:L.getD i 0=L[i]:=by simp_all
  rw[this];exact k _ (a04 l)
 grind
theorem c8c(hv:v<18446744073709551616)(h:i≤64):a5h (v:Int) i=((v / 2^i%2:Nat):Int):=by
 unfold a5h;rw[a3O h];have g:v / 2^i<18446744073709551616:=a31 (a20 _ _) hv;show wrap .u8 (wrap .u64 (((a05 64 ((v / 2^i:Nat):Int)) &&& (a05 64 1)).toNat:Int))=_
 grind[a05,a0N,a4W]
theorem a1u.app{A B:List Int}(h:a1u A)(g:a1u B):a1u (A++B):=fun b hb=>(mA.1 hb).elim (h b) (g b)
theorem orU(k:a<18446744073709551616)(hb:b<2)(f:a%2=0):bits .u64 .or (a:Int) (b:Int)=((a+b:Nat):Int):=by
 show wrap .u64 (((a05 64 (a:Int) ||| a05 64 (b:Int)).toNat:Nat):Int)=_;have g:(a05 64 (a:Int)).toNat=a:=by simp_all
 have h:(a05 64 (b:Int)).toNat=b:=by grind
 rw[a78,g,h];have e:a ||| b=a+b:=by
  have:=Nat.two_pow_add_eq_or_of_lt (i:=1) (b:=b) (by omega) (a / 2)
  grind
 grind[a0N]
theorem c4L{v:Nat}(hv:v<9223372036854775808){n:Nat}(q:n≤62):∀(m:Nat)(P R:List Int),m≤n→a1u (P++(pb (v:Int) m++R))→(P++(pb (v:Int) m++R)).length<1000000000→
  x0r a4q (((v / 2^m:Nat):Int),(n:Int),((n-m:Nat):Int),rdr P (pb (v:Int) m++R),())=some ((v:Int),rdr (P++pb (v:Int) m) R,())
 |0,P,R,_,_,_=>by
  grind[a0F,a4q,pb]
 |m+1,P,R,hm,hok,hlen=>by
  have l:decide (((n-(m+1):Nat):Int)<(n:Int))=true:=by grind
  have a:a1G (rdr P (pb (v:Int) (m+1)++R),(P.length:Int))=some (a5h v m,rdr P (pb (v:Int) (m+1)++R)):=by
   have:=c2E hok hlen (i:=P.length) (by simp[pb]) ((P.length:Int),(0:Int),())
   rw[show(P++(pb (v:Int) (m+1)++R)).getD P.length 0=a5h v m from by simp_all[pb]]at this;exact this
  have g:=c8c (v:=v) (by omega) (i:=m) (by omega);have b:v / 2^m%2<2:=a44 _ (by simp);have f:v / 2^(m+1)=v / 2^m / 2:=by grind[Nat.div_div_eq_div_mul]
  have p:v / 2^m≤v:=a20 _ _;have d:z0g .u64 ((v / 2^(m+1):Nat):Int) 1=((v / 2^(m+1)*2^1:Nat):Int):=b3k (o:=1) (by omega) (by omega);have h:bits .u64 .or ((v / 2^(m+1)*2^1:Nat):Int) (wrap .u64 (a5h (v:Int) m))=((v / 2^m:Nat):Int):=by
   rw[g,a0N (by omega),orU (by omega) b (by omega),f];omega
  have e:wrap .i64 (((n-(m+1):Nat):Int)+1)=((n-m:Nat):Int):=by grind[a0D]
  have j:wrap .i64 ((P.length:Int)+1)=(((P++[a5h v m]).length:Nat):Int):=by
   grind[a0D]
  have k:P++(pb (v:Int) (m+1)++R)=(P++[a5h v m])++(pb (v:Int) m++R):=by simp[pb]
  have c:((rdr P (pb (v:Int) (m+1)++R)).1,(((P++[a5h v m]).length:Nat):Int),(rdr P (pb (v:Int) (m+1)++R)).2.2)=rdr (P++[a5h v m]) (pb (v:Int) m++R):=by
   unfold rdr;simp_all
  rw[a0G (s':=(((v / 2^m:Nat):Int),(n:Int),((n-m:Nat):Int),rdr (P++[a5h v m]) (pb (v:Int) m++R),())) (by
   simp only[a4q,l,cT];rw[show(rdr P (pb (v:Int) (m+1)++R)).2.1=(P.length:Int)from rfl,a];simp only[oB,d,h,e];rw[show(rdr P (pb (v:Int) (m+1)++R)).2.1=(P.length:Int)from rfl,j,c])]
  rw[c4L hv q m _ _ (by omega) (by simp_all) (by simp_all)];simp[pb]
theorem c8d{n:Nat}(a:n≤62)(hv:v<2^n)(g:a1u (P++(pb (v:Int) n++R)))(k:(P++(pb (v:Int) n++R)).length<200000000):
  a0I (rdr P (pb (v:Int) n++R),(n:Int))=some ((v:Int),rdr (P++pb (v:Int) n) R):=by
 have h:v<9223372036854775808:=Nat.lt_of_lt_of_le hv (Nat.le_trans (a16 (by simp) a) (by simp));have f:=c4L h a n P R (by omega) g (by omega);rw[a71 hv,a73]at f;simp at f;obtain⟨-,e⟩:=a3v (P++(pb (v:Int) n++R));have j:=b5A (v:Int) n;have i:(P++(pb (v:Int) n++R)).length=P.length+n+R.length:=by grind
 have e8:wrap .i64 ((8:Int)*(((wL (P++(pb (v:Int) n++R))).1.length:Nat):Int))=(8:Int)*(((wL (P++(pb (v:Int) n++R))).1.length:Nat):Int):=a0D (by omega);have d:wrap .i64 ((8:Int)*(((wL (P++(pb (v:Int) n++R))).1.length:Nat):Int)-(P.length:Int))=(8:Int)*(((wL (P++(pb (v:Int) n++R))).1.length:Nat):Int)-(P.length:Int):=a0D (by omega);have b:decide ((n:Int)<0)=false:=by simp
 have c:decide ((n:Int) > 64)=false:=by grind
 have l:decide ((n:Int) > (8:Int)*(((wL (P++(pb (v:Int) n++R))).1.length:Nat):Int)-(P.length:Int))=false:=by
  grind
 unfold a0I a2F;rw[show(rdr P (pb (v:Int) n++R)).2.2.1=0 from rfl];simp only[bne_self_eq_false,cF,b,c,oB];rw[show(rdr P (pb (v:Int) n++R)).1=(wL (P++(pb (v:Int) n++R))).1 from rfl,show(rdr P (pb (v:Int) n++R)).2.1=(P.length:Int)from rfl,e8,d]
 grind
def b6b(n:Nat)(x:Int):Prop:=-((2^n:Nat):Int)≤2*x∧2*x<((2^n:Nat):Int)
theorem c3f{n:Nat}(f:n≤62)(x:Int):∃v:Nat,a0T x n=(v:Int)∧v<2^n∧(v:Int)=x%((2^n:Nat):Int):=by
 have k:wrap .u64 x=x%18446744073709551616:=by simp[wrap,IntKind.bits,IntKind.signed]
 obtain⟨y,g⟩:∃y:Nat,x%18446744073709551616=(y:Int):=a02 (Int.emod_nonneg _ (by decide));have h:y<18446744073709551616:=by omega
 refine⟨y%2^n,?_,a44 _ (a09 n),?_⟩;unfold a0T;rw[k,g];exact b7c h f;rw[Int.natCast_emod,←g];refine Int.emod_emod_of_dvd x ?_
 have:(2:Nat)^n ∣ 2^64:=a60 2 (by omega)
 exact a25.2 this
theorem c8e{n:Nat}(t:n≤62)(B:b6b n x)(j:a1u (P++(pb (a0T x n) n++R)))(f:(P++(pb (a0T x n) n++R)).length<200000000):
  a1c (rdr P (pb (a0T x n) n++R),(n:Int))=some (x,rdr (P++pb (a0T x n) n) R):=by
 obtain⟨v,hv,i,a⟩:=c3f t x;rw[hv]at j f⊢;have d:=c8d t i j f;obtain⟨b,c⟩:=B;have E:=a09 n;have q:(v:Int)=x∧0≤x∨(v:Int)=x+((2^n:Nat):Int)∧x<0:=by
  by_cases h0:0≤x
  exact .inl ⟨by rw[a];exact a93 h0 (by omega),h0⟩;refine .inr ⟨?_,by omega⟩;rw[a,←Int.add_emod_right];exact a93 (by omega) (by omega)
 unfold a1c;simp only[d,oB];rw[show(rdr (P++pb (v:Int) n) R).2.2.1=0 from rfl];simp only[bne_self_eq_false,cF,oB];cases n with
 |zero=>
  have o:x=0:=by simp at b c;omega
  subst o;rfl
 |succ k=>
  have p:(((k+1:Nat):Int)==0)=false:=by simp only[beq_eq_false_iff_ne];omega
  have A:wrap .i64 ((64:Int)-((k+1:Nat):Int))=((64-(k+1):Nat):Int):=by rw[a0D (by omega)];omega
  have z:decide (((64-(k+1):Nat):Int)<0)=false:=by simp
  simp only[p,cF,A,z];have s:64-(k+1)+(k+1)=64:=by omega
  generalize 64-(k+1)=m at s⊢;have l:2^m*2^(k+1)=18446744073709551616:=by rw[←Nat.pow_add,s]
  have g:((2^m:Nat):Int)*((2^(k+1):Nat):Int)=18446744073709551616:=by rw[←b03,l];rfl
  have hp:=a09 m;have r:z0g .u64 (v:Int) (m:Int)=(v:Int)*((2^m:Nat):Int):=by
   show wrap .u64 ((v:Int)*2^(min (m:Int).toNat 64))=_;rw[tN,a50 (by omega)];have e:(2:Int)^m=((2^m:Nat):Int):=by simp
   rw[e];refine a0N ⟨a54 (by omega) (by omega),?_⟩
   have:v*2^m<2^(k+1)*2^m:=Nat.mul_lt_mul_of_pos_right i hp
   rw[←b03];rw[a74 (2^(k+1)),l]at this;omega
  have u:-9223372036854775808≤x*((2^m:Nat):Int):=by
   have:=Int.mul_le_mul_of_nonneg_right b (show(0:Int)≤((2^m:Nat):Int)by omega)
   have e:-((2^(k+1):Nat):Int)*((2^m:Nat):Int)=-18446744073709551616:=by rw[Int.neg_mul,a62,g]
   rw[e,Int.mul_assoc]at this;omega
  have w:x*((2^m:Nat):Int)<9223372036854775808:=by
   have:=Int.mul_lt_mul_of_pos_right c (show(0:Int)<((2^m:Nat):Int)by omega)
   rw[a62 ((2^(k+1):Nat):Int),g,Int.mul_assoc]at this;omega
  have D:wrap .i64 ((v:Int)*((2^m:Nat):Int))=x*((2^m:Nat):Int):=by
   rcases q with⟨h,-⟩|⟨h,-⟩;rw[h];exact a0D (by omega);rw[h,Int.add_mul,a62 ((2^(k+1):Nat):Int),g];generalize x*((2^m:Nat):Int)=y at u w⊢;have o:y<0∨0≤y:=by omega
   simp only[wrap,IntKind.bits,IntKind.signed]
   simp
   split<;>omega
  have C:z0h .i64 (x*((2^m:Nat):Int)) (m:Int)=x:=by
   show a85 (x*((2^m:Nat):Int)) (2^(min (m:Int).toNat 64))=x;rw[tN,a50 (by omega)];have e:(2:Int)^m=((2^m:Nat):Int):=by simp
   rw[e,a47 _ (by omega)];exact Int.mul_ediv_cancel _ (by omega)
  rw[r,D,C]
theorem c7p(P:List Int)(n:Nat)(R:List Int){c:Nat}(h:c<n):(P++(a00 n 0++1::R)).getD (P.length+c) 0=0:=by
 simp only[lD];rw[a39 (by omega),a75,a69 (by simpa using h)];simp[h]
theorem c9j(P:List Int)(n:Nat)(R:List Int):(P++(a00 n 0++1::R)).getD (P.length+n) 0=1:=by
 simp only[lD];rw[a39 (by omega),a75,a39 (by simp)]
 simp
theorem c8f{n lm:Nat}(y:n≤lm)(w:lm<1000000)(q:a1u (P++(a00 n 0++1::R)))(s:(P++(a00 n 0++1::R)).length<200000000):
  a1N (rdr P (a00 n 0++1::R),(lm:Int))=some ((n:Int),rdr (P++(a00 n 0++[1])) R):=by
 obtain⟨-,u⟩:=a3v (P++(a00 n 0++1::R));have v:(P++(a00 n 0++1::R)).length=P.length+n+1+R.length:=by simp;omega
 have e8:wrap .i64 ((8:Int)*(((wL (P++(a00 n 0++1::R))).1.length:Nat):Int))=(8:Int)*(((wL (P++(a00 n 0++1::R))).1.length:Nat):Int):=a0D (by omega);have j:∀c,c≤n→a1G (rdr P (a00 n 0++1::R),((P.length:Int)+(c:Int)))=some (if c=n then 1 else 0,rdr P (a00 n 0++1::R)):=fun c o=>by
  have:=c2E q (by omega) (i:=P.length+c) (by omega) ((P.length:Int),(0:Int),())
  rw[b04]at this;refine this.trans ?_
  by_cases e:c=n
  subst e;rw[c9j,if_pos rfl];rfl;rw[c7p P n R (by omega),if_neg e];rfl
 have k:∀c:Nat,c≤n→(((P.length:Int)+(c:Int))==(8:Int)*(((wL (P++(a00 n 0++1::R))).1.length:Nat):Int))=false:=fun c o=>by
  simp only[beq_eq_false_iff_ne];omega
 have m:wrap .i64 ((P.length:Int)+(n:Int)+1)=(((P++(a00 n 0++[1])).length:Nat):Int):=by
  rw[a0D (by omega)];simp;omega
 have g:P++(a00 n 0++1::R)=(P++(a00 n 0++[1]))++R:=by simp
 have r:((rdr P (a00 n 0++1::R)).1,(((P++(a00 n 0++[1])).length:Nat):Int),(rdr P (a00 n 0++1::R)).2.2)=rdr (P++(a00 n 0++[1])) R:=by
  unfold rdr;rw[g]
 have a:(rdr P (a00 n 0++1::R)).1=(wL (P++(a00 n 0++1::R))).1:=rfl;have h:=a1y (f:=a3B) (fun c:Nat=>((lm:Int),(c:Int),(P.length:Int)+(c:Int),rdr P (a00 n 0++1::R),())) n (b:=((n:Int),rdr (P++(a00 n 0++[1])) R,()))
  (fun c o=>by
   have l:((0:Int)==1)=false:=rfl;have t:(((c:Nat):Int)==(lm:Int))=false:=by simp only[beq_eq_false_iff_ne];omega
   have x:wrap .i64 ((c:Int)+1)=((c+1:Nat):Int):=a0C (by omega);have w2:wrap .i64 ((P.length:Int)+(c:Int)+1)=(P.length:Int)+((c+1:Nat):Int):=by rw[a0D (by omega)];omega
   simp only[a3B,a,e8,k c (by omega),cF,j c (by omega),oB,if_neg (Nat.ne_of_lt o),l,t,x,w2])
  (by
   have l:((1:Int)==1)=true:=rfl;simp only[a3B,a,e8,k n (a36 _),cF,j n (a36 _),oB,if_pos rfl,l,cT,m];rw[←a,r];rfl)
 unfold a1N;rw[show(rdr P (a00 n 0++1::R)).2.2.1=0 from rfl,show(rdr P (a00 n 0++1::R)).2.1=(P.length:Int)from rfl];have p:u0z (lm:Int) 0=(lm:Int):=by
  have d:decide ((0:Int) > (lm:Int))=false:=by simp
  simp only[u0z,d,cF]
 simp only[nZ,Int.add_zero,a18]at h;simp only[bne_self_eq_false,cF,p,h,oB]
def OkR(P R:List Int):Prop:=a1u (P++R)∧(P++R).length<200000000
theorem OkR.shift{A:List Int}(h:OkR P (A++R)):OkR (P++A) R:=by
 unfold OkR at h⊢
 rwa [aA]
theorem a3Q{n:Nat}(g:n≤62)(hv:v<2^n)(h:OkR P (pb (v:Int) n++R)):a0I (rdr P (pb (v:Int) n++R),(n:Int))=some ((v:Int),rdr (P++pb (v:Int) n) R):=c8d g hv h.1 h.2
theorem b0Q{n:Nat}(f:n≤62)(g:b6b n x)(h:OkR P (pb (a0T x n) n++R)):a1c (rdr P (pb (a0T x n) n++R),(n:Int))=some (x,rdr (P++pb (a0T x n) n) R):=c8e f g h.1 h.2
def unB(n:Nat):List Int:=a00 n 0++[1]
theorem c4M{n lm:Nat}(f:n≤lm)(g:lm<1000000)(h:OkR P (unB n++R)):a1N (rdr P (unB n++R),(lm:Int))=some ((n:Int),rdr (P++unB n) R):=by
 have e:unB n++R=a00 n 0++1::R:=by simp[unB]
 rw[e]at h⊢;exact c8f f g h.1 h.2
theorem a2C{v n:Nat}(h:n≤63)(hv:v<2^n)(L:List Int):a0K (v:Int) n L=L++pb (v:Int) n:=by
 unfold a0K;rw[a3O (N:=v) (o:=n) (by omega),a71 hv]
 simp
def b0E(k:Nat)(x:Int):List Int:=
 if a0M x / 2^k<32 then unB (a0M x / 2^k)++pb ((a0M x%2^k:Nat):Int) k else unB 32++pb ((a0M x:Nat):Int) 32
theorem c8g{k:Nat}(f:k≤25)(g:a0A x=true)(L:List Int):a5i k x L=L++b0E k x:=by
 have h:=a7i g;unfold a5i b0E;split;rw[a2C (by omega) (a44 _ (a09 k))];simp[unL,unB];rw[a2C (by omega) (by omega)];simp[unL,unB]
theorem c8h(f:a0A x=true):a7D ((a0M x:Nat):Int)=some x:=by
 have b:=a7i f;have d:=a1H.1 f;have c:a59 ((a0M x:Nat):Int) 2=((a0M x:Nat):Int)%2:=a45 (by omega);have a:a86 ((a0M x:Nat):Int) 2=((a0M x:Nat):Int) / 2:=a38 (by omega);have k:decide (((a0M x:Nat):Int)≥2147483648)=false:=by simp only[ge_iff_le,decide_eq_false_iff_not];omega
 unfold a7D;simp only[k,cF,c,a]
 by_cases h0:0≤x
 have e:((a0M x:Nat):Int)=2*x:=by unfold a0M;rw[if_pos h0];omega
 rw[e];have h:((2*x)%2==(0:Int))=true:=by simp only[beq_iff_eq];omega
 have g:2*x / 2=x:=by omega
 simp only[h,cT,g];rw[a0N (by omega),a0D (by omega)];have e:((a0M x:Nat):Int)=-2*x-1:=by unfold a0M;rw[if_neg h0];omega
 rw[e];have h:((-2*x-1)%2==(0:Int))=false:=by simp only[beq_eq_false_iff_ne];omega
 have g:(-2*x-1) / 2=-x-1:=by omega
 simp only[h,cF,g];rw[a0N (n:=-x-1) (by omega),a0D (n:=-x-1) (by omega),a0D (n:=0-(-x-1)) (by omega),a0D (by omega)];congr 1;omega
theorem c5A{k:Nat}(w:k≤25)(q:a0A x=true)(h:OkR P (b0E k x++R)):b3Z (rdr P (b0E k x++R),(k:Int))=some (x,(0:Int),rdr (P++b0E k x) R):=by
 have u:=a7i q;have g:=c8h q;unfold b3Z a0P;unfold b0E at h⊢;have r:∀A B:List Int,(rdr A B).2.2.1=0:=fun _ _=>rfl;split;rename_i l;rw[if_pos l,aA]at h;have e:=c4M (n:=a0M x / 2^k) (lm:=32) (by omega) (by omega) h;have i:=a3Q (n:=k) (v:=a0M x%2^k) (by omega) (a44 _ (a09 k)) h.shift;have d:wrap .u64 ((a0M x / 2^k:Nat):Int)=((a0M x / 2^k:Nat):Int):=a2m (by omega);have b:decide (((a0M x / 2^k:Nat):Int)<32)=true:=by simp only[dT];omega
 have c:decide ((k:Int)<0)=false:=by simp
 have p:a0M x / 2^k*2^k≤a0M x:=a84 _ _;have m:z0g .u64 ((a0M x / 2^k:Nat):Int) (k:Int)=((a0M x / 2^k*2^k:Nat):Int):=b3k (by omega) (by omega);have a:wrap .u64 (((a0M x / 2^k*2^k:Nat):Int)+((a0M x%2^k:Nat):Int))=((a0M x:Nat):Int):=by
  rw[←b04,Nat.div_add_mod',a0N (by omega)]
 rw[aA];have f:a1N (rdr P (unB (a0M x / 2^k)++(pb ((a0M x%2^k:Nat):Int) k++R)),(32:Int))=_:=e;simp only[f,oB,r,bne_self_eq_false,cF,d,b,cT,i,c,m,a,g];rw[aA];rename_i l;rw[if_neg l,aA]at h;have e:=c4M (n:=32) (lm:=32) (by omega) (by omega) h;have i:=a3Q (n:=32) (v:=a0M x) (by omega) (by omega) h.shift;have d:wrap .u64 (32:Int)=32:=a0N (by omega);have b:decide ((32:Int)<32)=false:=by simp
 have c:decide ((k:Int)<0)=false:=by simp
 have s:decide (((a0M x:Nat):Int)≥2147483648)=false:=by simp only[ge_iff_le,decide_eq_false_iff_not];omega
 have o:z0h .u64 ((a0M x:Nat):Int) (k:Int)=((a0M x / 2^k:Nat):Int):=a3O (by omega);have t:decide (((a0M x / 2^k:Nat):Int)<32)=false:=by simp only[decide_eq_false_iff_not];omega
 rw[aA];have f:a1N (rdr P (unB 32++(pb ((a0M x:Nat):Int) 32++R)),(32:Int))=some ((32:Int),_):=e;have j:a0I (rdr (P++unB 32) (pb ((a0M x:Nat):Int) 32++R),(32:Int))=_:=i;simp only[f,oB,r,bne_self_eq_false,cF,d,b,j,c,s,o,t,g];rw[aA]
def a3o(k:Nat)(l:List Int):List Int:=l.flatMap (b0E k)
theorem c1P{k:Nat}(g:k≤25):∀(l L:List Int),l.all a0A=true→a3m k l L=L++a3o k l
 | [],L,_=>by simp[a3m,a3o]
 |x::l,L,h=>by
  simp only[a07,bA]at h;show a3m k l (a5i k x L)=_;rw[c1P g l _ h.2,c8g g h.1];simp[a3o]
theorem b8a{k:Nat}(f:k≤25){N:Nat}(c:N<1000000):∀(l done P R:List Int),l.all a0A=true→done.length+l.length=N→OkR P (a3o k l++R)→
  x0r a9S ((k:Int),(N:Int),(done.length:Int),done,rdr P (a3o k l++R),())=some (Sum.inl (done++l,rdr (P++a3o k l) R,()))
 | [],done,P,R,_,hl,_=>by
  have:done.length=N:=by simpa using hl
  subst this;have d:decide ((done.length:Int)<(done.length:Int))=false:=by simp
  rw[a0F (b:=Sum.inl (done,rdr P R,())) (by simp only[a9S,d,cF];simp[a3o])];simp[a3o]
 |x::l,done,P,R,h,hl,hok=>by
  simp only[a07,bA]at h;rw[lC]at hl;have e:a3o k (x::l)++R=b0E k x++(a3o k l++R):=by simp[a3o]
  rw[e]at hok⊢;have d:decide ((done.length:Int)<(N:Int))=true:=by simp;omega
  have a:=c5A f h.1 hok;have g:lim (a58 done+1)=true:=a1b (by omega);have i:wrap .i64 ((done.length:Int)+1)=(((done++[x]).length:Nat):Int):=by rw[a0D (by omega)];simp
  rw[a0G (s':=((k:Int),(N:Int),(((done++[x]).length:Nat):Int),done++[x],rdr (P++b0E k x) (a3o k l++R),())) (by
   simp only[a9S,d,cT,a,oB,bne_self_eq_false,cF,g,i,a06])]
  rw[b8a f c l (done++[x]) (P++b0E k x) R h.2 (by simp;omega) hok.shift];simp[a3o]
theorem c5B{k:Nat}(c:k≤25)(h:l.all a0A=true)(d:l.length<1000000)(b:OkR P (a3o k l++R)):
  b4a (rdr P (a3o k l++R),(k:Int),((l.length:Nat):Int))=some (l,(0:Int),rdr (P++a3o k l) R):=by
 have hp:a1U (k:Int)=some true:=by
  unfold a1U;have f:decide ((k:Int)≥0)=true:=by simp
  have a:decide ((k:Int)≤25)=true:=by simp;omega
  simp[f,a]
 have f:decide (((l.length:Nat):Int)<0)=false:=by simp
 have a:decide (((l.length:Nat):Int) > 4194304)=false:=by simp;omega
 have e:∀A B:List Int,(rdr A B).2.2.1=0:=fun _ _=>rfl;have g:=b8a c d l [] P R h (by simp) b;simp only[a48,nZ,a19,a18]at g;unfold b4a a0P;simp only[hp,oB,bT,cF,f,a,e,bne_self_eq_false]
 erw[g]
 rfl
theorem c9k(h:inW x v=true):b6b v x:=by
 have hp:=a09 v;rcases b9d.1 h with rfl|⟨g,-,f,k⟩;exact⟨by omega,by omega⟩;have e:2^v=2^(v-1)*2:=by rw[←a89];congr 1;omega
 unfold b6b;rw[e];omega
theorem b7v(h:l.all a0A=true):∀x∈l,b6b (a0E l) x:=fun x g=>c9k (c4J h x g)
def sB(n:Nat)(l:List Int):List Int:=l.flatMap fun x=>pb (a0T x n) n
theorem b0R{n:Nat}(g:n≤62):∀(l L:List Int),a1p n l L=L++sB n l
 | [],L=>by simp[a1p,sB]
 |x::l,L=>by
  show a1p n l (a0K (a0T x n) n L)=_;obtain⟨v,hv,h,-⟩:=c3f g x;rw[b0R g l,hv,a2C (by omega) h,←hv];simp[sB]
theorem c2F(n:Nat)(x:Int)(l R:List Int):sB n (x::l)++R=pb (a0T x n) n++(sB n l++R):=by simp[sB]
theorem b6H{k:Int}{n:Nat}(f:n≤62){N:Nat}(c:N<1000000):∀(l done P R:List Int),(∀x∈l,b6b n x)→done.length+l.length=N→OkR P (sB n l++R)→
  x0r a9e (k,(n:Int),(N:Int),(done.length:Int),done,rdr P (sB n l++R),())=some (k,(n:Int),done++l,rdr (P++sB n l) R,())
 | [],done,P,R,_,hl,_=>by
  have:done.length=N:=by simpa using hl
  subst this;have d:decide ((done.length:Int)<(done.length:Int))=false:=by simp
  rw[a0F (b:=(k,(n:Int),done,rdr P R,())) (by simp only[a9e,d,cF];simp[sB])];simp[sB]
 |x::l,done,P,R,h,hl,hok=>by
  rw[lC]at hl;rw[c2F]at hok⊢;have d:decide ((done.length:Int)<(N:Int))=true:=by simp;omega
  have a:=b0Q f (h x (by simp)) hok;have g:lim (a58 done+1)=true:=a1b (by omega);have e:wrap .i64 ((done.length:Int)+1)=(((done++[x]).length:Nat):Int):=by rw[a0D (by omega)];simp
  rw[a0G (s':=(k,(n:Int),(N:Int),(((done++[x]).length:Nat):Int),done++[x],rdr (P++pb (a0T x n) n) (sB n l++R),())) (by
   simp only[a9e,d,cT,a,oB,g,e,a06])]
  rw[b6H f c l (done++[x]) _ R (fun y i=>h y (by simp[i])) (by simp;omega) hok.shift];simp[sB]
def b1J(k:Int)(part:List Int):List Int:=if k=31 then pb 31 5++(pb ((a0E part:Nat):Int) 5++sB (a0E part) part)else pb k 5++a3o k.toNat part
theorem c8i(a:kB k=true)(f:part.all a0A=true)(L:List Int):a7j k part L=L++b1J k part:=by
 have b:=a1W f;simp only[kB,a33,bA,dT,beq_iff_eq]at a;obtain⟨K,rfl⟩:=a02 (show 0≤k by omega);unfold a7j b1J;rw[a2m (by omega)];have g:=a2C (v:=K) (n:=5) (by omega) (by omega) L;split;rename_i h;rw[b0R (by omega),a2C (v:=a0E part) (n:=5) (by omega) (by omega),g,h]
 simp
 rw[c1P (by omega) _ _ f,g]
 simp
theorem c4N(o:kB k=true)(e:part.all a0A=true)(d:part.length<1000000)(h:OkR P (b1J k part++R)):
  b2J (rdr P (b1J k part++R),((part.length:Nat):Int))=some (k,part,(0:Int),rdr (P++b1J k part) R):=by
 have q:=a1W e;have i:∀A B:List Int,(rdr A B).2.2.1=0:=fun _ _=>rfl;simp only[kB,a33,bA,dT,beq_iff_eq]at o;obtain⟨K,rfl⟩:=a02 (show 0≤k by omega);unfold b2J a0P;unfold b1J at h⊢;split;rename_i f;rw[if_pos f,aA,aA]at h;rw[aA,aA];obtain rfl:K=31:=by omega
 have c:a0I (rdr P (pb 31 5++(pb ((a0E part:Nat):Int) 5++(sB (a0E part) part++R))),(5:Int))=_:=a3Q (v:=31) (n:=5) (by omega) (by omega) h;have g:=h.shift;have l:a0I (rdr (P++pb 31 5) (pb ((a0E part:Nat):Int) 5++(sB (a0E part) part++R)),(5:Int))=_:=a3Q (v:=a0E part) (n:=5) (by omega) (by omega) g;have a:=b6H (k:=31) (n:=a0E part) (by omega) d part [] _ R (b7v e) (by simp) g.shift;simp only[a48,nZ,a19,a18]at a;have j:wrap .i64 ((31:Nat):Int)=31:=by decide
 have w2:wrap .i64 ((a0E part:Nat):Int)=((a0E part:Nat):Int):=a0D (by omega);have b:decide ((31:Int)≤25)=false:=by decide
 have r:((31:Int) != 31)=false:=by decide
 rw[c];simp only[oB,i,bne_self_eq_false,cF,j,b]
 erw[l]
 simp only[oB,w2]
 erw[a]
 simp only[oB,i,bne_self_eq_false,cF,a2l (show short part from d)]
 simp
 rename_i f;rw[if_neg f,aA]at h;rw[aA];have m:K≤25:=by omega
 have c:a0I (rdr P (pb (K:Int) 5++(a3o ((K:Int).toNat) part++R)),(5:Int))=_:=a3Q (v:=K) (n:=5) (by omega) (by omega) h;have p:=c5B m e d h.shift;have j:wrap .i64 (K:Int)=(K:Int):=a0D (by omega);have b:decide ((K:Int)≤25)=true:=by simp;omega
 rw[c];simp only[oB,i,bne_self_eq_false,cF,j,b,cT]
 erw[p]
 simp
def a1S:List Nat→List Int→List Int→List Int
 |z::zs,k::ks,l=>b1J k (l.take z)++a1S zs ks (l.drop z)
 |_,_,_=>[]
theorem c3g(h:l.all a0A=true)(z:Nat):(l.take z).all a0A=true:=lA.2 fun x g=>lA.1 h x (a23 g)
theorem c3h(h:l.all a0A=true)(z:Nat):(l.drop z).all a0A=true:=lA.2 fun x g=>lA.1 h x (a24 g)
theorem c1Q:∀(zs:List Nat)(ks l L:List Int),ks.all kB=true→l.all a0A=true→a3n zs ks l L=L++a1S zs ks l
 |z::zs,k::ks,l,L,hk,hw=>by
  simp only[a07,bA]at hk;simp only[a3n,a1S];rw[c1Q zs ks _ _ hk.2 (c3h hw z),c8i hk.1 (c3g hw z)]
  simp
 | [],_,_,L,_,_=>by simp[a3n,a1S]
 |_::_,[],_,L,_,_=>by simp[a3n,a1S]
theorem c8j(h:List Nat)(z:Nat)(g:List Nat):(a1g (h++z::g)).getD h.length 0=(z:Int):=by
 simp_all[a1g]
theorem b6I{o:Int}{z0:Prt}:∀(zs:List Nat)(ks l dk acc P R:List Int)(dz:List Nat),ks.length=zs.length→ks.all kB=true→zs.sum=l.length→l.all a0A=true→
  dk.length=dz.length→(dz++zs).length≤256→acc.length+l.length≤10000→OkR P (a1S zs ks l++R)→
  x0r a9f (((a1g (dz++zs)).length:Int),(dz.length:Int),acc,a1g (dz++zs),rdr P (a1S zs ks l++R),z0,(o,dk,()),()) =
   some (Sum.inl (acc++l,z0,(o,dk++ks,()),rdr (P++a1S zs ks l) R,()))
 | [],ks,l,dk,acc,P,R,dz,hk,_,hs,_,_,_,_,_=>by
  obtain rfl:ks=[]:=a52.1 hk;obtain rfl:l=[]:=a52.1 (by simp_all);have d:decide ((dz.length:Int)<((a1g (dz++[])).length:Int))=false:=by simp[a1e]
  rw[a0F (b:=Sum.inl (acc,z0,(o,dk,()),rdr P R,())) (by simp only[a9f,d,cF];rfl)];simp[a1S]
 |z::zs,[],_,_,_,_,_,_,hk,_,_,_,_,_,_,_=>by simp_all
 |z::zs,k::ks,l,dk,acc,P,R,dz,hk,hkb,hs,hw,hd,h256,hacc,hok=>by
  simp only[a07,bA]at hkb;rw[a68]at hs;have p:z≤l.length:=by omega
  have a:(l.take z).length=z:=by simp_all
  have e:a1S (z::zs) (k::ks) l++R=b1J k (l.take z)++(a1S zs ks (l.drop z)++R):=by simp[a1S]
  rw[e]at hok⊢;have j:(a1g (dz++z::zs)).length=dz.length+1+zs.length:=by grind[a1e]
  have d:decide ((dz.length:Int)<((a1g (dz++z::zs)).length:Int))=true:=by grind
  have m:decide ((0:Int)≤(dz.length:Int))=true:=by simp
  have h:=c4N hkb.1 (c3g hw z) (by omega) hok;rw[a]at h;have i:((0:Int) != 0)=false:=rfl;rw[lN,lC]at h256;have g:lim (a58 dk+1)=true:=a1b (by omega);have f:lim (a58 acc+a58 (l.take z))=true:=a1b (by omega);have c:wrap .i64 ((dz.length:Int)+1)=(((dz++[z]).length:Nat):Int):=by grind[a0D]
  have n:dz++z::zs=(dz++[z])++zs:=by simp
  rw[a0G (s':=(((a1g ((dz++[z])++zs)).length:Int),(((dz++[z]).length:Nat):Int),acc++l.take z,a1g ((dz++[z])++zs),rdr (P++b1J k (l.take z)) (a1S zs ks (l.drop z)++R),z0,(o,dk++[k],()),())) (by
   simp only[a9f,d,m,a03,cT,tN,c8j,h,oB,i,cF,g,f,c,a06]
   simp)]
  rw[b6I zs ks (l.drop z) (dk++[k]) (acc++l.take z) _ R (dz++[z]) (by grind) hkb.2 (by grind) (c3h hw z) (by grind) (by grind) (by grind) hok.shift];simp[a1S]
def a6L(p:Prt)(zn:List Nat)(l:List Int):List Int:=pb p.1 4++a1S zn p.2.1 l
theorem c3M(h:PartsOk p n warm l zn)(L:List Int):a1V p zn l L=L++a6L p zn l:=by
 obtain⟨o,ks,u⟩:=p;have g:=h.order;simp only at g;obtain⟨O,rfl⟩:=a02 g.1;unfold a1V a6L;simp only;rw[a2m (by omega),a2C (n:=4) (by omega) (by omega),c1Q _ _ _ _ h.all h.wide]
 simp
theorem c4O(h:PartsOk p n warm l zn)(g:OkR P (a6L p zn l++R)):
  b2K (rdr P (a6L p zn l++R),n,warm)=some (p,l,(0:Int),rdr (P++a6L p zn l) R):=by
 obtain⟨o,ks,u⟩:=p;have c:=h.order;have m:=h.short;have b:=h.len;simp only at c;obtain⟨O,rfl⟩:=a02 c.1;have i:∀A B:List Int,(rdr A B).2.2.1=0:=fun _ _=>rfl;have f:=h.may;unfold a2U at f;simp only[bA,a34,beq_eq_false_iff_ne]at f;have d:=h.sizes;simp only at d;have a:(((a1g zn).length:Int)==0)=false:=by
  grind
 unfold a6L at g⊢;simp only at g⊢;rw[aA]at g⊢;have e:a0I (rdr P (pb (O:Int) 4++(a1S zn ks l++R)),(4:Int))=_:=a3Q (v:=O) (n:=4) (by omega) (by omega) g;have j:wrap .i64 (O:Int)=(O:Int):=a0D (by omega);have k:=b6I (o:=(O:Int)) (z0:=((0:Int),([]:List Int),())) zn ks l [] [] _ R [] h.ks h.all h.sum h.wide rfl (by simp_all) (by grind) g.shift;simp only[a48,nZ,a19,a18]at k;unfold b2K a0P;simp[b4P,h.row];rw[e];simp[i,j,a1Z,d,a];simp_all
def a7K(s:Sub):List Int:=
 pb ((s.2.2.2.2.2.1.length-1:Nat):Int) 5++(pb s.2.2.2.1 4++(pb ((a0E s.2.2.2.2.2.1:Nat):Int) 5++sB (a0E s.2.2.2.2.2.1) s.2.2.2.2.2.1))
theorem c3i{t:Int}(h:a4X c t=true):1≤c.length∧c.length≤32∧0≤t∧t≤15∧c.all a0A=true:=by
 simp only[a4X,bA,dT]at h;obtain⟨g,f,k,a,b⟩:=h;refine⟨g,f,k,a,lA.2 fun x d=>?_⟩
 have:=lA.1 b x d
 simp[b5v]at this;rw[a1H];omega
theorem c1R(h:a4X s.2.2.2.2.2.1 s.2.2.2.1=true)(L:List Int):a3P s L=L++a7K s:=by
 obtain⟨a,b,g,d,f⟩:=c3i h;have k:=a1W f;unfold a3P a7K;generalize s.2.2.2.2.2.1=c at *;generalize s.2.2.2.1=t at *;obtain⟨T,rfl⟩:=a02 g
 grind[a0D,a0N,b0R,a2C]
def b7w(s:Sub)(c:List Int):Sub:=(s.1,s.2.1,s.2.2.1,s.2.2.2.1,s.2.2.2.2.1,c,s.2.2.2.2.2.2)
def c2G(s:Sub)(t:Int):Sub:=(s.1,s.2.1,s.2.2.1,t,s.2.2.2.2)
theorem c1S{n:Nat}(g:n≤62){N:Nat}(f:N<1000000)(s:Sub):∀(l done P R:List Int),(∀x∈l,b6b n x)→done.length+l.length=N→OkR P (sB n l++R)→
  x0r a6i ((n:Int),(N:Int),(done.length:Int),rdr P (sB n l++R),b7w s done,())=some ((n:Int),b7w s (done++l),rdr (P++sB n l) R,())
 | [],done,P,R,_,hl,_=>by
  have:done.length=N:=by omega
  subst this;have d:decide ((done.length:Int)<(done.length:Int))=false:=by simp
  simp_all[a0F,a6i,sB]
 |x::l,done,P,R,h,hl,hok=>by
  rw[lC]at hl;rw[c2F]at hok⊢;have d:decide ((done.length:Int)<(N:Int))=true:=by grind
  have a:=b0Q g (h x (by simp)) hok;have k:lim (a58 done+1)=true:=a1b (by omega);have b:wrap .i64 ((done.length:Int)+1)=(((done++[x]).length:Nat):Int):=by grind[a0D]
  rw[a0G (s':=((n:Int),(N:Int),(((done++[x]).length:Nat):Int),rdr (P++pb (a0T x n) n) (sB n l++R),b7w s (done++[x]),())) (by
   simp_all[a6i,b7w])]
  rw[c1S g f s l (done++[x]) _ R (fun y c=>h y (by grind)) (by grind) hok.shift];simp[sB]
theorem b9P{s0:Sub}(h:a4X s.2.2.2.2.2.1 s.2.2.2.1=true)(r:s0.2.2.2.2.2.1=[])(g:OkR P (a7K s++R)):
  a9d (rdr P (a7K s++R),s0)=some (true,rdr (P++a7K s) R,b7w (c2G s0 s.2.2.2.1) s.2.2.2.2.2.1):=by
 obtain⟨u,w,l,x,d⟩:=c3i h;have m:=a1W d;unfold a7K at g⊢;generalize s.2.2.2.2.2.1=c at *;generalize s.2.2.2.1=t at *;obtain⟨T,rfl⟩:=a02 l;simp at g⊢;have e:a0I (rdr P (pb ((c.length-1:Nat):Int) 5++(pb (T:Int) 4++(pb ((a0E c:Nat):Int) 5++(sB (a0E c) c++R)))),(5:Int))=_:=a3Q (v:=c.length-1) (n:=5) (by omega) (by omega) g;have f:=g.shift;have i:a0I (rdr (P++pb ((c.length-1:Nat):Int) 5) (pb (T:Int) 4++(pb ((a0E c:Nat):Int) 5++(sB (a0E c) c++R))),(4:Int))=_:=a3Q (v:=T) (n:=4) (by omega) (by omega) f;have k:=f.shift;have j:a0I (rdr (P++pb ((c.length-1:Nat):Int) 5++pb (T:Int) 4) (pb ((a0E c:Nat):Int) 5++(sB (a0E c) c++R)),(5:Int))=_:=a3Q (v:=a0E c) (n:=5) (by omega) (by omega) k;have a:=c1S (n:=a0E c) (by omega) (N:=c.length) (by omega) (c2G s0 (T:Int)) c [] _ R (b7v d) (by simp) k.shift;simp only[a48,nZ,a19,a18]at a;have o:wrap .i64 ((c.length-1:Nat):Int)=((c.length-1:Nat):Int):=a0D (by omega);have w2:wrap .i64 (((c.length-1:Nat):Int)+1)=(c.length:Int):=by grind[a0D]
 have p:wrap .i64 (T:Int)=(T:Int):=a0D (by omega);have q:wrap .i64 ((a0E c:Nat):Int)=((a0E c:Nat):Int):=a0D (by omega);have b:((s0.1,s0.2.1,s0.2.2.1,(T:Int),s0.2.2.2.2):Sub)=b7w (c2G s0 (T:Int)) []:=by
  grind[b7w,c2G]
 unfold a9d;rw[e]
 simp
 rw[i];simp only[oB];rw[j];simp only[oB,o,w2,p,q]
 erw[b,a]
 simp only[oB];rw[show(b7w (c2G s0 (T:Int)) c).2.2.2.2.2.1=c from rfl,a2l (show short c by unfold short;omega)]
 simp
end Go.Ab
