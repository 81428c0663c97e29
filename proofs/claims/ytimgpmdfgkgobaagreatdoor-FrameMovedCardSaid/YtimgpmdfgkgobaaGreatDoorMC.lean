/- Part of the proof: LibZJA. Conditions: as each statement tells. -/
import Derived.OrdersIn
import Derived.OpenShut
import Derived.Deep.Slices
import Derived.ChangeSame
import Derived.WideKeyArgs
import Derived.RowKit
import Derived.Laws.StructEq
import Derived.ChangeKeysEq
import Derived.RangeFuncNested
import Derived.RangeFuncLeaves
import Derived.Test.YtimgpmdfgkgobaaGreatDoorMB
noncomputable section
set_option linter.unusedSimpArgs false
set_option linter.unusedVariables false
open Array renaming getD_eq_getD_getElem?→a00,getElem?_eq_some_iff→a22,getElem?_setIfInBounds_ne→a32,getElem?_setIfInBounds_self_of_lt→a38,replicate→a50,getElem?_eq_getElem→a59,getElem?_append→a69,getElem?_toList→a70,toArray_toList→a75,toList_append→a77,length_toList→a79,all_toList→a89
open Bool renaming false_eq_true→a03,not_eq_true'→a18,and_eq_true_iff→a21,true_and→a46,or_eq_true→a48,true_or→a52,false_and→a72,and_true→a76,not_false→a94
open List renaming getElem?_cons_zero→a01,mem_cons_of_mem→a05,mem_append_right→a06,mem_range→a07,mem_filter→a08,mem_append_left→a16,map_congr_left→a17,mem_map→a19,contains_iff_mem→a20,getElem?_eq_none→a23,length→a24,mem_cons_self→a27,append_nil→a28,all_cons→a29,map_cons→a30,mem_filterMap→a33,mem_of_getElem?→a36,range_eq_range'→a37,getElem?_append_left→a41,mem_singleton→a42,getElem?_map→a44,range→a45,mem_flatMap→a47,getElem?_drop→a53,map_id→a54,getElem?_append_right→a55,range'→a56,filter_congr→a58,sum_cons→a60,getElem?_take_of_lt→a61,mem_reverse→a62,map_nil→a63,nil_append→a64,length_map→a65,append→a66,length_singleton→a67,mem_iff_getElem?→a68,replicate→a71,range'_append_1→a73,contains_eq_mem→a74,mem_map_of_mem→a78,filter_append→a82,map_map→a83,zipWith→a84,ext_getElem?→a85,cons_append→a86,filter_cons→a88,length_take→a91,length_zip→a93
open Nat renaming lt_of_lt_of_le→a09,le_trans→a26,le_refl→a34,add_zero→a35,zero_add→a43,add_assoc→a80,le_of_not_lt→a90,mul_one→a92
open Option renaming isSome_iff_exists→a02,elim→a04,bind_eq_some_iff→a25,isSome_iff_ne_none→a31,getD_some→a39,isNone_iff_eq_none→a40,map_some→a49,ite_none_right_eq_some→a51,ne_none_iff_exists'→a57,isNone_none→a81,bind_none→a87
namespace Go.Ab
structure Dl where
 rs:List (Nat×Root)
 sv:SV
def Dl.app(δ:Dl)(d:Nat)(Γ:AE):AE:=⟨fun i=>bif i==d then δ.sv else Γ.sl i,fun n=>match find δ.rs n with|some r=>some r|none=>Γ.rt n,Γ.pd⟩
def a0y(o:Oper):List Nat:=o.op.operands.toList.filterMap fun x=>match x with|.tmp t=>some t|_=>none
def a1V(T:List Nat)(Γ Γ2:AE):Prop:=Γ2.pd=Γ.pd∧∀t∈T,Γ2.sl t=Γ.sl t∧∀n∈(Γ.sl t).refs,Γ2.rt n=Γ.rt n
theorem a1V.refl{T Γ}:a1V T Γ Γ:=⟨rfl,fun _ _=>⟨rfl,fun _ _=>rfl⟩⟩
theorem a3f{o:Oper}{t:Nat}(h:Operand.tmp t∈o.op.operands.toList):t∈a0y o:=a33.2 ⟨_,h,rfl⟩
theorem a1V.opd{o:Oper}{Γ Γ2:AE}(hA:a1V (a0y o) Γ Γ2){x:Operand}(hx:x∈o.op.operands.toList):Γ2.opd x=Γ.opd x:=by
 cases x with
 |tmp t=>simp only[AE.opd,AE.get];rw[(hA.2 t (a3f hx)).1]
 |_=>rfl
theorem a1V.rt{o:Oper}{Γ Γ2:AE}(hA:a1V (a0y o) Γ Γ2){x:Operand}(hx:x∈o.op.operands.toList){n:Nat}(hn:n∈(Γ.opd x).refs):Γ2.rt n=Γ.rt n:=by
 cases x with
 |tmp t=>
  refine(hA.2 t (a3f hx)).2 n ?_
  simp only[AE.opd,AE.get]at hn
  revert hn
  cases Γ.sl t with
  |one v=>exact id
  |cmp c vs=>exact fun h=>by cases h
 |const v=>
  simp only[AE.opd]at hn;unfold b7B at hn
  split at hn<;>cases hn
 |global g=>cases hn
 |func f=>cases hn
theorem a1V.look{o:Oper}{Γ Γ2:AE}(hA:a1V (a0y o) Γ Γ2){x:Operand}(hx:x∈o.op.operands.toList){n:Nat}(hn:n∈(Γ.opd x).refs):Γ2.look n=Γ.look n:=by
 simp only[AE.look,hA.1,hA.rt hx hn]
def c0k{ρ:Type}(r:Option Dl)(d:Nat)(Γ2:AE)(K:AE→Rs ρ):Rs ρ:=match r with
 |none=>none
 |some δ=>bif δ.rs.all fun p=>decide (p.1<pinned)&&(Γ2.rt p.1).isNone then K (δ.app d Γ2)else none
def Uni(cx:Cx)(o:Oper)(d:Nat)(Γ:AE):Prop:=
 ∃r:Option Dl,(∀δ,r=some δ→(δ.sv.firm=true→δ.rs=[])∧∀n,find δ.rs n≠none→n∈a8u cx o d)∧∀Γ2,a1V (a0y o) Γ Γ2→∀{ρ:Type}(K:AE→Rs ρ),aop cx true o Γ2 K=c0k r d Γ2 K
theorem Uni.none{cx o d Γ}(h:∀Γ2,a1V (a0y o) Γ Γ2→∀{ρ:Type}(K:AE→Rs ρ),aop cx true o Γ2 K=none):Uni cx o d Γ:=
 ⟨.none,by simp,fun Γ2 hA ρ K=>h Γ2 hA K⟩
theorem Uni.put{cx o d Γ}(sv:SV)(h:∀Γ2,a1V (a0y o) Γ Γ2→∀{ρ:Type}(K:AE→Rs ρ),aop cx true o Γ2 K=K (Γ2.put d sv)):Uni cx o d Γ:=
 ⟨some ⟨[],sv⟩,fun δ e=>by cases e;exact⟨fun _=>rfl,fun n hn=>absurd rfl hn⟩,fun Γ2 hA ρ K=>by rw[h Γ2 hA K];rfl⟩
theorem Uni.of{cx o d Γ}(r:Option AV)(h:∀Γ2,a1V (a0y o) Γ Γ2→∀{ρ:Type}(K:AE→Rs ρ),aop cx true o Γ2 K=r.elim .none fun v=>K (Γ2.set d v)):Uni cx o d Γ:=by
 cases r with
 |none=>exact Uni.none h
 |some v=>exact Uni.put (.one v) h
theorem d6w{ρ:Type}{Γ2:AE}{d:Nat}{r:Root}{v:AV}{K:AE→Rs ρ}:(Γ2.fresh true d r fun Γ=>K (Γ.set d v))=c0k (some ⟨[(d,r)],.one v⟩) d Γ2 K:=by
 unfold AE.fresh c0k;cases hd:decide (d<pinned);simp[hd]
 ·simp only[cT,a29,List.all_nil,a76,hd,a46];cases hr:Γ2.rt d with
  |some r0=>simp
  |none=>
   simp only[a81,cT];congr 1;simp only[AE.newRt,hr,AE.setRt,AE.set,AE.put,Dl.app];congr 1;funext n;simp only[find]
   by_cases e:n=d
   subst e;simp;have e1:(n==d)=false:=by simpa using e
   have e2:(d==n)=false:=by simpa using(Ne.symm e)
   simp[e1,e2]
theorem Uni.ofFresh{cx o d Γ}(r:Root)(v:AV)(hv:v.firm=false)(h:∀Γ2,a1V (a0y o) Γ Γ2→∀{ρ:Type}(K:AE→Rs ρ),aop cx true o Γ2 K=Γ2.fresh true d r fun Γ=>K (Γ.set d v)):Uni cx o d Γ:=
 ⟨some ⟨[(d,r)],.one v⟩,(fun δ e=>by
  cases e;refine⟨fun hf=>?_,fun n hn=>?_⟩;simp only[SV.firm,hv]at hf;cases hf;simp only[find]at hn
  by_cases e:d=n
  subst e;exact a27
  have:(d==n)=false:=by simpa using e
  simp[this]at hn),fun Γ2 hA ρ K=>by rw[h Γ2 hA K];exact d6w⟩
def a6G(t:Ty)(a:AV):Option t.den:=match a with
 |.val t' x=>castTo t' t x
 |.nils|.empt=>match t with
  |.list false _=>some []
  |_=>none
 |_=>none
theorem c1l{ρ:Type}(Γ:AE)(t:Ty)(a:AV)(K:t.den→AE→Rs ρ):Γ.asV true t a K=(a6G t a).elim none fun x=>K x Γ:=by
 cases a with
 |val t' x=>simp only[AE.asV,a6G];cases castTo t' t x<;>rfl
 |nils=>cases t with
  |list o e=>cases o<;>rfl
  |_=>rfl
 |empt=>cases t with
  |list o e=>cases o<;>rfl
  |_=>rfl
 |sref n p=>cases p<;>simp[AE.asV,a6G]
 |swin n p o k=>cases p<;>simp[AE.asV,a6G]
 |_=>rfl
def b0u(f:Operand→AV)(t:Ty):List (Nat×Operand)→t.den→Option t.den
 | [],x=>some x
 |(i,o)::r,x=>bif AE.pathOk t i then(match a1a t x (AE.pathOf t i)with
  |⟨t',_⟩=>(a6G t' (f o)).elim none fun y=>b0u f t r (a1F t x (AE.pathOf t i) t' y))else none
theorem c4Q{ρ:Type}(Γ:AE)(t:Ty):∀(ps:List (Nat×Operand)) (x:t.den) (K:t.den→AE→Rs ρ),Γ.fills true t ps x K=(b0u Γ.opd t ps x).elim none fun y=>K y Γ
 | [],x,K=>rfl
 |(i,o)::r,x,K=>by
  simp only[AE.fills,b0u];cases AE.pathOk t i;rfl
  ·simp only[cT];rw[c1l];cases a6G _ (Γ.opd o)with
   |none=>rfl
   |some y=>exact c4Q Γ t r _ K
theorem b5z(f g:Operand→AV)(t:Ty):∀(ps:List (Nat×Operand)) (x:t.den),(∀p∈ps,f p.2=g p.2)→b0u f t ps x=b0u g t ps x
 | [],x,_=>rfl
 |(i,o)::r,x,h=>by
  simp only[b0u];rw[h (i,o) (by simp)];cases AE.pathOk t i;rfl
  ·simp only[cT];cases a6G _ (g o)with
   |none=>rfl
   |some y=>exact b5z f g t r _ fun p hp=>h p (by simp[hp])
def c2A(f:Operand→AV)(e:Ty)(n:Nat):List (Nat×Operand)→List e.den→Option (List e.den)
 | [],x=>some x
 |(i,o)::r,x=>bif decide (i<n)then(a6G e (f o)).elim none fun y=>c2A f e n r (x.set i y)else none
theorem d0Y{ρ:Type}(Γ:AE)(e:Ty)(n:Nat):∀(ps:List (Nat×Operand)) (x:List e.den) (K:List e.den→AE→Rs ρ),Γ.lit true e n ps x K=(c2A Γ.opd e n ps x).elim none fun y=>K y Γ
 | [],x,K=>rfl
 |(i,o)::r,x,K=>by
  simp only[AE.lit,c2A];cases decide (i<n);rfl
  ·simp only[cT];rw[c1l];cases a6G _ (Γ.opd o)with
   |none=>rfl
   |some y=>exact d0Y Γ e n r _ K
theorem b8G(f g:Operand→AV)(e:Ty)(n:Nat):∀(ps:List (Nat×Operand)) (x:List e.den),(∀p∈ps,f p.2=g p.2)→c2A f e n ps x=c2A g e n ps x
 | [],x,_=>rfl
 |(i,o)::r,x,h=>by
  simp only[c2A];rw[h (i,o) (by simp)];cases decide (i<n);rfl
  ·simp only[cT];cases a6G _ (g o)with
   |none=>rfl
   |some y=>exact b8G f g e n r _ fun p hp=>h p (by simp[hp])
def a6g(lk:Nat→Option Root)(n:Nat)(p:a0P):Option ((e:Ty)×List e.den):=match lk n with
 |some r=>match a1a r.t r.x p with
  |⟨.list true e,l⟩=>some ⟨e,l⟩
  |_=>none
 |none=>none
theorem a4O{ρ:Type}(Γ:AE)(n:Nat)(p:a0P)(K:(e:Ty)→List e.den→Rs ρ):Γ.body n p K=(a6g Γ.look n p).elim none fun x=>K x.1 x.2:=by
 unfold AE.body a6g;cases Γ.look n with
 |none=>rfl
 |some r=>
  simp only[];generalize a1a r.t r.x p=X;obtain⟨tt,l⟩:=X;cases tt with
  |list o e=>cases o<;>rfl
  |_=>rfl
def b0K(lk:Nat→Option Root)(t:Ty)(a:AV):Option t.den:=match a with
 |.val t' x=>castTo t' t x
 |.nils|.empt=>match t with
  |.list false _=>some []
  |_=>none
 |.sref n p=>(a6g lk n p).elim none fun x=>if h:Ty.list false x.1.sh=t then some (h▸Ty.shx (.list false x.1) x.2)else none
 |.swin n p o k=>(a6g lk n p).elim none fun x=>if h:Ty.list false x.1.sh=t then some (h▸Ty.shx (.list false x.1) ((x.2.drop o).take k))else none
 |_=>none
theorem d3d{ρ:Type}(Γ:AE)(t:Ty)(a:AV)(K:t.den→Rs ρ):Γ.view t a K=(b0K Γ.look t a).elim none K:=by
 cases a with
 |val t' x=>simp only[AE.view,b0K];cases castTo t' t x<;>rfl
 |nils=>cases t with
  |list o e=>cases o<;>rfl
  |_=>rfl
 |empt=>cases t with
  |list o e=>cases o<;>rfl
  |_=>rfl
 |sref n p=>
  simp only[AE.view,b0K,a6g];cases Γ.look n with
  |none=>rfl
  |some r=>
   simp only[];generalize a1a r.t r.x p=X;obtain⟨tt,l⟩:=X;cases tt with
   |list o e=>
    cases o;rfl;simp only[a04];split<;>rfl
   |_=>rfl
 |swin n p o k=>
  simp only[AE.view,b0K,a6g];cases Γ.look n with
  |none=>rfl
  |some r=>
   simp only[];generalize a1a r.t r.x p=X;obtain⟨tt,l⟩:=X;cases tt with
   |list o e=>
    cases o;rfl;simp only[a04];split<;>rfl
   |_=>rfl
 |_=>rfl
theorem a5f{lk lk':Nat→Option Root}{n:Nat}(h:lk' n=lk n)(p:a0P):a6g lk' n p=a6g lk n p:=by simp only[a6g,h]
theorem c1A{lk lk':Nat→Option Root}{t:Ty}{a:AV}(h:∀n∈a.refs,lk' n=lk n):b0K lk' t a=b0K lk t a:=by
 cases a with
 |sref n p=>simp only[b0K];rw[a5f (h n (by simp[AV.refs]))]
 |swin n p o k=>simp only[b0K];rw[a5f (h n (by simp[AV.refs]))]
 |_=>rfl
def a9m(lk:Nat→Option Root)(e:Ty)(a:AV):Option (List e.den):=match a with
 |.val (.list false t') x=>if h:t'=e then some (h▸(show List t'.den from x))else none
 |.nils|.empt=>some []
 |.sref n p=>(a6g lk n p).elim none fun x=>if h:x.1=e then some (h▸x.2)else none
 |.swin n p o k=>(a6g lk n p).elim none fun x=>if h:x.1=e then some (List.take k (List.drop o (h▸x.2)))else none
 |_=>none
theorem b5j{ρ:Type}(Γ:AE)(e:Ty)(a:AV)(K:List e.den→Rs ρ):Γ.elems e a K=(a9m Γ.look e a).elim none K:=by
 cases a with
 |val t' x=>cases t' with
  |list o t'=>
   cases o;simp only[AE.elems,a9m];split<;>rfl;rfl
  |_=>rfl
 |sref n p=>
  simp only[AE.elems,a9m,a6g];cases Γ.look n with
  |none=>rfl
  |some r=>
   simp only[];generalize a1a r.t r.x p=X;obtain⟨tt,l⟩:=X;cases tt with
   |list o e=>
    cases o;rfl;simp only[a04];split<;>rfl
   |_=>rfl
 |swin n p o k=>
  simp only[AE.elems,a9m,a6g];cases Γ.look n with
  |none=>rfl
  |some r=>
   simp only[];generalize a1a r.t r.x p=X;obtain⟨tt,l⟩:=X;cases tt with
   |list o e=>
    cases o;rfl;simp only[a04];split<;>rfl
   |_=>rfl
 |_=>rfl
theorem b5A{lk lk':Nat→Option Root}{e:Ty}{a:AV}(h:∀n∈a.refs,lk' n=lk n):a9m lk' e a=a9m lk e a:=by
 cases a with
 |sref n p=>simp only[a9m];rw[a5f (h n (by simp[AV.refs]))]
 |swin n p o k=>simp only[a9m];rw[a5f (h n (by simp[AV.refs]))]
 |val t' x=>cases t' with
  |list o t'=>cases o<;>rfl
  |_=>rfl
 |_=>rfl
theorem c0l{β γ:Type}{c:Bool}{v:β}{K:β→Option γ}:(bif c then K v else none)=(bif c then some v else none:Option β).elim none K:=by cases c<;>rfl
section
variable {cx:Cx} {o:Oper} {d:Nat} {Γ:AE}
theorem d4x{x:Operand}(ho:o.op=.move x)(hd:o.dst=some d):Uni cx o d Γ:=by
 have hx:x∈o.op.operands.toList:=by simp[ho,Op.operands]
 cases x with
 |tmp t=>exact Uni.put (Γ.sl t) fun Γ2 hA ρ K=>by simp only[aop,ho,hd];rw[(hA.2 t (a3f hx)).1]
 |const v=>exact Uni.put (.one (Γ.opd (.const v))) fun Γ2 hA ρ K=>by simp only[aop,ho,hd];rfl
 |global g=>exact Uni.put (.one (.glob g)) fun Γ2 hA ρ K=>by simp only[aop,ho,hd];rfl
 |func f=>exact Uni.put (.one .dead) fun Γ2 hA ρ K=>by simp only[aop,ho,hd];rfl
theorem d5K{ρ:Type}(Γ:AE)(v:AV)(K:AE→Rs ρ):Γ.asg true cx d v K=K (Γ.set d v):=by
 unfold AE.asg;split;rename_i r;split;cases hrd:(r==d)
 simp
 simp
 rfl;rename_i r k;split
 simp
 rfl;rfl
theorem d0Z{x:Operand}(ho:o.op=.assign x)(hd:o.dst=some d):Uni cx o d Γ:=by
 have hx:x∈o.op.operands.toList:=by simp[ho,Op.operands]
 cases x with
 |tmp t=>
  have hs:∀Γ2,a1V (a0y o) Γ Γ2→Γ2.sl t=Γ.sl t:=fun Γ2 hA=>(hA.2 t (a3f hx)).1;cases hv:Γ.sl t with
  |one v=>exact Uni.put (.one v) fun Γ2 hA ρ K=>by simp only[aop,ho,hd,AE.sopd,hs Γ2 hA,hv];rw[d5K];rfl
  |cmp c vs=>exact Uni.put (.cmp c vs) fun Γ2 hA ρ K=>by simp only[aop,ho,hd,AE.sopd,hs Γ2 hA,hv]
 |_=>exact Uni.put (.one (Γ.opd _)) fun Γ2 hA ρ K=>by simp only[aop,ho,hd,AE.sopd];rw[d5K,hA.opd hx];rfl
theorem c7M{fn:Fn}{first caps:Array Operand}(ho:o.op=.makeFunc fn first caps)(hd:o.dst=some d):Uni cx o d Γ:=by
 cases fn with
 |func f=>
  cases hf:first.isEmpty with
  |false=>exact Uni.none fun Γ2 hA ρ K=>by simp only[aop,ho,hd,hf,cF]
  |true=>
   refine Uni.put (.cmp (.clo f) (caps.toList.map Γ.opd)) fun Γ2 hA ρ K=>?_
   simp only[aop,ho,hd,hf,cT]
   have:caps.toList.map Γ2.opd=caps.toList.map Γ.opd:=a17 fun x hx=>hA.opd (by
    rw[ho];simp only[Op.operands];simpa using .inr (by simpa using hx))
   rw[this]
 |_=>exact Uni.none fun Γ2 hA ρ K=>by simp only[aop,ho,hd]
theorem d7p{ρ:Type}(c x y:AV)(K:AV→Rs ρ):c1g c x y K=(c1g c x y some).elim none K:=by
 unfold c1g;split;rename_i b;split;rfl;cases b<;>rfl;cases b<;>rfl;rfl;rfl
theorem d4y{c x y:Operand}(ho:o.op=.pick c x y)(hd:o.dst=some d):Uni cx o d Γ:=by
 have hc:c∈o.op.operands.toList:=by simp[ho,Op.operands]
 have hx:x∈o.op.operands.toList:=by simp[ho,Op.operands]
 have hy:y∈o.op.operands.toList:=by simp[ho,Op.operands]
 refine Uni.of (c1g (Γ.opd c) (Γ.opd x) (Γ.opd y) some) fun Γ2 hA ρ K=>?_
 simp only[aop,ho,hd,hA.opd hc,hA.opd hx,hA.opd hy];exact d7p _ _ _ _
theorem d3e{t:TypeId}(ho:o.op=.alloc t)(hd:o.dst=some d):Uni cx o d Γ:=by
 cases ht:cx.own d t with
 |none=>exact Uni.none fun Γ2 hA ρ K=>by simp only[aop,ho,hd,ht]
 |some t'=>exact Uni.ofFresh ⟨true,t',t'.dflt⟩ (.ptr d []) rfl fun Γ2 hA ρ K=>by simp only[aop,ho,hd,ht]
theorem d6x{t:TypeId}{x:Operand}(ho:o.op=.box t x)(hd:o.dst=some d):Uni cx o d Γ:=by
 have hx:x∈o.op.operands.toList:=by simp[ho,Op.operands]
 cases ht:cx.T t with
 |none=>exact Uni.none fun Γ2 hA ρ K=>by simp only[aop,ho,hd,ht,cT]
 |some t'=>
  cases ha:a6G t' (Γ.opd x)with
  |none=>exact Uni.none fun Γ2 hA ρ K=>by simp only[aop,ho,hd,ht,cT];rw[c1l,hA.opd hx,ha];rfl
  |some y=>
   cases hk:cx.K d with
   |true=>exact Uni.put (.one (.vptr t' y)) fun Γ2 hA ρ K=>by simp only[aop,ho,hd,ht,cT];rw[c1l,hA.opd hx,ha];simp[hk,AE.set]
   |false=>exact Uni.ofFresh ⟨true,t',y⟩ (.ptr d []) rfl fun Γ2 hA ρ K=>by simp only[aop,ho,hd,ht,cT];rw[c1l,hA.opd hx,ha];simp[hk]
theorem b6w{t:TypeId}{ps:Array (Nat×Operand)}(ho:o.op=.build t ps∨∃n,o.op=.buildSlice t n ps):∀p∈ps.toList,p.2∈o.op.operands.toList:=by
 intro p hp;rcases ho with ho|⟨n,ho⟩<;>rw[ho]<;>simp only[Op.operands]<;>exact a19.2 ⟨p,hp,rfl⟩
theorem d3f{t:TypeId}{ps:Array (Nat×Operand)}(ho:o.op=.build t ps)(hd:o.dst=some d):Uni cx o d Γ:=by
 cases hn:cx.nlT d t with
 |some t'=>
  cases hagg:t'.isAgg with
  |false=>exact Uni.none fun Γ2 hA ρ K=>by simp[aop,ho,hd,hn,hagg]
  |true=>
   refine Uni.of ((b0u Γ.opd t' ps.toList t'.dflt).map fun y=>.val t' y) fun Γ2 hA ρ K=>?_
   simp only[aop,ho,hd,hn,hagg,cT];rw[c4Q,b5z Γ2.opd Γ.opd t' _ _ fun p hp=>hA.opd (b6w (.inl ho) p hp)];cases b0u Γ.opd t' ps.toList t'.dflt<;>rfl
 |none=>
 cases ht:cx.T t with
 |none=>exact Uni.none fun Γ2 hA ρ K=>by simp only[aop,ho,hd,hn,ht,cT]
 |some t'=>
  cases hagg:t'.isAgg with
  |false=>exact Uni.none fun Γ2 hA ρ K=>by simp[aop,ho,hd,hn,ht,hagg]
  |true=>
   refine Uni.of ((b0u Γ.opd t' ps.toList t'.dflt).map fun y=>.val t' y) fun Γ2 hA ρ K=>?_
   simp only[aop,ho,hd,hn,ht,hagg,cT];rw[c4Q,b5z Γ2.opd Γ.opd t' _ _ fun p hp=>hA.opd (b6w (.inl ho) p hp)];cases b0u Γ.opd t' ps.toList t'.dflt<;>rfl
theorem c4R{t:TypeId}{n:Nat}{ps:Array (Nat×Operand)}(ho:o.op=.buildSlice t n ps)(hd:o.dst=some d):Uni cx o d Γ:=by
 cases ht:cx.T t with
 |none=>exact Uni.none fun Γ2 hA ρ K=>by simp only[aop,ho,hd,ht]
 |some t'=>
  cases t' with
  |list o' e=>
   cases hc:(lim n&&decide (n*e.cells≤16777216))with
   |false=>exact Uni.none fun Γ2 hA ρ K=>by simp only[aop,ho,hd,ht,hc,cF,cT,a52]
   |true=>
    cases hl:c2A Γ.opd e n ps.toList (a71 n e.dflt)with
    |none=>
     exact Uni.none fun Γ2 hA ρ K=>by
      simp only[aop,ho,hd,ht,hc,cT,a52];rw[d0Y,b8G Γ2.opd Γ.opd e n _ _ (fun p hp=>hA.opd (b6w (.inr ⟨n,ho⟩) p hp)),hl];rfl
    |some y=>
     exact Uni.ofFresh ⟨false,.list true e,y⟩ (.sref d []) rfl fun Γ2 hA ρ K=>by
      simp only[aop,ho,hd,ht,hc,cT,a52];rw[d0Y,b8G Γ2.opd Γ.opd e n _ _ (fun p hp=>hA.opd (b6w (.inr ⟨n,ho⟩) p hp)),hl];rfl
  |_=>exact Uni.none fun Γ2 hA ρ K=>by simp only[aop,ho,hd,ht]
def c2B(lk:Nat→Option Root)(ty:Ty)(a:AV):Option AV:=match a with
 |.vptr t x=>if t=ty then some (.val t x)else none
 |.ptr n p=>match lk n with
  |some r=>match a1a r.t r.x p with
   |⟨.list true _,_⟩=>if ty.isList then some (.sref n p)else none
   |⟨t,y⟩=>if t.sh=ty∧t.shn=t then some (.val t y)else none
  |none=>none
 |_=>none
theorem d8h{ρ:Type}(Γ:AE)(ty:Ty)(a:AV)(K:AV→AE→Rs ρ):Γ.lodK true ty a K=(c2B Γ.look ty a).elim none fun v=>K v Γ:=by
 cases a with
 |vptr t x=>simp only[AE.lodK,c2B];split<;>rfl
 |ptr n p=>
  simp only[AE.lodK,c2B];cases Γ.look n with
  |none=>rfl
  |some r=>
   simp only[];generalize a1a r.t r.x p=X;obtain⟨tt,l⟩:=X;have gen:∀(tt:Ty)(l:tt.den),((if tt.sh=ty∧tt.shn=tt then K (AV.val tt l) Γ else none:Rs ρ))=(if tt.sh=ty∧tt.shn=tt then some (AV.val tt l)else none:Option AV).elim none fun v=>K v Γ:=by
    intro tt l
    split<;>rfl
   cases tt with
   |list o e=>
    cases o;exact gen _ l;simp only[];split<;>rfl
   |_=>exact gen _ l
 |_=>rfl
theorem d4z{t:TypeId}{x:Operand}(ho:o.op=.load t x)(hd:o.dst=some d):Uni cx o d Γ:=by
 have hx:x∈o.op.operands.toList:=by simp[ho,Op.operands]
 cases ht:cx.T t with
 |none=>exact Uni.none fun Γ2 hA ρ K=>by simp only[aop,ho,hd,ht]
 |some ty=>
  refine Uni.of (c2B Γ.look ty (cx.glob (Γ.opd x))) fun Γ2 hA ρ K=>?_
  simp only[aop,ho,hd,ht,cT];rw[d8h,hA.opd hx]
  have:c2B Γ2.look ty (cx.glob (Γ.opd x))=c2B Γ.look ty (cx.glob (Γ.opd x)):=by
   have hl:=fun n hn=>hA.look (n:=n) hx hn
   revert hl
   cases Γ.opd x with
   |ptr n p=>intro hl;simp only[Cx.glob,c2B,hl n (by simp[AV.refs])]
   |glob g=>
    intro _;simp only[Cx.glob]
    split<;>rfl
   |_=>intro _;rfl
  rw[this]
theorem c7N{x:Operand}(ho:o.op=.nilCheck x)(hd:o.dst=some d):Uni cx o d Γ:=by
 have hx:x∈o.op.operands.toList:=by simp[ho,Op.operands]
 refine Uni.of (match Γ.opd x with|.ptr n p=>some (.ptr n p)|.vptr t y=>some (.vptr t y)|_=>none) fun Γ2 hA ρ K=>?_
 simp only[aop,ho,hd,hA.opd hx];cases Γ.opd x<;>rfl
theorem d4A{ρ:Type}(op:BinOp)(k:IntKind)(x y:Int)(K:AV→Rs ρ):b3U op k x y K=(b3U op k x y some).elim none K:=by
 cases op<;>simp only[b3U]<;>first|rfl|(cases (y==0)<;>rfl)|(cases decide (y<0)<;>rfl)
theorem d4B{ρ:Type}(op:BinOp)(ty:Nat)(t:Ty)(x:t.den)(t':Ty)(y:t'.den)(K:AV→Rs ρ):b7D cx op ty t x t' y K=(b7D cx op ty t x t' y some).elim none K:=by
 unfold b7D;split;cases (cx.E ty&&t.isAgg&&decide (cx.T ty=some t));rfl;cases op<;>rfl;rfl
theorem d7q{ρ:Type}(op:BinOp)(ty:Nat)(a b:AV)(K:AV→Rs ρ):b1E cx op ty a b K=(b1E cx op ty a b some).elim none K:=by
 unfold b1E;split;split;exact d4A _ _ _ _ _;rfl;split;cases op<;>rfl;rfl;cases op<;>first|rfl|exact c0l
 exact d4B _ _ _ _ _ _ _;split;cases op<;>rfl;rfl;split;cases op<;>rfl;rfl;rfl
theorem d3g{op:BinOp}{t s:TypeId}{x y:Operand}(ho:o.op=.binOp op t x y s)(hd:o.dst=some d):Uni cx o d Γ:=by
 have hx:x∈o.op.operands.toList:=by simp[ho,Op.operands]
 have hy:y∈o.op.operands.toList:=by simp[ho,Op.operands]
 cases hl:d0d (cx.T t)with
 |true=>
  cases hn:c7s (cx.T t) (Γ.opd x) (Γ.opd y)with
  |some e=>exact Uni.none fun Γ2 hA ρ K=>by simp only[aop,ho,hd,hA.opd hx,hA.opd hy,hl,hn,cT,if_true]
  |none=>exact Uni.none fun Γ2 hA ρ K=>by simp only[aop,ho,hd,hA.opd hx,hA.opd hy,hl,hn,cT]
 |false=>
  refine Uni.of (b1E cx op t (Γ.opd x) (Γ.opd y) some) fun Γ2 hA ρ K=>?_
  simp only[aop,ho,hd,hA.opd hx,hA.opd hy,hl,cF];exact d7q _ _ _ _ _
theorem d9G{ρ:Type}(op:UnOp)(a:AV)(K:AV→Rs ρ):AE.un op a K=(AE.un op a some).elim none K:=by
 unfold AE.un
 split<;>rfl
theorem d4C{op:UnOp}{t:TypeId}{x:Operand}(ho:o.op=.unOp op t x)(hd:o.dst=some d):Uni cx o d Γ:=by
 have hx:x∈o.op.operands.toList:=by simp[ho,Op.operands]
 refine Uni.of (AE.un op (Γ.opd x) some) fun Γ2 hA ρ K=>?_
 simp only[aop,ho,hd,hA.opd hx];exact d9G _ _ _
theorem d6y{ρ:Type}{c:Bool}{v:AV}{K:AV→Rs ρ}{Kr:Root→Rs ρ}:(bif c then K v else none)=(bif c then some (Sum.inl v)else none:Option (AV ⊕ Root)).elim none fun y=>match y with
  |.inl v=>K v
  |.inr r=>Kr r:=by cases c<;>rfl
theorem d6z{ρ:Type}{c:Bool}{v:Root}{K:AV→Rs ρ}{Kr:Root→Rs ρ}:(bif c then Kr v else none)=(bif c then some (Sum.inr v)else none:Option (AV ⊕ Root)).elim none fun y=>match y with
  |.inl v=>K v
  |.inr r=>Kr r:=by cases c<;>rfl
theorem d7r{ρ:Type}(Γ:AE)(s t:Nat)(ts tt:Option Ty)(a:AV)(K:AV→Rs ρ)(Kr:Root→Rs ρ):Γ.convK s t ts tt a K Kr=(Γ.convK s t ts tt a (fun v=>some (Sum.inl v)) (fun r=>some (Sum.inr r)):Option (AV ⊕ Root)).elim none fun y=>match y with
  |.inl v=>K v
  |.inr r=>Kr r:=by
 unfold AE.convK;split;rfl;exact d6z;rfl;rename_i n;split;split;exact d6y;rfl;rfl;rw[b5j,b5j (ρ:=AV ⊕ Root)];generalize a9m Γ.look (.int .u8) _=r;cases r<;>rfl;rfl
theorem d1a{ρ:Type}{Γ Γ2:AE}(s t:Nat)(ts tt:Option Ty){a:AV}(h:∀n∈a.refs,Γ2.look n=Γ.look n)(K:AV→Rs ρ)(Kr:Root→Rs ρ):Γ2.convK s t ts tt a K Kr=Γ.convK s t ts tt a K Kr:=by
 unfold AE.convK;split;rfl;rfl;rfl;rename_i n;rw[h n (by simp[AV.refs])];rw[b5j,b5j,b5A h];rfl
theorem c9x{s t:TypeId}{x:Operand}(ho:o.op=.convert s t x)(hd:o.dst=some d):Uni cx o d Γ:=by
 have hx:x∈o.op.operands.toList:=by simp[ho,Op.operands]
 have run:∀Γ2,a1V (a0y o) Γ Γ2→∀{ρ:Type}(K:AE→Rs ρ),aop cx true o Γ2 K=(Γ.convK s t (cx.T s) (cx.T t) (Γ.opd x) (fun v=>some (Sum.inl v)) (fun r=>some (Sum.inr r)):Option (AV ⊕ Root)).elim none fun y=>match y with
   |.inl v=>K (Γ2.set d v)
   |.inr r=>Γ2.fresh true d r fun Γ=>K (Γ.set d (.sref d [])):=fun Γ2 hA ρ K=>by
  simp only[aop,ho,hd,hA.opd hx,AE.conv];rw[d7r,d1a s t _ _ fun n hn=>hA.look hx hn]
 revert run
 generalize (Γ.convK s t (cx.T s) (cx.T t) (Γ.opd x) (fun v=>some (Sum.inl v)) (fun r=>some (Sum.inr r)):Option (AV ⊕ Root))=r;cases r with
 |none=>exact fun run=>Uni.none run
 |some y=>
  cases y with
  |inl v=>exact fun run=>Uni.put (.one v) run
  |inr r=>exact fun run=>Uni.ofFresh r (.sref d []) rfl run
end
section
variable {cx:Cx} {o:Oper} {d:Nat} {Γ:AE}
theorem d0m{ρ:Type}(a:AV)(t:Ty)(K:t.den→Rs ρ):a.isVal t K=(a.isVal t some).elim none K:=by
 cases a with
 |val t' x=>simp only[AV.isVal];split<;>rfl
 |_=>rfl
theorem c6O{t:TypeId}{n c:Operand}(ho:o.op=.makeSlice t n c)(hd:o.dst=some d):Uni cx o d Γ:=by
 have hn:n∈o.op.operands.toList:=by simp[ho,Op.operands]
 have hc:c∈o.op.operands.toList:=by simp[ho,Op.operands]
 cases ht:cx.own d t with
 |none=>exact Uni.none fun Γ2 hA ρ K=>by simp only[aop,ho,hd,ht]
 |some t'=>
  cases t' with
  |list o' e=>
   have run:∀Γ2,a1V (a0y o) Γ Γ2→∀{ρ:Type}(K:AE→Rs ρ),aop cx true o Γ2 K=((Γ.opd n).isVal (.int .i64) some).elim none fun(x:Int)=>((Γ.opd c).isVal (.int .i64) some).elim none fun(y:Int)=>
     bif decide (0≤x)&&(decide (x≤y)&&lim y.toNat)then Γ2.fresh true d ⟨false,.list true e,a71 x.toNat e.dflt⟩ fun Γ=>K (Γ.set d (.sref d []))else none:=fun Γ2 hA ρ K=>by
    simp only[aop,ho,hd,ht,hA.opd hn,hA.opd hc];refine(d0m _ (.int .i64) _).trans ?_
    congr 1;funext x;exact d0m _ (.int .i64) _
   revert run
   generalize (Γ.opd n).isVal (.int .i64) some=rx;generalize (Γ.opd c).isVal (.int .i64) some=ry;intro run;cases rx with
   |none=>exact Uni.none run
   |some x=>
    cases ry with
    |none=>exact Uni.none run
    |some y=>
     cases hb:(decide (0≤(show Int from x))&&(decide ((show Int from x)≤(show Int from y))&&lim (show Int from y).toNat))with
     |false=>
      refine Uni.none fun Γ2 hA ρ K=>(run Γ2 hA K).trans ?_
      show(bif (decide (0≤(show Int from x))&&(decide ((show Int from x)≤(show Int from y))&&lim (show Int from y).toNat))then _ else none)=none;rw[hb];rfl
     |true=>
      refine Uni.ofFresh ⟨false,.list true e,a71 (show Int from x).toNat e.dflt⟩ (.sref d []) rfl fun Γ2 hA ρ K=>(run Γ2 hA K).trans ?_
      show(bif (decide (0≤(show Int from x))&&(decide ((show Int from x)≤(show Int from y))&&lim (show Int from y).toNat))then _ else none)=_;rw[hb];rfl
  |_=>exact Uni.none fun Γ2 hA ρ K=>by simp only[aop,ho,hd,ht]
theorem c7j{ρ:Type}(Γ:AE)(len dv:Nat)(x:Option Operand)(K:Nat→Rs ρ):Γ.bnd len dv x K=(Γ.bnd len dv x some).elim none K:=by
 cases x with
 |none=>rfl
 |some x=>
  simp only[AE.bnd];split;exact c0l;rfl
theorem a7X{ρ:Type}(Γ:AE)(len:Nat)(lo hi:Option Operand)(K:Nat→Nat→Rs ρ):Γ.bnds len lo hi K=(Γ.bnds len lo hi fun x y=>some (x,y)).elim none fun p=>K p.1 p.2:=by
 unfold AE.bnds;rw[c7j,c7j (ρ:=Nat×Nat)];cases Γ.bnd len len hi some with
 |none=>rfl
 |some h=>
  simp only[a04];rw[c7j,c7j (ρ:=Nat×Nat)];cases Γ.bnd h 0 lo some<;>rfl
theorem d1b{ρ:Type}{Γ Γ2:AE}{lo hi:Option Operand}(hlo:∀x,lo=some x→Γ2.opd x=Γ.opd x)(hhi:∀x,hi=some x→Γ2.opd x=Γ.opd x)(len:Nat)(K:Nat→Nat→Rs ρ):Γ2.bnds len lo hi K=Γ.bnds len lo hi K:=by
 have one:∀(x:Option Operand),(∀y,x=some y→Γ2.opd y=Γ.opd y)→∀(l dv:Nat){ρ:Type}(K:Nat→Rs ρ),Γ2.bnd l dv x K=Γ.bnd l dv x K:=by
  intro x hx l dv ρ K;cases x with
  |none=>rfl
  |some y=>simp only[AE.bnd];rw[hx y rfl]
 unfold AE.bnds;rw[one hi hhi];congr 1;funext h;rw[one lo hlo]
theorem d7s{ρ:Type}(Γ:AE)(ty:Option Ty)(a:AV)(lo hi mx:Option Operand)(K:AV→Rs ρ):Γ.slic ty a lo hi mx K=(Γ.slic ty a lo hi mx some).elim none K:=by
 unfold AE.slic;cases mx with
 |some m=>
  simp only[];cases (b7E (some m)&&b7E hi&&lo.isNone);rfl;simp only[cT,c1f]
  split<;>rfl
 |none=>
  simp only[];cases a with
  |val t l=>
   cases t with
   |str=>
    simp only[];split;rw[a7X,a7X (ρ:=AV)];generalize (Γ.bnds _ lo hi fun x y=>some (x,y):Option (Nat×Nat))=r;cases r<;>rfl;rfl
   |list o e=>
    cases o;simp only[];split;rw[a7X,a7X (ρ:=AV)];generalize (Γ.bnds _ lo hi fun x y=>some (x,y):Option (Nat×Nat))=r;cases r<;>rfl;rfl;rfl
   |_=>rfl
  |nils=>
   cases ty with
   |none=>rfl
   |some t=>
    cases t with
    |list o e=>
     simp only[];rw[a7X,a7X (ρ:=AV)];generalize (Γ.bnds _ lo hi fun x y=>some (x,y):Option (Nat×Nat))=r;cases r<;>rfl
    |_=>rfl
  |sref n p=>
   simp only[];rw[a4O,a4O (ρ:=AV)];cases a6g Γ.look n p with
   |none=>rfl
   |some x=>
    simp only[a04];split;cases lo<;>cases hi<;>simp only[]<;>(try rfl)<;>(rw[a7X,a7X (ρ:=AV)];generalize (Γ.bnds _ _ _ fun x y=>some (x,y):Option (Nat×Nat))=r;cases r<;>rfl)
    rfl
  |swin n p o k=>
   simp only[];rw[a4O,a4O (ρ:=AV)];cases a6g Γ.look n p with
   |none=>rfl
   |some x=>
    simp only[a04];split;rw[a7X,a7X (ρ:=AV)];generalize (Γ.bnds _ _ _ fun x y=>some (x,y):Option (Nat×Nat))=r;cases r<;>rfl;rfl
  |vptr t l=>
   cases t with
   |arr n e=>
    simp only[];split;rw[a7X,a7X (ρ:=AV)];generalize (Γ.bnds _ lo hi fun x y=>some (x,y):Option (Nat×Nat))=r;cases r<;>rfl;rfl
   |_=>rfl
  |_=>rfl
theorem d1c{ρ:Type}{Γ Γ2:AE}{a:AV}{lo hi:Option Operand}(ha:∀n∈a.refs,Γ2.look n=Γ.look n)(hlo:∀x,lo=some x→Γ2.opd x=Γ.opd x)(hhi:∀x,hi=some x→Γ2.opd x=Γ.opd x)(ty:Option Ty)(mx:Option Operand)(K:AV→Rs ρ):
  Γ2.slic ty a lo hi mx K=Γ.slic ty a lo hi mx K:=by
 have hb:=fun(len:Nat) {ρ:Type} (K:Nat→Nat→Rs ρ)=>d1b (Γ:=Γ) (Γ2:=Γ2) hlo hhi len K;unfold AE.slic;cases mx with
 |some m=>rfl
 |none=>
  simp only[];cases a with
  |val t l=>
   cases t with
   |str=>simp only[hb]
   |list o e=>cases o<;>simp only[hb]
   |_=>rfl
  |nils=>
   cases ty with
   |none=>rfl
   |some t=>cases t<;>simp only[hb]
  |sref n p=>
   simp only[];rw[a4O,a4O,a5f (ha n (by simp[AV.refs]))];cases lo<;>cases hi<;>simp only[hb]
  |swin n p o k=>
   simp only[];rw[a4O,a4O,a5f (ha n (by simp[AV.refs]))];simp only[hb]
  |vptr t l=>
   cases t with
   |arr n e=>simp only[hb]
   |_=>rfl
  |_=>rfl
theorem d3h{t:TypeId}{x:Operand}{lo hi mx:Option Operand}(ho:o.op=.slice t x lo hi mx)(hd:o.dst=some d):Uni cx o d Γ:=by
 have hx:x∈o.op.operands.toList:=by simp[ho,Op.operands]
 have hlo:∀y,lo=some y→y∈o.op.operands.toList:=fun y h=>by subst h;simp[ho,Op.operands]
 have hhi:∀y,hi=some y→y∈o.op.operands.toList:=fun y h=>by subst h;simp[ho,Op.operands]
 refine Uni.of (Γ.slic (cx.T t) (Γ.opd x) lo hi mx some) fun Γ2 hA ρ K=>?_
 simp only[aop,ho,hd,hA.opd hx];rw[d1c (fun n hn=>hA.look hx hn) (fun y h=>hA.opd (hlo y h)) (fun y h=>hA.opd (hhi y h))];exact d7s _ _ _ _ _ _ _
theorem c6P{s:TypeId}{x:Operand}{f:Nat}(ho:o.op=.fieldAddr s x f)(hd:o.dst=some d):Uni cx o d Γ:=by
 have hx:x∈o.op.operands.toList:=by simp[ho,Op.operands]
 cases ha:Γ.opd x with
 |ptr n p=>
  have hr:∀Γ2,a1V (a0y o) Γ Γ2→Γ2.rt n=Γ.rt n:=fun Γ2 hA=>hA.rt hx (by rw[ha];simp[AV.refs]);cases hrt:Γ.rt n with
  |none=>exact Uni.none fun Γ2 hA ρ K=>by simp only[aop,ho,hd,hA.opd hx,ha,hr Γ2 hA,hrt]
  |some r=>
   by_cases hc:a2r (a1a r.t r.x p).1 f=true∧cx.T s=some (a1a r.t r.x p).1.sh
   exact Uni.put (.one (.ptr n (p++a1p f))) fun Γ2 hA ρ K=>by
    simp only[aop,ho,hd,hA.opd hx,ha,hr Γ2 hA,hrt];rw[if_pos hc];rfl
   exact Uni.none fun Γ2 hA ρ K=>by
    simp only[aop,ho,hd,hA.opd hx,ha,hr Γ2 hA,hrt];rw[if_neg hc]
 |vptr t y=>
  by_cases hc:a2r t f=true∧cx.T s=some t
  exact Uni.put (.one (.vptr (a1a t y (a1p f)).1 (a1a t y (a1p f)).2)) fun Γ2 hA ρ K=>by
   simp only[aop,ho,hd,hA.opd hx,ha];rw[if_pos hc];rfl
  exact Uni.none fun Γ2 hA ρ K=>by
   simp only[aop,ho,hd,hA.opd hx,ha];rw[if_neg hc]
 |_=>exact Uni.none fun Γ2 hA ρ K=>by simp only[aop,ho,hd,hA.opd hx,ha]
theorem d3i{s:TypeId}{x:Operand}{f:Nat}(ho:o.op=.field s x f)(hd:o.dst=some d):Uni cx o d Γ:=by
 have hx:x∈o.op.operands.toList:=by simp[ho,Op.operands]
 cases ha:Γ.opd x with
 |val t y=>
  by_cases hc:a2r t f=true∧cx.T s=some t
  exact Uni.put (.one (.val (a1a t y (a1p f)).1 (a1a t y (a1p f)).2)) fun Γ2 hA ρ K=>by
   simp only[aop,ho,hd,hA.opd hx,ha];rw[if_pos hc];rfl
  exact Uni.none fun Γ2 hA ρ K=>by
   simp only[aop,ho,hd,hA.opd hx,ha];rw[if_neg hc]
 |_=>exact Uni.none fun Γ2 hA ρ K=>by simp only[aop,ho,hd,hA.opd hx,ha]
theorem c1m{α β γ:Type}{o:Option α}{f:α→β}{K:β→Option γ}:(o.bind fun x=>K (f x))=(o.bind fun x=>some (f x)).elim none K:=by cases o<;>rfl
theorem d7t{ρ:Type}(Γ:AE)(ty:Option Ty)(a:AV)(i:Int)(K:AV→Rs ρ):Γ.addrK ty a i K=(Γ.addrK ty a i some).elim none K:=by
 cases a with
 |val t l=>
  cases t with
  |list o e=>
   cases o;simp only[AE.addrK];split;exact c1m;rfl;rfl
  |_=>rfl
 |sref n p=>
  simp only[AE.addrK];rw[a4O,a4O (ρ:=AV)];cases a6g Γ.look n p with
  |none=>rfl
  |some x=>
   simp only[a04];split;exact c0l;rfl
 |swin n p o k=>
  simp only[AE.addrK];rw[a4O,a4O (ρ:=AV)];cases a6g Γ.look n p with
  |none=>rfl
  |some x=>
   simp only[a04];split;exact c0l;rfl
 |ptr n p=>
  simp only[AE.addrK];cases Γ.rt n with
  |none=>rfl
  |some r=>
   simp only[];generalize a1a r.t r.x p=X;obtain⟨tt,l⟩:=X;cases tt with
   |arr k e=>
    simp only[];split;exact c0l;rfl
   |_=>rfl
 |vptr t l=>
  cases t with
  |arr k e=>
   simp only[AE.addrK];split;exact c1m;rfl
  |_=>rfl
 |_=>rfl
theorem d1d{ρ:Type}{Γ Γ2:AE}{a:AV}(hl:∀n∈a.refs,Γ2.look n=Γ.look n)(hr:∀n∈a.refs,Γ2.rt n=Γ.rt n)(ty:Option Ty)(i:Int)(K:AV→Rs ρ):Γ2.addrK ty a i K=Γ.addrK ty a i K:=by
 cases a with
 |sref n p=>simp only[AE.addrK];rw[a4O,a4O,a5f (hl n (by simp[AV.refs]))]
 |swin n p o k=>simp only[AE.addrK];rw[a4O,a4O,a5f (hl n (by simp[AV.refs]))]
 |ptr n p=>simp only[AE.addrK];rw[hr n (by simp[AV.refs])]
 |val t l=>
  cases t with
  |list o e=>cases o<;>rfl
  |_=>rfl
 |vptr t l=>cases t<;>rfl
 |_=>rfl
theorem c6Q{t:TypeId}{x i:Operand}(ho:o.op=.indexAddr t x i)(hd:o.dst=some d):Uni cx o d Γ:=by
 have hx:x∈o.op.operands.toList:=by simp[ho,Op.operands]
 have hi:i∈o.op.operands.toList:=by simp[ho,Op.operands]
 have no:(∀k y,Γ.opd i≠.val (.int k) y)→Uni cx o d Γ:=fun h=>Uni.none fun Γ2 hA ρ K=>by
  simp only[aop,ho,hd,hA.opd hi];split;rename_i k y e;exact absurd e (h k y);rfl
 cases ha:Γ.opd i with
 |val t' y=>
  cases t' with
  |int k=>
   refine Uni.of (Γ.addrK (cx.T t) (cx.glob (Γ.opd x)) (show Int from y) some) fun Γ2 hA ρ K=>?_
   simp only[aop,ho,hd,hA.opd hi,hA.opd hx,ha];have hgr:∀n∈(cx.glob (Γ.opd x)).refs,n∈(Γ.opd x).refs:=fun n hn=>by
    revert hn
    cases Γ.opd x with
    |glob g=>
     simp only[Cx.glob]
     split<;>exact fun h=>h
    |_=>exact id
   exact(d1d (fun n hn=>hA.look hx (hgr n hn)) (fun n hn=>hA.rt hx (hgr n hn)) (cx.T t) (show Int from y) _).trans (d7t _ _ _ _ _)
  |_=>exact no (by rw[ha];intro k y h;cases h)
 |_=>exact no (by rw[ha];intro k y h;cases h)
def c0m{ρ:Type}(ty:Option Ty)(x i:AV)(K:AV→Rs ρ):Rs ρ:=match x,i with
 |.val (.arr n t) l,.val (.int _) (i:Int)=>if ty=some (.arr n t)then(a0p l i).bind fun y=>K (.val t y)else none
 |.val .str (l:List Int),.val (.int _) (i:Int)=>if ty=some .str then(a0p l i).bind fun y=>K (.val (.int .u8) y)else none
 |_,_=>none
theorem d4D{ρ:Type}(ty:Option Ty)(x i:AV)(K:AV→Rs ρ):c0m ty x i K=(c0m ty x i some).elim none K:=by
 unfold c0m;split;split;exact c1m;rfl;split;exact c1m;rfl;rfl
theorem d3j{s:TypeId}{x i:Operand}(ho:o.op=.index s x i)(hd:o.dst=some d):Uni cx o d Γ:=by
 have hx:x∈o.op.operands.toList:=by simp[ho,Op.operands]
 have hi:i∈o.op.operands.toList:=by simp[ho,Op.operands]
 refine Uni.of (c0m (cx.T s) (Γ.opd x) (Γ.opd i) some) fun Γ2 hA ρ K=>?_
 have:aop cx true o Γ2 K=c0m (cx.T s) (Γ.opd x) (Γ.opd i) fun v=>K (Γ2.set d v):=by
  simp only[aop,ho,hd,hA.opd hx,hA.opd hi];rfl
 rw[this];exact d4D _ _ _ _
theorem c9y{x:Operand}{i:Nat}(ho:o.op=.extract x i)(hd:o.dst=some d):Uni cx o d Γ:=by
 have hx:x∈o.op.operands.toList:=by simp[ho,Op.operands]
 cases x with
 |tmp t=>
  have hs:∀Γ2,a1V (a0y o) Γ Γ2→Γ2.sl t=Γ.sl t:=fun Γ2 hA=>(hA.2 t (a3f hx)).1;cases hv:Γ.sl t with
  |one v=>exact Uni.none fun Γ2 hA ρ K=>by simp only[aop,ho,hd,hs Γ2 hA,hv]
  |cmp c vs=>
   cases c with
   |agg=>exact Uni.none fun Γ2 hA ρ K=>by simp only[aop,ho,hd,hs Γ2 hA,hv]
   |clo f=>exact Uni.none fun Γ2 hA ρ K=>by simp only[aop,ho,hd,hs Γ2 hA,hv]
   |tup=>
   cases hi:vs[i]? with
   |none=>exact Uni.none fun Γ2 hA ρ K=>by simp only[aop,ho,hd,hs Γ2 hA,hv,hi]
   |some v=>exact Uni.put (.one v) fun Γ2 hA ρ K=>by simp only[aop,ho,hd,hs Γ2 hA,hv,hi];rfl
 |_=>exact Uni.none fun Γ2 hA ρ K=>by simp only[aop,ho,hd]
end
section
variable {cx:Cx} {o:Oper} {d:Nat} {Γ:AE}
theorem d8i{ρ:Type}(Γ:AE)(ty:Option Ty)(a:AV)(K:Nat→Rs ρ):Γ.lenK ty a K=(Γ.lenK ty a some).elim none K:=by
 unfold AE.lenK;split;rfl;rfl;rfl;rfl;rfl;split
 split<;>rfl
 rfl;rfl;rfl
theorem d3k{ρ:Type}{Γ Γ2:AE}{a:AV}(h:∀n∈a.refs,Γ2.look n=Γ.look n)(ty:Option Ty)(K:Nat→Rs ρ):Γ2.lenK ty a K=Γ.lenK ty a K:=by
 unfold AE.lenK
 split<;>first|rfl|(rename_i n p;rw[h n (by simp[AV.refs])])
theorem c7O{ρ:Type}(f:Int→Int→Int)(k:IntKind):∀(l:List AV)(x:Int)(K:AV→Rs ρ),AE.mins f k l x K=(AE.mins f k l x some).elim none K
 | [],x,K=>rfl
 |a::r,x,K=>by
  cases a with
  |val t y=>
   cases t with
   |int k'=>
    simp only[AE.mins];split;exact c7O f k r _ K;rfl
   |_=>rfl
  |_=>rfl
theorem c3r{ρ:Type}(Γ:AE)(e:Ty)(x:AV)(ys:List e.den)(K:AE→Rs ρ):Γ.apnd true d e x ys K=(match x with
  |.nils|.empt=>bif lim ys.length then Γ.fresh true d ⟨false,.list true e,ys⟩ fun Γ=>K (Γ.set d (.sref d []))else none
  |_=>none):=by
 cases x<;>rfl
theorem c7P{e:Ty}{x:AV}{ys:Option (List e.den)}(h:∀Γ2,a1V (a0y o) Γ Γ2→∀{ρ:Type}(K:AE→Rs ρ),aop cx true o Γ2 K=ys.elim none fun ys=>Γ2.apnd true d e x ys K):Uni cx o d Γ:=by
 cases ys with
 |none=>exact Uni.none h
 |some ys=>
  have h:∀Γ2,a1V (a0y o) Γ Γ2→∀{ρ:Type}(K:AE→Rs ρ),aop cx true o Γ2 K=Γ2.apnd true d e x ys K:=h;cases hl:lim ys.length with
  |false=>exact Uni.none fun Γ2 hA ρ K=>by rw[h Γ2 hA,c3r,hl];cases x<;>rfl
  |true=>
   cases x with
   |nils=>exact Uni.ofFresh ⟨false,.list true e,ys⟩ (.sref d []) rfl fun Γ2 hA ρ K=>by rw[h Γ2 hA,c3r,hl];rfl
   |empt=>exact Uni.ofFresh ⟨false,.list true e,ys⟩ (.sref d []) rfl fun Γ2 hA ρ K=>by rw[h Γ2 hA,c3r,hl];rfl
   |_=>exact Uni.none fun Γ2 hA ρ K=>by rw[h Γ2 hA,c3r]
theorem d0n{Γ2:AE}(hA:a1V (a0y o) Γ Γ2){c:Call}(ho:o.op=.call c):c.args.toList.map Γ2.opd=c.args.toList.map Γ.opd:=
 a17 fun x hx=>hA.opd (by simp only[ho,Op.operands,Call.operands,a77,mA];exact .inr hx)
theorem b1j{c:Call}(ho:o.op=.call c):∀x∈c.args.toList,x∈o.op.operands.toList:=fun x hx=>by
 simp only[ho,Op.operands,Call.operands,a77,mA];exact .inr hx
theorem c9z{c:Call}{b:Builtin}(ho:o.op=.call c)(hb:c.callee=.builtin b)(hd:o.dst=some d):Uni cx o d Γ:=by
 have run:∀Γ2,a1V (a0y o) Γ Γ2→∀{ρ:Type}(K:AE→Rs ρ),aop cx true o Γ2 K=Γ2.blt true cx d b c.argTypes.toList (c.args.toList.map Γ.opd) K:=fun Γ2 hA ρ K=>by
  simp only[aop,ho,hd,hb,d0n hA ho]
 have hl:∀a∈c.args.toList.map Γ.opd,∀n∈a.refs,∀Γ2,a1V (a0y o) Γ Γ2→Γ2.look n=Γ.look n:=fun a ha n hn Γ2 hA=>by
  obtain⟨x,hx,rfl⟩:=a19.1 ha;exact hA.look (b1j ho x hx) hn
 revert run hl
 generalize c.args.toList.map Γ.opd=as;generalize c.argTypes.toList=ts;intro run hl;have no:(∀(Γ2:AE){ρ:Type}(K:AE→Rs ρ),Γ2.blt true cx d b ts as K=none)→Uni cx o d Γ:=fun h=>Uni.none fun Γ2 hA ρ K=>by rw[run Γ2 hA];exact h Γ2 K
 cases b with
 |len=>
  match as with
  | [a]=>
   refine Uni.of ((Γ.lenK (ts.head?.bind cx.T) a some).map fun n=>.val (.int .i64) (n:Int)) fun Γ2 hA ρ K=>?_
   rw[run Γ2 hA];simp only[AE.blt];rw[d8i,d3k fun n hn=>hl a (by simp) n hn Γ2 hA];cases Γ.lenK (ts.head?.bind cx.T) a some<;>rfl
  | []=>exact no fun Γ2 ρ K=>rfl
  |_::_::_=>exact no fun Γ2 ρ K=>rfl
 |max=>
  match as with
  | []=>exact no fun Γ2 ρ K=>rfl
  |a::r=>
   cases a with
   |val t x=>
    cases t with
    |int k=>exact Uni.of (AE.mins a2q k r x some) fun Γ2 hA ρ K=>by rw[run Γ2 hA];exact c7O _ _ _ _ _
    |_=>exact no fun Γ2 ρ K=>rfl
   |_=>exact no fun Γ2 ρ K=>rfl
 |min=>
  match as with
  | []=>exact no fun Γ2 ρ K=>rfl
  |a::r=>
   cases a with
   |val t x=>
    cases t with
    |int k=>exact Uni.of (AE.mins a3s k r x some) fun Γ2 hA ρ K=>by rw[run Γ2 hA];exact c7O _ _ _ _ _
    |_=>exact no fun Γ2 ρ K=>rfl
   |_=>exact no fun Γ2 ρ K=>rfl
 |append=>
  match as with
  | []=>exact no fun Γ2 ρ K=>rfl
  | [_]=>exact no fun Γ2 ρ K=>rfl
  |_::_::_::_=>exact no fun Γ2 ρ K=>rfl
  | [a,b]=>
   cases hni:b9Q cx ts with
   |false=>exact no fun Γ2 ρ K=>by simp only[AE.blt,hni,cF]
   |true=>
    cases ht:ts.head?.bind cx.T with
    |none=>exact no fun Γ2 ρ K=>by simp only[AE.blt,hni,ht,cT]
    |some τ=>
     cases τ with
     |list o' e=>
      have els:(∀(Γ2:AE){ρ:Type}(K:AE→Rs ρ),Γ2.blt true cx d .append ts [a,b] K=Γ2.elems e b fun ys=>Γ2.apnd true d e a ys K)→Uni cx o d Γ:=fun h=>
       c7P (e:=e) (x:=a) (ys:=a9m Γ.look e b) fun Γ2 hA ρ K=>by
        rw[run Γ2 hA,h,b5j,b5A fun n hn=>hl b (by simp) n hn Γ2 hA]
      cases b with
      |val t y=>
       cases t with
       |str=>
        by_cases he:e=.int .u8
        subst he;exact c7P (e:=.int .u8) (x:=a) (ys:=some y) fun Γ2 hA ρ K=>by
         rw[run Γ2 hA];simp only[AE.blt,hni,ht,cT];rfl
        exact no fun Γ2 ρ K=>by
         simp only[AE.blt,hni,ht,cT];rw[dif_neg he]
       |_=>exact els fun Γ2 ρ K=>by simp only[AE.blt,hni,ht,cT,a52]
      |_=>exact els fun Γ2 ρ K=>by simp only[AE.blt,hni,ht,cT,a52]
     |_=>exact no fun Γ2 ρ K=>by simp only[AE.blt,hni,ht,cT]
 |_=>exact no fun Γ2 ρ K=>by unfold AE.blt;split<;>first|rfl|(rename_i h;cases h)|(rename_i h _;cases h)
def b4q(fz:Bool)(lk:Nat→Option Root):(p:PA)→AV→Option p.ty.den
 |.v t,a=>bif fz then a6G t a else b0K lk t a
 |.r _ _,_=>none
theorem b3h{ρ:Type}(Γ:AE)(fz:Bool)(seen:List Nat)(p:PA)(a:AV)(K:p.ty.den→AE→List Nat→List Nat→Rs ρ):
  Γ.arg fz true [] seen p a K=(b4q fz Γ.look p a).elim none fun x=>K x Γ [] (bif fz then seen else a.viewed++seen):=by
 cases p with
 |v t=>
  simp only[AE.arg];rw[show(a.viewed.any fun n=>([]:List Nat).contains n)=false from by simp];simp only[cF];cases fz with
  |true=>simp only[b4q,if_true,cT];rw[c1l];rfl
  |false=>
   simp only[b4q,a03,if_false,cF];rw[d3d];rfl
 |r c b=>
  cases b with
  |v t=>cases a<;>rfl
  |b t=>
   cases a with
   |ptr n p=>cases p<;>simp[AE.arg,b4q]
   |_=>rfl
  |o e=>
   cases a with
   |sref n p=>cases p<;>simp[AE.arg,b4q]
   |_=>rfl
def AE.argso(Γ:AE)(fz:Bool)(seen:List Nat)(ps:List PA)(as:List AV):Option (a1S (ps.map PA.ty)).den:=Γ.args fz true [] seen ps as fun x _ _=>some x
theorem c3s(Γ:AE)(fz:Bool)(ps:List PA):∀{ρ:Type}(as:List AV)(seen:List Nat)(K:(a1S (ps.map PA.ty)).den→AE→List Nat→Rs ρ),Γ.args fz true [] seen ps as K=(Γ.argso fz seen ps as).elim none fun x=>K x Γ []:=by
 induction ps with
 |nil=>
  intro ρ as seen K;cases as<;>rfl
 |cons p ps ih=>
  intro ρ as seen K;cases as with
  |nil=>cases ps<;>rfl
  |cons a as=>
   cases ps with
   |nil=>
    cases as with
    |nil=>
     simp only[AE.argso,AE.args];rw[b3h,b3h];cases b4q fz Γ.look p a<;>rfl
    |cons=>rfl
   |cons p' ps=>
    simp only[AE.argso,AE.args];rw[b3h,b3h];cases b4q fz Γ.look p a with
    |none=>rfl
    |some x=>
     simp only[a04];rw[ih,ih];cases Γ.argso fz (bif fz then seen else a.viewed++seen) (p'::ps) as<;>rfl
theorem d1e{Γ:AE}(fz:Bool)(ps:List PA):∀(as:List AV)(seen:List Nat)(x:(a1S (ps.map PA.ty)).den),Γ.argso fz seen ps as=some x→a4N ps=[]:=by
 induction ps with
 |nil=>intro as seen x h;rfl
 |cons p ps ih=>
  intro as seen x h;cases as with
  |nil=>cases ps<;>cases h
  |cons a as=>
   cases ps with
   |nil=>
    cases as with
    |nil=>
     simp only[AE.argso,AE.args]at h;rw[b3h]at h;cases p with
     |v t=>rfl
     |r c t=>cases h
    |cons=>cases h
   |cons p' ps=>
    simp only[AE.argso,AE.args]at h;rw[b3h]at h;cases p with
    |r c t=>cases h
    |v t=>
     cases h1:b4q fz Γ.look (.v t) a with
     |none=>rw[h1]at h;cases h
     |some y=>
      rw[h1]at h;simp only[a04]at h;rw[c3s]at h;cases h2:Γ.argso fz (bif fz then seen else a.viewed++seen) (p'::ps) as with
      |none=>rw[h2]at h;cases h
      |some z=>exact ih as _ z h2
theorem c9A{Γ Γ2:AE}(fz:Bool)(ps:List PA):∀(as:List AV)(seen:List Nat),(∀a∈as,∀n∈a.refs,Γ2.look n=Γ.look n)→Γ2.argso fz seen ps as=Γ.argso fz seen ps as:=by
 have one:∀(p:PA)(a:AV),(∀n∈a.refs,Γ2.look n=Γ.look n)→b4q fz Γ2.look p a=b4q fz Γ.look p a:=fun p a h=>by
  cases p with
  |v t=>simp only[b4q];rw[c1A h]
  |r c t=>rfl
 induction ps with
 |nil=>intro as seen h;cases as<;>rfl
 |cons p ps ih=>
  intro as seen h;cases as with
  |nil=>cases ps<;>rfl
  |cons a as=>
   cases ps with
   |nil=>
    cases as with
    |nil=>
     simp only[AE.argso,AE.args];rw[b3h,b3h,one p a (h a (by simp))]
    |cons=>rfl
   |cons p' ps=>
    simp only[AE.argso,AE.args];rw[b3h,b3h,one p a (h a (by simp))];cases b4q fz Γ.look p a with
    |none=>rfl
    |some x=>
     simp only[a04];rw[c3s,c3s,ih as _ fun a' ha=>h a' (by simp[ha])]
theorem c5P{ρ:Type}(Γ:AE):∀(ns:List Nat)(K:AE→Rs ρ),Γ.dropAll true [] ns K=bif ns.all fun n=>decide (n<pinned)&&(Γ.rt n).isNone then K Γ else none
 | [],K=>rfl
 |n::r,K=>by
  simp only[AE.dropAll,a29];rw[show(!([]:List Nat).contains n)=true from by simp,a76];cases decide (n<pinned);rfl
  ·simp only[cT,a46];cases Γ.rt n with
   |none=>simp only[a81,a46];exact c5P Γ r K
   |some x=>simp
def a3i:List Nat→List ((r:RA)×r.ty.den)→List (Nat×Root)
 |k::ns,it::its=>match a0K it with
  |some r=>(k,r)::a3i ns its
  |none=>a3i ns its
 |_,_=>[]
theorem b4r:∀(ns:List Nat)(its:List ((r:RA)×r.ty.den)) (n:Nat),find (a3i ns its) n=a1t ns its n
 | [],its,n=>by cases its<;>rfl
 |k::ns,[],n=>rfl
 |k::ns,it::its,n=>by
  simp only[a3i,a1t];cases a0K it with
  |none=>exact b4r ns its n
  |some r=>
   simp only[find];rw[b4r ns its n]
   by_cases e:n=k
   subst e;simp;have e1:(n==k)=false:=by simpa using e
   have e2:(k==n)=false:=by simpa using(Ne.symm e)
   simp[e1,e2]
theorem b7K:∀(rs:List RA)(n:Nat)(its:List ((r:RA)×r.ty.den)),(∀(k:Nat) it,its[k]?=some it→k<rs.length→rs[k]?=some it.1)→rs.length≤its.length→
  (a3i (a1b rs n++[]) its).map (·.1)=a2u rs n
 | [],n,its,h,hl=>by cases its<;>rfl
 |r::rs,n,[],h,hl=>by simp at hl
 |r::rs,n,it::its,h,hl=>by
  have h0:=h 0 it rfl (by simp);simp only[a01,sj]at h0;have ih:=b7K rs (n+1000) its (fun k it' hk hlt=>by simpa using h (k+1) it' (by simpa using hk) (by simpa using hlt)) (by simpa using hl);obtain⟨r',x⟩:=it;obtain rfl:r=r':=h0;simp only[a1b,a86,a3i];cases r with
  |v t=>simp only[a0K,a2u];exact ih
  |o e=>simp only[a0K,a2u,a30];rw[ih]
  |b t=>simp only[a0K,a2u,a30];rw[ih]
theorem d3l{ks:List Nat}:AV.deeps [] ks=id:=by
 funext a;cases a<;>simp[AV.deeps]
theorem d3m{n:Nat}:∀{it:(r:RA)×r.ty.den},(c4H n it).firm=true→a0K it=none
 |⟨.v t,x⟩,_=>rfl
 |⟨.o e,x⟩,h=>by cases h
 |⟨.b t,x⟩,h=>by cases h
theorem c3t:∀(ns:List Nat)(its:List ((r:RA)×r.ty.den)),(a2R ns its).all AV.firm=true→ns.length=its.length→a3i ns its=[]
 | [],its,_,_=>by cases its<;>rfl
 |k::ns,[],_,h=>by simp at h
 |k::ns,it::its,h,hl=>by
  simp only[a2R,a29,bA]at h;simp only[a3i];rw[d3m h.1];exact c3t ns its h.2 (by simpa using hl)
theorem b1O:∀(ns:List Nat)(its:List ((r:RA)×r.ty.den)) (n:Nat),a1t ns its n≠none→n∈ns
 | [],_,n,h=>absurd rfl h
 |_::_,[],n,h=>absurd rfl h
 |k::ns,it::its,n,h=>by
  simp only[a1t]at h;cases hr:a0K it with
  |none=>rw[hr]at h;exact a05 _ (b1O ns its n h)
  |some r=>
   rw[hr]at h;simp only[]at h
   by_cases e:n=k
   subst e;exact a27
   have:(n==k)=false:=by simpa using e
   rw[this]at h;exact a05 _ (b1O ns its n h)
theorem d4E{c:Call}{f:FuncId}(ho:o.op=.call c)(hb:c.callee=.value (.func f))(hd:o.dst=some d):Uni cx o d Γ:=by
  cases hs:cx.C f with
  |none=>exact Uni.none fun Γ2 hA ρ K=>by simp only[aop,ho,hd,hb,hs]
  |some s=>
    let fz:=s.rs.any RA.hasList || (a4N s.ps).any RA.hasList
    let nm:=a2u s.rs (d+1000)
    have hl:∀a∈c.args.toList.map Γ.opd,∀n∈a.refs,∀Γ2,a1V (a0y o) Γ Γ2→Γ2.look n=Γ.look n:=fun a ha n hn Γ2 hA=>by
      obtain⟨x,hx,rfl⟩:=a19.1 ha;exact hA.look (b1j ho x hx) hn
    have run:∀Γ2,a1V (a0y o) Γ Γ2→∀{ρ:Type}(K:AE→Rs ρ),aop cx true o Γ2 K=(match Γ.pd with
        |some _=>none
        |none=>(Γ.argso fz [] s.ps (c.args.toList.map Γ.opd)).elim none fun x=>bif nm.all (fun n=>decide (n<pinned)&&(Γ2.rt n).isNone)then(s.F x).bind fun y=>
            (let Γ3:AE:=⟨fun i=>(Γ2.sl i).mapv (AV.deeps [] (Γ2.unbx (brw s.ps []))),fun n=>match a1t (a1b s.rs (d+1000)++[]) (a1O (RA.all s.ps s.rs) y) n with
              |some r=>some r
              |none=>Γ2.rt n,none⟩
             match a2R (a1b s.rs (d+1000)) (a1O (RA.all s.ps s.rs) y)with
              | [v]=>K (Γ3.set d v)
              |vs=>K (Γ3.put d (.cmp .tup vs)))else none):=fun Γ2 hA ρ K=>by
      simp only[aop,ho,hd,hb,hs,d0n hA ho];unfold AE.call;rw[hA.1];cases Γ.pd with
      |some p=>rfl
      |none=>
        simp only[];rw[c3s,c9A _ _ _ _ fun a ha n hn=>hl a ha n hn Γ2 hA];cases Γ.argso (s.rs.any RA.hasList || (a4N s.ps).any RA.hasList) [] s.ps (c.args.toList.map Γ.opd)with
        |none=>rfl
        |some x=>
          simp only[a04];rw[c5P];rfl
    cases hpd:Γ.pd with
    |some p=>exact Uni.none fun Γ2 hA ρ K=>by rw[run Γ2 hA,hpd]
    |none=>
      rw[hpd]at run;cases hx:Γ.argso fz [] s.ps (c.args.toList.map Γ.opd)with
      |none=>exact Uni.none fun Γ2 hA ρ K=>by rw[run Γ2 hA,hx];rfl
      |some x=>
        cases hy:s.F x with
        |none=>
          exact Uni.none fun Γ2 hA ρ K=>by
            rw[run Γ2 hA,hx];simp only[a04,hy,a87];cases (nm.all fun n=>decide (n<pinned)&&(Γ2.rt n).isNone)<;>rfl
        |some y=>
          let its:=a1O (RA.all s.ps s.rs) y
          let ns:=a1b s.rs (d+1000)
          let sv:SV:=match a2R ns its with
            | [v]=>.one v
            |vs=>.cmp .tup vs

          have hps:=d1e fz s.ps _ _ x hx;have hall:RA.all s.ps s.rs=s.rs:=by rw[RA.all,hps];simp
          have hlen:its.length=s.rs.length:=by rw[show its=a1O (RA.all s.ps s.rs) y from rfl,a9i,hall]
          have hnm:(a3i (ns++[]) its).map (·.1)=nm:=b7K s.rs (d+1000) its (fun k it hk _=>by
            have:=b3Z (RA.all s.ps s.rs) y k it hk
            rwa [hall]at this) (by omega)
          have hfind:∀n,find (a3i (ns++[]) its) n=a1t (ns++[]) its n:=b4r _ _;refine⟨some ⟨a3i (ns++[]) its,sv⟩,fun δ e=>?_,fun Γ2 hA ρ K=>?_⟩
          · cases e
            refine⟨fun hf=>?_,fun n hn=>?_⟩;rotate_left;rw[hfind n]at hn
            have:=b1O _ _ _ hn
            rw[a28]at this;simp only[a8u,ho,hb,hs];exact a05 _ this;have hall':(a2R ns its).all AV.firm=true:=by
              simp only[sv]at hf
              revert hf
              generalize a2R ns its=vs;intro hf
              split at hf
              simpa[SV.firm]using hf;exact hf
            have:=c3t ns its hall' (by rw[hlen];exact b1M _ _)
            simp only[a28];exact this
          · rw[run Γ2 hA,hx]
            simp only[a04,hy,oB,c0k];rw[show((a3i (ns++[]) its).all fun p=>decide (p.1<pinned)&&(Γ2.rt p.1).isNone)=nm.all fun n=>decide (n<pinned)&&(Γ2.rt n).isNone from by rw[←hnm,List.all_map];rfl];cases (nm.all fun n=>decide (n<pinned)&&(Γ2.rt n).isNone)with
            |false=>rfl
            |true=>
              simp only[cT];have hΓ:∀sv':SV,(⟨fun i=>(Γ2.sl i).mapv (AV.deeps [] (Γ2.unbx (brw s.ps []))),fun n=>match a1t (a1b s.rs (d+1000)++[]) (a1O (RA.all s.ps s.rs) y) n with
                  |some r=>some r
                  |none=>Γ2.rt n,none⟩:AE).put d sv'=(Dl.mk (a3i (ns++[]) its) sv').app d Γ2:=fun sv'=>by
                simp only[AE.put,Dl.app];congr 1;funext i;rw[d3l]
                have:(Γ2.sl i).mapv id=Γ2.sl i:=by cases Γ2.sl i<;>simp[SV.mapv]
                rw[this]
                · funext n
                  rw[hfind n]
                  all_goals rfl
                all_goals exact(hA.1.trans hpd).symm
              simp only[AE.set,hΓ];simp only[sv];show(match a2R ns its with
                | [v]=>K ((Dl.mk (a3i (ns++[]) its) (.one v)).app d Γ2)
                |vs=>K ((Dl.mk (a3i (ns++[]) its) (.cmp .tup vs)).app d Γ2))=_
              generalize a2R ns its=vs
              split<;>rfl
end
section
variable {cx:Cx} {o:Oper} {d:Nat} {Γ:AE}
theorem c4S(hd:o.dst=some d):Uni cx o d Γ:=by
 cases ho:o.op
 case move x=>exact d4x ho hd
 case assign x=>exact d0Z ho hd
 case pick x y u=>exact d4y ho hd
 case alloc t=>exact d3e ho hd
 case box t x=>exact d6x ho hd
 case build t x=>exact d3f ho hd
 case buildSlice t n x=>exact c4R ho hd
 case load t x=>exact d4z ho hd
 case nilCheck x=>exact c7N ho hd
 case binOp op t x y s=>exact d3g ho hd
 case unOp op t x=>exact d4C ho hd
 case convert s t x=>exact c9x ho hd
 case makeSlice t x y=>exact c6O ho hd
 case slice t x u v m=>exact d3h ho hd
 case fieldAddr s x f=>exact c6P ho hd
 case field s x f=>exact d3i ho hd
 case indexAddr t x i=>exact c6Q ho hd
 case index t x i=>exact d3j ho hd
 case extract x i=>exact c9y ho hd
 case makeFunc fn first caps=>exact c7M ho hd
 case store t x y=>exact Uni.none fun Γ2 hA ρ K=>by simp only[aop,ho,hd,if_true]
 case call c=>
  cases hc:c.callee with
  |builtin b=>exact c9z ho hc hd
  |invoke r n=>exact Uni.none fun Γ2 hA ρ K=>by simp only[aop,ho,hd,hc]
  |value v=>
   cases v with
   |func f=>exact d4E ho hc hd
   |tmp t=>exact Uni.none fun Γ2 hA ρ K=>by simp only[aop,ho,hd,hc,if_true]
   |_=>exact Uni.none fun Γ2 hA ρ K=>by simp only[aop,ho,hd,hc]
 all_goals exact Uni.none fun Γ2 hA ρ K=>by simp only[aop,ho,hd]
theorem d4F(Γ:AE){g:Nat}{sv:SV}(h:Γ.sl g=sv):Γ.put g sv=Γ:=by
 obtain⟨sl,rt,pd⟩:=Γ;simp only[AE.put];congr 1;funext i
 by_cases e:i=g
 subst e;simp only[beq_self_eq_true,cT];exact h.symm
 have:(i==g)=false:=by simpa using e
 simp[this]
theorem a6h{ops:Array Oper}{t:Nat}(h:t∈a0y o):t∈o.looksAt ops:=by
 simp only[Oper.looksAt,mA];exact .inl h
theorem c1B{ops:Array Oper}{j g:Nat}{want:Bool}(hg:o.guard=some (j,want))(hj:a8R ops.toList j=some g):g∈o.looksAt ops:=by
 simp only[Oper.looksAt,mA,hg];refine .inr ?_
 have:(ops[j]?).bind (·.dst)=some g:=by simpa[a8R]using hj
 rw[this];simp
def a2X(ops:Array Oper)(o:Oper)(Γ:AE):Option Bool:=match o.guard with
 |none=>some true
 |some (j,want)=>match a8R ops.toList j with
  |none=>none
  |some g=>match Γ.get g with
   |.val .bool (b:Bool)=>some (b==want)
   |.skp=>some false
   |_=>none
theorem b1k{ρ:Type}{ops:Array Oper}{md:Md}(Γ:AE)(K:AE→Rs ρ):a0R cx md ops.toList o Γ K=(match a2X ops o Γ with
  |some true=>a4F cx md o Γ K
  |some false=>K (Γ.setD o.dst .skp)
  |none=>none):=by
 unfold a0R a2X;cases hg:o.guard with
 |none=>rfl
 |some p=>
  obtain⟨j,want⟩:=p;simp only[];cases hj:a8R ops.toList j with
  |none=>rfl
  |some g=>
   simp only[];have hsame:∀(v:AV),v≠.dead→Γ.get g=v→Γ.set g v=Γ:=fun v hv h=>d4F Γ (by
    simp only[AE.get]at h;cases hs:Γ.sl g with
    |one u=>rw[hs]at h;simp only[]at h;rw[h]
    |cmp c0 us=>rw[hs]at h;exact absurd h.symm hv)
   cases hv:Γ.get g with
   |val t b=>
    cases t with
    |bool=>
     have e:Γ.set g (.val .bool b)=Γ:=hsame _ (by simp) hv;cases b<;>cases want<;>simp[e]
    |_=>rfl
   |skp=>simp
   |_=>rfl
theorem a5m{ρ:Type}{ops:Array Oper}{md:Md}(hd:o.dst=some d)(Γ:AE)(K:AE→Rs ρ):a0R cx md ops.toList o Γ K=(match a2X ops o Γ with
  |some true=>a4F cx md o Γ K
  |some false=>K (Γ.put d (.one .skp))
  |none=>none):=by
 rw[b1k,hd];rfl
theorem b0L{ops:Array Oper}{Γ Γ2:AE}(h:∀t∈o.looksAt ops,Γ2.sl t=Γ.sl t):a2X ops o Γ2=a2X ops o Γ:=by
 unfold a2X;cases hg:o.guard with
 |none=>rfl
 |some p=>
  obtain⟨j,want⟩:=p;simp only[];cases hj:a8R ops.toList j with
  |none=>rfl
  |some g=>
   simp only[AE.get];rw[h g (c1B hg hj)]
theorem c7Q{ops:Array Oper}{j g:Nat}{want:Bool}(hg:o.guard=some (j,want))(hj:a8R ops.toList j=some g)(h:a2X ops o Γ≠none):(Γ.sl g).firm=true:=by
 unfold a2X at h;rw[hg]at h;simp only[hj,AE.get]at h;cases hs:Γ.sl g with
 |cmp c0 vs=>rw[hs]at h;exact absurd rfl h
 |one v=>
  rw[hs]at h;cases v<;>first|rfl|exact absurd rfl h
def b7L(T:List Nat)(Γ Γ2:AE):Prop:=Γ2.pd=Γ.pd∧∀t∈T,Γ2.sl t=Γ.sl t∧∀n∈(Γ.sl t).refs,Γ2.rt n=Γ.rt n
theorem b7L.sub{ops:Array Oper}{Γ Γ2:AE}(h:b7L (o.looksAt ops) Γ Γ2):a1V (a0y o) Γ Γ2:=⟨h.1,fun t ht=>h.2 t (a6h ht)⟩
theorem c5Q{α:Type}{l:List (Nat×α)}{n:Nat}:find l n=none↔∀p∈l,p.1≠n:=by
 induction l with
 |nil=>simp[find]
 |cons p l ih=>
  obtain⟨k,x⟩:=p;simp only[find,mC,forall_eq_or_imp]
  by_cases e:k=n
  subst e;simp
  have:(k==n)=false:=by simpa using e
  simp only[this,cF,ih,ne_eq,e,not_false_eq_true,true_and]
theorem c0n{ρ:Type}{r:Option Dl}{Γ2:AE}{K:AE→Rs ρ}{z:ρ}(h:c0k r d Γ2 K=some z):∃δ,r=some δ∧(∀n,find δ.rs n≠none→Γ2.rt n=none)∧K (δ.app d Γ2)=some z∧(δ.rs.all fun p=>decide (p.1<pinned))=true:=by
 cases r with
 |none=>cases h
 |some δ=>
  simp only[c0k]at h;obtain⟨hc,h⟩:=(a0i h).elim id fun h=>by cases h.2
  refine⟨δ,rfl,fun n hn=>?_,h,?_⟩
  by_cases e:∃p∈δ.rs,p.1=n
  obtain⟨p,hp,rfl⟩:=e
  have:=lA.1 hc p hp
  simp only[bA,a40]at this;exact this.2;exact absurd (c5Q.2 fun p hp e'=>e ⟨p,hp,e'⟩) hn;refine lA.2 fun p hp=>?_
  have:=lA.1 hc p hp
  simp only[bA]at this;exact this.1
theorem c4T{ρ:Type}{δ:Dl}{Γ2:AE}{K:AE→Rs ρ}(h1:(δ.rs.all fun p=>decide (p.1<pinned))=true)(h2:∀n,find δ.rs n≠none→Γ2.rt n=none):c0k (some δ) d Γ2 K=K (δ.app d Γ2):=by
 simp only[c0k];rw[show(δ.rs.all fun p=>decide (p.1<pinned)&&(Γ2.rt p.1).isNone)=true from lA.2 fun p hp=>by
  have a:=lA.1 h1 p hp;have b:=h2 p.1 fun e=>c5Q.1 e p hp rfl;simp[b]at a⊢;exact a]
 rfl
theorem c5R{v:AV}(h:v.firm=true):v.refs=[]:=by cases v<;>first|rfl|cases h
theorem b7d{sv:SV}(h:sv.firm=true):sv.refs=[]:=by
 cases sv with
 |one v=>exact c5R h
 |cmp c0 vs=>
  simp only[SV.refs,List.flatMap_eq_nil_iff];exact fun v hv=>c5R (lA.1 h v hv)
theorem d1f{sv:SV}(h:sv.firm=true):sv.alive=true:=by
 have one:∀v:AV,v.firm=true→v.alive=true:=fun v h=>by cases v<;>first|rfl|cases h
 cases sv with
 |one v=>exact one v h
 |cmp c0 vs=>exact lA.2 fun v hv=>one v (lA.1 h v hv)
def a1Y(ops:Array Oper)(o:Oper):List Nat:=match o.guard with
 |none=>[]
 |some (j,_)=>(a8R ops.toList j).toList
theorem a3A{ops:Array Oper}{t:Nat}(h:t∈a1Y ops o):t∈o.looksAt ops:=by
 unfold a1Y at h;cases hg:o.guard with
 |none=>rw[hg]at h;cases h
 |some p=>
  obtain⟨j,want⟩:=p;rw[hg]at h;exact c1B hg (by simpa using h)
theorem a2C{ops:Array Oper}{Γ Γ2:AE}(h:∀t∈a1Y ops o,Γ2.sl t=Γ.sl t):a2X ops o Γ2=a2X ops o Γ:=by
 unfold a2X;unfold a1Y at h;cases hg:o.guard with
 |none=>rfl
 |some p=>
  obtain⟨j,want⟩:=p;rw[hg]at h;simp only[]at h⊢;cases hj:a8R ops.toList j with
  |none=>rfl
  |some g=>
   rw[hj]at h;simp only[AE.get];rw[h g (by simp)]
theorem a9L{ops:Array Oper}(h:a2X ops o Γ≠none):∀t∈a1Y ops o,(Γ.sl t).firm=true:=by
 intro t ht;unfold a1Y at ht;cases hg:o.guard with
 |none=>rw[hg]at ht;cases ht
 |some p=>
  obtain⟨j,want⟩:=p;rw[hg]at ht;exact c7Q hg (by simpa using ht) h
theorem d8j{ρ:Type}{ops:Array Oper}(hd:o.dst=some d){K:AE→Rs ρ}{z:ρ}(hz:a0R cx .q ops.toList o Γ K=some z):
  ∃(δ:Dl)(L:List Nat),(∀t∈L,t∈o.looksAt ops∧∀n∈(Γ.sl t).refs,Γ.rt n≠none)∧K (δ.app d Γ)=some z∧(∀n,find δ.rs n≠none→Γ.rt n=none)∧
   ∀Γ2,b7L L Γ Γ2→(∀n,find δ.rs n≠none→Γ2.rt n=none)→∀{ρ2:Type}(K2:AE→Rs ρ2),a0R cx .q ops.toList o Γ2 K2=K2 (δ.app d Γ2):=by
 rw[a5m hd]at hz;cases hl:a2X ops o Γ with
 |none=>rw[hl]at hz;cases hz
 |some b=>
  have hgf:=a9L (ops:=ops) (Γ:=Γ) (o:=o) (by rw[hl];simp);have hgr:∀t∈a1Y ops o,t∈o.looksAt ops∧∀n∈(Γ.sl t).refs,Γ.rt n≠none:=fun t ht=>⟨a3A ht,fun n hn=>by rw[b7d (hgf t ht)]at hn;cases hn⟩;rw[hl]at hz;cases b with
  |false=>
   refine⟨⟨[],.one .skp⟩,a1Y ops o,hgr,hz,fun n hn=>absurd rfl hn,fun Γ2 hA _ ρ2 K2=>?_⟩;rw[a5m hd,a2C fun t ht=>(hA.2 t ht).1,hl];rfl
  |true=>
   simp only[a4F,hd]at hz;obtain⟨hc,hz⟩:=(a0i hz).elim id fun h=>by cases h.2
   have hrefs:∀t∈a0y o,∀n∈(Γ.sl t).refs,Γ.rt n≠none:=fun t ht n hn=>by
    obtain⟨x,hx,hxt⟩:=a33.1 ht
    have:=lA.1 hc x hx
    cases x with
    |tmp t'=>
     simp only[sj]at hxt;subst hxt
     have:=lA.1 this n hn
     exact a31.1 this
    |_=>cases hxt
   obtain⟨r,hr0,hr⟩:=c4S (cx:=cx) (Γ:=Γ) hd;rw[hr Γ a1V.refl]at hz;obtain⟨δ,rfl,h1,h2,h3⟩:=c0n hz;refine⟨δ,a0y o++a1Y ops o,fun t ht=>?_,h2,h1,fun Γ2 hA hn ρ2 K2=>?_⟩;rcases mA.1 ht with ht|ht;exact⟨a6h ht,hrefs t ht⟩;exact hgr t ht
   ·rw[a5m hd,a2C fun t ht=>(hA.2 t (a06 _ ht)).1,hl];simp only[a4F,hd];have hA':a1V (a0y o) Γ Γ2:=⟨hA.1,fun t ht=>hA.2 t (a16 _ ht)⟩;refine(congrArg (fun b=>bif b then _ else none) (lA.2 fun x hx=>?_)).trans ?_
    ·cases x with
     |tmp t=>
      simp only[];have ht:=a3f hx;refine lA.2 fun n hn=>?_
      rw[(hA'.2 t ht).1]at hn;rw[(hA'.2 t ht).2 n hn];exact a31.2 (hrefs t ht n hn)
     |_=>rfl
    simp only[cT];rw[hr Γ2 hA'];exact c4T h3 hn
theorem c4U{v:AV}(h:v.firm=true):v.calm=true:=by
 cases v with
 |ptr n p=>cases h
 |_=>exact h
theorem b5B{sv:SV}(h:sv.firm=true):sv.calm=true:=by
 cases sv with
 |one v=>exact c4U h
 |cmp c vs=>exact h
theorem b7e{Γ Γ2:AE}(h:∀t∈a0y o,Γ2.sl t=Γ.sl t):b3d o Γ2=b3d o Γ:=by
 unfold b3d;split
 ·rename_i x hx;cases x with
  |tmp t=>simp only[c1h,h t (by simp[a0y,hx,Op.operands])]
  |_=>rfl
 ·rename_i x hx;cases x with
  |tmp t=>simp only[c1h,h t (by simp[a0y,hx,Op.operands])]
  |_=>rfl
 rfl
theorem d1g{ρ:Type}{ops:Array Oper}(hd:o.dst=some d){K:AE→Rs ρ}{z:ρ}(hz:a0R cx .v ops.toList o Γ K=some z):
  ∃(sv:SV)(L:List Nat),sv.calm=true∧(∀t∈L,t∈o.looksAt ops∧(Γ.sl t).calm=true)∧K (Γ.put d sv)=some z∧
   ∀Γ2,Γ2.pd=Γ.pd→(∀t∈L,Γ2.sl t=Γ.sl t)→∀{ρ2:Type}(K2:AE→Rs ρ2),a0R cx .v ops.toList o Γ2 K2=K2 (Γ2.put d sv):=by
 rw[a5m hd]at hz;cases hl:a2X ops o Γ with
 |none=>rw[hl]at hz;cases hz
 |some b=>
  have hgf:=a9L (ops:=ops) (Γ:=Γ) (o:=o) (by rw[hl];simp);rw[hl]at hz;cases b with
  |false=>
   refine⟨.one .skp,a1Y ops o,rfl,fun t ht=>⟨a3A ht,b5B (hgf t ht)⟩,hz,fun Γ2 _ hA ρ2 K2=>?_⟩;rw[a5m hd,a2C hA,hl]
  |true=>
   simp only[a4F,hd]at hz;cases hp:b3d o Γ with
   |some n=>
    rw[hp]at hz;obtain⟨t,ho,hs,hn⟩:=b8F hp;have htm:t∈a0y o:=by
     rcases ho with ho|ho<;>simp[a0y,ho,Op.operands]
    have hcalm:(Γ.sl t).calm=true:=by rw[hs];simpa[SV.calm,AV.calm]using hn
    refine⟨.one (.ptr n []),[t]++a1Y ops o,by simpa[SV.calm,AV.calm]using hn,fun t' ht=>?_,hz,fun Γ2 hpd hA ρ2 K2=>?_⟩;rcases mA.1 ht with ht|ht;obtain rfl:t'=t:=by simpa using ht
    exact⟨a6h htm,hcalm⟩;exact⟨a3A ht,b5B (hgf t' ht)⟩;rw[a5m hd,a2C fun t' ht=>hA t' (a06 _ ht),hl];simp only[a4F,hd];rw[b7e (fun t' ht'=>by
     have:t'=t:=by rcases ho with ho|ho<;>simpa[a0y,ho,Op.operands]using ht'
     subst this;exact hA t' (by simp)),hp]
   |none=>
   rw[hp]at hz;simp only[]at hz;obtain⟨hc,hz⟩:=(a0i hz).elim id fun h=>by cases h.2
   have hfirm:∀t∈a0y o,(Γ.sl t).firm=true:=fun t ht=>by
    obtain⟨x,hx,hxt⟩:=a33.1 ht
    have:=lA.1 hc x hx
    cases x with
    |tmp t'=>simp only[sj]at hxt;subst hxt;exact this
    |_=>cases hxt
   obtain⟨r,hr0,hr⟩:=c4S (cx:=cx) (Γ:=Γ) hd;rw[hr Γ a1V.refl]at hz;obtain⟨δ,rfl,h1,h2,h3⟩:=c0n hz;obtain⟨hf,h2⟩:=(a0i h2).elim id fun h=>by cases h.2
   have hsv:δ.sv.firm=true:=by simpa[Dl.app]using hf
   have hrs:=(hr0 δ rfl).1 hsv;obtain⟨rs,sv⟩:=δ;simp only at hrs hsv;subst hrs;refine⟨sv,a0y o++a1Y ops o,b5B hsv,fun t ht=>?_,h2,fun Γ2 hpd hA ρ2 K2=>?_⟩;rcases mA.1 ht with ht|ht;exact⟨a6h ht,b5B (hfirm t ht)⟩;exact⟨a3A ht,b5B (hgf t ht)⟩
   ·rw[a5m hd,a2C fun t ht=>hA t (a06 _ ht),hl];simp only[a4F,hd];have hA':∀t∈a0y o,Γ2.sl t=Γ.sl t:=fun t ht=>hA t (a16 _ ht);have hAg:a1V (a0y o) Γ Γ2:=⟨hpd,fun t ht=>⟨hA' t ht,fun n hn=>by rw[b7d (hfirm t ht)]at hn;cases hn⟩⟩;rw[b7e hA',hp];simp only[];refine(congrArg (fun b=>bif b then _ else none) (lA.2 fun x hx=>?_)).trans ?_
    ·cases x with
     |tmp t=>
      simp only[];rw[hA' t (a3f hx)];exact hfirm t (a3f hx)
     |_=>rfl
    simp only[cT];rw[hr Γ2 hAg,c4T h3 (fun n hn=>absurd rfl hn)];show(bif (((Dl.mk [] sv).app d Γ2).sl d).firm then K2 ((Dl.mk [] sv).app d Γ2)else none)=_;rw[show((Dl.mk [] sv).app d Γ2).sl d=sv from by simp[Dl.app],hsv];rfl
theorem c3u{ρ:Type}{ops:Array Oper}(hd:o.dst=some d){K:AE→Rs ρ}{z:ρ}(hz:a0R cx .p ops.toList o Γ K=some z):
  ∃(sv:SV)(L:List Nat),sv.calm=true∧(∀t∈L,t∈o.looksAt ops∧(Γ.sl t).calm=true)∧K (Γ.put d sv)=some z∧
   ∀Γ2,(∀t∈L,Γ2.sl t=Γ.sl t)→∀{ρ2:Type}(K2:AE→Rs ρ2),a0R cx .p ops.toList o Γ2 K2=K2 (Γ2.put d sv):=by
 rw[a5m hd]at hz;cases hl:a2X ops o Γ with
 |none=>rw[hl]at hz;cases hz
 |some b=>
  have hgf:=a9L (ops:=ops) (Γ:=Γ) (o:=o) (by rw[hl];simp);rw[hl]at hz;cases b with
  |false=>
   refine⟨.one .skp,a1Y ops o,rfl,fun t ht=>⟨a3A ht,b5B (hgf t ht)⟩,hz,fun Γ2 hA ρ2 K2=>?_⟩;rw[a5m hd,a2C hA,hl]
  |true=>
   simp only[a4F,hd]at hz;cases hp:b3d o Γ with
   |none=>rw[hp]at hz;cases hz
   |some n=>
    rw[hp]at hz;obtain⟨t,ho,hs,hn⟩:=b8F hp;have htm:t∈a0y o:=by
     rcases ho with ho|ho<;>simp[a0y,ho,Op.operands]
    have hcalm:(Γ.sl t).calm=true:=by rw[hs];simpa[SV.calm,AV.calm]using hn
    refine⟨.one (.ptr n []),[t]++a1Y ops o,by simpa[SV.calm,AV.calm]using hn,fun t' ht=>?_,hz,fun Γ2 hA ρ2 K2=>?_⟩;rcases mA.1 ht with ht|ht;obtain rfl:t'=t:=by simpa using ht
    exact⟨a6h htm,hcalm⟩;exact⟨a3A ht,b5B (hgf t' ht)⟩;rw[a5m hd,a2C fun t' ht=>hA t' (a06 _ ht),hl];simp only[a4F,hd];rw[b7e (fun t' ht'=>by
     have:t'=t:=by rcases ho with ho|ho<;>simpa[a0y,ho,Op.operands]using ht'
     subst this;exact hA t' (by simp)),hp]
theorem b2M{a b:List Nat}(h:b9S a b=true){n:Nat}(hn:n∈a):n∈b:=by
 have:=lA.1 h n hn
 simpa using this
theorem d1h{ρ:Type}{ops:Array Oper}{ns:List Nat}(hd:o.dst=some d){K:AE→Rs ρ}{z:ρ}(hz:a0R cx (.r ns) ops.toList o Γ K=some z):
  ∃(δ:Dl)(L:List Nat),(∀t∈L,t∈o.looksAt ops∧(Γ.sl t).alive=true∧∀n∈(Γ.sl t).refs,Γ.rt n≠none∧n∈ns)∧K (δ.app d Γ)=some z∧(∀n,find δ.rs n≠none→Γ.rt n=none∧n∈ns)∧(∀n∈δ.sv.refs,n∈ns)∧
   ∀Γ2,b7L L Γ Γ2→(∀n,find δ.rs n≠none→Γ2.rt n=none)→∀{ρ2:Type}(K2:AE→Rs ρ2),a0R cx (.r ns) ops.toList o Γ2 K2=K2 (δ.app d Γ2):=by
 rw[a5m hd]at hz;cases hl:a2X ops o Γ with
 |none=>rw[hl]at hz;cases hz
 |some b=>
  have hgf:=a9L (ops:=ops) (Γ:=Γ) (o:=o) (by rw[hl];simp);have hgr:∀t∈a1Y ops o,t∈o.looksAt ops∧(Γ.sl t).alive=true∧∀n∈(Γ.sl t).refs,Γ.rt n≠none∧n∈ns:=fun t ht=>⟨a3A ht,d1f (hgf t ht),fun n hn=>by rw[b7d (hgf t ht)]at hn;cases hn⟩;rw[hl]at hz;cases b with
  |false=>
   refine⟨⟨[],.one .skp⟩,a1Y ops o,hgr,hz,fun n hn=>absurd rfl hn,fun n hn=>(by cases hn),fun Γ2 hA _ ρ2 K2=>?_⟩;rw[a5m hd,a2C fun t ht=>(hA.2 t ht).1,hl];rfl
  |true=>
   simp only[a4F,hd]at hz;obtain⟨hc,hz⟩:=(a0i hz).elim id fun h=>by cases h.2
   obtain⟨hc,hnm⟩:=a21.1 hc;have hrefs:∀t∈a0y o,(Γ.sl t).alive=true∧∀n∈(Γ.sl t).refs,Γ.rt n≠none∧n∈ns:=fun t ht=>by
    obtain⟨x,hx,hxt⟩:=a33.1 ht
    have:=lA.1 hc x hx
    cases x with
    |tmp t'=>
     simp only[sj]at hxt;subst hxt;obtain⟨h1,h2⟩:=a21.1 this;refine⟨h1,fun n hn=>?_⟩;obtain⟨h3,h4⟩:=a21.1 (lA.1 h2 n hn);exact⟨a31.1 h3,by simpa using h4⟩
    |_=>cases hxt
   obtain⟨r,hr0,hr⟩:=c4S (cx:=cx) (Γ:=Γ) hd;rw[hr Γ a1V.refl]at hz;obtain⟨δ,rfl,h1,h2,h3⟩:=c0n hz;obtain⟨hsub,h2⟩:=(a0i h2).elim id fun h=>by cases h.2
   have hsv:(δ.app d Γ).sl d=δ.sv:=by simp[Dl.app]
   rw[hsv]at hsub;refine⟨δ,a0y o++a1Y ops o,fun t ht=>?_,h2,fun n hn=>⟨h1 n hn,?_⟩,fun n hn=>b2M hsub hn,fun Γ2 hA hn ρ2 K2=>?_⟩;rcases mA.1 ht with ht|ht;exact⟨a6h ht,hrefs t ht⟩;exact hgr t ht
   have:=(hr0 δ rfl).2 n hn
   refine b2M hnm ?_
   rwa [show(some d).getD 0=d from rfl]
   ·rw[a5m hd,a2C fun t ht=>(hA.2 t (a06 _ ht)).1,hl];simp only[a4F,hd];have hA':a1V (a0y o) Γ Γ2:=⟨hA.1,fun t ht=>hA.2 t (a16 _ ht)⟩;refine(congrArg (fun b=>bif b then _ else none) (a21.2 ⟨lA.2 fun x hx=>?_,hnm⟩)).trans ?_
    ·cases x with
     |tmp t=>
      simp only[];have ht:=a3f hx;have hs:=(hA'.2 t ht).1;refine a21.2 ⟨by rw[hs];exact(hrefs t ht).1,lA.2 fun n hn=>?_⟩;rw[hs]at hn;rw[(hA'.2 t ht).2 n hn];exact a21.2 ⟨a31.2 ((hrefs t ht).2 n hn).1,by simpa using((hrefs t ht).2 n hn).2⟩
     |_=>rfl
    simp only[cT];rw[hr Γ2 hA',c4T h3 hn];show(bif b9S ((δ.app d Γ2).sl d).refs ns then K2 (δ.app d Γ2)else none)=_;rw[show(δ.app d Γ2).sl d=δ.sv from by simp[Dl.app],hsub];rfl
def Md.reads:Md→Nat→Prop
 |.q,_=>True
 |.r ns,n=>n∈ns
 |_,_=>False
def Md.quiet:Md→Prop
 |.v|.p|.q|.r _=>True
 |_=>False
def Md.isV:Md→Bool
 |.v|.p=>true
 |_=>false
def c7R(md:Md)(T:List Nat)(Γ Γ2:AE):Prop:=Γ2.pd=Γ.pd∧∀t∈T,Γ2.sl t=Γ.sl t∧∀n∈(Γ.sl t).refs,md.isV=false→Γ2.rt n=Γ.rt n
theorem c7S{ρ:Type}{ops:Array Oper}{md:Md}(hmd:md.quiet)(hd:o.dst=some d){K:AE→Rs ρ}{z:ρ}(hz:a0R cx md ops.toList o Γ K=some z):
  ∃(δ:Dl)(L:List Nat),(∀t∈L,t∈o.looksAt ops∧∀n∈(Γ.sl t).refs,md.isV=false→md.reads n∧Γ.rt n≠none)∧K (δ.app d Γ)=some z∧(∀n,find δ.rs n≠none→Γ.rt n=none)∧
   ∀Γ2,c7R md L Γ Γ2→(∀n,find δ.rs n≠none→Γ2.rt n=none)→∀{ρ2:Type}(K2:AE→Rs ρ2),a0R cx md ops.toList o Γ2 K2=K2 (δ.app d Γ2):=by
 cases md with
 |v=>
  obtain⟨sv,L,h1,h2,h3,h4⟩:=d1g hd hz;exact⟨⟨[],sv⟩,L,fun t ht=>⟨(h2 t ht).1,fun n hn e=>by cases e⟩,h3,fun n hn=>absurd rfl hn,fun Γ2 hA _ ρ2 K2=>h4 Γ2 hA.1 (fun t ht=>(hA.2 t ht).1) K2⟩
 |q=>
  obtain⟨δ,L,h1,h2⟩:=d8j hd hz;exact⟨δ,L,fun t ht=>⟨(h1 t ht).1,fun n hn _=>⟨trivial,(h1 t ht).2 n hn⟩⟩,h2.1,h2.2.1,fun Γ2 hA=>h2.2.2 Γ2 ⟨hA.1,fun t ht=>⟨(hA.2 t ht).1,fun n hn=>(hA.2 t ht).2 n hn rfl⟩⟩⟩
 |r ns=>
  obtain⟨δ,L,h1,h2,h3,-,h4⟩:=d1h hd hz;exact⟨δ,L,fun t ht=>⟨(h1 t ht).1,fun n hn _=>⟨((h1 t ht).2.2 n hn).2,((h1 t ht).2.2 n hn).1⟩⟩,h2,fun n hn=>(h3 n hn).1,fun Γ2 hA=>h4 Γ2 ⟨hA.1,fun t ht=>⟨(hA.2 t ht).1,fun n hn=>(hA.2 t ht).2 n hn rfl⟩⟩⟩
 |p=>
  obtain⟨sv,L,h1,h2,h3,h4⟩:=c3u hd hz;exact⟨⟨[],sv⟩,L,fun t ht=>⟨(h2 t ht).1,fun n hn e=>by cases e⟩,h3,fun n hn=>absurd rfl hn,fun Γ2 hA _ ρ2 K2=>h4 Γ2 (fun t ht=>(hA.2 t ht).1) K2⟩
 |x=>cases hmd
 |a ws=>cases hmd
 |w ws=>cases hmd
end
def FP(f:AV→AV):Prop:=(∀v:AV,v.calm=true→f v=v)∧∀v:AV,(f v).calm=true→f v=v
theorem FP.id:FP id:=⟨fun _ _=>rfl,fun _ _=>rfl⟩
def FW(W:List Nat)(f:AV→AV):Prop:=(∀v:AV,(∀n∈v.refs,n∉W)→f v=v)∧(∀v:AV,f v=v∨f v=.dead)∧∀n,pinned≤n→f (.ptr n [])=.ptr n []
theorem FW.id{W:List Nat}:FW W id:=⟨fun _ _=>rfl,fun _=>.inl rfl,fun _ _=>rfl⟩
theorem FW.comp{W:List Nat}{f g:AV→AV}(hf:FW W f)(hg:FW W g)(hd:g .dead=.dead:=by rfl):FW W (fun v=>g (f v)):=by
 refine⟨fun v h=>?_,fun v=>?_,fun n hn=>?_⟩;show g (f v)=v;rw[hf.1 v h];exact hg.1 v h;show g (f v)=v∨g (f v)=.dead;rcases hf.2.1 v with h|h;rw[h];exact hg.2.1 v;rw[h];exact .inr hd;show g (f _)=_;rw[hf.2.2 n hn];exact hg.2.2 n hn
theorem FW.dead{W:List Nat}{f:AV→AV}(hf:FW W f):f .dead=.dead:=(hf.2.1 .dead).elim _root_.id _root_.id
theorem FW.fp{W:List Nat}{f:AV→AV}(hf:FW W f):FP f:=by
 refine⟨fun v h=>?_,fun v h=>?_⟩
 ·cases v with
  |ptr n p=>
   cases p with
   |nil=>exact hf.2.2 n (by simpa[AV.calm]using h)
   |cons=>simp[AV.calm,AV.firm]at h
  |sref=>cases h
  |swin=>cases h
  |_=>exact hf.1 _ fun n hn=>(by cases hn)
 rcases hf.2.1 v with g|g;exact g;rw[g]at h;cases h
theorem nb{W:List Nat}{m n:Nat}(hn:n∈W)(h:∀k∈[m],k∉W):(m==n)=false:=by
 simp only[beq_eq_false_iff_ne];intro e;exact h m (by simp) (e▸hn)
theorem FW.drop{W:List Nat}{n:Nat}(hn:n∈W)(hp:n<pinned):FW W (AV.drop n):=by
 refine⟨fun v h=>?_,fun v=>?_,fun m hm=>?_⟩
 ·cases v with
  |ptr m q=>simp only[AV.drop,nb hn h,a03,if_false]
  |sref m q=>simp only[AV.drop,nb hn h,a03,if_false]
  |swin m q o l=>simp only[AV.drop,nb hn h,a03,if_false]
  |_=>rfl
 ·cases v with
  |ptr m q=>simp only[AV.drop];split<;>simp
  |sref m q=>simp only[AV.drop];split<;>simp
  |swin m q o l=>simp only[AV.drop];split<;>simp
  |_=>exact .inl rfl
 have:(m==n)=false:=by simp only[beq_eq_false_iff_ne];omega
 simp[AV.drop,this]
theorem FW.kill{W:List Nat}{n:Nat}(hn:n∈W)(p:a0P):FW W (AV.kill n p):=by
 refine⟨fun v h=>?_,fun v=>?_,fun m hm=>by simp[AV.kill]⟩
 ·cases v with
  |ptr m q=>simp only[AV.kill,nb hn h,a72,a03,if_false]
  |sref m q=>simp only[AV.kill,nb hn h,a72,a03,if_false]
  |swin m q o l=>simp only[AV.kill,nb hn h,a72,a03,if_false]
  |_=>rfl
 ·cases v with
  |ptr m q=>simp only[AV.kill];split<;>simp
  |sref m q=>simp only[AV.kill];split<;>simp
  |swin m q o l=>simp only[AV.kill];split<;>simp
  |_=>exact .inl rfl
theorem FW.deeps{W us ks:List Nat}(hu:∀n∈us,n∈W):FW W (AV.deeps us ks):=by
 have nu:∀m,(∀k∈[m],k∉W)→us.contains m=false:=fun m h=>by
  cases hc:us.contains m with
  |false=>rfl
  |true=>exact absurd (hu m (a20.1 hc)) (h m (by simp))
 refine⟨fun v h=>?_,fun v=>?_,fun m hm=>by simp[AV.deeps]⟩
 ·cases v with
  |ptr m q=>simp only[AV.deeps,nu m h,a03,if_false]
  |sref m q=>simp only[AV.deeps,nu m h,a03,if_false]
  |swin m q o l=>simp only[AV.deeps,nu m h,a03,if_false]
  |_=>rfl
 ·cases v with
  |ptr m q=>
   simp only[AV.deeps];split;cases q<;>simp
   simp
  |sref m q=>
   simp only[AV.deeps];split
   ·cases q with
    |nil=>simp only[];split<;>simp
    |cons=>simp
   simp
  |swin m q o l=>simp only[AV.deeps];split<;>simp
  |_=>exact .inl rfl
theorem FP.sv{f:AV→AV}(hf:FP f){sv:SV}(h:sv.calm=true):sv.mapv f=sv:=by
 cases sv with
 |one v=>simp only[SV.mapv];rw[hf.1 v h]
 |cmp c0 vs=>
  simp only[SV.mapv];congr 1;refine(a17 fun v hv=>hf.1 v (c4U (lA.1 h v hv))).trans (a54 _)
theorem FP.sv'{f:AV→AV}(hf:FP f){sv:SV}(h:(sv.mapv f).calm=true):sv.mapv f=sv:=by
 cases sv with
 |one v=>simp only[SV.mapv]at h⊢;rw[hf.2 v h]
 |cmp c0 vs=>
  simp only[SV.mapv]at h⊢;congr 1;refine(a17 fun v hv=>hf.2 v (c4U (lA.1 h _ (a78 hv)))).trans (a54 _)
theorem FW.sv{W:List Nat}{f:AV→AV}(hf:FW W f){sv:SV}(h:∀n∈sv.refs,n∉W):sv.mapv f=sv:=by
 cases sv with
 |one v=>simp only[SV.mapv];rw[hf.1 v h]
 |cmp c0 vs=>
  simp only[SV.mapv];congr 1;refine(a17 fun v hv=>hf.1 v fun n hn=>h n (a47.2 ⟨v,hv,hn⟩)).trans (a54 _)
theorem FW.sv'{W:List Nat}{f:AV→AV}(hf:FW W f){sv:SV}(h:(sv.mapv f).alive=true):sv.mapv f=sv:=by
 have one:∀v:AV,(f v).alive=true→f v=v:=fun v hv=>by
  rcases hf.2.1 v with g|g;exact g;rw[g]at hv;cases hv
 cases sv with
 |one v=>simp only[SV.mapv]at h⊢;rw[one v h]
 |cmp c0 vs=>
  simp only[SV.mapv]at h⊢;congr 1;refine(a17 fun v hv=>one v (lA.1 h _ (a78 hv))).trans (a54 _)
theorem FW.refs{W:List Nat}{f:AV→AV}(hf:FW W f){sv:SV}{n:Nat}(hn:n∈(sv.mapv f).refs):n∈sv.refs:=by
 have one:∀v:AV,n∈(f v).refs→n∈v.refs:=fun v hv=>by
  rcases hf.2.1 v with g|g
  rwa [g]at hv
  rw[g]at hv;cases hv
 cases sv with
 |one v=>exact one v hn
 |cmp c0 vs=>
  simp only[SV.mapv,SV.refs,a47]at hn⊢;obtain⟨u,hu,hn⟩:=hn;obtain⟨v,hv,rfl⟩:=a19.1 hu;exact⟨v,hv,one v hn⟩
structure MDl where
 f:AV→AV
 rt:Nat→Option Root
 sv:SV

 pd:Option (Nat×a0P×Nat):=none
def a4V(W:List Nat)(m:MDl)(d:Option Nat)(Γ:AE):AE:=⟨fun i=>bif d==some i then m.sv else(Γ.sl i).mapv m.f,fun n=>bif W.contains n then m.rt n else Γ.rt n,Γ.pd⟩
def a9M(W:List Nat)(m:MDl)(d:Option Nat)(Γ:AE):AE:={ a4V W m d Γ with pd:=match m.pd with|none=>Γ.pd|some x=>some x }
theorem c7k{W:List Nat}{m:MDl}{d:Option Nat}{Γ:AE}(h:m.pd=none):a9M W m d Γ=a4V W m d Γ:=by simp only[a9M,h];rfl
theorem c5S(f g:AV→AV)(sv:SV):(sv.mapv f).mapv g=sv.mapv fun v=>g (f v):=by
 cases sv with
 |one v=>rfl
 |cmp c0 vs=>simp[SV.mapv,Function.comp_def]
theorem b5C(sv:SV):sv.mapv id=sv:=by cases sv<;>simp[SV.mapv]
section
variable {g:Bool} {cx:Cx} {o:Oper} {d:Nat} {Γ:AE} {W:List Nat}
def d7u{ρ:Type}(K:AE→Rs ρ):AE→Rs ρ:=fun Γ'=>match Γ'.pd with
 |none=>K Γ'
 |some _=>none
def a1z(W T:List Nat)(Γ Γ2:AE):Prop:=Γ2.pd=Γ.pd∧(∀n∈W,Γ2.rt n=Γ.rt n)∧∀t∈T,Γ2.sl t=Γ.sl t
theorem a1z.refl{T:List Nat}:a1z W T Γ Γ:=⟨rfl,fun _ _=>rfl,fun _ _=>rfl⟩
theorem a1z.opd{Γ2:AE}(h:a1z W (a0y o) Γ Γ2){x:Operand}(hx:x∈o.op.operands.toList):Γ2.opd x=Γ.opd x:=by
 cases x with
 |tmp t=>simp only[AE.opd,AE.get];rw[h.2.2 t (a3f hx)]
 |_=>rfl
theorem a1z.aggOf{Γ2:AE}(h:a1z W (a0y o) Γ Γ2){x:Operand}(hx:x∈o.op.operands.toList):Γ2.aggOf x=Γ.aggOf x:=by
 cases x with
 |tmp t=>simp only[AE.aggOf];rw[h.2.2 t (a3f hx)]
 |_=>rfl
theorem a1z.look{T:List Nat}{Γ2:AE}(h:a1z W T Γ Γ2){n:Nat}(hn:n∈W):Γ2.look n=Γ.look n:=by
 simp only[AE.look,h.1,h.2.1 n hn]
def c7l{ρ:Type}(W:List Nat)(r:Option MDl)(d:Option Nat)(Γ2:AE)(K:AE→Rs ρ):Rs ρ:=match r with
 |none=>none
 |some m=>K (a9M W m d Γ2)
def gPd{ρ:Type}(g:Bool)(K:AE→Rs ρ):AE→Rs ρ:=bif g then d7u K else K
def a1A(g:Bool)(cx:Cx)(o:Oper)(d:Option Nat)(Γ:AE)(W:List Nat):Prop:=
 ∃r:Option MDl,(∀m,r=some m→FW W m.f∧(g=true→m.pd=none))∧∀Γ2,a1z W (a0y o) Γ Γ2→∀{ρ:Type}(K:AE→Rs ρ),aop cx false o Γ2 (gPd g K)=c7l W r d Γ2 K
theorem a1A.none{d:Option Nat}(h:∀Γ2,a1z W (a0y o) Γ Γ2→∀{ρ:Type}(K:AE→Rs ρ),aop cx false o Γ2 (gPd g K)=none):a1A g cx o d Γ W:=⟨.none,by simp,fun Γ2 hA ρ K=>h Γ2 hA K⟩
theorem a1A.some{d:Option Nat}(f:AV→AV)(hf:FW W f)(sv:SV)(S:List Nat)(hS:∀n∈S,n∈W)(gr:Nat→Option Root)
  (h:∀Γ2,a1z W (a0y o) Γ Γ2→∀{ρ:Type}(K:AE→Rs ρ),aop cx false o Γ2 (gPd g K)=K ⟨fun i=>bif d==some i then sv else(Γ2.sl i).mapv f,fun n=>bif S.contains n then gr n else Γ2.rt n,Γ2.pd⟩):a1A g cx o d Γ W:=by
 refine⟨.some ⟨f,fun n=>bif S.contains n then gr n else Γ.rt n,sv,.none⟩,fun m hm=>by cases hm;exact⟨hf,fun _=>rfl⟩,fun Γ2 hA ρ K=>?_⟩;rw[h Γ2 hA K];simp only[c7l,a9M,a4V];congr 2;funext n;cases hs:S.contains n with
 |true=>
  have:W.contains n=true:=a20.2 (hS n (a20.1 hs))
  rw[this];rfl
 |false=>
  cases hw:W.contains n with
  |true=>simp only[cF,cT];exact hA.2.1 n (a20.1 hw)
  |false=>rfl
theorem d1i{d:Option Nat}(f:AV→AV)(hf:FW W f)(sv:SV)(S:List Nat)(hS:∀n∈S,n∈W)(gr:Nat→Option Root)(pd:Nat×a0P×Nat)(hg:g=false)
  (h:∀Γ2,a1z W (a0y o) Γ Γ2→∀{ρ:Type}(K:AE→Rs ρ),aop cx false o Γ2 (gPd g K)=K ⟨fun i=>bif d==some i then sv else(Γ2.sl i).mapv f,fun n=>bif S.contains n then gr n else Γ2.rt n,.some pd⟩):a1A g cx o d Γ W:=by
 refine⟨.some ⟨f,fun n=>bif S.contains n then gr n else Γ.rt n,sv,.some pd⟩,fun m hm=>by cases hm;exact⟨hf,fun e=>by rw[hg]at e;cases e⟩,fun Γ2 hA ρ K=>?_⟩;rw[h Γ2 hA K];simp only[c7l,a9M,a4V];congr 2;funext n;cases hs:S.contains n with
 |true=>
  have:W.contains n=true:=a20.2 (hS n (a20.1 hs))
  rw[this];rfl
 |false=>
  cases hw:W.contains n with
  |true=>simp only[cF,cT];exact hA.2.1 n (a20.1 hw)
  |false=>rfl
theorem b1l{ρ:Type}{K:AE→Rs ρ}{Γ':AE}(h:Γ'.pd=none):gPd g K Γ'=K Γ':=by cases g<;>simp only[gPd,d7u,h,cT,cF]
theorem a2T(n m:Nat):[m].contains n=(n==m):=by simp only[List.contains,List.elem];cases (n==m)<;>rfl
theorem d0o{ρ:Type}{Γ2:AE}(hpd:Γ2.pd=none)(r:Root)(v:AV)(K:AE→Rs ρ):(Γ2.fresh false d r fun Γ=>K (Γ.set d v)) =
  bif decide (d<pinned)then K ⟨fun i=>bif some d==some i then .one v else(Γ2.sl i).mapv (match Γ2.rt d with|none=>id|some _=>AV.drop d),fun n=>bif [d].contains n then some r else Γ2.rt n,Γ2.pd⟩else none:=by
 have e1:∀i,(some d==some i)=(i==d):=fun i=>by
  by_cases h:i=d
  subst h;simp;have h1:(i==d)=false:=by simpa using h
  have h2:(some d==some i)=false:=by simpa using Ne.symm h
  rw[h1,h2]
 unfold AE.fresh;cases decide (d<pinned);rfl
 ·simp only[cT];cases hr:Γ2.rt d with
  |none=>
   simp only[AE.newRt,hr];congr 1;simp only[AE.set,AE.put,AE.setRt,a2T,e1];congr 1;funext i;rw[b5C]
  |some r0=>
   simp only[cF,AE.look,hpd,hr,AE.newRt];congr 1;simp only[AE.set,AE.put,AE.setRt,a2T,e1,AE.mapv,hpd]
theorem c5T(hpd:Γ.pd=none)(hdW:d∈W){e:Ty}{x:AV}(hxW:∀n∈x.refs,n∈W){ys:Option (List e.den)}(h:∀Γ2,a1z W (a0y o) Γ Γ2→∀{ρ:Type}(K:AE→Rs ρ),aop cx false o Γ2 K=ys.elim none fun ys=>Γ2.apnd false d e x ys K):a1A g cx o (some d) Γ W:=by
 have e1:∀i,(some d==some i)=(i==d):=fun i=>by
  by_cases h:i=d
  subst h;simp;have h1:(i==d)=false:=by simpa using h
  have h2:(some d==some i)=false:=by simpa using Ne.symm h
  rw[h1,h2]
 cases ys with
 |none=>exact a1A.none fun Γ2 hA ρ K=>h Γ2 hA _
 |some ys=>
  have h:∀Γ2,a1z W (a0y o) Γ Γ2→∀{ρ:Type}(K:AE→Rs ρ),aop cx false o Γ2 K=Γ2.apnd false d e x ys K:=h;have hfr:(x=.nils∨x=.empt)→a1A g cx o (some d) Γ W:=fun hx=>by
   have h:∀Γ2,a1z W (a0y o) Γ Γ2→∀{ρ:Type}(K:AE→Rs ρ),aop cx false o Γ2 K=bif lim ys.length then Γ2.fresh false d ⟨false,.list true e,ys⟩ fun Γ=>K (Γ.set d (.sref d []))else none:=fun Γ2 hA ρ K=>by
    rw[h Γ2 hA];rcases hx with rfl|rfl<;>rfl
   cases hl:lim ys.length with
   |false=>exact a1A.none fun Γ2 hA ρ K=>by rw[h Γ2 hA,hl];rfl
   |true=>
    cases hd':decide (d<pinned)with
    |false=>exact a1A.none fun Γ2 hA ρ K=>by rw[h Γ2 hA,hl];simp only[cT];rw[d0o (hA.1.trans hpd),hd'];rfl
    |true=>
     refine a1A.some (match Γ.rt d with|.none=>id|.some _=>AV.drop d) ?_ (.one (.sref d [])) [d] (by simpa using hdW) (fun _=>.some ⟨false,.list true e,ys⟩) fun Γ2 hA ρ K=>?_
     cases Γ.rt d;exact FW.id;exact FW.drop hdW (by simpa using hd');rw[h Γ2 hA,hl];simp only[cT];rw[d0o (hA.1.trans hpd),hd',hA.2.1 d hdW];simp only[cT];exact b1l (hA.1.trans hpd)
  cases x with
  |nils=>exact hfr (.inl rfl)
  |empt=>exact hfr (.inr rfl)
  |sref n p=>
   have hnW:n∈W:=hxW n (by simp[AV.refs]);have hlk:∀Γ2,a1z W (a0y o) Γ Γ2→Γ2.look n=Γ.rt n:=fun Γ2 hA=>by rw[hA.look hnW];simp only[AE.look,hpd]
   cases hr:Γ.rt n with
   |none=>
    exact a1A.none fun Γ2 hA ρ K=>by
      rw[h Γ2 hA];simp only[AE.apnd,cF,hlk Γ2 hA,hr]
   |some r=>
    cases hg:a1a r.t r.x p with
    |mk tt l=>
     cases tt with
     |list o' e'=>
      cases o' with
      |false=>
       exact a1A.none fun Γ2 hA ρ K=>by
         rw[h Γ2 hA];simp only[AE.apnd,cF,hlk Γ2 hA,hr,hg]
      |true=>
       by_cases he:e=e'
       ·subst he;cases hl:lim (a24 l+ys.length)with
        |false=>
         exact a1A.none fun Γ2 hA ρ K=>by
           rw[h Γ2 hA];simp only[AE.apnd,cF,hlk Γ2 hA,hr,hg,dite_true,hl,cF]
        |true=>
         by_cases hp:p=[]∧r.bx=false
         ·obtain⟨rfl,hbx⟩:=hp;cases hnp:decide (n<pinned)with
          |false=>exact a1A.none fun Γ2 hA ρ K=>by rw[h Γ2 hA];simp only[AE.apnd,cF,hlk Γ2 hA,hr,hg,dite_true,hl,cT,hbx,hnp]
          |true=>
          refine a1A.some (AV.kill n []) (FW.kill hnW []) (.one (.sref n [])) [n] (by simpa using hnW) (fun _=>.some ⟨r.bx,r.t,a1F r.t r.x [] (.list true e) (a66 l ys)⟩) fun Γ2 hA ρ K=>?_
          rw[h Γ2 hA];simp only[AE.apnd,cF,hlk Γ2 hA,hr,hg,dite_true,hl,cT,hbx,hnp];rw[b1l (by exact hA.1.trans hpd)];congr 1;simp only[AE.set,AE.put,AE.setRt,AE.mapv,a2T,e1]
         ·cases hgg:g with
          |true=>
           refine a1A.none fun Γ2 hA ρ K=>?_
           rw[h Γ2 hA];simp only[AE.apnd,cF,hlk Γ2 hA,hr,hg,dite_true,hl,cT];cases p with
           |nil=>
            cases hb:r.bx with
            |false=>exact absurd ⟨rfl,hb⟩ hp
            |true=>simp only[hA.1,hpd];rfl
           |cons a p'=>simp only[hA.1,hpd];rfl
          |false=>
           refine d1i (AV.kill n p) (FW.kill hnW p) (.one (.sref n p)) [n] (by simpa using hnW) (fun _=>.some ⟨r.bx,r.t,a1F r.t r.x p (.list true e) (a66 l ys)⟩) (n,p,d) rfl fun Γ2 hA ρ K=>?_
           rw[h Γ2 hA];simp only[AE.apnd,cF,hlk Γ2 hA,hr,hg,dite_true,hl,cT];have fin:∀(G1 G2:AE),G1=G2→gPd false K G1=K G2:=fun G1 G2 e=>by rw[e];rfl
           cases p with
           |nil=>
            cases hb:r.bx with
            |false=>exact absurd ⟨rfl,hb⟩ hp
            |true=>
             simp only[hA.1,hpd];refine fin _ _ ?_
             simp only[AE.set,AE.put,AE.setRt,AE.mapv,a2T,e1]
           |cons a p'=>
            simp only[hA.1,hpd];refine fin _ _ ?_
            simp only[AE.set,AE.put,AE.setRt,AE.mapv,a2T,e1]
       exact a1A.none fun Γ2 hA ρ K=>by
        rw[h Γ2 hA];simp only[AE.apnd,cF,hlk Γ2 hA,hr,hg,he,dite_false]
     |_=>
      exact a1A.none fun Γ2 hA ρ K=>by
        rw[h Γ2 hA];simp only[AE.apnd,cF,hlk Γ2 hA,hr,hg]
  |_=>exact a1A.none fun Γ2 hA ρ K=>by rw[h Γ2 hA];rfl
end
section
variable {g:Bool} {cx:Cx} {o:Oper} {d:Nat} {Γ:AE} {W:List Nat}
theorem d5L{ρ:Type}(Γ:AE)(t:Ty)(a:AV)(hv:a.viewed=[])(K:t.den→AE→Rs ρ):Γ.asV false t a K=(a6G t a).elim none fun x=>K x Γ:=by
 cases a with
 |val t' x=>simp only[AE.asV,a6G];cases castTo t' t x<;>rfl
 |nils=>cases t with
  |list o e=>cases o<;>rfl
  |_=>rfl
 |empt=>cases t with
  |list o e=>cases o<;>rfl
  |_=>rfl
 |sref n p=>cases hv
 |swin n p o k=>cases hv
 |_=>rfl
def a8K(fz:Bool)(lk:Nat→Option Root)(used seen:List Nat):(p:PA)→AV→Option (p.ty.den×List Nat×List Nat)
 |.v t,a=>bif a.viewed.any fun n=>used.contains n then none else bif fz then(a6G t a).map fun x=>(x,used,seen)else(b0K lk t a).map fun x=>(x,used,a.viewed++seen)
 |.r c (.b t),.ptr n []=>if c || used.contains n || seen.contains n then none else match lk n with
  |some ⟨true,t',x⟩=>if h:t'=t then some (h▸x,n::used,seen)else none
  |_=>none
 |.r c (.o e),.sref n []=>if(c&&decide (pinned≤n)) || used.contains n || seen.contains n then none else match lk n with
  |some ⟨bx,.list true e',x⟩=>if h:e'=e then(bif bx&&c then none else some (h▸x,n::used,seen))else none
  |_=>none
 |.r _ _,_=>none
theorem b3i{ρ:Type}(Γ:AE)(fz:Bool)(used seen:List Nat)(p:PA)(a:AV)(hv:fz=false∨a.viewed=[])(K:p.ty.den→AE→List Nat→List Nat→Rs ρ):
  Γ.arg fz false used seen p a K=(a8K fz Γ.look used seen p a).elim none fun y=>K y.1 Γ y.2.1 y.2.2:=by
 cases p with
 |v t=>
  simp only[AE.arg,a8K];cases (a.viewed.any fun n=>used.contains n)
  ·simp only[cF];cases fz with
   |true=>
    simp only[if_true,cT];rw[d5L Γ t a (hv.resolve_left (by simp))];cases a6G t a<;>rfl
   |false=>
    simp only[a03,if_false,cF];rw[d3d];cases b0K Γ.look t a<;>rfl
  rfl
 |r c b=>
  cases b with
  |v t=>cases a<;>rfl
  |b t=>
   cases a with
   |ptr n p=>
    cases p with
    |nil=>
     simp only[AE.arg,a8K,Bool.or_false];split;rfl
     ·cases Γ.look n with
      |none=>rfl
      |some r=>
       obtain⟨bx,t',x⟩:=r;cases bx;rfl;simp only[];split;rename_i h;subst h;rfl;rfl
    |cons=>rfl
   |_=>rfl
  |o e=>
   cases a with
   |sref n p=>
    cases p with
    |nil=>
     simp only[AE.arg,a8K,Bool.or_false];split;rfl
     ·cases Γ.look n with
      |none=>rfl
      |some r=>
       obtain⟨bx,t',x⟩:=r;cases t' with
       |list o' e'=>
        cases o' with
        |false=>rfl
        |true=>
         simp only[];split;rename_i h;subst h;cases bx<;>cases c<;>rfl;rfl
       |_=>rfl
    |cons=>rfl
   |_=>rfl
def AE.argsm(Γ:AE)(fz:Bool)(used seen:List Nat)(ps:List PA)(as:List AV):Option ((a1S (ps.map PA.ty)).den×List Nat):=Γ.args fz false used seen ps as fun x _ u=>some (x,u)
theorem args_m(Γ:AE)(fz:Bool)(ps:List PA):∀{ρ:Type}(as:List AV)(used seen:List Nat)(K:(a1S (ps.map PA.ty)).den→AE→List Nat→Rs ρ),(fz=false∨∀a∈as,a.viewed=[])→
  Γ.args fz false used seen ps as K=(Γ.argsm fz used seen ps as).elim none fun x=>K x.1 Γ x.2:=by
 induction ps with
 |nil=>
  intro ρ as used seen K hv;cases as<;>rfl
 |cons p ps ih=>
  intro ρ as used seen K hv;cases as with
  |nil=>cases ps<;>rfl
  |cons a as=>
   have hva:fz=false∨a.viewed=[]:=hv.imp id fun h=>h a (by simp);have hvs:fz=false∨∀a∈as,a.viewed=[]:=hv.imp id fun h a' ha=>h a' (by simp[ha]);cases ps with
   |nil=>
    cases as with
    |nil=>
     simp only[AE.argsm,AE.args];rw[b3i (hv:=hva),b3i (hv:=hva)];cases a8K fz Γ.look used seen p a<;>rfl
    |cons=>rfl
   |cons p' ps=>
    simp only[AE.argsm,AE.args];rw[b3i (hv:=hva),b3i (hv:=hva)];cases a8K fz Γ.look used seen p a with
    |none=>rfl
    |some x=>
     simp only[a04];rw[ih as _ _ _ hvs,ih as _ _ _ hvs];cases Γ.argsm fz x.2.1 x.2.2 (p'::ps) as<;>rfl
theorem d1j{lk lk':Nat→Option Root}{fz:Bool}{used seen:List Nat}{p:PA}{a:AV}(h:∀n∈a.refs,lk' n=lk n):a8K fz lk' used seen p a=a8K fz lk used seen p a:=by
 cases p with
 |v t=>simp only[a8K,c1A h]
 |r c b=>
  cases b with
  |v t=>cases a<;>rfl
  |b t=>
   cases a with
   |ptr n q=>cases q<;>simp only[a8K,h n (by simp[AV.refs])]
   |_=>rfl
  |o e=>
   cases a with
   |sref n q=>cases q<;>simp only[a8K,h n (by simp[AV.refs])]
   |_=>rfl
theorem c5U{lk:Nat→Option Root}{fz:Bool}{used seen:List Nat}{p:PA}{a:AV}{x}(h:a8K fz lk used seen p a=some x):∀n∈x.2.1,n∈used∨n∈a.refs:=by
 intro n hn;cases p with
 |v t=>
  simp only[a8K]at h;obtain⟨-,h⟩:=(a0i h).elim (fun h=>by cases h.2) id;cases fz with
  |true=>
   simp only[cT]at h;cases ha:a6G t a with
   |none=>rw[ha]at h;cases h
   |some y=>rw[ha]at h;cases h;exact .inl hn
  |false=>
   simp only[cF]at h;cases ha:b0K lk t a with
   |none=>rw[ha]at h;cases h
   |some y=>rw[ha]at h;cases h;exact .inl hn
 |r c b=>
  cases b with
  |v t=>cases a<;>cases h
  |b t=>
   cases a with
   |ptr m q=>
    cases q with
    |nil=>
     simp only[a8K]at h
     split at h
     cases h
     split at h
     split at h
     cases h;rcases mC.1 hn with rfl|hn;exact .inr (by simp[AV.refs]);exact .inl hn;cases h;cases h
    |cons=>cases h
   |_=>cases h
  |o e=>
   cases a with
   |sref m q=>
    cases q with
    |nil=>
     simp only[a8K]at h
     split at h
     cases h
     split at h
     split at h
     obtain⟨-,h⟩:=(a0i h).elim (fun h=>by cases h.2) id;cases h;rcases mC.1 hn with rfl|hn;exact .inr (by simp[AV.refs]);exact .inl hn;cases h;cases h
    |cons=>cases h
   |_=>cases h
theorem c9B{Γ Γ2:AE}(fz:Bool)(ps:List PA):∀(as:List AV)(used seen:List Nat),(∀a∈as,∀n∈a.refs,Γ2.look n=Γ.look n)→(fz=false∨∀a∈as,a.viewed=[])→Γ2.argsm fz used seen ps as=Γ.argsm fz used seen ps as:=by
 induction ps with
 |nil=>intro as used seen hl hv;cases as<;>rfl
 |cons p ps ih=>
  intro as used seen hl hv;cases as with
  |nil=>cases ps<;>rfl
  |cons a as=>
   have hva:fz=false∨a.viewed=[]:=hv.imp id fun h=>h a (by simp);have hvs:fz=false∨∀a∈as,a.viewed=[]:=hv.imp id fun h a' ha=>h a' (by simp[ha]);have hla:=d1j (fz:=fz) (used:=used) (seen:=seen) (p:=p) (hl a (by simp));cases ps with
   |nil=>
    cases as with
    |nil=>
     simp only[AE.argsm,AE.args];rw[b3i (hv:=hva),b3i (hv:=hva),hla]
    |cons=>rfl
   |cons p' ps=>
    simp only[AE.argsm,AE.args];rw[b3i (hv:=hva),b3i (hv:=hva),hla];cases a8K fz Γ.look used seen p a with
    |none=>rfl
    |some x=>
     simp only[a04];rw[args_m (hv:=hvs),args_m (hv:=hvs),ih as _ _ (fun a' ha=>hl a' (by simp[ha])) hvs]
where
 args_m {Γ:AE} {fz:Bool} {ps:List PA} {ρ:Type} {as:List AV} {used seen:List Nat} {K:(a1S (ps.map PA.ty)).den→AE→List Nat→Rs ρ} (hv:fz=false∨∀a∈as,a.viewed=[]):=Go.Ab.args_m Γ fz ps as used seen K hv
theorem d1k{Γ:AE}(fz:Bool)(ps:List PA):∀(as:List AV)(used seen:List Nat)(x),(fz=false∨∀a∈as,a.viewed=[])→Γ.argsm fz used seen ps as=some x→∀n∈x.2,n∈used∨∃a∈as,n∈a.refs:=by
 induction ps with
 |nil=>
  intro as used seen x hv h n hn;cases as with
  |nil=>cases h;exact .inl hn
  |cons=>cases h
 |cons p ps ih=>
  intro as used seen x hv h n hn;cases as with
  |nil=>cases ps<;>cases h
  |cons a as=>
   have hva:fz=false∨a.viewed=[]:=hv.imp id fun h=>h a (by simp);have hvs:fz=false∨∀a∈as,a.viewed=[]:=hv.imp id fun h a' ha=>h a' (by simp[ha]);cases ps with
   |nil=>
    cases as with
    |nil=>
     simp only[AE.argsm,AE.args]at h;rw[b3i (hv:=hva)]at h;cases hx:a8K fz Γ.look used seen p a with
     |none=>rw[hx]at h;cases h
     |some y=>
      rw[hx]at h;cases h;exact(c5U hx n hn).imp id fun h=>⟨a,by simp,h⟩
    |cons=>cases h
   |cons p' ps=>
    simp only[AE.argsm,AE.args]at h;rw[b3i (hv:=hva)]at h;cases hx:a8K fz Γ.look used seen p a with
    |none=>rw[hx]at h;cases h
    |some y=>
     rw[hx]at h;simp only[a04]at h;rw[args_m Γ fz (p'::ps) as _ _ _ hvs]at h;cases hr:Γ.argsm fz y.2.1 y.2.2 (p'::ps) as with
     |none=>rw[hr]at h;cases h
     |some u=>
      rw[hr]at h;cases h;rcases ih as _ _ u hvs hr n hn with h|⟨a',ha',h⟩;exact(c5U hx n h).imp id fun h=>⟨a,by simp,h⟩;exact .inr ⟨a',by simp[ha'],h⟩
def a7B:List Nat→(Nat→Option Root)→AV→AV
 | [],_=>id
 |n::r,rt=>match rt n with
  |none=>a7B r rt
  |some _=>fun v=>a7B r (fun j=>bif j==n then none else rt j) (AV.drop n v)
theorem b7f:∀(ns:List Nat){rt rt2:Nat→Option Root},(∀n∈ns,rt2 n=rt n)→a7B ns rt2=a7B ns rt
 | [],_,_,_=>rfl
 |n::r,rt,rt2,h=>by
  simp only[a7B,h n (by simp)];cases rt n with
  |none=>exact b7f r fun m hm=>h m (by simp[hm])
  |some x=>
   simp only[];rw[b7f r (rt:=fun j=>bif j==n then none else rt j) (rt2:=fun j=>bif j==n then none else rt2 j) fun m hm=>by
    show(bif m==n then none else rt2 m)=_;rw[h m (by simp[hm])]]
theorem c2C:∀(ns:List Nat)(rt:Nat→Option Root),(∀n∈ns,n∈W∧n<pinned)→FW W (a7B ns rt)
 | [],rt,_=>FW.id
 |n::r,rt,h=>by
  simp only[a7B];cases rt n with
  |none=>exact c2C r rt fun m hm=>h m (by simp[hm])
  |some x=>
   have:=c2C r (fun j=>bif j==n then none else rt j) fun m hm=>h m (by simp[hm])
   exact(FW.drop (h n (by simp)).1 (h n (by simp)).2).comp this this.dead
theorem b5D{m n:Nat}{r:List Nat}(h:¬ m=n):(n::r).contains m=r.contains m:=by
 have:(m==n)=false:=by simpa using h
 simp only[List.contains,List.elem,this]
theorem c0o{ρ:Type}(us:List Nat):∀(ns:List Nat)(Γ:AE)(K:AE→Rs ρ),Γ.dropAll false us ns K =
  bif ns.all fun n=>decide (n<pinned)&&!us.contains n then K ⟨fun i=>(Γ.sl i).mapv (a7B ns Γ.rt),fun n=>bif ns.contains n then none else Γ.rt n,Γ.pd⟩else none
 | [],Γ,K=>by
  simp only[AE.dropAll,List.all_nil,cT,a7B];congr 1;obtain⟨sl,rt,pd⟩:=Γ;simp only[b5C];rfl
 |n::r,Γ,K=>by
  simp only[AE.dropAll,a29];cases (decide (n<pinned)&&!us.contains n);rfl
  ·simp only[cT,a46];cases hr:Γ.rt n with
   |none=>
    simp only[a7B,hr];rw[c0o us r Γ K];congr 2;congr 1;funext m
    by_cases e:m=n
    subst e;simp[hr];rw[b5D e]
   |some x=>
    simp only[cF,a7B,hr];rw[c0o us r];simp only[AE.setRt,AE.mapv,c5S];congr 2;congr 1;funext m
    by_cases e:m=n
    subst e;simp;rw[b5D e]
    have:(m==n)=false:=by simpa using e
    rw[this];rfl
theorem b0M:∀(rs:List RA)(b n:Nat),n∈a2u rs b→n∈a1b rs b
 | [],_,_,h=>h
 |.v _::rs,b,n,h=>a05 _ (b0M rs _ n h)
 |.o _::rs,b,n,h=>by
  rcases mC.1 h with rfl|h;exact a27;exact a05 _ (b0M rs _ n h)
 |.b _::rs,b,n,h=>by
  rcases mC.1 h with rfl|h;exact a27;exact a05 _ (b0M rs _ n h)
theorem c2D{x:Operand}(hx:x∈o.op.operands.toList){n:Nat}(hn:n∈(Γ.opd x).refs):n∈Γ.foot o:=by
 refine a47.2 ⟨x,hx,?_⟩;cases x with
 |tmp t=>
  simp only[AE.opd,AE.get]at hn;show n∈(Γ.sl t).refs
  revert hn
  cases Γ.sl t with
  |one v=>exact id
  |cmp c vs=>exact fun h=>by cases h
 |const v=>
  simp only[AE.opd]at hn;unfold b7B at hn
  split at hn<;>cases hn
 |global g=>cases hn
 |func f=>cases hn
theorem d3n{d:Option Nat}{c:Call}{f:FuncId}{s:FSem}(ho:o.op=.call c)(hb:c.callee=.value (.func f))(hd:o.dst=d)(hpd:Γ.pd=none)(hs:cx.C f=some s)(hW1:∀n∈Γ.foot o,n∈W)(hW2:∀n∈a8u cx o (d.getD 0),n∈W)
    (hv:(s.rs.any RA.hasList || (a4N s.ps).any RA.hasList)=false∨∀a∈c.args.toList.map Γ.opd,a.viewed=[]):a1A g cx o d Γ W:=by
  let fz:=s.rs.any RA.hasList || (a4N s.ps).any RA.hasList
  let b:=d.getD 0+1000
  let nm:=a2u s.rs b
  have hmap:∀Γ2,a1z W (a0y o) Γ Γ2→c.args.toList.map Γ2.opd=c.args.toList.map Γ.opd:=fun Γ2 hA=>a17 fun x hx=>hA.opd (b1j ho x hx);have hrefs:∀a∈c.args.toList.map Γ.opd,∀n∈a.refs,n∈W:=fun a ha n hn=>by
    obtain⟨x,hx,rfl⟩:=a19.1 ha;exact hW1 n (c2D (b1j ho x hx) hn)
  have hres:∀n∈a1b s.rs b,n∈W:=fun n hn=>hW2 n (by simp only[a8u,ho,hb,hs];exact a05 _ hn);have hnmW:∀n∈nm,n∈W:=fun n hn=>hres n (b0M _ _ n hn);have run:∀Γ2,a1z W (a0y o) Γ Γ2→∀{ρ:Type}(K:AE→Rs ρ),aop cx false o Γ2 (gPd g K)=(Γ.argsm fz [] [] s.ps (c.args.toList.map Γ.opd)).elim none fun x=>
      bif nm.all (fun n=>decide (n<pinned)&&!x.2.contains n)then(s.F x.1).bind fun y=>
        (let Γ3:AE:=⟨fun i=>((Γ2.sl i).mapv (a7B nm Γ.rt)).mapv (AV.deeps x.2 ((brw s.ps x.2.reverse).filter fun n=>!b9P (bif nm.contains n then none else Γ2.rt n))),fun n=>match a1t (a1b s.rs b++x.2.reverse) (a1O (RA.all s.ps s.rs) y) n with
          |some r=>some (bif x.2.contains n then b1F (bif nm.contains n then none else Γ2.rt n) r else r)
          |none=>bif nm.contains n then none else Γ2.rt n,none⟩
         match d with
          |none=>gPd g K Γ3
          |some d=>match a2R (a1b s.rs b) (a1O (RA.all s.ps s.rs) y)with
            | [v]=>gPd g K (Γ3.set d v)
            |vs=>gPd g K (Γ3.put d (.cmp .tup vs)))else none:=fun Γ2 hA ρ K=>by
    have e1:aop cx false o Γ2 (gPd g K)=Γ2.call false d s (c.args.toList.map Γ.opd) (gPd g K):=by
      unfold aop;rw[ho,hd];simp only[hb,hs,hmap Γ2 hA]
    rw[e1];unfold AE.call;rw[show Γ2.pd=none from hA.1.trans hpd];simp only[];rw[args_m _ _ _ _ _ _ _ hv,c9B _ _ _ _ _ (fun a ha n hn=>hA.look (hrefs a ha n hn)) hv];cases Γ.argsm (s.rs.any RA.hasList || (a4N s.ps).any RA.hasList) [] [] s.ps (c.args.toList.map Γ.opd)with
    |none=>rfl
    |some x=>
      simp only[a04];rw[c0o,b7f _ fun n hn=>hA.2.1 n (hnmW n hn)];cases d<;>rfl
  cases hx:Γ.argsm fz [] [] s.ps (c.args.toList.map Γ.opd)with
  |none=>exact a1A.none fun Γ2 hA ρ K=>by rw[run Γ2 hA,hx];rfl
  |some x=>
    cases hn:(nm.all fun n=>decide (n<pinned)&&!x.2.contains n)with
    |false=>exact a1A.none fun Γ2 hA ρ K=>by rw[run Γ2 hA,hx];simp only[a04,hn,cF]
    |true=>
      cases hy:s.F x.1 with
      |none=>exact a1A.none fun Γ2 hA ρ K=>by rw[run Γ2 hA,hx];simp only[a04,hn,cT,hy,a87]
      |some y=>
        let its:=a1O (RA.all s.ps s.rs) y
        let ns:=a1b s.rs b
        let sv:SV:=match a2R ns its with
          | [v]=>.one v
          |vs=>.cmp .tup vs
        have hused:∀n∈x.2,n∈W:=fun n hn=>by
          rcases d1k fz s.ps _ _ _ x hv hx n hn with h|⟨a,ha,h⟩;cases h;exact hrefs a ha n h
        have hdf:=c2C nm Γ.rt fun n hn'=>⟨hnmW n hn',by
          have:=lA.1 hn n hn'
          simp only[bA,dT]at this;exact this.1⟩
        have hks:∀Γ2,a1z W (a0y o) Γ Γ2→((brw s.ps x.2.reverse).filter fun n=>!b9P (bif nm.contains n then none else Γ2.rt n))=(brw s.ps x.2.reverse).filter fun n=>!b9P (bif nm.contains n then none else Γ.rt n):=fun Γ2 hA=>
          a58 fun n hn=>by
            obtain⟨k,i,e,h1,-⟩:=c1k s.ps x.2.reverse 0 n hn;rw[hA.2.1 n (hused n (a62.1 (a36 h1)))]
        refine a1A.some (fun v=>AV.deeps x.2 ((brw s.ps x.2.reverse).filter fun n=>!b9P (bif nm.contains n then none else Γ.rt n)) (a7B nm Γ.rt v)) (hdf.comp (FW.deeps hused)) sv ((ns++x.2.reverse)++nm) (fun n hn=>?_) (fun n=>match a1t (ns++x.2.reverse) its n with
          |some r=>some (bif x.2.contains n then b1F (bif nm.contains n then none else Γ.rt n) r else r)
          |none=>bif nm.contains n then none else Γ.rt n) fun Γ2 hA ρ K=>?_
        rcases mA.1 hn with hn|hn;rcases mA.1 hn with hn|hn;exact hres n hn;exact hused n (a62.1 hn);exact hnmW n hn;rw[run Γ2 hA,hx];simp only[a04,hn,cT,hy,oB];have hrt:(fun n=>match a1t (ns++x.2.reverse) its n with
            |some r=>some (bif x.2.contains n then b1F (bif nm.contains n then none else Γ2.rt n) r else r)
            |none=>bif nm.contains n then none else Γ2.rt n)=fun n=>bif ((ns++x.2.reverse)++nm).contains n then(match a1t (ns++x.2.reverse) its n with
            |some r=>some (bif x.2.contains n then b1F (bif nm.contains n then none else Γ.rt n) r else r)
            |none=>bif nm.contains n then none else Γ.rt n)else Γ2.rt n:=by
          funext n;cases hS:((ns++x.2.reverse)++nm).contains n with
          |true=>
            have hnW:n∈W:=by
              have hS:n∈(ns++x.2.reverse)++nm:=by simpa using hS
              rcases mA.1 hS with hn|hn;rcases mA.1 hn with hn|hn;exact hres n hn;exact hused n (a62.1 hn);exact hnmW n hn
            rw[hA.2.1 n hnW];rfl
          |false=>
            have hS:n∉(ns++x.2.reverse)++nm:=fun h=>by
              have:((ns++x.2.reverse)++nm).contains n=true:=by simpa using h
              rw[this]at hS;cases hS
            have h1:a1t (ns++x.2.reverse) its n=none:=by
              cases e:a1t (ns++x.2.reverse) its n with
              |none=>rfl
              |some r=>exact absurd (a16 _ (b1O _ _ _ (by rw[e];simp))) hS
            have h2:nm.contains n=false:=by
              cases e:nm.contains n with
              |false=>rfl
              |true=>exact absurd (a06 _ (by simpa using e)) hS
            rw[h1,h2];rfl
        have hΓ:∀sv':SV,(⟨fun i=>bif d==some i then sv' else((Γ2.sl i).mapv (a7B nm Γ.rt)).mapv (AV.deeps x.2 ((brw s.ps x.2.reverse).filter fun n=>!b9P (bif nm.contains n then none else Γ2.rt n))),fun n=>match a1t (a1b s.rs b++x.2.reverse) (a1O (RA.all s.ps s.rs) y) n with
            |some r=>some (bif x.2.contains n then b1F (bif nm.contains n then none else Γ2.rt n) r else r)
            |none=>bif nm.contains n then none else Γ2.rt n,none⟩:AE)=⟨fun i=>bif d==some i then sv' else(Γ2.sl i).mapv (fun v=>AV.deeps x.2 ((brw s.ps x.2.reverse).filter fun n=>!b9P (bif nm.contains n then none else Γ.rt n)) (a7B nm Γ.rt v)),fun n=>bif ((ns++x.2.reverse)++nm).contains n then(match a1t (ns++x.2.reverse) its n with
            |some r=>some (bif x.2.contains n then b1F (bif nm.contains n then none else Γ.rt n) r else r)
            |none=>bif nm.contains n then none else Γ.rt n)else Γ2.rt n,Γ2.pd⟩:=fun sv'=>by
          rw[hks Γ2 hA];rw[←hrt,hA.1,hpd];congr 1;funext i;rw[c5S]
        rw[←hΓ sv];cases d with
        |none=>
          rw[b1l rfl];rfl
        |some d=>
          have e1:∀i,(some d==some i)=(i==d):=fun i=>by
            by_cases h:i=d
            subst h;simp;have h1:(i==d)=false:=by simpa using h
            have h2:(some d==some i)=false:=by simpa using Ne.symm h
            rw[h1,h2]
          simp only[e1,AE.set,AE.put,sv];show(match a2R ns its with
            | [v]=>gPd g K _
            |vs=>gPd g K _)=_
          generalize a2R ns its=vs
          split<;>exact b1l rfl
theorem c9C{c:Call}(ho:o.op=.call c)(hb:c.callee=.builtin .append)(hd:o.dst=some d)(hpd:Γ.pd=none)(hW1:∀n∈Γ.foot o,n∈W)(hdW:d∈W)(hel:b9R cx c.argTypes.toList=false):a1A g cx o (some d) Γ W:=by
 have run:∀Γ2,a1z W (a0y o) Γ Γ2→∀{ρ:Type}(K:AE→Rs ρ),aop cx false o Γ2 K=Γ2.blt false cx d .append c.argTypes.toList (c.args.toList.map Γ.opd) K:=fun Γ2 hA ρ K=>by
  simp only[aop,ho,hd,hb];rw[a17 fun x hx=>hA.opd (b1j ho x hx)]
 have hrefs:∀a∈c.args.toList.map Γ.opd,∀n∈a.refs,n∈W:=fun a ha n hn=>by
  obtain⟨x,hx,rfl⟩:=a19.1 ha;exact hW1 n (c2D (b1j ho x hx) hn)
 revert run hrefs hel
 generalize c.args.toList.map Γ.opd=as;generalize c.argTypes.toList=ts;intro hel run hrefs;have no:(∀(Γ2:AE){ρ:Type}(K:AE→Rs ρ),Γ2.blt false cx d .append ts as K=none)→a1A g cx o (some d) Γ W:=fun h=>a1A.none fun Γ2 hA ρ K=>by rw[run Γ2 hA];exact h Γ2 _
 match as with
 | []=>exact no fun Γ2 ρ K=>rfl
 | [_]=>exact no fun Γ2 ρ K=>rfl
 |_::_::_::_=>exact no fun Γ2 ρ K=>rfl
 | [a,b]=>
  have hxW:∀n∈a.refs,n∈W:=hrefs a (by simp);have hyW:∀n∈b.refs,n∈W:=hrefs b (by simp);cases hni:b9Q cx ts with
  |false=>exact no fun Γ2 ρ K=>by simp only[AE.blt,hni,cF]
  |true=>
   cases ht:ts.head?.bind cx.T with
   |none=>exact no fun Γ2 ρ K=>by simp only[AE.blt,hni,ht,cT]
   |some τ=>
    cases τ with
    |list o' e=>
     have hel:e.isList=false:=by simpa only[b9R,ht]using hel
     have els:(∀(Γ2:AE){ρ:Type}(K:AE→Rs ρ),Γ2.blt false cx d .append ts [a,b] K=Γ2.elems e b fun ys=>Γ2.apnd false d e a ys K)→a1A g cx o (some d) Γ W:=fun h=>
      c5T hpd hdW (e:=e) (x:=a) hxW (ys:=a9m Γ.look e b) fun Γ2 hA ρ K=>by
       rw[run Γ2 hA,h,b5j,b5A fun n hn=>hA.look (hyW n hn)]
     cases b with
     |val t y=>
      cases t with
      |str=>
       by_cases he:e=.int .u8
       subst he;exact c5T hpd hdW (e:=.int .u8) (x:=a) hxW (ys:=some y) fun Γ2 hA ρ K=>by
        rw[run Γ2 hA];simp only[AE.blt,hni,ht,cT];rfl
       exact no fun Γ2 ρ K=>by
        simp only[AE.blt,hni,ht,cT];rw[dif_neg he]
      |_=>exact els fun Γ2 ρ K=>by simp only[AE.blt,hni,ht,cT,hel,a94,Bool.or_true]
     |_=>exact els fun Γ2 ρ K=>by simp only[AE.blt,hni,ht,cT,hel,a94,Bool.or_true]
    |_=>exact no fun Γ2 ρ K=>by simp only[AE.blt,hni,ht,cT]
theorem c2E{d:Option Nat}(Γ:AE):Γ.setD d .dead=⟨fun i=>bif d==some i then .one .dead else Γ.sl i,Γ.rt,Γ.pd⟩:=by
 cases d with
 |none=>rfl
 |some d=>
  simp only[AE.setD,AE.set,AE.put];congr 1;funext i
  by_cases h:i=d
  subst h;simp;have h1:(i==d)=false:=by simpa using h
  have h2:(some d==some i)=false:=by simpa using Ne.symm h
  rw[h1,h2]
theorem d3o{d:Option Nat}(hpd:Γ.pd=none){t:Ty}{n:Nat}{p:a0P}{x:AV}(hnW:n∈W)(hv:x.viewed=[])(h:∀Γ2,a1z W (a0y o) Γ Γ2→∀{ρ:Type}(K:AE→Rs ρ),aop cx false o Γ2 K=Γ2.stor t n p x fun Γ=>K (Γ.setD d .dead)):a1A g cx o d Γ W:=by
 have hrt:∀Γ2,a1z W (a0y o) Γ Γ2→Γ2.rt n=Γ.rt n:=fun Γ2 hA=>hA.2.1 n hnW;have hlk:∀Γ2,a1z W (a0y o) Γ Γ2→Γ2.look n=Γ.rt n:=fun Γ2 hA=>by rw[hA.look hnW];simp only[AE.look,hpd]
 cases hr:Γ.rt n with
 |none=>exact a1A.none fun Γ2 hA ρ K=>by rw[h Γ2 hA];simp only[AE.stor,hrt Γ2 hA,hr]
 |some r=>
  have plain:∀tt y,a1a r.t r.x p=⟨tt,y⟩→(∀e,tt≠.list true e)→a1A g cx o d Γ W:=fun tt y hg hno=>by
   have st:∀Γ2,a1z W (a0y o) Γ Γ2→∀{ρ:Type}(K:AE→Rs ρ),aop cx false o Γ2 K=if tt.shn=tt∧tt.sh=t then(a6G tt x).elim none fun y=>K ((Γ2.setRt n (some ⟨r.bx,r.t,a1F r.t r.x p tt y⟩)).setD d .dead)else Γ2.overP t n r x (fun Γ=>K (Γ.setD d .dead)) p:=fun Γ2 hA ρ K=>by
    rw[h Γ2 hA];unfold AE.stor;rw[hrt Γ2 hA,hr];simp only[hg];have body:(if tt.shn=tt∧tt.sh=t then Γ2.asV false tt x fun y Γ'=>(match Γ'.look n with
      |some r=>if(a1a r.t r.x p).1=tt then K ((Γ'.setRt n (some ⟨r.bx,r.t,a1F r.t r.x p tt y⟩)).setD d .dead)else none
      |none=>none)else Γ2.overP t n r x (fun Γ=>K (Γ.setD d .dead)) p)=if tt.shn=tt∧tt.sh=t then(a6G tt x).elim none fun y=>K ((Γ2.setRt n (some ⟨r.bx,r.t,a1F r.t r.x p tt y⟩)).setD d .dead)else Γ2.overP t n r x (fun Γ=>K (Γ.setD d .dead)) p:=by
     split
     ·rw[d5L Γ2 tt x hv];cases a6G tt x with
      |none=>rfl
      |some y=>simp only[a04,hlk Γ2 hA,hr,hg,if_true]
     rfl
    rw[←body];cases tt with
    |list o' e=>cases o' with
     |true=>exact absurd rfl (hno e)
     |false=>rfl
    |_=>rfl
   by_cases hc:tt.shn=tt∧tt.sh=t
   ·cases ha:a6G tt x with
    |none=>exact a1A.none fun Γ2 hA ρ K=>by rw[st Γ2 hA,if_pos hc,ha];rfl
    |some y=>
     refine a1A.some id FW.id (.one .dead) [n] (by simpa using hnW) (fun _=>some ⟨r.bx,r.t,a1F r.t r.x p tt y⟩) fun Γ2 hA ρ K=>?_
     rw[st Γ2 hA,if_pos hc,ha];simp only[a04];rw[c2E,b1l (by exact hA.1.trans hpd)];congr 1;simp only[AE.setRt,a2T,b5C]
   ·cases p with
    |cons s p=>exact a1A.none fun Γ2 hA ρ K=>by rw[st Γ2 hA,if_neg hc];rfl
    |nil=>
     have no:(∀Γ2,a1z W (a0y o) Γ Γ2→∀{ρ:Type}(K:AE→Rs ρ),Γ2.over t n r x K=none)→a1A g cx o d Γ W:=fun h2=>a1A.none fun Γ2 hA ρ K=>by
      rw[st Γ2 hA,if_neg hc];exact h2 Γ2 hA (fun Γ=>gPd g K (Γ.setD d .dead))
     have yes:∀(t2:Ty)(z:t2.den),(∀Γ2,a1z W (a0y o) Γ Γ2→∀{ρ:Type}(K:AE→Rs ρ),Γ2.over t n r x K=K ((Γ2.mapv (AV.deeps [n] [])).setRt n (some ⟨true,t2,z⟩)))→a1A g cx o d Γ W:=fun t2 z h2=>by
      refine a1A.some (AV.deeps [n] []) (FW.deeps (by simpa using hnW)) (.one .dead) [n] (by simpa using hnW) (fun _=>some ⟨true,t2,z⟩) fun Γ2 hA ρ K=>?_
      rw[st Γ2 hA,if_neg hc];simp only[AE.overP];rw[h2 Γ2 hA,c2E,b1l (by exact hA.1.trans hpd)];congr 1;simp only[AE.setRt,AE.mapv,a2T]
     have hlk':∀Γ2,a1z W (a0y o) Γ Γ2→Γ2.look n=some r:=fun Γ2 hA=>(hlk Γ2 hA).trans hr;cases x with
     |val t' y=>
      by_cases hcc:r.bx=true∧(r.t.sh=t∧(t'.shn=t'∧t'.sh=t))
      ·cases h1:castTo t' r.t y with
       |some z=>exact yes r.t z fun Γ2 hA ρ K=>by simp only[AE.over,hlk' Γ2 hA,if_pos hcc,h1]
       |none=>
        cases h2:castTo t' r.t.shn y with
        |some z=>exact yes r.t.shn z fun Γ2 hA ρ K=>by simp only[AE.over,hlk' Γ2 hA,if_pos hcc,h1,h2]
        |none=>exact yes t' y fun Γ2 hA ρ K=>by simp only[AE.over,hlk' Γ2 hA,if_pos hcc,h1,h2]
      exact no fun Γ2 hA ρ K=>by simp only[AE.over,hlk' Γ2 hA,if_neg hcc]
     |_=>exact no fun Γ2 hA ρ K=>rfl
  cases hg:a1a r.t r.x p with
  |mk tt l=>
   cases tt with
   |list o' e=>
    cases o' with
    |false=>exact plain _ l hg (by simp)
    |true=>
     by_cases hty:t.isList=true
     ·have no:(∀Γ2,a1z W (a0y o) Γ Γ2→∀{ρ:Type}(K:AE→Rs ρ),Γ2.stor t n p x K=none)→a1A g cx o d Γ W:=fun h2=>a1A.none fun Γ2 hA ρ K=>by rw[h Γ2 hA];exact h2 Γ2 hA _
      cases x with
      |nils=>
       refine a1A.some (AV.kill n p) (FW.kill hnW p) (.one .dead) [n] (by simpa using hnW) (fun _=>some ⟨r.bx,r.t,a1F r.t r.x p (.list true e) []⟩) fun Γ2 hA ρ K=>?_
       rw[h Γ2 hA];simp only[AE.stor,hrt Γ2 hA,hr,hg,hty,if_true,hlk Γ2 hA];rw[c2E,b1l (by exact hA.1.trans hpd)];congr 1;simp only[AE.setRt,AE.mapv,a2T]
      |sref m q=>cases hv
      |_=>exact no fun Γ2 hA ρ K=>by simp only[AE.stor,hrt Γ2 hA,hr,hg,hty,if_true]
     exact a1A.none fun Γ2 hA ρ K=>by rw[h Γ2 hA];simp only[AE.stor,hrt Γ2 hA,hr,hg,hty,if_false,a03]
   |_=>exact plain _ l hg (by simp)
theorem c5V{Γ2:AE}(hA:a1z W (a0y o) Γ Γ2):wOk cx o Γ2=wOk cx o Γ:=by
 unfold wOk;cases ho:o.op<;>try rfl
 case store t a x=>
  simp only[];rw[hA.opd (by rw[ho];simp[Op.operands]),hA.aggOf (by rw[ho];simp[Op.operands])]
 rename_i c;simp only[];cases hc:c.callee with
 |value v=>
  cases v with
  |func f=>
   simp only[];cases cx.C f with
   |none=>rfl
   |some s=>
    simp only[];congr 1
    have:∀x∈c.args.toList,(Γ2.opd x).viewed.isEmpty=(Γ.opd x).viewed.isEmpty:=fun x hx=>by rw[hA.opd (b1j ho x hx)]
    exact all_congr' this
  |_=>rfl
 |builtin b=>cases b<;>rfl
 |invoke r n=>rfl
where
 all_congr' {α:Type} {l:List α} {p q:α→Bool} (h:∀x∈l,p x=q x):l.all p=l.all q:=by
  induction l with
  |nil=>rfl
  |cons a l ih=>simp only[a29];rw[h a (by simp),ih fun x hx=>h x (by simp[hx])]
theorem c3v{Γ2:AE}(hA:∀t∈a0y o,Γ2.sl t=Γ.sl t):Γ2.foot o=Γ.foot o:=by
 unfold AE.foot
 have:∀x∈o.op.operands.toList,(match x with
  |.tmp t=>(Γ2.sl t).refs
  |_=>[])=(match x with
  |.tmp t=>(Γ.sl t).refs
  |_=>[]):=fun x hx=>by
  cases x with
  |tmp t=>simp only[hA t (a3f hx)]
  |_=>rfl
 exact flatMap_congr' this
where
 flatMap_congr' {α β:Type} {l:List α} {p q:α→List β} (h:∀x∈l,p x=q x):l.flatMap p=l.flatMap q:=by
  induction l with
  |nil=>rfl
  |cons a l ih=>simp only[List.flatMap_cons];rw[h a (by simp),ih fun x hx=>h x (by simp[hx])]
theorem c7T(hpd:Γ.pd=none)(hok:wOk cx o Γ=true)(hW1:∀n∈Γ.foot o,n∈W)(hW2:∀n∈a8u cx o (o.dst.getD 0),n∈W):a1A g cx o o.dst Γ W:=by
 unfold wOk at hok
 split at hok
 rename_i c ho
 split at hok
 rename_i hc;simp only[bA,a18]at hok;obtain⟨d,hd⟩:=a02.1 hok.1;rw[hd];exact c9C ho hc hd hpd hW1 (hW2 d (by rw[hd];exact a27)) hok.2;rename_i f hc
 split at hok
 rename_i s hs;refine d3n ho hc rfl hpd hs hW1 hW2 ?_
 simp only[a48,a18]at hok;refine hok.imp id fun h a ha=>?_
 obtain⟨x,hx,rfl⟩:=a19.1 ha
 have:=lA.1 h x hx
 simpa using this;cases hok;cases hok
 ·rename_i t a x ho;have ha:a∈o.op.operands.toList:=by rw[ho];simp[Op.operands]
  have hx:x∈o.op.operands.toList:=by rw[ho];simp[Op.operands]
  obtain⟨hok,hag⟩:=a21.1 hok;have hag:Γ.aggOf x=none:=by simpa using hag
  have hop:∀Γ2:AE,a1z W (a0y o) Γ Γ2→∀{ρ:Type}(K:AE→Rs ρ),aop cx false o Γ2 K=(match Γ2.opd a with
    |.ptr n p=>(match cx.T t with
     |some t=>Γ2.stor t n p (Γ2.opd x) fun Γ=>K (Γ.setD o.dst .dead)
     |none=>none)
    |_=>none):=fun Γ2 hA ρ K=>by
   have hag2:Γ2.aggOf x=none:=(hA.aggOf hx).trans hag;unfold aop;rw[ho];simp only[hag2];cases o.dst<;>rfl
  cases hpa:Γ.opd a with
  |ptr n p=>
   cases ht:cx.T t with
   |none=>exact a1A.none fun Γ2 hA ρ K=>by rw[hop Γ2 hA,hA.opd ha,hpa,ht]
   |some τ=>
    refine d3o hpd (t:=τ) (n:=n) (p:=p) (x:=Γ.opd x) (hW1 n (c2D ha (by rw[hpa];simp[AV.refs]))) (by simpa using hok) fun Γ2 hA ρ K=>?_
    rw[hop Γ2 hA,hA.opd ha,hpa,ht,hA.opd hx]
  |_=>exact a1A.none fun Γ2 hA ρ K=>by rw[hop Γ2 hA,hA.opd ha,hpa]
 cases hok
theorem b8H{ρ:Type}{ops:Array Oper}{ws:List Nat}{K:AE→Rs ρ}{z:ρ}(hz:a0R cx (.w ws) ops.toList o Γ K=some z):
  ∃(W:List Nat)(m:MDl),FW W m.f∧(∀n∈W,n∈ws)∧K (a4V W m o.dst Γ)=some z∧
   ∀Γ2,a1z W (o.looksAt ops) Γ Γ2→∀{ρ2:Type}(K2:AE→Rs ρ2),a0R cx (.w ws) ops.toList o Γ2 K2=K2 (a4V W m o.dst Γ2):=by
 rw[b1k]at hz;cases hl:a2X ops o Γ with
 |none=>rw[hl]at hz;cases hz
 |some b=>
  rw[hl]at hz;cases b with
  |false=>
   have hsk:∀Γ2:AE,Γ2.setD o.dst .skp=a4V [] ⟨id,fun _=>none,.one .skp,none⟩ o.dst Γ2:=fun Γ2=>by
    simp only[a4V,b5C];cases o.dst with
    |none=>rfl
    |some d=>
     simp only[AE.setD,AE.set,AE.put];congr 1;funext i
     by_cases h:i=d
     subst h;simp;have h1:(i==d)=false:=by simpa using h
     have h2:(some d==some i)=false:=by simpa using Ne.symm h
     rw[h1,h2]
   refine⟨[],⟨id,fun _=>none,.one .skp,none⟩,FW.id,fun n hn=>(by cases hn),by rw[←hsk Γ];exact hz,fun Γ2 hA ρ2 K2=>?_⟩;rw[b1k,b0L hA.2.2,hl,←hsk Γ2]
  |true=>
   simp only[a4F]at hz;cases hpd:Γ.pd with
   |some p=>rw[hpd]at hz;cases hz
   |none=>
    rw[hpd]at hz;simp only[]at hz;obtain⟨hok,hz⟩:=(a0i hz).elim id fun h=>by cases h.2
    simp only[bA]at hok;obtain⟨hok,hs1,hs2⟩:=hok
    let W:=Γ.foot o++a8u cx o (o.dst.getD 0)
    obtain⟨r,hr0,hr⟩:=c7T (g:=true) (cx:=cx) (W:=W) hpd hok (fun n hn=>a16 _ hn) (fun n hn=>a06 _ hn);have hz:aop cx false o Γ (gPd true K)=some z:=hz;rw[hr Γ a1z.refl]at hz;cases r with
    |none=>cases hz
    |some m=>
     have hz:K (a9M W m o.dst Γ)=some z:=hz;rw[c7k ((hr0 m rfl).2 rfl)]at hz;refine⟨W,m,(hr0 m rfl).1,fun n hn=>(mA.1 hn).elim (b2M hs1) (b2M hs2),hz,fun Γ2 hA ρ2 K2=>?_⟩;have hA':a1z W (a0y o) Γ Γ2:=⟨hA.1,hA.2.1,fun t ht=>hA.2.2 t (a6h ht)⟩;rw[b1k,b0L hA.2.2,hl];simp only[a4F];rw[hA.1,hpd,c5V hA',hok,c3v hA'.2.2,hs1,hs2];refine Eq.trans (hr Γ2 hA' K2) ?_
     simp only[c7l];rw[c7k ((hr0 m rfl).2 rfl)]
theorem d1l{ρ:Type}{ops:Array Oper}{ws:List Nat}{K:AE→Rs ρ}{z:ρ}(hz:a0R cx (.a ws) ops.toList o Γ K=some z):
  ∃(W:List Nat)(m:MDl),FW W m.f∧(∀n∈W,n∈ws)∧K (a9M W m o.dst Γ)=some z∧
   ∀Γ2,a1z W (o.looksAt ops) Γ Γ2→∀{ρ2:Type}(K2:AE→Rs ρ2),a0R cx (.a ws) ops.toList o Γ2 K2=K2 (a9M W m o.dst Γ2):=by
 rw[b1k]at hz;cases hl:a2X ops o Γ with
 |none=>rw[hl]at hz;cases hz
 |some b=>
  rw[hl]at hz;cases b with
  |false=>
   have hsk:∀Γ2:AE,Γ2.setD o.dst .skp=a4V [] ⟨id,fun _=>none,.one .skp,none⟩ o.dst Γ2:=fun Γ2=>by
    simp only[a4V,b5C];cases o.dst with
    |none=>rfl
    |some d=>
     simp only[AE.setD,AE.set,AE.put];congr 1;funext i
     by_cases h:i=d
     subst h;simp;have h1:(i==d)=false:=by simpa using h
     have h2:(some d==some i)=false:=by simpa using Ne.symm h
     rw[h1,h2]
   refine⟨[],⟨id,fun _=>none,.one .skp,none⟩,FW.id,fun n hn=>(by cases hn),by rw[c7k rfl,←hsk Γ];exact hz,fun Γ2 hA ρ2 K2=>?_⟩;rw[b1k,b0L hA.2.2,hl,c7k rfl,←hsk Γ2]
  |true=>
   simp only[a4F]at hz;cases hpd:Γ.pd with
   |some p=>rw[hpd]at hz;cases hz
   |none=>
    rw[hpd]at hz;simp only[]at hz;obtain⟨hok,hz⟩:=(a0i hz).elim id fun h=>by cases h.2
    simp only[bA]at hok;obtain⟨hok,hs1,hs2⟩:=hok
    let W:=Γ.foot o++a8u cx o (o.dst.getD 0)
    obtain⟨r,hr0,hr⟩:=c7T (g:=false) (cx:=cx) (W:=W) hpd hok (fun n hn=>a16 _ hn) (fun n hn=>a06 _ hn);have hz:aop cx false o Γ (gPd false K)=some z:=hz;rw[hr Γ a1z.refl]at hz;cases r with
    |none=>cases hz
    |some m=>
     have hz:K (a9M W m o.dst Γ)=some z:=hz;refine⟨W,m,(hr0 m rfl).1,fun n hn=>(mA.1 hn).elim (b2M hs1) (b2M hs2),hz,fun Γ2 hA ρ2 K2=>?_⟩;have hA':a1z W (a0y o) Γ Γ2:=⟨hA.1,hA.2.1,fun t ht=>hA.2.2 t (a6h ht)⟩;rw[b1k,b0L hA.2.2,hl];simp only[a4F];rw[hA.1,hpd,c5V hA',hok,c3v hA'.2.2,hs1,hs2];exact hr Γ2 hA' K2
end
theorem AE.ext'{Γ Γ2:AE}(h1:∀i,Γ.sl i=Γ2.sl i)(h2:∀n,Γ.rt n=Γ2.rt n)(h3:Γ.pd=Γ2.pd):Γ=Γ2:=by
 obtain⟨a,b,c⟩:=Γ;obtain⟨a',b',c'⟩:=Γ2;obtain rfl:a=a':=funext h1;obtain rfl:b=b':=funext h2;obtain rfl:c=c':=h3;rfl
theorem b4d(δ:Dl)(d:Nat)(Γ:AE)(i:Nat):(δ.app d Γ).sl i=if i=d then δ.sv else Γ.sl i:=by
 simp only[Dl.app]
 by_cases h:i=d
 simp[h]
 have:(i==d)=false:=by simpa using h
 simp[this,h]
theorem a1B{δ:Dl}{d:Nat}{Γ:AE}{n:Nat}(h:find δ.rs n=none):(δ.app d Γ).rt n=Γ.rt n:=by simp[Dl.app,h]
theorem c9D{δ:Dl}{d:Nat}{Γ:AE}{n:Nat}(h:find δ.rs n≠none):(δ.app d Γ).rt n≠none:=by
 cases e:find δ.rs n with
 |none=>exact absurd e h
 |some r=>simp[Dl.app,e]
theorem c0p{δ:Dl}{d:Nat}{Γ:AE}(h:∀n,find δ.rs n≠none→Γ.rt n=none){n:Nat}(hn:Γ.rt n≠none):(δ.app d Γ).rt n=Γ.rt n:=
 a1B (by
  cases e:find δ.rs n with
  |none=>rfl
  |some r=>exact absurd (h n (by rw[e];simp)) hn)
theorem a3K(W:List Nat)(m:MDl)(d:Option Nat)(Γ:AE)(i:Nat):(a4V W m d Γ).sl i=if d=some i then m.sv else(Γ.sl i).mapv m.f:=by
 simp only[a4V]
 by_cases h:d=some i
 subst h;simp
 have:(d==some i)=false:=by simpa using h
 rw[if_neg h,this];rfl
theorem a9N{W:List Nat}{m:MDl}{d:Option Nat}{Γ:AE}{n:Nat}(h:n∉W):(a4V W m d Γ).rt n=Γ.rt n:=by
 simp only[a4V]
 have:W.contains n=false:=by
  cases e:W.contains n with
  |false=>rfl
  |true=>exact absurd (by simpa using e) h
 rw[this];rfl
theorem c2F{a b:List Nat}(h:disj a b=true){n:Nat}(h1:n∈a):n∉b:=by
 have:=lA.1 h n h1
 simpa using this
theorem a7Y(Γ:AE)(d:Nat)(sv:SV)(i:Nat):(Γ.put d sv).sl i=if i=d then sv else Γ.sl i:=by
 simp only[AE.put]
 by_cases h:i=d
 simp[h]
 have:(i==d)=false:=by simpa using h
 simp[this,h]
section
variable {ρ:Type} {cx:Cx} {ops:Array Oper} {k i:Oper} {dk di:Nat} {Γ:AE} {K:AE→Rs ρ} {z:ρ}
theorem d6A{mk mi:Md}(hmk:mk.quiet)(hmi:mi.quiet)(hdk:k.dst=some dk)(hdi:i.dst=some di)(hap:k.apart ops i=true)(hroots:∀t∈i.looksAt ops,∀n∈(Γ.sl t).refs,mi.reads n→Γ.rt n≠none)
  (hz:a0R cx mk ops.toList k Γ (fun Γ1=>a0R cx mi ops.toList i Γ1 K)=some z):a0R cx mi ops.toList i Γ (fun Γ1=>a0R cx mk ops.toList k Γ1 K)=some z:=by
 obtain⟨a1,a2,a3⟩:=Oper.apart_spec hap;have a1:=a1 dk hdk;have a2:di≠dk:=fun e=>a2 dk hdk (by rw[hdi,e]);have a3:=a3 di hdi;obtain⟨δk,Lk,h1,h2,h3,h4⟩:=c7S hmk hdk hz;obtain⟨δi,Li,g1,g2,g3,g4⟩:=c7S hmi hdi h2;have hik:∀n,find δi.rs n≠none→find δk.rs n=none:=fun n hn=>by
  have:=g3 n hn
  cases e:find δk.rs n with
  |none=>rfl
  |some r=>exact absurd this (c9D (by rw[e];simp))
 have hiΓ:∀n,find δi.rs n≠none→Γ.rt n=none:=fun n hn=>by rw[←g3 n hn,a1B (hik n hn)]
 have hAi:c7R mi Li (δk.app dk Γ) Γ:=by
  refine⟨rfl,fun t ht=>?_⟩;have htd:t≠dk:=fun e=>a1 (e▸(g1 t ht).1);have hs:(δk.app dk Γ).sl t=Γ.sl t:=by rw[b4d,if_neg htd]
  refine⟨hs.symm,fun n hn=>?_⟩;intro hv;have hq:=((g1 t ht).2 n hn hv).1;rw[hs]at hn;exact(c0p h3 (hroots t (g1 t ht).1 n hn hq)).symm
 rw[g4 Γ hAi hiΓ];have hAk:c7R mk Lk Γ (δi.app di Γ):=by
  refine⟨rfl,fun t ht=>?_⟩;have htd:t≠di:=fun e=>a3 (e▸(h1 t ht).1);exact⟨by rw[b4d,if_neg htd],fun n hn hv=>c0p hiΓ ((h1 t ht).2 n hn hv).2⟩
 have hki:∀n,find δk.rs n≠none→find δi.rs n=none:=fun n hn=>by
  cases e:find δi.rs n with
  |none=>rfl
  |some r=>exact absurd (hik n (by rw[e];simp)) hn
 rw[h4 _ hAk fun n hn=>by rw[a1B (hki n hn)];exact h3 n hn,←g2];congr 1;refine AE.ext' (fun j=>?_) (fun n=>?_) rfl;simp only[b4d]
 by_cases e1:j=dk
 rw[if_pos e1,if_neg (fun e=>a2 (e.symm.trans e1)),if_pos e1];rw[if_neg e1,if_neg e1]
 ·cases e1:find δk.rs n with
  |none=>
   rw[a1B e1];cases e2:find δi.rs n with
   |none=>rw[a1B e2,a1B e2,a1B e1]
   |some r=>simp[Dl.app,e2]
  |some r=>
   rw[a1B (hki n (by rw[e1];simp))];simp[Dl.app,e1]
theorem d6B{ws:List Nat}(hdk:k.dst=some dk)(hap:k.apart ops i=true)
  (hz:a0R cx .v ops.toList k Γ (fun Γ1=>a0R cx (.w ws) ops.toList i Γ1 K)=some z):a0R cx (.w ws) ops.toList i Γ (fun Γ1=>a0R cx .v ops.toList k Γ1 K)=some z:=by
 obtain⟨a1,a2,a3⟩:=Oper.apart_spec hap;have a1:=a1 dk hdk;have a2:=a2 dk hdk;obtain⟨sv,L,h1,h2,h3,h4⟩:=d1g hdk hz;obtain⟨W,m,g1,-,g2,g3⟩:=b8H h3;have s1:a1z W (i.looksAt ops) (Γ.put dk sv) Γ:=⟨rfl,fun _ _=>rfl,fun t ht=>by
  have htd:t≠dk:=fun e=>a1 (by rw[←e];exact ht);rw[a7Y,if_neg htd]⟩
 have s2:∀t∈L,(a4V W m i.dst Γ).sl t=Γ.sl t:=fun t ht=>by
  have htd:¬ i.dst=some t:=fun e=>a3 t e (h2 t ht).1;rw[a3K,if_neg htd];exact g1.fp.sv (h2 t ht).2
 rw[g3 Γ s1,h4 (a4V W m i.dst Γ) rfl s2,←g2];congr 1;refine AE.ext' (fun j=>?_) (fun n=>rfl) rfl;simp only[a7Y,a3K]
 by_cases e1:j=dk
 subst e1;rw[if_pos rfl,if_neg a2,if_pos rfl];exact(g1.fp.sv h1).symm;rw[if_neg e1,if_neg e1]
theorem d6C{ws:List Nat}(hdi:i.dst=some di)(hap:k.apart ops i=true)
  (hz:a0R cx (.w ws) ops.toList k Γ (fun Γ1=>a0R cx .v ops.toList i Γ1 K)=some z):a0R cx .v ops.toList i Γ (fun Γ1=>a0R cx (.w ws) ops.toList k Γ1 K)=some z:=by
 obtain⟨a1,a2,a3⟩:=Oper.apart_spec hap;have a3:=a3 di hdi;have a2:¬ k.dst=some di:=fun e=>a2 di e hdi;obtain⟨W,m,g1,-,g2,g3⟩:=b8H hz;obtain⟨sv,L,h1,h2,h3,h4⟩:=d1g hdi g2;have s1:∀t∈L,Γ.sl t=(a4V W m k.dst Γ).sl t:=fun t ht=>by
  have h5:=(h2 t ht).2;have htd:¬ k.dst=some t:=fun e=>a1 t e (h2 t ht).1;rw[a3K,if_neg htd]at h5⊢;exact(g1.fp.sv' h5).symm
 have s2:a1z W (k.looksAt ops) Γ (Γ.put di sv):=⟨rfl,fun _ _=>rfl,fun t ht=>by
  have htd:t≠di:=fun e=>a3 (by rw[←e];exact ht);rw[a7Y,if_neg htd]⟩
 rw[h4 Γ rfl s1,g3 (Γ.put di sv) s2,←h3];congr 1;refine AE.ext' (fun j=>?_) (fun n=>rfl) rfl;simp only[a7Y,a3K]
 by_cases e2:j=di
 subst e2;rw[if_neg a2,if_pos rfl,if_pos rfl];exact g1.fp.sv h1;rw[if_neg e2,if_neg e2]
theorem b8I(W:List Nat)(m:MDl)(d:Option Nat)(Γ:AE)(i:Nat):(a9M W m d Γ).sl i=if d=some i then m.sv else(Γ.sl i).mapv m.f:=a3K W m d Γ i
theorem d6D{ws:List Nat}(hdk:k.dst=some dk)(hap:k.apart ops i=true)
  (hz:a0R cx .p ops.toList k Γ (fun Γ1=>a0R cx (.w ws) ops.toList i Γ1 K)=some z):a0R cx (.w ws) ops.toList i Γ (fun Γ1=>a0R cx .p ops.toList k Γ1 K)=some z:=by
 obtain⟨a1,a2,a3⟩:=Oper.apart_spec hap;have a1:=a1 dk hdk;have a2:=a2 dk hdk;obtain⟨sv,L,h1,h2,h3,h4⟩:=c3u hdk hz;obtain⟨W,m,g1,-,g2,g3⟩:=b8H h3;have s1:a1z W (i.looksAt ops) (Γ.put dk sv) Γ:=⟨rfl,fun _ _=>rfl,fun t ht=>by
  have htd:t≠dk:=fun e=>a1 (by rw[←e];exact ht);rw[a7Y,if_neg htd]⟩
 have s2:∀t∈L,(a4V W m i.dst Γ).sl t=Γ.sl t:=fun t ht=>by
  have htd:¬ i.dst=some t:=fun e=>a3 t e (h2 t ht).1;rw[a3K,if_neg htd];exact g1.fp.sv (h2 t ht).2
 rw[g3 Γ s1,h4 (a4V W m i.dst Γ) s2,←g2];congr 1;refine AE.ext' (fun j=>?_) (fun n=>rfl) rfl;simp only[a7Y,a3K]
 by_cases e1:j=dk
 subst e1;rw[if_pos rfl,if_neg a2,if_pos rfl];exact(g1.fp.sv h1).symm;rw[if_neg e1,if_neg e1]
theorem d6E{ws:List Nat}(hdi:i.dst=some di)(hap:k.apart ops i=true)
  (hz:a0R cx (.w ws) ops.toList k Γ (fun Γ1=>a0R cx .p ops.toList i Γ1 K)=some z):a0R cx .p ops.toList i Γ (fun Γ1=>a0R cx (.w ws) ops.toList k Γ1 K)=some z:=by
 obtain⟨a1,a2,a3⟩:=Oper.apart_spec hap;have a3:=a3 di hdi;have a2:¬ k.dst=some di:=fun e=>a2 di e hdi;obtain⟨W,m,g1,-,g2,g3⟩:=b8H hz;obtain⟨sv,L,h1,h2,h3,h4⟩:=c3u hdi g2;have s1:∀t∈L,Γ.sl t=(a4V W m k.dst Γ).sl t:=fun t ht=>by
  have h5:=(h2 t ht).2;have htd:¬ k.dst=some t:=fun e=>a1 t e (h2 t ht).1;rw[a3K,if_neg htd]at h5⊢;exact(g1.fp.sv' h5).symm
 have s2:a1z W (k.looksAt ops) Γ (Γ.put di sv):=⟨rfl,fun _ _=>rfl,fun t ht=>by
  have htd:t≠di:=fun e=>a3 (by rw[←e];exact ht);rw[a7Y,if_neg htd]⟩
 rw[h4 Γ s1,g3 (Γ.put di sv) s2,←h3];congr 1;refine AE.ext' (fun j=>?_) (fun n=>rfl) rfl;simp only[a7Y,a3K]
 by_cases e2:j=di
 subst e2;rw[if_neg a2,if_pos rfl,if_pos rfl];exact g1.fp.sv h1;rw[if_neg e2,if_neg e2]
theorem d6F{ws:List Nat}(hdk:k.dst=some dk)(hap:k.apart ops i=true)
  (hz:a0R cx .p ops.toList k Γ (fun Γ1=>a0R cx (.a ws) ops.toList i Γ1 K)=some z):a0R cx (.a ws) ops.toList i Γ (fun Γ1=>a0R cx .p ops.toList k Γ1 K)=some z:=by
 obtain⟨a1,a2,a3⟩:=Oper.apart_spec hap;have a1:=a1 dk hdk;have a2:=a2 dk hdk;obtain⟨sv,L,h1,h2,h3,h4⟩:=c3u hdk hz;obtain⟨W,m,g1,-,g2,g3⟩:=d1l h3;have s1:a1z W (i.looksAt ops) (Γ.put dk sv) Γ:=⟨rfl,fun _ _=>rfl,fun t ht=>by
  have htd:t≠dk:=fun e=>a1 (by rw[←e];exact ht);rw[a7Y,if_neg htd]⟩
 have s2:∀t∈L,(a9M W m i.dst Γ).sl t=Γ.sl t:=fun t ht=>by
  have htd:¬ i.dst=some t:=fun e=>a3 t e (h2 t ht).1;rw[b8I,if_neg htd];exact g1.fp.sv (h2 t ht).2
 rw[g3 Γ s1,h4 (a9M W m i.dst Γ) s2,←g2];congr 1;refine AE.ext' (fun j=>?_) (fun n=>rfl) rfl;simp only[a7Y,b8I]
 by_cases e1:j=dk
 subst e1;rw[if_pos rfl,if_neg a2,if_pos rfl];exact(g1.fp.sv h1).symm;rw[if_neg e1,if_neg e1]
theorem d6G{ws:List Nat}(hdi:i.dst=some di)(hap:k.apart ops i=true)
  (hz:a0R cx (.a ws) ops.toList k Γ (fun Γ1=>a0R cx .p ops.toList i Γ1 K)=some z):a0R cx .p ops.toList i Γ (fun Γ1=>a0R cx (.a ws) ops.toList k Γ1 K)=some z:=by
 obtain⟨a1,a2,a3⟩:=Oper.apart_spec hap;have a3:=a3 di hdi;have a2:¬ k.dst=some di:=fun e=>a2 di e hdi;obtain⟨W,m,g1,-,g2,g3⟩:=d1l hz;obtain⟨sv,L,h1,h2,h3,h4⟩:=c3u hdi g2;have s1:∀t∈L,Γ.sl t=(a9M W m k.dst Γ).sl t:=fun t ht=>by
  have h5:=(h2 t ht).2;have htd:¬ k.dst=some t:=fun e=>a1 t e (h2 t ht).1;rw[b8I,if_neg htd]at h5⊢;exact(g1.fp.sv' h5).symm
 have s2:a1z W (k.looksAt ops) Γ (Γ.put di sv):=⟨rfl,fun _ _=>rfl,fun t ht=>by
  have htd:t≠di:=fun e=>a3 (by rw[←e];exact ht);rw[a7Y,if_neg htd]⟩
 rw[h4 Γ s1,g3 (Γ.put di sv) s2,←h3];congr 1;refine AE.ext' (fun j=>?_) (fun n=>rfl) rfl;simp only[a7Y,b8I]
 by_cases e2:j=di
 subst e2;rw[if_neg a2,if_pos rfl,if_pos rfl];exact g1.fp.sv h1;rw[if_neg e2,if_neg e2]
theorem d6H{ns ws:List Nat}(hd:disj ns ws=true)(hdk:k.dst=some dk)(hap:k.apart ops i=true)
  (hz:a0R cx (.r ns) ops.toList k Γ (fun Γ1=>a0R cx (.w ws) ops.toList i Γ1 K)=some z):a0R cx (.w ws) ops.toList i Γ (fun Γ1=>a0R cx (.r ns) ops.toList k Γ1 K)=some z:=by
 obtain⟨a1,a2,a3⟩:=Oper.apart_spec hap;have a1:=a1 dk hdk;have a2:=a2 dk hdk;obtain⟨δ,L,h1,h2,h3,h4,h5⟩:=d1h hdk hz;obtain⟨W,m,g1,gW,g2,g3⟩:=b8H h2;have nw:∀n∈ns,n∉W:=fun n hn hW=>c2F hd hn (gW n hW);have hfn:∀n∈W,find δ.rs n=none:=fun n hn=>by
  cases e:find δ.rs n with
  |none=>rfl
  |some r=>exact absurd hn (nw n (h3 n (by rw[e];simp)).2)
 have s1:a1z W (i.looksAt ops) (δ.app dk Γ) Γ:=⟨rfl,fun n hn=>(a1B (hfn n hn)).symm,fun t ht=>by
  have htd:t≠dk:=fun e=>a1 (by rw[←e];exact ht);rw[b4d,if_neg htd]⟩
 have s2:b7L L Γ (a4V W m i.dst Γ):=⟨rfl,fun t ht=>by
  have htd:¬ i.dst=some t:=fun e=>a3 t e (h1 t ht).1;refine⟨?_,fun n hn=>a9N (nw n ((h1 t ht).2.2 n hn).2)⟩;rw[a3K,if_neg htd];exact g1.sv fun n hn=>nw n ((h1 t ht).2.2 n hn).2⟩
 rw[g3 Γ s1,h5 _ s2 fun n hn=>by rw[a9N (nw n (h3 n hn).2)];exact(h3 n hn).1,←g2];congr 1;refine AE.ext' (fun j=>?_) (fun n=>?_) rfl;simp only[b4d,a3K]
 by_cases e1:j=dk
 subst e1;rw[if_pos rfl,if_neg a2,if_pos rfl];exact(g1.sv fun n hn=>nw n (h4 n hn)).symm;rw[if_neg e1,if_neg e1]
 ·by_cases hW:n∈W
  rw[a1B (hfn n hW)]
  have:W.contains n=true:=by simpa using hW
  simp only[a4V,this,cT]
  ·rw[a9N hW];cases e:find δ.rs n with
   |none=>rw[a1B e,a1B e,a9N hW]
   |some r=>simp only[Dl.app,e]
theorem d6I{ns ws:List Nat}(hd:disj ns ws=true)(hdi:i.dst=some di)(hap:k.apart ops i=true)
  (hz:a0R cx (.w ws) ops.toList k Γ (fun Γ1=>a0R cx (.r ns) ops.toList i Γ1 K)=some z):a0R cx (.r ns) ops.toList i Γ (fun Γ1=>a0R cx (.w ws) ops.toList k Γ1 K)=some z:=by
 obtain⟨a1,a2,a3⟩:=Oper.apart_spec hap;have a3:=a3 di hdi;have a2:¬ k.dst=some di:=fun e=>a2 di e hdi;obtain⟨W,m,g1,gW,g2,g3⟩:=b8H hz;obtain⟨δ,L,h1,h2,h3,h4,h5⟩:=d1h hdi g2;have nw:∀n∈ns,n∉W:=fun n hn hW=>c2F hd hn (gW n hW);have hfn:∀n∈W,find δ.rs n=none:=fun n hn=>by
  cases e:find δ.rs n with
  |none=>rfl
  |some r=>exact absurd hn (nw n (h3 n (by rw[e];simp)).2)
 have s1:b7L L (a4V W m k.dst Γ) Γ:=⟨rfl,fun t ht=>by
  have htd:¬ k.dst=some t:=fun e=>a1 t e (h1 t ht).1;have hal:=(h1 t ht).2.1;have hrf:=(h1 t ht).2.2;rw[a3K,if_neg htd]at hal hrf;refine⟨by rw[a3K,if_neg htd];exact(g1.sv' hal).symm,fun n hn=>?_⟩;rw[a3K,if_neg htd]at hn;exact(a9N (nw n (hrf n hn).2)).symm⟩
 have s2:a1z W (k.looksAt ops) Γ (δ.app di Γ):=⟨rfl,fun n hn=>a1B (hfn n hn),fun t ht=>by
  have htd:t≠di:=fun e=>a3 (by rw[←e];exact ht);rw[b4d,if_neg htd]⟩
 rw[h5 Γ s1 fun n hn=>by
  have:=(h3 n hn).1
  rwa [a9N (nw n (h3 n hn).2)]at this,g3 _ s2,←h2]
 congr 1;refine AE.ext' (fun j=>?_) (fun n=>?_) rfl;simp only[b4d,a3K]
 by_cases e1:j=di
 subst e1;rw[if_neg a2,if_pos rfl,if_pos rfl];exact g1.sv fun n hn=>nw n (h4 n hn);rw[if_neg e1,if_neg e1]
 ·by_cases hW:n∈W
  rw[a1B (hfn n hW)]
  have:W.contains n=true:=by simpa using hW
  simp only[a4V,this,cT]
  ·rw[a9N hW];cases e:find δ.rs n with
   |none=>rw[a1B e,a1B e,a9N hW]
   |some r=>simp only[Dl.app,e]
theorem d9H{mk mi:Md}(hc:c2Z mk mi=true)(hdk:mk.isW=true∨k.dst.isSome=true)(hdi:mi.isW=true∨i.dst.isSome=true)(hap:k.apart ops i=true)(hroots:∀t∈i.looksAt ops,∀n∈(Γ.sl t).refs,mi.reads n→Γ.rt n≠none)
  (hz:a0R cx mk ops.toList k Γ (fun Γ1=>a0R cx mi ops.toList i Γ1 K)=some z):a0R cx mi ops.toList i Γ (fun Γ1=>a0R cx mk ops.toList k Γ1 K)=some z:=by
 have qq:mk.quiet→mi.quiet→a0R cx mi ops.toList i Γ (fun Γ1=>a0R cx mk ops.toList k Γ1 K)=some z:=fun h1 h2=>by
  obtain⟨dk,hdk⟩:=a02.1 (hdk.resolve_left (by cases mk<;>first|(cases h1;done)|simp[Md.isW]))
  obtain⟨di,hdi⟩:=a02.1 (hdi.resolve_left (by cases mi<;>first|(cases h2;done)|simp[Md.isW]))
  exact d6A h1 h2 hdk hdi hap hroots hz
 cases mk with
 |x=>cases mi<;>cases hc
 |p=>
  cases mi with
  |x=>cases hc
  |a ws=>
   obtain⟨dk,hdk⟩:=a02.1 (hdk.resolve_left (by simp[Md.isW]));exact d6F hdk hap hz
  |w ws=>
   obtain⟨dk,hdk⟩:=a02.1 (hdk.resolve_left (by simp[Md.isW]));exact d6D hdk hap hz
  |_=>exact qq trivial trivial
 |a ws=>
  cases mi with
  |p=>
   obtain⟨di,hdi⟩:=a02.1 (hdi.resolve_left (by simp[Md.isW]));exact d6G hdi hap hz
  |_=>cases hc
 |v=>
  cases mi with
  |x=>cases hc
  |a ws=>cases hc
  |w ws=>
   obtain⟨dk,hdk⟩:=a02.1 (hdk.resolve_left (by simp[Md.isW]));exact d6B hdk hap hz
  |_=>exact qq trivial trivial
 |q=>
  cases mi with
  |x=>cases hc
  |a ws=>cases hc
  |w ws=>cases hc
  |_=>exact qq trivial trivial
 |r ns=>
  cases mi with
  |x=>cases hc
  |a ws=>cases hc
  |w ws=>
   obtain⟨dk,hdk⟩:=a02.1 (hdk.resolve_left (by simp[Md.isW]));exact d6H hc hdk hap hz
  |_=>exact qq trivial trivial
 |w ws=>
  cases mi with
  |p=>
   obtain⟨di,hdi⟩:=a02.1 (hdi.resolve_left (by simp[Md.isW]));exact d6E hdi hap hz
  |v=>
   obtain⟨di,hdi⟩:=a02.1 (hdi.resolve_left (by simp[Md.isW]));exact d6C hdi hap hz
  |r ns=>
   obtain⟨di,hdi⟩:=a02.1 (hdi.resolve_left (by simp[Md.isW]));exact d6I hc hdi hap hz
  |_=>cases hc
end
theorem c1C(g:Nat→Nat)(k:Nat):∀(l:List Edge)(s:Nat),(l.foldl (fun s e=>if Region.binds .any e then s ||| 2^e.on ||| g e.on else s) s).testBit k=true→
  s.testBit k=true∨∃e∈l,Region.binds .any e=true∧(e.on=k∨(g e.on).testBit k=true)
 | [],s,h=>.inl h
 |e::l,s,h=>by
  rcases c1C g k l _ h with h|⟨e',he',h'⟩
  by_cases hb:Region.binds .any e=true
  simp only[]at h;rw[if_pos hb,Nat.testBit_or,Nat.testBit_or,Nat.testBit_two_pow]at h;simp only[a48,dT]at h;rcases h with(h|h)|h;exact .inl h;exact .inr ⟨e,by simp,hb,.inl h⟩;exact .inr ⟨e,by simp,hb,.inr h⟩;simp only[]at h;rw[if_neg hb]at h;exact .inl h;exact .inr ⟨e',by simp[he'],h'⟩
def d1m(ops:List Oper)(b:List Nat):Prop:=∀j k,j<b.length→(b.getD j 0).testBit k=true→
 ∃e∈(ops.getD j default).after.toList,Region.binds .any e=true∧(e.on=k∨(b.getD e.on 0).testBit k=true)
theorem c5W(all:List Oper):∀(r:List Oper)(acc:List Nat),(∀j,r[j]?=all[acc.length+j]?)→d1m all acc→d1m all (c2u r acc)∧(c2u r acc).length=acc.length+r.length
 | [],acc,_,h=>⟨h,by simp[c2u]⟩
 |o::r,acc,hr,h=>by
  simp only[c2u];have h0:all.getD acc.length default=o:=by
   have:=hr 0
   simp only[a01,a35]at this;rw[lD,←this];rfl
  have ⟨a,b⟩:=c5W all r (acc++[o.after.toList.foldl (fun s e=>if Region.binds .any e then s ||| 2^e.on ||| acc.getD e.on 0 else s) 0]) (fun j=>by
    have:=hr (j+1)
    simp only[List.getElem?_cons_succ]at this;rw[this,lN,a67];congr 1;omega) (fun j k hj hb=>by
   have up:∀m,(acc.getD m 0).testBit k=true→((acc++[o.after.toList.foldl (fun s e=>if Region.binds .any e then s ||| 2^e.on ||| acc.getD e.on 0 else s) 0]).getD m 0).testBit k=true:=fun m hm=>by
    by_cases hlt:m<acc.length
    rw[lD,a41 hlt,←lD];exact hm;rw[lD,a23 (by omega)]at hm;simp at hm
   by_cases hlt:j<acc.length
   rw[lD,a41 hlt,←lD]at hb;obtain⟨e,he,h1,h2⟩:=h j k hlt hb;exact⟨e,he,h1,h2.imp id (up e.on)⟩;have hj':j=acc.length:=by simp only[lN,a67]at hj;omega
   subst hj';rw[lD,a55 (a34 _)]at hb;simp only[Nat.sub_self,a01,a39]at hb;rcases c1C (fun m=>acc.getD m 0) k _ _ hb with h'|⟨e,he,h1,h2⟩;simp at h';exact⟨e,by rw[h0];exact he,h1,h2.imp id (up e.on)⟩)
  exact⟨a,by rw[b];simp;omega⟩
section
variable {P:Program} {B:Base} {N:Nat} {cx:Cx} {ro:Option Nat} {D:List Deferred}
theorem d7v{ρ:Type}{ops:Array Oper}{mi:Md}{i:Oper}{z:ρ}(l2:List (Md×Oper)):∀(l1:List (Md×Oper)) {Γ:AE} {K:AE→Rs ρ},
  (∀p∈l1,c2Z p.1 mi=true∧p.2.apart ops i=true∧(p.1.isW=true∨p.2.dst.isSome=true)∧(mi.isW=true∨i.dst.isSome=true))→(∀t∈i.looksAt ops,∀n∈(Γ.sl t).refs,mi.reads n→Γ.rt n≠none)→
  a6E cx ops.toList (l1++(mi,i)::l2) Γ K=some z→a0R cx mi ops.toList i Γ (fun Γ1=>a6E cx ops.toList (l1++l2) Γ1 K)=some z
 | [],Γ,K,_,_,hz=>hz
 |(mk,k)::l1,Γ,K,hall,hroots,hz=>by
  obtain⟨hc,hap,hdk,hdi⟩:=hall (mk,k) (by simp);have hz:a0R cx mk ops.toList k Γ (fun Γ1=>a6E cx ops.toList (l1++(mi,i)::l2) Γ1 K)=some z:=hz;have ih:∀Γ1,(∀t∈i.looksAt ops,∀n∈(Γ1.sl t).refs,mi.reads n→Γ1.rt n≠none)→a6E cx ops.toList (l1++(mi,i)::l2) Γ1 K=some z→a0R cx mi ops.toList i Γ1 (fun Γ2=>a6E cx ops.toList (l1++l2) Γ2 K)=some z:=
   fun Γ1 hr h=>d7v l2 l1 (fun p hp=>hall p (by simp[hp])) hr h
  refine d9H hc hdk hdi hap hroots ?_
  obtain⟨a1,-,-⟩:=Oper.apart_spec hap;have vq:mk.quiet→a0R cx mk ops.toList k Γ (fun Γ1=>a0R cx mi ops.toList i Γ1 fun Γ2=>a6E cx ops.toList (l1++l2) Γ2 K)=some z:=fun hm=>by
   obtain⟨dk,hdk⟩:=a02.1 (hdk.resolve_left (by cases mk<;>first|(cases hm;done)|simp[Md.isW]))
   have a1:=a1 dk hdk;obtain⟨δ,L,h1,h2,h3,h4⟩:=c7S hm hdk hz;rw[h4 Γ ⟨rfl,fun _ _=>⟨rfl,fun _ _ _=>rfl⟩⟩ h3];refine ih _ (fun t ht n hn hq=>?_) h2;rw[b4d,if_neg (fun e=>a1 (by rw[←e];exact ht))]at hn
   have:=hroots t ht n hn hq
   rw[c0p h3 this];exact this
  cases mk with
  |v=>exact vq trivial
  |p=>exact vq trivial
  |a ws=>
   obtain⟨W,m,h1,hW,h2,h3⟩:=d1l hz;rw[h3 Γ a1z.refl];refine ih _ (fun t ht n hn hq=>?_) h2;cases mi with
   |p=>cases hq
   |_=>cases hc
  |q=>exact vq trivial
  |r ns=>exact vq trivial
  |w ws=>
   obtain⟨W,m,h1,hW,h2,h3⟩:=b8H hz;rw[h3 Γ a1z.refl];refine ih _ (fun t ht n hn hq=>?_) h2;have htd:¬ k.dst=some t:=fun e=>a1 t e ht;rw[a3K,if_neg htd]at hn;have hn:=h1.refs hn;cases mi with
   |v=>cases hq
   |p=>cases hq
   |r ns=>
    have hnw:n∉W:=fun hw=>c2F hc hq (hW n hw);rw[a9N hnw];exact hroots t ht n hn hq
   |_=>cases hc
  |x=>cases mi<;>cases hc
def a2v(n:Nat)(listed:Array Bool):List Nat:=(a45 n).filter fun i=>!listed.getD i true
def c0q(ops:Array Oper)(ms:List Md)(i:Nat):Md×Oper:=(ms.getD i .x,ops.getD i default)
structure DrawOk (ops:Array Oper) (ms:List Md) (b:List Nat):Prop where
 len:ms.length=ops.size
 good:d1m ops.toList b
 lb:b.length=ops.size
 back:∀j e,j<ops.size→e∈(ops.getD j default).after.toList→Region.binds .any e=true→e.on<j
 pair:∀i j,i<j→j<ops.size→(b.getD j 0).testBit i=true∨(c2Z (ms.getD i .x) (ms.getD j .x)=true∧(ops.getD i default).apart ops (ops.getD j default)=true∧((ms.getD i .x).isW=true∨(ops.getD i default).dst.isSome=true)∧((ms.getD j .x).isW=true∨(ops.getD j default).dst.isSome=true))
theorem c9E{ops:Array Oper}{ms:List Md}(h:c3a ops ms=true):DrawOk ops ms (c2u ops.toList []):=by
 simp only[c3a,bA,dT,lA,a07]at h;obtain⟨h1,h2⟩:=h;obtain⟨g1,g2⟩:=c5W ops.toList ops.toList [] (fun j=>by simp) (fun j k hj=>by simp at hj);refine⟨h1,g1,by simpa using g2,fun j e hj he hb=>?_,fun i j hij hj=>?_⟩
 have:=(h2 j hj).1 e he
 simp only[hb,bT,Bool.false_or,dT]at this;exact this
 have:=(h2 j hj).2 i hij
 simp only[a48,bA]at this;exact this
theorem c3w{n:Nat}{listed:Array Bool}{i:Nat}(hs:listed.size=n)(hi:i∈a2v n listed):∃l1 l2,a2v n listed=l1++i::l2∧a2v n (listed.setIfInBounds i true)=l1++l2∧∀k∈l1,k<i∧k∈a2v n listed:=by
 have hin:i<n:=by
  simp only[a2v,a08,a07]at hi;exact hi.1
 have hni:listed.getD i true=false:=by
  simp only[a2v,a08,a18]at hi;exact hi.2
 have hsplit:a45 n=a45 i++i::(a56 (i+1) (n-i-1)):=by
  rw[a37,a37,show n=i+(1+(n-i-1))from by omega,←a73,←a73]
  simp
 have hne:∀j,j≠i→(listed.setIfInBounds i true).getD j true=listed.getD j true:=fun j hj=>by
  simp only[a00];rw[a32 (Ne.symm hj)]
 refine⟨(a45 i).filter fun i=>!listed.getD i true,(a56 (i+1) (n-i-1)).filter fun i=>!listed.getD i true,?_,?_,fun k hk=>?_⟩;simp only[a2v];rw[hsplit,a82,a88,if_pos (by simp[hni])];simp only[a2v];rw[hsplit,a82,a88,if_neg (by
  simp only[a00];rw[a38 (by omega)]
  simp)]
 congr 1;exact a58 fun j hj=>by rw[hne j (by have:=a07.1 hj;omega)]
 exact a58 fun j hj=>by rw[hne j (by have:=List.mem_range'_1.1 hj;omega)]
 simp only[a08,a07]at hk;exact⟨hk.1,by simp only[a2v,a08,a07];exact⟨by omega,hk.2⟩⟩
theorem d4G(hcx:CxOk P cx)(hG:GOk cx.G B){ρ:Type}{ops:Array Oper}{ms:List Md}{b:List Nat}(hok:DrawOk ops ms b){K:AE→Rs ρ}{z:ρ}{Q:Exit→Act→World→Prop}(hf:∀o∈ops.toList,a9l N ops.toList o=true)
  (hQ:∀a' w' Γ' σ',Rel B Γ' N (a0n a') w' σ'→a'.tmps.size=N→a'.defers=D→K Γ'=some z→Q .normal a' w'):
  ∀(fuel:Nat)(listed:Array Bool){Γ:AE}{a:Act}{w:World}{σ:Gh},listed.size=ops.size→(a2v ops.size listed).length=fuel→
   (∀j k,j<ops.size→listed.getD j true=true→(b.getD j 0).testBit k=true→listed.getD k true=true)→
   Rel B Γ N (a0n a) w σ→a.tmps.size=N→a.defers=D→a6E cx ops.toList ((a2v ops.size listed).map (c0q ops ms)) Γ K=some z→wpAnyIn (Fr ro) 0 P .any ops Q fuel listed a w:=by
 intro fuel;have hrest:∀listed i,i∈Region.ready .any ops listed→i∈a2v ops.size listed∧∀e∈(ops.getD i default).after.toList,Region.binds .any e=true→listed.getD e.on false=true:=by
  intro listed i hi;simp only[Region.ready,a08,a07,bA]at hi;refine⟨by simp only[a2v,a08,a07];exact⟨hi.1,hi.2.1⟩,fun e he hb=>?_⟩;have h3:=hi.2.2;have hget:ops[i]?=some (ops.getD i default):=by
   have hlt:=hi.1;simp[a00,hlt]
  rw[hget]at h3;simp only[a49,a39]at h3;rw[←a89]at h3
  have:=lA.1 h3 e he
  simpa[hb]using this
 have hdone:∀(listed:Array Bool),a2v ops.size listed=[]→Region.ready .any ops listed=[]:=fun listed h=>by
  refine List.eq_nil_iff_forall_not_mem.2 fun i hi=>?_
  have:=(hrest listed i hi).1
  rw[h]at this;cases this
 induction fuel with
 |zero=>
  intro listed Γ a w σ hs hl hcl hr hN hD hz;have h0:=List.eq_nil_of_length_eq_zero hl;rw[h0]at hz;exact⟨hdone listed h0,hQ a w Γ σ hr hN hD hz⟩
 |succ fuel ih=>
  intro listed Γ a w σ hs hl hcl hr hN hD hz;refine⟨fun hnil=>?_,fun i hi=>?_⟩
  ·
   exfalso
   cases hR:a2v ops.size listed with
   |nil=>rw[hR]at hl;cases hl
   |cons i R=>
    have hiR:i∈a2v ops.size listed:=by rw[hR];simp
    have hi:=hiR;simp only[a2v,a08,a07]at hi
    have:i∈Region.ready .any ops listed:=by
     simp only[Region.ready,a08,a07,bA];refine⟨hi.1,hi.2,?_⟩;have hget:ops[i]?=some (ops.getD i default):=by
      have hlt:=hi.1;simp[a00,hlt]
     rw[hget];simp only[a49,a39];rw[←a89];refine lA.2 fun e he=>?_
     by_cases hb:Region.binds .any e=true
     ·have hlt:=hok.back i e hi.1 he hb;have hlist:listed.getD e.on true=true:=by
       cases hv:listed.getD e.on true with
       |true=>rfl
       |false=>
        obtain⟨l1,l2,g1,-,g3⟩:=c3w (n:=ops.size) hs (i:=e.on) (by simp only[a2v,a08,a07];exact⟨by omega,by simp[hv]⟩);have hord:(a2v ops.size listed).Pairwise (·<·):=List.Pairwise.filter _ List.pairwise_lt_range;rw[hR]at g1 hord;cases l1 with
        |nil=>simp only[a64,List.cons.injEq]at g1;omega
        |cons x l1=>
         simp only[a86,List.cons.injEq]at g1
         have:=(List.pairwise_cons.1 hord).1 e.on (by rw[g1.2];simp)
         omega
      have hlist':listed.getD e.on false=true:=by
       have:e.on<listed.size:=by omega
       simp only[a00,a59 this,a39]at hlist⊢;exact hlist
      simp[hlist']
     simp[hb]
    rw[hnil]at this;cases this
  ·obtain⟨hiR,hdeps⟩:=hrest listed i hi;obtain⟨l1,l2,g1,g2,g3⟩:=c3w hs hiR;have hin:i<ops.size:=by simp only[a2v,a08,a07]at hiR;exact hiR.1
   have hget:ops[i]?=some (ops.getD i default):=by
    simp[a00,hin]
   have hmem:ops.getD i default∈ops.toList:=by
    rw[Array.mem_toList_iff];exact Array.mem_of_getElem? hget
   have hfit:=hf _ hmem;have tr:∀k,listed.getD k false=true→listed.getD k true=true:=fun k hk=>by
    simp only[a00]at hk⊢;cases h:listed[k]? with
    |none=>rfl
    |some v=>rw[h]at hk;simpa using hk
   have hbef:∀k,(b.getD i 0).testBit k=true→listed.getD k true=true:=fun k hk=>by
    obtain⟨e,he,h1,h2⟩:=hok.good i k (by rw[hok.lb];exact hin) hk;have he':e∈(ops.getD i default).after.toList:=by
     rwa [show ops.toList.getD i default=ops.getD i default from by simp[lD,a00]]at he
    have hon:=hdeps e he' h1;rcases h2 with rfl|h2;exact tr _ hon;exact hcl e.on k (by have:=hok.back i e hin he' h1;omega) (tr _ hon) h2
   rw[g1,pA,a30]at hz;have hpull:=d7v (cx:=cx) (mi:=ms.getD i .x) (i:=ops.getD i default) (l2.map (c0q ops ms)) (l1.map (c0q ops ms)) (fun p hp=>by
     obtain⟨k,hk,rfl⟩:=a19.1 hp;obtain⟨hki,hkR⟩:=g3 k hk;rcases hok.pair k i hki hin with h|h
     have:=hbef k h
     simp only[a2v,a08,a18]at hkR;rw[hkR.2]at this;cases this;exact h) (fun t ht n hn _=>by
     have htN:t<N:=by
      simp only[Oper.looksAt,mA]at ht;rcases ht with ht|ht
      ·obtain⟨x,hx,hxt⟩:=a33.1 ht
       have:=a0V (b7c hfit) x hx
       cases x with
       |tmp t'=>simp only[sj]at hxt;subst hxt;simpa[a1m]using this
       |_=>cases hxt
      ·cases hg:(ops.getD i default).guard with
       |none=>rw[hg]at ht;cases ht
       |some p=>
        obtain⟨j,want⟩:=p;rw[hg]at ht;simp only[Option.mem_toList]at ht;have hdst:a8R ops.toList j=some t:=by simpa[a8R]using ht
        simp only[a9l,hg,hdst,bA,dT]at hfit;exact hfit.2
     have hs:=hr.slots t htN
     revert hs hn
     generalize Γ.sl t=sv;intro hn hs;have one:∀(av:AV)(v:Value),a0j (a0a w σ.ov) σ.g Γ.rt (Shr B w σ) av v→n∈av.refs→Γ.rt n≠none:=fun av v ha hn=>by
      cases av with
      |ptr m p=>obtain⟨r,t,b,o,h1,-⟩:=ha;simp only[AV.refs,a42]at hn;subst hn;rw[h1];simp
      |sref m p=>obtain⟨r,e,s,h1,-⟩:=ha;simp only[AV.refs,a42]at hn;subst hn;rw[h1];simp
      |swin m p o l=>obtain⟨r,e,s,_,_,_,h1,-⟩:=ha;simp only[AV.refs,a42]at hn;subst hn;rw[h1];simp
      |_=>cases hn
     cases sv with
     |one av=>exact one av _ hs hn
     |cmp c vs=>
      obtain⟨us,-,h2⟩:=hs;simp only[SV.refs,a47]at hn;obtain⟨av,hav,hn⟩:=hn;obtain⟨k,hk⟩:=a68.1 hav;obtain⟨u,-,hu⟩:=h2 k av hk;exact one av u hu hn) hz
   have hstep:=d0k (ro:=ro) (next:=wpAnyIn (Fr ro) 0 P .any ops Q fuel (listed.setIfInBounds i true)) (Q:=Q) hcx hG hr hN hfit hpull fun v w' Γ' σ' hr' hK=>by
    refine ih (listed.setIfInBounds i true) (by simpa using hs) ?_ ?_ hr' (by rw[b5u];exact hN) (by rw[b4N];exact hD) ?_
    rw[g2];rw[g1]at hl;simp only[lN,lC]at hl⊢;omega;intro j k hj hlj hbk;have up:∀m,listed.getD m true=true→(listed.setIfInBounds i true).getD m true=true:=fun m hm=>by
     by_cases e:m=i
     subst e;simp only[a00];rw[a38 (by omega)];rfl;simp only[a00]at hm⊢;rw[a32 (Ne.symm e)];exact hm
    by_cases e:j=i
    subst e;exact up k (hbef k hbk);refine up k (hcl j k hj ?_ hbk);simp only[a00]at hlj⊢
    rwa [a32 (Ne.symm e)]at hlj
    rw[g2,pA];exact hK
   unfold wpOpIn;rw[hget];simp only[]
   by_cases hw:Region.wanted (ops.getD i default) (yielded ops a.tmps)=true
   rw[if_pos hw]at hstep⊢;exact hstep;rw[if_neg hw]at hstep⊢;exact hstep
theorem d4H{ρ:Type}{Γ:AE}{a:Act}{w:World}{σ:Gh}(hcx:CxOk P cx)(hG:GOk cx.G B)(hm:P.follows .mixedOrders=true){ops:Array Oper}{id:Nat}{ms:List Md}{K:AE→Rs ρ}{z:ρ}{Q:Exit→Act→World→Prop}
  (h:Rel B Γ N (a0n a) w σ)(hN:a.tmps.size=N)(hD:a.defers=D)(hf:∀o∈ops.toList,a9l N ops.toList o=true)(hok:c3a ops ms=true)(hz:a6E cx ops.toList (ms.zip ops.toList) Γ K=some z)
  (hQ:∀a' w' Γ' σ',Rel B Γ' N (a0n a') w' σ'→a'.tmps.size=N→a'.defers=D→K Γ'=some z→Q .normal a' w'):(Code.region id ops true).wpIn (Fr ro) 0 P Q a w:=by
 refine wpIn_region_any hm ?_
 have hok':=c9E hok;have hdrawn:Rel B Γ N (a0n a) { w with drawn:=w.drawn+1 } σ:=h.ext (fun _ _=>rfl) (a34 _);have hgetD:∀i,i<ops.size→(a50 ops.size false).getD i true=false:=fun i hi=>by
  simp[a00,hi]
 have hall:a2v ops.size (a50 ops.size false)=a45 ops.size:=by
  simp only[a2v];exact List.filter_eq_self.2 fun i hi=>by rw[hgetD i (a07.1 hi)];rfl
 refine d4G hcx hG hok' hf hQ ops.size _ (by simp) (by rw[hall];simp) (fun j k hj hl _=>by rw[hgetD j hj]at hl;cases hl) hdrawn hN hD ?_
 rw[hall];rw[show(a45 ops.size).map (c0q ops ms)=ms.zip ops.toList from ?_];exact hz;refine a85 fun i=>?_
 rw[a44]
 by_cases hi:i<ops.size
 have h1:i<ms.length:=by rw[hok'.len];exact hi
 have h2:i<ops.toList.length:=by simpa using hi
 rw[List.getElem?_range hi,lG (by rw[a93];omega)];simp only[a49,c0q,List.getElem_zip,sj,pJ];refine⟨by rw[lD,lG h1];rfl,by rw[a00,a59 hi];simp⟩;rw[a23 (by simpa using a90 hi),a23 (by rw[a93,hok'.len];simp;omega)];rfl
end
def c0r:Ex→Exit
 |.normal=>.normal
 |.exit i=>.exit i
 |.ret=>.ret
def d5M{ρ:Type}(B:Base)(N:Nat)(D:List Deferred)(K:Ex→AE→Rs ρ)(z:ρ):Exit→Act→World→Prop:=fun e a w=>
 ∃ex Γ σ,e=c0r ex∧K ex Γ=some z∧Rel B Γ N (a0n a) w σ∧a.tmps.size=N∧a.defers=D
def a2f(N:Nat):Code→Bool
 |.region _ ops _=>ops.toList.all (a9l N ops.toList)
 |.seq a b=>a2f N a&&a2f N b
 |.cond c a b=>a1m N c&&(a2f N a&&a2f N b)
 |.block _ c|.loop c=>a2f N c
 |_=>true
def Hints.fits(N:Nat)(H:Hints):Bool:=
 H.loops.all (fun p=>p.2.1.fits N&&p.2.2.all (fun q=>q.2.fits N))&&H.cuts.all (fun p=>p.2.all (fun q=>q.2.fits N))
theorem c2G{α:Type}:∀{l:List (Nat×α)} {n:Nat} {x:α},find l n=some x→∃k,(k,x)∈l
 |(k,y)::r,n,x,h=>by
  simp only[find]at h;rcases a0i h with⟨-,h⟩|⟨-,h⟩;simp only[sj]at h;exact⟨k,by simp[h]⟩;obtain⟨k',hk⟩:=c2G h;exact⟨k',a05 _ hk⟩
section
variable {P:Program} {B:Base} {N:Nat} {cx:Cx} {H:Hints} {ro:Option Nat} {D:List Deferred}
theorem c3x{Q:Exit→Act→World→Prop}{a:Act}{w:World}{c:Code}(I:Nat→Act→World→Prop)(n₀:Nat)(h₀:I n₀ a w)
  (round:∀n a w,I n a w→c.wpIn (Fr ro) 0 P (Exit.then (fun a' w'=>∃m,m<n∧I m a' w') Q) a w):(Code.loop c).wpIn (Fr ro) 0 P Q a w:=by
 classical
 have least:∀a w,(∃n,I n a w)→∃n,I n a w∧∀m,I m a w→n≤m:=by
  intro a w ⟨n,hn⟩
  induction n using Nat.strongRecOn with
  |_ n ih=>
   by_cases h:∃m,m<n∧I m a w
   obtain⟨m,hm,hi⟩:=h;exact ih m hm hi;exact⟨n,hn,fun m hm=>a90 fun hlt=>h ⟨m,hlt,hm⟩⟩
 let μ:Act→World→Nat:=fun a w=>if h:∃n,I n a w then(least a w h).choose else 0
 refine wpIn_loop (fun a w=>∃n,I n a w) μ ⟨n₀,h₀⟩ fun a w hI=>?_
 have hs:=(least a w hI).choose_spec;refine wpIn_mono (round _ a w hs.1) fun e a' w' he=>?_
 cases e with
 |normal=>
  obtain⟨m,hm,hi⟩:=he;refine⟨⟨m,hi⟩,?_⟩;have h':∃n,I n a' w':=⟨m,hi⟩;show μ a' w'<μ a w;simp only[μ,dif_pos h',dif_pos hI];exact Nat.lt_of_le_of_lt ((least a' w' h').choose_spec.2 m hi) hm
 |_=>exact he
theorem b0v(hcx:CxOk P cx)(hG:GOk cx.G B)(hm:P.follows .mixedOrders=true)(hH:H.fits N=true):∀(c:Code) (p:Nat){ρ:Type}{Γ:AE}{K:Ex→AE→Rs ρ}{z:ρ}{a:Act}{w:World}{σ:Gh}(_:a2f N c=true)
  (_:a1E cx H c p Γ K=some z) (_:Rel B Γ N (a0n a) w σ) (_:a.tmps.size=N) (_:a.defers=D),c.wpIn (Fr ro) 0 P (d5M B N D K z) a w:=by
 intro c;have hloop:∀p s os,find H.loops p=some (s,os)→s.fits N=true∧os.all (fun q=>q.2.fits N)=true:=fun p s os h=>by
  obtain⟨k,hk⟩:=c2G h;simp only[Hints.fits,bA]at hH
  have:=lA.1 hH.1 _ hk
  simpa only[bA]using this
 have hcut:∀p os,find H.cuts p=some os→os.all (fun q=>q.2.fits N)=true:=fun p os h=>by
  obtain⟨k,hk⟩:=c2G h;simp only[Hints.fits,bA]at hH;exact lA.1 hH.2 _ hk
 induction c with
 |skip=>intro p ρ Γ K z a w σ hf hz h hN hD;exact wpIn_skip ⟨.normal,Γ,σ,rfl,by simpa only[a1E]using hz,h,hN,hD⟩
 |region rid ops draw=>
  intro p ρ Γ K z a w σ hf hz h hN hD;simp only[a1E]at hz;have hfit:∀o∈ops.toList,a9l N ops.toList o=true:=fun o ho=>lA.1 hf o ho;cases draw with
  |false=>
   simp only[cF]at hz;refine wpIn_region_list ?_
   have:=d0l (Q:=d5M B N D K z) (ro:=ro) (D:=D) hcx hG (ops:=ops) (ops.toList.map fun o=>(Md.x,o)) h hN hD (fun q hq=>by
    obtain⟨o,ho,rfl⟩:=a19.1 hq;exact hfit o ho) hz (fun a' w' Γ' σ' hr hN' hD' hK=>⟨.normal,Γ',σ',rfl,hK,hr,hN',hD'⟩)
   rwa [a83,show((fun x:Md×Oper=>x.2)∘fun o=>(Md.x,o))=_root_.id from rfl,a54]at this
  |true=>
   simp only[cT]at hz
   split at hz
   rename_i ms hms;obtain⟨hok,hz⟩:=(a0i hz).elim id fun h=>by cases h.2
   exact d4H hcx hG hm h hN hD hfit hok hz fun a' w' Γ' σ' hr hN' hD' hK=>⟨.normal,Γ',σ',rfl,hK,hr,hN',hD'⟩;cases hz
 |seq x y ihx ihy=>
  intro p ρ Γ K z a w σ hf hz h hN hD;simp only[a2f,bA]at hf;simp only[a1E]at hz;refine wpIn_seq ?_
  split at hz
  ·refine wpIn_mono (ihx _ hf.1 hz h hN hD) ?_
   rintro e a' w' ⟨ex,Γ',σ',rfl,hK,hr,hN',hD'⟩
   cases ex with
   |normal=>exact ihy _ hf.2 hK hr hN' hD'
   |exit i=>exact⟨.exit i,Γ',σ',rfl,hK,hr,hN',hD'⟩
   |ret=>exact⟨.ret,Γ',σ',rfl,hK,hr,hN',hD'⟩
  ·rename_i os hos;obtain⟨y0,h1,h2⟩:=a25.1 hz;refine wpIn_mono (ihx _ hf.1 h1 h hN hD) ?_
   rintro e a' w' ⟨ex,Γ',σ',rfl,hK,hr,hN',hD'⟩
   obtain⟨y1,X,σ2,k1,k2,k3⟩:=a9K os hr (hcut _ _ hos) hK;simp only[sj]at k1;subst k1;rw[k3]at h2;cases ex with
   |normal=>exact ihy _ hf.2 h2 k2 hN' hD'
   |exit i=>exact⟨.exit i,X,σ2,rfl,h2,k2,hN',hD'⟩
   |ret=>exact⟨.ret,X,σ2,rfl,h2,k2,hN',hD'⟩
 |cond c x y ihx ihy=>
  intro p ρ Γ K z a w σ hf hz h hN hD;simp only[a2f,bA]at hf;simp only[a1E]at hz
  split at hz
  rename_i t ht;have hc:=h.opd hf.1;rw[ht]at hc;have hc:=a0j.bool hc;rcases a0i hz with⟨rfl,hz⟩|⟨rfl,hz⟩;exact wpIn_cond_true hc (ihx _ hf.2.1 hz h hN hD);exact wpIn_cond_false hc (ihy _ hf.2.2 hz h hN hD);cases hz
 |block id c ih=>
  intro p ρ Γ K z a w σ hf hz h hN hD;simp only[a1E]at hz;refine wpIn_block (wpIn_mono (ih _ hf hz h hN hD) ?_)
  rintro e a' w' ⟨ex,Γ',σ',rfl,hK,hr,hN',hD'⟩
  cases ex with
  |normal=>exact⟨.normal,Γ',σ',rfl,hK,hr,hN',hD'⟩
  |exit i=>
   simp only[c0r,Exit.inBlock];rcases a0i hK with⟨hi,hK⟩|⟨hi,hK⟩;rw[if_pos (by simpa using hi)];exact⟨.normal,Γ',σ',rfl,hK,hr,hN',hD'⟩;rw[if_neg (by simpa using hi)];exact⟨.exit i,Γ',σ',rfl,hK,hr,hN',hD'⟩
  |ret=>exact⟨.ret,Γ',σ',rfl,hK,hr,hN',hD'⟩
 |loop c ih=>
  intro p ρ Γ K z a w σ hf hz h hN hD;simp only[a1E]at hz
  split at hz
  cases hz
  ·rename_i s os hso;obtain⟨hs,hos⟩:=hloop _ _ _ hso;obtain⟨x0,σ0,h1,h2⟩:=h.dcd hs hz;obtain⟨y,hy,hK⟩:=a25.1 h1;obtain⟨n0,hn0⟩:=d3c hy;refine c3x (fun n a w=>∃x σ,a3e _ n x=some y∧Rel B (s.enc x) N (a0n a) w σ∧a.tmps.size=N∧a.defers=D) n0 ⟨x0,σ0,hn0,h2,hN,hD⟩ ?_
   rintro n a w ⟨x,σ,hn,hr,hN',hD'⟩
   cases n with
   |zero=>simp only[a3e]at hn;cases hn
   |succ n=>
    simp only[a3e]at hn
    split at hn
    cases hn
    ·rename_i x' hx';refine wpIn_mono (ih _ hf hx' hr hN' hD') ?_
     rintro e a' w' ⟨ex,Γ',σ',rfl,hK',hr',hN2,hD2⟩
     cases ex with
     |normal=>
      simp only[]at hK';obtain⟨x2,σ2,k1,k2⟩:=hr'.dcd hs hK';simp only[sj,Sum.inl.injEq]at k1;subst k1;exact⟨n,Nat.lt_succ_self n,x2,σ2,hn,k2,hN2,hD2⟩
     |exit i=>
      obtain⟨y1,X,σ2,k1,k2,k3⟩:=a9K os hr' hos hK';cases k1
     |ret=>
      obtain⟨y1,X,σ2,k1,k2,k3⟩:=a9K os hr' hos hK';cases k1
    ·rename_i b hb;simp only[sj]at hn;subst hn;refine wpIn_mono (ih _ hf hb hr hN' hD') ?_
     rintro e a' w' ⟨ex,Γ',σ',rfl,hK',hr',hN2,hD2⟩
     cases ex with
     |normal=>
      simp only[]at hK';obtain⟨x2,σ2,k1,k2⟩:=hr'.dcd hs hK';cases k1
     |exit i=>
      obtain⟨y1,X,σ2,k1,k2,k3⟩:=a9K os hr' hos hK';simp only[sj,Sum.inr.injEq]at k1;subst k1;rw[k3]at hK;exact⟨.exit i,X,σ2,rfl,hK,k2,hN2,hD2⟩
     |ret=>
      obtain⟨y1,X,σ2,k1,k2,k3⟩:=a9K os hr' hos hK';simp only[sj,Sum.inr.injEq]at k1;subst k1;rw[k3]at hK;exact⟨.ret,X,σ2,rfl,hK,k2,hN2,hD2⟩
 |exit id=>intro p ρ Γ K z a w σ hf hz h hN hD;exact wpIn_exit ⟨.exit id,Γ,σ,rfl,by simpa only[a1E]using hz,h,hN,hD⟩
 |ret=>intro p ρ Γ K z a w σ hf hz h hN hD;exact wpIn_ret ⟨.ret,Γ,σ,rfl,by simpa only[a1E]using hz,h,hN,hD⟩
 |_=>intro p ρ Γ K z a w σ hf hz h hN hD;simp only[a1E]at hz;cases hz
end
theorem c7U{α:Type}{P:Program}{w:World}{f:α→Sem Value}:∀(l:List α)(us:List Value),us.length=l.length→(∀(k:Nat) x u,l[k]?=some x→us[k]?=some u→(f x).run P w=.ok u w)→(l.mapM f).run P w=.ok us w
 | [],us,hl,_=>by
  have:us=[]:=by simpa using hl
  subst this;simp[pure]
 |x::l,[],hl,_=>by simp at hl
 |x::l,u::us,hl,h=>by
  have h1:=h 0 x u rfl rfl;have h2:=c7U l us (by simpa using hl) (fun k y v hy hv=>h (k+1) y v (by simpa using hy) (by simpa using hv));simp[List.mapM_cons,h1,h2,Result.andThen]
def a2H(tk:List Nat)(Γ Γ':AE):Prop:=
 (∀i av,Γ.get i=av→(av.firm=true∨∃n∈tk,av=.sref n []∨av=.ptr n [])→Γ'.get i=av)∧∀n∈tk,Γ'.rt n=Γ.rt n
theorem a2H.refl{tk Γ}:a2H tk Γ Γ:=⟨fun _ _ h _=>h,fun _ _=>rfl⟩
theorem a2H.trans{tk tk' Γ Γ' Γ''}(h:a2H tk Γ Γ')(h':a2H tk' Γ' Γ'')(hs:∀n∈tk,n∈tk'):a2H tk Γ Γ'':=
 ⟨fun i av hi ho=>h'.1 i av (h.1 i av hi ho) (ho.imp id fun⟨n,hn,e⟩=>⟨n,hs n hn,e⟩),fun n hn=>(h'.2 n (hs n hn)).trans (h.2 n hn)⟩
theorem a2H.gone{tk:List Nat}{Γ:AE}{n:Nat}(hn:n∉tk)(f:AV→AV)(hf:∀av:AV,(av.firm=true∨∃m,m≠n∧(av=.sref m []∨av=.ptr m []))→f av=av):a2H tk Γ ((Γ.mapv f).setRt n none):=by
 refine⟨fun i av hi ho=>?_,fun m hm=>?_⟩
 ·have hk:f av=av:=hf av (ho.imp id fun⟨m,hm,e⟩=>⟨m,fun g=>hn (g▸hm),e⟩);simp only[AE.get,AE.setRt,AE.mapv]at hi⊢;cases hs:Γ.sl i with
  |one v=>rw[hs]at hi;simp only[]at hi;subst hi;simp[SV.mapv,hk]
  |cmp c0 vs=>
   rw[hs]at hi;simp only[]at hi;subst hi;rcases ho with ho|⟨m,-,e|e⟩;cases ho;cases e;cases e
 have:(m==n)=false:=by
  have:m≠n:=fun e=>hn (e▸hm)
  simpa using this
 simp[AE.setRt,AE.mapv,this]
theorem a2H.set{tk:List Nat}{Γ Γ':AE}(h:a2H tk Γ Γ'){j:Nat}{av:AV}(hj:Γ.get j=.dead):a2H tk Γ (Γ'.set j av):=by
 refine⟨fun i v hi ho=>?_,fun n hn=>h.2 n hn⟩;have hij:i≠j:=by
  rintro rfl
  rw[hj]at hi;subst hi;rcases ho with ho|⟨m,-,e|e⟩;cases ho;cases e;cases e
 have:=h.1 i v hi ho
 simp only[AE.get]at this⊢;rw[a2n,if_neg hij];exact this
def c3y(tk tk':List Nat)(Γ:AE)(av:AV):((r:RA)×r.ty.den)→Prop
 |⟨.v t,x⟩=>av=.val t x∧tk'=tk
 |⟨.o e,x⟩=>(∃n,av=.sref n []∧n∉tk∧tk'=n::tk∧Γ.rt n=some ⟨false,.list true e,x⟩)∨((av=.nils∨av=.empt)∧x=[]∧tk'=tk)
 |⟨.b t,x⟩=>∃n,av=.ptr n []∧n∉tk∧tk'=n::tk∧Γ.rt n=some ⟨true,t,x⟩
def a2I(a:Nat→Value):ResultVar→Sem Value
 |.tmp t=>pure (a t)
 |.cell i t=>do loadVar t (←asAddr (a i))
def b0N(N0:Nat):ResultVar ⊕ Option Nat→Bool
 |.inl (.tmp i)=>decide (i<N0)
 |.inl (.cell i _)=>decide (i<N0)
 |.inr _=>true
def a7Z(P:Program)(B:Base)(w:World)(tm:Nat→Value)(u:Value):ResultVar ⊕ Option Nat→Prop
 |.inl r=>(a2I tm r).run P w=.ok u w
 |.inr none=>u=.slice none 0 0
 |.inr (some n)=>∀i b,n=pinned+i→B.pin i=some b→c0d b u
section
variable {P:Program} {B:Base} {N:Nat} {w:World} {cx:Cx} {ρ:Type}
theorem c5X(hcx:CxTy P cx){tm:Nat→Value}{N0:Nat}(hN0:N0≤N){Γ:AE}{σ:Gh}(h:Rel B Γ N tm w σ)(hpd:Γ.pd=none){tk:List Nat}{j:Nat}{r:RA}{v:ResultVar ⊕ Option Nat}(hv:b0N N0 v=true)
  {K:r.ty.den→AE→List Nat→Rs ρ}{z:ρ}(hz:Γ.out cx tk j r v K=some z):
  ∃x Γ1 σ1 tk1 av u,K x (Γ1.set j av) tk1=some z∧Rel B Γ1 N tm w σ1∧Γ1.pd=none∧a0j (a0a w σ1.ov) σ1.g Γ1.rt (Shr B w σ1) av u∧a7Z P B w tm u v∧c3y tk tk1 Γ1 av ⟨r,x⟩∧a2H tk Γ Γ1∧
   ∀i,Γ.get i=.dead→Γ1.get i=.dead:=by
 have dead_gone:∀(Γ:AE)(n:Nat)(f:AV→AV),f .dead=.dead→∀i,Γ.get i=.dead→((Γ.mapv f).setRt n none).get i=.dead:=fun Γ n f hf i hi=>by
  simp only[AE.get,AE.setRt,AE.mapv]at hi⊢;cases hs:Γ.sl i with
  |one v=>rw[hs]at hi;simp only[]at hi;subst hi;simp[SV.mapv,hf]
  |cmp c0 vs=>rfl
 cases r with
 |v t=>
  cases v with
  |inr n=>simp only[AE.out]at hz;cases hz
  |inl rv=>
   cases rv with
   |tmp i=>
    simp only[b0N,dT]at hv;simp only[AE.out]at hz;rcases a0i hz with⟨-,g⟩|⟨hvw,hz⟩;cases g;have hnt:∀n∈(Γ.get i).viewed,n∉tk:=fun n hn hu=>by
     have:=List.any_eq_false.1 hvw n hn
     simp[hu]at this
    have ha:=a3y h (a09 hv hN0);have key:∃x Γ1 σ1,K x (Γ1.set j (.val t x)) tk=some z∧Rel B Γ1 N tm w σ1∧VOk (a0a w σ1.ov) (Shr B w σ1) t x (tm i)∧Γ1.pd=Γ.pd∧a2H tk Γ Γ1∧∀i,Γ.get i=.dead→Γ1.get i=.dead:=by

     let K':t.den→AE→Rs ρ:=fun x Γ'=>K x (Γ'.set j (.val t x)) tk
     cases hg:Γ.get i with
     |glob g=>
      rw[hg]at hz;simp only[AE.asV]at hz;cases hz
     |val t' x=>
      rw[hg]at hz ha;simp only[AE.asV]at hz
      split at hz
      rename_i x2 hx2;exact⟨x2,Γ,σ,hz,h,VOk.castTo hx2 ha,rfl,a2H.refl,fun _ g=>g⟩;cases hz
     |nils=>
      rw[hg]at hz ha;cases t with
      |list o e=>
       cases o with
       |false=>
        obtain ha:tm i=_:=ha;exact⟨[],Γ,σ,hz,h,by rw[ha];exact VOk.empty,rfl,a2H.refl,fun _ g=>g⟩
       |true=>simp only[AE.asV]at hz;cases hz
      |_=>simp only[AE.asV]at hz;cases hz
     |empt=>
      rw[hg]at hz ha;cases t with
      |list o e=>
       cases o with
       |false=>
        obtain⟨A,ha⟩:=ha;exact⟨[],Γ,σ,hz,h,by rw[ha];exact VOk.empty,rfl,a2H.refl,fun _ g=>g⟩
       |true=>simp only[AE.asV]at hz;cases hz
      |_=>simp only[AE.asV]at hz;cases hz
     |sref n p=>
      rw[hg]at hz ha hnt;cases p with
      |cons=>simp only[AE.asV]at hz;cases hz
      |nil=>
       simp only[AE.asV,a03,if_false]at hz
       split at hz
       rename_i e l hr;obtain⟨hpd',hr⟩:=a0M hr
       split at hz
       rename_i ht;subst ht;have hv':=h.sref_vok ha hr rfl;refine⟨_,_,_,hz,h.frz hr (by simp[hpd']),hv'.frame (fun _ _ _=>rfl) (fun c hc=>?_),rfl,a2H.gone (hnt n (by simp[AV.viewed])) _ ?_,dead_gone Γ n _ rfl⟩;rcases hc with g|g;exact Rel.shr_gone c g;have hown:a0N σ c:=⟨n,g⟩;refine⟨h.lt hown,.inr (h.mine c hown),fun⟨m,hm⟩=>?_⟩;have hm:c∈(if m=n then[]else σ.ow m).map (·.1):=hm
       split at hm
       simp at hm;rename_i hmn;exact h.disj m n hmn c hm g
       rintro av (g|⟨m,hm,rfl|rfl⟩)
       cases av<;>first|rfl|cases g
       have:(m==n)=false:=by simpa using hm
       simp[AV.frz,this]
       have:(m==n)=false:=by simpa using hm
       simp[AV.frz,this];cases hz;cases hz
     |swin n p o k=>
      rw[hg]at hz ha hnt;cases p with
      |cons=>simp only[AE.asV]at hz;cases hz
      |nil=>
       simp only[AE.asV,a03,if_false]at hz
       split at hz
       rename_i e l hr;obtain⟨hpd',hr⟩:=a0M hr
       split at hz
       rename_i ht;subst ht;have hv':=h.swin_vok ha hr rfl;refine⟨_,_,_,hz,h.frz hr (by simp[hpd']),hv'.frame (fun _ _ _=>rfl) (fun c hc=>?_),rfl,a2H.gone (hnt n (by simp[AV.viewed])) _ ?_,dead_gone Γ n _ rfl⟩;rcases hc with g|g;exact Rel.shr_gone c g;have hown:a0N σ c:=⟨n,g⟩;refine⟨h.lt hown,.inr (h.mine c hown),fun⟨m,hm⟩=>?_⟩;have hm:c∈(if m=n then[]else σ.ow m).map (·.1):=hm
       split at hm
       simp at hm;rename_i hmn;exact h.disj m n hmn c hm g
       rintro av (g|⟨m,hm,rfl|rfl⟩)
       cases av<;>first|rfl|cases g
       have:(m==n)=false:=by simpa using hm
       simp[AV.frz,this]
       have:(m==n)=false:=by simpa using hm
       simp[AV.frz,this];cases hz;cases hz
     |dead|skp|nilp|ptr|vptr=>rw[hg]at hz;cases hz
    obtain⟨x,Γ1,σ1,k1,k2,k3,k4,k5,k6⟩:=key;exact⟨x,Γ1,σ1,tk,.val t x,tm i,k1,k2,k4.trans hpd,k3,by simp[a7Z,a2I],⟨rfl,rfl⟩,k5,k6⟩
   |cell i t'=>
    simp only[b0N,dT]at hv;simp only[AE.out]at hz;have ha:=a3y h (a09 hv hN0)
    split at hz
    rename_i n hg;rw[hg]at ha;rcases a0i hz with⟨-,g⟩|⟨hnt,hz⟩;cases g;have hnt:n∉tk:=by simpa using hnt
    split at hz
    rename_i hT;obtain⟨hsh,hty⟩:=hcx.T t' _ hT;obtain⟨u,Γ1,σ1,av',h1,h2,h3,h4,h5⟩:=Rel.lod hty hsh h ha hz
    split at h4
    rename_i t'' x
    split at h4
    rename_i x2 hx2;have h3x:a0j (a0a w σ1.ov) σ1.g Γ1.rt (Shr B w σ1) (.val t x2) u:=VOk.castTo hx2 h3;have hu:(a2I tm (.cell i t')).run P w=.ok u w:=by
     obtain⟨r',t1,b,off,-,-,g3⟩:=ha;simp only[Instr.loadAt,g3,Instr.sureAddr]at h1;simp only[a2I,g3,asAddr];exact h1
    rcases h5 with⟨rfl,rfl⟩|⟨-,m,hm,rfl⟩;exact⟨x2,Γ1,σ1,tk,.val t x2,u,h4,h2,hpd,h3x,hu,⟨rfl,rfl⟩,a2H.refl,fun _ g=>g⟩;cases hm;refine⟨x2,_,σ1,tk,.val t x2,u,h4,h2,hpd,h3x,hu,⟨rfl,rfl⟩,a2H.gone hnt _ ?_,dead_gone Γ n _ rfl⟩
    rintro av (g|⟨m,hm,rfl|rfl⟩)
    cases av<;>first|rfl|cases g
    have:(m==n)=false:=by simpa using hm
    simp[AV.drop,this]
    have:(m==n)=false:=by simpa using hm
    simp[AV.drop,this];cases h4;cases h4;cases hz;cases hz
 |o e=>
  cases v with
  |inr n=>
   cases n with
   |none=>
    simp only[AE.out]at hz;exact⟨[],Γ,σ,tk,.nils,.slice none 0 0,hz,h,hpd,rfl,rfl,.inr ⟨.inl rfl,rfl,rfl⟩,a2H.refl,fun _ g=>g⟩
   |some n=>
    simp only[AE.out]at hz;rcases a0i hz with⟨-,g⟩|⟨hnt,hz⟩;cases g;have hnt:n∉tk:=by simpa using hnt
    split at hz
    rename_i e' x hr
    split at hz
    rename_i he;subst he;rcases h.src_of hr with⟨g,-⟩|⟨-,u,e2,hg,-⟩;cases g;refine⟨x,Γ,σ,n::tk,.sref n [],u,hz,h,hpd,⟨_,e',.one u,hr,by show some (_,σ.g n)=_;rw[hg],rfl⟩,fun i b' hn hb=>?_,.inl ⟨n,rfl,hnt,rfl,hr⟩,a2H.refl,fun _ g=>g⟩;subst hn
    have:=h.pins i b' hb (by rw[hr];simp)
    rw[←this,hg];rfl;cases hz;cases hz
  |inl rv=>
   cases rv with
   |cell i t'=>simp only[AE.out]at hz;cases hz
   |tmp i=>
    simp only[b0N,dT]at hv;have ha:=a3y h (a09 hv hN0);simp only[AE.out]at hz
    split at hz
    rename_i n hg;rw[hg]at ha;rcases a0i hz with⟨-,g⟩|⟨hnt,hz⟩;cases g;have hnt:n∉tk:=by simpa using hnt
    split at hz
    rename_i e' l hr
    split at hz
    rename_i he;subst he;exact⟨l,Γ,σ,n::tk,.sref n [],tm i,hz,h,hpd,ha,by simp[a7Z,a2I],.inl ⟨n,rfl,hnt,rfl,hr⟩,a2H.refl,fun _ g=>g⟩;cases hz;cases hz;rename_i hg;rw[hg]at ha;exact⟨[],Γ,σ,tk,.nils,tm i,hz,h,hpd,ha,by simp[a7Z,a2I],.inr ⟨.inl rfl,rfl,rfl⟩,a2H.refl,fun _ g=>g⟩;rename_i hg;rw[hg]at ha;exact⟨[],Γ,σ,tk,.empt,tm i,hz,h,hpd,ha,by simp[a7Z,a2I],.inr ⟨.inr rfl,rfl,rfl⟩,a2H.refl,fun _ g=>g⟩;cases hz
 |b t=>
  cases v with
  |inr n=>
   cases n with
   |none=>simp only[AE.out]at hz;cases hz
   |some n=>
   simp only[AE.out]at hz;rcases a0i hz with⟨-,g⟩|⟨hnt,hz⟩;cases g;have hnt:n∉tk:=by simpa using hnt
   split at hz
   rename_i t' x hr
   split at hz
   rename_i he;subst he;obtain⟨O',R,-,-,hc⟩:=(h.roots n _ hr).rd;rcases hc with⟨-,b,hs,-⟩|⟨hb,-⟩;refine⟨x,Γ,σ,n::tk,.ptr n [],.pointer (some ⟨b,0,none⟩),hz,h,hpd,⟨_,t',b,0,hr,by show some (t',σ.g n)=_;rw[hs],rfl⟩,fun i b' hn hb=>?_,⟨n,rfl,hnt,rfl,hr⟩,a2H.refl,fun _ g=>g⟩;subst hn
   have:=h.pins i b' hb (by rw[hr];simp)
   rw[←this,hs];exact⟨rfl,rfl⟩;cases hb;cases hz;cases hz
  |inl rv=>
   cases rv with
   |cell i t'=>simp only[AE.out]at hz;cases hz
   |tmp i=>
    simp only[b0N,dT]at hv;have ha:=a3y h (a09 hv hN0);simp only[AE.out]at hz
    split at hz
    rename_i n hg;rw[hg]at ha;rcases a0i hz with⟨-,g⟩|⟨hnt,hz⟩;cases g;have hnt:n∉tk:=by
     simp only[Bool.or_eq_false_iff]at hnt;simpa using hnt.1
    split at hz
    rename_i t' x hr
    split at hz
    rename_i he;subst he;exact⟨x,Γ,σ,n::tk,.ptr n [],tm i,hz,h,hpd,ha,by simp[a7Z,a2I],⟨n,rfl,hnt,rfl,hr⟩,a2H.refl,fun _ g=>g⟩;cases hz;cases hz;cases hz
end
def d7w(Γ:AE)(av:AV)(o:Option Nat):((r:RA)×r.ty.den)→Prop
 |⟨.v t,x⟩=>av=.val t x∧o=none
 |⟨.o e,x⟩=>(∃n,o=some n∧av=.sref n []∧Γ.rt n=some ⟨false,.list true e,x⟩)∨(o=none∧(av=.nils∨av=.empt)∧x=[])
 |⟨.b t,x⟩=>∃n,o=some n∧av=.ptr n []∧Γ.rt n=some ⟨true,t,x⟩
theorem c3y.finK{tk tk':List Nat}{Γ Γ':AE}{av:AV}{i:Nat}(hg:Γ.get i=av):∀{it:(r:RA)×r.ty.den},c3y tk tk' Γ av it→a2H tk' Γ Γ'→
  ∃o,d7w Γ' (Γ'.get i) o it∧(∀n∈tk,n∈tk')∧∀n,o=some n→n∉tk∧n∈tk'
 |⟨.v t,x⟩,⟨h1,h2⟩,hs=>by
  subst h1;subst h2;exact⟨none,⟨hs.1 i _ hg (.inl rfl),rfl⟩,fun _ g=>g,by simp⟩
 |⟨.o e,x⟩,h,hs=>by
  rcases h with⟨n,rfl,h2,rfl,h4⟩|⟨h1,h2,rfl⟩;refine⟨some n,.inl ⟨n,rfl,hs.1 i _ hg (.inr ⟨n,by simp,.inl rfl⟩),(hs.2 n (by simp)).trans h4⟩,fun m g=>a05 _ g,?_⟩
  rintro m hm
  simp only[sj]at hm;subst hm;exact⟨h2,by simp⟩;refine⟨none,.inr ⟨rfl,?_,h2⟩,fun _ g=>g,by simp⟩;rw[hs.1 i av hg (.inl (by rcases h1 with rfl|rfl<;>rfl))];exact h1
 |⟨.b t,x⟩,⟨n,h1,h2,h3,h4⟩,hs=>by
  subst h1;subst h3;refine⟨some n,⟨n,rfl,hs.1 i _ hg (.inr ⟨n,by simp,.inr rfl⟩),(hs.2 n (by simp)).trans h4⟩,fun m g=>a05 _ g,?_⟩
  rintro m hm
  simp only[sj]at hm;subst hm;exact⟨h2,by simp⟩
section
variable {P:Program} {B:Base} {w:World} {cx:Cx} {ρ:Type}
theorem Rel.ext_slot{N:Nat}{tm:Nat→Value}{Γ:AE}{σ:Gh}(h:Rel B Γ N tm w σ){av:AV}{u:Value}(hv:a0j (a0a w σ.ov) σ.g Γ.rt (Shr B w σ) av u):Rel B (Γ.set N av) (N+1) (fun i=>if i=N then u else tm i) w σ:=by
 refine⟨h.roots,h.norm,h.nodup,h.disj,h.live,fun i hi=>?_,h.pend,h.size,h.frame,h.mine,h.pins,h.still⟩;rw[a2n]
 by_cases e:i=N
 rw[if_pos e,if_pos e];exact hv;rw[if_neg e,if_neg e];exact h.slots i (by omega)
theorem a7Z.congr{tm tm':Nat→Value}{N0:Nat}{u:Value}{v:ResultVar ⊕ Option Nat}(hv:b0N N0 v=true)(h:a7Z P B w tm u v)(ht:∀i,i<N0→tm' i=tm i):a7Z P B w tm' u v:=by
 cases v with
 |inr n=>cases n<;>exact h
 |inl r=>
  cases r with
  |tmp i=>
   simp only[b0N,dT]at hv;simp only[a7Z,a2I]at h⊢;rw[ht i hv];exact h
  |cell i t=>
   simp only[b0N,dT]at hv;simp only[a7Z,a2I]at h⊢;rw[ht i hv];exact h
structure Outd (P:Program) (B:Base) (w:World) (N0 N:Nat) (tm:Nat→Value) (tk:List Nat) (Γ Γ':AE) (σ':Gh) (rs:List RA) (vs:List (ResultVar ⊕ Option Nat)) (y:(a1S (rs.map RA.ty)).den) (us:List Value) (tm':Nat→Value) (ns:List (Option Nat)):Prop where
 lu:us.length=rs.length
 lv:vs.length=rs.length
 ln:ns.length=rs.length
 rel:Rel B Γ' (N+rs.length) tm' w σ'
 pd:Γ'.pd=none
 low:∀i,i<N→tm' i=tm i
 high:∀(k:Nat) u,us[k]?=some u→tm' (N+k)=u
 stay:a2H tk Γ Γ'
 comes:∀(k:Nat) v u,vs[k]?=some v→us[k]?=some u→a7Z P B w tm u v
 fin:∀(k:Nat) it o,(a1O rs y)[k]?=some it→ns[k]?=some o→d7w Γ' (Γ'.get (N+k)) o it
 names:∀(k n:Nat),ns[k]?=some (some n)→n∉tk∧∀k':Nat,ns[k']?=some (some n)→k'=k
theorem c3z(hcx:CxTy P cx){N0:Nat}:∀(rs:List RA)(vs:List (ResultVar ⊕ Option Nat)) {Γ:AE} {σ:Gh} {N:Nat} {tm:Nat→Value} {tk:List Nat} (_:N0≤N) (_:Rel B Γ N tm w σ) (_:Γ.pd=none) (_:∀i,N≤i→Γ.get i=.dead)
  (_:∀v∈vs,b0N N0 v=true) {K:(a1S (rs.map RA.ty)).den→AE→Rs ρ} {z:ρ} (_:Γ.outs cx tk N rs vs K=some z),∃y Γ' σ' us tm' ns,K y Γ'=some z∧Outd P B w N0 N tm tk Γ Γ' σ' rs vs y us tm' ns
 | [],vs,Γ,σ,N,tm,tk,hN,h,hpd,hdead,hvs,K,z,hz=>by
  cases vs with
  |cons=>simp only[AE.outs]at hz;cases hz
  |nil=>exact⟨(),Γ,σ,[],tm,[],hz,⟨rfl,rfl,rfl,h,hpd,fun _ _=>rfl,by simp,a2H.refl,by simp,by simp[a1O],by simp⟩⟩
 | [r],vs,Γ,σ,N,tm,tk,hN,h,hpd,hdead,hvs,K,z,hz=>by
  match vs,hvs with
  | [],_=>simp only[AE.outs]at hz;cases hz
  |_::_::_,_=>simp only[AE.outs]at hz;cases hz
  | [v],hvs=>
   simp only[AE.outs]at hz;obtain⟨x,Γ1,σ1,tk1,av,u,h1,h2,h3,h4,h5,h6,h7,h8⟩:=c5X hcx hN h hpd (hvs v (by simp)) hz;have hget:(Γ1.set N av).get N=av:=by simp only[AE.get];rw[a2n,if_pos rfl]
   have hs1:a2H tk1 Γ1 (Γ1.set N av):=a2H.refl.set (h8 N (hdead N (a34 _)));have h6':c3y tk tk1 (Γ1.set N av) av ⟨r,x⟩:=h6;obtain⟨o,k1,k2,k3⟩:=h6'.finK hget a2H.refl;refine⟨x,Γ1.set N av,σ1,[u],_,[o],h1,⟨rfl,rfl,rfl,h2.ext_slot h4,h3,fun i hi=>if_neg (by omega),fun k u' hk=>?_,h7.set (hdead N (a34 _)),fun k v' u' hk hu=>?_,fun k it o' hk ho=>?_,fun k n hk=>?_⟩⟩
   ·cases k with
    |zero=>simp only[a01,sj]at hk;simp[hk]
    |succ k=>simp at hk
   ·cases k with
    |zero=>
     simp only[a01,sj]at hk hu;subst hk;subst hu;exact h5
    |succ k=>simp at hk
   ·cases k with
    |zero=>
     simp only[a1O,a01,sj]at hk ho;subst hk;subst ho;exact k1
    |succ k=>simp[a1O]at hk
   ·cases k with
    |zero=>
     simp only[a01,sj]at hk;refine⟨(k3 n hk).1,fun k' hk'=>?_⟩;cases k' with
     |zero=>rfl
     |succ k'=>simp at hk'
    |succ k=>simp at hk
 |r::r'::rs,vs,Γ,σ,N,tm,tk,hN,h,hpd,hdead,hvs,K,z,hz=>by
  match vs,hvs with
  | [],_=>simp only[AE.outs]at hz;cases hz
  |v::vs,hvs=>
   simp only[AE.outs]at hz;obtain⟨x,Γ1,σ1,tk1,av,u,h1,h2,h3,h4,h5,h6,h7,h8⟩:=c5X hcx hN h hpd (hvs v (by simp)) hz;have hget:(Γ1.set N av).get N=av:=by simp only[AE.get];rw[a2n,if_pos rfl]
   have hd1:∀i,N+1≤i→(Γ1.set N av).get i=.dead:=fun i hi=>by
    have:=h8 i (hdead i (by omega))
    simp only[AE.get]at this⊢;rw[a2n,if_neg (by omega)];exact this
   obtain⟨y,Γ',σ',us,tm',ns,k1,k2⟩:=c3z hcx (r'::rs) vs (by omega:N0≤N+1) (h2.ext_slot h4) h3 hd1 (fun v' hv'=>hvs v' (by simp[hv'])) h1;have h6':c3y tk tk1 (Γ1.set N av) av ⟨r,x⟩:=h6;obtain⟨o,j1,j2,j3⟩:=h6'.finK hget k2.stay;refine⟨(x,y),Γ',σ',u::us,tm',o::ns,k1,⟨by simp[k2.lu],by simp[k2.lv],by simp[k2.ln],?_,k2.pd,fun i hi=>?_,fun k u' hk=>?_,(h7.set (hdead N (a34 _))).trans k2.stay j2,fun k v' u' hk hu=>?_,fun k it o' hk ho=>?_,fun k n hk=>?_⟩⟩
   have:=k2.rel
   simp only[lC]at this⊢
   rwa [show N+1+(rs.length+1)=N+(rs.length+1+1)from by omega]at this
   rw[k2.low i (by omega),if_neg (by omega)]
   ·cases k with
    |zero=>
     simp only[a01,sj]at hk;rw[←hk,a35,k2.low N (by omega),if_pos rfl]
    |succ k=>
     have:=k2.high k u' (by simpa using hk)
     rwa [show N+1+k=N+(k+1)from by omega]at this
   ·cases k with
    |zero=>
     simp only[a01,sj]at hk hu;subst hk;subst hu;exact h5
    |succ k=>
     have hk':vs[k]?=some v':=by simpa using hk
     exact(k2.comes k v' u' hk' (by simpa using hu)).congr (hvs v' (by simp[a36 hk'])) (fun i hi=>(if_neg (by omega)).symm)
   ·cases k with
    |zero=>
     simp only[a1O,a01,sj]at hk ho;subst hk;subst ho;exact j1
    |succ k=>
     have:=k2.fin k it o' (by simpa[a1O]using hk) (by simpa using ho)
     rwa [show N+1+k=N+(k+1)from by omega]at this
   ·cases k with
    |zero=>
     simp only[a01,sj]at hk;refine⟨(j3 n hk).1,fun k' hk'=>?_⟩;cases k' with
     |zero=>rfl
     |succ k'=>exact absurd (j3 n hk).2 (k2.names k' n (by simpa using hk')).1
    |succ k=>
     obtain⟨a1,a2⟩:=k2.names k n (by simpa using hk);refine⟨fun g=>a1 (j2 n g),fun k' hk'=>?_⟩;cases k' with
     |zero=>
      simp only[a01,sj]at hk';exact absurd (j3 n hk').2 a1
     |succ k'=>rw[a2 k' (by simpa using hk')]
end
theorem c9F{P:Program}{fn:Func}{a:Act}{w:World}{vr:List Value}(hl:vr.length=fn.results.toList.length)
  (h:∀(k:Nat) r u,fn.results.toList[k]?=some r→vr[k]?=some u→(a2I (a0n a) r).run P w=.ok u w):(results fn a.tmps).run P w=.ok (b6v vr) w:=by
 have h1:(fn.results.toList.mapM (a2I (a0n a))).run P w=.ok vr w:=c7U _ _ hl h;have h2:fn.results.mapM (a2I (a0n a))=Functor.map List.toArray (fn.results.toList.mapM (a2I (a0n a))):=by
  rw[←List.mapM_toArray]
 have h3:results fn a.tmps=(do
   let vs ←fn.results.mapM (a2I (a0n a))
   pure (if h:vs.size=1 then vs[0]else .tuple vs)):=by
  have:(fun(r:ResultVar)=>match r with
   |.tmp t=>(pure (a.tmps.getD t undef):Sem Value)
   |.cell i t=>do loadVar t (←asAddr (a.tmps.getD i undef)))=a2I (a0n a):=by
   funext r;cases r<;>rfl
  rw[←this];rfl
 rw[h3,h2];simp only[map_eq_pure_bind,bind_assoc,pure_bind,Sem.run_bind,h1,Result.andThen_ok,Sem.run_pure,List.size_toArray];congr 1
 match vr with
 | []=>rfl
 | [u]=>rfl
 |_::_::_=>rfl
section
variable {P:Program} {B:Base} {w:World} {cx:Cx}
theorem Outd.back{N0 N:Nat}{tm:Nat→Value}{Γ Γ':AE}{σ':Gh}{rs:List RA}{vs y us tm' ns}(h:Outd P B w N0 N tm [] Γ Γ' σ' rs vs y us tm' ns):
  ∃Ls,Back B w (a1O rs y) us Ls:=by
 have hov:=h.rel.ov_none h.pd;have hmem:a0a w σ'.ov=cells w:=by rw[hov];rfl
 let F:Option Nat→Value→Src×a1c:=fun o u=>match o with
  |some n=>(σ'.g n,σ'.ow n)
  |none=>(.one u,[])
 let Ls:=a84 F ns us
 have hget:∀(k:Nat) L,Ls[k]?=some L→∃o u,ns[k]?=some o∧us[k]?=some u∧L=F o u:=fun k L hk=>by
  simp only[Ls,List.getElem?_zipWith]at hk;cases ho:ns[k]? with
  |none=>rw[ho]at hk;simp at hk
  |some o=>
   cases hu:us[k]? with
   |none=>rw[ho,hu]at hk;simp at hk
   |some u=>
    rw[ho,hu]at hk;simp only[sj]at hk;exact⟨o,u,rfl,rfl,hk.symm⟩
 have hmemL:∀L∈Ls,L.2=[]∨∃(k n:Nat),ns[k]?=some (some n)∧L.2=σ'.ow n:=fun L hL=>by
  obtain⟨k,hk⟩:=a68.1 hL;obtain⟨o,u,ho,hu,rfl⟩:=hget k L hk;cases o with
  |none=>exact .inl rfl
  |some n=>exact .inr ⟨k,n,ho,rfl⟩
 have hsh:∀c,Shr B w σ' c→(c<w.heap.size∧(B.S c∨B.F c∨B.size≤c)∧∀L∈Ls,c∉L.2.map (·.1)):=fun c hc=>⟨hc.1,hc.2.1,fun L hL hcL=>by
  rcases hmemL L hL with g|⟨k,n,-,g⟩;rw[g]at hcL;simp at hcL;rw[g]at hcL;exact hc.2.2 ⟨n,hcL⟩⟩
 have hown:∀L∈Ls,∀c∈L.2.map (·.1),a0N σ' c:=fun L hL c hc=>by
  rcases hmemL L hL with g|⟨k,n,-,g⟩;rw[g]at hc;simp at hc;rw[g]at hc;exact⟨n,hc⟩
 refine⟨Ls,⟨by rw[h.lu,a9i],by simp[Ls,h.lu,h.ln,a9i],fun k it u L hit hu hL=>?_,fun L hL=>?_,fun k k' L L' hL hL' hne c hc hc'=>?_,fun L hL p hp=>?_,fun L hL c hc=>h.rel.mine c (hown L hL c hc),h.rel.size,h.rel.frame,h.rel.still⟩⟩
 ·obtain⟨o,u',ho,hu',rfl⟩:=hget k L hL;rw[hu]at hu';simp only[sj]at hu';subst hu';have hfin:=h.fin k it o hit ho;have hk:k<rs.length:=by rw[←h.lu];exact(lS.1 hu).1
  have ha:=a3y h.rel (show N+k<N+rs.length by omega);rw[h.high k u hu,hmem]at ha;obtain⟨r,x⟩:=it;cases r with
  |v t=>
   obtain⟨g1,rfl⟩:=hfin;rw[g1]at ha;exact⟨VOk.frame ha (fun _ _ _=>rfl) hsh,rfl⟩
  |o e=>
   rcases hfin with⟨n,rfl,g2,g3⟩|⟨rfl,g2,rfl⟩;rw[g2]at ha;obtain⟨r',e',s,a1,a2,a3⟩:=ha;rw[g3]at a1;simp only[sj]at a1;subst a1;simp only[loc,a0T,sj,pJ]at a2;obtain⟨-,rfl⟩:=a2;have hroot:=h.rel.roots n _ g3;rw[hmem]at hroot;refine⟨?_,hroot.mono hsh⟩;obtain⟨O',R,-,-,hc⟩:=hroot.rd;rcases hc with⟨hb,-⟩|⟨-,⟨v0,hv0⟩,-,-⟩;cases hb;show σ'.g n=.one u;rw[hv0]at a3⊢;simp only[Src.rd,if_true,sj]at a3;rw[a3]
   ·refine⟨rfl,⟨[],[],?_,by simp,.inr ⟨rfl,⟨_,rfl⟩,⟨e,rfl⟩,rfl⟩⟩⟩;show a0X _ true e.cells (dec _ e) (some u)=some (([]:List e.den),[],[]);rcases g2 with g2|g2;rw[g2]at ha;have ha:u=.slice none 0 0:=ha;rw[ha];rfl
    ·rw[g2]at ha;obtain⟨A,ha⟩:=ha;rw[ha];cases A with
     |none=>rfl
     |some A=>simp[a0X,a0g]
  |b t=>
   obtain⟨n,rfl,g2,g3⟩:=hfin;rw[g2]at ha;obtain⟨r',t',b,o',a1,a2,a3⟩:=ha;rw[g3]at a1;simp only[sj]at a1;subst a1;simp only[loc,a0T,sj,pJ]at a2;obtain⟨rfl,a2⟩:=a2;have hroot:=h.rel.roots n _ g3;rw[hmem]at hroot;refine⟨hroot.mono hsh,b,?_⟩;obtain⟨O',R,-,-,hc⟩:=hroot.rd;rcases hc with⟨-,b',hb,-⟩|⟨hb,-⟩;rw[hb]at a2;simp only[Src.at.injEq]at a2;obtain⟨rfl,rfl⟩:=a2;exact⟨hb,a3⟩;cases hb
 rcases hmemL L hL with g|⟨k,n,-,g⟩;rw[g];simp;rw[g];exact h.rel.nodup n
 ·obtain⟨o,u,ho,-,rfl⟩:=hget k L hL;obtain⟨o',u',ho',-,rfl⟩:=hget k' L' hL';cases o with
  |none=>simp[F]at hc
  |some n=>
   cases o' with
   |none=>simp[F]at hc'
   |some n'=>
    have hnn:n≠n':=by
     rintro rfl
     exact hne ((h.names k' n ho').2 k ho)
    exact h.rel.disj n n' hnn c hc hc'
 rcases hmemL L hL with g|⟨k,n,-,g⟩;rw[g]at hp;cases hp;rw[g]at hp;exact h.rel.live n p hp
theorem b7g:∀(ps:List PA)(i0 i:Nat),i∈a0D ps i0→∃c a,ps[i-i0]?=some (.r c a)
 | [],_,_,h=>by simp[a0D]at h
 |.v _::ps,i0,i,h=>by
  have:=(b4a ps (i0+1)).2 i h
  obtain⟨c,a,h1⟩:=b7g ps (i0+1) i h;exact⟨c,a,by rw[show i-i0=(i-(i0+1))+1 from by omega];simpa using h1⟩
 |.r c a::ps,i0,i,h=>by
  rcases mC.1 h with rfl|h;exact⟨c,a,by simp⟩
  have:=(b4a ps (i0+1)).2 i h
  obtain⟨c,a,h1⟩:=b7g ps (i0+1) i h;exact⟨c,a,by rw[show i-i0=(i-(i0+1))+1 from by omega];simpa using h1⟩
def d4I(fn:Func)(c:Code)(H:Hints)(s:FSem):Bool:=
 a2f fn.ntmps c&&(H.fits fn.ntmps&&(decide (s.ps.length≤fn.ntmps)&&fn.results.toList.all fun r=>b0N fn.ntmps (.inl r)))
theorem b7h(hcx:CxTy P cx){fn:Func}{s:FSem}{y}{args:Array Value}(hres:(fn.results.toList.all fun r=>b0N fn.ntmps (.inl r))=true){a':Act}{w':World}{σ':Gh}{Γ':AE}(hr:Rel B Γ' fn.ntmps (a0n a') w' σ')(hpd:Γ'.pd=none)
  (hK:(Γ'.upto fn.ntmps).outs cx [] fn.ntmps (RA.all s.ps s.rs) (fn.results.toList.map .inl++(a0D s.ps 0).map fun i=>.inr (b1G s.ps i)) (fun y _=>some y)=some y)
  (hpins:c7i B s.ps args):
  ∃v,(results fn a'.tmps).run P w'=.ok v w'∧∃vr Ls,Ending.returned v=.returned (b6v vr)∧vr.length=s.rs.length∧Back B w' (a1O (RA.all s.ps s.rs) y) (vr++(a0D s.ps 0).map (a3J s.ps args)) Ls:=by
 have hup:Rel B (Γ'.upto fn.ntmps) fn.ntmps (a0n a') w' σ':=hr.weak fun i hi v hv=>by
  rw[show decide (i<fn.ntmps)=true from by simpa using hi];exact hv
 obtain⟨y',Γf,σf,us,tmf,ns,h1,h2⟩:=c3z (P:=P) (w:=w') (N0:=fn.ntmps) hcx _ _ (a34 _) hup hpd (fun i hi=>by
   have:decide (i<fn.ntmps)=false:=by simpa using hi
   simp only[AE.get,AE.upto,this,cF]) (fun v hv=>by
   rcases mA.1 hv with hv|hv;obtain⟨r,hr,rfl⟩:=a19.1 hv;exact lA.1 hres r hr;obtain⟨i,-,rfl⟩:=a19.1 hv;rfl) hK
 simp only[sj]at h1;subst h1;obtain⟨Ls,hback⟩:=h2.back;have hlv:=h2.lv;simp only[RA.all,lN,a65,b0J s.ps 0,a79]at hlv;have hlu:=h2.lu;simp only[RA.all,lN]at hlu;have hrl:fn.results.toList.length=s.rs.length:=by simp only[a79];omega

 have hus:us=us.take s.rs.length++(a0D s.ps 0).map (a3J s.ps args):=by
  have e:=List.take_append_drop s.rs.length us
  conv=>lhs;rw[←e]
  congr 1;refine a85 fun k=>?_
  rw[a53,a44];cases hk:(a0D s.ps 0)[k]? with
  |none=>
   rw[List.getElem?_eq_none_iff]at hk;rw[b0J]at hk;simp only[Option.map_none];exact a23 (by omega)
  |some i=>
   have hkl:=(lS.1 hk).1;rw[b0J]at hkl;have hu:=lG (show s.rs.length+k<us.length by omega);rw[hu];simp only[a49,sj];have hv:(fn.results.toList.map Sum.inl++(a0D s.ps 0).map fun i=>Sum.inr (b1G s.ps i))[s.rs.length+k]?=some (Sum.inr (b1G s.ps i):ResultVar ⊕ Option Nat):=by
    rw[a55 (by simp only[a65];omega),a65,hrl,Nat.add_sub_cancel_left,a44,hk];rfl
   have hcm:=h2.comes _ _ _ hv hu;have hkk:∃c,b4p s.ps i=some c:=by
    obtain⟨c,a,hka⟩:=b7g s.ps 0 i (a36 hk);exact⟨c,b1v (by simpa using hka)⟩
   obtain⟨c,hkc⟩:=hkk;cases c with
   |true=>
    simp only[b1G,hkc]at hcm;simp only[a3J,hkc];exact hcm
   |false=>
    simp only[b1G,hkc]at hcm;simp only[a3J,hkc];obtain⟨b,hb1,hb2⟩:=hpins i (a36 hk) hkc;exact c0d.uniq (hcm i b rfl hb1) hb2
 have hrun:(results fn a'.tmps).run P w'=.ok (b6v (us.take s.rs.length)) w':=by
  refine c9F (by rw[a91];omega) fun k r u hr' hu=>?_
  have hkl:=(lS.1 hr').1;refine h2.comes k (.inl r) u ?_ ?_
  rw[a41 (by simpa using hkl),a44,hr'];rfl;rw[List.getElem?_take,if_pos (by omega)]at hu;exact hu
 exact⟨_,hrun,us.take s.rs.length,Ls,rfl,by rw[a91];omega,by rw[←hus];exact hback⟩
theorem a3x.of(hcx:CxOk P cx)(hm:P.follows .mixedOrders=true){f:FuncId}{fn:Func}{c:Code}{H:Hints}{s:FSem}(hfn:P.funcs[f]?=some fn)(hb:fn.body=some c)(hok:d4I fn c H s=true)
  (heq:∀x,b9T cx H fn s.ps s.rs x=s.F x):a3x P cx.G f s:=by
 simp only[d4I,bA,dT]at hok;obtain⟨hfit,hH,hps,hres⟩:=hok;intro w B σ args x y hG hy hB hhp hov hargs hrel hpins;rw[←heq x]at hy;simp only[b9T,hb]at hy
 let a:Act:={ tmps:=args++a50 (fn.ntmps-args.size) undef,defers:=[] }
 have hsz:a.tmps.size=fn.ntmps:=by simp[a];omega
 have hrel':Rel B (ini s.ps x) fn.ntmps (a0n a) w σ:=by
  refine⟨hrel.roots,hrel.norm,hrel.nodup,hrel.disj,hrel.live,fun i hi=>?_,hrel.pend,hrel.size,hrel.frame,hrel.mine,hrel.pins,hrel.still⟩
  by_cases hlt:i<s.ps.length
  have:=hrel.slots i hlt
  have e:a0n a i=args.getD i undef:=by
   simp only[a0n,a,a00,a69];rw[if_pos (by omega)]
  rw[e];exact this
  have:(ini s.ps x).sl i=.one .dead:=by
   simp only[ini];rw[a23 (by rw[a5V];omega)]
  rw[this];trivial
 refine calls_of_wp hfn hb (wp_mono ((wpIn_wide (n:=0)).1 (b0v (ro:=none) (D:=[]) hcx hG hm hH c 1 hfit hy hrel' hsz rfl)) ?_)
 rintro e a' w' ⟨ex,Γ',σ',rfl,hK,hr,hN,hD⟩
 simp only[]at hK;have key:(∀i,ex≠.exit i)∧Γ'.pd=none∧(Γ'.upto fn.ntmps).outs cx [] fn.ntmps (RA.all s.ps s.rs) (fn.results.toList.map .inl++(a0D s.ps 0).map fun i=>.inr (b1G s.ps i)) (fun y _=>some y)=some y:=by
  cases hpd:Γ'.pd with
  |some p=>rw[hpd]at hK;cases ex<;>simp only[]at hK<;>cases hK
  |none=>
   rw[hpd]at hK;cases ex with
   |exit i=>simp only[]at hK;cases hK
   |normal=>exact⟨by simp,rfl,hK⟩
   |ret=>exact⟨by simp,rfl,hK⟩
 obtain⟨hex,hpd,hK⟩:=key;obtain⟨v,hrun,hfin⟩:=b7h (args:=args) hcx.toCxTy hres hr hpd hK hpins;cases ex with
 |exit i=>exact absurd rfl (hex i)
 |normal=>exact⟨hD,_,hrun,hfin⟩
 |ret=>exact⟨hD,_,hrun,hfin⟩
end
end Go.Ab
namespace Go.Ab
open Go.ChangeShapes Go.WideShapes
def Wf:(t:Ty)→t.den→Prop
 |.int k,n=>(Lit.int k n).wf=true
 |.str,l=>∀b∈(show List Int from l),0≤b∧b≤255
 |.list _ t,l|.nl t,l=>∀x∈(show List t.den from l),Wf t x
 |.arr n t,l=>(show List t.den from l).length=n∧∀x∈(show List t.den from l),Wf t x
 |.pair a b,x=>Wf a x.1∧Wf b x.2
 |.bool,_|.unit,_=>True
def a2Z:(t:Ty)→t.den→Nat
 |.str,l=>(show List Int from l).length+1
 |.list _ t,l|.nl t,l=>1+((show List t.den from l).map (a2Z t)).sum
 |.arr _ t,l=>((show List t.den from l).map (a2Z t)).sum
 |.pair a b,x=>a2Z a x.1+a2Z b x.2
 |.unit,_=>0
 |.int _,_|.bool,_=>1
structure Bulk {H:Type} (bulk:DataW H→Nat):Prop where
 one:∀d,1≤bulk d
 str:∀bs,bulk (.lit (.string bs))=bs.length+1
 slice:∀es sp,(es.map bulk).sum+1≤bulk (.slice es sp)
 agg:∀ps,(ps.map bulk).sum≤bulk (.agg ps)
def b1P:Ty→Bool
 |.list o e=>b1P e&&!o
 |.nl _=>false
 |.pair a b=>b1P a&&b1P b
 |.arr _ t=>b1P t
 |_=>true
theorem b8J{α:Type}{f:Nat→Option (α×a1c×List Nat)}{p:α→Prop}{q:Nat→Prop}{g:α→Nat}{b:Nat→Nat}:∀(n i:Nat),(∀j,j<n→∃x R,f (i+j)=some (x,[],R)∧p x∧g x≤b (i+j)∧∀c∈R,q c)→
  ∃xs Rs,a0g f n i=some (xs,[],Rs)∧(∀x∈xs,p x)∧(xs.map g).sum≤((a56 i n).map b).sum∧∀c∈Rs,q c
 |0,_,_=>⟨[],[],rfl,by simp,by simp,by simp⟩
 |n+1,i,h=>by
  obtain⟨x,R,h1,h2,h3,h4⟩:=h 0 (by omega);obtain⟨xs,Rs,g1,g2,g3,g4⟩:=b8J n (i+1) (fun j hj=>by
   have:=h (j+1) (by omega)
   rwa [show i+(j+1)=i+1+j from by omega]at this)
  rw[a35]at h1 h3;refine⟨x::xs,R++Rs,by simp only[a0g,h1,g1,a64],fun y hy=>?_,?_,fun c hc=>?_⟩;rcases mC.1 hy with rfl|hy;exact h2;exact g2 y hy;rw[List.range'_succ];simp only[a30,a60];omega;rcases mA.1 hc with hc|hc;exact h4 c hc;exact g4 c hc
section
variable {H:Type} {enc:TypeId×Value→H} {P:Program} {w:World} {base:Nat} {sp:Nat→Bool} {held:Bool} {bulk:DataW H→Nat}
theorem b1Q{τ:Ty}{t:TypeId}(h:a0r P τ (.inl t)=true):P.cellsOf t=τ.cells:=by
 have:=a0J h
 unfold a5w at this;unfold Program.cellsOf
 split at this
 rename_i i hi;simp only[bA,beq_iff_eq]at this;rw[hi];exact this.1.1;cases this
theorem d0p{a:Addr}{v:Value}(h:w.cell? a=some v):a.block<w.heap.size:=by
 unfold World.cell? at h
 split at h
 rename_i he;exact(a22.1 he).1;cases h
theorem d7x(hb:Bulk bulk)(hs:∀b,sp b=true):∀(t:Ty),
  (∀(T:TypeId)(n:Nat)(cs:List Value) y,a0r P t (.inl T)=true→b1P t=true→DataW.trod enc P w base sp held n T cs=some y→
   ∃x R,dec (cells w) t (fun j=>cs[j]?)=some (x,[],R)∧Wf t x∧a2Z t x≤bulk y.1∧∀c∈R,c<w.heap.size)∧
  (∀(fs:List Field)(off n:Nat)(cs:List Value)(xs:List (DataW H×List MemPlace)),a0r P t (.inr (fs,off))=true→b1P t=true→xs.length=fs.length→
   (∀(i:Nat)(f:Field),fs[i]?=some f→DataW.trod enc P w base sp held n f.type ((cs.drop f.offset).take (P.cellsOf f.type))=xs[i]?)→
   ∃x R,dec (cells w) t (fun j=>cs[off+j]?)=some (x,[],R)∧Wf t x∧a2Z t x≤((xs.map (·.1)).map bulk).sum∧∀c∈R,c<w.heap.size):=by
 intro t
 induction t with
 |int k=>
  refine⟨fun T n cs y ht _ h=>?_,fun fs off n cs xs ht=>by simp[a0r]at ht⟩;obtain⟨m,rfl,rfl,hw⟩:=DataW.trod_int (b1h ht) h;exact⟨m,[],by simp[dec],hw,hb.one _,by simp⟩
 |bool=>
  refine⟨fun T n cs y ht _ h=>?_,fun fs off n cs xs ht=>by simp[a0r]at ht⟩;have hu:P.underlying T=some .bool:=by
   simp only[a0r,bA]at ht;obtain⟨-,ht⟩:=ht
   split at ht
   assumption
   cases ht
  obtain⟨m,rfl,rfl⟩:=DataW.trod_bool hu h;exact⟨m,[],by simp[dec],trivial,hb.one _,by simp⟩
 |str=>
  refine⟨fun T n cs y ht _ h=>?_,fun fs off n cs xs ht=>by simp[a0r]at ht⟩;have hu:P.underlying T=some .string:=by
   simp only[a0r,bA]at ht;obtain⟨-,ht⟩:=ht
   split at ht
   assumption
   cases ht
  obtain⟨s,rfl,rfl,-⟩:=DataW.trod_string hu h;refine⟨_,[],by simp only[dec,a01];rfl,fun b hb'=>?_,?_,by simp⟩;obtain⟨u,-,rfl⟩:=a19.1 hb'
  have:=u.toNat_lt
  exact⟨by omega,by omega⟩;rw[hb.str];simp[a2Z]
 |unit=>
  refine⟨fun T n cs y ht _ h=>⟨(),[],rfl,trivial,Nat.zero_le _,by simp⟩,fun fs off n cs xs ht _ _ _=>⟨(),[],rfl,trivial,Nat.zero_le _,by simp⟩⟩
 |pair a b iha ihb=>
  have main:(∀(fs:List Field)(off n:Nat)(cs:List Value)(xs:List (DataW H×List MemPlace)),a0r P (.pair a b) (.inr (fs,off))=true→b1P (.pair a b)=true→xs.length=fs.length→
   (∀(i:Nat)(f:Field),fs[i]?=some f→DataW.trod enc P w base sp held n f.type ((cs.drop f.offset).take (P.cellsOf f.type))=xs[i]?)→
   ∃x R,dec (cells w) (.pair a b) (fun j=>cs[off+j]?)=some (x,[],R)∧Wf (.pair a b) x∧a2Z (.pair a b) x≤((xs.map (·.1)).map bulk).sum∧∀c∈R,c<w.heap.size):=by
   intro fs off n cs xs ht hfl hl hf;cases fs with
   |nil=>simp[a0r]at ht
   |cons f r=>
    simp only[a0r,bA,beq_iff_eq,dT]at ht;obtain⟨⟨⟨ho,hta⟩,hpos⟩,htb⟩:=ht;simp only[b1P,bA]at hfl;cases xs with
    |nil=>simp at hl
    |cons x0 xs=>
     have h0:=hf 0 f rfl;simp only[a01]at h0;rw[b1Q hta,ho]at h0;have hget:∀j,j<a.cells→((cs.drop off).take a.cells)[j]?=cs[off+j]?:=fun j hj=>by
      rw[a61 hj,a53]
     obtain⟨x,R,g1,g2,g3,g4⟩:=iha.1 f.type n _ x0 hta hfl.1 h0;obtain⟨y,R',k1,k2,k3,k4⟩:=ihb.2 r (off+a.cells) n cs xs htb hfl.2 (by simpa using hl) (fun i f' hi=>by simpa using hf (i+1) f' (by simpa using hi));refine⟨(x,y),R++R',?_,⟨g2,k2⟩,?_,fun c hc=>?_⟩;have e1:=a0v (m':=cells w) a (rd':=fun j=>cs[off+j]?) g1 (fun j hj=>(hget j hj).symm) (fun _ _ _=>rfl);have e2:(fun j=>cs[off+(a.cells+j)]?)=fun j=>cs[off+a.cells+j]?:=by funext j;rw[a80]
     simp only[dec,e1,e2,k1,a64];simp only[a2Z,a30,a60];omega;rcases mA.1 hc with hc|hc;exact g4 c hc;exact k4 c hc
  refine⟨fun T n cs y ht hfl h=>?_,main⟩;obtain⟨fs,hu,hfs⟩:∃fs:Array Field,P.underlying T=some (.struct fs)∧a0r P (.pair a b) (.inr (fs.toList,0))=true:=by
   simp only[a0r,bA]at ht;obtain⟨-,ht⟩:=ht
   split at ht
   rename_i fs hu;refine⟨fs,hu,?_⟩
   split at ht
   rename_i f r hr;rw[hr];simp only[a0r,a43];exact ht;cases ht;cases ht
  obtain⟨xs,m,-,rfl,hl,hlx,hf⟩:=DataW.trod_struct hu h;obtain⟨x,R,g1,g2,g3,g4⟩:=main fs.toList 0 m cs xs hfs hfl (by simpa using hlx) (fun i f hi=>hf i f (by simpa using hi));refine⟨x,R,?_,g2,a26 g3 (hb.agg _),g4⟩;have e:(fun j=>cs[0+j]?)=fun j=>cs[j]?:=by funext j;rw[a43]
  rw[←e];exact g1
 |list o e ih=>
  refine⟨fun T n cs y ht hfl h=>?_,fun fs off n cs xs ht=>by simp[a0r]at ht⟩;obtain⟨T',hu,hte,hpos⟩:=a1J ht;simp only[b1P,bA,a18]at hfl;obtain⟨hno,rfl⟩:=hfl;rcases DataW.trod_slice hu h with⟨rfl,rfl⟩|⟨a,len,cap,elems,rest,m,-,rfl,rfl,hba,hlc,hcap,hlen,hel,hrest,-⟩;exact⟨[],[],by simp[dec,a0X];rfl,by simp[Wf],by simp only[a2Z];exact hb.one _,by simp⟩;have hspot:cap=0∨a.spot=none:=by
   by_cases hc0:cap=0
   exact .inl hc0;refine .inr ?_
   have one:∀{o:Nat}{z},o=0→(w.cells? base (a.add (o*P.cellsOf T')) (P.cellsOf T')).bind (DataW.trod enc P w base sp held m T')=some z→a.spot=none:=fun ho h1=>by
    subst ho;obtain⟨cs',h2,-⟩:=a25.1 h1;rw[b1Q hte]at h2;obtain⟨-,hl',hc'⟩:=World.cells?_some h2;have h3:=hc' 0 hpos;rw[Nat.zero_mul,Addr.add_zero',Addr.add_zero',lG (by omega)]at h3;exact World.cell?_spot h3
   by_cases hl0:len=0
   obtain⟨hr1,hr2⟩:=hrest (hs _);have h1:=hr2 0 (by omega);rw[lG (by omega)]at h1;exact one (by omega) h1;have h1:=hel 0 (by omega);rw[lG (by omega)]at h1;exact one rfl h1
  have one:∀i,i<len→∃x R,dec (cells w) e (fun j=>cells w a.block (a.off+(i*e.cells+j)))=some (x,[],R)∧Wf e x∧a2Z e x≤bulk ((elems.getD i (.nil,[])).1)∧(∀c∈R,c<w.heap.size)∧a.block<w.heap.size:=fun i hi=>by
   have h1:=hel i hi;rw[lG (by omega)]at h1;obtain⟨cs',h2,h3⟩:=a25.1 h1;rw[b1Q hte]at h2;obtain⟨-,hl',hc'⟩:=World.cells?_some h2;have hspot:a.spot=none:=hspot.resolve_left (by omega);obtain⟨x,R,g1,g2,g3,g4⟩:=ih.1 T' m cs' _ hte hno h3;have hcell:∀j,j<e.cells→cells w a.block (a.off+(i*e.cells+j))=cs'[j]?:=fun j hj=>by
    rw[←hc' j hj]
    have:a=⟨a.block,a.off,none⟩:=by rw[←hspot]
    rw[this,add_plain,add_plain,a80];rfl
   refine⟨x,R,a0v e g1 (fun j hj=>hcell j hj) (fun _ _ _=>rfl),g2,by rw[lD,lG (by omega)];exact g3,g4,?_⟩
   have:=hcell 0 hpos
   rw[lG (by omega)]at this;exact d0p (a:=⟨a.block,_,none⟩) this
  obtain⟨xs,Rs,g1,g2,g3,g4⟩:=b8J (p:=Wf e) (q:=fun c=>c<w.heap.size) (g:=a2Z e) (b:=fun i=>bulk ((elems.getD i (.nil,[])).1)) len 0 (fun j hj=>by
   obtain⟨x,R,k1,k2,k3,k4,-⟩:=one j hj;rw[a43];exact⟨x,R,k1,k2,k3,k4⟩)
  have hsum:((a56 0 len).map fun i=>bulk ((elems.getD i (.nil,[])).1)).sum=((elems.map (·.1)).map bulk).sum:=by
   rw[a83,Go.Deep.map_by_index elems (.nil,[]) (bulk∘(·.1)),hlen,a37];rfl
  have hslice:=hb.slice (elems.map (·.1)) (rest.map (·.1))
  by_cases hn:len=0
  subst hn;simp only[a0g,sj,pJ]at g1;obtain⟨rfl,-,-⟩:=g1;exact⟨[],[],by simp only[dec,a0X,a01];rw[if_pos ⟨hspot,hlc⟩];simp[a0g];rfl,by simp[Wf],by simp only[a2Z];exact hb.one _,by simp⟩;refine⟨xs,a.block::([]++Rs),?_,g2,?_,fun c hc=>?_⟩;simp only[dec,a0X,a01,hspot,hlc,and_self,if_true,g1,a03,if_false,if_neg hn,a63];rfl;simp only[a2Z]
  have:(xs.map (a2Z e)).sum≤((elems.map (·.1)).map bulk).sum:=by rw[←hsum];exact g3
  show 1+(xs.map (a2Z e)).sum≤_;omega;rcases mC.1 hc with rfl|hc;obtain⟨_,_,_,_,_,_,h6⟩:=one 0 (by omega);exact h6;exact g4 c (by simpa using hc)
 |nl e ih=>exact⟨fun T n cs y ht hfl=>by simp[b1P]at hfl,fun fs off n cs xs ht hfl=>by simp[b1P]at hfl⟩
 |arr n e ih=>
  refine⟨fun T f cs y ht hfl h=>?_,fun fs off n cs xs ht=>by simp[a0r]at ht⟩;obtain⟨T',hu,hte,hpos⟩:=b1e ht;obtain⟨xs,m,-,rfl,hl,hlx,hf⟩:=DataW.trod_array hu h;simp only[b1P]at hfl;have one:∀i,i<n→∃x R,dec (cells w) e (fun j=>cs[i*e.cells+j]?)=some (x,[],R)∧Wf e x∧a2Z e x≤bulk ((xs.getD i (.nil,[])).1)∧∀c∈R,c<w.heap.size:=fun i hi=>by
   have h1:=hf i hi;rw[lG (by omega),b1Q hte]at h1;obtain⟨x,R,g1,g2,g3,g4⟩:=ih.1 T' m _ _ hte hfl h1;refine⟨x,R,a0v e g1 (fun j hj=>?_) (fun _ _ _=>rfl),g2,by rw[lD,lG (by omega)];exact g3,g4⟩;rw[a61 hj,a53]
  obtain⟨ys,Rs,g1,g2,g3,g4⟩:=b8J (p:=Wf e) (q:=fun c=>c<w.heap.size) (g:=a2Z e) (b:=fun i=>bulk ((xs.getD i (.nil,[])).1)) n 0 (fun j hj=>by
   obtain⟨x,R,k1,k2,k3,k4⟩:=one j hj;rw[a43];exact⟨x,R,k1,k2,k3,k4⟩)
  have hsum:((a56 0 n).map fun i=>bulk ((xs.getD i (.nil,[])).1)).sum=((xs.map (·.1)).map bulk).sum:=by
   rw[a83,Go.Deep.map_by_index xs (.nil,[]) (bulk∘(·.1)),hlx,a37];rfl
  refine⟨ys,Rs,by simp only[dec];exact g1,⟨a0U _ _ g1,g2⟩,?_,g4⟩;simp only[a2Z];exact a26 (a26 g3 (Nat.le_of_eq hsum)) (hb.agg _)
end
end Go.Ab
namespace Go.Ab
open Go.ChangeShapes Go.WideShapes Go.RowKit
def d1n(ps:List PA)(x:(a1S (ps.map PA.ty)).den):Prop:=∀it∈a0Q ps x,Wf it.1.ty it.2
def c3A(ps:List PA)(x:(a1S (ps.map PA.ty)).den):Nat:=((a0Q ps x).map fun it=>a2Z it.1.ty it.2).sum
def a8L(P:Program):List PA→List TypeId→Bool
 | [],[]=>true
 |.v t::ps,T::Ts=>a0r P t (.inl T)&&(b1P t&&(P.readableRec T&&(decide (T<P.types.size)&&a8L P ps Ts)))
 |_,_=>false
section
variable {H:Type} {enc:TypeId×Value→H} {P:Program} {w:World} {base:Nat} {sp:Nat→Bool} {held:Bool} {bulk:DataW H→Nat}
theorem c7V(hb:Bulk bulk)(hs:∀b,sp b=true){t:Ty}{T:TypeId}{v:Value}{d:DataW H}{ps:List MemPlace}{r:Reach}{b0:Nat}(ht:a0r P t (.inl T)=true)(hf:b1P t=true)(hval:Value.okWide P w r b0 T v)(h:DataW.Trod enc P w base sp held T v d ps):
  ∃x,VOk (cells w) (fun c=>c<w.heap.size) t x v∧Wf t x∧a2Z t x≤bulk d:=by
 obtain⟨n,hn⟩:=h;have agg:t.isAgg=true→∃cs,v=.agg cs∧cs.size=P.cellsOf T∧Row.okWide P w r b0 T cs:=fun ha=>by
  cases t<;>simp only[Ty.isAgg,a03]at ha
  all_goals
   simp only[a0r,bA]at ht;obtain⟨-,ht⟩:=ht
   split at ht
   rename_i hu;simp only[Value.okWide,hu]at hval;exact hval;cases ht
 have one:t.isAgg=false→Cell.okWide P w r b0 T v:=fun ha=>by
  cases t<;>simp only[Ty.isAgg,Bool.true_eq_false]at ha
  all_goals
   simp only[a0r,bA]at ht;obtain⟨-,ht⟩:=ht
   split at ht
   rename_i hu;simp only[Value.okWide,hu]at hval;exact hval;cases ht
 have hsingle:t.isAgg=false→a1n v=true:=fun ha=>by
  have:=one ha
  cases v<;>first|rfl|skip
  all_goals
   exfalso
   unfold Cell.okWide at this
   split at this<;>first|(rename_i hh;cases hh;done)|skip
   all_goals
    unfold Cell.ok at this
    split at this<;>first|(rename_i hh;cases hh;done)|exact this
 obtain⟨x,R,g1,g2,g3,g4⟩:=(d7x hb hs t).1 T n v.cells.toList _ ht hf hn;refine⟨x,⟨fun ha=>?_,hsingle,R,?_,g4⟩,g2,g3⟩;obtain⟨cs,h1,h2,-⟩:=agg ha;exact⟨cs,h1,by rw[h2,b1Q ht]⟩;simpa only[a70]using g1
theorem d0q(hb:Bulk bulk)(hs:∀b,sp b=true){r:Reach}{b0:Nat}:∀(ps:List PA)(Ts:List TypeId)(vs:List Value)(ds:List (DataW H)) (p:List MemPlace),a8L P ps Ts=true→(∀(j:Nat) T v,Ts[j]?=some T→vs[j]?=some v→Value.okWide P w r b0 T v)→
  DataW.TrodAll enc P w base sp held Ts vs ds p→
  ∃x:(a1S (ps.map PA.ty)).den,vs.length=ps.length∧d1n ps x∧c3A ps x≤(ds.map bulk).sum∧ds.length=ps.length∧
   ∀(k:Nat) it v,(a0Q ps x)[k]?=some it→vs[k]?=some v→∃t y,it=⟨.v t,y⟩∧VOk (cells w) (fun c=>c<w.heap.size) t y v
 | [],[],vs,ds,p,_,_,h=>by
  obtain⟨rfl,rfl,rfl⟩:=trodAll_nil h;exact⟨(),rfl,by simp[d1n,a0Q],by simp[c3A,a0Q],rfl,by simp[a0Q]⟩
 | [.v t],T::Ts,vs,ds,p,hp,hv,h=>by
  simp only[a8L,bA]at hp;obtain⟨h1,h2,-,-,h5⟩:=hp;obtain⟨v,vs',d,ds',q,q',rfl,rfl,rfl,g1,g2⟩:=trodAll_cons h;cases Ts with
  |cons T' Ts=>simp[a8L]at h5
  |nil=>
   obtain⟨rfl,rfl,rfl⟩:=trodAll_nil g2;obtain⟨x,k1,k2,k3⟩:=c7V hb hs h1 h2 (hv 0 T v rfl rfl) g1;refine⟨x,rfl,fun it hit=>by obtain rfl:=a42.1 hit;exact k2,by simp only[c3A,a0Q,a30,a63,a60,List.sum_nil,a35];exact k3,rfl,fun k it u h3 h4=>?_⟩;cases k with
   |zero=>
    simp only[a0Q,a01,sj]at h3 h4;subst h3;subst h4;exact⟨t,x,rfl,k1⟩
   |succ k=>simp[a0Q]at h3
 |.v t::p'::ps,T::Ts,vs,ds,p,hp,hv,h=>by
  simp only[a8L,bA]at hp;obtain⟨h1,h2,-,-,h5⟩:=hp;obtain⟨v,vs',d,ds',q,q',rfl,rfl,rfl,g1,g2⟩:=trodAll_cons h;obtain⟨x,k1,k2,k3⟩:=c7V hb hs h1 h2 (hv 0 T v rfl rfl) g1;obtain⟨y,l1,l2,l3,l4,l5⟩:=d0q hb hs (p'::ps) Ts vs' ds' q' h5 (fun j T v hT hv'=>hv (j+1) T v (by simpa using hT) (by simpa using hv')) g2;refine⟨(x,y),by simp[l1],fun it hit=>?_,?_,by simp[l4],fun k it u h3 h4=>?_⟩;rcases mC.1 hit with rfl|hit;exact k2;exact l2 it hit;simp only[c3A,a0Q,a30,a60]at l3⊢;exact Nat.add_le_add k3 l3
  ·cases k with
   |zero=>
    simp only[a0Q,a01,sj]at h3 h4;subst h3;subst h4;exact⟨t,x,rfl,k1⟩
   |succ k=>exact l5 k it u (by simpa[a0Q]using h3) (by simpa using h4)
 |.r _ _::_,_,_,_,_,hp,_,_=>by simp[a8L]at hp
 |.v _::_,[],_,_,_,hp,_,_=>by simp[a8L]at hp
 | [],_::_,_,_,_,hp,_,_=>by simp[a8L]at hp
theorem d3p(hl:laidOutB P=true){W W':World}{sp':Nat→Bool}:∀(ps:List PA)(Ts:List TypeId)(vs:List Value)(ds:List (DataW H)) (p:List MemPlace),a8L P ps Ts=true→
  DataW.TrodAll enc P W base (fun _=>true) true Ts vs ds p→(∀q∈p,W.sameAt W' q)→(∀q∈p,sp' q.block=true)→DataW.TrodAll enc P W' base sp' true Ts vs ds p
 | [],[],vs,ds,p,_,h,_,_=>by
  obtain⟨rfl,rfl,rfl⟩:=trodAll_nil h;exact trodAll_mk0
 |.v t::ps,T::Ts,vs,ds,p,hp,h,hs,hsp=>by
  simp only[a8L,bA,dT]at hp;obtain⟨-,-,h3,h4,h5⟩:=hp;obtain⟨v,vs',d,ds',q,q',rfl,rfl,rfl,g1,g2⟩:=trodAll_cons h;exact trodAll_cons_mk (WideElems.Trod_stays hl h3 h4 g1 (fun x hx=>hs x (a16 _ hx)) (fun x hx=>hsp x (a16 _ hx)))
   (d3p hl ps Ts vs' ds' q' h5 g2 (fun x hx=>hs x (a06 _ hx)) (fun x hx=>hsp x (a06 _ hx)))
 |.r _ _::_,_,_,_,_,hp,_,_,_=>by simp[a8L]at hp
 |.v _::_,[],_,_,_,hp,_,_,_=>by simp[a8L]at hp
 | [],_::_,_,_,_,hp,_,_,_=>by simp[a8L]at hp
theorem c1D:∀(ps:List PA)(Ts:List TypeId)(i:Nat),a8L P ps Ts=true→a0D ps i=[]
 | [],_,_,_=>rfl
 |.v t::ps,T::Ts,i,h=>by
  simp only[a8L,bA]at h;exact c1D ps Ts (i+1) h.2.2.2.2
 |.v _::_,[],_,h=>by simp[a8L]at h
 |.r _ _::_,_,_,h=>by simp[a8L]at h
theorem c7W{bulk:DataW H→Nat}(hbulk:Bulk bulk){f:FuncId}{fn:Func}{s:FSem}{spec:ChangeSpec}{tb:TypeId}{N:Nat}{G:b8C}(hF:a3x P G f s)(hl:laidOutB P=true)(hps:a8L P s.ps fn.params.toList=true)
  (hrs:s.rs=[.v .bool])(hrt:fn.resultTypes=#[tb])(hub:P.underlying tb=some .bool)(hvars:spec.vars=[])(hspec:∀ds:List (DataW H),ds.length=s.ps.length→spec.fn H ds={ results:=[.lit (.bool true)],args:=ds })
  (hlaw:∀x,d1n s.ps x→c3A s.ps x≤N→∃y,s.F x=some y∧(a1O (RA.all s.ps s.rs) y)[0]?=some ⟨.v .bool,true⟩)
  {W:World}{b0:Nat}{args:Array Value}{ds gs:List (DataW H)}{before:List MemPlace}{apart fresh handsOn:Bool}
  (hGW:∀g t x,G g=some ⟨t,x⟩→g<W.heap.size∧dec (a0a W none) t ((Src.at g 0).rd (a0a W none))=some (x,[],[]))
  (hval:∀(j:Nat) t v,fn.params[j]?=some t→args[j]?=some v→Value.okWide P W .any b0 t v)(hW:DataW.Whole enc P fn.params.toList spec.vars apart W args.toList ds gs before)(hN:((ds++gs).map bulk).sum≤N):
  Calls P f args W fun e W'=>∃v,e=.returned v∧spec.post enc P fn apart fresh handsOn false W args v W':=by
 have hlt:=hW.lt;have hW0:=hW;obtain⟨p,q,hA,hV,rfl,hfz,hnd⟩:=hW;rw[hvars]at hV;obtain⟨rfl,rfl⟩:=trodVars_none hV;obtain⟨x,g1,g2,g3,g4,g5⟩:=d0q hbulk (fun _=>rfl) s.ps fn.params.toList args.toList ds p hps (fun j T v hT hv=>hval j T v (by simpa using hT) (by simpa using hv)) hA;rw[a28]at hN;obtain⟨y,hy,hitem⟩:=hlaw x g2 (a26 g3 hN);have hri:=c1D s.ps fn.params.toList 0 hps
 let B:Base:={ size:=W.heap.size,hp:=fun b=>W.heap[b]?,F:=fun _=>False,S:=fun _=>True,io:=a1R W }
 let σ:Gh:=⟨fun _=>.one undef,fun _=>[],none⟩
 have hrt0:∀n,(ini s.ps x).rt n=none:=fun n=>by
  cases hr:(ini s.ps x).rt n with
  |none=>rfl
  |some r=>
   obtain⟨i,c,a,y,-,hi,-⟩:=d2Z hr;have hl':=(lS.1 hi).1;rw[a5V,←g1]at hl';obtain⟨t,y',e,-⟩:=g5 i _ _ hi (lG hl');cases e
 have hsz:args.size=s.ps.length:=by rw[←g1];simp
 have hrel:Rel B (ini s.ps x) s.ps.length (fun i=>args.getD i undef) W σ:=by
  refine⟨fun n r hr=>?_,fun n _=>rfl,fun n=>by simp[σ],fun n n' _ c hc=>by simp[σ]at hc,fun n p hp=>by simp[σ]at hp,fun i hi=>?_,trivial,a34 _,fun b _ _=>rfl,fun c hc=>?_,fun i b hb=>?_,rfl⟩;rw[hrt0]at hr;cases hr;have hi':i<args.toList.length:=by rw[g1];exact hi
  have hget:=lG hi';have hip:i<(a0Q s.ps x).length:=by rw[a5V];exact hi
  obtain⟨t,z,h1,h2⟩:=g5 i _ _ (lG hip) hget;have he:args.getD i undef=args.toList[i]:=by
   simp only[a00,←a70,hget,a39]
  simp only[ini,lG hip,h1,he];exact VOk.frame h2 (fun _ _ _=>rfl) (fun c hc=>⟨hc,.inl trivial,fun⟨n,hn⟩=>by simp[σ]at hn⟩);obtain⟨n,hn⟩:=hc;simp[σ]at hn;simp only[B]at hb;cases hb
 refine(hF W B σ args x y (fun g t z hg=>⟨(hGW g t z hg).1,trivial,fun h=>h,W,rfl,(hGW g t z hg).2⟩) hy rfl (fun _=>rfl) rfl hsz hrel (fun i hi _=>by rw[hri]at hi;cases hi)).mono ?_
 rintro e W' ⟨vr,Ls,rfl,hvr,bk⟩
 rw[hrs]at hvr;rw[hri,a63,a28]at bk;obtain⟨v,rfl⟩:∃v,vr=[v]:=by
  match vr,hvr with
  | [v],_=>exact⟨v,rfl⟩
 have hll:=bk.ll;rw[←bk.lv]at hll;obtain⟨L,rfl⟩:∃L,Ls=[L]:=by
  match Ls,hll with
  | [L],_=>exact⟨L,rfl⟩
 obtain⟨hv,-⟩:=bk.ok 0 _ v L hitem rfl rfl;have hv:v=.bool true:=by
  obtain⟨-,h2,R,h3,-⟩:=hv;have h2:=h2 rfl;simp only[dec]at h3
  split at h3
  rename_i b hb;simp only[sj]at h3;obtain⟨rfl,-⟩:=h3;cases v<;>simp[a1n,Value.cells]at h2 hb;rw[hb];cases h3
 subst hv;have hsame:∀b,b<W.heap.size→W'.heap[b]?=W.heap[b]?:=fun b hb=>bk.frame b hb (fun h=>h);have hsp:=hspec ds g4;refine⟨_,rfl,ds,[],p++[],[],p,[],hW0,?_,?_,?_,⟨?_,?_,fun i hi=>?_⟩,fun h=>by cases h⟩;rw[a28,hsp,hrt];exact trodAll_cons_mk (p:=[]) (p':=[]) (shut_bool hub _) trodAll_mk0
 ·rw[a28,hsp];refine d3p hl s.ps _ _ _ _ hps hA (fun q hq=>?_) (fun q hq=>by simpa using hlt q (by simpa using hq));have hb:=hlt q (by simpa using hq);cases q with
  |cell b off=>
   simp only[World.sameAt,World.cell?];rw[hsame b hb]
  |map b=>exact hsame b hb
 rw[a28,hsp,hvars];rfl
 have:=bk.still
 simp only[a1R,B,pJ]at this;exact this.1
 have:=bk.still
 simp only[a1R,B,pJ]at this;exact this.2
 ·rw[hsame i hi];cases W.heap[i]? with
  |none=>rfl
  |some o=>
   cases o with
   |cells c t fr=>exact⟨rfl,rfl,rfl,fun _ _=>rfl⟩
   |map es clock=>exact .inr ⟨rfl,rfl⟩
   |_=>rfl
end
end Go.Ab
namespace Go.Ab
def a6Z:Ty→List Field→Bool
 | .pair (.int _) b, f :: r => f.name != "_" && a6Z b r
 | .pair .bool b, f :: r => f.name != "_" && a6Z b r
 |.unit,[]=>true
 |_,_=>false
def d4J(P:Program)(τ:Ty)(t:TypeId):Bool:=
 !P.stoodInHeld t&&(!P.eqGuardType P.depth t&&(match P.underlying t with|some (.struct fs)=>a6Z τ fs.toList|_=>false))
section
variable {P:Program} {w:World} {cx:Cx}
theorem a7a{τ:Ty}{t:TypeId}(ht:a0r P τ (.inl t)=true)(ha:τ.isAgg=false){xs:Array Value}{off:Nat}{v:Value}(hv:xs[off]?=some v):(part t xs off).run P w=.ok v w:=by
 have h:=a9G ht w;rw[ha]at h;simp[part,h,hv]
theorem c7X{m:Mem}{d:Nat}{xs ys:Array Value}:∀(τ:Ty)(fs:List Field)(off:Nat),a0r P τ (.inr (fs,off))=true→a6Z τ fs=true→∀{x y R R'},dec m τ (fun j=>xs[off+j]?)=some (x,[],R)→dec m τ (fun j=>ys[off+j]?)=some (y,[],R')→
  (Op.eqFields (d+1) xs ys fs).run P w=.ok (eqT τ x y) w:=by
 have split1:∀(a b:Ty)(off:Nat)(zs:Array Value)(x:(Ty.pair a b).den) R,dec m (.pair a b) (fun j=>zs[off+j]?)=some (x,[],R)→
   ∃R1 R2,dec m a (fun j=>zs[off+j]?)=some (x.1,[],R1)∧dec m b (fun j=>zs[off+a.cells+j]?)=some (x.2,[],R2):=by
  intro a b off zs x R h;simp only[dec]at h
  split at h
  cases h;rename_i x1 o1 r1 h1
  split at h
  cases h;rename_i x2 o2 r2 h2;obtain⟨h0,h⟩:=Prod.mk.inj (Option.some.inj h);subst h0;obtain⟨ho,-⟩:=Prod.mk.inj (Prod.mk.inj (Option.some.inj h)).2;obtain⟨rfl,rfl⟩:=List.append_eq_nil_iff.1 ho;refine⟨r1,r2,h1,?_⟩;have e:(fun j=>zs[off+a.cells+j]?)=fun j=>zs[off+(a.cells+j)]?:=by funext j;rw[a80]
  rw[e];exact h2
 intro τ
 induction τ with
 |pair a b iha ihb=>
  intro fs off ht he x y R R' hx hy;cases fs with
  |nil=>simp[a0r]at ht
  |cons f r=>
   simp only[a0r,bA,beq_iff_eq,dT]at ht;obtain⟨⟨⟨ho,hta⟩,-⟩,htb⟩:=ht;obtain⟨R1,R2,h1,h2⟩:=split1 a b off xs x R hx;obtain⟨R3,R4,h3,h4⟩:=split1 a b off ys y R' hy;cases a with
   |int k=>
    simp only[a6Z,bA,bne_iff_ne,ne_eq]at he;simp only[dec,a35]at h1 h3
    split at h1
    rename_i k1 n1 g1
    split at h3
    rename_i k2 n2 g2;rw[a51]at h1 h3;obtain⟨rfl,h1⟩:=h1;obtain⟨rfl,h3⟩:=h3;have h1:=Prod.mk.inj (Option.some.inj h1);have h3:=Prod.mk.inj (Option.some.inj h3);have e1:=a7a (w:=w) hta rfl g1;have e2:=a7a (w:=w) hta rfl g2;have e3:=run_equalIn_int (P:=P) w d f.type k2 k2 n1 n2 (b1h hta);simp only[Op.eqFields,Sem.run_ite,ne_eq,he.1,not_false_eq_true,if_true,Sem.run_bind,ho,e1,e2,e3,Result.andThen_ok,eqT];rw[←h1.1,←h3.1];cases hb:n1==n2
    simp
    rw[ihb r (off+1) htb he.2 h2 h4]
    simp
    cases h3;cases h1
   |bool=>
    simp only[a6Z,bA,bne_iff_ne,ne_eq]at he;simp only[dec,a35]at h1 h3;have hu:P.underlying f.type=some .bool:=by
     simp only[a0r,bA]at hta;obtain⟨-,hta⟩:=hta
     split at hta
     assumption
     cases hta
    split at h1
    rename_i n1 g1
    split at h3
    rename_i n2 g2;have h1:=Prod.mk.inj (Option.some.inj h1);have h3:=Prod.mk.inj (Option.some.inj h3);have e1:=a7a (w:=w) hta rfl g1;have e2:=a7a (w:=w) hta rfl g2;have e3:=run_equalIn_bool (P:=P) w d f.type n1 n2 hu;simp only[Op.eqFields,Sem.run_ite,ne_eq,he.1,not_false_eq_true,if_true,Sem.run_bind,ho,e1,e2,e3,Result.andThen_ok,eqT];rw[←h1.1,←h3.1];cases hb:n1==n2
    simp
    rw[ihb r (off+1) htb he.2 h2 h4]
    simp
    cases h3;cases h1
   |_=>simp[a6Z]at he
 |unit=>
  intro fs off ht he x y R R' hx hy;cases fs with
  |nil=>simp[Op.eqFields,eqT]
  |cons f r=>simp[a6Z]at he
 |_=>intro fs off ht he;simp[a6Z]at he
theorem c2y.of{τ:Ty}{t:TypeId}(ht:a0r P τ (.inl t)=true)(h:d4J P τ t=true):c2y P τ t:=by
 simp only[d4J,bA,a18]at h;obtain⟨hs,hg,hp⟩:=h;intro m Sh x y u v w xo yo hu hv
 split at hp
 ·rename_i fs hund;have hfs:P.fieldsOf t=fs:=by simp[Program.fieldsOf,hund]
  have hagg:τ.isAgg=true:=by cases τ<;>first|rfl|(simp[a6Z]at hp)
  obtain⟨hu1,-,R,hu3,-⟩:=hu;obtain⟨hv1,-,R',hv3,-⟩:=hv;obtain⟨xs,rfl,-⟩:=hu1 hagg;obtain⟨ys,rfl,-⟩:=hv1 hagg;have hty:a0r P τ (.inr (fs.toList,0))=true:=by
   cases τ with
   |pair a b=>
    simp only[a0r,hund,bA]at ht;obtain⟨-,ht⟩:=ht
    split at ht
    rename_i f r hr;rw[hr];simp only[a0r,a43];simpa using ht;cases ht
   |unit=>
    simp only[a0r,hund,bA]at ht
    have:fs.toList=[]:=by simpa using ht.2
    rw[this];rfl
   |_=>simp[a6Z]at hp
  have key:(Op.equalIn 10000 t (.agg xs) (.agg ys)).run P w=.ok (eqT τ x y) w:=by
   rw[run_equalIn_struct w 9999 t xs ys (by rw[hfs];exact hund) hs,hfs];refine c7X (d:=9998) τ fs.toList 0 hty hp (R:=R) (R':=R') (m:=m) ?_ ?_
   simpa[Value.cells]using hu3;simpa[Value.cells]using hv3
  refine⟨⟨run_eqGuard_agg w _ t xo yo xs ys hg,?_⟩,run_eqGuard_agg w _ t xo yo xs ys hg,?_⟩;rw[run_eql_struct,key];rfl;rw[run_neq_struct,key];rfl
 cases hp
def d1o(P:Program)(τ:Ty)(t:TypeId):Bool:=
 !P.eqGuardType P.depth t&&(match τ,P.underlying t with
  |.arr n (.int k),some (.array n' e)=>n'==n&&(P.cellsOf e==1&&((P.info? e).isSome&&a0r P (.int k) (.inl e)))
  |_,_=>false)
theorem c1E{d e:Nat}{k:IntKind}(he:a0r P (.int k) (.inl e)=true){xs ys:Array Value}{x y:List Int}(hx:∀i (h:i<x.length),xs[i]?=some (.int k x[i]))(hy:∀i (h:i<y.length),ys[i]?=some (.int k y[i])):
  ∀(is:List Nat),(∀i∈is,i<x.length∧i<y.length)→(Op.eqItems (d+1) e 1 xs ys is).run P w=.ok (is.all fun i=>x[i]?==y[i]?) w
 | [],_=>by simp[Op.eqItems]
 |i::is,h=>by
  obtain⟨h1,h2⟩:=h i (by simp);have e1:=a7a (w:=w) he rfl (show xs[i*1]?=_ by rw[a92];exact hx i h1);have e2:=a7a (w:=w) he rfl (show ys[i*1]?=_ by rw[a92];exact hy i h2);have e3:=run_equalIn_int (P:=P) w d e k k x[i] y[i] (b1h he);have ih:=c1E (d:=d) he hx hy is (fun j hj=>h j (by simp[hj]));simp only[Op.eqItems,Sem.run_bind,e1,e2,e3,Result.andThen_ok];have g1:x[i]?=some x[i]:=lG h1;have g2:y[i]?=some y[i]:=lG h2;cases hb:x[i]==y[i];simp[g1,g2,hb];simp only[bT,a03,if_false,ih,a29,g1,g2]
  have:(some x[i]==some y[i])=true:=by simpa using hb
  rw[this,a46]
theorem d0r:∀(x y:List Int),x.length=y.length→((a45 x.length).all fun i=>x[i]?==y[i]?)=((a84 (fun(a b:Int)=>a==b) x y).all id)
 | [],[],_=>rfl
 |a::x,b::y,h=>by
  have ih:=d0r x y (by simpa using h);rw[lC,List.range_succ_eq_map,a29,List.all_map,List.zipWith_cons_cons,a29,←ih];simp[Function.comp_def]
theorem c2y.ofArr{τ:Ty}{t:TypeId}(h:d1o P τ t=true):c2y P τ t:=by
 simp only[d1o,bA,a18]at h;obtain⟨hg,h⟩:=h
 split at h
 rotate_left;cases h;rename_i n k n' e hund;simp only[bA,beq_iff_eq]at h;obtain⟨rfl,hc,hi,ht⟩:=h;obtain⟨i,hi⟩:=a02.1 hi;intro m Sh x y u v w xo yo hu hv;obtain⟨hu1,-,R,hu3,-⟩:=hu;obtain⟨hv1,-,R',hv3,-⟩:=hv;obtain⟨xs,rfl,-⟩:=hu1 rfl;obtain⟨ys,rfl,-⟩:=hv1 rfl;have key0:∀{zs:Array Value}{z:List Int}{R},dec m (.arr n' (.int k)) (fun j=>(Value.agg zs).cells[j]?)=some (z,[],R)→z.length=n'∧∀i (h:i<z.length),zs[i]?=some (.int k z[i]):=by
  intro zs z R hz;simp only[dec]at hz;have hl:z.length=n':=a0U n' 0 hz;refine⟨hl,fun i hi'=>?_⟩;obtain⟨a,o,r,A,B,A',B',h1,h2,-⟩:=a0S n' 0 i hz (hl▸hi');have h2:z[i]?=some (show Int from a):=h2;have h2:z[i]=(show Int from a):=Option.some.inj ((lG hi').symm.trans h2);simp only[Ty.cells,a43,a92,a35,Value.cells]at h1
  split at h1
  rename_i k' n hn;rw[a51]at h1;obtain⟨rfl,h1⟩:=h1;have h1:=(Prod.mk.inj (Option.some.inj h1)).1;rw[hn,h2,←h1];cases h1
 obtain⟨hxl,hx⟩:=key0 hu3;obtain⟨hyl,hy⟩:=key0 hv3;have key:(Op.equalIn 10000 t (.agg xs) (.agg ys)).run P w=.ok (eqT (.arr n' (.int k)) x y) w:=by
  rw[run_equalIn_array w 9999 xs ys hund hi,hc,c1E (d:=9998) ht hx hy _ (fun j hj=>by rw[a07]at hj;omega)]
  have:=d0r x y (by rw[hxl,hyl])
  rw[hxl]at this;rw[this];have hlen:(a24 (show List Int from x)==a24 (show List Int from y))=true:=by rw[hxl,hyl];simp
  show _=Result.ok ((a84 (fun(a b:Int)=>a==b) x y).all id&&(a24 (show List Int from x)==a24 (show List Int from y))) w;rw[hlen,a76]
 refine⟨⟨run_eqGuard_agg w _ t xo yo xs ys hg,?_⟩,run_eqGuard_agg w _ t xo yo xs ys hg,?_⟩;rw[run_eql_struct,key];rfl;rw[run_neq_struct,key];rfl
theorem c0s{α:Type}:∀(l:List (Nat×α)) (t:Nat) (x:α),find l t=some x→(t,x)∈l
 | [],_,_,h=>by simp[find]at h
 |(k,y)::r,t,x,h=>by
  simp only[find]at h;rcases a0i h with⟨hk,h'⟩|⟨-,h⟩;simp only[sj]at h'
  have:k=t:=by simpa using hk
  rw[this,h'];exact a27 ..;exact a05 _ (c0s r t x h)
def d5N(P:Program)(tab:List (Nat×Ty)):Bool:=tab.all fun p=>decide (p.2.sh=p.2)&&a0r P p.2 (.inl p.1)
def d5O(P:Program)(l:List Nat):Bool:=l.all fun t=>match P.underlying t with|some (.pointer _)=>true|_=>false
def d5P(P:Program)(tab:List (Nat×Ty))(l:List Nat):Bool:=l.all fun t=>match find tab t with|some τ=>!τ.isAgg || (d4J P τ t || d1o P τ t)|none=>true
theorem CxTy.of{tab:List (Nat×Ty)}{l q:List Nat}(hT:∀t,cx.T t=find tab t)(hE:∀t,cx.E t=l.contains t)(hQ:∀t,cx.Q t=q.contains t)(h1:d5N P tab=true)(h2:d5O P q=true)(h3:d5P P tab l=true):CxTy P cx:=by
 have ok:∀t τ,cx.T t=some τ→τ.sh=τ∧a0r P τ (.inl t)=true:=fun t τ h=>by
  rw[hT]at h
  have:=lA.1 h1 _ (c0s _ _ _ h)
  simp only[bA,dT]at this;exact this
 refine⟨ok,fun t ht=>?_,fun t τ he hτ ha=>?_⟩;rw[hQ]at ht
 have:=lA.1 h2 t (by simpa using ht)
 split at this
 rename_i e hu;exact⟨e,hu⟩;cases this;rw[hE]at he
 have:=lA.1 h3 t (by simpa using he)
 rw[←hT,hτ]at this;simp only[ha,bT,Bool.false_or,a48]at this;exact this.elim (c2y.of (ok t τ hτ).2) c2y.ofArr
theorem CxOk.of{fs:List (Nat×FSem)}(h:CxTy P cx)(hC:∀f,cx.C f=find fs f)(hf:∀p∈fs,a3x P cx.G p.1 p.2∧b1L P p.1):CxOk P cx:=
 ⟨h,fun f s hs=>by
  rw[hC]at hs;exact hf _ (c0s _ _ _ hs)⟩
theorem a0{α:Type}{p:α→Prop}:∀x∈([]:List α),p x:=fun _ h=>by cases h
theorem a1{α:Type}{p:α→Prop}{a:α}{l:List α}(h:p a)(hl:∀x∈l,p x):∀x∈a::l,p x:=fun x hx=>by
 rcases mC.1 hx with rfl|hx;exact h;exact hl x hx
end
def c0t{α:Type}(x:List α):Option (List α):=bif List.isEmpty x then b8v (some ([]:List α)) (bif lim (0+a24 x)then some (a66 [] x)else none)else(bif lim (0+a24 x)then some (a66 [] x)else none)
def b5E{α:Type}(x:List α):Option (List α):=bif lim (0+a24 x)then some x else none
theorem b8K{α:Type}(x:List α):c0t x=b5E x:=by
 unfold c0t b5E;cases x with
 |nil=>exact d0J _
 |cons a x=>rfl
section
variable {α:Type} {f f':Nat→Option (α×a1c×List Nat)}
theorem b5F:∀(n i:Nat){x},(∀j y,f j=some y→f' j=some y)→a0g f n i=some x→a0g f' n i=some x
 |0,_,_,_,h=>h
 |n+1,i,x,hf,h=>by
  simp only[a0g]at h⊢
  split at h
  cases h;rename_i x1 o1 r1 h1;rw[hf _ _ h1];simp only[]
  split at h
  cases h;rename_i xs os rs h2;rw[b5F n (i+1) hf h2];exact h
end
theorem a9n{m m':Mem}(hm:∀b j v,m b j=some v→m' b j=some v):∀(t:Ty){rd rd':Nat→Option Value}{x},(∀j v,rd j=some v→rd' j=some v)→dec m t rd=some x→dec m' t rd'=some x
 |.int k,rd,rd',x,hr,h=>by
  simp only[dec]at h⊢
  split at h
  rename_i hv;rw[hr _ _ hv];exact h;cases h
 |.bool,rd,rd',x,hr,h=>by
  simp only[dec]at h⊢
  split at h
  rename_i hv;rw[hr _ _ hv];exact h;cases h
 |.str,rd,rd',x,hr,h=>by
  simp only[dec]at h⊢
  split at h
  rename_i hv;rw[hr _ _ hv];exact h;cases h
 |.unit,rd,rd',x,hr,h=>h
 |.pair a b,rd,rd',x,hr,h=>by
  simp only[dec]at h⊢
  split at h
  cases h;rename_i x1 o1 r1 h1;rw[a9n hm a hr h1];simp only[]
  split at h
  cases h;rename_i x2 o2 r2 h2;rw[a9n hm b (fun j v=>hr _ v) h2];exact h
 |.arr n t,rd,rd',x,hr,h=>by
  simp only[dec]at h⊢;exact b5F n 0 (fun j y hy=>a9n hm t (fun i v=>hr _ v) hy) h
 |.list o t,rd,rd',x,hr,h=>by
  simp only[dec]at h⊢;unfold a0X at h⊢
  split at h
  rename_i n c hv;rw[hr _ _ hv];exact h;rename_i a n c hv;rw[hr _ _ hv];simp only[]
  split at h
  rename_i hc;rw[if_pos hc]
  split at h
  cases h;rename_i xs os rs h3;rw[b5F n 0 (fun j y hy=>a9n hm t (fun i v hv=>hm _ _ _ hv) hy) h3];exact h;cases h;cases h
 |.nl t,rd,rd',x,hr,h=>by
  simp only[dec]at h⊢
  split at h
  rename_i hv;rw[hr _ _ hv];exact h;cases h
theorem Src.rd_grow{m m':Mem}(hm:∀b j v,m b j=some v→m' b j=some v)(s:Src):∀j v,s.rd m j=some v→s.rd m' j=some v:=by
 intro j v h;cases s with
 |one u=>exact h
 |_=>exact hm _ _ _ h
theorem a9o{m m':Mem}(hm:∀b j v,m b j=some v→m' b j=some v):∀(p:a0P)(t:Ty)(s:Src){x},a0T m p t s=some x→a0T m' p t s=some x
 | [],t,s,x,h=>h
 |.fst::p,t,s,x,h=>by
  unfold a0T at h⊢
  split at h
  exact a9o hm p _ _ h;cases h
 |.snd::p,t,s,x,h=>by
  unfold a0T at h⊢
  split at h
  exact a9o hm p _ _ h;cases h
 |.idx i::p,t,s,x,h=>by
  unfold a0T at h⊢
  split at h
  rename_i n t' bl o
  split at h
  rename_i hlt;simp only[if_pos hlt];exact a9o hm p _ _ h;cases h;rename_i t' s'
  split at h
  rename_i a n c hv
  split at h
  rename_i hlt;simp only[Src.rd_grow hm s _ _ hv,if_pos hlt];exact a9o hm p _ _ h;cases h;cases h;cases h
structure Turns (B:Base) (w w':World):Prop where
 cells:∀(c:Nat)(o:Obj),w.heap[c]?=some o→o.isCells=true→w'.heap[c]?=some o
 size:w.heap.size≤w'.heap.size
 frame:∀b,b<B.size→w'.heap[b]?=w.heap[b]?
 io:a1R w'=a1R w
theorem c5Y{w w':World}(hcells:∀(c:Nat)(o:Obj),w.heap[c]?=some o→o.isCells=true→w'.heap[c]?=some o)(ov:Option (Nat×Nat×Value)):∀b j v,a0a w ov b j=some v→a0a w' ov b j=some v:=by
 have hc:∀b j v,w.cell? ⟨b,j,none⟩=some v→w'.cell? ⟨b,j,none⟩=some v:=fun b j v hv=>by
  obtain⟨o,h1,h2⟩:=cells_of_cell hv;have h3:=hcells b o h1 h2;unfold World.cell? at hv⊢;simp only[h1]at hv;simp only[h3];exact hv
 intro b j v hv;cases ov with
 |none=>exact hc b j v hv
 |some y=>
  obtain⟨b',o',u⟩:=y;simp only[a0a]at hv⊢;split;rename_i e;rw[if_pos e]at hv;exact hv;rename_i e;rw[if_neg e]at hv;exact hc b j v hv
theorem Rel.turnedG{B:Base}{Γ:AE}{N:Nat}{tm:Nat→Value}{w w':World}{σ:Gh}(h:Rel B Γ N tm w σ)(hcells:∀(c:Nat)(o:Obj),w.heap[c]?=some o→o.isCells=true→w'.heap[c]?=some o)
  (hsize:w.heap.size≤w'.heap.size):Rel { B with hp:=fun b=>w'.heap[b]?,io:=a1R w' } Γ N tm w' σ:=by
 have hm:=c5Y hcells σ.ov;have hsh:∀c,Shr B w σ c→Shr { B with hp:=fun b=>w'.heap[b]?,io:=a1R w' } w' σ c:=fun c hc=>⟨a09 hc.1 hsize,hc.2⟩;have hav:∀a v,a0j (a0a w σ.ov) σ.g Γ.rt (Shr B w σ) a v→a0j (a0a w' σ.ov) σ.g Γ.rt (Shr { B with hp:=fun b=>w'.heap[b]?,io:=a1R w' } w' σ) a v:=fun a v ha=>by
  cases a with
  |val t x=>
   obtain⟨h1,h2,R,h3,h4⟩:=ha;exact⟨h1,h2,R,a9n hm t (fun _ _ hv=>hv) h3,fun c hc=>hsh c (h4 c hc)⟩
  |vptr t x=>
   obtain⟨b,o,R,h1,h2,h3,h4⟩:=ha;exact⟨b,o,R,h1,a9n hm t (Src.rd_grow hm _) h2,hsh b h3,fun c hc=>hsh c (h4 c hc)⟩
  |ptr n p=>
   obtain⟨r,t,b,o,h1,h2,h3⟩:=ha;exact⟨r,t,b,o,h1,a9o hm p _ _ h2,h3⟩
  |sref n p=>
   obtain⟨r,e,s,h1,h2,h3⟩:=ha;exact⟨r,e,s,h1,a9o hm p _ _ h2,Src.rd_grow hm s _ _ h3⟩
  |swin n p off len=>
   obtain⟨r,e,s,a,l,c,h1,h2,h3,h4⟩:=ha;exact⟨r,e,s,a,l,c,h1,a9o hm p _ _ h2,Src.rd_grow hm s _ _ h3,h4⟩
  |_=>exact ha
 refine⟨fun n r hr=>?_,h.norm,h.nodup,h.disj,fun n p hp=>?_,fun i hi=>?_,?_,a26 h.size hsize,fun b _ _=>rfl,h.mine,h.pins,rfl⟩;obtain⟨O',R,g1,g2,g3⟩:=(h.roots n r hr).rd;exact⟨O',R,a9n hm _ (Src.rd_grow hm _) g1,fun c hc=>hsh c (g2 c hc),g3⟩;obtain⟨c,e,lo,hi,h1,h2,h3⟩:=h.live n p hp;exact⟨c,e,lo,hi,hcells _ _ h1 rfl,h2,h3⟩
 ·have hs:=h.slots i hi
  revert hs
  cases Γ.sl i with
  |one a=>exact fun hs=>hav a _ hs
  |cmp c as=>
   rintro⟨vs,h1,h2⟩
   exact⟨vs,h1,fun k a hk=>by
    obtain⟨u,hu,ha⟩:=h2 k a hk;exact⟨u,hu,hav a u ha⟩⟩
 exact h.pend.mono fun n p d r e b o hpd hr hl=>⟨r,hr,a9o hm p _ _ hl⟩
theorem Rel.turned{B:Base}{Γ:AE}{N:Nat}{tm:Nat→Value}{w w':World}{σ:Gh}(h:Rel B Γ N tm w σ)(ht:Turns B w w'):Rel B Γ N tm w' σ:=by
 have h1:=h.turnedG ht.cells ht.size;exact⟨h1.roots,h1.norm,h1.nodup,h1.disj,h1.live,h1.slots,h1.pend,h1.size,fun b hb hF=>(ht.frame b hb).trans (h.frame b hb hF),h1.mine,h1.pins,ht.io.trans h.still⟩
def Base.anew(B:Base)(w:World)(σ:Gh):Base where
 size:=w.heap.size
 hp:=fun b=>w.heap[b]?
 F:=a0N σ
 S:=fun c=>(B.S c∨B.F c∨B.size≤c)∧¬ a0N σ c
 pin:=fun i=>match B.pin i with
  |some b=>some b
  |none=>some (σ.g (pinned+i))
 io:=a1R w
theorem d4K{B:Base}{w:World}{σ:Gh}{c:Nat}:Shr (B.anew w σ) w σ c↔Shr B w σ c:=by
 constructor
 rintro⟨h1,h2,h3⟩
 refine⟨h1,?_,h3⟩;rcases h2 with h2|h2|h2;exact h2.1;exact absurd h2 h3;have h2:w.heap.size≤c:=h2;omega
 rintro⟨h1,h2,h3⟩
 exact⟨h1,.inl ⟨h2,h3⟩,h3⟩
theorem Rel.anew{B:Base}{Γ:AE}{N:Nat}{tm:Nat→Value}{w:World}{σ:Gh}(h:Rel B Γ N tm w σ):Rel (B.anew w σ) Γ N tm w σ:=by
 have e:Shr (B.anew w σ) w σ=Shr B w σ:=funext fun c=>propext d4K;refine⟨fun n r hr=>by rw[e];exact h.roots n r hr,h.norm,h.nodup,h.disj,h.live,fun i hi=>by rw[e];exact h.slots i hi,h.pend,a34 _,fun b _ _=>rfl,fun c hc=>.inl hc,fun i b hb hne=>?_,rfl⟩;simp only[Base.anew]at hb
 split at hb
 rename_i b' hb';cases hb;exact h.pins i b hb' hne;cases hb;rfl
theorem c7Y{B:Base}{Γ0:AE}{N0:Nat}{tm0:Nat→Value}{w w':World}{σ σ':Gh}(h0:Rel B Γ0 N0 tm0 w σ){f:Nat→Option Src}{c:Nat}(hc:Shr { B.anew w σ with pin:=f } w' σ' c):Shr B w' σ' c:=by
 obtain⟨h1,h2,h3⟩:=hc;refine⟨h1,?_,h3⟩;rcases h2 with h2|h2|h2;exact h2.1;exact .inr (h0.mine c h2);have h2:w.heap.size≤c:=h2;exact .inr (.inr (a26 h0.size h2))
theorem Rel.backP{B:Base}{Γ0 Γ:AE}{N0 N:Nat}{tm0 tm:Nat→Value}{w w':World}{σ σ':Gh}{f:Nat→Option Src}(hf:∀i b,B.pin i=some b→f i=some b)(h0:Rel B Γ0 N0 tm0 w σ)(h:Rel { B.anew w σ with pin:=f } Γ N tm w' σ'):Rel B Γ N tm w' σ':=by
 have hsh:∀c,Shr { B.anew w σ with pin:=f } w' σ' c→Shr B w' σ' c:=fun c hc=>c7Y h0 hc;have hav:∀a v,a0j (a0a w' σ'.ov) σ'.g Γ.rt (Shr { B.anew w σ with pin:=f } w' σ') a v→a0j (a0a w' σ'.ov) σ'.g Γ.rt (Shr B w' σ') a v:=fun a v ha=>
  ha.frame (fun _ _ _=>rfl) hsh fun n p r t s _ hr hl=>⟨r,hr,hl,fun _ _ hu=>hu⟩
 refine⟨fun n r hr=>?_,h.norm,h.nodup,h.disj,h.live,fun i hi=>?_,h.pend,a26 h0.size h.size,fun b hb hF=>?_,fun c hc=>?_,fun i b hb hne=>h.pins i b (hf i b hb) hne,h.still.trans h0.still⟩;obtain⟨O',R,g1,g2,g3⟩:=(h.roots n r hr).rd;exact⟨O',R,g1,fun c hc=>hsh c (g2 c hc),g3⟩
 ·have hs:=h.slots i hi
  revert hs
  cases Γ.sl i with
  |one a=>exact fun hs=>hav a _ hs
  |cmp c as=>
   rintro⟨vs,h1,h2⟩
   exact⟨vs,h1,fun k a hk=>by
    obtain⟨u,hu,ha⟩:=h2 k a hk;exact⟨u,hu,hav a u ha⟩⟩
 have hlt:b<w.heap.size:=a09 hb h0.size;have hno:¬ a0N σ b:=fun ho=>by
  rcases h0.mine b ho with g|g;exact hF g;omega
 exact(h.frame b hlt hno).trans (h0.frame b hb hF);rcases h.mine c hc with g|g;exact h0.mine c g;have g:w.heap.size≤c:=g;exact .inr (a26 h0.size g)
theorem Rel.back{B:Base}{Γ0 Γ:AE}{N0 N:Nat}{tm0 tm:Nat→Value}{w w':World}{σ σ':Gh}(h0:Rel B Γ0 N0 tm0 w σ)(h:Rel (B.anew w σ) Γ N tm w' σ'):Rel B Γ N tm w' σ':=
 h0.backP (f:=(B.anew w σ).pin) (fun i b hb=>by simp only[Base.anew,hb]) h
theorem Rel.unpin{B:Base}{Γ:AE}{N:Nat}{tm:Nat→Value}{w:World}{σ:Gh}(h:Rel B Γ N tm w σ)(f:Nat→Option Src)(hf:∀i b,f i=some b→B.pin i=some b):Rel { B with pin:=f } Γ N tm w σ:=
 ⟨h.roots,h.norm,h.nodup,h.disj,h.live,h.slots,h.pend,h.size,h.frame,h.mine,fun i b hb hne=>h.pins i b (hf i b hb) hne,h.still⟩
def AE.renAll{ρ:Type}(Γ:AE):List Nat→(AE→Rs ρ)→Rs ρ
 | [],K=>K Γ
 |n::ns,K=>match Γ.look n,Γ.rt (pinned+1000+n)with
  |some r,none=>AE.renAll (((Γ.mapv (AV.ren n (pinned+1000+n))).setRt n none).setRt (pinned+1000+n) (some r)) ns K
  |_,_=>none
theorem Rel.renAll{ρ:Type}{B:Base}{N:Nat}{tm:Nat→Value}{w:World}(hB:∀i b,1000≤i→B.pin i≠some b):∀(ns:List Nat){Γ:AE}{σ:Gh}{K:AE→Rs ρ}{z:ρ}(_:Rel B Γ N tm w σ)(_:Γ.renAll ns K=some z),∃Γ' σ',K Γ'=some z∧Rel B Γ' N tm w σ'
 | [],Γ,σ,K,z,h,hz=>⟨Γ,σ,hz,h⟩
 |n::ns,Γ,σ,K,z,h,hz=>by
  simp only[AE.renAll]at hz
  split at hz
  rename_i r h1 h2;obtain⟨hpd,hr⟩:=a0M h1;exact Rel.renAll hB ns (h.rename hr h2 (fun i b e=>hB i b (by omega)) (by simp[hpd])) hz;cases hz
def a1e:a0e→Bool
 | []=>true
 |.sv _ _::r=>a1e r
 |.box n _::r=>(decide (pinned≤n)&&!(a0e.names r).contains n)&&a1e r
 |.own _ n _::r=>(decide (pinned≤n)&&!(a0e.names r).contains n)&&a1e r
 |.ptr _ n []::r=>decide (pinned≤n)&&a1e r
 |_=>false
def c7Z:SV→Prop
 |.one .dead=>True
 |.one (.val _ _)=>True
 |.one (.ptr n [])|.one (.sref n [])=>pinned≤n
 |_=>False
theorem b5k:∀(es:a0e)(x:es.ty.den)(_:a1e es=true)(i:Nat),c7Z ((es.enc x).sl i)
 | [],_,_,i=>trivial
 |.sv k t::r,x,h,i=>by
  simp only[a0e.enc,a2n];split;trivial;exact b5k r x.2 (by simpa[a1e]using h) i
 |.box n t::r,x,h,i=>by
  simp only[a1e,bA]at h;exact b5k r x.2 h.2 i
 |.own k n e::r,x,h,i=>by
  simp only[a1e,bA,dT]at h;show c7Z ((((a0e.enc r x.2).setRt n (some ⟨false,.list true e,x.1⟩)).set k (.sref n [])).sl i);rw[a2n];split;exact h.1.1;exact b5k r x.2 h.2 i
 |.ptr k n p::r,x,h,i=>by
  cases p with
  |cons=>simp[a1e]at h
  |nil=>
   simp only[a1e,bA,dT]at h;simp only[a0e.enc,a2n];split;exact h.1;exact b5k r x h.2 i
 |.vp _ _::_,_,h,_|.ref _ _ _::_,_,h,_|.rfi _ _::_,_,h,_|.win _ _ _::_,_,h,_|.clo _ _ _::_,_,h,_=>by simp[a1e]at h
theorem a5n:∀(es:a0e)(x:es.ty.den),(es.enc x).pd=none
 | [],_=>rfl
 |.sv _ _::r,x=>a5n r x.2
 |.box _ _::r,x=>a5n r x.2
 |.ptr _ _ _::r,x=>a5n r x
 |.own _ _ _::r,x=>a5n r x.2
 |.vp _ _::r,x=>a5n r x.2
 |.ref _ _ _::r,x=>a5n r x
 |.rfi _ _::r,x=>a5n r x.2
 |.win _ _ _::r,x=>a5n r x.2.2
 |.clo _ _ _::r,x=>a5n r x
theorem b7M:∀(es:a0e)(x:es.ty.den)(_:a1e es=true)(n:Nat),(es.enc x).rt n≠none→n∈es.names
 | [],_,_,n,h=>absurd rfl h
 |.sv k t::r,x,h,n,hn=>b7M r x.2 (by simpa[a1e]using h) n hn
 |.box m t::r,x,h,n,hn=>by
  simp only[a1e,bA]at h;simp only[a0e.enc,b2L]at hn
  split at hn
  rename_i e;subst e;simp[a0e.names];simp only[a0e.names,mC];exact .inr (b7M r x.2 h.2 n hn)
 |.own k m e::r,x,h,n,hn=>by
  simp only[a1e,bA]at h;have hn:((a0e.enc r x.2).setRt m (some ⟨false,.list true e,x.1⟩)).rt n≠none:=hn;rw[b2L]at hn
  split at hn
  rename_i e;subst e;simp[a0e.names];simp only[a0e.names,mC];exact .inr (b7M r x.2 h.2 n hn)
 |.ptr k m p::r,x,h,n,hn=>by
  cases p with
  |cons=>simp[a1e]at h
  |nil=>
   simp only[a1e,bA,dT]at h;exact b7M r x h.2 n hn
 |.vp _ _::_,_,h,_,_|.ref _ _ _::_,_,h,_,_|.rfi _ _::_,_,h,_,_|.win _ _ _::_,_,h,_,_|.clo _ _ _::_,_,h,_,_=>by simp[a1e]at h
theorem b2N:∀(es:a0e)(x:es.ty.den)(_:a1e es=true){i n:Nat}(_:(es.enc x).sl i=.one (.sref n [])),n∈es.names∧∃e l,(es.enc x).rt n=some ⟨false,.list true e,l⟩
 | [],_,_,i,n,h=>by cases h
 |.sv k t::r,x,h,i,n,hs=>by
  have hs:((a0e.enc r x.2).set k (.val t x.1)).sl i=.one (.sref n []):=hs;rw[a2n]at hs
  split at hs
  cases hs;exact b2N r x.2 (by simpa[a1e]using h) hs
 |.box m t::r,x,h,i,n,hs=>by
  simp only[a1e,bA,a18,a74,decide_eq_false_iff_not]at h;obtain⟨h1,e,l,h2⟩:=b2N r x.2 h.2 (i:=i) (n:=n) hs;refine⟨by simp[a0e.names,h1],e,l,?_⟩;show((a0e.enc r x.2).setRt m _).rt n=_;rw[b2L,if_neg (show ¬ n=m from fun g=>h.1.2 (g▸h1))];exact h2
 |.own k m e::r,x,h,i,n,hs=>by
  simp only[a1e,bA,a18,a74,decide_eq_false_iff_not]at h;have hs:(((a0e.enc r x.2).setRt m (some ⟨false,.list true e,x.1⟩)).set k (.sref m [])).sl i=.one (.sref n []):=hs;show n∈_∧∃e' l,((a0e.enc r x.2).setRt m (some ⟨false,.list true e,x.1⟩)).rt n=some ⟨false,.list true e',l⟩;rw[a2n]at hs;rw[b2L]
  split at hs
  cases hs;exact⟨by simp[a0e.names],e,x.1,by rw[if_pos rfl]⟩;obtain⟨h1,e',l,h2⟩:=b2N r x.2 h.2 (i:=i) (n:=n) hs;exact⟨by simp[a0e.names,h1],e',l,by rw[if_neg (show ¬ n=m from fun g=>h.1.2 (g▸h1))];exact h2⟩
 |.ptr k m p::r,x,h,i,n,hs=>by
  cases p with
  |cons=>simp[a1e]at h
  |nil=>
   simp only[a1e,bA]at h;have hs:((a0e.enc r x).set k (.ptr m [])).sl i=.one (.sref n []):=hs;rw[a2n]at hs
   split at hs
   cases hs;exact b2N r x h.2 hs
 |.vp _ _::_,_,h,_,_,_|.ref _ _ _::_,_,h,_,_,_|.rfi _ _::_,_,h,_,_,_|.win _ _ _::_,_,h,_,_,_|.clo _ _ _::_,_,h,_,_,_=>by simp[a1e]at h
section
variable {B:Base} {N:Nat} {w w':World} {σ σ':Gh} {Γ:AE}
theorem Rel.kept{tm':Nat→Value}{Γ':AE}(h:Rel (B.anew w σ) Γ' N tm' w' σ'){c:Nat}(hc:Shr B w σ c):w'.heap[c]?=w.heap[c]?∧Shr (B.anew w σ) w' σ' c:=by
 have hlt:c<(B.anew w σ).size:=hc.1;have hno:¬ (B.anew w σ).F c:=hc.2.2;refine⟨h.frame c hlt hno,a09 hc.1 h.size,.inl hc.2,fun ho=>?_⟩;rcases h.mine c ho with g|g;exact hno g;omega
theorem VOk.kept{tm':Nat→Value}{Γ':AE}(h:Rel (B.anew w σ) Γ' N tm' w' σ')(hov:σ.ov=none)(hov':σ'.ov=none){t:Ty}{x:t.den}{v:Value}(hv:VOk (a0a w σ.ov) (Shr B w σ) t x v):
  VOk (a0a w' σ'.ov) (Shr (B.anew w σ) w' σ') t x v:=
 hv.frame (fun c j hc=>by rw[hov,hov'];exact a1i none (h.kept hc).1 j) fun c hc=>(h.kept hc).2
theorem Rel.again{tm tm':Nat→Value}{Γ':AE}(h0:Rel B Γ N tm w σ)(hfl:∀i,i<N→c7Z (Γ.sl i))(hpd:Γ.pd=none)(h:Rel (B.anew w σ) Γ' N tm' w' σ')(hpd':Γ'.pd=none)
  (hn:∀i n,i<N→Γ.sl i=.one (.ptr n [])∨Γ.sl i=.one (.sref n [])→Γ'.rt n≠none)(ho:∀i n,i<N→Γ.sl i=.one (.sref n [])→∃u,σ.g n=.one u):Rel (B.anew w σ) { Γ' with sl:=Γ.sl } N tm w' σ'∧∀i n,i<N→Γ.sl i=.one (.sref n [])→∃u,σ'.g n=.one u:=by
 have hov:=h0.ov_none hpd;have hov':=h.ov_none hpd';have hpin:∀n,pinned≤n→Γ.rt n≠none→Γ'.rt n≠none→σ'.g n=σ.g n:=fun n hf h1 h2=>by
  obtain⟨i,rfl⟩:∃i,n=pinned+i:=⟨n-pinned,by omega⟩;refine h.pins i _ ?_ h2;simp only[Base.anew];cases hp:B.pin i with
  |none=>rfl
  |some b'=>rw[h0.pins i b' hp h1]
 refine⟨⟨h.roots,h.norm,h.nodup,h.disj,h.live,fun i hi=>?_,h.pend,h.size,h.frame,h.mine,h.pins,h.still⟩,fun i n hi hs=>?_⟩;rotate_left;have hf:=hfl i hi;have hk:=h0.slots i hi;rw[hs]at hf hk;obtain⟨r,e,s,h1,-⟩:=hk;rw[hpin n hf (by rw[h1];simp) (hn i n hi (.inr hs))];exact ho i n hi hs;have hs:=h0.slots i hi;have hf:=hfl i hi;have hn:=hn i;have ho:=ho i;show b1d _ _ Γ'.rt _ (Γ.sl i) _
 revert hs hf hn ho
 cases Γ.sl i with
 |cmp c vs=>intro _ hf;exact hf.elim
 |one a=>
  cases a with
  |dead=>intro _ _ _ _;trivial
  |val t x=>intro hs _ _ _;exact VOk.kept h hov hov' hs
  |ptr n p=>
   cases p with
   |cons=>intro _ hf;exact hf.elim
   |nil=>
    intro hs hf hn _;obtain⟨r,t,b,o,h1,h2,h3⟩:=hs;have hr':=hn n hi (.inl rfl);have hg:=hpin n hf (by rw[h1];simp) hr';obtain⟨r',hr'⟩:=a57.1 hr';simp only[loc,a0T,sj,pJ]at h2;refine⟨r',r'.t,b,o,hr',?_,h3⟩;show some (r'.t,σ'.g n)=_;rw[hg,h2.2]
  |sref n p=>
   cases p with
   |cons=>intro _ hf;exact hf.elim
   |nil=>
    intro hs hf hn ho;obtain⟨u0,hu0⟩:=ho n hi rfl;obtain⟨r,e0,s0,h1,h2,h3⟩:=hs;have hr':=hn n hi (.inr rfl);have hg:=hpin n hf (by rw[h1];simp) hr';simp only[loc,a0T,sj,pJ]at h2;rw[←h2.2,hu0]at h3;rw[hu0]at hg;obtain⟨r',hr'⟩:=a57.1 hr';rcases h.src_of hr' with⟨-,b,g⟩|⟨-,u,e,g,ht⟩;rw[hg]at g;cases g;refine⟨r',e,.one u0,hr',?_,h3⟩;show some (r'.t,σ'.g n)=_;rw[hg,ht]
  |_=>intro _ hf;exact hf.elim
end
def d3q{ρ:Type}(s:a0e)(x:s.ty.den)(Γ:AE)(K:s.ty.den→Rs ρ):Rs ρ:=match Γ.pd with
 |none=>bif s.names.all (fun n=>(Γ.rt n).isSome)then s.dcd { Γ with sl:=(s.enc x).sl } K else none
 |some _=>none
def a6i{α S R:Type}(f:Int→α→S→Option (S ⊕ R))(l:List α):Nat→S→Option (S ⊕ R)
 |0,s=>some (.inl s)
 |n+1,s=>match l[n]? with
  |none=>none
  |some v=>match f n v s with
   |none=>none
   |some (.inl s')=>a6i f l n s'
   |some (.inr r)=>some (.inr r)
def rnd(cx:Cx)(H:Hints)(p:Nat)(s:a0e)(i1 i2:Nat)(assign body:Code)(e:Ty)(k:Int)(v:e.den)(x:s.ty.den):Option (s.ty.den ⊕ (Ex×s.ty.den)):=
 a1E cx H assign (2*p) (((s.enc x).set i1 (.val (.int .i64) k)).set i2 (.val e v)) fun ex Γ=>match ex with
  |.normal=>match Γ.pd with
   |none=>bif s.names.all (fun n=>(Γ.rt n).isSome)then
     a1E cx H body (2*p+1) Γ fun ex Γ'=>d3q s x Γ' fun x'=>match ex with
      |.normal=>some (.inl x')
      |ex=>some (.inr (ex,x'))
    else none
   |some _=>none
  |_=>none
structure HintR where
 t:Nat
 e:Ty
 mkr:Nat
 it:Nat
 ns:List Nat
 s:a0e
structure RParts where
 ops:Array Oper
 b:Nat
 g:Nat
 i1:Nat
 i2:Nat
 assign:Code
 body:Code
def b7N:Code→Code→Option RParts
 |.region _ ops false,.block b (.rangeFunc (.tmp g) ps assign body)=>match ps.toList with
  | [i1,i2]=>some ⟨ops,b,g,i1,i2,assign,body⟩
  |_=>none
 |_,_=>none
def c4V(o:Oper)(r:HintR)(g:Nat):Bool:=match o.op with
 |.call c=>(match c.callee,c.args.toList with
  |.value (.func f),[.tmp t]=>f==r.mkr&&t==r.t&&(o.dst==some g)&&o.guard.isNone
  |_,_=>false)
 |_=>false
def d1p{t e:Ty}(h:t=.list false e)(l:t.den):List e.den:=(h▸l:(Ty.list false e).den)
def c8a{ρ:Type}(cx:Cx)(H:Hints)(r:HintR)(q:RParts)(p:Nat)(Γ:AE)(K:Ex→AE→Rs ρ):Rs ρ:=
 match q.ops.toList with
 | [mv,cl]=>bif c4V cl r q.g&&(a1e r.s&&mv.guard.isNone)then
   aop cx false mv Γ fun Γ1=>match Γ1.pd with
    |some _=>none
    |none=>(Γ1.set q.g .dead).renAll r.ns fun Γ2=>r.s.dcd Γ2 fun x=>match (r.s.enc x).get r.t with
     |.val t l=>if h:t=.list false r.e then
       (bif lim (a24 (d1p h l))then(a6i (rnd cx H (2*p+1) r.s q.i1 q.i2 q.assign q.body r.e) (d1p h l) (a24 (d1p h l)) x).bind fun y=>match y with
        |.inl x'=>K .normal (r.s.enc x')
        |.inr (.normal,x')=>K .normal (r.s.enc x')
        |.inr (.exit i,x')=>bif i==q.b then K .normal (r.s.enc x')else K (.exit i) (r.s.enc x')
        |.inr (.ret,x')=>K .ret (r.s.enc x')
       else none)
      else none
     |_=>none
  else none
 |_=>none
def a9p:Code→Bool
 |.seq a b=>a9p a || a9p b
 |.cond _ a b=>a9p a || a9p b
 |.block _ c|.loop c=>a9p c
 |.rangeFunc _ _ _ _=>true
 |_=>false
def b7O(cx:Cx)(H:Hints)(r:HintR):Code→Nat→{ρ:Type}→AE→(Ex→AE→Rs ρ)→Rs ρ
 |.seq a b,p,_,Γ,K=>match b7N a b with
  |some q=>c8a cx H r q p Γ K
  |none=>bif a9p a then b7O cx H r a (2*p) Γ fun e Γ'=>match e with
    |.normal=>a1E cx H b (2*p+1) Γ' K
    |e=>K e Γ'
   else a1E cx H a (2*p) Γ fun e Γ'=>match e with
    |.normal=>b7O cx H r b (2*p+1) Γ' K
    |e=>K e Γ'
 |c,p,_,Γ,K=>a1E cx H c p Γ K
def c7m(cx:Cx)(H:Hints)(r:HintR)(fn:Func)(ps:List PA)(rs:List RA)(x:(a1S (ps.map PA.ty)).den):Option (a1S ((RA.all ps rs).map RA.ty)).den:=
 match fn.body with
 |none=>none
 |some body=>b7O cx H r body 1 (ini ps x) fun e Γ=>match e,Γ.pd with
  |.exit _,_=>none
  |_,some _=>none
  |_,none=>(Γ.upto fn.ntmps).outs cx [] fn.ntmps (RA.all ps rs) (fn.results.toList.map .inl++(a0D ps 0).map fun i=>.inr (b1G ps i)) fun y _=>some y
section
variable {P:Program} {B:Base} {N:Nat} {cx:Cx} {H:Hints} {w w':World} {σ σ':Gh} {Γ Γ':AE} {tm tm':Nat→Value}
theorem GOk.anew{G:b8C}(hG:GOk G B)(h:Rel B Γ N tm w σ):GOk G (B.anew w σ):=by
 intro g t x hg;obtain⟨h1,h2,h3,w0,h4,h5⟩:=hG g t x hg;have hno:¬ a0N σ g:=fun ho=>by
  rcases h.mine _ ho with q|q;exact h3 q;omega
 exact⟨a09 h1 h.size,⟨.inl h2,hno⟩,hno,w0,h4.trans (h.frame g h1 h3).symm,h5⟩
theorem VOk.uniq{m:Mem}{Sh Sh':Nat→Prop}{t:Ty}{x y:t.den}{v:Value}(h:VOk m Sh t x v)(h':VOk m Sh' t y v):x=y:=by
 obtain⟨-,-,R,h1,-⟩:=h;obtain⟨-,-,R',h2,-⟩:=h';rw[h1]at h2;simp only[sj,pJ]at h2;exact h2.1
theorem VOk.run(h0:Rel B Γ N tm w σ)(h:Rel (B.anew w σ) Γ' N tm' w' σ')(hov:σ.ov=none)(hov':σ'.ov=none){t:Ty}{x:t.den}{v:Value}(hv:VOk (a0a w σ.ov) (Shr B w σ) t x v):
  VOk (a0a w' σ'.ov) (Shr B w' σ') t x v:=
 (VOk.kept h hov hov' hv).frame (fun _ _ _=>rfl) fun _ hc=>c7Y h0 (f:=(B.anew w σ).pin) hc
theorem VOk.turned{ov:Option (Nat×Nat×Value)}(hcells:∀(c:Nat)(o:Obj),w.heap[c]?=some o→o.isCells=true→w'.heap[c]?=some o)(hsize:w.heap.size≤w'.heap.size){t:Ty}{x:t.den}{v:Value}
  (hv:VOk (a0a w ov) (Shr B w σ) t x v):VOk (a0a w' ov) (Shr B w' σ) t x v:=by
 obtain⟨h1,h2,R,h3,h4⟩:=hv;exact⟨h1,h2,R,a9n (c5Y hcells ov) t (fun _ _ hv=>hv) h3,fun c hc=>⟨a09 (h4 c hc).1 hsize,(h4 c hc).2⟩⟩
theorem b1R{W:World}{l:Nat}{o:Obj}(hl:W.heap[l]?=some o)(ho:o.isCells=false)(hB:B.size≤l)(o':Obj):Turns B W (W.putObj l o'):=by
 refine⟨fun c oc hc hcc=>?_,(grownBy_putObj' W l o').size,fun b hb=>World.putObj_heap_other (by omega),rfl⟩
 have:c≠l:=by
  rintro rfl
  rw[hl]at hc;cases hc;rw[ho]at hcc;cases hcc
 exact(World.putObj_heap_other this).trans hc
theorem b7i{W:World}(hB:B.size≤W.heap.size)(o:Obj):Turns B W (W.alloc o):=
 ⟨fun c oc hc _=>(RowKit.Below.heap_alloc W _ c (a22.1 hc).1).trans hc,by simp,fun b hb=>RowKit.Below.heap_alloc W _ b (by omega),rfl⟩
theorem d3r(h:Rel B Γ N tm w σ){l:Nat}{o:Obj}(hl:w.heap[l]?=some o)(ho:o.isCells=false):¬ a0N σ l:=by
 rintro⟨n,hn⟩
 obtain⟨p,hp,rfl⟩:=a19.1 hn;obtain⟨c,e,lo,hi,h1,-⟩:=h.live n p hp;rw[hl]at h1;cases h1;cases ho
theorem Rel.others(h0:Rel B Γ N tm w σ)(h:Rel (B.anew w σ) Γ' N tm' w' σ'){l:Nat}{o:Obj}(hl:w.heap[l]?=some o)(ho:o.isCells=false):w'.heap[l]?=some o:=
 (h.frame l (a22.1 hl).1 (d3r h0 hl ho)).trans hl
theorem c4W(Γ:AE)(i j:Nat)(v:AV):(Γ.set i v).get j=if j=i then v else Γ.get j:=by
 simp only[AE.get,a2n]
 by_cases e:j=i<;>simp[e]
theorem b5G:∀(es:a0e)(x x':es.ty.den){i:Nat}{T:Ty}{y:T.den}(_:a1e es=true)(_:(es.enc x).get i=.val T y),∃y':T.den,(es.enc x').get i=.val T y'
 | [],_,_,_,_,_,_,h=>by simp[a0e.enc,AE.nothing,AE.get]at h
 |.sv k t::r,x,x',i,T,y,hf,h=>by
  have h:((a0e.enc r x.2).set k (.val t x.1)).get i=.val T y:=h;show ∃y':T.den,((a0e.enc r x'.2).set k (.val t x'.1)).get i=.val T y';rw[c4W]at h⊢
  by_cases e:i=k
  rw[if_pos e]at h⊢;cases h;exact⟨x'.1,rfl⟩;rw[if_neg e]at h⊢;exact b5G r x.2 x'.2 (by simpa[a1e]using hf) h
 |.box n t::r,x,x',i,T,y,hf,h=>by
  simp only[a1e,bA]at hf;exact b5G r x.2 x'.2 hf.2 h
 |.ptr k n p::r,x,x',i,T,y,hf,h=>by
  cases p with
  |cons=>simp[a1e]at hf
  |nil=>
   simp only[a1e,bA]at hf;have h:((a0e.enc r x).set k (.ptr n [])).get i=.val T y:=h;show ∃y':T.den,((a0e.enc r x').set k (.ptr n [])).get i=.val T y';rw[c4W]at h⊢
   by_cases e:i=k
   rw[if_pos e]at h;cases h;rw[if_neg e]at h⊢;exact b5G r x x' hf.2 h
 |.own k m e::r,x,x',i,T,y,hf,h=>by
  simp only[a1e,bA]at hf;have h:(((a0e.enc r x.2).setRt m (some ⟨false,.list true e,x.1⟩)).set k (.sref m [])).get i=.val T y:=h;show ∃y':T.den,(((a0e.enc r x'.2).setRt m (some ⟨false,.list true e,x'.1⟩)).set k (.sref m [])).get i=.val T y';rw[c4W]at h⊢
  by_cases e:i=k
  rw[if_pos e]at h;cases h;rw[if_neg e]at h⊢;exact b5G r x.2 x'.2 hf.2 h
 |.rfi _ _::_,_,_,_,_,_,h,_=>by simp[a1e]at h
 |.vp _ _::_,_,_,_,_,_,h,_=>by simp[a1e]at h
 |.ref _ _ _::_,_,_,_,_,_,h,_=>by simp[a1e]at h
 |.win _ _ _::_,_,_,_,_,_,h,_=>by simp[a1e]at h
 |.clo _ _ _::_,_,_,_,_,_,h,_=>by simp[a1e]at h
def c3B:Ex→Option Code
 |.normal=>none
 |.exit i=>some (.exit i)
 |.ret=>some .ret
def a3V(st:LoopState)(pe:Option Code)(fn:FuncId)(tmps:Array Value)(i1 i2:Nat)(assign body:Code)(D:Nat):Loop:=
 { state:=st,pending:=pe,fn,tmps,params:=#[i1,i2],assign,body,defers:=D }
structure Between (B:Base) (N:Nat) (a:Act) (s:a0e) (t:Nat) (te:Ty) (l0:te.den) (l D:Nat) (r:Loop) (x:s.ty.den) (W:World):Prop where
 rel:∃σ,Rel B (s.enc x) N (a0n a) W σ
 seq:(s.enc x).get t=.val te l0
 loop:W.heap[l]?=some (.loop r)
 dfr:W.heap[D]?=some (.deferred (some []))
theorem c5Z(hcx:CxOk P cx)(hG:GOk cx.G B)(hm:P.follows .mixedOrders=true)(hH:H.fits N=true){s:a0e}{i1 i2 p:Nat}{assign body:Code}(hfa:a2f N assign=true)(hfb:a2f N body=true)
  (hs:s.fits N=true)(hfl:a1e s=true)(hi1:i1<N)(hi2:i2<N){a:Act}(hN:a.tmps.size=N){fn:FuncId}{e te:Ty}{k:Int}{v:e.den}{ve:Value}{l0:te.den}{t l D:Nat}(ht:t<N){x:s.ty.den}{W:World}
  (hb:Between B N a s t te l0 l D (a3V .ready none fn a.tmps i1 i2 assign body D) x W)(hv:∀Sh,VOk (cells W) Sh te l0 (a0n a t)→VOk (cells W) Sh e v ve)(hlB:B.size≤l)(hDl:D≠l){y:s.ty.den ⊕ (Ex×s.ty.den)}
  (hy:rnd cx H p s i1 i2 assign body e k v x=some y):
  RoundIn (Fr none) 0 P l fn ((a.tmps.setIfInBounds i1 (.int .i64 k)).setIfInBounds i2 ve) assign body W fun en W'=>
   (∃x',y=.inl x'∧en=.returned (.bool true)∧Between B N a s t te l0 l D (a3V .ready none fn a.tmps i1 i2 assign body D) x' W')∨
   (∃ex c x',y=.inr (ex,x')∧c3B ex=some c∧en=.returned (.bool false)∧Between B N a s t te l0 l D (a3V .done (some c) fn a.tmps i1 i2 assign body D) x' W'):=by
 obtain⟨⟨σ,h⟩,hseq,hl,hD⟩:=hb;have hov:=h.ov_none (a5n s x);have hsl:VOk (a0a W σ.ov) (Shr B W σ) te l0 (a0n a t):=by
  have:=a3y h ht
  rw[hseq]at this;exact this
 have hve:VOk (a0a W σ.ov) (Shr B W σ) e v ve:=by
  rw[hov]at hsl⊢;exact hv _ hsl
 let a1:Act:={ tmps:=(a.tmps.setIfInBounds i1 (.int .i64 k)).setIfInBounds i2 ve,defers:=[] }
 have h1:Rel B (((s.enc x).set i1 (.val (.int .i64) k)).set i2 (.val e v)) N (a0n a1) W σ:=by
  have g1:Rel B ((s.enc x).set i1 (.val (.int .i64) k)) N (a0n (a.put (some i1) (.int .i64 k))) W σ:=h.putd hN fun _=>a0j.mk_int (g:=σ.g) (rt:=(s.enc x).rt) _;have g2:Rel B (((s.enc x).set i1 (.val (.int .i64) k)).set i2 (.val e v)) N (a0n ((a.put (some i1) (.int .i64 k)).put (some i2) ve)) W σ:=g1.putd (by rw[b5u];exact hN) fun _=>hve;exact g2
 have hN1:a1.tmps.size=N:=by simp[a1,hN]
 have hptr:∀(Γ2:AE),(s.names.all fun n=>(Γ2.rt n).isSome)=true→∀i n,i<N→(s.enc x).sl i=.one (.ptr n [])∨(s.enc x).sl i=.one (.sref n [])→Γ2.rt n≠none:=by
  intro Γ2 hall i n hi hsl;have hm:n∈s.names:=by
   rcases hsl with hsl|hsl
   have:=h.slots i hi
   rw[hsl]at this;obtain⟨r,-,-,-,hr,-⟩:=this;exact b7M s x hfl n (by rw[hr];simp);exact(b2N s x hfl hsl).1
  have:=lA.1 hall n hm
  intro hc;rw[hc]at this;cases this
 have hown:∀i n,i<N→(s.enc x).sl i=.one (.sref n [])→∃u,σ.g n=.one u:=fun i n _ hsl=>by
  obtain⟨-,e,l,h2⟩:=b2N s x hfl hsl;rcases h.src_of h2 with⟨g,-⟩|⟨-,u,_,g,-⟩;cases g;exact⟨u,g⟩
 unfold rnd at hy;refine roundIn_of_wpIn trivial (wpIn_mono (b0v (ro:=some l) (D:=[]) hcx (hG.anew h1) hm hH assign _ hfa hy h1.anew hN1 rfl) ?_)
 rintro e2 a2 W2 ⟨ex,Γ2,σ2,rfl,hK,h2,hN2,hd2⟩
 cases ex with
 |exit i=>simp only[]at hK;cases hK
 |ret=>simp only[]at hK;cases hK
 |normal=>
  simp only[]at hK
  split at hK
  rotate_left;cases hK;rename_i hpd2;obtain⟨hall,hK⟩:=(a0i hK).elim id fun h=>by cases h.2
  have hov2:=h2.ov_none hpd2;obtain⟨k2,hown2⟩:Rel (B.anew W σ) { Γ2 with sl:=(s.enc x).sl } N (a0n a) W2 σ2∧_:=Rel.again h (fun i _=>b5k s x hfl i) (a5n s x) h2 hpd2 (hptr Γ2 hall) hown;have b2:=h1.back h2;have c2:=h.back k2;have v2:VOk (a0a W2 σ2.ov) (Shr B W2 σ2) te l0 (a0n a t):=VOk.run h h2 hov hov2 hsl;have hl2:=h1.others h2 hl rfl;have hD2:=h1.others h2 hD rfl;refine⟨_,run_beginRound hl2 rfl,?_⟩;have T3:Turns B W2 (W2.putObj l (.loop { a3V .ready none fn a.tmps i1 i2 assign body D with state:=.busy })):=b1R hl2 rfl hlB _
  revert T3
  have hl3:(W2.putObj l (.loop { a3V .ready none fn a.tmps i1 i2 assign body D with state:=.busy })).heap[l]?=some (.loop { a3V .ready none fn a.tmps i1 i2 assign body D with state:=.busy }):=World.putObj_heap_same (a22.1 hl2).1;have hD3:(W2.putObj l (.loop { a3V .ready none fn a.tmps i1 i2 assign body D with state:=.busy })).heap[D]?=some (.deferred (some [])):=(World.putObj_heap_other hDl).trans hD2
  revert hl3 hD3
  generalize W2.putObj l (.loop { a3V .ready none fn a.tmps i1 i2 assign body D with state:=.busy })=W3;intro hl3 hD3 T3;have b3:=b2.turned T3;have c3:=c2.turned T3;have v3:VOk (a0a W3 σ2.ov) (Shr B W3 σ2) te l0 (a0n a t):=VOk.turned T3.cells T3.size v2;refine wpIn_mono (b0v (ro:=some l) (D:=[]) hcx (hG.anew b3) hm hH body _ hfb hK b3.anew hN2 hd2) ?_
  rintro e4 a4 W4 ⟨ex,Γ4,σ4,rfl,hK4,h4,hN4,-⟩
  simp only[d3q]at hK4
  split at hK4
  rotate_left;cases hK4;rename_i hpd4;obtain⟨hall4,hK4⟩:=(a0i hK4).elim id fun h=>by cases h.2
  have hov4:=h4.ov_none hpd4;obtain⟨k4,-⟩:Rel (B.anew W3 σ2) { Γ4 with sl:=(s.enc x).sl } N (a0n a) W4 σ4∧_:=Rel.again (Γ:={ Γ2 with sl:=(s.enc x).sl }) c3 (fun i _=>b5k s x hfl i) hpd2 h4 hpd4 (hptr Γ4 hall4) hown2;have c4:=c3.back k4;have v4:VOk (a0a W4 σ4.ov) (Shr B W4 σ4) te l0 (a0n a t):=VOk.run b3 h4 hov2 hov4 v3;have hl4:=b3.others h4 hl3 rfl;have hD4:=b3.others h4 hD3 rfl;obtain⟨x',σ5,hK5,h5⟩:=c4.dcd hs hK4;have hov5:=h5.ov_none (a5n s x');have hseq':(s.enc x').get t=.val te l0:=by
   obtain⟨y',hy'⟩:=b5G s x x' hfl hseq
   have:=a3y h5 ht
   rw[hy']at this;have this:VOk (a0a W4 σ5.ov) (Shr B W4 σ5) te y' (a0n a t):=this;rw[hov5]at this;rw[hov4]at v4;rw[hy',VOk.uniq this v4]
  have fin:∀(jump:Option Code)(r':Loop),r'={ { a3V .ready none fn a.tmps i1 i2 assign body D with state:=.busy }with state:=if jump.isNone then .ready else .done,pending:=jump }→
    (Instr.endRound l jump).run P W4=.ok (.bool jump.isNone) (W4.putObj l (.loop r'))∧Between B N a s t te l0 l D r' x' (W4.putObj l (.loop r')):=by
   rintro jump r' rfl
   refine⟨run_endRound jump hl4,⟨⟨σ5,h5.turned (b1R hl4 rfl hlB _)⟩,hseq',World.putObj_heap_same (a22.1 hl4).1,(World.putObj_heap_other hDl).trans hD4⟩⟩
  cases ex with
  |normal=>
   simp only[sj]at hK5;obtain⟨g1,g2⟩:=fin none _ rfl;exact⟨_,_,g1,.inl ⟨x',hK5.symm,rfl,g2⟩⟩
  |exit i=>
   simp only[sj]at hK5;obtain⟨g1,g2⟩:=fin (some (.exit i)) _ rfl;exact⟨_,_,g1,.inr ⟨_,_,x',hK5.symm,rfl,rfl,g2⟩⟩
  |ret=>
   simp only[sj]at hK5;obtain⟨g1,g2⟩:=fin (some .ret) _ rfl;exact⟨_,_,g1,.inr ⟨_,_,x',hK5.symm,rfl,rfl,g2⟩⟩
def c3C(P:Program)(it:FuncId)(e:Ty):Prop:=
 (∀args w,(callFunc it args).run P w=.ok (.enter it args) w)∧
 ∀(l Bs:Nat)(sv:Value)(xs:List e.den)(J:Nat→World→Prop)(Jx:World→Prop)(W:World),xs.length<2147483648→
  (∀k W',J k W'→W'.cell? ⟨Bs,0,none⟩=some sv∧∃Sh,VOk (cells W') Sh (.list false e) xs sv)→
  (∀n (x:e.den) (v:Value) W',xs[n]?=some x→J (n+1) W'→(∀Sh,VOk (cells W') Sh (.list false e) xs sv→VOk (cells W') Sh e x v)→
   YieldAt (Fr none) 0 P l #[.int .i64 (n:Int),v] W' fun en W''=>(en=.returned (.bool true)∧J n W'')∨(en=.returned (.bool false)∧Jx W''))→
  J xs.length W→
  CallsIn (Fr none) 0 P it #[.func (.yield l) #[] #[],.pointer (some ⟨Bs,0,none⟩)] W fun en W'=>(∃v,en=.returned v)∧(J 0 W'∨Jx W')
def c8b(P:Program)(mk it:FuncId):Prop:=
 b1L P mk∧∀(A:Option Addr)(len cap:Nat)(w:World),Calls P mk #[.slice A len cap] w fun en w'=>en=.returned (.func (.func it) #[] #[.pointer (some ⟨w.heap.size,0,none⟩)])∧∃ty,w'=w.alloc (.cells #[.slice A len cap] ty)
def yOf{S:Type}:S ⊕ (Ex×S)→Ex×S
 |.inl x=>(.normal,x)
 |.inr q=>q
theorem c9G(hcx:CxOk P cx)(hG:GOk cx.G B)(hm:P.follows .mixedOrders=true)(hH:H.fits N=true){s:a0e}{i1 i2 p:Nat}{assign body:Code}(hfa:a2f N assign=true)(hfb:a2f N body=true)
  (hs:s.fits N=true)(hfl:a1e s=true)(hi1:i1<N)(hi2:i2<N){a:Act}(hN:a.tmps.size=N){e:Ty}{l0:List e.den}{t g Bs it:Nat}(ht:t<N){x:s.ty.den}
  (h:Rel B (s.enc x) N (a0n a) w σ)(hseq:(s.enc x).get t=.val (.list false e) l0)(hg:a.eval (.tmp g)=.func (.func it) #[] #[.pointer (some ⟨Bs,0,none⟩)])(hit:c3C P it e)(hlen:l0.length<2147483648)
  (hcell:w.cell? ⟨Bs,0,none⟩=some (a0n a t))(hBs:Bs<B.size)(hBF:¬ B.F Bs){y:s.ty.den ⊕ (Ex×s.ty.den)}(hy:a6i (rnd cx H p s i1 i2 assign body e) l0 l0.length x=some y)(hd:a.defers=[]):
  (Code.rangeFunc (.tmp g) #[i1,i2] assign body).wpIn (Fr none) 0 P (fun en a' w'=>∃D,en=c0r (yOf y).1∧a'.tmps.size=N∧a'.defers=[{ target:=.collected D,args:=#[] }]∧B.size≤D∧
   w'.heap[D]?=some (.deferred (some []))∧∃σ',Rel B (s.enc (yOf y).2) N (a0n a') w' σ') a w:=by
 refine wpIn_rangeFunc ?_
 intro fn _;obtain⟨D,hDe⟩:∃D,w.heap.size=D:=⟨_,rfl⟩;obtain⟨W1,hW1⟩:∃W1,(w.alloc (.deferred (some []))).alloc (.loop (a3V .ready none fn a.tmps i1 i2 assign body D))=W1:=⟨_,rfl⟩;have hsz:=h.size;have T1:Turns B w W1:=by
  rw[←hW1];have t1:=b7i (B:=B) hsz (.deferred (some []));have t2:=b7i (B:=B) (W:=w.alloc (.deferred (some []))) (by simp;omega) (.loop (a3V .ready none fn a.tmps i1 i2 assign body D));exact⟨fun c o hc ho=>t2.cells c o (t1.cells c o hc ho) ho,a26 t1.size t2.size,fun b hb=>(t2.frame b hb).trans (t1.frame b hb),t2.io.trans t1.io⟩
 have hL1:W1.heap[D+1]?=some (.loop (a3V .ready none fn a.tmps i1 i2 assign body D)):=by
  rw[←hW1,←hDe]
  have:=World.alloc_heap_new (w.alloc (.deferred (some []))) (.loop (a3V .ready none fn a.tmps i1 i2 assign body w.heap.size))
  rwa [World.size_alloc]at this
 have hK1:W1.heap[D]?=some (.deferred (some [])):=by
  rw[←hW1,←hDe];exact(RowKit.Below.heap_alloc _ _ _ (by simp)).trans (World.alloc_heap_new w _)
 have hB1:Between B N a s t (.list false e) l0 (D+1) D (a3V .ready none fn a.tmps i1 i2 assign body D) x W1:=⟨⟨σ,h.turned T1⟩,hseq,hL1,hK1⟩;have hBsAll:∀{Γ' tm' W' σ'},Rel B Γ' N tm' W' σ'→W'.cell? ⟨Bs,0,none⟩=some (a0n a t):=fun {Γ' tm' W' σ'} h'=>by
  have e1:=h'.frame Bs hBs hBF;have e2:=h.frame Bs hBs hBF;rw[←hcell];unfold World.cell?;rw[e1,e2]
 refine⟨D+1,[{ target:=.collected D,args:=#[] }],W1,{ target:=.fn (.func it) #[.pointer (some ⟨Bs,0,none⟩)],args:=#[.func (.yield (D+1)) #[] #[]] },W1,it,
  #[.func (.yield (D+1)) #[] #[],.pointer (some ⟨Bs,0,none⟩)],W1,?_,?_,fun _ _=>trivial,?_,fun h=>(by cases h),?_⟩
 rw[←hW1,←hDe];exact run_enterLoop_outer _ _ _ _ _;simp only[resolve,hg];simp[go_sem]
 have:=hit.1 (#[.func (.yield (D+1)) #[] #[]]++#[.pointer (some ⟨Bs,0,none⟩)]) W1
 simpa[invoke,go_sem]using this
 ·refine(hit.2 (D+1) Bs (a0n a t) l0
   (fun n W=>∃x',a6i (rnd cx H p s i1 i2 assign body e) l0 n x'=some y∧Between B N a s t (.list false e) l0 (D+1) D (a3V .ready none fn a.tmps i1 i2 assign body D) x' W)
   (fun W=>∃ex c x',y=.inr (ex,x')∧c3B ex=some c∧Between B N a s t (.list false e) l0 (D+1) D (a3V .done (some c) fn a.tmps i1 i2 assign body D) x' W)
   W1 hlen ?_ ?_ ⟨x,hy,hB1⟩).mono ?_
  rintro k W' ⟨x',-,hb⟩
  obtain⟨⟨σ',h'⟩,hseq',-,-⟩:=hb;refine⟨hBsAll h',?_⟩
  have:=a3y h' ht
  rw[hseq',h'.ov_none (a5n s x')]at this;exact⟨_,this⟩
  rintro n xe v W' hx ⟨x',hy',hb⟩ hv
  have hyield:(Instr.yield (D+1) #[.int .i64 (n:Int),v]).run P W'=.ok (.round (D+1) fn ((a.tmps.setIfInBounds i1 (.int .i64 (n:Int))).setIfInBounds i2 v) assign body) W':=by
   have:=run_yield (P:=P) (args:=#[.int .i64 (n:Int),v]) hb.loop rfl
   simpa[a3V]using this
  simp only[a6i,hx]at hy'
  split at hy'
  cases hy';rename_i s' hs';refine⟨_,_,_,_,hyield,(c5Z hcx hG hm hH hfa hfb hs hfl hi1 hi2 hN ht hb hv (by omega) (by omega) hs').mono ?_⟩
  rintro en W'' (⟨x2,e1,rfl,hb2⟩|⟨ex,c,x2,e1,-⟩)
  simp only[Sum.inl.injEq]at e1;subst e1;exact .inl ⟨rfl,s',hy',hb2⟩;cases e1;rename_i r hr;simp only[sj]at hy';refine⟨_,_,_,_,hyield,(c5Z hcx hG hm hH hfa hfb hs hfl hi1 hi2 hN ht hb hv (by omega) (by omega) hr).mono ?_⟩
  rintro en W'' (⟨x2,e1,-⟩|⟨ex,c,x2,e1,hc,rfl,hb2⟩)
  cases e1;simp only[Sum.inr.injEq]at e1;subst e1;exact .inr ⟨rfl,ex,c,x2,hy'.symm,hc,hb2⟩
  ·have hdone:∀{x' W2 st pe},Between B N a s t (.list false e) l0 (D+1) D (a3V st pe fn a.tmps i1 i2 assign body D) x' W2→∀r',(W2.putObj (D+1) (.loop r')).heap[D]?=some (.deferred (some []))∧∃σ',Rel B (s.enc x') N (a0n a) (W2.putObj (D+1) (.loop r')) σ':=by
    rintro x' W2 st pe ⟨⟨σ',h'⟩,-,hl,hD⟩ r'
    exact⟨(World.putObj_heap_other (by omega)).trans hD,σ',h'.turned (b1R hl rfl (by omega) _)⟩
   rintro en W2 ⟨⟨v,rfl⟩,⟨x',hy',hb⟩|⟨ex,c,x',rfl,hc,hb⟩⟩
   simp only[a6i,sj]at hy';subst hy';refine⟨none,_,run_endLoop (P:=P) hb.loop (by simp[a3V]),?_⟩;obtain⟨g1,g2⟩:=hdone hb { a3V .ready none fn a.tmps i1 i2 assign body D with state:=.exhausted };exact⟨D,rfl,hN,by rw[hd];rfl,by omega,g1,g2⟩
   ·refine⟨some c,_,run_endLoop (P:=P) hb.loop (by simp[a3V]),?_⟩;obtain⟨g1,g2⟩:=hdone hb { a3V .done (some c) fn a.tmps i1 i2 assign body D with state:=.exhausted };cases ex with
    |normal=>cases hc
    |exit i=>
     simp only[c3B,sj]at hc;subst hc;exact wpIn_exit ⟨D,rfl,hN,by rw[hd];rfl,by omega,g1,g2⟩
    |ret=>
     simp only[c3B,sj]at hc;subst hc;exact wpIn_ret ⟨D,rfl,hN,by rw[hd];rfl,by omega,g1,g2⟩
end
section
variable {P:Program} {B:Base} {N:Nat} {cx:Cx} {H:Hints} {r:HintR}
def c8c(B:Base)(ds:List Deferred)(w:World):Prop:=ds=[]∨∃D,ds=[{ target:=.collected D,args:=#[] }]∧B.size≤D∧w.heap[D]?=some (.deferred (some []))
def d1q{ρ:Type}(B:Base)(N:Nat)(K:Ex→AE→Rs ρ)(z:ρ):Exit→Act→World→Prop:=fun e a w=>
 ∃ex Γ σ,e=c0r ex∧K ex Γ=some z∧Rel B Γ N (a0n a) w σ∧a.tmps.size=N∧c8c B a.defers w
theorem c1F(hcx:CxOk P cx)(hG:GOk cx.G B)(hm:P.follows .mixedOrders=true)(hH:H.fits N=true){c:Code}{p:Nat}{ρ:Type}{Γ:AE}{K:Ex→AE→Rs ρ}{z:ρ}{a:Act}{w:World}{σ:Gh}(hf:a2f N c=true)
  (hz:a1E cx H c p Γ K=some z)(h:Rel B Γ N (a0n a) w σ)(hN:a.tmps.size=N)(hd:c8c B a.defers w):c.wpIn (Fr none) 0 P (d1q B N K z) a w:=by
 refine wpIn_mono (b0v (ro:=none) (D:=a.defers) hcx (hG.anew h) hm hH c p hf hz h.anew hN rfl) ?_
 rintro e a' w' ⟨ex,Γ',σ',rfl,hK,hr,hN',hD⟩
 refine⟨ex,Γ',σ',rfl,hK,h.back hr,hN',?_⟩;rcases hd with hd|⟨D,hd,hDs,hDc⟩;exact .inl (hD.trans hd);exact .inr ⟨D,hD.trans hd,hDs,h.others hr hDc rfl⟩
structure RangeOk (P:Program) (r:HintR):Prop where
 mkr:c8b P r.mkr r.it
 it:c3C P r.it r.e
def d1r(N:Nat)(r:HintR)(q:RParts):Bool:=
 q.ops.toList.all (a9l N q.ops.toList)&&(a2f N q.assign&&(a2f N q.body&&(decide (q.i1<N)&&(decide (q.i2<N)&&(decide (q.g<N)&&(decide (r.t<N)&&(r.s.fits N&&r.t != q.g)))))))
theorem d1s{c1 c2:Code}{q:RParts}(h:b7N c1 c2=some q):∃id,c1=.region id q.ops false∧c2=.block q.b (.rangeFunc (.tmp q.g) #[q.i1,q.i2] q.assign q.body):=by
 unfold b7N at h
 split at h
 rename_i ps assign body
 split at h
 rename_i i1 i2 e;cases h;exact⟨_,rfl,by rw[show ps=#[i1,i2]from by rw[←a75 (xs:=ps),e]]⟩;cases h;cases h
theorem d1t{o:Oper}{g:Nat}(h:c4V o r g=true):∃c,o.op=.call c∧c.callee=.value (.func r.mkr)∧c.args=#[.tmp r.t]∧o.dst=some g∧o.guard=none:=by
 unfold c4V at h
 split at h
 rename_i c hc
 split at h
 rename_i f t h1 h2;simp only[bA,beq_iff_eq,a40]at h;obtain⟨⟨⟨rfl,rfl⟩,h3⟩,h4⟩:=h;exact⟨c,hc,h1,by rw[←a75 (xs:=c.args),h2],h3,h4⟩;cases h;cases h
theorem c8d(hcx:CxOk P cx)(hG:GOk cx.G B)(hm:P.follows .mixedOrders=true)(hH:H.fits N=true)(hr:RangeOk P r)(hpin:∀i b,1000≤i→B.pin i≠some b){c1 c2:Code}{q:RParts}(hq:b7N c1 c2=some q)(hf:d1r N r q=true)
  {p:Nat}{ρ:Type}{Γ:AE}{K:Ex→AE→Rs ρ}{z:ρ}{a:Act}{w:World}{σ:Gh}(hz:c8a cx H r q p Γ K=some z)(h:Rel B Γ N (a0n a) w σ)(hN:a.tmps.size=N)(hd:a.defers=[]):
  (Code.seq c1 c2).wpIn (Fr none) 0 P (d1q B N K z) a w:=by
 obtain⟨id,rfl,rfl⟩:=d1s hq;simp only[d1r,bA,dT]at hf;obtain⟨hops,hfa,hfb,hi1,hi2,hg,ht,hs,htg⟩:=hf;have htg:r.t≠q.g:=by simpa using htg
 unfold c8a at hz
 split at hz
 rotate_left;cases hz;rename_i mv cl hl;obtain⟨hmk,hz⟩:=(a0i hz).elim _root_.id fun h=>by cases h.2
 simp only[bA,a40]at hmk;obtain⟨hmk,hfl,hmg⟩:=hmk;obtain⟨c,ho,hce,hca,hdst,hgd⟩:=d1t hmk;refine wpIn_seq (wpIn_region_list ?_);have hops1:=b7c (lA.1 hops mv (by rw[hl];simp));rw[hl];simp only[wpListIn];rw[if_pos (by simp[Region.wanted,hmg])];refine b1N hcx hG h hN hops1 hz fun v w1 Γ1 σ1 h1 hz=>?_
 obtain⟨a1,ha1⟩:∃a1,a.put mv.dst v=a1:=⟨_,rfl⟩;have hN1:a1.tmps.size=N:=by rw[←ha1,b5u];exact hN
 have hd1:a1.defers=[]:=by rw[←ha1,b4N];exact hd
 rw[ha1]at h1⊢;rw[if_pos (by simp[Region.wanted,hgd])]
 split at hz
 cases hz;rename_i hpd1

 obtain⟨fv,hfv⟩:∃fv,Value.func (.func r.it) #[] #[.pointer (some ⟨w1.heap.size,0,none⟩)]=fv:=⟨_,rfl⟩;have hg1:Rel B (Γ1.set q.g .dead) N (a0n (a1.put (some q.g) fv)) w1 σ1:=h1.putd hN1 fun _=>trivial;have htm:a0n (a1.put (some q.g) fv) r.t=a0n a1 r.t:=by rw[b5t _ (by omega),if_neg htg]
 have core:∀{B':Base}{w2:World},(∀i b,1000≤i→B'.pin i≠some b)→Rel B' (Γ1.set q.g .dead) N (a0n (a1.put (some q.g) fv)) w2 σ1→∃(x:r.s.ty.den)(l0:List r.e.den)(y:r.s.ty.den ⊕ (Ex×r.s.ty.den)) (σ2:Gh),Rel B' (r.s.enc x) N (a0n (a1.put (some q.g) fv)) w2 σ2∧
   (r.s.enc x).get r.t=.val (.list false r.e) l0∧l0.length<2147483648∧a6i (rnd cx H (2*p+1) r.s q.i1 q.i2 q.assign q.body r.e) l0 l0.length x=some y∧
   (match y with
    |.inl x'=>K .normal (r.s.enc x')
    |.inr (.normal,x')=>K .normal (r.s.enc x')
    |.inr (.exit i,x')=>bif i==q.b then K .normal (r.s.enc x')else K (.exit i) (r.s.enc x')
    |.inr (.ret,x')=>K .ret (r.s.enc x'))=some z:=by
  intro B' w2 hp hr';obtain⟨Γ2,σ2,hz2,h2⟩:=Rel.renAll hp _ hr' hz;obtain⟨x,σ3,hz3,h3⟩:=h2.dcd hs hz2
  split at hz3
  rename_i t l hgt
  split at hz3
  rename_i he;subst he;obtain⟨hlim,hz3⟩:=(a0i hz3).elim _root_.id fun h=>by cases h.2
  obtain⟨y,hy1,hy2⟩:=a25.1 hz3;exact⟨x,l,y,σ3,h3,hgt,of_decide_eq_true (show decide (a24 l<2147483648)=true from hlim),hy1,hy2⟩;cases hz3;cases hz3
 obtain⟨A,len,cap,hsv⟩:∃A len cap,a0n a1 r.t=.slice A len cap:=by
  obtain⟨x,l0,y,σ2,g1,g2,-⟩:=core hpin hg1
  have:=a3y g1 ht
  rw[g2,htm]at this;obtain⟨A,n,c,e,-⟩:=VOk.header this;exact⟨A,n,c,e⟩
 refine c7J (fun c' hc'=>by rw[ho]at hc';cases hc') ?_
 rw[c7K hr.mkr.1 ho hce,Oper.uponIn_enter];refine⟨fun h=>(by cases h),c7I ?_⟩;have hargs:c.args.map a1.eval=#[.slice A len cap]:=by
  rw[hca,←hsv];simp only[List.map_toArray,a30,a63];rfl
 rw[hargs];refine(hr.mkr.2 A len cap w1).mono ?_
 rintro en w2 ⟨rfl,ty,hw2⟩
 simp only[];rw[hfv,hdst];have T:Turns B w1 w2:=by rw[hw2];exact b7i h1.size _
 have hg2:=hg1.turned T;have hB1:Rel { B.anew w2 σ1 with pin:=B.pin } (Γ1.set q.g .dead) N (a0n (a1.put (some q.g) fv)) w2 σ1:=hg2.anew.unpin B.pin fun i b hb=>by simp only[Base.anew,hb]
 obtain⟨x,l0,y,σ2,g1,g2,gl,g3,g4⟩:=core (B':={ B.anew w2 σ1 with pin:=B.pin }) hpin hB1;have hcell:w2.cell? ⟨w1.heap.size,0,none⟩=some (a0n (a1.put (some q.g) fv) r.t):=by
  rw[htm,hsv,hw2]
  have:=World.alloc_heap_new w1 (.cells #[.slice A len cap] ty)
  unfold World.cell?;rw[this];rfl
 have hsz2:w1.heap.size<w2.heap.size:=by rw[hw2];simp
 refine wpIn_block (wpIn_mono (c9G (B:={ B.anew w2 σ1 with pin:=B.pin }) (a:=a1.put (some q.g) fv) (p:=2*p+1) (it:=r.it) (Bs:=w1.heap.size) hcx (hG.anew hg2) hm hH hfa hfb hs hfl hi1 hi2 (by rw[b5u];exact hN1) ht g1 g2 ?_ hr.it gl hcell hsz2
  (fun ho=>Nat.lt_irrefl _ (h1.lt ho)) g3 (by rw[b4N];exact hd1)) ?_)
 show a0n (a1.put (some q.g) fv) q.g=_;rw[b5t _ (by omega),if_pos rfl,←hfv]
 ·rintro en a3 w3 ⟨D,rfl,hN3,hd3,hDs,hDc,σ3,hr3⟩
  have hDs:w2.heap.size≤D:=hDs;have hb3:Rel B (r.s.enc (yOf y).2) N (a0n a3) w3 σ3:=hg2.backP (fun _ _ h=>h) hr3;have hmk3:c8c B a3.defers w3:=.inr ⟨D,hd3,a26 hg2.size hDs,hDc⟩;cases y with
  |inl x'=>exact⟨.normal,_,σ3,rfl,g4,hb3,hN3,hmk3⟩
  |inr ex=>
   obtain⟨ex,x'⟩:=ex;cases ex with
   |normal=>exact⟨.normal,_,σ3,rfl,g4,hb3,hN3,hmk3⟩
   |ret=>exact⟨.ret,_,σ3,rfl,g4,hb3,hN3,hmk3⟩
   |exit i=>
    simp only[yOf,c0r,Exit.inBlock];rcases a0i g4 with⟨hi,g4⟩|⟨hi,g4⟩;rw[if_pos (by simpa using hi)];exact⟨.normal,_,σ3,rfl,g4,hb3,hN3,hmk3⟩;rw[if_neg (by simpa using hi)];exact⟨.exit i,_,σ3,rfl,g4,hb3,hN3,hmk3⟩
def b1w(N:Nat)(r:HintR):Code→Bool
 |.seq a b=>match b7N a b with
  |some q=>d1r N r q
  |none=>bif a9p a then b1w N r a&&a2f N b else a2f N a&&b1w N r b
 |c=>a2f N c
theorem c8e(hcx:CxOk P cx)(hG:GOk cx.G B)(hm:P.follows .mixedOrders=true)(hH:H.fits N=true)(hr:RangeOk P r)(hpin:∀i b,1000≤i→B.pin i≠some b):∀(c:Code) (p:Nat){ρ:Type}{Γ:AE}{K:Ex→AE→Rs ρ}{z:ρ}{a:Act}{w:World}{σ:Gh}(_:b1w N r c=true)
  (_:b7O cx H r c p Γ K=some z) (_:Rel B Γ N (a0n a) w σ) (_:a.tmps.size=N) (_:a.defers=[]),c.wpIn (Fr none) 0 P (d1q B N K z) a w:=by
 intro c
 induction c with
 |seq x y ihx ihy=>
  intro p ρ Γ K z a w σ hf hz h hN hD;simp only[b1w]at hf;simp only[b7O]at hz
  split at hz
  rename_i q hq;rw[hq]at hf;exact c8d hcx hG hm hH hr hpin hq hf hz h hN hD
  ·rename_i hq;rw[hq]at hf;simp only[]at hf;refine wpIn_seq ?_
   cases hx:a9p x with
   |true=>
    rw[hx]at hf hz;simp only[cT,bA]at hf hz;refine wpIn_mono (ihx _ hf.1 hz h hN hD) ?_
    rintro e a' w' ⟨ex,Γ',σ',rfl,hK,hr',hN',hD'⟩
    cases ex with
    |normal=>exact c1F hcx hG hm hH hf.2 hK hr' hN' hD'
    |exit i=>exact⟨.exit i,Γ',σ',rfl,hK,hr',hN',hD'⟩
    |ret=>exact⟨.ret,Γ',σ',rfl,hK,hr',hN',hD'⟩
   |false=>
    rw[hx]at hf hz;simp only[cF,bA]at hf hz;refine wpIn_mono (b0v (ro:=none) (D:=[]) hcx hG hm hH x _ hf.1 hz h hN hD) ?_
    rintro e a' w' ⟨ex,Γ',σ',rfl,hK,hr',hN',hD'⟩
    cases ex with
    |normal=>exact ihy _ hf.2 hK hr' hN' hD'
    |exit i=>exact⟨.exit i,Γ',σ',rfl,hK,hr',hN',.inl hD'⟩
    |ret=>exact⟨.ret,Γ',σ',rfl,hK,hr',hN',.inl hD'⟩
 |_=>
  intro p ρ Γ K z a w σ hf hz h hN hD;refine c1F hcx hG hm hH (p:=p) (Γ:=Γ) (σ:=σ) ?_ ?_ h hN (.inl hD);simpa only[b1w]using hf;simpa only[b7O]using hz
end
def d5Q(fn:Func)(c:Code)(H:Hints)(r:HintR)(s:FSem):Bool:=
 b1w fn.ntmps r c&&(H.fits fn.ntmps&&(decide (s.ps.length≤fn.ntmps)&&(decide (s.ps.length≤1000)&&fn.results.toList.all fun r=>b0N fn.ntmps (.inl r))))
section
variable {P:Program} {cx:Cx}
theorem b5H:∀(ps:List PA)(i0 i:Nat),i∈a0D ps i0→i<i0+ps.length
 | [],_,_,h=>by simp[a0D]at h
 |.v _::ps,i0,i,h=>by
  have:=b5H ps (i0+1) i h
  simp only[lC];omega
 |.r _ _::ps,i0,i,h=>by
  simp only[lC];rcases mC.1 h with rfl|h;omega
  have:=b5H ps (i0+1) i h
  omega
theorem a3x.ofR(hcx:CxOk P cx)(hm:P.follows .mixedOrders=true){f:FuncId}{fn:Func}{c:Code}{H:Hints}{r:HintR}{s:FSem}(hro:RangeOk P r)(hfn:P.funcs[f]?=some fn)(hb:fn.body=some c)(hok:d5Q fn c H r s=true)
  (heq:∀x,c7m cx H r fn s.ps s.rs x=s.F x):a3x P cx.G f s:=by
 simp only[d5Q,bA,dT]at hok;obtain⟨hfit,hH,hps,hps1000,hres⟩:=hok;intro w B0 σ args x y hG hy hB hhp hov hargs hrel0 hpins0;obtain⟨B,hBe⟩:∃B:Base,{ B0 with pin:=fun i=>bif decide (i<1000)then B0.pin i else none }=B:=⟨_,rfl⟩;have hrel:Rel B (ini s.ps x) s.ps.length (fun i=>args.getD i undef) w σ:=by
  rw[←hBe];refine hrel0.unpin _ fun i b hb=>?_
  cases hd:decide (i<1000)<;>rw[hd]at hb;cases hb;exact hb
 have hpin:∀i b,1000≤i→B.pin i≠some b:=by
  rw[←hBe];intro i b hi hc
  have:decide (i<1000)=false:=by simp;omega
  simp only[this,cF]at hc;cases hc
 have hpins:c7i B s.ps args:=by
  intro i hi hk;obtain⟨b,h1,h2⟩:=hpins0 i hi hk;refine⟨b,?_,h2⟩;have hlt:i<s.ps.length:=by have:=b5H s.ps 0 i hi;omega
  have:decide (i<1000)=true:=by simp;omega
  rw[←hBe];simp only[this,cT,h1]
 have hG:GOk cx.G B:=by rw[←hBe];exact hG
 have hback:∀{w' its vs Ls},Back B w' its vs Ls→Back B0 w' its vs Ls:=fun {w' its vs Ls} h=>by
  rw[←hBe]at h;exact⟨h.lv,h.ll,h.ok,h.nodup,h.disj,h.live,h.mine,h.size,h.frame,h.still⟩
 rw[←heq x]at hy;simp only[c7m,hb]at hy
 let a:Act:={ tmps:=args++a50 (fn.ntmps-args.size) undef,defers:=[] }
 have hsz:a.tmps.size=fn.ntmps:=by simp[a];omega
 have hrel':Rel B (ini s.ps x) fn.ntmps (a0n a) w σ:=by
  refine⟨hrel.roots,hrel.norm,hrel.nodup,hrel.disj,hrel.live,fun i hi=>?_,hrel.pend,hrel.size,hrel.frame,hrel.mine,hrel.pins,hrel.still⟩
  by_cases hlt:i<s.ps.length
  have:=hrel.slots i hlt
  have e:a0n a i=args.getD i undef:=by
   simp only[a0n,a,a00,a69];rw[if_pos (by omega)]
  rw[e];exact this
  have:(ini s.ps x).sl i=.one .dead:=by
   simp only[ini];rw[a23 (by rw[a5V];omega)]
  rw[this];trivial
 refine callsIn_wide.1 (callsIn_of_wp_marks (F:=Fr none) (n:=0) hfn hb trivial (wpIn_mono (c8e hcx hG hm hH hro hpin c 1 hfit hy hrel' hsz rfl) ?_))
 rintro e a' w' ⟨ex,Γ',σ',rfl,hK,hr,hN,hD⟩
 simp only[]at hK;have key:(∀i,ex≠.exit i)∧Γ'.pd=none∧(Γ'.upto fn.ntmps).outs cx [] fn.ntmps (RA.all s.ps s.rs) (fn.results.toList.map .inl++(a0D s.ps 0).map fun i=>.inr (b1G s.ps i)) (fun y _=>some y)=some y:=by
  cases hpd:Γ'.pd with
  |some p=>rw[hpd]at hK;cases ex<;>simp only[]at hK<;>cases hK
  |none=>
   rw[hpd]at hK;cases ex with
   |exit i=>simp only[]at hK;cases hK
   |normal=>exact⟨by simp,rfl,hK⟩
   |ret=>exact⟨by simp,rfl,hK⟩
 obtain⟨hex,hpd,hK⟩:=key;have hleave:LeavesInM (Fr none) 0 P fn a'.tmps (fun e w'=>∃vr Ls,e=.returned (b6v vr)∧vr.length=s.rs.length∧Back B0 w' (a1O (RA.all s.ps s.rs) y) (vr++(a0D s.ps 0).map (a3J s.ps args)) Ls) a'.defers .returning w':=by
  rcases hD with hD|⟨D,hD,hDs,hDc⟩;rw[hD];obtain⟨v,hrun,vr,Ls,h1,h2,h3⟩:=b7h (args:=args) hcx.toCxTy hres hr hpd hK hpins;exact⟨v,hrun,vr,Ls,h1,h2,hback h3⟩;rw[hD];have hr':=hr.turned (b1R hDc rfl hDs (.deferred none));obtain⟨v,hrun,vr,Ls,h1,h2,h3⟩:=b7h (args:=args) hcx.toCxTy hres hr' hpd hK hpins;exact⟨by simp,.inl ⟨D,_,rfl,run_takeDeferred hDc,v,hrun,vr,Ls,h1,h2,hback h3⟩⟩
 cases ex with
 |exit i=>exact absurd rfl (hex i)
 |normal=>exact hleave
 |ret=>exact hleave
end
end Go.Ab
