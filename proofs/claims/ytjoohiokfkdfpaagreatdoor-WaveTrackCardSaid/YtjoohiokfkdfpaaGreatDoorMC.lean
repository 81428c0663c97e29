/- Part of the proof: LibZJA. Conditions: as each statement tells. -/
import Derived.OrdersIn
import Derived.OpenShut
import Derived.Deep.Slices
import Derived.ChangeSame
import Derived.WideKeyArgs
import Derived.RowKit
import Derived.Laws.StructEq
import Derived.ChangeKeysEq
import Derived.RangeFuncNested
import Derived.RangeFuncLeaves
import Derived.Test.YtjoohiokfkdfpaaGreatDoorMB
noncomputable section
set_option linter.unusedSimpArgs false
set_option linter.unusedVariables false
open Array renaming getElem?_eq_some_iff→a12,replicate→a24,getElem?_append→a37,all_toList→a51
open Bool renaming false_eq_true→a01,and_eq_true_iff→a07,false_and→a25,true_or→a42,not_eq_true'→a50,not_false→a52,and_false→a53
open List renaming mem_append_right→a02,mem_cons_of_mem→a03,mem_append_left→a04,map_congr_left→a06,length→a08,mem_cons_self→a11,mem_map→a13,all_cons→a14,mem_filterMap→a16,contains_iff_mem→a17,range_eq_range'→a19,append_nil→a20,getElem?_cons_zero→a21,range→a22,mem_of_getElem?→a23,mem_range→a26,map_id→a27,getElem?_append_right→a28,range'→a29,mem_flatMap→a31,mem_filter→a34,append→a35,mem_iff_getElem?→a36,replicate→a38,range'_append_1→a39,contains_eq_mem→a40,mem_map_of_mem→a41,map_map→a43,zipWith→a44,map_nil→a46,filter_congr→a47,ext_getElem?→a48,getElem?_map→a49
open Nat renaming lt_of_lt_of_le→a05,le_trans→a10,le_refl→a18,zero_add→a45
open Option renaming isSome_iff_exists→a00,bind_eq_some_iff→a09,elim→a15,ne_none_iff_exists'→a30,getD_some→a32,map_some→a33
namespace Go.Ab
structure Dl where
 rs:List (Nat×Root)
 sv:SV
def Dl.app(δ:Dl)(d:Nat)(Γ:AE):AE:=⟨fun i=>bif i==d then δ.sv else Γ.sl i,fun n=>match find δ.rs n with|some r=>some r|none=>Γ.rt n,Γ.pd⟩
def a0h(o:Oper):List Nat:=o.op.operands.toList.filterMap fun x=>match x with|.tmp t=>some t|_=>none
def b0w(T:List Nat)(Γ Γ2:AE):Prop:=Γ2.pd=Γ.pd∧∀t∈T,Γ2.sl t=Γ.sl t∧∀n∈(Γ.sl t).refs,Γ2.rt n=Γ.rt n
theorem b0w.refl{T Γ}:b0w T Γ Γ:=⟨rfl,fun _ _=>⟨rfl,fun _ _=>rfl⟩⟩
theorem d0a{o:Oper}{t:Nat}(h:Operand.tmp t∈o.op.operands.toList):t∈a0h o:=a16.2 ⟨_,h,rfl⟩
theorem b0w.opd{o:Oper}{Γ Γ2:AE}(h:b0w (a0h o) Γ Γ2){x:Operand}(g:x∈o.op.operands.toList):Γ2.opd x=Γ.opd x:=by
 cases x with
 |tmp t=>simp[AE.opd,AE.get];rw[(h.2 t (d0a g)).1]
 |_=>rfl
theorem b0w.rt{o:Oper}{Γ Γ2:AE}(a:b0w (a0h o) Γ Γ2){x:Operand}(b:x∈o.op.operands.toList){n:Nat}(k:n∈(Γ.opd x).refs):Γ2.rt n=Γ.rt n:=by
 cases x with
 |tmp t=>
  refine(a.2 t (d0a b)).2 n ?_
  simp[AE.opd,AE.get]at k
  revert k
  cases Γ.sl t with
  |one v=>exact id
  |cmp c vs=>exact fun h=>by cases h
 |const v=>
  simp[AE.opd]at k;unfold k0v at k
  split at k<;>cases k
 |global g=>cases k
 |func f=>cases k
theorem b0w.look{o:Oper}{Γ Γ2:AE}(h:b0w (a0h o) Γ Γ2){x:Operand}(f:x∈o.op.operands.toList){n:Nat}(g:n∈(Γ.opd x).refs):Γ2.look n=Γ.look n:=by
 simp only[AE.look,h.1,h.rt f g]
def l0z{ρ:Type}(r:Option Dl)(d:Nat)(Γ2:AE)(K:AE→Rs ρ):Rs ρ:=match r with
 |none=>none
 |some δ=>bif δ.rs.all fun p=>decide (p.1<pinned)&&(Γ2.rt p.1).isNone then K (δ.app d Γ2)else none
def Uni(cx:Cx)(o:Oper)(d:Nat)(Γ:AE):Prop:=
 ∃r:Option Dl,(∀δ,r=some δ→(δ.sv.firm=true→δ.rs=[])∧∀n,find δ.rs n≠none→n∈d0z cx o d)∧∀Γ2,b0w (a0h o) Γ Γ2→∀{ρ:Type}(K:AE→Rs ρ),aop cx true o Γ2 K=l0z r d Γ2 K
theorem Uni.none{cx o d Γ}(h:∀Γ2,b0w (a0h o) Γ Γ2→∀{ρ:Type}(K:AE→Rs ρ),aop cx true o Γ2 K=none):Uni cx o d Γ:=
 ⟨.none,by simp,fun Γ2 hA ρ K=>h Γ2 hA K⟩
theorem Uni.put{cx o d Γ}(sv:SV)(h:∀Γ2,b0w (a0h o) Γ Γ2→∀{ρ:Type}(K:AE→Rs ρ),aop cx true o Γ2 K=K (Γ2.put d sv)):Uni cx o d Γ:=
 ⟨some ⟨[],sv⟩,fun δ e=>by cases e;exact⟨fun _=>rfl,fun n g=>absurd rfl g⟩,fun Γ2 hA ρ K=>by rw[h Γ2 hA K];rfl⟩
theorem Uni.of{cx o d Γ}(r:Option AV)(h:∀Γ2,b0w (a0h o) Γ Γ2→∀{ρ:Type}(K:AE→Rs ρ),aop cx true o Γ2 K=r.elim .none fun v=>K (Γ2.set d v)):Uni cx o d Γ:=by
 cases r with
 |none=>exact Uni.none h
 |some v=>exact Uni.put (.one v) h
theorem z0o{ρ:Type}{Γ2:AE}{d:Nat}{r:Root}{v:AV}{K:AE→Rs ρ}:(Γ2.fresh true d r fun Γ=>K (Γ.set d v))=l0z (some ⟨[(d,r)],.one v⟩) d Γ2 K:=by
 unfold AE.fresh l0z;cases hd:decide (d<pinned)
 grind
 ·simp[hd];cases hr:Γ2.rt d with
  |some r0=>simp
  |none=>
   simp
   congr 1;simp only[AE.newRt,hr,AE.setRt,AE.set,AE.put,Dl.app];congr 1;funext n;simp[find]
   grind
theorem Uni.ofFresh{cx o d Γ}(r:Root)(v:AV)(hv:v.firm=false)(h:∀Γ2,b0w (a0h o) Γ Γ2→∀{ρ:Type}(K:AE→Rs ρ),aop cx true o Γ2 K=Γ2.fresh true d r fun Γ=>K (Γ.set d v)):Uni cx o d Γ:=
 ⟨some ⟨[(d,r)],.one v⟩,(fun δ e=>by
  cases e;refine⟨fun hf=>?_,fun n g=>?_⟩;simp_all[SV.firm];simp only[find]at g
  by_cases e:d=n
  subst e;exact a11
  grind),fun Γ2 hA ρ K=>by simp_all[z0o]⟩
def e0j(t:Ty)(a:AV):Option t.den:=match a with
 |.val t' x=>castTo t' t x
 |.nils=>match t with
  |.list false _=>some []
  |.nl _=>some []
  |_=>none
 |.empt=>match t with
  |.list false _=>some []
  |_=>none
 |_=>none
theorem n0c{ρ:Type}(Γ:AE)(t:Ty)(a:AV)(K:t.den→AE→Rs ρ):Γ.asV true t a K=(e0j t a).elim none fun x=>K x Γ:=by
 cases a with
 |val t' x=>grind[AE.asV,e0j]
 |nils=>cases t with
  |list o e=>cases o<;>rfl
  |_=>rfl
 |empt=>cases t with
  |list o e=>cases o<;>rfl
  |_=>rfl
 |sref n p=>cases p<;>simp[AE.asV,e0j]
 |swin n p o k=>cases p<;>simp[AE.asV,e0j]
 |_=>rfl
def g0a(f:Operand→AV)(t:Ty):List (Nat×Operand)→t.den→Option t.den
 | [],x=>some x
 |(i,o)::r,x=>bif AE.pathOk t i then(match b0c t x (AE.pathOf t i)with
  |⟨t',_⟩=>(e0j t' (f o)).elim none fun y=>g0a f t r (b0q t x (AE.pathOf t i) t' y))else none
theorem q0f{ρ:Type}(Γ:AE)(t:Ty):∀(ps:List (Nat×Operand)) (x:t.den) (K:t.den→AE→Rs ρ),Γ.fills true t ps x K=(g0a Γ.opd t ps x).elim none fun y=>K y Γ
 | [],x,K=>rfl
 |(i,o)::r,x,K=>by
  simp[AE.fills,g0a];cases AE.pathOk t i;rfl
  ·simp
   rw[n0c];cases e0j _ (Γ.opd o)with
   |none=>rfl
   |some y=>exact q0f Γ t r _ K
theorem j0f(f g:Operand→AV)(t:Ty):∀(ps:List (Nat×Operand)) (x:t.den),(∀p∈ps,f p.2=g p.2)→g0a f t ps x=g0a g t ps x
 | [],x,_=>rfl
 |(i,o)::r,x,h=>by
  simp[g0a];rw[h (i,o) (by simp)];cases AE.pathOk t i;rfl
  ·simp
   cases e0j _ (g o)with
   |none=>rfl
   |some y=>exact j0f f g t r _ fun p hp=>h p (by simp[hp])
def o0f(f:Operand→AV)(e:Ty)(n:Nat):List (Nat×Operand)→List e.den→Option (List e.den)
 | [],x=>some x
 |(i,o)::r,x=>bif decide (i<n)then(e0j e (f o)).elim none fun y=>o0f f e n r (x.set i y)else none
theorem r0u{ρ:Type}(Γ:AE)(e:Ty)(n:Nat):∀(ps:List (Nat×Operand)) (x:List e.den) (K:List e.den→AE→Rs ρ),Γ.lit true e n ps x K=(o0f Γ.opd e n ps x).elim none fun y=>K y Γ
 | [],x,K=>rfl
 |(i,o)::r,x,K=>by
  simp[AE.lit,o0f];cases decide (i<n);rfl
  ·simp
   rw[n0c];cases e0j _ (Γ.opd o)with
   |none=>rfl
   |some y=>exact r0u Γ e n r _ K
theorem i0o(f g:Operand→AV)(e:Ty)(n:Nat):∀(ps:List (Nat×Operand)) (x:List e.den),(∀p∈ps,f p.2=g p.2)→o0f f e n ps x=o0f g e n ps x
 | [],x,_=>rfl
 |(i,o)::r,x,h=>by
  simp[o0f];rw[h (i,o) (by simp)];cases decide (i<n);rfl
  ·simp
   cases e0j _ (g o)with
   |none=>rfl
   |some y=>exact i0o f g e n r _ fun p hp=>h p (by simp[hp])
def d0p(lk:Nat→Option Root)(n:Nat)(p:a0n):Option ((e:Ty)×List e.den):=match lk n with
 |some r=>match b0c r.t r.x p with
  |⟨.list true e,l⟩=>some ⟨e,l⟩
  |_=>none
 |none=>none
theorem e0y{ρ:Type}(Γ:AE)(n:Nat)(p:a0n)(K:(e:Ty)→List e.den→Rs ρ):Γ.body n p K=(d0p Γ.look n p).elim none fun x=>K x.1 x.2:=by
 unfold AE.body d0p
 grind
theorem n0e{ρ:Type}(Γ:AE)(n:Nat)(p:a0n)(K:(e:Ty)→List e.den→Rs ρ):Γ.bodyP n p K=(d0p Γ.rt n p).elim none fun x=>K x.1 x.2:=by
 unfold AE.bodyP d0p;cases Γ.rt n with
 |none=>rfl
 |some r=>
  simp only[];generalize b0c r.t r.x p=X;obtain⟨h,l⟩:=X;cases h with
  |list o e=>cases o<;>rfl
  |_=>rfl
def g0k(lk:Nat→Option Root)(t:Ty)(a:AV):Option t.den:=match a with
 |.val t' x=>castTo t' t x
 |.nils=>match t with
  |.list false _=>some []
  |.nl _=>some []
  |_=>none
 |.empt=>match t with
  |.list false _=>some []
  |_=>none
 |.sref n p=>(d0p lk n p).elim none fun x=>if h:Ty.list false x.1.sh=t then some (h▸Ty.shx (.list false x.1) x.2)else none
 |.swin n p o k=>(d0p lk n p).elim none fun x=>if h:Ty.list false x.1.sh=t then some (h▸Ty.shx (.list false x.1) ((x.2.drop o).take k))else none
 |_=>none
theorem y0a{ρ:Type}(Γ:AE)(t:Ty)(a:AV)(K:t.den→Rs ρ):Γ.view t a K=(g0k Γ.look t a).elim none K:=by
 cases a with
 |val t' x=>grind[AE.view,g0k]
 |nils=>cases t with
  |list o e=>cases o<;>rfl
  |_=>rfl
 |empt=>cases t with
  |list o e=>cases o<;>rfl
  |_=>rfl
 |sref n p=>
  simp[AE.view,g0k,d0p]
  grind
 |swin n p o k=>
  simp[AE.view,g0k,d0p]
  grind
 |_=>rfl
theorem d0q{lk lk':Nat→Option Root}{n:Nat}(h:lk' n=lk n)(p:a0n):d0p lk' n p=d0p lk n p:=by simp only[d0p,h]
theorem n0x{lk lk':Nat→Option Root}{t:Ty}{a:AV}(h:∀n∈a.refs,lk' n=lk n):g0k lk' t a=g0k lk t a:=by
 cases a with
 |sref n p=>simp_all[g0k,d0q,AV.refs]
 |swin n p o k=>simp_all[g0k,d0q,AV.refs]
 |_=>rfl
def f0i(lk:Nat→Option Root)(e:Ty)(a:AV):Option (List e.den):=match a with
 |.val (.list false t') x=>if h:t'=e then some (h▸(show List t'.den from x))else none
 |.nils|.empt=>some []
 |.sref n p=>(d0p lk n p).elim none fun x=>if h:x.1=e then some (h▸x.2)else none
 |.swin n p o k=>(d0p lk n p).elim none fun x=>if h:x.1=e then some (List.take k (List.drop o (h▸x.2)))else none
 |_=>none
theorem k0x{ρ:Type}(Γ:AE)(e:Ty)(a:AV)(K:List e.den→Rs ρ):Γ.elems e a K=(f0i Γ.look e a).elim none K:=by
 cases a with
 |val t' x=>cases t' with
  |list o t'=>
   cases o
   all_goals grind[AE.elems,f0i]
  |_=>rfl
 |sref n p=>
  simp[AE.elems,f0i,d0p]
  grind
 |swin n p o k=>
  simp[AE.elems,f0i,d0p]
  grind
 |_=>rfl
theorem j0e{lk lk':Nat→Option Root}{e:Ty}{a:AV}(h:∀n∈a.refs,lk' n=lk n):f0i lk' e a=f0i lk e a:=by
 cases a with
 |sref n p=>simp_all[f0i,d0q,AV.refs]
 |swin n p o k=>simp_all[f0i,d0q,AV.refs]
 |val t' x=>cases t' with
  |list o t'=>cases o<;>rfl
  |_=>rfl
 |_=>rfl
section
variable {cx:Cx} {o:Oper} {d:Nat} {Γ:AE}
theorem z0d{x:Operand}(h:o.op=.move x)(hd:o.dst=some d):Uni cx o d Γ:=by
 have k:x∈o.op.operands.toList:=by simp[h,Op.operands]
 cases x with
 |tmp t=>exact Uni.put (Γ.sl t) fun Γ2 hA ρ K=>by simp[aop,h,hd];rw[(hA.2 t (d0a k)).1]
 |const v=>exact Uni.put (.one (Γ.opd (.const v))) fun Γ2 hA ρ K=>by simp[aop,h,hd];rfl
 |global g=>exact Uni.put (.one (.glob g)) fun Γ2 hA ρ K=>by simp[aop,h,hd];rfl
 |func f=>exact Uni.put (.one .dead) fun Γ2 hA ρ K=>by simp[aop,h,hd];rfl
theorem z0j{ρ:Type}(Γ:AE)(v:AV)(K:AE→Rs ρ):Γ.asg true cx d v K=K (Γ.set d v):=by
 unfold AE.asg;split;rename_i r;split;cases hrd:(r==d)
 simp
 simp
 rfl;rename_i r k;split
 simp
 rfl;split
 simp
 rfl;rfl
theorem w0i{x:Operand}(h:o.op=.assign x)(hd:o.dst=some d):Uni cx o d Γ:=by
 have g:x∈o.op.operands.toList:=by simp[h,Op.operands]
 cases x with
 |tmp t=>
  have f:∀Γ2,b0w (a0h o) Γ Γ2→Γ2.sl t=Γ.sl t:=fun Γ2 hA=>(hA.2 t (d0a g)).1;cases hv:Γ.sl t with
  |one v=>exact Uni.put (.one v) fun Γ2 hA ρ K=>by simp[aop,h,hd,AE.sopd,f Γ2 hA,hv];rw[z0j];rfl
  |cmp c vs=>exact Uni.put (.cmp c vs) fun Γ2 hA ρ K=>by simp_all[aop,AE.sopd]
 |_=>exact Uni.put (.one (Γ.opd _)) fun Γ2 hA ρ K=>by simp only[aop,h,hd,AE.sopd];rw[z0j,hA.opd g];rfl
theorem t0a{fn:Fn}{first caps:Array Operand}(h:o.op=.makeFunc fn first caps)(hd:o.dst=some d):Uni cx o d Γ:=by
 cases fn with
 |func f=>
  cases hf:first.isEmpty with
  |false=>exact Uni.none fun Γ2 hA ρ K=>by simp only[aop,h,hd,hf,cF]
  |true=>
   refine Uni.put (.cmp (.clo f) (caps.toList.map Γ.opd)) fun Γ2 hA ρ K=>?_
   simp[aop,h,hd,hf]
   have:caps.toList.map Γ2.opd=caps.toList.map Γ.opd:=a06 fun x g=>hA.opd (by
    simp_all[Op.operands])
   grind
 |_=>simp_all[Uni.none,aop]
theorem A0u{ρ:Type}(c x y:AV)(K:AV→Rs ρ):n0i c x y K=(n0i c x y some).elim none K:=by
 unfold n0i
 grind
theorem z0e{c x y:Operand}(h:o.op=.pick c x y)(hd:o.dst=some d):Uni cx o d Γ:=by
 have g:c∈o.op.operands.toList:=by simp[h,Op.operands]
 have f:x∈o.op.operands.toList:=by simp[h,Op.operands]
 have k:y∈o.op.operands.toList:=by simp[h,Op.operands]
 refine Uni.of (n0i (Γ.opd c) (Γ.opd x) (Γ.opd y) some) fun Γ2 hA ρ K=>?_
 simp[aop,h,hd,hA.opd g,hA.opd f,hA.opd k];exact A0u _ _ _ _
theorem x0s{t:TypeId}(h:o.op=.alloc t)(hd:o.dst=some d):Uni cx o d Γ:=by
 cases ht:cx.own d t with
 |none=>simp_all[Uni.none,aop]
 |some t'=>exact Uni.ofFresh ⟨true,t',t'.dflt⟩ (.ptr d []) rfl fun Γ2 hA ρ K=>by simp_all[aop]
theorem A0e{t:TypeId}{x:Operand}(h:o.op=.box t x)(hd:o.dst=some d):Uni cx o d Γ:=by
 have g:x∈o.op.operands.toList:=by simp[h,Op.operands]
 cases ht:cx.T t with
 |none=>simp_all[Uni.none,aop]
 |some t'=>
  cases ha:e0j t' (Γ.opd x)with
  |none=>exact Uni.none fun Γ2 hA ρ K=>by simp[aop,h,hd,ht];rw[n0c,hA.opd g,ha];rfl
  |some y=>
   cases hk:cx.K d with
   |true=>exact Uni.put (.one (.vptr t' y)) fun Γ2 hA ρ K=>by simp[aop,h,hd,ht];rw[n0c,hA.opd g,ha];simp[hk,AE.set]
   |false=>exact Uni.ofFresh ⟨true,t',y⟩ (.ptr d []) rfl fun Γ2 hA ρ K=>by simp[aop,h,hd,ht];rw[n0c,hA.opd g,ha];grind
theorem e0r{t:TypeId}{ps:Array (Nat×Operand)}(h:o.op=.build t ps∨∃n,o.op=.buildSlice t n ps):∀p∈ps.toList,p.2∈o.op.operands.toList:=by
 intro p hp;rcases h with h|⟨n,h⟩<;>rw[h]<;>simp only[Op.operands]<;>exact a13.2 ⟨p,hp,rfl⟩
theorem f0s{Γ Γ2:AE}:∀(τ:Ty)(k:Nat)(ps:List (Nat×Operand)),(∀p∈ps,Γ2.opd p.2=Γ.opd p.2)→Γ2.aggV k τ ps=Γ.aggV k τ ps
 |.pair u v,k,[],_=>by simp only[AE.aggV];rw[f0s v (k+1) [] (by simp)]
 |.pair u v,k,(i,o)::r,h=>by
  simp only[AE.aggV];rw[f0s v (k+1) r fun p hp=>h p (by simp[hp]),f0s v (k+1) ((i,o)::r) h,h (i,o) (by simp)]
 |.unit,_,[],_=>rfl
 |.unit,_,_::_,_=>rfl
 |.int _,_,_,_=>rfl
 |.bool,_,_,_=>rfl
 |.str,_,_,_=>rfl
 |.list _ _,_,_,_=>rfl
 |.arr _ _,_,_,_=>rfl
 |.nl _,_,_,_=>rfl
theorem x0u{t:TypeId}{ps:Array (Nat×Operand)}(h:o.op=.build t ps)(hd:o.dst=some d):Uni cx o d Γ:=by
 cases hn:cx.nlT d t with
 |some t'=>
  cases hagg:t'.isAgg with
  |false=>simp_all[Uni.none,aop]
  |true=>
   refine Uni.of ((g0a Γ.opd t' ps.toList t'.dflt).map fun y=>.val t' y) fun Γ2 hA ρ K=>?_
   simp only[aop,h,hd,hn,hagg,cT];rw[q0f,j0f Γ2.opd Γ.opd t' _ _ fun p hp=>hA.opd (e0r (.inl h) p hp)];cases g0a Γ.opd t' ps.toList t'.dflt<;>rfl
 |none=>
 cases hO:cx.O d with
 |some t'=>
  by_cases hT:cx.T t=some t'.sh
  ·cases hv:Γ.aggV 0 t' ps.toList with
   |none=>exact Uni.none fun Γ2 hA ρ K=>by simp only[aop,h,hd,hn,hO,if_pos hT,f0s t' 0 _ fun p hp=>hA.opd (e0r (.inl h) p hp),hv]
   |some vs=>
    cases hc:decide (0<t'.cells)with
    |false=>exact Uni.none fun Γ2 hA ρ K=>by simp only[aop,h,hd,hn,hO,if_pos hT,f0s t' 0 _ fun p hp=>hA.opd (e0r (.inl h) p hp),hv,hc,cF]
    |true=>exact Uni.put (.cmp .agg vs) fun Γ2 hA ρ K=>by simp only[aop,h,hd,hn,hO,if_pos hT,f0s t' 0 _ fun p hp=>hA.opd (e0r (.inl h) p hp),hv,hc,cT]
  exact Uni.none fun Γ2 hA ρ K=>by simp only[aop,h,hd,hn,hO,if_neg hT]
 |none=>
 cases ht:cx.T t with
 |none=>exact Uni.none fun Γ2 hA ρ K=>by simp only[aop,h,hd,hn,hO,ht]
 |some t'=>
  cases hagg:t'.isAgg with
  |false=>exact Uni.none fun Γ2 hA ρ K=>by simp[aop,h,hd,hn,hO,ht,hagg]
  |true=>
   refine Uni.of ((g0a Γ.opd t' ps.toList t'.dflt).map fun y=>.val t' y) fun Γ2 hA ρ K=>?_
   simp only[aop,h,hd,hn,hO,ht,hagg,cT];rw[q0f,j0f Γ2.opd Γ.opd t' _ _ fun p hp=>hA.opd (e0r (.inl h) p hp)];cases g0a Γ.opd t' ps.toList t'.dflt<;>rfl
theorem q0n{t:TypeId}{n:Nat}{ps:Array (Nat×Operand)}(h:o.op=.buildSlice t n ps)(hd:o.dst=some d):Uni cx o d Γ:=by
 cases ht:cx.T t with
 |none=>simp_all[Uni.none,aop]
 |some t'=>
  cases t' with
  |list o' e=>
   cases hc:(lim n&&decide (n*e.cells≤16777216))with
   |false=>exact Uni.none fun Γ2 hA ρ K=>by simp only[aop,h,hd,ht,hc,cF,cT,a42]
   |true=>
    cases hl:o0f Γ.opd e n ps.toList (a38 n e.dflt)with
    |none=>
     exact Uni.none fun Γ2 hA ρ K=>by
      simp[aop,h,hd,ht,hc];rw[r0u,i0o Γ2.opd Γ.opd e n _ _ (fun p hp=>hA.opd (e0r (.inr ⟨n,h⟩) p hp)),hl];rfl
    |some y=>
     cases hK:cx.K d with
     |true=>
      exact Uni.put (.one (.val (.list false e) y)) fun Γ2 hA ρ K=>by
       simp[aop,h,hd,ht,hc,hK];rw[r0u,i0o Γ2.opd Γ.opd e n _ _ (fun p hp=>hA.opd (e0r (.inr ⟨n,h⟩) p hp)),hl];rfl
     |false=>
      exact Uni.ofFresh ⟨false,.list true e,y⟩ (.sref d []) rfl fun Γ2 hA ρ K=>by
       simp[aop,h,hd,ht,hc,hK];rw[r0u,i0o Γ2.opd Γ.opd e n _ _ (fun p hp=>hA.opd (e0r (.inr ⟨n,h⟩) p hp)),hl];rfl
  |_=>exact Uni.none fun Γ2 hA ρ K=>by simp only[aop,h,hd,ht]
def o0g(lk:Nat→Option Root)(ty:Ty)(a:AV):Option AV:=match a with
 |.vptr t x=>if t=ty then some (.val t x)else none
 |.ptr n p=>match lk n with
  |some r=>match b0c r.t r.x p with
   |⟨.list true _,_⟩=>if ty.isList then some (.sref n p)else none
   |⟨t,y⟩=>if t.sh=ty∧t.shn=t then some (.val t y)else none
  |none=>none
 |_=>none
theorem B0a{ρ:Type}(Γ:AE)(ty:Ty)(a:AV)(K:AV→AE→Rs ρ):Γ.lodK true ty a K=(o0g Γ.look ty a).elim none fun v=>K v Γ:=by
 cases a with
 |vptr t x=>grind[AE.lodK,o0g]
 |ptr n p=>
  simp[AE.lodK,o0g]
  grind
 |_=>rfl
theorem z0c{t:TypeId}{x:Operand}(h:o.op=.load t x)(hd:o.dst=some d):Uni cx o d Γ:=by
 have f:x∈o.op.operands.toList:=by simp[h,Op.operands]
 cases ht:cx.T t with
 |none=>simp_all[Uni.none,aop]
 |some ty=>
  refine Uni.of (o0g Γ.look ty (cx.glob (Γ.opd x))) fun Γ2 hA ρ K=>?_
  simp[aop,h,hd,ht];rw[B0a,hA.opd f]
  have:o0g Γ2.look ty (cx.glob (Γ.opd x))=o0g Γ.look ty (cx.glob (Γ.opd x)):=by
   have k:=fun n a=>hA.look (n:=n) f a
   revert k
   cases Γ.opd x with
   |ptr n p=>simp_all[Cx.glob,o0g,AV.refs]
   |glob g=>
    intro _;simp[Cx.glob]
    split<;>rfl
   |_=>intro _;rfl
  grind
theorem t0b{x:Operand}(h:o.op=.nilCheck x)(hd:o.dst=some d):Uni cx o d Γ:=by
 have g:x∈o.op.operands.toList:=by simp[h,Op.operands]
 refine Uni.of (match Γ.opd x with|.ptr n p=>some (.ptr n p)|.vptr t y=>some (.vptr t y)|_=>none) fun Γ2 hA ρ K=>?_
 simp[aop,h,hd,hA.opd g]
 grind
theorem y0r{ρ:Type}(h:BinOp)(k:IntKind)(x y:Int)(K:AV→Rs ρ):i0d h k x y K=(i0d h k x y some).elim none K:=by
 cases h<;>simp only[i0d]<;>first|rfl|(cases (y==0)<;>rfl)|grind
theorem y0f{ρ:Type}(g:BinOp)(ty:Nat)(t:Ty)(x:t.den)(h:Ty)(y:h.den)(K:AV→Rs ρ):k0t cx g ty t x h y K=(k0t cx g ty t x h y some).elim none K:=by
 grind[k0t]
theorem A0k{ρ:Type}(h:BinOp)(ty:Nat)(a b:AV)(K:AV→Rs ρ):h0d cx h ty a b K=(h0d cx h ty a b some).elim none K:=by
 unfold h0d;split
 grind[y0r]
 grind
 grind
 all_goals grind[y0f]
theorem x0t{op:BinOp}{t s:TypeId}{x y:Operand}(h:o.op=.binOp op t x y s)(hd:o.dst=some d):Uni cx o d Γ:=by
 have g:x∈o.op.operands.toList:=by simp[h,Op.operands]
 have f:y∈o.op.operands.toList:=by simp[h,Op.operands]
 cases hl:u0j (cx.T t)with
 |true=>
  cases hn:s0p (cx.T t) (Γ.opd x) (Γ.opd y)with
  |some e=>exact Uni.none fun Γ2 hA ρ K=>by simp only[aop,h,hd,hA.opd g,hA.opd f,hl,hn,cT,if_true]
  |none=>exact Uni.none fun Γ2 hA ρ K=>by simp only[aop,h,hd,hA.opd g,hA.opd f,hl,hn,cT]
 |false=>
  refine Uni.of (h0d cx op t (Γ.opd x) (Γ.opd y) some) fun Γ2 hA ρ K=>?_
  simp[aop,h,hd,hA.opd g,hA.opd f,hl];exact A0k _ _ _ _ _
theorem B0f{ρ:Type}(h:UnOp)(a:AV)(K:AV→Rs ρ):AE.un h a K=(AE.un h a some).elim none K:=by
 unfold AE.un
 grind
theorem z0f{op:UnOp}{t:TypeId}{x:Operand}(h:o.op=.unOp op t x)(hd:o.dst=some d):Uni cx o d Γ:=by
 have g:x∈o.op.operands.toList:=by simp[h,Op.operands]
 refine Uni.of (AE.un op (Γ.opd x) some) fun Γ2 hA ρ K=>?_
 simp[aop,h,hd,hA.opd g];exact B0f _ _ _
theorem A0l{ρ:Type}(Γ:AE)(s t:Nat)(g f:Option Ty)(a:AV)(K:AV→Rs ρ)(h:Root→Rs ρ):Γ.convK s t g f a K h=(Γ.convK s t g f a (fun v=>some (Sum.inl v)) (fun r=>some (Sum.inr r)):Option (AV ⊕ Root)).elim none fun y=>match y with
  |.inl v=>K v
  |.inr r=>h r:=by
 unfold AE.convK;split;rfl
 grind
 rfl
 grind
 rw[k0x,k0x (ρ:=AV ⊕ Root)];generalize f0i Γ.look (.int .u8) _=r;cases r<;>rfl;rfl
theorem v0h{ρ:Type}{Γ Γ2:AE}(s t:Nat)(f k:Option Ty){a:AV}(h:∀n∈a.refs,Γ2.look n=Γ.look n)(K:AV→Rs ρ)(g:Root→Rs ρ):Γ2.convK s t f k a K g=Γ.convK s t f k a K g:=by
 unfold AE.convK
 grind[AV.refs,k0x,j0e]
theorem u0a{s t:TypeId}{x:Operand}(h:o.op=.convert s t x)(hd:o.dst=some d):Uni cx o d Γ:=by
 have g:x∈o.op.operands.toList:=by simp[h,Op.operands]
 have run:∀Γ2,b0w (a0h o) Γ Γ2→∀{ρ:Type}(K:AE→Rs ρ),aop cx true o Γ2 K=(Γ.convK s t (cx.T s) (cx.T t) (Γ.opd x) (fun v=>some (Sum.inl v)) (fun r=>some (Sum.inr r)):Option (AV ⊕ Root)).elim none fun y=>match y with
   |.inl v=>K (Γ2.set d v)
   |.inr r=>Γ2.fresh true d r fun Γ=>K (Γ.set d (.sref d [])):=fun Γ2 hA ρ K=>by
  simp[aop,h,hd,hA.opd g,AE.conv];rw[A0l,v0h s t _ _ fun n f=>hA.look g f]
 revert run
 generalize (Γ.convK s t (cx.T s) (cx.T t) (Γ.opd x) (fun v=>some (Sum.inl v)) (fun r=>some (Sum.inr r)):Option (AV ⊕ Root))=r;cases r with
 |none=>simp_all[Uni.none]
 |some y=>
  cases y with
  |inl v=>exact fun run=>Uni.put (.one v) run
  |inr r=>exact fun run=>Uni.ofFresh r (.sref d []) rfl run
end
section
variable {cx:Cx} {o:Oper} {d:Nat} {Γ:AE}
theorem u0k{ρ:Type}(a:AV)(t:Ty)(K:t.den→Rs ρ):a.isVal t K=(a.isVal t some).elim none K:=by
 cases a with
 |val t' x=>grind[AV.isVal]
 |_=>rfl
theorem r0q{t:TypeId}{n c:Operand}(h:o.op=.makeSlice t n c)(hd:o.dst=some d):Uni cx o d Γ:=by
 have f:n∈o.op.operands.toList:=by simp[h,Op.operands]
 have g:c∈o.op.operands.toList:=by simp[h,Op.operands]
 cases ht:cx.own d t with
 |none=>simp_all[Uni.none,aop]
 |some t'=>
  cases t' with
  |list o' e=>
   have run:∀Γ2,b0w (a0h o) Γ Γ2→∀{ρ:Type}(K:AE→Rs ρ),aop cx true o Γ2 K=((Γ.opd n).isVal (.int .i64) some).elim none fun(x:Int)=>((Γ.opd c).isVal (.int .i64) some).elim none fun(y:Int)=>
     bif decide (0≤x)&&(decide (x≤y)&&lim y.toNat)then Γ2.fresh true d ⟨false,.list true e,a38 x.toNat e.dflt⟩ fun Γ=>K (Γ.set d (.sref d []))else none:=fun Γ2 hA ρ K=>by
    simp[aop,h,hd,ht,hA.opd f,hA.opd g];refine(u0k _ (.int .i64) _).trans ?_
    grind[u0k]
   revert run
   generalize (Γ.opd n).isVal (.int .i64) some=rx;generalize (Γ.opd c).isVal (.int .i64) some=ry;intro run;cases rx with
   |none=>exact Uni.none run
   |some x=>
    cases ry with
    |none=>exact Uni.none run
    |some y=>
     cases hb:(decide (0≤(show Int from x))&&(decide ((show Int from x)≤(show Int from y))&&lim (show Int from y).toNat))with
     |false=>
      grind[Uni.none]
     |true=>
      refine Uni.ofFresh ⟨false,.list true e,a38 (show Int from x).toNat e.dflt⟩ (.sref d []) rfl fun Γ2 hA ρ K=>(run Γ2 hA K).trans ?_
      grind
  |_=>exact Uni.none fun Γ2 hA ρ K=>by simp only[aop,h,hd,ht]
theorem r0t{ρ:Type}(Γ:AE)(h g:Nat)(x:Option Operand)(K:Nat→Rs ρ):Γ.bnd h g x K=(Γ.bnd h g x some).elim none K:=by
 cases x with
 |none=>rfl
 |some x=>
  simp[AE.bnd]
  grind
theorem e0x{ρ:Type}(Γ:AE)(g:Nat)(lo hi:Option Operand)(K:Nat→Nat→Rs ρ):Γ.bnds g lo hi K=(Γ.bnds g lo hi fun x y=>some (x,y)).elim none fun p=>K p.1 p.2:=by
 unfold AE.bnds;rw[r0t,r0t (ρ:=Nat×Nat)];cases Γ.bnd g g hi some with
 |none=>rfl
 |some h=>
  simp[a15];rw[r0t,r0t (ρ:=Nat×Nat)];cases Γ.bnd h 0 lo some<;>rfl
theorem v0c{ρ:Type}{Γ Γ2:AE}{lo hi:Option Operand}(k:∀x,lo=some x→Γ2.opd x=Γ.opd x)(f:∀x,hi=some x→Γ2.opd x=Γ.opd x)(h:Nat)(K:Nat→Nat→Rs ρ):Γ2.bnds h lo hi K=Γ.bnds h lo hi K:=by
 have one:∀(x:Option Operand),(∀y,x=some y→Γ2.opd y=Γ.opd y)→∀(l g:Nat){ρ:Type}(K:Nat→Rs ρ),Γ2.bnd l g x K=Γ.bnd l g x K:=by
  intro x a l g ρ K;cases x with
  |none=>rfl
  |some y=>simp[AE.bnd];simp_all
 unfold AE.bnds;simp_all
theorem A0w{ρ:Type}(Γ:AE)(ty:Option Ty)(a:AV)(lo hi h:Option Operand)(K:AV→Rs ρ):Γ.slic ty a lo hi h K=(Γ.slic ty a lo hi h some).elim none K:=by
 unfold AE.slic;cases h with
 |some m=>
  simp
  cases (l0a (some m)&&l0a hi&&lo.isNone);rfl;simp[n0g]
  grind
 |none=>
  simp
  cases a with
  |val t l=>
   cases t with
   |str=>
    simp
    split;rw[e0x,e0x (ρ:=AV)];generalize (Γ.bnds _ lo hi fun x y=>some (x,y):Option (Nat×Nat))=r;cases r<;>rfl;rfl
   |list o e=>
    cases o
    simp
    split;rw[e0x,e0x (ρ:=AV)];generalize (Γ.bnds _ lo hi fun x y=>some (x,y):Option (Nat×Nat))=r;cases r<;>rfl;rfl;rfl
   |_=>rfl
  |nils=>
   cases ty with
   |none=>rfl
   |some t=>
    cases t with
    |list o e=>
     simp
     rw[e0x,e0x (ρ:=AV)];generalize (Γ.bnds _ lo hi fun x y=>some (x,y):Option (Nat×Nat))=r;cases r<;>rfl
    |_=>rfl
  |sref n p=>
   simp
   rw[e0y,e0y (ρ:=AV)];cases d0p Γ.look n p with
   |none=>rfl
   |some x=>
    simp[a15];split;cases lo<;>cases hi<;>simp only[]<;>(try rfl)<;>(rw[e0x,e0x (ρ:=AV)];generalize (Γ.bnds _ _ _ fun x y=>some (x,y):Option (Nat×Nat))=r;cases r<;>rfl)
    rfl
  |swin n p o k=>
   simp
   rw[e0y,e0y (ρ:=AV)];cases d0p Γ.look n p with
   |none=>rfl
   |some x=>
    simp[a15];split;rw[e0x,e0x (ρ:=AV)];generalize (Γ.bnds _ _ _ fun x y=>some (x,y):Option (Nat×Nat))=r;cases r<;>rfl;rfl
  |vptr t l=>
   cases t with
   |arr n e=>
    simp
    split;rw[e0x,e0x (ρ:=AV)];generalize (Γ.bnds _ lo hi fun x y=>some (x,y):Option (Nat×Nat))=r;cases r<;>rfl;rfl
   |_=>rfl
  |_=>rfl
theorem w0e{ρ:Type}{Γ Γ2:AE}{a:AV}{lo hi:Option Operand}(b:∀n∈a.refs,Γ2.look n=Γ.look n)(g:∀x,lo=some x→Γ2.opd x=Γ.opd x)(h:∀x,hi=some x→Γ2.opd x=Γ.opd x)(ty:Option Ty)(f:Option Operand)(K:AV→Rs ρ):
  Γ2.slic ty a lo hi f K=Γ.slic ty a lo hi f K:=by
 have c:=fun(len:Nat) {ρ:Type} (K:Nat→Nat→Rs ρ)=>v0c (Γ:=Γ) (Γ2:=Γ2) g h len K;unfold AE.slic;cases f with
 |some m=>rfl
 |none=>
  simp
  cases a with
  |val t l=>
   cases t with
   |str=>simp_all
   |list o e=>grind
   |_=>rfl
  |nils=>
   simp_all
  |sref n p=>
   simp
   rw[e0y,e0y,d0q (b n (by simp[AV.refs]))]
   grind
  |swin n p o k=>
   simp only[];rw[e0y,e0y,d0q (b n (by simp[AV.refs]))];simp only[c]
  |vptr t l=>
   grind
  |_=>rfl
theorem x0x{t:TypeId}{x:Operand}{lo hi mx:Option Operand}(k:o.op=.slice t x lo hi mx)(hd:o.dst=some d):Uni cx o d Γ:=by
 have a:x∈o.op.operands.toList:=by simp[k,Op.operands]
 have f:∀y,lo=some y→y∈o.op.operands.toList:=fun y h=>by simp_all[Op.operands]
 have g:∀y,hi=some y→y∈o.op.operands.toList:=fun y h=>by simp_all[Op.operands]
 refine Uni.of (Γ.slic (cx.T t) (Γ.opd x) lo hi mx some) fun Γ2 hA ρ K=>?_
 simp[aop,k,hd,hA.opd a];rw[w0e (fun n b=>hA.look a b) (fun y h=>hA.opd (f y h)) (fun y h=>hA.opd (g y h))]
 grind[A0w]
theorem r0o{s:TypeId}{x:Operand}{f:Nat}(h:o.op=.fieldAddr s x f)(hd:o.dst=some d):Uni cx o d Γ:=by
 have g:x∈o.op.operands.toList:=by simp[h,Op.operands]
 cases ha:Γ.opd x with
 |ptr n p=>
  have k:∀Γ2,b0w (a0h o) Γ Γ2→Γ2.rt n=Γ.rt n:=fun Γ2 hA=>hA.rt g (by rw[ha];simp[AV.refs]);cases hrt:Γ.rt n with
  |none=>exact Uni.none fun Γ2 hA ρ K=>by simp only[aop,h,hd,hA.opd g,ha,k Γ2 hA,hrt]
  |some r=>
   by_cases hc:b0y (b0c r.t r.x p).1 f=true∧cx.T s=some (b0c r.t r.x p).1.sh
   exact Uni.put (.one (.ptr n (p++b0f f))) fun Γ2 hA ρ K=>by
    simp[aop,h,hd,hA.opd g,ha,k Γ2 hA,hrt];rw[if_pos hc];rfl
   exact Uni.none fun Γ2 hA ρ K=>by
    simp only[aop,h,hd,hA.opd g,ha,k Γ2 hA,hrt];simp_all
 |vptr t y=>
  by_cases hc:b0y t f=true∧cx.T s=some t
  exact Uni.put (.one (.vptr (b0c t y (b0f f)).1 (b0c t y (b0f f)).2)) fun Γ2 hA ρ K=>by
   simp[aop,h,hd,hA.opd g,ha];rw[if_pos hc];rfl
  exact Uni.none fun Γ2 hA ρ K=>by
   simp only[aop,h,hd,hA.opd g,ha];simp_all
 |_=>exact Uni.none fun Γ2 hA ρ K=>by simp only[aop,h,hd,hA.opd g,ha]
theorem x0v{s:TypeId}{x:Operand}{f:Nat}(h:o.op=.field s x f)(hd:o.dst=some d):Uni cx o d Γ:=by
 have g:x∈o.op.operands.toList:=by simp[h,Op.operands]
 cases ha:Γ.opd x with
 |val t y=>
  by_cases hc:b0y t f=true∧cx.T s=some t
  exact Uni.put (.one (.val (b0c t y (b0f f)).1 (b0c t y (b0f f)).2)) fun Γ2 hA ρ K=>by
   simp[aop,h,hd,hA.opd g,ha];rw[if_pos hc];rfl
  exact Uni.none fun Γ2 hA ρ K=>by
   simp only[aop,h,hd,hA.opd g,ha];simp_all
 |_=>exact Uni.none fun Γ2 hA ρ K=>by simp only[aop,h,hd,hA.opd g,ha]
theorem n0d{α β γ:Type}{o:Option α}{f:α→β}{K:β→Option γ}:(o.bind fun x=>K (f x))=(o.bind fun x=>some (f x)).elim none K:=by cases o<;>rfl
theorem A0i{ρ:Type}(Γ:AE)(ty:Option Ty)(a:AV)(i:Int)(K:AV→Rs ρ):Γ.addrK ty a i K=(Γ.addrK ty a i some).elim none K:=by
 cases a with
 |val t l=>
  cases t with
  |list o e=>
   cases o;simp[AE.addrK];split;exact n0d;rfl;rfl
  |_=>rfl
 |sref n p=>
  simp only[AE.addrK];rw[n0e,n0e (ρ:=AV)];cases d0p Γ.rt n p with
  |none=>rfl
  |some x=>
   grind
 |swin n p o k=>
  simp[AE.addrK];rw[e0y,e0y (ρ:=AV)];cases d0p Γ.look n p with
  |none=>rfl
  |some x=>
   grind
 |ptr n p=>
  simp[AE.addrK]
  grind
 |vptr t l=>
  cases t with
  |arr k e=>
   simp[AE.addrK];split;exact n0d;rfl
  |_=>rfl
 |_=>rfl
theorem u0v{ρ:Type}{Γ Γ2:AE}{a:AV}(h:∀n∈a.refs,Γ2.look n=Γ.look n)(g:∀n∈a.refs,Γ2.rt n=Γ.rt n)(ty:Option Ty)(i:Int)(K:AV→Rs ρ):Γ2.addrK ty a i K=Γ.addrK ty a i K:=by
 cases a with
 |sref n p=>simp only[AE.addrK];rw[n0e,n0e,d0q (g n (by simp[AV.refs]))]
 |swin n p o k=>simp only[AE.addrK];rw[e0y,e0y,d0q (h n (by simp[AV.refs]))]
 |ptr n p=>simp_all[AE.addrK,AV.refs]
 |val t l=>
  cases t with
  |list o e=>cases o<;>rfl
  |_=>rfl
 |vptr t l=>cases t<;>rfl
 |_=>rfl
theorem r0p{t:TypeId}{x i:Operand}(b:o.op=.indexAddr t x i)(hd:o.dst=some d):Uni cx o d Γ:=by
 have c:x∈o.op.operands.toList:=by simp[b,Op.operands]
 have hi:i∈o.op.operands.toList:=by simp[b,Op.operands]
 have e:(∀k y,Γ.opd i≠.val (.int k) y)→Uni cx o d Γ:=fun h=>Uni.none fun Γ2 hA ρ K=>by
  simp[aop,b,hd,hA.opd hi]
  grind
 cases ha:Γ.opd i with
 |val t' y=>
  cases t' with
  |int k=>
   refine Uni.of (Γ.addrK (cx.T t) (cx.glob (Γ.opd x)) (show Int from y) some) fun Γ2 hA ρ K=>?_
   simp[aop,b,hd,hA.opd hi,hA.opd c,ha];have f:∀n∈(cx.glob (Γ.opd x)).refs,n∈(Γ.opd x).refs:=fun n a=>by
    revert a
    cases Γ.opd x with
    |glob g=>
     simp[Cx.glob]
     split<;>exact fun h=>h
    |_=>exact id
   exact(u0v (fun n a=>hA.look c (f n a)) (fun n a=>hA.rt c (f n a)) (cx.T t) (show Int from y) _).trans (A0i _ _ _ _ _)
  |_=>exact e (by rw[ha];intro k y h;cases h)
 |_=>exact e (by rw[ha];intro k y h;cases h)
def m0l{ρ:Type}(ty:Option Ty)(x i:AV)(K:AV→Rs ρ):Rs ρ:=match x,i with
 |.val (.arr n t) l,.val (.int _) (i:Int)=>if ty=some (.arr n t)then(m0k l i).bind fun y=>K (.val t y)else none
 |.val .str (l:List Int),.val (.int _) (i:Int)=>if ty=some .str then(m0k l i).bind fun y=>K (.val (.int .u8) y)else none
 |_,_=>none
theorem y0q{ρ:Type}(ty:Option Ty)(x i:AV)(K:AV→Rs ρ):m0l ty x i K=(m0l ty x i some).elim none K:=by
 unfold m0l;split;split;exact n0d;rfl;split;exact n0d;rfl;rfl
theorem x0w{s:TypeId}{x i:Operand}(h:o.op=.index s x i)(hd:o.dst=some d):Uni cx o d Γ:=by
 have g:x∈o.op.operands.toList:=by simp[h,Op.operands]
 have hi:i∈o.op.operands.toList:=by simp[h,Op.operands]
 refine Uni.of (m0l (cx.T s) (Γ.opd x) (Γ.opd i) some) fun Γ2 hA ρ K=>?_
 have:aop cx true o Γ2 K=m0l (cx.T s) (Γ.opd x) (Γ.opd i) fun v=>K (Γ2.set d v):=by
  simp[aop,h,hd,hA.opd g,hA.opd hi];rfl
 grind[y0q]
theorem u0b{x:Operand}{i:Nat}(h:o.op=.extract x i)(hd:o.dst=some d):Uni cx o d Γ:=by
 have k:x∈o.op.operands.toList:=by simp[h,Op.operands]
 cases x with
 |tmp t=>
  have g:∀Γ2,b0w (a0h o) Γ Γ2→Γ2.sl t=Γ.sl t:=fun Γ2 hA=>(hA.2 t (d0a k)).1;cases hv:Γ.sl t with
  |one v=>simp_all[Uni.none,aop]
  |cmp c vs=>
   cases c with
   |agg=>simp_all[Uni.none,aop]
   |clo f=>simp_all[Uni.none,aop]
   |tup=>
   cases hi:vs[i]? with
   |none=>simp_all[Uni.none,aop]
   |some v=>exact Uni.put (.one v) fun Γ2 hA ρ K=>by simp[aop,h,hd,g Γ2 hA,hv,hi];rfl
 |_=>simp_all[Uni.none,aop]
end
section
variable {cx:Cx} {o:Oper} {d:Nat} {Γ:AE}
theorem A0z{ρ:Type}(Γ:AE)(ty:Option Ty)(a:AV)(K:Nat→Rs ρ):Γ.lenK ty a K=(Γ.lenK ty a some).elim none K:=by
 unfold AE.lenK
 grind
theorem x0n{ρ:Type}{Γ Γ2:AE}{a:AV}(h:∀n∈a.refs,Γ2.look n=Γ.look n)(ty:Option Ty)(K:Nat→Rs ρ):Γ2.lenK ty a K=Γ.lenK ty a K:=by
 unfold AE.lenK
 grind[AV.refs]
theorem s0o{ρ:Type}(f:Int→Int→Int)(k:IntKind):∀(l:List AV)(x:Int)(K:AV→Rs ρ),AE.mins f k l x K=(AE.mins f k l x some).elim none K
 | [],x,K=>rfl
 |a::r,x,K=>by
  cases a with
  |val t y=>
   cases t with
   |int k'=>
    simp only[AE.mins];split;exact s0o f k r _ K;rfl
   |_=>rfl
  |_=>rfl
theorem o0u{ρ:Type}(Γ:AE)(e:Ty)(x:AV)(ys:List e.den)(K:AE→Rs ρ):Γ.apnd true d e x ys K=(match x with
  |.nils|.empt=>bif lim ys.length then Γ.fresh true d ⟨false,.list true e,ys⟩ fun Γ=>K (Γ.set d (.sref d []))else none
  |_=>none):=by
 cases x<;>rfl
theorem o0o{e:Ty}{x:AV}{ys:Option (List e.den)}(h:∀Γ2,b0w (a0h o) Γ Γ2→∀{ρ:Type}(K:AE→Rs ρ),aop cx true o Γ2 K=ys.elim none fun ys=>Γ2.apnd true d e x ys K):Uni cx o d Γ:=by
 cases ys with
 |none=>exact Uni.none h
 |some ys=>
  have h:∀Γ2,b0w (a0h o) Γ Γ2→∀{ρ:Type}(K:AE→Rs ρ),aop cx true o Γ2 K=Γ2.apnd true d e x ys K:=h;cases hl:lim ys.length with
  |false=>grind[Uni.none,o0u]
  |true=>
   cases x with
   |nils=>exact Uni.ofFresh ⟨false,.list true e,ys⟩ (.sref d []) rfl fun Γ2 hA ρ K=>by simp_all[o0u]
   |empt=>exact Uni.ofFresh ⟨false,.list true e,ys⟩ (.sref d []) rfl fun Γ2 hA ρ K=>by simp_all[o0u]
   |_=>exact Uni.none fun Γ2 hA ρ K=>by rw[h Γ2 hA,o0u]
theorem u0l{Γ2:AE}(h:b0w (a0h o) Γ Γ2){c:Call}(g:o.op=.call c):c.args.toList.map Γ2.opd=c.args.toList.map Γ.opd:=
 a06 fun x f=>h.opd (by simp_all[Op.operands,Call.operands])
theorem g0m{c:Call}(h:o.op=.call c):∀x∈c.args.toList,x∈o.op.operands.toList:=fun x g=>by
 simp_all[Op.operands,Call.operands]
theorem t0z{c:Call}{b:Builtin}(m:o.op=.call c)(q:c.callee=.builtin b)(hd:o.dst=some d):Uni cx o d Γ:=by
 have run:∀Γ2,b0w (a0h o) Γ Γ2→∀{ρ:Type}(K:AE→Rs ρ),aop cx true o Γ2 K=Γ2.blt true cx d b c.argTypes.toList (c.args.toList.map Γ.opd) K:=fun Γ2 hA ρ K=>by
  grind[aop,u0l]
 have i:∀a∈c.args.toList.map Γ.opd,∀n∈a.refs,∀Γ2,b0w (a0h o) Γ Γ2→Γ2.look n=Γ.look n:=fun a l n j Γ2 hA=>by
  obtain⟨x,p,rfl⟩:=a13.1 l;exact hA.look (g0m m x p) j
 revert run i
 generalize c.args.toList.map Γ.opd=as;generalize c.argTypes.toList=ts;intro run i;have g:(∀(Γ2:AE){ρ:Type}(K:AE→Rs ρ),Γ2.blt true cx d b ts as K=none)→Uni cx o d Γ:=fun h=>Uni.none fun Γ2 hA ρ K=>by simp_all
 cases b with
 |len=>
  match as with
  | [a]=>
   refine Uni.of ((Γ.lenK (ts.head?.bind cx.T) a some).map fun n=>.val (.int .i64) (n:Int)) fun Γ2 hA ρ K=>?_
   rw[run Γ2 hA];simp only[AE.blt];rw[A0z,x0n fun n j=>i a (by simp) n j Γ2 hA];cases Γ.lenK (ts.head?.bind cx.T) a some<;>rfl
  | []=>exact g fun Γ2 ρ K=>rfl
  |_::_::_=>exact g fun Γ2 ρ K=>rfl
 |max=>
  match as with
  | []=>exact g fun Γ2 ρ K=>rfl
  |a::r=>
   cases a with
   |val t x=>
    cases t with
    |int k=>exact Uni.of (AE.mins v0r k r x some) fun Γ2 hA ρ K=>by rw[run Γ2 hA];exact s0o _ _ _ _ _
    |_=>exact g fun Γ2 ρ K=>rfl
   |_=>exact g fun Γ2 ρ K=>rfl
 |min=>
  match as with
  | []=>exact g fun Γ2 ρ K=>rfl
  |a::r=>
   cases a with
   |val t x=>
    cases t with
    |int k=>exact Uni.of (AE.mins v0s k r x some) fun Γ2 hA ρ K=>by rw[run Γ2 hA];exact s0o _ _ _ _ _
    |_=>exact g fun Γ2 ρ K=>rfl
   |_=>exact g fun Γ2 ρ K=>rfl
 |append=>
  match as with
  | []=>exact g fun Γ2 ρ K=>rfl
  | [_]=>exact g fun Γ2 ρ K=>rfl
  |_::_::_::_=>exact g fun Γ2 ρ K=>rfl
  | [a,b]=>
   cases hni:m0p cx ts with
   |false=>
    cases hzl:t0f cx ts a b with
    |none=>exact g fun Γ2 ρ K=>by simp only[AE.blt,hni,l0d,hzl,cF]
    |some w=>
     obtain⟨e,ys⟩:=w;exact o0o (e:=e) (x:=.nils) (ys:=some ys) fun Γ2 hA ρ K=>by
      rw[run Γ2 hA];simp only[AE.blt,hni,l0d,hzl,cF];rfl
   |true=>
    cases ht:ts.head?.bind cx.T with
    |none=>simp_all[AE.blt]
    |some τ=>
     cases τ with
     |list o' e=>
      have f:(∀(Γ2:AE){ρ:Type}(K:AE→Rs ρ),Γ2.blt true cx d .append ts [a,b] K=Γ2.elems e b fun ys=>Γ2.apnd true d e a ys K)→Uni cx o d Γ:=fun h=>
       o0o (e:=e) (x:=a) (ys:=f0i Γ.look e b) fun Γ2 hA ρ K=>by
        simp_all[k0x,j0e]
      cases b with
      |val t y=>
       cases t with
       |str=>
        by_cases he:e=.int .u8
        subst he;exact o0o (e:=.int .u8) (x:=a) (ys:=some y) fun Γ2 hA ρ K=>by
         rw[run Γ2 hA];simp only[AE.blt,hni,ht,cT];rfl
        simp_all[AE.blt]
       |_=>exact f fun Γ2 ρ K=>by simp only[AE.blt,hni,ht,cT,a42]
      |_=>exact f fun Γ2 ρ K=>by simp only[AE.blt,hni,ht,cT,a42]
     |_=>exact g fun Γ2 ρ K=>by simp only[AE.blt,hni,ht,cT]
 |cap=>
  match as with
  | []=>exact g fun Γ2 ρ K=>rfl
  |a::_::_=>exact g fun Γ2 ρ K=>by cases a<;>rfl
  | [a]=>
   cases a with
   |nils=>
    refine Uni.of (bif Ty.isList ((ts.head?.bind cx.T).getD .unit)then some (.val (.int .i64) (0:Int))else none) fun Γ2 hA ρ K=>?_
    rw[run Γ2 hA];simp only[AE.blt];cases Ty.isList ((ts.head?.bind cx.T).getD .unit)<;>rfl
   |_=>exact g fun Γ2 ρ K=>rfl
 |_=>exact g fun Γ2 ρ K=>by unfold AE.blt;split<;>first|rfl|(rename_i h;cases h)|(rename_i h _;cases h)
def j0a(fz:Bool)(lk:Nat→Option Root):(p:PA)→AV→Option p.ty.den
 |.v t,a=>bif fz then e0j t a else g0k lk t a
 |.r _ _,_=>none
theorem j0t{ρ:Type}(Γ:AE)(fz:Bool)(seen:List Nat)(p:PA)(a:AV)(K:p.ty.den→AE→List Nat→List Nat→Rs ρ):
  Γ.arg fz true [] seen p a K=(j0a fz Γ.look p a).elim none fun x=>K x Γ [] (bif fz then seen else a.viewed++seen):=by
 cases p with
 |v t=>
  simp only[AE.arg];rw[show(a.viewed.any fun n=>([]:List Nat).contains n)=false from by simp]
  simp
  cases fz with
  |true=>simp[j0a];rw[n0c];rfl
  |false=>
   simp[j0a];rw[y0a];rfl
 |r c b=>
  cases b with
  |v t=>rfl
  |b t=>
   cases a with
   |ptr n p=>cases p<;>simp[AE.arg,j0a]
   |_=>rfl
  |o e=>
   cases a with
   |sref n p=>cases p<;>simp[AE.arg,j0a]
   |_=>rfl
def AE.argso(Γ:AE)(fz:Bool)(seen:List Nat)(ps:List PA)(as:List AV):Option (b0u (ps.map PA.ty)).den:=Γ.args fz true [] seen ps as fun x _ _=>some x
theorem s0a(Γ:AE)(fz:Bool)(h:List PA):∀{ρ:Type}(as:List AV)(seen:List Nat)(K:(b0u (h.map PA.ty)).den→AE→List Nat→Rs ρ),Γ.args fz true [] seen h as K=(Γ.argso fz seen h as).elim none fun x=>K x Γ []:=by
 induction h with
 |nil=>
  intro ρ as seen K;cases as<;>rfl
 |cons p h ih=>
  intro ρ as seen K;cases as with
  |nil=>cases h<;>rfl
  |cons a as=>
   cases h with
   |nil=>
    cases as with
    |nil=>
     simp[AE.argso,AE.args];rw[j0t,j0t];cases j0a fz Γ.look p a<;>rfl
    |cons=>rfl
   |cons p' h=>
    simp[AE.argso,AE.args];rw[j0t,j0t];cases j0a fz Γ.look p a with
    |none=>rfl
    |some x=>
     simp[a15];rw[ih,ih];cases Γ.argso fz (bif fz then seen else a.viewed++seen) (p'::h) as<;>rfl
theorem u0z{Γ:AE}(fz:Bool)(g:List PA):∀(as:List AV)(seen:List Nat)(x:(b0u (g.map PA.ty)).den),Γ.argso fz seen g as=some x→d0o g=[]:=by
 induction g with
 |nil=>intro as seen x h;rfl
 |cons p g ih=>
  intro as seen x h;cases as with
  |nil=>cases g<;>cases h
  |cons a as=>
   cases g with
   |nil=>
    cases as with
    |nil=>
     simp[AE.argso,AE.args]at h;rw[j0t]at h;cases p with
     |v t=>rfl
     |r c t=>cases h
    |cons=>cases h
   |cons p' g=>
    simp[AE.argso,AE.args]at h;rw[j0t]at h;cases p with
    |r c t=>cases h
    |v t=>
     cases h1:j0a fz Γ.look (.v t) a with
     |none=>simp_all
     |some y=>
      rw[h1]at h;simp at h;rw[s0a]at h;cases h2:Γ.argso fz (bif fz then seen else a.viewed++seen) (p'::g) as with
      |none=>simp_all
      |some z=>exact ih as _ z h2
theorem t0i{Γ Γ2:AE}(fz:Bool)(g:List PA):∀(as:List AV)(seen:List Nat),(∀a∈as,∀n∈a.refs,Γ2.look n=Γ.look n)→Γ2.argso fz seen g as=Γ.argso fz seen g as:=by
 have one:∀(p:PA)(a:AV),(∀n∈a.refs,Γ2.look n=Γ.look n)→j0a fz Γ2.look p a=j0a fz Γ.look p a:=fun p a h=>by
  cases p with
  |v t=>simp_all[j0a,n0x]
  |r c t=>rfl
 induction g with
 |nil=>intro as seen h;cases as<;>rfl
 |cons p g ih=>
  intro as seen h;cases as with
  |nil=>cases g<;>rfl
  |cons a as=>
   cases g with
   |nil=>
    cases as with
    |nil=>
     simp_all[AE.argso,AE.args,j0t]
    |cons=>rfl
   |cons p' g=>
    simp[AE.argso,AE.args]
    grind[j0t,s0a]
theorem q0u{ρ:Type}(Γ:AE):∀(ns:List Nat)(K:AE→Rs ρ),Γ.dropAll true [] ns K=bif ns.all fun n=>decide (n<pinned)&&(Γ.rt n).isNone then K Γ else none
 | [],K=>rfl
 |n::r,K=>by
  simp only[AE.dropAll,a14];rw[show(!([]:List Nat).contains n)=true from by simp,Bool.and_true];cases decide (n<pinned);rfl
  ·simp
   cases Γ.rt n with
   |none=>simp_all[q0u]
   |some x=>simp
def d0g:List Nat→List ((r:RA)×r.ty.den)→List (Nat×Root)
 |k::ns,it::its=>match a0q it with
  |some r=>(k,r)::d0g ns its
  |none=>d0g ns its
 |_,_=>[]
theorem i0l:∀(ns:List Nat)(its:List ((r:RA)×r.ty.den)) (n:Nat),find (d0g ns its) n=c0b ns its n
 | [],its,n=>by rfl
 |k::ns,[],n=>rfl
 |k::ns,it::its,n=>by
  simp[d0g,c0b];cases a0q it with
  |none=>simp_all[i0l]
  |some r=>
   simp[find];rw[i0l ns its n]
   grind
theorem l0b:∀(rs:List RA)(n:Nat)(its:List ((r:RA)×r.ty.den)),(∀(k:Nat) it,its[k]?=some it→k<rs.length→rs[k]?=some it.1)→rs.length≤its.length→
  (d0g (b0d rs n++[]) its).map (·.1)=c0h rs n
 | [],n,its,h,hl=>by rfl
 |r::rs,n,[],h,hl=>by simp_all
 |r::rs,n,it::its,h,hl=>by
  have f:=h 0 it rfl (by simp);simp at f;have i:=l0b rs (n+1000) its (fun k g d a=>by simpa using h (k+1) g (by simp_all) (by simp_all)) (by simp_all);obtain⟨c,x⟩:=it;obtain rfl:r=c:=f;simp only[b0d,List.cons_append,d0g];cases r with
  |v t=>simp_all[a0q,c0h]
  |o e=>simp_all[a0q,c0h]
  |b t=>simp_all[a0q,c0h]
theorem w0w{ks:List Nat}:AV.deeps [] ks=id:=by
 funext a;cases a<;>simp[AV.deeps]
theorem w0r{n:Nat}:∀{it:(r:RA)×r.ty.den},(p0w n it).firm=true→a0q it=none
 |⟨.v t,x⟩,_=>rfl
 |⟨.o e,x⟩,h=>by cases h
 |⟨.b t,x⟩,h=>by cases h
theorem o0v:∀(ns:List Nat)(its:List ((r:RA)×r.ty.den)),(d0h ns its).all AV.firm=true→ns.length=its.length→d0g ns its=[]
 | [],its,_,_=>by rfl
 |k::ns,[],_,h=>by rfl
 |k::ns,it::its,h,hl=>by
  simp only[d0h,a14,bA]at h;simp only[d0g];rw[w0r h.1];exact o0v ns its h.2 (by simpa using hl)
theorem h0g:∀(ns:List Nat)(its:List ((r:RA)×r.ty.den)) (n:Nat),c0b ns its n≠none→n∈ns
 | [],_,n,h=>absurd rfl h
 |_::_,[],n,h=>absurd rfl h
 |k::ns,it::its,n,h=>by
  simp only[c0b]at h;cases hr:a0q it with
  |none=>rw[hr]at h;exact a03 _ (h0g ns its n h)
  |some r=>
   rw[hr]at h;simp only[]at h
   by_cases e:n=k
   subst e;exact a11
   have:(n==k)=false:=by simpa using e
   rw[this]at h;exact a03 _ (h0g ns its n h)
theorem z0b{c:Call}{f:FuncId}(t:o.op=.call c)(z:c.callee=.value (.func f))(hd:o.dst=some d):Uni cx o d Γ:=by
  cases hs:cx.C f with
  |none=>simp_all[Uni.none,aop]
  |some s=>
    let fz:=s.rs.any RA.hasList || (d0o s.ps).any RA.hasList
    let j:=c0h s.rs (d+1000)
    have A:∀a∈c.args.toList.map Γ.opd,∀n∈a.refs,∀Γ2,b0w (a0h o) Γ Γ2→Γ2.look n=Γ.look n:=fun a l n q Γ2 hA=>by
      obtain⟨x,b,rfl⟩:=a13.1 l;exact hA.look (g0m t x b) q
    have run:∀Γ2,b0w (a0h o) Γ Γ2→∀{ρ:Type}(K:AE→Rs ρ),aop cx true o Γ2 K=(match Γ.pd with
        |some _=>none
        |none=>(Γ.argso fz [] s.ps (c.args.toList.map Γ.opd)).elim none fun x=>bif j.all (fun n=>decide (n<pinned)&&(Γ2.rt n).isNone)then(s.F x).bind fun y=>
            (let Γ3:AE:=⟨fun i=>(Γ2.sl i).mapv (AV.deeps [] (Γ2.unbx (brw s.ps []))),fun n=>match c0b (b0d s.rs (d+1000)++[]) (c0d (RA.all s.ps s.rs) y) n with
              |some r=>some r
              |none=>Γ2.rt n,none⟩
             match d0h (b0d s.rs (d+1000)) (c0d (RA.all s.ps s.rs) y)with
              | [v]=>K (Γ3.set d v)
              |vs=>K (Γ3.put d (.cmp .tup vs)))else none):=fun Γ2 hA ρ K=>by
      simp only[aop,t,hd,z,hs,u0l hA t];unfold AE.call;rw[hA.1];cases Γ.pd with
      |some p=>rfl
      |none=>
        simp only[];rw[s0a,t0i _ _ _ _ fun a l n q=>A a l n q Γ2 hA];cases Γ.argso (s.rs.any RA.hasList || (d0o s.ps).any RA.hasList) [] s.ps (c.args.toList.map Γ.opd)with
        |none=>rfl
        |some x=>
          grind[q0u]
    cases hpd:Γ.pd with
    |some p=>simp_all[Uni.none]
    |none=>
      rw[hpd]at run;cases b:Γ.argso fz [] s.ps (c.args.toList.map Γ.opd)with
      |none=>simp_all[Uni.none]
      |some x=>
        cases hy:s.F x with
        |none=>
          simp_all[Uni.none]
        |some y=>
          let h:=c0d (RA.all s.ps s.rs) y
          let ns:=b0d s.rs (d+1000)
          let sv:SV:=match d0h ns h with
            | [v]=>.one v
            |vs=>.cmp .tup vs

          have u:=u0z fz s.ps _ _ x b;have g:RA.all s.ps s.rs=s.rs:=by rw[RA.all,u];simp
          have w:h.length=s.rs.length:=by rw[show h=c0d (RA.all s.ps s.rs) y from rfl,f0l,g]
          have B:(d0g (ns++[]) h).map (·.1)=j:=l0b s.rs (d+1000) h (fun k it D _=>by
            grind[i0e]) (by omega)
          have m:∀n,find (d0g (ns++[]) h) n=c0b (ns++[]) h n:=i0l _ _;refine⟨some ⟨d0g (ns++[]) h,sv⟩,fun δ e=>?_,fun Γ2 hA ρ K=>?_⟩
          grind[h0g,d0z,SV.firm,o0v,h0j]
          · rw[run Γ2 hA,b]
            simp only[a15,hy,oB,l0z];rw[show((d0g (ns++[]) h).all fun p=>decide (p.1<pinned)&&(Γ2.rt p.1).isNone)=j.all fun n=>decide (n<pinned)&&(Γ2.rt n).isNone from by grind[List.all_map]];cases (j.all fun n=>decide (n<pinned)&&(Γ2.rt n).isNone)with
            |false=>rfl
            |true=>
              simp only[cT];have E:∀sv':SV,(⟨fun i=>(Γ2.sl i).mapv (AV.deeps [] (Γ2.unbx (brw s.ps []))),fun n=>match c0b (b0d s.rs (d+1000)++[]) (c0d (RA.all s.ps s.rs) y) n with
                  |some r=>some r
                  |none=>Γ2.rt n,none⟩:AE).put d sv'=(Dl.mk (d0g (ns++[]) h) sv').app d Γ2:=fun sv'=>by
                simp only[AE.put,Dl.app];congr 1;funext i;rw[w0w]
                have:(Γ2.sl i).mapv id=Γ2.sl i:=by cases Γ2.sl i<;>simp[SV.mapv]
                grind
                grind
                all_goals exact(hA.1.trans hpd).symm
              grind[AE.set]
end
section
variable {cx:Cx} {o:Oper} {d:Nat} {Γ:AE}
theorem q0m(hd:o.dst=some d):Uni cx o d Γ:=by
 cases ho:o.op
 case move x=>exact z0d ho hd
 case assign x=>exact w0i ho hd
 case pick x y u=>exact z0e ho hd
 case alloc t=>exact x0s ho hd
 case box t x=>exact A0e ho hd
 case build t x=>exact x0u ho hd
 case buildSlice t n x=>grind[q0n]
 case load t x=>exact z0c ho hd
 case nilCheck x=>exact t0b ho hd
 case binOp op t x y s=>exact x0t ho hd
 case unOp op t x=>exact z0f ho hd
 case convert s t x=>exact u0a ho hd
 case makeSlice t x y=>grind[r0q]
 case slice t x u v m=>exact x0x ho hd
 case fieldAddr s x f=>grind[r0o]
 case field s x f=>exact x0v ho hd
 case indexAddr t x i=>grind[r0p]
 case index t x i=>exact x0w ho hd
 case extract x i=>exact u0b ho hd
 case makeFunc fn first caps=>exact t0a ho hd
 case store t x y=>simp_all[Uni.none,aop]
 case call c=>
  cases hc:c.callee with
  |builtin b=>simp_all[t0z]
  |invoke r n=>simp_all[Uni.none,aop]
  |value v=>
   cases v with
   |func f=>exact z0b ho hc hd
   |tmp t=>simp_all[Uni.none,aop]
   |_=>simp_all[Uni.none,aop]
 all_goals exact Uni.none fun Γ2 hA ρ K=>by simp only[aop,ho,hd]
theorem y0u(Γ:AE){g:Nat}{sv:SV}(h:Γ.sl g=sv):Γ.put g sv=Γ:=by
 obtain⟨k,rt,f⟩:=Γ;simp only[AE.put];congr 1
 grind
theorem d0i{ops:Array Oper}{t:Nat}(h:t∈a0h o):t∈o.looksAt ops:=by
 simp only[Oper.looksAt,mA];exact .inl h
theorem n0p{ops:Array Oper}{j g:Nat}{want:Bool}(h:o.guard=some (j,want))(f:g0f ops.toList j=some g):g∈o.looksAt ops:=by
 simp_all[Oper.looksAt,g0f]
def c0g(ops:Array Oper)(o:Oper)(Γ:AE):Option Bool:=match o.guard with
 |none=>some true
 |some (j,want)=>match g0f ops.toList j with
  |none=>none
  |some g=>match Γ.get g with
   |.val .bool (b:Bool)=>some (b==want)
   |.skp=>some false
   |_=>none
theorem e0g{ρ:Type}{ops:Array Oper}{md:Md}(Γ:AE)(K:AE→Rs ρ):a0m cx md ops.toList o Γ K=(match c0g ops o Γ with
  |some true=>c0o cx md o Γ K
  |some false=>K (Γ.setD o.dst .skp)
  |none=>none):=by
 unfold a0m c0g;cases hg:o.guard with
 |none=>rfl
 |some p=>
  obtain⟨j,k⟩:=p
  simp
  cases hj:g0f ops.toList j with
  |none=>rfl
  |some g=>
   simp
   have f:∀(v:AV),v≠.dead→Γ.get g=v→Γ.set g v=Γ:=fun v hv h=>y0u Γ (by
    grind[AE.get])
   grind
theorem d0b{ρ:Type}{ops:Array Oper}{md:Md}(hd:o.dst=some d)(Γ:AE)(K:AE→Rs ρ):a0m cx md ops.toList o Γ K=(match c0g ops o Γ with
  |some true=>c0o cx md o Γ K
  |some false=>K (Γ.put d (.one .skp))
  |none=>none):=by
 rw[e0g,hd];rfl
theorem d0x{ops:Array Oper}{Γ Γ2:AE}(h:∀t∈o.looksAt ops,Γ2.sl t=Γ.sl t):c0g ops o Γ2=c0g ops o Γ:=by
 grind[c0g,AE.get,n0p]
theorem s0m{ops:Array Oper}{j g:Nat}{want:Bool}(f:o.guard=some (j,want))(k:g0f ops.toList j=some g)(h:c0g ops o Γ≠none):(Γ.sl g).firm=true:=by
 unfold c0g at h;rw[f]at h;simp only[k,AE.get]at h;cases hs:Γ.sl g with
 |cmp c0 vs=>simp_all
 |one v=>
  rw[hs]at h;cases v<;>first|rfl|simp_all
def k0p(T:List Nat)(Γ Γ2:AE):Prop:=Γ2.pd=Γ.pd∧∀t∈T,Γ2.sl t=Γ.sl t∧∀n∈(Γ.sl t).refs,Γ2.rt n=Γ.rt n
theorem k0p.sub{ops:Array Oper}{Γ Γ2:AE}(h:k0p (o.looksAt ops) Γ Γ2):b0w (a0h o) Γ Γ2:=⟨h.1,fun t g=>h.2 t (d0i g)⟩
theorem q0y{α:Type}{l:List (Nat×α)}{n:Nat}:find l n=none↔∀p∈l,p.1≠n:=by
 induction l with
 |nil=>simp[find]
 |cons p l ih=>
  obtain⟨k,x⟩:=p;simp only[find,mC,forall_eq_or_imp]
  grind
theorem m0v{ρ:Type}{r:Option Dl}{Γ2:AE}{K:AE→Rs ρ}{z:ρ}(h:l0z r d Γ2 K=some z):∃δ,r=some δ∧(∀n,find δ.rs n≠none→Γ2.rt n=none)∧K (δ.app d Γ2)=some z∧(δ.rs.all fun p=>decide (p.1<pinned))=true:=by
 cases r with
 |none=>cases h
 |some δ=>
  simp[l0z]at h;obtain⟨g,h⟩:=(a0b h).elim id fun h=>by grind
  refine⟨δ,rfl,fun n f=>?_,h,?_⟩
  by_cases e:∃p∈δ.rs,p.1=n
  obtain⟨p,hp,rfl⟩:=e
  have:=lA.1 g p hp
  simp_all;simp_all[q0y]
  grind
theorem q0j{ρ:Type}{δ:Dl}{Γ2:AE}{K:AE→Rs ρ}(h:(δ.rs.all fun p=>decide (p.1<pinned))=true)(g:∀n,find δ.rs n≠none→Γ2.rt n=none):l0z (some δ) d Γ2 K=K (δ.app d Γ2):=by
 simp[l0z];rw[show(δ.rs.all fun p=>decide (p.1<pinned)&&(Γ2.rt p.1).isNone)=true from lA.2 fun p hp=>by
  have a:=lA.1 h p hp;have b:=g p.1 fun e=>q0y.1 e p hp rfl;simp_all]
 rfl
theorem q0z{v:AV}(h:v.firm=true):v.refs=[]:=by cases v<;>first|rfl|cases h
theorem h0z{sv:SV}(h:sv.firm=true):sv.refs=[]:=by
 cases sv with
 |one v=>exact q0z h
 |cmp c0 vs=>
  simp[SV.refs];exact fun v hv=>q0z (lA.1 h v hv)
theorem p0e{sv:SV}(h:sv.firm=true):sv.alive=true:=by
 have one:∀v:AV,v.firm=true→v.alive=true:=fun v h=>by cases v<;>first|rfl|cases h
 cases sv with
 |one v=>exact one v h
 |cmp c0 vs=>exact lA.2 fun v hv=>one v (lA.1 h v hv)
def b0o(ops:Array Oper)(o:Oper):List Nat:=match o.guard with
 |none=>[]
 |some (j,_)=>(g0f ops.toList j).toList
theorem c0k{ops:Array Oper}{t:Nat}(h:t∈b0o ops o):t∈o.looksAt ops:=by
 grind[b0o,n0p]
theorem b0v{ops:Array Oper}{Γ Γ2:AE}(h:∀t∈b0o ops o,Γ2.sl t=Γ.sl t):c0g ops o Γ2=c0g ops o Γ:=by
 grind[c0g,b0o,AE.get]
theorem e0m{ops:Array Oper}(h:c0g ops o Γ≠none):∀t∈b0o ops o,(Γ.sl t).firm=true:=by
 grind[b0o,s0m]
theorem B0c{ρ:Type}{ops:Array Oper}(hd:o.dst=some d){K:AE→Rs ρ}{z:ρ}(f:a0m cx .q ops.toList o Γ K=some z):
  ∃(δ:Dl)(L:List Nat),(∀t∈L,t∈o.looksAt ops∧∀n∈(Γ.sl t).refs,Γ.rt n≠none)∧K (δ.app d Γ)=some z∧(∀n,find δ.rs n≠none→Γ.rt n=none)∧
   ∀Γ2,k0p L Γ Γ2→(∀n,find δ.rs n≠none→Γ2.rt n=none)→∀{ρ2:Type}(K2:AE→Rs ρ2),a0m cx .q ops.toList o Γ2 K2=K2 (δ.app d Γ2):=by
 rw[d0b hd]at f;cases hl:c0g ops o Γ with
 |none=>simp_all
 |some b=>
  have m:=e0m (ops:=ops) (Γ:=Γ) (o:=o) (by simp_all);have c:∀t∈b0o ops o,t∈o.looksAt ops∧∀n∈(Γ.sl t).refs,Γ.rt n≠none:=fun t g=>⟨c0k g,fun n k=>by simp_all[h0z]⟩;rw[hl]at f;cases b with
  |false=>
   refine⟨⟨[],.one .skp⟩,b0o ops o,c,f,fun n k=>absurd rfl k,fun Γ2 hA _ ρ2 K2=>?_⟩;rw[d0b hd,b0v fun t g=>(hA.2 t g).1,hl];rfl
  |true=>
   simp only[c0o,hd]at f;obtain⟨w,f⟩:=(a0b f).elim id fun h=>by grind
   have e:∀t∈a0h o,∀n∈(Γ.sl t).refs,Γ.rt n≠none:=fun t g n k=>by
    obtain⟨x,i,u⟩:=a16.1 g
    grind
   obtain⟨r,s,p⟩:=q0m (cx:=cx) (Γ:=Γ) hd;rw[p Γ b0w.refl]at f;obtain⟨δ,rfl,j,l,v⟩:=m0v f;refine⟨δ,a0h o++b0o ops o,fun t g=>?_,l,j,fun Γ2 hA k ρ2 K2=>?_⟩
   grind[d0i]
   ·rw[d0b hd,b0v fun t g=>(hA.2 t (a02 _ g)).1,hl];simp only[c0o,hd];have a:b0w (a0h o) Γ Γ2:=⟨hA.1,fun t g=>hA.2 t (a04 _ g)⟩;refine(congrArg (fun b=>bif b then _ else none) (lA.2 fun x i=>?_)).trans ?_
    ·cases x with
     |tmp t=>
      simp only[];have g:=d0a i;refine lA.2 fun n k=>?_
      rw[(a.2 t g).1]at k;rw[(a.2 t g).2 n k]
      grind
     |_=>rfl
    simp
    grind[q0j]
theorem p0y{v:AV}(h:v.firm=true):v.calm=true:=by
 cases v with
 |ptr n p=>cases h
 |_=>exact h
theorem j0o{sv:SV}(h:sv.firm=true):sv.calm=true:=by
 cases sv with
 |one v=>exact p0y h
 |cmp c vs=>exact h
theorem k0i{Γ Γ2:AE}(h:∀t∈a0h o,Γ2.sl t=Γ.sl t):h0x o Γ2=h0x o Γ:=by
 grind[h0x,p0m,a0h,Op.operands]
theorem w0k{ρ:Type}{ops:Array Oper}(hd:o.dst=some d){K:AE→Rs ρ}{z:ρ}(f:a0m cx .v ops.toList o Γ K=some z):
  ∃(sv:SV)(L:List Nat),sv.calm=true∧(∀t∈L,t∈o.looksAt ops∧(Γ.sl t).calm=true)∧K (Γ.put d sv)=some z∧
   ∀Γ2,Γ2.pd=Γ.pd→(∀t∈L,Γ2.sl t=Γ.sl t)→∀{ρ2:Type}(K2:AE→Rs ρ2),a0m cx .v ops.toList o Γ2 K2=K2 (Γ2.put d sv):=by
 rw[d0b hd]at f;cases hl:c0g ops o Γ with
 |none=>simp_all
 |some b=>
  have m:=e0m (ops:=ops) (Γ:=Γ) (o:=o) (by simp_all);rw[hl]at f;cases b with
  |false=>
   refine⟨.one .skp,b0o ops o,rfl,fun t g=>⟨c0k g,j0o (m t g)⟩,f,fun Γ2 _ hA ρ2 K2=>?_⟩
   grind[d0b,b0v]
  |true=>
   simp only[c0o,hd]at f;cases hp:h0x o Γ with
   |some n=>
    rw[hp]at f;obtain⟨t,E,F,p⟩:=l0p hp;have w:t∈a0h o:=by
     grind[a0h,Op.operands]
    have j:(Γ.sl t).calm=true:=by simp_all[SV.calm,AV.calm]
    refine⟨.one (.ptr n []),[t]++b0o ops o,by simp_all,fun B g=>?_,f,fun Γ2 hpd hA ρ2 K2=>?_⟩;rcases mA.1 g with g|g;obtain rfl:B=t:=by simp_all
    simp_all[d0i];simp_all[c0k,j0o]
    grind[d0b,b0v,c0o,k0i,a0h,Op.operands]
   |none=>
   rw[hp]at f;simp only[]at f;obtain⟨D,f⟩:=(a0b f).elim id fun h=>by grind
   have l:∀t∈a0h o,(Γ.sl t).firm=true:=fun t g=>by
    obtain⟨x,y,A⟩:=a16.1 g
    grind
   obtain⟨r,q,s⟩:=q0m (cx:=cx) (Γ:=Γ) hd;rw[s Γ b0w.refl]at f;obtain⟨δ,rfl,C,e,u⟩:=m0v f;obtain⟨hf,e⟩:=(a0b e).elim id fun h=>by grind
   have k:δ.sv.firm=true:=by simpa[Dl.app]using hf
   have c:=(q δ rfl).1 k;obtain⟨G,sv⟩:=δ;simp only at c k;subst c;refine⟨sv,a0h o++b0o ops o,j0o k,fun t g=>?_,e,fun Γ2 hpd hA ρ2 K2=>?_⟩
   grind[d0i,j0o,c0k]
   rw[d0b hd,b0v fun t g=>hA t (a02 _ g),hl];simp only[c0o,hd];have a:∀t∈a0h o,Γ2.sl t=Γ.sl t:=fun t g=>hA t (a04 _ g);have i:b0w (a0h o) Γ Γ2:=⟨hpd,fun t g=>⟨a t g,fun n p=>by simp_all[h0z]⟩⟩;rw[k0i a,hp];simp only[];refine(congrArg (fun b=>bif b then _ else none) (lA.2 fun x y=>?_)).trans ?_
   grind[d0a]
   simp
   rw[s Γ2 i,q0j u (fun n p=>absurd rfl p)];show(bif (((Dl.mk [] sv).app d Γ2).sl d).firm then K2 ((Dl.mk [] sv).app d Γ2)else none)=_;rw[show((Dl.mk [] sv).app d Γ2).sl d=sv from by simp[Dl.app],k];rfl
theorem p0l{ρ:Type}{ops:Array Oper}(hd:o.dst=some d){K:AE→Rs ρ}{z:ρ}(g:a0m cx .p ops.toList o Γ K=some z):
  ∃(sv:SV)(L:List Nat),sv.calm=true∧(∀t∈L,t∈o.looksAt ops∧(Γ.sl t).calm=true)∧K (Γ.put d sv)=some z∧
   ∀Γ2,(∀t∈L,Γ2.sl t=Γ.sl t)→∀{ρ2:Type}(K2:AE→Rs ρ2),a0m cx .p ops.toList o Γ2 K2=K2 (Γ2.put d sv):=by
 rw[d0b hd]at g;cases hl:c0g ops o Γ with
 |none=>simp_all
 |some b=>
  have k:=e0m (ops:=ops) (Γ:=Γ) (o:=o) (by simp_all);rw[hl]at g;cases b with
  |false=>
   refine⟨.one .skp,b0o ops o,rfl,fun t h=>⟨c0k h,j0o (k t h)⟩,g,fun Γ2 hA ρ2 K2=>?_⟩
   grind[d0b,b0v]
  |true=>
   simp[c0o,hd]at g;cases hp:h0x o Γ with
   |none=>simp_all
   |some n=>
    rw[hp]at g;obtain⟨t,i,j,e⟩:=l0p hp;have a:t∈a0h o:=by
     grind[a0h,Op.operands]
    have f:(Γ.sl t).calm=true:=by simp_all[SV.calm,AV.calm]
    refine⟨.one (.ptr n []),[t]++b0o ops o,by simp_all,fun c h=>?_,g,fun Γ2 hA ρ2 K2=>?_⟩;rcases mA.1 h with h|h;obtain rfl:c=t:=by simp_all
    simp_all[d0i];simp_all[c0k,j0o]
    grind[d0b,b0v,c0o,k0i,a0h,Op.operands]
theorem f0q{a b:List Nat}(h:l0s a b=true){n:Nat}(g:n∈a):n∈b:=by
 have:=lA.1 h n g
 simp_all
theorem w0b{ρ:Type}{ops:Array Oper}{ns:List Nat}(hd:o.dst=some d){K:AE→Rs ρ}{z:ρ}(a:a0m cx (.r ns) ops.toList o Γ K=some z):
  ∃(δ:Dl)(L:List Nat),(∀t∈L,t∈o.looksAt ops∧(Γ.sl t).alive=true∧∀n∈(Γ.sl t).refs,Γ.rt n≠none∧n∈ns)∧K (δ.app d Γ)=some z∧(∀n,find δ.rs n≠none→Γ.rt n=none∧n∈ns)∧(∀n∈δ.sv.refs,n∈ns)∧
   ∀Γ2,k0p L Γ Γ2→(∀n,find δ.rs n≠none→Γ2.rt n=none)→∀{ρ2:Type}(K2:AE→Rs ρ2),a0m cx (.r ns) ops.toList o Γ2 K2=K2 (δ.app d Γ2):=by
 rw[d0b hd]at a;cases hl:c0g ops o Γ with
 |none=>simp_all
 |some b=>
  have j:=e0m (ops:=ops) (Γ:=Γ) (o:=o) (by simp_all);have l:∀t∈b0o ops o,t∈o.looksAt ops∧(Γ.sl t).alive=true∧∀n∈(Γ.sl t).refs,Γ.rt n≠none∧n∈ns:=fun t f=>⟨c0k f,p0e (j t f),fun n g=>by simp_all[h0z]⟩;rw[hl]at a;cases b with
  |false=>
   refine⟨⟨[],.one .skp⟩,b0o ops o,l,a,fun n g=>absurd rfl g,fun n g=>(by cases g),fun Γ2 hA _ ρ2 K2=>?_⟩;rw[d0b hd,b0v fun t f=>(hA.2 t f).1,hl];rfl
  |true=>
   simp only[c0o,hd]at a;obtain⟨s,a⟩:=(a0b a).elim id fun h=>by grind
   obtain⟨s,e⟩:=a07.1 s;have p:∀t∈a0h o,(Γ.sl t).alive=true∧∀n∈(Γ.sl t).refs,Γ.rt n≠none∧n∈ns:=fun t f=>by
    obtain⟨x,v,B⟩:=a16.1 f
    grind
   obtain⟨r,m,u⟩:=q0m (cx:=cx) (Γ:=Γ) hd;rw[u Γ b0w.refl]at a;obtain⟨δ,rfl,w,i,y⟩:=m0v a;obtain⟨k,i⟩:=(a0b i).elim id fun h=>by grind
   have q:(δ.app d Γ).sl d=δ.sv:=by simp[Dl.app]
   rw[q]at k;refine⟨δ,a0h o++b0o ops o,fun t f=>?_,i,fun n g=>⟨w n g,?_⟩,fun n g=>f0q k g,fun Γ2 hA g ρ2 K2=>?_⟩
   grind[d0i]
   have:=(m δ rfl).2 n g
   refine f0q e ?_
   simp_all
   ·rw[d0b hd,b0v fun t f=>(hA.2 t (a02 _ f)).1,hl];simp only[c0o,hd];have c:b0w (a0h o) Γ Γ2:=⟨hA.1,fun t f=>hA.2 t (a04 _ f)⟩;refine(congrArg (fun b=>bif b then _ else none) (a07.2 ⟨lA.2 fun x v=>?_,e⟩)).trans ?_
    ·cases x with
     |tmp t=>
      simp only[];have f:=d0a v;have A:=(c.2 t f).1;refine a07.2 ⟨by simp_all,lA.2 fun n g=>?_⟩;rw[A]at g;rw[(c.2 t f).2 n g]
      grind
     |_=>rfl
    simp
    rw[u Γ2 c,q0j y g]
    grind[Dl.app]
def tyq(o:Option Root):Option Ty:=o.map (·.t)
theorem z0a{a b:Option Root}(h:tyq a=tyq b):a.isSome=b.isSome:=by cases a<;>cases b<;>first|rfl|cases h
theorem n0s{Γ2:AE}{x:Operand}(h:∀t,x=.tmp t→Γ2.sl t=Γ.sl t∧∀n∈(Γ.sl t).refs,tyq (Γ2.rt n)=tyq (Γ.rt n)):Γ2.ptrTy x=Γ.ptrTy x:=by
 cases x with
 |tmp t=>
  obtain⟨f,g⟩:=h t rfl;simp only[AE.ptrTy,f];generalize Γ.sl t=sv at g;split;rename_i n p
  have:=g n (by simp[SV.refs,AV.refs])
  cases h3:Γ.rt n<;>cases h4:Γ2.rt n<;>rw[h3,h4]at this<;>first|rfl|cases this|skip
  rename_i r r2;simp only[tyq,a33,sj]at this;simp only[this];rfl
 |_=>rfl
theorem w0f{Γ2:AE}(h:∀t∈a0h o,Γ2.sl t=Γ.sl t∧∀n∈(Γ.sl t).refs,tyq (Γ2.rt n)=tyq (Γ.rt n)):Γ2.stay cx o=Γ.stay cx o:=by
 unfold AE.stay;split
 ·rename_i t g;obtain⟨e,d⟩:=h t (by simp[a0h,g,Op.operands]);rw[e];generalize Γ.sl t=sv at d;cases sv with
  |one v=>
   simp only[]
   have:(v.refs.all fun n=>(Γ2.rt n).isSome)=v.refs.all fun n=>(Γ.rt n).isSome:=by
    have k:∀n∈v.refs,tyq (Γ2.rt n)=tyq (Γ.rt n):=d;generalize v.refs=l at k
    induction l with
    |nil=>rfl
    |cons a l ih=>simp only[a14];rw[z0a (k a (by simp)),ih fun n i=>k n (by simp[i])]
   rw[this]
  |cmp c vs=>rfl
 rename_i s x f g;rw[n0s (Γ:=Γ) (x:=x) fun t b=>h t (by subst b;simp[a0h,g,Op.operands])];rename_i s x g;rw[n0s (Γ:=Γ) (x:=x) fun t b=>h t (by subst b;simp[a0h,g,Op.operands])];rfl
theorem w0g{v:AV}(g:Γ.stay cx o=some v)(hv:v.still=true):∀t∈a0h o,(Γ.sl t).still=true∧∀n∈(Γ.sl t).refs,Γ.rt n≠none:=by
 have i:∀(t:Nat)(n:Nat)(p:a0n)(r:Root),Γ.sl t=.one (.ptr n p)→Γ.rt n=some r→p.all Step.isField=true→(Γ.sl t).still=true∧∀n∈(Γ.sl t).refs,Γ.rt n≠none:=fun t n p r b c j=>by
  rw[b];refine⟨j,fun m q=>?_⟩
  have:m=n:=by simpa[SV.refs,AV.refs]using q
  subst this;rw[c];simp
 unfold AE.stay at g
 split at g
 rename_i t d
 split at g
 rename_i u y;obtain⟨l,g⟩:=(a0b g).elim id fun h=>by cases h.2
 cases g;obtain⟨-,l⟩:=a07.1 l;intro a k;obtain rfl:a=t:=by simpa[a0h,d,Op.operands]using k
 rw[y];exact⟨hv,fun n w=>Option.isSome_iff_ne_none.1 (lA.1 l n w)⟩;cases g;rename_i s x f d
 split at g
 rename_i n p τ hp;obtain⟨t,r,rfl,b,c,j⟩:=i0q hp
 split at g
 cases g;intro a k;obtain rfl:a=t:=by simpa[a0h,d,Op.operands]using k
 exact i a n p r b c (by simp only[AV.still,List.all_append,bA]at hv;exact hv.1);cases g;cases g;rename_i s x d
 split at g
 rename_i n p e hp;obtain⟨t,r,rfl,b,c,j⟩:=i0q hp
 split at g
 obtain⟨-,g⟩:=(a0b g).elim id fun h=>by cases h.2
 cases g;intro a k;obtain rfl:a=t:=by simpa[a0h,d,Op.operands]using k
 exact i a n p r b c hv;cases g;cases g;cases g
theorem v0p{sv:SV}(h:sv.firm=true):sv.still=true:=by
 cases sv with
 |one v=>cases v<;>first|rfl|cases h
 |cmp c vs=>exact h
theorem w0d{ρ:Type}{ops:Array Oper}(hd:o.dst=some d){K:AE→Rs ρ}{z:ρ}(f:a0m cx .s ops.toList o Γ K=some z):
  ∃(sv:SV)(L:List Nat),sv.still=true∧(∀t∈L,t∈o.looksAt ops∧(Γ.sl t).still=true∧∀n∈(Γ.sl t).refs,Γ.rt n≠none)∧K (Γ.put d sv)=some z∧
   ∀Γ2,(∀t∈L,Γ2.sl t=Γ.sl t∧∀n∈(Γ.sl t).refs,tyq (Γ2.rt n)=tyq (Γ.rt n))→(Γ.pdElem=true→Γ2.pdElem=true)→∀{ρ2:Type}(K2:AE→Rs ρ2),a0m cx .s ops.toList o Γ2 K2=K2 (Γ2.put d sv):=by
 rw[d0b hd]at f;cases hl:c0g ops o Γ with
 |none=>rw[hl]at f;cases f
 |some b=>
  have k:=e0m (ops:=ops) (Γ:=Γ) (o:=o) (by rw[hl];simp);have a:∀t∈b0o ops o,t∈o.looksAt ops∧(Γ.sl t).still=true∧∀n∈(Γ.sl t).refs,Γ.rt n≠none:=fun t g=>⟨c0k g,v0p (k t g),fun n i=>by rw[h0z (k t g)]at i;cases i⟩;rw[hl]at f;cases b with
  |false=>
   refine⟨.one .skp,b0o ops o,rfl,a,f,fun Γ2 hA _ ρ2 K2=>?_⟩;rw[d0b hd,b0v fun t g=>(hA t g).1,hl]
  |true=>
   simp only[c0o,hd]at f;cases hs:Γ.stay cx o with
   |none=>rw[hs]at f;cases f
   |some v=>
    rw[hs]at f;obtain⟨j,f⟩:=(a0b f).elim id fun h=>by cases h.2
    obtain⟨hv,c⟩:=a07.1 j;have e:=w0g hs hv;refine⟨.one v,a0h o++b0o ops o,hv,fun t g=>?_,f,fun Γ2 hA hp ρ2 K2=>?_⟩;rcases mA.1 g with g|g;exact⟨d0i g,e t g⟩;exact a t g;rw[d0b hd,b0v fun t g=>(hA t (a02 _ g)).1,hl];simp only[c0o,hd];rw[w0f fun t g=>hA t (a04 _ g),hs];simp only[hv,hp c,Bool.and_self,cT]
def Md.reads:Md→Nat→Prop
 |.q,_=>True
 |.s,_=>True
 |.r ns,n=>n∈ns
 |_,_=>False
def Md.quiet:Md→Prop
 |.v|.p|.q|.s|.r _=>True
 |_=>False
def Md.isV:Md→Bool
 |.v|.p=>true
 |_=>false
def r0w(md:Md)(T:List Nat)(Γ Γ2:AE):Prop:=Γ2.pd=Γ.pd∧∀t∈T,Γ2.sl t=Γ.sl t∧∀n∈(Γ.sl t).refs,md.isV=false→Γ2.rt n=Γ.rt n
theorem t0d{ρ:Type}{ops:Array Oper}{md:Md}(i:md.quiet)(hd:o.dst=some d){K:AE→Rs ρ}{z:ρ}(m:a0m cx md ops.toList o Γ K=some z):
  ∃(δ:Dl)(L:List Nat),(∀t∈L,t∈o.looksAt ops∧∀n∈(Γ.sl t).refs,md.isV=false→md.reads n∧Γ.rt n≠none)∧K (δ.app d Γ)=some z∧(∀n,find δ.rs n≠none→Γ.rt n=none)∧
   ∀Γ2,r0w md L Γ Γ2→(∀n,find δ.rs n≠none→Γ2.rt n=none)→∀{ρ2:Type}(K2:AE→Rs ρ2),a0m cx md ops.toList o Γ2 K2=K2 (δ.app d Γ2):=by
 cases md with
 |v=>
  obtain⟨sv,L,c,k,j,l⟩:=w0k hd m;exact⟨⟨[],sv⟩,L,fun t h=>⟨(k t h).1,fun n f e=>by cases e⟩,j,fun n f=>absurd rfl f,fun Γ2 hA _ ρ2 K2=>l Γ2 hA.1 (fun t h=>(hA.2 t h).1) K2⟩
 |q=>
  obtain⟨δ,L,c,k⟩:=B0c hd m;exact⟨δ,L,fun t h=>⟨(c t h).1,fun n f _=>⟨trivial,(c t h).2 n f⟩⟩,k.1,k.2.1,fun Γ2 hA=>k.2.2 Γ2 ⟨hA.1,fun t h=>⟨(hA.2 t h).1,fun n f=>(hA.2 t h).2 n f rfl⟩⟩⟩
 |r ns=>
  obtain⟨δ,L,c,k,j,-,l⟩:=w0b hd m;exact⟨δ,L,fun t h=>⟨(c t h).1,fun n f _=>⟨((c t h).2.2 n f).2,((c t h).2.2 n f).1⟩⟩,k,fun n f=>(j n f).1,fun Γ2 hA=>l Γ2 ⟨hA.1,fun t h=>⟨(hA.2 t h).1,fun n f=>(hA.2 t h).2 n f rfl⟩⟩⟩
 |p=>
  obtain⟨sv,L,c,k,j,l⟩:=p0l hd m;exact⟨⟨[],sv⟩,L,fun t h=>⟨(k t h).1,fun n f e=>by cases e⟩,j,fun n f=>absurd rfl f,fun Γ2 hA _ ρ2 K2=>l Γ2 (fun t h=>(hA.2 t h).1) K2⟩
 |s=>
  obtain⟨sv,L,c,k,j,l⟩:=w0d hd m;exact⟨⟨[],sv⟩,L,fun t h=>⟨(k t h).1,fun n f _=>⟨trivial,(k t h).2.2 n f⟩⟩,j,fun n f=>absurd rfl f,fun Γ2 hA _ ρ2 K2=>l Γ2 (fun t h=>⟨(hA.2 t h).1,fun n f=>by rw[(hA.2 t h).2 n f rfl]⟩) (fun g=>by unfold AE.pdElem at g⊢;rw[hA.1];exact g) K2⟩
 |x=>cases i
 |b ws=>cases i
 |a ws=>cases i
 |w ws=>cases i
end
def FP(f:AV→AV):Prop:=(∀v:AV,v.calm=true→f v=v)∧∀v:AV,(f v).calm=true→f v=v
theorem FP.id:FP id:=⟨fun _ _=>rfl,fun _ _=>rfl⟩
def FW(W:List Nat)(f:AV→AV):Prop:=(∀v:AV,(∀n∈v.refs,n∉W)→f v=v)∧(∀v:AV,f v=v∨f v=.dead)∧∀n,pinned≤n→f (.ptr n [])=.ptr n []
theorem FW.id{W:List Nat}:FW W id:=⟨fun _ _=>rfl,fun _=>.inl rfl,fun _ _=>rfl⟩
theorem FW.comp{W:List Nat}{f g:AV→AV}(hf:FW W f)(k:FW W g)(hd:g .dead=.dead:=by rfl):FW W (fun v=>g (f v)):=by
 refine⟨fun v h=>?_,fun v=>?_,fun n a=>?_⟩;show g (f v)=v;rw[hf.1 v h];exact k.1 v h;show g (f v)=v∨g (f v)=.dead;rcases hf.2.1 v with h|h;rw[h];exact k.2.1 v;simp_all;show g (f _)=_;rw[hf.2.2 n a];exact k.2.2 n a
theorem FW.dead{W:List Nat}{f:AV→AV}(hf:FW W f):f .dead=.dead:=(hf.2.1 .dead).elim _root_.id _root_.id
theorem FW.fp{W:List Nat}{f:AV→AV}(hf:FW W f):FP f:=by
 refine⟨fun v h=>?_,fun v h=>?_⟩
 ·cases v with
  |ptr n p=>
   cases p with
   |nil=>exact hf.2.2 n (by simpa[AV.calm]using h)
   |cons=>simp_all[AV.calm,AV.firm]
  |sref=>cases h
  |swin=>cases h
  |_=>exact hf.1 _ fun n k=>(by cases k)
 rcases hf.2.1 v with g|g;omega;rw[g]at h;cases h
theorem nb{W:List Nat}{m n:Nat}(g:n∈W)(h:∀k∈[m],k∉W):(m==n)=false:=by
 grind
theorem FW.drop{W:List Nat}{n:Nat}(g:n∈W)(hp:n<pinned):FW W (AV.drop n):=by
 refine⟨fun v h=>?_,fun v=>?_,fun m f=>?_⟩
 ·cases v with
  |ptr m q=>simp only[AV.drop,nb g h,a01,if_false]
  |sref m q=>simp only[AV.drop,nb g h,a01,if_false]
  |swin m q o l=>simp only[AV.drop,nb g h,a01,if_false]
  |_=>rfl
 ·cases v with
  |ptr m q=>simp only[AV.drop];split<;>simp
  |sref m q=>simp only[AV.drop];split<;>simp
  |swin m q o l=>simp only[AV.drop];split<;>simp
  |_=>exact .inl rfl
 have:(m==n)=false:=by simp only[beq_eq_false_iff_ne];omega
 simp[AV.drop,this]
theorem FW.kill{W:List Nat}{n:Nat}(g:n∈W)(p:a0n):FW W (AV.kill n p):=by
 refine⟨fun v h=>?_,fun v=>?_,fun m f=>by simp[AV.kill]⟩
 ·cases v with
  |ptr m q=>simp only[AV.kill,nb g h,a25,a01,if_false]
  |sref m q=>simp only[AV.kill,nb g h,a25,a01,if_false]
  |swin m q o l=>simp only[AV.kill,nb g h,a25,a01,if_false]
  |_=>rfl
 ·cases v with
  |ptr m q=>simp only[AV.kill];split<;>simp
  |sref m q=>simp only[AV.kill];split<;>simp
  |swin m q o l=>simp only[AV.kill];split<;>simp
  |_=>exact .inl rfl
theorem FW.deeps{W us ks:List Nat}(a:∀n∈us,n∈W):FW W (AV.deeps us ks):=by
 have g:∀m,(∀k∈[m],k∉W)→us.contains m=false:=fun m h=>by
  grind
 refine⟨fun v h=>?_,fun v=>?_,fun m f=>by simp[AV.deeps]⟩
 ·cases v with
  |ptr m q=>simp only[AV.deeps,g m h,a01,if_false]
  |sref m q=>simp only[AV.deeps,g m h,a01,if_false]
  |swin m q o l=>simp only[AV.deeps,g m h,a01,if_false]
  |_=>rfl
 ·cases v with
  |ptr m q=>
   simp only[AV.deeps];split;cases q<;>simp
   simp
  |sref m q=>
   simp only[AV.deeps];split
   ·cases q with
    |nil=>simp only[];split<;>simp
    |cons=>simp
   simp
  |swin m q o l=>simp only[AV.deeps];split<;>simp
  |_=>exact .inl rfl
theorem FP.sv{f:AV→AV}(hf:FP f){sv:SV}(h:sv.calm=true):sv.mapv f=sv:=by
 cases sv with
 |one v=>simp only[SV.mapv];rw[hf.1 v h]
 |cmp c0 vs=>
  simp only[SV.mapv];congr 1;refine(a06 fun v hv=>hf.1 v (p0y (lA.1 h v hv))).trans (a27 _)
theorem FP.sv'{f:AV→AV}(hf:FP f){sv:SV}(h:(sv.mapv f).calm=true):sv.mapv f=sv:=by
 cases sv with
 |one v=>simp only[SV.mapv]at h⊢;rw[hf.2 v h]
 |cmp c0 vs=>
  simp only[SV.mapv]at h⊢;congr 1;refine(a06 fun v hv=>hf.2 v (p0y (lA.1 h _ (a41 hv)))).trans (a27 _)
theorem FW.sv{W:List Nat}{f:AV→AV}(hf:FW W f){sv:SV}(h:∀n∈sv.refs,n∉W):sv.mapv f=sv:=by
 cases sv with
 |one v=>simp only[SV.mapv];rw[hf.1 v h]
 |cmp c0 vs=>
  simp only[SV.mapv];congr 1;refine(a06 fun v hv=>hf.1 v fun n g=>h n (a31.2 ⟨v,hv,g⟩)).trans (a27 _)
theorem FW.sv'{W:List Nat}{f:AV→AV}(hf:FW W f){sv:SV}(h:(sv.mapv f).alive=true):sv.mapv f=sv:=by
 have one:∀v:AV,(f v).alive=true→f v=v:=fun v hv=>by
  rcases hf.2.1 v with g|g;omega;rw[g]at hv;cases hv
 cases sv with
 |one v=>simp only[SV.mapv]at h⊢;rw[one v h]
 |cmp c0 vs=>
  simp only[SV.mapv]at h⊢;congr 1;refine(a06 fun v hv=>one v (lA.1 h _ (a41 hv))).trans (a27 _)
theorem FW.refs{W:List Nat}{f:AV→AV}(hf:FW W f){sv:SV}{n:Nat}(h:n∈(sv.mapv f).refs):n∈sv.refs:=by
 have one:∀v:AV,n∈(f v).refs→n∈v.refs:=fun v hv=>by
  rcases hf.2.1 v with g|g;simp_all;rw[g]at hv;cases hv
 cases sv with
 |one v=>exact one v h
 |cmp c0 vs=>
  simp only[SV.mapv,SV.refs,a31]at h⊢
  grind
structure MDl where
 f:AV→AV
 rt:Nat→Option Root
 sv:SV

 pd:Option (Nat×a0n×Nat):=none
def d0k(W:List Nat)(m:MDl)(d:Option Nat)(Γ:AE):AE:=⟨fun i=>bif d==some i then m.sv else(Γ.sl i).mapv m.f,fun n=>bif W.contains n then m.rt n else Γ.rt n,Γ.pd⟩
def c0t(W:List Nat)(m:MDl)(d:Option Nat)(Γ:AE):AE:={ d0k W m d Γ with pd:=match m.pd with|none=>Γ.pd|some x=>some x }
theorem l0n{W:List Nat}{m:MDl}{d:Option Nat}{Γ:AE}(h:m.pd=none):c0t W m d Γ=d0k W m d Γ:=by simp[c0t,h];rfl
theorem r0b(f g:AV→AV)(sv:SV):(sv.mapv f).mapv g=sv.mapv fun v=>g (f v):=by
 cases sv with
 |one v=>rfl
 |cmp c0 vs=>simp_all[SV.mapv]
theorem g0r(sv:SV):sv.mapv id=sv:=by cases sv<;>simp[SV.mapv]
section
variable {g:Bool} {cx:Cx} {o:Oper} {d:Nat} {Γ:AE} {W:List Nat}
def A0s{ρ:Type}(K:AE→Rs ρ):AE→Rs ρ:=fun Γ'=>match Γ'.pd with
 |none=>K Γ'
 |some _=>none
def Same(W T:List Nat)(Γ Γ2:AE):Prop:=Γ2.pd=Γ.pd∧(∀n∈W,Γ2.rt n=Γ.rt n)∧∀t∈T,Γ2.sl t=Γ.sl t
theorem Same.refl{T:List Nat}:Same W T Γ Γ:=⟨rfl,fun _ _=>rfl,fun _ _=>rfl⟩
theorem Same.opd{Γ2:AE}(h:Same W (a0h o) Γ Γ2){x:Operand}(g:x∈o.op.operands.toList):Γ2.opd x=Γ.opd x:=by
 cases x with
 |tmp t=>simp[AE.opd,AE.get];rw[h.2.2 t (d0a g)]
 |_=>rfl
theorem Same.aggOf{Γ2:AE}(h:Same W (a0h o) Γ Γ2){x:Operand}(g:x∈o.op.operands.toList):Γ2.aggOf x=Γ.aggOf x:=by
 cases x with
 |tmp t=>simp[AE.aggOf];rw[h.2.2 t (d0a g)]
 |_=>rfl
theorem Same.look{T:List Nat}{Γ2:AE}(h:Same W T Γ Γ2){n:Nat}(g:n∈W):Γ2.look n=Γ.look n:=by
 simp only[AE.look,h.1,h.2.1 n g]
def j0r{ρ:Type}(W:List Nat)(r:Option MDl)(d:Option Nat)(Γ2:AE)(K:AE→Rs ρ):Rs ρ:=match r with
 |none=>none
 |some m=>K (c0t W m d Γ2)
def gPd{ρ:Type}(g:Bool)(K:AE→Rs ρ):AE→Rs ρ:=bif g then A0s K else K
def b0p(g:Bool)(cx:Cx)(o:Oper)(d:Option Nat)(Γ:AE)(W:List Nat):Prop:=
 ∃r:Option MDl,(∀m,r=some m→FW W m.f∧(g=true→m.pd=none)∧∀n p d,m.pd=some (n,p,d)→m.f=AV.kill n p∧∀k∈W,tyq (m.rt k)=tyq (Γ.rt k))∧∀Γ2,Same W (a0h o) Γ Γ2→∀{ρ:Type}(K:AE→Rs ρ),aop cx false o Γ2 (gPd g K)=j0r W r d Γ2 K
theorem b0p.none{d:Option Nat}(h:∀Γ2,Same W (a0h o) Γ Γ2→∀{ρ:Type}(K:AE→Rs ρ),aop cx false o Γ2 (gPd g K)=none):b0p g cx o d Γ W:=⟨.none,by simp,fun Γ2 hA ρ K=>h Γ2 hA K⟩
theorem b0p.some{d:Option Nat}(f:AV→AV)(hf:FW W f)(sv:SV)(S:List Nat)(b:∀n∈S,n∈W)(k:Nat→Option Root)
  (h:∀Γ2,Same W (a0h o) Γ Γ2→∀{ρ:Type}(K:AE→Rs ρ),aop cx false o Γ2 (gPd g K)=K ⟨fun i=>bif d==some i then sv else(Γ2.sl i).mapv f,fun n=>bif S.contains n then k n else Γ2.rt n,Γ2.pd⟩):b0p g cx o d Γ W:=by
 refine⟨.some ⟨f,fun n=>bif S.contains n then k n else Γ.rt n,sv,.none⟩,fun m a=>by cases a;exact⟨hf,fun _=>rfl,fun n p d h=>by cases h⟩,fun Γ2 hA ρ K=>?_⟩;rw[h Γ2 hA K];simp only[j0r,c0t,d0k];congr 2;funext n;cases hs:S.contains n with
 |true=>
  simp_all
 |false=>
  cases hw:W.contains n with
  |true=>simp;exact hA.2.1 n (a17.1 hw)
  |false=>rfl
theorem w0j{d:Option Nat}(f:Nat×a0n×Nat)(hf:FW W (AV.kill f.1 f.2.1))(sv:SV)(S:List Nat)(l:∀n∈S,n∈W)(a:Nat→Option Root)(b:∀n∈S,tyq (a n)=tyq (Γ.rt n))(c:g=false)
  (h:∀Γ2,Same W (a0h o) Γ Γ2→∀{ρ:Type}(K:AE→Rs ρ),aop cx false o Γ2 (gPd g K)=K ⟨fun i=>bif d==some i then sv else(Γ2.sl i).mapv (AV.kill f.1 f.2.1),fun n=>bif S.contains n then a n else Γ2.rt n,.some f⟩):b0p g cx o d Γ W:=by
 refine⟨.some ⟨AV.kill f.1 f.2.1,fun n=>bif S.contains n then a n else Γ.rt n,sv,.some f⟩,fun m j=>by
  cases j;refine⟨hf,fun e=>(by rw[c]at e;cases e),fun n p d e=>?_⟩;cases e;refine⟨rfl,fun k _=>?_⟩;cases hs:S.contains k with
  |true=>simp only[hs,cT];exact b k (a17.1 hs)
  |false=>simp only[hs,cF],fun Γ2 hA ρ K=>?_⟩
 rw[h Γ2 hA K];simp only[j0r,c0t,d0k];congr 2;funext n;cases hs:S.contains n with
 |true=>
  simp_all
 |false=>
  cases hw:W.contains n with
  |true=>simp;exact hA.2.1 n (a17.1 hw)
  |false=>rfl
theorem g0p{ρ:Type}{K:AE→Rs ρ}{Γ':AE}(h:Γ'.pd=none):gPd g K Γ'=K Γ':=by cases g<;>simp only[gPd,A0s,h,cT,cF]
theorem c0m(n m:Nat):[m].contains n=(n==m):=by grind
theorem u0i{ρ:Type}{Γ2:AE}(h:Γ2.pd=none)(r:Root)(v:AV)(K:AE→Rs ρ):(Γ2.fresh false d r fun Γ=>K (Γ.set d v)) =
  bif decide (d<pinned)then K ⟨fun i=>bif some d==some i then .one v else(Γ2.sl i).mapv (match Γ2.rt d with|none=>id|some _=>AV.drop d),fun n=>bif [d].contains n then some r else Γ2.rt n,Γ2.pd⟩else none:=by
 have g:∀i,(some d==some i)=(i==d):=fun i=>by
  grind
 unfold AE.fresh;cases decide (d<pinned);rfl
 ·simp only[cT];cases hr:Γ2.rt d with
  |none=>
   simp only[AE.newRt,hr];congr 1;simp only[AE.set,AE.put,AE.setRt,c0m,g];simp_all[g0r]
  |some r0=>
   simp only[cF,AE.look,h,hr,AE.newRt];congr 1;simp only[AE.set,AE.put,AE.setRt,c0m,g,AE.mapv,h]
theorem n0a(f:Γ.pd=none)(v:d∈W){e:Ty}{x:AV}(w:∀n∈x.refs,n∈W){ys:Option (List e.den)}(h:∀Γ2,Same W (a0h o) Γ Γ2→∀{ρ:Type}(K:AE→Rs ρ),aop cx false o Γ2 K=ys.elim none fun ys=>Γ2.apnd false d e x ys K):b0p g cx o (some d) Γ W:=by
 have s:∀i,(some d==some i)=(i==d):=fun i=>by
  grind
 cases ys with
 |none=>simp_all[b0p.none]
 |some ys=>
  have h:∀Γ2,Same W (a0h o) Γ Γ2→∀{ρ:Type}(K:AE→Rs ρ),aop cx false o Γ2 K=Γ2.apnd false d e x ys K:=h;have y:(x=.nils∨x=.empt)→b0p g cx o (some d) Γ W:=fun A=>by
   have h:∀Γ2,Same W (a0h o) Γ Γ2→∀{ρ:Type}(K:AE→Rs ρ),aop cx false o Γ2 K=bif lim ys.length then Γ2.fresh false d ⟨false,.list true e,ys⟩ fun Γ=>K (Γ.set d (.sref d []))else none:=fun Γ2 hA ρ K=>by
    rw[h Γ2 hA];rcases A with rfl|rfl<;>rfl
   cases hl:lim ys.length with
   |false=>simp_all[b0p.none]
   |true=>
    cases hd':decide (d<pinned)with
    |false=>exact b0p.none fun Γ2 hA ρ K=>by rw[h Γ2 hA,hl];simp;rw[u0i (hA.1.trans f),hd'];rfl
    |true=>
     refine b0p.some (match Γ.rt d with|.none=>id|.some _=>AV.drop d) ?_ (.one (.sref d [])) [d] (by simp_all) (fun _=>.some ⟨false,.list true e,ys⟩) fun Γ2 hA ρ K=>?_
     grind[FW.id,FW.drop]
     rw[h Γ2 hA,hl];simp only[cT];rw[u0i (hA.1.trans f),hd',hA.2.1 d v];simp only[cT];exact g0p (hA.1.trans f)
  cases x with
  |nils=>simp_all
  |empt=>simp_all
  |sref n p=>
   have c:n∈W:=w n (by simp[AV.refs]);have b:∀Γ2,Same W (a0h o) Γ Γ2→Γ2.look n=Γ.rt n:=fun Γ2 hA=>by rw[hA.look c];simp only[AE.look,f]
   cases hr:Γ.rt n with
   |none=>
    simp_all[b0p.none,AE.apnd]
   |some r=>
    cases hg:b0c r.t r.x p with
    |mk tt l=>
     cases tt with
     |list o' e'=>
      cases o' with
      |false=>
       simp_all[b0p.none,AE.apnd]
      |true=>
       by_cases he:e=e'
       ·subst he;cases hl:lim (a08 l+ys.length)with
        |false=>
         simp_all[b0p.none,AE.apnd]
        |true=>
         by_cases hp:p=[]∧r.bx=false
         ·obtain⟨rfl,u⟩:=hp;cases hnp:decide (n<pinned)with
          |false=>simp_all[b0p.none,AE.apnd]
          |true=>
          refine b0p.some (AV.kill n []) (FW.kill c []) (.one (.sref n [])) [n] (by simp_all) (fun _=>.some ⟨r.bx,r.t,b0q r.t r.x [] (.list true e) (a35 l ys)⟩) fun Γ2 hA ρ K=>?_
          rw[h Γ2 hA];simp only[AE.apnd,cF,b Γ2 hA,hr,hg,dite_true,hl,cT,u,hnp];rw[g0p (by exact hA.1.trans f)];congr 1;simp only[AE.set,AE.put,AE.setRt,AE.mapv,c0m,s]
         ·cases hgg:g with
          |true=>
           refine b0p.none fun Γ2 hA ρ K=>?_
           rw[h Γ2 hA];simp[AE.apnd,b Γ2 hA,hr,hg,hl];cases p with
           |nil=>
            cases hb:r.bx with
            |false=>simp_all
            |true=>simp[hA.1,f];rfl
           |cons a p'=>simp[hA.1,f];rfl
          |false=>
           refine w0j (n,p,d) (FW.kill c p) (.one (.sref n p)) [n] (by simpa using c) (fun _=>.some ⟨r.bx,r.t,b0q r.t r.x p (.list true e) (a35 l ys)⟩) (fun k z=>by
            have:k=n:=by simpa using z
            subst this;rw[hr];rfl) rfl fun Γ2 hA ρ K=>?_
           rw[h Γ2 hA];simp only[AE.apnd,cF,b Γ2 hA,hr,hg,dite_true,hl,cT];have j:∀(m q:AE),m=q→gPd false K m=K q:=fun m q e=>by rw[e];rfl
           cases p with
           |nil=>
            cases hb:r.bx with
            |false=>simp_all
            |true=>
             simp only[hA.1,f];refine j _ _ ?_
             simp only[AE.set,AE.put,AE.setRt,AE.mapv,c0m,s]
           |cons a p'=>
            simp only[hA.1,f];refine j _ _ ?_
            simp only[AE.set,AE.put,AE.setRt,AE.mapv,c0m,s]
       simp_all[b0p.none,AE.apnd]
     |_=>
      exact b0p.none fun Γ2 hA ρ K=>by
        rw[h Γ2 hA];simp only[AE.apnd,cF,b Γ2 hA,hr,hg]
  |_=>exact b0p.none fun Γ2 hA ρ K=>by rw[h Γ2 hA];rfl
end
section
variable {g:Bool} {cx:Cx} {o:Oper} {d:Nat} {Γ:AE} {W:List Nat}
theorem z0i{ρ:Type}(Γ:AE)(t:Ty)(a:AV)(hv:a.viewed=[])(K:t.den→AE→Rs ρ):Γ.asV false t a K=(e0j t a).elim none fun x=>K x Γ:=by
 cases a with
 |val t' x=>grind[AE.asV,e0j]
 |nils=>cases t with
  |list o e=>cases o<;>rfl
  |_=>rfl
 |empt=>cases t with
  |list o e=>cases o<;>rfl
  |_=>rfl
 |sref n p=>cases hv
 |swin n p o k=>cases hv
 |_=>rfl
def f0e(fz:Bool)(lk:Nat→Option Root)(used seen:List Nat):(p:PA)→AV→Option (p.ty.den×List Nat×List Nat)
 |.v t,a=>bif a.viewed.any fun n=>used.contains n then none else bif fz then(e0j t a).map fun x=>(x,used,seen)else(g0k lk t a).map fun x=>(x,used,a.viewed++seen)
 |.r c (.b t),.ptr n []=>if c || used.contains n || seen.contains n then none else match lk n with
  |some ⟨true,t',x⟩=>if h:t'=t then some (h▸x,n::used,seen)else none
  |_=>none
 |.r c (.o e),.sref n []=>if(c&&decide (pinned≤n)) || used.contains n || seen.contains n then none else match lk n with
  |some ⟨bx,.list true e',x⟩=>if h:e'=e then(bif bx&&c then none else some (h▸x,n::used,seen))else none
  |_=>none
 |.r _ _,_=>none
theorem j0s{ρ:Type}(Γ:AE)(fz:Bool)(used seen:List Nat)(p:PA)(a:AV)(hv:fz=false∨a.viewed=[])(K:p.ty.den→AE→List Nat→List Nat→Rs ρ):
  Γ.arg fz false used seen p a K=(f0e fz Γ.look used seen p a).elim none fun y=>K y.1 Γ y.2.1 y.2.2:=by
 cases p with
 |v t=>
  simp only[AE.arg,f0e];cases (a.viewed.any fun n=>used.contains n)
  ·simp
   cases fz with
   |true=>
    simp
    rw[z0i Γ t a (hv.resolve_left (by simp))];cases e0j t a<;>rfl
   |false=>
    simp
    rw[y0a];cases g0k Γ.look t a<;>rfl
  rfl
 |r c b=>
  cases b with
  |v t=>rfl
  |b t=>
   cases a with
   |ptr n p=>
    cases p with
    |nil=>
     simp only[AE.arg,f0e,Bool.or_false]
     grind
    |cons=>rfl
   |_=>rfl
  |o e=>
   cases a with
   |sref n p=>
    cases p with
    |nil=>
     simp only[AE.arg,f0e,Bool.or_false]
     grind
    |cons=>rfl
   |_=>rfl
def AE.argsm(Γ:AE)(fz:Bool)(used seen:List Nat)(ps:List PA)(as:List AV):Option ((b0u (ps.map PA.ty)).den×List Nat):=Γ.args fz false used seen ps as fun x _ u=>some (x,u)
theorem args_m(Γ:AE)(fz:Bool)(f:List PA):∀{ρ:Type}(as:List AV)(used seen:List Nat)(K:(b0u (f.map PA.ty)).den→AE→List Nat→Rs ρ),(fz=false∨∀a∈as,a.viewed=[])→
  Γ.args fz false used seen f as K=(Γ.argsm fz used seen f as).elim none fun x=>K x.1 Γ x.2:=by
 induction f with
 |nil=>
  intro ρ as used seen K hv;cases as<;>rfl
 |cons p f ih=>
  intro ρ as used seen K hv;cases as with
  |nil=>cases f<;>rfl
  |cons a as=>
   have g:fz=false∨a.viewed=[]:=hv.imp id fun h=>h a (by simp);have k:fz=false∨∀a∈as,a.viewed=[]:=hv.imp id fun h b c=>h b (by grind);cases f with
   |nil=>
    cases as with
    |nil=>
     simp[AE.argsm,AE.args];rw[j0s (hv:=g),j0s (hv:=g)];cases f0e fz Γ.look used seen p a<;>rfl
    |cons=>rfl
   |cons p' f=>
    simp[AE.argsm,AE.args];rw[j0s (hv:=g),j0s (hv:=g)];cases f0e fz Γ.look used seen p a with
    |none=>rfl
    |some x=>
     simp[a15];rw[ih as _ _ _ k,ih as _ _ _ k];cases Γ.argsm fz x.2.1 x.2.2 (p'::f) as<;>rfl
theorem u0x{lk lk':Nat→Option Root}{fz:Bool}{used seen:List Nat}{p:PA}{a:AV}(h:∀n∈a.refs,lk' n=lk n):f0e fz lk' used seen p a=f0e fz lk used seen p a:=by
 cases p with
 |v t=>simp_all[f0e,n0x]
 |r c b=>
  cases b with
  |v t=>rfl
  |b t=>
   cases a with
   |ptr n q=>cases q<;>simp only[f0e,h n (by simp[AV.refs])]
   |_=>rfl
  |o e=>
   cases a with
   |sref n q=>cases q<;>simp only[f0e,h n (by simp[AV.refs])]
   |_=>rfl
theorem q0o{lk:Nat→Option Root}{fz:Bool}{used seen:List Nat}{p:PA}{a:AV}{x}(h:f0e fz lk used seen p a=some x):∀n∈x.2.1,n∈used∨n∈a.refs:=by
 intro n g;cases p with
 |v t=>
  simp only[f0e]at h;obtain⟨-,h⟩:=(a0b h).elim (fun h=>by grind) id;cases fz with
  |true=>
   simp at h;cases ha:e0j t a with
   |none=>rw[ha]at h;cases h
   |some y=>rw[ha]at h;cases h;simp_all
  |false=>
   simp at h;cases ha:g0k lk t a with
   |none=>rw[ha]at h;cases h
   |some y=>rw[ha]at h;cases h;simp_all
 |r c b=>
  cases b with
  |v t=>cases a<;>cases h
  |b t=>
   cases a with
   |ptr m q=>
    cases q with
    |nil=>
     simp only[f0e]at h
     split at h
     grind
     ·split at h
      ·split at h
       ·cases h;rcases mC.1 g with rfl|g
        all_goals simp_all[AV.refs]
       simp_all
      simp_all
    |cons=>cases h
   |_=>cases h
  |o e=>
   cases a with
   |sref m q=>
    cases q with
    |nil=>
     simp only[f0e]at h
     split at h
     grind
     ·split at h
      ·split at h
       ·obtain⟨-,h⟩:=(a0b h).elim (fun h=>by grind) id;cases h;rcases mC.1 g with rfl|g
        all_goals simp_all[AV.refs]
       simp_all
      simp_all
    |cons=>cases h
   |_=>cases h
theorem t0h{Γ Γ2:AE}(fz:Bool)(g:List PA):∀(as:List AV)(used seen:List Nat),(∀a∈as,∀n∈a.refs,Γ2.look n=Γ.look n)→(fz=false∨∀a∈as,a.viewed=[])→Γ2.argsm fz used seen g as=Γ.argsm fz used seen g as:=by
 induction g with
 |nil=>intro as used seen f hv;cases as<;>rfl
 |cons p g ih=>
  intro as used seen f hv;cases as with
  |nil=>cases g<;>rfl
  |cons a as=>
   have c:fz=false∨a.viewed=[]:=hv.imp id fun h=>h a (by simp);have d:fz=false∨∀a∈as,a.viewed=[]:=hv.imp id fun h k e=>h k (by grind);have b:=u0x (fz:=fz) (used:=used) (seen:=seen) (p:=p) (f a (by simp));cases g with
   |nil=>
    cases as with
    |nil=>
     simp_all[AE.argsm,AE.args,j0s]
    |cons=>rfl
   |cons p' g=>
    simp[AE.argsm,AE.args]
    grind[j0s,args_m]
where
 args_m {Γ:AE} {fz:Bool} {g:List PA} {ρ:Type} {as:List AV} {used seen:List Nat} {K:(b0u (g.map PA.ty)).den→AE→List Nat→Rs ρ} (hv:fz=false∨∀a∈as,a.viewed=[]):=Go.Ab.args_m Γ fz g as used seen K hv
theorem u0y{Γ:AE}(fz:Bool)(g:List PA):∀(as:List AV)(used seen:List Nat)(x),(fz=false∨∀a∈as,a.viewed=[])→Γ.argsm fz used seen g as=some x→∀n∈x.2,n∈used∨∃a∈as,n∈a.refs:=by
 induction g with
 |nil=>
  intro as used seen x hv h n b;cases as with
  |nil=>cases h;simp_all
  |cons=>cases h
 |cons p g ih=>
  intro as used seen x hv h n b;cases as with
  |nil=>cases g<;>cases h
  |cons a as=>
   have f:fz=false∨a.viewed=[]:=hv.imp id fun h=>h a (by simp);have k:fz=false∨∀a∈as,a.viewed=[]:=hv.imp id fun h c e=>h c (by grind);cases g with
   |nil=>
    cases as with
    |nil=>
     simp[AE.argsm,AE.args]at h;rw[j0s (hv:=f)]at h;cases hx:f0e fz Γ.look used seen p a with
     |none=>simp_all
     |some y=>
      rw[hx]at h;cases h;exact(q0o hx n b).imp id fun h=>⟨a,by simp,h⟩
    |cons=>cases h
   |cons p' g=>
    simp[AE.argsm,AE.args]at h;rw[j0s (hv:=f)]at h;cases hx:f0e fz Γ.look used seen p a with
    |none=>simp_all
    |some y=>
     rw[hx]at h;simp at h;rw[args_m Γ fz (p'::g) as _ _ _ k]at h;cases hr:Γ.argsm fz y.2.1 y.2.2 (p'::g) as with
     |none=>simp_all
     |some u=>
      rw[hr]at h;cases h;rcases ih as _ _ u k hr n b with h|⟨c,d,h⟩;exact(q0o hx n h).imp id fun h=>⟨a,by simp,h⟩
      grind
def e0t:List Nat→(Nat→Option Root)→AV→AV
 | [],_=>id
 |n::r,rt=>match rt n with
  |none=>e0t r rt
  |some _=>fun v=>e0t r (fun j=>bif j==n then none else rt j) (AV.drop n v)
theorem n0m:∀(ns:List Nat){rt rt2:Nat→Option Root},(∀n∈ns,rt2 n=rt n)→e0t ns rt2=e0t ns rt
 | [],_,_,_=>rfl
 |n::r,rt,rt2,h=>by
  simp_all[e0t,n0m]
theorem o0c:∀(ns:List Nat)(rt:Nat→Option Root),(∀n∈ns,n∈W∧n<pinned)→FW W (e0t ns rt)
 | [],rt,_=>FW.id
 |n::r,rt,h=>by
  simp only[e0t];cases rt n with
  |none=>exact o0c r rt fun m g=>h m (by simp[g])
  |some x=>
   have:=o0c r (fun j=>bif j==n then none else rt j) fun m g=>h m (by simp[g])
   exact(FW.drop (h n (by simp)).1 (h n (by simp)).2).comp this this.dead
theorem o0a{m n:Nat}{r:List Nat}(h:¬ m=n):(n::r).contains m=r.contains m:=by
 simp_all
theorem m0h{ρ:Type}(us:List Nat):∀(ns:List Nat)(Γ:AE)(K:AE→Rs ρ),Γ.dropAll false us ns K =
  bif ns.all fun n=>decide (n<pinned)&&!us.contains n then K ⟨fun i=>(Γ.sl i).mapv (e0t ns Γ.rt),fun n=>bif ns.contains n then none else Γ.rt n,Γ.pd⟩else none
 | [],Γ,K=>by
  simp_all[AE.dropAll,e0t,g0r]
 |n::r,Γ,K=>by
  simp only[AE.dropAll,a14];cases (decide (n<pinned)&&!us.contains n);rfl
  ·simp only[cT,Bool.true_and];cases hr:Γ.rt n with
   |none=>
    simp only[e0t,hr];rw[m0h us r Γ K];congr 2;congr 1;funext m
    by_cases e:m=n
    subst e;simp[hr];rw[o0a e]
   |some x=>
    simp only[cF,e0t,hr];rw[m0h us r];simp only[AE.setRt,AE.mapv,r0b]
    grind
theorem g0h:∀(rs:List RA)(b n:Nat),n∈c0h rs b→n∈b0d rs b
 | [],_,_,h=>h
 |.v _::rs,b,n,h=>a03 _ (g0h rs _ n h)
 |.o _::rs,b,n,h=>by
  rcases mC.1 h with rfl|h;exact a11;exact a03 _ (g0h rs _ n h)
 |.b _::rs,b,n,h=>by
  rcases mC.1 h with rfl|h;exact a11;exact a03 _ (g0h rs _ n h)
theorem o0e{x:Operand}(a:x∈o.op.operands.toList){n:Nat}(k:n∈(Γ.opd x).refs):n∈Γ.foot o:=by
 refine a31.2 ⟨x,a,?_⟩;cases x with
 |tmp t=>
  simp[AE.opd,AE.get]at k;show n∈(Γ.sl t).refs
  revert k
  cases Γ.sl t with
  |one v=>exact id
  |cmp c vs=>exact fun h=>by cases h
 |const v=>
  simp[AE.opd]at k;unfold k0v at k
  split at k<;>cases k
 |global g=>cases k
 |func f=>cases k
theorem x0y{d:Option Nat}{c:Call}{f:FuncId}{s:FSem}(N:o.op=.call c)(Q:c.callee=.value (.func f))(hd:o.dst=d)(w:Γ.pd=none)(R:cx.C f=some s)(D:∀n∈Γ.foot o,n∈W)(E:∀n∈d0z cx o (d.getD 0),n∈W)
    (hv:(s.rs.any RA.hasList || (d0o s.ps).any RA.hasList)=false∨∀a∈c.args.toList.map Γ.opd,a.viewed=[]):b0p g cx o d Γ W:=by
  let fz:=s.rs.any RA.hasList || (d0o s.ps).any RA.hasList
  let b:=d.getD 0+1000
  let j:=c0h s.rs b
  have M:∀Γ2,Same W (a0h o) Γ Γ2→c.args.toList.map Γ2.opd=c.args.toList.map Γ.opd:=fun Γ2 hA=>a06 fun x u=>hA.opd (g0m N x u);have t:∀a∈c.args.toList.map Γ.opd,∀n∈a.refs,n∈W:=fun a A n l=>by
    obtain⟨x,u,rfl⟩:=a13.1 A;exact D n (o0e (g0m N x u) l)
  have z:∀n∈b0d s.rs b,n∈W:=fun n l=>E n (by grind[d0z]);have q:∀n∈j,n∈W:=fun n l=>z n (g0h _ _ n l);have run:∀Γ2,Same W (a0h o) Γ Γ2→∀{ρ:Type}(K:AE→Rs ρ),aop cx false o Γ2 (gPd g K)=(Γ.argsm fz [] [] s.ps (c.args.toList.map Γ.opd)).elim none fun x=>
      bif j.all (fun n=>decide (n<pinned)&&!x.2.contains n)then(s.F x.1).bind fun y=>
        (let Γ3:AE:=⟨fun i=>((Γ2.sl i).mapv (e0t j Γ.rt)).mapv (AV.deeps x.2 ((brw s.ps x.2.reverse).filter fun n=>!m0m (bif j.contains n then none else Γ2.rt n))),fun n=>match c0b (b0d s.rs b++x.2.reverse) (c0d (RA.all s.ps s.rs) y) n with
          |some r=>some (bif x.2.contains n then h0h (bif j.contains n then none else Γ2.rt n) r else r)
          |none=>bif j.contains n then none else Γ2.rt n,none⟩
         match d with
          |none=>gPd g K Γ3
          |some d=>match d0h (b0d s.rs b) (c0d (RA.all s.ps s.rs) y)with
            | [v]=>gPd g K (Γ3.set d v)
            |vs=>gPd g K (Γ3.put d (.cmp .tup vs)))else none:=fun Γ2 hA ρ K=>by
    have B:aop cx false o Γ2 (gPd g K)=Γ2.call false d s (c.args.toList.map Γ.opd) (gPd g K):=by
      grind[aop]
    rw[B];unfold AE.call;rw[show Γ2.pd=none from hA.1.trans w];simp only[];rw[args_m _ _ _ _ _ _ _ hv,t0h _ _ _ _ _ (fun a A n l=>hA.look (t a A n l)) hv];cases Γ.argsm (s.rs.any RA.hasList || (d0o s.ps).any RA.hasList) [] [] s.ps (c.args.toList.map Γ.opd)with
    |none=>rfl
    |some x=>
      simp only[a15];rw[m0h,n0m _ fun n l=>hA.2.1 n (q n l)];cases d<;>rfl
  cases u:Γ.argsm fz [] [] s.ps (c.args.toList.map Γ.opd)with
  |none=>simp_all[b0p.none]
  |some x=>
    cases l:(j.all fun n=>decide (n<pinned)&&!x.2.contains n)with
    |false=>exact b0p.none fun Γ2 hA ρ K=>by grind
    |true=>
      cases hy:s.F x.1 with
      |none=>simp_all[b0p.none]
      |some y=>
        let m:=c0d (RA.all s.ps s.rs) y
        let ns:=b0d s.rs b
        let sv:SV:=match d0h ns m with
          | [v]=>.one v
          |vs=>.cmp .tup vs
        have p:∀n∈x.2,n∈W:=fun n l=>by
          rcases u0y fz s.ps _ _ _ x hv u n l with h|⟨a,A,h⟩
          all_goals grind
        have G:=o0c j Γ.rt fun n I=>⟨q n I,by
          simp_all⟩
        have H:∀Γ2,Same W (a0h o) Γ Γ2→((brw s.ps x.2.reverse).filter fun n=>!m0m (bif j.contains n then none else Γ2.rt n))=(brw s.ps x.2.reverse).filter fun n=>!m0m (bif j.contains n then none else Γ.rt n):=fun Γ2 hA=>
          a47 fun n l=>by
            obtain⟨k,i,e,O,-⟩:=n0f s.ps x.2.reverse 0 n l;rw[hA.2.1 n (p n (List.mem_reverse.1 (a23 O)))]
        refine b0p.some (fun v=>AV.deeps x.2 ((brw s.ps x.2.reverse).filter fun n=>!m0m (bif j.contains n then none else Γ.rt n)) (e0t j Γ.rt v)) (G.comp (FW.deeps p)) sv ((ns++x.2.reverse)++j) (fun n l=>?_) (fun n=>match c0b (ns++x.2.reverse) m n with
          |some r=>some (bif x.2.contains n then h0h (bif j.contains n then none else Γ.rt n) r else r)
          |none=>bif j.contains n then none else Γ.rt n) fun Γ2 hA ρ K=>?_
        grind
        rw[run Γ2 hA,u];simp only[a15,l,cT,hy,oB];have L:(fun n=>match c0b (ns++x.2.reverse) m n with
            |some r=>some (bif x.2.contains n then h0h (bif j.contains n then none else Γ2.rt n) r else r)
            |none=>bif j.contains n then none else Γ2.rt n)=fun n=>bif ((ns++x.2.reverse)++j).contains n then(match c0b (ns++x.2.reverse) m n with
            |some r=>some (bif x.2.contains n then h0h (bif j.contains n then none else Γ.rt n) r else r)
            |none=>bif j.contains n then none else Γ.rt n)else Γ2.rt n:=by
          funext n;cases hS:((ns++x.2.reverse)++j).contains n with
          |true=>
            have J:n∈W:=by
              grind
            rw[hA.2.1 n J];rfl
          |false=>
            grind[h0g]
        have P:∀sv':SV,(⟨fun i=>bif d==some i then sv' else((Γ2.sl i).mapv (e0t j Γ.rt)).mapv (AV.deeps x.2 ((brw s.ps x.2.reverse).filter fun n=>!m0m (bif j.contains n then none else Γ2.rt n))),fun n=>match c0b (b0d s.rs b++x.2.reverse) (c0d (RA.all s.ps s.rs) y) n with
            |some r=>some (bif x.2.contains n then h0h (bif j.contains n then none else Γ2.rt n) r else r)
            |none=>bif j.contains n then none else Γ2.rt n,none⟩:AE)=⟨fun i=>bif d==some i then sv' else(Γ2.sl i).mapv (fun v=>AV.deeps x.2 ((brw s.ps x.2.reverse).filter fun n=>!m0m (bif j.contains n then none else Γ.rt n)) (e0t j Γ.rt v)),fun n=>bif ((ns++x.2.reverse)++j).contains n then(match c0b (ns++x.2.reverse) m n with
            |some r=>some (bif x.2.contains n then h0h (bif j.contains n then none else Γ.rt n) r else r)
            |none=>bif j.contains n then none else Γ.rt n)else Γ2.rt n,Γ2.pd⟩:=fun sv'=>by
          rw[H Γ2 hA];rw[←L,hA.1,w];congr 1;simp_all[r0b]
        rw[←P sv];cases d with
        |none=>
          rw[g0p rfl];rfl
        |some d=>
          have B:∀i,(some d==some i)=(i==d):=fun i=>by
            grind
          simp only[B,AE.set,AE.put,sv];show(match d0h ns m with
            | [v]=>gPd g K _
            |vs=>gPd g K _)=_
          generalize d0h ns m=vs
          split<;>exact g0p rfl
theorem u0c{c:Call}(s:o.op=.call c)(A:c.callee=.builtin .append)(hd:o.dst=some d)(j:Γ.pd=none)(q:∀n∈Γ.foot o,n∈W)(i:d∈W)(k:m0y cx c.argTypes.toList=false):b0p g cx o (some d) Γ W:=by
 have run:∀Γ2,Same W (a0h o) Γ Γ2→∀{ρ:Type}(K:AE→Rs ρ),aop cx false o Γ2 K=Γ2.blt false cx d .append c.argTypes.toList (c.args.toList.map Γ.opd) K:=fun Γ2 hA ρ K=>by
  simp[aop,s,hd,A];rw[a06 fun x u=>hA.opd (g0m s x u)]
 have f:∀a∈c.args.toList.map Γ.opd,∀n∈a.refs,n∈W:=fun a z n r=>by
  obtain⟨x,u,rfl⟩:=a13.1 z;exact q n (o0e (g0m s x u) r)
 revert run f k
 generalize c.args.toList.map Γ.opd=as;generalize c.argTypes.toList=ts;intro k run f;have p:(∀(Γ2:AE){ρ:Type}(K:AE→Rs ρ),Γ2.blt false cx d .append ts as K=none)→b0p g cx o (some d) Γ W:=fun h=>b0p.none fun Γ2 hA ρ K=>by simp_all
 match as with
 | []=>exact p fun Γ2 ρ K=>rfl
 | [_]=>exact p fun Γ2 ρ K=>rfl
 |_::_::_::_=>exact p fun Γ2 ρ K=>rfl
 | [a,b]=>
  have m:∀n∈a.refs,n∈W:=f a (by simp);have v:∀n∈b.refs,n∈W:=f b (by simp);cases hni:m0p cx ts with
  |false=>
   cases hzl:t0f cx ts a b with
   |none=>exact p fun Γ2 ρ K=>by simp only[AE.blt,hni,l0d,hzl,cF]
   |some w=>
    obtain⟨e,ys⟩:=w;exact n0a j i (e:=e) (x:=.nils) (by simp[AV.refs]) (ys:=some ys) fun Γ2 hA ρ K=>by
     rw[run Γ2 hA];simp only[AE.blt,hni,l0d,hzl,cF];rfl
  |true=>
   cases ht:ts.head?.bind cx.T with
   |none=>simp_all[AE.blt]
   |some τ=>
    cases τ with
    |list o' e=>
     have k:e.isList=false:=by simp_all[m0y]
     have l:(∀(Γ2:AE){ρ:Type}(K:AE→Rs ρ),Γ2.blt false cx d .append ts [a,b] K=Γ2.elems e b fun ys=>Γ2.apnd false d e a ys K)→b0p g cx o (some d) Γ W:=fun h=>
      n0a j i (e:=e) (x:=a) m (ys:=f0i Γ.look e b) fun Γ2 hA ρ K=>by
       rw[run Γ2 hA,h,k0x,j0e fun n r=>hA.look (v n r)]
     cases b with
     |val t y=>
      cases t with
      |str=>
       by_cases he:e=.int .u8
       subst he;exact n0a j i (e:=.int .u8) (x:=a) m (ys:=some y) fun Γ2 hA ρ K=>by
        rw[run Γ2 hA];simp only[AE.blt,hni,ht,cT];rfl
       simp_all[AE.blt]
      |_=>exact l fun Γ2 ρ K=>by simp only[AE.blt,hni,ht,cT,k,a52,Bool.or_true]
     |_=>exact l fun Γ2 ρ K=>by simp only[AE.blt,hni,ht,cT,k,a52,Bool.or_true]
    |_=>exact p fun Γ2 ρ K=>by simp only[AE.blt,hni,ht,cT]
theorem o0l{d:Option Nat}(Γ:AE):Γ.setD d .dead=⟨fun i=>bif d==some i then .one .dead else Γ.sl i,Γ.rt,Γ.pd⟩:=by
 cases d with
 |none=>rfl
 |some d=>
  simp only[AE.setD,AE.set,AE.put]
  grind
theorem x0z{d:Option Nat}(k:Γ.pd=none){t:Ty}{n:Nat}{p:a0n}{x:AV}(a:n∈W)(hv:x.viewed=[])(h:∀Γ2,Same W (a0h o) Γ Γ2→∀{ρ:Type}(K:AE→Rs ρ),aop cx false o Γ2 K=Γ2.stor t n p x fun Γ=>K (Γ.setD d .dead)):b0p g cx o d Γ W:=by
 have b:∀Γ2,Same W (a0h o) Γ Γ2→Γ2.rt n=Γ.rt n:=fun Γ2 hA=>hA.2.1 n a;have v:∀Γ2,Same W (a0h o) Γ Γ2→Γ2.look n=Γ.rt n:=fun Γ2 hA=>by rw[hA.look a];simp only[AE.look,k]
 cases hr:Γ.rt n with
 |none=>simp_all[b0p.none,AE.stor]
 |some r=>
  have c:∀f y,b0c r.t r.x p=⟨f,y⟩→(∀e,f≠.list true e)→b0p g cx o d Γ W:=fun f y u B=>by
   have st:∀Γ2,Same W (a0h o) Γ Γ2→∀{ρ:Type}(K:AE→Rs ρ),aop cx false o Γ2 K=if f.shn=f∧f.sh=t then(e0j f x).elim none fun y=>K ((Γ2.setRt n (some ⟨r.bx,r.t,b0q r.t r.x p f y⟩)).setD d .dead)else Γ2.overP t n r x (fun Γ=>K (Γ.setD d .dead)) p:=fun Γ2 hA ρ K=>by
    rw[h Γ2 hA];unfold AE.stor;rw[b Γ2 hA,hr];simp[u];have body:(if f.shn=f∧f.sh=t then Γ2.asV false f x fun y Γ'=>(match Γ'.look n with
      |some r=>if(b0c r.t r.x p).1=f then K ((Γ'.setRt n (some ⟨r.bx,r.t,b0q r.t r.x p f y⟩)).setD d .dead)else none
      |none=>none)else Γ2.overP t n r x (fun Γ=>K (Γ.setD d .dead)) p)=if f.shn=f∧f.sh=t then(e0j f x).elim none fun y=>K ((Γ2.setRt n (some ⟨r.bx,r.t,b0q r.t r.x p f y⟩)).setD d .dead)else Γ2.overP t n r x (fun Γ=>K (Γ.setD d .dead)) p:=by
     simp_all[z0i]
    grind
   by_cases hc:f.shn=f∧f.sh=t
   ·cases ha:e0j f x with
    |none=>simp_all[b0p.none]
    |some y=>
     refine b0p.some id FW.id (.one .dead) [n] (by simp_all) (fun _=>some ⟨r.bx,r.t,b0q r.t r.x p f y⟩) fun Γ2 hA ρ K=>?_
     rw[st Γ2 hA,if_pos hc,ha];simp only[a15];rw[o0l,g0p (by exact hA.1.trans k)];congr 1;simp only[AE.setRt,c0m,g0r]
   ·cases p with
    |cons s p=>exact b0p.none fun Γ2 hA ρ K=>by rw[st Γ2 hA,if_neg hc];rfl
    |nil=>
     have w:(∀Γ2,Same W (a0h o) Γ Γ2→∀{ρ:Type}(K:AE→Rs ρ),Γ2.over t n r x K=none)→b0p g cx o d Γ W:=fun j=>b0p.none fun Γ2 hA ρ K=>by
      rw[st Γ2 hA,if_neg hc];exact j Γ2 hA (fun Γ=>gPd g K (Γ.setD d .dead))
     have i:∀(t2:Ty)(z:t2.den),(∀Γ2,Same W (a0h o) Γ Γ2→∀{ρ:Type}(K:AE→Rs ρ),Γ2.over t n r x K=K ((Γ2.mapv (AV.deeps [n] [])).setRt n (some ⟨true,t2,z⟩)))→b0p g cx o d Γ W:=fun t2 z j=>by
      refine b0p.some (AV.deeps [n] []) (FW.deeps (by simp_all)) (.one .dead) [n] (by simp_all) (fun _=>some ⟨true,t2,z⟩) fun Γ2 hA ρ K=>?_
      rw[st Γ2 hA,if_neg hc];simp only[AE.overP];rw[j Γ2 hA,o0l,g0p (by exact hA.1.trans k)];congr 1;simp only[AE.setRt,AE.mapv,c0m]
     have A:∀Γ2,Same W (a0h o) Γ Γ2→Γ2.look n=some r:=fun Γ2 hA=>(v Γ2 hA).trans hr;cases x with
     |val t' y=>
      by_cases hcc:r.bx=true∧(r.t.sh=t∧(t'.shn=t'∧t'.sh=t))
      ·cases h1:castTo t' r.t y with
       |some z=>exact i r.t z fun Γ2 hA ρ K=>by simp_all[AE.over]
       |none=>
        cases j:castTo t' r.t.shn y with
        |some z=>exact i r.t.shn z fun Γ2 hA ρ K=>by simp_all[AE.over]
        |none=>exact i t' y fun Γ2 hA ρ K=>by simp_all[AE.over]
      simp_all[AE.over]
     |_=>exact w fun Γ2 hA ρ K=>rfl
  cases u:b0c r.t r.x p with
  |mk f l=>
   cases f with
   |list o' e=>
    cases o' with
    |false=>simp_all
    |true=>
     by_cases hty:t.isList=true
     ·have w:(∀Γ2,Same W (a0h o) Γ Γ2→∀{ρ:Type}(K:AE→Rs ρ),Γ2.stor t n p x K=none)→b0p g cx o d Γ W:=fun j=>b0p.none fun Γ2 hA ρ K=>by simp_all
      cases x with
      |nils=>
       refine b0p.some (AV.kill n p) (FW.kill a p) (.one .dead) [n] (by simp_all) (fun _=>some ⟨r.bx,r.t,b0q r.t r.x p (.list true e) []⟩) fun Γ2 hA ρ K=>?_
       rw[h Γ2 hA];simp only[AE.stor,b Γ2 hA,hr,u,hty,if_true,v Γ2 hA];rw[o0l,g0p (by exact hA.1.trans k)];congr 1;simp only[AE.setRt,AE.mapv,c0m]
      |sref m q=>cases hv
      |_=>exact w fun Γ2 hA ρ K=>by simp only[AE.stor,b Γ2 hA,hr,u,hty,if_true]
     simp_all[b0p.none,AE.stor]
   |_=>exact c _ l u (by simp)
theorem n0b{Γ2:AE}(g:Same W (a0h o) Γ Γ2):wOk cx o Γ2=wOk cx o Γ:=by
 unfold wOk;cases ho:o.op<;>try rfl
 case store t a x=>
  simp
  rw[g.opd (by simp_all[Op.operands]),g.aggOf (by simp_all[Op.operands])]
 rename_i c;simp only[];cases hc:c.callee with
 |value v=>
  cases v with
  |func f=>
   simp only[];cases cx.C f with
   |none=>rfl
   |some s=>
    simp only[];congr 1
    have:∀x∈c.args.toList,(Γ2.opd x).viewed.isEmpty=(Γ.opd x).viewed.isEmpty:=fun x k=>by rw[g.opd (g0m ho x k)]
    grind
  |_=>rfl
 |builtin b=>grind
 |invoke r n=>rfl
where
 all_congr' {α:Type} {l:List α} {p q:α→Bool} (h:∀x∈l,p x=q x):l.all p=l.all q:=by
  grind
theorem l0j{Γ2:AE}(g:∀t∈a0h o,Γ2.sl t=Γ.sl t):Γ2.foot o=Γ.foot o:=by
 unfold AE.foot
 have:∀x∈o.op.operands.toList,(match x with
  |.tmp t=>(Γ2.sl t).refs
  |_=>[])=(match x with
  |.tmp t=>(Γ.sl t).refs
  |_=>[]):=fun x f=>by
  grind[d0a]
 exact flatMap_congr' this
where
 flatMap_congr' {α β:Type} {l:List α} {p q:α→List β} (h:∀x∈l,p x=q x):l.flatMap p=l.flatMap q:=by
  induction l with
  |nil=>rfl
  |cons a l ih=>simp_all
theorem o0p(b:Γ.pd=none)(h:wOk cx o Γ=true)(k:∀n∈Γ.foot o,n∈W)(e:∀n∈d0z cx o (o.dst.getD 0),n∈W):b0p g cx o o.dst Γ W:=by
 unfold wOk at h
 split at h
 rename_i c l
 split at h
 rename_i q;simp at h;obtain⟨d,hd⟩:=a00.1 h.1;rw[hd];exact u0c l q hd b k (e d (by rw[hd];exact a11)) h.2;rename_i f q
 split at h
 rename_i s v;refine x0y l q rfl b v k e ?_
 grind
 simp_all;simp_all
 ·rename_i t a x l;have m:a∈o.op.operands.toList:=by simp_all[Op.operands]
  have u:x∈o.op.operands.toList:=by simp_all[Op.operands]
  obtain⟨h,i⟩:=a07.1 h;have i:Γ.aggOf x=none:=by simp_all
  have j:∀Γ2:AE,Same W (a0h o) Γ Γ2→∀{ρ:Type}(K:AE→Rs ρ),aop cx false o Γ2 K=(match Γ2.opd a with
    |.ptr n p=>(match cx.T t with
     |some t=>Γ2.stor t n p (Γ2.opd x) fun Γ=>K (Γ.setD o.dst .dead)
     |none=>none)
    |_=>none):=fun Γ2 hA ρ K=>by
   have r:Γ2.aggOf x=none:=(hA.aggOf u).trans i;unfold aop;rw[l]
   grind
  cases hpa:Γ.opd a with
  |ptr n p=>
   cases ht:cx.T t with
   |none=>grind[b0p.none]
   |some τ=>
    refine x0z b (t:=τ) (n:=n) (p:=p) (x:=Γ.opd x) (k n (o0e m (by rw[hpa];simp[AV.refs]))) (by simp_all) fun Γ2 hA ρ K=>?_
    rw[j Γ2 hA,hA.opd m,hpa,ht,hA.opd u]
  |_=>exact b0p.none fun Γ2 hA ρ K=>by rw[j Γ2 hA,hA.opd m,hpa]
 simp_all
theorem l0t{ρ:Type}{ops:Array Oper}{ws:List Nat}{K:AE→Rs ρ}{z:ρ}(k:a0m cx (.w ws) ops.toList o Γ K=some z):
  ∃(W:List Nat)(m:MDl),FW W m.f∧(∀n∈W,n∈ws)∧K (d0k W m o.dst Γ)=some z∧
   ∀Γ2,Same W (o.looksAt ops) Γ Γ2→∀{ρ2:Type}(K2:AE→Rs ρ2),a0m cx (.w ws) ops.toList o Γ2 K2=K2 (d0k W m o.dst Γ2):=by
 rw[e0g]at k;cases hl:c0g ops o Γ with
 |none=>simp_all
 |some b=>
  rw[hl]at k;cases b with
  |false=>
   have q:∀Γ2:AE,Γ2.setD o.dst .skp=d0k [] ⟨id,fun _=>none,.one .skp,none⟩ o.dst Γ2:=fun Γ2=>by
    simp only[d0k,g0r];cases o.dst with
    |none=>rfl
    |some d=>
     simp only[AE.setD,AE.set,AE.put];congr 1
     grind
   refine⟨[],⟨id,fun _=>none,.one .skp,none⟩,FW.id,fun n i=>(by grind),by simp_all,fun Γ2 hA ρ2 K2=>?_⟩;rw[e0g,d0x hA.2.2,hl,←q Γ2]
  |true=>
   simp[c0o]at k;cases hpd:Γ.pd with
   |some p=>simp_all
   |none=>
    rw[hpd]at k;simp at k;obtain⟨a,k⟩:=(a0b k).elim id fun h=>by grind
    simp at a;obtain⟨a,j,l⟩:=a
    let W:=Γ.foot o++d0z cx o (o.dst.getD 0)
    obtain⟨r,e,s⟩:=o0p (g:=true) (cx:=cx) (W:=W) hpd a (fun n i=>a04 _ i) (fun n i=>a02 _ i);have k:aop cx false o Γ (gPd true K)=some z:=k;rw[s Γ Same.refl]at k;cases r with
    |none=>cases k
    |some m=>
     have k:K (c0t W m o.dst Γ)=some z:=k;rw[l0n ((e m rfl).2.1 rfl)]at k;refine⟨W,m,(e m rfl).1,fun n i=>(mA.1 i).elim (f0q j) (f0q l),k,fun Γ2 hA ρ2 K2=>?_⟩;have c:Same W (a0h o) Γ Γ2:=⟨hA.1,hA.2.1,fun t u=>hA.2.2 t (d0i u)⟩;rw[e0g,d0x hA.2.2,hl];simp[c0o];rw[hA.1,hpd,n0b c,a,l0j c.2.2,j,l];refine Eq.trans (s Γ2 c K2) ?_
     simp only[j0r];rw[l0n ((e m rfl).2.1 rfl)]
theorem u0u{ρ:Type}{ops:Array Oper}{ws:List Nat}{K:AE→Rs ρ}{z:ρ}(k:a0m cx (.a ws) ops.toList o Γ K=some z):
  ∃(W:List Nat)(m:MDl),FW W m.f∧(∀n∈W,n∈ws)∧K (c0t W m o.dst Γ)=some z∧
   ∀Γ2,Same W (o.looksAt ops) Γ Γ2→∀{ρ2:Type}(K2:AE→Rs ρ2),a0m cx (.a ws) ops.toList o Γ2 K2=K2 (c0t W m o.dst Γ2):=by
 rw[e0g]at k;cases hl:c0g ops o Γ with
 |none=>simp_all
 |some b=>
  rw[hl]at k;cases b with
  |false=>
   have q:∀Γ2:AE,Γ2.setD o.dst .skp=d0k [] ⟨id,fun _=>none,.one .skp,none⟩ o.dst Γ2:=fun Γ2=>by
    simp only[d0k,g0r];cases o.dst with
    |none=>rfl
    |some d=>
     simp only[AE.setD,AE.set,AE.put];congr 1
     grind
   refine⟨[],⟨id,fun _=>none,.one .skp,none⟩,FW.id,fun n i=>(by grind),by rw[l0n rfl,←q Γ];omega,fun Γ2 hA ρ2 K2=>?_⟩;rw[e0g,d0x hA.2.2,hl,l0n rfl,←q Γ2]
  |true=>
   simp[c0o]at k;cases hpd:Γ.pd with
   |some p=>simp_all
   |none=>
    rw[hpd]at k;simp at k;obtain⟨c,k⟩:=(a0b k).elim id fun h=>by grind
    simp at c;obtain⟨c,j,l⟩:=c
    let W:=Γ.foot o++d0z cx o (o.dst.getD 0)
    obtain⟨r,s,u⟩:=o0p (g:=false) (cx:=cx) (W:=W) hpd c (fun n i=>a04 _ i) (fun n i=>a02 _ i);have k:aop cx false o Γ (gPd false K)=some z:=k;rw[u Γ Same.refl]at k;cases r with
    |none=>cases k
    |some m=>
     have k:K (c0t W m o.dst Γ)=some z:=k;refine⟨W,m,(s m rfl).1,fun n i=>(mA.1 i).elim (f0q j) (f0q l),k,fun Γ2 hA ρ2 K2=>?_⟩;have e:Same W (a0h o) Γ Γ2:=⟨hA.1,hA.2.1,fun t v=>hA.2.2 t (d0i v)⟩;rw[e0g,d0x hA.2.2,hl];simp[c0o];rw[hA.1,hpd,n0b e,c,l0j e.2.2,j,l];exact u Γ2 e K2
theorem j0c:∀{p q:a0n},c0r p q=true→q.all Step.isField=true→p.all Step.isField=true
 | [],_,_,_=>rfl
 |.fst::p,.fst::q,h,h2=>by
  simp only[a14,bA]at h2⊢;exact⟨rfl,j0c h h2.2⟩
 |.snd::p,.snd::q,h,h2=>by
  simp only[a14,bA]at h2⊢;exact⟨rfl,j0c h h2.2⟩
 |.idx _::p,.idx _::q,h,h2=>by simp[Step.isField]at h2
theorem v0x{n:Nat}{p:a0n}(hp:p.all Step.isField=false){sv:SV}(h:sv.still=true):sv.mapv (AV.kill n p)=sv:=by
 cases sv with
 |one v=>
  have key:∀q:a0n,q.all Step.isField=true→c0r p q=false:=fun q g=>by
   cases hb:c0r p q with
   |false=>rfl
   |true=>rw[j0c hb g]at hp;cases hp
  cases v with
  |ptr m q=>simp only[SV.mapv,AV.kill,key q h,a53,a25];rfl
  |sref m q=>simp only[SV.mapv,AV.kill,key q h,a53];rfl
  |swin=>cases h
  |_=>rfl
 |cmp c vs=>exact(FW.kill (W:=[n]) (by simp) p).fp.sv (j0o h)
theorem v0b{ρ:Type}{ops:Array Oper}{ws:List Nat}{K:AE→Rs ρ}{z:ρ}(k:a0m cx (.b ws) ops.toList o Γ K=some z):
  ∃(W:List Nat)(m:MDl),FW W m.f∧(∀n∈W,n∈ws)∧(∀sv:SV,sv.still=true→sv.mapv m.f=sv)∧(∀n∈W,tyq (m.rt n)=tyq (Γ.rt n))∧(c0t W m o.dst Γ).pdElem=Γ.pdElem∧K (c0t W m o.dst Γ)=some z∧
   ∀Γ2,Same W (o.looksAt ops) Γ Γ2→(∀{ρ2:Type}(K2:AE→Rs ρ2),a0m cx (.b ws) ops.toList o Γ2 K2=K2 (c0t W m o.dst Γ2)):=by
 rw[e0g]at k;cases hl:c0g ops o Γ with
 |none=>rw[hl]at k;cases k
 |some b=>
  rw[hl]at k;cases b with
  |false=>
   have u:∀Γ2:AE,Γ2.setD o.dst .skp=d0k [] ⟨id,fun _=>none,.one .skp,none⟩ o.dst Γ2:=fun Γ2=>by
    simp only[d0k,g0r];cases o.dst with
    |none=>rfl
    |some d=>
     simp only[AE.setD,AE.set,AE.put];congr 1;funext i
     by_cases h:i=d
     subst h;simp;have B:(i==d)=false:=by simpa using h
     have C:(some d==some i)=false:=by simpa using Ne.symm h
     rw[B,C]
   refine⟨[],⟨id,fun _=>none,.one .skp,none⟩,FW.id,fun n e=>(by cases e),fun sv _=>g0r sv,fun n e=>(by cases e),by rw[l0n rfl];rfl,by rw[l0n rfl,←u Γ];exact k,fun Γ2 hA ρ2 K2=>?_⟩;rw[e0g,d0x hA.2.2,hl,l0n rfl,←u Γ2]
  |true=>
   simp only[c0o]at k;cases hpd:Γ.pd with
   |some p=>rw[hpd]at k;cases k
   |none=>
    rw[hpd]at k;simp only[]at k;obtain⟨a,k⟩:=(a0b k).elim id fun h=>by cases h.2
    simp only[bA]at a;obtain⟨a,q,s⟩:=a
    let W:=Γ.foot o++d0z cx o (o.dst.getD 0)
    obtain⟨r,A,D⟩:=o0p (g:=false) (cx:=cx) (W:=W) hpd a (fun n e=>a04 _ e) (fun n e=>a02 _ e);have l:∀Γ2,Same W (a0h o) Γ Γ2→∀{ρ:Type}(K:AE→Rs ρ),aop cx false o Γ2 K=j0r W r o.dst Γ2 K:=fun Γ2 hA ρ K=>D Γ2 hA K;rw[l Γ Same.refl]at k;cases r with
    |none=>cases k
    |some m=>
     obtain⟨v,-,y⟩:=A m rfl;cases hmp:m.pd with
     |none=>
      simp only[j0r,c0t,hmp,hpd]at k;cases k
     |some x=>
      obtain⟨n,p,d⟩:=x;obtain⟨hf,hty⟩:=y n p d hmp;have c:∀Γ2:AE,(c0t W m o.dst Γ2).pd=some (n,p,d):=fun Γ2=>by simp only[c0t,hmp]
      simp only[j0r,c]at k;obtain⟨hp,k⟩:=(a0b k).elim id fun h=>by cases h.2
      have w:p.all Step.isField=false:=by simpa using hp
      refine⟨W,m,v,fun n e=>(mA.1 e).elim (f0q q) (f0q s),fun sv h=>by rw[hf];exact v0x w h,hty,by simp only[AE.pdElem,c,hp,hpd],k,fun Γ2 hA ρ2 K2=>?_⟩;have j:Same W (a0h o) Γ Γ2:=⟨hA.1,hA.2.1,fun t E=>hA.2.2 t (d0i E)⟩;rw[e0g,d0x hA.2.2,hl];simp only[c0o];rw[hA.1,hpd,n0b j,a,l0j j.2.2,q,s];simp only[Bool.and_self,cT];rw[l Γ2 j];simp only[j0r,c,hp,cT]
end
theorem AE.ext'{Γ Γ2:AE}(f:∀i,Γ.sl i=Γ2.sl i)(k:∀n,Γ.rt n=Γ2.rt n)(e:Γ.pd=Γ2.pd):Γ=Γ2:=by
 obtain⟨a,b,c⟩:=Γ;obtain⟨h,g,d⟩:=Γ2;obtain rfl:a=h:=funext f;obtain rfl:b=g:=funext k;simp_all
theorem i0c(δ:Dl)(d:Nat)(Γ:AE)(i:Nat):(δ.app d Γ).sl i=if i=d then δ.sv else Γ.sl i:=by
 simp_all[Dl.app]
theorem c0s{δ:Dl}{d:Nat}{Γ:AE}{n:Nat}(h:find δ.rs n=none):(δ.app d Γ).rt n=Γ.rt n:=by simp[Dl.app,h]
theorem t0g{δ:Dl}{d:Nat}{Γ:AE}{n:Nat}(h:find δ.rs n≠none):(δ.app d Γ).rt n≠none:=by
 grind[Dl.app]
theorem m0c{δ:Dl}{d:Nat}{Γ:AE}(h:∀n,find δ.rs n≠none→Γ.rt n=none){n:Nat}(g:Γ.rt n≠none):(δ.app d Γ).rt n=Γ.rt n:=
 c0s (by
  grind)
theorem d0c(W:List Nat)(m:MDl)(d:Option Nat)(Γ:AE)(i:Nat):(d0k W m d Γ).sl i=if d=some i then m.sv else(Γ.sl i).mapv m.f:=by
 simp_all[d0k]
theorem h0s{W:List Nat}{m:MDl}{d:Option Nat}{Γ:AE}{n:Nat}(h:n∉W):(d0k W m d Γ).rt n=Γ.rt n:=by
 simp_all[d0k]
theorem o0b{a b:List Nat}(h:disj a b=true){n:Nat}(g:n∈a):n∉b:=by
 have:=lA.1 h n g
 simp_all
theorem d0n(Γ:AE)(d:Nat)(sv:SV)(i:Nat):(Γ.put d sv).sl i=if i=d then sv else Γ.sl i:=by
 simp_all[AE.put]
section
variable {ρ:Type} {cx:Cx} {ops:Array Oper} {k i:Oper} {dk di:Nat} {Γ:AE} {K:AE→Rs ρ} {z:ρ}
theorem z0x{mk mi:Md}(s:mk.quiet)(q:mi.quiet)(h:k.dst=some dk)(f:i.dst=some di)(p:k.apart ops i=true)(c:∀t∈i.looksAt ops,∀n∈(Γ.sl t).refs,mi.reads n→Γ.rt n≠none)
  (G:a0m cx mk ops.toList k Γ (fun Γ1=>a0m cx mi ops.toList i Γ1 K)=some z):a0m cx mi ops.toList i Γ (fun Γ1=>a0m cx mk ops.toList k Γ1 K)=some z:=by
 obtain⟨a1,u,l⟩:=Oper.apart_spec p;have a1:=a1 dk h;have u:di≠dk:=fun e=>u dk h (by simp_all);have l:=l di f;obtain⟨δk,x,v,C,I,D⟩:=t0d s h G;obtain⟨δi,w,y,A,H,B⟩:=t0d q f C;have E:∀n,find δi.rs n≠none→find δk.rs n=none:=fun n b=>by
  grind[t0g]
 have a:∀n,find δi.rs n≠none→Γ.rt n=none:=fun n b=>by simp_all[c0s]
 have m:r0w mi w (δk.app dk Γ) Γ:=by
  refine⟨rfl,fun t d=>?_⟩;have g:t≠dk:=fun e=>a1 (e▸(y t d).1);have J:(δk.app dk Γ).sl t=Γ.sl t:=by rw[i0c,if_neg g]
  grind[m0c]
 rw[B Γ m a];have o:r0w mk x Γ (δi.app di Γ):=by
  refine⟨rfl,fun t d=>?_⟩;have g:t≠di:=fun e=>l (e▸(v t d).1);exact⟨by rw[i0c,if_neg g],fun n b hv=>m0c a ((v t d).2 n b hv).2⟩
 have F:∀n,find δk.rs n≠none→find δi.rs n=none:=fun n b=>by
  grind
 rw[D _ o fun n b=>by simp_all[c0s],←A];congr 1;refine AE.ext' (fun j=>?_) (fun n=>?_) rfl;simp[i0c]
 grind
 ·cases e1:find δk.rs n with
  |none=>
   rw[c0s e1]
   grind[c0s,Dl.app]
  |some r=>
   grind[c0s,Dl.app]
theorem A0a{ws:List Nat}(h:k.dst=some dk)(a:k.apart ops i=true)
  (u:a0m cx .v ops.toList k Γ (fun Γ1=>a0m cx (.w ws) ops.toList i Γ1 K)=some z):a0m cx (.w ws) ops.toList i Γ (fun Γ1=>a0m cx .v ops.toList k Γ1 K)=some z:=by
 obtain⟨a1,f,l⟩:=Oper.apart_spec a;have a1:=a1 dk h;have f:=f dk h;obtain⟨sv,L,q,d,r,s⟩:=w0k h u;obtain⟨W,m,c,-,o,p⟩:=l0t r;have x:Same W (i.looksAt ops) (Γ.put dk sv) Γ:=⟨rfl,fun _ _=>rfl,fun t b=>by
  have g:t≠dk:=fun e=>a1 (by simp_all);rw[d0n,if_neg g]⟩
 have y:∀t∈L,(d0k W m i.dst Γ).sl t=Γ.sl t:=fun t b=>by
  have g:¬ i.dst=some t:=fun e=>l t e (d t b).1;rw[d0c,if_neg g];exact c.fp.sv (d t b).2
 rw[p Γ x,s (d0k W m i.dst Γ) rfl y,←o];congr 1;refine AE.ext' (fun j=>?_) (fun n=>rfl) rfl;simp[d0n,d0c]
 by_cases e1:j=dk
 subst e1;rw[if_pos rfl,if_neg f,if_pos rfl];exact(c.fp.sv q).symm;simp_all
theorem A0d{ws:List Nat}(h:i.dst=some di)(b:k.apart ops i=true)
  (x:a0m cx (.w ws) ops.toList k Γ (fun Γ1=>a0m cx .v ops.toList i Γ1 K)=some z):a0m cx .v ops.toList i Γ (fun Γ1=>a0m cx (.w ws) ops.toList k Γ1 K)=some z:=by
 obtain⟨a1,f,a⟩:=Oper.apart_spec b;have a:=a di h;have f:¬ k.dst=some di:=fun e=>f di e h;obtain⟨W,m,d,-,p,q⟩:=l0t x;obtain⟨sv,L,r,l,s,u⟩:=w0k h p;have y:∀t∈L,Γ.sl t=(d0k W m k.dst Γ).sl t:=fun t c=>by
  have o:=(l t c).2;have g:¬ k.dst=some t:=fun e=>a1 t e (l t c).1;rw[d0c,if_neg g]at o⊢;exact(d.fp.sv' o).symm
 have A:Same W (k.looksAt ops) Γ (Γ.put di sv):=⟨rfl,fun _ _=>rfl,fun t c=>by
  have g:t≠di:=fun e=>a (by simp_all);rw[d0n,if_neg g]⟩
 rw[u Γ rfl y,q (Γ.put di sv) A,←s];congr 1;refine AE.ext' (fun j=>?_) (fun n=>rfl) rfl;simp[d0n,d0c]
 by_cases e2:j=di
 subst e2;rw[if_neg f,if_pos rfl,if_pos rfl];exact d.fp.sv r;simp_all
theorem e0u(W:List Nat)(m:MDl)(d:Option Nat)(Γ:AE)(i:Nat):(c0t W m d Γ).sl i=if d=some i then m.sv else(Γ.sl i).mapv m.f:=d0c W m d Γ i
theorem z0w{ws:List Nat}(h:k.dst=some dk)(a:k.apart ops i=true)
  (v:a0m cx .p ops.toList k Γ (fun Γ1=>a0m cx (.w ws) ops.toList i Γ1 K)=some z):a0m cx (.w ws) ops.toList i Γ (fun Γ1=>a0m cx .p ops.toList k Γ1 K)=some z:=by
 obtain⟨a1,f,l⟩:=Oper.apart_spec a;have a1:=a1 dk h;have f:=f dk h;obtain⟨sv,L,r,d,s,u⟩:=p0l h v;obtain⟨W,m,c,-,o,q⟩:=l0t s;have x:Same W (i.looksAt ops) (Γ.put dk sv) Γ:=⟨rfl,fun _ _=>rfl,fun t b=>by
  have g:t≠dk:=fun e=>a1 (by simp_all);rw[d0n,if_neg g]⟩
 have y:∀t∈L,(d0k W m i.dst Γ).sl t=Γ.sl t:=fun t b=>by
  have g:¬ i.dst=some t:=fun e=>l t e (d t b).1;rw[d0c,if_neg g];exact c.fp.sv (d t b).2
 rw[q Γ x,u (d0k W m i.dst Γ) y,←o];congr 1;refine AE.ext' (fun j=>?_) (fun n=>rfl) rfl;simp[d0n,d0c]
 by_cases e1:j=dk
 subst e1;rw[if_pos rfl,if_neg f,if_pos rfl];exact(c.fp.sv r).symm;simp_all
theorem A0b{ws:List Nat}(h:i.dst=some di)(b:k.apart ops i=true)
  (x:a0m cx (.w ws) ops.toList k Γ (fun Γ1=>a0m cx .p ops.toList i Γ1 K)=some z):a0m cx .p ops.toList i Γ (fun Γ1=>a0m cx (.w ws) ops.toList k Γ1 K)=some z:=by
 obtain⟨a1,f,a⟩:=Oper.apart_spec b;have a:=a di h;have f:¬ k.dst=some di:=fun e=>f di e h;obtain⟨W,m,d,-,q,r⟩:=l0t x;obtain⟨sv,L,s,l,u,v⟩:=p0l h q;have y:∀t∈L,Γ.sl t=(d0k W m k.dst Γ).sl t:=fun t c=>by
  have o:=(l t c).2;have g:¬ k.dst=some t:=fun e=>a1 t e (l t c).1;rw[d0c,if_neg g]at o⊢;exact(d.fp.sv' o).symm
 have A:Same W (k.looksAt ops) Γ (Γ.put di sv):=⟨rfl,fun _ _=>rfl,fun t c=>by
  have g:t≠di:=fun e=>a (by simp_all);rw[d0n,if_neg g]⟩
 rw[v Γ y,r (Γ.put di sv) A,←u];congr 1;refine AE.ext' (fun j=>?_) (fun n=>rfl) rfl;simp[d0n,d0c]
 by_cases e2:j=di
 subst e2;rw[if_neg f,if_pos rfl,if_pos rfl];exact d.fp.sv s;simp_all
theorem z0v{ws:List Nat}(h:k.dst=some dk)(b:k.apart ops i=true)
  (w:a0m cx .p ops.toList k Γ (fun Γ1=>a0m cx (.a ws) ops.toList i Γ1 K)=some z):a0m cx (.a ws) ops.toList i Γ (fun Γ1=>a0m cx .p ops.toList k Γ1 K)=some z:=by
 obtain⟨a1,f,o⟩:=Oper.apart_spec b;have a1:=a1 dk h;have f:=f dk h;obtain⟨sv,L,s,l,u,v⟩:=p0l h w;obtain⟨W,m,d,-,q,r⟩:=u0u u;have x:Same W (i.looksAt ops) (Γ.put dk sv) Γ:=⟨rfl,fun _ _=>rfl,fun t c=>by
  have g:t≠dk:=fun e=>a1 (by simp_all);rw[d0n,if_neg g]⟩
 have y:∀t∈L,(c0t W m i.dst Γ).sl t=Γ.sl t:=fun t c=>by
  have g:¬ i.dst=some t:=fun e=>o t e (l t c).1;rw[e0u,if_neg g];exact d.fp.sv (l t c).2
 rw[r Γ x,v (c0t W m i.dst Γ) y,←q];congr 1;refine AE.ext' (fun j=>?_) (fun n=>rfl) rfl;simp[d0n,e0u]
 by_cases e1:j=dk
 subst e1;rw[if_pos rfl,if_neg f,if_pos rfl];exact(d.fp.sv s).symm;simp_all
theorem z0t{ws:List Nat}(h:i.dst=some di)(c:k.apart ops i=true)
  (x:a0m cx (.a ws) ops.toList k Γ (fun Γ1=>a0m cx .p ops.toList i Γ1 K)=some z):a0m cx .p ops.toList i Γ (fun Γ1=>a0m cx (.a ws) ops.toList k Γ1 K)=some z:=by
 obtain⟨a1,f,b⟩:=Oper.apart_spec c;have b:=b di h;have f:¬ k.dst=some di:=fun e=>f di e h;obtain⟨W,m,l,-,r,s⟩:=u0u x;obtain⟨sv,L,u,o,v,w⟩:=p0l h r;have y:∀t∈L,Γ.sl t=(c0t W m k.dst Γ).sl t:=fun t d=>by
  have q:=(o t d).2;have g:¬ k.dst=some t:=fun e=>a1 t e (o t d).1;rw[e0u,if_neg g]at q⊢;exact(l.fp.sv' q).symm
 have A:Same W (k.looksAt ops) Γ (Γ.put di sv):=⟨rfl,fun _ _=>rfl,fun t d=>by
  have g:t≠di:=fun e=>b (by simp_all);rw[d0n,if_neg g]⟩
 rw[w Γ y,s (Γ.put di sv) A,←v];congr 1;refine AE.ext' (fun j=>?_) (fun n=>rfl) rfl;simp[d0n,e0u]
 by_cases e2:j=di
 subst e2;rw[if_neg f,if_pos rfl,if_pos rfl];exact l.fp.sv u;simp_all
theorem z0y{ns ws:List Nat}(hd:disj ns ws=true)(g:k.dst=some dk)(d:k.apart ops i=true)
  (C:a0m cx (.r ns) ops.toList k Γ (fun Γ1=>a0m cx (.w ws) ops.toList i Γ1 K)=some z):a0m cx (.w ws) ops.toList i Γ (fun Γ1=>a0m cx (.r ns) ops.toList k Γ1 K)=some z:=by
 obtain⟨a1,b,s⟩:=Oper.apart_spec d;have a1:=a1 dk g;have b:=b dk g;obtain⟨δ,L,c,y,F,A,B⟩:=w0b g C;obtain⟨W,m,p,x,u,v⟩:=l0t y;have o:∀n∈ns,n∉W:=fun n h q=>o0b hd h (x n q);have l:∀n∈W,find δ.rs n=none:=fun n h=>by
  grind
 have D:Same W (i.looksAt ops) (δ.app dk Γ) Γ:=⟨rfl,fun n h=>(c0s (l n h)).symm,fun t a=>by
  have f:t≠dk:=fun e=>a1 (by simp_all);rw[i0c,if_neg f]⟩
 have E:k0p L Γ (d0k W m i.dst Γ):=⟨rfl,fun t a=>by
  have f:¬ i.dst=some t:=fun e=>s t e (c t a).1;refine⟨?_,fun n h=>h0s (o n ((c t a).2.2 n h).2)⟩;rw[d0c,if_neg f];exact p.sv fun n h=>o n ((c t a).2.2 n h).2⟩
 rw[v Γ D,B _ E fun n h=>by grind[h0s],←u];congr 1;refine AE.ext' (fun j=>?_) (fun n=>?_) rfl;simp[i0c,d0c]
 by_cases e1:j=dk
 subst e1;rw[if_pos rfl,if_neg b,if_pos rfl];exact(p.sv fun n h=>o n (A n h)).symm;simp_all
 by_cases q:n∈W
 simp_all[c0s,d0k];simp_all[h0s,Dl.app]
theorem A0c{ns ws:List Nat}(hd:disj ns ws=true)(f:i.dst=some di)(o:k.apart ops i=true)
  (D:a0m cx (.w ws) ops.toList k Γ (fun Γ1=>a0m cx (.r ns) ops.toList i Γ1 K)=some z):a0m cx (.r ns) ops.toList i Γ (fun Γ1=>a0m cx (.w ws) ops.toList k Γ1 K)=some z:=by
 obtain⟨a1,c,d⟩:=Oper.apart_spec o;have d:=d di f;have c:¬ k.dst=some di:=fun e=>c di e f;obtain⟨W,m,s,y,v,x⟩:=l0t D;obtain⟨δ,L,l,A,H,B,C⟩:=w0b f v;have E:∀n∈ns,n∉W:=fun n g u=>o0b hd g (y n u);have p:∀n∈W,find δ.rs n=none:=fun n g=>by
  grind
 have F:k0p L (d0k W m k.dst Γ) Γ:=⟨rfl,fun t b=>by
  have h:¬ k.dst=some t:=fun e=>a1 t e (l t b).1;have a:=(l t b).2.1;have q:=(l t b).2.2;rw[d0c,if_neg h]at a q;refine⟨by rw[d0c,if_neg h];exact(s.sv' a).symm,fun n g=>?_⟩;rw[d0c,if_neg h]at g
  grind[h0s]⟩
 have G:Same W (k.looksAt ops) Γ (δ.app di Γ):=⟨rfl,fun n g=>c0s (p n g),fun t b=>by
  have h:t≠di:=fun e=>d (by simp_all);rw[i0c,if_neg h]⟩
 rw[C Γ F fun n g=>by
  grind[h0s],x _ G,←A]
 congr 1;refine AE.ext' (fun j=>?_) (fun n=>?_) rfl;simp[i0c,d0c]
 by_cases e1:j=di
 subst e1;rw[if_neg c,if_pos rfl,if_pos rfl];exact s.sv fun n g=>E n (B n g);simp_all
 by_cases u:n∈W
 simp_all[c0s,d0k];simp_all[h0s,Dl.app]
theorem o0i{W:List Nat}{m:MDl}{d:Option Nat}{Γ:AE}(h:∀n∈W,tyq (m.rt n)=tyq (Γ.rt n))(n:Nat):tyq ((c0t W m d Γ).rt n)=tyq (Γ.rt n):=by
 show tyq (bif W.contains n then m.rt n else Γ.rt n)=_;cases hw:W.contains n with
 |true=>exact h n (a17.1 hw)
 |false=>rfl
theorem t0y{sv:SV}(h:sv.still=true):sv.alive=true:=by
 cases sv with
 |one v=>cases v<;>first|rfl|cases h
 |cmp c vs=>exact p0e h
theorem z0z{ws:List Nat}(h:k.dst=some dk)(l:k.apart ops i=true)
  (B:a0m cx .s ops.toList k Γ (fun Γ1=>a0m cx (.b ws) ops.toList i Γ1 K)=some z):a0m cx (.b ws) ops.toList i Γ (fun Γ1=>a0m cx .s ops.toList k Γ1 K)=some z:=by
 obtain⟨a1,c,q⟩:=Oper.apart_spec l;have a1:=a1 dk h;have c:=c dk h;obtain⟨sv,L,x,p,y,A⟩:=w0d h B;obtain⟨W,m,-,-,o,w,v,r,u⟩:=v0b y;have C:Same W (i.looksAt ops) (Γ.put dk sv) Γ:=⟨rfl,fun _ _=>rfl,fun t a=>by
  have f:t≠dk:=fun e=>a1 (by rw[←e];exact a);rw[d0n,if_neg f]⟩
 have D:∀t∈L,(c0t W m i.dst Γ).sl t=Γ.sl t:=fun t a=>by
  have f:¬ i.dst=some t:=fun e=>q t e (p t a).1;rw[e0u,if_neg f];exact o _ (p t a).2.1
 rw[u Γ C,A (c0t W m i.dst Γ) (fun t a=>⟨D t a,fun n _=>o0i (d:=i.dst) w n⟩) (fun g=>v.trans g),←r];congr 1;refine AE.ext' (fun j=>?_) (fun n=>rfl) rfl;simp only[d0n,e0u]
 by_cases e1:j=dk
 subst e1;rw[if_pos rfl,if_neg c,if_pos rfl];exact(o _ x).symm;rw[if_neg e1,if_neg e1]
theorem z0u{ws:List Nat}(h:i.dst=some di)(o:k.apart ops i=true)
  (D:a0m cx (.b ws) ops.toList k Γ (fun Γ1=>a0m cx .s ops.toList i Γ1 K)=some z):a0m cx .s ops.toList i Γ (fun Γ1=>a0m cx (.b ws) ops.toList k Γ1 K)=some z:=by
 obtain⟨a1,c,l⟩:=Oper.apart_spec o;have l:=l di h;have c:¬ k.dst=some di:=fun e=>c di e h;obtain⟨W,m,u,-,r,y,x,v,w⟩:=v0b D;obtain⟨sv,L,A,p,B,C⟩:=w0d h v;have E:∀t∈L,Γ.sl t=(c0t W m k.dst Γ).sl t:=fun t a=>by
  have q:=(p t a).2.1;have f:¬ k.dst=some t:=fun e=>a1 t e (p t a).1;rw[e0u,if_neg f]at q⊢;exact(u.sv' (t0y q)).symm
 have F:Same W (k.looksAt ops) Γ (Γ.put di sv):=⟨rfl,fun _ _=>rfl,fun t a=>by
  have f:t≠di:=fun e=>l (by rw[←e];exact a);rw[d0n,if_neg f]⟩
 rw[C Γ (fun t a=>⟨E t a,fun n _=>(o0i (d:=k.dst) y n).symm⟩) (fun g=>x.symm.trans g),w (Γ.put di sv) F,←B];congr 1;refine AE.ext' (fun j=>?_) (fun n=>rfl) rfl;simp only[d0n,e0u]
 by_cases e2:j=di
 subst e2;rw[if_neg c,if_pos rfl,if_pos rfl];exact r _ A;rw[if_neg e2,if_neg e2]
theorem B0e{mk mi:Md}(c:o0x mk mi=true)(g:mk.isW=true∨k.dst.isSome=true)(h:mi.isW=true∨i.dst.isSome=true)(f:k.apart ops i=true)(e:∀t∈i.looksAt ops,∀n∈(Γ.sl t).refs,mi.reads n→Γ.rt n≠none)
  (d:a0m cx mk ops.toList k Γ (fun Γ1=>a0m cx mi ops.toList i Γ1 K)=some z):a0m cx mi ops.toList i Γ (fun Γ1=>a0m cx mk ops.toList k Γ1 K)=some z:=by
 have m:mk.quiet→mi.quiet→a0m cx mi ops.toList i Γ (fun Γ1=>a0m cx mk ops.toList k Γ1 K)=some z:=fun o u=>by
  obtain⟨l,g⟩:=a00.1 (g.resolve_left (by cases mk<;>first|(cases o;done)|simp[Md.isW]))
  obtain⟨j,h⟩:=a00.1 (h.resolve_left (by cases mi<;>first|(cases u;done)|simp[Md.isW]))
  exact z0x o u g h f e d
 cases mk with
 |x=>cases mi<;>cases c
 |p=>
  cases mi with
  |x=>cases c
  |b ws=>cases c
  |a ws=>
   obtain⟨l,g⟩:=a00.1 (g.resolve_left (by simp[Md.isW]));exact z0v g f d
  |w ws=>
   obtain⟨l,g⟩:=a00.1 (g.resolve_left (by simp[Md.isW]));exact z0w g f d
  |_=>exact m trivial trivial
 |s=>
  cases mi with
  |x=>cases c
  |a ws=>cases c
  |w ws=>cases c
  |b ws=>
   obtain⟨l,g⟩:=a00.1 (g.resolve_left (by simp[Md.isW]));exact z0z g f d
  |_=>exact m trivial trivial
 |b ws=>
  cases mi with
  |s=>
   obtain⟨j,h⟩:=a00.1 (h.resolve_left (by simp[Md.isW]));exact z0u h f d
  |_=>cases c
 |a ws=>
  cases mi with
  |p=>
   obtain⟨j,h⟩:=a00.1 (h.resolve_left (by simp[Md.isW]));exact z0t h f d
  |_=>cases c
 |v=>
  cases mi with
  |x=>cases c
  |b ws=>cases c
  |a ws=>cases c
  |w ws=>
   obtain⟨l,g⟩:=a00.1 (g.resolve_left (by simp[Md.isW]));exact A0a g f d
  |_=>exact m trivial trivial
 |q=>
  cases mi with
  |x=>cases c
  |b ws=>cases c
  |a ws=>cases c
  |w ws=>cases c
  |_=>exact m trivial trivial
 |r ns=>
  cases mi with
  |x=>cases c
  |b ws=>cases c
  |a ws=>cases c
  |w ws=>
   obtain⟨l,g⟩:=a00.1 (g.resolve_left (by simp[Md.isW]));exact z0y c g f d
  |_=>exact m trivial trivial
 |w ws=>
  cases mi with
  |p=>
   obtain⟨j,h⟩:=a00.1 (h.resolve_left (by simp[Md.isW]));exact A0b h f d
  |v=>
   obtain⟨j,h⟩:=a00.1 (h.resolve_left (by simp[Md.isW]));exact A0d h f d
  |r ns=>
   obtain⟨j,h⟩:=a00.1 (h.resolve_left (by simp[Md.isW]));exact A0c c h f d
  |_=>cases c
end
theorem n0o(g:Nat→Nat)(k:Nat):∀(l:List Edge)(s:Nat),(l.foldl (fun s e=>if Region.binds .any e then s ||| 2^e.on ||| g e.on else s) s).testBit k=true→
  s.testBit k=true∨∃e∈l,Region.binds .any e=true∧(e.on=k∨(g e.on).testBit k=true)
 | [],s,h=>.inl h
 |e::l,s,h=>by
  rcases n0o g k l _ h with h|⟨a,f,b⟩
  all_goals grind
def u0s(ops:List Oper)(b:List Nat):Prop:=∀j k,j<b.length→(b.getD j 0).testBit k=true→
 ∃e∈(ops.getD j default).after.toList,Region.binds .any e=true∧(e.on=k∨(b.getD e.on 0).testBit k=true)
theorem q0q(all:List Oper):∀(r:List Oper)(acc:List Nat),(∀j,r[j]?=all[acc.length+j]?)→u0s all acc→u0s all (p0x r acc)∧(p0x r acc).length=acc.length+r.length
 | [],acc,_,h=>⟨h,by rfl⟩
 |o::r,acc,hr,h=>by
  simp only[p0x];have l:all.getD acc.length default=o:=by
   have:=hr 0
   grind
  have ⟨a,b⟩:=q0q all r (acc++[o.after.toList.foldl (fun s e=>if Region.binds .any e then s ||| 2^e.on ||| acc.getD e.on 0 else s) 0]) (fun j=>by
    have:=hr (j+1)
    grind) (fun j k n g=>by
   have q:∀m,(acc.getD m 0).testBit k=true→((acc++[o.after.toList.foldl (fun s e=>if Region.binds .any e then s ||| 2^e.on ||| acc.getD e.on 0 else s) 0]).getD m 0).testBit k=true:=fun m p=>by
    grind
   by_cases hlt:j<acc.length
   rw[lD,List.getElem?_append_left hlt,←lD]at g;obtain⟨e,i,c,d⟩:=h j k hlt g
   grind
   ·have f:j=acc.length:=by grind
    subst f;rw[lD,a28 (a18 _)]at g;simp only[Nat.sub_self,a21,a32]at g;rcases n0o (fun m=>acc.getD m 0) k _ _ g with h'|⟨e,i,c,d⟩
    all_goals grind)
  grind
section
variable {P:Program} {B:Base} {N:Nat} {cx:Cx} {ro:Option Nat} {D:List Deferred}
theorem A0v{ρ:Type}{ops:Array Oper}{mi:Md}{i:Oper}{z:ρ}(l2:List (Md×Oper)):∀(l1:List (Md×Oper)) {Γ:AE} {K:AE→Rs ρ},
  (∀p∈l1,o0x p.1 mi=true∧p.2.apart ops i=true∧(p.1.isW=true∨p.2.dst.isSome=true)∧(mi.isW=true∨i.dst.isSome=true))→(∀t∈i.looksAt ops,∀n∈(Γ.sl t).refs,mi.reads n→Γ.rt n≠none)→
  h0m cx ops.toList (l1++(mi,i)::l2) Γ K=some z→a0m cx mi ops.toList i Γ (fun Γ1=>h0m cx ops.toList (l1++l2) Γ1 K)=some z
 | [],Γ,K,_,_,c=>c
 |(mk,k)::l1,Γ,K,hall,hroots,c=>by
  obtain⟨y,C,g,H⟩:=hall (mk,k) (by simp);have c:a0m cx mk ops.toList k Γ (fun Γ1=>h0m cx ops.toList (l1++(mi,i)::l2) Γ1 K)=some z:=c;have E:∀Γ1,(∀t∈i.looksAt ops,∀n∈(Γ1.sl t).refs,mi.reads n→Γ1.rt n≠none)→h0m cx ops.toList (l1++(mi,i)::l2) Γ1 K=some z→a0m cx mi ops.toList i Γ1 (fun Γ2=>h0m cx ops.toList (l1++l2) Γ2 K)=some z:=
   fun Γ1 hr h=>A0v l2 l1 (fun p hp=>hall p (by grind)) hr h
  refine B0e y g H C hroots ?_
  obtain⟨a1,-,-⟩:=Oper.apart_spec C;have D:mk.quiet→a0m cx mk ops.toList k Γ (fun Γ1=>a0m cx mi ops.toList i Γ1 fun Γ2=>h0m cx ops.toList (l1++l2) Γ2 K)=some z:=fun I=>by
   obtain⟨J,g⟩:=a00.1 (g.resolve_left (by cases mk<;>first|(cases I;done)|simp[Md.isW]))
   have a1:=a1 J g;obtain⟨δ,L,B,j,l,N⟩:=t0d I g c;rw[N Γ ⟨rfl,fun _ _=>⟨rfl,fun _ _ _=>rfl⟩⟩ l];refine E _ (fun t A n f o=>?_) j;rw[i0c,if_neg (fun e=>a1 (by simp_all))]at f
   grind[m0c]
  cases mk with
  |v=>exact D trivial
  |p=>exact D trivial
  |a ws=>
   obtain⟨W,m,B,G,j,l⟩:=u0u c;rw[l Γ Same.refl];refine E _ (fun t A n f o=>?_) j;cases mi with
   |p=>cases o
   |_=>cases y
  |b ws=>
   obtain⟨W,m,B,G,-,M,-,j,l⟩:=v0b c;rw[l Γ Same.refl];refine E _ (fun t A n f o=>?_) j;cases mi with
   |s=>
    have u:¬ k.dst=some t:=fun e=>a1 t e A;rw[e0u,if_neg u]at f
    have:=hroots t A n (B.refs f) trivial
    intro e;have F:=o0i (d:=k.dst) M n;rw[e]at F;cases e3:Γ.rt n with
    |none=>exact this e3
    |some r=>rw[e3]at F;cases F
   |_=>cases y
  |s=>exact D trivial
  |q=>exact D trivial
  |r ns=>exact D trivial
  |w ws=>
   obtain⟨W,m,B,G,j,l⟩:=l0t c;rw[l Γ Same.refl];refine E _ (fun t A n f o=>?_) j;have u:¬ k.dst=some t:=fun e=>a1 t e A;rw[d0c,if_neg u]at f;have f:=B.refs f;cases mi with
   |v=>cases o
   |p=>cases o
   |r ns=>
    have O:n∉W:=fun P=>o0b y o (G n P)
    grind[h0s]
   |_=>cases y
  |x=>cases mi<;>cases y
def c0j(n:Nat)(listed:Array Bool):List Nat:=(a22 n).filter fun i=>!listed.getD i true
def m0q(ops:Array Oper)(ms:List Md)(i:Nat):Md×Oper:=(ms.getD i .x,ops.getD i default)
structure DrawOk (ops:Array Oper) (ms:List Md) (b:List Nat):Prop where
 len:ms.length=ops.size
 good:u0s ops.toList b
 lb:b.length=ops.size
 back:∀j e,j<ops.size→e∈(ops.getD j default).after.toList→Region.binds .any e=true→e.on<j
 pair:∀i j,i<j→j<ops.size→(b.getD j 0).testBit i=true∨(o0x (ms.getD i .x) (ms.getD j .x)=true∧(ops.getD i default).apart ops (ops.getD j default)=true∧((ms.getD i .x).isW=true∨(ops.getD i default).dst.isSome=true)∧((ms.getD j .x).isW=true∨(ops.getD j default).dst.isSome=true))
theorem t0p{ops:Array Oper}{ms:List Md}(h:p0c ops ms=true):DrawOk ops ms (p0x ops.toList []):=by
 simp only[p0c,bA,dT,lA,a26]at h;obtain⟨a,d⟩:=h;obtain⟨f,c⟩:=q0q ops.toList ops.toList [] (fun j=>by simp) (fun j k g=>by simp);refine⟨a,f,by simp_all,fun j e g m l=>?_,fun i j b g=>?_⟩
 all_goals grind
theorem p0r{n:Nat}{listed:Array Bool}{i:Nat}(d:listed.size=n)(hi:i∈c0j n listed):∃l1 l2,c0j n listed=l1++i::l2∧c0j n (listed.setIfInBounds i true)=l1++l2∧∀k∈l1,k<i∧k∈c0j n listed:=by
 have g:i<n:=by
  simp_all[c0j]
 have a:listed.getD i true=false:=by
  simp_all[c0j]
 have h:a22 n=a22 i++i::(a29 (i+1) (n-i-1)):=by
  rw[a19,a19,show n=i+(1+(n-i-1))from by omega,←a39,←a39]
  simp
 have f:∀j,j≠i→(listed.setIfInBounds i true).getD j true=listed.getD j true:=fun j b=>by
  simp_all[Ne.symm]
 refine⟨(a22 i).filter fun i=>!listed.getD i true,(a29 (i+1) (n-i-1)).filter fun i=>!listed.getD i true,?_,?_,fun k c=>?_⟩;simp_all[c0j]
 ·simp only[c0j];rw[h,List.filter_append,List.filter_cons,if_neg (by
   simp)]
  congr 1
  all_goals grind[a47]
 simp_all[c0j]
theorem y0e(W:CxOk P cx)(hG:GOk cx.G B){ρ:Type}{ops:Array Oper}{ms:List Md}{b:List Nat}(F:DrawOk ops ms b){K:AE→Rs ρ}{z:ρ}{Q:Exit→Act→World→Prop}(hf:∀o∈ops.toList,f0p N ops.toList o=true)
  (hQ:∀a' w' Γ' σ',Rel B Γ' N (a0f a') w' σ'→a'.tmps.size=N→a'.defers=D→K Γ'=some z→Q .normal a' w'):
  ∀(fuel:Nat)(f:Array Bool){Γ:AE}{a:Act}{w:World}{σ:Gh},f.size=ops.size→(c0j ops.size f).length=fuel→
   (∀j k,j<ops.size→f.getD j true=true→(b.getD j 0).testBit k=true→f.getD k true=true)→
   Rel B Γ N (a0f a) w σ→a.tmps.size=N→a.defers=D→h0m cx ops.toList ((c0j ops.size f).map (m0q ops ms)) Γ K=some z→wpAnyIn (Fr ro) 0 P .any ops Q fuel f a w:=by
 intro fuel;have I:∀f i,i∈Region.ready .any ops f→i∈c0j ops.size f∧∀e∈(ops.getD i default).after.toList,Region.binds .any e=true→f.getD e.on false=true:=by
  intro f i hi;simp only[Region.ready,a34,a26,bA]at hi;refine⟨by simp_all[c0j],fun e Y hb=>?_⟩;have S:=hi.2.2;have d:ops[i]?=some (ops.getD i default):=by
   simp_all
  rw[d]at S;simp only[a33,a32]at S;rw[←a51]at S
  grind
 have C:∀(f:Array Bool),c0j ops.size f=[]→Region.ready .any ops f=[]:=fun f h=>by
  refine List.eq_nil_iff_forall_not_mem.2 fun i hi=>?_
  grind
 induction fuel with
 |zero=>
  intro f Γ a w σ y hl hcl hr hN hD hz;have h0:=List.eq_nil_of_length_eq_zero hl;rw[h0]at hz;exact⟨C f h0,hQ a w Γ σ hr hN hD hz⟩
 |succ fuel ih=>
  intro f Γ a w σ y hl hcl hr hN hD hz;refine⟨fun g0=>?_,fun i hi=>?_⟩
  ·
   exfalso
   cases hR:c0j ops.size f with
   |nil=>simp_all
   |cons i R=>
    have E:i∈c0j ops.size f:=by simp_all
    have hi:=E;simp only[c0j,a34,a26]at hi
    have:i∈Region.ready .any ops f:=by
     simp only[Region.ready,a34,a26,bA];refine⟨hi.1,hi.2,?_⟩;have d:ops[i]?=some (ops.getD i default):=by
      simp_all
     rw[d];simp only[a33,a32];rw[←a51];refine lA.2 fun e Y=>?_
     by_cases hb:Region.binds .any e=true
     ·have g7:=F.back i e hi.1 Y hb;have h5:f.getD e.on true=true:=by
       cases hv:f.getD e.on true with
       |true=>rfl
       |false=>
        obtain⟨l1,l2,g1,-,g3⟩:=p0r (n:=ops.size) y (i:=e.on) (by grind[c0j]);have g4:(c0j ops.size f).Pairwise (·<·):=List.Pairwise.filter _ List.pairwise_lt_range
        grind[List.pairwise_cons]
      grind
     simp_all
    simp_all
  ·obtain⟨E,X⟩:=I f i hi;obtain⟨l1,l2,g1,g2,g3⟩:=p0r y E;have Z:i<ops.size:=by grind
   have d:ops[i]?=some (ops.getD i default):=by
    simp_all
   have M:ops.getD i default∈ops.toList:=by
    simp_all
   have q:=hf _ M;have tr:∀k,f.getD k false=true→f.getD k true=true:=fun k L=>by
    grind
   have h9:∀k,(b.getD i 0).testBit k=true→f.getD k true=true:=fun k L=>by
    obtain⟨e,Y,O,h2⟩:=F.good i k (by grind) L
    grind
   rw[g1,pA,List.map_cons]at hz;have H:=A0v (cx:=cx) (mi:=ms.getD i .x) (i:=ops.getD i default) (l2.map (m0q ops ms)) (l1.map (m0q ops ms)) (fun p hp=>by
     obtain⟨k,L,rfl⟩:=a13.1 hp;obtain⟨h4,g6⟩:=g3 k L;rcases F.pair k i h4 Z with h|h
     grind[c0j]
     exact h) (fun t A n u _=>by
     have h8:t<N:=by
      simp only[Oper.looksAt,mA]at A;rcases A with A|A;obtain⟨x,hx,g8⟩:=a16.1 A
      have:=a0s (k0h q) x hx
      grind[b0e]
      ·cases hg:(ops.getD i default).guard with
       |none=>grind
       |some p=>
        obtain⟨j,g5⟩:=p;rw[hg]at A;simp at A;have J:g0f ops.toList j=some t:=by simpa[g0f]using A
        simp only[f0p,hg,J,bA,dT]at q
        grind
     have y:=hr.slots t h8
     revert y u
     generalize Γ.sl t=sv;intro u y;have one:∀(av:AV)(v:Value),a0e (a0a w σ.ov) σ.g Γ.rt (Shr B w σ) av v→n∈av.refs→Γ.rt n≠none:=fun av v T u=>by
      cases av with
      |ptr m p=>obtain⟨r,t,b,o,O,-⟩:=T;grind[AV.refs]
      |sref m p=>obtain⟨r,e,s,O,-⟩:=T;grind[AV.refs]
      |swin m p o l=>obtain⟨r,e,s,_,_,_,O,-⟩:=T;grind[AV.refs]
      |_=>cases u
     cases sv with
     |one av=>exact one av _ y u
     |cmp c vs=>
      obtain⟨us,-,h2⟩:=y;simp[SV.refs]at u;obtain⟨av,U,u⟩:=u;obtain⟨k,L⟩:=a36.1 U
      grind) hz
   have h7:=u0d (ro:=ro) (next:=wpAnyIn (Fr ro) 0 P .any ops Q fuel (f.setIfInBounds i true)) (Q:=Q) W hG hr hN q H fun v w' Γ' σ' hr' hK=>by
    refine ih (f.setIfInBounds i true) (by grind) ?_ ?_ hr' (by rw[j0n];omega) (by grind[i0n]) ?_
    grind
    intro j k hj h6 V;have up:∀m,f.getD m true=true→(f.setIfInBounds i true).getD m true=true:=fun m hm=>by
     by_cases e:m=i
     subst e
     simp
     simp at hm⊢
     grind
    by_cases e:j=i
    grind
    refine up k (hcl j k hj ?_ V);simp at h6⊢
    grind
    grind
   unfold wpOpIn
   grind
theorem y0d{ρ:Type}{Γ:AE}{a:Act}{w:World}{σ:Gh}(c:CxOk P cx)(m:GOk cx.G B)(q:P.follows .mixedOrders=true){ops:Array Oper}{id:Nat}{ms:List Md}{K:AE→Rs ρ}{z:ρ}{Q:Exit→Act→World→Prop}
  (h:Rel B Γ N (a0f a) w σ)(n:a.tmps.size=N)(l:a.defers=D)(hf:∀o∈ops.toList,f0p N ops.toList o=true)(e:p0c ops ms=true)(v:h0m cx ops.toList (ms.zip ops.toList) Γ K=some z)
  (p:∀a' w' Γ' σ',Rel B Γ' N (a0f a') w' σ'→a'.tmps.size=N→a'.defers=D→K Γ'=some z→Q .normal a' w'):(Code.region id ops true).wpIn (Fr ro) 0 P Q a w:=by
 refine wpIn_region_any q ?_
 have f:=t0p e;have g:Rel B Γ N (a0f a) { w with drawn:=w.drawn+1 } σ:=h.ext (fun _ _=>rfl) (a18 _);have d:∀i,i<ops.size→(a24 ops.size false).getD i true=false:=fun i hi=>by
  simp_all
 have b:c0j ops.size (a24 ops.size false)=a22 ops.size:=by
  simp_all[c0j]
 refine y0e c m f hf p ops.size _ (by simp) (by simp_all) (fun j k t u _=>by simp_all) g n l ?_
 rw[b];rw[show(a22 ops.size).map (m0q ops ms)=ms.zip ops.toList from ?_];omega;refine a48 fun i=>?_
 rw[a49]
 by_cases hi:i<ops.size
 have r:i<ms.length:=by rw[f.len];omega
 have s:i<ops.toList.length:=by omega
 rw[List.getElem?_range hi,lG (by grind)];simp_all[m0q]
 grind
end
def m0z:Ex→Exit
 |.normal=>.normal
 |.exit i=>.exit i
 |.ret=>.ret
def z0g{ρ:Type}(B:Base)(N:Nat)(D:List Deferred)(K:Ex→AE→Rs ρ)(z:ρ):Exit→Act→World→Prop:=fun e a w=>
 ∃ex Γ σ,e=m0z ex∧K ex Γ=some z∧Rel B Γ N (a0f a) w σ∧a.tmps.size=N∧a.defers=D
def b0z(N:Nat):Code→Bool
 |.region _ ops _=>ops.toList.all (f0p N ops.toList)
 |.seq a b=>b0z N a&&b0z N b
 |.cond c a b=>b0e N c&&(b0z N a&&b0z N b)
 |.block _ c|.loop c=>b0z N c
 |_=>true
def Hints.fits(N:Nat)(H:Hints):Bool:=
 H.loops.all (fun p=>p.2.1.fits N&&p.2.2.all (fun q=>q.2.fits N))&&H.cuts.all (fun p=>p.2.all (fun q=>q.2.fits N))
theorem o0d{α:Type}:∀{l:List (Nat×α)} {n:Nat} {x:α},find l n=some x→∃k,(k,x)∈l
 |(k,y)::r,n,x,h=>by
  simp[find]at h;rcases a0b h with⟨-,h⟩|⟨-,h⟩;simp only[sj]at h;exact⟨k,by simp[h]⟩;obtain⟨k',g⟩:=o0d h;exact⟨k',a03 _ g⟩
section
variable {P:Program} {B:Base} {N:Nat} {cx:Cx} {H:Hints} {ro:Option Nat} {D:List Deferred}
theorem p0u{Q:Exit→Act→World→Prop}{a:Act}{w:World}{c:Code}(I:Nat→Act→World→Prop)(k:Nat)(i:I k a w)
  (round:∀n a w,I n a w→c.wpIn (Fr ro) 0 P (Exit.then (fun g w'=>∃m,m<n∧I m g w') Q) a w):(Code.loop c).wpIn (Fr ro) 0 P Q a w:=by
 classical
 have least:∀a w,(∃n,I n a w)→∃n,I n a w∧∀m,I m a w→n≤m:=by
  intro a w ⟨n,o⟩
  induction n using Nat.strongRecOn with
  |_ n ih=>
   grind
 let μ:Act→World→Nat:=fun a w=>if h:∃n,I n a w then(least a w h).choose else 0
 refine wpIn_loop (fun a w=>∃n,I n a w) μ ⟨k,i⟩ fun a w b=>?_
 have d:=(least a w b).choose_spec;refine wpIn_mono (round _ a w d.1) fun e g w' f=>?_
 cases e with
 |normal=>
  obtain⟨m,l,hi⟩:=f;refine⟨⟨m,hi⟩,?_⟩;have j:∃n,I n g w':=⟨m,hi⟩
  grind
 |_=>exact f
theorem f0z(O:CxOk P cx)(hG:GOk cx.G B)(hm:P.follows .mixedOrders=true)(hH:H.fits N=true):∀(c:Code) (p:Nat){ρ:Type}{Γ:AE}{K:Ex→AE→Rs ρ}{z:ρ}{a:Act}{w:World}{σ:Gh}(_:b0z N c=true)
  (_:c0n cx H c p Γ K=some z) (_:Rel B Γ N (a0f a) w σ) (_:a.tmps.size=N) (_:a.defers=D),c.wpIn (Fr ro) 0 P (z0g B N D K z) a w:=by
 intro c;have I:∀p s os,find H.loops p=some (s,os)→s.fits N=true∧os.all (fun q=>q.2.fits N)=true:=fun p s os h=>by
  obtain⟨k,hk⟩:=o0d h;simp only[Hints.fits,bA]at hH
  grind
 have M:∀p os,find H.cuts p=some os→os.all (fun q=>q.2.fits N)=true:=fun p os h=>by
  obtain⟨k,hk⟩:=o0d h;simp only[Hints.fits,bA]at hH
  grind
 induction c with
 |skip=>intro p ρ Γ K z a w σ hf d h hN hD;exact wpIn_skip ⟨.normal,Γ,σ,rfl,by simp_all[c0n],h,hN,hD⟩
 |region rid ops draw=>
  intro p ρ Γ K z a w σ hf d h hN hD;simp[c0n]at d;have R:∀o∈ops.toList,f0p N ops.toList o=true:=fun o ho=>lA.1 hf o ho;cases draw with
  |false=>
   simp at d;refine wpIn_region_list ?_
   have:=u0e (Q:=z0g B N D K z) (ro:=ro) (D:=D) O hG (ops:=ops) (ops.toList.map fun o=>(Md.x,o)) h hN hD (fun q hq=>by
    grind) d (fun J w' Γ' σ' l f g j=>⟨.normal,Γ',σ',rfl,j,l,f,g⟩)
   rwa [a43,show((fun x:Md×Oper=>x.2)∘fun o=>(Md.x,o))=_root_.id from rfl,a27]at this
  |true=>
   simp at d
   split at d
   rename_i ms h4;obtain⟨Y,d⟩:=(a0b d).elim id fun h=>by grind
   exact y0d O hG hm h hN hD R Y d fun J w' Γ' σ' l f g j=>⟨.normal,Γ',σ',rfl,j,l,f,g⟩;simp_all
 |seq x y ihx ihy=>
  intro p ρ Γ K z a w σ hf d h hN hD;simp[b0z]at hf;simp[c0n]at d;refine wpIn_seq ?_
  split at d
  ·refine wpIn_mono (ihx _ hf.1 d h hN hD) ?_
   rintro e J w' ⟨A,Γ',σ',rfl,j,l,f,g⟩
   cases A with
   |normal=>exact ihy _ hf.2 j l f g
   |exit i=>exact⟨.exit i,Γ',σ',rfl,j,l,f,g⟩
   |ret=>exact⟨.ret,Γ',σ',rfl,j,l,f,g⟩
  ·rename_i os F;obtain⟨y0,U,L⟩:=a09.1 d;refine wpIn_mono (ihx _ hf.1 U h hN hD) ?_
   rintro e J w' ⟨A,Γ',σ',rfl,j,l,f,g⟩
   obtain⟨y1,X,σ2,r,v,T⟩:=f0v os l (M _ _ F) j;simp at r;subst r;rw[T]at L;cases A with
   |normal=>exact ihy _ hf.2 L v f g
   |exit i=>exact⟨.exit i,X,σ2,rfl,L,v,f,g⟩
   |ret=>exact⟨.ret,X,σ2,rfl,L,v,f,g⟩
 |cond c x y ihx ihy=>
  intro p ρ Γ K z a w σ hf d h hN hD;simp[b0z]at hf;simp[c0n]at d
  split at d
  ·rename_i t ht;have V:=h.opd hf.1;rw[ht]at V;have V:=a0e.bool V;rcases a0b d with⟨rfl,d⟩|⟨rfl,d⟩
   all_goals grind[wpIn_cond_true,wpIn_cond_false]
  simp_all
 |block id c ih=>
  intro p ρ Γ K z a w σ hf d h hN hD;simp[c0n]at d;refine wpIn_block (wpIn_mono (ih _ hf d h hN hD) ?_)
  rintro e J w' ⟨A,Γ',σ',rfl,j,l,f,g⟩
  cases A with
  |normal=>exact⟨.normal,Γ',σ',rfl,j,l,f,g⟩
  |exit i=>
   simp[m0z,Exit.inBlock];rcases a0b j with⟨hi,j⟩|⟨hi,j⟩;rw[if_pos (by simp_all)];exact⟨.normal,Γ',σ',rfl,j,l,f,g⟩;rw[if_neg (by simp_all)];exact⟨.exit i,Γ',σ',rfl,j,l,f,g⟩
  |ret=>exact⟨.ret,Γ',σ',rfl,j,l,f,g⟩
 |loop c ih=>
  intro p ρ Γ K z a w σ hf d h hN hD;simp[c0n]at d
  split at d
  grind
  ·rename_i s os h0;obtain⟨Z,F⟩:=I _ _ _ h0;obtain⟨x0,σ0,U,L⟩:=h.dcd Z d;obtain⟨y,hy,j⟩:=a09.1 U;obtain⟨n0,W⟩:=x0l hy;refine p0u (fun n a w=>∃x σ,j0z _ n x=some y∧Rel B (s.enc x) N (a0f a) w σ∧a.tmps.size=N∧a.defers=D) n0 ⟨x0,σ0,W,L,hN,hD⟩ ?_
   rintro n a w ⟨x,σ,S,l,f,g⟩
   cases n with
   |zero=>simp_all[j0z]
   |succ n=>
    simp[j0z]at S
    split at S
    grind
    ·rename_i x' h3;refine wpIn_mono (ih _ hf h3 l f g) ?_
     rintro e J w' ⟨A,Γ',σ',rfl,m,u,E,C⟩
     cases A with
     |normal=>
      simp at m;obtain⟨x2,σ2,r,v⟩:=u.dcd Z m;simp at r;subst r;exact⟨n,Nat.lt_succ_self n,x2,σ2,S,v,E,C⟩
     |exit i=>
      grind[f0v]
     |ret=>
      grind[f0v]
    ·rename_i b hb;simp at S;subst S;refine wpIn_mono (ih _ hf hb l f g) ?_
     rintro e J w' ⟨A,Γ',σ',rfl,m,u,E,C⟩
     cases A with
     |normal=>
      simp at m;obtain⟨x2,σ2,r,v⟩:=u.dcd Z m
      grind
     |exit i=>
      obtain⟨y1,X,σ2,r,v,T⟩:=f0v os u F m;simp at r;subst r;rw[T]at j;exact⟨.exit i,X,σ2,rfl,j,v,E,C⟩
     |ret=>
      obtain⟨y1,X,σ2,r,v,T⟩:=f0v os u F m;simp at r;subst r;rw[T]at j;exact⟨.ret,X,σ2,rfl,j,v,E,C⟩
 |exit id=>intro p ρ Γ K z a w σ hf d h hN hD;exact wpIn_exit ⟨.exit id,Γ,σ,rfl,by simp_all[c0n],h,hN,hD⟩
 |ret=>intro p ρ Γ K z a w σ hf d h hN hD;exact wpIn_ret ⟨.ret,Γ,σ,rfl,by simp_all[c0n],h,hN,hD⟩
 |_=>intro p ρ Γ K z a w σ hf d h hN hD;simp only[c0n]at d;cases d
end
theorem s0v{α:Type}{P:Program}{w:World}{f:α→Sem Value}:∀(l:List α)(us:List Value),us.length=l.length→(∀(k:Nat) x u,l[k]?=some x→us[k]?=some u→(f x).run P w=.ok u w)→(l.mapM f).run P w=.ok us w
 | [],us,hl,_=>by
  simp_all
 |x::l,[],hl,_=>by simp_all
 |x::l,u::us,hl,h=>by
  have g:=h 0 x u rfl rfl;have a:=s0v l us (by simpa using hl) (fun k y v b hv=>h (k+1) y v (by simpa using b) (by simpa using hv));simp[List.mapM_cons,g,a,Result.andThen]
def c0i(tk:List Nat)(Γ Γ':AE):Prop:=
 (∀i av,Γ.get i=av→(av.firm=true∨∃n∈tk,av=.sref n []∨av=.ptr n [])→Γ'.get i=av)∧∀n∈tk,Γ'.rt n=Γ.rt n
theorem c0i.refl{tk Γ}:c0i tk Γ Γ:=⟨fun _ _ h _=>h,fun _ _=>rfl⟩
theorem c0i.trans{tk tk' Γ Γ' Γ''}(h:c0i tk Γ Γ')(f:c0i tk' Γ' Γ'')(a:∀n∈tk,n∈tk'):c0i tk Γ Γ'':=
 ⟨fun i av hi k=>f.1 i av (h.1 i av hi k) (k.imp id fun⟨n,g,e⟩=>⟨n,a n g,e⟩),fun n g=>(f.2 n (a n g)).trans (h.2 n g)⟩
theorem c0i.gone{tk:List Nat}{Γ:AE}{n:Nat}(g:n∉tk)(f:AV→AV)(hf:∀av:AV,(av.firm=true∨∃m,m≠n∧(av=.sref m []∨av=.ptr m []))→f av=av):c0i tk Γ ((Γ.mapv f).setRt n none):=by
 refine⟨fun i av hi k=>?_,fun m h=>?_⟩
 grind[AE.get,AE.setRt,AE.mapv,SV.mapv]
 have:(m==n)=false:=by
  grind
 simp[AE.setRt,AE.mapv,this]
theorem c0i.set{tk:List Nat}{Γ Γ':AE}(h:c0i tk Γ Γ'){j:Nat}{av:AV}(k:Γ.get j=.dead):c0i tk Γ (Γ'.set j av):=by
 refine⟨fun i v hi g=>?_,fun n a=>h.2 n a⟩;have f:i≠j:=by
  rintro rfl
  rw[k]at hi;subst hi;rcases g with g|⟨m,-,e|e⟩;cases g
  all_goals simp_all
 have:=h.1 i v hi g
 simp_all[AE.get,c0f]
def o0q(tk tk':List Nat)(Γ:AE)(av:AV):((r:RA)×r.ty.den)→Prop
 |⟨.v t,x⟩=>av=.val t x∧tk'=tk
 |⟨.o e,x⟩=>(∃n,av=.sref n []∧n∉tk∧tk'=n::tk∧Γ.rt n=some ⟨false,.list true e,x⟩)∨((av=.nils∨av=.empt)∧x=[]∧tk'=tk)
 |⟨.b t,x⟩=>∃n,av=.ptr n []∧n∉tk∧tk'=n::tk∧Γ.rt n=some ⟨true,t,x⟩
theorem s0l{Γ:AE}{n i:Nat}{r:Option Root}{f:AV→AV}{av:AV}(h:Γ.get i=av)(hf:f av=av):((Γ.mapv f).setRt n r).get i=av:=by
 grind[AE.get,AE.setRt,AE.mapv,SV.mapv]
theorem Rel.clear{B Γ N tm w σ}(h:Rel B Γ N tm w σ){n:Nat}{e:Ty}{l:List e.den}(V:Γ.rt n=some ⟨false,.list true e,l⟩)(P:Γ.pd=none)(hn:n<pinned){v:Value}(hv:a0e (a0a w σ.ov) σ.g Γ.rt (Shr B w σ) (.swin n [] 0 0) v):
  ∃σ1,Rel B ((Γ.mapv (AV.drop n)).setRt n (some ⟨false,.list true e,([]:List e.den)⟩)) N tm w σ1∧σ1.g n=.one v:=by
 have key:∃O,dec (a0a w σ.ov) (.list true e) ((Src.one v).rd (a0a w σ.ov))=some (([]:List e.den),O,[])∧(∀p∈O,p∈σ.ow n)∧(O.map (·.1)).Nodup:=by
  obtain⟨H,R,t,-,h3⟩:=(h.roots n _ V).rd;rcases h3 with⟨g,-⟩|⟨-,⟨W,T⟩,-,ho⟩
  grind
  obtain⟨r,e',s,a,l',c,F,G,J,-,I,rfl,Z,g6⟩:=hv;rw[V]at F;cases F;rw[T]at G t;have hs:Src.one W=s:=by
   have:=Option.some.inj G
   simp_all
  subst hs;obtain rfl:W=.slice a l' c:=by simpa[Src.rd]using J
  have t:a0x (a0a w σ.ov) true e.cells (dec (a0a w σ.ov) e) (some (.slice a l' c))=some (l,H,R):=t;show ∃O,a0x (a0a w σ.ov) true e.cells (dec (a0a w σ.ov) e) (some (.slice I 0 (c-0)))=_∧_
  by_cases z:c=0
  subst z;refine⟨[],?_,by simp,by simp⟩;cases I<;>simp[a0x,a0d]<;>rfl
  ·cases a with
   |none=>simp_all[a0x]
   |some A=>
    obtain rfl:I=some (A.add (0*e.cells)):=by simp_all
    have S:=(Z _ rfl).resolve_left (by omega);rw[Nat.zero_mul]at S;simp only[a0x]at t
    split at t
    split at t
    grind
    rename_i xs os rs U;simp only[if_true]at t;simp at t;obtain⟨-,rfl,-⟩:=t;simp_all[a0x,a0d,Addr.add];simp_all
 obtain⟨O,k1,k2,k3⟩:=key
 let f:Nat→a0z:=fun m=>if m=n then O else σ.ow m
 have d:∀m c,c∈(f m).map (·.1)→c∈(σ.ow m).map (·.1):=fun m c z=>by
  grind
 have C:∀c,a0r ⟨fun m=>if m=n then .one v else σ.g m,f,σ.ov⟩ c→a0r σ c:=fun c ⟨m,j⟩=>⟨m,d m c j⟩
 have E:∀c,Shr B w σ c→Shr B w ⟨fun m=>if m=n then .one v else σ.g m,f,σ.ov⟩ c:=fun c ⟨a1,X,Y⟩=>⟨a1,X,fun g=>Y (C c g)⟩
 have y:∀m,m≠n→((Γ.mapv (AV.drop n)).setRt n (some ⟨false,.list true e,([]:List e.den)⟩)).rt m=Γ.rt m:=fun m j=>by
  have:(m==n)=false:=by simp_all
  simp[AE.setRt,AE.mapv,this]
 have Q:((Γ.mapv (AV.drop n)).setRt n (some ⟨false,.list true e,([]:List e.den)⟩)).rt n=some ⟨false,.list true e,([]:List e.den)⟩:=by simp[AE.setRt]
 refine⟨⟨fun m=>if m=n then .one v else σ.g m,f,σ.ov⟩,⟨fun m r j=>?_,fun m j=>?_,fun m=>?_,fun m m' M c z K=>h.disj m m' M c (d m c z) (d m' c K),fun m p hp=>?_,fun i hi=>(h.slots i hi).mapv fun a u ha=>?_,?_,h.size,h.frame,fun c z=>h.mine c (C c z),fun i b hb D=>?_,h.still⟩,by simp⟩
 by_cases e1:m=n
 subst e1;rw[Q]at j;cases j;simp[f];exact⟨O,[],k1,by simp,.inr ⟨rfl,⟨v,rfl⟩,⟨e,rfl⟩,rfl⟩⟩;rw[y m e1]at j;simp[f,if_neg e1];obtain⟨H,R,F,G,J⟩:=(h.roots m r j).rd;exact⟨H,R,F,fun c z=>E c (G c z),J⟩
 by_cases e1:m=n
 simp_all;rw[y m e1]at j;simp[f,if_neg e1];exact h.norm m j
 by_cases e1:m=n
 grind
 simp[f,if_neg e1];exact h.nodup m
 by_cases e1:m=n
 simp[f,if_pos e1]at hp;exact h.live n p (k2 p hp);simp[f,if_neg e1]at hp;exact h.live m p hp
 ·by_cases hd:AV.drop n a=.dead
  rw[hd];trivial
  ·have L:AV.drop n a=a∧∀k q,(a=.ptr k q∨a=.sref k q∨∃o l,a=.swin k q o l)→k≠n:=by
    cases a<;>simp only[AV.drop]at hd⊢<;>try (refine⟨trivial,?_⟩;rintro k q (h|h|⟨o,l,h⟩)<;>cases h)
    all_goals simp_all
   rw[L.1];exact ha.other E y (fun k L=>by grind) L.2
 ·have:=h.pend
  show f0y _ _ _ Γ.pd σ.ov;rw[P]at this⊢;cases hov:σ.ov with
  |none=>trivial
  |some x=>rw[hov]at this;exact this.elim
 have:pinned+i≠n:=by omega
 rw[y _ this]at D;simp[if_neg this];exact h.pins i b hb D
def e0i(a:Nat→Value):ResultVar→Sem Value
 |.tmp t=>pure (a t)
 |.cell i t=>do loadVar t (←asAddr (a i))
def g0j(N0:Nat):ResultVar ⊕ Option Nat→Bool
 |.inl (.tmp i)=>decide (i<N0)
 |.inl (.cell i _)=>decide (i<N0)
 |.inr _=>true
def i0x(P:Program)(B:Base)(w:World)(tm:Nat→Value)(u:Value):ResultVar ⊕ Option Nat→Prop
 |.inl r=>(e0i tm r).run P w=.ok u w
 |.inr none=>u=.slice none 0 0
 |.inr (some n)=>∀i b,n=pinned+i→B.pin i=some b→m0a b u
section
variable {P:Program} {B:Base} {N:Nat} {w:World} {cx:Cx} {ρ:Type}
theorem r0d(h0:CxTy P cx){tm:Nat→Value}{N0:Nat}(H:N0≤N){Γ:AE}{σ:Gh}(h:Rel B Γ N tm w σ)(y:Γ.pd=none){tk:List Nat}{j:Nat}{r:RA}{v:ResultVar ⊕ Option Nat}(hv:g0j N0 v=true)
  {K:r.ty.den→AE→List Nat→Rs ρ}{z:ρ}(a:Γ.out cx tk j r v K=some z):
  ∃x Γ1 σ1 tk1 av u,K x (Γ1.set j av) tk1=some z∧Rel B Γ1 N tm w σ1∧Γ1.pd=none∧a0e (a0a w σ1.ov) σ1.g Γ1.rt (Shr B w σ1) av u∧i0x P B w tm u v∧o0q tk tk1 Γ1 av ⟨r,x⟩∧c0i tk Γ Γ1∧
   ∀i,Γ.get i=.dead→Γ1.get i=.dead:=by
 have s:∀(Γ:AE)(n:Nat)(f:AV→AV),f .dead=.dead→∀i,Γ.get i=.dead→((Γ.mapv f).setRt n none).get i=.dead:=fun Γ n f hf i hi=>by
  grind[AE.get,AE.setRt,AE.mapv,SV.mapv]
 cases r with
 |v t=>
  cases v with
  |inr n=>simp_all[AE.out]
  |inl rv=>
   cases rv with
   |tmp i=>
    simp[g0j]at hv;simp[AE.out]at a;rcases a0b a with⟨-,g⟩|⟨h7,a⟩
    grind
    have d:∀n∈(Γ.get i).viewed,n∉tk:=fun n hn hu=>by
     simp_all
    have q:=c0w h (a05 hv H);have key:∃x Γ1 σ1,K x (Γ1.set j (.val t x)) tk=some z∧Rel B Γ1 N tm w σ1∧VOk (a0a w σ1.ov) (Shr B w σ1) t x (tm i)∧Γ1.pd=Γ.pd∧c0i tk Γ Γ1∧∀i,Γ.get i=.dead→Γ1.get i=.dead:=by

     let K':t.den→AE→Rs ρ:=fun x Γ'=>K x (Γ'.set j (.val t x)) tk
     cases D:Γ.get i with
     |glob g=>
      simp_all[AE.asV]
     |val J x=>
      rw[D]at a q;simp[AE.asV]at a
      split at a
      rename_i Q O;exact⟨Q,Γ,σ,a,h,VOk.castTo O q,rfl,c0i.refl,fun _ g=>g⟩;simp_all
     |nils=>
      rw[D]at a q;cases t with
      |list o e=>
       cases o with
       |false=>
        obtain q:tm i=_:=q;exact⟨[],Γ,σ,a,h,by rw[q];exact VOk.empty,rfl,c0i.refl,fun _ g=>g⟩
       |true=>simp_all[AE.asV]
      |nl e=>
       obtain q:tm i=_:=q;exact⟨_,Γ,σ,a,h,by simp_all[VOk.nil_nl],rfl,c0i.refl,fun _ g=>g⟩
      |_=>simp only[AE.asV]at a;cases a
     |empt=>
      rw[D]at a q;cases t with
      |list o e=>
       cases o with
       |false=>
        obtain⟨A,q⟩:=q;exact⟨[],Γ,σ,a,h,by rw[q];exact VOk.empty,rfl,c0i.refl,fun _ g=>g⟩
       |true=>simp_all[AE.asV]
      |_=>simp only[AE.asV]at a;cases a
     |sref n p=>
      rw[D]at a q d;cases p with
      |cons=>simp_all[AE.asV]
      |nil=>
       simp[AE.asV]at a
       split at a
       ·rename_i e l C;obtain⟨W,C⟩:=a0o C
        split at a
        ·rename_i ht;subst ht;have M:=h.sref_vok q C rfl;refine⟨_,_,_,a,h.frz C (by simp_all),M.frame (fun _ _ _=>rfl) (fun c U=>?_),rfl,c0i.gone (d n (by simp[AV.viewed])) _ ?_,s Γ n _ rfl⟩;rcases U with g|g;exact Rel.shr_gone c g;have E:a0r σ c:=⟨n,g⟩;refine⟨h.lt E,.inr (h.mine c E),fun⟨m,F⟩=>?_⟩;have F:c∈(if m=n then[]else σ.ow m).map (·.1):=F
         split at F
         simp_all;rename_i L;exact h.disj m n L c F g
         ·rintro av (g|⟨m,F,rfl|rfl⟩)
          cases av<;>first|rfl|cases g
          all_goals simp_all[AV.frz]
        simp_all
       simp_all
     |swin n p o k=>
      rw[D]at a q d;cases p with
      |cons=>simp_all[AE.asV]
      |nil=>
       simp[AE.asV]at a
       split at a
       ·rename_i e l C;obtain⟨W,C⟩:=a0o C
        split at a
        ·rename_i ht;subst ht;have M:=h.swin_vok q C rfl;refine⟨_,_,_,a,h.frz C (by simp_all),M.frame (fun _ _ _=>rfl) (fun c U=>?_),rfl,c0i.gone (d n (by simp[AV.viewed])) _ ?_,s Γ n _ rfl⟩;rcases U with g|g;exact Rel.shr_gone c g;have E:a0r σ c:=⟨n,g⟩;refine⟨h.lt E,.inr (h.mine c E),fun⟨m,F⟩=>?_⟩;have F:c∈(if m=n then[]else σ.ow m).map (·.1):=F
         split at F
         simp_all;rename_i L;exact h.disj m n L c F g
         ·rintro av (g|⟨m,F,rfl|rfl⟩)
          cases av<;>first|rfl|cases g
          all_goals simp_all[AV.frz]
        simp_all
       simp_all
     |dead|skp|nilp|ptr|vptr=>rw[D]at a;cases a
    obtain⟨x,Γ1,σ1,k1,k2,k3,k4,k5,k6⟩:=key;exact⟨x,Γ1,σ1,tk,.val t x,tm i,k1,k2,k4.trans y,k3,by rfl,⟨rfl,rfl⟩,k5,k6⟩
   |cell i J=>
    simp[g0j]at hv;simp only[AE.out]at a;have q:=c0w h (a05 hv H)
    split at a
    ·rename_i n D;rw[D]at q;rcases a0b a with⟨-,g⟩|⟨d,a⟩
     grind
     have d:n∉tk:=by simp_all
     split at a
     ·rename_i hT;obtain⟨h6,hty⟩:=h0.T J _ hT;obtain⟨u,Γ1,σ1,G,h1,h2,h3,Y,h5⟩:=Rel.lod hty h6 h q a
      split at Y
      ·rename_i h8 x
       split at Y
       ·rename_i Q O;have S:a0e (a0a w σ1.ov) σ1.g Γ1.rt (Shr B w σ1) (.val t Q) u:=VOk.castTo O h3;have hu:(e0i tm (.cell i J)).run P w=.ok u w:=by
         obtain⟨r',t1,b,off,-,-,g3⟩:=q;simp_all[Instr.loadAt,Instr.sureAddr,e0i,asAddr]
        rcases h5 with⟨rfl,rfl⟩|⟨-,m,F,rfl⟩;exact⟨Q,Γ1,σ1,tk,.val t Q,u,Y,h2,y,S,hu,⟨rfl,rfl⟩,c0i.refl,fun _ g=>g⟩
        ·cases F;refine⟨Q,_,σ1,tk,.val t Q,u,Y,h2,y,S,hu,⟨rfl,rfl⟩,c0i.gone d _ ?_,s Γ n _ rfl⟩
         rintro av (g|⟨m,F,rfl|rfl⟩)
         cases av<;>first|rfl|cases g
         all_goals simp_all[AV.drop]
       simp_all
      simp_all
     simp_all
    simp_all
 |o e=>
  cases v with
  |inr n=>
   cases n with
   |none=>
    simp[AE.out]at a;exact⟨[],Γ,σ,tk,.nils,.slice none 0 0,a,h,y,rfl,rfl,.inr ⟨.inl rfl,rfl,rfl⟩,c0i.refl,fun _ g=>g⟩
   |some n=>
    simp only[AE.out]at a;rcases a0b a with⟨-,g⟩|⟨d,a⟩
    grind
    have d:n∉tk:=by simp_all
    split at a
    rename_i X x C
    split at a
    rename_i I;subst I;rcases h.src_of C with⟨g,-⟩|⟨-,u,e2,D,-⟩
    grind
    refine⟨x,Γ,σ,n::tk,.sref n [],u,a,h,y,⟨_,X,.one u,C,by show some (_,σ.g n)=_;grind,rfl⟩,fun i b' hn Z=>?_,.inl ⟨n,rfl,d,rfl,C⟩,c0i.refl,fun _ g=>g⟩;subst hn
    have:=h.pins i b' Z (by simp_all)
    rw[←this,D];rfl;simp_all;simp_all
  |inl rv=>
   cases rv with
   |cell i J=>simp_all[AE.out]
   |tmp i=>
    simp[g0j]at hv;have q:=c0w h (a05 hv H);simp only[AE.out]at a
    split at a
    rename_i n D;rw[D]at q;rcases a0b a with⟨-,g⟩|⟨d,a⟩
    grind
    have d:n∉tk:=by simp_all
    split at a
    rename_i X l C
    split at a
    rename_i I;subst I;exact⟨l,Γ,σ,n::tk,.sref n [],tm i,a,h,y,q,by rfl,.inl ⟨n,rfl,d,rfl,C⟩,c0i.refl,fun _ g=>g⟩;simp_all;simp_all;rename_i D;rw[D]at q;exact⟨[],Γ,σ,tk,.nils,tm i,a,h,y,q,by rfl,.inr ⟨.inl rfl,rfl,rfl⟩,c0i.refl,fun _ g=>g⟩;rename_i D;rw[D]at q;exact⟨[],Γ,σ,tk,.empt,tm i,a,h,y,q,by rfl,.inr ⟨.inr rfl,rfl,rfl⟩,c0i.refl,fun _ g=>g⟩;rename_i n D;rw[D]at q;rcases a0b a with⟨-,g⟩|⟨d,a⟩
    grind
    simp only[Bool.or_eq_false_iff,Bool.not_eq_false',dT]at d;have V:n∉tk:=by simp_all
    split at a
    rename_i X l C
    split at a
    rename_i I;subst I;obtain⟨σ1,k1,k2⟩:=h.clear (a0o C).2 y d.2 q;refine⟨[],_,σ1,n::tk,.sref n [],tm i,a,k1,y,⟨_,X,.one (tm i),by simp[AE.setRt];rfl,by show some (_,σ1.g n)=_;grind,rfl⟩,by rfl,.inl ⟨n,rfl,V,rfl,by simp[AE.setRt]⟩,⟨fun i' G g1 g2=>?_,fun m F=>?_⟩,fun i' g=>?_⟩;have hd:AV.drop n G=G:=by
     rcases g2 with g|⟨m,F,rfl|rfl⟩;cases G<;>first|rfl|cases g
     have:(m==n)=false:=by grind
     simp[AV.drop,this]
     have:(m==n)=false:=by grind
     simp[AV.drop,this]
    exact s0l g1 hd
    have:(m==n)=false:=by grind
    simp[AE.setRt,AE.mapv,this];exact s0l g rfl;simp_all;simp_all;simp_all
 |b t=>
  cases v with
  |inr n=>
   cases n with
   |none=>simp_all[AE.out]
   |some n=>
   simp only[AE.out]at a;rcases a0b a with⟨-,g⟩|⟨d,a⟩
   grind
   have d:n∉tk:=by simp_all
   split at a
   rename_i J x C
   split at a
   rename_i I;subst I;obtain⟨O',R,-,-,U⟩:=(h.roots n _ C).rd;rcases U with⟨-,b,hs,-⟩|⟨Z,-⟩;refine⟨x,Γ,σ,n::tk,.ptr n [],.pointer (some ⟨b,0,none⟩),a,h,y,⟨_,J,b,0,C,by show some (J,σ.g n)=_;grind,rfl⟩,fun i b' hn Z=>?_,⟨n,rfl,d,rfl,C⟩,c0i.refl,fun _ g=>g⟩;subst hn
   have:=h.pins i b' Z (by simp_all)
   rw[←this,hs];exact⟨rfl,rfl⟩;simp_all;simp_all;simp_all
  |inl rv=>
   cases rv with
   |cell i J=>simp_all[AE.out]
   |tmp i=>
    simp[g0j]at hv;have q:=c0w h (a05 hv H);simp only[AE.out]at a
    split at a
    rename_i n D;rw[D]at q;rcases a0b a with⟨-,g⟩|⟨d,a⟩
    grind
    have d:n∉tk:=by
     simp_all
    split at a
    rename_i J x C
    split at a
    rename_i I;subst I;exact⟨x,Γ,σ,n::tk,.ptr n [],tm i,a,h,y,q,by rfl,⟨n,rfl,d,rfl,C⟩,c0i.refl,fun _ g=>g⟩;simp_all;simp_all;simp_all
end
def A0g(Γ:AE)(av:AV)(o:Option Nat):((r:RA)×r.ty.den)→Prop
 |⟨.v t,x⟩=>av=.val t x∧o=none
 |⟨.o e,x⟩=>(∃n,o=some n∧av=.sref n []∧Γ.rt n=some ⟨false,.list true e,x⟩)∨(o=none∧(av=.nils∨av=.empt)∧x=[])
 |⟨.b t,x⟩=>∃n,o=some n∧av=.ptr n []∧Γ.rt n=some ⟨true,t,x⟩
theorem o0q.finK{tk tk':List Nat}{Γ Γ':AE}{av:AV}{i:Nat}(a:Γ.get i=av):∀{it:(r:RA)×r.ty.den},o0q tk tk' Γ av it→c0i tk' Γ Γ'→
  ∃o,A0g Γ' (Γ'.get i) o it∧(∀n∈tk,n∈tk')∧∀n,o=some n→n∉tk∧n∈tk'
 |⟨.v t,x⟩,⟨f,k⟩,hs=>by
  subst f;subst k;exact⟨none,⟨hs.1 i _ a (.inl rfl),rfl⟩,fun _ g=>g,by simp⟩
 |⟨.o e,x⟩,h,hs=>by
  rcases h with⟨n,rfl,k,rfl,c⟩|⟨f,k,rfl⟩;refine⟨some n,.inl ⟨n,rfl,hs.1 i _ a (.inr ⟨n,by simp,.inl rfl⟩),(hs.2 n (by simp)).trans c⟩,fun m g=>a03 _ g,?_⟩;simp_all;refine⟨none,.inr ⟨rfl,?_,k⟩,fun _ g=>g,by simp⟩;rw[hs.1 i av a (.inl (by rcases f with rfl|rfl<;>rfl))];omega
 |⟨.b t,x⟩,⟨n,f,k,h3,c⟩,hs=>by
  subst f;subst h3;refine⟨some n,⟨n,rfl,hs.1 i _ a (.inr ⟨n,by simp,.inr rfl⟩),(hs.2 n (by simp)).trans c⟩,fun m g=>a03 _ g,?_⟩;simp_all
section
variable {P:Program} {B:Base} {w:World} {cx:Cx} {ρ:Type}
theorem Rel.ext_slot{N:Nat}{tm:Nat→Value}{Γ:AE}{σ:Gh}(h:Rel B Γ N tm w σ){av:AV}{u:Value}(hv:a0e (a0a w σ.ov) σ.g Γ.rt (Shr B w σ) av u):Rel B (Γ.set N av) (N+1) (fun i=>if i=N then u else tm i) w σ:=by
 refine⟨h.roots,h.norm,h.nodup,h.disj,h.live,fun i hi=>?_,h.pend,h.size,h.frame,h.mine,h.pins,h.still⟩;rw[c0f]
 by_cases e:i=N
 rw[if_pos e,if_pos e];exact hv;rw[if_neg e,if_neg e];exact h.slots i (by omega)
theorem i0x.congr{tm tm':Nat→Value}{N0:Nat}{u:Value}{v:ResultVar ⊕ Option Nat}(hv:g0j N0 v=true)(h:i0x P B w tm u v)(g:∀i,i<N0→tm' i=tm i):i0x P B w tm' u v:=by
 cases v with
 |inr n=>cases n<;>exact h
 |inl r=>
  cases r with
  |tmp i=>
   simp[g0j]at hv;simp only[i0x,e0i]at h⊢;simp_all
  |cell i t=>
   simp[g0j]at hv;simp only[i0x,e0i]at h⊢;simp_all
structure Outd (P:Program) (B:Base) (w:World) (N0 N:Nat) (tm:Nat→Value) (tk:List Nat) (Γ Γ':AE) (σ':Gh) (rs:List RA) (vs:List (ResultVar ⊕ Option Nat)) (y:(b0u (rs.map RA.ty)).den) (us:List Value) (tm':Nat→Value) (ns:List (Option Nat)):Prop where
 lu:us.length=rs.length
 lv:vs.length=rs.length
 ln:ns.length=rs.length
 rel:Rel B Γ' (N+rs.length) tm' w σ'
 pd:Γ'.pd=none
 low:∀i,i<N→tm' i=tm i
 high:∀(k:Nat) u,us[k]?=some u→tm' (N+k)=u
 stay:c0i tk Γ Γ'
 comes:∀(k:Nat) v u,vs[k]?=some v→us[k]?=some u→i0x P B w tm u v
 fin:∀(k:Nat) it o,(c0d rs y)[k]?=some it→ns[k]?=some o→A0g Γ' (Γ'.get (N+k)) o it
 names:∀(k n:Nat),ns[k]?=some (some n)→n∉tk∧∀k':Nat,ns[k']?=some (some n)→k'=k
theorem p0j(d:CxTy P cx){N0:Nat}:∀(rs:List RA)(vs:List (ResultVar ⊕ Option Nat)) {Γ:AE} {σ:Gh} {N:Nat} {tm:Nat→Value} {tk:List Nat} (_:N0≤N) (_:Rel B Γ N tm w σ) (_:Γ.pd=none) (_:∀i,N≤i→Γ.get i=.dead)
  (_:∀v∈vs,g0j N0 v=true) {K:(b0u (rs.map RA.ty)).den→AE→Rs ρ} {z:ρ} (_:Γ.outs cx tk N rs vs K=some z),∃y Γ' σ' us e ns,K y Γ'=some z∧Outd P B w N0 N tm tk Γ Γ' σ' rs vs y us e ns
 | [],vs,Γ,σ,N,tm,tk,hN,h,hpd,hdead,hvs,K,z,hz=>by
  cases vs with
  |cons=>simp_all[AE.outs]
  |nil=>exact⟨(),Γ,σ,[],tm,[],hz,⟨rfl,rfl,rfl,h,hpd,fun _ _=>rfl,by simp,c0i.refl,by simp,by simp,by simp⟩⟩
 | [r],vs,Γ,σ,N,tm,tk,hN,h,hpd,hdead,hvs,K,z,hz=>by
  match vs,hvs with
  | [],_=>simp_all[AE.outs]
  |_::_::_,_=>simp_all[AE.outs]
  | [v],hvs=>
   simp[AE.outs]at hz;obtain⟨x,Γ1,σ1,b,av,u,m,p,q,s,H,t,A,C⟩:=r0d d hN h hpd (hvs v (by simp)) hz;have a:(Γ1.set N av).get N=av:=by simp[AE.get];rw[c0f,if_pos rfl]
   have J:c0i b Γ1 (Γ1.set N av):=c0i.refl.set (C N (hdead N (a18 _)));have c:o0q tk b (Γ1.set N av) av ⟨r,x⟩:=t;obtain⟨o,F,g,S⟩:=c.finK a c0i.refl;refine⟨x,Γ1.set N av,σ1,[u],_,[o],m,⟨rfl,rfl,rfl,p.ext_slot s,q,fun i hi=>if_neg (by omega),fun k l f=>?_,A.set (hdead N (a18 _)),fun k v' l f L=>?_,fun k it G f I=>?_,fun k n f=>?_⟩⟩
   all_goals grind[c0d]
 |r::r'::rs,vs,Γ,σ,N,tm,tk,hN,h,hpd,hdead,hvs,K,z,hz=>by
  match vs,hvs with
  | [],_=>simp_all[AE.outs]
  |v::vs,hvs=>
   simp[AE.outs]at hz;obtain⟨x,Γ1,σ1,b,av,u,m,p,q,s,H,t,A,C⟩:=r0d d hN h hpd (hvs v (by simp)) hz;have a:(Γ1.set N av).get N=av:=by simp[AE.get];rw[c0f,if_pos rfl]
   have D:∀i,N+1≤i→(Γ1.set N av).get i=.dead:=fun i hi=>by
    have:=C i (hdead i (by omega))
    simp[AE.get]at this⊢;rw[c0f,if_neg (by omega)];omega
   obtain⟨y,Γ',σ',us,e,ns,F,g⟩:=p0j d (r'::rs) vs (by omega:N0≤N+1) (p.ext_slot s) q D (fun v' M=>hvs v' (by simp_all)) m;have c:o0q tk b (Γ1.set N av) av ⟨r,x⟩:=t;obtain⟨o,R,O,E⟩:=c.finK a g.stay;refine⟨(x,y),Γ',σ',u::us,e,o::ns,F,⟨by simp[g.lu],by simp[g.lv],by simp[g.ln],?_,g.pd,fun i hi=>?_,fun k l f=>?_,(A.set (hdead N (a18 _))).trans g.stay O,fun k v' l f L=>?_,fun k it G f I=>?_,fun k n f=>?_⟩⟩
   have:=g.rel
   grind
   rw[g.low i (by omega),if_neg (by omega)]
   ·cases k with
    |zero=>
     simp at f;rw[←f,Nat.add_zero,g.low N (by omega),if_pos rfl]
    |succ k=>
     have:=g.high k l (by simp_all)
     grind
   ·cases k with
    |zero=>
     simp_all
    |succ k=>
     have j:vs[k]?=some v':=by simp_all
     exact(g.comes k v' l j (by simp_all)).congr (hvs v' (by grind)) (fun i hi=>(if_neg (by omega)).symm)
   ·cases k with
    |zero=>
     simp_all[c0d]
    |succ k=>
     have:=g.fin k it G (by simpa[c0d]using f) (by simp_all)
     grind
   ·cases k with
    |zero=>
     simp at f;refine⟨(E n f).1,fun k' j=>?_⟩;cases k' with
     |zero=>rfl
     |succ k'=>exact absurd (E n f).2 (g.names k' n (by simp_all)).1
    |succ k=>
     obtain⟨a1,Q⟩:=g.names k n (by simp_all)
     grind
end
theorem t0w{P:Program}{fn:Func}{a:Act}{w:World}{vr:List Value}(d:vr.length=fn.results.toList.length)
  (h:∀(k:Nat) r u,fn.results.toList[k]?=some r→vr[k]?=some u→(e0i (a0f a) r).run P w=.ok u w):(results fn a.tmps).run P w=.ok (l0o vr) w:=by
 have f:(fn.results.toList.mapM (e0i (a0f a))).run P w=.ok vr w:=s0v _ _ d h;have b:fn.results.mapM (e0i (a0f a))=Functor.map List.toArray (fn.results.toList.mapM (e0i (a0f a))):=by
  rw[←List.mapM_toArray]
 have c:results fn a.tmps=(do
   let g ←fn.results.mapM (e0i (a0f a))
   pure (if h:g.size=1 then g[0]else .tuple g)):=by
  rfl
 rw[c,b];simp only[map_eq_pure_bind,bind_assoc,pure_bind,Sem.run_bind,f,Result.andThen_ok,Sem.run_pure,List.size_toArray];congr 1
 match vr with
 | []=>rfl
 | [u]=>rfl
 |_::_::_=>rfl
section
variable {P:Program} {B:Base} {w:World} {cx:Cx}
theorem Outd.back{N0 N:Nat}{tm:Nat→Value}{Γ Γ':AE}{σ':Gh}{rs:List RA}{vs y us tm' ns}(h:Outd P B w N0 N tm [] Γ Γ' σ' rs vs y us tm' ns):
  ∃C,Back B w (c0d rs y) us C:=by
 have W:=h.rel.ov_none h.pd;have q:a0a w σ'.ov=cells w:=by rw[W];rfl
 let F:Option Nat→Value→Src×a0z:=fun o u=>match o with
  |some n=>(σ'.g n,σ'.ow n)
  |none=>(.one u,[])
 let C:=a44 F ns us
 have m:∀(k:Nat) L,C[k]?=some L→∃o u,ns[k]?=some o∧us[k]?=some u∧L=F o u:=fun k L X=>by
  grind
 have a:∀L∈C,L.2=[]∨∃(k n:Nat),ns[k]?=some (some n)∧L.2=σ'.ow n:=fun L d=>by
  obtain⟨k,X⟩:=a36.1 d
  grind
 have D:∀c,Shr B w σ' c→(c<w.heap.size∧(B.S c∨B.F c∨B.size≤c)∧∀L∈C,c∉L.2.map (·.1)):=fun c j=>⟨j.1,j.2.1,fun L d I=>by
  rcases a L d with g|⟨k,n,-,g⟩;simp_all;rw[g]at I;exact j.2.2 ⟨n,I⟩⟩
 have J:∀L∈C,∀c∈L.2.map (·.1),a0r σ' c:=fun L d c j=>by
  rcases a L d with g|⟨k,n,-,g⟩;simp_all;rw[g]at j;exact⟨n,j⟩
 refine⟨C,⟨by rw[h.lu,f0l],by simp[C,h.lu,h.ln,f0l],fun k it u L O Y d=>?_,fun L d=>?_,fun k k' L L' d K Q c j M=>?_,fun L d p hp=>?_,fun L d c j=>h.rel.mine c (J L d c j),h.rel.size,h.rel.frame,h.rel.still⟩⟩
 ·obtain⟨o,u',U,E,rfl⟩:=m k L d;rw[Y]at E;simp at E;subst E;have l:=h.fin k it o O U;have X:k<rs.length:=by rw[←h.lu];grind
  have i:=c0w h.rel (show N+k<N+rs.length by omega);rw[h.high k u Y,q]at i;obtain⟨r,x⟩:=it;cases r with
  |v t=>
   obtain⟨g1,rfl⟩:=l;rw[g1]at i;exact⟨VOk.frame i (fun _ _ _=>rfl) D,rfl⟩
  |o e=>
   rcases l with⟨n,rfl,z,H⟩|⟨rfl,z,rfl⟩;rw[z]at i;obtain⟨r',e',s,a1,G,a3⟩:=i;rw[H]at a1;simp at a1;subst a1;simp only[loc,a0t,sj,pJ]at G;obtain⟨-,rfl⟩:=G;have f:=h.rel.roots n _ H;rw[q]at f;refine⟨?_,f.mono D⟩;obtain⟨O',R,-,-,j⟩:=f.rd;rcases j with⟨hb,-⟩|⟨-,⟨v0,h0⟩,-,-⟩
   grind
   show σ'.g n=.one u;simp_all[Src.rd]
   ·refine⟨rfl,⟨[],[],?_,by simp,.inr ⟨rfl,⟨_,rfl⟩,⟨e,rfl⟩,rfl⟩⟩⟩;show a0x _ true e.cells (dec _ e) (some u)=some (([]:List e.den),[],[]);rcases z with z|z;rw[z]at i;have i:u=.slice none 0 0:=i;rw[i];rfl
    ·rw[z]at i;obtain⟨A,i⟩:=i;rw[i];cases A with
     |none=>rfl
     |some A=>rfl
  |b t=>
   obtain⟨n,rfl,z,H⟩:=l;rw[z]at i;obtain⟨r',t',b,Z,a1,G,a3⟩:=i;rw[H]at a1;simp at a1;subst a1;simp[a0t]at G;obtain⟨rfl,G⟩:=G;have f:=h.rel.roots n _ H;rw[q]at f;refine⟨f.mono D,b,?_⟩;obtain⟨O',R,-,-,j⟩:=f.rd
   grind
 rcases a L d with g|⟨k,n,-,g⟩;simp_all;rw[g];exact h.rel.nodup n
 ·obtain⟨o,u,U,-,rfl⟩:=m k L d;obtain⟨Z,u',V,-,rfl⟩:=m k' L' K;cases o with
  |none=>grind
  |some n=>
   cases Z with
   |none=>grind
   |some n'=>
    have T:n≠n':=by
     rintro rfl
     exact Q ((h.names k' n V).2 k U)
    exact h.rel.disj n n' T c j M
 rcases a L d with g|⟨k,n,-,g⟩;simp_all;rw[g]at hp;exact h.rel.live n p hp
theorem k0j:∀(ps:List PA)(i0 i:Nat),i∈a0l ps i0→∃c a,ps[i-i0]?=some (.r c a)
 | [],_,_,h=>by simp[a0l]at h
 |.v _::ps,i0,i,h=>by
  have:=(i0h ps (i0+1)).2 i h
  obtain⟨c,a,g⟩:=k0j ps (i0+1) i h;exact⟨c,a,by rw[show i-i0=(i-(i0+1))+1 from by omega];simpa using g⟩
 |.r c a::ps,i0,i,h=>by
  rcases mC.1 h with rfl|h;exact⟨c,a,by simp⟩
  have:=(i0h ps (i0+1)).2 i h
  obtain⟨c,a,g⟩:=k0j ps (i0+1) i h;exact⟨c,a,by rw[show i-i0=(i-(i0+1))+1 from by omega];simpa using g⟩
def A0m(fn:Func)(c:Code)(H:Hints)(s:FSem):Bool:=
 b0z fn.ntmps c&&(H.fits fn.ntmps&&(decide (s.ps.length≤fn.ntmps)&&fn.results.toList.all fun r=>g0j fn.ntmps (.inl r)))
theorem k0e(o:CxTy P cx){fn:Func}{s:FSem}{y}{args:Array Value}(F:(fn.results.toList.all fun r=>g0j fn.ntmps (.inl r))=true){a':Act}{w':World}{σ':Gh}{Γ':AE}(J:Rel B Γ' fn.ntmps (a0f a') w' σ')(x:Γ'.pd=none)
  (H:(Γ'.upto fn.ntmps).outs cx [] fn.ntmps (RA.all s.ps s.rs) (fn.results.toList.map .inl++(a0l s.ps 0).map fun i=>.inr (h0i s.ps i)) (fun y _=>some y)=some y)
  (f:r0s B s.ps args):
  ∃v,(results fn a'.tmps).run P w'=.ok v w'∧∃vr D,Ending.returned v=.returned (l0o vr)∧vr.length=s.rs.length∧Back B w' (c0d (RA.all s.ps s.rs) y) (vr++(a0l s.ps 0).map (d0m s.ps args)) D:=by
 have C:Rel B (Γ'.upto fn.ntmps) fn.ntmps (a0f a') w' σ':=J.weak fun i hi v hv=>by
  simp_all
 obtain⟨y',Γf,σf,us,M,ns,E,d⟩:=p0j (P:=P) (w:=w') (N0:=fn.ntmps) o _ _ (a18 _) C x (fun i hi=>by
   have:decide (i<fn.ntmps)=false:=by simp_all
   simp only[AE.get,AE.upto,this,cF]) (fun v hv=>by
   rcases mA.1 hv with hv|hv
   grind
   obtain⟨i,-,rfl⟩:=a13.1 hv;rfl) H
 simp at E;subst E;obtain⟨D,n⟩:=d.back;have t:=d.lv;simp only[RA.all,lN,List.length_map,g0g s.ps 0,Array.length_toList]at t;have q:=d.lu;simp[RA.all]at q;have K:fn.results.toList.length=s.rs.length:=by simp_all

 have L:us=us.take s.rs.length++(a0l s.ps 0).map (d0m s.ps args):=by
  have e:=List.take_append_drop s.rs.length us
  conv=>lhs;rw[←e]
  congr 1;refine a48 fun k=>?_
  rw[List.getElem?_drop,a49];cases hk:(a0l s.ps 0)[k]? with
  |none=>
   simp_all[g0g]
  |some i=>
   have j:=(lS.1 hk).1;rw[g0g]at j;have A:=lG (show s.rs.length+k<us.length by omega);rw[A]
   simp
   have hv:(fn.results.toList.map Sum.inl++(a0l s.ps 0).map fun i=>Sum.inr (h0i s.ps i))[s.rs.length+k]?=some (Sum.inr (h0i s.ps i):ResultVar ⊕ Option Nat):=by
    simp_all[a28]
   have g:=d.comes _ _ _ hv A;have p:∃c,i0k s.ps i=some c:=by
    obtain⟨c,a,I⟩:=k0j s.ps 0 i (a23 hk);exact⟨c,g0y (by omega)⟩
   obtain⟨c,h⟩:=p;cases c with
   |true=>
    simp[h0i,h]at g;simp[d0m,h];exact g
   |false=>
    simp[h0i,h]at g;simp only[d0m,h];obtain⟨b,l,m⟩:=f i (a23 hk) h;exact m0a.uniq (g i b rfl l) m
 have G:(results fn a'.tmps).run P w'=.ok (l0o (us.take s.rs.length)) w':=by
  refine t0w (by grind) fun k r u z A=>?_
  have j:=(lS.1 z).1;refine d.comes k (.inl r) u ?_ ?_
  all_goals grind
 grind
theorem i0y.of(b:CxOk P cx)(E:P.follows .mixedOrders=true){f:FuncId}{fn:Func}{c:Code}{H:Hints}{s:FSem}(p:P.funcs[f]?=some fn)(z:fn.body=some c)(j:A0m fn c H s=true)
  (o:∀x,A0j cx H fn s.ps s.rs x=s.F x):i0y P cx.G f s:=by
 simp only[A0m,bA,dT]at j;obtain⟨d,A,I,l⟩:=j;intro w B σ args x y hG hy hB hhp hov hargs hrel hpins;rw[←o x]at hy;simp[A0j,z]at hy
 let a:Act:={ tmps:=args++a24 (fn.ntmps-args.size) undef,defers:=[] }
 have r:a.tmps.size=fn.ntmps:=by grind
 have k:Rel B (ini s.ps x) fn.ntmps (a0f a) w σ:=by
  refine⟨hrel.roots,hrel.norm,hrel.nodup,hrel.disj,hrel.live,fun i hi=>?_,hrel.pend,hrel.size,hrel.frame,hrel.mine,hrel.pins,hrel.still⟩
  by_cases hlt:i<s.ps.length
  have:=hrel.slots i hlt
  have e:a0f a i=args.getD i undef:=by
   simp[a0f,a,a37];simp_all
  simp_all
  have:(ini s.ps x).sl i=.one .dead:=by
   simp_all[ini,e0a]
  rw[this];trivial
 refine calls_of_wp p z (wp_mono ((wpIn_wide (n:=0)).1 (f0z (ro:=none) (D:=[]) b hG E A c 1 d hy k r rfl)) ?_)
 rintro e K w' ⟨t,Γ',σ',rfl,m,J,L,u⟩
 simp at m;have key:(∀i,t≠.exit i)∧Γ'.pd=none∧(Γ'.upto fn.ntmps).outs cx [] fn.ntmps (RA.all s.ps s.rs) (fn.results.toList.map .inl++(a0l s.ps 0).map fun i=>.inr (h0i s.ps i)) (fun y _=>some y)=some y:=by
  grind
 obtain⟨C,q,m⟩:=key;obtain⟨v,g,h⟩:=k0e (args:=args) b.toCxTy l J q m hpins;cases t with
 |exit i=>simp_all
 |normal=>exact⟨u,_,g,h⟩
 |ret=>exact⟨u,_,g,h⟩
end
end Go.Ab
namespace Go.Ab
open Go.ChangeShapes Go.WideShapes
def Wf:(t:Ty)→t.den→Prop
 |.int k,n=>(Lit.int k n).wf=true
 |.str,l=>∀b∈(show List Int from l),0≤b∧b≤255
 |.list _ t,l|.nl t,l=>∀x∈(show List t.den from l),Wf t x
 |.arr n t,l=>(show List t.den from l).length=n∧∀x∈(show List t.den from l),Wf t x
 |.pair a b,x=>Wf a x.1∧Wf b x.2
 |.bool,_|.unit,_=>True
def c0v:(t:Ty)→t.den→Nat
 |.str,l=>(show List Int from l).length+1
 |.list _ t,l|.nl t,l=>1+((show List t.den from l).map (c0v t)).sum
 |.arr _ t,l=>((show List t.den from l).map (c0v t)).sum
 |.pair a b,x=>c0v a x.1+c0v b x.2
 |.unit,_=>0
 |.int _,_|.bool,_=>1
structure Bulk {H:Type} (bulk:DataW H→Nat):Prop where
 one:∀d,1≤bulk d
 str:∀bs,bulk (.lit (.string bs))=bs.length+1
 slice:∀es sp,(es.map bulk).sum+1≤bulk (.slice es sp)
 agg:∀ps,(ps.map bulk).sum≤bulk (.agg ps)
def h0n:Ty→Bool
 |.list o e=>h0n e&&!o
 |.nl _=>false
 |.pair a b=>h0n a&&h0n b
 |.arr _ t=>h0n t
 |_=>true
theorem l0h{α:Type}{f:Nat→Option (α×a0z×List Nat)}{p:α→Prop}{q:Nat→Prop}{g:α→Nat}{b:Nat→Nat}:∀(n i:Nat),(∀j,j<n→∃x R,f (i+j)=some (x,[],R)∧p x∧g x≤b (i+j)∧∀c∈R,q c)→
  ∃xs Rs,a0d f n i=some (xs,[],Rs)∧(∀x∈xs,p x)∧(xs.map g).sum≤((a29 i n).map b).sum∧∀c∈Rs,q c
 |0,_,_=>⟨[],[],rfl,by simp,by simp,by simp⟩
 |n+1,i,h=>by
  obtain⟨x,R,k,o,a,r⟩:=h 0 (by omega);obtain⟨xs,Rs,d,e,l,m⟩:=l0h n (i+1) (fun j t=>by
   have:=h (j+1) (by omega)
   rwa [show i+(j+1)=i+1+j from by omega]at this)
  rw[Nat.add_zero]at k a;refine⟨x::xs,R++Rs,by simp_all[a0d],fun y u=>?_,?_,fun c s=>?_⟩
  grind
  all_goals grind[List.range'_succ]
section
variable {H:Type} {enc:TypeId×Value→H} {P:Program} {w:World} {base:Nat} {sp:Nat→Bool} {held:Bool} {bulk:DataW H→Nat}
theorem h0e{τ:Ty}{t:TypeId}(h:a0g P τ (.inl t)=true):P.cellsOf t=τ.cells:=by
 have:=a0p h
 unfold d0v at this;unfold Program.cellsOf
 grind
theorem z0m{a:Addr}{v:Value}(h:w.cell? a=some v):a.block<w.heap.size:=by
 grind[World.cell?]
theorem A0t(Q:Bulk bulk)(hs:∀b,sp b=true):∀(t:Ty),
  (∀(T:TypeId)(n:Nat)(cs:List Value) y,a0g P t (.inl T)=true→h0n t=true→DataW.trod enc P w base sp held n T cs=some y→
   ∃x R,dec (cells w) t (fun j=>cs[j]?)=some (x,[],R)∧Wf t x∧c0v t x≤bulk y.1∧∀c∈R,c<w.heap.size)∧
  (∀(fs:List Field)(off n:Nat)(cs:List Value)(xs:List (DataW H×List MemPlace)),a0g P t (.inr (fs,off))=true→h0n t=true→xs.length=fs.length→
   (∀(i:Nat)(f:Field),fs[i]?=some f→DataW.trod enc P w base sp held n f.type ((cs.drop f.offset).take (P.cellsOf f.type))=xs[i]?)→
   ∃x R,dec (cells w) t (fun j=>cs[off+j]?)=some (x,[],R)∧Wf t x∧c0v t x≤((xs.map (·.1)).map bulk).sum∧∀c∈R,c<w.heap.size):=by
 intro t
 induction t with
 |int k=>
  refine⟨fun T n cs y d _ h=>?_,fun fs off n cs xs d=>by simp[a0g]at d⟩;obtain⟨m,rfl,rfl,hw⟩:=DataW.trod_int (g0u d) h;exact⟨m,[],by simp[dec],hw,Q.one _,by simp⟩
 |bool=>
  refine⟨fun T n cs y d _ h=>?_,fun fs off n cs xs d=>by simp[a0g]at d⟩;have G:P.underlying T=some .bool:=by
   simp[a0g]at d
   grind
  obtain⟨m,rfl,rfl⟩:=DataW.trod_bool G h;exact⟨m,[],by rfl,trivial,Q.one _,by simp⟩
 |str=>
  refine⟨fun T n cs y d _ h=>?_,fun fs off n cs xs d=>by simp[a0g]at d⟩;have G:P.underlying T=some .string:=by
   simp[a0g]at d
   grind
  obtain⟨s,rfl,rfl,-⟩:=DataW.trod_string G h;refine⟨_,[],by rfl,fun b g0=>?_,?_,by simp⟩;obtain⟨u,-,rfl⟩:=a13.1 g0
  have:=u.toNat_lt
  omega;rw[Q.str];simp[c0v]
 |unit=>
  refine⟨fun T n cs y d _ h=>⟨(),[],rfl,trivial,Nat.zero_le _,by simp⟩,fun fs off n cs xs d _ _ _=>⟨(),[],rfl,trivial,Nat.zero_le _,by simp⟩⟩
 |pair a b iha ihb=>
  have M:(∀(fs:List Field)(off n:Nat)(cs:List Value)(xs:List (DataW H×List MemPlace)),a0g P (.pair a b) (.inr (fs,off))=true→h0n (.pair a b)=true→xs.length=fs.length→
   (∀(i:Nat)(f:Field),fs[i]?=some f→DataW.trod enc P w base sp held n f.type ((cs.drop f.offset).take (P.cellsOf f.type))=xs[i]?)→
   ∃x R,dec (cells w) (.pair a b) (fun j=>cs[off+j]?)=some (x,[],R)∧Wf (.pair a b) x∧c0v (.pair a b) x≤((xs.map (·.1)).map bulk).sum∧∀c∈R,c<w.heap.size):=by
   intro fs off n cs xs d l hl hf;cases fs with
   |nil=>simp[a0g]at d
   |cons f r=>
    simp[a0g]at d;obtain⟨⟨⟨ho,h8⟩,A⟩,htb⟩:=d;simp[h0n]at l;cases xs with
    |nil=>grind
    |cons x0 xs=>
     have h0:=hf 0 f rfl;simp at h0;rw[h0e h8,ho]at h0;have Z:∀j,j<a.cells→((cs.drop off).take a.cells)[j]?=cs[off+j]?:=fun j F=>by
      grind
     obtain⟨x,R,B,D,O,J⟩:=iha.1 f.type n _ x0 h8 l.1 h0;obtain⟨y,R',k1,k2,k3,k4⟩:=ihb.2 r (off+a.cells) n cs xs htb l.2 (by grind) (fun i f' hi=>by simpa using hf (i+1) f' (by grind));refine⟨(x,y),R++R',?_,⟨D,k2⟩,?_,fun c hc=>?_⟩;have e1:=a0j (m':=cells w) a (rd':=fun j=>cs[off+j]?) B (fun j F=>(Z j F).symm) (fun _ _ _=>rfl)
     grind[dec]
     all_goals grind[c0v]
  refine⟨fun T n cs y d l h=>?_,M⟩;obtain⟨fs,G,g5⟩:∃fs:Array Field,P.underlying T=some (.struct fs)∧a0g P (.pair a b) (.inr (fs.toList,0))=true:=by
   simp[a0g]at d;obtain⟨-,d⟩:=d
   split at d
   rename_i fs G;refine⟨fs,G,?_⟩
   split at d
   rename_i f r hr;rw[hr];simp only[a0g,a45];omega
   grind
   grind
  obtain⟨xs,m,-,rfl,hl,h7,hf⟩:=DataW.trod_struct G h;obtain⟨x,R,B,D,O,J⟩:=M fs.toList 0 m cs xs g5 l (by omega) (fun i f hi=>hf i f (by grind));refine⟨x,R,?_,D,a10 O (Q.agg _),J⟩
  grind
 |list o e ih=>
  refine⟨fun T n cs y d l h=>?_,fun fs off n cs xs d=>by simp[a0g]at d⟩;obtain⟨V,G,C,A⟩:=b0l d;simp[h0n]at l;obtain⟨g7,rfl⟩:=l;rcases DataW.trod_slice G h with⟨rfl,rfl⟩|⟨a,I,W,elems,rest,m,-,rfl,rfl,k0,h4,g9,h5,Y,U,-⟩;exact⟨[],[],by rfl,by simp[Wf],by simp only[c0v];exact Q.one _,by simp⟩;have v:W=0∨a.spot=none:=by
   by_cases hc0:W=0
   omega;refine .inr ?_
   have one:∀{o:Nat}{z},o=0→(w.cells? base (a.add (o*P.cellsOf V)) (P.cellsOf V)).bind (DataW.trod enc P w base sp held m V)=some z→a.spot=none:=fun ho K=>by
    subst ho;obtain⟨N,X,-⟩:=a09.1 K;rw[h0e C]at X;obtain⟨-,g6,S⟩:=World.cells?_some X;have h3:=S 0 A;rw[Nat.zero_mul,Addr.add_zero',Addr.add_zero',lG (by omega)]at h3
    grind[World.cell?_spot]
   by_cases hl0:I=0
   obtain⟨k5,g8⟩:=U (hs _);have K:=g8 0 (by omega)
   grind
   have K:=Y 0 (by omega)
   grind
  have one:∀i,i<I→∃x R,dec (cells w) e (fun j=>cells w a.block (a.off+(i*e.cells+j)))=some (x,[],R)∧Wf e x∧c0v e x≤bulk ((elems.getD i (.nil,[])).1)∧(∀c∈R,c<w.heap.size)∧a.block<w.heap.size:=fun i hi=>by
   have K:=Y i hi;rw[lG (by omega)]at K;obtain⟨N,X,h3⟩:=a09.1 K;rw[h0e C]at X;obtain⟨-,g6,S⟩:=World.cells?_some X;have v:a.spot=none:=v.resolve_left (by omega);obtain⟨x,R,B,D,O,J⟩:=ih.1 V m N _ C g7 h3;have E:∀j,j<e.cells→cells w a.block (a.off+(i*e.cells+j))=N[j]?:=fun j F=>by
    rw[←S j F]
    have:a=⟨a.block,a.off,none⟩:=by rw[←v]
    rw[this,add_plain,add_plain,Nat.add_assoc];rfl
   refine⟨x,R,a0j e B (fun j F=>E j F) (fun _ _ _=>rfl),D,by simp_all,J,?_⟩
   have:=E 0 A
   rw[lG (by omega)]at this;exact z0m (a:=⟨a.block,_,none⟩) this
  obtain⟨xs,Rs,B,D,O,J⟩:=l0h (p:=Wf e) (q:=fun c=>c<w.heap.size) (g:=c0v e) (b:=fun i=>bulk ((elems.getD i (.nil,[])).1)) I 0 (fun j F=>by
   obtain⟨x,R,k1,k2,k3,k4,-⟩:=one j F;rw[a45];exact⟨x,R,k1,k2,k3,k4⟩)
  have L:((a29 0 I).map fun i=>bulk ((elems.getD i (.nil,[])).1)).sum=((elems.map (·.1)).map bulk).sum:=by
   rw[a43,Go.Deep.map_by_index elems (.nil,[]) (bulk∘(·.1)),h5,a19];rfl
  have h9:=Q.slice (elems.map (·.1)) (rest.map (·.1))
  by_cases hn:I=0
  subst hn;simp only[a0d,sj,pJ]at B;obtain⟨rfl,-,-⟩:=B;exact⟨[],[],by simp only[dec,a0x,a21];rw[if_pos ⟨v,h4⟩];rfl,by simp[Wf],by grind[c0v],by simp⟩;refine⟨xs,a.block::([]++Rs),?_,D,?_,fun c hc=>?_⟩;simp only[dec,a0x,a21,v,h4,and_self,if_true,B,a01,if_false,if_neg hn,a46];rfl
  grind[c0v]
  rcases mC.1 hc with rfl|hc;obtain⟨_,_,_,_,_,_,h6⟩:=one 0 (by omega);omega
  grind
 |nl e ih=>grind[h0n]
 |arr n e ih=>
  refine⟨fun T f cs y d l h=>?_,fun fs off n cs xs d=>by simp[a0g]at d⟩;obtain⟨V,G,C,A⟩:=g0s d;obtain⟨xs,m,-,rfl,hl,h7,hf⟩:=DataW.trod_array G h;simp[h0n]at l;have one:∀i,i<n→∃x R,dec (cells w) e (fun j=>cs[i*e.cells+j]?)=some (x,[],R)∧Wf e x∧c0v e x≤bulk ((xs.getD i (.nil,[])).1)∧∀c∈R,c<w.heap.size:=fun i hi=>by
   have K:=hf i hi;rw[lG (by omega),h0e C]at K;obtain⟨x,R,B,D,O,J⟩:=ih.1 V m _ _ C l K;refine⟨x,R,a0j e B (fun j F=>?_) (fun _ _ _=>rfl),D,by simp_all,J⟩;simp_all
  obtain⟨ys,Rs,B,D,O,J⟩:=l0h (p:=Wf e) (q:=fun c=>c<w.heap.size) (g:=c0v e) (b:=fun i=>bulk ((xs.getD i (.nil,[])).1)) n 0 (fun j F=>by
   obtain⟨x,R,k1,k2,k3,k4⟩:=one j F;rw[a45];exact⟨x,R,k1,k2,k3,k4⟩)
  have L:((a29 0 n).map fun i=>bulk ((xs.getD i (.nil,[])).1)).sum=((xs.map (·.1)).map bulk).sum:=by
   rw[a43,Go.Deep.map_by_index xs (.nil,[]) (bulk∘(·.1)),h7,a19];rfl
  refine⟨ys,Rs,by simp[dec];exact B,⟨a0v _ _ B,D⟩,?_,J⟩;simp[c0v];exact a10 (a10 O (Nat.le_of_eq L)) (Q.agg _)
end
end Go.Ab
namespace Go.Ab
open Go.ChangeShapes Go.WideShapes Go.RowKit
def u0r(ps:List PA)(x:(b0u (ps.map PA.ty)).den):Prop:=∀it∈a0y ps x,Wf it.1.ty it.2
def o0w(ps:List PA)(x:(b0u (ps.map PA.ty)).den):Nat:=((a0y ps x).map fun it=>c0v it.1.ty it.2).sum
def f0c(P:Program):List PA→List TypeId→Bool
 | [],[]=>true
 |.v t::ps,T::Ts=>a0g P t (.inl T)&&(h0n t&&(P.readableRec T&&(decide (T<P.types.size)&&f0c P ps Ts)))
 |_,_=>false
section
variable {H:Type} {enc:TypeId×Value→H} {P:Program} {w:World} {base:Nat} {sp:Nat→Bool} {held:Bool} {bulk:DataW H→Nat}
theorem t0c(o:Bulk bulk)(s:∀b,sp b=true){t:Ty}{T:TypeId}{v:Value}{d:DataW H}{ps:List MemPlace}{r:Reach}{b0:Nat}(k:a0g P t (.inl T)=true)(hf:h0n t=true)(f:Value.okWide P w r b0 T v)(h:DataW.Trod enc P w base sp held T v d ps):
  ∃x,VOk (cells w) (fun c=>c<w.heap.size) t x v∧Wf t x∧c0v t x≤bulk d:=by
 obtain⟨n,q⟩:=h;have i:t.isAgg=true→∃cs,v=.agg cs∧cs.size=P.cellsOf T∧Row.okWide P w r b0 T cs:=fun a=>by
  cases t<;>simp only[Ty.isAgg,a01]at a
  all_goals
   simp only[a0g,bA]at k;obtain⟨-,k⟩:=k
   split at k
   rename_i e;simp only[Value.okWide,e]at f;omega;simp_all
 have one:t.isAgg=false→Cell.okWide P w r b0 T v:=fun a=>by
  cases t<;>simp only[Ty.isAgg,Bool.true_eq_false]at a
  all_goals
   simp only[a0g,bA]at k;obtain⟨-,k⟩:=k
   split at k
   rename_i e;simp only[Value.okWide,e]at f;exact f;cases k
 have g:t.isAgg=false→b0j v=true:=fun a=>by
  have:=one a
  cases v<;>first|rfl|skip
  all_goals
   exfalso
   unfold Cell.okWide at this
   split at this<;>first|(rename_i p;cases p;done)|skip
   all_goals
    unfold Cell.ok at this;simp_all
 obtain⟨x,R,u,j,l,m⟩:=(A0t o s t).1 T n v.cells.toList _ k hf q;refine⟨x,⟨fun a=>?_,g,R,?_,m⟩,j,l⟩
 all_goals grind[h0e]
theorem u0f(z:Bulk bulk)(A:∀b,sp b=true){r:Reach}{b0:Nat}:∀(ps:List PA)(Ts:List TypeId)(vs:List Value)(ds:List (DataW H)) (p:List MemPlace),f0c P ps Ts=true→(∀(j:Nat) T v,Ts[j]?=some T→vs[j]?=some v→Value.okWide P w r b0 T v)→
  DataW.TrodAll enc P w base sp held Ts vs ds p→
  ∃x:(b0u (ps.map PA.ty)).den,vs.length=ps.length∧u0r ps x∧o0w ps x≤(ds.map bulk).sum∧ds.length=ps.length∧
   ∀(k:Nat) it v,(a0y ps x)[k]?=some it→vs[k]?=some v→∃t y,it=⟨.v t,y⟩∧VOk (cells w) (fun c=>c<w.heap.size) t y v
 | [],[],vs,ds,p,_,_,h=>by
  obtain⟨rfl,rfl,rfl⟩:=trodAll_nil h;exact⟨(),rfl,by simp[u0r,a0y],by simp[o0w,a0y],rfl,by simp⟩
 | [.v t],T::Ts,vs,ds,p,hp,hv,h=>by
  simp only[f0c,bA]at hp;obtain⟨l,m,-,-,s⟩:=hp;obtain⟨v,a,d,f,q,E,rfl,rfl,rfl,e,i⟩:=trodAll_cons h;cases Ts with
  |cons T' Ts=>simp[f0c]at s
  |nil=>
   obtain⟨rfl,rfl,rfl⟩:=trodAll_nil i;obtain⟨x,G,B,C⟩:=t0c z A l m (hv 0 T v rfl rfl) e;refine⟨x,rfl,fun it g=>by obtain rfl:=List.mem_singleton.1 g;exact B,by simp[o0w,a0y];exact C,rfl,fun k it u n o=>?_⟩;cases k with
   |zero=>
    simp[a0y]at n o
    grind
   |succ k=>simp_all
 |.v t::p'::ps,T::Ts,vs,ds,p,hp,hv,h=>by
  simp only[f0c,bA]at hp;obtain⟨l,m,-,-,s⟩:=hp;obtain⟨v,a,d,f,q,E,rfl,rfl,rfl,e,i⟩:=trodAll_cons h;obtain⟨x,G,B,C⟩:=t0c z A l m (hv 0 T v rfl rfl) e;obtain⟨y,l1,l2,D,J,K⟩:=u0f z A (p'::ps) Ts a f E s (fun j T v I F=>hv (j+1) T v (by simp_all) (by simp_all)) i;refine⟨(x,y),by grind,fun it g=>?_,?_,by grind,fun k it u n o=>?_⟩;rcases mC.1 g with rfl|g;exact B;exact l2 it g;simp[o0w,a0y]at D⊢;exact Nat.add_le_add C D
  ·cases k with
   |zero=>
    simp[a0y]at n o
    grind
   |succ k=>grind[a0y]
 |.r _ _::_,_,_,_,_,hp,_,_=>by simp[f0c]at hp
 |.v _::_,[],_,_,_,hp,_,_=>by simp[f0c]at hp
 | [],_::_,_,_,_,hp,_,_=>by simp[f0c]at hp
theorem x0r(a:laidOutB P=true){W W':World}{sp':Nat→Bool}:∀(ps:List PA)(Ts:List TypeId)(vs:List Value)(ds:List (DataW H)) (p:List MemPlace),f0c P ps Ts=true→
  DataW.TrodAll enc P W base (fun _=>true) true Ts vs ds p→(∀q∈p,W.sameAt W' q)→(∀q∈p,sp' q.block=true)→DataW.TrodAll enc P W' base sp' true Ts vs ds p
 | [],[],vs,ds,p,_,h,_,_=>by
  obtain⟨rfl,rfl,rfl⟩:=trodAll_nil h;rfl
 |.v t::ps,T::Ts,vs,ds,p,hp,h,hs,hsp=>by
  simp[f0c]at hp;obtain⟨-,-,e,i,j⟩:=hp;obtain⟨v,k,d,f,q,l,rfl,rfl,rfl,b,c⟩:=trodAll_cons h;exact trodAll_cons_mk (WideElems.Trod_stays a e i b (fun x g=>hs x (a04 _ g)) (fun x g=>hsp x (a04 _ g)))
   (x0r a ps Ts k f l j c (fun x g=>hs x (a02 _ g)) (fun x g=>hsp x (a02 _ g)))
 |.r _ _::_,_,_,_,_,hp,_,_,_=>by simp[f0c]at hp
 |.v _::_,[],_,_,_,hp,_,_,_=>by simp[f0c]at hp
 | [],_::_,_,_,_,hp,_,_,_=>by simp[f0c]at hp
theorem n0r:∀(ps:List PA)(Ts:List TypeId)(i:Nat),f0c P ps Ts=true→a0l ps i=[]
 | [],_,_,_=>rfl
 |.v t::ps,T::Ts,i,h=>by
  simp only[f0c,bA]at h;exact n0r ps Ts (i+1) h.2.2.2.2
 |.v _::_,[],_,h=>by simp[f0c]at h
 |.r _ _::_,_,_,h=>by simp[f0c]at h
theorem A0p{bulk:DataW H→Nat}(o:Bulk bulk){f:FuncId}{fn:Func}{s:FSem}{spec:ChangeSpec}{tb:TypeId}{N:Nat}{G:h0c}(hF:i0y P G f s)(hl:laidOutB P=true)(w:f0c P s.ps fn.params.toList=true)
  (h7:s.rs=[.v .bool])(h8:fn.resultTypes=#[tb])(g0:P.underlying tb=some .bool)(d:spec.vars=[])(C:∀ds:List (DataW H),ds.length=s.ps.length→spec.fn H ds={ results:=[.lit (.bool true)],args:=ds })
  (M:∀x,u0r s.ps x→o0w s.ps x≤N→∃y,s.F x=some y∧(c0d (RA.all s.ps s.rs) y)[0]?=some ⟨.v .bool,true⟩)
  {W:World}{b0:Nat}{args:Array Value}{ds gs:List (DataW H)}{before:List MemPlace}{apart fresh handsOn:Bool}
  (E:∀g t x,G g=some ⟨t,x⟩→g<W.heap.size∧dec (a0a W none) t ((Src.at g 0).rd (a0a W none))=some (x,[],[]))
  (U:∀(j:Nat) t v,fn.params[j]?=some t→args[j]?=some v→Value.okWide P W .any b0 t v)(hW:DataW.Whole enc P fn.params.toList spec.vars apart W args.toList ds gs before)(hN:((ds++gs).map bulk).sum≤N):
  Calls P f args W fun e Z=>∃v,e=.returned v∧spec.post enc P fn apart fresh handsOn false W args v Z:=by
 have h5:=hW.lt;have h0:=hW;obtain⟨p,q,hA,hV,rfl,g7,g8⟩:=hW;rw[d]at hV;obtain⟨rfl,rfl⟩:=trodVars_none hV;obtain⟨x,g1,g2,g3,g4,g5⟩:=u0f o (fun _=>rfl) s.ps fn.params.toList args.toList ds p w (fun j T v hT hv=>U j T v (by simp_all) (by simp_all)) hA;rw[a20]at hN;obtain⟨y,hy,u⟩:=M x g2 (a10 g3 hN);have h6:=n0r s.ps fn.params.toList 0 w
 let B:Base:={ size:=W.heap.size,hp:=fun b=>W.heap[b]?,F:=fun _=>False,S:=fun _=>True,io:=b0x W }
 let σ:Gh:=⟨fun _=>.one undef,fun _=>[],none⟩
 have g6:∀n,(ini s.ps x).rt n=none:=fun n=>by
  cases hr:(ini s.ps x).rt n with
  |none=>rfl
  |some r=>
   obtain⟨i,c,a,y,-,hi,-⟩:=x0k hr;have K:=(lS.1 hi).1;rw[e0a,←g1]at K;obtain⟨t,y',e,-⟩:=g5 i _ _ hi (lG K)
   grind
 have h9:args.size=s.ps.length:=by omega
 have Q:Rel B (ini s.ps x) s.ps.length (fun i=>args.getD i undef) W σ:=by
  refine⟨fun n r hr=>?_,fun n _=>rfl,fun n=>by grind,fun n n' _ c Y=>by grind,fun n p hp=>by grind,fun i hi=>?_,trivial,a18 _,fun b _ _=>rfl,fun c Y=>?_,fun i b m=>?_,rfl⟩;simp_all;have h4:i<args.toList.length:=by omega
  have I:=lG h4;have J:i<(a0y s.ps x).length:=by simp_all[e0a]
  obtain⟨t,z,h1,D⟩:=g5 i _ _ (lG J) I;have he:args.getD i undef=args.toList[i]:=by
   simp_all
  simp only[ini,lG J,h1,he];exact VOk.valAV (VOk.frame D (fun _ _ _=>rfl) (fun c Y=>⟨Y,.inl trivial,fun⟨n,hn⟩=>by grind⟩));obtain⟨n,hn⟩:=Y
  grind
  simp_all
 refine(hF W B σ args x y (fun g t z hg=>⟨(E g t z hg).1,trivial,fun h=>h,W,rfl,(E g t z hg).2⟩) hy rfl (fun _=>rfl) rfl h9 Q (fun i hi _=>by simp_all)).mono ?_
 rintro e Z ⟨vr,Ls,rfl,V,l⟩
 rw[h7]at V;rw[h6,a46,a20]at l;obtain⟨v,rfl⟩:∃v,vr=[v]:=by
  match vr,V with
  | [v],_=>simp
 have O:=l.ll;rw[←l.lv]at O;obtain⟨L,rfl⟩:∃L,Ls=[L]:=by
  match Ls,O with
  | [L],_=>simp
 obtain⟨hv,-⟩:=l.ok 0 _ v L u rfl rfl;have hv:v=.bool true:=by
  obtain⟨-,D,R,X,-⟩:=hv;have D:=D rfl;simp[dec]at X
  split at X
  rename_i b m;simp at X;obtain⟨rfl,-⟩:=X;cases v<;>simp[b0j,Value.cells]at D m
  grind
  simp_all
 subst hv;have k:∀b,b<W.heap.size→Z.heap[b]?=W.heap[b]?:=fun b m=>l.frame b m (fun h=>h);have A:=C ds g4;refine⟨_,rfl,ds,[],p++[],[],p,[],h0,?_,?_,?_,⟨?_,?_,fun i hi=>?_⟩,fun h=>by grind⟩;rw[a20,A,h8];exact trodAll_cons_mk (p:=[]) (p':=[]) (shut_bool g0 _) trodAll_mk0
 ·rw[a20,A];refine x0r hl s.ps _ _ _ _ w hA (fun q hq=>?_) (fun q hq=>by simp_all);have m:=h5 q (by simp_all);cases q with
  |cell b off=>
   simp only[World.sameAt,World.cell?];rw[k b m]
  |map b=>exact k b m
 rw[a20,A,d];rfl
 have:=l.still
 grind[b0x]
 have:=l.still
 grind[b0x]
 grind
end
end Go.Ab
namespace Go.Ab
def e0l:Ty→List Field→Bool
 | .pair (.int _) b, f :: r => f.name != "_" && e0l b r
 | .pair .bool b, f :: r => f.name != "_" && e0l b r
 |.unit,[]=>true
 |_,_=>false
def y0p(P:Program)(τ:Ty)(t:TypeId):Bool:=
 !P.stoodInHeld t&&(!P.eqGuardType P.depth t&&(match P.underlying t with|some (.struct fs)=>e0l τ fs.toList|_=>false))
section
variable {P:Program} {w:World} {cx:Cx}
theorem e0q{τ:Ty}{t:TypeId}(g:a0g P τ (.inl t)=true)(f:τ.isAgg=false){xs:Array Value}{off:Nat}{v:Value}(hv:xs[off]?=some v):(part t xs off).run P w=.ok v w:=by
 have h:=e0v g w;simp_all[part]
theorem s0g{m:Mem}{d:Nat}{xs ys:Array Value}:∀(τ:Ty)(fs:List Field)(off:Nat),a0g P τ (.inr (fs,off))=true→e0l τ fs=true→∀{x y R o},dec m τ (fun j=>xs[off+j]?)=some (x,[],R)→dec m τ (fun j=>ys[off+j]?)=some (y,[],o)→
  (Op.eqFields (d+1) xs ys fs).run P w=.ok (eqT τ x y) w:=by
 have c:∀(a b:Ty)(off:Nat)(q:Array Value)(x:(Ty.pair a b).den) R,dec m (.pair a b) (fun j=>q[off+j]?)=some (x,[],R)→
   ∃R1 R2,dec m a (fun j=>q[off+j]?)=some (x.1,[],R1)∧dec m b (fun j=>q[off+a.cells+j]?)=some (x.2,[],R2):=by
  intro a b off q x R h;simp[dec]at h
  split at h
  grind
  rename_i L o1 K g
  split at h
  grind
  rename_i M o2 r2 E;obtain⟨D,h⟩:=Prod.mk.inj (Option.some.inj h);subst D;obtain⟨p,-⟩:=Prod.mk.inj (Prod.mk.inj (Option.some.inj h)).2;obtain⟨rfl,rfl⟩:=List.append_eq_nil_iff.1 p
  grind
 intro τ
 induction τ with
 |pair a b iha ihb=>
  intro fs off n l x y R o A B;cases fs with
  |nil=>simp[a0g]at n
  |cons f r=>
   simp[a0g]at n;obtain⟨⟨⟨p,i⟩,-⟩,htb⟩:=n;obtain⟨R1,R2,g,E⟩:=c a b off xs x R A;obtain⟨G,H,e,I⟩:=c a b off ys y o B;cases a with
   |int k=>
    simp[e0l]at l;simp[dec]at g e
    split at g
    rename_i J n1 v
    split at e
    rename_i C n2 z;rw[Option.ite_none_right_eq_some]at g e;obtain⟨rfl,g⟩:=g;obtain⟨rfl,e⟩:=e;have g:=Prod.mk.inj (Option.some.inj g);have e:=Prod.mk.inj (Option.some.inj e);have s:=e0q (w:=w) i rfl v;have t:=e0q (w:=w) i rfl z;have u:=run_equalIn_int (P:=P) w d f.type C C n1 n2 (g0u i);simp only[Op.eqFields,Sem.run_ite,ne_eq,l.1,not_false_eq_true,if_true,Sem.run_bind,p,s,t,u,Result.andThen_ok,eqT];rw[←g.1,←e.1];cases hb:n1==n2
    simp
    grind
    simp_all;simp_all
   |bool=>
    simp[e0l]at l;simp[dec]at g e;have F:P.underlying f.type=some .bool:=by
     simp[a0g]at i
     grind
    split at g
    rename_i n1 v
    split at e
    rename_i n2 z;have g:=Prod.mk.inj (Option.some.inj g);have e:=Prod.mk.inj (Option.some.inj e);have s:=e0q (w:=w) i rfl v;have t:=e0q (w:=w) i rfl z;have u:=run_equalIn_bool (P:=P) w d f.type n1 n2 F;simp only[Op.eqFields,Sem.run_ite,ne_eq,l.1,not_false_eq_true,if_true,Sem.run_bind,p,s,t,u,Result.andThen_ok,eqT];rw[←g.1,←e.1];cases hb:n1==n2
    simp
    grind
    simp_all;simp_all
   |_=>simp[e0l]at l
 |unit=>
  intro fs off n l x y R o A B;cases fs with
  |nil=>rfl
  |cons f r=>simp[e0l]at l
 |_=>intro fs off n l;simp[e0l]at l
theorem n0y.of{τ:Ty}{t:TypeId}(k:a0g P τ (.inl t)=true)(h:y0p P τ t=true):n0y P τ t:=by
 simp[y0p]at h;obtain⟨p,o,hp⟩:=h;intro m Sh x y u v w q r i hv
 split at hp
 ·rename_i fs f;have e:P.fieldsOf t=fs:=by simp_all[Program.fieldsOf]
  have g:τ.isAgg=true:=by cases τ<;>first|rfl|(simp[e0l]at hp)
  obtain⟨c,-,R,j,-⟩:=i;obtain⟨d,-,n,l,-⟩:=hv;obtain⟨xs,rfl,-⟩:=c g;obtain⟨ys,rfl,-⟩:=d g;have hty:a0g P τ (.inr (fs.toList,0))=true:=by
   cases τ with
   |pair a b=>
    simp[a0g,f]at k;obtain⟨-,k⟩:=k
    split at k
    all_goals simp_all[a0g]
   |unit=>
    simp_all[a0g]
   |_=>simp[e0l]at hp
  have key:(Op.equalIn 10000 t (.agg xs) (.agg ys)).run P w=.ok (eqT τ x y) w:=by
   grind[run_equalIn_struct,s0g,Value.cells]
  simp_all[run_eqGuard_agg,run_eql_struct,run_neq_struct]
 simp_all
def v0o(P:Program)(τ:Ty)(t:TypeId):Bool:=
 !P.eqGuardType P.depth t&&(match τ,P.underlying t with
  |.arr n (.int k),some (.array n' e)=>n'==n&&(P.cellsOf e==1&&((P.info? e).isSome&&a0g P (.int k) (.inl e)))
  |_,_=>false)
theorem n0n{d e:Nat}{k:IntKind}(g:a0g P (.int k) (.inl e)=true){xs ys:Array Value}{x y:List Int}(b:∀i (h:i<x.length),xs[i]?=some (.int k x[i]))(c:∀i (h:i<y.length),ys[i]?=some (.int k y[i])):
  ∀(is:List Nat),(∀i∈is,i<x.length∧i<y.length)→(Op.eqItems (d+1) e 1 xs ys is).run P w=.ok (is.all fun i=>x[i]?==y[i]?) w
 | [],_=>by rfl
 |i::is,h=>by
  obtain⟨f,a⟩:=h i (by simp);have l:=e0q (w:=w) g rfl (show xs[i*1]?=_ by rw[Nat.mul_one];exact b i f);have m:=e0q (w:=w) g rfl (show ys[i*1]?=_ by rw[Nat.mul_one];exact c i a);have n:=run_equalIn_int (P:=P) w d e k k x[i] y[i] (g0u g);have r:=n0n (d:=d) g b c is (fun j q=>h j (by grind));simp only[Op.eqItems,Sem.run_bind,l,m,n,Result.andThen_ok];have o:x[i]?=some x[i]:=lG f;have p:y[i]?=some y[i]:=lG a;cases hb:x[i]==y[i]
  all_goals simp_all
theorem u0q:∀(x y:List Int),x.length=y.length→((a22 x.length).all fun i=>x[i]?==y[i]?)=((a44 (fun(a b:Int)=>a==b) x y).all id)
 | [],[],_=>rfl
 |a::x,b::y,h=>by
  have g:=u0q x y (by simpa using h);rw[lC,List.range_succ_eq_map,a14,List.all_map,List.zipWith_cons_cons,a14,←g];simp[Function.comp_def]
theorem n0y.ofArr{τ:Ty}{t:TypeId}(h:v0o P τ t=true):n0y P τ t:=by
 simp[v0o]at h;obtain⟨U,h⟩:=h
 split at h
 rotate_left
 grind
 rename_i n k f e l;simp at h;obtain⟨rfl,K,hi,L⟩:=h;obtain⟨i,hi⟩:=a00.1 hi;intro m Sh x y u v w W X M hv;obtain⟨q,-,R,s,-⟩:=M;obtain⟨C,-,T,D,-⟩:=hv;obtain⟨xs,rfl,-⟩:=q rfl;obtain⟨ys,rfl,-⟩:=C rfl;have g:∀{G:Array Value}{z:List Int}{R},dec m (.arr f (.int k)) (fun j=>(Value.agg G).cells[j]?)=some (z,[],R)→z.length=f∧∀i (h:i<z.length),G[i]?=some (.int k z[i]):=by
  intro G z R F;simp only[dec]at F;have H:z.length=f:=a0v f 0 F;refine⟨H,fun i c=>?_⟩;obtain⟨a,o,r,A,B,S,B',J,p,-⟩:=a0u f 0 i F (H▸c);have p:z[i]?=some (show Int from a):=p;have p:z[i]=(show Int from a):=Option.some.inj ((lG c).symm.trans p);simp[Ty.cells,Value.cells]at J
  grind
 obtain⟨E,N⟩:=g s;obtain⟨Q,O⟩:=g D;have key:(Op.equalIn 10000 t (.agg xs) (.agg ys)).run P w=.ok (eqT (.arr f (.int k)) x y) w:=by
  rw[run_equalIn_array w 9999 xs ys l hi,K,n0n (d:=9998) L N O _ (fun j V=>by simp_all)]
  have:=u0q x y (by omega)
  rw[E]at this;rw[this];have I:(a08 (show List Int from x)==a08 (show List Int from y))=true:=by simp_all
  show _=Result.ok ((a44 (fun(a b:Int)=>a==b) x y).all id&&(a08 (show List Int from x)==a08 (show List Int from y))) w;simp_all
 simp_all[run_eqGuard_agg,run_eql_struct,run_neq_struct]
theorem m0i{α:Type}:∀(l:List (Nat×α)) (t:Nat) (x:α),find l t=some x→(t,x)∈l
 | [],_,_,h=>by simp[find]at h
 |(k,y)::r,t,x,h=>by
  simp only[find]at h;rcases a0b h with⟨f,g⟩|⟨-,h⟩;simp only[sj]at g
  have:k=t:=by simpa using f
  rw[this,g];exact a11 ..;exact a03 _ (m0i r t x h)
def B0d(P:Program)(tab:List (Nat×Ty)):Bool:=tab.all fun p=>decide (p.2.sh=p.2)&&a0g P p.2 (.inl p.1)
def B0b(P:Program)(l:List Nat):Bool:=l.all fun t=>match P.underlying t with|some (.pointer _)=>true|_=>false
def A0y(P:Program)(tab:List (Nat×Ty))(l:List Nat):Bool:=l.all fun t=>match find tab t with|some τ=>!τ.isAgg || (y0p P τ t || v0o P τ t)|none=>true
theorem CxTy.of{tab:List (Nat×Ty)}{l q:List Nat}(g:∀t,cx.T t=find tab t)(b:∀t,cx.E t=l.contains t)(c:∀t,cx.Q t=q.contains t)(f:B0d P tab=true)(k:B0b P q=true)(a:A0y P tab l=true):CxTy P cx:=by
 have ok:∀t τ,cx.T t=some τ→τ.sh=τ∧a0g P τ (.inl t)=true:=fun t τ h=>by
  rw[g]at h
  have:=lA.1 f _ (m0i _ _ _ h)
  simp_all
 refine⟨ok,fun t d=>?_,fun t τ he hτ ha=>?_⟩;rw[c]at d
 have:=lA.1 k t (by simp_all)
 grind
 rw[b]at he
 have:=lA.1 a t (by simp_all)
 rw[←g,hτ]at this;simp[ha]at this;exact this.elim (n0y.of (ok t τ hτ).2) n0y.ofArr
theorem CxOk.of{fs:List (Nat×FSem)}(h:CxTy P cx)(k:∀f,cx.C f=find fs f)(hf:∀p∈fs,FOk P cx.G p.1 p.2):CxOk P cx:=
 ⟨h,fun f s g=>by
  rw[k]at g;exact hf _ (m0i _ _ _ g)⟩
theorem a0{α:Type}{p:α→Prop}:∀x∈([]:List α),p x:=fun _ h=>by grind
theorem w0o{G:h0c}{a:Nat×FSem}{l:List (Nat×FSem)}(h:FOk P G a.1 a.2)(f:∀x∈l,FOk P G x.1 x.2):∀x∈a::l,FOk P G x.1 x.2:=fun x g=>by
 rcases mC.1 g with rfl|g;exact h;exact f x g
theorem a1{G:h0c}{a:Nat×FSem}{l:List (Nat×FSem)}(h:i0y P G a.1 a.2∧l0x P a.1)(g:∀x∈l,FOk P G x.1 x.2):∀x∈a::l,FOk P G x.1 x.2:=w0o (.inl h) g
theorem B0g{G:h0c}{a:Nat×FSem}{l:List (Nat×FSem)}(h:A0f P G a.1 a.2)(g:∀x∈l,FOk P G x.1 x.2):∀x∈a::l,FOk P G x.1 x.2:=w0o (.inr h) g
end
def w0u{α:Type}(x:List α):Option (List α):=bif List.isEmpty x then l0e (some ([]:List α)) (bif lim (0+a08 x)then some (a35 [] x)else none)else(bif lim (0+a08 x)then some (a35 [] x)else none)
def x0e{α:Type}(x:List α):Option (List α):=bif lim (0+a08 x)then some x else none
theorem A0x{α:Type}(x:List α):w0u x=x0e x:=by
 unfold w0u x0e;cases x with
 |nil=>exact u0w _
 |cons a x=>rfl
section
variable {α:Type} {f f':Nat→Option (α×a0z×List Nat)}
theorem j0d:∀(n i:Nat){x},(∀j y,f j=some y→f' j=some y)→a0d f n i=some x→a0d f' n i=some x
 |0,_,_,_,h=>h
 |n+1,i,x,hf,h=>by
  simp only[a0d]at h⊢
  split at h
  cases h;rename_i c o1 a g;rw[hf _ _ g];simp only[]
  split at h
  cases h;rename_i xs os b k;rw[j0d n (i+1) hf k];exact h
end
theorem f0h{m m':Mem}(g:∀b j v,m b j=some v→m' b j=some v):∀(t:Ty){rd rd':Nat→Option Value}{x},(∀j v,rd j=some v→rd' j=some v)→dec m t rd=some x→dec m' t rd'=some x
 |.int k,rd,rd',x,hr,h=>by
  grind[dec]
 |.bool,rd,rd',x,hr,h=>by
  grind[dec]
 |.str,rd,rd',x,hr,h=>by
  grind[dec]
 |.unit,rd,rd',x,hr,h=>h
 |.pair a b,rd,rd',x,hr,h=>by
  simp only[dec]at h⊢
  split at h
  cases h;rename_i s o1 q d;rw[f0h g a hr d];simp only[]
  split at h
  cases h;rename_i u o2 r2 e;rw[f0h g b (fun j v=>hr _ v) e];exact h
 |.arr n t,rd,rd',x,hr,h=>by
  simp only[dec]at h⊢;exact j0d n 0 (fun j y f=>f0h g t (fun i v=>hr _ v) f) h
 |.list o t,rd,rd',x,hr,h=>by
  simp[dec]at h⊢;unfold a0x at h⊢
  split at h
  simp_all;rename_i a n c hv;rw[hr _ _ hv]
  simp
  split at h
  rename_i p;rw[if_pos p]
  split at h
  grind
  rename_i xs os r l;rw[j0d n 0 (fun j y f=>f0h g t (fun i v hv=>g _ _ _ hv) f) l];omega;simp_all;simp_all
 |.nl t,rd,rd',x,hr,h=>by
  grind[dec]
theorem Src.rd_grow{m m':Mem}(g:∀b j v,m b j=some v→m' b j=some v)(s:Src):∀j v,s.rd m j=some v→s.rd m' j=some v:=by
 intro j v h;cases s with
 |one u=>exact h
 |_=>exact g _ _ _ h
theorem f0m{m m':Mem}(f:∀b j v,m b j=some v→m' b j=some v):∀(p:a0n)(t:Ty)(s:Src){x},a0t m p t s=some x→a0t m' p t s=some x
 | [],t,s,x,h=>h
 |.fst::p,t,s,x,h=>by
  unfold a0t at h⊢
  split at h
  exact f0m f p _ _ h;cases h
 |.snd::p,t,s,x,h=>by
  unfold a0t at h⊢
  split at h
  exact f0m f p _ _ h;cases h
 |.idx i::p,t,s,x,h=>by
  unfold a0t at h⊢
  split at h
  rename_i n k bl o
  split at h
  rename_i g;simp[if_pos g];exact f0m f p _ _ h;simp_all;rename_i k s'
  split at h
  rename_i a n c hv
  split at h
  rename_i g;simp[Src.rd_grow f s _ _ hv,if_pos g];exact f0m f p _ _ h;simp_all;simp_all;omega
structure Turns (B:Base) (w w':World):Prop where
 cells:∀(c:Nat)(o:Obj),w.heap[c]?=some o→o.isCells=true→w'.heap[c]?=some o
 size:w.heap.size≤w'.heap.size
 frame:∀b,b<B.size→w'.heap[b]?=w.heap[b]?
 io:b0x w'=b0x w
theorem r0c{w w':World}(h:∀(c:Nat)(o:Obj),w.heap[c]?=some o→o.isCells=true→w'.heap[c]?=some o)(g:Option (Nat×Nat×Value)):∀b j v,a0a w g b j=some v→a0a w' g b j=some v:=by
 have f:∀b j v,w.cell? ⟨b,j,none⟩=some v→w'.cell? ⟨b,j,none⟩=some v:=fun b j v hv=>by
  grind[cells_of_cell,World.cell?]
 intro b j v hv;cases g with
 |none=>exact f b j v hv
 |some y=>
  obtain⟨k,a,u⟩:=y;simp[a0a]at hv⊢
  grind
theorem Rel.turnedG{B:Base}{Γ:AE}{N:Nat}{tm:Nat→Value}{w w':World}{σ:Gh}(h:Rel B Γ N tm w σ)(f:∀(c:Nat)(o:Obj),w.heap[c]?=some o→o.isCells=true→w'.heap[c]?=some o)
  (y:w.heap.size≤w'.heap.size):Rel { B with hp:=fun b=>w'.heap[b]?,io:=b0x w' } Γ N tm w' σ:=by
 have u:=r0c f σ.ov;have z:∀c,Shr B w σ c→Shr { B with hp:=fun b=>w'.heap[b]?,io:=b0x w' } w' σ c:=fun c A=>⟨a05 A.1 y,A.2⟩;have E:∀a v,a0e (a0a w σ.ov) σ.g Γ.rt (Shr B w σ) a v→a0e (a0a w' σ.ov) σ.g Γ.rt (Shr { B with hp:=fun b=>w'.heap[b]?,io:=b0x w' } w' σ) a v:=fun a v C=>by
  cases a with
  |val t x=>
   obtain⟨j,m,R,q,D⟩:=C;exact⟨j,m,R,f0h u t (fun _ _ hv=>hv) q,fun c A=>z c (D c A)⟩
  |vptr t x=>
   obtain⟨b,o,R,j,m,q,D⟩:=C;exact⟨b,o,R,j,f0h u t (Src.rd_grow u _) m,z b q,fun c A=>z c (D c A)⟩
  |ptr n p=>
   obtain⟨r,t,b,o,j,m,q⟩:=C;exact⟨r,t,b,o,j,f0m u p _ _ m,q⟩
  |sref n p=>
   obtain⟨r,e,s,j,m,q⟩:=C;exact⟨r,e,s,j,f0m u p _ _ m,Src.rd_grow u s _ _ q⟩
  |swin n p off len=>
   obtain⟨r,e,s,a,l,c,j,m,q,D⟩:=C;exact⟨r,e,s,a,l,c,j,f0m u p _ _ m,Src.rd_grow u s _ _ q,D⟩
  |_=>exact C
 refine⟨fun n r F=>?_,h.norm,h.nodup,h.disj,fun n p hp=>?_,fun i hi=>?_,?_,a10 h.size y,fun b _ _=>rfl,h.mine,h.pins,rfl⟩;obtain⟨H,R,I,J,K⟩:=(h.roots n r F).rd;exact⟨H,R,f0h u _ (Src.rd_grow u _) I,fun c A=>z c (J c A),K⟩;obtain⟨c,e,lo,hi,j,m,q⟩:=h.live n p hp;exact⟨c,e,lo,hi,f _ _ j rfl,m,q⟩
 ·have G:=h.slots i hi
  revert G
  cases Γ.sl i with
  |one a=>exact fun G=>E a _ G
  |cmp c as=>
   rintro⟨O,j,m⟩
   exact⟨O,j,fun k a P=>by
    grind⟩
 exact h.pend.mono fun n p d r e b o M F L=>⟨r,F,f0m u p _ _ L⟩
theorem Rel.turned{B:Base}{Γ:AE}{N:Nat}{tm:Nat→Value}{w w':World}{σ:Gh}(h:Rel B Γ N tm w σ)(f:Turns B w w'):Rel B Γ N tm w' σ:=by
 have g:=h.turnedG f.cells f.size;exact⟨g.roots,g.norm,g.nodup,g.disj,g.live,g.slots,g.pend,g.size,fun b k a=>(f.frame b k).trans (h.frame b k a),g.mine,g.pins,f.io.trans h.still⟩
def Base.anew(B:Base)(w:World)(σ:Gh):Base where
 size:=w.heap.size
 hp:=fun b=>w.heap[b]?
 F:=a0r σ
 S:=fun c=>(B.S c∨B.F c∨B.size≤c)∧¬ a0r σ c
 pin:=fun i=>match B.pin i with
  |some b=>some b
  |none=>some (σ.g (pinned+i))
 io:=b0x w
theorem y0w{B:Base}{w:World}{σ:Gh}{c:Nat}:Shr (B.anew w σ) w σ c↔Shr B w σ c:=by
 constructor
 rintro⟨f,h,g⟩
 refine⟨f,?_,g⟩;rcases h with h|h|h;exact h.1;exact absurd h g;have h:w.heap.size≤c:=h;omega
 rintro⟨f,h,g⟩
 exact⟨f,.inl ⟨h,g⟩,g⟩
theorem Rel.anew{B:Base}{Γ:AE}{N:Nat}{tm:Nat→Value}{w:World}{σ:Gh}(h:Rel B Γ N tm w σ):Rel (B.anew w σ) Γ N tm w σ:=by
 have e:Shr (B.anew w σ) w σ=Shr B w σ:=funext fun c=>propext y0w;refine⟨fun n r d=>by rw[e];exact h.roots n r d,h.norm,h.nodup,h.disj,h.live,fun i hi=>by rw[e];exact h.slots i hi,h.pend,a18 _,fun b _ _=>rfl,fun c a=>.inl a,fun i b g k=>?_,rfl⟩;simp[Base.anew]at g
 split at g
 rename_i j f;cases g;exact h.pins i b f k;simp_all
theorem s0z{B:Base}{Γ0:AE}{N0:Nat}{tm0:Nat→Value}{w w':World}{σ σ':Gh}(g:Rel B Γ0 N0 tm0 w σ){f:Nat→Option Src}{c:Nat}(b:Shr { B.anew w σ with pin:=f } w' σ' c):Shr B w' σ' c:=by
 obtain⟨k,h,a⟩:=b;refine⟨k,?_,a⟩;rcases h with h|h|h;exact h.1;exact .inr (g.mine c h);have h:w.heap.size≤c:=h;exact .inr (.inr (a10 g.size h))
theorem Rel.backP{B:Base}{Γ0 Γ:AE}{N0 N:Nat}{tm0 tm:Nat→Value}{w w':World}{σ σ':Gh}{f:Nat→Option Src}(hf:∀i b,B.pin i=some b→f i=some b)(d:Rel B Γ0 N0 tm0 w σ)(h:Rel { B.anew w σ with pin:=f } Γ N tm w' σ'):Rel B Γ N tm w' σ':=by
 have j:∀c,Shr { B.anew w σ with pin:=f } w' σ' c→Shr B w' σ' c:=fun c e=>s0z d e;have m:∀a v,a0e (a0a w' σ'.ov) σ'.g Γ.rt (Shr { B.anew w σ with pin:=f } w' σ') a v→a0e (a0a w' σ'.ov) σ'.g Γ.rt (Shr B w' σ') a v:=fun a v G=>
  G.frame (fun _ _ _=>rfl) j fun n p r t s _ x H=>⟨r,x,H,fun _ _ J=>J⟩
 refine⟨fun n r x=>?_,h.norm,h.nodup,h.disj,h.live,fun i hi=>?_,h.pend,a10 d.size h.size,fun b l F=>?_,fun c e=>?_,fun i b l q=>h.pins i b (hf i b l) q,h.still.trans d.still⟩;obtain⟨z,R,A,C,D⟩:=(h.roots n r x).rd;exact⟨z,R,A,fun c e=>j c (C c e),D⟩
 ·have y:=h.slots i hi
  revert y
  cases Γ.sl i with
  |one a=>exact fun y=>m a _ y
  |cmp c as=>
   rintro⟨K,E,L⟩
   exact⟨K,E,fun k a M=>by
    grind⟩
 ·have o:b<w.heap.size:=a05 l d.size;have u:¬ a0r σ b:=fun I=>by
   rcases d.mine b I with g|g
   all_goals grind
  exact(h.frame b o u).trans (d.frame b l F)
 rcases h.mine c e with g|g;exact d.mine c g;have g:w.heap.size≤c:=g;exact .inr (a10 d.size g)
theorem Rel.back{B:Base}{Γ0 Γ:AE}{N0 N:Nat}{tm0 tm:Nat→Value}{w w':World}{σ σ':Gh}(g:Rel B Γ0 N0 tm0 w σ)(h:Rel (B.anew w σ) Γ N tm w' σ'):Rel B Γ N tm w' σ':=
 g.backP (f:=(B.anew w σ).pin) (fun i b k=>by simp_all[Base.anew]) h
theorem Rel.unpin{B:Base}{Γ:AE}{N:Nat}{tm:Nat→Value}{w:World}{σ:Gh}(h:Rel B Γ N tm w σ)(f:Nat→Option Src)(hf:∀i b,f i=some b→B.pin i=some b):Rel { B with pin:=f } Γ N tm w σ:=
 ⟨h.roots,h.norm,h.nodup,h.disj,h.live,h.slots,h.pend,h.size,h.frame,h.mine,fun i b k g=>h.pins i b (hf i b k) g,h.still⟩
def AE.renAll{ρ:Type}(Γ:AE):List Nat→(AE→Rs ρ)→Rs ρ
 | [],K=>K Γ
 |n::ns,K=>match Γ.look n,Γ.rt (pinned+1000+n)with
  |some r,none=>AE.renAll (((Γ.mapv (AV.ren n (pinned+1000+n))).setRt n none).setRt (pinned+1000+n) (some r)) ns K
  |_,_=>none
theorem Rel.renAll{ρ:Type}{B:Base}{N:Nat}{tm:Nat→Value}{w:World}(f:∀i b,1000≤i→B.pin i≠some b):∀(ns:List Nat){Γ:AE}{σ:Gh}{K:AE→Rs ρ}{z:ρ}(_:Rel B Γ N tm w σ)(_:Γ.renAll ns K=some z),∃Γ' σ',K Γ'=some z∧Rel B Γ' N tm w σ'
 | [],Γ,σ,K,z,h,hz=>⟨Γ,σ,hz,h⟩
 |n::ns,Γ,σ,K,z,h,hz=>by
  simp only[AE.renAll]at hz
  split at hz
  rename_i r k a;obtain⟨g,c⟩:=a0o k;exact Rel.renAll f ns (h.rename c a (fun i b e=>f i b (by omega)) (by simp[g])) hz;cases hz
def b0b:a0c→Bool
 | []=>true
 |.sv _ _::r=>b0b r
 |.box n _::r=>(decide (pinned≤n)&&!(a0c.names r).contains n)&&b0b r
 |.own _ n _::r=>(decide (pinned≤n)&&!(a0c.names r).contains n)&&b0b r
 |.ptr _ n []::r=>decide (pinned≤n)&&b0b r
 |_=>false
def s0j:SV→Prop
 |.one .dead=>True
 |.one (.val _ _)=>True
 |.one (.ptr n [])|.one (.sref n [])=>pinned≤n
 |_=>False
theorem i0u:∀(es:a0c)(x:es.ty.den)(_:b0b es=true)(i:Nat),s0j ((es.enc x).sl i)
 | [],_,_,i=>trivial
 |.sv k t::r,x,h,i=>by
  simp only[a0c.enc,c0f];split;trivial;exact i0u r x.2 (by simpa[b0b]using h) i
 |.box n t::r,x,h,i=>by
  simp only[b0b,bA]at h;exact i0u r x.2 h.2 i
 |.own k n e::r,x,h,i=>by
  simp only[b0b,bA,dT]at h;show s0j ((((a0c.enc r x.2).setRt n (some ⟨false,.list true e,x.1⟩)).set k (.sref n [])).sl i);rw[c0f];split;exact h.1.1;exact i0u r x.2 h.2 i
 |.ptr k n p::r,x,h,i=>by
  cases p with
  |cons=>simp[b0b]at h
  |nil=>
   simp[b0b]at h;simp[a0c.enc,c0f];split;exact h.1;exact i0u r x h.2 i
 |.vp _ _::_,_,h,_|.ref _ _ _::_,_,h,_|.rfi _ _::_,_,h,_|.win _ _ _::_,_,h,_|.clo _ _ _::_,_,h,_=>by simp[b0b]at h
theorem d0s:∀(es:a0c)(x:es.ty.den),(es.enc x).pd=none
 | [],_=>rfl
 |.sv _ _::r,x=>d0s r x.2
 |.box _ _::r,x=>d0s r x.2
 |.ptr _ _ _::r,x=>d0s r x
 |.own _ _ _::r,x=>d0s r x.2
 |.vp _ _::r,x=>d0s r x.2
 |.ref _ _ _::r,x=>d0s r x
 |.rfi _ _::r,x=>d0s r x.2
 |.win _ _ _::r,x=>d0s r x.2.2
 |.clo _ _ _::r,x=>d0s r x
theorem k0y:∀(es:a0c)(x:es.ty.den)(_:b0b es=true)(n:Nat),(es.enc x).rt n≠none→n∈es.names
 | [],_,_,n,h=>absurd rfl h
 |.sv k t::r,x,h,n,g=>k0y r x.2 (by simpa[b0b]using h) n g
 |.box m t::r,x,h,n,g=>by
  simp only[b0b,bA]at h;simp only[a0c.enc,h0v]at g
  split at g
  rename_i e;subst e;simp[a0c.names];simp only[a0c.names,mC];exact .inr (k0y r x.2 h.2 n g)
 |.own k m e::r,x,h,n,g=>by
  simp only[b0b,bA]at h;have g:((a0c.enc r x.2).setRt m (some ⟨false,.list true e,x.1⟩)).rt n≠none:=g;rw[h0v]at g
  split at g
  rename_i e;subst e;simp[a0c.names];simp only[a0c.names,mC];exact .inr (k0y r x.2 h.2 n g)
 |.ptr k m p::r,x,h,n,g=>by
  cases p with
  |cons=>simp[b0b]at h
  |nil=>
   simp[b0b]at h;exact k0y r x h.2 n g
 |.vp _ _::_,_,h,_,_|.ref _ _ _::_,_,h,_,_|.rfi _ _::_,_,h,_,_|.win _ _ _::_,_,h,_,_|.clo _ _ _::_,_,h,_,_=>by simp[b0b]at h
theorem h0o:∀(es:a0c)(x:es.ty.den)(_:b0b es=true){i n:Nat}(_:(es.enc x).sl i=.one (.sref n [])),n∈es.names∧∃e l,(es.enc x).rt n=some ⟨false,.list true e,l⟩
 | [],_,_,i,n,h=>by cases h
 |.sv k t::r,x,h,i,n,f=>by
  have f:((a0c.enc r x.2).set k (.val t x.1)).sl i=.one (.sref n []):=f;rw[c0f]at f
  split at f
  cases f;exact h0o r x.2 (by simpa[b0b]using h) f
 |.box m t::r,x,h,i,n,f=>by
  simp only[b0b,bA,a50,a40,decide_eq_false_iff_not]at h;obtain⟨a,e,l,c⟩:=h0o r x.2 h.2 (i:=i) (n:=n) f;refine⟨by simp[a0c.names,a],e,l,?_⟩;show((a0c.enc r x.2).setRt m _).rt n=_;rw[h0v,if_neg (show ¬ n=m from fun g=>h.1.2 (g▸a))];omega
 |.own k m e::r,x,h,i,n,f=>by
  simp only[b0b,bA,a50,a40,decide_eq_false_iff_not]at h;have f:(((a0c.enc r x.2).setRt m (some ⟨false,.list true e,x.1⟩)).set k (.sref m [])).sl i=.one (.sref n []):=f;show n∈_∧∃b l,((a0c.enc r x.2).setRt m (some ⟨false,.list true e,x.1⟩)).rt n=some ⟨false,.list true b,l⟩;rw[c0f]at f;rw[h0v]
  split at f
  cases f;exact⟨by simp[a0c.names],e,x.1,by simp⟩;obtain⟨a,b,l,c⟩:=h0o r x.2 h.2 (i:=i) (n:=n) f;exact⟨by simp[a0c.names,a],b,l,by grind⟩
 |.ptr k m p::r,x,h,i,n,f=>by
  cases p with
  |cons=>simp[b0b]at h
  |nil=>
   simp only[b0b,bA]at h;have f:((a0c.enc r x).set k (.ptr m [])).sl i=.one (.sref n []):=f;rw[c0f]at f
   split at f
   grind
   exact h0o r x h.2 f
 |.vp _ _::_,_,h,_,_,_|.ref _ _ _::_,_,h,_,_,_|.rfi _ _::_,_,h,_,_,_|.win _ _ _::_,_,h,_,_,_|.clo _ _ _::_,_,h,_,_,_=>by simp[b0b]at h
section
variable {B:Base} {N:Nat} {w w':World} {σ σ':Gh} {Γ:AE}
theorem Rel.kept{tm':Nat→Value}{Γ':AE}(h:Rel (B.anew w σ) Γ' N tm' w' σ'){c:Nat}(f:Shr B w σ c):w'.heap[c]?=w.heap[c]?∧Shr (B.anew w σ) w' σ' c:=by
 have k:c<(B.anew w σ).size:=f.1;have a:¬ (B.anew w σ).F c:=f.2.2;refine⟨h.frame c k a,a05 f.1 h.size,.inl f.2,fun b=>?_⟩;rcases h.mine c b with g|g
 all_goals grind
theorem VOk.kept{tm':Nat→Value}{Γ':AE}(h:Rel (B.anew w σ) Γ' N tm' w' σ')(k:σ.ov=none)(g:σ'.ov=none){t:Ty}{x:t.den}{v:Value}(hv:VOk (a0a w σ.ov) (Shr B w σ) t x v):
  VOk (a0a w' σ'.ov) (Shr (B.anew w σ) w' σ') t x v:=
 hv.frame (fun c j f=>by rw[k,g];exact b0g none (h.kept f).1 j) fun c f=>(h.kept f).2
theorem Rel.again{tm tm':Nat→Value}{Γ':AE}(C:Rel B Γ N tm w σ)(q:∀i,i<N→s0j (Γ.sl i))(G:Γ.pd=none)(h:Rel (B.anew w σ) Γ' N tm' w' σ')(z:Γ'.pd=none)
  (j:∀i n,i<N→Γ.sl i=.one (.ptr n [])∨Γ.sl i=.one (.sref n [])→Γ'.rt n≠none)(v:∀i n,i<N→Γ.sl i=.one (.sref n [])→∃u,σ.g n=.one u):Rel (B.anew w σ) { Γ' with sl:=Γ.sl } N tm w' σ'∧∀i n,i<N→Γ.sl i=.one (.sref n [])→∃u,σ'.g n=.one u:=by
 have F:=C.ov_none G;have y:=h.ov_none z;have k:∀n,pinned≤n→Γ.rt n≠none→Γ'.rt n≠none→σ'.g n=σ.g n:=fun n hf D l=>by
  obtain⟨i,rfl⟩:∃i,n=pinned+i:=⟨n-pinned,by omega⟩;refine h.pins i _ ?_ l;simp[Base.anew];cases hp:B.pin i with
  |none=>rfl
  |some b'=>rw[C.pins i b' hp D]
 refine⟨⟨h.roots,h.norm,h.nodup,h.disj,h.live,fun i hi=>?_,h.pend,h.size,h.frame,h.mine,h.pins,h.still⟩,fun i n hi d=>?_⟩;rotate_left;have hf:=q i hi;have I:=C.slots i hi;rw[d]at hf I;obtain⟨r,e,s,D,-⟩:=I;rw[k n hf (by simp_all) (j i n hi (.inr d))]
 grind
 have d:=C.slots i hi;have hf:=q i hi;have j:=j i;have v:=v i;show g0l _ _ Γ'.rt _ (Γ.sl i) _
 revert d hf j v
 cases Γ.sl i with
 |cmp c vs=>intro _ hf;exact hf.elim
 |one a=>
  cases a with
  |dead=>intro _ _ _ _;trivial
  |val t x=>intro d _ _ _;exact VOk.kept h F y d
  |ptr n p=>
   cases p with
   |cons=>intro _ hf;exact hf.elim
   |nil=>
    intro d hf j _;obtain⟨r,t,b,o,D,l,E⟩:=d;have f:=j n hi (.inl rfl);have H:=k n hf (by simp_all) f;obtain⟨m,f⟩:=a30.1 f;simp[a0t]at l;refine⟨m,m.t,b,o,f,?_,E⟩;show some (m.t,σ'.g n)=_;simp_all
  |sref n p=>
   cases p with
   |cons=>intro _ hf;exact hf.elim
   |nil=>
    intro d hf j v;obtain⟨u0,A⟩:=v n hi rfl;obtain⟨r,J,s0,D,l,E⟩:=d;have f:=j n hi (.inr rfl);have H:=k n hf (by simp_all) f;simp[a0t]at l;rw[←l.2,A]at E;rw[A]at H;obtain⟨m,f⟩:=a30.1 f;rcases h.src_of f with⟨-,b,g⟩|⟨-,u,e,g,K⟩;simp_all;refine⟨m,e,.one u0,f,?_,E⟩;show some (m.t,σ'.g n)=_;simp_all
  |_=>intro _ hf;exact hf.elim
end
def w0s{ρ:Type}(s:a0c)(x:s.ty.den)(Γ:AE)(K:s.ty.den→Rs ρ):Rs ρ:=match Γ.pd with
 |none=>bif s.names.all (fun n=>(Γ.rt n).isSome)then s.dcd { Γ with sl:=(s.enc x).sl } K else none
 |some _=>none
def l0f{α S R:Type}(f:Int→α→S→Option (S ⊕ R))(l:List α):Nat→S→Option (S ⊕ R)
 |0,s=>some (.inl s)
 |n+1,s=>match l[n]? with
  |none=>none
  |some v=>match f n v s with
   |none=>none
   |some (.inl s')=>l0f f l n s'
   |some (.inr r)=>some (.inr r)
def rnd(cx:Cx)(H:Hints)(p:Nat)(s:a0c)(i1 i2:Nat)(assign body:Code)(e:Ty)(k:Int)(v:e.den)(x:s.ty.den):Option (s.ty.den ⊕ (Ex×s.ty.den)):=
 c0n cx H assign (2*p) (((s.enc x).set i1 (.val (.int .i64) k)).set i2 (.val e v)) fun ex Γ=>match ex with
  |.normal=>match Γ.pd with
   |none=>bif s.names.all (fun n=>(Γ.rt n).isSome)then
     c0n cx H body (2*p+1) Γ fun ex Γ'=>w0s s x Γ' fun x'=>match ex with
      |.normal=>some (.inl x')
      |ex=>some (.inr (ex,x'))
    else none
   |some _=>none
  |_=>none
structure HintR where
 t:Nat
 e:Ty
 mkr:Nat
 it:Nat
 ns:List Nat
 s:a0c
structure RParts where
 ops:Array Oper
 b:Nat
 g:Nat
 i1:Nat
 i2:Nat
 assign:Code
 body:Code
def k0s:Code→Code→Option RParts
 |.region _ ops false,.block b (.rangeFunc (.tmp g) ps assign body)=>match ps.toList with
  | [i1,i2]=>some ⟨ops,b,g,i1,i2,assign,body⟩
  |_=>none
 |_,_=>none
def q0h(o:Oper)(r:HintR)(g:Nat):Bool:=match o.op with
 |.call c=>(match c.callee,c.args.toList with
  |.value (.func f),[.tmp t]=>f==r.mkr&&t==r.t&&(o.dst==some g)&&o.guard.isNone
  |_,_=>false)
 |_=>false
def v0f{t e:Ty}(h:t=.list false e)(l:t.den):List e.den:=(h▸l:(Ty.list false e).den)
def s0r{ρ:Type}(cx:Cx)(H:Hints)(r:HintR)(q:RParts)(p:Nat)(Γ:AE)(K:Ex→AE→Rs ρ):Rs ρ:=
 match q.ops.toList with
 | [mv,cl]=>bif q0h cl r q.g&&(b0b r.s&&mv.guard.isNone)then
   aop cx false mv Γ fun Γ1=>match Γ1.pd with
    |some _=>none
    |none=>(Γ1.set q.g .dead).renAll r.ns fun Γ2=>r.s.dcd Γ2 fun x=>match (r.s.enc x).get r.t with
     |.val t l=>if h:t=.list false r.e then
       (bif lim (a08 (v0f h l))then(l0f (rnd cx H (2*p+1) r.s q.i1 q.i2 q.assign q.body r.e) (v0f h l) (a08 (v0f h l)) x).bind fun y=>match y with
        |.inl x'=>K .normal (r.s.enc x')
        |.inr (.normal,x')=>K .normal (r.s.enc x')
        |.inr (.exit i,x')=>bif i==q.b then K .normal (r.s.enc x')else K (.exit i) (r.s.enc x')
        |.inr (.ret,x')=>K .ret (r.s.enc x')
       else none)
      else none
     |_=>none
  else none
 |_=>none
def f0j:Code→Bool
 |.seq a b=>f0j a || f0j b
 |.cond _ a b=>f0j a || f0j b
 |.block _ c|.loop c=>f0j c
 |.rangeFunc _ _ _ _=>true
 |_=>false
def k0q(cx:Cx)(H:Hints)(r:HintR):Code→Nat→{ρ:Type}→AE→(Ex→AE→Rs ρ)→Rs ρ
 |.seq a b,p,_,Γ,K=>match k0s a b with
  |some q=>s0r cx H r q p Γ K
  |none=>bif f0j a then k0q cx H r a (2*p) Γ fun e Γ'=>match e with
    |.normal=>c0n cx H b (2*p+1) Γ' K
    |e=>K e Γ'
   else c0n cx H a (2*p) Γ fun e Γ'=>match e with
    |.normal=>k0q cx H r b (2*p+1) Γ' K
    |e=>K e Γ'
 |c,p,_,Γ,K=>c0n cx H c p Γ K
def z0h(cx:Cx)(H:Hints)(r:HintR)(fn:Func)(ps:List PA)(rs:List RA)(x:(b0u (ps.map PA.ty)).den):Option (b0u ((RA.all ps rs).map RA.ty)).den:=
 match fn.body with
 |none=>none
 |some body=>k0q cx H r body 1 (ini ps x) fun e Γ=>match e,Γ.pd with
  |.exit _,_=>none
  |_,some _=>none
  |_,none=>(Γ.upto fn.ntmps).outs cx [] fn.ntmps (RA.all ps rs) (fn.results.toList.map .inl++(a0l ps 0).map fun i=>.inr (h0i ps i)) fun y _=>some y
section
variable {P:Program} {B:Base} {N:Nat} {cx:Cx} {H:Hints} {w w':World} {σ σ':Gh} {Γ Γ':AE} {tm tm':Nat→Value}
theorem GOk.anew{G:h0c}(e:GOk G B)(h:Rel B Γ N tm w σ):GOk G (B.anew w σ):=by
 intro g t x i;obtain⟨k,a,b,l,c,d⟩:=e g t x i;have f:¬ a0r σ g:=fun j=>by
  rcases h.mine _ j with q|q
  all_goals grind
 exact⟨a05 k h.size,⟨.inl a,f⟩,f,l,c.trans (h.frame g k b).symm,d⟩
theorem VOk.uniq{m:Mem}{Sh Sh':Nat→Prop}{t:Ty}{x y:t.den}{v:Value}(h:VOk m Sh t x v)(g:VOk m Sh' t y v):x=y:=by
 obtain⟨-,-,R,k,-⟩:=h;obtain⟨-,-,f,a,-⟩:=g;simp_all
theorem VOk.run(a:Rel B Γ N tm w σ)(h:Rel (B.anew w σ) Γ' N tm' w' σ')(k:σ.ov=none)(g:σ'.ov=none){t:Ty}{x:t.den}{v:Value}(hv:VOk (a0a w σ.ov) (Shr B w σ) t x v):
  VOk (a0a w' σ'.ov) (Shr B w' σ') t x v:=
 (VOk.kept h k g hv).frame (fun _ _ _=>rfl) fun _ b=>s0z a (f:=(B.anew w σ).pin) b
theorem VOk.turned{ov:Option (Nat×Nat×Value)}(h:∀(c:Nat)(o:Obj),w.heap[c]?=some o→o.isCells=true→w'.heap[c]?=some o)(g:w.heap.size≤w'.heap.size){t:Ty}{x:t.den}{v:Value}
  (hv:VOk (a0a w ov) (Shr B w σ) t x v):VOk (a0a w' ov) (Shr B w' σ) t x v:=by
 obtain⟨a,b,R,d,f⟩:=hv;exact⟨a,b,R,f0h (r0c h ov) t (fun _ _ hv=>hv) d,fun c k=>⟨a05 (f c k).1 g,(f c k).2⟩⟩
theorem h0l{W:World}{l:Nat}{o:Obj}(d:W.heap[l]?=some o)(e:o.isCells=false)(f:B.size≤l)(h:Obj):Turns B W (W.putObj l h):=by
 refine⟨fun c i a g=>?_,(grownBy_putObj' W l h).size,fun b k=>World.putObj_heap_other (by omega),rfl⟩
 have:c≠l:=by
  grind
 simp_all[World.putObj_heap_other]
theorem k0n{W:World}(g:B.size≤W.heap.size)(o:Obj):Turns B W (W.alloc o):=
 ⟨fun c k h _=>(RowKit.Below.heap_alloc W _ c (a12.1 h).1).trans h,by simp,fun b f=>RowKit.Below.heap_alloc W _ b (by omega),rfl⟩
theorem x0p(h:Rel B Γ N tm w σ){l:Nat}{o:Obj}(f:w.heap[l]?=some o)(a:o.isCells=false):¬ a0r σ l:=by
 rintro⟨n,k⟩
 obtain⟨p,hp,rfl⟩:=a13.1 k;obtain⟨c,e,lo,hi,g,-⟩:=h.live n p hp;rw[f]at g;cases g;cases a
theorem Rel.others(f:Rel B Γ N tm w σ)(h:Rel (B.anew w σ) Γ' N tm' w' σ'){l:Nat}{o:Obj}(g:w.heap[l]?=some o)(k:o.isCells=false):w'.heap[l]?=some o:=
 (h.frame l (a12.1 g).1 (x0p f g k)).trans g
theorem q0g(Γ:AE)(i j:Nat)(v:AV):(Γ.set i v).get j=if j=i then v else Γ.get j:=by
 grind[AE.get,c0f]
theorem j0g:∀(es:a0c)(x x':es.ty.den){i:Nat}{T:Ty}{y:T.den}(_:b0b es=true)(_:(es.enc x).get i=.val T y),∃y':T.den,(es.enc x').get i=.val T y'
 | [],_,_,_,_,_,_,h=>by simp_all[a0c.enc]
 |.sv k t::r,x,x',i,T,y,hf,h=>by
  have h:((a0c.enc r x.2).set k (.val t x.1)).get i=.val T y:=h;show ∃y':T.den,((a0c.enc r x'.2).set k (.val t x'.1)).get i=.val T y';rw[q0g]at h⊢
  by_cases e:i=k
  grind
  rw[if_neg e]at h⊢;exact j0g r x.2 x'.2 (by simpa[b0b]using hf) h
 |.box n t::r,x,x',i,T,y,hf,h=>by
  simp only[b0b,bA]at hf;exact j0g r x.2 x'.2 hf.2 h
 |.ptr k n p::r,x,x',i,T,y,hf,h=>by
  cases p with
  |cons=>simp[b0b]at hf
  |nil=>
   simp only[b0b,bA]at hf;have h:((a0c.enc r x).set k (.ptr n [])).get i=.val T y:=h;show ∃y':T.den,((a0c.enc r x').set k (.ptr n [])).get i=.val T y';rw[q0g]at h⊢
   by_cases e:i=k
   simp_all;rw[if_neg e]at h⊢;exact j0g r x x' hf.2 h
 |.own k m e::r,x,x',i,T,y,hf,h=>by
  simp only[b0b,bA]at hf;have h:(((a0c.enc r x.2).setRt m (some ⟨false,.list true e,x.1⟩)).set k (.sref m [])).get i=.val T y:=h;show ∃y':T.den,(((a0c.enc r x'.2).setRt m (some ⟨false,.list true e,x'.1⟩)).set k (.sref m [])).get i=.val T y';rw[q0g]at h⊢
  by_cases e:i=k
  simp_all;rw[if_neg e]at h⊢;exact j0g r x.2 x'.2 hf.2 h
 |.rfi _ _::_,_,_,_,_,_,h,_=>by simp[b0b]at h
 |.vp _ _::_,_,_,_,_,_,h,_=>by simp[b0b]at h
 |.ref _ _ _::_,_,_,_,_,_,h,_=>by simp[b0b]at h
 |.win _ _ _::_,_,_,_,_,_,h,_=>by simp[b0b]at h
 |.clo _ _ _::_,_,_,_,_,_,h,_=>by simp[b0b]at h
def p0t:Ex→Option Code
 |.normal=>none
 |.exit i=>some (.exit i)
 |.ret=>some .ret
def d0j(st:LoopState)(pe:Option Code)(fn:FuncId)(tmps:Array Value)(i1 i2:Nat)(assign body:Code)(D:Nat):Loop:=
 { state:=st,pending:=pe,fn,tmps,params:=#[i1,i2],assign,body,defers:=D }
structure Between (B:Base) (N:Nat) (a:Act) (s:a0c) (t:Nat) (te:Ty) (l0:te.den) (l D:Nat) (r:Loop) (x:s.ty.den) (W:World):Prop where
 rel:∃σ,Rel B (s.enc x) N (a0f a) W σ
 seq:(s.enc x).get t=.val te l0
 loop:W.heap[l]?=some (.loop r)
 dfr:W.heap[D]?=some (.deferred (some []))
theorem r0i(h3:CxOk P cx)(hG:GOk cx.G B)(hm:P.follows .mixedOrders=true)(hH:H.fits N=true){s:a0c}{i1 i2 p:Nat}{assign body:Code}(g7:b0z N assign=true)(g8:b0z N body=true)
  (hs:s.fits N=true)(q:b0b s=true)(k5:i1<N)(k6:i2<N){a:Act}(hN:a.tmps.size=N){fn:FuncId}{e te:Ty}{k:Int}{v:e.den}{ve:Value}{l0:te.den}{t l D:Nat}(ht:t<N){x:s.ty.den}{W:World}
  (hb:Between B N a s t te l0 l D (d0j .ready none fn a.tmps i1 i2 assign body D) x W)(hv:∀Sh,VOk (cells W) Sh te l0 (a0f a t)→VOk (cells W) Sh e v ve)(h6:B.size≤l)(h0:D≠l){y:s.ty.den ⊕ (Ex×s.ty.den)}
  (hy:rnd cx H p s i1 i2 assign body e k v x=some y):
  RoundIn (Fr none) 0 P l fn ((a.tmps.setIfInBounds i1 (.int .i64 k)).setIfInBounds i2 ve) assign body W fun en W'=>
   (∃j,y=.inl j∧en=.returned (.bool true)∧Between B N a s t te l0 l D (d0j .ready none fn a.tmps i1 i2 assign body D) j W')∨
   (∃X c j,y=.inr (X,j)∧p0t X=some c∧en=.returned (.bool false)∧Between B N a s t te l0 l D (d0j .done (some c) fn a.tmps i1 i2 assign body D) j W'):=by
 obtain⟨⟨σ,h⟩,hseq,hl,hD⟩:=hb;have h7:=h.ov_none (d0s s x);have f:VOk (a0a W σ.ov) (Shr B W σ) te l0 (a0f a t):=by
  have:=c0w h ht
  rw[hseq]at this;exact this
 have g9:VOk (a0a W σ.ov) (Shr B W σ) e v ve:=by
  rw[h7]at f⊢;exact hv _ f
 let a1:Act:={ tmps:=(a.tmps.setIfInBounds i1 (.int .i64 k)).setIfInBounds i2 ve,defers:=[] }
 have Z:Rel B (((s.enc x).set i1 (.val (.int .i64) k)).set i2 (.val e v)) N (a0f a1) W σ:=by
  have K:Rel B ((s.enc x).set i1 (.val (.int .i64) k)) N (a0f (a.put (some i1) (.int .i64 k))) W σ:=h.putd hN fun _=>a0e.mk_int (g:=σ.g) (rt:=(s.enc x).rt) _;have L:Rel B (((s.enc x).set i1 (.val (.int .i64) k)).set i2 (.val e v)) N (a0f ((a.put (some i1) (.int .i64 k)).put (some i2) ve)) W σ:=K.putd (by rw[j0n];omega) fun _=>g9;exact L
 have g4:a1.tmps.size=N:=by grind
 have I:∀(Γ2:AE),(s.names.all fun n=>(Γ2.rt n).isSome)=true→∀i n,i<N→(s.enc x).sl i=.one (.ptr n [])∨(s.enc x).sl i=.one (.sref n [])→Γ2.rt n≠none:=by
  intro Γ2 C i n hi f;have hm:n∈s.names:=by
   rcases f with f|f
   have:=h.slots i hi
   rw[f]at this;obtain⟨r,-,-,-,hr,-⟩:=this
   grind[k0y]
   grind[h0o]
  grind
 have h9:∀i n,i<N→(s.enc x).sl i=.one (.sref n [])→∃u,σ.g n=.one u:=fun i n _ f=>by
  obtain⟨-,e,l,A⟩:=h0o s x q f;rcases h.src_of A with⟨g,-⟩|⟨-,u,_,g,-⟩
  all_goals simp_all
 unfold rnd at hy;refine roundIn_of_wpIn trivial (wpIn_mono (f0z (ro:=some l) (D:=[]) h3 (hG.anew Z) hm hH assign _ g7 hy Z.anew g4 rfl) ?_)
 rintro e2 a2 w ⟨X,Γ2,σ2,rfl,hK,A,g5,g6⟩
 cases X with
 |exit i=>simp_all
 |ret=>simp_all
 |normal=>
  simp at hK
  split at hK
  rotate_left
  grind
  rename_i o;obtain⟨C,hK⟩:=(a0b hK).elim id fun h=>by grind
  have E:=A.ov_none o;obtain⟨k2,T⟩:Rel (B.anew W σ) { Γ2 with sl:=(s.enc x).sl } N (a0f a) w σ2∧_:=Rel.again h (fun i _=>i0u s x q i) (d0s s x) A o (I Γ2 C) h9;have b2:=Z.back A;have c2:=h.back k2;have v2:VOk (a0a w σ2.ov) (Shr B w σ2) te l0 (a0f a t):=VOk.run h A h7 E f;have Q:=Z.others A hl rfl;have g0:=Z.others A hD rfl;refine⟨_,run_beginRound Q rfl,?_⟩;have V:Turns B w (w.putObj l (.loop { d0j .ready none fn a.tmps i1 i2 assign body D with state:=.busy })):=h0l Q rfl h6 _
  revert V
  have R:(w.putObj l (.loop { d0j .ready none fn a.tmps i1 i2 assign body D with state:=.busy })).heap[l]?=some (.loop { d0j .ready none fn a.tmps i1 i2 assign body D with state:=.busy }):=World.putObj_heap_same (a12.1 Q).1;have M:(w.putObj l (.loop { d0j .ready none fn a.tmps i1 i2 assign body D with state:=.busy })).heap[D]?=some (.deferred (some [])):=(World.putObj_heap_other h0).trans g0
  revert R M
  generalize w.putObj l (.loop { d0j .ready none fn a.tmps i1 i2 assign body D with state:=.busy })=W3;intro R M V;have Y:=b2.turned V;have c3:=c2.turned V;have v3:VOk (a0a W3 σ2.ov) (Shr B W3 σ2) te l0 (a0f a t):=VOk.turned V.cells V.size v2;refine wpIn_mono (f0z (ro:=some l) (D:=[]) h3 (hG.anew Y) hm hH body _ g8 hK Y.anew g5 g6) ?_
  rintro e4 a4 z ⟨X,Γ4,σ4,rfl,m,h4,k3,-⟩
  simp[w0s]at m
  split at m
  rotate_left
  grind
  rename_i F;obtain⟨O,m⟩:=(a0b m).elim id fun h=>by grind
  have h8:=h4.ov_none F;obtain⟨k4,-⟩:Rel (B.anew W3 σ2) { Γ4 with sl:=(s.enc x).sl } N (a0f a) z σ4∧_:=Rel.again (Γ:={ Γ2 with sl:=(s.enc x).sl }) c3 (fun i _=>i0u s x q i) o h4 F (I Γ4 O) T;have c4:=c3.back k4;have v4:VOk (a0a z σ4.ov) (Shr B z σ4) te l0 (a0f a t):=VOk.run Y h4 E h8 v3;have S:=Y.others h4 R rfl;have g3:=Y.others h4 M rfl;obtain⟨j,σ5,d,h5⟩:=c4.dcd hs m;have k1:=h5.ov_none (d0s s j);have U:(s.enc j).get t=.val te l0:=by
   obtain⟨y',k0⟩:=j0g s x j q hseq
   have:=c0w h5 ht
   rw[k0]at this;have this:VOk (a0a z σ5.ov) (Shr B z σ5) te y' (a0f a t):=this
   grind[VOk.uniq]
  have J:∀(b:Option Code)(r':Loop),r'={ { d0j .ready none fn a.tmps i1 i2 assign body D with state:=.busy }with state:=if b.isNone then .ready else .done,pending:=b }→
    (Instr.endRound l b).run P z=.ok (.bool b.isNone) (z.putObj l (.loop r'))∧Between B N a s t te l0 l D r' j (z.putObj l (.loop r')):=by
   rintro b r' rfl
   refine⟨run_endRound b S,⟨⟨σ5,h5.turned (h0l S rfl h6 _)⟩,U,World.putObj_heap_same (a12.1 S).1,(World.putObj_heap_other h0).trans g3⟩⟩
  cases X with
  |normal=>
   simp at d;obtain⟨K,L⟩:=J none _ rfl;exact⟨_,_,K,.inl ⟨j,d.symm,rfl,L⟩⟩
  |exit i=>
   simp at d;obtain⟨K,L⟩:=J (some (.exit i)) _ rfl;exact⟨_,_,K,.inr ⟨_,_,j,d.symm,rfl,rfl,L⟩⟩
  |ret=>
   simp at d;obtain⟨K,L⟩:=J (some .ret) _ rfl;exact⟨_,_,K,.inr ⟨_,_,j,d.symm,rfl,rfl,L⟩⟩
def w0n(P:Program)(it:FuncId)(e:Ty):Prop:=
 (∀args w,(callFunc it args).run P w=.ok (.enter it args) w)∧
 ∀(l Bs:Nat)(sv:Value)(xs:List e.den)(J:Nat→World→Prop)(Jx:World→Prop)(W:World),xs.length<2147483648→
  (∀k W',J k W'→W'.cell? ⟨Bs,0,none⟩=some sv∧∃Sh,VOk (cells W') Sh (.list false e) xs sv)→
  (∀n (x:e.den) (v:Value) W',xs[n]?=some x→J (n+1) W'→(∀Sh,VOk (cells W') Sh (.list false e) xs sv→VOk (cells W') Sh e x v)→
   YieldAt (Fr none) 0 P l #[.int .i64 (n:Int),v] W' fun en W''=>(en=.returned (.bool true)∧J n W'')∨(en=.returned (.bool false)∧Jx W''))→
  J xs.length W→
  CallsIn (Fr none) 0 P it #[.func (.yield l) #[] #[],.pointer (some ⟨Bs,0,none⟩)] W fun en W'=>(∃v,en=.returned v)∧(J 0 W'∨Jx W')
def A0h(P:Program)(mk it:FuncId):Prop:=
 l0x P mk∧∀(A:Option Addr)(len cap:Nat)(w:World),Calls P mk #[.slice A len cap] w fun en w'=>en=.returned (.func (.func it) #[] #[.pointer (some ⟨w.heap.size,0,none⟩)])∧∃ty,w'=w.alloc (.cells #[.slice A len cap] ty)
def yOf{S:Type}:S ⊕ (Ex×S)→Ex×S
 |.inl x=>(.normal,x)
 |.inr q=>q
theorem t0t(hcx:CxOk P cx)(hG:GOk cx.G B)(hm:P.follows .mixedOrders=true)(hH:H.fits N=true){s:a0c}{i1 i2 p:Nat}{assign body:Code}(hfa:b0z N assign=true)(hfb:b0z N body=true)
  (hs:s.fits N=true)(hfl:b0b s=true)(hi1:i1<N)(hi2:i2<N){a:Act}(hN:a.tmps.size=N){e:Ty}{l0:List e.den}{t g Bs it:Nat}(ht:t<N){x:s.ty.den}
  (h:Rel B (s.enc x) N (a0f a) w σ)(hseq:(s.enc x).get t=.val (.list false e) l0)(hg:a.eval (.tmp g)=.func (.func it) #[] #[.pointer (some ⟨Bs,0,none⟩)])(hit:w0n P it e)(hlen:l0.length<2147483648)
  (hcell:w.cell? ⟨Bs,0,none⟩=some (a0f a t))(hBs:Bs<B.size)(hBF:¬ B.F Bs){y:s.ty.den ⊕ (Ex×s.ty.den)}(hy:l0f (rnd cx H p s i1 i2 assign body e) l0 l0.length x=some y)(hd:a.defers=[]):
  (Code.rangeFunc (.tmp g) #[i1,i2] assign body).wpIn (Fr none) 0 P (fun en a' w'=>∃D,en=m0z (yOf y).1∧a'.tmps.size=N∧a'.defers=[{ target:=.collected D,args:=#[] }]∧B.size≤D∧
   w'.heap[D]?=some (.deferred (some []))∧∃σ',Rel B (s.enc (yOf y).2) N (a0f a') w' σ') a w:=by
 refine wpIn_rangeFunc ?_
 intro fn _;obtain⟨D,hDe⟩:∃D,w.heap.size=D:=⟨_,rfl⟩;obtain⟨W1,hW1⟩:∃W1,(w.alloc (.deferred (some []))).alloc (.loop (d0j .ready none fn a.tmps i1 i2 assign body D))=W1:=⟨_,rfl⟩;have hsz:=h.size;have T1:Turns B w W1:=by
  rw[←hW1];have t1:=k0n (B:=B) hsz (.deferred (some []));have t2:=k0n (B:=B) (W:=w.alloc (.deferred (some []))) (by simp;omega) (.loop (d0j .ready none fn a.tmps i1 i2 assign body D));exact⟨fun c o hc ho=>t2.cells c o (t1.cells c o hc ho) ho,a10 t1.size t2.size,fun b hb=>(t2.frame b hb).trans (t1.frame b hb),t2.io.trans t1.io⟩
 have hL1:W1.heap[D+1]?=some (.loop (d0j .ready none fn a.tmps i1 i2 assign body D)):=by
  grind[World.alloc_heap_new,World.size_alloc]
 have hK1:W1.heap[D]?=some (.deferred (some [])):=by
  grind[RowKit.Below.heap_alloc,World.alloc_heap_new]
 have hB1:Between B N a s t (.list false e) l0 (D+1) D (d0j .ready none fn a.tmps i1 i2 assign body D) x W1:=⟨⟨σ,h.turned T1⟩,hseq,hL1,hK1⟩;have hBsAll:∀{Γ' tm' W' σ'},Rel B Γ' N tm' W' σ'→W'.cell? ⟨Bs,0,none⟩=some (a0f a t):=fun {Γ' tm' W' σ'} h'=>by
  have e1:=h'.frame Bs hBs hBF;have e2:=h.frame Bs hBs hBF;simp_all[World.cell?]
 refine⟨D+1,[{ target:=.collected D,args:=#[] }],W1,{ target:=.fn (.func it) #[.pointer (some ⟨Bs,0,none⟩)],args:=#[.func (.yield (D+1)) #[] #[]] },W1,it,
  #[.func (.yield (D+1)) #[] #[],.pointer (some ⟨Bs,0,none⟩)],W1,?_,?_,fun _ _=>trivial,?_,fun h=>(by grind),?_⟩
 rw[←hW1,←hDe];exact run_enterLoop_outer _ _ _ _ _;simp only[resolve,hg];simp[go_sem]
 have:=hit.1 (#[.func (.yield (D+1)) #[] #[]]++#[.pointer (some ⟨Bs,0,none⟩)]) W1
 simp_all[invoke]
 ·refine(hit.2 (D+1) Bs (a0f a t) l0
   (fun n W=>∃x',l0f (rnd cx H p s i1 i2 assign body e) l0 n x'=some y∧Between B N a s t (.list false e) l0 (D+1) D (d0j .ready none fn a.tmps i1 i2 assign body D) x' W)
   (fun W=>∃ex c x',y=.inr (ex,x')∧p0t ex=some c∧Between B N a s t (.list false e) l0 (D+1) D (d0j .done (some c) fn a.tmps i1 i2 assign body D) x' W)
   W1 hlen ?_ ?_ ⟨x,hy,hB1⟩).mono ?_
  rintro k W' ⟨x',-,hb⟩
  obtain⟨⟨σ',h'⟩,hseq',-,-⟩:=hb;refine⟨hBsAll h',?_⟩
  have:=c0w h' ht
  rw[hseq',h'.ov_none (d0s s x')]at this;exact⟨_,this⟩
  rintro n xe v W' hx ⟨x',hy',hb⟩ hv
  have hyield:(Instr.yield (D+1) #[.int .i64 (n:Int),v]).run P W'=.ok (.round (D+1) fn ((a.tmps.setIfInBounds i1 (.int .i64 (n:Int))).setIfInBounds i2 v) assign body) W':=by
   have:=run_yield (P:=P) (args:=#[.int .i64 (n:Int),v]) hb.loop rfl
   simpa[d0j]using this
  simp[l0f,hx]at hy'
  split at hy'
  grind
  rename_i s' hs';refine⟨_,_,_,_,hyield,(r0i hcx hG hm hH hfa hfb hs hfl hi1 hi2 hN ht hb hv (by omega) (by omega) hs').mono ?_⟩
  grind
  rename_i r hr;simp at hy';refine⟨_,_,_,_,hyield,(r0i hcx hG hm hH hfa hfb hs hfl hi1 hi2 hN ht hb hv (by omega) (by omega) hr).mono ?_⟩
  grind
  ·have hdone:∀{x' W2 st pe},Between B N a s t (.list false e) l0 (D+1) D (d0j st pe fn a.tmps i1 i2 assign body D) x' W2→∀r',(W2.putObj (D+1) (.loop r')).heap[D]?=some (.deferred (some []))∧∃σ',Rel B (s.enc x') N (a0f a) (W2.putObj (D+1) (.loop r')) σ':=by
    rintro x' W2 st pe ⟨⟨σ',h'⟩,-,hl,hD⟩ r'
    exact⟨(World.putObj_heap_other (by omega)).trans hD,σ',h'.turned (h0l hl rfl (by omega) _)⟩
   rintro en W2 ⟨⟨v,rfl⟩,⟨x',hy',hb⟩|⟨ex,c,x',rfl,hc,hb⟩⟩
   simp[l0f]at hy';subst hy';refine⟨none,_,run_endLoop (P:=P) hb.loop (by simp[d0j]),?_⟩;obtain⟨g1,g2⟩:=hdone hb { d0j .ready none fn a.tmps i1 i2 assign body D with state:=.exhausted };exact⟨D,rfl,hN,by simp_all,by omega,g1,g2⟩
   ·refine⟨some c,_,run_endLoop (P:=P) hb.loop (by simp[d0j]),?_⟩;obtain⟨g1,g2⟩:=hdone hb { d0j .done (some c) fn a.tmps i1 i2 assign body D with state:=.exhausted };cases ex with
    |normal=>cases hc
    |exit i=>
     simp[p0t]at hc;subst hc;exact wpIn_exit ⟨D,rfl,hN,by simp_all,by omega,g1,g2⟩
    |ret=>
     simp[p0t]at hc;subst hc;exact wpIn_ret ⟨D,rfl,hN,by simp_all,by omega,g1,g2⟩
end
section
variable {P:Program} {B:Base} {N:Nat} {cx:Cx} {H:Hints} {r:HintR}
def r0x(B:Base)(ds:List Deferred)(w:World):Prop:=ds=[]∨∃D,ds=[{ target:=.collected D,args:=#[] }]∧B.size≤D∧w.heap[D]?=some (.deferred (some []))
def u0t{ρ:Type}(B:Base)(N:Nat)(K:Ex→AE→Rs ρ)(z:ρ):Exit→Act→World→Prop:=fun e a w=>
 ∃ex Γ σ,e=m0z ex∧K ex Γ=some z∧Rel B Γ N (a0f a) w σ∧a.tmps.size=N∧r0x B a.defers w
theorem n0k(b:CxOk P cx)(l:GOk cx.G B)(q:P.follows .mixedOrders=true)(m:H.fits N=true){c:Code}{p:Nat}{ρ:Type}{Γ:AE}{K:Ex→AE→Rs ρ}{z:ρ}{a:Act}{w:World}{σ:Gh}(hf:b0z N c=true)
  (r:c0n cx H c p Γ K=some z)(h:Rel B Γ N (a0f a) w σ)(o:a.tmps.size=N)(hd:r0x B a.defers w):c.wpIn (Fr none) 0 P (u0t B N K z) a w:=by
 refine wpIn_mono (f0z (ro:=none) (D:=a.defers) b (l.anew h) q m c p hf r h.anew o rfl) ?_
 rintro e s w' ⟨j,Γ',σ',rfl,n,i,k,d⟩
 refine⟨j,Γ',σ',rfl,n,h.back i,k,?_⟩;rcases hd with hd|⟨D,hd,f,g⟩;exact .inl (d.trans hd);exact .inr ⟨D,d.trans hd,f,h.others i g rfl⟩
structure RangeOk (P:Program) (r:HintR):Prop where
 mkr:A0h P r.mkr r.it
 it:w0n P r.it r.e
def w0a(N:Nat)(r:HintR)(q:RParts):Bool:=
 q.ops.toList.all (f0p N q.ops.toList)&&(b0z N q.assign&&(b0z N q.body&&(decide (q.i1<N)&&(decide (q.i2<N)&&(decide (q.g<N)&&(decide (r.t<N)&&(r.s.fits N&&r.t != q.g)))))))
theorem v0a{c1 c2:Code}{q:RParts}(h:k0s c1 c2=some q):∃id,c1=.region id q.ops false∧c2=.block q.b (.rangeFunc (.tmp q.g) #[q.i1,q.i2] q.assign q.body):=by
 unfold k0s at h
 split at h
 rename_i c f body
 split at h
 rename_i k a e;cases h;exact⟨_,rfl,by rw[show c=#[k,a]from by grind]⟩;simp_all;simp_all
theorem v0t{o:Oper}{g:Nat}(h:q0h o r g=true):∃c,o.op=.call c∧c.callee=.value (.func r.mkr)∧c.args=#[.tmp r.t]∧o.dst=some g∧o.guard=none:=by
 unfold q0h at h
 split at h
 rename_i c b
 split at h
 rename_i f t k a;simp at h
 grind
 simp_all;simp_all
theorem s0s(W:CxOk P cx)(hG:GOk cx.G B)(hm:P.follows .mixedOrders=true)(hH:H.fits N=true)(hr:RangeOk P r)(L:∀i b,1000≤i→B.pin i≠some b){c1 c2:Code}{q:RParts}(hq:k0s c1 c2=some q)(hf:w0a N r q=true)
  {p:Nat}{ρ:Type}{Γ:AE}{K:Ex→AE→Rs ρ}{z:ρ}{a:Act}{w:World}{σ:Gh}(M:s0r cx H r q p Γ K=some z)(h:Rel B Γ N (a0f a) w σ)(hN:a.tmps.size=N)(hd:a.defers=[]):
  (Code.seq c1 c2).wpIn (Fr none) 0 P (u0t B N K z) a w:=by
 obtain⟨id,rfl,rfl⟩:=v0a hq;simp only[w0a,bA,dT]at hf;obtain⟨h4,g7,g8,k1,k2,hg,ht,hs,k6⟩:=hf;have k6:r.t≠q.g:=by simp_all
 unfold s0r at M
 split at M
 rotate_left
 grind
 rename_i mv cl hl;obtain⟨E,M⟩:=(a0b M).elim _root_.id fun h=>by grind
 simp at E;obtain⟨E,g9,a9⟩:=E;obtain⟨c,ho,g5,g0,X,a8⟩:=v0t E;refine wpIn_seq (wpIn_region_list ?_);have S:=k0h (lA.1 h4 mv (by simp_all));rw[hl];simp only[wpListIn];rw[if_pos (by simp_all[Region.wanted])];refine e0w W hG h hN S M fun v U Γ1 σ1 h1 M=>?_
 obtain⟨a1,h9⟩:∃a1,a.put mv.dst v=a1:=⟨_,rfl⟩;have h8:a1.tmps.size=N:=by grind[j0n]
 have a7:a1.defers=[]:=by grind[i0n]
 rw[h9]at h1⊢;rw[if_pos (by simp_all[Region.wanted])]
 split at M
 grind
 rename_i a5

 obtain⟨m,Y⟩:∃m,Value.func (.func r.it) #[] #[.pointer (some ⟨U.heap.size,0,none⟩)]=m:=⟨_,rfl⟩;have Z:Rel B (Γ1.set q.g .dead) N (a0f (a1.put (some q.g) m)) U σ1:=h1.putd h8 fun _=>trivial;have k7:a0f (a1.put (some q.g) m) r.t=a0f a1 r.t:=by simp_all[j0p]
 have I:∀{B':Base}{w2:World},(∀i b,1000≤i→B'.pin i≠some b)→Rel B' (Γ1.set q.g .dead) N (a0f (a1.put (some q.g) m)) w2 σ1→∃(x:r.s.ty.den)(V:List r.e.den)(y:r.s.ty.den ⊕ (Ex×r.s.ty.den)) (σ2:Gh),Rel B' (r.s.enc x) N (a0f (a1.put (some q.g) m)) w2 σ2∧
   (r.s.enc x).get r.t=.val (.list false r.e) V∧V.length<2147483648∧l0f (rnd cx H (2*p+1) r.s q.i1 q.i2 q.assign q.body r.e) V V.length x=some y∧
   (match y with
    |.inl o=>K .normal (r.s.enc o)
    |.inr (.normal,o)=>K .normal (r.s.enc o)
    |.inr (.exit i,o)=>bif i==q.b then K .normal (r.s.enc o)else K (.exit i) (r.s.enc o)
    |.inr (.ret,o)=>K .ret (r.s.enc o))=some z:=by
  intro B' w2 hp k3;obtain⟨Γ2,σ2,a4,h2⟩:=Rel.renAll hp _ k3 M;obtain⟨x,σ3,j,h3⟩:=h2.dcd hs a4
  split at j
  rename_i t l k0
  split at j
  rename_i he;subst he;obtain⟨h0,j⟩:=(a0b j).elim _root_.id fun h=>by grind
  obtain⟨y,k9,a2⟩:=a09.1 j;exact⟨x,l,y,σ3,h3,k0,of_decide_eq_true (show decide (a08 l<2147483648)=true from h0),k9,a2⟩;simp_all;simp_all
 obtain⟨A,F,u,k5⟩:∃A F u,a0f a1 r.t=.slice A F u:=by
  obtain⟨x,V,y,σ2,g1,g2,-⟩:=I L Z
  have:=c0w g1 ht
  rw[g2,k7]at this;obtain⟨A,n,c,e,-⟩:=VOk.header this;simp_all
 refine p0k (fun c' a6=>by simp_all) ?_
 rw[s0t hr.mkr.1 ho g5,Oper.uponIn_enter];refine⟨fun h=>(by grind),s0b ?_⟩;have Q:c.args.map a1.eval=#[.slice A F u]:=by
  rw[g0,←k5];simp only[List.map_toArray,List.map_cons,a46];rfl
 rw[Q];refine(hr.mkr.2 A F u U).mono ?_
 rintro en w2 ⟨rfl,ty,k8⟩
 simp
 rw[Y,X];have T:Turns B U w2:=by rw[k8];exact k0n h1.size _
 have C:=Z.turned T;have h6:Rel { B.anew w2 σ1 with pin:=B.pin } (Γ1.set q.g .dead) N (a0f (a1.put (some q.g) m)) w2 σ1:=C.anew.unpin B.pin fun i b hb=>by simp_all[Base.anew]
 obtain⟨x,V,y,σ2,g1,g2,gl,g3,J⟩:=I (B':={ B.anew w2 σ1 with pin:=B.pin }) L h6;have R:w2.cell? ⟨U.heap.size,0,none⟩=some (a0f (a1.put (some q.g) m) r.t):=by
  simp_all
 have h5:U.heap.size<w2.heap.size:=by simp_all
 refine wpIn_block (wpIn_mono (t0t (B:={ B.anew w2 σ1 with pin:=B.pin }) (a:=a1.put (some q.g) m) (p:=2*p+1) (it:=r.it) (Bs:=U.heap.size) W (hG.anew C) hm hH g7 g8 hs g9 k1 k2 (by rw[j0n];omega) ht g1 g2 ?_ hr.it gl R h5
  (fun ho=>Nat.lt_irrefl _ (h1.lt ho)) g3 (by simp_all[i0n])) ?_)
 show a0f (a1.put (some q.g) m) q.g=_;rw[j0p _ (by omega),if_pos rfl,←Y]
 ·rintro en a3 w3 ⟨D,rfl,k,g6,O,h7,σ3,k4⟩
  have O:w2.heap.size≤D:=O;have d:Rel B (r.s.enc (yOf y).2) N (a0f a3) w3 σ3:=C.backP (fun _ _ h=>h) k4;have f:r0x B a3.defers w3:=.inr ⟨D,g6,a10 C.size O,h7⟩;cases y with
  |inl o=>exact⟨.normal,_,σ3,rfl,J,d,k,f⟩
  |inr ex=>
   obtain⟨ex,o⟩:=ex;cases ex with
   |normal=>exact⟨.normal,_,σ3,rfl,J,d,k,f⟩
   |ret=>exact⟨.ret,_,σ3,rfl,J,d,k,f⟩
   |exit i=>
    simp[yOf,m0z,Exit.inBlock];rcases a0b J with⟨hi,J⟩|⟨hi,J⟩;rw[if_pos (by simp_all)];exact⟨.normal,_,σ3,rfl,J,d,k,f⟩;rw[if_neg (by simp_all)];exact⟨.exit i,_,σ3,rfl,J,d,k,f⟩
def g0w(N:Nat)(r:HintR):Code→Bool
 |.seq a b=>match k0s a b with
  |some q=>w0a N r q
  |none=>bif f0j a then g0w N r a&&b0z N b else b0z N a&&g0w N r b
 |c=>b0z N c
theorem r0y(j:CxOk P cx)(m:GOk cx.G B)(o:P.follows .mixedOrders=true)(n:H.fits N=true)(u:RangeOk P r)(q:∀i b,1000≤i→B.pin i≠some b):∀(c:Code) (p:Nat){ρ:Type}{Γ:AE}{K:Ex→AE→Rs ρ}{z:ρ}{a:Act}{w:World}{σ:Gh}(_:g0w N r c=true)
  (_:k0q cx H r c p Γ K=some z) (_:Rel B Γ N (a0f a) w σ) (_:a.tmps.size=N) (_:a.defers=[]),c.wpIn (Fr none) 0 P (u0t B N K z) a w:=by
 intro c
 induction c with
 |seq x y ihx ihy=>
  intro p ρ Γ K z a w σ hf hz h hN hD;simp[g0w]at hf;simp[k0q]at hz
  split at hz
  grind[s0s]
  ·rename_i t;rw[t]at hf;simp only[]at hf;refine wpIn_seq ?_
   cases hx:f0j x with
   |true=>
    rw[hx]at hf hz;simp at hf hz;refine wpIn_mono (ihx _ hf.1 hz h hN hD) ?_
    rintro e s w' ⟨l,Γ',σ',rfl,d,k,f,g⟩
    cases l with
    |normal=>exact n0k j m o n hf.2 d k f g
    |exit i=>exact⟨.exit i,Γ',σ',rfl,d,k,f,g⟩
    |ret=>exact⟨.ret,Γ',σ',rfl,d,k,f,g⟩
   |false=>
    rw[hx]at hf hz;simp at hf hz;refine wpIn_mono (f0z (ro:=none) (D:=[]) j m o n x _ hf.1 hz h hN hD) ?_
    rintro e s w' ⟨l,Γ',σ',rfl,d,k,f,g⟩
    cases l with
    |normal=>exact ihy _ hf.2 d k f g
    |exit i=>exact⟨.exit i,Γ',σ',rfl,d,k,f,.inl g⟩
    |ret=>exact⟨.ret,Γ',σ',rfl,d,k,f,.inl g⟩
 |_=>
  intro p ρ Γ K z a w σ hf hz h hN hD;refine n0k j m o n (p:=p) (Γ:=Γ) (σ:=σ) ?_ ?_ h hN (.inl hD);simpa only[g0w]using hf;simpa only[k0q]using hz
end
def z0k(fn:Func)(c:Code)(H:Hints)(r:HintR)(s:FSem):Bool:=
 g0w fn.ntmps r c&&(H.fits fn.ntmps&&(decide (s.ps.length≤fn.ntmps)&&(decide (s.ps.length≤1000)&&fn.results.toList.all fun r=>g0j fn.ntmps (.inl r))))
section
variable {P:Program} {cx:Cx}
theorem j0k:∀(ps:List PA)(i0 i:Nat),i∈a0l ps i0→i<i0+ps.length
 | [],_,_,h=>by simp[a0l]at h
 |.v _::ps,i0,i,h=>by
  have:=j0k ps (i0+1) i h
  grind
 |.r _ _::ps,i0,i,h=>by
  simp
  rcases mC.1 h with rfl|h;omega
  have:=j0k ps (i0+1) i h
  omega
theorem i0y.ofR(q:CxOk P cx)(hm:P.follows .mixedOrders=true){f:FuncId}{fn:Func}{c:Code}{H:Hints}{r:HintR}{s:FSem}(Y:RangeOk P r)(W:P.funcs[f]?=some fn)(U:fn.body=some c)(J:z0k fn c H r s=true)
  (V:∀x,z0h cx H r fn s.ps s.rs x=s.F x):i0y P cx.G f s:=by
 simp only[z0k,bA,dT]at J;obtain⟨E,hH,h4,M,p⟩:=J;intro w N σ args x y T hy hB hhp hov hargs hrel0 hpins0;obtain⟨B,d⟩:∃B:Base,{ N with pin:=fun i=>bif decide (i<1000)then N.pin i else none }=B:=⟨_,rfl⟩;have g:Rel B (ini s.ps x) s.ps.length (fun i=>args.getD i undef) w σ:=by
  rw[←d];refine hrel0.unpin _ fun i b U=>?_
  grind
 have L:∀i b,1000≤i→B.pin i≠some b:=by
  rw[←d]
  grind
 have l:r0s B s.ps args:=by
  intro i hi hk;obtain⟨b,O,z⟩:=hpins0 i hi hk;refine⟨b,?_,z⟩;have I:i<s.ps.length:=by have:=j0k s.ps 0 i hi;omega
  have:decide (i<1000)=true:=by grind
  rw[←d];simp_all
 have T:GOk cx.G B:=by rw[←d];exact T
 have j:∀{w' its vs o},Back B w' its vs o→Back N w' its vs o:=fun {w' its vs o} h=>by
  rw[←d]at h;exact⟨h.lv,h.ll,h.ok,h.nodup,h.disj,h.live,h.mine,h.size,h.frame,h.still⟩
 rw[←V x]at hy;simp[z0h,U]at hy
 let a:Act:={ tmps:=args++a24 (fn.ntmps-args.size) undef,defers:=[] }
 have Z:a.tmps.size=fn.ntmps:=by grind
 have t:Rel B (ini s.ps x) fn.ntmps (a0f a) w σ:=by
  refine⟨g.roots,g.norm,g.nodup,g.disj,g.live,fun i hi=>?_,g.pend,g.size,g.frame,g.mine,g.pins,g.still⟩
  by_cases I:i<s.ps.length
  have:=g.slots i I
  have e:a0f a i=args.getD i undef:=by
   simp[a0f,a,a37];simp_all
  simp_all
  have:(ini s.ps x).sl i=.one .dead:=by
   simp_all[ini,e0a]
  rw[this];trivial
 refine callsIn_wide.1 (callsIn_of_wp_marks (F:=Fr none) (n:=0) W U trivial (wpIn_mono (r0y q T hm hH Y L c 1 E hy t Z rfl) ?_))
 rintro e a' w' ⟨ex,Γ',σ',rfl,Q,hr,hN,A⟩
 simp at Q;have key:(∀i,ex≠.exit i)∧Γ'.pd=none∧(Γ'.upto fn.ntmps).outs cx [] fn.ntmps (RA.all s.ps s.rs) (fn.results.toList.map .inl++(a0l s.ps 0).map fun i=>.inr (h0i s.ps i)) (fun y _=>some y)=some y:=by
  grind
 obtain⟨h0,K,Q⟩:=key;have k:LeavesInM (Fr none) 0 P fn a'.tmps (fun e w'=>∃u o,e=.returned (l0o u)∧u.length=s.rs.length∧Back N w' (c0d (RA.all s.ps s.rs) y) (u++(a0l s.ps 0).map (d0m s.ps args)) o) a'.defers .returning w':=by
  rcases A with A|⟨D,A,S,C⟩;rw[A];obtain⟨v,m,u,o,O,z,R⟩:=k0e (args:=args) q.toCxTy p hr K Q l;exact⟨v,m,u,o,O,z,j R⟩;rw[A];have X:=hr.turned (h0l C rfl S (.deferred none));obtain⟨v,m,u,o,O,z,R⟩:=k0e (args:=args) q.toCxTy p X K Q l;exact⟨by simp,.inl ⟨D,_,rfl,run_takeDeferred C,v,m,u,o,O,z,j R⟩⟩
 cases ex with
 |exit i=>simp_all
 |normal=>exact k
 |ret=>exact k
end
end Go.Ab
