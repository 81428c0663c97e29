/- Part of the proof: LibZJA. Conditions: as each statement tells. -/
import Derived.OrdersIn
import Derived.OpenShut
import Derived.Deep.Slices
import Derived.ChangeSame
import Derived.WideKeyArgs
import Derived.RowKit
import Derived.Laws.StructEq
import Derived.ChangeKeysEq
import Derived.RangeFuncNested
import Derived.RangeFuncLeaves
import Derived.Test.YtpmnlfbpgldcoaaGreatDoorMB
noncomputable section
set_option linter.unusedSimpArgs false
set_option linter.unusedVariables false
open Array renaming getElem?_eq_some_iff->a19,replicate->a30,getElem?_append->a44,all_toList->a58
open Bool renaming false_eq_true->a03,and_eq_true_iff->a05,false_and->a31,true_or->a49,not_eq_true'->a57,not_false->a59,and_false->a60
open List renaming mem_append_right->a01,mem_append_left->a02,mem_cons_of_mem->a04,map_congr_left->a07,length->a08,mem_filterMap->a16,mem_cons_self->a18,mem_map->a20,all_cons->a23,range_eq_range'->a25,append_nil->a26,getElem?_cons_zero->a27,range->a28,mem_of_getElem?->a29,mem_range->a32,map_id->a33,getElem?_append_right->a34,range'->a35,mem_flatMap->a37,mem_filter->a40,contains_iff_mem->a41,append->a42,mem_iff_getElem?->a43,replicate->a45,range'_append_1->a46,contains_eq_mem->a47,mem_map_of_mem->a48,map_map->a50,zipWith->a51,map_nil->a53,filter_congr->a54,ext_getElem?->a55,getElem?_map->a56
open Nat renaming lt_of_lt_of_le->a06,le_trans->a15,le_refl->a24,zero_add->a52
open Option renaming isSome_iff_exists->a00,bind_eq_some_iff->a09,elim->a22,ne_none_iff_exists'->a36,getD_some->a38,map_some->a39
namespace Go.Ab
structure Dl where
 rs:List (Nat×Root)
 sv:SV
def Dl.app(δ:Dl)(d:Nat)(U:AE):AE:=⟨fun i=>bif i==d then δ.sv else U.sl i,fun n=>match find δ.rs n with|some r=>some r|none=>U.rt n,U.pd⟩
def a0q(o:Oper):List Nat:=o.op.operands.toList.filterMap fun x=>match x with|.tmp t=>some t|_=>none
def a2l(T:List Nat)(U U2:AE):Prop:=U2.pd=U.pd/\∀t∈T,U2.sl t=U.sl t/\∀n∈(U.sl t).refs,U2.rt n=U.rt n
theorem a2l.refl{T U}:a2l T U U:=⟨rfl,fun _ _=>⟨rfl,fun _ _=>rfl⟩⟩
theorem a2w{o:Oper}{t:Nat}(h:Operand.tmp t∈o.op.operands.toList):t∈a0q o:=a16.2 ⟨_,h,rfl⟩
theorem a2l.opd{o:Oper}{U U2:AE}(h:a2l (a0q o) U U2){x:Operand}(g:x∈o.op.operands.toList):U2.opd x=U.opd x:=by
 cases x with
 |tmp t=>simp[AE.opd,AE.get];rw[(h.2 t (a2w g)).1]
 |_=>rfl
theorem a2l.rt{o:Oper}{U U2:AE}(a:a2l (a0q o) U U2){x:Operand}(b:x∈o.op.operands.toList){n:Nat}(k:n∈(U.opd x).refs):U2.rt n=U.rt n:=by
 cases x with
 |tmp t=>
  refine(a.2 t (a2w b)).2 n ?_
  simp[AE.opd,AE.get]at k
  revert k
  cases U.sl t with
  |one v=>exact id
  |cmp c vs=>exact fun h=>by cases h
 |const v=>
  simp[AE.opd]at k;unfold b6a at k
  split at k<;>cases k
 |global g=>cases k
 |func f=>cases k
theorem a2l.look{o:Oper}{U U2:AE}(h:a2l (a0q o) U U2){x:Operand}(f:x∈o.op.operands.toList){n:Nat}(g:n∈(U.opd x).refs):U2.look n=U.look n:=by
 simp only[AE.look,h.1,h.rt f g]
def c1E{Z:Type}(r:Option Dl)(d:Nat)(U2:AE)(K:AE->Rs Z):Rs Z:=match r with
 |none=>none
 |some δ=>bif δ.rs.all fun p=>decide (p.1<pinned)&&(U2.rt p.1).isNone then K (δ.app d U2)else none
def Uni(cx:Cx)(o:Oper)(d:Nat)(U:AE):Prop:=
 ∃r:Option Dl,(∀δ,r=some δ->(δ.sv.firm=true->δ.rs=[])/\∀n,find δ.rs n≠none->n∈a4X cx o d)/\∀U2,a2l (a0q o) U U2->∀{Z:Type}(K:AE->Rs Z),aop cx true o U2 K=c1E r d U2 K
theorem Uni.none{cx o d U}(h:∀U2,a2l (a0q o) U U2->∀{Z:Type}(K:AE->Rs Z),aop cx true o U2 K=none):Uni cx o d U:=
 ⟨.none,by simp,fun U2 g Z K=>h U2 g K⟩
theorem Uni.put{cx o d U}(sv:SV)(h:∀U2,a2l (a0q o) U U2->∀{Z:Type}(K:AE->Rs Z),aop cx true o U2 K=K (U2.put d sv)):Uni cx o d U:=
 ⟨some ⟨[],sv⟩,fun δ e=>by cases e;exact⟨fun _=>rfl,fun n f=>absurd rfl f⟩,fun U2 g Z K=>by rw[h U2 g K];rfl⟩
theorem Uni.of{cx o d U}(r:Option AV)(h:∀U2,a2l (a0q o) U U2->∀{Z:Type}(K:AE->Rs Z),aop cx true o U2 K=r.elim .none fun v=>K (U2.set d v)):Uni cx o d U:=by
 cases r with
 |none=>exact Uni.none h
 |some v=>exact Uni.put (.one v) h
theorem e5w{Z:Type}{U2:AE}{d:Nat}{r:Root}{v:AV}{K:AE->Rs Z}:(U2.fresh true d r fun U=>K (U.set d v))=c1E (some ⟨[(d,r)],.one v⟩) d U2 K:=by
 unfold AE.fresh c1E;cases hd:decide (d<pinned)
 grind
 ·simp[hd];cases hr:U2.rt d with
  |some r0=>simp
  |none=>
   simp
   congr 1;simp only[AE.newRt,hr,AE.setRt,AE.set,AE.put,Dl.app];congr 1;funext n;simp[find]
   grind
theorem Uni.ofFresh{cx o d U}(r:Root)(v:AV)(hv:v.firm=false)(h:∀U2,a2l (a0q o) U U2->∀{Z:Type}(K:AE->Rs Z),aop cx true o U2 K=U2.fresh true d r fun U=>K (U.set d v)):Uni cx o d U:=
 ⟨some ⟨[(d,r)],.one v⟩,(fun δ e=>by
  cases e;refine⟨fun k=>?_,fun n g=>?_⟩;simp_all[SV.firm];simp only[find]at g
  by_cases e:d=n
  subst e;exact a18
  grind),fun U2 f Z K=>by simp_all[e5w]⟩
def a7E(t:Ty)(a:AV):Option t.den:=match a with
 |.val t' x=>castTo t' t x
 |.nils=>match t with
  |.list false _=>some []
  |.nl _=>some []
  |_=>none
 |.empt=>match t with
  |.list false _=>some []
  |_=>none
 |_=>none
theorem c3s{Z:Type}(U:AE)(t:Ty)(a:AV)(K:t.den->AE->Rs Z):U.asV true t a K=(a7E t a).elim none fun x=>K x U:=by
 cases a with
 |val t' x=>grind[AE.asV,a7E]
 |nils=>cases t with
  |list o e=>cases o<;>rfl
  |_=>rfl
 |empt=>cases t with
  |list o e=>cases o<;>rfl
  |_=>rfl
 |sref n p=>cases p<;>simp[AE.asV,a7E]
 |swin n p o k=>cases p<;>simp[AE.asV,a7E]
 |_=>rfl
def b1k(f:Operand->AV)(t:Ty):List (Nat×Operand)->t.den->Option t.den
 | [],x=>some x
 |(i,o)::r,x=>bif AE.pathOk t i then(match a0T t x (AE.pathOf t i)with
  |⟨t',_⟩=>(a7E t' (f o)).elim none fun y=>b1k f t r (a1T t x (AE.pathOf t i) t' y))else none
theorem c8G{Z:Type}(U:AE)(t:Ty):∀(ps:List (Nat×Operand)) (x:t.den) (K:t.den->AE->Rs Z),U.fills true t ps x K=(b1k U.opd t ps x).elim none fun y=>K y U
 | [],x,K=>rfl
 |(i,o)::r,x,K=>by
  simp[AE.fills,b1k];cases AE.pathOk t i;rfl
  ·simp
   rw[c3s];cases a7E _ (U.opd o)with
   |none=>rfl
   |some y=>exact c8G U t r _ K
theorem b6r(f g:Operand->AV)(t:Ty):∀(ps:List (Nat×Operand)) (x:t.den),(∀p∈ps,f p.2=g p.2)->b1k f t ps x=b1k g t ps x
 | [],x,_=>rfl
 |(i,o)::r,x,h=>by
  simp[b1k];rw[h (i,o) (by simp)];cases AE.pathOk t i;rfl
  ·simp
   cases a7E _ (g o)with
   |none=>rfl
   |some y=>exact b6r f g t r _ fun p hp=>h p (by simp[hp])
def c5r(f:Operand->AV)(e:Ty)(n:Nat):List (Nat×Operand)->List e.den->Option (List e.den)
 | [],x=>some x
 |(i,o)::r,x=>bif decide (i<n)then(a7E e (f o)).elim none fun y=>c5r f e n r (x.set i y)else none
theorem d1Y{Z:Type}(U:AE)(e:Ty)(n:Nat):∀(ps:List (Nat×Operand)) (x:List e.den) (K:List e.den->AE->Rs Z),U.lit true e n ps x K=(c5r U.opd e n ps x).elim none fun y=>K y U
 | [],x,K=>rfl
 |(i,o)::r,x,K=>by
  simp[AE.lit,c5r];cases decide (i<n);rfl
  ·simp
   rw[c3s];cases a7E _ (U.opd o)with
   |none=>rfl
   |some y=>exact d1Y U e n r _ K
theorem b5K(f g:Operand->AV)(e:Ty)(n:Nat):∀(ps:List (Nat×Operand)) (x:List e.den),(∀p∈ps,f p.2=g p.2)->c5r f e n ps x=c5r g e n ps x
 | [],x,_=>rfl
 |(i,o)::r,x,h=>by
  simp[c5r];rw[h (i,o) (by simp)];cases decide (i<n);rfl
  ·simp
   cases a7E _ (g o)with
   |none=>rfl
   |some y=>exact b5K f g e n r _ fun p hp=>h p (by simp[hp])
def a5w(lk:Nat->Option Root)(n:Nat)(p:a0C):Option ((e:Ty)×List e.den):=match lk n with
 |some r=>match a0T r.t r.x p with
  |⟨.list true e,l⟩=>some ⟨e,l⟩
  |_=>none
 |none=>none
theorem a8I{Z:Type}(U:AE)(n:Nat)(p:a0C)(K:(e:Ty)->List e.den->Rs Z):U.body n p K=(a5w U.look n p).elim none fun x=>K x.1 x.2:=by
 unfold AE.body a5w
 grind
theorem c3t{Z:Type}(U:AE)(n:Nat)(p:a0C)(K:(e:Ty)->List e.den->Rs Z):U.bodyP n p K=(a5w U.rt n p).elim none fun x=>K x.1 x.2:=by
 unfold AE.bodyP a5w;cases U.rt n with
 |none=>rfl
 |some r=>
  simp only[];generalize a0T r.t r.x p=X;obtain⟨h,l⟩:=X;cases h with
  |list o e=>cases o<;>rfl
  |_=>rfl
def b1F(lk:Nat->Option Root)(t:Ty)(a:AV):Option t.den:=match a with
 |.val t' x=>castTo t' t x
 |.nils=>match t with
  |.list false _=>some []
  |.nl _=>some []
  |_=>none
 |.empt=>match t with
  |.list false _=>some []
  |_=>none
 |.sref n p=>(a5w lk n p).elim none fun x=>if h:Ty.list false x.1.sh=t then some (h▸Ty.shx (.list false x.1) x.2)else none
 |.swin n p o k=>(a5w lk n p).elim none fun x=>if h:Ty.list false x.1.sh=t then some (h▸Ty.shx (.list false x.1) ((x.2.drop o).take k))else none
 |_=>none
theorem e0m{Z:Type}(U:AE)(t:Ty)(a:AV)(K:t.den->Rs Z):U.view t a K=(b1F U.look t a).elim none K:=by
 cases a with
 |val t' x=>grind[AE.view,b1F]
 |nils=>cases t with
  |list o e=>cases o<;>rfl
  |_=>rfl
 |empt=>cases t with
  |list o e=>cases o<;>rfl
  |_=>rfl
 |sref n p=>
  simp[AE.view,b1F,a5w]
  grind
 |swin n p o k=>
  simp[AE.view,b1F,a5w]
  grind
 |_=>rfl
theorem a5D{lk lk':Nat->Option Root}{n:Nat}(h:lk' n=lk n)(p:a0C):a5w lk' n p=a5w lk n p:=by simp only[a5w,h]
theorem c4i{lk lk':Nat->Option Root}{t:Ty}{a:AV}(h:∀n∈a.refs,lk' n=lk n):b1F lk' t a=b1F lk t a:=by
 cases a with
 |sref n p=>simp_all[b1F,a5D,AV.refs]
 |swin n p o k=>simp_all[b1F,a5D,AV.refs]
 |_=>rfl
def a9Z(lk:Nat->Option Root)(e:Ty)(a:AV):Option (List e.den):=match a with
 |.val (.list false t') x=>if h:t'=e then some (h▸(show List t'.den from x))else none
 |.nils|.empt=>some []
 |.sref n p=>(a5w lk n p).elim none fun x=>if h:x.1=e then some (h▸x.2)else none
 |.swin n p o k=>(a5w lk n p).elim none fun x=>if h:x.1=e then some (List.take k (List.drop o (h▸x.2)))else none
 |_=>none
theorem b8R{Z:Type}(U:AE)(e:Ty)(a:AV)(K:List e.den->Rs Z):U.elems e a K=(a9Z U.look e a).elim none K:=by
 cases a with
 |val t' x=>cases t' with
  |list o t'=>
   cases o
   all_goals grind[AE.elems,a9Z]
  |_=>rfl
 |sref n p=>
  simp[AE.elems,a9Z,a5w]
  grind
 |swin n p o k=>
  simp[AE.elems,a9Z,a5w]
  grind
 |_=>rfl
theorem b6s{lk lk':Nat->Option Root}{e:Ty}{a:AV}(h:∀n∈a.refs,lk' n=lk n):a9Z lk' e a=a9Z lk e a:=by
 cases a with
 |sref n p=>simp_all[a9Z,a5D,AV.refs]
 |swin n p o k=>simp_all[a9Z,a5D,AV.refs]
 |val t' x=>cases t' with
  |list o t'=>cases o<;>rfl
  |_=>rfl
 |_=>rfl
section
variable {cx:Cx} {o:Oper} {d:Nat} {U:AE}
theorem e2m{x:Operand}(h:o.op=.move x)(a:o.dst=some d):Uni cx o d U:=by
 have b:x∈o.op.operands.toList:=by simp[h,Op.operands]
 cases x with
 |tmp t=>exact Uni.put (U.sl t) fun U2 k Z K=>by simp[aop,h,a];rw[(k.2 t (a2w b)).1]
 |const v=>exact Uni.put (.one (U.opd (.const v))) fun U2 k Z K=>by simp[aop,h,a];rfl
 |global g=>exact Uni.put (.one (.glob g)) fun U2 k Z K=>by simp[aop,h,a];rfl
 |func f=>exact Uni.put (.one .dead) fun U2 k Z K=>by simp[aop,h,a];rfl
theorem e3X{Z:Type}(U:AE)(v:AV)(K:AE->Rs Z):U.asg true cx d v K=K (U.set d v):=by
 unfold AE.asg;split;rename_i r;split;cases hrd:(r==d)
 simp
 simp
 rfl;rename_i r k;split
 simp
 rfl;split
 simp
 rfl;rfl
theorem d7t{x:Operand}(g:o.op=.assign x)(f:o.dst=some d):Uni cx o d U:=by
 have k:x∈o.op.operands.toList:=by simp[g,Op.operands]
 cases x with
 |tmp t=>
  have a:∀U2,a2l (a0q o) U U2->U2.sl t=U.sl t:=fun U2 h=>(h.2 t (a2w k)).1;cases hv:U.sl t with
  |one v=>exact Uni.put (.one v) fun U2 h Z K=>by simp[aop,g,f,AE.sopd,a U2 h,hv];rw[e3X];rfl
  |cmp c vs=>exact Uni.put (.cmp c vs) fun U2 h Z K=>by simp_all[aop,AE.sopd]
 |_=>exact Uni.put (.one (U.opd _)) fun U2 h Z K=>by simp only[aop,g,f,AE.sopd];rw[e3X,h.opd k];rfl
theorem d2H{fn:Fn}{first caps:Array Operand}(k:o.op=.makeFunc fn first caps)(g:o.dst=some d):Uni cx o d U:=by
 cases fn with
 |func f=>
  cases hf:first.isEmpty with
  |false=>exact Uni.none fun U2 h Z K=>by simp only[aop,k,g,hf,cF]
  |true=>
   refine Uni.put (.cmp (.clo f) (caps.toList.map U.opd)) fun U2 h Z K=>?_
   simp[aop,k,g,hf]
   have:caps.toList.map U2.opd=caps.toList.map U.opd:=a07 fun x a=>h.opd (by
    simp_all[Op.operands])
   grind
 |_=>simp_all[Uni.none,aop]
theorem e6M{Z:Type}(c x y:AV)(K:AV->Rs Z):c3m c x y K=(c3m c x y some).elim none K:=by
 unfold c3m
 grind
theorem e2n{c x y:Operand}(h:o.op=.pick c x y)(k:o.dst=some d):Uni cx o d U:=by
 have f:c∈o.op.operands.toList:=by simp[h,Op.operands]
 have a:x∈o.op.operands.toList:=by simp[h,Op.operands]
 have b:y∈o.op.operands.toList:=by simp[h,Op.operands]
 refine Uni.of (c3m (U.opd c) (U.opd x) (U.opd y) some) fun U2 g Z K=>?_
 simp[aop,h,k,g.opd f,g.opd a,g.opd b];exact e6M _ _ _ _
theorem e0n{t:TypeId}(f:o.op=.alloc t)(g:o.dst=some d):Uni cx o d U:=by
 cases ht:cx.own d t with
 |none=>simp_all[Uni.none,aop]
 |some t'=>exact Uni.ofFresh ⟨true,t',t'.dflt⟩ (.ptr d []) rfl fun U2 h Z K=>by simp_all[aop]
theorem e5x{t:TypeId}{x:Operand}(g:o.op=.box t x)(f:o.dst=some d):Uni cx o d U:=by
 have k:x∈o.op.operands.toList:=by simp[g,Op.operands]
 cases ht:cx.T t with
 |none=>simp_all[Uni.none,aop]
 |some t'=>
  cases ha:a7E t' (U.opd x)with
  |none=>exact Uni.none fun U2 h Z K=>by simp[aop,g,f,ht];rw[c3s,h.opd k,ha];rfl
  |some y=>
   cases hk:cx.K d with
   |true=>exact Uni.put (.one (.vptr t' y)) fun U2 h Z K=>by simp[aop,g,f,ht];rw[c3s,h.opd k,ha];simp[hk,AE.set]
   |false=>exact Uni.ofFresh ⟨true,t',y⟩ (.ptr d []) rfl fun U2 h Z K=>by simp[aop,g,f,ht];rw[c3s,h.opd k,ha];grind
theorem a8d{t:TypeId}{ps:Array (Nat×Operand)}(h:o.op=.build t ps\/∃n,o.op=.buildSlice t n ps):∀p∈ps.toList,p.2∈o.op.operands.toList:=by
 intro p hp;rcases h with h|⟨n,h⟩<;>rw[h]<;>simp only[Op.operands]<;>exact a20.2 ⟨p,hp,rfl⟩
theorem b0A{U U2:AE}:∀(τ:Ty)(k:Nat)(ps:List (Nat×Operand)),(∀p∈ps,U2.opd p.2=U.opd p.2)->U2.aggV k τ ps=U.aggV k τ ps
 |.pair u v,k,[],_=>by simp only[AE.aggV];rw[b0A v (k+1) [] (by simp)]
 |.pair u v,k,(i,o)::r,h=>by
  simp only[AE.aggV];rw[b0A v (k+1) r fun p hp=>h p (by simp[hp]),b0A v (k+1) ((i,o)::r) h,h (i,o) (by simp)]
 |.unit,_,[],_=>rfl
 |.unit,_,_::_,_=>rfl
 |.int _,_,_,_=>rfl
 |.bool,_,_,_=>rfl
 |.str,_,_,_=>rfl
 |.list _ _,_,_,_=>rfl
 |.arr _ _,_,_,_=>rfl
 |.nl _,_,_,_=>rfl
theorem e0o{t:TypeId}{ps:Array (Nat×Operand)}(h:o.op=.build t ps)(f:o.dst=some d):Uni cx o d U:=by
 cases hn:cx.nlT d t with
 |some t'=>
  cases hagg:t'.isAgg with
  |false=>simp_all[Uni.none,aop]
  |true=>
   refine Uni.of ((b1k U.opd t' ps.toList t'.dflt).map fun y=>.val t' y) fun U2 g Z K=>?_
   simp only[aop,h,f,hn,hagg,cT];rw[c8G,b6r U2.opd U.opd t' _ _ fun p hp=>g.opd (a8d (.inl h) p hp)];cases b1k U.opd t' ps.toList t'.dflt<;>rfl
 |none=>
 cases hO:cx.O d with
 |some t'=>
  by_cases hT:cx.T t=some t'.sh
  ·cases hv:U.aggV 0 t' ps.toList with
   |none=>exact Uni.none fun U2 g Z K=>by simp only[aop,h,f,hn,hO,if_pos hT,b0A t' 0 _ fun p hp=>g.opd (a8d (.inl h) p hp),hv]
   |some vs=>
    cases hc:decide (0<t'.cells)with
    |false=>exact Uni.none fun U2 g Z K=>by simp only[aop,h,f,hn,hO,if_pos hT,b0A t' 0 _ fun p hp=>g.opd (a8d (.inl h) p hp),hv,hc,cF]
    |true=>exact Uni.put (.cmp .agg vs) fun U2 g Z K=>by simp only[aop,h,f,hn,hO,if_pos hT,b0A t' 0 _ fun p hp=>g.opd (a8d (.inl h) p hp),hv,hc,cT]
  exact Uni.none fun U2 g Z K=>by simp only[aop,h,f,hn,hO,if_neg hT]
 |none=>
 cases ht:cx.T t with
 |none=>exact Uni.none fun U2 g Z K=>by simp only[aop,h,f,hn,hO,ht]
 |some t'=>
  cases hagg:t'.isAgg with
  |false=>exact Uni.none fun U2 g Z K=>by simp[aop,h,f,hn,hO,ht,hagg]
  |true=>
   refine Uni.of ((b1k U.opd t' ps.toList t'.dflt).map fun y=>.val t' y) fun U2 g Z K=>?_
   simp only[aop,h,f,hn,hO,ht,hagg,cT];rw[c8G,b6r U2.opd U.opd t' _ _ fun p hp=>g.opd (a8d (.inl h) p hp)];cases b1k U.opd t' ps.toList t'.dflt<;>rfl
theorem c8H{t:TypeId}{n:Nat}{ps:Array (Nat×Operand)}(h:o.op=.buildSlice t n ps)(f:o.dst=some d):Uni cx o d U:=by
 cases ht:cx.T t with
 |none=>simp_all[Uni.none,aop]
 |some t'=>
  cases t' with
  |list o' e=>
   cases hc:(lim n&&decide (n*e.cells<=16777216))with
   |false=>exact Uni.none fun U2 g Z K=>by simp only[aop,h,f,ht,hc,cF,cT,a49]
   |true=>
    cases hl:c5r U.opd e n ps.toList (a45 n e.dflt)with
    |none=>
     exact Uni.none fun U2 g Z K=>by
      simp[aop,h,f,ht,hc];rw[d1Y,b5K U2.opd U.opd e n _ _ (fun p hp=>g.opd (a8d (.inr ⟨n,h⟩) p hp)),hl];rfl
    |some y=>
     cases hK:cx.K d with
     |true=>
      exact Uni.put (.one (.val (.list false e) y)) fun U2 g Z K=>by
       simp[aop,h,f,ht,hc,hK];rw[d1Y,b5K U2.opd U.opd e n _ _ (fun p hp=>g.opd (a8d (.inr ⟨n,h⟩) p hp)),hl];rfl
     |false=>
      exact Uni.ofFresh ⟨false,.list true e,y⟩ (.sref d []) rfl fun U2 g Z K=>by
       simp[aop,h,f,ht,hc,hK];rw[d1Y,b5K U2.opd U.opd e n _ _ (fun p hp=>g.opd (a8d (.inr ⟨n,h⟩) p hp)),hl];rfl
  |_=>exact Uni.none fun U2 g Z K=>by simp only[aop,h,f,ht]
def c5s(lk:Nat->Option Root)(ty:Ty)(a:AV):Option AV:=match a with
 |.vptr t x=>if t=ty then some (.val t x)else none
 |.ptr n p=>match lk n with
  |some r=>match a0T r.t r.x p with
   |⟨.list true _,_⟩=>if ty.isList then some (.sref n p)else none
   |⟨t,y⟩=>if t.sh=ty/\t.shn=t then some (.val t y)else none
  |none=>none
 |_=>none
theorem e8S{Z:Type}(U:AE)(ty:Ty)(a:AV)(K:AV->AE->Rs Z):U.lodK true ty a K=(c5s U.look ty a).elim none fun v=>K v U:=by
 cases a with
 |vptr t x=>grind[AE.lodK,c5s]
 |ptr n p=>
  simp[AE.lodK,c5s]
  grind
 |_=>rfl
theorem e2o{t:TypeId}{x:Operand}(f:o.op=.load t x)(a:o.dst=some d):Uni cx o d U:=by
 have k:x∈o.op.operands.toList:=by simp[f,Op.operands]
 cases ht:cx.T t with
 |none=>simp_all[Uni.none,aop]
 |some ty=>
  refine Uni.of (c5s U.look ty (cx.glob (U.opd x))) fun U2 h Z K=>?_
  simp[aop,f,a,ht];rw[e8S,h.opd k]
  have:c5s U2.look ty (cx.glob (U.opd x))=c5s U.look ty (cx.glob (U.opd x)):=by
   have b:=fun n c=>h.look (n:=n) k c
   revert b
   cases U.opd x with
   |ptr n p=>simp_all[Cx.glob,c5s,AV.refs]
   |glob g=>
    intro _;simp[Cx.glob]
    split<;>rfl
   |_=>intro _;rfl
  grind
theorem d2I{x:Operand}(h:o.op=.nilCheck x)(f:o.dst=some d):Uni cx o d U:=by
 have k:x∈o.op.operands.toList:=by simp[h,Op.operands]
 refine Uni.of (match U.opd x with|.ptr n p=>some (.ptr n p)|.vptr t y=>some (.vptr t y)|_=>none) fun U2 g Z K=>?_
 simp[aop,h,f,g.opd k]
 grind
theorem e2p{Z:Type}(h:BinOp)(k:IntKind)(x y:Int)(K:AV->Rs Z):b4M h k x y K=(b4M h k x y some).elim none K:=by
 cases h<;>simp only[b4M]<;>first|rfl|(cases (y==0)<;>rfl)|grind
theorem e2q{Z:Type}(g:BinOp)(ty:Nat)(t:Ty)(x:t.den)(h:Ty)(y:h.den)(K:AV->Rs Z):b8J cx g ty t x h y K=(b8J cx g ty t x h y some).elim none K:=by
 grind[b8J]
theorem e6N{Z:Type}(h:BinOp)(ty:Nat)(a b:AV)(K:AV->Rs Z):b2G cx h ty a b K=(b2G cx h ty a b some).elim none K:=by
 unfold b2G;split
 grind[e2p]
 grind
 grind
 all_goals grind[e2q]
theorem e0p{op:BinOp}{t s:TypeId}{x y:Operand}(g:o.op=.binOp op t x y s)(f:o.dst=some d):Uni cx o d U:=by
 have k:x∈o.op.operands.toList:=by simp[g,Op.operands]
 have a:y∈o.op.operands.toList:=by simp[g,Op.operands]
 cases hl:d6o (cx.T t)with
 |true=>
  cases hn:d2l (cx.T t) (U.opd x) (U.opd y)with
  |some e=>exact Uni.none fun U2 h Z K=>by simp only[aop,g,f,h.opd k,h.opd a,hl,hn,cT,if_true]
  |none=>exact Uni.none fun U2 h Z K=>by simp only[aop,g,f,h.opd k,h.opd a,hl,hn,cT]
 |false=>
  refine Uni.of (b2G cx op t (U.opd x) (U.opd y) some) fun U2 h Z K=>?_
  simp[aop,g,f,h.opd k,h.opd a,hl];exact e6N _ _ _ _ _
theorem f1w{Z:Type}(h:UnOp)(a:AV)(K:AV->Rs Z):AE.un h a K=(AE.un h a some).elim none K:=by
 unfold AE.un
 grind
theorem e2r{op:UnOp}{t:TypeId}{x:Operand}(h:o.op=.unOp op t x)(f:o.dst=some d):Uni cx o d U:=by
 have k:x∈o.op.operands.toList:=by simp[h,Op.operands]
 refine Uni.of (AE.un op (U.opd x) some) fun U2 g Z K=>?_
 simp[aop,h,f,g.opd k];exact f1w _ _ _
theorem e6O{Z:Type}(U:AE)(s t:Nat)(g f:Option Ty)(a:AV)(K:AV->Rs Z)(h:Root->Rs Z):U.convK s t g f a K h=(U.convK s t g f a (fun v=>some (Sum.inl v)) (fun r=>some (Sum.inr r)):Option (AV ⊕ Root)).elim none fun y=>match y with
  |.inl v=>K v
  |.inr r=>h r:=by
 unfold AE.convK;split;rfl
 grind
 rfl
 grind
 rw[b8R,b8R (Z:=AV ⊕ Root)];generalize a9Z U.look (.int .u8) _=r;cases r<;>rfl;rfl
theorem d7u{Z:Type}{U U2:AE}(s t:Nat)(f k:Option Ty){a:AV}(h:∀n∈a.refs,U2.look n=U.look n)(K:AV->Rs Z)(g:Root->Rs Z):U2.convK s t f k a K g=U.convK s t f k a K g:=by
 unfold AE.convK
 grind[AV.refs,b8R,b6s]
theorem d4U{s t:TypeId}{x:Operand}(g:o.op=.convert s t x)(k:o.dst=some d):Uni cx o d U:=by
 have f:x∈o.op.operands.toList:=by simp[g,Op.operands]
 have run:∀U2,a2l (a0q o) U U2->∀{Z:Type}(K:AE->Rs Z),aop cx true o U2 K=(U.convK s t (cx.T s) (cx.T t) (U.opd x) (fun v=>some (Sum.inl v)) (fun r=>some (Sum.inr r)):Option (AV ⊕ Root)).elim none fun y=>match y with
   |.inl v=>K (U2.set d v)
   |.inr r=>U2.fresh true d r fun U=>K (U.set d (.sref d [])):=fun U2 h Z K=>by
  simp[aop,g,k,h.opd f,AE.conv];rw[e6O,d7u s t _ _ fun n a=>h.look f a]
 revert run
 generalize (U.convK s t (cx.T s) (cx.T t) (U.opd x) (fun v=>some (Sum.inl v)) (fun r=>some (Sum.inr r)):Option (AV ⊕ Root))=r;cases r with
 |none=>simp_all[Uni.none]
 |some y=>
  cases y with
  |inl v=>exact fun run=>Uni.put (.one v) run
  |inr r=>exact fun run=>Uni.ofFresh r (.sref d []) rfl run
end
section
variable {cx:Cx} {o:Oper} {d:Nat} {U:AE}
theorem d6z{Z:Type}(a:AV)(t:Ty)(K:t.den->Rs Z):a.isVal t K=(a.isVal t some).elim none K:=by
 cases a with
 |val t' x=>grind[AV.isVal]
 |_=>rfl
theorem d1a{t:TypeId}{n c:Operand}(g:o.op=.makeSlice t n c)(f:o.dst=some d):Uni cx o d U:=by
 have a:n∈o.op.operands.toList:=by simp[g,Op.operands]
 have k:c∈o.op.operands.toList:=by simp[g,Op.operands]
 cases ht:cx.own d t with
 |none=>simp_all[Uni.none,aop]
 |some t'=>
  cases t' with
  |list o' e=>
   have run:∀U2,a2l (a0q o) U U2->∀{Z:Type}(K:AE->Rs Z),aop cx true o U2 K=((U.opd n).isVal (.int .i64) some).elim none fun(x:Int)=>((U.opd c).isVal (.int .i64) some).elim none fun(y:Int)=>
     bif decide (0<=x)&&(decide (x<=y)&&lim y.toNat)then U2.fresh true d ⟨false,.list true e,a45 x.toNat e.dflt⟩ fun U=>K (U.set d (.sref d []))else none:=fun U2 h Z K=>by
    simp[aop,g,f,ht,h.opd a,h.opd k];refine(d6z _ (.int .i64) _).trans ?_
    grind[d6z]
   revert run
   generalize (U.opd n).isVal (.int .i64) some=rx;generalize (U.opd c).isVal (.int .i64) some=ry;intro run;cases rx with
   |none=>exact Uni.none run
   |some x=>
    cases ry with
    |none=>exact Uni.none run
    |some y=>
     cases hb:(decide (0<=(show Int from x))&&(decide ((show Int from x)<=(show Int from y))&&lim (show Int from y).toNat))with
     |false=>
      grind[Uni.none]
     |true=>
      refine Uni.ofFresh ⟨false,.list true e,a45 (show Int from x).toNat e.dflt⟩ (.sref d []) rfl fun U2 h Z K=>(run U2 h K).trans ?_
      grind
  |_=>exact Uni.none fun U2 h Z K=>by simp only[aop,g,f,ht]
theorem d1Z{Z:Type}(U:AE)(h g:Nat)(x:Option Operand)(K:Nat->Rs Z):U.bnd h g x K=(U.bnd h g x some).elim none K:=by
 cases x with
 |none=>rfl
 |some x=>
  simp[AE.bnd]
  grind
theorem a8J{Z:Type}(U:AE)(g:Nat)(lo hi:Option Operand)(K:Nat->Nat->Rs Z):U.bnds g lo hi K=(U.bnds g lo hi fun x y=>some (x,y)).elim none fun p=>K p.1 p.2:=by
 unfold AE.bnds;rw[d1Z,d1Z (Z:=Nat×Nat)];cases U.bnd g g hi some with
 |none=>rfl
 |some h=>
  simp[a22];rw[d1Z,d1Z (Z:=Nat×Nat)];cases U.bnd h 0 lo some<;>rfl
theorem d7v{Z:Type}{U U2:AE}{lo hi:Option Operand}(k:∀x,lo=some x->U2.opd x=U.opd x)(f:∀x,hi=some x->U2.opd x=U.opd x)(h:Nat)(K:Nat->Nat->Rs Z):U2.bnds h lo hi K=U.bnds h lo hi K:=by
 have one:∀(x:Option Operand),(∀y,x=some y->U2.opd y=U.opd y)->∀(l g:Nat){Z:Type}(K:Nat->Rs Z),U2.bnd l g x K=U.bnd l g x K:=by
  intro x a l g Z K;cases x with
  |none=>rfl
  |some y=>simp[AE.bnd];simp_all
 unfold AE.bnds;simp_all
theorem e6P{Z:Type}(U:AE)(ty:Option Ty)(a:AV)(lo hi h:Option Operand)(K:AV->Rs Z):U.slic ty a lo hi h K=(U.slic ty a lo hi h some).elim none K:=by
 unfold AE.slic;cases h with
 |some m=>
  simp
  cases (b8K (some m)&&b8K hi&&lo.isNone);rfl;simp[c3l]
  grind
 |none=>
  simp
  cases a with
  |val t l=>
   cases t with
   |str=>
    simp
    split;rw[a8J,a8J (Z:=AV)];generalize (U.bnds _ lo hi fun x y=>some (x,y):Option (Nat×Nat))=r;cases r<;>rfl;rfl
   |list o e=>
    cases o
    simp
    split;rw[a8J,a8J (Z:=AV)];generalize (U.bnds _ lo hi fun x y=>some (x,y):Option (Nat×Nat))=r;cases r<;>rfl;rfl;rfl
   |_=>rfl
  |nils=>
   cases ty with
   |none=>rfl
   |some t=>
    cases t with
    |list o e=>
     simp
     rw[a8J,a8J (Z:=AV)];generalize (U.bnds _ lo hi fun x y=>some (x,y):Option (Nat×Nat))=r;cases r<;>rfl
    |_=>rfl
  |sref n p=>
   simp
   rw[a8I,a8I (Z:=AV)];cases a5w U.look n p with
   |none=>rfl
   |some x=>
    simp[a22];split;cases lo<;>cases hi<;>simp only[]<;>(try rfl)<;>(rw[a8J,a8J (Z:=AV)];generalize (U.bnds _ _ _ fun x y=>some (x,y):Option (Nat×Nat))=r;cases r<;>rfl)
    rfl
  |swin n p o k=>
   simp
   rw[a8I,a8I (Z:=AV)];cases a5w U.look n p with
   |none=>rfl
   |some x=>
    simp[a22];split;rw[a8J,a8J (Z:=AV)];generalize (U.bnds _ _ _ fun x y=>some (x,y):Option (Nat×Nat))=r;cases r<;>rfl;rfl
  |vptr t l=>
   cases t with
   |arr n e=>
    simp
    split;rw[a8J,a8J (Z:=AV)];generalize (U.bnds _ lo hi fun x y=>some (x,y):Option (Nat×Nat))=r;cases r<;>rfl;rfl
   |_=>rfl
  |_=>rfl
theorem d7w{Z:Type}{U U2:AE}{a:AV}{lo hi:Option Operand}(b:∀n∈a.refs,U2.look n=U.look n)(g:∀x,lo=some x->U2.opd x=U.opd x)(h:∀x,hi=some x->U2.opd x=U.opd x)(ty:Option Ty)(f:Option Operand)(K:AV->Rs Z):
  U2.slic ty a lo hi f K=U.slic ty a lo hi f K:=by
 have hb:=fun(len:Nat) {Z:Type} (K:Nat->Nat->Rs Z)=>d7v (U:=U) (U2:=U2) g h len K;unfold AE.slic;cases f with
 |some m=>rfl
 |none=>
  simp
  cases a with
  |val t l=>
   cases t with
   |str=>simp_all
   |list o e=>grind
   |_=>rfl
  |nils=>
   simp_all
  |sref n p=>
   simp
   rw[a8I,a8I,a5D (b n (by simp[AV.refs]))]
   grind
  |swin n p o k=>
   simp only[];rw[a8I,a8I,a5D (b n (by simp[AV.refs]))];simp only[hb]
  |vptr t l=>
   grind
  |_=>rfl
theorem e0q{t:TypeId}{x:Operand}{lo hi mx:Option Operand}(a:o.op=.slice t x lo hi mx)(c:o.dst=some d):Uni cx o d U:=by
 have b:x∈o.op.operands.toList:=by simp[a,Op.operands]
 have k:∀y,lo=some y->y∈o.op.operands.toList:=fun y h=>by simp_all[Op.operands]
 have f:∀y,hi=some y->y∈o.op.operands.toList:=fun y h=>by simp_all[Op.operands]
 refine Uni.of (U.slic (cx.T t) (U.opd x) lo hi mx some) fun U2 g Z K=>?_
 simp[aop,a,c,g.opd b];rw[d7w (fun n e=>g.look b e) (fun y h=>g.opd (k y h)) (fun y h=>g.opd (f y h))]
 grind[e6P]
theorem d1b{s:TypeId}{x:Operand}{f:Nat}(g:o.op=.fieldAddr s x f)(a:o.dst=some d):Uni cx o d U:=by
 have k:x∈o.op.operands.toList:=by simp[g,Op.operands]
 cases ha:U.opd x with
 |ptr n p=>
  have b:∀U2,a2l (a0q o) U U2->U2.rt n=U.rt n:=fun U2 h=>h.rt k (by rw[ha];simp[AV.refs]);cases hrt:U.rt n with
  |none=>exact Uni.none fun U2 h Z K=>by simp only[aop,g,a,h.opd k,ha,b U2 h,hrt]
  |some r=>
   by_cases hc:a1Z (a0T r.t r.x p).1 f=true/\cx.T s=some (a0T r.t r.x p).1.sh
   exact Uni.put (.one (.ptr n (p++a1l f))) fun U2 h Z K=>by
    simp[aop,g,a,h.opd k,ha,b U2 h,hrt];rw[if_pos hc];rfl
   exact Uni.none fun U2 h Z K=>by
    simp only[aop,g,a,h.opd k,ha,b U2 h,hrt];simp_all
 |vptr t y=>
  by_cases hc:a1Z t f=true/\cx.T s=some t
  exact Uni.put (.one (.vptr (a0T t y (a1l f)).1 (a0T t y (a1l f)).2)) fun U2 h Z K=>by
   simp[aop,g,a,h.opd k,ha];rw[if_pos hc];rfl
  exact Uni.none fun U2 h Z K=>by
   simp only[aop,g,a,h.opd k,ha];simp_all
 |_=>exact Uni.none fun U2 h Z K=>by simp only[aop,g,a,h.opd k,ha]
theorem e0r{s:TypeId}{x:Operand}{f:Nat}(g:o.op=.field s x f)(k:o.dst=some d):Uni cx o d U:=by
 have a:x∈o.op.operands.toList:=by simp[g,Op.operands]
 cases ha:U.opd x with
 |val t y=>
  by_cases hc:a1Z t f=true/\cx.T s=some t
  exact Uni.put (.one (.val (a0T t y (a1l f)).1 (a0T t y (a1l f)).2)) fun U2 h Z K=>by
   simp[aop,g,k,h.opd a,ha];rw[if_pos hc];rfl
  exact Uni.none fun U2 h Z K=>by
   simp only[aop,g,k,h.opd a,ha];simp_all
 |_=>exact Uni.none fun U2 h Z K=>by simp only[aop,g,k,h.opd a,ha]
theorem c3u{α β γ:Type}{o:Option α}{f:α->β}{K:β->Option γ}:(o.bind fun x=>K (f x))=(o.bind fun x=>some (f x)).elim none K:=by cases o<;>rfl
theorem e6Q{Z:Type}(U:AE)(ty:Option Ty)(a:AV)(i:Int)(K:AV->Rs Z):U.addrK ty a i K=(U.addrK ty a i some).elim none K:=by
 cases a with
 |val t l=>
  cases t with
  |list o e=>
   cases o;simp[AE.addrK];split;exact c3u;rfl;rfl
  |_=>rfl
 |sref n p=>
  simp only[AE.addrK];rw[c3t,c3t (Z:=AV)];cases a5w U.rt n p with
  |none=>rfl
  |some x=>
   grind
 |swin n p o k=>
  simp[AE.addrK];rw[a8I,a8I (Z:=AV)];cases a5w U.look n p with
  |none=>rfl
  |some x=>
   grind
 |ptr n p=>
  simp[AE.addrK]
  grind
 |vptr t l=>
  cases t with
  |arr k e=>
   simp[AE.addrK];split;exact c3u;rfl
  |_=>rfl
 |_=>rfl
theorem d7x{Z:Type}{U U2:AE}{a:AV}(h:∀n∈a.refs,U2.look n=U.look n)(g:∀n∈a.refs,U2.rt n=U.rt n)(ty:Option Ty)(i:Int)(K:AV->Rs Z):U2.addrK ty a i K=U.addrK ty a i K:=by
 cases a with
 |sref n p=>simp only[AE.addrK];rw[c3t,c3t,a5D (g n (by simp[AV.refs]))]
 |swin n p o k=>simp only[AE.addrK];rw[a8I,a8I,a5D (h n (by simp[AV.refs]))]
 |ptr n p=>simp_all[AE.addrK,AV.refs]
 |val t l=>
  cases t with
  |list o e=>cases o<;>rfl
  |_=>rfl
 |vptr t l=>cases t<;>rfl
 |_=>rfl
theorem d1c{t:TypeId}{x i:Operand}(c:o.op=.indexAddr t x i)(j:o.dst=some d):Uni cx o d U:=by
 have e:x∈o.op.operands.toList:=by simp[c,Op.operands]
 have hi:i∈o.op.operands.toList:=by simp[c,Op.operands]
 have l:(∀k y,U.opd i≠.val (.int k) y)->Uni cx o d U:=fun h=>Uni.none fun U2 f Z K=>by
  simp[aop,c,j,f.opd hi]
  grind
 cases ha:U.opd i with
 |val t' y=>
  cases t' with
  |int k=>
   refine Uni.of (U.addrK (cx.T t) (cx.glob (U.opd x)) (show Int from y) some) fun U2 f Z K=>?_
   simp[aop,c,j,f.opd hi,f.opd e,ha];have a:∀n∈(cx.glob (U.opd x)).refs,n∈(U.opd x).refs:=fun n b=>by
    revert b
    cases U.opd x with
    |glob g=>
     simp[Cx.glob]
     split<;>exact fun h=>h
    |_=>exact id
   exact(d7x (fun n b=>f.look e (a n b)) (fun n b=>f.rt e (a n b)) (cx.T t) (show Int from y) _).trans (e6Q _ _ _ _ _)
  |_=>exact l (by rw[ha];intro k y h;cases h)
 |_=>exact l (by rw[ha];intro k y h;cases h)
def c1F{Z:Type}(ty:Option Ty)(x i:AV)(K:AV->Rs Z):Rs Z:=match x,i with
 |.val (.arr n t) l,.val (.int _) (i:Int)=>if ty=some (.arr n t)then(a0m l i).bind fun y=>K (.val t y)else none
 |.val .str (l:List Int),.val (.int _) (i:Int)=>if ty=some .str then(a0m l i).bind fun y=>K (.val (.int .u8) y)else none
 |_,_=>none
theorem e2s{Z:Type}(ty:Option Ty)(x i:AV)(K:AV->Rs Z):c1F ty x i K=(c1F ty x i some).elim none K:=by
 unfold c1F;split;split;exact c3u;rfl;split;exact c3u;rfl;rfl
theorem e0s{s:TypeId}{x i:Operand}(h:o.op=.index s x i)(f:o.dst=some d):Uni cx o d U:=by
 have k:x∈o.op.operands.toList:=by simp[h,Op.operands]
 have hi:i∈o.op.operands.toList:=by simp[h,Op.operands]
 refine Uni.of (c1F (cx.T s) (U.opd x) (U.opd i) some) fun U2 g Z K=>?_
 have:aop cx true o U2 K=c1F (cx.T s) (U.opd x) (U.opd i) fun v=>K (U2.set d v):=by
  simp[aop,h,f,g.opd k,g.opd hi];rfl
 grind[e2s]
theorem d4V{x:Operand}{i:Nat}(g:o.op=.extract x i)(k:o.dst=some d):Uni cx o d U:=by
 have b:x∈o.op.operands.toList:=by simp[g,Op.operands]
 cases x with
 |tmp t=>
  have a:∀U2,a2l (a0q o) U U2->U2.sl t=U.sl t:=fun U2 h=>(h.2 t (a2w b)).1;cases hv:U.sl t with
  |one v=>simp_all[Uni.none,aop]
  |cmp c vs=>
   cases c with
   |agg=>simp_all[Uni.none,aop]
   |clo f=>simp_all[Uni.none,aop]
   |tup=>
   cases hi:vs[i]? with
   |none=>simp_all[Uni.none,aop]
   |some v=>exact Uni.put (.one v) fun U2 h Z K=>by simp[aop,g,k,a U2 h,hv,hi];rfl
 |_=>simp_all[Uni.none,aop]
end
section
variable {cx:Cx} {o:Oper} {d:Nat} {U:AE}
theorem e8T{Z:Type}(U:AE)(ty:Option Ty)(a:AV)(K:Nat->Rs Z):U.lenK ty a K=(U.lenK ty a some).elim none K:=by
 unfold AE.lenK
 grind
theorem e0t{Z:Type}{U U2:AE}{a:AV}(h:∀n∈a.refs,U2.look n=U.look n)(ty:Option Ty)(K:Nat->Rs Z):U2.lenK ty a K=U.lenK ty a K:=by
 unfold AE.lenK
 grind[AV.refs]
theorem d2J{Z:Type}(f:Int->Int->Int)(k:IntKind):∀(l:List AV)(x:Int)(K:AV->Rs Z),AE.mins f k l x K=(AE.mins f k l x some).elim none K
 | [],x,K=>rfl
 |a::r,x,K=>by
  cases a with
  |val t y=>
   cases t with
   |int k'=>
    simp only[AE.mins];split;exact d2J f k r _ K;rfl
   |_=>rfl
  |_=>rfl
theorem c6H{Z:Type}(U:AE)(e:Ty)(x:AV)(ys:List e.den)(K:AE->Rs Z):U.apnd true d e x ys K=(match x with
  |.nils|.empt=>bif lim ys.length then U.fresh true d ⟨false,.list true e,ys⟩ fun U=>K (U.set d (.sref d []))else none
  |_=>none):=by
 cases x<;>rfl
theorem c5t{e:Ty}{x:AV}{ys:Option (List e.den)}(h:∀U2,a2l (a0q o) U U2->∀{Z:Type}(K:AE->Rs Z),aop cx true o U2 K=ys.elim none fun ys=>U2.apnd true d e x ys K):Uni cx o d U:=by
 cases ys with
 |none=>exact Uni.none h
 |some ys=>
  have h:∀U2,a2l (a0q o) U U2->∀{Z:Type}(K:AE->Rs Z),aop cx true o U2 K=U2.apnd true d e x ys K:=h;cases hl:lim ys.length with
  |false=>grind[Uni.none,c6H]
  |true=>
   cases x with
   |nils=>exact Uni.ofFresh ⟨false,.list true e,ys⟩ (.sref d []) rfl fun U2 g Z K=>by simp_all[c6H]
   |empt=>exact Uni.ofFresh ⟨false,.list true e,ys⟩ (.sref d []) rfl fun U2 g Z K=>by simp_all[c6H]
   |_=>exact Uni.none fun U2 g Z K=>by rw[h U2 g,c6H]
theorem d6A{U2:AE}(h:a2l (a0q o) U U2){c:Call}(g:o.op=.call c):c.args.toList.map U2.opd=c.args.toList.map U.opd:=
 a07 fun x f=>h.opd (by simp_all[Op.operands,Call.operands])
theorem b2l{c:Call}(h:o.op=.call c):∀x∈c.args.toList,x∈o.op.operands.toList:=fun x g=>by
 simp_all[Op.operands,Call.operands]
theorem d4W{c:Call}{b:Builtin}(p:o.op=.call c)(hb:c.callee=.builtin b)(s:o.dst=some d):Uni cx o d U:=by
 have run:∀U2,a2l (a0q o) U U2->∀{Z:Type}(K:AE->Rs Z),aop cx true o U2 K=U2.blt true cx d b c.argTypes.toList (c.args.toList.map U.opd) K:=fun U2 g Z K=>by
  grind[aop,d6A]
 have j:∀a∈c.args.toList.map U.opd,∀n∈a.refs,∀U2,a2l (a0q o) U U2->U2.look n=U.look n:=fun a m n l U2 g=>by
  obtain⟨x,q,rfl⟩:=a20.1 m;exact g.look (b2l p x q) l
 revert run j
 generalize c.args.toList.map U.opd=as;generalize c.argTypes.toList=ts;intro run j;have f:(∀(U2:AE){Z:Type}(K:AE->Rs Z),U2.blt true cx d b ts as K=none)->Uni cx o d U:=fun h=>Uni.none fun U2 g Z K=>by simp_all
 cases b with
 |len=>
  match as with
  | [a]=>
   refine Uni.of ((U.lenK (ts.head?.bind cx.T) a some).map fun n=>.val (.int .i64) (n:Int)) fun U2 g Z K=>?_
   rw[run U2 g];simp only[AE.blt];rw[e8T,e0t fun n l=>j a (by simp) n l U2 g];cases U.lenK (ts.head?.bind cx.T) a some<;>rfl
  | []=>exact f fun U2 Z K=>rfl
  |_::_::_=>exact f fun U2 Z K=>rfl
 |max=>
  match as with
  | []=>exact f fun U2 Z K=>rfl
  |a::r=>
   cases a with
   |val t x=>
    cases t with
    |int k=>exact Uni.of (AE.mins a1s k r x some) fun U2 g Z K=>by rw[run U2 g];exact d2J _ _ _ _ _
    |_=>exact f fun U2 Z K=>rfl
   |_=>exact f fun U2 Z K=>rfl
 |min=>
  match as with
  | []=>exact f fun U2 Z K=>rfl
  |a::r=>
   cases a with
   |val t x=>
    cases t with
    |int k=>exact Uni.of (AE.mins a2P k r x some) fun U2 g Z K=>by rw[run U2 g];exact d2J _ _ _ _ _
    |_=>exact f fun U2 Z K=>rfl
   |_=>exact f fun U2 Z K=>rfl
 |append=>
  match as with
  | []=>exact f fun U2 Z K=>rfl
  | [_]=>exact f fun U2 Z K=>rfl
  |_::_::_::_=>exact f fun U2 Z K=>rfl
  | [a,b]=>
   cases hni:c1m cx ts with
   |false=>
    cases hzl:d2m cx ts a b with
    |none=>exact f fun U2 Z K=>by simp only[AE.blt,hni,b8L,hzl,cF]
    |some w=>
     obtain⟨e,ys⟩:=w;exact c5t (e:=e) (x:=.nils) (ys:=some ys) fun U2 g Z K=>by
      rw[run U2 g];simp only[AE.blt,hni,b8L,hzl,cF];rfl
   |true=>
    cases ht:ts.head?.bind cx.T with
    |none=>simp_all[AE.blt]
    |some τ=>
     cases τ with
     |list o' e=>
      have i:(∀(U2:AE){Z:Type}(K:AE->Rs Z),U2.blt true cx d .append ts [a,b] K=U2.elems e b fun ys=>U2.apnd true d e a ys K)->Uni cx o d U:=fun h=>
       c5t (e:=e) (x:=a) (ys:=a9Z U.look e b) fun U2 g Z K=>by
        simp_all[b8R,b6s]
      cases b with
      |val t y=>
       cases t with
       |str=>
        by_cases he:e=.int .u8
        subst he;exact c5t (e:=.int .u8) (x:=a) (ys:=some y) fun U2 g Z K=>by
         rw[run U2 g];simp only[AE.blt,hni,ht,cT];rfl
        simp_all[AE.blt]
       |_=>exact i fun U2 Z K=>by simp only[AE.blt,hni,ht,cT,a49]
      |_=>exact i fun U2 Z K=>by simp only[AE.blt,hni,ht,cT,a49]
     |_=>exact f fun U2 Z K=>by simp only[AE.blt,hni,ht,cT]
 |cap=>
  match as with
  | []=>exact f fun U2 Z K=>rfl
  |a::_::_=>exact f fun U2 Z K=>by cases a<;>rfl
  | [a]=>
   cases a with
   |nils=>
    refine Uni.of (bif Ty.isList ((ts.head?.bind cx.T).getD .unit)then some (.val (.int .i64) (0:Int))else none) fun U2 g Z K=>?_
    rw[run U2 g];simp only[AE.blt];cases Ty.isList ((ts.head?.bind cx.T).getD .unit)<;>rfl
   |_=>exact f fun U2 Z K=>rfl
 |_=>exact f fun U2 Z K=>by unfold AE.blt;split<;>first|rfl|(rename_i h;cases h)|(rename_i h _;cases h)
def b6t(fz:Bool)(lk:Nat->Option Root):(p:PA)->AV->Option p.ty.den
 |.v t,a=>bif fz then a7E t a else b1F lk t a
 |.r _ _,_=>none
theorem b7v{Z:Type}(U:AE)(fz:Bool)(seen:List Nat)(p:PA)(a:AV)(K:p.ty.den->AE->List Nat->List Nat->Rs Z):
  U.arg fz true [] seen p a K=(b6t fz U.look p a).elim none fun x=>K x U [] (bif fz then seen else a.viewed++seen):=by
 cases p with
 |v t=>
  simp only[AE.arg];rw[show(a.viewed.any fun n=>([]:List Nat).contains n)=false from by simp]
  simp
  cases fz with
  |true=>simp[b6t];rw[c3s];rfl
  |false=>
   simp[b6t];rw[e0m];rfl
 |r c b=>
  cases b with
  |v t=>rfl
  |b t=>
   cases a with
   |ptr n p=>cases p<;>simp[AE.arg,b6t]
   |_=>rfl
  |o e=>
   cases a with
   |sref n p=>cases p<;>simp[AE.arg,b6t]
   |_=>rfl
def AE.argso(U:AE)(fz:Bool)(seen:List Nat)(ps:List PA)(as:List AV):Option (a2f (ps.map PA.ty)).den:=U.args fz true [] seen ps as fun x _ _=>some x
theorem d2K(U:AE)(fz:Bool)(h:List PA):∀{Z:Type}(as:List AV)(seen:List Nat)(K:(a2f (h.map PA.ty)).den->AE->List Nat->Rs Z),U.args fz true [] seen h as K=(U.argso fz seen h as).elim none fun x=>K x U []:=by
 induction h with
 |nil=>
  intro Z as seen K;cases as<;>rfl
 |cons p h ih=>
  intro Z as seen K;cases as with
  |nil=>cases h<;>rfl
  |cons a as=>
   cases h with
   |nil=>
    cases as with
    |nil=>
     simp[AE.argso,AE.args];rw[b7v,b7v];cases b6t fz U.look p a<;>rfl
    |cons=>rfl
   |cons p' h=>
    simp[AE.argso,AE.args];rw[b7v,b7v];cases b6t fz U.look p a with
    |none=>rfl
    |some x=>
     simp[a22];rw[ih,ih];cases U.argso fz (bif fz then seen else a.viewed++seen) (p'::h) as<;>rfl
theorem d7y{U:AE}(fz:Bool)(g:List PA):∀(as:List AV)(seen:List Nat)(x:(a2f (g.map PA.ty)).den),U.argso fz seen g as=some x->a5l g=[]:=by
 induction g with
 |nil=>intro as seen x h;rfl
 |cons p g ih=>
  intro as seen x h;cases as with
  |nil=>cases g<;>cases h
  |cons a as=>
   cases g with
   |nil=>
    cases as with
    |nil=>
     simp[AE.argso,AE.args]at h;rw[b7v]at h;cases p with
     |v t=>rfl
     |r c t=>cases h
    |cons=>cases h
   |cons p' g=>
    simp[AE.argso,AE.args]at h;rw[b7v]at h;cases p with
    |r c t=>cases h
    |v t=>
     cases h1:b6t fz U.look (.v t) a with
     |none=>simp_all
     |some y=>
      rw[h1]at h;simp at h;rw[d2K]at h;cases h2:U.argso fz (bif fz then seen else a.viewed++seen) (p'::g) as with
      |none=>simp_all
      |some z=>exact ih as _ z h2
theorem d4X{U U2:AE}(fz:Bool)(g:List PA):∀(as:List AV)(seen:List Nat),(∀a∈as,∀n∈a.refs,U2.look n=U.look n)->U2.argso fz seen g as=U.argso fz seen g as:=by
 have one:∀(p:PA)(a:AV),(∀n∈a.refs,U2.look n=U.look n)->b6t fz U2.look p a=b6t fz U.look p a:=fun p a h=>by
  cases p with
  |v t=>simp_all[b6t,c4i]
  |r c t=>rfl
 induction g with
 |nil=>intro as seen h;cases as<;>rfl
 |cons p g ih=>
  intro as seen h;cases as with
  |nil=>cases g<;>rfl
  |cons a as=>
   cases g with
   |nil=>
    cases as with
    |nil=>
     simp_all[AE.argso,AE.args,b7v]
    |cons=>rfl
   |cons p' g=>
    simp[AE.argso,AE.args]
    grind[b7v,d2K]
theorem d0c{Z:Type}(U:AE):∀(ns:List Nat)(K:AE->Rs Z),U.dropAll true [] ns K=bif ns.all fun n=>decide (n<pinned)&&(U.rt n).isNone then K U else none
 | [],K=>rfl
 |n::r,K=>by
  simp only[AE.dropAll,a23];rw[show(!([]:List Nat).contains n)=true from by simp,Bool.and_true];cases decide (n<pinned);rfl
  ·simp
   cases U.rt n with
   |none=>simp_all[d0c]
   |some x=>simp
def a4z:List Nat->List ((r:RA)×r.ty.den)->List (Nat×Root)
 |k::ns,it::its=>match a0O it with
  |some r=>(k,r)::a4z ns its
  |none=>a4z ns its
 |_,_=>[]
theorem b5i:∀(ns:List Nat)(its:List ((r:RA)×r.ty.den)) (n:Nat),find (a4z ns its) n=a2t ns its n
 | [],its,n=>by rfl
 |k::ns,[],n=>rfl
 |k::ns,it::its,n=>by
  simp[a4z,a2t];cases a0O it with
  |none=>simp_all[b5i]
  |some r=>
   simp[find];rw[b5i ns its n]
   grind
theorem b8S:∀(rs:List RA)(n:Nat)(its:List ((r:RA)×r.ty.den)),(∀(k:Nat) it,its[k]?=some it->k<rs.length->rs[k]?=some it.1)->rs.length<=its.length->
  (a4z (a1q rs n++[]) its).map (·.1)=a2S rs n
 | [],n,its,h,hl=>by rfl
 |r::rs,n,[],h,hl=>by simp_all
 |r::rs,n,it::its,h,hl=>by
  have f:=h 0 it rfl (by simp);simp at f;have i:=b8S rs (n+1000) its (fun k g d a=>by simpa using h (k+1) g (by simp_all) (by simp_all)) (by simp_all);obtain⟨c,x⟩:=it;obtain rfl:r=c:=f;simp only[a1q,List.cons_append,a4z];cases r with
  |v t=>simp_all[a0O,a2S]
  |o e=>simp_all[a0O,a2S]
  |b t=>simp_all[a0O,a2S]
theorem e0u{ks:List Nat}:AV.deeps [] ks=id:=by
 funext a;cases a<;>simp[AV.deeps]
theorem e0v{n:Nat}:∀{it:(r:RA)×r.ty.den},(c8w n it).firm=true->a0O it=none
 |⟨.v t,x⟩,_=>rfl
 |⟨.o e,x⟩,h=>by cases h
 |⟨.b t,x⟩,h=>by cases h
theorem c6I:∀(ns:List Nat)(its:List ((r:RA)×r.ty.den)),(a4F ns its).all AV.firm=true->ns.length=its.length->a4z ns its=[]
 | [],its,_,_=>by rfl
 |k::ns,[],_,h=>by rfl
 |k::ns,it::its,h,hl=>by
  simp only[a4F,a23,bA9]at h;simp only[a4z];rw[e0v h.1];exact c6I ns its h.2 (by simpa using hl)
theorem b2N:∀(ns:List Nat)(its:List ((r:RA)×r.ty.den)) (n:Nat),a2t ns its n≠none->n∈ns
 | [],_,n,h=>absurd rfl h
 |_::_,[],n,h=>absurd rfl h
 |k::ns,it::its,n,h=>by
  simp only[a2t]at h;cases hr:a0O it with
  |none=>rw[hr]at h;exact a04 _ (b2N ns its n h)
  |some r=>
   rw[hr]at h;simp only[]at h
   by_cases e:n=k
   subst e;exact a18
   have:(n==k)=false:=by simpa using e
   rw[this]at h;exact a04 _ (b2N ns its n h)
theorem e2t{c:Call}{f:FuncId}(u:o.op=.call c)(hb:c.callee=.value (.func f))(B:o.dst=some d):Uni cx o d U:=by
  cases hs:cx.C f with
  |none=>simp_all[Uni.none,aop]
  |some s=>
    let fz:=s.rs.any RA.hasList || (a5l s.ps).any RA.hasList
    let l:=a2S s.rs (d+1000)
    have D:∀a∈c.args.toList.map U.opd,∀n∈a.refs,∀U2,a2l (a0q o) U U2->U2.look n=U.look n:=fun a m n t U2 g=>by
      obtain⟨x,j,rfl⟩:=a20.1 m;exact g.look (b2l u x j) t
    have run:∀U2,a2l (a0q o) U U2->∀{Z:Type}(K:AE->Rs Z),aop cx true o U2 K=(match U.pd with
        |some _=>none
        |none=>(U.argso fz [] s.ps (c.args.toList.map U.opd)).elim none fun x=>bif l.all (fun n=>decide (n<pinned)&&(U2.rt n).isNone)then(s.F x).bind fun y=>
            (let z:AE:=⟨fun i=>(U2.sl i).mapv (AV.deeps [] (U2.unbx (brw s.ps []))),fun n=>match a2t (a1q s.rs (d+1000)++[]) (a2r (RA.all s.ps s.rs) y) n with
              |some r=>some r
              |none=>U2.rt n,none⟩
             match a4F (a1q s.rs (d+1000)) (a2r (RA.all s.ps s.rs) y)with
              | [v]=>K (z.set d v)
              |vs=>K (z.put d (.cmp .tup vs)))else none):=fun U2 g Z K=>by
      simp only[aop,u,B,hb,hs,d6A g u];unfold AE.call;rw[g.1];cases U.pd with
      |some p=>rfl
      |none=>
        simp only[];rw[d2K,d4X _ _ _ _ fun a m n t=>D a m n t U2 g];cases U.argso (s.rs.any RA.hasList || (a5l s.ps).any RA.hasList) [] s.ps (c.args.toList.map U.opd)with
        |none=>rfl
        |some x=>
          grind[d0c]
    cases hpd:U.pd with
    |some p=>simp_all[Uni.none]
    |none=>
      rw[hpd]at run;cases j:U.argso fz [] s.ps (c.args.toList.map U.opd)with
      |none=>simp_all[Uni.none]
      |some x=>
        cases hy:s.F x with
        |none=>
          simp_all[Uni.none]
        |some y=>
          let h:=a2r (RA.all s.ps s.rs) y
          let ns:=a1q s.rs (d+1000)
          let sv:SV:=match a4F ns h with
            | [v]=>.one v
            |vs=>.cmp .tup vs

          have w:=d7y fz s.ps _ _ x j;have b:RA.all s.ps s.rs=s.rs:=by rw[RA.all,w];simp
          have A:h.length=s.rs.length:=by rw[show h=a2r (RA.all s.ps s.rs) y from rfl,a9W,b]
          have E:(a4z (ns++[]) h).map (·.1)=l:=b8S s.rs (d+1000) h (fun k it G _=>by
            grind[b4R]) (by omega)
          have q:∀n,find (a4z (ns++[]) h) n=a2t (ns++[]) h n:=b5i _ _;refine⟨some ⟨a4z (ns++[]) h,sv⟩,fun δ e=>?_,fun U2 g Z K=>?_⟩
          grind[b2N,a4X,SV.firm,c6I,b2M]
          · rw[run U2 g,j]
            simp only[a22,hy,oB,c1E];rw[show((a4z (ns++[]) h).all fun p=>decide (p.1<pinned)&&(U2.rt p.1).isNone)=l.all fun n=>decide (n<pinned)&&(U2.rt n).isNone from by grind[List.all_map]];cases (l.all fun n=>decide (n<pinned)&&(U2.rt n).isNone)with
            |false=>rfl
            |true=>
              simp only[cT];have H:∀sv':SV,(⟨fun i=>(U2.sl i).mapv (AV.deeps [] (U2.unbx (brw s.ps []))),fun n=>match a2t (a1q s.rs (d+1000)++[]) (a2r (RA.all s.ps s.rs) y) n with
                  |some r=>some r
                  |none=>U2.rt n,none⟩:AE).put d sv'=(Dl.mk (a4z (ns++[]) h) sv').app d U2:=fun sv'=>by
                simp only[AE.put,Dl.app];congr 1;funext i;rw[e0u]
                have:(U2.sl i).mapv id=U2.sl i:=by cases U2.sl i<;>simp[SV.mapv]
                grind
                grind
                all_goals exact(g.1.trans hpd).symm
              grind[AE.set]
end
section
variable {cx:Cx} {o:Oper} {d:Nat} {U:AE}
theorem c3v(h:o.dst=some d):Uni cx o d U:=by
 cases ho:o.op
 case move x=>exact e2m ho h
 case assign x=>exact d7t ho h
 case pick x y u=>exact e2n ho h
 case alloc t=>exact e0n ho h
 case box t x=>exact e5x ho h
 case build t x=>exact e0o ho h
 case buildSlice t n x=>grind[c8H]
 case load t x=>exact e2o ho h
 case nilCheck x=>exact d2I ho h
 case binOp op t x y s=>exact e0p ho h
 case unOp op t x=>exact e2r ho h
 case convert s t x=>exact d4U ho h
 case makeSlice t x y=>grind[d1a]
 case slice t x u v m=>exact e0q ho h
 case fieldAddr s x f=>grind[d1b]
 case field s x f=>exact e0r ho h
 case indexAddr t x i=>grind[d1c]
 case index t x i=>exact e0s ho h
 case extract x i=>exact d4V ho h
 case makeFunc fn first caps=>exact d2H ho h
 case store t x y=>simp_all[Uni.none,aop]
 case call c=>
  cases hc:c.callee with
  |builtin b=>simp_all[d4W]
  |invoke r n=>simp_all[Uni.none,aop]
  |value v=>
   cases v with
   |func f=>exact e2t ho hc h
   |tmp t=>simp_all[Uni.none,aop]
   |_=>simp_all[Uni.none,aop]
 all_goals exact Uni.none fun U2 g Z K=>by simp only[aop,ho,h]
theorem e2u(U:AE){g:Nat}{sv:SV}(h:U.sl g=sv):U.put g sv=U:=by
 obtain⟨k,rt,f⟩:=U;simp only[AE.put];congr 1
 grind
theorem a2x{ops:Array Oper}{t:Nat}(h:t∈a0q o):t∈o.looksAt ops:=by
 simp only[Oper.looksAt,mA];exact .inl h
theorem c4j{ops:Array Oper}{j g:Nat}{want:Bool}(h:o.guard=some (j,want))(f:b1A ops.toList j=some g):g∈o.looksAt ops:=by
 simp_all[Oper.looksAt,b1A]
def a1R(ops:Array Oper)(o:Oper)(U:AE):Option Bool:=match o.guard with
 |none=>some true
 |some (j,want)=>match b1A ops.toList j with
  |none=>none
  |some g=>match U.get g with
   |.val .bool (b:Bool)=>some (b==want)
   |.skp=>some false
   |_=>none
theorem a2y{Z:Type}{ops:Array Oper}{md:Md}(U:AE)(K:AE->Rs Z):a0A cx md ops.toList o U K=(match a1R ops o U with
  |some true=>a1Y cx md o U K
  |some false=>K (U.setD o.dst .skp)
  |none=>none):=by
 unfold a0A a1R;cases hg:o.guard with
 |none=>rfl
 |some p=>
  obtain⟨j,k⟩:=p
  simp
  cases hj:b1A ops.toList j with
  |none=>rfl
  |some g=>
   simp
   have f:∀(v:AV),v≠.dead->U.get g=v->U.set g v=U:=fun v hv h=>e2u U (by
    grind[AE.get])
   grind
theorem a2s{Z:Type}{ops:Array Oper}{md:Md}(h:o.dst=some d)(U:AE)(K:AE->Rs Z):a0A cx md ops.toList o U K=(match a1R ops o U with
  |some true=>a1Y cx md o U K
  |some false=>K (U.put d (.one .skp))
  |none=>none):=by
 rw[a2y,h];rfl
theorem a2C{ops:Array Oper}{U U2:AE}(h:∀t∈o.looksAt ops,U2.sl t=U.sl t):a1R ops o U2=a1R ops o U:=by
 grind[a1R,AE.get,c4j]
theorem d2L{ops:Array Oper}{j g:Nat}{want:Bool}(f:o.guard=some (j,want))(k:b1A ops.toList j=some g)(h:a1R ops o U≠none):(U.sl g).firm=true:=by
 unfold a1R at h;rw[f]at h;simp only[k,AE.get]at h;cases hs:U.sl g with
 |cmp c0 vs=>simp_all
 |one v=>
  rw[hs]at h;cases v<;>first|rfl|simp_all
def b8T(T:List Nat)(U U2:AE):Prop:=U2.pd=U.pd/\∀t∈T,U2.sl t=U.sl t/\∀n∈(U.sl t).refs,U2.rt n=U.rt n
theorem b8T.sub{ops:Array Oper}{U U2:AE}(h:b8T (o.looksAt ops) U U2):a2l (a0q o) U U2:=⟨h.1,fun t g=>h.2 t (a2x g)⟩
theorem d0d{α:Type}{l:List (Nat×α)}{n:Nat}:find l n=none↔∀p∈l,p.1≠n:=by
 induction l with
 |nil=>simp[find]
 |cons p l ih=>
  obtain⟨k,x⟩:=p;simp only[find,mC,forall_eq_or_imp]
  grind
theorem b7w{Z:Type}{r:Option Dl}{U2:AE}{K:AE->Rs Z}{z:Z}(h:c1E r d U2 K=some z):∃δ,r=some δ/\(∀n,find δ.rs n≠none->U2.rt n=none)/\K (δ.app d U2)=some z/\(δ.rs.all fun p=>decide (p.1<pinned))=true:=by
 cases r with
 |none=>cases h
 |some δ=>
  simp[c1E]at h;obtain⟨g,h⟩:=(a0f h).elim id fun h=>by grind
  refine⟨δ,rfl,fun n f=>?_,h,?_⟩
  by_cases e:∃p∈δ.rs,p.1=n
  obtain⟨p,hp,rfl⟩:=e
  have:=lA.1 g p hp
  simp_all;simp_all[d0d]
  grind
theorem c3w{Z:Type}{δ:Dl}{U2:AE}{K:AE->Rs Z}(h:(δ.rs.all fun p=>decide (p.1<pinned))=true)(g:∀n,find δ.rs n≠none->U2.rt n=none):c1E (some δ) d U2 K=K (δ.app d U2):=by
 simp[c1E];rw[show(δ.rs.all fun p=>decide (p.1<pinned)&&(U2.rt p.1).isNone)=true from lA.2 fun p hp=>by
  have a:=lA.1 h p hp;have b:=g p.1 fun e=>d0d.1 e p hp rfl;simp_all]
 rfl
theorem c1G{v:AV}(h:v.firm=true):v.refs=[]:=by cases v<;>first|rfl|cases h
theorem a9f{sv:SV}(h:sv.firm=true):sv.refs=[]:=by
 cases sv with
 |one v=>exact c1G h
 |cmp c0 vs=>
  simp[SV.refs];exact fun v hv=>c1G (lA.1 h v hv)
theorem b9P{sv:SV}(h:sv.firm=true):sv.alive=true:=by
 have one:∀v:AV,v.firm=true->v.alive=true:=fun v h=>by cases v<;>first|rfl|cases h
 cases sv with
 |one v=>exact one v h
 |cmp c0 vs=>exact lA.2 fun v hv=>one v (lA.1 h v hv)
def a1u(ops:Array Oper)(o:Oper):List Nat:=match o.guard with
 |none=>[]
 |some (j,_)=>(b1A ops.toList j).toList
theorem a1L{ops:Array Oper}{t:Nat}(h:t∈a1u ops o):t∈o.looksAt ops:=by
 grind[a1u,c4j]
theorem a1x{ops:Array Oper}{U U2:AE}(h:∀t∈a1u ops o,U2.sl t=U.sl t):a1R ops o U2=a1R ops o U:=by
 grind[a1R,a1u,AE.get]
theorem a4A{ops:Array Oper}(h:a1R ops o U≠none):∀t∈a1u ops o,(U.sl t).firm=true:=by
 grind[a1u,d2L]
theorem e8U{Z:Type}{ops:Array Oper}(a:o.dst=some d){K:AE->Rs Z}{z:Z}(f:a0A cx .q ops.toList o U K=some z):
  ∃(δ:Dl)(L:List Nat),(∀t∈L,t∈o.looksAt ops/\∀n∈(U.sl t).refs,U.rt n≠none)/\K (δ.app d U)=some z/\(∀n,find δ.rs n≠none->U.rt n=none)/\
   ∀U2,b8T L U U2->(∀n,find δ.rs n≠none->U2.rt n=none)->∀{Z2:Type}(i:AE->Rs Z2),a0A cx .q ops.toList o U2 i=i (δ.app d U2):=by
 rw[a2s a]at f;cases hl:a1R ops o U with
 |none=>simp_all
 |some b=>
  have u:=a4A (ops:=ops) (U:=U) (o:=o) (by simp_all);have j:∀t∈a1u ops o,t∈o.looksAt ops/\∀n∈(U.sl t).refs,U.rt n≠none:=fun t g=>⟨a1L g,fun n k=>by simp_all[a9f]⟩;rw[hl]at f;cases b with
  |false=>
   refine⟨⟨[],.one .skp⟩,a1u ops o,j,f,fun n k=>absurd rfl k,fun U2 c _ Z2 i=>?_⟩;rw[a2s a,a1x fun t g=>(c.2 t g).1,hl];rfl
  |true=>
   simp only[a1Y,a]at f;obtain⟨B,f⟩:=(a0f f).elim id fun h=>by grind
   have l:∀t∈a0q o,∀n∈(U.sl t).refs,U.rt n≠none:=fun t g n k=>by
    obtain⟨x,m,y⟩:=a16.1 g
    grind
   obtain⟨r,w,v⟩:=c3v (cx:=cx) (U:=U) a;rw[v U a2l.refl]at f;obtain⟨δ,rfl,p,s,A⟩:=b7w f;refine⟨δ,a0q o++a1u ops o,fun t g=>?_,s,p,fun U2 c k Z2 i=>?_⟩
   grind[a2x]
   ·rw[a2s a,a1x fun t g=>(c.2 t (a01 _ g)).1,hl];simp only[a1Y,a];have e:a2l (a0q o) U U2:=⟨c.1,fun t g=>c.2 t (a02 _ g)⟩;refine(congrArg (fun b=>bif b then _ else none) (lA.2 fun x m=>?_)).trans ?_
    ·cases x with
     |tmp t=>
      simp only[];have g:=a2w m;refine lA.2 fun n k=>?_
      rw[(e.2 t g).1]at k;rw[(e.2 t g).2 n k]
      grind
     |_=>rfl
    simp
    grind[c3w]
theorem c8I{v:AV}(h:v.firm=true):v.calm=true:=by
 cases v with
 |ptr n p=>cases h
 |_=>exact h
theorem b0a{sv:SV}(h:sv.firm=true):sv.calm=true:=by
 cases sv with
 |one v=>exact c8I h
 |cmp c vs=>exact h
theorem b8m{U U2:AE}(h:∀t∈a0q o,U2.sl t=U.sl t):b4l o U2=b4l o U:=by
 grind[b4l,c6o,a0q,Op.operands]
theorem d7z{Z:Type}{ops:Array Oper}(e:o.dst=some d){K:AE->Rs Z}{z:Z}(f:a0A cx .v ops.toList o U K=some z):
  ∃(sv:SV)(L:List Nat),sv.calm=true/\(∀t∈L,t∈o.looksAt ops/\(U.sl t).calm=true)/\K (U.put d sv)=some z/\
   ∀U2,U2.pd=U.pd->(∀t∈L,U2.sl t=U.sl t)->∀{Z2:Type}(a:AE->Rs Z2),a0A cx .v ops.toList o U2 a=a (U2.put d sv):=by
 rw[a2s e]at f;cases hl:a1R ops o U with
 |none=>simp_all
 |some b=>
  have u:=a4A (ops:=ops) (U:=U) (o:=o) (by simp_all);rw[hl]at f;cases b with
  |false=>
   refine⟨.one .skp,a1u ops o,rfl,fun t g=>⟨a1L g,b0a (u t g)⟩,f,fun U2 _ l Z2 a=>?_⟩
   grind[a2s,a1x]
  |true=>
   simp only[a1Y,e]at f;cases hp:b4l o U with
   |some n=>
    rw[hp]at f;obtain⟨t,M,N,w⟩:=b9O hp;have D:t∈a0q o:=by
     grind[a0q,Op.operands]
    have q:(U.sl t).calm=true:=by simp_all[SV.calm,AV.calm]
    refine⟨.one (.ptr n []),[t]++a1u ops o,by simp_all,fun G g=>?_,f,fun U2 i l Z2 a=>?_⟩;rcases mA.1 g with g|g;obtain rfl:G=t:=by simp_all
    simp_all[a2x];simp_all[a1L,b0a]
    grind[a2s,a1x,a1Y,b8m,a0q,Op.operands]
   |none=>
   rw[hp]at f;simp only[]at f;obtain⟨I,f⟩:=(a0f f).elim id fun h=>by grind
   have s:∀t∈a0q o,(U.sl t).firm=true:=fun t g=>by
    obtain⟨x,E,F⟩:=a16.1 g
    grind
   obtain⟨r,y,A⟩:=c3v (cx:=cx) (U:=U) e;rw[A U a2l.refl]at f;obtain⟨δ,rfl,H,m,B⟩:=b7w f;obtain⟨C,m⟩:=(a0f m).elim id fun h=>by grind
   have k:δ.sv.firm=true:=by simpa[Dl.app]using C
   have j:=(y δ rfl).1 k;obtain⟨O,sv⟩:=δ;simp only at j k;subst j;refine⟨sv,a0q o++a1u ops o,b0a k,fun t g=>?_,m,fun U2 i l Z2 a=>?_⟩
   grind[a2x,b0a,a1L]
   rw[a2s e,a1x fun t g=>l t (a01 _ g),hl];simp only[a1Y,e];have c:∀t∈a0q o,U2.sl t=U.sl t:=fun t g=>l t (a02 _ g);have p:a2l (a0q o) U U2:=⟨i,fun t g=>⟨c t g,fun n w=>by simp_all[a9f]⟩⟩;rw[b8m c,hp];simp only[];refine(congrArg (fun b=>bif b then _ else none) (lA.2 fun x E=>?_)).trans ?_
   grind[a2w]
   simp
   rw[A U2 p,c3w B (fun n w=>absurd rfl w)];show(bif (((Dl.mk [] sv).app d U2).sl d).firm then a ((Dl.mk [] sv).app d U2)else none)=_;rw[show((Dl.mk [] sv).app d U2).sl d=sv from by simp[Dl.app],k];rfl
theorem e3Y{Z:Type}{ops:Array Oper}(c:o.dst=some d){K:AE->Rs Z}{z:Z}(g:a0A cx .p ops.toList o U K=some z):
  ∃(sv:SV)(L:List Nat),sv.calm=true/\(∀t∈L,t∈o.looksAt ops/\(U.sl t).calm=true)/\K (U.put d sv)=some z/\
   ∀U2,(∀t∈L,U2.sl t=U.sl t)->∀{Z2:Type}(f:AE->Rs Z2),a0A cx .p ops.toList o U2 f=f (U2.put d sv):=by
 rw[a2s c]at g;cases hl:a1R ops o U with
 |none=>simp_all
 |some b=>
  have a:=a4A (ops:=ops) (U:=U) (o:=o) (by simp_all);rw[hl]at g;cases b with
  |false=>
   refine⟨.one .skp,a1u ops o,rfl,fun t h=>⟨a1L h,b0a (a t h)⟩,g,fun U2 e Z2 f=>?_⟩
   grind[a2s,a1x]
  |true=>
   simp[a1Y,c]at g;cases hp:b4l o U with
   |none=>simp_all
   |some n=>
    rw[hp]at g;obtain⟨t,m,q,l⟩:=b9O hp;have i:t∈a0q o:=by
     grind[a0q,Op.operands]
    have k:(U.sl t).calm=true:=by simp_all[SV.calm,AV.calm]
    refine⟨.one (.ptr n []),[t]++a1u ops o,by simp_all,fun j h=>?_,g,fun U2 e Z2 f=>?_⟩;rcases mA.1 h with h|h;obtain rfl:j=t:=by simp_all
    simp_all[a2x];simp_all[a1L,b0a]
    grind[a2s,a1x,a1Y,b8m,a0q,Op.operands]
theorem d7A{x:Operand}(h:∀t,x=.tmp t->(U.sl t).firm=true):(U.opd x).refs=[]:=by
 cases x with
 |tmp t=>
  have:=h t rfl
  simp[AE.opd,AE.get];cases hs:U.sl t with
  |one v=>rw[hs]at this;exact c1G this
  |cmp c vs=>rfl
 |const v=>simp[AE.opd,b6a];split<;>rfl
 |_=>rfl
theorem d0e{v:AV}(h:v.refs=[]):(cx.glob v).refs=[]:=by
 cases v with
 |glob g=>simp[Cx.glob];cases cx.G g<;>rfl
 |_=>exact h
theorem e5y{Z:Type}{a:AV}(h:a.refs=[]){q:Bool}{ty:Ty}(x:Option (Nat×a0C×Nat))(K:AV->AE->Rs Z):AE.lodK { U with pd:=x } q ty a K=U.lodK q ty a fun v g=>K v { g with pd:=x }:=by
 cases a with
 |ptr n p=>cases h
 |_=>rfl
theorem e2v{Z:Type}{a:AV}(h:a.refs=[]){ty:Option Ty}{i:Int}(x:Option (Nat×a0C×Nat))(K:AV->Rs Z):AE.addrK { U with pd:=x } ty a i K=U.addrK ty a i K:=by
 cases a with
 |ptr n p=>rfl
 |sref n p=>rfl
 |swin n p o l=>cases h
 |val t y=>cases t with
  |list o e=>cases o<;>rfl
  |_=>rfl
 |vptr t y=>cases t<;>rfl
 |_=>rfl
theorem e5z{Z:Type}(hp:d2n o=true)(h:o.dst=some d)(g:∀x∈o.op.operands.toList,(U.opd x).refs=[])(x:Option (Nat×a0C×Nat))(K:AE->Rs Z):aop cx true o { U with pd:=x } K=aop cx true o U fun k=>K { k with pd:=x }:=by
 cases ho:o.op with
 |move y=>simp[aop,ho,h];rfl
 |binOp op ty y z s=>simp only[aop,ho,h];rfl
 |unOp op t y=>simp[aop,ho,h];rfl
 |pick c a b=>simp[aop,ho,h];rfl
 |load t a=>
  simp only[aop,ho,h];cases cx.T t with
  |none=>rfl
  |some t=>exact e5y (d0e (g a (by simp[ho,Op.operands]))) x _
 |fieldAddr s y f=>simp[aop,ho,h];rfl
 |indexAddr t y i=>
  simp[aop,ho,h];show(match U.opd i with|.val (.int _) (i:Int)=>AE.addrK { U with pd:=x } (cx.T t) (cx.glob (U.opd y)) i _|_=>none)=_;simp only[e2v (d0e (g y (by simp[ho,Op.operands])))];rfl
 |index s y i=>simp[aop,ho,h];rfl
 |_=>simp[d2n,ho]at hp
theorem c6J{Z:Type}{ops:Array Oper}(c:o.dst=some d){K:AE->Rs Z}{z:Z}(k:a0A cx .u ops.toList o U K=some z):
  ∃(sv:SV)(L:List Nat),sv.calm=true/\(∀t∈L,t∈o.looksAt ops/\(U.sl t).calm=true)/\K (U.put d sv)=some z/\
   ∀U2,(∀t∈L,U2.sl t=U.sl t)->∀{Z2:Type}(i:AE->Rs Z2),a0A cx .u ops.toList o U2 i=i (U2.put d sv):=by
 rw[a2s c]at k;cases hl:a1R ops o U with
 |none=>simp_all
 |some b=>
  have v:=a4A (ops:=ops) (U:=U) (o:=o) (by simp_all);rw[hl]at k;cases b with
  |false=>
   refine⟨.one .skp,a1u ops o,rfl,fun t g=>⟨a1L g,b0a (v t g)⟩,k,fun U2 q Z2 i=>?_⟩
   grind[a2s,a1x]
  |true=>
   simp only[a1Y,c]at k;obtain⟨A,k⟩:=(a0f k).elim id fun h=>by grind
   obtain⟨hp,A⟩:=a05.1 A;have a:∀t∈a0q o,(U.sl t).firm=true:=fun t g=>by
    obtain⟨x,m,F⟩:=a16.1 g
    grind
   obtain⟨r,w,C⟩:=c3v (cx:=cx) (U:=U) c;rw[C U a2l.refl]at k;obtain⟨δ,rfl,G,p,D⟩:=b7w k;obtain⟨E,p⟩:=(a0f p).elim id fun h=>by grind
   have f:δ.sv.firm=true:=by simpa[Dl.app]using E
   have l:=(w δ rfl).1 f;obtain⟨H,sv⟩:=δ;simp only at l f;subst l;refine⟨sv,a0q o++a1u ops o,b0a f,fun t g=>?_,p,fun U2 q Z2 i=>?_⟩
   grind[a2x,b0a,a1L]
   rw[a2s c,a1x fun t g=>q t (a01 _ g),hl];simp only[a1Y,c];have j:∀t∈a0q o,U2.sl t=U.sl t:=fun t g=>q t (a02 _ g);have s:a2l (a0q o) U { U2 with pd:=U.pd }:=⟨rfl,fun t g=>⟨j t g,fun n B=>by simp_all[a9f]⟩⟩;refine(congrArg (fun b=>bif b then _ else none) (a05.2 ⟨hp,lA.2 fun x m=>?_⟩)).trans ?_
   grind[a2w]
   simp
   have y:∀x∈o.op.operands.toList,(AE.opd { U2 with pd:=U.pd } x).refs=[]:=fun x m=>d7A fun t e=>by
    subst e;exact(congrArg SV.firm (j t (a2w m))).trans (a t (a2w m))
   refine(e5z (U:={ U2 with pd:=U.pd }) hp c y U2.pd _).trans ?_
   rw[C _ s,c3w D (fun n B=>absurd rfl B)];show(bif (((Dl.mk [] sv).app d U2).sl d).firm then i ((Dl.mk [] sv).app d U2)else none)=_;rw[show((Dl.mk [] sv).app d U2).sl d=sv from by simp[Dl.app],f];rfl
theorem a7a{a b:List Nat}(h:b6g a b=true){n:Nat}(g:n∈a):n∈b:=by
 have:=lA.1 h n g
 simp_all
theorem d7B{Z:Type}{ops:Array Oper}{ns:List Nat}(e:o.dst=some d){K:AE->Rs Z}{z:Z}(a:a0A cx (.r ns) ops.toList o U K=some z):
  ∃(δ:Dl)(L:List Nat),(∀t∈L,t∈o.looksAt ops/\(U.sl t).alive=true/\∀n∈(U.sl t).refs,U.rt n≠none/\n∈ns)/\K (δ.app d U)=some z/\(∀n,find δ.rs n≠none->U.rt n=none/\n∈ns)/\(∀n∈δ.sv.refs,n∈ns)/\
   ∀U2,b8T L U U2->(∀n,find δ.rs n≠none->U2.rt n=none)->∀{Z2:Type}(l:AE->Rs Z2),a0A cx (.r ns) ops.toList o U2 l=l (δ.app d U2):=by
 rw[a2s e]at a;cases hl:a1R ops o U with
 |none=>simp_all
 |some b=>
  have p:=a4A (ops:=ops) (U:=U) (o:=o) (by simp_all);have q:∀t∈a1u ops o,t∈o.looksAt ops/\(U.sl t).alive=true/\∀n∈(U.sl t).refs,U.rt n≠none/\n∈ns:=fun t f=>⟨a1L f,b9P (p t f),fun n g=>by simp_all[a9f]⟩;rw[hl]at a;cases b with
  |false=>
   refine⟨⟨[],.one .skp⟩,a1u ops o,q,a,fun n g=>absurd rfl g,fun n g=>(by cases g),fun U2 i _ Z2 l=>?_⟩;rw[a2s e,a1x fun t f=>(i.2 t f).1,hl];rfl
  |true=>
   simp only[a1Y,e]at a;obtain⟨w,a⟩:=(a0f a).elim id fun h=>by grind
   obtain⟨w,j⟩:=a05.1 w;have u:∀t∈a0q o,(U.sl t).alive=true/\∀n∈(U.sl t).refs,U.rt n≠none/\n∈ns:=fun t f=>by
    obtain⟨x,A,E⟩:=a16.1 f
    grind
   obtain⟨r,s,y⟩:=c3v (cx:=cx) (U:=U) e;rw[y U a2l.refl]at a;obtain⟨δ,rfl,B,m,C⟩:=b7w a;obtain⟨k,m⟩:=(a0f m).elim id fun h=>by grind
   have v:(δ.app d U).sl d=δ.sv:=by simp[Dl.app]
   rw[v]at k;refine⟨δ,a0q o++a1u ops o,fun t f=>?_,m,fun n g=>⟨B n g,?_⟩,fun n g=>a7a k g,fun U2 i g Z2 l=>?_⟩
   grind[a2x]
   have:=(s δ rfl).2 n g
   refine a7a j ?_
   simp_all
   ·rw[a2s e,a1x fun t f=>(i.2 t (a01 _ f)).1,hl];simp only[a1Y,e];have c:a2l (a0q o) U U2:=⟨i.1,fun t f=>i.2 t (a02 _ f)⟩;refine(congrArg (fun b=>bif b then _ else none) (a05.2 ⟨lA.2 fun x A=>?_,j⟩)).trans ?_
    ·cases x with
     |tmp t=>
      simp only[];have f:=a2w A;have D:=(c.2 t f).1;refine a05.2 ⟨by simp_all,lA.2 fun n g=>?_⟩;rw[D]at g;rw[(c.2 t f).2 n g]
      grind
     |_=>rfl
    simp
    rw[y U2 c,c3w C g]
    grind[Dl.app]
def tyq(o:Option Root):Option Ty:=o.map (·.t)
theorem e2w{a b:Option Root}(h:tyq a=tyq b):a.isSome=b.isSome:=by cases a<;>cases b<;>first|rfl|cases h
def scq(o:Option Root):Option (Ty×(a0C->Option AV)):=o.map fun r=>(r.t,r.scal)
theorem c6K{a b:Option Root}(h:scq a=scq b):tyq a=tyq b:=by
 have:=congrArg (Option.map Prod.fst) h
 cases a<;>cases b<;>first|rfl|cases this|exact this
theorem b8n{U2:AE}{x:Operand}(h:∀t,x=.tmp t->U2.sl t=U.sl t/\∀n∈(U.sl t).refs,tyq (U2.rt n)=tyq (U.rt n)):U2.ptrTy x=U.ptrTy x:=by
 cases x with
 |tmp t=>
  obtain⟨g,f⟩:=h t rfl
  grind[AE.ptrTy,SV.refs,AV.refs,tyq]
 |_=>rfl
theorem d7C{U2:AE}(h:∀t∈a0q o,U2.sl t=U.sl t/\∀n∈(U.sl t).refs,tyq (U2.rt n)=tyq (U.rt n)):U2.stay cx o=U.stay cx o:=by
 unfold AE.stay;split
 ·rename_i t k;obtain⟨a,g⟩:=h t (by simp_all[a0q,Op.operands]);rw[a];generalize U.sl t=sv at g;cases sv with
  |one v=>
   simp
   have:(v.refs.all fun n=>(U2.rt n).isSome)=v.refs.all fun n=>(U.rt n).isSome:=by
    have d:∀n∈v.refs,tyq (U2.rt n)=tyq (U.rt n):=g
    grind[e2w]
   grind
  |cmp c vs=>rfl
 rename_i s x f k;rw[b8n (U:=U) (x:=x) fun t b=>h t (by simp_all[a0q,Op.operands])];rename_i s x k;rw[b8n (U:=U) (x:=x) fun t b=>h t (by simp_all[a0q,Op.operands])];rfl
theorem d7D{v:AV}(g:U.stay cx o=some v)(hv:v.still=true):∀t∈a0q o,(U.sl t).still=true/\∀n∈(U.sl t).refs,U.rt n≠none:=by
 have c:∀(t:Nat)(n:Nat)(p:a0C)(r:Root),U.sl t=.one (.ptr n p)->U.rt n=some r->p.all Step.isField=true->(U.sl t).still=true/\∀n∈(U.sl t).refs,U.rt n≠none:=fun t n p r a d i=>by
  rw[a];refine⟨i,fun m y=>?_⟩;simp_all[SV.refs,AV.refs]
 unfold AE.stay at g
 split at g
 rename_i t l
 split at g
 rename_i u w;obtain⟨j,g⟩:=(a0f g).elim id fun h=>by grind
 cases g;obtain⟨-,j⟩:=a05.1 j;intro k b;obtain rfl:k=t:=by simp_all[a0q,Op.operands]
 rw[w];exact⟨hv,fun n q=>Option.isSome_iff_ne_none.1 (lA.1 j n q)⟩;simp_all;rename_i s x f l
 split at g
 rename_i n p τ hp;obtain⟨t,r,rfl,a,d,i⟩:=a3R hp
 split at g
 cases g;intro k b;obtain rfl:k=t:=by simp_all[a0q,Op.operands]
 exact c k n p r a d (by simp_all[AV.still]);simp_all;simp_all;rename_i s x l
 split at g
 rename_i n p e hp;obtain⟨t,r,rfl,a,d,i⟩:=a3R hp
 split at g
 obtain⟨-,g⟩:=(a0f g).elim id fun h=>by grind
 cases g;intro k b;obtain rfl:k=t:=by simp_all[a0q,Op.operands]
 exact c k n p r a d hv;simp_all;simp_all;simp_all
theorem d7E{sv:SV}(h:sv.firm=true):sv.still=true:=by
 cases sv with
 |one v=>cases v<;>first|rfl|cases h
 |cmp c vs=>exact h
theorem d7F{Z:Type}{ops:Array Oper}(a:o.dst=some d){K:AE->Rs Z}{z:Z}(g:a0A cx .s ops.toList o U K=some z):
  ∃(sv:SV)(L:List Nat),sv.still=true/\(∀t∈L,t∈o.looksAt ops/\(U.sl t).still=true/\∀n∈(U.sl t).refs,U.rt n≠none)/\K (U.put d sv)=some z/\
   ∀U2,(∀t∈L,U2.sl t=U.sl t/\∀n∈(U.sl t).refs,tyq (U2.rt n)=tyq (U.rt n))->(U.pdElem=true->U2.pdElem=true)->∀{Z2:Type}(k:AE->Rs Z2),a0A cx .s ops.toList o U2 k=k (U2.put d sv):=by
 rw[a2s a]at g;cases hl:a1R ops o U with
 |none=>simp_all
 |some b=>
  have e:=a4A (ops:=ops) (U:=U) (o:=o) (by simp_all);have i:∀t∈a1u ops o,t∈o.looksAt ops/\(U.sl t).still=true/\∀n∈(U.sl t).refs,U.rt n≠none:=fun t f=>⟨a1L f,d7E (e t f),fun n p=>by simp_all[a9f]⟩;rw[hl]at g;cases b with
  |false=>
   refine⟨.one .skp,a1u ops o,rfl,i,g,fun U2 c _ Z2 k=>?_⟩
   grind[a2s,a1x]
  |true=>
   simp[a1Y,a]at g;cases hs:U.stay cx o with
   |none=>simp_all
   |some v=>
    rw[hs]at g;obtain⟨j,g⟩:=(a0f g).elim id fun h=>by grind
    obtain⟨hv,l⟩:=a05.1 j;have m:=d7D hs hv;refine⟨.one v,a0q o++a1u ops o,hv,fun t f=>?_,g,fun U2 c hp Z2 k=>?_⟩
    grind[a2x]
    rw[a2s a,a1x fun t f=>(c t (a01 _ f)).1,hl];simp[a1Y,a];rw[d7C fun t f=>c t (a02 _ f),hs];simp_all
theorem d7G{U2:AE}(h:∀t∈a0q o,U2.sl t=U.sl t/\∀n∈(U.sl t).refs,scq (U2.rt n)=scq (U.rt n)):U2.peek cx o=U.peek cx o:=by
 have hp:∀x∈o.op.operands.toList,U2.ptrTy x=U.ptrTy x:=fun x g=>b8n fun t d=>by
  grind[a2w,c6K]
 unfold AE.peek;split;simp_all[Op.operands]
 ·rename_i s x a;rw[hp x (by simp[a,Op.operands])];cases g:U.ptrTy x with
  |none=>rfl
  |some y=>
   obtain⟨n,p,τ⟩:=y;obtain⟨t,r,rfl,b,f,c⟩:=a3R g
   have:=(h t (by simp_all[a0q,Op.operands])).2 n (by simp_all[SV.refs,AV.refs])
   cases τ with
   |int k=>
    simp
    rw[f]at this|-;cases e:U2.rt n with
    |none=>rw[e]at this;cases this
    |some r2=>
     simp_all[scq]
   |_=>rfl
 rfl
theorem d7H{v:AV}(h:U.peek cx o=some v):∀t∈a0q o,∃n p r τ,U.sl t=.one (.ptr n p)/\U.rt n=some r/\tyF r.t p=some τ:=by
 unfold AE.peek at h
 split at h
 rename_i s x f e
 split at h
 rename_i n p τ hp;obtain⟨t,r,rfl,b,c,d⟩:=a3R hp;intro a g;obtain rfl:a=t:=by simp_all[a0q,Op.operands]
 grind
 simp_all;rename_i s x e
 split at h
 rename_i n p k hp;obtain⟨t,r,rfl,b,c,d⟩:=a3R hp;intro a g;obtain rfl:a=t:=by simp_all[a0q,Op.operands]
 grind
 simp_all;simp_all
theorem c4k:∀(f:Nat)(t:Ty),a1Z t f=true->∃τ,tyF t (a1l f)=some τ
 |0,.pair a b,_=>⟨a,by simp[a1l,tyF]⟩
 |f+1,.pair a b,h=>c4k f b h
 |0,.unit,h|0,.int _,h|0,.bool,h|0,.str,h|0,.list _ _,h|0,.arr _ _,h|0,.nl _,h=>by cases h
 |f+1,.unit,h|f+1,.int _,h|f+1,.bool,h|f+1,.str,h|f+1,.list _ _,h|f+1,.arr _ _,h|f+1,.nl _,h=>by cases h
theorem b9Q:∀(p:a0C)(t:Ty){τ}(q:a0C),tyF t p=some τ->tyF t (p++q)=tyF τ q
 | [],t,τ,q,h=>by simp_all[tyF]
 |.fst::p,.pair a b,τ,q,h=>b9Q p a q h
 |.snd::p,.pair a b,τ,q,h=>b9Q p b q h
 |.idx i::p,t,τ,q,h=>by cases t<;>cases h
 |.fst::p,.unit,_,_,h|.fst::p,.int _,_,_,h|.fst::p,.bool,_,_,h|.fst::p,.str,_,_,h|.fst::p,.list _ _,_,_,h|.fst::p,.arr _ _,_,_,h|.fst::p,.nl _,_,_,h=>by cases h
 |.snd::p,.unit,_,_,h|.snd::p,.int _,_,_,h|.snd::p,.bool,_,_,h|.snd::p,.str,_,_,h|.snd::p,.list _ _,_,_,h|.snd::p,.arr _ _,_,_,h|.snd::p,.nl _,_,_,h=>by cases h
def b9R(rt:Nat->Option Root)(sv:SV):Prop:=sv.firm=true\/∃n p r τ,sv=.one (.ptr n p)/\rt n=some r/\tyF r.t p=some τ
theorem e0w{v:AV}(h:U.peek cx o=some v):b9R U.rt (.one v):=by
 unfold AE.peek at h
 split at h
 rename_i s x f d
 split at h
 rename_i n p τ hp;obtain⟨t,r,rfl,a,g,b⟩:=a3R hp
 split at h
 rename_i c;cases h;obtain⟨τ',e⟩:=c4k f τ c.1;exact .inr ⟨n,_,r,τ',rfl,g,by simp_all[b9Q]⟩;simp_all;simp_all;rename_i s x d
 split at h
 rename_i n p k hp;obtain⟨t,r,rfl,a,g,b⟩:=a3R hp
 split at h
 rw[g]at h;obtain⟨k',m,rfl,-⟩:=d0b h;exact .inl rfl;simp_all;simp_all;simp_all
theorem d7I{Z:Type}{ops:Array Oper}(a:o.dst=some d){K:AE->Rs Z}{z:Z}(g:a0A cx .t ops.toList o U K=some z):
  ∃(sv:SV)(L:List Nat),b9R U.rt sv/\(∀t∈L,t∈o.looksAt ops/\b9R U.rt (U.sl t))/\K (U.put d sv)=some z/\
   ∀U2,(∀t∈L,U2.sl t=U.sl t/\∀n∈(U.sl t).refs,scq (U2.rt n)=scq (U.rt n))->∀{Z2:Type}(k:AE->Rs Z2),a0A cx .t ops.toList o U2 k=k (U2.put d sv):=by
 rw[a2s a]at g;cases hl:a1R ops o U with
 |none=>simp_all
 |some b=>
  have f:=a4A (ops:=ops) (U:=U) (o:=o) (by simp_all);rw[hl]at g;cases b with
  |false=>
   refine⟨.one .skp,a1u ops o,.inl rfl,fun t h=>⟨a1L h,.inl (f t h)⟩,g,fun U2 c Z2 k=>?_⟩
   grind[a2s,a1x]
  |true=>
   simp[a1Y,a]at g;cases hs:U.peek cx o with
   |none=>simp_all
   |some v=>
    rw[hs]at g;have e:=d7H hs;refine⟨.one v,a0q o++a1u ops o,e0w hs,fun t h=>?_,g,fun U2 c Z2 k=>?_⟩;rcases mA.1 h with h|h;exact⟨a2x h,.inr (e t h)⟩;exact⟨a1L h,.inl (f t h)⟩;rw[a2s a,a1x fun t h=>(c t (a01 _ h)).1,hl];simp[a1Y,a];rw[d7G fun t h=>c t (a02 _ h),hs]
theorem e5A{sv:SV}(h:b9R U.rt sv):∀n∈sv.refs,U.rt n≠none:=fun n f=>by
 rcases h with h|⟨m,p,r,τ,rfl,g,-⟩;simp_all[a9f];obtain rfl:n=m:=by simp_all[SV.refs,AV.refs]
 simp_all
def Md.reads:Md->Nat->Prop
 |.q,_=>True
 |.s,_=>True
 |.t,_=>True
 |.r ns,n=>n∈ns
 |_,_=>False
def Md.quiet:Md->Prop
 |.v|.p|.q|.s|.u|.t|.r _=>True
 |_=>False
def Md.isV:Md->Bool
 |.v|.p|.u=>true
 |_=>false
def d2M(md:Md)(T:List Nat)(U U2:AE):Prop:=U2.pd=U.pd/\∀t∈T,U2.sl t=U.sl t/\∀n∈(U.sl t).refs,md.isV=false->U2.rt n=U.rt n
theorem d2N{Z:Type}{ops:Array Oper}{md:Md}(j:md.quiet)(B:o.dst=some d){K:AE->Rs Z}{z:Z}(C:a0A cx md ops.toList o U K=some z):
  ∃(δ:Dl)(L:List Nat),(∀t∈L,t∈o.looksAt ops/\∀n∈(U.sl t).refs,md.isV=false->md.reads n/\U.rt n≠none)/\K (δ.app d U)=some z/\(∀n,find δ.rs n≠none->U.rt n=none)/\
   ∀U2,d2M md L U U2->(∀n,find δ.rs n≠none->U2.rt n=none)->∀{Z2:Type}(l:AE->Rs Z2),a0A cx md ops.toList o U2 l=l (δ.app d U2):=by
 cases md with
 |v=>
  obtain⟨sv,L,m,i,y,A⟩:=d7z B C;exact⟨⟨[],sv⟩,L,fun t h=>⟨(i t h).1,fun n f e=>by cases e⟩,y,fun n f=>absurd rfl f,fun U2 k _ Z2 l=>A U2 k.1 (fun t h=>(k.2 t h).1) l⟩
 |q=>
  obtain⟨δ,L,m,i⟩:=e8U B C;exact⟨δ,L,fun t h=>⟨(m t h).1,fun n f _=>⟨trivial,(m t h).2 n f⟩⟩,i.1,i.2.1,fun U2 k=>i.2.2 U2 ⟨k.1,fun t h=>⟨(k.2 t h).1,fun n f=>(k.2 t h).2 n f rfl⟩⟩⟩
 |r ns=>
  obtain⟨δ,L,m,i,y,-,A⟩:=d7B B C;exact⟨δ,L,fun t h=>⟨(m t h).1,fun n f _=>⟨((m t h).2.2 n f).2,((m t h).2.2 n f).1⟩⟩,i,fun n f=>(y n f).1,fun U2 k=>A U2 ⟨k.1,fun t h=>⟨(k.2 t h).1,fun n f=>(k.2 t h).2 n f rfl⟩⟩⟩
 |p=>
  obtain⟨sv,L,m,i,y,A⟩:=e3Y B C;exact⟨⟨[],sv⟩,L,fun t h=>⟨(i t h).1,fun n f e=>by cases e⟩,y,fun n f=>absurd rfl f,fun U2 k _ Z2 l=>A U2 (fun t h=>(k.2 t h).1) l⟩
 |s=>
  obtain⟨sv,L,m,i,y,A⟩:=d7F B C;exact⟨⟨[],sv⟩,L,fun t h=>⟨(i t h).1,fun n f _=>⟨trivial,(i t h).2.2 n f⟩⟩,y,fun n f=>absurd rfl f,fun U2 k _ Z2 l=>A U2 (fun t h=>⟨(k.2 t h).1,fun n f=>by rw[(k.2 t h).2 n f rfl]⟩) (fun g=>by unfold AE.pdElem at g|-;rw[k.1];omega) l⟩
 |u=>
  obtain⟨sv,L,m,i,y,A⟩:=c6J B C;exact⟨⟨[],sv⟩,L,fun t h=>⟨(i t h).1,fun n f e=>by cases e⟩,y,fun n f=>absurd rfl f,fun U2 k _ Z2 l=>A U2 (fun t h=>(k.2 t h).1) l⟩
 |t=>
  obtain⟨sv,L,m,i,y,A⟩:=d7I B C;exact⟨⟨[],sv⟩,L,fun t h=>⟨(i t h).1,fun n f _=>⟨trivial,e5A (i t h).2 n f⟩⟩,y,fun n f=>absurd rfl f,fun U2 k _ Z2 l=>A U2 (fun t h=>⟨(k.2 t h).1,fun n f=>by rw[(k.2 t h).2 n f rfl]⟩) l⟩
 |x=>cases j
 |c ws=>cases j
 |e=>cases j
 |b ws=>cases j
 |a ws=>cases j
 |w ws=>cases j
end
def d2a(y:(t:Ty)×t.den):Option AV:=match y with
 |⟨.int k,v⟩=>some (.val (.int k) v)
 |_=>none
theorem e5B(r:Root)(q:a0C):r.scal q=bif q.all Step.isField then d2a (a0T r.t r.x q)else none:=rfl
theorem c1H:∀(p:a0C)(t:Ty)(x:t.den){e:Ty}(l l':List e.den),a1j p t x=⟨.list true e,l⟩->∀q:a0C,q.all Step.isField=true->d2a (a1j q t (a2e p t x (.list true e) l'))=d2a (a1j q t x)
 | [],t,x,e,l,l',h,q,hq=>by
  simp[a1j]at h;cases h;cases q with
  |nil=>rfl
  |cons s q=>cases s with
   |idx i=>simp_all[Step.isField]
   |_=>rfl
 |.fst::p,t,x,e,l,l',h,q,hq=>by
  cases t with
  |pair a b=>
   cases q with
   |nil=>rfl
   |cons s q=>cases s with
    |idx i=>simp[Step.isField]at hq
    |fst=>exact c1H p a x.1 l l' h q (by simpa[Step.isField]using hq)
    |snd=>rfl
  |_=>cases h
 |.snd::p,t,x,e,l,l',h,q,hq=>by
  cases t with
  |pair a b=>
   cases q with
   |nil=>rfl
   |cons s q=>cases s with
    |idx i=>simp[Step.isField]at hq
    |snd=>exact c1H p b x.2 l l' h q (by simpa[Step.isField]using hq)
    |fst=>rfl
  |_=>cases h
 |.idx i::p,t,x,e,l,l',h,q,hq=>by
  have g:∀y:t.den,(∀k,t≠.int k)->(∀a b,t≠.pair a b)->d2a (a1j q t y)=none:=fun y f c=>by
   cases q with
   |nil=>cases t with
    |int k=>simp_all
    |_=>rfl
   |cons s q=>cases s with
    |idx i=>simp_all[Step.isField]
    |fst=>cases t with
     |pair a b=>simp_all
     |_=>rfl
    |snd=>cases t with
     |pair a b=>simp_all
     |_=>rfl
  cases t with
  |int k=>rfl
  |pair a b=>rfl
  |_=>exact(g _ (by simp) (by simp)).trans (g _ (by simp) (by simp)).symm
theorem e5C{r:Root}{p:a0C}{e:Ty}{l:List e.den}(h:a0T r.t r.x p=⟨.list true e,l⟩)(l':List e.den):scq (some ⟨r.bx,r.t,a1T r.t r.x p (.list true e) l'⟩)=scq (some r):=by
 simp only[scq,a39];congr 2
 grind[e5B,c1H]
def FP(f:AV->AV):Prop:=(∀v:AV,v.calm=true->f v=v)/\∀v:AV,(f v).calm=true->f v=v
theorem FP.id:FP id:=⟨fun _ _=>rfl,fun _ _=>rfl⟩
def FW(W:List Nat)(f:AV->AV):Prop:=(∀v:AV,(∀n∈v.refs,n∉W)->f v=v)/\(∀v:AV,f v=v\/f v=.dead)/\∀n,pinned<=n->f (.ptr n [])=.ptr n []
theorem FW.id{W:List Nat}:FW W id:=⟨fun _ _=>rfl,fun _=>.inl rfl,fun _ _=>rfl⟩
theorem FW.comp{W:List Nat}{f g:AV->AV}(k:FW W f)(a:FW W g)(c:g .dead=.dead:=by rfl):FW W (fun v=>g (f v)):=by
 refine⟨fun v h=>?_,fun v=>?_,fun n b=>?_⟩;show g (f v)=v;rw[k.1 v h];exact a.1 v h;show g (f v)=v\/g (f v)=.dead;rcases k.2.1 v with h|h;rw[h];exact a.2.1 v;simp_all;show g (f _)=_;rw[k.2.2 n b];exact a.2.2 n b
theorem FW.dead{W:List Nat}{f:AV->AV}(h:FW W f):f .dead=.dead:=(h.2.1 .dead).elim _root_.id _root_.id
theorem FW.fp{W:List Nat}{f:AV->AV}(k:FW W f):FP f:=by
 refine⟨fun v h=>?_,fun v h=>?_⟩
 ·cases v with
  |ptr n p=>
   cases p with
   |nil=>exact k.2.2 n (by simpa[AV.calm]using h)
   |cons=>simp_all[AV.calm,AV.firm]
  |sref=>cases h
  |swin=>cases h
  |_=>exact k.1 _ fun n a=>(by cases a)
 rcases k.2.1 v with g|g;omega;rw[g]at h;cases h
theorem nb{W:List Nat}{m n:Nat}(g:n∈W)(h:∀k∈[m],k∉W):(m==n)=false:=by
 grind
theorem FW.drop{W:List Nat}{n:Nat}(g:n∈W)(hp:n<pinned):FW W (AV.drop n):=by
 refine⟨fun v h=>?_,fun v=>?_,fun m f=>?_⟩
 ·cases v with
  |ptr m q=>simp only[AV.drop,nb g h,a03,if_false]
  |sref m q=>simp only[AV.drop,nb g h,a03,if_false]
  |swin m q o l=>simp only[AV.drop,nb g h,a03,if_false]
  |_=>rfl
 ·cases v with
  |ptr m q=>simp only[AV.drop];split<;>simp
  |sref m q=>simp only[AV.drop];split<;>simp
  |swin m q o l=>simp only[AV.drop];split<;>simp
  |_=>exact .inl rfl
 have:(m==n)=false:=by simp only[beq_eq_false_iff_ne];omega
 simp[AV.drop,this]
theorem FW.kill{W:List Nat}{n:Nat}(g:n∈W)(p:a0C):FW W (AV.kill n p):=by
 refine⟨fun v h=>?_,fun v=>?_,fun m f=>by simp[AV.kill]⟩
 ·cases v with
  |ptr m q=>simp only[AV.kill,nb g h,a31,a03,if_false]
  |sref m q=>simp only[AV.kill,nb g h,a31,a03,if_false]
  |swin m q o l=>simp only[AV.kill,nb g h,a31,a03,if_false]
  |_=>rfl
 ·cases v with
  |ptr m q=>simp only[AV.kill];split<;>simp
  |sref m q=>simp only[AV.kill];split<;>simp
  |swin m q o l=>simp only[AV.kill];split<;>simp
  |_=>exact .inl rfl
theorem FW.deeps{W us ks:List Nat}(a:∀n∈us,n∈W):FW W (AV.deeps us ks):=by
 have g:∀m,(∀k∈[m],k∉W)->us.contains m=false:=fun m h=>by
  grind
 refine⟨fun v h=>?_,fun v=>?_,fun m f=>by simp[AV.deeps]⟩
 ·cases v with
  |ptr m q=>simp only[AV.deeps,g m h,a03,if_false]
  |sref m q=>simp only[AV.deeps,g m h,a03,if_false]
  |swin m q o l=>simp only[AV.deeps,g m h,a03,if_false]
  |_=>rfl
 ·cases v with
  |ptr m q=>
   simp only[AV.deeps];split;cases q<;>simp
   simp
  |sref m q=>
   simp only[AV.deeps];split
   ·cases q with
    |nil=>simp only[];split<;>simp
    |cons=>simp
   simp
  |swin m q o l=>simp only[AV.deeps];split<;>simp
  |_=>exact .inl rfl
theorem FP.sv{f:AV->AV}(g:FP f){sv:SV}(h:sv.calm=true):sv.mapv f=sv:=by
 cases sv with
 |one v=>simp only[SV.mapv];rw[g.1 v h]
 |cmp c0 vs=>
  simp only[SV.mapv];congr 1;refine(a07 fun v hv=>g.1 v (c8I (lA.1 h v hv))).trans (a33 _)
theorem FP.sv'{f:AV->AV}(g:FP f){sv:SV}(h:(sv.mapv f).calm=true):sv.mapv f=sv:=by
 cases sv with
 |one v=>simp only[SV.mapv]at h|-;rw[g.2 v h]
 |cmp c0 vs=>
  simp only[SV.mapv]at h|-;congr 1;refine(a07 fun v hv=>g.2 v (c8I (lA.1 h _ (a48 hv)))).trans (a33 _)
theorem FW.sv{W:List Nat}{f:AV->AV}(g:FW W f){sv:SV}(h:∀n∈sv.refs,n∉W):sv.mapv f=sv:=by
 cases sv with
 |one v=>simp only[SV.mapv];rw[g.1 v h]
 |cmp c0 vs=>
  simp only[SV.mapv];congr 1;refine(a07 fun v hv=>g.1 v fun n k=>h n (a37.2 ⟨v,hv,k⟩)).trans (a33 _)
theorem FW.sv'{W:List Nat}{f:AV->AV}(k:FW W f){sv:SV}(h:(sv.mapv f).alive=true):sv.mapv f=sv:=by
 have one:∀v:AV,(f v).alive=true->f v=v:=fun v hv=>by
  rcases k.2.1 v with g|g;omega;rw[g]at hv;cases hv
 cases sv with
 |one v=>simp only[SV.mapv]at h|-;rw[one v h]
 |cmp c0 vs=>
  simp only[SV.mapv]at h|-;congr 1;refine(a07 fun v hv=>one v (lA.1 h _ (a48 hv))).trans (a33 _)
theorem FW.refs{W:List Nat}{f:AV->AV}(k:FW W f){sv:SV}{n:Nat}(h:n∈(sv.mapv f).refs):n∈sv.refs:=by
 have one:∀v:AV,n∈(f v).refs->n∈v.refs:=fun v hv=>by
  rcases k.2.1 v with g|g;simp_all;rw[g]at hv;cases hv
 cases sv with
 |one v=>exact one v h
 |cmp c0 vs=>
  simp only[SV.mapv,SV.refs,a37]at h|-
  grind
structure MDl where
 f:AV->AV
 rt:Nat->Option Root
 sv:SV

 pd:Option (Nat×a0C×Nat):=none
def a4o(W:List Nat)(m:MDl)(d:Option Nat)(U:AE):AE:=⟨fun i=>bif d==some i then m.sv else(U.sl i).mapv m.f,fun n=>bif W.contains n then m.rt n else U.rt n,U.pd⟩
def a2m(W:List Nat)(m:MDl)(d:Option Nat)(U:AE):AE:={ a4o W m d U with pd:=match m.pd with|none=>U.pd|some x=>some x }
theorem b7x{W:List Nat}{m:MDl}{d:Option Nat}{U:AE}(h:m.pd=none):a2m W m d U=a4o W m d U:=by simp[a2m,h];rfl
theorem d0f(f g:AV->AV)(sv:SV):(sv.mapv f).mapv g=sv.mapv fun v=>g (f v):=by
 cases sv with
 |one v=>rfl
 |cmp c0 vs=>simp_all[SV.mapv]
theorem a8g(sv:SV):sv.mapv id=sv:=by cases sv<;>simp[SV.mapv]
section
variable {g:Bool} {cx:Cx} {o:Oper} {d:Nat} {U:AE} {W:List Nat}
def e6R{Z:Type}(K:AE->Rs Z):AE->Rs Z:=fun U'=>match U'.pd with
 |none=>K U'
 |some _=>none
def a1g(W T:List Nat)(U U2:AE):Prop:=U2.pd=U.pd/\(∀n∈W,U2.rt n=U.rt n)/\∀t∈T,U2.sl t=U.sl t
theorem a1g.refl{T:List Nat}:a1g W T U U:=⟨rfl,fun _ _=>rfl,fun _ _=>rfl⟩
theorem a1g.opd{U2:AE}(h:a1g W (a0q o) U U2){x:Operand}(g:x∈o.op.operands.toList):U2.opd x=U.opd x:=by
 cases x with
 |tmp t=>simp[AE.opd,AE.get];rw[h.2.2 t (a2w g)]
 |_=>rfl
theorem a1g.aggOf{U2:AE}(h:a1g W (a0q o) U U2){x:Operand}(g:x∈o.op.operands.toList):U2.aggOf x=U.aggOf x:=by
 cases x with
 |tmp t=>simp[AE.aggOf];rw[h.2.2 t (a2w g)]
 |_=>rfl
theorem a1g.look{T:List Nat}{U2:AE}(h:a1g W T U U2){n:Nat}(g:n∈W):U2.look n=U.look n:=by
 simp only[AE.look,h.1,h.2.1 n g]
def b1G{Z:Type}(W:List Nat)(r:Option MDl)(d:Option Nat)(U2:AE)(K:AE->Rs Z):Rs Z:=match r with
 |none=>none
 |some m=>K (a2m W m d U2)
def gPd{Z:Type}(g:Bool)(K:AE->Rs Z):AE->Rs Z:=bif g then e6R K else K
def a1U(g:Bool)(cx:Cx)(o:Oper)(d:Option Nat)(U:AE)(W:List Nat):Prop:=
 ∃r:Option MDl,(∀m,r=some m->FW W m.f/\(g=true->m.pd=none)/\∀n p d,m.pd=some (n,p,d)->m.f=AV.kill n p/\(∃r e l,U.rt n=Option.some r/\a0T r.t r.x p=⟨Ty.list true e,l⟩)/\∀k∈W,scq (m.rt k)=scq (U.rt k))/\∀U2,a1g W (a0q o) U U2->∀{Z:Type}(K:AE->Rs Z),aop cx false o U2 (gPd g K)=b1G W r d U2 K
theorem a1U.none{d:Option Nat}(h:∀U2,a1g W (a0q o) U U2->∀{Z:Type}(K:AE->Rs Z),aop cx false o U2 (gPd g K)=none):a1U g cx o d U W:=⟨.none,by simp,fun U2 f Z K=>h U2 f K⟩
theorem a1U.some{d:Option Nat}(f:AV->AV)(c:FW W f)(sv:SV)(S:List Nat)(b:∀n∈S,n∈W)(k:Nat->Option Root)
  (h:∀U2,a1g W (a0q o) U U2->∀{Z:Type}(K:AE->Rs Z),aop cx false o U2 (gPd g K)=K ⟨fun i=>bif d==some i then sv else(U2.sl i).mapv f,fun n=>bif S.contains n then k n else U2.rt n,U2.pd⟩):a1U g cx o d U W:=by
 refine⟨.some ⟨f,fun n=>bif S.contains n then k n else U.rt n,sv,.none⟩,fun m e=>by grind,fun U2 a Z K=>?_⟩;rw[h U2 a K];simp only[b1G,a2m,a4o];congr 2;funext n;cases hs:S.contains n with
 |true=>
  simp_all
 |false=>
  cases hw:W.contains n with
  |true=>simp;exact a.2.1 n (a41.1 hw)
  |false=>rfl
theorem d7J{d:Option Nat}(f:Nat×a0C×Nat)(p:FW W (AV.kill f.1 f.2.1))(sv:SV)(S:List Nat)(j:∀n∈S,n∈W)(k:Nat->Option Root)(b:∀n∈S,scq (k n)=scq (U.rt n))(s:∃r e l,U.rt f.1=Option.some r/\a0T r.t r.x f.2.1=⟨Ty.list true e,l⟩)(q:g=false)
  (h:∀U2,a1g W (a0q o) U U2->∀{Z:Type}(K:AE->Rs Z),aop cx false o U2 (gPd g K)=K ⟨fun i=>bif d==some i then sv else(U2.sl i).mapv (AV.kill f.1 f.2.1),fun n=>bif S.contains n then k n else U2.rt n,.some f⟩):a1U g cx o d U W:=by
 refine⟨.some ⟨AV.kill f.1 f.2.1,fun n=>bif S.contains n then k n else U.rt n,sv,.some f⟩,fun m c=>by
  cases c
  grind,fun U2 a Z K=>?_⟩
 rw[h U2 a K];simp only[b1G,a2m,a4o];congr 2;funext n;cases hs:S.contains n with
 |true=>
  simp_all
 |false=>
  cases hw:W.contains n with
  |true=>simp;exact a.2.1 n (a41.1 hw)
  |false=>rfl
theorem b2m{Z:Type}{K:AE->Rs Z}{U':AE}(h:U'.pd=none):gPd g K U'=K U':=by cases g<;>simp only[gPd,e6R,h,cT,cF]
theorem a3o(n m:Nat):[m].contains n=(n==m):=by grind
theorem d6B{Z:Type}{U2:AE}(h:U2.pd=none)(r:Root)(v:AV)(K:AE->Rs Z):(U2.fresh false d r fun U=>K (U.set d v)) =
  bif decide (d<pinned)then K ⟨fun i=>bif some d==some i then .one v else(U2.sl i).mapv (match U2.rt d with|none=>id|some _=>AV.drop d),fun n=>bif [d].contains n then some r else U2.rt n,U2.pd⟩else none:=by
 have g:∀i,(some d==some i)=(i==d):=fun i=>by
  grind
 unfold AE.fresh;cases decide (d<pinned);rfl
 ·simp only[cT];cases hr:U2.rt d with
  |none=>
   simp only[AE.newRt,hr];congr 1;simp only[AE.set,AE.put,AE.setRt,a3o,g];simp_all[a8g]
  |some r0=>
   simp only[cF,AE.look,h,hr,AE.newRt];congr 1;simp only[AE.set,AE.put,AE.setRt,a3o,g,AE.mapv,h]
theorem c1I(b:U.pd=none)(w:d∈W){e:Ty}{x:AV}(y:∀n∈x.refs,n∈W){ys:Option (List e.den)}(h:∀U2,a1g W (a0q o) U U2->∀{Z:Type}(K:AE->Rs Z),aop cx false o U2 K=ys.elim none fun ys=>U2.apnd false d e x ys K):a1U g cx o (some d) U W:=by
 have u:∀i,(some d==some i)=(i==d):=fun i=>by
  grind
 cases ys with
 |none=>simp_all[a1U.none]
 |some ys=>
  have h:∀U2,a1g W (a0q o) U U2->∀{Z:Type}(K:AE->Rs Z),aop cx false o U2 K=U2.apnd false d e x ys K:=h;have z:(x=.nils\/x=.empt)->a1U g cx o (some d) U W:=fun A=>by
   have h:∀U2,a1g W (a0q o) U U2->∀{Z:Type}(K:AE->Rs Z),aop cx false o U2 K=bif lim ys.length then U2.fresh false d ⟨false,.list true e,ys⟩ fun U=>K (U.set d (.sref d []))else none:=fun U2 f Z K=>by
    rw[h U2 f];rcases A with rfl|rfl<;>rfl
   cases hl:lim ys.length with
   |false=>simp_all[a1U.none]
   |true=>
    cases hd':decide (d<pinned)with
    |false=>exact a1U.none fun U2 f Z K=>by rw[h U2 f,hl];simp;rw[d6B (f.1.trans b),hd'];rfl
    |true=>
     refine a1U.some (match U.rt d with|.none=>id|.some _=>AV.drop d) ?_ (.one (.sref d [])) [d] (by simp_all) (fun _=>.some ⟨false,.list true e,ys⟩) fun U2 f Z K=>?_
     grind[FW.id,FW.drop]
     rw[h U2 f,hl];simp only[cT];rw[d6B (f.1.trans b),hd',f.2.1 d w];simp only[cT];exact b2m (f.1.trans b)
  cases x with
  |nils=>simp_all
  |empt=>simp_all
  |sref n p=>
   have j:n∈W:=y n (by simp[AV.refs]);have c:∀U2,a1g W (a0q o) U U2->U2.look n=U.rt n:=fun U2 f=>by rw[f.look j];simp only[AE.look,b]
   cases hr:U.rt n with
   |none=>
    simp_all[a1U.none,AE.apnd]
   |some r=>
    cases hg:a0T r.t r.x p with
    |mk tt l=>
     cases tt with
     |list o' e'=>
      cases o' with
      |false=>
       simp_all[a1U.none,AE.apnd]
      |true=>
       by_cases he:e=e'
       ·subst he;cases hl:lim (a08 l+ys.length)with
        |false=>
         simp_all[a1U.none,AE.apnd]
        |true=>
         by_cases hp:p=[]/\r.bx=false
         ·obtain⟨rfl,v⟩:=hp;cases hnp:decide (n<pinned)with
          |false=>simp_all[a1U.none,AE.apnd]
          |true=>
          refine a1U.some (AV.kill n []) (FW.kill j []) (.one (.sref n [])) [n] (by simp_all) (fun _=>.some ⟨r.bx,r.t,a1T r.t r.x [] (.list true e) (a42 l ys)⟩) fun U2 f Z K=>?_
          rw[h U2 f];simp only[AE.apnd,cF,c U2 f,hr,hg,dite_true,hl,cT,v,hnp];rw[b2m (by exact f.1.trans b)];congr 1;simp only[AE.set,AE.put,AE.setRt,AE.mapv,a3o,u]
         ·cases hgg:g with
          |true=>
           refine a1U.none fun U2 f Z K=>?_
           rw[h U2 f];simp[AE.apnd,c U2 f,hr,hg,hl];cases p with
           |nil=>
            cases hb:r.bx with
            |false=>simp_all
            |true=>simp[f.1,b];rfl
           |cons a p'=>simp[f.1,b];rfl
          |false=>
           refine d7J (n,p,d) (FW.kill j p) (.one (.sref n p)) [n] (by simp_all) (fun _=>.some ⟨r.bx,r.t,a1T r.t r.x p (.list true e) (a42 l ys)⟩) (fun k B=>by
            grind[e5C]) ⟨r,_,_,hr,hg⟩ rfl fun U2 f Z K=>?_
           rw[h U2 f];simp only[AE.apnd,cF,c U2 f,hr,hg,dite_true,hl,cT];have m:∀(q s:AE),q=s->gPd false K q=K s:=fun q s e=>by rw[e];rfl
           cases p with
           |nil=>
            cases hb:r.bx with
            |false=>simp_all
            |true=>
             simp only[f.1,b];refine m _ _ ?_
             simp only[AE.set,AE.put,AE.setRt,AE.mapv,a3o,u]
           |cons a p'=>
            simp only[f.1,b];refine m _ _ ?_
            simp only[AE.set,AE.put,AE.setRt,AE.mapv,a3o,u]
       simp_all[a1U.none,AE.apnd]
     |_=>
      exact a1U.none fun U2 f Z K=>by
        rw[h U2 f];simp only[AE.apnd,cF,c U2 f,hr,hg]
  |_=>exact a1U.none fun U2 f Z K=>by rw[h U2 f];rfl
end
section
variable {g:Bool} {cx:Cx} {o:Oper} {d:Nat} {U:AE} {W:List Nat}
theorem e3Z{Z:Type}(U:AE)(t:Ty)(a:AV)(hv:a.viewed=[])(K:t.den->AE->Rs Z):U.asV false t a K=(a7E t a).elim none fun x=>K x U:=by
 cases a with
 |val t' x=>grind[AE.asV,a7E]
 |nils=>cases t with
  |list o e=>cases o<;>rfl
  |_=>rfl
 |empt=>cases t with
  |list o e=>cases o<;>rfl
  |_=>rfl
 |sref n p=>cases hv
 |swin n p o k=>cases hv
 |_=>rfl
def b0b(fz:Bool)(lk:Nat->Option Root)(used seen:List Nat):(p:PA)->AV->Option (p.ty.den×List Nat×List Nat)
 |.v t,a=>bif a.viewed.any fun n=>used.contains n then none else bif fz then(a7E t a).map fun x=>(x,used,seen)else(b1F lk t a).map fun x=>(x,used,a.viewed++seen)
 |.r c (.b t),.ptr n []=>if c || used.contains n || seen.contains n then none else match lk n with
  |some ⟨true,t',x⟩=>if h:t'=t then some (h▸x,n::used,seen)else none
  |_=>none
 |.r c (.o e),.sref n []=>if(c&&decide (pinned<=n)) || used.contains n || seen.contains n then none else match lk n with
  |some ⟨bx,.list true e',x⟩=>if h:e'=e then(bif bx&&c then none else some (h▸x,n::used,seen))else none
  |_=>none
 |.r _ _,_=>none
theorem b7y{Z:Type}(U:AE)(fz:Bool)(used seen:List Nat)(p:PA)(a:AV)(hv:fz=false\/a.viewed=[])(K:p.ty.den->AE->List Nat->List Nat->Rs Z):
  U.arg fz false used seen p a K=(b0b fz U.look used seen p a).elim none fun y=>K y.1 U y.2.1 y.2.2:=by
 cases p with
 |v t=>
  simp only[AE.arg,b0b];cases (a.viewed.any fun n=>used.contains n)
  ·simp
   cases fz with
   |true=>
    simp
    rw[e3Z U t a (hv.resolve_left (by simp))];cases a7E t a<;>rfl
   |false=>
    simp
    rw[e0m];cases b1F U.look t a<;>rfl
  rfl
 |r c b=>
  cases b with
  |v t=>rfl
  |b t=>
   cases a with
   |ptr n p=>
    cases p with
    |nil=>
     simp only[AE.arg,b0b,Bool.or_false]
     grind
    |cons=>rfl
   |_=>rfl
  |o e=>
   cases a with
   |sref n p=>
    cases p with
    |nil=>
     simp only[AE.arg,b0b,Bool.or_false]
     grind
    |cons=>rfl
   |_=>rfl
def AE.argsm(U:AE)(fz:Bool)(used seen:List Nat)(ps:List PA)(as:List AV):Option ((a2f (ps.map PA.ty)).den×List Nat):=U.args fz false used seen ps as fun x _ u=>some (x,u)
theorem args_m(U:AE)(fz:Bool)(f:List PA):∀{Z:Type}(as:List AV)(used seen:List Nat)(K:(a2f (f.map PA.ty)).den->AE->List Nat->Rs Z),(fz=false\/∀a∈as,a.viewed=[])->
  U.args fz false used seen f as K=(U.argsm fz used seen f as).elim none fun x=>K x.1 U x.2:=by
 induction f with
 |nil=>
  intro Z as used seen K hv;cases as<;>rfl
 |cons p f ih=>
  intro Z as used seen K hv;cases as with
  |nil=>cases f<;>rfl
  |cons a as=>
   have g:fz=false\/a.viewed=[]:=hv.imp id fun h=>h a (by simp);have k:fz=false\/∀a∈as,a.viewed=[]:=hv.imp id fun h b c=>h b (by grind);cases f with
   |nil=>
    cases as with
    |nil=>
     simp[AE.argsm,AE.args];rw[b7y (hv:=g),b7y (hv:=g)];cases b0b fz U.look used seen p a<;>rfl
    |cons=>rfl
   |cons p' f=>
    simp[AE.argsm,AE.args];rw[b7y (hv:=g),b7y (hv:=g)];cases b0b fz U.look used seen p a with
    |none=>rfl
    |some x=>
     simp[a22];rw[ih as _ _ _ k,ih as _ _ _ k];cases U.argsm fz x.2.1 x.2.2 (p'::f) as<;>rfl
theorem d7K{lk lk':Nat->Option Root}{fz:Bool}{used seen:List Nat}{p:PA}{a:AV}(h:∀n∈a.refs,lk' n=lk n):b0b fz lk' used seen p a=b0b fz lk used seen p a:=by
 cases p with
 |v t=>simp_all[b0b,c4i]
 |r c b=>
  cases b with
  |v t=>rfl
  |b t=>
   cases a with
   |ptr n q=>cases q<;>simp only[b0b,h n (by simp[AV.refs])]
   |_=>rfl
  |o e=>
   cases a with
   |sref n q=>cases q<;>simp only[b0b,h n (by simp[AV.refs])]
   |_=>rfl
theorem d0g{lk:Nat->Option Root}{fz:Bool}{used seen:List Nat}{p:PA}{a:AV}{x}(h:b0b fz lk used seen p a=some x):∀n∈x.2.1,n∈used\/n∈a.refs:=by
 intro n g;cases p with
 |v t=>
  simp only[b0b]at h;obtain⟨-,h⟩:=(a0f h).elim (fun h=>by grind) id;cases fz with
  |true=>
   simp at h;cases ha:a7E t a with
   |none=>rw[ha]at h;cases h
   |some y=>rw[ha]at h;cases h;simp_all
  |false=>
   simp at h;cases ha:b1F lk t a with
   |none=>rw[ha]at h;cases h
   |some y=>rw[ha]at h;cases h;simp_all
 |r c b=>
  cases b with
  |v t=>cases a<;>cases h
  |b t=>
   cases a with
   |ptr m q=>
    cases q with
    |nil=>
     simp only[b0b]at h
     split at h
     grind
     ·split at h
      ·split at h
       ·cases h;rcases mC.1 g with rfl|g
        all_goals simp_all[AV.refs]
       simp_all
      simp_all
    |cons=>cases h
   |_=>cases h
  |o e=>
   cases a with
   |sref m q=>
    cases q with
    |nil=>
     simp only[b0b]at h
     split at h
     grind
     ·split at h
      ·split at h
       ·obtain⟨-,h⟩:=(a0f h).elim (fun h=>by grind) id;cases h;rcases mC.1 g with rfl|g
        all_goals simp_all[AV.refs]
       simp_all
      simp_all
    |cons=>cases h
   |_=>cases h
theorem d4Y{U U2:AE}(fz:Bool)(g:List PA):∀(as:List AV)(used seen:List Nat),(∀a∈as,∀n∈a.refs,U2.look n=U.look n)->(fz=false\/∀a∈as,a.viewed=[])->U2.argsm fz used seen g as=U.argsm fz used seen g as:=by
 induction g with
 |nil=>intro as used seen f hv;cases as<;>rfl
 |cons p g ih=>
  intro as used seen f hv;cases as with
  |nil=>cases g<;>rfl
  |cons a as=>
   have c:fz=false\/a.viewed=[]:=hv.imp id fun h=>h a (by simp);have d:fz=false\/∀a∈as,a.viewed=[]:=hv.imp id fun h k e=>h k (by grind);have b:=d7K (fz:=fz) (used:=used) (seen:=seen) (p:=p) (f a (by simp));cases g with
   |nil=>
    cases as with
    |nil=>
     simp_all[AE.argsm,AE.args,b7y]
    |cons=>rfl
   |cons p' g=>
    simp[AE.argsm,AE.args]
    grind[b7y,args_m]
where
 args_m {U:AE} {fz:Bool} {g:List PA} {Z:Type} {as:List AV} {used seen:List Nat} {K:(a2f (g.map PA.ty)).den->AE->List Nat->Rs Z} (hv:fz=false\/∀a∈as,a.viewed=[]):=Go.Ab.args_m U fz g as used seen K hv
theorem d7L{U:AE}(fz:Bool)(g:List PA):∀(as:List AV)(used seen:List Nat)(x),(fz=false\/∀a∈as,a.viewed=[])->U.argsm fz used seen g as=some x->∀n∈x.2,n∈used\/∃a∈as,n∈a.refs:=by
 induction g with
 |nil=>
  intro as used seen x hv h n b;cases as with
  |nil=>cases h;simp_all
  |cons=>cases h
 |cons p g ih=>
  intro as used seen x hv h n b;cases as with
  |nil=>cases g<;>cases h
  |cons a as=>
   have f:fz=false\/a.viewed=[]:=hv.imp id fun h=>h a (by simp);have k:fz=false\/∀a∈as,a.viewed=[]:=hv.imp id fun h c e=>h c (by grind);cases g with
   |nil=>
    cases as with
    |nil=>
     simp[AE.argsm,AE.args]at h;rw[b7y (hv:=f)]at h;cases hx:b0b fz U.look used seen p a with
     |none=>simp_all
     |some y=>
      rw[hx]at h;cases h;exact(d0g hx n b).imp id fun h=>⟨a,by simp,h⟩
    |cons=>cases h
   |cons p' g=>
    simp[AE.argsm,AE.args]at h;rw[b7y (hv:=f)]at h;cases hx:b0b fz U.look used seen p a with
    |none=>simp_all
    |some y=>
     rw[hx]at h;simp at h;rw[args_m U fz (p'::g) as _ _ _ k]at h;cases hr:U.argsm fz y.2.1 y.2.2 (p'::g) as with
     |none=>simp_all
     |some u=>
      rw[hr]at h;cases h;rcases ih as _ _ u k hr n b with h|⟨c,d,h⟩;exact(d0g hx n h).imp id fun h=>⟨a,by simp,h⟩
      grind
def a8h:List Nat->(Nat->Option Root)->AV->AV
 | [],_=>id
 |n::r,rt=>match rt n with
  |none=>a8h r rt
  |some _=>fun v=>a8h r (fun j=>bif j==n then none else rt j) (AV.drop n v)
theorem c4l:∀(ns:List Nat){rt rt2:Nat->Option Root},(∀n∈ns,rt2 n=rt n)->a8h ns rt2=a8h ns rt
 | [],_,_,_=>rfl
 |n::r,rt,rt2,h=>by
  simp_all[a8h,c4l]
theorem c5u:∀(ns:List Nat)(rt:Nat->Option Root),(∀n∈ns,n∈W/\n<pinned)->FW W (a8h ns rt)
 | [],rt,_=>FW.id
 |n::r,rt,h=>by
  simp only[a8h];cases rt n with
  |none=>exact c5u r rt fun m g=>h m (by simp[g])
  |some x=>
   have:=c5u r (fun j=>bif j==n then none else rt j) fun m g=>h m (by simp[g])
   exact(FW.drop (h n (by simp)).1 (h n (by simp)).2).comp this this.dead
theorem c5v{m n:Nat}{r:List Nat}(h:¬ m=n):(n::r).contains m=r.contains m:=by
 simp_all
theorem c1J{Z:Type}(us:List Nat):∀(ns:List Nat)(U:AE)(K:AE->Rs Z),U.dropAll false us ns K =
  bif ns.all fun n=>decide (n<pinned)&&!us.contains n then K ⟨fun i=>(U.sl i).mapv (a8h ns U.rt),fun n=>bif ns.contains n then none else U.rt n,U.pd⟩else none
 | [],U,K=>by
  simp_all[AE.dropAll,a8h,a8g]
 |n::r,U,K=>by
  simp only[AE.dropAll,a23];cases (decide (n<pinned)&&!us.contains n);rfl
  ·simp only[cT,Bool.true_and];cases hr:U.rt n with
   |none=>
    simp only[a8h,hr];rw[c1J us r U K];congr 2;congr 1;funext m
    by_cases e:m=n
    subst e;simp[hr];rw[c5v e]
   |some x=>
    simp only[cF,a8h,hr];rw[c1J us r];simp only[AE.setRt,AE.mapv,d0f]
    grind
theorem b1H:∀(rs:List RA)(b n:Nat),n∈a2S rs b->n∈a1q rs b
 | [],_,_,h=>h
 |.v _::rs,b,n,h=>a04 _ (b1H rs _ n h)
 |.o _::rs,b,n,h=>by
  rcases mC.1 h with rfl|h;exact a18;exact a04 _ (b1H rs _ n h)
 |.b _::rs,b,n,h=>by
  rcases mC.1 h with rfl|h;exact a18;exact a04 _ (b1H rs _ n h)
theorem c5w{x:Operand}(a:x∈o.op.operands.toList){n:Nat}(k:n∈(U.opd x).refs):n∈U.foot o:=by
 refine a37.2 ⟨x,a,?_⟩;cases x with
 |tmp t=>
  simp[AE.opd,AE.get]at k;show n∈(U.sl t).refs
  revert k
  cases U.sl t with
  |one v=>exact id
  |cmp c vs=>exact fun h=>by cases h
 |const v=>
  simp[AE.opd]at k;unfold b6a at k
  split at k<;>cases k
 |global g=>cases k
 |func f=>cases k
theorem e0x{d:Option Nat}{c:Call}{f:FuncId}{s:FSem}(Q:o.op=.call c)(hb:c.callee=.value (.func f))(T:o.dst=d)(z:U.pd=none)(V:cx.C f=some s)(G:∀n∈U.foot o,n∈W)(H:∀n∈a4X cx o (d.getD 0),n∈W)
    (hv:(s.rs.any RA.hasList || (a5l s.ps).any RA.hasList)=false\/∀a∈c.args.toList.map U.opd,a.viewed=[]):a1U g cx o d U W:=by
  let fz:=s.rs.any RA.hasList || (a5l s.ps).any RA.hasList
  let b:=d.getD 0+1000
  let j:=a2S s.rs b
  have P:∀U2,a1g W (a0q o) U U2->c.args.toList.map U2.opd=c.args.toList.map U.opd:=fun U2 p=>a07 fun x w=>p.opd (b2l Q x w);have u:∀a∈c.args.toList.map U.opd,∀n∈a.refs,n∈W:=fun a B n l=>by
    obtain⟨x,w,rfl⟩:=a20.1 B;exact G n (c5w (b2l Q x w) l)
  have A:∀n∈a1q s.rs b,n∈W:=fun n l=>H n (by grind[a4X]);have t:∀n∈j,n∈W:=fun n l=>A n (b1H _ _ n l);have run:∀U2,a1g W (a0q o) U U2->∀{Z:Type}(K:AE->Rs Z),aop cx false o U2 (gPd g K)=(U.argsm fz [] [] s.ps (c.args.toList.map U.opd)).elim none fun x=>
      bif j.all (fun n=>decide (n<pinned)&&!x.2.contains n)then(s.F x.1).bind fun y=>
        (let D:AE:=⟨fun i=>((U2.sl i).mapv (a8h j U.rt)).mapv (AV.deeps x.2 ((brw s.ps x.2.reverse).filter fun n=>!c1l (bif j.contains n then none else U2.rt n))),fun n=>match a2t (a1q s.rs b++x.2.reverse) (a2r (RA.all s.ps s.rs) y) n with
          |some r=>some (bif x.2.contains n then b2H (bif j.contains n then none else U2.rt n) r else r)
          |none=>bif j.contains n then none else U2.rt n,none⟩
         match d with
          |none=>gPd g K D
          |some d=>match a4F (a1q s.rs b) (a2r (RA.all s.ps s.rs) y)with
            | [v]=>gPd g K (D.set d v)
            |vs=>gPd g K (D.put d (.cmp .tup vs)))else none:=fun U2 p Z K=>by
    have E:aop cx false o U2 (gPd g K)=U2.call false d s (c.args.toList.map U.opd) (gPd g K):=by
      grind[aop]
    rw[E];unfold AE.call;rw[show U2.pd=none from p.1.trans z];simp only[];rw[args_m _ _ _ _ _ _ _ hv,d4Y _ _ _ _ _ (fun a B n l=>p.look (u a B n l)) hv];cases U.argsm (s.rs.any RA.hasList || (a5l s.ps).any RA.hasList) [] [] s.ps (c.args.toList.map U.opd)with
    |none=>rfl
    |some x=>
      simp only[a22];rw[c1J,c4l _ fun n l=>p.2.1 n (t n l)];cases d<;>rfl
  cases w:U.argsm fz [] [] s.ps (c.args.toList.map U.opd)with
  |none=>simp_all[a1U.none]
  |some x=>
    cases l:(j.all fun n=>decide (n<pinned)&&!x.2.contains n)with
    |false=>exact a1U.none fun U2 p Z K=>by grind
    |true=>
      cases hy:s.F x.1 with
      |none=>simp_all[a1U.none]
      |some y=>
        let m:=a2r (RA.all s.ps s.rs) y
        let ns:=a1q s.rs b
        let sv:SV:=match a4F ns m with
          | [v]=>.one v
          |vs=>.cmp .tup vs
        have q:∀n∈x.2,n∈W:=fun n l=>by
          rcases d7L fz s.ps _ _ _ x hv w n l with h|⟨a,B,h⟩
          all_goals grind
        have I:=c5u j U.rt fun n M=>⟨t n M,by
          simp_all⟩
        have L:∀U2,a1g W (a0q o) U U2->((brw s.ps x.2.reverse).filter fun n=>!c1l (bif j.contains n then none else U2.rt n))=(brw s.ps x.2.reverse).filter fun n=>!c1l (bif j.contains n then none else U.rt n):=fun U2 p=>
          a54 fun n l=>by
            obtain⟨k,i,e,R,-⟩:=c3p s.ps x.2.reverse 0 n l;rw[p.2.1 n (q n (List.mem_reverse.1 (a29 R)))]
        refine a1U.some (fun v=>AV.deeps x.2 ((brw s.ps x.2.reverse).filter fun n=>!c1l (bif j.contains n then none else U.rt n)) (a8h j U.rt v)) (I.comp (FW.deeps q)) sv ((ns++x.2.reverse)++j) (fun n l=>?_) (fun n=>match a2t (ns++x.2.reverse) m n with
          |some r=>some (bif x.2.contains n then b2H (bif j.contains n then none else U.rt n) r else r)
          |none=>bif j.contains n then none else U.rt n) fun U2 p Z K=>?_
        grind
        rw[run U2 p,w];simp only[a22,l,cT,hy,oB];have O:(fun n=>match a2t (ns++x.2.reverse) m n with
            |some r=>some (bif x.2.contains n then b2H (bif j.contains n then none else U2.rt n) r else r)
            |none=>bif j.contains n then none else U2.rt n)=fun n=>bif ((ns++x.2.reverse)++j).contains n then(match a2t (ns++x.2.reverse) m n with
            |some r=>some (bif x.2.contains n then b2H (bif j.contains n then none else U.rt n) r else r)
            |none=>bif j.contains n then none else U.rt n)else U2.rt n:=by
          funext n;cases hS:((ns++x.2.reverse)++j).contains n with
          |true=>
            have N:n∈W:=by
              grind
            rw[p.2.1 n N];rfl
          |false=>
            grind[b2N]
        have S:∀sv':SV,(⟨fun i=>bif d==some i then sv' else((U2.sl i).mapv (a8h j U.rt)).mapv (AV.deeps x.2 ((brw s.ps x.2.reverse).filter fun n=>!c1l (bif j.contains n then none else U2.rt n))),fun n=>match a2t (a1q s.rs b++x.2.reverse) (a2r (RA.all s.ps s.rs) y) n with
            |some r=>some (bif x.2.contains n then b2H (bif j.contains n then none else U2.rt n) r else r)
            |none=>bif j.contains n then none else U2.rt n,none⟩:AE)=⟨fun i=>bif d==some i then sv' else(U2.sl i).mapv (fun v=>AV.deeps x.2 ((brw s.ps x.2.reverse).filter fun n=>!c1l (bif j.contains n then none else U.rt n)) (a8h j U.rt v)),fun n=>bif ((ns++x.2.reverse)++j).contains n then(match a2t (ns++x.2.reverse) m n with
            |some r=>some (bif x.2.contains n then b2H (bif j.contains n then none else U.rt n) r else r)
            |none=>bif j.contains n then none else U.rt n)else U2.rt n,U2.pd⟩:=fun sv'=>by
          rw[L U2 p];rw[<-O,p.1,z];congr 1;simp_all[d0f]
        rw[<-S sv];cases d with
        |none=>
          rw[b2m rfl];rfl
        |some d=>
          have E:∀i,(some d==some i)=(i==d):=fun i=>by
            grind
          simp only[E,AE.set,AE.put,sv];show(match a4F ns m with
            | [v]=>gPd g K _
            |vs=>gPd g K _)=_
          generalize a4F ns m=vs
          split<;>exact b2m rfl
theorem d4Z{c:Call}(u:o.op=.call c)(hb:c.callee=.builtin .append)(B:o.dst=some d)(l:U.pd=none)(r:∀n∈U.foot o,n∈W)(j:d∈W)(k:c1n cx c.argTypes.toList=false):a1U g cx o (some d) U W:=by
 have run:∀U2,a1g W (a0q o) U U2->∀{Z:Type}(K:AE->Rs Z),aop cx false o U2 K=U2.blt false cx d .append c.argTypes.toList (c.args.toList.map U.opd) K:=fun U2 i Z K=>by
  simp[aop,u,B,hb];rw[a07 fun x v=>i.opd (b2l u x v)]
 have f:∀a∈c.args.toList.map U.opd,∀n∈a.refs,n∈W:=fun a A n s=>by
  obtain⟨x,v,rfl⟩:=a20.1 A;exact r n (c5w (b2l u x v) s)
 revert run f k
 generalize c.args.toList.map U.opd=as;generalize c.argTypes.toList=ts;intro k run f;have q:(∀(U2:AE){Z:Type}(K:AE->Rs Z),U2.blt false cx d .append ts as K=none)->a1U g cx o (some d) U W:=fun h=>a1U.none fun U2 i Z K=>by simp_all
 match as with
 | []=>exact q fun U2 Z K=>rfl
 | [_]=>exact q fun U2 Z K=>rfl
 |_::_::_::_=>exact q fun U2 Z K=>rfl
 | [a,b]=>
  have p:∀n∈a.refs,n∈W:=f a (by simp);have z:∀n∈b.refs,n∈W:=f b (by simp);cases hni:c1m cx ts with
  |false=>
   cases hzl:d2m cx ts a b with
   |none=>simp_all[AE.blt,b8L]
   |some w=>
    obtain⟨e,ys⟩:=w;exact c1I l j (e:=e) (x:=.nils) (by simp[AV.refs]) (ys:=some ys) fun U2 i Z K=>by
     simp_all[AE.blt,b8L]
  |true=>
   cases ht:ts.head?.bind cx.T with
   |none=>simp_all[AE.blt]
   |some τ=>
    cases τ with
    |list o' e=>
     have k:e.isList=false:=by simp_all[c1n]
     have m:(∀(U2:AE){Z:Type}(K:AE->Rs Z),U2.blt false cx d .append ts [a,b] K=U2.elems e b fun ys=>U2.apnd false d e a ys K)->a1U g cx o (some d) U W:=fun h=>
      c1I l j (e:=e) (x:=a) p (ys:=a9Z U.look e b) fun U2 i Z K=>by
       rw[run U2 i,h,b8R,b6s fun n s=>i.look (z n s)]
     cases b with
     |val t y=>
      cases t with
      |str=>
       by_cases he:e=.int .u8
       subst he;exact c1I l j (e:=.int .u8) (x:=a) p (ys:=some y) fun U2 i Z K=>by
        rw[run U2 i];simp only[AE.blt,hni,ht,cT];rfl
       simp_all[AE.blt]
      |_=>exact m fun U2 Z K=>by simp only[AE.blt,hni,ht,cT,k,a59,Bool.or_true]
     |_=>exact m fun U2 Z K=>by simp only[AE.blt,hni,ht,cT,k,a59,Bool.or_true]
    |_=>exact q fun U2 Z K=>by simp only[AE.blt,hni,ht,cT]
theorem c5x{d:Option Nat}(U:AE):U.setD d .dead=⟨fun i=>bif d==some i then .one .dead else U.sl i,U.rt,U.pd⟩:=by
 cases d with
 |none=>rfl
 |some d=>
  simp only[AE.setD,AE.set,AE.put]
  grind
theorem e0y{d:Option Nat}(a:U.pd=none){t:Ty}{n:Nat}{p:a0C}{x:AV}(b:n∈W)(hv:x.viewed=[])(h:∀U2,a1g W (a0q o) U U2->∀{Z:Type}(K:AE->Rs Z),aop cx false o U2 K=U2.stor t n p x fun U=>K (U.setD d .dead)):a1U g cx o d U W:=by
 have c:∀U2,a1g W (a0q o) U U2->U2.rt n=U.rt n:=fun U2 f=>f.2.1 n b;have w:∀U2,a1g W (a0q o) U U2->U2.look n=U.rt n:=fun U2 f=>by rw[f.look b];simp only[AE.look,a]
 cases hr:U.rt n with
 |none=>simp_all[a1U.none,AE.stor]
 |some r=>
  have i:∀k y,a0T r.t r.x p=⟨k,y⟩->(∀e,k≠.list true e)->a1U g cx o d U W:=fun k y v D=>by
   have st:∀U2,a1g W (a0q o) U U2->∀{Z:Type}(K:AE->Rs Z),aop cx false o U2 K=if k.shn=k/\k.sh=t then(a7E k x).elim none fun y=>K ((U2.setRt n (some ⟨r.bx,r.t,a1T r.t r.x p k y⟩)).setD d .dead)else U2.overP t n r x (fun U=>K (U.setD d .dead)) p:=fun U2 f Z K=>by
    rw[h U2 f];unfold AE.stor;rw[c U2 f,hr];simp[v];have body:(if k.shn=k/\k.sh=t then U2.asV false k x fun y B=>(match B.look n with
      |some r=>if(a0T r.t r.x p).1=k then K ((B.setRt n (some ⟨r.bx,r.t,a1T r.t r.x p k y⟩)).setD d .dead)else none
      |none=>none)else U2.overP t n r x (fun U=>K (U.setD d .dead)) p)=if k.shn=k/\k.sh=t then(a7E k x).elim none fun y=>K ((U2.setRt n (some ⟨r.bx,r.t,a1T r.t r.x p k y⟩)).setD d .dead)else U2.overP t n r x (fun U=>K (U.setD d .dead)) p:=by
     simp_all[e3Z]
    grind
   by_cases hc:k.shn=k/\k.sh=t
   ·cases ha:a7E k x with
    |none=>simp_all[a1U.none]
    |some y=>
     refine a1U.some id FW.id (.one .dead) [n] (by simp_all) (fun _=>some ⟨r.bx,r.t,a1T r.t r.x p k y⟩) fun U2 f Z K=>?_
     rw[st U2 f,if_pos hc,ha];simp only[a22];rw[c5x,b2m (by exact f.1.trans a)];congr 1;simp only[AE.setRt,a3o,a8g]
   ·cases p with
    |cons s p=>exact a1U.none fun U2 f Z K=>by rw[st U2 f,if_neg hc];rfl
    |nil=>
     have A:(∀U2,a1g W (a0q o) U U2->∀{Z:Type}(K:AE->Rs Z),U2.over t n r x K=none)->a1U g cx o d U W:=fun u=>a1U.none fun U2 f Z K=>by
      rw[st U2 f,if_neg hc];exact u U2 f (fun U=>gPd g K (U.setD d .dead))
     have j:∀(t2:Ty)(z:t2.den),(∀U2,a1g W (a0q o) U U2->∀{Z:Type}(K:AE->Rs Z),U2.over t n r x K=K ((U2.mapv (AV.deeps [n] [])).setRt n (some ⟨true,t2,z⟩)))->a1U g cx o d U W:=fun t2 z u=>by
      refine a1U.some (AV.deeps [n] []) (FW.deeps (by simp_all)) (.one .dead) [n] (by simp_all) (fun _=>some ⟨true,t2,z⟩) fun U2 f Z K=>?_
      rw[st U2 f,if_neg hc];simp only[AE.overP];rw[u U2 f,c5x,b2m (by exact f.1.trans a)];congr 1;simp only[AE.setRt,AE.mapv,a3o]
     have C:∀U2,a1g W (a0q o) U U2->U2.look n=some r:=fun U2 f=>(w U2 f).trans hr;cases x with
     |val t' y=>
      by_cases hcc:r.bx=true/\(r.t.sh=t/\(t'.shn=t'/\t'.sh=t))
      ·cases h1:castTo t' r.t y with
       |some z=>exact j r.t z fun U2 f Z K=>by simp_all[AE.over]
       |none=>
        cases u:castTo t' r.t.shn y with
        |some z=>exact j r.t.shn z fun U2 f Z K=>by simp_all[AE.over]
        |none=>exact j t' y fun U2 f Z K=>by simp_all[AE.over]
      simp_all[AE.over]
     |_=>exact A fun U2 f Z K=>rfl
  cases v:a0T r.t r.x p with
  |mk k l=>
   cases k with
   |list o' e=>
    cases o' with
    |false=>simp_all
    |true=>
     by_cases hty:t.isList=true
     ·have A:(∀U2,a1g W (a0q o) U U2->∀{Z:Type}(K:AE->Rs Z),U2.stor t n p x K=none)->a1U g cx o d U W:=fun u=>a1U.none fun U2 f Z K=>by simp_all
      cases x with
      |nils=>
       refine a1U.some (AV.kill n p) (FW.kill b p) (.one .dead) [n] (by simp_all) (fun _=>some ⟨r.bx,r.t,a1T r.t r.x p (.list true e) []⟩) fun U2 f Z K=>?_
       rw[h U2 f];simp only[AE.stor,c U2 f,hr,v,hty,if_true,w U2 f];rw[c5x,b2m (by exact f.1.trans a)];congr 1;simp only[AE.setRt,AE.mapv,a3o]
      |sref m q=>cases hv
      |_=>exact A fun U2 f Z K=>by simp only[AE.stor,c U2 f,hr,v,hty,if_true]
     simp_all[a1U.none,AE.stor]
   |_=>exact i _ l v (by simp)
theorem b7z{U2:AE}(g:a1g W (a0q o) U U2):wOk cx o U2=wOk cx o U:=by
 unfold wOk;cases ho:o.op<;>try rfl
 case store t a x=>
  simp
  rw[g.opd (by simp_all[Op.operands]),g.aggOf (by simp_all[Op.operands])]
 rename_i c;simp only[];cases hc:c.callee with
 |value v=>
  cases v with
  |func f=>
   simp only[];cases cx.C f with
   |none=>rfl
   |some s=>
    simp only[];congr 1
    have:∀x∈c.args.toList,(U2.opd x).viewed.isEmpty=(U.opd x).viewed.isEmpty:=fun x k=>by rw[g.opd (b2l ho x k)]
    grind
  |_=>rfl
 |builtin b=>grind
 |invoke r n=>rfl
where
 all_congr' {α:Type} {l:List α} {p q:α->Bool} (h:∀x∈l,p x=q x):l.all p=l.all q:=by
  grind
theorem b5L{U2:AE}(g:∀t∈a0q o,U2.sl t=U.sl t):U2.foot o=U.foot o:=by
 unfold AE.foot
 have:∀x∈o.op.operands.toList,(match x with
  |.tmp t=>(U2.sl t).refs
  |_=>[])=(match x with
  |.tmp t=>(U.sl t).refs
  |_=>[]):=fun x f=>by
  grind[a2w]
 exact flatMap_congr' this
where
 flatMap_congr' {α β:Type} {l:List α} {p q:α->List β} (h:∀x∈l,p x=q x):l.flatMap p=l.flatMap q:=by
  induction l with
  |nil=>rfl
  |cons a l ih=>simp_all
theorem b9S(e:U.pd=none)(h:wOk cx o U=true)(b:∀n∈U.foot o,n∈W)(i:∀n∈a4X cx o (o.dst.getD 0),n∈W):a1U g cx o o.dst U W:=by
 unfold wOk at h
 split at h
 rename_i c m
 split at h
 rename_i r;simp at h;obtain⟨d,u⟩:=a00.1 h.1;rw[u];exact d4Z m r u e b (i d (by rw[u];exact a18)) h.2;rename_i f r
 split at h
 rename_i s y;refine e0x m r rfl e y b i ?_
 grind
 simp_all;simp_all
 ·rename_i t a x m;have q:a∈o.op.operands.toList:=by simp_all[Op.operands]
  have w:x∈o.op.operands.toList:=by simp_all[Op.operands]
  obtain⟨h,j⟩:=a05.1 h;have j:U.aggOf x=none:=by simp_all
  have l:∀U2:AE,a1g W (a0q o) U U2->∀{Z:Type}(K:AE->Rs Z),aop cx false o U2 K=(match U2.opd a with
    |.ptr n p=>(match cx.T t with
     |some t=>U2.stor t n p (U2.opd x) fun U=>K (U.setD o.dst .dead)
     |none=>none)
    |_=>none):=fun U2 k Z K=>by
   have v:U2.aggOf x=none:=(k.aggOf w).trans j;unfold aop;rw[m]
   grind
  cases hpa:U.opd a with
  |ptr n p=>
   cases ht:cx.T t with
   |none=>grind[a1U.none]
   |some τ=>
    refine e0y e (t:=τ) (n:=n) (p:=p) (x:=U.opd x) (b n (c5w q (by rw[hpa];simp[AV.refs]))) (by simp_all) fun U2 k Z K=>?_
    rw[l U2 k,k.opd q,hpa,ht,k.opd w]
  |_=>exact a1U.none fun U2 k Z K=>by rw[l U2 k,k.opd q,hpa]
 simp_all
theorem b9T{Z:Type}{ops:Array Oper}{ws:List Nat}{K:AE->Rs Z}{z:Z}(k:a0A cx (.w ws) ops.toList o U K=some z):
  ∃(W:List Nat)(m:MDl),FW W m.f/\(∀n∈W,n∈ws)/\K (a4o W m o.dst U)=some z/\
   ∀U2,a1g W (o.looksAt ops) U U2->∀{Z2:Type}(l:AE->Rs Z2),a0A cx (.w ws) ops.toList o U2 l=l (a4o W m o.dst U2):=by
 rw[a2y]at k;cases hl:a1R ops o U with
 |none=>simp_all
 |some b=>
  rw[hl]at k;cases b with
  |false=>
   have u:∀U2:AE,U2.setD o.dst .skp=a4o [] ⟨id,fun _=>none,.one .skp,none⟩ o.dst U2:=fun U2=>by
    simp only[a4o,a8g];cases o.dst with
    |none=>rfl
    |some d=>
     simp only[AE.setD,AE.set,AE.put];congr 1
     grind
   refine⟨[],⟨id,fun _=>none,.one .skp,none⟩,FW.id,fun n j=>(by grind),by simp_all,fun U2 c Z2 l=>?_⟩;rw[a2y,a2C c.2.2,hl,<-u U2]
  |true=>
   simp[a1Y]at k;cases hpd:U.pd with
   |some p=>simp_all
   |none=>
    rw[hpd]at k;simp at k;obtain⟨a,k⟩:=(a0f k).elim id fun h=>by grind
    simp at a;obtain⟨a,q,s⟩:=a
    let W:=U.foot o++a4X cx o (o.dst.getD 0)
    obtain⟨r,i,v⟩:=b9S (g:=true) (cx:=cx) (W:=W) hpd a (fun n j=>a02 _ j) (fun n j=>a01 _ j);have k:aop cx false o U (gPd true K)=some z:=k;rw[v U a1g.refl]at k;cases r with
    |none=>cases k
    |some m=>
     have k:K (a2m W m o.dst U)=some z:=k;rw[b7x ((i m rfl).2.1 rfl)]at k;refine⟨W,m,(i m rfl).1,fun n j=>(mA.1 j).elim (a7a q) (a7a s),k,fun U2 c Z2 l=>?_⟩;have e:a1g W (a0q o) U U2:=⟨c.1,c.2.1,fun t x=>c.2.2 t (a2x x)⟩;rw[a2y,a2C c.2.2,hl];simp[a1Y];rw[c.1,hpd,b7z e,a,b5L e.2.2,q,s];refine Eq.trans (v U2 e l) ?_
     simp[b1G];rw[b7x ((i m rfl).2.1 rfl)]
theorem e4a{Z:Type}{ops:Array Oper}{ws:List Nat}{K:AE->Rs Z}{z:Z}(k:a0A cx (.a ws) ops.toList o U K=some z):
  ∃(W:List Nat)(m:MDl),FW W m.f/\(∀n∈W,n∈ws)/\K (a2m W m o.dst U)=some z/\
   ∀U2,a1g W (o.looksAt ops) U U2->∀{Z2:Type}(l:AE->Rs Z2),a0A cx (.a ws) ops.toList o U2 l=l (a2m W m o.dst U2):=by
 rw[a2y]at k;cases hl:a1R ops o U with
 |none=>simp_all
 |some b=>
  rw[hl]at k;cases b with
  |false=>
   have u:∀U2:AE,U2.setD o.dst .skp=a4o [] ⟨id,fun _=>none,.one .skp,none⟩ o.dst U2:=fun U2=>by
    simp only[a4o,a8g];cases o.dst with
    |none=>rfl
    |some d=>
     simp only[AE.setD,AE.set,AE.put];congr 1
     grind
   refine⟨[],⟨id,fun _=>none,.one .skp,none⟩,FW.id,fun n j=>(by grind),by rw[b7x rfl,<-u U];omega,fun U2 e Z2 l=>?_⟩;rw[a2y,a2C e.2.2,hl,b7x rfl,<-u U2]
  |true=>
   simp[a1Y]at k;cases hpd:U.pd with
   |some p=>simp_all
   |none=>
    rw[hpd]at k;simp at k;obtain⟨c,k⟩:=(a0f k).elim id fun h=>by grind
    simp at c;obtain⟨c,q,s⟩:=c
    let W:=U.foot o++a4X cx o (o.dst.getD 0)
    obtain⟨r,v,w⟩:=b9S (g:=false) (cx:=cx) (W:=W) hpd c (fun n j=>a02 _ j) (fun n j=>a01 _ j);have k:aop cx false o U (gPd false K)=some z:=k;rw[w U a1g.refl]at k;cases r with
    |none=>cases k
    |some m=>
     have k:K (a2m W m o.dst U)=some z:=k;refine⟨W,m,(v m rfl).1,fun n j=>(mA.1 j).elim (a7a q) (a7a s),k,fun U2 e Z2 l=>?_⟩;have i:a1g W (a0q o) U U2:=⟨e.1,e.2.1,fun t x=>e.2.2 t (a2x x)⟩;rw[a2y,a2C e.2.2,hl];simp[a1Y];rw[e.1,hpd,b7z i,c,b5L i.2.2,q,s];exact w U2 i l
theorem b6u:∀{p q:a0C},a3H p q=true->q.all Step.isField=true->p.all Step.isField=true
 | [],_,_,_=>rfl
 |.fst::p,.fst::q,h,h2=>by
  simp only[a23,bA9]at h2|-;exact⟨rfl,b6u h h2.2⟩
 |.snd::p,.snd::q,h,h2=>by
  simp only[a23,bA9]at h2|-;exact⟨rfl,b6u h h2.2⟩
 |.idx _::p,.idx _::q,h,h2=>by simp_all[Step.isField]
theorem d7M{n:Nat}{p:a0C}(hp:p.all Step.isField=false){sv:SV}(h:sv.still=true):sv.mapv (AV.kill n p)=sv:=by
 cases sv with
 |one v=>
  have g:∀q:a0C,q.all Step.isField=true->a3H p q=false:=fun q hq=>by
   grind[b6u]
  cases v with
  |ptr m q=>simp only[SV.mapv,AV.kill,g q h,a60,a31];rfl
  |sref m q=>simp only[SV.mapv,AV.kill,g q h,a60];rfl
  |swin=>cases h
  |_=>rfl
 |cmp c vs=>exact(FW.kill (W:=[n]) (by simp) p).fp.sv (b0a h)
theorem d2b{Z:Type}{ops:Array Oper}{ws:List Nat}{K:AE->Rs Z}{z:Z}(a:a0A cx (.b ws) ops.toList o U K=some z):
  ∃(W:List Nat)(m:MDl),FW W m.f/\(∀n∈W,n∈ws)/\(∀sv:SV,sv.still=true->sv.mapv m.f=sv)/\(∀n∈W,tyq (m.rt n)=tyq (U.rt n))/\(a2m W m o.dst U).pdElem=U.pdElem/\K (a2m W m o.dst U)=some z/\
   ∀U2,a1g W (o.looksAt ops) U U2->(∀{Z2:Type}(w:AE->Rs Z2),a0A cx (.b ws) ops.toList o U2 w=w (a2m W m o.dst U2)):=by
 rw[a2y]at a;cases hl:a1R ops o U with
 |none=>simp_all
 |some b=>
  rw[hl]at a;cases b with
  |false=>
   have v:∀U2:AE,U2.setD o.dst .skp=a4o [] ⟨id,fun _=>none,.one .skp,none⟩ o.dst U2:=fun U2=>by
    simp only[a4o,a8g];cases o.dst with
    |none=>rfl
    |some d=>
     simp only[AE.setD,AE.set,AE.put];congr 1
     grind
   refine⟨[],⟨id,fun _=>none,.one .skp,none⟩,FW.id,fun n l=>(by grind),fun sv _=>a8g sv,fun n l=>(by grind),by rfl,by rw[b7x rfl,<-v U];omega,fun U2 e Z2 w=>?_⟩;rw[a2y,a2C e.2.2,hl,b7x rfl,<-v U2]
  |true=>
   simp only[a1Y]at a;cases hpd:U.pd with
   |some p=>simp_all
   |none=>
    rw[hpd]at a;simp only[]at a;obtain⟨c,a⟩:=(a0f a).elim id fun h=>by grind
    simp at c;obtain⟨c,s,u⟩:=c
    let W:=U.foot o++a4X cx o (o.dst.getD 0)
    obtain⟨r,B,F⟩:=b9S (g:=false) (cx:=cx) (W:=W) hpd c (fun n l=>a02 _ l) (fun n l=>a01 _ l);have q:∀U2,a1g W (a0q o) U U2->∀{Z:Type}(K:AE->Rs Z),aop cx false o U2 K=b1G W r o.dst U2 K:=fun U2 e Z K=>F U2 e K;rw[q U a1g.refl]at a;cases r with
    |none=>cases a
    |some m=>
     obtain⟨y,-,A⟩:=B m rfl;cases hmp:m.pd with
     |none=>
      simp_all[b1G,a2m]
     |some x=>
      obtain⟨n,p,d⟩:=x;obtain⟨H,-,C⟩:=A n p d hmp;have hty:=fun k D=>c6K (C k D);have i:∀U2:AE,(a2m W m o.dst U2).pd=some (n,p,d):=fun U2=>by simp only[a2m,hmp]
      simp only[b1G,i]at a;obtain⟨hp,a⟩:=(a0f a).elim id fun h=>by grind
      have E:p.all Step.isField=false:=by simp_all
      refine⟨W,m,y,fun n l=>(mA.1 l).elim (a7a s) (a7a u),fun sv h=>by simp_all[d7M],hty,by simp_all[AE.pdElem],a,fun U2 e Z2 w=>?_⟩;have j:a1g W (a0q o) U U2:=⟨e.1,e.2.1,fun t G=>e.2.2 t (a2x G)⟩;rw[a2y,a2C e.2.2,hl];simp only[a1Y];rw[e.1,hpd,b7z j,c,b5L j.2.2,s,u];simp only[Bool.and_self,cT];rw[q U2 j];simp only[b1G,i,hp,cT]
theorem b9U:∀(p:a0C)(t:Ty)(x:t.den)(q:a0C){τ e:Ty}{l:List e.den},a1j p t x=⟨.list true e,l⟩->tyF t q=some τ->a3H p q=true->p.length<q.length->False
 | [],t,x,q,τ,e,l,h,h2,_,h3=>by
  simp[a1j]at h;cases h;cases q with
  |nil=>omega
  |cons s q=>cases s<;>cases h2
 |.fst::p,t,x,q,τ,e,l,h,h2,h3,h4=>by
  cases q with
  |nil=>cases h3
  |cons s q=>cases s with
   |fst=>cases t with
    |pair a b=>exact b9U p a x.1 q h h2 h3 (by simpa using h4)
    |_=>cases h
   |_=>cases h3
 |.snd::p,t,x,q,τ,e,l,h,h2,h3,h4=>by
  cases q with
  |nil=>cases h3
  |cons s q=>cases s with
   |snd=>cases t with
    |pair a b=>exact b9U p b x.2 q h h2 h3 (by simpa using h4)
    |_=>cases h
   |_=>cases h3
 |.idx i::p,t,x,q,τ,e,l,h,h2,h3,h4=>by
  cases q with
  |nil=>grind
  |cons s q=>cases s with
   |idx j=>cases t<;>cases h2
   |_=>cases h3
theorem e0z{n:Nat}{p:a0C}{r:Root}{e:Ty}{l:List e.den}(c:U.rt n=some r)(b:a0T r.t r.x p=⟨.list true e,l⟩){sv:SV}(h:b9R U.rt sv):sv.mapv (AV.kill n p)=sv:=by
 rcases h with h|⟨m,q,d,τ,rfl,f,k⟩;exact(FW.kill (W:=[n]) (by simp) p).fp.sv (b0a h);simp only[SV.mapv,AV.kill];split;rename_i g;simp at g;obtain⟨⟨rfl,a⟩,h5⟩:=g
 grind[b9U]
 rfl
theorem d2c{Z:Type}{ops:Array Oper}{ws:List Nat}{K:AE->Rs Z}{z:Z}(k:a0A cx (.c ws) ops.toList o U K=some z):
  ∃(W:List Nat)(m:MDl),FW W m.f/\(∀n∈W,n∈ws)/\(∀sv:SV,b9R U.rt sv->sv.mapv m.f=sv)/\(∀n∈W,scq (m.rt n)=scq (U.rt n))/\K (a2m W m o.dst U)=some z/\
   ∀U2,a1g W (o.looksAt ops) U U2->(∀{Z2:Type}(w:AE->Rs Z2),a0A cx (.c ws) ops.toList o U2 w=w (a2m W m o.dst U2)):=by
 rw[a2y]at k;cases hl:a1R ops o U with
 |none=>simp_all
 |some b=>
  rw[hl]at k;cases b with
  |false=>
   have v:∀U2:AE,U2.setD o.dst .skp=a4o [] ⟨id,fun _=>none,.one .skp,none⟩ o.dst U2:=fun U2=>by
    simp only[a4o,a8g];cases o.dst with
    |none=>rfl
    |some d=>
     simp only[AE.setD,AE.set,AE.put];congr 1
     grind
   refine⟨[],⟨id,fun _=>none,.one .skp,none⟩,FW.id,fun n l=>(by grind),fun sv _=>a8g sv,fun n l=>(by grind),by rw[b7x rfl,<-v U];omega,fun U2 e Z2 w=>?_⟩;rw[a2y,a2C e.2.2,hl,b7x rfl,<-v U2]
  |true=>
   simp[a1Y]at k;cases hpd:U.pd with
   |some p=>simp_all
   |none=>
    rw[hpd]at k;simp at k;obtain⟨a,k⟩:=(a0f k).elim id fun h=>by grind
    simp at a;obtain⟨a,s,u⟩:=a
    let W:=U.foot o++a4X cx o (o.dst.getD 0)
    obtain⟨r,B,D⟩:=b9S (g:=false) (cx:=cx) (W:=W) hpd a (fun n l=>a02 _ l) (fun n l=>a01 _ l);have q:∀U2,a1g W (a0q o) U U2->∀{Z:Type}(K:AE->Rs Z),aop cx false o U2 K=b1G W r o.dst U2 K:=fun U2 e Z K=>D U2 e K;rw[q U a1g.refl]at k;cases r with
    |none=>cases k
    |some m=>
     obtain⟨y,-,A⟩:=B m rfl;cases hmp:m.pd with
     |none=>
      simp_all[b1G,a2m]
     |some x=>
      obtain⟨n,p,d⟩:=x;obtain⟨hf,⟨I,G,H,E,C⟩,hsc⟩:=A n p d hmp;have i:∀U2:AE,(a2m W m o.dst U2).pd=some (n,p,d):=fun U2=>by simp only[a2m,hmp]
      simp[b1G,i]at k;obtain⟨hp,k⟩:=(a0f k).elim id fun h=>by grind
      refine⟨W,m,y,fun n l=>(mA.1 l).elim (a7a s) (a7a u),fun sv h=>by grind[e0z],hsc,k,fun U2 e Z2 w=>?_⟩;have j:a1g W (a0q o) U U2:=⟨e.1,e.2.1,fun t F=>e.2.2 t (a2x F)⟩;rw[a2y,a2C e.2.2,hl];simp[a1Y];rw[e.1,hpd,b7z j,a,b5L j.2.2,s,u]
      simp
      rw[q U2 j];simp only[b1G,i,hp,cT]
end
theorem AE.ext'{U U2:AE}(f:∀i,U.sl i=U2.sl i)(k:∀n,U.rt n=U2.rt n)(e:U.pd=U2.pd):U=U2:=by
 obtain⟨a,b,c⟩:=U;obtain⟨h,g,d⟩:=U2;obtain rfl:a=h:=funext f;obtain rfl:b=g:=funext k;simp_all
theorem b4U(δ:Dl)(d:Nat)(U:AE)(i:Nat):(δ.app d U).sl i=if i=d then δ.sv else U.sl i:=by
 simp_all[Dl.app]
theorem a3K{δ:Dl}{d:Nat}{U:AE}{n:Nat}(h:find δ.rs n=none):(δ.app d U).rt n=U.rt n:=by simp[Dl.app,h]
theorem d5a{δ:Dl}{d:Nat}{U:AE}{n:Nat}(h:find δ.rs n≠none):(δ.app d U).rt n≠none:=by
 grind[Dl.app]
theorem c1K{δ:Dl}{d:Nat}{U:AE}(h:∀n,find δ.rs n≠none->U.rt n=none){n:Nat}(g:U.rt n≠none):(δ.app d U).rt n=U.rt n:=
 a3K (by
  grind)
theorem a4g(W:List Nat)(m:MDl)(d:Option Nat)(U:AE)(i:Nat):(a4o W m d U).sl i=if d=some i then m.sv else(U.sl i).mapv m.f:=by
 simp_all[a4o]
theorem b3R{W:List Nat}{m:MDl}{d:Option Nat}{U:AE}{n:Nat}(h:n∉W):(a4o W m d U).rt n=U.rt n:=by
 simp_all[a4o]
theorem c5y{a b:List Nat}(h:disj a b=true){n:Nat}(g:n∈a):n∉b:=by
 have:=lA.1 h n g
 simp_all
theorem a2D(U:AE)(d:Nat)(sv:SV)(i:Nat):(U.put d sv).sl i=if i=d then sv else U.sl i:=by
 simp_all[AE.put]
section
variable {Z:Type} {cx:Cx} {ops:Array Oper} {k i:Oper} {dk di:Nat} {U:AE} {K:AE->Rs Z} {z:Z}
theorem e5D{mk mi:Md}(u:mk.quiet)(s:mi.quiet)(h:k.dst=some dk)(f:i.dst=some di)(q:k.apart ops i=true)(c:∀t∈i.looksAt ops,∀n∈(U.sl t).refs,mi.reads n->U.rt n≠none)
  (H:a0A cx mk ops.toList k U (fun l=>a0A cx mi ops.toList i l K)=some z):a0A cx mi ops.toList i U (fun l=>a0A cx mk ops.toList k l K)=some z:=by
 obtain⟨a1,v,m⟩:=Oper.apart_spec q;have a1:=a1 dk h;have v:di≠dk:=fun e=>v dk h (by simp_all);have m:=m di f;obtain⟨δk,y,w,D,L,E⟩:=d2N u h H;obtain⟨δi,x,A,B,I,C⟩:=d2N s f D;have F:∀n,find δi.rs n≠none->find δk.rs n=none:=fun n b=>by
  grind[d5a]
 have a:∀n,find δi.rs n≠none->U.rt n=none:=fun n b=>by simp_all[a3K]
 have o:d2M mi x (δk.app dk U) U:=by
  refine⟨rfl,fun t d=>?_⟩;have g:t≠dk:=fun e=>a1 (e▸(A t d).1);have M:(δk.app dk U).sl t=U.sl t:=by rw[b4U,if_neg g]
  grind[c1K]
 rw[C U o a];have p:d2M mk y U (δi.app di U):=by
  refine⟨rfl,fun t d=>?_⟩;have g:t≠di:=fun e=>m (e▸(w t d).1);exact⟨by rw[b4U,if_neg g],fun n b hv=>c1K a ((w t d).2 n b hv).2⟩
 have G:∀n,find δk.rs n≠none->find δi.rs n=none:=fun n b=>by
  grind
 rw[E _ p fun n b=>by simp_all[a3K],<-B];congr 1;refine AE.ext' (fun j=>?_) (fun n=>?_) rfl;simp[b4U]
 grind
 ·cases e1:find δk.rs n with
  |none=>
   rw[a3K e1]
   grind[a3K,Dl.app]
  |some r=>
   grind[a3K,Dl.app]
theorem c6L{o:Oper}{d:Nat}{md:Md}(f:md=.p\/md=.u)(h:o.dst=some d)(g:a0A cx md ops.toList o U K=some z):
  ∃(sv:SV)(L:List Nat),sv.calm=true/\(∀t∈L,t∈o.looksAt ops/\(U.sl t).calm=true)/\K (U.put d sv)=some z/\
   ∀U2,(∀t∈L,U2.sl t=U.sl t)->∀{Z2:Type}(K2:AE->Rs Z2),a0A cx md ops.toList o U2 K2=K2 (U2.put d sv):=by
 rcases f with rfl|rfl;exact e3Y h g;exact c6J h g
theorem d6C{o:Oper}{ws:List Nat}{md:Md}(h:md=.a ws\/md=.b ws\/md=.c ws)(g:a0A cx md ops.toList o U K=some z):
  ∃(W:List Nat)(m:MDl),FW W m.f/\(∀n∈W,n∈ws)/\K (a2m W m o.dst U)=some z/\
   ∀U2,a1g W (o.looksAt ops) U U2->∀{Z2:Type}(K2:AE->Rs Z2),a0A cx md ops.toList o U2 K2=K2 (a2m W m o.dst U2):=by
 rcases h with rfl|rfl|rfl
 all_goals grind[e4a,d2b,d2c]
theorem e5E{ws:List Nat}(h:k.dst=some dk)(b:k.apart ops i=true)
  (x:a0A cx .v ops.toList k U (fun f=>a0A cx (.w ws) ops.toList i f K)=some z):a0A cx (.w ws) ops.toList i U (fun f=>a0A cx .v ops.toList k f K)=some z:=by
 obtain⟨a1,a,o⟩:=Oper.apart_spec b;have a1:=a1 dk h;have a:=a dk h;obtain⟨sv,L,r,l,s,u⟩:=d7z h x;obtain⟨W,m,d,-,p,q⟩:=b9T s;have s1:a1g W (i.looksAt ops) (U.put dk sv) U:=⟨rfl,fun _ _=>rfl,fun t c=>by
  have g:t≠dk:=fun e=>a1 (by simp_all);rw[a2D,if_neg g]⟩
 have y:∀t∈L,(a4o W m i.dst U).sl t=U.sl t:=fun t c=>by
  have g:¬ i.dst=some t:=fun e=>o t e (l t c).1;rw[a4g,if_neg g];exact d.fp.sv (l t c).2
 rw[q U s1,u (a4o W m i.dst U) rfl y,<-p];congr 1;refine AE.ext' (fun j=>?_) (fun n=>rfl) rfl;simp[a2D,a4g]
 by_cases e1:j=dk
 subst e1;rw[if_pos rfl,if_neg a,if_pos rfl];exact(d.fp.sv r).symm;simp_all
theorem e5F{ws:List Nat}(h:i.dst=some di)(c:k.apart ops i=true)
  (y:a0A cx (.w ws) ops.toList k U (fun f=>a0A cx .v ops.toList i f K)=some z):a0A cx .v ops.toList i U (fun f=>a0A cx (.w ws) ops.toList k f K)=some z:=by
 obtain⟨a1,a,b⟩:=Oper.apart_spec c;have b:=b di h;have a:¬ k.dst=some di:=fun e=>a di e h;obtain⟨W,m,l,-,q,r⟩:=b9T y;obtain⟨sv,L,s,o,u,x⟩:=d7z h q;have s1:∀t∈L,U.sl t=(a4o W m k.dst U).sl t:=fun t d=>by
  have p:=(o t d).2;have g:¬ k.dst=some t:=fun e=>a1 t e (o t d).1;rw[a4g,if_neg g]at p|-;exact(l.fp.sv' p).symm
 have A:a1g W (k.looksAt ops) U (U.put di sv):=⟨rfl,fun _ _=>rfl,fun t d=>by
  have g:t≠di:=fun e=>b (by simp_all);rw[a2D,if_neg g]⟩
 rw[x U rfl s1,r (U.put di sv) A,<-u];congr 1;refine AE.ext' (fun j=>?_) (fun n=>rfl) rfl;simp[a2D,a4g]
 by_cases e2:j=di
 subst e2;rw[if_neg a,if_pos rfl,if_pos rfl];exact l.fp.sv s;simp_all
theorem a3S(W:List Nat)(m:MDl)(d:Option Nat)(U:AE)(i:Nat):(a2m W m d U).sl i=if d=some i then m.sv else(U.sl i).mapv m.f:=a4g W m d U i
theorem d6D{ws:List Nat}{mk:Md}(y:mk=.p\/mk=.u)(h:k.dst=some dk)(b:k.apart ops i=true)
  (A:a0A cx mk ops.toList k U (fun f=>a0A cx (.w ws) ops.toList i f K)=some z):a0A cx (.w ws) ops.toList i U (fun f=>a0A cx mk ops.toList k f K)=some z:=by
 obtain⟨a1,a,o⟩:=Oper.apart_spec b;have a1:=a1 dk h;have a:=a dk h;obtain⟨sv,L,s,l,v,x⟩:=c6L y h A;obtain⟨W,m,d,-,q,r⟩:=b9T v;have s1:a1g W (i.looksAt ops) (U.put dk sv) U:=⟨rfl,fun _ _=>rfl,fun t c=>by
  have g:t≠dk:=fun e=>a1 (by simp_all);rw[a2D,if_neg g]⟩
 have B:∀t∈L,(a4o W m i.dst U).sl t=U.sl t:=fun t c=>by
  have g:¬ i.dst=some t:=fun e=>o t e (l t c).1;rw[a4g,if_neg g];exact d.fp.sv (l t c).2
 rw[r U s1,x (a4o W m i.dst U) B,<-q];congr 1;refine AE.ext' (fun j=>?_) (fun n=>rfl) rfl;simp[a2D,a4g]
 by_cases e1:j=dk
 subst e1;rw[if_pos rfl,if_neg a,if_pos rfl];exact(d.fp.sv s).symm;simp_all
theorem d6E{ws:List Nat}{mi:Md}(A:mi=.p\/mi=.u)(h:i.dst=some di)(c:k.apart ops i=true)
  (B:a0A cx (.w ws) ops.toList k U (fun f=>a0A cx mi ops.toList i f K)=some z):a0A cx mi ops.toList i U (fun f=>a0A cx (.w ws) ops.toList k f K)=some z:=by
 obtain⟨a1,a,b⟩:=Oper.apart_spec c;have b:=b di h;have a:¬ k.dst=some di:=fun e=>a di e h;obtain⟨W,m,l,-,r,s⟩:=b9T B;obtain⟨sv,L,v,o,x,y⟩:=c6L A h r;have s1:∀t∈L,U.sl t=(a4o W m k.dst U).sl t:=fun t d=>by
  have q:=(o t d).2;have g:¬ k.dst=some t:=fun e=>a1 t e (o t d).1;rw[a4g,if_neg g]at q|-;exact(l.fp.sv' q).symm
 have C:a1g W (k.looksAt ops) U (U.put di sv):=⟨rfl,fun _ _=>rfl,fun t d=>by
  have g:t≠di:=fun e=>b (by simp_all);rw[a2D,if_neg g]⟩
 rw[y U s1,s (U.put di sv) C,<-x];congr 1;refine AE.ext' (fun j=>?_) (fun n=>rfl) rfl;simp[a2D,a4g]
 by_cases e2:j=di
 subst e2;rw[if_neg a,if_pos rfl,if_pos rfl];exact l.fp.sv v;simp_all
theorem c8J{ws:List Nat}{mk mi:Md}(C:mk=.p\/mk=.u)(B:mi=.a ws\/mi=.b ws\/mi=.c ws)(h:k.dst=some dk)(l:k.apart ops i=true)
  (D:a0A cx mk ops.toList k U (fun f=>a0A cx mi ops.toList i f K)=some z):a0A cx mi ops.toList i U (fun f=>a0A cx mk ops.toList k f K)=some z:=by
 obtain⟨a1,d,s⟩:=Oper.apart_spec l;have a1:=a1 dk h;have d:=d dk h;obtain⟨sv,L,x,r,y,A⟩:=c6L C h D;obtain⟨W,m,q,-,v,w⟩:=d6C B y;have s1:a1g W (i.looksAt ops) (U.put dk sv) U:=⟨rfl,fun _ _=>rfl,fun t o=>by
  have g:t≠dk:=fun e=>a1 (by simp_all);rw[a2D,if_neg g]⟩
 have E:∀t∈L,(a2m W m i.dst U).sl t=U.sl t:=fun t o=>by
  have g:¬ i.dst=some t:=fun e=>s t e (r t o).1;rw[a3S,if_neg g];exact q.fp.sv (r t o).2
 rw[w U s1,A (a2m W m i.dst U) E,<-v];congr 1;refine AE.ext' (fun j=>?_) (fun n=>rfl) rfl;simp[a2D,a3S]
 by_cases e1:j=dk
 subst e1;rw[if_pos rfl,if_neg d,if_pos rfl];exact(q.fp.sv x).symm;simp_all
theorem c8K{ws:List Nat}{mk mi:Md}(D:mi=.p\/mi=.u)(C:mk=.a ws\/mk=.b ws\/mk=.c ws)(h:i.dst=some di)(o:k.apart ops i=true)
  (E:a0A cx mk ops.toList k U (fun f=>a0A cx mi ops.toList i f K)=some z):a0A cx mi ops.toList i U (fun f=>a0A cx mk ops.toList k f K)=some z:=by
 obtain⟨a1,d,l⟩:=Oper.apart_spec o;have l:=l di h;have d:¬ k.dst=some di:=fun e=>d di e h;obtain⟨W,m,r,-,w,x⟩:=d6C C E;obtain⟨sv,L,y,s,A,B⟩:=c6L D h w;have s1:∀t∈L,U.sl t=(a2m W m k.dst U).sl t:=fun t q=>by
  have v:=(s t q).2;have g:¬ k.dst=some t:=fun e=>a1 t e (s t q).1;rw[a3S,if_neg g]at v|-;exact(r.fp.sv' v).symm
 have F:a1g W (k.looksAt ops) U (U.put di sv):=⟨rfl,fun _ _=>rfl,fun t q=>by
  have g:t≠di:=fun e=>l (by simp_all);rw[a2D,if_neg g]⟩
 rw[B U s1,x (U.put di sv) F,<-A];congr 1;refine AE.ext' (fun j=>?_) (fun n=>rfl) rfl;simp[a2D,a3S]
 by_cases e2:j=di
 subst e2;rw[if_neg d,if_pos rfl,if_pos rfl];exact r.fp.sv y;simp_all
theorem e5G{ns ws:List Nat}(D:disj ns ws=true)(g:k.dst=some dk)(l:k.apart ops i=true)
  (E:a0A cx (.r ns) ops.toList k U (fun b=>a0A cx (.w ws) ops.toList i b K)=some z):a0A cx (.w ws) ops.toList i U (fun b=>a0A cx (.r ns) ops.toList k b K)=some z:=by
 obtain⟨a1,c,u⟩:=Oper.apart_spec l;have a1:=a1 dk g;have c:=c dk g;obtain⟨δ,L,d,A,G,B,C⟩:=d7B g E;obtain⟨W,m,q,y,v,x⟩:=b9T A;have p:∀n∈ns,n∉W:=fun n h s=>c5y D h (y n s);have o:∀n∈W,find δ.rs n=none:=fun n h=>by
  grind
 have s1:a1g W (i.looksAt ops) (δ.app dk U) U:=⟨rfl,fun n h=>(a3K (o n h)).symm,fun t a=>by
  have f:t≠dk:=fun e=>a1 (by simp_all);rw[b4U,if_neg f]⟩
 have F:b8T L U (a4o W m i.dst U):=⟨rfl,fun t a=>by
  have f:¬ i.dst=some t:=fun e=>u t e (d t a).1;refine⟨?_,fun n h=>b3R (p n ((d t a).2.2 n h).2)⟩;rw[a4g,if_neg f];exact q.sv fun n h=>p n ((d t a).2.2 n h).2⟩
 rw[x U s1,C _ F fun n h=>by grind[b3R],<-v];congr 1;refine AE.ext' (fun j=>?_) (fun n=>?_) rfl;simp[b4U,a4g]
 by_cases e1:j=dk
 subst e1;rw[if_pos rfl,if_neg c,if_pos rfl];exact(q.sv fun n h=>p n (B n h)).symm;simp_all
 by_cases s:n∈W
 simp_all[a3K,a4o];simp_all[b3R,Dl.app]
theorem e5H{ns ws:List Nat}(E:disj ns ws=true)(f:i.dst=some di)(p:k.apart ops i=true)
  (F:a0A cx (.w ws) ops.toList k U (fun c=>a0A cx (.r ns) ops.toList i c K)=some z):a0A cx (.r ns) ops.toList i U (fun c=>a0A cx (.w ws) ops.toList k c K)=some z:=by
 obtain⟨a1,d,l⟩:=Oper.apart_spec p;have l:=l di f;have d:¬ k.dst=some di:=fun e=>d di e f;obtain⟨W,m,u,A,x,y⟩:=b9T F;obtain⟨δ,L,o,B,I,C,D⟩:=d7B f x;have G:∀n∈ns,n∉W:=fun n g v=>c5y E g (A n v);have q:∀n∈W,find δ.rs n=none:=fun n g=>by
  grind
 have s1:b8T L (a4o W m k.dst U) U:=⟨rfl,fun t b=>by
  have h:¬ k.dst=some t:=fun e=>a1 t e (o t b).1;have a:=(o t b).2.1;have s:=(o t b).2.2;rw[a4g,if_neg h]at a s;refine⟨by rw[a4g,if_neg h];exact(u.sv' a).symm,fun n g=>?_⟩;rw[a4g,if_neg h]at g
  grind[b3R]⟩
 have H:a1g W (k.looksAt ops) U (δ.app di U):=⟨rfl,fun n g=>a3K (q n g),fun t b=>by
  have h:t≠di:=fun e=>l (by simp_all);rw[b4U,if_neg h]⟩
 rw[D U s1 fun n g=>by
  grind[b3R],y _ H,<-B]
 congr 1;refine AE.ext' (fun j=>?_) (fun n=>?_) rfl;simp[b4U,a4g]
 by_cases e1:j=di
 subst e1;rw[if_neg d,if_pos rfl,if_pos rfl];exact u.sv fun n g=>G n (C n g);simp_all
 by_cases v:n∈W
 simp_all[a3K,a4o];simp_all[b3R,Dl.app]
theorem b9V{W:List Nat}{m:MDl}{d:Option Nat}{U:AE}(h:∀n∈W,tyq (m.rt n)=tyq (U.rt n))(n:Nat):tyq ((a2m W m d U).rt n)=tyq (U.rt n):=by
 show tyq (bif W.contains n then m.rt n else U.rt n)=_
 grind
theorem d5b{sv:SV}(h:sv.still=true):sv.alive=true:=by
 cases sv with
 |one v=>cases v<;>first|rfl|cases h
 |cmp c vs=>exact b9P h
theorem e5I{ws:List Nat}(h:k.dst=some dk)(l:k.apart ops i=true)
  (A:a0A cx .s ops.toList k U (fun c=>a0A cx (.b ws) ops.toList i c K)=some z):a0A cx (.b ws) ops.toList i U (fun c=>a0A cx .s ops.toList k c K)=some z:=by
 obtain⟨a1,o,p⟩:=Oper.apart_spec l;have a1:=a1 dk h;have o:=o dk h;obtain⟨sv,L,D,w,x,y⟩:=d7F h A;obtain⟨W,m,-,-,C,v,u,q,r⟩:=d2b x;have s1:a1g W (i.looksAt ops) (U.put dk sv) U:=⟨rfl,fun _ _=>rfl,fun t a=>by
  have f:t≠dk:=fun e=>a1 (by simp_all);rw[a2D,if_neg f]⟩
 have B:∀t∈L,(a2m W m i.dst U).sl t=U.sl t:=fun t a=>by
  have f:¬ i.dst=some t:=fun e=>p t e (w t a).1;simp_all[a3S]
 rw[r U s1,y (a2m W m i.dst U) (fun t a=>⟨B t a,fun n _=>b9V (d:=i.dst) v n⟩) (fun g=>u.trans g),<-q];congr 1;refine AE.ext' (fun j=>?_) (fun n=>rfl) rfl;simp[a2D,a3S]
 grind
theorem e5J{ws:List Nat}(h:i.dst=some di)(o:k.apart ops i=true)
  (C:a0A cx (.b ws) ops.toList k U (fun c=>a0A cx .s ops.toList i c K)=some z):a0A cx .s ops.toList i U (fun c=>a0A cx (.b ws) ops.toList k c K)=some z:=by
 obtain⟨a1,p,l⟩:=Oper.apart_spec o;have l:=l di h;have p:¬ k.dst=some di:=fun e=>p di e h;obtain⟨W,m,u,-,E,y,x,v,w⟩:=d2b C;obtain⟨sv,L,F,q,A,B⟩:=d7F h v;have s1:∀t∈L,U.sl t=(a2m W m k.dst U).sl t:=fun t a=>by
  have r:=(q t a).2.1;have f:¬ k.dst=some t:=fun e=>a1 t e (q t a).1;rw[a3S,if_neg f]at r|-;exact(u.sv' (d5b r)).symm
 have D:a1g W (k.looksAt ops) U (U.put di sv):=⟨rfl,fun _ _=>rfl,fun t a=>by
  have f:t≠di:=fun e=>l (by simp_all);rw[a2D,if_neg f]⟩
 rw[B U (fun t a=>⟨s1 t a,fun n _=>(b9V (d:=k.dst) y n).symm⟩) (fun g=>x.symm.trans g),w (U.put di sv) D,<-A];congr 1;refine AE.ext' (fun j=>?_) (fun n=>rfl) rfl;simp[a2D,a3S]
 grind
theorem d7N{rt rt2:Nat->Option Root}(h:∀n,tyq (rt2 n)=tyq (rt n)){sv:SV}(g:b9R rt2 sv):b9R rt sv:=by
 rcases g with g|⟨n,p,r,τ,rfl,f,k⟩;exact .inl g
 ·have:=h n
  rw[f]at this;cases e:rt n with
  |none=>rw[e]at this;cases this
  |some r'=>
   rw[e]at this;simp[tyq]at this;exact .inr ⟨n,p,r',τ,rfl,e,by simp_all⟩
theorem d7O{rt:Nat->Option Root}{sv:SV}(h:b9R rt sv):sv.alive=true:=by
 rcases h with h|⟨n,p,r,τ,rfl,-⟩;exact b9P h;rfl
theorem c5z{W:List Nat}{m:MDl}{d:Option Nat}{U:AE}(h:∀n∈W,scq (m.rt n)=scq (U.rt n))(n:Nat):scq ((a2m W m d U).rt n)=scq (U.rt n):=by
 show scq (bif W.contains n then m.rt n else U.rt n)=_
 grind
theorem e5K{ws:List Nat}(h:k.dst=some dk)(l:k.apart ops i=true)
  (y:a0A cx .t ops.toList k U (fun a=>a0A cx (.c ws) ops.toList i a K)=some z):a0A cx (.c ws) ops.toList i U (fun a=>a0A cx .t ops.toList k a K)=some z:=by
 obtain⟨a1,b,q⟩:=Oper.apart_spec l;have a1:=a1 dk h;have b:=b dk h;obtain⟨sv,L,v,p,w,x⟩:=d7I h y;obtain⟨W,m,-,-,o,u,r,s⟩:=d2c w;have s1:a1g W (i.looksAt ops) (U.put dk sv) U:=⟨rfl,fun _ _=>rfl,fun t f=>by
  have g:t≠dk:=fun e=>a1 (by simp_all);rw[a2D,if_neg g]⟩
 have A:∀t∈L,(a2m W m i.dst U).sl t=U.sl t:=fun t f=>by
  have g:¬ i.dst=some t:=fun e=>q t e (p t f).1;rw[a3S,if_neg g];exact o _ (p t f).2
 rw[s U s1,x (a2m W m i.dst U) (fun t f=>⟨A t f,fun n _=>c5z (d:=i.dst) u n⟩),<-r];congr 1;refine AE.ext' (fun j=>?_) (fun n=>rfl) rfl;simp[a2D,a3S]
 by_cases e1:j=dk
 subst e1;rw[if_pos rfl,if_neg b,if_pos rfl];exact(o _ v).symm;simp_all
theorem e5L{ws:List Nat}(h:i.dst=some di)(l:k.apart ops i=true)
  (A:a0A cx (.c ws) ops.toList k U (fun a=>a0A cx .t ops.toList i a K)=some z):a0A cx .t ops.toList i U (fun a=>a0A cx (.c ws) ops.toList k a K)=some z:=by
 obtain⟨a1,o,b⟩:=Oper.apart_spec l;have b:=b di h;have o:¬ k.dst=some di:=fun e=>o di e h;obtain⟨W,m,u,-,C,p,v,w⟩:=d2c A;obtain⟨sv,L,q,r,x,y⟩:=d7I h v;have q:=d7N (fun n=>c6K (c5z (d:=k.dst) p n)) q;have s1:∀t∈L,U.sl t=(a2m W m k.dst U).sl t:=fun t f=>by
  have s:=d7O (r t f).2;have g:¬ k.dst=some t:=fun e=>a1 t e (r t f).1;rw[a3S,if_neg g]at s|-;exact(u.sv' s).symm
 have B:a1g W (k.looksAt ops) U (U.put di sv):=⟨rfl,fun _ _=>rfl,fun t f=>by
  have g:t≠di:=fun e=>b (by simp_all);rw[a2D,if_neg g]⟩
 rw[y U (fun t f=>⟨s1 t f,fun n _=>(c5z (d:=k.dst) p n).symm⟩),w (U.put di sv) B,<-x];congr 1;refine AE.ext' (fun j=>?_) (fun n=>rfl) rfl;simp[a2D,a3S]
 grind
theorem c4m{o:Oper}{U2:AE}(h:U2.pd=U.pd)(g:U2.rt=U.rt)(f:∀t∈a0q o,U2.sl t=U.sl t):U2.pends cx o=U.pends cx o:=by
 unfold AE.pends;split
 all_goals simp_all[a0q,Op.operands]
theorem c3x(U:AE)(d:Option Nat)(v:AV)(j:Nat):(U.setD d v).sl j=if d=some j then .one v else U.sl j:=by
 cases d with
 |none=>rfl
 |some d=>
  simp[AE.setD,AE.set,a2D]
  grind
theorem b7A(U:AE)(d:Option Nat)(v:AV):(U.setD d v).rt=U.rt/\(U.setD d v).pd=U.pd:=by cases d<;>exact⟨rfl,rfl⟩
theorem d2O{d:Option Nat}{di:Nat}(h:¬ d=some di)(sv:SV)(v:AV):(U.setD d v).put di sv=(U.put di sv).setD d v:=by
 refine AE.ext' (fun j=>?_) (fun n=>by rw[(b7A _ _ _).1];exact congrFun (b7A U d v).1 n) (by rw[(b7A _ _ _).2];exact(b7A U d v).2);rw[c3x,a2D,a2D,c3x]
 grind
theorem e5M(f:i.dst=some di)(n:k.apart ops i=true)
  (c:a0A cx .e ops.toList k U (fun j=>a0A cx .u ops.toList i j K)=some z):a0A cx .u ops.toList i U (fun j=>a0A cx .e ops.toList k j K)=some z:=by
 obtain⟨a1,o,l⟩:=Oper.apart_spec n;have l:=l di f;have o:¬ k.dst=some di:=fun e=>o di e f;have g:∀sv:SV,∀t∈k.looksAt ops,(U.put di sv).sl t=U.sl t:=fun sv t d=>by
  have a:t≠di:=fun e=>l (by simp_all);rw[a2D,if_neg a]
 rw[a2y]at c;cases hl:a1R ops k U with
 |none=>simp_all
 |some b=>
  rw[hl]at c;cases b with
  |false=>
   obtain⟨sv,L,-,p,q,m⟩:=c6J f c;rw[m U (fun t d=>by
    have a:¬ k.dst=some t:=fun e=>a1 t e (p t d).1;rw[c3x,if_neg a]),a2y,a2C (g sv),hl]
   simp_all[d2O]
  |true=>
   simp[a1Y]at c;obtain⟨r,c⟩:=(a0f c).elim id fun h=>by grind
   obtain⟨hp,s⟩:=a05.1 r;obtain⟨sv,L,-,p,q,m⟩:=c6J f c;rw[m U (fun t d=>rfl),a2y,a2C (g sv),hl];simp[a1Y];rw[c4m (U:=U) (U2:=U.put di sv) rfl rfl fun t d=>g sv t (a2x d),hp,s];exact q
theorem e5N(a:k.dst=some dk)(m:k.apart ops i=true)
  (r:a0A cx .u ops.toList k U (fun j=>a0A cx .e ops.toList i j K)=some z):a0A cx .e ops.toList i U (fun j=>a0A cx .u ops.toList k j K)=some z:=by
 obtain⟨a1,l,o⟩:=Oper.apart_spec m;have a1:=a1 dk a;have l:=l dk a;obtain⟨sv,L,-,p,f,n⟩:=c6J a r;have g:∀t∈i.looksAt ops,U.sl t=(U.put dk sv).sl t:=fun t d=>by
  have c:t≠dk:=fun e=>a1 (by simp_all);rw[a2D,if_neg c]
 rw[a2y]at f;rw[a2y,a2C (U:=U.put dk sv) g];cases hl:a1R ops i (U.put dk sv)with
 |none=>simp_all
 |some b=>
  rw[hl]at f;cases b with
  |false=>
   simp at f|-;rw[n _ (fun t d=>by
    have c:¬ i.dst=some t:=fun e=>o t e (p t d).1;rw[c3x,if_neg c]),d2O l]
   omega
  |true=>
   simp[a1Y]at f|-;obtain⟨q,f⟩:=(a0f f).elim id fun h=>by grind
   rw[c4m (U:=U.put dk sv) (U2:=U) rfl rfl fun t d=>g t (a2x d),q]
   simp
   rw[n { U with pd:=none } fun t d=>rfl];exact f
theorem f1x{mk mi:Md}(d:c6p mk mi=true)(g:mk.isW=true\/k.dst.isSome=true)(h:mi.isW=true\/i.dst.isSome=true)(f:k.apart ops i=true)(o:∀t∈i.looksAt ops,∀n∈(U.sl t).refs,mi.reads n->U.rt n≠none)
  (j:a0A cx mk ops.toList k U (fun A=>a0A cx mi ops.toList i A K)=some z):a0A cx mi ops.toList i U (fun A=>a0A cx mk ops.toList k A K)=some z:=by
 have y:mk.quiet->mi.quiet->a0A cx mi ops.toList i U (fun A=>a0A cx mk ops.toList k A K)=some z:=fun B C=>by
  obtain⟨m,g⟩:=a00.1 (g.resolve_left (by cases mk<;>first|(cases B;done)|simp[Md.isW]))
  obtain⟨l,h⟩:=a00.1 (h.resolve_left (by cases mi<;>first|(cases C;done)|simp[Md.isW]))
  exact e5D B C g h f o j
 cases mk with
 |x=>cases mi<;>cases d
 |p=>
  cases mi with
  |x=>cases d
  |c ws=>cases d
  |e=>cases d
  |b ws=>cases d
  |a ws=>
   obtain⟨m,g⟩:=a00.1 (g.resolve_left (by simp[Md.isW]));exact c8J (.inl rfl) (.inl rfl) g f j
  |w ws=>
   obtain⟨m,g⟩:=a00.1 (g.resolve_left (by simp[Md.isW]));exact d6D (.inl rfl) g f j
  |_=>exact y trivial trivial
 |s=>
  cases mi with
  |x=>cases d
  |c ws=>cases d
  |e=>cases d
  |a ws=>cases d
  |w ws=>cases d
  |b ws=>
   obtain⟨m,g⟩:=a00.1 (g.resolve_left (by simp[Md.isW]));exact e5I g f j
  |_=>exact y trivial trivial
 |b ws=>
  cases mi with
  |s=>
   obtain⟨l,h⟩:=a00.1 (h.resolve_left (by simp[Md.isW]));exact e5J h f j
  |u=>
   obtain⟨l,h⟩:=a00.1 (h.resolve_left (by simp[Md.isW]));exact c8K (.inr rfl) (.inr (.inl rfl)) h f j
  |_=>cases d
 |a ws=>
  cases mi with
  |p=>
   obtain⟨l,h⟩:=a00.1 (h.resolve_left (by simp[Md.isW]));exact c8K (.inl rfl) (.inl rfl) h f j
  |_=>cases d
 |u=>
  cases mi with
  |x=>cases d
  |a ws=>cases d
  |b ws=>
   obtain⟨m,g⟩:=a00.1 (g.resolve_left (by simp[Md.isW]));exact c8J (.inr rfl) (.inr (.inl rfl)) g f j
  |c ws=>
   obtain⟨m,g⟩:=a00.1 (g.resolve_left (by simp[Md.isW]));exact c8J (.inr rfl) (.inr (.inr rfl)) g f j
  |w ws=>
   obtain⟨m,g⟩:=a00.1 (g.resolve_left (by simp[Md.isW]));exact d6D (.inr rfl) g f j
  |e=>
   obtain⟨m,g⟩:=a00.1 (g.resolve_left (by simp[Md.isW]));exact e5N g f j
  |_=>exact y trivial trivial
 |t=>
  cases mi with
  |x=>cases d
  |a ws=>cases d
  |b ws=>cases d
  |w ws=>cases d
  |e=>cases d
  |c ws=>
   obtain⟨m,g⟩:=a00.1 (g.resolve_left (by simp[Md.isW]));exact e5K g f j
  |_=>exact y trivial trivial
 |c ws=>
  cases mi with
  |u=>
   obtain⟨l,h⟩:=a00.1 (h.resolve_left (by simp[Md.isW]));exact c8K (.inr rfl) (.inr (.inr rfl)) h f j
  |t=>
   obtain⟨l,h⟩:=a00.1 (h.resolve_left (by simp[Md.isW]));exact e5L h f j
  |_=>cases d
 |e=>
  cases mi with
  |u=>
   obtain⟨l,h⟩:=a00.1 (h.resolve_left (by simp[Md.isW]));exact e5M h f j
  |_=>cases d
 |v=>
  cases mi with
  |x=>cases d
  |c ws=>cases d
  |e=>cases d
  |b ws=>cases d
  |a ws=>cases d
  |w ws=>
   obtain⟨m,g⟩:=a00.1 (g.resolve_left (by simp[Md.isW]));exact e5E g f j
  |_=>exact y trivial trivial
 |q=>
  cases mi with
  |x=>cases d
  |c ws=>cases d
  |e=>cases d
  |b ws=>cases d
  |a ws=>cases d
  |w ws=>cases d
  |_=>exact y trivial trivial
 |r ns=>
  cases mi with
  |x=>cases d
  |c ws=>cases d
  |e=>cases d
  |b ws=>cases d
  |a ws=>cases d
  |w ws=>
   obtain⟨m,g⟩:=a00.1 (g.resolve_left (by simp[Md.isW]));exact e5G d g f j
  |_=>exact y trivial trivial
 |w ws=>
  cases mi with
  |p=>
   obtain⟨l,h⟩:=a00.1 (h.resolve_left (by simp[Md.isW]));exact d6E (.inl rfl) h f j
  |v=>
   obtain⟨l,h⟩:=a00.1 (h.resolve_left (by simp[Md.isW]));exact e5F h f j
  |u=>
   obtain⟨l,h⟩:=a00.1 (h.resolve_left (by simp[Md.isW]));exact d6E (.inr rfl) h f j
  |r ns=>
   obtain⟨l,h⟩:=a00.1 (h.resolve_left (by simp[Md.isW]));exact e5H d h f j
  |_=>cases d
end
theorem c4n(g:Nat->Nat)(k:Nat):∀(l:List Edge)(s:Nat),(l.foldl (fun s e=>if Region.binds .any e then s ||| 2^e.on ||| g e.on else s) s).testBit k=true->
  s.testBit k=true\/∃e∈l,Region.binds .any e=true/\(e.on=k\/(g e.on).testBit k=true)
 | [],s,h=>.inl h
 |e::l,s,h=>by
  rcases c4n g k l _ h with h|⟨a,f,b⟩
  all_goals grind
def d7P(ops:List Oper)(b:List Nat):Prop:=∀j k,j<b.length->(b.getD j 0).testBit k=true->
 ∃e∈(ops.getD j default).after.toList,Region.binds .any e=true/\(e.on=k\/(b.getD e.on 0).testBit k=true)
theorem d0h(all:List Oper):∀(r:List Oper)(acc:List Nat),(∀j,r[j]?=all[acc.length+j]?)->d7P all acc->d7P all (c8x r acc)/\(c8x r acc).length=acc.length+r.length
 | [],acc,_,h=>⟨h,by rfl⟩
 |o::r,acc,hr,h=>by
  simp only[c8x];have i:all.getD acc.length default=o:=by
   have:=hr 0
   grind
  have ⟨a,b⟩:=d0h all r (acc++[o.after.toList.foldl (fun s e=>if Region.binds .any e then s ||| 2^e.on ||| acc.getD e.on 0 else s) 0]) (fun j=>by
    have:=hr (j+1)
    grind) (fun j k l hb=>by
   have p:∀m,(acc.getD m 0).testBit k=true->((acc++[o.after.toList.foldl (fun s e=>if Region.binds .any e then s ||| 2^e.on ||| acc.getD e.on 0 else s) 0]).getD m 0).testBit k=true:=fun m n=>by
    grind
   by_cases hlt:j<acc.length
   rw[lD,List.getElem?_append_left hlt,<-lD]at hb;obtain⟨e,d,f,c⟩:=h j k hlt hb
   grind
   ·have g:j=acc.length:=by grind
    subst g;rw[lD,a34 (a24 _)]at hb;simp only[Nat.sub_self,a27,a38]at hb;rcases c4n (fun m=>acc.getD m 0) k _ _ hb with h'|⟨e,d,f,c⟩
    all_goals grind)
  grind
section
variable {P:Program} {B:Base} {N:Nat} {cx:Cx} {ro:Option Nat} {D:List Deferred}
theorem e6S{Z:Type}{ops:Array Oper}{mi:Md}{i:Oper}{z:Z}(l2:List (Md×Oper)):∀(l1:List (Md×Oper)) {U:AE} {K:AE->Rs Z},
  (∀p∈l1,c6p p.1 mi=true/\p.2.apart ops i=true/\(p.1.isW=true\/p.2.dst.isSome=true)/\(mi.isW=true\/i.dst.isSome=true))->(∀t∈i.looksAt ops,∀n∈(U.sl t).refs,mi.reads n->U.rt n≠none)->
  a6Y cx ops.toList (l1++(mi,i)::l2) U K=some z->a0A cx mi ops.toList i U (fun f=>a6Y cx ops.toList (l1++l2) f K)=some z
 | [],U,K,_,_,g=>g
 |(mk,k)::l1,U,K,hall,hroots,g=>by
  obtain⟨C,H,l,O⟩:=hall (mk,k) (by simp);have g:a0A cx mk ops.toList k U (fun f=>a6Y cx ops.toList (l1++(mi,i)::l2) f K)=some z:=g;have F:∀f,(∀t∈i.looksAt ops,∀n∈(f.sl t).refs,mi.reads n->f.rt n≠none)->a6Y cx ops.toList (l1++(mi,i)::l2) f K=some z->a0A cx mi ops.toList i f (fun U2=>a6Y cx ops.toList (l1++l2) U2 K)=some z:=
   fun f V h=>e6S l2 l1 (fun p hp=>hall p (by grind)) V h
  refine f1x C l O H hroots ?_
  obtain⟨a1,-,-⟩:=Oper.apart_spec H;have G:mk.quiet->a0A cx mk ops.toList k U (fun f=>a0A cx mi ops.toList i f fun U2=>a6Y cx ops.toList (l1++l2) U2 K)=some z:=fun P=>by
   obtain⟨R,l⟩:=a00.1 (l.resolve_left (by cases mk<;>first|(cases P;done)|simp[Md.isW]))
   have a1:=a1 R l;obtain⟨δ,L,E,A,B,S⟩:=d2N P l g;rw[S U ⟨rfl,fun _ _=>⟨rfl,fun _ _ _=>rfl⟩⟩ B];refine F _ (fun t y n j hq=>?_) A;rw[b4U,if_neg (fun e=>a1 (by simp_all))]at j
   grind[c1K]
  cases mk with
  |v=>exact G trivial
  |p=>exact G trivial
  |a ws=>
   obtain⟨W,m,E,I,A,B⟩:=e4a g;rw[B U a1g.refl];refine F _ (fun t y n j hq=>?_) A;cases mi with
   |p=>cases hq
   |_=>cases C
  |b ws=>
   obtain⟨W,m,E,I,-,M,-,A,B⟩:=d2b g;rw[B U a1g.refl];refine F _ (fun t y n j hq=>?_) A;cases mi with
   |s=>
    have o:¬ k.dst=some t:=fun e=>a1 t e y;rw[a3S,if_neg o]at j
    have:=hroots t y n (E.refs j) trivial
    intro e;have D:=b9V (d:=k.dst) M n;rw[e]at D;cases e3:U.rt n with
    |none=>simp_all
    |some r=>rw[e3]at D;cases D
   |u=>cases hq
   |_=>cases C
  |c ws=>
   obtain⟨W,m,E,I,-,M,A,B⟩:=d2c g;rw[B U a1g.refl];refine F _ (fun t y n j hq=>?_) A;cases mi with
   |t=>
    have o:¬ k.dst=some t:=fun e=>a1 t e y;rw[a3S,if_neg o]at j
    have:=hroots t y n (E.refs j) trivial
    intro e;have D:=b9V (d:=k.dst) (fun n j=>c6K (M n j)) n;rw[e]at D;cases e3:U.rt n with
    |none=>simp_all
    |some r=>rw[e3]at D;cases D
   |u=>cases hq
   |_=>cases C
  |e=>
   rw[a2y]at g|-;cases hl:a1R ops k U with
   |none=>simp_all
   |some b=>
    rw[hl]at g;have Q:∀f:AE,∀t∈i.looksAt ops,∀n∈(f.sl t).refs,mi.reads n->f.rt n≠none:=fun f t y n j hq=>by
     cases mi with
     |u=>cases hq
     |_=>cases C
    cases b with
    |false=>exact F _ (Q _) g
    |true=>
     simp only[a1Y]at g|-;obtain⟨N,g⟩:=(a0f g).elim id fun h=>by grind
     rw[N];exact F _ (Q _) g
  |u=>exact G trivial
  |t=>exact G trivial
  |s=>exact G trivial
  |q=>exact G trivial
  |r ns=>exact G trivial
  |w ws=>
   obtain⟨W,m,E,I,A,B⟩:=b9T g;rw[B U a1g.refl];refine F _ (fun t y n j hq=>?_) A;have o:¬ k.dst=some t:=fun e=>a1 t e y;rw[a4g,if_neg o]at j;have j:=E.refs j;cases mi with
   |v=>cases hq
   |p=>cases hq
   |u=>cases hq
   |r ns=>
    have T:n∉W:=fun X=>c5y C hq (I n X)
    grind[b3R]
   |_=>cases C
  |x=>cases mi<;>cases C
def a3j(n:Nat)(listed:Array Bool):List Nat:=(a28 n).filter fun i=>!listed.getD i true
def c1L(ops:Array Oper)(ms:List Md)(i:Nat):Md×Oper:=(ms.getD i .x,ops.getD i default)
structure DrawOk (ops:Array Oper) (ms:List Md) (b:List Nat):Prop where
 len:ms.length=ops.size
 good:d7P ops.toList b
 lb:b.length=ops.size
 back:∀j e,j<ops.size->e∈(ops.getD j default).after.toList->Region.binds .any e=true->e.on<j
 pair:∀i j,i<j->j<ops.size->(b.getD j 0).testBit i=true\/(c6p (ms.getD i .x) (ms.getD j .x)=true/\(ops.getD i default).apart ops (ops.getD j default)=true/\((ms.getD i .x).isW=true\/(ops.getD i default).dst.isSome=true)/\((ms.getD j .x).isW=true\/(ops.getD j default).dst.isSome=true))
theorem d5c{ops:Array Oper}{ms:List Md}(h:c6q ops ms=true):DrawOk ops ms (c8x ops.toList []):=by
 simp only[c6q,bA9,dT,lA,a32]at h;obtain⟨a,d⟩:=h;obtain⟨f,c⟩:=d0h ops.toList ops.toList [] (fun j=>by simp) (fun j k g=>by simp);refine⟨a,f,by simp_all,fun j e g l hb=>?_,fun i j b g=>?_⟩
 all_goals grind
theorem c6M{n:Nat}{listed:Array Bool}{i:Nat}(d:listed.size=n)(hi:i∈a3j n listed):∃l1 l2,a3j n listed=l1++i::l2/\a3j n (listed.setIfInBounds i true)=l1++l2/\∀k∈l1,k<i/\k∈a3j n listed:=by
 have g:i<n:=by
  simp_all[a3j]
 have a:listed.getD i true=false:=by
  simp_all[a3j]
 have h:a28 n=a28 i++i::(a35 (i+1) (n-i-1)):=by
  rw[a25,a25,show n=i+(1+(n-i-1))from by omega,<-a46,<-a46]
  simp
 have f:∀j,j≠i->(listed.setIfInBounds i true).getD j true=listed.getD j true:=fun j b=>by
  simp_all[Ne.symm]
 refine⟨(a28 i).filter fun i=>!listed.getD i true,(a35 (i+1) (n-i-1)).filter fun i=>!listed.getD i true,?_,?_,fun k c=>?_⟩;simp_all[a3j]
 ·simp only[a3j];rw[h,List.filter_append,List.filter_cons,if_neg (by
   simp)]
  congr 1
  all_goals grind[a54]
 simp_all[a3j]
theorem e2x(h6:CxOk P cx)(hG:GOk cx.G B){Z:Type}{ops:Array Oper}{ms:List Md}{b:List Nat}(F:DrawOk ops ms b){K:AE->Rs Z}{z:Z}{Q:Exit->Act->World->Prop}(hf:∀o∈ops.toList,a9Y N ops.toList o=true)
  (hQ:∀a' w' Y M',Rel B Y N (a0o a') w' M'->a'.tmps.size=N->a'.defers=D->K Y=some z->Q .normal a' w'):
  ∀(fuel:Nat)(f:Array Bool){U:AE}{a:Act}{w:World}{M:Gh},f.size=ops.size->(a3j ops.size f).length=fuel->
   (∀j k,j<ops.size->f.getD j true=true->(b.getD j 0).testBit k=true->f.getD k true=true)->
   Rel B U N (a0o a) w M->a.tmps.size=N->a.defers=D->a6Y cx ops.toList ((a3j ops.size f).map (c1L ops ms)) U K=some z->wpAnyIn (Fr ro) 0 P .any ops Q fuel f a w:=by
 intro fuel;have I:∀f i,i∈Region.ready .any ops f->i∈a3j ops.size f/\∀e∈(ops.getD i default).after.toList,Region.binds .any e=true->f.getD e.on false=true:=by
  intro f i hi;simp only[Region.ready,a40,a32,bA9]at hi;refine⟨by simp_all[a3j],fun e he hb=>?_⟩;have h3:=hi.2.2;have d:ops[i]?=some (ops.getD i default):=by
   simp_all
  rw[d]at h3;simp only[a39,a38]at h3;rw[<-a58]at h3
  grind
 have C:∀(f:Array Bool),a3j ops.size f=[]->Region.ready .any ops f=[]:=fun f h=>by
  refine List.eq_nil_iff_forall_not_mem.2 fun i hi=>?_
  grind
 induction fuel with
 |zero=>
  intro f U a w M y hl L X hN hD V;have h0:=List.eq_nil_of_length_eq_zero hl;rw[h0]at V;exact⟨C f h0,hQ a w U M X hN hD V⟩
 |succ fuel ih=>
  intro f U a w M y hl L X hN hD V;refine⟨fun k0=>?_,fun i hi=>?_⟩
  ·
   exfalso
   cases hR:a3j ops.size f with
   |nil=>simp_all
   |cons i R=>
    have E:i∈a3j ops.size f:=by simp_all
    have hi:=E;simp only[a3j,a40,a32]at hi
    have:i∈Region.ready .any ops f:=by
     simp only[Region.ready,a40,a32,bA9];refine⟨hi.1,hi.2,?_⟩;have d:ops[i]?=some (ops.getD i default):=by
      simp_all
     rw[d];simp only[a39,a38];rw[<-a58];refine lA.2 fun e he=>?_
     by_cases hb:Region.binds .any e=true
     ·have k4:=F.back i e hi.1 he hb;have g0:f.getD e.on true=true:=by
       cases hv:f.getD e.on true with
       |true=>rfl
       |false=>
        obtain⟨l1,l2,g1,-,g3⟩:=c6M (n:=ops.size) y (i:=e.on) (by grind[a3j]);have k1:(a3j ops.size f).Pairwise (·<·):=List.Pairwise.filter _ List.pairwise_lt_range
        grind[List.pairwise_cons]
      grind
     simp_all
    simp_all
  ·obtain⟨E,h7⟩:=I f i hi;obtain⟨l1,l2,g1,g2,g3⟩:=c6M y E;have h8:i<ops.size:=by grind
   have d:ops[i]?=some (ops.getD i default):=by
    simp_all
   have T:ops.getD i default∈ops.toList:=by
    simp_all
   have q:=hf _ T;have tr:∀k,f.getD k false=true->f.getD k true=true:=fun k S=>by
    grind
   have g9:∀k,(b.getD i 0).testBit k=true->f.getD k true=true:=fun k S=>by
    obtain⟨e,he,h1,h2⟩:=F.good i k (by grind) S
    grind
   rw[g1,pA,List.map_cons]at V;have H:=e6S (cx:=cx) (mi:=ms.getD i .x) (i:=ops.getD i default) (l2.map (c1L ops ms)) (l1.map (c1L ops ms)) (fun p hp=>by
     obtain⟨k,S,rfl⟩:=a20.1 hp;obtain⟨h9,k3⟩:=g3 k S;rcases F.pair k i h9 h8 with h|h
     grind[a3j]
     exact h) (fun t A n u _=>by
     have g7:t<N:=by
      simp only[Oper.looksAt,mA]at A;rcases A with A|A;obtain⟨x,hx,k5⟩:=a16.1 A
      have:=a0R (b8l q) x hx
      grind[a1m]
      ·cases hg:(ops.getD i default).guard with
       |none=>grind
       |some p=>
        obtain⟨j,k2⟩:=p;rw[hg]at A;simp at A;have O:b1A ops.toList j=some t:=by simpa[b1A]using A
        simp only[a9Y,hg,O,bA9,dT]at q
        grind
     have y:=X.slots t g7
     revert y u
     generalize U.sl t=sv;intro u y;have one:∀(av:AV)(v:Value),a0l (a0a w M.ov) M.g U.rt (Shr B w M) av v->n∈av.refs->U.rt n≠none:=fun av v ha u=>by
      cases av with
      |ptr m p=>obtain⟨r,t,b,o,h1,-⟩:=ha;grind[AV.refs]
      |sref m p=>obtain⟨r,e,s,h1,-⟩:=ha;grind[AV.refs]
      |swin m p o l=>obtain⟨r,e,s,_,_,_,h1,-⟩:=ha;grind[AV.refs]
      |_=>cases u
     cases sv with
     |one av=>exact one av _ y u
     |cmp c vs=>
      obtain⟨us,-,h2⟩:=y;simp[SV.refs]at u;obtain⟨av,h4,u⟩:=u;obtain⟨k,S⟩:=a43.1 h4
      grind) V
   have g6:=d6x (ro:=ro) (next:=wpAnyIn (Fr ro) 0 P .any ops Q fuel (f.setIfInBounds i true)) (Q:=Q) h6 hG X hN q H fun v w' Y M' g5 hK=>by
    refine ih (f.setIfInBounds i true) (by grind) ?_ ?_ g5 (by rw[b6k];omega) (by grind[b5H]) ?_
    grind
    intro j k hj g4 h5;have up:∀m,f.getD m true=true->(f.setIfInBounds i true).getD m true=true:=fun m hm=>by
     by_cases e:m=i
     subst e
     simp
     simp at hm|-
     grind
    by_cases e:j=i
    grind
    refine up k (L j k hj ?_ h5);simp at g4|-
    grind
    grind
   unfold wpOpIn
   grind
theorem e2y{Z:Type}{U:AE}{a:Act}{w:World}{M:Gh}(c:CxOk P cx)(m:GOk cx.G B)(r:P.follows .mixedOrders=true){ops:Array Oper}{id:Nat}{ms:List Md}{K:AE->Rs Z}{z:Z}{Q:Exit->Act->World->Prop}
  (h:Rel B U N (a0o a) w M)(n:a.tmps.size=N)(l:a.defers=D)(q:∀o∈ops.toList,a9Y N ops.toList o=true)(e:c6q ops ms=true)(x:a6Y cx ops.toList (ms.zip ops.toList) U K=some z)
  (p:∀a' w' U' M',Rel B U' N (a0o a') w' M'->a'.tmps.size=N->a'.defers=D->K U'=some z->Q .normal a' w'):(Code.region id ops true).wpIn (Fr ro) 0 P Q a w:=by
 refine wpIn_region_any r ?_
 have f:=d5c e;have g:Rel B U N (a0o a) { w with drawn:=w.drawn+1 } M:=h.ext (fun _ _=>rfl) (a24 _);have d:∀i,i<ops.size->(a30 ops.size false).getD i true=false:=fun i hi=>by
  simp_all
 have b:a3j ops.size (a30 ops.size false)=a28 ops.size:=by
  simp_all[a3j]
 refine e2x c m f q p ops.size _ (by simp) (by simp_all) (fun j k u v _=>by simp_all) g n l ?_
 rw[b];rw[show(a28 ops.size).map (c1L ops ms)=ms.zip ops.toList from ?_];omega;refine a55 fun i=>?_
 rw[a56]
 by_cases hi:i<ops.size
 have s:i<ms.length:=by rw[f.len];omega
 have t:i<ops.toList.length:=by omega
 rw[List.getElem?_range hi,lG (by grind)];simp_all[c1L]
 grind
end
def c1M:Ex->Exit
 |.normal=>.normal
 |.exit i=>.exit i
 |.ret=>.ret
def e4b{Z:Type}(B:Base)(N:Nat)(D:List Deferred)(K:Ex->AE->Rs Z)(z:Z):Exit->Act->World->Prop:=fun e a w=>
 ∃ex U M,e=c1M ex/\K ex U=some z/\Rel B U N (a0o a) w M/\a.tmps.size=N/\a.defers=D
def a2z(N:Nat):Code->Bool
 |.region _ ops _=>ops.toList.all (a9Y N ops.toList)
 |.seq a b=>a2z N a&&a2z N b
 |.cond c a b=>a1m N c&&(a2z N a&&a2z N b)
 |.block _ c|.loop c=>a2z N c
 |_=>true
def Hints.fits(N:Nat)(H:Hints):Bool:=
 H.loops.all (fun p=>p.2.1.fits N&&p.2.2.all (fun q=>q.2.fits N))&&H.cuts.all (fun p=>p.2.all (fun q=>q.2.fits N))
theorem c5A{α:Type}:∀{l:List (Nat×α)} {n:Nat} {x:α},find l n=some x->∃k,(k,x)∈l
 |(k,y)::r,n,x,h=>by
  simp[find]at h;rcases a0f h with⟨-,h⟩|⟨-,h⟩;simp only[sj]at h;exact⟨k,by simp[h]⟩;obtain⟨k',g⟩:=c5A h;exact⟨k',a04 _ g⟩
section
variable {P:Program} {B:Base} {N:Nat} {cx:Cx} {H:Hints} {ro:Option Nat} {D:List Deferred}
theorem c6N{Q:Exit->Act->World->Prop}{a:Act}{w:World}{c:Code}(I:Nat->Act->World->Prop)(b:Nat)(j:I b a w)
  (round:∀n a w,I n a w->c.wpIn (Fr ro) 0 P (Exit.then (fun f w'=>∃m,m<n/\I m f w') Q) a w):(Code.loop c).wpIn (Fr ro) 0 P Q a w:=by
 classical
 have g:∀a w,(∃n,I n a w)->∃n,I n a w/\∀m,I m a w->n<=m:=by
  intro a w ⟨n,p⟩
  induction n using Nat.strongRecOn with
  |_ n ih=>
   grind
 let μ:Act->World->Nat:=fun a w=>if h:∃n,I n a w then(g a w h).choose else 0
 refine wpIn_loop (fun a w=>∃n,I n a w) μ ⟨b,j⟩ fun a w d=>?_
 have i:=(g a w d).choose_spec;refine wpIn_mono (round _ a w i.1) fun e f w' k=>?_
 cases e with
 |normal=>
  obtain⟨m,o,hi⟩:=k;refine⟨⟨m,hi⟩,?_⟩;have l:∃n,I n f w':=⟨m,hi⟩
  grind
 |_=>exact k
theorem b1l(h3:CxOk P cx)(hG:GOk cx.G B)(hm:P.follows .mixedOrders=true)(hH:H.fits N=true):∀(c:Code) (p:Nat){Z:Type}{U:AE}{K:Ex->AE->Rs Z}{z:Z}{a:Act}{w:World}{M:Gh}(_:a2z N c=true)
  (_:a1X cx H c p U K=some z) (_:Rel B U N (a0o a) w M) (_:a.tmps.size=N) (_:a.defers=D),c.wpIn (Fr ro) 0 P (e4b B N D K z) a w:=by
 intro c;have T:∀p s os,find H.loops p=some (s,os)->s.fits N=true/\os.all (fun q=>q.2.fits N)=true:=fun p s os h=>by
  obtain⟨k,hk⟩:=c5A h;simp only[Hints.fits,bA9]at hH
  grind
 have h0:∀p os,find H.cuts p=some os->os.all (fun q=>q.2.fits N)=true:=fun p os h=>by
  obtain⟨k,hk⟩:=c5A h;simp only[Hints.fits,bA9]at hH
  grind
 induction c with
 |skip=>intro p Z U K z a w M l d h r m;exact wpIn_skip ⟨.normal,U,M,rfl,by simp_all[a1X],h,r,m⟩
 |region rid ops draw=>
  intro p Z U K z a w M l d h r m;simp[a1X]at d;have h4:∀o∈ops.toList,a9Y N ops.toList o=true:=fun o ho=>lA.1 l o ho;cases draw with
  |false=>
   simp at d;refine wpIn_region_list ?_
   have:=d6y (Q:=e4b B N D K z) (ro:=ro) (D:=D) h3 hG (ops:=ops) (ops.toList.map fun o=>(Md.x,o)) h r m (fun q hq=>by
    grind) d (fun V w' A M' u f g j=>⟨.normal,A,M',rfl,j,u,f,g⟩)
   rwa [a50,show((fun x:Md×Oper=>x.2)∘fun o=>(Md.x,o))=_root_.id from rfl,a33]at this
  |true=>
   simp at d
   split at d
   rename_i ms h9;obtain⟨h6,d⟩:=(a0f d).elim id fun h=>by grind
   exact e2y h3 hG hm h r m h4 h6 d fun V w' A M' u f g j=>⟨.normal,A,M',rfl,j,u,f,g⟩;simp_all
 |seq x y ihx ihy=>
  intro p Z U K z a w M l d h r m;simp[a2z]at l;simp[a1X]at d;refine wpIn_seq ?_
  split at d
  ·refine wpIn_mono (ihx _ l.1 d h r m) ?_
   rintro e V w' ⟨L,A,M',rfl,j,u,f,g⟩
   cases L with
   |normal=>exact ihy _ l.2 j u f g
   |exit i=>exact⟨.exit i,A,M',rfl,j,u,f,g⟩
   |ret=>exact⟨.ret,A,M',rfl,j,u,f,g⟩
  ·rename_i os S;obtain⟨y0,h1,Y⟩:=a09.1 d;refine wpIn_mono (ihx _ l.1 h1 h r m) ?_
   rintro e V w' ⟨L,A,M',rfl,j,u,f,g⟩
   obtain⟨y1,X,I,C,F,k3⟩:=b0z os u (h0 _ _ S) j;simp at C;subst C;rw[k3]at Y;cases L with
   |normal=>exact ihy _ l.2 Y F f g
   |exit i=>exact⟨.exit i,X,I,rfl,Y,F,f,g⟩
   |ret=>exact⟨.ret,X,I,rfl,Y,F,f,g⟩
 |cond c x y ihx ihy=>
  intro p Z U K z a w M l d h r m;simp[a2z]at l;simp[a1X]at d
  split at d
  ·rename_i t ht;have hc:=h.opd l.1;rw[ht]at hc;have hc:=a0l.bool hc;rcases a0f d with⟨rfl,d⟩|⟨rfl,d⟩
   all_goals grind[wpIn_cond_true,wpIn_cond_false]
  simp_all
 |block id c ih=>
  intro p Z U K z a w M l d h r m;simp[a1X]at d;refine wpIn_block (wpIn_mono (ih _ l d h r m) ?_)
  rintro e V w' ⟨L,A,M',rfl,j,u,f,g⟩
  cases L with
  |normal=>exact⟨.normal,A,M',rfl,j,u,f,g⟩
  |exit i=>
   simp[c1M,Exit.inBlock];rcases a0f j with⟨hi,j⟩|⟨hi,j⟩;rw[if_pos (by simp_all)];exact⟨.normal,A,M',rfl,j,u,f,g⟩;rw[if_neg (by simp_all)];exact⟨.exit i,A,M',rfl,j,u,f,g⟩
  |ret=>exact⟨.ret,A,M',rfl,j,u,f,g⟩
 |loop c ih=>
  intro p Z U K z a w M l d h r m;simp[a1X]at d
  split at d
  grind
  ·rename_i s os h7;obtain⟨hs,S⟩:=T _ _ _ h7;obtain⟨x0,M0,h1,Y⟩:=h.dcd hs d;obtain⟨y,hy,j⟩:=a09.1 h1;obtain⟨n0,h5⟩:=e0l hy;refine c6N (fun n a w=>∃x M,a3I _ n x=some y/\Rel B (s.enc x) N (a0o a) w M/\a.tmps.size=N/\a.defers=D) n0 ⟨x0,M0,h5,Y,r,m⟩ ?_
   rintro n a w ⟨x,M,hn,u,f,g⟩
   cases n with
   |zero=>simp_all[a3I]
   |succ n=>
    simp[a3I]at hn
    split at hn
    grind
    ·rename_i x' h8;refine wpIn_mono (ih _ l h8 u f g) ?_
     rintro e V w' ⟨L,A,M',rfl,v,E,R,O⟩
     cases L with
     |normal=>
      simp at v;obtain⟨x2,I,C,F⟩:=E.dcd hs v;simp at C;subst C;exact⟨n,Nat.lt_succ_self n,x2,I,hn,F,R,O⟩
     |exit i=>
      grind[b0z]
     |ret=>
      grind[b0z]
    ·rename_i b hb;simp at hn;subst hn;refine wpIn_mono (ih _ l hb u f g) ?_
     rintro e V w' ⟨L,A,M',rfl,v,E,R,O⟩
     cases L with
     |normal=>
      simp at v;obtain⟨x2,I,C,F⟩:=E.dcd hs v
      grind
     |exit i=>
      obtain⟨y1,X,I,C,F,k3⟩:=b0z os E S v;simp at C;subst C;rw[k3]at j;exact⟨.exit i,X,I,rfl,j,F,R,O⟩
     |ret=>
      obtain⟨y1,X,I,C,F,k3⟩:=b0z os E S v;simp at C;subst C;rw[k3]at j;exact⟨.ret,X,I,rfl,j,F,R,O⟩
 |exit id=>intro p Z U K z a w M l d h r m;exact wpIn_exit ⟨.exit id,U,M,rfl,by simp_all[a1X],h,r,m⟩
 |ret=>intro p Z U K z a w M l d h r m;exact wpIn_ret ⟨.ret,U,M,rfl,by simp_all[a1X],h,r,m⟩
 |_=>intro p Z U K z a w M l d h r m;simp only[a1X]at d;cases d
end
theorem d2P{α:Type}{P:Program}{w:World}{f:α->Sem Value}:∀(l:List α)(us:List Value),us.length=l.length->(∀(k:Nat) x u,l[k]?=some x->us[k]?=some u->(f x).run P w=.ok u w)->(l.mapM f).run P w=.ok us w
 | [],us,hl,_=>by
  simp_all
 |x::l,[],hl,_=>by simp_all
 |x::l,u::us,hl,h=>by
  have g:=h 0 x u rfl rfl;have a:=d2P l us (by simpa using hl) (fun k y v b hv=>h (k+1) y v (by simpa using b) (by simpa using hv));simp[List.mapM_cons,g,a,Result.andThen]
def a3e(tk:List Nat)(U U':AE):Prop:=
 (∀i av,U.get i=av->(av.firm=true\/∃n∈tk,av=.sref n []\/av=.ptr n [])->U'.get i=av)/\∀n∈tk,U'.rt n=U.rt n
theorem a3e.refl{tk U}:a3e tk U U:=⟨fun _ _ h _=>h,fun _ _=>rfl⟩
theorem a3e.trans{tk tk' U U' U''}(h:a3e tk U U')(f:a3e tk' U' U'')(a:∀n∈tk,n∈tk'):a3e tk U U'':=
 ⟨fun i av hi k=>f.1 i av (h.1 i av hi k) (k.imp id fun⟨n,g,e⟩=>⟨n,a n g,e⟩),fun n g=>(f.2 n (a n g)).trans (h.2 n g)⟩
theorem a3e.gone{tk:List Nat}{U:AE}{n:Nat}(k:n∉tk)(f:AV->AV)(h:∀av:AV,(av.firm=true\/∃m,m≠n/\(av=.sref m []\/av=.ptr m []))->f av=av):a3e tk U ((U.mapv f).setRt n none):=by
 refine⟨fun i av hi a=>?_,fun m g=>?_⟩
 grind[AE.get,AE.setRt,AE.mapv,SV.mapv]
 have:(m==n)=false:=by
  grind
 simp[AE.setRt,AE.mapv,this]
theorem a3e.set{tk:List Nat}{U U':AE}(h:a3e tk U U'){j:Nat}{av:AV}(k:U.get j=.dead):a3e tk U (U'.set j av):=by
 refine⟨fun i v hi g=>?_,fun n a=>h.2 n a⟩;have f:i≠j:=by
  rintro rfl
  rw[k]at hi;subst hi;rcases g with g|⟨m,-,e|e⟩;cases g
  all_goals simp_all
 have:=h.1 i v hi g
 simp_all[AE.get,a2K]
def c6O(tk tk':List Nat)(U:AE)(av:AV):((r:RA)×r.ty.den)->Prop
 |⟨.v t,x⟩=>av=.val t x/\tk'=tk
 |⟨.o e,x⟩=>(∃n,av=.sref n []/\n∉tk/\tk'=n::tk/\U.rt n=some ⟨false,.list true e,x⟩)\/((av=.nils\/av=.empt)/\x=[]/\tk'=tk)
 |⟨.b t,x⟩=>∃n,av=.ptr n []/\n∉tk/\tk'=n::tk/\U.rt n=some ⟨true,t,x⟩
theorem d2Q{U:AE}{n i:Nat}{r:Option Root}{f:AV->AV}{av:AV}(h:U.get i=av)(g:f av=av):((U.mapv f).setRt n r).get i=av:=by
 grind[AE.get,AE.setRt,AE.mapv,SV.mapv]
theorem Rel.clear{B U N tm w M}(h:Rel B U N tm w M){n:Nat}{e:Ty}{l:List e.den}(hr:U.rt n=some ⟨false,.list true e,l⟩)(S:U.pd=none)(hn:n<pinned){v:Value}(hv:a0l (a0a w M.ov) M.g U.rt (Shr B w M) (.swin n [] 0 0) v):
  ∃M1,Rel B ((U.mapv (AV.drop n)).setRt n (some ⟨false,.list true e,([]:List e.den)⟩)) N tm w M1/\M1.g n=.one v:=by
 have Y:∃O,dec (a0a w M.ov) (.list true e) ((Src.one v).rd (a0a w M.ov))=some (([]:List e.den),O,[])/\(∀p∈O,p∈M.ow n)/\(O.map (·.1)).Nodup:=by
  obtain⟨H,R,t,-,h3⟩:=(h.roots n _ hr).rd;rcases h3 with⟨g,-⟩|⟨-,⟨v0,X⟩,-,ho⟩
  grind
  obtain⟨r,e',s,a,l',c,F,G,K,-,I,rfl,g5,g6⟩:=hv;rw[hr]at F;cases F;rw[X]at G t;have hs:Src.one v0=s:=by
   have:=Option.some.inj G
   simp_all
  subst hs;obtain rfl:v0=.slice a l' c:=by simpa[Src.rd]using K
  have t:a0Y (a0a w M.ov) true e.cells (dec (a0a w M.ov) e) (some (.slice a l' c))=some (l,H,R):=t;show ∃O,a0Y (a0a w M.ov) true e.cells (dec (a0a w M.ov) e) (some (.slice I 0 (c-0)))=_/\_
  by_cases z:c=0
  subst z;refine⟨[],?_,by simp,by simp⟩;cases I<;>simp[a0Y,a0j]<;>rfl
  ·cases a with
   |none=>simp_all[a0Y]
   |some A=>
    obtain rfl:I=some (A.add (0*e.cells)):=by simp_all
    have V:=(g5 _ rfl).resolve_left (by omega);rw[Nat.zero_mul]at V;simp only[a0Y]at t
    split at t
    split at t
    grind
    rename_i xs os rs Z;simp only[if_true]at t;simp at t;obtain⟨-,rfl,-⟩:=t;simp_all[a0Y,a0j,Addr.add];simp_all
 obtain⟨O,k1,k2,k3⟩:=Y
 let f:Nat->a1k:=fun m=>if m=n then O else M.ow m
 have d:∀m c,c∈(f m).map (·.1)->c∈(M.ow m).map (·.1):=fun m c z=>by
  grind
 have C:∀c,a0P ⟨fun m=>if m=n then .one v else M.g m,f,M.ov⟩ c->a0P M c:=fun c ⟨m,j⟩=>⟨m,d m c j⟩
 have E:∀c,Shr B w M c->Shr B w ⟨fun m=>if m=n then .one v else M.g m,f,M.ov⟩ c:=fun c ⟨a1,a2,a3⟩=>⟨a1,a2,fun g=>a3 (C c g)⟩
 have y:∀m,m≠n->((U.mapv (AV.drop n)).setRt n (some ⟨false,.list true e,([]:List e.den)⟩)).rt m=U.rt m:=fun m j=>by
  have:(m==n)=false:=by simp_all
  simp[AE.setRt,AE.mapv,this]
 have T:((U.mapv (AV.drop n)).setRt n (some ⟨false,.list true e,([]:List e.den)⟩)).rt n=some ⟨false,.list true e,([]:List e.den)⟩:=by simp[AE.setRt]
 refine⟨⟨fun m=>if m=n then .one v else M.g m,f,M.ov⟩,⟨fun m r j=>?_,fun m j=>?_,fun m=>?_,fun m m' Q c z L=>h.disj m m' Q c (d m c z) (d m' c L),fun m p hp=>?_,fun i hi=>(h.slots i hi).mapv fun a u ha=>?_,?_,h.size,h.frame,fun c z=>h.mine c (C c z),fun i b hb D=>?_,h.still⟩,by simp⟩
 by_cases e1:m=n
 subst e1;rw[T]at j;cases j;simp[f];exact⟨O,[],k1,by simp,.inr ⟨rfl,⟨v,rfl⟩,⟨e,rfl⟩,rfl⟩⟩;rw[y m e1]at j;simp[f,if_neg e1];obtain⟨H,R,F,G,K⟩:=(h.roots m r j).rd;exact⟨H,R,F,fun c z=>E c (G c z),K⟩
 by_cases e1:m=n
 simp_all;rw[y m e1]at j;simp[f,if_neg e1];exact h.norm m j
 by_cases e1:m=n
 grind
 simp[f,if_neg e1];exact h.nodup m
 by_cases e1:m=n
 simp[f,if_pos e1]at hp;exact h.live n p (k2 p hp);simp[f,if_neg e1]at hp;exact h.live m p hp
 ·by_cases hd:AV.drop n a=.dead
  rw[hd];trivial
  ·have P:AV.drop n a=a/\∀k q,(a=.ptr k q\/a=.sref k q\/∃o l,a=.swin k q o l)->k≠n:=by
    cases a<;>simp only[AV.drop]at hd|-<;>try (refine⟨trivial,?_⟩;rintro k q (h|h|⟨o,l,h⟩)<;>cases h)
    all_goals simp_all
   rw[P.1];exact ha.other E y (fun k P=>by grind) P.2
 ·have:=h.pend
  show b1j _ _ _ U.pd M.ov;rw[S]at this|-;cases hov:M.ov with
  |none=>trivial
  |some x=>rw[hov]at this;exact this.elim
 have:pinned+i≠n:=by omega
 rw[y _ this]at D;simp[if_neg this];exact h.pins i b hb D
def a7b(a:Nat->Value):ResultVar->Sem Value
 |.tmp t=>pure (a t)
 |.cell i t=>do loadVar t (<-asAddr (a i))
def b1I(N0:Nat):ResultVar ⊕ Option Nat->Bool
 |.inl (.tmp i)=>decide (i<N0)
 |.inl (.cell i _)=>decide (i<N0)
 |.inr _=>true
def b6v(P:Program)(B:Base)(w:World)(tm:Nat->Value)(u:Value):ResultVar ⊕ Option Nat->Prop
 |.inl r=>(a7b tm r).run P w=.ok u w
 |.inr none=>u=.slice none 0 0
 |.inr (some n)=>∀i b,n=pinned+i->B.pin i=some b->c1y b u
section
variable {P:Program} {B:Base} {N:Nat} {w:World} {cx:Cx} {Z:Type}
theorem d0i(h8:CxTy P cx){tm:Nat->Value}{N0:Nat}(L:N0<=N){U:AE}{M:Gh}(h:Rel B U N tm w M)(y:U.pd=none){tk:List Nat}{j:Nat}{r:RA}{v:ResultVar ⊕ Option Nat}(hv:b1I N0 v=true)
  {K:r.ty.den->AE->List Nat->Rs Z}{z:Z}(a:U.out cx tk j r v K=some z):
  ∃x F E tk1 av u,K x (F.set j av) tk1=some z/\Rel B F N tm w E/\F.pd=none/\a0l (a0a w E.ov) E.g F.rt (Shr B w E) av u/\b6v P B w tm u v/\c6O tk tk1 F av ⟨r,x⟩/\a3e tk U F/\
   ∀i,U.get i=.dead->F.get i=.dead:=by
 have s:∀(U:AE)(n:Nat)(f:AV->AV),f .dead=.dead->∀i,U.get i=.dead->((U.mapv f).setRt n none).get i=.dead:=fun U n f hf i hi=>by
  grind[AE.get,AE.setRt,AE.mapv,SV.mapv]
 cases r with
 |v t=>
  cases v with
  |inr n=>simp_all[AE.out]
  |inl rv=>
   cases rv with
   |tmp i=>
    simp[b1I]at hv;simp[AE.out]at a;rcases a0f a with⟨-,g⟩|⟨g4,a⟩
    grind
    have d:∀n∈(U.get i).viewed,n∉tk:=fun n hn hu=>by
     simp_all
    have q:=a3P h (a06 hv L);have g0:∃x F E,K x (F.set j (.val t x)) tk=some z/\Rel B F N tm w E/\VOk (a0a w E.ov) (Shr B w E) t x (tm i)/\F.pd=U.pd/\a3e tk U F/\∀i,U.get i=.dead->F.get i=.dead:=by

     let K':t.den->AE->Rs Z:=fun x U'=>K x (U'.set j (.val t x)) tk
     cases D:U.get i with
     |glob g=>
      simp_all[AE.asV]
     |val Q x=>
      rw[D]at a q;simp[AE.asV]at a
      split at a
      rename_i Y X;exact⟨Y,U,M,a,h,VOk.castTo X q,rfl,a3e.refl,fun _ g=>g⟩;simp_all
     |nils=>
      rw[D]at a q;cases t with
      |list o e=>
       cases o with
       |false=>
        obtain q:tm i=_:=q;exact⟨[],U,M,a,h,by rw[q];exact VOk.empty,rfl,a3e.refl,fun _ g=>g⟩
       |true=>simp_all[AE.asV]
      |nl e=>
       obtain q:tm i=_:=q;exact⟨_,U,M,a,h,by simp_all[VOk.nil_nl],rfl,a3e.refl,fun _ g=>g⟩
      |_=>simp only[AE.asV]at a;cases a
     |empt=>
      rw[D]at a q;cases t with
      |list o e=>
       cases o with
       |false=>
        obtain⟨A,q⟩:=q;exact⟨[],U,M,a,h,by rw[q];exact VOk.empty,rfl,a3e.refl,fun _ g=>g⟩
       |true=>simp_all[AE.asV]
      |_=>simp only[AE.asV]at a;cases a
     |sref n p=>
      rw[D]at a q d;cases p with
      |cons=>simp_all[AE.asV]
      |nil=>
       simp[AE.asV]at a
       split at a
       ·rename_i e l C;obtain⟨h7,C⟩:=a0K C
        split at a
        ·rename_i ht;subst ht;have V:=h.sref_vok q C rfl;refine⟨_,_,_,a,h.frz C (by simp_all),V.frame (fun _ _ _=>rfl) (fun c hc=>?_),rfl,a3e.gone (d n (by simp[AV.viewed])) _ ?_,s U n _ rfl⟩;rcases hc with g|g;exact Rel.shr_gone c g;have G:a0P M c:=⟨n,g⟩;refine⟨h.lt G,.inr (h.mine c G),fun⟨m,H⟩=>?_⟩;have H:c∈(if m=n then[]else M.ow m).map (·.1):=H
         split at H
         simp_all;rename_i S;exact h.disj m n S c H g
         ·rintro av (g|⟨m,H,rfl|rfl⟩)
          cases av<;>first|rfl|cases g
          all_goals simp_all[AV.frz]
        simp_all
       simp_all
     |swin n p o k=>
      rw[D]at a q d;cases p with
      |cons=>simp_all[AE.asV]
      |nil=>
       simp[AE.asV]at a
       split at a
       ·rename_i e l C;obtain⟨h7,C⟩:=a0K C
        split at a
        ·rename_i ht;subst ht;have V:=h.swin_vok q C rfl;refine⟨_,_,_,a,h.frz C (by simp_all),V.frame (fun _ _ _=>rfl) (fun c hc=>?_),rfl,a3e.gone (d n (by simp[AV.viewed])) _ ?_,s U n _ rfl⟩;rcases hc with g|g;exact Rel.shr_gone c g;have G:a0P M c:=⟨n,g⟩;refine⟨h.lt G,.inr (h.mine c G),fun⟨m,H⟩=>?_⟩;have H:c∈(if m=n then[]else M.ow m).map (·.1):=H
         split at H
         simp_all;rename_i S;exact h.disj m n S c H g
         ·rintro av (g|⟨m,H,rfl|rfl⟩)
          cases av<;>first|rfl|cases g
          all_goals simp_all[AV.frz]
        simp_all
       simp_all
     |dead|skp|nilp|ptr|vptr=>rw[D]at a;cases a
    obtain⟨x,F,E,k1,k2,k3,k4,k5,k6⟩:=g0;exact⟨x,F,E,tk,.val t x,tm i,k1,k2,k4.trans y,k3,by rfl,⟨rfl,rfl⟩,k5,k6⟩
   |cell i Q=>
    simp[b1I]at hv;simp only[AE.out]at a;have q:=a3P h (a06 hv L)
    split at a
    ·rename_i n D;rw[D]at q;rcases a0f a with⟨-,g⟩|⟨d,a⟩
     grind
     have d:n∉tk:=by simp_all
     split at a
     ·rename_i hT;obtain⟨h9,hty⟩:=h8.T Q _ hT;obtain⟨u,F,E,I,h1,h2,h3,h4,h5⟩:=Rel.lod hty h9 h q a
      split at h4
      ·rename_i g5 x
       split at h4
       ·rename_i Y X;have h0:a0l (a0a w E.ov) E.g F.rt (Shr B w E) (.val t Y) u:=VOk.castTo X h3;have hu:(a7b tm (.cell i Q)).run P w=.ok u w:=by
         obtain⟨r',t1,b,off,-,-,g3⟩:=q;simp_all[Instr.loadAt,Instr.sureAddr,a7b,asAddr]
        rcases h5 with⟨rfl,rfl⟩|⟨-,m,H,rfl⟩;exact⟨Y,F,E,tk,.val t Y,u,h4,h2,y,h0,hu,⟨rfl,rfl⟩,a3e.refl,fun _ g=>g⟩
        ·cases H;refine⟨Y,_,E,tk,.val t Y,u,h4,h2,y,h0,hu,⟨rfl,rfl⟩,a3e.gone d _ ?_,s U n _ rfl⟩
         rintro av (g|⟨m,H,rfl|rfl⟩)
         cases av<;>first|rfl|cases g
         all_goals simp_all[AV.drop]
       simp_all
      simp_all
     simp_all
    simp_all
 |o e=>
  cases v with
  |inr n=>
   cases n with
   |none=>
    simp[AE.out]at a;exact⟨[],U,M,tk,.nils,.slice none 0 0,a,h,y,rfl,rfl,.inr ⟨.inl rfl,rfl,rfl⟩,a3e.refl,fun _ g=>g⟩
   |some n=>
    simp only[AE.out]at a;rcases a0f a with⟨-,g⟩|⟨d,a⟩
    grind
    have d:n∉tk:=by simp_all
    split at a
    rename_i e' x C
    split at a
    rename_i O;subst O;rcases h.src_of C with⟨g,-⟩|⟨-,u,e2,D,-⟩
    grind
    refine⟨x,U,M,n::tk,.sref n [],u,a,h,y,⟨_,e',.one u,C,by show some (_,M.g n)=_;grind,rfl⟩,fun i b' hn hb=>?_,.inl ⟨n,rfl,d,rfl,C⟩,a3e.refl,fun _ g=>g⟩;subst hn
    have:=h.pins i b' hb (by simp_all)
    rw[<-this,D];rfl;simp_all;simp_all
  |inl rv=>
   cases rv with
   |cell i Q=>simp_all[AE.out]
   |tmp i=>
    simp[b1I]at hv;have q:=a3P h (a06 hv L);simp only[AE.out]at a
    split at a
    rename_i n D;rw[D]at q;rcases a0f a with⟨-,g⟩|⟨d,a⟩
    grind
    have d:n∉tk:=by simp_all
    split at a
    rename_i e' l C
    split at a
    rename_i O;subst O;exact⟨l,U,M,n::tk,.sref n [],tm i,a,h,y,q,by rfl,.inl ⟨n,rfl,d,rfl,C⟩,a3e.refl,fun _ g=>g⟩;simp_all;simp_all;rename_i D;rw[D]at q;exact⟨[],U,M,tk,.nils,tm i,a,h,y,q,by rfl,.inr ⟨.inl rfl,rfl,rfl⟩,a3e.refl,fun _ g=>g⟩;rename_i D;rw[D]at q;exact⟨[],U,M,tk,.empt,tm i,a,h,y,q,by rfl,.inr ⟨.inr rfl,rfl,rfl⟩,a3e.refl,fun _ g=>g⟩;rename_i n D;rw[D]at q;rcases a0f a with⟨-,g⟩|⟨d,a⟩
    grind
    simp only[Bool.or_eq_false_iff,Bool.not_eq_false',dT]at d;have h6:n∉tk:=by simp_all
    split at a
    rename_i e' l C
    split at a
    rename_i O;subst O;obtain⟨E,k1,k2⟩:=h.clear (a0K C).2 y d.2 q;refine⟨[],_,E,n::tk,.sref n [],tm i,a,k1,y,⟨_,e',.one (tm i),by simp[AE.setRt];rfl,by show some (_,E.g n)=_;grind,rfl⟩,by rfl,.inl ⟨n,rfl,h6,rfl,by simp[AE.setRt]⟩,⟨fun i' I g1 g2=>?_,fun m H=>?_⟩,fun i' g=>?_⟩;have hd:AV.drop n I=I:=by
     rcases g2 with g|⟨m,H,rfl|rfl⟩;cases I<;>first|rfl|cases g
     have:(m==n)=false:=by grind
     simp[AV.drop,this]
     have:(m==n)=false:=by grind
     simp[AV.drop,this]
    exact d2Q g1 hd
    have:(m==n)=false:=by grind
    simp[AE.setRt,AE.mapv,this];exact d2Q g rfl;simp_all;simp_all;simp_all
 |b t=>
  cases v with
  |inr n=>
   cases n with
   |none=>simp_all[AE.out]
   |some n=>
   simp only[AE.out]at a;rcases a0f a with⟨-,g⟩|⟨d,a⟩
   grind
   have d:n∉tk:=by simp_all
   split at a
   rename_i Q x C
   split at a
   rename_i O;subst O;obtain⟨O',R,-,-,hc⟩:=(h.roots n _ C).rd;rcases hc with⟨-,b,hs,-⟩|⟨hb,-⟩;refine⟨x,U,M,n::tk,.ptr n [],.pointer (some ⟨b,0,none⟩),a,h,y,⟨_,Q,b,0,C,by show some (Q,M.g n)=_;grind,rfl⟩,fun i b' hn hb=>?_,⟨n,rfl,d,rfl,C⟩,a3e.refl,fun _ g=>g⟩;subst hn
   have:=h.pins i b' hb (by simp_all)
   rw[<-this,hs];exact⟨rfl,rfl⟩;simp_all;simp_all;simp_all
  |inl rv=>
   cases rv with
   |cell i Q=>simp_all[AE.out]
   |tmp i=>
    simp[b1I]at hv;have q:=a3P h (a06 hv L);simp only[AE.out]at a
    split at a
    rename_i n D;rw[D]at q;rcases a0f a with⟨-,g⟩|⟨d,a⟩
    grind
    have d:n∉tk:=by
     simp_all
    split at a
    rename_i Q x C
    split at a
    rename_i O;subst O;exact⟨x,U,M,n::tk,.ptr n [],tm i,a,h,y,q,by rfl,⟨n,rfl,d,rfl,C⟩,a3e.refl,fun _ g=>g⟩;simp_all;simp_all;simp_all
end
def e6T(U:AE)(av:AV)(o:Option Nat):((r:RA)×r.ty.den)->Prop
 |⟨.v t,x⟩=>av=.val t x/\o=none
 |⟨.o e,x⟩=>(∃n,o=some n/\av=.sref n []/\U.rt n=some ⟨false,.list true e,x⟩)\/(o=none/\(av=.nils\/av=.empt)/\x=[])
 |⟨.b t,x⟩=>∃n,o=some n/\av=.ptr n []/\U.rt n=some ⟨true,t,x⟩
theorem c6O.finK{tk tk':List Nat}{U U':AE}{av:AV}{i:Nat}(a:U.get i=av):∀{it:(r:RA)×r.ty.den},c6O tk tk' U av it->a3e tk' U U'->
  ∃o,e6T U' (U'.get i) o it/\(∀n∈tk,n∈tk')/\∀n,o=some n->n∉tk/\n∈tk'
 |⟨.v t,x⟩,⟨f,k⟩,hs=>by
  subst f;subst k;exact⟨none,⟨hs.1 i _ a (.inl rfl),rfl⟩,fun _ g=>g,by simp⟩
 |⟨.o e,x⟩,h,hs=>by
  rcases h with⟨n,rfl,k,rfl,c⟩|⟨f,k,rfl⟩;refine⟨some n,.inl ⟨n,rfl,hs.1 i _ a (.inr ⟨n,by simp,.inl rfl⟩),(hs.2 n (by simp)).trans c⟩,fun m g=>a04 _ g,?_⟩;simp_all;refine⟨none,.inr ⟨rfl,?_,k⟩,fun _ g=>g,by simp⟩;rw[hs.1 i av a (.inl (by rcases f with rfl|rfl<;>rfl))];omega
 |⟨.b t,x⟩,⟨n,f,k,h3,c⟩,hs=>by
  subst f;subst h3;refine⟨some n,⟨n,rfl,hs.1 i _ a (.inr ⟨n,by simp,.inr rfl⟩),(hs.2 n (by simp)).trans c⟩,fun m g=>a04 _ g,?_⟩;simp_all
section
variable {P:Program} {B:Base} {w:World} {cx:Cx} {Z:Type}
theorem Rel.ext_slot{N:Nat}{tm:Nat->Value}{U:AE}{M:Gh}(h:Rel B U N tm w M){av:AV}{u:Value}(hv:a0l (a0a w M.ov) M.g U.rt (Shr B w M) av u):Rel B (U.set N av) (N+1) (fun i=>if i=N then u else tm i) w M:=by
 refine⟨h.roots,h.norm,h.nodup,h.disj,h.live,fun i hi=>?_,h.pend,h.size,h.frame,h.mine,h.pins,h.still⟩;rw[a2K]
 by_cases e:i=N
 rw[if_pos e,if_pos e];exact hv;rw[if_neg e,if_neg e];exact h.slots i (by omega)
theorem b6v.congr{tm tm':Nat->Value}{N0:Nat}{u:Value}{v:ResultVar ⊕ Option Nat}(hv:b1I N0 v=true)(h:b6v P B w tm u v)(g:∀i,i<N0->tm' i=tm i):b6v P B w tm' u v:=by
 cases v with
 |inr n=>cases n<;>exact h
 |inl r=>
  cases r with
  |tmp i=>
   simp[b1I]at hv;simp only[b6v,a7b]at h|-;simp_all
  |cell i t=>
   simp[b1I]at hv;simp only[b6v,a7b]at h|-;simp_all
structure Outd (P:Program) (B:Base) (w:World) (N0 N:Nat) (tm:Nat->Value) (tk:List Nat) (U U':AE) (M':Gh) (rs:List RA) (vs:List (ResultVar ⊕ Option Nat)) (y:(a2f (rs.map RA.ty)).den) (us:List Value) (tm':Nat->Value) (ns:List (Option Nat)):Prop where
 lu:us.length=rs.length
 lv:vs.length=rs.length
 ln:ns.length=rs.length
 rel:Rel B U' (N+rs.length) tm' w M'
 pd:U'.pd=none
 low:∀i,i<N->tm' i=tm i
 high:∀(k:Nat) u,us[k]?=some u->tm' (N+k)=u
 stay:a3e tk U U'
 comes:∀(k:Nat) v u,vs[k]?=some v->us[k]?=some u->b6v P B w tm u v
 fin:∀(k:Nat) it o,(a2r rs y)[k]?=some it->ns[k]?=some o->e6T U' (U'.get (N+k)) o it
 names:∀(k n:Nat),ns[k]?=some (some n)->n∉tk/\∀k':Nat,ns[k']?=some (some n)->k'=k
theorem c6P(e:CxTy P cx){N0:Nat}:∀(rs:List RA)(vs:List (ResultVar ⊕ Option Nat)) {U:AE} {M:Gh} {N:Nat} {tm:Nat->Value} {tk:List Nat} (_:N0<=N) (_:Rel B U N tm w M) (_:U.pd=none) (_:∀i,N<=i->U.get i=.dead)
  (_:∀v∈vs,b1I N0 v=true) {K:(a2f (rs.map RA.ty)).den->AE->Rs Z} {z:Z} (_:U.outs cx tk N rs vs K=some z),∃y p M' us j ns,K y p=some z/\Outd P B w N0 N tm tk U p M' rs vs y us j ns
 | [],vs,U,M,N,tm,tk,hN,h,hpd,hdead,hvs,K,z,hz=>by
  cases vs with
  |cons=>simp_all[AE.outs]
  |nil=>exact⟨(),U,M,[],tm,[],hz,⟨rfl,rfl,rfl,h,hpd,fun _ _=>rfl,by simp,a3e.refl,by simp,by simp,by simp⟩⟩
 | [r],vs,U,M,N,tm,tk,hN,h,hpd,hdead,hvs,K,z,hz=>by
  match vs,hvs with
  | [],_=>simp_all[AE.outs]
  |_::_::_,_=>simp_all[AE.outs]
  | [v],hvs=>
   simp[AE.outs]at hz;obtain⟨x,b,G,c,av,u,q,s,t,A,L,C,D,E⟩:=d0i e hN h hpd (hvs v (by simp)) hz;have a:(b.set N av).get N=av:=by simp[AE.get];rw[a2K,if_pos rfl]
   have Q:a3e c b (b.set N av):=a3e.refl.set (E N (hdead N (a24 _)));have d:c6O tk c (b.set N av) av ⟨r,x⟩:=C;obtain⟨o,H,g,V⟩:=d.finK a a3e.refl;refine⟨x,b.set N av,G,[u],_,[o],q,⟨rfl,rfl,rfl,s.ext_slot A,t,fun i hi=>if_neg (by omega),fun k m f=>?_,D.set (hdead N (a24 _)),fun k v' m f R=>?_,fun k it I f O=>?_,fun k n f=>?_⟩⟩
   all_goals grind[a2r]
 |r::r'::rs,vs,U,M,N,tm,tk,hN,h,hpd,hdead,hvs,K,z,hz=>by
  match vs,hvs with
  | [],_=>simp_all[AE.outs]
  |v::vs,hvs=>
   simp[AE.outs]at hz;obtain⟨x,b,G,c,av,u,q,s,t,A,L,C,D,E⟩:=d0i e hN h hpd (hvs v (by simp)) hz;have a:(b.set N av).get N=av:=by simp[AE.get];rw[a2K,if_pos rfl]
   have F:∀i,N+1<=i->(b.set N av).get i=.dead:=fun i hi=>by
    have:=E i (hdead i (by omega))
    simp[AE.get]at this|-;rw[a2K,if_neg (by omega)];omega
   obtain⟨y,p,M',us,j,ns,H,g⟩:=c6P e (r'::rs) vs (by omega:N0<=N+1) (s.ext_slot A) t F (fun v' S=>hvs v' (by simp_all)) q;have d:c6O tk c (b.set N av) av ⟨r,x⟩:=C;obtain⟨o,j1,j2,j3⟩:=d.finK a g.stay;refine⟨(x,y),p,M',u::us,j,o::ns,H,⟨by simp[g.lu],by simp[g.lv],by simp[g.ln],?_,g.pd,fun i hi=>?_,fun k m f=>?_,(D.set (hdead N (a24 _))).trans g.stay j2,fun k v' m f R=>?_,fun k it I f O=>?_,fun k n f=>?_⟩⟩
   have:=g.rel
   grind
   rw[g.low i (by omega),if_neg (by omega)]
   ·cases k with
    |zero=>
     simp at f;rw[<-f,Nat.add_zero,g.low N (by omega),if_pos rfl]
    |succ k=>
     have:=g.high k m (by simp_all)
     grind
   ·cases k with
    |zero=>
     simp_all
    |succ k=>
     have l:vs[k]?=some v':=by simp_all
     exact(g.comes k v' m l (by simp_all)).congr (hvs v' (by grind)) (fun i hi=>(if_neg (by omega)).symm)
   ·cases k with
    |zero=>
     simp_all[a2r]
    |succ k=>
     have:=g.fin k it I (by simpa[a2r]using f) (by simp_all)
     grind
   ·cases k with
    |zero=>
     simp at f;refine⟨(j3 n f).1,fun k' l=>?_⟩;cases k' with
     |zero=>rfl
     |succ k'=>exact absurd (j3 n f).2 (g.names k' n (by simp_all)).1
    |succ k=>
     obtain⟨a1,T⟩:=g.names k n (by simp_all)
     grind
end
theorem d5d{P:Program}{fn:Func}{a:Act}{w:World}{vr:List Value}(d:vr.length=fn.results.toList.length)
  (h:∀(k:Nat) r u,fn.results.toList[k]?=some r->vr[k]?=some u->(a7b (a0o a) r).run P w=.ok u w):(results fn a.tmps).run P w=.ok (b7s vr) w:=by
 have f:(fn.results.toList.mapM (a7b (a0o a))).run P w=.ok vr w:=d2P _ _ d h;have b:fn.results.mapM (a7b (a0o a))=Functor.map List.toArray (fn.results.toList.mapM (a7b (a0o a))):=by
  rw[<-List.mapM_toArray]
 have c:results fn a.tmps=(do
   let g <-fn.results.mapM (a7b (a0o a))
   pure (if h:g.size=1 then g[0]else .tuple g)):=by
  rfl
 rw[c,b];simp only[map_eq_pure_bind,bind_assoc,pure_bind,Sem.run_bind,f,Result.andThen_ok,Sem.run_pure,List.size_toArray];congr 1
 match vr with
 | []=>rfl
 | [u]=>rfl
 |_::_::_=>rfl
section
variable {P:Program} {B:Base} {w:World} {cx:Cx}
theorem Outd.back{N0 N:Nat}{tm:Nat->Value}{U U':AE}{M':Gh}{rs:List RA}{vs y us tm' ns}(h:Outd P B w N0 N tm [] U U' M' rs vs y us tm' ns):
  ∃C,Back B w (a2r rs y) us C:=by
 have Z:=h.rel.ov_none h.pd;have q:a0a w M'.ov=cells w:=by rw[Z];rfl
 let F:Option Nat->Value->Src×a1k:=fun o u=>match o with
  |some n=>(M'.g n,M'.ow n)
  |none=>(.one u,[])
 let C:=a51 F ns us
 have m:∀(k:Nat) L,C[k]?=some L->∃o u,ns[k]?=some o/\us[k]?=some u/\L=F o u:=fun k L hk=>by
  grind
 have a:∀L∈C,L.2=[]\/∃(k n:Nat),ns[k]?=some (some n)/\L.2=M'.ow n:=fun L d=>by
  obtain⟨k,hk⟩:=a43.1 d
  grind
 have D:∀c,Shr B w M' c->(c<w.heap.size/\(B.S c\/B.F c\/B.size<=c)/\∀L∈C,c∉L.2.map (·.1)):=fun c j=>⟨j.1,j.2.1,fun L d I=>by
  rcases a L d with g|⟨k,n,-,g⟩;simp_all;rw[g]at I;exact j.2.2 ⟨n,I⟩⟩
 have K:∀L∈C,∀c∈L.2.map (·.1),a0P M' c:=fun L d c j=>by
  rcases a L d with g|⟨k,n,-,g⟩;simp_all;rw[g]at j;exact⟨n,j⟩
 refine⟨C,⟨by rw[h.lu,a9W],by simp[C,h.lu,h.ln,a9W],fun k it u L Q hu d=>?_,fun L d=>?_,fun k k' L L' d M T c j O=>?_,fun L d p hp=>?_,fun L d c j=>h.rel.mine c (K L d c j),h.rel.size,h.rel.frame,h.rel.still⟩⟩
 ·obtain⟨o,u',X,E,rfl⟩:=m k L d;rw[hu]at E;simp at E;subst E;have l:=h.fin k it o Q X;have hk:k<rs.length:=by rw[<-h.lu];grind
  have i:=a3P h.rel (show N+k<N+rs.length by omega);rw[h.high k u hu,q]at i;obtain⟨r,x⟩:=it;cases r with
  |v t=>
   obtain⟨g1,rfl⟩:=l;rw[g1]at i;exact⟨VOk.frame i (fun _ _ _=>rfl) D,rfl⟩
  |o e=>
   rcases l with⟨n,rfl,z,H⟩|⟨rfl,z,rfl⟩;rw[z]at i;obtain⟨r',e',s,a1,G,a3⟩:=i;rw[H]at a1;simp at a1;subst a1;simp only[loc,a0U,sj,pJ]at G;obtain⟨-,rfl⟩:=G;have f:=h.rel.roots n _ H;rw[q]at f;refine⟨?_,f.mono D⟩;obtain⟨O',R,-,-,j⟩:=f.rd;rcases j with⟨hb,-⟩|⟨-,⟨v0,h0⟩,-,-⟩
   grind
   show M'.g n=.one u;simp_all[Src.rd]
   ·refine⟨rfl,⟨[],[],?_,by simp,.inr ⟨rfl,⟨_,rfl⟩,⟨e,rfl⟩,rfl⟩⟩⟩;show a0Y _ true e.cells (dec _ e) (some u)=some (([]:List e.den),[],[]);rcases z with z|z;rw[z]at i;have i:u=.slice none 0 0:=i;rw[i];rfl
    ·rw[z]at i;obtain⟨A,i⟩:=i;rw[i];cases A with
     |none=>rfl
     |some A=>rfl
  |b t=>
   obtain⟨n,rfl,z,H⟩:=l;rw[z]at i;obtain⟨r',t',b,o',a1,G,a3⟩:=i;rw[H]at a1;simp at a1;subst a1;simp[a0U]at G;obtain⟨rfl,G⟩:=G;have f:=h.rel.roots n _ H;rw[q]at f;refine⟨f.mono D,b,?_⟩;obtain⟨O',R,-,-,j⟩:=f.rd
   grind
 rcases a L d with g|⟨k,n,-,g⟩;simp_all;rw[g];exact h.rel.nodup n
 ·obtain⟨o,u,X,-,rfl⟩:=m k L d;obtain⟨o',u',Y,-,rfl⟩:=m k' L' M;cases o with
  |none=>grind
  |some n=>
   cases o' with
   |none=>grind
   |some n'=>
    have V:n≠n':=by
     rintro rfl
     exact T ((h.names k' n Y).2 k X)
    exact h.rel.disj n n' V c j O
 rcases a L d with g|⟨k,n,-,g⟩;simp_all;rw[g]at hp;exact h.rel.live n p hp
theorem b8o:∀(ps:List PA)(i0 i:Nat),i∈a0F ps i0->∃c a,ps[i-i0]?=some (.r c a)
 | [],_,_,h=>by simp[a0F]at h
 |.v _::ps,i0,i,h=>by
  have:=(b4S ps (i0+1)).2 i h
  obtain⟨c,a,g⟩:=b8o ps (i0+1) i h;exact⟨c,a,by rw[show i-i0=(i-(i0+1))+1 from by omega];simpa using g⟩
 |.r c a::ps,i0,i,h=>by
  rcases mC.1 h with rfl|h;exact⟨c,a,by simp⟩
  have:=(b4S ps (i0+1)).2 i h
  obtain⟨c,a,g⟩:=b8o ps (i0+1) i h;exact⟨c,a,by rw[show i-i0=(i-(i0+1))+1 from by omega];simpa using g⟩
def e2z(fn:Func)(c:Code)(H:Hints)(s:FSem):Bool:=
 a2z fn.ntmps c&&(H.fits fn.ntmps&&(decide (s.ps.length<=fn.ntmps)&&fn.results.toList.all fun r=>b1I fn.ntmps (.inl r)))
theorem b8p(o:CxTy P cx){fn:Func}{s:FSem}{y}{args:Array Value}(F:(fn.results.toList.all fun r=>b1I fn.ntmps (.inl r))=true){a':Act}{w':World}{M':Gh}{U':AE}(K:Rel B U' fn.ntmps (a0o a') w' M')(x:U'.pd=none)
  (H:(U'.upto fn.ntmps).outs cx [] fn.ntmps (RA.all s.ps s.rs) (fn.results.toList.map .inl++(a0F s.ps 0).map fun i=>.inr (b2I s.ps i)) (fun y _=>some y)=some y)
  (f:d1X B s.ps args):
  ∃v,(results fn a'.tmps).run P w'=.ok v w'/\∃vr D,Ending.returned v=.returned (b7s vr)/\vr.length=s.rs.length/\Back B w' (a2r (RA.all s.ps s.rs) y) (vr++(a0F s.ps 0).map (a4f s.ps args)) D:=by
 have C:Rel B (U'.upto fn.ntmps) fn.ntmps (a0o a') w' M':=K.weak fun i hi v hv=>by
  simp_all
 obtain⟨y',Q,O,us,N,ns,E,d⟩:=c6P (P:=P) (w:=w') (N0:=fn.ntmps) o _ _ (a24 _) C x (fun i hi=>by
   have:decide (i<fn.ntmps)=false:=by simp_all
   simp only[AE.get,AE.upto,this,cF]) (fun v hv=>by
   rcases mA.1 hv with hv|hv
   grind
   obtain⟨i,-,rfl⟩:=a20.1 hv;rfl) H
 simp at E;subst E;obtain⟨D,n⟩:=d.back;have t:=d.lv;simp only[RA.all,lN,List.length_map,b1E s.ps 0,Array.length_toList]at t;have q:=d.lu;simp[RA.all]at q;have L:fn.results.toList.length=s.rs.length:=by simp_all

 have M:us=us.take s.rs.length++(a0F s.ps 0).map (a4f s.ps args):=by
  have e:=List.take_append_drop s.rs.length us
  conv=>lhs;rw[<-e]
  congr 1;refine a55 fun k=>?_
  rw[List.getElem?_drop,a56];cases hk:(a0F s.ps 0)[k]? with
  |none=>
   simp_all[b1E]
  |some i=>
   have j:=(lS.1 hk).1;rw[b1E]at j;have A:=lG (show s.rs.length+k<us.length by omega);rw[A]
   simp
   have hv:(fn.results.toList.map Sum.inl++(a0F s.ps 0).map fun i=>Sum.inr (b2I s.ps i))[s.rs.length+k]?=some (Sum.inr (b2I s.ps i):ResultVar ⊕ Option Nat):=by
    simp_all[a34]
   have g:=d.comes _ _ _ hv A;have p:∃c,b5h s.ps i=some c:=by
    obtain⟨c,a,I⟩:=b8o s.ps 0 i (a29 hk);exact⟨c,b2A (by omega)⟩
   obtain⟨c,h⟩:=p;cases c with
   |true=>
    simp[b2I,h]at g;simp[a4f,h];exact g
   |false=>
    simp[b2I,h]at g;simp only[a4f,h];obtain⟨b,l,m⟩:=f i (a29 hk) h;exact c1y.uniq (g i b rfl l) m
 have G:(results fn a'.tmps).run P w'=.ok (b7s (us.take s.rs.length)) w':=by
  refine d5d (by grind) fun k r u z A=>?_
  have j:=(lS.1 z).1;refine d.comes k (.inl r) u ?_ ?_
  all_goals grind
 grind
theorem a5m.of(j:CxOk P cx)(R:P.follows .mixedOrders=true){f:FuncId}{fn:Func}{c:Code}{H:Hints}{s:FSem}(t:P.funcs[f]?=some fn)(hb:fn.body=some c)(m:e2z fn c H s=true)
  (r:∀x,a1c cx H fn s.ps s.rs x=s.F x):a5m P cx.G f s:=by
 simp only[e2z,bA9,dT]at m;obtain⟨l,N,T,o⟩:=m;intro w B M args x y L A X Q S q h b;rw[<-r x]at A;simp[a1c,hb]at A
 let a:Act:={ tmps:=args++a30 (fn.ntmps-args.size) undef,defers:=[] }
 have z:a.tmps.size=fn.ntmps:=by grind
 have d:Rel B (ini s.ps x) fn.ntmps (a0o a) w M:=by
  refine⟨h.roots,h.norm,h.nodup,h.disj,h.live,fun i hi=>?_,h.pend,h.size,h.frame,h.mine,h.pins,h.still⟩
  by_cases hlt:i<s.ps.length
  have:=h.slots i hlt
  have e:a0o a i=args.getD i undef:=by
   simp[a0o,a,a44];simp_all
  simp_all
  have:(ini s.ps x).sl i=.one .dead:=by
   simp_all[ini,a6p]
  rw[this];trivial
 refine calls_of_wp t hb (wp_mono ((wpIn_wide (n:=0)).1 (b1l (ro:=none) (D:=[]) j L R N c 1 l A d z rfl)) ?_)
 rintro e V w' ⟨I,E,M',rfl,p,U,Y,K⟩
 simp at p;have C:(∀i,I≠.exit i)/\E.pd=none/\(E.upto fn.ntmps).outs cx [] fn.ntmps (RA.all s.ps s.rs) (fn.results.toList.map .inl++(a0F s.ps 0).map fun i=>.inr (b2I s.ps i)) (fun y _=>some y)=some y:=by
  grind
 obtain⟨O,u,p⟩:=C;obtain⟨v,k,g⟩:=b8p (args:=args) j.toCxTy o U u p b;cases I with
 |exit i=>simp_all
 |normal=>exact⟨K,_,k,g⟩
 |ret=>exact⟨K,_,k,g⟩
end
end Go.Ab
namespace Go.Ab
open Go.ChangeShapes Go.WideShapes
def Wf:(t:Ty)->t.den->Prop
 |.int k,n=>(Lit.int k n).wf=true
 |.str,l=>∀b∈(show List Int from l),0<=b/\b<=255
 |.list _ t,l|.nl t,l=>∀x∈(show List t.den from l),Wf t x
 |.arr n t,l=>(show List t.den from l).length=n/\∀x∈(show List t.den from l),Wf t x
 |.pair a b,x=>Wf a x.1/\Wf b x.2
 |.bool,_|.unit,_=>True
def a3T:(t:Ty)->t.den->Nat
 |.str,l=>(show List Int from l).length+1
 |.list _ t,l|.nl t,l=>1+((show List t.den from l).map (a3T t)).sum
 |.arr _ t,l=>((show List t.den from l).map (a3T t)).sum
 |.pair a b,x=>a3T a x.1+a3T b x.2
 |.unit,_=>0
 |.int _,_|.bool,_=>1
structure Bulk {H:Type} (bulk:DataW H->Nat):Prop where
 one:∀d,1<=bulk d
 str:∀bs,bulk (.lit (.string bs))=bs.length+1
 slice:∀es sp,(es.map bulk).sum+1<=bulk (.slice es sp)
 agg:∀ps,(ps.map bulk).sum<=bulk (.agg ps)
def b3S:Ty->Bool
 |.list o e=>b3S e&&!o
 |.nl _=>false
 |.pair a b=>b3S a&&b3S b
 |.arr _ t=>b3S t
 |_=>true
theorem b9W{α:Type}{f:Nat->Option (α×a1k×List Nat)}{p:α->Prop}{q:Nat->Prop}{g:α->Nat}{b:Nat->Nat}:∀(n i:Nat),(∀j,j<n->∃x R,f (i+j)=some (x,[],R)/\p x/\g x<=b (i+j)/\∀c∈R,q c)->
  ∃k Rs,a0j f n i=some (k,[],Rs)/\(∀x∈k,p x)/\(k.map g).sum<=((a35 i n).map b).sum/\∀c∈Rs,q c
 |0,_,_=>⟨[],[],rfl,by simp,by simp,by simp⟩
 |n+1,i,h=>by
  obtain⟨x,R,a,r,d,s⟩:=h 0 (by omega);obtain⟨k,Rs,e,l,m,o⟩:=b9W n (i+1) (fun j u=>by
   have:=h (j+1) (by omega)
   rwa [show i+(j+1)=i+1+j from by omega]at this)
  rw[Nat.add_zero]at a d;refine⟨x::k,R++Rs,by simp_all[a0j],fun y v=>?_,?_,fun c t=>?_⟩
  grind
  all_goals grind[List.range'_succ]
section
variable {H:Type} {enc:TypeId×Value->H} {P:Program} {w:World} {base:Nat} {sp:Nat->Bool} {held:Bool} {bulk:DataW H->Nat}
theorem b2O{τ:Ty}{t:TypeId}(h:a0u P τ (.inl t)=true):P.cellsOf t=τ.cells:=by
 have:=a0L h
 unfold a5R at this;unfold Program.cellsOf
 grind
theorem d6F{a:Addr}{v:Value}(h:w.cell? a=some v):a.block<w.heap.size:=by
 grind[World.cell?]
theorem e6U(hb:Bulk bulk)(hs:∀b,sp b=true):∀(t:Ty),
  (∀(T:TypeId)(n:Nat)(cs:List Value) y,a0u P t (.inl T)=true->b3S t=true->DataW.trod enc P w base sp held n T cs=some y->
   ∃x R,dec (cells w) t (fun j=>cs[j]?)=some (x,[],R)/\Wf t x/\a3T t x<=bulk y.1/\∀c∈R,c<w.heap.size)/\
  (∀(fs:List Field)(off n:Nat)(cs:List Value)(l:List (DataW H×List MemPlace)),a0u P t (.inr (fs,off))=true->b3S t=true->l.length=fs.length->
   (∀(i:Nat)(f:Field),fs[i]?=some f->DataW.trod enc P w base sp held n f.type ((cs.drop f.offset).take (P.cellsOf f.type))=l[i]?)->
   ∃x R,dec (cells w) t (fun j=>cs[off+j]?)=some (x,[],R)/\Wf t x/\a3T t x<=((l.map (·.1)).map bulk).sum/\∀c∈R,c<w.heap.size):=by
 intro t
 induction t with
 |int k=>
  refine⟨fun T n cs y d _ h=>?_,fun fs off n cs l d=>by simp[a0u]at d⟩;obtain⟨m,rfl,rfl,hw⟩:=DataW.trod_int (b2i d) h;exact⟨m,[],by simp[dec],hw,hb.one _,by simp⟩
 |bool=>
  refine⟨fun T n cs y d _ h=>?_,fun fs off n cs l d=>by simp[a0u]at d⟩;have I:P.underlying T=some .bool:=by
   simp[a0u]at d
   grind
  obtain⟨m,rfl,rfl⟩:=DataW.trod_bool I h;exact⟨m,[],by rfl,trivial,hb.one _,by simp⟩
 |str=>
  refine⟨fun T n cs y d _ h=>?_,fun fs off n cs l d=>by simp[a0u]at d⟩;have I:P.underlying T=some .string:=by
   simp[a0u]at d
   grind
  obtain⟨s,rfl,rfl,-⟩:=DataW.trod_string I h;refine⟨_,[],by rfl,fun b g6=>?_,?_,by simp⟩;obtain⟨u,-,rfl⟩:=a20.1 g6
  have:=u.toNat_lt
  omega;rw[hb.str];simp[a3T]
 |unit=>
  refine⟨fun T n cs y d _ h=>⟨(),[],rfl,trivial,Nat.zero_le _,by simp⟩,fun fs off n cs l d _ _ _=>⟨(),[],rfl,trivial,Nat.zero_le _,by simp⟩⟩
 |pair a b iha ihb=>
  have O:(∀(fs:List Field)(off n:Nat)(cs:List Value)(l:List (DataW H×List MemPlace)),a0u P (.pair a b) (.inr (fs,off))=true->b3S (.pair a b)=true->l.length=fs.length->
   (∀(i:Nat)(f:Field),fs[i]?=some f->DataW.trod enc P w base sp held n f.type ((cs.drop f.offset).take (P.cellsOf f.type))=l[i]?)->
   ∃x R,dec (cells w) (.pair a b) (fun j=>cs[off+j]?)=some (x,[],R)/\Wf (.pair a b) x/\a3T (.pair a b) x<=((l.map (·.1)).map bulk).sum/\∀c∈R,c<w.heap.size):=by
   intro fs off n cs l d v hl Y;cases fs with
   |nil=>simp[a0u]at d
   |cons f r=>
    simp[a0u]at d;obtain⟨⟨⟨ho,g0⟩,B⟩,htb⟩:=d;simp[b3S]at v;cases l with
    |nil=>grind
    |cons x0 l=>
     have h0:=Y 0 f rfl;simp at h0;rw[b2O g0,ho]at h0;have h5:∀j,j<a.cells->((cs.drop off).take a.cells)[j]?=cs[off+j]?:=fun j G=>by
      grind
     obtain⟨x,R,C,E,S,L⟩:=iha.1 f.type n _ x0 g0 v.1 h0;obtain⟨y,R',k1,k2,k3,k4⟩:=ihb.2 r (off+a.cells) n cs l htb v.2 (by grind) (fun i f' hi=>by simpa using Y (i+1) f' (by grind));refine⟨(x,y),R++R',?_,⟨E,k2⟩,?_,fun c hc=>?_⟩;have e1:=a0y (m':=cells w) a (rd':=fun j=>cs[off+j]?) C (fun j G=>(h5 j G).symm) (fun _ _ _=>rfl)
     grind[dec]
     all_goals grind[a3T]
  refine⟨fun T n cs y d v h=>?_,O⟩;obtain⟨fs,I,g7⟩:∃fs:Array Field,P.underlying T=some (.struct fs)/\a0u P (.pair a b) (.inr (fs.toList,0))=true:=by
   simp[a0u]at d;obtain⟨-,d⟩:=d
   split at d
   rename_i fs I;refine⟨fs,I,?_⟩
   split at d
   rename_i f r hr;rw[hr];simp only[a0u,a52];omega
   grind
   grind
  obtain⟨l,m,-,rfl,hl,h9,Y⟩:=DataW.trod_struct I h;obtain⟨x,R,C,E,S,L⟩:=O fs.toList 0 m cs l g7 v (by omega) (fun i f hi=>Y i f (by grind));refine⟨x,R,?_,E,a15 S (hb.agg _),L⟩
  grind
 |list o e ih=>
  refine⟨fun T n cs y d v h=>?_,fun fs off n cs l d=>by simp[a0u]at d⟩;obtain⟨X,I,D,B⟩:=a1G d;simp[b3S]at v;obtain⟨k0,rfl⟩:=v;rcases DataW.trod_slice I h with⟨rfl,rfl⟩|⟨a,K,Z,elems,rest,m,-,rfl,rfl,k7,h7,k6,h8,h4,V,-⟩;exact⟨[],[],by rfl,by simp[Wf],by simp only[a3T];exact hb.one _,by simp⟩;have A:Z=0\/a.spot=none:=by
   by_cases hc0:Z=0
   omega;refine .inr ?_
   have one:∀{o:Nat}{z},o=0->(w.cells? base (a.add (o*P.cellsOf X)) (P.cellsOf X)).bind (DataW.trod enc P w base sp held m X)=some z->a.spot=none:=fun ho M=>by
    subst ho;obtain⟨Q,h2,-⟩:=a09.1 M;rw[b2O D]at h2;obtain⟨-,g9,U⟩:=World.cells?_some h2;have h3:=U 0 B;rw[Nat.zero_mul,Addr.add_zero',Addr.add_zero',lG (by omega)]at h3
    grind[World.cell?_spot]
   by_cases hl0:K=0
   obtain⟨k8,k5⟩:=V (hs _);have M:=k5 0 (by omega)
   grind
   have M:=h4 0 (by omega)
   grind
  have one:∀i,i<K->∃x R,dec (cells w) e (fun j=>cells w a.block (a.off+(i*e.cells+j)))=some (x,[],R)/\Wf e x/\a3T e x<=bulk ((elems.getD i (.nil,[])).1)/\(∀c∈R,c<w.heap.size)/\a.block<w.heap.size:=fun i hi=>by
   have M:=h4 i hi;rw[lG (by omega)]at M;obtain⟨Q,h2,h3⟩:=a09.1 M;rw[b2O D]at h2;obtain⟨-,g9,U⟩:=World.cells?_some h2;have A:a.spot=none:=A.resolve_left (by omega);obtain⟨x,R,C,E,S,L⟩:=ih.1 X m Q _ D k0 h3;have F:∀j,j<e.cells->cells w a.block (a.off+(i*e.cells+j))=Q[j]?:=fun j G=>by
    rw[<-U j G]
    have:a=⟨a.block,a.off,none⟩:=by rw[<-A]
    rw[this,add_plain,add_plain,Nat.add_assoc];rfl
   refine⟨x,R,a0y e C (fun j G=>F j G) (fun _ _ _=>rfl),E,by simp_all,L,?_⟩
   have:=F 0 B
   rw[lG (by omega)]at this;exact d6F (a:=⟨a.block,_,none⟩) this
  obtain⟨l,Rs,C,E,S,L⟩:=b9W (p:=Wf e) (q:=fun c=>c<w.heap.size) (g:=a3T e) (b:=fun i=>bulk ((elems.getD i (.nil,[])).1)) K 0 (fun j G=>by
   obtain⟨x,R,k1,k2,k3,k4,-⟩:=one j G;rw[a52];exact⟨x,R,k1,k2,k3,k4⟩)
  have N:((a35 0 K).map fun i=>bulk ((elems.getD i (.nil,[])).1)).sum=((elems.map (·.1)).map bulk).sum:=by
   rw[a50,Go.Deep.map_by_index elems (.nil,[]) (bulk∘(·.1)),h8,a25];rfl
  have g5:=hb.slice (elems.map (·.1)) (rest.map (·.1))
  by_cases hn:K=0
  subst hn;simp only[a0j,sj,pJ]at C;obtain⟨rfl,-,-⟩:=C;exact⟨[],[],by simp only[dec,a0Y,a27];rw[if_pos ⟨A,h7⟩];rfl,by simp[Wf],by grind[a3T],by simp⟩;refine⟨l,a.block::([]++Rs),?_,E,?_,fun c hc=>?_⟩;simp only[dec,a0Y,a27,A,h7,and_self,if_true,C,a03,if_false,if_neg hn,a53];rfl
  grind[a3T]
  rcases mC.1 hc with rfl|hc;obtain⟨_,_,_,_,_,_,h6⟩:=one 0 (by omega);omega
  grind
 |nl e ih=>grind[b3S]
 |arr n e ih=>
  refine⟨fun T f cs y d v h=>?_,fun fs off n cs l d=>by simp[a0u]at d⟩;obtain⟨X,I,D,B⟩:=b2f d;obtain⟨l,m,-,rfl,hl,h9,Y⟩:=DataW.trod_array I h;simp[b3S]at v;have one:∀i,i<n->∃x R,dec (cells w) e (fun j=>cs[i*e.cells+j]?)=some (x,[],R)/\Wf e x/\a3T e x<=bulk ((l.getD i (.nil,[])).1)/\∀c∈R,c<w.heap.size:=fun i hi=>by
   have M:=Y i hi;rw[lG (by omega),b2O D]at M;obtain⟨x,R,C,E,S,L⟩:=ih.1 X m _ _ D v M;refine⟨x,R,a0y e C (fun j G=>?_) (fun _ _ _=>rfl),E,by simp_all,L⟩;simp_all
  obtain⟨ys,Rs,C,E,S,L⟩:=b9W (p:=Wf e) (q:=fun c=>c<w.heap.size) (g:=a3T e) (b:=fun i=>bulk ((l.getD i (.nil,[])).1)) n 0 (fun j G=>by
   obtain⟨x,R,k1,k2,k3,k4⟩:=one j G;rw[a52];exact⟨x,R,k1,k2,k3,k4⟩)
  have N:((a35 0 n).map fun i=>bulk ((l.getD i (.nil,[])).1)).sum=((l.map (·.1)).map bulk).sum:=by
   rw[a50,Go.Deep.map_by_index l (.nil,[]) (bulk∘(·.1)),h9,a25];rfl
  refine⟨ys,Rs,by simp[dec];exact C,⟨a0W _ _ C,E⟩,?_,L⟩;simp[a3T];exact a15 (a15 S (Nat.le_of_eq N)) (hb.agg _)
end
end Go.Ab
namespace Go.Ab
open Go.ChangeShapes Go.WideShapes Go.RowKit
def d7Q(ps:List PA)(x:(a2f (ps.map PA.ty)).den):Prop:=∀it∈a0X ps x,Wf it.1.ty it.2
def c6Q(ps:List PA)(x:(a2f (ps.map PA.ty)).den):Nat:=((a0X ps x).map fun it=>a3T it.1.ty it.2).sum
def a9l(P:Program):List PA->List TypeId->Bool
 | [],[]=>true
 |.v t::ps,T::Ts=>a0u P t (.inl T)&&(b3S t&&(P.readableRec T&&(decide (T<P.types.size)&&a9l P ps Ts)))
 |_,_=>false
section
variable {H:Type} {enc:TypeId×Value->H} {P:Program} {w:World} {base:Nat} {sp:Nat->Bool} {held:Bool} {bulk:DataW H->Nat}
theorem d2R(hb:Bulk bulk)(s:∀b,sp b=true){t:Ty}{T:TypeId}{v:Value}{d:DataW H}{ps:List MemPlace}{r:Reach}{b0:Nat}(k:a0u P t (.inl T)=true)(o:b3S t=true)(f:Value.okWide P w r b0 T v)(h:DataW.Trod enc P w base sp held T v d ps):
  ∃x,VOk (cells w) (fun c=>c<w.heap.size) t x v/\Wf t x/\a3T t x<=bulk d:=by
 obtain⟨n,q⟩:=h;have i:t.isAgg=true->∃cs,v=.agg cs/\cs.size=P.cellsOf T/\Row.okWide P w r b0 T cs:=fun a=>by
  cases t<;>simp only[Ty.isAgg,a03]at a
  all_goals
   simp only[a0u,bA9]at k;obtain⟨-,k⟩:=k
   split at k
   rename_i e;simp only[Value.okWide,e]at f;omega;simp_all
 have one:t.isAgg=false->Cell.okWide P w r b0 T v:=fun a=>by
  cases t<;>simp only[Ty.isAgg,Bool.true_eq_false]at a
  all_goals
   simp only[a0u,bA9]at k;obtain⟨-,k⟩:=k
   split at k
   rename_i e;simp only[Value.okWide,e]at f;exact f;cases k
 have g:t.isAgg=false->a1A v=true:=fun a=>by
  have:=one a
  cases v<;>first|rfl|skip
  all_goals
   exfalso
   unfold Cell.okWide at this
   split at this<;>first|(rename_i p;cases p;done)|skip
   all_goals
    unfold Cell.ok at this;simp_all
 obtain⟨x,R,u,j,l,m⟩:=(e6U hb s t).1 T n v.cells.toList _ k o q;refine⟨x,⟨fun a=>?_,g,R,?_,m⟩,j,l⟩
 all_goals grind[b2O]
theorem d6G(hb:Bulk bulk)(z:∀b,sp b=true){r:Reach}{b0:Nat}:∀(ps:List PA)(Ts:List TypeId)(vs:List Value)(ds:List (DataW H)) (p:List MemPlace),a9l P ps Ts=true->(∀(j:Nat) T v,Ts[j]?=some T->vs[j]?=some v->Value.okWide P w r b0 T v)->
  DataW.TrodAll enc P w base sp held Ts vs ds p->
  ∃x:(a2f (ps.map PA.ty)).den,vs.length=ps.length/\d7Q ps x/\c6Q ps x<=(ds.map bulk).sum/\ds.length=ps.length/\
   ∀(k:Nat) it v,(a0X ps x)[k]?=some it->vs[k]?=some v->∃t y,it=⟨.v t,y⟩/\VOk (cells w) (fun c=>c<w.heap.size) t y v
 | [],[],vs,ds,p,_,_,h=>by
  obtain⟨rfl,rfl,rfl⟩:=trodAll_nil h;exact⟨(),rfl,by simp[d7Q,a0X],by simp[c6Q,a0X],rfl,by simp⟩
 | [.v t],T::Ts,vs,ds,p,hp,hv,h=>by
  simp only[a9l,bA9]at hp;obtain⟨l,m,-,-,s⟩:=hp;obtain⟨v,a,d,f,q,D,rfl,rfl,rfl,e,i⟩:=trodAll_cons h;cases Ts with
  |cons T' Ts=>simp[a9l]at s
  |nil=>
   obtain⟨rfl,rfl,rfl⟩:=trodAll_nil i;obtain⟨x,F,A,B⟩:=d2R hb z l m (hv 0 T v rfl rfl) e;refine⟨x,rfl,fun it g=>by obtain rfl:=List.mem_singleton.1 g;exact A,by simp[c6Q,a0X];exact B,rfl,fun k it u n o=>?_⟩;cases k with
   |zero=>
    simp[a0X]at n o
    grind
   |succ k=>simp_all
 |.v t::p'::ps,T::Ts,vs,ds,p,hp,hv,h=>by
  simp only[a9l,bA9]at hp;obtain⟨l,m,-,-,s⟩:=hp;obtain⟨v,a,d,f,q,D,rfl,rfl,rfl,e,i⟩:=trodAll_cons h;obtain⟨x,F,A,B⟩:=d2R hb z l m (hv 0 T v rfl rfl) e;obtain⟨y,l1,l2,C,I,K⟩:=d6G hb z (p'::ps) Ts a f D s (fun j T v G E=>hv (j+1) T v (by simp_all) (by simp_all)) i;refine⟨(x,y),by grind,fun it g=>?_,?_,by grind,fun k it u n o=>?_⟩;rcases mC.1 g with rfl|g;exact A;exact l2 it g;simp[c6Q,a0X]at C|-;exact Nat.add_le_add B C
  ·cases k with
   |zero=>
    simp[a0X]at n o
    grind
   |succ k=>grind[a0X]
 |.r _ _::_,_,_,_,_,hp,_,_=>by simp[a9l]at hp
 |.v _::_,[],_,_,_,hp,_,_=>by simp[a9l]at hp
 | [],_::_,_,_,_,hp,_,_=>by simp[a9l]at hp
theorem e0A(a:laidOutB P=true){W W':World}{sp':Nat->Bool}:∀(ps:List PA)(Ts:List TypeId)(vs:List Value)(ds:List (DataW H)) (p:List MemPlace),a9l P ps Ts=true->
  DataW.TrodAll enc P W base (fun _=>true) true Ts vs ds p->(∀q∈p,W.sameAt W' q)->(∀q∈p,sp' q.block=true)->DataW.TrodAll enc P W' base sp' true Ts vs ds p
 | [],[],vs,ds,p,_,h,_,_=>by
  obtain⟨rfl,rfl,rfl⟩:=trodAll_nil h;rfl
 |.v t::ps,T::Ts,vs,ds,p,hp,h,hs,hsp=>by
  simp[a9l]at hp;obtain⟨-,-,e,i,j⟩:=hp;obtain⟨v,k,d,f,q,l,rfl,rfl,rfl,b,c⟩:=trodAll_cons h;exact trodAll_cons_mk (WideElems.Trod_stays a e i b (fun x g=>hs x (a02 _ g)) (fun x g=>hsp x (a02 _ g)))
   (e0A a ps Ts k f l j c (fun x g=>hs x (a01 _ g)) (fun x g=>hsp x (a01 _ g)))
 |.r _ _::_,_,_,_,_,hp,_,_,_=>by simp[a9l]at hp
 |.v _::_,[],_,_,_,hp,_,_,_=>by simp[a9l]at hp
 | [],_::_,_,_,_,hp,_,_,_=>by simp[a9l]at hp
theorem c4o:∀(ps:List PA)(Ts:List TypeId)(i:Nat),a9l P ps Ts=true->a0F ps i=[]
 | [],_,_,_=>rfl
 |.v t::ps,T::Ts,i,h=>by
  simp only[a9l,bA9]at h;exact c4o ps Ts (i+1) h.2.2.2.2
 |.v _::_,[],_,h=>by simp[a9l]at h
 |.r _ _::_,_,_,h=>by simp[a9l]at h
theorem d2S{bulk:DataW H->Nat}(m:Bulk bulk){f:FuncId}{fn:Func}{s:FSem}{spec:ChangeSpec}{tb:TypeId}{N:Nat}{G:b0Z}(hF:a5m P G f s)(hl:laidOutB P=true)(u:a9l P s.ps fn.params.toList=true)
  (h7:s.rs=[.v .bool])(h8:fn.resultTypes=#[tb])(g0:P.underlying tb=some .bool)(d:spec.vars=[])(A:∀ds:List (DataW H),ds.length=s.ps.length->spec.fn H ds={ results:=[.lit (.bool true)],args:=ds })
  (O:∀x,d7Q s.ps x->c6Q s.ps x<=N->∃y,s.F x=some y/\(a2r (RA.all s.ps s.rs) y)[0]?=some ⟨.v .bool,true⟩)
  {W:World}{b0:Nat}{args:Array Value}{ds gs:List (DataW H)}{before:List MemPlace}{apart fresh handsOn:Bool}
  (D:∀g t x,G g=some ⟨t,x⟩->g<W.heap.size/\dec (a0a W none) t ((Src.at g 0).rd (a0a W none))=some (x,[],[]))
  (V:∀(j:Nat) t v,fn.params[j]?=some t->args[j]?=some v->Value.okWide P W .any b0 t v)(hW:DataW.Whole enc P fn.params.toList spec.vars apart W args.toList ds gs before)(hN:((ds++gs).map bulk).sum<=N):
  Calls P f args W fun e W'=>∃v,e=.returned v/\spec.post enc P fn apart fresh handsOn false W args v W':=by
 have h5:=hW.lt;have h0:=hW;obtain⟨p,q,hA,hV,rfl,g7,g9⟩:=hW;rw[d]at hV;obtain⟨rfl,rfl⟩:=trodVars_none hV;obtain⟨x,g1,g2,g3,g4,g5⟩:=d6G m (fun _=>rfl) s.ps fn.params.toList args.toList ds p u (fun j T v hT hv=>V j T v (by simp_all) (by simp_all)) hA;rw[a26]at hN;obtain⟨y,hy,o⟩:=O x g2 (a15 g3 hN);have h6:=c4o s.ps fn.params.toList 0 u
 let B:Base:={ size:=W.heap.size,hp:=fun b=>W.heap[b]?,F:=fun _=>False,S:=fun _=>True,io:=a2n W }
 let M:Gh:=⟨fun _=>.one undef,fun _=>[],none⟩
 have g6:∀n,(ini s.ps x).rt n=none:=fun n=>by
  cases hr:(ini s.ps x).rt n with
  |none=>rfl
  |some r=>
   obtain⟨i,c,a,y,-,hi,-⟩:=e0g hr;have K:=(lS.1 hi).1;rw[a6p,<-g1]at K;obtain⟨t,y',e,-⟩:=g5 i _ _ hi (lG K)
   grind
 have h9:args.size=s.ps.length:=by omega
 have U:Rel B (ini s.ps x) s.ps.length (fun i=>args.getD i undef) W M:=by
  refine⟨fun n r hr=>?_,fun n _=>rfl,fun n=>by grind,fun n n' _ c Z=>by grind,fun n p hp=>by grind,fun i hi=>?_,trivial,a24 _,fun b _ _=>rfl,fun c Z=>?_,fun i b hb=>?_,rfl⟩;simp_all;have h4:i<args.toList.length:=by omega
  have E:=lG h4;have I:i<(a0X s.ps x).length:=by simp_all[a6p]
  obtain⟨t,z,h1,C⟩:=g5 i _ _ (lG I) E;have he:args.getD i undef=args.toList[i]:=by
   simp_all
  simp only[ini,lG I,h1,he];exact VOk.valAV (VOk.frame C (fun _ _ _=>rfl) (fun c Z=>⟨Z,.inl trivial,fun⟨n,hn⟩=>by grind⟩));obtain⟨n,hn⟩:=Z
  grind
  simp_all
 refine(hF W B M args x y (fun g t z hg=>⟨(D g t z hg).1,trivial,fun h=>h,W,rfl,(D g t z hg).2⟩) hy rfl (fun _=>rfl) rfl h9 U (fun i hi _=>by simp_all)).mono ?_
 rintro e W' ⟨vr,Ls,rfl,X,l⟩
 rw[h7]at X;rw[h6,a53,a26]at l;obtain⟨v,rfl⟩:∃v,vr=[v]:=by
  match vr,X with
  | [v],_=>simp
 have Q:=l.ll;rw[<-l.lv]at Q;obtain⟨L,rfl⟩:∃L,Ls=[L]:=by
  match Ls,Q with
  | [L],_=>simp
 obtain⟨hv,-⟩:=l.ok 0 _ v L o rfl rfl;have hv:v=.bool true:=by
  obtain⟨-,C,R,Y,-⟩:=hv;have C:=C rfl;simp[dec]at Y
  split at Y
  rename_i b hb;simp at Y;obtain⟨rfl,-⟩:=Y;cases v<;>simp[a1A,Value.cells]at C hb
  grind
  simp_all
 subst hv;have k:∀b,b<W.heap.size->W'.heap[b]?=W.heap[b]?:=fun b hb=>l.frame b hb (fun h=>h);have w:=A ds g4;refine⟨_,rfl,ds,[],p++[],[],p,[],h0,?_,?_,?_,⟨?_,?_,fun i hi=>?_⟩,fun h=>by grind⟩;rw[a26,w,h8];exact trodAll_cons_mk (p:=[]) (p':=[]) (shut_bool g0 _) trodAll_mk0
 ·rw[a26,w];refine e0A hl s.ps _ _ _ _ u hA (fun q hq=>?_) (fun q hq=>by simp_all);have hb:=h5 q (by simp_all);cases q with
  |cell b off=>
   simp only[World.sameAt,World.cell?];rw[k b hb]
  |map b=>exact k b hb
 rw[a26,w,d];rfl
 have:=l.still
 grind[a2n]
 have:=l.still
 grind[a2n]
 grind
end
end Go.Ab
namespace Go.Ab
def a7F:Ty->List Field->Bool
 | .pair (.int _) b, f :: r => f.name != "_" && a7F b r
 | .pair .bool b, f :: r => f.name != "_" && a7F b r
 |.unit,[]=>true
 |_,_=>false
def e2A(P:Program)(τ:Ty)(t:TypeId):Bool:=
 !P.stoodInHeld t&&(!P.eqGuardType P.depth t&&(match P.underlying t with|some (.struct fs)=>a7F τ fs.toList|_=>false))
section
variable {P:Program} {w:World} {cx:Cx}
theorem a7G{τ:Ty}{t:TypeId}(g:a0u P τ (.inl t)=true)(f:τ.isAgg=false){xs:Array Value}{off:Nat}{v:Value}(hv:xs[off]?=some v):(part t xs off).run P w=.ok v w:=by
 have h:=a6w g w;simp_all[part]
theorem d2T{m:Mem}{d:Nat}{xs ys:Array Value}:∀(τ:Ty)(fs:List Field)(off:Nat),a0u P τ (.inr (fs,off))=true->a7F τ fs=true->∀{x y R o},dec m τ (fun j=>xs[off+j]?)=some (x,[],R)->dec m τ (fun j=>ys[off+j]?)=some (y,[],o)->
  (Op.eqFields (d+1) xs ys fs).run P w=.ok (eqT τ x y) w:=by
 have c:∀(a b:Ty)(off:Nat)(q:Array Value)(x:(Ty.pair a b).den) R,dec m (.pair a b) (fun j=>q[off+j]?)=some (x,[],R)->
   ∃R1 R2,dec m a (fun j=>q[off+j]?)=some (x.1,[],R1)/\dec m b (fun j=>q[off+a.cells+j]?)=some (x.2,[],R2):=by
  intro a b off q x R h;simp[dec]at h
  split at h
  grind
  rename_i M o1 L g
  split at h
  grind
  rename_i N o2 r2 E;obtain⟨D,h⟩:=Prod.mk.inj (Option.some.inj h);subst D;obtain⟨p,-⟩:=Prod.mk.inj (Prod.mk.inj (Option.some.inj h)).2;obtain⟨rfl,rfl⟩:=List.append_eq_nil_iff.1 p
  grind
 intro τ
 induction τ with
 |pair a b iha ihb=>
  intro fs off n l x y R o A B;cases fs with
  |nil=>simp[a0u]at n
  |cons f r=>
   simp[a0u]at n;obtain⟨⟨⟨p,i⟩,-⟩,htb⟩:=n;obtain⟨R1,R2,g,E⟩:=c a b off xs x R A;obtain⟨G,H,e,I⟩:=c a b off ys y o B;cases a with
   |int k=>
    simp[a7F]at l;simp[dec]at g e
    split at g
    rename_i K n1 v
    split at e
    rename_i C n2 z;rw[Option.ite_none_right_eq_some]at g e;obtain⟨rfl,g⟩:=g;obtain⟨rfl,e⟩:=e;have g:=Prod.mk.inj (Option.some.inj g);have e:=Prod.mk.inj (Option.some.inj e);have s:=a7G (w:=w) i rfl v;have t:=a7G (w:=w) i rfl z;have u:=run_equalIn_int (P:=P) w d f.type C C n1 n2 (b2i i);simp only[Op.eqFields,Sem.run_ite,ne_eq,l.1,not_false_eq_true,if_true,Sem.run_bind,p,s,t,u,Result.andThen_ok,eqT];rw[<-g.1,<-e.1];cases hb:n1==n2
    simp
    grind
    simp_all;simp_all
   |bool=>
    simp[a7F]at l;simp[dec]at g e;have F:P.underlying f.type=some .bool:=by
     simp[a0u]at i
     grind
    split at g
    rename_i n1 v
    split at e
    rename_i n2 z;have g:=Prod.mk.inj (Option.some.inj g);have e:=Prod.mk.inj (Option.some.inj e);have s:=a7G (w:=w) i rfl v;have t:=a7G (w:=w) i rfl z;have u:=run_equalIn_bool (P:=P) w d f.type n1 n2 F;simp only[Op.eqFields,Sem.run_ite,ne_eq,l.1,not_false_eq_true,if_true,Sem.run_bind,p,s,t,u,Result.andThen_ok,eqT];rw[<-g.1,<-e.1];cases hb:n1==n2
    simp
    grind
    simp_all;simp_all
   |_=>simp[a7F]at l
 |unit=>
  intro fs off n l x y R o A B;cases fs with
  |nil=>rfl
  |cons f r=>simp[a7F]at l
 |_=>intro fs off n l;simp[a7F]at l
theorem c5n.of{τ:Ty}{t:TypeId}(k:a0u P τ (.inl t)=true)(h:e2A P τ t=true):c5n P τ t:=by
 simp[e2A]at h;obtain⟨r,q,hp⟩:=h;intro m Sh x y u v w s z i hv
 split at hp
 ·rename_i fs f;have e:P.fieldsOf t=fs:=by simp_all[Program.fieldsOf]
  have g:τ.isAgg=true:=by cases τ<;>first|rfl|(simp[a7F]at hp)
  obtain⟨c,-,R,j,-⟩:=i;obtain⟨d,-,p,l,-⟩:=hv;obtain⟨o,rfl,-⟩:=c g;obtain⟨ys,rfl,-⟩:=d g;have hty:a0u P τ (.inr (fs.toList,0))=true:=by
   cases τ with
   |pair a b=>
    simp[a0u,f]at k;obtain⟨-,k⟩:=k
    split at k
    all_goals simp_all[a0u]
   |unit=>
    simp_all[a0u]
   |_=>simp[a7F]at hp
  have n:(Op.equalIn 10000 t (.agg o) (.agg ys)).run P w=.ok (eqT τ x y) w:=by
   grind[run_equalIn_struct,d2T,Value.cells]
  simp_all[run_eqGuard_agg,run_eql_struct,run_neq_struct]
 simp_all
def d7R(P:Program)(τ:Ty)(t:TypeId):Bool:=
 !P.eqGuardType P.depth t&&(match τ,P.underlying t with
  |.arr n (.int k),some (.array n' e)=>n'==n&&(P.cellsOf e==1&&((P.info? e).isSome&&a0u P (.int k) (.inl e)))
  |_,_=>false)
theorem c4p{d e:Nat}{k:IntKind}(g:a0u P (.int k) (.inl e)=true){xs ys:Array Value}{x y:List Int}(b:∀i (h:i<x.length),xs[i]?=some (.int k x[i]))(c:∀i (h:i<y.length),ys[i]?=some (.int k y[i])):
  ∀(is:List Nat),(∀i∈is,i<x.length/\i<y.length)->(Op.eqItems (d+1) e 1 xs ys is).run P w=.ok (is.all fun i=>x[i]?==y[i]?) w
 | [],_=>by rfl
 |i::is,h=>by
  obtain⟨f,a⟩:=h i (by simp);have l:=a7G (w:=w) g rfl (show xs[i*1]?=_ by rw[Nat.mul_one];exact b i f);have m:=a7G (w:=w) g rfl (show ys[i*1]?=_ by rw[Nat.mul_one];exact c i a);have n:=run_equalIn_int (P:=P) w d e k k x[i] y[i] (b2i g);have r:=c4p (d:=d) g b c is (fun j q=>h j (by grind));simp only[Op.eqItems,Sem.run_bind,l,m,n,Result.andThen_ok];have o:x[i]?=some x[i]:=lG f;have p:y[i]?=some y[i]:=lG a;cases hb:x[i]==y[i]
  all_goals simp_all
theorem d6H:∀(x y:List Int),x.length=y.length->((a28 x.length).all fun i=>x[i]?==y[i]?)=((a51 (fun(a b:Int)=>a==b) x y).all id)
 | [],[],_=>rfl
 |a::x,b::y,h=>by
  have g:=d6H x y (by simpa using h);rw[lC,List.range_succ_eq_map,a23,List.all_map,List.zipWith_cons_cons,a23,<-g];simp[Function.comp_def]
theorem c5n.ofArr{τ:Ty}{t:TypeId}(h:d7R P τ t=true):c5n P τ t:=by
 simp[d7R]at h;obtain⟨Y,h⟩:=h
 split at h
 rotate_left
 grind
 rename_i n k f e l;simp at h;obtain⟨rfl,M,hi,N⟩:=h;obtain⟨i,hi⟩:=a00.1 hi;intro m Sh x y u v w xo yo O hv;obtain⟨q,-,R,s,-⟩:=O;obtain⟨C,-,X,D,-⟩:=hv;obtain⟨K,rfl,-⟩:=q rfl;obtain⟨ys,rfl,-⟩:=C rfl;have g:∀{G:Array Value}{z:List Int}{R},dec m (.arr f (.int k)) (fun j=>(Value.agg G).cells[j]?)=some (z,[],R)->z.length=f/\∀i (h:i<z.length),G[i]?=some (.int k z[i]):=by
  intro G z R F;simp only[dec]at F;have H:z.length=f:=a0W f 0 F;refine⟨H,fun i c=>?_⟩;obtain⟨a,o,r,A,B,V,B',L,p,-⟩:=a0V f 0 i F (H▸c);have p:z[i]?=some (show Int from a):=p;have p:z[i]=(show Int from a):=Option.some.inj ((lG c).symm.trans p);simp[Ty.cells,Value.cells]at L
  grind
 obtain⟨E,Q⟩:=g s;obtain⟨T,S⟩:=g D;have U:(Op.equalIn 10000 t (.agg K) (.agg ys)).run P w=.ok (eqT (.arr f (.int k)) x y) w:=by
  rw[run_equalIn_array w 9999 K ys l hi,M,c4p (d:=9998) N Q S _ (fun j Z=>by simp_all)]
  have:=d6H x y (by omega)
  rw[E]at this;rw[this];have I:(a08 (show List Int from x)==a08 (show List Int from y))=true:=by simp_all
  show _=Result.ok ((a51 (fun(a b:Int)=>a==b) x y).all id&&(a08 (show List Int from x)==a08 (show List Int from y))) w;simp_all
 simp_all[run_eqGuard_agg,run_eql_struct,run_neq_struct]
theorem c1N{α:Type}:∀(l:List (Nat×α)) (t:Nat) (x:α),find l t=some x->(t,x)∈l
 | [],_,_,h=>by simp[find]at h
 |(k,y)::r,t,x,h=>by
  simp only[find]at h;rcases a0f h with⟨f,g⟩|⟨-,h⟩;simp only[sj]at g
  have:k=t:=by simpa using f
  rw[this,g];exact a18 ..;exact a04 _ (c1N r t x h)
def e4c(P:Program)(tab:List (Nat×Ty)):Bool:=tab.all fun p=>decide (p.2.sh=p.2)&&a0u P p.2 (.inl p.1)
def e4d(P:Program)(l:List Nat):Bool:=l.all fun t=>match P.underlying t with|some (.pointer _)=>true|_=>false
def e4e(P:Program)(tab:List (Nat×Ty))(l:List Nat):Bool:=l.all fun t=>match find tab t with|some τ=>!τ.isAgg || (e2A P τ t || d7R P τ t)|none=>true
theorem CxTy.of{tab:List (Nat×Ty)}{l q:List Nat}(g:∀t,cx.T t=find tab t)(b:∀t,cx.E t=l.contains t)(c:∀t,cx.Q t=q.contains t)(f:e4c P tab=true)(k:e4d P q=true)(a:e4e P tab l=true):CxTy P cx:=by
 have ok:∀t τ,cx.T t=some τ->τ.sh=τ/\a0u P τ (.inl t)=true:=fun t τ h=>by
  rw[g]at h
  have:=lA.1 f _ (c1N _ _ _ h)
  simp_all
 refine⟨ok,fun t d=>?_,fun t τ he hτ ha=>?_⟩;rw[c]at d
 have:=lA.1 k t (by simp_all)
 grind
 rw[b]at he
 have:=lA.1 a t (by simp_all)
 rw[<-g,hτ]at this;simp[ha]at this;exact this.elim (c5n.of (ok t τ hτ).2) c5n.ofArr
theorem CxOk.of{fs:List (Nat×FSem)}(h:CxTy P cx)(k:∀f,cx.C f=find fs f)(a:∀p∈fs,FOk P cx.G p.1 p.2):CxOk P cx:=
 ⟨h,fun f s g=>by
  rw[k]at g;exact a _ (c1N _ _ _ g)⟩
theorem a0{α:Type}{p:α->Prop}:∀x∈([]:List α),p x:=fun _ h=>by grind
theorem e0B{G:b0Z}{a:Nat×FSem}{l:List (Nat×FSem)}(h:FOk P G a.1 a.2)(f:∀x∈l,FOk P G x.1 x.2):∀x∈a::l,FOk P G x.1 x.2:=fun x g=>by
 rcases mC.1 g with rfl|g;exact h;exact f x g
theorem a1{G:b0Z}{a:Nat×FSem}{l:List (Nat×FSem)}(h:a5m P G a.1 a.2/\b6p P a.1)(g:∀x∈l,FOk P G x.1 x.2):∀x∈a::l,FOk P G x.1 x.2:=e0B (.inl h) g
theorem e5O{G:b0Z}{a:Nat×FSem}{l:List (Nat×FSem)}(h:d2C P G a.1 a.2)(g:∀x∈l,FOk P G x.1 x.2):∀x∈a::l,FOk P G x.1 x.2:=e0B (.inr h) g
end
def c1O{α:Type}(x:List α):Option (List α):=bif List.isEmpty x then b9F (some ([]:List α)) (bif lim (0+a08 x)then some (a42 [] x)else none)else(bif lim (0+a08 x)then some (a42 [] x)else none)
def b6w{α:Type}(x:List α):Option (List α):=bif lim (0+a08 x)then some x else none
theorem b9X{α:Type}(x:List α):c1O x=b6w x:=by
 unfold c1O b6w;cases x with
 |nil=>exact d7b _
 |cons a x=>rfl
section
variable {α:Type} {f f':Nat->Option (α×a1k×List Nat)}
theorem b6x:∀(n i:Nat){x},(∀j y,f j=some y->f' j=some y)->a0j f n i=some x->a0j f' n i=some x
 |0,_,_,_,h=>h
 |n+1,i,x,hf,h=>by
  simp only[a0j]at h|-
  split at h
  cases h;rename_i c o1 a g;rw[hf _ _ g];simp only[]
  split at h
  cases h;rename_i d os b k;rw[b6x n (i+1) hf k];exact h
end
theorem b0c{m m':Mem}(g:∀b j v,m b j=some v->m' b j=some v):∀(t:Ty){rd rd':Nat->Option Value}{x},(∀j v,rd j=some v->rd' j=some v)->dec m t rd=some x->dec m' t rd'=some x
 |.int k,rd,rd',x,hr,h=>by
  grind[dec]
 |.bool,rd,rd',x,hr,h=>by
  grind[dec]
 |.str,rd,rd',x,hr,h=>by
  grind[dec]
 |.unit,rd,rd',x,hr,h=>h
 |.pair a b,rd,rd',x,hr,h=>by
  simp only[dec]at h|-
  split at h
  cases h;rename_i s o1 q d;rw[b0c g a hr d];simp only[]
  split at h
  cases h;rename_i u o2 r2 e;rw[b0c g b (fun j v=>hr _ v) e];exact h
 |.arr n t,rd,rd',x,hr,h=>by
  simp only[dec]at h|-;exact b6x n 0 (fun j y f=>b0c g t (fun i v=>hr _ v) f) h
 |.list o t,rd,rd',x,hr,h=>by
  simp[dec]at h|-;unfold a0Y at h|-
  split at h
  simp_all;rename_i a n c hv;rw[hr _ _ hv]
  simp
  split at h
  rename_i p;rw[if_pos p]
  split at h
  grind
  rename_i w os r l;rw[b6x n 0 (fun j y f=>b0c g t (fun i v hv=>g _ _ _ hv) f) l];omega;simp_all;simp_all
 |.nl t,rd,rd',x,hr,h=>by
  grind[dec]
theorem Src.rd_grow{m m':Mem}(g:∀b j v,m b j=some v->m' b j=some v)(s:Src):∀j v,s.rd m j=some v->s.rd m' j=some v:=by
 intro j v h;cases s with
 |one u=>exact h
 |_=>exact g _ _ _ h
theorem b0d{m m':Mem}(f:∀b j v,m b j=some v->m' b j=some v):∀(p:a0C)(t:Ty)(s:Src){x},a0U m p t s=some x->a0U m' p t s=some x
 | [],t,s,x,h=>h
 |.fst::p,t,s,x,h=>by
  unfold a0U at h|-
  split at h
  exact b0d f p _ _ h;cases h
 |.snd::p,t,s,x,h=>by
  unfold a0U at h|-
  split at h
  exact b0d f p _ _ h;cases h
 |.idx i::p,t,s,x,h=>by
  unfold a0U at h|-
  split at h
  rename_i n k bl o
  split at h
  rename_i g;simp[if_pos g];exact b0d f p _ _ h;simp_all;rename_i k s'
  split at h
  rename_i a n c hv
  split at h
  rename_i g;simp[Src.rd_grow f s _ _ hv,if_pos g];exact b0d f p _ _ h;simp_all;simp_all;omega
structure Turns (B:Base) (w w':World):Prop where
 cells:∀(c:Nat)(o:Obj),w.heap[c]?=some o->o.isCells=true->w'.heap[c]?=some o
 size:w.heap.size<=w'.heap.size
 frame:∀b,b<B.size->w'.heap[b]?=w.heap[b]?
 io:a2n w'=a2n w
theorem d0j{w w':World}(h:∀(c:Nat)(o:Obj),w.heap[c]?=some o->o.isCells=true->w'.heap[c]?=some o)(g:Option (Nat×Nat×Value)):∀b j v,a0a w g b j=some v->a0a w' g b j=some v:=by
 have f:∀b j v,w.cell? ⟨b,j,none⟩=some v->w'.cell? ⟨b,j,none⟩=some v:=fun b j v hv=>by
  grind[cells_of_cell,World.cell?]
 intro b j v hv;cases g with
 |none=>exact f b j v hv
 |some y=>
  obtain⟨k,a,u⟩:=y;simp[a0a]at hv|-
  grind
theorem Rel.turnedG{B:Base}{U:AE}{N:Nat}{tm:Nat->Value}{w w':World}{M:Gh}(h:Rel B U N tm w M)(f:∀(c:Nat)(o:Obj),w.heap[c]?=some o->o.isCells=true->w'.heap[c]?=some o)
  (y:w.heap.size<=w'.heap.size):Rel { B with hp:=fun b=>w'.heap[b]?,io:=a2n w' } U N tm w' M:=by
 have u:=d0j f M.ov;have z:∀c,Shr B w M c->Shr { B with hp:=fun b=>w'.heap[b]?,io:=a2n w' } w' M c:=fun c A=>⟨a06 A.1 y,A.2⟩;have E:∀a v,a0l (a0a w M.ov) M.g U.rt (Shr B w M) a v->a0l (a0a w' M.ov) M.g U.rt (Shr { B with hp:=fun b=>w'.heap[b]?,io:=a2n w' } w' M) a v:=fun a v C=>by
  cases a with
  |val t x=>
   obtain⟨j,m,R,q,D⟩:=C;exact⟨j,m,R,b0c u t (fun _ _ hv=>hv) q,fun c A=>z c (D c A)⟩
  |vptr t x=>
   obtain⟨b,o,R,j,m,q,D⟩:=C;exact⟨b,o,R,j,b0c u t (Src.rd_grow u _) m,z b q,fun c A=>z c (D c A)⟩
  |ptr n p=>
   obtain⟨r,t,b,o,j,m,q⟩:=C;exact⟨r,t,b,o,j,b0d u p _ _ m,q⟩
  |sref n p=>
   obtain⟨r,e,s,j,m,q⟩:=C;exact⟨r,e,s,j,b0d u p _ _ m,Src.rd_grow u s _ _ q⟩
  |swin n p off len=>
   obtain⟨r,e,s,a,l,c,j,m,q,D⟩:=C;exact⟨r,e,s,a,l,c,j,b0d u p _ _ m,Src.rd_grow u s _ _ q,D⟩
  |_=>exact C
 refine⟨fun n r F=>?_,h.norm,h.nodup,h.disj,fun n p hp=>?_,fun i hi=>?_,?_,a15 h.size y,fun b _ _=>rfl,h.mine,h.pins,rfl⟩;obtain⟨H,R,I,K,L⟩:=(h.roots n r F).rd;exact⟨H,R,b0c u _ (Src.rd_grow u _) I,fun c A=>z c (K c A),L⟩;obtain⟨c,e,lo,hi,j,m,q⟩:=h.live n p hp;exact⟨c,e,lo,hi,f _ _ j rfl,m,q⟩
 ·have G:=h.slots i hi
  revert G
  cases U.sl i with
  |one a=>exact fun G=>E a _ G
  |cmp c as=>
   rintro⟨Q,j,m⟩
   exact⟨Q,j,fun k a S=>by
    grind⟩
 exact h.pend.mono fun n p d r e b o P F O=>⟨r,F,b0d u p _ _ O⟩
theorem Rel.turned{B:Base}{U:AE}{N:Nat}{tm:Nat->Value}{w w':World}{M:Gh}(h:Rel B U N tm w M)(f:Turns B w w'):Rel B U N tm w' M:=by
 have g:=h.turnedG f.cells f.size;exact⟨g.roots,g.norm,g.nodup,g.disj,g.live,g.slots,g.pend,g.size,fun b hb k=>(f.frame b hb).trans (h.frame b hb k),g.mine,g.pins,f.io.trans h.still⟩
def Base.anew(B:Base)(w:World)(M:Gh):Base where
 size:=w.heap.size
 hp:=fun b=>w.heap[b]?
 F:=a0P M
 S:=fun c=>(B.S c\/B.F c\/B.size<=c)/\¬ a0P M c
 pin:=fun i=>match B.pin i with
  |some b=>some b
  |none=>some (M.g (pinned+i))
 io:=a2n w
theorem e2B{B:Base}{w:World}{M:Gh}{c:Nat}:Shr (B.anew w M) w M c↔Shr B w M c:=by
 constructor
 rintro⟨f,h,g⟩
 refine⟨f,?_,g⟩;rcases h with h|h|h;exact h.1;exact absurd h g;have h:w.heap.size<=c:=h;omega
 rintro⟨f,h,g⟩
 exact⟨f,.inl ⟨h,g⟩,g⟩
theorem Rel.anew{B:Base}{U:AE}{N:Nat}{tm:Nat->Value}{w:World}{M:Gh}(h:Rel B U N tm w M):Rel (B.anew w M) U N tm w M:=by
 have e:Shr (B.anew w M) w M=Shr B w M:=funext fun c=>propext e2B;refine⟨fun n r a=>by rw[e];exact h.roots n r a,h.norm,h.nodup,h.disj,h.live,fun i hi=>by rw[e];exact h.slots i hi,h.pend,a24 _,fun b _ _=>rfl,fun c k=>.inl k,fun i b hb f=>?_,rfl⟩;simp[Base.anew]at hb
 split at hb
 rename_i d g;cases hb;exact h.pins i b g f;simp_all
theorem d2U{B:Base}{U0:AE}{N0:Nat}{tm0:Nat->Value}{w w':World}{M M':Gh}(g:Rel B U0 N0 tm0 w M){f:Nat->Option Src}{c:Nat}(b:Shr { B.anew w M with pin:=f } w' M' c):Shr B w' M' c:=by
 obtain⟨k,h,a⟩:=b;refine⟨k,?_,a⟩;rcases h with h|h|h;exact h.1;exact .inr (g.mine c h);have h:w.heap.size<=c:=h;exact .inr (.inr (a15 g.size h))
theorem Rel.backP{B:Base}{U0 U:AE}{N0 N:Nat}{tm0 tm:Nat->Value}{w w':World}{M M':Gh}{f:Nat->Option Src}(G:∀i b,B.pin i=some b->f i=some b)(d:Rel B U0 N0 tm0 w M)(h:Rel { B.anew w M with pin:=f } U N tm w' M'):Rel B U N tm w' M':=by
 have j:∀c,Shr { B.anew w M with pin:=f } w' M' c->Shr B w' M' c:=fun c e=>d2U d e;have l:∀a v,a0l (a0a w' M'.ov) M'.g U.rt (Shr { B.anew w M with pin:=f } w' M') a v->a0l (a0a w' M'.ov) M'.g U.rt (Shr B w' M') a v:=fun a v F=>
  F.frame (fun _ _ _=>rfl) j fun n p r t s _ u H=>⟨r,u,H,fun _ _ K=>K⟩
 refine⟨fun n r u=>?_,h.norm,h.nodup,h.disj,h.live,fun i hi=>?_,h.pend,a15 d.size h.size,fun b hb E=>?_,fun c e=>?_,fun i b hb o=>h.pins i b (G i b hb) o,h.still.trans d.still⟩;obtain⟨y,R,z,A,C⟩:=(h.roots n r u).rd;exact⟨y,R,z,fun c e=>j c (A c e),C⟩
 ·have x:=h.slots i hi
  revert x
  cases U.sl i with
  |one a=>exact fun x=>l a _ x
  |cmp c as=>
   rintro⟨L,D,O⟩
   exact⟨L,D,fun k a P=>by
    grind⟩
 ·have m:b<w.heap.size:=a06 hb d.size;have q:¬ a0P M b:=fun I=>by
   rcases d.mine b I with g|g
   all_goals grind
  exact(h.frame b m q).trans (d.frame b hb E)
 rcases h.mine c e with g|g;exact d.mine c g;have g:w.heap.size<=c:=g;exact .inr (a15 d.size g)
theorem Rel.back{B:Base}{U0 U:AE}{N0 N:Nat}{tm0 tm:Nat->Value}{w w':World}{M M':Gh}(g:Rel B U0 N0 tm0 w M)(h:Rel (B.anew w M) U N tm w' M'):Rel B U N tm w' M':=
 g.backP (f:=(B.anew w M).pin) (fun i b hb=>by simp_all[Base.anew]) h
theorem Rel.unpin{B:Base}{U:AE}{N:Nat}{tm:Nat->Value}{w:World}{M:Gh}(h:Rel B U N tm w M)(f:Nat->Option Src)(k:∀i b,f i=some b->B.pin i=some b):Rel { B with pin:=f } U N tm w M:=
 ⟨h.roots,h.norm,h.nodup,h.disj,h.live,h.slots,h.pend,h.size,h.frame,h.mine,fun i b hb g=>h.pins i b (k i b hb) g,h.still⟩
def AE.renAll{Z:Type}(U:AE):List Nat->(AE->Rs Z)->Rs Z
 | [],K=>K U
 |n::ns,K=>match U.look n,U.rt (pinned+1000+n)with
  |some r,none=>AE.renAll (((U.mapv (AV.ren n (pinned+1000+n))).setRt n none).setRt (pinned+1000+n) (some r)) ns K
  |_,_=>none
theorem Rel.renAll{Z:Type}{B:Base}{N:Nat}{tm:Nat->Value}{w:World}(f:∀i b,1000<=i->B.pin i≠some b):∀(ns:List Nat){U:AE}{M:Gh}{K:AE->Rs Z}{z:Z}(_:Rel B U N tm w M)(_:U.renAll ns K=some z),∃U' M',K U'=some z/\Rel B U' N tm w M'
 | [],U,M,K,z,h,hz=>⟨U,M,hz,h⟩
 |n::ns,U,M,K,z,h,hz=>by
  simp only[AE.renAll]at hz
  split at hz
  rename_i r k a;obtain⟨g,c⟩:=a0K k;exact Rel.renAll f ns (h.rename c a (fun i b e=>f i b (by omega)) (by simp[g])) hz;cases hz
def a1o:a0h->Bool
 | []=>true
 |.sv _ _::r=>a1o r
 |.box n _::r=>(decide (pinned<=n)&&!(a0h.names r).contains n)&&a1o r
 |.own _ n _::r=>(decide (pinned<=n)&&!(a0h.names r).contains n)&&a1o r
 |.ptr _ n []::r=>decide (pinned<=n)&&a1o r
 |_=>false
def d2V:SV->Prop
 |.one .dead=>True
 |.one (.val _ _)=>True
 |.one (.ptr n [])|.one (.sref n [])=>pinned<=n
 |_=>False
theorem b6d:∀(es:a0h)(x:es.ty.den)(_:a1o es=true)(i:Nat),d2V ((es.enc x).sl i)
 | [],_,_,i=>trivial
 |.sv k t::r,x,h,i=>by
  simp only[a0h.enc,a2K];split;trivial;exact b6d r x.2 (by simpa[a1o]using h) i
 |.box n t::r,x,h,i=>by
  simp only[a1o,bA9]at h;exact b6d r x.2 h.2 i
 |.own k n e::r,x,h,i=>by
  simp only[a1o,bA9,dT]at h;show d2V ((((a0h.enc r x.2).setRt n (some ⟨false,.list true e,x.1⟩)).set k (.sref n [])).sl i);rw[a2K];split;exact h.1.1;exact b6d r x.2 h.2 i
 |.ptr k n p::r,x,h,i=>by
  cases p with
  |cons=>simp[a1o]at h
  |nil=>
   simp[a1o]at h;simp[a0h.enc,a2K];split;exact h.1;exact b6d r x h.2 i
 |.vp _ _::_,_,h,_|.ref _ _ _::_,_,h,_|.rfi _ _::_,_,h,_|.win _ _ _::_,_,h,_|.clo _ _ _::_,_,h,_=>by simp[a1o]at h
theorem a5J:∀(es:a0h)(x:es.ty.den),(es.enc x).pd=none
 | [],_=>rfl
 |.sv _ _::r,x=>a5J r x.2
 |.box _ _::r,x=>a5J r x.2
 |.ptr _ _ _::r,x=>a5J r x
 |.own _ _ _::r,x=>a5J r x.2
 |.vp _ _::r,x=>a5J r x.2
 |.ref _ _ _::r,x=>a5J r x
 |.rfi _ _::r,x=>a5J r x.2
 |.win _ _ _::r,x=>a5J r x.2.2
 |.clo _ _ _::r,x=>a5J r x
theorem b8U:∀(es:a0h)(x:es.ty.den)(_:a1o es=true)(n:Nat),(es.enc x).rt n≠none->n∈es.names
 | [],_,_,n,h=>absurd rfl h
 |.sv k t::r,x,h,n,g=>b8U r x.2 (by simpa[a1o]using h) n g
 |.box m t::r,x,h,n,g=>by
  simp only[a1o,bA9]at h;simp only[a0h.enc,b3Q]at g
  split at g
  rename_i e;subst e;simp[a0h.names];simp only[a0h.names,mC];exact .inr (b8U r x.2 h.2 n g)
 |.own k m e::r,x,h,n,g=>by
  simp only[a1o,bA9]at h;have g:((a0h.enc r x.2).setRt m (some ⟨false,.list true e,x.1⟩)).rt n≠none:=g;rw[b3Q]at g
  split at g
  rename_i e;subst e;simp[a0h.names];simp only[a0h.names,mC];exact .inr (b8U r x.2 h.2 n g)
 |.ptr k m p::r,x,h,n,g=>by
  cases p with
  |cons=>simp[a1o]at h
  |nil=>
   simp[a1o]at h;exact b8U r x h.2 n g
 |.vp _ _::_,_,h,_,_|.ref _ _ _::_,_,h,_,_|.rfi _ _::_,_,h,_,_|.win _ _ _::_,_,h,_,_|.clo _ _ _::_,_,h,_,_=>by simp[a1o]at h
theorem b3T:∀(es:a0h)(x:es.ty.den)(_:a1o es=true){i n:Nat}(_:(es.enc x).sl i=.one (.sref n [])),n∈es.names/\∃e l,(es.enc x).rt n=some ⟨false,.list true e,l⟩
 | [],_,_,i,n,h=>by cases h
 |.sv k t::r,x,h,i,n,f=>by
  have f:((a0h.enc r x.2).set k (.val t x.1)).sl i=.one (.sref n []):=f;rw[a2K]at f
  split at f
  cases f;exact b3T r x.2 (by simpa[a1o]using h) f
 |.box m t::r,x,h,i,n,f=>by
  simp only[a1o,bA9,a57,a47,decide_eq_false_iff_not]at h;obtain⟨a,e,l,c⟩:=b3T r x.2 h.2 (i:=i) (n:=n) f;refine⟨by simp[a0h.names,a],e,l,?_⟩;show((a0h.enc r x.2).setRt m _).rt n=_;rw[b3Q,if_neg (show ¬ n=m from fun g=>h.1.2 (g▸a))];omega
 |.own k m e::r,x,h,i,n,f=>by
  simp only[a1o,bA9,a57,a47,decide_eq_false_iff_not]at h;have f:(((a0h.enc r x.2).setRt m (some ⟨false,.list true e,x.1⟩)).set k (.sref m [])).sl i=.one (.sref n []):=f;show n∈_/\∃b l,((a0h.enc r x.2).setRt m (some ⟨false,.list true e,x.1⟩)).rt n=some ⟨false,.list true b,l⟩;rw[a2K]at f;rw[b3Q]
  split at f
  cases f;exact⟨by simp[a0h.names],e,x.1,by simp⟩;obtain⟨a,b,l,c⟩:=b3T r x.2 h.2 (i:=i) (n:=n) f;exact⟨by simp[a0h.names,a],b,l,by grind⟩
 |.ptr k m p::r,x,h,i,n,f=>by
  cases p with
  |cons=>simp[a1o]at h
  |nil=>
   simp only[a1o,bA9]at h;have f:((a0h.enc r x).set k (.ptr m [])).sl i=.one (.sref n []):=f;rw[a2K]at f
   split at f
   grind
   exact b3T r x h.2 f
 |.vp _ _::_,_,h,_,_,_|.ref _ _ _::_,_,h,_,_,_|.rfi _ _::_,_,h,_,_,_|.win _ _ _::_,_,h,_,_,_|.clo _ _ _::_,_,h,_,_,_=>by simp[a1o]at h
section
variable {B:Base} {N:Nat} {w w':World} {M M':Gh} {U:AE}
theorem Rel.kept{tm':Nat->Value}{U':AE}(h:Rel (B.anew w M) U' N tm' w' M'){c:Nat}(f:Shr B w M c):w'.heap[c]?=w.heap[c]?/\Shr (B.anew w M) w' M' c:=by
 have k:c<(B.anew w M).size:=f.1;have a:¬ (B.anew w M).F c:=f.2.2;refine⟨h.frame c k a,a06 f.1 h.size,.inl f.2,fun b=>?_⟩;rcases h.mine c b with g|g
 all_goals grind
theorem VOk.kept{tm':Nat->Value}{U':AE}(h:Rel (B.anew w M) U' N tm' w' M')(k:M.ov=none)(g:M'.ov=none){t:Ty}{x:t.den}{v:Value}(hv:VOk (a0a w M.ov) (Shr B w M) t x v):
  VOk (a0a w' M'.ov) (Shr (B.anew w M) w' M') t x v:=
 hv.frame (fun c j f=>by rw[k,g];exact a1y none (h.kept f).1 j) fun c f=>(h.kept f).2
theorem Rel.again{tm tm':Nat->Value}{U':AE}(D:Rel B U N tm w M)(v:∀i,i<N->d2V (U.sl i))(H:U.pd=none)(h:Rel (B.anew w M) U' N tm' w' M')(A:U'.pd=none)
  (l:∀i n,i<N->U.sl i=.one (.ptr n [])\/U.sl i=.one (.sref n [])->U'.rt n≠none)(y:∀i n,i<N->U.sl i=.one (.sref n [])->∃u,M.g n=.one u):Rel (B.anew w M) { U' with sl:=U.sl } N tm w' M'/\∀i n,i<N->U.sl i=.one (.sref n [])->∃u,M'.g n=.one u:=by
 have G:=D.ov_none H;have z:=h.ov_none A;have d:∀n,pinned<=n->U.rt n≠none->U'.rt n≠none->M'.g n=M.g n:=fun n k E m=>by
  obtain⟨i,rfl⟩:∃i,n=pinned+i:=⟨n-pinned,by omega⟩;refine h.pins i _ ?_ m;simp[Base.anew];cases hp:B.pin i with
  |none=>rfl
  |some b'=>rw[D.pins i b' hp E]
 refine⟨⟨h.roots,h.norm,h.nodup,h.disj,h.live,fun i hi=>?_,h.pend,h.size,h.frame,h.mine,h.pins,h.still⟩,fun i n hi j=>?_⟩;rotate_left;have k:=v i hi;have K:=D.slots i hi;rw[j]at k K;obtain⟨r,e,s,E,-⟩:=K;rw[d n k (by simp_all) (l i n hi (.inr j))]
 grind
 have j:=D.slots i hi;have k:=v i hi;have l:=l i;have y:=y i;show b2e _ _ U'.rt _ (U.sl i) _
 revert j k l y
 cases U.sl i with
 |cmp c vs=>intro _ k;exact k.elim
 |one a=>
  cases a with
  |dead=>intro _ _ _ _;trivial
  |val t x=>intro j _ _ _;exact VOk.kept h G z j
  |ptr n p=>
   cases p with
   |cons=>intro _ k;exact k.elim
   |nil=>
    intro j k l _;obtain⟨r,t,b,o,E,m,F⟩:=j;have f:=l n hi (.inl rfl);have I:=d n k (by simp_all) f;obtain⟨q,f⟩:=a36.1 f;simp[a0U]at m;refine⟨q,q.t,b,o,f,?_,F⟩;show some (q.t,M'.g n)=_;simp_all
  |sref n p=>
   cases p with
   |cons=>intro _ k;exact k.elim
   |nil=>
    intro j k l y;obtain⟨u0,C⟩:=y n hi rfl;obtain⟨r,L,s0,E,m,F⟩:=j;have f:=l n hi (.inr rfl);have I:=d n k (by simp_all) f;simp[a0U]at m;rw[<-m.2,C]at F;rw[C]at I;obtain⟨q,f⟩:=a36.1 f;rcases h.src_of f with⟨-,b,g⟩|⟨-,u,e,g,O⟩;simp_all;refine⟨q,e,.one u0,f,?_,F⟩;show some (q.t,M'.g n)=_;simp_all
  |_=>intro _ k;exact k.elim
end
def e0C{Z:Type}(s:a0h)(x:s.ty.den)(U:AE)(K:s.ty.den->Rs Z):Rs Z:=match U.pd with
 |none=>bif s.names.all (fun n=>(U.rt n).isSome)then s.dcd { U with sl:=(s.enc x).sl } K else none
 |some _=>none
def a8i{α S R:Type}(f:Int->α->S->Option (S ⊕ R))(l:List α):Nat->S->Option (S ⊕ R)
 |0,s=>some (.inl s)
 |n+1,s=>match l[n]? with
  |none=>none
  |some v=>match f n v s with
   |none=>none
   |some (.inl s')=>a8i f l n s'
   |some (.inr r)=>some (.inr r)
def rnd(cx:Cx)(H:Hints)(p:Nat)(s:a0h)(i1 i2:Nat)(assign body:Code)(e:Ty)(k:Int)(v:e.den)(x:s.ty.den):Option (s.ty.den ⊕ (Ex×s.ty.den)):=
 a1X cx H assign (2*p) (((s.enc x).set i1 (.val (.int .i64) k)).set i2 (.val e v)) fun ex U=>match ex with
  |.normal=>match U.pd with
   |none=>bif s.names.all (fun n=>(U.rt n).isSome)then
     a1X cx H body (2*p+1) U fun ex U'=>e0C s x U' fun x'=>match ex with
      |.normal=>some (.inl x')
      |ex=>some (.inr (ex,x'))
    else none
   |some _=>none
  |_=>none
structure HintR where
 t:Nat
 e:Ty
 mkr:Nat
 it:Nat
 ns:List Nat
 s:a0h
structure RParts where
 ops:Array Oper
 b:Nat
 g:Nat
 i1:Nat
 i2:Nat
 assign:Code
 body:Code
def b8V:Code->Code->Option RParts
 |.region _ ops false,.block b (.rangeFunc (.tmp g) ps assign body)=>match ps.toList with
  | [i1,i2]=>some ⟨ops,b,g,i1,i2,assign,body⟩
  |_=>none
 |_,_=>none
def c8L(o:Oper)(r:HintR)(g:Nat):Bool:=match o.op with
 |.call c=>(match c.callee,c.args.toList with
  |.value (.func f),[.tmp t]=>f==r.mkr&&t==r.t&&(o.dst==some g)&&o.guard.isNone
  |_,_=>false)
 |_=>false
def d7S{t e:Ty}(h:t=.list false e)(l:t.den):List e.den:=(h▸l:(Ty.list false e).den)
def d2W{Z:Type}(cx:Cx)(H:Hints)(r:HintR)(q:RParts)(p:Nat)(U:AE)(K:Ex->AE->Rs Z):Rs Z:=
 match q.ops.toList with
 | [mv,cl]=>bif c8L cl r q.g&&(a1o r.s&&mv.guard.isNone)then
   aop cx false mv U fun U1=>match U1.pd with
    |some _=>none
    |none=>(U1.set q.g .dead).renAll r.ns fun U2=>r.s.dcd U2 fun x=>match (r.s.enc x).get r.t with
     |.val t l=>if h:t=.list false r.e then
       (bif lim (a08 (d7S h l))then(a8i (rnd cx H (2*p+1) r.s q.i1 q.i2 q.assign q.body r.e) (d7S h l) (a08 (d7S h l)) x).bind fun y=>match y with
        |.inl x'=>K .normal (r.s.enc x')
        |.inr (.normal,x')=>K .normal (r.s.enc x')
        |.inr (.exit i,x')=>bif i==q.b then K .normal (r.s.enc x')else K (.exit i) (r.s.enc x')
        |.inr (.ret,x')=>K .ret (r.s.enc x')
       else none)
      else none
     |_=>none
  else none
 |_=>none
def b0e:Code->Bool
 |.seq a b=>b0e a || b0e b
 |.cond _ a b=>b0e a || b0e b
 |.block _ c|.loop c=>b0e c
 |.rangeFunc _ _ _ _=>true
 |_=>false
def b8W(cx:Cx)(H:Hints)(r:HintR):Code->Nat->{Z:Type}->AE->(Ex->AE->Rs Z)->Rs Z
 |.seq a b,p,_,U,K=>match b8V a b with
  |some q=>d2W cx H r q p U K
  |none=>bif b0e a then b8W cx H r a (2*p) U fun e U'=>match e with
    |.normal=>a1X cx H b (2*p+1) U' K
    |e=>K e U'
   else a1X cx H a (2*p) U fun e U'=>match e with
    |.normal=>b8W cx H r b (2*p+1) U' K
    |e=>K e U'
 |c,p,_,U,K=>a1X cx H c p U K
def d2d(cx:Cx)(H:Hints)(r:HintR)(fn:Func)(ps:List PA)(rs:List RA)(x:(a2f (ps.map PA.ty)).den):Option (a2f ((RA.all ps rs).map RA.ty)).den:=
 match fn.body with
 |none=>none
 |some body=>b8W cx H r body 1 (ini ps x) fun e U=>match e,U.pd with
  |.exit _,_=>none
  |_,some _=>none
  |_,none=>(U.upto fn.ntmps).outs cx [] fn.ntmps (RA.all ps rs) (fn.results.toList.map .inl++(a0F ps 0).map fun i=>.inr (b2I ps i)) fun y _=>some y
section
variable {P:Program} {B:Base} {N:Nat} {cx:Cx} {H:Hints} {w w':World} {M M':Gh} {U U':AE} {tm tm':Nat->Value}
theorem GOk.anew{G:b0Z}(e:GOk G B)(h:Rel B U N tm w M):GOk G (B.anew w M):=by
 intro g t x i;obtain⟨k,a,b,l,c,d⟩:=e g t x i;have f:¬ a0P M g:=fun j=>by
  rcases h.mine _ j with q|q
  all_goals grind
 exact⟨a06 k h.size,⟨.inl a,f⟩,f,l,c.trans (h.frame g k b).symm,d⟩
theorem VOk.uniq{m:Mem}{Sh Sh':Nat->Prop}{t:Ty}{x y:t.den}{v:Value}(h:VOk m Sh t x v)(g:VOk m Sh' t y v):x=y:=by
 obtain⟨-,-,R,k,-⟩:=h;obtain⟨-,-,f,a,-⟩:=g;simp_all
theorem VOk.run(a:Rel B U N tm w M)(h:Rel (B.anew w M) U' N tm' w' M')(k:M.ov=none)(g:M'.ov=none){t:Ty}{x:t.den}{v:Value}(hv:VOk (a0a w M.ov) (Shr B w M) t x v):
  VOk (a0a w' M'.ov) (Shr B w' M') t x v:=
 (VOk.kept h k g hv).frame (fun _ _ _=>rfl) fun _ b=>d2U a (f:=(B.anew w M).pin) b
theorem VOk.turned{ov:Option (Nat×Nat×Value)}(h:∀(c:Nat)(o:Obj),w.heap[c]?=some o->o.isCells=true->w'.heap[c]?=some o)(g:w.heap.size<=w'.heap.size){t:Ty}{x:t.den}{v:Value}
  (hv:VOk (a0a w ov) (Shr B w M) t x v):VOk (a0a w' ov) (Shr B w' M) t x v:=by
 obtain⟨a,b,R,d,f⟩:=hv;exact⟨a,b,R,b0c (d0j h ov) t (fun _ _ hv=>hv) d,fun c k=>⟨a06 (f c k).1 g,(f c k).2⟩⟩
theorem b2P{W:World}{l:Nat}{o:Obj}(a:W.heap[l]?=some o)(d:o.isCells=false)(f:B.size<=l)(h:Obj):Turns B W (W.putObj l h):=by
 refine⟨fun c e k g=>?_,(grownBy_putObj' W l h).size,fun b hb=>World.putObj_heap_other (by omega),rfl⟩
 have:c≠l:=by
  grind
 simp_all[World.putObj_heap_other]
theorem b8q{W:World}(g:B.size<=W.heap.size)(o:Obj):Turns B W (W.alloc o):=
 ⟨fun c f h _=>(RowKit.Below.heap_alloc W _ c (a19.1 h).1).trans h,by simp,fun b hb=>RowKit.Below.heap_alloc W _ b (by omega),rfl⟩
theorem e0D(h:Rel B U N tm w M){l:Nat}{o:Obj}(f:w.heap[l]?=some o)(a:o.isCells=false):¬ a0P M l:=by
 rintro⟨n,k⟩
 obtain⟨p,hp,rfl⟩:=a20.1 k;obtain⟨c,e,lo,hi,g,-⟩:=h.live n p hp;rw[f]at g;cases g;cases a
theorem Rel.others(f:Rel B U N tm w M)(h:Rel (B.anew w M) U' N tm' w' M'){l:Nat}{o:Obj}(g:w.heap[l]?=some o)(k:o.isCells=false):w'.heap[l]?=some o:=
 (h.frame l (a19.1 g).1 (e0D f g k)).trans g
theorem c8M(U:AE)(i j:Nat)(v:AV):(U.set i v).get j=if j=i then v else U.get j:=by
 grind[AE.get,a2K]
theorem b6y:∀(es:a0h)(x x':es.ty.den){i:Nat}{T:Ty}{y:T.den}(_:a1o es=true)(_:(es.enc x).get i=.val T y),∃y':T.den,(es.enc x').get i=.val T y'
 | [],_,_,_,_,_,_,h=>by simp_all[a0h.enc]
 |.sv k t::r,x,x',i,T,y,hf,h=>by
  have h:((a0h.enc r x.2).set k (.val t x.1)).get i=.val T y:=h;show ∃y':T.den,((a0h.enc r x'.2).set k (.val t x'.1)).get i=.val T y';rw[c8M]at h|-
  by_cases e:i=k
  grind
  rw[if_neg e]at h|-;exact b6y r x.2 x'.2 (by simpa[a1o]using hf) h
 |.box n t::r,x,x',i,T,y,hf,h=>by
  simp only[a1o,bA9]at hf;exact b6y r x.2 x'.2 hf.2 h
 |.ptr k n p::r,x,x',i,T,y,hf,h=>by
  cases p with
  |cons=>simp[a1o]at hf
  |nil=>
   simp only[a1o,bA9]at hf;have h:((a0h.enc r x).set k (.ptr n [])).get i=.val T y:=h;show ∃y':T.den,((a0h.enc r x').set k (.ptr n [])).get i=.val T y';rw[c8M]at h|-
   by_cases e:i=k
   simp_all;rw[if_neg e]at h|-;exact b6y r x x' hf.2 h
 |.own k m e::r,x,x',i,T,y,hf,h=>by
  simp only[a1o,bA9]at hf;have h:(((a0h.enc r x.2).setRt m (some ⟨false,.list true e,x.1⟩)).set k (.sref m [])).get i=.val T y:=h;show ∃y':T.den,(((a0h.enc r x'.2).setRt m (some ⟨false,.list true e,x'.1⟩)).set k (.sref m [])).get i=.val T y';rw[c8M]at h|-
  by_cases e:i=k
  simp_all;rw[if_neg e]at h|-;exact b6y r x.2 x'.2 hf.2 h
 |.rfi _ _::_,_,_,_,_,_,h,_=>by simp[a1o]at h
 |.vp _ _::_,_,_,_,_,_,h,_=>by simp[a1o]at h
 |.ref _ _ _::_,_,_,_,_,_,h,_=>by simp[a1o]at h
 |.win _ _ _::_,_,_,_,_,_,h,_=>by simp[a1o]at h
 |.clo _ _ _::_,_,_,_,_,_,h,_=>by simp[a1o]at h
def c6R:Ex->Option Code
 |.normal=>none
 |.exit i=>some (.exit i)
 |.ret=>some .ret
def a4G(st:LoopState)(pe:Option Code)(fn:FuncId)(tmps:Array Value)(i1 i2:Nat)(assign body:Code)(D:Nat):Loop:=
 { state:=st,pending:=pe,fn,tmps,params:=#[i1,i2],assign,body,defers:=D }
structure Between (B:Base) (N:Nat) (a:Act) (s:a0h) (t:Nat) (te:Ty) (l0:te.den) (l D:Nat) (r:Loop) (x:s.ty.den) (W:World):Prop where
 rel:∃M,Rel B (s.enc x) N (a0o a) W M
 seq:(s.enc x).get t=.val te l0
 loop:W.heap[l]?=some (.loop r)
 dfr:W.heap[D]?=some (.deferred (some []))
theorem d0k(h3:CxOk P cx)(hG:GOk cx.G B)(hm:P.follows .mixedOrders=true)(hH:H.fits N=true){s:a0h}{i1 i2 p:Nat}{assign body:Code}(g7:a2z N assign=true)(g9:a2z N body=true)
  (hs:s.fits N=true)(q:a1o s=true)(k6:i1<N)(k7:i2<N){a:Act}(hN:a.tmps.size=N){fn:FuncId}{e te:Ty}{k:Int}{v:e.den}{ve:Value}{l0:te.den}{t l D:Nat}(ht:t<N){x:s.ty.den}{W:World}
  (hb:Between B N a s t te l0 l D (a4G .ready none fn a.tmps i1 i2 assign body D) x W)(hv:∀Sh,VOk (cells W) Sh te l0 (a0o a t)->VOk (cells W) Sh e v ve)(h6:B.size<=l)(h0:D≠l){y:s.ty.den ⊕ (Ex×s.ty.den)}
  (hy:rnd cx H p s i1 i2 assign body e k v x=some y):
  RoundIn (Fr none) 0 P l fn ((a.tmps.setIfInBounds i1 (.int .i64 k)).setIfInBounds i2 ve) assign body W fun en W'=>
   (∃j,y=.inl j/\en=.returned (.bool true)/\Between B N a s t te l0 l D (a4G .ready none fn a.tmps i1 i2 assign body D) j W')\/
   (∃ex c j,y=.inr (ex,j)/\c6R ex=some c/\en=.returned (.bool false)/\Between B N a s t te l0 l D (a4G .done (some c) fn a.tmps i1 i2 assign body D) j W'):=by
 obtain⟨⟨M,h⟩,hseq,hl,hD⟩:=hb;have h7:=h.ov_none (a5J s x);have f:VOk (a0a W M.ov) (Shr B W M) te l0 (a0o a t):=by
  have:=a3P h ht
  rw[hseq]at this;exact this
 have k0:VOk (a0a W M.ov) (Shr B W M) e v ve:=by
  rw[h7]at f|-;exact hv _ f
 let a1:Act:={ tmps:=(a.tmps.setIfInBounds i1 (.int .i64 k)).setIfInBounds i2 ve,defers:=[] }
 have h1:Rel B (((s.enc x).set i1 (.val (.int .i64) k)).set i2 (.val e v)) N (a0o a1) W M:=by
  have L:Rel B ((s.enc x).set i1 (.val (.int .i64) k)) N (a0o (a.put (some i1) (.int .i64 k))) W M:=h.putd hN fun _=>a0l.mk_int (g:=M.g) (rt:=(s.enc x).rt) _;have O:Rel B (((s.enc x).set i1 (.val (.int .i64) k)).set i2 (.val e v)) N (a0o ((a.put (some i1) (.int .i64 k)).put (some i2) ve)) W M:=L.putd (by rw[b6k];omega) fun _=>k0;exact O
 have g4:a1.tmps.size=N:=by grind
 have I:∀(U2:AE),(s.names.all fun n=>(U2.rt n).isSome)=true->∀i n,i<N->(s.enc x).sl i=.one (.ptr n [])\/(s.enc x).sl i=.one (.sref n [])->U2.rt n≠none:=by
  intro U2 C i n hi f;have hm:n∈s.names:=by
   rcases f with f|f
   have:=h.slots i hi
   rw[f]at this;obtain⟨r,-,-,-,hr,-⟩:=this
   grind[b8U]
   grind[b3T]
  grind
 have h9:∀i n,i<N->(s.enc x).sl i=.one (.sref n [])->∃u,M.g n=.one u:=fun i n _ f=>by
  obtain⟨-,e,l,A⟩:=b3T s x q f;rcases h.src_of A with⟨g,-⟩|⟨-,u,_,g,-⟩
  all_goals simp_all
 unfold rnd at hy;refine roundIn_of_wpIn trivial (wpIn_mono (b1l (ro:=some l) (D:=[]) h3 (hG.anew h1) hm hH assign _ g7 hy h1.anew g4 rfl) ?_)
 rintro e2 a2 w ⟨ex,U2,Z,rfl,hK,A,g5,g6⟩
 cases ex with
 |exit i=>simp_all
 |ret=>simp_all
 |normal=>
  simp at hK
  split at hK
  rotate_left
  grind
  rename_i o;obtain⟨C,hK⟩:=(a0f hK).elim id fun h=>by grind
  have E:=A.ov_none o;obtain⟨k2,X⟩:Rel (B.anew W M) { U2 with sl:=(s.enc x).sl } N (a0o a) w Z/\_:=Rel.again h (fun i _=>b6d s x q i) (a5J s x) A o (I U2 C) h9;have b2:=h1.back A;have c2:=h.back k2;have v2:VOk (a0a w Z.ov) (Shr B w Z) te l0 (a0o a t):=VOk.run h A h7 E f;have S:=h1.others A hl rfl;have g0:=h1.others A hD rfl;refine⟨_,run_beginRound S rfl,?_⟩;have T3:Turns B w (w.putObj l (.loop { a4G .ready none fn a.tmps i1 i2 assign body D with state:=.busy })):=b2P S rfl h6 _
  revert T3
  have T:(w.putObj l (.loop { a4G .ready none fn a.tmps i1 i2 assign body D with state:=.busy })).heap[l]?=some (.loop { a4G .ready none fn a.tmps i1 i2 assign body D with state:=.busy }):=World.putObj_heap_same (a19.1 S).1;have Q:(w.putObj l (.loop { a4G .ready none fn a.tmps i1 i2 assign body D with state:=.busy })).heap[D]?=some (.deferred (some [])):=(World.putObj_heap_other h0).trans g0
  revert T Q
  generalize w.putObj l (.loop { a4G .ready none fn a.tmps i1 i2 assign body D with state:=.busy })=W3;intro T Q T3;have b3:=b2.turned T3;have c3:=c2.turned T3;have v3:VOk (a0a W3 Z.ov) (Shr B W3 Z) te l0 (a0o a t):=VOk.turned T3.cells T3.size v2;refine wpIn_mono (b1l (ro:=some l) (D:=[]) h3 (hG.anew b3) hm hH body _ g9 hK b3.anew g5 g6) ?_
  rintro e4 a4 z ⟨ex,U4,M4,rfl,m,h4,k5,-⟩
  simp[e0C]at m
  split at m
  rotate_left
  grind
  rename_i F;obtain⟨R,m⟩:=(a0f m).elim id fun h=>by grind
  have h8:=h4.ov_none F;obtain⟨k4,-⟩:Rel (B.anew W3 Z) { U4 with sl:=(s.enc x).sl } N (a0o a) z M4/\_:=Rel.again (U:={ U2 with sl:=(s.enc x).sl }) c3 (fun i _=>b6d s x q i) o h4 F (I U4 R) X;have c4:=c3.back k4;have v4:VOk (a0a z M4.ov) (Shr B z M4) te l0 (a0o a t):=VOk.run b3 h4 E h8 v3;have V:=b3.others h4 T rfl;have g3:=b3.others h4 Q rfl;obtain⟨j,M5,d,h5⟩:=c4.dcd hs m;have k3:=h5.ov_none (a5J s j);have Y:(s.enc j).get t=.val te l0:=by
   obtain⟨y',k1⟩:=b6y s x j q hseq
   have:=a3P h5 ht
   rw[k1]at this;have this:VOk (a0a z M5.ov) (Shr B z M5) te y' (a0o a t):=this
   grind[VOk.uniq]
  have K:∀(b:Option Code)(r':Loop),r'={ { a4G .ready none fn a.tmps i1 i2 assign body D with state:=.busy }with state:=if b.isNone then .ready else .done,pending:=b }->
    (Instr.endRound l b).run P z=.ok (.bool b.isNone) (z.putObj l (.loop r'))/\Between B N a s t te l0 l D r' j (z.putObj l (.loop r')):=by
   rintro b r' rfl
   refine⟨run_endRound b V,⟨⟨M5,h5.turned (b2P V rfl h6 _)⟩,Y,World.putObj_heap_same (a19.1 V).1,(World.putObj_heap_other h0).trans g3⟩⟩
  cases ex with
  |normal=>
   simp at d;obtain⟨L,O⟩:=K none _ rfl;exact⟨_,_,L,.inl ⟨j,d.symm,rfl,O⟩⟩
  |exit i=>
   simp at d;obtain⟨L,O⟩:=K (some (.exit i)) _ rfl;exact⟨_,_,L,.inr ⟨_,_,j,d.symm,rfl,rfl,O⟩⟩
  |ret=>
   simp at d;obtain⟨L,O⟩:=K (some .ret) _ rfl;exact⟨_,_,L,.inr ⟨_,_,j,d.symm,rfl,rfl,O⟩⟩
def c6S(P:Program)(it:FuncId)(e:Ty):Prop:=
 (∀args w,(callFunc it args).run P w=.ok (.enter it args) w)/\
 ∀(l Bs:Nat)(sv:Value)(xs:List e.den)(J:Nat->World->Prop)(Jx:World->Prop)(W:World),xs.length<2147483648->
  (∀k W',J k W'->W'.cell? ⟨Bs,0,none⟩=some sv/\∃Sh,VOk (cells W') Sh (.list false e) xs sv)->
  (∀n (x:e.den) (v:Value) W',xs[n]?=some x->J (n+1) W'->(∀Sh,VOk (cells W') Sh (.list false e) xs sv->VOk (cells W') Sh e x v)->
   YieldAt (Fr none) 0 P l #[.int .i64 (n:Int),v] W' fun en W''=>(en=.returned (.bool true)/\J n W'')\/(en=.returned (.bool false)/\Jx W''))->
  J xs.length W->
  CallsIn (Fr none) 0 P it #[.func (.yield l) #[] #[],.pointer (some ⟨Bs,0,none⟩)] W fun en W'=>(∃v,en=.returned v)/\(J 0 W'\/Jx W')
def d2X(P:Program)(mk it:FuncId):Prop:=
 b6p P mk/\∀(A:Option Addr)(len cap:Nat)(w:World),Calls P mk #[.slice A len cap] w fun en w'=>en=.returned (.func (.func it) #[] #[.pointer (some ⟨w.heap.size,0,none⟩)])/\∃ty,w'=w.alloc (.cells #[.slice A len cap] ty)
def yOf{S:Type}:S ⊕ (Ex×S)->Ex×S
 |.inl x=>(.normal,x)
 |.inr q=>q
theorem d5e(hcx:CxOk P cx)(hG:GOk cx.G B)(hm:P.follows .mixedOrders=true)(hH:H.fits N=true){s:a0h}{i1 i2 p:Nat}{assign body:Code}(hfa:a2z N assign=true)(hfb:a2z N body=true)
  (hs:s.fits N=true)(hfl:a1o s=true)(hi1:i1<N)(hi2:i2<N){a:Act}(hN:a.tmps.size=N){e:Ty}{l0:List e.den}{t g Bs it:Nat}(ht:t<N){x:s.ty.den}
  (h:Rel B (s.enc x) N (a0o a) w M)(hseq:(s.enc x).get t=.val (.list false e) l0)(hg:a.eval (.tmp g)=.func (.func it) #[] #[.pointer (some ⟨Bs,0,none⟩)])(hit:c6S P it e)(hlen:l0.length<2147483648)
  (hcell:w.cell? ⟨Bs,0,none⟩=some (a0o a t))(hBs:Bs<B.size)(hBF:¬ B.F Bs){y:s.ty.den ⊕ (Ex×s.ty.den)}(hy:a8i (rnd cx H p s i1 i2 assign body e) l0 l0.length x=some y)(hd:a.defers=[]):
  (Code.rangeFunc (.tmp g) #[i1,i2] assign body).wpIn (Fr none) 0 P (fun en a' w'=>∃D,en=c1M (yOf y).1/\a'.tmps.size=N/\a'.defers=[{ target:=.collected D,args:=#[] }]/\B.size<=D/\
   w'.heap[D]?=some (.deferred (some []))/\∃M',Rel B (s.enc (yOf y).2) N (a0o a') w' M') a w:=by
 refine wpIn_rangeFunc ?_
 intro fn _;obtain⟨D,hDe⟩:∃D,w.heap.size=D:=⟨_,rfl⟩;obtain⟨W1,hW1⟩:∃W1,(w.alloc (.deferred (some []))).alloc (.loop (a4G .ready none fn a.tmps i1 i2 assign body D))=W1:=⟨_,rfl⟩;have hsz:=h.size;have T1:Turns B w W1:=by
  rw[<-hW1];have t1:=b8q (B:=B) hsz (.deferred (some []));have t2:=b8q (B:=B) (W:=w.alloc (.deferred (some []))) (by simp;omega) (.loop (a4G .ready none fn a.tmps i1 i2 assign body D));exact⟨fun c o hc ho=>t2.cells c o (t1.cells c o hc ho) ho,a15 t1.size t2.size,fun b hb=>(t2.frame b hb).trans (t1.frame b hb),t2.io.trans t1.io⟩
 have hL1:W1.heap[D+1]?=some (.loop (a4G .ready none fn a.tmps i1 i2 assign body D)):=by
  grind[World.alloc_heap_new,World.size_alloc]
 have hK1:W1.heap[D]?=some (.deferred (some [])):=by
  grind[RowKit.Below.heap_alloc,World.alloc_heap_new]
 have hB1:Between B N a s t (.list false e) l0 (D+1) D (a4G .ready none fn a.tmps i1 i2 assign body D) x W1:=⟨⟨M,h.turned T1⟩,hseq,hL1,hK1⟩;have hBsAll:∀{U' tm' W' M'},Rel B U' N tm' W' M'->W'.cell? ⟨Bs,0,none⟩=some (a0o a t):=fun {U' tm' W' M'} h'=>by
  have e1:=h'.frame Bs hBs hBF;have e2:=h.frame Bs hBs hBF;simp_all[World.cell?]
 refine⟨D+1,[{ target:=.collected D,args:=#[] }],W1,{ target:=.fn (.func it) #[.pointer (some ⟨Bs,0,none⟩)],args:=#[.func (.yield (D+1)) #[] #[]] },W1,it,
  #[.func (.yield (D+1)) #[] #[],.pointer (some ⟨Bs,0,none⟩)],W1,?_,?_,fun _ _=>trivial,?_,fun h=>(by grind),?_⟩
 rw[<-hW1,<-hDe];exact run_enterLoop_outer _ _ _ _ _;simp only[resolve,hg];simp[go_sem]
 have:=hit.1 (#[.func (.yield (D+1)) #[] #[]]++#[.pointer (some ⟨Bs,0,none⟩)]) W1
 simp_all[invoke]
 ·refine(hit.2 (D+1) Bs (a0o a t) l0
   (fun n W=>∃x',a8i (rnd cx H p s i1 i2 assign body e) l0 n x'=some y/\Between B N a s t (.list false e) l0 (D+1) D (a4G .ready none fn a.tmps i1 i2 assign body D) x' W)
   (fun W=>∃ex c x',y=.inr (ex,x')/\c6R ex=some c/\Between B N a s t (.list false e) l0 (D+1) D (a4G .done (some c) fn a.tmps i1 i2 assign body D) x' W)
   W1 hlen ?_ ?_ ⟨x,hy,hB1⟩).mono ?_
  rintro k W' ⟨x',-,hb⟩
  obtain⟨⟨M',h'⟩,hseq',-,-⟩:=hb;refine⟨hBsAll h',?_⟩
  have:=a3P h' ht
  rw[hseq',h'.ov_none (a5J s x')]at this;exact⟨_,this⟩
  rintro n xe v W' hx ⟨x',hy',hb⟩ hv
  have hyield:(Instr.yield (D+1) #[.int .i64 (n:Int),v]).run P W'=.ok (.round (D+1) fn ((a.tmps.setIfInBounds i1 (.int .i64 (n:Int))).setIfInBounds i2 v) assign body) W':=by
   have:=run_yield (P:=P) (args:=#[.int .i64 (n:Int),v]) hb.loop rfl
   simpa[a4G]using this
  simp[a8i,hx]at hy'
  split at hy'
  grind
  rename_i s' hs';refine⟨_,_,_,_,hyield,(d0k hcx hG hm hH hfa hfb hs hfl hi1 hi2 hN ht hb hv (by omega) (by omega) hs').mono ?_⟩
  grind
  rename_i r hr;simp at hy';refine⟨_,_,_,_,hyield,(d0k hcx hG hm hH hfa hfb hs hfl hi1 hi2 hN ht hb hv (by omega) (by omega) hr).mono ?_⟩
  grind
  ·have hdone:∀{x' W2 st pe},Between B N a s t (.list false e) l0 (D+1) D (a4G st pe fn a.tmps i1 i2 assign body D) x' W2->∀r',(W2.putObj (D+1) (.loop r')).heap[D]?=some (.deferred (some []))/\∃M',Rel B (s.enc x') N (a0o a) (W2.putObj (D+1) (.loop r')) M':=by
    rintro x' W2 st pe ⟨⟨M',h'⟩,-,hl,hD⟩ r'
    exact⟨(World.putObj_heap_other (by omega)).trans hD,M',h'.turned (b2P hl rfl (by omega) _)⟩
   rintro en W2 ⟨⟨v,rfl⟩,⟨x',hy',hb⟩|⟨ex,c,x',rfl,hc,hb⟩⟩
   simp[a8i]at hy';subst hy';refine⟨none,_,run_endLoop (P:=P) hb.loop (by simp[a4G]),?_⟩;obtain⟨g1,g2⟩:=hdone hb { a4G .ready none fn a.tmps i1 i2 assign body D with state:=.exhausted };exact⟨D,rfl,hN,by simp_all,by omega,g1,g2⟩
   ·refine⟨some c,_,run_endLoop (P:=P) hb.loop (by simp[a4G]),?_⟩;obtain⟨g1,g2⟩:=hdone hb { a4G .done (some c) fn a.tmps i1 i2 assign body D with state:=.exhausted };cases ex with
    |normal=>cases hc
    |exit i=>
     simp[c6R]at hc;subst hc;exact wpIn_exit ⟨D,rfl,hN,by simp_all,by omega,g1,g2⟩
    |ret=>
     simp[c6R]at hc;subst hc;exact wpIn_ret ⟨D,rfl,hN,by simp_all,by omega,g1,g2⟩
end
section
variable {P:Program} {B:Base} {N:Nat} {cx:Cx} {H:Hints} {r:HintR}
def d2Y(B:Base)(ds:List Deferred)(w:World):Prop:=ds=[]\/∃D,ds=[{ target:=.collected D,args:=#[] }]/\B.size<=D/\w.heap[D]?=some (.deferred (some []))
def d7T{Z:Type}(B:Base)(N:Nat)(K:Ex->AE->Rs Z)(z:Z):Exit->Act->World->Prop:=fun e a w=>
 ∃ex U M,e=c1M ex/\K ex U=some z/\Rel B U N (a0o a) w M/\a.tmps.size=N/\d2Y B a.defers w
theorem c4q(d:CxOk P cx)(n:GOk cx.G B)(t:P.follows .mixedOrders=true)(o:H.fits N=true){c:Code}{p:Nat}{Z:Type}{U:AE}{K:Ex->AE->Rs Z}{z:Z}{a:Act}{w:World}{M:Gh}(s:a2z N c=true)
  (u:a1X cx H c p U K=some z)(h:Rel B U N (a0o a) w M)(r:a.tmps.size=N)(g:d2Y B a.defers w):c.wpIn (Fr none) 0 P (d7T B N K z) a w:=by
 refine wpIn_mono (b1l (ro:=none) (D:=a.defers) d (n.anew h) t o c p s u h.anew r rfl) ?_
 rintro e v w' ⟨m,l,M',rfl,q,j,b,i⟩
 refine⟨m,l,M',rfl,q,h.back j,b,?_⟩;rcases g with g|⟨D,g,k,f⟩;exact .inl (i.trans g);exact .inr ⟨D,i.trans g,k,h.others j f rfl⟩
structure RangeOk (P:Program) (r:HintR):Prop where
 mkr:d2X P r.mkr r.it
 it:c6S P r.it r.e
def d7U(N:Nat)(r:HintR)(q:RParts):Bool:=
 q.ops.toList.all (a9Y N q.ops.toList)&&(a2z N q.assign&&(a2z N q.body&&(decide (q.i1<N)&&(decide (q.i2<N)&&(decide (q.g<N)&&(decide (r.t<N)&&(r.s.fits N&&r.t != q.g)))))))
theorem d7V{c1 c2:Code}{q:RParts}(h:b8V c1 c2=some q):∃id,c1=.region id q.ops false/\c2=.block q.b (.rangeFunc (.tmp q.g) #[q.i1,q.i2] q.assign q.body):=by
 unfold b8V at h
 split at h
 rename_i c f body
 split at h
 rename_i k a e;cases h;exact⟨_,rfl,by rw[show c=#[k,a]from by grind]⟩;simp_all;simp_all
theorem d7W{o:Oper}{g:Nat}(h:c8L o r g=true):∃c,o.op=.call c/\c.callee=.value (.func r.mkr)/\c.args=#[.tmp r.t]/\o.dst=some g/\o.guard=none:=by
 unfold c8L at h
 split at h
 rename_i c b
 split at h
 rename_i f t k a;simp at h
 grind
 simp_all;simp_all
theorem d2Z(h0:CxOk P cx)(hG:GOk cx.G B)(hm:P.follows .mixedOrders=true)(hH:H.fits N=true)(hr:RangeOk P r)(Q:∀i b,1000<=i->B.pin i≠some b){c1 c2:Code}{q:RParts}(hq:b8V c1 c2=some q)(hf:d7U N r q=true)
  {p:Nat}{Z:Type}{U:AE}{K:Ex->AE->Rs Z}{z:Z}{a:Act}{w:World}{M:Gh}(R:d2W cx H r q p U K=some z)(h:Rel B U N (a0o a) w M)(hN:a.tmps.size=N)(hd:a.defers=[]):
  (Code.seq c1 c2).wpIn (Fr none) 0 P (d7T B N K z) a w:=by
 obtain⟨id,rfl,rfl⟩:=d7V hq;simp only[d7U,bA9,dT]at hf;obtain⟨h8,k2,k3,k6,k7,hg,ht,hs,a4⟩:=hf;have a4:r.t≠q.g:=by simp_all
 unfold d2W at R
 split at R
 rotate_left
 grind
 rename_i mv cl hl;obtain⟨E,R⟩:=(a0f R).elim _root_.id fun h=>by grind
 simp at E;obtain⟨E,k4,b6⟩:=E;obtain⟨c,ho,k0,g9,h4,b5⟩:=d7W E;refine wpIn_seq (wpIn_region_list ?_);have Y:=b8l (lA.1 h8 mv (by simp_all));rw[hl];simp only[wpListIn];rw[if_pos (by simp_all[Region.wanted])];refine a5n h0 hG h hN Y R fun v w1 U1 M1 h1 R=>?_
 obtain⟨a1,g7⟩:∃a1,a.put mv.dst v=a1:=⟨_,rfl⟩;have g6:a1.tmps.size=N:=by grind[b6k]
 have b4:a1.defers=[]:=by grind[b5H]
 rw[g7]at h1|-;rw[if_pos (by simp_all[Region.wanted])]
 split at R
 grind
 rename_i b0

 obtain⟨m,h5⟩:∃m,Value.func (.func r.it) #[] #[.pointer (some ⟨w1.heap.size,0,none⟩)]=m:=⟨_,rfl⟩;have h6:Rel B (U1.set q.g .dead) N (a0o (a1.put (some q.g) m)) w1 M1:=h1.putd g6 fun _=>trivial;have a5:a0o (a1.put (some q.g) m) r.t=a0o a1 r.t:=by simp_all[b6j]
 have L:∀{B':Base}{w2:World},(∀i b,1000<=i->B'.pin i≠some b)->Rel B' (U1.set q.g .dead) N (a0o (a1.put (some q.g) m)) w2 M1->∃(x:r.s.ty.den)(l0:List r.e.den)(y:r.s.ty.den ⊕ (Ex×r.s.ty.den)) (M2:Gh),Rel B' (r.s.enc x) N (a0o (a1.put (some q.g) m)) w2 M2/\
   (r.s.enc x).get r.t=.val (.list false r.e) l0/\l0.length<2147483648/\a8i (rnd cx H (2*p+1) r.s q.i1 q.i2 q.assign q.body r.e) l0 l0.length x=some y/\
   (match y with
    |.inl o=>K .normal (r.s.enc o)
    |.inr (.normal,o)=>K .normal (r.s.enc o)
    |.inr (.exit i,o)=>bif i==q.b then K .normal (r.s.enc o)else K (.exit i) (r.s.enc o)
    |.inr (.ret,o)=>K .ret (r.s.enc o))=some z:=by
  intro B' w2 hp k8;obtain⟨U2,M2,a9,h2⟩:=Rel.renAll hp _ k8 R;obtain⟨x,I,j,h3⟩:=h2.dcd hs a9
  split at j
  rename_i t l k5
  split at j
  rename_i he;subst he;obtain⟨h7,j⟩:=(a0f j).elim _root_.id fun h=>by grind
  obtain⟨y,a7,a8⟩:=a09.1 j;exact⟨x,l,y,I,h3,k5,of_decide_eq_true (show decide (a08 l<2147483648)=true from h7),a7,a8⟩;simp_all;simp_all
 obtain⟨A,F,u,a2⟩:∃A F u,a0o a1 r.t=.slice A F u:=by
  obtain⟨x,l0,y,M2,g1,g2,-⟩:=L Q h6
  have:=a3P g1 ht
  rw[g2,a5]at this;obtain⟨A,n,c,e,-⟩:=VOk.header this;simp_all
 refine c6E (fun c' b3=>by simp_all) ?_
 rw[d2E hr.mkr.1 ho k0,Oper.uponIn_enter];refine⟨fun h=>(by grind),d2D ?_⟩;have V:c.args.map a1.eval=#[.slice A F u]:=by
  rw[g9,<-a2];simp only[List.map_toArray,List.map_cons,a53];rfl
 rw[V];refine(hr.mkr.2 A F u w1).mono ?_
 rintro en w2 ⟨rfl,ty,a6⟩
 simp
 rw[h5,h4];have T:Turns B w1 w2:=by rw[a6];exact b8q h1.size _
 have C:=h6.turned T;have g0:Rel { B.anew w2 M1 with pin:=B.pin } (U1.set q.g .dead) N (a0o (a1.put (some q.g) m)) w2 M1:=C.anew.unpin B.pin fun i b hb=>by simp_all[Base.anew]
 obtain⟨x,l0,y,M2,g1,g2,gl,g3,O⟩:=L (B':={ B.anew w2 M1 with pin:=B.pin }) Q g0;have X:w2.cell? ⟨w1.heap.size,0,none⟩=some (a0o (a1.put (some q.g) m) r.t):=by
  simp_all
 have h9:w1.heap.size<w2.heap.size:=by simp_all
 refine wpIn_block (wpIn_mono (d5e (B:={ B.anew w2 M1 with pin:=B.pin }) (a:=a1.put (some q.g) m) (p:=2*p+1) (it:=r.it) (Bs:=w1.heap.size) h0 (hG.anew C) hm hH k2 k3 hs k4 k6 k7 (by rw[b6k];omega) ht g1 g2 ?_ hr.it gl X h9
  (fun ho=>Nat.lt_irrefl _ (h1.lt ho)) g3 (by simp_all[b5H])) ?_)
 show a0o (a1.put (some q.g) m) q.g=_;rw[b6j _ (by omega),if_pos rfl,<-h5]
 ·rintro en a3 w3 ⟨D,rfl,k,k1,S,g5,I,k9⟩
  have S:w2.heap.size<=D:=S;have d:Rel B (r.s.enc (yOf y).2) N (a0o a3) w3 I:=C.backP (fun _ _ h=>h) k9;have f:d2Y B a3.defers w3:=.inr ⟨D,k1,a15 C.size S,g5⟩;cases y with
  |inl o=>exact⟨.normal,_,I,rfl,O,d,k,f⟩
  |inr ex=>
   obtain⟨ex,o⟩:=ex;cases ex with
   |normal=>exact⟨.normal,_,I,rfl,O,d,k,f⟩
   |ret=>exact⟨.ret,_,I,rfl,O,d,k,f⟩
   |exit i=>
    simp[yOf,c1M,Exit.inBlock];rcases a0f O with⟨hi,O⟩|⟨hi,O⟩;rw[if_pos (by simp_all)];exact⟨.normal,_,I,rfl,O,d,k,f⟩;rw[if_neg (by simp_all)];exact⟨.exit i,_,I,rfl,O,d,k,f⟩
def b2B(N:Nat)(r:HintR):Code->Bool
 |.seq a b=>match b8V a b with
  |some q=>d7U N r q
  |none=>bif b0e a then b2B N r a&&a2z N b else a2z N a&&b2B N r b
 |c=>a2z N c
theorem d3a(m:CxOk P cx)(t:GOk cx.G B)(v:P.follows .mixedOrders=true)(u:H.fits N=true)(E:RangeOk P r)(A:∀i b,1000<=i->B.pin i≠some b):∀(c:Code) (p:Nat){Z:Type}{U:AE}{K:Ex->AE->Rs Z}{z:Z}{a:Act}{w:World}{M:Gh}(_:b2B N r c=true)
  (_:b8W cx H r c p U K=some z) (_:Rel B U N (a0o a) w M) (_:a.tmps.size=N) (_:a.defers=[]),c.wpIn (Fr none) 0 P (d7T B N K z) a w:=by
 intro c
 induction c with
 |seq x y ihx ihy=>
  intro p Z U K z a w M d j h q o;simp[b2B]at d;simp[b8W]at j
  split at j
  grind[d2Z]
  ·rename_i hq;rw[hq]at d;simp only[]at d;refine wpIn_seq ?_
   cases hx:b0e x with
   |true=>
    rw[hx]at d j;simp at d j;refine wpIn_mono (ihx _ d.1 j h q o) ?_
    rintro e C w' ⟨s,n,M',rfl,l,k,f,g⟩
    cases s with
    |normal=>exact c4q m t v u d.2 l k f g
    |exit i=>exact⟨.exit i,n,M',rfl,l,k,f,g⟩
    |ret=>exact⟨.ret,n,M',rfl,l,k,f,g⟩
   |false=>
    rw[hx]at d j;simp at d j;refine wpIn_mono (b1l (ro:=none) (D:=[]) m t v u x _ d.1 j h q o) ?_
    rintro e C w' ⟨s,n,M',rfl,l,k,f,g⟩
    cases s with
    |normal=>exact ihy _ d.2 l k f g
    |exit i=>exact⟨.exit i,n,M',rfl,l,k,f,.inl g⟩
    |ret=>exact⟨.ret,n,M',rfl,l,k,f,.inl g⟩
 |_=>
  intro p Z U K z a w M d j h q o;refine c4q m t v u (p:=p) (U:=U) (M:=M) ?_ ?_ h q (.inl o);simpa only[b2B]using d;simpa only[b8W]using j
end
def e4f(fn:Func)(c:Code)(H:Hints)(r:HintR)(s:FSem):Bool:=
 b2B fn.ntmps r c&&(H.fits fn.ntmps&&(decide (s.ps.length<=fn.ntmps)&&(decide (s.ps.length<=1000)&&fn.results.toList.all fun r=>b1I fn.ntmps (.inl r))))
section
variable {P:Program} {cx:Cx}
theorem b6z:∀(ps:List PA)(i0 i:Nat),i∈a0F ps i0->i<i0+ps.length
 | [],_,_,h=>by simp[a0F]at h
 |.v _::ps,i0,i,h=>by
  have:=b6z ps (i0+1) i h
  grind
 |.r _ _::ps,i0,i,h=>by
  simp
  rcases mC.1 h with rfl|h;omega
  have:=b6z ps (i0+1) i h
  omega
theorem a5m.ofR(t:CxOk P cx)(hm:P.follows .mixedOrders=true){f:FuncId}{fn:Func}{c:Code}{H:Hints}{r:HintR}{s:FSem}(h6:RangeOk P r)(h4:P.funcs[f]?=some fn)(hb:fn.body=some c)(N:e4f fn c H r s=true)
  (h0:∀x,d2d cx H r fn s.ps s.rs x=s.F x):a5m P cx.G f s:=by
 simp only[e4f,bA9,dT]at N;obtain⟨K,hH,g2,R,q⟩:=N;intro w S M args x y Y hy hB g0 g1 Z z p;obtain⟨B,d⟩:∃B:Base,{ S with pin:=fun i=>bif decide (i<1000)then S.pin i else none }=B:=⟨_,rfl⟩;have g:Rel B (ini s.ps x) s.ps.length (fun i=>args.getD i undef) w M:=by
  rw[<-d];refine z.unpin _ fun i b hb=>?_
  grind
 have Q:∀i b,1000<=i->B.pin i≠some b:=by
  rw[<-d]
  grind
 have l:d1X B s.ps args:=by
  intro i hi hk;obtain⟨b,T,C⟩:=p i hi hk;refine⟨b,?_,C⟩;have L:i<s.ps.length:=by have:=b6z s.ps 0 i hi;omega
  have:decide (i<1000)=true:=by grind
  rw[<-d];simp_all
 have Y:GOk cx.G B:=by rw[<-d];exact Y
 have j:∀{w' its vs o},Back B w' its vs o->Back S w' its vs o:=fun {w' its vs o} h=>by
  rw[<-d]at h;exact⟨h.lv,h.ll,h.ok,h.nodup,h.disj,h.live,h.mine,h.size,h.frame,h.still⟩
 rw[<-h0 x]at hy;simp[d2d,hb]at hy
 let a:Act:={ tmps:=args++a30 (fn.ntmps-args.size) undef,defers:=[] }
 have h7:a.tmps.size=fn.ntmps:=by grind
 have u:Rel B (ini s.ps x) fn.ntmps (a0o a) w M:=by
  refine⟨g.roots,g.norm,g.nodup,g.disj,g.live,fun i hi=>?_,g.pend,g.size,g.frame,g.mine,g.pins,g.still⟩
  by_cases L:i<s.ps.length
  have:=g.slots i L
  have e:a0o a i=args.getD i undef:=by
   simp[a0o,a,a44];simp_all
  simp_all
  have:(ini s.ps x).sl i=.one .dead:=by
   simp_all[ini,a6p]
  rw[this];trivial
 refine callsIn_wide.1 (callsIn_of_wp_marks (F:=Fr none) (n:=0) h4 hb trivial (wpIn_mono (d3a t Y hm hH h6 Q c 1 K hy u h7 rfl) ?_))
 rintro e a' w' ⟨ex,U',M',rfl,U,hr,hN,E⟩
 simp at U;have h8:(∀i,ex≠.exit i)/\U'.pd=none/\(U'.upto fn.ntmps).outs cx [] fn.ntmps (RA.all s.ps s.rs) (fn.results.toList.map .inl++(a0F s.ps 0).map fun i=>.inr (b2I s.ps i)) (fun y _=>some y)=some y:=by
  grind
 obtain⟨h9,O,U⟩:=h8;have k:LeavesInM (Fr none) 0 P fn a'.tmps (fun e w'=>∃A o,e=.returned (b7s A)/\A.length=s.rs.length/\Back S w' (a2r (RA.all s.ps s.rs) y) (A++(a0F s.ps 0).map (a4f s.ps args)) o) a'.defers .returning w':=by
  rcases E with E|⟨D,E,X,I⟩;rw[E];obtain⟨v,m,A,o,T,C,V⟩:=b8p (args:=args) t.toCxTy q hr O U l;exact⟨v,m,A,o,T,C,j V⟩;rw[E];have h5:=hr.turned (b2P I rfl X (.deferred none));obtain⟨v,m,A,o,T,C,V⟩:=b8p (args:=args) t.toCxTy q h5 O U l;exact⟨by simp,.inl ⟨D,_,rfl,run_takeDeferred I,v,m,A,o,T,C,j V⟩⟩
 cases ex with
 |exit i=>simp_all
 |normal=>exact k
 |ret=>exact k
end
end Go.Ab
