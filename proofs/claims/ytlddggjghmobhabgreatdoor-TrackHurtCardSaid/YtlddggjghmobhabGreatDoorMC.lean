/- Part of the proof: LibZJD. Conditions: as each statement tells. -/
import Derived.OrdersIn
import Derived.OpenShut
import Derived.Deep.Slices
import Derived.ChangeSame
import Derived.WideKeyArgs
import Derived.RowKit
import Derived.Laws.StructEq
import Derived.ChangeKeysEq
import Derived.RangeFuncNested
import Derived.RangeFuncLeaves
import Derived.Test.YtlddggjghmobhabGreatDoorMB
noncomputable section
set_option linter.unusedSimpArgs false
set_option linter.unusedVariables false
open Array renaming getElem?_eq_some_iff->C0,replicate->D3,getElem?_append->E7,all_toList->F9
open Bool renaming false_eq_true->A6,and_eq_true_iff->B6,false_and->D4,not_eq_true'->F8,not_false->G3,and_false->G4
open Decidable renaming decide->A3
open List renaming mem_append_right->A7,mem_cons_of_mem->A8,mem_append_left->A9,map_congr_left->B4,length->B7,all_cons->C1,mem_map->C2,mem_cons_self->C3,contains_iff_mem->C4,range_eq_range'->C6,append_nil->C7,mem_filterMap->C8,getElem?_cons_zero->C9,range->D0,mem_of_getElem?->D2,mem_range->D5,map_id->D6,getElem?_append_right->D7,range'->D8,mem_flatMap->E1,mem_filter->E4,append->E5,mem_iff_getElem?->E6,range'_append_1->E8,contains_eq_mem->E9,mem_map_of_mem->F0,map_map->F1,zipWith->F2,map_nil->F4,filter_congr->F5,ext_getElem?->F6,getElem?_map->F7
open Nat renaming lt_of_lt_of_le->B3,le_trans->B9,le_refl->C5,zero_add->F3
open Option renaming isSome_iff_exists->A4,bind_eq_some_iff->B8,elim->D1,ne_none_iff_exists'->D9,getD_some->E2,map_some->E3
namespace Go.Ab
section
variable {cx:Cx} {o:Oper} {d:Nat} {U:AE}
theorem b9y{Z:Type}(U:AE)(ty:Option Ty)(a:AV)(K:Nat->Rs Z):U.vW ty a K=(U.vW ty a some).elim none K:=by
 unfold AE.vW;grind
theorem a9L{Z:Type}{U U2:AE}{a:AV}(h:∀n∈a.refs,U2.look n=U.look n)(ty:Option Ty)(K:Nat->Rs Z):U2.vW ty a K=U.vW ty a K:=by
 unfold AE.vW;grind[AV.refs]
theorem a6p{Z:Type}(f:Int->Int->Int)(k:IntKind):∀(l:List AV)(x:Int)(K:AV->Rs Z),AE.wF f k l x K=(AE.wF f k l x some).elim none K
 | [],x,K=>rfl
 |a::r,x,K=>by
  cases a with
  |val t y=>
   cases t with
   |int h=>
    simp only[AE.wF];split;exact a6p f k r _ K;rfl
   |_=>rfl
  |_=>rfl
theorem a0Q{Z:Type}(U:AE)(e:Ty)(x:AV)(ys:List e.sJ)(K:AE->Rs Z):U.uF true d e x ys K=(match x with
  |.nils|.empt=>bif Bp ys.length then U.fresh true d ⟨false,.list true e,ys⟩ fun U=>K (U.set d (.sref d []))else none
  |_=>none):=by
 cases x<;>rfl
theorem iO{e:Ty}{x:AV}{ys:Option (List e.sJ)}(h:∀U2,Ew (AH o) U U2->∀{Z:Type}(K:AE->Rs Z),Bk cx true o U2 K=ys.elim none fun ys=>U2.uF true d e x ys K):CG cx o d U:=by
 cases ys with
 |none=>exact CG.none h
 |some ys=>
  have h:∀U2,Ew (AH o) U U2->∀{Z:Type}(K:AE->Rs Z),Bk cx true o U2 K=U2.uF true d e x ys K:=h;cases hl:Bp ys.length with
  |false=>grind[CG.none,a0Q]
  |true=>
   cases x with
   |nils=>exact CG.vD ⟨false,.list true e,ys⟩ (.sref d []) rfl fun U2 g Z K=>by simp_all[a0Q]
   |empt=>exact CG.vD ⟨false,.list true e,ys⟩ (.sref d []) rfl fun U2 g Z K=>by simp_all[a0Q]
   |_=>exact CG.none fun U2 g Z K=>by rw[h U2 g,a0Q]
theorem a8u{U2:AE}(h:Ew (AH o) U U2){c:Call}(g:o.op=.call c):c.args.toList.map U2.sM=c.args.toList.map U.sM:=
 B4 fun x f=>h.sM (by simp_all[Op.operands,Call.operands])
theorem Pq{c:Call}(h:o.op=.call c):∀x∈c.args.toList,x∈o.op.operands.toList:=fun x g=>by
 simp_all[Op.operands,Call.operands]
theorem a3a{c:Call}{b:Builtin}(u:o.op=.call c)(hb:c.callee=.builtin b)(z:o.dst=some d):CG cx o d U:=by
 have j:∀g,Ew (AH o) U g->∀{Z:Type}(K:AE->Rs Z),Bk cx true o g K=g.uP true cx d b c.argTypes.toList (c.args.toList.map U.sM) K:=fun g f Z K=>by
  grind[Bk,a8u]
 have m:∀a∈c.args.toList.map U.sM,∀n∈a.refs,∀g,Ew (AH o) U g->g.look n=U.look n:=fun a q n p g f=>by
  obtain⟨x,v,rfl⟩:=C2.1 q;exact f.look (Pq u x v) p
 revert j m;generalize c.args.toList.map U.sM=as;generalize c.argTypes.toList=ts;intro j m;have i:(∀(g:AE){Z:Type}(K:AE->Rs Z),g.uP true cx d b ts as K=none)->CG cx o d U:=fun h=>CG.none fun g f Z K=>by simp_all
 cases b with
 |len=>
  match as with
  | [a]=>
   refine CG.of ((U.vW (ts.head?.bind cx.T) a some).map fun n=>.val (.int .i64) (n:Int)) fun g f Z K=>?_
   rw[j g f];simp only[AE.uP];rw[b9y,a9L fun n p=>m a (by simp) n p g f];cases U.vW (ts.head?.bind cx.T) a some<;>rfl
  | []=>exact i fun g Z K=>rfl
  |_::_::_=>exact i fun g Z K=>rfl
 |max=>
  match as with
  | []=>exact i fun g Z K=>rfl
  |a::r=>
   cases a with
   |val t x=>
    cases t with
    |int k=>exact CG.of (AE.wF EA k r x some) fun g f Z K=>by rw[j g f];exact a6p _ _ _ _ _
    |_=>exact i fun g Z K=>rfl
   |_=>exact i fun g Z K=>rfl
 |min=>
  match as with
  | []=>exact i fun g Z K=>rfl
  |a::r=>
   cases a with
   |val t x=>
    cases t with
    |int k=>exact CG.of (AE.wF GZ k r x some) fun g f Z K=>by rw[j g f];exact a6p _ _ _ _ _
    |_=>exact i fun g Z K=>rfl
   |_=>exact i fun g Z K=>rfl
 |append=>
  match as with
  | []=>exact i fun g Z K=>rfl
  | [_]=>exact i fun g Z K=>rfl
  |_::_::_::_=>exact i fun g Z K=>rfl
  | [a,b]=>
   cases hni:gO cx ts with
   |false=>
    cases hzl:b1r cx ts a b with
    |none=>exact i fun g Z K=>by simp only[AE.uP,hni,Xx,hzl,cF]
    |some w=>
     obtain⟨e,ys⟩:=w;exact iO (e:=e) (x:=.nils) (ys:=some ys) fun g f Z K=>by
      rw[j g f];simp only[AE.uP,hni,Xx,hzl,cF];rfl
   |true=>
    cases ht:ts.head?.bind cx.T with
    |none=>simp_all[AE.uP]
    |some τ=>
     cases τ with
     |list A e=>
      have l:(∀(g:AE){Z:Type}(K:AE->Rs Z),g.uP true cx d .append ts [a,b] K=g.elems e b fun ys=>g.uF true d e a ys K)->CG cx o d U:=fun h=>
       iO (e:=e) (x:=a) (ys:=Pp U.look e b) fun g f Z K=>by
        simp_all[XG,Sr]
      cases b with
      |val t y=>
       cases t with
       |str=>
        by_cases he:e=.int .u8;subst he;exact iO (e:=.int .u8) (x:=a) (ys:=some y) fun g f Z K=>by
         rw[j g f];simp only[AE.uP,hni,ht,cT];rfl
        simp_all[AE.uP]
       |_=>exact l fun g Z K=>by simp only[AE.uP,hni,ht,cT,Bool.true_or]
      |_=>exact l fun g Z K=>by simp only[AE.uP,hni,ht,cT,Bool.true_or]
     |_=>exact i fun g Z K=>by simp only[AE.uP,hni,ht,cT]
 |cap=>
  match as with
  | []=>exact i fun g Z K=>rfl
  |a::_::_=>exact i fun g Z K=>by cases a<;>rfl
  | [a]=>
   cases a with
   |nils=>
    refine CG.of (bif Ty.isList ((ts.head?.bind cx.T).getD .unit)then some (.val (.int .i64) (0:Int))else none) fun g f Z K=>?_
    rw[j g f];simp only[AE.uP];cases Ty.isList ((ts.head?.bind cx.T).getD .unit)<;>rfl
   |_=>exact i fun g Z K=>rfl
 |_=>exact i fun g Z K=>by unfold AE.uP;split<;>first|rfl|(rename_i h;cases h)|(rename_i h _;cases h)
def iP(fz:Bool)(lk:Nat->Option sO):(p:PA)->AV->Option p.ty.sJ
 |.v t,a=>bif fz then Rt t a else Tk lk t a
 |.r _ _,_=>none
theorem cC{Z:Type}(U:AE)(fz:Bool)(seen:List Nat)(p:PA)(a:AV)(K:p.ty.sJ->AE->List Nat->List Nat->Rs Z):
  U.arg fz true [] seen p a K=(iP fz U.look p a).elim none fun x=>K x U [] (bif fz then seen else a.sS++seen):=by
 cases p with
 |v t=>
  simp only[AE.arg];rw[show(a.sS.any fun n=>([]:List Nat).contains n)=false from by simp]
  simp
  cases fz with
  |true=>simp[iP];rw[qP];rfl
  |false=>
   simp[iP];rw[b1L];rfl
 |r c b=>
  cases b with
  |v t=>rfl
  |b t=>
   cases a with
   |ptr n p=>cases p<;>simp[AE.arg,iP]
   |_=>rfl
  |o e=>
   cases a with
   |sref n p=>cases p<;>simp[AE.arg,iP]
   |_=>rfl
def AE.uK(U:AE)(fz:Bool)(seen:List Nat)(ps:List PA)(as:List AV):Option (Dz (ps.map PA.ty)).sJ:=U.args fz true [] seen ps as fun x _ _=>some x
theorem a6q(U:AE)(fz:Bool)(h:List PA):∀{Z:Type}(as:List AV)(seen:List Nat)(K:(Dz (h.map PA.ty)).sJ->AE->List Nat->Rs Z),U.args fz true [] seen h as K=(U.uK fz seen h as).elim none fun x=>K x U []:=by
 induction h with
 |nil=>
  intro Z as seen K;cases as<;>rfl
 |cons p h g=>
  intro Z as seen K;cases as with
  |nil=>cases h<;>rfl
  |cons a as=>
   cases h with
   |nil=>
    cases as with
    |nil=>
     simp[AE.uK,AE.args];rw[cC,cC];cases iP fz U.look p a<;>rfl
    |cons=>rfl
   |cons f h=>
    simp[AE.uK,AE.args];rw[cC,cC];cases iP fz U.look p a with
    |none=>rfl
    |some x=>
     simp[D1];rw[g,g];cases U.uK fz (bif fz then seen else a.sS++seen) (f::h) as<;>rfl
theorem a6r{U:AE}(fz:Bool)(g:List PA):∀(as:List AV)(seen:List Nat)(x:(Dz (g.map PA.ty)).sJ),U.uK fz seen g as=some x->JH g=[]:=by
 induction g with
 |nil=>intro as seen x h;rfl
 |cons p g f=>
  intro as seen x h;cases as with
  |nil=>cases g<;>cases h
  |cons a as=>
   cases g with
   |nil=>
    cases as with
    |nil=>
     simp[AE.uK,AE.args]at h;rw[cC]at h;cases p with
     |v t=>rfl
     |r c t=>cases h
    |cons=>cases h
   |cons k g=>
    simp[AE.uK,AE.args]at h;rw[cC]at h;cases p with
    |r c t=>cases h
    |v t=>
     cases h1:iP fz U.look (.v t) a with
     |none=>simp_all
     |some y=>
      rw[h1]at h;simp at h;rw[a6q]at h;cases h2:U.uK fz (bif fz then seen else a.sS++seen) (k::g) as with
      |none=>simp_all
      |some z=>exact f as _ z h2
theorem a3b{U U2:AE}(fz:Bool)(g:List PA):∀(as:List AV)(seen:List Nat),(∀a∈as,∀n∈a.refs,U2.look n=U.look n)->U2.uK fz seen g as=U.uK fz seen g as:=by
 have f:∀(p:PA)(a:AV),(∀n∈a.refs,U2.look n=U.look n)->iP fz U2.look p a=iP fz U.look p a:=fun p a h=>by
  cases p with
  |v t=>simp only[iP];rw[cB h]
  |r c t=>rfl
 induction g with
 |nil=>intro as seen h;cases as<;>rfl
 |cons p g k=>
  intro as seen h;cases as with
  |nil=>cases g<;>rfl
  |cons a as=>
   cases g with
   |nil=>
    cases as with
    |nil=>
     simp_all[AE.uK,AE.args,cC]
    |cons=>rfl
   |cons b g=>
    simp[AE.uK,AE.args];grind[cC,a6q]
theorem qQ{Z:Type}(U:AE):∀(ns:List Nat)(K:AE->Rs Z),U.tV true [] ns K=bif ns.all fun n=>A3 (n<pinned)&&(U.rt n).isNone then K U else none
 | [],K=>rfl
 |n::r,K=>by
  simp only[AE.tV,C1];rw[show(!([]:List Nat).contains n)=true from by simp,Bool.and_true];cases A3 (n<pinned);rfl
  ·simp
   cases U.rt n with
   |none=>simp_all[qQ]
   |some x=>simp
def Gl:List Nat->List ((r:RA)×r.ty.sJ)->List (Nat×sO)
 |k::ns,it::its=>match Bn it with
  |some r=>(k,r)::Gl ns its
  |none=>Gl ns its
 |_,_=>[]
theorem QW:∀(ns:List Nat)(h:List ((r:RA)×r.ty.sJ)) (n:Nat),find (Gl ns h) n=CO ns h n
 | [],h,n=>by rfl
 |k::ns,[],n=>rfl
 |k::ns,g::h,n=>by
  simp[Gl,CO];cases Bn g with
  |none=>simp_all[QW]
  |some r=>
   simp[find];rw[QW ns h n];grind
theorem Uj:∀(f:List RA)(n:Nat)(g:List ((r:RA)×r.ty.sJ)),(∀(k:Nat) it,g[k]?=some it->k<f.length->f[k]?=some it.1)->f.length<=g.length->
  (Gl (BC f n++[]) g).map (·.1)=Dn f n
 | [],n,g,h,d=>by rfl
 |r::f,n,[],h,d=>by simp_all
 |r::f,n,it::g,h,d=>by
  have c:=h 0 it rfl (by simp);simp at c;have m:=Uj f (n+1000) g (fun k a l i=>by simpa using h (k+1) a (by simp_all) (by simp_all)) (by simp_all);obtain⟨j,x⟩:=it;obtain rfl:r=j:=c;simp only[BC,List.cons_append,Gl];cases r with
  |v t=>simp_all[Bn,Dn]
  |o e=>simp_all[Bn,Dn]
  |b t=>simp_all[Bn,Dn]
theorem a9M{ks:List Nat}:AV.sP [] ks=id:=by
 funext a;cases a<;>simp[AV.sP]
theorem a9N{n:Nat}:∀{it:(r:RA)×r.ty.sJ},(a9l n it).uA=true->Bn it=none
 |⟨.v t,x⟩,_=>rfl
 |⟨.o e,x⟩,h=>by cases h
 |⟨.b t,x⟩,h=>by cases h
theorem iQ:∀(ns:List Nat)(g:List ((r:RA)×r.ty.sJ)),(JN ns g).all AV.uA=true->ns.length=g.length->Gl ns g=[]
 | [],g,_,_=>by rfl
 |k::ns,[],_,h=>by rfl
 |k::ns,a::g,h,f=>by
  simp only[JN,C1,EV]at h;simp only[Gl];rw[a9N h.1];exact iQ ns g h.2 (by simpa using f)
theorem Ov:∀(ns:List Nat)(g:List ((r:RA)×r.ty.sJ)) (n:Nat),CO ns g n≠none->n∈ns
 | [],_,n,h=>absurd rfl h
 |_::_,[],n,h=>absurd rfl h
 |k::ns,f::g,n,h=>by
  simp only[CO]at h;cases hr:Bn f with
  |none=>rw[hr]at h;exact A8 _ (Ov ns g n h)
  |some r=>
   rw[hr]at h;simp only[]at h;by_cases e:n=k;subst e;exact C3
   have:(n==k)=false:=by simpa using e
   rw[this]at h;exact A8 _ (Ov ns g n h)
theorem b1T{c:Call}{f:FuncId}(B:o.op=.call c)(hb:c.callee=.value (.func f))(I:o.dst=some d):CG cx o d U:=by
  cases hs:cx.C f with
  |none=>simp_all[CG.none,Bk]
  |some s=>
    let u:=s.rs.any RA.sQ || (JH s.ps).any RA.sQ
    let t:=Dn s.rs (d+1000)
    have L:∀a∈c.args.toList.map U.sM,∀n∈a.refs,∀h,Ew (AH o) U h->h.look n=U.look n:=fun a w n A h b=>by
      obtain⟨x,q,rfl⟩:=C2.1 w;exact b.look (Pq B x q) A
    have m:∀h,Ew (AH o) U h->∀{Z:Type}(K:AE->Rs Z),Bk cx true o h K=(match U.pd with
        |some _=>none
        |none=>(U.uK u [] s.ps (c.args.toList.map U.sM)).elim none fun x=>bif t.all (fun n=>A3 (n<pinned)&&(h.rt n).isNone)then(s.F x).bind fun y=>
            (let G:AE:=⟨fun i=>(h.sl i).sI (AV.sP [] (h.vS (VP s.ps []))),fun n=>match CO (BC s.rs (d+1000)++[]) (Eu (RA.all s.ps s.rs) y) n with
              |some r=>some r
              |none=>h.rt n,none⟩
             match JN (BC s.rs (d+1000)) (Eu (RA.all s.ps s.rs) y)with
              | [v]=>K (G.set d v)
              |vs=>K (G.put d (.cmp .tup vs)))else none):=fun h b Z K=>by
      simp only[Bk,B,I,hb,hs,a8u b B];unfold AE.call;rw[b.1];cases U.pd with
      |some p=>rfl
      |none=>
        simp only[];rw[a6q,a3b _ _ _ _ fun a w n A=>L a w n A h b];cases U.uK (s.rs.any RA.sQ || (JH s.ps).any RA.sQ) [] s.ps (c.args.toList.map U.sM)with
        |none=>rfl
        |some x=>
          grind[qQ]
    cases hpd:U.pd with
    |some p=>simp_all[CG.none]
    |none=>
      rw[hpd]at m;cases q:U.uK u [] s.ps (c.args.toList.map U.sM)with
      |none=>simp_all[CG.none]
      |some x=>
        cases hy:s.F x with
        |none=>
          simp_all[CG.none]
        |some y=>
          let g:=Eu (RA.all s.ps s.rs) y
          let j:=BC s.rs (d+1000)
          let N:SV:=match JN j g with
            | [v]=>.one v
            |vs=>.cmp .tup vs

          have D:=a6r u s.ps _ _ x q;have l:RA.all s.ps s.rs=s.rs:=by rw[RA.all,D];simp
          have H:g.length=s.rs.length:=by rw[show g=Eu (RA.all s.ps s.rs) y from rfl,LM,l]
          have M:(Gl (j++[]) g).map (·.1)=t:=Uj s.rs (d+1000) g (fun k Q O _=>by
            grind[Rp]) (by omega)
          have z:∀n,find (Gl (j++[]) g) n=CO (j++[]) g n:=QW _ _;refine⟨some ⟨Gl (j++[]) g,N⟩,fun δ e=>?_,fun h b Z K=>?_⟩;grind[Ov,Kp,SV.uA,iQ,NW]
          · rw[m h b,q]
            simp only[D1,hy,oB,a2X];rw[show((Gl (j++[]) g).all fun p=>A3 (p.1<pinned)&&(h.rt p.1).isNone)=t.all fun n=>A3 (n<pinned)&&(h.rt n).isNone from by grind[List.all_map]];cases (t.all fun n=>A3 (n<pinned)&&(h.rt n).isNone)with
            |false=>rfl
            |true=>
              simp only[cT];have P:∀E:SV,(⟨fun i=>(h.sl i).sI (AV.sP [] (h.vS (VP s.ps []))),fun n=>match CO (BC s.rs (d+1000)++[]) (Eu (RA.all s.ps s.rs) y) n with
                  |some r=>some r
                  |none=>h.rt n,none⟩:AE).put d E=(Dl.mk (Gl (j++[]) g) E).app d h:=fun E=>by
                simp only[AE.put,Dl.app];congr 1;funext i;rw[a9M]
                have:(h.sl i).sI id=h.sl i:=by cases h.sl i<;>simp[SV.sI]
                grind;grind;all_goals exact(b.1.trans hpd).symm
              grind[AE.set]
end
section
variable {cx:Cx} {o:Oper} {d:Nat} {U:AE}
theorem a0R(h:o.dst=some d):CG cx o d U:=by
 cases ho:o.op
 case move x=>exact b1M ho h
 case assign x=>exact a6j ho h
 case pick x y u=>exact b1N ho h
 case alloc t=>exact a9F ho h
 case box t x=>exact b5c ho h
 case build t x=>exact a9G ho h
 case buildSlice t n x=>grind[iM]
 case load t x=>exact b1O ho h
 case nilCheck x=>exact a0P ho h
 case binOp op t x y s=>exact a9H ho h
 case unOp op t x=>exact b1R ho h
 case convert s t x=>exact a2Y ho h
 case makeSlice t x y=>grind[nN]
 case slice t x u v m=>exact a9I ho h
 case fieldAddr s x f=>grind[nO]
 case field s x f=>exact a9J ho h
 case indexAddr t x i=>grind[nP]
 case index t x i=>exact a9K ho h
 case extract x i=>exact a2Z ho h
 case makeFunc fn first caps=>exact a0O ho h
 case store t x y=>simp_all[CG.none,Bk]
 case call c=>
  cases hc:c.callee with
  |builtin b=>simp_all[a3a]
  |invoke r n=>simp_all[CG.none,Bk]
  |value v=>
   cases v with
   |func f=>exact b1T ho hc h
   |tmp t=>simp_all[CG.none,Bk]
   |_=>simp_all[CG.none,Bk]
 all_goals exact CG.none fun g k Z K=>by simp only[Bk,ho,h]
theorem b1U(U:AE){g:Nat}{sv:SV}(h:U.sl g=sv):U.put g sv=U:=by
 obtain⟨a,k,f⟩:=U;simp only[AE.put];congr 1;grind
theorem FL{ops:Array Oper}{t:Nat}(h:t∈AH o):t∈o.looksAt ops:=by
 simp only[Oper.looksAt,mA];exact .inl h
theorem cD{ops:Array Oper}{j g:Nat}{h:Bool}(f:o.guard=some (j,h))(k:Ti ops.toList j=some g):g∈o.looksAt ops:=by
 simp_all[Oper.looksAt,Ti]
def DK(ops:Array Oper)(o:Oper)(U:AE):Option Bool:=match o.guard with
 |none=>some true
 |some (j,want)=>match Ti ops.toList j with
  |none=>none
  |some g=>match U.get g with
   |.val .bool (b:Bool)=>some (b==want)
   |.skp=>some false
   |_=>none
theorem JQ{Z:Type}{ops:Array Oper}{k:Md}(U:AE)(K:AE->Rs Z):BJ cx k ops.toList o U K=(match DK ops o U with
  |some true=>KM cx k o U K
  |some false=>K (U.uD o.dst .skp)
  |none=>none):=by
 unfold BJ DK;cases hg:o.guard with
 |none=>rfl
 |some p=>
  obtain⟨j,a⟩:=p
  simp
  cases hj:Ti ops.toList j with
  |none=>rfl
  |some g=>
   simp
   have f:∀(v:AV),v≠.dead->U.get g=v->U.set g v=U:=fun v b h=>b1U U (by
    grind[AE.get])
   grind
theorem FV{Z:Type}{ops:Array Oper}{h:Md}(g:o.dst=some d)(U:AE)(K:AE->Rs Z):BJ cx h ops.toList o U K=(match DK ops o U with
  |some true=>KM cx h o U K
  |some false=>K (U.put d (.one .skp))
  |none=>none):=by
 rw[JQ,g];rfl
theorem HN{ops:Array Oper}{U U2:AE}(h:∀t∈o.looksAt ops,U2.sl t=U.sl t):DK ops o U2=DK ops o U:=by
 grind[DK,AE.get,cD]
theorem a0S{ops:Array Oper}{j g:Nat}{f:Bool}(k:o.guard=some (j,f))(a:Ti ops.toList j=some g)(h:DK ops o U≠none):(U.sl g).uA=true:=by
 unfold DK at h;rw[k]at h;simp only[a,AE.get]at h;cases hs:U.sl g with
 |cmp b c=>simp_all
 |one v=>
  rw[hs]at h;cases v<;>first|rfl|simp_all
def Zp(T:List Nat)(U U2:AE):Prop:=U2.pd=U.pd/\∀t∈T,U2.sl t=U.sl t/\∀n∈(U.sl t).refs,U2.rt n=U.rt n
theorem Zp.sub{ops:Array Oper}{U U2:AE}(h:Zp (o.looksAt ops) U U2):Ew (AH o) U U2:=⟨h.1,fun t g=>h.2 t (FL g)⟩
theorem qR{α:Type}{l:List (Nat×α)}{n:Nat}:find l n=none↔∀p∈l,p.1≠n:=by
 induction l with
 |nil=>simp[find]
 |cons p l h=>
  obtain⟨k,x⟩:=p;simp only[find,mC,forall_eq_or_imp];grind
theorem Zq{Z:Type}{r:Option Dl}{U2:AE}{K:AE->Rs Z}{z:Z}(h:a2X r d U2 K=some z):∃δ,r=some δ/\(∀n,find δ.rs n≠none->U2.rt n=none)/\K (δ.app d U2)=some z/\(δ.rs.all fun p=>A3 (p.1<pinned))=true:=by
 cases r with
 |none=>cases h
 |some δ=>
  simp[a2X]at h;obtain⟨g,h⟩:=(Ah h).elim id fun h=>by grind
  refine⟨δ,rfl,fun n k=>?_,h,?_⟩;by_cases e:∃p∈δ.rs,p.1=n;obtain⟨p,f,rfl⟩:=e
  have:=lA.1 g p f
  simp_all;simp_all[qR];grind
theorem a0T{Z:Type}{δ:Dl}{U2:AE}{K:AE->Rs Z}(g:(δ.rs.all fun p=>A3 (p.1<pinned))=true)(f:∀n,find δ.rs n≠none->U2.rt n=none):a2X (some δ) d U2 K=K (δ.app d U2):=by
 simp[a2X];rw[show(δ.rs.all fun p=>A3 (p.1<pinned)&&(U2.rt p.1).isNone)=true from lA.2 fun p h=>by
  have a:=lA.1 g p h;have b:=f p.1 fun e=>qR.1 e p h rfl;simp_all]
 rfl
theorem qS{v:AV}(h:v.uA=true):v.refs=[]:=by cases v<;>first|rfl|cases h
theorem PU{sv:SV}(h:sv.uA=true):sv.refs=[]:=by
 cases sv with
 |one v=>exact qS h
 |cmp f k=>
  simp[SV.refs];exact fun v g=>qS (lA.1 h v g)
theorem iR{sv:SV}(h:sv.uA=true):sv.alive=true:=by
 have one:∀v:AV,v.uA=true->v.alive=true:=fun v h=>by cases v<;>first|rfl|cases h
 cases sv with
 |one v=>exact one v h
 |cmp f k=>exact lA.2 fun v g=>one v (lA.1 h v g)
def BX(ops:Array Oper)(o:Oper):List Nat:=match o.guard with
 |none=>[]
 |some (j,_)=>(Ti ops.toList j).toList
theorem De{ops:Array Oper}{t:Nat}(h:t∈BX ops o):t∈o.looksAt ops:=by
 grind[BX,cD]
theorem BZ{ops:Array Oper}{U U2:AE}(h:∀t∈BX ops o,U2.sl t=U.sl t):DK ops o U2=DK ops o U:=by
 grind[DK,BX,AE.get]
theorem IF{ops:Array Oper}(h:DK ops o U≠none):∀t∈BX ops o,(U.sl t).uA=true:=by
 grind[BX,a0S]
theorem b9z{Z:Type}{ops:Array Oper}(a:o.dst=some d){K:AE->Rs Z}{z:Z}(f:BJ cx .q ops.toList o U K=some z):
  ∃(δ:Dl)(L:List Nat),(∀t∈L,t∈o.looksAt ops/\∀n∈(U.sl t).refs,U.rt n≠none)/\K (δ.app d U)=some z/\(∀n,find δ.rs n≠none->U.rt n=none)/\
   ∀U2,Zp L U U2->(∀n,find δ.rs n≠none->U2.rt n=none)->∀{Z2:Type}(i:AE->Rs Z2),BJ cx .q ops.toList o U2 i=i (δ.app d U2):=by
 rw[FV a]at f;cases hl:DK ops o U with
 |none=>simp_all
 |some b=>
  have v:=IF (ops:=ops) (U:=U) (o:=o) (by simp_all);have j:∀t∈BX ops o,t∈o.looksAt ops/\∀n∈(U.sl t).refs,U.rt n≠none:=fun t g=>⟨De g,fun n k=>by simp_all[PU]⟩;rw[hl]at f;cases b with
  |false=>
   refine⟨⟨[],.one .skp⟩,BX ops o,j,f,fun n k=>absurd rfl k,fun U2 c _ Z2 i=>?_⟩;rw[FV a,BZ fun t g=>(c.2 t g).1,hl];rfl
  |true=>
   simp only[KM,a]at f;obtain⟨C,f⟩:=(Ah f).elim id fun h=>by grind
   have l:∀t∈AH o,∀n∈(U.sl t).refs,U.rt n≠none:=fun t g n k=>by
    obtain⟨x,m,A⟩:=C8.1 g;grind
   obtain⟨r,y,w⟩:=a0R (cx:=cx) (U:=U) a;rw[w U Ew.refl]at f;obtain⟨δ,rfl,p,u,B⟩:=Zq f;refine⟨δ,AH o++BX ops o,fun t g=>?_,u,p,fun U2 c k Z2 i=>?_⟩;grind[FL]
   ·rw[FV a,BZ fun t g=>(c.2 t (A7 _ g)).1,hl];simp only[KM,a];have e:Ew (AH o) U U2:=⟨c.1,fun t g=>c.2 t (A9 _ g)⟩;refine(congrArg (fun b=>bif b then _ else none) (lA.2 fun x m=>?_)).trans ?_
    ·cases x with
     |tmp t=>
      simp only[];have g:=EI m;refine lA.2 fun n k=>?_
      rw[(e.2 t g).1]at k;rw[(e.2 t g).2 n k];grind
     |_=>rfl
    simp
    grind[a0T]
theorem a0U{v:AV}(h:v.uA=true):v.calm=true:=by
 cases v with
 |ptr n p=>cases h
 |_=>exact h
theorem WB{sv:SV}(h:sv.uA=true):sv.calm=true:=by
 cases sv with
 |one v=>exact a0U h
 |cmp c g=>exact h
theorem Uk{U U2:AE}(h:∀t∈AH o,U2.sl t=U.sl t):VQ o U2=VQ o U:=by
 grind[VQ,a2B,AH,Op.operands]
theorem b1V{Z:Type}{ops:Array Oper}(e:o.dst=some d){K:AE->Rs Z}{z:Z}(f:BJ cx .v ops.toList o U K=some z):
  ∃(sv:SV)(L:List Nat),sv.calm=true/\(∀t∈L,t∈o.looksAt ops/\(U.sl t).calm=true)/\K (U.put d sv)=some z/\
   ∀U2,U2.pd=U.pd->(∀t∈L,U2.sl t=U.sl t)->∀{Z2:Type}(a:AE->Rs Z2),BJ cx .v ops.toList o U2 a=a (U2.put d sv):=by
 rw[FV e]at f;cases hl:DK ops o U with
 |none=>simp_all
 |some b=>
  have w:=IF (ops:=ops) (U:=U) (o:=o) (by simp_all);rw[hl]at f;cases b with
  |false=>
   refine⟨.one .skp,BX ops o,rfl,fun t g=>⟨De g,WB (w t g)⟩,f,fun U2 _ l Z2 a=>?_⟩;grind[FV,BZ]
  |true=>
   simp only[KM,e]at f;cases hp:VQ o U with
   |some n=>
    rw[hp]at f;obtain⟨t,N,O,y⟩:=WA hp;have E:t∈AH o:=by
     grind[AH,Op.operands]
    have q:(U.sl t).calm=true:=by simp_all[SV.calm,AV.calm]
    refine⟨.one (.ptr n []),[t]++BX ops o,by simp_all,fun H g=>?_,f,fun U2 i l Z2 a=>?_⟩;rcases mA.1 g with g|g;obtain rfl:H=t:=by simp_all
    simp_all[FL];simp_all[De,WB];grind[FV,BZ,KM,Uk,AH,Op.operands]
   |none=>
   rw[hp]at f;simp only[]at f;obtain⟨M,f⟩:=(Ah f).elim id fun h=>by grind
   have u:∀t∈AH o,(U.sl t).uA=true:=fun t g=>by
    obtain⟨x,F,G⟩:=C8.1 g;grind
   obtain⟨r,A,B⟩:=a0R (cx:=cx) (U:=U) e;rw[B U Ew.refl]at f;obtain⟨δ,rfl,I,m,C⟩:=Zq f;obtain⟨D,m⟩:=(Ah m).elim id fun h=>by grind
   have k:δ.sv.uA=true:=by simpa[Dl.app]using D
   have j:=(A δ rfl).1 k;obtain⟨P,sv⟩:=δ;simp only at j k;subst j;refine⟨sv,AH o++BX ops o,WB k,fun t g=>?_,m,fun U2 i l Z2 a=>?_⟩;grind[FL,WB,De];rw[FV e,BZ fun t g=>l t (A7 _ g),hl];simp only[KM,e];have c:∀t∈AH o,U2.sl t=U.sl t:=fun t g=>l t (A9 _ g);have p:Ew (AH o) U U2:=⟨i,fun t g=>⟨c t g,fun n y=>by simp_all[PU]⟩⟩;rw[Uk c,hp];simp only[];refine(congrArg (fun b=>bif b then _ else none) (lA.2 fun x F=>?_)).trans ?_
   grind[EI]
   simp
   rw[B U2 p,a0T C (fun n y=>absurd rfl y)];show(bif (((Dl.mk [] sv).app d U2).sl d).uA then a ((Dl.mk [] sv).app d U2)else none)=_;rw[show((Dl.mk [] sv).app d U2).sl d=sv from by simp[Dl.app],k];rfl
theorem a3c{Z:Type}{ops:Array Oper}(c:o.dst=some d){K:AE->Rs Z}{z:Z}(g:BJ cx .p ops.toList o U K=some z):
  ∃(sv:SV)(L:List Nat),sv.calm=true/\(∀t∈L,t∈o.looksAt ops/\(U.sl t).calm=true)/\K (U.put d sv)=some z/\
   ∀U2,(∀t∈L,U2.sl t=U.sl t)->∀{Z2:Type}(f:AE->Rs Z2),BJ cx .p ops.toList o U2 f=f (U2.put d sv):=by
 rw[FV c]at g;cases hl:DK ops o U with
 |none=>simp_all
 |some b=>
  have a:=IF (ops:=ops) (U:=U) (o:=o) (by simp_all);rw[hl]at g;cases b with
  |false=>
   refine⟨.one .skp,BX ops o,rfl,fun t h=>⟨De h,WB (a t h)⟩,g,fun U2 e Z2 f=>?_⟩;grind[FV,BZ]
  |true=>
   simp[KM,c]at g;cases hp:VQ o U with
   |none=>simp_all
   |some n=>
    rw[hp]at g;obtain⟨t,m,q,l⟩:=WA hp;have i:t∈AH o:=by
     grind[AH,Op.operands]
    have k:(U.sl t).calm=true:=by simp_all[SV.calm,AV.calm]
    refine⟨.one (.ptr n []),[t]++BX ops o,by simp_all,fun j h=>?_,g,fun U2 e Z2 f=>?_⟩;rcases mA.1 h with h|h;obtain rfl:j=t:=by simp_all
    simp_all[FL];simp_all[De,WB];grind[FV,BZ,KM,Uk,AH,Op.operands]
theorem Nw{a b:List Nat}(h:a0t a b=true){n:Nat}(g:n∈a):n∈b:=by
 have:=lA.1 h n g
 simp_all
theorem b1W{Z:Type}{ops:Array Oper}{ns:List Nat}(e:o.dst=some d){K:AE->Rs Z}{z:Z}(a:BJ cx (.r ns) ops.toList o U K=some z):
  ∃(δ:Dl)(L:List Nat),(∀t∈L,t∈o.looksAt ops/\(U.sl t).alive=true/\∀n∈(U.sl t).refs,U.rt n≠none/\n∈ns)/\K (δ.app d U)=some z/\(∀n,find δ.rs n≠none->U.rt n=none/\n∈ns)/\(∀n∈δ.sv.refs,n∈ns)/\
   ∀U2,Zp L U U2->(∀n,find δ.rs n≠none->U2.rt n=none)->∀{Z2:Type}(l:AE->Rs Z2),BJ cx (.r ns) ops.toList o U2 l=l (δ.app d U2):=by
 rw[FV e]at a;cases hl:DK ops o U with
 |none=>simp_all
 |some b=>
  have p:=IF (ops:=ops) (U:=U) (o:=o) (by simp_all);have q:∀t∈BX ops o,t∈o.looksAt ops/\(U.sl t).alive=true/\∀n∈(U.sl t).refs,U.rt n≠none/\n∈ns:=fun t f=>⟨De f,iR (p t f),fun n g=>by simp_all[PU]⟩;rw[hl]at a;cases b with
  |false=>
   refine⟨⟨[],.one .skp⟩,BX ops o,q,a,fun n g=>absurd rfl g,fun n g=>(by cases g),fun U2 i _ Z2 l=>?_⟩;rw[FV e,BZ fun t f=>(i.2 t f).1,hl];rfl
  |true=>
   simp only[KM,e]at a;obtain⟨y,a⟩:=(Ah a).elim id fun h=>by grind
   obtain⟨y,j⟩:=B6.1 y;have v:∀t∈AH o,(U.sl t).alive=true/\∀n∈(U.sl t).refs,U.rt n≠none/\n∈ns:=fun t f=>by
    obtain⟨x,B,F⟩:=C8.1 f;grind
   obtain⟨r,u,A⟩:=a0R (cx:=cx) (U:=U) e;rw[A U Ew.refl]at a;obtain⟨δ,rfl,C,m,D⟩:=Zq a;obtain⟨k,m⟩:=(Ah m).elim id fun h=>by grind
   have w:(δ.app d U).sl d=δ.sv:=by simp[Dl.app]
   rw[w]at k;refine⟨δ,AH o++BX ops o,fun t f=>?_,m,fun n g=>⟨C n g,?_⟩,fun n g=>Nw k g,fun U2 i g Z2 l=>?_⟩;grind[FL]
   have:=(u δ rfl).2 n g
   refine Nw j ?_
   simp_all
   ·rw[FV e,BZ fun t f=>(i.2 t (A7 _ f)).1,hl];simp only[KM,e];have c:Ew (AH o) U U2:=⟨i.1,fun t f=>i.2 t (A9 _ f)⟩;refine(congrArg (fun b=>bif b then _ else none) (B6.2 ⟨lA.2 fun x B=>?_,j⟩)).trans ?_
    ·cases x with
     |tmp t=>
      simp only[];have f:=EI B;have E:=(c.2 t f).1;refine B6.2 ⟨by simp_all,lA.2 fun n g=>?_⟩;rw[E]at g;rw[(c.2 t f).2 n g];grind
     |_=>rfl
    simp
    rw[A U2 c,a0T D g];grind[Dl.app]
def nF(o:Option sO):Option Ty:=o.map (·.t)
theorem b1X{a b:Option sO}(h:nF a=nF b):a.isSome=b.isSome:=by cases a<;>cases b<;>first|rfl|cases h
theorem cE{U2:AE}{x:Operand}(h:∀t,x=.tmp t->U2.sl t=U.sl t/\∀n∈(U.sl t).refs,nF (U2.rt n)=nF (U.rt n)):U2.wB x=U.wB x:=by
 cases x with
 |tmp t=>
  obtain⟨f,g⟩:=h t rfl;simp only[AE.wB,f];generalize U.sl t=sv at g;split;rename_i n p
  have:=g n (by simp[SV.refs,AV.refs])
  cases h3:U.rt n<;>cases h4:U2.rt n<;>rw[h3,h4]at this<;>first|rfl|cases this|skip
  rename_i r k;simp only[nF,E3,sj]at this;simp only[this];rfl
 |_=>rfl
theorem a6s{U2:AE}(h:∀t∈AH o,U2.sl t=U.sl t/\∀n∈(U.sl t).refs,nF (U2.rt n)=nF (U.rt n)):U2.stay cx o=U.stay cx o:=by
 unfold AE.stay;split
 ·rename_i t g;obtain⟨e,d⟩:=h t (by simp[AH,g,Op.operands]);rw[e];generalize U.sl t=sv at d;cases sv with
  |one v=>
   simp only[]
   have:(v.refs.all fun n=>(U2.rt n).isSome)=v.refs.all fun n=>(U.rt n).isSome:=by
    have k:∀n∈v.refs,nF (U2.rt n)=nF (U.rt n):=d;generalize v.refs=l at k
    induction l with
    |nil=>rfl
    |cons a l j=>simp only[C1];rw[b1X (k a (by simp)),j fun n i=>k n (by simp[i])]
   rw[this]
  |cmp c m=>rfl
 rename_i s x f g;rw[cE (U:=U) (x:=x) fun t b=>h t (by subst b;simp[AH,g,Op.operands])];rename_i s x g;rw[cE (U:=U) (x:=x) fun t b=>h t (by subst b;simp[AH,g,Op.operands])];rfl
theorem a6t{v:AV}(g:U.stay cx o=some v)(hv:v.still=true):∀t∈AH o,(U.sl t).still=true/\∀n∈(U.sl t).refs,U.rt n≠none:=by
 have i:∀(t:Nat)(n:Nat)(p:BN)(r:sO),U.sl t=.one (.ptr n p)->U.rt n=some r->p.all Step.tZ=true->(U.sl t).still=true/\∀n∈(U.sl t).refs,U.rt n≠none:=fun t n p r b c j=>by
  rw[b];refine⟨j,fun m w=>?_⟩
  have:m=n:=by simpa[SV.refs,AV.refs]using w
  subst this;rw[c];simp
 unfold AE.stay at g;split at g;rename_i t d;split at g;rename_i u z;obtain⟨l,g⟩:=(Ah g).elim id fun h=>by cases h.2
 cases g;obtain⟨-,l⟩:=B6.1 l;intro a k;obtain rfl:a=t:=by simpa[AH,d,Op.operands]using k
 rw[z];exact⟨hv,fun n y=>Option.isSome_iff_ne_none.1 (lA.1 l n y)⟩;cases g;rename_i s x f d;split at g;rename_i n p τ q;obtain⟨t,r,rfl,b,c,j⟩:=So q;split at g;cases g;intro a k;obtain rfl:a=t:=by simpa[AH,d,Op.operands]using k
 exact i a n p r b c (by simp only[AV.still,List.all_append,EV]at hv;exact hv.1);cases g;cases g;rename_i s x d;split at g;rename_i n p e q;obtain⟨t,r,rfl,b,c,j⟩:=So q;split at g;obtain⟨-,g⟩:=(Ah g).elim id fun h=>by cases h.2
 cases g;intro a k;obtain rfl:a=t:=by simpa[AH,d,Op.operands]using k
 exact i a n p r b c hv;cases g;cases g;cases g
theorem a6u{sv:SV}(h:sv.uA=true):sv.still=true:=by
 cases sv with
 |one v=>cases v<;>first|rfl|cases h
 |cmp c g=>exact h
theorem b1Y{Z:Type}{ops:Array Oper}(k:o.dst=some d){K:AE->Rs Z}{z:Z}(f:BJ cx .s ops.toList o U K=some z):
  ∃(sv:SV)(L:List Nat),sv.still=true/\(∀t∈L,t∈o.looksAt ops/\(U.sl t).still=true/\∀n∈(U.sl t).refs,U.rt n≠none)/\K (U.put d sv)=some z/\
   ∀U2,(∀t∈L,U2.sl t=U.sl t/\∀n∈(U.sl t).refs,nF (U2.rt n)=nF (U.rt n))->(U.uS=true->U2.uS=true)->∀{Z2:Type}(e:AE->Rs Z2),BJ cx .s ops.toList o U2 e=e (U2.put d sv):=by
 rw[FV k]at f;cases hl:DK ops o U with
 |none=>rw[hl]at f;cases f
 |some b=>
  have a:=IF (ops:=ops) (U:=U) (o:=o) (by rw[hl];simp);have c:∀t∈BX ops o,t∈o.looksAt ops/\(U.sl t).still=true/\∀n∈(U.sl t).refs,U.rt n≠none:=fun t g=>⟨De g,a6u (a t g),fun n p=>by rw[PU (a t g)]at p;cases p⟩;rw[hl]at f;cases b with
  |false=>
   refine⟨.one .skp,BX ops o,rfl,c,f,fun U2 i _ Z2 e=>?_⟩;rw[FV k,BZ fun t g=>(i t g).1,hl]
  |true=>
   simp only[KM,k]at f;cases hs:U.stay cx o with
   |none=>rw[hs]at f;cases f
   |some v=>
    rw[hs]at f;obtain⟨q,f⟩:=(Ah f).elim id fun h=>by cases h.2
    obtain⟨m,j⟩:=B6.1 q;have l:=a6t hs m;refine⟨.one v,AH o++BX ops o,m,fun t g=>?_,f,fun U2 i r Z2 e=>?_⟩;rcases mA.1 g with g|g;exact⟨FL g,l t g⟩;exact c t g;rw[FV k,BZ fun t g=>(i t (A7 _ g)).1,hl];simp only[KM,k];rw[a6s fun t g=>i t (A9 _ g),hs];simp only[m,r j,Bool.and_self,cT]
def Md.reads:Md->Nat->Prop
 |.q,_=>True
 |.s,_=>True
 |.r ns,n=>n∈ns
 |_,_=>False
def Md.quiet:Md->Prop
 |.v|.p|.q|.s|.r _=>True
 |_=>False
def Md.yZ:Md->Bool
 |.v|.p=>true
 |_=>false
def a6v(md:Md)(T:List Nat)(U U2:AE):Prop:=U2.pd=U.pd/\∀t∈T,U2.sl t=U.sl t/\∀n∈(U.sl t).refs,md.yZ=false->U2.rt n=U.rt n
theorem a6w{Z:Type}{ops:Array Oper}{y:Md}(j:y.quiet)(A:o.dst=some d){K:AE->Rs Z}{z:Z}(B:BJ cx y ops.toList o U K=some z):
  ∃(δ:Dl)(L:List Nat),(∀t∈L,t∈o.looksAt ops/\∀n∈(U.sl t).refs,y.yZ=false->y.reads n/\U.rt n≠none)/\K (δ.app d U)=some z/\(∀n,find δ.rs n≠none->U.rt n=none)/\
   ∀U2,a6v y L U U2->(∀n,find δ.rs n≠none->U2.rt n=none)->∀{Z2:Type}(l:AE->Rs Z2),BJ cx y ops.toList o U2 l=l (δ.app d U2):=by
 cases y with
 |v=>
  obtain⟨C,L,i,c,m,u⟩:=b1V A B;exact⟨⟨[],C⟩,L,fun t h=>⟨(c t h).1,fun n f e=>by cases e⟩,m,fun n f=>absurd rfl f,fun U2 k _ Z2 l=>u U2 k.1 (fun t h=>(k.2 t h).1) l⟩
 |q=>
  obtain⟨δ,L,i,c⟩:=b9z A B;exact⟨δ,L,fun t h=>⟨(i t h).1,fun n f _=>⟨trivial,(i t h).2 n f⟩⟩,c.1,c.2.1,fun U2 k=>c.2.2 U2 ⟨k.1,fun t h=>⟨(k.2 t h).1,fun n f=>(k.2 t h).2 n f rfl⟩⟩⟩
 |r E=>
  obtain⟨δ,L,i,c,m,-,u⟩:=b1W A B;exact⟨δ,L,fun t h=>⟨(i t h).1,fun n f _=>⟨((i t h).2.2 n f).2,((i t h).2.2 n f).1⟩⟩,c,fun n f=>(m n f).1,fun U2 k=>u U2 ⟨k.1,fun t h=>⟨(k.2 t h).1,fun n f=>(k.2 t h).2 n f rfl⟩⟩⟩
 |p=>
  obtain⟨C,L,i,c,m,u⟩:=a3c A B;exact⟨⟨[],C⟩,L,fun t h=>⟨(c t h).1,fun n f e=>by cases e⟩,m,fun n f=>absurd rfl f,fun U2 k _ Z2 l=>u U2 (fun t h=>(k.2 t h).1) l⟩
 |s=>
  obtain⟨C,L,i,c,m,u⟩:=b1Y A B;exact⟨⟨[],C⟩,L,fun t h=>⟨(c t h).1,fun n f _=>⟨trivial,(c t h).2.2 n f⟩⟩,m,fun n f=>absurd rfl f,fun U2 k _ Z2 l=>u U2 (fun t h=>⟨(k.2 t h).1,fun n f=>by rw[(k.2 t h).2 n f rfl]⟩) (fun g=>by unfold AE.uS at g|-;rw[k.1];exact g) l⟩
 |x=>cases j
 |b D=>cases j
 |a D=>cases j
 |w D=>cases j
end
def FP(f:AV->AV):Prop:=(∀v:AV,v.calm=true->f v=v)/\∀v:AV,(f v).calm=true->f v=v
theorem FP.id:FP id:=⟨fun _ _=>rfl,fun _ _=>rfl⟩
def FW(W:List Nat)(f:AV->AV):Prop:=(∀v:AV,(∀n∈v.refs,n∉W)->f v=v)/\(∀v:AV,f v=v\/f v=.dead)/\∀n,pinned<=n->f (.ptr n [])=.ptr n []
theorem FW.id{W:List Nat}:FW W id:=⟨fun _ _=>rfl,fun _=>.inl rfl,fun _ _=>rfl⟩
theorem FW.comp{W:List Nat}{f g:AV->AV}(k:FW W f)(a:FW W g)(c:g .dead=.dead:=by rfl):FW W (fun v=>g (f v)):=by
 refine⟨fun v h=>?_,fun v=>?_,fun n b=>?_⟩;show g (f v)=v;rw[k.1 v h];exact a.1 v h;show g (f v)=v\/g (f v)=.dead;rcases k.2.1 v with h|h;rw[h];exact a.2.1 v;simp_all;show g (f _)=_;rw[k.2.2 n b];exact a.2.2 n b
theorem FW.dead{W:List Nat}{f:AV->AV}(h:FW W f):f .dead=.dead:=(h.2.1 .dead).elim _root_.id _root_.id
theorem FW.fp{W:List Nat}{f:AV->AV}(k:FW W f):FP f:=by
 refine⟨fun v h=>?_,fun v h=>?_⟩
 ·cases v with
  |ptr n p=>
   cases p with
   |nil=>exact k.2.2 n (by simpa[AV.calm]using h)
   |cons=>simp_all[AV.calm,AV.uA]
  |sref=>cases h
  |swin=>cases h
  |_=>exact k.1 _ fun n a=>(by cases a)
 rcases k.2.1 v with g|g;omega;rw[g]at h;cases h
theorem nb{W:List Nat}{m n:Nat}(g:n∈W)(h:∀k∈[m],k∉W):(m==n)=false:=by
 grind
theorem FW.drop{W:List Nat}{n:Nat}(g:n∈W)(hp:n<pinned):FW W (AV.drop n):=by
 refine⟨fun v h=>?_,fun v=>?_,fun m f=>?_⟩
 ·cases v with
  |ptr m q=>simp only[AV.drop,nb g h,A6,if_false]
  |sref m q=>simp only[AV.drop,nb g h,A6,if_false]
  |swin m q o l=>simp only[AV.drop,nb g h,A6,if_false]
  |_=>rfl
 ·cases v with
  |ptr m q=>simp only[AV.drop];split<;>simp
  |sref m q=>simp only[AV.drop];split<;>simp
  |swin m q o l=>simp only[AV.drop];split<;>simp
  |_=>exact .inl rfl
 have:(m==n)=false:=by simp only[beq_eq_false_iff_ne];omega
 simp[AV.drop,this]
theorem FW.kill{W:List Nat}{n:Nat}(g:n∈W)(p:BN):FW W (AV.kill n p):=by
 refine⟨fun v h=>?_,fun v=>?_,fun m f=>by simp[AV.kill]⟩
 ·cases v with
  |ptr m q=>simp only[AV.kill,nb g h,D4,A6,if_false]
  |sref m q=>simp only[AV.kill,nb g h,D4,A6,if_false]
  |swin m q o l=>simp only[AV.kill,nb g h,D4,A6,if_false]
  |_=>rfl
 ·cases v with
  |ptr m q=>simp only[AV.kill];split<;>simp
  |sref m q=>simp only[AV.kill];split<;>simp
  |swin m q o l=>simp only[AV.kill];split<;>simp
  |_=>exact .inl rfl
theorem FW.sP{W us ks:List Nat}(a:∀n∈us,n∈W):FW W (AV.sP us ks):=by
 have g:∀m,(∀k∈[m],k∉W)->us.contains m=false:=fun m h=>by
  grind
 refine⟨fun v h=>?_,fun v=>?_,fun m f=>by simp[AV.sP]⟩
 ·cases v with
  |ptr m q=>simp only[AV.sP,g m h,A6,if_false]
  |sref m q=>simp only[AV.sP,g m h,A6,if_false]
  |swin m q o l=>simp only[AV.sP,g m h,A6,if_false]
  |_=>rfl
 ·cases v with
  |ptr m q=>
   simp only[AV.sP];split;cases q<;>simp
   simp
  |sref m q=>
   simp only[AV.sP];split
   ·cases q with
    |nil=>simp only[];split<;>simp
    |cons=>simp
   simp
  |swin m q o l=>simp only[AV.sP];split<;>simp
  |_=>exact .inl rfl
theorem FP.sv{f:AV->AV}(g:FP f){sv:SV}(h:sv.calm=true):sv.sI f=sv:=by
 cases sv with
 |one v=>simp only[SV.sI];rw[g.1 v h]
 |cmp a b=>
  simp only[SV.sI];congr 1;refine(B4 fun v k=>g.1 v (a0U (lA.1 h v k))).trans (D6 _)
theorem FP.xH{f:AV->AV}(g:FP f){sv:SV}(h:(sv.sI f).calm=true):sv.sI f=sv:=by
 cases sv with
 |one v=>simp only[SV.sI]at h|-;rw[g.2 v h]
 |cmp a b=>
  simp only[SV.sI]at h|-;congr 1;refine(B4 fun v k=>g.2 v (a0U (lA.1 h _ (F0 k)))).trans (D6 _)
theorem FW.sv{W:List Nat}{f:AV->AV}(g:FW W f){sv:SV}(h:∀n∈sv.refs,n∉W):sv.sI f=sv:=by
 cases sv with
 |one v=>simp only[SV.sI];rw[g.1 v h]
 |cmp b c=>
  simp only[SV.sI];congr 1;refine(B4 fun v a=>g.1 v fun n k=>h n (E1.2 ⟨v,a,k⟩)).trans (D6 _)
theorem FW.xH{W:List Nat}{f:AV->AV}(a:FW W f){sv:SV}(h:(sv.sI f).alive=true):sv.sI f=sv:=by
 have one:∀v:AV,(f v).alive=true->f v=v:=fun v k=>by
  rcases a.2.1 v with g|g;omega;rw[g]at k;cases k
 cases sv with
 |one v=>simp only[SV.sI]at h|-;rw[one v h]
 |cmp b c=>
  simp only[SV.sI]at h|-;congr 1;refine(B4 fun v k=>one v (lA.1 h _ (F0 k))).trans (D6 _)
theorem FW.refs{W:List Nat}{f:AV->AV}(a:FW W f){sv:SV}{n:Nat}(h:n∈(sv.sI f).refs):n∈sv.refs:=by
 have one:∀v:AV,n∈(f v).refs->n∈v.refs:=fun v k=>by
  rcases a.2.1 v with g|g;simp_all;rw[g]at k;cases k
 cases sv with
 |one v=>exact one v h
 |cmp b c=>
  simp only[SV.sI,SV.refs,E1]at h|-;grind
structure xJ where
 f:AV->AV
 rt:Nat->Option sO
 sv:SV

 pd:Option (Nat×BN×Nat):=none
def Nx(W:List Nat)(m:xJ)(d:Option Nat)(U:AE):AE:=⟨fun i=>bif d==some i then m.sv else(U.sl i).sI m.f,fun n=>bif W.contains n then m.rt n else U.rt n,U.pd⟩
def IG(W:List Nat)(m:xJ)(d:Option Nat)(U:AE):AE:={ Nx W m d U with pd:=match m.pd with|none=>U.pd|some x=>some x }
theorem iS{W:List Nat}{m:xJ}{d:Option Nat}{U:AE}(h:m.pd=none):IG W m d U=Nx W m d U:=by simp[IG,h];rfl
theorem qT(f g:AV->AV)(sv:SV):(sv.sI f).sI g=sv.sI fun v=>g (f v):=by
 cases sv with
 |one v=>rfl
 |cmp h k=>simp_all[SV.sI]
theorem Pr(sv:SV):sv.sI id=sv:=by cases sv<;>simp[SV.sI]
section
variable {g:Bool} {cx:Cx} {o:Oper} {d:Nat} {U:AE} {W:List Nat}
def b9A{Z:Type}(K:AE->Rs Z):AE->Rs Z:=fun U'=>match U'.pd with
 |none=>K U'
 |some _=>none
def DA(W T:List Nat)(U U2:AE):Prop:=U2.pd=U.pd/\(∀n∈W,U2.rt n=U.rt n)/\∀t∈T,U2.sl t=U.sl t
theorem DA.refl{T:List Nat}:DA W T U U:=⟨rfl,fun _ _=>rfl,fun _ _=>rfl⟩
theorem DA.sM{U2:AE}(h:DA W (AH o) U U2){x:Operand}(g:x∈o.op.operands.toList):U2.sM x=U.sM x:=by
 cases x with
 |tmp t=>simp[AE.sM,AE.get];rw[h.2.2 t (EI g)]
 |_=>rfl
theorem DA.tK{U2:AE}(h:DA W (AH o) U U2){x:Operand}(g:x∈o.op.operands.toList):U2.tK x=U.tK x:=by
 cases x with
 |tmp t=>simp[AE.tK];rw[h.2.2 t (EI g)]
 |_=>rfl
theorem DA.look{T:List Nat}{U2:AE}(h:DA W T U U2){n:Nat}(g:n∈W):U2.look n=U.look n:=by
 simp only[AE.look,h.1,h.2.1 n g]
def cG{Z:Type}(W:List Nat)(r:Option xJ)(d:Option Nat)(U2:AE)(K:AE->Rs Z):Rs Z:=match r with
 |none=>none
 |some m=>K (IG W m d U2)
def a2y{Z:Type}(g:Bool)(K:AE->Rs Z):AE->Rs Z:=bif g then b9A K else K
def EZ(g:Bool)(cx:Cx)(o:Oper)(d:Option Nat)(U:AE)(W:List Nat):Prop:=
 ∃r:Option xJ,(∀m,r=some m->FW W m.f/\(g=true->m.pd=none)/\∀n p d,m.pd=some (n,p,d)->m.f=AV.kill n p/\∀k∈W,nF (m.rt k)=nF (U.rt k))/\∀U2,DA W (AH o) U U2->∀{Z:Type}(K:AE->Rs Z),Bk cx false o U2 (a2y g K)=cG W r d U2 K
theorem EZ.none{d:Option Nat}(h:∀U2,DA W (AH o) U U2->∀{Z:Type}(K:AE->Rs Z),Bk cx false o U2 (a2y g K)=none):EZ g cx o d U W:=⟨.none,by simp,fun U2 f Z K=>h U2 f K⟩
theorem EZ.some{d:Option Nat}(f:AV->AV)(b:FW W f)(sv:SV)(S:List Nat)(e:∀n∈S,n∈W)(k:Nat->Option sO)
  (h:∀U2,DA W (AH o) U U2->∀{Z:Type}(K:AE->Rs Z),Bk cx false o U2 (a2y g K)=K ⟨fun i=>bif d==some i then sv else(U2.sl i).sI f,fun n=>bif S.contains n then k n else U2.rt n,U2.pd⟩):EZ g cx o d U W:=by
 refine⟨.some ⟨f,fun n=>bif S.contains n then k n else U.rt n,sv,.none⟩,fun m c=>by cases c;exact⟨b,fun _=>rfl,fun n p d h=>by cases h⟩,fun U2 a Z K=>?_⟩;rw[h U2 a K];simp only[cG,IG,Nx];congr 2;funext n;cases hs:S.contains n with
 |true=>
  simp_all
 |false=>
  cases hw:W.contains n with
  |true=>simp;exact a.2.1 n (C4.1 hw)
  |false=>rfl
theorem a6x{d:Option Nat}(f:Nat×BN×Nat)(j:FW W (AV.kill f.1 f.2.1))(sv:SV)(S:List Nat)(r:∀n∈S,n∈W)(a:Nat->Option sO)(b:∀n∈S,nF (a n)=nF (U.rt n))(l:g=false)
  (h:∀U2,DA W (AH o) U U2->∀{Z:Type}(K:AE->Rs Z),Bk cx false o U2 (a2y g K)=K ⟨fun i=>bif d==some i then sv else(U2.sl i).sI (AV.kill f.1 f.2.1),fun n=>bif S.contains n then a n else U2.rt n,.some f⟩):EZ g cx o d U W:=by
 refine⟨.some ⟨AV.kill f.1 f.2.1,fun n=>bif S.contains n then a n else U.rt n,sv,.some f⟩,fun m q=>by
  cases q;refine⟨j,fun e=>(by rw[l]at e;cases e),fun n p d e=>?_⟩;cases e;refine⟨rfl,fun k _=>?_⟩;cases hs:S.contains k with
  |true=>simp only[hs,cT];exact b k (C4.1 hs)
  |false=>simp only[hs,cF],fun U2 c Z K=>?_⟩
 rw[h U2 c K];simp only[cG,IG,Nx];congr 2;funext n;cases hs:S.contains n with
 |true=>
  simp_all
 |false=>
  cases hw:W.contains n with
  |true=>simp;exact c.2.1 n (C4.1 hw)
  |false=>rfl
theorem Ps{Z:Type}{K:AE->Rs Z}{f:AE}(h:f.pd=none):a2y g K f=K f:=by cases g<;>simp only[a2y,b9A,h,cT,cF]
theorem Df(n m:Nat):[m].contains n=(n==m):=by grind
theorem a8v{Z:Type}{U2:AE}(h:U2.pd=none)(r:sO)(v:AV)(K:AE->Rs Z):(U2.fresh false d r fun U=>K (U.set d v)) =
  bif A3 (d<pinned)then K ⟨fun i=>bif some d==some i then .one v else(U2.sl i).sI (match U2.rt d with|none=>id|some _=>AV.drop d),fun n=>bif [d].contains n then some r else U2.rt n,U2.pd⟩else none:=by
 have g:∀i,(some d==some i)=(i==d):=fun i=>by
  grind
 unfold AE.fresh;cases A3 (d<pinned);rfl
 ·simp only[cT];cases hr:U2.rt d with
  |none=>
   simp only[AE.uM,hr];congr 1;simp only[AE.set,AE.put,AE.sF,Df,g];simp_all[Pr]
  |some f=>
   simp only[cF,AE.look,h,hr,AE.uM];congr 1;simp only[AE.set,AE.put,AE.sF,Df,g,AE.sI,h]
theorem Zr(b:U.pd=none)(y:d∈W){e:Ty}{x:AV}(z:∀n∈x.refs,n∈W){ys:Option (List e.sJ)}(h:∀U2,DA W (AH o) U U2->∀{Z:Type}(K:AE->Rs Z),Bk cx false o U2 K=ys.elim none fun ys=>U2.uF false d e x ys K):EZ g cx o (some d) U W:=by
 have v:∀i,(some d==some i)=(i==d):=fun i=>by
  grind
 cases ys with
 |none=>simp_all[EZ.none]
 |some ys=>
  have h:∀U2,DA W (AH o) U U2->∀{Z:Type}(K:AE->Rs Z),Bk cx false o U2 K=U2.uF false d e x ys K:=h;have B:(x=.nils\/x=.empt)->EZ g cx o (some d) U W:=fun D=>by
   have h:∀U2,DA W (AH o) U U2->∀{Z:Type}(K:AE->Rs Z),Bk cx false o U2 K=bif Bp ys.length then U2.fresh false d ⟨false,.list true e,ys⟩ fun U=>K (U.set d (.sref d []))else none:=fun U2 f Z K=>by
    rw[h U2 f];rcases D with rfl|rfl<;>rfl
   cases hl:Bp ys.length with
   |false=>simp_all[EZ.none]
   |true=>
    cases hd':A3 (d<pinned)with
    |false=>exact EZ.none fun U2 f Z K=>by rw[h U2 f,hl];simp;rw[a8v (f.1.trans b),hd'];rfl
    |true=>
     refine EZ.some (match U.rt d with|.none=>id|.some _=>AV.drop d) ?_ (.one (.sref d [])) [d] (by simp_all) (fun _=>.some ⟨false,.list true e,ys⟩) fun U2 f Z K=>?_
     grind[FW.id,FW.drop];rw[h U2 f,hl];simp only[cT];rw[a8v (f.1.trans b),hd',f.2.1 d y];simp only[cT];exact Ps (f.1.trans b)
  cases x with
  |nils=>simp_all
  |empt=>simp_all
  |sref n p=>
   have j:n∈W:=z n (by simp[AV.refs]);have c:∀U2,DA W (AH o) U U2->U2.look n=U.rt n:=fun U2 f=>by rw[f.look j];simp only[AE.look,b]
   cases hr:U.rt n with
   |none=>
    simp_all[EZ.none,AE.uF]
   |some r=>
    cases hg:Dc r.t r.x p with
    |mk G l=>
     cases G with
     |list E A=>
      cases E with
      |false=>
       simp_all[EZ.none,AE.uF]
      |true=>
       by_cases he:e=A
       ·subst he;cases hl:Bp (B7 l+ys.length)with
        |false=>
         simp_all[EZ.none,AE.uF]
        |true=>
         by_cases hp:p=[]/\r.bx=false
         ·obtain⟨rfl,w⟩:=hp;cases hnp:A3 (n<pinned)with
          |false=>simp_all[EZ.none,AE.uF]
          |true=>
          refine EZ.some (AV.kill n []) (FW.kill j []) (.one (.sref n [])) [n] (by simp_all) (fun _=>.some ⟨r.bx,r.t,Fc r.t r.x [] (.list true e) (E5 l ys)⟩) fun U2 f Z K=>?_
          rw[h U2 f];simp only[AE.uF,cF,c U2 f,hr,hg,dite_true,hl,cT,w,hnp];rw[Ps (by exact f.1.trans b)];congr 1;simp only[AE.set,AE.put,AE.sF,AE.sI,Df,v]
         ·cases hgg:g with
          |true=>
           refine EZ.none fun U2 f Z K=>?_
           rw[h U2 f];simp[AE.uF,c U2 f,hr,hg,hl];cases p with
           |nil=>
            cases hb:r.bx with
            |false=>simp_all
            |true=>simp[f.1,b];rfl
           |cons a F=>simp[f.1,b];rfl
          |false=>
           refine a6x (n,p,d) (FW.kill j p) (.one (.sref n p)) [n] (by simpa using j) (fun _=>.some ⟨r.bx,r.t,Fc r.t r.x p (.list true e) (E5 l ys)⟩) (fun k C=>by
            have:k=n:=by simpa using C
            subst this;rw[hr];rfl) rfl fun U2 f Z K=>?_
           rw[h U2 f];simp only[AE.uF,cF,c U2 f,hr,hg,dite_true,hl,cT];have m:∀(q u:AE),q=u->a2y false K q=K u:=fun q u e=>by rw[e];rfl
           cases p with
           |nil=>
            cases hb:r.bx with
            |false=>simp_all
            |true=>
             simp only[f.1,b];refine m _ _ ?_
             simp only[AE.set,AE.put,AE.sF,AE.sI,Df,v]
           |cons a F=>
            simp only[f.1,b];refine m _ _ ?_
            simp only[AE.set,AE.put,AE.sF,AE.sI,Df,v]
       simp_all[EZ.none,AE.uF]
     |_=>
      exact EZ.none fun U2 f Z K=>by
        rw[h U2 f];simp only[AE.uF,cF,c U2 f,hr,hg]
  |_=>exact EZ.none fun U2 f Z K=>by rw[h U2 f];rfl
end
section
variable {g:Bool} {cx:Cx} {o:Oper} {d:Nat} {U:AE} {W:List Nat}
theorem b7c{Z:Type}(U:AE)(t:Ty)(a:AV)(hv:a.sS=[])(K:t.sJ->AE->Rs Z):U.uT false t a K=(Rt t a).elim none fun x=>K x U:=by
 cases a with
 |val h x=>grind[AE.uT,Rt]
 |nils=>cases t with
  |list o e=>cases o<;>rfl
  |_=>rfl
 |empt=>cases t with
  |list o e=>cases o<;>rfl
  |_=>rfl
 |sref n p=>cases hv
 |swin n p o k=>cases hv
 |_=>rfl
def Ul(fz:Bool)(lk:Nat->Option sO)(used seen:List Nat):(p:PA)->AV->Option (p.ty.sJ×List Nat×List Nat)
 |.v t,a=>bif a.sS.any fun n=>used.contains n then none else bif fz then(Rt t a).map fun x=>(x,used,seen)else(Tk lk t a).map fun x=>(x,used,a.sS++seen)
 |.r c (.b t),.ptr n []=>if c || used.contains n || seen.contains n then none else match lk n with
  |some ⟨true,t',x⟩=>if h:t'=t then some (h▸x,n::used,seen)else none
  |_=>none
 |.r c (.o e),.sref n []=>if(c&&A3 (pinned<=n)) || used.contains n || seen.contains n then none else match lk n with
  |some ⟨bx,.list true e',x⟩=>if h:e'=e then(bif bx&&c then none else some (h▸x,n::used,seen))else none
  |_=>none
 |.r _ _,_=>none
theorem cH{Z:Type}(U:AE)(fz:Bool)(used seen:List Nat)(p:PA)(a:AV)(hv:fz=false\/a.sS=[])(K:p.ty.sJ->AE->List Nat->List Nat->Rs Z):
  U.arg fz false used seen p a K=(Ul fz U.look used seen p a).elim none fun y=>K y.1 U y.2.1 y.2.2:=by
 cases p with
 |v t=>
  simp only[AE.arg,Ul];cases (a.sS.any fun n=>used.contains n)
  ·simp
   cases fz with
   |true=>
    simp
    rw[b7c U t a (hv.resolve_left (by simp))];cases Rt t a<;>rfl
   |false=>
    simp
    rw[b1L];cases Tk U.look t a<;>rfl
  rfl
 |r c b=>
  cases b with
  |v t=>rfl
  |b t=>
   cases a with
   |ptr n p=>
    cases p with
    |nil=>
     simp only[AE.arg,Ul,Bool.or_false];grind
    |cons=>rfl
   |_=>rfl
  |o e=>
   cases a with
   |sref n p=>
    cases p with
    |nil=>
     simp only[AE.arg,Ul,Bool.or_false];grind
    |cons=>rfl
   |_=>rfl
def AE.uJ(U:AE)(fz:Bool)(used seen:List Nat)(ps:List PA)(as:List AV):Option ((Dz (ps.map PA.ty)).sJ×List Nat):=U.args fz false used seen ps as fun x _ u=>some (x,u)
theorem vY(U:AE)(fz:Bool)(f:List PA):∀{Z:Type}(as:List AV)(used seen:List Nat)(K:(Dz (f.map PA.ty)).sJ->AE->List Nat->Rs Z),(fz=false\/∀a∈as,a.sS=[])->
  U.args fz false used seen f as K=(U.uJ fz used seen f as).elim none fun x=>K x.1 U x.2:=by
 induction f with
 |nil=>
  intro Z as used seen K hv;cases as<;>rfl
 |cons p f b=>
  intro Z as used seen K hv;cases as with
  |nil=>cases f<;>rfl
  |cons a as=>
   have g:fz=false\/a.sS=[]:=hv.imp id fun h=>h a (by simp);have k:fz=false\/∀a∈as,a.sS=[]:=hv.imp id fun h c e=>h c (by grind);cases f with
   |nil=>
    cases as with
    |nil=>
     simp[AE.uJ,AE.args];rw[cH (hv:=g),cH (hv:=g)];cases Ul fz U.look used seen p a<;>rfl
    |cons=>rfl
   |cons d f=>
    simp[AE.uJ,AE.args];rw[cH (hv:=g),cH (hv:=g)];cases Ul fz U.look used seen p a with
    |none=>rfl
    |some x=>
     simp[D1];rw[b as _ _ _ k,b as _ _ _ k];cases U.uJ fz x.2.1 x.2.2 (d::f) as<;>rfl
theorem a6y{f g:Nat->Option sO}{fz:Bool}{used seen:List Nat}{p:PA}{a:AV}(h:∀n∈a.refs,g n=f n):Ul fz g used seen p a=Ul fz f used seen p a:=by
 cases p with
 |v t=>simp_all[Ul,cB]
 |r c b=>
  cases b with
  |v t=>rfl
  |b t=>
   cases a with
   |ptr n q=>cases q<;>simp only[Ul,h n (by simp[AV.refs])]
   |_=>rfl
  |o e=>
   cases a with
   |sref n q=>cases q<;>simp only[Ul,h n (by simp[AV.refs])]
   |_=>rfl
theorem qU{f:Nat->Option sO}{fz:Bool}{used seen:List Nat}{p:PA}{a:AV}{x}(h:Ul fz f used seen p a=some x):∀n∈x.2.1,n∈used\/n∈a.refs:=by
 intro n g;cases p with
 |v t=>
  simp only[Ul]at h;obtain⟨-,h⟩:=(Ah h).elim (fun h=>by grind) id;cases fz with
  |true=>
   simp at h;cases ha:Rt t a with
   |none=>rw[ha]at h;cases h
   |some y=>rw[ha]at h;cases h;simp_all
  |false=>
   simp at h;cases ha:Tk f t a with
   |none=>rw[ha]at h;cases h
   |some y=>rw[ha]at h;cases h;simp_all
 |r c b=>
  cases b with
  |v t=>cases a<;>cases h
  |b t=>
   cases a with
   |ptr m q=>
    cases q with
    |nil=>
     simp only[Ul]at h;split at h;grind
     ·split at h
      ·split at h
       ·cases h;rcases mC.1 g with rfl|g;all_goals simp_all[AV.refs]
       simp_all
      simp_all
    |cons=>cases h
   |_=>cases h
  |o e=>
   cases a with
   |sref m q=>
    cases q with
    |nil=>
     simp only[Ul]at h;split at h;grind
     ·split at h
      ·split at h
       ·obtain⟨-,h⟩:=(Ah h).elim (fun h=>by grind) id;cases h;rcases mC.1 g with rfl|g;all_goals simp_all[AV.refs]
       simp_all
      simp_all
    |cons=>cases h
   |_=>cases h
theorem a3d{U U2:AE}(fz:Bool)(g:List PA):∀(as:List AV)(used seen:List Nat),(∀a∈as,∀n∈a.refs,U2.look n=U.look n)->(fz=false\/∀a∈as,a.sS=[])->U2.uJ fz used seen g as=U.uJ fz used seen g as:=by
 induction g with
 |nil=>intro as used seen k f;cases as<;>rfl
 |cons p g j=>
  intro as used seen k f;cases as with
  |nil=>cases g<;>rfl
  |cons a as=>
   have d:fz=false\/a.sS=[]:=f.imp id fun h=>h a (by simp);have e:fz=false\/∀a∈as,a.sS=[]:=f.imp id fun h b i=>h b (by grind);have c:=a6y (fz:=fz) (used:=used) (seen:=seen) (p:=p) (k a (by simp));cases g with
   |nil=>
    cases as with
    |nil=>
     simp_all[AE.uJ,AE.args,cH]
    |cons=>rfl
   |cons l g=>
    simp[AE.uJ,AE.args];grind[cH,vY]
where
 vY {U:AE} {fz:Bool} {g:List PA} {Z:Type} {as:List AV} {used seen:List Nat} {K:(Dz (g.map PA.ty)).sJ->AE->List Nat->Rs Z} (f:fz=false\/∀a∈as,a.sS=[]):=Go.Ab.vY U fz g as used seen K f
theorem a6z{U:AE}(fz:Bool)(g:List PA):∀(as:List AV)(used seen:List Nat)(x),(fz=false\/∀a∈as,a.sS=[])->U.uJ fz used seen g as=some x->∀n∈x.2,n∈used\/∃a∈as,n∈a.refs:=by
 induction g with
 |nil=>
  intro as used seen x hv h n b;cases as with
  |nil=>cases h;simp_all
  |cons=>cases h
 |cons p g i=>
  intro as used seen x hv h n b;cases as with
  |nil=>cases g<;>cases h
  |cons a as=>
   have f:fz=false\/a.sS=[]:=hv.imp id fun h=>h a (by simp);have k:fz=false\/∀a∈as,a.sS=[]:=hv.imp id fun h c j=>h c (by grind);cases g with
   |nil=>
    cases as with
    |nil=>
     simp[AE.uJ,AE.args]at h;rw[cH (hv:=f)]at h;cases hx:Ul fz U.look used seen p a with
     |none=>simp_all
     |some y=>
      rw[hx]at h;cases h;exact(qU hx n b).imp id fun h=>⟨a,by simp,h⟩
    |cons=>cases h
   |cons d g=>
    simp[AE.uJ,AE.args]at h;rw[cH (hv:=f)]at h;cases hx:Ul fz U.look used seen p a with
    |none=>simp_all
    |some y=>
     rw[hx]at h;simp at h;rw[vY U fz (d::g) as _ _ _ k]at h;cases hr:U.uJ fz y.2.1 y.2.2 (d::g) as with
     |none=>simp_all
     |some u=>
      rw[hr]at h;cases h;rcases i as _ _ u k hr n b with h|⟨c,e,h⟩;exact(qU hx n h).imp id fun h=>⟨a,by simp,h⟩;grind
def Pt:List Nat->(Nat->Option sO)->AV->AV
 | [],_=>id
 |n::r,rt=>match rt n with
  |none=>Pt r rt
  |some _=>fun v=>Pt r (fun j=>bif j==n then none else rt j) (AV.drop n v)
theorem cI:∀(ns:List Nat){rt g:Nat->Option sO},(∀n∈ns,g n=rt n)->Pt ns g=Pt ns rt
 | [],_,_,_=>rfl
 |n::r,rt,g,h=>by
  simp_all[Pt,cI]
theorem iT:∀(ns:List Nat)(rt:Nat->Option sO),(∀n∈ns,n∈W/\n<pinned)->FW W (Pt ns rt)
 | [],rt,_=>FW.id
 |n::r,rt,h=>by
  simp only[Pt];cases rt n with
  |none=>exact iT r rt fun m g=>h m (by simp[g])
  |some x=>
   have:=iT r (fun j=>bif j==n then none else rt j) fun m g=>h m (by simp[g])
   exact(FW.drop (h n (by simp)).1 (h n (by simp)).2).comp this this.dead
theorem Zs{m n:Nat}{r:List Nat}(h:¬ m=n):(n::r).contains m=r.contains m:=by
 simp_all
theorem Zt{Z:Type}(us:List Nat):∀(ns:List Nat)(U:AE)(K:AE->Rs Z),U.tV false us ns K =
  bif ns.all fun n=>A3 (n<pinned)&&!us.contains n then K ⟨fun i=>(U.sl i).sI (Pt ns U.rt),fun n=>bif ns.contains n then none else U.rt n,U.pd⟩else none
 | [],U,K=>by
  simp_all[AE.tV,Pt,Pr]
 |n::r,U,K=>by
  simp only[AE.tV,C1];cases (A3 (n<pinned)&&!us.contains n);rfl
  ·simp only[cT,Bool.true_and];cases hr:U.rt n with
   |none=>
    simp only[Pt,hr];rw[Zt us r U K];congr 2;congr 1;funext m;by_cases e:m=n;subst e;simp[hr];rw[Zs e]
   |some x=>
    simp only[cF,Pt,hr];rw[Zt us r];simp only[AE.sF,AE.sI,qT];grind
theorem Nc:∀(g:List RA)(b n:Nat),n∈Dn g b->n∈BC g b
 | [],_,_,h=>h
 |.v _::g,b,n,h=>A8 _ (Nc g _ n h)
 |.o _::g,b,n,h=>by
  rcases mC.1 h with rfl|h;exact C3;exact A8 _ (Nc g _ n h)
 |.b _::g,b,n,h=>by
  rcases mC.1 h with rfl|h;exact C3;exact A8 _ (Nc g _ n h)
theorem iU{x:Operand}(a:x∈o.op.operands.toList){n:Nat}(k:n∈(U.sM x).refs):n∈U.vT o:=by
 refine E1.2 ⟨x,a,?_⟩;cases x with
 |tmp t=>
  simp[AE.sM,AE.get]at k;show n∈(U.sl t).refs;revert k;cases U.sl t with
  |one v=>exact id
  |cmp c b=>exact fun h=>by cases h
 |const v=>
  simp[AE.sM]at k;unfold Xt at k;split at k<;>cases k
 |global g=>cases k
 |func f=>cases k
theorem a9O{d:Option Nat}{c:Call}{f:FuncId}{s:sG}(Y:o.op=.call c)(hb:c.callee=.value (.func f))(hd:o.dst=d)(B:U.pd=none)(hs:cx.C f=some s)(L:∀n∈U.vT o,n∈W)(M:∀n∈Kp cx o (d.getD 0),n∈W)
    (hv:(s.rs.any RA.sQ || (JH s.ps).any RA.sQ)=false\/∀a∈c.args.toList.map U.sM,a.sS=[]):EZ g cx o d U W:=by
  let I:=s.rs.any RA.sQ || (JH s.ps).any RA.sQ
  let b:=d.getD 0+1000
  let l:=Dn s.rs b
  have X:∀j,DA W (AH o) U j->c.args.toList.map j.sM=c.args.toList.map U.sM:=fun j q=>B4 fun x A=>q.sM (Pq Y x A);have z:∀a∈c.args.toList.map U.sM,∀n∈a.refs,n∈W:=fun a E n m=>by
    obtain⟨x,A,rfl⟩:=C2.1 E;exact L n (iU (Pq Y x A) m)
  have D:∀n∈BC s.rs b,n∈W:=fun n m=>M n (by grind[Kp]);have w:∀n∈l,n∈W:=fun n m=>D n (Nc _ _ n m);have S:∀j,DA W (AH o) U j->∀{Z:Type}(K:AE->Rs Z),Bk cx false o j (a2y g K)=(U.uJ I [] [] s.ps (c.args.toList.map U.sM)).elim none fun x=>
      bif l.all (fun n=>A3 (n<pinned)&&!x.2.contains n)then(s.F x.1).bind fun y=>
        (let G:AE:=⟨fun i=>((j.sl i).sI (Pt l U.rt)).sI (AV.sP x.2 ((VP s.ps x.2.reverse).filter fun n=>!a2A (bif l.contains n then none else j.rt n))),fun n=>match CO (BC s.rs b++x.2.reverse) (Eu (RA.all s.ps s.rs) y) n with
          |some r=>some (bif x.2.contains n then TK (bif l.contains n then none else j.rt n) r else r)
          |none=>bif l.contains n then none else j.rt n,none⟩
         match d with
          |none=>a2y g K G
          |some d=>match JN (BC s.rs b) (Eu (RA.all s.ps s.rs) y)with
            | [v]=>a2y g K (G.set d v)
            |vs=>a2y g K (G.put d (.cmp .tup vs)))else none:=fun j q Z K=>by
    have H:Bk cx false o j (a2y g K)=j.call false d s (c.args.toList.map U.sM) (a2y g K):=by
      grind[Bk]
    rw[H];unfold AE.call;rw[show j.pd=none from q.1.trans B];simp only[];rw[vY _ _ _ _ _ _ _ hv,a3d _ _ _ _ _ (fun a E n m=>q.look (z a E n m)) hv];cases U.uJ (s.rs.any RA.sQ || (JH s.ps).any RA.sQ) [] [] s.ps (c.args.toList.map U.sM)with
    |none=>rfl
    |some x=>
      simp only[D1];rw[Zt,cI _ fun n m=>q.2.1 n (w n m)];cases d<;>rfl
  cases A:U.uJ I [] [] s.ps (c.args.toList.map U.sM)with
  |none=>simp_all[EZ.none]
  |some x=>
    cases m:(l.all fun n=>A3 (n<pinned)&&!x.2.contains n)with
    |false=>exact EZ.none fun j q Z K=>by grind
    |true=>
      cases hy:s.F x.1 with
      |none=>simp_all[EZ.none]
      |some y=>
        let p:=Eu (RA.all s.ps s.rs) y
        let u:=BC s.rs b
        let T:SV:=match JN u p with
          | [v]=>.one v
          |vs=>.cmp .tup vs
        have t:∀n∈x.2,n∈W:=fun n m=>by
          rcases a6z I s.ps _ _ _ x hv A n m with h|⟨a,E,h⟩;all_goals grind
        have N:=iT l U.rt fun n P=>⟨w n P,by
          simp_all⟩
        have O:∀j,DA W (AH o) U j->((VP s.ps x.2.reverse).filter fun n=>!a2A (bif l.contains n then none else j.rt n))=(VP s.ps x.2.reverse).filter fun n=>!a2A (bif l.contains n then none else U.rt n):=fun j q=>
          F5 fun n m=>by
            obtain⟨k,i,e,h1,-⟩:=gB s.ps x.2.reverse 0 n m;rw[q.2.1 n (t n (List.mem_reverse.1 (D2 h1)))]
        refine EZ.some (fun v=>AV.sP x.2 ((VP s.ps x.2.reverse).filter fun n=>!a2A (bif l.contains n then none else U.rt n)) (Pt l U.rt v)) (N.comp (FW.sP t)) T ((u++x.2.reverse)++l) (fun n m=>?_) (fun n=>match CO (u++x.2.reverse) p n with
          |some r=>some (bif x.2.contains n then TK (bif l.contains n then none else U.rt n) r else r)
          |none=>bif l.contains n then none else U.rt n) fun j q Z K=>?_
        grind;rw[S j q,A];simp only[D1,m,cT,hy,oB];have R:(fun n=>match CO (u++x.2.reverse) p n with
            |some r=>some (bif x.2.contains n then TK (bif l.contains n then none else j.rt n) r else r)
            |none=>bif l.contains n then none else j.rt n)=fun n=>bif ((u++x.2.reverse)++l).contains n then(match CO (u++x.2.reverse) p n with
            |some r=>some (bif x.2.contains n then TK (bif l.contains n then none else U.rt n) r else r)
            |none=>bif l.contains n then none else U.rt n)else j.rt n:=by
          funext n;cases hS:((u++x.2.reverse)++l).contains n with
          |true=>
            have Q:n∈W:=by
              grind
            rw[q.2.1 n Q];rfl
          |false=>
            grind[Ov]
        have hΓ:∀V:SV,(⟨fun i=>bif d==some i then V else((j.sl i).sI (Pt l U.rt)).sI (AV.sP x.2 ((VP s.ps x.2.reverse).filter fun n=>!a2A (bif l.contains n then none else j.rt n))),fun n=>match CO (BC s.rs b++x.2.reverse) (Eu (RA.all s.ps s.rs) y) n with
            |some r=>some (bif x.2.contains n then TK (bif l.contains n then none else j.rt n) r else r)
            |none=>bif l.contains n then none else j.rt n,none⟩:AE)=⟨fun i=>bif d==some i then V else(j.sl i).sI (fun v=>AV.sP x.2 ((VP s.ps x.2.reverse).filter fun n=>!a2A (bif l.contains n then none else U.rt n)) (Pt l U.rt v)),fun n=>bif ((u++x.2.reverse)++l).contains n then(match CO (u++x.2.reverse) p n with
            |some r=>some (bif x.2.contains n then TK (bif l.contains n then none else U.rt n) r else r)
            |none=>bif l.contains n then none else U.rt n)else j.rt n,j.pd⟩:=fun V=>by
          rw[O j q];rw[<-R,q.1,B];congr 1;simp_all[qT]
        rw[<-hΓ T];cases d with
        |none=>
          rw[Ps rfl];rfl
        |some d=>
          have H:∀i,(some d==some i)=(i==d):=fun i=>by
            grind
          simp only[H,AE.set,AE.put,T];show(match JN u p with
            | [v]=>a2y g K _
            |vs=>a2y g K _)=_
          generalize JN u p=vs;split<;>exact Ps rfl
theorem a3e{c:Call}(A:o.op=.call c)(hb:c.callee=.builtin .append)(E:o.dst=some d)(p:U.pd=none)(v:∀n∈U.vT o,n∈W)(m:d∈W)(i:Ze cx c.argTypes.toList=false):EZ g cx o (some d) U W:=by
 have j:∀f,DA W (AH o) U f->∀{Z:Type}(K:AE->Rs Z),Bk cx false o f K=f.uP false cx d .append c.argTypes.toList (c.args.toList.map U.sM) K:=fun f l Z K=>by
  simp[Bk,A,E,hb];rw[B4 fun x B=>l.sM (Pq A x B)]
 have k:∀a∈c.args.toList.map U.sM,∀n∈a.refs,n∈W:=fun a D n z=>by
  obtain⟨x,B,rfl⟩:=C2.1 D;exact v n (iU (Pq A x B) z)
 revert j k i;generalize c.args.toList.map U.sM=as;generalize c.argTypes.toList=ts;intro i j k;have u:(∀(f:AE){Z:Type}(K:AE->Rs Z),f.uP false cx d .append ts as K=none)->EZ g cx o (some d) U W:=fun h=>EZ.none fun f l Z K=>by simp_all
 match as with
 | []=>exact u fun f Z K=>rfl
 | [_]=>exact u fun f Z K=>rfl
 |_::_::_::_=>exact u fun f Z K=>rfl
 | [a,b]=>
  have r:∀n∈a.refs,n∈W:=k a (by simp);have C:∀n∈b.refs,n∈W:=k b (by simp);cases hni:gO cx ts with
  |false=>
   cases hzl:b1r cx ts a b with
   |none=>exact u fun f Z K=>by simp only[AE.uP,hni,Xx,hzl,cF]
   |some w=>
    obtain⟨e,ys⟩:=w;exact Zr p m (e:=e) (x:=.nils) (by simp[AV.refs]) (ys:=some ys) fun f l Z K=>by
     rw[j f l];simp only[AE.uP,hni,Xx,hzl,cF];rfl
  |true=>
   cases ht:ts.head?.bind cx.T with
   |none=>simp_all[AE.uP]
   |some τ=>
    cases τ with
    |list F e=>
     have i:e.isList=false:=by simp_all[Ze]
     have q:(∀(f:AE){Z:Type}(K:AE->Rs Z),f.uP false cx d .append ts [a,b] K=f.elems e b fun ys=>f.uF false d e a ys K)->EZ g cx o (some d) U W:=fun h=>
      Zr p m (e:=e) (x:=a) r (ys:=Pp U.look e b) fun f l Z K=>by
       rw[j f l,h,XG,Sr fun n z=>l.look (C n z)]
     cases b with
     |val t y=>
      cases t with
      |str=>
       by_cases he:e=.int .u8;subst he;exact Zr p m (e:=.int .u8) (x:=a) r (ys:=some y) fun f l Z K=>by
        rw[j f l];simp only[AE.uP,hni,ht,cT];rfl
       simp_all[AE.uP]
      |_=>exact q fun f Z K=>by simp only[AE.uP,hni,ht,cT,i,G3,Bool.or_true]
     |_=>exact q fun f Z K=>by simp only[AE.uP,hni,ht,cT,i,G3,Bool.or_true]
    |_=>exact u fun f Z K=>by simp only[AE.uP,hni,ht,cT]
theorem iV{d:Option Nat}(U:AE):U.uD d .dead=⟨fun i=>bif d==some i then .one .dead else U.sl i,U.rt,U.pd⟩:=by
 cases d with
 |none=>rfl
 |some d=>
  simp only[AE.uD,AE.set,AE.put];grind
theorem a9P{d:Option Nat}(a:U.pd=none){t:Ty}{n:Nat}{p:BN}{x:AV}(b:n∈W)(hv:x.sS=[])(h:∀U2,DA W (AH o) U U2->∀{Z:Type}(K:AE->Rs Z),Bk cx false o U2 K=U2.vJ t n p x fun U=>K (U.uD d .dead)):EZ g cx o d U W:=by
 have c:∀U2,DA W (AH o) U U2->U2.rt n=U.rt n:=fun U2 f=>f.2.1 n b;have A:∀U2,DA W (AH o) U U2->U2.look n=U.rt n:=fun U2 f=>by rw[f.look b];simp only[AE.look,a]
 cases hr:U.rt n with
 |none=>simp_all[EZ.none,AE.vJ]
 |some r=>
  have i:∀k y,Dc r.t r.x p=⟨k,y⟩->(∀e,k≠.list true e)->EZ g cx o d U W:=fun k y w H=>by
   have B:∀U2,DA W (AH o) U U2->∀{Z:Type}(K:AE->Rs Z),Bk cx false o U2 K=if k.tL=k/\k.sh=t then(Rt k x).elim none fun y=>K ((U2.sF n (some ⟨r.bx,r.t,Fc r.t r.x p k y⟩)).uD d .dead)else U2.wV t n r x (fun U=>K (U.uD d .dead)) p:=fun U2 f Z K=>by
    rw[h U2 f];unfold AE.vJ;rw[c U2 f,hr];simp[w];have F:(if k.tL=k/\k.sh=t then U2.uT false k x fun y E=>(match E.look n with
      |some r=>if(Dc r.t r.x p).1=k then K ((E.sF n (some ⟨r.bx,r.t,Fc r.t r.x p k y⟩)).uD d .dead)else none
      |none=>none)else U2.wV t n r x (fun U=>K (U.uD d .dead)) p)=if k.tL=k/\k.sh=t then(Rt k x).elim none fun y=>K ((U2.sF n (some ⟨r.bx,r.t,Fc r.t r.x p k y⟩)).uD d .dead)else U2.wV t n r x (fun U=>K (U.uD d .dead)) p:=by
     simp_all[b7c]
    grind
   by_cases hc:k.tL=k/\k.sh=t
   ·cases ha:Rt k x with
    |none=>simp_all[EZ.none]
    |some y=>
     refine EZ.some id FW.id (.one .dead) [n] (by simp_all) (fun _=>some ⟨r.bx,r.t,Fc r.t r.x p k y⟩) fun U2 f Z K=>?_
     rw[B U2 f,if_pos hc,ha];simp only[D1];rw[iV,Ps (by exact f.1.trans a)];congr 1;simp only[AE.sF,Df,Pr]
   ·cases p with
    |cons s p=>exact EZ.none fun U2 f Z K=>by rw[B U2 f,if_neg hc];rfl
    |nil=>
     have D:(∀U2,DA W (AH o) U U2->∀{Z:Type}(K:AE->Rs Z),U2.over t n r x K=none)->EZ g cx o d U W:=fun v=>EZ.none fun U2 f Z K=>by
      rw[B U2 f,if_neg hc];exact v U2 f (fun U=>a2y g K (U.uD d .dead))
     have j:∀(C:Ty)(z:C.sJ),(∀U2,DA W (AH o) U U2->∀{Z:Type}(K:AE->Rs Z),U2.over t n r x K=K ((U2.sI (AV.sP [n] [])).sF n (some ⟨true,C,z⟩)))->EZ g cx o d U W:=fun C z v=>by
      refine EZ.some (AV.sP [n] []) (FW.sP (by simp_all)) (.one .dead) [n] (by simp_all) (fun _=>some ⟨true,C,z⟩) fun U2 f Z K=>?_
      rw[B U2 f,if_neg hc];simp only[AE.wV];rw[v U2 f,iV,Ps (by exact f.1.trans a)];congr 1;simp only[AE.sF,AE.sI,Df]
     have G:∀U2,DA W (AH o) U U2->U2.look n=some r:=fun U2 f=>(A U2 f).trans hr;cases x with
     |val u y=>
      by_cases hcc:r.bx=true/\(r.t.sh=t/\(u.tL=u/\u.sh=t))
      ·cases h1:tC u r.t y with
       |some z=>exact j r.t z fun U2 f Z K=>by simp_all[AE.over]
       |none=>
        cases v:tC u r.t.tL y with
        |some z=>exact j r.t.tL z fun U2 f Z K=>by simp_all[AE.over]
        |none=>exact j u y fun U2 f Z K=>by simp_all[AE.over]
      simp_all[AE.over]
     |_=>exact D fun U2 f Z K=>rfl
  cases w:Dc r.t r.x p with
  |mk k l=>
   cases k with
   |list I e=>
    cases I with
    |false=>simp_all
    |true=>
     by_cases hty:t.isList=true
     ·have D:(∀U2,DA W (AH o) U U2->∀{Z:Type}(K:AE->Rs Z),U2.vJ t n p x K=none)->EZ g cx o d U W:=fun v=>EZ.none fun U2 f Z K=>by simp_all
      cases x with
      |nils=>
       refine EZ.some (AV.kill n p) (FW.kill b p) (.one .dead) [n] (by simp_all) (fun _=>some ⟨r.bx,r.t,Fc r.t r.x p (.list true e) []⟩) fun U2 f Z K=>?_
       rw[h U2 f];simp only[AE.vJ,c U2 f,hr,w,hty,if_true,A U2 f];rw[iV,Ps (by exact f.1.trans a)];congr 1;simp only[AE.sF,AE.sI,Df]
      |sref m q=>cases hv
      |_=>exact D fun U2 f Z K=>by simp only[AE.vJ,c U2 f,hr,w,hty,if_true]
     simp_all[EZ.none,AE.vJ]
   |_=>exact i _ l w (by simp)
theorem Zu{U2:AE}(g:DA W (AH o) U U2):b6Z cx o U2=b6Z cx o U:=by
 unfold b6Z;cases ho:o.op<;>try rfl
 case store t a x=>
  simp
  rw[g.sM (by simp_all[Op.operands]),g.tK (by simp_all[Op.operands])]
 rename_i c;simp only[];cases hc:c.callee with
 |value v=>
  cases v with
  |func f=>
   simp only[];cases cx.C f with
   |none=>rfl
   |some s=>
    simp only[];congr 1
    have:∀x∈c.args.toList,(U2.sM x).sS.isEmpty=(U.sM x).sS.isEmpty:=fun x k=>by rw[g.sM (Pq ho x k)]
    grind
  |_=>rfl
 |builtin b=>grind
 |invoke r n=>rfl
where
 all_congr' {α:Type} {l:List α} {p q:α->Bool} (h:∀x∈l,p x=q x):l.all p=l.all q:=by
  grind
theorem WC{U2:AE}(g:∀t∈AH o,U2.sl t=U.sl t):U2.vT o=U.vT o:=by
 unfold AE.vT
 have:∀x∈o.op.operands.toList,(match x with
  |.tmp t=>(U2.sl t).refs
  |_=>[])=(match x with
  |.tmp t=>(U.sl t).refs
  |_=>[]):=fun x f=>by
  grind[EI]
 exact flatMap_congr' this
where
 flatMap_congr' {α β:Type} {l:List α} {p q:α->List β} (h:∀x∈l,p x=q x):l.flatMap p=l.flatMap q:=by
  induction l with
  |nil=>rfl
  |cons a l k=>simp_all
theorem iW(i:U.pd=none)(h:b6Z cx o U=true)(e:∀n∈U.vT o,n∈W)(j:∀n∈Kp cx o (o.dst.getD 0),n∈W):EZ g cx o o.dst U W:=by
 unfold b6Z at h;split at h;rename_i c q;split at h;rename_i u;simp at h;obtain⟨d,v⟩:=A4.1 h.1;rw[v];exact a3e q u v i e (j d (by rw[v];exact C3)) h.2;rename_i f u;split at h;rename_i s z;refine a9O q u rfl i z e j ?_
 grind;simp_all;simp_all
 ·rename_i t a x q;have r:a∈o.op.operands.toList:=by simp_all[Op.operands]
  have y:x∈o.op.operands.toList:=by simp_all[Op.operands]
  obtain⟨h,l⟩:=B6.1 h;have l:U.tK x=none:=by simp_all
  have m:∀k:AE,DA W (AH o) U k->∀{Z:Type}(K:AE->Rs Z),Bk cx false o k K=(match k.sM a with
    |.ptr n p=>(match cx.T t with
     |some t=>k.vJ t n p (k.sM x) fun U=>K (U.uD o.dst .dead)
     |none=>none)
    |_=>none):=fun k b Z K=>by
   have w:k.tK x=none:=(b.tK y).trans l;unfold Bk;rw[q];grind
  cases hpa:U.sM a with
  |ptr n p=>
   cases ht:cx.T t with
   |none=>grind[EZ.none]
   |some τ=>
    refine a9P i (t:=τ) (n:=n) (p:=p) (x:=U.sM x) (e n (iU r (by rw[hpa];simp[AV.refs]))) (by simp_all) fun k b Z K=>?_
    rw[m k b,b.sM r,hpa,ht,b.sM y]
  |_=>exact EZ.none fun k b Z K=>by rw[m k b,b.sM r,hpa]
 simp_all
theorem iX{Z:Type}{ops:Array Oper}{x:List Nat}{K:AE->Rs Z}{z:Z}(k:BJ cx (.w x) ops.toList o U K=some z):
  ∃(W:List Nat)(m:xJ),FW W m.f/\(∀n∈W,n∈x)/\K (Nx W m o.dst U)=some z/\
   ∀U2,DA W (o.looksAt ops) U U2->∀{Z2:Type}(l:AE->Rs Z2),BJ cx (.w x) ops.toList o U2 l=l (Nx W m o.dst U2):=by
 rw[JQ]at k;cases hl:DK ops o U with
 |none=>simp_all
 |some b=>
  rw[hl]at k;cases b with
  |false=>
   have v:∀U2:AE,U2.uD o.dst .skp=Nx [] ⟨id,fun _=>none,.one .skp,none⟩ o.dst U2:=fun U2=>by
    simp only[Nx,Pr];cases o.dst with
    |none=>rfl
    |some d=>
     simp only[AE.uD,AE.set,AE.put];congr 1;grind
   refine⟨[],⟨id,fun _=>none,.one .skp,none⟩,FW.id,fun n j=>(by grind),by simp_all,fun U2 c Z2 l=>?_⟩;rw[JQ,HN c.2.2,hl,<-v U2]
  |true=>
   simp[KM]at k;cases hpd:U.pd with
   |some p=>simp_all
   |none=>
    rw[hpd]at k;simp at k;obtain⟨a,k⟩:=(Ah k).elim id fun h=>by grind
    simp at a;obtain⟨a,q,u⟩:=a
    let W:=U.vT o++Kp cx o (o.dst.getD 0)
    obtain⟨r,i,y⟩:=iW (g:=true) (cx:=cx) (W:=W) hpd a (fun n j=>A9 _ j) (fun n j=>A7 _ j);have k:Bk cx false o U (a2y true K)=some z:=k;rw[y U DA.refl]at k;cases r with
    |none=>cases k
    |some m=>
     have k:K (IG W m o.dst U)=some z:=k;rw[iS ((i m rfl).2.1 rfl)]at k;refine⟨W,m,(i m rfl).1,fun n j=>(mA.1 j).elim (Nw q) (Nw u),k,fun U2 c Z2 l=>?_⟩;have e:DA W (AH o) U U2:=⟨c.1,c.2.1,fun t A=>c.2.2 t (FL A)⟩;rw[JQ,HN c.2.2,hl];simp[KM];rw[c.1,hpd,Zu e,a,WC e.2.2,q,u];refine Eq.trans (y U2 e l) ?_
     simp only[cG];rw[iS ((i m rfl).2.1 rfl)]
theorem b1Z{Z:Type}{ops:Array Oper}{x:List Nat}{K:AE->Rs Z}{z:Z}(k:BJ cx (.a x) ops.toList o U K=some z):
  ∃(W:List Nat)(m:xJ),FW W m.f/\(∀n∈W,n∈x)/\K (IG W m o.dst U)=some z/\
   ∀U2,DA W (o.looksAt ops) U U2->∀{Z2:Type}(l:AE->Rs Z2),BJ cx (.a x) ops.toList o U2 l=l (IG W m o.dst U2):=by
 rw[JQ]at k;cases hl:DK ops o U with
 |none=>simp_all
 |some b=>
  rw[hl]at k;cases b with
  |false=>
   have v:∀U2:AE,U2.uD o.dst .skp=Nx [] ⟨id,fun _=>none,.one .skp,none⟩ o.dst U2:=fun U2=>by
    simp only[Nx,Pr];cases o.dst with
    |none=>rfl
    |some d=>
     simp only[AE.uD,AE.set,AE.put];congr 1;grind
   refine⟨[],⟨id,fun _=>none,.one .skp,none⟩,FW.id,fun n j=>(by grind),by rw[iS rfl,<-v U];omega,fun U2 e Z2 l=>?_⟩;rw[JQ,HN e.2.2,hl,iS rfl,<-v U2]
  |true=>
   simp[KM]at k;cases hpd:U.pd with
   |some p=>simp_all
   |none=>
    rw[hpd]at k;simp at k;obtain⟨c,k⟩:=(Ah k).elim id fun h=>by grind
    simp at c;obtain⟨c,q,u⟩:=c
    let W:=U.vT o++Kp cx o (o.dst.getD 0)
    obtain⟨r,w,y⟩:=iW (g:=false) (cx:=cx) (W:=W) hpd c (fun n j=>A9 _ j) (fun n j=>A7 _ j);have k:Bk cx false o U (a2y false K)=some z:=k;rw[y U DA.refl]at k;cases r with
    |none=>cases k
    |some m=>
     have k:K (IG W m o.dst U)=some z:=k;refine⟨W,m,(w m rfl).1,fun n j=>(mA.1 j).elim (Nw q) (Nw u),k,fun U2 e Z2 l=>?_⟩;have i:DA W (AH o) U U2:=⟨e.1,e.2.1,fun t A=>e.2.2 t (FL A)⟩;rw[JQ,HN e.2.2,hl];simp[KM];rw[e.1,hpd,Zu i,c,WC i.2.2,q,u];exact y U2 i l
theorem Ss:∀{p q:BN},Ig p q=true->q.all Step.tZ=true->p.all Step.tZ=true
 | [],_,_,_=>rfl
 |.fst::p,.fst::q,h,g=>by
  simp only[C1,EV]at g|-;exact⟨rfl,Ss h g.2⟩
 |.snd::p,.snd::q,h,g=>by
  simp only[C1,EV]at g|-;exact⟨rfl,Ss h g.2⟩
 |.idx _::p,.idx _::q,h,g=>by simp[Step.tZ]at g
theorem a6A{n:Nat}{p:BN}(hp:p.all Step.tZ=false){sv:SV}(h:sv.still=true):sv.sI (AV.kill n p)=sv:=by
 cases sv with
 |one v=>
  have g:∀q:BN,q.all Step.tZ=true->Ig p q=false:=fun q f=>by
   cases hb:Ig p q with
   |false=>rfl
   |true=>rw[Ss hb f]at hp;cases hp
  cases v with
  |ptr m q=>simp only[SV.sI,AV.kill,g q h,G4,D4];rfl
  |sref m q=>simp only[SV.sI,AV.kill,g q h,G4];rfl
  |swin=>cases h
  |_=>rfl
 |cmp c k=>exact(FW.kill (W:=[n]) (by simp) p).fp.sv (WB h)
theorem b2a{Z:Type}{ops:Array Oper}{G:List Nat}{K:AE->Rs Z}{z:Z}(k:BJ cx (.b G) ops.toList o U K=some z):
  ∃(W:List Nat)(m:xJ),FW W m.f/\(∀n∈W,n∈G)/\(∀sv:SV,sv.still=true->sv.sI m.f=sv)/\(∀n∈W,nF (m.rt n)=nF (U.rt n))/\(IG W m o.dst U).uS=U.uS/\K (IG W m o.dst U)=some z/\
   ∀U2,DA W (o.looksAt ops) U U2->(∀{Z2:Type}(y:AE->Rs Z2),BJ cx (.b G) ops.toList o U2 y=y (IG W m o.dst U2)):=by
 rw[JQ]at k;cases hl:DK ops o U with
 |none=>rw[hl]at k;cases k
 |some b=>
  rw[hl]at k;cases b with
  |false=>
   have w:∀U2:AE,U2.uD o.dst .skp=Nx [] ⟨id,fun _=>none,.one .skp,none⟩ o.dst U2:=fun U2=>by
    simp only[Nx,Pr];cases o.dst with
    |none=>rfl
    |some d=>
     simp only[AE.uD,AE.set,AE.put];congr 1;funext i;by_cases h:i=d;subst h;simp;have H:(i==d)=false:=by simpa using h
     have I:(some d==some i)=false:=by simpa using Ne.symm h
     rw[H,I]
   refine⟨[],⟨id,fun _=>none,.one .skp,none⟩,FW.id,fun n j=>(by cases j),fun sv _=>Pr sv,fun n j=>(by cases j),by rw[iS rfl];rfl,by rw[iS rfl,<-w U];exact k,fun U2 e Z2 y=>?_⟩;rw[JQ,HN e.2.2,hl,iS rfl,<-w U2]
  |true=>
   simp only[KM]at k;cases hpd:U.pd with
   |some p=>rw[hpd]at k;cases k
   |none=>
    rw[hpd]at k;simp only[]at k;obtain⟨a,k⟩:=(Ah k).elim id fun h=>by cases h.2
    simp only[EV]at a;obtain⟨a,u,v⟩:=a
    let W:=U.vT o++Kp cx o (o.dst.getD 0)
    obtain⟨r,E,M⟩:=iW (g:=false) (cx:=cx) (W:=W) hpd a (fun n j=>A9 _ j) (fun n j=>A7 _ j);have q:∀U2,DA W (AH o) U U2->∀{Z:Type}(K:AE->Rs Z),Bk cx false o U2 K=cG W r o.dst U2 K:=fun U2 e Z K=>M U2 e K;rw[q U DA.refl]at k;cases r with
    |none=>cases k
    |some m=>
     obtain⟨A,-,D⟩:=E m rfl;cases hmp:m.pd with
     |none=>
      simp only[cG,IG,hmp,hpd]at k;cases k
     |some x=>
      obtain⟨n,p,d⟩:=x;obtain⟨L,F⟩:=D n p d hmp;have c:∀U2:AE,(IG W m o.dst U2).pd=some (n,p,d):=fun U2=>by simp only[IG,hmp]
      simp only[cG,c]at k;obtain⟨B,k⟩:=(Ah k).elim id fun h=>by cases h.2
      have C:p.all Step.tZ=false:=by simpa using B
      refine⟨W,m,A,fun n j=>(mA.1 j).elim (Nw u) (Nw v),fun sv h=>by rw[L];exact a6A C h,F,by simp only[AE.uS,c,B,hpd],k,fun U2 e Z2 y=>?_⟩;have l:DA W (AH o) U U2:=⟨e.1,e.2.1,fun t N=>e.2.2 t (FL N)⟩;rw[JQ,HN e.2.2,hl];simp only[KM];rw[e.1,hpd,Zu l,a,WC l.2.2,u,v];simp only[Bool.and_self,cT];rw[q U2 l];simp only[cG,c,B,cT]
end
theorem AE.ext'{U U2:AE}(f:∀i,U.sl i=U2.sl i)(k:∀n,U.rt n=U2.rt n)(e:U.pd=U2.pd):U=U2:=by
 obtain⟨a,b,c⟩:=U;obtain⟨h,g,d⟩:=U2;obtain rfl:a=h:=funext f;obtain rfl:b=g:=funext k;simp_all
theorem Um(δ:Dl)(d:Nat)(U:AE)(i:Nat):(δ.app d U).sl i=if i=d then δ.sv else U.sl i:=by
 simp_all[Dl.app]
theorem Ey{δ:Dl}{d:Nat}{U:AE}{n:Nat}(h:find δ.rs n=none):(δ.app d U).rt n=U.rt n:=by simp[Dl.app,h]
theorem a3f{δ:Dl}{d:Nat}{U:AE}{n:Nat}(h:find δ.rs n≠none):(δ.app d U).rt n≠none:=by
 grind[Dl.app]
theorem Zv{δ:Dl}{d:Nat}{U:AE}(h:∀n,find δ.rs n≠none->U.rt n=none){n:Nat}(g:U.rt n≠none):(δ.app d U).rt n=U.rt n:=
 Ey (by
  grind)
theorem FX(W:List Nat)(m:xJ)(d:Option Nat)(U:AE)(i:Nat):(Nx W m d U).sl i=if d=some i then m.sv else(U.sl i).sI m.f:=by
 simp_all[Nx]
theorem St{W:List Nat}{m:xJ}{d:Option Nat}{U:AE}{n:Nat}(h:n∉W):(Nx W m d U).rt n=U.rt n:=by
 simp_all[Nx]
theorem iY{a b:List Nat}(h:sU a b=true){n:Nat}(g:n∈a):n∉b:=by
 have:=lA.1 h n g
 simp_all
theorem JJ(U:AE)(d:Nat)(sv:SV)(i:Nat):(U.put d sv).sl i=if i=d then sv else U.sl i:=by
 simp_all[AE.put]
section
variable {Z:Type} {cx:Cx} {ops:Array Oper} {k i:Oper} {dk di:Nat} {U:AE} {K:AE->Rs Z} {z:Z}
theorem b5d{l mi:Md}(w:l.quiet)(v:mi.quiet)(h:k.dst=some dk)(f:i.dst=some di)(u:k.apart ops i=true)(c:∀t∈i.looksAt ops,∀n∈(U.sl t).refs,mi.reads n->U.rt n≠none)
  (M:BJ cx l ops.toList k U (fun m=>BJ cx mi ops.toList i m K)=some z):BJ cx mi ops.toList i U (fun m=>BJ cx l ops.toList k m K)=some z:=by
 obtain⟨a1,x,o⟩:=Oper.apart_spec u;have a1:=a1 dk h;have x:di≠dk:=fun e=>x dk h (by simp_all);have o:=o di f;obtain⟨δk,B,y,F,O,G⟩:=a6w w h M;obtain⟨δi,A,C,D,N,E⟩:=a6w v f F;have H:∀n,find δi.rs n≠none->find δk.rs n=none:=fun n b=>by
  grind[a3f]
 have a:∀n,find δi.rs n≠none->U.rt n=none:=fun n b=>by simp_all[Ey]
 have p:a6v mi A (δk.app dk U) U:=by
  refine⟨rfl,fun t d=>?_⟩;have g:t≠dk:=fun e=>a1 (e▸(C t d).1);have P:(δk.app dk U).sl t=U.sl t:=by rw[Um,if_neg g]
  grind[Zv]
 rw[E U p a];have q:a6v l B U (δi.app di U):=by
  refine⟨rfl,fun t d=>?_⟩;have g:t≠di:=fun e=>o (e▸(y t d).1);exact⟨by rw[Um,if_neg g],fun n b L=>Zv a ((y t d).2 n b L).2⟩
 have I:∀n,find δk.rs n≠none->find δi.rs n=none:=fun n b=>by
  grind
 rw[G _ q fun n b=>by simp_all[Ey],<-D];congr 1;refine AE.ext' (fun j=>?_) (fun n=>?_) rfl;simp[Um];grind
 ·cases e1:find δk.rs n with
  |none=>
   rw[Ey e1];grind[Ey,Dl.app]
  |some r=>
   grind[Ey,Dl.app]
theorem b5e{o:List Nat}(h:k.dst=some dk)(b:k.apart ops i=true)
  (A:BJ cx .v ops.toList k U (fun f=>BJ cx (.w o) ops.toList i f K)=some z):BJ cx (.w o) ops.toList i U (fun f=>BJ cx .v ops.toList k f K)=some z:=by
 obtain⟨a1,a,p⟩:=Oper.apart_spec b;have a1:=a1 dk h;have a:=a dk h;obtain⟨D,L,u,l,x,y⟩:=b1V h A;obtain⟨W,m,d,-,q,r⟩:=iX x;have B:DA W (i.looksAt ops) (U.put dk D) U:=⟨rfl,fun _ _=>rfl,fun t c=>by
  have g:t≠dk:=fun e=>a1 (by simp_all);rw[JJ,if_neg g]⟩
 have C:∀t∈L,(Nx W m i.dst U).sl t=U.sl t:=fun t c=>by
  have g:¬ i.dst=some t:=fun e=>p t e (l t c).1;rw[FX,if_neg g];exact d.fp.sv (l t c).2
 rw[r U B,y (Nx W m i.dst U) rfl C,<-q];congr 1;refine AE.ext' (fun j=>?_) (fun n=>rfl) rfl;simp[JJ,FX];by_cases e1:j=dk;subst e1;rw[if_pos rfl,if_neg a,if_pos rfl];exact(d.fp.sv u).symm;simp_all
theorem b5f{r:List Nat}(h:i.dst=some di)(c:k.apart ops i=true)
  (C:BJ cx (.w r) ops.toList k U (fun f=>BJ cx .v ops.toList i f K)=some z):BJ cx .v ops.toList i U (fun f=>BJ cx (.w r) ops.toList k f K)=some z:=by
 obtain⟨a1,a,b⟩:=Oper.apart_spec c;have b:=b di h;have a:¬ k.dst=some di:=fun e=>a di e h;obtain⟨W,m,l,-,u,x⟩:=iX C;obtain⟨q,L,y,o,A,B⟩:=b1V h u;have D:∀t∈L,U.sl t=(Nx W m k.dst U).sl t:=fun t d=>by
  have p:=(o t d).2;have g:¬ k.dst=some t:=fun e=>a1 t e (o t d).1;rw[FX,if_neg g]at p|-;exact(l.fp.xH p).symm
 have E:DA W (k.looksAt ops) U (U.put di q):=⟨rfl,fun _ _=>rfl,fun t d=>by
  have g:t≠di:=fun e=>b (by simp_all);rw[JJ,if_neg g]⟩
 rw[B U rfl D,x (U.put di q) E,<-A];congr 1;refine AE.ext' (fun j=>?_) (fun n=>rfl) rfl;simp[JJ,FX];by_cases e2:j=di;subst e2;rw[if_neg a,if_pos rfl,if_pos rfl];exact l.fp.sv y;simp_all
theorem LO(W:List Nat)(m:xJ)(d:Option Nat)(U:AE)(i:Nat):(IG W m d U).sl i=if d=some i then m.sv else(U.sl i).sI m.f:=FX W m d U i
theorem b5g{o:List Nat}(h:k.dst=some dk)(b:k.apart ops i=true)
  (A:BJ cx .p ops.toList k U (fun f=>BJ cx (.w o) ops.toList i f K)=some z):BJ cx (.w o) ops.toList i U (fun f=>BJ cx .p ops.toList k f K)=some z:=by
 obtain⟨a1,a,q⟩:=Oper.apart_spec b;have a1:=a1 dk h;have a:=a dk h;obtain⟨D,L,v,l,x,y⟩:=a3c h A;obtain⟨W,m,d,-,r,u⟩:=iX x;have B:DA W (i.looksAt ops) (U.put dk D) U:=⟨rfl,fun _ _=>rfl,fun t c=>by
  have g:t≠dk:=fun e=>a1 (by simp_all);rw[JJ,if_neg g]⟩
 have C:∀t∈L,(Nx W m i.dst U).sl t=U.sl t:=fun t c=>by
  have g:¬ i.dst=some t:=fun e=>q t e (l t c).1;rw[FX,if_neg g];exact d.fp.sv (l t c).2
 rw[u U B,y (Nx W m i.dst U) C,<-r];congr 1;refine AE.ext' (fun j=>?_) (fun n=>rfl) rfl;simp[JJ,FX];by_cases e1:j=dk;subst e1;rw[if_pos rfl,if_neg a,if_pos rfl];exact(d.fp.sv v).symm;simp_all
theorem b5h{u:List Nat}(h:i.dst=some di)(c:k.apart ops i=true)
  (C:BJ cx (.w u) ops.toList k U (fun f=>BJ cx .p ops.toList i f K)=some z):BJ cx .p ops.toList i U (fun f=>BJ cx (.w u) ops.toList k f K)=some z:=by
 obtain⟨a1,a,b⟩:=Oper.apart_spec c;have b:=b di h;have a:¬ k.dst=some di:=fun e=>a di e h;obtain⟨W,m,l,-,v,x⟩:=iX C;obtain⟨r,L,y,o,A,B⟩:=a3c h v;have D:∀t∈L,U.sl t=(Nx W m k.dst U).sl t:=fun t d=>by
  have q:=(o t d).2;have g:¬ k.dst=some t:=fun e=>a1 t e (o t d).1;rw[FX,if_neg g]at q|-;exact(l.fp.xH q).symm
 have E:DA W (k.looksAt ops) U (U.put di r):=⟨rfl,fun _ _=>rfl,fun t d=>by
  have g:t≠di:=fun e=>b (by simp_all);rw[JJ,if_neg g]⟩
 rw[B U D,x (U.put di r) E,<-A];congr 1;refine AE.ext' (fun j=>?_) (fun n=>rfl) rfl;simp[JJ,FX];by_cases e2:j=di;subst e2;rw[if_neg a,if_pos rfl,if_pos rfl];exact l.fp.sv y;simp_all
theorem b5i{q:List Nat}(h:k.dst=some dk)(c:k.apart ops i=true)
  (A:BJ cx .p ops.toList k U (fun f=>BJ cx (.a q) ops.toList i f K)=some z):BJ cx (.a q) ops.toList i U (fun f=>BJ cx .p ops.toList k f K)=some z:=by
 obtain⟨a1,b,r⟩:=Oper.apart_spec c;have a1:=a1 dk h;have b:=b dk h;obtain⟨D,L,w,o,x,y⟩:=a3c h A;obtain⟨W,m,l,-,u,v⟩:=b1Z x;have B:DA W (i.looksAt ops) (U.put dk D) U:=⟨rfl,fun _ _=>rfl,fun t d=>by
  have g:t≠dk:=fun e=>a1 (by simp_all);rw[JJ,if_neg g]⟩
 have C:∀t∈L,(IG W m i.dst U).sl t=U.sl t:=fun t d=>by
  have g:¬ i.dst=some t:=fun e=>r t e (o t d).1;rw[LO,if_neg g];exact l.fp.sv (o t d).2
 rw[v U B,y (IG W m i.dst U) C,<-u];congr 1;refine AE.ext' (fun j=>?_) (fun n=>rfl) rfl;simp[JJ,LO];by_cases e1:j=dk;subst e1;rw[if_pos rfl,if_neg b,if_pos rfl];exact(l.fp.sv w).symm;simp_all
theorem b5j{v:List Nat}(h:i.dst=some di)(d:k.apart ops i=true)
  (C:BJ cx (.a v) ops.toList k U (fun f=>BJ cx .p ops.toList i f K)=some z):BJ cx .p ops.toList i U (fun f=>BJ cx (.a v) ops.toList k f K)=some z:=by
 obtain⟨a1,b,c⟩:=Oper.apart_spec d;have c:=c di h;have b:¬ k.dst=some di:=fun e=>b di e h;obtain⟨W,m,o,-,w,x⟩:=b1Z C;obtain⟨u,L,y,q,A,B⟩:=a3c h w;have D:∀t∈L,U.sl t=(IG W m k.dst U).sl t:=fun t l=>by
  have r:=(q t l).2;have g:¬ k.dst=some t:=fun e=>a1 t e (q t l).1;rw[LO,if_neg g]at r|-;exact(o.fp.xH r).symm
 have E:DA W (k.looksAt ops) U (U.put di u):=⟨rfl,fun _ _=>rfl,fun t l=>by
  have g:t≠di:=fun e=>c (by simp_all);rw[JJ,if_neg g]⟩
 rw[B U D,x (U.put di u) E,<-A];congr 1;refine AE.ext' (fun j=>?_) (fun n=>rfl) rfl;simp[JJ,LO];by_cases e2:j=di;subst e2;rw[if_neg b,if_pos rfl,if_pos rfl];exact o.fp.sv y;simp_all
theorem b5k{ns q:List Nat}(F:sU ns q=true)(g:k.dst=some dk)(l:k.apart ops i=true)
  (G:BJ cx (.r ns) ops.toList k U (fun b=>BJ cx (.w q) ops.toList i b K)=some z):BJ cx (.w q) ops.toList i U (fun b=>BJ cx (.r ns) ops.toList k b K)=some z:=by
 obtain⟨a1,c,x⟩:=Oper.apart_spec l;have a1:=a1 dk g;have c:=c dk g;obtain⟨δ,L,d,C,M,D,E⟩:=b1W g G;obtain⟨W,m,u,B,y,A⟩:=iX C;have p:∀n∈ns,n∉W:=fun n h v=>iY F h (B n v);have o:∀n∈W,find δ.rs n=none:=fun n h=>by
  grind
 have H:DA W (i.looksAt ops) (δ.app dk U) U:=⟨rfl,fun n h=>(Ey (o n h)).symm,fun t a=>by
  have f:t≠dk:=fun e=>a1 (by simp_all);rw[Um,if_neg f]⟩
 have I:Zp L U (Nx W m i.dst U):=⟨rfl,fun t a=>by
  have f:¬ i.dst=some t:=fun e=>x t e (d t a).1;refine⟨?_,fun n h=>St (p n ((d t a).2.2 n h).2)⟩;rw[FX,if_neg f];exact u.sv fun n h=>p n ((d t a).2.2 n h).2⟩
 rw[A U H,E _ I fun n h=>by grind[St],<-y];congr 1;refine AE.ext' (fun j=>?_) (fun n=>?_) rfl;simp[Um,FX];by_cases e1:j=dk;subst e1;rw[if_pos rfl,if_neg c,if_pos rfl];exact(u.sv fun n h=>p n (D n h)).symm;simp_all;by_cases v:n∈W;simp_all[Ey,Nx];simp_all[St,Dl.app]
theorem b5l{ns v:List Nat}(G:sU ns v=true)(f:i.dst=some di)(p:k.apart ops i=true)
  (H:BJ cx (.w v) ops.toList k U (fun c=>BJ cx (.r ns) ops.toList i c K)=some z):BJ cx (.r ns) ops.toList i U (fun c=>BJ cx (.w v) ops.toList k c K)=some z:=by
 obtain⟨a1,d,l⟩:=Oper.apart_spec p;have l:=l di f;have d:¬ k.dst=some di:=fun e=>d di e f;obtain⟨W,m,x,C,A,B⟩:=iX H;obtain⟨δ,L,o,D,O,E,F⟩:=b1W f A;have I:∀n∈ns,n∉W:=fun n g y=>iY G g (C n y);have q:∀n∈W,find δ.rs n=none:=fun n g=>by
  grind
 have M:Zp L (Nx W m k.dst U) U:=⟨rfl,fun t b=>by
  have h:¬ k.dst=some t:=fun e=>a1 t e (o t b).1;have a:=(o t b).2.1;have u:=(o t b).2.2;rw[FX,if_neg h]at a u;refine⟨by rw[FX,if_neg h];exact(x.xH a).symm,fun n g=>?_⟩;rw[FX,if_neg h]at g;grind[St]⟩
 have N:DA W (k.looksAt ops) U (δ.app di U):=⟨rfl,fun n g=>Ey (q n g),fun t b=>by
  have h:t≠di:=fun e=>l (by simp_all);rw[Um,if_neg h]⟩
 rw[F U M fun n g=>by
  grind[St],B _ N,<-D]
 congr 1;refine AE.ext' (fun j=>?_) (fun n=>?_) rfl;simp[Um,FX];by_cases e1:j=di;subst e1;rw[if_neg d,if_pos rfl,if_pos rfl];exact x.sv fun n g=>I n (E n g);simp_all;by_cases y:n∈W;simp_all[Ey,Nx];simp_all[St,Dl.app]
theorem iZ{W:List Nat}{m:xJ}{d:Option Nat}{U:AE}(h:∀n∈W,nF (m.rt n)=nF (U.rt n))(n:Nat):nF ((IG W m d U).rt n)=nF (U.rt n):=by
 show nF (bif W.contains n then m.rt n else U.rt n)=_;cases hw:W.contains n with
 |true=>exact h n (C4.1 hw)
 |false=>rfl
theorem a3g{sv:SV}(h:sv.still=true):sv.alive=true:=by
 cases sv with
 |one v=>cases v<;>first|rfl|cases h
 |cmp c g=>exact iR h
theorem b5m{r:List Nat}(h:k.dst=some dk)(o:k.apart ops i=true)
  (D:BJ cx .s ops.toList k U (fun c=>BJ cx (.b r) ops.toList i c K)=some z):BJ cx (.b r) ops.toList i U (fun c=>BJ cx .s ops.toList k c K)=some z:=by
 obtain⟨a1,l,u⟩:=Oper.apart_spec o;have a1:=a1 dk h;have l:=l dk h;obtain⟨G,L,A,q,B,C⟩:=b1Y h D;obtain⟨W,m,-,-,p,y,x,v,w⟩:=b2a B;have E:DA W (i.looksAt ops) (U.put dk G) U:=⟨rfl,fun _ _=>rfl,fun t a=>by
  have f:t≠dk:=fun e=>a1 (by rw[<-e];exact a);rw[JJ,if_neg f]⟩
 have F:∀t∈L,(IG W m i.dst U).sl t=U.sl t:=fun t a=>by
  have f:¬ i.dst=some t:=fun e=>u t e (q t a).1;rw[LO,if_neg f];exact p _ (q t a).2.1
 rw[w U E,C (IG W m i.dst U) (fun t a=>⟨F t a,fun n _=>iZ (d:=i.dst) y n⟩) (fun g=>x.trans g),<-v];congr 1;refine AE.ext' (fun j=>?_) (fun n=>rfl) rfl;simp only[JJ,LO];by_cases e1:j=dk;subst e1;rw[if_pos rfl,if_neg l,if_pos rfl];exact(p _ A).symm;rw[if_neg e1,if_neg e1]
theorem b5n{v:List Nat}(h:i.dst=some di)(p:k.apart ops i=true)
  (G:BJ cx (.b v) ops.toList k U (fun c=>BJ cx .s ops.toList i c K)=some z):BJ cx .s ops.toList i U (fun c=>BJ cx (.b v) ops.toList k c K)=some z:=by
 obtain⟨a1,l,o⟩:=Oper.apart_spec p;have o:=o di h;have l:¬ k.dst=some di:=fun e=>l di e h;obtain⟨W,m,x,-,w,C,B,y,A⟩:=b2a G;obtain⟨u,L,D,q,E,F⟩:=b1Y h y;have H:∀t∈L,U.sl t=(IG W m k.dst U).sl t:=fun t a=>by
  have r:=(q t a).2.1;have f:¬ k.dst=some t:=fun e=>a1 t e (q t a).1;rw[LO,if_neg f]at r|-;exact(x.xH (a3g r)).symm
 have I:DA W (k.looksAt ops) U (U.put di u):=⟨rfl,fun _ _=>rfl,fun t a=>by
  have f:t≠di:=fun e=>o (by rw[<-e];exact a);rw[JJ,if_neg f]⟩
 rw[F U (fun t a=>⟨H t a,fun n _=>(iZ (d:=k.dst) C n).symm⟩) (fun g=>B.symm.trans g),A (U.put di u) I,<-E];congr 1;refine AE.ext' (fun j=>?_) (fun n=>rfl) rfl;simp only[JJ,LO];by_cases e2:j=di;subst e2;rw[if_neg l,if_pos rfl,if_pos rfl];exact w _ D;rw[if_neg e2,if_neg e2]
theorem c3c{l mi:Md}(c:a0u l mi=true)(g:l.wE=true\/k.dst.isSome=true)(h:mi.wE=true\/i.dst.isSome=true)(f:k.apart ops i=true)(j:∀t∈i.looksAt ops,∀n∈(U.sl t).refs,mi.reads n->U.rt n≠none)
  (e:BJ cx l ops.toList k U (fun m=>BJ cx mi ops.toList i m K)=some z):BJ cx mi ops.toList i U (fun m=>BJ cx l ops.toList k m K)=some z:=by
 have y:l.quiet->mi.quiet->BJ cx mi ops.toList i U (fun m=>BJ cx l ops.toList k m K)=some z:=fun A B=>by
  obtain⟨u,g⟩:=A4.1 (g.resolve_left (by cases l<;>first|(cases A;done)|simp[Md.wE]))
  obtain⟨o,h⟩:=A4.1 (h.resolve_left (by cases mi<;>first|(cases B;done)|simp[Md.wE]))
  exact b5d A B g h f j e
 cases l with
 |x=>cases mi<;>cases c
 |p=>
  cases mi with
  |x=>cases c
  |b d=>cases c
  |a d=>
   obtain⟨u,g⟩:=A4.1 (g.resolve_left (by simp[Md.wE]));exact b5i g f e
  |w d=>
   obtain⟨u,g⟩:=A4.1 (g.resolve_left (by simp[Md.wE]));exact b5g g f e
  |_=>exact y trivial trivial
 |s=>
  cases mi with
  |x=>cases c
  |a d=>cases c
  |w d=>cases c
  |b d=>
   obtain⟨u,g⟩:=A4.1 (g.resolve_left (by simp[Md.wE]));exact b5m g f e
  |_=>exact y trivial trivial
 |b d=>
  cases mi with
  |s=>
   obtain⟨o,h⟩:=A4.1 (h.resolve_left (by simp[Md.wE]));exact b5n h f e
  |_=>cases c
 |a d=>
  cases mi with
  |p=>
   obtain⟨o,h⟩:=A4.1 (h.resolve_left (by simp[Md.wE]));exact b5j h f e
  |_=>cases c
 |v=>
  cases mi with
  |x=>cases c
  |b d=>cases c
  |a d=>cases c
  |w d=>
   obtain⟨u,g⟩:=A4.1 (g.resolve_left (by simp[Md.wE]));exact b5e g f e
  |_=>exact y trivial trivial
 |q=>
  cases mi with
  |x=>cases c
  |b d=>cases c
  |a d=>cases c
  |w d=>cases c
  |_=>exact y trivial trivial
 |r C=>
  cases mi with
  |x=>cases c
  |b d=>cases c
  |a d=>cases c
  |w d=>
   obtain⟨u,g⟩:=A4.1 (g.resolve_left (by simp[Md.wE]));exact b5k c g f e
  |_=>exact y trivial trivial
 |w d=>
  cases mi with
  |p=>
   obtain⟨o,h⟩:=A4.1 (h.resolve_left (by simp[Md.wE]));exact b5h h f e
  |v=>
   obtain⟨o,h⟩:=A4.1 (h.resolve_left (by simp[Md.wE]));exact b5f h f e
  |r C=>
   obtain⟨o,h⟩:=A4.1 (h.resolve_left (by simp[Md.wE]));exact b5l c h f e
  |_=>cases c
end
theorem cJ(g:Nat->Nat)(k:Nat):∀(l:List Edge)(s:Nat),(l.foldl (fun s e=>if Region.binds .any e then s ||| 2^e.on ||| g e.on else s) s).testBit k=true->
  s.testBit k=true\/∃e∈l,Region.binds .any e=true/\(e.on=k\/(g e.on).testBit k=true)
 | [],s,h=>.inl h
 |e::l,s,h=>by
  rcases cJ g k l _ h with h|⟨a,f,b⟩;all_goals grind
def b2b(ops:List Oper)(b:List Nat):Prop:=∀j k,j<b.length->(b.getD j 0).testBit k=true->
 ∃e∈(ops.getD j default).after.toList,Region.binds .any e=true/\(e.on=k\/(b.getD e.on 0).testBit k=true)
theorem qV(all:List Oper):∀(r:List Oper)(g:List Nat),(∀j,r[j]?=all[g.length+j]?)->b2b all g->b2b all (a9m r g)/\(a9m r g).length=g.length+r.length
 | [],g,_,h=>⟨h,by rfl⟩
 |o::r,g,c,h=>by
  simp only[a9m];have n:all.getD g.length default=o:=by
   have:=c 0
   grind
  have ⟨a,b⟩:=qV all r (g++[o.after.toList.foldl (fun s e=>if Region.binds .any e then s ||| 2^e.on ||| g.getD e.on 0 else s) 0]) (fun j=>by
    have:=c (j+1)
    grind) (fun j k p hb=>by
   have t:∀m,(g.getD m 0).testBit k=true->((g++[o.after.toList.foldl (fun s e=>if Region.binds .any e then s ||| 2^e.on ||| g.getD e.on 0 else s) 0]).getD m 0).testBit k=true:=fun m q=>by
    grind
   by_cases hlt:j<g.length;rw[lD,List.getElem?_append_left hlt,<-lD]at hb;obtain⟨e,l,d,i⟩:=h j k hlt hb;grind
   ·have f:j=g.length:=by grind
    subst f;rw[lD,D7 (C5 _)]at hb;simp only[Nat.sub_self,C9,E2]at hb;rcases cJ (fun m=>g.getD m 0) k _ _ hb with h'|⟨e,l,d,i⟩;all_goals grind)
  grind
section
variable {P:Program} {B:Base} {N:Nat} {cx:Cx} {ro:Option Nat} {D:List Deferred}
theorem b9B{Z:Type}{ops:Array Oper}{mi:Md}{i:Oper}{z:Z}(l2:List (Md×Oper)):∀(l1:List (Md×Oper)) {U:AE} {K:AE->Rs Z},
  (∀p∈l1,a0u p.1 mi=true/\p.2.apart ops i=true/\(p.1.wE=true\/p.2.dst.isSome=true)/\(mi.wE=true\/i.dst.isSome=true))->(∀t∈i.looksAt ops,∀n∈(U.sl t).refs,mi.reads n->U.rt n≠none)->
  QP cx ops.toList (l1++(mi,i)::l2) U K=some z->BJ cx mi ops.toList i U (fun g=>QP cx ops.toList (l1++l2) g K)=some z
 | [],U,K,_,_,j=>j
 |(C,k)::l1,U,K,hall,hroots,j=>by
  obtain⟨A,E,f,N⟩:=hall (C,k) (by simp);have j:BJ cx C ops.toList k U (fun g=>QP cx ops.toList (l1++(mi,i)::l2) g K)=some z:=j;have G:∀g,(∀t∈i.looksAt ops,∀n∈(g.sl t).refs,mi.reads n->g.rt n≠none)->QP cx ops.toList (l1++(mi,i)::l2) g K=some z->BJ cx mi ops.toList i g (fun H=>QP cx ops.toList (l1++l2) H K)=some z:=
   fun g V h=>b9B l2 l1 (fun p hp=>hall p (by grind)) V h
  refine c3c A f N E hroots ?_
  obtain⟨a1,-,-⟩:=Oper.apart_spec E;have F:C.quiet->BJ cx C ops.toList k U (fun g=>BJ cx mi ops.toList i g fun H=>QP cx ops.toList (l1++l2) H K)=some z:=fun O=>by
   obtain⟨Q,f⟩:=A4.1 (f.resolve_left (by cases C<;>first|(cases O;done)|simp[Md.wE]))
   have a1:=a1 Q f;obtain⟨δ,L,D,l,o,S⟩:=a6w O f j;rw[S U ⟨rfl,fun _ _=>⟨rfl,fun _ _ _=>rfl⟩⟩ o];refine G _ (fun t B n c u=>?_) l;rw[Um,if_neg (fun e=>a1 (by simp_all))]at c;grind[Zv]
  cases C with
  |v=>exact F trivial
  |p=>exact F trivial
  |a P=>
   obtain⟨W,m,D,M,l,o⟩:=b1Z j;rw[o U DA.refl];refine G _ (fun t B n c u=>?_) l;cases mi with
   |p=>cases u
   |_=>cases A
  |b P=>
   obtain⟨W,m,D,M,-,R,-,l,o⟩:=b2a j;rw[o U DA.refl];refine G _ (fun t B n c u=>?_) l;cases mi with
   |s=>
    have y:¬ k.dst=some t:=fun e=>a1 t e B;rw[LO,if_neg y]at c
    have:=hroots t B n (D.refs c) trivial
    intro e;have I:=iZ (d:=k.dst) R n;rw[e]at I;cases e3:U.rt n with
    |none=>exact this e3
    |some r=>rw[e3]at I;cases I
   |_=>cases A
  |s=>exact F trivial
  |q=>exact F trivial
  |r Y=>exact F trivial
  |w P=>
   obtain⟨W,m,D,M,l,o⟩:=iX j;rw[o U DA.refl];refine G _ (fun t B n c u=>?_) l;have y:¬ k.dst=some t:=fun e=>a1 t e B;rw[FX,if_neg y]at c;have c:=D.refs c;cases mi with
   |v=>cases u
   |p=>cases u
   |r Y=>
    have T:n∉W:=fun X=>iY A u (M n X);grind[St]
   |_=>cases A
  |x=>cases mi<;>cases A
def Fd(n:Nat)(listed:Array Bool):List Nat:=(D0 n).filter fun i=>!listed.getD i true
def jA(ops:Array Oper)(ms:List Md)(i:Nat):Md×Oper:=(ms.getD i .x,ops.getD i default)
structure xM (ops:Array Oper) (ms:List Md) (b:List Nat):Prop where
 len:ms.length=ops.size
 good:b2b ops.toList b
 lb:b.length=ops.size
 back:∀j e,j<ops.size->e∈(ops.getD j default).after.toList->Region.binds .any e=true->e.on<j
 pair:∀i j,i<j->j<ops.size->(b.getD j 0).testBit i=true\/(a0u (ms.getD i .x) (ms.getD j .x)=true/\(ops.getD i default).apart ops (ops.getD j default)=true/\((ms.getD i .x).wE=true\/(ops.getD i default).dst.isSome=true)/\((ms.getD j .x).wE=true\/(ops.getD j default).dst.isSome=true))
theorem a3h{ops:Array Oper}{f:List Md}(h:a0v ops f=true):xM ops f (a9m ops.toList []):=by
 simp only[a0v,EV,dT,lA,D5]at h;obtain⟨b,l⟩:=h;obtain⟨a,d⟩:=qV ops.toList ops.toList [] (fun j=>by simp) (fun j k g=>by simp);refine⟨b,a,by simp_all,fun j e g m hb=>?_,fun i j c g=>?_⟩;all_goals grind
theorem jB{n:Nat}{h:Array Bool}{i:Nat}(e:h.size=n)(hi:i∈Fd n h):∃l1 l2,Fd n h=l1++i::l2/\Fd n (h.setIfInBounds i true)=l1++l2/\∀k∈l1,k<i/\k∈Fd n h:=by
 have f:i<n:=by
  simp_all[Fd]
 have b:h.getD i true=false:=by
  simp_all[Fd]
 have g:D0 n=D0 i++i::(D8 (i+1) (n-i-1)):=by
  rw[C6,C6,show n=i+(1+(n-i-1))from by omega,<-E8,<-E8]
  simp
 have a:∀j,j≠i->(h.setIfInBounds i true).getD j true=h.getD j true:=fun j c=>by
  simp_all[Ne.symm]
 refine⟨(D0 i).filter fun i=>!h.getD i true,(D8 (i+1) (n-i-1)).filter fun i=>!h.getD i true,?_,?_,fun k d=>?_⟩;simp_all[Fd]
 ·simp only[Fd];rw[g,List.filter_append,List.filter_cons,if_neg (by
   simp)]
  congr 1;all_goals grind[F5]
 simp_all[Fd]
theorem b2c(h6:vB P cx)(hG:Za cx.G B){Z:Type}{ops:Array Oper}{ms:List Md}{b:List Nat}(I:xM ops ms b){K:AE->Rs Z}{z:Z}{Q:Exit->Act->World->Prop}(hf:∀o∈ops.toList,Po N ops.toList o=true)
  (hQ:∀a' w' U' M',sK B U' N (AJ a') w' M'->a'.tmps.size=N->a'.defers=D->K U'=some z->Q .normal a' w'):
  ∀(fuel:Nat)(f:Array Bool){U:AE}{a:Act}{w:World}{M:Gh},f.size=ops.size->(Fd ops.size f).length=fuel->
   (∀j k,j<ops.size->f.getD j true=true->(b.getD j 0).testBit k=true->f.getD k true=true)->
   sK B U N (AJ a) w M->a.tmps.size=N->a.defers=D->QP cx ops.toList ((Fd ops.size f).map (jA ops ms)) U K=some z->wpAnyIn (Fr ro) 0 P .any ops Q fuel f a w:=by
 intro fuel;have O:∀f i,i∈Region.ready .any ops f->i∈Fd ops.size f/\∀e∈(ops.getD i default).after.toList,Region.binds .any e=true->f.getD e.on false=true:=by
  intro f i u;simp only[Region.ready,E4,D5,EV]at u;refine⟨by simp_all[Fd],fun e he hb=>?_⟩;have h3:=u.2.2;have d:ops[i]?=some (ops.getD i default):=by
   simp_all
  rw[d]at h3;simp only[E3,E2]at h3;rw[<-F9]at h3;grind
 have F:∀(f:Array Bool),Fd ops.size f=[]->Region.ready .any ops f=[]:=fun f h=>by
  refine List.eq_nil_iff_forall_not_mem.2 fun i u=>?_
  grind
 induction fuel with
 |zero=>
  intro f U a w M A hl S hr hN hD Y;have h0:=List.eq_nil_of_length_eq_zero hl;rw[h0]at Y;exact⟨F f h0,hQ a w U M hr hN hD Y⟩
 |succ fuel ih=>
  intro f U a w M A hl S hr hN hD Y;refine⟨fun k0=>?_,fun i u=>?_⟩
  ·
   exfalso;cases hR:Fd ops.size f with
   |nil=>simp_all
   |cons i R=>
    have H:i∈Fd ops.size f:=by simp_all
    have u:=H;simp only[Fd,E4,D5]at u
    have:i∈Region.ready .any ops f:=by
     simp only[Region.ready,E4,D5,EV];refine⟨u.1,u.2,?_⟩;have d:ops[i]?=some (ops.getD i default):=by
      simp_all
     rw[d];simp only[E3,E2];rw[<-F9];refine lA.2 fun e he=>?_
     by_cases hb:Region.binds .any e=true
     ·have k4:=I.back i e u.1 he hb;have g0:f.getD e.on true=true:=by
       cases hv:f.getD e.on true with
       |true=>rfl
       |false=>
        obtain⟨l1,l2,g1,-,g3⟩:=jB (n:=ops.size) A (i:=e.on) (by grind[Fd]);have k1:(Fd ops.size f).Pairwise (·<·):=List.Pairwise.filter _ List.pairwise_lt_range;grind[List.pairwise_cons]
      grind
     simp_all
    simp_all
  ·obtain⟨H,h7⟩:=O f i u;obtain⟨l1,l2,g1,g2,g3⟩:=jB A H;have h8:i<ops.size:=by grind
   have d:ops[i]?=some (ops.getD i default):=by
    simp_all
   have X:ops.getD i default∈ops.toList:=by
    simp_all
   have q:=hf _ X;have tr:∀k,f.getD k false=true->f.getD k true=true:=fun k V=>by
    grind
   have g9:∀k,(b.getD i 0).testBit k=true->f.getD k true=true:=fun k V=>by
    obtain⟨e,he,h1,h2⟩:=I.good i k (by grind) V;grind
   rw[g1,pA,List.map_cons]at Y;have L:=b9B (cx:=cx) (mi:=ms.getD i .x) (i:=ops.getD i default) (l2.map (jA ops ms)) (l1.map (jA ops ms)) (fun p hp=>by
     obtain⟨k,V,rfl⟩:=C2.1 hp;obtain⟨h9,k3⟩:=g3 k V;rcases I.pair k i h9 h8 with h|h;grind[Fd];exact h) (fun t C n y _=>by
     have g7:t<N:=by
      simp only[Oper.looksAt,mA]at C;rcases C with C|C;obtain⟨x,hx,k5⟩:=C8.1 C
      have:=Bl (Ui q) x hx
      grind[Ch]
      ·cases hg:(ops.getD i default).guard with
       |none=>grind
       |some p=>
        obtain⟨j,k2⟩:=p;rw[hg]at C;simp at C;have T:Ti ops.toList j=some t:=by simpa[Ti]using C
        simp only[Po,hg,T,EV,dT]at q;grind
     have A:=hr.slots t g7;revert A y;generalize U.sl t=sv;intro y A;have one:∀(E:AV)(v:Value),AA (Ad w M.ov) M.g U.rt (Be B w M) E v->n∈E.refs->U.rt n≠none:=fun E v ha y=>by
      cases E with
      |ptr m p=>obtain⟨r,t,b,o,h1,-⟩:=ha;grind[AV.refs]
      |sref m p=>obtain⟨r,e,s,h1,-⟩:=ha;grind[AV.refs]
      |swin m p o l=>obtain⟨r,e,s,_,_,_,h1,-⟩:=ha;grind[AV.refs]
      |_=>cases y
     cases sv with
     |one E=>exact one E _ A y
     |cmp c vs=>
      obtain⟨us,-,h2⟩:=A;simp[SV.refs]at y;obtain⟨E,h4,y⟩:=y;obtain⟨k,V⟩:=E6.1 h4;grind) Y
   have g6:=a8p (ro:=ro) (next:=wpAnyIn (Fr ro) 0 P .any ops Q fuel (f.setIfInBounds i true)) (Q:=Q) h6 hG hr hN q L fun v w' U' M' g5 hK=>by
    refine ih (f.setIfInBounds i true) (by grind) ?_ ?_ g5 (by rw[TR];omega) (by grind[Sk]) ?_
    grind;intro j k hj g4 h5;have up:∀m,f.getD m true=true->(f.setIfInBounds i true).getD m true=true:=fun m hm=>by
     by_cases e:m=i;subst e
     simp
     simp at hm|-;grind
    by_cases e:j=i;grind;refine up k (S j k hj ?_ h5);simp at g4|-;grind;grind
   unfold wpOpIn;grind
theorem b2d{Z:Type}{U:AE}{a:Act}{w:World}{M:Gh}(e:vB P cx)(r:Za cx.G B)(x:P.follows .mixedOrders=true){ops:Array Oper}{id:Nat}{c:List Md}{K:AE->Rs Z}{z:Z}{Q:Exit->Act->World->Prop}
  (h:sK B U N (AJ a) w M)(t:a.tmps.size=N)(q:a.defers=D)(v:∀o∈ops.toList,Po N ops.toList o=true)(m:a0v ops c=true)(F:QP cx ops.toList (c.zip ops.toList) U K=some z)
  (u:∀d w' n M',sK B n N (AJ d) w' M'->d.tmps.size=N->d.defers=D->K n=some z->Q .normal d w'):(Code.region id ops true).wpIn (Fr ro) 0 P Q a w:=by
 refine wpIn_region_any x ?_
 have f:=a3h m;have g:sK B U N (AJ a) { w with drawn:=w.drawn+1 } M:=h.ext (fun _ _=>rfl) (C5 _);have l:∀i,i<ops.size->(D3 ops.size false).getD i true=false:=fun i p=>by
  simp_all
 have b:Fd ops.size (D3 ops.size false)=D0 ops.size:=by
  simp_all[Fd]
 refine b2c e r f v u ops.size _ (by simp) (by simp_all) (fun j k C E _=>by simp_all) g t q ?_
 rw[b];rw[show(D0 ops.size).map (jA ops c)=c.zip ops.toList from ?_];omega;refine F6 fun i=>?_
 rw[F7];by_cases p:i<ops.size;have y:i<c.length:=by rw[f.len];omega
 have A:i<ops.toList.length:=by omega
 rw[List.getElem?_range p,lG (by grind)];simp_all[jA];grind
end
def jC:Ex->Exit
 |.normal=>.normal
 |.exit i=>.exit i
 |.ret=>.ret
def b7d{Z:Type}(B:Base)(N:Nat)(D:List Deferred)(K:Ex->AE->Rs Z)(z:Z):Exit->Act->World->Prop:=fun e a w=>
 ∃ex U M,e=jC ex/\K ex U=some z/\sK B U N (AJ a) w M/\a.tmps.size=N/\a.defers=D
def CQ(N:Nat):Code->Bool
 |.region _ ops _=>ops.toList.all (Po N ops.toList)
 |.seq a b=>CQ N a&&CQ N b
 |.cond c a b=>Ch N c&&(CQ N a&&CQ N b)
 |.block _ c|.loop c=>CQ N c
 |_=>true
def sD.fits(N:Nat)(H:sD):Bool:=
 H.loops.all (fun p=>p.2.1.fits N&&p.2.2.all (fun q=>q.2.fits N))&&H.cuts.all (fun p=>p.2.all (fun q=>q.2.fits N))
theorem jD{α:Type}:∀{l:List (Nat×α)} {n:Nat} {x:α},find l n=some x->∃k,(k,x)∈l
 |(k,y)::r,n,x,h=>by
  simp[find]at h;rcases Ah h with⟨-,h⟩|⟨-,h⟩;simp only[sj]at h;exact⟨k,by simp[h]⟩;obtain⟨f,g⟩:=jD h;exact⟨f,A8 _ g⟩
section
variable {P:Program} {B:Base} {N:Nat} {cx:Cx} {H:sD} {ro:Option Nat} {D:List Deferred}
theorem eQ{Q:Exit->Act->World->Prop}{a:Act}{w:World}{c:Code}(I:Nat->Act->World->Prop)(d:Nat)(l:I d a w)
  (round:∀n a w,I n a w->c.wpIn (Fr ro) 0 P (Exit.then (fun f w'=>∃m,m<n/\I m f w') Q) a w):(Code.loop c).wpIn (Fr ro) 0 P Q a w:=by
 classical
 have g:∀a w,(∃n,I n a w)->∃n,I n a w/\∀m,I m a w->n<=m:=by
  intro a w ⟨n,q⟩
  induction n using Nat.strongRecOn with
  |_ n r=>
   grind
 let μ:Act->World->Nat:=fun a w=>if h:∃n,I n a w then(g a w h).choose else 0
 refine wpIn_loop (fun a w=>∃n,I n a w) μ ⟨d,l⟩ fun a w i=>?_
 have j:=(g a w i).choose_spec;refine wpIn_mono (round _ a w j.1) fun e f w' k=>?_
 cases e with
 |normal=>
  obtain⟨m,p,b⟩:=k;refine⟨⟨m,b⟩,?_⟩;have o:∃n,I n f w':=⟨m,b⟩;grind
 |_=>exact k
theorem Ny(h3:vB P cx)(hG:Za cx.G B)(hm:P.follows .mixedOrders=true)(hH:H.fits N=true):∀(c:Code) (p:Nat){Z:Type}{U:AE}{K:Ex->AE->Rs Z}{z:Z}{a:Act}{w:World}{M:Gh}(_:CQ N c=true)
  (_:Du cx H c p U K=some z) (_:sK B U N (AJ a) w M) (_:a.tmps.size=N) (_:a.defers=D),c.wpIn (Fr ro) 0 P (b7d B N D K z) a w:=by
 intro c;have V:∀p s F,find H.loops p=some (s,F)->s.fits N=true/\F.all (fun q=>q.2.fits N)=true:=fun p s F h=>by
  obtain⟨k,hk⟩:=jD h;simp only[sD.fits,EV]at hH;grind
 have h0:∀p F,find H.cuts p=some F->F.all (fun q=>q.2.fits N)=true:=fun p F h=>by
  obtain⟨k,hk⟩:=jD h;simp only[sD.fits,EV]at hH;grind
 induction c with
 |skip=>intro p Z U K z a w M l d h r m;exact wpIn_skip ⟨.normal,U,M,rfl,by simp_all[Du],h,r,m⟩
 |region rid ops draw=>
  intro p Z U K z a w M l d h r m;simp[Du]at d;have h4:∀o∈ops.toList,Po N ops.toList o=true:=fun o ho=>lA.1 l o ho;cases draw with
  |false=>
   simp at d;refine wpIn_region_list ?_
   have:=a8q (Q:=b7d B N D K z) (ro:=ro) (D:=D) h3 hG (ops:=ops) (ops.toList.map fun o=>(Md.x,o)) h r m (fun q hq=>by
    grind) d (fun Y w' C A u f g j=>⟨.normal,C,A,rfl,j,u,f,g⟩)
   rwa [F1,show((fun x:Md×Oper=>x.2)∘fun o=>(Md.x,o))=_root_.id from rfl,D6]at this
  |true=>
   simp at d;split at d;rename_i ms h9;obtain⟨h6,d⟩:=(Ah d).elim id fun h=>by grind
   exact b2d h3 hG hm h r m h4 h6 d fun Y w' C A u f g j=>⟨.normal,C,A,rfl,j,u,f,g⟩;simp_all
 |seq x y ihx ihy=>
  intro p Z U K z a w M l d h r m;simp[CQ]at l;simp[Du]at d;refine wpIn_seq ?_
  split at d
  ·refine wpIn_mono (ihx _ l.1 d h r m) ?_
   rintro e Y w' ⟨ex,C,A,rfl,j,u,f,g⟩;cases ex with
   |normal=>exact ihy _ l.2 j u f g
   |exit i=>exact⟨.exit i,C,A,rfl,j,u,f,g⟩
   |ret=>exact⟨.ret,C,A,rfl,j,u,f,g⟩
  ·rename_i F T;obtain⟨y0,h1,h2⟩:=B8.1 d;refine wpIn_mono (ihx _ l.1 h1 h r m) ?_
   rintro e Y w' ⟨ex,C,A,rfl,j,u,f,g⟩;obtain⟨y1,X,O,E,L,k3⟩:=MS F u (h0 _ _ T) j;simp at E;subst E;rw[k3]at h2;cases ex with
   |normal=>exact ihy _ l.2 h2 L f g
   |exit i=>exact⟨.exit i,X,O,rfl,h2,L,f,g⟩
   |ret=>exact⟨.ret,X,O,rfl,h2,L,f,g⟩
 |cond c x y ihx ihy=>
  intro p Z U K z a w M l d h r m;simp[CQ]at l;simp[Du]at d;split at d
  ·rename_i t ht;have hc:=h.sM l.1;rw[ht]at hc;have hc:=AA.bool hc;rcases Ah d with⟨rfl,d⟩|⟨rfl,d⟩;all_goals grind[wpIn_cond_true,wpIn_cond_false]
  simp_all
 |block id c ih=>
  intro p Z U K z a w M l d h r m;simp[Du]at d;refine wpIn_block (wpIn_mono (ih _ l d h r m) ?_);rintro e Y w' ⟨ex,C,A,rfl,j,u,f,g⟩;cases ex with
  |normal=>exact⟨.normal,C,A,rfl,j,u,f,g⟩
  |exit i=>
   simp[jC,Exit.inBlock];rcases Ah j with⟨hi,j⟩|⟨hi,j⟩;rw[if_pos (by simp_all)];exact⟨.normal,C,A,rfl,j,u,f,g⟩;rw[if_neg (by simp_all)];exact⟨.exit i,C,A,rfl,j,u,f,g⟩
  |ret=>exact⟨.ret,C,A,rfl,j,u,f,g⟩
 |loop c ih=>
  intro p Z U K z a w M l d h r m;simp[Du]at d;split at d;grind
  ·rename_i s F h7;obtain⟨hs,T⟩:=V _ _ _ h7;obtain⟨x0,M0,h1,h2⟩:=h.wY hs d;obtain⟨y,hy,j⟩:=B8.1 h1;obtain⟨n0,h5⟩:=a9E hy;refine eQ (fun n a w=>∃x M,Ih _ n x=some y/\sK B (s.enc x) N (AJ a) w M/\a.tmps.size=N/\a.defers=D) n0 ⟨x0,M0,h5,h2,r,m⟩ ?_
   rintro n a w ⟨x,M,hn,u,f,g⟩;cases n with
   |zero=>simp_all[Ih]
   |succ n=>
    simp[Ih]at hn;split at hn;grind
    ·rename_i x' h8;refine wpIn_mono (ih _ l h8 u f g) ?_
     rintro e Y w' ⟨ex,C,A,rfl,v,I,S,R⟩;cases ex with
     |normal=>
      simp at v;obtain⟨x2,O,E,L⟩:=I.wY hs v;simp at E;subst E;exact⟨n,Nat.lt_succ_self n,x2,O,hn,L,S,R⟩
     |exit i=>
      grind[MS]
     |ret=>
      grind[MS]
    ·rename_i b hb;simp at hn;subst hn;refine wpIn_mono (ih _ l hb u f g) ?_
     rintro e Y w' ⟨ex,C,A,rfl,v,I,S,R⟩;cases ex with
     |normal=>
      simp at v;obtain⟨x2,O,E,L⟩:=I.wY hs v;grind
     |exit i=>
      obtain⟨y1,X,O,E,L,k3⟩:=MS F I T v;simp at E;subst E;rw[k3]at j;exact⟨.exit i,X,O,rfl,j,L,S,R⟩
     |ret=>
      obtain⟨y1,X,O,E,L,k3⟩:=MS F I T v;simp at E;subst E;rw[k3]at j;exact⟨.ret,X,O,rfl,j,L,S,R⟩
 |exit id=>intro p Z U K z a w M l d h r m;exact wpIn_exit ⟨.exit id,U,M,rfl,by simp_all[Du],h,r,m⟩
 |ret=>intro p Z U K z a w M l d h r m;exact wpIn_ret ⟨.ret,U,M,rfl,by simp_all[Du],h,r,m⟩
 |_=>intro p Z U K z a w M l d h r m;simp only[Du]at d;cases d
end
theorem a3i{α:Type}{P:Program}{w:World}{f:α->Sem Value}:∀(l:List α)(us:List Value),us.length=l.length->(∀(k:Nat) x u,l[k]?=some x->us[k]?=some u->(f x).run P w=.ok u w)->(l.mapM f).run P w=.ok us w
 | [],us,g,_=>by
  simp_all
 |x::l,[],g,_=>by simp_all
 |x::l,u::us,g,h=>by
  have a:=h 0 x u rfl rfl;have b:=a3i l us (by simpa using g) (fun k y v d c=>h (k+1) y v (by simpa using d) (by simpa using c));simp[List.mapM_cons,a,b,Result.andThen]
def Jf(tk:List Nat)(U U':AE):Prop:=
 (∀i av,U.get i=av->(av.uA=true\/∃n∈tk,av=.sref n []\/av=.ptr n [])->U'.get i=av)/\∀n∈tk,U'.rt n=U.rt n
theorem Jf.refl{g U}:Jf g U U:=⟨fun _ _ h _=>h,fun _ _=>rfl⟩
theorem Jf.trans{a f U b g}(h:Jf a U b)(d:Jf f b g)(l:∀n∈a,n∈f):Jf a U g:=
 ⟨fun i c m j=>d.1 i c (h.1 i c m j) (j.imp id fun⟨n,k,e⟩=>⟨n,l n k,e⟩),fun n k=>(d.2 n (l n k)).trans (h.2 n k)⟩
theorem Jf.gone{h:List Nat}{U:AE}{n:Nat}(b:n∉h)(f:AV->AV)(g:∀av:AV,(av.uA=true\/∃m,m≠n/\(av=.sref m []\/av=.ptr m []))->f av=av):Jf h U ((U.sI f).sF n none):=by
 refine⟨fun i av k c=>?_,fun m a=>?_⟩;grind[AE.get,AE.sF,AE.sI,SV.sI]
 have:(m==n)=false:=by
  grind
 simp[AE.sF,AE.sI,this]
theorem Jf.set{a:List Nat}{U k:AE}(h:Jf a U k){j:Nat}{av:AV}(c:U.get j=.dead):Jf a U (k.set j av):=by
 refine⟨fun i v f g=>?_,fun n d=>h.2 n d⟩;have b:i≠j:=by
  rintro rfl;rw[c]at f;subst f;rcases g with g|⟨m,-,e|e⟩;cases g;all_goals simp_all
 have:=h.1 i v f g
 simp_all[AE.get,Eg]
def a3j(tk tk':List Nat)(U:AE)(av:AV):((r:RA)×r.ty.sJ)->Prop
 |⟨.v t,x⟩=>av=.val t x/\tk'=tk
 |⟨.o e,x⟩=>(∃n,av=.sref n []/\n∉tk/\tk'=n::tk/\U.rt n=some ⟨false,.list true e,x⟩)\/((av=.nils\/av=.empt)/\x=[]/\tk'=tk)
 |⟨.b t,x⟩=>∃n,av=.ptr n []/\n∉tk/\tk'=n::tk/\U.rt n=some ⟨true,t,x⟩
theorem a3k{U:AE}{n i:Nat}{r:Option sO}{f:AV->AV}{av:AV}(h:U.get i=av)(g:f av=av):((U.sI f).sF n r).get i=av:=by
 grind[AE.get,AE.sF,AE.sI,SV.sI]
theorem sK.clear{B U N tm w M}(h:sK B U N tm w M){n:Nat}{e:Ty}{l:List e.sJ}(hr:U.rt n=some ⟨false,.list true e,l⟩)(T:U.pd=none)(hn:n<pinned){v:Value}(hv:AA (Ad w M.ov) M.g U.rt (Be B w M) (.swin n [] 0 0) v):
  ∃M1,sK B ((U.sI (AV.drop n)).sF n (some ⟨false,.list true e,([]:List e.sJ)⟩)) N tm w M1/\M1.g n=.one v:=by
 have Z:∃O,AO (Ad w M.ov) (.list true e) ((Src.one v).rd (Ad w M.ov))=some (([]:List e.sJ),O,[])/\(∀p∈O,p∈M.ow n)/\(O.map (·.1)).Nodup:=by
  obtain⟨I,R,t,-,h3⟩:=(h.roots n _ hr).rd;rcases h3 with⟨g,-⟩|⟨-,⟨v0,Y⟩,-,ho⟩;grind;obtain⟨r,e',s,a,l',c,F,G,L,-,K,rfl,g5,g6⟩:=hv;rw[hr]at F;cases F;rw[Y]at G t;have hs:Src.one v0=s:=by
   have:=Option.some.inj G
   simp_all
  subst hs;obtain rfl:v0=.slice a l' c:=by simpa[Src.rd]using L
  have t:Cn (Ad w M.ov) true e.cells (AO (Ad w M.ov) e) (some (.slice a l' c))=some (l,I,R):=t;show ∃O,Cn (Ad w M.ov) true e.cells (AO (Ad w M.ov) e) (some (.slice K 0 (c-0)))=_/\_;by_cases z:c=0;subst z;refine⟨[],?_,by simp,by simp⟩;cases K<;>simp[Cn,Ak]<;>rfl
  ·cases a with
   |none=>simp_all[Cn]
   |some A=>
    obtain rfl:K=some (A.add (0*e.cells)):=by simp_all
    have X:=(g5 _ rfl).resolve_left (by omega);rw[Nat.zero_mul]at X;simp only[Cn]at t;split at t;split at t;grind;rename_i xs os rs h0;simp only[if_true]at t;simp at t;obtain⟨-,rfl,-⟩:=t;simp_all[Cn,Ak,Addr.add];simp_all
 obtain⟨O,k1,k2,k3⟩:=Z
 let f:Nat->CK:=fun m=>if m=n then O else M.ow m
 have d:∀m c,c∈(f m).map (·.1)->c∈(M.ow m).map (·.1):=fun m c z=>by
  grind
 have C:∀c,BD ⟨fun m=>if m=n then .one v else M.g m,f,M.ov⟩ c->BD M c:=fun c ⟨m,j⟩=>⟨m,d m c j⟩
 have E:∀c,Be B w M c->Be B w ⟨fun m=>if m=n then .one v else M.g m,f,M.ov⟩ c:=fun c ⟨a1,a2,a3⟩=>⟨a1,a2,fun g=>a3 (C c g)⟩
 have y:∀m,m≠n->((U.sI (AV.drop n)).sF n (some ⟨false,.list true e,([]:List e.sJ)⟩)).rt m=U.rt m:=fun m j=>by
  have:(m==n)=false:=by simp_all
  simp[AE.sF,AE.sI,this]
 have V:((U.sI (AV.drop n)).sF n (some ⟨false,.list true e,([]:List e.sJ)⟩)).rt n=some ⟨false,.list true e,([]:List e.sJ)⟩:=by simp[AE.sF]
 refine⟨⟨fun m=>if m=n then .one v else M.g m,f,M.ov⟩,⟨fun m r j=>?_,fun m j=>?_,fun m=>?_,fun m m' S c z P=>h.sU m m' S c (d m c z) (d m' c P),fun m p H=>?_,fun i hi=>(h.slots i hi).sI fun a u ha=>?_,?_,h.size,h.frame,fun c z=>h.mine c (C c z),fun i b hb D=>?_,h.still⟩,by simp⟩
 by_cases e1:m=n;subst e1;rw[V]at j;cases j;simp[f];exact⟨O,[],k1,by simp,.inr ⟨rfl,⟨v,rfl⟩,⟨e,rfl⟩,rfl⟩⟩;rw[y m e1]at j;simp[f,if_neg e1];obtain⟨I,R,F,G,L⟩:=(h.roots m r j).rd;exact⟨I,R,F,fun c z=>E c (G c z),L⟩;by_cases e1:m=n;simp_all;rw[y m e1]at j;simp[f,if_neg e1];exact h.norm m j;by_cases e1:m=n;grind;simp[f,if_neg e1];exact h.nodup m;by_cases e1:m=n;simp[f,if_pos e1]at H;exact h.live n p (k2 p H);simp[f,if_neg e1]at H;exact h.live m p H
 ·by_cases hd:AV.drop n a=.dead;rw[hd];trivial
  ·have Q:AV.drop n a=a/\∀k q,(a=.ptr k q\/a=.sref k q\/∃o l,a=.swin k q o l)->k≠n:=by
    cases a<;>simp only[AV.drop]at hd|-<;>try (refine⟨trivial,?_⟩;rintro k q (h|h|⟨o,l,h⟩)<;>cases h)
    all_goals simp_all
   rw[Q.1];exact ha.other E y (fun k Q=>by grind) Q.2
 ·have:=h.pend
  show QR _ _ _ U.pd M.ov;rw[T]at this|-;cases hov:M.ov with
  |none=>trivial
  |some x=>rw[hov]at this;exact this.elim
 have:pinned+i≠n:=by omega
 rw[y _ this]at D;simp[if_neg this];exact h.pins i b hb D
def JR(a:Nat->Value):ResultVar->Sem Value
 |.tmp t=>pure (a t)
 |.cell i t=>do loadVar t (<-asAddr (a i))
def Tl(N0:Nat):ResultVar ⊕ Option Nat->Bool
 |.inl (.tmp i)=>A3 (i<N0)
 |.inl (.cell i _)=>A3 (i<N0)
 |.inr _=>true
def WD(P:Program)(B:Base)(w:World)(tm:Nat->Value)(u:Value):ResultVar ⊕ Option Nat->Prop
 |.inl r=>(JR tm r).run P w=.ok u w
 |.inr none=>u=.slice none 0 0
 |.inr (some n)=>∀i b,n=pinned+i->B.pin i=some b->a2Q b u
section
variable {P:Program} {B:Base} {N:Nat} {w:World} {cx:Cx} {Z:Type}
theorem qW(g0:CxTy P cx){tm:Nat->Value}{N0:Nat}(Q:N0<=N){U:AE}{M:Gh}(h:sK B U N tm w M)(C:U.pd=none){D:List Nat}{j:Nat}{r:RA}{v:ResultVar ⊕ Option Nat}(hv:Tl N0 v=true)
  {K:r.ty.sJ->AE->List Nat->Rs Z}{z:Z}(a:U.out cx D j r v K=some z):
  ∃x H G h9 av u,K x (H.set j av) h9=some z/\sK B H N tm w G/\H.pd=none/\AA (Ad w G.ov) G.g H.rt (Be B w G) av u/\WD P B w tm u v/\a3j D h9 H av ⟨r,x⟩/\Jf D U H/\
   ∀i,U.get i=.dead->H.get i=.dead:=by
 have y:∀(U:AE)(n:Nat)(f:AV->AV),f .dead=.dead->∀i,U.get i=.dead->((U.sI f).sF n none).get i=.dead:=fun U n f hf i hi=>by
  grind[AE.get,AE.sF,AE.sI,SV.sI]
 cases r with
 |v t=>
  cases v with
  |inr n=>simp_all[AE.out]
  |inl rv=>
   cases rv with
   |tmp i=>
    simp[Tl]at hv;simp[AE.out]at a;rcases Ah a with⟨-,g⟩|⟨g7,a⟩;grind;have d:∀n∈(U.get i).sS,n∉D:=fun n hn hu=>by
     simp_all
    have q:=Fq h (B3 hv Q);have g6:∃x H G,K x (H.set j (.val t x)) D=some z/\sK B H N tm w G/\Cg (Ad w G.ov) (Be B w G) t x (tm i)/\H.pd=U.pd/\Jf D U H/\∀i,U.get i=.dead->H.get i=.dead:=by

     let K':t.sJ->AE->Rs Z:=fun x U'=>K x (U'.set j (.val t x)) D
     cases F:U.get i with
     |tY g=>
      simp_all[AE.uT]
     |val V x=>
      rw[F]at a q;simp[AE.uT]at a;split at a;rename_i x2 h0;exact⟨x2,U,M,a,h,Cg.tC h0 q,rfl,Jf.refl,fun _ g=>g⟩;simp_all
     |nils=>
      rw[F]at a q;cases t with
      |list o e=>
       cases o with
       |false=>
        obtain q:tm i=_:=q;exact⟨[],U,M,a,h,by rw[q];exact Cg.empty,rfl,Jf.refl,fun _ g=>g⟩
       |true=>simp_all[AE.uT]
      |nl e=>
       obtain q:tm i=_:=q;exact⟨_,U,M,a,h,by simp_all[Cg.wM],rfl,Jf.refl,fun _ g=>g⟩
      |_=>simp only[AE.uT]at a;cases a
     |empt=>
      rw[F]at a q;cases t with
      |list o e=>
       cases o with
       |false=>
        obtain⟨A,q⟩:=q;exact⟨[],U,M,a,h,by rw[q];exact Cg.empty,rfl,Jf.refl,fun _ g=>g⟩
       |true=>simp_all[AE.uT]
      |_=>simp only[AE.uT]at a;cases a
     |sref n p=>
      rw[F]at a q d;cases p with
      |cons=>simp_all[AE.uT]
      |nil=>
       simp[AE.uT]at a;split at a
       ·rename_i e l E;obtain⟨h8,E⟩:=AX E;split at a
        ·rename_i ht;subst ht;have Y:=h.vQ q E rfl;refine⟨_,_,_,a,h.xI E (by simp_all),Y.frame (fun _ _ _=>rfl) (fun c hc=>?_),rfl,Jf.gone (d n (by simp[AV.sS])) _ ?_,y U n _ rfl⟩;rcases hc with g|g;exact sK.tQ c g;have I:BD M c:=⟨n,g⟩;refine⟨h.lt I,.inr (h.mine c I),fun⟨m,L⟩=>?_⟩;have L:c∈(if m=n then[]else M.ow m).map (·.1):=L
         split at L;simp_all;rename_i X;exact h.sU m n X c L g
         ·rintro av (g|⟨m,L,rfl|rfl⟩);cases av<;>first|rfl|cases g
          all_goals simp_all[AV.xI]
        simp_all
       simp_all
     |swin n p o k=>
      rw[F]at a q d;cases p with
      |cons=>simp_all[AE.uT]
      |nil=>
       simp[AE.uT]at a;split at a
       ·rename_i e l E;obtain⟨h8,E⟩:=AX E;split at a
        ·rename_i ht;subst ht;have Y:=h.vR q E rfl;refine⟨_,_,_,a,h.xI E (by simp_all),Y.frame (fun _ _ _=>rfl) (fun c hc=>?_),rfl,Jf.gone (d n (by simp[AV.sS])) _ ?_,y U n _ rfl⟩;rcases hc with g|g;exact sK.tQ c g;have I:BD M c:=⟨n,g⟩;refine⟨h.lt I,.inr (h.mine c I),fun⟨m,L⟩=>?_⟩;have L:c∈(if m=n then[]else M.ow m).map (·.1):=L
         split at L;simp_all;rename_i X;exact h.sU m n X c L g
         ·rintro av (g|⟨m,L,rfl|rfl⟩);cases av<;>first|rfl|cases g
          all_goals simp_all[AV.xI]
        simp_all
       simp_all
     |dead|skp|nilp|ptr|vptr=>rw[F]at a;cases a
    obtain⟨x,H,G,k1,k2,k3,k4,k5,k6⟩:=g6;exact⟨x,H,G,D,.val t x,tm i,k1,k2,k4.trans C,k3,by rfl,⟨rfl,rfl⟩,k5,k6⟩
   |cell i V=>
    simp[Tl]at hv;simp only[AE.out]at a;have q:=Fq h (B3 hv Q);split at a
    ·rename_i n F;rw[F]at q;rcases Ah a with⟨-,g⟩|⟨d,a⟩;grind;have d:n∉D:=by simp_all
     split at a
     ·rename_i hT;obtain⟨g4,g5⟩:=g0.T V _ hT;obtain⟨u,H,G,O,h1,h2,h3,h4,h5⟩:=sK.zA g5 g4 h q a;split at h4
      ·rename_i k0 x;split at h4
       ·rename_i x2 h0;have h6:AA (Ad w G.ov) G.g H.rt (Be B w G) (.val t x2) u:=Cg.tC h0 h3;have hu:(JR tm (.cell i V)).run P w=.ok u w:=by
         obtain⟨r',t1,b,g9,-,-,g3⟩:=q;simp_all[Instr.loadAt,Instr.sureAddr,JR,asAddr]
        rcases h5 with⟨rfl,rfl⟩|⟨-,m,L,rfl⟩;exact⟨x2,H,G,D,.val t x2,u,h4,h2,C,h6,hu,⟨rfl,rfl⟩,Jf.refl,fun _ g=>g⟩
        ·cases L;refine⟨x2,_,G,D,.val t x2,u,h4,h2,C,h6,hu,⟨rfl,rfl⟩,Jf.gone d _ ?_,y U n _ rfl⟩;rintro av (g|⟨m,L,rfl|rfl⟩);cases av<;>first|rfl|cases g
         all_goals simp_all[AV.drop]
       simp_all
      simp_all
     simp_all
    simp_all
 |o e=>
  cases v with
  |inr n=>
   cases n with
   |none=>
    simp[AE.out]at a;exact⟨[],U,M,D,.nils,.slice none 0 0,a,h,C,rfl,rfl,.inr ⟨.inl rfl,rfl,rfl⟩,Jf.refl,fun _ g=>g⟩
   |some n=>
    simp only[AE.out]at a;rcases Ah a with⟨-,g⟩|⟨d,a⟩;grind;have d:n∉D:=by simp_all
    split at a;rename_i e' x E;split at a;rename_i S;subst S;rcases h.uG E with⟨g,-⟩|⟨-,u,e2,F,-⟩;grind;refine⟨x,U,M,n::D,.sref n [],u,a,h,C,⟨_,e',.one u,E,by show some (_,M.g n)=_;grind,rfl⟩,fun i b' hn hb=>?_,.inl ⟨n,rfl,d,rfl,E⟩,Jf.refl,fun _ g=>g⟩;subst hn
    have:=h.pins i b' hb (by simp_all)
    rw[<-this,F];rfl;simp_all;simp_all
  |inl rv=>
   cases rv with
   |cell i V=>simp_all[AE.out]
   |tmp i=>
    simp[Tl]at hv;have q:=Fq h (B3 hv Q);simp only[AE.out]at a;split at a;rename_i n F;rw[F]at q;rcases Ah a with⟨-,g⟩|⟨d,a⟩;grind;have d:n∉D:=by simp_all
    split at a;rename_i e' l E;split at a;rename_i S;subst S;exact⟨l,U,M,n::D,.sref n [],tm i,a,h,C,q,by rfl,.inl ⟨n,rfl,d,rfl,E⟩,Jf.refl,fun _ g=>g⟩;simp_all;simp_all;rename_i F;rw[F]at q;exact⟨[],U,M,D,.nils,tm i,a,h,C,q,by rfl,.inr ⟨.inl rfl,rfl,rfl⟩,Jf.refl,fun _ g=>g⟩;rename_i F;rw[F]at q;exact⟨[],U,M,D,.empt,tm i,a,h,C,q,by rfl,.inr ⟨.inr rfl,rfl,rfl⟩,Jf.refl,fun _ g=>g⟩;rename_i n F;rw[F]at q;rcases Ah a with⟨-,g⟩|⟨d,a⟩;grind;simp only[Bool.or_eq_false_iff,Bool.not_eq_false',dT]at d;have h7:n∉D:=by simp_all
    split at a;rename_i e' l E;split at a;rename_i S;subst S;obtain⟨G,k1,k2⟩:=h.clear (AX E).2 C d.2 q;refine⟨[],_,G,n::D,.sref n [],tm i,a,k1,C,⟨_,e',.one (tm i),by simp[AE.sF];rfl,by show some (_,G.g n)=_;grind,rfl⟩,by rfl,.inl ⟨n,rfl,h7,rfl,by simp[AE.sF]⟩,⟨fun i' O g1 g2=>?_,fun m L=>?_⟩,fun i' g=>?_⟩;have hd:AV.drop n O=O:=by
     rcases g2 with g|⟨m,L,rfl|rfl⟩;cases O<;>first|rfl|cases g
     have:(m==n)=false:=by grind
     simp[AV.drop,this]
     have:(m==n)=false:=by grind
     simp[AV.drop,this]
    exact a3k g1 hd
    have:(m==n)=false:=by grind
    simp[AE.sF,AE.sI,this];exact a3k g rfl;simp_all;simp_all;simp_all
 |b t=>
  cases v with
  |inr n=>
   cases n with
   |none=>simp_all[AE.out]
   |some n=>
   simp only[AE.out]at a;rcases Ah a with⟨-,g⟩|⟨d,a⟩;grind;have d:n∉D:=by simp_all
   split at a;rename_i V x E;split at a;rename_i S;subst S;obtain⟨O',R,-,-,hc⟩:=(h.roots n _ E).rd;rcases hc with⟨-,b,hs,-⟩|⟨hb,-⟩;refine⟨x,U,M,n::D,.ptr n [],.pointer (some ⟨b,0,none⟩),a,h,C,⟨_,V,b,0,E,by show some (V,M.g n)=_;grind,rfl⟩,fun i b' hn hb=>?_,⟨n,rfl,d,rfl,E⟩,Jf.refl,fun _ g=>g⟩;subst hn
   have:=h.pins i b' hb (by simp_all)
   rw[<-this,hs];exact⟨rfl,rfl⟩;simp_all;simp_all;simp_all
  |inl rv=>
   cases rv with
   |cell i V=>simp_all[AE.out]
   |tmp i=>
    simp[Tl]at hv;have q:=Fq h (B3 hv Q);simp only[AE.out]at a;split at a;rename_i n F;rw[F]at q;rcases Ah a with⟨-,g⟩|⟨d,a⟩;grind;have d:n∉D:=by
     simp_all
    split at a;rename_i V x E;split at a;rename_i S;subst S;exact⟨x,U,M,n::D,.ptr n [],tm i,a,h,C,q,by rfl,⟨n,rfl,d,rfl,E⟩,Jf.refl,fun _ g=>g⟩;simp_all;simp_all;simp_all
end
def b9C(U:AE)(av:AV)(o:Option Nat):((r:RA)×r.ty.sJ)->Prop
 |⟨.v t,x⟩=>av=.val t x/\o=none
 |⟨.o e,x⟩=>(∃n,o=some n/\av=.sref n []/\U.rt n=some ⟨false,.list true e,x⟩)\/(o=none/\(av=.nils\/av=.empt)/\x=[])
 |⟨.b t,x⟩=>∃n,o=some n/\av=.ptr n []/\U.rt n=some ⟨true,t,x⟩
theorem a3j.yL{p f:List Nat}{U j:AE}{av:AV}{i:Nat}(d:U.get i=av):∀{it:(r:RA)×r.ty.sJ},a3j p f U av it->Jf f U j->
  ∃o,b9C j (j.get i) o it/\(∀n∈p,n∈f)/\∀n,o=some n->n∉p/\n∈f
 |⟨.v t,x⟩,⟨a,c⟩,k=>by
  subst a;subst c;exact⟨none,⟨k.1 i _ d (.inl rfl),rfl⟩,fun _ g=>g,by simp⟩
 |⟨.o e,x⟩,h,k=>by
  rcases h with⟨n,rfl,c,rfl,l⟩|⟨a,c,rfl⟩;refine⟨some n,.inl ⟨n,rfl,k.1 i _ d (.inr ⟨n,by simp,.inl rfl⟩),(k.2 n (by simp)).trans l⟩,fun m g=>A8 _ g,?_⟩;simp_all;refine⟨none,.inr ⟨rfl,?_,c⟩,fun _ g=>g,by simp⟩;rw[k.1 i av d (.inl (by rcases a with rfl|rfl<;>rfl))];omega
 |⟨.b t,x⟩,⟨n,a,c,q,l⟩,k=>by
  subst a;subst q;refine⟨some n,⟨n,rfl,k.1 i _ d (.inr ⟨n,by simp,.inr rfl⟩),(k.2 n (by simp)).trans l⟩,fun m g=>A8 _ g,?_⟩;simp_all
section
variable {P:Program} {B:Base} {w:World} {cx:Cx} {Z:Type}
theorem sK.wT{N:Nat}{tm:Nat->Value}{U:AE}{M:Gh}(h:sK B U N tm w M){av:AV}{u:Value}(hv:AA (Ad w M.ov) M.g U.rt (Be B w M) av u):sK B (U.set N av) (N+1) (fun i=>if i=N then u else tm i) w M:=by
 refine⟨h.roots,h.norm,h.nodup,h.sU,h.live,fun i f=>?_,h.pend,h.size,h.frame,h.mine,h.pins,h.still⟩;rw[Eg];by_cases e:i=N;rw[if_pos e,if_pos e];exact hv;rw[if_neg e,if_neg e];exact h.slots i (by omega)
theorem WD.congr{tm g:Nat->Value}{N0:Nat}{u:Value}{v:ResultVar ⊕ Option Nat}(hv:Tl N0 v=true)(h:WD P B w tm u v)(f:∀i,i<N0->g i=tm i):WD P B w g u v:=by
 cases v with
 |inr n=>cases n<;>exact h
 |inl r=>
  cases r with
  |tmp i=>
   simp[Tl]at hv;simp only[WD,JR]at h|-;simp_all
  |cell i t=>
   simp[Tl]at hv;simp only[WD,JR]at h|-;simp_all
structure yA (P:Program) (B:Base) (w:World) (N0 N:Nat) (tm:Nat->Value) (tk:List Nat) (U U':AE) (M':Gh) (rs:List RA) (vs:List (ResultVar ⊕ Option Nat)) (y:(Dz (rs.map RA.ty)).sJ) (us:List Value) (tm':Nat->Value) (ns:List (Option Nat)):Prop where
 lu:us.length=rs.length
 lv:vs.length=rs.length
 ln:ns.length=rs.length
 rel:sK B U' (N+rs.length) tm' w M'
 pd:U'.pd=none
 low:∀i,i<N->tm' i=tm i
 high:∀(k:Nat) u,us[k]?=some u->tm' (N+k)=u
 stay:Jf tk U U'
 comes:∀(k:Nat) v u,vs[k]?=some v->us[k]?=some u->WD P B w tm u v
 fin:∀(k:Nat) it o,(Eu rs y)[k]?=some it->ns[k]?=some o->b9C U' (U'.get (N+k)) o it
 names:∀(k n:Nat),ns[k]?=some (some n)->n∉tk/\∀k':Nat,ns[k']?=some (some n)->k'=k
theorem jE(l:CxTy P cx){N0:Nat}:∀(C:List RA)(b:List (ResultVar ⊕ Option Nat)) {U:AE} {M:Gh} {N:Nat} {tm:Nat->Value} {p:List Nat} (_:N0<=N) (_:sK B U N tm w M) (_:U.pd=none) (_:∀i,N<=i->U.get i=.dead)
  (_:∀v∈b,Tl N0 v=true) {K:(Dz (C.map RA.ty)).sJ->AE->Rs Z} {z:Z} (_:U.outs cx p N C b K=some z),∃y E M' us q ns,K y E=some z/\yA P B w N0 N tm p U E M' C b y us q ns
 | [],b,U,M,N,tm,p,F,h,hpd,hdead,hvs,K,z,m=>by
  cases b with
  |cons=>simp_all[AE.outs]
  |nil=>exact⟨(),U,M,[],tm,[],m,⟨rfl,rfl,rfl,h,hpd,fun _ _=>rfl,by simp,Jf.refl,by simp,by simp,by simp⟩⟩
 | [r],b,U,M,N,tm,p,F,h,hpd,hdead,hvs,K,z,m=>by
  match b,hvs with
  | [],_=>simp_all[AE.outs]
  |_::_::_,_=>simp_all[AE.outs]
  | [v],hvs=>
   simp[AE.outs]at m;obtain⟨x,d,X,e,a,u,G,H,I,L,h5,O,Q,R⟩:=qW l F h hpd (hvs v (by simp)) m;have c:(d.set N a).get N=a:=by simp[AE.get];rw[Eg,if_pos rfl]
   have h0:Jf e d (d.set N a):=Jf.refl.set (R N (hdead N (C5 _)));have j:a3j p e (d.set N a) a ⟨r,x⟩:=O;obtain⟨o,k1,g,k3⟩:=j.yL c Jf.refl;refine⟨x,d.set N a,X,[u],_,[o],G,⟨rfl,rfl,rfl,H.wT L,I,fun i T=>if_neg (by omega),fun k D f=>?_,Q.set (hdead N (C5 _)),fun k t D f hu=>?_,fun k Y o' f ho=>?_,fun k n f=>?_⟩⟩;all_goals grind[Eu]
 |r::r'::C,b,U,M,N,tm,p,F,h,hpd,hdead,hvs,K,z,m=>by
  match b,hvs with
  | [],_=>simp_all[AE.outs]
  |v::b,hvs=>
   simp[AE.outs]at m;obtain⟨x,d,X,e,a,u,G,H,I,L,h5,O,Q,R⟩:=qW l F h hpd (hvs v (by simp)) m;have c:(d.set N a).get N=a:=by simp[AE.get];rw[Eg,if_pos rfl]
   have S:∀i,N+1<=i->(d.set N a).get i=.dead:=fun i T=>by
    have:=R i (hdead i (by omega))
    simp[AE.get]at this|-;rw[Eg,if_neg (by omega)];omega
   obtain⟨y,E,M',us,q,ns,k1,g⟩:=jE l (r'::C) b (by omega:N0<=N+1) (H.wT L) I S (fun t h9=>hvs t (by simp_all)) G;have j:a3j p e (d.set N a) a ⟨r,x⟩:=O;obtain⟨o,j1,j2,j3⟩:=j.yL c g.stay;refine⟨(x,y),E,M',u::us,q,o::ns,k1,⟨by simp[g.lu],by simp[g.lv],by simp[g.ln],?_,g.pd,fun i T=>?_,fun k D f=>?_,(Q.set (hdead N (C5 _))).trans g.stay j2,fun k t D f hu=>?_,fun k Y o' f ho=>?_,fun k n f=>?_⟩⟩
   have:=g.rel
   grind;rw[g.low i (by omega),if_neg (by omega)]
   ·cases k with
    |zero=>
     simp at f;rw[<-f,Nat.add_zero,g.low N (by omega),if_pos rfl]
    |succ k=>
     have:=g.high k D (by simp_all)
     grind
   ·cases k with
    |zero=>
     simp_all
    |succ k=>
     have A:b[k]?=some t:=by simp_all
     exact(g.comes k t D A (by simp_all)).congr (hvs t (by grind)) (fun i T=>(if_neg (by omega)).symm)
   ·cases k with
    |zero=>
     simp_all[Eu]
    |succ k=>
     have:=g.fin k Y o' (by simpa[Eu]using f) (by simp_all)
     grind
   ·cases k with
    |zero=>
     simp at f;refine⟨(j3 n f).1,fun V A=>?_⟩;cases V with
     |zero=>rfl
     |succ V=>exact absurd (j3 n f).2 (g.names V n (by simp_all)).1
    |succ k=>
     obtain⟨a1,a2⟩:=g.names k n (by simp_all);grind
end
theorem a3l{P:Program}{fn:Func}{a:Act}{w:World}{g:List Value}(e:g.length=fn.results.toList.length)
  (h:∀(k:Nat) r u,fn.results.toList[k]?=some r->g[k]?=some u->(JR (AJ a) r).run P w=.ok u w):(results fn a.tmps).run P w=.ok (bX g) w:=by
 have b:(fn.results.toList.mapM (JR (AJ a))).run P w=.ok g w:=a3i _ _ e h;have c:fn.results.mapM (JR (AJ a))=Functor.map List.toArray (fn.results.toList.mapM (JR (AJ a))):=by
  rw[<-List.mapM_toArray]
 have d:results fn a.tmps=(do
   let f <-fn.results.mapM (JR (AJ a))
   pure (if h:f.size=1 then f[0]else .tuple f)):=by
  rfl
 rw[d,c];simp only[map_eq_pure_bind,bind_assoc,pure_bind,Sem.run_bind,b,Result.andThen_ok,Sem.run_pure,List.size_toArray];congr 1
 match g with
 | []=>rfl
 | [u]=>rfl
 |_::_::_=>rfl
section
variable {P:Program} {B:Base} {w:World} {cx:Cx}
theorem yA.back{N0 N:Nat}{tm:Nat->Value}{U U':AE}{M':Gh}{M:List RA}{vs y us h1 ns}(h:yA P B w N0 N tm [] U U' M' M vs y us h1 ns):
  ∃C,wR B w (Eu M y) us C:=by
 have h0:=h.rel.sZ h.pd;have q:Ad w M'.ov=cells w:=by rw[h0];rfl
 let F:Option Nat->Value->Src×CK:=fun o u=>match o with
  |some n=>(M'.g n,M'.ow n)
  |none=>(.one u,[])
 let C:=F2 F ns us
 have m:∀(k:Nat) L,C[k]?=some L->∃o u,ns[k]?=some o/\us[k]?=some u/\L=F o u:=fun k L hk=>by
  grind
 have a:∀L∈C,L.2=[]\/∃(k n:Nat),ns[k]?=some (some n)/\L.2=M'.ow n:=fun L d=>by
  obtain⟨k,hk⟩:=E6.1 d;grind
 have D:∀c,Be B w M' c->(c<w.heap.size/\(B.S c\/B.F c\/B.size<=c)/\∀L∈C,c∉L.2.map (·.1)):=fun c j=>⟨j.1,j.2.1,fun L d I=>by
  rcases a L d with g|⟨k,n,-,g⟩;simp_all;rw[g]at I;exact j.2.2 ⟨n,I⟩⟩
 have K:∀L∈C,∀c∈L.2.map (·.1),BD M' c:=fun L d c j=>by
  rcases a L d with g|⟨k,n,-,g⟩;simp_all;rw[g]at j;exact⟨n,j⟩
 refine⟨C,⟨by rw[h.lu,LM],by simp[C,h.lu,h.ln,LM],fun k it u L T hu d=>?_,fun L d=>?_,fun k k' L L' d O V c j Q=>?_,fun L d p hp=>?_,fun L d c j=>h.rel.mine c (K L d c j),h.rel.size,h.rel.frame,h.rel.still⟩⟩
 ·obtain⟨o,u',Y,E,rfl⟩:=m k L d;rw[hu]at E;simp at E;subst E;have l:=h.fin k it o T Y;have hk:k<M.length:=by rw[<-h.lu];grind
  have i:=Fq h.rel (show N+k<N+M.length by omega);rw[h.high k u hu,q]at i;obtain⟨r,x⟩:=it;cases r with
  |v t=>
   obtain⟨g1,rfl⟩:=l;rw[g1]at i;exact⟨Cg.frame i (fun _ _ _=>rfl) D,rfl⟩
  |o e=>
   rcases l with⟨n,rfl,z,H⟩|⟨rfl,z,rfl⟩;rw[z]at i;obtain⟨r',e',s,a1,G,a3⟩:=i;rw[H]at a1;simp at a1;subst a1;simp only[loc,Cj,sj,pJ]at G;obtain⟨-,rfl⟩:=G;have f:=h.rel.roots n _ H;rw[q]at f;refine⟨?_,f.mono D⟩;obtain⟨O',R,-,-,j⟩:=f.rd;rcases j with⟨hb,-⟩|⟨-,⟨v0,h2⟩,-,-⟩;grind;show M'.g n=.one u;simp_all[Src.rd]
   ·refine⟨rfl,⟨[],[],?_,by simp,.inr ⟨rfl,⟨_,rfl⟩,⟨e,rfl⟩,rfl⟩⟩⟩;show Cn _ true e.cells (AO _ e) (some u)=some (([]:List e.sJ),[],[]);rcases z with z|z;rw[z]at i;have i:u=.slice none 0 0:=i;rw[i];rfl
    ·rw[z]at i;obtain⟨A,i⟩:=i;rw[i];cases A with
     |none=>rfl
     |some A=>rfl
  |b t=>
   obtain⟨n,rfl,z,H⟩:=l;rw[z]at i;obtain⟨r',t',b,o',a1,G,a3⟩:=i;rw[H]at a1;simp at a1;subst a1;simp[Cj]at G;obtain⟨rfl,G⟩:=G;have f:=h.rel.roots n _ H;rw[q]at f;refine⟨f.mono D,b,?_⟩;obtain⟨O',R,-,-,j⟩:=f.rd;grind
 rcases a L d with g|⟨k,n,-,g⟩;simp_all;rw[g];exact h.rel.nodup n
 ·obtain⟨o,u,Y,-,rfl⟩:=m k L d;obtain⟨o',u',Z,-,rfl⟩:=m k' L' O;cases o with
  |none=>grind
  |some n=>
   cases o' with
   |none=>grind
   |some n'=>
    have X:n≠n':=by
     rintro rfl;exact V ((h.names k' n Z).2 k Y)
    exact h.rel.sU n n' X c j Q
 rcases a L d with g|⟨k,n,-,g⟩;simp_all;rw[g]at hp;exact h.rel.live n p hp
theorem Un:∀(g:List PA)(i0 i:Nat),i∈Bc g i0->∃c a,g[i-i0]?=some (.r c a)
 | [],_,_,h=>by simp[Bc]at h
 |.v _::g,i0,i,h=>by
  have:=(Rq g (i0+1)).2 i h
  obtain⟨c,a,f⟩:=Un g (i0+1) i h;exact⟨c,a,by rw[show i-i0=(i-(i0+1))+1 from by omega];simpa using f⟩
 |.r c a::g,i0,i,h=>by
  rcases mC.1 h with rfl|h;exact⟨c,a,by simp⟩
  have:=(Rq g (i0+1)).2 i h
  obtain⟨c,a,f⟩:=Un g (i0+1) i h;exact⟨c,a,by rw[show i-i0=(i-(i0+1))+1 from by omega];simpa using f⟩
def b8g(fn:Func)(c:Code)(H:sD)(s:sG):Bool:=
 CQ fn.ntmps c&&(H.fits fn.ntmps&&(A3 (s.ps.length<=fn.ntmps)&&fn.results.toList.all fun r=>Tl fn.ntmps (.inl r)))
theorem Uo(x:CxTy P cx){fn:Func}{s:sG}{y}{args:Array Value}(L:(fn.results.toList.all fun r=>Tl fn.ntmps (.inl r))=true){o:Act}{w':World}{M':Gh}{n:AE}(R:sK B n fn.ntmps (AJ o) w' M')(D:n.pd=none)
  (N:(n.upto fn.ntmps).outs cx [] fn.ntmps (RA.all s.ps s.rs) (fn.results.toList.map .inl++(Bc s.ps 0).map fun i=>.inr (Sb s.ps i)) (fun y _=>some y)=some y)
  (f:a8m B s.ps args):
  ∃v,(results fn o.tmps).run P w'=.ok v w'/\∃H I,Ending.returned v=.returned (bX H)/\H.length=s.rs.length/\wR B w' (Eu (RA.all s.ps s.rs) y) (H++(Bc s.ps 0).map (FU s.ps args)) I:=by
 have G:sK B (n.upto fn.ntmps) fn.ntmps (AJ o) w' M':=R.weak fun i O v d=>by
  simp_all
 obtain⟨Z,X,V,m,U,Y,K,j⟩:=jE (P:=P) (w:=w') (N0:=fn.ntmps) x _ _ (C5 _) G D (fun i O=>by
   have:A3 (i<fn.ntmps)=false:=by simp_all
   simp only[AE.get,AE.upto,this,cF]) (fun v d=>by
   rcases mA.1 d with d|d;grind;obtain⟨i,-,rfl⟩:=C2.1 d;rfl) N
 simp at K;subst K;obtain⟨I,t⟩:=j.back;have C:=j.lv;simp only[RA.all,lN,List.length_map,Nb s.ps 0,Array.length_toList]at C;have A:=j.lu;simp[RA.all]at A;have S:fn.results.toList.length=s.rs.length:=by simp_all

 have T:m=m.take s.rs.length++(Bc s.ps 0).map (FU s.ps args):=by
  have e:=List.take_append_drop s.rs.length m
  conv=>lhs;rw[<-e]
  congr 1;refine F6 fun k=>?_
  rw[List.getElem?_drop,F7];cases hk:(Bc s.ps 0)[k]? with
  |none=>
   simp_all[Nb]
  |some i=>
   have l:=(lS.1 hk).1;rw[Nb]at l;have F:=lG (show s.rs.length+k<m.length by omega);rw[F]
   simp
   have d:(fn.results.toList.map Sum.inl++(Bc s.ps 0).map fun i=>Sum.inr (Sb s.ps i))[s.rs.length+k]?=some (Sum.inr (Sb s.ps i):ResultVar ⊕ Option Nat):=by
    simp_all[D7]
   have g:=j.comes _ _ _ d F;have z:∃c,eN s.ps i=some c:=by
    obtain⟨c,a,Q⟩:=Un s.ps 0 i (D2 hk);exact⟨c,PT (by omega)⟩
   obtain⟨c,h⟩:=z;cases c with
   |true=>
    simp[Sb,h]at g;simp[FU,h];exact g
   |false=>
    simp[Sb,h]at g;simp only[FU,h];obtain⟨b,p,q⟩:=f i (D2 hk) h;exact a2Q.yH (g i b rfl p) q
 have M:(results fn o.tmps).run P w'=.ok (bX (m.take s.rs.length)) w':=by
  refine a3l (by grind) fun k r u E F=>?_
  have l:=(lS.1 E).1;refine j.comes k (.inl r) u ?_ ?_
  all_goals grind
 grind
theorem JI.of(j:vB P cx)(Q:P.follows .mixedOrders=true){f:FuncId}{fn:Func}{c:Code}{H:sD}{s:sG}(t:P.funcs[f]?=some fn)(hb:fn.body=some c)(m:b8g fn c H s=true)
  (r:∀x,Zg cx H fn s.ps s.rs x=s.F x):JI P cx.G f s:=by
 simp only[b8g,EV,dT]at m;obtain⟨l,L,S,o⟩:=m;intro w B M args x y K A X O R q h b;rw[<-r x]at A;simp[Zg,hb]at A
 let a:Act:={ tmps:=args++D3 (fn.ntmps-args.size) undef,defers:=[] }
 have z:a.tmps.size=fn.ntmps:=by grind
 have d:sK B (TM s.ps x) fn.ntmps (AJ a) w M:=by
  refine⟨h.roots,h.norm,h.nodup,h.sU,h.live,fun i Z=>?_,h.pend,h.size,h.frame,h.mine,h.pins,h.still⟩;by_cases hlt:i<s.ps.length
  have:=h.slots i hlt
  have e:AJ a i=args.getD i undef:=by
   simp[AJ,a,E7];simp_all
  simp_all
  have:(TM s.ps x).sl i=.one .dead:=by
   simp_all[TM,HM]
  rw[this];trivial
 refine calls_of_wp t hb (wp_mono ((wpIn_wide (n:=0)).1 (Ny (ro:=none) (D:=[]) j K Q L c 1 l A d z rfl)) ?_);rintro e V w' ⟨ex,E,U,rfl,p,T,Y,I⟩;simp at p;have C:(∀i,ex≠.exit i)/\E.pd=none/\(E.upto fn.ntmps).outs cx [] fn.ntmps (RA.all s.ps s.rs) (fn.results.toList.map .inl++(Bc s.ps 0).map fun i=>.inr (Sb s.ps i)) (fun y _=>some y)=some y:=by
  grind
 obtain⟨N,u,p⟩:=C;obtain⟨v,k,g⟩:=Uo (args:=args) j.toCxTy o T u p b;cases ex with
 |exit i=>simp_all
 |normal=>exact⟨I,_,k,g⟩
 |ret=>exact⟨I,_,k,g⟩
end
end Go.Ab
namespace Go.Ab
open Go.ChangeShapes Go.WideShapes
def Wf:(t:Ty)->t.sJ->Prop
 |.int k,n=>(Lit.int k n).wf=true
 |.str,l=>∀b∈(show List Int from l),0<=b/\b<=255
 |.list _ t,l|.nl t,l=>∀x∈(show List t.sJ from l),Wf t x
 |.arr n t,l=>(show List t.sJ from l).length=n/\∀x∈(show List t.sJ from l),Wf t x
 |.pair a b,x=>Wf a x.1/\Wf b x.2
 |.bool,_|.unit,_=>True
def Hb:(t:Ty)->t.sJ->Nat
 |.str,l=>(show List Int from l).length+1
 |.list _ t,l|.nl t,l=>1+((show List t.sJ from l).map (Hb t)).sum
 |.arr _ t,l=>((show List t.sJ from l).map (Hb t)).sum
 |.pair a b,x=>Hb a x.1+Hb b x.2
 |.unit,_=>0
 |.int _,_|.bool,_=>1
structure xL {H:Type} (bulk:DataW H->Nat):Prop where
 one:∀d,1<=bulk d
 str:∀bs,bulk (.lit (.string bs))=bs.length+1
 slice:∀es sp,(es.map bulk).sum+1<=bulk (.slice es sp)
 agg:∀ps,(ps.map bulk).sum<=bulk (.agg ps)
def Zw:Ty->Bool
 |.list o e=>Zw e&&!o
 |.nl _=>false
 |.pair a b=>Zw a&&Zw b
 |.arr _ t=>Zw t
 |_=>true
theorem WE{α:Type}{f:Nat->Option (α×CK×List Nat)}{p:α->Prop}{q:Nat->Prop}{g:α->Nat}{b:Nat->Nat}:∀(n i:Nat),(∀j,j<n->∃x R,f (i+j)=some (x,[],R)/\p x/\g x<=b (i+j)/\∀c∈R,q c)->
  ∃xs Rs,Ak f n i=some (xs,[],Rs)/\(∀x∈xs,p x)/\(xs.map g).sum<=((D8 i n).map b).sum/\∀c∈Rs,q c
 |0,_,_=>⟨[],[],rfl,by simp,by simp,by simp⟩
 |n+1,i,h=>by
  obtain⟨x,R,k,o,a,r⟩:=h 0 (by omega);obtain⟨xs,Rs,d,e,l,m⟩:=WE n (i+1) (fun j u=>by
   have:=h (j+1) (by omega)
   rwa [show i+(j+1)=i+1+j from by omega]at this)
  rw[Nat.add_zero]at k a;refine⟨x::xs,R++Rs,by simp_all[Ak],fun y v=>?_,?_,fun c t=>?_⟩;grind;all_goals grind[List.range'_succ]
section
variable {H:Type} {enc:TypeId×Value->H} {P:Program} {w:World} {base:Nat} {sp:Nat->Bool} {held:Bool} {bulk:DataW H->Nat}
theorem Pu{τ:Ty}{t:TypeId}(h:AU P τ (.inl t)=true):P.cellsOf t=τ.cells:=by
 have:=AY h
 unfold KN at this;unfold Program.cellsOf;grind
theorem a8w{a:Addr}{v:Value}(h:w.cell? a=some v):a.block<w.heap.size:=by
 grind[World.cell?]
theorem b8h(hb:xL bulk)(hs:∀b,sp b=true):∀(t:Ty),
  (∀(T:TypeId)(n:Nat)(cs:List Value) y,AU P t (.inl T)=true->Zw t=true->DataW.trod enc P w base sp held n T cs=some y->
   ∃x R,AO (cells w) t (fun j=>cs[j]?)=some (x,[],R)/\Wf t x/\Hb t x<=bulk y.1/\∀c∈R,c<w.heap.size)/\
  (∀(B:List Field)(off n:Nat)(cs:List Value)(xs:List (DataW H×List MemPlace)),AU P t (.inr (B,off))=true->Zw t=true->xs.length=B.length->
   (∀(i:Nat)(f:Field),B[i]?=some f->DataW.trod enc P w base sp held n f.type ((cs.drop f.offset).take (P.cellsOf f.type))=xs[i]?)->
   ∃x R,AO (cells w) t (fun j=>cs[off+j]?)=some (x,[],R)/\Wf t x/\Hb t x<=((xs.map (·.1)).map bulk).sum/\∀c∈R,c<w.heap.size):=by
 intro t
 induction t with
 |int k=>
  refine⟨fun T n cs y d _ h=>?_,fun B off n cs xs d=>by simp[AU]at d⟩;obtain⟨m,rfl,rfl,hw⟩:=DataW.trod_int (Pl d) h;exact⟨m,[],by simp[AO],hw,hb.one _,by simp⟩
 |bool=>
  refine⟨fun T n cs y d _ h=>?_,fun B off n cs xs d=>by simp[AU]at d⟩;have K:P.underlying T=some .bool:=by
   simp[AU]at d;grind
  obtain⟨m,rfl,rfl⟩:=DataW.trod_bool K h;exact⟨m,[],by rfl,trivial,hb.one _,by simp⟩
 |str=>
  refine⟨fun T n cs y d _ h=>?_,fun B off n cs xs d=>by simp[AU]at d⟩;have K:P.underlying T=some .string:=by
   simp[AU]at d;grind
  obtain⟨s,rfl,rfl,-⟩:=DataW.trod_string K h;refine⟨_,[],by rfl,fun b g9=>?_,?_,by simp⟩;obtain⟨u,-,rfl⟩:=C2.1 g9
  have:=u.toNat_lt
  omega;rw[hb.str];simp[Hb]
 |unit=>
  refine⟨fun T n cs y d _ h=>⟨(),[],rfl,trivial,Nat.zero_le _,by simp⟩,fun B off n cs xs d _ _ _=>⟨(),[],rfl,trivial,Nat.zero_le _,by simp⟩⟩
 |pair a b iha ihb=>
  have S:(∀(B:List Field)(off n:Nat)(cs:List Value)(xs:List (DataW H×List MemPlace)),AU P (.pair a b) (.inr (B,off))=true->Zw (.pair a b)=true->xs.length=B.length->
   (∀(i:Nat)(f:Field),B[i]?=some f->DataW.trod enc P w base sp held n f.type ((cs.drop f.offset).take (P.cellsOf f.type))=xs[i]?)->
   ∃x R,AO (cells w) (.pair a b) (fun j=>cs[off+j]?)=some (x,[],R)/\Wf (.pair a b) x/\Hb (.pair a b) x<=((xs.map (·.1)).map bulk).sum/\∀c∈R,c<w.heap.size):=by
   intro B off n cs xs d v hl hf;cases B with
   |nil=>simp[AU]at d
   |cons f r=>
    simp[AU]at d;obtain⟨⟨⟨ho,g5⟩,C⟩,htb⟩:=d;simp[Zw]at v;cases xs with
    |nil=>grind
    |cons x0 xs=>
     have h0:=hf 0 f rfl;simp at h0;rw[Pu g5,ho]at h0;have h7:∀j,j<a.cells->((cs.drop off).take a.cells)[j]?=cs[off+j]?:=fun j I=>by
      grind
     obtain⟨x,R,D,F,V,N⟩:=iha.1 f.type n _ x0 g5 v.1 h0;obtain⟨y,R',k1,k2,k3,k4⟩:=ihb.2 r (off+a.cells) n cs xs htb v.2 (by grind) (fun i f' hi=>by simpa using hf (i+1) f' (by grind));refine⟨(x,y),R++R',?_,⟨F,k2⟩,?_,fun c hc=>?_⟩;have e1:=AF (m':=cells w) a (rd':=fun j=>cs[off+j]?) D (fun j I=>(h7 j I).symm) (fun _ _ _=>rfl);grind[AO];all_goals grind[Hb]
  refine⟨fun T n cs y d v h=>?_,S⟩;obtain⟨B,K,k0⟩:∃B:Array Field,P.underlying T=some (.struct B)/\AU P (.pair a b) (.inr (B.toList,0))=true:=by
   simp[AU]at d;obtain⟨-,d⟩:=d;split at d;rename_i B K;refine⟨B,K,?_⟩;split at d;rename_i f r hr;rw[hr];simp only[AU,F3];omega;grind;grind
  obtain⟨xs,m,-,rfl,hl,g0,hf⟩:=DataW.trod_struct K h;obtain⟨x,R,D,F,V,N⟩:=S B.toList 0 m cs xs k0 v (by omega) (fun i f hi=>hf i f (by grind));refine⟨x,R,?_,F,B9 V (hb.agg _),N⟩;grind
 |list o e ih=>
  refine⟨fun T n cs y d v h=>?_,fun B off n cs xs d=>by simp[AU]at d⟩;obtain⟨Z,K,E,C⟩:=BQ d;simp[Zw]at v;obtain⟨k6,rfl⟩:=v;rcases DataW.trod_slice K h with⟨rfl,rfl⟩|⟨a,L,h4,l,g6,m,-,rfl,rfl,k9,h8,k8,h9,h5,Y,-⟩;exact⟨[],[],by rfl,by simp[Wf],by simp only[Hb];exact hb.one _,by simp⟩;have A:h4=0\/a.spot=none:=by
   by_cases hc0:h4=0;omega;refine .inr ?_
   have M:∀{o:Nat}{z},o=0->(w.cells? base (a.add (o*P.cellsOf Z)) (P.cellsOf Z)).bind (DataW.trod enc P w base sp held m Z)=some z->a.spot=none:=fun ho O=>by
    subst ho;obtain⟨U,h2,-⟩:=B8.1 O;rw[Pu E]at h2;obtain⟨-,k5,X⟩:=World.cells?_some h2;have h3:=X 0 C;rw[Nat.zero_mul,Addr.add_zero',Addr.add_zero',lG (by omega)]at h3;grind[World.cell?_spot]
   by_cases hl0:L=0;obtain⟨a2,k7⟩:=Y (hs _);have O:=k7 0 (by omega);grind;have O:=h5 0 (by omega);grind
  have M:∀i,i<L->∃x R,AO (cells w) e (fun j=>cells w a.block (a.off+(i*e.cells+j)))=some (x,[],R)/\Wf e x/\Hb e x<=bulk ((l.getD i (.nil,[])).1)/\(∀c∈R,c<w.heap.size)/\a.block<w.heap.size:=fun i hi=>by
   have O:=h5 i hi;rw[lG (by omega)]at O;obtain⟨U,h2,h3⟩:=B8.1 O;rw[Pu E]at h2;obtain⟨-,k5,X⟩:=World.cells?_some h2;have A:a.spot=none:=A.resolve_left (by omega);obtain⟨x,R,D,F,V,N⟩:=ih.1 Z m U _ E k6 h3;have G:∀j,j<e.cells->cells w a.block (a.off+(i*e.cells+j))=U[j]?:=fun j I=>by
    rw[<-X j I]
    have:a=⟨a.block,a.off,none⟩:=by rw[<-A]
    rw[this,add_plain,add_plain,Nat.add_assoc];rfl
   refine⟨x,R,AF e D (fun j I=>G j I) (fun _ _ _=>rfl),F,by simp_all,N,?_⟩
   have:=G 0 C
   rw[lG (by omega)]at this;exact a8w (a:=⟨a.block,_,none⟩) this
  obtain⟨xs,Rs,D,F,V,N⟩:=WE (p:=Wf e) (q:=fun c=>c<w.heap.size) (g:=Hb e) (b:=fun i=>bulk ((l.getD i (.nil,[])).1)) L 0 (fun j I=>by
   obtain⟨x,R,k1,k2,k3,k4,-⟩:=M j I;rw[F3];exact⟨x,R,k1,k2,k3,k4⟩)
  have Q:((D8 0 L).map fun i=>bulk ((l.getD i (.nil,[])).1)).sum=((l.map (·.1)).map bulk).sum:=by
   rw[F1,Go.Deep.map_by_index l (.nil,[]) (bulk∘(·.1)),h9,C6];rfl
  have g7:=hb.slice (l.map (·.1)) (g6.map (·.1));by_cases hn:L=0;subst hn;simp only[Ak,sj,pJ]at D;obtain⟨rfl,-,-⟩:=D;exact⟨[],[],by simp only[AO,Cn,C9];rw[if_pos ⟨A,h8⟩];rfl,by simp[Wf],by grind[Hb],by simp⟩;refine⟨xs,a.block::([]++Rs),?_,F,?_,fun c hc=>?_⟩;simp only[AO,Cn,C9,A,h8,and_self,if_true,D,A6,if_false,if_neg hn,F4];rfl;grind[Hb];rcases mC.1 hc with rfl|hc;obtain⟨_,_,_,_,_,_,h6⟩:=M 0 (by omega);omega;grind
 |nl e ih=>grind[Zw]
 |arr n e ih=>
  refine⟨fun T f cs y d v h=>?_,fun B off n cs xs d=>by simp[AU]at d⟩;obtain⟨Z,K,E,C⟩:=Pj d;obtain⟨xs,m,-,rfl,hl,g0,hf⟩:=DataW.trod_array K h;simp[Zw]at v;have M:∀i,i<n->∃x R,AO (cells w) e (fun j=>cs[i*e.cells+j]?)=some (x,[],R)/\Wf e x/\Hb e x<=bulk ((xs.getD i (.nil,[])).1)/\∀c∈R,c<w.heap.size:=fun i hi=>by
   have O:=hf i hi;rw[lG (by omega),Pu E]at O;obtain⟨x,R,D,F,V,N⟩:=ih.1 Z m _ _ E v O;refine⟨x,R,AF e D (fun j I=>?_) (fun _ _ _=>rfl),F,by simp_all,N⟩;simp_all
  obtain⟨ys,Rs,D,F,V,N⟩:=WE (p:=Wf e) (q:=fun c=>c<w.heap.size) (g:=Hb e) (b:=fun i=>bulk ((xs.getD i (.nil,[])).1)) n 0 (fun j I=>by
   obtain⟨x,R,k1,k2,k3,k4⟩:=M j I;rw[F3];exact⟨x,R,k1,k2,k3,k4⟩)
  have Q:((D8 0 n).map fun i=>bulk ((xs.getD i (.nil,[])).1)).sum=((xs.map (·.1)).map bulk).sum:=by
   rw[F1,Go.Deep.map_by_index xs (.nil,[]) (bulk∘(·.1)),g0,C6];rfl
  refine⟨ys,Rs,by simp[AO];exact D,⟨Bd _ _ D,F⟩,?_,N⟩;simp[Hb];exact B9 (B9 V (Nat.le_of_eq Q)) (hb.agg _)
end
end Go.Ab
namespace Go.Ab
open Go.ChangeShapes Go.WideShapes Go.RowKit
def b2e(ps:List PA)(x:(Dz (ps.map PA.ty)).sJ):Prop:=∀it∈Bx ps x,Wf it.1.ty it.2
def a3m(ps:List PA)(x:(Dz (ps.map PA.ty)).sJ):Nat:=((Bx ps x).map fun it=>Hb it.1.ty it.2).sum
def TF(P:Program):List PA->List TypeId->Bool
 | [],[]=>true
 |.v t::ps,T::Ts=>AU P t (.inl T)&&(Zw t&&(P.readableRec T&&(A3 (T<P.types.size)&&TF P ps Ts)))
 |_,_=>false
section
variable {H:Type} {enc:TypeId×Value->H} {P:Program} {w:World} {base:Nat} {sp:Nat->Bool} {held:Bool} {bulk:DataW H->Nat}
theorem a3n(hb:xL bulk)(A:∀b,sp b=true){t:Ty}{T:TypeId}{v:Value}{d:DataW H}{B:List MemPlace}{r:Reach}{e:Nat}(k:AU P t (.inl T)=true)(u:Zw t=true)(f:Value.okWide P w r e T v)(h:DataW.Trod enc P w base sp held T v d B):
  ∃x,Cg (cells w) (fun c=>c<w.heap.size) t x v/\Wf t x/\Hb t x<=bulk d:=by
 obtain⟨n,z⟩:=h;have m:t.isAgg=true->∃i,v=.agg i/\i.size=P.cellsOf T/\Row.okWide P w r e T i:=fun a=>by
  cases t<;>simp only[Ty.isAgg,A6]at a
  all_goals
   simp only[AU,EV]at k;obtain⟨-,k⟩:=k;split at k;rename_i j;simp only[Value.okWide,j]at f;omega;simp_all
 have l:t.isAgg=false->Cell.okWide P w r e T v:=fun a=>by
  cases t<;>simp only[Ty.isAgg,Bool.true_eq_false]at a
  all_goals
   simp only[AU,EV]at k;obtain⟨-,k⟩:=k;split at k;rename_i j;simp only[Value.okWide,j]at f;exact f;cases k
 have g:t.isAgg=false->Cd v=true:=fun a=>by
  have:=l a
  cases v<;>first|rfl|skip
  all_goals
   exfalso;unfold Cell.okWide at this;split at this<;>first|(rename_i y;cases y;done)|skip
   all_goals
    unfold Cell.ok at this;simp_all
 obtain⟨x,R,C,o,p,q⟩:=(b8h hb A t).1 T n v.cells.toList _ k u z;refine⟨x,⟨fun a=>?_,g,R,?_,q⟩,o,p⟩;all_goals grind[Pu]
theorem a8x(hb:xL bulk)(G:∀b,sp b=true){r:Reach}{N:Nat}:∀(a:List PA)(e:List TypeId)(i:List Value)(l:List (DataW H)) (p:List MemPlace),TF P a e=true->(∀(j:Nat) T v,e[j]?=some T->i[j]?=some v->Value.okWide P w r N T v)->
  DataW.TrodAll enc P w base sp held e i l p->
  ∃x:(Dz (a.map PA.ty)).sJ,i.length=a.length/\b2e a x/\a3m a x<=(l.map bulk).sum/\l.length=a.length/\
   ∀(k:Nat) it v,(Bx a x)[k]?=some it->i[k]?=some v->∃t y,it=⟨.v t,y⟩/\Cg (cells w) (fun c=>c<w.heap.size) t y v
 | [],[],i,l,p,_,_,h=>by
  obtain⟨rfl,rfl,rfl⟩:=trodAll_nil h;exact⟨(),rfl,by simp[b2e,Bx],by simp[a3m,Bx],rfl,by simp⟩
 | [.v t],T::e,i,l,p,f,o,h=>by
  simp only[TF,EV]at f;obtain⟨B,C,-,-,F⟩:=f;obtain⟨v,n,d,m,q,M,rfl,rfl,rfl,z,A⟩:=trodAll_cons h;cases e with
  |cons T' e=>simp[TF]at F
  |nil=>
   obtain⟨rfl,rfl,rfl⟩:=trodAll_nil A;obtain⟨x,Q,I,K⟩:=a3n hb G B C (o 0 T v rfl rfl) z;refine⟨x,rfl,fun it g=>by obtain rfl:=List.mem_singleton.1 g;exact I,by simp[a3m,Bx];exact K,rfl,fun k it u D E=>?_⟩;cases k with
   |zero=>
    simp[Bx]at D E;grind
   |succ k=>simp_all
 |.v t::S::a,T::e,i,l,p,f,o,h=>by
  simp only[TF,EV]at f;obtain⟨B,C,-,-,F⟩:=f;obtain⟨v,n,d,m,q,M,rfl,rfl,rfl,z,A⟩:=trodAll_cons h;obtain⟨x,Q,I,K⟩:=a3n hb G B C (o 0 T v rfl rfl) z;obtain⟨y,V,R,L,X,Y⟩:=a8x hb G (S::a) e n m M F (fun j T v U O=>o (j+1) T v (by simp_all) (by simp_all)) A;refine⟨(x,y),by grind,fun it g=>?_,?_,by grind,fun k it u D E=>?_⟩;rcases mC.1 g with rfl|g;exact I;exact R it g;simp[a3m,Bx]at L|-;exact Nat.add_le_add K L
  ·cases k with
   |zero=>
    simp[Bx]at D E;grind
   |succ k=>grind[Bx]
 |.r _ _::_,_,_,_,_,f,_,_=>by simp[TF]at f
 |.v _::_,[],_,_,_,f,_,_=>by simp[TF]at f
 | [],_::_,_,_,_,f,_,_=>by simp[TF]at f
theorem b2f(m:laidOutB P=true){W l:World}{a:Nat->Bool}:∀(i:List PA)(k:List TypeId)(c:List Value)(b:List (DataW H)) (p:List MemPlace),TF P i k=true->
  DataW.TrodAll enc P W base (fun _=>true) true k c b p->(∀q∈p,W.sameAt l q)->(∀q∈p,a q.block=true)->DataW.TrodAll enc P l base a true k c b p
 | [],[],c,b,p,_,h,_,_=>by
  obtain⟨rfl,rfl,rfl⟩:=trodAll_nil h;rfl
 |.v t::i,T::k,c,b,p,g,h,n,hsp=>by
  simp[TF]at g;obtain⟨-,-,w,y,z⟩:=g;obtain⟨v,j,d,e,q,A,rfl,rfl,rfl,o,u⟩:=trodAll_cons h;exact trodAll_cons_mk (WideElems.Trod_stays m w y o (fun x f=>n x (A9 _ f)) (fun x f=>hsp x (A9 _ f)))
   (b2f m i k j e A z u (fun x f=>n x (A7 _ f)) (fun x f=>hsp x (A7 _ f)))
 |.r _ _::_,_,_,_,_,g,_,_,_=>by simp[TF]at g
 |.v _::_,[],_,_,_,g,_,_,_=>by simp[TF]at g
 | [],_::_,_,_,_,g,_,_,_=>by simp[TF]at g
theorem cK:∀(g:List PA)(f:List TypeId)(i:Nat),TF P g f=true->Bc g i=[]
 | [],_,_,_=>rfl
 |.v t::g,T::f,i,h=>by
  simp only[TF,EV]at h;exact cK g f (i+1) h.2.2.2.2
 |.v _::_,[],_,h=>by simp[TF]at h
 |.r _ _::_,_,_,h=>by simp[TF]at h
theorem a0V{bulk:DataW H->Nat}(D:xL bulk){f:FuncId}{fn:Func}{s:sG}{k:ChangeSpec}{tb:TypeId}{N:Nat}{G:VF}(hF:JI P G f s)(hl:laidOutB P=true)(I:TF P s.ps fn.params.toList=true)
  (g7:s.rs=[.v .bool])(g9:fn.resultTypes=#[tb])(k1:P.underlying tb=some .bool)(o:k.vars=[])(O:∀w:List (DataW H),w.length=s.ps.length->k.fn H w={ results:=[.lit (.bool true)],args:=w })
  (h0:∀x,b2e s.ps x->a3m s.ps x<=N->∃y,s.F x=some y/\(Eu (RA.all s.ps s.rs) y)[0]?=some ⟨.v .bool,true⟩)
  {W:World}{b0:Nat}{args:Array Value}{w gs:List (DataW H)}{u:List MemPlace}{d C l:Bool}
  (U:∀g t x,G g=some ⟨t,x⟩->g<W.heap.size/\AO (Ad W none) t ((Src.at g 0).rd (Ad W none))=some (x,[],[]))
  (h6:∀(j:Nat) t v,fn.params[j]?=some t->args[j]?=some v->Value.okWide P W .any b0 t v)(hW:DataW.Whole enc P fn.params.toList k.vars d W args.toList w gs u)(hN:((w++gs).map bulk).sum<=N):
  Calls P f args W fun e W'=>∃v,e=.returned v/\k.post enc P fn d C l false W args v W':=by
 have g0:=hW.lt;have h8:=hW;obtain⟨p,q,hA,hV,rfl,k3,k4⟩:=hW;rw[o]at hV;obtain⟨rfl,rfl⟩:=trodVars_none hV;obtain⟨x,g1,g2,g3,g4,g5⟩:=a8x D (fun _=>rfl) s.ps fn.params.toList args.toList w p I (fun j T v hT hv=>h6 j T v (by simp_all) (by simp_all)) hA;rw[C7]at hN;obtain⟨y,hy,E⟩:=h0 x g2 (B9 g3 hN);have g6:=cK s.ps fn.params.toList 0 I
 let B:Base:={ size:=W.heap.size,hp:=fun b=>W.heap[b]?,F:=fun _=>False,S:=fun _=>True,io:=FT W }
 let M:Gh:=⟨fun _=>.one undef,fun _=>[],none⟩
 have k2:∀n,(TM s.ps x).rt n=none:=fun n=>by
  cases hr:(TM s.ps x).rt n with
  |none=>rfl
  |some r=>
   obtain⟨i,c,a,y,-,X,-⟩:=b1I hr;have Z:=(lS.1 X).1;rw[HM,<-g1]at Z;obtain⟨t,y',e,-⟩:=g5 i _ _ X (lG Z);grind
 have k0:args.size=s.ps.length:=by omega
 have h5:sK B (TM s.ps x) s.ps.length (fun i=>args.getD i undef) W M:=by
  refine⟨fun n r hr=>?_,fun n _=>rfl,fun n=>by grind,fun n n' _ c hc=>by grind,fun n p hp=>by grind,fun i X=>?_,trivial,C5 _,fun b _ _=>rfl,fun c hc=>?_,fun i b hb=>?_,rfl⟩;simp_all;have h9:i<args.toList.length:=by omega
  have V:=lG h9;have Y:i<(Bx s.ps x).length:=by simp_all[HM]
  obtain⟨t,z,h1,Q⟩:=g5 i _ _ (lG Y) V;have he:args.getD i undef=args.toList[i]:=by
   simp_all
  simp only[TM,lG Y,h1,he];exact Cg.wH (Cg.frame Q (fun _ _ _=>rfl) (fun c hc=>⟨hc,.inl trivial,fun⟨n,hn⟩=>by grind⟩));obtain⟨n,hn⟩:=hc;grind;simp_all
 refine(hF W B M args x y (fun g t z hg=>⟨(U g t z hg).1,trivial,fun h=>h,W,rfl,(U g t z hg).2⟩) hy rfl (fun _=>rfl) rfl k0 h5 (fun i X _=>by simp_all)).mono ?_
 rintro e W' ⟨vr,Ls,rfl,h7,A⟩;rw[g7]at h7;rw[g6,F4,C7]at A;obtain⟨v,rfl⟩:∃v,vr=[v]:=by
  match vr,h7 with
  | [v],_=>simp
 have h4:=A.ll;rw[<-A.lv]at h4;obtain⟨L,rfl⟩:∃L,Ls=[L]:=by
  match Ls,h4 with
  | [L],_=>simp
 obtain⟨hv,-⟩:=A.ok 0 _ v L E rfl rfl;have hv:v=.bool true:=by
  obtain⟨-,Q,R,h3,-⟩:=hv;have Q:=Q rfl;simp[AO]at h3;split at h3;rename_i b hb;simp at h3;obtain⟨rfl,-⟩:=h3;cases v<;>simp[Cd,Value.cells]at Q hb;grind;simp_all
 subst hv;have m:∀b,b<W.heap.size->W'.heap[b]?=W.heap[b]?:=fun b hb=>A.frame b hb (fun h=>h);have K:=O w g4;refine⟨_,rfl,w,[],p++[],[],p,[],h8,?_,?_,?_,⟨?_,?_,fun i X=>?_⟩,fun h=>by grind⟩;rw[C7,K,g9];exact trodAll_cons_mk (p:=[]) (p':=[]) (shut_bool k1 _) trodAll_mk0
 ·rw[C7,K];refine b2f hl s.ps _ _ _ _ I hA (fun q hq=>?_) (fun q hq=>by simp_all);have hb:=g0 q (by simp_all);cases q with
  |cell b k5=>
   simp only[World.sameAt,World.cell?];rw[m b hb]
  |map b=>exact m b hb
 rw[C7,K,o];rfl
 have:=A.still
 grind[FT]
 have:=A.still
 grind[FT];grind
end
end Go.Ab
namespace Go.Ab
def LP:Ty->List Field->Bool
 | .pair (.int _) b, f :: r => f.name != "_" && LP b r
 | .pair .bool b, f :: r => f.name != "_" && LP b r
 |.unit,[]=>true
 |_,_=>false
def b8i(P:Program)(τ:Ty)(t:TypeId):Bool:=
 !P.stoodInHeld t&&(!P.eqGuardType P.depth t&&(match P.underlying t with|some (.struct fs)=>LP τ fs.toList|_=>false))
section
variable {P:Program} {w:World} {cx:Cx}
theorem Jg{τ:Ty}{t:TypeId}(g:AU P τ (.inl t)=true)(f:τ.isAgg=false){xs:Array Value}{off:Nat}{v:Value}(hv:xs[off]?=some v):(part t xs off).run P w=.ok v w:=by
 have h:=KO g w;simp_all[part]
theorem a0W{m:DJ}{d:Nat}{xs ys:Array Value}:∀(τ:Ty)(n:List Field)(off:Nat),AU P τ (.inr (n,off))=true->LP τ n=true->∀{x y R t},AO m τ (fun j=>xs[off+j]?)=some (x,[],R)->AO m τ (fun j=>ys[off+j]?)=some (y,[],t)->
  (Op.eqFields (d+1) xs ys n).run P w=.ok (nE τ x y) w:=by
 have c:∀(a b:Ty)(off:Nat)(v:Array Value)(x:(Ty.pair a b).sJ) R,AO m (.pair a b) (fun j=>v[off+j]?)=some (x,[],R)->
   ∃E F,AO m a (fun j=>v[off+j]?)=some (x.1,[],E)/\AO m b (fun j=>v[off+a.cells+j]?)=some (x.2,[],F):=by
  intro a b off v x R h;simp[AO]at h;split at h;grind;rename_i Y T V g;split at h;grind;rename_i Z U X L;obtain⟨K,h⟩:=Prod.mk.inj (Option.some.inj h);subst K;obtain⟨u,-⟩:=Prod.mk.inj (Prod.mk.inj (Option.some.inj h)).2;obtain⟨rfl,rfl⟩:=List.append_eq_nil_iff.1 u;grind
 intro τ
 induction τ with
 |pair a b iha ihb=>
  intro n off o l x y R t G H;cases n with
  |nil=>simp[AU]at o
  |cons f r=>
   simp[AU]at o;obtain⟨⟨⟨u,i⟩,-⟩,htb⟩:=o;obtain⟨E,F,g,L⟩:=c a b off xs x R G;obtain⟨N,O,e,Q⟩:=c a b off ys y t H;cases a with
   |int k=>
    simp[LP]at l;simp[AO]at g e;split at g;rename_i S p C;split at e;rename_i I q D;rw[Option.ite_none_right_eq_some]at g e;obtain⟨rfl,g⟩:=g;obtain⟨rfl,e⟩:=e;have g:=Prod.mk.inj (Option.some.inj g);have e:=Prod.mk.inj (Option.some.inj e);have z:=Jg (w:=w) i rfl C;have A:=Jg (w:=w) i rfl D;have B:=run_equalIn_int (P:=P) w d f.type I I p q (Pl i);simp only[Op.eqFields,Sem.run_ite,ne_eq,l.1,not_false_eq_true,if_true,Sem.run_bind,u,z,A,B,Result.andThen_ok,nE];rw[<-g.1,<-e.1];cases hb:p==q
    simp
    grind;simp_all;simp_all
   |bool=>
    simp[LP]at l;simp[AO]at g e;have M:P.underlying f.type=some .bool:=by
     simp[AU]at i;grind
    split at g;rename_i p C;split at e;rename_i q D;have g:=Prod.mk.inj (Option.some.inj g);have e:=Prod.mk.inj (Option.some.inj e);have z:=Jg (w:=w) i rfl C;have A:=Jg (w:=w) i rfl D;have B:=run_equalIn_bool (P:=P) w d f.type p q M;simp only[Op.eqFields,Sem.run_ite,ne_eq,l.1,not_false_eq_true,if_true,Sem.run_bind,u,z,A,B,Result.andThen_ok,nE];rw[<-g.1,<-e.1];cases hb:p==q
    simp
    grind;simp_all;simp_all
   |_=>simp[LP]at l
 |unit=>
  intro n off o l x y R t G H;cases n with
  |nil=>rfl
  |cons f r=>simp[LP]at l
 |_=>intro n off o l;simp[LP]at l
theorem a5R.of{τ:Ty}{t:TypeId}(k:AU P τ (.inl t)=true)(h:b8i P τ t=true):a5R P τ t:=by
 simp[b8i]at h;obtain⟨E,D,c⟩:=h;intro m C x y u v w F G n p;split at c
 ·rename_i i f;have j:P.fieldsOf t=i:=by simp_all[Program.fieldsOf]
  have g:τ.isAgg=true:=by cases τ<;>first|rfl|(simp[LP]at c)
  obtain⟨d,-,R,o,-⟩:=n;obtain⟨e,-,B,q,-⟩:=p;obtain⟨z,rfl,-⟩:=d g;obtain⟨A,rfl,-⟩:=e g;have l:AU P τ (.inr (i.toList,0))=true:=by
   cases τ with
   |pair a b=>
    simp[AU,f]at k;obtain⟨-,k⟩:=k;split at k;all_goals simp_all[AU]
   |unit=>
    simp_all[AU]
   |_=>simp[LP]at c
  have r:(Op.equalIn 10000 t (.agg z) (.agg A)).run P w=.ok (nE τ x y) w:=by
   grind[run_equalIn_struct,a0W,Value.cells]
  simp_all[run_eqGuard_agg,run_eql_struct,run_neq_struct]
 simp_all
def b2g(P:Program)(τ:Ty)(t:TypeId):Bool:=
 !P.eqGuardType P.depth t&&(match τ,P.underlying t with
  |.arr n (.int k),some (.array n' e)=>n'==n&&(P.cellsOf e==1&&((P.info? e).isSome&&AU P (.int k) (.inl e)))
  |_,_=>false)
theorem cL{d e:Nat}{k:IntKind}(g:AU P (.int k) (.inl e)=true){xs ys:Array Value}{x y:List Int}(b:∀i (h:i<x.length),xs[i]?=some (.int k x[i]))(c:∀i (h:i<y.length),ys[i]?=some (.int k y[i])):
  ∀(is:List Nat),(∀i∈is,i<x.length/\i<y.length)->(Op.eqItems (d+1) e 1 xs ys is).run P w=.ok (is.all fun i=>x[i]?==y[i]?) w
 | [],_=>by rfl
 |i::is,h=>by
  obtain⟨f,a⟩:=h i (by simp);have l:=Jg (w:=w) g rfl (show xs[i*1]?=_ by rw[Nat.mul_one];exact b i f);have m:=Jg (w:=w) g rfl (show ys[i*1]?=_ by rw[Nat.mul_one];exact c i a);have n:=run_equalIn_int (P:=P) w d e k k x[i] y[i] (Pl g);have r:=cL (d:=d) g b c is (fun j q=>h j (by grind));simp only[Op.eqItems,Sem.run_bind,l,m,n,Result.andThen_ok];have o:x[i]?=some x[i]:=lG f;have p:y[i]?=some y[i]:=lG a;cases hb:x[i]==y[i];all_goals simp_all
theorem a8y:∀(x y:List Int),x.length=y.length->((D0 x.length).all fun i=>x[i]?==y[i]?)=((F2 (fun(a b:Int)=>a==b) x y).all id)
 | [],[],_=>rfl
 |a::x,b::y,h=>by
  have g:=a8y x y (by simpa using h);rw[lC,List.range_succ_eq_map,C1,List.all_map,List.zipWith_cons_cons,C1,<-g];simp[Function.comp_def]
theorem a5R.yO{τ:Ty}{t:TypeId}(h:b2g P τ t=true):a5R P τ t:=by
 simp[b2g]at h;obtain⟨hg,h⟩:=h;split at h;rotate_left;grind;rename_i n k f e l;simp at h;obtain⟨rfl,Q,q,S⟩:=h;obtain⟨i,q⟩:=A4.1 q;intro m Sh x y u v w xo yo T U;obtain⟨C,-,R,D,-⟩:=T;obtain⟨E,-,R',F,-⟩:=U;obtain⟨M,rfl,-⟩:=C rfl;obtain⟨N,rfl,-⟩:=E rfl;have g:∀{I:Array Value}{z:List Int}{R},AO m (.arr f (.int k)) (fun j=>(Value.agg I).cells[j]?)=some (z,[],R)->z.length=f/\∀i (h:i<z.length),I[i]?=some (.int k z[i]):=by
  intro I z R H;simp only[AO]at H;have K:z.length=f:=Bd f 0 H;refine⟨K,fun i c=>?_⟩;obtain⟨a,o,r,A,B,A',B',O,p,-⟩:=Bf f 0 i H (K▸c);have p:z[i]?=some (show Int from a):=p;have p:z[i]=(show Int from a):=Option.some.inj ((lG c).symm.trans p);simp[Ty.cells,Value.cells]at O;grind
 obtain⟨G,V⟩:=g D;obtain⟨Y,X⟩:=g F;have Z:(Op.equalIn 10000 t (.agg M) (.agg N)).run P w=.ok (nE (.arr f (.int k)) x y) w:=by
  rw[run_equalIn_array w 9999 M N l q,Q,cL (d:=9998) S V X _ (fun j hj=>by simp_all)]
  have:=a8y x y (by omega)
  rw[G]at this;rw[this];have L:(B7 (show List Int from x)==B7 (show List Int from y))=true:=by simp_all
  show _=Result.ok ((F2 (fun(a b:Int)=>a==b) x y).all id&&(B7 (show List Int from x)==B7 (show List Int from y))) w;simp_all
 simp_all[run_eqGuard_agg,run_eql_struct,run_neq_struct]
theorem Zx{α:Type}:∀(l:List (Nat×α)) (t:Nat) (x:α),find l t=some x->(t,x)∈l
 | [],_,_,h=>by simp[find]at h
 |(k,y)::r,t,x,h=>by
  simp only[find]at h;rcases Ah h with⟨f,g⟩|⟨-,h⟩;simp only[sj]at g
  have:k=t:=by simpa using f
  rw[this,g];exact C3 ..;exact A8 _ (Zx r t x h)
def b7e(P:Program)(tab:List (Nat×Ty)):Bool:=tab.all fun p=>A3 (p.2.sh=p.2)&&AU P p.2 (.inl p.1)
def b7f(P:Program)(l:List Nat):Bool:=l.all fun t=>match P.underlying t with|some (.pointer _)=>true|_=>false
def b7g(P:Program)(tab:List (Nat×Ty))(l:List Nat):Bool:=l.all fun t=>match find tab t with|some τ=>!τ.isAgg || (b8i P τ t || b2g P τ t)|none=>true
theorem CxTy.of{tab:List (Nat×Ty)}{l q:List Nat}(g:∀t,cx.T t=find tab t)(c:∀t,cx.E t=l.contains t)(d:∀t,cx.Q t=q.contains t)(k:b7e P tab=true)(a:b7f P q=true)(b:b7g P tab l=true):CxTy P cx:=by
 have f:∀t τ,cx.T t=some τ->τ.sh=τ/\AU P τ (.inl t)=true:=fun t τ h=>by
  rw[g]at h
  have:=lA.1 k _ (Zx _ _ _ h)
  simp_all
 refine⟨f,fun t e=>?_,fun t τ he hτ ha=>?_⟩;rw[d]at e
 have:=lA.1 a t (by simp_all)
 grind;rw[c]at he
 have:=lA.1 b t (by simp_all)
 rw[<-g,hτ]at this;simp[ha]at this;exact this.elim (a5R.of (f t τ hτ).2) a5R.yO
theorem vB.of{g:List (Nat×sG)}(h:CxTy P cx)(a:∀f,cx.C f=find g f)(b:∀p∈g,a2S P cx.G p.1 p.2):vB P cx:=
 ⟨h,fun f s k=>by
  rw[a]at k;exact b _ (Zx _ _ _ k)⟩
theorem a0{α:Type}{p:α->Prop}:∀x∈([]:List α),p x:=fun _ h=>by grind
theorem b2h{G:VF}{a:Nat×sG}{l:List (Nat×sG)}(h:a2S P G a.1 a.2)(f:∀x∈l,a2S P G x.1 x.2):∀x∈a::l,a2S P G x.1 x.2:=fun x g=>by
 rcases mC.1 g with rfl|g;exact h;exact f x g
theorem a1{G:VF}{a:Nat×sG}{l:List (Nat×sG)}(h:JI P G a.1 a.2/\Wx P a.1)(g:∀x∈l,a2S P G x.1 x.2):∀x∈a::l,a2S P G x.1 x.2:=b2h (.inl h) g
theorem b5o{G:VF}{a:Nat×sG}{l:List (Nat×sG)}(h:b1H P G a.1 a.2)(g:∀x∈l,a2S P G x.1 x.2):∀x∈a::l,a2S P G x.1 x.2:=b2h (.inr h) g
end
def jF{α:Type}(x:List α):Option (List α):=bif List.isEmpty x then gM (some ([]:List α)) (bif Bp (0+B7 x)then some (E5 [] x)else none)else(bif Bp (0+B7 x)then some (E5 [] x)else none)
def WF{α:Type}(x:List α):Option (List α):=bif Bp (0+B7 x)then some x else none
theorem WG{α:Type}(x:List α):jF x=WF x:=by
 unfold jF WF;cases x with
 |nil=>exact a5L _
 |cons a x=>rfl
section
variable {α:Type} {f f':Nat->Option (α×CK×List Nat)}
theorem Su:∀(n i:Nat){x},(∀j y,f j=some y->f' j=some y)->Ak f n i=some x->Ak f' n i=some x
 |0,_,_,_,h=>h
 |n+1,i,x,g,h=>by
  simp only[Ak]at h|-;split at h;cases h;rename_i l b d k;rw[g _ _ k];simp only[];split at h;cases h;rename_i m c e a;rw[Su n (i+1) g a];exact h
end
theorem Nz{m m':DJ}(f:∀b j v,m b j=some v->m' b j=some v):∀(t:Ty){rd rd':Nat->Option Value}{x},(∀j v,rd j=some v->rd' j=some v)->AO m t rd=some x->AO m' t rd'=some x
 |.int k,rd,rd',x,g,h=>by
  grind[AO]
 |.bool,rd,rd',x,g,h=>by
  grind[AO]
 |.str,rd,rd',x,g,h=>by
  grind[AO]
 |.unit,rd,rd',x,g,h=>h
 |.pair a b,rd,rd',x,g,h=>by
  simp only[AO]at h|-;split at h;cases h;rename_i D u A l;rw[Nz f a g l];simp only[];split at h;cases h;rename_i E w B p;rw[Nz f b (fun j v=>g _ v) p];exact h
 |.arr n t,rd,rd',x,g,h=>by
  simp only[AO]at h|-;exact Su n 0 (fun j y e=>Nz f t (fun i v=>g _ v) e) h
 |.list o t,rd,rd',x,g,h=>by
  simp[AO]at h|-;unfold Cn at h|-;split at h;simp_all;rename_i a n c d;rw[g _ _ d]
  simp
  split at h;rename_i r;rw[if_pos r];split at h;grind;rename_i F z C q;rw[Su n 0 (fun j y e=>Nz f t (fun i v d=>f _ _ _ d) e) q];omega;simp_all;simp_all
 |.nl t,rd,rd',x,g,h=>by
  grind[AO]
theorem Src.vP{m m':DJ}(g:∀b j v,m b j=some v->m' b j=some v)(s:Src):∀j v,s.rd m j=some v->s.rd m' j=some v:=by
 intro j v h;cases s with
 |one u=>exact h
 |_=>exact g _ _ _ h
theorem NA{m m':DJ}(f:∀b j v,m b j=some v->m' b j=some v):∀(p:BN)(t:Ty)(s:Src){x},Cj m p t s=some x->Cj m' p t s=some x
 | [],t,s,x,h=>h
 |.fst::p,t,s,x,h=>by
  unfold Cj at h|-;split at h;exact NA f p _ _ h;cases h
 |.snd::p,t,s,x,h=>by
  unfold Cj at h|-;split at h;exact NA f p _ _ h;cases h
 |.idx i::p,t,s,x,h=>by
  unfold Cj at h|-;split at h;rename_i n d e o;split at h;rename_i g;simp[if_pos g];exact NA f p _ _ h;simp_all;rename_i d l;split at h;rename_i a n c k;split at h;rename_i g;simp[Src.vP f s _ _ k,if_pos g];exact NA f p _ _ h;simp_all;simp_all;omega
structure wG (B:Base) (w w':World):Prop where
 cells:∀(c:Nat)(o:Obj),w.heap[c]?=some o->o.isCells=true->w'.heap[c]?=some o
 size:w.heap.size<=w'.heap.size
 frame:∀b,b<B.size->w'.heap[b]?=w.heap[b]?
 io:FT w'=FT w
theorem qX{w w':World}(h:∀(c:Nat)(o:Obj),w.heap[c]?=some o->o.isCells=true->w'.heap[c]?=some o)(f:Option (Nat×Nat×Value)):∀b j v,Ad w f b j=some v->Ad w' f b j=some v:=by
 have k:∀b j v,w.cell? ⟨b,j,none⟩=some v->w'.cell? ⟨b,j,none⟩=some v:=fun b j v g=>by
  grind[cells_of_cell,World.cell?]
 intro b j v g;cases f with
 |none=>exact k b j v g
 |some y=>
  obtain⟨a,d,u⟩:=y;simp[Ad]at g|-;grind
theorem sK.xY{B:Base}{U:AE}{N:Nat}{tm:Nat->Value}{w w':World}{M:Gh}(h:sK B U N tm w M)(f:∀(c:Nat)(o:Obj),w.heap[c]?=some o->o.isCells=true->w'.heap[c]?=some o)
  (y:w.heap.size<=w'.heap.size):sK { B with hp:=fun b=>w'.heap[b]?,io:=FT w' } U N tm w' M:=by
 have u:=qX f M.ov;have z:∀c,Be B w M c->Be { B with hp:=fun b=>w'.heap[b]?,io:=FT w' } w' M c:=fun c A=>⟨B3 A.1 y,A.2⟩;have E:∀a v,AA (Ad w M.ov) M.g U.rt (Be B w M) a v->AA (Ad w' M.ov) M.g U.rt (Be { B with hp:=fun b=>w'.heap[b]?,io:=FT w' } w' M) a v:=fun a v C=>by
  cases a with
  |val t x=>
   obtain⟨j,m,R,q,D⟩:=C;exact⟨j,m,R,Nz u t (fun _ _ S=>S) q,fun c A=>z c (D c A)⟩
  |vptr t x=>
   obtain⟨b,o,R,j,m,q,D⟩:=C;exact⟨b,o,R,j,Nz u t (Src.vP u _) m,z b q,fun c A=>z c (D c A)⟩
  |ptr n p=>
   obtain⟨r,t,b,o,j,m,q⟩:=C;exact⟨r,t,b,o,j,NA u p _ _ m,q⟩
  |sref n p=>
   obtain⟨r,e,s,j,m,q⟩:=C;exact⟨r,e,s,j,NA u p _ _ m,Src.vP u s _ _ q⟩
  |swin n p T len=>
   obtain⟨r,e,s,a,l,c,j,m,q,D⟩:=C;exact⟨r,e,s,a,l,c,j,NA u p _ _ m,Src.vP u s _ _ q,D⟩
  |_=>exact C
 refine⟨fun n r G=>?_,h.norm,h.nodup,h.sU,fun n p hp=>?_,fun i F=>?_,?_,B9 h.size y,fun b _ _=>rfl,h.mine,h.pins,rfl⟩;obtain⟨I,R,K,L,O⟩:=(h.roots n r G).rd;exact⟨I,R,Nz u _ (Src.vP u _) K,fun c A=>z c (L c A),O⟩;obtain⟨c,e,lo,F,j,m,q⟩:=h.live n p hp;exact⟨c,e,lo,F,f _ _ j rfl,m,q⟩
 ·have H:=h.slots i F;revert H;cases U.sl i with
  |one a=>exact fun H=>E a _ H
  |cmp c as=>
   rintro⟨V,j,m⟩;exact⟨V,j,fun k a X=>by
    grind⟩
 exact h.pend.mono fun n p d r e b o Q G P=>⟨r,G,NA u p _ _ P⟩
theorem sK.turned{B:Base}{U:AE}{N:Nat}{tm:Nat->Value}{w w':World}{M:Gh}(h:sK B U N tm w M)(f:wG B w w'):sK B U N tm w' M:=by
 have g:=h.xY f.cells f.size;exact⟨g.roots,g.norm,g.nodup,g.sU,g.live,g.slots,g.pend,g.size,fun b hb k=>(f.frame b hb).trans (h.frame b hb k),g.mine,g.pins,f.io.trans h.still⟩
def Base.anew(B:Base)(w:World)(M:Gh):Base where
 size:=w.heap.size
 hp:=fun b=>w.heap[b]?
 F:=BD M
 S:=fun c=>(B.S c\/B.F c\/B.size<=c)/\¬ BD M c
 pin:=fun i=>match B.pin i with
  |some b=>some b
  |none=>some (M.g (pinned+i))
 io:=FT w
theorem b2i{B:Base}{w:World}{M:Gh}{c:Nat}:Be (B.anew w M) w M c↔Be B w M c:=by
 constructor;rintro⟨f,h,g⟩;refine⟨f,?_,g⟩;rcases h with h|h|h;exact h.1;exact absurd h g;have h:w.heap.size<=c:=h;omega;rintro⟨f,h,g⟩;exact⟨f,.inl ⟨h,g⟩,g⟩
theorem sK.anew{B:Base}{U:AE}{N:Nat}{tm:Nat->Value}{w:World}{M:Gh}(h:sK B U N tm w M):sK (B.anew w M) U N tm w M:=by
 have e:Be (B.anew w M) w M=Be B w M:=funext fun c=>propext b2i;refine⟨fun n r d=>by rw[e];exact h.roots n r d,h.norm,h.nodup,h.sU,h.live,fun i a=>by rw[e];exact h.slots i a,h.pend,C5 _,fun b _ _=>rfl,fun c k=>.inl k,fun i b hb f=>?_,rfl⟩;simp[Base.anew]at hb;split at hb;rename_i j g;cases hb;exact h.pins i b g f;simp_all
theorem a3o{B:Base}{a:AE}{N0:Nat}{g:Nat->Value}{w w':World}{M M':Gh}(k:sK B a N0 g w M){f:Nat->Option Src}{c:Nat}(e:Be { B.anew w M with pin:=f } w' M' c):Be B w' M' c:=by
 obtain⟨b,h,d⟩:=e;refine⟨b,?_,d⟩;rcases h with h|h|h;exact h.1;exact .inr (k.mine c h);have h:w.heap.size<=c:=h;exact .inr (.inr (B9 k.size h))
theorem sK.uH{B:Base}{A U:AE}{N0 N:Nat}{y tm:Nat->Value}{w w':World}{M M':Gh}{f:Nat->Option Src}(I:∀i b,B.pin i=some b->f i=some b)(d:sK B A N0 y w M)(h:sK { B.anew w M with pin:=f } U N tm w' M'):sK B U N tm w' M':=by
 have j:∀c,Be { B.anew w M with pin:=f } w' M' c->Be B w' M' c:=fun c e=>a3o d e;have l:∀a v,AA (Ad w' M'.ov) M'.g U.rt (Be { B.anew w M with pin:=f } w' M') a v->AA (Ad w' M'.ov) M'.g U.rt (Be B w' M') a v:=fun a v H=>
  H.frame (fun _ _ _=>rfl) j fun n p r t s _ u L=>⟨r,u,L,fun _ _ P=>P⟩
 refine⟨fun n r u=>?_,h.norm,h.nodup,h.sU,h.live,fun i K=>?_,h.pend,B9 d.size h.size,fun b hb G=>?_,fun c e=>?_,fun i b hb o=>h.pins i b (I i b hb) o,h.still.trans d.still⟩;obtain⟨z,R,C,D,E⟩:=(h.roots n r u).rd;exact⟨z,R,C,fun c e=>j c (D c e),E⟩
 ·have x:=h.slots i K;revert x;cases U.sl i with
  |one a=>exact fun x=>l a _ x
  |cmp c as=>
   rintro⟨Q,F,S⟩;exact⟨Q,F,fun k a T=>by
    grind⟩
 ·have m:b<w.heap.size:=B3 hb d.size;have q:¬ BD M b:=fun O=>by
   rcases d.mine b O with g|g;all_goals grind
  exact(h.frame b m q).trans (d.frame b hb G)
 rcases h.mine c e with g|g;exact d.mine c g;have g:w.heap.size<=c:=g;exact .inr (B9 d.size g)
theorem sK.back{B:Base}{k U:AE}{N0 N:Nat}{g tm:Nat->Value}{w w':World}{M M':Gh}(a:sK B k N0 g w M)(h:sK (B.anew w M) U N tm w' M'):sK B U N tm w' M':=
 a.uH (f:=(B.anew w M).pin) (fun i b hb=>by simp_all[Base.anew]) h
theorem sK.xZ{B:Base}{U:AE}{N:Nat}{tm:Nat->Value}{w:World}{M:Gh}(h:sK B U N tm w M)(f:Nat->Option Src)(k:∀i b,f i=some b->B.pin i=some b):sK { B with pin:=f } U N tm w M:=
 ⟨h.roots,h.norm,h.nodup,h.sU,h.live,h.slots,h.pend,h.size,h.frame,h.mine,fun i b hb g=>h.pins i b (k i b hb) g,h.still⟩
def AE.vM{Z:Type}(U:AE):List Nat->(AE->Rs Z)->Rs Z
 | [],K=>K U
 |n::ns,K=>match U.look n,U.rt (pinned+1000+n)with
  |some r,none=>AE.vM (((U.sI (AV.ren n (pinned+1000+n))).sF n none).sF (pinned+1000+n) (some r)) ns K
  |_,_=>none
theorem sK.vM{Z:Type}{B:Base}{N:Nat}{tm:Nat->Value}{w:World}(a:∀i b,1000<=i->B.pin i≠some b):∀(ns:List Nat){U:AE}{M:Gh}{K:AE->Rs Z}{z:Z}(_:sK B U N tm w M)(_:U.vM ns K=some z),∃k M',K k=some z/\sK B k N tm w M'
 | [],U,M,K,z,h,g=>⟨U,M,g,h⟩
 |n::ns,U,M,K,z,h,g=>by
  simp only[AE.vM]at g;split at g;rename_i r c d;obtain⟨f,j⟩:=AX c;exact sK.vM a ns (h.rename j d (fun i b e=>a i b (by omega)) (by simp[f])) g;cases g
def BK:Aq->Bool
 | []=>true
 |.sv _ _::r=>BK r
 |.box n _::r=>(A3 (pinned<=n)&&!(Aq.names r).contains n)&&BK r
 |.own _ n _::r=>(A3 (pinned<=n)&&!(Aq.names r).contains n)&&BK r
 |.ptr _ n []::r=>A3 (pinned<=n)&&BK r
 |_=>false
def a6B:SV->Prop
 |.one .dead=>True
 |.one (.val _ _)=>True
 |.one (.ptr n [])|.one (.sref n [])=>pinned<=n
 |_=>False
theorem Vn:∀(g:Aq)(x:g.ty.sJ)(_:BK g=true)(i:Nat),a6B ((g.enc x).sl i)
 | [],_,_,i=>trivial
 |.sv k t::r,x,h,i=>by
  simp only[Aq.enc,Eg];split;trivial;exact Vn r x.2 (by simpa[BK]using h) i
 |.box n t::r,x,h,i=>by
  simp only[BK,EV]at h;exact Vn r x.2 h.2 i
 |.own k n e::r,x,h,i=>by
  simp only[BK,EV,dT]at h;show a6B ((((Aq.enc r x.2).sF n (some ⟨false,.list true e,x.1⟩)).set k (.sref n [])).sl i);rw[Eg];split;exact h.1.1;exact Vn r x.2 h.2 i
 |.ptr k n p::r,x,h,i=>by
  cases p with
  |cons=>simp[BK]at h
  |nil=>
   simp[BK]at h;simp[Aq.enc,Eg];split;exact h.1;exact Vn r x h.2 i
 |.vp _ _::_,_,h,_|.ref _ _ _::_,_,h,_|.rfi _ _::_,_,h,_|.win _ _ _::_,_,h,_|.clo _ _ _::_,_,h,_=>by simp[BK]at h
theorem Jh:∀(h:Aq)(x:h.ty.sJ),(h.enc x).pd=none
 | [],_=>rfl
 |.sv _ _::r,x=>Jh r x.2
 |.box _ _::r,x=>Jh r x.2
 |.ptr _ _ _::r,x=>Jh r x
 |.own _ _ _::r,x=>Jh r x.2
 |.vp _ _::r,x=>Jh r x.2
 |.ref _ _ _::r,x=>Jh r x
 |.rfi _ _::r,x=>Jh r x.2
 |.win _ _ _::r,x=>Jh r x.2.2
 |.clo _ _ _::r,x=>Jh r x
theorem XH:∀(f:Aq)(x:f.ty.sJ)(_:BK f=true)(n:Nat),(f.enc x).rt n≠none->n∈f.names
 | [],_,_,n,h=>absurd rfl h
 |.sv k t::r,x,h,n,g=>XH r x.2 (by simpa[BK]using h) n g
 |.box m t::r,x,h,n,g=>by
  simp only[BK,EV]at h;simp only[Aq.enc,Rr]at g;split at g;rename_i e;subst e;simp[Aq.names];simp only[Aq.names,mC];exact .inr (XH r x.2 h.2 n g)
 |.own k m e::r,x,h,n,g=>by
  simp only[BK,EV]at h;have g:((Aq.enc r x.2).sF m (some ⟨false,.list true e,x.1⟩)).rt n≠none:=g;rw[Rr]at g;split at g;rename_i e;subst e;simp[Aq.names];simp only[Aq.names,mC];exact .inr (XH r x.2 h.2 n g)
 |.ptr k m p::r,x,h,n,g=>by
  cases p with
  |cons=>simp[BK]at h
  |nil=>
   simp[BK]at h;exact XH r x h.2 n g
 |.vp _ _::_,_,h,_,_|.ref _ _ _::_,_,h,_,_|.rfi _ _::_,_,h,_,_|.win _ _ _::_,_,h,_,_|.clo _ _ _::_,_,h,_,_=>by simp[BK]at h
theorem Ru:∀(a:Aq)(x:a.ty.sJ)(_:BK a=true){i n:Nat}(_:(a.enc x).sl i=.one (.sref n [])),n∈a.names/\∃e l,(a.enc x).rt n=some ⟨false,.list true e,l⟩
 | [],_,_,i,n,h=>by cases h
 |.sv k t::r,x,h,i,n,f=>by
  have f:((Aq.enc r x.2).set k (.val t x.1)).sl i=.one (.sref n []):=f;rw[Eg]at f;split at f;cases f;exact Ru r x.2 (by simpa[BK]using h) f
 |.box m t::r,x,h,i,n,f=>by
  simp only[BK,EV,F8,E9,decide_eq_false_iff_not]at h;obtain⟨b,e,l,d⟩:=Ru r x.2 h.2 (i:=i) (n:=n) f;refine⟨by simp[Aq.names,b],e,l,?_⟩;show((Aq.enc r x.2).sF m _).rt n=_;rw[Rr,if_neg (show ¬ n=m from fun g=>h.1.2 (g▸b))];omega
 |.own k m e::r,x,h,i,n,f=>by
  simp only[BK,EV,F8,E9,decide_eq_false_iff_not]at h;have f:(((Aq.enc r x.2).sF m (some ⟨false,.list true e,x.1⟩)).set k (.sref m [])).sl i=.one (.sref n []):=f;show n∈_/\∃c l,((Aq.enc r x.2).sF m (some ⟨false,.list true e,x.1⟩)).rt n=some ⟨false,.list true c,l⟩;rw[Eg]at f;rw[Rr];split at f;cases f;exact⟨by simp[Aq.names],e,x.1,by simp⟩;obtain⟨b,c,l,d⟩:=Ru r x.2 h.2 (i:=i) (n:=n) f;exact⟨by simp[Aq.names,b],c,l,by grind⟩
 |.ptr k m p::r,x,h,i,n,f=>by
  cases p with
  |cons=>simp[BK]at h
  |nil=>
   simp only[BK,EV]at h;have f:((Aq.enc r x).set k (.ptr m [])).sl i=.one (.sref n []):=f;rw[Eg]at f;split at f;grind;exact Ru r x h.2 f
 |.vp _ _::_,_,h,_,_,_|.ref _ _ _::_,_,h,_,_,_|.rfi _ _::_,_,h,_,_,_|.win _ _ _::_,_,h,_,_,_|.clo _ _ _::_,_,h,_,_,_=>by simp[BK]at h
section
variable {B:Base} {N:Nat} {w w':World} {M M':Gh} {U:AE}
theorem sK.kept{b:Nat->Value}{d:AE}(h:sK (B.anew w M) d N b w' M'){c:Nat}(f:Be B w M c):w'.heap[c]?=w.heap[c]?/\Be (B.anew w M) w' M' c:=by
 have k:c<(B.anew w M).size:=f.1;have a:¬ (B.anew w M).F c:=f.2.2;refine⟨h.frame c k a,B3 f.1 h.size,.inl f.2,fun e=>?_⟩;rcases h.mine c e with g|g;all_goals grind
theorem Cg.kept{a:Nat->Value}{b:AE}(h:sK (B.anew w M) b N a w' M')(k:M.ov=none)(g:M'.ov=none){t:Ty}{x:t.sJ}{v:Value}(hv:Cg (Ad w M.ov) (Be B w M) t x v):
  Cg (Ad w' M'.ov) (Be (B.anew w M) w' M') t x v:=
 hv.frame (fun c j f=>by rw[k,g];exact BF none (h.kept f).1 j) fun c f=>(h.kept f).2
theorem sK.again{tm L:Nat->Value}{q:AE}(F:sK B U N tm w M)(z:∀i,i<N->a6B (U.sl i))(K:U.pd=none)(h:sK (B.anew w M) q N L w' M')(D:q.pd=none)
  (m:∀i n,i<N->U.sl i=.one (.ptr n [])\/U.sl i=.one (.sref n [])->q.rt n≠none)(A:∀i n,i<N->U.sl i=.one (.sref n [])->∃u,M.g n=.one u):sK (B.anew w M) { q with sl:=U.sl } N tm w' M'/\∀i n,i<N->U.sl i=.one (.sref n [])->∃u,M'.g n=.one u:=by
 have I:=F.sZ K;have C:=h.sZ D;have d:∀n,pinned<=n->U.rt n≠none->q.rt n≠none->M'.g n=M.g n:=fun n k G v=>by
  obtain⟨i,rfl⟩:∃i,n=pinned+i:=⟨n-pinned,by omega⟩;refine h.pins i _ ?_ v;simp[Base.anew];cases hp:B.pin i with
  |none=>rfl
  |some Q=>rw[F.pins i Q hp G]
 refine⟨⟨h.roots,h.norm,h.nodup,h.sU,h.live,fun i l=>?_,h.pend,h.size,h.frame,h.mine,h.pins,h.still⟩,fun i n l j=>?_⟩;rotate_left;have k:=z i l;have P:=F.slots i l;rw[j]at k P;obtain⟨r,e,s,G,-⟩:=P;rw[d n k (by simp_all) (m i n l (.inr j))];grind;have j:=F.slots i l;have k:=z i l;have m:=m i;have A:=A i;show Ws _ _ q.rt _ (U.sl i) _;revert j k m A;cases U.sl i with
 |cmp c X=>intro _ k;exact k.elim
 |one a=>
  cases a with
  |dead=>intro _ _ _ _;trivial
  |val t x=>intro j _ _ _;exact Cg.kept h I C j
  |ptr n p=>
   cases p with
   |cons=>intro _ k;exact k.elim
   |nil=>
    intro j k m _;obtain⟨r,t,b,o,G,v,H⟩:=j;have f:=m n l (.inl rfl);have O:=d n k (by simp_all) f;obtain⟨y,f⟩:=D9.1 f;simp[Cj]at v;refine⟨y,y.t,b,o,f,?_,H⟩;show some (y.t,M'.g n)=_;simp_all
  |sref n p=>
   cases p with
   |cons=>intro _ k;exact k.elim
   |nil=>
    intro j k m A;obtain⟨R,E⟩:=A n l rfl;obtain⟨r,S,V,G,v,H⟩:=j;have f:=m n l (.inr rfl);have O:=d n k (by simp_all) f;simp[Cj]at v;rw[<-v.2,E]at H;rw[E]at O;obtain⟨y,f⟩:=D9.1 f;rcases h.uG f with⟨-,b,g⟩|⟨-,u,e,g,T⟩;simp_all;refine⟨y,e,.one R,f,?_,H⟩;show some (y.t,M'.g n)=_;simp_all
  |_=>intro _ k;exact k.elim
end
def b2j{Z:Type}(s:Aq)(x:s.ty.sJ)(U:AE)(K:s.ty.sJ->Rs Z):Rs Z:=match U.pd with
 |none=>bif s.names.all (fun n=>(U.rt n).isSome)then s.wY { U with sl:=(s.enc x).sl } K else none
 |some _=>none
def Pv{α S R:Type}(f:Int->α->S->Option (S ⊕ R))(l:List α):Nat->S->Option (S ⊕ R)
 |0,s=>some (.inl s)
 |n+1,s=>match l[n]? with
  |none=>none
  |some v=>match f n v s with
   |none=>none
   |some (.inl s')=>Pv f l n s'
   |some (.inr r)=>some (.inr r)
def b9m(cx:Cx)(H:sD)(p:Nat)(s:Aq)(i1 i2:Nat)(assign body:Code)(e:Ty)(k:Int)(v:e.sJ)(x:s.ty.sJ):Option (s.ty.sJ ⊕ (Ex×s.ty.sJ)):=
 Du cx H assign (2*p) (((s.enc x).set i1 (.val (.int .i64) k)).set i2 (.val e v)) fun ex U=>match ex with
  |.normal=>match U.pd with
   |none=>bif s.names.all (fun n=>(U.rt n).isSome)then
     Du cx H body (2*p+1) U fun ex U'=>b2j s x U' fun x'=>match ex with
      |.normal=>some (.inl x')
      |ex=>some (.inr (ex,x'))
    else none
   |some _=>none
  |_=>none
structure vE where
 t:Nat
 e:Ty
 mkr:Nat
 it:Nat
 ns:List Nat
 s:Aq
structure vX where
 ops:Array Oper
 b:Nat
 g:Nat
 i1:Nat
 i2:Nat
 assign:Code
 body:Code
def XI:Code->Code->Option vX
 |.region _ ops false,.block b (.rangeFunc (.tmp g) ps assign body)=>match ps.toList with
  | [i1,i2]=>some ⟨ops,b,g,i1,i2,assign,body⟩
  |_=>none
 |_,_=>none
def a0X(o:Oper)(r:vE)(g:Nat):Bool:=match o.op with
 |.call c=>(match c.callee,c.args.toList with
  |.value (.func f),[.tmp t]=>f==r.mkr&&t==r.t&&(o.dst==some g)&&o.guard.isNone
  |_,_=>false)
 |_=>false
def b2k{t e:Ty}(h:t=.list false e)(l:t.sJ):List e.sJ:=(h▸l:(Ty.list false e).sJ)
def a6C{Z:Type}(cx:Cx)(H:sD)(r:vE)(q:vX)(p:Nat)(U:AE)(K:Ex->AE->Rs Z):Rs Z:=
 match q.ops.toList with
 | [mv,cl]=>bif a0X cl r q.g&&(BK r.s&&mv.guard.isNone)then
   Bk cx false mv U fun U1=>match U1.pd with
    |some _=>none
    |none=>(U1.set q.g .dead).vM r.ns fun U2=>r.s.wY U2 fun x=>match (r.s.enc x).get r.t with
     |.val t l=>if h:t=.list false r.e then
       (bif Bp (B7 (b2k h l))then(Pv (b9m cx H (2*p+1) r.s q.i1 q.i2 q.assign q.body r.e) (b2k h l) (B7 (b2k h l)) x).bind fun y=>match y with
        |.inl x'=>K .normal (r.s.enc x')
        |.inr (.normal,x')=>K .normal (r.s.enc x')
        |.inr (.exit i,x')=>bif i==q.b then K .normal (r.s.enc x')else K (.exit i) (r.s.enc x')
        |.inr (.ret,x')=>K .ret (r.s.enc x')
       else none)
      else none
     |_=>none
  else none
 |_=>none
def NB:Code->Bool
 |.seq a b=>NB a || NB b
 |.cond _ a b=>NB a || NB b
 |.block _ c|.loop c=>NB c
 |.rangeFunc _ _ _ _=>true
 |_=>false
def Zy(cx:Cx)(H:sD)(r:vE):Code->Nat->{Z:Type}->AE->(Ex->AE->Rs Z)->Rs Z
 |.seq a b,p,_,U,K=>match XI a b with
  |some q=>a6C cx H r q p U K
  |none=>bif NB a then Zy cx H r a (2*p) U fun e U'=>match e with
    |.normal=>Du cx H b (2*p+1) U' K
    |e=>K e U'
   else Du cx H a (2*p) U fun e U'=>match e with
    |.normal=>Zy cx H r b (2*p+1) U' K
    |e=>K e U'
 |c,p,_,U,K=>Du cx H c p U K
def a8z(cx:Cx)(H:sD)(r:vE)(fn:Func)(ps:List PA)(rs:List RA)(x:(Dz (ps.map PA.ty)).sJ):Option (Dz ((RA.all ps rs).map RA.ty)).sJ:=
 match fn.body with
 |none=>none
 |some body=>Zy cx H r body 1 (TM ps x) fun e U=>match e,U.pd with
  |.exit _,_=>none
  |_,some _=>none
  |_,none=>(U.upto fn.ntmps).outs cx [] fn.ntmps (RA.all ps rs) (fn.results.toList.map .inl++(Bc ps 0).map fun i=>.inr (Sb ps i)) fun y _=>some y
section
variable {P:Program} {B:Base} {N:Nat} {cx:Cx} {H:sD} {w w':World} {M M':Gh} {U U':AE} {tm tm':Nat->Value}
theorem Za.anew{G:VF}(e:Za G B)(h:sK B U N tm w M):Za G (B.anew w M):=by
 intro g t x i;obtain⟨k,a,b,l,c,d⟩:=e g t x i;have f:¬ BD M g:=fun j=>by
  rcases h.mine _ j with q|q;all_goals grind
 exact⟨B3 k h.size,⟨.inl a,f⟩,f,l,c.trans (h.frame g k b).symm,d⟩
theorem Cg.yH{m:DJ}{Sh g:Nat->Prop}{t:Ty}{x y:t.sJ}{v:Value}(h:Cg m Sh t x v)(f:Cg m g t y v):x=y:=by
 obtain⟨-,-,R,a,-⟩:=h;obtain⟨-,-,k,b,-⟩:=f;simp_all
theorem Cg.run(a:sK B U N tm w M)(h:sK (B.anew w M) U' N tm' w' M')(k:M.ov=none)(g:M'.ov=none){t:Ty}{x:t.sJ}{v:Value}(hv:Cg (Ad w M.ov) (Be B w M) t x v):
  Cg (Ad w' M'.ov) (Be B w' M') t x v:=
 (Cg.kept h k g hv).frame (fun _ _ _=>rfl) fun _ b=>a3o a (f:=(B.anew w M).pin) b
theorem Cg.turned{f:Option (Nat×Nat×Value)}(h:∀(c:Nat)(o:Obj),w.heap[c]?=some o->o.isCells=true->w'.heap[c]?=some o)(g:w.heap.size<=w'.heap.size){t:Ty}{x:t.sJ}{v:Value}
  (hv:Cg (Ad w f) (Be B w M) t x v):Cg (Ad w' f) (Be B w' M) t x v:=by
 obtain⟨b,d,R,e,k⟩:=hv;exact⟨b,d,R,Nz (qX h f) t (fun _ _ hv=>hv) e,fun c a=>⟨B3 (k c a).1 g,(k c a).2⟩⟩
theorem Ow{W:World}{l:Nat}{o:Obj}(a:W.heap[l]?=some o)(d:o.isCells=false)(f:B.size<=l)(h:Obj):wG B W (W.putObj l h):=by
 refine⟨fun c e k g=>?_,(grownBy_putObj' W l h).size,fun b hb=>World.putObj_heap_other (by omega),rfl⟩
 have:c≠l:=by
  grind
 simp_all[World.putObj_heap_other]
theorem Up{W:World}(g:B.size<=W.heap.size)(o:Obj):wG B W (W.alloc o):=
 ⟨fun c f h _=>(RowKit.Below.heap_alloc W _ c (C0.1 h).1).trans h,by simp,fun b hb=>RowKit.Below.heap_alloc W _ b (by omega),rfl⟩
theorem a9Q(h:sK B U N tm w M){l:Nat}{o:Obj}(f:w.heap[l]?=some o)(a:o.isCells=false):¬ BD M l:=by
 rintro⟨n,k⟩;obtain⟨p,b,rfl⟩:=C2.1 k;obtain⟨c,e,lo,d,g,-⟩:=h.live n p b;rw[f]at g;cases g;cases a
theorem sK.others(f:sK B U N tm w M)(h:sK (B.anew w M) U' N tm' w' M'){l:Nat}{o:Obj}(g:w.heap[l]?=some o)(k:o.isCells=false):w'.heap[l]?=some o:=
 (h.frame l (C0.1 g).1 (a9Q f g k)).trans g
theorem a0Y(U:AE)(i j:Nat)(v:AV):(U.set i v).get j=if j=i then v else U.get j:=by
 grind[AE.get,Eg]
theorem Uq:∀(a:Aq)(x g:a.ty.sJ){i:Nat}{T:Ty}{y:T.sJ}(_:BK a=true)(_:(a.enc x).get i=.val T y),∃y':T.sJ,(a.enc g).get i=.val T y'
 | [],_,_,_,_,_,_,h=>by simp_all[Aq.enc]
 |.sv k t::r,x,g,i,T,y,f,h=>by
  have h:((Aq.enc r x.2).set k (.val t x.1)).get i=.val T y:=h;show ∃y':T.sJ,((Aq.enc r g.2).set k (.val t g.1)).get i=.val T y';rw[a0Y]at h|-;by_cases e:i=k;grind;rw[if_neg e]at h|-;exact Uq r x.2 g.2 (by simpa[BK]using f) h
 |.box n t::r,x,g,i,T,y,f,h=>by
  simp only[BK,EV]at f;exact Uq r x.2 g.2 f.2 h
 |.ptr k n p::r,x,g,i,T,y,f,h=>by
  cases p with
  |cons=>simp[BK]at f
  |nil=>
   simp only[BK,EV]at f;have h:((Aq.enc r x).set k (.ptr n [])).get i=.val T y:=h;show ∃y':T.sJ,((Aq.enc r g).set k (.ptr n [])).get i=.val T y';rw[a0Y]at h|-;by_cases e:i=k;simp_all;rw[if_neg e]at h|-;exact Uq r x g f.2 h
 |.own k m e::r,x,g,i,T,y,f,h=>by
  simp only[BK,EV]at f;have h:(((Aq.enc r x.2).sF m (some ⟨false,.list true e,x.1⟩)).set k (.sref m [])).get i=.val T y:=h;show ∃y':T.sJ,(((Aq.enc r g.2).sF m (some ⟨false,.list true e,g.1⟩)).set k (.sref m [])).get i=.val T y';rw[a0Y]at h|-;by_cases e:i=k;simp_all;rw[if_neg e]at h|-;exact Uq r x.2 g.2 f.2 h
 |.rfi _ _::_,_,_,_,_,_,h,_=>by simp[BK]at h
 |.vp _ _::_,_,_,_,_,_,h,_=>by simp[BK]at h
 |.ref _ _ _::_,_,_,_,_,_,h,_=>by simp[BK]at h
 |.win _ _ _::_,_,_,_,_,_,h,_=>by simp[BK]at h
 |.clo _ _ _::_,_,_,_,_,_,h,_=>by simp[BK]at h
def a0Z:Ex->Option Code
 |.normal=>none
 |.exit i=>some (.exit i)
 |.ret=>some .ret
def JS(st:LoopState)(pe:Option Code)(fn:FuncId)(tmps:Array Value)(i1 i2:Nat)(assign body:Code)(D:Nat):Loop:=
 { state:=st,pending:=pe,fn,tmps,params:=#[i1,i2],assign,body,defers:=D }
structure uR (B:Base) (N:Nat) (a:Act) (s:Aq) (t:Nat) (te:Ty) (l0:te.sJ) (l D:Nat) (r:Loop) (x:s.ty.sJ) (W:World):Prop where
 rel:∃M,sK B (s.enc x) N (AJ a) W M
 seq:(s.enc x).get t=.val te l0
 loop:W.heap[l]?=some (.loop r)
 dfr:W.heap[D]?=some (.deferred (some []))
theorem qY(g0:vB P cx)(hG:Za cx.G B)(hm:P.follows .mixedOrders=true)(hH:H.fits N=true){s:Aq}{j m p:Nat}{f body:Code}(k5:CQ N f=true)(k6:CQ N body=true)
  (hs:s.fits N=true)(E:BK s=true)(a5:j<N)(a6:m<N){a:Act}(hN:a.tmps.size=N){fn:FuncId}{e w:Ty}{k:Int}{v:e.sJ}{ve:Value}{C:w.sJ}{t l D:Nat}(ht:t<N){x:s.ty.sJ}{W:World}
  (hb:uR B N a s t w C l D (JS .ready none fn a.tmps j m f body D) x W)(hv:∀Sh,Cg (cells W) Sh w C (AJ a t)->Cg (cells W) Sh e v ve)(g3:B.size<=l)(h9:D≠l){y:s.ty.sJ ⊕ (Ex×s.ty.sJ)}
  (hy:b9m cx H p s j m f body e k v x=some y):
  RoundIn (Fr none) 0 P l fn ((a.tmps.setIfInBounds j (.int .i64 k)).setIfInBounds m ve) f body W fun en W'=>
   (∃q,y=.inl q/\en=.returned (.bool true)/\uR B N a s t w C l D (JS .ready none fn a.tmps j m f body D) q W')\/
   (∃ex c q,y=.inr (ex,q)/\a0Z ex=some c/\en=.returned (.bool false)/\uR B N a s t w C l D (JS .done (some c) fn a.tmps j m f body D) q W'):=by
 obtain⟨⟨M,h⟩,hseq,hl,hD⟩:=hb;have g4:=h.sZ (Jh s x);have b:Cg (Ad W M.ov) (Be B W M) w C (AJ a t):=by
  have:=Fq h ht
  rw[hseq]at this;exact this
 have k7:Cg (Ad W M.ov) (Be B W M) e v ve:=by
  rw[g4]at b|-;exact hv _ b
 let a1:Act:={ tmps:=(a.tmps.setIfInBounds j (.int .i64 k)).setIfInBounds m ve,defers:=[] }
 have h1:sK B (((s.enc x).set j (.val (.int .i64) k)).set m (.val e v)) N (AJ a1) W M:=by
  have V:sK B ((s.enc x).set j (.val (.int .i64) k)) N (AJ (a.put (some j) (.int .i64 k))) W M:=h.uN hN fun _=>AA.tH (g:=M.g) (rt:=(s.enc x).rt) _;have X:sK B (((s.enc x).set j (.val (.int .i64) k)).set m (.val e v)) N (AJ ((a.put (some j) (.int .i64 k)).put (some m) ve)) W M:=V.uN (by rw[TR];omega) fun _=>k7;exact X
 have k0:a1.tmps.size=N:=by grind
 have R:∀(S:AE),(s.names.all fun n=>(S.rt n).isSome)=true->∀i n,i<N->(s.enc x).sl i=.one (.ptr n [])\/(s.enc x).sl i=.one (.sref n [])->S.rt n≠none:=by
  intro S L i n hi b;have hm:n∈s.names:=by
   rcases b with b|b
   have:=h.slots i hi
   rw[b]at this;obtain⟨r,-,-,-,hr,-⟩:=this;grind[XH];grind[Ru]
  grind
 have g6:∀i n,i<N->(s.enc x).sl i=.one (.sref n [])->∃u,M.g n=.one u:=fun i n _ b=>by
  obtain⟨-,e,l,K⟩:=Ru s x E b;rcases h.uG K with⟨g,-⟩|⟨-,u,_,g,-⟩;all_goals simp_all
 unfold b9m at hy;refine roundIn_of_wpIn trivial (wpIn_mono (Ny (ro:=some l) (D:=[]) g0 (hG.anew h1) hm hH f _ k5 hy h1.anew k0 rfl) ?_);rintro e2 a2 F ⟨ex,S,M2,rfl,hK,K,k1,k3⟩;cases ex with
 |exit i=>simp_all
 |ret=>simp_all
 |normal=>
  simp at hK;split at hK;rotate_left;grind;rename_i A;obtain⟨L,hK⟩:=(Ah hK).elim id fun h=>by grind
  have O:=K.sZ A;obtain⟨k2,h7⟩:sK (B.anew W M) { S with sl:=(s.enc x).sl } N (AJ a) F M2/\_:=sK.again h (fun i _=>Vn s x E i) (Jh s x) K A (R S L) g6;have b2:=h1.back K;have c2:=h.back k2;have v2:Cg (Ad F M2.ov) (Be B F M2) w C (AJ a t):=Cg.run h K g4 O b;have h0:=h1.others K hl rfl;have g7:=h1.others K hD rfl;refine⟨_,run_beginRound h0 rfl,?_⟩;have T3:wG B F (F.putObj l (.loop { JS .ready none fn a.tmps j m f body D with state:=.busy })):=Ow h0 rfl g3 _;revert T3;have h3:(F.putObj l (.loop { JS .ready none fn a.tmps j m f body D with state:=.busy })).heap[l]?=some (.loop { JS .ready none fn a.tmps j m f body D with state:=.busy }):=World.putObj_heap_same (C0.1 h0).1;have Y:(F.putObj l (.loop { JS .ready none fn a.tmps j m f body D with state:=.busy })).heap[D]?=some (.deferred (some [])):=(World.putObj_heap_other h9).trans g7;revert h3 Y;generalize F.putObj l (.loop { JS .ready none fn a.tmps j m f body D with state:=.busy })=W3;intro h3 Y T3;have b3:=b2.turned T3;have c3:=c2.turned T3;have v3:Cg (Ad W3 M2.ov) (Be B W3 M2) w C (AJ a t):=Cg.turned T3.cells T3.size v2;refine wpIn_mono (Ny (ro:=some l) (D:=[]) g0 (hG.anew b3) hm hH body _ k6 hK b3.anew k1 k3) ?_
  rintro e4 a4 I ⟨ex,U4,M4,rfl,z,h4,a3,-⟩;simp[b2j]at z;split at z;rotate_left;grind;rename_i Q;obtain⟨Z,z⟩:=(Ah z).elim id fun h=>by grind
  have g5:=h4.sZ Q;obtain⟨k4,-⟩:sK (B.anew W3 M2) { U4 with sl:=(s.enc x).sl } N (AJ a) I M4/\_:=sK.again (U:={ S with sl:=(s.enc x).sl }) c3 (fun i _=>Vn s x E i) A h4 Q (R U4 Z) h7;have c4:=c3.back k4;have v4:Cg (Ad I M4.ov) (Be B I M4) w C (AJ a t):=Cg.run b3 h4 O g5 v3;have h6:=b3.others h4 h3 rfl;have g9:=b3.others h4 Y rfl;obtain⟨q,M5,o,h5⟩:=c4.wY hs z;have k9:=h5.sZ (Jh s q);have h8:(s.enc q).get t=.val w C:=by
   obtain⟨y',k8⟩:=Uq s x q E hseq
   have:=Fq h5 ht
   rw[k8]at this;have this:Cg (Ad I M5.ov) (Be B I M5) w y' (AJ a t):=this;grind[Cg.yH]
  have T:∀(d:Option Code)(r':Loop),r'={ { JS .ready none fn a.tmps j m f body D with state:=.busy }with state:=if d.isNone then .ready else .done,pending:=d }->
    (Instr.endRound l d).run P I=.ok (.bool d.isNone) (I.putObj l (.loop r'))/\uR B N a s t w C l D r' q (I.putObj l (.loop r')):=by
   rintro d r' rfl;refine⟨run_endRound d h6,⟨⟨M5,h5.turned (Ow h6 rfl g3 _)⟩,h8,World.putObj_heap_same (C0.1 h6).1,(World.putObj_heap_other h9).trans g9⟩⟩
  cases ex with
  |normal=>
   simp at o;obtain⟨V,X⟩:=T none _ rfl;exact⟨_,_,V,.inl ⟨q,o.symm,rfl,X⟩⟩
  |exit i=>
   simp at o;obtain⟨V,X⟩:=T (some (.exit i)) _ rfl;exact⟨_,_,V,.inr ⟨_,_,q,o.symm,rfl,rfl,X⟩⟩
  |ret=>
   simp at o;obtain⟨V,X⟩:=T (some .ret) _ rfl;exact⟨_,_,V,.inr ⟨_,_,q,o.symm,rfl,rfl,X⟩⟩
def a1a(P:Program)(it:FuncId)(e:Ty):Prop:=
 (∀args w,(callFunc it args).run P w=.ok (.enter it args) w)/\
 ∀(l Bs:Nat)(sv:Value)(xs:List e.sJ)(J:Nat->World->Prop)(Jx:World->Prop)(W:World),xs.length<2147483648->
  (∀k W',J k W'->W'.cell? ⟨Bs,0,none⟩=some sv/\∃Sh,Cg (cells W') Sh (.list false e) xs sv)->
  (∀n (x:e.sJ) (v:Value) W',xs[n]?=some x->J (n+1) W'->(∀Sh,Cg (cells W') Sh (.list false e) xs sv->Cg (cells W') Sh e x v)->
   YieldAt (Fr none) 0 P l #[.int .i64 (n:Int),v] W' fun en W''=>(en=.returned (.bool true)/\J n W'')\/(en=.returned (.bool false)/\Jx W''))->
  J xs.length W->
  CallsIn (Fr none) 0 P it #[.func (.yield l) #[] #[],.pointer (some ⟨Bs,0,none⟩)] W fun en W'=>(∃v,en=.returned v)/\(J 0 W'\/Jx W')
def a6D(P:Program)(mk it:FuncId):Prop:=
 Wx P mk/\∀(A:Option Addr)(len cap:Nat)(w:World),Calls P mk #[.slice A len cap] w fun en w'=>en=.returned (.func (.func it) #[] #[.pointer (some ⟨w.heap.size,0,none⟩)])/\∃ty,w'=w.alloc (.cells #[.slice A len cap] ty)
def c2B{S:Type}:S ⊕ (Ex×S)->Ex×S
 |.inl x=>(.normal,x)
 |.inr q=>q
theorem a3p(hcx:vB P cx)(hG:Za cx.G B)(hm:P.follows .mixedOrders=true)(hH:H.fits N=true){s:Aq}{i1 i2 p:Nat}{assign body:Code}(hfa:CQ N assign=true)(hfb:CQ N body=true)
  (hs:s.fits N=true)(hfl:BK s=true)(hi1:i1<N)(hi2:i2<N){a:Act}(hN:a.tmps.size=N){e:Ty}{l0:List e.sJ}{t g Bs it:Nat}(ht:t<N){x:s.ty.sJ}
  (h:sK B (s.enc x) N (AJ a) w M)(hseq:(s.enc x).get t=.val (.list false e) l0)(hg:a.eval (.tmp g)=.func (.func it) #[] #[.pointer (some ⟨Bs,0,none⟩)])(hit:a1a P it e)(hlen:l0.length<2147483648)
  (hcell:w.cell? ⟨Bs,0,none⟩=some (AJ a t))(hBs:Bs<B.size)(hBF:¬ B.F Bs){y:s.ty.sJ ⊕ (Ex×s.ty.sJ)}(hy:Pv (b9m cx H p s i1 i2 assign body e) l0 l0.length x=some y)(hd:a.defers=[]):
  (Code.rangeFunc (.tmp g) #[i1,i2] assign body).wpIn (Fr none) 0 P (fun en a' w'=>∃D,en=jC (c2B y).1/\a'.tmps.size=N/\a'.defers=[{ target:=.collected D,args:=#[] }]/\B.size<=D/\
   w'.heap[D]?=some (.deferred (some []))/\∃M',sK B (s.enc (c2B y).2) N (AJ a') w' M') a w:=by
 refine wpIn_rangeFunc ?_
 intro fn _;obtain⟨D,hDe⟩:∃D,w.heap.size=D:=⟨_,rfl⟩;obtain⟨W1,hW1⟩:∃W1,(w.alloc (.deferred (some []))).alloc (.loop (JS .ready none fn a.tmps i1 i2 assign body D))=W1:=⟨_,rfl⟩;have hsz:=h.size;have T1:wG B w W1:=by
  rw[<-hW1];have t1:=Up (B:=B) hsz (.deferred (some []));have t2:=Up (B:=B) (W:=w.alloc (.deferred (some []))) (by simp;omega) (.loop (JS .ready none fn a.tmps i1 i2 assign body D));exact⟨fun c o hc ho=>t2.cells c o (t1.cells c o hc ho) ho,B9 t1.size t2.size,fun b hb=>(t2.frame b hb).trans (t1.frame b hb),t2.io.trans t1.io⟩
 have hL1:W1.heap[D+1]?=some (.loop (JS .ready none fn a.tmps i1 i2 assign body D)):=by
  grind[World.alloc_heap_new,World.size_alloc]
 have hK1:W1.heap[D]?=some (.deferred (some [])):=by
  grind[RowKit.Below.heap_alloc,World.alloc_heap_new]
 have hB1:uR B N a s t (.list false e) l0 (D+1) D (JS .ready none fn a.tmps i1 i2 assign body D) x W1:=⟨⟨M,h.turned T1⟩,hseq,hL1,hK1⟩;have hBsAll:∀{U' tm' W' M'},sK B U' N tm' W' M'->W'.cell? ⟨Bs,0,none⟩=some (AJ a t):=fun {U' tm' W' M'} h'=>by
  have e1:=h'.frame Bs hBs hBF;have e2:=h.frame Bs hBs hBF;simp_all[World.cell?]
 refine⟨D+1,[{ target:=.collected D,args:=#[] }],W1,{ target:=.fn (.func it) #[.pointer (some ⟨Bs,0,none⟩)],args:=#[.func (.yield (D+1)) #[] #[]] },W1,it,
  #[.func (.yield (D+1)) #[] #[],.pointer (some ⟨Bs,0,none⟩)],W1,?_,?_,fun _ _=>trivial,?_,fun h=>(by grind),?_⟩
 rw[<-hW1,<-hDe];exact run_enterLoop_outer _ _ _ _ _;simp only[resolve,hg];simp[go_sem]
 have:=hit.1 (#[.func (.yield (D+1)) #[] #[]]++#[.pointer (some ⟨Bs,0,none⟩)]) W1
 simp_all[invoke]
 ·refine(hit.2 (D+1) Bs (AJ a t) l0
   (fun n W=>∃x',Pv (b9m cx H p s i1 i2 assign body e) l0 n x'=some y/\uR B N a s t (.list false e) l0 (D+1) D (JS .ready none fn a.tmps i1 i2 assign body D) x' W)
   (fun W=>∃ex c x',y=.inr (ex,x')/\a0Z ex=some c/\uR B N a s t (.list false e) l0 (D+1) D (JS .done (some c) fn a.tmps i1 i2 assign body D) x' W)
   W1 hlen ?_ ?_ ⟨x,hy,hB1⟩).mono ?_
  rintro k W' ⟨x',-,hb⟩;obtain⟨⟨M',h'⟩,hseq',-,-⟩:=hb;refine⟨hBsAll h',?_⟩
  have:=Fq h' ht
  rw[hseq',h'.sZ (Jh s x')]at this;exact⟨_,this⟩;rintro n xe v W' hx ⟨x',hy',hb⟩ hv;have hyield:(Instr.yield (D+1) #[.int .i64 (n:Int),v]).run P W'=.ok (.round (D+1) fn ((a.tmps.setIfInBounds i1 (.int .i64 (n:Int))).setIfInBounds i2 v) assign body) W':=by
   have:=run_yield (P:=P) (args:=#[.int .i64 (n:Int),v]) hb.loop rfl
   simpa[JS]using this
  simp[Pv,hx]at hy';split at hy';grind;rename_i s' hs';refine⟨_,_,_,_,hyield,(qY hcx hG hm hH hfa hfb hs hfl hi1 hi2 hN ht hb hv (by omega) (by omega) hs').mono ?_⟩;grind;rename_i r hr;simp at hy';refine⟨_,_,_,_,hyield,(qY hcx hG hm hH hfa hfb hs hfl hi1 hi2 hN ht hb hv (by omega) (by omega) hr).mono ?_⟩;grind
  ·have hdone:∀{x' W2 st pe},uR B N a s t (.list false e) l0 (D+1) D (JS st pe fn a.tmps i1 i2 assign body D) x' W2->∀r',(W2.putObj (D+1) (.loop r')).heap[D]?=some (.deferred (some []))/\∃M',sK B (s.enc x') N (AJ a) (W2.putObj (D+1) (.loop r')) M':=by
    rintro x' W2 st pe ⟨⟨M',h'⟩,-,hl,hD⟩ r';exact⟨(World.putObj_heap_other (by omega)).trans hD,M',h'.turned (Ow hl rfl (by omega) _)⟩
   rintro en W2 ⟨⟨v,rfl⟩,⟨x',hy',hb⟩|⟨ex,c,x',rfl,hc,hb⟩⟩;simp[Pv]at hy';subst hy';refine⟨none,_,run_endLoop (P:=P) hb.loop (by simp[JS]),?_⟩;obtain⟨g1,g2⟩:=hdone hb { JS .ready none fn a.tmps i1 i2 assign body D with state:=.exhausted };exact⟨D,rfl,hN,by simp_all,by omega,g1,g2⟩
   ·refine⟨some c,_,run_endLoop (P:=P) hb.loop (by simp[JS]),?_⟩;obtain⟨g1,g2⟩:=hdone hb { JS .done (some c) fn a.tmps i1 i2 assign body D with state:=.exhausted };cases ex with
    |normal=>cases hc
    |exit i=>
     simp[a0Z]at hc;subst hc;exact wpIn_exit ⟨D,rfl,hN,by simp_all,by omega,g1,g2⟩
    |ret=>
     simp[a0Z]at hc;subst hc;exact wpIn_ret ⟨D,rfl,hN,by simp_all,by omega,g1,g2⟩
end
section
variable {P:Program} {B:Base} {N:Nat} {cx:Cx} {H:sD} {r:vE}
def a6E(B:Base)(ds:List Deferred)(w:World):Prop:=ds=[]\/∃D,ds=[{ target:=.collected D,args:=#[] }]/\B.size<=D/\w.heap[D]?=some (.deferred (some []))
def b2l{Z:Type}(B:Base)(N:Nat)(K:Ex->AE->Rs Z)(z:Z):Exit->Act->World->Prop:=fun e a w=>
 ∃ex U M,e=jC ex/\K ex U=some z/\sK B U N (AJ a) w M/\a.tmps.size=N/\a6E B a.defers w
theorem cM(d:vB P cx)(n:Za cx.G B)(u:P.follows .mixedOrders=true)(o:H.fits N=true){c:Code}{p:Nat}{Z:Type}{U:AE}{K:Ex->AE->Rs Z}{z:Z}{a:Act}{w:World}{M:Gh}(t:CQ N c=true)
  (v:Du cx H c p U K=some z)(h:sK B U N (AJ a) w M)(r:a.tmps.size=N)(g:a6E B a.defers w):c.wpIn (Fr none) 0 P (b2l B N K z) a w:=by
 refine wpIn_mono (Ny (ro:=none) (D:=a.defers) d (n.anew h) u o c p t v h.anew r rfl) ?_
 rintro e x y ⟨ex,m,l,rfl,q,j,b,i⟩;refine⟨ex,m,l,rfl,q,h.back j,b,?_⟩;rcases g with g|⟨D,g,k,f⟩;exact .inl (i.trans g);exact .inr ⟨D,i.trans g,k,h.others j f rfl⟩
structure wI (P:Program) (r:vE):Prop where
 mkr:a6D P r.mkr r.it
 it:a1a P r.it r.e
def b2m(N:Nat)(r:vE)(q:vX):Bool:=
 q.ops.toList.all (Po N q.ops.toList)&&(CQ N q.assign&&(CQ N q.body&&(A3 (q.i1<N)&&(A3 (q.i2<N)&&(A3 (q.g<N)&&(A3 (r.t<N)&&(r.s.fits N&&r.t != q.g)))))))
theorem a6F{k a:Code}{q:vX}(h:XI k a=some q):∃id,k=.region id q.ops false/\a=.block q.b (.rangeFunc (.tmp q.g) #[q.i1,q.i2] q.assign q.body):=by
 unfold XI at h;split at h;rename_i i f body;split at h;rename_i c d e;cases h;exact⟨_,rfl,by rw[show i=#[c,d]from by grind]⟩;simp_all;simp_all
theorem a6G{o:Oper}{g:Nat}(h:a0X o r g=true):∃c,o.op=.call c/\c.callee=.value (.func r.mkr)/\c.args=#[.tmp r.t]/\o.dst=some g/\o.guard=none:=by
 unfold a0X at h;split at h;rename_i c b;split at h;rename_i f t k a;simp at h;grind;simp_all;simp_all
theorem a1b(h4:vB P cx)(hG:Za cx.G B)(hm:P.follows .mixedOrders=true)(hH:H.fits N=true)(hr:wI P r)(R:∀i b,1000<=i->B.pin i≠some b){c1 c2:Code}{q:vX}(hq:XI c1 c2=some q)(hf:b2m N r q=true)
  {p:Nat}{Z:Type}{U:AE}{K:Ex->AE->Rs Z}{z:Z}{a:Act}{w:World}{M:Gh}(S:a6C cx H r q p U K=some z)(h:sK B U N (AJ a) w M)(hN:a.tmps.size=N)(hd:a.defers=[]):
  (Code.seq c1 c2).wpIn (Fr none) 0 P (b2l B N K z) a w:=by
 obtain⟨id,rfl,rfl⟩:=a6F hq;simp only[b2m,EV,dT]at hf;obtain⟨h9,k3,k4,k7,k8,hg,ht,hs,a5⟩:=hf;have a5:r.t≠q.g:=by simp_all
 unfold a6C at S;split at S;rotate_left;grind;rename_i mv cl hl;obtain⟨F,S⟩:=(Ah S).elim _root_.id fun h=>by grind
 simp at F;obtain⟨F,k5,b7⟩:=F;obtain⟨c,ho,k1,k0,h5,b6⟩:=a6G F;refine wpIn_seq (wpIn_region_list ?_);have h0:=Ui (lA.1 h9 mv (by simp_all));rw[hl];simp only[wpListIn];rw[if_pos (by simp_all[Region.wanted])];refine NX h4 hG h hN h0 S fun v w1 U1 M1 h1 S=>?_
 obtain⟨a1,g9⟩:∃a1,a.put mv.dst v=a1:=⟨_,rfl⟩;have g7:a1.tmps.size=N:=by grind[TR]
 have b5:a1.defers=[]:=by grind[Sk]
 rw[g9]at h1|-;rw[if_pos (by simp_all[Region.wanted])];split at S;grind;rename_i b3

 obtain⟨o,h6⟩:∃o,Value.func (.func r.it) #[] #[.pointer (some ⟨w1.heap.size,0,none⟩)]=o:=⟨_,rfl⟩;have h7:sK B (U1.set q.g .dead) N (AJ (a1.put (some q.g) o)) w1 M1:=h1.uN g7 fun _=>trivial;have a6:AJ (a1.put (some q.g) o) r.t=AJ a1 r.t:=by simp_all[TQ]
 have O:∀{B':Base}{k:World},(∀i b,1000<=i->B'.pin i≠some b)->sK B' (U1.set q.g .dead) N (AJ (a1.put (some q.g) o)) k M1->∃(x:r.s.ty.sJ)(l0:List r.e.sJ)(y:r.s.ty.sJ ⊕ (Ex×r.s.ty.sJ)) (M2:Gh),sK B' (r.s.enc x) N (AJ (a1.put (some q.g) o)) k M2/\
   (r.s.enc x).get r.t=.val (.list false r.e) l0/\l0.length<2147483648/\Pv (b9m cx H (2*p+1) r.s q.i1 q.i2 q.assign q.body r.e) l0 l0.length x=some y/\
   (match y with
    |.inl u=>K .normal (r.s.enc u)
    |.inr (.normal,u)=>K .normal (r.s.enc u)
    |.inr (.exit i,u)=>bif i==q.b then K .normal (r.s.enc u)else K (.exit i) (r.s.enc u)
    |.inr (.ret,u)=>K .ret (r.s.enc u))=some z:=by
  intro B' k hp k9;obtain⟨U2,M2,b0,h2⟩:=sK.vM hp _ k9 S;obtain⟨x,L,m,h3⟩:=h2.wY hs b0;split at m;rename_i t l k6;split at m;rename_i he;subst he;obtain⟨h8,m⟩:=(Ah m).elim _root_.id fun h=>by grind
  obtain⟨y,a8,a9⟩:=B8.1 m;exact⟨x,l,y,L,h3,k6,of_decide_eq_true (show A3 (B7 l<2147483648)=true from h8),a8,a9⟩;simp_all;simp_all
 obtain⟨A,I,C,a4⟩:∃A I C,AJ a1 r.t=.slice A I C:=by
  obtain⟨x,l0,y,M2,g1,g2,-⟩:=O R h7
  have:=Fq g1 ht
  rw[g2,a6]at this;obtain⟨A,n,c,e,-⟩:=Cg.header this;simp_all
 refine a0J (fun c' b4=>by simp_all) ?_
 rw[a2V hr.mkr.1 ho k1,Oper.uponIn_enter];refine⟨fun h=>(by grind),a2U ?_⟩;have X:c.args.map a1.eval=#[.slice A I C]:=by
  rw[k0,<-a4];simp only[List.map_toArray,List.map_cons,F4];rfl
 rw[X];refine(hr.mkr.2 A I C w1).mono ?_
 rintro en k ⟨rfl,ty,a7⟩
 simp
 rw[h6,h5];have T:wG B w1 k:=by rw[a7];exact Up h1.size _
 have E:=h7.turned T;have g5:sK { B.anew k M1 with pin:=B.pin } (U1.set q.g .dead) N (AJ (a1.put (some q.g) o)) k M1:=E.anew.xZ B.pin fun i b hb=>by simp_all[Base.anew]
 obtain⟨x,l0,y,M2,g1,g2,gl,g3,Q⟩:=O (B':={ B.anew k M1 with pin:=B.pin }) R g5;have Y:k.cell? ⟨w1.heap.size,0,none⟩=some (AJ (a1.put (some q.g) o) r.t):=by
  simp_all
 have g0:w1.heap.size<k.heap.size:=by simp_all
 refine wpIn_block (wpIn_mono (a3p (B:={ B.anew k M1 with pin:=B.pin }) (a:=a1.put (some q.g) o) (p:=2*p+1) (it:=r.it) (Bs:=w1.heap.size) h4 (hG.anew E) hm hH k3 k4 hs k5 k7 k8 (by rw[TR];omega) ht g1 g2 ?_ hr.it gl Y g0
  (fun ho=>Nat.lt_irrefl _ (h1.lt ho)) g3 (by simp_all[Sk])) ?_)
 show AJ (a1.put (some q.g) o) q.g=_;rw[TQ _ (by omega),if_pos rfl,<-h6]
 ·rintro en a3 w3 ⟨D,rfl,d,k2,V,g6,L,a2⟩;have V:k.heap.size<=D:=V;have j:sK B (r.s.enc (c2B y).2) N (AJ a3) w3 L:=E.uH (fun _ _ h=>h) a2;have f:a6E B a3.defers w3:=.inr ⟨D,k2,B9 E.size V,g6⟩;cases y with
  |inl u=>exact⟨.normal,_,L,rfl,Q,j,d,f⟩
  |inr ex=>
   obtain⟨ex,u⟩:=ex;cases ex with
   |normal=>exact⟨.normal,_,L,rfl,Q,j,d,f⟩
   |ret=>exact⟨.ret,_,L,rfl,Q,j,d,f⟩
   |exit i=>
    simp[c2B,jC,Exit.inBlock];rcases Ah Q with⟨hi,Q⟩|⟨hi,Q⟩;rw[if_pos (by simp_all)];exact⟨.normal,_,L,rfl,Q,j,d,f⟩;rw[if_neg (by simp_all)];exact⟨.exit i,_,L,rfl,Q,j,d,f⟩
def Pa(N:Nat)(r:vE):Code->Bool
 |.seq a b=>match XI a b with
  |some q=>b2m N r q
  |none=>bif NB a then Pa N r a&&CQ N b else CQ N a&&Pa N r b
 |c=>CQ N c
theorem a1c(m:vB P cx)(u:Za cx.G B)(A:P.follows .mixedOrders=true)(v:H.fits N=true)(L:wI P r)(C:∀i b,1000<=i->B.pin i≠some b):∀(c:Code) (p:Nat){Z:Type}{U:AE}{K:Ex->AE->Rs Z}{z:Z}{a:Act}{w:World}{M:Gh}(_:Pa N r c=true)
  (_:Zy cx H r c p U K=some z) (_:sK B U N (AJ a) w M) (_:a.tmps.size=N) (_:a.defers=[]),c.wpIn (Fr none) 0 P (b2l B N K z) a w:=by
 intro c
 induction c with
 |seq x y ihx ihy=>
  intro p Z U K z a w M d j h t q;simp[Pa]at d;simp[Zy]at j;split at j;grind[a1b]
  ·rename_i F;rw[F]at d;simp only[]at d;refine wpIn_seq ?_
   cases hx:NB x with
   |true=>
    rw[hx]at d j;simp at d j;refine wpIn_mono (ihx _ d.1 j h t q) ?_
    rintro e E I ⟨ex,o,n,rfl,l,k,f,g⟩;cases ex with
    |normal=>exact cM m u A v d.2 l k f g
    |exit i=>exact⟨.exit i,o,n,rfl,l,k,f,g⟩
    |ret=>exact⟨.ret,o,n,rfl,l,k,f,g⟩
   |false=>
    rw[hx]at d j;simp at d j;refine wpIn_mono (Ny (ro:=none) (D:=[]) m u A v x _ d.1 j h t q) ?_
    rintro e E I ⟨ex,o,n,rfl,l,k,f,g⟩;cases ex with
    |normal=>exact ihy _ d.2 l k f g
    |exit i=>exact⟨.exit i,o,n,rfl,l,k,f,.inl g⟩
    |ret=>exact⟨.ret,o,n,rfl,l,k,f,.inl g⟩
 |_=>
  intro p Z U K z a w M d j h t q;refine cM m u A v (p:=p) (U:=U) (M:=M) ?_ ?_ h t (.inl q);simpa only[Pa]using d;simpa only[Zy]using j
end
def b7h(fn:Func)(c:Code)(H:sD)(r:vE)(s:sG):Bool:=
 Pa fn.ntmps r c&&(H.fits fn.ntmps&&(A3 (s.ps.length<=fn.ntmps)&&(A3 (s.ps.length<=1000)&&fn.results.toList.all fun r=>Tl fn.ntmps (.inl r))))
section
variable {P:Program} {cx:Cx}
theorem Sv:∀(g:List PA)(i0 i:Nat),i∈Bc g i0->i<i0+g.length
 | [],_,_,h=>by simp[Bc]at h
 |.v _::g,i0,i,h=>by
  have:=Sv g (i0+1) i h
  grind
 |.r _ _::g,i0,i,h=>by
  simp
  rcases mC.1 h with rfl|h;omega
  have:=Sv g (i0+1) i h
  omega
theorem JI.zB(t:vB P cx)(hm:P.follows .mixedOrders=true){f:FuncId}{fn:Func}{c:Code}{H:sD}{r:vE}{s:sG}(h7:wI P r)(h5:P.funcs[f]?=some fn)(hb:fn.body=some c)(O:b7h fn c H r s=true)
  (h4:∀x,a8z cx H r fn s.ps s.rs x=s.F x):JI P cx.G f s:=by
 simp only[b7h,EV,dT]at O;obtain⟨L,hH,g3,S,q⟩:=O;intro w T M args x y Z hy hB g1 g2 h0 z p;obtain⟨B,d⟩:∃B:Base,{ T with pin:=fun i=>bif A3 (i<1000)then T.pin i else none }=B:=⟨_,rfl⟩;have g:sK B (TM s.ps x) s.ps.length (fun i=>args.getD i undef) w M:=by
  rw[<-d];refine z.xZ _ fun i b hb=>?_
  grind
 have R:∀i b,1000<=i->B.pin i≠some b:=by
  rw[<-d];grind
 have l:a8m B s.ps args:=by
  intro i hi hk;obtain⟨b,U,E⟩:=p i hi hk;refine⟨b,?_,E⟩;have N:i<s.ps.length:=by have:=Sv s.ps 0 i hi;omega
  have:A3 (i<1000)=true:=by grind
  rw[<-d];simp_all
 have Z:Za cx.G B:=by rw[<-d];exact Z
 have j:∀{C its vs o},wR B C its vs o->wR T C its vs o:=fun {C its vs o} h=>by
  rw[<-d]at h;exact⟨h.lv,h.ll,h.ok,h.nodup,h.sU,h.live,h.mine,h.size,h.frame,h.still⟩
 rw[<-h4 x]at hy;simp[a8z,hb]at hy
 let a:Act:={ tmps:=args++D3 (fn.ntmps-args.size) undef,defers:=[] }
 have h8:a.tmps.size=fn.ntmps:=by grind
 have u:sK B (TM s.ps x) fn.ntmps (AJ a) w M:=by
  refine⟨g.roots,g.norm,g.nodup,g.sU,g.live,fun i hi=>?_,g.pend,g.size,g.frame,g.mine,g.pins,g.still⟩;by_cases N:i<s.ps.length
  have:=g.slots i N
  have e:AJ a i=args.getD i undef:=by
   simp[AJ,a,E7];simp_all
  simp_all
  have:(TM s.ps x).sl i=.one .dead:=by
   simp_all[TM,HM]
  rw[this];trivial
 refine callsIn_wide.1 (callsIn_of_wp_marks (F:=Fr none) (n:=0) h5 hb trivial (wpIn_mono (a1c t Z hm hH h7 R c 1 L hy u h8 rfl) ?_));rintro e a' C ⟨ex,U',M',rfl,V,hr,hN,I⟩;simp at V;have h9:(∀i,ex≠.exit i)/\U'.pd=none/\(U'.upto fn.ntmps).outs cx [] fn.ntmps (RA.all s.ps s.rs) (fn.results.toList.map .inl++(Bc s.ps 0).map fun i=>.inr (Sb s.ps i)) (fun y _=>some y)=some y:=by
  grind
 obtain⟨g0,Q,V⟩:=h9;have k:LeavesInM (Fr none) 0 P fn a'.tmps (fun e C=>∃A o,e=.returned (bX A)/\A.length=s.rs.length/\wR T C (Eu (RA.all s.ps s.rs) y) (A++(Bc s.ps 0).map (FU s.ps args)) o) a'.defers .returning C:=by
  rcases I with I|⟨D,I,Y,K⟩;rw[I];obtain⟨v,m,A,o,U,E,X⟩:=Uo (args:=args) t.toCxTy q hr Q V l;exact⟨v,m,A,o,U,E,j X⟩;rw[I];have h6:=hr.turned (Ow K rfl Y (.deferred none));obtain⟨v,m,A,o,U,E,X⟩:=Uo (args:=args) t.toCxTy q h6 Q V l;exact⟨by simp,.inl ⟨D,_,rfl,run_takeDeferred K,v,m,A,o,U,E,j X⟩⟩
 cases ex with
 |exit i=>simp_all
 |normal=>exact k
 |ret=>exact k
end
end Go.Ab
