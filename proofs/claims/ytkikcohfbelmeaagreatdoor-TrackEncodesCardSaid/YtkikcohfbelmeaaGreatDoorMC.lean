/- Part of the proof: LibZJD. Conditions: as each statement tells. -/
import Derived.OrdersIn
import Derived.OpenShut
import Derived.Deep.Slices
import Derived.ChangeSame
import Derived.WideKeyArgs
import Derived.RowKit
import Derived.Laws.StructEq
import Derived.ChangeKeysEq
import Derived.RangeFuncNested
import Derived.RangeFuncLeaves
import Derived.Test.YtkikcohfbelmeaaGreatDoorMB
noncomputable section
set_option linter.unusedSimpArgs false
set_option linter.unusedVariables false
open Array renaming getElem?_eq_some_iff->C0,replicate->D3,getElem?_append->E6,all_toList->F8
open Bool renaming false_eq_true->A8,and_eq_true_iff->B4,false_and->D4,not_eq_true'->F7,not_false->G3,and_false->G4
open Decidable renaming decide->A3
open List renaming mem_append_right->A6,mem_append_left->A7,mem_cons_of_mem->A9,map_congr_left->B6,length->B7,mem_map->C1,mem_cons_self->C2,mem_filterMap->C3,all_cons->C4,range_eq_range'->C6,append_nil->C7,getElem?_cons_zero->C8,range->C9,contains_iff_mem->D1,mem_of_getElem?->D2,mem_range->D5,map_id->D6,getElem?_append_right->D7,range'->D8,mem_flatMap->E1,mem_filter->E3,append->E4,mem_iff_getElem?->E5,range'_append_1->E7,contains_eq_mem->E8,mem_map_of_mem->E9,map_map->F0,zipWith->F1,map_nil->F3,filter_congr->F4,ext_getElem?->F5,getElem?_map->F6
open Nat renaming lt_of_lt_of_le->B3,le_trans->B9,le_refl->C5,zero_add->F2
open Option renaming isSome_iff_exists->A4,bind_eq_some_iff->B8,elim->D0,ne_none_iff_exists'->D9,getD_some->E2,map_some->F9
namespace Go.Ab
section
variable {cx:Cx} {o:Oper} {d:Nat} {U:AE}
theorem c4U{Z:Type}(U:AE)(ty:Option Ty)(a:AV)(K:Nat->Rs Z):U.vY ty a K=(U.vY ty a some).elim none K:=by unfold AE.vY;grind
theorem b4z{Z:Type}{U U2:AE}{a:AV}(h:∀n∈a.refs,U2.look n=U.look n)(ty:Option Ty)(K:Nat->Rs Z):U2.vY ty a K=U.vY ty a K:=by unfold AE.vY;grind[AV.refs]
theorem b1b{Z:Type}(f:Int->Int->Int)(k:IntKind):∀(l:List AV)(x:Int)(K:AV->Rs Z),AE.wG f k l x K=(AE.wG f k l x some).elim none K|[],x,K=>rfl|a::r,x,K=>by cases a with|val t y=>(cases t with|int h=>simp only[AE.wG];split;exact b1b f k r _ K;rfl|_=>rfl)|_=>rfl
theorem a5s{Z:Type}(U:AE)(e:Ty)(x:AV)(ys:List e.sK)(K:AE->Rs Z):U.uI true d e x ys K=(match x with
  |.nils|.empt=>bif AZ ys.length then U.fresh true d ⟨false,.list true e,ys⟩ fun U=>K (U.set d (.sref d []))else none
  |_=>none):=by
 cases x<;>rfl
theorem qU{e:Ty}{x:AV}{ys:Option (List e.sK)}(h:∀U2,DV (AG o) U U2->∀{Z:Type}(K:AE->Rs Z),Bc cx true o U2 K=ys.elim none fun ys=>U2.uI true d e x ys K):CF cx o d U:=by cases ys with|none=>exact CF.none h|some ys=>have h:∀U2,DV (AG o) U U2->∀{Z:Type}(K:AE->Rs Z),Bc cx true o U2 K=U2.uI true d e x ys K:=h;cases hl:AZ ys.length with|false=>grind[CF.none,a5s]|true=>cases x with|nils=>(exact CF.vE ⟨false,.list true e,ys⟩ (.sref d []) rfl fun U2 g Z K=>by simp_all[a5s])|empt=>(exact CF.vE ⟨false,.list true e,ys⟩ (.sref d []) rfl fun U2 g Z K=>by simp_all[a5s])|_=>exact CF.none fun U2 g Z K=>by rw[h U2 g,a5s]
theorem b3g{U2:AE}(h:DV (AG o) U U2){c:Call}(g:o.op=.call c):c.args.toList.map U2.sN=c.args.toList.map U.sN:=B6 fun x f=>h.sN (by simp_all[Op.operands,Call.operands])
theorem RO{c:Call}(h:o.op=.call c):∀x∈c.args.toList,x∈o.op.operands.toList:=fun x g=>by simp_all[Op.operands,Call.operands]
theorem a7E{c:Call}{b:Builtin}(u:o.op=.call c)(hb:c.callee=.builtin b)(z:o.dst=some d):CF cx o d U:=by
 have j:∀g,DV (AG o) U g->∀{Z:Type}(K:AE->Rs Z),Bc cx true o g K=g.uP true cx d b c.argTypes.toList (c.args.toList.map U.sN) K:=fun g f Z K=>by grind[Bc,b3g]
 have m:∀a∈c.args.toList.map U.sN,∀n∈a.refs,∀g,DV (AG o) U g->g.look n=U.look n:=fun a q n p g f=>by obtain⟨x,v,rfl⟩:=C1.1 q;exact f.look (RO u x v) p
 revert j m;generalize c.args.toList.map U.sN=as;generalize c.argTypes.toList=ts;intro j m;have i:(∀(g:AE){Z:Type}(K:AE->Rs Z),g.uP true cx d b ts as K=none)->CF cx o d U:=fun h=>CF.none fun g f Z K=>by simp_all
 cases b with|len=>(match as with|[a]=>((refine CF.of ((U.vY (ts.head?.bind cx.T) a some).map fun n=>.val (.int .i64) (n:Int)) fun g f Z K=>?_);rw[j g f];simp only[AE.uP];rw[c4U,b4z fun n p=>m a (by simp) n p g f];cases U.vY (ts.head?.bind cx.T) a some<;>rfl)|[]=>(exact i fun g Z K=>rfl)|_::_::_=>exact i fun g Z K=>rfl)|max=>(match as with|[]=>(exact i fun g Z K=>rfl)|a::r=>cases a with|val t x=>(cases t with|int k=>(exact CF.of (AE.wG DH k r x some) fun g f Z K=>by rw[j g f];exact b1b _ _ _ _ _)|_=>exact i fun g Z K=>rfl)|_=>exact i fun g Z K=>rfl)|min=>(match as with|[]=>(exact i fun g Z K=>rfl)|a::r=>cases a with|val t x=>(cases t with|int k=>(exact CF.of (AE.wG En k r x some) fun g f Z K=>by rw[j g f];exact b1b _ _ _ _ _)|_=>exact i fun g Z K=>rfl)|_=>exact i fun g Z K=>rfl)|append=>(match as with|[]=>(exact i fun g Z K=>rfl)|[_]=>(exact i fun g Z K=>rfl)|_::_::_::_=>(exact i fun g Z K=>rfl)|[a,b]=>cases hni:pT cx ts with|false=>(cases hzl:b6r cx ts a b with|none=>(exact i fun g Z K=>by simp only[AE.uP,hni,cI,hzl,cF])|some w=>have⟨e,ys⟩:=w;exact qU (e:=e) (x:=.nils) (ys:=some ys) fun g f Z K=>by rw[j g f];simp only[AE.uP,hni,cI,hzl,cF];rfl)|true=>cases ht:ts.head?.bind cx.T with|none=>simp_all[AE.uP]|some τ=>cases τ with|list A e=>((have l:(∀(g:AE){Z:Type}(K:AE->Rs Z),g.uP true cx d .append ts [a,b] K=g.elems e b fun ys=>g.uI true d e a ys K)->CF cx o d U:=fun h=>qU (e:=e) (x:=a) (ys:=RN U.look e b) fun g f Z K=>by simp_all[cR,UW]);cases b with|val t y=>(cases t with|str=>(by_cases he:e=.int .u8;subst he;exact qU (e:=.int .u8) (x:=a) (ys:=some y) fun g f Z K=>by rw[j g f];simp only[AE.uP,hni,ht,cT];rfl);simp_all[AE.uP]|_=>exact l fun g Z K=>by simp only[AE.uP,hni,ht,cT,Bool.true_or])|_=>exact l fun g Z K=>by simp only[AE.uP,hni,ht,cT,Bool.true_or])|_=>exact i fun g Z K=>by simp only[AE.uP,hni,ht,cT])|cap=>(match as with|[]=>(exact i fun g Z K=>rfl)|a::_::_=>(exact i fun g Z K=>by cases a<;>rfl)|[a]=>cases a with|nils=>((refine CF.of (bif Ty.isList ((ts.head?.bind cx.T).getD .unit)then some (.val (.int .i64) (0:Int))else none) fun g f Z K=>?_);rw[j g f];simp only[AE.uP];cases Ty.isList ((ts.head?.bind cx.T).getD .unit)<;>rfl)|_=>exact i fun g Z K=>rfl)|_=>exact i fun g Z K=>by unfold AE.uP;split<;>first|rfl|(rename_i h;cases h)|(rename_i h _;cases h)
def qV(fz:Bool)(lk:Nat->Option sP):(p:PA)->AV->Option p.ty.sK|.v t,a=>bif fz then TR t a else VI lk t a|.r _ _,_=>none
theorem jY{Z:Type}(U:AE)(fz:Bool)(seen:List Nat)(p:PA)(a:AV)(K:p.ty.sK->AE->List Nat->List Nat->Rs Z):U.arg fz true [] seen p a K=(qV fz U.look p a).elim none fun x=>K x U [] (bif fz then seen else a.sU++seen):=by cases p with|v t=>(simp only[AE.arg];rw[show(a.sU.any fun n=>([]:List Nat).contains n)=false from by simp];simp;cases fz with|true=>simp[qV];rw[a3I];rfl|false=>simp[qV];rw[b6L];rfl)|r c b=>cases b with|v t=>rfl|b t=>(cases a with|ptr n p=>(cases p<;>simp[AE.arg,qV])|_=>rfl)|o e=>cases a with|sref n p=>(cases p<;>simp[AE.arg,qV])|_=>rfl
def AE.uL(U:AE)(fz:Bool)(seen:List Nat)(ps:List PA)(as:List AV):Option (DG (ps.map PA.ty)).sK:=U.args fz true [] seen ps as fun x _ _=>some x
theorem b1c(U:AE)(fz:Bool)(h:List PA):∀{Z:Type}(as:List AV)(seen:List Nat)(K:(DG (h.map PA.ty)).sK->AE->List Nat->Rs Z),U.args fz true [] seen h as K=(U.uL fz seen h as).elim none fun x=>K x U []:=by induction h with|nil=>(intro Z as seen K;cases as<;>rfl)|cons p h g=>intro Z as seen K;cases as with|nil=>(cases h<;>rfl)|cons a as=>cases h with|nil=>(cases as with|nil=>(simp[AE.uL,AE.args];rw[jY,jY];cases qV fz U.look p a<;>rfl)|cons=>rfl)|cons f h=>simp[AE.uL,AE.args];rw[jY,jY];cases qV fz U.look p a with|none=>rfl|some x=>simp[D0];rw[g,g];cases U.uL fz (bif fz then seen else a.sU++seen) (f::h) as<;>rfl
theorem b1d{U:AE}(fz:Bool)(g:List PA):∀(as:List AV)(seen:List Nat)(x:(DG (g.map PA.ty)).sK),U.uL fz seen g as=some x->KT g=[]:=by induction g with|nil=>intro as seen x h;rfl|cons p g f=>intro as seen x h;cases as with|nil=>(cases g<;>cases h)|cons a as=>cases g with|nil=>(cases as with|nil=>(simp[AE.uL,AE.args]at h;rw[jY]at h;cases p with|v t=>rfl|r c t=>cases h)|cons=>cases h)|cons k g=>simp[AE.uL,AE.args]at h;rw[jY]at h;cases p with|r c t=>(cases h)|v t=>cases h1:qV fz U.look (.v t) a with|none=>simp_all|some y=>rw[h1]at h;simp at h;rw[b1c]at h;cases h2:U.uL fz (bif fz then seen else a.sU++seen) (k::g) as with|none=>simp_all|some z=>exact f as _ z h2
theorem a7F{U U2:AE}(fz:Bool)(g:List PA):∀(as:List AV)(seen:List Nat),(∀a∈as,∀n∈a.refs,U2.look n=U.look n)->U2.uL fz seen g as=U.uL fz seen g as:=by(have f:∀(p:PA)(a:AV),(∀n∈a.refs,U2.look n=U.look n)->qV fz U2.look p a=qV fz U.look p a:=fun p a h=>by cases p with|v t=>simp only[qV];rw[jX h]|r c t=>rfl);induction g with|nil=>(intro as seen h;cases as<;>rfl)|cons p g k=>intro as seen h;cases as with|nil=>(cases g<;>rfl)|cons a as=>cases g with|nil=>(cases as with|nil=>simp_all[AE.uL,AE.args,jY]|cons=>rfl)|cons b g=>simp[AE.uL,AE.args];grind[jY,b1c]
theorem a3J{Z:Type}(U:AE):∀(ns:List Nat)(K:AE->Rs Z),U.tY true [] ns K=bif ns.all fun n=>A3 (n<pinned)&&(U.rt n).isNone then K U else none|[],K=>rfl|n::r,K=>by simp only[AE.tY,C4];rw[show(!([]:List Nat).contains n)=true from by simp,Bool.and_true];cases A3 (n<pinned);rfl;simp;cases U.rt n with|none=>simp_all[a3J]|some x=>simp
def GK:List Nat->List ((r:RA)×r.ty.sK)->List (Nat×sP)|k::ns,it::its=>(match Bh it with|some r=>(k,r)::GK ns its|none=>GK ns its)|_,_=>[]
theorem Tu:∀(ns:List Nat)(h:List ((r:RA)×r.ty.sK)) (n:Nat),find (GK ns h) n=CJ ns h n|[],h,n=>by rfl|k::ns,[],n=>rfl|k::ns,g::h,n=>by simp[GK,CJ];cases Bh g with|none=>simp_all[Tu]|some r=>simp[find];rw[Tu ns h n];grind
theorem WO:∀(f:List RA)(n:Nat)(g:List ((r:RA)×r.ty.sK)),(∀(k:Nat) it,g[k]?=some it->k<f.length->f[k]?=some it.1)->f.length<=g.length->(GK (BA f n++[]) g).map (·.1)=Dj f n|[],n,g,h,d=>by rfl|r::f,n,[],h,d=>by simp_all|r::f,n,it::g,h,d=>by have c:=h 0 it rfl (by simp);simp at c;have m:=WO f (n+1000) g (fun k a l i=>by simpa using h (k+1) a (by simp_all) (by simp_all)) (by simp_all);have⟨j,x⟩:=it;obtain rfl:r=j:=c;simp only[BA,List.cons_append,GK];cases r with|v t=>simp_all[Bh,Dj]|o e=>simp_all[Bh,Dj]|b t=>simp_all[Bh,Dj]
theorem b4A{ks:List Nat}:AV.sQ [] ks=id:=by funext a;cases a<;>simp[AV.sQ]
theorem b4B{n:Nat}:∀{it:(r:RA)×r.ty.sK},(b3Z n it).tX=true->Bh it=none|⟨.v t,x⟩,_=>rfl|⟨.o e,x⟩,h=>(by cases h)|⟨.b t,x⟩,h=>by cases h
theorem qW:∀(ns:List Nat)(g:List ((r:RA)×r.ty.sK)),(La ns g).all AV.tX=true->ns.length=g.length->GK ns g=[]|[],g,_,_=>by rfl|k::ns,[],_,h=>by rfl|k::ns,a::g,h,f=>by simp only[La,C4,bA]at h;simp only[GK];rw[b4B h.1];exact qW ns g h.2 (by simpa using f)
theorem QC:∀(ns:List Nat)(g:List ((r:RA)×r.ty.sK)) (n:Nat),CJ ns g n≠none->n∈ns|[],_,n,h=>absurd rfl h|_::_,[],n,h=>absurd rfl h|k::ns,f::g,n,h=>by simp only[CJ]at h;cases hr:Bh f with|none=>rw[hr]at h;exact A9 _ (QC ns g n h)|some r=>rw[hr]at h;simp only[]at h;by_cases e:n=k;subst e;exact C2;(have:(n==k)=false:=by simpa using e);rw[this]at h;exact A9 _ (QC ns g n h)
theorem b6T{c:Call}{f:FuncId}(B:o.op=.call c)(hb:c.callee=.value (.func f))(I:o.dst=some d):CF cx o d U:=by
  cases hs:cx.C f with
  |none=>simp_all[CF.none,Bc]
  |some s=>
    let u:=s.rs.any RA.sS || (KT s.ps).any RA.sS
    let t:=Dj s.rs (d+1000)
    have L:∀a∈c.args.toList.map U.sN,∀n∈a.refs,∀h,DV (AG o) U h->h.look n=U.look n:=fun a w n A h b=>by
      obtain⟨x,q,rfl⟩:=C1.1 w;exact b.look (RO B x q) A
    have m:∀h,DV (AG o) U h->∀{Z:Type}(K:AE->Rs Z),Bc cx true o h K=(match U.pd with
        |some _=>none
        |none=>(U.uL u [] s.ps (c.args.toList.map U.sN)).elim none fun x=>bif t.all (fun n=>A3 (n<pinned)&&(h.rt n).isNone)then(s.F x).bind fun y=>
            (let G:AE:=⟨fun i=>(h.sl i).sJ (AV.sQ [] (h.vT (YO s.ps []))),fun n=>match CJ (BA s.rs (d+1000)++[]) (EJ (RA.all s.ps s.rs) y) n with
              |some r=>some r
              |none=>h.rt n,none⟩
             match La (BA s.rs (d+1000)) (EJ (RA.all s.ps s.rs) y)with
              | [v]=>K (G.set d v)
              |vs=>K (G.put d (.cmp .tup vs)))else none):=fun h b Z K=>by
      simp only[Bc,B,I,hb,hs,b3g b B];unfold AE.call;rw[b.1];cases U.pd with
      |some p=>rfl
      |none=>
        simp only[];rw[b1c,a7F _ _ _ _ fun a w n A=>L a w n A h b];cases U.uL (s.rs.any RA.sS || (KT s.ps).any RA.sS) [] s.ps (c.args.toList.map U.sN)with
        |none=>rfl
        |some x=>
          grind[a3J]
    cases hpd:U.pd with
    |some p=>simp_all[CF.none]
    |none=>
      rw[hpd]at m;cases q:U.uL u [] s.ps (c.args.toList.map U.sN)with
      |none=>simp_all[CF.none]
      |some x=>
        cases hy:s.F x with
        |none=>
          simp_all[CF.none]
        |some y=>
          let g:=EJ (RA.all s.ps s.rs) y
          let j:=BA s.rs (d+1000)
          let N:SV:=match La j g with
            | [v]=>.one v
            |vs=>.cmp .tup vs

          have D:=b1d u s.ps _ _ x q;have l:RA.all s.ps s.rs=s.rs:=by rw[RA.all,D];simp
          have H:g.length=s.rs.length:=by rw[show g=EJ (RA.all s.ps s.rs) y from rfl,MU,l]
          have M:(GK (j++[]) g).map (·.1)=t:=WO s.rs (d+1000) g (fun k Q O _=>by
            grind[TO]) (by omega)
          have z:∀n,find (GK (j++[]) g) n=CJ (j++[]) g n:=Tu _ _;refine⟨some ⟨GK (j++[]) g,N⟩,fun δ e=>?_,fun h b Z K=>?_⟩;grind[QC,LJ,SV.tX,qW,PR]
          · rw[m h b,q]
            simp only[D0,hy,oB,a7B];rw[show((GK (j++[]) g).all fun p=>A3 (p.1<pinned)&&(h.rt p.1).isNone)=t.all fun n=>A3 (n<pinned)&&(h.rt n).isNone from by grind[List.all_map]];cases (t.all fun n=>A3 (n<pinned)&&(h.rt n).isNone)with
            |false=>rfl
            |true=>
              simp only[cT];have P:∀E:SV,(⟨fun i=>(h.sl i).sJ (AV.sQ [] (h.vT (YO s.ps []))),fun n=>match CJ (BA s.rs (d+1000)++[]) (EJ (RA.all s.ps s.rs) y) n with
                  |some r=>some r
                  |none=>h.rt n,none⟩:AE).put d E=(Dl.mk (GK (j++[]) g) E).app d h:=fun E=>by
                simp only[AE.put,Dl.app];congr 1;funext i;rw[b4A]
                have:(h.sl i).sJ id=h.sl i:=by cases h.sl i<;>simp[SV.sJ]
                grind;grind;all_goals exact(b.1.trans hpd).symm
              grind[AE.set]
theorem pC(h:o.dst=some d):CF cx o d U:=by
 cases ho:o.op
 case move x=>exact b6M ho h
 case assign x=>exact b0V ho h
 case pick x y u=>exact b6N ho h
 case alloc t=>exact b4t ho h
 case box t x=>exact b9R ho h
 case build t x=>exact b4u ho h
 case buildSlice t n x=>grind[qS]
 case load t x=>exact b6O ho h
 case nilCheck x=>exact a5r ho h
 case binOp op t x y s=>exact b4v ho h
 case unOp op t x=>exact b6R ho h
 case convert s t x=>exact a7C ho h
 case makeSlice t x y=>grind[a2j]
 case slice t x u v m=>exact b4w ho h
 case fieldAddr s x f=>grind[a2k]
 case field s x f=>exact b4x ho h
 case indexAddr t x i=>grind[a2l]
 case index t x i=>exact b4y ho h
 case extract x i=>exact a7D ho h
 case makeFunc fn first caps=>exact a5q ho h
 case store t x y=>simp_all[CF.none,Bc]
 case call c=>
  cases hc:c.callee with
  |builtin b=>simp_all[a7E]
  |invoke r n=>simp_all[CF.none,Bc]
  |value v=>
   cases v with
   |func f=>exact b6T ho hc h
   |tmp t=>simp_all[CF.none,Bc]
   |_=>simp_all[CF.none,Bc]
 all_goals exact CF.none fun g k Z K=>by simp only[Bc,ho,h]
theorem b6U(U:AE){g:Nat}{sv:SV}(h:U.sl g=sv):U.put g sv=U:=by have⟨a,k,f⟩:=U;simp only[AE.put];congr 1;grind
theorem ET{ops:Array Oper}{t:Nat}(h:t∈AG o):t∈o.looksAt ops:=by simp only[Oper.looksAt,mA];exact .inl h
theorem jZ{ops:Array Oper}{j g:Nat}{h:Bool}(f:o.guard=some (j,h))(k:VG ops.toList j=some g):g∈o.looksAt ops:=by simp_all[Oper.looksAt,VG]
def Dz(ops:Array Oper)(o:Oper)(U:AE):Option Bool:=match o.guard with|none=>some true|some (j,want)=>match VG ops.toList j with|none=>none|some g=>match U.get g with|.val .bool (b:Bool)=>some (b==want)|.skp=>some false|_=>none
theorem Lf{Z:Type}{ops:Array Oper}{k:Md}(U:AE)(K:AE->Rs Z):BC cx k ops.toList o U K=(match Dz ops o U with
  |some true=>Kh cx k o U K
  |some false=>K (U.uG o.dst .skp)
  |none=>none):=by
 unfold BC Dz;cases hg:o.guard with
 |none=>rfl
 |some p=>
  have⟨j,a⟩:=p
  simp
  cases hj:VG ops.toList j with
  |none=>rfl
  |some g=>
   simp
   have f:∀(v:AV),v≠.dead->U.get g=v->U.set g v=U:=fun v b h=>b6U U (by
    grind[AE.get])
   grind
theorem Ez{Z:Type}{ops:Array Oper}{h:Md}(g:o.dst=some d)(U:AE)(K:AE->Rs Z):BC cx h ops.toList o U K=(match Dz ops o U with
  |some true=>Kh cx h o U K
  |some false=>K (U.put d (.one .skp))
  |none=>none):=by
 rw[Lf,g];rfl
theorem IN{ops:Array Oper}{U U2:AE}(h:∀t∈o.looksAt ops,U2.sl t=U.sl t):Dz ops o U2=Dz ops o U:=by grind[Dz,AE.get,jZ]
theorem a5t{ops:Array Oper}{j g:Nat}{f:Bool}(k:o.guard=some (j,f))(a:VG ops.toList j=some g)(h:Dz ops o U≠none):(U.sl g).tX=true:=by unfold Dz at h;rw[k]at h;simp only[a,AE.get]at h;cases hs:U.sl g with|cmp b c=>simp_all|one v=>rw[hs]at h;cases v<;>first|rfl|simp_all
def gR(T:List Nat)(U U2:AE):Prop:=U2.pd=U.pd/\∀t∈T,U2.sl t=U.sl t/\∀n∈(U.sl t).refs,U2.rt n=U.rt n
theorem gR.sub{ops:Array Oper}{U U2:AE}(h:gR (o.looksAt ops) U U2):DV (AG o) U U2:=⟨h.1,fun t g=>h.2 t (ET g)⟩
theorem a3K{α:Type}{l:List (Nat×α)}{n:Nat}:find l n=none↔∀p∈l,p.1≠n:=by induction l with|nil=>simp[find]|cons p l h=>have⟨k,x⟩:=p;simp only[find,mC,forall_eq_or_imp];grind
theorem Yj{Z:Type}{r:Option Dl}{U2:AE}{K:AE->Rs Z}{z:Z}(h:a7B r d U2 K=some z):∃δ,r=some δ/\(∀n,find δ.rs n≠none->U2.rt n=none)/\K (δ.app d U2)=some z/\(δ.rs.all fun p=>A3 (p.1<pinned))=true:=by cases r with|none=>(cases h)|some δ=>(simp[a7B]at h;have⟨g,h⟩:=(Ai h).elim id fun h=>by grind);refine⟨δ,rfl,fun n k=>?_,h,?_⟩;by_cases e:∃p∈δ.rs,p.1=n;obtain⟨p,f,rfl⟩:=e;have:=lA.1 g p f;simp_all;simp_all[a3K];grind
theorem pD{Z:Type}{δ:Dl}{U2:AE}{K:AE->Rs Z}(g:(δ.rs.all fun p=>A3 (p.1<pinned))=true)(f:∀n,find δ.rs n≠none->U2.rt n=none):a7B (some δ) d U2 K=K (δ.app d U2):=by simp[a7B];rw[show(δ.rs.all fun p=>A3 (p.1<pinned)&&(U2.rt p.1).isNone)=true from lA.2 fun p h=>by have a:=lA.1 g p h;have b:=f p.1 fun e=>a3K.1 e p h rfl;simp_all];rfl
theorem gS{v:AV}(h:v.tX=true):v.refs=[]:=by cases v<;>first|rfl|cases h
theorem Pl{sv:SV}(h:sv.tX=true):sv.refs=[]:=by cases sv with|one v=>exact gS h|cmp f k=>simp[SV.refs];exact fun v g=>gS (lA.1 h v g)
theorem qX{sv:SV}(h:sv.tX=true):sv.alive=true:=by(have one:∀v:AV,v.tX=true->v.alive=true:=fun v h=>by cases v<;>first|rfl|cases h);cases sv with|one v=>exact one v h|cmp f k=>exact lA.2 fun v g=>one v (lA.1 h v g)
def BK(ops:Array Oper)(o:Oper):List Nat:=match o.guard with|none=>[]|some (j,_)=>(VG ops.toList j).toList
theorem Cd{ops:Array Oper}{t:Nat}(h:t∈BK ops o):t∈o.looksAt ops:=by grind[BK,jZ]
theorem BG{ops:Array Oper}{U U2:AE}(h:∀t∈BK ops o,U2.sl t=U.sl t):Dz ops o U2=Dz ops o U:=by grind[Dz,BK,AE.get]
theorem GL{ops:Array Oper}(h:Dz ops o U≠none):∀t∈BK ops o,(U.sl t).tX=true:=by grind[BK,a5t]
theorem c4V{Z:Type}{ops:Array Oper}(a:o.dst=some d){K:AE->Rs Z}{z:Z}(f:BC cx .q ops.toList o U K=some z):∃(δ:Dl)(L:List Nat),(∀t∈L,t∈o.looksAt ops/\∀n∈(U.sl t).refs,U.rt n≠none)/\K (δ.app d U)=some z/\(∀n,find δ.rs n≠none->U.rt n=none)/\∀U2,gR L U U2->(∀n,find δ.rs n≠none->U2.rt n=none)->∀{Z2:Type}(i:AE->Rs Z2),BC cx .q ops.toList o U2 i=i (δ.app d U2):=by rw[Ez a]at f;cases hl:Dz ops o U with|none=>simp_all|some b=>have v:=GL (ops:=ops) (U:=U) (o:=o) (by simp_all);have j:∀t∈BK ops o,t∈o.looksAt ops/\∀n∈(U.sl t).refs,U.rt n≠none:=fun t g=>⟨Cd g,fun n k=>by simp_all[Pl]⟩;rw[hl]at f;cases b with|false=>refine⟨⟨[],.one .skp⟩,BK ops o,j,f,fun n k=>absurd rfl k,fun U2 c _ Z2 i=>?_⟩;rw[Ez a,BG fun t g=>(c.2 t g).1,hl];rfl|true=>(simp only[Kh,a]at f;have⟨C,f⟩:=(Ai f).elim id fun h=>by grind);(have l:∀t∈AG o,∀n∈(U.sl t).refs,U.rt n≠none:=fun t g n k=>by have⟨x,m,A⟩:=C3.1 g;grind);have⟨r,y,w⟩:=pC (cx:=cx) (U:=U) a;rw[w U DV.refl]at f;obtain⟨δ,rfl,p,u,B⟩:=Yj f;refine⟨δ,AG o++BK ops o,fun t g=>?_,u,p,fun U2 c k Z2 i=>?_⟩;grind[ET];rw[Ez a,BG fun t g=>(c.2 t (A6 _ g)).1,hl];simp only[Kh,a];have e:DV (AG o) U U2:=⟨c.1,fun t g=>c.2 t (A7 _ g)⟩;refine(cG (fun b=>bif b then _ else none) (lA.2 fun x m=>?_)).trans ?_;(cases x with|tmp t=>(simp only[];have g:=CL m;refine lA.2 fun n k=>?_);rw[(e.2 t g).1]at k;rw[(e.2 t g).2 n k];grind|_=>rfl);simp;grind[pD]
theorem a5u{v:AV}(h:v.tX=true):v.calm=true:=by cases v with|ptr n p=>(cases h)|_=>exact h
theorem Tv{sv:SV}(h:sv.tX=true):sv.calm=true:=by cases sv with|one v=>exact a5u h|cmp c g=>exact h
theorem WP{U U2:AE}(h:∀t∈AG o,U2.sl t=U.sl t):YP o U2=YP o U:=by grind[YP,a7f,AG,Op.operands]
theorem b6V{Z:Type}{ops:Array Oper}(e:o.dst=some d){K:AE->Rs Z}{z:Z}(f:BC cx .v ops.toList o U K=some z):
  ∃(sv:SV)(L:List Nat),sv.calm=true/\(∀t∈L,t∈o.looksAt ops/\(U.sl t).calm=true)/\K (U.put d sv)=some z/\
   ∀U2,U2.pd=U.pd->(∀t∈L,U2.sl t=U.sl t)->∀{Z2:Type}(a:AE->Rs Z2),BC cx .v ops.toList o U2 a=a (U2.put d sv):=by
 rw[Ez e]at f;cases hl:Dz ops o U with
 |none=>simp_all
 |some b=>
  have w:=GL (ops:=ops) (U:=U) (o:=o) (by simp_all);rw[hl]at f;cases b with
  |false=>
   refine⟨.one .skp,BK ops o,rfl,fun t g=>⟨Cd g,Tv (w t g)⟩,f,fun U2 _ l Z2 a=>?_⟩;grind[Ez,BG]
  |true=>
   simp only[Kh,e]at f;cases hp:YP o U with
   |some n=>
    rw[hp]at f;obtain⟨t,N,O,y⟩:=ZM hp;have E:t∈AG o:=by
     grind[AG,Op.operands]
    have q:(U.sl t).calm=true:=by simp_all[SV.calm,AV.calm]
    refine⟨.one (.ptr n []),[t]++BK ops o,by simp_all,fun H g=>?_,f,fun U2 i l Z2 a=>?_⟩;rcases mA.1 g with g|g;obtain rfl:H=t:=by simp_all
    simp_all[ET];simp_all[Cd,Tv];grind[Ez,BG,Kh,WP,AG,Op.operands]
   |none=>
   rw[hp]at f;simp only[]at f;obtain⟨M,f⟩:=(Ai f).elim id fun h=>by grind
   have u:∀t∈AG o,(U.sl t).tX=true:=fun t g=>by
    obtain⟨x,F,G⟩:=C3.1 g;grind
   obtain⟨r,A,B⟩:=pC (cx:=cx) (U:=U) e;rw[B U DV.refl]at f;obtain⟨δ,rfl,I,m,C⟩:=Yj f;obtain⟨D,m⟩:=(Ai m).elim id fun h=>by grind
   have k:δ.sv.tX=true:=by simpa[Dl.app]using D
   have j:=(A δ rfl).1 k;obtain⟨P,sv⟩:=δ;simp only at j k;subst j;refine⟨sv,AG o++BK ops o,Tv k,fun t g=>?_,m,fun U2 i l Z2 a=>?_⟩;grind[ET,Tv,Cd];rw[Ez e,BG fun t g=>l t (A6 _ g),hl];simp only[Kh,e];have c:∀t∈AG o,U2.sl t=U.sl t:=fun t g=>l t (A7 _ g);have p:DV (AG o) U U2:=⟨i,fun t g=>⟨c t g,fun n y=>by simp_all[Pl]⟩⟩;rw[WP c,hp];simp only[];refine(cG (fun b=>bif b then _ else none) (lA.2 fun x F=>?_)).trans ?_
   grind[CL]
   simp
   rw[B U2 p,pD C (fun n y=>absurd rfl y)];show(bif (((Dl.mk [] sv).app d U2).sl d).tX then a ((Dl.mk [] sv).app d U2)else none)=_;rw[show((Dl.mk [] sv).app d U2).sl d=sv from by simp[Dl.app],k];rfl
theorem c1V{Z:Type}{ops:Array Oper}(c:o.dst=some d){K:AE->Rs Z}{z:Z}(g:BC cx .p ops.toList o U K=some z):∃(sv:SV)(L:List Nat),sv.calm=true/\(∀t∈L,t∈o.looksAt ops/\(U.sl t).calm=true)/\K (U.put d sv)=some z/\∀U2,(∀t∈L,U2.sl t=U.sl t)->∀{Z2:Type}(f:AE->Rs Z2),BC cx .p ops.toList o U2 f=f (U2.put d sv):=by rw[Ez c]at g;cases hl:Dz ops o U with|none=>simp_all|some b=>have a:=GL (ops:=ops) (U:=U) (o:=o) (by simp_all);rw[hl]at g;cases b with|false=>refine⟨.one .skp,BK ops o,rfl,fun t h=>⟨Cd h,Tv (a t h)⟩,g,fun U2 e Z2 f=>?_⟩;grind[Ez,BG]|true=>simp[Kh,c]at g;cases hp:YP o U with|none=>simp_all|some n=>(rw[hp]at g;have⟨t,m,q,l⟩:=ZM hp;have i:t∈AG o:=by grind[AG,Op.operands]);(have k:(U.sl t).calm=true:=by simp_all[SV.calm,AV.calm]);(refine⟨.one (.ptr n []),[t]++BK ops o,by simp_all,fun j h=>?_,g,fun U2 e Z2 f=>?_⟩;rcases mA.1 h with h|h;obtain rfl:j=t:=by simp_all);simp_all[ET];simp_all[Cd,Tv];grind[Ez,BG,Kh,WP,AG,Op.operands]
theorem b1e{x:Operand}(h:∀t,x=.tmp t->(U.sl t).tX=true):(U.sN x).refs=[]:=by cases x with|tmp t=>(have:=h t rfl;simp[AE.sN,AE.get];cases hs:U.sl t with|one v=>rw[hs]at this;exact gS this|cmp c g=>rfl)|const v=>simp[AE.sN,Ya];split<;>rfl|_=>rfl
theorem a3L{v:AV}(h:v.refs=[]):(cx.tZ v).refs=[]:=by cases v with|tZ g=>(simp[Cx.tZ];cases cx.G g<;>rfl)|_=>exact h
theorem b9S{Z:Type}{a:AV}(h:a.refs=[]){q:Bool}{ty:Ty}(x:Option (Nat×BJ×Nat))(K:AV->AE->Rs Z):AE.wM { U with pd:=x } q ty a K=U.wM q ty a fun v g=>K v { g with pd:=x }:=by cases a with|ptr n p=>(cases h)|_=>rfl
theorem b6W{Z:Type}{a:AV}(h:a.refs=[]){ty:Option Ty}{i:Int}(x:Option (Nat×BJ×Nat))(K:AV->Rs Z):AE.uE { U with pd:=x } ty a i K=U.uE ty a i K:=by cases a with|ptr n p=>rfl|sref n p=>rfl|swin n p o l=>(cases h)|val t y=>(cases t with|list o e=>(cases o<;>rfl)|_=>rfl)|vptr t y=>(cases t<;>rfl)|_=>rfl
theorem b9T{Z:Type}(hp:b0y o=true)(h:o.dst=some d)(g:∀x∈o.op.operands.toList,(U.sN x).refs=[])(x:Option (Nat×BJ×Nat))(K:AE->Rs Z):Bc cx true o { U with pd:=x } K=Bc cx true o U fun k=>K { k with pd:=x }:=by cases ho:o.op with|move y=>simp[Bc,ho,h];rfl|binOp e j y z s=>simp only[Bc,ho,h];rfl|unOp e t y=>simp[Bc,ho,h];rfl|pick c a b=>simp[Bc,ho,h];rfl|load t a=>(simp only[Bc,ho,h];cases cx.T t with|none=>rfl|some t=>exact b9S (a3L (g a (by simp[ho,Op.operands]))) x _)|fieldAddr s y f=>simp[Bc,ho,h];rfl|indexAddr t y i=>simp[Bc,ho,h];show(match U.sN i with|.val (.int _) (i:Int)=>AE.uE { U with pd:=x } (cx.T t) (cx.tZ (U.sN y)) i _|_=>none)=_;simp only[b6W (a3L (g y (by simp[ho,Op.operands])))];rfl|index s y i=>simp[Bc,ho,h];rfl|_=>simp[b0y,ho]at hp
theorem c1W{Z:Type}{ops:Array Oper}(c:o.dst=some d){K:AE->Rs Z}{z:Z}(k:BC cx .u ops.toList o U K=some z):∃(sv:SV)(L:List Nat),sv.calm=true/\(∀t∈L,t∈o.looksAt ops/\(U.sl t).calm=true)/\K (U.put d sv)=some z/\∀U2,(∀t∈L,U2.sl t=U.sl t)->∀{Z2:Type}(i:AE->Rs Z2),BC cx .u ops.toList o U2 i=i (U2.put d sv):=by rw[Ez c]at k;cases hl:Dz ops o U with|none=>simp_all|some b=>have w:=GL (ops:=ops) (U:=U) (o:=o) (by simp_all);rw[hl]at k;cases b with|false=>refine⟨.one .skp,BK ops o,rfl,fun t g=>⟨Cd g,Tv (w t g)⟩,k,fun U2 q Z2 i=>?_⟩;grind[Ez,BG]|true=>(simp only[Kh,c]at k;have⟨B,k⟩:=(Ai k).elim id fun h=>by grind);(have⟨D,B⟩:=B4.1 B;have a:∀t∈AG o,(U.sl t).tX=true:=fun t g=>by have⟨x,m,H⟩:=C3.1 g;grind);(have⟨r,y,E⟩:=pC (cx:=cx) (U:=U) c;rw[E U DV.refl]at k;obtain⟨δ,rfl,I,p,F⟩:=Yj k;have⟨G,p⟩:=(Ai p).elim id fun h=>by grind);(have f:δ.sv.tX=true:=by simpa[Dl.app]using G);(have l:=(y δ rfl).1 f;have⟨M,sv⟩:=δ;simp only at l f;subst l;refine⟨sv,AG o++BK ops o,Tv f,fun t g=>?_,p,fun U2 q Z2 i=>?_⟩;grind[ET,Tv,Cd];rw[Ez c,BG fun t g=>q t (A6 _ g),hl];simp only[Kh,c];have j:∀t∈AG o,U2.sl t=U.sl t:=fun t g=>q t (A7 _ g);have v:DV (AG o) U { U2 with pd:=U.pd }:=⟨rfl,fun t g=>⟨j t g,fun n C=>by simp_all[Pl]⟩⟩;refine(cG (fun b=>bif b then _ else none) (B4.2 ⟨D,lA.2 fun x m=>?_⟩)).trans ?_);grind[CL];simp;(have A:∀x∈o.op.operands.toList,(AE.sN { U2 with pd:=U.pd } x).refs=[]:=fun x m=>b1e fun t e=>by subst e;exact(cG SV.tX (j t (CL m))).trans (a t (CL m)));refine(b9T (U:={ U2 with pd:=U.pd }) D c A U2.pd _).trans ?_;rw[E _ v,pD F (fun n C=>absurd rfl C)];show(bif (((Dl.mk [] sv).app d U2).sl d).tX then i ((Dl.mk [] sv).app d U2)else none)=_;rw[show((Dl.mk [] sv).app d U2).sl d=sv from by simp[Dl.app],f];rfl
theorem Pm{a b:List Nat}(h:a4V a b=true){n:Nat}(g:n∈a):n∈b:=by have:=lA.1 h n g;simp_all
theorem b6X{Z:Type}{ops:Array Oper}{ns:List Nat}(e:o.dst=some d){K:AE->Rs Z}{z:Z}(a:BC cx (.r ns) ops.toList o U K=some z):∃(δ:Dl)(L:List Nat),(∀t∈L,t∈o.looksAt ops/\(U.sl t).alive=true/\∀n∈(U.sl t).refs,U.rt n≠none/\n∈ns)/\K (δ.app d U)=some z/\(∀n,find δ.rs n≠none->U.rt n=none/\n∈ns)/\(∀n∈δ.sv.refs,n∈ns)/\∀U2,gR L U U2->(∀n,find δ.rs n≠none->U2.rt n=none)->∀{Z2:Type}(l:AE->Rs Z2),BC cx (.r ns) ops.toList o U2 l=l (δ.app d U2):=by rw[Ez e]at a;cases hl:Dz ops o U with|none=>simp_all|some b=>have p:=GL (ops:=ops) (U:=U) (o:=o) (by simp_all);have q:∀t∈BK ops o,t∈o.looksAt ops/\(U.sl t).alive=true/\∀n∈(U.sl t).refs,U.rt n≠none/\n∈ns:=fun t f=>⟨Cd f,qX (p t f),fun n g=>by simp_all[Pl]⟩;rw[hl]at a;cases b with|false=>refine⟨⟨[],.one .skp⟩,BK ops o,q,a,fun n g=>absurd rfl g,fun n g=>(by cases g),fun U2 i _ Z2 l=>?_⟩;rw[Ez e,BG fun t f=>(i.2 t f).1,hl];rfl|true=>(simp only[Kh,e]at a;have⟨y,a⟩:=(Ai a).elim id fun h=>by grind);(have⟨y,j⟩:=B4.1 y;have v:∀t∈AG o,(U.sl t).alive=true/\∀n∈(U.sl t).refs,U.rt n≠none/\n∈ns:=fun t f=>by have⟨x,B,F⟩:=C3.1 f;grind);(have⟨r,u,A⟩:=pC (cx:=cx) (U:=U) e;rw[A U DV.refl]at a;obtain⟨δ,rfl,C,m,D⟩:=Yj a;have⟨k,m⟩:=(Ai m).elim id fun h=>by grind);(have w:(δ.app d U).sl d=δ.sv:=by simp[Dl.app]);rw[w]at k;refine⟨δ,AG o++BK ops o,fun t f=>?_,m,fun n g=>⟨C n g,?_⟩,fun n g=>Pm k g,fun U2 i g Z2 l=>?_⟩;grind[ET];have:=(u δ rfl).2 n g;refine Pm j ?_;simp_all;rw[Ez e,BG fun t f=>(i.2 t (A6 _ f)).1,hl];simp only[Kh,e];have c:DV (AG o) U U2:=⟨i.1,fun t f=>i.2 t (A7 _ f)⟩;refine(cG (fun b=>bif b then _ else none) (B4.2 ⟨lA.2 fun x B=>?_,j⟩)).trans ?_;(cases x with|tmp t=>simp only[];have f:=CL B;have E:=(c.2 t f).1;refine B4.2 ⟨by simp_all,lA.2 fun n g=>?_⟩;rw[E]at g;rw[(c.2 t f).2 n g];grind|_=>rfl);simp;rw[A U2 c,pD D g];grind[Dl.app]
def a2a(o:Option sP):Option Ty:=o.map (·.t)
theorem b6Y{a b:Option sP}(h:a2a a=a2a b):a.isSome=b.isSome:=by cases a<;>cases b<;>first|rfl|cases h
theorem kA{U2:AE}{x:Operand}(h:∀t,x=.tmp t->U2.sl t=U.sl t/\∀n∈(U.sl t).refs,a2a (U2.rt n)=a2a (U.rt n)):U2.wD x=U.wD x:=by cases x with|tmp t=>(have⟨g,f⟩:=h t rfl;grind[AE.wD,SV.refs,AV.refs,a2a])|_=>rfl
theorem b1f{U2:AE}(h:∀t∈AG o,U2.sl t=U.sl t/\∀n∈(U.sl t).refs,a2a (U2.rt n)=a2a (U.rt n)):U2.stay cx o=U.stay cx o:=by unfold AE.stay;split;(rename_i t k;have⟨a,g⟩:=h t (by simp_all[AG,Op.operands]);rw[a];generalize U.sl t=sv at g;cases sv with|one v=>simp;(have:(v.refs.all fun n=>(U2.rt n).isSome)=v.refs.all fun n=>(U.rt n).isSome:=by have d:∀n∈v.refs,a2a (U2.rt n)=a2a (U.rt n):=g;grind[b6Y]);grind|cmp c e=>rfl);rename_i s x f k;rw[kA (U:=U) (x:=x) fun t b=>h t (by simp_all[AG,Op.operands])];rename_i s x k;rw[kA (U:=U) (x:=x) fun t b=>h t (by simp_all[AG,Op.operands])];rfl
theorem b1g{v:AV}(g:U.stay cx o=some v)(hv:v.still=true):∀t∈AG o,(U.sl t).still=true/\∀n∈(U.sl t).refs,U.rt n≠none:=by
 have c:∀(t:Nat)(n:Nat)(p:BJ)(r:sP),U.sl t=.one (.ptr n p)->U.rt n=some r->p.all Step.uB=true->(U.sl t).still=true/\∀n∈(U.sl t).refs,U.rt n≠none:=fun t n p r a d i=>by rw[a];refine⟨i,fun m z=>?_⟩;simp_all[SV.refs,AV.refs]
 unfold AE.stay at g;split at g;rename_i t q;split at g;rename_i u y;have⟨j,g⟩:=(Ai g).elim id fun h=>by grind
 cases g;obtain⟨-,j⟩:=B4.1 j;intro k b;obtain rfl:k=t:=by simp_all[AG,Op.operands]
 rw[y];exact⟨hv,fun n w=>Option.isSome_iff_ne_none.1 (lA.1 j n w)⟩;simp_all;rename_i s x f q;split at g;rename_i n p τ l;obtain⟨t,r,rfl,a,d,i⟩:=UT l;split at g;cases g;intro k b;obtain rfl:k=t:=by simp_all[AG,Op.operands]
 exact c k n p r a d (by simp_all[AV.still]);simp_all;simp_all;rename_i s x q;split at g;rename_i n p e l;obtain⟨t,r,rfl,a,d,i⟩:=UT l;split at g;obtain⟨-,g⟩:=(Ai g).elim id fun h=>by grind
 cases g;intro k b;obtain rfl:k=t:=by simp_all[AG,Op.operands]
 exact c k n p r a d hv;simp_all;simp_all;simp_all
theorem b1h{sv:SV}(h:sv.tX=true):sv.still=true:=by cases sv with|one v=>(cases v<;>first|rfl|cases h)|cmp c g=>exact h
theorem b6Z{Z:Type}{ops:Array Oper}(a:o.dst=some d){K:AE->Rs Z}{z:Z}(g:BC cx .s ops.toList o U K=some z):∃(sv:SV)(L:List Nat),sv.still=true/\(∀t∈L,t∈o.looksAt ops/\(U.sl t).still=true/\∀n∈(U.sl t).refs,U.rt n≠none)/\K (U.put d sv)=some z/\∀U2,(∀t∈L,U2.sl t=U.sl t/\∀n∈(U.sl t).refs,a2a (U2.rt n)=a2a (U.rt n))->(U.uS=true->U2.uS=true)->∀{Z2:Type}(k:AE->Rs Z2),BC cx .s ops.toList o U2 k=k (U2.put d sv):=by rw[Ez a]at g;cases hl:Dz ops o U with|none=>simp_all|some b=>have e:=GL (ops:=ops) (U:=U) (o:=o) (by simp_all);have i:∀t∈BK ops o,t∈o.looksAt ops/\(U.sl t).still=true/\∀n∈(U.sl t).refs,U.rt n≠none:=fun t f=>⟨Cd f,b1h (e t f),fun n q=>by simp_all[Pl]⟩;rw[hl]at g;cases b with|false=>refine⟨.one .skp,BK ops o,rfl,i,g,fun U2 c _ Z2 k=>?_⟩;grind[Ez,BG]|true=>simp[Kh,a]at g;cases hs:U.stay cx o with|none=>simp_all|some v=>(rw[hs]at g;have⟨l,g⟩:=(Ai g).elim id fun h=>by grind);have⟨j,m⟩:=B4.1 l;have p:=b1g hs j;refine⟨.one v,AG o++BK ops o,j,fun t f=>?_,g,fun U2 c r Z2 k=>?_⟩;grind[ET];rw[Ez a,BG fun t f=>(c t (A6 _ f)).1,hl];simp[Kh,a];rw[b1f fun t f=>c t (A7 _ f),hs];simp_all
def Md.reads:Md->Nat->Prop|.q,_=>True|.s,_=>True|.r ns,n=>n∈ns|_,_=>False
def Md.quiet:Md->Prop|.v|.p|.q|.s|.u|.r _=>True|_=>False
def Md.yX:Md->Bool|.v|.p|.u=>true|_=>false
def b1i(md:Md)(T:List Nat)(U U2:AE):Prop:=U2.pd=U.pd/\∀t∈T,U2.sl t=U.sl t/\∀n∈(U.sl t).refs,md.yX=false->U2.rt n=U.rt n
theorem b1j{Z:Type}{ops:Array Oper}{A:Md}(y:A.quiet)(C:o.dst=some d){K:AE->Rs Z}{z:Z}(D:BC cx A ops.toList o U K=some z):∃(δ:Dl)(L:List Nat),(∀t∈L,t∈o.looksAt ops/\∀n∈(U.sl t).refs,A.yX=false->A.reads n/\U.rt n≠none)/\K (δ.app d U)=some z/\(∀n,find δ.rs n≠none->U.rt n=none)/\∀U2,b1i A L U U2->(∀n,find δ.rs n≠none->U2.rt n=none)->∀{Z2:Type}(i:AE->Rs Z2),BC cx A ops.toList o U2 i=i (δ.app d U2):=by cases A with|v=>(have⟨B,L,j,c,l,m⟩:=b6V C D;exact⟨⟨[],B⟩,L,fun t h=>⟨(c t h).1,fun n f e=>by cases e⟩,l,fun n f=>absurd rfl f,fun U2 k _ Z2 i=>m U2 k.1 (fun t h=>(k.2 t h).1) i⟩)|q=>(have⟨δ,L,j,c⟩:=c4V C D;exact⟨δ,L,fun t h=>⟨(j t h).1,fun n f _=>⟨trivial,(j t h).2 n f⟩⟩,c.1,c.2.1,fun U2 k=>c.2.2 U2 ⟨k.1,fun t h=>⟨(k.2 t h).1,fun n f=>(k.2 t h).2 n f rfl⟩⟩⟩)|r F=>(obtain⟨δ,L,j,c,l,-,m⟩:=b6X C D;exact⟨δ,L,fun t h=>⟨(j t h).1,fun n f _=>⟨((j t h).2.2 n f).2,((j t h).2.2 n f).1⟩⟩,c,fun n f=>(l n f).1,fun U2 k=>m U2 ⟨k.1,fun t h=>⟨(k.2 t h).1,fun n f=>(k.2 t h).2 n f rfl⟩⟩⟩)|p=>(have⟨B,L,j,c,l,m⟩:=c1V C D;exact⟨⟨[],B⟩,L,fun t h=>⟨(c t h).1,fun n f e=>by cases e⟩,l,fun n f=>absurd rfl f,fun U2 k _ Z2 i=>m U2 (fun t h=>(k.2 t h).1) i⟩)|s=>(have⟨B,L,j,c,l,m⟩:=b6Z C D;exact⟨⟨[],B⟩,L,fun t h=>⟨(c t h).1,fun n f _=>⟨trivial,(c t h).2.2 n f⟩⟩,l,fun n f=>absurd rfl f,fun U2 k _ Z2 i=>m U2 (fun t h=>⟨(k.2 t h).1,fun n f=>by rw[(k.2 t h).2 n f rfl]⟩) (fun g=>by unfold AE.uS at g|-;rw[k.1];omega) i⟩)|u=>(have⟨B,L,j,c,l,m⟩:=c1W C D;exact⟨⟨[],B⟩,L,fun t h=>⟨(c t h).1,fun n f e=>by cases e⟩,l,fun n f=>absurd rfl f,fun U2 k _ Z2 i=>m U2 (fun t h=>(k.2 t h).1) i⟩)|x=>(cases y)|b E=>(cases y)|a E=>(cases y)|w E=>cases y
end
def FP(f:AV->AV):Prop:=(∀v:AV,v.calm=true->f v=v)/\∀v:AV,(f v).calm=true->f v=v
theorem FP.id:FP id:=⟨fun _ _=>rfl,fun _ _=>rfl⟩
def FW(W:List Nat)(f:AV->AV):Prop:=(∀v:AV,(∀n∈v.refs,n∉W)->f v=v)/\(∀v:AV,f v=v\/f v=.dead)/\∀n,pinned<=n->f (.ptr n [])=.ptr n []
theorem FW.id{W:List Nat}:FW W id:=⟨fun _ _=>rfl,fun _=>.inl rfl,fun _ _=>rfl⟩
theorem FW.comp{W:List Nat}{f g:AV->AV}(k:FW W f)(a:FW W g)(c:g .dead=.dead:=by rfl):FW W (fun v=>g (f v)):=by refine⟨fun v h=>?_,fun v=>?_,fun n b=>?_⟩;show g (f v)=v;rw[k.1 v h];exact a.1 v h;show g (f v)=v\/g (f v)=.dead;rcases k.2.1 v with h|h;rw[h];exact a.2.1 v;simp_all;show g (f _)=_;rw[k.2.2 n b];exact a.2.2 n b
theorem FW.dead{W:List Nat}{f:AV->AV}(h:FW W f):f .dead=.dead:=(h.2.1 .dead).elim _root_.id _root_.id
theorem FW.fp{W:List Nat}{f:AV->AV}(k:FW W f):FP f:=by refine⟨fun v h=>?_,fun v h=>?_⟩;(cases v with|ptr n p=>(cases p with|nil=>exact k.2.2 n (by simpa[AV.calm]using h)|cons=>simp_all[AV.calm,AV.tX])|sref=>(cases h)|swin=>(cases h)|_=>exact k.1 _ fun n a=>(by cases a));rcases k.2.1 v with g|g;omega;rw[g]at h;cases h
theorem nb{W:List Nat}{m n:Nat}(g:n∈W)(h:∀k∈[m],k∉W):(m==n)=false:=by grind
theorem FW.drop{W:List Nat}{n:Nat}(g:n∈W)(hp:n<pinned):FW W (AV.drop n):=by
 refine⟨fun v h=>?_,fun v=>?_,fun m f=>?_⟩;cases v with|ptr m q=>simp only[AV.drop,nb g h,A8,if_false]|sref m q=>simp only[AV.drop,nb g h,A8,if_false]|swin m q o l=>simp only[AV.drop,nb g h,A8,if_false]|_=>rfl
 cases v with|ptr m q=>simp only[AV.drop];split<;>simp|sref m q=>simp only[AV.drop];split<;>simp|swin m q o l=>simp only[AV.drop];split<;>simp|_=>exact .inl rfl
 have:(m==n)=false:=by simp only[beq_eq_false_iff_ne];omega
 simp[AV.drop,this]
theorem FW.kill{W:List Nat}{n:Nat}(g:n∈W)(p:BJ):FW W (AV.kill n p):=by refine⟨fun v h=>?_,fun v=>?_,fun m f=>by simp[AV.kill]⟩;(cases v with|ptr m q=>simp only[AV.kill,nb g h,D4,A8,if_false]|sref m q=>simp only[AV.kill,nb g h,D4,A8,if_false]|swin m q o l=>simp only[AV.kill,nb g h,D4,A8,if_false]|_=>rfl);cases v with|ptr m q=>simp only[AV.kill];split<;>simp|sref m q=>simp only[AV.kill];split<;>simp|swin m q o l=>simp only[AV.kill];split<;>simp|_=>exact .inl rfl
theorem FW.sQ{W us ks:List Nat}(a:∀n∈us,n∈W):FW W (AV.sQ us ks):=by(have g:∀m,(∀k∈[m],k∉W)->us.contains m=false:=fun m h=>by grind);refine⟨fun v h=>?_,fun v=>?_,fun m f=>by simp[AV.sQ]⟩;(cases v with|ptr m q=>simp only[AV.sQ,g m h,A8,if_false]|sref m q=>simp only[AV.sQ,g m h,A8,if_false]|swin m q o l=>simp only[AV.sQ,g m h,A8,if_false]|_=>rfl);cases v with|ptr m q=>(simp only[AV.sQ];split;cases q<;>simp;simp)|sref m q=>simp only[AV.sQ];split;(cases q with|nil=>simp only[];split<;>simp|cons=>simp);simp|swin m q o l=>simp only[AV.sQ];split<;>simp|_=>exact .inl rfl
theorem FP.sv{f:AV->AV}(g:FP f){sv:SV}(h:sv.calm=true):sv.sJ f=sv:=by cases sv with|one v=>simp only[SV.sJ];rw[g.1 v h]|cmp a b=>simp only[SV.sJ];congr 1;refine(B6 fun v k=>g.1 v (a5u (lA.1 h v k))).trans (D6 _)
theorem FP.xF{f:AV->AV}(g:FP f){sv:SV}(h:(sv.sJ f).calm=true):sv.sJ f=sv:=by cases sv with|one v=>(simp only[SV.sJ]at h|-;rw[g.2 v h])|cmp a b=>simp only[SV.sJ]at h|-;congr 1;refine(B6 fun v k=>g.2 v (a5u (lA.1 h _ (E9 k)))).trans (D6 _)
theorem FW.sv{W:List Nat}{f:AV->AV}(g:FW W f){sv:SV}(h:∀n∈sv.refs,n∉W):sv.sJ f=sv:=by cases sv with|one v=>simp only[SV.sJ];rw[g.1 v h]|cmp b c=>simp only[SV.sJ];congr 1;refine(B6 fun v a=>g.1 v fun n k=>h n (E1.2 ⟨v,a,k⟩)).trans (D6 _)
theorem FW.xF{W:List Nat}{f:AV->AV}(a:FW W f){sv:SV}(h:(sv.sJ f).alive=true):sv.sJ f=sv:=by(have one:∀v:AV,(f v).alive=true->f v=v:=fun v k=>by rcases a.2.1 v with g|g;omega;rw[g]at k;cases k);cases sv with|one v=>(simp only[SV.sJ]at h|-;rw[one v h])|cmp b c=>simp only[SV.sJ]at h|-;congr 1;refine(B6 fun v k=>one v (lA.1 h _ (E9 k))).trans (D6 _)
theorem FW.refs{W:List Nat}{f:AV->AV}(a:FW W f){sv:SV}{n:Nat}(h:n∈(sv.sJ f).refs):n∈sv.refs:=by(have one:∀v:AV,n∈(f v).refs->n∈v.refs:=fun v k=>by rcases a.2.1 v with g|g;simp_all;rw[g]at k;cases k);cases sv with|one v=>exact one v h|cmp b c=>simp only[SV.sJ,SV.refs,E1]at h|-;grind
structure xG where
 f:AV->AV
 rt:Nat->Option sP
 sv:SV

 pd:Option (Nat×BJ×Nat):=none
def Pn(W:List Nat)(m:xG)(d:Option Nat)(U:AE):AE:=⟨fun i=>bif d==some i then m.sv else(U.sl i).sJ m.f,fun n=>bif W.contains n then m.rt n else U.rt n,U.pd⟩
def Ih(W:List Nat)(m:xG)(d:Option Nat)(U:AE):AE:={ Pn W m d U with pd:=match m.pd with|none=>U.pd|some x=>some x }
theorem qY{W:List Nat}{m:xG}{d:Option Nat}{U:AE}(h:m.pd=none):Ih W m d U=Pn W m d U:=by simp[Ih,h];rfl
theorem a3M(f g:AV->AV)(sv:SV):(sv.sJ f).sJ g=sv.sJ fun v=>g (f v):=by cases sv with|one v=>rfl|cmp h k=>simp_all[SV.sJ]
theorem RP(sv:SV):sv.sJ id=sv:=by cases sv<;>simp[SV.sJ]
section
variable {g:Bool} {cx:Cx} {o:Oper} {d:Nat} {U:AE} {W:List Nat}
def c4W{Z:Type}(K:AE->Rs Z):AE->Rs Z:=fun U'=>match U'.pd with|none=>K U'|some _=>none
def DA(W T:List Nat)(U U2:AE):Prop:=U2.pd=U.pd/\(∀n∈W,U2.rt n=U.rt n)/\∀t∈T,U2.sl t=U.sl t
theorem DA.refl{T:List Nat}:DA W T U U:=⟨rfl,fun _ _=>rfl,fun _ _=>rfl⟩
theorem DA.sN{U2:AE}(h:DA W (AG o) U U2){x:Operand}(g:x∈o.op.operands.toList):U2.sN x=U.sN x:=by cases x with|tmp t=>simp[AE.sN,AE.get];rw[h.2.2 t (CL g)]|_=>rfl
theorem DA.tL{U2:AE}(h:DA W (AG o) U U2){x:Operand}(g:x∈o.op.operands.toList):U2.tL x=U.tL x:=by cases x with|tmp t=>simp[AE.tL];rw[h.2.2 t (CL g)]|_=>rfl
theorem DA.look{T:List Nat}{U2:AE}(h:DA W T U U2){n:Nat}(g:n∈W):U2.look n=U.look n:=by simp only[AE.look,h.1,h.2.1 n g]
def kC{Z:Type}(W:List Nat)(r:Option xG)(d:Option Nat)(U2:AE)(K:AE->Rs Z):Rs Z:=match r with|none=>none|some m=>K (Ih W m d U2)
def a7a{Z:Type}(g:Bool)(K:AE->Rs Z):AE->Rs Z:=bif g then c4W K else K
def Fo(g:Bool)(cx:Cx)(o:Oper)(d:Option Nat)(U:AE)(W:List Nat):Prop:=∃r:Option xG,(∀m,r=some m->FW W m.f/\(g=true->m.pd=none)/\∀n p d,m.pd=some (n,p,d)->m.f=AV.kill n p/\∀k∈W,a2a (m.rt k)=a2a (U.rt k))/\∀U2,DA W (AG o) U U2->∀{Z:Type}(K:AE->Rs Z),Bc cx false o U2 (a7a g K)=kC W r d U2 K
theorem Fo.none{d:Option Nat}(h:∀U2,DA W (AG o) U U2->∀{Z:Type}(K:AE->Rs Z),Bc cx false o U2 (a7a g K)=none):Fo g cx o d U W:=⟨.none,by simp,fun U2 f Z K=>h U2 f K⟩
theorem Fo.some{d:Option Nat}(f:AV->AV)(b:FW W f)(sv:SV)(S:List Nat)(e:∀n∈S,n∈W)(k:Nat->Option sP) (h:∀U2,DA W (AG o) U U2->∀{Z:Type}(K:AE->Rs Z),Bc cx false o U2 (a7a g K)=K ⟨fun i=>bif d==some i then sv else(U2.sl i).sJ f,fun n=>bif S.contains n then k n else U2.rt n,U2.pd⟩):Fo g cx o d U W:=by refine⟨.some ⟨f,fun n=>bif S.contains n then k n else U.rt n,sv,.none⟩,fun m c=>by cases c;exact⟨b,fun _=>rfl,fun n p d h=>by cases h⟩,fun U2 a Z K=>?_⟩;rw[h U2 a K];simp only[kC,Ih,Pn];congr 2;funext n;cases hs:S.contains n with|true=>simp_all|false=>cases hw:W.contains n with|true=>simp;exact a.2.1 n (D1.1 hw)|false=>rfl
theorem b1k{d:Option Nat}(f:Nat×BJ×Nat)(j:FW W (AV.kill f.1 f.2.1))(sv:SV)(S:List Nat)(r:∀n∈S,n∈W)(a:Nat->Option sP)(b:∀n∈S,a2a (a n)=a2a (U.rt n))(l:g=false) (h:∀U2,DA W (AG o) U U2->∀{Z:Type}(K:AE->Rs Z),Bc cx false o U2 (a7a g K)=K ⟨fun i=>bif d==some i then sv else(U2.sl i).sJ (AV.kill f.1 f.2.1),fun n=>bif S.contains n then a n else U2.rt n,.some f⟩):Fo g cx o d U W:=by refine⟨.some ⟨AV.kill f.1 f.2.1,fun n=>bif S.contains n then a n else U.rt n,sv,.some f⟩,fun m q=>by cases q;refine⟨j,fun e=>(by rw[l]at e;cases e),fun n p d e=>?_⟩;cases e;refine⟨rfl,fun k _=>?_⟩;cases hs:S.contains k with|true=>simp only[hs,cT];exact b k (D1.1 hs)|false=>simp only[hs,cF],fun U2 c Z K=>?_⟩;rw[h U2 c K];simp only[kC,Ih,Pn];congr 2;funext n;cases hs:S.contains n with|true=>simp_all|false=>cases hw:W.contains n with|true=>simp;exact c.2.1 n (D1.1 hw)|false=>rfl
theorem RQ{Z:Type}{K:AE->Rs Z}{f:AE}(h:f.pd=none):a7a g K f=K f:=by cases g<;>simp only[a7a,c4W,h,cT,cF]
theorem De(n m:Nat):[m].contains n=(n==m):=by grind
theorem b3h{Z:Type}{U2:AE}(h:U2.pd=none)(r:sP)(v:AV)(K:AE->Rs Z):(U2.fresh false d r fun U=>K (U.set d v)) =bif A3 (d<pinned)then K ⟨fun i=>bif some d==some i then .one v else(U2.sl i).sJ (match U2.rt d with|none=>id|some _=>AV.drop d),fun n=>bif [d].contains n then some r else U2.rt n,U2.pd⟩else none:=by(have g:∀i,(some d==some i)=(i==d):=fun i=>by grind);unfold AE.fresh;cases A3 (d<pinned);rfl;simp only[cT];cases hr:U2.rt d with|none=>simp only[AE.uM,hr];congr 1;simp only[AE.set,AE.put,AE.sI,De,g];simp_all[RP]|some f=>simp only[cF,AE.look,h,hr,AE.uM];congr 1;simp only[AE.set,AE.put,AE.sI,De,g,AE.sJ,h]
theorem gT(b:U.pd=none)(y:d∈W){e:Ty}{x:AV}(z:∀n∈x.refs,n∈W){ys:Option (List e.sK)}(h:∀U2,DA W (AG o) U U2->∀{Z:Type}(K:AE->Rs Z),Bc cx false o U2 K=ys.elim none fun ys=>U2.uI false d e x ys K):Fo g cx o (some d) U W:=by
 have v:∀i,(some d==some i)=(i==d):=fun i=>by
  grind
 cases ys with
 |none=>simp_all[Fo.none]
 |some ys=>
  have h:∀U2,DA W (AG o) U U2->∀{Z:Type}(K:AE->Rs Z),Bc cx false o U2 K=U2.uI false d e x ys K:=h;have B:(x=.nils\/x=.empt)->Fo g cx o (some d) U W:=fun D=>by
   have h:∀U2,DA W (AG o) U U2->∀{Z:Type}(K:AE->Rs Z),Bc cx false o U2 K=bif AZ ys.length then U2.fresh false d ⟨false,.list true e,ys⟩ fun U=>K (U.set d (.sref d []))else none:=fun U2 f Z K=>by
    rw[h U2 f];rcases D with rfl|rfl<;>rfl
   cases hl:AZ ys.length with
   |false=>simp_all[Fo.none]
   |true=>
    cases hd':A3 (d<pinned)with
    |false=>exact Fo.none fun U2 f Z K=>by rw[h U2 f,hl];simp;rw[b3h (f.1.trans b),hd'];rfl
    |true=>
     refine Fo.some (match U.rt d with|.none=>id|.some _=>AV.drop d) ?_ (.one (.sref d [])) [d] (by simp_all) (fun _=>.some ⟨false,.list true e,ys⟩) fun U2 f Z K=>?_
     grind[FW.id,FW.drop];rw[h U2 f,hl];simp only[cT];rw[b3h (f.1.trans b),hd',f.2.1 d y];simp only[cT];exact RQ (f.1.trans b)
  cases x with
  |nils=>simp_all
  |empt=>simp_all
  |sref n p=>
   have j:n∈W:=z n (by simp[AV.refs]);have c:∀U2,DA W (AG o) U U2->U2.look n=U.rt n:=fun U2 f=>by rw[f.look j];simp only[AE.look,b]
   cases hr:U.rt n with
   |none=>
    simp_all[Fo.none,AE.uI]
   |some r=>
    cases hg:Dc r.t r.x p with
    |mk G l=>
     cases G with
     |list E A=>
      cases E with
      |false=>
       simp_all[Fo.none,AE.uI]
      |true=>
       by_cases he:e=A
       ·subst he;cases hl:AZ (B7 l+ys.length)with
        |false=>
         simp_all[Fo.none,AE.uI]
        |true=>
         by_cases hp:p=[]/\r.bx=false
         ·obtain⟨rfl,w⟩:=hp;cases hnp:A3 (n<pinned)with
          |false=>simp_all[Fo.none,AE.uI]
          |true=>
          refine Fo.some (AV.kill n []) (FW.kill j []) (.one (.sref n [])) [n] (by simp_all) (fun _=>.some ⟨r.bx,r.t,Fp r.t r.x [] (.list true e) (E4 l ys)⟩) fun U2 f Z K=>?_
          rw[h U2 f];simp only[AE.uI,cF,c U2 f,hr,hg,dite_true,hl,cT,w,hnp];rw[RQ (by exact f.1.trans b)];congr 1;simp only[AE.set,AE.put,AE.sI,AE.sJ,De,v]
         ·cases hgg:g with
          |true=>
           refine Fo.none fun U2 f Z K=>?_
           rw[h U2 f];simp[AE.uI,c U2 f,hr,hg,hl];cases p with
           |nil=>
            cases hb:r.bx with
            |false=>simp_all
            |true=>simp[f.1,b];rfl
           |cons a F=>simp[f.1,b];rfl
          |false=>
           refine b1k (n,p,d) (FW.kill j p) (.one (.sref n p)) [n] (by simpa using j) (fun _=>.some ⟨r.bx,r.t,Fp r.t r.x p (.list true e) (E4 l ys)⟩) (fun k C=>by
            have:k=n:=by simpa using C
            subst this;rw[hr];rfl) rfl fun U2 f Z K=>?_
           rw[h U2 f];simp only[AE.uI,cF,c U2 f,hr,hg,dite_true,hl,cT];have m:∀(q u:AE),q=u->a7a false K q=K u:=fun q u e=>by rw[e];rfl
           cases p with
           |nil=>
            cases hb:r.bx with
            |false=>simp_all
            |true=>
             simp only[f.1,b];refine m _ _ ?_
             simp only[AE.set,AE.put,AE.sI,AE.sJ,De,v]
           |cons a F=>
            simp only[f.1,b];refine m _ _ ?_
            simp only[AE.set,AE.put,AE.sI,AE.sJ,De,v]
       simp_all[Fo.none,AE.uI]
     |_=>
      exact Fo.none fun U2 f Z K=>by
        rw[h U2 f];simp only[AE.uI,cF,c U2 f,hr,hg]
  |_=>exact Fo.none fun U2 f Z K=>by rw[h U2 f];rfl
theorem c1X{Z:Type}(U:AE)(t:Ty)(a:AV)(hv:a.sU=[])(K:t.sK->AE->Rs Z):U.uT false t a K=(TR t a).elim none fun x=>K x U:=by cases a with|val h x=>grind[AE.uT,TR]|nils=>(cases t with|list o e=>(cases o<;>rfl)|_=>rfl)|empt=>(cases t with|list o e=>(cases o<;>rfl)|_=>rfl)|sref n p=>(cases hv)|swin n p o k=>(cases hv)|_=>rfl
def WQ(fz:Bool)(lk:Nat->Option sP)(used seen:List Nat):(p:PA)->AV->Option (p.ty.sK×List Nat×List Nat)|.v t,a=>(bif a.sU.any fun n=>used.contains n then none else bif fz then(TR t a).map fun x=>(x,used,seen)else(VI lk t a).map fun x=>(x,used,a.sU++seen))|.r c (.b t),.ptr n []=>(if c || used.contains n || seen.contains n then none else match lk n with|some ⟨true,t',x⟩=>if h:t'=t then some (h▸x,n::used,seen)else none|_=>none)|.r c (.o e),.sref n []=>(if(c&&A3 (pinned<=n)) || used.contains n || seen.contains n then none else match lk n with|some ⟨bx,.list true e',x⟩=>if h:e'=e then(bif bx&&c then none else some (h▸x,n::used,seen))else none|_=>none)|.r _ _,_=>none
theorem kD{Z:Type}(U:AE)(fz:Bool)(used seen:List Nat)(p:PA)(a:AV)(hv:fz=false\/a.sU=[])(K:p.ty.sK->AE->List Nat->List Nat->Rs Z):U.arg fz false used seen p a K=(WQ fz U.look used seen p a).elim none fun y=>K y.1 U y.2.1 y.2.2:=by cases p with|v t=>(simp only[AE.arg,WQ];cases (a.sU.any fun n=>used.contains n);simp;(cases fz with|true=>(simp;rw[c1X U t a (hv.resolve_left (by simp))];cases TR t a<;>rfl)|false=>simp;rw[b6L];cases VI U.look t a<;>rfl);rfl)|r c b=>cases b with|v t=>rfl|b t=>(cases a with|ptr n p=>(cases p with|nil=>simp only[AE.arg,WQ,Bool.or_false];grind|cons=>rfl)|_=>rfl)|o e=>cases a with|sref n p=>(cases p with|nil=>simp only[AE.arg,WQ,Bool.or_false];grind|cons=>rfl)|_=>rfl
def AE.uK(U:AE)(fz:Bool)(used seen:List Nat)(ps:List PA)(as:List AV):Option ((DG (ps.map PA.ty)).sK×List Nat):=U.args fz false used seen ps as fun x _ u=>some (x,u)
theorem wB(U:AE)(fz:Bool)(f:List PA):∀{Z:Type}(as:List AV)(used seen:List Nat)(K:(DG (f.map PA.ty)).sK->AE->List Nat->Rs Z),(fz=false\/∀a∈as,a.sU=[])->U.args fz false used seen f as K=(U.uK fz used seen f as).elim none fun x=>K x.1 U x.2:=by induction f with|nil=>(intro Z as used seen K hv;cases as<;>rfl)|cons p f b=>intro Z as used seen K hv;cases as with|nil=>(cases f<;>rfl)|cons a as=>have g:fz=false\/a.sU=[]:=hv.imp id fun h=>h a (by simp);have k:fz=false\/∀a∈as,a.sU=[]:=hv.imp id fun h c e=>h c (by grind);cases f with|nil=>(cases as with|nil=>(simp[AE.uK,AE.args];rw[kD (hv:=g),kD (hv:=g)];cases WQ fz U.look used seen p a<;>rfl)|cons=>rfl)|cons d f=>simp[AE.uK,AE.args];rw[kD (hv:=g),kD (hv:=g)];cases WQ fz U.look used seen p a with|none=>rfl|some x=>simp[D0];rw[b as _ _ _ k,b as _ _ _ k];cases U.uK fz x.2.1 x.2.2 (d::f) as<;>rfl
theorem b1l{f g:Nat->Option sP}{fz:Bool}{used seen:List Nat}{p:PA}{a:AV}(h:∀n∈a.refs,g n=f n):WQ fz g used seen p a=WQ fz f used seen p a:=by cases p with|v t=>simp_all[WQ,jX]|r c b=>cases b with|v t=>rfl|b t=>(cases a with|ptr n q=>(cases q<;>simp only[WQ,h n (by simp[AV.refs])])|_=>rfl)|o e=>cases a with|sref n q=>(cases q<;>simp only[WQ,h n (by simp[AV.refs])])|_=>rfl
theorem a3N{f:Nat->Option sP}{fz:Bool}{used seen:List Nat}{p:PA}{a:AV}{x}(h:WQ fz f used seen p a=some x):∀n∈x.2.1,n∈used\/n∈a.refs:=by
 intro n g;cases p with
 |v t=>
  simp only[WQ]at h;obtain⟨-,h⟩:=(Ai h).elim (fun h=>by grind) id;cases fz with
  |true=>
   simp at h;cases ha:TR t a with
   |none=>rw[ha]at h;cases h
   |some y=>rw[ha]at h;cases h;simp_all
  |false=>
   simp at h;cases ha:VI f t a with
   |none=>rw[ha]at h;cases h
   |some y=>rw[ha]at h;cases h;simp_all
 |r c b=>
  cases b with
  |v t=>cases a<;>cases h
  |b t=>
   cases a with
   |ptr m q=>
    cases q with
    |nil=>
     simp only[WQ]at h;split at h;grind
     ·split at h
      ·split at h
       ·cases h;rcases mC.1 g with rfl|g;all_goals simp_all[AV.refs]
       simp_all
      simp_all
    |cons=>cases h
   |_=>cases h
  |o e=>
   cases a with
   |sref m q=>
    cases q with
    |nil=>
     simp only[WQ]at h;split at h;grind
     ·split at h
      ·split at h
       ·obtain⟨-,h⟩:=(Ai h).elim (fun h=>by grind) id;cases h;rcases mC.1 g with rfl|g;all_goals simp_all[AV.refs]
       simp_all
      simp_all
    |cons=>cases h
   |_=>cases h
theorem a7G{U U2:AE}(fz:Bool)(g:List PA):∀(as:List AV)(used seen:List Nat),(∀a∈as,∀n∈a.refs,U2.look n=U.look n)->(fz=false\/∀a∈as,a.sU=[])->U2.uK fz used seen g as=U.uK fz used seen g as:=by
 induction g with
 |nil=>intro as used seen k f;cases as<;>rfl
 |cons p g j=>
  intro as used seen k f;cases as with
  |nil=>cases g<;>rfl
  |cons a as=>
   have d:fz=false\/a.sU=[]:=f.imp id fun h=>h a (by simp);have e:fz=false\/∀a∈as,a.sU=[]:=f.imp id fun h b i=>h b (by grind);have c:=b1l (fz:=fz) (used:=used) (seen:=seen) (p:=p) (k a (by simp));cases g with
   |nil=>
    cases as with
    |nil=>
     simp_all[AE.uK,AE.args,kD]
    |cons=>rfl
   |cons l g=>
    simp[AE.uK,AE.args];grind[kD,wB]
where
 wB {U:AE} {fz:Bool} {g:List PA} {Z:Type} {as:List AV} {used seen:List Nat} {K:(DG (g.map PA.ty)).sK->AE->List Nat->Rs Z} (f:fz=false\/∀a∈as,a.sU=[]):=Go.Ab.wB U fz g as used seen K f
theorem b1m{U:AE}(fz:Bool)(g:List PA):∀(as:List AV)(used seen:List Nat)(x),(fz=false\/∀a∈as,a.sU=[])->U.uK fz used seen g as=some x->∀n∈x.2,n∈used\/∃a∈as,n∈a.refs:=by induction g with|nil=>(intro as used seen x hv h n b;cases as with|nil=>(cases h;simp_all)|cons=>cases h)|cons p g i=>intro as used seen x hv h n b;cases as with|nil=>(cases g<;>cases h)|cons a as=>have f:fz=false\/a.sU=[]:=hv.imp id fun h=>h a (by simp);have k:fz=false\/∀a∈as,a.sU=[]:=hv.imp id fun h c j=>h c (by grind);cases g with|nil=>(cases as with|nil=>(simp[AE.uK,AE.args]at h;rw[kD (hv:=f)]at h;cases hx:WQ fz U.look used seen p a with|none=>simp_all|some y=>rw[hx]at h;cases h;exact(a3N hx n b).imp id fun h=>⟨a,by simp,h⟩)|cons=>cases h)|cons d g=>simp[AE.uK,AE.args]at h;rw[kD (hv:=f)]at h;cases hx:WQ fz U.look used seen p a with|none=>simp_all|some y=>rw[hx]at h;simp at h;rw[wB U fz (d::g) as _ _ _ k]at h;cases hr:U.uK fz y.2.1 y.2.2 (d::g) as with|none=>simp_all|some u=>rw[hr]at h;cases h;rcases i as _ _ u k hr n b with h|⟨c,e,h⟩;exact(a3N hx n h).imp id fun h=>⟨a,by simp,h⟩;grind
def RR:List Nat->(Nat->Option sP)->AV->AV|[],_=>id|n::r,rt=>match rt n with|none=>RR r rt|some _=>fun v=>RR r (fun j=>bif j==n then none else rt j) (AV.drop n v)
theorem kE:∀(ns:List Nat){rt g:Nat->Option sP},(∀n∈ns,g n=rt n)->RR ns g=RR ns rt|[],_,_,_=>rfl|n::r,rt,g,h=>by simp_all[RR,kE]
theorem qZ:∀(ns:List Nat)(rt:Nat->Option sP),(∀n∈ns,n∈W/\n<pinned)->FW W (RR ns rt)|[],rt,_=>FW.id|n::r,rt,h=>by simp only[RR];cases rt n with|none=>(exact qZ r rt fun m g=>h m (by simp[g]))|some x=>(have:=qZ r (fun j=>bif j==n then none else rt j) fun m g=>h m (by simp[g]));exact(FW.drop (h n (by simp)).1 (h n (by simp)).2).comp this this.dead
theorem gU{m n:Nat}{r:List Nat}(h:¬ m=n):(n::r).contains m=r.contains m:=by simp_all
theorem gV{Z:Type}(us:List Nat):∀(ns:List Nat)(U:AE)(K:AE->Rs Z),U.tY false us ns K =bif ns.all fun n=>A3 (n<pinned)&&!us.contains n then K ⟨fun i=>(U.sl i).sJ (RR ns U.rt),fun n=>bif ns.contains n then none else U.rt n,U.pd⟩else none|[],U,K=>by simp_all[AE.tY,RR,RP]|n::r,U,K=>by simp only[AE.tY,C4];cases (A3 (n<pinned)&&!us.contains n);rfl;simp only[cT,Bool.true_and];cases hr:U.rt n with|none=>(simp only[RR,hr];rw[gV us r U K];congr 2;congr 1;funext m;by_cases e:m=n;subst e;simp[hr];rw[gU e])|some x=>simp only[cF,RR,hr];rw[gV us r];simp only[AE.sI,AE.sJ,a3M];grind
theorem ON:∀(g:List RA)(b n:Nat),n∈Dj g b->n∈BA g b|[],_,_,h=>h|.v _::g,b,n,h=>A9 _ (ON g _ n h)|.o _::g,b,n,h=>(by rcases mC.1 h with rfl|h;exact C2;exact A9 _ (ON g _ n h))|.b _::g,b,n,h=>by rcases mC.1 h with rfl|h;exact C2;exact A9 _ (ON g _ n h)
theorem rA{x:Operand}(a:x∈o.op.operands.toList){n:Nat}(k:n∈(U.sN x).refs):n∈U.vU o:=by refine E1.2 ⟨x,a,?_⟩;cases x with|tmp t=>(simp[AE.sN,AE.get]at k;show n∈(U.sl t).refs;revert k;cases U.sl t with|one v=>exact id|cmp c b=>exact fun h=>by cases h)|const v=>(simp[AE.sN]at k;unfold Ya at k;split at k<;>cases k)|global g=>(cases k)|func f=>cases k
theorem b4C{d:Option Nat}{c:Call}{f:FuncId}{s:sG}(Y:o.op=.call c)(hb:c.callee=.value (.func f))(hd:o.dst=d)(B:U.pd=none)(hs:cx.C f=some s)(L:∀n∈U.vU o,n∈W)(M:∀n∈LJ cx o (d.getD 0),n∈W)
    (hv:(s.rs.any RA.sS || (KT s.ps).any RA.sS)=false\/∀a∈c.args.toList.map U.sN,a.sU=[]):Fo g cx o d U W:=by
  let I:=s.rs.any RA.sS || (KT s.ps).any RA.sS
  let b:=d.getD 0+1000
  let l:=Dj s.rs b
  have X:∀j,DA W (AG o) U j->c.args.toList.map j.sN=c.args.toList.map U.sN:=fun j q=>B6 fun x A=>q.sN (RO Y x A);have z:∀a∈c.args.toList.map U.sN,∀n∈a.refs,n∈W:=fun a E n m=>by
    obtain⟨x,A,rfl⟩:=C1.1 E;exact L n (rA (RO Y x A) m)
  have D:∀n∈BA s.rs b,n∈W:=fun n m=>M n (by grind[LJ]);have w:∀n∈l,n∈W:=fun n m=>D n (ON _ _ n m);have S:∀j,DA W (AG o) U j->∀{Z:Type}(K:AE->Rs Z),Bc cx false o j (a7a g K)=(U.uK I [] [] s.ps (c.args.toList.map U.sN)).elim none fun x=>
      bif l.all (fun n=>A3 (n<pinned)&&!x.2.contains n)then(s.F x.1).bind fun y=>
        (let G:AE:=⟨fun i=>((j.sl i).sJ (RR l U.rt)).sJ (AV.sQ x.2 ((YO s.ps x.2.reverse).filter fun n=>!a7e (bif l.contains n then none else j.rt n))),fun n=>match CJ (BA s.rs b++x.2.reverse) (EJ (RA.all s.ps s.rs) y) n with
          |some r=>some (bif x.2.contains n then Wo (bif l.contains n then none else j.rt n) r else r)
          |none=>bif l.contains n then none else j.rt n,none⟩
         match d with
          |none=>a7a g K G
          |some d=>match La (BA s.rs b) (EJ (RA.all s.ps s.rs) y)with
            | [v]=>a7a g K (G.set d v)
            |vs=>a7a g K (G.put d (.cmp .tup vs)))else none:=fun j q Z K=>by
    have H:Bc cx false o j (a7a g K)=j.call false d s (c.args.toList.map U.sN) (a7a g K):=by
      grind[Bc]
    rw[H];unfold AE.call;rw[show j.pd=none from q.1.trans B];simp only[];rw[wB _ _ _ _ _ _ _ hv,a7G _ _ _ _ _ (fun a E n m=>q.look (z a E n m)) hv];cases U.uK (s.rs.any RA.sS || (KT s.ps).any RA.sS) [] [] s.ps (c.args.toList.map U.sN)with
    |none=>rfl
    |some x=>
      simp only[D0];rw[gV,kE _ fun n m=>q.2.1 n (w n m)];cases d<;>rfl
  cases A:U.uK I [] [] s.ps (c.args.toList.map U.sN)with
  |none=>simp_all[Fo.none]
  |some x=>
    cases m:(l.all fun n=>A3 (n<pinned)&&!x.2.contains n)with
    |false=>exact Fo.none fun j q Z K=>by grind
    |true=>
      cases hy:s.F x.1 with
      |none=>simp_all[Fo.none]
      |some y=>
        let p:=EJ (RA.all s.ps s.rs) y
        let u:=BA s.rs b
        let T:SV:=match La u p with
          | [v]=>.one v
          |vs=>.cmp .tup vs
        have t:∀n∈x.2,n∈W:=fun n m=>by
          rcases b1m I s.ps _ _ _ x hv A n m with h|⟨a,E,h⟩;all_goals grind
        have N:=qZ l U.rt fun n P=>⟨w n P,by
          simp_all⟩
        have O:∀j,DA W (AG o) U j->((YO s.ps x.2.reverse).filter fun n=>!a7e (bif l.contains n then none else j.rt n))=(YO s.ps x.2.reverse).filter fun n=>!a7e (bif l.contains n then none else U.rt n):=fun j q=>
          F4 fun n m=>by
            obtain⟨k,i,e,h1,-⟩:=oY s.ps x.2.reverse 0 n m;rw[q.2.1 n (t n (List.mem_reverse.1 (D2 h1)))]
        refine Fo.some (fun v=>AV.sQ x.2 ((YO s.ps x.2.reverse).filter fun n=>!a7e (bif l.contains n then none else U.rt n)) (RR l U.rt v)) (N.comp (FW.sQ t)) T ((u++x.2.reverse)++l) (fun n m=>?_) (fun n=>match CJ (u++x.2.reverse) p n with
          |some r=>some (bif x.2.contains n then Wo (bif l.contains n then none else U.rt n) r else r)
          |none=>bif l.contains n then none else U.rt n) fun j q Z K=>?_
        grind;rw[S j q,A];simp only[D0,m,cT,hy,oB];have R:(fun n=>match CJ (u++x.2.reverse) p n with
            |some r=>some (bif x.2.contains n then Wo (bif l.contains n then none else j.rt n) r else r)
            |none=>bif l.contains n then none else j.rt n)=fun n=>bif ((u++x.2.reverse)++l).contains n then(match CJ (u++x.2.reverse) p n with
            |some r=>some (bif x.2.contains n then Wo (bif l.contains n then none else U.rt n) r else r)
            |none=>bif l.contains n then none else U.rt n)else j.rt n:=by
          funext n;cases hS:((u++x.2.reverse)++l).contains n with
          |true=>
            have Q:n∈W:=by
              grind
            rw[q.2.1 n Q];rfl
          |false=>
            grind[QC]
        have hΓ:∀V:SV,(⟨fun i=>bif d==some i then V else((j.sl i).sJ (RR l U.rt)).sJ (AV.sQ x.2 ((YO s.ps x.2.reverse).filter fun n=>!a7e (bif l.contains n then none else j.rt n))),fun n=>match CJ (BA s.rs b++x.2.reverse) (EJ (RA.all s.ps s.rs) y) n with
            |some r=>some (bif x.2.contains n then Wo (bif l.contains n then none else j.rt n) r else r)
            |none=>bif l.contains n then none else j.rt n,none⟩:AE)=⟨fun i=>bif d==some i then V else(j.sl i).sJ (fun v=>AV.sQ x.2 ((YO s.ps x.2.reverse).filter fun n=>!a7e (bif l.contains n then none else U.rt n)) (RR l U.rt v)),fun n=>bif ((u++x.2.reverse)++l).contains n then(match CJ (u++x.2.reverse) p n with
            |some r=>some (bif x.2.contains n then Wo (bif l.contains n then none else U.rt n) r else r)
            |none=>bif l.contains n then none else U.rt n)else j.rt n,j.pd⟩:=fun V=>by
          rw[O j q];rw[<-R,q.1,B];congr 1;simp_all[a3M]
        rw[<-hΓ T];cases d with
        |none=>
          rw[RQ rfl];rfl
        |some d=>
          have H:∀i,(some d==some i)=(i==d):=fun i=>by
            grind
          simp only[H,AE.set,AE.put,T];show(match La u p with
            | [v]=>a7a g K _
            |vs=>a7a g K _)=_
          generalize La u p=vs;split<;>exact RQ rfl
theorem a7H{c:Call}(A:o.op=.call c)(hb:c.callee=.builtin .append)(E:o.dst=some d)(p:U.pd=none)(v:∀n∈U.vU o,n∈W)(m:d∈W)(i:gH cx c.argTypes.toList=false):Fo g cx o (some d) U W:=by
 have j:∀f,DA W (AG o) U f->∀{Z:Type}(K:AE->Rs Z),Bc cx false o f K=f.uP false cx d .append c.argTypes.toList (c.args.toList.map U.sN) K:=fun f l Z K=>by simp[Bc,A,E,hb];rw[B6 fun x B=>l.sN (RO A x B)]
 have k:∀a∈c.args.toList.map U.sN,∀n∈a.refs,n∈W:=fun a D n z=>by obtain⟨x,B,rfl⟩:=C1.1 D;exact v n (rA (RO A x B) z)
 revert j k i;generalize c.args.toList.map U.sN=as;generalize c.argTypes.toList=ts;intro i j k;have u:(∀(f:AE){Z:Type}(K:AE->Rs Z),f.uP false cx d .append ts as K=none)->Fo g cx o (some d) U W:=fun h=>Fo.none fun f l Z K=>by simp_all
 match as with|[]=>(exact u fun f Z K=>rfl)|[_]=>(exact u fun f Z K=>rfl)|_::_::_::_=>(exact u fun f Z K=>rfl)|[a,b]=>have r:∀n∈a.refs,n∈W:=k a (by simp);have C:∀n∈b.refs,n∈W:=k b (by simp);cases hni:pT cx ts with|false=>(cases hzl:b6r cx ts a b with|none=>(exact u fun f Z K=>by simp only[AE.uP,hni,cI,hzl,cF])|some w=>have⟨e,ys⟩:=w;exact gT p m (e:=e) (x:=.nils) (by simp[AV.refs]) (ys:=some ys) fun f l Z K=>by rw[j f l];simp only[AE.uP,hni,cI,hzl,cF];rfl)|true=>cases ht:ts.head?.bind cx.T with|none=>simp_all[AE.uP]|some τ=>cases τ with|list F e=>((have i:e.isList=false:=by simp_all[gH]);(have q:(∀(f:AE){Z:Type}(K:AE->Rs Z),f.uP false cx d .append ts [a,b] K=f.elems e b fun ys=>f.uI false d e a ys K)->Fo g cx o (some d) U W:=fun h=>gT p m (e:=e) (x:=a) r (ys:=RN U.look e b) fun f l Z K=>by rw[j f l,h,cR,UW fun n z=>l.look (C n z)]);cases b with|val t y=>(cases t with|str=>(by_cases he:e=.int .u8;subst he;exact gT p m (e:=.int .u8) (x:=a) r (ys:=some y) fun f l Z K=>by rw[j f l];simp only[AE.uP,hni,ht,cT];rfl);simp_all[AE.uP]|_=>exact q fun f Z K=>by simp only[AE.uP,hni,ht,cT,i,G3,Bool.or_true])|_=>exact q fun f Z K=>by simp only[AE.uP,hni,ht,cT,i,G3,Bool.or_true])|_=>exact u fun f Z K=>by simp only[AE.uP,hni,ht,cT]
theorem rB{d:Option Nat}(U:AE):U.uG d .dead=⟨fun i=>bif d==some i then .one .dead else U.sl i,U.rt,U.pd⟩:=by cases d with|none=>rfl|some d=>simp only[AE.uG,AE.set,AE.put];grind
theorem b4D{d:Option Nat}(a:U.pd=none){t:Ty}{n:Nat}{p:BJ}{x:AV}(b:n∈W)(hv:x.sU=[])(h:∀U2,DA W (AG o) U U2->∀{Z:Type}(K:AE->Rs Z),Bc cx false o U2 K=U2.vK t n p x fun U=>K (U.uG d .dead)):Fo g cx o d U W:=by
 have c:∀U2,DA W (AG o) U U2->U2.rt n=U.rt n:=fun U2 f=>f.2.1 n b;have A:∀U2,DA W (AG o) U U2->U2.look n=U.rt n:=fun U2 f=>by rw[f.look b];simp only[AE.look,a]
 cases hr:U.rt n with
 |none=>simp_all[Fo.none,AE.vK]
 |some r=>
  have i:∀k y,Dc r.t r.x p=⟨k,y⟩->(∀e,k≠.list true e)->Fo g cx o d U W:=fun k y w H=>by
   have B:∀U2,DA W (AG o) U U2->∀{Z:Type}(K:AE->Rs Z),Bc cx false o U2 K=if k.tO=k/\k.sh=t then(TR k x).elim none fun y=>K ((U2.sI n (some ⟨r.bx,r.t,Fp r.t r.x p k y⟩)).uG d .dead)else U2.wV t n r x (fun U=>K (U.uG d .dead)) p:=fun U2 f Z K=>by
    rw[h U2 f];unfold AE.vK;rw[c U2 f,hr];simp[w];have F:(if k.tO=k/\k.sh=t then U2.uT false k x fun y E=>(match E.look n with
      |some r=>if(Dc r.t r.x p).1=k then K ((E.sI n (some ⟨r.bx,r.t,Fp r.t r.x p k y⟩)).uG d .dead)else none
      |none=>none)else U2.wV t n r x (fun U=>K (U.uG d .dead)) p)=if k.tO=k/\k.sh=t then(TR k x).elim none fun y=>K ((U2.sI n (some ⟨r.bx,r.t,Fp r.t r.x p k y⟩)).uG d .dead)else U2.wV t n r x (fun U=>K (U.uG d .dead)) p:=by
     simp_all[c1X]
    grind
   by_cases hc:k.tO=k/\k.sh=t
   ·cases ha:TR k x with
    |none=>simp_all[Fo.none]
    |some y=>
     refine Fo.some id FW.id (.one .dead) [n] (by simp_all) (fun _=>some ⟨r.bx,r.t,Fp r.t r.x p k y⟩) fun U2 f Z K=>?_
     rw[B U2 f,if_pos hc,ha];simp only[D0];rw[rB,RQ (by exact f.1.trans a)];congr 1;simp only[AE.sI,De,RP]
   ·cases p with
    |cons s p=>exact Fo.none fun U2 f Z K=>by rw[B U2 f,if_neg hc];rfl
    |nil=>
     have D:(∀U2,DA W (AG o) U U2->∀{Z:Type}(K:AE->Rs Z),U2.over t n r x K=none)->Fo g cx o d U W:=fun v=>Fo.none fun U2 f Z K=>by
      rw[B U2 f,if_neg hc];exact v U2 f (fun U=>a7a g K (U.uG d .dead))
     have j:∀(C:Ty)(z:C.sK),(∀U2,DA W (AG o) U U2->∀{Z:Type}(K:AE->Rs Z),U2.over t n r x K=K ((U2.sJ (AV.sQ [n] [])).sI n (some ⟨true,C,z⟩)))->Fo g cx o d U W:=fun C z v=>by
      refine Fo.some (AV.sQ [n] []) (FW.sQ (by simp_all)) (.one .dead) [n] (by simp_all) (fun _=>some ⟨true,C,z⟩) fun U2 f Z K=>?_
      rw[B U2 f,if_neg hc];simp only[AE.wV];rw[v U2 f,rB,RQ (by exact f.1.trans a)];congr 1;simp only[AE.sI,AE.sJ,De]
     have G:∀U2,DA W (AG o) U U2->U2.look n=some r:=fun U2 f=>(A U2 f).trans hr;cases x with
     |val u y=>
      by_cases hcc:r.bx=true/\(r.t.sh=t/\(u.tO=u/\u.sh=t))
      ·cases h1:tF u r.t y with
       |some z=>exact j r.t z fun U2 f Z K=>by simp_all[AE.over]
       |none=>
        cases v:tF u r.t.tO y with
        |some z=>exact j r.t.tO z fun U2 f Z K=>by simp_all[AE.over]
        |none=>exact j u y fun U2 f Z K=>by simp_all[AE.over]
      simp_all[AE.over]
     |_=>exact D fun U2 f Z K=>rfl
  cases w:Dc r.t r.x p with
  |mk k l=>
   cases k with
   |list I e=>
    cases I with
    |false=>simp_all
    |true=>
     by_cases hty:t.isList=true
     ·have D:(∀U2,DA W (AG o) U U2->∀{Z:Type}(K:AE->Rs Z),U2.vK t n p x K=none)->Fo g cx o d U W:=fun v=>Fo.none fun U2 f Z K=>by simp_all
      cases x with
      |nils=>
       refine Fo.some (AV.kill n p) (FW.kill b p) (.one .dead) [n] (by simp_all) (fun _=>some ⟨r.bx,r.t,Fp r.t r.x p (.list true e) []⟩) fun U2 f Z K=>?_
       rw[h U2 f];simp only[AE.vK,c U2 f,hr,w,hty,if_true,A U2 f];rw[rB,RQ (by exact f.1.trans a)];congr 1;simp only[AE.sI,AE.sJ,De]
      |sref m q=>cases hv
      |_=>exact D fun U2 f Z K=>by simp only[AE.vK,c U2 f,hr,w,hty,if_true]
     simp_all[Fo.none,AE.vK]
   |_=>exact i _ l w (by simp)
theorem gX{U2:AE}(g:DA W (AG o) U U2):c1S cx o U2=c1S cx o U:=by
 unfold c1S;cases ho:o.op<;>try rfl
 case store t a x=>
  simp
  rw[g.sN (by simp_all[Op.operands]),g.tL (by simp_all[Op.operands])]
 rename_i c;simp only[];cases hc:c.callee with
 |value v=>
  cases v with
  |func f=>
   simp only[];cases cx.C f with
   |none=>rfl
   |some s=>
    simp only[];congr 1
    have:∀x∈c.args.toList,(U2.sN x).sU.isEmpty=(U.sN x).sU.isEmpty:=fun x k=>by rw[g.sN (RO ho x k)]
    grind
  |_=>rfl
 |builtin b=>grind
 |invoke r n=>rfl
where
 all_congr' {α:Type} {l:List α} {p q:α->Bool} (h:∀x∈l,p x=q x):l.all p=l.all q:=by
  grind
theorem ZN{U2:AE}(g:∀t∈AG o,U2.sl t=U.sl t):U2.vU o=U.vU o:=by
 unfold AE.vU
 have:∀x∈o.op.operands.toList,(match x with
  |.tmp t=>(U2.sl t).refs
  |_=>[])=(match x with
  |.tmp t=>(U.sl t).refs
  |_=>[]):=fun x f=>by
  grind[CL]
 exact flatMap_congr' this
where
 flatMap_congr' {α β:Type} {l:List α} {p q:α->List β} (h:∀x∈l,p x=q x):l.flatMap p=l.flatMap q:=by
  induction l with
  |nil=>rfl
  |cons a l k=>simp_all
theorem rC(i:U.pd=none)(h:c1S cx o U=true)(e:∀n∈U.vU o,n∈W)(j:∀n∈LJ cx o (o.dst.getD 0),n∈W):Fo g cx o o.dst U W:=by
 unfold c1S at h;split at h;rename_i c q;split at h;rename_i u;simp at h;have⟨d,v⟩:=A4.1 h.1;rw[v];exact a7H q u v i e (j d (by rw[v];exact C2)) h.2;rename_i f u;split at h;rename_i s z;refine b4C q u rfl i z e j ?_
 grind;simp_all;simp_all
 ·rename_i t a x q;have r:a∈o.op.operands.toList:=by simp_all[Op.operands]
  have y:x∈o.op.operands.toList:=by simp_all[Op.operands]
  have⟨h,l⟩:=B4.1 h;have l:U.tL x=none:=by simp_all
  have m:∀k:AE,DA W (AG o) U k->∀{Z:Type}(K:AE->Rs Z),Bc cx false o k K=(match k.sN a with
    |.ptr n p=>(match cx.T t with
     |some t=>k.vK t n p (k.sN x) fun U=>K (U.uG o.dst .dead)
     |none=>none)
    |_=>none):=fun k b Z K=>by
   have w:k.tL x=none:=(b.tL y).trans l;unfold Bc;rw[q];grind
  cases hpa:U.sN a with
  |ptr n p=>
   cases ht:cx.T t with
   |none=>grind[Fo.none]
   |some τ=>
    refine b4D i (t:=τ) (n:=n) (p:=p) (x:=U.sN x) (e n (rA r (by rw[hpa];simp[AV.refs]))) (by simp_all) fun k b Z K=>?_
    rw[m k b,b.sN r,hpa,ht,b.sN y]
  |_=>exact Fo.none fun k b Z K=>by rw[m k b,b.sN r,hpa]
 simp_all
theorem rD{Z:Type}{ops:Array Oper}{x:List Nat}{K:AE->Rs Z}{z:Z}(k:BC cx (.w x) ops.toList o U K=some z):∃(W:List Nat)(m:xG),FW W m.f/\(∀n∈W,n∈x)/\K (Pn W m o.dst U)=some z/\∀U2,DA W (o.looksAt ops) U U2->∀{Z2:Type}(l:AE->Rs Z2),BC cx (.w x) ops.toList o U2 l=l (Pn W m o.dst U2):=by rw[Lf]at k;cases hl:Dz ops o U with|none=>simp_all|some b=>rw[hl]at k;cases b with|false=>(have v:∀U2:AE,U2.uG o.dst .skp=Pn [] ⟨id,fun _=>none,.one .skp,none⟩ o.dst U2:=fun U2=>by simp only[Pn,RP];cases o.dst with|none=>rfl|some d=>simp only[AE.uG,AE.set,AE.put];congr 1;grind);refine⟨[],⟨id,fun _=>none,.one .skp,none⟩,FW.id,fun n j=>(by grind),by simp_all,fun U2 c Z2 l=>?_⟩;rw[Lf,IN c.2.2,hl,<-v U2]|true=>simp[Kh]at k;cases hpd:U.pd with|some p=>simp_all|none=>(rw[hpd]at k;simp at k;have⟨a,k⟩:=(Ai k).elim id fun h=>by grind);simp at a;have⟨a,q,u⟩:=a;let W:=U.vU o++LJ cx o (o.dst.getD 0);have⟨r,i,y⟩:=rC (g:=true) (cx:=cx) (W:=W) hpd a (fun n j=>A7 _ j) (fun n j=>A6 _ j);have k:Bc cx false o U (a7a true K)=some z:=k;rw[y U DA.refl]at k;cases r with|none=>(cases k)|some m=>have k:K (Ih W m o.dst U)=some z:=k;rw[qY ((i m rfl).2.1 rfl)]at k;refine⟨W,m,(i m rfl).1,fun n j=>(mA.1 j).elim (Pm q) (Pm u),k,fun U2 c Z2 l=>?_⟩;have e:DA W (AG o) U U2:=⟨c.1,c.2.1,fun t A=>c.2.2 t (ET A)⟩;rw[Lf,IN c.2.2,hl];simp[Kh];rw[c.1,hpd,gX e,a,ZN e.2.2,q,u];refine Eq.trans (y U2 e l) ?_;simp only[kC];rw[qY ((i m rfl).2.1 rfl)]
theorem c1Y{Z:Type}{ops:Array Oper}{x:List Nat}{K:AE->Rs Z}{z:Z}(k:BC cx (.a x) ops.toList o U K=some z):∃(W:List Nat)(m:xG),FW W m.f/\(∀n∈W,n∈x)/\K (Ih W m o.dst U)=some z/\∀U2,DA W (o.looksAt ops) U U2->∀{Z2:Type}(l:AE->Rs Z2),BC cx (.a x) ops.toList o U2 l=l (Ih W m o.dst U2):=by rw[Lf]at k;cases hl:Dz ops o U with|none=>simp_all|some b=>rw[hl]at k;cases b with|false=>(have v:∀U2:AE,U2.uG o.dst .skp=Pn [] ⟨id,fun _=>none,.one .skp,none⟩ o.dst U2:=fun U2=>by simp only[Pn,RP];cases o.dst with|none=>rfl|some d=>simp only[AE.uG,AE.set,AE.put];congr 1;grind);refine⟨[],⟨id,fun _=>none,.one .skp,none⟩,FW.id,fun n j=>(by grind),by rw[qY rfl,<-v U];omega,fun U2 e Z2 l=>?_⟩;rw[Lf,IN e.2.2,hl,qY rfl,<-v U2]|true=>simp[Kh]at k;cases hpd:U.pd with|some p=>simp_all|none=>(rw[hpd]at k;simp at k;have⟨c,k⟩:=(Ai k).elim id fun h=>by grind);simp at c;have⟨c,q,u⟩:=c;let W:=U.vU o++LJ cx o (o.dst.getD 0);have⟨r,w,y⟩:=rC (g:=false) (cx:=cx) (W:=W) hpd c (fun n j=>A7 _ j) (fun n j=>A6 _ j);have k:Bc cx false o U (a7a false K)=some z:=k;rw[y U DA.refl]at k;cases r with|none=>(cases k)|some m=>have k:K (Ih W m o.dst U)=some z:=k;refine⟨W,m,(w m rfl).1,fun n j=>(mA.1 j).elim (Pm q) (Pm u),k,fun U2 e Z2 l=>?_⟩;have i:DA W (AG o) U U2:=⟨e.1,e.2.1,fun t A=>e.2.2 t (ET A)⟩;rw[Lf,IN e.2.2,hl];simp[Kh];rw[e.1,hpd,gX i,c,ZN i.2.2,q,u];exact y U2 i l
theorem UX:∀{p q:BJ},Jd p q=true->q.all Step.uB=true->p.all Step.uB=true|[],_,_,_=>rfl|.fst::p,.fst::q,h,g=>(by simp only[C4,bA]at g|-;exact⟨rfl,UX h g.2⟩)|.snd::p,.snd::q,h,g=>(by simp only[C4,bA]at g|-;exact⟨rfl,UX h g.2⟩)|.idx _::p,.idx _::q,h,g=>by simp[Step.uB]at g
theorem b1n{n:Nat}{p:BJ}(hp:p.all Step.uB=false){sv:SV}(h:sv.still=true):sv.sJ (AV.kill n p)=sv:=by cases sv with|one v=>((have g:∀q:BJ,q.all Step.uB=true->Jd p q=false:=fun q f=>by cases hb:Jd p q with|false=>rfl|true=>rw[UX hb f]at hp;cases hp);cases v with|ptr m q=>simp only[SV.sJ,AV.kill,g q h,G4,D4];rfl|sref m q=>simp only[SV.sJ,AV.kill,g q h,G4];rfl|swin=>(cases h)|_=>rfl)|cmp c k=>exact(FW.kill (W:=[n]) (by simp) p).fp.sv (Tv h)
theorem b3i{Z:Type}{ops:Array Oper}{G:List Nat}{K:AE->Rs Z}{z:Z}(k:BC cx (.b G) ops.toList o U K=some z):∃(W:List Nat)(m:xG),FW W m.f/\(∀n∈W,n∈G)/\(∀sv:SV,sv.still=true->sv.sJ m.f=sv)/\(∀n∈W,a2a (m.rt n)=a2a (U.rt n))/\(Ih W m o.dst U).uS=U.uS/\K (Ih W m o.dst U)=some z/\∀U2,DA W (o.looksAt ops) U U2->(∀{Z2:Type}(y:AE->Rs Z2),BC cx (.b G) ops.toList o U2 y=y (Ih W m o.dst U2)):=by rw[Lf]at k;cases hl:Dz ops o U with|none=>(rw[hl]at k;cases k)|some b=>rw[hl]at k;cases b with|false=>(have w:∀U2:AE,U2.uG o.dst .skp=Pn [] ⟨id,fun _=>none,.one .skp,none⟩ o.dst U2:=fun U2=>by simp only[Pn,RP];cases o.dst with|none=>rfl|some d=>(simp only[AE.uG,AE.set,AE.put];congr 1;funext i;by_cases h:i=d;subst h;simp;have H:(i==d)=false:=by simpa using h);(have I:(some d==some i)=false:=by simpa using Ne.symm h);rw[H,I]);refine⟨[],⟨id,fun _=>none,.one .skp,none⟩,FW.id,fun n j=>(by cases j),fun sv _=>RP sv,fun n j=>(by cases j),by rw[qY rfl];rfl,by rw[qY rfl,<-w U];exact k,fun U2 e Z2 y=>?_⟩;rw[Lf,IN e.2.2,hl,qY rfl,<-w U2]|true=>simp only[Kh]at k;cases hpd:U.pd with|some p=>(rw[hpd]at k;cases k)|none=>(rw[hpd]at k;simp only[]at k;have⟨a,k⟩:=(Ai k).elim id fun h=>by cases h.2);simp only[bA]at a;have⟨a,u,v⟩:=a;let W:=U.vU o++LJ cx o (o.dst.getD 0);have⟨r,E,M⟩:=rC (g:=false) (cx:=cx) (W:=W) hpd a (fun n j=>A7 _ j) (fun n j=>A6 _ j);have q:∀U2,DA W (AG o) U U2->∀{Z:Type}(K:AE->Rs Z),Bc cx false o U2 K=kC W r o.dst U2 K:=fun U2 e Z K=>M U2 e K;rw[q U DA.refl]at k;cases r with|none=>(cases k)|some m=>obtain⟨A,-,D⟩:=E m rfl;cases hmp:m.pd with|none=>(simp only[kC,Ih,hmp,hpd]at k;cases k)|some x=>(have⟨n,p,d⟩:=x;have⟨L,F⟩:=D n p d hmp;have c:∀U2:AE,(Ih W m o.dst U2).pd=some (n,p,d):=fun U2=>by simp only[Ih,hmp]);(simp only[kC,c]at k;have⟨B,k⟩:=(Ai k).elim id fun h=>by cases h.2);(have C:p.all Step.uB=false:=by simpa using B);refine⟨W,m,A,fun n j=>(mA.1 j).elim (Pm u) (Pm v),fun sv h=>by rw[L];exact b1n C h,F,by simp only[AE.uS,c,B,hpd],k,fun U2 e Z2 y=>?_⟩;have l:DA W (AG o) U U2:=⟨e.1,e.2.1,fun t N=>e.2.2 t (ET N)⟩;rw[Lf,IN e.2.2,hl];simp only[Kh];rw[e.1,hpd,gX l,a,ZN l.2.2,u,v];simp only[Bool.and_self,cT];rw[q U2 l];simp only[kC,c,B,cT]
end
theorem AE.ext'{U U2:AE}(f:∀i,U.sl i=U2.sl i)(k:∀n,U.rt n=U2.rt n)(e:U.pd=U2.pd):U=U2:=by have⟨a,b,c⟩:=U;have⟨h,g,d⟩:=U2;obtain rfl:a=h:=funext f;obtain rfl:b=g:=funext k;simp_all
theorem WR(δ:Dl)(d:Nat)(U:AE)(i:Nat):(δ.app d U).sl i=if i=d then δ.sv else U.sl i:=by simp_all[Dl.app]
theorem EK{δ:Dl}{d:Nat}{U:AE}{n:Nat}(h:find δ.rs n=none):(δ.app d U).rt n=U.rt n:=by simp[Dl.app,h]
theorem a7I{δ:Dl}{d:Nat}{U:AE}{n:Nat}(h:find δ.rs n≠none):(δ.app d U).rt n≠none:=by grind[Dl.app]
theorem gY{δ:Dl}{d:Nat}{U:AE}(h:∀n,find δ.rs n≠none->U.rt n=none){n:Nat}(g:U.rt n≠none):(δ.app d U).rt n=U.rt n:=EK (by grind)
theorem Gv(W:List Nat)(m:xG)(d:Option Nat)(U:AE)(i:Nat):(Pn W m d U).sl i=if d=some i then m.sv else(U.sl i).sJ m.f:=by simp_all[Pn]
theorem UY{W:List Nat}{m:xG}{d:Option Nat}{U:AE}{n:Nat}(h:n∉W):(Pn W m d U).rt n=U.rt n:=by simp_all[Pn]
theorem rE{a b:List Nat}(h:sV a b=true){n:Nat}(g:n∈a):n∉b:=by have:=lA.1 h n g;simp_all
theorem KV(U:AE)(d:Nat)(sv:SV)(i:Nat):(U.put d sv).sl i=if i=d then sv else U.sl i:=by simp_all[AE.put]
section
variable {Z:Type} {cx:Cx} {ops:Array Oper} {k i:Oper} {dk di:Nat} {U:AE} {K:AE->Rs Z} {z:Z}
theorem b9U{l mi:Md}(w:l.quiet)(v:mi.quiet)(h:k.dst=some dk)(f:i.dst=some di)(u:k.apart ops i=true)(c:∀t∈i.looksAt ops,∀n∈(U.sl t).refs,mi.reads n->U.rt n≠none) (M:BC cx l ops.toList k U (fun m=>BC cx mi ops.toList i m K)=some z):BC cx mi ops.toList i U (fun m=>BC cx l ops.toList k m K)=some z:=by
 have⟨a1,x,o⟩:=Oper.apart_spec u;have a1:=a1 dk h;have x:di≠dk:=fun e=>x dk h (by simp_all);have o:=o di f;have⟨δk,B,y,F,O,G⟩:=b1j w h M;have⟨δi,A,C,D,N,E⟩:=b1j v f F;have H:∀n,find δi.rs n≠none->find δk.rs n=none:=fun n b=>by grind[a7I]
 have a:∀n,find δi.rs n≠none->U.rt n=none:=fun n b=>by simp_all[EK]
 have p:b1i mi A (δk.app dk U) U:=by(refine⟨rfl,fun t d=>?_⟩;have g:t≠dk:=fun e=>a1 (e▸(C t d).1);have P:(δk.app dk U).sl t=U.sl t:=by rw[WR,if_neg g]);grind[gY]
 rw[E U p a];have q:b1i l B U (δi.app di U):=by refine⟨rfl,fun t d=>?_⟩;have g:t≠di:=fun e=>o (e▸(y t d).1);exact⟨by rw[WR,if_neg g],fun n b L=>gY a ((y t d).2 n b L).2⟩
 have I:∀n,find δk.rs n≠none->find δi.rs n=none:=fun n b=>by grind
 rw[G _ q fun n b=>by simp_all[EK],<-D];congr 1;refine AE.ext' (fun j=>?_) (fun n=>?_) rfl;simp[WR];grind;cases e1:find δk.rs n with|none=>rw[EK e1];grind[EK,Dl.app]|some r=>grind[EK,Dl.app]
theorem a5v{o:Oper}{d:Nat}{h:Md}(a:h=.p\/h=.u)(f:o.dst=some d)(k:BC cx h ops.toList o U K=some z):∃(sv:SV)(L:List Nat),sv.calm=true/\(∀t∈L,t∈o.looksAt ops/\(U.sl t).calm=true)/\K (U.put d sv)=some z/\∀U2,(∀t∈L,U2.sl t=U.sl t)->∀{Z2:Type}(g:AE->Rs Z2),BC cx h ops.toList o U2 g=g (U2.put d sv):=by rcases a with rfl|rfl;exact c1V f k;exact c1W f k
theorem b3j{o:Oper}{g:List Nat}{h:Md}(c:h=.a g\/h=.b g)(d:BC cx h ops.toList o U K=some z):∃(W:List Nat)(m:xG),FW W m.f/\(∀n∈W,n∈g)/\K (Ih W m o.dst U)=some z/\∀U2,DA W (o.looksAt ops) U U2->∀{Z2:Type}(k:AE->Rs Z2),BC cx h ops.toList o U2 k=k (Ih W m o.dst U2):=by rcases c with rfl|rfl;all_goals grind[c1Y,b3i]
theorem b9V{o:List Nat}(h:k.dst=some dk)(b:k.apart ops i=true) (A:BC cx .v ops.toList k U (fun f=>BC cx (.w o) ops.toList i f K)=some z):BC cx (.w o) ops.toList i U (fun f=>BC cx .v ops.toList k f K)=some z:=by have⟨a1,a,p⟩:=Oper.apart_spec b;have a1:=a1 dk h;have a:=a dk h;have⟨D,L,u,l,x,y⟩:=b6V h A;obtain⟨W,m,d,-,q,r⟩:=rD x;have B:DA W (i.looksAt ops) (U.put dk D) U:=⟨rfl,fun _ _=>rfl,fun t c=>by have g:t≠dk:=fun e=>a1 (by simp_all);rw[KV,if_neg g]⟩;(have C:∀t∈L,(Pn W m i.dst U).sl t=U.sl t:=fun t c=>by have g:¬ i.dst=some t:=fun e=>p t e (l t c).1;rw[Gv,if_neg g];exact d.fp.sv (l t c).2);rw[r U B,y (Pn W m i.dst U) rfl C,<-q];congr 1;refine AE.ext' (fun j=>?_) (fun n=>rfl) rfl;simp[KV,Gv];by_cases e1:j=dk;subst e1;rw[if_pos rfl,if_neg a,if_pos rfl];exact(d.fp.sv u).symm;simp_all
theorem b9W{r:List Nat}(h:i.dst=some di)(c:k.apart ops i=true) (C:BC cx (.w r) ops.toList k U (fun f=>BC cx .v ops.toList i f K)=some z):BC cx .v ops.toList i U (fun f=>BC cx (.w r) ops.toList k f K)=some z:=by(have⟨a1,a,b⟩:=Oper.apart_spec c;have b:=b di h;have a:¬ k.dst=some di:=fun e=>a di e h;obtain⟨W,m,l,-,u,x⟩:=rD C;have⟨q,L,y,o,A,B⟩:=b6V h u;have D:∀t∈L,U.sl t=(Pn W m k.dst U).sl t:=fun t d=>by have p:=(o t d).2;have g:¬ k.dst=some t:=fun e=>a1 t e (o t d).1;rw[Gv,if_neg g]at p|-;exact(l.fp.xF p).symm);have E:DA W (k.looksAt ops) U (U.put di q):=⟨rfl,fun _ _=>rfl,fun t d=>by have g:t≠di:=fun e=>b (by simp_all);rw[KV,if_neg g]⟩;rw[B U rfl D,x (U.put di q) E,<-A];congr 1;refine AE.ext' (fun j=>?_) (fun n=>rfl) rfl;simp[KV,Gv];by_cases e2:j=di;subst e2;rw[if_neg a,if_pos rfl,if_pos rfl];exact l.fp.sv y;simp_all
theorem MW(W:List Nat)(m:xG)(d:Option Nat)(U:AE)(i:Nat):(Ih W m d U).sl i=if d=some i then m.sv else(U.sl i).sJ m.f:=Gv W m d U i
theorem b3k{q:List Nat}{f:Md}(C:f=.p\/f=.u)(h:k.dst=some dk)(c:k.apart ops i=true) (D:BC cx f ops.toList k U (fun a=>BC cx (.w q) ops.toList i a K)=some z):BC cx (.w q) ops.toList i U (fun a=>BC cx f ops.toList k a K)=some z:=by have⟨a1,b,r⟩:=Oper.apart_spec c;have a1:=a1 dk h;have b:=b dk h;have⟨G,L,y,o,A,B⟩:=a5v C h D;obtain⟨W,m,l,-,v,x⟩:=rD A;have E:DA W (i.looksAt ops) (U.put dk G) U:=⟨rfl,fun _ _=>rfl,fun t d=>by have g:t≠dk:=fun e=>a1 (by simp_all);rw[KV,if_neg g]⟩;(have F:∀t∈L,(Pn W m i.dst U).sl t=U.sl t:=fun t d=>by have g:¬ i.dst=some t:=fun e=>r t e (o t d).1;rw[Gv,if_neg g];exact l.fp.sv (o t d).2);rw[x U E,B (Pn W m i.dst U) F,<-v];congr 1;refine AE.ext' (fun j=>?_) (fun n=>rfl) rfl;simp[KV,Gv];by_cases e1:j=dk;subst e1;rw[if_pos rfl,if_neg b,if_pos rfl];exact(l.fp.sv y).symm;simp_all
theorem b3l{v:List Nat}{mi:Md}(D:mi=.p\/mi=.u)(h:i.dst=some di)(c:k.apart ops i=true) (E:BC cx (.w v) ops.toList k U (fun f=>BC cx mi ops.toList i f K)=some z):BC cx mi ops.toList i U (fun f=>BC cx (.w v) ops.toList k f K)=some z:=by(have⟨a1,a,b⟩:=Oper.apart_spec c;have b:=b di h;have a:¬ k.dst=some di:=fun e=>a di e h;obtain⟨W,m,l,-,x,y⟩:=rD E;have⟨r,L,A,o,B,C⟩:=a5v D h x;have F:∀t∈L,U.sl t=(Pn W m k.dst U).sl t:=fun t d=>by have q:=(o t d).2;have g:¬ k.dst=some t:=fun e=>a1 t e (o t d).1;rw[Gv,if_neg g]at q|-;exact(l.fp.xF q).symm);have G:DA W (k.looksAt ops) U (U.put di r):=⟨rfl,fun _ _=>rfl,fun t d=>by have g:t≠di:=fun e=>b (by simp_all);rw[KV,if_neg g]⟩;rw[C U F,y (U.put di r) G,<-B];congr 1;refine AE.ext' (fun j=>?_) (fun n=>rfl) rfl;simp[KV,Gv];by_cases e2:j=di;subst e2;rw[if_neg a,if_pos rfl,if_pos rfl];exact l.fp.sv A;simp_all
theorem b3m{v:List Nat}{f mi:Md}(E:f=.p\/f=.u)(D:mi=.a v\/mi=.b v)(h:k.dst=some dk)(l:k.apart ops i=true) (F:BC cx f ops.toList k U (fun c=>BC cx mi ops.toList i c K)=some z):BC cx mi ops.toList i U (fun c=>BC cx f ops.toList k c K)=some z:=by have⟨a1,d,w⟩:=Oper.apart_spec l;have a1:=a1 dk h;have d:=d dk h;have⟨I,L,A,r,B,C⟩:=a5v E h F;obtain⟨W,m,q,-,x,y⟩:=b3j D B;have G:DA W (i.looksAt ops) (U.put dk I) U:=⟨rfl,fun _ _=>rfl,fun t o=>by have g:t≠dk:=fun e=>a1 (by simp_all);rw[KV,if_neg g]⟩;(have H:∀t∈L,(Ih W m i.dst U).sl t=U.sl t:=fun t o=>by have g:¬ i.dst=some t:=fun e=>w t e (r t o).1;rw[MW,if_neg g];exact q.fp.sv (r t o).2);rw[y U G,C (Ih W m i.dst U) H,<-x];congr 1;refine AE.ext' (fun j=>?_) (fun n=>rfl) rfl;simp[KV,MW];by_cases e1:j=dk;subst e1;rw[if_pos rfl,if_neg d,if_pos rfl];exact(q.fp.sv A).symm;simp_all
theorem b3n{y:List Nat}{f mi:Md}(G:mi=.p\/mi=.u)(F:f=.a y\/f=.b y)(h:i.dst=some di)(o:k.apart ops i=true) (H:BC cx f ops.toList k U (fun c=>BC cx mi ops.toList i c K)=some z):BC cx mi ops.toList i U (fun c=>BC cx f ops.toList k c K)=some z:=by(have⟨a1,d,l⟩:=Oper.apart_spec o;have l:=l di h;have d:¬ k.dst=some di:=fun e=>d di e h;obtain⟨W,m,r,-,A,B⟩:=b3j F H;have⟨x,L,C,v,D,E⟩:=a5v G h A;have I:∀t∈L,U.sl t=(Ih W m k.dst U).sl t:=fun t q=>by have w:=(v t q).2;have g:¬ k.dst=some t:=fun e=>a1 t e (v t q).1;rw[MW,if_neg g]at w|-;exact(r.fp.xF w).symm);have M:DA W (k.looksAt ops) U (U.put di x):=⟨rfl,fun _ _=>rfl,fun t q=>by have g:t≠di:=fun e=>l (by simp_all);rw[KV,if_neg g]⟩;rw[E U I,B (U.put di x) M,<-D];congr 1;refine AE.ext' (fun j=>?_) (fun n=>rfl) rfl;simp[KV,MW];by_cases e2:j=di;subst e2;rw[if_neg d,if_pos rfl,if_pos rfl];exact r.fp.sv C;simp_all
theorem b9X{ns q:List Nat}(F:sV ns q=true)(g:k.dst=some dk)(l:k.apart ops i=true) (G:BC cx (.r ns) ops.toList k U (fun b=>BC cx (.w q) ops.toList i b K)=some z):BC cx (.w q) ops.toList i U (fun b=>BC cx (.r ns) ops.toList k b K)=some z:=by(have⟨a1,c,x⟩:=Oper.apart_spec l;have a1:=a1 dk g;have c:=c dk g;have⟨δ,L,d,C,M,D,E⟩:=b6X g G;have⟨W,m,u,B,y,A⟩:=rD C;have p:∀n∈ns,n∉W:=fun n h v=>rE F h (B n v);have o:∀n∈W,find δ.rs n=none:=fun n h=>by grind);have H:DA W (i.looksAt ops) (δ.app dk U) U:=⟨rfl,fun n h=>(EK (o n h)).symm,fun t a=>by have f:t≠dk:=fun e=>a1 (by simp_all);rw[WR,if_neg f]⟩;have I:gR L U (Pn W m i.dst U):=⟨rfl,fun t a=>by have f:¬ i.dst=some t:=fun e=>x t e (d t a).1;refine⟨?_,fun n h=>UY (p n ((d t a).2.2 n h).2)⟩;rw[Gv,if_neg f];exact u.sv fun n h=>p n ((d t a).2.2 n h).2⟩;rw[A U H,E _ I fun n h=>by grind[UY],<-y];congr 1;refine AE.ext' (fun j=>?_) (fun n=>?_) rfl;simp[WR,Gv];by_cases e1:j=dk;subst e1;rw[if_pos rfl,if_neg c,if_pos rfl];exact(u.sv fun n h=>p n (D n h)).symm;simp_all;by_cases v:n∈W;simp_all[EK,Pn];simp_all[UY,Dl.app]
theorem b9Y{ns v:List Nat}(G:sV ns v=true)(f:i.dst=some di)(p:k.apart ops i=true) (H:BC cx (.w v) ops.toList k U (fun c=>BC cx (.r ns) ops.toList i c K)=some z):BC cx (.r ns) ops.toList i U (fun c=>BC cx (.w v) ops.toList k c K)=some z:=by(have⟨a1,d,l⟩:=Oper.apart_spec p;have l:=l di f;have d:¬ k.dst=some di:=fun e=>d di e f;have⟨W,m,x,C,A,B⟩:=rD H;have⟨δ,L,o,D,O,E,F⟩:=b6X f A;have I:∀n∈ns,n∉W:=fun n g y=>rE G g (C n y);have q:∀n∈W,find δ.rs n=none:=fun n g=>by grind);have M:gR L (Pn W m k.dst U) U:=⟨rfl,fun t b=>by have h:¬ k.dst=some t:=fun e=>a1 t e (o t b).1;have a:=(o t b).2.1;have u:=(o t b).2.2;rw[Gv,if_neg h]at a u;refine⟨by rw[Gv,if_neg h];exact(x.xF a).symm,fun n g=>?_⟩;rw[Gv,if_neg h]at g;grind[UY]⟩;have N:DA W (k.looksAt ops) U (δ.app di U):=⟨rfl,fun n g=>EK (q n g),fun t b=>by have h:t≠di:=fun e=>l (by simp_all);rw[WR,if_neg h]⟩;rw[F U M fun n g=>by grind[UY],B _ N,<-D];congr 1;refine AE.ext' (fun j=>?_) (fun n=>?_) rfl;simp[WR,Gv];by_cases e1:j=di;subst e1;rw[if_neg d,if_pos rfl,if_pos rfl];exact x.sv fun n g=>I n (E n g);simp_all;by_cases y:n∈W;simp_all[EK,Pn];simp_all[UY,Dl.app]
theorem rF{W:List Nat}{m:xG}{d:Option Nat}{U:AE}(h:∀n∈W,a2a (m.rt n)=a2a (U.rt n))(n:Nat):a2a ((Ih W m d U).rt n)=a2a (U.rt n):=by show a2a (bif W.contains n then m.rt n else U.rt n)=_;grind
theorem a7J{sv:SV}(h:sv.still=true):sv.alive=true:=by cases sv with|one v=>(cases v<;>first|rfl|cases h)|cmp c g=>exact qX h
theorem b9Z{p:List Nat}(h:k.dst=some dk)(l:k.apart ops i=true) (B:BC cx .s ops.toList k U (fun c=>BC cx (.b p) ops.toList i c K)=some z):BC cx (.b p) ops.toList i U (fun c=>BC cx .s ops.toList k c K)=some z:=by have⟨a1,o,q⟩:=Oper.apart_spec l;have a1:=a1 dk h;have o:=o dk h;have⟨E,L,G,x,y,A⟩:=b6Z h B;obtain⟨W,m,-,-,F,w,v,r,u⟩:=b3i y;have C:DA W (i.looksAt ops) (U.put dk E) U:=⟨rfl,fun _ _=>rfl,fun t a=>by have f:t≠dk:=fun e=>a1 (by simp_all);rw[KV,if_neg f]⟩;(have D:∀t∈L,(Ih W m i.dst U).sl t=U.sl t:=fun t a=>by have f:¬ i.dst=some t:=fun e=>q t e (x t a).1;simp_all[MW]);rw[u U C,A (Ih W m i.dst U) (fun t a=>⟨D t a,fun n _=>rF (d:=i.dst) w n⟩) (fun g=>v.trans g),<-r];congr 1;refine AE.ext' (fun j=>?_) (fun n=>rfl) rfl;simp[KV,MW];grind
theorem c0a{v:List Nat}(h:i.dst=some di)(o:k.apart ops i=true) (E:BC cx (.b v) ops.toList k U (fun c=>BC cx .s ops.toList i c K)=some z):BC cx .s ops.toList i U (fun c=>BC cx (.b v) ops.toList k c K)=some z:=by(have⟨a1,p,l⟩:=Oper.apart_spec o;have l:=l di h;have p:¬ k.dst=some di:=fun e=>p di e h;obtain⟨W,m,w,-,H,B,A,x,y⟩:=b3i E;have⟨u,L,I,q,C,D⟩:=b6Z h x;have F:∀t∈L,U.sl t=(Ih W m k.dst U).sl t:=fun t a=>by have r:=(q t a).2.1;have f:¬ k.dst=some t:=fun e=>a1 t e (q t a).1;rw[MW,if_neg f]at r|-;exact(w.xF (a7J r)).symm);have G:DA W (k.looksAt ops) U (U.put di u):=⟨rfl,fun _ _=>rfl,fun t a=>by have f:t≠di:=fun e=>l (by simp_all);rw[KV,if_neg f]⟩;rw[D U (fun t a=>⟨F t a,fun n _=>(rF (d:=k.dst) B n).symm⟩) (fun g=>A.symm.trans g),y (U.put di u) G,<-C];congr 1;refine AE.ext' (fun j=>?_) (fun n=>rfl) rfl;simp[KV,MW];grind
theorem c9J{l mi:Md}(c:a4W l mi=true)(g:l.vX=true\/k.dst.isSome=true)(h:mi.vX=true\/i.dst.isSome=true)(f:k.apart ops i=true)(j:∀t∈i.looksAt ops,∀n∈(U.sl t).refs,mi.reads n->U.rt n≠none) (e:BC cx l ops.toList k U (fun A=>BC cx mi ops.toList i A K)=some z):BC cx mi ops.toList i U (fun A=>BC cx l ops.toList k A K)=some z:=by(have y:l.quiet->mi.quiet->BC cx mi ops.toList i U (fun A=>BC cx l ops.toList k A K)=some z:=fun B C=>by have⟨o,g⟩:=A4.1 (g.resolve_left (by cases l<;>first|(cases B;done)|simp[Md.vX]));have⟨m,h⟩:=A4.1 (h.resolve_left (by cases mi<;>first|(cases C;done)|simp[Md.vX]));exact b9U B C g h f j e);cases l with|x=>(cases mi<;>cases c)|p=>(cases mi with|x=>(cases c)|b d=>(cases c)|a d=>(have⟨o,g⟩:=A4.1 (g.resolve_left (by simp[Md.vX]));exact b3m (.inl rfl) (.inl rfl) g f e)|w d=>(have⟨o,g⟩:=A4.1 (g.resolve_left (by simp[Md.vX]));exact b3k (.inl rfl) g f e)|_=>exact y trivial trivial)|s=>(cases mi with|x=>(cases c)|a d=>(cases c)|w d=>(cases c)|b d=>(have⟨o,g⟩:=A4.1 (g.resolve_left (by simp[Md.vX]));exact b9Z g f e)|_=>exact y trivial trivial)|b d=>(cases mi with|s=>(have⟨m,h⟩:=A4.1 (h.resolve_left (by simp[Md.vX]));exact c0a h f e)|u=>(have⟨m,h⟩:=A4.1 (h.resolve_left (by simp[Md.vX]));exact b3n (.inr rfl) (.inr rfl) h f e)|_=>cases c)|a d=>(cases mi with|p=>(have⟨m,h⟩:=A4.1 (h.resolve_left (by simp[Md.vX]));exact b3n (.inl rfl) (.inl rfl) h f e)|_=>cases c)|u=>(cases mi with|x=>(cases c)|a d=>(cases c)|b d=>(have⟨o,g⟩:=A4.1 (g.resolve_left (by simp[Md.vX]));exact b3m (.inr rfl) (.inr rfl) g f e)|w d=>(have⟨o,g⟩:=A4.1 (g.resolve_left (by simp[Md.vX]));exact b3k (.inr rfl) g f e)|_=>exact y trivial trivial)|v=>(cases mi with|x=>(cases c)|b d=>(cases c)|a d=>(cases c)|w d=>(have⟨o,g⟩:=A4.1 (g.resolve_left (by simp[Md.vX]));exact b9V g f e)|_=>exact y trivial trivial)|q=>(cases mi with|x=>(cases c)|b d=>(cases c)|a d=>(cases c)|w d=>(cases c)|_=>exact y trivial trivial)|r D=>(cases mi with|x=>(cases c)|b d=>(cases c)|a d=>(cases c)|w d=>(have⟨o,g⟩:=A4.1 (g.resolve_left (by simp[Md.vX]));exact b9X c g f e)|_=>exact y trivial trivial)|w d=>cases mi with|p=>(have⟨m,h⟩:=A4.1 (h.resolve_left (by simp[Md.vX]));exact b3l (.inl rfl) h f e)|v=>(have⟨m,h⟩:=A4.1 (h.resolve_left (by simp[Md.vX]));exact b9W h f e)|u=>(have⟨m,h⟩:=A4.1 (h.resolve_left (by simp[Md.vX]));exact b3l (.inr rfl) h f e)|r D=>(have⟨m,h⟩:=A4.1 (h.resolve_left (by simp[Md.vX]));exact b9Y c h f e)|_=>cases c
end
theorem kF(g:Nat->Nat)(k:Nat):∀(l:List Edge)(s:Nat),(l.foldl (fun s e=>if Region.binds .any e then s ||| 2^e.on ||| g e.on else s) s).testBit k=true->s.testBit k=true\/∃e∈l,Region.binds .any e=true/\(e.on=k\/(g e.on).testBit k=true)|[],s,h=>.inl h|e::l,s,h=>by rcases kF g k l _ h with h|⟨a,f,b⟩;all_goals grind
def b7a(ops:List Oper)(b:List Nat):Prop:=∀j k,j<b.length->(b.getD j 0).testBit k=true->∃e∈(ops.getD j default).after.toList,Region.binds .any e=true/\(e.on=k\/(b.getD e.on 0).testBit k=true)
theorem a3O(all:List Oper):∀(r:List Oper)(g:List Nat),(∀j,r[j]?=all[g.length+j]?)->b7a all g->b7a all (b4a r g)/\(b4a r g).length=g.length+r.length
 | [],g,_,h=>⟨h,by rfl⟩
 |o::r,g,c,h=>by
  simp only[b4a];have n:all.getD g.length default=o:=by
   have:=c 0
   grind
  have ⟨a,b⟩:=a3O all r (g++[o.after.toList.foldl (fun s e=>if Region.binds .any e then s ||| 2^e.on ||| g.getD e.on 0 else s) 0]) (fun j=>by
    have:=c (j+1)
    grind) (fun j k p hb=>by
   have t:∀m,(g.getD m 0).testBit k=true->((g++[o.after.toList.foldl (fun s e=>if Region.binds .any e then s ||| 2^e.on ||| g.getD e.on 0 else s) 0]).getD m 0).testBit k=true:=fun m q=>by
    grind
   by_cases hlt:j<g.length;rw[lD,List.getElem?_append_left hlt,<-lD]at hb;have⟨e,l,d,i⟩:=h j k hlt hb;grind
   ·have f:j=g.length:=by grind
    subst f;rw[lD,D7 (C5 _)]at hb;simp only[Nat.sub_self,C8,E2]at hb;rcases kF (fun m=>g.getD m 0) k _ _ hb with h'|⟨e,l,d,i⟩;all_goals grind)
  grind
section
variable {P:Program} {B:Base} {N:Nat} {cx:Cx} {ro:Option Nat} {D:List Deferred}
theorem c4X{Z:Type}{ops:Array Oper}{mi:Md}{i:Oper}{z:Z}(l2:List (Md×Oper)):∀(l1:List (Md×Oper)) {U:AE} {K:AE->Rs Z},(∀p∈l1,a4W p.1 mi=true/\p.2.apart ops i=true/\(p.1.vX=true\/p.2.dst.isSome=true)/\(mi.vX=true\/i.dst.isSome=true))->(∀t∈i.looksAt ops,∀n∈(U.sl t).refs,mi.reads n->U.rt n≠none)->Tn cx ops.toList (l1++(mi,i)::l2) U K=some z->BC cx mi ops.toList i U (fun g=>Tn cx ops.toList (l1++l2) g K)=some z|[],U,K,_,_,l=>l|(D,k)::l1,U,K,hall,hroots,l=>by(have⟨B,G,f,O⟩:=hall (D,k) (by simp);have l:BC cx D ops.toList k U (fun g=>Tn cx ops.toList (l1++(mi,i)::l2) g K)=some z:=l;have H:∀g,(∀t∈i.looksAt ops,∀n∈(g.sl t).refs,mi.reads n->g.rt n≠none)->Tn cx ops.toList (l1++(mi,i)::l2) g K=some z->BC cx mi ops.toList i g (fun I=>Tn cx ops.toList (l1++l2) I K)=some z:=fun g X h=>c4X l2 l1 (fun p hp=>hall p (by grind)) X h);refine c9J B f O G hroots ?_;(obtain⟨a1,-,-⟩:=Oper.apart_spec G;have E:D.quiet->BC cx D ops.toList k U (fun g=>BC cx mi ops.toList i g fun I=>Tn cx ops.toList (l1++l2) I K)=some z:=fun P=>by have⟨R,f⟩:=A4.1 (f.resolve_left (by cases D<;>first|(cases P;done)|simp[Md.vX]));have a1:=a1 R f;have⟨δ,L,F,o,y,T⟩:=b1j P f l;rw[T U ⟨rfl,fun _ _=>⟨rfl,fun _ _ _=>rfl⟩⟩ y];refine H _ (fun t C n c j=>?_) o;rw[WR,if_neg (fun e=>a1 (by simp_all))]at c;grind[gY]);cases D with|v=>exact E trivial|p=>exact E trivial|a Q=>(have⟨W,m,F,N,o,y⟩:=c1Y l;rw[y U DA.refl];refine H _ (fun t C n c j=>?_) o;cases mi with|p=>(cases j)|_=>cases B)|b Q=>(obtain⟨W,m,F,N,-,S,-,o,y⟩:=b3i l;rw[y U DA.refl];refine H _ (fun t C n c j=>?_) o;cases mi with|s=>((have A:¬ k.dst=some t:=fun e=>a1 t e C;rw[MW,if_neg A]at c);have:=hroots t C n (F.refs c) trivial;intro e;have M:=rF (d:=k.dst) S n;rw[e]at M;cases e3:U.rt n with|none=>simp_all|some r=>rw[e3]at M;cases M)|u=>(cases j)|_=>cases B)|u=>exact E trivial|s=>exact E trivial|q=>exact E trivial|r ns=>exact E trivial|w Q=>(have⟨W,m,F,N,o,y⟩:=rD l;rw[y U DA.refl];refine H _ (fun t C n c j=>?_) o;have A:¬ k.dst=some t:=fun e=>a1 t e C;rw[Gv,if_neg A]at c;have c:=F.refs c;cases mi with|v=>(cases j)|p=>(cases j)|u=>(cases j)|r ns=>(have V:n∉W:=fun Y=>rE B j (N n Y);grind[UY])|_=>cases B)|x=>cases mi<;>cases B
def Fq(n:Nat)(listed:Array Bool):List Nat:=(C9 n).filter fun i=>!listed.getD i true
def rG(ops:Array Oper)(ms:List Md)(i:Nat):Md×Oper:=(ms.getD i .x,ops.getD i default)
structure xK (ops:Array Oper) (ms:List Md) (b:List Nat):Prop where
 len:ms.length=ops.size
 good:b7a ops.toList b
 lb:b.length=ops.size
 back:∀j e,j<ops.size->e∈(ops.getD j default).after.toList->Region.binds .any e=true->e.on<j
 pair:∀i j,i<j->j<ops.size->(b.getD j 0).testBit i=true\/(a4W (ms.getD i .x) (ms.getD j .x)=true/\(ops.getD i default).apart ops (ops.getD j default)=true/\((ms.getD i .x).vX=true\/(ops.getD i default).dst.isSome=true)/\((ms.getD j .x).vX=true\/(ops.getD j default).dst.isSome=true))
theorem a7K{ops:Array Oper}{f:List Md}(h:a4X ops f=true):xK ops f (b4a ops.toList []):=by simp only[a4X,bA,dT,lA,D5]at h;have⟨b,l⟩:=h;have⟨a,d⟩:=a3O ops.toList ops.toList [] (fun j=>by simp) (fun j k g=>by simp);refine⟨b,a,by simp_all,fun j e g m hb=>?_,fun i j c g=>?_⟩;all_goals grind
theorem rH{n:Nat}{h:Array Bool}{i:Nat}(e:h.size=n)(hi:i∈Fq n h):∃l1 l2,Fq n h=l1++i::l2/\Fq n (h.setIfInBounds i true)=l1++l2/\∀k∈l1,k<i/\k∈Fq n h:=by
 have f:i<n:=by
  simp_all[Fq]
 have b:h.getD i true=false:=by
  simp_all[Fq]
 have g:C9 n=C9 i++i::(D8 (i+1) (n-i-1)):=by
  rw[C6,C6,show n=i+(1+(n-i-1))from by omega,<-E7,<-E7]
  simp
 have a:∀j,j≠i->(h.setIfInBounds i true).getD j true=h.getD j true:=fun j c=>by
  simp_all[Ne.symm]
 refine⟨(C9 i).filter fun i=>!h.getD i true,(D8 (i+1) (n-i-1)).filter fun i=>!h.getD i true,?_,?_,fun k d=>?_⟩;simp_all[Fq]
 ·simp only[Fq];rw[g,List.filter_append,List.filter_cons,if_neg (by
   simp)]
  congr 1;all_goals grind[F4]
 simp_all[Fq]
theorem b7b(h6:vC P cx)(hG:gD cx.G B){Z:Type}{ops:Array Oper}{ms:List Md}{b:List Nat}(I:xK ops ms b){K:AE->Rs Z}{z:Z}{Q:Exit->Act->World->Prop}(hf:∀o∈ops.toList,RM N ops.toList o=true)
  (hQ:∀a' w' U' M',sM B U' N (AH a') w' M'->a'.tmps.size=N->a'.defers=D->K U'=some z->Q .normal a' w'):
  ∀(fuel:Nat)(f:Array Bool){U:AE}{a:Act}{w:World}{M:Gh},f.size=ops.size->(Fq ops.size f).length=fuel->
   (∀j k,j<ops.size->f.getD j true=true->(b.getD j 0).testBit k=true->f.getD k true=true)->
   sM B U N (AH a) w M->a.tmps.size=N->a.defers=D->Tn cx ops.toList ((Fq ops.size f).map (rG ops ms)) U K=some z->wpAnyIn (Fr ro) 0 P .any ops Q fuel f a w:=by
 intro fuel;have O:∀f i,i∈Region.ready .any ops f->i∈Fq ops.size f/\∀e∈(ops.getD i default).after.toList,Region.binds .any e=true->f.getD e.on false=true:=by
  intro f i u;simp only[Region.ready,E3,D5,bA]at u;refine⟨by simp_all[Fq],fun e he hb=>?_⟩;have h3:=u.2.2;have d:ops[i]?=some (ops.getD i default):=by
   simp_all
  rw[d]at h3;simp only[F9,E2]at h3;rw[<-F8]at h3;grind
 have F:∀(f:Array Bool),Fq ops.size f=[]->Region.ready .any ops f=[]:=fun f h=>by
  refine List.eq_nil_iff_forall_not_mem.2 fun i u=>?_
  grind
 induction fuel with
 |zero=>
  intro f U a w M A hl S hr hN hD Y;have h0:=List.eq_nil_of_length_eq_zero hl;rw[h0]at Y;exact⟨F f h0,hQ a w U M hr hN hD Y⟩
 |succ fuel ih=>
  intro f U a w M A hl S hr hN hD Y;refine⟨fun k0=>?_,fun i u=>?_⟩
  ·
   exfalso;cases hR:Fq ops.size f with
   |nil=>simp_all
   |cons i R=>
    have H:i∈Fq ops.size f:=by simp_all
    have u:=H;simp only[Fq,E3,D5]at u
    have:i∈Region.ready .any ops f:=by
     simp only[Region.ready,E3,D5,bA];refine⟨u.1,u.2,?_⟩;have d:ops[i]?=some (ops.getD i default):=by
      simp_all
     rw[d];simp only[F9,E2];rw[<-F8];refine lA.2 fun e he=>?_
     by_cases hb:Region.binds .any e=true
     ·have k4:=I.back i e u.1 he hb;have g0:f.getD e.on true=true:=by
       cases hv:f.getD e.on true with
       |true=>rfl
       |false=>
        obtain⟨l1,l2,g1,-,g3⟩:=rH (n:=ops.size) A (i:=e.on) (by grind[Fq]);have k1:(Fq ops.size f).Pairwise (·<·):=List.Pairwise.filter _ List.pairwise_lt_range;grind[List.pairwise_cons]
      grind
     simp_all
    simp_all
  ·have⟨H,h7⟩:=O f i u;have⟨l1,l2,g1,g2,g3⟩:=rH A H;have h8:i<ops.size:=by grind
   have d:ops[i]?=some (ops.getD i default):=by
    simp_all
   have X:ops.getD i default∈ops.toList:=by
    simp_all
   have q:=hf _ X;have tr:∀k,f.getD k false=true->f.getD k true=true:=fun k V=>by
    grind
   have g9:∀k,(b.getD i 0).testBit k=true->f.getD k true=true:=fun k V=>by
    have⟨e,he,h1,h2⟩:=I.good i k (by grind) V;grind
   rw[g1,pA,List.map_cons]at Y;have L:=c4X (cx:=cx) (mi:=ms.getD i .x) (i:=ops.getD i default) (l2.map (rG ops ms)) (l1.map (rG ops ms)) (fun p hp=>by
     obtain⟨k,V,rfl⟩:=C1.1 hp;have⟨h9,k3⟩:=g3 k V;rcases I.pair k i h9 h8 with h|h;grind[Fq];exact h) (fun t C n y _=>by
     have g7:t<N:=by
      simp only[Oper.looksAt,mA]at C;rcases C with C|C;have⟨x,hx,k5⟩:=C3.1 C
      have:=Bg (WN q) x hx
      grind[Cj]
      ·cases hg:(ops.getD i default).guard with
       |none=>grind
       |some p=>
        have⟨j,k2⟩:=p;rw[hg]at C;simp at C;have T:VG ops.toList j=some t:=by simpa[VG]using C
        simp only[RM,hg,T,bA,dT]at q;grind
     have A:=hr.slots t g7;revert A y;generalize U.sl t=sv;intro y A;have one:∀(E:AV)(v:Value),Ay (Af w M.ov) M.g U.rt (Ba B w M) E v->n∈E.refs->U.rt n≠none:=fun E v ha y=>by
      cases E with
      |ptr m p=>obtain⟨r,t,b,o,h1,-⟩:=ha;grind[AV.refs]
      |sref m p=>obtain⟨r,e,s,h1,-⟩:=ha;grind[AV.refs]
      |swin m p o l=>obtain⟨r,e,s,_,_,_,h1,-⟩:=ha;grind[AV.refs]
      |_=>cases y
     cases sv with
     |one E=>exact one E _ A y
     |cmp c vs=>
      obtain⟨us,-,h2⟩:=A;simp[SV.refs]at y;have⟨E,h4,y⟩:=y;have⟨k,V⟩:=E5.1 h4;grind) Y
   have g6:=b3b (ro:=ro) (next:=wpAnyIn (Fr ro) 0 P .any ops Q fuel (f.setIfInBounds i true)) (Q:=Q) h6 hG hr hN q L fun v w' U' M' g5 hK=>by
    refine ih (f.setIfInBounds i true) (by grind) ?_ ?_ g5 (by rw[Wx];omega) (by grind[UP]) ?_
    grind;intro j k hj g4 h5;have up:∀m,f.getD m true=true->(f.setIfInBounds i true).getD m true=true:=fun m hm=>by
     by_cases e:m=i;subst e
     simp
     simp at hm|-;grind
    by_cases e:j=i;grind;refine up k (S j k hj ?_ h5);simp at g4|-;grind;grind
   unfold wpOpIn;grind
theorem b7c{Z:Type}{U:AE}{a:Act}{w:World}{M:Gh}(e:vC P cx)(r:gD cx.G B)(x:P.follows .mixedOrders=true){ops:Array Oper}{id:Nat}{c:List Md}{K:AE->Rs Z}{z:Z}{Q:Exit->Act->World->Prop} (h:sM B U N (AH a) w M)(t:a.tmps.size=N)(q:a.defers=D)(v:∀o∈ops.toList,RM N ops.toList o=true)(m:a4X ops c=true)(F:Tn cx ops.toList (c.zip ops.toList) U K=some z) (u:∀d w' n M',sM B n N (AH d) w' M'->d.tmps.size=N->d.defers=D->K n=some z->Q .normal d w'):(Code.region id ops true).wpIn (Fr ro) 0 P Q a w:=by
 refine wpIn_region_any x ?_;have f:=a7K m;have g:sM B U N (AH a) { w with drawn:=w.drawn+1 } M:=h.ext (fun _ _=>rfl) (C5 _);have l:∀i,i<ops.size->(D3 ops.size false).getD i true=false:=fun i p=>by simp_all
 have b:Fq ops.size (D3 ops.size false)=C9 ops.size:=by simp_all[Fq]
 refine b7b e r f v u ops.size _ (by simp) (by simp_all) (fun j k C E _=>by simp_all) g t q ?_;rw[b];rw[show(C9 ops.size).map (rG ops c)=c.zip ops.toList from ?_];omega;refine F5 fun i=>?_
 rw[F6];by_cases p:i<ops.size;have y:i<c.length:=by rw[f.len];omega
 have A:i<ops.toList.length:=by omega
 rw[List.getElem?_range p,lG (by grind)];simp_all[rG];grind
end
def rI:Ex->Exit|.normal=>.normal|.exit i=>.exit i|.ret=>.ret
def c1Z{Z:Type}(B:Base)(N:Nat)(D:List Deferred)(K:Ex->AE->Rs Z)(z:Z):Exit->Act->World->Prop:=fun e a w=>∃ex U M,e=rI ex/\K ex U=some z/\sM B U N (AH a) w M/\a.tmps.size=N/\a.defers=D
def CM(N:Nat):Code->Bool|.region _ ops _=>ops.toList.all (RM N ops.toList)|.seq a b=>CM N a&&CM N b|.cond c a b=>Cj N c&&(CM N a&&CM N b)|.block _ c|.loop c=>CM N c|_=>true
def sF.fits(N:Nat)(H:sF):Bool:=H.loops.all (fun p=>p.2.1.fits N&&p.2.2.all (fun q=>q.2.fits N))&&H.cuts.all (fun p=>p.2.all (fun q=>q.2.fits N))
theorem rJ{α:Type}:∀{l:List (Nat×α)} {n:Nat} {x:α},find l n=some x->∃k,(k,x)∈l|(k,y)::r,n,x,h=>by simp[find]at h;rcases Ai h with⟨-,h⟩|⟨-,h⟩;simp only[sj]at h;exact⟨k,by simp[h]⟩;have⟨f,g⟩:=rJ h;exact⟨f,A9 _ g⟩
section
variable {P:Program} {B:Base} {N:Nat} {cx:Cx} {H:sF} {ro:Option Nat} {D:List Deferred}
theorem mZ{Q:Exit->Act->World->Prop}{a:Act}{w:World}{c:Code}(I:Nat->Act->World->Prop)(d:Nat)(l:I d a w)
  (round:∀n a w,I n a w->c.wpIn (Fr ro) 0 P (Exit.then (fun f w'=>∃m,m<n/\I m f w') Q) a w):(Code.loop c).wpIn (Fr ro) 0 P Q a w:=by
 classical
 have g:∀a w,(∃n,I n a w)->∃n,I n a w/\∀m,I m a w->n<=m:=by
  intro a w ⟨n,q⟩
  induction n using Nat.strongRecOn with
  |_ n r=>
   grind
 let μ:Act->World->Nat:=fun a w=>if h:∃n,I n a w then(g a w h).choose else 0
 refine wpIn_loop (fun a w=>∃n,I n a w) μ ⟨d,l⟩ fun a w i=>?_
 have j:=(g a w i).choose_spec;refine wpIn_mono (round _ a w j.1) fun e f w' k=>?_
 cases e with
 |normal=>
  obtain⟨m,p,b⟩:=k;refine⟨⟨m,b⟩,?_⟩;have o:∃n,I n f w':=⟨m,b⟩;grind
 |_=>exact k
theorem Po(h3:vC P cx)(hG:gD cx.G B)(hm:P.follows .mixedOrders=true)(hH:H.fits N=true):∀(c:Code) (p:Nat){Z:Type}{U:AE}{K:Ex->AE->Rs Z}{z:Z}{a:Act}{w:World}{M:Gh}(_:CM N c=true)
  (_:Dv cx H c p U K=some z) (_:sM B U N (AH a) w M) (_:a.tmps.size=N) (_:a.defers=D),c.wpIn (Fr ro) 0 P (c1Z B N D K z) a w:=by
 intro c;have V:∀p s F,find H.loops p=some (s,F)->s.fits N=true/\F.all (fun q=>q.2.fits N)=true:=fun p s F h=>by
  have⟨k,hk⟩:=rJ h;simp only[sF.fits,bA]at hH;grind
 have h0:∀p F,find H.cuts p=some F->F.all (fun q=>q.2.fits N)=true:=fun p F h=>by
  have⟨k,hk⟩:=rJ h;simp only[sF.fits,bA]at hH;grind
 induction c with
 |skip=>intro p Z U K z a w M l d h r m;exact wpIn_skip ⟨.normal,U,M,rfl,by simp_all[Dv],h,r,m⟩
 |region rid ops draw=>
  intro p Z U K z a w M l d h r m;simp[Dv]at d;have h4:∀o∈ops.toList,RM N ops.toList o=true:=fun o ho=>lA.1 l o ho;cases draw with
  |false=>
   simp at d;refine wpIn_region_list ?_
   have:=b3c (Q:=c1Z B N D K z) (ro:=ro) (D:=D) h3 hG (ops:=ops) (ops.toList.map fun o=>(Md.x,o)) h r m (fun q hq=>by
    grind) d (fun Y w' C A u f g j=>⟨.normal,C,A,rfl,j,u,f,g⟩)
   rwa [F0,show((fun x:Md×Oper=>x.2)∘fun o=>(Md.x,o))=_root_.id from rfl,D6]at this
  |true=>
   simp at d;split at d;rename_i ms h9;have⟨h6,d⟩:=(Ai d).elim id fun h=>by grind
   exact b7c h3 hG hm h r m h4 h6 d fun Y w' C A u f g j=>⟨.normal,C,A,rfl,j,u,f,g⟩;simp_all
 |seq x y ihx ihy=>
  intro p Z U K z a w M l d h r m;simp[CM]at l;simp[Dv]at d;refine wpIn_seq ?_
  split at d
  ·refine wpIn_mono (ihx _ l.1 d h r m) ?_
   rintro e Y w' ⟨ex,C,A,rfl,j,u,f,g⟩;cases ex with
   |normal=>exact ihy _ l.2 j u f g
   |exit i=>exact⟨.exit i,C,A,rfl,j,u,f,g⟩
   |ret=>exact⟨.ret,C,A,rfl,j,u,f,g⟩
  ·rename_i F T;have⟨y0,h1,h2⟩:=B8.1 d;refine wpIn_mono (ihx _ l.1 h1 h r m) ?_
   rintro e Y w' ⟨ex,C,A,rfl,j,u,f,g⟩;have⟨y1,X,O,E,L,k3⟩:=Ov F u (h0 _ _ T) j;simp at E;subst E;rw[k3]at h2;cases ex with
   |normal=>exact ihy _ l.2 h2 L f g
   |exit i=>exact⟨.exit i,X,O,rfl,h2,L,f,g⟩
   |ret=>exact⟨.ret,X,O,rfl,h2,L,f,g⟩
 |cond c x y ihx ihy=>
  intro p Z U K z a w M l d h r m;simp[CM]at l;simp[Dv]at d;split at d
  ·rename_i t ht;have hc:=h.sN l.1;rw[ht]at hc;have hc:=Ay.bool hc;rcases Ai d with⟨rfl,d⟩|⟨rfl,d⟩;all_goals grind[wpIn_cond_true,wpIn_cond_false]
  simp_all
 |block id c ih=>
  intro p Z U K z a w M l d h r m;simp[Dv]at d;refine wpIn_block (wpIn_mono (ih _ l d h r m) ?_);rintro e Y w' ⟨ex,C,A,rfl,j,u,f,g⟩;cases ex with
  |normal=>exact⟨.normal,C,A,rfl,j,u,f,g⟩
  |exit i=>
   simp[rI,Exit.inBlock];rcases Ai j with⟨hi,j⟩|⟨hi,j⟩;rw[if_pos (by simp_all)];exact⟨.normal,C,A,rfl,j,u,f,g⟩;rw[if_neg (by simp_all)];exact⟨.exit i,C,A,rfl,j,u,f,g⟩
  |ret=>exact⟨.ret,C,A,rfl,j,u,f,g⟩
 |loop c ih=>
  intro p Z U K z a w M l d h r m;simp[Dv]at d;split at d;grind
  ·rename_i s F h7;have⟨hs,T⟩:=V _ _ _ h7;have⟨x0,M0,h1,h2⟩:=h.wX hs d;have⟨y,hy,j⟩:=B8.1 h1;have⟨n0,h5⟩:=b4s hy;refine mZ (fun n a w=>∃x M,Je _ n x=some y/\sM B (s.enc x) N (AH a) w M/\a.tmps.size=N/\a.defers=D) n0 ⟨x0,M0,h5,h2,r,m⟩ ?_
   rintro n a w ⟨x,M,hn,u,f,g⟩;cases n with
   |zero=>simp_all[Je]
   |succ n=>
    simp[Je]at hn;split at hn;grind
    ·rename_i x' h8;refine wpIn_mono (ih _ l h8 u f g) ?_
     rintro e Y w' ⟨ex,C,A,rfl,v,I,S,R⟩;cases ex with
     |normal=>
      simp at v;have⟨x2,O,E,L⟩:=I.wX hs v;simp at E;subst E;exact⟨n,Nat.lt_succ_self n,x2,O,hn,L,S,R⟩
     |exit i=>
      grind[Ov]
     |ret=>
      grind[Ov]
    ·rename_i b hb;simp at hn;subst hn;refine wpIn_mono (ih _ l hb u f g) ?_
     rintro e Y w' ⟨ex,C,A,rfl,v,I,S,R⟩;cases ex with
     |normal=>
      simp at v;have⟨x2,O,E,L⟩:=I.wX hs v;grind
     |exit i=>
      have⟨y1,X,O,E,L,k3⟩:=Ov F I T v;simp at E;subst E;rw[k3]at j;exact⟨.exit i,X,O,rfl,j,L,S,R⟩
     |ret=>
      have⟨y1,X,O,E,L,k3⟩:=Ov F I T v;simp at E;subst E;rw[k3]at j;exact⟨.ret,X,O,rfl,j,L,S,R⟩
 |exit id=>intro p Z U K z a w M l d h r m;exact wpIn_exit ⟨.exit id,U,M,rfl,by simp_all[Dv],h,r,m⟩
 |ret=>intro p Z U K z a w M l d h r m;exact wpIn_ret ⟨.ret,U,M,rfl,by simp_all[Dv],h,r,m⟩
 |_=>intro p Z U K z a w M l d h r m;simp only[Dv]at d;cases d
end
theorem a7L{α:Type}{P:Program}{w:World}{f:α->Sem Value}:∀(l:List α)(us:List Value),us.length=l.length->(∀(k:Nat) x u,l[k]?=some x->us[k]?=some u->(f x).run P w=.ok u w)->(l.mapM f).run P w=.ok us w|[],us,g,_=>by simp_all|x::l,[],g,_=>by simp_all|x::l,u::us,g,h=>by have a:=h 0 x u rfl rfl;have b:=a7L l us (by simpa using g) (fun k y v d c=>h (k+1) y v (by simpa using d) (by simpa using c));simp[List.mapM_cons,a,b,Result.andThen]
def Kk(tk:List Nat)(U U':AE):Prop:=(∀i av,U.get i=av->(av.tX=true\/∃n∈tk,av=.sref n []\/av=.ptr n [])->U'.get i=av)/\∀n∈tk,U'.rt n=U.rt n
theorem Kk.refl{g U}:Kk g U U:=⟨fun _ _ h _=>h,fun _ _=>rfl⟩
theorem Kk.trans{a f U b g}(h:Kk a U b)(d:Kk f b g)(l:∀n∈a,n∈f):Kk a U g:=⟨fun i c m j=>d.1 i c (h.1 i c m j) (j.imp id fun⟨n,k,e⟩=>⟨n,l n k,e⟩),fun n k=>(d.2 n (l n k)).trans (h.2 n k)⟩
theorem Kk.gone{h:List Nat}{U:AE}{n:Nat}(b:n∉h)(f:AV->AV)(g:∀av:AV,(av.tX=true\/∃m,m≠n/\(av=.sref m []\/av=.ptr m []))->f av=av):Kk h U ((U.sJ f).sI n none):=by refine⟨fun i av k c=>?_,fun m a=>?_⟩;grind[AE.get,AE.sI,AE.sJ,SV.sJ];(have:(m==n)=false:=by grind);simp[AE.sI,AE.sJ,this]
theorem Kk.set{a:List Nat}{U k:AE}(h:Kk a U k){j:Nat}{av:AV}(c:U.get j=.dead):Kk a U (k.set j av):=by(refine⟨fun i v f g=>?_,fun n d=>h.2 n d⟩;have b:i≠j:=by rintro rfl;rw[c]at f;subst f;rcases g with g|⟨m,-,e|e⟩;cases g;all_goals simp_all);have:=h.1 i v f g;simp_all[AE.get,Ey]
def a7M(tk tk':List Nat)(U:AE)(av:AV):((r:RA)×r.ty.sK)->Prop|⟨.v t,x⟩=>av=.val t x/\tk'=tk|⟨.o e,x⟩=>(∃n,av=.sref n []/\n∉tk/\tk'=n::tk/\U.rt n=some ⟨false,.list true e,x⟩)\/((av=.nils\/av=.empt)/\x=[]/\tk'=tk)|⟨.b t,x⟩=>∃n,av=.ptr n []/\n∉tk/\tk'=n::tk/\U.rt n=some ⟨true,t,x⟩
theorem a7N{U:AE}{n i:Nat}{r:Option sP}{f:AV->AV}{av:AV}(h:U.get i=av)(g:f av=av):((U.sJ f).sI n r).get i=av:=by grind[AE.get,AE.sI,AE.sJ,SV.sJ]
theorem sM.clear{B U N tm w M}(h:sM B U N tm w M){n:Nat}{e:Ty}{l:List e.sK}(hr:U.rt n=some ⟨false,.list true e,l⟩)(T:U.pd=none)(hn:n<pinned){v:Value}(hv:Ay (Af w M.ov) M.g U.rt (Ba B w M) (.swin n [] 0 0) v):
  ∃M1,sM B ((U.sJ (AV.drop n)).sI n (some ⟨false,.list true e,([]:List e.sK)⟩)) N tm w M1/\M1.g n=.one v:=by
 have Z:∃O,AL (Af w M.ov) (.list true e) ((Src.one v).rd (Af w M.ov))=some (([]:List e.sK),O,[])/\(∀p∈O,p∈M.ow n)/\(O.map (·.1)).Nodup:=by
  obtain⟨I,R,t,-,h3⟩:=(h.roots n _ hr).rd;rcases h3 with⟨g,-⟩|⟨-,⟨v0,Y⟩,-,ho⟩;grind;obtain⟨r,e',s,a,l',c,F,G,L,-,K,rfl,g5,g6⟩:=hv;rw[hr]at F;cases F;rw[Y]at G t;have hs:Src.one v0=s:=by
   have:=Option.some.inj G
   simp_all
  subst hs;obtain rfl:v0=.slice a l' c:=by simpa[Src.rd]using L
  have t:Cq (Af w M.ov) true e.cells (AL (Af w M.ov) e) (some (.slice a l' c))=some (l,I,R):=t;show ∃O,Cq (Af w M.ov) true e.cells (AL (Af w M.ov) e) (some (.slice K 0 (c-0)))=_/\_;by_cases z:c=0;subst z;refine⟨[],?_,by simp,by simp⟩;cases K<;>simp[Cq,Ak]<;>rfl
  ·cases a with
   |none=>simp_all[Cq]
   |some A=>
    obtain rfl:K=some (A.add (0*e.cells)):=by simp_all
    have X:=(g5 _ rfl).resolve_left (by omega);rw[Nat.zero_mul]at X;simp only[Cq]at t;split at t;split at t;grind;rename_i xs os rs h0;simp only[if_true]at t;simp at t;obtain⟨-,rfl,-⟩:=t;simp_all[Cq,Ak,Addr.add];simp_all
 have⟨O,k1,k2,k3⟩:=Z
 let f:Nat->CI:=fun m=>if m=n then O else M.ow m
 have d:∀m c,c∈(f m).map (·.1)->c∈(M.ow m).map (·.1):=fun m c z=>by
  grind
 have C:∀c,BB ⟨fun m=>if m=n then .one v else M.g m,f,M.ov⟩ c->BB M c:=fun c ⟨m,j⟩=>⟨m,d m c j⟩
 have E:∀c,Ba B w M c->Ba B w ⟨fun m=>if m=n then .one v else M.g m,f,M.ov⟩ c:=fun c ⟨a1,a2,a3⟩=>⟨a1,a2,fun g=>a3 (C c g)⟩
 have y:∀m,m≠n->((U.sJ (AV.drop n)).sI n (some ⟨false,.list true e,([]:List e.sK)⟩)).rt m=U.rt m:=fun m j=>by
  have:(m==n)=false:=by simp_all
  simp[AE.sI,AE.sJ,this]
 have V:((U.sJ (AV.drop n)).sI n (some ⟨false,.list true e,([]:List e.sK)⟩)).rt n=some ⟨false,.list true e,([]:List e.sK)⟩:=by simp[AE.sI]
 refine⟨⟨fun m=>if m=n then .one v else M.g m,f,M.ov⟩,⟨fun m r j=>?_,fun m j=>?_,fun m=>?_,fun m m' S c z P=>h.sV m m' S c (d m c z) (d m' c P),fun m p H=>?_,fun i hi=>(h.slots i hi).sJ fun a u ha=>?_,?_,h.size,h.frame,fun c z=>h.mine c (C c z),fun i b hb D=>?_,h.still⟩,by simp⟩
 by_cases e1:m=n;subst e1;rw[V]at j;cases j;simp[f];exact⟨O,[],k1,by simp,.inr ⟨rfl,⟨v,rfl⟩,⟨e,rfl⟩,rfl⟩⟩;rw[y m e1]at j;simp[f,if_neg e1];have⟨I,R,F,G,L⟩:=(h.roots m r j).rd;exact⟨I,R,F,fun c z=>E c (G c z),L⟩;by_cases e1:m=n;simp_all;rw[y m e1]at j;simp[f,if_neg e1];exact h.norm m j;by_cases e1:m=n;grind;simp[f,if_neg e1];exact h.nodup m;by_cases e1:m=n;simp[f,if_pos e1]at H;exact h.live n p (k2 p H);simp[f,if_neg e1]at H;exact h.live m p H
 ·by_cases hd:AV.drop n a=.dead;rw[hd];trivial
  ·have Q:AV.drop n a=a/\∀k q,(a=.ptr k q\/a=.sref k q\/∃o l,a=.swin k q o l)->k≠n:=by
    cases a<;>simp only[AV.drop]at hd|-<;>try (refine⟨trivial,?_⟩;rintro k q (h|h|⟨o,l,h⟩)<;>cases h)
    all_goals simp_all
   rw[Q.1];exact ha.other E y (fun k Q=>by grind) Q.2
 ·have:=h.pend
  show Tq _ _ _ U.pd M.ov;rw[T]at this|-;cases hov:M.ov with
  |none=>trivial
  |some x=>rw[hov]at this;exact this.elim
 have:pinned+i≠n:=by omega
 rw[y _ this]at D;simp[if_neg this];exact h.pins i b hb D
def Lg(a:Nat->Value):ResultVar->Sem Value|.tmp t=>pure (a t)|.cell i t=>do loadVar t (<-asAddr (a i))
def VJ(N0:Nat):ResultVar ⊕ Option Nat->Bool|.inl (.tmp i)=>A3 (i<N0)|.inl (.cell i _)=>A3 (i<N0)|.inr _=>true
def ZO(P:Program)(B:Base)(w:World)(tm:Nat->Value)(u:Value):ResultVar ⊕ Option Nat->Prop|.inl r=>(Lg tm r).run P w=.ok u w|.inr none=>u=.slice none 0 0|.inr (some n)=>∀i b,n=pinned+i->B.pin i=some b->a7u b u
section
variable {P:Program} {B:Base} {N:Nat} {w:World} {cx:Cx} {Z:Type}
theorem a3P(g0:CxTy P cx){tm:Nat->Value}{N0:Nat}(Q:N0<=N){U:AE}{M:Gh}(h:sM B U N tm w M)(C:U.pd=none){D:List Nat}{j:Nat}{r:RA}{v:ResultVar ⊕ Option Nat}(hv:VJ N0 v=true)
  {K:r.ty.sK->AE->List Nat->Rs Z}{z:Z}(a:U.out cx D j r v K=some z):
  ∃x H G h9 av u,K x (H.set j av) h9=some z/\sM B H N tm w G/\H.pd=none/\Ay (Af w G.ov) G.g H.rt (Ba B w G) av u/\ZO P B w tm u v/\a7M D h9 H av ⟨r,x⟩/\Kk D U H/\
   ∀i,U.get i=.dead->H.get i=.dead:=by
 have y:∀(U:AE)(n:Nat)(f:AV->AV),f .dead=.dead->∀i,U.get i=.dead->((U.sJ f).sI n none).get i=.dead:=fun U n f hf i hi=>by
  grind[AE.get,AE.sI,AE.sJ,SV.sJ]
 cases r with
 |v t=>
  cases v with
  |inr n=>simp_all[AE.out]
  |inl rv=>
   cases rv with
   |tmp i=>
    simp[VJ]at hv;simp[AE.out]at a;rcases Ai a with⟨-,g⟩|⟨g7,a⟩;grind;have d:∀n∈(U.get i).sU,n∉D:=fun n hn hu=>by
     simp_all
    have q:=FD h (B3 hv Q);have g6:∃x H G,K x (H.set j (.val t x)) D=some z/\sM B H N tm w G/\Ci (Af w G.ov) (Ba B w G) t x (tm i)/\H.pd=U.pd/\Kk D U H/\∀i,U.get i=.dead->H.get i=.dead:=by

     let K':t.sK->AE->Rs Z:=fun x U'=>K x (U'.set j (.val t x)) D
     cases F:U.get i with
     |tZ g=>
      simp_all[AE.uT]
     |val V x=>
      rw[F]at a q;simp[AE.uT]at a;split at a;rename_i x2 h0;exact⟨x2,U,M,a,h,Ci.tF h0 q,rfl,Kk.refl,fun _ g=>g⟩;simp_all
     |nils=>
      rw[F]at a q;cases t with
      |list o e=>
       cases o with
       |false=>
        obtain q:tm i=_:=q;exact⟨[],U,M,a,h,by rw[q];exact Ci.empty,rfl,Kk.refl,fun _ g=>g⟩
       |true=>simp_all[AE.uT]
      |nl e=>
       obtain q:tm i=_:=q;exact⟨_,U,M,a,h,by simp_all[Ci.wN],rfl,Kk.refl,fun _ g=>g⟩
      |_=>simp only[AE.uT]at a;cases a
     |empt=>
      rw[F]at a q;cases t with
      |list o e=>
       cases o with
       |false=>
        have⟨A,q⟩:=q;exact⟨[],U,M,a,h,by rw[q];exact Ci.empty,rfl,Kk.refl,fun _ g=>g⟩
       |true=>simp_all[AE.uT]
      |_=>simp only[AE.uT]at a;cases a
     |sref n p=>
      rw[F]at a q d;cases p with
      |cons=>simp_all[AE.uT]
      |nil=>
       simp[AE.uT]at a;split at a
       ·rename_i e l E;have⟨h8,E⟩:=AR E;split at a
        ·rename_i ht;subst ht;have Y:=h.vR q E rfl;refine⟨_,_,_,a,h.xH E (by simp_all),Y.frame (fun _ _ _=>rfl) (fun c hc=>?_),rfl,Kk.gone (d n (by simp[AV.sU])) _ ?_,y U n _ rfl⟩;rcases hc with g|g;exact sM.tT c g;have I:BB M c:=⟨n,g⟩;refine⟨h.lt I,.inr (h.mine c I),fun⟨m,L⟩=>?_⟩;have L:c∈(if m=n then[]else M.ow m).map (·.1):=L
         split at L;simp_all;rename_i X;exact h.sV m n X c L g
         ·rintro av (g|⟨m,L,rfl|rfl⟩);cases av<;>first|rfl|cases g
          all_goals simp_all[AV.xH]
        simp_all
       simp_all
     |swin n p o k=>
      rw[F]at a q d;cases p with
      |cons=>simp_all[AE.uT]
      |nil=>
       simp[AE.uT]at a;split at a
       ·rename_i e l E;have⟨h8,E⟩:=AR E;split at a
        ·rename_i ht;subst ht;have Y:=h.vS q E rfl;refine⟨_,_,_,a,h.xH E (by simp_all),Y.frame (fun _ _ _=>rfl) (fun c hc=>?_),rfl,Kk.gone (d n (by simp[AV.sU])) _ ?_,y U n _ rfl⟩;rcases hc with g|g;exact sM.tT c g;have I:BB M c:=⟨n,g⟩;refine⟨h.lt I,.inr (h.mine c I),fun⟨m,L⟩=>?_⟩;have L:c∈(if m=n then[]else M.ow m).map (·.1):=L
         split at L;simp_all;rename_i X;exact h.sV m n X c L g
         ·rintro av (g|⟨m,L,rfl|rfl⟩);cases av<;>first|rfl|cases g
          all_goals simp_all[AV.xH]
        simp_all
       simp_all
     |dead|skp|nilp|ptr|vptr=>rw[F]at a;cases a
    have⟨x,H,G,k1,k2,k3,k4,k5,k6⟩:=g6;exact⟨x,H,G,D,.val t x,tm i,k1,k2,k4.trans C,k3,by rfl,⟨rfl,rfl⟩,k5,k6⟩
   |cell i V=>
    simp[VJ]at hv;simp only[AE.out]at a;have q:=FD h (B3 hv Q);split at a
    ·rename_i n F;rw[F]at q;rcases Ai a with⟨-,g⟩|⟨d,a⟩;grind;have d:n∉D:=by simp_all
     split at a
     ·rename_i hT;have⟨g4,g5⟩:=g0.T V _ hT;have⟨u,H,G,O,h1,h2,h3,h4,h5⟩:=sM.yY g5 g4 h q a;split at h4
      ·rename_i k0 x;split at h4
       ·rename_i x2 h0;have h6:Ay (Af w G.ov) G.g H.rt (Ba B w G) (.val t x2) u:=Ci.tF h0 h3;have hu:(Lg tm (.cell i V)).run P w=.ok u w:=by
         obtain⟨r',t1,b,g9,-,-,g3⟩:=q;simp_all[Instr.loadAt,Instr.sureAddr,Lg,asAddr]
        rcases h5 with⟨rfl,rfl⟩|⟨-,m,L,rfl⟩;exact⟨x2,H,G,D,.val t x2,u,h4,h2,C,h6,hu,⟨rfl,rfl⟩,Kk.refl,fun _ g=>g⟩
        ·cases L;refine⟨x2,_,G,D,.val t x2,u,h4,h2,C,h6,hu,⟨rfl,rfl⟩,Kk.gone d _ ?_,y U n _ rfl⟩;rintro av (g|⟨m,L,rfl|rfl⟩);cases av<;>first|rfl|cases g
         all_goals simp_all[AV.drop]
       simp_all
      simp_all
     simp_all
    simp_all
 |o e=>
  cases v with
  |inr n=>
   cases n with
   |none=>
    simp[AE.out]at a;exact⟨[],U,M,D,.nils,.slice none 0 0,a,h,C,rfl,rfl,.inr ⟨.inl rfl,rfl,rfl⟩,Kk.refl,fun _ g=>g⟩
   |some n=>
    simp only[AE.out]at a;rcases Ai a with⟨-,g⟩|⟨d,a⟩;grind;have d:n∉D:=by simp_all
    split at a;rename_i e' x E;split at a;rename_i S;subst S;rcases h.uJ E with⟨g,-⟩|⟨-,u,e2,F,-⟩;grind;refine⟨x,U,M,n::D,.sref n [],u,a,h,C,⟨_,e',.one u,E,by show some (_,M.g n)=_;grind,rfl⟩,fun i b' hn hb=>?_,.inl ⟨n,rfl,d,rfl,E⟩,Kk.refl,fun _ g=>g⟩;subst hn
    have:=h.pins i b' hb (by simp_all)
    rw[<-this,F];rfl;simp_all;simp_all
  |inl rv=>
   cases rv with
   |cell i V=>simp_all[AE.out]
   |tmp i=>
    simp[VJ]at hv;have q:=FD h (B3 hv Q);simp only[AE.out]at a;split at a;rename_i n F;rw[F]at q;rcases Ai a with⟨-,g⟩|⟨d,a⟩;grind;have d:n∉D:=by simp_all
    split at a;rename_i e' l E;split at a;rename_i S;subst S;exact⟨l,U,M,n::D,.sref n [],tm i,a,h,C,q,by rfl,.inl ⟨n,rfl,d,rfl,E⟩,Kk.refl,fun _ g=>g⟩;simp_all;simp_all;rename_i F;rw[F]at q;exact⟨[],U,M,D,.nils,tm i,a,h,C,q,by rfl,.inr ⟨.inl rfl,rfl,rfl⟩,Kk.refl,fun _ g=>g⟩;rename_i F;rw[F]at q;exact⟨[],U,M,D,.empt,tm i,a,h,C,q,by rfl,.inr ⟨.inr rfl,rfl,rfl⟩,Kk.refl,fun _ g=>g⟩;rename_i n F;rw[F]at q;rcases Ai a with⟨-,g⟩|⟨d,a⟩;grind;simp only[Bool.or_eq_false_iff,Bool.not_eq_false',dT]at d;have h7:n∉D:=by simp_all
    split at a;rename_i e' l E;split at a;rename_i S;subst S;have⟨G,k1,k2⟩:=h.clear (AR E).2 C d.2 q;refine⟨[],_,G,n::D,.sref n [],tm i,a,k1,C,⟨_,e',.one (tm i),by simp[AE.sI];rfl,by show some (_,G.g n)=_;grind,rfl⟩,by rfl,.inl ⟨n,rfl,h7,rfl,by simp[AE.sI]⟩,⟨fun i' O g1 g2=>?_,fun m L=>?_⟩,fun i' g=>?_⟩;have hd:AV.drop n O=O:=by
     rcases g2 with g|⟨m,L,rfl|rfl⟩;cases O<;>first|rfl|cases g
     have:(m==n)=false:=by grind
     simp[AV.drop,this]
     have:(m==n)=false:=by grind
     simp[AV.drop,this]
    exact a7N g1 hd
    have:(m==n)=false:=by grind
    simp[AE.sI,AE.sJ,this];exact a7N g rfl;simp_all;simp_all;simp_all
 |b t=>
  cases v with
  |inr n=>
   cases n with
   |none=>simp_all[AE.out]
   |some n=>
   simp only[AE.out]at a;rcases Ai a with⟨-,g⟩|⟨d,a⟩;grind;have d:n∉D:=by simp_all
   split at a;rename_i V x E;split at a;rename_i S;subst S;obtain⟨O',R,-,-,hc⟩:=(h.roots n _ E).rd;rcases hc with⟨-,b,hs,-⟩|⟨hb,-⟩;refine⟨x,U,M,n::D,.ptr n [],.pointer (some ⟨b,0,none⟩),a,h,C,⟨_,V,b,0,E,by show some (V,M.g n)=_;grind,rfl⟩,fun i b' hn hb=>?_,⟨n,rfl,d,rfl,E⟩,Kk.refl,fun _ g=>g⟩;subst hn
   have:=h.pins i b' hb (by simp_all)
   rw[<-this,hs];exact⟨rfl,rfl⟩;simp_all;simp_all;simp_all
  |inl rv=>
   cases rv with
   |cell i V=>simp_all[AE.out]
   |tmp i=>
    simp[VJ]at hv;have q:=FD h (B3 hv Q);simp only[AE.out]at a;split at a;rename_i n F;rw[F]at q;rcases Ai a with⟨-,g⟩|⟨d,a⟩;grind;have d:n∉D:=by
     simp_all
    split at a;rename_i V x E;split at a;rename_i S;subst S;exact⟨x,U,M,n::D,.ptr n [],tm i,a,h,C,q,by rfl,⟨n,rfl,d,rfl,E⟩,Kk.refl,fun _ g=>g⟩;simp_all;simp_all;simp_all
end
def c4Y(U:AE)(av:AV)(o:Option Nat):((r:RA)×r.ty.sK)->Prop|⟨.v t,x⟩=>av=.val t x/\o=none|⟨.o e,x⟩=>(∃n,o=some n/\av=.sref n []/\U.rt n=some ⟨false,.list true e,x⟩)\/(o=none/\(av=.nils\/av=.empt)/\x=[])|⟨.b t,x⟩=>∃n,o=some n/\av=.ptr n []/\U.rt n=some ⟨true,t,x⟩
theorem a7M.yJ{p f:List Nat}{U j:AE}{av:AV}{i:Nat}(d:U.get i=av):∀{it:(r:RA)×r.ty.sK},a7M p f U av it->Kk f U j->∃o,c4Y j (j.get i) o it/\(∀n∈p,n∈f)/\∀n,o=some n->n∉p/\n∈f|⟨.v t,x⟩,⟨a,c⟩,k=>by subst a;subst c;exact⟨none,⟨k.1 i _ d (.inl rfl),rfl⟩,fun _ g=>g,by simp⟩|⟨.o e,x⟩,h,k=>(by rcases h with⟨n,rfl,c,rfl,l⟩|⟨a,c,rfl⟩;refine⟨some n,.inl ⟨n,rfl,k.1 i _ d (.inr ⟨n,by simp,.inl rfl⟩),(k.2 n (by simp)).trans l⟩,fun m g=>A9 _ g,?_⟩;simp_all;refine⟨none,.inr ⟨rfl,?_,c⟩,fun _ g=>g,by simp⟩;rw[k.1 i av d (.inl (by rcases a with rfl|rfl<;>rfl))];omega)|⟨.b t,x⟩,⟨n,a,c,q,l⟩,k=>by subst a;subst q;refine⟨some n,⟨n,rfl,k.1 i _ d (.inr ⟨n,by simp,.inr rfl⟩),(k.2 n (by simp)).trans l⟩,fun m g=>A9 _ g,?_⟩;simp_all
section
variable {P:Program} {B:Base} {w:World} {cx:Cx} {Z:Type}
theorem sM.wT{N:Nat}{tm:Nat->Value}{U:AE}{M:Gh}(h:sM B U N tm w M){av:AV}{u:Value}(hv:Ay (Af w M.ov) M.g U.rt (Ba B w M) av u):sM B (U.set N av) (N+1) (fun i=>if i=N then u else tm i) w M:=by refine⟨h.roots,h.norm,h.nodup,h.sV,h.live,fun i f=>?_,h.pend,h.size,h.frame,h.mine,h.pins,h.still⟩;rw[Ey];by_cases e:i=N;rw[if_pos e,if_pos e];exact hv;rw[if_neg e,if_neg e];exact h.slots i (by omega)
theorem ZO.congr{tm g:Nat->Value}{N0:Nat}{u:Value}{v:ResultVar ⊕ Option Nat}(hv:VJ N0 v=true)(h:ZO P B w tm u v)(f:∀i,i<N0->g i=tm i):ZO P B w g u v:=by cases v with|inr n=>(cases n<;>exact h)|inl r=>cases r with|tmp i=>(simp[VJ]at hv;simp only[ZO,Lg]at h|-;simp_all)|cell i t=>simp[VJ]at hv;simp only[ZO,Lg]at h|-;simp_all
structure xY (P:Program) (B:Base) (w:World) (N0 N:Nat) (tm:Nat->Value) (tk:List Nat) (U U':AE) (M':Gh) (rs:List RA) (vs:List (ResultVar ⊕ Option Nat)) (y:(DG (rs.map RA.ty)).sK) (us:List Value) (tm':Nat->Value) (ns:List (Option Nat)):Prop where
 lu:us.length=rs.length
 lv:vs.length=rs.length
 ln:ns.length=rs.length
 rel:sM B U' (N+rs.length) tm' w M'
 pd:U'.pd=none
 low:∀i,i<N->tm' i=tm i
 high:∀(k:Nat) u,us[k]?=some u->tm' (N+k)=u
 stay:Kk tk U U'
 comes:∀(k:Nat) v u,vs[k]?=some v->us[k]?=some u->ZO P B w tm u v
 fin:∀(k:Nat) it o,(EJ rs y)[k]?=some it->ns[k]?=some o->c4Y U' (U'.get (N+k)) o it
 names:∀(k n:Nat),ns[k]?=some (some n)->n∉tk/\∀k':Nat,ns[k']?=some (some n)->k'=k
theorem rK(l:CxTy P cx){N0:Nat}:∀(C:List RA)(b:List (ResultVar ⊕ Option Nat)) {U:AE} {M:Gh} {N:Nat} {tm:Nat->Value} {p:List Nat} (_:N0<=N) (_:sM B U N tm w M) (_:U.pd=none) (_:∀i,N<=i->U.get i=.dead) (_:∀v∈b,VJ N0 v=true) {K:(DG (C.map RA.ty)).sK->AE->Rs Z} {z:Z} (_:U.outs cx p N C b K=some z),∃y E M' us q ns,K y E=some z/\xY P B w N0 N tm p U E M' C b y us q ns|[],b,U,M,N,tm,p,F,h,hpd,hdead,hvs,K,z,m=>(by cases b with|cons=>simp_all[AE.outs]|nil=>exact⟨(),U,M,[],tm,[],m,⟨rfl,rfl,rfl,h,hpd,fun _ _=>rfl,by simp,Kk.refl,by simp,by simp,by simp⟩⟩)|[r],b,U,M,N,tm,p,F,h,hpd,hdead,hvs,K,z,m=>(by match b,hvs with|[],_=>simp_all[AE.outs]|_::_::_,_=>simp_all[AE.outs]|[v],hvs=>(simp[AE.outs]at m;have⟨x,d,X,e,a,u,G,H,I,L,h5,O,Q,R⟩:=a3P l F h hpd (hvs v (by simp)) m;have c:(d.set N a).get N=a:=by simp[AE.get];rw[Ey,if_pos rfl]);have h0:Kk e d (d.set N a):=Kk.refl.set (R N (hdead N (C5 _)));have j:a7M p e (d.set N a) a ⟨r,x⟩:=O;have⟨o,k1,g,k3⟩:=j.yJ c Kk.refl;refine⟨x,d.set N a,X,[u],_,[o],G,⟨rfl,rfl,rfl,H.wT L,I,fun i T=>if_neg (by omega),fun k D f=>?_,Q.set (hdead N (C5 _)),fun k t D f hu=>?_,fun k Y o' f ho=>?_,fun k n f=>?_⟩⟩;all_goals grind[EJ])|r::r'::C,b,U,M,N,tm,p,F,h,hpd,hdead,hvs,K,z,m=>by match b,hvs with|[],_=>simp_all[AE.outs]|v::b,hvs=>(simp[AE.outs]at m;have⟨x,d,X,e,a,u,G,H,I,L,h5,O,Q,R⟩:=a3P l F h hpd (hvs v (by simp)) m;have c:(d.set N a).get N=a:=by simp[AE.get];rw[Ey,if_pos rfl]);(have S:∀i,N+1<=i->(d.set N a).get i=.dead:=fun i T=>by have:=R i (hdead i (by omega));simp[AE.get]at this|-;rw[Ey,if_neg (by omega)];omega);have⟨y,E,M',us,q,ns,k1,g⟩:=rK l (r'::C) b (by omega:N0<=N+1) (H.wT L) I S (fun t h9=>hvs t (by simp_all)) G;have j:a7M p e (d.set N a) a ⟨r,x⟩:=O;have⟨o,j1,j2,j3⟩:=j.yJ c g.stay;refine⟨(x,y),E,M',u::us,q,o::ns,k1,⟨by simp[g.lu],by simp[g.lv],by simp[g.ln],?_,g.pd,fun i T=>?_,fun k D f=>?_,(Q.set (hdead N (C5 _))).trans g.stay j2,fun k t D f hu=>?_,fun k Y o' f ho=>?_,fun k n f=>?_⟩⟩;have:=g.rel;grind;rw[g.low i (by omega),if_neg (by omega)];(cases k with|zero=>simp at f;rw[<-f,Nat.add_zero,g.low N (by omega),if_pos rfl]|succ k=>have:=g.high k D (by simp_all);grind);(cases k with|zero=>simp_all|succ k=>(have A:b[k]?=some t:=by simp_all);exact(g.comes k t D A (by simp_all)).congr (hvs t (by grind)) (fun i T=>(if_neg (by omega)).symm));(cases k with|zero=>simp_all[EJ]|succ k=>have:=g.fin k Y o' (by simpa[EJ]using f) (by simp_all);grind);cases k with|zero=>(simp at f;refine⟨(j3 n f).1,fun V A=>?_⟩;cases V with|zero=>rfl|succ V=>exact absurd (j3 n f).2 (g.names V n (by simp_all)).1)|succ k=>have⟨a1,a2⟩:=g.names k n (by simp_all);grind
end
theorem a7O{P:Program}{fn:Func}{a:Act}{w:World}{g:List Value}(e:g.length=fn.results.toList.length)
  (h:∀(k:Nat) r u,fn.results.toList[k]?=some r->g[k]?=some u->(Lg (AH a) r).run P w=.ok u w):(results fn a.tmps).run P w=.ok (jU g) w:=by
 have b:(fn.results.toList.mapM (Lg (AH a))).run P w=.ok g w:=a7L _ _ e h;have c:fn.results.mapM (Lg (AH a))=Functor.map List.toArray (fn.results.toList.mapM (Lg (AH a))):=by
  rw[<-List.mapM_toArray]
 have d:results fn a.tmps=(do
   let f <-fn.results.mapM (Lg (AH a))
   pure (if h:f.size=1 then f[0]else .tuple f)):=by
  rfl
 rw[d,c];simp only[map_eq_pure_bind,bind_assoc,pure_bind,Sem.run_bind,b,Result.andThen_ok,Sem.run_pure,List.size_toArray];congr 1
 match g with
 | []=>rfl
 | [u]=>rfl
 |_::_::_=>rfl
section
variable {P:Program} {B:Base} {w:World} {cx:Cx}
theorem xY.back{N0 N:Nat}{tm:Nat->Value}{U U':AE}{M':Gh}{M:List RA}{vs y us h1 ns}(h:xY P B w N0 N tm [] U U' M' M vs y us h1 ns):∃C,wR B w (EJ M y) us C:=by
 have h0:=h.rel.tC h.pd;have q:Af w M'.ov=cells w:=by rw[h0];rfl
 let F:Option Nat->Value->Src×CI:=fun o u=>match o with|some n=>(M'.g n,M'.ow n)|none=>(.one u,[])
 let C:=F1 F ns us;have m:∀(k:Nat) L,C[k]?=some L->∃o u,ns[k]?=some o/\us[k]?=some u/\L=F o u:=fun k L hk=>by grind
 have a:∀L∈C,L.2=[]\/∃(k n:Nat),ns[k]?=some (some n)/\L.2=M'.ow n:=fun L d=>by have⟨k,hk⟩:=E5.1 d;grind
 have D:∀c,Ba B w M' c->(c<w.heap.size/\(B.S c\/B.F c\/B.size<=c)/\∀L∈C,c∉L.2.map (·.1)):=fun c j=>⟨j.1,j.2.1,fun L d I=>by rcases a L d with g|⟨k,n,-,g⟩;simp_all;rw[g]at I;exact j.2.2 ⟨n,I⟩⟩
 have K:∀L∈C,∀c∈L.2.map (·.1),BB M' c:=fun L d c j=>by rcases a L d with g|⟨k,n,-,g⟩;simp_all;rw[g]at j;exact⟨n,j⟩
 refine⟨C,⟨by rw[h.lu,MU],by simp[C,h.lu,h.ln,MU],fun k it u L T hu d=>?_,fun L d=>?_,fun k k' L L' d O V c j Q=>?_,fun L d p hp=>?_,fun L d c j=>h.rel.mine c (K L d c j),h.rel.size,h.rel.frame,h.rel.still⟩⟩;obtain⟨o,u',Y,E,rfl⟩:=m k L d;rw[hu]at E;simp at E;subst E;have l:=h.fin k it o T Y;have hk:k<M.length:=by rw[<-h.lu];grind
 have i:=FD h.rel (show N+k<N+M.length by omega);rw[h.high k u hu,q]at i;have⟨r,x⟩:=it;cases r with|v t=>(obtain⟨g1,rfl⟩:=l;rw[g1]at i;exact⟨Ci.frame i (fun _ _ _=>rfl) D,rfl⟩)|o e=>((rcases l with⟨n,rfl,z,H⟩|⟨rfl,z,rfl⟩;rw[z]at i;have⟨r',e',s,a1,G,a3⟩:=i;rw[H]at a1;simp at a1;subst a1;simp only[loc,Cl,sj,pJ]at G;obtain⟨-,rfl⟩:=G;have f:=h.rel.roots n _ H;rw[q]at f;refine⟨?_,f.mono D⟩;obtain⟨O',R,-,-,j⟩:=f.rd;rcases j with⟨hb,-⟩|⟨-,⟨v0,h2⟩,-,-⟩;grind;show M'.g n=.one u;simp_all[Src.rd]);(refine⟨rfl,⟨[],[],?_,by simp,.inr ⟨rfl,⟨_,rfl⟩,⟨e,rfl⟩,rfl⟩⟩⟩;show Cq _ true e.cells (AL _ e) (some u)=some (([]:List e.sK),[],[]);rcases z with z|z;rw[z]at i;have i:u=.slice none 0 0:=i;rw[i];rfl);rw[z]at i;have⟨A,i⟩:=i;rw[i];cases A with|none=>rfl|some A=>rfl)|b t=>obtain⟨n,rfl,z,H⟩:=l;rw[z]at i;have⟨r',t',b,o',a1,G,a3⟩:=i;rw[H]at a1;simp at a1;subst a1;simp[Cl]at G;obtain⟨rfl,G⟩:=G;have f:=h.rel.roots n _ H;rw[q]at f;refine⟨f.mono D,b,?_⟩;obtain⟨O',R,-,-,j⟩:=f.rd;grind
 rcases a L d with g|⟨k,n,-,g⟩;simp_all;rw[g];exact h.rel.nodup n;obtain⟨o,u,Y,-,rfl⟩:=m k L d;obtain⟨o',u',Z,-,rfl⟩:=m k' L' O;cases o with|none=>grind|some n=>cases o' with|none=>grind|some n'=>(have X:n≠n':=by rintro rfl;exact V ((h.names k' n Z).2 k Y));exact h.rel.sV n n' X c j Q
 rcases a L d with g|⟨k,n,-,g⟩;simp_all;rw[g]at hp;exact h.rel.live n p hp
theorem WS:∀(g:List PA)(i0 i:Nat),i∈AW g i0->∃c a,g[i-i0]?=some (.r c a)|[],_,_,h=>by simp[AW]at h|.v _::g,i0,i,h=>(by have:=(TP g (i0+1)).2 i h;have⟨c,a,f⟩:=WS g (i0+1) i h;exact⟨c,a,by rw[show i-i0=(i-(i0+1))+1 from by omega];simpa using f⟩)|.r c a::g,i0,i,h=>by rcases mC.1 h with rfl|h;exact⟨c,a,by simp⟩;have:=(TP g (i0+1)).2 i h;have⟨c,a,f⟩:=WS g (i0+1) i h;exact⟨c,a,by rw[show i-i0=(i-(i0+1))+1 from by omega];simpa using f⟩
def c3z(fn:Func)(c:Code)(H:sF)(s:sG):Bool:=CM fn.ntmps c&&(H.fits fn.ntmps&&(A3 (s.ps.length<=fn.ntmps)&&fn.results.toList.all fun r=>VJ fn.ntmps (.inl r)))
theorem WT(x:CxTy P cx){fn:Func}{s:sG}{y}{args:Array Value}(L:(fn.results.toList.all fun r=>VJ fn.ntmps (.inl r))=true){o:Act}{w':World}{M':Gh}{n:AE}(R:sM B n fn.ntmps (AH o) w' M')(D:n.pd=none)
  (N:(n.upto fn.ntmps).outs cx [] fn.ntmps (RA.all s.ps s.rs) (fn.results.toList.map .inl++(AW s.ps 0).map fun i=>.inr (UH s.ps i)) (fun y _=>some y)=some y)
  (f:b2Y B s.ps args):
  ∃v,(results fn o.tmps).run P w'=.ok v w'/\∃H I,Ending.returned v=.returned (jU H)/\H.length=s.rs.length/\wR B w' (EJ (RA.all s.ps s.rs) y) (H++(AW s.ps 0).map (Gu s.ps args)) I:=by
 have G:sM B (n.upto fn.ntmps) fn.ntmps (AH o) w' M':=R.weak fun i O v d=>by
  simp_all
 have⟨Z,X,V,m,U,Y,K,j⟩:=rK (P:=P) (w:=w') (N0:=fn.ntmps) x _ _ (C5 _) G D (fun i O=>by
   have:A3 (i<fn.ntmps)=false:=by simp_all
   simp only[AE.get,AE.upto,this,cF]) (fun v d=>by
   rcases mA.1 d with d|d;grind;obtain⟨i,-,rfl⟩:=C1.1 d;rfl) N
 simp at K;subst K;have⟨I,t⟩:=j.back;have C:=j.lv;simp only[RA.all,lN,List.length_map,OM s.ps 0,Array.length_toList]at C;have A:=j.lu;simp[RA.all]at A;have S:fn.results.toList.length=s.rs.length:=by simp_all

 have T:m=m.take s.rs.length++(AW s.ps 0).map (Gu s.ps args):=by
  have e:=List.take_append_drop s.rs.length m
  conv=>lhs;rw[<-e]
  congr 1;refine F5 fun k=>?_
  rw[List.getElem?_drop,F6];cases hk:(AW s.ps 0)[k]? with
  |none=>
   simp_all[OM]
  |some i=>
   have l:=(lS.1 hk).1;rw[OM]at l;have F:=lG (show s.rs.length+k<m.length by omega);rw[F]
   simp
   have d:(fn.results.toList.map Sum.inl++(AW s.ps 0).map fun i=>Sum.inr (UH s.ps i))[s.rs.length+k]?=some (Sum.inr (UH s.ps i):ResultVar ⊕ Option Nat):=by
    simp_all[D7]
   have g:=j.comes _ _ _ d F;have z:∃c,mX s.ps i=some c:=by
    have⟨c,a,Q⟩:=WS s.ps 0 i (D2 hk);exact⟨c,SD (by omega)⟩
   have⟨c,h⟩:=z;cases c with
   |true=>
    simp[UH,h]at g;simp[Gu,h];exact g
   |false=>
    simp[UH,h]at g;simp only[Gu,h];have⟨b,p,q⟩:=f i (D2 hk) h;exact a7u.yF (g i b rfl p) q
 have M:(results fn o.tmps).run P w'=.ok (jU (m.take s.rs.length)) w':=by
  refine a7O (by grind) fun k r u E F=>?_
  have l:=(lS.1 E).1;refine j.comes k (.inl r) u ?_ ?_
  all_goals grind
 grind
theorem KU.of(j:vC P cx)(Q:P.follows .mixedOrders=true){f:FuncId}{fn:Func}{c:Code}{H:sF}{s:sG}(t:P.funcs[f]?=some fn)(hb:fn.body=some c)(m:c3z fn c H s=true) (r:∀x,a2d cx H fn s.ps s.rs x=s.F x):KU P cx.G f s:=by
 simp only[c3z,bA,dT]at m;have⟨l,L,S,o⟩:=m;intro w B M args x y K A X O R q h b;rw[<-r x]at A;simp[a2d,hb]at A;let a:Act:={ tmps:=args++D3 (fn.ntmps-args.size) undef,defers:=[] };have z:a.tmps.size=fn.ntmps:=by grind
 have d:sM B (Ws s.ps x) fn.ntmps (AH a) w M:=by refine⟨h.roots,h.norm,h.nodup,h.sV,h.live,fun i Z=>?_,h.pend,h.size,h.frame,h.mine,h.pins,h.still⟩;by_cases hlt:i<s.ps.length;have:=h.slots i hlt;(have e:AH a i=args.getD i undef:=by simp[AH,a,E6];simp_all);simp_all;(have:(Ws s.ps x).sl i=.one .dead:=by simp_all[Ws,IM]);rw[this];trivial
 refine calls_of_wp t hb (wp_mono ((wpIn_wide (n:=0)).1 (Po (ro:=none) (D:=[]) j K Q L c 1 l A d z rfl)) ?_);rintro e V w' ⟨ex,E,U,rfl,p,T,Y,I⟩;simp at p;have C:(∀i,ex≠.exit i)/\E.pd=none/\(E.upto fn.ntmps).outs cx [] fn.ntmps (RA.all s.ps s.rs) (fn.results.toList.map .inl++(AW s.ps 0).map fun i=>.inr (UH s.ps i)) (fun y _=>some y)=some y:=by grind
 have⟨N,u,p⟩:=C;have⟨v,k,g⟩:=WT (args:=args) j.toCxTy o T u p b;cases ex with|exit i=>simp_all|normal=>exact⟨I,_,k,g⟩|ret=>exact⟨I,_,k,g⟩
end
end Go.Ab
namespace Go.Ab
open Go.ChangeShapes Go.WideShapes
def Wf:(t:Ty)->t.sK->Prop|.int k,n=>(Lit.int k n).wf=true|.str,l=>∀b∈(show List Int from l),0<=b/\b<=255|.list _ t,l|.nl t,l=>∀x∈(show List t.sK from l),Wf t x|.arr n t,l=>(show List t.sK from l).length=n/\∀x∈(show List t.sK from l),Wf t x|.pair a b,x=>Wf a x.1/\Wf b x.2|.bool,_|.unit,_=>True
def HG:(t:Ty)->t.sK->Nat|.str,l=>(show List Int from l).length+1|.list _ t,l|.nl t,l=>1+((show List t.sK from l).map (HG t)).sum|.arr _ t,l=>((show List t.sK from l).map (HG t)).sum|.pair a b,x=>HG a x.1+HG b x.2|.unit,_=>0|.int _,_|.bool,_=>1
structure xJ {H:Type} (bulk:DataW H->Nat):Prop where
 one:∀d,1<=bulk d
 str:∀bs,bulk (.lit (.string bs))=bs.length+1
 slice:∀es sp,(es.map bulk).sum+1<=bulk (.slice es sp)
 agg:∀ps,(ps.map bulk).sum<=bulk (.agg ps)
def gZ:Ty->Bool|.list o e=>gZ e&&!o|.nl _=>false|.pair a b=>gZ a&&gZ b|.arr _ t=>gZ t|_=>true
theorem ZP{α:Type}{f:Nat->Option (α×CI×List Nat)}{p:α->Prop}{q:Nat->Prop}{g:α->Nat}{b:Nat->Nat}:∀(n i:Nat),(∀j,j<n->∃x R,f (i+j)=some (x,[],R)/\p x/\g x<=b (i+j)/\∀c∈R,q c)->∃k Rs,Ak f n i=some (k,[],Rs)/\(∀x∈k,p x)/\(k.map g).sum<=((D8 i n).map b).sum/\∀c∈Rs,q c|0,_,_=>⟨[],[],rfl,by simp,by simp,by simp⟩|n+1,i,h=>by obtain⟨x,R,a,r,d,t⟩:=h 0 (by omega);obtain⟨k,Rs,e,l,m,o⟩:=ZP n (i+1) (fun j v=>by have:=h (j+1) (by omega);rwa [show i+(j+1)=i+1+j from by omega]at this);rw[Nat.add_zero]at a d;refine⟨x::k,R++Rs,by simp_all[Ak],fun y w=>?_,?_,fun c u=>?_⟩;grind;all_goals grind[List.range'_succ]
section
variable {H:Type} {enc:TypeId×Value->H} {P:Program} {w:World} {base:Nat} {sp:Nat->Bool} {held:Bool} {bulk:DataW H->Nat}
theorem RS{τ:Ty}{t:TypeId}(h:AQ P τ (.inl t)=true):P.cellsOf t=τ.cells:=by have:=AS h;unfold Mi at this;unfold Program.cellsOf;grind
theorem b3o{a:Addr}{v:Value}(h:w.cell? a=some v):a.block<w.heap.size:=by grind[World.cell?]
theorem c3A(hb:xJ bulk)(hs:∀b,sp b=true):∀(t:Ty),(∀(T:TypeId)(n:Nat)(cs:List Value) y,AQ P t (.inl T)=true->gZ t=true->DataW.trod enc P w base sp held n T cs=some y->∃x R,AL (cells w) t (fun j=>cs[j]?)=some (x,[],R)/\Wf t x/\HG t x<=bulk y.1/\∀c∈R,c<w.heap.size)/\(∀(fs:List Field)(off n:Nat)(cs:List Value)(v:List (DataW H×List MemPlace)),AQ P t (.inr (fs,off))=true->gZ t=true->v.length=fs.length->(∀(i:Nat)(f:Field),fs[i]?=some f->DataW.trod enc P w base sp held n f.type ((cs.drop f.offset).take (P.cellsOf f.type))=v[i]?)->∃x R,AL (cells w) t (fun j=>cs[off+j]?)=some (x,[],R)/\Wf t x/\HG t x<=((v.map (·.1)).map bulk).sum/\∀c∈R,c<w.heap.size):=by intro t;induction t with|int k=>(refine⟨fun T n cs y d _ h=>?_,fun fs off n cs v d=>by simp[AQ]at d⟩;obtain⟨m,rfl,rfl,hw⟩:=DataW.trod_int (RJ d) h;exact⟨m,[],by simp[AL],hw,hb.one _,by simp⟩)|bool=>((refine⟨fun T n cs y d _ h=>?_,fun fs off n cs v d=>by simp[AQ]at d⟩;have K:P.underlying T=some .bool:=by simp[AQ]at d;grind);obtain⟨m,rfl,rfl⟩:=DataW.trod_bool K h;exact⟨m,[],by rfl,trivial,hb.one _,by simp⟩)|str=>((refine⟨fun T n cs y d _ h=>?_,fun fs off n cs v d=>by simp[AQ]at d⟩;have K:P.underlying T=some .string:=by simp[AQ]at d;grind);obtain⟨s,rfl,rfl,-⟩:=DataW.trod_string K h;refine⟨_,[],by rfl,fun b g9=>?_,?_,by simp⟩;obtain⟨u,-,rfl⟩:=C1.1 g9;have:=u.toNat_lt;omega;rw[hb.str];simp[HG])|unit=>refine⟨fun T n cs y d _ h=>⟨(),[],rfl,trivial,Nat.zero_le _,by simp⟩,fun fs off n cs v d _ _ _=>⟨(),[],rfl,trivial,Nat.zero_le _,by simp⟩⟩|pair a b iha ihb=>((have S:(∀(fs:List Field)(off n:Nat)(cs:List Value)(v:List (DataW H×List MemPlace)),AQ P (.pair a b) (.inr (fs,off))=true->gZ (.pair a b)=true->v.length=fs.length->(∀(i:Nat)(f:Field),fs[i]?=some f->DataW.trod enc P w base sp held n f.type ((cs.drop f.offset).take (P.cellsOf f.type))=v[i]?)->∃x R,AL (cells w) (.pair a b) (fun j=>cs[off+j]?)=some (x,[],R)/\Wf (.pair a b) x/\HG (.pair a b) x<=((v.map (·.1)).map bulk).sum/\∀c∈R,c<w.heap.size):=by intro fs off n cs v d A hl hf;cases fs with|nil=>simp[AQ]at d|cons f r=>simp[AQ]at d;obtain⟨⟨⟨ho,g5⟩,C⟩,htb⟩:=d;simp[gZ]at A;cases v with|nil=>grind|cons x0 v=>(have h0:=hf 0 f rfl;simp at h0;rw[RS g5,ho]at h0;have h7:∀j,j<a.cells->((cs.drop off).take a.cells)[j]?=cs[off+j]?:=fun j I=>by grind);obtain⟨x,R,D,F,V,N⟩:=iha.1 f.type n _ x0 g5 A.1 h0;obtain⟨y,R',k1,k2,k3,k4⟩:=ihb.2 r (off+a.cells) n cs v htb A.2 (by grind) (fun i f' hi=>by simpa using hf (i+1) f' (by grind));refine⟨(x,y),R++R',?_,⟨F,k2⟩,?_,fun c hc=>?_⟩;have e1:=AF (m':=cells w) a (rd':=fun j=>cs[off+j]?) D (fun j I=>(h7 j I).symm) (fun _ _ _=>rfl);grind[AL];all_goals grind[HG]);(refine⟨fun T n cs y d A h=>?_,S⟩;obtain⟨fs,K,k0⟩:∃fs:Array Field,P.underlying T=some (.struct fs)/\AQ P (.pair a b) (.inr (fs.toList,0))=true:=by simp[AQ]at d;obtain⟨-,d⟩:=d;split at d;rename_i fs K;refine⟨fs,K,?_⟩;split at d;rename_i f r hr;rw[hr];simp only[AQ,F2];omega;grind;grind);obtain⟨v,m,-,rfl,hl,g0,hf⟩:=DataW.trod_struct K h;obtain⟨x,R,D,F,V,N⟩:=S fs.toList 0 m cs v k0 A (by omega) (fun i f hi=>hf i f (by grind));refine⟨x,R,?_,F,B9 V (hb.agg _),N⟩;grind)|list o e ih=>((refine⟨fun T n cs y d A h=>?_,fun fs off n cs v d=>by simp[AQ]at d⟩;obtain⟨Z,K,E,C⟩:=BQ d;simp[gZ]at A;obtain⟨k6,rfl⟩:=A;rcases DataW.trod_slice K h with⟨rfl,rfl⟩|⟨a,L,h4,l,g6,m,-,rfl,rfl,k9,h8,k8,h9,h5,Y,-⟩;exact⟨[],[],by rfl,by simp[Wf],by simp only[HG];exact hb.one _,by simp⟩;have B:h4=0\/a.spot=none:=by by_cases hc0:h4=0;omega;refine .inr ?_;(have M:∀{o:Nat}{z},o=0->(w.cells? base (a.add (o*P.cellsOf Z)) (P.cellsOf Z)).bind (DataW.trod enc P w base sp held m Z)=some z->a.spot=none:=fun ho O=>by subst ho;obtain⟨U,h2,-⟩:=B8.1 O;rw[RS E]at h2;obtain⟨-,k5,X⟩:=World.cells?_some h2;have h3:=X 0 C;rw[Nat.zero_mul,Addr.add_zero',Addr.add_zero',lG (by omega)]at h3;grind[World.cell?_spot]);by_cases hl0:L=0;obtain⟨a2,k7⟩:=Y (hs _);have O:=k7 0 (by omega);grind;have O:=h5 0 (by omega);grind);(have M:∀i,i<L->∃x R,AL (cells w) e (fun j=>cells w a.block (a.off+(i*e.cells+j)))=some (x,[],R)/\Wf e x/\HG e x<=bulk ((l.getD i (.nil,[])).1)/\(∀c∈R,c<w.heap.size)/\a.block<w.heap.size:=fun i hi=>by(have O:=h5 i hi;rw[lG (by omega)]at O;obtain⟨U,h2,h3⟩:=B8.1 O;rw[RS E]at h2;obtain⟨-,k5,X⟩:=World.cells?_some h2;have B:a.spot=none:=B.resolve_left (by omega);obtain⟨x,R,D,F,V,N⟩:=ih.1 Z m U _ E k6 h3;have G:∀j,j<e.cells->cells w a.block (a.off+(i*e.cells+j))=U[j]?:=fun j I=>by rw[<-X j I];(have:a=⟨a.block,a.off,none⟩:=by rw[<-B]);rw[this,add_plain,add_plain,Nat.add_assoc];rfl);refine⟨x,R,AF e D (fun j I=>G j I) (fun _ _ _=>rfl),F,by simp_all,N,?_⟩;have:=G 0 C;rw[lG (by omega)]at this;exact b3o (a:=⟨a.block,_,none⟩) this);obtain⟨v,Rs,D,F,V,N⟩:=ZP (p:=Wf e) (q:=fun c=>c<w.heap.size) (g:=HG e) (b:=fun i=>bulk ((l.getD i (.nil,[])).1)) L 0 (fun j I=>by obtain⟨x,R,k1,k2,k3,k4,-⟩:=M j I;rw[F2];exact⟨x,R,k1,k2,k3,k4⟩);(have Q:((D8 0 L).map fun i=>bulk ((l.getD i (.nil,[])).1)).sum=((l.map (·.1)).map bulk).sum:=by rw[F0,Go.Deep.map_by_index l (.nil,[]) (bulk∘(·.1)),h9,C6];rfl);have g7:=hb.slice (l.map (·.1)) (g6.map (·.1));by_cases hn:L=0;subst hn;simp only[Ak,sj,pJ]at D;obtain⟨rfl,-,-⟩:=D;exact⟨[],[],by simp only[AL,Cq,C8];rw[if_pos ⟨B,h8⟩];rfl,by simp[Wf],by grind[HG],by simp⟩;refine⟨v,a.block::([]++Rs),?_,F,?_,fun c hc=>?_⟩;simp only[AL,Cq,C8,B,h8,and_self,if_true,D,A8,if_false,if_neg hn,F3];rfl;grind[HG];rcases mC.1 hc with rfl|hc;obtain⟨_,_,_,_,_,_,h6⟩:=M 0 (by omega);omega;grind)|nl e ih=>grind[gZ]|arr n e ih=>(refine⟨fun T f cs y d A h=>?_,fun fs off n cs v d=>by simp[AQ]at d⟩;obtain⟨Z,K,E,C⟩:=RH d;obtain⟨v,m,-,rfl,hl,g0,hf⟩:=DataW.trod_array K h;simp[gZ]at A;have M:∀i,i<n->∃x R,AL (cells w) e (fun j=>cs[i*e.cells+j]?)=some (x,[],R)/\Wf e x/\HG e x<=bulk ((v.getD i (.nil,[])).1)/\∀c∈R,c<w.heap.size:=fun i hi=>by have O:=hf i hi;rw[lG (by omega),RS E]at O;obtain⟨x,R,D,F,V,N⟩:=ih.1 Z m _ _ E A O;refine⟨x,R,AF e D (fun j I=>?_) (fun _ _ _=>rfl),F,by simp_all,N⟩;simp_all);obtain⟨ys,Rs,D,F,V,N⟩:=ZP (p:=Wf e) (q:=fun c=>c<w.heap.size) (g:=HG e) (b:=fun i=>bulk ((v.getD i (.nil,[])).1)) n 0 (fun j I=>by obtain⟨x,R,k1,k2,k3,k4⟩:=M j I;rw[F2];exact⟨x,R,k1,k2,k3,k4⟩);(have Q:((D8 0 n).map fun i=>bulk ((v.getD i (.nil,[])).1)).sum=((v.map (·.1)).map bulk).sum:=by rw[F0,Go.Deep.map_by_index v (.nil,[]) (bulk∘(·.1)),g0,C6];rfl);refine⟨ys,Rs,by simp[AL];exact D,⟨AX _ _ D,F⟩,?_,N⟩;simp[HG];exact B9 (B9 V (Nat.le_of_eq Q)) (hb.agg _)
end
end Go.Ab
namespace Go.Ab
open Go.ChangeShapes Go.WideShapes Go.RowKit
def b7d(ps:List PA)(x:(DG (ps.map PA.ty)).sK):Prop:=∀it∈Bw ps x,Wf it.1.ty it.2
def a7P(ps:List PA)(x:(DG (ps.map PA.ty)).sK):Nat:=((Bw ps x).map fun it=>HG it.1.ty it.2).sum
def Wk(P:Program):List PA->List TypeId->Bool|[],[]=>true|.v t::ps,T::Ts=>AQ P t (.inl T)&&(gZ t&&(P.readableRec T&&(A3 (T<P.types.size)&&Wk P ps Ts)))|_,_=>false
section
variable {H:Type} {enc:TypeId×Value->H} {P:Program} {w:World} {base:Nat} {sp:Nat->Bool} {held:Bool} {bulk:DataW H->Nat}
theorem a7Q(hb:xJ bulk)(A:∀b,sp b=true){t:Ty}{T:TypeId}{v:Value}{d:DataW H}{B:List MemPlace}{r:Reach}{e:Nat}(k:AQ P t (.inl T)=true)(u:gZ t=true)(f:Value.okWide P w r e T v)(h:DataW.Trod enc P w base sp held T v d B):
  ∃x,Ci (cells w) (fun c=>c<w.heap.size) t x v/\Wf t x/\HG t x<=bulk d:=by
 obtain⟨n,z⟩:=h;have m:t.isAgg=true->∃i,v=.agg i/\i.size=P.cellsOf T/\Row.okWide P w r e T i:=fun a=>by
  cases t<;>simp only[Ty.isAgg,A8]at a
  all_goals
   simp only[AQ,bA]at k;obtain⟨-,k⟩:=k;split at k;rename_i j;simp only[Value.okWide,j]at f;omega;simp_all
 have l:t.isAgg=false->Cell.okWide P w r e T v:=fun a=>by
  cases t<;>simp only[Ty.isAgg,Bool.true_eq_false]at a
  all_goals
   simp only[AQ,bA]at k;obtain⟨-,k⟩:=k;split at k;rename_i j;simp only[Value.okWide,j]at f;exact f;cases k
 have g:t.isAgg=false->Cf v=true:=fun a=>by
  have:=l a
  cases v<;>first|rfl|skip
  all_goals
   exfalso;unfold Cell.okWide at this;split at this<;>first|(rename_i y;cases y;done)|skip
   all_goals
    unfold Cell.ok at this;simp_all
 obtain⟨x,R,C,o,p,q⟩:=(c3A hb A t).1 T n v.cells.toList _ k u z;refine⟨x,⟨fun a=>?_,g,R,?_,q⟩,o,p⟩;all_goals grind[RS]
theorem b3p(hb:xJ bulk)(G:∀b,sp b=true){r:Reach}{N:Nat}:∀(a:List PA)(e:List TypeId)(i:List Value)(l:List (DataW H)) (p:List MemPlace),Wk P a e=true->(∀(j:Nat) T v,e[j]?=some T->i[j]?=some v->Value.okWide P w r N T v)->DataW.TrodAll enc P w base sp held e i l p->∃x:(DG (a.map PA.ty)).sK,i.length=a.length/\b7d a x/\a7P a x<=(l.map bulk).sum/\l.length=a.length/\∀(k:Nat) it v,(Bw a x)[k]?=some it->i[k]?=some v->∃t y,it=⟨.v t,y⟩/\Ci (cells w) (fun c=>c<w.heap.size) t y v|[],[],i,l,p,_,_,h=>(by obtain⟨rfl,rfl,rfl⟩:=trodAll_nil h;exact⟨(),rfl,by simp[b7d,Bw],by simp[a7P,Bw],rfl,by simp⟩)|[.v t],T::e,i,l,p,f,o,h=>(by simp only[Wk,bA]at f;obtain⟨B,C,-,-,F⟩:=f;obtain⟨v,n,d,m,q,M,rfl,rfl,rfl,z,A⟩:=trodAll_cons h;cases e with|cons T' e=>simp[Wk]at F|nil=>obtain⟨rfl,rfl,rfl⟩:=trodAll_nil A;have⟨x,Q,I,K⟩:=a7Q hb G B C (o 0 T v rfl rfl) z;refine⟨x,rfl,fun it g=>by obtain rfl:=List.mem_singleton.1 g;exact I,by simp[a7P,Bw];exact K,rfl,fun k it u D E=>?_⟩;cases k with|zero=>simp[Bw]at D E;grind|succ k=>simp_all)|.v t::S::a,T::e,i,l,p,f,o,h=>(by simp only[Wk,bA]at f;obtain⟨B,C,-,-,F⟩:=f;obtain⟨v,n,d,m,q,M,rfl,rfl,rfl,z,A⟩:=trodAll_cons h;have⟨x,Q,I,K⟩:=a7Q hb G B C (o 0 T v rfl rfl) z;have⟨y,V,R,L,X,Y⟩:=b3p hb G (S::a) e n m M F (fun j T v U O=>o (j+1) T v (by simp_all) (by simp_all)) A;refine⟨(x,y),by grind,fun it g=>?_,?_,by grind,fun k it u D E=>?_⟩;rcases mC.1 g with rfl|g;exact I;exact R it g;simp[a7P,Bw]at L|-;exact Nat.add_le_add K L;cases k with|zero=>simp[Bw]at D E;grind|succ k=>grind[Bw])|.r _ _::_,_,_,_,_,f,_,_=>by simp[Wk]at f|.v _::_,[],_,_,_,f,_,_=>by simp[Wk]at f|[],_::_,_,_,_,f,_,_=>by simp[Wk]at f
theorem b7e(m:laidOutB P=true){W l:World}{a:Nat->Bool}:∀(i:List PA)(k:List TypeId)(c:List Value)(b:List (DataW H)) (p:List MemPlace),Wk P i k=true->DataW.TrodAll enc P W base (fun _=>true) true k c b p->(∀q∈p,W.sameAt l q)->(∀q∈p,a q.block=true)->DataW.TrodAll enc P l base a true k c b p|[],[],c,b,p,_,h,_,_=>(by obtain⟨rfl,rfl,rfl⟩:=trodAll_nil h;rfl)|.v t::i,T::k,c,b,p,g,h,n,hsp=>(by simp[Wk]at g;obtain⟨-,-,w,y,z⟩:=g;obtain⟨v,j,d,e,q,A,rfl,rfl,rfl,o,u⟩:=trodAll_cons h;exact trodAll_cons_mk (WideElems.Trod_stays m w y o (fun x f=>n x (A7 _ f)) (fun x f=>hsp x (A7 _ f))) (b7e m i k j e A z u (fun x f=>n x (A6 _ f)) (fun x f=>hsp x (A6 _ f))))|.r _ _::_,_,_,_,_,g,_,_,_=>by simp[Wk]at g|.v _::_,[],_,_,_,g,_,_,_=>by simp[Wk]at g|[],_::_,_,_,_,g,_,_,_=>by simp[Wk]at g
theorem kG:∀(g:List PA)(f:List TypeId)(i:Nat),Wk P g f=true->AW g i=[]|[],_,_,_=>rfl|.v t::g,T::f,i,h=>by simp only[Wk,bA]at h;exact kG g f (i+1) h.2.2.2.2|.v _::_,[],_,h=>by simp[Wk]at h|.r _ _::_,_,_,h=>by simp[Wk]at h
theorem a5w{bulk:DataW H->Nat}(D:xJ bulk){f:FuncId}{fn:Func}{s:sG}{k:ChangeSpec}{tb:TypeId}{N:Nat}{G:YE}(hF:KU P G f s)(hl:laidOutB P=true)(I:Wk P s.ps fn.params.toList=true) (g7:s.rs=[.v .bool])(g9:fn.resultTypes=#[tb])(k1:P.underlying tb=some .bool)(o:k.vars=[])(O:∀w:List (DataW H),w.length=s.ps.length->k.fn H w={ results:=[.lit (.bool true)],args:=w }) (h0:∀x,b7d s.ps x->a7P s.ps x<=N->∃y,s.F x=some y/\(EJ (RA.all s.ps s.rs) y)[0]?=some ⟨.v .bool,true⟩) {W:World}{b0:Nat}{args:Array Value}{w gs:List (DataW H)}{u:List MemPlace}{d C l:Bool} (U:∀g t x,G g=some ⟨t,x⟩->g<W.heap.size/\AL (Af W none) t ((Src.at g 0).rd (Af W none))=some (x,[],[])) (h6:∀(j:Nat) t v,fn.params[j]?=some t->args[j]?=some v->Value.okWide P W .any b0 t v)(hW:DataW.Whole enc P fn.params.toList k.vars d W args.toList w gs u)(hN:((w++gs).map bulk).sum<=N):Calls P f args W fun e W'=>∃v,e=.returned v/\k.post enc P fn d C l false W args v W':=by
 have g0:=hW.lt;have h8:=hW;obtain⟨p,q,hA,hV,rfl,k3,k4⟩:=hW;rw[o]at hV;obtain⟨rfl,rfl⟩:=trodVars_none hV;have⟨x,g1,g2,g3,g4,g5⟩:=b3p D (fun _=>rfl) s.ps fn.params.toList args.toList w p I (fun j T v hT hv=>h6 j T v (by simp_all) (by simp_all)) hA;rw[C7]at hN;have⟨y,hy,E⟩:=h0 x g2 (B9 g3 hN);have g6:=kG s.ps fn.params.toList 0 I;let B:Base:={ size:=W.heap.size,hp:=fun b=>W.heap[b]?,F:=fun _=>False,S:=fun _=>True,io:=Gr W };let M:Gh:=⟨fun _=>.one undef,fun _=>[],none⟩;have k2:∀n,(Ws s.ps x).rt n=none:=fun n=>by cases hr:(Ws s.ps x).rt n with|none=>rfl|some r=>obtain⟨i,c,a,y,-,X,-⟩:=b6I hr;have Z:=(lS.1 X).1;rw[IM,<-g1]at Z;obtain⟨t,y',e,-⟩:=g5 i _ _ X (lG Z);grind
 have k0:args.size=s.ps.length:=by omega
 have h5:sM B (Ws s.ps x) s.ps.length (fun i=>args.getD i undef) W M:=by(refine⟨fun n r hr=>?_,fun n _=>rfl,fun n=>by grind,fun n n' _ c hc=>by grind,fun n p hp=>by grind,fun i X=>?_,trivial,C5 _,fun b _ _=>rfl,fun c hc=>?_,fun i b hb=>?_,rfl⟩;simp_all;have h9:i<args.toList.length:=by omega);(have V:=lG h9;have Y:i<(Bw s.ps x).length:=by simp_all[IM]);(have⟨t,z,h1,Q⟩:=g5 i _ _ (lG Y) V;have he:args.getD i undef=args.toList[i]:=by simp_all);simp only[Ws,lG Y,h1,he];exact Ci.wI (Ci.frame Q (fun _ _ _=>rfl) (fun c hc=>⟨hc,.inl trivial,fun⟨n,hn⟩=>by grind⟩));have⟨n,hn⟩:=hc;grind;simp_all
 refine(hF W B M args x y (fun g t z hg=>⟨(U g t z hg).1,trivial,fun h=>h,W,rfl,(U g t z hg).2⟩) hy rfl (fun _=>rfl) rfl k0 h5 (fun i X _=>by simp_all)).mono ?_;rintro e W' ⟨vr,Ls,rfl,h7,A⟩;rw[g7]at h7;rw[g6,F3,C7]at A;obtain⟨v,rfl⟩:∃v,vr=[v]:=by match vr,h7 with|[v],_=>simp
 have h4:=A.ll;rw[<-A.lv]at h4;obtain⟨L,rfl⟩:∃L,Ls=[L]:=by match Ls,h4 with|[L],_=>simp
 obtain⟨hv,-⟩:=A.ok 0 _ v L E rfl rfl;have hv:v=.bool true:=by obtain⟨-,Q,R,h3,-⟩:=hv;have Q:=Q rfl;simp[AL]at h3;split at h3;rename_i b hb;simp at h3;obtain⟨rfl,-⟩:=h3;cases v<;>simp[Cf,Value.cells]at Q hb;grind;simp_all
 subst hv;have m:∀b,b<W.heap.size->W'.heap[b]?=W.heap[b]?:=fun b hb=>A.frame b hb (fun h=>h);have K:=O w g4;refine⟨_,rfl,w,[],p++[],[],p,[],h8,?_,?_,?_,⟨?_,?_,fun i X=>?_⟩,fun h=>by grind⟩;rw[C7,K,g9];exact trodAll_cons_mk (p:=[]) (p':=[]) (shut_bool k1 _) trodAll_mk0
 rw[C7,K];refine b7e hl s.ps _ _ _ _ I hA (fun q hq=>?_) (fun q hq=>by simp_all);have hb:=g0 q (by simp_all);cases q with|cell b k5=>simp only[World.sameAt,World.cell?];rw[m b hb]|map b=>exact m b hb
 rw[C7,K,o];rfl;have:=A.still;grind[Gr];have:=A.still;grind[Gr];grind
end
end Go.Ab
namespace Go.Ab
def MX:Ty->List Field->Bool
 | .pair (.int _) b, f :: r => f.name != "_" && MX b r
 | .pair .bool b, f :: r => f.name != "_" && MX b r
 |.unit,[]=>true
 |_,_=>false
def c3B(P:Program)(τ:Ty)(t:TypeId):Bool:= !P.stoodInHeld t&&(!P.eqGuardType P.depth t&&(match P.underlying t with|some (.struct fs)=>MX τ fs.toList|_=>false))
section
variable {P:Program} {w:World} {cx:Cx}
theorem Kl{τ:Ty}{t:TypeId}(f:AQ P τ (.inl t)=true)(k:τ.isAgg=false){g:Array Value}{off:Nat}{v:Value}(hv:g[off]?=some v):(part t g off).run P w=.ok v w:=by have h:=Mj f w;simp_all[part]
theorem a5x{m:DU}{d:Nat}{D ys:Array Value}:∀(τ:Ty)(fs:List Field)(off:Nat),AQ P τ (.inr (fs,off))=true->MX τ fs=true->∀{x y R q},AL m τ (fun j=>D[off+j]?)=some (x,[],R)->AL m τ (fun j=>ys[off+j]?)=some (y,[],q)->(Op.eqFields (d+1) D ys fs).run P w=.ok (gE τ x y) w:=by(have c:∀(a b:Ty)(off:Nat)(u:Array Value)(x:(Ty.pair a b).sK) R,AL m (.pair a b) (fun j=>u[off+j]?)=some (x,[],R)->∃E F,AL m a (fun j=>u[off+j]?)=some (x.1,[],E)/\AL m b (fun j=>u[off+a.cells+j]?)=some (x.2,[],F):=by intro a b off u x R h;simp[AL]at h;split at h;grind;rename_i Y T V g;split at h;grind;rename_i Z U X L;have⟨K,h⟩:=Prod.mk.inj (Option.some.inj h);subst K;obtain⟨t,-⟩:=Prod.mk.inj (Prod.mk.inj (Option.some.inj h)).2;obtain⟨rfl,rfl⟩:=List.append_eq_nil_iff.1 t;grind);intro τ;induction τ with|pair a b iha ihb=>(intro fs off n l x y R q G H;cases fs with|nil=>simp[AQ]at n|cons f r=>simp[AQ]at n;obtain⟨⟨⟨t,i⟩,-⟩,htb⟩:=n;have⟨E,F,g,L⟩:=c a b off D x R G;have⟨N,O,e,Q⟩:=c a b off ys y q H;cases a with|int k=>(simp[MX]at l;simp[AL]at g e;split at g;rename_i S o B;split at e;rename_i I p C;rw[Option.ite_none_right_eq_some]at g e;obtain⟨rfl,g⟩:=g;obtain⟨rfl,e⟩:=e;have g:=Prod.mk.inj (Option.some.inj g);have e:=Prod.mk.inj (Option.some.inj e);have v:=Kl (w:=w) i rfl B;have z:=Kl (w:=w) i rfl C;have A:=run_equalIn_int (P:=P) w d f.type I I o p (RJ i);simp only[Op.eqFields,Sem.run_ite,ne_eq,l.1,not_false_eq_true,if_true,Sem.run_bind,t,v,z,A,Result.andThen_ok,gE];rw[<-g.1,<-e.1];cases hb:o==p;simp;grind;simp_all;simp_all)|bool=>((simp[MX]at l;simp[AL]at g e;have M:P.underlying f.type=some .bool:=by simp[AQ]at i;grind);split at g;rename_i o B;split at e;rename_i p C;have g:=Prod.mk.inj (Option.some.inj g);have e:=Prod.mk.inj (Option.some.inj e);have v:=Kl (w:=w) i rfl B;have z:=Kl (w:=w) i rfl C;have A:=run_equalIn_bool (P:=P) w d f.type o p M;simp only[Op.eqFields,Sem.run_ite,ne_eq,l.1,not_false_eq_true,if_true,Sem.run_bind,t,v,z,A,Result.andThen_ok,gE];rw[<-g.1,<-e.1];cases hb:o==p;simp;grind;simp_all;simp_all)|_=>simp[MX]at l)|unit=>(intro fs off n l x y R q G H;cases fs with|nil=>rfl|cons f r=>simp[MX]at l)|_=>intro fs off n l;simp[MX]at l
theorem b0D.of{τ:Ty}{t:TypeId}(k:AQ P τ (.inl t)=true)(h:c3B P τ t=true):b0D P τ t:=by
 simp[c3B]at h;have⟨E,D,c⟩:=h;intro m C x y u v w F G n p;split at c
 ·rename_i i f;have j:P.fieldsOf t=i:=by simp_all[Program.fieldsOf]
  have g:τ.isAgg=true:=by cases τ<;>first|rfl|(simp[MX]at c)
  obtain⟨d,-,R,o,-⟩:=n;obtain⟨e,-,B,q,-⟩:=p;obtain⟨z,rfl,-⟩:=d g;obtain⟨A,rfl,-⟩:=e g;have l:AQ P τ (.inr (i.toList,0))=true:=by
   cases τ with
   |pair a b=>
    simp[AQ,f]at k;obtain⟨-,k⟩:=k;split at k;all_goals simp_all[AQ]
   |unit=>
    simp_all[AQ]
   |_=>simp[MX]at c
  have r:(Op.equalIn 10000 t (.agg z) (.agg A)).run P w=.ok (gE τ x y) w:=by
   grind[run_equalIn_struct,a5x,Value.cells]
  simp_all[run_eqGuard_agg,run_eql_struct,run_neq_struct]
 simp_all
def b7f(P:Program)(τ:Ty)(t:TypeId):Bool:= !P.eqGuardType P.depth t&&(match τ,P.underlying t with|.arr n (.int k),some (.array n' e)=>n'==n&&(P.cellsOf e==1&&((P.info? e).isSome&&AQ P (.int k) (.inl e)))|_,_=>false)
theorem kH{d e:Nat}{k:IntKind}(g:AQ P (.int k) (.inl e)=true){f ys:Array Value}{x y:List Int}(c:∀i (h:i<x.length),f[i]?=some (.int k x[i]))(l:∀i (h:i<y.length),ys[i]?=some (.int k y[i])):∀(is:List Nat),(∀i∈is,i<x.length/\i<y.length)->(Op.eqItems (d+1) e 1 f ys is).run P w=.ok (is.all fun i=>x[i]?==y[i]?) w|[],_=>by rfl|i::is,h=>by have⟨a,b⟩:=h i (by simp);have m:=Kl (w:=w) g rfl (show f[i*1]?=_ by rw[Nat.mul_one];exact c i a);have n:=Kl (w:=w) g rfl (show ys[i*1]?=_ by rw[Nat.mul_one];exact l i b);have o:=run_equalIn_int (P:=P) w d e k k x[i] y[i] (RJ g);have t:=kH (d:=d) g c l is (fun j r=>h j (by grind));simp only[Op.eqItems,Sem.run_bind,m,n,o,Result.andThen_ok];have p:x[i]?=some x[i]:=lG a;have q:y[i]?=some y[i]:=lG b;cases hb:x[i]==y[i];all_goals simp_all
theorem b3q:∀(x y:List Int),x.length=y.length->((C9 x.length).all fun i=>x[i]?==y[i]?)=((F1 (fun(a b:Int)=>a==b) x y).all id)|[],[],_=>rfl|a::x,b::y,h=>by have g:=b3q x y (by simpa using h);rw[lC,List.range_succ_eq_map,C4,List.all_map,List.zipWith_cons_cons,C4,<-g];simp[Function.comp_def]
theorem b0D.yM{τ:Ty}{t:TypeId}(h:b7f P τ t=true):b0D P τ t:=by
 simp[b7f]at h;obtain⟨hg,h⟩:=h;split at h;rotate_left;grind;rename_i n k f e l;simp at h;obtain⟨rfl,Q,q,S⟩:=h;obtain⟨i,q⟩:=A4.1 q;intro m Sh x y u v w xo yo T U;obtain⟨C,-,R,D,-⟩:=T;obtain⟨E,-,R',F,-⟩:=U;obtain⟨M,rfl,-⟩:=C rfl;obtain⟨N,rfl,-⟩:=E rfl;have g:∀{I:Array Value}{z:List Int}{R},AL m (.arr f (.int k)) (fun j=>(Value.agg I).cells[j]?)=some (z,[],R)->z.length=f/\∀i (h:i<z.length),I[i]?=some (.int k z[i]):=by
  intro I z R H;simp only[AL]at H;have K:z.length=f:=AX f 0 H;refine⟨K,fun i c=>?_⟩;obtain⟨a,o,r,A,B,A',B',O,p,-⟩:=Bb f 0 i H (K▸c);have p:z[i]?=some (show Int from a):=p;have p:z[i]=(show Int from a):=Option.some.inj ((lG c).symm.trans p);simp[Ty.cells,Value.cells]at O;grind
 obtain⟨G,V⟩:=g D;obtain⟨Y,X⟩:=g F;have Z:(Op.equalIn 10000 t (.agg M) (.agg N)).run P w=.ok (gE (.arr f (.int k)) x y) w:=by
  rw[run_equalIn_array w 9999 M N l q,Q,kH (d:=9998) S V X _ (fun j hj=>by simp_all)]
  have:=b3q x y (by omega)
  rw[G]at this;rw[this];have L:(B7 (show List Int from x)==B7 (show List Int from y))=true:=by simp_all
  show _=Result.ok ((F1 (fun(a b:Int)=>a==b) x y).all id&&(B7 (show List Int from x)==B7 (show List Int from y))) w;simp_all
 simp_all[run_eqGuard_agg,run_eql_struct,run_neq_struct]
theorem hP{α:Type}:∀(l:List (Nat×α)) (t:Nat) (x:α),find l t=some x->(t,x)∈l|[],_,_,h=>by simp[find]at h|(k,y)::r,t,x,h=>by simp only[find]at h;rcases Ai h with⟨f,g⟩|⟨-,h⟩;simp only[sj]at g;(have:k=t:=by simpa using f);rw[this,g];exact C2 ..;exact A9 _ (hP r t x h)
def c2a(P:Program)(tab:List (Nat×Ty)):Bool:=tab.all fun p=>A3 (p.2.sh=p.2)&&AQ P p.2 (.inl p.1)
def c2b(P:Program)(l:List Nat):Bool:=l.all fun t=>match P.underlying t with|some (.pointer _)=>true|_=>false
def c2c(P:Program)(tab:List (Nat×Ty))(l:List Nat):Bool:=l.all fun t=>match find tab t with|some τ=>!τ.isAgg || (c3B P τ t || b7f P τ t)|none=>true
theorem CxTy.of{tab:List (Nat×Ty)}{l q:List Nat}(g:∀t,cx.T t=find tab t)(c:∀t,cx.E t=l.contains t)(d:∀t,cx.Q t=q.contains t)(k:c2a P tab=true)(a:c2b P q=true)(b:c2c P tab l=true):CxTy P cx:=by(have f:∀t τ,cx.T t=some τ->τ.sh=τ/\AQ P τ (.inl t)=true:=fun t τ h=>by rw[g]at h;have:=lA.1 k _ (hP _ _ _ h);simp_all);refine⟨f,fun t e=>?_,fun t τ he hτ ha=>?_⟩;rw[d]at e;have:=lA.1 a t (by simp_all);grind;rw[c]at he;have:=lA.1 b t (by simp_all);rw[<-g,hτ]at this;simp[ha]at this;exact this.elim (b0D.of (f t τ hτ).2) b0D.yM
theorem vC.of{fs:List (Nat×sG)}(h:CxTy P cx)(k:∀f,cx.C f=find fs f)(a:∀p∈fs,a7w P cx.G p.1 p.2):vC P cx:=⟨h,fun f s g=>by rw[k]at g;exact a _ (hP _ _ _ g)⟩
theorem a0{α:Type}{p:α->Prop}:∀x∈([]:List α),p x:=fun _ h=>by grind
theorem b7g{G:YE}{a:Nat×sG}{l:List (Nat×sG)}(h:a7w P G a.1 a.2)(f:∀x∈l,a7w P G x.1 x.2):∀x∈a::l,a7w P G x.1 x.2:=fun x g=>by rcases mC.1 g with rfl|g;exact h;exact f x g
theorem a1{G:YE}{a:Nat×sG}{l:List (Nat×sG)}(h:KU P G a.1 a.2/\ZJ P a.1)(g:∀x∈l,a7w P G x.1 x.2):∀x∈a::l,a7w P G x.1 x.2:=b7g (.inl h) g
theorem c0b{G:YE}{a:Nat×sG}{l:List (Nat×sG)}(h:b6H P G a.1 a.2)(g:∀x∈l,a7w P G x.1 x.2):∀x∈a::l,a7w P G x.1 x.2:=b7g (.inr h) g
end
def rL{α:Type}(x:List α):Option (List α):=bif List.isEmpty x then pR (some ([]:List α)) (bif AZ (0+B7 x)then some (E4 [] x)else none)else(bif AZ (0+B7 x)then some (E4 [] x)else none)
def ZQ{α:Type}(x:List α):Option (List α):=bif AZ (0+B7 x)then some x else none
theorem ZR{α:Type}(x:List α):rL x=ZQ x:=by unfold rL ZQ;cases x with|nil=>exact b0w _|cons a x=>rfl
section
variable {α:Type} {f f':Nat->Option (α×CI×List Nat)}
theorem UZ:∀(n i:Nat){x},(∀j y,f j=some y->f' j=some y)->Ak f n i=some x->Ak f' n i=some x|0,_,_,_,h=>h|n+1,i,x,g,h=>by simp only[Ak]at h|-;split at h;cases h;rename_i l b d k;rw[g _ _ k];simp only[];split at h;cases h;rename_i m c e a;rw[UZ n (i+1) g a];exact h
end
theorem Pp{m m':DU}(f:∀b j v,m b j=some v->m' b j=some v):∀(t:Ty){rd rd':Nat->Option Value}{x},(∀j v,rd j=some v->rd' j=some v)->AL m t rd=some x->AL m' t rd'=some x|.int k,rd,rd',x,g,h=>by grind[AL]|.bool,rd,rd',x,g,h=>by grind[AL]|.str,rd,rd',x,g,h=>by grind[AL]|.unit,rd,rd',x,g,h=>h|.pair a b,rd,rd',x,g,h=>(by simp only[AL]at h|-;split at h;cases h;rename_i D u A l;rw[Pp f a g l];simp only[];split at h;cases h;rename_i E w B p;rw[Pp f b (fun j v=>g _ v) p];exact h)|.arr n t,rd,rd',x,g,h=>(by simp only[AL]at h|-;exact UZ n 0 (fun j y e=>Pp f t (fun i v=>g _ v) e) h)|.list o t,rd,rd',x,g,h=>(by simp[AL]at h|-;unfold Cq at h|-;split at h;simp_all;rename_i a n c d;rw[g _ _ d];simp;split at h;rename_i r;rw[if_pos r];split at h;grind;rename_i F z C q;rw[UZ n 0 (fun j y e=>Pp f t (fun i v d=>f _ _ _ d) e) q];omega;simp_all;simp_all)|.nl t,rd,rd',x,g,h=>by grind[AL]
theorem Src.vQ{m m':DU}(g:∀b j v,m b j=some v->m' b j=some v)(s:Src):∀j v,s.rd m j=some v->s.rd m' j=some v:=by intro j v h;cases s with|one u=>exact h|_=>exact g _ _ _ h
theorem Pq{m m':DU}(f:∀b j v,m b j=some v->m' b j=some v):∀(p:BJ)(t:Ty)(s:Src){x},Cl m p t s=some x->Cl m' p t s=some x|[],t,s,x,h=>h|.fst::p,t,s,x,h=>(by unfold Cl at h|-;split at h;exact Pq f p _ _ h;cases h)|.snd::p,t,s,x,h=>(by unfold Cl at h|-;split at h;exact Pq f p _ _ h;cases h)|.idx i::p,t,s,x,h=>by unfold Cl at h|-;split at h;rename_i n d e o;split at h;rename_i g;simp[if_pos g];exact Pq f p _ _ h;simp_all;rename_i d l;split at h;rename_i a n c k;split at h;rename_i g;simp[Src.vQ f s _ _ k,if_pos g];exact Pq f p _ _ h;simp_all;simp_all;omega
structure wH (B:Base) (w w':World):Prop where
 cells:∀(c:Nat)(o:Obj),w.heap[c]?=some o->o.isCells=true->w'.heap[c]?=some o
 size:w.heap.size<=w'.heap.size
 frame:∀b,b<B.size->w'.heap[b]?=w.heap[b]?
 io:Gr w'=Gr w
theorem a3Q{w w':World}(h:∀(c:Nat)(o:Obj),w.heap[c]?=some o->o.isCells=true->w'.heap[c]?=some o)(f:Option (Nat×Nat×Value)):∀b j v,Af w f b j=some v->Af w' f b j=some v:=by(have k:∀b j v,w.cell? ⟨b,j,none⟩=some v->w'.cell? ⟨b,j,none⟩=some v:=fun b j v g=>by grind[cells_of_cell,World.cell?]);intro b j v g;cases f with|none=>exact k b j v g|some y=>have⟨a,d,u⟩:=y;simp[Af]at g|-;grind
theorem sM.xW{B:Base}{U:AE}{N:Nat}{tm:Nat->Value}{w w':World}{M:Gh}(h:sM B U N tm w M)(f:∀(c:Nat)(o:Obj),w.heap[c]?=some o->o.isCells=true->w'.heap[c]?=some o) (y:w.heap.size<=w'.heap.size):sM { B with hp:=fun b=>w'.heap[b]?,io:=Gr w' } U N tm w' M:=by(have u:=a3Q f M.ov;have z:∀c,Ba B w M c->Ba { B with hp:=fun b=>w'.heap[b]?,io:=Gr w' } w' M c:=fun c A=>⟨B3 A.1 y,A.2⟩;have E:∀a v,Ay (Af w M.ov) M.g U.rt (Ba B w M) a v->Ay (Af w' M.ov) M.g U.rt (Ba { B with hp:=fun b=>w'.heap[b]?,io:=Gr w' } w' M) a v:=fun a v C=>by cases a with|val t x=>(have⟨j,m,R,q,D⟩:=C;exact⟨j,m,R,Pp u t (fun _ _ S=>S) q,fun c A=>z c (D c A)⟩)|vptr t x=>(have⟨b,o,R,j,m,q,D⟩:=C;exact⟨b,o,R,j,Pp u t (Src.vQ u _) m,z b q,fun c A=>z c (D c A)⟩)|ptr n p=>(have⟨r,t,b,o,j,m,q⟩:=C;exact⟨r,t,b,o,j,Pq u p _ _ m,q⟩)|sref n p=>(have⟨r,e,s,j,m,q⟩:=C;exact⟨r,e,s,j,Pq u p _ _ m,Src.vQ u s _ _ q⟩)|swin n p T len=>(have⟨r,e,s,a,l,c,j,m,q,D⟩:=C;exact⟨r,e,s,a,l,c,j,Pq u p _ _ m,Src.vQ u s _ _ q,D⟩)|_=>exact C);refine⟨fun n r G=>?_,h.norm,h.nodup,h.sV,fun n p hp=>?_,fun i F=>?_,?_,B9 h.size y,fun b _ _=>rfl,h.mine,h.pins,rfl⟩;have⟨I,R,K,L,O⟩:=(h.roots n r G).rd;exact⟨I,R,Pp u _ (Src.vQ u _) K,fun c A=>z c (L c A),O⟩;have⟨c,e,lo,F,j,m,q⟩:=h.live n p hp;exact⟨c,e,lo,F,f _ _ j rfl,m,q⟩;(have H:=h.slots i F;revert H;cases U.sl i with|one a=>(exact fun H=>E a _ H)|cmp c as=>rintro⟨V,j,m⟩;exact⟨V,j,fun k a X=>by grind⟩);exact h.pend.mono fun n p d r e b o Q G P=>⟨r,G,Pq u p _ _ P⟩
theorem sM.turned{B:Base}{U:AE}{N:Nat}{tm:Nat->Value}{w w':World}{M:Gh}(h:sM B U N tm w M)(f:wH B w w'):sM B U N tm w' M:=by have g:=h.xW f.cells f.size;exact⟨g.roots,g.norm,g.nodup,g.sV,g.live,g.slots,g.pend,g.size,fun b hb k=>(f.frame b hb).trans (h.frame b hb k),g.mine,g.pins,f.io.trans h.still⟩
def Base.anew(B:Base)(w:World)(M:Gh):Base where
 size:=w.heap.size
 hp:=fun b=>w.heap[b]?
 F:=BB M
 S:=fun c=>(B.S c\/B.F c\/B.size<=c)/\¬ BB M c
 pin:=fun i=>match B.pin i with
  |some b=>some b
  |none=>some (M.g (pinned+i))
 io:=Gr w
theorem b7h{B:Base}{w:World}{M:Gh}{c:Nat}:Ba (B.anew w M) w M c↔Ba B w M c:=by constructor;rintro⟨f,h,g⟩;refine⟨f,?_,g⟩;rcases h with h|h|h;exact h.1;exact absurd h g;have h:w.heap.size<=c:=h;omega;rintro⟨f,h,g⟩;exact⟨f,.inl ⟨h,g⟩,g⟩
theorem sM.anew{B:Base}{U:AE}{N:Nat}{tm:Nat->Value}{w:World}{M:Gh}(h:sM B U N tm w M):sM (B.anew w M) U N tm w M:=by have e:Ba (B.anew w M) w M=Ba B w M:=funext fun c=>propext b7h;refine⟨fun n r d=>by rw[e];exact h.roots n r d,h.norm,h.nodup,h.sV,h.live,fun i a=>by rw[e];exact h.slots i a,h.pend,C5 _,fun b _ _=>rfl,fun c k=>.inl k,fun i b hb f=>?_,rfl⟩;simp[Base.anew]at hb;split at hb;rename_i j g;cases hb;exact h.pins i b g f;simp_all
theorem a7R{B:Base}{a:AE}{N0:Nat}{g:Nat->Value}{w w':World}{M M':Gh}(k:sM B a N0 g w M){f:Nat->Option Src}{c:Nat}(e:Ba { B.anew w M with pin:=f } w' M' c):Ba B w' M' c:=by have⟨b,h,d⟩:=e;refine⟨b,?_,d⟩;rcases h with h|h|h;exact h.1;exact .inr (k.mine c h);have h:w.heap.size<=c:=h;exact .inr (.inr (B9 k.size h))
theorem sM.uH{B:Base}{A U:AE}{N0 N:Nat}{y tm:Nat->Value}{w w':World}{M M':Gh}{f:Nat->Option Src}(I:∀i b,B.pin i=some b->f i=some b)(d:sM B A N0 y w M)(h:sM { B.anew w M with pin:=f } U N tm w' M'):sM B U N tm w' M':=by
 have j:∀c,Ba { B.anew w M with pin:=f } w' M' c->Ba B w' M' c:=fun c e=>a7R d e;have l:∀a v,Ay (Af w' M'.ov) M'.g U.rt (Ba { B.anew w M with pin:=f } w' M') a v->Ay (Af w' M'.ov) M'.g U.rt (Ba B w' M') a v:=fun a v H=>
  H.frame (fun _ _ _=>rfl) j fun n p r t s _ u L=>⟨r,u,L,fun _ _ P=>P⟩
 refine⟨fun n r u=>?_,h.norm,h.nodup,h.sV,h.live,fun i K=>?_,h.pend,B9 d.size h.size,fun b hb G=>?_,fun c e=>?_,fun i b hb o=>h.pins i b (I i b hb) o,h.still.trans d.still⟩;have⟨z,R,C,D,E⟩:=(h.roots n r u).rd;exact⟨z,R,C,fun c e=>j c (D c e),E⟩
 ·have x:=h.slots i K;revert x;cases U.sl i with
  |one a=>exact fun x=>l a _ x
  |cmp c as=>
   rintro⟨Q,F,S⟩;exact⟨Q,F,fun k a T=>by
    grind⟩
 ·have m:b<w.heap.size:=B3 hb d.size;have q:¬ BB M b:=fun O=>by
   rcases d.mine b O with g|g;all_goals grind
  exact(h.frame b m q).trans (d.frame b hb G)
 rcases h.mine c e with g|g;exact d.mine c g;have g:w.heap.size<=c:=g;exact .inr (B9 d.size g)
theorem sM.back{B:Base}{k U:AE}{N0 N:Nat}{g tm:Nat->Value}{w w':World}{M M':Gh}(a:sM B k N0 g w M)(h:sM (B.anew w M) U N tm w' M'):sM B U N tm w' M':=a.uH (f:=(B.anew w M).pin) (fun i b hb=>by simp_all[Base.anew]) h
theorem sM.xX{B:Base}{U:AE}{N:Nat}{tm:Nat->Value}{w:World}{M:Gh}(h:sM B U N tm w M)(f:Nat->Option Src)(k:∀i b,f i=some b->B.pin i=some b):sM { B with pin:=f } U N tm w M:=⟨h.roots,h.norm,h.nodup,h.sV,h.live,h.slots,h.pend,h.size,h.frame,h.mine,fun i b hb g=>h.pins i b (k i b hb) g,h.still⟩
def AE.vN{Z:Type}(U:AE):List Nat->(AE->Rs Z)->Rs Z|[],K=>K U|n::ns,K=>match U.look n,U.rt (pinned+1000+n)with|some r,none=>AE.vN (((U.sJ (AV.ren n (pinned+1000+n))).sI n none).sI (pinned+1000+n) (some r)) ns K|_,_=>none
theorem sM.vN{Z:Type}{B:Base}{N:Nat}{tm:Nat->Value}{w:World}(a:∀i b,1000<=i->B.pin i≠some b):∀(ns:List Nat){U:AE}{M:Gh}{K:AE->Rs Z}{z:Z}(_:sM B U N tm w M)(_:U.vN ns K=some z),∃k M',K k=some z/\sM B k N tm w M'|[],U,M,K,z,h,g=>⟨U,M,g,h⟩|n::ns,U,M,K,z,h,g=>by simp only[AE.vN]at g;split at g;rename_i r c d;have⟨f,j⟩:=AR c;exact sM.vN a ns (h.rename j d (fun i b e=>a i b (by omega)) (by simp[f])) g;cases g
def BL:Ao->Bool|[]=>true|.sv _ _::r=>BL r|.box n _::r=>(A3 (pinned<=n)&&!(Ao.names r).contains n)&&BL r|.own _ n _::r=>(A3 (pinned<=n)&&!(Ao.names r).contains n)&&BL r|.ptr _ n []::r=>A3 (pinned<=n)&&BL r|_=>false
def b1o:SV->Prop|.one .dead=>True|.one (.val _ _)=>True|.one (.ptr n [])|.one (.sref n [])=>pinned<=n|_=>False
theorem Yk:∀(g:Ao)(x:g.ty.sK)(_:BL g=true)(i:Nat),b1o ((g.enc x).sl i)|[],_,_,i=>trivial|.sv k t::r,x,h,i=>by simp only[Ao.enc,Ey];split;trivial;exact Yk r x.2 (by simpa[BL]using h) i|.box n t::r,x,h,i=>by simp only[BL,bA]at h;exact Yk r x.2 h.2 i|.own k n e::r,x,h,i=>by simp only[BL,bA,dT]at h;show b1o ((((Ao.enc r x.2).sI n (some ⟨false,.list true e,x.1⟩)).set k (.sref n [])).sl i);rw[Ey];split;exact h.1.1;exact Yk r x.2 h.2 i|.ptr k n p::r,x,h,i=>(by cases p with|cons=>simp[BL]at h|nil=>simp[BL]at h;simp[Ao.enc,Ey];split;exact h.1;exact Yk r x h.2 i)|.vp _ _::_,_,h,_|.ref _ _ _::_,_,h,_|.rfi _ _::_,_,h,_|.win _ _ _::_,_,h,_|.clo _ _ _::_,_,h,_=>by simp[BL]at h
theorem Km:∀(h:Ao)(x:h.ty.sK),(h.enc x).pd=none|[],_=>rfl|.sv _ _::r,x=>Km r x.2|.box _ _::r,x=>Km r x.2|.ptr _ _ _::r,x=>Km r x|.own _ _ _::r,x=>Km r x.2|.vp _ _::r,x=>Km r x.2|.ref _ _ _::r,x=>Km r x|.rfi _ _::r,x=>Km r x.2|.win _ _ _::r,x=>Km r x.2.2|.clo _ _ _::r,x=>Km r x
theorem cU:∀(f:Ao)(x:f.ty.sK)(_:BL f=true)(n:Nat),(f.enc x).rt n≠none->n∈f.names|[],_,_,n,h=>absurd rfl h|.sv k t::r,x,h,n,g=>cU r x.2 (by simpa[BL]using h) n g|.box m t::r,x,h,n,g=>by simp only[BL,bA]at h;simp only[Ao.enc,TQ]at g;split at g;rename_i e;subst e;simp[Ao.names];simp only[Ao.names,mC];exact .inr (cU r x.2 h.2 n g)|.own k m e::r,x,h,n,g=>by simp only[BL,bA]at h;have g:((Ao.enc r x.2).sI m (some ⟨false,.list true e,x.1⟩)).rt n≠none:=g;rw[TQ]at g;split at g;rename_i e;subst e;simp[Ao.names];simp only[Ao.names,mC];exact .inr (cU r x.2 h.2 n g)|.ptr k m p::r,x,h,n,g=>(by cases p with|cons=>simp[BL]at h|nil=>simp[BL]at h;exact cU r x h.2 n g)|.vp _ _::_,_,h,_,_|.ref _ _ _::_,_,h,_,_|.rfi _ _::_,_,h,_,_|.win _ _ _::_,_,h,_,_|.clo _ _ _::_,_,h,_,_=>by simp[BL]at h
theorem TS:∀(a:Ao)(x:a.ty.sK)(_:BL a=true){i n:Nat}(_:(a.enc x).sl i=.one (.sref n [])),n∈a.names/\∃e l,(a.enc x).rt n=some ⟨false,.list true e,l⟩|[],_,_,i,n,h=>(by cases h)|.sv k t::r,x,h,i,n,f=>(by have f:((Ao.enc r x.2).set k (.val t x.1)).sl i=.one (.sref n []):=f;rw[Ey]at f;split at f;cases f;exact TS r x.2 (by simpa[BL]using h) f)|.box m t::r,x,h,i,n,f=>(by simp only[BL,bA,F7,E8,decide_eq_false_iff_not]at h;have⟨b,e,l,d⟩:=TS r x.2 h.2 (i:=i) (n:=n) f;refine⟨by simp[Ao.names,b],e,l,?_⟩;show((Ao.enc r x.2).sI m _).rt n=_;rw[TQ,if_neg (show ¬ n=m from fun g=>h.1.2 (g▸b))];omega)|.own k m e::r,x,h,i,n,f=>(by simp only[BL,bA,F7,E8,decide_eq_false_iff_not]at h;have f:(((Ao.enc r x.2).sI m (some ⟨false,.list true e,x.1⟩)).set k (.sref m [])).sl i=.one (.sref n []):=f;show n∈_/\∃c l,((Ao.enc r x.2).sI m (some ⟨false,.list true e,x.1⟩)).rt n=some ⟨false,.list true c,l⟩;rw[Ey]at f;rw[TQ];split at f;cases f;exact⟨by simp[Ao.names],e,x.1,by simp⟩;have⟨b,c,l,d⟩:=TS r x.2 h.2 (i:=i) (n:=n) f;exact⟨by simp[Ao.names,b],c,l,by grind⟩)|.ptr k m p::r,x,h,i,n,f=>(by cases p with|cons=>simp[BL]at h|nil=>simp only[BL,bA]at h;have f:((Ao.enc r x).set k (.ptr m [])).sl i=.one (.sref n []):=f;rw[Ey]at f;split at f;grind;exact TS r x h.2 f)|.vp _ _::_,_,h,_,_,_|.ref _ _ _::_,_,h,_,_,_|.rfi _ _::_,_,h,_,_,_|.win _ _ _::_,_,h,_,_,_|.clo _ _ _::_,_,h,_,_,_=>by simp[BL]at h
section
variable {B:Base} {N:Nat} {w w':World} {M M':Gh} {U:AE}
theorem sM.kept{b:Nat->Value}{d:AE}(h:sM (B.anew w M) d N b w' M'){c:Nat}(f:Ba B w M c):w'.heap[c]?=w.heap[c]?/\Ba (B.anew w M) w' M' c:=by have k:c<(B.anew w M).size:=f.1;have a:¬ (B.anew w M).F c:=f.2.2;refine⟨h.frame c k a,B3 f.1 h.size,.inl f.2,fun e=>?_⟩;rcases h.mine c e with g|g;all_goals grind
theorem Ci.kept{a:Nat->Value}{b:AE}(h:sM (B.anew w M) b N a w' M')(k:M.ov=none)(g:M'.ov=none){t:Ty}{x:t.sK}{v:Value}(hv:Ci (Af w M.ov) (Ba B w M) t x v):Ci (Af w' M'.ov) (Ba (B.anew w M) w' M') t x v:=hv.frame (fun c j f=>by rw[k,g];exact BE none (h.kept f).1 j) fun c f=>(h.kept f).2
theorem sM.again{tm L:Nat->Value}{q:AE}(F:sM B U N tm w M)(z:∀i,i<N->b1o (U.sl i))(K:U.pd=none)(h:sM (B.anew w M) q N L w' M')(D:q.pd=none)
  (m:∀i n,i<N->U.sl i=.one (.ptr n [])\/U.sl i=.one (.sref n [])->q.rt n≠none)(A:∀i n,i<N->U.sl i=.one (.sref n [])->∃u,M.g n=.one u):sM (B.anew w M) { q with sl:=U.sl } N tm w' M'/\∀i n,i<N->U.sl i=.one (.sref n [])->∃u,M'.g n=.one u:=by
 have I:=F.tC K;have C:=h.tC D;have d:∀n,pinned<=n->U.rt n≠none->q.rt n≠none->M'.g n=M.g n:=fun n k G v=>by
  obtain⟨i,rfl⟩:∃i,n=pinned+i:=⟨n-pinned,by omega⟩;refine h.pins i _ ?_ v;simp[Base.anew];cases hp:B.pin i with
  |none=>rfl
  |some Q=>rw[F.pins i Q hp G]
 refine⟨⟨h.roots,h.norm,h.nodup,h.sV,h.live,fun i l=>?_,h.pend,h.size,h.frame,h.mine,h.pins,h.still⟩,fun i n l j=>?_⟩;rotate_left;have k:=z i l;have P:=F.slots i l;rw[j]at k P;obtain⟨r,e,s,G,-⟩:=P;rw[d n k (by simp_all) (m i n l (.inr j))];grind;have j:=F.slots i l;have k:=z i l;have m:=m i;have A:=A i;show ZE _ _ q.rt _ (U.sl i) _;revert j k m A;cases U.sl i with
 |cmp c X=>intro _ k;exact k.elim
 |one a=>
  cases a with
  |dead=>intro _ _ _ _;trivial
  |val t x=>intro j _ _ _;exact Ci.kept h I C j
  |ptr n p=>
   cases p with
   |cons=>intro _ k;exact k.elim
   |nil=>
    intro j k m _;have⟨r,t,b,o,G,v,H⟩:=j;have f:=m n l (.inl rfl);have O:=d n k (by simp_all) f;have⟨y,f⟩:=D9.1 f;simp[Cl]at v;refine⟨y,y.t,b,o,f,?_,H⟩;show some (y.t,M'.g n)=_;simp_all
  |sref n p=>
   cases p with
   |cons=>intro _ k;exact k.elim
   |nil=>
    intro j k m A;have⟨R,E⟩:=A n l rfl;have⟨r,S,V,G,v,H⟩:=j;have f:=m n l (.inr rfl);have O:=d n k (by simp_all) f;simp[Cl]at v;rw[<-v.2,E]at H;rw[E]at O;have⟨y,f⟩:=D9.1 f;rcases h.uJ f with⟨-,b,g⟩|⟨-,u,e,g,T⟩;simp_all;refine⟨y,e,.one R,f,?_,H⟩;show some (y.t,M'.g n)=_;simp_all
  |_=>intro _ k;exact k.elim
end
def b7i{Z:Type}(s:Ao)(x:s.ty.sK)(U:AE)(K:s.ty.sK->Rs Z):Rs Z:=match U.pd with|none=>bif s.names.all (fun n=>(U.rt n).isSome)then s.wX { U with sl:=(s.enc x).sl } K else none|some _=>none
def RT{α S R:Type}(f:Int->α->S->Option (S ⊕ R))(l:List α):Nat->S->Option (S ⊕ R)|0,s=>some (.inl s)|n+1,s=>match l[n]? with|none=>none|some v=>match f n v s with|none=>none|some (.inl s')=>RT f l n s'|some (.inr r)=>some (.inr r)
def c4H(cx:Cx)(H:sF)(p:Nat)(s:Ao)(i1 i2:Nat)(assign body:Code)(e:Ty)(k:Int)(v:e.sK)(x:s.ty.sK):Option (s.ty.sK ⊕ (Ex×s.ty.sK)):=
 Dv cx H assign (2*p) (((s.enc x).set i1 (.val (.int .i64) k)).set i2 (.val e v)) fun ex U=>match ex with
  |.normal=>match U.pd with
   |none=>bif s.names.all (fun n=>(U.rt n).isSome)then
     Dv cx H body (2*p+1) U fun ex U'=>b7i s x U' fun x'=>match ex with
      |.normal=>some (.inl x')
      |ex=>some (.inr (ex,x'))
    else none
   |some _=>none
  |_=>none
structure vF where
 t:Nat
 e:Ty
 mkr:Nat
 it:Nat
 ns:List Nat
 s:Ao
structure vZ where
 ops:Array Oper
 b:Nat
 g:Nat
 i1:Nat
 i2:Nat
 assign:Code
 body:Code
def cV:Code->Code->Option vZ|.region _ ops false,.block b (.rangeFunc (.tmp g) ps assign body)=>(match ps.toList with|[i1,i2]=>some ⟨ops,b,g,i1,i2,assign,body⟩|_=>none)|_,_=>none
def a5y(o:Oper)(r:vF)(g:Nat):Bool:=match o.op with|.call c=>(match c.callee,c.args.toList with|.value (.func f),[.tmp t]=>f==r.mkr&&t==r.t&&(o.dst==some g)&&o.guard.isNone|_,_=>false)|_=>false
def b7j{t e:Ty}(h:t=.list false e)(l:t.sK):List e.sK:=(h▸l:(Ty.list false e).sK)
def b1p{Z:Type}(cx:Cx)(H:sF)(r:vF)(q:vZ)(p:Nat)(U:AE)(K:Ex->AE->Rs Z):Rs Z:=
 match q.ops.toList with
 | [mv,cl]=>bif a5y cl r q.g&&(BL r.s&&mv.guard.isNone)then
   Bc cx false mv U fun U1=>match U1.pd with
    |some _=>none
    |none=>(U1.set q.g .dead).vN r.ns fun U2=>r.s.wX U2 fun x=>match (r.s.enc x).get r.t with
     |.val t l=>if h:t=.list false r.e then
       (bif AZ (B7 (b7j h l))then(RT (c4H cx H (2*p+1) r.s q.i1 q.i2 q.assign q.body r.e) (b7j h l) (B7 (b7j h l)) x).bind fun y=>match y with
        |.inl x'=>K .normal (r.s.enc x')
        |.inr (.normal,x')=>K .normal (r.s.enc x')
        |.inr (.exit i,x')=>bif i==q.b then K .normal (r.s.enc x')else K (.exit i) (r.s.enc x')
        |.inr (.ret,x')=>K .ret (r.s.enc x')
       else none)
      else none
     |_=>none
  else none
 |_=>none
def Pr:Code->Bool|.seq a b=>(Pr a || Pr b)|.cond _ a b=>(Pr a || Pr b)|.block _ c|.loop c=>Pr c|.rangeFunc _ _ _ _=>true|_=>false
def hU(cx:Cx)(H:sF)(r:vF):Code->Nat->{Z:Type}->AE->(Ex->AE->Rs Z)->Rs Z
 |.seq a b,p,_,U,K=>match cV a b with
  |some q=>b1p cx H r q p U K
  |none=>bif Pr a then hU cx H r a (2*p) U fun e U'=>match e with
    |.normal=>Dv cx H b (2*p+1) U' K
    |e=>K e U'
   else Dv cx H a (2*p) U fun e U'=>match e with
    |.normal=>hU cx H r b (2*p+1) U' K
    |e=>K e U'
 |c,p,_,U,K=>Dv cx H c p U K
def b3r(cx:Cx)(H:sF)(r:vF)(fn:Func)(ps:List PA)(rs:List RA)(x:(DG (ps.map PA.ty)).sK):Option (DG ((RA.all ps rs).map RA.ty)).sK:=match fn.body with|none=>none|some body=>hU cx H r body 1 (Ws ps x) fun e U=>match e,U.pd with|.exit _,_=>none|_,some _=>none|_,none=>(U.upto fn.ntmps).outs cx [] fn.ntmps (RA.all ps rs) (fn.results.toList.map .inl++(AW ps 0).map fun i=>.inr (UH ps i)) fun y _=>some y
section
variable {P:Program} {B:Base} {N:Nat} {cx:Cx} {H:sF} {w w':World} {M M':Gh} {U U':AE} {tm tm':Nat->Value}
theorem gD.anew{G:YE}(e:gD G B)(h:sM B U N tm w M):gD G (B.anew w M):=by(intro g t x i;have⟨k,a,b,l,c,d⟩:=e g t x i;have f:¬ BB M g:=fun j=>by rcases h.mine _ j with q|q;all_goals grind);exact⟨B3 k h.size,⟨.inl a,f⟩,f,l,c.trans (h.frame g k b).symm,d⟩
theorem Ci.yF{m:DU}{Sh g:Nat->Prop}{t:Ty}{x y:t.sK}{v:Value}(h:Ci m Sh t x v)(f:Ci m g t y v):x=y:=by obtain⟨-,-,R,a,-⟩:=h;obtain⟨-,-,k,b,-⟩:=f;simp_all
theorem Ci.run(a:sM B U N tm w M)(h:sM (B.anew w M) U' N tm' w' M')(k:M.ov=none)(g:M'.ov=none){t:Ty}{x:t.sK}{v:Value}(hv:Ci (Af w M.ov) (Ba B w M) t x v):Ci (Af w' M'.ov) (Ba B w' M') t x v:=(Ci.kept h k g hv).frame (fun _ _ _=>rfl) fun _ b=>a7R a (f:=(B.anew w M).pin) b
theorem Ci.turned{f:Option (Nat×Nat×Value)}(h:∀(c:Nat)(o:Obj),w.heap[c]?=some o->o.isCells=true->w'.heap[c]?=some o)(g:w.heap.size<=w'.heap.size){t:Ty}{x:t.sK}{v:Value} (hv:Ci (Af w f) (Ba B w M) t x v):Ci (Af w' f) (Ba B w' M) t x v:=by have⟨b,d,R,e,k⟩:=hv;exact⟨b,d,R,Pp (a3Q h f) t (fun _ _ hv=>hv) e,fun c a=>⟨B3 (k c a).1 g,(k c a).2⟩⟩
theorem QD{W:World}{l:Nat}{o:Obj}(a:W.heap[l]?=some o)(d:o.isCells=false)(f:B.size<=l)(h:Obj):wH B W (W.putObj l h):=by refine⟨fun c e k g=>?_,(grownBy_putObj' W l h).size,fun b hb=>World.putObj_heap_other (by omega),rfl⟩;(have:c≠l:=by grind);simp_all[World.putObj_heap_other]
theorem WU{W:World}(g:B.size<=W.heap.size)(o:Obj):wH B W (W.alloc o):=⟨fun c f h _=>(RowKit.Below.heap_alloc W _ c (C0.1 h).1).trans h,by simp,fun b hb=>RowKit.Below.heap_alloc W _ b (by omega),rfl⟩
theorem b4E(h:sM B U N tm w M){l:Nat}{o:Obj}(f:w.heap[l]?=some o)(a:o.isCells=false):¬ BB M l:=by rintro⟨n,k⟩;obtain⟨p,b,rfl⟩:=C1.1 k;obtain⟨c,e,lo,d,g,-⟩:=h.live n p b;rw[f]at g;cases g;cases a
theorem sM.others(f:sM B U N tm w M)(h:sM (B.anew w M) U' N tm' w' M'){l:Nat}{o:Obj}(g:w.heap[l]?=some o)(k:o.isCells=false):w'.heap[l]?=some o:=(h.frame l (C0.1 g).1 (b4E f g k)).trans g
theorem a5z(U:AE)(i j:Nat)(v:AV):(U.set i v).get j=if j=i then v else U.get j:=by grind[AE.get,Ey]
theorem WV:∀(a:Ao)(x g:a.ty.sK){i:Nat}{T:Ty}{y:T.sK}(_:BL a=true)(_:(a.enc x).get i=.val T y),∃y':T.sK,(a.enc g).get i=.val T y'|[],_,_,_,_,_,_,h=>by simp_all[Ao.enc]|.sv k t::r,x,g,i,T,y,f,h=>(by have h:((Ao.enc r x.2).set k (.val t x.1)).get i=.val T y:=h;show ∃y':T.sK,((Ao.enc r g.2).set k (.val t g.1)).get i=.val T y';rw[a5z]at h|-;by_cases e:i=k;grind;rw[if_neg e]at h|-;exact WV r x.2 g.2 (by simpa[BL]using f) h)|.box n t::r,x,g,i,T,y,f,h=>by simp only[BL,bA]at f;exact WV r x.2 g.2 f.2 h|.ptr k n p::r,x,g,i,T,y,f,h=>(by cases p with|cons=>simp[BL]at f|nil=>simp only[BL,bA]at f;have h:((Ao.enc r x).set k (.ptr n [])).get i=.val T y:=h;show ∃y':T.sK,((Ao.enc r g).set k (.ptr n [])).get i=.val T y';rw[a5z]at h|-;by_cases e:i=k;simp_all;rw[if_neg e]at h|-;exact WV r x g f.2 h)|.own k m e::r,x,g,i,T,y,f,h=>(by simp only[BL,bA]at f;have h:(((Ao.enc r x.2).sI m (some ⟨false,.list true e,x.1⟩)).set k (.sref m [])).get i=.val T y:=h;show ∃y':T.sK,(((Ao.enc r g.2).sI m (some ⟨false,.list true e,g.1⟩)).set k (.sref m [])).get i=.val T y';rw[a5z]at h|-;by_cases e:i=k;simp_all;rw[if_neg e]at h|-;exact WV r x.2 g.2 f.2 h)|.rfi _ _::_,_,_,_,_,_,h,_=>by simp[BL]at h|.vp _ _::_,_,_,_,_,_,h,_=>by simp[BL]at h|.ref _ _ _::_,_,_,_,_,_,h,_=>by simp[BL]at h|.win _ _ _::_,_,_,_,_,_,h,_=>by simp[BL]at h|.clo _ _ _::_,_,_,_,_,_,h,_=>by simp[BL]at h
def a5A:Ex->Option Code|.normal=>none|.exit i=>some (.exit i)|.ret=>some .ret
def Lh(st:LoopState)(pe:Option Code)(fn:FuncId)(tmps:Array Value)(i1 i2:Nat)(assign body:Code)(D:Nat):Loop:={ state:=st,pending:=pe,fn,tmps,params:=#[i1,i2],assign,body,defers:=D }
structure uR (B:Base) (N:Nat) (a:Act) (s:Ao) (t:Nat) (te:Ty) (l0:te.sK) (l D:Nat) (r:Loop) (x:s.ty.sK) (W:World):Prop where
 rel:∃M,sM B (s.enc x) N (AH a) W M
 seq:(s.enc x).get t=.val te l0
 loop:W.heap[l]?=some (.loop r)
 dfr:W.heap[D]?=some (.deferred (some []))
theorem a3R(g0:vC P cx)(hG:gD cx.G B)(hm:P.follows .mixedOrders=true)(hH:H.fits N=true){s:Ao}{j m p:Nat}{f body:Code}(k5:CM N f=true)(k6:CM N body=true)
  (hs:s.fits N=true)(E:BL s=true)(a5:j<N)(a6:m<N){a:Act}(hN:a.tmps.size=N){fn:FuncId}{e w:Ty}{k:Int}{v:e.sK}{ve:Value}{C:w.sK}{t l D:Nat}(ht:t<N){x:s.ty.sK}{W:World}
  (hb:uR B N a s t w C l D (Lh .ready none fn a.tmps j m f body D) x W)(hv:∀Sh,Ci (cells W) Sh w C (AH a t)->Ci (cells W) Sh e v ve)(g3:B.size<=l)(h9:D≠l){y:s.ty.sK ⊕ (Ex×s.ty.sK)}
  (hy:c4H cx H p s j m f body e k v x=some y):
  RoundIn (Fr none) 0 P l fn ((a.tmps.setIfInBounds j (.int .i64 k)).setIfInBounds m ve) f body W fun en W'=>
   (∃q,y=.inl q/\en=.returned (.bool true)/\uR B N a s t w C l D (Lh .ready none fn a.tmps j m f body D) q W')\/
   (∃ex c q,y=.inr (ex,q)/\a5A ex=some c/\en=.returned (.bool false)/\uR B N a s t w C l D (Lh .done (some c) fn a.tmps j m f body D) q W'):=by
 have⟨⟨M,h⟩,hseq,hl,hD⟩:=hb;have g4:=h.tC (Km s x);have b:Ci (Af W M.ov) (Ba B W M) w C (AH a t):=by
  have:=FD h ht
  rw[hseq]at this;exact this
 have k7:Ci (Af W M.ov) (Ba B W M) e v ve:=by
  rw[g4]at b|-;exact hv _ b
 let a1:Act:={ tmps:=(a.tmps.setIfInBounds j (.int .i64 k)).setIfInBounds m ve,defers:=[] }
 have h1:sM B (((s.enc x).set j (.val (.int .i64) k)).set m (.val e v)) N (AH a1) W M:=by
  have V:sM B ((s.enc x).set j (.val (.int .i64) k)) N (AH (a.put (some j) (.int .i64 k))) W M:=h.uN hN fun _=>Ay.tJ (g:=M.g) (rt:=(s.enc x).rt) _;have X:sM B (((s.enc x).set j (.val (.int .i64) k)).set m (.val e v)) N (AH ((a.put (some j) (.int .i64 k)).put (some m) ve)) W M:=V.uN (by rw[Wx];omega) fun _=>k7;exact X
 have k0:a1.tmps.size=N:=by grind
 have R:∀(S:AE),(s.names.all fun n=>(S.rt n).isSome)=true->∀i n,i<N->(s.enc x).sl i=.one (.ptr n [])\/(s.enc x).sl i=.one (.sref n [])->S.rt n≠none:=by
  intro S L i n hi b;have hm:n∈s.names:=by
   rcases b with b|b
   have:=h.slots i hi
   rw[b]at this;obtain⟨r,-,-,-,hr,-⟩:=this;grind[cU];grind[TS]
  grind
 have g6:∀i n,i<N->(s.enc x).sl i=.one (.sref n [])->∃u,M.g n=.one u:=fun i n _ b=>by
  obtain⟨-,e,l,K⟩:=TS s x E b;rcases h.uJ K with⟨g,-⟩|⟨-,u,_,g,-⟩;all_goals simp_all
 unfold c4H at hy;refine roundIn_of_wpIn trivial (wpIn_mono (Po (ro:=some l) (D:=[]) g0 (hG.anew h1) hm hH f _ k5 hy h1.anew k0 rfl) ?_);rintro e2 a2 F ⟨ex,S,M2,rfl,hK,K,k1,k3⟩;cases ex with
 |exit i=>simp_all
 |ret=>simp_all
 |normal=>
  simp at hK;split at hK;rotate_left;grind;rename_i A;have⟨L,hK⟩:=(Ai hK).elim id fun h=>by grind
  have O:=K.tC A;have⟨k2,h7⟩:sM (B.anew W M) { S with sl:=(s.enc x).sl } N (AH a) F M2/\_:=sM.again h (fun i _=>Yk s x E i) (Km s x) K A (R S L) g6;have b2:=h1.back K;have c2:=h.back k2;have v2:Ci (Af F M2.ov) (Ba B F M2) w C (AH a t):=Ci.run h K g4 O b;have h0:=h1.others K hl rfl;have g7:=h1.others K hD rfl;refine⟨_,run_beginRound h0 rfl,?_⟩;have T3:wH B F (F.putObj l (.loop { Lh .ready none fn a.tmps j m f body D with state:=.busy })):=QD h0 rfl g3 _;revert T3;have h3:(F.putObj l (.loop { Lh .ready none fn a.tmps j m f body D with state:=.busy })).heap[l]?=some (.loop { Lh .ready none fn a.tmps j m f body D with state:=.busy }):=World.putObj_heap_same (C0.1 h0).1;have Y:(F.putObj l (.loop { Lh .ready none fn a.tmps j m f body D with state:=.busy })).heap[D]?=some (.deferred (some [])):=(World.putObj_heap_other h9).trans g7;revert h3 Y;generalize F.putObj l (.loop { Lh .ready none fn a.tmps j m f body D with state:=.busy })=W3;intro h3 Y T3;have b3:=b2.turned T3;have c3:=c2.turned T3;have v3:Ci (Af W3 M2.ov) (Ba B W3 M2) w C (AH a t):=Ci.turned T3.cells T3.size v2;refine wpIn_mono (Po (ro:=some l) (D:=[]) g0 (hG.anew b3) hm hH body _ k6 hK b3.anew k1 k3) ?_
  rintro e4 a4 I ⟨ex,U4,M4,rfl,z,h4,a3,-⟩;simp[b7i]at z;split at z;rotate_left;grind;rename_i Q;have⟨Z,z⟩:=(Ai z).elim id fun h=>by grind
  have g5:=h4.tC Q;obtain⟨k4,-⟩:sM (B.anew W3 M2) { U4 with sl:=(s.enc x).sl } N (AH a) I M4/\_:=sM.again (U:={ S with sl:=(s.enc x).sl }) c3 (fun i _=>Yk s x E i) A h4 Q (R U4 Z) h7;have c4:=c3.back k4;have v4:Ci (Af I M4.ov) (Ba B I M4) w C (AH a t):=Ci.run b3 h4 O g5 v3;have h6:=b3.others h4 h3 rfl;have g9:=b3.others h4 Y rfl;have⟨q,M5,o,h5⟩:=c4.wX hs z;have k9:=h5.tC (Km s q);have h8:(s.enc q).get t=.val w C:=by
   have⟨y',k8⟩:=WV s x q E hseq
   have:=FD h5 ht
   rw[k8]at this;have this:Ci (Af I M5.ov) (Ba B I M5) w y' (AH a t):=this;grind[Ci.yF]
  have T:∀(d:Option Code)(r':Loop),r'={ { Lh .ready none fn a.tmps j m f body D with state:=.busy }with state:=if d.isNone then .ready else .done,pending:=d }->
    (Instr.endRound l d).run P I=.ok (.bool d.isNone) (I.putObj l (.loop r'))/\uR B N a s t w C l D r' q (I.putObj l (.loop r')):=by
   rintro d r' rfl;refine⟨run_endRound d h6,⟨⟨M5,h5.turned (QD h6 rfl g3 _)⟩,h8,World.putObj_heap_same (C0.1 h6).1,(World.putObj_heap_other h9).trans g9⟩⟩
  cases ex with
  |normal=>
   simp at o;have⟨V,X⟩:=T none _ rfl;exact⟨_,_,V,.inl ⟨q,o.symm,rfl,X⟩⟩
  |exit i=>
   simp at o;have⟨V,X⟩:=T (some (.exit i)) _ rfl;exact⟨_,_,V,.inr ⟨_,_,q,o.symm,rfl,rfl,X⟩⟩
  |ret=>
   simp at o;have⟨V,X⟩:=T (some .ret) _ rfl;exact⟨_,_,V,.inr ⟨_,_,q,o.symm,rfl,rfl,X⟩⟩
def a5B(P:Program)(it:FuncId)(e:Ty):Prop:=(∀args w,(callFunc it args).run P w=.ok (.enter it args) w)/\∀(l Bs:Nat)(sv:Value)(xs:List e.sK)(J:Nat->World->Prop)(Jx:World->Prop)(W:World),xs.length<2147483648->(∀k W',J k W'->W'.cell? ⟨Bs,0,none⟩=some sv/\∃Sh,Ci (cells W') Sh (.list false e) xs sv)->(∀n (x:e.sK) (v:Value) W',xs[n]?=some x->J (n+1) W'->(∀Sh,Ci (cells W') Sh (.list false e) xs sv->Ci (cells W') Sh e x v)->YieldAt (Fr none) 0 P l #[.int .i64 (n:Int),v] W' fun en W''=>(en=.returned (.bool true)/\J n W'')\/(en=.returned (.bool false)/\Jx W''))->J xs.length W->CallsIn (Fr none) 0 P it #[.func (.yield l) #[] #[],.pointer (some ⟨Bs,0,none⟩)] W fun en W'=>(∃v,en=.returned v)/\(J 0 W'\/Jx W')
def b1q(P:Program)(mk it:FuncId):Prop:=ZJ P mk/\∀(A:Option Addr)(len cap:Nat)(w:World),Calls P mk #[.slice A len cap] w fun en w'=>en=.returned (.func (.func it) #[] #[.pointer (some ⟨w.heap.size,0,none⟩)])/\∃ty,w'=w.alloc (.cells #[.slice A len cap] ty)
def c9j{S:Type}:S ⊕ (Ex×S)->Ex×S|.inl x=>(.normal,x)|.inr q=>q
theorem a7S(hcx:vC P cx)(hG:gD cx.G B)(hm:P.follows .mixedOrders=true)(hH:H.fits N=true){s:Ao}{i1 i2 p:Nat}{assign body:Code}(hfa:CM N assign=true)(hfb:CM N body=true) (hs:s.fits N=true)(hfl:BL s=true)(hi1:i1<N)(hi2:i2<N){a:Act}(hN:a.tmps.size=N){e:Ty}{l0:List e.sK}{t g Bs it:Nat}(ht:t<N){x:s.ty.sK} (h:sM B (s.enc x) N (AH a) w M)(hseq:(s.enc x).get t=.val (.list false e) l0)(hg:a.eval (.tmp g)=.func (.func it) #[] #[.pointer (some ⟨Bs,0,none⟩)])(hit:a5B P it e)(hlen:l0.length<2147483648) (hcell:w.cell? ⟨Bs,0,none⟩=some (AH a t))(hBs:Bs<B.size)(hBF:¬ B.F Bs){y:s.ty.sK ⊕ (Ex×s.ty.sK)}(hy:RT (c4H cx H p s i1 i2 assign body e) l0 l0.length x=some y)(hd:a.defers=[]):(Code.rangeFunc (.tmp g) #[i1,i2] assign body).wpIn (Fr none) 0 P (fun en a' w'=>∃D,en=rI (c9j y).1/\a'.tmps.size=N/\a'.defers=[{ target:=.collected D,args:=#[] }]/\B.size<=D/\w'.heap[D]?=some (.deferred (some []))/\∃M',sM B (s.enc (c9j y).2) N (AH a') w' M') a w:=by
 refine wpIn_rangeFunc ?_;intro fn _;have⟨D,hDe⟩:∃D,w.heap.size=D:=⟨_,rfl⟩;have⟨W1,hW1⟩:∃W1,(w.alloc (.deferred (some []))).alloc (.loop (Lh .ready none fn a.tmps i1 i2 assign body D))=W1:=⟨_,rfl⟩;have hsz:=h.size;have T1:wH B w W1:=by rw[<-hW1];have t1:=WU (B:=B) hsz (.deferred (some []));have t2:=WU (B:=B) (W:=w.alloc (.deferred (some []))) (by simp;omega) (.loop (Lh .ready none fn a.tmps i1 i2 assign body D));exact⟨fun c o hc ho=>t2.cells c o (t1.cells c o hc ho) ho,B9 t1.size t2.size,fun b hb=>(t2.frame b hb).trans (t1.frame b hb),t2.io.trans t1.io⟩
 have hL1:W1.heap[D+1]?=some (.loop (Lh .ready none fn a.tmps i1 i2 assign body D)):=by grind[World.alloc_heap_new,World.size_alloc]
 have hK1:W1.heap[D]?=some (.deferred (some [])):=by grind[RowKit.Below.heap_alloc,World.alloc_heap_new]
 have hB1:uR B N a s t (.list false e) l0 (D+1) D (Lh .ready none fn a.tmps i1 i2 assign body D) x W1:=⟨⟨M,h.turned T1⟩,hseq,hL1,hK1⟩;have hBsAll:∀{U' tm' W' M'},sM B U' N tm' W' M'->W'.cell? ⟨Bs,0,none⟩=some (AH a t):=fun {U' tm' W' M'} h'=>by have e1:=h'.frame Bs hBs hBF;have e2:=h.frame Bs hBs hBF;simp_all[World.cell?]
 refine⟨D+1,[{ target:=.collected D,args:=#[] }],W1,{ target:=.fn (.func it) #[.pointer (some ⟨Bs,0,none⟩)],args:=#[.func (.yield (D+1)) #[] #[]] },W1,it,#[.func (.yield (D+1)) #[] #[],.pointer (some ⟨Bs,0,none⟩)],W1,?_,?_,fun _ _=>trivial,?_,fun h=>(by grind),?_⟩;rw[<-hW1,<-hDe];exact run_enterLoop_outer _ _ _ _ _;simp only[resolve,hg];simp[go_sem];have:=hit.1 (#[.func (.yield (D+1)) #[] #[]]++#[.pointer (some ⟨Bs,0,none⟩)]) W1;simp_all[invoke];refine(hit.2 (D+1) Bs (AH a t) l0 (fun n W=>∃x',RT (c4H cx H p s i1 i2 assign body e) l0 n x'=some y/\uR B N a s t (.list false e) l0 (D+1) D (Lh .ready none fn a.tmps i1 i2 assign body D) x' W) (fun W=>∃ex c x',y=.inr (ex,x')/\a5A ex=some c/\uR B N a s t (.list false e) l0 (D+1) D (Lh .done (some c) fn a.tmps i1 i2 assign body D) x' W) W1 hlen ?_ ?_ ⟨x,hy,hB1⟩).mono ?_;rintro k W' ⟨x',-,hb⟩;obtain⟨⟨M',h'⟩,hseq',-,-⟩:=hb;refine⟨hBsAll h',?_⟩;have:=FD h' ht;rw[hseq',h'.tC (Km s x')]at this;exact⟨_,this⟩;rintro n xe v W' hx ⟨x',hy',hb⟩ hv;have hyield:(Instr.yield (D+1) #[.int .i64 (n:Int),v]).run P W'=.ok (.round (D+1) fn ((a.tmps.setIfInBounds i1 (.int .i64 (n:Int))).setIfInBounds i2 v) assign body) W':=by have:=run_yield (P:=P) (args:=#[.int .i64 (n:Int),v]) hb.loop rfl;simpa[Lh]using this
 simp[RT,hx]at hy';split at hy';grind;rename_i s' hs';refine⟨_,_,_,_,hyield,(a3R hcx hG hm hH hfa hfb hs hfl hi1 hi2 hN ht hb hv (by omega) (by omega) hs').mono ?_⟩;grind;rename_i r hr;simp at hy';refine⟨_,_,_,_,hyield,(a3R hcx hG hm hH hfa hfb hs hfl hi1 hi2 hN ht hb hv (by omega) (by omega) hr).mono ?_⟩;grind;have hdone:∀{x' W2 st pe},uR B N a s t (.list false e) l0 (D+1) D (Lh st pe fn a.tmps i1 i2 assign body D) x' W2->∀r',(W2.putObj (D+1) (.loop r')).heap[D]?=some (.deferred (some []))/\∃M',sM B (s.enc x') N (AH a) (W2.putObj (D+1) (.loop r')) M':=by rintro x' W2 st pe ⟨⟨M',h'⟩,-,hl,hD⟩ r';exact⟨(World.putObj_heap_other (by omega)).trans hD,M',h'.turned (QD hl rfl (by omega) _)⟩
 rintro en W2 ⟨⟨v,rfl⟩,⟨x',hy',hb⟩|⟨ex,c,x',rfl,hc,hb⟩⟩;simp[RT]at hy';subst hy';refine⟨none,_,run_endLoop (P:=P) hb.loop (by simp[Lh]),?_⟩;have⟨g1,g2⟩:=hdone hb { Lh .ready none fn a.tmps i1 i2 assign body D with state:=.exhausted };exact⟨D,rfl,hN,by simp_all,by omega,g1,g2⟩;refine⟨some c,_,run_endLoop (P:=P) hb.loop (by simp[Lh]),?_⟩;have⟨g1,g2⟩:=hdone hb { Lh .done (some c) fn a.tmps i1 i2 assign body D with state:=.exhausted };cases ex with|normal=>(cases hc)|exit i=>simp[a5A]at hc;subst hc;exact wpIn_exit ⟨D,rfl,hN,by simp_all,by omega,g1,g2⟩|ret=>simp[a5A]at hc;subst hc;exact wpIn_ret ⟨D,rfl,hN,by simp_all,by omega,g1,g2⟩
end
section
variable {P:Program} {B:Base} {N:Nat} {cx:Cx} {H:sF} {r:vF}
def b1r(B:Base)(ds:List Deferred)(w:World):Prop:=ds=[]\/∃D,ds=[{ target:=.collected D,args:=#[] }]/\B.size<=D/\w.heap[D]?=some (.deferred (some []))
def b7k{Z:Type}(B:Base)(N:Nat)(K:Ex->AE->Rs Z)(z:Z):Exit->Act->World->Prop:=fun e a w=>∃ex U M,e=rI ex/\K ex U=some z/\sM B U N (AH a) w M/\a.tmps.size=N/\b1r B a.defers w
theorem kI(d:vC P cx)(n:gD cx.G B)(u:P.follows .mixedOrders=true)(o:H.fits N=true){c:Code}{p:Nat}{Z:Type}{U:AE}{K:Ex->AE->Rs Z}{z:Z}{a:Act}{w:World}{M:Gh}(t:CM N c=true) (v:Dv cx H c p U K=some z)(h:sM B U N (AH a) w M)(r:a.tmps.size=N)(g:b1r B a.defers w):c.wpIn (Fr none) 0 P (b7k B N K z) a w:=by refine wpIn_mono (Po (ro:=none) (D:=a.defers) d (n.anew h) u o c p t v h.anew r rfl) ?_;rintro e x y ⟨ex,m,l,rfl,q,j,b,i⟩;refine⟨ex,m,l,rfl,q,h.back j,b,?_⟩;rcases g with g|⟨D,g,k,f⟩;exact .inl (i.trans g);exact .inr ⟨D,i.trans g,k,h.others j f rfl⟩
structure wJ (P:Program) (r:vF):Prop where
 mkr:b1q P r.mkr r.it
 it:a5B P r.it r.e
def b7l(N:Nat)(r:vF)(q:vZ):Bool:=q.ops.toList.all (RM N q.ops.toList)&&(CM N q.assign&&(CM N q.body&&(A3 (q.i1<N)&&(A3 (q.i2<N)&&(A3 (q.g<N)&&(A3 (r.t<N)&&(r.s.fits N&&r.t != q.g)))))))
theorem b1s{k a:Code}{q:vZ}(h:cV k a=some q):∃id,k=.region id q.ops false/\a=.block q.b (.rangeFunc (.tmp q.g) #[q.i1,q.i2] q.assign q.body):=by unfold cV at h;split at h;rename_i i f body;split at h;rename_i c d e;cases h;exact⟨_,rfl,by rw[show i=#[c,d]from by grind]⟩;simp_all;simp_all
theorem b1t{o:Oper}{g:Nat}(h:a5y o r g=true):∃c,o.op=.call c/\c.callee=.value (.func r.mkr)/\c.args=#[.tmp r.t]/\o.dst=some g/\o.guard=none:=by unfold a5y at h;split at h;rename_i c b;split at h;rename_i f t k a;simp at h;grind;simp_all;simp_all
theorem a5C(h4:vC P cx)(hG:gD cx.G B)(hm:P.follows .mixedOrders=true)(hH:H.fits N=true)(hr:wJ P r)(R:∀i b,1000<=i->B.pin i≠some b){c1 c2:Code}{q:vZ}(hq:cV c1 c2=some q)(hf:b7l N r q=true)
  {p:Nat}{Z:Type}{U:AE}{K:Ex->AE->Rs Z}{z:Z}{a:Act}{w:World}{M:Gh}(S:b1p cx H r q p U K=some z)(h:sM B U N (AH a) w M)(hN:a.tmps.size=N)(hd:a.defers=[]):
  (Code.seq c1 c2).wpIn (Fr none) 0 P (b7k B N K z) a w:=by
 obtain⟨id,rfl,rfl⟩:=b1s hq;simp only[b7l,bA,dT]at hf;have⟨h9,k3,k4,k7,k8,hg,ht,hs,a5⟩:=hf;have a5:r.t≠q.g:=by simp_all
 unfold b1p at S;split at S;rotate_left;grind;rename_i mv cl hl;have⟨F,S⟩:=(Ai S).elim _root_.id fun h=>by grind
 simp at F;have⟨F,k5,b7⟩:=F;have⟨c,ho,k1,k0,h5,b6⟩:=b1t F;refine wpIn_seq (wpIn_region_list ?_);have h0:=WN (lA.1 h9 mv (by simp_all));rw[hl];simp only[wpListIn];rw[if_pos (by simp_all[Region.wanted])];refine Ou h4 hG h hN h0 S fun v w1 U1 M1 h1 S=>?_
 have⟨a1,g9⟩:∃a1,a.put mv.dst v=a1:=⟨_,rfl⟩;have g7:a1.tmps.size=N:=by grind[Wx]
 have b5:a1.defers=[]:=by grind[UP]
 rw[g9]at h1|-;rw[if_pos (by simp_all[Region.wanted])];split at S;grind;rename_i b3

 have⟨o,h6⟩:∃o,Value.func (.func r.it) #[] #[.pointer (some ⟨w1.heap.size,0,none⟩)]=o:=⟨_,rfl⟩;have h7:sM B (U1.set q.g .dead) N (AH (a1.put (some q.g) o)) w1 M1:=h1.uN g7 fun _=>trivial;have a6:AH (a1.put (some q.g) o) r.t=AH a1 r.t:=by simp_all[Ww]
 have O:∀{B':Base}{k:World},(∀i b,1000<=i->B'.pin i≠some b)->sM B' (U1.set q.g .dead) N (AH (a1.put (some q.g) o)) k M1->∃(x:r.s.ty.sK)(l0:List r.e.sK)(y:r.s.ty.sK ⊕ (Ex×r.s.ty.sK)) (M2:Gh),sM B' (r.s.enc x) N (AH (a1.put (some q.g) o)) k M2/\
   (r.s.enc x).get r.t=.val (.list false r.e) l0/\l0.length<2147483648/\RT (c4H cx H (2*p+1) r.s q.i1 q.i2 q.assign q.body r.e) l0 l0.length x=some y/\
   (match y with
    |.inl u=>K .normal (r.s.enc u)
    |.inr (.normal,u)=>K .normal (r.s.enc u)
    |.inr (.exit i,u)=>bif i==q.b then K .normal (r.s.enc u)else K (.exit i) (r.s.enc u)
    |.inr (.ret,u)=>K .ret (r.s.enc u))=some z:=by
  intro B' k hp k9;have⟨U2,M2,b0,h2⟩:=sM.vN hp _ k9 S;have⟨x,L,m,h3⟩:=h2.wX hs b0;split at m;rename_i t l k6;split at m;rename_i he;subst he;have⟨h8,m⟩:=(Ai m).elim _root_.id fun h=>by grind
  have⟨y,a8,a9⟩:=B8.1 m;exact⟨x,l,y,L,h3,k6,of_decide_eq_true (show A3 (B7 l<2147483648)=true from h8),a8,a9⟩;simp_all;simp_all
 have⟨A,I,C,a4⟩:∃A I C,AH a1 r.t=.slice A I C:=by
  obtain⟨x,l0,y,M2,g1,g2,-⟩:=O R h7
  have:=FD g1 ht
  rw[g2,a6]at this;obtain⟨A,n,c,e,-⟩:=Ci.header this;simp_all
 refine a5l (fun c' b4=>by simp_all) ?_
 rw[a7z hr.mkr.1 ho k1,Oper.uponIn_enter];refine⟨fun h=>(by grind),a7y ?_⟩;have X:c.args.map a1.eval=#[.slice A I C]:=by
  rw[k0,<-a4];simp only[List.map_toArray,List.map_cons,F3];rfl
 rw[X];refine(hr.mkr.2 A I C w1).mono ?_
 rintro en k ⟨rfl,ty,a7⟩
 simp
 rw[h6,h5];have T:wH B w1 k:=by rw[a7];exact WU h1.size _
 have E:=h7.turned T;have g5:sM { B.anew k M1 with pin:=B.pin } (U1.set q.g .dead) N (AH (a1.put (some q.g) o)) k M1:=E.anew.xX B.pin fun i b hb=>by simp_all[Base.anew]
 have⟨x,l0,y,M2,g1,g2,gl,g3,Q⟩:=O (B':={ B.anew k M1 with pin:=B.pin }) R g5;have Y:k.cell? ⟨w1.heap.size,0,none⟩=some (AH (a1.put (some q.g) o) r.t):=by
  simp_all
 have g0:w1.heap.size<k.heap.size:=by simp_all
 refine wpIn_block (wpIn_mono (a7S (B:={ B.anew k M1 with pin:=B.pin }) (a:=a1.put (some q.g) o) (p:=2*p+1) (it:=r.it) (Bs:=w1.heap.size) h4 (hG.anew E) hm hH k3 k4 hs k5 k7 k8 (by rw[Wx];omega) ht g1 g2 ?_ hr.it gl Y g0
  (fun ho=>Nat.lt_irrefl _ (h1.lt ho)) g3 (by simp_all[UP])) ?_)
 show AH (a1.put (some q.g) o) q.g=_;rw[Ww _ (by omega),if_pos rfl,<-h6]
 ·rintro en a3 w3 ⟨D,rfl,d,k2,V,g6,L,a2⟩;have V:k.heap.size<=D:=V;have j:sM B (r.s.enc (c9j y).2) N (AH a3) w3 L:=E.uH (fun _ _ h=>h) a2;have f:b1r B a3.defers w3:=.inr ⟨D,k2,B9 E.size V,g6⟩;cases y with
  |inl u=>exact⟨.normal,_,L,rfl,Q,j,d,f⟩
  |inr ex=>
   have⟨ex,u⟩:=ex;cases ex with
   |normal=>exact⟨.normal,_,L,rfl,Q,j,d,f⟩
   |ret=>exact⟨.ret,_,L,rfl,Q,j,d,f⟩
   |exit i=>
    simp[c9j,rI,Exit.inBlock];rcases Ai Q with⟨hi,Q⟩|⟨hi,Q⟩;rw[if_pos (by simp_all)];exact⟨.normal,_,L,rfl,Q,j,d,f⟩;rw[if_neg (by simp_all)];exact⟨.exit i,_,L,rfl,Q,j,d,f⟩
def Rv(N:Nat)(r:vF):Code->Bool|.seq a b=>(match cV a b with|some q=>b7l N r q|none=>bif Pr a then Rv N r a&&CM N b else CM N a&&Rv N r b)|c=>CM N c
theorem a5D(m:vC P cx)(u:gD cx.G B)(A:P.follows .mixedOrders=true)(v:H.fits N=true)(L:wJ P r)(C:∀i b,1000<=i->B.pin i≠some b):∀(c:Code) (p:Nat){Z:Type}{U:AE}{K:Ex->AE->Rs Z}{z:Z}{a:Act}{w:World}{M:Gh}(_:Rv N r c=true) (_:hU cx H r c p U K=some z) (_:sM B U N (AH a) w M) (_:a.tmps.size=N) (_:a.defers=[]),c.wpIn (Fr none) 0 P (b7k B N K z) a w:=by intro c;induction c with|seq x y ihx ihy=>(intro p Z U K z a w M d j h t q;simp[Rv]at d;simp[hU]at j;split at j;grind[a5C];rename_i F;rw[F]at d;simp only[]at d;refine wpIn_seq ?_;cases hx:Pr x with|true=>(rw[hx]at d j;simp at d j;refine wpIn_mono (ihx _ d.1 j h t q) ?_;rintro e E I ⟨ex,o,n,rfl,l,k,f,g⟩;cases ex with|normal=>exact kI m u A v d.2 l k f g|exit i=>exact⟨.exit i,o,n,rfl,l,k,f,g⟩|ret=>exact⟨.ret,o,n,rfl,l,k,f,g⟩)|false=>rw[hx]at d j;simp at d j;refine wpIn_mono (Po (ro:=none) (D:=[]) m u A v x _ d.1 j h t q) ?_;rintro e E I ⟨ex,o,n,rfl,l,k,f,g⟩;cases ex with|normal=>exact ihy _ d.2 l k f g|exit i=>exact⟨.exit i,o,n,rfl,l,k,f,.inl g⟩|ret=>exact⟨.ret,o,n,rfl,l,k,f,.inl g⟩)|_=>intro p Z U K z a w M d j h t q;refine kI m u A v (p:=p) (U:=U) (M:=M) ?_ ?_ h t (.inl q);simpa only[Rv]using d;simpa only[hU]using j
end
def c2d(fn:Func)(c:Code)(H:sF)(r:vF)(s:sG):Bool:=Rv fn.ntmps r c&&(H.fits fn.ntmps&&(A3 (s.ps.length<=fn.ntmps)&&(A3 (s.ps.length<=1000)&&fn.results.toList.all fun r=>VJ fn.ntmps (.inl r))))
section
variable {P:Program} {cx:Cx}
theorem Va:∀(g:List PA)(i0 i:Nat),i∈AW g i0->i<i0+g.length|[],_,_,h=>by simp[AW]at h|.v _::g,i0,i,h=>by have:=Va g (i0+1) i h;grind|.r _ _::g,i0,i,h=>by simp;rcases mC.1 h with rfl|h;omega;have:=Va g (i0+1) i h;omega
theorem KU.yZ(t:vC P cx)(hm:P.follows .mixedOrders=true){f:FuncId}{fn:Func}{c:Code}{H:sF}{r:vF}{s:sG}(h7:wJ P r)(h5:P.funcs[f]?=some fn)(hb:fn.body=some c)(O:c2d fn c H r s=true) (h4:∀x,b3r cx H r fn s.ps s.rs x=s.F x):KU P cx.G f s:=by
 simp only[c2d,bA,dT]at O;have⟨L,hH,g3,S,q⟩:=O;intro w T M args x y Z hy hB g1 g2 h0 z p;have⟨B,d⟩:∃B:Base,{ T with pin:=fun i=>bif A3 (i<1000)then T.pin i else none }=B:=⟨_,rfl⟩;have g:sM B (Ws s.ps x) s.ps.length (fun i=>args.getD i undef) w M:=by(rw[<-d];refine z.xX _ fun i b hb=>?_);grind
 have R:∀i b,1000<=i->B.pin i≠some b:=by rw[<-d];grind
 have l:b2Y B s.ps args:=by(intro i hi hk;have⟨b,U,E⟩:=p i hi hk;refine⟨b,?_,E⟩;have N:i<s.ps.length:=by have:=Va s.ps 0 i hi;omega);(have:A3 (i<1000)=true:=by grind);rw[<-d];simp_all
 have Z:gD cx.G B:=by rw[<-d];exact Z
 have j:∀{C its vs o},wR B C its vs o->wR T C its vs o:=fun {C its vs o} h=>by rw[<-d]at h;exact⟨h.lv,h.ll,h.ok,h.nodup,h.sV,h.live,h.mine,h.size,h.frame,h.still⟩
 rw[<-h4 x]at hy;simp[b3r,hb]at hy;let a:Act:={ tmps:=args++D3 (fn.ntmps-args.size) undef,defers:=[] };have h8:a.tmps.size=fn.ntmps:=by grind
 have u:sM B (Ws s.ps x) fn.ntmps (AH a) w M:=by refine⟨g.roots,g.norm,g.nodup,g.sV,g.live,fun i hi=>?_,g.pend,g.size,g.frame,g.mine,g.pins,g.still⟩;by_cases N:i<s.ps.length;have:=g.slots i N;(have e:AH a i=args.getD i undef:=by simp[AH,a,E6];simp_all);simp_all;(have:(Ws s.ps x).sl i=.one .dead:=by simp_all[Ws,IM]);rw[this];trivial
 refine callsIn_wide.1 (callsIn_of_wp_marks (F:=Fr none) (n:=0) h5 hb trivial (wpIn_mono (a5D t Z hm hH h7 R c 1 L hy u h8 rfl) ?_));rintro e a' C ⟨ex,U',M',rfl,V,hr,hN,I⟩;simp at V;have h9:(∀i,ex≠.exit i)/\U'.pd=none/\(U'.upto fn.ntmps).outs cx [] fn.ntmps (RA.all s.ps s.rs) (fn.results.toList.map .inl++(AW s.ps 0).map fun i=>.inr (UH s.ps i)) (fun y _=>some y)=some y:=by grind
 have⟨g0,Q,V⟩:=h9;have k:LeavesInM (Fr none) 0 P fn a'.tmps (fun e C=>∃A o,e=.returned (jU A)/\A.length=s.rs.length/\wR T C (EJ (RA.all s.ps s.rs) y) (A++(AW s.ps 0).map (Gu s.ps args)) o) a'.defers .returning C:=by rcases I with I|⟨D,I,Y,K⟩;rw[I];have⟨v,m,A,o,U,E,X⟩:=WT (args:=args) t.toCxTy q hr Q V l;exact⟨v,m,A,o,U,E,j X⟩;rw[I];have h6:=hr.turned (QD K rfl Y (.deferred none));have⟨v,m,A,o,U,E,X⟩:=WT (args:=args) t.toCxTy q h6 Q V l;exact⟨by simp,.inl ⟨D,_,rfl,run_takeDeferred K,v,m,A,o,U,E,j X⟩⟩
 cases ex with|exit i=>simp_all|normal=>exact k|ret=>exact k
end
end Go.Ab
