/- Part of the proof: LibZJD. Conditions: as each statement tells. -/
import Derived.OrdersIn
import Derived.OpenShut
import Derived.Deep.Slices
import Derived.ChangeSame
import Derived.WideKeyArgs
import Derived.RowKit
import Derived.Laws.StructEq
import Derived.ChangeKeysEq
import Derived.RangeFuncNested
import Derived.RangeFuncLeaves
import Derived.Test.YtkikcohfbelmeacGreatDoorMB
noncomputable section
set_option linter.unusedSimpArgs false
set_option linter.unusedVariables false
open Array renaming getElem?_eq_some_iff->C0,replicate->D2,getElem?_append->E7,all_toList->F9
open Bool renaming true->ka,false->kc,false_eq_true->A8,and_eq_true_iff->B3,false_and->D3,not_eq_true'->F8,not_false->G3,and_false->G4
open Decidable renaming decide->A4
open List renaming mem_append_right->A6,mem_append_left->A7,mem_cons_of_mem->A9,map_congr_left->B6,length->B7,mem_map->C1,mem_cons_self->C2,mem_filterMap->C3,all_cons->C4,range_eq_range'->C6,append_nil->C7,getElem?_cons_zero->C8,range->C9,mem_of_getElem?->D1,mem_range->D4,map_id->D5,getElem?_append_right->D6,range'->D7,mem_flatMap->D9,mem_filter->E3,contains_iff_mem->E4,append->E5,mem_iff_getElem?->E6,range'_append_1->E8,contains_eq_mem->E9,mem_map_of_mem->F0,map_map->F1,zipWith->F2,map_nil->F4,filter_congr->F5,ext_getElem?->F6,getElem?_map->F7
open Nat renaming lt_of_lt_of_le->B4,le_trans->B9,le_refl->C5,zero_add->F3
open Option renaming some->kd,none->ke,isSome_iff_exists->A3,bind_eq_some_iff->B8,elim->D0,ne_none_iff_exists'->D8,getD_some->E1,map_some->E2
namespace Go.Ab
section
variable {cx:Cx} {o:Oper} {d:Nat} {U:AE}
theorem c2f{Z:Type}(U:AE)(ty:Option Ty)(a:AV)(K:Nat->Rs Z):U.vX ty a K=(U.vX ty a kd).elim ke K:=by unfold AE.vX;grind
theorem b1O{Z:Type}{U U2:AE}{a:AV}(h:∀n∈a.refs,U2.look n=U.look n)(ty:Option Ty)(K:Nat->Rs Z):U2.vX ty a K=U.vX ty a K:=by unfold AE.vX;grind[AV.refs]
theorem a8G{Z:Type}(f:Int->Int->Int)(k:IntKind):∀(l:List AV)(x:Int)(K:AV->Rs Z),AE.wG f k l x K=(AE.wG f k l x kd).elim ke K|[],x,K=>rfl|a::r,x,K=>by cases a with|val t y=>(cases t with|int h=>simp only[AE.wG];split;exact a8G f k r _ K;rfl|_=>rfl)|_=>rfl
theorem a3y{Z:Type}(U:AE)(e:Ty)(x:AV)(ys:List e.sI)(K:AE->Rs Z):U.uD ka d e x ys K=(match x with
  |.nils|.empt=>bif BM ys.length then U.fresh ka d ⟨kc,.list ka e,ys⟩ λU=>K (U.set d (.sref d []))else ke
  |_=>ke):=by
 cases x<;>rfl
theorem nL{e:Ty}{x:AV}{ys:Option (List e.sI)}(h:∀U2,Et (AC o) U U2->∀{Z:Type}(K:AE->Rs Z),Bg cx ka o U2 K=ys.elim ke λys=>U2.uD ka d e x ys K):Ds cx o d U:=by cases ys with|none=>exact Ds.none h|some ys=>have h:∀U2,Et (AC o) U U2->∀{Z:Type}(K:AE->Rs Z),Bg cx ka o U2 K=U2.uD ka d e x ys K:=h;cases hl:BM ys.length with|false=>grind[Ds.none,a3y]|true=>cases x with|nils=>(exact Ds.vB ⟨kc,.list ka e,ys⟩ (.sref d []) rfl λU2 g Z K=>by simp_all[a3y])|empt=>(exact Ds.vB ⟨kc,.list ka e,ys⟩ (.sref d []) rfl λU2 g Z K=>by simp_all[a3y])|_=>exact Ds.none λU2 g Z K=>by rw[h U2 g,a3y]
theorem b0s{U2:AE}(h:Et (AC o) U U2){c:Call}(g:o.op=.call c):c.args.toList.map U2.sJ=c.args.toList.map U.sJ:=B6 λx f=>h.sJ (by simp_all[Op.operands,Call.operands])
theorem PT{c:Call}(h:o.op=.call c):∀x∈c.args.toList,x∈o.op.operands.toList:=λx g=>by simp_all[Op.operands,Call.operands]
theorem a5x{c:Call}{b:Builtin}(u:o.op=.call c)(hb:c.callee=.builtin b)(z:o.dst=kd d):Ds cx o d U:=by
 have j:∀g,Et (AC o) U g->∀{Z:Type}(K:AE->Rs Z),Bg cx ka o g K=g.uN ka cx d b c.argTypes.toList (c.args.toList.map U.sJ) K:=λg f Z K=>by grind[Bg,b0s]
 have m:∀a∈c.args.toList.map U.sJ,∀n∈a.refs,∀g,Et (AC o) U g->g.look n=U.look n:=λa q n p g f=>by obtain⟨x,v,rfl⟩:=C1.1 q;exact f.look (PT u x v) p
 revert j m;generalize c.args.toList.map U.sJ=as;generalize c.argTypes.toList=ts;intro j m;have i:(∀(g:AE){Z:Type}(K:AE->Rs Z),g.uN ka cx d b ts as K=ke)->Ds cx o d U:=λh=>Ds.none λg f Z K=>by simp_all
 cases b with|len=>(match as with|[a]=>((refine Ds.of ((U.vX (ts.head?.bind cx.T) a kd).map λn=>.val (.int .i64) (n:Int)) λg f Z K=>?_);rw[j g f];simp only[AE.uN];rw[c2f,b1O λn p=>m a (by simp) n p g f];cases U.vX (ts.head?.bind cx.T) a kd<;>rfl)|[]=>(exact i λg Z K=>rfl)|_::_::_=>exact i λg Z K=>rfl)|max=>(match as with|[]=>(exact i λg Z K=>rfl)|a::r=>cases a with|val t x=>(cases t with|int k=>(exact Ds.of (AE.wG Fk k r x kd) λg f Z K=>by rw[j g f];exact a8G _ _ _ _ _)|_=>exact i λg Z K=>rfl)|_=>exact i λg Z K=>rfl)|min=>(match as with|[]=>(exact i λg Z K=>rfl)|a::r=>cases a with|val t x=>(cases t with|int k=>(exact Ds.of (AE.wG OH k r x kd) λg f Z K=>by rw[j g f];exact a8G _ _ _ _ _)|_=>exact i λg Z K=>rfl)|_=>exact i λg Z K=>rfl)|append=>(match as with|[]=>(exact i λg Z K=>rfl)|[_]=>(exact i λg Z K=>rfl)|_::_::_::_=>(exact i λg Z K=>rfl)|[a,b]=>cases hni:mH cx ts with|false=>(cases hzl:b3I cx ts a b with|none=>(exact i λg Z K=>by simp only[AE.uN,hni,Zl,hzl,cF])|some w=>have⟨e,ys⟩:=w;exact nL (e:=e) (x:=.nils) (ys:=kd ys) λg f Z K=>by rw[j g f];simp only[AE.uN,hni,Zl,hzl,cF];rfl)|true=>cases ht:ts.head?.bind cx.T with|none=>simp_all[AE.uN]|some τ=>cases τ with|list A e=>((have l:(∀(g:AE){Z:Type}(K:AE->Rs Z),g.uN ka cx d .append ts [a,b] K=g.elems e b λys=>g.uD ka d e a ys K)->Ds cx o d U:=λh=>nL (e:=e) (x:=a) (ys:=PS U.look e b) λg f Z K=>by simp_all[Zv,Tx]);cases b with|val t y=>(cases t with|str=>(by_cases he:e=.int .u8;subst he;exact nL (e:=.int .u8) (x:=a) (ys:=kd y) λg f Z K=>by rw[j g f];simp only[AE.uN,hni,ht,cT];rfl);simp_all[AE.uN]|_=>exact l λg Z K=>by simp only[AE.uN,hni,ht,cT,Bool.true_or])|_=>exact l λg Z K=>by simp only[AE.uN,hni,ht,cT,Bool.true_or])|_=>exact i λg Z K=>by simp only[AE.uN,hni,ht,cT])|cap=>(match as with|[]=>(exact i λg Z K=>rfl)|a::_::_=>(exact i λg Z K=>by cases a<;>rfl)|[a]=>cases a with|nils=>((refine Ds.of (bif Ty.isList ((ts.head?.bind cx.T).getD .unit)then kd (.val (.int .i64) (0:Int))else ke) λg f Z K=>?_);rw[j g f];simp only[AE.uN];cases Ty.isList ((ts.head?.bind cx.T).getD .unit)<;>rfl)|_=>exact i λg Z K=>rfl)|_=>exact i λg Z K=>by unfold AE.uN;split<;>first|rfl|(rename_i h;cases h)|(rename_i h _;cases h)
def nM(fz:Bool)(lk:Nat->Option sK):(p:PA)->AV->Option p.ty.sI|.v t,a=>bif fz then SB t a else Uz lk t a|.r _ _,_=>ke
theorem fZ{Z:Type}(U:AE)(fz:Bool)(seen:List Nat)(p:PA)(a:AV)(K:p.ty.sI->AE->List Nat->List Nat->Rs Z):U.arg fz ka [] seen p a K=(nM fz U.look p a).elim ke λx=>K x U [] (bif fz then seen else a.sP++seen):=by cases p with|v t=>(simp only[AE.arg];rw[show(a.sP.any λn=>([]:List Nat).contains n)=kc from by simp];simp;cases fz with|true=>simp[nM];rw[a1T];rfl|false=>simp[nM];rw[b4b];rfl)|r c b=>cases b with|v t=>rfl|b t=>(cases a with|ptr n p=>(cases p<;>simp[AE.arg,nM])|_=>rfl)|o e=>cases a with|sref n p=>(cases p<;>simp[AE.arg,nM])|_=>rfl
def AE.uI(U:AE)(fz:Bool)(seen:List Nat)(ps:List PA)(as:List AV):Option (Eh (ps.map PA.ty)).sI:=U.args fz ka [] seen ps as λx _ _=>kd x
theorem a8H(U:AE)(fz:Bool)(h:List PA):∀{Z:Type}(as:List AV)(seen:List Nat)(K:(Eh (h.map PA.ty)).sI->AE->List Nat->Rs Z),U.args fz ka [] seen h as K=(U.uI fz seen h as).elim ke λx=>K x U []:=by induction h with|nil=>(intro Z as seen K;cases as<;>rfl)|cons p h g=>intro Z as seen K;cases as with|nil=>(cases h<;>rfl)|cons a as=>cases h with|nil=>(cases as with|nil=>(simp[AE.uI,AE.args];rw[fZ,fZ];cases nM fz U.look p a<;>rfl)|cons=>rfl)|cons f h=>simp[AE.uI,AE.args];rw[fZ,fZ];cases nM fz U.look p a with|none=>rfl|some x=>simp[D0];rw[g,g];cases U.uI fz (bif fz then seen else a.sP++seen) (f::h) as<;>rfl
theorem a8I{U:AE}(fz:Bool)(g:List PA):∀(as:List AV)(seen:List Nat)(x:(Eh (g.map PA.ty)).sI),U.uI fz seen g as=kd x->Ko g=[]:=by induction g with|nil=>intro as seen x h;rfl|cons p g f=>intro as seen x h;cases as with|nil=>(cases g<;>cases h)|cons a as=>cases g with|nil=>(cases as with|nil=>(simp[AE.uI,AE.args]at h;rw[fZ]at h;cases p with|v t=>rfl|r c t=>cases h)|cons=>cases h)|cons k g=>simp[AE.uI,AE.args]at h;rw[fZ]at h;cases p with|r c t=>(cases h)|v t=>cases h1:nM fz U.look (.v t) a with|none=>simp_all|some y=>rw[h1]at h;simp at h;rw[a8H]at h;cases h2:U.uI fz (bif fz then seen else a.sP++seen) (k::g) as with|none=>simp_all|some z=>exact f as _ z h2
theorem a5y{U U2:AE}(fz:Bool)(g:List PA):∀(as:List AV)(seen:List Nat),(∀a∈as,∀n∈a.refs,U2.look n=U.look n)->U2.uI fz seen g as=U.uI fz seen g as:=by(have f:∀(p:PA)(a:AV),(∀n∈a.refs,U2.look n=U.look n)->nM fz U2.look p a=nM fz U.look p a:=λp a h=>by cases p with|v t=>simp only[nM];rw[fY h]|r c t=>rfl);induction g with|nil=>(intro as seen h;cases as<;>rfl)|cons p g k=>intro as seen h;cases as with|nil=>(cases g<;>rfl)|cons a as=>cases g with|nil=>(cases as with|nil=>simp_all[AE.uI,AE.args,fZ]|cons=>rfl)|cons b g=>simp[AE.uI,AE.args];grind[fZ,a8H]
theorem a1U{Z:Type}(U:AE):∀(ns:List Nat)(K:AE->Rs Z),U.tV ka [] ns K=bif ns.all λn=>A4 (n<pinned)&&(U.rt n).isNone then K U else none|[],K=>rfl|n::r,K=>by simp only[AE.tV,C4];rw[show(!([]:List Nat).contains n)=ka from by simp,Bool.and_true];cases A4 (n<pinned);rfl;simp;cases U.rt n with|none=>simp_all[a1U]|some x=>simp
def Hh:List Nat->List ((r:RA)×r.ty.sI)->List (Nat×sK)|k::ns,it::its=>(match Bq it with|some r=>(k,r)::Hh ns its|none=>Hh ns its)|_,_=>[]
theorem Sa:∀(ns:List Nat)(h:List ((r:RA)×r.ty.sI)) (n:Nat),find (Hh ns h) n=Dy ns h n|[],h,n=>by rfl|k::ns,[],n=>rfl|k::ns,g::h,n=>by simp[Hh,Dy];cases Bq g with|none=>simp_all[Sa]|some r=>simp[find];rw[Sa ns h n];grind
theorem Vy:∀(f:List RA)(n:Nat)(g:List ((r:RA)×r.ty.sI)),(∀(k:Nat) it,g[k]?=kd it->k<f.length->f[k]?=kd it.1)->f.length<=g.length->(Hh (BO f n++[]) g).map (·.1)=DR f n|[],n,g,h,d=>by rfl|r::f,n,[],h,d=>by simp_all|r::f,n,it::g,h,d=>by have c:=h 0 it rfl (by simp);simp at c;have m:=Vy f (n+1000) g (λk a l i=>by simpa using h (k+1) a (by simp_all) (by simp_all)) (by simp_all);have⟨j,x⟩:=it;obtain rfl:r=j:=c;simp only[BO,List.cons_append,Hh];cases r with|v t=>simp_all[Bq,DR]|o e=>simp_all[Bq,DR]|b t=>simp_all[Bq,DR]
theorem b1P{h:List Nat}:AV.sN [] h=id:=by funext a;cases a<;>simp[AV.sN]
theorem b1Q{n:Nat}:∀{it:(r:RA)×r.ty.sI},(b1n n it).tO=ka->Bq it=none|⟨.v t,x⟩,_=>rfl|⟨.o e,x⟩,h=>(by cases h)|⟨.b t,x⟩,h=>by cases h
theorem nN:∀(ns:List Nat)(g:List ((r:RA)×r.ty.sI)),(Kz ns g).all AV.tO=ka->ns.length=g.length->Hh ns g=[]|[],g,_,_=>by rfl|k::ns,[],_,h=>by rfl|k::ns,a::g,h,f=>by simp only[Kz,C4,HC]at h;simp only[Hh];rw[b1Q h.1];exact nN ns g h.2 (by simpa using f)
theorem Pd:∀(ns:List Nat)(g:List ((r:RA)×r.ty.sI)) (n:Nat),Dy ns g n≠ke->n∈ns|[],_,n,h=>absurd rfl h|_::_,[],n,h=>absurd rfl h|k::ns,f::g,n,h=>by simp only[Dy]at h;cases hr:Bq f with|none=>rw[hr]at h;exact A9 _ (Pd ns g n h)|some r=>rw[hr]at h;simp only[]at h;by_cases e:n=k;subst e;exact C2;(have:(n==k)=kc:=by simpa using e);rw[this]at h;exact A9 _ (Pd ns g n h)
theorem b4j{c:Call}{f:FuncId}(D:o.op=.call c)(hb:c.callee=.value (.func f))(L:o.dst=kd d):Ds cx o d U:=by
  cases hs:cx.C f with
  |none=>simp_all[Ds.none,Bg]
  |some s=>
    let w:=s.rs.any RA.sO || (Ko s.ps).any RA.sO
    let u:=DR s.rs (d+1000)
    have M:∀a∈c.args.toList.map U.sJ,∀n∈a.refs,∀h,Et (AC o) U h->h.look n=U.look n:=λa z n B h b=>by
      obtain⟨x,q,rfl⟩:=C1.1 z;exact b.look (PT D x q) B
    have m:∀h,Et (AC o) U h->∀{Z:Type}(K:AE->Rs Z),Bg cx ka o h K=(match U.pd with
        |some _=>ke
        |none=>(U.uI w [] s.ps (c.args.toList.map U.sJ)).elim ke λx=>bif u.all (λn=>A4 (n<pinned)&&(h.rt n).isNone)then(s.F x).bind λy=>
            (let H:AE:=⟨λi=>(h.sl i).sG (AV.sN [] (h.vT (XA s.ps []))),λn=>match Dy (BO s.rs (d+1000)++[]) (Fg (RA.all s.ps s.rs) y) n with
              |some r=>kd r
              |none=>h.rt n,ke⟩
             match Kz (BO s.rs (d+1000)) (Fg (RA.all s.ps s.rs) y)with
              | [v]=>K (H.set d v)
              |vs=>K (H.put d (.cmp .tup vs)))else ke):=λh b Z K=>by
      simp only[Bg,D,L,hb,hs,b0s b D];unfold AE.call;rw[b.1];cases U.pd with
      |some p=>rfl
      |none=>
        simp only[];rw[a8H,a5y _ _ _ _ λa z n B=>M a z n B h b];cases U.uI (s.rs.any RA.sO || (Ko s.ps).any RA.sO) [] s.ps (c.args.toList.map U.sJ)with
        |none=>rfl
        |some x=>
          grind[a1U]
    cases hpd:U.pd with
    |some p=>simp_all[Ds.none]
    |none=>
      rw[hpd]at m;cases q:U.uI w [] s.ps (c.args.toList.map U.sJ)with
      |none=>simp_all[Ds.none]
      |some x=>
        cases hy:s.F x with
        |none=>
          simp_all[Ds.none]
        |some y=>
          let g:=Fg (RA.all s.ps s.rs) y
          let j:=BO s.rs (d+1000)
          let O:SV:=match Kz j g with
            | [v]=>.one v
            |vs=>.cmp .tup vs

          have E:=a8I w s.ps _ _ x q;have l:RA.all s.ps s.rs=s.rs:=by rw[RA.all,E];simp
          have I:g.length=s.rs.length:=by rw[show g=Fg (RA.all s.ps s.rs) y from rfl,Ml,l]
          have N:(Hh (j++[]) g).map (·.1)=u:=Vy s.rs (d+1000) g (λk R P _=>by
            grind[Sy]) (by omega)
          have A:∀n,find (Hh (j++[]) g) n=Dy (j++[]) g n:=Sa _ _;refine⟨kd ⟨Hh (j++[]) g,O⟩,λδ e=>?_,λh b Z K=>?_⟩;grind[Pd,IG,SV.tO,nN,OI]
          · rw[m h b,q]
            simp only[D0,hy,oB,a5u];rw[show((Hh (j++[]) g).all λp=>A4 (p.1<pinned)&&(h.rt p.1).isNone)=u.all λn=>A4 (n<pinned)&&(h.rt n).isNone from by grind[List.all_map]];cases (u.all λn=>A4 (n<pinned)&&(h.rt n).isNone)with
            |false=>rfl
            |true=>
              simp only[cT];have Q:∀G:SV,(⟨λi=>(h.sl i).sG (AV.sN [] (h.vT (XA s.ps []))),λn=>match Dy (BO s.rs (d+1000)++[]) (Fg (RA.all s.ps s.rs) y) n with
                  |some r=>kd r
                  |none=>h.rt n,ke⟩:AE).put d G=(Dl.mk (Hh (j++[]) g) G).app d h:=λG=>by
                simp only[AE.put,Dl.app];congr 1;funext i;rw[b1P]
                have:(h.sl i).sG id=h.sl i:=by cases h.sl i<;>simp[SV.sG]
                grind;grind;all_goals exact(b.1.trans hpd).symm
              grind[AE.set]
theorem lM(h:o.dst=kd d):Ds cx o d U:=by
 cases ho:o.op
 case move x=>exact b4c ho h
 case assign x=>exact a8A ho h
 case pick x y u=>exact b4d ho h
 case alloc t=>exact b1I ho h
 case box t x=>exact b7h ho h
 case build t x=>exact b1J ho h
 case buildSlice t n x=>grind[nJ]
 case load t x=>exact b4e ho h
 case nilCheck x=>exact a3x ho h
 case binOp op t x y s=>exact b1K ho h
 case unOp op t x=>exact b4h ho h
 case convert s t x=>exact a5v ho h
 case makeSlice t x y=>grind[a0A]
 case slice t x u v m=>exact b1L ho h
 case fieldAddr s x f=>grind[a0B]
 case field s x f=>exact b1M ho h
 case indexAddr t x i=>grind[a0C]
 case index t x i=>exact b1N ho h
 case extract x i=>exact a5w ho h
 case makeFunc fn first caps=>exact a3w ho h
 case store t x y=>simp_all[Ds.none,Bg]
 case call c=>
  cases hc:c.callee with
  |builtin b=>simp_all[a5x]
  |invoke r n=>simp_all[Ds.none,Bg]
  |value v=>
   cases v with
   |func f=>exact b4j ho hc h
   |tmp t=>simp_all[Ds.none,Bg]
   |_=>simp_all[Ds.none,Bg]
 all_goals exact Ds.none λg k Z K=>by simp only[Bg,ho,h]
theorem b4k(U:AE){g:Nat}{sv:SV}(h:U.sl g=sv):U.put g sv=U:=by have⟨a,k,f⟩:=U;simp only[AE.put];congr 1;grind
theorem Dd{ops:Array Oper}{t:Nat}(h:t∈AC o):t∈o.looksAt ops:=by simp only[Oper.looksAt,mA];exact .inl h
theorem gC{ops:Array Oper}{j g:Nat}{h:Bool}(f:o.guard=kd (j,h))(k:Uw ops.toList j=kd g):g∈o.looksAt ops:=by simp_all[Oper.looksAt,Uw]
def CT(ops:Array Oper)(o:Oper)(U:AE):Option Bool:=match o.guard with|none=>kd true|some (j,want)=>match Uw ops.toList j with|none=>none|some g=>match U.get g with|.val .bool (b:Bool)=>kd (b==want)|.skp=>kd false|_=>ke
theorem DA{Z:Type}{ops:Array Oper}{k:Md}(U:AE)(K:AE->Rs Z):Bi cx k ops.toList o U K=(match CT ops o U with
  |some ka=>FR cx k o U K
  |some kc=>K (U.tY o.dst .skp)
  |none=>ke):=by
 unfold Bi CT;cases hg:o.guard with
 |none=>rfl
 |some p=>
  have⟨j,a⟩:=p
  simp
  cases hj:Uw ops.toList j with
  |none=>rfl
  |some g=>
   simp
   have f:∀(v:AV),v≠.dead->U.get g=v->U.set g v=U:=λv b h=>b4k U (by
    grind[AE.get])
   grind
theorem DO{Z:Type}{ops:Array Oper}{h:Md}(g:o.dst=kd d)(U:AE)(K:AE->Rs Z):Bi cx h ops.toList o U K=(match CT ops o U with
  |some ka=>FR cx h o U K
  |some kc=>K (U.put d (.one .skp))
  |none=>ke):=by
 rw[DA,g];rfl
theorem CX{ops:Array Oper}{U U2:AE}(h:∀t∈o.looksAt ops,U2.sl t=U.sl t):CT ops o U2=CT ops o U:=by grind[CT,AE.get,gC]
theorem a3z{ops:Array Oper}{j g:Nat}{f:Bool}(k:o.guard=kd (j,f))(a:Uw ops.toList j=kd g)(h:CT ops o U≠ke):(U.sl g).tO=ka:=by unfold CT at h;rw[k]at h;simp only[a,AE.get]at h;cases hs:U.sl g with|cmp b c=>simp_all|one v=>rw[hs]at h;cases v<;>first|rfl|simp_all
def dQ(T:List Nat)(U U2:AE):Prop:=U2.pd=U.pd/\∀t∈T,U2.sl t=U.sl t/\∀n∈(U.sl t).refs,U2.rt n=U.rt n
theorem dQ.sub{ops:Array Oper}{U U2:AE}(h:dQ (o.looksAt ops) U U2):Et (AC o) U U2:=⟨h.1,λt g=>h.2 t (Dd g)⟩
theorem a1V{α:Type}{l:List (Nat×α)}{n:Nat}:find l n=ke↔∀p∈l,p.1≠n:=by induction l with|nil=>simp[find]|cons p l h=>have⟨k,x⟩:=p;simp only[find,mC,forall_eq_or_imp];grind
theorem WU{Z:Type}{r:Option Dl}{U2:AE}{K:AE->Rs Z}{z:Z}(h:a5u r d U2 K=kd z):∃δ,r=kd δ/\(∀n,find δ.rs n≠ke->U2.rt n=ke)/\K (δ.app d U2)=kd z/\(δ.rs.all λp=>A4 (p.1<pinned))=ka:=by cases r with|none=>(cases h)|some δ=>(simp[a5u]at h;have⟨g,h⟩:=(Ah h).elim id λh=>by grind);refine⟨δ,rfl,λn k=>?_,h,?_⟩;by_cases e:∃p∈δ.rs,p.1=n;obtain⟨p,f,rfl⟩:=e;have:=lA.1 g p f;simp_all;simp_all[a1V];grind
theorem lP{Z:Type}{δ:Dl}{U2:AE}{K:AE->Rs Z}(g:(δ.rs.all λp=>A4 (p.1<pinned))=ka)(f:∀n,find δ.rs n≠ke->U2.rt n=ke):a5u (kd δ) d U2 K=K (δ.app d U2):=by simp[a5u];rw[show(δ.rs.all λp=>A4 (p.1<pinned)&&(U2.rt p.1).isNone)=ka from lA.2 λp h=>by have a:=lA.1 g p h;have b:=f p.1 λe=>a1V.1 e p h rfl;simp_all];rfl
theorem dS{v:AV}(h:v.tO=ka):v.refs=[]:=by cases v<;>first|rfl|cases h
theorem LM{sv:SV}(h:sv.tO=ka):sv.refs=[]:=by cases sv with|one v=>exact dS h|cmp f k=>simp[SV.refs];exact λv g=>dS (lA.1 h v g)
theorem Yt{sv:SV}(h:sv.tO=ka):sv.alive=ka:=by(have one:∀v:AV,v.tO=ka->v.alive=ka:=λv h=>by cases v<;>first|rfl|cases h);cases sv with|one v=>exact one v h|cmp f k=>exact lA.2 λv g=>one v (lA.1 h v g)
def BN(ops:Array Oper)(o:Oper):List Nat:=match o.guard with|none=>[]|some (j,_)=>(Uw ops.toList j).toList
theorem BT{ops:Array Oper}{t:Nat}(h:t∈BN ops o):t∈o.looksAt ops:=by grind[BN,gC]
theorem Bx{ops:Array Oper}{U U2:AE}(h:∀t∈BN ops o,U2.sl t=U.sl t):CT ops o U2=CT ops o U:=by grind[CT,BN,AE.get]
theorem Fu{ops:Array Oper}(h:CT ops o U≠ke):∀t∈BN ops o,(U.sl t).tO=ka:=by grind[BN,a3z]
theorem c2g{Z:Type}{ops:Array Oper}(a:o.dst=kd d){K:AE->Rs Z}{z:Z}(f:Bi cx .q ops.toList o U K=kd z):∃(δ:Dl)(L:List Nat),(∀t∈L,t∈o.looksAt ops/\∀n∈(U.sl t).refs,U.rt n≠ke)/\K (δ.app d U)=kd z/\(∀n,find δ.rs n≠ke->U.rt n=ke)/\∀U2,dQ L U U2->(∀n,find δ.rs n≠ke->U2.rt n=ke)->∀{Z2:Type}(i:AE->Rs Z2),Bi cx .q ops.toList o U2 i=i (δ.app d U2):=by rw[DO a]at f;cases hl:CT ops o U with|none=>simp_all|some b=>have v:=Fu (ops:=ops) (U:=U) (o:=o) (by simp_all);have j:∀t∈BN ops o,t∈o.looksAt ops/\∀n∈(U.sl t).refs,U.rt n≠ke:=λt g=>⟨BT g,λn k=>by simp_all[LM]⟩;rw[hl]at f;cases b with|false=>refine⟨⟨[],.one .skp⟩,BN ops o,j,f,λn k=>absurd rfl k,λU2 c _ Z2 i=>?_⟩;rw[DO a,Bx λt g=>(c.2 t g).1,hl];rfl|true=>(simp only[FR,a]at f;have⟨C,f⟩:=(Ah f).elim id λh=>by grind);(have l:∀t∈AC o,∀n∈(U.sl t).refs,U.rt n≠ke:=λt g n k=>by have⟨x,m,A⟩:=C3.1 g;grind);have⟨r,y,w⟩:=lM (cx:=cx) (U:=U) a;rw[w U Et.refl]at f;obtain⟨δ,rfl,p,u,B⟩:=WU f;refine⟨δ,AC o++BN ops o,λt g=>?_,u,p,λU2 c k Z2 i=>?_⟩;grind[Dd];rw[DO a,Bx λt g=>(c.2 t (A6 _ g)).1,hl];simp only[FR,a];have e:Et (AC o) U U2:=⟨c.1,λt g=>c.2 t (A7 _ g)⟩;refine(cG (λb=>bif b then _ else ke) (lA.2 λx m=>?_)).trans ?_;(cases x with|tmp t=>(simp only[];have g:=Dc m;refine lA.2 λn k=>?_);rw[(e.2 t g).1]at k;rw[(e.2 t g).2 n k];grind|_=>rfl);simp;grind[lP]
theorem a3A{v:AV}(h:v.tO=ka):v.calm=ka:=by cases v with|ptr n p=>(cases h)|_=>exact h
theorem PU{sv:SV}(h:sv.tO=ka):sv.calm=ka:=by cases sv with|one v=>exact a3A h|cmp c g=>exact h
theorem Vz{U U2:AE}(h:∀t∈AC o,U2.sl t=U.sl t):XB o U2=XB o U:=by grind[XB,a4X,AC,Op.operands]
theorem b4l{Z:Type}{ops:Array Oper}(e:o.dst=kd d){K:AE->Rs Z}{z:Z}(f:Bi cx .v ops.toList o U K=kd z):
  ∃(sv:SV)(L:List Nat),sv.calm=ka/\(∀t∈L,t∈o.looksAt ops/\(U.sl t).calm=ka)/\K (U.put d sv)=kd z/\
   ∀U2,U2.pd=U.pd->(∀t∈L,U2.sl t=U.sl t)->∀{Z2:Type}(a:AE->Rs Z2),Bi cx .v ops.toList o U2 a=a (U2.put d sv):=by
 rw[DO e]at f;cases hl:CT ops o U with
 |none=>simp_all
 |some b=>
  have w:=Fu (ops:=ops) (U:=U) (o:=o) (by simp_all);rw[hl]at f;cases b with
  |false=>
   refine⟨.one .skp,BN ops o,rfl,λt g=>⟨BT g,PU (w t g)⟩,f,λU2 _ l Z2 a=>?_⟩;grind[DO,Bx]
  |true=>
   simp only[FR,e]at f;cases hp:XB o U with
   |some n=>
    rw[hp]at f;obtain⟨t,N,O,y⟩:=Ys hp;have E:t∈AC o:=by
     grind[AC,Op.operands]
    have q:(U.sl t).calm=ka:=by simp_all[SV.calm,AV.calm]
    refine⟨.one (.ptr n []),[t]++BN ops o,by simp_all,λH g=>?_,f,λU2 i l Z2 a=>?_⟩;rcases mA.1 g with g|g;obtain rfl:H=t:=by simp_all
    simp_all[Dd];simp_all[BT,PU];grind[DO,Bx,FR,Vz,AC,Op.operands]
   |none=>
   rw[hp]at f;simp only[]at f;obtain⟨M,f⟩:=(Ah f).elim id λh=>by grind
   have u:∀t∈AC o,(U.sl t).tO=ka:=λt g=>by
    obtain⟨x,F,G⟩:=C3.1 g;grind
   obtain⟨r,A,B⟩:=lM (cx:=cx) (U:=U) e;rw[B U Et.refl]at f;obtain⟨δ,rfl,I,m,C⟩:=WU f;obtain⟨D,m⟩:=(Ah m).elim id λh=>by grind
   have k:δ.sv.tO=ka:=by simpa[Dl.app]using D
   have j:=(A δ rfl).1 k;obtain⟨P,sv⟩:=δ;simp only at j k;subst j;refine⟨sv,AC o++BN ops o,PU k,λt g=>?_,m,λU2 i l Z2 a=>?_⟩;grind[Dd,PU,BT];rw[DO e,Bx λt g=>l t (A6 _ g),hl];simp only[FR,e];have c:∀t∈AC o,U2.sl t=U.sl t:=λt g=>l t (A7 _ g);have p:Et (AC o) U U2:=⟨i,λt g=>⟨c t g,λn y=>by simp_all[LM]⟩⟩;rw[Vz c,hp];simp only[];refine(cG (λb=>bif b then _ else ke) (lA.2 λx F=>?_)).trans ?_
   grind[Dc]
   simp
   rw[B U2 p,lP C (λn y=>absurd rfl y)];show(bif (((Dl.mk [] sv).app d U2).sl d).tO then a ((Dl.mk [] sv).app d U2)else ke)=_;rw[show((Dl.mk [] sv).app d U2).sl d=sv from by simp[Dl.app],k];rfl
theorem b9h{Z:Type}{ops:Array Oper}(c:o.dst=kd d){K:AE->Rs Z}{z:Z}(g:Bi cx .p ops.toList o U K=kd z):∃(sv:SV)(L:List Nat),sv.calm=ka/\(∀t∈L,t∈o.looksAt ops/\(U.sl t).calm=ka)/\K (U.put d sv)=kd z/\∀U2,(∀t∈L,U2.sl t=U.sl t)->∀{Z2:Type}(f:AE->Rs Z2),Bi cx .p ops.toList o U2 f=f (U2.put d sv):=by rw[DO c]at g;cases hl:CT ops o U with|none=>simp_all|some b=>have a:=Fu (ops:=ops) (U:=U) (o:=o) (by simp_all);rw[hl]at g;cases b with|false=>refine⟨.one .skp,BN ops o,rfl,λt h=>⟨BT h,PU (a t h)⟩,g,λU2 e Z2 f=>?_⟩;grind[DO,Bx]|true=>simp[FR,c]at g;cases hp:XB o U with|none=>simp_all|some n=>(rw[hp]at g;have⟨t,m,q,l⟩:=Ys hp;have i:t∈AC o:=by grind[AC,Op.operands]);(have k:(U.sl t).calm=ka:=by simp_all[SV.calm,AV.calm]);(refine⟨.one (.ptr n []),[t]++BN ops o,by simp_all,λj h=>?_,g,λU2 e Z2 f=>?_⟩;rcases mA.1 h with h|h;obtain rfl:j=t:=by simp_all);simp_all[Dd];simp_all[BT,PU];grind[DO,Bx,FR,Vz,AC,Op.operands]
theorem a8J{x:Operand}(h:∀t,x=.tmp t->(U.sl t).tO=ka):(U.sJ x).refs=[]:=by cases x with|tmp t=>(have:=h t rfl;simp[AE.sJ,AE.get];cases hs:U.sl t with|one v=>rw[hs]at this;exact dS this|cmp c g=>rfl)|const v=>simp[AE.sJ,WL];split<;>rfl|_=>rfl
theorem a1W{v:AV}(h:v.refs=[]):(cx.tX v).refs=[]:=by cases v with|tX g=>(simp[Cx.tX];cases cx.G g<;>rfl)|_=>exact h
theorem b7i{Z:Type}{a:AV}(h:a.refs=[]){q:Bool}{ty:Ty}(x:Option (Nat×BB×Nat))(K:AV->AE->Rs Z):AE.wQ { U with pd:=x } q ty a K=U.wQ q ty a λv g=>K v { g with pd:=x }:=by cases a with|ptr n p=>(cases h)|_=>rfl
theorem b4m{Z:Type}{a:AV}(h:a.refs=[]){ty:Option Ty}{i:Int}(x:Option (Nat×BB×Nat))(K:AV->Rs Z):AE.uB { U with pd:=x } ty a i K=U.uB ty a i K:=by cases a with|ptr n p=>rfl|sref n p=>rfl|swin n p o l=>(cases h)|val t y=>(cases t with|list o e=>(cases o<;>rfl)|_=>rfl)|vptr t y=>(cases t<;>rfl)|_=>rfl
theorem b7j{Z:Type}(hp:a8c o=ka)(h:o.dst=kd d)(g:∀x∈o.op.operands.toList,(U.sJ x).refs=[])(x:Option (Nat×BB×Nat))(K:AE->Rs Z):Bg cx ka o { U with pd:=x } K=Bg cx ka o U λk=>K { k with pd:=x }:=by cases ho:o.op with|move y=>simp[Bg,ho,h];rfl|binOp e j y z s=>simp only[Bg,ho,h];rfl|unOp e t y=>simp[Bg,ho,h];rfl|pick c a b=>simp[Bg,ho,h];rfl|load t a=>(simp only[Bg,ho,h];cases cx.T t with|none=>rfl|some t=>exact b7i (a1W (g a (by simp[ho,Op.operands]))) x _)|fieldAddr s y f=>simp[Bg,ho,h];rfl|indexAddr t y i=>simp[Bg,ho,h];show(match U.sJ i with|.val (.int _) (i:Int)=>AE.uB { U with pd:=x } (cx.T t) (cx.tX (U.sJ y)) i _|_=>ke)=_;simp only[b4m (a1W (g y (by simp[ho,Op.operands])))];rfl|index s y i=>simp[Bg,ho,h];rfl|_=>simp[a8c,ho]at hp
theorem a5z{Z:Type}{ops:Array Oper}(c:o.dst=kd d){K:AE->Rs Z}{z:Z}(k:Bi cx .u ops.toList o U K=kd z):∃(sv:SV)(L:List Nat),sv.calm=ka/\(∀t∈L,t∈o.looksAt ops/\(U.sl t).calm=ka)/\K (U.put d sv)=kd z/\∀U2,(∀t∈L,U2.sl t=U.sl t)->∀{Z2:Type}(i:AE->Rs Z2),Bi cx .u ops.toList o U2 i=i (U2.put d sv):=by rw[DO c]at k;cases hl:CT ops o U with|none=>simp_all|some b=>have w:=Fu (ops:=ops) (U:=U) (o:=o) (by simp_all);rw[hl]at k;cases b with|false=>refine⟨.one .skp,BN ops o,rfl,λt g=>⟨BT g,PU (w t g)⟩,k,λU2 q Z2 i=>?_⟩;grind[DO,Bx]|true=>(simp only[FR,c]at k;have⟨B,k⟩:=(Ah k).elim id λh=>by grind);(have⟨D,B⟩:=B3.1 B;have a:∀t∈AC o,(U.sl t).tO=ka:=λt g=>by have⟨x,m,H⟩:=C3.1 g;grind);(have⟨r,y,E⟩:=lM (cx:=cx) (U:=U) c;rw[E U Et.refl]at k;obtain⟨δ,rfl,I,p,F⟩:=WU k;have⟨G,p⟩:=(Ah p).elim id λh=>by grind);(have f:δ.sv.tO=ka:=by simpa[Dl.app]using G);(have l:=(y δ rfl).1 f;have⟨M,sv⟩:=δ;simp only at l f;subst l;refine⟨sv,AC o++BN ops o,PU f,λt g=>?_,p,λU2 q Z2 i=>?_⟩;grind[Dd,PU,BT];rw[DO c,Bx λt g=>q t (A6 _ g),hl];simp only[FR,c];have j:∀t∈AC o,U2.sl t=U.sl t:=λt g=>q t (A7 _ g);have v:Et (AC o) U { U2 with pd:=U.pd }:=⟨rfl,λt g=>⟨j t g,λn C=>by simp_all[LM]⟩⟩;refine(cG (λb=>bif b then _ else ke) (B3.2 ⟨D,lA.2 λx m=>?_⟩)).trans ?_);grind[Dc];simp;(have A:∀x∈o.op.operands.toList,(AE.sJ { U2 with pd:=U.pd } x).refs=[]:=λx m=>a8J λt e=>by subst e;exact(cG SV.tO (j t (Dc m))).trans (a t (Dc m)));refine(b7j (U:={ U2 with pd:=U.pd }) D c A U2.pd _).trans ?_;rw[E _ v,lP F (λn C=>absurd rfl C)];show(bif (((Dl.mk [] sv).app d U2).sl d).tO then i ((Dl.mk [] sv).app d U2)else ke)=_;rw[show((Dl.mk [] sv).app d U2).sl d=sv from by simp[Dl.app],f];rfl
theorem KC{a b:List Nat}(h:mI a b=ka){n:Nat}(g:n∈a):n∈b:=by have:=lA.1 h n g;simp_all
theorem b4n{Z:Type}{ops:Array Oper}{ns:List Nat}(e:o.dst=kd d){K:AE->Rs Z}{z:Z}(a:Bi cx (.r ns) ops.toList o U K=kd z):∃(δ:Dl)(L:List Nat),(∀t∈L,t∈o.looksAt ops/\(U.sl t).alive=ka/\∀n∈(U.sl t).refs,U.rt n≠ke/\n∈ns)/\K (δ.app d U)=kd z/\(∀n,find δ.rs n≠ke->U.rt n=ke/\n∈ns)/\(∀n∈δ.sv.refs,n∈ns)/\∀U2,dQ L U U2->(∀n,find δ.rs n≠ke->U2.rt n=ke)->∀{Z2:Type}(l:AE->Rs Z2),Bi cx (.r ns) ops.toList o U2 l=l (δ.app d U2):=by rw[DO e]at a;cases hl:CT ops o U with|none=>simp_all|some b=>have p:=Fu (ops:=ops) (U:=U) (o:=o) (by simp_all);have q:∀t∈BN ops o,t∈o.looksAt ops/\(U.sl t).alive=ka/\∀n∈(U.sl t).refs,U.rt n≠ke/\n∈ns:=λt f=>⟨BT f,Yt (p t f),λn g=>by simp_all[LM]⟩;rw[hl]at a;cases b with|false=>refine⟨⟨[],.one .skp⟩,BN ops o,q,a,λn g=>absurd rfl g,λn g=>(by cases g),λU2 i _ Z2 l=>?_⟩;rw[DO e,Bx λt f=>(i.2 t f).1,hl];rfl|true=>(simp only[FR,e]at a;have⟨y,a⟩:=(Ah a).elim id λh=>by grind);(have⟨y,j⟩:=B3.1 y;have v:∀t∈AC o,(U.sl t).alive=ka/\∀n∈(U.sl t).refs,U.rt n≠ke/\n∈ns:=λt f=>by have⟨x,B,F⟩:=C3.1 f;grind);(have⟨r,u,A⟩:=lM (cx:=cx) (U:=U) e;rw[A U Et.refl]at a;obtain⟨δ,rfl,C,m,D⟩:=WU a;have⟨k,m⟩:=(Ah m).elim id λh=>by grind);(have w:(δ.app d U).sl d=δ.sv:=by simp[Dl.app]);rw[w]at k;refine⟨δ,AC o++BN ops o,λt f=>?_,m,λn g=>⟨C n g,?_⟩,λn g=>KC k g,λU2 i g Z2 l=>?_⟩;grind[Dd];have:=(u δ rfl).2 n g;refine KC j ?_;simp_all;rw[DO e,Bx λt f=>(i.2 t (A6 _ f)).1,hl];simp only[FR,e];have c:Et (AC o) U U2:=⟨i.1,λt f=>i.2 t (A7 _ f)⟩;refine(cG (λb=>bif b then _ else ke) (B3.2 ⟨lA.2 λx B=>?_,j⟩)).trans ?_;(cases x with|tmp t=>simp only[];have f:=Dc B;have E:=(c.2 t f).1;refine B3.2 ⟨by simp_all,lA.2 λn g=>?_⟩;rw[E]at g;rw[(c.2 t f).2 n g];grind|_=>rfl);simp;rw[A U2 c,lP D g];grind[Dl.app]
def nO(o:Option sK):Option Ty:=o.map (·.t)
theorem b4o{a b:Option sK}(h:nO a=nO b):a.isSome=b.isSome:=by cases a<;>cases b<;>first|rfl|cases h
def a0D(o:Option sK):Option (Ty×(BB->Option AV)):=o.map λr=>(r.t,r.xW)
theorem a3B{a b:Option sK}(h:a0D a=a0D b):nO a=nO b:=by have:=cG (Option.map Prod.fst) h;cases a<;>cases b<;>first|rfl|cases this|exact this
theorem VA{U2:AE}{x:Operand}(h:∀t,x=.tmp t->U2.sl t=U.sl t/\∀n∈(U.sl t).refs,nO (U2.rt n)=nO (U.rt n)):U2.vE x=U.vE x:=by cases x with|tmp t=>(have⟨g,f⟩:=h t rfl;grind[AE.vE,SV.refs,AV.refs,nO])|_=>rfl
theorem a8K{U2:AE}(h:∀t∈AC o,U2.sl t=U.sl t/\∀n∈(U.sl t).refs,nO (U2.rt n)=nO (U.rt n)):U2.stay cx o=U.stay cx o:=by unfold AE.stay;split;(rename_i t k;have⟨a,g⟩:=h t (by simp_all[AC,Op.operands]);rw[a];generalize U.sl t=sv at g;cases sv with|one v=>simp;(have:(v.refs.all λn=>(U2.rt n).isSome)=v.refs.all λn=>(U.rt n).isSome:=by have d:∀n∈v.refs,nO (U2.rt n)=nO (U.rt n):=g;grind[b4o]);grind|cmp c e=>rfl);rename_i s x f k;rw[VA (U:=U) (x:=x) λt b=>h t (by simp_all[AC,Op.operands])];rename_i s x k;rw[VA (U:=U) (x:=x) λt b=>h t (by simp_all[AC,Op.operands])];rfl
theorem a8L{v:AV}(g:U.stay cx o=kd v)(hv:v.still=ka):∀t∈AC o,(U.sl t).still=ka/\∀n∈(U.sl t).refs,U.rt n≠ke:=by
 have c:∀(t:Nat)(n:Nat)(p:BB)(r:sK),U.sl t=.one (.ptr n p)->U.rt n=kd r->p.all Step.sV=ka->(U.sl t).still=ka/\∀n∈(U.sl t).refs,U.rt n≠ke:=λt n p r a d i=>by rw[a];refine⟨i,λm z=>?_⟩;simp_all[SV.refs,AV.refs]
 unfold AE.stay at g;split at g;rename_i t q;split at g;rename_i u y;have⟨j,g⟩:=(Ah g).elim id λh=>by grind
 cases g;obtain⟨-,j⟩:=B3.1 j;intro k b;obtain rfl:k=t:=by simp_all[AC,Op.operands]
 rw[y];exact⟨hv,λn w=>Option.isSome_iff_ne_none.1 (lA.1 j n w)⟩;simp_all;rename_i s x f q;split at g;rename_i n p τ l;obtain⟨t,r,rfl,a,d,i⟩:=Ft l;split at g;cases g;intro k b;obtain rfl:k=t:=by simp_all[AC,Op.operands]
 exact c k n p r a d (by simp_all[AV.still]);simp_all;simp_all;rename_i s x q;split at g;rename_i n p e l;obtain⟨t,r,rfl,a,d,i⟩:=Ft l;split at g;obtain⟨-,g⟩:=(Ah g).elim id λh=>by grind
 cases g;intro k b;obtain rfl:k=t:=by simp_all[AC,Op.operands]
 exact c k n p r a d hv;simp_all;simp_all;simp_all
theorem a8M{sv:SV}(h:sv.tO=ka):sv.still=ka:=by cases sv with|one v=>(cases v<;>first|rfl|cases h)|cmp c g=>exact h
theorem b4p{Z:Type}{ops:Array Oper}(a:o.dst=kd d){K:AE->Rs Z}{z:Z}(g:Bi cx .s ops.toList o U K=kd z):∃(sv:SV)(L:List Nat),sv.still=ka/\(∀t∈L,t∈o.looksAt ops/\(U.sl t).still=ka/\∀n∈(U.sl t).refs,U.rt n≠ke)/\K (U.put d sv)=kd z/\∀U2,(∀t∈L,U2.sl t=U.sl t/\∀n∈(U.sl t).refs,nO (U2.rt n)=nO (U.rt n))->(U.uQ=ka->U2.uQ=ka)->∀{Z2:Type}(k:AE->Rs Z2),Bi cx .s ops.toList o U2 k=k (U2.put d sv):=by rw[DO a]at g;cases hl:CT ops o U with|none=>simp_all|some b=>have e:=Fu (ops:=ops) (U:=U) (o:=o) (by simp_all);have i:∀t∈BN ops o,t∈o.looksAt ops/\(U.sl t).still=ka/\∀n∈(U.sl t).refs,U.rt n≠ke:=λt f=>⟨BT f,a8M (e t f),λn q=>by simp_all[LM]⟩;rw[hl]at g;cases b with|false=>refine⟨.one .skp,BN ops o,rfl,i,g,λU2 c _ Z2 k=>?_⟩;grind[DO,Bx]|true=>simp[FR,a]at g;cases hs:U.stay cx o with|none=>simp_all|some v=>(rw[hs]at g;have⟨l,g⟩:=(Ah g).elim id λh=>by grind);have⟨j,m⟩:=B3.1 l;have p:=a8L hs j;refine⟨.one v,AC o++BN ops o,j,λt f=>?_,g,λU2 c r Z2 k=>?_⟩;grind[Dd];rw[DO a,Bx λt f=>(c t (A6 _ f)).1,hl];simp[FR,a];rw[a8K λt f=>c t (A7 _ f),hs];simp_all
theorem a8N{U2:AE}(h:∀t∈AC o,U2.sl t=U.sl t/\∀n∈(U.sl t).refs,a0D (U2.rt n)=a0D (U.rt n)):U2.wD cx o=U.wD cx o:=by(have b:∀x∈o.op.operands.toList,U2.vE x=U.vE x:=λx g=>VA λt i=>by grind[Dc,a3B]);unfold AE.wD;split;simp_all[Op.operands];(rename_i s x a;rw[b x (by simp[a,Op.operands])];cases g:U.vE x with|none=>rfl|some y=>have⟨n,p,τ⟩:=y;obtain⟨t,r,rfl,c,f,d⟩:=Ft g;have:=(h t (by simp_all[AC,Op.operands])).2 n (by simp_all[SV.refs,AV.refs]);cases τ with|int k=>(simp;rw[f]at this|-;cases e:U2.rt n with|none=>(rw[e]at this;cases this)|some j=>simp_all[a0D])|_=>rfl);rfl
theorem a8O{v:AV}(h:U.wD cx o=kd v):∀t∈AC o,∃n p r τ,U.sl t=.one (.ptr n p)/\U.rt n=kd r/\a4Y r.t p=kd τ:=by
 unfold AE.wD at h;split at h;rename_i s x f i;split at h;rename_i n p τ g;obtain⟨t,r,rfl,c,d,e⟩:=Ft g;intro b a;obtain rfl:b=t:=by simp_all[AC,Op.operands]
 grind;simp_all;rename_i s x i;split at h;rename_i n p k g;obtain⟨t,r,rfl,c,d,e⟩:=Ft g;intro b a;obtain rfl:b=t:=by simp_all[AC,Op.operands]
 grind;simp_all;simp_all
theorem gD:∀(f:Nat)(t:Ty),CZ t f=ka->∃τ,a4Y t (BA f)=kd τ|0,.pair a b,_=>⟨a,by simp[BA,a4Y]⟩|f+1,.pair a b,h=>gD f b h|0,.unit,h|0,.int _,h|0,.bool,h|0,.str,h|0,.list _ _,h|0,.arr _ _,h|0,.nl _,h=>(by cases h)|f+1,.unit,h|f+1,.int _,h|f+1,.bool,h|f+1,.str,h|f+1,.list _ _,h|f+1,.arr _ _,h|f+1,.nl _,h=>by cases h
theorem Yu:∀(p:BB)(t:Ty){τ}(q:BB),a4Y t p=kd τ->a4Y t (p++q)=a4Y τ q|[],t,τ,q,h=>by simp_all[a4Y]|.fst::p,.pair a b,τ,q,h=>Yu p a q h|.snd::p,.pair a b,τ,q,h=>Yu p b q h|.idx i::p,t,τ,q,h=>(by cases t<;>cases h)|.fst::p,.unit,_,_,h|.fst::p,.int _,_,_,h|.fst::p,.bool,_,_,h|.fst::p,.str,_,_,h|.fst::p,.list _ _,_,_,h|.fst::p,.arr _ _,_,_,h|.fst::p,.nl _,_,_,h=>(by cases h)|.snd::p,.unit,_,_,h|.snd::p,.int _,_,_,h|.snd::p,.bool,_,_,h|.snd::p,.str,_,_,h|.snd::p,.list _ _,_,_,h|.snd::p,.arr _ _,_,_,h|.snd::p,.nl _,_,_,h=>by cases h
def a3C(rt:Nat->Option sK)(sv:SV):Prop:=sv.tO=ka\/∃n p r τ,sv=.one (.ptr n p)/\rt n=kd r/\a4Y r.t p=kd τ
theorem b1R{v:AV}(h:U.wD cx o=kd v):a3C U.rt (.one v):=by unfold AE.wD at h;split at h;rename_i s x f e;split at h;rename_i n p τ a;obtain⟨t,r,rfl,b,g,c⟩:=Ft a;split at h;rename_i d;cases h;have⟨τ',i⟩:=gD f τ d.1;exact .inr ⟨n,_,r,τ',rfl,g,by simp_all[Yu]⟩;simp_all;simp_all;rename_i s x e;split at h;rename_i n p k a;obtain⟨t,r,rfl,b,g,c⟩:=Ft a;split at h;rw[g]at h;obtain⟨j,m,rfl,-⟩:=a1S h;exact .inl rfl;simp_all;simp_all;simp_all
theorem b4q{Z:Type}{ops:Array Oper}(a:o.dst=kd d){K:AE->Rs Z}{z:Z}(g:Bi cx .t ops.toList o U K=kd z):∃(sv:SV)(L:List Nat),a3C U.rt sv/\(∀t∈L,t∈o.looksAt ops/\a3C U.rt (U.sl t))/\K (U.put d sv)=kd z/\∀U2,(∀t∈L,U2.sl t=U.sl t/\∀n∈(U.sl t).refs,a0D (U2.rt n)=a0D (U.rt n))->∀{Z2:Type}(k:AE->Rs Z2),Bi cx .t ops.toList o U2 k=k (U2.put d sv):=by rw[DO a]at g;cases hl:CT ops o U with|none=>simp_all|some b=>have f:=Fu (ops:=ops) (U:=U) (o:=o) (by simp_all);rw[hl]at g;cases b with|false=>refine⟨.one .skp,BN ops o,.inl rfl,λt h=>⟨BT h,.inl (f t h)⟩,g,λU2 c Z2 k=>?_⟩;grind[DO,Bx]|true=>simp[FR,a]at g;cases hs:U.wD cx o with|none=>simp_all|some v=>rw[hs]at g;have e:=a8O hs;refine⟨.one v,AC o++BN ops o,b1R hs,λt h=>?_,g,λU2 c Z2 k=>?_⟩;rcases mA.1 h with h|h;exact⟨Dd h,.inr (e t h)⟩;exact⟨BT h,.inl (f t h)⟩;rw[DO a,Bx λt h=>(c t (A6 _ h)).1,hl];simp[FR,a];rw[a8N λt h=>c t (A7 _ h),hs]
theorem b7k{sv:SV}(h:a3C U.rt sv):∀n∈sv.refs,U.rt n≠ke:=λn f=>by(rcases h with h|⟨m,p,r,τ,rfl,g,-⟩;simp_all[LM];obtain rfl:n=m:=by simp_all[SV.refs,AV.refs]);simp_all
def Md.reads:Md->Nat->Prop|.q,_=>True|.s,_=>True|.t,_=>True|.r ns,n=>n∈ns|_,_=>False
def Md.quiet:Md->Prop|.v|.p|.q|.s|.u|.t|.r _=>True|_=>False
def Md.zJ:Md->Bool|.v|.p|.u=>true|_=>kc
def a8P(md:Md)(T:List Nat)(U U2:AE):Prop:=U2.pd=U.pd/\∀t∈T,U2.sl t=U.sl t/\∀n∈(U.sl t).refs,md.zJ=kc->U2.rt n=U.rt n
theorem a8Q{Z:Type}{ops:Array Oper}{E:Md}(j:E.quiet)(C:o.dst=kd d){K:AE->Rs Z}{z:Z}(D:Bi cx E ops.toList o U K=kd z):∃(δ:Dl)(L:List Nat),(∀t∈L,t∈o.looksAt ops/\∀n∈(U.sl t).refs,E.zJ=kc->E.reads n/\U.rt n≠ke)/\K (δ.app d U)=kd z/\(∀n,find δ.rs n≠ke->U.rt n=ke)/\∀U2,a8P E L U U2->(∀n,find δ.rs n≠ke->U2.rt n=ke)->∀{Z2:Type}(l:AE->Rs Z2),Bi cx E ops.toList o U2 l=l (δ.app d U2):=by cases E with|v=>(have⟨B,L,m,i,y,A⟩:=b4l C D;exact⟨⟨[],B⟩,L,λt h=>⟨(i t h).1,λn f e=>by cases e⟩,y,λn f=>absurd rfl f,λU2 k _ Z2 l=>A U2 k.1 (λt h=>(k.2 t h).1) l⟩)|q=>(have⟨δ,L,m,i⟩:=c2g C D;exact⟨δ,L,λt h=>⟨(m t h).1,λn f _=>⟨trivial,(m t h).2 n f⟩⟩,i.1,i.2.1,λU2 k=>i.2.2 U2 ⟨k.1,λt h=>⟨(k.2 t h).1,λn f=>(k.2 t h).2 n f rfl⟩⟩⟩)|r G=>(obtain⟨δ,L,m,i,y,-,A⟩:=b4n C D;exact⟨δ,L,λt h=>⟨(m t h).1,λn f _=>⟨((m t h).2.2 n f).2,((m t h).2.2 n f).1⟩⟩,i,λn f=>(y n f).1,λU2 k=>A U2 ⟨k.1,λt h=>⟨(k.2 t h).1,λn f=>(k.2 t h).2 n f rfl⟩⟩⟩)|p=>(have⟨B,L,m,i,y,A⟩:=b9h C D;exact⟨⟨[],B⟩,L,λt h=>⟨(i t h).1,λn f e=>by cases e⟩,y,λn f=>absurd rfl f,λU2 k _ Z2 l=>A U2 (λt h=>(k.2 t h).1) l⟩)|s=>(have⟨B,L,m,i,y,A⟩:=b4p C D;exact⟨⟨[],B⟩,L,λt h=>⟨(i t h).1,λn f _=>⟨trivial,(i t h).2.2 n f⟩⟩,y,λn f=>absurd rfl f,λU2 k _ Z2 l=>A U2 (λt h=>⟨(k.2 t h).1,λn f=>by rw[(k.2 t h).2 n f rfl]⟩) (λg=>by unfold AE.uQ at g|-;rw[k.1];omega) l⟩)|u=>(have⟨B,L,m,i,y,A⟩:=a5z C D;exact⟨⟨[],B⟩,L,λt h=>⟨(i t h).1,λn f e=>by cases e⟩,y,λn f=>absurd rfl f,λU2 k _ Z2 l=>A U2 (λt h=>(k.2 t h).1) l⟩)|t=>(have⟨B,L,m,i,y,A⟩:=b4q C D;exact⟨⟨[],B⟩,L,λt h=>⟨(i t h).1,λn f _=>⟨trivial,b7k (i t h).2 n f⟩⟩,y,λn f=>absurd rfl f,λU2 k _ Z2 l=>A U2 (λt h=>⟨(k.2 t h).1,λn f=>by rw[(k.2 t h).2 n f rfl]⟩) l⟩)|x=>(cases j)|c F=>(cases j)|e=>(cases j)|b F=>(cases j)|a F=>(cases j)|w F=>cases j
end
def b0t(y:(t:Ty)×t.sI):Option AV:=match y with|⟨.int k,v⟩=>kd (.val (.int k) v)|_=>ke
theorem b7l(r:sK)(q:BB):r.xW q=bif q.all Step.sV then b0t (CQ r.t r.x q)else ke:=rfl
theorem dU:∀(p:BB)(t:Ty)(x:t.sI){e:Ty}(l l':List e.sI),Dv p t x=⟨.list ka e,l⟩->∀q:BB,q.all Step.sV=ka->b0t (Dv q t (Gj p t x (.list ka e) l'))=b0t (Dv q t x)|[],t,x,e,l,l',h,q,g=>(by simp[Dv]at h;cases h;cases q with|nil=>rfl|cons s q=>cases s with|idx i=>simp_all[Step.sV]|_=>rfl)|.fst::p,t,x,e,l,l',h,q,g=>(by cases t with|pair a b=>(cases q with|nil=>rfl|cons s q=>cases s with|idx i=>simp[Step.sV]at g|fst=>exact dU p a x.1 l l' h q (by simpa[Step.sV]using g)|snd=>rfl)|_=>cases h)|.snd::p,t,x,e,l,l',h,q,g=>(by cases t with|pair a b=>(cases q with|nil=>rfl|cons s q=>cases s with|idx i=>simp[Step.sV]at g|snd=>exact dU p b x.2 l l' h q (by simpa[Step.sV]using g)|fst=>rfl)|_=>cases h)|.idx i::p,t,x,e,l,l',h,q,g=>by(have f:∀y:t.sI,(∀k,t≠.int k)->(∀a b,t≠.pair a b)->b0t (Dv q t y)=ke:=λy c d=>by cases q with|nil=>(cases t with|int k=>simp_all|_=>rfl)|cons s q=>cases s with|idx i=>simp_all[Step.sV]|fst=>(cases t with|pair a b=>simp_all|_=>rfl)|snd=>cases t with|pair a b=>simp_all|_=>rfl);cases t with|int k=>rfl|pair a b=>rfl|_=>exact(f _ (by simp) (by simp)).trans (f _ (by simp) (by simp)).symm
theorem b7m{r:sK}{p:BB}{e:Ty}{l:List e.sI}(h:CQ r.t r.x p=⟨.list ka e,l⟩)(l':List e.sI):a0D (kd ⟨r.bx,r.t,FK r.t r.x p (.list ka e) l'⟩)=a0D (kd r):=by simp only[a0D,E2];congr 2;grind[b7l,dU]
def FP(f:AV->AV):Prop:=(∀v:AV,v.calm=ka->f v=v)/\∀v:AV,(f v).calm=ka->f v=v
theorem FP.id:FP id:=⟨λ_ _=>rfl,λ_ _=>rfl⟩
def FW(W:List Nat)(f:AV->AV):Prop:=(∀v:AV,(∀n∈v.refs,n∉W)->f v=v)/\(∀v:AV,f v=v\/f v=.dead)/\∀n,pinned<=n->f (.ptr n [])=.ptr n []
theorem FW.id{W:List Nat}:FW W id:=⟨λ_ _=>rfl,λ_=>.inl rfl,λ_ _=>rfl⟩
theorem FW.comp{W:List Nat}{f g:AV->AV}(k:FW W f)(a:FW W g)(c:g .dead=.dead:=by rfl):FW W (λv=>g (f v)):=by refine⟨λv h=>?_,λv=>?_,λn b=>?_⟩;show g (f v)=v;rw[k.1 v h];exact a.1 v h;show g (f v)=v\/g (f v)=.dead;rcases k.2.1 v with h|h;rw[h];exact a.2.1 v;simp_all;show g (f _)=_;rw[k.2.2 n b];exact a.2.2 n b
theorem FW.dead{W:List Nat}{f:AV->AV}(h:FW W f):f .dead=.dead:=(h.2.1 .dead).elim _root_.id _root_.id
theorem FW.fp{W:List Nat}{f:AV->AV}(k:FW W f):FP f:=by refine⟨λv h=>?_,λv h=>?_⟩;(cases v with|ptr n p=>(cases p with|nil=>exact k.2.2 n (by simpa[AV.calm]using h)|cons=>simp_all[AV.calm,AV.tO])|sref=>(cases h)|swin=>(cases h)|_=>exact k.1 _ λn a=>(by cases a));rcases k.2.1 v with g|g;omega;rw[g]at h;cases h
theorem nb{W:List Nat}{m n:Nat}(g:n∈W)(h:∀k∈[m],k∉W):(m==n)=kc:=by grind
theorem FW.drop{W:List Nat}{n:Nat}(g:n∈W)(hp:n<pinned):FW W (AV.drop n):=by
 refine⟨λv h=>?_,λv=>?_,λm f=>?_⟩;cases v with|ptr m q=>simp only[AV.drop,nb g h,A8,if_false]|sref m q=>simp only[AV.drop,nb g h,A8,if_false]|swin m q o l=>simp only[AV.drop,nb g h,A8,if_false]|_=>rfl
 cases v with|ptr m q=>simp only[AV.drop];split<;>simp|sref m q=>simp only[AV.drop];split<;>simp|swin m q o l=>simp only[AV.drop];split<;>simp|_=>exact .inl rfl
 have:(m==n)=kc:=by simp only[beq_eq_false_iff_ne];omega
 simp[AV.drop,this]
theorem FW.kill{W:List Nat}{n:Nat}(g:n∈W)(p:BB):FW W (AV.kill n p):=by refine⟨λv h=>?_,λv=>?_,λm f=>by simp[AV.kill]⟩;(cases v with|ptr m q=>simp only[AV.kill,nb g h,D3,A8,if_false]|sref m q=>simp only[AV.kill,nb g h,D3,A8,if_false]|swin m q o l=>simp only[AV.kill,nb g h,D3,A8,if_false]|_=>rfl);cases v with|ptr m q=>simp only[AV.kill];split<;>simp|sref m q=>simp only[AV.kill];split<;>simp|swin m q o l=>simp only[AV.kill];split<;>simp|_=>exact .inl rfl
theorem FW.sN{W us f:List Nat}(b:∀n∈us,n∈W):FW W (AV.sN us f):=by(have g:∀m,(∀k∈[m],k∉W)->us.contains m=kc:=λm h=>by grind);refine⟨λv h=>?_,λv=>?_,λm a=>by simp[AV.sN]⟩;(cases v with|ptr m q=>simp only[AV.sN,g m h,A8,if_false]|sref m q=>simp only[AV.sN,g m h,A8,if_false]|swin m q o l=>simp only[AV.sN,g m h,A8,if_false]|_=>rfl);cases v with|ptr m q=>(simp only[AV.sN];split;cases q<;>simp;simp)|sref m q=>simp only[AV.sN];split;(cases q with|nil=>simp only[];split<;>simp|cons=>simp);simp|swin m q o l=>simp only[AV.sN];split<;>simp|_=>exact .inl rfl
theorem FP.sv{f:AV->AV}(g:FP f){sv:SV}(h:sv.calm=ka):sv.sG f=sv:=by cases sv with|one v=>simp only[SV.sG];rw[g.1 v h]|cmp a b=>simp only[SV.sG];congr 1;refine(B6 λv k=>g.1 v (a3A (lA.1 h v k))).trans (D5 _)
theorem FP.xH{f:AV->AV}(g:FP f){sv:SV}(h:(sv.sG f).calm=ka):sv.sG f=sv:=by cases sv with|one v=>(simp only[SV.sG]at h|-;rw[g.2 v h])|cmp a b=>simp only[SV.sG]at h|-;congr 1;refine(B6 λv k=>g.2 v (a3A (lA.1 h _ (F0 k)))).trans (D5 _)
theorem FW.sv{W:List Nat}{f:AV->AV}(g:FW W f){sv:SV}(h:∀n∈sv.refs,n∉W):sv.sG f=sv:=by cases sv with|one v=>simp only[SV.sG];rw[g.1 v h]|cmp b c=>simp only[SV.sG];congr 1;refine(B6 λv a=>g.1 v λn k=>h n (D9.2 ⟨v,a,k⟩)).trans (D5 _)
theorem FW.xH{W:List Nat}{f:AV->AV}(a:FW W f){sv:SV}(h:(sv.sG f).alive=ka):sv.sG f=sv:=by(have one:∀v:AV,(f v).alive=ka->f v=v:=λv k=>by rcases a.2.1 v with g|g;omega;rw[g]at k;cases k);cases sv with|one v=>(simp only[SV.sG]at h|-;rw[one v h])|cmp b c=>simp only[SV.sG]at h|-;congr 1;refine(B6 λv k=>one v (lA.1 h _ (F0 k))).trans (D5 _)
theorem FW.refs{W:List Nat}{f:AV->AV}(a:FW W f){sv:SV}{n:Nat}(h:n∈(sv.sG f).refs):n∈sv.refs:=by(have one:∀v:AV,n∈(f v).refs->n∈v.refs:=λv k=>by rcases a.2.1 v with g|g;simp_all;rw[g]at k;cases k);cases sv with|one v=>exact one v h|cmp b c=>simp only[SV.sG,SV.refs,D9]at h|-;grind
structure xE where
 f:AV->AV
 rt:Nat->Option sK
 sv:SV

 pd:Option (Nat×BB×Nat):=ke
def Nf(W:List Nat)(m:xE)(d:Option Nat)(U:AE):AE:=⟨λi=>bif d==kd i then m.sv else(U.sl i).sG m.f,λn=>bif W.contains n then m.rt n else U.rt n,U.pd⟩
def Eu(W:List Nat)(m:xE)(d:Option Nat)(U:AE):AE:={ Nf W m d U with pd:=match m.pd with|none=>U.pd|some x=>kd x }
theorem gE{W:List Nat}{m:xE}{d:Option Nat}{U:AE}(h:m.pd=ke):Eu W m d U=Nf W m d U:=by simp[Eu,h];rfl
theorem a1X(f g:AV->AV)(sv:SV):(sv.sG f).sG g=sv.sG λv=>g (f v):=by cases sv with|one v=>rfl|cmp h k=>simp_all[SV.sG]
theorem Mn(sv:SV):sv.sG id=sv:=by cases sv<;>simp[SV.sG]
section
variable {g:Bool} {cx:Cx} {o:Oper} {d:Nat} {U:AE} {W:List Nat}
def c2h{Z:Type}(K:AE->Rs Z):AE->Rs Z:=λU'=>match U'.pd with|none=>K U'|some _=>ke
def Dt(W T:List Nat)(U U2:AE):Prop:=U2.pd=U.pd/\(∀n∈W,U2.rt n=U.rt n)/\∀t∈T,U2.sl t=U.sl t
theorem Dt.refl{T:List Nat}:Dt W T U U:=⟨rfl,λ_ _=>rfl,λ_ _=>rfl⟩
theorem Dt.sJ{U2:AE}(h:Dt W (AC o) U U2){x:Operand}(g:x∈o.op.operands.toList):U2.sJ x=U.sJ x:=by cases x with|tmp t=>simp[AE.sJ,AE.get];rw[h.2.2 t (Dc g)]|_=>rfl
theorem Dt.tH{U2:AE}(h:Dt W (AC o) U U2){x:Operand}(g:x∈o.op.operands.toList):U2.tH x=U.tH x:=by cases x with|tmp t=>simp[AE.tH];rw[h.2.2 t (Dc g)]|_=>rfl
theorem Dt.look{T:List Nat}{U2:AE}(h:Dt W T U U2){n:Nat}(g:n∈W):U2.look n=U.look n:=by simp only[AE.look,h.1,h.2.1 n g]
def UA{Z:Type}(W:List Nat)(r:Option xE)(d:Option Nat)(U2:AE)(K:AE->Rs Z):Rs Z:=match r with|none=>none|some m=>K (Eu W m d U2)
def a4T{Z:Type}(g:Bool)(K:AE->Rs Z):AE->Rs Z:=bif g then c2h K else K
def FL(g:Bool)(cx:Cx)(o:Oper)(d:Option Nat)(U:AE)(W:List Nat):Prop:=∃r:Option xE,(∀m,r=kd m->FW W m.f/\(g=ka->m.pd=ke)/\∀n p d,m.pd=kd (n,p,d)->m.f=AV.kill n p/\(∃r e l,U.rt n=Option.some r/\CQ r.t r.x p=⟨Ty.list ka e,l⟩)/\∀k∈W,a0D (m.rt k)=a0D (U.rt k))/\∀U2,Dt W (AC o) U U2->∀{Z:Type}(K:AE->Rs Z),Bg cx kc o U2 (a4T g K)=UA W r d U2 K
theorem FL.none{d:Option Nat}(h:∀U2,Dt W (AC o) U U2->∀{Z:Type}(K:AE->Rs Z),Bg cx kc o U2 (a4T g K)=ke):FL g cx o d U W:=⟨.none,by simp,λU2 f Z K=>h U2 f K⟩
theorem FL.some{d:Option Nat}(f:AV->AV)(c:FW W f)(sv:SV)(S:List Nat)(b:∀n∈S,n∈W)(k:Nat->Option sK) (h:∀U2,Dt W (AC o) U U2->∀{Z:Type}(K:AE->Rs Z),Bg cx kc o U2 (a4T g K)=K ⟨λi=>bif d==kd i then sv else(U2.sl i).sG f,λn=>bif S.contains n then k n else U2.rt n,U2.pd⟩):FL g cx o d U W:=by refine⟨.some ⟨f,λn=>bif S.contains n then k n else U.rt n,sv,.none⟩,λm e=>by grind,λU2 a Z K=>?_⟩;rw[h U2 a K];simp only[UA,Eu,Nf];congr 2;funext n;cases hs:S.contains n with|true=>simp_all|false=>cases hw:W.contains n with|true=>simp;exact a.2.1 n (E4.1 hw)|false=>rfl
theorem a8R{d:Option Nat}(f:Nat×BB×Nat)(p:FW W (AV.kill f.1 f.2.1))(sv:SV)(S:List Nat)(j:∀n∈S,n∈W)(k:Nat->Option sK)(b:∀n∈S,a0D (k n)=a0D (U.rt n))(u:∃r e l,U.rt f.1=Option.some r/\CQ r.t r.x f.2.1=⟨Ty.list ka e,l⟩)(q:g=kc) (h:∀U2,Dt W (AC o) U U2->∀{Z:Type}(K:AE->Rs Z),Bg cx kc o U2 (a4T g K)=K ⟨λi=>bif d==kd i then sv else(U2.sl i).sG (AV.kill f.1 f.2.1),λn=>bif S.contains n then k n else U2.rt n,.some f⟩):FL g cx o d U W:=by refine⟨.some ⟨AV.kill f.1 f.2.1,λn=>bif S.contains n then k n else U.rt n,sv,.some f⟩,λm c=>by cases c;grind,λU2 a Z K=>?_⟩;rw[h U2 a K];simp only[UA,Eu,Nf];congr 2;funext n;cases hs:S.contains n with|true=>simp_all|false=>cases hw:W.contains n with|true=>simp;exact a.2.1 n (E4.1 hw)|false=>rfl
theorem PV{Z:Type}{K:AE->Rs Z}{f:AE}(h:f.pd=ke):a4T g K f=K f:=by cases g<;>simp only[a4T,c2h,h,cT,cF]
theorem DJ(n m:Nat):[m].contains n=(n==m):=by grind
theorem b0u{Z:Type}{U2:AE}(h:U2.pd=ke)(r:sK)(v:AV)(K:AE->Rs Z):(U2.fresh kc d r λU=>K (U.set d v)) =bif A4 (d<pinned)then K ⟨λi=>bif kd d==kd i then .one v else(U2.sl i).sG (match U2.rt d with|none=>id|some _=>AV.drop d),λn=>bif [d].contains n then kd r else U2.rt n,U2.pd⟩else ke:=by(have g:∀i,(kd d==kd i)=(i==d):=λi=>by grind);unfold AE.fresh;cases A4 (d<pinned);rfl;simp only[cT];cases hr:U2.rt d with|none=>simp only[AE.uK,hr];congr 1;simp only[AE.set,AE.put,AE.sD,DJ,g];simp_all[Mn]|some f=>simp only[cF,AE.look,h,hr,AE.uK];congr 1;simp only[AE.set,AE.put,AE.sD,DJ,g,AE.sG,h]
theorem dV(b:U.pd=ke)(y:d∈W){e:Ty}{x:AV}(z:∀n∈x.refs,n∈W){ys:Option (List e.sI)}(h:∀U2,Dt W (AC o) U U2->∀{Z:Type}(K:AE->Rs Z),Bg cx kc o U2 K=ys.elim ke λys=>U2.uD kc d e x ys K):FL g cx o (kd d) U W:=by
 have v:∀i,(kd d==kd i)=(i==d):=λi=>by
  grind
 cases ys with
 |none=>simp_all[FL.none]
 |some ys=>
  have h:∀U2,Dt W (AC o) U U2->∀{Z:Type}(K:AE->Rs Z),Bg cx kc o U2 K=U2.uD kc d e x ys K:=h;have B:(x=.nils\/x=.empt)->FL g cx o (kd d) U W:=λC=>by
   have h:∀U2,Dt W (AC o) U U2->∀{Z:Type}(K:AE->Rs Z),Bg cx kc o U2 K=bif BM ys.length then U2.fresh kc d ⟨kc,.list ka e,ys⟩ λU=>K (U.set d (.sref d []))else ke:=λU2 f Z K=>by
    rw[h U2 f];rcases C with rfl|rfl<;>rfl
   cases hl:BM ys.length with
   |false=>simp_all[FL.none]
   |true=>
    cases hd':A4 (d<pinned)with
    |false=>exact FL.none λU2 f Z K=>by rw[h U2 f,hl];simp;rw[b0u (f.1.trans b),hd'];rfl
    |true=>
     refine FL.some (match U.rt d with|.none=>id|.some _=>AV.drop d) ?_ (.one (.sref d [])) [d] (by simp_all) (λ_=>.some ⟨kc,.list ka e,ys⟩) λU2 f Z K=>?_
     grind[FW.id,FW.drop];rw[h U2 f,hl];simp only[cT];rw[b0u (f.1.trans b),hd',f.2.1 d y];simp only[cT];exact PV (f.1.trans b)
  cases x with
  |nils=>simp_all
  |empt=>simp_all
  |sref n p=>
   have j:n∈W:=z n (by simp[AV.refs]);have c:∀U2,Dt W (AC o) U U2->U2.look n=U.rt n:=λU2 f=>by rw[f.look j];simp only[AE.look,b]
   cases hr:U.rt n with
   |none=>
    simp_all[FL.none,AE.uD]
   |some r=>
    cases hg:CQ r.t r.x p with
    |mk F l=>
     cases F with
     |list D A=>
      cases D with
      |false=>
       simp_all[FL.none,AE.uD]
      |true=>
       by_cases he:e=A
       ·subst he;cases hl:BM (B7 l+ys.length)with
        |false=>
         simp_all[FL.none,AE.uD]
        |true=>
         by_cases hp:p=[]/\r.bx=kc
         ·obtain⟨rfl,w⟩:=hp;cases hnp:A4 (n<pinned)with
          |false=>simp_all[FL.none,AE.uD]
          |true=>
          refine FL.some (AV.kill n []) (FW.kill j []) (.one (.sref n [])) [n] (by simp_all) (λ_=>.some ⟨r.bx,r.t,FK r.t r.x [] (.list ka e) (E5 l ys)⟩) λU2 f Z K=>?_
          rw[h U2 f];simp only[AE.uD,cF,c U2 f,hr,hg,dite_true,hl,cT,w,hnp];rw[PV (by exact f.1.trans b)];congr 1;simp only[AE.set,AE.put,AE.sD,AE.sG,DJ,v]
         ·cases hgg:g with
          |true=>
           refine FL.none λU2 f Z K=>?_
           rw[h U2 f];simp[AE.uD,c U2 f,hr,hg,hl];cases p with
           |nil=>
            cases hb:r.bx with
            |false=>simp_all
            |true=>simp[f.1,b];rfl
           |cons a E=>simp[f.1,b];rfl
          |false=>
           refine a8R (n,p,d) (FW.kill j p) (.one (.sref n p)) [n] (by simp_all) (λ_=>.some ⟨r.bx,r.t,FK r.t r.x p (.list ka e) (E5 l ys)⟩) (λk G=>by
            grind[b7m]) ⟨r,_,_,hr,hg⟩ rfl λU2 f Z K=>?_
           rw[h U2 f];simp only[AE.uD,cF,c U2 f,hr,hg,dite_true,hl,cT];have m:∀(q u:AE),q=u->a4T kc K q=K u:=λq u e=>by rw[e];rfl
           cases p with
           |nil=>
            cases hb:r.bx with
            |false=>simp_all
            |true=>
             simp only[f.1,b];refine m _ _ ?_
             simp only[AE.set,AE.put,AE.sD,AE.sG,DJ,v]
           |cons a E=>
            simp only[f.1,b];refine m _ _ ?_
            simp only[AE.set,AE.put,AE.sD,AE.sG,DJ,v]
       simp_all[FL.none,AE.uD]
     |_=>
      exact FL.none λU2 f Z K=>by
        rw[h U2 f];simp only[AE.uD,cF,c U2 f,hr,hg]
  |_=>exact FL.none λU2 f Z K=>by rw[h U2 f];rfl
theorem b9i{Z:Type}(U:AE)(t:Ty)(a:AV)(hv:a.sP=[])(K:t.sI->AE->Rs Z):U.uR kc t a K=(SB t a).elim ke λx=>K x U:=by cases a with|val h x=>grind[AE.uR,SB]|nils=>(cases t with|list o e=>(cases o<;>rfl)|_=>rfl)|empt=>(cases t with|list o e=>(cases o<;>rfl)|_=>rfl)|sref n p=>(cases hv)|swin n p o k=>(cases hv)|_=>rfl
def VB(fz:Bool)(lk:Nat->Option sK)(used seen:List Nat):(p:PA)->AV->Option (p.ty.sI×List Nat×List Nat)|.v t,a=>(bif a.sP.any λn=>used.contains n then ke else bif fz then(SB t a).map λx=>(x,used,seen)else(Uz lk t a).map λx=>(x,used,a.sP++seen))|.r c (.b t),.ptr n []=>(if c || used.contains n || seen.contains n then ke else match lk n with|some ⟨ka,t',x⟩=>if h:t'=t then kd (h▸x,n::used,seen)else none|_=>ke)|.r c (.o e),.sref n []=>(if(c&&A4 (pinned<=n)) || used.contains n || seen.contains n then ke else match lk n with|some ⟨bx,.list ka e',x⟩=>if h:e'=e then(bif bx&&c then ke else kd (h▸x,n::used,seen))else none|_=>ke)|.r _ _,_=>ke
theorem gF{Z:Type}(U:AE)(fz:Bool)(used seen:List Nat)(p:PA)(a:AV)(hv:fz=kc\/a.sP=[])(K:p.ty.sI->AE->List Nat->List Nat->Rs Z):U.arg fz kc used seen p a K=(VB fz U.look used seen p a).elim ke λy=>K y.1 U y.2.1 y.2.2:=by cases p with|v t=>(simp only[AE.arg,VB];cases (a.sP.any λn=>used.contains n);simp;(cases fz with|true=>(simp;rw[b9i U t a (hv.resolve_left (by simp))];cases SB t a<;>rfl)|false=>simp;rw[b4b];cases Uz U.look t a<;>rfl);rfl)|r c b=>cases b with|v t=>rfl|b t=>(cases a with|ptr n p=>(cases p with|nil=>simp only[AE.arg,VB,Bool.or_false];grind|cons=>rfl)|_=>rfl)|o e=>cases a with|sref n p=>(cases p with|nil=>simp only[AE.arg,VB,Bool.or_false];grind|cons=>rfl)|_=>rfl
def AE.uH(U:AE)(fz:Bool)(used seen:List Nat)(ps:List PA)(as:List AV):Option ((Eh (ps.map PA.ty)).sI×List Nat):=U.args fz kc used seen ps as λx _ u=>kd (x,u)
theorem vZ(U:AE)(fz:Bool)(f:List PA):∀{Z:Type}(as:List AV)(used seen:List Nat)(K:(Eh (f.map PA.ty)).sI->AE->List Nat->Rs Z),(fz=kc\/∀a∈as,a.sP=[])->U.args fz kc used seen f as K=(U.uH fz used seen f as).elim ke λx=>K x.1 U x.2:=by induction f with|nil=>(intro Z as used seen K hv;cases as<;>rfl)|cons p f b=>intro Z as used seen K hv;cases as with|nil=>(cases f<;>rfl)|cons a as=>have g:fz=kc\/a.sP=[]:=hv.imp id λh=>h a (by simp);have k:fz=kc\/∀a∈as,a.sP=[]:=hv.imp id λh c e=>h c (by grind);cases f with|nil=>(cases as with|nil=>(simp[AE.uH,AE.args];rw[gF (hv:=g),gF (hv:=g)];cases VB fz U.look used seen p a<;>rfl)|cons=>rfl)|cons d f=>simp[AE.uH,AE.args];rw[gF (hv:=g),gF (hv:=g)];cases VB fz U.look used seen p a with|none=>rfl|some x=>simp[D0];rw[b as _ _ _ k,b as _ _ _ k];cases U.uH fz x.2.1 x.2.2 (d::f) as<;>rfl
theorem a8S{f g:Nat->Option sK}{fz:Bool}{used seen:List Nat}{p:PA}{a:AV}(h:∀n∈a.refs,g n=f n):VB fz g used seen p a=VB fz f used seen p a:=by cases p with|v t=>simp_all[VB,fY]|r c b=>cases b with|v t=>rfl|b t=>(cases a with|ptr n q=>(cases q<;>simp only[VB,h n (by simp[AV.refs])])|_=>rfl)|o e=>cases a with|sref n q=>(cases q<;>simp only[VB,h n (by simp[AV.refs])])|_=>rfl
theorem a1Y{f:Nat->Option sK}{fz:Bool}{used seen:List Nat}{p:PA}{a:AV}{x}(h:VB fz f used seen p a=kd x):∀n∈x.2.1,n∈used\/n∈a.refs:=by
 intro n g;cases p with
 |v t=>
  simp only[VB]at h;obtain⟨-,h⟩:=(Ah h).elim (λh=>by grind) id;cases fz with
  |true=>
   simp at h;cases ha:SB t a with
   |none=>rw[ha]at h;cases h
   |some y=>rw[ha]at h;cases h;simp_all
  |false=>
   simp at h;cases ha:Uz f t a with
   |none=>rw[ha]at h;cases h
   |some y=>rw[ha]at h;cases h;simp_all
 |r c b=>
  cases b with
  |v t=>cases a<;>cases h
  |b t=>
   cases a with
   |ptr m q=>
    cases q with
    |nil=>
     simp only[VB]at h;split at h;grind
     ·split at h
      ·split at h
       ·cases h;rcases mC.1 g with rfl|g;all_goals simp_all[AV.refs]
       simp_all
      simp_all
    |cons=>cases h
   |_=>cases h
  |o e=>
   cases a with
   |sref m q=>
    cases q with
    |nil=>
     simp only[VB]at h;split at h;grind
     ·split at h
      ·split at h
       ·obtain⟨-,h⟩:=(Ah h).elim (λh=>by grind) id;cases h;rcases mC.1 g with rfl|g;all_goals simp_all[AV.refs]
       simp_all
      simp_all
    |cons=>cases h
   |_=>cases h
theorem a5A{U U2:AE}(fz:Bool)(g:List PA):∀(as:List AV)(used seen:List Nat),(∀a∈as,∀n∈a.refs,U2.look n=U.look n)->(fz=kc\/∀a∈as,a.sP=[])->U2.uH fz used seen g as=U.uH fz used seen g as:=by
 induction g with
 |nil=>intro as used seen k f;cases as<;>rfl
 |cons p g j=>
  intro as used seen k f;cases as with
  |nil=>cases g<;>rfl
  |cons a as=>
   have d:fz=kc\/a.sP=[]:=f.imp id λh=>h a (by simp);have e:fz=kc\/∀a∈as,a.sP=[]:=f.imp id λh b i=>h b (by grind);have c:=a8S (fz:=fz) (used:=used) (seen:=seen) (p:=p) (k a (by simp));cases g with
   |nil=>
    cases as with
    |nil=>
     simp_all[AE.uH,AE.args,gF]
    |cons=>rfl
   |cons l g=>
    simp[AE.uH,AE.args];grind[gF,vZ]
where
 vZ {U:AE} {fz:Bool} {g:List PA} {Z:Type} {as:List AV} {used seen:List Nat} {K:(Eh (g.map PA.ty)).sI->AE->List Nat->Rs Z} (f:fz=kc\/∀a∈as,a.sP=[]):=Go.Ab.vZ U fz g as used seen K f
theorem a8T{U:AE}(fz:Bool)(g:List PA):∀(as:List AV)(used seen:List Nat)(x),(fz=kc\/∀a∈as,a.sP=[])->U.uH fz used seen g as=kd x->∀n∈x.2,n∈used\/∃a∈as,n∈a.refs:=by induction g with|nil=>(intro as used seen x hv h n b;cases as with|nil=>(cases h;simp_all)|cons=>cases h)|cons p g i=>intro as used seen x hv h n b;cases as with|nil=>(cases g<;>cases h)|cons a as=>have f:fz=kc\/a.sP=[]:=hv.imp id λh=>h a (by simp);have k:fz=kc\/∀a∈as,a.sP=[]:=hv.imp id λh c j=>h c (by grind);cases g with|nil=>(cases as with|nil=>(simp[AE.uH,AE.args]at h;rw[gF (hv:=f)]at h;cases hx:VB fz U.look used seen p a with|none=>simp_all|some y=>rw[hx]at h;cases h;exact(a1Y hx n b).imp id λh=>⟨a,by simp,h⟩)|cons=>cases h)|cons d g=>simp[AE.uH,AE.args]at h;rw[gF (hv:=f)]at h;cases hx:VB fz U.look used seen p a with|none=>simp_all|some y=>rw[hx]at h;simp at h;rw[vZ U fz (d::g) as _ _ _ k]at h;cases hr:U.uH fz y.2.1 y.2.2 (d::g) as with|none=>simp_all|some u=>rw[hr]at h;cases h;rcases i as _ _ u k hr n b with h|⟨c,e,h⟩;exact(a1Y hx n h).imp id λh=>⟨a,by simp,h⟩;grind
def PW:List Nat->(Nat->Option sK)->AV->AV|[],_=>id|n::r,rt=>match rt n with|none=>PW r rt|some _=>λv=>PW r (λj=>bif j==n then ke else rt j) (AV.drop n v)
theorem gG:∀(ns:List Nat){rt g:Nat->Option sK},(∀n∈ns,g n=rt n)->PW ns g=PW ns rt|[],_,_,_=>rfl|n::r,rt,g,h=>by simp_all[PW,gG]
theorem nP:∀(ns:List Nat)(rt:Nat->Option sK),(∀n∈ns,n∈W/\n<pinned)->FW W (PW ns rt)|[],rt,_=>FW.id|n::r,rt,h=>by simp only[PW];cases rt n with|none=>(exact nP r rt λm g=>h m (by simp[g]))|some x=>(have:=nP r (λj=>bif j==n then ke else rt j) λm g=>h m (by simp[g]));exact(FW.drop (h n (by simp)).1 (h n (by simp)).2).comp this this.dead
theorem dW{m n:Nat}{r:List Nat}(h:¬ m=n):(n::r).contains m=r.contains m:=by simp_all
theorem dX{Z:Type}(us:List Nat):∀(ns:List Nat)(U:AE)(K:AE->Rs Z),U.tV kc us ns K =bif ns.all λn=>A4 (n<pinned)&&!us.contains n then K ⟨λi=>(U.sl i).sG (PW ns U.rt),λn=>bif ns.contains n then ke else U.rt n,U.pd⟩else none|[],U,K=>by simp_all[AE.tV,PW,Mn]|n::r,U,K=>by simp only[AE.tV,C4];cases (A4 (n<pinned)&&!us.contains n);rfl;simp only[cT,Bool.true_and];cases hr:U.rt n with|none=>(simp only[PW,hr];rw[dX us r U K];congr 2;congr 1;funext m;by_cases e:m=n;subst e;simp[hr];rw[dW e])|some x=>simp only[cF,PW,hr];rw[dX us r];simp only[AE.sD,AE.sG,a1X];grind
theorem NG:∀(g:List RA)(b n:Nat),n∈DR g b->n∈BO g b|[],_,_,h=>h|.v _::g,b,n,h=>A9 _ (NG g _ n h)|.o _::g,b,n,h=>(by rcases mC.1 h with rfl|h;exact C2;exact A9 _ (NG g _ n h))|.b _::g,b,n,h=>by rcases mC.1 h with rfl|h;exact C2;exact A9 _ (NG g _ n h)
theorem nQ{x:Operand}(a:x∈o.op.operands.toList){n:Nat}(k:n∈(U.sJ x).refs):n∈U.vK o:=by refine D9.2 ⟨x,a,?_⟩;cases x with|tmp t=>(simp[AE.sJ,AE.get]at k;show n∈(U.sl t).refs;revert k;cases U.sl t with|one v=>exact id|cmp c b=>exact λh=>by cases h)|const v=>(simp[AE.sJ]at k;unfold WL at k;split at k<;>cases k)|global g=>(cases k)|func f=>cases k
theorem b1S{d:Option Nat}{c:Call}{f:FuncId}{s:rZ}(ho:o.op=.call c)(hb:c.callee=.value (.func f))(hd:o.dst=d)(D:U.pd=ke)(hs:cx.C f=kd s)(M:∀n∈U.vK o,n∈W)(N:∀n∈IG cx o (d.getD 0),n∈W)
    (hv:(s.rs.any RA.sO || (Ko s.ps).any RA.sO)=kc\/∀a∈c.args.toList.map U.sJ,a.sP=[]):FL g cx o d U W:=by
  let L:=s.rs.any RA.sO || (Ko s.ps).any RA.sO
  let b:=d.getD 0+1000
  let l:=DR s.rs b
  have Y:∀j,Dt W (AC o) U j->c.args.toList.map j.sJ=c.args.toList.map U.sJ:=λj q=>B6 λx B=>q.sJ (PT ho x B);have A:∀a∈c.args.toList.map U.sJ,∀n∈a.refs,n∈W:=λa G n m=>by
    obtain⟨x,B,rfl⟩:=C1.1 G;exact M n (nQ (PT ho x B) m)
  have E:∀n∈BO s.rs b,n∈W:=λn m=>N n (by grind[IG]);have z:∀n∈l,n∈W:=λn m=>E n (NG _ _ n m);have T:∀j,Dt W (AC o) U j->∀{Z:Type}(K:AE->Rs Z),Bg cx kc o j (a4T g K)=(U.uH L [] [] s.ps (c.args.toList.map U.sJ)).elim ke λx=>
      bif l.all (λn=>A4 (n<pinned)&&!x.2.contains n)then(s.F x.1).bind λy=>
        (let H:AE:=⟨λi=>((j.sl i).sG (PW l U.rt)).sG (AV.sN x.2 ((XA s.ps x.2.reverse).filter λn=>!a4W (bif l.contains n then ke else j.rt n))),λn=>match Dy (BO s.rs b++x.2.reverse) (Fg (RA.all s.ps s.rs) y) n with
          |some r=>kd (bif x.2.contains n then Va (bif l.contains n then ke else j.rt n) r else r)
          |none=>bif l.contains n then ke else j.rt n,ke⟩
         match d with
          |none=>a4T g K H
          |some d=>match Kz (BO s.rs b) (Fg (RA.all s.ps s.rs) y)with
            | [v]=>a4T g K (H.set d v)
            |vs=>a4T g K (H.put d (.cmp .tup vs)))else ke:=λj q Z K=>by
    have I:Bg cx kc o j (a4T g K)=j.call kc d s (c.args.toList.map U.sJ) (a4T g K):=by
      grind[Bg]
    rw[I];unfold AE.call;rw[show j.pd=ke from q.1.trans D];simp only[];rw[vZ _ _ _ _ _ _ _ hv,a5A _ _ _ _ _ (λa G n m=>q.look (A a G n m)) hv];cases U.uH (s.rs.any RA.sO || (Ko s.ps).any RA.sO) [] [] s.ps (c.args.toList.map U.sJ)with
    |none=>rfl
    |some x=>
      simp only[D0];rw[dX,gG _ λn m=>q.2.1 n (z n m)];cases d<;>rfl
  cases B:U.uH L [] [] s.ps (c.args.toList.map U.sJ)with
  |none=>simp_all[FL.none]
  |some x=>
    cases m:(l.all λn=>A4 (n<pinned)&&!x.2.contains n)with
    |false=>exact FL.none λj q Z K=>by grind
    |true=>
      cases hy:s.F x.1 with
      |none=>simp_all[FL.none]
      |some y=>
        let p:=Fg (RA.all s.ps s.rs) y
        let w:=BO s.rs b
        let V:SV:=match Kz w p with
          | [v]=>.one v
          |vs=>.cmp .tup vs
        have u:∀n∈x.2,n∈W:=λn m=>by
          rcases a8T L s.ps _ _ _ x hv B n m with h|⟨a,G,h⟩;all_goals grind
        have O:=nP l U.rt λn Q=>⟨z n Q,by
          simp_all⟩
        have P:∀j,Dt W (AC o) U j->((XA s.ps x.2.reverse).filter λn=>!a4W (bif l.contains n then ke else j.rt n))=(XA s.ps x.2.reverse).filter λn=>!a4W (bif l.contains n then ke else U.rt n):=λj q=>
          F5 λn m=>by
            obtain⟨k,i,e,h1,-⟩:=lI s.ps x.2.reverse 0 n m;rw[q.2.1 n (u n (List.mem_reverse.1 (D1 h1)))]
        refine FL.some (λv=>AV.sN x.2 ((XA s.ps x.2.reverse).filter λn=>!a4W (bif l.contains n then ke else U.rt n)) (PW l U.rt v)) (O.comp (FW.sN u)) V ((w++x.2.reverse)++l) (λn m=>?_) (λn=>match Dy (w++x.2.reverse) p n with
          |some r=>kd (bif x.2.contains n then Va (bif l.contains n then ke else U.rt n) r else r)
          |none=>bif l.contains n then ke else U.rt n) λj q Z K=>?_
        grind;rw[T j q,B];simp only[D0,m,cT,hy,oB];have S:(λn=>match Dy (w++x.2.reverse) p n with
            |some r=>kd (bif x.2.contains n then Va (bif l.contains n then ke else j.rt n) r else r)
            |none=>bif l.contains n then ke else j.rt n)=λn=>bif ((w++x.2.reverse)++l).contains n then(match Dy (w++x.2.reverse) p n with
            |some r=>kd (bif x.2.contains n then Va (bif l.contains n then ke else U.rt n) r else r)
            |none=>bif l.contains n then ke else U.rt n)else j.rt n:=by
          funext n;cases hS:((w++x.2.reverse)++l).contains n with
          |true=>
            have R:n∈W:=by
              grind
            rw[q.2.1 n R];rfl
          |false=>
            grind[Pd]
        have hΓ:∀X:SV,(⟨λi=>bif d==kd i then X else((j.sl i).sG (PW l U.rt)).sG (AV.sN x.2 ((XA s.ps x.2.reverse).filter λn=>!a4W (bif l.contains n then ke else j.rt n))),λn=>match Dy (BO s.rs b++x.2.reverse) (Fg (RA.all s.ps s.rs) y) n with
            |some r=>kd (bif x.2.contains n then Va (bif l.contains n then ke else j.rt n) r else r)
            |none=>bif l.contains n then ke else j.rt n,ke⟩:AE)=⟨λi=>bif d==kd i then X else(j.sl i).sG (λv=>AV.sN x.2 ((XA s.ps x.2.reverse).filter λn=>!a4W (bif l.contains n then ke else U.rt n)) (PW l U.rt v)),λn=>bif ((w++x.2.reverse)++l).contains n then(match Dy (w++x.2.reverse) p n with
            |some r=>kd (bif x.2.contains n then Va (bif l.contains n then ke else U.rt n) r else r)
            |none=>bif l.contains n then ke else U.rt n)else j.rt n,j.pd⟩:=λX=>by
          rw[P j q];rw[<-S,q.1,D];congr 1;simp_all[a1X]
        rw[<-hΓ V];cases d with
        |none=>
          rw[PV rfl];rfl
        |some d=>
          have I:∀i,(kd d==kd i)=(i==d):=λi=>by
            grind
          simp only[I,AE.set,AE.put,V];show(match Kz w p with
            | [v]=>a4T g K _
            |vs=>a4T g K _)=_
          generalize Kz w p=vs;split<;>exact PV rfl
theorem a5B{c:Call}(A:o.op=.call c)(hb:c.callee=.builtin .append)(E:o.dst=kd d)(p:U.pd=ke)(v:∀n∈U.vK o,n∈W)(m:d∈W)(i:dG cx c.argTypes.toList=kc):FL g cx o (kd d) U W:=by
 have j:∀f,Dt W (AC o) U f->∀{Z:Type}(K:AE->Rs Z),Bg cx kc o f K=f.uN kc cx d .append c.argTypes.toList (c.args.toList.map U.sJ) K:=λf l Z K=>by simp[Bg,A,E,hb];rw[B6 λx B=>l.sJ (PT A x B)]
 have k:∀a∈c.args.toList.map U.sJ,∀n∈a.refs,n∈W:=λa D n z=>by obtain⟨x,B,rfl⟩:=C1.1 D;exact v n (nQ (PT A x B) z)
 revert j k i;generalize c.args.toList.map U.sJ=as;generalize c.argTypes.toList=ts;intro i j k;have u:(∀(f:AE){Z:Type}(K:AE->Rs Z),f.uN kc cx d .append ts as K=ke)->FL g cx o (kd d) U W:=λh=>FL.none λf l Z K=>by simp_all
 match as with|[]=>(exact u λf Z K=>rfl)|[_]=>(exact u λf Z K=>rfl)|_::_::_::_=>(exact u λf Z K=>rfl)|[a,b]=>have r:∀n∈a.refs,n∈W:=k a (by simp);have C:∀n∈b.refs,n∈W:=k b (by simp);cases hni:mH cx ts with|false=>(cases hzl:b3I cx ts a b with|none=>simp_all[AE.uN,Zl]|some w=>have⟨e,ys⟩:=w;exact dV p m (e:=e) (x:=.nils) (by simp[AV.refs]) (ys:=kd ys) λf l Z K=>by simp_all[AE.uN,Zl])|true=>cases ht:ts.head?.bind cx.T with|none=>simp_all[AE.uN]|some τ=>cases τ with|list F e=>((have i:e.isList=kc:=by simp_all[dG]);(have q:(∀(f:AE){Z:Type}(K:AE->Rs Z),f.uN kc cx d .append ts [a,b] K=f.elems e b λys=>f.uD kc d e a ys K)->FL g cx o (kd d) U W:=λh=>dV p m (e:=e) (x:=a) r (ys:=PS U.look e b) λf l Z K=>by rw[j f l,h,Zv,Tx λn z=>l.look (C n z)]);cases b with|val t y=>(cases t with|str=>(by_cases he:e=.int .u8;subst he;exact dV p m (e:=.int .u8) (x:=a) r (ys:=kd y) λf l Z K=>by rw[j f l];simp only[AE.uN,hni,ht,cT];rfl);simp_all[AE.uN]|_=>exact q λf Z K=>by simp only[AE.uN,hni,ht,cT,i,G3,Bool.or_true])|_=>exact q λf Z K=>by simp only[AE.uN,hni,ht,cT,i,G3,Bool.or_true])|_=>exact u λf Z K=>by simp only[AE.uN,hni,ht,cT]
theorem nR{d:Option Nat}(U:AE):U.tY d .dead=⟨λi=>bif d==kd i then .one .dead else U.sl i,U.rt,U.pd⟩:=by cases d with|none=>rfl|some d=>simp only[AE.tY,AE.set,AE.put];grind
theorem b1T{d:Option Nat}(a:U.pd=ke){t:Ty}{n:Nat}{p:BB}{x:AV}(b:n∈W)(hv:x.sP=[])(h:∀U2,Dt W (AC o) U U2->∀{Z:Type}(K:AE->Rs Z),Bg cx kc o U2 K=U2.vI t n p x λU=>K (U.tY d .dead)):FL g cx o d U W:=by
 have c:∀U2,Dt W (AC o) U U2->U2.rt n=U.rt n:=λU2 f=>f.2.1 n b;have A:∀U2,Dt W (AC o) U U2->U2.look n=U.rt n:=λU2 f=>by rw[f.look b];simp only[AE.look,a]
 cases hr:U.rt n with
 |none=>simp_all[FL.none,AE.vI]
 |some r=>
  have i:∀k y,CQ r.t r.x p=⟨k,y⟩->(∀e,k≠.list ka e)->FL g cx o d U W:=λk y w H=>by
   have B:∀U2,Dt W (AC o) U U2->∀{Z:Type}(K:AE->Rs Z),Bg cx kc o U2 K=if k.tK=k/\k.sh=t then(SB k x).elim ke λy=>K ((U2.sD n (kd ⟨r.bx,r.t,FK r.t r.x p k y⟩)).tY d .dead)else U2.xA t n r x (λU=>K (U.tY d .dead)) p:=λU2 f Z K=>by
    rw[h U2 f];unfold AE.vI;rw[c U2 f,hr];simp[w];have F:(if k.tK=k/\k.sh=t then U2.uR kc k x λy E=>(match E.look n with
      |some r=>if(CQ r.t r.x p).1=k then K ((E.sD n (kd ⟨r.bx,r.t,FK r.t r.x p k y⟩)).tY d .dead)else ke
      |none=>ke)else U2.xA t n r x (λU=>K (U.tY d .dead)) p)=if k.tK=k/\k.sh=t then(SB k x).elim ke λy=>K ((U2.sD n (kd ⟨r.bx,r.t,FK r.t r.x p k y⟩)).tY d .dead)else U2.xA t n r x (λU=>K (U.tY d .dead)) p:=by
     simp_all[b9i]
    grind
   by_cases hc:k.tK=k/\k.sh=t
   ·cases ha:SB k x with
    |none=>simp_all[FL.none]
    |some y=>
     refine FL.some id FW.id (.one .dead) [n] (by simp_all) (λ_=>kd ⟨r.bx,r.t,FK r.t r.x p k y⟩) λU2 f Z K=>?_
     rw[B U2 f,if_pos hc,ha];simp only[D0];rw[nR,PV (by exact f.1.trans a)];congr 1;simp only[AE.sD,DJ,Mn]
   ·cases p with
    |cons s p=>exact FL.none λU2 f Z K=>by rw[B U2 f,if_neg hc];rfl
    |nil=>
     have D:(∀U2,Dt W (AC o) U U2->∀{Z:Type}(K:AE->Rs Z),U2.over t n r x K=ke)->FL g cx o d U W:=λv=>FL.none λU2 f Z K=>by
      rw[B U2 f,if_neg hc];exact v U2 f (λU=>a4T g K (U.tY d .dead))
     have j:∀(C:Ty)(z:C.sI),(∀U2,Dt W (AC o) U U2->∀{Z:Type}(K:AE->Rs Z),U2.over t n r x K=K ((U2.sG (AV.sN [n] [])).sD n (kd ⟨ka,C,z⟩)))->FL g cx o d U W:=λC z v=>by
      refine FL.some (AV.sN [n] []) (FW.sN (by simp_all)) (.one .dead) [n] (by simp_all) (λ_=>kd ⟨ka,C,z⟩) λU2 f Z K=>?_
      rw[B U2 f,if_neg hc];simp only[AE.xA];rw[v U2 f,nR,PV (by exact f.1.trans a)];congr 1;simp only[AE.sD,AE.sG,DJ]
     have G:∀U2,Dt W (AC o) U U2->U2.look n=kd r:=λU2 f=>(A U2 f).trans hr;cases x with
     |val u y=>
      by_cases hcc:r.bx=ka/\(r.t.sh=t/\(u.tK=u/\u.sh=t))
      ·cases h1:sZ u r.t y with
       |some z=>exact j r.t z λU2 f Z K=>by simp_all[AE.over]
       |none=>
        cases v:sZ u r.t.tK y with
        |some z=>exact j r.t.tK z λU2 f Z K=>by simp_all[AE.over]
        |none=>exact j u y λU2 f Z K=>by simp_all[AE.over]
      simp_all[AE.over]
     |_=>exact D λU2 f Z K=>rfl
  cases w:CQ r.t r.x p with
  |mk k l=>
   cases k with
   |list I e=>
    cases I with
    |false=>simp_all
    |true=>
     by_cases hty:t.isList=ka
     ·have D:(∀U2,Dt W (AC o) U U2->∀{Z:Type}(K:AE->Rs Z),U2.vI t n p x K=ke)->FL g cx o d U W:=λv=>FL.none λU2 f Z K=>by simp_all
      cases x with
      |nils=>
       refine FL.some (AV.kill n p) (FW.kill b p) (.one .dead) [n] (by simp_all) (λ_=>kd ⟨r.bx,r.t,FK r.t r.x p (.list ka e) []⟩) λU2 f Z K=>?_
       rw[h U2 f];simp only[AE.vI,c U2 f,hr,w,hty,if_true,A U2 f];rw[nR,PV (by exact f.1.trans a)];congr 1;simp only[AE.sD,AE.sG,DJ]
      |sref m q=>cases hv
      |_=>exact D λU2 f Z K=>by simp only[AE.vI,c U2 f,hr,w,hty,if_true]
     simp_all[FL.none,AE.vI]
   |_=>exact i _ l w (by simp)
theorem WV{U2:AE}(g:Dt W (AC o) U U2):b6Z cx o U2=b6Z cx o U:=by
 unfold b6Z;cases ho:o.op<;>try rfl
 case store t a x=>
  simp
  rw[g.sJ (by simp_all[Op.operands]),g.tH (by simp_all[Op.operands])]
 rename_i c;simp only[];cases hc:c.callee with
 |value v=>
  cases v with
  |func f=>
   simp only[];cases cx.C f with
   |none=>rfl
   |some s=>
    simp only[];congr 1
    have:∀x∈c.args.toList,(U2.sJ x).sP.isEmpty=(U.sJ x).sP.isEmpty:=λx k=>by rw[g.sJ (PT ho x k)]
    grind
  |_=>rfl
 |builtin b=>grind
 |invoke r n=>rfl
where
 all_congr' {α:Type} {l:List α} {p q:α->Bool} (h:∀x∈l,p x=q x):l.all p=l.all q:=by
  grind
theorem Tz{U2:AE}(g:∀t∈AC o,U2.sl t=U.sl t):U2.vK o=U.vK o:=by
 unfold AE.vK
 have:∀x∈o.op.operands.toList,(match x with
  |.tmp t=>(U2.sl t).refs
  |_=>[])=(match x with
  |.tmp t=>(U.sl t).refs
  |_=>[]):=λx f=>by
  grind[Dc]
 exact flatMap_congr' this
where
 flatMap_congr' {α β:Type} {l:List α} {p q:α->List β} (h:∀x∈l,p x=q x):l.flatMap p=l.flatMap q:=by
  induction l with
  |nil=>rfl
  |cons a l k=>simp_all
theorem Zw(i:U.pd=ke)(h:b6Z cx o U=ka)(e:∀n∈U.vK o,n∈W)(j:∀n∈IG cx o (o.dst.getD 0),n∈W):FL g cx o o.dst U W:=by
 unfold b6Z at h;split at h;rename_i c q;split at h;rename_i u;simp at h;have⟨d,v⟩:=A3.1 h.1;rw[v];exact a5B q u v i e (j d (by rw[v];exact C2)) h.2;rename_i f u;split at h;rename_i s z;refine b1S q u rfl i z e j ?_
 grind;simp_all;simp_all
 ·rename_i t a x q;have r:a∈o.op.operands.toList:=by simp_all[Op.operands]
  have y:x∈o.op.operands.toList:=by simp_all[Op.operands]
  have⟨h,l⟩:=B3.1 h;have l:U.tH x=ke:=by simp_all
  have m:∀k:AE,Dt W (AC o) U k->∀{Z:Type}(K:AE->Rs Z),Bg cx kc o k K=(match k.sJ a with
    |.ptr n p=>(match cx.T t with
     |some t=>k.vI t n p (k.sJ x) λU=>K (U.tY o.dst .dead)
     |none=>ke)
    |_=>ke):=λk b Z K=>by
   have w:k.tH x=ke:=(b.tH y).trans l;unfold Bg;rw[q];grind
  cases hpa:U.sJ a with
  |ptr n p=>
   cases ht:cx.T t with
   |none=>grind[FL.none]
   |some τ=>
    refine b1T i (t:=τ) (n:=n) (p:=p) (x:=U.sJ x) (e n (nQ r (by rw[hpa];simp[AV.refs]))) (by simp_all) λk b Z K=>?_
    rw[m k b,b.sJ r,hpa,ht,b.sJ y]
  |_=>exact FL.none λk b Z K=>by rw[m k b,b.sJ r,hpa]
 simp_all
theorem nS{Z:Type}{ops:Array Oper}{x:List Nat}{K:AE->Rs Z}{z:Z}(k:Bi cx (.w x) ops.toList o U K=kd z):∃(W:List Nat)(m:xE),FW W m.f/\(∀n∈W,n∈x)/\K (Nf W m o.dst U)=kd z/\∀U2,Dt W (o.looksAt ops) U U2->∀{Z2:Type}(l:AE->Rs Z2),Bi cx (.w x) ops.toList o U2 l=l (Nf W m o.dst U2):=by rw[DA]at k;cases hl:CT ops o U with|none=>simp_all|some b=>rw[hl]at k;cases b with|false=>(have v:∀U2:AE,U2.tY o.dst .skp=Nf [] ⟨id,λ_=>ke,.one .skp,ke⟩ o.dst U2:=λU2=>by simp only[Nf,Mn];cases o.dst with|none=>rfl|some d=>simp only[AE.tY,AE.set,AE.put];congr 1;grind);refine⟨[],⟨id,λ_=>ke,.one .skp,ke⟩,FW.id,λn j=>(by grind),by simp_all,λU2 c Z2 l=>?_⟩;rw[DA,CX c.2.2,hl,<-v U2]|true=>simp[FR]at k;cases hpd:U.pd with|some p=>simp_all|none=>(rw[hpd]at k;simp at k;have⟨a,k⟩:=(Ah k).elim id λh=>by grind);simp at a;have⟨a,q,u⟩:=a;let W:=U.vK o++IG cx o (o.dst.getD 0);have⟨r,i,y⟩:=Zw (g:=ka) (cx:=cx) (W:=W) hpd a (λn j=>A7 _ j) (λn j=>A6 _ j);have k:Bg cx kc o U (a4T ka K)=kd z:=k;rw[y U Dt.refl]at k;cases r with|none=>(cases k)|some m=>have k:K (Eu W m o.dst U)=kd z:=k;rw[gE ((i m rfl).2.1 rfl)]at k;refine⟨W,m,(i m rfl).1,λn j=>(mA.1 j).elim (KC q) (KC u),k,λU2 c Z2 l=>?_⟩;have e:Dt W (AC o) U U2:=⟨c.1,c.2.1,λt A=>c.2.2 t (Dd A)⟩;rw[DA,CX c.2.2,hl];simp[FR];rw[c.1,hpd,WV e,a,Tz e.2.2,q,u];refine Eq.trans (y U2 e l) ?_;simp[UA];rw[gE ((i m rfl).2.1 rfl)]
theorem b9j{Z:Type}{ops:Array Oper}{x:List Nat}{K:AE->Rs Z}{z:Z}(k:Bi cx (.a x) ops.toList o U K=kd z):∃(W:List Nat)(m:xE),FW W m.f/\(∀n∈W,n∈x)/\K (Eu W m o.dst U)=kd z/\∀U2,Dt W (o.looksAt ops) U U2->∀{Z2:Type}(l:AE->Rs Z2),Bi cx (.a x) ops.toList o U2 l=l (Eu W m o.dst U2):=by rw[DA]at k;cases hl:CT ops o U with|none=>simp_all|some b=>rw[hl]at k;cases b with|false=>(have v:∀U2:AE,U2.tY o.dst .skp=Nf [] ⟨id,λ_=>ke,.one .skp,ke⟩ o.dst U2:=λU2=>by simp only[Nf,Mn];cases o.dst with|none=>rfl|some d=>simp only[AE.tY,AE.set,AE.put];congr 1;grind);refine⟨[],⟨id,λ_=>ke,.one .skp,ke⟩,FW.id,λn j=>(by grind),by rw[gE rfl,<-v U];omega,λU2 e Z2 l=>?_⟩;rw[DA,CX e.2.2,hl,gE rfl,<-v U2]|true=>simp[FR]at k;cases hpd:U.pd with|some p=>simp_all|none=>(rw[hpd]at k;simp at k;have⟨c,k⟩:=(Ah k).elim id λh=>by grind);simp at c;have⟨c,q,u⟩:=c;let W:=U.vK o++IG cx o (o.dst.getD 0);have⟨r,w,y⟩:=Zw (g:=kc) (cx:=cx) (W:=W) hpd c (λn j=>A7 _ j) (λn j=>A6 _ j);have k:Bg cx kc o U (a4T kc K)=kd z:=k;rw[y U Dt.refl]at k;cases r with|none=>(cases k)|some m=>have k:K (Eu W m o.dst U)=kd z:=k;refine⟨W,m,(w m rfl).1,λn j=>(mA.1 j).elim (KC q) (KC u),k,λU2 e Z2 l=>?_⟩;have i:Dt W (AC o) U U2:=⟨e.1,e.2.1,λt A=>e.2.2 t (Dd A)⟩;rw[DA,CX e.2.2,hl];simp[FR];rw[e.1,hpd,WV i,c,Tz i.2.2,q,u];exact y U2 i l
theorem TA:∀{p q:BB},IF p q=ka->q.all Step.sV=ka->p.all Step.sV=true|[],_,_,_=>rfl|.fst::p,.fst::q,h,g=>(by simp only[C4,HC]at g|-;exact⟨rfl,TA h g.2⟩)|.snd::p,.snd::q,h,g=>(by simp only[C4,HC]at g|-;exact⟨rfl,TA h g.2⟩)|.idx _::p,.idx _::q,h,g=>by simp_all[Step.sV]
theorem a8U{n:Nat}{p:BB}(hp:p.all Step.sV=kc){sv:SV}(h:sv.still=ka):sv.sG (AV.kill n p)=sv:=by cases sv with|one v=>((have g:∀q:BB,q.all Step.sV=ka->IF p q=kc:=λq f=>by grind[TA]);cases v with|ptr m q=>simp only[SV.sG,AV.kill,g q h,G4,D3];rfl|sref m q=>simp only[SV.sG,AV.kill,g q h,G4];rfl|swin=>(cases h)|_=>rfl)|cmp c k=>exact(FW.kill (W:=[n]) (by simp) p).fp.sv (PU h)
theorem b0v{Z:Type}{ops:Array Oper}{F:List Nat}{K:AE->Rs Z}{z:Z}(a:Bi cx (.b F) ops.toList o U K=kd z):∃(W:List Nat)(m:xE),FW W m.f/\(∀n∈W,n∈F)/\(∀sv:SV,sv.still=ka->sv.sG m.f=sv)/\(∀n∈W,nO (m.rt n)=nO (U.rt n))/\(Eu W m o.dst U).uQ=U.uQ/\K (Eu W m o.dst U)=kd z/\∀U2,Dt W (o.looksAt ops) U U2->(∀{Z2:Type}(y:AE->Rs Z2),Bi cx (.b F) ops.toList o U2 y=y (Eu W m o.dst U2)):=by rw[DA]at a;cases hl:CT ops o U with|none=>simp_all|some b=>rw[hl]at a;cases b with|false=>(have w:∀U2:AE,U2.tY o.dst .skp=Nf [] ⟨id,λ_=>ke,.one .skp,ke⟩ o.dst U2:=λU2=>by simp only[Nf,Mn];cases o.dst with|none=>rfl|some d=>simp only[AE.tY,AE.set,AE.put];congr 1;grind);refine⟨[],⟨id,λ_=>ke,.one .skp,ke⟩,FW.id,λn l=>(by grind),λsv _=>Mn sv,λn l=>(by grind),by rfl,by rw[gE rfl,<-w U];omega,λU2 e Z2 y=>?_⟩;rw[DA,CX e.2.2,hl,gE rfl,<-w U2]|true=>simp only[FR]at a;cases hpd:U.pd with|some p=>simp_all|none=>(rw[hpd]at a;simp only[]at a;have⟨c,a⟩:=(Ah a).elim id λh=>by grind);simp at c;have⟨c,u,v⟩:=c;let W:=U.vK o++IG cx o (o.dst.getD 0);have⟨r,C,L⟩:=Zw (g:=kc) (cx:=cx) (W:=W) hpd c (λn l=>A7 _ l) (λn l=>A6 _ l);have q:∀U2,Dt W (AC o) U U2->∀{Z:Type}(K:AE->Rs Z),Bg cx kc o U2 K=UA W r o.dst U2 K:=λU2 e Z K=>L U2 e K;rw[q U Dt.refl]at a;cases r with|none=>(cases a)|some m=>obtain⟨A,-,B⟩:=C m rfl;cases hmp:m.pd with|none=>simp_all[UA,Eu]|some x=>(have⟨n,p,d⟩:=x;obtain⟨N,-,D⟩:=B n p d hmp;have E:=λk G=>a3B (D k G);have i:∀U2:AE,(Eu W m o.dst U2).pd=kd (n,p,d):=λU2=>by simp only[Eu,hmp]);(simp only[UA,i]at a;have⟨H,a⟩:=(Ah a).elim id λh=>by grind);(have I:p.all Step.sV=kc:=by simp_all);refine⟨W,m,A,λn l=>(mA.1 l).elim (KC u) (KC v),λsv h=>by simp_all[a8U],E,by simp_all[AE.uQ],a,λU2 e Z2 y=>?_⟩;have j:Dt W (AC o) U U2:=⟨e.1,e.2.1,λt M=>e.2.2 t (Dd M)⟩;rw[DA,CX e.2.2,hl];simp only[FR];rw[e.1,hpd,WV j,c,Tz j.2.2,u,v];simp only[Bool.and_self,cT];rw[q U2 j];simp only[UA,i,H,cT]
theorem Yv:∀(p:BB)(t:Ty)(x:t.sI)(q:BB){τ e:Ty}{l:List e.sI},Dv p t x=⟨.list ka e,l⟩->a4Y t q=kd τ->IF p q=ka->p.length<q.length->False|[],t,x,q,τ,e,l,h,f,_,g=>(by simp[Dv]at h;cases h;cases q with|nil=>omega|cons s q=>cases s<;>cases f)|.fst::p,t,x,q,τ,e,l,h,f,g,k=>(by cases q with|nil=>(cases g)|cons s q=>cases s with|fst=>(cases t with|pair a b=>exact Yv p a x.1 q h f g (by simpa using k)|_=>cases h)|_=>cases g)|.snd::p,t,x,q,τ,e,l,h,f,g,k=>(by cases q with|nil=>(cases g)|cons s q=>cases s with|snd=>(cases t with|pair a b=>exact Yv p b x.2 q h f g (by simpa using k)|_=>cases h)|_=>cases g)|.idx i::p,t,x,q,τ,e,l,h,f,g,k=>by cases q with|nil=>grind|cons s q=>cases s with|idx j=>(cases t<;>cases f)|_=>cases g
theorem b1U{n:Nat}{p:BB}{r:sK}{e:Ty}{l:List e.sI}(c:U.rt n=kd r)(b:CQ r.t r.x p=⟨.list ka e,l⟩){sv:SV}(h:a3C U.rt sv):sv.sG (AV.kill n p)=sv:=by rcases h with h|⟨m,q,d,τ,rfl,f,k⟩;exact(FW.kill (W:=[n]) (by simp) p).fp.sv (PU h);simp only[SV.sG,AV.kill];split;rename_i g;simp at g;obtain⟨⟨rfl,a⟩,h5⟩:=g;grind[Yv];rfl
theorem b0w{Z:Type}{ops:Array Oper}{D:List Nat}{K:AE->Rs Z}{z:Z}(k:Bi cx (.c D) ops.toList o U K=kd z):∃(W:List Nat)(m:xE),FW W m.f/\(∀n∈W,n∈D)/\(∀sv:SV,a3C U.rt sv->sv.sG m.f=sv)/\(∀n∈W,a0D (m.rt n)=a0D (U.rt n))/\K (Eu W m o.dst U)=kd z/\∀U2,Dt W (o.looksAt ops) U U2->(∀{Z2:Type}(y:AE->Rs Z2),Bi cx (.c D) ops.toList o U2 y=y (Eu W m o.dst U2)):=by rw[DA]at k;cases hl:CT ops o U with|none=>simp_all|some b=>rw[hl]at k;cases b with|false=>(have w:∀U2:AE,U2.tY o.dst .skp=Nf [] ⟨id,λ_=>ke,.one .skp,ke⟩ o.dst U2:=λU2=>by simp only[Nf,Mn];cases o.dst with|none=>rfl|some d=>simp only[AE.tY,AE.set,AE.put];congr 1;grind);refine⟨[],⟨id,λ_=>ke,.one .skp,ke⟩,FW.id,λn l=>(by grind),λsv _=>Mn sv,λn l=>(by grind),by rw[gE rfl,<-w U];omega,λU2 e Z2 y=>?_⟩;rw[DA,CX e.2.2,hl,gE rfl,<-w U2]|true=>simp[FR]at k;cases hpd:U.pd with|some p=>simp_all|none=>(rw[hpd]at k;simp at k;have⟨a,k⟩:=(Ah k).elim id λh=>by grind);simp at a;have⟨a,u,v⟩:=a;let W:=U.vK o++IG cx o (o.dst.getD 0);have⟨r,C,G⟩:=Zw (g:=kc) (cx:=cx) (W:=W) hpd a (λn l=>A7 _ l) (λn l=>A6 _ l);have q:∀U2,Dt W (AC o) U U2->∀{Z:Type}(K:AE->Rs Z),Bg cx kc o U2 K=UA W r o.dst U2 K:=λU2 e Z K=>G U2 e K;rw[q U Dt.refl]at k;cases r with|none=>(cases k)|some m=>obtain⟨A,-,B⟩:=C m rfl;cases hmp:m.pd with|none=>simp_all[UA,Eu]|some x=>(have⟨n,p,d⟩:=x;have⟨hf,⟨N,L,M,H,E⟩,hsc⟩:=B n p d hmp;have i:∀U2:AE,(Eu W m o.dst U2).pd=kd (n,p,d):=λU2=>by simp only[Eu,hmp]);(simp[UA,i]at k;have⟨F,k⟩:=(Ah k).elim id λh=>by grind);refine⟨W,m,A,λn l=>(mA.1 l).elim (KC u) (KC v),λsv h=>by grind[b1U],hsc,k,λU2 e Z2 y=>?_⟩;have j:Dt W (AC o) U U2:=⟨e.1,e.2.1,λt I=>e.2.2 t (Dd I)⟩;rw[DA,CX e.2.2,hl];simp[FR];rw[e.1,hpd,WV j,a,Tz j.2.2,u,v];simp;rw[q U2 j];simp only[UA,i,F,cT]
end
theorem AE.ext'{U U2:AE}(f:∀i,U.sl i=U2.sl i)(k:∀n,U.rt n=U2.rt n)(e:U.pd=U2.pd):U=U2:=by have⟨a,b,c⟩:=U;have⟨h,g,d⟩:=U2;obtain rfl:a=h:=funext f;obtain rfl:b=g:=funext k;simp_all
theorem VC(δ:Dl)(d:Nat)(U:AE)(i:Nat):(δ.app d U).sl i=if i=d then δ.sv else U.sl i:=by simp_all[Dl.app]
theorem Fh{δ:Dl}{d:Nat}{U:AE}{n:Nat}(h:find δ.rs n=ke):(δ.app d U).rt n=U.rt n:=by simp[Dl.app,h]
theorem a5C{δ:Dl}{d:Nat}{U:AE}{n:Nat}(h:find δ.rs n≠ke):(δ.app d U).rt n≠ke:=by grind[Dl.app]
theorem dY{δ:Dl}{d:Nat}{U:AE}(h:∀n,find δ.rs n≠ke->U.rt n=ke){n:Nat}(g:U.rt n≠ke):(δ.app d U).rt n=U.rt n:=Fh (by grind)
theorem GW(W:List Nat)(m:xE)(d:Option Nat)(U:AE)(i:Nat):(Nf W m d U).sl i=if d=kd i then m.sv else(U.sl i).sG m.f:=by simp_all[Nf]
theorem TB{W:List Nat}{m:xE}{d:Option Nat}{U:AE}{n:Nat}(h:n∉W):(Nf W m d U).rt n=U.rt n:=by simp_all[Nf]
theorem nT{a b:List Nat}(h:sQ a b=ka){n:Nat}(g:n∈a):n∉b:=by have:=lA.1 h n g;simp_all
theorem EM(U:AE)(d:Nat)(sv:SV)(i:Nat):(U.put d sv).sl i=if i=d then sv else U.sl i:=by simp_all[AE.put]
section
variable {Z:Type} {cx:Cx} {ops:Array Oper} {k i:Oper} {dk di:Nat} {U:AE} {K:AE->Rs Z} {z:Z}
theorem b7n{l mi:Md}(w:l.quiet)(v:mi.quiet)(h:k.dst=kd dk)(f:i.dst=kd di)(u:k.apart ops i=ka)(c:∀t∈i.looksAt ops,∀n∈(U.sl t).refs,mi.reads n->U.rt n≠ke) (M:Bi cx l ops.toList k U (λm=>Bi cx mi ops.toList i m K)=kd z):Bi cx mi ops.toList i U (λm=>Bi cx l ops.toList k m K)=kd z:=by
 have⟨a1,x,o⟩:=Oper.apart_spec u;have a1:=a1 dk h;have x:di≠dk:=λe=>x dk h (by simp_all);have o:=o di f;have⟨δk,B,y,F,O,G⟩:=a8Q w h M;have⟨δi,A,C,D,N,E⟩:=a8Q v f F;have H:∀n,find δi.rs n≠ke->find δk.rs n=ke:=λn b=>by grind[a5C]
 have a:∀n,find δi.rs n≠ke->U.rt n=ke:=λn b=>by simp_all[Fh]
 have p:a8P mi A (δk.app dk U) U:=by(refine⟨rfl,λt d=>?_⟩;have g:t≠dk:=λe=>a1 (e▸(C t d).1);have P:(δk.app dk U).sl t=U.sl t:=by rw[VC,if_neg g]);grind[dY]
 rw[E U p a];have q:a8P l B U (δi.app di U):=by refine⟨rfl,λt d=>?_⟩;have g:t≠di:=λe=>o (e▸(y t d).1);exact⟨by rw[VC,if_neg g],λn b L=>dY a ((y t d).2 n b L).2⟩
 have I:∀n,find δk.rs n≠ke->find δi.rs n=ke:=λn b=>by grind
 rw[G _ q λn b=>by simp_all[Fh],<-D];congr 1;refine AE.ext' (λj=>?_) (λn=>?_) rfl;simp[VC];grind;cases e1:find δk.rs n with|none=>rw[Fh e1];grind[Fh,Dl.app]|some r=>grind[Fh,Dl.app]
theorem a3D{o:Oper}{d:Nat}{h:Md}(a:h=.p\/h=.u)(f:o.dst=kd d)(k:Bi cx h ops.toList o U K=kd z):∃(sv:SV)(L:List Nat),sv.calm=ka/\(∀t∈L,t∈o.looksAt ops/\(U.sl t).calm=ka)/\K (U.put d sv)=kd z/\∀U2,(∀t∈L,U2.sl t=U.sl t)->∀{Z2:Type}(g:AE->Rs Z2),Bi cx h ops.toList o U2 g=g (U2.put d sv):=by rcases a with rfl|rfl;exact b9h f k;exact a5z f k
theorem b0x{o:Oper}{g:List Nat}{h:Md}(d:h=.a g\/h=.b g\/h=.c g)(e:Bi cx h ops.toList o U K=kd z):∃(W:List Nat)(m:xE),FW W m.f/\(∀n∈W,n∈g)/\K (Eu W m o.dst U)=kd z/\∀U2,Dt W (o.looksAt ops) U U2->∀{Z2:Type}(k:AE->Rs Z2),Bi cx h ops.toList o U2 k=k (Eu W m o.dst U2):=by rcases d with rfl|rfl|rfl;all_goals grind[b9j,b0v,b0w]
theorem b7o{o:List Nat}(h:k.dst=kd dk)(b:k.apart ops i=ka) (A:Bi cx .v ops.toList k U (λf=>Bi cx (.w o) ops.toList i f K)=kd z):Bi cx (.w o) ops.toList i U (λf=>Bi cx .v ops.toList k f K)=kd z:=by have⟨a1,a,p⟩:=Oper.apart_spec b;have a1:=a1 dk h;have a:=a dk h;have⟨D,L,u,l,x,y⟩:=b4l h A;obtain⟨W,m,d,-,q,r⟩:=nS x;have B:Dt W (i.looksAt ops) (U.put dk D) U:=⟨rfl,λ_ _=>rfl,λt c=>by have g:t≠dk:=λe=>a1 (by simp_all);rw[EM,if_neg g]⟩;(have C:∀t∈L,(Nf W m i.dst U).sl t=U.sl t:=λt c=>by have g:¬ i.dst=kd t:=λe=>p t e (l t c).1;rw[GW,if_neg g];exact d.fp.sv (l t c).2);rw[r U B,y (Nf W m i.dst U) rfl C,<-q];congr 1;refine AE.ext' (λj=>?_) (λn=>rfl) rfl;simp[EM,GW];by_cases e1:j=dk;subst e1;rw[if_pos rfl,if_neg a,if_pos rfl];exact(d.fp.sv u).symm;simp_all
theorem b7p{r:List Nat}(h:i.dst=kd di)(c:k.apart ops i=ka) (C:Bi cx (.w r) ops.toList k U (λf=>Bi cx .v ops.toList i f K)=kd z):Bi cx .v ops.toList i U (λf=>Bi cx (.w r) ops.toList k f K)=kd z:=by(have⟨a1,a,b⟩:=Oper.apart_spec c;have b:=b di h;have a:¬ k.dst=kd di:=λe=>a di e h;obtain⟨W,m,l,-,u,x⟩:=nS C;have⟨q,L,y,o,A,B⟩:=b4l h u;have D:∀t∈L,U.sl t=(Nf W m k.dst U).sl t:=λt d=>by have p:=(o t d).2;have g:¬ k.dst=kd t:=λe=>a1 t e (o t d).1;rw[GW,if_neg g]at p|-;exact(l.fp.xH p).symm);have E:Dt W (k.looksAt ops) U (U.put di q):=⟨rfl,λ_ _=>rfl,λt d=>by have g:t≠di:=λe=>b (by simp_all);rw[EM,if_neg g]⟩;rw[B U rfl D,x (U.put di q) E,<-A];congr 1;refine AE.ext' (λj=>?_) (λn=>rfl) rfl;simp[EM,GW];by_cases e2:j=di;subst e2;rw[if_neg a,if_pos rfl,if_pos rfl];exact l.fp.sv y;simp_all
theorem Gp(W:List Nat)(m:xE)(d:Option Nat)(U:AE)(i:Nat):(Eu W m d U).sl i=if d=kd i then m.sv else(U.sl i).sG m.f:=GW W m d U i
theorem b0y{q:List Nat}{f:Md}(C:f=.p\/f=.u)(h:k.dst=kd dk)(c:k.apart ops i=ka) (D:Bi cx f ops.toList k U (λa=>Bi cx (.w q) ops.toList i a K)=kd z):Bi cx (.w q) ops.toList i U (λa=>Bi cx f ops.toList k a K)=kd z:=by have⟨a1,b,r⟩:=Oper.apart_spec c;have a1:=a1 dk h;have b:=b dk h;have⟨G,L,y,o,A,B⟩:=a3D C h D;obtain⟨W,m,l,-,v,x⟩:=nS A;have E:Dt W (i.looksAt ops) (U.put dk G) U:=⟨rfl,λ_ _=>rfl,λt d=>by have g:t≠dk:=λe=>a1 (by simp_all);rw[EM,if_neg g]⟩;(have F:∀t∈L,(Nf W m i.dst U).sl t=U.sl t:=λt d=>by have g:¬ i.dst=kd t:=λe=>r t e (o t d).1;rw[GW,if_neg g];exact l.fp.sv (o t d).2);rw[x U E,B (Nf W m i.dst U) F,<-v];congr 1;refine AE.ext' (λj=>?_) (λn=>rfl) rfl;simp[EM,GW];by_cases e1:j=dk;subst e1;rw[if_pos rfl,if_neg b,if_pos rfl];exact(l.fp.sv y).symm;simp_all
theorem b0z{v:List Nat}{mi:Md}(D:mi=.p\/mi=.u)(h:i.dst=kd di)(c:k.apart ops i=ka) (E:Bi cx (.w v) ops.toList k U (λf=>Bi cx mi ops.toList i f K)=kd z):Bi cx mi ops.toList i U (λf=>Bi cx (.w v) ops.toList k f K)=kd z:=by(have⟨a1,a,b⟩:=Oper.apart_spec c;have b:=b di h;have a:¬ k.dst=kd di:=λe=>a di e h;obtain⟨W,m,l,-,x,y⟩:=nS E;have⟨r,L,A,o,B,C⟩:=a3D D h x;have F:∀t∈L,U.sl t=(Nf W m k.dst U).sl t:=λt d=>by have q:=(o t d).2;have g:¬ k.dst=kd t:=λe=>a1 t e (o t d).1;rw[GW,if_neg g]at q|-;exact(l.fp.xH q).symm);have G:Dt W (k.looksAt ops) U (U.put di r):=⟨rfl,λ_ _=>rfl,λt d=>by have g:t≠di:=λe=>b (by simp_all);rw[EM,if_neg g]⟩;rw[C U F,y (U.put di r) G,<-B];congr 1;refine AE.ext' (λj=>?_) (λn=>rfl) rfl;simp[EM,GW];by_cases e2:j=di;subst e2;rw[if_neg a,if_pos rfl,if_pos rfl];exact l.fp.sv A;simp_all
theorem a3E{r:List Nat}{f mi:Md}(F:f=.p\/f=.u)(E:mi=.a r\/mi=.b r\/mi=.c r)(h:k.dst=kd dk)(o:k.apart ops i=ka) (G:Bi cx f ops.toList k U (λd=>Bi cx mi ops.toList i d K)=kd z):Bi cx mi ops.toList i U (λd=>Bi cx f ops.toList k d K)=kd z:=by have⟨a1,l,x⟩:=Oper.apart_spec o;have a1:=a1 dk h;have l:=l dk h;have⟨M,L,B,w,C,D⟩:=a3D F h G;obtain⟨W,m,v,-,y,A⟩:=b0x E C;have H:Dt W (i.looksAt ops) (U.put dk M) U:=⟨rfl,λ_ _=>rfl,λt q=>by have g:t≠dk:=λe=>a1 (by simp_all);rw[EM,if_neg g]⟩;(have I:∀t∈L,(Eu W m i.dst U).sl t=U.sl t:=λt q=>by have g:¬ i.dst=kd t:=λe=>x t e (w t q).1;rw[Gp,if_neg g];exact v.fp.sv (w t q).2);rw[A U H,D (Eu W m i.dst U) I,<-y];congr 1;refine AE.ext' (λj=>?_) (λn=>rfl) rfl;simp[EM,Gp];by_cases e1:j=dk;subst e1;rw[if_pos rfl,if_neg l,if_pos rfl];exact(v.fp.sv B).symm;simp_all
theorem a3F{v:List Nat}{f mi:Md}(H:mi=.p\/mi=.u)(G:f=.a v\/f=.b v\/f=.c v)(h:i.dst=kd di)(q:k.apart ops i=ka) (I:Bi cx f ops.toList k U (λd=>Bi cx mi ops.toList i d K)=kd z):Bi cx mi ops.toList i U (λd=>Bi cx f ops.toList k d K)=kd z:=by(have⟨a1,l,o⟩:=Oper.apart_spec q;have o:=o di h;have l:¬ k.dst=kd di:=λe=>l di e h;obtain⟨W,m,w,-,B,C⟩:=b0x G I;have⟨A,L,D,x,E,F⟩:=a3D H h B;have M:∀t∈L,U.sl t=(Eu W m k.dst U).sl t:=λt r=>by have y:=(x t r).2;have g:¬ k.dst=kd t:=λe=>a1 t e (x t r).1;rw[Gp,if_neg g]at y|-;exact(w.fp.xH y).symm);have N:Dt W (k.looksAt ops) U (U.put di A):=⟨rfl,λ_ _=>rfl,λt r=>by have g:t≠di:=λe=>o (by simp_all);rw[EM,if_neg g]⟩;rw[F U M,C (U.put di A) N,<-E];congr 1;refine AE.ext' (λj=>?_) (λn=>rfl) rfl;simp[EM,Gp];by_cases e2:j=di;subst e2;rw[if_neg l,if_pos rfl,if_pos rfl];exact w.fp.sv D;simp_all
theorem b7q{ns q:List Nat}(F:sQ ns q=ka)(g:k.dst=kd dk)(l:k.apart ops i=ka) (G:Bi cx (.r ns) ops.toList k U (λb=>Bi cx (.w q) ops.toList i b K)=kd z):Bi cx (.w q) ops.toList i U (λb=>Bi cx (.r ns) ops.toList k b K)=kd z:=by(have⟨a1,c,x⟩:=Oper.apart_spec l;have a1:=a1 dk g;have c:=c dk g;have⟨δ,L,d,C,M,D,E⟩:=b4n g G;have⟨W,m,u,B,y,A⟩:=nS C;have p:∀n∈ns,n∉W:=λn h v=>nT F h (B n v);have o:∀n∈W,find δ.rs n=ke:=λn h=>by grind);have H:Dt W (i.looksAt ops) (δ.app dk U) U:=⟨rfl,λn h=>(Fh (o n h)).symm,λt a=>by have f:t≠dk:=λe=>a1 (by simp_all);rw[VC,if_neg f]⟩;have I:dQ L U (Nf W m i.dst U):=⟨rfl,λt a=>by have f:¬ i.dst=kd t:=λe=>x t e (d t a).1;refine⟨?_,λn h=>TB (p n ((d t a).2.2 n h).2)⟩;rw[GW,if_neg f];exact u.sv λn h=>p n ((d t a).2.2 n h).2⟩;rw[A U H,E _ I λn h=>by grind[TB],<-y];congr 1;refine AE.ext' (λj=>?_) (λn=>?_) rfl;simp[VC,GW];by_cases e1:j=dk;subst e1;rw[if_pos rfl,if_neg c,if_pos rfl];exact(u.sv λn h=>p n (D n h)).symm;simp_all;by_cases v:n∈W;simp_all[Fh,Nf];simp_all[TB,Dl.app]
theorem b7r{ns v:List Nat}(G:sQ ns v=ka)(f:i.dst=kd di)(p:k.apart ops i=ka) (H:Bi cx (.w v) ops.toList k U (λc=>Bi cx (.r ns) ops.toList i c K)=kd z):Bi cx (.r ns) ops.toList i U (λc=>Bi cx (.w v) ops.toList k c K)=kd z:=by(have⟨a1,d,l⟩:=Oper.apart_spec p;have l:=l di f;have d:¬ k.dst=kd di:=λe=>d di e f;have⟨W,m,x,C,A,B⟩:=nS H;have⟨δ,L,o,D,O,E,F⟩:=b4n f A;have I:∀n∈ns,n∉W:=λn g y=>nT G g (C n y);have q:∀n∈W,find δ.rs n=ke:=λn g=>by grind);have M:dQ L (Nf W m k.dst U) U:=⟨rfl,λt b=>by have h:¬ k.dst=kd t:=λe=>a1 t e (o t b).1;have a:=(o t b).2.1;have u:=(o t b).2.2;rw[GW,if_neg h]at a u;refine⟨by rw[GW,if_neg h];exact(x.xH a).symm,λn g=>?_⟩;rw[GW,if_neg h]at g;grind[TB]⟩;have N:Dt W (k.looksAt ops) U (δ.app di U):=⟨rfl,λn g=>Fh (q n g),λt b=>by have h:t≠di:=λe=>l (by simp_all);rw[VC,if_neg h]⟩;rw[F U M λn g=>by grind[TB],B _ N,<-D];congr 1;refine AE.ext' (λj=>?_) (λn=>?_) rfl;simp[VC,GW];by_cases e1:j=di;subst e1;rw[if_neg d,if_pos rfl,if_pos rfl];exact x.sv λn g=>I n (E n g);simp_all;by_cases y:n∈W;simp_all[Fh,Nf];simp_all[TB,Dl.app]
theorem Zx{W:List Nat}{m:xE}{d:Option Nat}{U:AE}(h:∀n∈W,nO (m.rt n)=nO (U.rt n))(n:Nat):nO ((Eu W m d U).rt n)=nO (U.rt n):=by show nO (bif W.contains n then m.rt n else U.rt n)=_;grind
theorem a5D{sv:SV}(h:sv.still=ka):sv.alive=ka:=by cases sv with|one v=>(cases v<;>first|rfl|cases h)|cmp c g=>exact Yt h
theorem b7s{p:List Nat}(h:k.dst=kd dk)(l:k.apart ops i=ka) (B:Bi cx .s ops.toList k U (λc=>Bi cx (.b p) ops.toList i c K)=kd z):Bi cx (.b p) ops.toList i U (λc=>Bi cx .s ops.toList k c K)=kd z:=by have⟨a1,o,q⟩:=Oper.apart_spec l;have a1:=a1 dk h;have o:=o dk h;have⟨E,L,G,x,y,A⟩:=b4p h B;obtain⟨W,m,-,-,F,w,v,r,u⟩:=b0v y;have C:Dt W (i.looksAt ops) (U.put dk E) U:=⟨rfl,λ_ _=>rfl,λt a=>by have f:t≠dk:=λe=>a1 (by simp_all);rw[EM,if_neg f]⟩;(have D:∀t∈L,(Eu W m i.dst U).sl t=U.sl t:=λt a=>by have f:¬ i.dst=kd t:=λe=>q t e (x t a).1;simp_all[Gp]);rw[u U C,A (Eu W m i.dst U) (λt a=>⟨D t a,λn _=>Zx (d:=i.dst) w n⟩) (λg=>v.trans g),<-r];congr 1;refine AE.ext' (λj=>?_) (λn=>rfl) rfl;simp[EM,Gp];grind
theorem b7t{v:List Nat}(h:i.dst=kd di)(o:k.apart ops i=ka) (E:Bi cx (.b v) ops.toList k U (λc=>Bi cx .s ops.toList i c K)=kd z):Bi cx .s ops.toList i U (λc=>Bi cx (.b v) ops.toList k c K)=kd z:=by(have⟨a1,p,l⟩:=Oper.apart_spec o;have l:=l di h;have p:¬ k.dst=kd di:=λe=>p di e h;obtain⟨W,m,w,-,H,B,A,x,y⟩:=b0v E;have⟨u,L,I,q,C,D⟩:=b4p h x;have F:∀t∈L,U.sl t=(Eu W m k.dst U).sl t:=λt a=>by have r:=(q t a).2.1;have f:¬ k.dst=kd t:=λe=>a1 t e (q t a).1;rw[Gp,if_neg f]at r|-;exact(w.xH (a5D r)).symm);have G:Dt W (k.looksAt ops) U (U.put di u):=⟨rfl,λ_ _=>rfl,λt a=>by have f:t≠di:=λe=>l (by simp_all);rw[EM,if_neg f]⟩;rw[D U (λt a=>⟨F t a,λn _=>(Zx (d:=k.dst) B n).symm⟩) (λg=>A.symm.trans g),y (U.put di u) G,<-C];congr 1;refine AE.ext' (λj=>?_) (λn=>rfl) rfl;simp[EM,Gp];grind
theorem a8V{rt g:Nat->Option sK}(h:∀n,nO (g n)=nO (rt n)){sv:SV}(f:a3C g sv):a3C rt sv:=by rcases f with f|⟨n,p,r,τ,rfl,k,b⟩;exact .inl f;have:=h n;rw[k]at this;cases e:rt n with|none=>(rw[e]at this;cases this)|some a=>rw[e]at this;simp[nO]at this;exact .inr ⟨n,p,a,τ,rfl,e,by simp_all⟩
theorem a8W{rt:Nat->Option sK}{sv:SV}(h:a3C rt sv):sv.alive=ka:=by rcases h with h|⟨n,p,r,τ,rfl,-⟩;exact Yt h;rfl
theorem nU{W:List Nat}{m:xE}{d:Option Nat}{U:AE}(h:∀n∈W,a0D (m.rt n)=a0D (U.rt n))(n:Nat):a0D ((Eu W m d U).rt n)=a0D (U.rt n):=by show a0D (bif W.contains n then m.rt n else U.rt n)=_;grind
theorem b7u{q:List Nat}(h:k.dst=kd dk)(l:k.apart ops i=ka) (B:Bi cx .t ops.toList k U (λa=>Bi cx (.c q) ops.toList i a K)=kd z):Bi cx (.c q) ops.toList i U (λa=>Bi cx .t ops.toList k a K)=kd z:=by have⟨a1,b,r⟩:=Oper.apart_spec l;have a1:=a1 dk h;have b:=b dk h;have⟨E,L,x,p,y,A⟩:=b4q h B;obtain⟨W,m,-,-,o,w,u,v⟩:=b0w y;have C:Dt W (i.looksAt ops) (U.put dk E) U:=⟨rfl,λ_ _=>rfl,λt f=>by have g:t≠dk:=λe=>a1 (by simp_all);rw[EM,if_neg g]⟩;(have D:∀t∈L,(Eu W m i.dst U).sl t=U.sl t:=λt f=>by have g:¬ i.dst=kd t:=λe=>r t e (p t f).1;rw[Gp,if_neg g];exact o _ (p t f).2);rw[v U C,A (Eu W m i.dst U) (λt f=>⟨D t f,λn _=>nU (d:=i.dst) w n⟩),<-u];congr 1;refine AE.ext' (λj=>?_) (λn=>rfl) rfl;simp[EM,Gp];by_cases e1:j=dk;subst e1;rw[if_pos rfl,if_neg b,if_pos rfl];exact(o _ x).symm;simp_all
theorem b7v{w:List Nat}(h:i.dst=kd di)(l:k.apart ops i=ka) (D:Bi cx (.c w) ops.toList k U (λa=>Bi cx .t ops.toList i a K)=kd z):Bi cx .t ops.toList i U (λa=>Bi cx (.c w) ops.toList k a K)=kd z:=by(have⟨a1,o,b⟩:=Oper.apart_spec l;have b:=b di h;have o:¬ k.dst=kd di:=λe=>o di e h;obtain⟨W,m,x,-,G,p,y,A⟩:=b0w D;have⟨v,L,q,r,B,C⟩:=b4q h y;have q:=a8V (λn=>a3B (nU (d:=k.dst) p n)) q;have E:∀t∈L,U.sl t=(Eu W m k.dst U).sl t:=λt f=>by have u:=a8W (r t f).2;have g:¬ k.dst=kd t:=λe=>a1 t e (r t f).1;rw[Gp,if_neg g]at u|-;exact(x.xH u).symm);have F:Dt W (k.looksAt ops) U (U.put di v):=⟨rfl,λ_ _=>rfl,λt f=>by have g:t≠di:=λe=>b (by simp_all);rw[EM,if_neg g]⟩;rw[C U (λt f=>⟨E t f,λn _=>(nU (d:=k.dst) p n).symm⟩),A (U.put di v) F,<-B];congr 1;refine AE.ext' (λj=>?_) (λn=>rfl) rfl;simp[EM,Gp];grind
theorem gH{o:Oper}{U2:AE}(h:U2.pd=U.pd)(g:U2.rt=U.rt)(f:∀t∈AC o,U2.sl t=U.sl t):U2.wI cx o=U.wI cx o:=by unfold AE.wI;split;all_goals simp_all[AC,Op.operands]
theorem lQ(U:AE)(d:Option Nat)(v:AV)(j:Nat):(U.tY d v).sl j=if d=kd j then .one v else U.sl j:=by cases d with|none=>rfl|some d=>simp[AE.tY,AE.set,EM];grind
theorem WW(U:AE)(d:Option Nat)(v:AV):(U.tY d v).rt=U.rt/\(U.tY d v).pd=U.pd:=by cases d<;>exact⟨rfl,rfl⟩
theorem a5E{d:Option Nat}{g:Nat}(h:¬ d=kd g)(sv:SV)(v:AV):(U.tY d v).put g sv=(U.put g sv).tY d v:=by refine AE.ext' (λj=>?_) (λn=>by rw[(WW _ _ _).1];exact congrFun (WW U d v).1 n) (by rw[(WW _ _ _).2];exact(WW U d v).2);rw[lQ,EM,EM,lQ];grind
theorem b7w(f:i.dst=kd di)(p:k.apart ops i=ka) (d:Bi cx .e ops.toList k U (λl=>Bi cx .u ops.toList i l K)=kd z):Bi cx .u ops.toList i U (λl=>Bi cx .e ops.toList k l K)=kd z:=by(have⟨a1,q,m⟩:=Oper.apart_spec p;have m:=m di f;have q:¬ k.dst=kd di:=λe=>q di e f;have g:∀a:SV,∀t∈k.looksAt ops,(U.put di a).sl t=U.sl t:=λa t j=>by have c:t≠di:=λe=>m (by simp_all);rw[EM,if_neg c]);rw[DA]at d;cases hl:CT ops k U with|none=>simp_all|some b=>rw[hl]at d;cases b with|false=>(obtain⟨a,L,-,r,v,o⟩:=a5z f d;rw[o U (λt j=>by have c:¬ k.dst=kd t:=λe=>a1 t e (r t j).1;rw[lQ,if_neg c]),DA,CX (g a),hl];simp_all[a5E])|true=>(simp[FR]at d;have⟨w,d⟩:=(Ah d).elim id λh=>by grind);have⟨y,x⟩:=B3.1 w;obtain⟨a,L,-,r,v,o⟩:=a5z f d;rw[o U (λt j=>rfl),DA,CX (g a),hl];simp[FR];rw[gH (U:=U) (U2:=U.put di a) rfl rfl λt j=>g a t (Dd j),y,x];exact v
theorem b7x(a:k.dst=kd dk)(o:k.apart ops i=ka) (w:Bi cx .u ops.toList k U (λl=>Bi cx .e ops.toList i l K)=kd z):Bi cx .e ops.toList i U (λl=>Bi cx .u ops.toList k l K)=kd z:=by(have⟨a1,m,q⟩:=Oper.apart_spec o;have a1:=a1 dk a;have m:=m dk a;obtain⟨j,L,-,r,f,p⟩:=a5z a w;have g:∀t∈i.looksAt ops,U.sl t=(U.put dk j).sl t:=λt d=>by have c:t≠dk:=λe=>a1 (by simp_all);rw[EM,if_neg c]);rw[DA]at f;rw[DA,CX (U:=U.put dk j) g];cases hl:CT ops i (U.put dk j)with|none=>simp_all|some b=>rw[hl]at f;cases b with|false=>(simp at f|-;rw[p _ (λt d=>by have c:¬ i.dst=kd t:=λe=>q t e (r t d).1;rw[lQ,if_neg c]),a5E m];omega)|true=>(simp[FR]at f|-;have⟨v,f⟩:=(Ah f).elim id λh=>by grind);rw[gH (U:=U.put dk j) (U2:=U) rfl rfl λt d=>g t (Dd d),v];simp;rw[p { U with pd:=ke } λt d=>rfl];exact f
theorem c7k{A mi:Md}(d:a3c A mi=ka)(g:A.vL=ka\/k.dst.isSome=ka)(h:mi.vL=ka\/i.dst.isSome=ka)(f:k.apart ops i=ka)(y:∀t∈i.looksAt ops,∀n∈(U.sl t).refs,mi.reads n->U.rt n≠ke) (l:Bi cx A ops.toList k U (λC=>Bi cx mi ops.toList i C K)=kd z):Bi cx mi ops.toList i U (λC=>Bi cx A ops.toList k C K)=kd z:=by(have B:A.quiet->mi.quiet->Bi cx mi ops.toList i U (λC=>Bi cx A ops.toList k C K)=kd z:=λD E=>by have⟨o,g⟩:=A3.1 (g.resolve_left (by cases A<;>first|(cases D;done)|simp[Md.vL]));have⟨m,h⟩:=A3.1 (h.resolve_left (by cases mi<;>first|(cases E;done)|simp[Md.vL]));exact b7n D E g h f y l);cases A with|x=>(cases mi<;>cases d)|p=>(cases mi with|x=>(cases d)|c j=>(cases d)|e=>(cases d)|b j=>(cases d)|a j=>(have⟨o,g⟩:=A3.1 (g.resolve_left (by simp[Md.vL]));exact a3E (.inl rfl) (.inl rfl) g f l)|w j=>(have⟨o,g⟩:=A3.1 (g.resolve_left (by simp[Md.vL]));exact b0y (.inl rfl) g f l)|_=>exact B trivial trivial)|s=>(cases mi with|x=>(cases d)|c j=>(cases d)|e=>(cases d)|a j=>(cases d)|w j=>(cases d)|b j=>(have⟨o,g⟩:=A3.1 (g.resolve_left (by simp[Md.vL]));exact b7s g f l)|_=>exact B trivial trivial)|b j=>(cases mi with|s=>(have⟨m,h⟩:=A3.1 (h.resolve_left (by simp[Md.vL]));exact b7t h f l)|u=>(have⟨m,h⟩:=A3.1 (h.resolve_left (by simp[Md.vL]));exact a3F (.inr rfl) (.inr (.inl rfl)) h f l)|_=>cases d)|a j=>(cases mi with|p=>(have⟨m,h⟩:=A3.1 (h.resolve_left (by simp[Md.vL]));exact a3F (.inl rfl) (.inl rfl) h f l)|_=>cases d)|u=>(cases mi with|x=>(cases d)|a j=>(cases d)|b j=>(have⟨o,g⟩:=A3.1 (g.resolve_left (by simp[Md.vL]));exact a3E (.inr rfl) (.inr (.inl rfl)) g f l)|c j=>(have⟨o,g⟩:=A3.1 (g.resolve_left (by simp[Md.vL]));exact a3E (.inr rfl) (.inr (.inr rfl)) g f l)|w j=>(have⟨o,g⟩:=A3.1 (g.resolve_left (by simp[Md.vL]));exact b0y (.inr rfl) g f l)|e=>(have⟨o,g⟩:=A3.1 (g.resolve_left (by simp[Md.vL]));exact b7x g f l)|_=>exact B trivial trivial)|t=>(cases mi with|x=>(cases d)|a j=>(cases d)|b j=>(cases d)|w j=>(cases d)|e=>(cases d)|c j=>(have⟨o,g⟩:=A3.1 (g.resolve_left (by simp[Md.vL]));exact b7u g f l)|_=>exact B trivial trivial)|c j=>(cases mi with|u=>(have⟨m,h⟩:=A3.1 (h.resolve_left (by simp[Md.vL]));exact a3F (.inr rfl) (.inr (.inr rfl)) h f l)|t=>(have⟨m,h⟩:=A3.1 (h.resolve_left (by simp[Md.vL]));exact b7v h f l)|_=>cases d)|e=>(cases mi with|u=>(have⟨m,h⟩:=A3.1 (h.resolve_left (by simp[Md.vL]));exact b7w h f l)|_=>cases d)|v=>(cases mi with|x=>(cases d)|c j=>(cases d)|e=>(cases d)|b j=>(cases d)|a j=>(cases d)|w j=>(have⟨o,g⟩:=A3.1 (g.resolve_left (by simp[Md.vL]));exact b7o g f l)|_=>exact B trivial trivial)|q=>(cases mi with|x=>(cases d)|c j=>(cases d)|e=>(cases d)|b j=>(cases d)|a j=>(cases d)|w j=>(cases d)|_=>exact B trivial trivial)|r F=>(cases mi with|x=>(cases d)|c j=>(cases d)|e=>(cases d)|b j=>(cases d)|a j=>(cases d)|w j=>(have⟨o,g⟩:=A3.1 (g.resolve_left (by simp[Md.vL]));exact b7q d g f l)|_=>exact B trivial trivial)|w j=>cases mi with|p=>(have⟨m,h⟩:=A3.1 (h.resolve_left (by simp[Md.vL]));exact b0z (.inl rfl) h f l)|v=>(have⟨m,h⟩:=A3.1 (h.resolve_left (by simp[Md.vL]));exact b7p h f l)|u=>(have⟨m,h⟩:=A3.1 (h.resolve_left (by simp[Md.vL]));exact b0z (.inr rfl) h f l)|r F=>(have⟨m,h⟩:=A3.1 (h.resolve_left (by simp[Md.vL]));exact b7r d h f l)|_=>cases d
end
theorem gI(g:Nat->Nat)(k:Nat):∀(l:List Edge)(s:Nat),(l.foldl (λs e=>if Region.binds .any e then s ||| 2^e.on ||| g e.on else s) s).testBit k=ka->s.testBit k=ka\/∃e∈l,Region.binds .any e=ka/\(e.on=k\/(g e.on).testBit k=ka)|[],s,h=>.inl h|e::l,s,h=>by rcases gI g k l _ h with h|⟨a,f,b⟩;all_goals grind
def b4r(ops:List Oper)(b:List Nat):Prop:=∀j k,j<b.length->(b.getD j 0).testBit k=ka->∃e∈(ops.getD j default).after.toList,Region.binds .any e=ka/\(e.on=k\/(b.getD e.on 0).testBit k=ka)
theorem a1Z(all:List Oper):∀(r:List Oper)(acc:List Nat),(∀j,r[j]?=all[acc.length+j]?)->b4r all acc->b4r all (b1o r acc)/\(b1o r acc).length=acc.length+r.length
 | [],acc,_,h=>⟨h,by rfl⟩
 |o::r,acc,f,h=>by
  simp only[b1o];have l:all.getD acc.length default=o:=by
   have:=f 0
   grind
  have ⟨a,b⟩:=a1Z all r (acc++[o.after.toList.foldl (λs e=>if Region.binds .any e then s ||| 2^e.on ||| acc.getD e.on 0 else s) 0]) (λj=>by
    have:=f (j+1)
    grind) (λj k p hb=>by
   have u:∀m,(acc.getD m 0).testBit k=ka->((acc++[o.after.toList.foldl (λs e=>if Region.binds .any e then s ||| 2^e.on ||| acc.getD e.on 0 else s) 0]).getD m 0).testBit k=ka:=λm q=>by
    grind
   by_cases hlt:j<acc.length;rw[lD,List.getElem?_append_left hlt,<-lD]at hb;have⟨e,i,c,d⟩:=h j k hlt hb;grind
   ·have g:j=acc.length:=by grind
    subst g;rw[lD,D6 (C5 _)]at hb;simp only[Nat.sub_self,C8,E1]at hb;rcases gI (λm=>acc.getD m 0) k _ _ hb with h'|⟨e,i,c,d⟩;all_goals grind)
  grind
section
variable {P:Program} {B:Base} {N:Nat} {cx:Cx} {ro:Option Nat} {D:List Deferred}
theorem c2i{Z:Type}{ops:Array Oper}{mi:Md}{i:Oper}{z:Z}(l2:List (Md×Oper)):∀(l1:List (Md×Oper)) {U:AE} {K:AE->Rs Z},(∀p∈l1,a3c p.1 mi=ka/\p.2.apart ops i=ka/\(p.1.vL=ka\/p.2.dst.isSome=ka)/\(mi.vL=ka\/i.dst.isSome=ka))->(∀t∈i.looksAt ops,∀n∈(U.sl t).refs,mi.reads n->U.rt n≠ke)->RV cx ops.toList (l1++(mi,i)::l2) U K=kd z->Bi cx mi ops.toList i U (λf=>RV cx ops.toList (l1++l2) f K)=kd z|[],U,K,_,_,g=>g|(I,k)::l1,U,K,hall,hroots,g=>by(have⟨D,M,o,R⟩:=hall (I,k) (by simp);have g:Bi cx I ops.toList k U (λf=>RV cx ops.toList (l1++(mi,i)::l2) f K)=kd z:=g;have G:∀f,(∀t∈i.looksAt ops,∀n∈(f.sl t).refs,mi.reads n->f.rt n≠ke)->RV cx ops.toList (l1++(mi,i)::l2) f K=kd z->Bi cx mi ops.toList i f (λO=>RV cx ops.toList (l1++l2) O K)=kd z:=λf hr h=>c2i l2 l1 (λp hp=>hall p (by grind)) hr h);refine c7k D o R M hroots ?_;(obtain⟨a1,-,-⟩:=Oper.apart_spec M;have H:I.quiet->Bi cx I ops.toList k U (λf=>Bi cx mi ops.toList i f λO=>RV cx ops.toList (l1++l2) O K)=kd z:=λT=>by have⟨X,o⟩:=A3.1 (o.resolve_left (by cases I<;>first|(cases T;done)|simp[Md.vL]));have a1:=a1 X o;have⟨δ,L,F,B,C,Y⟩:=a8Q T o g;rw[Y U ⟨rfl,λ_ _=>⟨rfl,λ_ _ _=>rfl⟩⟩ C];refine G _ (λt A n j l=>?_) B;rw[VC,if_neg (λe=>a1 (by simp_all))]at j;grind[dY]);cases I with|v=>exact H trivial|p=>exact H trivial|a S=>(have⟨W,m,F,N,B,C⟩:=b9j g;rw[C U Dt.refl];refine G _ (λt A n j l=>?_) B;cases mi with|p=>(cases l)|_=>cases D)|b S=>(obtain⟨W,m,F,N,-,P,-,B,C⟩:=b0v g;rw[C U Dt.refl];refine G _ (λt A n j l=>?_) B;cases mi with|s=>((have y:¬ k.dst=kd t:=λe=>a1 t e A;rw[Gp,if_neg y]at j);have:=hroots t A n (F.refs j) trivial;intro e;have E:=Zx (d:=k.dst) P n;rw[e]at E;cases e3:U.rt n with|none=>simp_all|some r=>rw[e3]at E;cases E)|u=>(cases l)|_=>cases D)|c S=>(obtain⟨W,m,F,N,-,P,B,C⟩:=b0w g;rw[C U Dt.refl];refine G _ (λt A n j l=>?_) B;cases mi with|t=>((have y:¬ k.dst=kd t:=λe=>a1 t e A;rw[Gp,if_neg y]at j);have:=hroots t A n (F.refs j) trivial;intro e;have E:=Zx (d:=k.dst) (λn j=>a3B (P n j)) n;rw[e]at E;cases e3:U.rt n with|none=>simp_all|some r=>rw[e3]at E;cases E)|u=>(cases l)|_=>cases D)|e=>(rw[DA]at g|-;cases hl:CT ops k U with|none=>simp_all|some b=>(rw[hl]at g;have V:∀f:AE,∀t∈i.looksAt ops,∀n∈(f.sl t).refs,mi.reads n->f.rt n≠ke:=λf t A n j l=>by cases mi with|u=>(cases l)|_=>cases D);cases b with|false=>exact G _ (V _) g|true=>(simp only[FR]at g|-;have⟨Q,g⟩:=(Ah g).elim id λh=>by grind);rw[Q];exact G _ (V _) g)|u=>exact H trivial|t=>exact H trivial|s=>exact H trivial|q=>exact H trivial|r ns=>exact H trivial|w S=>(have⟨W,m,F,N,B,C⟩:=nS g;rw[C U Dt.refl];refine G _ (λt A n j l=>?_) B;have y:¬ k.dst=kd t:=λe=>a1 t e A;rw[GW,if_neg y]at j;have j:=F.refs j;cases mi with|v=>(cases l)|p=>(cases l)|u=>(cases l)|r ns=>(have h0:n∉W:=λhw=>nT D l (N n hw);grind[TB])|_=>cases D)|x=>cases mi<;>cases D
def FT(n:Nat)(listed:Array Bool):List Nat:=(C9 n).filter λi=>!listed.getD i ka
def nV(ops:Array Oper)(ms:List Md)(i:Nat):Md×Oper:=(ms.getD i .x,ops.getD i default)
structure xP (ops:Array Oper) (ms:List Md) (b:List Nat):Prop where
 len:ms.length=ops.size
 good:b4r ops.toList b
 lb:b.length=ops.size
 back:∀j e,j<ops.size->e∈(ops.getD j default).after.toList->Region.binds .any e=ka->e.on<j
 pair:∀i j,i<j->j<ops.size->(b.getD j 0).testBit i=ka\/(a3c (ms.getD i .x) (ms.getD j .x)=ka/\(ops.getD i default).apart ops (ops.getD j default)=ka/\((ms.getD i .x).vL=ka\/(ops.getD i default).dst.isSome=ka)/\((ms.getD j .x).vL=ka\/(ops.getD j default).dst.isSome=ka))
theorem a5F{ops:Array Oper}{f:List Md}(h:a3d ops f=ka):xP ops f (b1o ops.toList []):=by simp only[a3d,HC,dT,lA,D4]at h;have⟨b,l⟩:=h;have⟨a,d⟩:=a1Z ops.toList ops.toList [] (λj=>by simp) (λj k g=>by simp);refine⟨b,a,by simp_all,λj e g m hb=>?_,λi j c g=>?_⟩;all_goals grind
theorem nW{n:Nat}{h:Array Bool}{i:Nat}(e:h.size=n)(hi:i∈FT n h):∃l1 l2,FT n h=l1++i::l2/\FT n (h.setIfInBounds i ka)=l1++l2/\∀k∈l1,k<i/\k∈FT n h:=by
 have f:i<n:=by
  simp_all[FT]
 have b:h.getD i ka=kc:=by
  simp_all[FT]
 have g:C9 n=C9 i++i::(D7 (i+1) (n-i-1)):=by
  rw[C6,C6,show n=i+(1+(n-i-1))from by omega,<-E8,<-E8]
  simp
 have a:∀j,j≠i->(h.setIfInBounds i ka).getD j ka=h.getD j ka:=λj c=>by
  simp_all[Ne.symm]
 refine⟨(C9 i).filter λi=>!h.getD i ka,(D7 (i+1) (n-i-1)).filter λi=>!h.getD i ka,?_,?_,λk d=>?_⟩;simp_all[FT]
 ·simp only[FT];rw[g,List.filter_append,List.filter_cons,if_neg (by
   simp)]
  congr 1;all_goals grind[F5]
 simp_all[FT]
theorem b4s(h6:uS P cx)(hG:Ym cx.G B){Z:Type}{ops:Array Oper}{ms:List Md}{b:List Nat}(I:xP ops ms b){K:AE->Rs Z}{z:Z}{Q:Exit->Act->World->Prop}(hf:∀o∈ops.toList,PR N ops.toList o=ka)
  (hQ:∀a' w' U' M',sH B U' N (AJ a') w' M'->a'.tmps.size=N->a'.defers=D->K U'=kd z->Q .normal a' w'):
  ∀(fuel:Nat)(f:Array Bool){U:AE}{a:Act}{w:World}{M:Gh},f.size=ops.size->(FT ops.size f).length=fuel->
   (∀j k,j<ops.size->f.getD j ka=ka->(b.getD j 0).testBit k=ka->f.getD k ka=ka)->
   sH B U N (AJ a) w M->a.tmps.size=N->a.defers=D->RV cx ops.toList ((FT ops.size f).map (nV ops ms)) U K=kd z->wpAnyIn (Fr ro) 0 P .any ops Q fuel f a w:=by
 intro fuel;have O:∀f i,i∈Region.ready .any ops f->i∈FT ops.size f/\∀e∈(ops.getD i default).after.toList,Region.binds .any e=ka->f.getD e.on kc=ka:=by
  intro f i u;simp only[Region.ready,E3,D4,HC]at u;refine⟨by simp_all[FT],λe he hb=>?_⟩;have h3:=u.2.2;have d:ops[i]?=kd (ops.getD i default):=by
   simp_all
  rw[d]at h3;simp only[E2,E1]at h3;rw[<-F9]at h3;grind
 have F:∀(f:Array Bool),FT ops.size f=[]->Region.ready .any ops f=[]:=λf h=>by
  refine List.eq_nil_iff_forall_not_mem.2 λi u=>?_
  grind
 induction fuel with
 |zero=>
  intro f U a w M A hl S hr hN hD Y;have h0:=List.eq_nil_of_length_eq_zero hl;rw[h0]at Y;exact⟨F f h0,hQ a w U M hr hN hD Y⟩
 |succ fuel ih=>
  intro f U a w M A hl S hr hN hD Y;refine⟨λk0=>?_,λi u=>?_⟩
  ·
   exfalso;cases hR:FT ops.size f with
   |nil=>simp_all
   |cons i R=>
    have H:i∈FT ops.size f:=by simp_all
    have u:=H;simp only[FT,E3,D4]at u
    have:i∈Region.ready .any ops f:=by
     simp only[Region.ready,E3,D4,HC];refine⟨u.1,u.2,?_⟩;have d:ops[i]?=kd (ops.getD i default):=by
      simp_all
     rw[d];simp only[E2,E1];rw[<-F9];refine lA.2 λe he=>?_
     by_cases hb:Region.binds .any e=ka
     ·have k4:=I.back i e u.1 he hb;have g0:f.getD e.on ka=ka:=by
       cases hv:f.getD e.on ka with
       |true=>rfl
       |false=>
        obtain⟨l1,l2,g1,-,g3⟩:=nW (n:=ops.size) A (i:=e.on) (by grind[FT]);have k1:(FT ops.size f).Pairwise (·<·):=List.Pairwise.filter _ List.pairwise_lt_range;grind[List.pairwise_cons]
      grind
     simp_all
    simp_all
  ·have⟨H,h7⟩:=O f i u;have⟨l1,l2,g1,g2,g3⟩:=nW A H;have h8:i<ops.size:=by grind
   have d:ops[i]?=kd (ops.getD i default):=by
    simp_all
   have X:ops.getD i default∈ops.toList:=by
    simp_all
   have q:=hf _ X;have tr:∀k,f.getD k kc=ka->f.getD k ka=ka:=λk V=>by
    grind
   have g9:∀k,(b.getD i 0).testBit k=ka->f.getD k ka=ka:=λk V=>by
    have⟨e,he,h1,h2⟩:=I.good i k (by grind) V;grind
   rw[g1,WK,List.map_cons]at Y;have L:=c2i (cx:=cx) (mi:=ms.getD i .x) (i:=ops.getD i default) (l2.map (nV ops ms)) (l1.map (nV ops ms)) (λp hp=>by
     obtain⟨k,V,rfl⟩:=C1.1 hp;have⟨h9,k3⟩:=g3 k V;rcases I.pair k i h9 h8 with h|h;grind[FT];exact h) (λt C n y _=>by
     have g7:t<N:=by
      simp only[Oper.looksAt,mA]at C;rcases C with C|C;have⟨x,hx,k5⟩:=C3.1 C
      have:=Bl (Vx q) x hx
      grind[Cw]
      ·cases hg:(ops.getD i default).guard with
       |none=>grind
       |some p=>
        have⟨j,k2⟩:=p;rw[hg]at C;simp at C;have T:Uw ops.toList j=kd t:=by simpa[Uw]using C
        simp only[PR,hg,T,HC,dT]at q;grind
     have A:=hr.slots t g7;revert A y;generalize U.sl t=sv;intro y A;have one:∀(E:AV)(v:Value),AA (Ag w M.ov) M.g U.rt (Bh B w M) E v->n∈E.refs->U.rt n≠ke:=λE v ha y=>by
      cases E with
      |ptr m p=>obtain⟨r,t,b,o,h1,-⟩:=ha;grind[AV.refs]
      |sref m p=>obtain⟨r,e,s,h1,-⟩:=ha;grind[AV.refs]
      |swin m p o l=>obtain⟨r,e,s,_,_,_,h1,-⟩:=ha;grind[AV.refs]
      |_=>cases y
     cases sv with
     |one E=>exact one E _ A y
     |cmp c vs=>
      obtain⟨us,-,h2⟩:=A;simp[SV.refs]at y;have⟨E,h4,y⟩:=y;have⟨k,V⟩:=E6.1 h4;grind) Y
   have g6:=b0n (ro:=ro) (next:=wpAnyIn (Fr ro) 0 P .any ops Q fuel (f.setIfInBounds i ka)) (Q:=Q) h6 hG hr hN q L λv w' U' M' g5 hK=>by
    refine ih (f.setIfInBounds i ka) (by grind) ?_ ?_ g5 (by rw[Vh];omega) (by grind[Tq]) ?_
    grind;intro j k hj g4 h5;have up:∀m,f.getD m ka=ka->(f.setIfInBounds i ka).getD m ka=ka:=λm hm=>by
     by_cases e:m=i;subst e
     simp
     simp at hm|-;grind
    by_cases e:j=i;grind;refine up k (S j k hj ?_ h5);simp at g4|-;grind;grind
   unfold wpOpIn;grind
theorem b4t{Z:Type}{U:AE}{a:Act}{w:World}{M:Gh}(e:uS P cx)(u:Ym cx.G B)(A:P.follows .mixedOrders=ka){ops:Array Oper}{id:Nat}{c:List Md}{K:AE->Rs Z}{z:Z}{Q:Exit->Act->World->Prop} (h:sH B U N (AJ a) w M)(v:a.tmps.size=N)(r:a.defers=D)(y:∀o∈ops.toList,PR N ops.toList o=ka)(m:a3d ops c=ka)(I:RV cx ops.toList (c.zip ops.toList) U K=kd z) (x:∀d w' p M',sH B p N (AJ d) w' M'->d.tmps.size=N->d.defers=D->K p=kd z->Q .normal d w'):(Code.region id ops ka).wpIn (Fr ro) 0 P Q a w:=by
 refine wpIn_region_any A ?_;have f:=a5F m;have g:sH B U N (AJ a) { w with drawn:=w.drawn+1 } M:=h.ext (λ_ _=>rfl) (C5 _);have l:∀i,i<ops.size->(D2 ops.size kc).getD i ka=kc:=λi q=>by simp_all
 have b:FT ops.size (D2 ops.size kc)=C9 ops.size:=by simp_all[FT]
 refine b4s e u f y x ops.size _ (by simp) (by simp_all) (λj k F H _=>by simp_all) g v r ?_;rw[b];rw[show(C9 ops.size).map (nV ops c)=c.zip ops.toList from ?_];omega;refine F6 λi=>?_
 rw[F7];by_cases q:i<ops.size;have C:i<c.length:=by rw[f.len];omega
 have E:i<ops.toList.length:=by omega
 rw[List.getElem?_range q,lG (by grind)];simp_all[nV];grind
end
def nX:Ex->Exit|.normal=>.normal|.exit i=>.exit i|.ret=>.ret
def b9k{Z:Type}(B:Base)(N:Nat)(D:List Deferred)(K:Ex->AE->Rs Z)(z:Z):Exit->Act->World->Prop:=λe a w=>∃ex U M,e=nX ex/\K ex U=kd z/\sH B U N (AJ a) w M/\a.tmps.size=N/\a.defers=D
def DB(N:Nat):Code->Bool|.region _ ops _=>ops.toList.all (PR N ops.toList)|.seq a b=>DB N a&&DB N b|.cond c a b=>Cw N c&&(DB N a&&DB N b)|.block _ c|.loop c=>DB N c|_=>ka
def rY.fits(N:Nat)(H:rY):Bool:=H.loops.all (λp=>p.2.1.fits N&&p.2.2.all (λq=>q.2.fits N))&&H.cuts.all (λp=>p.2.all (λq=>q.2.fits N))
theorem nY{α:Type}:∀{l:List (Nat×α)} {n:Nat} {x:α},find l n=kd x->∃k,(k,x)∈l|(k,y)::r,n,x,h=>by simp[find]at h;rcases Ah h with⟨-,h⟩|⟨-,h⟩;simp only[sj]at h;exact⟨k,by simp[h]⟩;have⟨f,g⟩:=nY h;exact⟨f,A9 _ g⟩
section
variable {P:Program} {B:Base} {N:Nat} {cx:Cx} {H:rY} {ro:Option Nat} {D:List Deferred}
theorem jH{Q:Exit->Act->World->Prop}{a:Act}{w:World}{c:Code}(I:Nat->Act->World->Prop)(d:Nat)(l:I d a w)
  (round:∀n a w,I n a w->c.wpIn (Fr ro) 0 P (Exit.then (λf w'=>∃m,m<n/\I m f w') Q) a w):(Code.loop c).wpIn (Fr ro) 0 P Q a w:=by
 classical
 have g:∀a w,(∃n,I n a w)->∃n,I n a w/\∀m,I m a w->n<=m:=by
  intro a w ⟨n,q⟩
  induction n using Nat.strongRecOn with
  |_ n r=>
   grind
 let μ:Act->World->Nat:=λa w=>if h:∃n,I n a w then(g a w h).choose else 0
 refine wpIn_loop (λa w=>∃n,I n a w) μ ⟨d,l⟩ λa w i=>?_
 have j:=(g a w i).choose_spec;refine wpIn_mono (round _ a w j.1) λe f w' k=>?_
 cases e with
 |normal=>
  obtain⟨m,p,b⟩:=k;refine⟨⟨m,b⟩,?_⟩;have o:∃n,I n f w':=⟨m,b⟩;grind
 |_=>exact k
theorem Of(h3:uS P cx)(hG:Ym cx.G B)(hm:P.follows .mixedOrders=ka)(hH:H.fits N=ka):∀(c:Code) (p:Nat){Z:Type}{U:AE}{K:Ex->AE->Rs Z}{z:Z}{a:Act}{w:World}{M:Gh}(_:DB N c=ka)
  (_:Ea cx H c p U K=kd z) (_:sH B U N (AJ a) w M) (_:a.tmps.size=N) (_:a.defers=D),c.wpIn (Fr ro) 0 P (b9k B N D K z) a w:=by
 intro c;have Y:∀p s F,find H.loops p=kd (s,F)->s.fits N=ka/\F.all (λq=>q.2.fits N)=ka:=λp s F h=>by
  have⟨k,hk⟩:=nY h;simp only[rY.fits,HC]at hH;grind
 have h0:∀p F,find H.cuts p=kd F->F.all (λq=>q.2.fits N)=ka:=λp F h=>by
  have⟨k,hk⟩:=nY h;simp only[rY.fits,HC]at hH;grind
 induction c with
 |skip=>intro p Z U K z a w M l d h r m;exact wpIn_skip ⟨.normal,U,M,rfl,by simp_all[Ea],h,r,m⟩
 |region rid ops draw=>
  intro p Z U K z a w M l d h r m;simp[Ea]at d;have h4:∀o∈ops.toList,PR N ops.toList o=ka:=λo ho=>lA.1 l o ho;cases draw with
  |false=>
   simp at d;refine wpIn_region_list ?_
   have:=b0o (Q:=b9k B N D K z) (ro:=ro) (D:=D) h3 hG (ops:=ops) (ops.toList.map λo=>(Md.x,o)) h r m (λq hq=>by
    grind) d (λa' w' C A u f g j=>⟨.normal,C,A,rfl,j,u,f,g⟩)
   rwa [F1,show((λx:Md×Oper=>x.2)∘λo=>(Md.x,o))=_root_.id from rfl,D5]at this
  |true=>
   simp at d;split at d;rename_i ms h9;have⟨h6,d⟩:=(Ah d).elim id λh=>by grind
   exact b4t h3 hG hm h r m h4 h6 d λa' w' C A u f g j=>⟨.normal,C,A,rfl,j,u,f,g⟩;simp_all
 |seq x y ihx ihy=>
  intro p Z U K z a w M l d h r m;simp[DB]at l;simp[Ea]at d;refine wpIn_seq ?_
  split at d
  ·refine wpIn_mono (ihx _ l.1 d h r m) ?_
   rintro e a' w' ⟨R,C,A,rfl,j,u,f,g⟩;cases R with
   |normal=>exact ihy _ l.2 j u f g
   |exit i=>exact⟨.exit i,C,A,rfl,j,u,f,g⟩
   |ret=>exact⟨.ret,C,A,rfl,j,u,f,g⟩
  ·rename_i F V;have⟨y0,h1,h2⟩:=B8.1 d;refine wpIn_mono (ihx _ l.1 h1 h r m) ?_
   rintro e a' w' ⟨R,C,A,rfl,j,u,f,g⟩;have⟨y1,X,O,E,L,k3⟩:=Nq F u (h0 _ _ V) j;simp at E;subst E;rw[k3]at h2;cases R with
   |normal=>exact ihy _ l.2 h2 L f g
   |exit i=>exact⟨.exit i,X,O,rfl,h2,L,f,g⟩
   |ret=>exact⟨.ret,X,O,rfl,h2,L,f,g⟩
 |cond c x y ihx ihy=>
  intro p Z U K z a w M l d h r m;simp[DB]at l;simp[Ea]at d;split at d
  ·rename_i t ht;have hc:=h.sJ l.1;rw[ht]at hc;have hc:=AA.bool hc;rcases Ah d with⟨rfl,d⟩|⟨rfl,d⟩;all_goals grind[wpIn_cond_true,wpIn_cond_false]
  simp_all
 |block id c ih=>
  intro p Z U K z a w M l d h r m;simp[Ea]at d;refine wpIn_block (wpIn_mono (ih _ l d h r m) ?_);rintro e a' w' ⟨R,C,A,rfl,j,u,f,g⟩;cases R with
  |normal=>exact⟨.normal,C,A,rfl,j,u,f,g⟩
  |exit i=>
   simp[nX,Exit.inBlock];rcases Ah j with⟨hi,j⟩|⟨hi,j⟩;rw[if_pos (by simp_all)];exact⟨.normal,C,A,rfl,j,u,f,g⟩;rw[if_neg (by simp_all)];exact⟨.exit i,C,A,rfl,j,u,f,g⟩
  |ret=>exact⟨.ret,C,A,rfl,j,u,f,g⟩
 |loop c ih=>
  intro p Z U K z a w M l d h r m;simp[Ea]at d;split at d;grind
  ·rename_i s F h7;have⟨hs,V⟩:=Y _ _ _ h7;have⟨x0,M0,h1,h2⟩:=h.xC hs d;have⟨y,hy,j⟩:=B8.1 h1;have⟨n0,h5⟩:=b1H hy;refine jH (λn a w=>∃x M,IH _ n x=kd y/\sH B (s.enc x) N (AJ a) w M/\a.tmps.size=N/\a.defers=D) n0 ⟨x0,M0,h5,h2,r,m⟩ ?_
   rintro n a w ⟨x,M,hn,u,f,g⟩;cases n with
   |zero=>simp_all[IH]
   |succ n=>
    simp[IH]at hn;split at hn;grind
    ·rename_i x' h8;refine wpIn_mono (ih _ l h8 u f g) ?_
     rintro e a' w' ⟨R,C,A,rfl,v,I,T,S⟩;cases R with
     |normal=>
      simp at v;have⟨x2,O,E,L⟩:=I.xC hs v;simp at E;subst E;exact⟨n,Nat.lt_succ_self n,x2,O,hn,L,T,S⟩
     |exit i=>
      grind[Nq]
     |ret=>
      grind[Nq]
    ·rename_i b hb;simp at hn;subst hn;refine wpIn_mono (ih _ l hb u f g) ?_
     rintro e a' w' ⟨R,C,A,rfl,v,I,T,S⟩;cases R with
     |normal=>
      simp at v;have⟨x2,O,E,L⟩:=I.xC hs v;grind
     |exit i=>
      have⟨y1,X,O,E,L,k3⟩:=Nq F I V v;simp at E;subst E;rw[k3]at j;exact⟨.exit i,X,O,rfl,j,L,T,S⟩
     |ret=>
      have⟨y1,X,O,E,L,k3⟩:=Nq F I V v;simp at E;subst E;rw[k3]at j;exact⟨.ret,X,O,rfl,j,L,T,S⟩
 |exit id=>intro p Z U K z a w M l d h r m;exact wpIn_exit ⟨.exit id,U,M,rfl,by simp_all[Ea],h,r,m⟩
 |ret=>intro p Z U K z a w M l d h r m;exact wpIn_ret ⟨.ret,U,M,rfl,by simp_all[Ea],h,r,m⟩
 |_=>intro p Z U K z a w M l d h r m;simp only[Ea]at d;cases d
end
theorem a5G{α:Type}{P:Program}{w:World}{f:α->Sem Value}:∀(l:List α)(us:List Value),us.length=l.length->(∀(k:Nat) x u,l[k]?=kd x->us[k]?=kd u->(f x).run P w=.ok u w)->(l.mapM f).run P w=.ok us w|[],us,g,_=>by simp_all|x::l,[],g,_=>by simp_all|x::l,u::us,g,h=>by have a:=h 0 x u rfl rfl;have b:=a5G l us (by simpa using g) (λk y v d c=>h (k+1) y v (by simpa using d) (by simpa using c));simp[List.mapM_cons,a,b,Result.andThen]
def JL(tk:List Nat)(U U':AE):Prop:=(∀i av,U.get i=av->(av.tO=ka\/∃n∈tk,av=.sref n []\/av=.ptr n [])->U'.get i=av)/\∀n∈tk,U'.rt n=U.rt n
theorem JL.refl{g U}:JL g U U:=⟨λ_ _ h _=>h,λ_ _=>rfl⟩
theorem JL.trans{a f U b g}(h:JL a U b)(d:JL f b g)(l:∀n∈a,n∈f):JL a U g:=⟨λi c m j=>d.1 i c (h.1 i c m j) (j.imp id λ⟨n,k,e⟩=>⟨n,l n k,e⟩),λn k=>(d.2 n (l n k)).trans (h.2 n k)⟩
theorem JL.gone{h:List Nat}{U:AE}{n:Nat}(b:n∉h)(f:AV->AV)(g:∀av:AV,(av.tO=ka\/∃m,m≠n/\(av=.sref m []\/av=.ptr m []))->f av=av):JL h U ((U.sG f).sD n ke):=by refine⟨λi av k c=>?_,λm a=>?_⟩;grind[AE.get,AE.sD,AE.sG,SV.sG];(have:(m==n)=kc:=by grind);simp[AE.sD,AE.sG,this]
theorem JL.set{a:List Nat}{U k:AE}(h:JL a U k){j:Nat}{av:AV}(c:U.get j=.dead):JL a U (k.set j av):=by(refine⟨λi v f g=>?_,λn d=>h.2 n d⟩;have b:i≠j:=by rintro rfl;rw[c]at f;subst f;rcases g with g|⟨m,-,e|e⟩;cases g;all_goals simp_all);have:=h.1 i v f g;simp_all[AE.get,Fb]
def a5H(tk tk':List Nat)(U:AE)(av:AV):((r:RA)×r.ty.sI)->Prop|⟨.v t,x⟩=>av=.val t x/\tk'=tk|⟨.o e,x⟩=>(∃n,av=.sref n []/\n∉tk/\tk'=n::tk/\U.rt n=kd ⟨kc,.list ka e,x⟩)\/((av=.nils\/av=.empt)/\x=[]/\tk'=tk)|⟨.b t,x⟩=>∃n,av=.ptr n []/\n∉tk/\tk'=n::tk/\U.rt n=kd ⟨ka,t,x⟩
theorem a5I{U:AE}{n i:Nat}{r:Option sK}{f:AV->AV}{av:AV}(h:U.get i=av)(g:f av=av):((U.sG f).sD n r).get i=av:=by grind[AE.get,AE.sD,AE.sG,SV.sG]
theorem sH.clear{B U N tm w M}(h:sH B U N tm w M){n:Nat}{e:Ty}{l:List e.sI}(hr:U.rt n=kd ⟨kc,.list ka e,l⟩)(V:U.pd=ke)(hn:n<pinned){v:Value}(hv:AA (Ag w M.ov) M.g U.rt (Bh B w M) (.swin n [] 0 0) v):
  ∃M1,sH B ((U.sG (AV.drop n)).sD n (kd ⟨kc,.list ka e,([]:List e.sI)⟩)) N tm w M1/\M1.g n=.one v:=by
 have h0:∃O,AM (Ag w M.ov) (.list ka e) ((Src.one v).rd (Ag w M.ov))=kd (([]:List e.sI),O,[])/\(∀p∈O,p∈M.ow n)/\(O.map (·.1)).Nodup:=by
  obtain⟨K,R,y,-,h3⟩:=(h.roots n _ hr).rd;rcases h3 with⟨g,-⟩|⟨-,⟨v0,Z⟩,-,ho⟩;grind;obtain⟨r,e',s,a,l',c,G,H,P,-,L,rfl,g5,g6⟩:=hv;rw[hr]at G;cases G;rw[Z]at H y;have hs:Src.one v0=s:=by
   have:=Option.some.inj H
   simp_all
  subst hs;obtain rfl:v0=.slice a l' c:=by simpa[Src.rd]using P
  have y:CW (Ag w M.ov) ka e.cells (AM (Ag w M.ov) e) (kd (.slice a l' c))=kd (l,K,R):=y;show ∃O,CW (Ag w M.ov) ka e.cells (AM (Ag w M.ov) e) (kd (.slice L 0 (c-0)))=_/\_;by_cases C:c=0;subst C;refine⟨[],?_,by simp,by simp⟩;cases L<;>simp[CW,Ao]<;>rfl
  ·cases a with
   |none=>simp_all[CW]
   |some A=>
    obtain rfl:L=kd (A.add (0*e.cells)):=by simp_all
    have Y:=(g5 _ rfl).resolve_left (by omega);rw[Nat.zero_mul]at Y;simp only[CW]at y;split at y;split at y;grind;rename_i xs os rs h2;simp only[if_true]at y;simp at y;obtain⟨-,rfl,-⟩:=y;simp_all[CW,Ao,Addr.add];simp_all
 have⟨O,k1,k2,k3⟩:=h0
 let f:Nat->Dw:=λm=>if m=n then O else M.ow m
 have d:∀m c,c∈(f m).map (·.1)->c∈(M.ow m).map (·.1):=λm c C=>by
  grind
 have D:∀c,BP ⟨λm=>if m=n then .one v else M.g m,f,M.ov⟩ c->BP M c:=λc ⟨m,j⟩=>⟨m,d m c j⟩
 have F:∀c,Bh B w M c->Bh B w ⟨λm=>if m=n then .one v else M.g m,f,M.ov⟩ c:=λc ⟨a1,a2,a3⟩=>⟨a1,a2,λg=>a3 (D c g)⟩
 have z:∀m,m≠n->((U.sG (AV.drop n)).sD n (kd ⟨kc,.list ka e,([]:List e.sI)⟩)).rt m=U.rt m:=λm j=>by
  have:(m==n)=kc:=by simp_all
  simp[AE.sD,AE.sG,this]
 have X:((U.sG (AV.drop n)).sD n (kd ⟨kc,.list ka e,([]:List e.sI)⟩)).rt n=kd ⟨kc,.list ka e,([]:List e.sI)⟩:=by simp[AE.sD]
 refine⟨⟨λm=>if m=n then .one v else M.g m,f,M.ov⟩,⟨λm r j=>?_,λm j=>?_,λm=>?_,λm m' T c C Q=>h.sQ m m' T c (d m c C) (d m' c Q),λm p I=>?_,λi hi=>(h.slots i hi).sG λa u ha=>?_,?_,h.size,h.frame,λc C=>h.mine c (D c C),λi b hb E=>?_,h.still⟩,by simp⟩
 by_cases e1:m=n;subst e1;rw[X]at j;cases j;simp[f];exact⟨O,[],k1,by simp,.inr ⟨rfl,⟨v,rfl⟩,⟨e,rfl⟩,rfl⟩⟩;rw[z m e1]at j;simp[f,if_neg e1];have⟨K,R,G,H,P⟩:=(h.roots m r j).rd;exact⟨K,R,G,λc C=>F c (H c C),P⟩;by_cases e1:m=n;simp_all;rw[z m e1]at j;simp[f,if_neg e1];exact h.norm m j;by_cases e1:m=n;grind;simp[f,if_neg e1];exact h.nodup m;by_cases e1:m=n;simp[f,if_pos e1]at I;exact h.live n p (k2 p I);simp[f,if_neg e1]at I;exact h.live m p I
 ·by_cases hd:AV.drop n a=.dead;rw[hd];trivial
  ·have S:AV.drop n a=a/\∀k q,(a=.ptr k q\/a=.sref k q\/∃o l,a=.swin k q o l)->k≠n:=by
    cases a<;>simp only[AV.drop]at hd|-<;>try (refine⟨trivial,?_⟩;rintro k q (h|h|⟨o,l,h⟩)<;>cases h)
    all_goals simp_all
   rw[S.1];exact ha.other F z (λk S=>by grind) S.2
 ·have:=h.pend
  show RX _ _ _ U.pd M.ov;rw[V]at this|-;cases hov:M.ov with
  |none=>trivial
  |some x=>rw[hov]at this;exact this.elim
 have:pinned+i≠n:=by omega
 rw[z _ this]at E;simp[if_neg this];exact h.pins i b hb E
def KD(a:Nat->Value):ResultVar->Sem Value|.tmp t=>pure (a t)|.cell i t=>do loadVar t (<-asAddr (a i))
def UB(N0:Nat):ResultVar ⊕ Option Nat->Bool|.inl (.tmp i)=>A4 (i<N0)|.inl (.cell i _)=>A4 (i<N0)|.inr _=>ka
def Yw(P:Program)(B:Base)(w:World)(tm:Nat->Value)(u:Value):ResultVar ⊕ Option Nat->Prop|.inl r=>(KD tm r).run P w=.ok u w|.inr ke=>u=.slice ke 0 0|.inr (kd n)=>∀i b,n=pinned+i->B.pin i=kd b->a5n b u
section
variable {P:Program} {B:Base} {N:Nat} {w:World} {cx:Cx} {Z:Type}
theorem a2a(g0:CxTy P cx){tm:Nat->Value}{N0:Nat}(Q:N0<=N){U:AE}{M:Gh}(h:sH B U N tm w M)(C:U.pd=ke){D:List Nat}{j:Nat}{r:RA}{v:ResultVar ⊕ Option Nat}(hv:UB N0 v=ka)
  {K:r.ty.sI->AE->List Nat->Rs Z}{z:Z}(a:U.out cx D j r v K=kd z):
  ∃x H G h9 av u,K x (H.set j av) h9=kd z/\sH B H N tm w G/\H.pd=ke/\AA (Ag w G.ov) G.g H.rt (Bh B w G) av u/\Yw P B w tm u v/\a5H D h9 H av ⟨r,x⟩/\JL D U H/\
   ∀i,U.get i=.dead->H.get i=.dead:=by
 have y:∀(U:AE)(n:Nat)(f:AV->AV),f .dead=.dead->∀i,U.get i=.dead->((U.sG f).sD n ke).get i=.dead:=λU n f hf i hi=>by
  grind[AE.get,AE.sD,AE.sG,SV.sG]
 cases r with
 |v t=>
  cases v with
  |inr n=>simp_all[AE.out]
  |inl rv=>
   cases rv with
   |tmp i=>
    simp[UB]at hv;simp[AE.out]at a;rcases Ah a with⟨-,g⟩|⟨g7,a⟩;grind;have d:∀n∈(U.get i).sP,n∉D:=λn hn hu=>by
     simp_all
    have q:=Gn h (B4 hv Q);have g6:∃x H G,K x (H.set j (.val t x)) D=kd z/\sH B H N tm w G/\CK (Ag w G.ov) (Bh B w G) t x (tm i)/\H.pd=U.pd/\JL D U H/\∀i,U.get i=.dead->H.get i=.dead:=by

     let K':t.sI->AE->Rs Z:=λx U'=>K x (U'.set j (.val t x)) D
     cases F:U.get i with
     |tX g=>
      simp_all[AE.uR]
     |val V x=>
      rw[F]at a q;simp[AE.uR]at a;split at a;rename_i x2 h0;exact⟨x2,U,M,a,h,CK.sZ h0 q,rfl,JL.refl,λ_ g=>g⟩;simp_all
     |nils=>
      rw[F]at a q;cases t with
      |list o e=>
       cases o with
       |false=>
        obtain q:tm i=_:=q;exact⟨[],U,M,a,h,by rw[q];exact CK.empty,rfl,JL.refl,λ_ g=>g⟩
       |true=>simp_all[AE.uR]
      |nl e=>
       obtain q:tm i=_:=q;exact⟨_,U,M,a,h,by simp_all[CK.wR],rfl,JL.refl,λ_ g=>g⟩
      |_=>simp only[AE.uR]at a;cases a
     |empt=>
      rw[F]at a q;cases t with
      |list o e=>
       cases o with
       |false=>
        have⟨A,q⟩:=q;exact⟨[],U,M,a,h,by rw[q];exact CK.empty,rfl,JL.refl,λ_ g=>g⟩
       |true=>simp_all[AE.uR]
      |_=>simp only[AE.uR]at a;cases a
     |sref n p=>
      rw[F]at a q d;cases p with
      |cons=>simp_all[AE.uR]
      |nil=>
       simp[AE.uR]at a;split at a
       ·rename_i e l E;have⟨h8,E⟩:=AY E;split at a
        ·rename_i ht;subst ht;have Y:=h.vR q E rfl;refine⟨_,_,_,a,h.xM E (by simp_all),Y.frame (λ_ _ _=>rfl) (λc hc=>?_),rfl,JL.gone (d n (by simp[AV.sP])) _ ?_,y U n _ rfl⟩;rcases hc with g|g;exact sH.tQ c g;have I:BP M c:=⟨n,g⟩;refine⟨h.lt I,.inr (h.mine c I),λ⟨m,L⟩=>?_⟩;have L:c∈(if m=n then[]else M.ow m).map (·.1):=L
         split at L;simp_all;rename_i X;exact h.sQ m n X c L g
         ·rintro av (g|⟨m,L,rfl|rfl⟩);cases av<;>first|rfl|cases g
          all_goals simp_all[AV.xM]
        simp_all
       simp_all
     |swin n p o k=>
      rw[F]at a q d;cases p with
      |cons=>simp_all[AE.uR]
      |nil=>
       simp[AE.uR]at a;split at a
       ·rename_i e l E;have⟨h8,E⟩:=AY E;split at a
        ·rename_i ht;subst ht;have Y:=h.vS q E rfl;refine⟨_,_,_,a,h.xM E (by simp_all),Y.frame (λ_ _ _=>rfl) (λc hc=>?_),rfl,JL.gone (d n (by simp[AV.sP])) _ ?_,y U n _ rfl⟩;rcases hc with g|g;exact sH.tQ c g;have I:BP M c:=⟨n,g⟩;refine⟨h.lt I,.inr (h.mine c I),λ⟨m,L⟩=>?_⟩;have L:c∈(if m=n then[]else M.ow m).map (·.1):=L
         split at L;simp_all;rename_i X;exact h.sQ m n X c L g
         ·rintro av (g|⟨m,L,rfl|rfl⟩);cases av<;>first|rfl|cases g
          all_goals simp_all[AV.xM]
        simp_all
       simp_all
     |dead|skp|nilp|ptr|vptr=>rw[F]at a;cases a
    have⟨x,H,G,k1,k2,k3,k4,k5,k6⟩:=g6;exact⟨x,H,G,D,.val t x,tm i,k1,k2,k4.trans C,k3,by rfl,⟨rfl,rfl⟩,k5,k6⟩
   |cell i V=>
    simp[UB]at hv;simp only[AE.out]at a;have q:=Gn h (B4 hv Q);split at a
    ·rename_i n F;rw[F]at q;rcases Ah a with⟨-,g⟩|⟨d,a⟩;grind;have d:n∉D:=by simp_all
     split at a
     ·rename_i hT;have⟨g4,g5⟩:=g0.T V _ hT;have⟨u,H,G,O,h1,h2,h3,h4,h5⟩:=sH.zK g5 g4 h q a;split at h4
      ·rename_i k0 x;split at h4
       ·rename_i x2 h0;have h6:AA (Ag w G.ov) G.g H.rt (Bh B w G) (.val t x2) u:=CK.sZ h0 h3;have hu:(KD tm (.cell i V)).run P w=.ok u w:=by
         obtain⟨r',t1,b,g9,-,-,g3⟩:=q;simp_all[Instr.loadAt,Instr.sureAddr,KD,asAddr]
        rcases h5 with⟨rfl,rfl⟩|⟨-,m,L,rfl⟩;exact⟨x2,H,G,D,.val t x2,u,h4,h2,C,h6,hu,⟨rfl,rfl⟩,JL.refl,λ_ g=>g⟩
        ·cases L;refine⟨x2,_,G,D,.val t x2,u,h4,h2,C,h6,hu,⟨rfl,rfl⟩,JL.gone d _ ?_,y U n _ rfl⟩;rintro av (g|⟨m,L,rfl|rfl⟩);cases av<;>first|rfl|cases g
         all_goals simp_all[AV.drop]
       simp_all
      simp_all
     simp_all
    simp_all
 |o e=>
  cases v with
  |inr n=>
   cases n with
   |none=>
    simp[AE.out]at a;exact⟨[],U,M,D,.nils,.slice ke 0 0,a,h,C,rfl,rfl,.inr ⟨.inl rfl,rfl,rfl⟩,JL.refl,λ_ g=>g⟩
   |some n=>
    simp only[AE.out]at a;rcases Ah a with⟨-,g⟩|⟨d,a⟩;grind;have d:n∉D:=by simp_all
    split at a;rename_i e' x E;split at a;rename_i S;subst S;rcases h.uE E with⟨g,-⟩|⟨-,u,e2,F,-⟩;grind;refine⟨x,U,M,n::D,.sref n [],u,a,h,C,⟨_,e',.one u,E,by show kd (_,M.g n)=_;grind,rfl⟩,λi b' hn hb=>?_,.inl ⟨n,rfl,d,rfl,E⟩,JL.refl,λ_ g=>g⟩;subst hn
    have:=h.pins i b' hb (by simp_all)
    rw[<-this,F];rfl;simp_all;simp_all
  |inl rv=>
   cases rv with
   |cell i V=>simp_all[AE.out]
   |tmp i=>
    simp[UB]at hv;have q:=Gn h (B4 hv Q);simp only[AE.out]at a;split at a;rename_i n F;rw[F]at q;rcases Ah a with⟨-,g⟩|⟨d,a⟩;grind;have d:n∉D:=by simp_all
    split at a;rename_i e' l E;split at a;rename_i S;subst S;exact⟨l,U,M,n::D,.sref n [],tm i,a,h,C,q,by rfl,.inl ⟨n,rfl,d,rfl,E⟩,JL.refl,λ_ g=>g⟩;simp_all;simp_all;rename_i F;rw[F]at q;exact⟨[],U,M,D,.nils,tm i,a,h,C,q,by rfl,.inr ⟨.inl rfl,rfl,rfl⟩,JL.refl,λ_ g=>g⟩;rename_i F;rw[F]at q;exact⟨[],U,M,D,.empt,tm i,a,h,C,q,by rfl,.inr ⟨.inr rfl,rfl,rfl⟩,JL.refl,λ_ g=>g⟩;rename_i n F;rw[F]at q;rcases Ah a with⟨-,g⟩|⟨d,a⟩;grind;simp only[Bool.or_eq_false_iff,Bool.not_eq_false',dT]at d;have h7:n∉D:=by simp_all
    split at a;rename_i e' l E;split at a;rename_i S;subst S;have⟨G,k1,k2⟩:=h.clear (AY E).2 C d.2 q;refine⟨[],_,G,n::D,.sref n [],tm i,a,k1,C,⟨_,e',.one (tm i),by simp[AE.sD];rfl,by show kd (_,G.g n)=_;grind,rfl⟩,by rfl,.inl ⟨n,rfl,h7,rfl,by simp[AE.sD]⟩,⟨λi' O g1 g2=>?_,λm L=>?_⟩,λi' g=>?_⟩;have hd:AV.drop n O=O:=by
     rcases g2 with g|⟨m,L,rfl|rfl⟩;cases O<;>first|rfl|cases g
     have:(m==n)=kc:=by grind
     simp[AV.drop,this]
     have:(m==n)=kc:=by grind
     simp[AV.drop,this]
    exact a5I g1 hd
    have:(m==n)=kc:=by grind
    simp[AE.sD,AE.sG,this];exact a5I g rfl;simp_all;simp_all;simp_all
 |b t=>
  cases v with
  |inr n=>
   cases n with
   |none=>simp_all[AE.out]
   |some n=>
   simp only[AE.out]at a;rcases Ah a with⟨-,g⟩|⟨d,a⟩;grind;have d:n∉D:=by simp_all
   split at a;rename_i V x E;split at a;rename_i S;subst S;obtain⟨O',R,-,-,hc⟩:=(h.roots n _ E).rd;rcases hc with⟨-,b,hs,-⟩|⟨hb,-⟩;refine⟨x,U,M,n::D,.ptr n [],.pointer (kd ⟨b,0,ke⟩),a,h,C,⟨_,V,b,0,E,by show kd (V,M.g n)=_;grind,rfl⟩,λi b' hn hb=>?_,⟨n,rfl,d,rfl,E⟩,JL.refl,λ_ g=>g⟩;subst hn
   have:=h.pins i b' hb (by simp_all)
   rw[<-this,hs];exact⟨rfl,rfl⟩;simp_all;simp_all;simp_all
  |inl rv=>
   cases rv with
   |cell i V=>simp_all[AE.out]
   |tmp i=>
    simp[UB]at hv;have q:=Gn h (B4 hv Q);simp only[AE.out]at a;split at a;rename_i n F;rw[F]at q;rcases Ah a with⟨-,g⟩|⟨d,a⟩;grind;have d:n∉D:=by
     simp_all
    split at a;rename_i V x E;split at a;rename_i S;subst S;exact⟨x,U,M,n::D,.ptr n [],tm i,a,h,C,q,by rfl,⟨n,rfl,d,rfl,E⟩,JL.refl,λ_ g=>g⟩;simp_all;simp_all;simp_all
end
def c2j(U:AE)(av:AV)(o:Option Nat):((r:RA)×r.ty.sI)->Prop|⟨.v t,x⟩=>av=.val t x/\o=none|⟨.o e,x⟩=>(∃n,o=kd n/\av=.sref n []/\U.rt n=kd ⟨kc,.list ka e,x⟩)\/(o=ke/\(av=.nils\/av=.empt)/\x=[])|⟨.b t,x⟩=>∃n,o=kd n/\av=.ptr n []/\U.rt n=kd ⟨ka,t,x⟩
theorem a5H.yR{p f:List Nat}{U j:AE}{av:AV}{i:Nat}(d:U.get i=av):∀{it:(r:RA)×r.ty.sI},a5H p f U av it->JL f U j->∃o,c2j j (j.get i) o it/\(∀n∈p,n∈f)/\∀n,o=kd n->n∉p/\n∈f|⟨.v t,x⟩,⟨a,c⟩,k=>by subst a;subst c;exact⟨ke,⟨k.1 i _ d (.inl rfl),rfl⟩,λ_ g=>g,by simp⟩|⟨.o e,x⟩,h,k=>(by rcases h with⟨n,rfl,c,rfl,l⟩|⟨a,c,rfl⟩;refine⟨kd n,.inl ⟨n,rfl,k.1 i _ d (.inr ⟨n,by simp,.inl rfl⟩),(k.2 n (by simp)).trans l⟩,λm g=>A9 _ g,?_⟩;simp_all;refine⟨ke,.inr ⟨rfl,?_,c⟩,λ_ g=>g,by simp⟩;rw[k.1 i av d (.inl (by rcases a with rfl|rfl<;>rfl))];omega)|⟨.b t,x⟩,⟨n,a,c,q,l⟩,k=>by subst a;subst q;refine⟨kd n,⟨n,rfl,k.1 i _ d (.inr ⟨n,by simp,.inr rfl⟩),(k.2 n (by simp)).trans l⟩,λm g=>A9 _ g,?_⟩;simp_all
section
variable {P:Program} {B:Base} {w:World} {cx:Cx} {Z:Type}
theorem sH.wY{N:Nat}{tm:Nat->Value}{U:AE}{M:Gh}(h:sH B U N tm w M){av:AV}{u:Value}(hv:AA (Ag w M.ov) M.g U.rt (Bh B w M) av u):sH B (U.set N av) (N+1) (λi=>if i=N then u else tm i) w M:=by refine⟨h.roots,h.norm,h.nodup,h.sQ,h.live,λi f=>?_,h.pend,h.size,h.frame,h.mine,h.pins,h.still⟩;rw[Fb];by_cases e:i=N;rw[if_pos e,if_pos e];exact hv;rw[if_neg e,if_neg e];exact h.slots i (by omega)
theorem Yw.congr{tm g:Nat->Value}{N0:Nat}{u:Value}{v:ResultVar ⊕ Option Nat}(hv:UB N0 v=ka)(h:Yw P B w tm u v)(f:∀i,i<N0->g i=tm i):Yw P B w g u v:=by cases v with|inr n=>(cases n<;>exact h)|inl r=>cases r with|tmp i=>(simp[UB]at hv;simp only[Yw,KD]at h|-;simp_all)|cell i t=>simp[UB]at hv;simp only[Yw,KD]at h|-;simp_all
structure yF (P:Program) (B:Base) (w:World) (N0 N:Nat) (tm:Nat->Value) (tk:List Nat) (U U':AE) (M':Gh) (rs:List RA) (vs:List (ResultVar ⊕ Option Nat)) (y:(Eh (rs.map RA.ty)).sI) (us:List Value) (tm':Nat->Value) (ns:List (Option Nat)):Prop where
 lu:us.length=rs.length
 lv:vs.length=rs.length
 ln:ns.length=rs.length
 rel:sH B U' (N+rs.length) tm' w M'
 pd:U'.pd=ke
 low:∀i,i<N->tm' i=tm i
 high:∀(k:Nat) u,us[k]?=kd u->tm' (N+k)=u
 stay:JL tk U U'
 comes:∀(k:Nat) v u,vs[k]?=kd v->us[k]?=kd u->Yw P B w tm u v
 fin:∀(k:Nat) it o,(Fg rs y)[k]?=kd it->ns[k]?=kd o->c2j U' (U'.get (N+k)) o it
 names:∀(k n:Nat),ns[k]?=kd (kd n)->n∉tk/\∀k':Nat,ns[k']?=kd (kd n)->k'=k
theorem oA(l:CxTy P cx){N0:Nat}:∀(D:List RA)(b:List (ResultVar ⊕ Option Nat)) {U:AE} {M:Gh} {N:Nat} {tm:Nat->Value} {p:List Nat} (_:N0<=N) (_:sH B U N tm w M) (_:U.pd=ke) (_:∀i,N<=i->U.get i=.dead) (_:∀v∈b,UB N0 v=ka) {K:(Eh (D.map RA.ty)).sI->AE->Rs Z} {z:Z} (_:U.outs cx p N D b K=kd z),∃y F M' us q ns,K y F=kd z/\yF P B w N0 N tm p U F M' D b y us q ns|[],b,U,M,N,tm,p,G,h,hpd,hdead,hvs,K,z,m=>(by cases b with|cons=>simp_all[AE.outs]|nil=>exact⟨(),U,M,[],tm,[],m,⟨rfl,rfl,rfl,h,hpd,λ_ _=>rfl,by simp,JL.refl,by simp,by simp,by simp⟩⟩)|[r],b,U,M,N,tm,p,G,h,hpd,hdead,hvs,K,z,m=>(by match b,hvs with|[],_=>simp_all[AE.outs]|_::_::_,_=>simp_all[AE.outs]|[v],hvs=>(simp[AE.outs]at m;have⟨x,d,Y,e,a,u,H,I,L,O,h5,Q,R,S⟩:=a2a l G h hpd (hvs v (by simp)) m;have c:(d.set N a).get N=a:=by simp[AE.get];rw[Fb,if_pos rfl]);have h0:JL e d (d.set N a):=JL.refl.set (S N (hdead N (C5 _)));have j:a5H p e (d.set N a) a ⟨r,x⟩:=Q;have⟨o,k1,g,k3⟩:=j.yR c JL.refl;refine⟨x,d.set N a,Y,[u],_,[o],H,⟨rfl,rfl,rfl,I.wY O,L,λi V=>if_neg (by omega),λk E f=>?_,R.set (hdead N (C5 _)),λk A E f hu=>?_,λk it o' f ho=>?_,λk n f=>?_⟩⟩;all_goals grind[Fg])|r::r'::D,b,U,M,N,tm,p,G,h,hpd,hdead,hvs,K,z,m=>by match b,hvs with|[],_=>simp_all[AE.outs]|v::b,hvs=>(simp[AE.outs]at m;have⟨x,d,Y,e,a,u,H,I,L,O,h5,Q,R,S⟩:=a2a l G h hpd (hvs v (by simp)) m;have c:(d.set N a).get N=a:=by simp[AE.get];rw[Fb,if_pos rfl]);(have T:∀i,N+1<=i->(d.set N a).get i=.dead:=λi V=>by have:=S i (hdead i (by omega));simp[AE.get]at this|-;rw[Fb,if_neg (by omega)];omega);have⟨y,F,M',us,q,ns,k1,g⟩:=oA l (r'::D) b (by omega:N0<=N+1) (I.wY O) L T (λA h9=>hvs A (by simp_all)) H;have j:a5H p e (d.set N a) a ⟨r,x⟩:=Q;have⟨o,j1,j2,j3⟩:=j.yR c g.stay;refine⟨(x,y),F,M',u::us,q,o::ns,k1,⟨by simp[g.lu],by simp[g.lv],by simp[g.ln],?_,g.pd,λi V=>?_,λk E f=>?_,(R.set (hdead N (C5 _))).trans g.stay j2,λk A E f hu=>?_,λk it o' f ho=>?_,λk n f=>?_⟩⟩;have:=g.rel;grind;rw[g.low i (by omega),if_neg (by omega)];(cases k with|zero=>simp at f;rw[<-f,Nat.add_zero,g.low N (by omega),if_pos rfl]|succ k=>have:=g.high k E (by simp_all);grind);(cases k with|zero=>simp_all|succ k=>(have C:b[k]?=kd A:=by simp_all);exact(g.comes k A E C (by simp_all)).congr (hvs A (by grind)) (λi V=>(if_neg (by omega)).symm));(cases k with|zero=>simp_all[Fg]|succ k=>have:=g.fin k it o' (by simpa[Fg]using f) (by simp_all);grind);cases k with|zero=>(simp at f;refine⟨(j3 n f).1,λX C=>?_⟩;cases X with|zero=>rfl|succ X=>exact absurd (j3 n f).2 (g.names X n (by simp_all)).1)|succ k=>have⟨a1,a2⟩:=g.names k n (by simp_all);grind
end
theorem a5J{P:Program}{fn:Func}{a:Act}{w:World}{g:List Value}(e:g.length=fn.results.toList.length)
  (h:∀(k:Nat) r u,fn.results.toList[k]?=kd r->g[k]?=kd u->(KD (AJ a) r).run P w=.ok u w):(results fn a.tmps).run P w=.ok (fV g) w:=by
 have b:(fn.results.toList.mapM (KD (AJ a))).run P w=.ok g w:=a5G _ _ e h;have c:fn.results.mapM (KD (AJ a))=Functor.map List.toArray (fn.results.toList.mapM (KD (AJ a))):=by
  rw[<-List.mapM_toArray]
 have d:results fn a.tmps=(do
   let f <-fn.results.mapM (KD (AJ a))
   pure (if h:f.size=1 then f[0]else .tuple f)):=by
  rfl
 rw[d,c];simp only[map_eq_pure_bind,bind_assoc,pure_bind,Sem.run_bind,b,Result.andThen_ok,Sem.run_pure,List.size_toArray];congr 1
 match g with
 | []=>rfl
 | [u]=>rfl
 |_::_::_=>rfl
section
variable {P:Program} {B:Base} {w:World} {cx:Cx}
theorem yF.back{N0 N:Nat}{tm:Nat->Value}{U U':AE}{M':Gh}{M:List RA}{vs y us h1 ns}(h:yF P B w N0 N tm [] U U' M' M vs y us h1 ns):∃C,wV B w (Fg M y) us C:=by
 have h0:=h.rel.sW h.pd;have q:Ag w M'.ov=cells w:=by rw[h0];rfl
 let F:Option Nat->Value->Src×Dw:=λo u=>match o with|some n=>(M'.g n,M'.ow n)|none=>(.one u,[])
 let C:=F2 F ns us;have m:∀(k:Nat) L,C[k]?=kd L->∃o u,ns[k]?=kd o/\us[k]?=kd u/\L=F o u:=λk L hk=>by grind
 have a:∀L∈C,L.2=[]\/∃(k n:Nat),ns[k]?=kd (kd n)/\L.2=M'.ow n:=λL d=>by have⟨k,hk⟩:=E6.1 d;grind
 have D:∀c,Bh B w M' c->(c<w.heap.size/\(B.S c\/B.F c\/B.size<=c)/\∀L∈C,c∉L.2.map (·.1)):=λc j=>⟨j.1,j.2.1,λL d I=>by rcases a L d with g|⟨k,n,-,g⟩;simp_all;rw[g]at I;exact j.2.2 ⟨n,I⟩⟩
 have K:∀L∈C,∀c∈L.2.map (·.1),BP M' c:=λL d c j=>by rcases a L d with g|⟨k,n,-,g⟩;simp_all;rw[g]at j;exact⟨n,j⟩
 refine⟨C,⟨by rw[h.lu,Ml],by simp[C,h.lu,h.ln,Ml],λk it u L T hu d=>?_,λL d=>?_,λk k' L L' d O V c j Q=>?_,λL d p hp=>?_,λL d c j=>h.rel.mine c (K L d c j),h.rel.size,h.rel.frame,h.rel.still⟩⟩;obtain⟨o,u',Y,E,rfl⟩:=m k L d;rw[hu]at E;simp at E;subst E;have l:=h.fin k it o T Y;have hk:k<M.length:=by rw[<-h.lu];grind
 have i:=Gn h.rel (show N+k<N+M.length by omega);rw[h.high k u hu,q]at i;have⟨r,x⟩:=it;cases r with|v t=>(obtain⟨g1,rfl⟩:=l;rw[g1]at i;exact⟨CK.frame i (λ_ _ _=>rfl) D,rfl⟩)|o e=>((rcases l with⟨n,rfl,z,H⟩|⟨rfl,z,rfl⟩;rw[z]at i;have⟨r',e',s,a1,G,a3⟩:=i;rw[H]at a1;simp at a1;subst a1;simp only[loc,CR,sj,pJ]at G;obtain⟨-,rfl⟩:=G;have f:=h.rel.roots n _ H;rw[q]at f;refine⟨?_,f.mono D⟩;obtain⟨O',R,-,-,j⟩:=f.rd;rcases j with⟨hb,-⟩|⟨-,⟨v0,h2⟩,-,-⟩;grind;show M'.g n=.one u;simp_all[Src.rd]);(refine⟨rfl,⟨[],[],?_,by simp,.inr ⟨rfl,⟨_,rfl⟩,⟨e,rfl⟩,rfl⟩⟩⟩;show CW _ ka e.cells (AM _ e) (kd u)=kd (([]:List e.sI),[],[]);rcases z with z|z;rw[z]at i;have i:u=.slice ke 0 0:=i;rw[i];rfl);rw[z]at i;have⟨A,i⟩:=i;rw[i];cases A with|none=>rfl|some A=>rfl)|b t=>obtain⟨n,rfl,z,H⟩:=l;rw[z]at i;have⟨r',t',b,o',a1,G,a3⟩:=i;rw[H]at a1;simp at a1;subst a1;simp[CR]at G;obtain⟨rfl,G⟩:=G;have f:=h.rel.roots n _ H;rw[q]at f;refine⟨f.mono D,b,?_⟩;obtain⟨O',R,-,-,j⟩:=f.rd;grind
 rcases a L d with g|⟨k,n,-,g⟩;simp_all;rw[g];exact h.rel.nodup n;obtain⟨o,u,Y,-,rfl⟩:=m k L d;obtain⟨o',u',Z,-,rfl⟩:=m k' L' O;cases o with|none=>grind|some n=>cases o' with|none=>grind|some n'=>(have X:n≠n':=by rintro rfl;exact V ((h.names k' n Z).2 k Y));exact h.rel.sQ n n' X c j Q
 rcases a L d with g|⟨k,n,-,g⟩;simp_all;rw[g]at hp;exact h.rel.live n p hp
theorem VD:∀(g:List PA)(i0 i:Nat),i∈Ba g i0->∃c a,g[i-i0]?=kd (.r c a)|[],_,_,h=>by simp[Ba]at h|.v _::g,i0,i,h=>(by have:=(Sz g (i0+1)).2 i h;have⟨c,a,f⟩:=VD g (i0+1) i h;exact⟨c,a,by rw[show i-i0=(i-(i0+1))+1 from by omega];simpa using f⟩)|.r c a::g,i0,i,h=>by rcases mC.1 h with rfl|h;exact⟨c,a,by simp⟩;have:=(Sz g (i0+1)).2 i h;have⟨c,a,f⟩:=VD g (i0+1) i h;exact⟨c,a,by rw[show i-i0=(i-(i0+1))+1 from by omega];simpa using f⟩
def c0I(fn:Func)(c:Code)(H:rY)(s:rZ):Bool:=DB fn.ntmps c&&(H.fits fn.ntmps&&(A4 (s.ps.length<=fn.ntmps)&&fn.results.toList.all λr=>UB fn.ntmps (.inl r)))
theorem VE(A:CxTy P cx){fn:Func}{s:rZ}{y}{args:Array Value}(N:(fn.results.toList.all λr=>UB fn.ntmps (.inl r))=ka){p:Act}{w':World}{M':Gh}{o:AE}(T:sH B o fn.ntmps (AJ p) w' M')(F:o.pd=ke)
  (Q:(o.upto fn.ntmps).outs cx [] fn.ntmps (RA.all s.ps s.rs) (fn.results.toList.map .inl++(Ba s.ps 0).map λi=>.inr (Th s.ps i)) (λy _=>kd y)=kd y)
  (f:b0k B s.ps args):
  ∃v,(results fn p.tmps).run P w'=.ok v w'/\∃K L,Ending.returned v=.returned (fV K)/\K.length=s.rs.length/\wV B w' (Fg (RA.all s.ps s.rs) y) (K++(Ba s.ps 0).map (GV s.ps args)) L:=by
 have I:sH B (o.upto fn.ntmps) fn.ntmps (AJ p) w' M':=T.weak λi R v d=>by
  simp_all
 have⟨y',Z,Y,m,X,ns,M,j⟩:=oA (P:=P) (w:=w') (N0:=fn.ntmps) A _ _ (C5 _) I F (λi R=>by
   have:A4 (i<fn.ntmps)=kc:=by simp_all
   simp only[AE.get,AE.upto,this,cF]) (λv d=>by
   rcases mA.1 d with d|d;grind;obtain⟨i,-,rfl⟩:=C1.1 d;rfl) Q
 simp at M;subst M;have⟨L,z⟩:=j.back;have E:=j.lv;simp only[RA.all,lN,List.length_map,NF s.ps 0,Array.length_toList]at E;have D:=j.lu;simp[RA.all]at D;have U:fn.results.toList.length=s.rs.length:=by simp_all

 have V:m=m.take s.rs.length++(Ba s.ps 0).map (GV s.ps args):=by
  have e:=List.take_append_drop s.rs.length m
  conv=>lhs;rw[<-e]
  congr 1;refine F6 λk=>?_
  rw[List.getElem?_drop,F7];cases hk:(Ba s.ps 0)[k]? with
  |none=>
   simp_all[NF]
  |some i=>
   have l:=(lS.1 hk).1;rw[NF]at l;have H:=lG (show s.rs.length+k<m.length by omega);rw[H]
   simp
   have d:(fn.results.toList.map Sum.inl++(Ba s.ps 0).map λi=>Sum.inr (Th s.ps i))[s.rs.length+k]?=kd (Sum.inr (Th s.ps i):ResultVar ⊕ Option Nat):=by
    simp_all[D6]
   have g:=j.comes _ _ _ d H;have C:∃c,jF s.ps i=kd c:=by
    have⟨c,a,S⟩:=VD s.ps 0 i (D1 hk);exact⟨c,Ri (by omega)⟩
   have⟨c,h⟩:=C;cases c with
   |true=>
    simp[Th,h]at g;simp[GV,h];exact g
   |false=>
    simp[Th,h]at g;simp only[GV,h];have⟨b,q,x⟩:=f i (D1 hk) h;exact a5n.yN (g i b rfl q) x
 have O:(results fn p.tmps).run P w'=.ok (fV (m.take s.rs.length)) w':=by
  refine a5J (by grind) λk r u G H=>?_
  have l:=(lS.1 G).1;refine j.comes k (.inl r) u ?_ ?_
  all_goals grind
 grind
theorem HH.of(j:uS P cx)(S:P.follows .mixedOrders=ka){f:FuncId}{fn:Func}{c:Code}{H:rY}{s:rZ}(u:P.funcs[f]?=kd fn)(hb:fn.body=kd c)(m:c0I fn c H s=ka) (r:∀x,a0u cx H fn s.ps s.rs x=s.F x):HH P cx.G f s:=by
 simp only[c0I,HC,dT]at m;have⟨l,O,U,o⟩:=m;intro w B M args x y N C Z R T q h b;rw[<-r x]at C;simp[a0u,hb]at C;let a:Act:={ tmps:=args++D2 (fn.ntmps-args.size) undef,defers:=[] };have A:a.tmps.size=fn.ntmps:=by grind
 have d:sH B (Ux s.ps x) fn.ntmps (AJ a) w M:=by refine⟨h.roots,h.norm,h.nodup,h.sQ,h.live,λi hi=>?_,h.pend,h.size,h.frame,h.mine,h.pins,h.still⟩;by_cases hlt:i<s.ps.length;have:=h.slots i hlt;(have e:AJ a i=args.getD i undef:=by simp[AJ,a,E7];simp_all);simp_all;(have:(Ux s.ps x).sl i=.one .dead:=by simp_all[Ux,Iw]);rw[this];trivial
 refine calls_of_wp u hb (wp_mono ((wpIn_wide (n:=0)).1 (Of (ro:=ke) (D:=[]) j N S O c 1 l C d A rfl)) ?_);rintro e Y w' ⟨K,I,X,rfl,p,V,hN,L⟩;simp at p;have E:(∀i,K≠.exit i)/\I.pd=ke/\(I.upto fn.ntmps).outs cx [] fn.ntmps (RA.all s.ps s.rs) (fn.results.toList.map .inl++(Ba s.ps 0).map λi=>.inr (Th s.ps i)) (λy _=>kd y)=kd y:=by grind
 have⟨Q,z,p⟩:=E;have⟨v,k,g⟩:=VE (args:=args) j.toCxTy o V z p b;cases K with|exit i=>simp_all|normal=>exact⟨L,_,k,g⟩|ret=>exact⟨L,_,k,g⟩
end
end Go.Ab
namespace Go.Ab
open Go.ChangeShapes Go.WideShapes
def Wf:(t:Ty)->t.sI->Prop|.int k,n=>(Lit.int k n).wf=true|.str,l=>∀b∈(show List Int from l),0<=b/\b<=255|.list _ t,l|.nl t,l=>∀x∈(show List t.sI from l),Wf t x|.arr n t,l=>(show List t.sI from l).length=n/\∀x∈(show List t.sI from l),Wf t x|.pair a b,x=>Wf a x.1/\Wf b x.2|.bool,_|.unit,_=>True
def HI:(t:Ty)->t.sI->Nat|.str,l=>(show List Int from l).length+1|.list _ t,l|.nl t,l=>1+((show List t.sI from l).map (HI t)).sum|.arr _ t,l=>((show List t.sI from l).map (HI t)).sum|.pair a b,x=>HI a x.1+HI b x.2|.unit,_=>0|.int _,_|.bool,_=>1
structure xO {H:Type} (bulk:DataW H->Nat):Prop where
 one:∀d,1<=bulk d
 str:∀bs,bulk (.lit (.string bs))=bs.length+1
 slice:∀es sp,(es.map bulk).sum+1<=bulk (.slice es sp)
 agg:∀ps,(ps.map bulk).sum<=bulk (.agg ps)
def dZ:Ty->Bool|.list o e=>dZ e&&!o|.nl _=>false|.pair a b=>dZ a&&dZ b|.arr _ t=>dZ t|_=>ka
theorem Yx{α:Type}{f:Nat->Option (α×Dw×List Nat)}{p:α->Prop}{q:Nat->Prop}{g:α->Nat}{b:Nat->Nat}:∀(n i:Nat),(∀j,j<n->∃x R,f (i+j)=kd (x,[],R)/\p x/\g x<=b (i+j)/\∀c∈R,q c)->∃k Rs,Ao f n i=kd (k,[],Rs)/\(∀x∈k,p x)/\(k.map g).sum<=((D7 i n).map b).sum/\∀c∈Rs,q c|0,_,_=>⟨[],[],rfl,by simp,by simp,by simp⟩|n+1,i,h=>by obtain⟨x,R,a,r,d,u⟩:=h 0 (by omega);obtain⟨k,Rs,e,l,m,o⟩:=Yx n (i+1) (λj w=>by have:=h (j+1) (by omega);rwa [show i+(j+1)=i+1+j from by omega]at this);rw[Nat.add_zero]at a d;refine⟨x::k,R++Rs,by simp_all[Ao],λy z=>?_,?_,λc v=>?_⟩;grind;all_goals grind[List.range'_succ]
section
variable {H:Type} {enc:TypeId×Value->H} {P:Program} {w:World} {base:Nat} {sp:Nat->Bool} {held:Bool} {bulk:DataW H->Nat}
theorem PX{τ:Ty}{t:TypeId}(h:AU P τ (.inl t)=ka):P.cellsOf t=τ.cells:=by have:=AZ h;unfold LC at this;unfold Program.cellsOf;grind
theorem a3G{a:Addr}{v:Value}(h:w.cell? a=kd v):a.block<w.heap.size:=by grind[World.cell?]
theorem c0J(hb:xO bulk)(hs:∀b,sp b=ka):∀(t:Ty),(∀(T:TypeId)(n:Nat)(cs:List Value) y,AU P t (.inl T)=ka->dZ t=ka->DataW.trod enc P w base sp held n T cs=kd y->∃x R,AM (cells w) t (λj=>cs[j]?)=kd (x,[],R)/\Wf t x/\HI t x<=bulk y.1/\∀c∈R,c<w.heap.size)/\(∀(fs:List Field)(off n:Nat)(cs:List Value)(v:List (DataW H×List MemPlace)),AU P t (.inr (fs,off))=ka->dZ t=ka->v.length=fs.length->(∀(i:Nat)(f:Field),fs[i]?=kd f->DataW.trod enc P w base sp held n f.type ((cs.drop f.offset).take (P.cellsOf f.type))=v[i]?)->∃x R,AM (cells w) t (λj=>cs[off+j]?)=kd (x,[],R)/\Wf t x/\HI t x<=((v.map (·.1)).map bulk).sum/\∀c∈R,c<w.heap.size):=by intro t;induction t with|int k=>(refine⟨λT n cs y d _ h=>?_,λfs off n cs v d=>by simp[AU]at d⟩;obtain⟨m,rfl,rfl,hw⟩:=DataW.trod_int (PO d) h;exact⟨m,[],by simp[AM],hw,hb.one _,by simp⟩)|bool=>((refine⟨λT n cs y d _ h=>?_,λfs off n cs v d=>by simp[AU]at d⟩;have K:P.underlying T=kd .bool:=by simp[AU]at d;grind);obtain⟨m,rfl,rfl⟩:=DataW.trod_bool K h;exact⟨m,[],by rfl,trivial,hb.one _,by simp⟩)|str=>((refine⟨λT n cs y d _ h=>?_,λfs off n cs v d=>by simp[AU]at d⟩;have K:P.underlying T=kd .string:=by simp[AU]at d;grind);obtain⟨s,rfl,rfl,-⟩:=DataW.trod_string K h;refine⟨_,[],by rfl,λb g9=>?_,?_,by simp⟩;obtain⟨u,-,rfl⟩:=C1.1 g9;have:=u.toNat_lt;omega;rw[hb.str];simp[HI])|unit=>refine⟨λT n cs y d _ h=>⟨(),[],rfl,trivial,Nat.zero_le _,by simp⟩,λfs off n cs v d _ _ _=>⟨(),[],rfl,trivial,Nat.zero_le _,by simp⟩⟩|pair a b iha ihb=>((have S:(∀(fs:List Field)(off n:Nat)(cs:List Value)(v:List (DataW H×List MemPlace)),AU P (.pair a b) (.inr (fs,off))=ka->dZ (.pair a b)=ka->v.length=fs.length->(∀(i:Nat)(f:Field),fs[i]?=kd f->DataW.trod enc P w base sp held n f.type ((cs.drop f.offset).take (P.cellsOf f.type))=v[i]?)->∃x R,AM (cells w) (.pair a b) (λj=>cs[off+j]?)=kd (x,[],R)/\Wf (.pair a b) x/\HI (.pair a b) x<=((v.map (·.1)).map bulk).sum/\∀c∈R,c<w.heap.size):=by intro fs off n cs v d A hl hf;cases fs with|nil=>simp[AU]at d|cons f r=>simp[AU]at d;obtain⟨⟨⟨ho,g5⟩,C⟩,htb⟩:=d;simp[dZ]at A;cases v with|nil=>grind|cons x0 v=>(have h0:=hf 0 f rfl;simp at h0;rw[PX g5,ho]at h0;have h7:∀j,j<a.cells->((cs.drop off).take a.cells)[j]?=cs[off+j]?:=λj I=>by grind);obtain⟨x,R,D,F,V,N⟩:=iha.1 f.type n _ x0 g5 A.1 h0;obtain⟨y,R',k1,k2,k3,k4⟩:=ihb.2 r (off+a.cells) n cs v htb A.2 (by grind) (λi f' hi=>by simpa using hf (i+1) f' (by grind));refine⟨(x,y),R++R',?_,⟨F,k2⟩,?_,λc hc=>?_⟩;have e1:=AI (m':=cells w) a (rd':=λj=>cs[off+j]?) D (λj I=>(h7 j I).symm) (λ_ _ _=>rfl);grind[AM];all_goals grind[HI]);(refine⟨λT n cs y d A h=>?_,S⟩;obtain⟨fs,K,k0⟩:∃fs:Array Field,P.underlying T=kd (.struct fs)/\AU P (.pair a b) (.inr (fs.toList,0))=ka:=by simp[AU]at d;obtain⟨-,d⟩:=d;split at d;rename_i fs K;refine⟨fs,K,?_⟩;split at d;rename_i f r hr;rw[hr];simp only[AU,F3];omega;grind;grind);obtain⟨v,m,-,rfl,hl,g0,hf⟩:=DataW.trod_struct K h;obtain⟨x,R,D,F,V,N⟩:=S fs.toList 0 m cs v k0 A (by omega) (λi f hi=>hf i f (by grind));refine⟨x,R,?_,F,B9 V (hb.agg _),N⟩;grind)|list o e ih=>((refine⟨λT n cs y d A h=>?_,λfs off n cs v d=>by simp[AU]at d⟩;obtain⟨Z,K,E,C⟩:=Cj d;simp[dZ]at A;obtain⟨k6,rfl⟩:=A;rcases DataW.trod_slice K h with⟨rfl,rfl⟩|⟨a,L,h4,l,g6,m,-,rfl,rfl,k9,h8,k8,h9,h5,Y,-⟩;exact⟨[],[],by rfl,by simp[Wf],by simp only[HI];exact hb.one _,by simp⟩;have B:h4=0\/a.spot=ke:=by by_cases hc0:h4=0;omega;refine .inr ?_;(have M:∀{o:Nat}{z},o=0->(w.cells? base (a.add (o*P.cellsOf Z)) (P.cellsOf Z)).bind (DataW.trod enc P w base sp held m Z)=kd z->a.spot=ke:=λho O=>by subst ho;obtain⟨U,h2,-⟩:=B8.1 O;rw[PX E]at h2;obtain⟨-,k5,X⟩:=World.cells?_some h2;have h3:=X 0 C;rw[Nat.zero_mul,Addr.add_zero',Addr.add_zero',lG (by omega)]at h3;grind[World.cell?_spot]);by_cases hl0:L=0;obtain⟨a2,k7⟩:=Y (hs _);have O:=k7 0 (by omega);grind;have O:=h5 0 (by omega);grind);(have M:∀i,i<L->∃x R,AM (cells w) e (λj=>cells w a.block (a.off+(i*e.cells+j)))=kd (x,[],R)/\Wf e x/\HI e x<=bulk ((l.getD i (.nil,[])).1)/\(∀c∈R,c<w.heap.size)/\a.block<w.heap.size:=λi hi=>by(have O:=h5 i hi;rw[lG (by omega)]at O;obtain⟨U,h2,h3⟩:=B8.1 O;rw[PX E]at h2;obtain⟨-,k5,X⟩:=World.cells?_some h2;have B:a.spot=ke:=B.resolve_left (by omega);obtain⟨x,R,D,F,V,N⟩:=ih.1 Z m U _ E k6 h3;have G:∀j,j<e.cells->cells w a.block (a.off+(i*e.cells+j))=U[j]?:=λj I=>by rw[<-X j I];(have:a=⟨a.block,a.off,ke⟩:=by rw[<-B]);rw[this,add_plain,add_plain,Nat.add_assoc];rfl);refine⟨x,R,AI e D (λj I=>G j I) (λ_ _ _=>rfl),F,by simp_all,N,?_⟩;have:=G 0 C;rw[lG (by omega)]at this;exact a3G (a:=⟨a.block,_,ke⟩) this);obtain⟨v,Rs,D,F,V,N⟩:=Yx (p:=Wf e) (q:=λc=>c<w.heap.size) (g:=HI e) (b:=λi=>bulk ((l.getD i (.nil,[])).1)) L 0 (λj I=>by obtain⟨x,R,k1,k2,k3,k4,-⟩:=M j I;rw[F3];exact⟨x,R,k1,k2,k3,k4⟩);(have Q:((D7 0 L).map λi=>bulk ((l.getD i (.nil,[])).1)).sum=((l.map (·.1)).map bulk).sum:=by rw[F1,Go.Deep.map_by_index l (.nil,[]) (bulk∘(·.1)),h9,C6];rfl);have g7:=hb.slice (l.map (·.1)) (g6.map (·.1));by_cases hn:L=0;subst hn;simp only[Ao,sj,pJ]at D;obtain⟨rfl,-,-⟩:=D;exact⟨[],[],by simp only[AM,CW,C8];rw[if_pos ⟨B,h8⟩];rfl,by simp[Wf],by grind[HI],by simp⟩;refine⟨v,a.block::([]++Rs),?_,F,?_,λc hc=>?_⟩;simp only[AM,CW,C8,B,h8,and_self,if_true,D,A8,if_false,if_neg hn,F4];rfl;grind[HI];rcases mC.1 hc with rfl|hc;obtain⟨_,_,_,_,_,_,h6⟩:=M 0 (by omega);omega;grind)|nl e ih=>grind[dZ]|arr n e ih=>(refine⟨λT f cs y d A h=>?_,λfs off n cs v d=>by simp[AU]at d⟩;obtain⟨Z,K,E,C⟩:=PL d;obtain⟨v,m,-,rfl,hl,g0,hf⟩:=DataW.trod_array K h;simp[dZ]at A;have M:∀i,i<n->∃x R,AM (cells w) e (λj=>cs[i*e.cells+j]?)=kd (x,[],R)/\Wf e x/\HI e x<=bulk ((v.getD i (.nil,[])).1)/\∀c∈R,c<w.heap.size:=λi hi=>by have O:=hf i hi;rw[lG (by omega),PX E]at O;obtain⟨x,R,D,F,V,N⟩:=ih.1 Z m _ _ E A O;refine⟨x,R,AI e D (λj I=>?_) (λ_ _ _=>rfl),F,by simp_all,N⟩;simp_all);obtain⟨ys,Rs,D,F,V,N⟩:=Yx (p:=Wf e) (q:=λc=>c<w.heap.size) (g:=HI e) (b:=λi=>bulk ((v.getD i (.nil,[])).1)) n 0 (λj I=>by obtain⟨x,R,k1,k2,k3,k4⟩:=M j I;rw[F3];exact⟨x,R,k1,k2,k3,k4⟩);(have Q:((D7 0 n).map λi=>bulk ((v.getD i (.nil,[])).1)).sum=((v.map (·.1)).map bulk).sum:=by rw[F1,Go.Deep.map_by_index v (.nil,[]) (bulk∘(·.1)),g0,C6];rfl);refine⟨ys,Rs,by simp[AM];exact D,⟨Bb _ _ D,F⟩,?_,N⟩;simp[HI];exact B9 (B9 V (Nat.le_of_eq Q)) (hb.agg _)
end
end Go.Ab
namespace Go.Ab
open Go.ChangeShapes Go.WideShapes Go.RowKit
def b4u(ps:List PA)(x:(Eh (ps.map PA.ty)).sI):Prop:=∀it∈BJ ps x,Wf it.1.ty it.2
def a5K(ps:List PA)(x:(Eh (ps.map PA.ty)).sI):Nat:=((BJ ps x).map λit=>HI it.1.ty it.2).sum
def UR(P:Program):List PA->List TypeId->Bool|[],[]=>true|.v t::ps,T::Ts=>AU P t (.inl T)&&(dZ t&&(P.readableRec T&&(A4 (T<P.types.size)&&UR P ps Ts)))|_,_=>kc
section
variable {H:Type} {enc:TypeId×Value->H} {P:Program} {w:World} {base:Nat} {sp:Nat->Bool} {held:Bool} {bulk:DataW H->Nat}
theorem a5L(hb:xO bulk)(A:∀b,sp b=ka){t:Ty}{T:TypeId}{v:Value}{d:DataW H}{B:List MemPlace}{r:Reach}{e:Nat}(k:AU P t (.inl T)=ka)(u:dZ t=ka)(f:Value.okWide P w r e T v)(h:DataW.Trod enc P w base sp held T v d B):
  ∃x,CK (cells w) (λc=>c<w.heap.size) t x v/\Wf t x/\HI t x<=bulk d:=by
 obtain⟨n,z⟩:=h;have m:t.isAgg=ka->∃i,v=.agg i/\i.size=P.cellsOf T/\Row.okWide P w r e T i:=λa=>by
  cases t<;>simp only[Ty.isAgg,A8]at a
  all_goals
   simp only[AU,HC]at k;obtain⟨-,k⟩:=k;split at k;rename_i j;simp only[Value.okWide,j]at f;omega;simp_all
 have l:t.isAgg=kc->Cell.okWide P w r e T v:=λa=>by
  cases t<;>simp only[Ty.isAgg,Bool.true_eq_false]at a
  all_goals
   simp only[AU,HC]at k;obtain⟨-,k⟩:=k;split at k;rename_i j;simp only[Value.okWide,j]at f;exact f;cases k
 have g:t.isAgg=kc->CL v=ka:=λa=>by
  have:=l a
  cases v<;>first|rfl|skip
  all_goals
   exfalso;unfold Cell.okWide at this;split at this<;>first|(rename_i y;cases y;done)|skip
   all_goals
    unfold Cell.ok at this;simp_all
 obtain⟨x,R,C,o,p,q⟩:=(c0J hb A t).1 T n v.cells.toList _ k u z;refine⟨x,⟨λa=>?_,g,R,?_,q⟩,o,p⟩;all_goals grind[PX]
theorem b0A(hb:xO bulk)(I:∀b,sp b=ka){r:Reach}{O:Nat}:∀(a:List PA)(e:List TypeId)(i:List Value)(l:List (DataW H)) (p:List MemPlace),UR P a e=ka->(∀(j:Nat) T v,e[j]?=kd T->i[j]?=kd v->Value.okWide P w r O T v)->DataW.TrodAll enc P w base sp held e i l p->∃x:(Eh (a.map PA.ty)).sI,i.length=a.length/\b4u a x/\a5K a x<=(l.map bulk).sum/\l.length=a.length/\∀(k:Nat) it v,(BJ a x)[k]?=kd it->i[k]?=kd v->∃t y,it=⟨.v t,y⟩/\CK (cells w) (λc=>c<w.heap.size) t y v|[],[],i,l,p,_,_,h=>(by obtain⟨rfl,rfl,rfl⟩:=trodAll_nil h;exact⟨(),rfl,by simp[b4u,BJ],by simp[a5K,BJ],rfl,by simp⟩)|[.v t],T::e,i,l,p,f,z,h=>(by simp only[UR,HC]at f;obtain⟨C,D,-,-,G⟩:=f;obtain⟨v,o,d,m,q,N,rfl,rfl,rfl,A,B⟩:=trodAll_cons h;cases e with|cons T' e=>simp[UR]at G|nil=>obtain⟨rfl,rfl,rfl⟩:=trodAll_nil B;have⟨x,R,K,L⟩:=a5L hb I C D (z 0 T v rfl rfl) A;refine⟨x,rfl,λit g=>by obtain rfl:=List.mem_singleton.1 g;exact K,by simp[a5K,BJ];exact L,rfl,λk it u E F=>?_⟩;cases k with|zero=>simp[BJ]at E F;grind|succ k=>simp_all)|.v t::U::a,T::e,i,l,p,f,z,h=>(by simp only[UR,HC]at f;obtain⟨C,D,-,-,G⟩:=f;obtain⟨v,o,d,m,q,N,rfl,rfl,rfl,A,B⟩:=trodAll_cons h;have⟨x,R,K,L⟩:=a5L hb I C D (z 0 T v rfl rfl) A;have⟨y,X,S,M,Y,Z⟩:=b0A hb I (U::a) e o m N G (λj T v V Q=>z (j+1) T v (by simp_all) (by simp_all)) B;refine⟨(x,y),by grind,λit g=>?_,?_,by grind,λk it u E F=>?_⟩;rcases mC.1 g with rfl|g;exact K;exact S it g;simp[a5K,BJ]at M|-;exact Nat.add_le_add L M;cases k with|zero=>simp[BJ]at E F;grind|succ k=>grind[BJ])|.r _ _::_,_,_,_,_,f,_,_=>by simp[UR]at f|.v _::_,[],_,_,_,f,_,_=>by simp[UR]at f|[],_::_,_,_,_,f,_,_=>by simp[UR]at f
theorem b4v(m:laidOutB P=ka){W l:World}{a:Nat->Bool}:∀(i:List PA)(k:List TypeId)(c:List Value)(b:List (DataW H)) (p:List MemPlace),UR P i k=ka->DataW.TrodAll enc P W base (λ_=>ka) ka k c b p->(∀q∈p,W.sameAt l q)->(∀q∈p,a q.block=ka)->DataW.TrodAll enc P l base a ka k c b p|[],[],c,b,p,_,h,_,_=>(by obtain⟨rfl,rfl,rfl⟩:=trodAll_nil h;rfl)|.v t::i,T::k,c,b,p,g,h,o,hsp=>(by simp[UR]at g;obtain⟨-,-,y,z,A⟩:=g;obtain⟨v,j,d,e,q,B,rfl,rfl,rfl,u,w⟩:=trodAll_cons h;exact trodAll_cons_mk (WideElems.Trod_stays m y z u (λx f=>o x (A7 _ f)) (λx f=>hsp x (A7 _ f))) (b4v m i k j e B A w (λx f=>o x (A6 _ f)) (λx f=>hsp x (A6 _ f))))|.r _ _::_,_,_,_,_,g,_,_,_=>by simp[UR]at g|.v _::_,[],_,_,_,g,_,_,_=>by simp[UR]at g|[],_::_,_,_,_,g,_,_,_=>by simp[UR]at g
theorem gJ:∀(g:List PA)(f:List TypeId)(i:Nat),UR P g f=ka->Ba g i=[]|[],_,_,_=>rfl|.v t::g,T::f,i,h=>by simp only[UR,HC]at h;exact gJ g f (i+1) h.2.2.2.2|.v _::_,[],_,h=>by simp[UR]at h|.r _ _::_,_,_,h=>by simp[UR]at h
theorem a3H{bulk:DataW H->Nat}(D:xO bulk){f:FuncId}{fn:Func}{s:rZ}{k:ChangeSpec}{tb:TypeId}{N:Nat}{G:Xn}(hF:HH P G f s)(hl:laidOutB P=ka)(I:UR P s.ps fn.params.toList=ka) (g7:s.rs=[.v .bool])(g9:fn.resultTypes=#[tb])(k1:P.underlying tb=kd .bool)(o:k.vars=[])(O:∀w:List (DataW H),w.length=s.ps.length->k.fn H w={ results:=[.lit (.bool ka)],args:=w }) (h0:∀x,b4u s.ps x->a5K s.ps x<=N->∃y,s.F x=kd y/\(Fg (RA.all s.ps s.rs) y)[0]?=kd ⟨.v .bool,ka⟩) {W:World}{b0:Nat}{args:Array Value}{w gs:List (DataW H)}{u:List MemPlace}{d C l:Bool} (U:∀g t x,G g=kd ⟨t,x⟩->g<W.heap.size/\AM (Ag W ke) t ((Src.at g 0).rd (Ag W ke))=kd (x,[],[])) (h6:∀(j:Nat) t v,fn.params[j]?=kd t->args[j]?=kd v->Value.okWide P W .any b0 t v)(hW:DataW.Whole enc P fn.params.toList k.vars d W args.toList w gs u)(hN:((w++gs).map bulk).sum<=N):Calls P f args W λe W'=>∃v,e=.returned v/\k.post enc P fn d C l kc W args v W':=by
 have g0:=hW.lt;have h8:=hW;obtain⟨p,q,hA,hV,rfl,k3,k4⟩:=hW;rw[o]at hV;obtain⟨rfl,rfl⟩:=trodVars_none hV;have⟨x,g1,g2,g3,g4,g5⟩:=b0A D (λ_=>rfl) s.ps fn.params.toList args.toList w p I (λj T v hT hv=>h6 j T v (by simp_all) (by simp_all)) hA;rw[C7]at hN;have⟨y,hy,E⟩:=h0 x g2 (B9 g3 hN);have g6:=gJ s.ps fn.params.toList 0 I;let B:Base:={ size:=W.heap.size,hp:=λb=>W.heap[b]?,F:=λ_=>False,S:=λ_=>True,io:=EK W };let M:Gh:=⟨λ_=>.one undef,λ_=>[],ke⟩;have k2:∀n,(Ux s.ps x).rt n=ke:=λn=>by cases hr:(Ux s.ps x).rt n with|none=>rfl|some r=>obtain⟨i,c,a,y,-,X,-⟩:=a8t hr;have Z:=(lS.1 X).1;rw[Iw,<-g1]at Z;obtain⟨t,y',e,-⟩:=g5 i _ _ X (lG Z);grind
 have k0:args.size=s.ps.length:=by omega
 have h5:sH B (Ux s.ps x) s.ps.length (λi=>args.getD i undef) W M:=by(refine⟨λn r hr=>?_,λn _=>rfl,λn=>by grind,λn n' _ c hc=>by grind,λn p hp=>by grind,λi X=>?_,trivial,C5 _,λb _ _=>rfl,λc hc=>?_,λi b hb=>?_,rfl⟩;simp_all;have h9:i<args.toList.length:=by omega);(have V:=lG h9;have Y:i<(BJ s.ps x).length:=by simp_all[Iw]);(have⟨t,z,h1,Q⟩:=g5 i _ _ (lG Y) V;have he:args.getD i undef=args.toList[i]:=by simp_all);simp only[Ux,lG Y,h1,he];exact CK.wJ (CK.frame Q (λ_ _ _=>rfl) (λc hc=>⟨hc,.inl trivial,λ⟨n,hn⟩=>by grind⟩));have⟨n,hn⟩:=hc;grind;simp_all
 refine(hF W B M args x y (λg t z hg=>⟨(U g t z hg).1,trivial,λh=>h,W,rfl,(U g t z hg).2⟩) hy rfl (λ_=>rfl) rfl k0 h5 (λi X _=>by simp_all)).mono ?_;rintro e W' ⟨vr,Ls,rfl,h7,A⟩;rw[g7]at h7;rw[g6,F4,C7]at A;obtain⟨v,rfl⟩:∃v,vr=[v]:=by match vr,h7 with|[v],_=>simp
 have h4:=A.ll;rw[<-A.lv]at h4;obtain⟨L,rfl⟩:∃L,Ls=[L]:=by match Ls,h4 with|[L],_=>simp
 obtain⟨hv,-⟩:=A.ok 0 _ v L E rfl rfl;have hv:v=.bool ka:=by obtain⟨-,Q,R,h3,-⟩:=hv;have Q:=Q rfl;simp[AM]at h3;split at h3;rename_i b hb;simp at h3;obtain⟨rfl,-⟩:=h3;cases v<;>simp[CL,Value.cells]at Q hb;grind;simp_all
 subst hv;have m:∀b,b<W.heap.size->W'.heap[b]?=W.heap[b]?:=λb hb=>A.frame b hb (λh=>h);have K:=O w g4;refine⟨_,rfl,w,[],p++[],[],p,[],h8,?_,?_,?_,⟨?_,?_,λi X=>?_⟩,λh=>by grind⟩;rw[C7,K,g9];exact trodAll_cons_mk (p:=[]) (p':=[]) (shut_bool k1 _) trodAll_mk0
 rw[C7,K];refine b4v hl s.ps _ _ _ _ I hA (λq hq=>?_) (λq hq=>by simp_all);have hb:=g0 q (by simp_all);cases q with|cell b k5=>simp only[World.sameAt,World.cell?];rw[m b hb]|map b=>exact m b hb
 rw[C7,K,o];rfl;have:=A.still;grind[EK];have:=A.still;grind[EK];grind
end
end Go.Ab
namespace Go.Ab
def Mo:Ty->List Field->Bool
 | .pair (.int _) b, f :: r => f.name != "_" && Mo b r
 | .pair .bool b, f :: r => f.name != "_" && Mo b r
 |.unit,[]=>ka
 |_,_=>kc
def c0K(P:Program)(τ:Ty)(t:TypeId):Bool:= !P.stoodInHeld t&&(!P.eqGuardType P.depth t&&(match P.underlying t with|some (.struct fs)=>Mo τ fs.toList|_=>kc))
section
variable {P:Program} {w:World} {cx:Cx}
theorem JM{τ:Ty}{t:TypeId}(f:AU P τ (.inl t)=ka)(k:τ.isAgg=kc){g:Array Value}{off:Nat}{v:Value}(hv:g[off]?=kd v):(part t g off).run P w=.ok v w:=by have h:=Jd f w;simp_all[part]
theorem a3I{m:Es}{d:Nat}{F ys:Array Value}:∀(τ:Ty)(fs:List Field)(off:Nat),AU P τ (.inr (fs,off))=ka->Mo τ fs=ka->∀{x y R u},AM m τ (λj=>F[off+j]?)=kd (x,[],R)->AM m τ (λj=>ys[off+j]?)=kd (y,[],u)->(Op.eqFields (d+1) F ys fs).run P w=.ok (Xm τ x y) w:=by(have c:∀(a b:Ty)(off:Nat)(z:Array Value)(x:(Ty.pair a b).sI) R,AM m (.pair a b) (λj=>z[off+j]?)=kd (x,[],R)->∃G H,AM m a (λj=>z[off+j]?)=kd (x.1,[],G)/\AM m b (λj=>z[off+a.cells+j]?)=kd (x.2,[],H):=by intro a b off z x R h;simp[AM]at h;split at h;grind;rename_i x1 V Y g;split at h;grind;rename_i x2 X Z N;have⟨M,h⟩:=Prod.mk.inj (Option.some.inj h);subst M;obtain⟨v,-⟩:=Prod.mk.inj (Prod.mk.inj (Option.some.inj h)).2;obtain⟨rfl,rfl⟩:=List.append_eq_nil_iff.1 v;grind);intro τ;induction τ with|pair a b iha ihb=>(intro fs off o l x y R u I K;cases fs with|nil=>simp[AU]at o|cons f r=>simp[AU]at o;obtain⟨⟨⟨v,i⟩,-⟩,htb⟩:=o;have⟨G,H,g,N⟩:=c a b off F x R I;have⟨Q,S,e,T⟩:=c a b off ys y u K;cases a with|int k=>(simp[Mo]at l;simp[AM]at g e;split at g;rename_i U p D;split at e;rename_i L q E;rw[Option.ite_none_right_eq_some]at g e;obtain⟨rfl,g⟩:=g;obtain⟨rfl,e⟩:=e;have g:=Prod.mk.inj (Option.some.inj g);have e:=Prod.mk.inj (Option.some.inj e);have A:=JM (w:=w) i rfl D;have B:=JM (w:=w) i rfl E;have C:=run_equalIn_int (P:=P) w d f.type L L p q (PO i);simp only[Op.eqFields,Sem.run_ite,ne_eq,l.1,not_false_eq_true,if_true,Sem.run_bind,v,A,B,C,Result.andThen_ok,Xm];rw[<-g.1,<-e.1];cases hb:p==q;simp;grind;simp_all;simp_all)|bool=>((simp[Mo]at l;simp[AM]at g e;have O:P.underlying f.type=kd .bool:=by simp[AU]at i;grind);split at g;rename_i p D;split at e;rename_i q E;have g:=Prod.mk.inj (Option.some.inj g);have e:=Prod.mk.inj (Option.some.inj e);have A:=JM (w:=w) i rfl D;have B:=JM (w:=w) i rfl E;have C:=run_equalIn_bool (P:=P) w d f.type p q O;simp only[Op.eqFields,Sem.run_ite,ne_eq,l.1,not_false_eq_true,if_true,Sem.run_bind,v,A,B,C,Result.andThen_ok,Xm];rw[<-g.1,<-e.1];cases hb:p==q;simp;grind;simp_all;simp_all)|_=>simp[Mo]at l)|unit=>(intro fs off o l x y R u I K;cases fs with|nil=>rfl|cons f r=>simp[Mo]at l)|_=>intro fs off o l;simp[Mo]at l
theorem a8h.of{τ:Ty}{t:TypeId}(k:AU P τ (.inl t)=ka)(h:c0K P τ t=ka):a8h P τ t:=by
 simp[c0K]at h;have⟨F,E,c⟩:=h;intro m D x y u v w G H o q;split at c
 ·rename_i i f;have j:P.fieldsOf t=i:=by simp_all[Program.fieldsOf]
  have g:τ.isAgg=ka:=by cases τ<;>first|rfl|(simp[Mo]at c)
  obtain⟨d,-,R,p,-⟩:=o;obtain⟨e,-,C,r,-⟩:=q;obtain⟨A,rfl,-⟩:=d g;obtain⟨B,rfl,-⟩:=e g;have l:AU P τ (.inr (i.toList,0))=ka:=by
   cases τ with
   |pair a b=>
    simp[AU,f]at k;obtain⟨-,k⟩:=k;split at k;all_goals simp_all[AU]
   |unit=>
    simp_all[AU]
   |_=>simp[Mo]at c
  have z:(Op.equalIn 10000 t (.agg A) (.agg B)).run P w=.ok (Xm τ x y) w:=by
   grind[run_equalIn_struct,a3I,Value.cells]
  simp_all[run_eqGuard_agg,run_eql_struct,run_neq_struct]
 simp_all
def b4w(P:Program)(τ:Ty)(t:TypeId):Bool:= !P.eqGuardType P.depth t&&(match τ,P.underlying t with|.arr n (.int k),kd (.array n' e)=>n'==n&&(P.cellsOf e==1&&((P.info? e).isSome&&AU P (.int k) (.inl e)))|_,_=>kc)
theorem gK{d e:Nat}{k:IntKind}(g:AU P (.int k) (.inl e)=ka){f ys:Array Value}{x y:List Int}(c:∀i (h:i<x.length),f[i]?=kd (.int k x[i]))(l:∀i (h:i<y.length),ys[i]?=kd (.int k y[i])):∀(is:List Nat),(∀i∈is,i<x.length/\i<y.length)->(Op.eqItems (d+1) e 1 f ys is).run P w=.ok (is.all λi=>x[i]?==y[i]?) w|[],_=>by rfl|i::is,h=>by have⟨a,b⟩:=h i (by simp);have m:=JM (w:=w) g rfl (show f[i*1]?=_ by rw[Nat.mul_one];exact c i a);have o:=JM (w:=w) g rfl (show ys[i*1]?=_ by rw[Nat.mul_one];exact l i b);have p:=run_equalIn_int (P:=P) w d e k k x[i] y[i] (PO g);have v:=gK (d:=d) g c l is (λj u=>h j (by grind));simp only[Op.eqItems,Sem.run_bind,m,o,p,Result.andThen_ok];have q:x[i]?=kd x[i]:=lG a;have r:y[i]?=kd y[i]:=lG b;cases hb:x[i]==y[i];all_goals simp_all
theorem b0B:∀(x y:List Int),x.length=y.length->((C9 x.length).all λi=>x[i]?==y[i]?)=((F2 (λ(a b:Int)=>a==b) x y).all id)|[],[],_=>rfl|a::x,b::y,h=>by have g:=b0B x y (by simpa using h);rw[lC,List.range_succ_eq_map,C4,List.all_map,List.zipWith_cons_cons,C4,<-g];simp[Function.comp_def]
theorem a8h.yU{τ:Ty}{t:TypeId}(h:b4w P τ t=ka):a8h P τ t:=by
 simp[b4w]at h;obtain⟨hg,h⟩:=h;split at h;rotate_left;grind;rename_i n k f e l;simp at h;obtain⟨rfl,Q,q,S⟩:=h;obtain⟨i,q⟩:=A3.1 q;intro m Sh x y u v w xo yo T U;obtain⟨C,-,R,D,-⟩:=T;obtain⟨E,-,R',F,-⟩:=U;obtain⟨M,rfl,-⟩:=C rfl;obtain⟨N,rfl,-⟩:=E rfl;have g:∀{I:Array Value}{z:List Int}{R},AM m (.arr f (.int k)) (λj=>(Value.agg I).cells[j]?)=kd (z,[],R)->z.length=f/\∀i (h:i<z.length),I[i]?=kd (.int k z[i]):=by
  intro I z R H;simp only[AM]at H;have K:z.length=f:=Bb f 0 H;refine⟨K,λi c=>?_⟩;obtain⟨a,o,r,A,B,A',B',O,p,-⟩:=Bc f 0 i H (K▸c);have p:z[i]?=kd (show Int from a):=p;have p:z[i]=(show Int from a):=Option.some.inj ((lG c).symm.trans p);simp[Ty.cells,Value.cells]at O;grind
 obtain⟨G,V⟩:=g D;obtain⟨Y,X⟩:=g F;have Z:(Op.equalIn 10000 t (.agg M) (.agg N)).run P w=.ok (Xm (.arr f (.int k)) x y) w:=by
  rw[run_equalIn_array w 9999 M N l q,Q,gK (d:=9998) S V X _ (λj hj=>by simp_all)]
  have:=b0B x y (by omega)
  rw[G]at this;rw[this];have L:(B7 (show List Int from x)==B7 (show List Int from y))=ka:=by simp_all
  show _=Result.ok ((F2 (λ(a b:Int)=>a==b) x y).all id&&(B7 (show List Int from x)==B7 (show List Int from y))) w;simp_all
 simp_all[run_eqGuard_agg,run_eql_struct,run_neq_struct]
theorem eA{α:Type}:∀(l:List (Nat×α)) (t:Nat) (x:α),find l t=kd x->(t,x)∈l|[],_,_,h=>by simp[find]at h|(k,y)::r,t,x,h=>by simp only[find]at h;rcases Ah h with⟨f,g⟩|⟨-,h⟩;simp only[sj]at g;(have:k=t:=by simpa using f);rw[this,g];exact C2 ..;exact A9 _ (eA r t x h)
def b9l(P:Program)(tab:List (Nat×Ty)):Bool:=tab.all λp=>A4 (p.2.sh=p.2)&&AU P p.2 (.inl p.1)
def b9m(P:Program)(l:List Nat):Bool:=l.all λt=>match P.underlying t with|some (.pointer _)=>true|_=>kc
def b9n(P:Program)(tab:List (Nat×Ty))(l:List Nat):Bool:=l.all λt=>match find tab t with|some τ=>!τ.isAgg || (c0K P τ t || b4w P τ t)|none=>ka
theorem CxTy.of{tab:List (Nat×Ty)}{l q:List Nat}(g:∀t,cx.T t=find tab t)(c:∀t,cx.E t=l.contains t)(d:∀t,cx.Q t=q.contains t)(k:b9l P tab=ka)(a:b9m P q=ka)(b:b9n P tab l=ka):CxTy P cx:=by(have f:∀t τ,cx.T t=kd τ->τ.sh=τ/\AU P τ (.inl t)=ka:=λt τ h=>by rw[g]at h;have:=lA.1 k _ (eA _ _ _ h);simp_all);refine⟨f,λt e=>?_,λt τ he hτ ha=>?_⟩;rw[d]at e;have:=lA.1 a t (by simp_all);grind;rw[c]at he;have:=lA.1 b t (by simp_all);rw[<-g,hτ]at this;simp[ha]at this;exact this.elim (a8h.of (f t τ hτ).2) a8h.yU
theorem uS.of{fs:List (Nat×rZ)}(h:CxTy P cx)(k:∀f,cx.C f=find fs f)(a:∀p∈fs,a5p P cx.G p.1 p.2):uS P cx:=⟨h,λf s g=>by rw[k]at g;exact a _ (eA _ _ _ g)⟩
theorem a0{α:Type}{p:α->Prop}:∀x∈([]:List α),p x:=λ_ h=>by grind
theorem b4x{G:Xn}{a:Nat×rZ}{l:List (Nat×rZ)}(h:a5p P G a.1 a.2)(f:∀x∈l,a5p P G x.1 x.2):∀x∈a::l,a5p P G x.1 x.2:=λx g=>by rcases mC.1 g with rfl|g;exact h;exact f x g
theorem a1{G:Xn}{a:Nat×rZ}{l:List (Nat×rZ)}(h:HH P G a.1 a.2/\Yp P a.1)(g:∀x∈l,a5p P G x.1 x.2):∀x∈a::l,a5p P G x.1 x.2:=b4x (.inl h) g
theorem b7y{G:Xn}{a:Nat×rZ}{l:List (Nat×rZ)}(h:b3Y P G a.1 a.2)(g:∀x∈l,a5p P G x.1 x.2):∀x∈a::l,a5p P G x.1 x.2:=b4x (.inr h) g
end
def oC{α:Type}(x:List α):Option (List α):=bif List.isEmpty x then mF (kd ([]:List α)) (bif BM (0+B7 x)then kd (E5 [] x)else ke)else(bif BM (0+B7 x)then kd (E5 [] x)else ke)
def Yy{α:Type}(x:List α):Option (List α):=bif BM (0+B7 x)then kd x else ke
theorem Yz{α:Type}(x:List α):oC x=Yy x:=by unfold oC Yy;cases x with|nil=>exact a8a _|cons a x=>rfl
section
variable {α:Type} {f f':Nat->Option (α×Dw×List Nat)}
theorem TC:∀(n i:Nat){x},(∀j y,f j=kd y->f' j=kd y)->Ao f n i=kd x->Ao f' n i=kd x|0,_,_,_,h=>h|n+1,i,x,g,h=>by simp only[Ao]at h|-;split at h;cases h;rename_i l b d k;rw[g _ _ k];simp only[];split at h;cases h;rename_i m c e a;rw[TC n (i+1) g a];exact h
end
theorem Og{m m':Es}(f:∀b j v,m b j=kd v->m' b j=kd v):∀(t:Ty){rd rd':Nat->Option Value}{x},(∀j v,rd j=kd v->rd' j=kd v)->AM m t rd=kd x->AM m' t rd'=kd x|.int k,rd,rd',x,g,h=>by grind[AM]|.bool,rd,rd',x,g,h=>by grind[AM]|.str,rd,rd',x,g,h=>by grind[AM]|.unit,rd,rd',x,g,h=>h|.pair a b,rd,rd',x,g,h=>(by simp only[AM]at h|-;split at h;cases h;rename_i D u A l;rw[Og f a g l];simp only[];split at h;cases h;rename_i E w B p;rw[Og f b (λj v=>g _ v) p];exact h)|.arr n t,rd,rd',x,g,h=>(by simp only[AM]at h|-;exact TC n 0 (λj y e=>Og f t (λi v=>g _ v) e) h)|.list o t,rd,rd',x,g,h=>(by simp[AM]at h|-;unfold CW at h|-;split at h;simp_all;rename_i a n c d;rw[g _ _ d];simp;split at h;rename_i r;rw[if_pos r];split at h;grind;rename_i F z C q;rw[TC n 0 (λj y e=>Og f t (λi v d=>f _ _ _ d) e) q];omega;simp_all;simp_all)|.nl t,rd,rd',x,g,h=>by grind[AM]
theorem Src.vQ{m m':Es}(g:∀b j v,m b j=kd v->m' b j=kd v)(s:Src):∀j v,s.rd m j=kd v->s.rd m' j=kd v:=by intro j v h;cases s with|one u=>exact h|_=>exact g _ _ _ h
theorem Oh{m m':Es}(f:∀b j v,m b j=kd v->m' b j=kd v):∀(p:BB)(t:Ty)(s:Src){x},CR m p t s=kd x->CR m' p t s=kd x|[],t,s,x,h=>h|.fst::p,t,s,x,h=>(by unfold CR at h|-;split at h;exact Oh f p _ _ h;cases h)|.snd::p,t,s,x,h=>(by unfold CR at h|-;split at h;exact Oh f p _ _ h;cases h)|.idx i::p,t,s,x,h=>by unfold CR at h|-;split at h;rename_i n d e o;split at h;rename_i g;simp[if_pos g];exact Oh f p _ _ h;simp_all;rename_i d l;split at h;rename_i a n c k;split at h;rename_i g;simp[Src.vQ f s _ _ k,if_pos g];exact Oh f p _ _ h;simp_all;simp_all;omega
structure wH (B:Base) (w w':World):Prop where
 cells:∀(c:Nat)(o:Obj),w.heap[c]?=kd o->o.isCells=ka->w'.heap[c]?=kd o
 size:w.heap.size<=w'.heap.size
 frame:∀b,b<B.size->w'.heap[b]?=w.heap[b]?
 io:EK w'=EK w
theorem a2b{w w':World}(h:∀(c:Nat)(o:Obj),w.heap[c]?=kd o->o.isCells=ka->w'.heap[c]?=kd o)(f:Option (Nat×Nat×Value)):∀b j v,Ag w f b j=kd v->Ag w' f b j=kd v:=by(have k:∀b j v,w.cell? ⟨b,j,ke⟩=kd v->w'.cell? ⟨b,j,ke⟩=kd v:=λb j v g=>by grind[cells_of_cell,World.cell?]);intro b j v g;cases f with|none=>exact k b j v g|some y=>have⟨a,d,u⟩:=y;simp[Ag]at g|-;grind
theorem sH.yC{B:Base}{U:AE}{N:Nat}{tm:Nat->Value}{w w':World}{M:Gh}(h:sH B U N tm w M)(f:∀(c:Nat)(o:Obj),w.heap[c]?=kd o->o.isCells=ka->w'.heap[c]?=kd o) (y:w.heap.size<=w'.heap.size):sH { B with hp:=λb=>w'.heap[b]?,io:=EK w' } U N tm w' M:=by(have u:=a2b f M.ov;have z:∀c,Bh B w M c->Bh { B with hp:=λb=>w'.heap[b]?,io:=EK w' } w' M c:=λc A=>⟨B4 A.1 y,A.2⟩;have E:∀a v,AA (Ag w M.ov) M.g U.rt (Bh B w M) a v->AA (Ag w' M.ov) M.g U.rt (Bh { B with hp:=λb=>w'.heap[b]?,io:=EK w' } w' M) a v:=λa v C=>by cases a with|val t x=>(have⟨j,m,R,q,D⟩:=C;exact⟨j,m,R,Og u t (λ_ _ S=>S) q,λc A=>z c (D c A)⟩)|vptr t x=>(have⟨b,o,R,j,m,q,D⟩:=C;exact⟨b,o,R,j,Og u t (Src.vQ u _) m,z b q,λc A=>z c (D c A)⟩)|ptr n p=>(have⟨r,t,b,o,j,m,q⟩:=C;exact⟨r,t,b,o,j,Oh u p _ _ m,q⟩)|sref n p=>(have⟨r,e,s,j,m,q⟩:=C;exact⟨r,e,s,j,Oh u p _ _ m,Src.vQ u s _ _ q⟩)|swin n p T len=>(have⟨r,e,s,a,l,c,j,m,q,D⟩:=C;exact⟨r,e,s,a,l,c,j,Oh u p _ _ m,Src.vQ u s _ _ q,D⟩)|_=>exact C);refine⟨λn r G=>?_,h.norm,h.nodup,h.sQ,λn p hp=>?_,λi F=>?_,?_,B9 h.size y,λb _ _=>rfl,h.mine,h.pins,rfl⟩;have⟨I,R,K,L,O⟩:=(h.roots n r G).rd;exact⟨I,R,Og u _ (Src.vQ u _) K,λc A=>z c (L c A),O⟩;have⟨c,e,lo,F,j,m,q⟩:=h.live n p hp;exact⟨c,e,lo,F,f _ _ j rfl,m,q⟩;(have H:=h.slots i F;revert H;cases U.sl i with|one a=>(exact λH=>E a _ H)|cmp c as=>rintro⟨V,j,m⟩;exact⟨V,j,λk a X=>by grind⟩);exact h.pend.mono λn p d r e b o Q G P=>⟨r,G,Oh u p _ _ P⟩
theorem sH.turned{B:Base}{U:AE}{N:Nat}{tm:Nat->Value}{w w':World}{M:Gh}(h:sH B U N tm w M)(f:wH B w w'):sH B U N tm w' M:=by have g:=h.yC f.cells f.size;exact⟨g.roots,g.norm,g.nodup,g.sQ,g.live,g.slots,g.pend,g.size,λb hb k=>(f.frame b hb).trans (h.frame b hb k),g.mine,g.pins,f.io.trans h.still⟩
def Base.anew(B:Base)(w:World)(M:Gh):Base where
 size:=w.heap.size
 hp:=λb=>w.heap[b]?
 F:=BP M
 S:=λc=>(B.S c\/B.F c\/B.size<=c)/\¬ BP M c
 pin:=λi=>match B.pin i with
  |some b=>kd b
  |none=>kd (M.g (pinned+i))
 io:=EK w
theorem b4y{B:Base}{w:World}{M:Gh}{c:Nat}:Bh (B.anew w M) w M c↔Bh B w M c:=by constructor;rintro⟨f,h,g⟩;refine⟨f,?_,g⟩;rcases h with h|h|h;exact h.1;exact absurd h g;have h:w.heap.size<=c:=h;omega;rintro⟨f,h,g⟩;exact⟨f,.inl ⟨h,g⟩,g⟩
theorem sH.anew{B:Base}{U:AE}{N:Nat}{tm:Nat->Value}{w:World}{M:Gh}(h:sH B U N tm w M):sH (B.anew w M) U N tm w M:=by have e:Bh (B.anew w M) w M=Bh B w M:=funext λc=>propext b4y;refine⟨λn r d=>by rw[e];exact h.roots n r d,h.norm,h.nodup,h.sQ,h.live,λi a=>by rw[e];exact h.slots i a,h.pend,C5 _,λb _ _=>rfl,λc k=>.inl k,λi b hb f=>?_,rfl⟩;simp[Base.anew]at hb;split at hb;rename_i j g;cases hb;exact h.pins i b g f;simp_all
theorem a5M{B:Base}{a:AE}{N0:Nat}{g:Nat->Value}{w w':World}{M M':Gh}(k:sH B a N0 g w M){f:Nat->Option Src}{c:Nat}(e:Bh { B.anew w M with pin:=f } w' M' c):Bh B w' M' c:=by have⟨b,h,d⟩:=e;refine⟨b,?_,d⟩;rcases h with h|h|h;exact h.1;exact .inr (k.mine c h);have h:w.heap.size<=c:=h;exact .inr (.inr (B9 k.size h))
theorem sH.uG{B:Base}{A U:AE}{N0 N:Nat}{y tm:Nat->Value}{w w':World}{M M':Gh}{f:Nat->Option Src}(I:∀i b,B.pin i=kd b->f i=kd b)(d:sH B A N0 y w M)(h:sH { B.anew w M with pin:=f } U N tm w' M'):sH B U N tm w' M':=by
 have j:∀c,Bh { B.anew w M with pin:=f } w' M' c->Bh B w' M' c:=λc e=>a5M d e;have l:∀a v,AA (Ag w' M'.ov) M'.g U.rt (Bh { B.anew w M with pin:=f } w' M') a v->AA (Ag w' M'.ov) M'.g U.rt (Bh B w' M') a v:=λa v H=>
  H.frame (λ_ _ _=>rfl) j λn p r t s _ u L=>⟨r,u,L,λ_ _ P=>P⟩
 refine⟨λn r u=>?_,h.norm,h.nodup,h.sQ,h.live,λi K=>?_,h.pend,B9 d.size h.size,λb hb G=>?_,λc e=>?_,λi b hb o=>h.pins i b (I i b hb) o,h.still.trans d.still⟩;have⟨z,R,C,D,E⟩:=(h.roots n r u).rd;exact⟨z,R,C,λc e=>j c (D c e),E⟩
 ·have x:=h.slots i K;revert x;cases U.sl i with
  |one a=>exact λx=>l a _ x
  |cmp c as=>
   rintro⟨Q,F,S⟩;exact⟨Q,F,λk a T=>by
    grind⟩
 ·have m:b<w.heap.size:=B4 hb d.size;have q:¬ BP M b:=λO=>by
   rcases d.mine b O with g|g;all_goals grind
  exact(h.frame b m q).trans (d.frame b hb G)
 rcases h.mine c e with g|g;exact d.mine c g;have g:w.heap.size<=c:=g;exact .inr (B9 d.size g)
theorem sH.back{B:Base}{k U:AE}{N0 N:Nat}{g tm:Nat->Value}{w w':World}{M M':Gh}(a:sH B k N0 g w M)(h:sH (B.anew w M) U N tm w' M'):sH B U N tm w' M':=a.uG (f:=(B.anew w M).pin) (λi b hb=>by simp_all[Base.anew]) h
theorem sH.yD{B:Base}{U:AE}{N:Nat}{tm:Nat->Value}{w:World}{M:Gh}(h:sH B U N tm w M)(f:Nat->Option Src)(k:∀i b,f i=kd b->B.pin i=kd b):sH { B with pin:=f } U N tm w M:=⟨h.roots,h.norm,h.nodup,h.sQ,h.live,h.slots,h.pend,h.size,h.frame,h.mine,λi b hb g=>h.pins i b (k i b hb) g,h.still⟩
def AE.vN{Z:Type}(U:AE):List Nat->(AE->Rs Z)->Rs Z|[],K=>K U|n::ns,K=>match U.look n,U.rt (pinned+1000+n)with|some r,ke=>AE.vN (((U.sG (AV.ren n (pinned+1000+n))).sD n ke).sD (pinned+1000+n) (kd r)) ns K|_,_=>ke
theorem sH.vN{Z:Type}{B:Base}{N:Nat}{tm:Nat->Value}{w:World}(a:∀i b,1000<=i->B.pin i≠kd b):∀(ns:List Nat){U:AE}{M:Gh}{K:AE->Rs Z}{z:Z}(_:sH B U N tm w M)(_:U.vN ns K=kd z),∃k M',K k=kd z/\sH B k N tm w M'|[],U,M,K,z,h,g=>⟨U,M,g,h⟩|n::ns,U,M,K,z,h,g=>by simp only[AE.vN]at g;split at g;rename_i r c d;have⟨f,j⟩:=AY c;exact sH.vN a ns (h.rename j d (λi b e=>a i b (by omega)) (by simp[f])) g;cases g
def Ce:Ar->Bool|[]=>true|.sv _ _::r=>Ce r|.box n _::r=>(A4 (pinned<=n)&&!(Ar.names r).contains n)&&Ce r|.own _ n _::r=>(A4 (pinned<=n)&&!(Ar.names r).contains n)&&Ce r|.ptr _ n []::r=>A4 (pinned<=n)&&Ce r|_=>kc
def a8X:SV->Prop|.one .dead=>True|.one (.val _ _)=>True|.one (.ptr n [])|.one (.sref n [])=>pinned<=n|_=>False
theorem WX:∀(g:Ar)(x:g.ty.sI)(_:Ce g=ka)(i:Nat),a8X ((g.enc x).sl i)|[],_,_,i=>trivial|.sv k t::r,x,h,i=>by simp only[Ar.enc,Fb];split;trivial;exact WX r x.2 (by simpa[Ce]using h) i|.box n t::r,x,h,i=>by simp only[Ce,HC]at h;exact WX r x.2 h.2 i|.own k n e::r,x,h,i=>by simp only[Ce,HC,dT]at h;show a8X ((((Ar.enc r x.2).sD n (kd ⟨kc,.list ka e,x.1⟩)).set k (.sref n [])).sl i);rw[Fb];split;exact h.1.1;exact WX r x.2 h.2 i|.ptr k n p::r,x,h,i=>(by cases p with|cons=>simp[Ce]at h|nil=>simp[Ce]at h;simp[Ar.enc,Fb];split;exact h.1;exact WX r x h.2 i)|.vp _ _::_,_,h,_|.ref _ _ _::_,_,h,_|.rfi _ _::_,_,h,_|.win _ _ _::_,_,h,_|.clo _ _ _::_,_,h,_=>by simp[Ce]at h
theorem JN:∀(h:Ar)(x:h.ty.sI),(h.enc x).pd=none|[],_=>rfl|.sv _ _::r,x=>JN r x.2|.box _ _::r,x=>JN r x.2|.ptr _ _ _::r,x=>JN r x|.own _ _ _::r,x=>JN r x.2|.vp _ _::r,x=>JN r x.2|.ref _ _ _::r,x=>JN r x|.rfi _ _::r,x=>JN r x.2|.win _ _ _::r,x=>JN r x.2.2|.clo _ _ _::r,x=>JN r x
theorem Zy:∀(f:Ar)(x:f.ty.sI)(_:Ce f=ka)(n:Nat),(f.enc x).rt n≠ke->n∈f.names|[],_,_,n,h=>absurd rfl h|.sv k t::r,x,h,n,g=>Zy r x.2 (by simpa[Ce]using h) n g|.box m t::r,x,h,n,g=>by simp only[Ce,HC]at h;simp only[Ar.enc,SA]at g;split at g;rename_i e;subst e;simp[Ar.names];simp only[Ar.names,mC];exact .inr (Zy r x.2 h.2 n g)|.own k m e::r,x,h,n,g=>by simp only[Ce,HC]at h;have g:((Ar.enc r x.2).sD m (kd ⟨kc,.list ka e,x.1⟩)).rt n≠ke:=g;rw[SA]at g;split at g;rename_i e;subst e;simp[Ar.names];simp only[Ar.names,mC];exact .inr (Zy r x.2 h.2 n g)|.ptr k m p::r,x,h,n,g=>(by cases p with|cons=>simp[Ce]at h|nil=>simp[Ce]at h;exact Zy r x h.2 n g)|.vp _ _::_,_,h,_,_|.ref _ _ _::_,_,h,_,_|.rfi _ _::_,_,h,_,_|.win _ _ _::_,_,h,_,_|.clo _ _ _::_,_,h,_,_=>by simp[Ce]at h
theorem SC:∀(a:Ar)(x:a.ty.sI)(_:Ce a=ka){i n:Nat}(_:(a.enc x).sl i=.one (.sref n [])),n∈a.names/\∃e l,(a.enc x).rt n=kd ⟨kc,.list ka e,l⟩|[],_,_,i,n,h=>(by cases h)|.sv k t::r,x,h,i,n,f=>(by have f:((Ar.enc r x.2).set k (.val t x.1)).sl i=.one (.sref n []):=f;rw[Fb]at f;split at f;cases f;exact SC r x.2 (by simpa[Ce]using h) f)|.box m t::r,x,h,i,n,f=>(by simp only[Ce,HC,F8,E9,decide_eq_false_iff_not]at h;have⟨b,e,l,d⟩:=SC r x.2 h.2 (i:=i) (n:=n) f;refine⟨by simp[Ar.names,b],e,l,?_⟩;show((Ar.enc r x.2).sD m _).rt n=_;rw[SA,if_neg (show ¬ n=m from λg=>h.1.2 (g▸b))];omega)|.own k m e::r,x,h,i,n,f=>(by simp only[Ce,HC,F8,E9,decide_eq_false_iff_not]at h;have f:(((Ar.enc r x.2).sD m (kd ⟨kc,.list ka e,x.1⟩)).set k (.sref m [])).sl i=.one (.sref n []):=f;show n∈_/\∃c l,((Ar.enc r x.2).sD m (kd ⟨kc,.list ka e,x.1⟩)).rt n=kd ⟨kc,.list ka c,l⟩;rw[Fb]at f;rw[SA];split at f;cases f;exact⟨by simp[Ar.names],e,x.1,by simp⟩;have⟨b,c,l,d⟩:=SC r x.2 h.2 (i:=i) (n:=n) f;exact⟨by simp[Ar.names,b],c,l,by grind⟩)|.ptr k m p::r,x,h,i,n,f=>(by cases p with|cons=>simp[Ce]at h|nil=>simp only[Ce,HC]at h;have f:((Ar.enc r x).set k (.ptr m [])).sl i=.one (.sref n []):=f;rw[Fb]at f;split at f;grind;exact SC r x h.2 f)|.vp _ _::_,_,h,_,_,_|.ref _ _ _::_,_,h,_,_,_|.rfi _ _::_,_,h,_,_,_|.win _ _ _::_,_,h,_,_,_|.clo _ _ _::_,_,h,_,_,_=>by simp[Ce]at h
section
variable {B:Base} {N:Nat} {w w':World} {M M':Gh} {U:AE}
theorem sH.kept{b:Nat->Value}{d:AE}(h:sH (B.anew w M) d N b w' M'){c:Nat}(f:Bh B w M c):w'.heap[c]?=w.heap[c]?/\Bh (B.anew w M) w' M' c:=by have k:c<(B.anew w M).size:=f.1;have a:¬ (B.anew w M).F c:=f.2.2;refine⟨h.frame c k a,B4 f.1 h.size,.inl f.2,λe=>?_⟩;rcases h.mine c e with g|g;all_goals grind
theorem CK.kept{a:Nat->Value}{b:AE}(h:sH (B.anew w M) b N a w' M')(k:M.ov=ke)(g:M'.ov=ke){t:Ty}{x:t.sI}{v:Value}(hv:CK (Ag w M.ov) (Bh B w M) t x v):CK (Ag w' M'.ov) (Bh (B.anew w M) w' M') t x v:=hv.frame (λc j f=>by rw[k,g];exact BV ke (h.kept f).1 j) λc f=>(h.kept f).2
theorem sH.again{tm L:Nat->Value}{q:AE}(F:sH B U N tm w M)(z:∀i,i<N->a8X (U.sl i))(K:U.pd=ke)(h:sH (B.anew w M) q N L w' M')(D:q.pd=ke)
  (m:∀i n,i<N->U.sl i=.one (.ptr n [])\/U.sl i=.one (.sref n [])->q.rt n≠ke)(A:∀i n,i<N->U.sl i=.one (.sref n [])->∃u,M.g n=.one u):sH (B.anew w M) { q with sl:=U.sl } N tm w' M'/\∀i n,i<N->U.sl i=.one (.sref n [])->∃u,M'.g n=.one u:=by
 have I:=F.sW K;have C:=h.sW D;have d:∀n,pinned<=n->U.rt n≠ke->q.rt n≠ke->M'.g n=M.g n:=λn k G v=>by
  obtain⟨i,rfl⟩:∃i,n=pinned+i:=⟨n-pinned,by omega⟩;refine h.pins i _ ?_ v;simp[Base.anew];cases hp:B.pin i with
  |none=>rfl
  |some Q=>rw[F.pins i Q hp G]
 refine⟨⟨h.roots,h.norm,h.nodup,h.sQ,h.live,λi l=>?_,h.pend,h.size,h.frame,h.mine,h.pins,h.still⟩,λi n l j=>?_⟩;rotate_left;have k:=z i l;have P:=F.slots i l;rw[j]at k P;obtain⟨r,e,s,G,-⟩:=P;rw[d n k (by simp_all) (m i n l (.inr j))];grind;have j:=F.slots i l;have k:=z i l;have m:=m i;have A:=A i;show Yj _ _ q.rt _ (U.sl i) _;revert j k m A;cases U.sl i with
 |cmp c X=>intro _ k;exact k.elim
 |one a=>
  cases a with
  |dead=>intro _ _ _ _;trivial
  |val t x=>intro j _ _ _;exact CK.kept h I C j
  |ptr n p=>
   cases p with
   |cons=>intro _ k;exact k.elim
   |nil=>
    intro j k m _;have⟨r,t,b,o,G,v,H⟩:=j;have f:=m n l (.inl rfl);have O:=d n k (by simp_all) f;have⟨y,f⟩:=D8.1 f;simp[CR]at v;refine⟨y,y.t,b,o,f,?_,H⟩;show kd (y.t,M'.g n)=_;simp_all
  |sref n p=>
   cases p with
   |cons=>intro _ k;exact k.elim
   |nil=>
    intro j k m A;have⟨R,E⟩:=A n l rfl;have⟨r,S,V,G,v,H⟩:=j;have f:=m n l (.inr rfl);have O:=d n k (by simp_all) f;simp[CR]at v;rw[<-v.2,E]at H;rw[E]at O;have⟨y,f⟩:=D8.1 f;rcases h.uE f with⟨-,b,g⟩|⟨-,u,e,g,T⟩;simp_all;refine⟨y,e,.one R,f,?_,H⟩;show kd (y.t,M'.g n)=_;simp_all
  |_=>intro _ k;exact k.elim
end
def b4z{Z:Type}(s:Ar)(x:s.ty.sI)(U:AE)(K:s.ty.sI->Rs Z):Rs Z:=match U.pd with|none=>bif s.names.all (λn=>(U.rt n).isSome)then s.xC { U with sl:=(s.enc x).sl } K else none|some _=>ke
def PY{α S R:Type}(f:Int->α->S->Option (S ⊕ R))(l:List α):Nat->S->Option (S ⊕ R)|0,s=>kd (.inl s)|n+1,s=>match l[n]? with|none=>none|some v=>match f n v s with|none=>none|some (.inl s')=>PY f l n s'|some (.inr r)=>kd (.inr r)
def c1Q(cx:Cx)(H:rY)(p:Nat)(s:Ar)(i1 i2:Nat)(assign body:Code)(e:Ty)(k:Int)(v:e.sI)(x:s.ty.sI):Option (s.ty.sI ⊕ (Ex×s.ty.sI)):=
 Ea cx H assign (2*p) (((s.enc x).set i1 (.val (.int .i64) k)).set i2 (.val e v)) λex U=>match ex with
  |.normal=>match U.pd with
   |none=>bif s.names.all (λn=>(U.rt n).isSome)then
     Ea cx H body (2*p+1) U λex U'=>b4z s x U' λx'=>match ex with
      |.normal=>kd (.inl x')
      |ex=>kd (.inr (ex,x'))
    else ke
   |some _=>ke
  |_=>ke
structure vC where
 t:Nat
 e:Ty
 mkr:Nat
 it:Nat
 ns:List Nat
 s:Ar
structure vY where
 ops:Array Oper
 b:Nat
 g:Nat
 i1:Nat
 i2:Nat
 assign:Code
 body:Code
def Zz:Code->Code->Option vY|.region _ ops kc,.block b (.rangeFunc (.tmp g) ps assign body)=>(match ps.toList with|[i1,i2]=>kd ⟨ops,b,g,i1,i2,assign,body⟩|_=>ke)|_,_=>ke
def a3J(o:Oper)(r:vC)(g:Nat):Bool:=match o.op with|.call c=>(match c.callee,c.args.toList with|.value (.func f),[.tmp t]=>f==r.mkr&&t==r.t&&(o.dst==kd g)&&o.guard.isNone|_,_=>kc)|_=>kc
def b4A{t e:Ty}(h:t=.list kc e)(l:t.sI):List e.sI:=(h▸l:(Ty.list kc e).sI)
def a8Y{Z:Type}(cx:Cx)(H:rY)(r:vC)(q:vY)(p:Nat)(U:AE)(K:Ex->AE->Rs Z):Rs Z:=
 match q.ops.toList with
 | [mv,cl]=>bif a3J cl r q.g&&(Ce r.s&&mv.guard.isNone)then
   Bg cx kc mv U λU1=>match U1.pd with
    |some _=>ke
    |none=>(U1.set q.g .dead).vN r.ns λU2=>r.s.xC U2 λx=>match (r.s.enc x).get r.t with
     |.val t l=>if h:t=.list kc r.e then
       (bif BM (B7 (b4A h l))then(PY (c1Q cx H (2*p+1) r.s q.i1 q.i2 q.assign q.body r.e) (b4A h l) (B7 (b4A h l)) x).bind λy=>match y with
        |.inl x'=>K .normal (r.s.enc x')
        |.inr (.normal,x')=>K .normal (r.s.enc x')
        |.inr (.exit i,x')=>bif i==q.b then K .normal (r.s.enc x')else K (.exit i) (r.s.enc x')
        |.inr (.ret,x')=>K .ret (r.s.enc x')
       else ke)
      else ke
     |_=>ke
  else ke
 |_=>ke
def Oi:Code->Bool|.seq a b=>(Oi a || Oi b)|.cond _ a b=>(Oi a || Oi b)|.block _ c|.loop c=>Oi c|.rangeFunc _ _ _ _=>true|_=>kc
def eB(cx:Cx)(H:rY)(r:vC):Code->Nat->{Z:Type}->AE->(Ex->AE->Rs Z)->Rs Z
 |.seq a b,p,_,U,K=>match Zz a b with
  |some q=>a8Y cx H r q p U K
  |none=>bif Oi a then eB cx H r a (2*p) U λe U'=>match e with
    |.normal=>Ea cx H b (2*p+1) U' K
    |e=>K e U'
   else Ea cx H a (2*p) U λe U'=>match e with
    |.normal=>eB cx H r b (2*p+1) U' K
    |e=>K e U'
 |c,p,_,U,K=>Ea cx H c p U K
def b0C(cx:Cx)(H:rY)(r:vC)(fn:Func)(ps:List PA)(rs:List RA)(x:(Eh (ps.map PA.ty)).sI):Option (Eh ((RA.all ps rs).map RA.ty)).sI:=match fn.body with|none=>none|some body=>eB cx H r body 1 (Ux ps x) λe U=>match e,U.pd with|.exit _,_=>none|_,kd _=>none|_,ke=>(U.upto fn.ntmps).outs cx [] fn.ntmps (RA.all ps rs) (fn.results.toList.map .inl++(Ba ps 0).map λi=>.inr (Th ps i)) λy _=>kd y
section
variable {P:Program} {B:Base} {N:Nat} {cx:Cx} {H:rY} {w w':World} {M M':Gh} {U U':AE} {tm tm':Nat->Value}
theorem Ym.anew{G:Xn}(e:Ym G B)(h:sH B U N tm w M):Ym G (B.anew w M):=by(intro g t x i;have⟨k,a,b,l,c,d⟩:=e g t x i;have f:¬ BP M g:=λj=>by rcases h.mine _ j with q|q;all_goals grind);exact⟨B4 k h.size,⟨.inl a,f⟩,f,l,c.trans (h.frame g k b).symm,d⟩
theorem CK.yN{m:Es}{Sh g:Nat->Prop}{t:Ty}{x y:t.sI}{v:Value}(h:CK m Sh t x v)(f:CK m g t y v):x=y:=by obtain⟨-,-,R,a,-⟩:=h;obtain⟨-,-,k,b,-⟩:=f;simp_all
theorem CK.run(a:sH B U N tm w M)(h:sH (B.anew w M) U' N tm' w' M')(k:M.ov=ke)(g:M'.ov=ke){t:Ty}{x:t.sI}{v:Value}(hv:CK (Ag w M.ov) (Bh B w M) t x v):CK (Ag w' M'.ov) (Bh B w' M') t x v:=(CK.kept h k g hv).frame (λ_ _ _=>rfl) λ_ b=>a5M a (f:=(B.anew w M).pin) b
theorem CK.turned{f:Option (Nat×Nat×Value)}(h:∀(c:Nat)(o:Obj),w.heap[c]?=kd o->o.isCells=ka->w'.heap[c]?=kd o)(g:w.heap.size<=w'.heap.size){t:Ty}{x:t.sI}{v:Value} (hv:CK (Ag w f) (Bh B w M) t x v):CK (Ag w' f) (Bh B w' M) t x v:=by have⟨b,d,R,e,k⟩:=hv;exact⟨b,d,R,Og (a2b h f) t (λ_ _ hv=>hv) e,λc a=>⟨B4 (k c a).1 g,(k c a).2⟩⟩
theorem Pe{W:World}{l:Nat}{o:Obj}(a:W.heap[l]?=kd o)(d:o.isCells=kc)(f:B.size<=l)(h:Obj):wH B W (W.putObj l h):=by refine⟨λc e k g=>?_,(grownBy_putObj' W l h).size,λb hb=>World.putObj_heap_other (by omega),rfl⟩;(have:c≠l:=by grind);simp_all[World.putObj_heap_other]
theorem VF{W:World}(g:B.size<=W.heap.size)(o:Obj):wH B W (W.alloc o):=⟨λc f h _=>(RowKit.Below.heap_alloc W _ c (C0.1 h).1).trans h,by simp,λb hb=>RowKit.Below.heap_alloc W _ b (by omega),rfl⟩
theorem b1V(h:sH B U N tm w M){l:Nat}{o:Obj}(f:w.heap[l]?=kd o)(a:o.isCells=kc):¬ BP M l:=by rintro⟨n,k⟩;obtain⟨p,b,rfl⟩:=C1.1 k;obtain⟨c,e,lo,d,g,-⟩:=h.live n p b;rw[f]at g;cases g;cases a
theorem sH.others(f:sH B U N tm w M)(h:sH (B.anew w M) U' N tm' w' M'){l:Nat}{o:Obj}(g:w.heap[l]?=kd o)(k:o.isCells=kc):w'.heap[l]?=kd o:=(h.frame l (C0.1 g).1 (b1V f g k)).trans g
theorem a3K(U:AE)(i j:Nat)(v:AV):(U.set i v).get j=if j=i then v else U.get j:=by grind[AE.get,Fb]
theorem VG:∀(a:Ar)(x g:a.ty.sI){i:Nat}{T:Ty}{y:T.sI}(_:Ce a=ka)(_:(a.enc x).get i=.val T y),∃y':T.sI,(a.enc g).get i=.val T y'|[],_,_,_,_,_,_,h=>by simp_all[Ar.enc]|.sv k t::r,x,g,i,T,y,f,h=>(by have h:((Ar.enc r x.2).set k (.val t x.1)).get i=.val T y:=h;show ∃y':T.sI,((Ar.enc r g.2).set k (.val t g.1)).get i=.val T y';rw[a3K]at h|-;by_cases e:i=k;grind;rw[if_neg e]at h|-;exact VG r x.2 g.2 (by simpa[Ce]using f) h)|.box n t::r,x,g,i,T,y,f,h=>by simp only[Ce,HC]at f;exact VG r x.2 g.2 f.2 h|.ptr k n p::r,x,g,i,T,y,f,h=>(by cases p with|cons=>simp[Ce]at f|nil=>simp only[Ce,HC]at f;have h:((Ar.enc r x).set k (.ptr n [])).get i=.val T y:=h;show ∃y':T.sI,((Ar.enc r g).set k (.ptr n [])).get i=.val T y';rw[a3K]at h|-;by_cases e:i=k;simp_all;rw[if_neg e]at h|-;exact VG r x g f.2 h)|.own k m e::r,x,g,i,T,y,f,h=>(by simp only[Ce,HC]at f;have h:(((Ar.enc r x.2).sD m (kd ⟨kc,.list ka e,x.1⟩)).set k (.sref m [])).get i=.val T y:=h;show ∃y':T.sI,(((Ar.enc r g.2).sD m (kd ⟨kc,.list ka e,g.1⟩)).set k (.sref m [])).get i=.val T y';rw[a3K]at h|-;by_cases e:i=k;simp_all;rw[if_neg e]at h|-;exact VG r x.2 g.2 f.2 h)|.rfi _ _::_,_,_,_,_,_,h,_=>by simp[Ce]at h|.vp _ _::_,_,_,_,_,_,h,_=>by simp[Ce]at h|.ref _ _ _::_,_,_,_,_,_,h,_=>by simp[Ce]at h|.win _ _ _::_,_,_,_,_,_,h,_=>by simp[Ce]at h|.clo _ _ _::_,_,_,_,_,_,h,_=>by simp[Ce]at h
def a3L:Ex->Option Code|.normal=>none|.exit i=>kd (.exit i)|.ret=>kd .ret
def KE(st:LoopState)(pe:Option Code)(fn:FuncId)(tmps:Array Value)(i1 i2:Nat)(assign body:Code)(D:Nat):Loop:={ state:=st,pending:=pe,fn,tmps,params:=#[i1,i2],assign,body,defers:=D }
structure uP (B:Base) (N:Nat) (a:Act) (s:Ar) (t:Nat) (te:Ty) (l0:te.sI) (l D:Nat) (r:Loop) (x:s.ty.sI) (W:World):Prop where
 rel:∃M,sH B (s.enc x) N (AJ a) W M
 seq:(s.enc x).get t=.val te l0
 loop:W.heap[l]?=kd (.loop r)
 dfr:W.heap[D]?=kd (.deferred (kd []))
theorem a2c(g0:uS P cx)(hG:Ym cx.G B)(hm:P.follows .mixedOrders=ka)(hH:H.fits N=ka){s:Ar}{j m p:Nat}{f body:Code}(k5:DB N f=ka)(k6:DB N body=ka)
  (hs:s.fits N=ka)(E:Ce s=ka)(a5:j<N)(a6:m<N){a:Act}(hN:a.tmps.size=N){fn:FuncId}{e w:Ty}{k:Int}{v:e.sI}{ve:Value}{C:w.sI}{t l D:Nat}(ht:t<N){x:s.ty.sI}{W:World}
  (hb:uP B N a s t w C l D (KE .ready ke fn a.tmps j m f body D) x W)(hv:∀Sh,CK (cells W) Sh w C (AJ a t)->CK (cells W) Sh e v ve)(g3:B.size<=l)(h9:D≠l){y:s.ty.sI ⊕ (Ex×s.ty.sI)}
  (hy:c1Q cx H p s j m f body e k v x=kd y):
  RoundIn (Fr ke) 0 P l fn ((a.tmps.setIfInBounds j (.int .i64 k)).setIfInBounds m ve) f body W λen W'=>
   (∃q,y=.inl q/\en=.returned (.bool ka)/\uP B N a s t w C l D (KE .ready ke fn a.tmps j m f body D) q W')\/
   (∃ex c q,y=.inr (ex,q)/\a3L ex=kd c/\en=.returned (.bool kc)/\uP B N a s t w C l D (KE .done (kd c) fn a.tmps j m f body D) q W'):=by
 have⟨⟨M,h⟩,hseq,hl,hD⟩:=hb;have g4:=h.sW (JN s x);have b:CK (Ag W M.ov) (Bh B W M) w C (AJ a t):=by
  have:=Gn h ht
  rw[hseq]at this;exact this
 have k7:CK (Ag W M.ov) (Bh B W M) e v ve:=by
  rw[g4]at b|-;exact hv _ b
 let a1:Act:={ tmps:=(a.tmps.setIfInBounds j (.int .i64 k)).setIfInBounds m ve,defers:=[] }
 have h1:sH B (((s.enc x).set j (.val (.int .i64) k)).set m (.val e v)) N (AJ a1) W M:=by
  have V:sH B ((s.enc x).set j (.val (.int .i64) k)) N (AJ (a.put (kd j) (.int .i64 k))) W M:=h.uL hN λ_=>AA.tF (g:=M.g) (rt:=(s.enc x).rt) _;have X:sH B (((s.enc x).set j (.val (.int .i64) k)).set m (.val e v)) N (AJ ((a.put (kd j) (.int .i64 k)).put (kd m) ve)) W M:=V.uL (by rw[Vh];omega) λ_=>k7;exact X
 have k0:a1.tmps.size=N:=by grind
 have R:∀(S:AE),(s.names.all λn=>(S.rt n).isSome)=ka->∀i n,i<N->(s.enc x).sl i=.one (.ptr n [])\/(s.enc x).sl i=.one (.sref n [])->S.rt n≠ke:=by
  intro S L i n hi b;have hm:n∈s.names:=by
   rcases b with b|b
   have:=h.slots i hi
   rw[b]at this;obtain⟨r,-,-,-,hr,-⟩:=this;grind[Zy];grind[SC]
  grind
 have g6:∀i n,i<N->(s.enc x).sl i=.one (.sref n [])->∃u,M.g n=.one u:=λi n _ b=>by
  obtain⟨-,e,l,K⟩:=SC s x E b;rcases h.uE K with⟨g,-⟩|⟨-,u,_,g,-⟩;all_goals simp_all
 unfold c1Q at hy;refine roundIn_of_wpIn trivial (wpIn_mono (Of (ro:=kd l) (D:=[]) g0 (hG.anew h1) hm hH f _ k5 hy h1.anew k0 rfl) ?_);rintro e2 a2 F ⟨ex,S,M2,rfl,hK,K,k1,k3⟩;cases ex with
 |exit i=>simp_all
 |ret=>simp_all
 |normal=>
  simp at hK;split at hK;rotate_left;grind;rename_i A;have⟨L,hK⟩:=(Ah hK).elim id λh=>by grind
  have O:=K.sW A;have⟨k2,h7⟩:sH (B.anew W M) { S with sl:=(s.enc x).sl } N (AJ a) F M2/\_:=sH.again h (λi _=>WX s x E i) (JN s x) K A (R S L) g6;have b2:=h1.back K;have c2:=h.back k2;have v2:CK (Ag F M2.ov) (Bh B F M2) w C (AJ a t):=CK.run h K g4 O b;have h0:=h1.others K hl rfl;have g7:=h1.others K hD rfl;refine⟨_,run_beginRound h0 rfl,?_⟩;have T3:wH B F (F.putObj l (.loop { KE .ready ke fn a.tmps j m f body D with state:=.busy })):=Pe h0 rfl g3 _;revert T3;have h3:(F.putObj l (.loop { KE .ready ke fn a.tmps j m f body D with state:=.busy })).heap[l]?=kd (.loop { KE .ready ke fn a.tmps j m f body D with state:=.busy }):=World.putObj_heap_same (C0.1 h0).1;have Y:(F.putObj l (.loop { KE .ready ke fn a.tmps j m f body D with state:=.busy })).heap[D]?=kd (.deferred (kd [])):=(World.putObj_heap_other h9).trans g7;revert h3 Y;generalize F.putObj l (.loop { KE .ready ke fn a.tmps j m f body D with state:=.busy })=W3;intro h3 Y T3;have b3:=b2.turned T3;have c3:=c2.turned T3;have v3:CK (Ag W3 M2.ov) (Bh B W3 M2) w C (AJ a t):=CK.turned T3.cells T3.size v2;refine wpIn_mono (Of (ro:=kd l) (D:=[]) g0 (hG.anew b3) hm hH body _ k6 hK b3.anew k1 k3) ?_
  rintro e4 a4 I ⟨ex,U4,M4,rfl,z,h4,a3,-⟩;simp[b4z]at z;split at z;rotate_left;grind;rename_i Q;have⟨Z,z⟩:=(Ah z).elim id λh=>by grind
  have g5:=h4.sW Q;obtain⟨k4,-⟩:sH (B.anew W3 M2) { U4 with sl:=(s.enc x).sl } N (AJ a) I M4/\_:=sH.again (U:={ S with sl:=(s.enc x).sl }) c3 (λi _=>WX s x E i) A h4 Q (R U4 Z) h7;have c4:=c3.back k4;have v4:CK (Ag I M4.ov) (Bh B I M4) w C (AJ a t):=CK.run b3 h4 O g5 v3;have h6:=b3.others h4 h3 rfl;have g9:=b3.others h4 Y rfl;have⟨q,M5,o,h5⟩:=c4.xC hs z;have k9:=h5.sW (JN s q);have h8:(s.enc q).get t=.val w C:=by
   have⟨y',k8⟩:=VG s x q E hseq
   have:=Gn h5 ht
   rw[k8]at this;have this:CK (Ag I M5.ov) (Bh B I M5) w y' (AJ a t):=this;grind[CK.yN]
  have T:∀(d:Option Code)(r':Loop),r'={ { KE .ready ke fn a.tmps j m f body D with state:=.busy }with state:=if d.isNone then .ready else .done,pending:=d }->
    (Instr.endRound l d).run P I=.ok (.bool d.isNone) (I.putObj l (.loop r'))/\uP B N a s t w C l D r' q (I.putObj l (.loop r')):=by
   rintro d r' rfl;refine⟨run_endRound d h6,⟨⟨M5,h5.turned (Pe h6 rfl g3 _)⟩,h8,World.putObj_heap_same (C0.1 h6).1,(World.putObj_heap_other h9).trans g9⟩⟩
  cases ex with
  |normal=>
   simp at o;have⟨V,X⟩:=T ke _ rfl;exact⟨_,_,V,.inl ⟨q,o.symm,rfl,X⟩⟩
  |exit i=>
   simp at o;have⟨V,X⟩:=T (kd (.exit i)) _ rfl;exact⟨_,_,V,.inr ⟨_,_,q,o.symm,rfl,rfl,X⟩⟩
  |ret=>
   simp at o;have⟨V,X⟩:=T (kd .ret) _ rfl;exact⟨_,_,V,.inr ⟨_,_,q,o.symm,rfl,rfl,X⟩⟩
def a3M(P:Program)(it:FuncId)(e:Ty):Prop:=(∀args w,(callFunc it args).run P w=.ok (.enter it args) w)/\∀(l Bs:Nat)(sv:Value)(xs:List e.sI)(J:Nat->World->Prop)(Jx:World->Prop)(W:World),xs.length<2147483648->(∀k W',J k W'->W'.cell? ⟨Bs,0,ke⟩=kd sv/\∃Sh,CK (cells W') Sh (.list kc e) xs sv)->(∀n (x:e.sI) (v:Value) W',xs[n]?=kd x->J (n+1) W'->(∀Sh,CK (cells W') Sh (.list kc e) xs sv->CK (cells W') Sh e x v)->YieldAt (Fr ke) 0 P l #[.int .i64 (n:Int),v] W' λen W''=>(en=.returned (.bool ka)/\J n W'')\/(en=.returned (.bool kc)/\Jx W''))->J xs.length W->CallsIn (Fr ke) 0 P it #[.func (.yield l) #[] #[],.pointer (kd ⟨Bs,0,ke⟩)] W λen W'=>(∃v,en=.returned v)/\(J 0 W'\/Jx W')
def a8Z(P:Program)(mk it:FuncId):Prop:=Yp P mk/\∀(A:Option Addr)(len cap:Nat)(w:World),Calls P mk #[.slice A len cap] w λen w'=>en=.returned (.func (.func it) #[] #[.pointer (kd ⟨w.heap.size,0,ke⟩)])/\∃ty,w'=w.alloc (.cells #[.slice A len cap] ty)
def c6J{S:Type}:S ⊕ (Ex×S)->Ex×S|.inl x=>(.normal,x)|.inr q=>q
theorem a5N(hcx:uS P cx)(hG:Ym cx.G B)(hm:P.follows .mixedOrders=ka)(hH:H.fits N=ka){s:Ar}{i1 i2 p:Nat}{assign body:Code}(hfa:DB N assign=ka)(hfb:DB N body=ka) (hs:s.fits N=ka)(hfl:Ce s=ka)(hi1:i1<N)(hi2:i2<N){a:Act}(hN:a.tmps.size=N){e:Ty}{l0:List e.sI}{t g Bs it:Nat}(ht:t<N){x:s.ty.sI} (h:sH B (s.enc x) N (AJ a) w M)(hseq:(s.enc x).get t=.val (.list kc e) l0)(hg:a.eval (.tmp g)=.func (.func it) #[] #[.pointer (kd ⟨Bs,0,ke⟩)])(hit:a3M P it e)(hlen:l0.length<2147483648) (hcell:w.cell? ⟨Bs,0,ke⟩=kd (AJ a t))(hBs:Bs<B.size)(hBF:¬ B.F Bs){y:s.ty.sI ⊕ (Ex×s.ty.sI)}(hy:PY (c1Q cx H p s i1 i2 assign body e) l0 l0.length x=kd y)(hd:a.defers=[]):(Code.rangeFunc (.tmp g) #[i1,i2] assign body).wpIn (Fr ke) 0 P (λen a' w'=>∃D,en=nX (c6J y).1/\a'.tmps.size=N/\a'.defers=[{ target:=.collected D,args:=#[] }]/\B.size<=D/\w'.heap[D]?=kd (.deferred (kd []))/\∃M',sH B (s.enc (c6J y).2) N (AJ a') w' M') a w:=by
 refine wpIn_rangeFunc ?_;intro fn _;have⟨D,hDe⟩:∃D,w.heap.size=D:=⟨_,rfl⟩;have⟨W1,hW1⟩:∃W1,(w.alloc (.deferred (kd []))).alloc (.loop (KE .ready ke fn a.tmps i1 i2 assign body D))=W1:=⟨_,rfl⟩;have hsz:=h.size;have T1:wH B w W1:=by rw[<-hW1];have t1:=VF (B:=B) hsz (.deferred (kd []));have t2:=VF (B:=B) (W:=w.alloc (.deferred (kd []))) (by simp;omega) (.loop (KE .ready ke fn a.tmps i1 i2 assign body D));exact⟨λc o hc ho=>t2.cells c o (t1.cells c o hc ho) ho,B9 t1.size t2.size,λb hb=>(t2.frame b hb).trans (t1.frame b hb),t2.io.trans t1.io⟩
 have hL1:W1.heap[D+1]?=kd (.loop (KE .ready ke fn a.tmps i1 i2 assign body D)):=by grind[World.alloc_heap_new,World.size_alloc]
 have hK1:W1.heap[D]?=kd (.deferred (kd [])):=by grind[RowKit.Below.heap_alloc,World.alloc_heap_new]
 have hB1:uP B N a s t (.list kc e) l0 (D+1) D (KE .ready ke fn a.tmps i1 i2 assign body D) x W1:=⟨⟨M,h.turned T1⟩,hseq,hL1,hK1⟩;have hBsAll:∀{U' tm' W' M'},sH B U' N tm' W' M'->W'.cell? ⟨Bs,0,ke⟩=kd (AJ a t):=λ{U' tm' W' M'} h'=>by have e1:=h'.frame Bs hBs hBF;have e2:=h.frame Bs hBs hBF;simp_all[World.cell?]
 refine⟨D+1,[{ target:=.collected D,args:=#[] }],W1,{ target:=.fn (.func it) #[.pointer (kd ⟨Bs,0,ke⟩)],args:=#[.func (.yield (D+1)) #[] #[]] },W1,it,#[.func (.yield (D+1)) #[] #[],.pointer (kd ⟨Bs,0,ke⟩)],W1,?_,?_,λ_ _=>trivial,?_,λh=>(by grind),?_⟩;rw[<-hW1,<-hDe];exact run_enterLoop_outer _ _ _ _ _;simp only[resolve,hg];simp[go_sem];have:=hit.1 (#[.func (.yield (D+1)) #[] #[]]++#[.pointer (kd ⟨Bs,0,ke⟩)]) W1;simp_all[invoke];refine(hit.2 (D+1) Bs (AJ a t) l0 (λn W=>∃x',PY (c1Q cx H p s i1 i2 assign body e) l0 n x'=kd y/\uP B N a s t (.list kc e) l0 (D+1) D (KE .ready ke fn a.tmps i1 i2 assign body D) x' W) (λW=>∃ex c x',y=.inr (ex,x')/\a3L ex=kd c/\uP B N a s t (.list kc e) l0 (D+1) D (KE .done (kd c) fn a.tmps i1 i2 assign body D) x' W) W1 hlen ?_ ?_ ⟨x,hy,hB1⟩).mono ?_;rintro k W' ⟨x',-,hb⟩;obtain⟨⟨M',h'⟩,hseq',-,-⟩:=hb;refine⟨hBsAll h',?_⟩;have:=Gn h' ht;rw[hseq',h'.sW (JN s x')]at this;exact⟨_,this⟩;rintro n xe v W' hx ⟨x',hy',hb⟩ hv;have hyield:(Instr.yield (D+1) #[.int .i64 (n:Int),v]).run P W'=.ok (.round (D+1) fn ((a.tmps.setIfInBounds i1 (.int .i64 (n:Int))).setIfInBounds i2 v) assign body) W':=by have:=run_yield (P:=P) (args:=#[.int .i64 (n:Int),v]) hb.loop rfl;simpa[KE]using this
 simp[PY,hx]at hy';split at hy';grind;rename_i s' hs';refine⟨_,_,_,_,hyield,(a2c hcx hG hm hH hfa hfb hs hfl hi1 hi2 hN ht hb hv (by omega) (by omega) hs').mono ?_⟩;grind;rename_i r hr;simp at hy';refine⟨_,_,_,_,hyield,(a2c hcx hG hm hH hfa hfb hs hfl hi1 hi2 hN ht hb hv (by omega) (by omega) hr).mono ?_⟩;grind;have hdone:∀{x' W2 st pe},uP B N a s t (.list kc e) l0 (D+1) D (KE st pe fn a.tmps i1 i2 assign body D) x' W2->∀r',(W2.putObj (D+1) (.loop r')).heap[D]?=kd (.deferred (kd []))/\∃M',sH B (s.enc x') N (AJ a) (W2.putObj (D+1) (.loop r')) M':=by rintro x' W2 st pe ⟨⟨M',h'⟩,-,hl,hD⟩ r';exact⟨(World.putObj_heap_other (by omega)).trans hD,M',h'.turned (Pe hl rfl (by omega) _)⟩
 rintro en W2 ⟨⟨v,rfl⟩,⟨x',hy',hb⟩|⟨ex,c,x',rfl,hc,hb⟩⟩;simp[PY]at hy';subst hy';refine⟨ke,_,run_endLoop (P:=P) hb.loop (by simp[KE]),?_⟩;have⟨g1,g2⟩:=hdone hb { KE .ready ke fn a.tmps i1 i2 assign body D with state:=.exhausted };exact⟨D,rfl,hN,by simp_all,by omega,g1,g2⟩;refine⟨kd c,_,run_endLoop (P:=P) hb.loop (by simp[KE]),?_⟩;have⟨g1,g2⟩:=hdone hb { KE .done (kd c) fn a.tmps i1 i2 assign body D with state:=.exhausted };cases ex with|normal=>(cases hc)|exit i=>simp[a3L]at hc;subst hc;exact wpIn_exit ⟨D,rfl,hN,by simp_all,by omega,g1,g2⟩|ret=>simp[a3L]at hc;subst hc;exact wpIn_ret ⟨D,rfl,hN,by simp_all,by omega,g1,g2⟩
end
section
variable {P:Program} {B:Base} {N:Nat} {cx:Cx} {H:rY} {r:vC}
def a9a(B:Base)(ds:List Deferred)(w:World):Prop:=ds=[]\/∃D,ds=[{ target:=.collected D,args:=#[] }]/\B.size<=D/\w.heap[D]?=kd (.deferred (kd []))
def b4B{Z:Type}(B:Base)(N:Nat)(K:Ex->AE->Rs Z)(z:Z):Exit->Act->World->Prop:=λe a w=>∃ex U M,e=nX ex/\K ex U=kd z/\sH B U N (AJ a) w M/\a.tmps.size=N/\a9a B a.defers w
theorem gL(d:uS P cx)(q:Ym cx.G B)(y:P.follows .mixedOrders=ka)(r:H.fits N=ka){c:Code}{p:Nat}{Z:Type}{U:AE}{K:Ex->AE->Rs Z}{z:Z}{a:Act}{w:World}{M:Gh}(x:DB N c=ka) (A:Ea cx H c p U K=kd z)(h:sH B U N (AJ a) w M)(v:a.tmps.size=N)(g:a9a B a.defers w):c.wpIn (Fr ke) 0 P (b4B B N K z) a w:=by refine wpIn_mono (Of (ro:=ke) (D:=a.defers) d (q.anew h) y r c p x A h.anew v rfl) ?_;rintro e C E ⟨o,m,l,rfl,u,j,b,i⟩;refine⟨o,m,l,rfl,u,h.back j,b,?_⟩;rcases g with g|⟨D,g,k,f⟩;exact .inl (i.trans g);exact .inr ⟨D,i.trans g,k,h.others j f rfl⟩
structure wM (P:Program) (r:vC):Prop where
 mkr:a8Z P r.mkr r.it
 it:a3M P r.it r.e
def b4C(N:Nat)(r:vC)(q:vY):Bool:=q.ops.toList.all (PR N q.ops.toList)&&(DB N q.assign&&(DB N q.body&&(A4 (q.i1<N)&&(A4 (q.i2<N)&&(A4 (q.g<N)&&(A4 (r.t<N)&&(r.s.fits N&&r.t != q.g)))))))
theorem a9b{k a:Code}{q:vY}(h:Zz k a=kd q):∃id,k=.region id q.ops kc/\a=.block q.b (.rangeFunc (.tmp q.g) #[q.i1,q.i2] q.assign q.body):=by unfold Zz at h;split at h;rename_i i f body;split at h;rename_i c d e;cases h;exact⟨_,rfl,by rw[show i=#[c,d]from by grind]⟩;simp_all;simp_all
theorem a9c{o:Oper}{g:Nat}(h:a3J o r g=ka):∃c,o.op=.call c/\c.callee=.value (.func r.mkr)/\c.args=#[.tmp r.t]/\o.dst=kd g/\o.guard=ke:=by unfold a3J at h;split at h;rename_i c b;split at h;rename_i f t k a;simp at h;grind;simp_all;simp_all
theorem a3N(h4:uS P cx)(hG:Ym cx.G B)(hm:P.follows .mixedOrders=ka)(hH:H.fits N=ka)(hr:wM P r)(R:∀i b,1000<=i->B.pin i≠kd b){c1 c2:Code}{q:vY}(hq:Zz c1 c2=kd q)(hf:b4C N r q=ka)
  {p:Nat}{Z:Type}{U:AE}{K:Ex->AE->Rs Z}{z:Z}{a:Act}{w:World}{M:Gh}(S:a8Y cx H r q p U K=kd z)(h:sH B U N (AJ a) w M)(hN:a.tmps.size=N)(hd:a.defers=[]):
  (Code.seq c1 c2).wpIn (Fr ke) 0 P (b4B B N K z) a w:=by
 obtain⟨id,rfl,rfl⟩:=a9b hq;simp only[b4C,HC,dT]at hf;have⟨h9,k3,k4,k7,k8,hg,ht,hs,a5⟩:=hf;have a5:r.t≠q.g:=by simp_all
 unfold a8Y at S;split at S;rotate_left;grind;rename_i mv cl hl;have⟨F,S⟩:=(Ah S).elim _root_.id λh=>by grind
 simp at F;have⟨F,k5,b7⟩:=F;have⟨c,ho,k1,k0,h5,b6⟩:=a9c F;refine wpIn_seq (wpIn_region_list ?_);have h0:=Vx (lA.1 h9 mv (by simp_all));rw[hl];simp only[wpListIn];rw[if_pos (by simp_all[Region.wanted])];refine Kp h4 hG h hN h0 S λv w1 U1 M1 h1 S=>?_
 have⟨a1,g9⟩:∃a1,a.put mv.dst v=a1:=⟨_,rfl⟩;have g7:a1.tmps.size=N:=by grind[Vh]
 have b5:a1.defers=[]:=by grind[Tq]
 rw[g9]at h1|-;rw[if_pos (by simp_all[Region.wanted])];split at S;grind;rename_i b3

 have⟨o,h6⟩:∃o,Value.func (.func r.it) #[] #[.pointer (kd ⟨w1.heap.size,0,ke⟩)]=o:=⟨_,rfl⟩;have h7:sH B (U1.set q.g .dead) N (AJ (a1.put (kd q.g) o)) w1 M1:=h1.uL g7 λ_=>trivial;have a6:AJ (a1.put (kd q.g) o) r.t=AJ a1 r.t:=by simp_all[Vg]
 have O:∀{B':Base}{k:World},(∀i b,1000<=i->B'.pin i≠kd b)->sH B' (U1.set q.g .dead) N (AJ (a1.put (kd q.g) o)) k M1->∃(x:r.s.ty.sI)(l0:List r.e.sI)(y:r.s.ty.sI ⊕ (Ex×r.s.ty.sI)) (M2:Gh),sH B' (r.s.enc x) N (AJ (a1.put (kd q.g) o)) k M2/\
   (r.s.enc x).get r.t=.val (.list kc r.e) l0/\l0.length<2147483648/\PY (c1Q cx H (2*p+1) r.s q.i1 q.i2 q.assign q.body r.e) l0 l0.length x=kd y/\
   (match y with
    |.inl u=>K .normal (r.s.enc u)
    |.inr (.normal,u)=>K .normal (r.s.enc u)
    |.inr (.exit i,u)=>bif i==q.b then K .normal (r.s.enc u)else K (.exit i) (r.s.enc u)
    |.inr (.ret,u)=>K .ret (r.s.enc u))=kd z:=by
  intro B' k hp k9;have⟨U2,M2,b0,h2⟩:=sH.vN hp _ k9 S;have⟨x,L,m,h3⟩:=h2.xC hs b0;split at m;rename_i t l k6;split at m;rename_i he;subst he;have⟨h8,m⟩:=(Ah m).elim _root_.id λh=>by grind
  have⟨y,a8,a9⟩:=B8.1 m;exact⟨x,l,y,L,h3,k6,of_decide_eq_true (show A4 (B7 l<2147483648)=ka from h8),a8,a9⟩;simp_all;simp_all
 have⟨A,I,C,a4⟩:∃A I C,AJ a1 r.t=.slice A I C:=by
  obtain⟨x,l0,y,M2,g1,g2,-⟩:=O R h7
  have:=Gn g1 ht
  rw[g2,a6]at this;obtain⟨A,n,c,e,-⟩:=CK.header this;simp_all
 refine a3s (λc' b4=>by simp_all) ?_
 rw[a5s hr.mkr.1 ho k1,Oper.uponIn_enter];refine⟨λh=>(by grind),a5r ?_⟩;have X:c.args.map a1.eval=#[.slice A I C]:=by
  rw[k0,<-a4];simp only[List.map_toArray,List.map_cons,F4];rfl
 rw[X];refine(hr.mkr.2 A I C w1).mono ?_
 rintro en k ⟨rfl,ty,a7⟩
 simp
 rw[h6,h5];have T:wH B w1 k:=by rw[a7];exact VF h1.size _
 have E:=h7.turned T;have g5:sH { B.anew k M1 with pin:=B.pin } (U1.set q.g .dead) N (AJ (a1.put (kd q.g) o)) k M1:=E.anew.yD B.pin λi b hb=>by simp_all[Base.anew]
 have⟨x,l0,y,M2,g1,g2,gl,g3,Q⟩:=O (B':={ B.anew k M1 with pin:=B.pin }) R g5;have Y:k.cell? ⟨w1.heap.size,0,ke⟩=kd (AJ (a1.put (kd q.g) o) r.t):=by
  simp_all
 have g0:w1.heap.size<k.heap.size:=by simp_all
 refine wpIn_block (wpIn_mono (a5N (B:={ B.anew k M1 with pin:=B.pin }) (a:=a1.put (kd q.g) o) (p:=2*p+1) (it:=r.it) (Bs:=w1.heap.size) h4 (hG.anew E) hm hH k3 k4 hs k5 k7 k8 (by rw[Vh];omega) ht g1 g2 ?_ hr.it gl Y g0
  (λho=>Nat.lt_irrefl _ (h1.lt ho)) g3 (by simp_all[Tq])) ?_)
 show AJ (a1.put (kd q.g) o) q.g=_;rw[Vg _ (by omega),if_pos rfl,<-h6]
 ·rintro en a3 w3 ⟨D,rfl,d,k2,V,g6,L,a2⟩;have V:k.heap.size<=D:=V;have j:sH B (r.s.enc (c6J y).2) N (AJ a3) w3 L:=E.uG (λ_ _ h=>h) a2;have f:a9a B a3.defers w3:=.inr ⟨D,k2,B9 E.size V,g6⟩;cases y with
  |inl u=>exact⟨.normal,_,L,rfl,Q,j,d,f⟩
  |inr ex=>
   have⟨ex,u⟩:=ex;cases ex with
   |normal=>exact⟨.normal,_,L,rfl,Q,j,d,f⟩
   |ret=>exact⟨.ret,_,L,rfl,Q,j,d,f⟩
   |exit i=>
    simp[c6J,nX,Exit.inBlock];rcases Ah Q with⟨hi,Q⟩|⟨hi,Q⟩;rw[if_pos (by simp_all)];exact⟨.normal,_,L,rfl,Q,j,d,f⟩;rw[if_neg (by simp_all)];exact⟨.exit i,_,L,rfl,Q,j,d,f⟩
def PF(N:Nat)(r:vC):Code->Bool|.seq a b=>(match Zz a b with|some q=>b4C N r q|none=>bif Oi a then PF N r a&&DB N b else DB N a&&PF N r b)|c=>DB N c
theorem a3O(m:uS P cx)(C:Ym cx.G B)(F:P.follows .mixedOrders=ka)(E:H.fits N=ka)(R:wM P r)(I:∀i b,1000<=i->B.pin i≠kd b):∀(c:Code) (p:Nat){Z:Type}{U:AE}{K:Ex->AE->Rs Z}{z:Z}{a:Act}{w:World}{M:Gh}(_:PF N r c=ka) (_:eB cx H r c p U K=kd z) (_:sH B U N (AJ a) w M) (_:a.tmps.size=N) (_:a.defers=[]),c.wpIn (Fr ke) 0 P (b4B B N K z) a w:=by intro c;induction c with|seq x y ihx ihy=>(intro p Z U K z a w M d j h v u;simp[PF]at d;simp[eB]at j;split at j;grind[a3N];rename_i O;rw[O]at d;simp only[]at d;refine wpIn_seq ?_;cases hx:Oi x with|true=>(rw[hx]at d j;simp at d j;refine wpIn_mono (ihx _ d.1 j h v u) ?_;rintro e L Q ⟨A,q,o,rfl,l,k,f,g⟩;cases A with|normal=>exact gL m C F E d.2 l k f g|exit i=>exact⟨.exit i,q,o,rfl,l,k,f,g⟩|ret=>exact⟨.ret,q,o,rfl,l,k,f,g⟩)|false=>rw[hx]at d j;simp at d j;refine wpIn_mono (Of (ro:=ke) (D:=[]) m C F E x _ d.1 j h v u) ?_;rintro e L Q ⟨A,q,o,rfl,l,k,f,g⟩;cases A with|normal=>exact ihy _ d.2 l k f g|exit i=>exact⟨.exit i,q,o,rfl,l,k,f,.inl g⟩|ret=>exact⟨.ret,q,o,rfl,l,k,f,.inl g⟩)|_=>intro p Z U K z a w M d j h v u;refine gL m C F E (p:=p) (U:=U) (M:=M) ?_ ?_ h v (.inl u);simpa only[PF]using d;simpa only[eB]using j
end
def b9o(fn:Func)(c:Code)(H:rY)(r:vC)(s:rZ):Bool:=PF fn.ntmps r c&&(H.fits fn.ntmps&&(A4 (s.ps.length<=fn.ntmps)&&(A4 (s.ps.length<=1000)&&fn.results.toList.all λr=>UB fn.ntmps (.inl r))))
section
variable {P:Program} {cx:Cx}
theorem TD:∀(g:List PA)(i0 i:Nat),i∈Ba g i0->i<i0+g.length|[],_,_,h=>by simp[Ba]at h|.v _::g,i0,i,h=>by have:=TD g (i0+1) i h;grind|.r _ _::g,i0,i,h=>by simp;rcases mC.1 h with rfl|h;omega;have:=TD g (i0+1) i h;omega
theorem HH.zL(u:uS P cx)(hm:P.follows .mixedOrders=ka){f:FuncId}{fn:Func}{c:Code}{H:rY}{r:vC}{s:rZ}(h7:wM P r)(h5:P.funcs[f]?=kd fn)(hb:fn.body=kd c)(Q:b9o fn c H r s=ka) (h4:∀x,b0C cx H r fn s.ps s.rs x=s.F x):HH P cx.G f s:=by
 simp only[b9o,HC,dT]at Q;have⟨N,hH,g3,T,q⟩:=Q;intro w U M args x y hG hy hB g1 g2 h0 A p;have⟨B,d⟩:∃B:Base,{ U with pin:=λi=>bif A4 (i<1000)then U.pin i else ke }=B:=⟨_,rfl⟩;have g:sH B (Ux s.ps x) s.ps.length (λi=>args.getD i undef) w M:=by(rw[<-d];refine A.yD _ λi b hb=>?_);grind
 have S:∀i b,1000<=i->B.pin i≠kd b:=by rw[<-d];grind
 have l:b0k B s.ps args:=by(intro i hi hk;have⟨b,V,I⟩:=p i hi hk;refine⟨b,?_,I⟩;have O:i<s.ps.length:=by have:=TD s.ps 0 i hi;omega);(have:A4 (i<1000)=ka:=by grind);rw[<-d];simp_all
 have hG:Ym cx.G B:=by rw[<-d];exact hG
 have j:∀{E its vs o},wV B E its vs o->wV U E its vs o:=λ{E its vs o} h=>by rw[<-d]at h;exact⟨h.lv,h.ll,h.ok,h.nodup,h.sQ,h.live,h.mine,h.size,h.frame,h.still⟩
 rw[<-h4 x]at hy;simp[b0C,hb]at hy;let a:Act:={ tmps:=args++D2 (fn.ntmps-args.size) undef,defers:=[] };have h8:a.tmps.size=fn.ntmps:=by grind
 have z:sH B (Ux s.ps x) fn.ntmps (AJ a) w M:=by refine⟨g.roots,g.norm,g.nodup,g.sQ,g.live,λi hi=>?_,g.pend,g.size,g.frame,g.mine,g.pins,g.still⟩;by_cases O:i<s.ps.length;have:=g.slots i O;(have e:AJ a i=args.getD i undef:=by simp[AJ,a,E7];simp_all);simp_all;(have:(Ux s.ps x).sl i=.one .dead:=by simp_all[Ux,Iw]);rw[this];trivial
 refine callsIn_wide.1 (callsIn_of_wp_marks (F:=Fr ke) (n:=0) h5 hb trivial (wpIn_mono (a3O u hG hm hH h7 S c 1 N hy z h8 rfl) ?_));rintro e a' E ⟨ex,U',M',rfl,X,hr,hN,K⟩;simp at X;have h9:(∀i,ex≠.exit i)/\U'.pd=ke/\(U'.upto fn.ntmps).outs cx [] fn.ntmps (RA.all s.ps s.rs) (fn.results.toList.map .inl++(Ba s.ps 0).map λi=>.inr (Th s.ps i)) (λy _=>kd y)=kd y:=by grind
 have⟨g0,R,X⟩:=h9;have k:LeavesInM (Fr ke) 0 P fn a'.tmps (λe E=>∃C o,e=.returned (fV C)/\C.length=s.rs.length/\wV U E (Fg (RA.all s.ps s.rs) y) (C++(Ba s.ps 0).map (GV s.ps args)) o) a'.defers .returning E:=by rcases K with K|⟨D,K,Z,L⟩;rw[K];have⟨v,m,C,o,V,I,Y⟩:=VE (args:=args) u.toCxTy q hr R X l;exact⟨v,m,C,o,V,I,j Y⟩;rw[K];have h6:=hr.turned (Pe L rfl Z (.deferred ke));have⟨v,m,C,o,V,I,Y⟩:=VE (args:=args) u.toCxTy q h6 R X l;exact⟨by simp,.inl ⟨D,_,rfl,run_takeDeferred L,v,m,C,o,V,I,j Y⟩⟩
 cases ex with|exit i=>simp_all|normal=>exact k|ret=>exact k
end
end Go.Ab
