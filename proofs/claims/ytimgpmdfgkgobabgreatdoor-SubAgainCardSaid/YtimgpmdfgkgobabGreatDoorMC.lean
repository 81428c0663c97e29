/- Part of the proof: LibZJ, LibZJD, LibZJE, LibZJF, LibZJG, LibZJH, LibZK, LibZL, LibZM, LibZN, LibZO, LibZP, LibZQ, LibZR, LibZS, LibZT, LibZU. Conditions: as each statement tells. -/
import Derived.OrdersIn
import Derived.OpenShut
import Derived.Deep.Slices
import Derived.ChangeSame
import Derived.WideKeyArgs
import Derived.RowKit
import Derived.Laws.StructEq
import Derived.ChangeKeysEq
import Derived.RangeFuncNested
import Derived.RangeFuncLeaves
import Derived.Test.YtimgpmdfgkgobabGreatDoorMB
noncomputable section
set_option linter.unusedSimpArgs false
set_option linter.unusedVariables false
open Array renaming getElem?_eq_some_iff→a16,replicate→a29,getElem?_append→a41,all_toList→a54
open Bool renaming false_eq_true→a01,and_eq_true_iff→a20,false_and→a42,not_eq_true'→a53,not_false→a56
open List renaming mem_cons_of_mem→a02,mem_append_right→a04,mem_append_left→a05,map_congr_left→a06,length→a07,mem_map→a17,mem_cons_self→a18,range_eq_range'→a21,append_nil→a22,mem_filterMap→a23,getElem?_cons_zero→a24,range→a25,all_cons→a27,mem_of_getElem?→a28,mem_range→a30,map_id→a31,getElem?_append_right→a32,range'→a33,mem_flatMap→a35,mem_filter→a37,contains_iff_mem→a38,append→a39,mem_iff_getElem?→a40,range'_append_1→a43,contains_eq_mem→a44,mem_map_of_mem→a45,map_map→a46,zipWith→a47,map_nil→a49,filter_congr→a50,ext_getElem?→a51,getElem?_map→a52
open Nat renaming lt_of_lt_of_le→a03,le_trans→a09,le_refl→a19,zero_add→a48
open Option renaming isSome_iff_exists→a00,bind_eq_some_iff→a08,elim→a26,ne_none_iff_exists'→a34,getD_some→a36,map_some→a55
namespace Go.Ab
section
variable {cx:Cx} {o:Oper} {d:Nat} {Γ:AE}
theorem d8g{ρ:Type}(Γ:AE)(ty:Option Ty)(a:AV)(K:Nat→Rs ρ):Γ.lenK ty a K=(Γ.lenK ty a some).elim none K:=by
 unfold AE.lenK
 grind
theorem d3Q{ρ:Type}{Γ Γ2:AE}{a:AV}(h:∀n∈a.refs,Γ2.look n=Γ.look n)(ty:Option Ty)(K:Nat→Rs ρ):Γ2.lenK ty a K=Γ.lenK ty a K:=by
 unfold AE.lenK
 grind[AV.refs]
theorem c8Q{ρ:Type}(f:Int→Int→Int)(k:IntKind):∀(l:List AV)(x:Int)(K:AV→Rs ρ),AE.mins f k l x K=(AE.mins f k l x some).elim none K
 | [],x,K=>rfl
 |a::r,x,K=>by
  cases a with
  |val t y=>
   cases t with
   |int k'=>
    simp only[AE.mins];split;exact c8Q f k r _ K;rfl
   |_=>rfl
  |_=>rfl
theorem c4W{ρ:Type}(Γ:AE)(e:Ty)(x:AV)(ys:List e.den)(K:AE→Rs ρ):Γ.apnd true d e x ys K=(match x with
  |.nils|.empt=>bif lim ys.length then Γ.fresh true d ⟨false,.list true e,ys⟩ fun Γ=>K (Γ.set d (.sref d []))else none
  |_=>none):=by
 cases x<;>rfl
theorem c8R{e:Ty}{x:AV}{ys:Option (List e.den)}(h:∀Γ2,a2m (a0y o) Γ Γ2→∀{ρ:Type}(K:AE→Rs ρ),aop cx true o Γ2 K=ys.elim none fun ys=>Γ2.apnd true d e x ys K):Uni cx o d Γ:=by
 cases ys with
 |none=>exact Uni.none h
 |some ys=>
  have h:∀Γ2,a2m (a0y o) Γ Γ2→∀{ρ:Type}(K:AE→Rs ρ),aop cx true o Γ2 K=Γ2.apnd true d e x ys K:=h;cases hl:lim ys.length with
  |false=>grind[Uni.none,c4W]
  |true=>
   cases x with
   |nils=>exact Uni.ofFresh ⟨false,.list true e,ys⟩ (.sref d []) rfl fun Γ2 hA ρ K=>by simp_all[c4W]
   |empt=>exact Uni.ofFresh ⟨false,.list true e,ys⟩ (.sref d []) rfl fun Γ2 hA ρ K=>by simp_all[c4W]
   |_=>exact Uni.none fun Γ2 hA ρ K=>by rw[h Γ2 hA,c4W]
theorem d1e{Γ2:AE}(hA:a2m (a0y o) Γ Γ2){c:Call}(ho:o.op=.call c):c.args.toList.map Γ2.opd=c.args.toList.map Γ.opd:=
 a06 fun x hx=>hA.opd (by simp_all[Op.operands,Call.operands])
theorem b1Y{c:Call}(ho:o.op=.call c):∀x∈c.args.toList,x∈o.op.operands.toList:=fun x hx=>by
 simp_all[Op.operands,Call.operands]
theorem d0q{c:Call}{b:Builtin}(ho:o.op=.call c)(hb:c.callee=.builtin b)(hd:o.dst=some d):Uni cx o d Γ:=by
 have run:∀Γ2,a2m (a0y o) Γ Γ2→∀{ρ:Type}(K:AE→Rs ρ),aop cx true o Γ2 K=Γ2.blt true cx d b c.argTypes.toList (c.args.toList.map Γ.opd) K:=fun Γ2 hA ρ K=>by
  grind[aop,d1e]
 have hl:∀a∈c.args.toList.map Γ.opd,∀n∈a.refs,∀Γ2,a2m (a0y o) Γ Γ2→Γ2.look n=Γ.look n:=fun a ha n hn Γ2 hA=>by
  obtain⟨x,hx,rfl⟩:=a17.1 ha;exact hA.look (b1Y ho x hx) hn
 revert run hl
 generalize c.args.toList.map Γ.opd=as;generalize c.argTypes.toList=ts;intro run hl;have no:(∀(Γ2:AE){ρ:Type}(K:AE→Rs ρ),Γ2.blt true cx d b ts as K=none)→Uni cx o d Γ:=fun h=>Uni.none fun Γ2 hA ρ K=>by simp_all
 cases b with
 |len=>
  match as with
  | [a]=>
   refine Uni.of ((Γ.lenK (ts.head?.bind cx.T) a some).map fun n=>.val (.int .i64) (n:Int)) fun Γ2 hA ρ K=>?_
   rw[run Γ2 hA];simp only[AE.blt];rw[d8g,d3Q fun n hn=>hl a (by simp) n hn Γ2 hA];cases Γ.lenK (ts.head?.bind cx.T) a some<;>rfl
  | []=>exact no fun Γ2 ρ K=>rfl
  |_::_::_=>exact no fun Γ2 ρ K=>rfl
 |max=>
  match as with
  | []=>exact no fun Γ2 ρ K=>rfl
  |a::r=>
   cases a with
   |val t x=>
    cases t with
    |int k=>exact Uni.of (AE.mins a1r k r x some) fun Γ2 hA ρ K=>by rw[run Γ2 hA];exact c8Q _ _ _ _ _
    |_=>exact no fun Γ2 ρ K=>rfl
   |_=>exact no fun Γ2 ρ K=>rfl
 |min=>
  match as with
  | []=>exact no fun Γ2 ρ K=>rfl
  |a::r=>
   cases a with
   |val t x=>
    cases t with
    |int k=>exact Uni.of (AE.mins a2d k r x some) fun Γ2 hA ρ K=>by rw[run Γ2 hA];exact c8Q _ _ _ _ _
    |_=>exact no fun Γ2 ρ K=>rfl
   |_=>exact no fun Γ2 ρ K=>rfl
 |append=>
  match as with
  | []=>exact no fun Γ2 ρ K=>rfl
  | [_]=>exact no fun Γ2 ρ K=>rfl
  |_::_::_::_=>exact no fun Γ2 ρ K=>rfl
  | [a,b]=>
   cases hni:c1a cx ts with
   |false=>simp_all[AE.blt]
   |true=>
    cases ht:ts.head?.bind cx.T with
    |none=>simp_all[AE.blt]
    |some τ=>
     cases τ with
     |list o' e=>
      have els:(∀(Γ2:AE){ρ:Type}(K:AE→Rs ρ),Γ2.blt true cx d .append ts [a,b] K=Γ2.elems e b fun ys=>Γ2.apnd true d e a ys K)→Uni cx o d Γ:=fun h=>
       c8R (e:=e) (x:=a) (ys:=a9O Γ.look e b) fun Γ2 hA ρ K=>by
        simp_all[b8R,b6n]
      cases b with
      |val t y=>
       cases t with
       |str=>
        by_cases he:e=.int .u8
        subst he;exact c8R (e:=.int .u8) (x:=a) (ys:=some y) fun Γ2 hA ρ K=>by
         rw[run Γ2 hA];simp only[AE.blt,hni,ht,cT];rfl
        simp_all[AE.blt]
       |_=>exact els fun Γ2 ρ K=>by simp only[AE.blt,hni,ht,cT,Bool.true_or]
      |_=>exact els fun Γ2 ρ K=>by simp only[AE.blt,hni,ht,cT,Bool.true_or]
     |_=>exact no fun Γ2 ρ K=>by simp only[AE.blt,hni,ht,cT]
 |_=>exact no fun Γ2 ρ K=>by unfold AE.blt;split<;>first|rfl|(rename_i h;cases h)|(rename_i h _;cases h)
def b6o(fz:Bool)(lk:Nat→Option Root):(p:PA)→AV→Option p.ty.den
 |.v t,a=>bif fz then a7X t a else b1w lk t a
 |.r _ _,_=>none
theorem b7t{ρ:Type}(Γ:AE)(fz:Bool)(seen:List Nat)(p:PA)(a:AV)(K:p.ty.den→AE→List Nat→List Nat→Rs ρ):
  Γ.arg fz true [] seen p a K=(b6o fz Γ.look p a).elim none fun x=>K x Γ [] (bif fz then seen else a.viewed++seen):=by
 cases p with
 |v t=>
  simp only[AE.arg];rw[show(a.viewed.any fun n=>([]:List Nat).contains n)=false from by simp]
  simp
  cases fz with
  |true=>simp[b6o];rw[c2H];rfl
  |false=>
   simp[b6o];rw[d3J];rfl
 |r c b=>
  cases b with
  |v t=>rfl
  |b t=>
   cases a with
   |ptr n p=>cases p<;>simp[AE.arg,b6o]
   |_=>rfl
  |o e=>
   cases a with
   |sref n p=>cases p<;>simp[AE.arg,b6o]
   |_=>rfl
def AE.argso(Γ:AE)(fz:Bool)(seen:List Nat)(ps:List PA)(as:List AV):Option (a2g (ps.map PA.ty)).den:=Γ.args fz true [] seen ps as fun x _ _=>some x
theorem c8S(Γ:AE)(fz:Bool)(ps:List PA):∀{ρ:Type}(as:List AV)(seen:List Nat)(K:(a2g (ps.map PA.ty)).den→AE→List Nat→Rs ρ),Γ.args fz true [] seen ps as K=(Γ.argso fz seen ps as).elim none fun x=>K x Γ []:=by
 induction ps with
 |nil=>
  intro ρ as seen K;cases as<;>rfl
 |cons p ps ih=>
  intro ρ as seen K;cases as with
  |nil=>cases ps<;>rfl
  |cons a as=>
   cases ps with
   |nil=>
    cases as with
    |nil=>
     simp[AE.argso,AE.args];rw[b7t,b7t];cases b6o fz Γ.look p a<;>rfl
    |cons=>rfl
   |cons p' ps=>
    simp[AE.argso,AE.args];rw[b7t,b7t];cases b6o fz Γ.look p a with
    |none=>rfl
    |some x=>
     simp[a26];rw[ih,ih];cases Γ.argso fz (bif fz then seen else a.viewed++seen) (p'::ps) as<;>rfl
theorem d1P{Γ:AE}(fz:Bool)(ps:List PA):∀(as:List AV)(seen:List Nat)(x:(a2g (ps.map PA.ty)).den),Γ.argso fz seen ps as=some x→a5y ps=[]:=by
 induction ps with
 |nil=>intro as seen x h;rfl
 |cons p ps ih=>
  intro as seen x h;cases as with
  |nil=>cases ps<;>cases h
  |cons a as=>
   cases ps with
   |nil=>
    cases as with
    |nil=>
     simp[AE.argso,AE.args]at h;rw[b7t]at h;cases p with
     |v t=>rfl
     |r c t=>cases h
    |cons=>cases h
   |cons p' ps=>
    simp[AE.argso,AE.args]at h;rw[b7t]at h;cases p with
    |r c t=>cases h
    |v t=>
     cases h1:b6o fz Γ.look (.v t) a with
     |none=>simp_all
     |some y=>
      rw[h1]at h;simp at h;rw[c8S]at h;cases h2:Γ.argso fz (bif fz then seen else a.viewed++seen) (p'::ps) as with
      |none=>simp_all
      |some z=>exact ih as _ z h2
theorem d0r{Γ Γ2:AE}(fz:Bool)(ps:List PA):∀(as:List AV)(seen:List Nat),(∀a∈as,∀n∈a.refs,Γ2.look n=Γ.look n)→Γ2.argso fz seen ps as=Γ.argso fz seen ps as:=by
 have one:∀(p:PA)(a:AV),(∀n∈a.refs,Γ2.look n=Γ.look n)→b6o fz Γ2.look p a=b6o fz Γ.look p a:=fun p a h=>by
  cases p with
  |v t=>simp_all[b6o,c3a]
  |r c t=>rfl
 induction ps with
 |nil=>intro as seen h;cases as<;>rfl
 |cons p ps ih=>
  intro as seen h;cases as with
  |nil=>cases ps<;>rfl
  |cons a as=>
   cases ps with
   |nil=>
    cases as with
    |nil=>
     simp_all[AE.argso,AE.args,b7t]
    |cons=>rfl
   |cons p' ps=>
    simp[AE.argso,AE.args]
    grind[b7t,c8S]
theorem c6Y{ρ:Type}(Γ:AE):∀(ns:List Nat)(K:AE→Rs ρ),Γ.dropAll true [] ns K=bif ns.all fun n=>decide (n<pinned)&&(Γ.rt n).isNone then K Γ else none
 | [],K=>rfl
 |n::r,K=>by
  simp only[AE.dropAll,a27];rw[show(!([]:List Nat).contains n)=true from by simp,Bool.and_true];cases decide (n<pinned);rfl
  ·simp
   cases Γ.rt n with
   |none=>simp_all[c6Y]
   |some x=>simp
def a4F:List Nat→List ((r:RA)×r.ty.den)→List (Nat×Root)
 |k::ns,it::its=>match a0M it with
  |some r=>(k,r)::a4F ns its
  |none=>a4F ns its
 |_,_=>[]
theorem b5c:∀(ns:List Nat)(its:List ((r:RA)×r.ty.den)) (n:Nat),find (a4F ns its) n=a2r ns its n
 | [],its,n=>by rfl
 |k::ns,[],n=>rfl
 |k::ns,it::its,n=>by
  simp[a4F,a2r];cases a0M it with
  |none=>simp_all[b5c]
  |some r=>
   simp[find];rw[b5c ns its n]
   grind
theorem b8S:∀(rs:List RA)(n:Nat)(its:List ((r:RA)×r.ty.den)),(∀(k:Nat) it,its[k]?=some it→k<rs.length→rs[k]?=some it.1)→rs.length≤its.length→
  (a4F (a1i rs n++[]) its).map (·.1)=a2K rs n
 | [],n,its,h,hl=>by rfl
 |r::rs,n,[],h,hl=>by simp_all
 |r::rs,n,it::its,h,hl=>by
  have h0:=h 0 it rfl (by simp);simp at h0;have ih:=b8S rs (n+1000) its (fun k it' hk hlt=>by simpa using h (k+1) it' (by simp_all) (by simp_all)) (by simp_all);obtain⟨r',x⟩:=it;obtain rfl:r=r':=h0;simp only[a1i,List.cons_append,a4F];cases r with
  |v t=>simp_all[a0M,a2K]
  |o e=>simp_all[a0M,a2K]
  |b t=>simp_all[a0M,a2K]
theorem d3R{ks:List Nat}:AV.deeps [] ks=id:=by
 funext a;cases a<;>simp[AV.deeps]
theorem d3S{n:Nat}:∀{it:(r:RA)×r.ty.den},(c6e n it).firm=true→a0M it=none
 |⟨.v t,x⟩,_=>rfl
 |⟨.o e,x⟩,h=>by cases h
 |⟨.b t,x⟩,h=>by cases h
theorem c4X:∀(ns:List Nat)(its:List ((r:RA)×r.ty.den)),(a4P ns its).all AV.firm=true→ns.length=its.length→a4F ns its=[]
 | [],its,_,_=>by rfl
 |k::ns,[],_,h=>by rfl
 |k::ns,it::its,h,hl=>by
  simp only[a4P,a27,bA]at h;simp only[a4F];rw[d3S h.1];exact c4X ns its h.2 (by simpa using hl)
theorem b2E:∀(ns:List Nat)(its:List ((r:RA)×r.ty.den)) (n:Nat),a2r ns its n≠none→n∈ns
 | [],_,n,h=>absurd rfl h
 |_::_,[],n,h=>absurd rfl h
 |k::ns,it::its,n,h=>by
  simp only[a2r]at h;cases hr:a0M it with
  |none=>rw[hr]at h;exact a02 _ (b2E ns its n h)
  |some r=>
   rw[hr]at h;simp only[]at h
   by_cases e:n=k
   subst e;exact a18
   have:(n==k)=false:=by simpa using e
   rw[this]at h;exact a02 _ (b2E ns its n h)
theorem d4V{c:Call}{f:FuncId}(ho:o.op=.call c)(hb:c.callee=.value (.func f))(hd:o.dst=some d):Uni cx o d Γ:=by
  cases hs:cx.C f with
  |none=>simp_all[Uni.none,aop]
  |some s=>
    let fz:=s.rs.any RA.hasList || (a5y s.ps).any RA.hasList
    let nm:=a2K s.rs (d+1000)
    have hl:∀a∈c.args.toList.map Γ.opd,∀n∈a.refs,∀Γ2,a2m (a0y o) Γ Γ2→Γ2.look n=Γ.look n:=fun a ha n hn Γ2 hA=>by
      obtain⟨x,hx,rfl⟩:=a17.1 ha;exact hA.look (b1Y ho x hx) hn
    have run:∀Γ2,a2m (a0y o) Γ Γ2→∀{ρ:Type}(K:AE→Rs ρ),aop cx true o Γ2 K=(match Γ.pd with
        |some _=>none
        |none=>(Γ.argso fz [] s.ps (c.args.toList.map Γ.opd)).elim none fun x=>bif nm.all (fun n=>decide (n<pinned)&&(Γ2.rt n).isNone)then(s.F x).bind fun y=>
            (let Γ3:AE:=⟨fun i=>(Γ2.sl i).mapv (AV.deeps [] (Γ2.unbx (brw s.ps []))),fun n=>match a2r (a1i s.rs (d+1000)++[]) (a2A (RA.all s.ps s.rs) y) n with
              |some r=>some r
              |none=>Γ2.rt n,none⟩
             match a4P (a1i s.rs (d+1000)) (a2A (RA.all s.ps s.rs) y)with
              | [v]=>K (Γ3.set d v)
              |vs=>K (Γ3.put d (.cmp .tup vs)))else none):=fun Γ2 hA ρ K=>by
      simp only[aop,ho,hd,hb,hs,d1e hA ho];unfold AE.call;rw[hA.1];cases Γ.pd with
      |some p=>rfl
      |none=>
        simp only[];rw[c8S,d0r _ _ _ _ fun a ha n hn=>hl a ha n hn Γ2 hA];cases Γ.argso (s.rs.any RA.hasList || (a5y s.ps).any RA.hasList) [] s.ps (c.args.toList.map Γ.opd)with
        |none=>rfl
        |some x=>
          grind[c6Y]
    cases hpd:Γ.pd with
    |some p=>simp_all[Uni.none]
    |none=>
      rw[hpd]at run;cases hx:Γ.argso fz [] s.ps (c.args.toList.map Γ.opd)with
      |none=>simp_all[Uni.none]
      |some x=>
        cases hy:s.F x with
        |none=>
          simp_all[Uni.none]
        |some y=>
          let its:=a2A (RA.all s.ps s.rs) y
          let ns:=a1i s.rs (d+1000)
          let sv:SV:=match a4P ns its with
            | [v]=>.one v
            |vs=>.cmp .tup vs

          have hps:=d1P fz s.ps _ _ x hx;have hall:RA.all s.ps s.rs=s.rs:=by rw[RA.all,hps];simp
          have hlen:its.length=s.rs.length:=by rw[show its=a2A (RA.all s.ps s.rs) y from rfl,a9L,hall]
          have hnm:(a4F (ns++[]) its).map (·.1)=nm:=b8S s.rs (d+1000) its (fun k it hk _=>by
            grind[b4K]) (by omega)
          have hfind:∀n,find (a4F (ns++[]) its) n=a2r (ns++[]) its n:=b5c _ _;refine⟨some ⟨a4F (ns++[]) its,sv⟩,fun δ e=>?_,fun Γ2 hA ρ K=>?_⟩
          grind[b2E,a9d,SV.firm,c4X,b2C]
          · rw[run Γ2 hA,hx]
            simp only[a26,hy,oB,c1t];rw[show((a4F (ns++[]) its).all fun p=>decide (p.1<pinned)&&(Γ2.rt p.1).isNone)=nm.all fun n=>decide (n<pinned)&&(Γ2.rt n).isNone from by grind[List.all_map]];cases (nm.all fun n=>decide (n<pinned)&&(Γ2.rt n).isNone)with
            |false=>rfl
            |true=>
              simp only[cT];have hΓ:∀sv':SV,(⟨fun i=>(Γ2.sl i).mapv (AV.deeps [] (Γ2.unbx (brw s.ps []))),fun n=>match a2r (a1i s.rs (d+1000)++[]) (a2A (RA.all s.ps s.rs) y) n with
                  |some r=>some r
                  |none=>Γ2.rt n,none⟩:AE).put d sv'=(Dl.mk (a4F (ns++[]) its) sv').app d Γ2:=fun sv'=>by
                simp only[AE.put,Dl.app];congr 1;funext i;rw[d3R]
                have:(Γ2.sl i).mapv id=Γ2.sl i:=by cases Γ2.sl i<;>simp[SV.mapv]
                grind
                grind
                all_goals exact(hA.1.trans hpd).symm
              grind[AE.set]
end
end Go.Ab
namespace Go.Ab
section
variable {cx:Cx} {o:Oper} {d:Nat} {Γ:AE}
theorem c6q(hd:o.dst=some d):Uni cx o d Γ:=by
 cases ho:o.op
 case move x=>exact d4O ho hd
 case assign x=>exact d1K ho hd
 case pick x y u=>exact d4P ho hd
 case alloc t=>exact d3K ho hd
 case box t x=>exact d6I ho hd
 case build t x=>exact d3L ho hd
 case buildSlice t n x=>grind[c6p]
 case load t x=>exact d4Q ho hd
 case nilCheck x=>exact c8P ho hd
 case binOp op t x y s=>exact d3M ho hd
 case unOp op t x=>exact d4T ho hd
 case convert s t x=>exact d0o ho hd
 case makeSlice t x y=>grind[c7L]
 case slice t x u v m=>exact d3N ho hd
 case fieldAddr s x f=>grind[c7M]
 case field s x f=>exact d3O ho hd
 case indexAddr t x i=>grind[c7N]
 case index t x i=>exact d3P ho hd
 case extract x i=>exact d0p ho hd
 case makeFunc fn first caps=>exact c8O ho hd
 case store t x y=>simp_all[Uni.none,aop]
 case call c=>
  cases hc:c.callee with
  |builtin b=>simp_all[d0q]
  |invoke r n=>simp_all[Uni.none,aop]
  |value v=>
   cases v with
   |func f=>exact d4V ho hc hd
   |tmp t=>simp_all[Uni.none,aop]
   |_=>simp_all[Uni.none,aop]
 all_goals exact Uni.none fun Γ2 hA ρ K=>by simp only[aop,ho,hd]
theorem d4W(Γ:AE){g:Nat}{sv:SV}(h:Γ.sl g=sv):Γ.put g sv=Γ:=by
 obtain⟨sl,rt,pd⟩:=Γ;simp only[AE.put];congr 1
 grind
theorem a7c{ops:Array Oper}{t:Nat}(h:t∈a0y o):t∈o.looksAt ops:=by
 simp only[Oper.looksAt,mA];exact .inl h
theorem c3b{ops:Array Oper}{j g:Nat}{want:Bool}(hg:o.guard=some (j,want))(hj:b1r ops.toList j=some g):g∈o.looksAt ops:=by
 simp_all[Oper.looksAt,b1r]
def a3k(ops:Array Oper)(o:Oper)(Γ:AE):Option Bool:=match o.guard with
 |none=>some true
 |some (j,want)=>match b1r ops.toList j with
  |none=>none
  |some g=>match Γ.get g with
   |.val .bool (b:Bool)=>some (b==want)
   |.skp=>some false
   |_=>none
theorem b1Z{ρ:Type}{ops:Array Oper}{md:Md}(Γ:AE)(K:AE→Rs ρ):a0S cx md ops.toList o Γ K=(match a3k ops o Γ with
  |some true=>a5q cx md o Γ K
  |some false=>K (Γ.setD o.dst .skp)
  |none=>none):=by
 unfold a0S a3k;cases hg:o.guard with
 |none=>rfl
 |some p=>
  obtain⟨j,want⟩:=p
  simp
  cases hj:b1r ops.toList j with
  |none=>rfl
  |some g=>
   simp
   have hsame:∀(v:AV),v≠.dead→Γ.get g=v→Γ.set g v=Γ:=fun v hv h=>d4W Γ (by
    grind[AE.get])
   grind
theorem a6b{ρ:Type}{ops:Array Oper}{md:Md}(hd:o.dst=some d)(Γ:AE)(K:AE→Rs ρ):a0S cx md ops.toList o Γ K=(match a3k ops o Γ with
  |some true=>a5q cx md o Γ K
  |some false=>K (Γ.put d (.one .skp))
  |none=>none):=by
 rw[b1Z,hd];rfl
theorem b1x{ops:Array Oper}{Γ Γ2:AE}(h:∀t∈o.looksAt ops,Γ2.sl t=Γ.sl t):a3k ops o Γ2=a3k ops o Γ:=by
 grind[a3k,AE.get,c3b]
theorem c8T{ops:Array Oper}{j g:Nat}{want:Bool}(hg:o.guard=some (j,want))(hj:b1r ops.toList j=some g)(h:a3k ops o Γ≠none):(Γ.sl g).firm=true:=by
 unfold a3k at h;rw[hg]at h;simp only[hj,AE.get]at h;cases hs:Γ.sl g with
 |cmp c0 vs=>simp_all
 |one v=>
  rw[hs]at h;cases v<;>first|rfl|simp_all
def b8T(T:List Nat)(Γ Γ2:AE):Prop:=Γ2.pd=Γ.pd∧∀t∈T,Γ2.sl t=Γ.sl t∧∀n∈(Γ.sl t).refs,Γ2.rt n=Γ.rt n
theorem b8T.sub{ops:Array Oper}{Γ Γ2:AE}(h:b8T (o.looksAt ops) Γ Γ2):a2m (a0y o) Γ Γ2:=⟨h.1,fun t ht=>h.2 t (a7c ht)⟩
theorem c6Z{α:Type}{l:List (Nat×α)}{n:Nat}:find l n=none↔∀p∈l,p.1≠n:=by
 induction l with
 |nil=>simp[find]
 |cons p l ih=>
  obtain⟨k,x⟩:=p;simp only[find,mC,forall_eq_or_imp]
  grind
theorem c1v{ρ:Type}{r:Option Dl}{Γ2:AE}{K:AE→Rs ρ}{z:ρ}(h:c1t r d Γ2 K=some z):∃δ,r=some δ∧(∀n,find δ.rs n≠none→Γ2.rt n=none)∧K (δ.app d Γ2)=some z∧(δ.rs.all fun p=>decide (p.1<pinned))=true:=by
 cases r with
 |none=>cases h
 |some δ=>
  simp[c1t]at h;obtain⟨hc,h⟩:=(a0i h).elim id fun h=>by grind
  refine⟨δ,rfl,fun n hn=>?_,h,?_⟩
  by_cases e:∃p∈δ.rs,p.1=n
  obtain⟨p,hp,rfl⟩:=e
  have:=lA.1 hc p hp
  simp_all;simp_all[c6Z]
  grind
theorem c6r{ρ:Type}{δ:Dl}{Γ2:AE}{K:AE→Rs ρ}(h1:(δ.rs.all fun p=>decide (p.1<pinned))=true)(h2:∀n,find δ.rs n≠none→Γ2.rt n=none):c1t (some δ) d Γ2 K=K (δ.app d Γ2):=by
 simp[c1t];rw[show(δ.rs.all fun p=>decide (p.1<pinned)&&(Γ2.rt p.1).isNone)=true from lA.2 fun p hp=>by
  have a:=lA.1 h1 p hp;have b:=h2 p.1 fun e=>c6Z.1 e p hp rfl;simp_all]
 rfl
theorem c7a{v:AV}(h:v.firm=true):v.refs=[]:=by cases v<;>first|rfl|cases h
theorem b8k{sv:SV}(h:sv.firm=true):sv.refs=[]:=by
 cases sv with
 |one v=>exact c7a h
 |cmp c0 vs=>
  simp[SV.refs];exact fun v hv=>c7a (lA.1 h v hv)
theorem d1Q{sv:SV}(h:sv.firm=true):sv.alive=true:=by
 have one:∀v:AV,v.firm=true→v.alive=true:=fun v h=>by cases v<;>first|rfl|cases h
 cases sv with
 |one v=>exact one v h
 |cmp c0 vs=>exact lA.2 fun v hv=>one v (lA.1 h v hv)
def a2o(ops:Array Oper)(o:Oper):List Nat:=match o.guard with
 |none=>[]
 |some (j,_)=>(b1r ops.toList j).toList
theorem a3W{ops:Array Oper}{t:Nat}(h:t∈a2o ops o):t∈o.looksAt ops:=by
 grind[a2o,c3b]
theorem a2R{ops:Array Oper}{Γ Γ2:AE}(h:∀t∈a2o ops o,Γ2.sl t=Γ.sl t):a3k ops o Γ2=a3k ops o Γ:=by
 grind[a3k,a2o,AE.get]
theorem b0p{ops:Array Oper}(h:a3k ops o Γ≠none):∀t∈a2o ops o,(Γ.sl t).firm=true:=by
 grind[a2o,c8T]
theorem d8h{ρ:Type}{ops:Array Oper}(hd:o.dst=some d){K:AE→Rs ρ}{z:ρ}(hz:a0S cx .q ops.toList o Γ K=some z):
  ∃(δ:Dl)(L:List Nat),(∀t∈L,t∈o.looksAt ops∧∀n∈(Γ.sl t).refs,Γ.rt n≠none)∧K (δ.app d Γ)=some z∧(∀n,find δ.rs n≠none→Γ.rt n=none)∧
   ∀Γ2,b8T L Γ Γ2→(∀n,find δ.rs n≠none→Γ2.rt n=none)→∀{ρ2:Type}(K2:AE→Rs ρ2),a0S cx .q ops.toList o Γ2 K2=K2 (δ.app d Γ2):=by
 rw[a6b hd]at hz;cases hl:a3k ops o Γ with
 |none=>simp_all
 |some b=>
  have hgf:=b0p (ops:=ops) (Γ:=Γ) (o:=o) (by simp_all);have hgr:∀t∈a2o ops o,t∈o.looksAt ops∧∀n∈(Γ.sl t).refs,Γ.rt n≠none:=fun t ht=>⟨a3W ht,fun n hn=>by simp_all[b8k]⟩;rw[hl]at hz;cases b with
  |false=>
   refine⟨⟨[],.one .skp⟩,a2o ops o,hgr,hz,fun n hn=>absurd rfl hn,fun Γ2 hA _ ρ2 K2=>?_⟩;rw[a6b hd,a2R fun t ht=>(hA.2 t ht).1,hl];rfl
  |true=>
   simp only[a5q,hd]at hz;obtain⟨hc,hz⟩:=(a0i hz).elim id fun h=>by grind
   have hrefs:∀t∈a0y o,∀n∈(Γ.sl t).refs,Γ.rt n≠none:=fun t ht n hn=>by
    obtain⟨x,hx,hxt⟩:=a23.1 ht
    grind
   obtain⟨r,hr0,hr⟩:=c6q (cx:=cx) (Γ:=Γ) hd;rw[hr Γ a2m.refl]at hz;obtain⟨δ,rfl,h1,h2,h3⟩:=c1v hz;refine⟨δ,a0y o++a2o ops o,fun t ht=>?_,h2,h1,fun Γ2 hA hn ρ2 K2=>?_⟩
   grind[a7c]
   ·rw[a6b hd,a2R fun t ht=>(hA.2 t (a04 _ ht)).1,hl];simp only[a5q,hd];have hA':a2m (a0y o) Γ Γ2:=⟨hA.1,fun t ht=>hA.2 t (a05 _ ht)⟩;refine(congrArg (fun b=>bif b then _ else none) (lA.2 fun x hx=>?_)).trans ?_
    ·cases x with
     |tmp t=>
      simp only[];have ht:=a3V hx;refine lA.2 fun n hn=>?_
      rw[(hA'.2 t ht).1]at hn;rw[(hA'.2 t ht).2 n hn]
      grind
     |_=>rfl
    simp
    grind[c6r]
theorem c6s{v:AV}(h:v.firm=true):v.calm=true:=by
 cases v with
 |ptr n p=>cases h
 |_=>exact h
theorem b8U{sv:SV}(h:sv.firm=true):sv.calm=true:=by
 cases sv with
 |one v=>exact c6s h
 |cmp c vs=>exact h
theorem b8l{Γ Γ2:AE}(h:∀t∈a0y o,Γ2.sl t=Γ.sl t):b4f o Γ2=b4f o Γ:=by
 grind[b4f,c4D,a0y,Op.operands]
theorem d1R{ρ:Type}{ops:Array Oper}(hd:o.dst=some d){K:AE→Rs ρ}{z:ρ}(hz:a0S cx .v ops.toList o Γ K=some z):
  ∃(sv:SV)(L:List Nat),sv.calm=true∧(∀t∈L,t∈o.looksAt ops∧(Γ.sl t).calm=true)∧K (Γ.put d sv)=some z∧
   ∀Γ2,Γ2.pd=Γ.pd→(∀t∈L,Γ2.sl t=Γ.sl t)→∀{ρ2:Type}(K2:AE→Rs ρ2),a0S cx .v ops.toList o Γ2 K2=K2 (Γ2.put d sv):=by
 rw[a6b hd]at hz;cases hl:a3k ops o Γ with
 |none=>simp_all
 |some b=>
  have hgf:=b0p (ops:=ops) (Γ:=Γ) (o:=o) (by simp_all);rw[hl]at hz;cases b with
  |false=>
   refine⟨.one .skp,a2o ops o,rfl,fun t ht=>⟨a3W ht,b8U (hgf t ht)⟩,hz,fun Γ2 _ hA ρ2 K2=>?_⟩
   grind[a6b,a2R]
  |true=>
   simp only[a5q,hd]at hz;cases hp:b4f o Γ with
   |some n=>
    rw[hp]at hz;obtain⟨t,ho,hs,hn⟩:=b9J hp;have htm:t∈a0y o:=by
     grind[a0y,Op.operands]
    have hcalm:(Γ.sl t).calm=true:=by simp_all[SV.calm,AV.calm]
    refine⟨.one (.ptr n []),[t]++a2o ops o,by simp_all,fun t' ht=>?_,hz,fun Γ2 hpd hA ρ2 K2=>?_⟩;rcases mA.1 ht with ht|ht;obtain rfl:t'=t:=by simp_all
    simp_all[a7c];simp_all[a3W,b8U]
    grind[a6b,a2R,a5q,b8l,a0y,Op.operands]
   |none=>
   rw[hp]at hz;simp only[]at hz;obtain⟨hc,hz⟩:=(a0i hz).elim id fun h=>by grind
   have hfirm:∀t∈a0y o,(Γ.sl t).firm=true:=fun t ht=>by
    obtain⟨x,hx,hxt⟩:=a23.1 ht
    grind
   obtain⟨r,hr0,hr⟩:=c6q (cx:=cx) (Γ:=Γ) hd;rw[hr Γ a2m.refl]at hz;obtain⟨δ,rfl,h1,h2,h3⟩:=c1v hz;obtain⟨hf,h2⟩:=(a0i h2).elim id fun h=>by grind
   have hsv:δ.sv.firm=true:=by simpa[Dl.app]using hf
   have hrs:=(hr0 δ rfl).1 hsv;obtain⟨rs,sv⟩:=δ;simp only at hrs hsv;subst hrs;refine⟨sv,a0y o++a2o ops o,b8U hsv,fun t ht=>?_,h2,fun Γ2 hpd hA ρ2 K2=>?_⟩
   grind[a7c,b8U,a3W]
   rw[a6b hd,a2R fun t ht=>hA t (a04 _ ht),hl];simp only[a5q,hd];have hA':∀t∈a0y o,Γ2.sl t=Γ.sl t:=fun t ht=>hA t (a05 _ ht);have hAg:a2m (a0y o) Γ Γ2:=⟨hpd,fun t ht=>⟨hA' t ht,fun n hn=>by simp_all[b8k]⟩⟩;rw[b8l hA',hp];simp only[];refine(congrArg (fun b=>bif b then _ else none) (lA.2 fun x hx=>?_)).trans ?_
   grind[a3V]
   simp
   rw[hr Γ2 hAg,c6r h3 (fun n hn=>absurd rfl hn)];show(bif (((Dl.mk [] sv).app d Γ2).sl d).firm then K2 ((Dl.mk [] sv).app d Γ2)else none)=_;rw[show((Dl.mk [] sv).app d Γ2).sl d=sv from by simp[Dl.app],hsv];rfl
theorem c4Y{ρ:Type}{ops:Array Oper}(hd:o.dst=some d){K:AE→Rs ρ}{z:ρ}(hz:a0S cx .p ops.toList o Γ K=some z):
  ∃(sv:SV)(L:List Nat),sv.calm=true∧(∀t∈L,t∈o.looksAt ops∧(Γ.sl t).calm=true)∧K (Γ.put d sv)=some z∧
   ∀Γ2,(∀t∈L,Γ2.sl t=Γ.sl t)→∀{ρ2:Type}(K2:AE→Rs ρ2),a0S cx .p ops.toList o Γ2 K2=K2 (Γ2.put d sv):=by
 rw[a6b hd]at hz;cases hl:a3k ops o Γ with
 |none=>simp_all
 |some b=>
  have hgf:=b0p (ops:=ops) (Γ:=Γ) (o:=o) (by simp_all);rw[hl]at hz;cases b with
  |false=>
   refine⟨.one .skp,a2o ops o,rfl,fun t ht=>⟨a3W ht,b8U (hgf t ht)⟩,hz,fun Γ2 hA ρ2 K2=>?_⟩
   grind[a6b,a2R]
  |true=>
   simp[a5q,hd]at hz;cases hp:b4f o Γ with
   |none=>simp_all
   |some n=>
    rw[hp]at hz;obtain⟨t,ho,hs,hn⟩:=b9J hp;have htm:t∈a0y o:=by
     grind[a0y,Op.operands]
    have hcalm:(Γ.sl t).calm=true:=by simp_all[SV.calm,AV.calm]
    refine⟨.one (.ptr n []),[t]++a2o ops o,by simp_all,fun t' ht=>?_,hz,fun Γ2 hA ρ2 K2=>?_⟩;rcases mA.1 ht with ht|ht;obtain rfl:t'=t:=by simp_all
    simp_all[a7c];simp_all[a3W,b8U]
    grind[a6b,a2R,a5q,b8l,a0y,Op.operands]
theorem b3M{a b:List Nat}(h:c3N a b=true){n:Nat}(hn:n∈a):n∈b:=by
 have:=lA.1 h n hn
 simp_all
theorem d1S{ρ:Type}{ops:Array Oper}{ns:List Nat}(hd:o.dst=some d){K:AE→Rs ρ}{z:ρ}(hz:a0S cx (.r ns) ops.toList o Γ K=some z):
  ∃(δ:Dl)(L:List Nat),(∀t∈L,t∈o.looksAt ops∧(Γ.sl t).alive=true∧∀n∈(Γ.sl t).refs,Γ.rt n≠none∧n∈ns)∧K (δ.app d Γ)=some z∧(∀n,find δ.rs n≠none→Γ.rt n=none∧n∈ns)∧(∀n∈δ.sv.refs,n∈ns)∧
   ∀Γ2,b8T L Γ Γ2→(∀n,find δ.rs n≠none→Γ2.rt n=none)→∀{ρ2:Type}(K2:AE→Rs ρ2),a0S cx (.r ns) ops.toList o Γ2 K2=K2 (δ.app d Γ2):=by
 rw[a6b hd]at hz;cases hl:a3k ops o Γ with
 |none=>simp_all
 |some b=>
  have hgf:=b0p (ops:=ops) (Γ:=Γ) (o:=o) (by simp_all);have hgr:∀t∈a2o ops o,t∈o.looksAt ops∧(Γ.sl t).alive=true∧∀n∈(Γ.sl t).refs,Γ.rt n≠none∧n∈ns:=fun t ht=>⟨a3W ht,d1Q (hgf t ht),fun n hn=>by simp_all[b8k]⟩;rw[hl]at hz;cases b with
  |false=>
   refine⟨⟨[],.one .skp⟩,a2o ops o,hgr,hz,fun n hn=>absurd rfl hn,fun n hn=>(by cases hn),fun Γ2 hA _ ρ2 K2=>?_⟩;rw[a6b hd,a2R fun t ht=>(hA.2 t ht).1,hl];rfl
  |true=>
   simp only[a5q,hd]at hz;obtain⟨hc,hz⟩:=(a0i hz).elim id fun h=>by grind
   obtain⟨hc,hnm⟩:=a20.1 hc;have hrefs:∀t∈a0y o,(Γ.sl t).alive=true∧∀n∈(Γ.sl t).refs,Γ.rt n≠none∧n∈ns:=fun t ht=>by
    obtain⟨x,hx,hxt⟩:=a23.1 ht
    grind
   obtain⟨r,hr0,hr⟩:=c6q (cx:=cx) (Γ:=Γ) hd;rw[hr Γ a2m.refl]at hz;obtain⟨δ,rfl,h1,h2,h3⟩:=c1v hz;obtain⟨hsub,h2⟩:=(a0i h2).elim id fun h=>by grind
   have hsv:(δ.app d Γ).sl d=δ.sv:=by simp[Dl.app]
   rw[hsv]at hsub;refine⟨δ,a0y o++a2o ops o,fun t ht=>?_,h2,fun n hn=>⟨h1 n hn,?_⟩,fun n hn=>b3M hsub hn,fun Γ2 hA hn ρ2 K2=>?_⟩
   grind[a7c]
   have:=(hr0 δ rfl).2 n hn
   refine b3M hnm ?_
   simp_all
   ·rw[a6b hd,a2R fun t ht=>(hA.2 t (a04 _ ht)).1,hl];simp only[a5q,hd];have hA':a2m (a0y o) Γ Γ2:=⟨hA.1,fun t ht=>hA.2 t (a05 _ ht)⟩;refine(congrArg (fun b=>bif b then _ else none) (a20.2 ⟨lA.2 fun x hx=>?_,hnm⟩)).trans ?_
    ·cases x with
     |tmp t=>
      simp only[];have ht:=a3V hx;have hs:=(hA'.2 t ht).1;refine a20.2 ⟨by simp_all,lA.2 fun n hn=>?_⟩;rw[hs]at hn;rw[(hA'.2 t ht).2 n hn]
      grind
     |_=>rfl
    simp
    rw[hr Γ2 hA',c6r h3 hn]
    grind[Dl.app]
def Md.reads:Md→Nat→Prop
 |.q,_=>True
 |.r ns,n=>n∈ns
 |_,_=>False
def Md.quiet:Md→Prop
 |.v|.p|.q|.r _=>True
 |_=>False
def Md.isV:Md→Bool
 |.v|.p=>true
 |_=>false
def c8U(md:Md)(T:List Nat)(Γ Γ2:AE):Prop:=Γ2.pd=Γ.pd∧∀t∈T,Γ2.sl t=Γ.sl t∧∀n∈(Γ.sl t).refs,md.isV=false→Γ2.rt n=Γ.rt n
theorem c8V{ρ:Type}{ops:Array Oper}{md:Md}(hmd:md.quiet)(hd:o.dst=some d){K:AE→Rs ρ}{z:ρ}(hz:a0S cx md ops.toList o Γ K=some z):
  ∃(δ:Dl)(L:List Nat),(∀t∈L,t∈o.looksAt ops∧∀n∈(Γ.sl t).refs,md.isV=false→md.reads n∧Γ.rt n≠none)∧K (δ.app d Γ)=some z∧(∀n,find δ.rs n≠none→Γ.rt n=none)∧
   ∀Γ2,c8U md L Γ Γ2→(∀n,find δ.rs n≠none→Γ2.rt n=none)→∀{ρ2:Type}(K2:AE→Rs ρ2),a0S cx md ops.toList o Γ2 K2=K2 (δ.app d Γ2):=by
 cases md with
 |v=>
  obtain⟨sv,L,h1,h2,h3,h4⟩:=d1R hd hz;exact⟨⟨[],sv⟩,L,fun t ht=>⟨(h2 t ht).1,fun n hn e=>by cases e⟩,h3,fun n hn=>absurd rfl hn,fun Γ2 hA _ ρ2 K2=>h4 Γ2 hA.1 (fun t ht=>(hA.2 t ht).1) K2⟩
 |q=>
  obtain⟨δ,L,h1,h2⟩:=d8h hd hz;exact⟨δ,L,fun t ht=>⟨(h1 t ht).1,fun n hn _=>⟨trivial,(h1 t ht).2 n hn⟩⟩,h2.1,h2.2.1,fun Γ2 hA=>h2.2.2 Γ2 ⟨hA.1,fun t ht=>⟨(hA.2 t ht).1,fun n hn=>(hA.2 t ht).2 n hn rfl⟩⟩⟩
 |r ns=>
  obtain⟨δ,L,h1,h2,h3,-,h4⟩:=d1S hd hz;exact⟨δ,L,fun t ht=>⟨(h1 t ht).1,fun n hn _=>⟨((h1 t ht).2.2 n hn).2,((h1 t ht).2.2 n hn).1⟩⟩,h2,fun n hn=>(h3 n hn).1,fun Γ2 hA=>h4 Γ2 ⟨hA.1,fun t ht=>⟨(hA.2 t ht).1,fun n hn=>(hA.2 t ht).2 n hn rfl⟩⟩⟩
 |p=>
  obtain⟨sv,L,h1,h2,h3,h4⟩:=c4Y hd hz;exact⟨⟨[],sv⟩,L,fun t ht=>⟨(h2 t ht).1,fun n hn e=>by cases e⟩,h3,fun n hn=>absurd rfl hn,fun Γ2 hA _ ρ2 K2=>h4 Γ2 (fun t ht=>(hA.2 t ht).1) K2⟩
 |x=>cases hmd
 |a ws=>cases hmd
 |w ws=>cases hmd
end
end Go.Ab
namespace Go.Ab
def FP(f:AV→AV):Prop:=(∀v:AV,v.calm=true→f v=v)∧∀v:AV,(f v).calm=true→f v=v
theorem FP.id:FP id:=⟨fun _ _=>rfl,fun _ _=>rfl⟩
def FW(W:List Nat)(f:AV→AV):Prop:=(∀v:AV,(∀n∈v.refs,n∉W)→f v=v)∧(∀v:AV,f v=v∨f v=.dead)∧∀n,pinned≤n→f (.ptr n [])=.ptr n []
theorem FW.id{W:List Nat}:FW W id:=⟨fun _ _=>rfl,fun _=>.inl rfl,fun _ _=>rfl⟩
theorem FW.comp{W:List Nat}{f g:AV→AV}(hf:FW W f)(hg:FW W g)(hd:g .dead=.dead:=by rfl):FW W (fun v=>g (f v)):=by
 refine⟨fun v h=>?_,fun v=>?_,fun n hn=>?_⟩;show g (f v)=v;rw[hf.1 v h];exact hg.1 v h;show g (f v)=v∨g (f v)=.dead;rcases hf.2.1 v with h|h;rw[h];exact hg.2.1 v;simp_all;show g (f _)=_;rw[hf.2.2 n hn];exact hg.2.2 n hn
theorem FW.dead{W:List Nat}{f:AV→AV}(hf:FW W f):f .dead=.dead:=(hf.2.1 .dead).elim _root_.id _root_.id
theorem FW.fp{W:List Nat}{f:AV→AV}(hf:FW W f):FP f:=by
 refine⟨fun v h=>?_,fun v h=>?_⟩
 ·cases v with
  |ptr n p=>
   cases p with
   |nil=>exact hf.2.2 n (by simpa[AV.calm]using h)
   |cons=>simp_all[AV.calm,AV.firm]
  |sref=>cases h
  |swin=>cases h
  |_=>exact hf.1 _ fun n hn=>(by cases hn)
 rcases hf.2.1 v with g|g;omega;rw[g]at h;cases h
theorem nb{W:List Nat}{m n:Nat}(hn:n∈W)(h:∀k∈[m],k∉W):(m==n)=false:=by
 grind
theorem FW.drop{W:List Nat}{n:Nat}(hn:n∈W)(hp:n<pinned):FW W (AV.drop n):=by
 refine⟨fun v h=>?_,fun v=>?_,fun m hm=>?_⟩
 ·cases v with
  |ptr m q=>simp only[AV.drop,nb hn h,a01,if_false]
  |sref m q=>simp only[AV.drop,nb hn h,a01,if_false]
  |swin m q o l=>simp only[AV.drop,nb hn h,a01,if_false]
  |_=>rfl
 ·cases v with
  |ptr m q=>simp only[AV.drop];split<;>simp
  |sref m q=>simp only[AV.drop];split<;>simp
  |swin m q o l=>simp only[AV.drop];split<;>simp
  |_=>exact .inl rfl
 have:(m==n)=false:=by simp only[beq_eq_false_iff_ne];omega
 simp[AV.drop,this]
theorem FW.kill{W:List Nat}{n:Nat}(hn:n∈W)(p:a0R):FW W (AV.kill n p):=by
 refine⟨fun v h=>?_,fun v=>?_,fun m hm=>by simp[AV.kill]⟩
 ·cases v with
  |ptr m q=>simp only[AV.kill,nb hn h,a42,a01,if_false]
  |sref m q=>simp only[AV.kill,nb hn h,a42,a01,if_false]
  |swin m q o l=>simp only[AV.kill,nb hn h,a42,a01,if_false]
  |_=>rfl
 ·cases v with
  |ptr m q=>simp only[AV.kill];split<;>simp
  |sref m q=>simp only[AV.kill];split<;>simp
  |swin m q o l=>simp only[AV.kill];split<;>simp
  |_=>exact .inl rfl
theorem FW.deeps{W us ks:List Nat}(hu:∀n∈us,n∈W):FW W (AV.deeps us ks):=by
 have nu:∀m,(∀k∈[m],k∉W)→us.contains m=false:=fun m h=>by
  grind
 refine⟨fun v h=>?_,fun v=>?_,fun m hm=>by simp[AV.deeps]⟩
 ·cases v with
  |ptr m q=>simp only[AV.deeps,nu m h,a01,if_false]
  |sref m q=>simp only[AV.deeps,nu m h,a01,if_false]
  |swin m q o l=>simp only[AV.deeps,nu m h,a01,if_false]
  |_=>rfl
 ·cases v with
  |ptr m q=>
   simp only[AV.deeps];split;cases q<;>simp
   simp
  |sref m q=>
   simp only[AV.deeps];split
   ·cases q with
    |nil=>simp only[];split<;>simp
    |cons=>simp
   simp
  |swin m q o l=>simp only[AV.deeps];split<;>simp
  |_=>exact .inl rfl
theorem FP.sv{f:AV→AV}(hf:FP f){sv:SV}(h:sv.calm=true):sv.mapv f=sv:=by
 cases sv with
 |one v=>simp only[SV.mapv];rw[hf.1 v h]
 |cmp c0 vs=>
  simp only[SV.mapv];congr 1;refine(a06 fun v hv=>hf.1 v (c6s (lA.1 h v hv))).trans (a31 _)
theorem FP.sv'{f:AV→AV}(hf:FP f){sv:SV}(h:(sv.mapv f).calm=true):sv.mapv f=sv:=by
 cases sv with
 |one v=>simp only[SV.mapv]at h⊢;rw[hf.2 v h]
 |cmp c0 vs=>
  simp only[SV.mapv]at h⊢;congr 1;refine(a06 fun v hv=>hf.2 v (c6s (lA.1 h _ (a45 hv)))).trans (a31 _)
theorem FW.sv{W:List Nat}{f:AV→AV}(hf:FW W f){sv:SV}(h:∀n∈sv.refs,n∉W):sv.mapv f=sv:=by
 cases sv with
 |one v=>simp only[SV.mapv];rw[hf.1 v h]
 |cmp c0 vs=>
  simp only[SV.mapv];congr 1;refine(a06 fun v hv=>hf.1 v fun n hn=>h n (a35.2 ⟨v,hv,hn⟩)).trans (a31 _)
theorem FW.sv'{W:List Nat}{f:AV→AV}(hf:FW W f){sv:SV}(h:(sv.mapv f).alive=true):sv.mapv f=sv:=by
 have one:∀v:AV,(f v).alive=true→f v=v:=fun v hv=>by
  rcases hf.2.1 v with g|g;omega;rw[g]at hv;cases hv
 cases sv with
 |one v=>simp only[SV.mapv]at h⊢;rw[one v h]
 |cmp c0 vs=>
  simp only[SV.mapv]at h⊢;congr 1;refine(a06 fun v hv=>one v (lA.1 h _ (a45 hv))).trans (a31 _)
theorem FW.refs{W:List Nat}{f:AV→AV}(hf:FW W f){sv:SV}{n:Nat}(hn:n∈(sv.mapv f).refs):n∈sv.refs:=by
 have one:∀v:AV,n∈(f v).refs→n∈v.refs:=fun v hv=>by
  rcases hf.2.1 v with g|g;simp_all;rw[g]at hv;cases hv
 cases sv with
 |one v=>exact one v hn
 |cmp c0 vs=>
  simp only[SV.mapv,SV.refs,a35]at hn⊢
  grind
structure MDl where
 f:AV→AV
 rt:Nat→Option Root
 sv:SV

 pd:Option (Nat×a0R×Nat):=none
def a5M(W:List Nat)(m:MDl)(d:Option Nat)(Γ:AE):AE:=⟨fun i=>bif d==some i then m.sv else(Γ.sl i).mapv m.f,fun n=>bif W.contains n then m.rt n else Γ.rt n,Γ.pd⟩
def b0q(W:List Nat)(m:MDl)(d:Option Nat)(Γ:AE):AE:={ a5M W m d Γ with pd:=match m.pd with|none=>Γ.pd|some x=>some x }
theorem c8p{W:List Nat}{m:MDl}{d:Option Nat}{Γ:AE}(h:m.pd=none):b0q W m d Γ=a5M W m d Γ:=by simp[b0q,h];rfl
theorem c7b(f g:AV→AV)(sv:SV):(sv.mapv f).mapv g=sv.mapv fun v=>g (f v):=by
 cases sv with
 |one v=>rfl
 |cmp c0 vs=>simp_all[SV.mapv]
theorem b6p(sv:SV):sv.mapv id=sv:=by cases sv<;>simp[SV.mapv]
section
variable {g:Bool} {cx:Cx} {o:Oper} {d:Nat} {Γ:AE} {W:List Nat}
def d7o{ρ:Type}(K:AE→Rs ρ):AE→Rs ρ:=fun Γ'=>match Γ'.pd with
 |none=>K Γ'
 |some _=>none
def a1Q(W T:List Nat)(Γ Γ2:AE):Prop:=Γ2.pd=Γ.pd∧(∀n∈W,Γ2.rt n=Γ.rt n)∧∀t∈T,Γ2.sl t=Γ.sl t
theorem a1Q.refl{T:List Nat}:a1Q W T Γ Γ:=⟨rfl,fun _ _=>rfl,fun _ _=>rfl⟩
theorem a1Q.opd{Γ2:AE}(h:a1Q W (a0y o) Γ Γ2){x:Operand}(hx:x∈o.op.operands.toList):Γ2.opd x=Γ.opd x:=by
 cases x with
 |tmp t=>simp[AE.opd,AE.get];rw[h.2.2 t (a3V hx)]
 |_=>rfl
theorem a1Q.aggOf{Γ2:AE}(h:a1Q W (a0y o) Γ Γ2){x:Operand}(hx:x∈o.op.operands.toList):Γ2.aggOf x=Γ.aggOf x:=by
 cases x with
 |tmp t=>simp[AE.aggOf];rw[h.2.2 t (a3V hx)]
 |_=>rfl
theorem a1Q.look{T:List Nat}{Γ2:AE}(h:a1Q W T Γ Γ2){n:Nat}(hn:n∈W):Γ2.look n=Γ.look n:=by
 simp only[AE.look,h.1,h.2.1 n hn]
def c8q{ρ:Type}(W:List Nat)(r:Option MDl)(d:Option Nat)(Γ2:AE)(K:AE→Rs ρ):Rs ρ:=match r with
 |none=>none
 |some m=>K (b0q W m d Γ2)
def gPd{ρ:Type}(g:Bool)(K:AE→Rs ρ):AE→Rs ρ:=bif g then d7o K else K
def a1R(g:Bool)(cx:Cx)(o:Oper)(d:Option Nat)(Γ:AE)(W:List Nat):Prop:=
 ∃r:Option MDl,(∀m,r=some m→FW W m.f∧(g=true→m.pd=none))∧∀Γ2,a1Q W (a0y o) Γ Γ2→∀{ρ:Type}(K:AE→Rs ρ),aop cx false o Γ2 (gPd g K)=c8q W r d Γ2 K
theorem a1R.none{d:Option Nat}(h:∀Γ2,a1Q W (a0y o) Γ Γ2→∀{ρ:Type}(K:AE→Rs ρ),aop cx false o Γ2 (gPd g K)=none):a1R g cx o d Γ W:=⟨.none,by simp,fun Γ2 hA ρ K=>h Γ2 hA K⟩
theorem a1R.some{d:Option Nat}(f:AV→AV)(hf:FW W f)(sv:SV)(S:List Nat)(hS:∀n∈S,n∈W)(gr:Nat→Option Root)
  (h:∀Γ2,a1Q W (a0y o) Γ Γ2→∀{ρ:Type}(K:AE→Rs ρ),aop cx false o Γ2 (gPd g K)=K ⟨fun i=>bif d==some i then sv else(Γ2.sl i).mapv f,fun n=>bif S.contains n then gr n else Γ2.rt n,Γ2.pd⟩):a1R g cx o d Γ W:=by
 refine⟨.some ⟨f,fun n=>bif S.contains n then gr n else Γ.rt n,sv,.none⟩,fun m hm=>by grind,fun Γ2 hA ρ K=>?_⟩;rw[h Γ2 hA K];simp only[c8q,b0q,a5M];congr 2;funext n;cases hs:S.contains n with
 |true=>
  simp_all
 |false=>
  cases hw:W.contains n with
  |true=>simp;exact hA.2.1 n (a38.1 hw)
  |false=>rfl
theorem d1T{d:Option Nat}(f:AV→AV)(hf:FW W f)(sv:SV)(S:List Nat)(hS:∀n∈S,n∈W)(gr:Nat→Option Root)(pd:Nat×a0R×Nat)(hg:g=false)
  (h:∀Γ2,a1Q W (a0y o) Γ Γ2→∀{ρ:Type}(K:AE→Rs ρ),aop cx false o Γ2 (gPd g K)=K ⟨fun i=>bif d==some i then sv else(Γ2.sl i).mapv f,fun n=>bif S.contains n then gr n else Γ2.rt n,.some pd⟩):a1R g cx o d Γ W:=by
 refine⟨.some ⟨f,fun n=>bif S.contains n then gr n else Γ.rt n,sv,.some pd⟩,fun m hm=>by grind,fun Γ2 hA ρ K=>?_⟩;rw[h Γ2 hA K];simp only[c8q,b0q,a5M];congr 2;funext n;cases hs:S.contains n with
 |true=>
  simp_all
 |false=>
  cases hw:W.contains n with
  |true=>simp;exact hA.2.1 n (a38.1 hw)
  |false=>rfl
theorem b2a{ρ:Type}{K:AE→Rs ρ}{Γ':AE}(h:Γ'.pd=none):gPd g K Γ'=K Γ':=by cases g<;>simp only[gPd,d7o,h,cT,cF]
theorem a3f(n m:Nat):[m].contains n=(n==m):=by grind
theorem d1f{ρ:Type}{Γ2:AE}(hpd:Γ2.pd=none)(r:Root)(v:AV)(K:AE→Rs ρ):(Γ2.fresh false d r fun Γ=>K (Γ.set d v)) =
  bif decide (d<pinned)then K ⟨fun i=>bif some d==some i then .one v else(Γ2.sl i).mapv (match Γ2.rt d with|none=>id|some _=>AV.drop d),fun n=>bif [d].contains n then some r else Γ2.rt n,Γ2.pd⟩else none:=by
 have e1:∀i,(some d==some i)=(i==d):=fun i=>by
  grind
 unfold AE.fresh;cases decide (d<pinned);rfl
 ·simp only[cT];cases hr:Γ2.rt d with
  |none=>
   simp only[AE.newRt,hr];congr 1;simp only[AE.set,AE.put,AE.setRt,a3f,e1];simp_all[b6p]
  |some r0=>
   simp only[cF,AE.look,hpd,hr,AE.newRt];congr 1;simp only[AE.set,AE.put,AE.setRt,a3f,e1,AE.mapv,hpd]
theorem c7c(hpd:Γ.pd=none)(hdW:d∈W){e:Ty}{x:AV}(hxW:∀n∈x.refs,n∈W){ys:Option (List e.den)}(h:∀Γ2,a1Q W (a0y o) Γ Γ2→∀{ρ:Type}(K:AE→Rs ρ),aop cx false o Γ2 K=ys.elim none fun ys=>Γ2.apnd false d e x ys K):a1R g cx o (some d) Γ W:=by
 have e1:∀i,(some d==some i)=(i==d):=fun i=>by
  grind
 cases ys with
 |none=>simp_all[a1R.none]
 |some ys=>
  have h:∀Γ2,a1Q W (a0y o) Γ Γ2→∀{ρ:Type}(K:AE→Rs ρ),aop cx false o Γ2 K=Γ2.apnd false d e x ys K:=h;have hfr:(x=.nils∨x=.empt)→a1R g cx o (some d) Γ W:=fun hx=>by
   have h:∀Γ2,a1Q W (a0y o) Γ Γ2→∀{ρ:Type}(K:AE→Rs ρ),aop cx false o Γ2 K=bif lim ys.length then Γ2.fresh false d ⟨false,.list true e,ys⟩ fun Γ=>K (Γ.set d (.sref d []))else none:=fun Γ2 hA ρ K=>by
    rw[h Γ2 hA];rcases hx with rfl|rfl<;>rfl
   cases hl:lim ys.length with
   |false=>simp_all[a1R.none]
   |true=>
    cases hd':decide (d<pinned)with
    |false=>exact a1R.none fun Γ2 hA ρ K=>by rw[h Γ2 hA,hl];simp;rw[d1f (hA.1.trans hpd),hd'];rfl
    |true=>
     refine a1R.some (match Γ.rt d with|.none=>id|.some _=>AV.drop d) ?_ (.one (.sref d [])) [d] (by simp_all) (fun _=>.some ⟨false,.list true e,ys⟩) fun Γ2 hA ρ K=>?_
     grind[FW.id,FW.drop]
     rw[h Γ2 hA,hl];simp only[cT];rw[d1f (hA.1.trans hpd),hd',hA.2.1 d hdW];simp only[cT];exact b2a (hA.1.trans hpd)
  cases x with
  |nils=>simp_all
  |empt=>simp_all
  |sref n p=>
   have hnW:n∈W:=hxW n (by simp[AV.refs]);have hlk:∀Γ2,a1Q W (a0y o) Γ Γ2→Γ2.look n=Γ.rt n:=fun Γ2 hA=>by rw[hA.look hnW];simp only[AE.look,hpd]
   cases hr:Γ.rt n with
   |none=>
    simp_all[a1R.none,AE.apnd]
   |some r=>
    cases hg:a1p r.t r.x p with
    |mk tt l=>
     cases tt with
     |list o' e'=>
      cases o' with
      |false=>
       simp_all[a1R.none,AE.apnd]
      |true=>
       by_cases he:e=e'
       ·subst he;cases hl:lim (a07 l+ys.length)with
        |false=>
         simp_all[a1R.none,AE.apnd]
        |true=>
         by_cases hp:p=[]∧r.bx=false
         ·obtain⟨rfl,hbx⟩:=hp;cases hnp:decide (n<pinned)with
          |false=>simp_all[a1R.none,AE.apnd]
          |true=>
          refine a1R.some (AV.kill n []) (FW.kill hnW []) (.one (.sref n [])) [n] (by simp_all) (fun _=>.some ⟨r.bx,r.t,a1U r.t r.x [] (.list true e) (a39 l ys)⟩) fun Γ2 hA ρ K=>?_
          rw[h Γ2 hA];simp only[AE.apnd,cF,hlk Γ2 hA,hr,hg,dite_true,hl,cT,hbx,hnp];rw[b2a (by exact hA.1.trans hpd)];congr 1;simp only[AE.set,AE.put,AE.setRt,AE.mapv,a3f,e1]
         ·cases hgg:g with
          |true=>
           refine a1R.none fun Γ2 hA ρ K=>?_
           rw[h Γ2 hA];simp[AE.apnd,hlk Γ2 hA,hr,hg,hl];cases p with
           |nil=>
            cases hb:r.bx with
            |false=>simp_all
            |true=>simp[hA.1,hpd];rfl
           |cons a p'=>simp[hA.1,hpd];rfl
          |false=>
           refine d1T (AV.kill n p) (FW.kill hnW p) (.one (.sref n p)) [n] (by simp_all) (fun _=>.some ⟨r.bx,r.t,a1U r.t r.x p (.list true e) (a39 l ys)⟩) (n,p,d) rfl fun Γ2 hA ρ K=>?_
           rw[h Γ2 hA];simp only[AE.apnd,cF,hlk Γ2 hA,hr,hg,dite_true,hl,cT];have fin:∀(G1 G2:AE),G1=G2→gPd false K G1=K G2:=fun G1 G2 e=>by rw[e];rfl
           cases p with
           |nil=>
            cases hb:r.bx with
            |false=>simp_all
            |true=>
             simp only[hA.1,hpd];refine fin _ _ ?_
             simp only[AE.set,AE.put,AE.setRt,AE.mapv,a3f,e1]
           |cons a p'=>
            simp only[hA.1,hpd];refine fin _ _ ?_
            simp only[AE.set,AE.put,AE.setRt,AE.mapv,a3f,e1]
       simp_all[a1R.none,AE.apnd]
     |_=>
      exact a1R.none fun Γ2 hA ρ K=>by
        rw[h Γ2 hA];simp only[AE.apnd,cF,hlk Γ2 hA,hr,hg]
  |_=>exact a1R.none fun Γ2 hA ρ K=>by rw[h Γ2 hA];rfl
end
end Go.Ab
namespace Go.Ab
section
variable {g:Bool} {cx:Cx} {o:Oper} {d:Nat} {Γ:AE} {W:List Nat}
theorem d5S{ρ:Type}(Γ:AE)(t:Ty)(a:AV)(hv:a.viewed=[])(K:t.den→AE→Rs ρ):Γ.asV false t a K=(a7X t a).elim none fun x=>K x Γ:=by
 cases a with
 |val t' x=>grind[AE.asV,a7X]
 |nils=>cases t with
  |list o e=>cases o<;>rfl
  |_=>rfl
 |empt=>cases t with
  |list o e=>cases o<;>rfl
  |_=>rfl
 |sref n p=>cases hv
 |swin n p o k=>cases hv
 |_=>rfl
def a9P(fz:Bool)(lk:Nat→Option Root)(used seen:List Nat):(p:PA)→AV→Option (p.ty.den×List Nat×List Nat)
 |.v t,a=>bif a.viewed.any fun n=>used.contains n then none else bif fz then(a7X t a).map fun x=>(x,used,seen)else(b1w lk t a).map fun x=>(x,used,a.viewed++seen)
 |.r c (.b t),.ptr n []=>if c || used.contains n || seen.contains n then none else match lk n with
  |some ⟨true,t',x⟩=>if h:t'=t then some (h▸x,n::used,seen)else none
  |_=>none
 |.r c (.o e),.sref n []=>if(c&&decide (pinned≤n)) || used.contains n || seen.contains n then none else match lk n with
  |some ⟨bx,.list true e',x⟩=>if h:e'=e then(bif bx&&c then none else some (h▸x,n::used,seen))else none
  |_=>none
 |.r _ _,_=>none
theorem b7u{ρ:Type}(Γ:AE)(fz:Bool)(used seen:List Nat)(p:PA)(a:AV)(hv:fz=false∨a.viewed=[])(K:p.ty.den→AE→List Nat→List Nat→Rs ρ):
  Γ.arg fz false used seen p a K=(a9P fz Γ.look used seen p a).elim none fun y=>K y.1 Γ y.2.1 y.2.2:=by
 cases p with
 |v t=>
  simp only[AE.arg,a9P];cases (a.viewed.any fun n=>used.contains n)
  ·simp
   cases fz with
   |true=>
    simp
    rw[d5S Γ t a (hv.resolve_left (by simp))];cases a7X t a<;>rfl
   |false=>
    simp
    rw[d3J];cases b1w Γ.look t a<;>rfl
  rfl
 |r c b=>
  cases b with
  |v t=>rfl
  |b t=>
   cases a with
   |ptr n p=>
    cases p with
    |nil=>
     simp only[AE.arg,a9P,Bool.or_false]
     grind
    |cons=>rfl
   |_=>rfl
  |o e=>
   cases a with
   |sref n p=>
    cases p with
    |nil=>
     simp only[AE.arg,a9P,Bool.or_false]
     grind
    |cons=>rfl
   |_=>rfl
def AE.argsm(Γ:AE)(fz:Bool)(used seen:List Nat)(ps:List PA)(as:List AV):Option ((a2g (ps.map PA.ty)).den×List Nat):=Γ.args fz false used seen ps as fun x _ u=>some (x,u)
theorem args_m(Γ:AE)(fz:Bool)(ps:List PA):∀{ρ:Type}(as:List AV)(used seen:List Nat)(K:(a2g (ps.map PA.ty)).den→AE→List Nat→Rs ρ),(fz=false∨∀a∈as,a.viewed=[])→
  Γ.args fz false used seen ps as K=(Γ.argsm fz used seen ps as).elim none fun x=>K x.1 Γ x.2:=by
 induction ps with
 |nil=>
  intro ρ as used seen K hv;cases as<;>rfl
 |cons p ps ih=>
  intro ρ as used seen K hv;cases as with
  |nil=>cases ps<;>rfl
  |cons a as=>
   have hva:fz=false∨a.viewed=[]:=hv.imp id fun h=>h a (by simp);have hvs:fz=false∨∀a∈as,a.viewed=[]:=hv.imp id fun h a' ha=>h a' (by grind);cases ps with
   |nil=>
    cases as with
    |nil=>
     simp[AE.argsm,AE.args];rw[b7u (hv:=hva),b7u (hv:=hva)];cases a9P fz Γ.look used seen p a<;>rfl
    |cons=>rfl
   |cons p' ps=>
    simp[AE.argsm,AE.args];rw[b7u (hv:=hva),b7u (hv:=hva)];cases a9P fz Γ.look used seen p a with
    |none=>rfl
    |some x=>
     simp[a26];rw[ih as _ _ _ hvs,ih as _ _ _ hvs];cases Γ.argsm fz x.2.1 x.2.2 (p'::ps) as<;>rfl
theorem d1U{lk lk':Nat→Option Root}{fz:Bool}{used seen:List Nat}{p:PA}{a:AV}(h:∀n∈a.refs,lk' n=lk n):a9P fz lk' used seen p a=a9P fz lk used seen p a:=by
 cases p with
 |v t=>simp_all[a9P,c3a]
 |r c b=>
  cases b with
  |v t=>rfl
  |b t=>
   cases a with
   |ptr n q=>cases q<;>simp only[a9P,h n (by simp[AV.refs])]
   |_=>rfl
  |o e=>
   cases a with
   |sref n q=>cases q<;>simp only[a9P,h n (by simp[AV.refs])]
   |_=>rfl
theorem c7d{lk:Nat→Option Root}{fz:Bool}{used seen:List Nat}{p:PA}{a:AV}{x}(h:a9P fz lk used seen p a=some x):∀n∈x.2.1,n∈used∨n∈a.refs:=by
 intro n hn;cases p with
 |v t=>
  simp only[a9P]at h;obtain⟨-,h⟩:=(a0i h).elim (fun h=>by grind) id;cases fz with
  |true=>
   simp at h;cases ha:a7X t a with
   |none=>rw[ha]at h;cases h
   |some y=>rw[ha]at h;cases h;simp_all
  |false=>
   simp at h;cases ha:b1w lk t a with
   |none=>rw[ha]at h;cases h
   |some y=>rw[ha]at h;cases h;simp_all
 |r c b=>
  cases b with
  |v t=>cases a<;>cases h
  |b t=>
   cases a with
   |ptr m q=>
    cases q with
    |nil=>
     simp only[a9P]at h
     split at h
     grind
     ·split at h
      ·split at h
       ·cases h;rcases mC.1 hn with rfl|hn
        all_goals simp_all[AV.refs]
       simp_all
      simp_all
    |cons=>cases h
   |_=>cases h
  |o e=>
   cases a with
   |sref m q=>
    cases q with
    |nil=>
     simp only[a9P]at h
     split at h
     grind
     ·split at h
      ·split at h
       ·obtain⟨-,h⟩:=(a0i h).elim (fun h=>by grind) id;cases h;rcases mC.1 hn with rfl|hn
        all_goals simp_all[AV.refs]
       simp_all
      simp_all
    |cons=>cases h
   |_=>cases h
theorem d0s{Γ Γ2:AE}(fz:Bool)(ps:List PA):∀(as:List AV)(used seen:List Nat),(∀a∈as,∀n∈a.refs,Γ2.look n=Γ.look n)→(fz=false∨∀a∈as,a.viewed=[])→Γ2.argsm fz used seen ps as=Γ.argsm fz used seen ps as:=by
 induction ps with
 |nil=>intro as used seen hl hv;cases as<;>rfl
 |cons p ps ih=>
  intro as used seen hl hv;cases as with
  |nil=>cases ps<;>rfl
  |cons a as=>
   have hva:fz=false∨a.viewed=[]:=hv.imp id fun h=>h a (by simp);have hvs:fz=false∨∀a∈as,a.viewed=[]:=hv.imp id fun h a' ha=>h a' (by grind);have hla:=d1U (fz:=fz) (used:=used) (seen:=seen) (p:=p) (hl a (by simp));cases ps with
   |nil=>
    cases as with
    |nil=>
     simp_all[AE.argsm,AE.args,b7u]
    |cons=>rfl
   |cons p' ps=>
    simp[AE.argsm,AE.args]
    grind[b7u,args_m]
where
 args_m {Γ:AE} {fz:Bool} {ps:List PA} {ρ:Type} {as:List AV} {used seen:List Nat} {K:(a2g (ps.map PA.ty)).den→AE→List Nat→Rs ρ} (hv:fz=false∨∀a∈as,a.viewed=[]):=Go.Ab.args_m Γ fz ps as used seen K hv
theorem d1V{Γ:AE}(fz:Bool)(ps:List PA):∀(as:List AV)(used seen:List Nat)(x),(fz=false∨∀a∈as,a.viewed=[])→Γ.argsm fz used seen ps as=some x→∀n∈x.2,n∈used∨∃a∈as,n∈a.refs:=by
 induction ps with
 |nil=>
  intro as used seen x hv h n hn;cases as with
  |nil=>cases h;simp_all
  |cons=>cases h
 |cons p ps ih=>
  intro as used seen x hv h n hn;cases as with
  |nil=>cases ps<;>cases h
  |cons a as=>
   have hva:fz=false∨a.viewed=[]:=hv.imp id fun h=>h a (by simp);have hvs:fz=false∨∀a∈as,a.viewed=[]:=hv.imp id fun h a' ha=>h a' (by grind);cases ps with
   |nil=>
    cases as with
    |nil=>
     simp[AE.argsm,AE.args]at h;rw[b7u (hv:=hva)]at h;cases hx:a9P fz Γ.look used seen p a with
     |none=>simp_all
     |some y=>
      rw[hx]at h;cases h;exact(c7d hx n hn).imp id fun h=>⟨a,by simp,h⟩
    |cons=>cases h
   |cons p' ps=>
    simp[AE.argsm,AE.args]at h;rw[b7u (hv:=hva)]at h;cases hx:a9P fz Γ.look used seen p a with
    |none=>simp_all
    |some y=>
     rw[hx]at h;simp at h;rw[args_m Γ fz (p'::ps) as _ _ _ hvs]at h;cases hr:Γ.argsm fz y.2.1 y.2.2 (p'::ps) as with
     |none=>simp_all
     |some u=>
      rw[hr]at h;cases h;rcases ih as _ _ u hvs hr n hn with h|⟨a',ha',h⟩;exact(c7d hx n h).imp id fun h=>⟨a,by simp,h⟩
      grind
def a8v:List Nat→(Nat→Option Root)→AV→AV
 | [],_=>id
 |n::r,rt=>match rt n with
  |none=>a8v r rt
  |some _=>fun v=>a8v r (fun j=>bif j==n then none else rt j) (AV.drop n v)
theorem c3c:∀(ns:List Nat){rt rt2:Nat→Option Root},(∀n∈ns,rt2 n=rt n)→a8v ns rt2=a8v ns rt
 | [],_,_,_=>rfl
 |n::r,rt,rt2,h=>by
  simp_all[a8v,c3c]
theorem c3V:∀(ns:List Nat)(rt:Nat→Option Root),(∀n∈ns,n∈W∧n<pinned)→FW W (a8v ns rt)
 | [],rt,_=>FW.id
 |n::r,rt,h=>by
  simp only[a8v];cases rt n with
  |none=>exact c3V r rt fun m hm=>h m (by simp[hm])
  |some x=>
   have:=c3V r (fun j=>bif j==n then none else rt j) fun m hm=>h m (by simp[hm])
   exact(FW.drop (h n (by simp)).1 (h n (by simp)).2).comp this this.dead
theorem c3W{m n:Nat}{r:List Nat}(h:¬ m=n):(n::r).contains m=r.contains m:=by
 simp_all
theorem c1w{ρ:Type}(us:List Nat):∀(ns:List Nat)(Γ:AE)(K:AE→Rs ρ),Γ.dropAll false us ns K =
  bif ns.all fun n=>decide (n<pinned)&&!us.contains n then K ⟨fun i=>(Γ.sl i).mapv (a8v ns Γ.rt),fun n=>bif ns.contains n then none else Γ.rt n,Γ.pd⟩else none
 | [],Γ,K=>by
  simp_all[AE.dropAll,a8v,b6p]
 |n::r,Γ,K=>by
  simp only[AE.dropAll,a27];cases (decide (n<pinned)&&!us.contains n);rfl
  ·simp only[cT,Bool.true_and];cases hr:Γ.rt n with
   |none=>
    simp only[a8v,hr];rw[c1w us r Γ K];congr 2;congr 1;funext m
    by_cases e:m=n
    subst e;simp[hr];rw[c3W e]
   |some x=>
    simp only[cF,a8v,hr];rw[c1w us r];simp only[AE.setRt,AE.mapv,c7b]
    grind
theorem b1y:∀(rs:List RA)(b n:Nat),n∈a2K rs b→n∈a1i rs b
 | [],_,_,h=>h
 |.v _::rs,b,n,h=>a02 _ (b1y rs _ n h)
 |.o _::rs,b,n,h=>by
  rcases mC.1 h with rfl|h;exact a18;exact a02 _ (b1y rs _ n h)
 |.b _::rs,b,n,h=>by
  rcases mC.1 h with rfl|h;exact a18;exact a02 _ (b1y rs _ n h)
theorem c3X{x:Operand}(hx:x∈o.op.operands.toList){n:Nat}(hn:n∈(Γ.opd x).refs):n∈Γ.foot o:=by
 refine a35.2 ⟨x,hx,?_⟩;cases x with
 |tmp t=>
  simp[AE.opd,AE.get]at hn;show n∈(Γ.sl t).refs
  revert hn
  cases Γ.sl t with
  |one v=>exact id
  |cmp c vs=>exact fun h=>by cases h
 |const v=>
  simp[AE.opd]at hn;unfold b8I at hn
  split at hn<;>cases hn
 |global g=>cases hn
 |func f=>cases hn
theorem d3T{d:Option Nat}{c:Call}{f:FuncId}{s:FSem}(ho:o.op=.call c)(hb:c.callee=.value (.func f))(hd:o.dst=d)(hpd:Γ.pd=none)(hs:cx.C f=some s)(hW1:∀n∈Γ.foot o,n∈W)(hW2:∀n∈a9d cx o (d.getD 0),n∈W)
    (hv:(s.rs.any RA.hasList || (a5y s.ps).any RA.hasList)=false∨∀a∈c.args.toList.map Γ.opd,a.viewed=[]):a1R g cx o d Γ W:=by
  let fz:=s.rs.any RA.hasList || (a5y s.ps).any RA.hasList
  let b:=d.getD 0+1000
  let nm:=a2K s.rs b
  have hmap:∀Γ2,a1Q W (a0y o) Γ Γ2→c.args.toList.map Γ2.opd=c.args.toList.map Γ.opd:=fun Γ2 hA=>a06 fun x hx=>hA.opd (b1Y ho x hx);have hrefs:∀a∈c.args.toList.map Γ.opd,∀n∈a.refs,n∈W:=fun a ha n hn=>by
    obtain⟨x,hx,rfl⟩:=a17.1 ha;exact hW1 n (c3X (b1Y ho x hx) hn)
  have hres:∀n∈a1i s.rs b,n∈W:=fun n hn=>hW2 n (by grind[a9d]);have hnmW:∀n∈nm,n∈W:=fun n hn=>hres n (b1y _ _ n hn);have run:∀Γ2,a1Q W (a0y o) Γ Γ2→∀{ρ:Type}(K:AE→Rs ρ),aop cx false o Γ2 (gPd g K)=(Γ.argsm fz [] [] s.ps (c.args.toList.map Γ.opd)).elim none fun x=>
      bif nm.all (fun n=>decide (n<pinned)&&!x.2.contains n)then(s.F x.1).bind fun y=>
        (let Γ3:AE:=⟨fun i=>((Γ2.sl i).mapv (a8v nm Γ.rt)).mapv (AV.deeps x.2 ((brw s.ps x.2.reverse).filter fun n=>!c0Z (bif nm.contains n then none else Γ2.rt n))),fun n=>match a2r (a1i s.rs b++x.2.reverse) (a2A (RA.all s.ps s.rs) y) n with
          |some r=>some (bif x.2.contains n then b2v (bif nm.contains n then none else Γ2.rt n) r else r)
          |none=>bif nm.contains n then none else Γ2.rt n,none⟩
         match d with
          |none=>gPd g K Γ3
          |some d=>match a4P (a1i s.rs b) (a2A (RA.all s.ps s.rs) y)with
            | [v]=>gPd g K (Γ3.set d v)
            |vs=>gPd g K (Γ3.put d (.cmp .tup vs)))else none:=fun Γ2 hA ρ K=>by
    have e1:aop cx false o Γ2 (gPd g K)=Γ2.call false d s (c.args.toList.map Γ.opd) (gPd g K):=by
      grind[aop]
    rw[e1];unfold AE.call;rw[show Γ2.pd=none from hA.1.trans hpd];simp only[];rw[args_m _ _ _ _ _ _ _ hv,d0s _ _ _ _ _ (fun a ha n hn=>hA.look (hrefs a ha n hn)) hv];cases Γ.argsm (s.rs.any RA.hasList || (a5y s.ps).any RA.hasList) [] [] s.ps (c.args.toList.map Γ.opd)with
    |none=>rfl
    |some x=>
      simp only[a26];rw[c1w,c3c _ fun n hn=>hA.2.1 n (hnmW n hn)];cases d<;>rfl
  cases hx:Γ.argsm fz [] [] s.ps (c.args.toList.map Γ.opd)with
  |none=>simp_all[a1R.none]
  |some x=>
    cases hn:(nm.all fun n=>decide (n<pinned)&&!x.2.contains n)with
    |false=>exact a1R.none fun Γ2 hA ρ K=>by grind
    |true=>
      cases hy:s.F x.1 with
      |none=>simp_all[a1R.none]
      |some y=>
        let its:=a2A (RA.all s.ps s.rs) y
        let ns:=a1i s.rs b
        let sv:SV:=match a4P ns its with
          | [v]=>.one v
          |vs=>.cmp .tup vs
        have hused:∀n∈x.2,n∈W:=fun n hn=>by
          rcases d1V fz s.ps _ _ _ x hv hx n hn with h|⟨a,ha,h⟩
          all_goals grind
        have hdf:=c3V nm Γ.rt fun n hn'=>⟨hnmW n hn',by
          simp_all⟩
        have hks:∀Γ2,a1Q W (a0y o) Γ Γ2→((brw s.ps x.2.reverse).filter fun n=>!c0Z (bif nm.contains n then none else Γ2.rt n))=(brw s.ps x.2.reverse).filter fun n=>!c0Z (bif nm.contains n then none else Γ.rt n):=fun Γ2 hA=>
          a50 fun n hn=>by
            obtain⟨k,i,e,h1,-⟩:=c2G s.ps x.2.reverse 0 n hn;rw[hA.2.1 n (hused n (List.mem_reverse.1 (a28 h1)))]
        refine a1R.some (fun v=>AV.deeps x.2 ((brw s.ps x.2.reverse).filter fun n=>!c0Z (bif nm.contains n then none else Γ.rt n)) (a8v nm Γ.rt v)) (hdf.comp (FW.deeps hused)) sv ((ns++x.2.reverse)++nm) (fun n hn=>?_) (fun n=>match a2r (ns++x.2.reverse) its n with
          |some r=>some (bif x.2.contains n then b2v (bif nm.contains n then none else Γ.rt n) r else r)
          |none=>bif nm.contains n then none else Γ.rt n) fun Γ2 hA ρ K=>?_
        grind
        rw[run Γ2 hA,hx];simp only[a26,hn,cT,hy,oB];have hrt:(fun n=>match a2r (ns++x.2.reverse) its n with
            |some r=>some (bif x.2.contains n then b2v (bif nm.contains n then none else Γ2.rt n) r else r)
            |none=>bif nm.contains n then none else Γ2.rt n)=fun n=>bif ((ns++x.2.reverse)++nm).contains n then(match a2r (ns++x.2.reverse) its n with
            |some r=>some (bif x.2.contains n then b2v (bif nm.contains n then none else Γ.rt n) r else r)
            |none=>bif nm.contains n then none else Γ.rt n)else Γ2.rt n:=by
          funext n;cases hS:((ns++x.2.reverse)++nm).contains n with
          |true=>
            have hnW:n∈W:=by
              grind
            rw[hA.2.1 n hnW];rfl
          |false=>
            grind[b2E]
        have hΓ:∀sv':SV,(⟨fun i=>bif d==some i then sv' else((Γ2.sl i).mapv (a8v nm Γ.rt)).mapv (AV.deeps x.2 ((brw s.ps x.2.reverse).filter fun n=>!c0Z (bif nm.contains n then none else Γ2.rt n))),fun n=>match a2r (a1i s.rs b++x.2.reverse) (a2A (RA.all s.ps s.rs) y) n with
            |some r=>some (bif x.2.contains n then b2v (bif nm.contains n then none else Γ2.rt n) r else r)
            |none=>bif nm.contains n then none else Γ2.rt n,none⟩:AE)=⟨fun i=>bif d==some i then sv' else(Γ2.sl i).mapv (fun v=>AV.deeps x.2 ((brw s.ps x.2.reverse).filter fun n=>!c0Z (bif nm.contains n then none else Γ.rt n)) (a8v nm Γ.rt v)),fun n=>bif ((ns++x.2.reverse)++nm).contains n then(match a2r (ns++x.2.reverse) its n with
            |some r=>some (bif x.2.contains n then b2v (bif nm.contains n then none else Γ.rt n) r else r)
            |none=>bif nm.contains n then none else Γ.rt n)else Γ2.rt n,Γ2.pd⟩:=fun sv'=>by
          rw[hks Γ2 hA];rw[←hrt,hA.1,hpd];congr 1;simp_all[c7b]
        rw[←hΓ sv];cases d with
        |none=>
          rw[b2a rfl];rfl
        |some d=>
          have e1:∀i,(some d==some i)=(i==d):=fun i=>by
            grind
          simp only[e1,AE.set,AE.put,sv];show(match a4P ns its with
            | [v]=>gPd g K _
            |vs=>gPd g K _)=_
          generalize a4P ns its=vs
          split<;>exact b2a rfl
theorem d0t{c:Call}(ho:o.op=.call c)(hb:c.callee=.builtin .append)(hd:o.dst=some d)(hpd:Γ.pd=none)(hW1:∀n∈Γ.foot o,n∈W)(hdW:d∈W)(hel:c1b cx c.argTypes.toList=false):a1R g cx o (some d) Γ W:=by
 have run:∀Γ2,a1Q W (a0y o) Γ Γ2→∀{ρ:Type}(K:AE→Rs ρ),aop cx false o Γ2 K=Γ2.blt false cx d .append c.argTypes.toList (c.args.toList.map Γ.opd) K:=fun Γ2 hA ρ K=>by
  simp[aop,ho,hd,hb];rw[a06 fun x hx=>hA.opd (b1Y ho x hx)]
 have hrefs:∀a∈c.args.toList.map Γ.opd,∀n∈a.refs,n∈W:=fun a ha n hn=>by
  obtain⟨x,hx,rfl⟩:=a17.1 ha;exact hW1 n (c3X (b1Y ho x hx) hn)
 revert run hrefs hel
 generalize c.args.toList.map Γ.opd=as;generalize c.argTypes.toList=ts;intro hel run hrefs;have no:(∀(Γ2:AE){ρ:Type}(K:AE→Rs ρ),Γ2.blt false cx d .append ts as K=none)→a1R g cx o (some d) Γ W:=fun h=>a1R.none fun Γ2 hA ρ K=>by simp_all
 match as with
 | []=>exact no fun Γ2 ρ K=>rfl
 | [_]=>exact no fun Γ2 ρ K=>rfl
 |_::_::_::_=>exact no fun Γ2 ρ K=>rfl
 | [a,b]=>
  have hxW:∀n∈a.refs,n∈W:=hrefs a (by simp);have hyW:∀n∈b.refs,n∈W:=hrefs b (by simp);cases hni:c1a cx ts with
  |false=>simp_all[AE.blt]
  |true=>
   cases ht:ts.head?.bind cx.T with
   |none=>simp_all[AE.blt]
   |some τ=>
    cases τ with
    |list o' e=>
     have hel:e.isList=false:=by simp_all[c1b]
     have els:(∀(Γ2:AE){ρ:Type}(K:AE→Rs ρ),Γ2.blt false cx d .append ts [a,b] K=Γ2.elems e b fun ys=>Γ2.apnd false d e a ys K)→a1R g cx o (some d) Γ W:=fun h=>
      c7c hpd hdW (e:=e) (x:=a) hxW (ys:=a9O Γ.look e b) fun Γ2 hA ρ K=>by
       rw[run Γ2 hA,h,b8R,b6n fun n hn=>hA.look (hyW n hn)]
     cases b with
     |val t y=>
      cases t with
      |str=>
       by_cases he:e=.int .u8
       subst he;exact c7c hpd hdW (e:=.int .u8) (x:=a) hxW (ys:=some y) fun Γ2 hA ρ K=>by
        rw[run Γ2 hA];simp only[AE.blt,hni,ht,cT];rfl
       simp_all[AE.blt]
      |_=>exact els fun Γ2 ρ K=>by simp only[AE.blt,hni,ht,cT,hel,a56,Bool.or_true]
     |_=>exact els fun Γ2 ρ K=>by simp only[AE.blt,hni,ht,cT,hel,a56,Bool.or_true]
    |_=>exact no fun Γ2 ρ K=>by simp only[AE.blt,hni,ht,cT]
theorem c3Y{d:Option Nat}(Γ:AE):Γ.setD d .dead=⟨fun i=>bif d==some i then .one .dead else Γ.sl i,Γ.rt,Γ.pd⟩:=by
 cases d with
 |none=>rfl
 |some d=>
  simp only[AE.setD,AE.set,AE.put]
  grind
theorem d3U{d:Option Nat}(hpd:Γ.pd=none){t:Ty}{n:Nat}{p:a0R}{x:AV}(hnW:n∈W)(hv:x.viewed=[])(h:∀Γ2,a1Q W (a0y o) Γ Γ2→∀{ρ:Type}(K:AE→Rs ρ),aop cx false o Γ2 K=Γ2.stor t n p x fun Γ=>K (Γ.setD d .dead)):a1R g cx o d Γ W:=by
 have hrt:∀Γ2,a1Q W (a0y o) Γ Γ2→Γ2.rt n=Γ.rt n:=fun Γ2 hA=>hA.2.1 n hnW;have hlk:∀Γ2,a1Q W (a0y o) Γ Γ2→Γ2.look n=Γ.rt n:=fun Γ2 hA=>by rw[hA.look hnW];simp only[AE.look,hpd]
 cases hr:Γ.rt n with
 |none=>simp_all[a1R.none,AE.stor]
 |some r=>
  have plain:∀tt y,a1p r.t r.x p=⟨tt,y⟩→(∀e,tt≠.list true e)→a1R g cx o d Γ W:=fun tt y hg hno=>by
   have st:∀Γ2,a1Q W (a0y o) Γ Γ2→∀{ρ:Type}(K:AE→Rs ρ),aop cx false o Γ2 K=if tt.shn=tt∧tt.sh=t then(a7X tt x).elim none fun y=>K ((Γ2.setRt n (some ⟨r.bx,r.t,a1U r.t r.x p tt y⟩)).setD d .dead)else Γ2.overP t n r x (fun Γ=>K (Γ.setD d .dead)) p:=fun Γ2 hA ρ K=>by
    rw[h Γ2 hA];unfold AE.stor;rw[hrt Γ2 hA,hr];simp[hg];have body:(if tt.shn=tt∧tt.sh=t then Γ2.asV false tt x fun y Γ'=>(match Γ'.look n with
      |some r=>if(a1p r.t r.x p).1=tt then K ((Γ'.setRt n (some ⟨r.bx,r.t,a1U r.t r.x p tt y⟩)).setD d .dead)else none
      |none=>none)else Γ2.overP t n r x (fun Γ=>K (Γ.setD d .dead)) p)=if tt.shn=tt∧tt.sh=t then(a7X tt x).elim none fun y=>K ((Γ2.setRt n (some ⟨r.bx,r.t,a1U r.t r.x p tt y⟩)).setD d .dead)else Γ2.overP t n r x (fun Γ=>K (Γ.setD d .dead)) p:=by
     simp_all[d5S]
    grind
   by_cases hc:tt.shn=tt∧tt.sh=t
   ·cases ha:a7X tt x with
    |none=>simp_all[a1R.none]
    |some y=>
     refine a1R.some id FW.id (.one .dead) [n] (by simp_all) (fun _=>some ⟨r.bx,r.t,a1U r.t r.x p tt y⟩) fun Γ2 hA ρ K=>?_
     rw[st Γ2 hA,if_pos hc,ha];simp only[a26];rw[c3Y,b2a (by exact hA.1.trans hpd)];congr 1;simp only[AE.setRt,a3f,b6p]
   ·cases p with
    |cons s p=>exact a1R.none fun Γ2 hA ρ K=>by rw[st Γ2 hA,if_neg hc];rfl
    |nil=>
     have no:(∀Γ2,a1Q W (a0y o) Γ Γ2→∀{ρ:Type}(K:AE→Rs ρ),Γ2.over t n r x K=none)→a1R g cx o d Γ W:=fun h2=>a1R.none fun Γ2 hA ρ K=>by
      rw[st Γ2 hA,if_neg hc];exact h2 Γ2 hA (fun Γ=>gPd g K (Γ.setD d .dead))
     have yes:∀(t2:Ty)(z:t2.den),(∀Γ2,a1Q W (a0y o) Γ Γ2→∀{ρ:Type}(K:AE→Rs ρ),Γ2.over t n r x K=K ((Γ2.mapv (AV.deeps [n] [])).setRt n (some ⟨true,t2,z⟩)))→a1R g cx o d Γ W:=fun t2 z h2=>by
      refine a1R.some (AV.deeps [n] []) (FW.deeps (by simp_all)) (.one .dead) [n] (by simp_all) (fun _=>some ⟨true,t2,z⟩) fun Γ2 hA ρ K=>?_
      rw[st Γ2 hA,if_neg hc];simp only[AE.overP];rw[h2 Γ2 hA,c3Y,b2a (by exact hA.1.trans hpd)];congr 1;simp only[AE.setRt,AE.mapv,a3f]
     have hlk':∀Γ2,a1Q W (a0y o) Γ Γ2→Γ2.look n=some r:=fun Γ2 hA=>(hlk Γ2 hA).trans hr;cases x with
     |val t' y=>
      by_cases hcc:r.bx=true∧(r.t.sh=t∧(t'.shn=t'∧t'.sh=t))
      ·cases h1:castTo t' r.t y with
       |some z=>exact yes r.t z fun Γ2 hA ρ K=>by simp_all[AE.over]
       |none=>
        cases h2:castTo t' r.t.shn y with
        |some z=>exact yes r.t.shn z fun Γ2 hA ρ K=>by simp_all[AE.over]
        |none=>exact yes t' y fun Γ2 hA ρ K=>by simp_all[AE.over]
      simp_all[AE.over]
     |_=>exact no fun Γ2 hA ρ K=>rfl
  cases hg:a1p r.t r.x p with
  |mk tt l=>
   cases tt with
   |list o' e=>
    cases o' with
    |false=>simp_all
    |true=>
     by_cases hty:t.isList=true
     ·have no:(∀Γ2,a1Q W (a0y o) Γ Γ2→∀{ρ:Type}(K:AE→Rs ρ),Γ2.stor t n p x K=none)→a1R g cx o d Γ W:=fun h2=>a1R.none fun Γ2 hA ρ K=>by simp_all
      cases x with
      |nils=>
       refine a1R.some (AV.kill n p) (FW.kill hnW p) (.one .dead) [n] (by simp_all) (fun _=>some ⟨r.bx,r.t,a1U r.t r.x p (.list true e) []⟩) fun Γ2 hA ρ K=>?_
       rw[h Γ2 hA];simp only[AE.stor,hrt Γ2 hA,hr,hg,hty,if_true,hlk Γ2 hA];rw[c3Y,b2a (by exact hA.1.trans hpd)];congr 1;simp only[AE.setRt,AE.mapv,a3f]
      |sref m q=>cases hv
      |_=>exact no fun Γ2 hA ρ K=>by simp only[AE.stor,hrt Γ2 hA,hr,hg,hty,if_true]
     simp_all[a1R.none,AE.stor]
   |_=>exact plain _ l hg (by simp)
theorem c7e{Γ2:AE}(hA:a1Q W (a0y o) Γ Γ2):wOk cx o Γ2=wOk cx o Γ:=by
 unfold wOk;cases ho:o.op<;>try rfl
 case store t a x=>
  simp
  rw[hA.opd (by simp_all[Op.operands]),hA.aggOf (by simp_all[Op.operands])]
 rename_i c;simp only[];cases hc:c.callee with
 |value v=>
  cases v with
  |func f=>
   simp only[];cases cx.C f with
   |none=>rfl
   |some s=>
    simp only[];congr 1
    have:∀x∈c.args.toList,(Γ2.opd x).viewed.isEmpty=(Γ.opd x).viewed.isEmpty:=fun x hx=>by rw[hA.opd (b1Y ho x hx)]
    grind
  |_=>rfl
 |builtin b=>grind
 |invoke r n=>rfl
where
 all_congr' {α:Type} {l:List α} {p q:α→Bool} (h:∀x∈l,p x=q x):l.all p=l.all q:=by
  grind
theorem c4Z{Γ2:AE}(hA:∀t∈a0y o,Γ2.sl t=Γ.sl t):Γ2.foot o=Γ.foot o:=by
 unfold AE.foot
 have:∀x∈o.op.operands.toList,(match x with
  |.tmp t=>(Γ2.sl t).refs
  |_=>[])=(match x with
  |.tmp t=>(Γ.sl t).refs
  |_=>[]):=fun x hx=>by
  grind[a3V]
 exact flatMap_congr' this
where
 flatMap_congr' {α β:Type} {l:List α} {p q:α→List β} (h:∀x∈l,p x=q x):l.flatMap p=l.flatMap q:=by
  induction l with
  |nil=>rfl
  |cons a l ih=>simp_all
theorem c8W(hpd:Γ.pd=none)(hok:wOk cx o Γ=true)(hW1:∀n∈Γ.foot o,n∈W)(hW2:∀n∈a9d cx o (o.dst.getD 0),n∈W):a1R g cx o o.dst Γ W:=by
 unfold wOk at hok
 split at hok
 rename_i c ho
 split at hok
 rename_i hc;simp at hok;obtain⟨d,hd⟩:=a00.1 hok.1;rw[hd];exact d0t ho hc hd hpd hW1 (hW2 d (by rw[hd];exact a18)) hok.2;rename_i f hc
 split at hok
 rename_i s hs;refine d3T ho hc rfl hpd hs hW1 hW2 ?_
 grind
 simp_all;simp_all
 ·rename_i t a x ho;have ha:a∈o.op.operands.toList:=by simp_all[Op.operands]
  have hx:x∈o.op.operands.toList:=by simp_all[Op.operands]
  obtain⟨hok,hag⟩:=a20.1 hok;have hag:Γ.aggOf x=none:=by simp_all
  have hop:∀Γ2:AE,a1Q W (a0y o) Γ Γ2→∀{ρ:Type}(K:AE→Rs ρ),aop cx false o Γ2 K=(match Γ2.opd a with
    |.ptr n p=>(match cx.T t with
     |some t=>Γ2.stor t n p (Γ2.opd x) fun Γ=>K (Γ.setD o.dst .dead)
     |none=>none)
    |_=>none):=fun Γ2 hA ρ K=>by
   have hag2:Γ2.aggOf x=none:=(hA.aggOf hx).trans hag;unfold aop;rw[ho]
   grind
  cases hpa:Γ.opd a with
  |ptr n p=>
   cases ht:cx.T t with
   |none=>grind[a1R.none]
   |some τ=>
    refine d3U hpd (t:=τ) (n:=n) (p:=p) (x:=Γ.opd x) (hW1 n (c3X ha (by rw[hpa];simp[AV.refs]))) (by simp_all) fun Γ2 hA ρ K=>?_
    rw[hop Γ2 hA,hA.opd ha,hpa,ht,hA.opd hx]
  |_=>exact a1R.none fun Γ2 hA ρ K=>by rw[hop Γ2 hA,hA.opd ha,hpa]
 simp_all
theorem b9L{ρ:Type}{ops:Array Oper}{ws:List Nat}{K:AE→Rs ρ}{z:ρ}(hz:a0S cx (.w ws) ops.toList o Γ K=some z):
  ∃(W:List Nat)(m:MDl),FW W m.f∧(∀n∈W,n∈ws)∧K (a5M W m o.dst Γ)=some z∧
   ∀Γ2,a1Q W (o.looksAt ops) Γ Γ2→∀{ρ2:Type}(K2:AE→Rs ρ2),a0S cx (.w ws) ops.toList o Γ2 K2=K2 (a5M W m o.dst Γ2):=by
 rw[b1Z]at hz;cases hl:a3k ops o Γ with
 |none=>simp_all
 |some b=>
  rw[hl]at hz;cases b with
  |false=>
   have hsk:∀Γ2:AE,Γ2.setD o.dst .skp=a5M [] ⟨id,fun _=>none,.one .skp,none⟩ o.dst Γ2:=fun Γ2=>by
    simp only[a5M,b6p];cases o.dst with
    |none=>rfl
    |some d=>
     simp only[AE.setD,AE.set,AE.put];congr 1
     grind
   refine⟨[],⟨id,fun _=>none,.one .skp,none⟩,FW.id,fun n hn=>(by grind),by simp_all,fun Γ2 hA ρ2 K2=>?_⟩;rw[b1Z,b1x hA.2.2,hl,←hsk Γ2]
  |true=>
   simp[a5q]at hz;cases hpd:Γ.pd with
   |some p=>simp_all
   |none=>
    rw[hpd]at hz;simp at hz;obtain⟨hok,hz⟩:=(a0i hz).elim id fun h=>by grind
    simp at hok;obtain⟨hok,hs1,hs2⟩:=hok
    let W:=Γ.foot o++a9d cx o (o.dst.getD 0)
    obtain⟨r,hr0,hr⟩:=c8W (g:=true) (cx:=cx) (W:=W) hpd hok (fun n hn=>a05 _ hn) (fun n hn=>a04 _ hn);have hz:aop cx false o Γ (gPd true K)=some z:=hz;rw[hr Γ a1Q.refl]at hz;cases r with
    |none=>cases hz
    |some m=>
     have hz:K (b0q W m o.dst Γ)=some z:=hz;rw[c8p ((hr0 m rfl).2 rfl)]at hz;refine⟨W,m,(hr0 m rfl).1,fun n hn=>(mA.1 hn).elim (b3M hs1) (b3M hs2),hz,fun Γ2 hA ρ2 K2=>?_⟩;have hA':a1Q W (a0y o) Γ Γ2:=⟨hA.1,hA.2.1,fun t ht=>hA.2.2 t (a7c ht)⟩;rw[b1Z,b1x hA.2.2,hl];simp[a5q];rw[hA.1,hpd,c7e hA',hok,c4Z hA'.2.2,hs1,hs2];refine Eq.trans (hr Γ2 hA' K2) ?_
     simp[c8q];rw[c8p ((hr0 m rfl).2 rfl)]
theorem d1W{ρ:Type}{ops:Array Oper}{ws:List Nat}{K:AE→Rs ρ}{z:ρ}(hz:a0S cx (.a ws) ops.toList o Γ K=some z):
  ∃(W:List Nat)(m:MDl),FW W m.f∧(∀n∈W,n∈ws)∧K (b0q W m o.dst Γ)=some z∧
   ∀Γ2,a1Q W (o.looksAt ops) Γ Γ2→∀{ρ2:Type}(K2:AE→Rs ρ2),a0S cx (.a ws) ops.toList o Γ2 K2=K2 (b0q W m o.dst Γ2):=by
 rw[b1Z]at hz;cases hl:a3k ops o Γ with
 |none=>simp_all
 |some b=>
  rw[hl]at hz;cases b with
  |false=>
   have hsk:∀Γ2:AE,Γ2.setD o.dst .skp=a5M [] ⟨id,fun _=>none,.one .skp,none⟩ o.dst Γ2:=fun Γ2=>by
    simp only[a5M,b6p];cases o.dst with
    |none=>rfl
    |some d=>
     simp only[AE.setD,AE.set,AE.put];congr 1
     grind
   refine⟨[],⟨id,fun _=>none,.one .skp,none⟩,FW.id,fun n hn=>(by grind),by rw[c8p rfl,←hsk Γ];omega,fun Γ2 hA ρ2 K2=>?_⟩;rw[b1Z,b1x hA.2.2,hl,c8p rfl,←hsk Γ2]
  |true=>
   simp[a5q]at hz;cases hpd:Γ.pd with
   |some p=>simp_all
   |none=>
    rw[hpd]at hz;simp at hz;obtain⟨hok,hz⟩:=(a0i hz).elim id fun h=>by grind
    simp at hok;obtain⟨hok,hs1,hs2⟩:=hok
    let W:=Γ.foot o++a9d cx o (o.dst.getD 0)
    obtain⟨r,hr0,hr⟩:=c8W (g:=false) (cx:=cx) (W:=W) hpd hok (fun n hn=>a05 _ hn) (fun n hn=>a04 _ hn);have hz:aop cx false o Γ (gPd false K)=some z:=hz;rw[hr Γ a1Q.refl]at hz;cases r with
    |none=>cases hz
    |some m=>
     have hz:K (b0q W m o.dst Γ)=some z:=hz;refine⟨W,m,(hr0 m rfl).1,fun n hn=>(mA.1 hn).elim (b3M hs1) (b3M hs2),hz,fun Γ2 hA ρ2 K2=>?_⟩;have hA':a1Q W (a0y o) Γ Γ2:=⟨hA.1,hA.2.1,fun t ht=>hA.2.2 t (a7c ht)⟩;rw[b1Z,b1x hA.2.2,hl];simp[a5q];rw[hA.1,hpd,c7e hA',hok,c4Z hA'.2.2,hs1,hs2];exact hr Γ2 hA' K2
end
end Go.Ab
namespace Go.Ab
theorem AE.ext'{Γ Γ2:AE}(h1:∀i,Γ.sl i=Γ2.sl i)(h2:∀n,Γ.rt n=Γ2.rt n)(h3:Γ.pd=Γ2.pd):Γ=Γ2:=by
 obtain⟨a,b,c⟩:=Γ;obtain⟨a',b',c'⟩:=Γ2;obtain rfl:a=a':=funext h1;obtain rfl:b=b':=funext h2;simp_all
theorem b4N(δ:Dl)(d:Nat)(Γ:AE)(i:Nat):(δ.app d Γ).sl i=if i=d then δ.sv else Γ.sl i:=by
 simp_all[Dl.app]
theorem a3O{δ:Dl}{d:Nat}{Γ:AE}{n:Nat}(h:find δ.rs n=none):(δ.app d Γ).rt n=Γ.rt n:=by simp[Dl.app,h]
theorem d0u{δ:Dl}{d:Nat}{Γ:AE}{n:Nat}(h:find δ.rs n≠none):(δ.app d Γ).rt n≠none:=by
 grind[Dl.app]
theorem c1x{δ:Dl}{d:Nat}{Γ:AE}(h:∀n,find δ.rs n≠none→Γ.rt n=none){n:Nat}(hn:Γ.rt n≠none):(δ.app d Γ).rt n=Γ.rt n:=
 a3O (by
  grind)
theorem a4m(W:List Nat)(m:MDl)(d:Option Nat)(Γ:AE)(i:Nat):(a5M W m d Γ).sl i=if d=some i then m.sv else(Γ.sl i).mapv m.f:=by
 simp_all[a5M]
theorem b3N{W:List Nat}{m:MDl}{d:Option Nat}{Γ:AE}{n:Nat}(h:n∉W):(a5M W m d Γ).rt n=Γ.rt n:=by
 simp_all[a5M]
theorem c3Z{a b:List Nat}(h:disj a b=true){n:Nat}(h1:n∈a):n∉b:=by
 have:=lA.1 h n h1
 simp_all
theorem a8Q(Γ:AE)(d:Nat)(sv:SV)(i:Nat):(Γ.put d sv).sl i=if i=d then sv else Γ.sl i:=by
 simp_all[AE.put]
section
variable {ρ:Type} {cx:Cx} {ops:Array Oper} {k i:Oper} {dk di:Nat} {Γ:AE} {K:AE→Rs ρ} {z:ρ}
theorem d6J{mk mi:Md}(hmk:mk.quiet)(hmi:mi.quiet)(hdk:k.dst=some dk)(hdi:i.dst=some di)(hap:k.apart ops i=true)(hroots:∀t∈i.looksAt ops,∀n∈(Γ.sl t).refs,mi.reads n→Γ.rt n≠none)
  (hz:a0S cx mk ops.toList k Γ (fun Γ1=>a0S cx mi ops.toList i Γ1 K)=some z):a0S cx mi ops.toList i Γ (fun Γ1=>a0S cx mk ops.toList k Γ1 K)=some z:=by
 obtain⟨a1,a2,a3⟩:=Oper.apart_spec hap;have a1:=a1 dk hdk;have a2:di≠dk:=fun e=>a2 dk hdk (by simp_all);have a3:=a3 di hdi;obtain⟨δk,Lk,h1,h2,h3,h4⟩:=c8V hmk hdk hz;obtain⟨δi,Li,g1,g2,g3,g4⟩:=c8V hmi hdi h2;have hik:∀n,find δi.rs n≠none→find δk.rs n=none:=fun n hn=>by
  grind[d0u]
 have hiΓ:∀n,find δi.rs n≠none→Γ.rt n=none:=fun n hn=>by simp_all[a3O]
 have hAi:c8U mi Li (δk.app dk Γ) Γ:=by
  refine⟨rfl,fun t ht=>?_⟩;have htd:t≠dk:=fun e=>a1 (e▸(g1 t ht).1);have hs:(δk.app dk Γ).sl t=Γ.sl t:=by rw[b4N,if_neg htd]
  grind[c1x]
 rw[g4 Γ hAi hiΓ];have hAk:c8U mk Lk Γ (δi.app di Γ):=by
  refine⟨rfl,fun t ht=>?_⟩;have htd:t≠di:=fun e=>a3 (e▸(h1 t ht).1);exact⟨by rw[b4N,if_neg htd],fun n hn hv=>c1x hiΓ ((h1 t ht).2 n hn hv).2⟩
 have hki:∀n,find δk.rs n≠none→find δi.rs n=none:=fun n hn=>by
  grind
 rw[h4 _ hAk fun n hn=>by simp_all[a3O],←g2];congr 1;refine AE.ext' (fun j=>?_) (fun n=>?_) rfl;simp[b4N]
 grind
 ·cases e1:find δk.rs n with
  |none=>
   rw[a3O e1]
   grind[a3O,Dl.app]
  |some r=>
   grind[a3O,Dl.app]
theorem d6K{ws:List Nat}(hdk:k.dst=some dk)(hap:k.apart ops i=true)
  (hz:a0S cx .v ops.toList k Γ (fun Γ1=>a0S cx (.w ws) ops.toList i Γ1 K)=some z):a0S cx (.w ws) ops.toList i Γ (fun Γ1=>a0S cx .v ops.toList k Γ1 K)=some z:=by
 obtain⟨a1,a2,a3⟩:=Oper.apart_spec hap;have a1:=a1 dk hdk;have a2:=a2 dk hdk;obtain⟨sv,L,h1,h2,h3,h4⟩:=d1R hdk hz;obtain⟨W,m,g1,-,g2,g3⟩:=b9L h3;have s1:a1Q W (i.looksAt ops) (Γ.put dk sv) Γ:=⟨rfl,fun _ _=>rfl,fun t ht=>by
  have htd:t≠dk:=fun e=>a1 (by simp_all);rw[a8Q,if_neg htd]⟩
 have s2:∀t∈L,(a5M W m i.dst Γ).sl t=Γ.sl t:=fun t ht=>by
  have htd:¬ i.dst=some t:=fun e=>a3 t e (h2 t ht).1;rw[a4m,if_neg htd];exact g1.fp.sv (h2 t ht).2
 rw[g3 Γ s1,h4 (a5M W m i.dst Γ) rfl s2,←g2];congr 1;refine AE.ext' (fun j=>?_) (fun n=>rfl) rfl;simp[a8Q,a4m]
 by_cases e1:j=dk
 subst e1;rw[if_pos rfl,if_neg a2,if_pos rfl];exact(g1.fp.sv h1).symm;simp_all
theorem d6L{ws:List Nat}(hdi:i.dst=some di)(hap:k.apart ops i=true)
  (hz:a0S cx (.w ws) ops.toList k Γ (fun Γ1=>a0S cx .v ops.toList i Γ1 K)=some z):a0S cx .v ops.toList i Γ (fun Γ1=>a0S cx (.w ws) ops.toList k Γ1 K)=some z:=by
 obtain⟨a1,a2,a3⟩:=Oper.apart_spec hap;have a3:=a3 di hdi;have a2:¬ k.dst=some di:=fun e=>a2 di e hdi;obtain⟨W,m,g1,-,g2,g3⟩:=b9L hz;obtain⟨sv,L,h1,h2,h3,h4⟩:=d1R hdi g2;have s1:∀t∈L,Γ.sl t=(a5M W m k.dst Γ).sl t:=fun t ht=>by
  have h5:=(h2 t ht).2;have htd:¬ k.dst=some t:=fun e=>a1 t e (h2 t ht).1;rw[a4m,if_neg htd]at h5⊢;exact(g1.fp.sv' h5).symm
 have s2:a1Q W (k.looksAt ops) Γ (Γ.put di sv):=⟨rfl,fun _ _=>rfl,fun t ht=>by
  have htd:t≠di:=fun e=>a3 (by simp_all);rw[a8Q,if_neg htd]⟩
 rw[h4 Γ rfl s1,g3 (Γ.put di sv) s2,←h3];congr 1;refine AE.ext' (fun j=>?_) (fun n=>rfl) rfl;simp[a8Q,a4m]
 by_cases e2:j=di
 subst e2;rw[if_neg a2,if_pos rfl,if_pos rfl];exact g1.fp.sv h1;simp_all
theorem b9M(W:List Nat)(m:MDl)(d:Option Nat)(Γ:AE)(i:Nat):(b0q W m d Γ).sl i=if d=some i then m.sv else(Γ.sl i).mapv m.f:=a4m W m d Γ i
theorem d6M{ws:List Nat}(hdk:k.dst=some dk)(hap:k.apart ops i=true)
  (hz:a0S cx .p ops.toList k Γ (fun Γ1=>a0S cx (.w ws) ops.toList i Γ1 K)=some z):a0S cx (.w ws) ops.toList i Γ (fun Γ1=>a0S cx .p ops.toList k Γ1 K)=some z:=by
 obtain⟨a1,a2,a3⟩:=Oper.apart_spec hap;have a1:=a1 dk hdk;have a2:=a2 dk hdk;obtain⟨sv,L,h1,h2,h3,h4⟩:=c4Y hdk hz;obtain⟨W,m,g1,-,g2,g3⟩:=b9L h3;have s1:a1Q W (i.looksAt ops) (Γ.put dk sv) Γ:=⟨rfl,fun _ _=>rfl,fun t ht=>by
  have htd:t≠dk:=fun e=>a1 (by simp_all);rw[a8Q,if_neg htd]⟩
 have s2:∀t∈L,(a5M W m i.dst Γ).sl t=Γ.sl t:=fun t ht=>by
  have htd:¬ i.dst=some t:=fun e=>a3 t e (h2 t ht).1;rw[a4m,if_neg htd];exact g1.fp.sv (h2 t ht).2
 rw[g3 Γ s1,h4 (a5M W m i.dst Γ) s2,←g2];congr 1;refine AE.ext' (fun j=>?_) (fun n=>rfl) rfl;simp[a8Q,a4m]
 by_cases e1:j=dk
 subst e1;rw[if_pos rfl,if_neg a2,if_pos rfl];exact(g1.fp.sv h1).symm;simp_all
theorem d6N{ws:List Nat}(hdi:i.dst=some di)(hap:k.apart ops i=true)
  (hz:a0S cx (.w ws) ops.toList k Γ (fun Γ1=>a0S cx .p ops.toList i Γ1 K)=some z):a0S cx .p ops.toList i Γ (fun Γ1=>a0S cx (.w ws) ops.toList k Γ1 K)=some z:=by
 obtain⟨a1,a2,a3⟩:=Oper.apart_spec hap;have a3:=a3 di hdi;have a2:¬ k.dst=some di:=fun e=>a2 di e hdi;obtain⟨W,m,g1,-,g2,g3⟩:=b9L hz;obtain⟨sv,L,h1,h2,h3,h4⟩:=c4Y hdi g2;have s1:∀t∈L,Γ.sl t=(a5M W m k.dst Γ).sl t:=fun t ht=>by
  have h5:=(h2 t ht).2;have htd:¬ k.dst=some t:=fun e=>a1 t e (h2 t ht).1;rw[a4m,if_neg htd]at h5⊢;exact(g1.fp.sv' h5).symm
 have s2:a1Q W (k.looksAt ops) Γ (Γ.put di sv):=⟨rfl,fun _ _=>rfl,fun t ht=>by
  have htd:t≠di:=fun e=>a3 (by simp_all);rw[a8Q,if_neg htd]⟩
 rw[h4 Γ s1,g3 (Γ.put di sv) s2,←h3];congr 1;refine AE.ext' (fun j=>?_) (fun n=>rfl) rfl;simp[a8Q,a4m]
 by_cases e2:j=di
 subst e2;rw[if_neg a2,if_pos rfl,if_pos rfl];exact g1.fp.sv h1;simp_all
theorem d6O{ws:List Nat}(hdk:k.dst=some dk)(hap:k.apart ops i=true)
  (hz:a0S cx .p ops.toList k Γ (fun Γ1=>a0S cx (.a ws) ops.toList i Γ1 K)=some z):a0S cx (.a ws) ops.toList i Γ (fun Γ1=>a0S cx .p ops.toList k Γ1 K)=some z:=by
 obtain⟨a1,a2,a3⟩:=Oper.apart_spec hap;have a1:=a1 dk hdk;have a2:=a2 dk hdk;obtain⟨sv,L,h1,h2,h3,h4⟩:=c4Y hdk hz;obtain⟨W,m,g1,-,g2,g3⟩:=d1W h3;have s1:a1Q W (i.looksAt ops) (Γ.put dk sv) Γ:=⟨rfl,fun _ _=>rfl,fun t ht=>by
  have htd:t≠dk:=fun e=>a1 (by simp_all);rw[a8Q,if_neg htd]⟩
 have s2:∀t∈L,(b0q W m i.dst Γ).sl t=Γ.sl t:=fun t ht=>by
  have htd:¬ i.dst=some t:=fun e=>a3 t e (h2 t ht).1;rw[b9M,if_neg htd];exact g1.fp.sv (h2 t ht).2
 rw[g3 Γ s1,h4 (b0q W m i.dst Γ) s2,←g2];congr 1;refine AE.ext' (fun j=>?_) (fun n=>rfl) rfl;simp[a8Q,b9M]
 by_cases e1:j=dk
 subst e1;rw[if_pos rfl,if_neg a2,if_pos rfl];exact(g1.fp.sv h1).symm;simp_all
theorem d6P{ws:List Nat}(hdi:i.dst=some di)(hap:k.apart ops i=true)
  (hz:a0S cx (.a ws) ops.toList k Γ (fun Γ1=>a0S cx .p ops.toList i Γ1 K)=some z):a0S cx .p ops.toList i Γ (fun Γ1=>a0S cx (.a ws) ops.toList k Γ1 K)=some z:=by
 obtain⟨a1,a2,a3⟩:=Oper.apart_spec hap;have a3:=a3 di hdi;have a2:¬ k.dst=some di:=fun e=>a2 di e hdi;obtain⟨W,m,g1,-,g2,g3⟩:=d1W hz;obtain⟨sv,L,h1,h2,h3,h4⟩:=c4Y hdi g2;have s1:∀t∈L,Γ.sl t=(b0q W m k.dst Γ).sl t:=fun t ht=>by
  have h5:=(h2 t ht).2;have htd:¬ k.dst=some t:=fun e=>a1 t e (h2 t ht).1;rw[b9M,if_neg htd]at h5⊢;exact(g1.fp.sv' h5).symm
 have s2:a1Q W (k.looksAt ops) Γ (Γ.put di sv):=⟨rfl,fun _ _=>rfl,fun t ht=>by
  have htd:t≠di:=fun e=>a3 (by simp_all);rw[a8Q,if_neg htd]⟩
 rw[h4 Γ s1,g3 (Γ.put di sv) s2,←h3];congr 1;refine AE.ext' (fun j=>?_) (fun n=>rfl) rfl;simp[a8Q,b9M]
 by_cases e2:j=di
 subst e2;rw[if_neg a2,if_pos rfl,if_pos rfl];exact g1.fp.sv h1;simp_all
theorem d6Q{ns ws:List Nat}(hd:disj ns ws=true)(hdk:k.dst=some dk)(hap:k.apart ops i=true)
  (hz:a0S cx (.r ns) ops.toList k Γ (fun Γ1=>a0S cx (.w ws) ops.toList i Γ1 K)=some z):a0S cx (.w ws) ops.toList i Γ (fun Γ1=>a0S cx (.r ns) ops.toList k Γ1 K)=some z:=by
 obtain⟨a1,a2,a3⟩:=Oper.apart_spec hap;have a1:=a1 dk hdk;have a2:=a2 dk hdk;obtain⟨δ,L,h1,h2,h3,h4,h5⟩:=d1S hdk hz;obtain⟨W,m,g1,gW,g2,g3⟩:=b9L h2;have nw:∀n∈ns,n∉W:=fun n hn hW=>c3Z hd hn (gW n hW);have hfn:∀n∈W,find δ.rs n=none:=fun n hn=>by
  grind
 have s1:a1Q W (i.looksAt ops) (δ.app dk Γ) Γ:=⟨rfl,fun n hn=>(a3O (hfn n hn)).symm,fun t ht=>by
  have htd:t≠dk:=fun e=>a1 (by simp_all);rw[b4N,if_neg htd]⟩
 have s2:b8T L Γ (a5M W m i.dst Γ):=⟨rfl,fun t ht=>by
  have htd:¬ i.dst=some t:=fun e=>a3 t e (h1 t ht).1;refine⟨?_,fun n hn=>b3N (nw n ((h1 t ht).2.2 n hn).2)⟩;rw[a4m,if_neg htd];exact g1.sv fun n hn=>nw n ((h1 t ht).2.2 n hn).2⟩
 rw[g3 Γ s1,h5 _ s2 fun n hn=>by grind[b3N],←g2];congr 1;refine AE.ext' (fun j=>?_) (fun n=>?_) rfl;simp[b4N,a4m]
 by_cases e1:j=dk
 subst e1;rw[if_pos rfl,if_neg a2,if_pos rfl];exact(g1.sv fun n hn=>nw n (h4 n hn)).symm;simp_all
 by_cases hW:n∈W
 simp_all[a3O,a5M];simp_all[b3N,Dl.app]
theorem d6R{ns ws:List Nat}(hd:disj ns ws=true)(hdi:i.dst=some di)(hap:k.apart ops i=true)
  (hz:a0S cx (.w ws) ops.toList k Γ (fun Γ1=>a0S cx (.r ns) ops.toList i Γ1 K)=some z):a0S cx (.r ns) ops.toList i Γ (fun Γ1=>a0S cx (.w ws) ops.toList k Γ1 K)=some z:=by
 obtain⟨a1,a2,a3⟩:=Oper.apart_spec hap;have a3:=a3 di hdi;have a2:¬ k.dst=some di:=fun e=>a2 di e hdi;obtain⟨W,m,g1,gW,g2,g3⟩:=b9L hz;obtain⟨δ,L,h1,h2,h3,h4,h5⟩:=d1S hdi g2;have nw:∀n∈ns,n∉W:=fun n hn hW=>c3Z hd hn (gW n hW);have hfn:∀n∈W,find δ.rs n=none:=fun n hn=>by
  grind
 have s1:b8T L (a5M W m k.dst Γ) Γ:=⟨rfl,fun t ht=>by
  have htd:¬ k.dst=some t:=fun e=>a1 t e (h1 t ht).1;have hal:=(h1 t ht).2.1;have hrf:=(h1 t ht).2.2;rw[a4m,if_neg htd]at hal hrf;refine⟨by rw[a4m,if_neg htd];exact(g1.sv' hal).symm,fun n hn=>?_⟩;rw[a4m,if_neg htd]at hn
  grind[b3N]⟩
 have s2:a1Q W (k.looksAt ops) Γ (δ.app di Γ):=⟨rfl,fun n hn=>a3O (hfn n hn),fun t ht=>by
  have htd:t≠di:=fun e=>a3 (by simp_all);rw[b4N,if_neg htd]⟩
 rw[h5 Γ s1 fun n hn=>by
  grind[b3N],g3 _ s2,←h2]
 congr 1;refine AE.ext' (fun j=>?_) (fun n=>?_) rfl;simp[b4N,a4m]
 by_cases e1:j=di
 subst e1;rw[if_neg a2,if_pos rfl,if_pos rfl];exact g1.sv fun n hn=>nw n (h4 n hn);simp_all
 by_cases hW:n∈W
 simp_all[a3O,a5M];simp_all[b3N,Dl.app]
theorem d9g{mk mi:Md}(hc:c4E mk mi=true)(hdk:mk.isW=true∨k.dst.isSome=true)(hdi:mi.isW=true∨i.dst.isSome=true)(hap:k.apart ops i=true)(hroots:∀t∈i.looksAt ops,∀n∈(Γ.sl t).refs,mi.reads n→Γ.rt n≠none)
  (hz:a0S cx mk ops.toList k Γ (fun Γ1=>a0S cx mi ops.toList i Γ1 K)=some z):a0S cx mi ops.toList i Γ (fun Γ1=>a0S cx mk ops.toList k Γ1 K)=some z:=by
 have qq:mk.quiet→mi.quiet→a0S cx mi ops.toList i Γ (fun Γ1=>a0S cx mk ops.toList k Γ1 K)=some z:=fun h1 h2=>by
  obtain⟨dk,hdk⟩:=a00.1 (hdk.resolve_left (by cases mk<;>first|(cases h1;done)|simp[Md.isW]))
  obtain⟨di,hdi⟩:=a00.1 (hdi.resolve_left (by cases mi<;>first|(cases h2;done)|simp[Md.isW]))
  exact d6J h1 h2 hdk hdi hap hroots hz
 cases mk with
 |x=>cases mi<;>cases hc
 |p=>
  cases mi with
  |x=>cases hc
  |a ws=>
   obtain⟨dk,hdk⟩:=a00.1 (hdk.resolve_left (by simp[Md.isW]));exact d6O hdk hap hz
  |w ws=>
   obtain⟨dk,hdk⟩:=a00.1 (hdk.resolve_left (by simp[Md.isW]));exact d6M hdk hap hz
  |_=>exact qq trivial trivial
 |a ws=>
  cases mi with
  |p=>
   obtain⟨di,hdi⟩:=a00.1 (hdi.resolve_left (by simp[Md.isW]));exact d6P hdi hap hz
  |_=>cases hc
 |v=>
  cases mi with
  |x=>cases hc
  |a ws=>cases hc
  |w ws=>
   obtain⟨dk,hdk⟩:=a00.1 (hdk.resolve_left (by simp[Md.isW]));exact d6K hdk hap hz
  |_=>exact qq trivial trivial
 |q=>
  cases mi with
  |x=>cases hc
  |a ws=>cases hc
  |w ws=>cases hc
  |_=>exact qq trivial trivial
 |r ns=>
  cases mi with
  |x=>cases hc
  |a ws=>cases hc
  |w ws=>
   obtain⟨dk,hdk⟩:=a00.1 (hdk.resolve_left (by simp[Md.isW]));exact d6Q hc hdk hap hz
  |_=>exact qq trivial trivial
 |w ws=>
  cases mi with
  |p=>
   obtain⟨di,hdi⟩:=a00.1 (hdi.resolve_left (by simp[Md.isW]));exact d6N hdi hap hz
  |v=>
   obtain⟨di,hdi⟩:=a00.1 (hdi.resolve_left (by simp[Md.isW]));exact d6L hdi hap hz
  |r ns=>
   obtain⟨di,hdi⟩:=a00.1 (hdi.resolve_left (by simp[Md.isW]));exact d6R hc hdi hap hz
  |_=>cases hc
end
end Go.Ab
namespace Go.Ab
theorem c3d(g:Nat→Nat)(k:Nat):∀(l:List Edge)(s:Nat),(l.foldl (fun s e=>if Region.binds .any e then s ||| 2^e.on ||| g e.on else s) s).testBit k=true→
  s.testBit k=true∨∃e∈l,Region.binds .any e=true∧(e.on=k∨(g e.on).testBit k=true)
 | [],s,h=>.inl h
 |e::l,s,h=>by
  rcases c3d g k l _ h with h|⟨e',he',h'⟩
  all_goals grind
def d1X(ops:List Oper)(b:List Nat):Prop:=∀j k,j<b.length→(b.getD j 0).testBit k=true→
 ∃e∈(ops.getD j default).after.toList,Region.binds .any e=true∧(e.on=k∨(b.getD e.on 0).testBit k=true)
theorem c7f(all:List Oper):∀(r:List Oper)(acc:List Nat),(∀j,r[j]?=all[acc.length+j]?)→d1X all acc→d1X all (c6f r acc)∧(c6f r acc).length=acc.length+r.length
 | [],acc,_,h=>⟨h,by rfl⟩
 |o::r,acc,hr,h=>by
  simp only[c6f];have h0:all.getD acc.length default=o:=by
   have:=hr 0
   grind
  have ⟨a,b⟩:=c7f all r (acc++[o.after.toList.foldl (fun s e=>if Region.binds .any e then s ||| 2^e.on ||| acc.getD e.on 0 else s) 0]) (fun j=>by
    have:=hr (j+1)
    grind) (fun j k hj hb=>by
   have up:∀m,(acc.getD m 0).testBit k=true→((acc++[o.after.toList.foldl (fun s e=>if Region.binds .any e then s ||| 2^e.on ||| acc.getD e.on 0 else s) 0]).getD m 0).testBit k=true:=fun m hm=>by
    grind
   by_cases hlt:j<acc.length
   rw[lD,List.getElem?_append_left hlt,←lD]at hb;obtain⟨e,he,h1,h2⟩:=h j k hlt hb
   grind
   ·have hj':j=acc.length:=by grind
    subst hj';rw[lD,a32 (a19 _)]at hb;simp only[Nat.sub_self,a24,a36]at hb;rcases c3d (fun m=>acc.getD m 0) k _ _ hb with h'|⟨e,he,h1,h2⟩
    all_goals grind)
  grind
section
variable {P:Program} {B:Base} {N:Nat} {cx:Cx} {ro:Option Nat} {D:List Deferred}
theorem d7p{ρ:Type}{ops:Array Oper}{mi:Md}{i:Oper}{z:ρ}(l2:List (Md×Oper)):∀(l1:List (Md×Oper)) {Γ:AE} {K:AE→Rs ρ},
  (∀p∈l1,c4E p.1 mi=true∧p.2.apart ops i=true∧(p.1.isW=true∨p.2.dst.isSome=true)∧(mi.isW=true∨i.dst.isSome=true))→(∀t∈i.looksAt ops,∀n∈(Γ.sl t).refs,mi.reads n→Γ.rt n≠none)→
  a7E cx ops.toList (l1++(mi,i)::l2) Γ K=some z→a0S cx mi ops.toList i Γ (fun Γ1=>a7E cx ops.toList (l1++l2) Γ1 K)=some z
 | [],Γ,K,_,_,hz=>hz
 |(mk,k)::l1,Γ,K,hall,hroots,hz=>by
  obtain⟨hc,hap,hdk,hdi⟩:=hall (mk,k) (by simp);have hz:a0S cx mk ops.toList k Γ (fun Γ1=>a7E cx ops.toList (l1++(mi,i)::l2) Γ1 K)=some z:=hz;have ih:∀Γ1,(∀t∈i.looksAt ops,∀n∈(Γ1.sl t).refs,mi.reads n→Γ1.rt n≠none)→a7E cx ops.toList (l1++(mi,i)::l2) Γ1 K=some z→a0S cx mi ops.toList i Γ1 (fun Γ2=>a7E cx ops.toList (l1++l2) Γ2 K)=some z:=
   fun Γ1 hr h=>d7p l2 l1 (fun p hp=>hall p (by grind)) hr h
  refine d9g hc hdk hdi hap hroots ?_
  obtain⟨a1,-,-⟩:=Oper.apart_spec hap;have vq:mk.quiet→a0S cx mk ops.toList k Γ (fun Γ1=>a0S cx mi ops.toList i Γ1 fun Γ2=>a7E cx ops.toList (l1++l2) Γ2 K)=some z:=fun hm=>by
   obtain⟨dk,hdk⟩:=a00.1 (hdk.resolve_left (by cases mk<;>first|(cases hm;done)|simp[Md.isW]))
   have a1:=a1 dk hdk;obtain⟨δ,L,h1,h2,h3,h4⟩:=c8V hm hdk hz;rw[h4 Γ ⟨rfl,fun _ _=>⟨rfl,fun _ _ _=>rfl⟩⟩ h3];refine ih _ (fun t ht n hn hq=>?_) h2;rw[b4N,if_neg (fun e=>a1 (by simp_all))]at hn
   grind[c1x]
  cases mk with
  |v=>exact vq trivial
  |p=>exact vq trivial
  |a ws=>
   obtain⟨W,m,h1,hW,h2,h3⟩:=d1W hz;rw[h3 Γ a1Q.refl];refine ih _ (fun t ht n hn hq=>?_) h2;cases mi with
   |p=>cases hq
   |_=>cases hc
  |q=>exact vq trivial
  |r ns=>exact vq trivial
  |w ws=>
   obtain⟨W,m,h1,hW,h2,h3⟩:=b9L hz;rw[h3 Γ a1Q.refl];refine ih _ (fun t ht n hn hq=>?_) h2;have htd:¬ k.dst=some t:=fun e=>a1 t e ht;rw[a4m,if_neg htd]at hn;have hn:=h1.refs hn;cases mi with
   |v=>cases hq
   |p=>cases hq
   |r ns=>
    have hnw:n∉W:=fun hw=>c3Z hc hq (hW n hw)
    grind[b3N]
   |_=>cases hc
  |x=>cases mi<;>cases hc
def a2Y(n:Nat)(listed:Array Bool):List Nat:=(a25 n).filter fun i=>!listed.getD i true
def c1y(ops:Array Oper)(ms:List Md)(i:Nat):Md×Oper:=(ms.getD i .x,ops.getD i default)
structure DrawOk (ops:Array Oper) (ms:List Md) (b:List Nat):Prop where
 len:ms.length=ops.size
 good:d1X ops.toList b
 lb:b.length=ops.size
 back:∀j e,j<ops.size→e∈(ops.getD j default).after.toList→Region.binds .any e=true→e.on<j
 pair:∀i j,i<j→j<ops.size→(b.getD j 0).testBit i=true∨(c4E (ms.getD i .x) (ms.getD j .x)=true∧(ops.getD i default).apart ops (ops.getD j default)=true∧((ms.getD i .x).isW=true∨(ops.getD i default).dst.isSome=true)∧((ms.getD j .x).isW=true∨(ops.getD j default).dst.isSome=true))
theorem d0v{ops:Array Oper}{ms:List Md}(h:c4F ops ms=true):DrawOk ops ms (c6f ops.toList []):=by
 simp only[c4F,bA,dT,lA,a30]at h;obtain⟨h1,h2⟩:=h;obtain⟨g1,g2⟩:=c7f ops.toList ops.toList [] (fun j=>by simp) (fun j k hj=>by simp);refine⟨h1,g1,by simp_all,fun j e hj he hb=>?_,fun i j hij hj=>?_⟩
 all_goals grind
theorem c5a{n:Nat}{listed:Array Bool}{i:Nat}(hs:listed.size=n)(hi:i∈a2Y n listed):∃l1 l2,a2Y n listed=l1++i::l2∧a2Y n (listed.setIfInBounds i true)=l1++l2∧∀k∈l1,k<i∧k∈a2Y n listed:=by
 have hin:i<n:=by
  simp_all[a2Y]
 have hni:listed.getD i true=false:=by
  simp_all[a2Y]
 have hsplit:a25 n=a25 i++i::(a33 (i+1) (n-i-1)):=by
  rw[a21,a21,show n=i+(1+(n-i-1))from by omega,←a43,←a43]
  simp
 have hne:∀j,j≠i→(listed.setIfInBounds i true).getD j true=listed.getD j true:=fun j hj=>by
  simp_all[Ne.symm]
 refine⟨(a25 i).filter fun i=>!listed.getD i true,(a33 (i+1) (n-i-1)).filter fun i=>!listed.getD i true,?_,?_,fun k hk=>?_⟩;simp_all[a2Y]
 ·simp only[a2Y];rw[hsplit,List.filter_append,List.filter_cons,if_neg (by
   simp)]
  congr 1
  all_goals grind[a50]
 simp_all[a2Y]
theorem d4X(hcx:CxOk P cx)(hG:GOk cx.G B){ρ:Type}{ops:Array Oper}{ms:List Md}{b:List Nat}(hok:DrawOk ops ms b){K:AE→Rs ρ}{z:ρ}{Q:Exit→Act→World→Prop}(hf:∀o∈ops.toList,a9N N ops.toList o=true)
  (hQ:∀a' w' Γ' σ',Rel B Γ' N (a0p a') w' σ'→a'.tmps.size=N→a'.defers=D→K Γ'=some z→Q .normal a' w'):
  ∀(fuel:Nat)(listed:Array Bool){Γ:AE}{a:Act}{w:World}{σ:Gh},listed.size=ops.size→(a2Y ops.size listed).length=fuel→
   (∀j k,j<ops.size→listed.getD j true=true→(b.getD j 0).testBit k=true→listed.getD k true=true)→
   Rel B Γ N (a0p a) w σ→a.tmps.size=N→a.defers=D→a7E cx ops.toList ((a2Y ops.size listed).map (c1y ops ms)) Γ K=some z→wpAnyIn (Fr ro) 0 P .any ops Q fuel listed a w:=by
 intro fuel;have hrest:∀listed i,i∈Region.ready .any ops listed→i∈a2Y ops.size listed∧∀e∈(ops.getD i default).after.toList,Region.binds .any e=true→listed.getD e.on false=true:=by
  intro listed i hi;simp only[Region.ready,a37,a30,bA]at hi;refine⟨by simp_all[a2Y],fun e he hb=>?_⟩;have h3:=hi.2.2;have hget:ops[i]?=some (ops.getD i default):=by
   simp_all
  rw[hget]at h3;simp only[a55,a36]at h3;rw[←a54]at h3
  grind
 have hdone:∀(listed:Array Bool),a2Y ops.size listed=[]→Region.ready .any ops listed=[]:=fun listed h=>by
  refine List.eq_nil_iff_forall_not_mem.2 fun i hi=>?_
  grind
 induction fuel with
 |zero=>
  intro listed Γ a w σ hs hl hcl hr hN hD hz;have h0:=List.eq_nil_of_length_eq_zero hl;rw[h0]at hz;exact⟨hdone listed h0,hQ a w Γ σ hr hN hD hz⟩
 |succ fuel ih=>
  intro listed Γ a w σ hs hl hcl hr hN hD hz;refine⟨fun hnil=>?_,fun i hi=>?_⟩
  ·
   exfalso
   cases hR:a2Y ops.size listed with
   |nil=>simp_all
   |cons i R=>
    have hiR:i∈a2Y ops.size listed:=by simp_all
    have hi:=hiR;simp only[a2Y,a37,a30]at hi
    have:i∈Region.ready .any ops listed:=by
     simp only[Region.ready,a37,a30,bA];refine⟨hi.1,hi.2,?_⟩;have hget:ops[i]?=some (ops.getD i default):=by
      simp_all
     rw[hget];simp only[a55,a36];rw[←a54];refine lA.2 fun e he=>?_
     by_cases hb:Region.binds .any e=true
     ·have hlt:=hok.back i e hi.1 he hb;have hlist:listed.getD e.on true=true:=by
       cases hv:listed.getD e.on true with
       |true=>rfl
       |false=>
        obtain⟨l1,l2,g1,-,g3⟩:=c5a (n:=ops.size) hs (i:=e.on) (by grind[a2Y]);have hord:(a2Y ops.size listed).Pairwise (·<·):=List.Pairwise.filter _ List.pairwise_lt_range
        grind[List.pairwise_cons]
      grind
     simp_all
    simp_all
  ·obtain⟨hiR,hdeps⟩:=hrest listed i hi;obtain⟨l1,l2,g1,g2,g3⟩:=c5a hs hiR;have hin:i<ops.size:=by grind
   have hget:ops[i]?=some (ops.getD i default):=by
    simp_all
   have hmem:ops.getD i default∈ops.toList:=by
    simp_all
   have hfit:=hf _ hmem;have tr:∀k,listed.getD k false=true→listed.getD k true=true:=fun k hk=>by
    grind
   have hbef:∀k,(b.getD i 0).testBit k=true→listed.getD k true=true:=fun k hk=>by
    obtain⟨e,he,h1,h2⟩:=hok.good i k (by grind) hk
    grind
   rw[g1,pA,List.map_cons]at hz;have hpull:=d7p (cx:=cx) (mi:=ms.getD i .x) (i:=ops.getD i default) (l2.map (c1y ops ms)) (l1.map (c1y ops ms)) (fun p hp=>by
     obtain⟨k,hk,rfl⟩:=a17.1 hp;obtain⟨hki,hkR⟩:=g3 k hk;rcases hok.pair k i hki hin with h|h
     grind[a2Y]
     exact h) (fun t ht n hn _=>by
     have htN:t<N:=by
      simp only[Oper.looksAt,mA]at ht;rcases ht with ht|ht;obtain⟨x,hx,hxt⟩:=a23.1 ht
      have:=a0X (b8j hfit) x hx
      grind[a1u]
      ·cases hg:(ops.getD i default).guard with
       |none=>grind
       |some p=>
        obtain⟨j,want⟩:=p;rw[hg]at ht;simp at ht;have hdst:b1r ops.toList j=some t:=by simpa[b1r]using ht
        simp only[a9N,hg,hdst,bA,dT]at hfit
        grind
     have hs:=hr.slots t htN
     revert hs hn
     generalize Γ.sl t=sv;intro hn hs;have one:∀(av:AV)(v:Value),a0j (a0a w σ.ov) σ.g Γ.rt (Shr B w σ) av v→n∈av.refs→Γ.rt n≠none:=fun av v ha hn=>by
      cases av with
      |ptr m p=>obtain⟨r,t,b,o,h1,-⟩:=ha;grind[AV.refs]
      |sref m p=>obtain⟨r,e,s,h1,-⟩:=ha;grind[AV.refs]
      |swin m p o l=>obtain⟨r,e,s,_,_,_,h1,-⟩:=ha;grind[AV.refs]
      |_=>cases hn
     cases sv with
     |one av=>exact one av _ hs hn
     |cmp c vs=>
      obtain⟨us,-,h2⟩:=hs;simp[SV.refs]at hn;obtain⟨av,hav,hn⟩:=hn;obtain⟨k,hk⟩:=a40.1 hav
      grind) hz
   have hstep:=d1b (ro:=ro) (next:=wpAnyIn (Fr ro) 0 P .any ops Q fuel (listed.setIfInBounds i true)) (Q:=Q) hcx hG hr hN hfit hpull fun v w' Γ' σ' hr' hK=>by
    refine ih (listed.setIfInBounds i true) (by grind) ?_ ?_ hr' (by rw[b6g];omega) (by grind[b5I]) ?_
    grind
    intro j k hj hlj hbk;have up:∀m,listed.getD m true=true→(listed.setIfInBounds i true).getD m true=true:=fun m hm=>by
     by_cases e:m=i
     subst e
     simp
     simp at hm⊢
     grind
    by_cases e:j=i
    grind
    refine up k (hcl j k hj ?_ hbk);simp at hlj⊢
    grind
    grind
   unfold wpOpIn
   grind
theorem d4Y{ρ:Type}{Γ:AE}{a:Act}{w:World}{σ:Gh}(hcx:CxOk P cx)(hG:GOk cx.G B)(hm:P.follows .mixedOrders=true){ops:Array Oper}{id:Nat}{ms:List Md}{K:AE→Rs ρ}{z:ρ}{Q:Exit→Act→World→Prop}
  (h:Rel B Γ N (a0p a) w σ)(hN:a.tmps.size=N)(hD:a.defers=D)(hf:∀o∈ops.toList,a9N N ops.toList o=true)(hok:c4F ops ms=true)(hz:a7E cx ops.toList (ms.zip ops.toList) Γ K=some z)
  (hQ:∀a' w' Γ' σ',Rel B Γ' N (a0p a') w' σ'→a'.tmps.size=N→a'.defers=D→K Γ'=some z→Q .normal a' w'):(Code.region id ops true).wpIn (Fr ro) 0 P Q a w:=by
 refine wpIn_region_any hm ?_
 have hok':=d0v hok;have hdrawn:Rel B Γ N (a0p a) { w with drawn:=w.drawn+1 } σ:=h.ext (fun _ _=>rfl) (a19 _);have hgetD:∀i,i<ops.size→(a29 ops.size false).getD i true=false:=fun i hi=>by
  simp_all
 have hall:a2Y ops.size (a29 ops.size false)=a25 ops.size:=by
  simp_all[a2Y]
 refine d4X hcx hG hok' hf hQ ops.size _ (by simp) (by simp_all) (fun j k hj hl _=>by simp_all) hdrawn hN hD ?_
 rw[hall];rw[show(a25 ops.size).map (c1y ops ms)=ms.zip ops.toList from ?_];omega;refine a51 fun i=>?_
 rw[a52]
 by_cases hi:i<ops.size
 have h1:i<ms.length:=by rw[hok'.len];omega
 have h2:i<ops.toList.length:=by omega
 rw[List.getElem?_range hi,lG (by grind)];simp_all[c1y]
 grind
end
end Go.Ab
namespace Go.Ab
def c1z:Ex→Exit
 |.normal=>.normal
 |.exit i=>.exit i
 |.ret=>.ret
def d5T{ρ:Type}(B:Base)(N:Nat)(D:List Deferred)(K:Ex→AE→Rs ρ)(z:ρ):Exit→Act→World→Prop:=fun e a w=>
 ∃ex Γ σ,e=c1z ex∧K ex Γ=some z∧Rel B Γ N (a0p a) w σ∧a.tmps.size=N∧a.defers=D
def a2u(N:Nat):Code→Bool
 |.region _ ops _=>ops.toList.all (a9N N ops.toList)
 |.seq a b=>a2u N a&&a2u N b
 |.cond c a b=>a1u N c&&(a2u N a&&a2u N b)
 |.block _ c|.loop c=>a2u N c
 |_=>true
def Hints.fits(N:Nat)(H:Hints):Bool:=
 H.loops.all (fun p=>p.2.1.fits N&&p.2.2.all (fun q=>q.2.fits N))&&H.cuts.all (fun p=>p.2.all (fun q=>q.2.fits N))
theorem c4a{α:Type}:∀{l:List (Nat×α)} {n:Nat} {x:α},find l n=some x→∃k,(k,x)∈l
 |(k,y)::r,n,x,h=>by
  simp[find]at h;rcases a0i h with⟨-,h⟩|⟨-,h⟩;simp only[sj]at h;exact⟨k,by simp[h]⟩;obtain⟨k',hk⟩:=c4a h;exact⟨k',a02 _ hk⟩
section
variable {P:Program} {B:Base} {N:Nat} {cx:Cx} {H:Hints} {ro:Option Nat} {D:List Deferred}
theorem c5b{Q:Exit→Act→World→Prop}{a:Act}{w:World}{c:Code}(I:Nat→Act→World→Prop)(n₀:Nat)(h₀:I n₀ a w)
  (round:∀n a w,I n a w→c.wpIn (Fr ro) 0 P (Exit.then (fun a' w'=>∃m,m<n∧I m a' w') Q) a w):(Code.loop c).wpIn (Fr ro) 0 P Q a w:=by
 classical
 have least:∀a w,(∃n,I n a w)→∃n,I n a w∧∀m,I m a w→n≤m:=by
  intro a w ⟨n,hn⟩
  induction n using Nat.strongRecOn with
  |_ n ih=>
   grind
 let μ:Act→World→Nat:=fun a w=>if h:∃n,I n a w then(least a w h).choose else 0
 refine wpIn_loop (fun a w=>∃n,I n a w) μ ⟨n₀,h₀⟩ fun a w hI=>?_
 have hs:=(least a w hI).choose_spec;refine wpIn_mono (round _ a w hs.1) fun e a' w' he=>?_
 cases e with
 |normal=>
  obtain⟨m,hm,hi⟩:=he;refine⟨⟨m,hi⟩,?_⟩;have h':∃n,I n a' w':=⟨m,hi⟩
  grind
 |_=>exact he
theorem b1e(hcx:CxOk P cx)(hG:GOk cx.G B)(hm:P.follows .mixedOrders=true)(hH:H.fits N=true):∀(c:Code) (p:Nat){ρ:Type}{Γ:AE}{K:Ex→AE→Rs ρ}{z:ρ}{a:Act}{w:World}{σ:Gh}(_:a2u N c=true)
  (_:a1S cx H c p Γ K=some z) (_:Rel B Γ N (a0p a) w σ) (_:a.tmps.size=N) (_:a.defers=D),c.wpIn (Fr ro) 0 P (d5T B N D K z) a w:=by
 intro c;have hloop:∀p s os,find H.loops p=some (s,os)→s.fits N=true∧os.all (fun q=>q.2.fits N)=true:=fun p s os h=>by
  obtain⟨k,hk⟩:=c4a h;simp only[Hints.fits,bA]at hH
  grind
 have hcut:∀p os,find H.cuts p=some os→os.all (fun q=>q.2.fits N)=true:=fun p os h=>by
  obtain⟨k,hk⟩:=c4a h;simp only[Hints.fits,bA]at hH
  grind
 induction c with
 |skip=>intro p ρ Γ K z a w σ hf hz h hN hD;exact wpIn_skip ⟨.normal,Γ,σ,rfl,by simp_all[a1S],h,hN,hD⟩
 |region rid ops draw=>
  intro p ρ Γ K z a w σ hf hz h hN hD;simp[a1S]at hz;have hfit:∀o∈ops.toList,a9N N ops.toList o=true:=fun o ho=>lA.1 hf o ho;cases draw with
  |false=>
   simp at hz;refine wpIn_region_list ?_
   have:=d1c (Q:=d5T B N D K z) (ro:=ro) (D:=D) hcx hG (ops:=ops) (ops.toList.map fun o=>(Md.x,o)) h hN hD (fun q hq=>by
    grind) hz (fun a' w' Γ' σ' hr hN' hD' hK=>⟨.normal,Γ',σ',rfl,hK,hr,hN',hD'⟩)
   rwa [a46,show((fun x:Md×Oper=>x.2)∘fun o=>(Md.x,o))=_root_.id from rfl,a31]at this
  |true=>
   simp at hz
   split at hz
   rename_i ms hms;obtain⟨hok,hz⟩:=(a0i hz).elim id fun h=>by grind
   exact d4Y hcx hG hm h hN hD hfit hok hz fun a' w' Γ' σ' hr hN' hD' hK=>⟨.normal,Γ',σ',rfl,hK,hr,hN',hD'⟩;simp_all
 |seq x y ihx ihy=>
  intro p ρ Γ K z a w σ hf hz h hN hD;simp[a2u]at hf;simp[a1S]at hz;refine wpIn_seq ?_
  split at hz
  ·refine wpIn_mono (ihx _ hf.1 hz h hN hD) ?_
   rintro e a' w' ⟨ex,Γ',σ',rfl,hK,hr,hN',hD'⟩
   cases ex with
   |normal=>exact ihy _ hf.2 hK hr hN' hD'
   |exit i=>exact⟨.exit i,Γ',σ',rfl,hK,hr,hN',hD'⟩
   |ret=>exact⟨.ret,Γ',σ',rfl,hK,hr,hN',hD'⟩
  ·rename_i os hos;obtain⟨y0,h1,h2⟩:=a08.1 hz;refine wpIn_mono (ihx _ hf.1 h1 h hN hD) ?_
   rintro e a' w' ⟨ex,Γ',σ',rfl,hK,hr,hN',hD'⟩
   obtain⟨y1,X,σ2,k1,k2,k3⟩:=b0o os hr (hcut _ _ hos) hK;simp at k1;subst k1;rw[k3]at h2;cases ex with
   |normal=>exact ihy _ hf.2 h2 k2 hN' hD'
   |exit i=>exact⟨.exit i,X,σ2,rfl,h2,k2,hN',hD'⟩
   |ret=>exact⟨.ret,X,σ2,rfl,h2,k2,hN',hD'⟩
 |cond c x y ihx ihy=>
  intro p ρ Γ K z a w σ hf hz h hN hD;simp[a2u]at hf;simp[a1S]at hz
  split at hz
  ·rename_i t ht;have hc:=h.opd hf.1;rw[ht]at hc;have hc:=a0j.bool hc;rcases a0i hz with⟨rfl,hz⟩|⟨rfl,hz⟩
   all_goals grind[wpIn_cond_true,wpIn_cond_false]
  simp_all
 |block id c ih=>
  intro p ρ Γ K z a w σ hf hz h hN hD;simp[a1S]at hz;refine wpIn_block (wpIn_mono (ih _ hf hz h hN hD) ?_)
  rintro e a' w' ⟨ex,Γ',σ',rfl,hK,hr,hN',hD'⟩
  cases ex with
  |normal=>exact⟨.normal,Γ',σ',rfl,hK,hr,hN',hD'⟩
  |exit i=>
   simp[c1z,Exit.inBlock];rcases a0i hK with⟨hi,hK⟩|⟨hi,hK⟩;rw[if_pos (by simp_all)];exact⟨.normal,Γ',σ',rfl,hK,hr,hN',hD'⟩;rw[if_neg (by simp_all)];exact⟨.exit i,Γ',σ',rfl,hK,hr,hN',hD'⟩
  |ret=>exact⟨.ret,Γ',σ',rfl,hK,hr,hN',hD'⟩
 |loop c ih=>
  intro p ρ Γ K z a w σ hf hz h hN hD;simp[a1S]at hz
  split at hz
  grind
  ·rename_i s os hso;obtain⟨hs,hos⟩:=hloop _ _ _ hso;obtain⟨x0,σ0,h1,h2⟩:=h.dcd hs hz;obtain⟨y,hy,hK⟩:=a08.1 h1;obtain⟨n0,hn0⟩:=d3I hy;refine c5b (fun n a w=>∃x σ,a3N _ n x=some y∧Rel B (s.enc x) N (a0p a) w σ∧a.tmps.size=N∧a.defers=D) n0 ⟨x0,σ0,hn0,h2,hN,hD⟩ ?_
   rintro n a w ⟨x,σ,hn,hr,hN',hD'⟩
   cases n with
   |zero=>simp_all[a3N]
   |succ n=>
    simp[a3N]at hn
    split at hn
    grind
    ·rename_i x' hx';refine wpIn_mono (ih _ hf hx' hr hN' hD') ?_
     rintro e a' w' ⟨ex,Γ',σ',rfl,hK',hr',hN2,hD2⟩
     cases ex with
     |normal=>
      simp at hK';obtain⟨x2,σ2,k1,k2⟩:=hr'.dcd hs hK';simp at k1;subst k1;exact⟨n,Nat.lt_succ_self n,x2,σ2,hn,k2,hN2,hD2⟩
     |exit i=>
      grind[b0o]
     |ret=>
      grind[b0o]
    ·rename_i b hb;simp at hn;subst hn;refine wpIn_mono (ih _ hf hb hr hN' hD') ?_
     rintro e a' w' ⟨ex,Γ',σ',rfl,hK',hr',hN2,hD2⟩
     cases ex with
     |normal=>
      simp at hK';obtain⟨x2,σ2,k1,k2⟩:=hr'.dcd hs hK'
      grind
     |exit i=>
      obtain⟨y1,X,σ2,k1,k2,k3⟩:=b0o os hr' hos hK';simp at k1;subst k1;rw[k3]at hK;exact⟨.exit i,X,σ2,rfl,hK,k2,hN2,hD2⟩
     |ret=>
      obtain⟨y1,X,σ2,k1,k2,k3⟩:=b0o os hr' hos hK';simp at k1;subst k1;rw[k3]at hK;exact⟨.ret,X,σ2,rfl,hK,k2,hN2,hD2⟩
 |exit id=>intro p ρ Γ K z a w σ hf hz h hN hD;exact wpIn_exit ⟨.exit id,Γ,σ,rfl,by simp_all[a1S],h,hN,hD⟩
 |ret=>intro p ρ Γ K z a w σ hf hz h hN hD;exact wpIn_ret ⟨.ret,Γ,σ,rfl,by simp_all[a1S],h,hN,hD⟩
 |_=>intro p ρ Γ K z a w σ hf hz h hN hD;simp only[a1S]at hz;cases hz
end
end Go.Ab
namespace Go.Ab
theorem c8X{α:Type}{P:Program}{w:World}{f:α→Sem Value}:∀(l:List α)(us:List Value),us.length=l.length→(∀(k:Nat) x u,l[k]?=some x→us[k]?=some u→(f x).run P w=.ok u w)→(l.mapM f).run P w=.ok us w
 | [],us,hl,_=>by
  simp_all
 |x::l,[],hl,_=>by simp_all
 |x::l,u::us,hl,h=>by
  have h1:=h 0 x u rfl rfl;have h2:=c8X l us (by simpa using hl) (fun k y v hy hv=>h (k+1) y v (by simpa using hy) (by simpa using hv));simp[List.mapM_cons,h1,h2,Result.andThen]
def a3a(tk:List Nat)(Γ Γ':AE):Prop:=
 (∀i av,Γ.get i=av→(av.firm=true∨∃n∈tk,av=.sref n []∨av=.ptr n [])→Γ'.get i=av)∧∀n∈tk,Γ'.rt n=Γ.rt n
theorem a3a.refl{tk Γ}:a3a tk Γ Γ:=⟨fun _ _ h _=>h,fun _ _=>rfl⟩
theorem a3a.trans{tk tk' Γ Γ' Γ''}(h:a3a tk Γ Γ')(h':a3a tk' Γ' Γ'')(hs:∀n∈tk,n∈tk'):a3a tk Γ Γ'':=
 ⟨fun i av hi ho=>h'.1 i av (h.1 i av hi ho) (ho.imp id fun⟨n,hn,e⟩=>⟨n,hs n hn,e⟩),fun n hn=>(h'.2 n (hs n hn)).trans (h.2 n hn)⟩
theorem a3a.gone{tk:List Nat}{Γ:AE}{n:Nat}(hn:n∉tk)(f:AV→AV)(hf:∀av:AV,(av.firm=true∨∃m,m≠n∧(av=.sref m []∨av=.ptr m []))→f av=av):a3a tk Γ ((Γ.mapv f).setRt n none):=by
 refine⟨fun i av hi ho=>?_,fun m hm=>?_⟩
 grind[AE.get,AE.setRt,AE.mapv,SV.mapv]
 have:(m==n)=false:=by
  grind
 simp[AE.setRt,AE.mapv,this]
theorem a3a.set{tk:List Nat}{Γ Γ':AE}(h:a3a tk Γ Γ'){j:Nat}{av:AV}(hj:Γ.get j=.dead):a3a tk Γ (Γ'.set j av):=by
 refine⟨fun i v hi ho=>?_,fun n hn=>h.2 n hn⟩;have hij:i≠j:=by
  rintro rfl
  rw[hj]at hi;subst hi;rcases ho with ho|⟨m,-,e|e⟩;cases ho
  all_goals simp_all
 have:=h.1 i v hi ho
 simp_all[AE.get,a2I]
def c5c(tk tk':List Nat)(Γ:AE)(av:AV):((r:RA)×r.ty.den)→Prop
 |⟨.v t,x⟩=>av=.val t x∧tk'=tk
 |⟨.o e,x⟩=>(∃n,av=.sref n []∧n∉tk∧tk'=n::tk∧Γ.rt n=some ⟨false,.list true e,x⟩)∨((av=.nils∨av=.empt)∧x=[]∧tk'=tk)
 |⟨.b t,x⟩=>∃n,av=.ptr n []∧n∉tk∧tk'=n::tk∧Γ.rt n=some ⟨true,t,x⟩
def a7G(a:Nat→Value):ResultVar→Sem Value
 |.tmp t=>pure (a t)
 |.cell i t=>do loadVar t (←asAddr (a i))
def b1z(N0:Nat):ResultVar ⊕ Option Nat→Bool
 |.inl (.tmp i)=>decide (i<N0)
 |.inl (.cell i _)=>decide (i<N0)
 |.inr _=>true
def b6q(P:Program)(B:Base)(w:World)(tm:Nat→Value)(u:Value):ResultVar ⊕ Option Nat→Prop
 |.inl r=>(a7G tm r).run P w=.ok u w
 |.inr none=>u=.slice none 0 0
 |.inr (some n)=>∀i b,n=pinned+i→B.pin i=some b→c1n b u
section
variable {P:Program} {B:Base} {N:Nat} {w:World} {cx:Cx} {ρ:Type}
theorem c7g(hcx:CxTy P cx){tm:Nat→Value}{N0:Nat}(hN0:N0≤N){Γ:AE}{σ:Gh}(h:Rel B Γ N tm w σ)(hpd:Γ.pd=none){tk:List Nat}{j:Nat}{r:RA}{v:ResultVar ⊕ Option Nat}(hv:b1z N0 v=true)
  {K:r.ty.den→AE→List Nat→Rs ρ}{z:ρ}(hz:Γ.out cx tk j r v K=some z):
  ∃x Γ1 σ1 tk1 av u,K x (Γ1.set j av) tk1=some z∧Rel B Γ1 N tm w σ1∧Γ1.pd=none∧a0j (a0a w σ1.ov) σ1.g Γ1.rt (Shr B w σ1) av u∧b6q P B w tm u v∧c5c tk tk1 Γ1 av ⟨r,x⟩∧a3a tk Γ Γ1∧
   ∀i,Γ.get i=.dead→Γ1.get i=.dead:=by
 have dead_gone:∀(Γ:AE)(n:Nat)(f:AV→AV),f .dead=.dead→∀i,Γ.get i=.dead→((Γ.mapv f).setRt n none).get i=.dead:=fun Γ n f hf i hi=>by
  grind[AE.get,AE.setRt,AE.mapv,SV.mapv]
 cases r with
 |v t=>
  cases v with
  |inr n=>simp_all[AE.out]
  |inl rv=>
   cases rv with
   |tmp i=>
    simp[b1z]at hv;simp[AE.out]at hz;rcases a0i hz with⟨-,g⟩|⟨hvw,hz⟩
    grind
    have hnt:∀n∈(Γ.get i).viewed,n∉tk:=fun n hn hu=>by
     simp_all
    have ha:=a3T h (a03 hv hN0);have key:∃x Γ1 σ1,K x (Γ1.set j (.val t x)) tk=some z∧Rel B Γ1 N tm w σ1∧VOk (a0a w σ1.ov) (Shr B w σ1) t x (tm i)∧Γ1.pd=Γ.pd∧a3a tk Γ Γ1∧∀i,Γ.get i=.dead→Γ1.get i=.dead:=by

     let K':t.den→AE→Rs ρ:=fun x Γ'=>K x (Γ'.set j (.val t x)) tk
     cases hg:Γ.get i with
     |glob g=>
      simp_all[AE.asV]
     |val t' x=>
      rw[hg]at hz ha;simp[AE.asV]at hz
      split at hz
      rename_i x2 hx2;exact⟨x2,Γ,σ,hz,h,VOk.castTo hx2 ha,rfl,a3a.refl,fun _ g=>g⟩;simp_all
     |nils=>
      rw[hg]at hz ha;cases t with
      |list o e=>
       cases o with
       |false=>
        obtain ha:tm i=_:=ha;exact⟨[],Γ,σ,hz,h,by rw[ha];exact VOk.empty,rfl,a3a.refl,fun _ g=>g⟩
       |true=>simp_all[AE.asV]
      |_=>simp only[AE.asV]at hz;cases hz
     |empt=>
      rw[hg]at hz ha;cases t with
      |list o e=>
       cases o with
       |false=>
        obtain⟨A,ha⟩:=ha;exact⟨[],Γ,σ,hz,h,by rw[ha];exact VOk.empty,rfl,a3a.refl,fun _ g=>g⟩
       |true=>simp_all[AE.asV]
      |_=>simp only[AE.asV]at hz;cases hz
     |sref n p=>
      rw[hg]at hz ha hnt;cases p with
      |cons=>simp_all[AE.asV]
      |nil=>
       simp[AE.asV]at hz
       split at hz
       ·rename_i e l hr;obtain⟨hpd',hr⟩:=a0N hr
        split at hz
        ·rename_i ht;subst ht;have hv':=h.sref_vok ha hr rfl;refine⟨_,_,_,hz,h.frz hr (by simp_all),hv'.frame (fun _ _ _=>rfl) (fun c hc=>?_),rfl,a3a.gone (hnt n (by simp[AV.viewed])) _ ?_,dead_gone Γ n _ rfl⟩;rcases hc with g|g;exact Rel.shr_gone c g;have hown:a0P σ c:=⟨n,g⟩;refine⟨h.lt hown,.inr (h.mine c hown),fun⟨m,hm⟩=>?_⟩;have hm:c∈(if m=n then[]else σ.ow m).map (·.1):=hm
         split at hm
         simp_all;rename_i hmn;exact h.disj m n hmn c hm g
         ·rintro av (g|⟨m,hm,rfl|rfl⟩)
          cases av<;>first|rfl|cases g
          all_goals simp_all[AV.frz]
        simp_all
       simp_all
     |swin n p o k=>
      rw[hg]at hz ha hnt;cases p with
      |cons=>simp_all[AE.asV]
      |nil=>
       simp[AE.asV]at hz
       split at hz
       ·rename_i e l hr;obtain⟨hpd',hr⟩:=a0N hr
        split at hz
        ·rename_i ht;subst ht;have hv':=h.swin_vok ha hr rfl;refine⟨_,_,_,hz,h.frz hr (by simp_all),hv'.frame (fun _ _ _=>rfl) (fun c hc=>?_),rfl,a3a.gone (hnt n (by simp[AV.viewed])) _ ?_,dead_gone Γ n _ rfl⟩;rcases hc with g|g;exact Rel.shr_gone c g;have hown:a0P σ c:=⟨n,g⟩;refine⟨h.lt hown,.inr (h.mine c hown),fun⟨m,hm⟩=>?_⟩;have hm:c∈(if m=n then[]else σ.ow m).map (·.1):=hm
         split at hm
         simp_all;rename_i hmn;exact h.disj m n hmn c hm g
         ·rintro av (g|⟨m,hm,rfl|rfl⟩)
          cases av<;>first|rfl|cases g
          all_goals simp_all[AV.frz]
        simp_all
       simp_all
     |dead|skp|nilp|ptr|vptr=>rw[hg]at hz;cases hz
    obtain⟨x,Γ1,σ1,k1,k2,k3,k4,k5,k6⟩:=key;exact⟨x,Γ1,σ1,tk,.val t x,tm i,k1,k2,k4.trans hpd,k3,by rfl,⟨rfl,rfl⟩,k5,k6⟩
   |cell i t'=>
    simp[b1z]at hv;simp only[AE.out]at hz;have ha:=a3T h (a03 hv hN0)
    split at hz
    ·rename_i n hg;rw[hg]at ha;rcases a0i hz with⟨-,g⟩|⟨hnt,hz⟩
     grind
     have hnt:n∉tk:=by simp_all
     split at hz
     ·rename_i hT;obtain⟨hsh,hty⟩:=hcx.T t' _ hT;obtain⟨u,Γ1,σ1,av',h1,h2,h3,h4,h5⟩:=Rel.lod hty hsh h ha hz
      split at h4
      ·rename_i t'' x
       split at h4
       ·rename_i x2 hx2;have h3x:a0j (a0a w σ1.ov) σ1.g Γ1.rt (Shr B w σ1) (.val t x2) u:=VOk.castTo hx2 h3;have hu:(a7G tm (.cell i t')).run P w=.ok u w:=by
         obtain⟨r',t1,b,off,-,-,g3⟩:=ha;simp_all[Instr.loadAt,Instr.sureAddr,a7G,asAddr]
        rcases h5 with⟨rfl,rfl⟩|⟨-,m,hm,rfl⟩;exact⟨x2,Γ1,σ1,tk,.val t x2,u,h4,h2,hpd,h3x,hu,⟨rfl,rfl⟩,a3a.refl,fun _ g=>g⟩
        ·cases hm;refine⟨x2,_,σ1,tk,.val t x2,u,h4,h2,hpd,h3x,hu,⟨rfl,rfl⟩,a3a.gone hnt _ ?_,dead_gone Γ n _ rfl⟩
         rintro av (g|⟨m,hm,rfl|rfl⟩)
         cases av<;>first|rfl|cases g
         all_goals simp_all[AV.drop]
       simp_all
      simp_all
     simp_all
    simp_all
 |o e=>
  cases v with
  |inr n=>
   cases n with
   |none=>
    simp[AE.out]at hz;exact⟨[],Γ,σ,tk,.nils,.slice none 0 0,hz,h,hpd,rfl,rfl,.inr ⟨.inl rfl,rfl,rfl⟩,a3a.refl,fun _ g=>g⟩
   |some n=>
    simp only[AE.out]at hz;rcases a0i hz with⟨-,g⟩|⟨hnt,hz⟩
    grind
    have hnt:n∉tk:=by simp_all
    split at hz
    rename_i e' x hr
    split at hz
    rename_i he;subst he;rcases h.src_of hr with⟨g,-⟩|⟨-,u,e2,hg,-⟩
    grind
    refine⟨x,Γ,σ,n::tk,.sref n [],u,hz,h,hpd,⟨_,e',.one u,hr,by show some (_,σ.g n)=_;grind,rfl⟩,fun i b' hn hb=>?_,.inl ⟨n,rfl,hnt,rfl,hr⟩,a3a.refl,fun _ g=>g⟩;subst hn
    have:=h.pins i b' hb (by simp_all)
    rw[←this,hg];rfl;simp_all;simp_all
  |inl rv=>
   cases rv with
   |cell i t'=>simp_all[AE.out]
   |tmp i=>
    simp[b1z]at hv;have ha:=a3T h (a03 hv hN0);simp only[AE.out]at hz
    split at hz
    rename_i n hg;rw[hg]at ha;rcases a0i hz with⟨-,g⟩|⟨hnt,hz⟩
    grind
    have hnt:n∉tk:=by simp_all
    split at hz
    rename_i e' l hr
    split at hz
    rename_i he;subst he;exact⟨l,Γ,σ,n::tk,.sref n [],tm i,hz,h,hpd,ha,by rfl,.inl ⟨n,rfl,hnt,rfl,hr⟩,a3a.refl,fun _ g=>g⟩;simp_all;simp_all;rename_i hg;rw[hg]at ha;exact⟨[],Γ,σ,tk,.nils,tm i,hz,h,hpd,ha,by rfl,.inr ⟨.inl rfl,rfl,rfl⟩,a3a.refl,fun _ g=>g⟩;rename_i hg;rw[hg]at ha;exact⟨[],Γ,σ,tk,.empt,tm i,hz,h,hpd,ha,by rfl,.inr ⟨.inr rfl,rfl,rfl⟩,a3a.refl,fun _ g=>g⟩;simp_all
 |b t=>
  cases v with
  |inr n=>
   cases n with
   |none=>simp_all[AE.out]
   |some n=>
   simp only[AE.out]at hz;rcases a0i hz with⟨-,g⟩|⟨hnt,hz⟩
   grind
   have hnt:n∉tk:=by simp_all
   split at hz
   rename_i t' x hr
   split at hz
   rename_i he;subst he;obtain⟨O',R,-,-,hc⟩:=(h.roots n _ hr).rd;rcases hc with⟨-,b,hs,-⟩|⟨hb,-⟩;refine⟨x,Γ,σ,n::tk,.ptr n [],.pointer (some ⟨b,0,none⟩),hz,h,hpd,⟨_,t',b,0,hr,by show some (t',σ.g n)=_;grind,rfl⟩,fun i b' hn hb=>?_,⟨n,rfl,hnt,rfl,hr⟩,a3a.refl,fun _ g=>g⟩;subst hn
   have:=h.pins i b' hb (by simp_all)
   rw[←this,hs];exact⟨rfl,rfl⟩;simp_all;simp_all;simp_all
  |inl rv=>
   cases rv with
   |cell i t'=>simp_all[AE.out]
   |tmp i=>
    simp[b1z]at hv;have ha:=a3T h (a03 hv hN0);simp only[AE.out]at hz
    split at hz
    rename_i n hg;rw[hg]at ha;rcases a0i hz with⟨-,g⟩|⟨hnt,hz⟩
    grind
    have hnt:n∉tk:=by
     simp_all
    split at hz
    rename_i t' x hr
    split at hz
    rename_i he;subst he;exact⟨x,Γ,σ,n::tk,.ptr n [],tm i,hz,h,hpd,ha,by rfl,⟨n,rfl,hnt,rfl,hr⟩,a3a.refl,fun _ g=>g⟩;simp_all;simp_all;simp_all
end
end Go.Ab
namespace Go.Ab
def d7q(Γ:AE)(av:AV)(o:Option Nat):((r:RA)×r.ty.den)→Prop
 |⟨.v t,x⟩=>av=.val t x∧o=none
 |⟨.o e,x⟩=>(∃n,o=some n∧av=.sref n []∧Γ.rt n=some ⟨false,.list true e,x⟩)∨(o=none∧(av=.nils∨av=.empt)∧x=[])
 |⟨.b t,x⟩=>∃n,o=some n∧av=.ptr n []∧Γ.rt n=some ⟨true,t,x⟩
theorem c5c.finK{tk tk':List Nat}{Γ Γ':AE}{av:AV}{i:Nat}(hg:Γ.get i=av):∀{it:(r:RA)×r.ty.den},c5c tk tk' Γ av it→a3a tk' Γ Γ'→
  ∃o,d7q Γ' (Γ'.get i) o it∧(∀n∈tk,n∈tk')∧∀n,o=some n→n∉tk∧n∈tk'
 |⟨.v t,x⟩,⟨h1,h2⟩,hs=>by
  subst h1;subst h2;exact⟨none,⟨hs.1 i _ hg (.inl rfl),rfl⟩,fun _ g=>g,by simp⟩
 |⟨.o e,x⟩,h,hs=>by
  rcases h with⟨n,rfl,h2,rfl,h4⟩|⟨h1,h2,rfl⟩;refine⟨some n,.inl ⟨n,rfl,hs.1 i _ hg (.inr ⟨n,by simp,.inl rfl⟩),(hs.2 n (by simp)).trans h4⟩,fun m g=>a02 _ g,?_⟩;simp_all;refine⟨none,.inr ⟨rfl,?_,h2⟩,fun _ g=>g,by simp⟩;rw[hs.1 i av hg (.inl (by rcases h1 with rfl|rfl<;>rfl))];omega
 |⟨.b t,x⟩,⟨n,h1,h2,h3,h4⟩,hs=>by
  subst h1;subst h3;refine⟨some n,⟨n,rfl,hs.1 i _ hg (.inr ⟨n,by simp,.inr rfl⟩),(hs.2 n (by simp)).trans h4⟩,fun m g=>a02 _ g,?_⟩;simp_all
section
variable {P:Program} {B:Base} {w:World} {cx:Cx} {ρ:Type}
theorem Rel.ext_slot{N:Nat}{tm:Nat→Value}{Γ:AE}{σ:Gh}(h:Rel B Γ N tm w σ){av:AV}{u:Value}(hv:a0j (a0a w σ.ov) σ.g Γ.rt (Shr B w σ) av u):Rel B (Γ.set N av) (N+1) (fun i=>if i=N then u else tm i) w σ:=by
 refine⟨h.roots,h.norm,h.nodup,h.disj,h.live,fun i hi=>?_,h.pend,h.size,h.frame,h.mine,h.pins,h.still⟩;rw[a2I]
 by_cases e:i=N
 rw[if_pos e,if_pos e];exact hv;rw[if_neg e,if_neg e];exact h.slots i (by omega)
theorem b6q.congr{tm tm':Nat→Value}{N0:Nat}{u:Value}{v:ResultVar ⊕ Option Nat}(hv:b1z N0 v=true)(h:b6q P B w tm u v)(ht:∀i,i<N0→tm' i=tm i):b6q P B w tm' u v:=by
 cases v with
 |inr n=>cases n<;>exact h
 |inl r=>
  cases r with
  |tmp i=>
   simp[b1z]at hv;simp only[b6q,a7G]at h⊢;simp_all
  |cell i t=>
   simp[b1z]at hv;simp only[b6q,a7G]at h⊢;simp_all
structure Outd (P:Program) (B:Base) (w:World) (N0 N:Nat) (tm:Nat→Value) (tk:List Nat) (Γ Γ':AE) (σ':Gh) (rs:List RA) (vs:List (ResultVar ⊕ Option Nat)) (y:(a2g (rs.map RA.ty)).den) (us:List Value) (tm':Nat→Value) (ns:List (Option Nat)):Prop where
 lu:us.length=rs.length
 lv:vs.length=rs.length
 ln:ns.length=rs.length
 rel:Rel B Γ' (N+rs.length) tm' w σ'
 pd:Γ'.pd=none
 low:∀i,i<N→tm' i=tm i
 high:∀(k:Nat) u,us[k]?=some u→tm' (N+k)=u
 stay:a3a tk Γ Γ'
 comes:∀(k:Nat) v u,vs[k]?=some v→us[k]?=some u→b6q P B w tm u v
 fin:∀(k:Nat) it o,(a2A rs y)[k]?=some it→ns[k]?=some o→d7q Γ' (Γ'.get (N+k)) o it
 names:∀(k n:Nat),ns[k]?=some (some n)→n∉tk∧∀k':Nat,ns[k']?=some (some n)→k'=k
theorem c5d(hcx:CxTy P cx){N0:Nat}:∀(rs:List RA)(vs:List (ResultVar ⊕ Option Nat)) {Γ:AE} {σ:Gh} {N:Nat} {tm:Nat→Value} {tk:List Nat} (_:N0≤N) (_:Rel B Γ N tm w σ) (_:Γ.pd=none) (_:∀i,N≤i→Γ.get i=.dead)
  (_:∀v∈vs,b1z N0 v=true) {K:(a2g (rs.map RA.ty)).den→AE→Rs ρ} {z:ρ} (_:Γ.outs cx tk N rs vs K=some z),∃y Γ' σ' us tm' ns,K y Γ'=some z∧Outd P B w N0 N tm tk Γ Γ' σ' rs vs y us tm' ns
 | [],vs,Γ,σ,N,tm,tk,hN,h,hpd,hdead,hvs,K,z,hz=>by
  cases vs with
  |cons=>simp_all[AE.outs]
  |nil=>exact⟨(),Γ,σ,[],tm,[],hz,⟨rfl,rfl,rfl,h,hpd,fun _ _=>rfl,by simp,a3a.refl,by simp,by simp,by simp⟩⟩
 | [r],vs,Γ,σ,N,tm,tk,hN,h,hpd,hdead,hvs,K,z,hz=>by
  match vs,hvs with
  | [],_=>simp_all[AE.outs]
  |_::_::_,_=>simp_all[AE.outs]
  | [v],hvs=>
   simp[AE.outs]at hz;obtain⟨x,Γ1,σ1,tk1,av,u,h1,h2,h3,h4,h5,h6,h7,h8⟩:=c7g hcx hN h hpd (hvs v (by simp)) hz;have hget:(Γ1.set N av).get N=av:=by simp[AE.get];rw[a2I,if_pos rfl]
   have hs1:a3a tk1 Γ1 (Γ1.set N av):=a3a.refl.set (h8 N (hdead N (a19 _)));have h6':c5c tk tk1 (Γ1.set N av) av ⟨r,x⟩:=h6;obtain⟨o,k1,k2,k3⟩:=h6'.finK hget a3a.refl;refine⟨x,Γ1.set N av,σ1,[u],_,[o],h1,⟨rfl,rfl,rfl,h2.ext_slot h4,h3,fun i hi=>if_neg (by omega),fun k u' hk=>?_,h7.set (hdead N (a19 _)),fun k v' u' hk hu=>?_,fun k it o' hk ho=>?_,fun k n hk=>?_⟩⟩
   all_goals grind[a2A]
 |r::r'::rs,vs,Γ,σ,N,tm,tk,hN,h,hpd,hdead,hvs,K,z,hz=>by
  match vs,hvs with
  | [],_=>simp_all[AE.outs]
  |v::vs,hvs=>
   simp[AE.outs]at hz;obtain⟨x,Γ1,σ1,tk1,av,u,h1,h2,h3,h4,h5,h6,h7,h8⟩:=c7g hcx hN h hpd (hvs v (by simp)) hz;have hget:(Γ1.set N av).get N=av:=by simp[AE.get];rw[a2I,if_pos rfl]
   have hd1:∀i,N+1≤i→(Γ1.set N av).get i=.dead:=fun i hi=>by
    have:=h8 i (hdead i (by omega))
    simp[AE.get]at this⊢;rw[a2I,if_neg (by omega)];omega
   obtain⟨y,Γ',σ',us,tm',ns,k1,k2⟩:=c5d hcx (r'::rs) vs (by omega:N0≤N+1) (h2.ext_slot h4) h3 hd1 (fun v' hv'=>hvs v' (by simp_all)) h1;have h6':c5c tk tk1 (Γ1.set N av) av ⟨r,x⟩:=h6;obtain⟨o,j1,j2,j3⟩:=h6'.finK hget k2.stay;refine⟨(x,y),Γ',σ',u::us,tm',o::ns,k1,⟨by simp[k2.lu],by simp[k2.lv],by simp[k2.ln],?_,k2.pd,fun i hi=>?_,fun k u' hk=>?_,(h7.set (hdead N (a19 _))).trans k2.stay j2,fun k v' u' hk hu=>?_,fun k it o' hk ho=>?_,fun k n hk=>?_⟩⟩
   have:=k2.rel
   grind
   rw[k2.low i (by omega),if_neg (by omega)]
   ·cases k with
    |zero=>
     simp at hk;rw[←hk,Nat.add_zero,k2.low N (by omega),if_pos rfl]
    |succ k=>
     have:=k2.high k u' (by simp_all)
     grind
   ·cases k with
    |zero=>
     simp_all
    |succ k=>
     have hk':vs[k]?=some v':=by simp_all
     exact(k2.comes k v' u' hk' (by simp_all)).congr (hvs v' (by grind)) (fun i hi=>(if_neg (by omega)).symm)
   ·cases k with
    |zero=>
     simp_all[a2A]
    |succ k=>
     have:=k2.fin k it o' (by simpa[a2A]using hk) (by simp_all)
     grind
   ·cases k with
    |zero=>
     simp at hk;refine⟨(j3 n hk).1,fun k' hk'=>?_⟩;cases k' with
     |zero=>rfl
     |succ k'=>exact absurd (j3 n hk).2 (k2.names k' n (by simp_all)).1
    |succ k=>
     obtain⟨a1,a2⟩:=k2.names k n (by simp_all)
     grind
end
end Go.Ab
namespace Go.Ab
theorem d0w{P:Program}{fn:Func}{a:Act}{w:World}{vr:List Value}(hl:vr.length=fn.results.toList.length)
  (h:∀(k:Nat) r u,fn.results.toList[k]?=some r→vr[k]?=some u→(a7G (a0p a) r).run P w=.ok u w):(results fn a.tmps).run P w=.ok (b9I vr) w:=by
 have h1:(fn.results.toList.mapM (a7G (a0p a))).run P w=.ok vr w:=c8X _ _ hl h;have h2:fn.results.mapM (a7G (a0p a))=Functor.map List.toArray (fn.results.toList.mapM (a7G (a0p a))):=by
  rw[←List.mapM_toArray]
 have h3:results fn a.tmps=(do
   let vs ←fn.results.mapM (a7G (a0p a))
   pure (if h:vs.size=1 then vs[0]else .tuple vs)):=by
  rfl
 rw[h3,h2];simp only[map_eq_pure_bind,bind_assoc,pure_bind,Sem.run_bind,h1,Result.andThen_ok,Sem.run_pure,List.size_toArray];congr 1
 match vr with
 | []=>rfl
 | [u]=>rfl
 |_::_::_=>rfl
section
variable {P:Program} {B:Base} {w:World} {cx:Cx}
theorem Outd.back{N0 N:Nat}{tm:Nat→Value}{Γ Γ':AE}{σ':Gh}{rs:List RA}{vs y us tm' ns}(h:Outd P B w N0 N tm [] Γ Γ' σ' rs vs y us tm' ns):
  ∃Ls,Back B w (a2A rs y) us Ls:=by
 have hov:=h.rel.ov_none h.pd;have hmem:a0a w σ'.ov=cells w:=by rw[hov];rfl
 let F:Option Nat→Value→Src×a1g:=fun o u=>match o with
  |some n=>(σ'.g n,σ'.ow n)
  |none=>(.one u,[])
 let Ls:=a47 F ns us
 have hget:∀(k:Nat) L,Ls[k]?=some L→∃o u,ns[k]?=some o∧us[k]?=some u∧L=F o u:=fun k L hk=>by
  grind
 have hmemL:∀L∈Ls,L.2=[]∨∃(k n:Nat),ns[k]?=some (some n)∧L.2=σ'.ow n:=fun L hL=>by
  obtain⟨k,hk⟩:=a40.1 hL
  grind
 have hsh:∀c,Shr B w σ' c→(c<w.heap.size∧(B.S c∨B.F c∨B.size≤c)∧∀L∈Ls,c∉L.2.map (·.1)):=fun c hc=>⟨hc.1,hc.2.1,fun L hL hcL=>by
  rcases hmemL L hL with g|⟨k,n,-,g⟩;simp_all;rw[g]at hcL;exact hc.2.2 ⟨n,hcL⟩⟩
 have hown:∀L∈Ls,∀c∈L.2.map (·.1),a0P σ' c:=fun L hL c hc=>by
  rcases hmemL L hL with g|⟨k,n,-,g⟩;simp_all;rw[g]at hc;exact⟨n,hc⟩
 refine⟨Ls,⟨by rw[h.lu,a9L],by simp[Ls,h.lu,h.ln,a9L],fun k it u L hit hu hL=>?_,fun L hL=>?_,fun k k' L L' hL hL' hne c hc hc'=>?_,fun L hL p hp=>?_,fun L hL c hc=>h.rel.mine c (hown L hL c hc),h.rel.size,h.rel.frame,h.rel.still⟩⟩
 ·obtain⟨o,u',ho,hu',rfl⟩:=hget k L hL;rw[hu]at hu';simp at hu';subst hu';have hfin:=h.fin k it o hit ho;have hk:k<rs.length:=by rw[←h.lu];grind
  have ha:=a3T h.rel (show N+k<N+rs.length by omega);rw[h.high k u hu,hmem]at ha;obtain⟨r,x⟩:=it;cases r with
  |v t=>
   obtain⟨g1,rfl⟩:=hfin;rw[g1]at ha;exact⟨VOk.frame ha (fun _ _ _=>rfl) hsh,rfl⟩
  |o e=>
   rcases hfin with⟨n,rfl,g2,g3⟩|⟨rfl,g2,rfl⟩;rw[g2]at ha;obtain⟨r',e',s,a1,a2,a3⟩:=ha;rw[g3]at a1;simp at a1;subst a1;simp only[loc,a0V,sj,pJ]at a2;obtain⟨-,rfl⟩:=a2;have hroot:=h.rel.roots n _ g3;rw[hmem]at hroot;refine⟨?_,hroot.mono hsh⟩;obtain⟨O',R,-,-,hc⟩:=hroot.rd;rcases hc with⟨hb,-⟩|⟨-,⟨v0,hv0⟩,-,-⟩
   grind
   show σ'.g n=.one u;simp_all[Src.rd]
   ·refine⟨rfl,⟨[],[],?_,by simp,.inr ⟨rfl,⟨_,rfl⟩,⟨e,rfl⟩,rfl⟩⟩⟩;show a1j _ true e.cells (dec _ e) (some u)=some (([]:List e.den),[],[]);rcases g2 with g2|g2;rw[g2]at ha;have ha:u=.slice none 0 0:=ha;rw[ha];rfl
    ·rw[g2]at ha;obtain⟨A,ha⟩:=ha;rw[ha];cases A with
     |none=>rfl
     |some A=>rfl
  |b t=>
   obtain⟨n,rfl,g2,g3⟩:=hfin;rw[g2]at ha;obtain⟨r',t',b,o',a1,a2,a3⟩:=ha;rw[g3]at a1;simp at a1;subst a1;simp[a0V]at a2;obtain⟨rfl,a2⟩:=a2;have hroot:=h.rel.roots n _ g3;rw[hmem]at hroot;refine⟨hroot.mono hsh,b,?_⟩;obtain⟨O',R,-,-,hc⟩:=hroot.rd
   grind
 rcases hmemL L hL with g|⟨k,n,-,g⟩;simp_all;rw[g];exact h.rel.nodup n
 ·obtain⟨o,u,ho,-,rfl⟩:=hget k L hL;obtain⟨o',u',ho',-,rfl⟩:=hget k' L' hL';cases o with
  |none=>grind
  |some n=>
   cases o' with
   |none=>grind
   |some n'=>
    have hnn:n≠n':=by
     rintro rfl
     exact hne ((h.names k' n ho').2 k ho)
    exact h.rel.disj n n' hnn c hc hc'
 rcases hmemL L hL with g|⟨k,n,-,g⟩;simp_all;rw[g]at hp;exact h.rel.live n p hp
theorem b8m:∀(ps:List PA)(i0 i:Nat),i∈a0I ps i0→∃c a,ps[i-i0]?=some (.r c a)
 | [],_,_,h=>by simp[a0I]at h
 |.v _::ps,i0,i,h=>by
  have:=(b4L ps (i0+1)).2 i h
  obtain⟨c,a,h1⟩:=b8m ps (i0+1) i h;exact⟨c,a,by rw[show i-i0=(i-(i0+1))+1 from by omega];simpa using h1⟩
 |.r c a::ps,i0,i,h=>by
  rcases mC.1 h with rfl|h;exact⟨c,a,by simp⟩
  have:=(b4L ps (i0+1)).2 i h
  obtain⟨c,a,h1⟩:=b8m ps (i0+1) i h;exact⟨c,a,by rw[show i-i0=(i-(i0+1))+1 from by omega];simpa using h1⟩
def d4Z(fn:Func)(c:Code)(H:Hints)(s:FSem):Bool:=
 a2u fn.ntmps c&&(H.fits fn.ntmps&&(decide (s.ps.length≤fn.ntmps)&&fn.results.toList.all fun r=>b1z fn.ntmps (.inl r)))
theorem b8n(hcx:CxTy P cx){fn:Func}{s:FSem}{y}{args:Array Value}(hres:(fn.results.toList.all fun r=>b1z fn.ntmps (.inl r))=true){a':Act}{w':World}{σ':Gh}{Γ':AE}(hr:Rel B Γ' fn.ntmps (a0p a') w' σ')(hpd:Γ'.pd=none)
  (hK:(Γ'.upto fn.ntmps).outs cx [] fn.ntmps (RA.all s.ps s.rs) (fn.results.toList.map .inl++(a0I s.ps 0).map fun i=>.inr (b2w s.ps i)) (fun y _=>some y)=some y)
  (hpins:c8n B s.ps args):
  ∃v,(results fn a'.tmps).run P w'=.ok v w'∧∃vr Ls,Ending.returned v=.returned (b9I vr)∧vr.length=s.rs.length∧Back B w' (a2A (RA.all s.ps s.rs) y) (vr++(a0I s.ps 0).map (a5i s.ps args)) Ls:=by
 have hup:Rel B (Γ'.upto fn.ntmps) fn.ntmps (a0p a') w' σ':=hr.weak fun i hi v hv=>by
  simp_all
 obtain⟨y',Γf,σf,us,tmf,ns,h1,h2⟩:=c5d (P:=P) (w:=w') (N0:=fn.ntmps) hcx _ _ (a19 _) hup hpd (fun i hi=>by
   have:decide (i<fn.ntmps)=false:=by simp_all
   simp only[AE.get,AE.upto,this,cF]) (fun v hv=>by
   rcases mA.1 hv with hv|hv
   grind
   obtain⟨i,-,rfl⟩:=a17.1 hv;rfl) hK
 simp at h1;subst h1;obtain⟨Ls,hback⟩:=h2.back;have hlv:=h2.lv;simp only[RA.all,lN,List.length_map,b1v s.ps 0,Array.length_toList]at hlv;have hlu:=h2.lu;simp[RA.all]at hlu;have hrl:fn.results.toList.length=s.rs.length:=by simp_all

 have hus:us=us.take s.rs.length++(a0I s.ps 0).map (a5i s.ps args):=by
  have e:=List.take_append_drop s.rs.length us
  conv=>lhs;rw[←e]
  congr 1;refine a51 fun k=>?_
  rw[List.getElem?_drop,a52];cases hk:(a0I s.ps 0)[k]? with
  |none=>
   simp_all[b1v]
  |some i=>
   have hkl:=(lS.1 hk).1;rw[b1v]at hkl;have hu:=lG (show s.rs.length+k<us.length by omega);rw[hu]
   simp
   have hv:(fn.results.toList.map Sum.inl++(a0I s.ps 0).map fun i=>Sum.inr (b2w s.ps i))[s.rs.length+k]?=some (Sum.inr (b2w s.ps i):ResultVar ⊕ Option Nat):=by
    simp_all[a32]
   have hcm:=h2.comes _ _ _ hv hu;have hkk:∃c,b5b s.ps i=some c:=by
    obtain⟨c,a,hka⟩:=b8m s.ps 0 i (a28 hk);exact⟨c,b2m (by omega)⟩
   obtain⟨c,hkc⟩:=hkk;cases c with
   |true=>
    simp[b2w,hkc]at hcm;simp[a5i,hkc];exact hcm
   |false=>
    simp[b2w,hkc]at hcm;simp only[a5i,hkc];obtain⟨b,hb1,hb2⟩:=hpins i (a28 hk) hkc;exact c1n.uniq (hcm i b rfl hb1) hb2
 have hrun:(results fn a'.tmps).run P w'=.ok (b9I (us.take s.rs.length)) w':=by
  refine d0w (by grind) fun k r u hr' hu=>?_
  have hkl:=(lS.1 hr').1;refine h2.comes k (.inl r) u ?_ ?_
  all_goals grind
 grind
theorem a4X.of(hcx:CxOk P cx)(hm:P.follows .mixedOrders=true){f:FuncId}{fn:Func}{c:Code}{H:Hints}{s:FSem}(hfn:P.funcs[f]?=some fn)(hb:fn.body=some c)(hok:d4Z fn c H s=true)
  (heq:∀x,c1c cx H fn s.ps s.rs x=s.F x):a4X P cx.G f s:=by
 simp only[d4Z,bA,dT]at hok;obtain⟨hfit,hH,hps,hres⟩:=hok;intro w B σ args x y hG hy hB hhp hov hargs hrel hpins;rw[←heq x]at hy;simp[c1c,hb]at hy
 let a:Act:={ tmps:=args++a29 (fn.ntmps-args.size) undef,defers:=[] }
 have hsz:a.tmps.size=fn.ntmps:=by grind
 have hrel':Rel B (ini s.ps x) fn.ntmps (a0p a) w σ:=by
  refine⟨hrel.roots,hrel.norm,hrel.nodup,hrel.disj,hrel.live,fun i hi=>?_,hrel.pend,hrel.size,hrel.frame,hrel.mine,hrel.pins,hrel.still⟩
  by_cases hlt:i<s.ps.length
  have:=hrel.slots i hlt
  have e:a0p a i=args.getD i undef:=by
   simp[a0p,a,a41];simp_all
  simp_all
  have:(ini s.ps x).sl i=.one .dead:=by
   simp_all[ini,a6L]
  rw[this];trivial
 refine calls_of_wp hfn hb (wp_mono ((wpIn_wide (n:=0)).1 (b1e (ro:=none) (D:=[]) hcx hG hm hH c 1 hfit hy hrel' hsz rfl)) ?_)
 rintro e a' w' ⟨ex,Γ',σ',rfl,hK,hr,hN,hD⟩
 simp at hK;have key:(∀i,ex≠.exit i)∧Γ'.pd=none∧(Γ'.upto fn.ntmps).outs cx [] fn.ntmps (RA.all s.ps s.rs) (fn.results.toList.map .inl++(a0I s.ps 0).map fun i=>.inr (b2w s.ps i)) (fun y _=>some y)=some y:=by
  grind
 obtain⟨hex,hpd,hK⟩:=key;obtain⟨v,hrun,hfin⟩:=b8n (args:=args) hcx.toCxTy hres hr hpd hK hpins;cases ex with
 |exit i=>simp_all
 |normal=>exact⟨hD,_,hrun,hfin⟩
 |ret=>exact⟨hD,_,hrun,hfin⟩
end
end Go.Ab
namespace Go.Ab
open Go.ChangeShapes Go.WideShapes
def Wf:(t:Ty)→t.den→Prop
 |.int k,n=>(Lit.int k n).wf=true
 |.str,l=>∀b∈(show List Int from l),0≤b∧b≤255
 |.list _ t,l|.nl t,l=>∀x∈(show List t.den from l),Wf t x
 |.arr n t,l=>(show List t.den from l).length=n∧∀x∈(show List t.den from l),Wf t x
 |.pair a b,x=>Wf a x.1∧Wf b x.2
 |.bool,_|.unit,_=>True
def a3X:(t:Ty)→t.den→Nat
 |.str,l=>(show List Int from l).length+1
 |.list _ t,l|.nl t,l=>1+((show List t.den from l).map (a3X t)).sum
 |.arr _ t,l=>((show List t.den from l).map (a3X t)).sum
 |.pair a b,x=>a3X a x.1+a3X b x.2
 |.unit,_=>0
 |.int _,_|.bool,_=>1
structure Bulk {H:Type} (bulk:DataW H→Nat):Prop where
 one:∀d,1≤bulk d
 str:∀bs,bulk (.lit (.string bs))=bs.length+1
 slice:∀es sp,(es.map bulk).sum+1≤bulk (.slice es sp)
 agg:∀ps,(ps.map bulk).sum≤bulk (.agg ps)
def b3O:Ty→Bool
 |.list o e=>b3O e&&!o
 |.nl _=>false
 |.pair a b=>b3O a&&b3O b
 |.arr _ t=>b3O t
 |_=>true
theorem b9N{α:Type}{f:Nat→Option (α×a1g×List Nat)}{p:α→Prop}{q:Nat→Prop}{g:α→Nat}{b:Nat→Nat}:∀(n i:Nat),(∀j,j<n→∃x R,f (i+j)=some (x,[],R)∧p x∧g x≤b (i+j)∧∀c∈R,q c)→
  ∃xs Rs,a0g f n i=some (xs,[],Rs)∧(∀x∈xs,p x)∧(xs.map g).sum≤((a33 i n).map b).sum∧∀c∈Rs,q c
 |0,_,_=>⟨[],[],rfl,by simp,by simp,by simp⟩
 |n+1,i,h=>by
  obtain⟨x,R,h1,h2,h3,h4⟩:=h 0 (by omega);obtain⟨xs,Rs,g1,g2,g3,g4⟩:=b9N n (i+1) (fun j hj=>by
   have:=h (j+1) (by omega)
   rwa [show i+(j+1)=i+1+j from by omega]at this)
  rw[Nat.add_zero]at h1 h3;refine⟨x::xs,R++Rs,by simp_all[a0g],fun y hy=>?_,?_,fun c hc=>?_⟩
  grind
  all_goals grind[List.range'_succ]
section
variable {H:Type} {enc:TypeId×Value→H} {P:Program} {w:World} {base:Nat} {sp:Nat→Bool} {held:Bool} {bulk:DataW H→Nat}
theorem b2F{τ:Ty}{t:TypeId}(h:a0u P τ (.inl t)=true):P.cellsOf t=τ.cells:=by
 have:=a0L h
 unfold a6n at this;unfold Program.cellsOf
 grind
theorem d1g{a:Addr}{v:Value}(h:w.cell? a=some v):a.block<w.heap.size:=by
 grind[World.cell?]
theorem d7r(hb:Bulk bulk)(hs:∀b,sp b=true):∀(t:Ty),
  (∀(T:TypeId)(n:Nat)(cs:List Value) y,a0u P t (.inl T)=true→b3O t=true→DataW.trod enc P w base sp held n T cs=some y→
   ∃x R,dec (cells w) t (fun j=>cs[j]?)=some (x,[],R)∧Wf t x∧a3X t x≤bulk y.1∧∀c∈R,c<w.heap.size)∧
  (∀(fs:List Field)(off n:Nat)(cs:List Value)(xs:List (DataW H×List MemPlace)),a0u P t (.inr (fs,off))=true→b3O t=true→xs.length=fs.length→
   (∀(i:Nat)(f:Field),fs[i]?=some f→DataW.trod enc P w base sp held n f.type ((cs.drop f.offset).take (P.cellsOf f.type))=xs[i]?)→
   ∃x R,dec (cells w) t (fun j=>cs[off+j]?)=some (x,[],R)∧Wf t x∧a3X t x≤((xs.map (·.1)).map bulk).sum∧∀c∈R,c<w.heap.size):=by
 intro t
 induction t with
 |int k=>
  refine⟨fun T n cs y ht _ h=>?_,fun fs off n cs xs ht=>by simp[a0u]at ht⟩;obtain⟨m,rfl,rfl,hw⟩:=DataW.trod_int (b1V ht) h;exact⟨m,[],by simp[dec],hw,hb.one _,by simp⟩
 |bool=>
  refine⟨fun T n cs y ht _ h=>?_,fun fs off n cs xs ht=>by simp[a0u]at ht⟩;have hu:P.underlying T=some .bool:=by
   simp[a0u]at ht
   grind
  obtain⟨m,rfl,rfl⟩:=DataW.trod_bool hu h;exact⟨m,[],by rfl,trivial,hb.one _,by simp⟩
 |str=>
  refine⟨fun T n cs y ht _ h=>?_,fun fs off n cs xs ht=>by simp[a0u]at ht⟩;have hu:P.underlying T=some .string:=by
   simp[a0u]at ht
   grind
  obtain⟨s,rfl,rfl,-⟩:=DataW.trod_string hu h;refine⟨_,[],by rfl,fun b hb'=>?_,?_,by simp⟩;obtain⟨u,-,rfl⟩:=a17.1 hb'
  have:=u.toNat_lt
  omega;rw[hb.str];simp[a3X]
 |unit=>
  refine⟨fun T n cs y ht _ h=>⟨(),[],rfl,trivial,Nat.zero_le _,by simp⟩,fun fs off n cs xs ht _ _ _=>⟨(),[],rfl,trivial,Nat.zero_le _,by simp⟩⟩
 |pair a b iha ihb=>
  have main:(∀(fs:List Field)(off n:Nat)(cs:List Value)(xs:List (DataW H×List MemPlace)),a0u P (.pair a b) (.inr (fs,off))=true→b3O (.pair a b)=true→xs.length=fs.length→
   (∀(i:Nat)(f:Field),fs[i]?=some f→DataW.trod enc P w base sp held n f.type ((cs.drop f.offset).take (P.cellsOf f.type))=xs[i]?)→
   ∃x R,dec (cells w) (.pair a b) (fun j=>cs[off+j]?)=some (x,[],R)∧Wf (.pair a b) x∧a3X (.pair a b) x≤((xs.map (·.1)).map bulk).sum∧∀c∈R,c<w.heap.size):=by
   intro fs off n cs xs ht hfl hl hf;cases fs with
   |nil=>simp[a0u]at ht
   |cons f r=>
    simp[a0u]at ht;obtain⟨⟨⟨ho,hta⟩,hpos⟩,htb⟩:=ht;simp[b3O]at hfl;cases xs with
    |nil=>grind
    |cons x0 xs=>
     have h0:=hf 0 f rfl;simp at h0;rw[b2F hta,ho]at h0;have hget:∀j,j<a.cells→((cs.drop off).take a.cells)[j]?=cs[off+j]?:=fun j hj=>by
      grind
     obtain⟨x,R,g1,g2,g3,g4⟩:=iha.1 f.type n _ x0 hta hfl.1 h0;obtain⟨y,R',k1,k2,k3,k4⟩:=ihb.2 r (off+a.cells) n cs xs htb hfl.2 (by grind) (fun i f' hi=>by simpa using hf (i+1) f' (by grind));refine⟨(x,y),R++R',?_,⟨g2,k2⟩,?_,fun c hc=>?_⟩;have e1:=a0x (m':=cells w) a (rd':=fun j=>cs[off+j]?) g1 (fun j hj=>(hget j hj).symm) (fun _ _ _=>rfl)
     grind[dec]
     all_goals grind[a3X]
  refine⟨fun T n cs y ht hfl h=>?_,main⟩;obtain⟨fs,hu,hfs⟩:∃fs:Array Field,P.underlying T=some (.struct fs)∧a0u P (.pair a b) (.inr (fs.toList,0))=true:=by
   simp[a0u]at ht;obtain⟨-,ht⟩:=ht
   split at ht
   rename_i fs hu;refine⟨fs,hu,?_⟩
   split at ht
   rename_i f r hr;rw[hr];simp only[a0u,a48];omega
   grind
   grind
  obtain⟨xs,m,-,rfl,hl,hlx,hf⟩:=DataW.trod_struct hu h;obtain⟨x,R,g1,g2,g3,g4⟩:=main fs.toList 0 m cs xs hfs hfl (by omega) (fun i f hi=>hf i f (by grind));refine⟨x,R,?_,g2,a09 g3 (hb.agg _),g4⟩
  grind
 |list o e ih=>
  refine⟨fun T n cs y ht hfl h=>?_,fun fs off n cs xs ht=>by simp[a0u]at ht⟩;obtain⟨T',hu,hte,hpos⟩:=a1X ht;simp[b3O]at hfl;obtain⟨hno,rfl⟩:=hfl;rcases DataW.trod_slice hu h with⟨rfl,rfl⟩|⟨a,len,cap,elems,rest,m,-,rfl,rfl,hba,hlc,hcap,hlen,hel,hrest,-⟩;exact⟨[],[],by rfl,by simp[Wf],by simp only[a3X];exact hb.one _,by simp⟩;have hspot:cap=0∨a.spot=none:=by
   by_cases hc0:cap=0
   omega;refine .inr ?_
   have one:∀{o:Nat}{z},o=0→(w.cells? base (a.add (o*P.cellsOf T')) (P.cellsOf T')).bind (DataW.trod enc P w base sp held m T')=some z→a.spot=none:=fun ho h1=>by
    subst ho;obtain⟨cs',h2,-⟩:=a08.1 h1;rw[b2F hte]at h2;obtain⟨-,hl',hc'⟩:=World.cells?_some h2;have h3:=hc' 0 hpos;rw[Nat.zero_mul,Addr.add_zero',Addr.add_zero',lG (by omega)]at h3
    grind[World.cell?_spot]
   by_cases hl0:len=0
   obtain⟨hr1,hr2⟩:=hrest (hs _);have h1:=hr2 0 (by omega)
   grind
   have h1:=hel 0 (by omega)
   grind
  have one:∀i,i<len→∃x R,dec (cells w) e (fun j=>cells w a.block (a.off+(i*e.cells+j)))=some (x,[],R)∧Wf e x∧a3X e x≤bulk ((elems.getD i (.nil,[])).1)∧(∀c∈R,c<w.heap.size)∧a.block<w.heap.size:=fun i hi=>by
   have h1:=hel i hi;rw[lG (by omega)]at h1;obtain⟨cs',h2,h3⟩:=a08.1 h1;rw[b2F hte]at h2;obtain⟨-,hl',hc'⟩:=World.cells?_some h2;have hspot:a.spot=none:=hspot.resolve_left (by omega);obtain⟨x,R,g1,g2,g3,g4⟩:=ih.1 T' m cs' _ hte hno h3;have hcell:∀j,j<e.cells→cells w a.block (a.off+(i*e.cells+j))=cs'[j]?:=fun j hj=>by
    rw[←hc' j hj]
    have:a=⟨a.block,a.off,none⟩:=by rw[←hspot]
    rw[this,add_plain,add_plain,Nat.add_assoc];rfl
   refine⟨x,R,a0x e g1 (fun j hj=>hcell j hj) (fun _ _ _=>rfl),g2,by simp_all,g4,?_⟩
   have:=hcell 0 hpos
   rw[lG (by omega)]at this;exact d1g (a:=⟨a.block,_,none⟩) this
  obtain⟨xs,Rs,g1,g2,g3,g4⟩:=b9N (p:=Wf e) (q:=fun c=>c<w.heap.size) (g:=a3X e) (b:=fun i=>bulk ((elems.getD i (.nil,[])).1)) len 0 (fun j hj=>by
   obtain⟨x,R,k1,k2,k3,k4,-⟩:=one j hj;rw[a48];exact⟨x,R,k1,k2,k3,k4⟩)
  have hsum:((a33 0 len).map fun i=>bulk ((elems.getD i (.nil,[])).1)).sum=((elems.map (·.1)).map bulk).sum:=by
   rw[a46,Go.Deep.map_by_index elems (.nil,[]) (bulk∘(·.1)),hlen,a21];rfl
  have hslice:=hb.slice (elems.map (·.1)) (rest.map (·.1))
  by_cases hn:len=0
  subst hn;simp only[a0g,sj,pJ]at g1;obtain⟨rfl,-,-⟩:=g1;exact⟨[],[],by simp only[dec,a1j,a24];rw[if_pos ⟨hspot,hlc⟩];rfl,by simp[Wf],by grind[a3X],by simp⟩;refine⟨xs,a.block::([]++Rs),?_,g2,?_,fun c hc=>?_⟩;simp only[dec,a1j,a24,hspot,hlc,and_self,if_true,g1,a01,if_false,if_neg hn,a49];rfl
  grind[a3X]
  rcases mC.1 hc with rfl|hc;obtain⟨_,_,_,_,_,_,h6⟩:=one 0 (by omega);omega
  grind
 |nl e ih=>grind[b3O]
 |arr n e ih=>
  refine⟨fun T f cs y ht hfl h=>?_,fun fs off n cs xs ht=>by simp[a0u]at ht⟩;obtain⟨T',hu,hte,hpos⟩:=b1S ht;obtain⟨xs,m,-,rfl,hl,hlx,hf⟩:=DataW.trod_array hu h;simp[b3O]at hfl;have one:∀i,i<n→∃x R,dec (cells w) e (fun j=>cs[i*e.cells+j]?)=some (x,[],R)∧Wf e x∧a3X e x≤bulk ((xs.getD i (.nil,[])).1)∧∀c∈R,c<w.heap.size:=fun i hi=>by
   have h1:=hf i hi;rw[lG (by omega),b2F hte]at h1;obtain⟨x,R,g1,g2,g3,g4⟩:=ih.1 T' m _ _ hte hfl h1;refine⟨x,R,a0x e g1 (fun j hj=>?_) (fun _ _ _=>rfl),g2,by simp_all,g4⟩;simp_all
  obtain⟨ys,Rs,g1,g2,g3,g4⟩:=b9N (p:=Wf e) (q:=fun c=>c<w.heap.size) (g:=a3X e) (b:=fun i=>bulk ((xs.getD i (.nil,[])).1)) n 0 (fun j hj=>by
   obtain⟨x,R,k1,k2,k3,k4⟩:=one j hj;rw[a48];exact⟨x,R,k1,k2,k3,k4⟩)
  have hsum:((a33 0 n).map fun i=>bulk ((xs.getD i (.nil,[])).1)).sum=((xs.map (·.1)).map bulk).sum:=by
   rw[a46,Go.Deep.map_by_index xs (.nil,[]) (bulk∘(·.1)),hlx,a21];rfl
  refine⟨ys,Rs,by simp[dec];exact g1,⟨a0W _ _ g1,g2⟩,?_,g4⟩;simp[a3X];exact a09 (a09 g3 (Nat.le_of_eq hsum)) (hb.agg _)
end
end Go.Ab
namespace Go.Ab
open Go.ChangeShapes Go.WideShapes Go.RowKit
def d1Y(ps:List PA)(x:(a2g (ps.map PA.ty)).den):Prop:=∀it∈a0Y ps x,Wf it.1.ty it.2
def c5e(ps:List PA)(x:(a2g (ps.map PA.ty)).den):Nat:=((a0Y ps x).map fun it=>a3X it.1.ty it.2).sum
def a9s(P:Program):List PA→List TypeId→Bool
 | [],[]=>true
 |.v t::ps,T::Ts=>a0u P t (.inl T)&&(b3O t&&(P.readableRec T&&(decide (T<P.types.size)&&a9s P ps Ts)))
 |_,_=>false
section
variable {H:Type} {enc:TypeId×Value→H} {P:Program} {w:World} {base:Nat} {sp:Nat→Bool} {held:Bool} {bulk:DataW H→Nat}
theorem c8Y(hb:Bulk bulk)(hs:∀b,sp b=true){t:Ty}{T:TypeId}{v:Value}{d:DataW H}{ps:List MemPlace}{r:Reach}{b0:Nat}(ht:a0u P t (.inl T)=true)(hf:b3O t=true)(hval:Value.okWide P w r b0 T v)(h:DataW.Trod enc P w base sp held T v d ps):
  ∃x,VOk (cells w) (fun c=>c<w.heap.size) t x v∧Wf t x∧a3X t x≤bulk d:=by
 obtain⟨n,hn⟩:=h;have agg:t.isAgg=true→∃cs,v=.agg cs∧cs.size=P.cellsOf T∧Row.okWide P w r b0 T cs:=fun ha=>by
  cases t<;>simp only[Ty.isAgg,a01]at ha
  all_goals
   simp only[a0u,bA]at ht;obtain⟨-,ht⟩:=ht
   split at ht
   rename_i hu;simp only[Value.okWide,hu]at hval;omega;simp_all
 have one:t.isAgg=false→Cell.okWide P w r b0 T v:=fun ha=>by
  cases t<;>simp only[Ty.isAgg,Bool.true_eq_false]at ha
  all_goals
   simp only[a0u,bA]at ht;obtain⟨-,ht⟩:=ht
   split at ht
   rename_i hu;simp only[Value.okWide,hu]at hval;exact hval;cases ht
 have hsingle:t.isAgg=false→a1v v=true:=fun ha=>by
  have:=one ha
  cases v<;>first|rfl|skip
  all_goals
   exfalso
   unfold Cell.okWide at this
   split at this<;>first|(rename_i hh;cases hh;done)|skip
   all_goals
    unfold Cell.ok at this;simp_all
 obtain⟨x,R,g1,g2,g3,g4⟩:=(d7r hb hs t).1 T n v.cells.toList _ ht hf hn;refine⟨x,⟨fun ha=>?_,hsingle,R,?_,g4⟩,g2,g3⟩
 all_goals grind[b2F]
theorem d1h(hb:Bulk bulk)(hs:∀b,sp b=true){r:Reach}{b0:Nat}:∀(ps:List PA)(Ts:List TypeId)(vs:List Value)(ds:List (DataW H)) (p:List MemPlace),a9s P ps Ts=true→(∀(j:Nat) T v,Ts[j]?=some T→vs[j]?=some v→Value.okWide P w r b0 T v)→
  DataW.TrodAll enc P w base sp held Ts vs ds p→
  ∃x:(a2g (ps.map PA.ty)).den,vs.length=ps.length∧d1Y ps x∧c5e ps x≤(ds.map bulk).sum∧ds.length=ps.length∧
   ∀(k:Nat) it v,(a0Y ps x)[k]?=some it→vs[k]?=some v→∃t y,it=⟨.v t,y⟩∧VOk (cells w) (fun c=>c<w.heap.size) t y v
 | [],[],vs,ds,p,_,_,h=>by
  obtain⟨rfl,rfl,rfl⟩:=trodAll_nil h;exact⟨(),rfl,by simp[d1Y,a0Y],by simp[c5e,a0Y],rfl,by simp⟩
 | [.v t],T::Ts,vs,ds,p,hp,hv,h=>by
  simp only[a9s,bA]at hp;obtain⟨h1,h2,-,-,h5⟩:=hp;obtain⟨v,vs',d,ds',q,q',rfl,rfl,rfl,g1,g2⟩:=trodAll_cons h;cases Ts with
  |cons T' Ts=>simp[a9s]at h5
  |nil=>
   obtain⟨rfl,rfl,rfl⟩:=trodAll_nil g2;obtain⟨x,k1,k2,k3⟩:=c8Y hb hs h1 h2 (hv 0 T v rfl rfl) g1;refine⟨x,rfl,fun it hit=>by obtain rfl:=List.mem_singleton.1 hit;exact k2,by simp[c5e,a0Y];exact k3,rfl,fun k it u h3 h4=>?_⟩;cases k with
   |zero=>
    simp[a0Y]at h3 h4
    grind
   |succ k=>simp_all
 |.v t::p'::ps,T::Ts,vs,ds,p,hp,hv,h=>by
  simp only[a9s,bA]at hp;obtain⟨h1,h2,-,-,h5⟩:=hp;obtain⟨v,vs',d,ds',q,q',rfl,rfl,rfl,g1,g2⟩:=trodAll_cons h;obtain⟨x,k1,k2,k3⟩:=c8Y hb hs h1 h2 (hv 0 T v rfl rfl) g1;obtain⟨y,l1,l2,l3,l4,l5⟩:=d1h hb hs (p'::ps) Ts vs' ds' q' h5 (fun j T v hT hv'=>hv (j+1) T v (by simp_all) (by simp_all)) g2;refine⟨(x,y),by grind,fun it hit=>?_,?_,by grind,fun k it u h3 h4=>?_⟩;rcases mC.1 hit with rfl|hit;exact k2;exact l2 it hit;simp[c5e,a0Y]at l3⊢;exact Nat.add_le_add k3 l3
  ·cases k with
   |zero=>
    simp[a0Y]at h3 h4
    grind
   |succ k=>grind[a0Y]
 |.r _ _::_,_,_,_,_,hp,_,_=>by simp[a9s]at hp
 |.v _::_,[],_,_,_,hp,_,_=>by simp[a9s]at hp
 | [],_::_,_,_,_,hp,_,_=>by simp[a9s]at hp
theorem d3V(hl:laidOutB P=true){W W':World}{sp':Nat→Bool}:∀(ps:List PA)(Ts:List TypeId)(vs:List Value)(ds:List (DataW H)) (p:List MemPlace),a9s P ps Ts=true→
  DataW.TrodAll enc P W base (fun _=>true) true Ts vs ds p→(∀q∈p,W.sameAt W' q)→(∀q∈p,sp' q.block=true)→DataW.TrodAll enc P W' base sp' true Ts vs ds p
 | [],[],vs,ds,p,_,h,_,_=>by
  obtain⟨rfl,rfl,rfl⟩:=trodAll_nil h;rfl
 |.v t::ps,T::Ts,vs,ds,p,hp,h,hs,hsp=>by
  simp[a9s]at hp;obtain⟨-,-,h3,h4,h5⟩:=hp;obtain⟨v,vs',d,ds',q,q',rfl,rfl,rfl,g1,g2⟩:=trodAll_cons h;exact trodAll_cons_mk (WideElems.Trod_stays hl h3 h4 g1 (fun x hx=>hs x (a05 _ hx)) (fun x hx=>hsp x (a05 _ hx)))
   (d3V hl ps Ts vs' ds' q' h5 g2 (fun x hx=>hs x (a04 _ hx)) (fun x hx=>hsp x (a04 _ hx)))
 |.r _ _::_,_,_,_,_,hp,_,_,_=>by simp[a9s]at hp
 |.v _::_,[],_,_,_,hp,_,_,_=>by simp[a9s]at hp
 | [],_::_,_,_,_,hp,_,_,_=>by simp[a9s]at hp
theorem c3e:∀(ps:List PA)(Ts:List TypeId)(i:Nat),a9s P ps Ts=true→a0I ps i=[]
 | [],_,_,_=>rfl
 |.v t::ps,T::Ts,i,h=>by
  simp only[a9s,bA]at h;exact c3e ps Ts (i+1) h.2.2.2.2
 |.v _::_,[],_,h=>by simp[a9s]at h
 |.r _ _::_,_,_,h=>by simp[a9s]at h
theorem c8Z{bulk:DataW H→Nat}(hbulk:Bulk bulk){f:FuncId}{fn:Func}{s:FSem}{spec:ChangeSpec}{tb:TypeId}{N:Nat}{G:c1g}(hF:a4X P G f s)(hl:laidOutB P=true)(hps:a9s P s.ps fn.params.toList=true)
  (hrs:s.rs=[.v .bool])(hrt:fn.resultTypes=#[tb])(hub:P.underlying tb=some .bool)(hvars:spec.vars=[])(hspec:∀ds:List (DataW H),ds.length=s.ps.length→spec.fn H ds={ results:=[.lit (.bool true)],args:=ds })
  (hlaw:∀x,d1Y s.ps x→c5e s.ps x≤N→∃y,s.F x=some y∧(a2A (RA.all s.ps s.rs) y)[0]?=some ⟨.v .bool,true⟩)
  {W:World}{b0:Nat}{args:Array Value}{ds gs:List (DataW H)}{before:List MemPlace}{apart fresh handsOn:Bool}
  (hGW:∀g t x,G g=some ⟨t,x⟩→g<W.heap.size∧dec (a0a W none) t ((Src.at g 0).rd (a0a W none))=some (x,[],[]))
  (hval:∀(j:Nat) t v,fn.params[j]?=some t→args[j]?=some v→Value.okWide P W .any b0 t v)(hW:DataW.Whole enc P fn.params.toList spec.vars apart W args.toList ds gs before)(hN:((ds++gs).map bulk).sum≤N):
  Calls P f args W fun e W'=>∃v,e=.returned v∧spec.post enc P fn apart fresh handsOn false W args v W':=by
 have hlt:=hW.lt;have hW0:=hW;obtain⟨p,q,hA,hV,rfl,hfz,hnd⟩:=hW;rw[hvars]at hV;obtain⟨rfl,rfl⟩:=trodVars_none hV;obtain⟨x,g1,g2,g3,g4,g5⟩:=d1h hbulk (fun _=>rfl) s.ps fn.params.toList args.toList ds p hps (fun j T v hT hv=>hval j T v (by simp_all) (by simp_all)) hA;rw[a22]at hN;obtain⟨y,hy,hitem⟩:=hlaw x g2 (a09 g3 hN);have hri:=c3e s.ps fn.params.toList 0 hps
 let B:Base:={ size:=W.heap.size,hp:=fun b=>W.heap[b]?,F:=fun _=>False,S:=fun _=>True,io:=a2n W }
 let σ:Gh:=⟨fun _=>.one undef,fun _=>[],none⟩
 have hrt0:∀n,(ini s.ps x).rt n=none:=fun n=>by
  cases hr:(ini s.ps x).rt n with
  |none=>rfl
  |some r=>
   obtain⟨i,c,a,y,-,hi,-⟩:=d3F hr;have hl':=(lS.1 hi).1;rw[a6L,←g1]at hl';obtain⟨t,y',e,-⟩:=g5 i _ _ hi (lG hl')
   grind
 have hsz:args.size=s.ps.length:=by omega
 have hrel:Rel B (ini s.ps x) s.ps.length (fun i=>args.getD i undef) W σ:=by
  refine⟨fun n r hr=>?_,fun n _=>rfl,fun n=>by grind,fun n n' _ c hc=>by grind,fun n p hp=>by grind,fun i hi=>?_,trivial,a19 _,fun b _ _=>rfl,fun c hc=>?_,fun i b hb=>?_,rfl⟩;simp_all;have hi':i<args.toList.length:=by omega
  have hget:=lG hi';have hip:i<(a0Y s.ps x).length:=by simp_all[a6L]
  obtain⟨t,z,h1,h2⟩:=g5 i _ _ (lG hip) hget;have he:args.getD i undef=args.toList[i]:=by
   simp_all
  simp only[ini,lG hip,h1,he];exact VOk.frame h2 (fun _ _ _=>rfl) (fun c hc=>⟨hc,.inl trivial,fun⟨n,hn⟩=>by grind⟩);obtain⟨n,hn⟩:=hc
  grind
  simp_all
 refine(hF W B σ args x y (fun g t z hg=>⟨(hGW g t z hg).1,trivial,fun h=>h,W,rfl,(hGW g t z hg).2⟩) hy rfl (fun _=>rfl) rfl hsz hrel (fun i hi _=>by simp_all)).mono ?_
 rintro e W' ⟨vr,Ls,rfl,hvr,bk⟩
 rw[hrs]at hvr;rw[hri,a49,a22]at bk;obtain⟨v,rfl⟩:∃v,vr=[v]:=by
  match vr,hvr with
  | [v],_=>simp
 have hll:=bk.ll;rw[←bk.lv]at hll;obtain⟨L,rfl⟩:∃L,Ls=[L]:=by
  match Ls,hll with
  | [L],_=>simp
 obtain⟨hv,-⟩:=bk.ok 0 _ v L hitem rfl rfl;have hv:v=.bool true:=by
  obtain⟨-,h2,R,h3,-⟩:=hv;have h2:=h2 rfl;simp[dec]at h3
  split at h3
  rename_i b hb;simp at h3;obtain⟨rfl,-⟩:=h3;cases v<;>simp[a1v,Value.cells]at h2 hb
  grind
  simp_all
 subst hv;have hsame:∀b,b<W.heap.size→W'.heap[b]?=W.heap[b]?:=fun b hb=>bk.frame b hb (fun h=>h);have hsp:=hspec ds g4;refine⟨_,rfl,ds,[],p++[],[],p,[],hW0,?_,?_,?_,⟨?_,?_,fun i hi=>?_⟩,fun h=>by grind⟩;rw[a22,hsp,hrt];exact trodAll_cons_mk (p:=[]) (p':=[]) (shut_bool hub _) trodAll_mk0
 ·rw[a22,hsp];refine d3V hl s.ps _ _ _ _ hps hA (fun q hq=>?_) (fun q hq=>by simp_all);have hb:=hlt q (by simp_all);cases q with
  |cell b off=>
   simp only[World.sameAt,World.cell?];rw[hsame b hb]
  |map b=>exact hsame b hb
 rw[a22,hsp,hvars];rfl
 have:=bk.still
 grind[a2n]
 have:=bk.still
 grind[a2n]
 grind
end
end Go.Ab
namespace Go.Ab
def a7Y:Ty→List Field→Bool
 | .pair (.int _) b, f :: r => f.name != "_" && a7Y b r
 | .pair .bool b, f :: r => f.name != "_" && a7Y b r
 |.unit,[]=>true
 |_,_=>false
def d5a(P:Program)(τ:Ty)(t:TypeId):Bool:=
 !P.stoodInHeld t&&(!P.eqGuardType P.depth t&&(match P.underlying t with|some (.struct fs)=>a7Y τ fs.toList|_=>false))
section
variable {P:Program} {w:World} {cx:Cx}
theorem a7Z{τ:Ty}{t:TypeId}(ht:a0u P τ (.inl t)=true)(ha:τ.isAgg=false){xs:Array Value}{off:Nat}{v:Value}(hv:xs[off]?=some v):(part t xs off).run P w=.ok v w:=by
 have h:=b0k ht w;simp_all[part]
theorem c9a{m:Mem}{d:Nat}{xs ys:Array Value}:∀(τ:Ty)(fs:List Field)(off:Nat),a0u P τ (.inr (fs,off))=true→a7Y τ fs=true→∀{x y R R'},dec m τ (fun j=>xs[off+j]?)=some (x,[],R)→dec m τ (fun j=>ys[off+j]?)=some (y,[],R')→
  (Op.eqFields (d+1) xs ys fs).run P w=.ok (eqT τ x y) w:=by
 have split1:∀(a b:Ty)(off:Nat)(zs:Array Value)(x:(Ty.pair a b).den) R,dec m (.pair a b) (fun j=>zs[off+j]?)=some (x,[],R)→
   ∃R1 R2,dec m a (fun j=>zs[off+j]?)=some (x.1,[],R1)∧dec m b (fun j=>zs[off+a.cells+j]?)=some (x.2,[],R2):=by
  intro a b off zs x R h;simp[dec]at h
  split at h
  grind
  rename_i x1 o1 r1 h1
  split at h
  grind
  rename_i x2 o2 r2 h2;obtain⟨h0,h⟩:=Prod.mk.inj (Option.some.inj h);subst h0;obtain⟨ho,-⟩:=Prod.mk.inj (Prod.mk.inj (Option.some.inj h)).2;obtain⟨rfl,rfl⟩:=List.append_eq_nil_iff.1 ho
  grind
 intro τ
 induction τ with
 |pair a b iha ihb=>
  intro fs off ht he x y R R' hx hy;cases fs with
  |nil=>simp[a0u]at ht
  |cons f r=>
   simp[a0u]at ht;obtain⟨⟨⟨ho,hta⟩,-⟩,htb⟩:=ht;obtain⟨R1,R2,h1,h2⟩:=split1 a b off xs x R hx;obtain⟨R3,R4,h3,h4⟩:=split1 a b off ys y R' hy;cases a with
   |int k=>
    simp[a7Y]at he;simp[dec]at h1 h3
    split at h1
    rename_i k1 n1 g1
    split at h3
    rename_i k2 n2 g2;rw[Option.ite_none_right_eq_some]at h1 h3;obtain⟨rfl,h1⟩:=h1;obtain⟨rfl,h3⟩:=h3;have h1:=Prod.mk.inj (Option.some.inj h1);have h3:=Prod.mk.inj (Option.some.inj h3);have e1:=a7Z (w:=w) hta rfl g1;have e2:=a7Z (w:=w) hta rfl g2;have e3:=run_equalIn_int (P:=P) w d f.type k2 k2 n1 n2 (b1V hta);simp only[Op.eqFields,Sem.run_ite,ne_eq,he.1,not_false_eq_true,if_true,Sem.run_bind,ho,e1,e2,e3,Result.andThen_ok,eqT];rw[←h1.1,←h3.1];cases hb:n1==n2
    simp
    grind
    simp_all;simp_all
   |bool=>
    simp[a7Y]at he;simp[dec]at h1 h3;have hu:P.underlying f.type=some .bool:=by
     simp[a0u]at hta
     grind
    split at h1
    rename_i n1 g1
    split at h3
    rename_i n2 g2;have h1:=Prod.mk.inj (Option.some.inj h1);have h3:=Prod.mk.inj (Option.some.inj h3);have e1:=a7Z (w:=w) hta rfl g1;have e2:=a7Z (w:=w) hta rfl g2;have e3:=run_equalIn_bool (P:=P) w d f.type n1 n2 hu;simp only[Op.eqFields,Sem.run_ite,ne_eq,he.1,not_false_eq_true,if_true,Sem.run_bind,ho,e1,e2,e3,Result.andThen_ok,eqT];rw[←h1.1,←h3.1];cases hb:n1==n2
    simp
    grind
    simp_all;simp_all
   |_=>simp[a7Y]at he
 |unit=>
  intro fs off ht he x y R R' hx hy;cases fs with
  |nil=>rfl
  |cons f r=>simp[a7Y]at he
 |_=>intro fs off ht he;simp[a7Y]at he
theorem c3R.of{τ:Ty}{t:TypeId}(ht:a0u P τ (.inl t)=true)(h:d5a P τ t=true):c3R P τ t:=by
 simp[d5a]at h;obtain⟨hs,hg,hp⟩:=h;intro m Sh x y u v w xo yo hu hv
 split at hp
 ·rename_i fs hund;have hfs:P.fieldsOf t=fs:=by simp_all[Program.fieldsOf]
  have hagg:τ.isAgg=true:=by cases τ<;>first|rfl|(simp[a7Y]at hp)
  obtain⟨hu1,-,R,hu3,-⟩:=hu;obtain⟨hv1,-,R',hv3,-⟩:=hv;obtain⟨xs,rfl,-⟩:=hu1 hagg;obtain⟨ys,rfl,-⟩:=hv1 hagg;have hty:a0u P τ (.inr (fs.toList,0))=true:=by
   cases τ with
   |pair a b=>
    simp[a0u,hund]at ht;obtain⟨-,ht⟩:=ht
    split at ht
    all_goals simp_all[a0u]
   |unit=>
    simp_all[a0u]
   |_=>simp[a7Y]at hp
  have key:(Op.equalIn 10000 t (.agg xs) (.agg ys)).run P w=.ok (eqT τ x y) w:=by
   grind[run_equalIn_struct,c9a,Value.cells]
  simp_all[run_eqGuard_agg,run_eql_struct,run_neq_struct]
 simp_all
def d1Z(P:Program)(τ:Ty)(t:TypeId):Bool:=
 !P.eqGuardType P.depth t&&(match τ,P.underlying t with
  |.arr n (.int k),some (.array n' e)=>n'==n&&(P.cellsOf e==1&&((P.info? e).isSome&&a0u P (.int k) (.inl e)))
  |_,_=>false)
theorem c3f{d e:Nat}{k:IntKind}(he:a0u P (.int k) (.inl e)=true){xs ys:Array Value}{x y:List Int}(hx:∀i (h:i<x.length),xs[i]?=some (.int k x[i]))(hy:∀i (h:i<y.length),ys[i]?=some (.int k y[i])):
  ∀(is:List Nat),(∀i∈is,i<x.length∧i<y.length)→(Op.eqItems (d+1) e 1 xs ys is).run P w=.ok (is.all fun i=>x[i]?==y[i]?) w
 | [],_=>by rfl
 |i::is,h=>by
  obtain⟨h1,h2⟩:=h i (by simp);have e1:=a7Z (w:=w) he rfl (show xs[i*1]?=_ by rw[Nat.mul_one];exact hx i h1);have e2:=a7Z (w:=w) he rfl (show ys[i*1]?=_ by rw[Nat.mul_one];exact hy i h2);have e3:=run_equalIn_int (P:=P) w d e k k x[i] y[i] (b1V he);have ih:=c3f (d:=d) he hx hy is (fun j hj=>h j (by grind));simp only[Op.eqItems,Sem.run_bind,e1,e2,e3,Result.andThen_ok];have g1:x[i]?=some x[i]:=lG h1;have g2:y[i]?=some y[i]:=lG h2;cases hb:x[i]==y[i]
  all_goals simp_all
theorem d1i:∀(x y:List Int),x.length=y.length→((a25 x.length).all fun i=>x[i]?==y[i]?)=((a47 (fun(a b:Int)=>a==b) x y).all id)
 | [],[],_=>rfl
 |a::x,b::y,h=>by
  have ih:=d1i x y (by simpa using h);rw[lC,List.range_succ_eq_map,a27,List.all_map,List.zipWith_cons_cons,a27,←ih];simp[Function.comp_def]
theorem c3R.ofArr{τ:Ty}{t:TypeId}(h:d1Z P τ t=true):c3R P τ t:=by
 simp[d1Z]at h;obtain⟨hg,h⟩:=h
 split at h
 rotate_left
 grind
 rename_i n k n' e hund;simp at h;obtain⟨rfl,hc,hi,ht⟩:=h;obtain⟨i,hi⟩:=a00.1 hi;intro m Sh x y u v w xo yo hu hv;obtain⟨hu1,-,R,hu3,-⟩:=hu;obtain⟨hv1,-,R',hv3,-⟩:=hv;obtain⟨xs,rfl,-⟩:=hu1 rfl;obtain⟨ys,rfl,-⟩:=hv1 rfl;have key0:∀{zs:Array Value}{z:List Int}{R},dec m (.arr n' (.int k)) (fun j=>(Value.agg zs).cells[j]?)=some (z,[],R)→z.length=n'∧∀i (h:i<z.length),zs[i]?=some (.int k z[i]):=by
  intro zs z R hz;simp only[dec]at hz;have hl:z.length=n':=a0W n' 0 hz;refine⟨hl,fun i hi'=>?_⟩;obtain⟨a,o,r,A,B,A',B',h1,h2,-⟩:=a0T n' 0 i hz (hl▸hi');have h2:z[i]?=some (show Int from a):=h2;have h2:z[i]=(show Int from a):=Option.some.inj ((lG hi').symm.trans h2);simp[Ty.cells,Value.cells]at h1
  grind
 obtain⟨hxl,hx⟩:=key0 hu3;obtain⟨hyl,hy⟩:=key0 hv3;have key:(Op.equalIn 10000 t (.agg xs) (.agg ys)).run P w=.ok (eqT (.arr n' (.int k)) x y) w:=by
  rw[run_equalIn_array w 9999 xs ys hund hi,hc,c3f (d:=9998) ht hx hy _ (fun j hj=>by simp_all)]
  have:=d1i x y (by omega)
  rw[hxl]at this;rw[this];have hlen:(a07 (show List Int from x)==a07 (show List Int from y))=true:=by simp_all
  show _=Result.ok ((a47 (fun(a b:Int)=>a==b) x y).all id&&(a07 (show List Int from x)==a07 (show List Int from y))) w;simp_all
 simp_all[run_eqGuard_agg,run_eql_struct,run_neq_struct]
theorem c1A{α:Type}:∀(l:List (Nat×α)) (t:Nat) (x:α),find l t=some x→(t,x)∈l
 | [],_,_,h=>by simp[find]at h
 |(k,y)::r,t,x,h=>by
  simp only[find]at h;rcases a0i h with⟨hk,h'⟩|⟨-,h⟩;simp only[sj]at h'
  have:k=t:=by simpa using hk
  rw[this,h'];exact a18 ..;exact a02 _ (c1A r t x h)
def d5U(P:Program)(tab:List (Nat×Ty)):Bool:=tab.all fun p=>decide (p.2.sh=p.2)&&a0u P p.2 (.inl p.1)
def d5V(P:Program)(l:List Nat):Bool:=l.all fun t=>match P.underlying t with|some (.pointer _)=>true|_=>false
def d5W(P:Program)(tab:List (Nat×Ty))(l:List Nat):Bool:=l.all fun t=>match find tab t with|some τ=>!τ.isAgg || (d5a P τ t || d1Z P τ t)|none=>true
theorem CxTy.of{tab:List (Nat×Ty)}{l q:List Nat}(hT:∀t,cx.T t=find tab t)(hE:∀t,cx.E t=l.contains t)(hQ:∀t,cx.Q t=q.contains t)(h1:d5U P tab=true)(h2:d5V P q=true)(h3:d5W P tab l=true):CxTy P cx:=by
 have ok:∀t τ,cx.T t=some τ→τ.sh=τ∧a0u P τ (.inl t)=true:=fun t τ h=>by
  rw[hT]at h
  have:=lA.1 h1 _ (c1A _ _ _ h)
  simp_all
 refine⟨ok,fun t ht=>?_,fun t τ he hτ ha=>?_⟩;rw[hQ]at ht
 have:=lA.1 h2 t (by simp_all)
 grind
 rw[hE]at he
 have:=lA.1 h3 t (by simp_all)
 rw[←hT,hτ]at this;simp[ha]at this;exact this.elim (c3R.of (ok t τ hτ).2) c3R.ofArr
theorem CxOk.of{fs:List (Nat×FSem)}(h:CxTy P cx)(hC:∀f,cx.C f=find fs f)(hf:∀p∈fs,a4X P cx.G p.1 p.2∧b2B P p.1):CxOk P cx:=
 ⟨h,fun f s hs=>by
  rw[hC]at hs;exact hf _ (c1A _ _ _ hs)⟩
theorem a0{α:Type}{p:α→Prop}:∀x∈([]:List α),p x:=fun _ h=>by grind
theorem a1{α:Type}{p:α→Prop}{a:α}{l:List α}(h:p a)(hl:∀x∈l,p x):∀x∈a::l,p x:=fun x hx=>by
 grind
end
def c1B{α:Type}(x:List α):Option (List α):=bif List.isEmpty x then b9z (some ([]:List α)) (bif lim (0+a07 x)then some (a39 [] x)else none)else(bif lim (0+a07 x)then some (a39 [] x)else none)
def b6r{α:Type}(x:List α):Option (List α):=bif lim (0+a07 x)then some x else none
theorem b9O{α:Type}(x:List α):c1B x=b6r x:=by
 unfold c1B b6r;cases x with
 |nil=>exact d1u _
 |cons a x=>rfl
end Go.Ab
namespace Go.Ab
section
variable {α:Type} {f f':Nat→Option (α×a1g×List Nat)}
theorem b6s:∀(n i:Nat){x},(∀j y,f j=some y→f' j=some y)→a0g f n i=some x→a0g f' n i=some x
 |0,_,_,_,h=>h
 |n+1,i,x,hf,h=>by
  simp only[a0g]at h⊢
  split at h
  cases h;rename_i x1 o1 r1 h1;rw[hf _ _ h1];simp only[]
  split at h
  cases h;rename_i xs os rs h2;rw[b6s n (i+1) hf h2];exact h
end
theorem a9Q{m m':Mem}(hm:∀b j v,m b j=some v→m' b j=some v):∀(t:Ty){rd rd':Nat→Option Value}{x},(∀j v,rd j=some v→rd' j=some v)→dec m t rd=some x→dec m' t rd'=some x
 |.int k,rd,rd',x,hr,h=>by
  grind[dec]
 |.bool,rd,rd',x,hr,h=>by
  grind[dec]
 |.str,rd,rd',x,hr,h=>by
  grind[dec]
 |.unit,rd,rd',x,hr,h=>h
 |.pair a b,rd,rd',x,hr,h=>by
  simp only[dec]at h⊢
  split at h
  cases h;rename_i x1 o1 r1 h1;rw[a9Q hm a hr h1];simp only[]
  split at h
  cases h;rename_i x2 o2 r2 h2;rw[a9Q hm b (fun j v=>hr _ v) h2];exact h
 |.arr n t,rd,rd',x,hr,h=>by
  simp only[dec]at h⊢;exact b6s n 0 (fun j y hy=>a9Q hm t (fun i v=>hr _ v) hy) h
 |.list o t,rd,rd',x,hr,h=>by
  simp[dec]at h⊢;unfold a1j at h⊢
  split at h
  simp_all;rename_i a n c hv;rw[hr _ _ hv]
  simp
  split at h
  rename_i hc;rw[if_pos hc]
  split at h
  grind
  rename_i xs os rs h3;rw[b6s n 0 (fun j y hy=>a9Q hm t (fun i v hv=>hm _ _ _ hv) hy) h3];omega;simp_all;simp_all
 |.nl t,rd,rd',x,hr,h=>by
  grind[dec]
theorem Src.rd_grow{m m':Mem}(hm:∀b j v,m b j=some v→m' b j=some v)(s:Src):∀j v,s.rd m j=some v→s.rd m' j=some v:=by
 intro j v h;cases s with
 |one u=>exact h
 |_=>exact hm _ _ _ h
theorem a9R{m m':Mem}(hm:∀b j v,m b j=some v→m' b j=some v):∀(p:a0R)(t:Ty)(s:Src){x},a0V m p t s=some x→a0V m' p t s=some x
 | [],t,s,x,h=>h
 |.fst::p,t,s,x,h=>by
  unfold a0V at h⊢
  split at h
  exact a9R hm p _ _ h;cases h
 |.snd::p,t,s,x,h=>by
  unfold a0V at h⊢
  split at h
  exact a9R hm p _ _ h;cases h
 |.idx i::p,t,s,x,h=>by
  unfold a0V at h⊢
  split at h
  rename_i n t' bl o
  split at h
  rename_i hlt;simp[if_pos hlt];exact a9R hm p _ _ h;simp_all;rename_i t' s'
  split at h
  rename_i a n c hv
  split at h
  rename_i hlt;simp[Src.rd_grow hm s _ _ hv,if_pos hlt];exact a9R hm p _ _ h;simp_all;simp_all;omega
structure Turns (B:Base) (w w':World):Prop where
 cells:∀(c:Nat)(o:Obj),w.heap[c]?=some o→o.isCells=true→w'.heap[c]?=some o
 size:w.heap.size≤w'.heap.size
 frame:∀b,b<B.size→w'.heap[b]?=w.heap[b]?
 io:a2n w'=a2n w
theorem c7h{w w':World}(hcells:∀(c:Nat)(o:Obj),w.heap[c]?=some o→o.isCells=true→w'.heap[c]?=some o)(ov:Option (Nat×Nat×Value)):∀b j v,a0a w ov b j=some v→a0a w' ov b j=some v:=by
 have hc:∀b j v,w.cell? ⟨b,j,none⟩=some v→w'.cell? ⟨b,j,none⟩=some v:=fun b j v hv=>by
  grind[cells_of_cell,World.cell?]
 intro b j v hv;cases ov with
 |none=>exact hc b j v hv
 |some y=>
  obtain⟨b',o',u⟩:=y;simp[a0a]at hv⊢
  grind
theorem Rel.turnedG{B:Base}{Γ:AE}{N:Nat}{tm:Nat→Value}{w w':World}{σ:Gh}(h:Rel B Γ N tm w σ)(hcells:∀(c:Nat)(o:Obj),w.heap[c]?=some o→o.isCells=true→w'.heap[c]?=some o)
  (hsize:w.heap.size≤w'.heap.size):Rel { B with hp:=fun b=>w'.heap[b]?,io:=a2n w' } Γ N tm w' σ:=by
 have hm:=c7h hcells σ.ov;have hsh:∀c,Shr B w σ c→Shr { B with hp:=fun b=>w'.heap[b]?,io:=a2n w' } w' σ c:=fun c hc=>⟨a03 hc.1 hsize,hc.2⟩;have hav:∀a v,a0j (a0a w σ.ov) σ.g Γ.rt (Shr B w σ) a v→a0j (a0a w' σ.ov) σ.g Γ.rt (Shr { B with hp:=fun b=>w'.heap[b]?,io:=a2n w' } w' σ) a v:=fun a v ha=>by
  cases a with
  |val t x=>
   obtain⟨h1,h2,R,h3,h4⟩:=ha;exact⟨h1,h2,R,a9Q hm t (fun _ _ hv=>hv) h3,fun c hc=>hsh c (h4 c hc)⟩
  |vptr t x=>
   obtain⟨b,o,R,h1,h2,h3,h4⟩:=ha;exact⟨b,o,R,h1,a9Q hm t (Src.rd_grow hm _) h2,hsh b h3,fun c hc=>hsh c (h4 c hc)⟩
  |ptr n p=>
   obtain⟨r,t,b,o,h1,h2,h3⟩:=ha;exact⟨r,t,b,o,h1,a9R hm p _ _ h2,h3⟩
  |sref n p=>
   obtain⟨r,e,s,h1,h2,h3⟩:=ha;exact⟨r,e,s,h1,a9R hm p _ _ h2,Src.rd_grow hm s _ _ h3⟩
  |swin n p off len=>
   obtain⟨r,e,s,a,l,c,h1,h2,h3,h4⟩:=ha;exact⟨r,e,s,a,l,c,h1,a9R hm p _ _ h2,Src.rd_grow hm s _ _ h3,h4⟩
  |_=>exact ha
 refine⟨fun n r hr=>?_,h.norm,h.nodup,h.disj,fun n p hp=>?_,fun i hi=>?_,?_,a09 h.size hsize,fun b _ _=>rfl,h.mine,h.pins,rfl⟩;obtain⟨O',R,g1,g2,g3⟩:=(h.roots n r hr).rd;exact⟨O',R,a9Q hm _ (Src.rd_grow hm _) g1,fun c hc=>hsh c (g2 c hc),g3⟩;obtain⟨c,e,lo,hi,h1,h2,h3⟩:=h.live n p hp;exact⟨c,e,lo,hi,hcells _ _ h1 rfl,h2,h3⟩
 ·have hs:=h.slots i hi
  revert hs
  cases Γ.sl i with
  |one a=>exact fun hs=>hav a _ hs
  |cmp c as=>
   rintro⟨vs,h1,h2⟩
   exact⟨vs,h1,fun k a hk=>by
    grind⟩
 exact h.pend.mono fun n p d r e b o hpd hr hl=>⟨r,hr,a9R hm p _ _ hl⟩
theorem Rel.turned{B:Base}{Γ:AE}{N:Nat}{tm:Nat→Value}{w w':World}{σ:Gh}(h:Rel B Γ N tm w σ)(ht:Turns B w w'):Rel B Γ N tm w' σ:=by
 have h1:=h.turnedG ht.cells ht.size;exact⟨h1.roots,h1.norm,h1.nodup,h1.disj,h1.live,h1.slots,h1.pend,h1.size,fun b hb hF=>(ht.frame b hb).trans (h.frame b hb hF),h1.mine,h1.pins,ht.io.trans h.still⟩
def Base.anew(B:Base)(w:World)(σ:Gh):Base where
 size:=w.heap.size
 hp:=fun b=>w.heap[b]?
 F:=a0P σ
 S:=fun c=>(B.S c∨B.F c∨B.size≤c)∧¬ a0P σ c
 pin:=fun i=>match B.pin i with
  |some b=>some b
  |none=>some (σ.g (pinned+i))
 io:=a2n w
theorem d5b{B:Base}{w:World}{σ:Gh}{c:Nat}:Shr (B.anew w σ) w σ c↔Shr B w σ c:=by
 constructor
 rintro⟨h1,h2,h3⟩
 refine⟨h1,?_,h3⟩;rcases h2 with h2|h2|h2;exact h2.1;exact absurd h2 h3;have h2:w.heap.size≤c:=h2;omega
 rintro⟨h1,h2,h3⟩
 exact⟨h1,.inl ⟨h2,h3⟩,h3⟩
theorem Rel.anew{B:Base}{Γ:AE}{N:Nat}{tm:Nat→Value}{w:World}{σ:Gh}(h:Rel B Γ N tm w σ):Rel (B.anew w σ) Γ N tm w σ:=by
 have e:Shr (B.anew w σ) w σ=Shr B w σ:=funext fun c=>propext d5b;refine⟨fun n r hr=>by rw[e];exact h.roots n r hr,h.norm,h.nodup,h.disj,h.live,fun i hi=>by rw[e];exact h.slots i hi,h.pend,a19 _,fun b _ _=>rfl,fun c hc=>.inl hc,fun i b hb hne=>?_,rfl⟩;simp[Base.anew]at hb
 split at hb
 rename_i b' hb';cases hb;exact h.pins i b hb' hne;simp_all
theorem c9b{B:Base}{Γ0:AE}{N0:Nat}{tm0:Nat→Value}{w w':World}{σ σ':Gh}(h0:Rel B Γ0 N0 tm0 w σ){f:Nat→Option Src}{c:Nat}(hc:Shr { B.anew w σ with pin:=f } w' σ' c):Shr B w' σ' c:=by
 obtain⟨h1,h2,h3⟩:=hc;refine⟨h1,?_,h3⟩;rcases h2 with h2|h2|h2;exact h2.1;exact .inr (h0.mine c h2);have h2:w.heap.size≤c:=h2;exact .inr (.inr (a09 h0.size h2))
theorem Rel.backP{B:Base}{Γ0 Γ:AE}{N0 N:Nat}{tm0 tm:Nat→Value}{w w':World}{σ σ':Gh}{f:Nat→Option Src}(hf:∀i b,B.pin i=some b→f i=some b)(h0:Rel B Γ0 N0 tm0 w σ)(h:Rel { B.anew w σ with pin:=f } Γ N tm w' σ'):Rel B Γ N tm w' σ':=by
 have hsh:∀c,Shr { B.anew w σ with pin:=f } w' σ' c→Shr B w' σ' c:=fun c hc=>c9b h0 hc;have hav:∀a v,a0j (a0a w' σ'.ov) σ'.g Γ.rt (Shr { B.anew w σ with pin:=f } w' σ') a v→a0j (a0a w' σ'.ov) σ'.g Γ.rt (Shr B w' σ') a v:=fun a v ha=>
  ha.frame (fun _ _ _=>rfl) hsh fun n p r t s _ hr hl=>⟨r,hr,hl,fun _ _ hu=>hu⟩
 refine⟨fun n r hr=>?_,h.norm,h.nodup,h.disj,h.live,fun i hi=>?_,h.pend,a09 h0.size h.size,fun b hb hF=>?_,fun c hc=>?_,fun i b hb hne=>h.pins i b (hf i b hb) hne,h.still.trans h0.still⟩;obtain⟨O',R,g1,g2,g3⟩:=(h.roots n r hr).rd;exact⟨O',R,g1,fun c hc=>hsh c (g2 c hc),g3⟩
 ·have hs:=h.slots i hi
  revert hs
  cases Γ.sl i with
  |one a=>exact fun hs=>hav a _ hs
  |cmp c as=>
   rintro⟨vs,h1,h2⟩
   exact⟨vs,h1,fun k a hk=>by
    grind⟩
 ·have hlt:b<w.heap.size:=a03 hb h0.size;have hno:¬ a0P σ b:=fun ho=>by
   rcases h0.mine b ho with g|g
   all_goals grind
  exact(h.frame b hlt hno).trans (h0.frame b hb hF)
 rcases h.mine c hc with g|g;exact h0.mine c g;have g:w.heap.size≤c:=g;exact .inr (a09 h0.size g)
theorem Rel.back{B:Base}{Γ0 Γ:AE}{N0 N:Nat}{tm0 tm:Nat→Value}{w w':World}{σ σ':Gh}(h0:Rel B Γ0 N0 tm0 w σ)(h:Rel (B.anew w σ) Γ N tm w' σ'):Rel B Γ N tm w' σ':=
 h0.backP (f:=(B.anew w σ).pin) (fun i b hb=>by simp_all[Base.anew]) h
end Go.Ab
namespace Go.Ab
theorem Rel.unpin{B:Base}{Γ:AE}{N:Nat}{tm:Nat→Value}{w:World}{σ:Gh}(h:Rel B Γ N tm w σ)(f:Nat→Option Src)(hf:∀i b,f i=some b→B.pin i=some b):Rel { B with pin:=f } Γ N tm w σ:=
 ⟨h.roots,h.norm,h.nodup,h.disj,h.live,h.slots,h.pend,h.size,h.frame,h.mine,fun i b hb hne=>h.pins i b (hf i b hb) hne,h.still⟩
def AE.renAll{ρ:Type}(Γ:AE):List Nat→(AE→Rs ρ)→Rs ρ
 | [],K=>K Γ
 |n::ns,K=>match Γ.look n,Γ.rt (pinned+1000+n)with
  |some r,none=>AE.renAll (((Γ.mapv (AV.ren n (pinned+1000+n))).setRt n none).setRt (pinned+1000+n) (some r)) ns K
  |_,_=>none
theorem Rel.renAll{ρ:Type}{B:Base}{N:Nat}{tm:Nat→Value}{w:World}(hB:∀i b,1000≤i→B.pin i≠some b):∀(ns:List Nat){Γ:AE}{σ:Gh}{K:AE→Rs ρ}{z:ρ}(_:Rel B Γ N tm w σ)(_:Γ.renAll ns K=some z),∃Γ' σ',K Γ'=some z∧Rel B Γ' N tm w σ'
 | [],Γ,σ,K,z,h,hz=>⟨Γ,σ,hz,h⟩
 |n::ns,Γ,σ,K,z,h,hz=>by
  simp only[AE.renAll]at hz
  split at hz
  rename_i r h1 h2;obtain⟨hpd,hr⟩:=a0N h1;exact Rel.renAll hB ns (h.rename hr h2 (fun i b e=>hB i b (by omega)) (by simp[hpd])) hz;cases hz
def a1c:a0f→Bool
 | []=>true
 |.sv _ _::r=>a1c r
 |.box n _::r=>(decide (pinned≤n)&&!(a0f.names r).contains n)&&a1c r
 |.own _ n _::r=>(decide (pinned≤n)&&!(a0f.names r).contains n)&&a1c r
 |.ptr _ n []::r=>decide (pinned≤n)&&a1c r
 |_=>false
def c9c:SV→Prop
 |.one .dead=>True
 |.one (.val _ _)=>True
 |.one (.ptr n [])|.one (.sref n [])=>pinned≤n
 |_=>False
theorem b6a:∀(es:a0f)(x:es.ty.den)(_:a1c es=true)(i:Nat),c9c ((es.enc x).sl i)
 | [],_,_,i=>trivial
 |.sv k t::r,x,h,i=>by
  simp only[a0f.enc,a2I];split;trivial;exact b6a r x.2 (by simpa[a1c]using h) i
 |.box n t::r,x,h,i=>by
  simp only[a1c,bA]at h;exact b6a r x.2 h.2 i
 |.own k n e::r,x,h,i=>by
  simp only[a1c,bA,dT]at h;show c9c ((((a0f.enc r x.2).setRt n (some ⟨false,.list true e,x.1⟩)).set k (.sref n [])).sl i);rw[a2I];split;exact h.1.1;exact b6a r x.2 h.2 i
 |.ptr k n p::r,x,h,i=>by
  cases p with
  |cons=>simp[a1c]at h
  |nil=>
   simp[a1c]at h;simp[a0f.enc,a2I];split;exact h.1;exact b6a r x h.2 i
 |.vp _ _::_,_,h,_|.ref _ _ _::_,_,h,_|.rfi _ _::_,_,h,_|.win _ _ _::_,_,h,_|.clo _ _ _::_,_,h,_=>by simp[a1c]at h
theorem a6c:∀(es:a0f)(x:es.ty.den),(es.enc x).pd=none
 | [],_=>rfl
 |.sv _ _::r,x=>a6c r x.2
 |.box _ _::r,x=>a6c r x.2
 |.ptr _ _ _::r,x=>a6c r x
 |.own _ _ _::r,x=>a6c r x.2
 |.vp _ _::r,x=>a6c r x.2
 |.ref _ _ _::r,x=>a6c r x
 |.rfi _ _::r,x=>a6c r x.2
 |.win _ _ _::r,x=>a6c r x.2.2
 |.clo _ _ _::r,x=>a6c r x
theorem b8V:∀(es:a0f)(x:es.ty.den)(_:a1c es=true)(n:Nat),(es.enc x).rt n≠none→n∈es.names
 | [],_,_,n,h=>absurd rfl h
 |.sv k t::r,x,h,n,hn=>b8V r x.2 (by simpa[a1c]using h) n hn
 |.box m t::r,x,h,n,hn=>by
  simp only[a1c,bA]at h;simp only[a0f.enc,b3L]at hn
  split at hn
  rename_i e;subst e;simp[a0f.names];simp only[a0f.names,mC];exact .inr (b8V r x.2 h.2 n hn)
 |.own k m e::r,x,h,n,hn=>by
  simp only[a1c,bA]at h;have hn:((a0f.enc r x.2).setRt m (some ⟨false,.list true e,x.1⟩)).rt n≠none:=hn;rw[b3L]at hn
  split at hn
  rename_i e;subst e;simp[a0f.names];simp only[a0f.names,mC];exact .inr (b8V r x.2 h.2 n hn)
 |.ptr k m p::r,x,h,n,hn=>by
  cases p with
  |cons=>simp[a1c]at h
  |nil=>
   simp[a1c]at h;exact b8V r x h.2 n hn
 |.vp _ _::_,_,h,_,_|.ref _ _ _::_,_,h,_,_|.rfi _ _::_,_,h,_,_|.win _ _ _::_,_,h,_,_|.clo _ _ _::_,_,h,_,_=>by simp[a1c]at h
theorem b3P:∀(es:a0f)(x:es.ty.den)(_:a1c es=true){i n:Nat}(_:(es.enc x).sl i=.one (.sref n [])),n∈es.names∧∃e l,(es.enc x).rt n=some ⟨false,.list true e,l⟩
 | [],_,_,i,n,h=>by cases h
 |.sv k t::r,x,h,i,n,hs=>by
  have hs:((a0f.enc r x.2).set k (.val t x.1)).sl i=.one (.sref n []):=hs;rw[a2I]at hs
  split at hs
  cases hs;exact b3P r x.2 (by simpa[a1c]using h) hs
 |.box m t::r,x,h,i,n,hs=>by
  simp only[a1c,bA,a53,a44,decide_eq_false_iff_not]at h;obtain⟨h1,e,l,h2⟩:=b3P r x.2 h.2 (i:=i) (n:=n) hs;refine⟨by simp[a0f.names,h1],e,l,?_⟩;show((a0f.enc r x.2).setRt m _).rt n=_;rw[b3L,if_neg (show ¬ n=m from fun g=>h.1.2 (g▸h1))];omega
 |.own k m e::r,x,h,i,n,hs=>by
  simp only[a1c,bA,a53,a44,decide_eq_false_iff_not]at h;have hs:(((a0f.enc r x.2).setRt m (some ⟨false,.list true e,x.1⟩)).set k (.sref m [])).sl i=.one (.sref n []):=hs;show n∈_∧∃e' l,((a0f.enc r x.2).setRt m (some ⟨false,.list true e,x.1⟩)).rt n=some ⟨false,.list true e',l⟩;rw[a2I]at hs;rw[b3L]
  split at hs
  cases hs;exact⟨by simp[a0f.names],e,x.1,by simp⟩;obtain⟨h1,e',l,h2⟩:=b3P r x.2 h.2 (i:=i) (n:=n) hs;exact⟨by simp[a0f.names,h1],e',l,by grind⟩
 |.ptr k m p::r,x,h,i,n,hs=>by
  cases p with
  |cons=>simp[a1c]at h
  |nil=>
   simp only[a1c,bA]at h;have hs:((a0f.enc r x).set k (.ptr m [])).sl i=.one (.sref n []):=hs;rw[a2I]at hs
   split at hs
   grind
   exact b3P r x h.2 hs
 |.vp _ _::_,_,h,_,_,_|.ref _ _ _::_,_,h,_,_,_|.rfi _ _::_,_,h,_,_,_|.win _ _ _::_,_,h,_,_,_|.clo _ _ _::_,_,h,_,_,_=>by simp[a1c]at h
section
variable {B:Base} {N:Nat} {w w':World} {σ σ':Gh} {Γ:AE}
theorem Rel.kept{tm':Nat→Value}{Γ':AE}(h:Rel (B.anew w σ) Γ' N tm' w' σ'){c:Nat}(hc:Shr B w σ c):w'.heap[c]?=w.heap[c]?∧Shr (B.anew w σ) w' σ' c:=by
 have hlt:c<(B.anew w σ).size:=hc.1;have hno:¬ (B.anew w σ).F c:=hc.2.2;refine⟨h.frame c hlt hno,a03 hc.1 h.size,.inl hc.2,fun ho=>?_⟩;rcases h.mine c ho with g|g
 all_goals grind
theorem VOk.kept{tm':Nat→Value}{Γ':AE}(h:Rel (B.anew w σ) Γ' N tm' w' σ')(hov:σ.ov=none)(hov':σ'.ov=none){t:Ty}{x:t.den}{v:Value}(hv:VOk (a0a w σ.ov) (Shr B w σ) t x v):
  VOk (a0a w' σ'.ov) (Shr (B.anew w σ) w' σ') t x v:=
 hv.frame (fun c j hc=>by rw[hov,hov'];exact a1s none (h.kept hc).1 j) fun c hc=>(h.kept hc).2
theorem Rel.again{tm tm':Nat→Value}{Γ':AE}(h0:Rel B Γ N tm w σ)(hfl:∀i,i<N→c9c (Γ.sl i))(hpd:Γ.pd=none)(h:Rel (B.anew w σ) Γ' N tm' w' σ')(hpd':Γ'.pd=none)
  (hn:∀i n,i<N→Γ.sl i=.one (.ptr n [])∨Γ.sl i=.one (.sref n [])→Γ'.rt n≠none)(ho:∀i n,i<N→Γ.sl i=.one (.sref n [])→∃u,σ.g n=.one u):Rel (B.anew w σ) { Γ' with sl:=Γ.sl } N tm w' σ'∧∀i n,i<N→Γ.sl i=.one (.sref n [])→∃u,σ'.g n=.one u:=by
 have hov:=h0.ov_none hpd;have hov':=h.ov_none hpd';have hpin:∀n,pinned≤n→Γ.rt n≠none→Γ'.rt n≠none→σ'.g n=σ.g n:=fun n hf h1 h2=>by
  obtain⟨i,rfl⟩:∃i,n=pinned+i:=⟨n-pinned,by omega⟩;refine h.pins i _ ?_ h2;simp[Base.anew];cases hp:B.pin i with
  |none=>rfl
  |some b'=>rw[h0.pins i b' hp h1]
 refine⟨⟨h.roots,h.norm,h.nodup,h.disj,h.live,fun i hi=>?_,h.pend,h.size,h.frame,h.mine,h.pins,h.still⟩,fun i n hi hs=>?_⟩;rotate_left;have hf:=hfl i hi;have hk:=h0.slots i hi;rw[hs]at hf hk;obtain⟨r,e,s,h1,-⟩:=hk;rw[hpin n hf (by simp_all) (hn i n hi (.inr hs))]
 grind
 have hs:=h0.slots i hi;have hf:=hfl i hi;have hn:=hn i;have ho:=ho i;show b1R _ _ Γ'.rt _ (Γ.sl i) _
 revert hs hf hn ho
 cases Γ.sl i with
 |cmp c vs=>intro _ hf;exact hf.elim
 |one a=>
  cases a with
  |dead=>intro _ _ _ _;trivial
  |val t x=>intro hs _ _ _;exact VOk.kept h hov hov' hs
  |ptr n p=>
   cases p with
   |cons=>intro _ hf;exact hf.elim
   |nil=>
    intro hs hf hn _;obtain⟨r,t,b,o,h1,h2,h3⟩:=hs;have hr':=hn n hi (.inl rfl);have hg:=hpin n hf (by simp_all) hr';obtain⟨r',hr'⟩:=a34.1 hr';simp[a0V]at h2;refine⟨r',r'.t,b,o,hr',?_,h3⟩;show some (r'.t,σ'.g n)=_;simp_all
  |sref n p=>
   cases p with
   |cons=>intro _ hf;exact hf.elim
   |nil=>
    intro hs hf hn ho;obtain⟨u0,hu0⟩:=ho n hi rfl;obtain⟨r,e0,s0,h1,h2,h3⟩:=hs;have hr':=hn n hi (.inr rfl);have hg:=hpin n hf (by simp_all) hr';simp[a0V]at h2;rw[←h2.2,hu0]at h3;rw[hu0]at hg;obtain⟨r',hr'⟩:=a34.1 hr';rcases h.src_of hr' with⟨-,b,g⟩|⟨-,u,e,g,ht⟩;simp_all;refine⟨r',e,.one u0,hr',?_,h3⟩;show some (r'.t,σ'.g n)=_;simp_all
  |_=>intro _ hf;exact hf.elim
end
def d3W{ρ:Type}(s:a0f)(x:s.ty.den)(Γ:AE)(K:s.ty.den→Rs ρ):Rs ρ:=match Γ.pd with
 |none=>bif s.names.all (fun n=>(Γ.rt n).isSome)then s.dcd { Γ with sl:=(s.enc x).sl } K else none
 |some _=>none
def b4j{α S R:Type}(f:Int→α→S→Option (S ⊕ R))(l:List α):Nat→S→Option (S ⊕ R)
 |0,s=>some (.inl s)
 |n+1,s=>match l[n]? with
  |none=>none
  |some v=>match f n v s with
   |none=>none
   |some (.inl s')=>b4j f l n s'
   |some (.inr r)=>some (.inr r)
def rnd(cx:Cx)(H:Hints)(p:Nat)(s:a0f)(i1 i2:Nat)(assign body:Code)(e:Ty)(k:Int)(v:e.den)(x:s.ty.den):Option (s.ty.den ⊕ (Ex×s.ty.den)):=
 a1S cx H assign (2*p) (((s.enc x).set i1 (.val (.int .i64) k)).set i2 (.val e v)) fun ex Γ=>match ex with
  |.normal=>match Γ.pd with
   |none=>bif s.names.all (fun n=>(Γ.rt n).isSome)then
     a1S cx H body (2*p+1) Γ fun ex Γ'=>d3W s x Γ' fun x'=>match ex with
      |.normal=>some (.inl x')
      |ex=>some (.inr (ex,x'))
    else none
   |some _=>none
  |_=>none
structure HintR where
 t:Nat
 e:Ty
 mkr:Nat
 it:Nat
 ns:List Nat
 s:a0f
structure RParts where
 ops:Array Oper
 b:Nat
 g:Nat
 i1:Nat
 i2:Nat
 assign:Code
 body:Code
def b8W:Code→Code→Option RParts
 |.region _ ops false,.block b (.rangeFunc (.tmp g) ps assign body)=>match ps.toList with
  | [i1,i2]=>some ⟨ops,b,g,i1,i2,assign,body⟩
  |_=>none
 |_,_=>none
def c6t(o:Oper)(r:HintR)(g:Nat):Bool:=match o.op with
 |.call c=>(match c.callee,c.args.toList with
  |.value (.func f),[.tmp t]=>f==r.mkr&&t==r.t&&(o.dst==some g)&&o.guard.isNone
  |_,_=>false)
 |_=>false
def d2a{t e:Ty}(h:t=.list false e)(l:t.den):List e.den:=(h▸l:(Ty.list false e).den)
def c9d{ρ:Type}(cx:Cx)(H:Hints)(r:HintR)(q:RParts)(p:Nat)(Γ:AE)(K:Ex→AE→Rs ρ):Rs ρ:=
 match q.ops.toList with
 | [mv,cl]=>bif c6t cl r q.g&&(a1c r.s&&mv.guard.isNone)then
   aop cx false mv Γ fun Γ1=>match Γ1.pd with
    |some _=>none
    |none=>(Γ1.set q.g .dead).renAll r.ns fun Γ2=>r.s.dcd Γ2 fun x=>match (r.s.enc x).get r.t with
     |.val t l=>if h:t=.list false r.e then
       (bif lim (a07 (d2a h l))then(b4j (rnd cx H (2*p+1) r.s q.i1 q.i2 q.assign q.body r.e) (d2a h l) (a07 (d2a h l)) x).bind fun y=>match y with
        |.inl x'=>K .normal (r.s.enc x')
        |.inr (.normal,x')=>K .normal (r.s.enc x')
        |.inr (.exit i,x')=>bif i==q.b then K .normal (r.s.enc x')else K (.exit i) (r.s.enc x')
        |.inr (.ret,x')=>K .ret (r.s.enc x')
       else none)
      else none
     |_=>none
  else none
 |_=>none
def a9S:Code→Bool
 |.seq a b=>a9S a || a9S b
 |.cond _ a b=>a9S a || a9S b
 |.block _ c|.loop c=>a9S c
 |.rangeFunc _ _ _ _=>true
 |_=>false
def b8X(cx:Cx)(H:Hints)(r:HintR):Code→Nat→{ρ:Type}→AE→(Ex→AE→Rs ρ)→Rs ρ
 |.seq a b,p,_,Γ,K=>match b8W a b with
  |some q=>c9d cx H r q p Γ K
  |none=>bif a9S a then b8X cx H r a (2*p) Γ fun e Γ'=>match e with
    |.normal=>a1S cx H b (2*p+1) Γ' K
    |e=>K e Γ'
   else a1S cx H a (2*p) Γ fun e Γ'=>match e with
    |.normal=>b8X cx H r b (2*p+1) Γ' K
    |e=>K e Γ'
 |c,p,_,Γ,K=>a1S cx H c p Γ K
def d2b(cx:Cx)(H:Hints)(r:HintR)(fn:Func)(ps:List PA)(rs:List RA)(x:(a2g (ps.map PA.ty)).den):Option (a2g ((RA.all ps rs).map RA.ty)).den:=
 match fn.body with
 |none=>none
 |some body=>b8X cx H r body 1 (ini ps x) fun e Γ=>match e,Γ.pd with
  |.exit _,_=>none
  |_,some _=>none
  |_,none=>(Γ.upto fn.ntmps).outs cx [] fn.ntmps (RA.all ps rs) (fn.results.toList.map .inl++(a0I ps 0).map fun i=>.inr (b2w ps i)) fun y _=>some y
end Go.Ab
namespace Go.Ab
section
variable {P:Program} {B:Base} {N:Nat} {cx:Cx} {H:Hints} {w w':World} {σ σ':Gh} {Γ Γ':AE} {tm tm':Nat→Value}
theorem GOk.anew{G:c1g}(hG:GOk G B)(h:Rel B Γ N tm w σ):GOk G (B.anew w σ):=by
 intro g t x hg;obtain⟨h1,h2,h3,w0,h4,h5⟩:=hG g t x hg;have hno:¬ a0P σ g:=fun ho=>by
  rcases h.mine _ ho with q|q
  all_goals grind
 exact⟨a03 h1 h.size,⟨.inl h2,hno⟩,hno,w0,h4.trans (h.frame g h1 h3).symm,h5⟩
theorem VOk.uniq{m:Mem}{Sh Sh':Nat→Prop}{t:Ty}{x y:t.den}{v:Value}(h:VOk m Sh t x v)(h':VOk m Sh' t y v):x=y:=by
 obtain⟨-,-,R,h1,-⟩:=h;obtain⟨-,-,R',h2,-⟩:=h';simp_all
theorem VOk.run(h0:Rel B Γ N tm w σ)(h:Rel (B.anew w σ) Γ' N tm' w' σ')(hov:σ.ov=none)(hov':σ'.ov=none){t:Ty}{x:t.den}{v:Value}(hv:VOk (a0a w σ.ov) (Shr B w σ) t x v):
  VOk (a0a w' σ'.ov) (Shr B w' σ') t x v:=
 (VOk.kept h hov hov' hv).frame (fun _ _ _=>rfl) fun _ hc=>c9b h0 (f:=(B.anew w σ).pin) hc
theorem VOk.turned{ov:Option (Nat×Nat×Value)}(hcells:∀(c:Nat)(o:Obj),w.heap[c]?=some o→o.isCells=true→w'.heap[c]?=some o)(hsize:w.heap.size≤w'.heap.size){t:Ty}{x:t.den}{v:Value}
  (hv:VOk (a0a w ov) (Shr B w σ) t x v):VOk (a0a w' ov) (Shr B w' σ) t x v:=by
 obtain⟨h1,h2,R,h3,h4⟩:=hv;exact⟨h1,h2,R,a9Q (c7h hcells ov) t (fun _ _ hv=>hv) h3,fun c hc=>⟨a03 (h4 c hc).1 hsize,(h4 c hc).2⟩⟩
theorem b2G{W:World}{l:Nat}{o:Obj}(hl:W.heap[l]?=some o)(ho:o.isCells=false)(hB:B.size≤l)(o':Obj):Turns B W (W.putObj l o'):=by
 refine⟨fun c oc hc hcc=>?_,(grownBy_putObj' W l o').size,fun b hb=>World.putObj_heap_other (by omega),rfl⟩
 have:c≠l:=by
  grind
 simp_all[World.putObj_heap_other]
theorem b8o{W:World}(hB:B.size≤W.heap.size)(o:Obj):Turns B W (W.alloc o):=
 ⟨fun c oc hc _=>(RowKit.Below.heap_alloc W _ c (a16.1 hc).1).trans hc,by simp,fun b hb=>RowKit.Below.heap_alloc W _ b (by omega),rfl⟩
theorem d3X(h:Rel B Γ N tm w σ){l:Nat}{o:Obj}(hl:w.heap[l]?=some o)(ho:o.isCells=false):¬ a0P σ l:=by
 rintro⟨n,hn⟩
 obtain⟨p,hp,rfl⟩:=a17.1 hn;obtain⟨c,e,lo,hi,h1,-⟩:=h.live n p hp;rw[hl]at h1;cases h1;cases ho
theorem Rel.others(h0:Rel B Γ N tm w σ)(h:Rel (B.anew w σ) Γ' N tm' w' σ'){l:Nat}{o:Obj}(hl:w.heap[l]?=some o)(ho:o.isCells=false):w'.heap[l]?=some o:=
 (h.frame l (a16.1 hl).1 (d3X h0 hl ho)).trans hl
theorem c6u(Γ:AE)(i j:Nat)(v:AV):(Γ.set i v).get j=if j=i then v else Γ.get j:=by
 grind[AE.get,a2I]
theorem b6t:∀(es:a0f)(x x':es.ty.den){i:Nat}{T:Ty}{y:T.den}(_:a1c es=true)(_:(es.enc x).get i=.val T y),∃y':T.den,(es.enc x').get i=.val T y'
 | [],_,_,_,_,_,_,h=>by simp_all[a0f.enc]
 |.sv k t::r,x,x',i,T,y,hf,h=>by
  have h:((a0f.enc r x.2).set k (.val t x.1)).get i=.val T y:=h;show ∃y':T.den,((a0f.enc r x'.2).set k (.val t x'.1)).get i=.val T y';rw[c6u]at h⊢
  by_cases e:i=k
  grind
  rw[if_neg e]at h⊢;exact b6t r x.2 x'.2 (by simpa[a1c]using hf) h
 |.box n t::r,x,x',i,T,y,hf,h=>by
  simp only[a1c,bA]at hf;exact b6t r x.2 x'.2 hf.2 h
 |.ptr k n p::r,x,x',i,T,y,hf,h=>by
  cases p with
  |cons=>simp[a1c]at hf
  |nil=>
   simp only[a1c,bA]at hf;have h:((a0f.enc r x).set k (.ptr n [])).get i=.val T y:=h;show ∃y':T.den,((a0f.enc r x').set k (.ptr n [])).get i=.val T y';rw[c6u]at h⊢
   by_cases e:i=k
   simp_all;rw[if_neg e]at h⊢;exact b6t r x x' hf.2 h
 |.own k m e::r,x,x',i,T,y,hf,h=>by
  simp only[a1c,bA]at hf;have h:(((a0f.enc r x.2).setRt m (some ⟨false,.list true e,x.1⟩)).set k (.sref m [])).get i=.val T y:=h;show ∃y':T.den,(((a0f.enc r x'.2).setRt m (some ⟨false,.list true e,x'.1⟩)).set k (.sref m [])).get i=.val T y';rw[c6u]at h⊢
  by_cases e:i=k
  simp_all;rw[if_neg e]at h⊢;exact b6t r x.2 x'.2 hf.2 h
 |.rfi _ _::_,_,_,_,_,_,h,_=>by simp[a1c]at h
 |.vp _ _::_,_,_,_,_,_,h,_=>by simp[a1c]at h
 |.ref _ _ _::_,_,_,_,_,_,h,_=>by simp[a1c]at h
 |.win _ _ _::_,_,_,_,_,_,h,_=>by simp[a1c]at h
 |.clo _ _ _::_,_,_,_,_,_,h,_=>by simp[a1c]at h
def c5f:Ex→Option Code
 |.normal=>none
 |.exit i=>some (.exit i)
 |.ret=>some .ret
def a4Q(st:LoopState)(pe:Option Code)(fn:FuncId)(tmps:Array Value)(i1 i2:Nat)(assign body:Code)(D:Nat):Loop:=
 { state:=st,pending:=pe,fn,tmps,params:=#[i1,i2],assign,body,defers:=D }
structure Between (B:Base) (N:Nat) (a:Act) (s:a0f) (t:Nat) (te:Ty) (l0:te.den) (l D:Nat) (r:Loop) (x:s.ty.den) (W:World):Prop where
 rel:∃σ,Rel B (s.enc x) N (a0p a) W σ
 seq:(s.enc x).get t=.val te l0
 loop:W.heap[l]?=some (.loop r)
 dfr:W.heap[D]?=some (.deferred (some []))
theorem c7i(hcx:CxOk P cx)(hG:GOk cx.G B)(hm:P.follows .mixedOrders=true)(hH:H.fits N=true){s:a0f}{i1 i2 p:Nat}{assign body:Code}(hfa:a2u N assign=true)(hfb:a2u N body=true)
  (hs:s.fits N=true)(hfl:a1c s=true)(hi1:i1<N)(hi2:i2<N){a:Act}(hN:a.tmps.size=N){fn:FuncId}{e te:Ty}{k:Int}{v:e.den}{ve:Value}{l0:te.den}{t l D:Nat}(ht:t<N){x:s.ty.den}{W:World}
  (hb:Between B N a s t te l0 l D (a4Q .ready none fn a.tmps i1 i2 assign body D) x W)(hv:∀Sh,VOk (cells W) Sh te l0 (a0p a t)→VOk (cells W) Sh e v ve)(hlB:B.size≤l)(hDl:D≠l){y:s.ty.den ⊕ (Ex×s.ty.den)}
  (hy:rnd cx H p s i1 i2 assign body e k v x=some y):
  RoundIn (Fr none) 0 P l fn ((a.tmps.setIfInBounds i1 (.int .i64 k)).setIfInBounds i2 ve) assign body W fun en W'=>
   (∃x',y=.inl x'∧en=.returned (.bool true)∧Between B N a s t te l0 l D (a4Q .ready none fn a.tmps i1 i2 assign body D) x' W')∨
   (∃ex c x',y=.inr (ex,x')∧c5f ex=some c∧en=.returned (.bool false)∧Between B N a s t te l0 l D (a4Q .done (some c) fn a.tmps i1 i2 assign body D) x' W'):=by
 obtain⟨⟨σ,h⟩,hseq,hl,hD⟩:=hb;have hov:=h.ov_none (a6c s x);have hsl:VOk (a0a W σ.ov) (Shr B W σ) te l0 (a0p a t):=by
  have:=a3T h ht
  rw[hseq]at this;exact this
 have hve:VOk (a0a W σ.ov) (Shr B W σ) e v ve:=by
  rw[hov]at hsl⊢;exact hv _ hsl
 let a1:Act:={ tmps:=(a.tmps.setIfInBounds i1 (.int .i64 k)).setIfInBounds i2 ve,defers:=[] }
 have h1:Rel B (((s.enc x).set i1 (.val (.int .i64) k)).set i2 (.val e v)) N (a0p a1) W σ:=by
  have g1:Rel B ((s.enc x).set i1 (.val (.int .i64) k)) N (a0p (a.put (some i1) (.int .i64 k))) W σ:=h.putd hN fun _=>a0j.mk_int (g:=σ.g) (rt:=(s.enc x).rt) _;have g2:Rel B (((s.enc x).set i1 (.val (.int .i64) k)).set i2 (.val e v)) N (a0p ((a.put (some i1) (.int .i64 k)).put (some i2) ve)) W σ:=g1.putd (by rw[b6g];omega) fun _=>hve;exact g2
 have hN1:a1.tmps.size=N:=by grind
 have hptr:∀(Γ2:AE),(s.names.all fun n=>(Γ2.rt n).isSome)=true→∀i n,i<N→(s.enc x).sl i=.one (.ptr n [])∨(s.enc x).sl i=.one (.sref n [])→Γ2.rt n≠none:=by
  intro Γ2 hall i n hi hsl;have hm:n∈s.names:=by
   rcases hsl with hsl|hsl
   have:=h.slots i hi
   rw[hsl]at this;obtain⟨r,-,-,-,hr,-⟩:=this
   grind[b8V]
   grind[b3P]
  grind
 have hown:∀i n,i<N→(s.enc x).sl i=.one (.sref n [])→∃u,σ.g n=.one u:=fun i n _ hsl=>by
  obtain⟨-,e,l,h2⟩:=b3P s x hfl hsl;rcases h.src_of h2 with⟨g,-⟩|⟨-,u,_,g,-⟩
  all_goals simp_all
 unfold rnd at hy;refine roundIn_of_wpIn trivial (wpIn_mono (b1e (ro:=some l) (D:=[]) hcx (hG.anew h1) hm hH assign _ hfa hy h1.anew hN1 rfl) ?_)
 rintro e2 a2 W2 ⟨ex,Γ2,σ2,rfl,hK,h2,hN2,hd2⟩
 cases ex with
 |exit i=>simp_all
 |ret=>simp_all
 |normal=>
  simp at hK
  split at hK
  rotate_left
  grind
  rename_i hpd2;obtain⟨hall,hK⟩:=(a0i hK).elim id fun h=>by grind
  have hov2:=h2.ov_none hpd2;obtain⟨k2,hown2⟩:Rel (B.anew W σ) { Γ2 with sl:=(s.enc x).sl } N (a0p a) W2 σ2∧_:=Rel.again h (fun i _=>b6a s x hfl i) (a6c s x) h2 hpd2 (hptr Γ2 hall) hown;have b2:=h1.back h2;have c2:=h.back k2;have v2:VOk (a0a W2 σ2.ov) (Shr B W2 σ2) te l0 (a0p a t):=VOk.run h h2 hov hov2 hsl;have hl2:=h1.others h2 hl rfl;have hD2:=h1.others h2 hD rfl;refine⟨_,run_beginRound hl2 rfl,?_⟩;have T3:Turns B W2 (W2.putObj l (.loop { a4Q .ready none fn a.tmps i1 i2 assign body D with state:=.busy })):=b2G hl2 rfl hlB _
  revert T3
  have hl3:(W2.putObj l (.loop { a4Q .ready none fn a.tmps i1 i2 assign body D with state:=.busy })).heap[l]?=some (.loop { a4Q .ready none fn a.tmps i1 i2 assign body D with state:=.busy }):=World.putObj_heap_same (a16.1 hl2).1;have hD3:(W2.putObj l (.loop { a4Q .ready none fn a.tmps i1 i2 assign body D with state:=.busy })).heap[D]?=some (.deferred (some [])):=(World.putObj_heap_other hDl).trans hD2
  revert hl3 hD3
  generalize W2.putObj l (.loop { a4Q .ready none fn a.tmps i1 i2 assign body D with state:=.busy })=W3;intro hl3 hD3 T3;have b3:=b2.turned T3;have c3:=c2.turned T3;have v3:VOk (a0a W3 σ2.ov) (Shr B W3 σ2) te l0 (a0p a t):=VOk.turned T3.cells T3.size v2;refine wpIn_mono (b1e (ro:=some l) (D:=[]) hcx (hG.anew b3) hm hH body _ hfb hK b3.anew hN2 hd2) ?_
  rintro e4 a4 W4 ⟨ex,Γ4,σ4,rfl,hK4,h4,hN4,-⟩
  simp[d3W]at hK4
  split at hK4
  rotate_left
  grind
  rename_i hpd4;obtain⟨hall4,hK4⟩:=(a0i hK4).elim id fun h=>by grind
  have hov4:=h4.ov_none hpd4;obtain⟨k4,-⟩:Rel (B.anew W3 σ2) { Γ4 with sl:=(s.enc x).sl } N (a0p a) W4 σ4∧_:=Rel.again (Γ:={ Γ2 with sl:=(s.enc x).sl }) c3 (fun i _=>b6a s x hfl i) hpd2 h4 hpd4 (hptr Γ4 hall4) hown2;have c4:=c3.back k4;have v4:VOk (a0a W4 σ4.ov) (Shr B W4 σ4) te l0 (a0p a t):=VOk.run b3 h4 hov2 hov4 v3;have hl4:=b3.others h4 hl3 rfl;have hD4:=b3.others h4 hD3 rfl;obtain⟨x',σ5,hK5,h5⟩:=c4.dcd hs hK4;have hov5:=h5.ov_none (a6c s x');have hseq':(s.enc x').get t=.val te l0:=by
   obtain⟨y',hy'⟩:=b6t s x x' hfl hseq
   have:=a3T h5 ht
   rw[hy']at this;have this:VOk (a0a W4 σ5.ov) (Shr B W4 σ5) te y' (a0p a t):=this
   grind[VOk.uniq]
  have fin:∀(jump:Option Code)(r':Loop),r'={ { a4Q .ready none fn a.tmps i1 i2 assign body D with state:=.busy }with state:=if jump.isNone then .ready else .done,pending:=jump }→
    (Instr.endRound l jump).run P W4=.ok (.bool jump.isNone) (W4.putObj l (.loop r'))∧Between B N a s t te l0 l D r' x' (W4.putObj l (.loop r')):=by
   rintro jump r' rfl
   refine⟨run_endRound jump hl4,⟨⟨σ5,h5.turned (b2G hl4 rfl hlB _)⟩,hseq',World.putObj_heap_same (a16.1 hl4).1,(World.putObj_heap_other hDl).trans hD4⟩⟩
  cases ex with
  |normal=>
   simp at hK5;obtain⟨g1,g2⟩:=fin none _ rfl;exact⟨_,_,g1,.inl ⟨x',hK5.symm,rfl,g2⟩⟩
  |exit i=>
   simp at hK5;obtain⟨g1,g2⟩:=fin (some (.exit i)) _ rfl;exact⟨_,_,g1,.inr ⟨_,_,x',hK5.symm,rfl,rfl,g2⟩⟩
  |ret=>
   simp at hK5;obtain⟨g1,g2⟩:=fin (some .ret) _ rfl;exact⟨_,_,g1,.inr ⟨_,_,x',hK5.symm,rfl,rfl,g2⟩⟩
def c9e(P:Program)(it:FuncId)(e:Ty):Prop:=
 (∀args w,(callFunc it args).run P w=.ok (.enter it args) w)∧
 ∀(l Bs:Nat)(sv:Value)(xs:List e.den)(J:Nat→World→Prop)(Jx:World→Prop)(W:World),xs.length<2147483648→
  (∀k W',J k W'→W'.cell? ⟨Bs,0,none⟩=some sv∧∃Sh,VOk (cells W') Sh (.list false e) xs sv)→
  (∀n (x:e.den) (v:Value) W',xs[n]?=some x→J (n+1) W'→(∀Sh,VOk (cells W') Sh (.list false e) xs sv→VOk (cells W') Sh e x v)→
   YieldAt (Fr none) 0 P l #[.int .i64 (n:Int),v] W' fun en W''=>(en=.returned (.bool true)∧J n W'')∨(en=.returned (.bool false)∧Jx W''))→
  J xs.length W→
  CallsIn (Fr none) 0 P it #[.func (.yield l) #[] #[],.pointer (some ⟨Bs,0,none⟩)] W fun en W'=>(∃v,en=.returned v)∧(J 0 W'∨Jx W')
def d3Y(P:Program)(mk it:FuncId):Prop:=
 b2B P mk∧∀(A:Option Addr)(len cap:Nat)(w:World),Calls P mk #[.slice A len cap] w fun en w'=>en=.returned (.func (.func it) #[] #[.pointer (some ⟨w.heap.size,0,none⟩)])∧∃ty,w'=w.alloc (.cells #[.slice A len cap] ty)
def yOf{S:Type}:S ⊕ (Ex×S)→Ex×S
 |.inl x=>(.normal,x)
 |.inr q=>q
theorem d0x(hcx:CxOk P cx)(hG:GOk cx.G B)(hm:P.follows .mixedOrders=true)(hH:H.fits N=true){s:a0f}{i1 i2 p:Nat}{assign body:Code}(hfa:a2u N assign=true)(hfb:a2u N body=true)
  (hs:s.fits N=true)(hfl:a1c s=true)(hi1:i1<N)(hi2:i2<N){a:Act}(hN:a.tmps.size=N){e:Ty}{l0:List e.den}{t g Bs it:Nat}(ht:t<N){x:s.ty.den}
  (h:Rel B (s.enc x) N (a0p a) w σ)(hseq:(s.enc x).get t=.val (.list false e) l0)(hg:a.eval (.tmp g)=.func (.func it) #[] #[.pointer (some ⟨Bs,0,none⟩)])(hit:c9e P it e)(hlen:l0.length<2147483648)
  (hcell:w.cell? ⟨Bs,0,none⟩=some (a0p a t))(hBs:Bs<B.size)(hBF:¬ B.F Bs){y:s.ty.den ⊕ (Ex×s.ty.den)}(hy:b4j (rnd cx H p s i1 i2 assign body e) l0 l0.length x=some y)(hd:a.defers=[]):
  (Code.rangeFunc (.tmp g) #[i1,i2] assign body).wpIn (Fr none) 0 P (fun en a' w'=>∃D,en=c1z (yOf y).1∧a'.tmps.size=N∧a'.defers=[{ target:=.collected D,args:=#[] }]∧B.size≤D∧
   w'.heap[D]?=some (.deferred (some []))∧∃σ',Rel B (s.enc (yOf y).2) N (a0p a') w' σ') a w:=by
 refine wpIn_rangeFunc ?_
 intro fn _;obtain⟨D,hDe⟩:∃D,w.heap.size=D:=⟨_,rfl⟩;obtain⟨W1,hW1⟩:∃W1,(w.alloc (.deferred (some []))).alloc (.loop (a4Q .ready none fn a.tmps i1 i2 assign body D))=W1:=⟨_,rfl⟩;have hsz:=h.size;have T1:Turns B w W1:=by
  rw[←hW1];have t1:=b8o (B:=B) hsz (.deferred (some []));have t2:=b8o (B:=B) (W:=w.alloc (.deferred (some []))) (by simp;omega) (.loop (a4Q .ready none fn a.tmps i1 i2 assign body D));exact⟨fun c o hc ho=>t2.cells c o (t1.cells c o hc ho) ho,a09 t1.size t2.size,fun b hb=>(t2.frame b hb).trans (t1.frame b hb),t2.io.trans t1.io⟩
 have hL1:W1.heap[D+1]?=some (.loop (a4Q .ready none fn a.tmps i1 i2 assign body D)):=by
  grind[World.alloc_heap_new,World.size_alloc]
 have hK1:W1.heap[D]?=some (.deferred (some [])):=by
  grind[RowKit.Below.heap_alloc,World.alloc_heap_new]
 have hB1:Between B N a s t (.list false e) l0 (D+1) D (a4Q .ready none fn a.tmps i1 i2 assign body D) x W1:=⟨⟨σ,h.turned T1⟩,hseq,hL1,hK1⟩;have hBsAll:∀{Γ' tm' W' σ'},Rel B Γ' N tm' W' σ'→W'.cell? ⟨Bs,0,none⟩=some (a0p a t):=fun {Γ' tm' W' σ'} h'=>by
  have e1:=h'.frame Bs hBs hBF;have e2:=h.frame Bs hBs hBF;simp_all[World.cell?]
 refine⟨D+1,[{ target:=.collected D,args:=#[] }],W1,{ target:=.fn (.func it) #[.pointer (some ⟨Bs,0,none⟩)],args:=#[.func (.yield (D+1)) #[] #[]] },W1,it,
  #[.func (.yield (D+1)) #[] #[],.pointer (some ⟨Bs,0,none⟩)],W1,?_,?_,fun _ _=>trivial,?_,fun h=>(by grind),?_⟩
 rw[←hW1,←hDe];exact run_enterLoop_outer _ _ _ _ _;simp only[resolve,hg];simp[go_sem]
 have:=hit.1 (#[.func (.yield (D+1)) #[] #[]]++#[.pointer (some ⟨Bs,0,none⟩)]) W1
 simp_all[invoke]
 ·refine(hit.2 (D+1) Bs (a0p a t) l0
   (fun n W=>∃x',b4j (rnd cx H p s i1 i2 assign body e) l0 n x'=some y∧Between B N a s t (.list false e) l0 (D+1) D (a4Q .ready none fn a.tmps i1 i2 assign body D) x' W)
   (fun W=>∃ex c x',y=.inr (ex,x')∧c5f ex=some c∧Between B N a s t (.list false e) l0 (D+1) D (a4Q .done (some c) fn a.tmps i1 i2 assign body D) x' W)
   W1 hlen ?_ ?_ ⟨x,hy,hB1⟩).mono ?_
  rintro k W' ⟨x',-,hb⟩
  obtain⟨⟨σ',h'⟩,hseq',-,-⟩:=hb;refine⟨hBsAll h',?_⟩
  have:=a3T h' ht
  rw[hseq',h'.ov_none (a6c s x')]at this;exact⟨_,this⟩
  rintro n xe v W' hx ⟨x',hy',hb⟩ hv
  have hyield:(Instr.yield (D+1) #[.int .i64 (n:Int),v]).run P W'=.ok (.round (D+1) fn ((a.tmps.setIfInBounds i1 (.int .i64 (n:Int))).setIfInBounds i2 v) assign body) W':=by
   have:=run_yield (P:=P) (args:=#[.int .i64 (n:Int),v]) hb.loop rfl
   simpa[a4Q]using this
  simp[b4j,hx]at hy'
  split at hy'
  grind
  rename_i s' hs';refine⟨_,_,_,_,hyield,(c7i hcx hG hm hH hfa hfb hs hfl hi1 hi2 hN ht hb hv (by omega) (by omega) hs').mono ?_⟩
  grind
  rename_i r hr;simp at hy';refine⟨_,_,_,_,hyield,(c7i hcx hG hm hH hfa hfb hs hfl hi1 hi2 hN ht hb hv (by omega) (by omega) hr).mono ?_⟩
  grind
  ·have hdone:∀{x' W2 st pe},Between B N a s t (.list false e) l0 (D+1) D (a4Q st pe fn a.tmps i1 i2 assign body D) x' W2→∀r',(W2.putObj (D+1) (.loop r')).heap[D]?=some (.deferred (some []))∧∃σ',Rel B (s.enc x') N (a0p a) (W2.putObj (D+1) (.loop r')) σ':=by
    rintro x' W2 st pe ⟨⟨σ',h'⟩,-,hl,hD⟩ r'
    exact⟨(World.putObj_heap_other (by omega)).trans hD,σ',h'.turned (b2G hl rfl (by omega) _)⟩
   rintro en W2 ⟨⟨v,rfl⟩,⟨x',hy',hb⟩|⟨ex,c,x',rfl,hc,hb⟩⟩
   simp[b4j]at hy';subst hy';refine⟨none,_,run_endLoop (P:=P) hb.loop (by simp[a4Q]),?_⟩;obtain⟨g1,g2⟩:=hdone hb { a4Q .ready none fn a.tmps i1 i2 assign body D with state:=.exhausted };exact⟨D,rfl,hN,by simp_all,by omega,g1,g2⟩
   ·refine⟨some c,_,run_endLoop (P:=P) hb.loop (by simp[a4Q]),?_⟩;obtain⟨g1,g2⟩:=hdone hb { a4Q .done (some c) fn a.tmps i1 i2 assign body D with state:=.exhausted };cases ex with
    |normal=>cases hc
    |exit i=>
     simp[c5f]at hc;subst hc;exact wpIn_exit ⟨D,rfl,hN,by simp_all,by omega,g1,g2⟩
    |ret=>
     simp[c5f]at hc;subst hc;exact wpIn_ret ⟨D,rfl,hN,by simp_all,by omega,g1,g2⟩
end
end Go.Ab
namespace Go.Ab
section
variable {P:Program} {B:Base} {N:Nat} {cx:Cx} {H:Hints} {r:HintR}
def c9f(B:Base)(ds:List Deferred)(w:World):Prop:=ds=[]∨∃D,ds=[{ target:=.collected D,args:=#[] }]∧B.size≤D∧w.heap[D]?=some (.deferred (some []))
def d2c{ρ:Type}(B:Base)(N:Nat)(K:Ex→AE→Rs ρ)(z:ρ):Exit→Act→World→Prop:=fun e a w=>
 ∃ex Γ σ,e=c1z ex∧K ex Γ=some z∧Rel B Γ N (a0p a) w σ∧a.tmps.size=N∧c9f B a.defers w
theorem c3g(hcx:CxOk P cx)(hG:GOk cx.G B)(hm:P.follows .mixedOrders=true)(hH:H.fits N=true){c:Code}{p:Nat}{ρ:Type}{Γ:AE}{K:Ex→AE→Rs ρ}{z:ρ}{a:Act}{w:World}{σ:Gh}(hf:a2u N c=true)
  (hz:a1S cx H c p Γ K=some z)(h:Rel B Γ N (a0p a) w σ)(hN:a.tmps.size=N)(hd:c9f B a.defers w):c.wpIn (Fr none) 0 P (d2c B N K z) a w:=by
 refine wpIn_mono (b1e (ro:=none) (D:=a.defers) hcx (hG.anew h) hm hH c p hf hz h.anew hN rfl) ?_
 rintro e a' w' ⟨ex,Γ',σ',rfl,hK,hr,hN',hD⟩
 refine⟨ex,Γ',σ',rfl,hK,h.back hr,hN',?_⟩;rcases hd with hd|⟨D,hd,hDs,hDc⟩;exact .inl (hD.trans hd);exact .inr ⟨D,hD.trans hd,hDs,h.others hr hDc rfl⟩
structure RangeOk (P:Program) (r:HintR):Prop where
 mkr:d3Y P r.mkr r.it
 it:c9e P r.it r.e
def d2d(N:Nat)(r:HintR)(q:RParts):Bool:=
 q.ops.toList.all (a9N N q.ops.toList)&&(a2u N q.assign&&(a2u N q.body&&(decide (q.i1<N)&&(decide (q.i2<N)&&(decide (q.g<N)&&(decide (r.t<N)&&(r.s.fits N&&r.t != q.g)))))))
theorem d2e{c1 c2:Code}{q:RParts}(h:b8W c1 c2=some q):∃id,c1=.region id q.ops false∧c2=.block q.b (.rangeFunc (.tmp q.g) #[q.i1,q.i2] q.assign q.body):=by
 unfold b8W at h
 split at h
 rename_i ps assign body
 split at h
 rename_i i1 i2 e;cases h;exact⟨_,rfl,by rw[show ps=#[i1,i2]from by grind]⟩;simp_all;simp_all
theorem d2f{o:Oper}{g:Nat}(h:c6t o r g=true):∃c,o.op=.call c∧c.callee=.value (.func r.mkr)∧c.args=#[.tmp r.t]∧o.dst=some g∧o.guard=none:=by
 unfold c6t at h
 split at h
 rename_i c hc
 split at h
 rename_i f t h1 h2;simp at h
 grind
 simp_all;simp_all
theorem c9g(hcx:CxOk P cx)(hG:GOk cx.G B)(hm:P.follows .mixedOrders=true)(hH:H.fits N=true)(hr:RangeOk P r)(hpin:∀i b,1000≤i→B.pin i≠some b){c1 c2:Code}{q:RParts}(hq:b8W c1 c2=some q)(hf:d2d N r q=true)
  {p:Nat}{ρ:Type}{Γ:AE}{K:Ex→AE→Rs ρ}{z:ρ}{a:Act}{w:World}{σ:Gh}(hz:c9d cx H r q p Γ K=some z)(h:Rel B Γ N (a0p a) w σ)(hN:a.tmps.size=N)(hd:a.defers=[]):
  (Code.seq c1 c2).wpIn (Fr none) 0 P (d2c B N K z) a w:=by
 obtain⟨id,rfl,rfl⟩:=d2e hq;simp only[d2d,bA,dT]at hf;obtain⟨hops,hfa,hfb,hi1,hi2,hg,ht,hs,htg⟩:=hf;have htg:r.t≠q.g:=by simp_all
 unfold c9d at hz
 split at hz
 rotate_left
 grind
 rename_i mv cl hl;obtain⟨hmk,hz⟩:=(a0i hz).elim _root_.id fun h=>by grind
 simp at hmk;obtain⟨hmk,hfl,hmg⟩:=hmk;obtain⟨c,ho,hce,hca,hdst,hgd⟩:=d2f hmk;refine wpIn_seq (wpIn_region_list ?_);have hops1:=b8j (lA.1 hops mv (by simp_all));rw[hl];simp only[wpListIn];rw[if_pos (by simp_all[Region.wanted])];refine b2D hcx hG h hN hops1 hz fun v w1 Γ1 σ1 h1 hz=>?_
 obtain⟨a1,ha1⟩:∃a1,a.put mv.dst v=a1:=⟨_,rfl⟩;have hN1:a1.tmps.size=N:=by grind[b6g]
 have hd1:a1.defers=[]:=by grind[b5I]
 rw[ha1]at h1⊢;rw[if_pos (by simp_all[Region.wanted])]
 split at hz
 grind
 rename_i hpd1

 obtain⟨fv,hfv⟩:∃fv,Value.func (.func r.it) #[] #[.pointer (some ⟨w1.heap.size,0,none⟩)]=fv:=⟨_,rfl⟩;have hg1:Rel B (Γ1.set q.g .dead) N (a0p (a1.put (some q.g) fv)) w1 σ1:=h1.putd hN1 fun _=>trivial;have htm:a0p (a1.put (some q.g) fv) r.t=a0p a1 r.t:=by simp_all[b6f]
 have core:∀{B':Base}{w2:World},(∀i b,1000≤i→B'.pin i≠some b)→Rel B' (Γ1.set q.g .dead) N (a0p (a1.put (some q.g) fv)) w2 σ1→∃(x:r.s.ty.den)(l0:List r.e.den)(y:r.s.ty.den ⊕ (Ex×r.s.ty.den)) (σ2:Gh),Rel B' (r.s.enc x) N (a0p (a1.put (some q.g) fv)) w2 σ2∧
   (r.s.enc x).get r.t=.val (.list false r.e) l0∧l0.length<2147483648∧b4j (rnd cx H (2*p+1) r.s q.i1 q.i2 q.assign q.body r.e) l0 l0.length x=some y∧
   (match y with
    |.inl x'=>K .normal (r.s.enc x')
    |.inr (.normal,x')=>K .normal (r.s.enc x')
    |.inr (.exit i,x')=>bif i==q.b then K .normal (r.s.enc x')else K (.exit i) (r.s.enc x')
    |.inr (.ret,x')=>K .ret (r.s.enc x'))=some z:=by
  intro B' w2 hp hr';obtain⟨Γ2,σ2,hz2,h2⟩:=Rel.renAll hp _ hr' hz;obtain⟨x,σ3,hz3,h3⟩:=h2.dcd hs hz2
  split at hz3
  rename_i t l hgt
  split at hz3
  rename_i he;subst he;obtain⟨hlim,hz3⟩:=(a0i hz3).elim _root_.id fun h=>by grind
  obtain⟨y,hy1,hy2⟩:=a08.1 hz3;exact⟨x,l,y,σ3,h3,hgt,of_decide_eq_true (show decide (a07 l<2147483648)=true from hlim),hy1,hy2⟩;simp_all;simp_all
 obtain⟨A,len,cap,hsv⟩:∃A len cap,a0p a1 r.t=.slice A len cap:=by
  obtain⟨x,l0,y,σ2,g1,g2,-⟩:=core hpin hg1
  have:=a3T g1 ht
  rw[g2,htm]at this;obtain⟨A,n,c,e,-⟩:=VOk.header this;simp_all
 refine c8L (fun c' hc'=>by simp_all) ?_
 rw[c8M hr.mkr.1 ho hce,Oper.uponIn_enter];refine⟨fun h=>(by grind),c8K ?_⟩;have hargs:c.args.map a1.eval=#[.slice A len cap]:=by
  rw[hca,←hsv];simp only[List.map_toArray,List.map_cons,a49];rfl
 rw[hargs];refine(hr.mkr.2 A len cap w1).mono ?_
 rintro en w2 ⟨rfl,ty,hw2⟩
 simp
 rw[hfv,hdst];have T:Turns B w1 w2:=by rw[hw2];exact b8o h1.size _
 have hg2:=hg1.turned T;have hB1:Rel { B.anew w2 σ1 with pin:=B.pin } (Γ1.set q.g .dead) N (a0p (a1.put (some q.g) fv)) w2 σ1:=hg2.anew.unpin B.pin fun i b hb=>by simp_all[Base.anew]
 obtain⟨x,l0,y,σ2,g1,g2,gl,g3,g4⟩:=core (B':={ B.anew w2 σ1 with pin:=B.pin }) hpin hB1;have hcell:w2.cell? ⟨w1.heap.size,0,none⟩=some (a0p (a1.put (some q.g) fv) r.t):=by
  simp_all
 have hsz2:w1.heap.size<w2.heap.size:=by simp_all
 refine wpIn_block (wpIn_mono (d0x (B:={ B.anew w2 σ1 with pin:=B.pin }) (a:=a1.put (some q.g) fv) (p:=2*p+1) (it:=r.it) (Bs:=w1.heap.size) hcx (hG.anew hg2) hm hH hfa hfb hs hfl hi1 hi2 (by rw[b6g];omega) ht g1 g2 ?_ hr.it gl hcell hsz2
  (fun ho=>Nat.lt_irrefl _ (h1.lt ho)) g3 (by simp_all[b5I])) ?_)
 show a0p (a1.put (some q.g) fv) q.g=_;rw[b6f _ (by omega),if_pos rfl,←hfv]
 ·rintro en a3 w3 ⟨D,rfl,hN3,hd3,hDs,hDc,σ3,hr3⟩
  have hDs:w2.heap.size≤D:=hDs;have hb3:Rel B (r.s.enc (yOf y).2) N (a0p a3) w3 σ3:=hg2.backP (fun _ _ h=>h) hr3;have hmk3:c9f B a3.defers w3:=.inr ⟨D,hd3,a09 hg2.size hDs,hDc⟩;cases y with
  |inl x'=>exact⟨.normal,_,σ3,rfl,g4,hb3,hN3,hmk3⟩
  |inr ex=>
   obtain⟨ex,x'⟩:=ex;cases ex with
   |normal=>exact⟨.normal,_,σ3,rfl,g4,hb3,hN3,hmk3⟩
   |ret=>exact⟨.ret,_,σ3,rfl,g4,hb3,hN3,hmk3⟩
   |exit i=>
    simp[yOf,c1z,Exit.inBlock];rcases a0i g4 with⟨hi,g4⟩|⟨hi,g4⟩;rw[if_pos (by simp_all)];exact⟨.normal,_,σ3,rfl,g4,hb3,hN3,hmk3⟩;rw[if_neg (by simp_all)];exact⟨.exit i,_,σ3,rfl,g4,hb3,hN3,hmk3⟩
def b2n(N:Nat)(r:HintR):Code→Bool
 |.seq a b=>match b8W a b with
  |some q=>d2d N r q
  |none=>bif a9S a then b2n N r a&&a2u N b else a2u N a&&b2n N r b
 |c=>a2u N c
theorem c9h(hcx:CxOk P cx)(hG:GOk cx.G B)(hm:P.follows .mixedOrders=true)(hH:H.fits N=true)(hr:RangeOk P r)(hpin:∀i b,1000≤i→B.pin i≠some b):∀(c:Code) (p:Nat){ρ:Type}{Γ:AE}{K:Ex→AE→Rs ρ}{z:ρ}{a:Act}{w:World}{σ:Gh}(_:b2n N r c=true)
  (_:b8X cx H r c p Γ K=some z) (_:Rel B Γ N (a0p a) w σ) (_:a.tmps.size=N) (_:a.defers=[]),c.wpIn (Fr none) 0 P (d2c B N K z) a w:=by
 intro c
 induction c with
 |seq x y ihx ihy=>
  intro p ρ Γ K z a w σ hf hz h hN hD;simp[b2n]at hf;simp[b8X]at hz
  split at hz
  grind[c9g]
  ·rename_i hq;rw[hq]at hf;simp only[]at hf;refine wpIn_seq ?_
   cases hx:a9S x with
   |true=>
    rw[hx]at hf hz;simp at hf hz;refine wpIn_mono (ihx _ hf.1 hz h hN hD) ?_
    rintro e a' w' ⟨ex,Γ',σ',rfl,hK,hr',hN',hD'⟩
    cases ex with
    |normal=>exact c3g hcx hG hm hH hf.2 hK hr' hN' hD'
    |exit i=>exact⟨.exit i,Γ',σ',rfl,hK,hr',hN',hD'⟩
    |ret=>exact⟨.ret,Γ',σ',rfl,hK,hr',hN',hD'⟩
   |false=>
    rw[hx]at hf hz;simp at hf hz;refine wpIn_mono (b1e (ro:=none) (D:=[]) hcx hG hm hH x _ hf.1 hz h hN hD) ?_
    rintro e a' w' ⟨ex,Γ',σ',rfl,hK,hr',hN',hD'⟩
    cases ex with
    |normal=>exact ihy _ hf.2 hK hr' hN' hD'
    |exit i=>exact⟨.exit i,Γ',σ',rfl,hK,hr',hN',.inl hD'⟩
    |ret=>exact⟨.ret,Γ',σ',rfl,hK,hr',hN',.inl hD'⟩
 |_=>
  intro p ρ Γ K z a w σ hf hz h hN hD;refine c3g hcx hG hm hH (p:=p) (Γ:=Γ) (σ:=σ) ?_ ?_ h hN (.inl hD);simpa only[b2n]using hf;simpa only[b8X]using hz
end
def d5X(fn:Func)(c:Code)(H:Hints)(r:HintR)(s:FSem):Bool:=
 b2n fn.ntmps r c&&(H.fits fn.ntmps&&(decide (s.ps.length≤fn.ntmps)&&(decide (s.ps.length≤1000)&&fn.results.toList.all fun r=>b1z fn.ntmps (.inl r))))
section
variable {P:Program} {cx:Cx}
theorem b6u:∀(ps:List PA)(i0 i:Nat),i∈a0I ps i0→i<i0+ps.length
 | [],_,_,h=>by simp[a0I]at h
 |.v _::ps,i0,i,h=>by
  have:=b6u ps (i0+1) i h
  grind
 |.r _ _::ps,i0,i,h=>by
  simp
  rcases mC.1 h with rfl|h;omega
  have:=b6u ps (i0+1) i h
  omega
theorem a4X.ofR(hcx:CxOk P cx)(hm:P.follows .mixedOrders=true){f:FuncId}{fn:Func}{c:Code}{H:Hints}{r:HintR}{s:FSem}(hro:RangeOk P r)(hfn:P.funcs[f]?=some fn)(hb:fn.body=some c)(hok:d5X fn c H r s=true)
  (heq:∀x,d2b cx H r fn s.ps s.rs x=s.F x):a4X P cx.G f s:=by
 simp only[d5X,bA,dT]at hok;obtain⟨hfit,hH,hps,hps1000,hres⟩:=hok;intro w B0 σ args x y hG hy hB hhp hov hargs hrel0 hpins0;obtain⟨B,hBe⟩:∃B:Base,{ B0 with pin:=fun i=>bif decide (i<1000)then B0.pin i else none }=B:=⟨_,rfl⟩;have hrel:Rel B (ini s.ps x) s.ps.length (fun i=>args.getD i undef) w σ:=by
  rw[←hBe];refine hrel0.unpin _ fun i b hb=>?_
  grind
 have hpin:∀i b,1000≤i→B.pin i≠some b:=by
  rw[←hBe]
  grind
 have hpins:c8n B s.ps args:=by
  intro i hi hk;obtain⟨b,h1,h2⟩:=hpins0 i hi hk;refine⟨b,?_,h2⟩;have hlt:i<s.ps.length:=by have:=b6u s.ps 0 i hi;omega
  have:decide (i<1000)=true:=by grind
  rw[←hBe];simp_all
 have hG:GOk cx.G B:=by rw[←hBe];exact hG
 have hback:∀{w' its vs Ls},Back B w' its vs Ls→Back B0 w' its vs Ls:=fun {w' its vs Ls} h=>by
  rw[←hBe]at h;exact⟨h.lv,h.ll,h.ok,h.nodup,h.disj,h.live,h.mine,h.size,h.frame,h.still⟩
 rw[←heq x]at hy;simp[d2b,hb]at hy
 let a:Act:={ tmps:=args++a29 (fn.ntmps-args.size) undef,defers:=[] }
 have hsz:a.tmps.size=fn.ntmps:=by grind
 have hrel':Rel B (ini s.ps x) fn.ntmps (a0p a) w σ:=by
  refine⟨hrel.roots,hrel.norm,hrel.nodup,hrel.disj,hrel.live,fun i hi=>?_,hrel.pend,hrel.size,hrel.frame,hrel.mine,hrel.pins,hrel.still⟩
  by_cases hlt:i<s.ps.length
  have:=hrel.slots i hlt
  have e:a0p a i=args.getD i undef:=by
   simp[a0p,a,a41];simp_all
  simp_all
  have:(ini s.ps x).sl i=.one .dead:=by
   simp_all[ini,a6L]
  rw[this];trivial
 refine callsIn_wide.1 (callsIn_of_wp_marks (F:=Fr none) (n:=0) hfn hb trivial (wpIn_mono (c9h hcx hG hm hH hro hpin c 1 hfit hy hrel' hsz rfl) ?_))
 rintro e a' w' ⟨ex,Γ',σ',rfl,hK,hr,hN,hD⟩
 simp at hK;have key:(∀i,ex≠.exit i)∧Γ'.pd=none∧(Γ'.upto fn.ntmps).outs cx [] fn.ntmps (RA.all s.ps s.rs) (fn.results.toList.map .inl++(a0I s.ps 0).map fun i=>.inr (b2w s.ps i)) (fun y _=>some y)=some y:=by
  grind
 obtain⟨hex,hpd,hK⟩:=key;have hleave:LeavesInM (Fr none) 0 P fn a'.tmps (fun e w'=>∃vr Ls,e=.returned (b9I vr)∧vr.length=s.rs.length∧Back B0 w' (a2A (RA.all s.ps s.rs) y) (vr++(a0I s.ps 0).map (a5i s.ps args)) Ls) a'.defers .returning w':=by
  rcases hD with hD|⟨D,hD,hDs,hDc⟩;rw[hD];obtain⟨v,hrun,vr,Ls,h1,h2,h3⟩:=b8n (args:=args) hcx.toCxTy hres hr hpd hK hpins;exact⟨v,hrun,vr,Ls,h1,h2,hback h3⟩;rw[hD];have hr':=hr.turned (b2G hDc rfl hDs (.deferred none));obtain⟨v,hrun,vr,Ls,h1,h2,h3⟩:=b8n (args:=args) hcx.toCxTy hres hr' hpd hK hpins;exact⟨by simp,.inl ⟨D,_,rfl,run_takeDeferred hDc,v,hrun,vr,Ls,h1,h2,hback h3⟩⟩
 cases ex with
 |exit i=>simp_all
 |normal=>exact hleave
 |ret=>exact hleave
end
end Go.Ab
